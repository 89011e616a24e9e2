import PyProof.Rows.All
import Wide.All
import OpenK.AllK
import Wide.FinOn
import Lean
import PySem.Challenge.RW_nn0409_01
set_option Elab.async false
set_option maxRecDepth 100000
set_option linter.all false
set_option genSizeOf false
set_option genInjectivity false
set_option genCtorIdx false
open PySem PySem.W PySem.Calls PyProof.Rows PySem.Challenge
namespace Nn.Internal
set_option tactic.hygienic false
section
inductive Ln where
 |v (i:Nat)
 |n (k:Nat)
 |z (k:Int)
 |c (x:Ln)
 |a (x y:Ln)
 |s (x y:Ln)
 |g (x:Ln)
 |m (k:Nat) (x:Ln)
 |p (k:Int) (x:Ln)
set_option genCtorIdx true in
inductive Lr where
 |nle|nlt|neq|nnle|nnlt|ile|ilt|ieq|inle|inlt
inductive Lc where
 |f
 |G (r:Lr) (k:Int) (x y:Ln)
 |E (r:Lr) (x y:Ln)
 |H (r:Lr) (k:Int) (x y:Ln) (t:Lc)
 |P (i:Nat) (k:Int) (t:Lc)
noncomputable abbrev W0:Ln:= .v 0
noncomputable abbrev X1:Ln:= .v 1
noncomputable abbrev X2:Ln:= .v 2
noncomputable abbrev X3:Ln:= .v 3
noncomputable abbrev X4:Ln:= .v 4
noncomputable abbrev X5:Ln:= .v 5
noncomputable abbrev Z0:Ln:= .z 0
noncomputable abbrev Z1:Ln:= .z 1
noncomputable abbrev U2:Ln:= .z 2
noncomputable abbrev W3:Ln:= .z 3
noncomputable abbrev Zm:Ln:= .z (-1)
noncomputable abbrev Y0:Ln:= .n 0
noncomputable abbrev Y1:Ln:= .n 1
noncomputable abbrev Y2:Ln:= .n 2
noncomputable abbrev Y3:Ln:= .n 3
noncomputable abbrev Y4:Ln:= .n 4
noncomputable abbrev Yb:Ln:= .n 1048576
noncomputable abbrev Yc:Ln:= .n 100
noncomputable abbrev Ha:Ln→Ln→Lc→Lc:= .H .ile 1
noncomputable abbrev Hb:Ln→Ln→Lc→Lc:= .H .nle 1
noncomputable abbrev Hc:Ln→Ln→Lc→Lc:= .H .neq 1
noncomputable abbrev Hd:Ln→Ln→Lc→Lc:= .H .neq (-1)
noncomputable abbrev He:Ln→Ln→Lc→Lc:= .H .ieq 1
noncomputable abbrev Hf:Ln→Ln→Lc→Lc:= .H .ieq (-1)
noncomputable abbrev Hg:Ln→Ln→Lc→Lc:= .H .nlt 1
noncomputable abbrev Hh:Ln→Ln→Lc→Lc:= .H .ilt 1
noncomputable abbrev Ga:Ln→Ln→Lc:= .G .ile 1
noncomputable abbrev Gb:Ln→Ln→Lc:= .G .nle 1
noncomputable abbrev Gc:Ln→Ln→Lc:= .G .nlt 1
noncomputable abbrev Gd:Ln→Ln→Lc:= .G .ilt 1
noncomputable abbrev Ge:Ln→Ln→Lc:= .E .ieq
noncomputable abbrev Gf:Ln→Ln→Lc:= .E .neq
noncomputable def pad(p:List Int):List Int→List Int:=p.rec (fun q=>q) fun a p f q=>q.rec (a::p) fun b q _=>(a+b)::f q
noncomputable def E7(k:Int)(p:List Int):List Int:=p.rec [] fun a _ r=>(k*a)::r
noncomputable def LD(i:Nat):List Int:=i.rec [1] fun _ r=>0::r
noncomputable def Xp(p:List Int):Bool:=p.rec true fun a _ r=>(decide (a=0)).rec false r
noncomputable def Xq(p:List Int):Bool:=p.rec false fun a p _=>(decide (a<0)).rec false (Xp p)
noncomputable def dot(σ:Nat→Int)(p:List Int):Nat→Int:=p.rec (fun _=>0) fun a _ r i=>a*σ i+r (i+1)
noncomputable def lnN(l:List Nat)(x:Ln):Nat:=
 x.rec (fun i=>l.getD i 0) (fun k=>k) (fun _=>0) (fun _ _=>0) (fun _ _ a b=>a+b) (fun _ _ _ _=>0) (fun _ _=>0) (fun k _ a=>k*a) fun _ _ _=>0
noncomputable def lnI(l:List Nat)(is:List Int)(x:Ln):Int:=
 x.rec (fun i=>is.getD i 0) (fun _=>0) (fun k=>k) (fun x _=>(lnN l x:Int)) (fun _ _ a b=>a+b) (fun _ _ a b=>a-b) (fun _ a=> -a) (fun _ _ _=>0) fun k _ a=>k*a
noncomputable def pN(x:Ln):List Int:=
 x.rec (fun i=>LD (2*i+1)) (fun k=>[(k:Int)]) (fun _=>[]) (fun _ _=>[]) (fun _ _ a b=>pad a b) (fun _ _ _ _=>[]) (fun _ _=>[]) (fun k _ a=>E7 k a) fun _ _ _=>[]
noncomputable def pI(x:Ln):List Int:=
 x.rec (fun i=>LD (2*i+2)) (fun _=>[]) (fun k=>[k]) (fun x _=>pN x) (fun _ _ a b=>pad a b) (fun _ _ a b=>pad a (E7 (-1) b)) (fun _ a=>E7 (-1) a) (fun _ _ _=>[]) fun k _ a=>E7 k a
noncomputable def lrD(l:List Nat)(is:List Int)(x y:Ln)(r:Lr):Prop:=
 r.rec (lnN l x≤lnN l y) (lnN l x<lnN l y) (lnN l x=lnN l y) (¬lnN l x≤lnN l y) (¬lnN l x<lnN l y)
  (lnI l is x≤lnI l is y) (lnI l is x<lnI l is y) (lnI l is x=lnI l is y) (¬lnI l is x≤lnI l is y) (¬lnI l is x<lnI l is y)
noncomputable def lcD(l:List Nat)(is:List Int)(c:Lc):Prop:=
 c.rec False (fun r _ x y=>lrD l is x y r) (fun r x y=>lrD l is x y r) (fun r _ x y _ t=>lrD l is x y r→t) fun _ _ _ t=>t
noncomputable def dfn(x y:List Int)(k:Int):List Int:=pad (pad y (E7 (-1) x)) [k]
noncomputable def lrP(x y:Ln)(r:Lr):List Int:=
 r.rec (dfn (pN x) (pN y) 0) (dfn (pN x) (pN y) (-1)) (dfn (pN x) (pN y) 0) (dfn (pN y) (pN x) (-1)) (dfn (pN y) (pN x) 0)
  (dfn (pI x) (pI y) 0) (dfn (pI x) (pI y) (-1)) (dfn (pI x) (pI y) 0) (dfn (pI y) (pI x) (-1)) (dfn (pI y) (pI x) 0)
noncomputable def isE(r:Lr):Bool:=r.rec false false true false false false false true false false
noncomputable def chk(c:Lc):Bool→List Int→Bool:=
 c.rec (fun _ p=>Xq p) (fun r k x y _ p=>(isE r).rec ((decide (0≤k)).rec false (Xq (pad p (E7 k (pad [-1] (E7 (-1) (lrP x y r))))))) false)
  (fun r x y b p=>(isE r).rec false (b.rec false (Xp (pad p (E7 (-1) (lrP x y r))))))
  (fun r k x y _ t b p=>(isE r).rec ((decide (0≤k)).rec false (t false (pad p (E7 k (lrP x y r))))) (t b (pad p (E7 k (lrP x y r)))))
  fun i k _ t _ p=>(decide (0≤k)).rec false (t false (pad p (E7 k (LD (2*i+1)))))
theorem Rg{p:Prop}[Decidable p]{b:Bool}(h:((decide p).rec false b:Bool)=true):p∧b=true:=by
 by_cases q:p
 ·rw[decide_eq_true q]at h;exact⟨q,h⟩
 ·rw[decide_eq_false q]at h;cases h
section
variable{σ:Nat→Int}
theorem CK:∀(p q:List Int) (i:Nat),dot σ (pad p q) i=dot σ p i+dot σ q i
 |[],q,i=>(Int.zero_add _).symm
 |a::p,[],i=>(Int.add_zero _).symm
 |a::p,b::q,i=>by
  have h:(a+b)*σ i+dot σ (pad p q) (i+1)=a*σ i+dot σ p (i+1)+(b*σ i+dot σ q (i+1)):=by
   rw[CK p q,Int.add_mul,Int.add_assoc,Int.add_assoc,Int.add_left_comm (b*_)]
  exact h
theorem CL(k:Int):∀(p:List Int) (i:Nat),dot σ (E7 k p) i=k*dot σ p i
 |[],i=>(Int.mul_zero _).symm
 |a::p,i=>by
  have h:k*a*σ i+dot σ (E7 k p) (i+1)=k*(a*σ i+dot σ p (i+1)):=by rw[CL k p,Int.mul_add,Int.mul_assoc]
  exact h
theorem En:∀(n i:Nat),dot σ (LD n) i=σ (i+n)
 |0,i=>by
  have h:1*σ i+0=σ i:=by rw[Int.one_mul,Int.add_zero]
  exact h
 |n+1,i=>by
  have h:0*σ i+dot σ (LD n) (i+1)=σ (i+(n+1)):=by rw[En n,Int.zero_mul,Int.zero_add,Nat.add_right_comm,Nat.add_assoc]
  exact h
theorem Jg:∀(p:List Int) (i:Nat),Xp p=true→dot σ p i=0
 |[],i,_=>rfl
 |a::p,i,h=>by
  obtain⟨h1,h2⟩:=Rg (p:=a=0) h
  have e:a*σ i+dot σ p (i+1)=0:=by rw[h1,Jg p _ h2,Int.zero_mul];rfl
  exact e
end
noncomputable def sig(l:List Nat)(is:List Int)(i:Nat):Int:=(i%2).rec (i.rec 1 fun _ _=>is.getD (i/2-1) 0) fun _ _=>(l.getD (i/2) 0:Nat)
section
variable{l:List Nat}{is:List Int}
theorem Ua(i:Nat):sig l is (2*i+1)=(l.getD i 0:Nat):=by
 unfold sig;rw[Nat.mul_add_mod,Nat.mul_add_div (by decide)];rfl
theorem Y6(i:Nat):sig l is (2*i+2)=is.getD i 0:=by
 unfold sig;rw[Nat.mul_add_mod,Nat.mul_add_div (by decide)];rfl
theorem Gi(k:Int):dot (sig l is) [k] 0=k:=by
 have h:k*1+0=k:=by rw[Int.mul_one,Int.add_zero]
 exact h
theorem dN(x:Ln):dot (sig l is) (pN x) 0=(lnN l x:Int):=by
 induction x with
 |v i=>exact(En _ _).trans ((congrArg _ (Nat.zero_add _)).trans (Ua i))
 |n k=>exact Gi _
 |a x y h g=>exact(CK _ _ _).trans (h▸g▸rfl)
 |m k x h=>exact(CL _ _ _).trans (h▸rfl)
 |_=>rfl
theorem dI(x:Ln):dot (sig l is) (pI x) 0=lnI l is x:=by
 induction x with
 |v i=>exact(En _ _).trans ((congrArg _ (Nat.zero_add _)).trans (Y6 i))
 |z k=>exact Gi _
 |c x=>exact dN x
 |a x y h g=>exact(CK _ _ _).trans (h▸g▸rfl)
 |s x y h g=>exact(CK _ _ _).trans ((CL (-1) _ _).symm▸h▸g▸(Int.neg_one_mul _).symm▸rfl)
 |g x h=>exact(CL _ _ _).trans (h▸Int.neg_one_mul _)
 |p k x h=>exact(CL _ _ _).trans (h▸rfl)
 |_=>rfl
theorem Vb{x y:List Int}{k:Int}:dot (sig l is) (dfn x y k) 0=dot (sig l is) y 0-dot (sig l is) x 0+k:=by
 rw[dfn,CK,CK,CL,Gi,Int.neg_one_mul];rfl
theorem nft{C:Prop}(h:false=true):C:=Bool.noConfusion h
theorem sb1{a b:Int}(h:a≤b):0≤b-a+0:=(Int.add_zero _).symm▸Int.sub_nonneg_of_le h
theorem sb2{a b:Int}(h:a<b):0≤b-a+ -1:=Int.sub_nonneg_of_le (Int.sub_pos_of_lt h)
theorem sb3{a b:Int}(h:a=b):b-a+0=0:=h▸(Int.add_zero _).trans (Int.sub_self _)
theorem bs1{a b:Int}(h:0≤b-a+0):a≤b:=Int.le_of_sub_nonneg (Int.add_zero (b-a)▸h)
theorem bs2{a b:Int}(h:0≤b-a+ -1):a<b:=Int.lt_of_sub_pos (Int.le_of_sub_nonneg (show 0≤b-a-1 from h))
theorem bs3{a b:Int}(h:b-a+0=0):a=b:=(Int.eq_of_sub_eq_zero ((Int.add_zero _).symm.trans h)).symm
theorem ZS{x y:Ln}{r:Lr}(h:lrD l is x y r):0≤dot (sig l is) (lrP x y r) 0∧(isE r=true→dot (sig l is) (lrP x y r) 0=0):=by
 cases r<;>simp only[lrD]at h<;>simp only[lrP,Vb,dN,dI]
 ·exact⟨sb1 (Int.ofNat_le.mpr h),nft⟩
 ·exact⟨sb2 (Int.ofNat_lt.mpr h),nft⟩
 ·exact⟨sb1 (Int.ofNat_le.mpr (Nat.le_of_eq h)),fun _=>sb3 (congrArg _ h)⟩
 ·exact⟨sb2 (Int.ofNat_lt.mpr (Nat.lt_of_not_le h)),nft⟩
 ·exact⟨sb1 (Int.ofNat_le.mpr (Nat.le_of_not_lt h)),nft⟩
 ·exact⟨sb1 h,nft⟩
 ·exact⟨sb2 h,nft⟩
 ·exact⟨sb1 (Int.le_of_eq h),fun _=>sb3 h⟩
 ·exact⟨sb2 (Int.lt_of_not_ge h),nft⟩
 ·exact⟨sb1 (Int.not_lt.mp h),nft⟩
theorem Uj{x y:Ln}{r:Lr}(h:isE r=false→0≤dot (sig l is) (lrP x y r) 0)(h':isE r=true→dot (sig l is) (lrP x y r) 0=0):lrD l is x y r:=by
 cases r<;>(first|replace h':=h' rfl|replace h:=h rfl)<;>simp only[lrP,Vb,dN,dI]at h h'<;>simp only[lrD]
 ·exact Int.ofNat_le.mp (bs1 h)
 ·exact Int.ofNat_lt.mp (bs2 h)
 ·exact Int.ofNat_inj.mp (bs3 h')
 ·exact Nat.not_le_of_lt (Int.ofNat_lt.mp (bs2 h))
 ·exact Nat.not_lt_of_le (Int.ofNat_le.mp (bs1 h))
 ·exact bs1 h
 ·exact bs2 h
 ·exact bs3 h'
 ·exact Int.not_le_of_gt (bs2 h)
 ·exact Int.not_lt.mpr (bs1 h)
theorem QR{p:List Int}(h:Xq p=true)(g:0≤dot (sig l is) p 0):False:=by
 cases p with
 |nil=>cases h
 |cons a p=>
  obtain⟨h1,h2⟩:=Rg (p:=a<0) h
  have e:dot (sig l is) (a::p) 0=a*1+dot (sig l is) p 1:=rfl
  rw[e,Jg _ _ h2,Int.mul_one,Int.add_zero]at g
  exact Int.not_lt.mpr g h1
theorem RG{p q:List Int}{k:Int}(g:0≤dot (sig l is) p 0)(hk:0≤k)(h:0≤dot (sig l is) q 0):0≤dot (sig l is) (pad p (E7 k q)) 0:=by
 rw[CK,CL];exact Int.add_nonneg g (Int.mul_nonneg hk h)
theorem cG{p q:List Int}{k:Int}(h:dot (sig l is) q 0=0):dot (sig l is) (pad p (E7 k q)) 0=dot (sig l is) p 0:=by
 rw[CK,CL,h,Int.mul_zero,Int.add_zero]
theorem lin(c:Lc):∀(b:Bool) (p:List Int),chk c b p=true→0≤dot (sig l is) p 0→(b=true→dot (sig l is) p 0=0)→lcD l is c:=by
 induction c with
 |f=>exact fun b p h g _=>QR h g
 |G r k x y=>
  intro b p h g _
  unfold chk at h
  dsimp only at h
  refine Uj (fun e=> ?_) fun e=> ?_
  ·rw[e]at h
   obtain⟨h1,h2⟩:=Rg h
   refine Int.not_lt.mp fun q=>QR h2 (RG g h1 ?_)
   rw[CK,CL,Gi];omega
  ·rw[e]at h;cases h
 |E r x y=>
  intro b p h _ g
  unfold chk at h
  dsimp only at h
  cases e:isE r with
  |false=>rw[e]at h;cases h
  |true=>
   rw[e]at h
   cases b with
   |false=>cases h
   |true=>
    have h1:=Jg (σ:=sig l is) _ 0 h
    rw[CK,CL,g rfl]at h1
    exact Uj (fun q=>nomatch e.symm.trans q) fun _=>by omega
 |H r k x y t ih=>
  intro b p h g e q
  have q:=ZS q
  unfold chk at h
  dsimp only at h
  cases i:isE r with
  |true=>rw[i]at h;exact ih _ _ h (le_of_le_of_eq g (cG (q.2 i)).symm) fun hb=>(cG (q.2 i)).trans (e hb)
  |false=>
   rw[i]at h
   obtain⟨h1,h2⟩:=Rg h
   exact ih _ _ h2 (RG g h1 q.1) (by intro xx;contradiction)
 |P i k t ih=>
  intro b p h g e
  obtain⟨h1,h2⟩:=Rg h
  refine ih _ _ h2 (RG g h1 ?_) (by intro xx;contradiction)
  rw[En,Nat.zero_add,Ua]
  exact Int.natCast_nonneg _
end
section
variable{a b c d e f:Nat}{i j k m n:Int}(q:Lc)(h:chk q true []=true)
include h
theorem l00:lcD [] [] q:=lin q _ _ h (Int.le_refl _) fun _=>rfl
theorem l10:lcD [a] [] q:=lin q _ _ h (Int.le_refl _) fun _=>rfl
theorem l20:lcD [a,b] [] q:=lin q _ _ h (Int.le_refl _) fun _=>rfl
theorem l30:lcD [a,b,c] [] q:=lin q _ _ h (Int.le_refl _) fun _=>rfl
theorem l40:lcD [a,b,c,d] [] q:=lin q _ _ h (Int.le_refl _) fun _=>rfl
theorem l01:lcD [] [i] q:=lin q _ _ h (Int.le_refl _) fun _=>rfl
theorem l02:lcD [] [i,j] q:=lin q _ _ h (Int.le_refl _) fun _=>rfl
theorem l03:lcD [] [i,j,k] q:=lin q _ _ h (Int.le_refl _) fun _=>rfl
theorem l04:lcD [] [i,j,k,m] q:=lin q _ _ h (Int.le_refl _) fun _=>rfl
theorem l11:lcD [a] [i] q:=lin q _ _ h (Int.le_refl _) fun _=>rfl
theorem l12:lcD [a] [i,j] q:=lin q _ _ h (Int.le_refl _) fun _=>rfl
theorem l13:lcD [a] [i,j,k] q:=lin q _ _ h (Int.le_refl _) fun _=>rfl
theorem l21:lcD [a,b] [i] q:=lin q _ _ h (Int.le_refl _) fun _=>rfl
theorem l22:lcD [a,b] [i,j] q:=lin q _ _ h (Int.le_refl _) fun _=>rfl
theorem l23:lcD [a,b] [i,j,k] q:=lin q _ _ h (Int.le_refl _) fun _=>rfl
theorem l31:lcD [a,b,c] [i] q:=lin q _ _ h (Int.le_refl _) fun _=>rfl
theorem l32:lcD [a,b,c] [i,j] q:=lin q _ _ h (Int.le_refl _) fun _=>rfl
theorem l33:lcD [a,b,c] [i,j,k] q:=lin q _ _ h (Int.le_refl _) fun _=>rfl
theorem l41:lcD [a,b,c,d] [i] q:=lin q _ _ h (Int.le_refl _) fun _=>rfl
theorem l42:lcD [a,b,c,d] [i,j] q:=lin q _ _ h (Int.le_refl _) fun _=>rfl
theorem l50:lcD [a,b,c,d,e] [] q:=lin q _ _ h (Int.le_refl _) fun _=>rfl
theorem l60:lcD [a,b,c,d,e,f] [] q:=lin q _ _ h (Int.le_refl _) fun _=>rfl
theorem l51:lcD [a,b,c,d,e] [i] q:=lin q _ _ h (Int.le_refl _) fun _=>rfl
theorem l14:lcD [a] [i,j,k,m] q:=lin q _ _ h (Int.le_refl _) fun _=>rfl
theorem l24:lcD [a,b] [i,j,k,m] q:=lin q _ _ h (Int.le_refl _) fun _=>rfl
theorem l05:lcD [] [i,j,k,m,n] q:=lin q _ _ h (Int.le_refl _) fun _=>rfl
theorem l43:lcD [a,b,c,d] [i,j,k] q:=lin q _ _ h (Int.le_refl _) fun _=>rfl
theorem l34:lcD [a,b,c] [i,j,k,m] q:=lin q _ _ h (Int.le_refl _) fun _=>rfl
end
theorem iln{a b:Int}(h:a≤b)(n:a≠b):a<b:=(Int.lt_iff_le_and_ne.mpr ⟨h,n⟩)
theorem Eb:(9223372036854775808:Int)≤2^63:=by decide+kernel
theorem UG:(4611686018427387904:Int)≤2^62:=by decide+kernel
theorem nab{x:Int}(h: -1000000≤x∧x≤1000000):x.natAbs<2^20:=by omega
theorem Ok{x:Int}(h: -1000000≤x∧x≤1000000):x.natAbs<2^60:=Nat.lt_trans (nab h) (by decide)
theorem d8{x:Int}(h: -1000000≤x∧x≤1000000):x.natAbs<2^29:=Nat.lt_trans (nab h) (by decide)
theorem na6{n:Nat}(h:n≤63):(n:Int).natAbs<2^6:=Nat.lt_succ_of_le h
theorem hid{P:Prop}(h:∀G:Prop,(P→G)→G):P:=h P id
end
set_option autoImplicit true
set_option tactic.hygienic true
noncomputable def nm(k:Nat):Str:=⟨⟨List.getD [[60,109,111,100,117,108,101,62],[47,99,108,97,105,109,47,99,117,116,46,112,121],[95,95,109,97,105,110,95,95],[95,95,110,97,109,101,95,95],[103,114,97,109,109,97,114,109,105,108,108,46,100,102,97],[95,95,100,111,99,95,95],[95,95,112,97,99,107,97,103,101,95,95],[95,95,108,111,97,100,101,114,95,95],[95,95,115,112,101,99,95,95],[95,95,97,110,110,111,116,97,116,105,111,110,115,95,95],[95,95,98,117,105,108,116,105,110,115,95,95],[95,95,102,105,108,101,95,95],[95,95,99,97,99,104,101,100,95,95],[95,119,97,108,108],[115,112,114,101,97,100],[68,69,65,68],[107],[108,105,110,107,115],[115,101,101,100,115],[115,101,101,110],[115,101,101,100],[119,97,105,116,105,110,103],[112,108,97,99,101],[103,111,97,108],[103,114,97,109,109,97,114,109,105,108,108,46,110,102,97],[68,102,97],[101,110,100,105,110,103,115],[95,95,109,111,100,117,108,101,95,95],[95,95,113,117,97,108,110,97,109,101,95,95],[95,95,102,105,114,115,116,108,105,110,101,110,111,95,95],[95,95,105,110,105,116,95,95],[99,108,97,115,115,95,99,111,117,110,116],[115,116,97,116,101,95,99,111,117,110,116],[115,116,101,112],[116,111,108,100],[95,95,115,116,97,116,105,99,95,97,116,116,114,105,98,117,116,101,115,95,95],[115,101,108,102],[114,111,119,115],[116,97,103,115],[68,102,97,46,95,95,105,110,105,116,95,95],[68,102,97,46,99,108,97,115,115,95,99,111,117,110,116],[68,102,97,46,115,116,97,116,101,95,99,111,117,110,116],[115,116,97,116,101],[110,117,109,98,101,114],[68,102,97,46,115,116,101,112],[68,102,97,46,108,105,110,107,115],[68,102,97,46,116,111,108,100],[95,95,100,105,99,116,95,95],[95,95,119,101,97,107,114,101,102,95,95],[100,102,97],[110,117,109,98,101,114,115],[97,116],[102,111,117,110,100],[101,110,100],[103,114,97,109,109,97,114,109,105,108,108,46,108,101,120,109,97,107,101],[114,101,97,99,104,97,98,108,101],[98,97,99,107,115,95,117,112],[67,117,116],[119,97,121],[108,101,110,103,116,104],[102,114,111,110,116],[98,97,99,107],[67,117,116,46,95,95,105,110,105,116,95,95],[76,101,120,84,97,98,108,101,115],[97,110,121,95,114,101,106,101,99,116],[97,117,116,111,109,97,116,111,110],[115,116,101,112,115],[101,110,100,95,114,117,108,101],[108,105,118,101,95,114,117,108,101,115],[99,108,97,115,115,101,115],[110,97,109,101,115],[97,117,116,111,109,97,116,97],[114,117,108,101,115],[99,117,116,115],[101,110,100,115],[104,97,115,95,100,101,102,97,117,108,116],[76,101,120,84,97,98,108,101,115,46,95,95,105,110,105,116,95,95],[99,111,110,100,105,116,105,111,110],[98,101,103,105,110,115],[76,101,120,84,97,98,108,101,115,46,97,117,116,111,109,97,116,111,110],[76,101,120,84,97,98,108,101,115,46,115,116,101,112,115],[76,101,120,84,97,98,108,101,115,46,101,110,100,95,114,117,108,101],[76,101,120,84,97,98,108,101,115,46,108,105,118,101,95,114,117,108,101,115],[101,110,100,95,114,117,108,101,115],[104,97,115,95,114,101,106,101,99,116],[114,117,108,101],[103,114,97,109,109,97,114,109,105,108,108,46,115,111,117,114,99,101],[105,115,95,102,105,110,97,108],[99,117,116,95,108,101,110,103,116,104],[115,101,97,114,99,104,101,100,95,99,117,116],[117,110,117,115,101,100,95,114,117,108,101,115],[100,101,102,97,117,108,116,95,112,108,97,99,101,115],[98,97,99,107,105,110,103,95,117,112],[114,101,109,97,114,107,115],[116,97,98,108,101,115],[114,117,108,101,95,110,117,109,98,101,114],[99,117,116],[99,111,117,110,116],[102,105,116,115,95,102,114,111,109],[98,101,115,116],[114,101,115,117,108,116],[107,101,121],[117,110,117,115,101,100],[80,111,115,105,116,105,111,110],[112,111,115,105,116,105,111,110,95,111,102],[111,102,102,115,101,116],[108,105,110,101],[99,111,108,117,109,110],[80,111,115,105,116,105,111,110,46,95,95,105,110,105,116,95,95],[80,111,115,105,116,105,111,110,46,116,111,108,100],[116,101,120,116],[98,101,103,117,110],[104,101,114,101],[116,121,112,101,46,95,95,115,117,98,99,108,97,115,115,101,115,95,95,46,69,120,99,101,112,116,105,111,110,46,48],[116,121,112,101,46,95,95,115,117,98,99,108,97,115,115,101,115,95,95,46,69,120,99,101,112,116,105,111,110,46,110],[84,111,111,108,69,114,114,111,114],[119,104,97,116],[84,111,111,108,69,114,114,111,114,46,95,95,105,110,105,116,95,95],[84,111,111,108,69,114,114,111,114,46,116,111,108,100],[84,97,98,108,101,69,114,114,111,114],[83,99,97,110,69,114,114,111,114],[103,114,97,109,109,97,114,109,105,108,108,46,99,104,97,114,115,101,116],[84,111,107,101,110],[101,110,100,95,116,111,107,101,110],[84,79,80],[105,115,95,101,110,100],[107,105,110,100],[119,111,114,116,104],[84,111,107,101,110,46,95,95,105,110,105,116,95,95],[84,111,107,101,110,46,116,111,108,100],[84,111,107,101,110,46,105,115,95,101,110,100],[67,104,97,114,83,101,116],[110,111,110,101],[101,118,101,114,121],[100,111,116],[111,102],[115,112,97,110],[109,97,100,101],[104,97,115],[115,105,122,101],[99,111,100,101,115],[108,101,97,115,116],[105,115,95,101,109,112,116,121],[117,110,105,111,110],[109,101,101,116],[99,111,109,112,108,101,109,101,110,116],[109,105,110,117,115],[115,97,109,101],[109,101,101,116,115],[102,111,108,100,101,100],[115,112,97,110,115],[67,104,97,114,83,101,116,46,95,95,105,110,105,116,95,95],[67,104,97,114,83,101,116,46,110,111,110,101],[67,104,97,114,83,101,116,46,101,118,101,114,121],[67,104,97,114,83,101,116,46,100,111,116],[67,104,97,114,83,101,116,46,111,102],[108,111,119],[104,105,103,104],[67,104,97,114,83,101,116,46,115,112,97,110],[112,97,105,114,115],[107,101,112,116],[102,105,114,115,116],[108,97,115,116],[67,104,97,114,83,101,116,46,109,97,100,101],[99,111,100,101],[108,101,102,116],[114,105,103,104,116],[109,105,100,100,108,101],[67,104,97,114,83,101,116,46,104,97,115],[67,104,97,114,83,101,116,46,115,105,122,101],[67,104,97,114,83,101,116,46,99,111,100,101,115],[67,104,97,114,83,101,116,46,108,101,97,115,116],[67,104,97,114,83,101,116,46,105,115,95,101,109,112,116,121],[111,116,104,101,114],[67,104,97,114,83,101,116,46,117,110,105,111,110],[67,104,97,114,83,101,116,46,109,101,101,116],[67,104,97,114,83,101,116,46,99,111,109,112,108,101,109,101,110,116],[67,104,97,114,83,101,116,46,109,105,110,117,115],[67,104,97,114,83,101,116,46,115,97,109,101],[67,104,97,114,83,101,116,46,109,101,101,116,115],[67,104,97,114,83,101,116,46,102,111,108,100,101,100],[67,104,97,114,83,101,116,46,107,101,121],[67,108,97,115,115,101,115],[102,114,111,109,95,98,111,117,110,100,115],[109,97,115,107],[99,104,97,114,115,101,116],[116,97,98,108,101],[119,111,114,100],[115,101,116,115],[116,117,114,110,115],[107,110,111,119,110],[104,111,108,100,101,114,115],[67,108,97,115,115,101,115,46,95,95,105,110,105,116,95,95],[98,111,117,110,100,115],[67,108,97,115,115,101,115,46,102,114,111,109,95,98,111,117,110,100,115],[67,108,97,115,115,101,115,46,111,102],[119,105,116,104,105,110],[98,101,121,111,110,100],[67,108,97,115,115,101,115,46,109,97,115,107],[67,108,97,115,115,101,115,46,99,104,97,114,115,101,116],[67,108,97,115,115,101,115,46,116,97,98,108,101],[67,108,97,115,115,101,115,46,108,101,97,115,116],[67,108,97,115,115,101,115,46,119,111,114,100],[67,108,97,115,115,101,115,46,116,101,120,116],[103,114,97,109,109,97,114,109,105,108,108,46,108,101,120,102,105,108,101],[76,101,120,83,116,101,112],[115,104,111,119],[76,101,120,83,116,101,112,46,95,95,105,110,105,116,95,95],[76,101,120,83,116,101,112,46,116,111,108,100],[76,101,120,83,116,101,112,46,115,104,111,119],[76,101,120,82,117,108,101],[105,115,95,108,105,118,101],[104,97,115,95,115,116,101,112],[103,111,97,108,115],[99,111,110,100,105,116,105,111,110,115],[112,97,116,116,101,114,110],[76,101,120,82,117,108,101,46,95,95,105,110,105,116,95,95],[76,101,120,82,117,108,101,46,105,115,95,101,110,100],[76,101,120,82,117,108,101,46,105,115,95,108,105,118,101],[76,101,120,82,117,108,101,46,104,97,115,95,115,116,101,112],[76,101,120,82,117,108,101,46,107,105,110,100],[76,101,120,82,117,108,101,46,103,111,97,108,115],[76,101,120,82,117,108,101,46,116,111,108,100],[103,114,97,109,109,97,114,109,105,108,108,46,115,99,97,110,110,101,114],[82,101,97,100,101,114],[99,97,110,100,105,100,97,116,101,115],[121,121,116,101,120,116],[116,111,107,101,110],[116,105,99,107],[110,101,120,116,95,116,111,107,101,110],[116,111,107,101,110,115],[111,112,101,110,95,109,97,116,99,104],[116,117,114,110],[101,110,100,95,116,117,114,110],[112,101,114,102,111,114,109],[100,111,95,115,116,101,112],[109,111,115,116],[82,101,97,100,101,114,46,95,95,105,110,105,116,95,95],[115,116,97,114,116],[82,101,97,100,101,114,46,99,97,110,100,105,100,97,116,101,115],[82,101,97,100,101,114,46,115,116,101,112,115],[82,101,97,100,101,114,46,101,110,100,95,114,117,108,101],[82,101,97,100,101,114,46,98,101,103,105,110,115],[82,101,97,100,101,114,46,121,121,116,101,120,116],[82,101,97,100,101,114,46,116,111,107,101,110],[82,101,97,100,101,114,46,116,105,99,107],[82,101,97,100,101,114,46,112,108,97,99,101],[82,101,97,100,101,114,46,110,101,120,116,95,116,111,107,101,110],[82,101,97,100,101,114,46,116,111,107,101,110,115],[82,101,97,100,101,114,46,111,112,101,110,95,109,97,116,99,104],[105,115,95,114,101,106,101,99,116,101,100],[82,101,97,100,101,114,46,116,117,114,110],[98,101,102,111,114,101],[82,101,97,100,101,114,46,101,110,100,95,116,117,114,110],[82,101,97,100,101,114,46,112,101,114,102,111,114,109],[82,101,97,100,101,114,46,100,111,95,115,116,101,112],[98,101,103,97,110],[101,99,104,111,101,100],[105,115,95,101,110,100,101,100],[105,115,95,107,101,112,116],[112,105,108,101],[108,97,119,95,110,110,48,52,48,57,95,48,49],[83,99,97,110,110,101,114],[116,114,97,99,101],[95,108,97,119,95,83,73,71,78,83],[97,98,10,97,99],[83,99,97,110,110,101,114,46,95,95,105,110,105,116,95,95],[109,97,116,99,104,101,100],[83,99,97,110,110,101,114,46,99,97,110,100,105,100,97,116,101,115],[83,99,97,110,110,101,114,46,115,116,101,112,115],[83,99,97,110,110,101,114,46,101,110,100,95,114,117,108,101],[115,99,97,110,110,101,114],[108,105,110,101,115],[98,101,103,105,110],[112,97,114,116],[95,108,97,119,95,78,85,77,66,69,82,83],[97],[98],[10],[99],[95,108,97,119,95,78,65,77,69,83],[95,108,97,119,95,83,84,69,80,83],[95,108,97,119,95,87,79,82,68,83],[95,108,97,119,95,116,97,107,101,114],[95,108,97,119,95,97,117,116,111,109,97,116,111,110],[95,108,97,119,95,116,97,103,115],[95,108,97,119,95,115,99,97,110],[95,108,97,119,95,116,114,97,99,101],[108,97,119],[73,78,73,84,73,65,76],[65],[101,99,104,111],[114,101,116,117,114,110],[78],[108,101,115,115],[77],[39,43,39],[115,99,114,105,112,116],[116,97,107,101],[99,101,108,108,115]] k []⟩⟩
noncomputable def stm(i:Nat):Stmt:=(pw_nn0409_01.main.body[i]?).getD (.Pass ⟨0,0,0,0⟩)
noncomputable def inS(i j:Nat):Stmt:=match stm i with
 | .ClassDef _ _ _ b _ _ _ _ _ _ _=>(b[j]?).getD (.Pass ⟨0,0,0,0⟩)
 |_=> .Pass ⟨0,0,0,0⟩
noncomputable def EJ:Stmt→Arguments
 | .FunctionDef _ a _ _ _ _ _ _ _ _=>a
 |_=>⟨[],[],none,[],[],none,[]⟩
noncomputable def BH:Stmt→List Stmt
 | .FunctionDef _ _ b _ _ _ _ _ _ _=>b
 |_=>[]
noncomputable def AZ:Stmt→Scope
 | .FunctionDef _ _ _ _ _ _ s _ _ _=>s
 |_=>pw_nn0409_01.main.scope
noncomputable def sv(n k:Nat):Value:= .str (nm n) k
noncomputable def oV(k:Nat):Value:=k.rec .none fun n _=> .ref (n+1)
noncomputable def cO(n m:Nat)(b:Bool):List Nat→Obj
 |[k,l,a,f,r,r',u,v,x,y,j]=>⟨.type SL.s5856160107412720595x4,none, .fields ⟨[.str (nm n) k, .str (nm m) (k+1), .str (nm 1) (k+2), .int l 0, .int a 0, .int 0 0, .int 0 0, .int f 0, .ref r, .bool b, .int 181 0, .ref r',oV u,oV v,oV x,oV y, .int j 0, .int l 0, .str (nm 1) (j+1)]⟩,⟨[]⟩⟩
 |_=>⟨.none,none, .plain,⟨[]⟩⟩
noncomputable def fO(n m:Nat)(s:Stmt)(d:Value)(q:Nat)(t:Nat)(x:Option Addr)(c:Addr):Obj:=⟨.type SL.s7174869446012820540x8,none, .func ⟨nm n,nm m,EJ s, .stmts (BH s),AZ s,3,[],d, .none, .none, .str (nm q) t,x, .ref c, .none,0⟩,⟨[]⟩⟩
noncomputable def en(P:Params)(x:Nat×Nat×Value):DictEntry:=⟨PyData.keyHash P (nm x.1), .str (nm x.1) x.2.1,x.2.2⟩
noncomputable def dO(P:Params)(k:Nat)(l:List (Nat×Nat×Value)):Obj:=⟨.type SL.s14018661285674007319x4,none, .dict ⟨l.map (en P)⟩ k,⟨[]⟩⟩
noncomputable def g3(P:Params)(n k i:Nat):Obj:=dO P i ((3,165,sv n k)::List.take (i-1) [(5,166, .none),(6,167, .none),(7,168, .builtin SL.s7097527257260152453x26),(8,169, .none),(9,170, .ref 6),(10,171, .ref 4),(11,173,sv 1 172),(12,174, .none),(13,193, .ref 21),(14,208, .ref 28),(15,213, .int (-1) 212),(25,279, .ref 76),(26,292, .ref 88),(55,299, .ref 95),(56,305, .ref 100),(57,342, .ref 117),(63,422, .ref 166),(64,431, .ref 177),(87,439, .ref 184),(88,449, .ref 191),(89,462, .ref 198),(90,468, .ref 203),(91,479, .ref 210),(92,489, .ref 217),(93,500, .ref 224),(103,542, .ref 248),(104,554, .ref 259),(115,592, .ref 284),(119,608, .ref 297),(120,624, .ref 309),(122,673, .ref 343),(123,680, .ref 354),(124,684, .int 127 683),(131,935, .ref 520),(182,1060, .ref 596),(205,1107, .ref 632),(210,1187, .ref 691),(224,1361, .ref 817),(262,1421, .ref 860),(263,1436, .ref 869),(264,1440,sv 265 1439),(275,1453, .ref 870),(280,1456, .ref 871),(281,1470, .ref 885),(282,1492, .ref 898),(283,1502, .ref 905),(284,1508, .ref 910),(285,1518, .ref 917),(286,1524, .ref 922),(287,1530, .ref 927),(288,1536, .ref 932)])
noncomputable def tri:List Nat→List Value
 |a::b::c::r=> .int a 0:: .int b 0:: .ref c::tri r
 |_=>[]
noncomputable def fe(l:List Value):Obj:=⟨.none,none, .fields ⟨l⟩,⟨[]⟩⟩
noncomputable def ft(l:List Nat):Obj:=fe (tri l)
noncomputable def trk(k:Nat):List Nat→List Nat
 |a::c::r=>a::k::c::trk k r
 |_=>[]
noncomputable def fk(k:Nat)(l:List Nat):Obj:=ft (trk k l)
noncomputable def c12(k:Nat):Obj:=fk 0 (List.take (2*k) [1,20,5,27,19,34,41,87,51,94,53,99,57,106,64,127,93,176,99,183,101,190,110,197,126,202,133,209,141,216,147,223,160,230,169,258,178,265,189,293,191,305,193,317,206,353,210,360,306,530,394,606,405,642,436,701,556,827,581,868,601,904,613,909,627,916,632,921,668,926,674,931])
noncomputable def tp(l:List Value):Obj:=⟨.type SL.s2766695959194262286x5,none, .seq ⟨l⟩ 0,⟨[]⟩⟩
noncomputable def stV:Nat→List Nat→List Value
 |_,[]=>[]
 |k,x::r=>sv x k::stV (k+1) r
noncomputable def ts(k:Nat)(l:List Nat):Obj:=tp (stV k l)
noncomputable def kO(n a j k:Nat):Obj:=⟨.type SL.s17162191345867700912x4,none, .cls ⟨nm n,[.type SL.s2742458400755230247x6],[.ref a, .type SL.s2742458400755230247x6],a-1,nm n,true,[],[],false,none,false⟩,⟨[none,none,some (sv n j),some (sv n k),some (.builtin SL.s11443829558043349243x14),some (.bool true)]⟩⟩
noncomputable def o11(P:Params):Obj:=tp []
noncomputable def o12(P:Params):Obj:=⟨.none,none,(.fields ⟨[]⟩),⟨[]⟩⟩
noncomputable def o13(P:Params):Obj:=cO 0 0 false [182,1,0,0,11,12,0,0,0,0,185]
noncomputable def o14(P:Params):Obj:=⟨(.type SL.s658472552662922059x5),none, .plain,⟨[some (.ref 13),some (.ref 3),some (.ref 3),none,some (sv 2 164),none,some (.ref 0)]⟩⟩
noncomputable def put:BT→Nat→Obj→BT
 | .nil,_,o=> .node o .nil .nil
 | .node v l r,i,o=>if i=0 then .node o l r else if i%2=1 then .node v (put l (i/2) o) r else .node v l (put r (i/2-1) o)
noncomputable def BI(t:BT):List (Nat×Obj)→BT
 |[]=>t
 |p::r=>BI (put t p.1 p.2) r
noncomputable def fl_(c:String)(l:List Value):Obj:=⟨.type c,none, .fields ⟨l⟩,⟨[]⟩⟩
noncomputable def fp(n m:Nat)(s:Stmt):Obj:=⟨.none,none, .func ⟨nm n,nm m,EJ s, .stmts (BH s),AZ s,0,[], .none, .none, .none, .none,none, .none, .none,0⟩,⟨[]⟩⟩
noncomputable def pts(t:BT)(k:Nat):List Obj→BT
 |[]=>t
 |o::r=>pts (put t k o) (k+1) r
noncomputable def mF(t:BT)(r k l a:Nat)(n m:Nat)(s:Stmt)(ns:List Nat)(d:Value)(q t':Nat)(x:Option Addr):BT:=pts t r [tp [],fe [],ts (k+3) ns,tp [],fp n m s,cO n m true [k,l,a,3,r,r+1,0,r+2,r+3,r+4,k+3+ns.length],fO n m s d q t' x (r+5)]
set_option maxHeartbeats 4000000 in
noncomputable def T0(P:Params):BT:=by
 refine(?f:(t:BT)→pts .nil 0 [boot_o_0 P,boot_o_1 P,boot_o_2 P,boot_o_3 P,boot_o_4 P,boot_o_5 P,boot_o_6 P,boot_o_7 P,boot_o_8 P,boot_o_9 P,boot_o_10 P,o11 P,o12 P,o13 P,o14 P]=t→BT) ?t ?h
 case h=>simp only[mF,pts,BI,put,Nat.reduceDiv,Nat.reduceAdd,Nat.reduceSub,Nat.reduceMod,Nat.reduceEqDiff,↓reduceIte];exact rfl
 case f=>exact fun t _=>t
set_option maxHeartbeats 4000000 in
noncomputable def T1(P:Params):BT:=by
 refine(?f:(t:BT)→mF (mF (BI (T0 P) [(3,g3 P 4 209 12),(12,c12 2)]) 15 187 1 1 13 13 (stm 0) [16] .none 2 164 none) 22 196 5 2 14 14 (stm 2) [17,18,19,20,21,22,23] .none 24 194 none=t→BT) ?t ?h
 case h=>delta T0;simp only[mF,pts,BI,put,Nat.reduceDiv,Nat.reduceAdd,Nat.reduceSub,Nat.reduceMod,Nat.reduceEqDiff,↓reduceIte];exact rfl
 case f=>exact fun t _=>t
set_option maxHeartbeats 4000000 in
noncomputable def T2(P:Params):BT:=by
 refine(?f:(t:BT)→mF (pts (mF (mF (mF (mF (pts (BI (T1 P) [(3,g3 P 4 209 14),(12,c12 4)]) 29 [tp [],fl_ SL.s11030030927630378310x26 [(.builtin SL.s10062305145149207511x16),(.type SL.s17162191345867700912x4)],dO P 10 [(27,221,sv 4 209),(28,223,sv 25 222),(29,225, .int 19 224),(30,234, .ref 42),(31,241, .ref 49),(32,248, .ref 56),(33,257, .ref 63),(17,263, .ref 68),(34,269, .ref 73),(35,272, .ref 74)],tp [],fk 4 [21,41,25,48,28,55,31,62,36,67,39,72],cO 25 25 false [216,19,0,0,32,33,0,0,0,0,219],⟨(.type SL.s658472552662922059x5),none, .plain,⟨[some (.ref 34),some (.ref 3),some (.ref 31),none,some (sv 4 209),none,some (.ref 0)]⟩⟩]) 36 226 21 3 30 39 (inS 5 0) [36,37,38] .none 4 209 none) 43 235 25 1 31 40 (inS 5 1) [36] .none 4 209 none) 50 242 28 1 32 41 (inS 5 2) [36] .none 4 209 none) 57 249 31 3 33 44 (inS 5 3) [36,42,43] .none 4 209 none) 64 [tp [],fe [],fp 17 45 (inS 5 4),cO 17 45 true [258,36,1,3,64,65,0,0,0,66,261],fO 17 45 (inS 5 4) .none 4 209 none 67,tp [],fe [],fp 34 46 (inS 5 5),cO 34 46 true [264,39,1,3,69,70,0,0,0,71,267],fO 34 46 (inS 5 5) .none 4 209 none 72,ts 270 [37,38],dO P 4 [(27,221,sv 4 209),(29,225, .int 19 224),(30,234, .ref 42),(31,241, .ref 49),(32,248, .ref 56),(33,257, .ref 63),(17,263, .ref 68),(34,269, .ref 73),(35,272, .ref 74),(47,274, .ref 77),(48,276, .ref 78),(5,277, .none)],kO 25 76 214 222,fl_ SL.s14755015743595814543x17 [(sv 47 273),(.ref 76),(.builtin SL.s6511155373996960695x17),(.builtin SL.s12411053484034534018x21)],fl_ SL.s14755015743595814543x17 [(sv 48 275),(.ref 76),(.builtin SL.s10220274742760427390x26), .none],fl_ SL.s4290257624100764138x5 [(.ref 76),(.ref 76),(.ref 76)],fl_ SL.s11030030927630378310x26 [(.builtin SL.s4860613602091757760x24),(.ref 76)],tp [(.int 0 280)]]) 82 281 41 4 26 26 (stm 6) [49,50,51,42,52,53] (.ref 81) 4 209 none=t→BT) ?t ?h
 case h=>delta T1;simp only[mF,pts,BI,put,Nat.reduceDiv,Nat.reduceAdd,Nat.reduceSub,Nat.reduceMod,Nat.reduceEqDiff,↓reduceIte];exact rfl
 case f=>exact fun t _=>t
set_option maxHeartbeats 4000000 in
noncomputable def T3(P:Params):BT:=by
 refine(?f:(t:BT)→pts (mF (pts (mF (BI (T2 P) [(3,g3 P 54 306 17),(12,c12 7)]) 89 293 51 1 55 55 (stm 7) [49] .none 4 209 none) 96 [tp [],fe [],fp 56 56 (stm 8),cO 56 56 true [300,53,1,3,96,97,0,0,0,98,303],fO 56 56 (stm 8) .none 4 209 none 99,tp [],fl_ SL.s11030030927630378310x26 [(.builtin SL.s10062305145149207511x16),(.type SL.s17162191345867700912x4)],dO P 5 [(27,315,sv 54 306),(28,317,sv 57 316),(29,319, .int 57 318),(30,330, .ref 114),(35,335, .ref 115)],tp [],fk 4 [59,113],cO 57 57 false [310,57,0,0,104,105,0,0,0,0,313],⟨(.type SL.s658472552662922059x5),none, .plain,⟨[some (.ref 106),some (.ref 3),some (.ref 103),none,some (sv 54 306),none,some (.ref 0)]⟩⟩]) 108 320 59 5 30 62 (inS 10 0) [36,58,59,60,61] .none 54 306 none) 115 [ts 331 [61,60,59,58],dO P 4 [(27,315,sv 54 306),(29,319, .int 57 318),(30,330, .ref 114),(35,335, .ref 115),(47,337, .ref 118),(48,339, .ref 119),(5,340, .none)],kO 57 117 308 316,fl_ SL.s14755015743595814543x17 [(sv 47 336),(.ref 117),(.builtin SL.s6511155373996960695x17),(.builtin SL.s12411053484034534018x21)],fl_ SL.s14755015743595814543x17 [(sv 48 338),(.ref 117),(.builtin SL.s10220274742760427390x26), .none],fl_ SL.s4290257624100764138x5 [(.ref 117),(.ref 117),(.ref 117)],fl_ SL.s11030030927630378310x26 [(.builtin SL.s4860613602091757760x24),(.ref 117)]]=t→BT) ?t ?h
 case h=>delta T2;simp only[mF,pts,BI,put,Nat.reduceDiv,Nat.reduceAdd,Nat.reduceSub,Nat.reduceMod,Nat.reduceEqDiff,↓reduceIte];exact rfl
 case f=>exact fun t _=>t
set_option maxHeartbeats 4000000 in
noncomputable def T4(P:Params):BT:=by
 refine(?f:(t:BT)→mF (pts (mF (mF (mF (mF (mF (pts (BI (T3 P) [(3,g3 P 54 306 19),(12,c12 9)]) 122 [tp [],fl_ SL.s11030030927630378310x26 [(.builtin SL.s10062305145149207511x16),(.type SL.s17162191345867700912x4)],dO P 9 [(27,350,sv 54 306),(28,352,sv 63 351),(29,354, .int 64 353),(30,368, .ref 135),(65,377, .ref 142),(66,385, .ref 149),(67,393, .ref 156),(68,405, .ref 163),(35,415, .ref 164)],tp [],fk 4 [66,134,77,141,80,148,83,155,86,162],cO 63 63 false [345,64,0,0,125,126,0,0,0,0,348],⟨(.type SL.s658472552662922059x5),none, .plain,⟨[some (.ref 127),some (.ref 3),some (.ref 124),none,some (sv 54 306),none,some (.ref 0)]⟩⟩]) 129 355 66 8 30 76 (inS 11 0) [36,69,70,71,72,73,74,75] .none 54 306 none) 136 369 77 3 65 79 (inS 11 1) [36,77,78] .none 54 306 none) 143 378 80 2 66 80 (inS 11 2) [36,43] .none 54 306 none) 150 386 83 2 67 81 (inS 11 3) [36,77] .none 54 306 none) 157 394 86 2 68 82 (inS 11 4) [36,77,50,78,38,43] .none 54 306 none) 164 [ts 406 [71,69,73,83,74,75,84,70,72],dO P 4 [(27,350,sv 54 306),(29,354, .int 64 353),(30,368, .ref 135),(65,377, .ref 142),(66,385, .ref 149),(67,393, .ref 156),(68,405, .ref 163),(35,415, .ref 164),(47,417, .ref 167),(48,419, .ref 168),(5,420, .none)],kO 63 166 343 351,fl_ SL.s14755015743595814543x17 [(sv 47 416),(.ref 166),(.builtin SL.s6511155373996960695x17),(.builtin SL.s12411053484034534018x21)],fl_ SL.s14755015743595814543x17 [(sv 48 418),(.ref 166),(.builtin SL.s10220274742760427390x26), .none],fl_ SL.s4290257624100764138x5 [(.ref 166),(.ref 166),(.ref 166)],fl_ SL.s11030030927630378310x26 [(.builtin SL.s4860613602091757760x24),(.ref 166)]]) 171 423 93 1 64 64 (stm 12) [72,85,33] .none 54 306 none=t→BT) ?t ?h
 case h=>delta T3;simp only[mF,pts,BI,put,Nat.reduceDiv,Nat.reduceAdd,Nat.reduceSub,Nat.reduceMod,Nat.reduceEqDiff,↓reduceIte];exact rfl
 case f=>exact fun t _=>t
set_option maxHeartbeats 4000000 in
noncomputable def T5(P:Params):BT:=by
 refine(?f:(t:BT)→mF (mF (mF (pts (mF (mF (mF (BI (T4 P) [(3,g3 P 86 501 26),(12,c12 16)]) 178 432 99 2 87 87 (stm 13) [65,42] .none 54 306 none) 185 440 101 3 88 88 (stm 14) [94,95,50,96] .none 54 306 none) 192 450 110 2 89 89 (stm 15) [96,50,97,98,42,22,99] .none 54 306 none) 199 [tp [],fe [],fp 90 90 (stm 16),cO 90 90 true [463,126,1,3,199,200,0,0,0,201,466],fO 90 90 (stm 16) .none 54 306 none 202]) 204 469 133 1 91 91 (stm 17) [94,100,101,65,43] .none 54 306 none) 211 480 141 1 92 92 (stm 18) [94,100,101,42] .none 54 306 none) 218 490 147 1 93 93 (stm 19) [94,100,102,85,43] .none 54 306 none=t→BT) ?t ?h
 case h=>delta T4;simp only[mF,pts,BI,put,Nat.reduceDiv,Nat.reduceAdd,Nat.reduceSub,Nat.reduceMod,Nat.reduceEqDiff,↓reduceIte];exact rfl
 case f=>exact fun t _=>t
set_option maxHeartbeats 4000000 in
noncomputable def T6(P:Params):BT:=by
 refine(?f:(t:BT)→mF (pts (mF (mF (pts (BI (T5 P) [(3,g3 P 86 501 28),(12,c12 18)]) 225 [tp [],fl_ SL.s11030030927630378310x26 [(.builtin SL.s10062305145149207511x16),(.type SL.s17162191345867700912x4)],dO P 6 [(27,510,sv 86 501),(28,512,sv 103 511),(29,514, .int 160 513),(30,524, .ref 238),(34,531, .ref 245),(35,535, .ref 246)],tp [],fk 4 [162,237,167,244],cO 103 103 false [505,160,0,0,228,229,0,0,0,0,508],⟨(.type SL.s658472552662922059x5),none, .plain,⟨[some (.ref 230),some (.ref 3),some (.ref 227),none,some (sv 86 501),none,some (.ref 0)]⟩⟩]) 232 515 162 4 30 108 (inS 21 0) [36,105,106,107] .none 86 501 none) 239 525 167 1 34 109 (inS 21 1) [36] .none 86 501 none) 246 [ts 532 [107,106,105],dO P 4 [(27,510,sv 86 501),(29,514, .int 160 513),(30,524, .ref 238),(34,531, .ref 245),(35,535, .ref 246),(47,537, .ref 249),(48,539, .ref 250),(5,540, .none)],kO 103 248 503 511,fl_ SL.s14755015743595814543x17 [(sv 47 536),(.ref 248),(.builtin SL.s6511155373996960695x17),(.builtin SL.s12411053484034534018x21)],fl_ SL.s14755015743595814543x17 [(sv 48 538),(.ref 248),(.builtin SL.s10220274742760427390x26), .none],fl_ SL.s4290257624100764138x5 [(.ref 248),(.ref 248),(.ref 248)],fl_ SL.s11030030927630378310x26 [(.builtin SL.s4860613602091757760x24),(.ref 248)]]) 253 543 169 2 104 104 (stm 22) [110,105,51,106,111,112] .none 86 501 none=t→BT) ?t ?h
 case h=>delta T5;simp only[mF,pts,BI,put,Nat.reduceDiv,Nat.reduceAdd,Nat.reduceSub,Nat.reduceMod,Nat.reduceEqDiff,↓reduceIte];exact rfl
 case f=>exact fun t _=>t
set_option maxHeartbeats 4000000 in
noncomputable def T7(P:Params):BT:=by
 refine(?f:(t:BT)→pts (mF (mF (pts (BI (T6 P) [(2,⟨.none,none,(.dict ⟨[⟨(PyData.keyHash P (nm 113)),(sv 113 589),(.int 284 0)⟩,⟨(PyData.keyHash P (nm 114)),(sv 114 590),(.int 1 0)⟩]⟩ 2),⟨[]⟩⟩),(3,g3 P 86 501 29),(12,c12 19)]) 260 [tp [(.type SL.s5946037652744460706x9)],fl_ SL.s11030030927630378310x26 [(.builtin SL.s10062305145149207511x16),(.type SL.s17162191345867700912x4)],dO P 6 [(27,562,sv 86 501),(28,564,sv 115 563),(29,566, .int 178 565),(30,575, .ref 274),(34,582, .ref 281),(35,585, .ref 282)],tp [],fk 4 [180,273,185,280],cO 115 115 false [557,178,0,0,263,264,0,0,0,0,560],⟨(.type SL.s658472552662922059x5),none, .plain,⟨[some (.ref 265),some (.ref 3),some (.ref 262),none,some (sv 86 501),none,some (.ref 0)]⟩⟩,tp [.none]]) 268 567 180 3 30 117 (inS 23 0) [36,116,51] (.ref 267) 86 501 none) 275 576 185 1 34 118 (inS 23 1) [36] .none 86 501 none) 282 [ts 583 [51,116],dO P 3 [(27,562,sv 86 501),(29,566, .int 178 565),(30,575, .ref 274),(34,582, .ref 281),(35,585, .ref 282),(48,587, .ref 285),(5,588, .none)],⟨(.type SL.s17162191345867700912x4),none,(.cls ⟨(nm 115),[(.type SL.s5946037652744460706x9)],[(.ref 284),(.type SL.s5946037652744460706x9),(.type SL.s4278001404047624695x13),(.type SL.s2742458400755230247x6)],283,(nm 115),true,[],[],false,none,false⟩),⟨[some (.ref 260),none,some (sv 115 555),some (sv 115 563),some (.builtin SL.s5160863994218179198x17),some (.bool true)]⟩⟩,fl_ SL.s14755015743595814543x17 [(sv 48 586),(.ref 284),(.builtin SL.s10220274742760427390x26), .none],fl_ SL.s4290257624100764138x5 [(.ref 284),(.ref 284),(.ref 284)],fl_ SL.s11030030927630378310x26 [(.builtin SL.s4860613602091757760x24),(.ref 284)]]=t→BT) ?t ?h
 case h=>delta T6;simp only[mF,pts,BI,put,Nat.reduceDiv,Nat.reduceAdd,Nat.reduceSub,Nat.reduceMod,Nat.reduceEqDiff,↓reduceIte];exact rfl
 case f=>exact fun t _=>t
set_option maxHeartbeats 4000000 in
noncomputable def T8(P:Params):BT:=by
 refine(?f:(t:BT)→pts (BI (T7 P) [(3,g3 P 86 501 30),(12,c12 20),(284,⟨(.type SL.s17162191345867700912x4),none,(.cls ⟨(nm 115),[(.type SL.s5946037652744460706x9)],[(.ref 284),(.type SL.s5946037652744460706x9),(.type SL.s4278001404047624695x13),(.type SL.s2742458400755230247x6)],283,(nm 115),true,[],[(.ref 297)],false,none,false⟩),⟨[some (.ref 260),none,some (sv 115 555),some (sv 115 563),some (.builtin SL.s5160863994218179198x17),some (.bool true)]⟩⟩)]) 288 [tp [(.ref 284)],fl_ SL.s11030030927630378310x26 [(.builtin SL.s10062305145149207511x16),(.type SL.s17162191345867700912x4)],dO P 4 [(27,600,sv 86 501),(28,602,sv 119 601),(29,604, .int 189 603),(35,605, .ref 295)],tp [],fe [],cO 119 119 false [595,189,0,0,291,292,0,0,0,0,598],⟨(.type SL.s658472552662922059x5),none, .plain,⟨[some (.ref 293),some (.ref 3),some (.ref 290),none,some (sv 86 501),none,some (.ref 0)]⟩⟩,tp [],dO P 2 [(27,600,sv 86 501),(29,604, .int 189 603),(35,605, .ref 295),(5,606, .none)],⟨(.type SL.s17162191345867700912x4),none,(.cls ⟨(nm 119),[(.ref 284)],[(.ref 297),(.ref 284),(.type SL.s5946037652744460706x9),(.type SL.s4278001404047624695x13),(.type SL.s2742458400755230247x6)],296,(nm 119),true,[],[],false,none,false⟩),⟨[some (.ref 288),none,some (sv 119 593),some (sv 119 601),some (.builtin SL.s5160863994218179198x17),some (.bool true)]⟩⟩,fl_ SL.s4290257624100764138x5 [(.ref 297),(.ref 297),(.ref 297)],fl_ SL.s11030030927630378310x26 [(.builtin SL.s4860613602091757760x24),(.ref 297)]]=t→BT) ?t ?h
 case h=>delta T7;simp only[mF,pts,BI,put,Nat.reduceDiv,Nat.reduceAdd,Nat.reduceSub,Nat.reduceMod,Nat.reduceEqDiff,↓reduceIte];exact rfl
 case f=>exact fun t _=>t
set_option maxHeartbeats 4000000 in
noncomputable def T9(P:Params):BT:=by
 refine(?f:(t:BT)→pts (BI (T8 P) [(3,g3 P 86 501 31),(12,c12 21),(284,⟨(.type SL.s17162191345867700912x4),none,(.cls ⟨(nm 115),[(.type SL.s5946037652744460706x9)],[(.ref 284),(.type SL.s5946037652744460706x9),(.type SL.s4278001404047624695x13),(.type SL.s2742458400755230247x6)],283,(nm 115),true,[],[(.ref 297),(.ref 309)],false,none,false⟩),⟨[some (.ref 260),none,some (sv 115 555),some (sv 115 563),some (.builtin SL.s5160863994218179198x17),some (.bool true)]⟩⟩)]) 300 [tp [(.ref 284)],fl_ SL.s11030030927630378310x26 [(.builtin SL.s10062305145149207511x16),(.type SL.s17162191345867700912x4)],dO P 4 [(27,616,sv 86 501),(28,618,sv 120 617),(29,620, .int 191 619),(35,621, .ref 307)],tp [],fe [],cO 120 120 false [611,191,0,0,303,304,0,0,0,0,614],⟨(.type SL.s658472552662922059x5),none, .plain,⟨[some (.ref 305),some (.ref 3),some (.ref 302),none,some (sv 86 501),none,some (.ref 0)]⟩⟩,tp [],dO P 2 [(27,616,sv 86 501),(29,620, .int 191 619),(35,621, .ref 307),(5,622, .none)],⟨(.type SL.s17162191345867700912x4),none,(.cls ⟨(nm 120),[(.ref 284)],[(.ref 309),(.ref 284),(.type SL.s5946037652744460706x9),(.type SL.s4278001404047624695x13),(.type SL.s2742458400755230247x6)],308,(nm 120),true,[],[],false,none,false⟩),⟨[some (.ref 300),none,some (sv 120 609),some (sv 120 617),some (.builtin SL.s5160863994218179198x17),some (.bool true)]⟩⟩,fl_ SL.s4290257624100764138x5 [(.ref 309),(.ref 309),(.ref 309)],fl_ SL.s11030030927630378310x26 [(.builtin SL.s4860613602091757760x24),(.ref 309)]]=t→BT) ?t ?h
 case h=>delta T8;simp only[mF,pts,BI,put,Nat.reduceDiv,Nat.reduceAdd,Nat.reduceSub,Nat.reduceMod,Nat.reduceEqDiff,↓reduceIte];exact rfl
 case f=>exact fun t _=>t
set_option maxHeartbeats 4000000 in
noncomputable def T10(P:Params):BT:=by
 refine(?f:(t:BT)→mF (pts (mF (mF (mF (pts (BI (T9 P) [(3,g3 P 121 681 34),(12,c12 23)]) 312 [tp [],fl_ SL.s11030030927630378310x26 [(.builtin SL.s10062305145149207511x16),(.type SL.s17162191345867700912x4)],dO P 7 [(27,632,sv 86 501),(28,634,sv 122 633),(29,636, .int 193 635),(30,647, .ref 326),(34,654, .ref 333),(125,661, .ref 340),(35,666, .ref 341)],tp [],fk 4 [195,325,201,332,204,339],cO 122 122 false [627,193,0,0,315,316,0,0,0,0,630],⟨(.type SL.s658472552662922059x5),none, .plain,⟨[some (.ref 317),some (.ref 3),some (.ref 314),none,some (sv 86 501),none,some (.ref 0)]⟩⟩,tp [.none]]) 320 637 195 5 30 128 (inS 26 0) [36,126,110,51,127] (.ref 319) 86 501 none) 327 648 201 1 34 129 (inS 26 1) [36] .none 86 501 none) 334 655 204 1 125 130 (inS 26 2) [36] .none 86 501 none) 341 [ts 662 [51,126,110,127],dO P 4 [(27,632,sv 86 501),(29,636, .int 193 635),(30,647, .ref 326),(34,654, .ref 333),(125,661, .ref 340),(35,666, .ref 341),(47,668, .ref 344),(48,670, .ref 345),(5,671, .none)],kO 122 343 625 633,fl_ SL.s14755015743595814543x17 [(sv 47 667),(.ref 343),(.builtin SL.s6511155373996960695x17),(.builtin SL.s12411053484034534018x21)],fl_ SL.s14755015743595814543x17 [(sv 48 669),(.ref 343),(.builtin SL.s10220274742760427390x26), .none],fl_ SL.s4290257624100764138x5 [(.ref 343),(.ref 343),(.ref 343)],fl_ SL.s11030030927630378310x26 [(.builtin SL.s4860613602091757760x24),(.ref 343)]]) 348 674 206 1 123 123 (stm 27) [110] .none 86 501 none=t→BT) ?t ?h
 case h=>delta T9;simp only[mF,pts,BI,put,Nat.reduceDiv,Nat.reduceAdd,Nat.reduceSub,Nat.reduceMod,Nat.reduceEqDiff,↓reduceIte];exact rfl
 case f=>exact fun t _=>t
set_option maxHeartbeats 4000000 in
noncomputable def T11(P:Params):BT:=by
 refine(?f:(t:BT)→pts (mF (mF (mF (mF (mF (mF (mF (mF (mF (mF (mF (mF (mF (pts (mF (pts (mF (pts (mF (pts (mF (pts (mF (mF (pts (BI (T10 P) [(3,g3 P 121 681 35),(12,c12 24)]) 355 [tp [],fl_ SL.s11030030927630378310x26 [(.builtin SL.s10062305145149207511x16),(.type SL.s17162191345867700912x4)],dO P 24 [(27,692,sv 121 681),(28,694,sv 131 693),(29,696, .int 210 695),(30,704, .ref 368),(132,722, .ref 377),(133,740, .ref 387),(134,758, .ref 397),(135,776, .ref 405),(136,796, .ref 415),(137,821, .ref 425),(138,834, .ref 433),(139,841, .ref 440),(140,851, .ref 447),(141,858, .ref 454),(142,865, .ref 461),(143,873, .ref 468),(144,881, .ref 475),(145,888, .ref 482),(146,896, .ref 489),(147,904, .ref 496),(148,912, .ref 503),(149,919, .ref 510),(101,926, .ref 517),(35,928, .ref 518)],tp [],fk 4 [212,367,216,374,220,384,224,394,228,402,232,412,236,422,252,432,266,439,269,446,275,453,280,460,283,467,286,474,289,481,292,488,295,495,298,502,301,509,304,516],cO 131 131 false [687,210,0,0,358,359,0,0,0,0,690],⟨(.type SL.s658472552662922059x5),none, .plain,⟨[some (.ref 360),some (.ref 3),some (.ref 357),none,some (sv 121 681),none,some (.ref 0)]⟩⟩]) 362 697 212 2 30 151 (inS 30 0) [36,150] .none 121 681 none) 369 705 215 0 132 152 (inS 30 1) [] .none 121 681 (some 378)) 376 [dO P 5 [(27,711,sv 121 681),(3,714,sv 132 713),(28,717,sv 152 716),(5,719, .none),(9,721, .ref 378)],⟨(.type SL.s16656946322747308186x12),(some 376),(.fields ⟨[(.ref 375),(.bool false)]⟩),⟨[]⟩⟩,dO P 0 []]) 379 723 219 0 133 153 (inS 30 2) [] .none 121 681 (some 388)) 386 [dO P 5 [(27,729,sv 121 681),(3,732,sv 133 731),(28,735,sv 153 734),(5,737, .none),(9,739, .ref 388)],⟨(.type SL.s16656946322747308186x12),(some 386),(.fields ⟨[(.ref 385),(.bool false)]⟩),⟨[]⟩⟩,dO P 0 []]) 389 741 223 0 134 154 (inS 30 3) [] .none 121 681 (some 398)) 396 [dO P 5 [(27,747,sv 121 681),(3,750,sv 134 749),(28,753,sv 154 752),(5,755, .none),(9,757, .ref 398)],⟨(.type SL.s16656946322747308186x12),(some 396),(.fields ⟨[(.ref 395),(.bool false)]⟩),⟨[]⟩⟩,dO P 0 [],tp [],fe [],fp 135 155 (inS 30 4),cO 135 155 true [759,227,1,3,399,400,0,0,0,401,762],fO 135 155 (inS 30 4) .none 121 681 (some 406) 402,dO P 5 [(27,765,sv 121 681),(3,768,sv 135 767),(28,771,sv 155 770),(5,773, .none),(9,775, .ref 406)],⟨(.type SL.s16656946322747308186x12),(some 404),(.fields ⟨[(.ref 403),(.bool false)]⟩),⟨[]⟩⟩,dO P 0 []]) 407 777 231 2 136 158 (inS 30 5) [156,157] .none 121 681 (some 416)) 414 [dO P 5 [(27,785,sv 121 681),(3,788,sv 136 787),(28,791,sv 158 790),(5,793, .none),(9,795, .ref 416)],⟨(.type SL.s16656946322747308186x12),(some 414),(.fields ⟨[(.ref 413),(.bool false)]⟩),⟨[]⟩⟩,dO P 0 []]) 417 797 235 1 137 163 (inS 30 6) [159,160,161,162,156,157,150] .none 121 681 (some 426)) 424 [dO P 5 [(27,810,sv 121 681),(3,813,sv 137 812),(28,816,sv 163 815),(5,818, .none),(9,820, .ref 426)],⟨(.type SL.s16656946322747308186x12),(some 424),(.fields ⟨[(.ref 423),(.bool false)]⟩),⟨[]⟩⟩,dO P 0 []]) 427 822 252 2 138 168 (inS 30 7) [36,164,165,166,167,156,157] .none 121 681 none) 434 835 266 1 139 169 (inS 30 8) [36] .none 121 681 none) 441 842 269 1 140 170 (inS 30 9) [36,52,156,157] .none 121 681 none) 448 852 275 1 141 171 (inS 30 10) [36] .none 121 681 none) 455 859 280 1 142 172 (inS 30 11) [36] .none 121 681 none) 462 866 283 2 143 174 (inS 30 12) [36,173] .none 121 681 none) 469 874 286 2 144 175 (inS 30 13) [36,173] .none 121 681 none) 476 882 289 1 145 176 (inS 30 14) [36] .none 121 681 none) 483 889 292 2 146 177 (inS 30 15) [36,173] .none 121 681 none) 490 897 295 2 147 178 (inS 30 16) [36,173] .none 121 681 none) 497 905 298 2 148 179 (inS 30 17) [36,173] .none 121 681 none) 504 913 301 1 149 180 (inS 30 18) [36] .none 121 681 none) 511 920 304 1 101 181 (inS 30 19) [36] .none 121 681 none) 518 [ts 927 [150],dO P 4 [(27,692,sv 121 681),(29,696, .int 210 695),(30,704, .ref 368),(132,722, .ref 377),(133,740, .ref 387),(134,758, .ref 397),(135,776, .ref 405),(136,796, .ref 415),(137,821, .ref 425),(138,834, .ref 433),(139,841, .ref 440),(140,851, .ref 447),(141,858, .ref 454),(142,865, .ref 461),(143,873, .ref 468),(144,881, .ref 475),(145,888, .ref 482),(146,896, .ref 489),(147,904, .ref 496),(148,912, .ref 503),(149,919, .ref 510),(101,926, .ref 517),(35,928, .ref 518),(47,930, .ref 521),(48,932, .ref 522),(5,933, .none)],kO 131 520 685 693,fl_ SL.s14755015743595814543x17 [(sv 47 929),(.ref 520),(.builtin SL.s6511155373996960695x17),(.builtin SL.s12411053484034534018x21)],fl_ SL.s14755015743595814543x17 [(sv 48 931),(.ref 520),(.builtin SL.s10220274742760427390x26), .none],fl_ SL.s4290257624100764138x5 [(.ref 520),(.ref 520),(.ref 520)],fl_ SL.s11030030927630378310x26 [(.builtin SL.s4860613602091757760x24),(.ref 520)]]=t→BT) ?t ?h
 case h=>delta T10;simp only[mF,pts,BI,put,Nat.reduceDiv,Nat.reduceAdd,Nat.reduceSub,Nat.reduceMod,Nat.reduceEqDiff,↓reduceIte];exact rfl
 case f=>exact fun t _=>t
set_option maxHeartbeats 4000000 in
noncomputable def T12(P:Params):BT:=by
 refine(?f:(t:BT)→pts (mF (mF (mF (mF (mF (pts (mF (mF (pts (BI (T11 P) [(3,g3 P 121 681 36),(12,c12 25)]) 525 [tp [],fl_ SL.s11030030927630378310x26 [(.builtin SL.s10062305145149207511x16),(.type SL.s17162191345867700912x4)],dO P 13 [(27,943,sv 121 681),(28,945,sv 182 944),(29,947, .int 306 946),(30,962, .ref 538),(183,982, .ref 547),(135,993, .ref 555),(184,1008, .ref 562),(185,1019, .ref 569),(186,1029, .ref 576),(141,1037, .ref 583),(187,1043, .ref 588),(110,1049, .ref 593),(35,1053, .ref 594)],tp [],fk 4 [308,537,328,544,331,554,344,561,366,568,376,575,385,582,388,587,391,592],cO 182 182 false [938,306,0,0,528,529,0,0,0,0,941],⟨(.type SL.s658472552662922059x5),none, .plain,⟨[some (.ref 530),some (.ref 3),some (.ref 527),none,some (sv 121 681),none,some (.ref 0)]⟩⟩]) 532 948 308 2 30 192 (inS 31 0) [36,188,189,22,156,157,190,191,164] .none 121 681 none) 539 963 327 2 183 194 (inS 31 1) [193,50] .none 121 681 (some 548)) 546 [dO P 5 [(27,971,sv 121 681),(3,974,sv 183 973),(28,977,sv 194 976),(5,979, .none),(9,981, .ref 548)],⟨(.type SL.s16656946322747308186x12),(some 546),(.fields ⟨[(.ref 545),(.bool false)]⟩),⟨[]⟩⟩,dO P 0 []]) 549 983 331 2 135 195 (inS 31 2) [36,164,165,166,167] .none 121 681 none) 556 994 344 2 184 198 (inS 31 3) [36,185,196,197,150,22,33,156,157] .none 121 681 none) 563 1009 366 2 185 199 (inS 31 4) [36,184,159,33,157] .none 121 681 none) 570 1020 376 1 186 200 (inS 31 5) [36,50,33,53] .none 121 681 none) 577 1030 385 2 141 201 (inS 31 6) [36,43] .none 121 681 none) 584 [tp [],fe [],fp 187 202 (inS 31 7),cO 187 202 true [1038,388,2,3,584,585,0,0,0,586,1041],fO 187 202 (inS 31 7) .none 121 681 none 587,tp [],fe [],fp 110 203 (inS 31 8),cO 110 203 true [1044,391,2,3,589,590,0,0,0,591,1047],fO 110 203 (inS 31 8) .none 121 681 none 592,ts 1050 [193,97,50],dO P 4 [(27,943,sv 121 681),(29,947, .int 306 946),(30,962, .ref 538),(183,982, .ref 547),(135,993, .ref 555),(184,1008, .ref 562),(185,1019, .ref 569),(186,1029, .ref 576),(141,1037, .ref 583),(187,1043, .ref 588),(110,1049, .ref 593),(35,1053, .ref 594),(47,1055, .ref 597),(48,1057, .ref 598),(5,1058, .none)],kO 182 596 936 944,fl_ SL.s14755015743595814543x17 [(sv 47 1054),(.ref 596),(.builtin SL.s6511155373996960695x17),(.builtin SL.s12411053484034534018x21)],fl_ SL.s14755015743595814543x17 [(sv 48 1056),(.ref 596),(.builtin SL.s10220274742760427390x26), .none],fl_ SL.s4290257624100764138x5 [(.ref 596),(.ref 596),(.ref 596)],fl_ SL.s11030030927630378310x26 [(.builtin SL.s4860613602091757760x24),(.ref 596)]]=t→BT) ?t ?h
 case h=>delta T11;simp only[mF,pts,BI,put,Nat.reduceDiv,Nat.reduceAdd,Nat.reduceSub,Nat.reduceMod,Nat.reduceEqDiff,↓reduceIte];exact rfl
 case f=>exact fun t _=>t
set_option maxHeartbeats 4000000 in
noncomputable def T13(P:Params):BT:=by
 refine(?f:(t:BT)→pts (mF (mF (mF (pts (BI (T12 P) [(3,g3 P 204 1061 37),(12,c12 26)]) 601 [tp [],fl_ SL.s11030030927630378310x26 [(.builtin SL.s10062305145149207511x16),(.type SL.s17162191345867700912x4)],dO P 7 [(27,1070,sv 204 1061),(28,1072,sv 205 1071),(29,1074, .int 394 1073),(30,1083, .ref 615),(34,1090, .ref 622),(206,1097, .ref 629),(35,1100, .ref 630)],tp [],fk 4 [396,614,400,621,403,628],cO 205 205 false [1065,394,0,0,604,605,0,0,0,0,1068],⟨(.type SL.s658472552662922059x5),none, .plain,⟨[some (.ref 606),some (.ref 3),some (.ref 603),none,some (sv 204 1061),none,some (.ref 0)]⟩⟩,tp [.none]]) 609 1075 396 3 30 207 (inS 33 0) [36,187,127] (.ref 608) 204 1061 none) 616 1084 400 1 34 208 (inS 33 1) [36] .none 204 1061 none) 623 1091 403 1 206 209 (inS 33 2) [36] .none 204 1061 none) 630 [ts 1098 [187,127],dO P 4 [(27,1070,sv 204 1061),(29,1074, .int 394 1073),(30,1083, .ref 615),(34,1090, .ref 622),(206,1097, .ref 629),(35,1100, .ref 630),(47,1102, .ref 633),(48,1104, .ref 634),(5,1105, .none)],kO 205 632 1063 1071,fl_ SL.s14755015743595814543x17 [(sv 47 1101),(.ref 632),(.builtin SL.s6511155373996960695x17),(.builtin SL.s12411053484034534018x21)],fl_ SL.s14755015743595814543x17 [(sv 48 1103),(.ref 632),(.builtin SL.s10220274742760427390x26), .none],fl_ SL.s4290257624100764138x5 [(.ref 632),(.ref 632),(.ref 632)],fl_ SL.s11030030927630378310x26 [(.builtin SL.s4860613602091757760x24),(.ref 632)]]=t→BT) ?t ?h
 case h=>delta T12;simp only[mF,pts,BI,put,Nat.reduceDiv,Nat.reduceAdd,Nat.reduceSub,Nat.reduceMod,Nat.reduceEqDiff,↓reduceIte];exact rfl
 case f=>exact fun t _=>t
set_option maxHeartbeats 4000000 in
noncomputable def T14(P:Params):BT:=by
 refine(?f:(t:BT)→pts (mF (mF (mF (mF (mF (pts (BI (T13 P) [(3,g3 P 204 1061 38),(12,c12 27)]) 637 [tp [],fl_ SL.s11030030927630378310x26 [(.builtin SL.s10062305145149207511x16),(.type SL.s17162191345867700912x4)],dO P 11 [(27,1115,sv 204 1061),(28,1117,sv 210 1116),(29,1119, .int 405 1118),(30,1131, .ref 650),(125,1138, .ref 657),(211,1146, .ref 664),(212,1154, .ref 671),(126,1162, .ref 678),(213,1168, .ref 683),(34,1174, .ref 688),(35,1180, .ref 689)],tp [],fk 4 [407,649,414,656,417,663,420,670,423,677,429,682,432,687],cO 210 210 false [1110,405,0,0,640,641,0,0,0,0,1113],⟨(.type SL.s658472552662922059x5),none, .plain,⟨[some (.ref 642),some (.ref 3),some (.ref 639),none,some (sv 204 1061),none,some (.ref 0)]⟩⟩]) 644 1120 407 6 30 216 (inS 34 0) [36,43,214,215,66,106] .none 204 1061 none) 651 1132 414 1 125 217 (inS 34 1) [36] .none 204 1061 none) 658 1139 417 2 211 218 (inS 34 2) [36,77] .none 204 1061 none) 665 1147 420 2 212 219 (inS 34 3) [36,187] .none 204 1061 none) 672 1155 423 1 126 220 (inS 34 4) [36,33] .none 204 1061 none) 679 [tp [],fe [],fp 213 221 (inS 34 5),cO 213 221 true [1163,429,1,3,679,680,0,0,0,681,1166],fO 213 221 (inS 34 5) .none 204 1061 none 682,tp [],fe [],fp 34 222 (inS 34 6),cO 34 222 true [1169,432,1,3,684,685,0,0,0,686,1172],fO 34 222 (inS 34 6) .none 204 1061 none 687,ts 1175 [214,106,43,215,66],dO P 4 [(27,1115,sv 204 1061),(29,1119, .int 405 1118),(30,1131, .ref 650),(125,1138, .ref 657),(211,1146, .ref 664),(212,1154, .ref 671),(126,1162, .ref 678),(213,1168, .ref 683),(34,1174, .ref 688),(35,1180, .ref 689),(47,1182, .ref 692),(48,1184, .ref 693),(5,1185, .none)],kO 210 691 1108 1116,fl_ SL.s14755015743595814543x17 [(sv 47 1181),(.ref 691),(.builtin SL.s6511155373996960695x17),(.builtin SL.s12411053484034534018x21)],fl_ SL.s14755015743595814543x17 [(sv 48 1183),(.ref 691),(.builtin SL.s10220274742760427390x26), .none],fl_ SL.s4290257624100764138x5 [(.ref 691),(.ref 691),(.ref 691)],fl_ SL.s11030030927630378310x26 [(.builtin SL.s4860613602091757760x24),(.ref 691)]]=t→BT) ?t ?h
 case h=>delta T13;simp only[mF,pts,BI,put,Nat.reduceDiv,Nat.reduceAdd,Nat.reduceSub,Nat.reduceMod,Nat.reduceEqDiff,↓reduceIte];exact rfl
 case f=>exact fun t _=>t
set_option maxHeartbeats 4000000 in
noncomputable def T15(P:Params):BT:=by
 refine(?f:(t:BT)→BI (T14 P) [(3,g3 P 223 1188 38)]=t→BT) ?t ?h
 case h=>delta T14;simp only[mF,pts,BI,put,Nat.reduceDiv,Nat.reduceAdd,Nat.reduceSub,Nat.reduceMod,Nat.reduceEqDiff,↓reduceIte];exact rfl
 case f=>exact fun t _=>t
set_option maxHeartbeats 4000000 in
noncomputable def T16(P:Params):BT:=by
 refine(?f:(t:BT)→pts (mF (mF (mF (mF (mF (mF (mF (mF (mF (mF (mF (mF (mF (mF (mF (mF (pts (BI (T15 P) [(3,g3 P 223 1188 39),(12,c12 28)]) 696 [tp [],fl_ SL.s11030030927630378310x26 [(.builtin SL.s10062305145149207511x16),(.type SL.s17162191345867700912x4)],dO P 20 [(27,1197,sv 223 1188),(28,1199,sv 224 1198),(29,1201, .int 436 1200),(30,1212, .ref 709),(225,1220, .ref 716),(66,1228, .ref 723),(67,1236, .ref 730),(78,1244, .ref 737),(226,1251, .ref 744),(227,1259, .ref 751),(228,1266, .ref 758),(22,1273, .ref 765),(229,1282, .ref 772),(230,1290, .ref 779),(231,1297, .ref 786),(232,1309, .ref 793),(233,1320, .ref 800),(234,1330, .ref 807),(235,1340, .ref 814),(35,1354, .ref 815)],tp [],fk 4 [438,708,453,715,456,722,459,729,462,736,467,743,470,750,473,757,478,764,481,771,493,778,499,785,505,792,521,799,529,806,540,813],cO 224 224 false [1192,436,0,0,699,700,0,0,0,0,1195],⟨(.type SL.s658472552662922059x5),none, .plain,⟨[some (.ref 701),some (.ref 3),some (.ref 698),none,some (sv 223 1188),none,some (.ref 0)]⟩⟩]) 703 1202 438 5 30 237 (inS 36 0) [36,110,70,75,236] .none 223 1188 none) 710 1213 453 2 225 239 (inS 36 1) [36,238] .none 223 1188 none) 717 1221 456 2 66 240 (inS 36 2) [36,43] .none 223 1188 none) 724 1229 459 2 67 241 (inS 36 3) [36,77] .none 223 1188 none) 731 1237 462 2 78 242 (inS 36 4) [36,105] .none 223 1188 none) 738 1245 467 1 226 243 (inS 36 5) [36] .none 223 1188 none) 745 1252 470 2 227 244 (inS 36 6) [36,126] .none 223 1188 none) 752 1260 473 1 228 245 (inS 36 7) [36] .none 223 1188 none) 759 1267 478 1 22 246 (inS 36 8) [36] .none 223 1188 none) 766 1274 481 1 229 247 (inS 36 9) [36,227,43] .none 223 1188 none) 773 1283 493 1 230 248 (inS 36 10) [36,100] .none 223 1188 none) 780 1291 499 1 231 249 (inS 36 11) [36] .none 223 1188 none) 787 1298 505 1 232 251 (inS 36 12) [36,238,53,43,250,227] .none 223 1188 none) 794 1310 521 2 233 253 (inS 36 13) [36,43,252,250,227] .none 223 1188 none) 801 1321 529 3 234 254 (inS 36 14) [36,43,238,33] .none 223 1188 none) 808 1331 540 4 235 255 (inS 36 15) [36,187,127,238] .none 223 1188 none) 815 [ts 1341 [51,256,77,97,257,75,258,259,236,70,260,110,189],dO P 4 [(27,1197,sv 223 1188),(29,1201, .int 436 1200),(30,1212, .ref 709),(225,1220, .ref 716),(66,1228, .ref 723),(67,1236, .ref 730),(78,1244, .ref 737),(226,1251, .ref 744),(227,1259, .ref 751),(228,1266, .ref 758),(22,1273, .ref 765),(229,1282, .ref 772),(230,1290, .ref 779),(231,1297, .ref 786),(232,1309, .ref 793),(233,1320, .ref 800),(234,1330, .ref 807),(235,1340, .ref 814),(35,1354, .ref 815),(47,1356, .ref 818),(48,1358, .ref 819),(5,1359, .none)],kO 224 817 1190 1198,fl_ SL.s14755015743595814543x17 [(sv 47 1355),(.ref 817),(.builtin SL.s6511155373996960695x17),(.builtin SL.s12411053484034534018x21)],fl_ SL.s14755015743595814543x17 [(sv 48 1357),(.ref 817),(.builtin SL.s10220274742760427390x26), .none],fl_ SL.s4290257624100764138x5 [(.ref 817),(.ref 817),(.ref 817)],fl_ SL.s11030030927630378310x26 [(.builtin SL.s4860613602091757760x24),(.ref 817)]]=t→BT) ?t ?h
 case h=>delta T15;simp only[mF,pts,BI,put,Nat.reduceDiv,Nat.reduceAdd,Nat.reduceSub,Nat.reduceMod,Nat.reduceEqDiff,↓reduceIte];exact rfl
 case f=>exact fun t _=>t
set_option maxHeartbeats 4000000 in
noncomputable def T17(P:Params):BT:=by
 refine(?f:(t:BT)→mF (pts (mF (mF (mF (mF (pts (BI (T16 P) [(3,g3 P 261 1437 42),(12,c12 30),(817,⟨(.type SL.s17162191345867700912x4),none,(.cls ⟨(nm 224),[(.type SL.s2742458400755230247x6)],[(.ref 817),(.type SL.s2742458400755230247x6)],816,(nm 224),true,[],[(.ref 860)],false,none,false⟩),⟨[none,none,some (sv 224 1190),some (sv 224 1198),some (.builtin SL.s11443829558043349243x14),some (.bool true)]⟩⟩)]) 822 [tp [(.ref 817)],fl_ SL.s11030030927630378310x26 [(.builtin SL.s10062305145149207511x16),(.type SL.s17162191345867700912x4)],dO P 8 [(27,1369,sv 223 1188),(28,1371,sv 262 1370),(29,1373, .int 556 1372),(30,1384, .ref 836),(225,1399, .ref 843),(66,1407, .ref 850),(67,1415, .ref 857),(35,1418, .ref 858)],tp [],fk 4 [558,835,563,842,576,849,579,856],cO 262 262 false [1364,556,0,0,825,826,0,0,0,0,1367],⟨(.type SL.s658472552662922059x5),none, .plain,⟨[some (.ref 827),some (.ref 3),some (.ref 824),none,some (sv 223 1188),none,some (.ref 0)]⟩⟩,tp [(.int 2000 1374)]]) 830 1375 558 4 30 266 (inS 37 0) [36,94,110,236] (.ref 829) 223 1188 none) 837 1385 563 2 225 268 (inS 37 1) [36,238,65,100,53,38,267,43,59] .none 223 1188 none) 844 1400 576 2 66 269 (inS 37 2) [36,43] .none 223 1188 none) 851 1408 579 2 67 270 (inS 37 3) [36,77] .none 223 1188 none) 858 [ts 1416 [50,94],dO P 2 [(27,1369,sv 223 1188),(29,1373, .int 556 1372),(30,1384, .ref 836),(225,1399, .ref 843),(66,1407, .ref 850),(67,1415, .ref 857),(35,1418, .ref 858),(5,1419, .none)],⟨(.type SL.s17162191345867700912x4),none,(.cls ⟨(nm 262),[(.ref 817)],[(.ref 860),(.ref 817),(.type SL.s2742458400755230247x6)],859,(nm 262),true,[],[],false,none,false⟩),⟨[some (.ref 822),none,some (sv 262 1362),some (sv 262 1370),some (.builtin SL.s11443829558043349243x14),some (.bool true)]⟩⟩,fl_ SL.s4290257624100764138x5 [(.ref 860),(.ref 860),(.ref 860)],fl_ SL.s11030030927630378310x26 [(.builtin SL.s4860613602091757760x24),(.ref 860)]]) 863 1422 581 2 263 263 (stm 38) [94,110,271,230,272,43,273,53,274] .none 223 1188 none=t→BT) ?t ?h
 case h=>delta T16;simp only[mF,pts,BI,put,Nat.reduceDiv,Nat.reduceAdd,Nat.reduceSub,Nat.reduceMod,Nat.reduceEqDiff,↓reduceIte];exact rfl
 case f=>exact fun t _=>t
noncomputable def bY(P:Params):Obj:=dO P 4 [(276,1441, .int 1 1442),(277,1443, .int 2 1444),(278,1445, .int 0 1446),(279,1447, .int 0 1448)]
set_option maxHeartbeats 4000000 in
noncomputable def T18(P:Params):BT:=by
 refine(?f:(t:BT)→BI (T17 P) [(3,g3 P 261 1437 43),(870,(bY P))]=t→BT) ?t ?h
 case h=>delta T17;simp only[mF,pts,BI,put,Nat.reduceDiv,Nat.reduceAdd,Nat.reduceSub,Nat.reduceMod,Nat.reduceEqDiff,↓reduceIte];exact rfl
 case f=>exact fun t _=>t
noncomputable def Xr(P:Params):Obj:=cO 283 283 true [1493,601,1,3,899,900,0,901,902,903,1500]
set_option maxHeartbeats 4000000 in
noncomputable def T19(P:Params):BT:=by
 refine(?f:(t:BT)→pts (mF (pts (BI (T18 P) [(3,g3 P 261 1437 52),(12,c12 36)]) 871 [ts 1454 [289,290],tp [],tp [(sv 291 1457), .none],tp [(.ref 873)],ts 1458 [292,293],tp [(.ref 875)],tp [(sv 294 1460),(.int 1 1461)],ts 1462 [292,295],tp [(.ref 877),(.ref 878)],ts 1464 [273,290],tp [(.ref 880)],ts 1466 [273,289],ts 1468 [292,296],tp [(.ref 882),(.ref 883)],tp [(.ref 872),(.ref 874),(.ref 876),(.ref 879),(.ref 881),(.ref 884)],tp [(.int 0 1471)],tp [(.int 1 1472)],tp [(.int 2 1473)],tp [(.int 0 1474),(.int 0 1475)],tp [(.int 0 1476),(.int 1 1477)],tp [(.int 0 1478),(.int 2 1479)],tp [(.int 1 1480),(.int 0 1481)],tp [(.int 1 1482),(.int 1 1483)],tp [(.int 1 1484),(.int 2 1485)],tp [(.int 2 1486),(.int 0 1487)],tp [(.int 2 1488),(.int 1 1489)],tp [(.int 2 1490),(.int 2 1491)],tp [(.ref 886),(.ref 887),(.ref 888),(.ref 889),(.ref 890),(.ref 891),(.ref 892),(.ref 893),(.ref 894),(.ref 895),(.ref 896),(.ref 897)],tp [],fe [],ts 1496 [297,298],ts 1498 [299,22],fp 283 283 (stm 45),Xr P,fO 283 283 (stm 45) .none 261 1437 none 904,tp [],fe [],fp 284 284 (stm 46),cO 284 284 true [1503,613,2,3,906,907,0,0,0,908,1506],fO 284 284 (stm 46) .none 261 1437 none 909]) 911 1509 627 2 285 285 (stm 47) [65,50,42,43] .none 261 1437 none) 918 [tp [],fe [],fp 286 286 (stm 48),cO 286 286 true [1519,632,5,3,918,919,0,0,0,920,1522],fO 286 286 (stm 48) .none 261 1437 none 921,tp [],fe [],fp 287 287 (stm 49),cO 287 287 true [1525,668,2,3,923,924,0,0,0,925,1528],fO 287 287 (stm 49) .none 261 1437 none 926,tp [],fe [],fp 288 288 (stm 50),cO 288 288 true [1531,674,1,3,928,929,0,0,0,930,1534],fO 288 288 (stm 50) .none 261 1437 none 931]=t→BT) ?t ?h
 case h=>delta T18;simp only[mF,pts,BI,put,Nat.reduceDiv,Nat.reduceAdd,Nat.reduceSub,Nat.reduceMod,Nat.reduceEqDiff,↓reduceIte];exact rfl
 case f=>exact fun t _=>t
noncomputable def Cz:Env:={scope:=pw_nn0409_01.main.scope,locals:=mainNs,globals:=mainNs,cells:=[],code:= .ref 13,frame:=some 14}
noncomputable abbrev cE:Code:= .body (behindTheImports pw_nn0409_01) Cz
noncomputable abbrev qE:Pos:=⟨0,0,0,0⟩
noncomputable abbrev tw_seg:=PySem.W.Fast.tw10110043849684766642
noncomputable abbrev tw_tab:=PySem.W.Fast.tw14364793385576792824
noncomputable abbrev tw_execs:=PySem.W.Fast.tw12563942051412417395
noncomputable abbrev thr(l:List Stmt)(p:Pos):Thread:=⟨(tw_execs l Cz).wrap doneF deadEnd id id,cE,p,[topFrame qE]⟩
noncomputable abbrev stA(T:Params→BT)(n k:Nat)(w:World)(os:OsState):SharedT:=⟨T w.params,n,{},⟨[]⟩,boot_drawn,k,os⟩
noncomputable def Xj:List Stmt:=[stm 0,stm 1,stm 2,stm 3,stm 4]
theorem pc0:∀w:World,(fun os=>tw_seg tw_tab pw_nn0409_01 w 11 (some (.ref 6)) 1 97 (stA T0 15 187 w os) (thr Xj ⟨0,0,0,0⟩))=fun os=>some (.next,stA T1 29 214 w os,cE,⟨18,0,18,4⟩):=fun w=>by kernel_rfl
noncomputable def Xi:List Stmt:=[stm 5,stm 6]
theorem pc1:∀w:World,(fun os=>tw_seg tw_tab pw_nn0409_01 w 11 (some (.ref 6)) 1 412 (stA T1 29 214 w os) (thr Xi ⟨18,0,18,4⟩))=fun os=>some (.next,stA T2 89 293 w os,cE,⟨41,0,50,16⟩):=fun w=>by kernel_rfl
noncomputable def Xh:List Stmt:=[stm 7,stm 8,stm 9,stm 10]
theorem pc2:∀w:World,(fun os=>tw_seg tw_tab pw_nn0409_01 w 11 (some (.ref 6)) 1 293 (stA T2 89 293 w os) (thr Xh ⟨41,0,50,16⟩))=fun os=>some (.next,stA T3 122 343 w os,cE,⟨57,0,63,24⟩):=fun w=>by kernel_rfl
noncomputable def Xg:List Stmt:=[stm 11,stm 12]
theorem pc3:∀w:World,(fun os=>tw_seg tw_tab pw_nn0409_01 w 11 (some (.ref 6)) 1 401 (stA T3 122 343 w os) (thr Xg ⟨57,0,63,24⟩))=fun os=>some (.next,stA T4 178 432 w os,cE,⟨93,0,98,16⟩):=fun w=>by kernel_rfl
noncomputable def Xf:List Stmt:=[stm 13,stm 14,stm 15,stm 16,stm 17,stm 18,stm 19,stm 20]
theorem pc4:∀w:World,(fun os=>tw_seg tw_tab pw_nn0409_01 w 11 (some (.ref 6)) 1 231 (stA T4 178 432 w os) (thr Xf ⟨93,0,98,16⟩))=fun os=>some (.next,stA T5 225 503 w os,cE,⟨159,0,159,8⟩):=fun w=>by kernel_rfl
noncomputable def Xe:List Stmt:=[stm 21,stm 22]
theorem pc5:∀w:World,(fun os=>tw_seg tw_tab pw_nn0409_01 w 11 (some (.ref 6)) 1 292 (stA T5 225 503 w os) (thr Xe ⟨159,0,159,8⟩))=fun os=>some (.next,stA T6 260 555 w os,cE,⟨169,0,177,45⟩):=fun w=>by kernel_rfl
noncomputable def Xd:List Stmt:=[stm 23]
theorem pc6:∀w:World,(fun os=>tw_seg tw_tab pw_nn0409_01 w 11 (some (.ref 6)) 1 263 (stA T6 260 555 w os) (thr Xd ⟨169,0,177,45⟩))=fun os=>some (.next,stA T7 288 593 w os,cE,⟨178,0,188,29⟩):=fun w=>by kernel_rfl
noncomputable def Xc:List Stmt:=[stm 24]
theorem pc7:∀w:World,(fun os=>tw_seg tw_tab pw_nn0409_01 w 11 (some (.ref 6)) 1 214 (stA T7 288 593 w os) (thr Xc ⟨178,0,188,29⟩))=fun os=>some (.next,stA T8 300 609 w os,cE,⟨189,0,190,8⟩):=fun w=>by kernel_rfl
noncomputable def Xb:List Stmt:=[stm 25]
theorem pc8:∀w:World,(fun os=>tw_seg tw_tab pw_nn0409_01 w 11 (some (.ref 6)) 1 214 (stA T8 300 609 w os) (thr Xb ⟨189,0,190,8⟩))=fun os=>some (.next,stA T9 312 625 w os,cE,⟨191,0,192,8⟩):=fun w=>by kernel_rfl
noncomputable def Xa:List Stmt:=[stm 26,stm 27,stm 28,stm 29]
theorem pc9:∀w:World,(fun os=>tw_seg tw_tab pw_nn0409_01 w 11 (some (.ref 6)) 1 339 (stA T9 312 625 w os) (thr Xa ⟨191,0,192,8⟩))=fun os=>some (.next,stA T10 355 685 w os,cE,⟨209,0,209,3⟩):=fun w=>by kernel_rfl
noncomputable def Q0:List Stmt:=[stm 30]
theorem d5:∀w:World,(fun os=>tw_seg tw_tab pw_nn0409_01 w 11 (some (.ref 6)) 1 1619 (stA T10 355 685 w os) (thr Q0 ⟨209,0,209,3⟩))=fun os=>some (.next,stA T11 525 936 w os,cE,⟨210,0,305,25⟩):=fun w=>by kernel_rfl
noncomputable def Qz:List Stmt:=[stm 31]
theorem d0:∀w:World,(fun os=>tw_seg tw_tab pw_nn0409_01 w 11 (some (.ref 6)) 1 627 (stA T11 525 936 w os) (thr Qz ⟨210,0,305,25⟩))=fun os=>some (.next,stA T12 601 1061 w os,cE,⟨306,0,392,71⟩):=fun w=>by kernel_rfl
noncomputable def Qy:List Stmt:=[stm 32,stm 33]
theorem dz:∀w:World,(fun os=>tw_seg tw_tab pw_nn0409_01 w 11 (some (.ref 6)) 1 297 (stA T12 601 1061 w os) (thr Qy ⟨306,0,392,71⟩))=fun os=>some (.next,stA T13 637 1108 w os,cE,⟨394,0,404,17⟩):=fun w=>by kernel_rfl
noncomputable def Qx:List Stmt:=[stm 34]
theorem dy:∀w:World,(fun os=>tw_seg tw_tab pw_nn0409_01 w 11 (some (.ref 6)) 1 414 (stA T13 637 1108 w os) (thr Qx ⟨394,0,404,17⟩))=fun os=>some (.next,stA T14 696 1188 w os,cE,⟨405,0,434,84⟩):=fun w=>by kernel_rfl
noncomputable def Qw:List Stmt:=[stm 35]
theorem dw:∀w:World,(fun os=>tw_seg tw_tab pw_nn0409_01 w 11 (some (.ref 6)) 1 10 (stA T14 696 1188 w os) (thr Qw ⟨405,0,434,84⟩))=fun os=>some (.next,stA T15 696 1190 w os,cE,⟨435,0,435,8⟩):=fun w=>by kernel_rfl
noncomputable def Qv:List Stmt:=[stm 36]
theorem du:∀w:World,(fun os=>tw_seg tw_tab pw_nn0409_01 w 11 (some (.ref 6)) 1 726 (stA T15 696 1190 w os) (thr Qv ⟨435,0,435,8⟩))=fun os=>some (.next,stA T16 822 1362 w os,cE,⟨436,0,555,53⟩):=fun w=>by kernel_rfl
noncomputable def Qu:List Stmt:=[stm 37,stm 38,stm 39,stm 40]
theorem dt:∀w:World,(fun os=>tw_seg tw_tab pw_nn0409_01 w 11 (some (.ref 6)) 1 409 (stA T16 822 1362 w os) (thr Qu ⟨436,0,555,53⟩))=fun os=>some (.next,stA T17 870 1441 w os,cE,⟨596,0,596,10⟩):=fun w=>by kernel_rfl
noncomputable def JD:List Stmt:=[stm 41]
theorem Wc:∀w:World,(fun os=>tw_seg tw_tab pw_nn0409_01 (w.withFollow "special-get-raises" false) 11 (some (.ref 6)) 1 71 (stA T17 870 1441 (w.withFollow "special-get-raises" false) os) (thr JD ⟨596,0,596,10⟩))=fun os=>some (.next,stA T18 871 1454 (w.withFollow "special-get-raises" false) os,cE,⟨597,0,597,12⟩):=fun w=>by kernel_rfl
theorem Wb:∀w:World,(fun os=>tw_seg tw_tab pw_nn0409_01 (w.withFollow "special-get-raises" true) 11 (some (.ref 6)) 1 71 (stA T17 870 1441 (w.withFollow "special-get-raises" true) os) (thr JD ⟨596,0,596,10⟩))=fun os=>some (.next,stA T18 871 1454 (w.withFollow "special-get-raises" true) os,cE,⟨597,0,597,12⟩):=fun w=>by kernel_rfl
noncomputable def Qt:List Stmt:=[stm 42,stm 43,stm 44,stm 45,stm 46,stm 47,stm 48,stm 49,stm 50]
theorem dq:∀w:World,(fun os=>tw_seg tw_tab pw_nn0409_01 w 11 (some (.ref 6)) 1 285 (stA T18 871 1454 w os) (thr Qt ⟨597,0,597,12⟩))=fun os=>some (.next,stA T19 933 1537 w os,cE,⟨674,0,732,90⟩):=fun w=>by kernel_rfl
theorem V0: @segRunT=tw_seg:=PySem.W.Fast.te10110043849684766642
theorem Vz:treeTable=tw_tab:=PySem.W.Fast.te14364793385576792824
theorem O4:execs=tw_execs:=PySem.W.Fast.te12563942051412417395
theorem Dm{w:World}{n:Nat}{s s':SharedT}{l:List Stmt}{p p':Pos}(h:tw_seg tw_tab pw_nn0409_01 w 11 (some (.ref 6)) 1 n s (thr l p)=some (.next,s',cE,p')):
 segRun treeTable pw_nn0409_01 w 11 (some (.ref 6)) 1 n s.abs (piecesOf l Cz cE p [topFrame qE])=some (.next,s'.abs,cE,p'):=by
 refine segRun_of ?_
 unfold piecesOf
 rw[V0,Vz,O4];exact h
noncomputable def H1(P:Params):Heap:=absHeap (T19 P) 933 {}
noncomputable def H0(P:Params):Heap:=absHeap (T0 P) 15 {}
theorem ZO:opening pw_nn0409_01=plainProg pw_nn0409_01.main.scope.names:=by kernel_rfl
theorem W5(s:Shared):fenceModules? pw_nn0409_01 s=some s:=by kernel_rfl
theorem ZP:∀w:World,(fencedOpening treeTable pw_nn0409_01 w 20000).map (fun s=>(s.heap,s.gens,s.drawn,s.toks))=some (boot_heap w.params,Array.mk [],boot_drawn,boot_toks):=
 boot_open ZO (by kernel_rfl) W5
theorem Y5:∀w:World,((boot_heap w.params).isNs mainGlobals&&(Array.mk []:Array GenState).size==0,(boot_heap w.params).objs.size,(boot_heap w.params).nsMap mainGlobals "__annotations__")=(true,11,some (.ref 6)):=fun w=>by kernel_rfl
noncomputable def HA(P:Params):Heap:=Heap.mk ⟨[boot_o_0 P,boot_o_1 P,boot_o_2 P,boot_o_3 P,boot_o_4 P,boot_o_5 P,boot_o_6 P,boot_o_7 P,boot_o_8 P,boot_o_9 P,boot_o_10 P,o11 P,o12 P,o13 P,o14 P]⟩ {}
theorem dn:∀(w:World),(fun os=>topGo treeTable pw_nn0409_01 w 11 (some (.ref 6)) 12 ⟨boot_heap w.params,⟨[]⟩,boot_drawn,boot_toks,os⟩ (topStub pw_nn0409_01))=fun os=>some (⟨HA w.params,⟨[]⟩,boot_drawn,187,os⟩,⟨denote treeTable cE,cE,qE,[topFrame qE]⟩):=fun w=>by kernel_rfl
theorem dr:∀w:World,(fun os=>tw_seg tw_tab pw_nn0409_01 w 11 (some (.ref 6)) 1 71 (stA T17 870 1441 w os) (thr JD ⟨596,0,596,10⟩))=fun os=>some (.next,stA T18 871 1454 w os,cE,⟨597,0,597,12⟩):=byRow2 "special-get-raises" (P:=fun w=>(fun os=>tw_seg tw_tab pw_nn0409_01 w 11 (some (.ref 6)) 1 71 (stA T17 870 1441 w os) (thr JD ⟨596,0,596,10⟩))=fun os=>some (.next,stA T18 871 1454 w os,cE,⟨597,0,597,12⟩)) Wc Wb
noncomputable def RH:List Stmt:=[]
theorem ZE(w:World)(os:OsState):topRun treeTable pw_nn0409_01 w 11 (some (.ref 6)) 2 (stA T19 933 1537 w os).abs (restOf RH Cz cE ⟨674,0,732,90⟩ [topFrame qE])=some ⟨H1 w.params,⟨[]⟩,boot_drawn,1537,os⟩:=by
 kernel_rfl
noncomputable def RI:List Stmt:=Qt++RH
theorem ZF(w:World)(os:OsState):topRun treeTable pw_nn0409_01 w 11 (some (.ref 6)) (285+2) (stA T18 871 1454 w os).abs (restOf RI Cz cE ⟨597,0,597,12⟩ [topFrame qE])=some ⟨H1 w.params,⟨[]⟩,boot_drawn,1537,os⟩:=
 piece_app (l:=Qt) (rest:=RH) (Dm (congrFun (dq w) os)) (ZE w os)
noncomputable def RJ:List Stmt:=JD++RI
theorem ZG(w:World)(os:OsState):topRun treeTable pw_nn0409_01 w 11 (some (.ref 6)) (71+287) (stA T17 870 1441 w os).abs (restOf RJ Cz cE ⟨596,0,596,10⟩ [topFrame qE])=some ⟨H1 w.params,⟨[]⟩,boot_drawn,1537,os⟩:=
 piece_app (l:=JD) (rest:=RI) (Dm (congrFun (dr w) os)) (ZF w os)
noncomputable def RK:List Stmt:=Qu++RJ
theorem ZH(w:World)(os:OsState):topRun treeTable pw_nn0409_01 w 11 (some (.ref 6)) (409+358) (stA T16 822 1362 w os).abs (restOf RK Cz cE ⟨436,0,555,53⟩ [topFrame qE])=some ⟨H1 w.params,⟨[]⟩,boot_drawn,1537,os⟩:=
 piece_app (l:=Qu) (rest:=RJ) (Dm (congrFun (dt w) os)) (ZG w os)
noncomputable def RL:List Stmt:=Qv++RK
theorem ZI(w:World)(os:OsState):topRun treeTable pw_nn0409_01 w 11 (some (.ref 6)) (726+767) (stA T15 696 1190 w os).abs (restOf RL Cz cE ⟨435,0,435,8⟩ [topFrame qE])=some ⟨H1 w.params,⟨[]⟩,boot_drawn,1537,os⟩:=
 piece_app (l:=Qv) (rest:=RK) (Dm (congrFun (du w) os)) (ZH w os)
noncomputable def RM:List Stmt:=Qw++RL
theorem ZJ(w:World)(os:OsState):topRun treeTable pw_nn0409_01 w 11 (some (.ref 6)) (10+1493) (stA T14 696 1188 w os).abs (restOf RM Cz cE ⟨405,0,434,84⟩ [topFrame qE])=some ⟨H1 w.params,⟨[]⟩,boot_drawn,1537,os⟩:=
 piece_app (l:=Qw) (rest:=RL) (Dm (congrFun (dw w) os)) (ZI w os)
noncomputable def RN:List Stmt:=Qx++RM
theorem ZK(w:World)(os:OsState):topRun treeTable pw_nn0409_01 w 11 (some (.ref 6)) (414+1503) (stA T13 637 1108 w os).abs (restOf RN Cz cE ⟨394,0,404,17⟩ [topFrame qE])=some ⟨H1 w.params,⟨[]⟩,boot_drawn,1537,os⟩:=
 piece_app (l:=Qx) (rest:=RM) (Dm (congrFun (dy w) os)) (ZJ w os)
noncomputable def RO:List Stmt:=Qy++RN
theorem ZL(w:World)(os:OsState):topRun treeTable pw_nn0409_01 w 11 (some (.ref 6)) (297+1917) (stA T12 601 1061 w os).abs (restOf RO Cz cE ⟨306,0,392,71⟩ [topFrame qE])=some ⟨H1 w.params,⟨[]⟩,boot_drawn,1537,os⟩:=
 piece_app (l:=Qy) (rest:=RN) (Dm (congrFun (dz w) os)) (ZK w os)
noncomputable def RP:List Stmt:=Qz++RO
theorem ZM(w:World)(os:OsState):topRun treeTable pw_nn0409_01 w 11 (some (.ref 6)) (627+2214) (stA T11 525 936 w os).abs (restOf RP Cz cE ⟨210,0,305,25⟩ [topFrame qE])=some ⟨H1 w.params,⟨[]⟩,boot_drawn,1537,os⟩:=
 piece_app (l:=Qz) (rest:=RO) (Dm (congrFun (d0 w) os)) (ZL w os)
noncomputable def RQ:List Stmt:=Q0++RP
theorem ZN(w:World)(os:OsState):topRun treeTable pw_nn0409_01 w 11 (some (.ref 6)) (1619+2841) (stA T10 355 685 w os).abs (restOf RQ Cz cE ⟨209,0,209,3⟩ [topFrame qE])=some ⟨H1 w.params,⟨[]⟩,boot_drawn,1537,os⟩:=
 piece_app (l:=Q0) (rest:=RP) (Dm (congrFun (d5 w) os)) (ZM w os)
noncomputable def X8:List Stmt:=Xa++RQ
theorem dY(w:World)(os:OsState):topRun treeTable pw_nn0409_01 w 11 (some (.ref 6)) (339+4460) (stA T9 312 625 w os).abs (restOf X8 Cz cE ⟨191,0,192,8⟩ [topFrame qE])=some ⟨H1 w.params,⟨[]⟩,boot_drawn,1537,os⟩:=
 piece_app (l:=Xa) (rest:=RQ) (Dm (congrFun (pc9 w) os)) (ZN w os)
noncomputable def X9:List Stmt:=Xb++X8
theorem dZ(w:World)(os:OsState):topRun treeTable pw_nn0409_01 w 11 (some (.ref 6)) (214+4799) (stA T8 300 609 w os).abs (restOf X9 Cz cE ⟨189,0,190,8⟩ [topFrame qE])=some ⟨H1 w.params,⟨[]⟩,boot_drawn,1537,os⟩:=
 piece_app (l:=Xb) (rest:=X8) (Dm (congrFun (pc8 w) os)) (dY w os)
noncomputable def YA:List Stmt:=Xc++X9
theorem da(w:World)(os:OsState):topRun treeTable pw_nn0409_01 w 11 (some (.ref 6)) (214+5013) (stA T7 288 593 w os).abs (restOf YA Cz cE ⟨178,0,188,29⟩ [topFrame qE])=some ⟨H1 w.params,⟨[]⟩,boot_drawn,1537,os⟩:=
 piece_app (l:=Xc) (rest:=X9) (Dm (congrFun (pc7 w) os)) (dZ w os)
noncomputable def YB:List Stmt:=Xd++YA
theorem db(w:World)(os:OsState):topRun treeTable pw_nn0409_01 w 11 (some (.ref 6)) (263+5227) (stA T6 260 555 w os).abs (restOf YB Cz cE ⟨169,0,177,45⟩ [topFrame qE])=some ⟨H1 w.params,⟨[]⟩,boot_drawn,1537,os⟩:=
 piece_app (l:=Xd) (rest:=YA) (Dm (congrFun (pc6 w) os)) (da w os)
noncomputable def YC:List Stmt:=Xe++YB
theorem dc(w:World)(os:OsState):topRun treeTable pw_nn0409_01 w 11 (some (.ref 6)) (292+5490) (stA T5 225 503 w os).abs (restOf YC Cz cE ⟨159,0,159,8⟩ [topFrame qE])=some ⟨H1 w.params,⟨[]⟩,boot_drawn,1537,os⟩:=
 piece_app (l:=Xe) (rest:=YB) (Dm (congrFun (pc5 w) os)) (db w os)
noncomputable def YD:List Stmt:=Xf++YC
theorem de(w:World)(os:OsState):topRun treeTable pw_nn0409_01 w 11 (some (.ref 6)) (231+5782) (stA T4 178 432 w os).abs (restOf YD Cz cE ⟨93,0,98,16⟩ [topFrame qE])=some ⟨H1 w.params,⟨[]⟩,boot_drawn,1537,os⟩:=
 piece_app (l:=Xf) (rest:=YC) (Dm (congrFun (pc4 w) os)) (dc w os)
noncomputable def YE:List Stmt:=Xg++YD
theorem dg(w:World)(os:OsState):topRun treeTable pw_nn0409_01 w 11 (some (.ref 6)) (401+6013) (stA T3 122 343 w os).abs (restOf YE Cz cE ⟨57,0,63,24⟩ [topFrame qE])=some ⟨H1 w.params,⟨[]⟩,boot_drawn,1537,os⟩:=
 piece_app (l:=Xg) (rest:=YD) (Dm (congrFun (pc3 w) os)) (de w os)
noncomputable def YF:List Stmt:=Xh++YE
theorem dh(w:World)(os:OsState):topRun treeTable pw_nn0409_01 w 11 (some (.ref 6)) (293+6414) (stA T2 89 293 w os).abs (restOf YF Cz cE ⟨41,0,50,16⟩ [topFrame qE])=some ⟨H1 w.params,⟨[]⟩,boot_drawn,1537,os⟩:=
 piece_app (l:=Xh) (rest:=YE) (Dm (congrFun (pc2 w) os)) (dg w os)
noncomputable def YG:List Stmt:=Xi++YF
theorem di(w:World)(os:OsState):topRun treeTable pw_nn0409_01 w 11 (some (.ref 6)) (412+6707) (stA T1 29 214 w os).abs (restOf YG Cz cE ⟨18,0,18,4⟩ [topFrame qE])=some ⟨H1 w.params,⟨[]⟩,boot_drawn,1537,os⟩:=
 piece_app (l:=Xi) (rest:=YF) (Dm (congrFun (pc1 w) os)) (dh w os)
noncomputable def cat0:List Stmt:=Xj++YG
theorem dj(w:World)(os:OsState):topRun treeTable pw_nn0409_01 w 11 (some (.ref 6)) (97+7119) (stA T0 15 187 w os).abs (restOf cat0 Cz cE ⟨0,0,0,0⟩ [topFrame qE])=some ⟨H1 w.params,⟨[]⟩,boot_drawn,1537,os⟩:=
 piece_app (l:=Xj) (rest:=YG) (Dm (congrFun (pc0 w) os)) (di w os)
theorem Ts:behindTheImports pw_nn0409_01=cat0:=by kernel_rfl
theorem XK(w:World)(os:OsState):segRun treeTable pw_nn0409_01 w 11 (some (.ref 6)) 1 1 ⟨HA w.params,⟨[]⟩,boot_drawn,187,os⟩ (blockOf (behindTheImports pw_nn0409_01) Cz cE qE [topFrame qE])=some (.next,(stA T0 15 187 w os).abs,cE,qE):=by kernel_rfl
theorem dW(w:World)(os:OsState):topRun treeTable pw_nn0409_01 w 11 (some (.ref 6)) (1+7216) ⟨HA w.params,⟨[]⟩,boot_drawn,187,os⟩ ⟨denote treeTable cE,cE,qE,[topFrame qE]⟩=some ⟨H1 w.params,⟨[]⟩,boot_drawn,1537,os⟩:=
 piece_block (XK w os) (by rw[Ts];exact dj w os)
theorem dX(w:World)(os:OsState):topRun treeTable pw_nn0409_01 w 11 (some (.ref 6)) (12+(1+7216)) ⟨boot_heap w.params,⟨[]⟩,boot_drawn,boot_toks,os⟩ (topStub pw_nn0409_01)=some ⟨H1 w.params,⟨[]⟩,boot_drawn,1537,os⟩:=
 go_top (congrFun (dn w) os) (dW w os)
noncomputable def qv:Program:={pw_nn0409_01 with main:={pw_nn0409_01.main with body:=[stm 50]}}
noncomputable def lz:List Str:=pw_nn0409_01.boundNames.filter fun n=> !startupNames.contains n&&n !=Str.ofString "law"
noncomputable abbrev tw_seen:=PySem.W.Fast.tw4187177175401517315
theorem R1: @openSeen= @tw_seen:=PySem.W.Fast.te4187177175401517315
theorem ZW:∀w:World,(fun os=>staticsOk (importedModules pw_nn0409_01.main.body) (boot_heap w.params) (H1 w.params))=fun(os:OsState)=>true:=fun w=>by kernel_rfl
theorem ZV:∀w:World,(fun os=>namesBound pw_nn0409_01 (H1 w.params))=fun(os:OsState)=>true:=fun w=>by kernel_rfl
theorem ZU:∀w:World,(fun os=>laidKept (boot_heap w.params) (H1 w.params))=fun(os:OsState)=>true:=fun w=>by kernel_rfl
theorem ZT:∀w:World,(fun os=>tw_seen qv lz (importedModules pw_nn0409_01.main.body) (fun _=>true) true ⟨H1 w.params,⟨[]⟩,boot_drawn,1537,os⟩)=fun(os:OsState)=>openGood qv lz:=fun w=>by kernel_rfl
noncomputable abbrev pw:=pw_nn0409_01
noncomputable abbrev qw:OpenLaw:=rw_nn0409_01
theorem gd1(w:World)(os:OsState):gensDone ⟨H1 w.params,⟨[]⟩,boot_drawn,1537,os⟩=true:=rfl
theorem Wm:∀w:World,(fun os=>((staticsOk (importedModules pw.main.body) (boot_heap w.params) (H1 w.params)&&namesBound pw (H1 w.params)&&gensDone ⟨H1 w.params,⟨[]⟩,boot_drawn,1537,os⟩&&laidKept (boot_heap w.params) (H1 w.params)),
 openSeen qv lz (importedModules pw.main.body) (fun _=>true) true ⟨H1 w.params,⟨[]⟩,boot_drawn,1537,os⟩,(fun s:Shared=>s.heap) ⟨H1 w.params,⟨[]⟩,boot_drawn,1537,os⟩))=fun _=>(true,openGood qv lz,(fun w:World=>H1 w.params) w):=fun w=>by
 funext os
 have a:=congrFun (ZW w) os
 have b:=congrFun (ZV w) os
 have c:=congrFun (ZU w) os
 have d:=congrFun (ZT w) os
 rw[R1,a,b,c,gd1 w os,d];rfl
theorem Ul:LeftO pw qv lz (fun _=>true) (fun s:Shared=>s.heap) (fun w:World=>H1 w.params) 20000:=
 LeftO.of_pieces (H₀:=boot_heap) (H₁:=H1) (gs₀:=⟨[]⟩) (gs₁:=⟨[]⟩) (d₀:=boot_drawn) (d₁:=boot_drawn) (k₀:=boot_toks) (k₁:=1537) (m₀:=11) (ann:=some (.ref 6)) (M:=12+(1+7216))
  ZP Y5 dX (by kernel_rfl) Wm
noncomputable abbrev tw_said:=PySem.W.Fast.tw9446332074065402090
theorem R2: @OpenLaw.wellSaid= @tw_said:=PySem.W.Fast.te9446332074065402090
theorem Y7:tw_said rw_nn0409_01=true:=by kernel_rfl
theorem UC:rw_nn0409_01.wellSaid=true:=by rw[R2];exact Y7
noncomputable abbrev rr:OpenRow:=rw_nn0409_01.row
noncomputable def IL:DefRec:=⟨Str.ofString "law",EJ (stm 50),BH (stm 50),AZ (stm 50),⟨674,0,732,90⟩⟩
theorem Qk:defOf qv rr.name=some (IL,[]):=by kernel_rfl
theorem Ma:rr.prog.theDef rr.name=some (IL.params,IL.body,IL.scope):=by kernel_rfl
theorem bl:kwWritten? IL.params.kwonlyargs IL.params.kw_defaults=some []:=by kernel_rfl
theorem ok_:(chainsOk qv&&opensWell rr.prog&&(frees rr.toRowW&&rr.within.isEmpty))=true:=by kernel_rfl
noncomputable def cX(w:World)(h:Heap):Prop:=∀b o,(H1 w.params).get? b=some o→h.get? b=some o
theorem gG(call:WalkO qv lz (fun _ _=>True) cX rr.toRowW IL [] fun f vs=>PySem.call f vs):rw_nn0409_01.Holds:=by
 refine holds_law UC fun _=>holds_open (q:=qv) (loose:=lz) (Xt:=fun _=>true) (XP:=fun _ _=>True) (Yf:=fun s:Shared=>s.heap) (Ya:=fun w:World=>H1 w.params) (YP:=cX) (N:=20000) (d:=IL) (kwd:=[])
  Ul (fun w s e b o h=>by rw[e];exact h) (fun w h h' x k b o e=>k _ _ (x _ _ e)) (fun _ _=>trivial) (fun _ _ _ _ _=>trivial) Qk Ma bl (fun _ _=>recFacts_nil rfl) rfl ?_ ok_ ⟨rfl,rfl,rfl,rfl,rfl,by decide+kernel⟩ ?_ call
 ·exact row_said UC
 ·w_witness2
set_option autoImplicit false
noncomputable def KT(P:Params):Frag:=List.map (fun k=>(k,((T19 P).get k).getD (tp []))) [0,1,2,3,20,21,27,28,41,42,48,49,55,56,62,63,67,68,72,73,75,76,81,87,88,94,95,99,100,113,114,116,117,134,135,141,142,148,149,155,156,162,163,165,166,176,177,183,184,190,191,197,198,202,203,209,210,216,217,223,224,237,238,244,245,247,248,258,259,267,273,274,280,281,283,284,296,297,308,309,319,325,326,332,333,339,340,342,343,353,354,367,368,374,375,377,384,385,387,394,395,397,402,403,405,412,413,415,422,423,425,432,433,439,440,446,447,453,454,460,461,467,468,474,475,481,482,488,489,495,496,502,503,509,510,516,517,519,520,537,538,544,545,547,554,555,561,562,568,569,575,576,582,583,587,588,592,593,595,596,608,614,615,621,622,628,629,631,632,649,650,656,657,663,664,670,671,677,678,682,683,687,688,690,691,708,709,715,716,722,723,729,730,736,737,743,744,750,751,757,758,764,765,771,772,778,779,785,786,792,793,799,800,806,807,813,814,816,817,829,835,836,842,843,849,850,856,857,859,860,868,869,870,871,872,873,874,875,876,877,878,879,880,881,882,883,884,885,886,887,888,889,890,891,892,893,894,895,896,897,898,899,904,905,909,910,916,917,921,922,926,927,931,932]
theorem Ws(P:Params):((KT P).map fun p=>(Nat.blt p.1 933,((T19 P).get p.1),((T19 P).get p.1).bind alive))=(KT P).map fun p=>(true,some p.2,some p.2):=by kernel_rfl
theorem MN{P:Params}{a:Addr}{o:Obj}(h:(KT P).lookup a=some o):(H1 P).get? a=some o:=by
 have m:(a,o)∈KT P:=by
  revert h
  generalize KT P=K
  intro h
  induction K with
  |nil=>cases h
  |cons p r ih=>
   obtain⟨b,x⟩:=p
   simp only[List.lookup]at h
   split at h
   ·rename_i q;cases h;rw[beq_iff_eq.mp q];exact List.mem_cons_self
   ·exact List.mem_cons_of_mem _ (ih h)
 have e:=Ws P
 have e2:(Nat.blt a 933,((T19 P).get a),((T19 P).get a).bind alive)=(true,some o,some o):=by
  have:=List.map_inj_left.mp e (a,o) m
  exact this
 obtain⟨x1,x2,x3⟩:_∧_∧_:=by simpa only[Prod.mk.injEq]using e2
 have lt:a<933:=by simpa using x1
 unfold H1
 rw[abs_get lt x2]
 rw[x2]at x3;exact x3
set_option tactic.hygienic false
set_option genCtorIdx true in
inductive Tr where
 |none
 |bool (b:Bool)
 |int (i:Int)
 |str (s:Str)
 |fn (a:Addr)
 |tup (ts:List Tr)
 |fl (ts:List Tr)
 |fd (ks:List Int) (ts:List Tr)
 |fs (ks:List Str) (ts:List Tr)
 |fi (C:Addr) (ks:List Nat) (ts:List Tr)
set_option genCtorIdx true in
inductive V where
 |t (x:Tr)
 |ref (i:Nat)
 |clo (us:List Tr) (i:Nat)
 |rg (a b c:Int)
 |view (k:Bool) (v:V)
set_option genCtorIdx true in
inductive TO where
 |list (vs:List Tr)
 |refs (is:List Nat)
 |dict (es:List (Int×Tr))
 |set (xs:List Int)
 |inst (C:Addr)
 |flds (fs:List (Nat×V))
 |gone
 |raw (o:Obj)
 |tab
noncomputable abbrev vi(i:Int):V:= .t (.int i)
noncomputable abbrev vb(b:Bool):V:= .t (.bool b)
noncomputable abbrev vs(s:Str):V:= .t (.str s)
noncomputable abbrev vn:V:= .t .none
noncomputable abbrev LH:=List TO
noncomputable abbrev Rho:=List (Nat×V)
inductive Fl where
 |next|brk|cont
 |ret (v:V)
noncomputable abbrev Post:=V→LH→Prop
noncomputable abbrev KT':=V→List V→Post→LH→Prop
noncomputable abbrev QS:=Fl→Rho→LH→Prop
noncomputable def Ax{α:Type}:Option α→(α→Prop)→Prop
 |some a,k=>k a
 |none,_=>False
noncomputable def D3{α:Type}:Option α→(α→Prop)→Prop
 |some a,k=>k a
 |none,_=>False
noncomputable def tru:Bool→Prop→Prop
 |true,p=>p
 |false,_=>False
noncomputable def ifB:Bool→Prop→Prop→Prop
 |true,p,_=>p
 |false,_,q=>q
noncomputable def Rb{α:Type}:List α→(α→Prop)→Prop
 |[],_=>False
 |a::r,P=>match r with
  |[]=>P a
  |_::_=>False
noncomputable def tW(P:Tr→Prop):V→Prop
 | .t x=>P x
 |_=>False
noncomputable def Fz(P:Nat→Prop):V→Prop
 | .ref l=>P l
 |_=>False
noncomputable def eW(P:Int→Prop):Tr→Prop
 | .int i=>P i
 |_=>False
noncomputable def cw(P:Str→Prop):Tr→Prop
 | .str i=>P i
 |_=>False
noncomputable def cr(P:List Tr→Prop):Tr→Prop
 | .tup i=>P i
 |_=>False
noncomputable def flT(P:List Tr→Prop):Tr→Prop
 | .fl i=>P i
 |_=>False
noncomputable abbrev Ca(P:Int→Prop):V→Prop:=tW (eW P)
noncomputable abbrev NL(P:Str→Prop):V→Prop:=tW (cw P)
noncomputable abbrev RW(P:List Tr→Prop):V→Prop:=tW (cr P)
noncomputable abbrev flW(P:List Tr→Prop):V→Prop:=tW (flT P)
noncomputable def tOf:V→Option Tr
 | .t x=>some x
 |_=>none
noncomputable def IC:List V→Option (List Tr)
 |[]=>some []
 |v::r=>(tOf v).bind fun x=>(IC r).map (x::·)
noncomputable def rOf:V→Option Nat
 | .ref i=>some i
 |_=>none
noncomputable def RY:List V→Option (List Nat)
 |[]=>some []
 |v::r=>(rOf v).bind fun x=>(RY r).map (x::·)
noncomputable def DX(Q:V→LH→Prop):Fl→Rho→LH→Prop
 | .ret v,_,L=>Q v L
 |_,_,L=>Q vn L
noncomputable def NY(k:Rho→LH→Prop)(Q:QS):QS
 | .next,ρ,L=>k ρ L
 |f,ρ,L=>Q f ρ L
noncomputable def AW:Rho→Nat→Option V
 |[],_=>none
 |p::r,x=>bif Nat.beq p.1 x then some p.2 else AW r x
noncomputable def Bk:Rho→Nat→V→Rho
 |[],x,v=>[(x,v)]
 |p::r,x,v=>bif Nat.beq p.1 x then(p.1,v)::r else p::Bk r x v
noncomputable def D4(ρ:Rho):List Nat→List Tr→Rho
 |[],_=>ρ
 |k::ks,l=>match l with
  |[]=>ρ
  |x::r=>D4 (Bk ρ k (.t x)) ks r
noncomputable def Cs(fr:List Nat):Rho→Rho
 |[]=>[]
 |p::r=>bif fr.any (Nat.beq p.1)then p::Cs fr r else Cs fr r
noncomputable def Bs(n:Nat):V→Bool
 | .t _=>true
 | .ref i=>Nat.blt i n
 | .clo _ i=>Nat.blt i n
 | .rg _ _ _=>true
 | .view _ v=>Bs n v
noncomputable def clT(n m:Nat):TO→Bool
 | .refs is=>is.all fun i=>Nat.blt i n
 | .flds fs=>fs.all fun p=>Bs n p.2
 | .inst _=>Nat.blt 0 m
 |_=>true
noncomputable def clL(n:Nat):Nat→LH→Bool
 |0,_=>true
 |m+1,l=>match l with
  |[]=>true
  |x::r=>bif clT n m x then clL n m r else false
noncomputable def cut(n:Nat)(L:LH):LH:=bif clL n n L then L.take n else L
noncomputable def Ue(n k:Nat)(r:Rho):Option V→Rho
 |some v=>bif Bs n v then(k,v)::r else r
 |none=>r
noncomputable def Cy:Rho→Nat→Rho→Rho
 |[],_,_=>[]
 |p::r,n,ρ=>Ue n p.1 (Cy r n ρ) (AW ρ p.1)
noncomputable def Oo:List Nat→List Tr→Nat→Option Tr
 |[],_,_=>none
 |k::ks,l,x=>match l with
  |[]=>none
  |t::ts=>bif Nat.beq k x then some t else Oo ks ts x
noncomputable def ED:List Int→List Tr→Int→Option Tr
 |[],_,_=>none
 |k::ks,l,x=>match l with
  |[]=>none
  |t::ts=>if k=x then some t else ED ks ts x
noncomputable def RF:List (Int×Tr)→Int→Option Tr
 |[],_=>none
 |p::r,x=>if p.1=x then some p.2 else RF r x
noncomputable def Lv:List Nat→List Nat→Bool
 |[],[]=>true
 |a::l,b::m=>bif Nat.beq a b then Lv l m else false
 |_,_=>false
noncomputable def C5(x y:Str):Bool:=Lv x.cps.toList y.cps.toList
noncomputable def Oj:List Str→List Tr→Str→Option Tr
 |[],_,_=>none
 |k::ks,l,x=>match l with
  |[]=>none
  |t::ts=>bif C5 k x then some t else Oj ks ts x
noncomputable def bf:Tr→Option (List Tr)
 | .fl ts=>some ts
 |_=>none
noncomputable def GL:Option TO→Option (List Tr)
 |some (.list ts)=>some ts
 |_=>none
noncomputable def Bp(L:LH):V→Option (List Tr)
 | .t x=>bf x
 | .ref i=>GL L[i]?
 |_=>none
noncomputable def dE:Tr→Option (List Tr)
 | .fl ts=>some ts
 | .tup ts=>some ts
 |_=>none
noncomputable def Ub(L:LH):V→Option (List Tr)
 | .t x=>dE x
 | .ref i=>GL L[i]?
 |_=>none
noncomputable def eA(K:Nat→Prop):Tr→Prop
 | .str x=>x.length≤1048576∧K x.length
 | .tup ts=>K ts.length
 | .fl ts=>K ts.length
 |_=>False
noncomputable def bh(K:Nat→Prop):Option TO→Prop
 |some (.list ts)=>K ts.length
 |some (.dict es)=>K es.length
 |_=>False
noncomputable def bg(L:LH)(K:Nat→Prop):V→Prop
 | .t x=>eA K x
 | .ref i=>bh K L[i]?
 |_=>False
noncomputable def cv:Tr→Option Bool
 | .none=>some false
 | .bool b=>some b
 | .int i=>some (i !=0)
 | .tup ts=>some (!ts.isEmpty)
 | .fl ts=>some (!ts.isEmpty)
 |_=>none
noncomputable def XY(L:LH):V→Option Bool
 | .t x=>cv x
 | .ref i=>(GL L[i]?).map (!·.isEmpty)
 |_=>none
noncomputable def Dw:List Tr→Option (List Int)
 |[]=>some []
 | .int i::r=>(Dw r).map (i::·)
 |_=>none
noncomputable def ZY:Tr→Option (List Int)
 | .fl ts=>Dw ts
 | .fd ks _=>some ks
 |_=>none
noncomputable def Un:Option TO→Option (List Int)
 |some (.list ts)=>Dw ts
 |some (.dict es)=>some (es.map (·.1))
 |some (.set xs)=>some xs
 |_=>none
noncomputable def QW(L:LH):V→Option (List Int)
 | .t x=>ZY x
 | .ref i=>Un L[i]?
 |_=>none
noncomputable def LG:Tr→Bool
 | .none=>true
 |_=>false
noncomputable def MM:V→Bool
 | .t x=>LG x
 |_=>false
noncomputable def rgs(a b c:Int):List Tr:=(List.range (Builtin.Range.rangeSize a b c).toNat).map fun i=>Tr.int (a+(i:Nat)*c)
noncomputable def Hp(a b c:Int):Option (List Tr):=if Builtin.Range.small a b c&&(decide (0≤Builtin.Range.rangeSize a b c)&&decide (Builtin.Range.rangeSize a b c≤1048576))then some (rgs a b c)else none
noncomputable def c9(K:List Tr→Prop):Tr→Prop
 | .fl ts=>K ts
 | .tup ts=>K ts
 | .str x=>x.length≤1048576∧K (x.cps.toList.map fun c=>Tr.str ⟨#[c]⟩)
 |_=>False
noncomputable def Jt(K:List Tr→Prop):V→Prop
 | .t x=>c9 K x
 | .rg a b c=>∃l,Hp a b c=some l∧K l
 |_=>False
noncomputable def Re(L:LH)(i:Nat):Option TO→V×LH
 |some (.list ts)=>(.t (.fl ts),L.set i .gone)
 |some (.dict es)=>(.t (.fd (es.map (·.1)) (es.map (·.2))),L.set i .gone)
 |_=>(.ref i,L)
noncomputable def frz(L:LH):V→V×LH
 | .ref i=>Re L i L[i]?
 |v=>(v,L)
noncomputable def Jx:LH→List (Nat×V)→Option (List Tr)×LH
 |L,[]=>(some [],L)
 |L,p::r=>((tOf (frz L p.2).1).bind fun x=>(Jx (frz L p.2).2 r).1.map (x::·),(Jx (frz L p.2).2 r).2)
noncomputable def bv(C:Addr)(L:LH)(P:Tr→Prop):Option TO→Prop
 |some (.flds fs)=>Ax (Jx L fs).1 fun ts=>P (.fi C (fs.map (·.1)) ts)
 |_=>False
noncomputable def On(L:LH)(P:Tr→Prop):Option TO→Prop
 |some (.inst C)=>bv C L P L[1]?
 |_=>False
noncomputable def arW(op:Operator)(i j:Int)(Q:Tr→Prop):Prop:=match op with
 | .Add=>Q (.int (i+j))
 | .Sub=>Q (.int (i-j))
 | .Mult=>(i.natAbs<2^60∨j.natAbs<2^60)∧Q (.int (i*j))
 | .FloorDiv=>j≠0∧j.natAbs.log2<9000∧Q (.int (i.fdiv j))
 | .Mod=>j≠0∧Q (.int (i.fmod j))
 | .Pow=>0≤j∧j≤1000∧i.natAbs<2^60∧Q (.int (i^j.toNat))
 | .LShift=>0≤j∧j≤1000000∧i.natAbs<2^60∧Q (.int (i*2^j.toNat))
 | .BitXor=>Q (.int (Builtin.bitXor i j))
 |_=>False
noncomputable def fE(op:Operator)(x y:Str)(Q:Tr→Prop):Prop:=match op with
 | .Add=>x.length+y.length≤1048576∧Q (.str (x++y))
 |_=>False
noncomputable def B7(x:TO)(Q:Post)(L:LH):Prop:=Q (.ref L.length) (L++[x])
noncomputable def Va(op:Operator)(j:Int)(Q:Post)(L:LH)(ts:List Tr):Prop:=match op with
 | .Mult=>Rb ts fun t=>0≤j∧j≤1000∧B7 (.list (List.replicate j.toNat t)) Q L
 |_=>False
noncomputable def X7(op:Operator)(b:V)(Q:Post)(L:LH)(ts:List Tr):Prop:=match op with
 | .Add=>Ax (Bp L b) fun us=>ts.length+us.length≤1048576∧B7 (.list (ts++us)) Q L
 |_=>False
noncomputable def gB(op:Operator)(i:Int)(Q:Tr→Prop):V→Prop:=Ca fun j=>arW op i j Q
noncomputable def f8(op:Operator)(x:Str)(Q:Tr→Prop):V→Prop:=NL fun y=>fE op x y Q
noncomputable def az(op:Operator)(b:V)(Q:Post)(L:LH)(ts:List Tr):Tr→Prop
 | .int j=>Va op j Q L ts
 |_=>X7 op b Q L ts
noncomputable def YJ(op:Operator)(Q:Post)(L:LH)(ts:List Tr):V→Prop
 | .t x=>az op (.t x) Q L ts x
 | .ref i=>X7 op (.ref i) Q L ts
 |_=>False
noncomputable def f7(op:Operator)(b:V)(Q:Post)(L:LH):Tr→Prop
 | .int i=>gB op i (fun v=>Q (.t v) L) b
 | .str x=>f8 op x (fun v=>Q (.t v) L) b
 | .fl ts=>YJ op Q L ts b
 |_=>False
noncomputable def cR(op:Operator)(a b:V)(Q:Post)(L:LH):Prop:=match a with
 | .t x=>f7 op b Q L x
 | .ref i=>Ax (GL L[i]?) fun ts=>YJ op Q L ts b
 |_=>False
noncomputable def dat:Nat→Tr→Bool
 |0,_=>false
 |_+1, .none=>true
 |_+1, .bool _=>true
 |_+1, .int _=>true
 |_+1, .str _=>true
 |k+1, .tup ts=>ts.all (dat k)
 |k+1, .fl ts=>ts.all (dat k)
 |_+1,_=>false
noncomputable def RX(ts us:List Tr)(P:Bool→Prop):Prop:=(us=[]∧P ts.isEmpty)∨(ts=us∧ts.all (dat 6)=true∧P true)
noncomputable def eqT(L:LH)(b:V)(P:Bool→Prop):Tr→Prop
 | .int i=>Ca (fun j=>P (i==j)) b
 | .str x=>NL (fun y=>P (C5 x y)) b
 | .tup ts=>RW (fun us=>RX ts us P) b
 | .fl ts=>Ax (Bp L b) fun us=>RX ts us P
 |_=>False
noncomputable def eqW(L:LH)(a b:V)(P:Bool→Prop):Prop:=match a with
 | .t x=>eqT L b P x
 | .ref i=>Ax (GL L[i]?) fun ts=>Ax (Bp L b) fun us=>RX ts us P
 |_=>False
noncomputable def Ra(a b:V)(f:Int→Int→Prop):Prop:=Ca (fun i=>Ca (fun j=>f i j) b) a
noncomputable def eM(a:V)(P:Bool→Prop):Tr→Prop
 | .none=>P (MM a)
 |_=>False
noncomputable def isW(a b:V)(P:Bool→Prop):Prop:=tW (eM a P) b
noncomputable def inW(L:LH)(a b:V)(P:Bool→Prop):Prop:=Ca (fun i=>D3 (QW L b) fun ks=>P (decide (i∈ks))) a
noncomputable def cI(op:CmpOp)(a b:V)(Q:Bool→Prop)(L:LH):Prop:=match op with
 | .Eq=>eqW L a b Q
 | .NotEq=>eqW L a b fun r=>Q (!r)
 | .Is=>isW a b Q
 | .IsNot=>isW a b fun r=>Q (!r)
 | .In=>inW L a b Q
 | .NotIn=>inW L a b fun r=>Q (!r)
 | .Lt=>Ra a b fun i j=>Q (decide (i<j))
 | .LtE=>Ra a b fun i j=>Q (decide (i≤j))
 | .Gt=>Ra a b fun i j=>Q (decide (j<i))
 | .GtE=>Ra a b fun i j=>Q (decide (j≤i))
noncomputable def CW(ts:List Tr)(k:Int):Option Tr:=if 0≤k then ts[k.toNat]? else if 0≤k+ts.length then ts[(k+ts.length).toNat]? else none
noncomputable def LB(x:Str)(k:Int):Option Nat:=(seqIndex? k x.length).bind (x.cps[·]?)
noncomputable def br(k:Int)(P:V→Prop):Option TO→Prop
 |some (.list ts)=>D3 (CW ts k) fun x=>P (.t x)
 |some (.dict es)=>D3 (RF es k) fun x=>P (.t x)
 |some (.refs is)=>D3 (if 0≤k then is[k.toNat]? else none) fun i=>P (.ref i)
 |_=>False
noncomputable def eX(k:Int)(P:V→Prop):Tr→Prop
 | .str x=>x.length≤1048576∧D3 (LB x k) fun c=>P (vs ⟨#[c]⟩)
 | .fd ks ts=>D3 (ED ks ts k) fun x=>P (.t x)
 | .tup ts=>D3 (CW ts k) fun x=>P (.t x)
 | .fl ts=>D3 (CW ts k) fun x=>P (.t x)
 |_=>False
noncomputable def eZ(L:LH)(k:Int)(P:V→Prop):V→Prop
 | .t x=>eX k P x
 | .ref i=>br k P L[i]?
 |_=>False
noncomputable def bq(x:Str)(P:V→Prop):Tr→Prop
 | .fs ks ts=>D3 (Oj ks ts x) fun x=>P (.t x)
 |_=>False
noncomputable def eY(L:LH)(a:V)(P:V→Prop):Tr→Prop
 | .int k=>eZ L k P a
 | .str x=>tW (bq x P) a
 |_=>False
noncomputable def bp(L:LH)(a i:V)(P:V→Prop):Prop:=tW (eY L a P) i
noncomputable def CZ(x:Str)(i j:Nat):Str:=⟨((x.cps.toList.drop i).take (j-i)).toArray⟩
noncomputable def bO(i j:Int)(Q:Post)(L:LH)(ts:List Tr):Prop:=0≤i∧i≤j∧j≤ts.length∧B7 (.list ((ts.drop i.toNat).take (j.toNat-i.toNat))) Q L
noncomputable def bM(i j:Int)(Q:Post)(L:LH):Tr→Prop
 | .str x=>x.length≤1048576∧0≤i∧i≤j∧j≤x.length∧Q (vs (CZ x i.toNat j.toNat)) L
 | .fl ts=>bO i j Q L ts
 |_=>False
noncomputable def bN(j:Int)(Q:Post)(L:LH)(ts:List Tr):Prop:=0≤j∧B7 (.list (ts.take j.toNat)) Q L
noncomputable def dD(a:V)(j:Int)(Q:Post)(L:LH):Tr→Prop
 | .int i=>tW (bM i j Q L) a
 | .none=>Ax (Bp L a) (bN j Q L)
 |_=>False
noncomputable def Fu(a lo hi:V)(Q:Post)(L:LH):Prop:=Ca (fun j=>tW (dD a j Q L) lo) hi
noncomputable def BX(es:List (Int×Tr))(k:Int)(v:Tr):List (Int×Tr):=if es.any (fun kv=>kv.1=k)then es.map (fun kv=>if kv.1=k then(kv.1,v)else kv)else es++[(k,v)]
set_option genCtorIdx true in
inductive Bi where
 |len|max|min|str|ord|list|tuple|set|range|sorted|dict|append|pop|rev|index|add|upd|get|join|indexT|keys|vals
noncomputable def Jw(pl:List Nat)(n:Nat):List Nat:=pl.take (SetTable.below pl.toArray n)++n::pl.drop (SetTable.below pl.toArray n)
noncomputable def Ap(pl:List Nat)(n:Nat):List Nat:=if n∈pl then pl else Jw pl n
noncomputable def Ly(xs:List Int)(i:Int):List Int:=(Ap (xs.map Int.toNat) i.toNat).map Int.ofNat
noncomputable def JF(l:List Int):List Int:=l.mergeSort (fun a b=>decide (a≤b))
noncomputable def Hy(ys:List Str)(u:Str)(j:Nat):Prop:=ys[j]? =some u∧∀m,m<j→ys[m]? ≠some u
noncomputable def UI:Option TO→Option (List Int×List Tr)
 |some (.dict es)=>some (es.map (·.1),es.map (·.2))
 |_=>none
noncomputable def e8:Tr→Option (List Int×List Tr)
 | .fd ks ts=>some (ks,ts)
 |_=>none
noncomputable def GM(L:LH):V→Option (List Int×List Tr)
 | .t x=>e8 x
 | .ref i=>UI L[i]?
 |_=>none
noncomputable def LC(ks:List Int)(Q:Post)(L:LH):Prop:=ks.length<60∧B7 (.list ((JF ks).map Tr.int)) Q L
noncomputable def UZ(Q:Post)(L:LH):Option TO→Prop
 |some (.set xs)=>B7 (.list (xs.map Tr.int)) Q L
 |some (.dict es)=>LC (es.map (·.1)) Q L
 |some (.list ts)=>Rb ts fun v=>B7 (.list [v]) Q L
 |_=>False
noncomputable def Yy(Q:Post)(L:LH):Tr→Prop
 | .fd ks _=>LC ks Q L
 |_=>False
noncomputable def UY(Q:Post)(L:LH):V→Prop
 | .t x=>Yy Q L x
 | .ref i=>UZ Q L L[i]?
 | .view true d=>Ax (GM L d) fun es=>LC es.1 Q L
 |_=>False
noncomputable def bP(Q:Post)(L:LH)(ts:List Tr):Prop:=∃ns:List Nat,ts=(ns.map Int.ofNat).map Tr.int∧(∀m∈ns,m<4)∧B7 (.set ((ns.foldl Ap []).map Int.ofNat)) Q L
noncomputable def bR(Q:Post)(L:LH):V→Prop
 | .t x=>flT (bP Q L) x
 | .view false d=>Ax (GM L d) fun es=>bP Q L es.2
 |_=>False
noncomputable def bX(l:Nat)(Q:Post)(L:LH):Option TO→Prop
 |some (.list ts)=>∃us u,ts=us++[u]∧Q (.t u) (L.set l (.list us))
 |_=>False
noncomputable def bV(l:Nat)(Q:Post)(L:LH):Option TO→Prop
 |some (.list ts)=>Q vn (L.set l (.list ts.reverse))
 |_=>False
noncomputable def cV(l:Nat)(x:Tr)(Q:Post)(L:LH):Option TO→Prop
 |some (.list ts)=>ts.length+1≤1048576∧Q vn (L.set l (.list (ts++[x])))
 |_=>False
noncomputable def cW(l:Nat)(i:Int)(Q:Post)(L:LH):Option TO→Prop
 |some (.set xs)=>(0≤i∧i<4)∧Q vn (L.set l (.set (Ly xs i)))
 |_=>False
noncomputable def bJ(l:Nat)(ts:List Tr)(Q:Post)(L:LH):Option TO→Prop
 |some (.set xs)=>∃ns:List Nat,ts=(ns.map Int.ofNat).map Tr.int∧(∀m∈ns,m<4)∧Q vn (L.set l (.set ((ns.foldl Ap (xs.map Int.toNat)).map Int.ofNat)))
 |_=>False
noncomputable def cC(Q:Post)(L:LH):Option TO→Prop
 |some (.dict es)=>B7 (.dict es) Q L
 |_=>False
noncomputable def bW1(a:V)(Q:Post)(L:LH):Bi→Prop
 | .len=>bg L (fun k=>Q (vi k) L) a
 | .str=>Ca (fun i=>i.natAbs<2^60∧Q (vs (toString i)) L) a
 | .ord=>NL (fun u=>u.length=1∧Q (vi (u.cps.getD 0 0:Nat)) L) a
 | .list=>Ax (Ub L a) fun ts=>B7 (.list ts) Q L
 | .tuple=>Ax (Bp L a) fun ts=>Q (.t (.tup ts)) L
 | .set=>bR Q L a
 | .range=>Ca (fun b=>Q (.rg 0 b 1) L) a
 | .sorted=>UY Q L a
 | .dict=>Fz (fun l=>cC Q L L[l]?) a
 | .pop=>Fz (fun l=>bX l Q L L[l]?) a
 | .rev=>Fz (fun l=>bV l Q L L[l]?) a
 | .keys=>Ax (GM L a) fun zz=>Q (.view true a) L
 | .vals=>Ax (GM L a) fun zz=>Q (.view false a) L
 |_=>False
noncomputable def bt(u:Str)(Q:Post)(L:LH)(ts:List Tr):Prop:=∃(ys:List Str) (j:Nat),ts=ys.map Tr.str∧Hy ys u j∧Q (vi j) L
noncomputable def bW2(a b:V)(Q:Post)(L:LH):Bi→Prop
 | .max=>Ca (fun i=>Ca (fun j=>Q (vi (if j>i then j else i)) L) b) a
 | .min=>Ca (fun i=>Ca (fun j=>Q (vi (if j<i then j else i)) L) b) a
 | .range=>Ca (fun i=>Ca (fun j=>Q (.rg i j 1) L) b) a
 | .append=>Fz (fun l=>tW (fun x=>cV l x Q L L[l]?) b) a
 | .index=>flW (fun ts=>NL (fun u=>bt u Q L ts) b) a
 | .indexT=>RW (fun ts=>NL (fun u=>bt u Q L ts) b) a
 | .add=>Fz (fun l=>Ca (fun i=>cW l i Q L L[l]?) b) a
 | .upd=>Fz (fun l=>RW (fun ts=>bJ l ts Q L L[l]?) b) a
 | .join=>NL (fun u=>flW (fun ts=>∃ys:List Str,ts=ys.map Tr.str∧(ys.map (·.length)).sum+ys.length*u.length≤16777216∧Q (vs (Txt.join u ys)) L) b) a
 |_=>False
noncomputable def bW3(a b c:V)(Q:Post)(L:LH):Bi→Prop
 | .range=>Ca (fun i=>Ca (fun j=>Ca (fun d=>d= -1∧(j-i).natAbs<2^29∧Q (.rg i j (-1)) L) c) b) a
 | .get=>Ca (fun i=>Ax (GM L a) fun es=>tW (fun d=>Q (.t ((ED es.1 es.2 i).getD d)) L) c) b
 |_=>False
noncomputable def bW0(Q:Post)(L:LH):Bi→Prop
 | .set=>B7 (.set []) Q L
 |_=>False
noncomputable def bW(b:Bi)(vs:List V)(Q:Post)(L:LH):Prop:=match vs with
 |[]=>bW0 Q L b
 |a::r=>match r with
  |[]=>bW1 a Q L b
  |c::r=>match r with
   |[]=>bW2 a c Q L b
   |d::r=>match r with
    |[]=>bW3 a c d Q L b
    |_::_=>False
noncomputable def Uf:List (Addr×Nat×Addr):=
 [(76,139161580209650074696436,56),(76,238664436,63),(76,31366837613,68),(166,8061961301454060386,142),(166,31377177332,149),(166,57904367840884710,156),(166,1077322915358789465453,163),(343,213612661,333),(343,3500345408106,340),(596,13296,555),(596,213710968,588),(860,4015750001507,737),(860,4052785921402,744),(860,30012029045,751),(860,228144501,758),(860,27591751409,765),(860,1031205465905034064751,772),(860,4015741679733,779),(860,975726123232228129008,786),(860,234683253,793),(860,62997306237614054,800),(860,487766768808817,807),(860,500515600873573,814),(860,1077327330519132402020,843),(860,31377177332,850),(860,57904367840884710,857)]
noncomputable def Qc:List (Addr×Nat):=
 [(76,245250163),(76,244986229),(117,2011512),(117,3639399412589),(117,31641582055),(117,228143459),(166,513709472003812),(166,31354237295),(166,55687063896161122),(166,31354223475),(166,245201764),(166,244938726),(166,139143125597677003026793),(166,8416585276240525286),(166,1086398182737793855849),(248,4047714776048),(248,215741805),(248,3843708123236),(343,213644652),(343,247362421),(343,15074),(343,28432988280),(520,31372916980),(596,4013076363363),(596,514152355052399),(596,31641679972),(632,213710968),(632,28432988280),(691,3978959764335),(691,1077973069849834551396),(691,492162160357745),(691,31377177332),(691,215741805),(860,247362421),(860,31354237295),(860,139143125597677003026793),(860,247281774),(860,15074),(860,30003573603),(860,8061913574680557668),(860,215709041),(860,3497950605926),(860,31641679972),(860,31373196149),(860,518481700731498),(860,57310046385093226),(860,4013340291445),(860,514152355052399)]
noncomputable def Ui(C:Addr)(k:Nat):Option Addr:=(Uf.find? fun e=>Nat.beq e.1 C&&Nat.beq e.2.1 k).map (·.2.2)
noncomputable def Fv(C:Addr)(k:Nat):Bool:=Qc.any fun e=>Nat.beq e.1 C&&Nat.beq e.2 k
noncomputable abbrev MR:=Option (Sum V Bi×List V)
noncomputable def Q7(a:V)(C:Addr)(o:Bool)(k:Nat):MR:=bif o then none else(Ui C k).map fun f=>(.inl (.t (.fn f)),[a])
noncomputable def Q8(a:V)(k:Nat):MR:=bif Nat.beq k 1930088 then some (.inr .get,[a])else bif Nat.beq k 245281644 then some (.inr .keys,[a])else bif Nat.beq k 4013359329655 then some (.inr .vals,[a])else none
noncomputable def Uh(l:Nat)(C:Addr)(k:Nat):Option TO→MR
 |some (.flds fs)=>Q7 (.ref l) C (AW fs k).isSome k
 |_=>none
noncomputable def UF(L:LH)(l:Nat)(k:Nat):Option TO→MR
 |some (.inst C)=>Uh l C k L[l+1]?
 |some (.list _)=>bif Nat.beq k 3500345686242 then some (.inr .append,[.ref l])else bif Nat.beq k 1865841 then some (.inr .pop,[.ref l])else bif Nat.beq k 452617559733107 then some (.inr .rev,[.ref l])else none
 |some (.set _)=>bif Nat.beq k 1667810 then some (.inr .add,[.ref l])else bif Nat.beq k 3536307452150 then some (.inr .upd,[.ref l])else none
 |some (.dict _)=>Q8 (.ref l) k
 |_=>none
noncomputable def bd(c:Addr)(k:Nat):MR:=bif Nat.beq c 520 then(bif Nat.beq k 13296 then some (.inl (.t (.fn 403)),[])else bif Nat.beq k 215576942 then some (.inl (.t (.fn 423)),[])else none)
 else bif Nat.beq c 817 then(bif Nat.beq k 54469456771592288 then some (.inl (.t (.fn 709)),[])else none)else none
noncomputable def mT(k:Nat):Tr→MR
 | .fi C ks ts=>Q7 (.t (.fi C ks ts)) C (Oo ks ts k).isSome k
 | .fl ts=>bif Nat.beq k 32696268778 then some (.inr .index,[.t (.fl ts)])else none
 | .fd ks ts=>Q8 (.t (.fd ks ts)) k
 | .str x=>bif Nat.beq k 234535019 then some (.inr .join,[vs x])else none
 | .tup ts=>bif Nat.beq k 32696268778 then some (.inr .indexT,[.t (.tup ts)])else none
 | .fn y=>bd y k
 |_=>none
noncomputable def Nc(L:LH)(k:Nat):V→MR
 | .t x=>mT k x
 | .ref l=>UF L l k L[l]?
 |_=>none
noncomputable def fnA:List Addr:=[28,42,56,63,68,88,95,100,114,135,142,149,156,163,177,184,191,198,203,210,217,224,238,259,326,333,340,354,368,403,423,538,555,588,615,650,709,737,744,751,758,765,772,779,786,793,800,807,814,836,843,850,857,869,910,917,922,932,76,117,166,248,343,520,596,632,691,860,905,927]
noncomputable def Up:Tr→Bool
 | .fn a=>fnA.any fun b=>Nat.beq b a
 |_=>false
noncomputable def Uo:V→Bool
 | .t x=>Up x
 | .clo _ _=>true
 |_=>false
set_option genCtorIdx true in
mutual
inductive Ex where
 |nm (x:Nat)
 |k (v:Tr)
 |bin (op:Operator) (a b:Ex)
 |ofB (b:Bx)
 |andV (a b:Ex)
 |neg (a:Ex)
 |ite (c:Bx) (a b:Ex)
 |attr (e:Ex) (x:Nat)
 |idx (e i:Ex)
 |slc (e lo hi:Ex)
 |lst (es:Exs)
 |lrf (es:Exs)
 |tup (es:Exs)
 |dic0
 |dic1 (a b:Ex)
 |cmpr (one:Bool) (ts:List Nat) (it el:Ex) (fr:List Nat)
 |cmprIf (one:Bool) (ts:List Nat) (it el:Ex) (c:Bx) (fr:List Nat)
 |call (k:Nat) (f:Ex) (es:Exs)
 |bcall (c:Bi) (es:Exs)
 |mth (k:Nat) (o:Ex) (m:Nat) (es:Exs)
 |frz (e:Ex)
inductive Exs where
 |n
 |c (e:Ex) (es:Exs)
inductive Bx where
 |plain (e:Ex)
 |cmp (op:CmpOp) (a b:Ex)
 |not (b:Bx)
 |and (a b:Bx)
 |or (a b:Bx)
end
inductive Tg where
 |nm (x:Nat)
 |tup (xs:List Nat)
 |attr (o:Ex) (x:Nat)
 |sub (o i:Ex)
mutual
inductive St where
 |asg (t:Tg) (e:Ex)
 |asgC (x:Nat) (e:Ex)
 |aug (o:Ex) (x:Nat) (e:Ex)
 |ex (e:Ex)
 |ret (e:Ex)
 |ite (c:Bx) (a b:Sts)
 |whl (c:Bx) (b:Sts)
 |for_ (one:Bool) (ts:List Nat) (it:Ex) (b:Sts)
 |brk
 |cont
 |frz (x:Nat)
 |rais (a b:Ex)
inductive Sts where
 |n
 |c (s:St) (r:Sts)
end
structure Ctx where
 K:KT'
 K0:KT'
 X:Prop
noncomputable def Ctx.low(c:Ctx):Ctx:=⟨c.K0,c.K0,False⟩
noncomputable def cB(C:Addr)(o:Option V)(x:Nat)(P:V→Prop):Prop:=tru (Fv C x) (Ax o P)
noncomputable def bB(x:Nat)(P:V→Prop):Tr→Prop
 | .fi C ks ts=>cB C ((Oo ks ts x).map .t) x P
 |_=>False
noncomputable def Vj(C:Addr)(x:Nat)(P:V→Prop):Option TO→Prop
 |some (.flds fs)=>cB C (AW fs x) x P
 |_=>False
noncomputable def RS(L:LH)(i:Nat)(x:Nat)(P:V→Prop):Option TO→Prop
 |some (.inst C)=>Vj C x P L[i+1]?
 |_=>False
noncomputable def Nj(L:LH)(x:Nat)(P:V→Prop):V→Prop
 | .t a=>bB x P a
 | .ref i=>RS L i x P L[i]?
 |_=>False
noncomputable def bQ(x:Nat)(v:V)(A:LH→Prop)(i:Nat)(L:LH)(C:Addr):Option TO→Prop
 |some (.flds fs)=>tru (Fv C x) (tru (Nat.blt fs.length 1000) (A (L.set (i+1) (.flds (Bk fs x v)))))
 |_=>False
noncomputable def Rh(x:Nat)(v:V)(A:LH→Prop)(i:Nat)(L:LH):Option TO→Prop
 |some (.inst C)=>bQ x v A i L C L[i+1]?
 |_=>False
noncomputable def cS(x:Nat)(W:Post→LH→Prop)(A:LH→Prop)(i:Nat)(L:LH)(o:Option TO):Prop:=
 RS L i x (Ca fun k=>W (fun b L₂=>Ca (fun j=>L₂=L∧Rh x (vi (k+j)) A i L o) b) L) o
noncomputable def YK(k:Int)(v:Tr)(A:LH→Prop)(i:Nat)(L:LH):Option TO→Prop
 |some (.list ts)=>(0≤k∧k<ts.length)∧A (L.set i (.list (ts.set k.toNat v)))
 |some (.dict es)=>es.length+1≤1048576∧A (L.set i (.dict (BX es k v)))
 |_=>False
noncomputable def CF(one:Bool)(xs:List Nat)(v:V)(ρ:Rho):Option Rho:=match one with
 |true=>(match xs with
  |[]=>none
  |x::r=>(match r with
   |[]=>some (Bk ρ x v)
   |_::_=>none))
 |false=>(match v with
  | .t (.tup us)=>bif Nat.beq us.length xs.length then some (D4 ρ xs us)else none
  |_=>none)
noncomputable def EE(n:Nat)(step:V→(V→LH→Prop)→(LH→Prop)→LH→Prop)(fin:List Tr→LH→Prop):List Tr→List Tr→LH→Prop
 |[],acc,L=>fin acc L
 |x::r,acc,L=>step (.t x) (fun u L'=>tW (fun y=>EE n step fin r (acc++[y]) (cut n L')) u) (fun L'=>EE n step fin r acc (cut n L')) L
noncomputable def LJ(ρ0:Rho)(n:Nat)(N:Rho→LH→Prop)(Q:QS):QS
 | .next,ρ,L=>N (Cy ρ0 n ρ) (cut n L)
 | .cont,ρ,L=>N (Cy ρ0 n ρ) (cut n L)
 | .brk,ρ,L=>Q .next (Cy ρ0 n ρ) (cut n L)
 | .ret u,ρ,L=>Q (.ret u) ρ L
noncomputable def IG(ρ0:Rho)(n:Nat)(step:V→QS→Rho→LH→Prop)(Q:QS):List Tr→Rho→LH→Prop
 |[],ρ,L=>Q .next ρ L
 |v::r,ρ,L=>step (.t v) (LJ ρ0 n (IG ρ0 n step Q r) Q) ρ L
noncomputable def back(k:Nat)(Q:Post)(v:V)(L:LH):LH→Prop
 |[]=>Q v L
 |x::r=>tru (Nat.beq L.length k) (Q v (L++x::r))
noncomputable def FK(K:KT')(k:Nat)(f:V)(vs:List V)(Q:Post)(L:LH):Prop:=tru (clL k k L&&(Bs k f&&vs.all (Bs k)))<|K f vs (fun v L'=>back k Q v L' (L.drop k)) (L.take k)
noncomputable def Ug(k:Nat)(c:Ctx)(W:(List V→LH→Prop)→Prop)(P:Post):MR→Prop
 |some (f,first)=>W fun vs L=>match f with
  | .inl g=>FK c.K k g (first++vs) P L
  | .inr b=>bW b (first++vs) P L
 |none=>False
mutual
noncomputable def we:Ex→Ctx→Rho→Post→LH→Prop
 | .nm x,c,ρ,Q,L=>Ax (AW ρ x) fun v=>Q v L
 | .k v,c,ρ,Q,L=>Q (.t v) L
 | .bin op a b,c,ρ,Q,L=>we a c ρ (fun x L₁=>we b c ρ (fun y L₂=>cR op x y Q L₂) L₁) L
 | .ofB b,c,ρ,Q,L=>wb b c ρ (fun t L₁=>Q (vb t) L₁) L
 | .andV a b,c,ρ,Q,L=>we a c ρ (fun v L₁=>Ax (XY L₁ v) fun t=>ifB t (we b c ρ Q L₁) (Q v L₁)) L
 | .neg a,c,ρ,Q,L=>we a c ρ (fun v L₁=>Ca (fun i=>Q (vi (-i)) L₁) v) L
 | .ite t a b,c,ρ,Q,L=>wb t c ρ (fun t L₁=>ifB t (we a c ρ Q L₁) (we b c ρ Q L₁)) L
 | .attr e x,c,ρ,Q,L=>we e c ρ (fun a L₁=>Nj L₁ x (fun v=>Q v L₁) a) L
 | .idx e i,c,ρ,Q,L=>we e c ρ (fun a L₁=>we i c ρ (fun b L₂=>bp L₂ a b fun v=>Q v L₂) L₁) L
 | .slc e lo hi,c,ρ,Q,L=>we e c ρ (fun a L₁=>we lo c ρ (fun l L₂=>we hi c ρ (fun u L₃=>Fu a l u Q L₃) L₂) L₁) L
 | .lst es,c,ρ,Q,L=>was es c ρ (fun vs L₁=>Ax (IC vs) fun ts=>tru (Nat.ble ts.length 1048576) (B7 (.list ts) Q L₁)) L
 | .lrf es,c,ρ,Q,L=>was es c ρ (fun vs L₁=>Ax (RY vs) fun is=>tru (Nat.ble is.length 1048576) (B7 (.refs is) Q L₁)) L
 | .tup es,c,ρ,Q,L=>was es c ρ (fun vs L₁=>Ax (IC vs) fun ts=>tru (Nat.ble ts.length 1048576) (Q (.t (.tup ts)) L₁)) L
 | .dic0,c,ρ,Q,L=>B7 (.dict []) Q L
 | .dic1 k v,c,ρ,Q,L=>we k c ρ (fun a L₁=>we v c ρ (fun b L₂=>Ca (fun i=>tW (fun x=>B7 (.dict [(i,x)]) Q L₂) b) a) L₁) L
 | .cmpr one ts it el fr,c,ρ,Q,L=>we it c ρ (fun a L₁=>Jt (fun l=>EE L₁.length (fun v yes zz L₂=>Ax (CF one ts v (Cs fr ρ)) fun ρ₁=>we el c.low ρ₁ yes L₂) (fun acc=>B7 (.list acc) Q) l [] L₁) a) L
 | .cmprIf one ts it el t fr,c,ρ,Q,L=>we it c ρ (fun a L₁=>Jt (fun l=>EE L₁.length (fun v yes no L₂=>Ax (CF one ts v (Cs fr ρ)) fun ρ₁=>wb t c.low ρ₁ (fun ok L₃=>ifB ok (we el c.low ρ₁ yes L₃) (no L₃)) L₂) (fun acc=>B7 (.list acc) Q) l [] L₁) a) L
 | .call k f es,c,ρ,Q,L=>we f c ρ (fun a L₁=>tru (Uo a) (was es c ρ (fun vs L₂=>FK c.K k a vs Q L₂) L₁)) L
 | .bcall b es,c,ρ,Q,L=>was es c ρ (fun vs L₁=>bW b vs Q L₁) L
 | .mth k o m es,c,ρ,Q,L=>we o c ρ (fun a L₁=>Ug k c (fun A=>was es c ρ A L₁) Q (Nc L₁ m a)) L
 | .frz e,c,ρ,Q,L=>we e c ρ (fun v L₁=>Q (frz L₁ v).1 (frz L₁ v).2) L
noncomputable def was:Exs→Ctx→Rho→(List V→LH→Prop)→LH→Prop
 | .n,c,ρ,Q,L=>Q [] L
 | .c e es,c,ρ,Q,L=>we e c ρ (fun v L₁=>was es c ρ (fun vs L₂=>Q (v::vs) L₂) L₁) L
noncomputable def wb:Bx→Ctx→Rho→(Bool→LH→Prop)→LH→Prop
 | .plain e,c,ρ,Q,L=>we e c ρ (fun v L₁=>Ax (XY L₁ v) fun t=>Q t L₁) L
 | .cmp op a b,c,ρ,Q,L=>we a c ρ (fun x L₁=>we b c ρ (fun y L₂=>cI op x y (fun r=>Q r L₂) L₂) L₁) L
 | .not b,c,ρ,Q,L=>wb b c ρ (fun t L₁=>Q (!t) L₁) L
 | .and a b,c,ρ,Q,L=>wb a c ρ (fun t L₁=>ifB t (wb b c ρ Q L₁) (Q false L₁)) L
 | .or a b,c,ρ,Q,L=>wb a c ρ (fun t L₁=>ifB t (Q true L₁) (wb b c ρ Q L₁)) L
end
noncomputable def wt:Tg→Ctx→Rho→V→(Rho→LH→Prop)→LH→Prop
 | .nm x,c,ρ,v,Q,L=>Q (Bk ρ x v) L
 | .tup xs,c,ρ,v,Q,L=>RW (fun us=>tru (Nat.beq us.length xs.length) (Q (D4 ρ xs us) L)) v
 | .attr o x,c,ρ,v,Q,L=>we o c ρ (fun a L₁=>Fz (fun l=>Rh x v (Q ρ) l L₁ L₁[l]?) a) L
 | .sub o i,c,ρ,v,Q,L=>we o c ρ (fun a L₁=>we i c ρ (fun b L₂=>Fz (fun l=>Ca (fun k=>tW (fun y=>YK k y (Q ρ) l L₂ L₂[l]?) v) b) a) L₁) L
mutual
noncomputable def wst:St→Ctx→Rho→QS→LH→Prop
 | .asg t e,c,ρ,Q,L=>we e c ρ (fun v L₁=>wt t c ρ v (fun ρ' L₂=>Q .next ρ' L₂) L₁) L
 | .asgC x e,c,ρ,Q,L=>we e c ρ (fun v L₁=>Q .next (Bk ρ x v) L₁) L
 | .aug o x e,c,ρ,Q,L=>we o c ρ (fun a L₁=>Fz (fun l=>cS x (we e c ρ) (Q .next ρ) l L₁ L₁[l]?) a) L
 | .ex e,c,ρ,Q,L=>we e c ρ (fun zz L₁=>Q .next ρ L₁) L
 | .ret e,c,ρ,Q,L=>we e c ρ (fun v L₁=>Q (.ret v) ρ L₁) L
 | .ite t a b,c,ρ,Q,L=>wb t c ρ (fun t L₁=>ifB t (wss a c ρ Q L₁) (wss b c ρ Q L₁)) L
 | .whl t b,c,ρ,Q,L=>∃I:Nat→Rho→LH→Prop,(∃k,I k ρ L)∧∀k ρ' L',I k ρ' L'→wb t c ρ' (fun t L₁=>ifB t (wss b c ρ' (LJ ρ L.length (fun ρ₂ L₂=>∃m,m<k∧I m ρ₂ L₂) Q) L₁) (Q .next (Cy ρ L.length ρ') (cut L.length L₁))) L'
 | .for_ one ts it b,c,ρ,Q,L=>we it c ρ (fun a L₁=>Jt (fun l=>IG ρ L₁.length (fun v Q' ρ' L₂=>Ax (CF one ts v ρ') fun ρ₁=>wss b c ρ₁ Q' L₂) Q l ρ L₁) a) L
 | .brk,c,ρ,Q,L=>Q .brk ρ L
 | .cont,c,ρ,Q,L=>Q .cont ρ L
 | .frz x,c,ρ,Q,L=>Ax (AW ρ x) fun v=>Q .next (Bk ρ x (frz L v).1) (frz L v).2
 | .rais a b,c,ρ,Q,L=>we a c ρ (fun zz L₁=>we b c ρ (fun zz zz=>c.X) L₁) L
noncomputable def wss:Sts→Ctx→Rho→QS→LH→Prop
 | .n,c,ρ,Q,L=>Q .next ρ L
 | .c s r,c,ρ,Q,L=>wst s c ρ (NY (fun ρ' L'=>wss r c ρ' Q L') Q) L
end
structure Fn where
 params:List Nat
 body:Sts
 dfl:List Tr
 keep:Nat
noncomputable def Fn.env(f:Fn)(vl:List V):Option Rho:=
 bif Nat.ble vl.length f.params.length&&Nat.ble f.params.length (vl.length+f.dfl.length)then some (f.params.zip (vl++(f.dfl.drop (vl.length+f.dfl.length-f.params.length)).map .t))else none
noncomputable def o9:Obj:=⟨.none,none, .fields #[], #[]⟩
noncomputable abbrev Rr:Nat:=54469456771592288
noncomputable abbrev XU:Nat:=1667810
noncomputable abbrev AL:Nat:=3500345686242
noncomputable abbrev xat:Nat:=15074
noncomputable abbrev AH:Nat:=55687063896161122
noncomputable abbrev AV:Nat:=8061961301454060386
noncomputable abbrev F7:Nat:=228143459
noncomputable abbrev EN:Nat:=31366656355
noncomputable abbrev Az:Nat:=3535799972707
noncomputable abbrev EM:Nat:=30003573603
noncomputable abbrev L8:Nat:=30020350819
noncomputable abbrev DP:Nat:=4015750001507
noncomputable abbrev J2:Nat:=30045516643
noncomputable abbrev NW:Nat:=247280483
noncomputable abbrev Es:Nat:=4013076363363
noncomputable abbrev KH:Nat:=1077327330519132402020
noncomputable abbrev Bt:Nat:=31368901476
noncomputable abbrev BR:Nat:=513709472003812
noncomputable abbrev F6:Nat:=215578724
noncomputable abbrev GP:Nat:=3843708123236
noncomputable abbrev AI:Nat:=8061913574680557668
noncomputable abbrev B8:Nat:=1077973069849834551396
noncomputable abbrev Be:Nat:=31641679972
noncomputable abbrev GH:Nat:=1932132
noncomputable abbrev BF:Nat:=245201764
noncomputable abbrev GG:Nat:=1618917
noncomputable abbrev Ox:Nat:=500515600873573
noncomputable abbrev DO:Nat:=3497950605926
noncomputable abbrev Jr:Nat:=1669094
noncomputable abbrev IQ:Nat:=57904367840884710
noncomputable abbrev D8:Nat:=8416585276240525286
noncomputable abbrev Nq:Nat:=62997306237614054
noncomputable abbrev C1:Nat:=3603433093094
noncomputable abbrev Bw:Nat:=244938726
noncomputable abbrev QD:Nat:=31652115815
noncomputable abbrev By:Nat:=7989895079372092775
noncomputable abbrev Fq:Nat:=27346712679
noncomputable abbrev EL:Nat:=31641582055
noncomputable abbrev XS:Nat:=1930088
noncomputable abbrev L7:Nat:=30012208488
noncomputable abbrev Hw:Nat:=230209640
noncomputable abbrev AF:Nat:=139143125597677003026793
noncomputable abbrev Da:Nat:=1086398182737793855849
noncomputable abbrev FH:Nat:=213611369
noncomputable abbrev DZ:Nat:=215806825
noncomputable abbrev D0:Nat:=221918569
noncomputable abbrev DI:Nat:=514152359229545
noncomputable abbrev JB:Nat:=215708394
noncomputable abbrev J1:Nat:=32696268778
noncomputable abbrev Rq:Nat:=3500345408106
noncomputable abbrev DF:Nat:=57310046385093226
noncomputable abbrev Aq:Nat:=483164174170730
noncomputable abbrev Cp:Nat:=518481700731498
noncomputable abbrev Bh:Nat:=120189025126020367792746
noncomputable abbrev YZ:Nat:=234535019
noncomputable abbrev xk:Nat:=108
noncomputable abbrev NV:Nat:=247231340
noncomputable abbrev Aw:Nat:=2012012
noncomputable abbrev YY:Nat:=245281644
noncomputable abbrev FG:Nat:=213644652
noncomputable abbrev Fp:Nat:=30049843180
noncomputable abbrev UT:Nat:=247279981
noncomputable abbrev JA:Nat:=247067501
noncomputable abbrev CH:Nat:=3639399412589
noncomputable abbrev L0:Nat:=29475337069
noncomputable abbrev Hj:Nat:=31631062381
noncomputable abbrev C9:Nat:=215741805
noncomputable abbrev BE:Nat:=31354254701
noncomputable abbrev Hi:Nat:=31366837613
noncomputable abbrev F5:Nat:=215872877
noncomputable abbrev KG:Nat:=1077322915358789465453
noncomputable abbrev K7:Nat:=1980525
noncomputable abbrev YX:Nat:=215576942
noncomputable abbrev FF:Nat:=228405614
noncomputable abbrev HD:Nat:=447735788302702
noncomputable abbrev GO:Nat:=3534166259054
noncomputable abbrev EG:Nat:=247281774
noncomputable abbrev CX:Nat:=31354237295
noncomputable abbrev Fh:Nat:=1031205465905034064751
noncomputable abbrev AB:Nat:=3978959764335
noncomputable abbrev AJ:Nat:=514152355052399
noncomputable abbrev xof:Nat:=13296
noncomputable abbrev CG:Nat:=4047714776048
noncomputable abbrev Fg:Nat:=975726123232228129008
noncomputable abbrev QC:Nat:=31381434737
noncomputable abbrev Qp:Nat:=247263601
noncomputable abbrev Dc:Nat:=492162160357745
noncomputable abbrev KR:Nat:=487766768808817
noncomputable abbrev BB:Nat:=3497942136177
noncomputable abbrev I9:Nat:=215709041
noncomputable abbrev Ac:Nat:=27591751409
noncomputable abbrev C0:Nat:=4013321402097
noncomputable abbrev bE:Nat:=1865841
noncomputable abbrev HC:Nat:=447735787991923
noncomputable abbrev AP:Nat:=4049598231411
noncomputable abbrev Ov:Nat:=452617559733107
noncomputable abbrev HZ:Nat:=31628866931
noncomputable abbrev Jq:Nat:=1980531
noncomputable abbrev Cu:Nat:=245250163
noncomputable abbrev F4:Nat:=215710579
noncomputable abbrev DL:Nat:=136716016479375523019635
noncomputable abbrev Ak:Nat:=31354223475
noncomputable abbrev Hv:Nat:=213561716
noncomputable abbrev Eg:Nat:=509310072828532
noncomputable abbrev xscript:Nat:=4050646790772
noncomputable abbrev US:Nat:=213496692
noncomputable abbrev J0:Nat:=31352009588
noncomputable abbrev Hu:Nat:=234468212
noncomputable abbrev AA:Nat:=217805684
noncomputable abbrev Qo:Nat:=245199732
noncomputable abbrev FD:Nat:=234501492
noncomputable abbrev Bd:Nat:=31372916980
noncomputable abbrev BD:Nat:=31649741556
noncomputable abbrev AG:Nat:=27627404020
noncomputable abbrev Iz:Nat:=139161580209650074696436
noncomputable abbrev DY:Nat:=238664436
noncomputable abbrev AY:Nat:=31377177332
noncomputable abbrev CS:Nat:=238828276
noncomputable abbrev AE:Nat:=4013340291445
noncomputable abbrev XR:Nat:=1716597
noncomputable abbrev At:Nat:=244986229
noncomputable abbrev BO:Nat:=215691637
noncomputable abbrev AK:Nat:=247362421
noncomputable abbrev YW:Nat:=228144501
noncomputable abbrev CD:Nat:=30012029045
noncomputable abbrev BM:Nat:=4015741679733
noncomputable abbrev YV:Nat:=213612661
noncomputable abbrev YU:Nat:=234683253
noncomputable abbrev Bb:Nat:=31373196149
noncomputable abbrev JO:Nat:=3497959208950
noncomputable abbrev Rp:Nat:=3536307452150
noncomputable abbrev Ro:Nat:=4013359329655
noncomputable abbrev DH:Nat:=461239469388152
noncomputable abbrev Lq:Nat:=2011512
noncomputable abbrev Ao:Nat:=213710968
noncomputable abbrev Ai:Nat:=28432988280
noncomputable abbrev JN:Nat:=4052785921402
noncomputable def eV:Sts:= .c (.asg (.nm Hu) (.bin .Mult (.lst (.c (.k (.bool false)) .n)) (.bcall .len (.c (.nm Hi) .n)))) (.c (.for_ true [US] (.nm J0) (.c (.asg (.sub (.nm Hu) (.nm US)) (.k (.bool true))) .n)) (.c (.asg (.nm DH) (.bcall .list (.c (.nm J0) .n))) (.c (.whl (.plain (.nm DH)) (.c (.asg (.nm Ac) (.mth 0 (.nm DH) bE .n)) (.c (.for_ true [Hw] (.idx (.nm Hi) (.nm Ac)) (.c (.ite (.not (.plain (.idx (.nm Hu) (.nm Hw)))) (.c (.asg (.sub (.nm Hu) (.nm Hw)) (.k (.bool true))) (.c (.ex (.mth 0 (.nm DH) AL (.c (.nm Hw) .n))) .n)) .n) .n)) .n))) (.c (.frz Hu) (.c (.frz DH) (.c (.ret (.nm Hu)) .n))))))
noncomputable def cA:Fn:=⟨[Hi,J0],eV,[],0⟩
noncomputable def eU:Sts:= .c (.asg (.attr (.nm AA) Cu) (.nm Cu)) (.c (.asg (.attr (.nm AA) At) (.nm At)) .n)
noncomputable def eq:Fn:=⟨[AA,Cu,At],eU,[],0⟩
noncomputable def eT:Sts:= .c (.ret (.frz (.bcall .len (.c (.attr (.nm AA) Cu) .n)))) .n
noncomputable def b9:Fn:=⟨[AA],eT,[],0⟩
noncomputable def eR:Sts:= .c (.ite (.or (.cmp .Eq (.nm AG) (.k (.int (-1)))) (.or (.cmp .Lt (.nm AB) (.k (.int 0))) (.cmp .GtE (.nm AB) (.bcall .len (.c (.idx (.attr (.nm AA) Cu) (.nm AG)) .n))))) (.c (.ret (.k (.int (-1)))) .n) .n) (.c (.ret (.idx (.idx (.attr (.nm AA) Cu) (.nm AG)) (.nm AB))) .n)
noncomputable def b8:Fn:=⟨[AA,AG,AB],eR,[],0⟩
noncomputable def eQ:Sts:= .c (.ret (.frz (.cmpr true [Jq] (.attr (.nm AA) Cu) (.frz (.cmprIf true [Hw] (.nm Jq) (.nm Hw) (.cmp .NotEq (.nm Hw) (.k (.int (-1)))) [])) []))) .n
noncomputable def bz:Fn:=⟨[AA],eQ,[],0⟩
noncomputable def eP:Sts:= .c (.asg (.nm Fq) (.lst .n)) (.c (.for_ true [Jr] (.frz (.bcall .range (.c (.nm xat) (.c (.bcall .len (.c (.nm AJ) .n)) .n)))) (.c (.asg (.nm AG) (.mth 0 (.nm GG) DY (.c (.nm AG) (.c (.idx (.nm AJ) (.nm Jr)) .n)))) (.c (.ite (.cmp .Eq (.nm AG) (.k (.int (-1)))) (.c .brk .n) .n) (.c (.ite (.plain (.idx (.attr (.nm GG) At) (.nm AG))) (.c (.ex (.mth 0 (.nm Fq) AL (.c (.tup (.c (.frz (.bin .Add (.nm Jr) (.k (.int 1)))) (.c (.idx (.attr (.nm GG) At) (.nm AG)) .n))) .n))) .n) .n) .n)))) (.c (.ex (.mth 0 (.nm Fq) Ov .n)) (.c (.frz Fq) (.c (.ret (.nm Fq)) .n))))
noncomputable def bx:Fn:=⟨[GG,AJ,xat,AG],eP,[.int 0],0⟩
noncomputable def eO:Sts:= .c (.ret (.call 0 (.k (.fn 28)) (.c (.mth 0 (.nm GG) Hi .n) (.c (.frz (.lst (.c (.k (.int 0)) .n))) .n)))) .n
noncomputable def bw:Fn:=⟨[GG],eO,[],0⟩
noncomputable def aU:Sts:= .c (.asg (.nm HC) (.call 0 (.k (.fn 95)) (.c (.nm GG) .n))) (.c (.ret (.frz (.cmprIf true [AG] (.frz (.bcall .range (.c (.k (.int 1)) (.c (.mth 0 (.nm GG) Iz .n) .n)))) (.nm AG) (.and (.plain (.idx (.nm HC) (.nm AG))) (.and (.not (.plain (.idx (.attr (.nm GG) At) (.nm AG)))) (.cmp .In (.k (.int (-1))) (.idx (.attr (.nm GG) Cu) (.nm AG))))) [GG,HC]))) .n)
noncomputable def VZ:Fn:=⟨[GG],aU,[],0⟩
noncomputable def aT:Sts:= .c (.asg (.attr (.nm AA) Lq) (.nm Lq)) (.c (.asg (.attr (.nm AA) CH) (.nm CH)) (.c (.asg (.attr (.nm AA) EL) (.nm EL)) (.c (.asg (.attr (.nm AA) F7) (.nm F7)) .n)))
noncomputable def af:Fn:=⟨[AA,Lq,CH,EL,F7],aT,[],0⟩
noncomputable def aS:Sts:= .c (.asg (.attr (.nm AA) BR) (.nm BR)) (.c (.asg (.attr (.nm AA) CX) (.nm CX)) (.c (.asg (.attr (.nm AA) AH) (.nm AH)) (.c (.asg (.attr (.nm AA) Ak) (.nm Ak)) (.c (.asg (.attr (.nm AA) BF) (.nm BF)) (.c (.asg (.attr (.nm AA) Bw) (.nm Bw)) (.c (.asg (.attr (.nm AA) AF) (.nm AF)) (.c (.asg (.attr (.nm AA) D8) (.bcall .sorted (.c (.bcall .set (.c (.mth 0 (.nm Bw) Ro .n) .n)) .n))) (.c (.asg (.attr (.nm AA) Da) (.call 0 (.k (.fn 177)) (.c (.nm Ak) .n))) .n))))))))
noncomputable def VY:Fn:=⟨[AA,BR,CX,AH,Ak,BF,Bw,AF],aS,[],0⟩
noncomputable def aR:Sts:= .c (.ret (.idx (.attr (.nm AA) AH) (.bin .Add (.bin .Mult (.k (.int 2)) (.nm AI)) (.nm DP)))) .n
noncomputable def VX:Fn:=⟨[AA,AI,DP],aR,[],0⟩
noncomputable def aQ:Sts:= .c (.ret (.attr (.idx (.attr (.nm AA) Ak) (.nm AB)) AY)) .n
noncomputable def VW:Fn:=⟨[AA,AB],aQ,[],0⟩
noncomputable def aP:Sts:= .c (.ret (.mth 0 (.attr (.nm AA) Bw) XS (.c (.nm AI) (.c (.neg (.k (.int 1))) .n)))) .n
noncomputable def VV:Fn:=⟨[AA,AI],aP,[],0⟩
noncomputable def aO:Sts:= .c (.asg (.nm AJ) (.bcall .set .n)) (.c (.for_ true [DP] (.tup (.c (.k (.int 0)) (.c (.k (.int 1)) .n))) (.c (.for_ true [At] (.attr (.mth 0 (.nm AA) AV (.c (.nm AI) (.c (.nm DP) .n))) At) (.c (.for_ true [AB] (.nm At) (.c (.ex (.mth 0 (.nm AJ) XU (.c (.nm AB) .n))) .n)) .n)) .n)) (.c (.ret (.frz (.bcall .sorted (.c (.nm AJ) .n)))) .n))
noncomputable def VU:Fn:=⟨[AA,AI],aO,[],0⟩
noncomputable def aN:Sts:= .c (.for_ true [F4] (.nm Ak) (.c (.for_ true [DY] (.attr (.nm F4) AY) (.c (.ite (.cmp .Eq (.attr (.nm DY) Ao) (.k (.str ⟨⟨[114,101,106,101,99,116]⟩⟩))) (.c (.ret (.k (.bool true))) .n) .n) .n)) .n)) (.c (.ret (.k (.bool false))) .n)
noncomputable def VT:Fn:=⟨[Ak],aN,[],0⟩
noncomputable def aM:Sts:= .c (.ret (.andV (.ofB (.cmp .NotEq (.nm AG) (.k (.int (-1))))) (.ofB (.cmp .Gt (.bcall .len (.c (.idx (.attr (.nm AV) At) (.nm AG)) .n)) (.k (.int 0)))))) .n
noncomputable def VS:Fn:=⟨[AV,AG],aM,[],0⟩
noncomputable def aL:Sts:= .c (.ite (.cmp .NotIn (.nm DL) (.attr (.nm AE) BF)) (.c (.ret (.frz (.bcall .len (.c (.nm AJ) .n)))) .n) .n) (.c (.asg (.nm GH) (.idx (.attr (.nm AE) BF) (.nm DL))) (.c (.ite (.cmp .Eq (.attr (.nm GH) Lq) (.k (.str ⟨⟨[98,101,104,105,110,100]⟩⟩))) (.c (.ret (.frz (.bin .Sub (.bcall .len (.c (.nm AJ) .n)) (.attr (.nm GH) CH)))) .n) .n) (.c (.ite (.cmp .Eq (.attr (.nm GH) Lq) (.k (.str ⟨⟨[97,104,101,97,100]⟩⟩))) (.c (.ret (.attr (.nm GH) CH)) .n) .n) (.c (.ret (.call 0 (.k (.fn 198)) (.c (.nm GH) (.c (.nm AJ) .n)))) .n))))
noncomputable def VQ:Fn:=⟨[AE,DL,AJ],aL,[],0⟩
noncomputable def aK:Sts:= .c (.asg (.nm Be) (.bcall .len (.c (.nm AJ) .n))) (.c (.asg (.nm By) (.bin .Mult (.lst (.c (.k (.bool false)) .n)) (.bin .Add (.nm Be) (.k (.int 1))))) (.c (.asg (.nm AG) (.k (.int 0))) (.c (.asg (.sub (.nm By) (.nm Be)) (.call 0 (.k (.fn 184)) (.c (.attr (.nm GH) F7) (.c (.nm AG) .n)))) (.c (.for_ true [Ac] (.frz (.bcall .range (.c (.bin .Sub (.nm Be) (.k (.int 1))) (.c (.neg (.k (.int 1))) (.c (.neg (.k (.int 1))) .n))))) (.c (.asg (.nm AG) (.mth 0 (.attr (.nm GH) F7) DY (.c (.nm AG) (.c (.idx (.nm AJ) (.nm Ac)) .n)))) (.c (.asg (.sub (.nm By) (.nm Ac)) (.call 0 (.k (.fn 184)) (.c (.attr (.nm GH) F7) (.c (.nm AG) .n)))) .n))) (.c (.asg (.nm NW) (.neg (.k (.int 1)))) (.c (.asg (.nm AG) (.k (.int 0))) (.c (.for_ true [Ac] (.frz (.bcall .range (.c (.bin .Add (.nm Be) (.k (.int 1))) .n))) (.c (.ite (.and (.plain (.call 0 (.k (.fn 184)) (.c (.attr (.nm GH) EL) (.c (.nm AG) .n)))) (.plain (.idx (.nm By) (.nm Ac)))) (.c (.asg (.nm NW) (.nm Ac)) .n) .n) (.c (.ite (.cmp .Lt (.nm Ac) (.nm Be)) (.c (.asg (.nm AG) (.mth 0 (.attr (.nm GH) EL) DY (.c (.nm AG) (.c (.idx (.nm AJ) (.nm Ac)) .n)))) .n) .n) .n))) (.c (.frz By) (.c (.ret (.nm NW)) .n)))))))))
noncomputable def VP:Fn:=⟨[GH,AJ],aK,[],0⟩
noncomputable def aJ:Sts:= .c (.asg (.nm BB) (.bcall .set (.c (.attr (.nm AE) D8) .n))) (.c (.for_ true [Aw] (.frz (.bcall .sorted (.c (.attr (.nm AE) AH) .n))) (.c (.for_ true [At] (.attr (.idx (.attr (.nm AE) AH) (.nm Aw)) At) (.c (.ite (.cmp .Gt (.bcall .len (.c (.nm At) .n)) (.k (.int 0))) (.c (.ex (.mth 0 (.nm BB) XU (.c (.idx (.nm At) (.k (.int 0))) .n))) .n) .n) .n)) .n)) (.c (.ret (.frz (.cmprIf true [F4] (.attr (.nm AE) Ak) (.attr (.nm F4) AB) (.cmp .NotIn (.attr (.nm F4) AB) (.nm BB)) [BB]))) .n))
noncomputable def VO:Fn:=⟨[AE],aJ,[],0⟩
noncomputable def aH:Sts:= .c (.asg (.nm AP) (.lst .n)) (.c (.for_ true [Aw] (.frz (.bcall .sorted (.c (.attr (.nm AE) AH) .n))) (.c (.asg (.nm AV) (.idx (.attr (.nm AE) AH) (.nm Aw))) (.c (.for_ true [AB] (.frz (.bcall .range (.c (.attr (.attr (.nm AE) BR) Be) .n))) (.c (.ite (.not (.plain (.call 0 (.k (.fn 184)) (.c (.nm AV) (.c (.mth 0 (.nm AV) DY (.c (.k (.int 0)) (.c (.nm AB) .n))) .n))))) (.c (.ex (.mth 0 (.nm AP) AL (.c (.tup (.c (.frz (.bin .FloorDiv (.nm Aw) (.k (.int 2)))) (.c (.frz (.bin .Mod (.nm Aw) (.k (.int 2)))) (.c (.nm AB) .n)))) .n))) .n) .n) .n)) .n))) (.c (.frz AP) (.c (.ret (.nm AP)) .n)))
noncomputable def VN:Fn:=⟨[AE],aH,[],0⟩
noncomputable def aG:Sts:= .c (.asg (.nm AP) (.lst .n)) (.c (.for_ true [Aw] (.frz (.bcall .sorted (.c (.attr (.nm AE) AH) .n))) (.c (.for_ true [AG] (.call 0 (.k (.fn 100)) (.c (.idx (.attr (.nm AE) AH) (.nm Aw)) .n)) (.c (.ex (.mth 0 (.nm AP) AL (.c (.tup (.c (.frz (.bin .FloorDiv (.nm Aw) (.k (.int 2)))) (.c (.frz (.bin .Mod (.nm Aw) (.k (.int 2)))) (.c (.nm AG) .n)))) .n))) .n)) .n)) (.c (.frz AP) (.c (.ret (.nm AP)) .n)))
noncomputable def VM:Fn:=⟨[AE],aG,[],0⟩
noncomputable def aF:Sts:= .c (.asg (.nm AP) (.lst .n)) (.c (.asg (.nm JO) (.call 0 (.k (.fn 203)) (.c (.nm AE) .n))) (.c (.for_ true [F4] (.attr (.nm AE) Ak) (.c (.asg (.nm AB) (.attr (.nm F4) AB)) (.c (.ite (.cmp .In (.nm AB) (.nm JO)) (.c (.ex (.mth 0 (.nm AP) AL (.c (.frz (.bin .Add (.bin .Add (.k (.str ⟨⟨[114,117,108,101,32]⟩⟩)) (.bcall .str (.c (.nm AB) .n))) (.k (.str ⟨⟨[32,99,97,110,110,111,116,32,98,101,32,109,97,116,99,104,101,100]⟩⟩)))) .n))) .n) .n) (.c (.ite (.and (.cmp .In (.nm AB) (.attr (.nm AE) BF)) (.cmp .Eq (.attr (.idx (.attr (.nm AE) BF) (.nm AB)) Lq) (.k (.str ⟨⟨[115,101,97,114,99,104]⟩⟩)))) (.c (.ex (.mth 0 (.nm AP) AL (.c (.frz (.bin .Add (.bin .Add (.k (.str ⟨⟨[114,117,108,101,32]⟩⟩)) (.bcall .str (.c (.nm AB) .n))) (.k (.str ⟨⟨[32,104,97,115,32,118,97,114,105,97,98,108,101,32,116,114,97,105,108,105,110,103,32,99,111,110,116,101,120,116]⟩⟩)))) .n))) .n) .n) .n)))) (.c (.ite (.and (.not (.plain (.attr (.nm AE) AF))) (.plain (.call 0 (.k (.fn 210)) (.c (.nm AE) .n)))) (.c (.ex (.mth 0 (.nm AP) AL (.c (.k (.str ⟨⟨[110,111,100,101,102,97,117,108,116,32,105,115,32,116,111,108,100,32,98,117,116,32,116,104,101,32,100,101,102,97,117,108,116,32,114,117,108,101,32,99,97,110,32,98,101,32,109,97,116,99,104,101,100]⟩⟩)) .n))) .n) .n) (.c (.frz AP) (.c (.ret (.nm AP)) .n)))))
noncomputable def VL:Fn:=⟨[AE],aF,[],0⟩
noncomputable def aE:Sts:= .c (.asg (.attr (.nm AA) CG) (.nm CG)) (.c (.asg (.attr (.nm AA) C9) (.nm C9)) (.c (.asg (.attr (.nm AA) GP) (.nm GP)) .n))
noncomputable def ae:Fn:=⟨[AA,CG,C9,GP],aE,[],0⟩
noncomputable def aB:Sts:= .c (.asg (.nm xat) (.bcall .min (.c (.bcall .max (.c (.nm CG) (.c (.k (.int 0)) .n))) (.c (.bcall .len (.c (.nm AK) .n)) .n)))) (.c (.asg (.nm C9) (.k (.int 1))) (.c (.asg (.nm J2) (.k (.int 0))) (.c (.for_ true [DZ] (.frz (.bcall .range (.c (.nm xat) .n))) (.c (.ite (.cmp .Eq (.idx (.nm AK) (.nm DZ)) (.k (.str ⟨⟨[10]⟩⟩))) (.c (.asg (.nm C9) (.bin .Add (.nm C9) (.k (.int 1)))) (.c (.asg (.nm J2) (.bin .Add (.nm DZ) (.k (.int 1)))) .n)) .n) .n)) (.c (.ret (.frz (.call 0 (.k (.fn 248)) (.c (.nm xat) (.c (.nm C9) (.c (.frz (.bin .Add (.bin .Sub (.nm xat) (.nm J2)) (.k (.int 1)))) .n)))))) .n))))
noncomputable def VK:Fn:=⟨[AK,CG],aB,[],0⟩
noncomputable def aA:Sts:= .c (.asg (.attr (.nm AA) FG) (.nm FG)) (.c (.asg (.attr (.nm AA) AK) (.nm AK)) (.c (.asg (.attr (.nm AA) xat) (.nm xat)) (.c (.asg (.attr (.nm AA) Ai) (.ite (.cmp .Is (.nm Ai) (.k .none)) (.nm AK) (.nm Ai))) .n)))
noncomputable def ad:Fn:=⟨[AA,FG,AK,xat,Ai],aA,[.none],0⟩
noncomputable def Z9:Sts:= .c (.ret (.tup (.c (.attr (.nm AA) FG) (.c (.attr (.nm AA) AK) .n)))) .n
noncomputable def VJ:Fn:=⟨[AA],Z9,[],0⟩
noncomputable def Z8:Sts:= .c (.ret (.ofB (.cmp .Eq (.attr (.nm AA) FG) (.k (.str ⟨⟨[36,101,110,100]⟩⟩))))) .n
noncomputable def VI:Fn:=⟨[AA],Z8,[],0⟩
noncomputable def Z7:Sts:= .c (.ret (.frz (.call 0 (.k (.fn 343)) (.c (.k (.str ⟨⟨[36,101,110,100]⟩⟩)) (.c (.k (.str ⟨⟨[]⟩⟩)) (.c (.call 0 (.k (.fn 259)) (.c (.nm AK) (.c (.frz (.bcall .len (.c (.nm AK) .n))) .n))) .n)))))) .n
noncomputable def VH:Fn:=⟨[AK],Z7,[],0⟩
noncomputable def Z6:Sts:= .c (.asg (.attr (.nm AA) Bd) (.nm Bd)) .n
noncomputable def ac:Fn:=⟨[AA,Bd],Z6,[],0⟩
noncomputable def Z5:Sts:= .c (.ret (.mth 0 (.k (.fn 520)) YX (.c (.frz (.cmpr true [FD] (.nm AK) (.tup (.c (.frz (.bcall .ord (.c (.nm FD) .n))) (.c (.frz (.bcall .ord (.c (.nm FD) .n))) .n))) [])) .n))) .n
noncomputable def VG:Fn:=⟨[AK],Z5,[],0⟩
noncomputable def Z4:Sts:= .c (.asg (.nm NV) (.lst .n)) (.c (.for_ false [QD,UT] (.nm QC) (.c (.asg (.nm K7) (.bcall .max (.c (.nm QD) (.c (.k (.int 0)) .n)))) (.c (.asg (.nm D0) (.bcall .min (.c (.nm UT) (.c (.k (.int 127)) .n)))) (.c (.ite (.cmp .LtE (.nm K7) (.nm D0)) (.c (.ex (.mth 0 (.nm NV) AL (.c (.tup (.c (.nm K7) (.c (.nm D0) .n))) .n))) .n) .n) .n)))) (.c (.asg (.nm Bd) (.lst .n)) (.c (.for_ false [K7,D0] (.frz (.bcall .sorted (.c (.nm NV) .n))) (.c (.ite (.and (.plain (.nm Bd)) (.cmp .LtE (.nm K7) (.bin .Add (.idx (.idx (.nm Bd) (.neg (.k (.int 1)))) (.k (.int 1))) (.k (.int 1))))) (.c (.ite (.cmp .Gt (.nm D0) (.idx (.idx (.nm Bd) (.neg (.k (.int 1)))) (.k (.int 1)))) (.c (.asg (.sub (.nm Bd) (.neg (.k (.int 1)))) (.tup (.c (.idx (.idx (.nm Bd) (.neg (.k (.int 1)))) (.k (.int 0))) (.c (.nm D0) .n)))) .n) .n) .n) (.c (.ex (.mth 0 (.nm Bd) AL (.c (.tup (.c (.nm K7) (.c (.nm D0) .n))) .n))) .n)) .n)) (.c (.frz Bd) (.c (.frz NV) (.c (.ret (.frz (.call 0 (.k (.fn 520)) (.c (.frz (.bcall .tuple (.c (.nm Bd) .n))) .n)))) .n))))))
noncomputable def VF:Fn:=⟨[QC],Z4,[],0⟩
noncomputable def Zz:Sts:= .c (.asg (.nm Bb) (.dic1 (.k (.int 0)) (.k (.int 0)))) (.c (.for_ true [Ac] (.frz (.bcall .range (.c (.bcall .len (.c (.nm Qo) .n)) .n))) (.c (.for_ false [K7,D0] (.attr (.idx (.nm Qo) (.nm Ac)) Bd) (.c (.asg (.sub (.nm Bb) (.nm K7)) (.bin .BitXor (.mth 0 (.nm Bb) XS (.c (.nm K7) (.c (.k (.int 0)) .n))) (.bin .LShift (.k (.int 1)) (.nm Ac)))) (.c (.ite (.cmp .Lt (.nm D0) (.k (.int 127))) (.c (.asg (.sub (.nm Bb) (.bin .Add (.nm D0) (.k (.int 1)))) (.bin .BitXor (.mth 0 (.nm Bb) XS (.c (.frz (.bin .Add (.nm D0) (.k (.int 1)))) (.c (.k (.int 0)) .n))) (.bin .LShift (.k (.int 1)) (.nm Ac)))) .n) .n) .n))) .n)) (.c (.asg (.attr (.nm AA) Es) (.lst .n)) (.c (.asg (.attr (.nm AA) AJ) (.lst .n)) (.c (.asg (.nm Fp) .dic0) (.c (.asg (.nm DI) (.k (.int 0))) (.c (.for_ true [F6] (.frz (.bcall .sorted (.c (.mth 0 (.nm Bb) YY .n) .n))) (.c (.asg (.nm DI) (.bin .BitXor (.nm DI) (.idx (.nm Bb) (.nm F6)))) (.c (.ite (.cmp .NotIn (.nm DI) (.nm Fp)) (.c (.asg (.sub (.nm Fp) (.nm DI)) (.bcall .len (.c (.nm Fp) .n))) .n) .n) (.c (.ex (.mth 0 (.attr (.nm AA) Es) AL (.c (.nm F6) .n))) (.c (.ex (.mth 0 (.attr (.nm AA) AJ) AL (.c (.idx (.nm Fp) (.nm DI)) .n))) .n))))) (.c (.frz Bb) (.c (.asg (.attr (.nm AA) Be) (.bcall .len (.c (.nm Fp) .n))) .n))))))))
noncomputable def ab:Fn:=⟨[AA,Qo],Zz,[],0⟩
noncomputable def Zy:Sts:= .c (.ite (.or (.cmp .Lt (.nm F6) (.k (.int 0))) (.cmp .Gt (.nm F6) (.k (.int 127)))) (.c (.ret (.neg (.k (.int 1)))) .n) .n) (.c (.asg (.nm JA) (.k (.int 0))) (.c (.asg (.nm HZ) (.bcall .len (.c (.attr (.nm AA) Es) .n))) (.c (.whl (.cmp .Gt (.bin .Sub (.nm HZ) (.nm JA)) (.k (.int 1))) (.c (.asg (.nm GO) (.bin .FloorDiv (.bin .Add (.nm JA) (.nm HZ)) (.k (.int 2)))) (.c (.ite (.cmp .LtE (.idx (.attr (.nm AA) Es) (.nm GO)) (.nm F6)) (.c (.asg (.nm JA) (.nm GO)) .n) (.c (.asg (.nm HZ) (.nm GO)) .n)) .n))) (.c (.ret (.idx (.attr (.nm AA) AJ) (.nm JA))) .n))))
noncomputable def VE:Fn:=⟨[AA,F6],Zy,[],0⟩
noncomputable def Zx:Sts:= .c (.ret (.frz (.cmpr true [FD] (.nm AK) (.mth 0 (.nm AA) xof (.c (.frz (.bcall .ord (.c (.nm FD) .n))) .n)) [AA]))) .n
noncomputable def VD:Fn:=⟨[AA,AK],Zx,[],0⟩
noncomputable def Zw:Sts:= .c (.asg (.attr (.nm AA) Ao) (.nm Ao)) (.c (.asg (.attr (.nm AA) Ai) (.nm Ai)) .n)
noncomputable def aa:Fn:=⟨[AA,Ao,Ai],Zw,[.none],0⟩
noncomputable def Zv:Sts:= .c (.asg (.attr (.nm AA) AB) (.nm AB)) (.c (.asg (.attr (.nm AA) B8) (.nm B8)) (.c (.asg (.attr (.nm AA) Dc) (.nm Dc)) (.c (.asg (.attr (.nm AA) AY) (.nm AY)) (.c (.asg (.attr (.nm AA) C9) (.nm C9)) .n))))
noncomputable def aZ:Fn:=⟨[AA,AB,B8,Dc,AY,C9],Zv,[],0⟩
noncomputable def Zu:Sts:= .c (.asg (.attr (.nm AA) AK) (.nm AK)) (.c (.asg (.attr (.nm AA) CX) (.nm CX)) (.c (.asg (.attr (.nm AA) AF) (.nm AF)) (.c (.asg (.attr (.nm AA) EG) (.nm EG)) (.c (.asg (.attr (.nm AA) xat) (.k (.int 0))) (.c (.asg (.attr (.nm AA) EM) (.k (.int 0))) (.c (.asg (.attr (.nm AA) AI) (.k (.int 0))) (.c (.asg (.attr (.nm AA) I9) (.lst .n)) (.c (.asg (.attr (.nm AA) DO) (.k (.str ⟨⟨[]⟩⟩))) (.c (.asg (.attr (.nm AA) Be) (.k (.int 0))) (.c (.asg (.attr (.nm AA) Bb) (.lst .n)) (.c (.asg (.attr (.nm AA) Cp) (.k (.bool false))) (.c (.asg (.attr (.nm AA) DF) (.k (.bool false))) .n))))))))))))
noncomputable def aY:Fn:=⟨[AA,AK,CX,AF,EG],Zu,[],4⟩
noncomputable def Zt:Sts:= .c (.ite (.or (.cmp .Eq (.nm CG) (.k (.int 0))) (.cmp .Eq (.idx (.attr (.nm AA) AK) (.bin .Sub (.nm CG) (.k (.int 1)))) (.k (.str ⟨⟨[10]⟩⟩)))) (.c (.ret (.k (.int 1))) .n) .n) (.c (.ret (.k (.int 0))) .n)
noncomputable def VC:Fn:=⟨[AA,CG],Zt,[],4⟩
noncomputable def Zs:Sts:= .c (.ret (.slc (.attr (.nm AA) AK) (.attr (.nm AA) EM) (.attr (.nm AA) xat))) .n
noncomputable def VB:Fn:=⟨[AA],Zs,[],4⟩
noncomputable def Zr:Sts:= .c (.ret (.frz (.call 0 (.k (.fn 343)) (.c (.nm FG) (.c (.mth 4 (.nm AA) JN .n) (.c (.call 0 (.k (.fn 259)) (.c (.attr (.nm AA) AK) (.c (.attr (.nm AA) EM) .n))) .n)))))) .n
noncomputable def VA:Fn:=⟨[AA,FG],Zr,[],4⟩
noncomputable def Zq:Sts:= .c (.aug (.nm AA) Be (.k (.int 1))) (.c (.ite (.cmp .Gt (.attr (.nm AA) Be) (.attr (.nm AA) EG)) (.c (.rais (.bin .Add (.bin .Add (.k (.str ⟨⟨[109,111,114,101,32,116,104,97,110,32]⟩⟩)) (.bcall .str (.c (.attr (.nm AA) EG) .n))) (.k (.str ⟨⟨[32,116,117,114,110,115]⟩⟩))) (.mth 4 (.nm AA) Ac .n)) .n) .n) .n)
noncomputable def U9:Fn:=⟨[AA],Zq,[],4⟩
noncomputable def Zp:Sts:= .c (.ret (.call 0 (.k (.fn 259)) (.c (.attr (.nm AA) AK) (.c (.attr (.nm AA) xat) .n)))) .n
noncomputable def U8:Fn:=⟨[AA],Zp,[],4⟩
noncomputable def Zo:Sts:= .c (.whl (.plain (.k (.bool true))) (.c (.ite (.cmp .Lt (.attr (.nm AA) xat) (.bcall .len (.c (.attr (.nm AA) AK) .n))) (.c (.asg (.nm CD) (.mth 4 (.nm AA) YU .n)) .n) (.c (.asg (.nm AB) (.mth 4 (.nm AA) IQ (.c (.attr (.nm AA) AI) .n))) (.c (.ite (.or (.plain (.attr (.nm AA) DF)) (.cmp .Lt (.nm AB) (.k (.int 0)))) (.c (.ret (.call 0 (.k (.fn 354)) (.c (.attr (.nm AA) AK) .n))) .n) .n) (.c (.asg (.nm CD) (.mth 4 (.nm AA) Nq (.c (.nm AB) .n))) .n)))) (.c (.ite (.cmp .IsNot (.nm CD) (.k .none)) (.c (.ret (.nm CD)) .n) .n) .n))) .n
noncomputable def U7:Fn:=⟨[AA],Zo,[],4⟩
noncomputable def Zn:Sts:= .c (.asg (.nm AP) (.lst (.c (.mth 4 (.nm AA) Fh .n) .n))) (.c (.whl (.not (.plain (.mth 0 (.idx (.nm AP) (.neg (.k (.int 1)))) Rq .n))) (.c (.ex (.mth 0 (.nm AP) AL (.c (.mth 4 (.nm AA) Fh .n) .n))) .n)) (.c (.frz AP) (.c (.ret (.nm AP)) .n)))
noncomputable def U6:Fn:=⟨[AA],Zn,[],4⟩
noncomputable def Zl:Sts:= .c (.ex (.mth 4 (.nm AA) YW .n)) (.c (.ite (.not (.plain (.attr (.nm AA) Cp))) (.c (.asg (.attr (.nm AA) EM) (.attr (.nm AA) xat)) .n) .n) (.c (.asg (.attr (.nm AA) Cp) (.k (.bool false))) .n))
noncomputable def U5:Fn:=⟨[AA],Zl,[],4⟩
noncomputable def Zk:Sts:= .c (.ex (.mth 4 (.nm AA) Fg .n)) (.c (.asg (.nm BD) (.attr (.nm AA) xat)) (.c (.for_ false [Jr,AB] (.mth 4 (.nm AA) KH (.c (.nm BD) .n)) (.c (.asg (.attr (.nm AA) xat) (.nm Jr)) (.c (.asg (.tup [Bh,CD]) (.mth 4 (.nm AA) KR (.c (.nm AB) (.c (.nm BD) .n)))) (.c (.ite (.not (.plain (.nm Bh))) (.c (.ex (.mth 0 (.attr (.nm AA) Bb) AL (.c (.tup (.c (.nm AB) (.c (.nm BD) (.c (.attr (.nm AA) xat) .n)))) .n))) (.c (.ret (.nm CD)) .n)) .n) .n)))) (.c (.ite (.not (.plain (.attr (.nm AA) AF))) (.c (.rais (.k (.str ⟨⟨[110,111,32,114,117,108,101,32,109,97,116,99,104,101,115,32,104,101,114,101]⟩⟩)) (.mth 4 (.nm AA) Ac .n)) .n) .n) (.c (.asg (.attr (.nm AA) xat) (.bin .Add (.nm BD) (.k (.int 1)))) (.c (.asg (.attr (.nm AA) DO) (.bin .Add (.attr (.nm AA) DO) (.mth 4 (.nm AA) JN .n))) (.c (.ex (.mth 0 (.attr (.nm AA) Bb) AL (.c (.tup (.c (.neg (.k (.int 1))) (.c (.nm BD) (.c (.attr (.nm AA) xat) .n)))) .n))) (.c (.ret (.k .none)) .n)))))))
noncomputable def U4:Fn:=⟨[AA],Zk,[],4⟩
noncomputable def Zj:Sts:= .c (.ex (.mth 4 (.nm AA) Fg .n)) (.c (.asg (.nm Az) (.attr (.nm AA) AI)) (.c (.asg (.tup [Bh,CD]) (.mth 4 (.nm AA) KR (.c (.nm AB) (.c (.attr (.nm AA) xat) .n)))) (.c (.ex (.mth 0 (.attr (.nm AA) Bb) AL (.c (.tup (.c (.nm AB) (.c (.attr (.nm AA) xat) (.c (.attr (.nm AA) xat) .n)))) .n))) (.c (.asg (.attr (.nm AA) DF) (.ofB (.cmp .Eq (.attr (.nm AA) AI) (.nm Az)))) (.c (.ret (.nm CD)) .n)))))
noncomputable def U3:Fn:=⟨[AA,AB],Zj,[],4⟩
noncomputable def Zi:Sts:= .c (.for_ true [DY] (.mth 4 (.nm AA) AY (.c (.nm AB) .n)) (.c (.ite (.cmp .Eq (.attr (.nm DY) Ao) (.k (.str ⟨⟨[114,101,116,117,114,110]⟩⟩))) (.c (.ret (.tup (.c (.k (.bool false)) (.c (.mth 4 (.nm AA) CD (.c (.attr (.nm DY) Ai) .n)) .n)))) .n) .n) (.c (.ite (.cmp .Eq (.attr (.nm DY) Ao) (.k (.str ⟨⟨[114,101,106,101,99,116]⟩⟩))) (.c (.asg (.attr (.nm AA) xat) (.nm BD)) (.c (.asg (.attr (.nm AA) Cp) (.k (.bool false))) (.c (.ret (.tup (.c (.k (.bool true)) (.c (.k .none) .n)))) .n))) .n) (.c (.ex (.mth 4 (.nm AA) Ox (.c (.attr (.nm DY) Ao) (.c (.attr (.nm DY) Ai) (.c (.nm BD) .n))))) .n)))) (.c (.ret (.tup (.c (.k (.bool false)) (.c (.k .none) .n)))) .n)
noncomputable def U1:Fn:=⟨[AA,AB,BD],Zi,[],4⟩
noncomputable def Zh:Sts:= .c (.ite (.cmp .Eq (.nm Ao) (.k (.str ⟨⟨[98,101,103,105,110]⟩⟩))) (.c (.asg (.attr (.nm AA) AI) (.mth 0 (.attr (.nm AA) CX) J1 (.c (.nm Ai) .n))) .n) (.c (.ite (.cmp .Eq (.nm Ao) (.k (.str ⟨⟨[112,117,115,104]⟩⟩))) (.c (.ex (.mth 0 (.attr (.nm AA) I9) AL (.c (.attr (.nm AA) AI) .n))) (.c (.asg (.attr (.nm AA) AI) (.mth 0 (.attr (.nm AA) CX) J1 (.c (.nm Ai) .n))) .n)) (.c (.ite (.cmp .Eq (.nm Ao) (.k (.str ⟨⟨[112,111,112]⟩⟩))) (.c (.ite (.cmp .Eq (.bcall .len (.c (.attr (.nm AA) I9) .n)) (.k (.int 0))) (.c (.rais (.k (.str ⟨⟨[112,111,112,32,111,102,32,97,110,32,101,109,112,116,121,32,112,105,108,101]⟩⟩)) (.mth 4 (.nm AA) Ac .n)) .n) .n) (.c (.asg (.attr (.nm AA) AI) (.mth 0 (.attr (.nm AA) I9) bE .n)) .n)) (.c (.ite (.cmp .Eq (.nm Ao) (.k (.str ⟨⟨[109,111,114,101]⟩⟩))) (.c (.asg (.attr (.nm AA) Cp) (.k (.bool true))) .n) (.c (.ite (.cmp .Eq (.nm Ao) (.k (.str ⟨⟨[108,101,115,115]⟩⟩))) (.c (.asg (.attr (.nm AA) xat) (.bcall .min (.c (.attr (.nm AA) xat) (.c (.bcall .max (.c (.nm BD) (.c (.bin .Add (.attr (.nm AA) EM) (.nm Ai)) .n))) .n)))) .n) (.c (.ite (.cmp .Eq (.nm Ao) (.k (.str ⟨⟨[101,99,104,111]⟩⟩))) (.c (.asg (.attr (.nm AA) DO) (.bin .Add (.attr (.nm AA) DO) (.mth 4 (.nm AA) JN .n))) .n) .n) .n)) .n)) .n)) .n)) .n)) .n
noncomputable def Nh:Fn:=⟨[AA,Ao,Ai,BD],Zh,[],4⟩
noncomputable def Zg:Sts:= .c (.ex (.mth 2 (.k (.fn 817)) Rr (.c (.nm AA) (.c (.nm AK) (.c (.attr (.nm AE) CX) (.c (.attr (.nm AE) AF) (.c (.nm EG) .n))))))) (.c (.asg (.attr (.nm AA) AE) (.nm AE)) (.c (.asg (.attr (.nm AA) AJ) (.mth 0 (.attr (.nm AE) BR) Ao (.c (.nm AK) .n))) .n))
noncomputable def U0:Fn:=⟨[AA,AE,AK,EG],Zg,[.int 2000],4⟩
noncomputable def Zf:Sts:= .c (.asg (.nm AV) (.mth 0 (.attr (.nm AA) AE) AV (.c (.attr (.nm AA) AI) (.c (.mth 4 (.nm AA) DP (.c (.nm BD) .n)) .n)))) (.c (.asg (.nm AP) (.lst .n)) (.c (.for_ false [Jr,At] (.call 0 (.k (.fn 88)) (.c (.nm AV) (.c (.attr (.nm AA) AJ) (.c (.nm BD) .n)))) (.c (.asg (.nm HD) (.slc (.attr (.nm AA) AJ) (.nm BD) (.nm Jr))) (.c (.frz HD) (.c (.for_ true [AB] (.nm At) (.c (.asg (.nm CH) (.call 0 (.k (.fn 191)) (.c (.attr (.nm AA) AE) (.c (.nm AB) (.c (.nm HD) .n))))) (.c (.ite (.cmp .Gt (.nm CH) (.k (.int 0))) (.c (.ex (.mth 0 (.nm AP) AL (.c (.tup (.c (.frz (.bin .Add (.nm BD) (.nm CH))) (.c (.nm AB) .n))) .n))) (.c (.ite (.not (.plain (.attr (.attr (.nm AA) AE) Da))) (.c (.frz AP) (.c (.ret (.nm AP)) .n)) .n) .n)) .n) .n))) .n)))) (.c (.frz AP) (.c (.ret (.nm AP)) .n))))
noncomputable def Uz:Fn:=⟨[AA,BD],Zf,[],4⟩
noncomputable def Ze:Sts:= .c (.ret (.mth 0 (.attr (.nm AA) AE) AY (.c (.nm AB) .n))) .n
noncomputable def Uy:Fn:=⟨[AA,AB],Ze,[],4⟩
noncomputable def Zd:Sts:= .c (.ret (.mth 0 (.attr (.nm AA) AE) IQ (.c (.nm AI) .n))) .n
noncomputable def Ux:Fn:=⟨[AA,AI],Zd,[],4⟩
noncomputable def Zc:Sts:= .c (.asg (.nm Eg) (.call 0 (.k (.fn 860)) (.c (.nm AE) (.c (.nm AK) .n)))) (.c (.asg (.nm BM) (.mth 4 (.nm Eg) BM .n)) (.c (.asg (.nm BE) (.lst .n)) (.c (.for_ false [AB,L8,Jr] (.frz (.attr (.nm Eg) Bb)) (.c (.asg (.nm Qp) (.slc (.nm AK) (.nm L8) (.nm Jr))) (.c (.ite (.cmp .Lt (.nm AB) (.k (.int 0))) (.c (.ex (.mth 0 (.nm BE) AL (.c (.frz (.bin .Add (.bin .Add (.k (.str ⟨⟨[45,45,97,99,99,101,112,116,105,110,103,32,100,101,102,97,117,108,116,32,114,117,108,101,32,40,34]⟩⟩)) (.nm Qp)) (.k (.str ⟨⟨[34,41]⟩⟩)))) .n))) .n) (.c (.ite (.cmp .Eq (.nm L8) (.bcall .len (.c (.nm AK) .n))) (.c (.ex (.mth 0 (.nm BE) AL (.c (.frz (.bin .Add (.k (.str ⟨⟨[45,45,69,79,70,32,114,117,108,101,32]⟩⟩)) (.bcall .str (.c (.nm AB) .n)))) .n))) .n) (.c (.ex (.mth 0 (.nm BE) AL (.c (.frz (.bin .Add (.bin .Add (.bin .Add (.bin .Add (.k (.str ⟨⟨[45,45,97,99,99,101,112,116,105,110,103,32,114,117,108,101,32]⟩⟩)) (.bcall .str (.c (.nm AB) .n))) (.k (.str ⟨⟨[32,40,34]⟩⟩))) (.nm Qp)) (.k (.str ⟨⟨[34,41]⟩⟩)))) .n))) .n)) .n)) .n))) (.c (.ex (.mth 0 (.nm BE) AL (.c (.k (.str ⟨⟨[45,45,69,79,70]⟩⟩)) .n))) (.c (.frz BE) (.c (.ret (.tup (.c (.nm BM) (.c (.nm BE) .n)))) .n))))))
noncomputable def Uw:Fn:=⟨[AE,AK],Zc,[],0⟩
noncomputable def Ng:Sts:= .c (.asg (.nm Cu) (.lst .n)) (.c (.asg (.nm At) (.lst .n)) (.c (.for_ true [AG] (.frz (.bcall .range (.c (.k (.int 3)) .n))) (.c (.asgC Jq (.cmpr true [AB] (.frz (.bcall .range (.c (.k (.int 3)) .n))) (.frz (.bin .Sub (.call 2 (.nm BO) (.c (.k (.int 4)) .n)) (.k (.int 1)))) [BO])) (.c (.ite (.cmp .Lt (.nm AG) (.k (.int 2))) (.c (.asg (.sub (.nm Jq) (.call 2 (.nm BO) (.c (.k (.int 3)) .n))) (.bin .Add (.nm AG) (.k (.int 1)))) .n) .n) (.c (.asg (.nm FF) (.ite (.cmp .Gt (.nm AG) (.k (.int 0))) (.call 2 (.nm BO) (.c (.k (.int 8)) .n)) (.k (.int 0)))) (.c (.ite (.plain (.nm Aq)) (.c (.asg (.nm Jq) (.ite (.cmp .Eq (.nm AG) (.k (.int 0))) (.lst (.c (.k (.int 1)) (.c (.k (.int 1)) (.c (.k (.int 1)) .n)))) (.lst (.c (.neg (.k (.int 1))) (.c (.k (.int 2)) (.c (.k (.int 0)) .n)))))) (.c (.asg (.nm FF) (.ite (.cmp .Eq (.nm AG) (.k (.int 1))) (.bcall .max (.c (.nm FF) (.c (.k (.int 1)) .n))) (.nm FF))) .n)) .n) (.c (.frz Jq) (.c (.ex (.mth 0 (.nm Cu) AL (.c (.nm Jq) .n))) (.c (.ex (.mth 0 (.nm At) AL (.c (.frz (.bcall .tuple (.c (.cmprIf true [XR] (.frz (.bcall .range (.c (.k (.int 3)) .n))) (.nm XR) (.cmp .Eq (.bin .Mod (.bin .FloorDiv (.nm FF) (.bin .Pow (.k (.int 2)) (.nm XR))) (.k (.int 2))) (.k (.int 1))) [FF]) .n))) .n))) .n)))))))) (.c (.frz Cu) (.c (.frz At) (.c (.ret (.tup (.c (.nm Cu) (.c (.nm At) .n)))) .n)))))
noncomputable def Uv:Fn:=⟨[BO,Aq],Ng,[],2⟩
noncomputable def Zb:Sts:= .c (.asg (.nm AG) (.k (.int 0))) (.c (.for_ true [AB] (.nm AJ) (.c (.asg (.nm AG) (.ite (.cmp .GtE (.nm AG) (.k (.int 0))) (.idx (.idx (.idx (.nm AV) (.k (.int 0))) (.nm AG)) (.nm AB)) (.neg (.k (.int 1))))) .n)) (.c (.ret (.ite (.cmp .GtE (.nm AG) (.k (.int 0))) (.idx (.idx (.nm AV) (.k (.int 1))) (.nm AG)) (.tup .n))) .n))
noncomputable def Uu:Fn:=⟨[AV,AJ],Zb,[],0⟩
noncomputable def DB:Sts:= .c (.asg (.nm BM) (.lst .n)) (.c (.asg (.nm BE) (.lst .n)) (.c (.asg (.tup [xat,AG]) (.tup (.c (.k (.int 0)) (.c (.k (.int 0)) .n)))) (.c (.whl (.cmp .Lt (.nm xat) (.bcall .len (.c (.nm AK) .n))) (.c (.asg (.nm Aw) (.bin .Add (.bin .Mult (.k (.int 2)) (.nm AG)) (.ite (.or (.cmp .Eq (.nm xat) (.k (.int 0))) (.cmp .Eq (.idx (.nm AK) (.bin .Sub (.nm xat) (.k (.int 1)))) (.k (.str ⟨⟨[10]⟩⟩)))) (.k (.int 1)) (.k (.int 0))))) (.c (.asg (.nm CS) (.bcall .len (.c (.nm AK) .n))) (.c (.whl (.and (.cmp .Gt (.nm CS) (.nm xat)) (.cmp .Eq (.call 0 (.k (.fn 917)) (.c (.idx (.nm AH) (.nm Aw)) (.c (.frz (.cmpr true [FD] (.slc (.nm AK) (.nm xat) (.nm CS)) (.idx (.k (.fs [⟨⟨[97]⟩⟩,⟨⟨[98]⟩⟩,⟨⟨[10]⟩⟩,⟨⟨[99]⟩⟩] [.int 1, .int 2, .int 0, .int 0])) (.nm FD)) [])) .n))) (.tup .n))) (.c (.asg (.nm CS) (.bin .Sub (.nm CS) (.k (.int 1)))) .n)) (.c (.asg (.nm DZ) (.nm xat)) (.c (.ite (.cmp .Eq (.nm CS) (.nm xat)) (.c (.ite (.not (.plain (.nm AF))) (.c (.frz BM) (.c (.frz BE) (.c (.ret (.k (.str ⟨⟨[114,101,102,117,115,101,100]⟩⟩))) .n))) .n) (.c (.asg (.nm xat) (.bin .Add (.nm xat) (.k (.int 1)))) (.c (.ex (.mth 0 (.nm BE) AL (.c (.frz (.bin .Add (.bin .Add (.k (.str ⟨⟨[45,45,97,99,99,101,112,116,105,110,103,32,100,101,102,97,117,108,116,32,114,117,108,101,32,40,34]⟩⟩)) (.slc (.nm AK) (.nm DZ) (.nm xat))) (.k (.str ⟨⟨[34,41]⟩⟩)))) .n))) (.c .cont .n)))) .n) (.c (.asg (.nm AB) (.idx (.call 0 (.k (.fn 917)) (.c (.idx (.nm AH) (.nm Aw)) (.c (.frz (.cmpr true [FD] (.slc (.nm AK) (.nm xat) (.nm CS)) (.idx (.k (.fs [⟨⟨[97]⟩⟩,⟨⟨[98]⟩⟩,⟨⟨[10]⟩⟩,⟨⟨[99]⟩⟩] [.int 1, .int 2, .int 0, .int 0])) (.nm FD)) [])) .n))) (.k (.int 0)))) (.c (.asg (.nm xat) (.nm CS)) (.c (.for_ false [Ao,Ai] (.idx (.nm AY) (.nm AB)) (.c (.ite (.cmp .Eq (.nm Ao) (.k (.str ⟨⟨[108,101,115,115]⟩⟩))) (.c (.asg (.nm xat) (.bin .Add (.nm DZ) (.k (.int 1)))) .n) (.c (.ite (.cmp .Eq (.nm Ao) (.k (.str ⟨⟨[98,101,103,105,110]⟩⟩))) (.c (.asg (.nm AG) (.mth 0 (.k (.tup [.str ⟨⟨[73,78,73,84,73,65,76]⟩⟩, .str ⟨⟨[65]⟩⟩])) J1 (.c (.nm Ai) .n))) .n) (.c (.ite (.cmp .Eq (.nm Ao) (.k (.str ⟨⟨[114,101,116,117,114,110]⟩⟩))) (.c (.ex (.mth 0 (.nm BM) AL (.c (.tup (.c (.nm Ai) (.c (.slc (.nm AK) (.nm DZ) (.nm xat)) .n))) .n))) .n) .n) .n)) .n)) .n)) (.c (.ex (.mth 0 (.nm BE) AL (.c (.frz (.bin .Add (.bin .Add (.bin .Add (.bin .Add (.k (.str ⟨⟨[45,45,97,99,99,101,112,116,105,110,103,32,114,117,108,101,32]⟩⟩)) (.bcall .str (.c (.nm AB) .n))) (.k (.str ⟨⟨[32,40,34]⟩⟩))) (.slc (.nm AK) (.nm DZ) (.nm xat))) (.k (.str ⟨⟨[34,41]⟩⟩)))) .n))) .n)))))))))) (.c (.asg (.nm Az) (.neg (.k (.int 1)))) (.c (.whl (.and (.cmp .In (.nm AG) (.nm Bw)) (.cmp .NotEq (.nm AG) (.nm Az))) (.c (.asg (.nm Az) (.nm AG)) (.c (.ex (.mth 0 (.nm BE) AL (.c (.k (.str ⟨⟨[45,45,69,79,70,32,114,117,108,101,32,51]⟩⟩)) .n))) (.c (.for_ false [Ao,Ai] (.idx (.nm AY) (.k (.int 3))) (.c (.ite (.cmp .Eq (.nm Ao) (.k (.str ⟨⟨[98,101,103,105,110]⟩⟩))) (.c (.asg (.nm AG) (.mth 0 (.k (.tup [.str ⟨⟨[73,78,73,84,73,65,76]⟩⟩, .str ⟨⟨[65]⟩⟩])) J1 (.c (.nm Ai) .n))) .n) (.c (.ite (.cmp .Eq (.nm Ao) (.k (.str ⟨⟨[114,101,116,117,114,110]⟩⟩))) (.c (.ex (.mth 0 (.nm BM) AL (.c (.tup (.c (.nm Ai) (.c (.k (.str ⟨⟨[]⟩⟩)) .n))) .n))) .n) .n) .n)) .n)) .n)))) (.c (.frz BM) (.c (.frz BE) (.c (.ret (.tup (.c (.frz (.bin .Add (.nm BM) (.lst (.c (.tup (.c (.k (.str ⟨⟨[36,101,110,100]⟩⟩)) (.c (.k (.str ⟨⟨[]⟩⟩)) .n))) .n)))) (.c (.frz (.bin .Add (.nm BE) (.lst (.c (.k (.str ⟨⟨[45,45,69,79,70]⟩⟩)) .n)))) .n)))) .n))))))))
noncomputable def Ut:Fn:=⟨[AH,AY,Bw,AF,AK],DB,[],0⟩
noncomputable def Aj:Sts:= .c (.asg (.nm BO) (.call 1 (.k (.fn 905)) (.c (.nm xscript) .n))) (.c (.asg (.nm AF) (.ofB (.cmp .NotEq (.call 2 (.nm BO) (.c (.k (.int 3)) .n)) (.k (.int 0))))) (.c (.asg (.nm C1) (.call 2 (.nm BO) (.c (.k (.int 3)) .n))) (.c (.asg (.nm AY) (.lst .n)) (.c (.asg (.nm BF) .dic0) (.c (.for_ true [AB] (.frz (.bcall .range (.c (.k (.int 3)) .n))) (.c (.ite (.cmp .Eq (.call 2 (.nm BO) (.c (.k (.int 2)) .n)) (.k (.int 1))) (.c (.asg (.sub (.nm BF) (.nm AB)) (.frz (.call 0 (.k (.fn 117)) (.c (.k (.str ⟨⟨[115,101,97,114,99,104]⟩⟩)) (.c (.k .none) (.c (.frz (.call 0 (.k (.fn 76)) (.c (.frz (.lst (.c (.frz (.lst (.c (.k (.int 0)) (.c (.k (.int 0)) (.c (.k (.int 0)) .n))))) .n))) (.c (.frz (.lst (.c (.tup (.c (.k (.int 0)) .n)) .n))) .n)))) (.c (.frz (.call 0 (.k (.fn 76)) (.c (.frz (.lst (.c (.frz (.lst (.c (.k (.int 0)) (.c (.k (.int 0)) (.c (.k (.int 0)) .n))))) .n))) (.c (.frz (.lst (.c (.tup (.c (.k (.int 0)) .n)) .n))) .n)))) .n))))))) .n) .n) (.c (.ex (.mth 0 (.nm AY) AL (.c (.idx (.k (.tup [.tup [], .tup [.tup [.str ⟨⟨[101,99,104,111]⟩⟩, .none]], .tup [.tup [.str ⟨⟨[114,101,116,117,114,110]⟩⟩, .str ⟨⟨[78]⟩⟩]], .tup [.tup [.str ⟨⟨[108,101,115,115]⟩⟩, .int 1], .tup [.str ⟨⟨[114,101,116,117,114,110]⟩⟩, .str ⟨⟨[77]⟩⟩]], .tup [.tup [.str ⟨⟨[98,101,103,105,110]⟩⟩, .str ⟨⟨[65]⟩⟩]], .tup [.tup [.str ⟨⟨[98,101,103,105,110]⟩⟩, .str ⟨⟨[73,78,73,84,73,65,76]⟩⟩], .tup [.str ⟨⟨[114,101,116,117,114,110]⟩⟩, .str ⟨⟨[39,43,39]⟩⟩]]])) (.call 2 (.nm BO) (.c (.k (.int 6)) .n))) .n))) .n))) (.c (.asg (.nm Bw) .dic0) (.c (.ite (.cmp .Gt (.nm C1) (.k (.int 0))) (.c (.ex (.mth 0 (.nm AY) AL (.c (.idx (.tup (.c (.idx (.k (.tup [.tup [], .tup [.tup [.str ⟨⟨[101,99,104,111]⟩⟩, .none]], .tup [.tup [.str ⟨⟨[114,101,116,117,114,110]⟩⟩, .str ⟨⟨[78]⟩⟩]], .tup [.tup [.str ⟨⟨[108,101,115,115]⟩⟩, .int 1], .tup [.str ⟨⟨[114,101,116,117,114,110]⟩⟩, .str ⟨⟨[77]⟩⟩]], .tup [.tup [.str ⟨⟨[98,101,103,105,110]⟩⟩, .str ⟨⟨[65]⟩⟩]], .tup [.tup [.str ⟨⟨[98,101,103,105,110]⟩⟩, .str ⟨⟨[73,78,73,84,73,65,76]⟩⟩], .tup [.str ⟨⟨[114,101,116,117,114,110]⟩⟩, .str ⟨⟨[39,43,39]⟩⟩]]])) (.k (.int 2))) (.c (.idx (.k (.tup [.tup [], .tup [.tup [.str ⟨⟨[101,99,104,111]⟩⟩, .none]], .tup [.tup [.str ⟨⟨[114,101,116,117,114,110]⟩⟩, .str ⟨⟨[78]⟩⟩]], .tup [.tup [.str ⟨⟨[108,101,115,115]⟩⟩, .int 1], .tup [.str ⟨⟨[114,101,116,117,114,110]⟩⟩, .str ⟨⟨[77]⟩⟩]], .tup [.tup [.str ⟨⟨[98,101,103,105,110]⟩⟩, .str ⟨⟨[65]⟩⟩]], .tup [.tup [.str ⟨⟨[98,101,103,105,110]⟩⟩, .str ⟨⟨[73,78,73,84,73,65,76]⟩⟩], .tup [.str ⟨⟨[114,101,116,117,114,110]⟩⟩, .str ⟨⟨[39,43,39]⟩⟩]]])) (.k (.int 4))) (.c (.idx (.k (.tup [.tup [], .tup [.tup [.str ⟨⟨[101,99,104,111]⟩⟩, .none]], .tup [.tup [.str ⟨⟨[114,101,116,117,114,110]⟩⟩, .str ⟨⟨[78]⟩⟩]], .tup [.tup [.str ⟨⟨[108,101,115,115]⟩⟩, .int 1], .tup [.str ⟨⟨[114,101,116,117,114,110]⟩⟩, .str ⟨⟨[77]⟩⟩]], .tup [.tup [.str ⟨⟨[98,101,103,105,110]⟩⟩, .str ⟨⟨[65]⟩⟩]], .tup [.tup [.str ⟨⟨[98,101,103,105,110]⟩⟩, .str ⟨⟨[73,78,73,84,73,65,76]⟩⟩], .tup [.str ⟨⟨[114,101,116,117,114,110]⟩⟩, .str ⟨⟨[39,43,39]⟩⟩]]])) (.k (.int 5))) .n)))) (.call 2 (.nm BO) (.c (.k (.int 3)) .n))) .n))) (.c (.asg (.sub (.nm Bw) (.k (.int 0))) (.k (.int 3))) (.c (.ite (.cmp .Eq (.nm C1) (.k (.int 2))) (.c (.asg (.sub (.nm Bw) (.k (.int 1))) (.k (.int 3))) .n) .n) .n))) .n) (.c (.asg (.nm AK) (.mth 0 (.k (.str ⟨⟨[]⟩⟩)) YZ (.c (.frz (.cmpr true [xk] (.frz (.bcall .range (.c (.bin .Add (.k (.int 2)) (.call 2 (.nm BO) (.c (.k (.int 4)) .n))) .n))) (.idx (.k (.str ⟨⟨[97,98,10,97,99]⟩⟩)) (.call 2 (.nm BO) (.c (.k (.int 5)) .n))) [BO])) .n))) (.c (.asg (.nm Aq) (.ofB (.cmp .Eq (.call 2 (.nm BO) (.c (.k (.int 4)) .n)) (.k (.int 3))))) (.c (.asgC AH (.cmpr true [Aw] (.frz (.bcall .range (.c (.k (.int 4)) .n))) (.call 2 (.k (.fn 910)) (.c (.nm BO) (.c (.nm Aq) .n))) [Aq,BO])) (.c (.frz AY) (.c (.frz AH) (.c (.asg (.nm Ak) (.lst .n)) (.c (.for_ true [AB] (.frz (.bcall .range (.c (.bcall .len (.c (.nm AY) .n)) .n))) (.c (.asgC L7 (.cmpr false [Ao,Ai] (.idx (.nm AY) (.nm AB)) (.frz (.call 0 (.k (.fn 632)) (.c (.nm Ao) (.c (.nm Ai) .n)))) [])) (.c (.frz L7) (.c (.ex (.mth 0 (.nm Ak) AL (.c (.frz (.call 0 (.k (.fn 691)) (.c (.nm AB) (.c (.tup (.c (.k (.int 0)) (.c (.k (.int 1)) .n))) (.c (.k .none) (.c (.nm L7) (.c (.frz (.bin .Add (.nm AB) (.k (.int 1)))) .n))))))) .n))) .n)))) (.c (.asg (.nm FH) .dic0) (.c (.for_ true [Aw] (.frz (.bcall .range (.c (.k (.int 4)) .n))) (.c (.asg (.sub (.nm FH) (.nm Aw)) (.frz (.call 0 (.k (.fn 76)) (.c (.idx (.idx (.nm AH) (.nm Aw)) (.k (.int 0))) (.c (.idx (.idx (.nm AH) (.nm Aw)) (.k (.int 1))) .n))))) .n)) (.c (.asg (.nm BR) (.frz (.call 0 (.k (.fn 596)) (.c (.frz (.lst (.c (.mth 0 (.k (.fn 520)) xof (.c (.k (.str ⟨⟨[97]⟩⟩)) .n)) (.c (.mth 0 (.k (.fn 520)) xof (.c (.k (.str ⟨⟨[98]⟩⟩)) .n)) .n)))) .n)))) (.c (.frz BF) (.c (.frz FH) (.c (.frz Ak) (.c (.asg (.nm AE) (.frz (.call 0 (.k (.fn 166)) (.c (.nm BR) (.c (.frz (.bcall .list (.c (.k (.tup [.str ⟨⟨[73,78,73,84,73,65,76]⟩⟩, .str ⟨⟨[65]⟩⟩])) .n))) (.c (.nm FH) (.c (.nm Ak) (.c (.nm BF) (.c (.frz (.bcall .dict (.c (.nm Bw) .n))) (.c (.nm AF) .n)))))))))) (.c (.frz Bw) (.c (.asg (.nm BB) (.bcall .set .n)) (.c (.asg (.nm F5) (.lrf (.c (.frz (.bcall .set .n)) (.c (.frz (.bcall .set .n)) .n)))) (.c (.asg (.nm C0) (.lst .n)) (.c (.asg (.nm EN) (.lst .n)) (.c (.for_ true [Aw] (.frz (.bcall .range (.c (.k (.int 4)) .n))) (.c (.for_ true [Ao] (.k (.tup [.tup [.int 0], .tup [.int 1], .tup [.int 2], .tup [.int 0, .int 0], .tup [.int 0, .int 1], .tup [.int 0, .int 2], .tup [.int 1, .int 0], .tup [.int 1, .int 1], .tup [.int 1, .int 2], .tup [.int 2, .int 0], .tup [.int 2, .int 1], .tup [.int 2, .int 2]])) (.c (.asg (.nm At) (.call 0 (.k (.fn 917)) (.c (.idx (.nm AH) (.nm Aw)) (.c (.nm Ao) .n)))) (.c (.ite (.cmp .NotEq (.nm At) (.tup .n)) (.c (.ex (.mth 0 (.nm BB) XU (.c (.idx (.nm At) (.k (.int 0))) .n))) (.c (.ex (.mth 0 (.idx (.nm F5) (.bin .FloorDiv (.nm Aw) (.k (.int 2)))) Rp (.c (.nm At) .n))) .n)) (.c (.ite (.cmp .Eq (.bcall .len (.c (.nm Ao) .n)) (.k (.int 1))) (.c (.ex (.mth 0 (.nm C0) AL (.c (.tup (.c (.frz (.bin .FloorDiv (.nm Aw) (.k (.int 2)))) (.c (.frz (.bin .Mod (.nm Aw) (.k (.int 2)))) (.c (.idx (.nm Ao) (.k (.int 0))) .n)))) .n))) .n) .n) .n)) .n))) (.c (.for_ true [AG] (.tup (.c (.k (.int 1)) (.c (.k (.int 2)) .n))) (.c (.ite (.and (.cmp .Eq (.idx (.idx (.idx (.nm AH) (.nm Aw)) (.k (.int 1))) (.nm AG)) (.tup .n)) (.cmp .In (.neg (.k (.int 1))) (.idx (.idx (.idx (.nm AH) (.nm Aw)) (.k (.int 0))) (.nm AG)))) (.c (.ex (.mth 0 (.nm EN) AL (.c (.tup (.c (.frz (.bin .FloorDiv (.nm Aw) (.k (.int 2)))) (.c (.frz (.bin .Mod (.nm Aw) (.k (.int 2)))) (.c (.nm AG) .n)))) .n))) .n) .n) .n)) .n))) (.c (.asgC JB (.cmprIf true [AB] (.frz (.bcall .range (.c (.k (.int 3)) .n))) (.nm AB) (.cmp .NotIn (.nm AB) (.nm BB)) [BB])) (.c (.asg (.nm Hv) (.lst .n)) (.c (.for_ true [AB] (.frz (.bcall .range (.c (.k (.int 3)) .n))) (.c (.ite (.cmp .In (.nm AB) (.nm JB)) (.c (.ex (.mth 0 (.nm Hv) AL (.c (.frz (.bin .Add (.bin .Add (.k (.str ⟨⟨[114,117,108,101,32]⟩⟩)) (.bcall .str (.c (.nm AB) .n))) (.k (.str ⟨⟨[32,99,97,110,110,111,116,32,98,101,32,109,97,116,99,104,101,100]⟩⟩)))) .n))) .n) .n) (.c (.ite (.cmp .In (.nm AB) (.nm BF)) (.c (.ex (.mth 0 (.nm Hv) AL (.c (.frz (.bin .Add (.bin .Add (.k (.str ⟨⟨[114,117,108,101,32]⟩⟩)) (.bcall .str (.c (.nm AB) .n))) (.k (.str ⟨⟨[32,104,97,115,32,118,97,114,105,97,98,108,101,32,116,114,97,105,108,105,110,103,32,99,111,110,116,101,120,116]⟩⟩)))) .n))) .n) .n) .n))) (.c (.ite (.and (.not (.plain (.nm AF))) (.cmp .NotEq (.nm C0) (.lst .n))) (.c (.ex (.mth 0 (.nm Hv) AL (.c (.k (.str ⟨⟨[110,111,100,101,102,97,117,108,116,32,105,115,32,116,111,108,100,32,98,117,116,32,116,104,101,32,100,101,102,97,117,108,116,32,114,117,108,101,32,99,97,110,32,98,101,32,109,97,116,99,104,101,100]⟩⟩)) .n))) .n) .n) (.c (.ite (.or (.cmp .NotEq (.call 0 (.k (.fn 203)) (.c (.nm AE) .n)) (.nm JB)) (.or (.cmp .NotEq (.call 0 (.k (.fn 210)) (.c (.nm AE) .n)) (.nm C0)) (.cmp .NotEq (.call 0 (.k (.fn 217)) (.c (.nm AE) .n)) (.nm EN)))) (.c (.ret (.k (.bool false))) .n) .n) (.c (.ite (.cmp .NotEq (.cmpr true [AI] (.tup (.c (.k (.int 0)) (.c (.k (.int 1)) .n))) (.mth 0 (.nm AE) KG (.c (.nm AI) .n)) [AE]) (.lst (.c (.frz (.bcall .sorted (.c (.idx (.nm F5) (.k (.int 0))) .n))) (.c (.frz (.bcall .sorted (.c (.idx (.nm F5) (.k (.int 1))) .n))) .n)))) (.c (.ret (.k (.bool false))) .n) .n) (.c (.ite (.cmp .NotEq (.call 0 (.k (.fn 224)) (.c (.nm AE) .n)) (.nm Hv)) (.c (.ret (.k (.bool false))) .n) .n) (.c (.ret (.ofB (.cmp .Eq (.call 0 (.k (.fn 927)) (.c (.nm AE) (.c (.nm AK) .n))) (.call 0 (.k (.fn 922)) (.c (.nm AH) (.c (.nm AY) (.c (.nm Bw) (.c (.nm AF) (.c (.nm AK) .n))))))))) .n)))))))))))))))))))))))))))))))))))
noncomputable def fn932:Fn:=⟨[xscript],Aj,[],0⟩
noncomputable def RA:Sts:= .c (.asg (.nm Bt) (.slc (.nm xscript) (.k .none) (.k (.int 63)))) (.c (.ite (.cmp .Eq (.nm Bt) (.lst .n)) (.c (.asg (.nm Bt) (.lst (.c (.k (.int 1)) .n))) .n) .n) (.c (.frz Bt) (.c (.asg (.nm Ac) (.lst (.c (.k (.int 0)) .n))) .n)))
noncomputable def Xy:Sts:= .c (.asg (.nm xk) (.idx (.nm Ac) (.k (.int 0)))) (.c (.asg (.sub (.nm Ac) (.k (.int 0))) (.bin .Add (.nm xk) (.k (.int 1)))) (.c (.asg (.nm L0) (.bin .FloorDiv (.nm xk) (.bcall .len (.c (.nm Bt) .n)))) (.c (.ret (.frz (.bin .Mod (.bin .Add (.bin .FloorDiv (.idx (.nm Bt) (.bin .Mod (.nm xk) (.bcall .len (.c (.nm Bt) .n)))) (.bin .Pow (.k (.int 720720)) (.nm L0))) (.bin .Mult (.nm L0) (.bin .Add (.bin .Mult (.k (.int 7)) (.nm xk)) (.k (.int 3))))) (.nm Hj)))) .n)))
noncomputable def Nf:Sts:= .c (.asg (.tup [BM,BE]) (.call 0 (.k (.fn 869)) (.c (.nm AE) (.c (.nm AK) .n)))) .n
noncomputable def KA:Sts:= .c (.ret (.tup (.c (.frz (.cmpr true [CD] (.nm BM) (.mth 0 (.nm CD) YV .n) [])) (.c (.nm BE) .n)))) .n
noncomputable def FL:List (Addr×Fn):=[(28,cA),(42,eq),(56,b9),(63,b8),(68,bz),(88,bx),(95,bw),(100,VZ),(114,af),(135,VY),(142,VX),(149,VW),(156,VV),(163,VU),(177,VT),(184,VS),(191,VQ),(198,VP),(203,VO),(210,VN),(217,VM),(224,VL),(238,ae),(259,VK),(326,ad),(333,VJ),(340,VI),(354,VH),(368,ac),(403,VG),(423,VF),(538,ab),(555,VE),(588,VD),(615,aa),(650,aZ),(709,aY),(737,VC),(744,VB),(751,VA),(758,U9),(765,U8),(772,U7),(779,U6),(786,U5),(793,U4),(800,U3),(807,U1),(814,Nh),(836,U0),(843,Uz),(850,Uy),(857,Ux),(869,Uw),(910,Uv),(917,Uu),(922,Ut),(932,fn932)]
noncomputable def CLs:List (Addr×Addr):=[(76,42),(117,114),(166,135),(248,238),(343,326),(520,368),(596,538),(632,615),(691,650),(860,836)]
noncomputable def FA(a:Addr):Option Fn:=(FL.find? fun p=>Nat.beq p.1 a).map (·.2)
noncomputable def CA(a:Addr):Option Addr:=(CLs.find? fun p=>Nat.beq p.1 a).map (·.2)
noncomputable def Lw(k:Nat)(Q:Post):Post:=fun v L=>tru (Bs k v) (Q v (cut k L))
noncomputable def fnW(c:Ctx)(fn:Fn)(vs:List V)(Q:Post)(L:LH):Prop:=tru (Nat.ble L.length fn.keep)<|Ax (fn.env vs) fun ρ=>wss fn.body c ρ (DX (Lw fn.keep Q)) L
noncomputable def d7(P:Prop):Tr→Prop
 | .none=>P
 |_=>False
noncomputable def UE(P:Prop):V→Prop:=tW (d7 P)
noncomputable def bb(C:Addr)(c:Ctx)(fn:Fn)(ts:List Tr)(Q:Post)(L:LH):Prop:=Ax (fn.env (.ref 0::ts.map .t)) fun ρ=>
 wss fn.body c ρ (DX fun v L'=>UE (bif Nat.beq C 860 then L=[]∧Q (.ref 0) (cut 4 L')else On L' (fun x=>Q (.t x) L) L'[0]?) v) [.inst C, .flds []]
noncomputable def Xu(C:Addr)(c:Ctx)(vs:List V)(Q:Post)(L:LH)(e:Prop):Option Addr→Prop
 |some i=>Ax (FA i) fun fn=>Ax (IC vs) fun ts=>bb C c fn ts Q L
 |none=>e
noncomputable def Ni(a:Addr)(c:Ctx)(vs:List V)(Q:Post)(L:LH)(e:Prop):Option Fn→Prop
 |some fn=>fnW c fn vs Q L
 |none=>Xu a c vs Q L e (CA a)
noncomputable def UJ(c:Ctx)(us:List Tr)(i:Nat)(vs:List V)(Q:Post)(L:LH):Prop:=Rb vs fun v=>wss Xy c [(Hj,v),(Ac, .ref i),(Bt, .t (.fl us))] (DX (Lw L.length Q)) L
noncomputable def Ft(c:Ctx)(vs:List V)(Q:Post)(L:LH):Prop:=L=[.raw o9]∧Rb vs fun v=>wss RA c [(xscript,v)] (fun f ρ' L'=>f= .next∧L'[0]? =some (.raw o9)∧
 Ax (AW ρ' Bt) (flW fun us=>Ax (AW ρ' Ac) (Fz fun j=>∃ts,L'[j]? =some (.list ts)∧Q (.clo us 1) [.tab, .list ts]))) L
noncomputable def Fs(KT:Prop→KT')(xk X:Prop)(vl:List V)(Q:Post)(L:LH):Prop:=L=[]∧∃v1 v2,vl=[v1,v2]∧∃XT:Prop,
 wss Nf ⟨KT XT,KT False,XT∧xk⟩ [(AE,v1),(AK,v2)] (fun f ρ' L'=>f= .next∧wss KA ⟨KT X,KT False,X∧xk⟩ ρ' (DX (Lw 0 Q)) L') []∧(XT→Q (vs ⟨#[114,101,102,117,115,101,100]⟩) [])
noncomputable def au(KT:Prop→KT')(xk X:Prop)(vs:List V)(Q:Post)(L:LH):Tr→Prop
 | .fn a=>Ni a ⟨KT X,KT False,X∧xk⟩ vs Q L (bif Nat.beq a 905 then Ft ⟨KT X,KT False,X∧xk⟩ vs Q L else bif Nat.beq a 927 then Fs KT xk X vs Q L else False) (FA a)
 |_=>False
noncomputable def av(KT:Prop→KT')(xk X:Prop)(vs:List V)(Q:Post)(L:LH):V→Prop
 | .t x=>au KT xk X vs Q L x
 | .clo us i=>UJ ⟨KT X,KT False,X∧xk⟩ us i vs Q L
 |_=>False
noncomputable def AC:Nat→Prop→KT'
 |0,_=>fun zz zz zz zz=>False
 |k+1,X=>fun f vs Q L=>av (AC k) (1≤k) X vs Q L f
set_option autoImplicit true
section
noncomputable def DU(led:Bool)(pl:List Nat):SetTable:={mask:=7,place:=pl.toArray,dummies:= #[],finger:=0,led:=led,moves:=0,plain:=true}
noncomputable def CQ(led:Bool)(es:List (Int×Value))(ep:Nat)(pl:List Nat):Obj:={cls:= .type "set",dict:=none,data:= .set es.toArray ep (DU led pl)}
noncomputable def subs4:List (List Nat):=[[],[0],[1],[2],[3],[0,1],[0,2],[0,3],[1,2],[1,3],[2,3],[0,1,2],[0,1,3],[0,2,3],[1,2,3],[0,1,2,3]]
noncomputable def Df(pl:List Nat):Nat→Nat
 |0=>0
 |i+1=>pl.getD i 0+1
theorem HB:∀pl∈subs4,∀i,i≤pl.length→SetTable.below pl.toArray (Df pl i)=i:=by decide
theorem Cg:∀pl∈subs4,pl.length≤4:=by decide
theorem BZ{led:Bool}{pl:List Nat}{n:Nat}(h:pl∈subs4)(e:pl.length=n):(DU led pl).fits n=true:=by
 have:=Cg pl h
 subst e
 simp[DU,SetTable.fits,SetTable.fill]
 exact(l10 (Hb W0 Y4 (Gb W0 (.n 7))) rfl this)
noncomputable def AM(w:World):Bool:=w.params.followText "set-order"
noncomputable def Bf(w:World)(a:Addr)(ep:Nat)(es:List (Int×Value)):Array (Int×Value):=
 if AM w=true then pickOrder (w.params.setOrder a ep) es.toArray else es.toArray
theorem G3{α:Type}:∀(l:List α) (i:Nat) (h:i<l.length),(l[i]::l.eraseIdx i).Perm l
 |[],i,h=>absurd h (Nat.not_lt_zero _)
 |x::r,0,h=>by simp
 |x::r,i+1,h=>by
  simp only[List.getElem_cons_succ,List.eraseIdx_cons_succ]
  exact(List.Perm.swap _ _ _).trans (List.Perm.cons _ (G3 r i (by simpa using h)))
theorem EV{α:Type}(next:Nat→Nat):∀(fuel k:Nat) (l:List α) (out:Array α),l.length=fuel→(pickOrder.go next fuel k l out).toList.Perm (out.toList++l):=by
 intro fuel
 induction fuel with
 |zero=>intro k l out e;cases l with
  |nil=>simp[pickOrder.go]
  |cons _ _=>simp at e
 |succ f ih=>
  intro k l out e
  unfold pickOrder.go
  have hl:next k%l.length<l.length:=Nat.mod_lt _ (by exact l20 (.P 1 1 (Hd W0 (.a X1 Y1) (Gc Y0 W0))) rfl e)
  rw[List.getElem?_eq_getElem hl]
  dsimp only
  refine(ih _ _ _ (by rw[List.length_eraseIdx_of_lt hl];exact(l30 (Hc W0 (.a X1 Y1) (Hc (.a X2 Y1) W0 (Gf X2 X1))) rfl e (Nat.sub_add_cancel (l20 (.P 1 1 (Hd W0 (.a X1 Y1) (Gb Y1 W0))) rfl e))))).trans ?_
  rw[Array.toList_push,List.append_assoc]
  exact List.Perm.append_left _ (G3 l _ hl)
theorem Gv{α:Type}(next:Nat→Nat)(xs:Array α):(pickOrder next xs).toList.Perm xs.toList:=by
 have:=EV next xs.size 0 xs.toList #[] (by simp)
 simpa[pickOrder]using this
theorem Fi(w:World)(a:Addr)(ep:Nat)(es:List (Int×Value)):(Bf w a ep es).toList.Perm es:=by
 unfold Bf
 split
 ·simpa using Gv (w.params.setOrder a ep) es.toArray
 ·simp
theorem CB(w:World)(a:Addr)(ep:Nat)(es:List (Int×Value)):(Bf w a ep es).size=es.length:=by
 rw[←Array.length_toList];exact(Fi w a ep es).length_eq
theorem Cc:Manifest.owners.lookup (String.ofList ['r','o','t','a','r','e','t','i','_','t','e','s'].reverse)=some Manifest.sig_set_iterator:=by kernel_rfl
theorem BK:Slot "set_iterator" "__next__" "set_iterator.__next__":=
 .of (owner:="set_iterator") (n:="__next__") (by rw[typeLookup_type,builtinLookup_eq_fast];kernel_rfl) (by decide+kernel) (by decide+kernel) (by decide+kernel)
  (by first|exact .inl (by decide+kernel)|exact .inr (by decide+kernel)) (by rw[isSubtype_type];kernel_rfl)
theorem D7:entryFor table "set_iterator.__next__"=some Builtin.«set_iterator.__next__»:=entryFor_of_tree (by kernel_rfl)
theorem EZ(a:Value):argsOk "set_iterator.__next__" ⟨[a],[]⟩:=by
 unfold argsOk;rw[signature?_of (id:="set_iterator.__next__") (n:=['_','_','t','x','e','n','_','_']) (o:=['r','o','t','a','r','e','t','i','_','t','e','s']) (by kernel_rfl) Cc];kernel_rfl
theorem EX:Slot "set_iterator" "__iter__" "set_iterator.__iter__":=
 .of (owner:="set_iterator") (n:="__iter__") (by rw[typeLookup_type,builtinLookup_eq_fast];kernel_rfl) (by decide+kernel) (by decide+kernel) (by decide+kernel)
  (by first|exact .inl (by decide+kernel)|exact .inr (by decide+kernel)) (by rw[isSubtype_type];kernel_rfl)
theorem H8:entryFor table "set_iterator.__iter__"=some Builtin.«dict_keyiterator.__iter__»:=
 entryFor_alias (id':="dict_keyiterator.__iter__") (by kernel_rfl) rfl (by decide+kernel) (by kernel_rfl)
theorem I8(a:Value):argsOk "set_iterator.__iter__" ⟨[a],[]⟩:=by
 unfold argsOk;rw[signature?_of (id:="set_iterator.__iter__") (n:=['_','_','r','e','t','i','_','_']) (o:=['r','o','t','a','r','e','t','i','_','t','e','s']) (by kernel_rfl) Cc];kernel_rfl
theorem F3:entryFor table "set.__iter__"=some Builtin.«frozenset.__iter__»:=
 entryFor_alias (id':="frozenset.__iter__") (by kernel_rfl) rfl (by decide+kernel) (by kernel_rfl)
section
variable{prog:Program}{w:World}{A:Around}{E:Value→Shared→Prop}{s:Shared}
theorem B9{a:Addr}{es:List (Int×Value)}{ep:Nat}{pl:List Nat}{Q:(Array (Int×Value)×Nat×SetTable)→Shared→Prop}
 (ho:s.heap.get? a=some (CQ (!AM w) es ep pl))(hp:pl∈subs4)(hl:pl.length=es.length)(h:Q (es.toArray,ep,DU (!AM w) pl) s):
 wpAny (model prog w) A (setState a) Q E s:=
 wpAny_setState_of ho rfl (BZ hp (by simpa using hl)) h
theorem Dn{Q:Bool→Shared→Prop}(h:Q (AM w) s):wpAny (model prog w) A setsByText Q E s:=by
 unfold setsByText
 exact wpAny_bind (wpAny_askSetting (wpAny_pure h))
theorem Gx{a:Addr}{es:List (Int×Value)}{ep:Nat}{pl:List Nat}{Q:Array (Int×Value)→Shared→Prop}
 (ho:s.heap.get? a=some (CQ (!AM w) es ep pl))(hp:pl∈subs4)(hl:pl.length=es.length)(h:Q (Bf w a ep es) s):
 wpAny (model prog w) A (setWalk a) Q E s:=by
 unfold setWalk
 refine wpAny_bind (B9 ho hp hl ?_)
 dsimp only
 refine wpAny_bind (Dn ?_)
 unfold Bf at h
 cases hb:AM w with
 |true=>
  rw[hb]at h
  exact wpAny_bind (wpAny_askSetting (wpAny_pure h))
 |false=>
  rw[hb]at h
  simp only[Bool.false_eq_true,if_false]at h⊢
  exact wpAny_pure h
theorem KI{a:Addr}{es:List (Int×Value)}{ep:Nat}{pl:List Nat}{Q:Bool→Shared→Prop}
 (ho:s.heap.get? a=some (CQ (!AM w) es ep pl))(hp:pl∈subs4)(hl:pl.length=es.length)(h:Q false s):
 wpAny (model prog w) A (setDrawn a) Q E s:=by
 unfold setDrawn
 refine wpAny_bind (B9 ho hp hl ?_)
 dsimp only
 refine wpAny_bind (Dn (wpAny_pure ?_))
 show Q (!AM w&&false) s
 rw[Bool.and_false];exact h
noncomputable def siO(slot i:Nat)(a:Addr)(n ep:Nat):Array Value:= #[.int slot 0, .int i 0, .ref a, .int n 0, .int ep 0]
noncomputable def Jz(w:World)(h:Heap)(it a:Addr)(i ep:Nat)(es:List (Int×Value))(pl:List Nat):Prop:=
 ∃o slot,h.get? it=some o∧o.cls= .type "set_iterator"∧o.data= .fields (siO slot i a es.length ep)∧(AM w=false→slot=Df pl i)
theorem Jz.typeIs{it a:Addr}{i ep:Nat}{es:List (Int×Value)}{pl:List Nat}(x:Jz w s.heap it a i ep es pl):s.TypeIs (.ref it) "set_iterator":=
 let⟨o,_,ho,hc,_⟩:=x;⟨o,ho,hc⟩
theorem Jz.at{h h':Heap}{it a:Addr}{i ep:Nat}{es:List (Int×Value)}{pl:List Nat}(x:Jz w h it a i ep es pl)(e:∀o,h.get? it=some o→h'.get? it=some o):Jz w h' it a i ep es pl:=
 let⟨o,sl,ho,r⟩:=x;⟨o,sl,e _ ho,r⟩
theorem LP{a:Addr}{es:List (Int×Value)}{ep:Nat}{pl:List Nat}{Q:Value→Shared→Prop}
 (ho:s.heap.get? a=some (CQ (!AM w) es ep pl))(hp:pl∈subs4)(hl:pl.length=es.length)
 (hQ:Q (.ref s.heap.objs.size) {s with heap:=s.heap.push {cls:= .type "set_iterator",data:= .fields (siO 0 0 a es.length ep)}}):
 wpAny (model prog w) A (pyIter (.ref a)) Q E s:=by
 have hT:s.TypeIs (.ref a) "set":=⟨_,ho,rfl⟩
 refine wpAny_pyIter_slot hT F.slot_set_iter (wpAny_call_entry F.slot_set_iter hT F3 ?_ (F.args_set_iter_1 _))
 unfold Builtin.«frozenset.__iter__» Builtin.Frozenset.slot0 slotArgs
 simp only[List.isEmpty_nil,Bool.not_true,Bool.false_eq_true,↓reduceIte,bind_assoc,List.length_nil,bne_self_eq_false]
 unfold Builtin.Frozenset.addrOf Builtin.Frozenset.sizeOf
 refine wpAny_bind (wpAny_pure ?_)
 try dsimp only
 refine wpAny_bind (wpAny_pure ?_)
 refine wpAny_bind (wpAny_bind (wpAny_setEntries_of ho rfl (BZ hp (by simpa using hl)) (wpAny_pure ?_)))
 refine wpAny_bind (KI ho hp hl ?_)
 simp only[Bool.false_eq_true,if_false]
 refine wpAny_bind (wpAny_pure ?_)
 refine wpAny_bind (wpAny_setEpoch_of ho rfl (BZ hp (by simpa using hl)) ?_)
 refine wpAny_bind (wpAny_newObj_type (wpAny_pure ⟨_,rfl,"set_iterator",_,⟨_,Heap.get?_push_size _ rfl,rfl⟩,BK.lookup, ?_⟩))
 simpa[rawInt,siO]using hQ
theorem Nt{it a:Addr}{i ep:Nat}{es:List (Int×Value)}{pl:List Nat}{Q:Value→Shared→Prop}(hit:Jz w s.heap it a i ep es pl)(h:Q (.ref it) s):wpAny (model prog w) A (pyIter (.ref it)) Q E s:=by
 refine wpAny_pyIter_slot hit.typeIs EX (wpAny_call_entry EX hit.typeIs H8 ?_ (I8 _))
 show wpAny _ _ (ret (.ref it)) _ _ s
 exact wpAny_pure ⟨_,rfl,"set_iterator",_,hit.typeIs,BK.lookup,h⟩
theorem F1{a:Addr}{es:List (Int×Value)}{ep:Nat}{pl:List Nat}{slot i:Nat}{y:Int×Value}{Q:Option (Value×Nat)→Shared→Prop}
 (ho:s.heap.get? a=some (CQ (!AM w) es ep pl))(hp:pl∈subs4)(hl:pl.length=es.length)(hs:AM w=false→slot=Df pl i)
 (hy:(Bf w a ep es)[i]? =some y)(h:∀sl:Nat,(AM w=false→sl=Df pl (i+1))→Q (some (y.2,sl)) s):
 wpAny (model prog w) A (setNext a slot i ep) Q E s:=by
 unfold setNext
 refine wpAny_bind (B9 ho hp hl ?_)
 dsimp only
 refine wpAny_bind (Dn ?_)
 cases hb:AM w with
 |true=>
  simp only[if_true,bne_self_eq_false,Bool.false_eq_true,if_false]
  refine wpAny_bind (Gx ho hp hl (wpAny_pure ?_))
  rw[hy]
  exact h slot (fun e=>by rw[hb]at e;cases e)
 |false=>
  have hi:i<es.length:=by
   have:=CB w a ep es
   rcases Nat.lt_or_ge i es.length with q|q
   ·exact q
   ·rw[Array.getElem?_eq_none (by exact l30 (Hc W0 X1 (Hb X1 X2 (Gb W0 X2))) rfl this q)]at hy;cases hy
  have e1:es[i]? =some y:=by simpa[Bf,hb]using hy
  have e2:pl[i]? =some (pl.getD i 0):=by simp[hl,hi]
  simp only[Bool.false_eq_true,if_false]
  refine wpAny_bind ?_
  show wpAny _ _ (pure PUnit.unit) _ _ s
  refine wpAny_pure ?_
  have e3:SetTable.below pl.toArray slot=i:=by rw[hs hb];exact HB pl hp i (by exact l30 (Hd W0 X1 (Hg X2 X1 (Gb X2 W0))) rfl hl hi)
  refine wpAny_pure ?_
  have z:=h (pl.getD i 0+1) (fun zz=>rfl)
  simp only[DU,e3,List.getElem?_toArray,e1,e2]
  exact z
theorem F2{a:Addr}{es:List (Int×Value)}{ep:Nat}{pl:List Nat}{slot:Nat}{Q:Option (Value×Nat)→Shared→Prop}
 (ho:s.heap.get? a=some (CQ (!AM w) es ep pl))(hp:pl∈subs4)(hl:pl.length=es.length)(hs:AM w=false→slot=Df pl es.length)
 (h:Q none s):wpAny (model prog w) A (setNext a slot es.length ep) Q E s:=by
 unfold setNext
 refine wpAny_bind (B9 ho hp hl ?_)
 dsimp only
 refine wpAny_bind (Dn ?_)
 cases hb:AM w with
 |true=>
  simp only[if_true,bne_self_eq_false,Bool.false_eq_true,if_false]
  refine wpAny_bind (Gx ho hp hl (wpAny_pure ?_))
  rw[Array.getElem?_eq_none (by rw[CB];exact Nat.le_refl _)]
  exact h
 |false=>
  have e1:es[es.length]? =none:=by simp
  simp only[Bool.false_eq_true,if_false]
  refine wpAny_bind ?_
  show wpAny _ _ (pure PUnit.unit) _ _ s
  refine wpAny_pure ?_
  have e3:SetTable.below pl.toArray slot=es.length:=by rw[hs hb,←hl];exact HB pl hp _ (Nat.le_refl _)
  refine wpAny_pure ?_
  simp only[DU,e3,List.getElem?_toArray,e1]
  exact h
theorem Gr{it a:Addr}{i ep:Nat}{es:List (Int×Value)}{pl:List Nat}{y:Int×Value}{Q:Option Value→Shared→Prop}(hit:Jz w s.heap it a i ep es pl)
 (ho:s.heap.get? a=some (CQ (!AM w) es ep pl))(hp:pl∈subs4)(hl:pl.length=es.length)(hy:(Bf w a ep es)[i]? =some y)
 (hQ:∀h',Jz w h' it a (i+1) ep es pl→Heap.SameBut it s.heap h'→Q (some y.2) {s with heap:=h'}):
 wpAny (model prog w) A (pyNext (.ref it)) Q E s:=by
 refine hid fun Gg gg=> ?_
 obtain⟨o,slot,hoi,hc,hd,hs⟩:=id hit
 refine gg ?_
 unfold pyNext
 refine wpAny_bind (wpAny_attempt (wpAny_callSpecial?_slot (name:=Str.ofString "__next__") hit.typeIs BK
  (wpAny_call_entry BK hit.typeIs D7 ?_ (EZ _))))
 unfold Builtin.«set_iterator.__next__»
 refine wpAny_bind (m:=slotArgs "__next__" 0 _) (wpAny_pure ?_)
 refine wpAny_bind (wpAny_fieldsOf hoi hd ?_)
 simp only[siO]
 refine wpAny_bind (wpAny_setEntries_of ho rfl (BZ hp (by simpa using hl)) ?_)
 simp only[List.size_toArray,bne_self_eq_false,Bool.false_eq_true,if_false,Int.toNat_natCast]
 refine wpAny_bind (F1 ho hp hl hs hy fun sl hsl=> ?_)
 refine wpAny_bind (wpAny_setField hoi hd (by simp[siO]) ?_)
 have g1:=Heap.get?_update_self (Obj.mapFields (·.setIfInBounds 0 (rawInt sl))) hoi (Obj.isFreed_of_fields (Obj.data_mapFields hd _))
 refine wpAny_bind (wpAny_setField (s:={s with heap:=s.heap.update it (Obj.mapFields (·.setIfInBounds 0 (rawInt sl)))}) g1 (Obj.data_mapFields hd _) (by simp[siO]) (wpAny_pure ⟨_,rfl,wpAny_pure (hQ _ ?_ ?_)⟩))
 ·refine⟨_,sl,Heap.get?_update_self _ g1 (Obj.isFreed_of_fields (Obj.data_mapFields (Obj.data_mapFields hd _) _)),(Obj.cls_mapFields ..).trans ((Obj.cls_mapFields ..).trans hc), ?_,hsl⟩
  rw[Obj.data_mapFields (Obj.data_mapFields hd _)];simp[siO,rawInt]
 ·exact(Heap.SameBut.update ..).trans (Heap.SameBut.update _ it _)
theorem Gs{it a:Addr}{ep:Nat}{es:List (Int×Value)}{pl:List Nat}{Q:Option Value→Shared→Prop}(hh:A.handled=none)(hit:Jz w s.heap it a es.length ep es pl)
 (ho:s.heap.get? a=some (CQ (!AM w) es ep pl))(hp:pl∈subs4)(hl:pl.length=es.length)
 (hQ:∀h',Heap.ExtBut it s.heap h'→Q none {s with heap:=h'}):
 wpAny (model prog w) A (pyNext (.ref it)) Q E s:=by
 refine hid fun Gg gg=> ?_
 obtain⟨o,slot,hoi,hc,hd,hs⟩:=id hit
 refine gg ?_
 unfold pyNext
 refine wpAny_bind (wpAny_attempt (wpAny_callSpecial?_slot (name:=Str.ofString "__next__") hit.typeIs BK
  (wpAny_call_entry BK hit.typeIs D7 ?_ (EZ _))))
 unfold Builtin.«set_iterator.__next__»
 refine wpAny_bind (m:=slotArgs "__next__" 0 _) (wpAny_pure ?_)
 refine wpAny_bind (wpAny_fieldsOf hoi hd ?_)
 simp only[siO]
 refine wpAny_bind (wpAny_setEntries_of ho rfl (BZ hp (by simpa using hl)) ?_)
 simp only[List.size_toArray,bne_self_eq_false,Bool.false_eq_true,if_false,Int.toNat_natCast]
 refine wpAny_bind (F2 ho hp hl hs ?_)
 refine wpAny_bind (wpAny_setField hoi hd (by simp[siO]) ?_)
 show wpAny _ _ (newExc (.type "StopIteration") []>>=_) _ _ _
 refine wpAny_bind ?_
 simp only[newExc,newTuple]
 refine wpAny_bind (wpAny_newObj_type ?_ (by size_fits))
 refine wpAny_bind (m:=firstArgMember _ _) (wpAny_of_eq (a:=Value.none) (by first|rfl|(simp only[firstArgMember];rfl)) ?_)
 refine wpAny_newObj_type ?_ (by size_fits)
 simp only[raiseNew]
 refine wpAny_bind (wpAny_handled ?_)
 rw[show A.in1.handled=none from hh]
 refine wpAny_bind (wpAny_pure (wpAny_throw ?_))
 refine wpAny_bind (wpAny_isInstance (T:="StopIteration") (b:=true) ⟨_,Heap.get?_push_size _ rfl,rfl⟩ isSubtype_stop ?_)
 exact wpAny_pure (hQ _ (((Heap.SameBut.update ..).extBut.push _).push _))
theorem Nx(hh:A.handled=none)(I a:Addr)(hne:a≠I)(es:List (Int×Value))(ep:Nat)(pl:List Nat)(hp:pl∈subs4)(hl:pl.length=es.length):
 Walks prog w A I [I,a] [I] es.length (fun i v=>∃y,(Bf w a ep es)[i]? =some y∧v=y.2) (fun i h=>Jz w h I a i ep es pl∧h.get? a=some (CQ (!AM w) es ep pl)) where
 sub:=fun b hb=>by simp at hb;simp[hb]
 frame:=fun zz zz zz st hk=>⟨st.1.at fun o e=>hk I (by simp) o e,hk a (by simp) _ st.2⟩
 item:=fun i s Q E hi st hQ=>by
  obtain⟨y,hy⟩:∃y,(Bf w a ep es)[i]? =some y:=⟨(Bf w a ep es)[i]'(by rw[CB];exact hi),by simp[CB,hi]⟩
  refine Gr st.1 st.2 hp hl hy fun h' hit' hs'=> ?_
  exact hQ _ h' s.toks ⟨y,hy,rfl⟩ ⟨hit',hs'.extBut a _ hne st.2⟩ fun b o hb e=>hs'.extBut b o (fun h=>hb (by simp[h])) e
 done:=fun s Q E st hQ=>Gs hh st.1 st.2 hp hl fun h' he'=>hQ h' s.toks fun b o hb e=>he' b o (fun h=>hb (by simp[h])) e
 self:=fun zz zz zz zz st hQ=>Nt st.1 hQ
noncomputable def Ee(pl:List Nat)(es:List (Int×Value)):Prop:=es.map (·.1)=pl.map Int.ofNat∧∀e∈es,∃t,e.2= .int e.1 t
noncomputable def F0{α:Type}(l:List α)(p:Nat)(x:α):List α:=l.take p++x::l.drop p
theorem GW:∀pl∈subs4,∀n,n<4→n∉pl→Jw pl n∈subs4∧(Jw pl n).length=pl.length+1:=by decide
theorem HR{α β:Type}(f:α→β)(l:List α)(p:Nat)(x:α):(F0 l p x).map f=F0 (l.map f) p (f x):=by
 simp[F0,List.map_take,List.map_drop]
theorem Pn{α:Type}{l:List α}{p:Nat}{x y:α}(h:y∈F0 l p x):y=x∨y∈l:=by
 rcases List.mem_append.mp h with h|h
 ·exact .inr (List.mem_of_mem_take h)
 ·rcases List.mem_cons.mp h with h|h
  ·exact .inl h
  ·exact .inr (List.mem_of_mem_drop h)
theorem Ee.length{pl:List Nat}{es:List (Int×Value)}(h:Ee pl es):pl.length=es.length:=by
 have:=congrArg List.length h.1
 simpa using this.symm
theorem Ee.ins{pl:List Nat}{es:List (Int×Value)}(h:Ee pl es)(p n t:Nat):Ee (F0 pl p n) (F0 es p ((n:Int), .int n t)):=by
 refine⟨by rw[HR,HR,h.1];rfl,fun e he=> ?_⟩
 rcases Pn he with rfl|he
 ·exact⟨t,rfl⟩
 ·exact h.2 e he
theorem Ee.elems{pl:List Nat}{es:List (Int×Value)}(hp:pl∈subs4)(h:Ee pl es):ElemsOf (intKind prog w) es:=by
 intro e he
 refine hid fun Gg gg=> ?_
 obtain⟨t,ht⟩:=h.2 e he
 have:e.1∈pl.map Int.ofNat:=by rw[←h.1];exact List.mem_map_of_mem he
 obtain⟨n,hn,e1⟩:=List.mem_map.mp this
 refine gg ?_
 have h4:∀pl∈subs4,∀n∈pl,n<4:=by decide
 have:=h4 pl hp n hn
 refine⟨⟨e.1,by rw[ht];exact intKind_is _ _ _ _, ?_⟩,by rw[ht];rfl⟩
 rw[←e1]
 have h5:∀n,n<4→(Int.ofNat n)=hashInt (Int.ofNat n):=by decide
 exact h5 n this
theorem KL:∀pl∈subs4,∀n,n<4→n∉pl→∀led,(DU led pl).freeSlot (n:Int)=some (n,false):=by decide
theorem Ee.isInt{pl:List Nat}{es:List (Int×Value)}(h:Ee pl es){e:Int×Value}(he:e∈es)(n:Nat):(intKind prog w).is (n:Int) e.2=decide (e.1=(n:Int)):=by
 obtain⟨t,ht⟩:=h.2 e he
 have:(intKind prog w).is e.1 e.2=true:=by rw[ht];exact intKind_is _ _ _ _
 rw[KeyKind.is_eq_decide this (n:Int)]
 exact decide_eq_decide.mpr eq_comm
theorem Ee.find_in{pl:List Nat}{es:List (Int×Value)}(h:Ee pl es){n:Nat}(hn:n∈pl):∃j,es.findIdx? (fun e=>(intKind prog w).is (n:Int) e.2)=some j:=by
 have:(n:Int)∈es.map (·.1):=by rw[h.1];exact List.mem_map.mpr ⟨n,hn,rfl⟩
 obtain⟨e,he,e1⟩:=List.mem_map.mp this
 cases hf:es.findIdx? (fun e=>(intKind prog w).is (n:Int) e.2)with
 |some j=>exact⟨j,rfl⟩
 |none=>
  have:=List.findIdx?_eq_none_iff.mp hf e he
  rw[h.isInt he,decide_eq_true e1]at this
  cases this
theorem Ee.find_out{pl:List Nat}{es:List (Int×Value)}(h:Ee pl es){n:Nat}(hn:n∉pl):es.findIdx? (fun e=>(intKind prog w).is (n:Int) e.2)=none:=by
 refine List.findIdx?_eq_none_iff.mpr fun e he=> ?_
 rw[h.isInt he]
 refine decide_eq_false fun e1=>hn ?_
 have:e.1∈pl.map Int.ofNat:=by rw[←h.1];exact List.mem_map_of_mem he
 obtain⟨m,hm,e2⟩:=List.mem_map.mp this
 have:m=n:=by rw[e1]at e2;exact Int.ofNat.inj e2
 exact this▸hm
theorem TX:∀pl∈subs4,∀led,(DU led pl).tooFull=false:=by decide
theorem Wa(led:Bool)(pl:List Nat)(n:Nat):(DU led pl).put n=(DU led (Jw pl n),SetTable.below pl.toArray n):=by
 have h0:SetTable.has #[] n=false:=by
  unfold SetTable.has;simp
 unfold SetTable.put
 simp only[DU,h0,Bool.false_eq_true,if_false]
 congr 2
 refine Array.toList_inj.mp ?_
 rw[SetTable.toList_insertAt]
 rfl
theorem OO{led:Bool}{pl:List Nat}{es:List (Int×Value)}{n:Nat}{x:Value}(hp:pl∈subs4)(hl:pl.length=es.length)(h4:n<4)(hn:n∉pl):
 layNew (DU led pl) es.toArray (n:Int) x=((F0 es (SetTable.below pl.toArray n) ((n:Int),x)).toArray,DU led (Jw pl n),false,false):=by
 unfold layNew
 rw[KL pl hp n h4 hn led]
 dsimp only
 rw[Wa]
 dsimp only
 have e1:SetTable.insertAt es.toArray (SetTable.below pl.toArray n) ((n:Int),x)=(F0 es (SetTable.below pl.toArray n) ((n:Int),x)).toArray:=by
  refine Array.toList_inj.mp ?_
  rw[SetTable.toList_insertAt]
  rfl
 rw[e1]
 have f:(DU led (Jw pl n)).fits (F0 es (SetTable.below pl.toArray n) ((n:Int),x)).toArray.size=true:=by
  refine BZ (GW pl hp n h4 hn).1 ?_
  rw[(GW pl hp n h4 hn).2,List.size_toArray]
  have:=congrArg List.length (HR (fun zz=>()) es (SetTable.below pl.toArray n) ((n:Int),x))
  simp only[F0,List.length_append,List.length_cons,List.length_take,List.length_drop]
  exact(Nat.le_total _ _).elim (fun x3'=>l50 (Hc W0 X1 (Hd X2 X3 (Hd (.a X4 X3) X1 (Gf (.a W0 Y1) (.a X2 (.a X4 Y1)))))) rfl hl (Nat.min_eq_left x3') (Nat.sub_add_cancel (x3'))) (fun x3'=>(Nat.le_total _ _).elim (fun x2'=>Nat.le_antisymm (l50 (Hc W0 X1 (Hd X2 X1 (Hb X3 X1 (Hd (.a X4 X3) X1 (Gb (.a W0 Y1) (.a X2 (.a X4 Y1))))))) rfl hl (Nat.min_eq_right x3') x2' (Nat.sub_add_cancel (x2'))) (l50 (Hd W0 X1 (Hb X1 X2 (Hc X3 X1 (Hc (.a X4 X2) X1 (Gb (.a X3 (.a X4 Y1)) (.a W0 Y1)))))) rfl hl x3' (Nat.min_eq_right x3') (Nat.sub_add_cancel (x2')))) (fun x2'=>l40 (Hc W0 X1 (Hd X2 X1 (Hd X3 Y0 (Gf (.a W0 Y1) (.a X2 (.a X3 Y1)))))) rfl hl (Nat.min_eq_right x3') (Nat.sub_eq_zero_of_le x2')))
 unfold SetTable.orStandIn
 rw[f]
 rfl
theorem I1{a:Addr}{es:List (Int×Value)}{ep:Nat}{pl:List Nat}{n t:Nat}{Q:Bool→Shared→Prop}
 (ho:s.heap.get? a=some (CQ (!AM w) es ep pl))(hp:pl∈subs4)(he:Ee pl es)(h4:n<4)(hin:n∈pl→Q false s)
 (hout:n∉pl→∀h',Heap.SameBut a s.heap h'→h'.get? a=some (CQ (!AM w) (F0 es (SetTable.below pl.toArray n) ((n:Int), .int n t)) (ep+1) (Jw pl n))→Q true {s with heap:=h'}):
 wpAny (model prog w) A (setAddHashed a (.int n t) (hashInt (n:Int))) Q E s:=by
 have hl:=he.length
 have hel:ElemsOf (intKind prog w) es:=he.elems hp
 have hz:es.toArray.size<scanBound:=by have:=Cg pl hp;simp only[List.size_toArray,scanBound];exact(l20 (Hd W0 X1 (Hb W0 Y4 (Gc X1 (.n 4096)))) rfl hl this)
 have hfit:(DU (!AM w) pl).fits es.toArray.size=true:=BZ hp (by simpa using hl)
 have hh:hashInt (n:Int)=(n:Int):=by
  have h5:∀n:Nat,n<4→hashInt (n:Int)=(n:Int):=by decide
  exact h5 n h4
 unfold setAddHashed setAddHashedIn
 refine wpAny_holding (wpAny_bind (B9 ho hp hl ?_))
 dsimp only
 rw[byScan_of (x:= .int n t) rfl hz (by simpa using hel)]
 simp only[↓reduceIte]
 unfold setAddByScan
 refine wpAny_bind ?_
 refine wpAny_bind (wpAny_rule ?_)
 refine wpAny_bind (wpAny_setScan_of (knd:=intKind prog w) (k:=(n:Int)) (intKind_is _ _ _ _) ho rfl hfit (by simpa using hel) ?_)
 by_cases hn:n∈pl
 ·obtain⟨j,hj⟩:=he.find_in (prog:=prog) (w:=w) hn
  rw[show es.toArray.toList=es from rfl,hj]
  exact wpAny_pure (wpAny_pure (hin hn))
 ·rw[show es.toArray.toList=es from rfl,he.find_out (prog:=prog) (w:=w) hn]
  dsimp only
  rw[hh,OO hp hl h4 hn]
  dsimp only
  refine wpAny_bind (wpAny_pure ?_)
  simp only[DU,↓reduceIte]
  refine wpAny_bind ?_
  rw[hashByValue_scannable 8 (x:= .int n t) rfl]
  refine wpAny_pure ?_
  simp only[plainKind,↓reduceIte]
  have hz2:(F0 es (SetTable.below pl.toArray n) ((n:Int),Value.int n t)).length<4096:=by
   have:=Cg pl hp
   simp only[F0,List.length_append,List.length_cons,List.length_take,List.length_drop]
   exact(l40 (.H .neq (-2) W0 X1 (.H .nle 2 W0 Y4 (Hb X2 X1 (Hb X3 X1 (Gc (.a X2 (.a X3 Y1)) (.n 4096)))))) rfl hl this (Nat.min_le_right _ _) (Nat.sub_le _ _))
  refine wpAny_bind (wpAny_storeSet_of ho rfl ?_ (fits_of_scanBound (by simpa[scanBound]using hz2)))
  have full:SetTable.tooFull (DU (!AM w) (Jw pl n))=false:=TX _ (GW pl hp n h4 hn).1 _
  simp only[DU]at full
  rw[full]
  simp only[Bool.not_false,Bool.and_false,Bool.false_eq_true,if_false]
  refine wpAny_pure (wpAny_pure (hout hn _ (Heap.SameBut.update ..) ?_))
  have g:=Heap.get?_update_self (Obj.putSet (F0 es (SetTable.below pl.toArray n) ((n:Int),Value.int n t)).toArray (DU (!AM w) (Jw pl n))) ho (by rw[putSet_of _ _ rfl];rfl)
  rw[putSet_of _ _ rfl]at g
  exact g
noncomputable def AS(w:World)(h:Heap)(a:Addr)(pl:List Nat):Prop:=∃es ep,h.get? a=some (CQ (!AM w) es ep pl)∧Ee pl es
theorem Gp{pl:List Nat}{n:Nat}(hp:pl∈subs4)(h4:n<4):Ap pl n∈subs4:=by
 unfold Ap
 split
 ·exact hp
 ·next h=>exact(GW pl hp n h4 h).1
theorem AS.at{h h':Heap}{a:Addr}{pl:List Nat}(x:AS w h a pl)(e:∀o,h.get? a=some o→h'.get? a=some o):AS w h' a pl:=
 let⟨es,ep,ho,r⟩:=x;⟨es,ep,e _ ho,r⟩
theorem AS.typeIs{a:Addr}{pl:List Nat}(x:AS w s.heap a pl):s.TypeIs (.ref a) "set":=let⟨_,_,ho,_⟩:=x;⟨_,ho,rfl⟩
theorem cj{pl:List Nat}{k:Int}:k∈pl.map Int.ofNat↔∃n∈pl,(n:Int)=k:=by simp
theorem AS.setOf{h:Heap}{a:Addr}{pl:List Nat}(hp:pl∈subs4)(x:AS w h a pl):h.SetOf (intKind prog w) a (fun k=>decide (k∈pl.map Int.ofNat)) pl.length:=by
 refine hid fun Gg gg=> ?_
 obtain⟨es,ep,ho,he⟩:=x
 refine gg ?_
 refine⟨_,es.toArray,ep,_,ho,⟨rfl,rfl,rfl⟩,rfl,by simpa using he.elems hp,fun k=> ?_, ?_,BZ hp (by simpa using he.length),by simpa using he.length.symm⟩
 ·rw[decide_eq_true_eq,←he.1]
  constructor
  ·intro hk
   refine hid fun Gg gg=> ?_
   obtain⟨e,h1,h2⟩:=List.mem_map.mp hk
   obtain⟨t,ht⟩:=he.2 e h1
   refine gg ?_
   exact⟨e,by simpa using h1,by rw[ht,h2];exact intKind_is _ _ _ _⟩
  ·rintro⟨e,h1,h2⟩
   obtain⟨t,ht⟩:=he.2 e (by simpa using h1)
   refine List.mem_map.mpr ⟨e,by simpa using h1, ?_⟩
   have h3:(intKind prog w).is e.1 e.2=true:=by rw[ht];exact intKind_is _ _ _ _
   exact(intKind prog w).inj e.2 _ _ h3 h2
 ·have:=Cg pl hp;have:=he.length;simp only[List.size_toArray,scanBound];exact(l20 (Hb W0 Y4 (Hd W0 X1 (Gc X1 (.n 4096)))) rfl (by assumption) this)
theorem IR{a:Addr}{pl:List Nat}{n t:Nat}{Q:Bool→Shared→Prop}(hS:AS w s.heap a pl)(hp:pl∈subs4)(h4:n<4)
 (h:∀b h',Heap.SameBut a s.heap h'→AS w h' a (Ap pl n)→Q b {s with heap:=h',toks:=s.toks+1}):
 wpAny (model prog w) A (setAdd a (.int n t)) Q E s:=by
 refine hid fun Gg gg=> ?_
 obtain⟨es,ep,ho,he⟩:=hS
 refine gg ?_
 unfold setAdd
 refine wpAny_holding (wpAny_bind ((intKind prog w).pyHash (k:=(n:Int)) (intKind_is _ _ _ _) ?_))
 refine I1 (s:={s with toks:=s.toks+1}) ho hp he h4 (fun hin=> ?_) fun hout h' hs hg=> ?_
 ·have e:Ap pl n=pl:=by unfold Ap;rw[if_pos hin]
  exact h false s.heap (Heap.SameBut.refl a s.heap) (by rw[e];exact⟨es,ep,ho,he⟩)
 ·have e:Ap pl n=Jw pl n:=by unfold Ap;rw[if_neg hout]
  exact h true h' hs (by rw[e];exact⟨_,_,hg,he.ins _ _ _⟩)
theorem H4{a:Addr}{pl:List Nat}{n t:Nat}{Q:Value→Shared→Prop}(hS:AS w s.heap a pl)(hp:pl∈subs4)(h4:n<4)
 (h:∀h',Heap.SameBut a s.heap h'→AS w h' a (Ap pl n)→Q .none {s with heap:=h',toks:=s.toks+1}):
 wpAny (model prog w) A (call (.builtin "set.add") [.ref a, .int n t]) Q E s:=by
 refine wpAny_call_entry F.slot_set_add hS.typeIs F.entry_set_add ?_ (F.args_set_add_2 _ _)
 unfold Builtin.«set.add» Builtin.Frozenset.oneOther
 simp only[List.isEmpty_nil,bind_assoc]
 unfold Builtin.Frozenset.addrOf
 refine wpAny_bind (wpAny_pure ?_)
 try dsimp only
 refine wpAny_bind (wpAny_pure ?_)
 try dsimp only
 refine wpAny_bind (IR hS hp h4 fun b h' hs hS'=> ?_)
 show wpAny _ _ (ret Value.none) _ _ _
 exact wpAny_pure ⟨_,rfl,h h' hs hS'⟩
theorem Fo{args:List Value}(hc:checkBuiltinCall "set.__new__" ⟨.type "set"::args,[]⟩=pure ()){Q₁:Value→Shared→Prop}
 (h:Q₁ (.ref s.heap.objs.size) {s with heap:=s.heap.push (CQ (!AM w) [] 0 [])}):
 codeAny (model prog w) A (.call (.builtin "set.__new__") ⟨.type "set"::args,[]⟩) (wants Q₁ E) s:=by
 refine codeAny_of_tree ?_
 show wpAny _ A.in1 (do checkBuiltinCall "set.__new__" ⟨.type "set"::args,[]⟩;again (.builtin "set.__new__" ⟨.type "set"::args,[]⟩)) _ _ s
 refine wpAny_bind (wpAny_of_eq hc (wpAny_pure ⟨plainId_quiet F.plain_set_new _,codeAny_builtin F.entry_set_new ?_⟩))
 rw[Around.under_plainId F.plain_set_new _]
 unfold Builtin.«set.__new__» Builtin.Frozenset.newClass
 have hsub:=sub_set_self
 obtain⟨hp,g,d,tk,os⟩:=s
 dsimp only
 wp_walk
 refine wpAny_askSetting (wpAny_pure ?_)
 dsimp only
 simp only[newObj]
 refine wpAny_bind (wpAny_alloc (wpAny_pure ?_))
 exact wpAny_pure h
set_option maxHeartbeats 1000000 in
theorem Rt{Q:Value→Shared→Prop}(h:Q (.ref s.heap.objs.size) {s with heap:=s.heap.push (CQ (!AM w) [] 0 [])}):
 wpAny (model prog w) A (call (.type "set") []) Q E s:=by
 obtain⟨c,tl,hmro⟩:=F.called_set.mro
 have hmade:=F.called_set.made
 have hsub:=F.called_set.sub
 refine wpAny_call (codeAny_of_tree ?_)
 show wpAny _ _ (callAny (.type "set") _) _ _ _
 refine wpAny_pure ⟨Code.quiet_builtin _ (by decide+kernel),codeAny_builtin F.entry_type_call ?_⟩
 rw[Around.under_plain (weight_type_call_type "set" [] []) rfl]
 have h1:=F.called_set.notType
 have h2:=F.called_set.canCreate
 have hct:=F.typeCall_set_0
 repeat (any_goals (first|assumption|wp_step))
 refine codeAny_mono (Fo (args:=[]) F.newCall_set_0 (E:=E) (Q₁:=fun obj s₁=>obj= .ref s.heap.objs.size∧s₁={s with heap:=s.heap.push (CQ (!AM w) [] 0 [])}) ⟨rfl,rfl⟩) fun r s₁ hr=> ?_
 cases r with
 |error e=>exact hr
 |ok fl=>
  cases fl with
  |ret obj=>
   obtain⟨rfl,rfl⟩:=hr
   have hT:Shared.TypeIs {s with heap:=s.heap.push (CQ (!AM w) [] 0 [])} (.ref s.heap.objs.size) "set":=⟨_,Heap.get?_push_size _ rfl,rfl⟩
   have hS:(s.heap.push (CQ (!AM w) [] 0 [])).get? s.heap.objs.size=some {cls:= .type "set",dict:=none,data:= .set #[] 0 (DU (!AM w) [])}:=Heap.get?_push_size _ rfl
   have hli:=F.called_set.init.lookup
   have hbi:=F.called_set.init.bind (.ref s.heap.objs.size)
   generalize hG:s.heap.push (CQ (!AM w) [] 0 [])=G at*
   repeat (any_goals (first|assumption|wp_step))
   refine codeAny_mono (codeAny_call_builtin (R:=wants (fun r s₂=>r= .none∧Q (.ref s.heap.objs.size) s₂) E) F.called_set.init.plain F.entry_set_init (check_set_init hT ?_)) fun r₂ s₂ hr₂=> ?_
   ·unfold Builtin.«set.__init__» noKeywords
    wp_walk
    exact⟨rfl,h⟩
   ·cases r₂ with
    |error e=>exact hr₂
    |ok fl₂=>
     cases fl₂ with
     |ret r=>
      obtain⟨rfl,hq⟩:=hr₂
      repeat (any_goals (first|assumption|wp_step))
     |_=>exact hr₂.elim
  |_=>exact hr.elim
end
end
section
theorem Ci:∀{a b:List Int},a.Perm b→a.Pairwise (· ≤·)→b.Pairwise (· ≤·)→a=b
 |[],b,p,_,_=>(List.Perm.nil_eq p)
 |x::a,[],p,_,_=>absurd p.length_eq (by simp)
 |x::a,y::b,p,ha,hb=>by
  have hx:x∈y::b:=p.mem_iff.mp (.head _)
  have hy:y∈x::a:=p.mem_iff.mpr (.head _)
  have ha':=List.pairwise_cons.mp ha
  have hb':=List.pairwise_cons.mp hb
  have e:x=y:=by
   rcases List.mem_cons.mp hx with e|hx
   ·exact e
   ·rcases List.mem_cons.mp hy with e|hy
    ·exact e.symm
    ·exact Int.le_antisymm (ha'.1 y hy) (hb'.1 x hx)
  subst e
  rw[Ci (List.Perm.cons_inv p) ha'.2 hb'.2]
section
variable{prog:Program}{w:World}{A:Around}{E:Value→Shared→Prop}{s:Shared}{T:String}{r d:Addr}{n:Nat}{P:Nat→Value→Prop}{OK:Heap→Prop}
theorem LQ{Q:Bool→Shared→Prop}(hT:s.TypeIs (.ref r) "set")(h:Q false s):wpAny (model prog w) A (Builtin.List.listLengthHint (.ref r)) Q E s:=by
 unfold Builtin.List.listLengthHint
 refine wpAny_bind (wpAny_specialOf hT PySem.F.slot_set_len.lookup ?_)
 generalize hid:("set.__len__":String)=id0
 wp_delta
 rw[show splitId id0=some ("set","__len__")from by subst hid;decide+kernel]
 subst hid
 refine wpAny_bind (wpAny_isInstance (T:="set") (b:=true) hT (by rw[isSubtype_type];kernel_rfl) ?_)
 refine wpAny_ite_split (fun hab=>absurd hab (by decide)) (fun zz=> ?_)
 refine wpAny_ite_split (fun zz=> ?_) (fun hab=>absurd (by decide+kernel) hab)
 refine wpAny_bind (wpAny_typeOf hT ?_)
 exact wpAny_pure h
theorem Sq{a:Addr}{es:List (Int×Value)}{ep:Nat}{pl:List Nat}(hp:pl∈subs4)(hl:pl.length=es.length):
 KdlSrc prog w "set" a a es.length (fun i v=>∃y,(Bf w a ep es)[i]? =some y∧v=y.2) (fun h=>h.get? a=some (CQ (!AM w) es ep pl)) where
 type:=fun zz hm=>⟨_,hm,rfl⟩
 there:=fun zz hm=>⟨Heap.lt_size hm,Heap.lt_size hm⟩
 keep:=fun zz zz hm hk=>hk a (.inl rfl) _ hm
 notList:=by decide
 notTuple:=by decide
 hint:=fun zz zz zz zz hm hq=>LQ ⟨_,hm,rfl⟩ hq
 iter:=fun zz zz hh hm=>⟨_,_,(fun zz zz hq=>LP hm hp hl hq),Nx hh _ a (Nat.ne_of_lt (Heap.lt_size hm)) es ep pl hp hl,⟨⟨_,0,Heap.get?_push_size _ rfl,rfl,rfl,fun zz=>rfl⟩,Heap.get?_push_of_some _ hm⟩⟩
theorem Cx{Q:Value→Shared→Prop}{G:List Int→Prop}(K:KdlSrc prog w T r d n P OK)(hh:A.handled=none)(hok:OK s.heap)(hn:n<64)
 (hP:∀acc,ItemsOf P acc n→∃ns,IntsAre acc.toList ns∧G ns)
 (h:∀h' tk B (vs:List Value) ns ns' e,G ns→IntsAre vs ns'→ns'.Perm ns→ns'.Pairwise (· ≤·)→h'.get? B=some (seqObj "list" vs.toArray e)→(∀b o,s.heap.get? b=some o→h'.get? b=some o)→(∀b o,s.heap.get? b=some o→b<B)→
  Q (.ref B) {s with heap:=h',toks:=tk}):
 wpAny (model prog w) A (call (.builtin "sorted") [.ref r]) Q E s:=by
 refine call_function_entry kind_sorted plain_sorted entry_sorted (args_sorted1 _) ?_
 unfold Builtin.«sorted»
 refine wpAny_bind (m:=checkCount "sorted" 1 1 _) (wpAny_pure ?_)
 refine wpAny_bind (kdu_collect (A:=A.in1) K hh hok (by rw[sizeLine_eq];exact(l10 (Hg W0 (.n 64) (Gb W0 (.n 16777216))) rfl hn)) fun h1 tk acc hk hacc=> ?_)
 obtain⟨ns,hI,hG⟩:=hP acc hacc
 have hl:acc.toList.length=n:=by rw[Array.length_toList];exact hacc.1
 refine wpAny_bind (wpAny_newList ?_ (by rw[hl,sizeLine_eq];exact(l10 (Hg W0 (.n 64) (Gb W0 (.n 16777216))) rfl hn)))
 have hoL:(h1.push (seqObj "list" acc.toList.toArray 0)).get? h1.objs.size=some (seqObj "list" acc.toList.toArray 0):=Heap.get?_push_size _ rfl
 show wpAny _ _ _ _ _ {s with heap:=h1.push (seqObj "list" acc.toList.toArray 0),toks:=tk}
 refine wpAny_bind (wpAny_holding (wpAny_call_entry slot_list_sort ⟨_,hoL,rfl⟩ entry_list_sort (list_sort_tree hoL hI (by rw[hl];exact hn) fun out ns' a1 a2 a3=>⟨_,rfl, ?_⟩) (args_list_sort _)))
 obtain⟨e,he⟩:=sortedHeap_at (out:=out) hoL
 refine wpAny_pure ⟨_,rfl,h _ tk h1.objs.size out.toList ns ns' e hG a1 a2 a3 (by simpa using he) (fun b o q=> ?_) fun b o q=>Heap.lt_size (hk b o q)⟩
 have hb:=Heap.lt_size (hk b o q)
 rw[sortedHeap_old (Nat.ne_of_lt hb) (by rw[Heap.size_push];exact Nat.lt_succ_of_lt hb),Heap.get?_push_ne _ _ _ (Nat.ne_of_lt hb)]
 exact hk b o q
theorem KK{P:Nat→Value→Prop}{acc:Array Value}{ys:List Value}(hP:∀i v,P i v→ys[i]? =some v)(h:ItemsOf P acc ys.length):acc.toList=ys:=by
 refine List.ext_getElem? fun i=> ?_
 rcases Nat.lt_or_ge i ys.length with q|q
 ·have hi:i<acc.size:=by rw[h.1];exact q
  have e:acc[i]? =some acc[i]:=by simp[hi]
  rw[Array.getElem?_toList,e]
  exact(hP i _ (h.2 i _ e)).symm
 ·rw[List.getElem?_eq_none q,List.getElem?_eq_none (by rw[Array.length_toList,h.1];exact q)]
theorem Fm:∀(es:List (Int×Value)),(∀e∈es,∃t,e.2=Value.int e.1 t)→IntsAre (es.map (·.2)) (es.map (·.1))
 |[],_=> .nil
 |e::r,h=>by
  obtain⟨t,ht⟩:=h e (.head _)
  simp only[List.map_cons]
  rw[ht]
  exact .cons _ t (Fm r fun x hx=>h x (.tail _ hx))
theorem FZ:∀{vs:List Value}{ns:List Int},vs.length=ns.length→(∀(i:Nat) (v:Value),vs[i]? =some v→∃k t,ns[i]? =some k∧v=Value.int k t)→IntsAre vs ns
 |[],[],_,_=> .nil
 |[],_::_,e,_=>by simp at e
 |_::_,[],e,_=>by simp at e
 |v::vs,k::ns,e,h=>by
  obtain⟨k',t,e1,e2⟩:=h 0 v rfl
  simp only[List.getElem?_cons_zero,Option.some.injEq]at e1
  subst e1;subst e2
  exact .cons _ t (FZ (by simpa using e) fun i x hx=>h (i+1) x (by simpa using hx))
theorem I3:∀pl∈subs4,(pl.map Int.ofNat).Pairwise (· ≤·):=by decide
theorem I0{a:Addr}{pl:List Nat}{Q:Value→Shared→Prop}(hS:AS w s.heap a pl)(hp:pl∈subs4)(hh:A.handled=none)
 (h:∀h' tk B (vs:List Value) e,IntsAre vs (pl.map Int.ofNat)→h'.get? B=some (seqObj "list" vs.toArray e)→(∀b o,s.heap.get? b=some o→h'.get? b=some o)→(∀b o,s.heap.get? b=some o→b<B)→
  Q (.ref B) {s with heap:=h',toks:=tk}):
 wpAny (model prog w) A (call (.builtin "sorted") [.ref a]) Q E s:=by
 obtain⟨es,ep,ho,he⟩:=hS
 have h4:=Cg pl hp
 have hl:=he.length
 refine Cx (G:=fun ns=>ns.Perm (pl.map Int.ofNat)) (Sq (prog:=prog) hp hl) hh ho (by exact l20 (Hb W0 Y4 (Hd W0 X1 (Gc X1 (.n 64)))) rfl h4 hl) (fun acc hacc=> ?_) fun h' tk B vs ns ns' e hG hI hpm hso hB hk hb=> ?_
 ·have e1:acc.toList=(Bf w a ep es).toList.map (·.2):=by
   refine KK (P:=fun i v=>∃y,(Bf w a ep es)[i]? =some y∧v=y.2) (fun i v hv=> ?_) (by simpa[CB]using hacc)
   obtain⟨y,hy,rfl⟩:=hv
   rw[List.getElem?_map,Array.getElem?_toList,hy];rfl
  have pm:=Fi w a ep es
  refine⟨(Bf w a ep es).toList.map (·.1),by rw[e1];exact Fm _ fun x hx=>he.2 x (pm.mem_iff.mp hx), ?_⟩
  rw[←he.1]
  exact pm.map _
 ·have e2:ns'=pl.map Int.ofNat:=Ci (hpm.trans hG) hso (I3 pl hp)
  exact h h' tk B vs e (e2▸hI) hB hk hb
theorem RV{a:Addr}{kvs:List (Int×Value)}{Q:Value→Shared→Prop}(hD:s.heap.DictOf (intKind prog w) a kvs)(lo:(a==sysModules)=false)(hn:kvs.length<64)(hh:A.handled=none)
 (h:∀h' tk B (vs:List Value) ns' e,IntsAre vs ns'→ns'.Perm (kvs.map (·.1))→ns'.Pairwise (· ≤·)→h'.get? B=some (seqObj "list" vs.toArray e)→(∀b o,s.heap.get? b=some o→h'.get? b=some o)→(∀b o,s.heap.get? b=some o→b<B)→
  Q (.ref B) {s with heap:=h',toks:=tk}):
 wpAny (model prog w) A (call (.builtin "sorted") [.ref a]) Q E s:=by
 obtain⟨ep,hat⟩:=hD.dictAt
 refine Cx (G:=fun ns=>ns=kvs.map (·.1)) (kdl_dict (knd:=intKind prog w) (kvs:=kvs) (ep:=ep) lo) hh hat hn (fun acc hacc=>⟨_, ?_,rfl⟩) fun h' tk B vs ns ns' e hG hI hpm hso hB hk hb=> ?_
 ·refine FZ (by rw[Array.length_toList,hacc.1,List.length_map]) fun i v hv=> ?_
  refine hid fun Gg gg=> ?_
  obtain⟨k,x,hx,hk⟩:=hacc.2 i v (by rw[←Array.getElem?_toList];exact hv)
  obtain⟨t,rfl⟩:=Value.isInt_shape hk
  refine gg ?_
  exact⟨k,t,by rw[List.getElem?_map,hx];rfl,rfl⟩
 ·subst hG
  exact h h' tk B vs ns' e hI hpm hso hB hk hb
end
theorem HS{h:Heap}{B:Addr}(hb:∀b o,h.get? b=some o→b<B):h.get? B=none:=by
 cases e:h.get? B with
 |none=>rfl
 |some o=>exact absurd (hb B o e) (Nat.lt_irrefl _)
theorem PL{l ns:List Int}(hp:ns.Perm l)(hs:ns.Pairwise (· ≤·)):ns=JF l:=by
 refine Ci (hp.trans (List.mergeSort_perm _ _).symm) hs ?_
 have:=List.pairwise_mergeSort (le:=fun a b:Int=>decide (a≤b)) (fun a b c h1 h2=>by simp at*;exact(l03 (Ha W0 X1 (Ha X1 X2 (Ga W0 X2))) rfl h1 h2)) (fun a b=>by simp;lia) l
 exact this.imp fun h=>by simpa using h
section
variable{prog:Program}{w:World}{A:Around}{E:Value→Shared→Prop}{s:Shared}
theorem H6{a:Addr}{v:Value}{n:Nat}{P:PySem.Fin→Shared→Prop}(ho:s.heap.get? a=some (seqObj "list" #[v] n))
 (h:P (.done (.ret .none)) {s with heap:=sortedHeap s.heap a [v] #[v]}):
 wpAny (model prog w) A (Builtin.«list.sort» ⟨[.ref a],[]⟩) P E s:=by
 rw[list_sort_plain]
 have ha:a<s.heap.objs.size:=Heap.lt_size ho
 refine wpAny_bind (listItems_at ho rfl ?_)
 refine wpAny_bind (listUpdate_at ho rfl ?_)
 obtain⟨e1,ho1⟩:∃e1,(s.heap.update a (Obj.mapSeq fun zz=> #[])).get? a=some (seqObj "list" #[] e1):=⟨_,get?_update_seq ho (fun zz=> #[])⟩
 refine wpAny_bind (seqEpoch_at ho1 rfl ?_)
 refine wpAny_bind (wpAny_newTuple ?_)
 refine wpAny_bind (wpAny_newList ?_)
 refine wpAny_holding ?_
 have ho6:(((s.heap.update a (Obj.mapSeq fun zz=> #[])).push (seqObj "tuple" [v].toArray 0)).push (seqObj "list" #[] 0)).get? a=some (seqObj "list" #[] e1):=by
  rw[Heap.get?_push_ne _ _ _ (by rw[size_push',Heap.size_update];exact Nat.ne_of_lt (Nat.lt_succ_of_lt ha)),Heap.get?_push_ne _ _ _ (by rw[Heap.size_update];exact Nat.ne_of_lt ha)]
  exact ho1
 show wpAny (model prog w) A _ P E {s with heap:=((s.heap.update a (Obj.mapSeq fun zz=> #[])).push (seqObj "tuple" [v].toArray 0)).push (seqObj "list" #[] 0)}
 dsimp only
 have h2:(#[v]:Array Value).size<2:=by simp
 have he:((#[v]:Array Value).zip #[v]).map (·.2)= #[v]:=by simp
 rw[if_pos h2,if_pos h2]
 refine wpAny_bind (wpAny_pure ?_)
 rw[StateT.run_pure]
 refine wpAny_bind (wpAny_pure ?_)
 dsimp only
 refine wpAny_bind (seqEpoch_at ho6 rfl ?_)
 refine wpAny_bind (listUpdate_at ho6 rfl ?_ (hsz2:=by rw[Array.size_map];show((#[v]:Array Value).zip #[v]).size≤_;simp))
 simp only[bne_self_eq_false,Bool.false_eq_true,if_false]
 refine wpAny_pure ?_
 show P _ {s with heap:=_}
 have e2:(arrOf (SortSt.mk' general' ((#[v]:Array Value).zip #[v]) #[] 7 none)).map (·.2)= #[v]:=he
 rw[e2]
 exact h
theorem Ld{l:Addr}{v:Value}{Q:Value→Shared→Prop}(hl:s.heap.IsList l [v].toArray)
 (h:∀h' B e,h'.get? B=some (seqObj "list" [v].toArray e)→(∀b o,s.heap.get? b=some o→h'.get? b=some o)→s.heap.get? B=none→Q (.ref B) {s with heap:=h'}):
 wpAny (model prog w) A (call (.builtin "sorted") [.ref l]) Q E s:=by
 refine Calls.call_function_entry kind_sorted plain_sorted entry_sorted (args_sorted1 _) ?_
 unfold Builtin.«sorted»
 refine wpAny_bind (m:=checkCount "sorted" 1 1 _) (wpAny_pure ?_)
 refine wpAny_bind (collect_list hl ?_)
 refine wpAny_bind (wpAny_newList ?_)
 have hsz:((s.heap.push (seqObj "list" #[] 0)).update s.heap.objs.size (Obj.mapSeq (· ++[v].toArray))).objs.size=s.heap.objs.size+1:=by
  rw[Heap.size_update,size_push']
 have hoL:(((s.heap.push (seqObj "list" #[] 0)).update s.heap.objs.size (Obj.mapSeq (· ++[v].toArray))).push (seqObj "list" [v].toArray 0)).get? (s.heap.objs.size+1)=some (seqObj "list" [v].toArray 0):=by
  rw[←hsz];exact Heap.get?_push_size _ rfl
 show wpAny _ _ _ _ _ {s with heap:=((s.heap.push (seqObj "list" #[] 0)).update s.heap.objs.size (Obj.mapSeq (· ++[v].toArray))).push (seqObj "list" [v].toArray 0)}
 rw[hsz]
 have old:∀b o,s.heap.get? b=some o→(((s.heap.push (seqObj "list" #[] 0)).update s.heap.objs.size (Obj.mapSeq (· ++[v].toArray))).push (seqObj "list" [v].toArray 0)).get? b=some o:=fun b o q=>by
  have hb:=Heap.lt_size q
  refine Heap.get?_push_of_some _ ?_
  rw[Heap.get?_update_ne _ _ _ _ (Nat.ne_of_lt hb)]
  exact Heap.get?_push_of_some _ q
 refine wpAny_bind (wpAny_holding (wpAny_call_entry slot_list_sort ⟨_,hoL,rfl⟩ entry_list_sort (H6 hoL ⟨_,rfl, ?_⟩) (args_list_sort _)))
 obtain⟨e,he⟩:=sortedHeap_at (out:= #[v]) hoL
 refine wpAny_pure ⟨_,rfl,h _ _ e he (fun b o q=> ?_) (HS fun b o q=>Nat.lt_succ_of_lt (Heap.lt_size q))⟩
 have hb:=Heap.lt_size q
 rw[sortedHeap_old (Nat.ne_of_lt (Nat.lt_succ_of_lt hb)) (Heap.lt_size (old b o q))]
 exact old b o q
end
section
open AutoSeq1 (wpAny_loadPart')
open MeetsSeq MeetsSeq2
theorem Ny(l:Addr)(items:Array Value)(n:Nat)(dd:Option Addr)(sl:Array (Option Value))(x:Value)(e:Value→Bool)(he:∀y,y∈items→EqGives y x (e y))(j:Nat)(hj:j<items.size)
 (hit:e items[j]=true)(hno:∀m (hm:m<items.size),m<j→e items[m]=false):
 Meets (Builtin.«tuple.index» ⟨[.ref l,x],[]⟩)
  (fun zz R s=>s.heap.get? l=some {cls:= .type "tuple",dict:=dd,data:= .seq items n,slots:=sl}∧R (.ok (.ret (.int j s.toks))) {s with toks:=s.toks+1}):=
 .of_wp fun prog w A R s h=>by
  obtain⟨hp,g,d,tk,os⟩:=s;obtain⟨hl,h⟩:=h
  unfold Builtin.«tuple.index»
  simp only[Std.Legacy.Range.forIn_eq_forIn_range',Std.Legacy.Range.size,Nat.add_sub_cancel,Nat.div_one]
  generalize hFI: @forIn Sem (List Nat) Nat _ (Option PySem.Fin×Unit)=FI
  wp_walk using wpAny_loadPart' hl
  subst hFI
  refine wpAny_forIn_list _ (fun(rest:List Nat) (b:Option PySem.Fin×Unit) s'=>∃i,rest=List.range' i (items.size-i)∧i≤j∧b.1=none∧s'=⟨hp,g,d,tk,os⟩) _ (fun y rest b s'=> ?_) (fun b s'=> ?_) _ _ ?_
  ·rintro⟨i,hr,hij,hb,rfl⟩
   have hi:items.size-i=(items.size-i-1)+1:=by exact l20 (Hd (.a W0 Y1) X1 (Gf X1 (.a W0 Y1))) rfl (Nat.sub_add_cancel (l40 (Hg W0 X1 (Hb X2 W0 (Hd (.a X3 X2) X1 (Gb Y1 X3)))) rfl hj hij (Nat.sub_add_cancel (l30 (Hg W0 X1 (Hb X2 W0 (Gb X2 X1))) rfl hj hij))))
   rw[hi,List.range'_succ]at hr
   injection hr with h1 h2
   subst h1
   have hlt:y<items.size:=by exact l30 (Hg W0 X1 (Hb X2 W0 (Gc X2 X1))) rfl hj hij
   have e1:items[y]? =some items[y]:=by simp[hlt]
   rw[e1]
   refine wpAny_bind (he _ (Array.getElem_mem hlt) prog w _ _ _ _ ?_)
   rcases Nat.lt_or_ge y j with q|q
   ·rw[hno y hlt q]
    wp_walk
    exact⟨y+1,by rw[h2];congr 1,q,rfl,rfl⟩
   ·have:y=j:=by exact(Nat.le_antisymm hij q)
    subst this
    rw[hit]
    wp_walk
    exact⟨_,rfl,h⟩
  ·rintro⟨i,hr,hij,hb,rfl⟩
   have hi:items.size-i=(items.size-i-1)+1:=by exact l20 (Hd (.a W0 Y1) X1 (Gf X1 (.a W0 Y1))) rfl (Nat.sub_add_cancel (l40 (Hg W0 X1 (Hb X2 W0 (Hd (.a X3 X2) X1 (Gb Y1 X3)))) rfl hj hij (Nat.sub_add_cancel (l30 (Hg W0 X1 (Hb X2 W0 (Gb X2 X1))) rfl hj hij))))
   rw[hi,List.range'_succ]at hr
   cases hr
  ·exact⟨0,by simp,Nat.zero_le _,rfl,rfl⟩
end
section
variable{prog:Program}{w:World}{A:Around}{E:Value→Shared→Prop}{s:Shared}
theorem Ky{R:Result→Shared→Prop}{I:Addr}{fp wr:List Addr}{n:Nat}{P:Nat→Value→Prop}{St:Nat→Heap→Prop}
 (W:Walks prog w A.in1 I fp wr n P St)(S:Addr)(hSf:S∉fp)(ns:List Nat)(hn:ns.length=n)(hval:∀i v,P i v→∃m t,ns[i]? =some m∧v= .int (m:Nat) t)(h4:∀m∈ns,m<4):
 ∀(k i:Nat) (s:Shared) (pl:List Nat),n-i=k→i≤n→St i s.heap→AS w s.heap S pl→pl∈subs4→
  (∀h' tk,AS w h' S ((ns.drop i).foldl Ap pl)→(ns.drop i).foldl Ap pl∈subs4→(∀b o,b≠S→b∉wr→s.heap.get? b=some o→h'.get? b=some o)→R (.ok (.ret .none)) {s with heap:=h',toks:=tk})→
  codeAny (model prog w) A (.builtin "set.update.loop" ⟨[.ref S, .ref I],[]⟩) R s:=by
 have hSw:S∉wr:=fun h=>hSf (W.sub _ h)
 intro k
 induction k with
 |zero=>
  intro i s pl hk hi hst hS hp hR
  have hin:i=n:=by exact l30 (Hd W0 Y0 (Hc (.a W0 X1) X2 (Gf X1 X2))) rfl hk (Nat.sub_add_cancel hi)
  subst hin
  refine codeAny_builtin PyProof.Rows.F.entry_set_update_loop ?_
  rw[Around.under_plainId PyProof.Rows.F.plain_set_update_loop _]
  show wpAny _ A.in1 (pyNext (.ref I)>>=_) _ _ s
  refine wpAny_bind (W.done s _ _ hst fun h' tk hk'=> ?_)
  show wpAny _ A.in1 (ret Value.none) _ _ _
  have e:ns.drop ns.length=[]:=by simp
  rw[←hn,e]at hR
  exact wpAny_pure (hR h' tk (hS.at fun o e=>hk' S o hSw e) hp fun b o zz hb e=>hk' b o hb e)
 |succ k ih=>
  intro i s pl hk hi hst hS hp hR
  have hlt:i<n:=by exact l40 (.P 1 1 (Hd W0 (.a X1 Y1) (Hc (.a W0 X2) X3 (Gc X2 X3)))) rfl hk (Nat.sub_add_cancel hi)
  refine codeAny_builtin PyProof.Rows.F.entry_set_update_loop ?_
  rw[Around.under_plainId PyProof.Rows.F.plain_set_update_loop _]
  show wpAny _ A.in1 (pyNext (.ref I)>>=_) _ _ s
  refine wpAny_bind (W.item i s _ _ hlt hst fun v h1 tk1 hP hst1 hk1=> ?_)
  obtain⟨m,t,hm,rfl⟩:=hval i v hP
  have hS1:AS w h1 S pl:=hS.at fun o e=>hk1 S o hSw e
  have m4:m<4:=h4 m (List.mem_of_getElem? hm)
  have ed:ns.drop i=m::ns.drop (i+1):=by
   have hl:i<ns.length:=by exact l30 (Hd W0 X1 (Hg X2 X1 (Gc X2 W0))) rfl hn hlt
   rw[List.drop_eq_getElem_cons hl]
   rw[List.getElem?_eq_getElem hl]at hm
   injection hm with hm
   rw[hm]
  rw[ed]at hR
  show wpAny _ A.in1 (holding [Value.int m t] (setAdd S (.int m t))>>=_) _ _ _
  refine wpAny_bind (wpAny_holding ?_)
  refine IR (s:={s with heap:=h1,toks:=tk1}) hS1 hp m4 fun b h2 hs2 hS2=> ?_
  refine wpAny_pure ⟨plainId_quiet PyProof.Rows.F.plain_set_update_loop _,ih (i+1) _ (Ap pl m) (by exact l50 (Hc W0 (.a X1 Y1) (Hd (.a W0 X2) X3 (Hc (.a X4 (.a X2 Y1)) X3 (Gf X4 X1)))) rfl hk (Nat.sub_add_cancel (l20 (Hg W0 X1 (Gb W0 X1)) rfl hlt)) (Nat.sub_add_cancel (l20 (Hg W0 X1 (Gb (.a W0 Y1) X1)) rfl hlt))) hlt (W.frame _ _ _ hst1 fun b hb o e=> ?_) hS2 (Gp hp m4) fun h' tk hS' hp' hk'=> ?_⟩
  ·exact(hs2.2 b (fun q:b=S=>hSf (by rw[←q];exact hb))).trans e
  ·exact hR h' tk hS' hp' fun b o n1 n2 e=>hk' b o n1 n2 ((hs2.2 b n1).trans (hk1 b o n2 e))
set_option maxHeartbeats 3200000 in
theorem MU{l d:Addr}{ty:String}{od:Option Addr}{dat:Data}{sl:Array (Option Value)}{io:Obj}{n:Nat}{vs:List Value}{ns:List Nat}{P:Nat→Value→Prop}{St:Addr→Nat→Heap→Prop}{Q:Value→Shared→Prop}
 (hh:A.handled=none)(ho:s.heap.get? l=some ⟨.type ty,od,dat,sl⟩)(hsls:isSubtype (.type ty) (.type "set")=pure false)(hslf:isSubtype (.type ty) (.type "frozenset")=pure false)(hne:(Value.type ty==Value.type "dict")=false)(hd:d<s.heap.objs.size)
 (hit:∀(A':Around) (E':Value→Shared→Prop) (s':Shared) (Q':Value→Shared→Prop),(∀b o,s.heap.get? b=some o→s'.heap.get? b=some o)→Q' (.ref s'.heap.objs.size) {s' with heap:=s'.heap.push io}→wpAny (model prog w) A' (pyIter (.ref l)) Q' E' s')
 (hw:∀(A':Around) (I:Addr),A'.handled=none→d≠I→Walks prog w A' I [I,d] [I] n P (St I))(hn:vs.length=n)
 (hs0:∀G:Heap,(∀b o,s.heap.get? b=some o→G.get? b=some o)→St G.objs.size 0 (G.push io))
 (hP:∀i v,P i v→vs[i]? =some v)(hi:IntsAre vs (ns.map Int.ofNat))(h4:∀m∈ns,m<4)
 (h:∀(h':Heap) (tk:Nat),AS w h' s.heap.objs.size (ns.foldl Ap [])→ns.foldl Ap []∈subs4→
  (∀b o,b<s.heap.objs.size→s.heap.get? b=some o→h'.get? b=some o)→Q (.ref s.heap.objs.size) {s with heap:=h',toks:=tk}):
 wpAny (model prog w) A (call (.type "set") [.ref l]) Q E s:=by
 refine hid fun Gg gg=> ?_
 obtain⟨c,tl,hmro⟩:=F.called_set.mro
 refine gg ?_
 have hmade:=F.called_set.made
 have hsub:=F.called_set.sub
 refine wpAny_call (codeAny_of_tree ?_)
 show wpAny _ _ (callAny (.type "set") _) _ _ _
 refine wpAny_pure ⟨Code.quiet_builtin _ (by decide+kernel),codeAny_builtin F.entry_type_call ?_⟩
 rw[Around.under_plain (weight_type_call_type "set" [.ref l] []) rfl]
 have h1:=F.called_set.notType
 have h2:=F.called_set.canCreate
 have hct:=PySem.F.typeCall_set_1 (.ref l)
 repeat (any_goals (first|assumption|wp_step))
 refine codeAny_mono (Fo (args:=[.ref l]) (PySem.F.newCall_set_1 (.ref l)) (E:=E) (Q₁:=fun obj s₁=>obj= .ref s.heap.objs.size∧s₁={s with heap:=s.heap.push (CQ (!AM w) [] 0 [])}) ⟨rfl,rfl⟩) fun r s₁ hr=> ?_
 cases r with
 |error e=>exact hr
 |ok fl=>
  cases fl with
  |ret obj=>
   obtain⟨rfl,rfl⟩:=hr
   have hT:Shared.TypeIs {s with heap:=s.heap.push (CQ (!AM w) [] 0 [])} (.ref s.heap.objs.size) "set":=⟨_,Heap.get?_push_size _ rfl,rfl⟩
   have hS:(s.heap.push (CQ (!AM w) [] 0 [])).get? s.heap.objs.size=some {cls:= .type "set",dict:=none,data:= .set #[] 0 (DU (!AM w) [])}:=Heap.get?_push_size _ rfl
   have hS0:AS w (s.heap.push (CQ (!AM w) [] 0 [])) s.heap.objs.size []:=⟨[],0,Heap.get?_push_size _ rfl,rfl,(by intro xx yy;contradiction)⟩
   have hol:(s.heap.push (CQ (!AM w) [] 0 [])).get? l=some ⟨.type ty,od,dat,sl⟩:=Heap.get?_push_of_some _ ho
   have hsz:(s.heap.push (CQ (!AM w) [] 0 [])).objs.size=s.heap.objs.size+1:=Heap.size_push ..
   have old:∀b o,s.heap.get? b=some o→(s.heap.push (CQ (!AM w) [] 0 [])).get? b=some o:=fun b o e=>Heap.get?_push_of_some _ e
   have hli:=F.called_set.init.lookup
   have hbi:=F.called_set.init.bind (.ref s.heap.objs.size)
   generalize hG:s.heap.push (CQ (!AM w) [] 0 [])=G at*
   repeat (any_goals (first|assumption|wp_step))
   refine codeAny_mono (codeAny_call_builtin (R:=wants (fun r s₂=>r= .none∧∃h' tk,s₂={s with heap:=h',toks:=tk}∧AS w h' s.heap.objs.size (ns.foldl Ap [])∧ns.foldl Ap []∈subs4∧
    (∀b o,b<s.heap.objs.size→s.heap.get? b=some o→h'.get? b=some o)) E) F.called_set.init.plain F.entry_set_init (check_set_init_1 hT ?_)) fun r₂ s₂ hr₂=> ?_
   ·unfold Builtin.«set.__init__» noKeywords Builtin.Frozenset.updateFrom
    generalize hPI:pyIter=PI
    wp_walk
    subst hPI
    refine hit _ _ _ _ old ?_
    refine wpAny_bind (wpAny_runValue ?_)
    have hh3:A.in1.in1.in1.handled=none:=by simp[hh]
    have hneI:d≠G.objs.size:=by rw[hsz];exact Nat.ne_of_lt (Nat.lt_succ_of_lt hd)
    have hSf:s.heap.objs.size∉[G.objs.size,d]:=by
     rw[hsz];simp only[List.mem_cons,List.mem_singleton,List.not_mem_nil,or_false,not_or]
     exact⟨Nat.ne_of_lt (Nat.lt_succ_self _),Nat.ne_of_gt hd⟩
    have hlen:ns.length=vs.length:=by have:=IntsAre.length hi;simpa using this.symm
    refine Ky (hw _ _ hh3 hneI) s.heap.objs.size hSf ns (hlen.trans hn) (fun i v hv=> ?_) h4 (n-0) 0 _ [] rfl (Nat.zero_le _) (hs0 G old) (hS0.at fun o e=>Heap.get?_push_of_some _ e) (by decide) fun h' tk hS' hp' hk'=> ?_
    ·have hv:=hP i v hv
     obtain⟨t,e⟩:=IntsAre.int_at hi i v hv
     have hi':i<ns.length:=by rw[hlen];exact(List.getElem?_eq_some_iff.mp hv).1
     exact⟨ns[i],t,List.getElem?_eq_getElem hi',by rw[e];simp[hi']⟩
    ·refine wpAny_pure ?_
     show wpAny _ _ (ret Value.none) _ _ _
     refine wpAny_pure ⟨rfl,h',tk,rfl,by simpa using hS',by simpa using hp',fun b o hb e=> ?_⟩
     refine hk' b o (Nat.ne_of_lt hb) ?_ (Heap.get?_push_of_some _ (old b o e))
     rw[hsz];simp only[List.mem_singleton];exact Nat.ne_of_lt (Nat.lt_succ_of_lt hb)
   ·cases r₂ with
    |error e=>exact hr₂
    |ok fl₂=>
     cases fl₂ with
     |ret r=>
      refine hid fun Gg gg=> ?_
      obtain⟨rfl,h',tk,rfl,hS',hp',hk'⟩:=hr₂
      refine gg ?_
      repeat (any_goals (first|assumption|wp_step))
      exact h _ _ hS' hp' hk'
     |_=>exact hr₂.elim
  |_=>exact hr.elim
end
theorem PB:isSubtype (.type "dict_values") (.type "set")=pure false:=by rw[isSubtype_type];kernel_rfl
theorem Gu:isSubtype (.type "dict_values") (.type "frozenset")=pure false:=by rw[isSubtype_type];kernel_rfl
section
variable{prog:Program}{w:World}{A:Around}{E:Value→Shared→Prop}{s:Shared}
set_option maxHeartbeats 3200000 in
theorem Rs{l:Addr}{items:Array Value}{ns:List Nat}{Q:Value→Shared→Prop}
 (hh:A.handled=none)(hl:s.heap.IsList l items)(hi:IntsAre items.toList (ns.map Int.ofNat))(h4:∀m∈ns,m<4)
 (h:∀(h':Heap) (tk:Nat),AS w h' s.heap.objs.size (ns.foldl Ap [])→ns.foldl Ap []∈subs4→
  (∀b o,b<s.heap.objs.size→s.heap.get? b=some o→h'.get? b=some o)→Q (.ref s.heap.objs.size) {s with heap:=h',toks:=tk}):
 wpAny (model prog w) A (call (.type "set") [.ref l]) Q E s:=by
 obtain⟨⟨ocls,od,dat,sl⟩,ho,hc,nl,hdl⟩:=id hl
 cases hc
 exact MU (d:=l) (vs:=items.toList) (St:=fun I i h=>h.IsListIter I l i∧h.IsList l items) hh ho PySem.F.sub_list_set PySem.F.sub_list_frozenset (by decide) (Heap.lt_size ho) (fun _ _ _ _ old q=>wpAny_pyIter_list (hl.at fun o e=>old _ o e) q)
  (fun _ _ hA hne=>Walks.list hA _ l hne items) Array.length_toList (fun G old=>⟨⟨_,Heap.get?_push_size _ rfl,rfl,rfl⟩,hl.at fun o e=>Heap.get?_push_of_some _ (old _ o e)⟩) (fun i v e=>Array.getElem?_toList.trans e) hi h4 h
theorem LO{l d:Addr}{kvs:List (Int×Value)}{ep:Nat}{ns:List Nat}{Q:Value→Shared→Prop}
 (hh:A.handled=none)(hl:s.heap.IsValuesView l d)(hd:s.heap.DictAt (intKind prog w) d kvs ep)(hi:IntsAre (kvs.map (·.2)) (ns.map Int.ofNat))(h4:∀m∈ns,m<4)
 (h:∀(h':Heap) (tk:Nat),AS w h' s.heap.objs.size (ns.foldl Ap [])→ns.foldl Ap []∈subs4→
  (∀b o,b<s.heap.objs.size→s.heap.get? b=some o→h'.get? b=some o)→Q (.ref s.heap.objs.size) {s with heap:=h',toks:=tk}):
 wpAny (model prog w) A (call (.type "set") [.ref l]) Q E s:=by
 obtain⟨⟨ocls,od,dat,sl⟩,ho,hc,hdl⟩:=id hl
 cases hc
 exact MU (d:=d) (vs:=kvs.map (·.2)) (St:=fun I i h=>h.IsValIter I d i kvs.length ep∧h.DictAt (intKind prog w) d kvs ep) hh ho PB Gu (by decide) hd.lt_size (fun _ _ _ _ old q=>wpAny_pyIter_values (knd:=intKind prog w) (kvs:=kvs) (ep:=ep) ⟨_,old _ _ ho,rfl,hdl⟩ (hd.at' fun o e=>old _ o e) q)
  (fun _ _ hA hne=>Walks.dictValues (knd:=intKind prog w) hA _ d hne kvs ep) (List.length_map _) (fun G old=>⟨⟨_,Heap.get?_push_size _ rfl,rfl,rfl⟩,hd.at' fun o e=>Heap.get?_push_of_some _ (old _ o e)⟩) (fun i v ⟨k,e⟩=>by rw[List.getElem?_map,e];rfl) hi h4 h
end
section
variable{prog:Program}{w:World}{A:Around}{E:Value→Shared→Prop}{s:Shared}
set_option maxHeartbeats 1000000 in
theorem Nr{a l:Addr}{pl:List Nat}{items:Array Value}{ns:List Nat}{Q:Value→Shared→Prop}(hS:AS w s.heap a pl)(hp:pl∈subs4)
 (hh:A.handled=none)(hl:s.heap.IsTuple l items)(hi:IntsAre items.toList (ns.map Int.ofNat))(h4:∀m∈ns,m<4)(hne:a≠l)
 (h:∀(h':Heap) (tk:Nat),AS w h' a (ns.foldl Ap pl)→ns.foldl Ap pl∈subs4→(∀b o,b≠a→s.heap.get? b=some o→h'.get? b=some o)→Q .none {s with heap:=h',toks:=tk}):
 wpAny (model prog w) A (call (.builtin "set.update") [.ref a, .ref l]) Q E s:=by
 refine wpAny_call_entry PySem.F.slot_set_update hS.typeIs PySem.F.entry_set_update ?_ (PySem.F.args_set_update_2 _ _)
 refine hid fun Gg gg=> ?_
 obtain⟨ol,hol,hcl,nl,hdl⟩:=id hl
 have hT:s.TypeIs (.ref l) "tuple":=⟨ol,hol,hcl⟩
 have hsls:=PySem.F.sub_tuple_set
 have hslf:=PySem.F.sub_tuple_frozenset
 have hlS:l<s.heap.objs.size:=Heap.lt_size hol
 have haS:a<s.heap.objs.size:=by obtain⟨_,_,ho,_⟩:=hS;exact Heap.lt_size ho
 have hlen:ns.length=items.size:=by have:=IntsAre.length hi;simpa using this.symm
 have hne2:(Value.type "tuple"==Value.type "dict")=false:=by decide
 obtain⟨ocls,odict,odata,oslots⟩:=ol
 refine gg ?_
 simp only at hcl hdl
 subst hcl;subst hdl
 unfold Builtin.«set.update» Builtin.Frozenset.manyOthers Builtin.Frozenset.updateFrom
 generalize hPI:pyIter=PI
 wp_walk
 subst hPI
 refine wpAny_pyIter_tuple hl ?_
 refine wpAny_bind (wpAny_runValue ?_)
 have hh3:A.in1.in1.handled=none:=by simp[hh]
 have hl0:s.heap.IsTuple l items:=hl
 have hneI:l≠s.heap.objs.size:=Nat.ne_of_lt hlS
 have hSf:a∉[s.heap.objs.size,l]:=by
  simp only[List.mem_cons,List.not_mem_nil,or_false,not_or]
  exact⟨Nat.ne_of_lt haS,hne⟩
 refine Ky (Walks.tuple (by simp[hh]) _ l hneI items) a hSf ns hlen (fun i v hv=> ?_) h4 (items.size-0) 0 _ pl rfl (Nat.zero_le _)
  ⟨⟨_,Heap.get?_push_size _ rfl,rfl,rfl⟩,hl.push _⟩ (hS.at fun o e=>Heap.get?_push_of_some _ e) hp fun h' tk hS' hp' hk'=> ?_
 ·obtain⟨t,e⟩:=IntsAre.int_at hi i v (by rw[Array.getElem?_toList];exact hv)
  have hi':i<ns.length:=by
   rcases Nat.lt_or_ge i items.size with q|q
   ·exact(l30 (Hd W0 X1 (Hg X2 X1 (Gc X2 W0))) rfl hlen q)
   ·rw[Array.getElem?_eq_none q]at hv;cases hv
  refine⟨ns[i],t,by simp[hi'], ?_⟩
  rw[e];simp[hi']
 ·refine wpAny_pure ?_
  refine wpAny_pure ?_
  show wpAny _ _ (pure _) _ _ _
  refine wpAny_pure ?_
  show wpAny _ _ (ret Value.none) _ _ _
  refine wpAny_pure ⟨_,rfl,h h' tk (by simpa using hS') (by simpa using hp') fun b o nb e=>hk' b o nb ?_ (Heap.get?_push_of_some _ e)⟩
  simp only[List.mem_singleton]
  exact Nat.ne_of_lt (Heap.lt_size e)
end
end
set_option autoImplicit false
section
noncomputable def cdl:List Nat→Nat
 |[]=>0
 |c::r=>(c+1)+128*cdl r
noncomputable def okl(l:List Nat):Bool:=l.all fun c=>Nat.ble c 126
noncomputable def cd(x:Str):Nat:=cdl x.cps.toList
noncomputable def okS(x:Str):Bool:=okl x.cps.toList
theorem NF:∀{x y:List Nat},okl x=true→okl y=true→cdl x=cdl y→x=y
 |[],[],_,_,_=>rfl
 |[],c::r,_,_,h=>by simp only[cdl]at h;lia
 |c::r,[],_,_,h=>by simp only[cdl]at h;lia
 |a::x,b::y,hx,hy,h=>by
  simp only[okl,List.all_cons,Bool.and_eq_true,Nat.ble_eq]at hx hy
  simp only[cdl]at h
  have e:a=b:=by lia
  have e2:cdl x=cdl y:=by exact(Nat.le_antisymm (l40 (Hc (.a (.a W0 Y1) (.m 128 X1)) (.a (.a X2 Y1) (.m 128 X3)) (Hd W0 X2 (.G .nle 128 X1 X3))) rfl h e) (l40 (Hd (.a (.a W0 Y1) (.m 128 X1)) (.a (.a X2 Y1) (.m 128 X3)) (Hc W0 X2 (.G .nle 128 X3 X1))) rfl h e))
  rw[e,NF (x:=x) (y:=y) hx.2 hy.2 e2]
theorem Dx{x y:Str}(hx:okS x=true)(hy:okS y=true)(h:cd x=cd y):x=y:=by
 have:=NF hx hy h
 cases x;cases y
 simp only[Str.mk.injEq]
 exact Array.toList_inj.mp this
noncomputable abbrev PH:=Addr→Option Obj
structure Mp where
 P:PH
 φ:List Addr
noncomputable abbrev BP(ws:List Value)(n:Nat):Obj:={cls:= .type "list",data:= .seq ws.toArray n}
noncomputable abbrev FJ(es:List DictEntry)(n:Nat):Obj:={cls:= .type "dict",data:= .dict es.toArray n}
noncomputable abbrev Qq(k:Bool)(d:Addr):Obj:={cls:= .type (if k then"dict_keys"else"dict_values"),data:= .fields #[.ref d]}
noncomputable abbrev XZ(vs:Array Value):Obj:={cls:= .none,data:= .fields vs}
noncomputable def takeD:Stmt:=match BH (stm 45)with
 |[_,_,_,d,_]=>d
 |_=> .Pass ⟨0,0,0,0⟩
noncomputable def V1(o:FuncData):Prop:=o.params=EJ takeD∧o.body= .stmts (BH takeD)∧o.scope=AZ takeD∧o.globals=mainGlobals∧o.builtins=builtinsNs∧o.defaults= .none∧o.kwdefaults= .none
noncomputable abbrev IK(w:World):=intKind pw w
section
variable(w:World)
noncomputable def Nk(P:PH)(a:Addr)(ws:List Value):Prop:=(∃o n,P a=some o∧(o.cls= .type "tuple"∧o.dict=none)∧o.data= .seq ws.toArray n)∧ws.length≤1048576
noncomputable def Nm(P:PH)(a:Addr)(ws:List Value):Prop:=(∃n,P a=some (BP ws n))∧ws.length≤1048576
noncomputable def UQ(P:PH)(a:Addr)(kws:List (Int×Value)):Prop:=(∃o,P a=some o∧o.IsDictOf (IK w) kws)∧(a==sysModules)=false∧kws.length≤1048576
noncomputable def UP(P:PH)(a:Addr)(kws:List (Str×Value)):Prop:=(∃o,P a=some o∧o.IsDictOf (strKind pw w) kws)∧(a==sysModules)=false∧kws.length≤1048576
noncomputable def KE(k:Nat)(e:DictEntry):Prop:=∃z t x,okS z=true∧cd z=k∧e=⟨PyData.keyHash w.params z, .str z t,x⟩
noncomputable def KS:List Nat→List DictEntry→Prop
 |[],es=>es=[]
 |k::ks,es=>match es with
  |[]=>False
  |e::r=>KE w k e∧KS ks r
noncomputable def No(P:PH)(C a:Addr)(ks:List Nat)(ws:List Value):Prop:=∃dx es n,P a=some (instObj C dx)∧P dx=some (FJ es n)∧KS w ks es∧ws=es.map (·.val)
noncomputable def Vd(p:Value→Prop)(q:List Value→Prop):List Value→Prop
 |[]=>False
 |x::r=>p x∧q r
mutual
noncomputable def PR(P:PH):Tr→Value→Prop
 | .none,x=>x= .none
 | .bool b,x=>x= .bool b
 | .int i,x=>∃t,x= .int i t
 | .str s,x=>∃t,x= .str s t
 | .fn a,x=>x= .ref a
 | .tup ts,x=>∃a ws,x= .ref a∧Nk P a ws∧PRs P ts ws
 | .fl ts,x=>∃a ws,x= .ref a∧Nm P a ws∧PRs P ts ws
 | .fd ks ts,x=>∃a kws,x= .ref a∧UQ w P a kws∧kws.map (·.1)=ks∧PRs P ts (kws.map (·.2))
 | .fs ks ts,x=>∃a kws,x= .ref a∧UP w P a kws∧kws.map (·.1)=ks∧PRs P ts (kws.map (·.2))
 | .fi C ks ts,x=>∃a ws,x= .ref a∧No w P C a ks ws∧PRs P ts ws
noncomputable def PRs(P:PH):List Tr→List Value→Prop
 |[],ws=>ws=[]
 |t::ts,ws=>Vd (PR P t) (PRs P ts) ws
end
noncomputable def PLe(P P':PH):Prop:=∀b o,P b=some o→P' b=some o
variable{w}
theorem PLe.refl(P:PH):PLe P P:=fun zz zz e=>e
theorem PLe.trans{P P' P'':PH}(a:PLe P P')(b:PLe P' P''):PLe P P'':=fun x o e=>b x o (a x o e)
section
variable{P P':PH}(l:PLe P P'){a C:Addr}{ws:List Value}{ks:List Nat}
include l
theorem Nk.mono(h:Nk P a ws):Nk P' a ws:=⟨h.1.imp fun zz h=>h.imp fun zz h=>⟨l _ _ h.1,h.2⟩,h.2⟩
theorem Nm.mono(h:Nm P a ws):Nm P' a ws:=⟨h.1.imp fun zz h=>l _ _ h,h.2⟩
theorem No.mono(h:No w P C a ks ws):No w P' C a ks ws:=h.imp fun zz h=>h.imp fun zz h=>h.imp fun zz h=>⟨l _ _ h.1,l _ _ h.2.1,h.2.2⟩
theorem UQ.mono{kws:List (Int×Value)}(h:UQ w P a kws):UQ w P' a kws:=⟨h.1.imp fun zz h=>⟨l _ _ h.1,h.2⟩,h.2⟩
theorem UP.mono{kws:List (Str×Value)}(h:UP w P a kws):UP w P' a kws:=⟨h.1.imp fun zz h=>⟨l _ _ h.1,h.2⟩,h.2⟩
mutual
theorem PR.mono:∀(t:Tr){x:Value},PR w P t x→PR w P' t x
 | .none,_,h=>h
 | .bool _,_,h=>h
 | .int _,_,h=>h
 | .str _,_,h=>h
 | .fn _,_,h=>h
 | .tup ts,_,h=>h.imp fun zz h=>h.imp fun zz h=>⟨h.1,h.2.1.mono l,PRs.mono ts h.2.2⟩
 | .fl ts,_,h=>h.imp fun zz h=>h.imp fun zz h=>⟨h.1,h.2.1.mono l,PRs.mono ts h.2.2⟩
 | .fd ks ts,_,h=>h.imp fun zz h=>h.imp fun zz h=>⟨h.1,h.2.1.mono l,h.2.2.1,PRs.mono ts h.2.2.2⟩
 | .fs ks ts,_,h=>h.imp fun zz h=>h.imp fun zz h=>⟨h.1,h.2.1.mono l,h.2.2.1,PRs.mono ts h.2.2.2⟩
 | .fi C ks ts,_,h=>h.imp fun zz h=>h.imp fun zz h=>⟨h.1,h.2.1.mono l,PRs.mono ts h.2.2⟩
theorem PRs.mono:∀(ts:List Tr){ws:List Value},PRs w P ts ws→PRs w P' ts ws
 |[],_,h=>h
 |t::ts,[],h=>h
 |t::ts,x::r,h=>⟨PR.mono t h.1,PRs.mono ts h.2⟩
end
end
variable(w)
inductive YR(M:Mp)(us:List Tr)(i:Nat):Value→Prop
 |mk {a:Addr}{f:FuncData}{c1 c2:Addr}{o1 o2:Obj}{w1:Value}{b:Addr}:M.P a=some {cls:= .type "function",data:= .func f}→V1 f→(f.closure=[(Str.ofString "place",c2),(Str.ofString "cells",c1)]∧c1≠c2)→
  M.P c1=some o1→o1.data= .cell (some w1)→M.P c2=some o2→o2.data= .cell (some (.ref b))→PR w M.P (.fl us) w1→M.φ[i]? =some b→
  (∃(c:Addr) (oc:Obj) (vs:Array Value) (t:Tok),f.code= .ref c∧M.P c=some oc∧oc.data= .fields vs∧vs[1]? =some (.str f.qualname t))→YR M us i (.ref a)
noncomputable def VR(M:Mp):V→Value→Prop
 | .t x,y=>PR w M.P x y
 | .ref i,y=>∃a,M.φ[i]? =some a∧y= .ref a
 | .clo us i,y=>YR w M us i y
 | .rg a b c,y=>∃(r:Addr) (t u v:Tok),y= .ref r∧M.P r=some {cls:= .type "range",dict:=Option.none,data:= .fields #[.int a t, .int b u, .int c v],slots:= #[]}
 | .view k v,y=>∃a d,y= .ref a∧M.P a=some (Qq k d)∧VR M v (.ref d)
noncomputable def VRs(M:Mp):List V→List Value→Prop
 |[],ws=>ws=[]
 |v::vs,ws=>Vd (VR w M v) (VRs M vs) ws
structure MLe(M M':Mp):Prop where
 P:PLe M.P M'.P
 φ:∀(i:Nat) (a:Addr),M.φ[i]? =some a→M'.φ[i]? =some a
variable{w}
theorem MLe.refl(M:Mp):MLe M M:=⟨.refl _,fun zz zz e=>e⟩
theorem MLe.trans{M M' M'':Mp}(a:MLe M M')(b:MLe M' M''):MLe M M'':=⟨a.P.trans b.P,fun zz zz e=>b.φ _ _ (a.φ _ _ e)⟩
theorem VR.mono{M M':Mp}(l:MLe M M'):∀(v:V){x:Value},VR w M v x→VR w M' v x
 | .t x,_,h=>PR.mono l.P x h
 | .ref i,_,h=>h.imp fun zz h=>⟨l.φ _ _ h.1,h.2⟩
 | .clo _ _,_, .mk a b c d e f g h k j=> .mk (l.P _ _ a) b c (l.P _ _ d) e (l.P _ _ f) g (PR.mono l.P _ h) (l.φ _ _ k) (j.imp fun zz h=>h.imp fun zz h=>h.imp fun zz h=>h.imp fun zz h=>⟨h.1,l.P _ _ h.2.1,h.2.2⟩)
 | .rg a b c,_,h=>h.imp fun zz h=>h.imp fun zz h=>h.imp fun zz h=>h.imp fun zz h=>⟨h.1,l.P _ _ h.2⟩
 | .view k v,_,h=>h.imp fun zz h=>h.imp fun zz h=>⟨h.1,l.P _ _ h.2.1,VR.mono l v h.2.2⟩
theorem VRs.mono{M M':Mp}(l:MLe M M'):∀(vs:List V){ws:List Value},VRs w M vs ws→VRs w M' vs ws
 |[],_,h=>h
 |_::_,[],h=>h
 |v::vs,_::_,h=>⟨VR.mono l v h.1,VRs.mono l vs h.2⟩
variable(w)
noncomputable def TR(M:Mp)(i:Nat)(o:Obj):TO→Prop
 | .list ts=>∃ws n,o=BP ws n∧PRs w M.P ts ws∧ts.length≤1048576
 | .refs is=>∃ws n,o=BP ws n∧VRs w M (is.map .ref) ws∧is.length≤1048576
 | .dict es=>∃kws,o.IsDictOf (IK w) kws∧kws.map (·.1)=es.map (·.1)∧PRs w M.P (es.map (·.2)) (kws.map (·.2))∧es.length≤1048576
 | .set xs=>∃pl es ep,xs=pl.map Int.ofNat∧pl∈subs4∧o=CQ (!AM w) es ep pl∧Ee pl es
 | .inst C=>∃dx,M.φ[i+1]? =some dx∧o=instObj C dx
 | .flds fs=>∃es n,o=FJ es n∧KS w (fs.map (·.1)) es∧VRs w M (fs.map (·.2)) (es.map (·.val))∧fs.length≤1000
 | .gone=>False
 | .raw o'=>o=o'∧((∃vs,o'.data= .fields vs)→o'.cls= .ref 309∨M.φ[i]? =some 900)
 | .tab=>∃vs,o=XZ vs
variable{w}
theorem TR.mono{M M':Mp}(l:MLe M M'){i:Nat}{o:Obj}:∀{x:TO},TR w M i o x→TR w M' i o x
 | .list _,h=>h.imp fun zz h=>h.imp fun zz h=>⟨h.1,PRs.mono l.P _ h.2.1,h.2.2⟩
 | .refs _,h=>h.imp fun zz h=>h.imp fun zz h=>⟨h.1,VRs.mono l _ h.2.1,h.2.2⟩
 | .dict _,h=>h.imp fun zz h=>⟨h.1,h.2.1,PRs.mono l.P _ h.2.2.1,h.2.2.2⟩
 | .set _,h=>h
 | .inst _,h=>h.imp fun zz h=>⟨l.φ _ _ h.1,h.2⟩
 | .flds _,h=>h.imp fun zz h=>h.imp fun zz h=>⟨h.1,h.2.1,VRs.mono l _ h.2.2.1,h.2.2.2⟩
 | .gone,h=>h
 | .raw _,h=>⟨h.1,fun q=>(h.2 q).imp id (l.φ _ _)⟩
 | .tab,h=>h
end
structure Bc where
 w:World
 os:OsState
 n:Nat
 X:Prop
 env:Env
noncomputable def Bl(A:Around)(L:Addr):Prop:=∃l e,A.frames=some l∧e∈l∧e.frame=some L
structure Amb(b:Bc)(A:Around):Prop where
 hand:A.handled=none
 grd:A.guards=some []
 dep:A.depth+8*b.n≤600
 uni:A.units+40*b.n≤9000
 frs:∃l,A.frames=some l∧∀e∈l,e.scope.kind≠ .module∧∃L,e.frame=some L
 kind:b.env.scope.kind= .function
 glob:b.env.globals=mainGlobals
 blt:b.env.builtins=builtinsNs
 frm:∃L,b.env.frame=some L∧Bl A L
 has:∀x,b.env.kindOf x=some .cell→∃c,b.env.cells.lookup x=some c
 inj:∀x y c,b.env.cells.lookup x=some c→b.env.cells.lookup y=some c→x=y
noncomputable def Ed(b:Bc)(a:Addr):Prop:=∃z,b.env.cells.lookup z=some a∧b.env.kindOf z=some .cell
noncomputable def Own(b:Bc)(M:Mp)(a:Addr):Prop:=M.P a=none∧(a=b.env.locals∨Ed b a∨a∈M.φ)
noncomputable def StA(A:Around)(h:Heap)(a:Addr)(o:Obj):Prop:=∃sl,h.get? a=some {o with slots:=sl}∧(sl=o.slots∨Bl A a)
noncomputable def LN(b:Bc)(M:Mp)(h:Heap)(m:Str→Option Value)(x:Str)(v:V):Prop:=
 (b.env.kindOf x=some .local∧∃y,m x=some y∧VR b.w M v y)∨
 ((b.env.kindOf x=some .cell∨b.env.kindOf x=some .free)∧∃c y,b.env.cells.lookup x=some c∧h.IsCell c (some y)∧VR b.w M v y)
noncomputable def Gon(o:Obj)(x:TO):Prop:=x= .gone∧∀v,o.data≠ .cell v
structure Sx(b:Bc)(A:Around)(M:Mp)(ρ:Rho)(L:LH)(s:Shared):Prop where
 hP:∀a o,M.P a=some o→s.heap.get? a=some o
 top:∀a o,a≠900→(H1 b.w.params).get? a=some o→M.P a=some o
 len:L.length=M.φ.length
 hL:∀i x,L[i]? =some x→∃a o,M.φ[i]? =some a∧s.heap.get? a=some o∧(Gon o x∨(M.P a=none∧TR b.w M i o x))
 nd:M.φ.Nodup
 fr:∀a,Bl A a→M.P a=none∧a∉M.φ∧∃o es n,s.heap.get? a=some o∧o.data= .dict es n
 var:∃m,s.heap.Ns b.env.locals m∧∀x v,okS x=true→AW ρ (cd x)=some v→LN b M s.heap m x v
 loc:M.P b.env.locals=none∧b.env.locals∉M.φ
 cel:∀x c,b.env.cells.lookup x=some c→(∃y,s.heap.IsCell c y)∧c∉M.φ∧c≠b.env.locals∧(b.env.kindOf x=some .cell→M.P c=none)∧(b.env.kindOf x≠some .cell→∃o,M.P c=some o)
 gens:s.gens= #[]
 os:s.os=b.os
noncomputable def Kp(b:Bc)(A:Around)(M:Mp)(s s':Shared):Prop:=∀a o,¬Own b M a→s.heap.get? a=some o→StA A s'.heap a o
noncomputable def New(M M':Mp)(a:Addr):Prop:=a∈M'.φ∨(M.P a=none∧M'.P a≠none)
structure Go(b:Bc)(A:Around)(M:Mp)(s:Shared)(M':Mp)(s':Shared):Prop where
 le:MLe M M'
 new:∀a o,s.heap.get? a=some o→New M M' a→a=b.env.locals∨Ed b a∨a∈M.φ
 keep:Kp b A M s s'
noncomputable def XQ(base:Heap)(l:List Env)(e:Addr)(cls a0:Value)(h:Heap):Prop:=base.StaysIn h∧base.get? e=none∧h.FunFrames base l∧∃oe vs,h.get? e=some oe∧oe.cls=cls∧oe.data= .fields vs∧vs[0]? =some a0∧vs[1]? =some .none
inductive FN(b:Bc)(A:Around)(M:Mp)(s:Shared):Value→Heap→Prop
 |mk {l:List Env}{base h:Heap}{x:Addr}{a0:Value}:A.frames=some l→
  (Heap.FlyingW base l x (.ref 309) a0 h∨(∃L,b.env.frame=some L∧Heap.HeldW base l x (.ref 309) a0 L h)∨XQ base l x (.ref 309) a0 h)→
  (∀a o,¬Own b M a→¬Bl A a→s.heap.get? a=some o→base.get? a=some o)→FN b A M s (.ref x) h
structure Frx(b:Bc)(h:Heap):Prop where
 ns:∃m,h.Ns b.env.locals m
 cel:∀x c,b.env.cells.lookup x=some c→∃y,h.IsCell c y
noncomputable def EOk(b:Bc)(A:Around)(M:Mp)(s:Shared)(E:Value→Shared→Prop):Prop:=
 b.X→(∃outer,A.frames=some (b.env::outer))∧∀e s',Kp b A M s s'→Frx b s'.heap→s'.gens= #[]→s'.os=b.os→FN b A M s e s'.heap→E e s'
noncomputable abbrev WP(b:Bc)(A:Around){α:Type}(t:Sem α)(Q:α→Shared→Prop)(E:Value→Shared→Prop)(s:Shared):Prop:=wpAny (model pw_nn0409_01 b.w) A t Q E s
inductive Pst(b:Bc)(A:Around)(M:Mp)(s:Shared){α β:Type}(rel:Mp→β→α→Prop)(Q:β→Rho→LH→Prop)(y:α)(s':Shared):Prop
 |mk {M':Mp}{x:β}{ρ:Rho}{L:LH}:Go b A M s M' s'→Sx b A M' ρ L s'→rel M' x y→Q x ρ L→Pst b A M s rel Q y s'
inductive Pse(b:Bc)(A:Around)(M:Mp)(s:Shared)(ρ:Rho){α β:Type}(rel:Mp→β→α→Prop)(Q:β→LH→Prop)(y:α)(s':Shared):Prop
 |mk {M':Mp}{x:β}{L:LH}:Go b A M s M' s'→Sx b A M' ρ L s'→rel M' x y→Q x L→Pse b A M s ρ rel Q y s'
noncomputable def J(b:Bc)(M:Mp)(ρ:Rho)(L:LH){α β:Type}(t:Sem α)(rel:Mp→β→α→Prop)(Q:β→Rho→LH→Prop):Prop:=
 ∀A M₁ s E,MLe M M₁→Amb b A→Sx b A M₁ ρ L s→EOk b A M₁ s E→WP b A t (Pst b A M₁ s rel Q) E s
noncomputable def JE(b:Bc)(M:Mp)(ρ:Rho)(L:LH){α β:Type}(t:Sem α)(rel:Mp→β→α→Prop)(Q:β→LH→Prop):Prop:=
 ∀A M₁ s E,MLe M M₁→Amb b A→Sx b A M₁ ρ L s→EOk b A M₁ s E→WP b A t (Pse b A M₁ s ρ rel Q) E s
end
section
theorem nos{α:Type}{a:α}{C:Prop}(e:none=some a):C:=nomatch e
section
variable{b:Bc}{A:Around}{M M₁ M₂:Mp}{s s₁ s₂:Shared}{ρ:Rho}{L:LH}
theorem StA.same{h:Heap}{a:Addr}{o:Obj}(e:h.get? a=some o):StA A h a o:=⟨_,e, .inl rfl⟩
theorem StA.exact{h:Heap}{a:Addr}{o:Obj}(x:StA A h a o)(n:¬Bl A a):h.get? a=some o:=by
 obtain⟨sl,e,rfl|f⟩:=x
 ·exact e
 ·exact absurd f n
theorem Own.of{a:Addr}{o:Obj}(g:Go b A M s M₁ s₁)(e:s.heap.get? a=some o)(h:Own b M₁ a):Own b M a:=by
 refine⟨?_, ?_⟩
 ·cases q:M.P a with
  |none=>rfl
  |some o'=>exact absurd (g.le.P _ _ q) (by rw[h.1];nofun)
 ·rcases h.2 with q|q|q
  ·exact .inl q
  ·exact .inr (.inl q)
  ·exact g.new _ _ e (.inl q)
theorem Kp.trans(g:Go b A M s M₁ s₁)(k:Kp b A M₁ s₁ s₂):Kp b A M s s₂:=fun a o h e=>by
 obtain⟨sl,e1,c1⟩:=g.keep a o h e
 obtain⟨sl',e2,c2⟩:=k a _ (fun q=>h (Own.of g e q)) e1
 refine⟨sl',e2, ?_⟩
 rcases c2 with rfl|f
 ·exact c1
 ·exact .inr f
theorem Go.trans(g:Go b A M s M₁ s₁)(g':Go b A M₁ s₁ M₂ s₂):Go b A M s M₂ s₂:=
 ⟨g.le.trans g'.le,fun a o e h=>by
  by_cases q:Own b M a
  ·exact q.2
  ·by_cases p:M₁.P a=none
   ·obtain⟨sl,e1,_⟩:=g.keep a o q e
    rcases g'.new a _ e1 (h.imp id fun h=>⟨p,h.2⟩)with r|r|r
    ·exact .inl r
    ·exact .inr (.inl r)
    ·exact g.new a o e (.inl r)
   ·rcases h with h|h
    ·obtain⟨sl,e1,_⟩:=g.keep a o q e
     rcases g'.new a _ e1 (.inl h)with r|r|r
     ·exact .inl r
     ·exact .inr (.inl r)
     ·exact g.new a o e (.inl r)
    ·exact g.new a o e (.inr ⟨h.1,p⟩),Kp.trans g g'.keep⟩
theorem EOk.weak{E:Value→Shared→Prop}(x:EOk b A M s E)(g:Go b A M s M₁ s₁):EOk b A M₁ s₁ E:=
 fun hx=>⟨(x hx).1,fun e s' k f g1 o1 fl=>(x hx).2 e s' (Kp.trans g k) f g1 o1 (by
  cases fl with
  |mk e1 c z=>exact .mk e1 c fun a o h n e=>z a o (fun q=>h (Own.of g e q)) n ((g.keep a o h e).exact n))⟩
variable{α β γ δ:Type}{t:Sem α}{f:α→Sem γ}{rel:Mp→β→α→Prop}{rel2:Mp→δ→γ→Prop}{Q Q':β→Rho→LH→Prop}{Qe Qe':β→LH→Prop}{Q2:δ→Rho→LH→Prop}{Qe2:δ→LH→Prop}
theorem Pst.use{G:Prop}{y:α}(p:Pst b A M s rel Q y s₁)(k:∀M' x ρ L,Go b A M s M' s₁→Sx b A M' ρ L s₁→rel M' x y→Q x ρ L→G):G:=by cases p with|mk a b c d=>exact k _ _ _ _ a b c d
theorem Pse.use{G:Prop}{y:α}(p:Pse b A M s ρ rel Qe y s₁)(k:∀M' x L,Go b A M s M' s₁→Sx b A M' ρ L s₁→rel M' x y→Qe x L→G):G:=by cases p with|mk a b c d=>exact k _ _ _ a b c d
theorem Pst.after{y:α}(g:Go b A M s M₁ s₁)(p:Pst b A M₁ s₁ rel Q y s₂):Pst b A M s rel Q y s₂:=p.use fun zz zz zz zz a b c d=> .mk (g.trans a) b c d
theorem Pse.after{y:α}(g:Go b A M s M₁ s₁)(p:Pse b A M₁ s₁ ρ rel Qe y s₂):Pse b A M s ρ rel Qe y s₂:=p.use fun zz zz zz a b c d=> .mk (g.trans a) b c d
theorem J.weak(l:MLe M M₁)(h:J b M ρ L t rel Q):J b M₁ ρ L t rel Q:=fun A M' s E l'=>h A M' s E (l.trans l')
theorem JE.weak(l:MLe M M₁)(h:JE b M ρ L t rel Qe):JE b M₁ ρ L t rel Qe:=fun A M' s E l'=>h A M' s E (l.trans l')
theorem JE.mono(h:JE b M ρ L t rel Qe)(k:∀x L',Qe x L'→Qe' x L'):JE b M ρ L t rel Qe':=
 fun A M₁ s E l am st ex=>wpAny_mono (h A M₁ s E l am st ex) (fun zz zz p=>p.use fun zz zz zz a b c d=> .mk a b c (k _ _ d)) fun zz zz e=>e
theorem J.bind(h:J b M ρ L t rel Q)(k:∀M' y x ρ' L',MLe M M'→rel M' x y→Q x ρ' L'→J b M' ρ' L' (f y) rel2 Q2):J b M ρ L (t>>=f) rel2 Q2:=
 fun A M₁ s E l am st ex=>wpAny_bind (wpAny_mono (h A M₁ s E l am st ex) (fun y s₁ p=>p.use fun M' x ρ' L' g st' r q=>
  wpAny_mono (k M' y x ρ' L' (l.trans g.le) r q A M' s₁ E (.refl _) am st' (ex.weak g)) (fun zz zz p=>p.after g) fun zz zz e=>e) fun zz zz e=>e)
theorem JE.bind(h:JE b M ρ L t rel Qe)(k:∀M' y x L',MLe M M'→rel M' x y→Qe x L'→JE b M' ρ L' (f y) rel2 Qe2):JE b M ρ L (t>>=f) rel2 Qe2:=
 fun A M₁ s E l am st ex=>wpAny_bind (wpAny_mono (h A M₁ s E l am st ex) (fun y s₁ p=>p.use fun M' x L' g st' r q=>
  wpAny_mono (k M' y x L' (l.trans g.le) r q A M' s₁ E (.refl _) am st' (ex.weak g)) (fun zz zz p=>p.after g) fun zz zz e=>e) fun zz zz e=>e)
theorem JE.bindS(h:JE b M ρ L t rel Qe)(k:∀M' y x L',MLe M M'→rel M' x y→Qe x L'→J b M' ρ L' (f y) rel2 Q2):J b M ρ L (t>>=f) rel2 Q2:=
 fun A M₁ s E l am st ex=>wpAny_bind (wpAny_mono (h A M₁ s E l am st ex) (fun y s₁ p=>p.use fun M' x L' g st' r q=>
  wpAny_mono (k M' y x L' (l.trans g.le) r q A M' s₁ E (.refl _) am st' (ex.weak g)) (fun zz zz p=>p.after g) fun zz zz e=>e) fun zz zz e=>e)
theorem New.old{a:Addr}(h:New M M a):a∈M.φ:=h.elim id fun h=>absurd h.1 h.2
theorem Go.refl(M:Mp):Go b A M s M s:=⟨.refl _,fun zz zz zz h=> .inr (.inr h.old),fun zz zz zz e=> .same e⟩
theorem JE.pure{y:α}{x:β}(hr:∀M₁,MLe M M₁→rel M₁ x y)(q:Qe x L):JE b M ρ L (Pure.pure y:Sem α) rel Qe:=fun A M₁ s E l am st zz=>wpAny_pure (.mk (.refl _) st (hr _ l) q)
theorem J.pure{y:α}{x:β}(hr:∀M₁,MLe M M₁→rel M₁ x y)(q:Q x ρ L):J b M ρ L (Pure.pure y:Sem α) rel Q:=fun A M₁ s E l am st zz=>wpAny_pure (.mk (.refl _) st (hr _ l) q)
theorem JE.holding{vs:List Value}(h:JE b M ρ L t rel Qe):JE b M ρ L (PySem.holding vs t) rel Qe:=fun A M₁ s E l am st ex=>wpAny_holding (h A M₁ s E l am st ex)
theorem J.holding{vs:List Value}(h:J b M ρ L t rel Q):J b M ρ L (PySem.holding vs t) rel Q:=fun A M₁ s E l am st ex=>wpAny_holding (h A M₁ s E l am st ex)
theorem JE.stand{pos:Pos}(h:JE b M ρ L t rel Qe):JE b M ρ L (PySem.standAt pos>>=fun zz=>t) rel Qe:=fun A M₁ s E l am st ex=>wpAny_bind (wpAny_standAt (h A M₁ s E l am st ex))
theorem J.stand{pos:Pos}(h:J b M ρ L t rel Q):J b M ρ L (PySem.standAt pos>>=fun zz=>t) rel Q:=fun A M₁ s E l am st ex=>wpAny_bind (wpAny_standAt (h A M₁ s E l am st ex))
theorem JE.rule{tag:String}(h:JE b M ρ L t rel Qe):JE b M ρ L (PySem.rule tag>>=fun zz=>t) rel Qe:=fun A M₁ s E l am st ex=>wpAny_bind (wpAny_rule (h A M₁ s E l am st ex))
theorem JE.operate{t:Sem Value}{vs:List Value}{rel:Mp→β→Value→Prop}(h:JE b M ρ L t rel Qe):JE b M ρ L (operate vs t) rel Qe:=
 fun A M₁ s E l am st ex Γ p hΓ=>by rw[Sem.wp_operate];exact h A M₁ s E l am st ex Γ p hΓ
theorem JE.toJ(h:JE b M ρ L t rel Qe)(k:∀x L',Qe x L'→Q x ρ L'):J b M ρ L t rel Q:=
 fun A M₁ s E l am st ex=>wpAny_mono (h A M₁ s E l am st ex) (fun zz zz p=>p.use fun zz zz zz a b c d=> .mk a b c (k _ _ d)) fun zz zz e=>e
end
noncomputable def DE(L:Addr)(h h':Heap):Prop:=(∀b o,b≠L→h.get? b=some o→h'.get? b=some o)∧∀m,h.Ns L m→h'.Ns L m
theorem DE.refl(L:Addr)(h:Heap):DE L h h:=⟨fun zz zz zz e=>e,fun zz e=>e⟩
theorem DE.of{L:Addr}{h h':Heap}(k:∀b o,h.get? b=some o→h'.get? b=some o):DE L h h':=⟨fun zz zz zz e=>k _ _ e,fun zz e=>e.keeps k⟩
noncomputable def DQ(h:Heap)(L:Addr):List (Addr×Obj):=(List.range h.objs.size).filterMap fun b=>if b=L then none else(h.get? b).map fun o=>(b,o)
set_option tactic.hygienic true in
theorem Ek{h:Heap}{L b:Addr}{o:Obj}:(b,o)∈DQ h L↔b≠L∧h.get? b=some o:=by
 unfold DQ
 simp only[List.mem_filterMap,List.mem_range]
 constructor
 ·rintro⟨c,_,e⟩
  split at e
  ·cases e
  ·rename_i ne
   obtain⟨o',h1,h2⟩:=Option.map_eq_some_iff.mp e
   cases h2;exact⟨ne,h1⟩
 ·rintro⟨ne,e⟩
  exact⟨b,Heap.lt_size e,by rw[if_neg ne,e];rfl⟩
theorem Kt{h:Heap}{a:Addr}(n:∀o,h.get? a≠some o):h.get? a=none:=by
 cases e:h.get? a with
 |none=>rfl
 |some o=>exact absurd e (n o)
theorem gone(h:Heap){a:Addr}(ha:h.objs.size≤a):h.get? a=none:=Kt fun o e=>absurd (Heap.lt_size e) (Nat.not_lt.mpr ha)
theorem Fb(b:Addr):({}:Heap).get? b=none:=gone _ (Nat.zero_le _)
theorem Wz{h:Heap}{L:Addr}{m:Str→Option Value}(hn:h.Ns L m):Fr {} L h m:=⟨hn,fun b o e=>(by rw[Fb]at e;cases e),Nat.zero_le _⟩
theorem Pk(h:Heap)(L:Addr):News {} L h (DQ h L):=fun p hp=>⟨(Ek.mp hp).2,(Ek.mp hp).1,Fb _⟩
theorem Pq{h h':Heap}{L:Addr}{m:Str→Option Value}{x:List (Addr×Obj)}(hn:h.Ns L m)(F:Fr {} L h' m)(N:News {} L h' (x++DQ h L)):DE L h h':=
 ⟨fun b o ne e=>(N (b,o) (List.mem_append_right _ (Ek.mpr ⟨ne,e⟩))).1,fun m' e=>by rw[e.eq_nsMap,←hn.eq_nsMap];exact F.ns⟩
noncomputable def PH.add(P:PH)(a:Addr)(o:Obj):PH:=fun b=>if b=a then some o else P b
section
variable{b:Bc}{A:Around}{M M₁:Mp}{s s':Shared}{ρ:Rho}{L:LH}{P:PH}{a c:Addr}{o o':Obj}
theorem BL:P.add a o a=some o:=if_pos rfl
theorem CY(h:c≠a):P.add a o c=P c:=if_neg h
theorem C8(h:P a=none):PLe P (P.add a o):=fun d o' e=>(CY (fun q=>by subst q;rw[h]at e;cases e)).trans e
theorem MLe.add(h:M.P a=none):MLe M ⟨M.P.add a o,M.φ⟩:=⟨C8 h,fun zz zz e=>e⟩
theorem MLe.snoc(M:Mp)(a:Addr):MLe M ⟨M.P,M.φ++[a]⟩:=⟨.refl _,fun i c e=>(List.getElem?_append_left (List.getElem?_eq_some_iff.mp e).1).trans e⟩
theorem BV{d:Obj}(h:P.add a o c=some d):(c=a∧d=o)∨(c≠a∧P c=some d):=by
 by_cases q:c=a
 ·subst q;rw[BL]at h;cases h;exact .inl ⟨rfl,rfl⟩
 ·rw[CY q]at h;exact .inr ⟨q,h⟩
theorem Sx.fresh(st:Sx b A M ρ L s)(h:s.heap.get? a=none):M.P a=none∧(¬Bl A a)∧a≠b.env.locals∧(∀x c,b.env.cells.lookup x=some c→c≠a):=by
 refine⟨?_,fun q=> ?_,fun q=> ?_,fun x c e q=> ?_⟩
 ·cases e:M.P a with
  |none=>rfl
  |some o=>rw[st.hP _ _ e]at h;cases h
 ·obtain⟨_,_,_,_,_,e,_⟩:=st.fr _ q
  rw[h]at e;cases e
 ·obtain⟨m,⟨o,_,_,e,_⟩,_⟩:=st.var
  rw[←q,h]at e;cases e
 ·obtain⟨⟨y,o,e,_⟩,_⟩:=st.cel x c e
  rw[q,h]at e;cases e
theorem Sx.notIn(st:Sx b A M ρ L s)(h:s.heap.get? a=none):a∉M.φ:=fun q=>by
 obtain⟨i,hi⟩:=List.mem_iff_getElem?.mp q
 have hl:=(List.getElem?_eq_some_iff.mp hi).1
 rw[←st.len]at hl
 obtain⟨c,o,e1,e2,_⟩:=st.hL i _ (List.getElem?_eq_getElem hl)
 rw[hi]at e1;cases e1;rw[h]at e2;cases e2
theorem Sx.look(st:Sx b A M ρ L s){i:Nat}{x:TO}(e:L[i]? =some x)(h:x≠ .gone):∃a o,M.φ[i]? =some a∧M.P a=none∧s.heap.get? a=some o∧TR b.w M i o x:=(st.hL i x e).imp fun zz z=>z.imp fun zz z=>have y:=z.2.2.resolve_left fun q=>h q.1;⟨z.1,y.1,z.2.1,y.2⟩
set_option tactic.hygienic true in
theorem Sx.upd(st:Sx b A M ρ L s){i:Nat}{m:Addr}{x:TO}(em:M.φ[i]? =some m)(pm:M.P m=none)(k:∀c o,c≠m→c≠b.env.locals→s.heap.get? c=some o→s'.heap.get? c=some o)(kn:∀mm,s.heap.Ns b.env.locals mm→s'.heap.Ns b.env.locals mm)
 (e:s'.heap.get? m=some o)(t:TR b.w M i o x)(g:s'.gens=s.gens)(os:s'.os=s.os):Sx b A M ρ (L.set i x) s'∧Go b A M s M s':=by
 have mφ:m∈M.φ:=List.mem_of_getElem? em
 have lm:b.env.locals≠m:=fun q=>st.loc.2 (q▸mφ)
 refine⟨⟨fun a o e=>k a o (fun q=>by rw[q,pm]at e;cases e) (fun q=>by rw[q,st.loc.1]at e;cases e) (st.hP _ _ e),st.top,by rw[List.length_set];exact st.len,fun j y ej=> ?_,st.nd,fun a h=> ?_, ?_,st.loc,fun x c ec=> ?_,g.trans st.gens,os.trans st.os⟩,
  .refl _,fun zz zz zz h=> .inr (.inr h.old),fun a o h e=> .same (k a o (fun q=>h (q▸⟨pm, .inr (.inr mφ)⟩)) (fun q=>h (q▸⟨st.loc.1, .inl rfl⟩)) e)⟩
 ·rw[List.getElem?_set]at ej
  split at ej
  ·rename_i q;subst q
   split at ej
   ·cases ej;exact⟨m,o,em,e, .inr ⟨pm,t⟩⟩
   ·cases ej
  ·rename_i q
   refine(st.hL j y ej).imp fun a z=>z.imp fun o z=>⟨z.1,k a o (fun q2=>q ?_) (fun q2=>st.loc.2 (q2▸List.mem_of_getElem? z.1)) z.2.1,z.2.2⟩
   subst q2
   exact(List.getElem?_inj (List.getElem?_eq_some_iff.mp em).1 st.nd).mp (em.trans z.1.symm)
 ·refine hid fun Gg gg=> ?_
  obtain⟨f1,f2,o,es,n,f3,f4⟩:=st.fr a h
  refine gg ?_;clear gg
  refine⟨f1,f2, ?_⟩
  by_cases q:a=b.env.locals
  ·subst q
   refine hid fun Gg gg=> ?_
   obtain⟨mm,hn,_⟩:=st.var
   obtain⟨o,es,n,e1,e2,_⟩:=kn mm hn
   refine gg ?_;clear gg
   exact⟨o,es,n,e1,e2⟩
  ·exact⟨o,es,n,k a o (fun q=>f2 (q▸mφ)) q f3,f4⟩
 ·refine hid fun Gg gg=> ?_
  obtain⟨mm,hn,hv⟩:=st.var
  refine gg ?_;clear gg
  refine⟨mm,kn mm hn,fun x v ok e=>(hv x v ok e).imp id fun⟨a,c,y,e1,⟨o,d,d2⟩,e2⟩=>⟨a,c,y,e1,⟨o,k c o (fun q=>(st.cel x c e1).2.1 (q▸mφ)) (st.cel x c e1).2.2.1 d,d2⟩,e2⟩⟩
 ·refine hid fun Gg gg=> ?_
  obtain⟨⟨y,o,d,d2⟩,r⟩:=st.cel x c ec
  refine gg ?_;clear gg
  exact⟨⟨y,o,k c o (fun q=>r.1 (q▸mφ)) r.2.1 d,d2⟩,r⟩
theorem Sx.keepL(st:Sx b A M ρ L s)(k:DE b.env.locals s.heap s'.heap)(g:s'.gens=s.gens)(os:s'.os=s.os):Sx b A M ρ L s'∧Go b A M s M s':=by
 refine⟨⟨fun a o e=>k.1 a o (fun q=>by rw[q,st.loc.1]at e;cases e) (st.hP _ _ e),st.top,st.len,fun j y ej=> ?_,st.nd,fun a h=> ?_, ?_,st.loc,fun x c ec=> ?_,g.trans st.gens,os.trans st.os⟩,
  .refl _,fun zz zz zz h=> .inr (.inr h.old),fun a o h e=> .same (k.1 a o (fun q=>h (q▸⟨st.loc.1, .inl rfl⟩)) e)⟩
 ·exact(st.hL j y ej).imp fun a z=>z.imp fun o z=>⟨z.1,k.1 a o (fun q2=>st.loc.2 (q2▸List.mem_of_getElem? z.1)) z.2.1,z.2.2⟩
 ·refine hid fun Gg gg=> ?_
  obtain⟨f1,f2,o,es,n,f3,f4⟩:=st.fr a h
  refine gg ?_;clear gg
  refine⟨f1,f2, ?_⟩
  by_cases q:a=b.env.locals
  ·subst q
   refine hid fun Gg gg=> ?_
   obtain⟨mm,hn,_⟩:=st.var
   obtain⟨o,es,n,e1,e2,_⟩:=k.2 mm hn
   refine gg ?_;clear gg
   exact⟨o,es,n,e1,e2⟩
  ·exact⟨o,es,n,k.1 a o q f3,f4⟩
 ·refine hid fun Gg gg=> ?_
  obtain⟨mm,hn,hv⟩:=st.var
  refine gg ?_;clear gg
  exact⟨mm,k.2 mm hn,fun x v ok e=>(hv x v ok e).imp id fun⟨a,c,y,e1,⟨o,d,d2⟩,e2⟩=>⟨a,c,y,e1,⟨o,k.1 c o (st.cel x c e1).2.2.1 d,d2⟩,e2⟩⟩
 ·refine hid fun Gg gg=> ?_
  obtain⟨⟨y,o,d,d2⟩,r⟩:=st.cel x c ec
  refine gg ?_;clear gg
  exact⟨⟨y,o,k.1 c o r.2.1 d,d2⟩,r⟩
theorem Sx.grow{L':LH}(st:Sx b A M ρ L s)(l:MLe M M₁)(hP:∀a o,M₁.P a=some o→M.P a=some o∨(s.heap.get? a=some o∧¬Bl A a∧a≠b.env.locals∧∀x c,b.env.cells.lookup x=some c→c≠a))
 (hφ:∀a∈M₁.φ,a∈M.φ∨(¬Bl A a∧a≠b.env.locals∧∀x c,b.env.cells.lookup x=some c→c≠a))(len:L'.length=M₁.φ.length)(nd:M₁.φ.Nodup)
 (hL:∀i x,L'[i]? =some x→∃a o,M₁.φ[i]? =some a∧s.heap.get? a=some o∧(Gon o x∨(M₁.P a=none∧TR b.w M₁ i o x))):Sx b A M₁ ρ L' s:=by
 have pn:∀a,M.P a=none→(Bl A a∨a=b.env.locals∨∃x,b.env.cells.lookup x=some a)→M₁.P a=none:=fun a n h=>by
  cases e:M₁.P a with
  |none=>rfl
  |some o=>
   rcases hP a o e with q|⟨_,q1,q2,q3⟩
   ·rw[n]at q;cases q
   ·rcases h with h|h|⟨x,h⟩
    ·exact absurd h q1
    ·exact absurd h q2
    ·exact absurd rfl (q3 x a h)
 have φn:∀a,a∉M.φ→(Bl A a∨a=b.env.locals∨∃x,b.env.cells.lookup x=some a)→a∉M₁.φ:=fun a n h q=>by
  rcases hφ a q with q|⟨q1,q2,q3⟩
  ·exact n q
  ·rcases h with h|h|⟨x,h⟩
   ·exact absurd h q1
   ·exact absurd h q2
   ·exact absurd rfl (q3 x a h)
 refine⟨fun a o e=>(hP a o e).elim (st.hP a o) fun h=>h.1,fun a o n e=>l.P _ _ (st.top a o n e),len,hL,nd,fun a h=> ?_, ?_,⟨pn _ st.loc.1 (.inr (.inl rfl)),φn _ st.loc.2 (.inr (.inl rfl))⟩,fun x c ec=> ?_,st.gens,st.os⟩
 ·obtain⟨f1,f2,f3⟩:=st.fr a h
  exact⟨pn a f1 (.inl h),φn a f2 (.inl h),f3⟩
 ·obtain⟨mm,hn,hv⟩:=st.var
  exact⟨mm,hn,fun x v ok e=>(hv x v ok e).imp (fun⟨a,y,e,r⟩=>⟨a,y,e,VR.mono l _ r⟩) fun⟨a,c,y,e1,d,e2⟩=>⟨a,c,y,e1,d,VR.mono l _ e2⟩⟩
 ·obtain⟨d,r1,r2,r3,r4⟩:=st.cel x c ec
  exact⟨d,φn c r1 (.inr (.inr ⟨x,ec⟩)),r2,fun h=>pn c (r3 h) (.inr (.inr ⟨x,ec⟩)),fun h=>(r4 h).imp fun zz h=>l.P _ _ h⟩
theorem Sx.addP(st:Sx b A M ρ L s)(p:M.P a=none)(n:¬Bl A a∧a≠b.env.locals∧∀x c,b.env.cells.lookup x=some c→c≠a)(φ:a∉M.φ)(e:s.heap.get? a=some o):Sx b A ⟨M.P.add a o,M.φ⟩ ρ L s:=
 st.grow (.add p) (fun c d h=>(BV h).elim (fun⟨q,q2⟩=> .inr (by subst q;subst q2;exact⟨e,n⟩)) fun q=> .inl q.2) (fun zz h=> .inl h) st.len st.nd
  fun i x ex=>(st.hL i x ex).imp fun c z=>z.imp fun o z=>⟨z.1,z.2.1,z.2.2.imp id fun y=>⟨(CY fun q=>φ (by rw[←q];exact List.mem_of_getElem? z.1)).trans y.1,y.2.mono (.add p)⟩⟩
set_option tactic.hygienic true in
theorem Sx.addL(st:Sx b A M ρ L s){x:TO}(p:M.P a=none)(n:¬Bl A a∧a≠b.env.locals∧∀x c,b.env.cells.lookup x=some c→c≠a)(φ:a∉M.φ)(e:s.heap.get? a=some o)(t:TR b.w ⟨M.P,M.φ++[a]⟩ L.length o x):
 Sx b A ⟨M.P,M.φ++[a]⟩ ρ (L++[x]) s:=by
 have l:=MLe.snoc M a
 refine st.grow l (fun c d h=> .inl h) (fun c h=>(List.mem_append.mp h).imp id fun h=>by rw[List.mem_singleton.mp h];exact n) (by rw[List.length_append,List.length_append,st.len];rfl)
  (List.nodup_append.mpr ⟨st.nd,List.pairwise_singleton _ _,fun c hc d hd q=>φ (by rw[List.mem_singleton.mp hd]at q;exact q▸hc)⟩) fun i y ex=> ?_
 rw[List.getElem?_append]at ex
 split at ex
 ·exact(st.hL i y ex).imp fun c z=>z.imp fun o z=>⟨l.φ _ _ z.1,z.2.1,z.2.2.imp id fun y=>⟨y.1,y.2.mono l⟩⟩
 ·rename_i q
  have hi:=(List.getElem?_eq_some_iff.mp ex).1
  obtain rfl:i=L.length:=by simp at hi;exact(l30 (Hc W0 Y0 (Hd (.a W0 X1) X2 (Gf X2 X1))) rfl hi (Nat.sub_add_cancel (l20 (.H .nnlt 1 W0 X1 (Gb X1 W0)) rfl q)))
  simp only[Nat.sub_self,List.getElem?_cons_zero,Option.some.injEq]at ex
  subst ex
  exact⟨a,o,by rw[st.len,List.getElem?_append_right (Nat.le_refl _),Nat.sub_self];rfl,e, .inr ⟨p,t⟩⟩
theorem Go.keepL(k:DE b.env.locals s.heap s'.heap)(pl:M.P b.env.locals=none)(l:MLe M M₁)(hφ:∀a,New M M₁ a→a∈M.φ∨s.heap.get? a=none):Go b A M s M₁ s':=
 ⟨l,fun a o e h=>(hφ a h).elim (fun h=> .inr (.inr h)) fun q=>(by rw[q]at e;cases e),fun a o h e=> .same (k.1 a o (fun q=>h (q▸⟨pl, .inl rfl⟩)) e)⟩
end
structure Lf(b:Bc)(A:Around)(M:Mp)(ρ:Rho)(L:LH)(s:Shared)(m:Str→Option Value):Prop where
 am:Amb b A
 st:Sx b A M ρ L s
 F:Fr {} b.env.locals s.heap m
 N:News {} b.env.locals s.heap (DQ s.heap b.env.locals)
section
variable{b:Bc}{A:Around}{M:Mp}{s:Shared}{ρ:Rho}{L:LH}{m:Str→Option Value}{α β:Type}{t:Sem α}{rel:Mp→β→α→Prop}{Q:β→LH→Prop}
theorem Sx.lf(st:Sx b A M ρ L s)(am:Amb b A):∃m,Lf b A M ρ L s m:=let⟨m,hn,_⟩:=st.var;⟨m,am,st,Wz hn,Pk _ _⟩
theorem Lf.keep{h':Heap}{x:List (Addr×Obj)}(l:Lf b A M ρ L s m)(F:Fr {} b.env.locals h' m)(N:News {} b.env.locals h' (x++DQ s.heap b.env.locals)):DE b.env.locals s.heap h':=Pq l.F.ns F N
theorem JE.still(x:β)(h:∀A M₁ s m Q' E,MLe M M₁→Lf b A M₁ ρ L s m→(∀y tk h',DE b.env.locals s.heap h'→rel M₁ x y→Q' y {s with heap:=h',toks:=tk})→WP b A t Q' E s)(q:Q x L):JE b M ρ L t rel Q:=
 fun A M₁ s E l am st zz=>(st.lf am).elim fun m lf=>h A M₁ s m _ E l lf fun y tk h' k z=>have p:=st.keepL (s':={s with heap:=h',toks:=tk}) k rfl rfl;.mk p.2 p.1 z q
theorem JE.make(x:β)(h:∀A M₁ s m Q' E,MLe M M₁→Lf b A M₁ ρ L s m→(∀y tk h' a o,DE b.env.locals s.heap h'→s.heap.get? a=none→h'.get? a=some o→(MLe M₁ ⟨M₁.P.add a o,M₁.φ⟩→rel ⟨M₁.P.add a o,M₁.φ⟩ x y)→Q' y {s with heap:=h',toks:=tk})→WP b A t Q' E s)(q:Q x L):JE b M ρ L t rel Q:=
 fun A M₁ s E l am st zz=>(st.lf am).elim fun m lf=>h A M₁ s m _ E l lf fun y tk h' a o k ha e z=>
  have n:=st.fresh ha
  .mk (Go.keepL (s':={s with heap:=h',toks:=tk}) k st.loc.1 (.add (o:=o) n.1) fun c h=>h.imp id fun h=>by rw[show c=a from Decidable.byContradiction fun q=>h.2 ((CY q).trans h.1)];exact ha) (((st.keepL (s':={s with heap:=h',toks:=tk}) k rfl rfl).1).addP n.1 n.2 (st.notIn ha) e) (z (.add n.1)) q
theorem JE.track{t:Sem Value}{Q:V→LH→Prop}(x:TO)(h:∀A M₁ s m Q' E,MLe M M₁→Lf b A M₁ ρ L s m→(∀tk h' a o,DE b.env.locals s.heap h'→s.heap.get? a=none→h'.get? a=some o→TR b.w ⟨M₁.P,M₁.φ++[a]⟩ L.length o x→Q' (.ref a) {s with heap:=h',toks:=tk})→WP b A t Q' E s)
 (q:Q (.ref L.length) (L++[x])):JE b M ρ L t (VR b.w) Q:=
 fun A M₁ s E l am st zz=>(st.lf am).elim fun m lf=>h A M₁ s m _ E l lf fun tk h' a o k ha e z=>
  have n:=st.fresh ha
  have le:=MLe.snoc M₁ a
  .mk (Go.keepL (s':={s with heap:=h',toks:=tk}) k st.loc.1 le fun c h=>h.elim (fun h=>(List.mem_append.mp h).imp id fun h=>by rw[List.mem_singleton.mp h];exact ha) fun h=>absurd h.1 h.2) (((st.keepL (s':={s with heap:=h',toks:=tk}) k rfl rfl).1).addL n.1 n.2 (st.notIn ha) e z)
   (show VR b.w ⟨M₁.P,M₁.φ++[a]⟩ (.ref L.length) (.ref a)from⟨a,by rw[st.len,List.getElem?_append_right (Nat.le_refl _),Nat.sub_self];rfl,rfl⟩) q
theorem JE.change(y:β){i:Nat}{x0 x:TO}(hi:L[i]? =some x0)(hx:x0≠ .gone) (h:∀A M₁ s m a o Q' E,MLe M M₁→Lf b A M₁ ρ L s m→M₁.φ[i]? =some a→s.heap.get? a=some o→TR b.w M₁ i o x0→a≠b.env.locals→
 (∀v tk h' o',(∀c o,c≠a→c≠b.env.locals→s.heap.get? c=some o→h'.get? c=some o)→(∀mm,s.heap.Ns b.env.locals mm→h'.Ns b.env.locals mm)→h'.get? a=some o'→TR b.w M₁ i o' x→rel M₁ y v→Q' v {s with heap:=h',toks:=tk})→WP b A t Q' E s)
 (q:Q y (L.set i x)):JE b M ρ L t rel Q:=
 fun A M₁ s E l am st zz=>(st.lf am).elim fun m lf=>(st.look hi hx).elim fun a z=>z.elim fun o z=>h A M₁ s m a o _ E l lf z.1 z.2.2.1 z.2.2.2 (fun q=>st.loc.2 (q▸List.mem_of_getElem? z.1)) fun v tk h' o' k kn e t r=>
  have p:=st.upd (s':={s with heap:=h',toks:=tk}) z.1 z.2.1 k kn e t rfl rfl;.mk p.2 p.1 r q
end
end
section
theorem Um(P:Params):(KT P).lookup 900=none:=by kernel_rfl
section
variable{b:Bc}{A:Around}{M:Mp}{s:Shared}{ρ:Rho}{L:LH}
theorem Sx.kP(st:Sx b A M ρ L s){a:Addr}{o:Obj}(h:(KT b.w.params).lookup a=some o):M.P a=some o:=st.top _ _ (fun q=>by subst q;rw[Um]at h;cases h) (MN h)
theorem Sx.kIn(st:Sx b A M ρ L s):(KT b.w.params).In s.heap:=fun a o h=>st.hP _ _ (st.kP h)
theorem Sx.noMods(st:Sx b A M ρ L s){a:Addr}(p:M.P a=none):(a==sysModules)=false:=by
 cases h:a==sysModules with
 |false=>rfl
 |true=>
  obtain⟨o,k⟩:∃o,(KT b.w.params).lookup sysModules=some o:=⟨_,rfl⟩
  rw[eq_of_beq h,st.kP k]at p;cases p
noncomputable abbrev SV(b:Bc)(M:Mp)(ρ:Rho)(L:LH)(t:Sem Value)(Q:V→LH→Prop):Prop:=JE b M ρ L t (VR b.w) Q
noncomputable abbrev SE(b:Bc)(M:Mp)(ρ:Rho)(L:LH)(e:Expr)(Q:V→LH→Prop):Prop:=SV b M ρ L (eval e b.env) Q
noncomputable abbrev SB(b:Bc)(M:Mp)(ρ:Rho)(L:LH)(t:Sem Bool)(Q:Bool→LH→Prop):Prop:=JE b M ρ L t (fun zz x a=>a=x) Q
variable{Q:V→LH→Prop}
theorem Ew{x:Str}{pos:Pos}{v:V}(ok:okS x=true)(e:AW ρ (cd x)=some v)(q:Q v L)(h1:(x==("__debug__":Str))=false)(h2:(x==("__classdict__":Str))=false):SE b M ρ L (.Name x pos) Q:=by
 refine JE.still v (fun A M₁ s m Q' E l lf k=> ?_) q
 obtain⟨m',hn,hv⟩:=lf.st.var
 refine wpAny_Name ?_ h1
 rcases hv x v ok e with⟨a,y,d,c⟩|⟨a|a,c,y,d,i,z⟩
 ·exact wpAny_loadName_local lf.am.kind a hn d (k y s.toks s.heap (.refl _ _) c)
 ·exact wpAny_loadName_cell lf.am.kind a d i (k y s.toks s.heap (.refl _ _) z)
 ·exact wpAny_loadName_free lf.am.kind a d i (k y s.toks s.heap (.refl _ _) z) h2
theorem D6{M:Model}{A:Around}{env:Env}{E:Value→Shared→Prop}{x:Str}{v:Value}{Q:Value→Shared→Prop}(hk:env.scope.kind= .function)(hl:env.kindOf x=some .globalImplicit)
 (h:wpAny M A (loadGlobal env x) Q E s):wpAny M A (loadName env x) Q E s:=by
 unfold loadName
 simp only[Env.blockKind,hk,hl,ScopeKind.isAnnotationScope,Bool.false_and,Bool.false_eq_true,if_false]
 exact h
theorem GS{β:Type}{rel:Mp→β→Value→Prop}{Q:β→LH→Prop}{x:Str}{pos:Pos}{v:β}{y:Value}(hl:b.env.kindOf x=some .globalImplicit)
 (e:nsIn (KT b.w.params) 3 x=some (some y)∨(nsIn (KT b.w.params) 3 x=some none∧nsIn (KT b.w.params) 0 x=some (some y)))
 (hv:∀M₁:Mp,(∀a o,(KT b.w.params).lookup a=some o→M₁.P a=some o)→rel M₁ v y)(q:Q v L)(h1:(x==("__debug__":Str))=false):JE b M ρ L (eval (.Name x pos) b.env) rel Q:=by
 refine JE.still v (fun A M₁ s m Q' E l lf k=> ?_) q
 refine wpAny_Name (D6 (v:=y) lf.am.kind hl ?_) h1
 unfold loadGlobal
 rw[lf.am.glob,lf.am.blt]
 have z:=k y s.toks s.heap (.refl _ _) (hv _ fun a o h=>lf.st.kP h)
 rcases e with e|⟨e,e2⟩
 ·exact wpAny_bind ((looks_nsIn lf.st.kIn e).here (wpAny_pure z))
 ·exact wpAny_bind ((looks_nsIn lf.st.kIn e).here (wpAny_bind ((looks_nsIn lf.st.kIn e2).here (wpAny_pure z))))
theorem Su{k:Nat}{pos:Pos}(q:Q vn L):SE b M ρ L (.Constant .none k pos) Q:=JE.still vn (fun A M₁ s m Q' E l lf k=>wpAny_pure (k _ s.toks s.heap (.refl _ _) rfl)) q
theorem S0{k:Nat}{pos:Pos}{i:Bool}(q:Q (vb i) L):SE b M ρ L (.Constant (.bool i) k pos) Q:=JE.still (vb i) (fun A M₁ s m Q' E l lf k=>wpAny_pure (k _ s.toks s.heap (.refl _ _) rfl)) q
theorem WU{k:Nat}{pos:Pos}{i:Int}(q:Q (vi i) L):SE b M ρ L (.Constant (.int i) k pos) Q:=JE.still (vi i) (fun A M₁ s m Q' E l lf k zz zz zz=>k _ (s.toks+1) s.heap (.refl _ _) ⟨_,rfl⟩) q
theorem WT{k:Nat}{pos:Pos}{i:Str}(q:Q (vs i) L):SE b M ρ L (.Constant (.str i) k pos) Q:=JE.still (vs i) (fun A M₁ s m Q' E l lf k zz zz zz=>k _ (s.toks+1) s.heap (.refl _ _) ⟨_,rfl⟩) q
variable{P:PH}{w:World}
theorem PRs.length:∀{ts:List Tr}{ws:List Value},PRs w P ts ws→ts.length=ws.length
 |[],_,h=>by cases h;rfl
 |_::_,[],h=>h.elim
 |_::r,_::_,h=>congrArg (· +1) (PRs.length (ts:=r) h.2)
theorem PRs.get:∀{ts:List Tr}{ws:List Value},PRs w P ts ws→∀{i:Nat}{t:Tr},ts[i]? =some t→∃x,ws[i]? =some x∧PR w P t x
 |[],_,_,_,_,e=>nomatch e
 |_::_,[],h,_,_,_=>h.elim
 |_::_,x::_,h,0,_,e=>⟨x,rfl,by cases e;exact h.1⟩
 |_::r,_::_,h,i+1,_,e=>PRs.get (ts:=r) h.2 (i:=i) e
theorem PRs.append:∀{ts us:List Tr}{ws ys:List Value},PRs w P ts ws→PRs w P us ys→PRs w P (ts++us) (ws++ys)
 |[],_,_,_,h,k=>by cases h;exact k
 |_::_,_,[],_,h,_=>h.elim
 |_::r,_,_::_,_,h,k=>⟨h.1,PRs.append (ts:=r) h.2 k⟩
theorem PRs.reverse:∀{ts:List Tr}{ws:List Value},PRs w P ts ws→PRs w P ts.reverse ws.reverse
 |[],_,h=>by cases h;rfl
 |_::_,[],h=>h.elim
 |_::r,_::_,h=>by rw[List.reverse_cons,List.reverse_cons];exact(PRs.reverse (ts:=r) h.2).append ⟨h.1,rfl⟩
theorem PRs.set:∀{ts:List Tr}{ws:List Value},PRs w P ts ws→∀{i:Nat}{t:Tr}{x:Value},PR w P t x→PRs w P (ts.set i t) (ws.set i x)
 |[],_,h,_,_,_,_=>by cases h;rfl
 |_::_,[],h,_,_,_,_=>h.elim
 |_::_,_::_,h,0,_,_,e=>⟨e,h.2⟩
 |_::r,_::_,h,i+1,_,_,e=>⟨h.1,PRs.set (ts:=r) h.2 (i:=i) e⟩
theorem PRs.take:∀{ts:List Tr}{ws:List Value},PRs w P ts ws→∀k:Nat,PRs w P (ts.take k) (ws.take k)
 |_,_,_,0=>rfl
 |[],_,h,_+1=>by cases h;rfl
 |_::_,[],h,_+1=>h.elim
 |_::r,_::_,h,k+1=>⟨h.1,PRs.take (ts:=r) h.2 k⟩
theorem PRs.drop:∀{ts:List Tr}{ws:List Value},PRs w P ts ws→∀k:Nat,PRs w P (ts.drop k) (ws.drop k)
 |_,_,h,0=>h
 |[],_,h,_+1=>by cases h;rfl
 |_::_,[],h,_+1=>h.elim
 |_::r,_::_,h,k+1=>PRs.drop (ts:=r) h.2 k
theorem PRs.rep{t:Tr}{x:Value}(h:PR w P t x):∀k:Nat,PRs w P (List.replicate k t) (List.replicate k x)
 |0=>rfl
 |k+1=>⟨h,PRs.rep h k⟩
theorem PRs.one{t:Tr}{ws:List Value}(h:PRs w P [t] ws):∃u,ws=[u]∧PR w P t u:=by
 cases ws with
 |nil=>exact h.elim
 |cons u r=>cases h.2;exact⟨u,rfl,h.1⟩
theorem PRs.empty{ts:List Tr}{ws:List Value}(h:PRs w P ts ws):ws.toArray.isEmpty=ts.isEmpty:=by
 cases ts with
 |nil=>cases h;rfl
 |cons t r=>cases ws with
  |nil=>exact h.elim
  |cons u r=>rfl
theorem isL{h:Heap}{a:Addr}{ws:List Value}{n:Nat}(e:h.get? a=some (BP ws n)):h.IsList a ws.toArray:=⟨_,e,rfl,n,rfl⟩
noncomputable def KD(w:World)(P:PH)(h:Heap)(ts:List Tr)(x:Value):Prop:=∃a ws n,x= .ref a∧h.get? a=some (BP ws n)∧PRs w P ts ws∧ts.length≤1048576
theorem TJ{x:Tr}{ts:List Tr}(e:bf x=some ts):x= .fl ts:=by
 cases x with
 |fl us=>injection e with e;rw[e]
 |_=>exact nos e
theorem TK{x:Option TO}{ts:List Tr}(e:GL x=some ts):x=some (.list ts):=by
 cases x with
 |none=>exact nos e
 |some x=>cases x with
  |list us=>injection e with e;rw[e]
  |_=>exact nos e
theorem A5{v:V}{x:Value}{ts:List Tr}(st:Sx b A M ρ L s)(h:VR b.w M v x)(e:Bp L v=some ts):KD b.w M.P s.heap ts x:=by
 cases v with
 |t y=>
  rw[TJ e]at h
  refine hid fun Gg gg=> ?_
  obtain⟨a,ws,e1,⟨⟨n,e2⟩,e3⟩,e4⟩:=h
  refine gg ?_
  exact⟨a,ws,n,e1,st.hP _ _ e2,e4,e4.length▸e3⟩
 |ref i=>
  refine hid fun Gg gg=> ?_
  obtain⟨a,e1,e2⟩:=h
  obtain⟨c,o,f1,_,f2,ws,n,rfl,f3⟩:=st.look (TK e) (by intro xx;contradiction)
  refine gg ?_
  rw[e1]at f1;cases f1
  exact⟨a,ws,n,e2,f2,f3⟩
 |_=>exact nos e
noncomputable def YL(w:World)(P:PH)(h:Heap)(ts:List Tr)(x:Value):Prop:=∃a ws,x= .ref a∧IsTup h a ws.toArray∧PRs w P ts ws∧ts.length≤1048576
theorem ER{x:Value}{ts:List Tr}(st:Sx b A M ρ L s)(h:PR b.w M.P (.tup ts) x):YL b.w M.P s.heap ts x:=by
 refine hid fun Gg gg=> ?_
 obtain⟨a,ws,e1,⟨⟨o,n,e2,e3,e4⟩,e5⟩,e6⟩:=h
 refine gg ?_
 exact⟨a,ws,e1,⟨o,st.hP _ _ e2,e3.1,_,e4⟩,e6,e6.length▸e5⟩
theorem C7{t:Sem Value}{k:Int}(h:∀A s (Q':Value→Shared→Prop) E,(∀t tk,Q' (.int k t) {s with toks:=tk})→WP b A t Q' E s)(q:Q (vi k) L):SV b M ρ L t Q:=
 JE.still (vi k) (fun A M₁ s m Q' E l lf z=>h A s Q' E fun t tk=>z _ tk s.heap (.refl _ _) ⟨_,rfl⟩) q
theorem Cd{t:Sem Value}{k:Bool}(h:∀A M₁ s m (Q':Value→Shared→Prop) E,MLe M M₁→Lf b A M₁ ρ L s m→(∀tk,Q' (.bool k) {s with toks:=tk})→WP b A t Q' E s)(q:Q (vb k) L):SV b M ρ L t Q:=
 JE.still (vb k) (fun A M₁ s m Q' E l lf z=>h A M₁ s m Q' E l lf fun tk=>z _ tk s.heap (.refl _ _) rfl) q
theorem Jn{i:Int}{k:Nat}(h:i.natAbs<2^k):Builtin.Int.intBits i≤k:=by
 unfold Builtin.Int.intBits
 by_cases h0:i.natAbs=0
 ·rw[Int.natAbs_eq_zero.mp h0];exact Nat.zero_le _
 ·have:=(Nat.log2_lt h0).mpr h
  by_cases q:(i==0)=true
  ·rw[if_pos q];exact Nat.zero_le _
  ·rw[if_neg q];exact this
section
variable{i j:Int}{t u:Tok}{f:Tr→Prop}(z:∀x,f x→Q (.t x) L)
include z
theorem Yt:∀(op:Operator),arW op i j f→SV b M ρ L (binaryOp op (.int i t) (.int j u)) Q
 | .Add,h=>C7 (fun A s Q' E z=>add_int (z _ _)) (z _ h)
 | .Sub,h=>C7 (fun A s Q' E z=>sub_int (z _ _)) (z _ h)
 | .Mult,h=>C7 (fun A s Q' E z=>mul_int (z _ _) (h.1.elim (fun h=> .of_left (Nat.le_trans (Jn h) (by decide))) fun h=> .of_right (Nat.le_trans (Jn h) (by decide)))) (z _ h.2)
 | .FloorDiv,h=>C7 (fun A s Q' E z=>floordiv_int h.1 (z _ _) (.inl (PyProof.noPylong_of_log2 h.2.1))) (z _ h.2.2)
 | .Mod,h=>C7 (fun A s Q' E z=>mod_int' h.1 (z _ _)) (z _ h.2)
 | .Pow,h=>C7 (fun A s Q' E z=>pow_int h.1 (Int.le_trans (Int.mul_le_mul (show(Builtin.Int.intBits i:Int)≤60 from Int.ofNat_le.mpr (Jn h.2.2.1)) h.2.1 h.1 (by decide)) (by decide)) (z _ _)) (z _ h.2.2.2)
 | .LShift,h=>C7 (fun A s Q' E z=>lshift_int_small h.1 h.2.1 (Nat.lt_trans h.2.2.1 (by decide)) (z _ _)) (z _ h.2.2.2)
 | .BitXor,h=>C7 (fun A s Q' E z=>xor_int (z _ _)) (z _ h)
 | .Div,h=>h.elim
 | .RShift,h=>h.elim
 | .BitOr,h=>h.elim
 | .BitAnd,h=>h.elim
 | .MatMult,h=>h.elim
end
end
end
section
theorem AO{α:Type}{o:Option α}{k:α→Prop}(h:Ax o k):∃a,o=some a∧k a:=by
 cases o with
 |none=>exact h.elim
 |some a=>exact⟨a,rfl,h⟩
theorem BS{α:Type}{o:Option α}{k:α→Prop}(h:D3 o k):∃a,o=some a∧k a:=by
 cases o with
 |none=>exact h.elim
 |some a=>exact⟨a,rfl,h⟩
theorem Bu{t:Bool}{p:Prop}(h:tru t p):t=true∧p:=by
 cases t with
 |false=>exact h.elim
 |true=>exact⟨rfl,h⟩
theorem GV{α:Type}{l:List α}{k:α→Prop}(h:Rb l k):∃a,l=[a]∧k a:=by
 match l,h with
 |[a],h=>exact⟨a,rfl,h⟩
theorem CU{k:Tr→Prop}{v:V}(h:tW k v):∃x,v= .t x∧k x:=by
 cases v with
 |t x=>exact⟨x,rfl,h⟩
 |_=>exact h.elim
theorem CI{k:Nat→Prop}{v:V}(h:Fz k v):∃x,v= .ref x∧k x:=by
 cases v with
 |ref x=>exact⟨x,rfl,h⟩
 |_=>exact h.elim
theorem AX{k:Int→Prop}{v:V}(h:Ca k v):∃x,v=vi x∧k x:=by
 replace h:=CU h
 obtain⟨x,rfl,h⟩:=h
 cases x with
 |int x=>exact⟨x,rfl,h⟩
 |_=>exact h.elim
theorem Dy{k:Str→Prop}{v:V}(h:NL k v):∃x,v=vs x∧k x:=by
 replace h:=CU h
 obtain⟨x,rfl,h⟩:=h
 cases x with
 |str x=>exact⟨x,rfl,h⟩
 |_=>exact h.elim
theorem GQ{k:List Tr→Prop}{v:V}(h:RW k v):∃x,v= .t (.tup x)∧k x:=by
 replace h:=CU h
 obtain⟨x,rfl,h⟩:=h
 cases x with
 |tup x=>exact⟨x,rfl,h⟩
 |_=>exact h.elim
theorem KB{k:List Tr→Prop}{v:Tr}(h:flT k v):∃x,v= .fl x∧k x:=by
 cases v with
 |fl x=>exact⟨x,rfl,h⟩
 |_=>exact h.elim
section
variable{b:Bc}{A:Around}{M:Mp}{s:Shared}{ρ:Rho}{L:LH}{Q:V→LH→Prop}{x y:Value}{ts us:List Tr}
theorem sizeLine_eq:sizeLine=16777216:=by decide
theorem Cj{n:Nat}(h:n≤1048576):n≤sizeLine:=Nat.le_trans h (by decide)
theorem TR.list{M:Mp}{i n:Nat}{ws:List Value}{w:World}(h:PRs w M.P ts ws)(z:ts.length≤1048576):TR w M i (BP ws n) (.list ts):=⟨ws,n,rfl,h,z⟩
theorem SK{op:Operator}{v:V}{j:Int}(hx:VR b.w M v x)(hy:VR b.w M (vi j) y)(e:Bp L v=some ts)(h:Va op j Q L ts):SV b M ρ L (binaryOp op x y) Q:=by
 cases op with
 |Mult=>
  obtain⟨t,rfl,h0,h1,q⟩:=GV h
  refine JE.track (.list (List.replicate j.toNat t)) (fun A M₁ s m Q' E l lf z=> ?_) q
  obtain⟨a,ws,n,rfl,hl,rv,hz⟩:=A5 lf.st (VR.mono l _ hx) e
  obtain⟨u,rfl⟩:=hy
  obtain⟨u,rfl,ru⟩:=rv.one
  have gen:∀(n:Nat) (acc:Array Value),(List.foldl (fun x1 x2=>x1++x2) acc (List.replicate n [u].toArray)).toList=acc.toList++List.replicate n u:=by
   intro n
   induction n with
   |zero=>intro acc;exact(List.append_nil _).symm
   |succ n ih=>intro acc;rw[List.replicate_succ,List.foldl_cons,ih,List.replicate_succ,Array.toList_append,List.append_assoc];rfl
  exact mul_list lf.F lf.N hl (by exact l02 (Ha Z0 W0 (Ha (.z 9223372036854775808) X1 (Ga (.g X1) W0))) rfl h0 Eb) (by exact l02 (Ha W0 (.z 1000) (Ha (.z 9223372036854775808) X1 (Gd W0 X1))) rfl h1 Eb) (Nat.le_trans (Nat.mul_le_mul_left _ (show j.toNat≤1000 by exact l11 (Ha W0 (.z 1000) (He (.c W0) W0 (Gb W0 (.n 1000)))) rfl h1 (Int.toNat_of_nonneg h0))) (by decide:1*1000≤sizeLine)) fun h' F N=>z s.toks h' _ _ (lf.keep (x:=[_]) F N) (gone _ (Nat.le_refl _)) (N _ List.mem_cons_self).1
   ⟨List.replicate j.toNat u,0,congrArg (fun a=>({cls:= .type "list",data:= .seq a 0}:Obj)) (Array.toList_inj.mp (gen j.toNat #[])),PRs.rep ru _,by rw[List.length_replicate];exact(l11 (Ha W0 (.z 1000) (He (.c W0) W0 (Gb W0 Yb))) rfl h1 (Int.toNat_of_nonneg h0))⟩
 |_=>exact h.elim
theorem QK{op:Operator}{v u:V}(hx:VR b.w M v x)(hy:VR b.w M u y)(e:Bp L v=some ts)(h:X7 op u Q L ts):SV b M ρ L (binaryOp op x y) Q:=by
 cases op with
 |Add=>
  obtain⟨us,e2,hz,q⟩:=AO h
  refine JE.track (.list (ts++us)) (fun A M₁ s m Q' E l lf z=> ?_) q
  obtain⟨a,ws,n,rfl,hl,rv,hz1⟩:=A5 lf.st (VR.mono l _ hx) e
  obtain⟨a2,ws2,n2,rfl,hl2,rv2,hz2⟩:=A5 lf.st (VR.mono l _ hy) e2
  refine add_arrays lf.F lf.N (isL hl) (isL hl2) (fun h' F N=>z s.toks h' _ _ (lf.keep (x:=[_]) F N) (gone _ (Nat.le_refl _)) (N _ List.mem_cons_self).1 (by
   refine⟨ws++ws2,0, ?_,rv.append rv2,by rw[List.length_append];exact hz⟩
   simp)) (by simp only[List.size_toArray,←rv.length,←rv2.length];exact Cj hz)
 |_=>exact h.elim
theorem Me{op:Operator}{v u:V}(hx:VR b.w M v x)(hy:VR b.w M u y)(e:Bp L v=some ts)(h:YJ op Q L ts u):SV b M ρ L (binaryOp op x y) Q:=by
 cases u with
 |t z=>cases z with
  |int j=>exact SK hx hy e h
  |_=>exact QK hx hy e h
 |ref i=>exact QK hx hy e h
 |_=>exact h.elim
theorem WD{op:Operator}{v u:V}(hx:VR b.w M v x)(hy:VR b.w M u y)(h:cR op v u Q L):SV b M ρ L (binaryOp op x y) Q:=by
 cases v with
 |t v=>cases v with
  |int i=>
   replace h:=AX h
   obtain⟨j,rfl,h⟩:=h
   obtain⟨t,rfl⟩:=hx
   obtain⟨t,rfl⟩:=hy
   exact Yt (fun zz q=>q) _ h
  |str i=>
   replace h:=Dy h
   obtain⟨j,rfl,h⟩:=h
   obtain⟨t,rfl⟩:=hx
   obtain⟨t,rfl⟩:=hy
   cases op with
   |Add=>exact JE.still (vs (i++j)) (fun A M₁ s m Q' E l lf z=>add_str (fun t tk=>z _ tk s.heap (.refl _ _) ⟨_,rfl⟩) (Cj h.1)) h.2
   |_=>exact h.elim
  |fl ts=>exact Me hx hy rfl h
  |_=>exact h.elim
 |ref i=>
  replace h:=AO h
  obtain⟨ts,e,h⟩:=h
  exact Me hx hy e h
 |_=>exact h.elim
end
end
section
theorem HX(m:Nat):(List.range m).all (fun zz=>true)=true:=List.all_eq_true.mpr fun zz zz=>rfl
noncomputable abbrev Cm:=Around→Shared→Value→Value→Bool→Prop
structure NU(K:Cm):Prop where
 lists:∀{A s l m}{xs ys:Array Value}{e:Nat→Bool},s.heap.IsList l xs→s.heap.IsList m ys→xs.size=ys.size→A.units<cLine→(∀j (h1:j<xs.size) (h2:j<ys.size),SeqAt.EqAt A.in1 s xs[j] ys[j] (e j))→K A s (.ref l) (.ref m) ((List.range xs.size).all e)
 lens:∀{A s l m}{xs ys:Array Value},s.heap.IsList l xs→s.heap.IsList m ys→(xs.size !=ys.size)=true→A.units<cLine→K A s (.ref l) (.ref m) false
 tups:∀{A s l m}{xs ys:Array Value}{e:Nat→Bool},s.heap.IsTuple l xs→s.heap.IsTuple m ys→A.units<cLine→(∀j (h1:j<xs.size) (h2:j<ys.size),SeqAt.EqAt A.in1 s xs[j] ys[j] (e j))→K A s (.ref l) (.ref m) ((List.range (min xs.size ys.size)).all e&&xs.size==ys.size)
theorem keq:NU SeqAt.RcAt:=⟨SeqAt.RcAt.lists,SeqAt.RcAt.lists_lengths,SeqAt.RcAt.tuples⟩
theorem kne:NU fun A s x y r=>SeqAt.RcNeAt A s x y !r:=⟨SeqAt.RcNeAt.lists,SeqAt.RcNeAt.lists_lengths,SeqAt.RcNeAt.tuples⟩
section
variable{b:Bc}{A:Around}{M:Mp}{s:Shared}{ρ:Rho}{L:LH}{Q:V→LH→Prop}{x y:Value}{ts us:List Tr}{K:Cm}{w:World}{P:PH}{xs ys:List Value}{l m:Addr}
theorem K2:cLine=9900:=by decide
theorem D9(k:NU K)(hl:s.heap.IsList l xs.toArray)(hm:s.heap.IsList m ys.toArray)(z:xs.length=ys.length)(u:A.units<cLine)(h:∀j (h1:j<xs.toArray.size) (h2:j<ys.toArray.size),SeqAt.EqAt A.in1 s xs.toArray[j] ys.toArray[j] true):K A s (.ref l) (.ref m) true:=by
 have:=k.lists (e:=fun zz=>true) hl hm z u h
 rwa[HX]at this
theorem Ib(k:NU K)(hl:s.heap.IsTuple l xs.toArray)(hm:s.heap.IsTuple m ys.toArray)(z:xs.length=ys.length)(u:A.units<cLine)(h:∀j (h1:j<xs.toArray.size) (h2:j<ys.toArray.size),SeqAt.EqAt A.in1 s xs.toArray[j] ys.toArray[j] true):K A s (.ref l) (.ref m) true:=by
 have:=k.tups (e:=fun zz=>true) hl hm u h
 rwa[HX,show xs.toArray.size=ys.toArray.size from z,beq_self_eq_true]at this
theorem GZ{k:Nat}(ih:∀t x y,dat k t=true→PR w P t x→PR w P t y→SeqAt.EqAt A s x y true):∀{ts:List Tr}{xs ys:List Value},ts.all (dat k)=true→PRs w P ts xs→PRs w P ts ys→∀j (h1:j<xs.toArray.size) (h2:j<ys.toArray.size),SeqAt.EqAt A s xs.toArray[j] ys.toArray[j] true
 |[],_,_,_,h,_,_,h1,_=>by cases h;exact absurd h1 (Nat.not_lt_zero _)
 |_::_,[],_,_,h,_,_,_,_=>h.elim
 |_::_,_::_,[],_,_,h,_,_,_=>h.elim
 |_::_,_::_,_::_,d,h,k,0,_,_=>ih _ _ _ (by simp only[List.all_cons,Bool.and_eq_true]at d;exact d.1) h.1 k.1
 |t::r,_::_,_::_,d,h,k,j+1,h1,h2=>GZ ih (ts:=r) (by simp only[List.all_cons,Bool.and_eq_true]at d;exact d.2) h.2 k.2 j (Nat.lt_of_succ_lt_succ h1) (Nat.lt_of_succ_lt_succ h2)
theorem M8(h:l≠m→SeqAt.RcAt A s (.ref l) (.ref m) true):SeqAt.EqAt A s (.ref l) (.ref m) true:=by
 by_cases q:l=m
 ·subst q;exact .same _
 ·exact .of_refs q (h q)
theorem M7(hP:∀a o,P a=some o→s.heap.get? a=some o):∀(k:Nat){A:Around}(t:Tr) (x y:Value),dat k t=true→PR w P t x→PR w P t y→A.units+k<9900→SeqAt.EqAt A s x y true
 |0,_,_,_,_,h,_,_,_=>nomatch h
 |k+1,A,t,x,y,h,hx,hy,hu=>by
  have room:A.units<cLine:=by rw[K2];exact(l20 (.P 1 1 (Hg (.a W0 (.a X1 Y1)) (.n 9900) (Gc W0 (.n 9900)))) rfl hu)
  have ih:∀t x y,dat k t=true→PR w P t x→PR w P t y→SeqAt.EqAt A.in1 s x y true:=fun t x y d h1 h2=>M7 hP k t x y d h1 h2 (show A.units+1+k<9900 by exact l20 (Hg (.a W0 (.a X1 Y1)) (.n 9900) (Gc (.a (.a W0 Y1) X1) (.n 9900))) rfl hu)
  cases t with
  |none=>cases hx;cases hy;exact .same _
  |bool i=>cases hx;cases hy;exact .same _
  |int i=>obtain⟨t,rfl⟩:=hx;obtain⟨u,rfl⟩:=hy;have:=SeqAt.EqAt.int_int (A:=A) (s:=s) i t i u;rwa[beq_self_eq_true]at this
  |str i=>obtain⟨t,rfl⟩:=hx;obtain⟨u,rfl⟩:=hy;have:=SeqAt.EqAt.str_str (A:=A) (s:=s) i t i u;rwa[beq_self_eq_true]at this
  |tup ts=>
   refine hid fun Gg gg=> ?_
   obtain⟨a,ws,rfl,⟨⟨o,n,e2,e3,e4⟩,e5⟩,e6⟩:=hx
   obtain⟨a',ws',rfl,⟨⟨o',n',e2',e3',e4'⟩,e5'⟩,e6'⟩:=hy
   refine gg ?_
   exact M8 fun zz=>Ib keq ⟨_,hP _ _ e2,e3.1,_,e4⟩ ⟨_,hP _ _ e2',e3'.1,_,e4'⟩ (e6.length.symm.trans e6'.length) room (GZ ih h e6 e6')
  |fl ts=>
   refine hid fun Gg gg=> ?_
   obtain⟨a,ws,rfl,⟨⟨n,e2⟩,e5⟩,e6⟩:=hx
   obtain⟨a',ws',rfl,⟨⟨n',e2'⟩,e5'⟩,e6'⟩:=hy
   refine gg ?_
   exact M8 fun zz=>D9 keq (isL (hP _ _ e2)) (isL (hP _ _ e2')) (e6.length.symm.trans e6'.length) room (GZ ih h e6 e6')
  |_=>nomatch h
noncomputable def YM(ts us:List Tr)(r:Bool):Prop:=(us=[]∧r=ts.isEmpty)∨(ts=us∧ts.all (dat 6)=true∧r=true)
theorem Mm{R:Bool→Prop}(h:RX ts us R):∃r,R r∧YM ts us r:=h.elim (fun h=>⟨_,h.2, .inl ⟨h.1,rfl⟩⟩) fun h=>⟨_,h.2.2, .inr ⟨h.1,h.2.1,rfl⟩⟩
theorem Amb.room(am:Amb b A):A.units<cLine:=by rw[K2];have:=am.uni;exact(l20 (.P 1 40 (Hb (.a W0 (.m 40 X1)) (.n 9000) (Gc W0 (.n 9900)))) rfl this)
theorem Sx.same(st:Sx b A M ρ L s)(am:Amb b A)(d:ts.all (dat 6)=true)(h:PRs b.w M.P ts xs)(k:PRs b.w M.P ts ys):∀j (h1:j<xs.toArray.size) (h2:j<ys.toArray.size),SeqAt.EqAt A.in1 s xs.toArray[j] ys.toArray[j] true:=
 GZ (fun t x y d h1 h2=>M7 st.hP 6 t x y d h1 h2 (show A.units+1+6<9900 by have:=am.uni;exact(l20 (.P 1 40 (Hb (.a W0 (.m 40 X1)) (.n 9000) (Gc (.a (.a W0 Y1) (.n 6)) (.n 9900)))) rfl this))) d h k
theorem TM{r:Bool}(k:NU K)(st:Sx b A M ρ L s)(am:Amb b A)(hx:KD b.w M.P s.heap ts x)(hy:KD b.w M.P s.heap us y)(h:YM ts us r):K A s x y r:=by
 obtain⟨a,ws,n,rfl,hl,rv,hz⟩:=hx
 obtain⟨a2,ws2,n2,rfl,hl2,rv2,hz2⟩:=hy
 rcases h with⟨rfl,rfl⟩|⟨rfl,d,rfl⟩
 ·cases rv2
  cases ts with
  |nil=>cases rv;exact D9 k (isL hl) (isL hl2) rfl am.room fun j h=>absurd h (Nat.not_lt_zero _)
  |cons t r=>cases ws with
   |nil=>exact rv.elim
   |cons c d=>exact k.lens (isL hl) (isL hl2) rfl am.room
 ·exact D9 k (isL hl) (isL hl2) (rv.length.symm.trans rv2.length) am.room (st.same am d rv rv2)
theorem Vx{r:Bool}(k:NU K)(st:Sx b A M ρ L s)(am:Amb b A)(hx:YL b.w M.P s.heap ts x)(hy:YL b.w M.P s.heap us y)(h:YM ts us r):K A s x y r:=by
 obtain⟨a,ws,rfl,hl,rv,hz⟩:=hx
 obtain⟨a2,ws2,rfl,hl2,rv2,hz2⟩:=hy
 rcases h with⟨rfl,rfl⟩|⟨rfl,d,rfl⟩
 ·cases rv2
  have:=k.tups (e:=fun zz=>true) hl hl2 am.room fun j zz h=>absurd h (Nat.not_lt_zero _)
  rw[HX]at this
  cases ts with
  |nil=>cases rv;exact this
  |cons t r=>cases ws with
   |nil=>exact rv.elim
   |cons c d=>exact this
 ·exact Ib k hl hl2 (rv.length.symm.trans rv2.length) am.room (st.same am d rv rv2)
theorem bc{a c:Nat}:Nat.beq a c=(a==c):=by rw[Bool.eq_iff_iff,Nat.beq_eq,beq_iff_eq]
theorem JZ:∀{l m:List Nat},Lv l m=(l==m)
 |[],[]=>rfl
 |[],_::_=>rfl
 |_::_,[]=>rfl
 |a::l,c::m=>by
  show cond (Nat.beq a c) (Lv l m) false=(a==c&&l==m)
  rw[JZ (l:=l) (m:=m),bc]
  cases a==c<;>rfl
theorem Ev{x y:Str}:C5 x y=(x==y):=by
 unfold C5
 rw[JZ]
 cases q:x==y with
 |true=>rw[eq_of_beq q];exact beq_self_eq_true _
 |false=>exact beq_false_of_ne fun e=>ne_of_beq_false q (by cases x;cases y;exact congrArg Str.mk (Array.toList_inj.mp e))
theorem QI{op:CmpOp}{f:Bool→Bool}{v u:V}(k:NU K)(kk:∀A s x y r,K A s x y r→∀(Q':Value→Shared→Prop) E,Q' (.bool (f r)) s→WP b A (compareOp op x y) Q' E s)
 (ki:∀A s i t j u (Q':Value→Shared→Prop) E,Q' (.bool (f (i==j))) s→WP b A (compareOp op (.int i t) (.int j u)) Q' E s)(ks:∀A s i t j u (Q':Value→Shared→Prop) E,Q' (.bool (f (i==j))) s→WP b A (compareOp op (.str i t) (.str j u)) Q' E s)
 (hx:VR b.w M v x)(hy:VR b.w M u y)(h:eqW L v u fun r=>Q (vb (f r)) L):SV b M ρ L (compareOp op x y) Q:=by
 have lists:∀{v u ts us},VR b.w M v x→VR b.w M u y→Bp L v=some ts→Bp L u=some us→RX ts us (fun r=>Q (vb (f r)) L)→SV b M ρ L (compareOp op x y) Q:=fun hx hy e1 e2 h=>by
  obtain⟨r,q,h⟩:=Mm h
  exact Cd (fun A M₁ s m Q' E l lf z=>kk _ _ _ _ _ (TM k lf.st lf.am (A5 lf.st (VR.mono l _ hx) e1) (A5 lf.st (VR.mono l _ hy) e2) h) _ _ (z s.toks)) q
 cases v with
 |t v=>cases v with
  |int i=>
   obtain⟨j,rfl,h⟩:=AX h
   obtain⟨t,rfl⟩:=hx
   obtain⟨t,rfl⟩:=hy
   exact Cd (fun A M₁ s m Q' E l lf z=>ki _ _ _ _ _ _ _ _ (z s.toks)) h
  |str i=>
   obtain⟨j,rfl,h⟩:=Dy h
   obtain⟨t,rfl⟩:=hx
   obtain⟨t,rfl⟩:=hy
   exact Cd (fun A M₁ s m Q' E l lf z=>ks _ _ _ _ _ _ _ _ (z s.toks)) (Ev▸h)
  |tup ts=>
   obtain⟨us,rfl,h2⟩:=GQ h
   obtain⟨r,q,h⟩:=Mm h2
   exact Cd (fun A M₁ s m Q' E l lf z=>kk _ _ _ _ _ (Vx k lf.st lf.am (ER lf.st (PR.mono l.P _ hx)) (ER lf.st (PR.mono l.P _ hy)) h) _ _ (z s.toks)) q
  |fl ts=>
   obtain⟨us,e,h⟩:=AO h
   exact lists hx hy rfl e h
  |_=>exact h.elim
 |ref i=>
  obtain⟨ts,e1,h⟩:=AO h
  obtain⟨us,e,h⟩:=AO h
  exact lists hx hy e1 e h
 |_=>exact h.elim
theorem Ys{v u:V}(hx:VR b.w M v x)(hy:VR b.w M u y)(h:eqW L v u fun r=>Q (vb r) L):SV b M ρ L (compareOp .Eq x y) Q:=
 QI (f:=id) keq (fun A s x y r h Q' E q=>h _ _ _ _ q) (fun zz zz zz zz zz zz zz zz z=>eq_int z) (fun zz zz zz zz zz zz zz zz z=>eq_str z) hx hy h
theorem Yp{v u:V}(hx:VR b.w M v x)(hy:VR b.w M u y)(h:eqW L v u fun r=>Q (vb !r) L):SV b M ρ L (compareOp .NotEq x y) Q:=
 QI (f:=not) kne (fun A s x y r h Q' E q=>h _ _ _ _ q) (fun zz zz zz zz zz zz zz zz z=>ne_int z) (fun zz zz zz zz zz zz zz zz z=>ne_str z) hx hy h
end
end
section
theorem TU{w:World}{P:PH}:∀{ts:List Tr}{ws:List Value}{is:List Int},PRs w P ts ws→Dw ts=some is→∃tks:List Tok,tks.length=is.length∧ws=List.zipWith Value.int is tks:=by
 intro ts
 induction ts with
 |nil=>intro ws is h e;cases h;cases e;exact⟨[],rfl,rfl⟩
 |cons t r ih=>
  intro ws is h e
  cases t with
  |int i=>
   obtain⟨is',e',rfl⟩:=Option.map_eq_some_iff.mp (show(Dw r).map (i::·)=some is from e)
   cases ws with
   |nil=>exact h.elim
   |cons x ws=>
    obtain⟨⟨t,rfl⟩,h⟩:=h
    obtain⟨tks,l,rfl⟩:=ih h e'
    exact⟨t::tks,congrArg (· +1) l,rfl⟩
  |_=>exact nos e
noncomputable def isI(i:Int):Value→Bool
 | .int j _=>j==i
 |_=>false
theorem HQ(i:Int):∀(is:List Int) (tks:List Tok),tks.length=is.length→(List.zipWith Value.int is tks).any (isI i)=decide (i∈is)
 |[],_,_=>by simp
 |_::_,[],h=>nomatch h
 |j::is,t::tks,h=>by
  have:=HQ i is tks (Nat.succ.inj h)
  rw[List.zipWith_cons_cons,List.any_cons,this,show isI i (Value.int j t)=(j==i)from rfl,Bool.eq_iff_iff,Bool.or_eq_true,beq_iff_eq,decide_eq_true_eq,decide_eq_true_eq,List.mem_cons]
  exact or_congr_left eq_comm
theorem HN{A:Around}{s:Shared}(i:Int)(t:Tok)(y:Value):∀{is:List Int}{tks:List Tok},y∈List.zipWith Value.int is tks→SeqAt.EqAt A s y (.int i t) (isI i y)
 |[],_,h=>by cases h
 |_::_,[],h=>by cases h
 |j::is,u::tks,h=>by
  rw[List.zipWith_cons_cons,List.mem_cons]at h
  rcases h with rfl|h
  ·exact SeqAt.EqAt.int_int j u i t
  ·exact HN i t y h
theorem EW{kws:List (Int×Value)}{k:Int}:(valueAt kws k).isSome=decide (k∈kws.map (·.1)):=by
 unfold valueAt
 rw[Option.isSome_map]
 induction kws with
 |nil=>rfl
 |cons p r ih=>
  rw[List.find?_cons]
  by_cases e:p.1=k
  ·simp[e]
  ·have e2:¬k=p.1:=fun q=>e q.symm
   simp[e,e2,ih]
inductive JJ(w:World)(s:Shared)(ks:List Int):Value→Prop
 |list {a is tks}:s.heap.IsList a (List.zipWith Value.int is tks).toArray→tks.length=is.length→is=ks→JJ w s ks (.ref a)
 |dict {a kws}:s.heap.DictOf (intKind pw w) a kws→(a==sysModules)=false→kws.map (·.1)=ks→JJ w s ks (.ref a)
 |set {a}:s.heap.SetOf (intKind pw w) a (fun k=>decide (k∈ks)) ks.length→JJ w s ks (.ref a)
section
variable{b:Bc}{A:Around}{M:Mp}{s:Shared}{ρ:Rho}{L:LH}{Q:V→LH→Prop}{x y:Value}{ts us:List Tr}
noncomputable def Fx(w:World)(P:PH)(s:Shared)(ks:List Int)(ts:List Tr)(x:Value):Prop:=∃a kws,x= .ref a∧s.heap.DictOf (IK w) a kws∧(a==sysModules)=false∧kws.map (·.1)=ks∧PRs w P ts (kws.map (·.2))∧kws.length≤1048576
theorem Jh{h:Heap}{a:Addr}{o:Obj}{w:World}{kws:List (Int×Value)}(e:h.get? a=some o)(d:o.IsDictOf (IK w) kws):h.DictOf (IK w) a kws:=Heap.dictOf_iff.mpr ⟨o,e,d⟩
theorem Ji{ks:List Int}(st:Sx b A M ρ L s)(h:PR b.w M.P (.fd ks ts) x):Fx b.w M.P s ks ts x:=by
 refine hid fun Gg gg=> ?_
 obtain⟨a,kws,e1,⟨⟨o,e2,e3⟩,e4,e5⟩,e6,e7⟩:=h
 refine gg ?_
 exact⟨a,kws,e1,Jh (st.hP _ _ e2) e3,e4,e6,e7,e5⟩
theorem E6{i:Nat}{es:List (Int×Tr)}(st:Sx b A M ρ L s)(h:VR b.w M (.ref i) x)(e:L[i]? =some (.dict es)):Fx b.w M.P s (es.map (·.1)) (es.map (·.2)) x:=by
 refine hid fun Gg gg=> ?_
 obtain⟨a,e1,e2⟩:=h
 obtain⟨c,o,f1,p,f2,kws,f3,f4,f5,f6⟩:=st.look e (by intro xx;contradiction)
 refine gg ?_
 rw[e1]at f1;cases f1
 refine⟨a,kws,e2,Jh f2 f3,st.noMods p,f4,f5, ?_⟩
 have:=congrArg List.length f4
 rw[List.length_map,List.length_map]at this
 rw[this];exact f6
theorem DT{v:V}{es:List Int×List Tr}(st:Sx b A M ρ L s)(h:VR b.w M v x)(e:GM L v=some es):Fx b.w M.P s es.1 es.2 x:=by
 cases v with
 |t z=>cases z with
  |fd ks ts=>cases e;exact Ji st h
  |_=>exact nos e
 |ref i=>
  have e:UI L[i]? =some es:=e
  cases q:L[i]? with
  |none=>rw[q]at e;exact nos e
  |some o=>rw[q]at e;cases o with
   |dict es=>cases e;exact E6 st h q
   |_=>exact nos e
 |_=>exact nos e
theorem Kk{v:V}{ks:List Int}(st:Sx b A M ρ L s)(h:VR b.w M v x)(e:QW L v=some ks):JJ b.w s ks x:=by
 have list:∀{v ts},VR b.w M v x→Bp L v=some ts→Dw ts=some ks→JJ b.w s ks x:=fun h e1 e2=>by
  refine hid fun Gg gg=> ?_
  obtain⟨a,ws,n,rfl,hl,rv,_⟩:=A5 st h e1
  obtain⟨tks,l,rfl⟩:=TU rv e2
  refine gg ?_
  exact .list (isL hl) l rfl
 have dict:∀{ts},Fx b.w M.P s ks ts x→JJ b.w s ks x:=fun⟨a,kws,e1,e2,e3,e4,_⟩=>e1▸ .dict e2 e3 e4
 cases v with
 |t z=>cases z with
  |fl ts=>exact list h rfl e
  |fd ks ts=>cases e;exact dict (Ji st h)
  |_=>exact nos e
 |ref i=>
  have e:Un L[i]? =some ks:=e
  cases q:L[i]? with
  |none=>rw[q]at e;exact nos e
  |some o=>rw[q]at e;cases o with
   |list ts=>exact list h (show GL L[i]? =some ts by rw[q];rfl) e
   |dict es=>cases e;exact dict (E6 st h q)
   |set xs=>
    cases e
    refine hid fun Gg gg=> ?_
    obtain⟨a,e1,rfl⟩:=h
    obtain⟨c,o,f1,_,f2,pl,es,ep,rfl,hp,rfl,he⟩:=st.look q (by intro xx;contradiction)
    refine gg ?_
    rw[e1]at f1;cases f1
    exact .set (by rw[List.length_map];exact AS.setOf hp ⟨es,ep,f2,he⟩)
   |_=>exact nos e
 |_=>exact nos e
theorem Yr{v u:V}(hx:VR b.w M v x)(hy:VR b.w M u y)(h:inW L v u fun r=>Q (vb r) L):SV b M ρ L (compareOp .In x y) Q:=by
 obtain⟨i,rfl,h⟩:=AX h
 obtain⟨ks,e,q⟩:=BS h
 obtain⟨t,rfl⟩:=hx
 refine Cd (fun A M₁ s m Q' E l lf z=> ?_) q
 cases Kk lf.st (VR.mono l _ hy) e with
 |list a b c=>subst c;exact SeqAt.in_listAt (isI i) a (fun y hy=>HN _ _ y (List.mem_toArray.mp hy)) (by rw[List.any_toArray,HQ i _ _ b];exact z _)
 |dict a b c=>subst c;exact wpAny_in_of (intKind_is _ _ _ _) b a.mapOf (by rw[EW];exact z _)
 |set a=>exact wpAny_inSet_of (intKind_is _ _ _ _) rfl a (z _)
theorem O9{v u:V}(hx:VR b.w M v x)(hy:VR b.w M u y)(h:inW L v u fun r=>Q (vb !r) L):SV b M ρ L (compareOp .NotIn x y) Q:=by
 obtain⟨i,rfl,h⟩:=AX h
 obtain⟨ks,e,q⟩:=BS h
 obtain⟨t,rfl⟩:=hx
 refine Cd (fun A M₁ s m Q' E l lf z=> ?_) q
 cases Kk lf.st (VR.mono l _ hy) e with
 |list a b c=>subst c;exact SeqAt.notIn_listAt (isI i) a (fun y hy=>HN _ _ y (List.mem_toArray.mp hy)) (by rw[List.any_toArray,HQ i _ _ b];exact z _)
 |dict a b c=>subst c;exact wpAny_notIn_of (intKind_is _ _ _ _) b a.mapOf (by rw[EW];exact z _)
 |set a=>exact wpAny_notInSet_of (intKind_is _ _ _ _) rfl a (z _)
theorem Ij{v:V}(h:VR b.w M v x):(x==Value.none)=MM v:=by
 cases v with
 |t z=>cases z with
  |none=>cases h;rfl
  |bool i=>exact(show x= .bool i from h)▸rfl
  |fn i=>exact(show x= .ref i from h)▸rfl
  |_=>first|exact h.elim fun t e=>e▸rfl|exact h.elim fun a h=>h.elim fun ws h=>h.1▸rfl
 |ref i=>exact h.elim fun a h=>h.2▸rfl
 |clo us i=>cases h;rfl
 |rg i j k=>obtain⟨a,_,_,_,rfl,_⟩:=h;rfl
 |view k u=>exact h.elim fun a h=>h.elim fun b h=>h.1▸rfl
theorem QY{v u:V}{R:Bool→Prop}(h:isW v u R):u=vn∧R (MM v):=by
 obtain⟨z,rfl,h⟩:=CU h
 cases z with
 |none=>exact⟨rfl,h⟩
 |_=>exact h.elim
theorem Yq{v u:V}(hx:VR b.w M v x)(hy:VR b.w M u y)(h:isW v u fun r=>Q (vb r) L):SV b M ρ L (compareOp .Is x y) Q:=by
 obtain⟨rfl,q⟩:=QY h
 cases hy
 exact Cd (fun A M₁ s m Q' E l lf z=>is_none_gen (by rw[Ij hx];exact z _)) q
theorem PA{v u:V}(hx:VR b.w M v x)(hy:VR b.w M u y)(h:isW v u fun r=>Q (vb !r) L):SV b M ρ L (compareOp .IsNot x y) Q:=by
 obtain⟨rfl,q⟩:=QY h
 cases hy
 exact Cd (fun A M₁ s m Q' E l lf z=>isnot_none_gen (by rw[Ij hx];exact z _)) q
theorem J4{op:CmpOp}{v u:V}{f:Int→Int→Bool}(k:∀A s i t j u (Q':Value→Shared→Prop) E,Q' (.bool (f i j)) s→WP b A (compareOp op (.int i t) (.int j u)) Q' E s)
 (hx:VR b.w M v x)(hy:VR b.w M u y)(h:Ra v u fun i j=>Q (vb (f i j)) L):SV b M ρ L (compareOp op x y) Q:=by
 obtain⟨i,rfl,h⟩:=AX h
 obtain⟨j,rfl,h⟩:=AX h
 obtain⟨t,rfl⟩:=hx
 obtain⟨t,rfl⟩:=hy
 exact Cd (fun A M₁ s m Q' E l lf z=>k _ _ _ _ _ _ _ _ (z _)) h
theorem QJ{v u:V}(hx:VR b.w M v x)(hy:VR b.w M u y):∀{op:CmpOp},cI op v u (fun r=>Q (vb r) L) L→SV b M ρ L (compareOp op x y) Q
 | .Eq,h=>Ys hx hy h
 | .NotEq,h=>Yp hx hy h
 | .Is,h=>Yq hx hy h
 | .IsNot,h=>PA hx hy h
 | .In,h=>Yr hx hy h
 | .NotIn,h=>O9 hx hy h
 | .Lt,h=>J4 (f:=fun i j=>decide (i<j)) (fun zz zz zz zz zz zz zz zz z=>lt_int z) hx hy h
 | .LtE,h=>J4 (f:=fun i j=>decide (i≤j)) (fun zz zz zz zz zz zz zz zz z=>le_int z) hx hy h
 | .Gt,h=>J4 (f:=fun i j=>decide (j<i)) (fun zz zz zz zz zz zz zz zz z=>gt_int z) hx hy h
 | .GtE,h=>J4 (f:=fun i j=>decide (j≤i)) (fun zz zz zz zz zz zz zz zz z=>ge_int z) hx hy h
theorem Ia{v:V}{r:Bool}{Qb:Bool→LH→Prop}(hx:VR b.w M v x)(h:XY L v=some r)(q:Qb r L):SB b M ρ L (truthy x) Qb:=by
 refine JE.still r (fun A M₁ s m Q' E l lf z=> ?_) q
 have z':∀tk,Q' r {s with toks:=tk}:=fun tk=>z r tk s.heap (.refl _ _) rfl
 have list:∀{v ts},VR b.w M v x→Bp L v=some ts→(!ts.isEmpty)=r→WP b A (truthy x) Q' E s:=fun hx e1 e2=>by
  obtain⟨a,ws,n,rfl,hl,rv,hz⟩:=A5 lf.st (VR.mono l _ hx) e1
  exact wpAny_truthy_list (isL hl) (by rw[List.size_toArray,←rv.length];exact(l11 (Hb W0 Yb (Ha (.z 9223372036854775808) W0 (Gd (.c W0) W0))) rfl hz Eb)) (by rw[rv.empty,e2];exact z' _)
 cases v with
 |t u=>cases u with
  |none=>cases hx;cases h;exact truthy_none (z' _)
  |bool i=>cases hx;cases h;exact wpAny_truthy_bool (z' _)
  |int i=>obtain⟨t,rfl⟩:=hx;cases h;exact truthy_int (z' _)
  |tup ts=>
   cases h
   obtain⟨a,ws,rfl,hl,rv,hz⟩:=ER lf.st (PR.mono l.P _ hx)
   exact truthy_tuple hl (by rw[List.size_toArray,←rv.length];exact(l11 (Hb W0 Yb (Ha (.z 9223372036854775808) W0 (Gd (.c W0) W0))) rfl hz Eb)) (by rw[rv.empty];exact z' _)
  |fl ts=>exact list hx rfl (Option.some.inj h)
  |_=>exact nos h
 |ref i=>
  obtain⟨ts,e1,e2⟩:=Option.map_eq_some_iff.mp (show(GL L[i]?).map (!·.isEmpty)=some r from h)
  exact list hx e1 e2
 |_=>exact nos h
end
end
section
set_option tactic.hygienic true in
theorem bo{α:Type}{b:Bool}{x y:α}(h:(if b=true then some x else none)=some y):b=true∧x=y:=by
 cases b<;>cases h;exact⟨rfl,rfl⟩
theorem FP{k:Int}{n j:Nat}(h:seqIndex? k n=some j): -n≤k∧k<n∧(0≤k→k.toNat=j)∧(k<0→(k+n).toNat=j):=by
 unfold seqIndex? at h
 dsimp only at h
 by_cases c:k<0
 ·rw[if_pos c]at h
  obtain⟨d,e⟩:=bo h
  have d:=Bool.and_eq_true_iff.mp d
  exact⟨l11 (Ha Z0 (.a W0 (.c W0)) (Ga (.g (.c W0)) W0)) rfl (of_decide_eq_true d.1:0≤k+n),Int.lt_of_lt_of_le c (Int.natCast_nonneg n),fun h=>absurd c (Int.not_lt.mpr h),fun _=>e⟩
 ·rw[if_neg c]at h
  obtain⟨d,e⟩:=bo h
  have d:=Bool.and_eq_true_iff.mp d
  exact⟨Int.le_trans (Int.neg_nonpos_of_nonneg (Int.natCast_nonneg n)) (of_decide_eq_true d.1),of_decide_eq_true d.2,fun _=>e,fun h=>absurd h c⟩
theorem QZ{ts:List Tr}{k:Int}{t:Tr}(h:CW ts k=some t):∃j,seqIndex? k ts.length=some j∧ts[j]? =some t:=by
 unfold CW at h
 unfold seqIndex?
 split at h
 ·have hl:=(List.getElem?_eq_some_iff.mp h).1
  exact⟨_,by simp only[show¬k<0 by exact l01 (Ha Z0 W0 (.G .inlt 1 W0 Z0)) rfl (by assumption),if_false];rw[if_pos];simp;exact(⟨(by assumption),l21 (Hg W0 X1 (Hf (.c W0) W0 (Gd W0 (.c X1)))) rfl hl (Int.toNat_of_nonneg ((by assumption)))⟩),h⟩
 ·split at h
  ·have hl:=(List.getElem?_eq_some_iff.mp h).1
   exact⟨_,by simp only[show k<0 by exact l01 (.H .inle 1 Z0 W0 (Gd W0 Z0)) rfl (by assumption),if_true];rw[if_pos];simp;exact(⟨(by assumption),l11 (.H .inle 1 Z0 W0 (Gd (.a W0 (.c W0)) (.c W0))) rfl (by assumption)⟩),h⟩
  ·exact nos h
section
variable{b:Bc}{A:Around}{M:Mp}{s:Shared}{ρ:Rho}{L:LH}{Q:V→LH→Prop}{x y:Value}{ts us:List Tr}
theorem Ip{w:World}{P:PH}:∀{kws:List (Int×Value)}{ks:List Int}{ts:List Tr},kws.map (·.1)=ks→PRs w P ts (kws.map (·.2))→∀{k:Int}{t:Tr},ED ks ts k=some t→∃x,valueAt kws k=some x∧PR w P t x:=by
 intro kws
 induction kws with
 |nil=>intro ks ts e h k t q;cases e;exact nos q
 |cons p r ih=>
  intro ks ts e h k t q
  cases e
  cases ts with
  |nil=>cases h
  |cons u ts=>
   replace q:(if p.1=k then some u else ED (r.map (·.1)) ts k)=some t:=q
   unfold valueAt
   rw[List.find?_cons]
   by_cases c:p.1=k
   ·rw[if_pos c]at q;cases q
    exact⟨p.2,by simp[c],h.1⟩
   ·rw[if_neg c]at q
    simp only[c,decide_false]
    exact ih rfl h.2 q
theorem P3{es:List (Int×Tr)}{k:Int}:RF es k=ED (es.map (·.1)) (es.map (·.2)) k:=by
 induction es with
 |nil=>rfl
 |cons p r ih=>show(if p.1=k then _ else _)=if p.1=k then _ else _;rw[ih]
theorem OF{w:World}{P:PH}:∀{kws:List (Str×Value)}{ks:List Str}{ts:List Tr},kws.map (·.1)=ks→PRs w P ts (kws.map (·.2))→∀{k:Str}{t:Tr},Oj ks ts k=some t→∃x,valueAt kws k=some x∧PR w P t x:=by
 intro kws
 induction kws with
 |nil=>intro ks ts e h k t q;cases e;exact nos q
 |cons p r ih=>
  intro ks ts e h k t q
  cases e
  cases ts with
  |nil=>cases h
  |cons u ts=>
   replace q:cond (C5 p.1 k) (some u) (Oj (r.map (·.1)) ts k)=some t:=q
   rw[Ev]at q
   unfold valueAt
   rw[List.find?_cons]
   cases c:p.1==k with
   |true=>rw[c]at q;cases q;exact⟨p.2,by simp[eq_of_beq c],h.1⟩
   |false=>
    rw[c]at q
    simp only[ne_of_beq_false c,decide_false]
    exact ih rfl h.2 q
noncomputable def Lz(b:Bc)(A:Around)(M:Mp)(s:Shared)(x y:Value)(v:V):Prop:=∃T id,typeLookup (.type T) "__getitem__"=pure (some (.builtin id))∧s.TypeIs x T∧
 ∀(Q':Value→Shared→Prop) E,(∀z tk,VR b.w M v z→Q' z {s with toks:=tk})→WP b A (getItem x y) Q' E s
theorem K6{l:Addr}{ws:List Value}{k:Int}{t:Tok}{j:Nat}{u:Value}{v:V}(hl:s.heap.IsList l ws.toArray)(hz:ws.length≤1048576)(h:seqIndex? k ws.length=some j)(e:ws[j]? =some u)(r:VR b.w M v u):Lz b A M s (.ref l) (.int k t) v:=by
 refine hid fun Gg gg=> ?_
 obtain⟨h1,h2,h3,h4⟩:=FP h
 refine gg ?_
 refine⟨"list",_,list_getitem_lookup,hl.typeIs,fun Q' E z=> ?_⟩
 by_cases h0:k<0
 ·exact wpAny_getItem_list_neg hl h0 h1 (by exact l12 (Hb W0 Yb (Ha (.g (.c W0)) W0 (Ha (.z 9223372036854775808) X1 (Ga (.g X1) W0)))) rfl hz h1 Eb) (by rw[List.size_toArray,h4 h0,List.getElem?_toArray];exact e) (z u _ r)
 ·exact wpAny_getItem_list hl (by exact l01 (.H .inlt 1 W0 Z0 (Ga Z0 W0)) rfl h0) (by exact l12 (Hb W0 Yb (Hh W0 (.c W0) (Ha (.z 9223372036854775808) X1 (Gd W0 X1)))) rfl hz h2 Eb) (by rw[h3 (by exact l01 (.H .inlt 1 W0 Z0 (Ga Z0 W0)) rfl h0),List.getElem?_toArray];exact e) (z u _ r)
theorem CP:typeLookup (.type "dict") "__getitem__"=pure (some (.builtin "dict.__getitem__")):=PySem.slot_dict_getitem.lookup
theorem Ki{k:Int}{t:Tok}{a:Tr}(h:KD b.w M.P s.heap ts x)(e:CW ts k=some a):Lz b A M s x (.int k t) (.t a):=by
 refine hid fun Gg gg=> ?_
 obtain⟨l,ws,n,rfl,hl,rv,hz⟩:=h
 obtain⟨j,e1,e2⟩:=QZ e
 obtain⟨u,e5,e6⟩:=rv.get e2
 refine gg ?_
 rw[rv.length]at e1 hz
 exact K6 (isL hl) hz e1 e5 e6
theorem Io{k:Int}{t:Tok}{a:Tr}{ks:List Int}(h:Fx b.w M.P s ks ts x)(e:ED ks ts k=some a):Lz b A M s x (.int k t) (.t a):=by
 refine hid fun Gg gg=> ?_
 obtain⟨l,kws,rfl,hd,_,hk,hv,_⟩:=h
 obtain⟨u,e1,e2⟩:=Ip hk hv e
 refine gg ?_
 exact⟨"dict",_,CP,hd.typeIs,fun Q' E z=>wpAny_getItem_of (intKind_is _ _ _ _) hd.mapOf e1 (z _ _ e2)⟩
theorem VRs.get{w:World}:∀{vl:List V}{ws:List Value},VRs w M vl ws→∀{i:Nat}{v:V},vl[i]? =some v→∃x,ws[i]? =some x∧VR w M v x
 |[],_,_,_,_,e=>nomatch e
 |_::_,[],h,_,_,_=>h.elim
 |_::_,x::_,h,0,_,e=>⟨x,rfl,by cases e;exact h.1⟩
 |_::r,_::_,h,i+1,_,e=>VRs.get (vl:=r) h.2 (i:=i) e
theorem VRs.length{w:World}:∀{vl:List V}{ws:List Value},VRs w M vl ws→vl.length=ws.length
 |[],_,h=>by cases h;rfl
 |_::_,[],h=>h.elim
 |_::r,_::_,h=>congrArg (· +1) (VRs.length (vl:=r) h.2)
section
variable{v:V}{k:Int}
theorem PE{z:Str}{c:Nat}(hz:z.length≤1048576)(e:LB z k=some c)(hx:VR b.w M (vs z) x)(hy:VR b.w M (vi k) y):Lz b A M s x y (vs ⟨#[c]⟩):=by
 obtain⟨t,rfl⟩:=hx
 obtain⟨t,rfl⟩:=hy
 refine⟨"str",_,slot_str_getitem.lookup,typeIs_str _ _ _,fun Q' E z'=>getItem_str ?_ e (z' _ _ ⟨_,rfl⟩)⟩
 obtain⟨j,hj,_⟩:=Option.bind_eq_some_iff.mp e
 obtain⟨h1,h2,_⟩:=FP hj
 rw[decide_eq_false (by exact l12 (Hb W0 Yb (Ha (.g (.c W0)) W0 (Ha (.z 9223372036854775808) X1 (.G .inlt 1 W0 (.g X1))))) rfl hz h1 Eb),decide_eq_false (by exact l12 (Hb W0 Yb (Hh W0 (.c W0) (Ha (.z 9223372036854775808) X1 (.G .inle 1 X1 W0)))) rfl hz h2 Eb)];rfl
theorem O2{a:Tr}(st:Sx b A M ρ L s)(e:CW ts k=some a)(hx:VR b.w M (.t (.tup ts)) x)(hy:VR b.w M (vi k) y):Lz b A M s x y (.t a):=by
 refine hid fun Gg gg=> ?_
 obtain⟨t,rfl⟩:=hy
 obtain⟨l,ws,rfl,hl,rv,hz⟩:=ER st hx
 obtain⟨j,e1,e2⟩:=QZ e
 obtain⟨u,e5,e6⟩:=rv.get e2
 obtain⟨h1,h2,_⟩:=FP e1
 refine gg ?_
 exact⟨"tuple",_,slot_tuple_getitem.lookup,hl.typeIs,fun Q' E z=>getItem_tuple hl (by exact l12 (Hb W0 Yb (Ha (.g (.c W0)) W0 (Ha (.z 9223372036854775808) X1 (Ga (.g X1) W0)))) rfl hz h1 Eb) (by exact l12 (Hb W0 Yb (Hh W0 (.c W0) (Ha (.z 9223372036854775808) X1 (Gd W0 X1)))) rfl hz h2 Eb) (j:=j) (by rw[List.size_toArray,←rv.length];exact e1) (x:=u) (by rw[List.getElem?_toArray];exact e5) (z _ _ e6)⟩
theorem OJ{i j:Nat}{is:List Nat}(st:Sx b A M ρ L s)(e:L[i]? =some (.refs is))(h0:0≤k)(e2:is[k.toNat]? =some j)(hx:VR b.w M (.ref i) x)(hy:VR b.w M (vi k) y):Lz b A M s x y (.ref j):=by
 refine hid fun Gg gg=> ?_
 obtain⟨t,rfl⟩:=hy
 obtain⟨a,e1,rfl⟩:=hx
 obtain⟨c,o,f1,_,f2,ws,n,rfl,f3,hz⟩:=st.look e (by intro xx;contradiction)
 rw[e1]at f1;cases f1
 obtain⟨u,e5,e6⟩:=f3.get (i:=k.toNat) (v:= .ref j) (by rw[List.getElem?_map,e2];rfl)
 refine gg ?_
 have hl:=f3.length
 rw[List.length_map]at hl
 have hk:=(List.getElem?_eq_some_iff.mp e2).1
 refine K6 (j:=k.toNat) (isL f2) (hl▸hz) ?_ e5 e6
 unfold seqIndex?
 simp only[show¬k<0 by exact l01 (Ha Z0 W0 (.G .inlt 1 W0 Z0)) rfl h0,if_false]
 rw[if_pos];simp;exact(⟨h0,l31 (Hc W0 X1 (Hg X2 W0 (Hf (.c X2) W0 (Gd W0 (.c X1))))) rfl hl hk (Int.toNat_of_nonneg h0)⟩)
theorem TY{ks:List Str}{z:Str}{a:Tr}(st:Sx b A M ρ L s)(e:Oj ks ts z=some a)(hx:VR b.w M (.t (.fs ks ts)) x)(hy:VR b.w M (vs z) y):Lz b A M s x y (.t a):=by
 refine hid fun Gg gg=> ?_
 obtain⟨t,rfl⟩:=hy
 obtain⟨a,kws,rfl,⟨⟨o,e2,e3⟩,e4,e5⟩,e6,e7⟩:=hx
 obtain⟨u,f1,f2⟩:=OF e6 e7 e
 refine gg ?_
 have hd:s.heap.DictOf (strKind pw b.w) a kws:=Heap.dictOf_iff.mpr ⟨o,st.hP _ _ e2,e3⟩
 exact⟨"dict",_,CP,hd.typeIs,fun Q' E z=>wpAny_getItem_of (strKind_is _ _ _ _) hd.mapOf f1 (z _ _ f2)⟩
end
noncomputable abbrev NK(e i:Expr)(x y:Value):Sem Value:=getitemInPython x>>=fun c=>subscripted i c x y>>=fun r=>letTemporaryGo e x r>>=fun zz=>pure r
theorem SI{e i:Expr}{v j:V}(hns:∀o j,subscripted i false o j=operate [o,j] (getItem o j))(hx:VR b.w M v x)(hy:VR b.w M j y)(u:V)(q:Q u L)
 (it:∀A M₁ s,Sx b A M₁ ρ L s→VR b.w M₁ v x→VR b.w M₁ j y→Lz b A M₁ s x y u):SV b M ρ L (NK e i x y) Q:=by
 refine JE.still u (fun A M₁ s m Q' E l lf k=> ?_) q
 obtain⟨T,id,tl,ti,it⟩:=it A M₁ s lf.st (VR.mono l _ hx) (VR.mono l _ hy)
 refine wpAny_bind ?_
 rw[getitemInPython_of_ne ti.not_modules]
 refine wpAny_bind (wpAny_specialOf ti tl (wpAny_pure ?_))
 rw[hns]
 exact wpAny_bind (wpAny_operating (it _ _ fun z tk rz=>wpAny_bind (wpAny_letTemporaryGo (wpAny_pure (k z tk s.heap (.refl _ _) rz)))))
theorem V4{e i:Expr}{v j:V}(hns:∀o j,subscripted i false o j=operate [o,j] (getItem o j))(hx:VR b.w M v x)(hy:VR b.w M j y)(h:bp L v j fun u=>Q u L):SV b M ρ L (NK e i x y) Q:=by
 obtain⟨z,rfl,h2⟩:=CU h
 clear h
 have go:=fun v (hx:VR b.w M v x)=>SI (ρ:=ρ) (L:=L) (Q:=Q) (e:=e) hns hx hy
 clear hy
 cases z with
 |int k=>cases v with
  |t v=>cases v with
   |str z=>exact(BS h2.2).elim fun c h=>go _ hx _ h.2 fun A M₁ s st=>PE h2.1 h.1
   |fd ks ts=>exact(BS h2).elim fun c h=>go _ hx _ h.2 fun A M₁ s st hx hy=>hy.elim fun t e=>e▸Io (Ji st hx) h.1
   |tup ts=>exact(BS h2).elim fun c h=>go _ hx _ h.2 fun A M₁ s st=>O2 st h.1
   |fl ts=>exact(BS h2).elim fun c h=>go _ hx _ h.2 fun A M₁ s st hx hy=>hy.elim fun t e=>e▸Ki (A5 st hx rfl) h.1
   |_=>exact h2.elim
  |ref i=>
   have h2:br k (fun u=>Q u L) L[i]? :=h2
   cases e:L[i]? with
   |none=>rw[e]at h2;exact h2.elim
   |some o=>
    rw[e]at h2
    cases o with
    |list ts=>exact(BS h2).elim fun c h=>go _ hx _ h.2 fun A M₁ s st hx hy=>hy.elim fun t e'=>e'▸Ki (A5 st hx (show GL L[i]? =some ts by rw[e];rfl)) h.1
    |dict es=>exact(BS h2).elim fun c h=>go _ hx _ h.2 fun A M₁ s st hx hy=>hy.elim fun t e'=>e'▸Io (E6 st hx e) (P3▸h.1)
    |refs is=>
     refine(BS h2).elim fun c h=>go _ hx _ h.2 fun A M₁ s st hx hy=> ?_
     by_cases q:0≤k
     ·exact OJ st e q (by rw[←h.1,if_pos q]) hx hy
     ·exact nos ((if_neg q).symm.trans h.1)
    |_=>exact h2.elim
  |_=>exact h2.elim
 |str z=>
  obtain⟨v,rfl,h3⟩:=CU (k:=bq z fun u=>Q u L) h2
  cases v with
  |fs ks ts=>exact(BS h3).elim fun c h=>go _ hx _ h.2 fun A M₁ s st=>TY st h.1
  |_=>exact h3.elim
 |_=>exact h2.elim
end
end
section
section
variable{b:Bc}{A:Around}{M:Mp}{s:Shared}{ρ:Rho}{L:LH}{Q:V→LH→Prop}{x y:Value}{ts us:List Tr}{v u:V}
noncomputable abbrev SA(b:Bc)(M:Mp)(ρ:Rho)(L:LH)(pos:Pos)(es:List Expr)(Q:List V→LH→Prop):Prop:=JE b M ρ L (spliced (backTo pos (starEach es b.env))) (VRs b.w) Q
theorem MH{pos:Pos}{Q:List V→LH→Prop}(q:Q [] L):SA b M ρ L pos [] Q:=JE.pure (x:=[]) (fun zz zz=>rfl) q
theorem Ey{pos:Pos}{e:Expr}{es:List Expr}{Q:List V→LH→Prop}{Q1:V→LH→Prop}(hne:starEach (e::es) b.env=(false,eval e b.env)::starEach es b.env)
 (h:SE b M ρ L e Q1)(k:∀M' v L',MLe M M'→Q1 v L'→SA b M' ρ L' pos es fun vl L₂=>Q (v::vl) L₂):SA b M ρ L pos (e::es) Q:=by
 show JE _ _ _ _ (spliced (backTo pos (starEach (e::es) b.env))) _ _
 rw[hne]
 show JE _ _ _ _ (eval e b.env>>=fun v=>PySem.holding [v] (spliced (backTo pos (starEach es b.env)))>>=fun r=>pure ([v]++r)) _ _
 exact JE.bind h fun M1 x a L1 l1 vx q1=>JE.bind (JE.holding (k M1 a L1 l1 q1)) fun M2 xs vl L2 l2 vy q2=>JE.pure (x:=a::vl) (fun M3 l3=>⟨VR.mono (l2.trans l3) _ vx,VRs.mono l3 _ vy⟩) q2
theorem Ix{env:Env}{pos:Pos}{e:Expr}{es:List Expr}(h:∀a p,e≠ .Starred a p):backTo pos (starEach (e::es) env)=(false,eval e env)::backTo pos (starEach es env):=by
 cases e<;>first|exact absurd rfl (h _ _)|rfl
theorem ML{env:Env}{pos:Pos}:∀(es:List Expr),(∀e∈es,∀a p,e≠ .Starred a p)→(backTo pos (starEach es env)).any (·.1)=false
 |[],_=>rfl
 |e::es,h=>by rw[Ix (h e List.mem_cons_self)];exact ML es fun e' he=>h e' (List.mem_cons_of_mem _ he)
noncomputable def Cq(b:Bc)(P:PH)(f:Value):Prop:=∀h:Heap,(∀c o,P c=some o→h.get? c=some o)→∃k,(k=Keeper.frame∨k=Keeper.machine∨k=Keeper.boundFrame)∧Looks (model pw_nn0409_01 b.w) h (keeperOf f) k
theorem BY{pos:Pos}{f:Value}{first:List Value}{es:List Expr}{Q1:List V→LH→Prop}(hst:∀e∈es,∀a p,e≠ .Starred a p)(hk:Cq b M.P f)(h:SA b M ρ L pos es Q1)
 (k:∀M' vl xs L',MLe M M'→VRs b.w M' vl xs→Q1 vl L'→SV b M' ρ L' (call f (first++xs)) Q):SV b M ρ L (callWith pos f first (backTo pos (starEach es b.env)) []) Q:=by
 intro A M₁ s E l am st ex
 refine callWith_of (P:=fun h=>∀c o,M.P c=some o→h.get? c=some o) (by rw[ML es hst];rfl) hk ?_
 have key:WP b A (spliced (backTo pos (starEach es b.env))) (fun xs s₁=>(∀c o,M.P c=some o→s₁.heap.get? c=some o)∧WP b A (call f (first++xs) []) (Pse b A M₁ s ρ (VR b.w) Q) E s₁) E s:=
  wpAny_mono (h A M₁ s E l am st ex) (fun xs s₁ p=>p.use fun M' vl L' g st' r q=>⟨fun c o hc=>st'.hP _ _ (g.le.P _ _ (l.P _ _ hc)),
   wpAny_mono (k M' vl xs L' (l.trans g.le) r q A M' s₁ E (.refl _) am st' (ex.weak g)) (fun zz zz p=>p.after g) fun zz zz e=>e⟩) fun zz zz e=>e
 cases es with
 |nil=>
  unfold evalArgs
  exact wpAny_bind (wpAny_mono key (fun vs s' h'=>wpAny_holding (wpAny_bind (wpAny_pure (wpAny_bind (wpAny_pure (wpAny_pure h')))))) fun zz zz x=>x)
 |cons e es=>
  rw[Ix (hst e List.mem_cons_self)]at key⊢
  exact evalArgs_plain key
theorem MY:∀{vl:List V}{ws:List Value}{ts:List Tr},VRs b.w M vl ws→IC vl=some ts→PRs b.w M.P ts ws:=by
 intro vl
 induction vl with
 |nil=>intro ws ts h e;cases e;exact h
 |cons v r ih=>
  intro ws ts h e
  obtain⟨t,e1,e2⟩:=Option.bind_eq_some_iff.mp (show((tOf v).bind fun x=>(IC r).map (x::·))=some ts from e)
  obtain⟨r',e3,rfl⟩:=Option.map_eq_some_iff.mp e2
  cases v with
  |t z=>cases e1;cases ws with
   |nil=>exact h.elim
   |cons x ws=>exact⟨h.1,ih h.2 e3⟩
  |_=>exact nos e1
theorem S6:∀{vl:List V}{is:List Nat},RY vl=some is→vl=is.map .ref:=by
 intro vl
 induction vl with
 |nil=>intro is e;cases e;rfl
 |cons v r ih=>
  intro is e
  obtain⟨t,e1,e2⟩:=Option.bind_eq_some_iff.mp (show((rOf v).bind fun x=>(RY r).map (x::·))=some is from e)
  obtain⟨r',e3,rfl⟩:=Option.map_eq_some_iff.mp e2
  cases v with
  |ref z=>cases e1;rw[ih e3];rfl
  |_=>exact nos e1
theorem ES{h:Heap}{o:Obj}(hf:o.isFreed=false):DE b.env.locals h (h.push o)∧h.get? h.objs.size=none∧(h.push o).get? h.objs.size=some o:=⟨.of fun zz zz e=>Heap.get?_push_of_some _ e,gone _ (Nat.le_refl _),Heap.get?_push_size _ hf⟩
theorem Sv{es:List Expr}{pos:Pos}{Q1:List V→LH→Prop}(h:SA b M ρ L pos es Q1)(k:∀vl L',Q1 vl L'→Ax (IC vl) fun ts=>tru (Nat.ble ts.length 1048576) (B7 (.list ts) Q L')):SE b M ρ L (.List es pos) Q:=by
 show JE _ _ _ _ (eval (.List es pos) b.env) _ _
 rw[arm_eval_List]
 refine JE.stand (JE.bind h fun M1 xs vl L1 l1 vx q1=> ?_)
 obtain⟨ts,e,q⟩:=AO (k _ _ q1)
 obtain⟨hz,q⟩:=Bu q
 have hz:=Nat.le_of_ble_eq_true hz
 refine JE.track (.list ts) (fun A M₁ s m Q' E l lf k=> ?_) q
 have rv:=PRs.mono l.P _ (MY vx e)
 have n:=ES (b:=b) (h:=s.heap) (o:=BP xs 0) rfl
 exact wpAny_newList (k s.toks _ _ _ n.1 n.2.1 n.2.2 (.list rv hz)) (Cj (rv.length▸hz))
theorem Ss{es:List Expr}{pos:Pos}{Q1:List V→LH→Prop}(h:SA b M ρ L pos es Q1)(k:∀vl L',Q1 vl L'→Ax (RY vl) fun is=>tru (Nat.ble is.length 1048576) (B7 (.refs is) Q L')):SE b M ρ L (.List es pos) Q:=by
 show JE _ _ _ _ (eval (.List es pos) b.env) _ _
 rw[arm_eval_List]
 refine JE.stand (JE.bind h fun M1 xs vl L1 l1 vx q1=> ?_)
 obtain⟨is,e,q⟩:=AO (k _ _ q1)
 obtain⟨hz,q⟩:=Bu q
 have hz:=Nat.le_of_ble_eq_true hz
 refine JE.track (.refs is) (fun A M₁ s m Q' E l lf k=> ?_) q
 have rv:=VRs.mono l _ (S6 e▸vx)
 have hl:=rv.length
 rw[List.length_map]at hl
 have n:=ES (b:=b) (h:=s.heap) (o:=BP xs 0) rfl
 exact wpAny_newList (k s.toks _ _ _ n.1 n.2.1 n.2.2 ⟨xs,0,rfl,VRs.mono (.snoc _ _) _ rv,hz⟩) (Cj (hl▸hz))
theorem PY{es:List Expr}{c:Nat}{pos:Pos}{Q1:List V→LH→Prop}(h:SA b M ρ L pos es Q1)(k:∀vl L',Q1 vl L'→Ax (IC vl) fun ts=>tru (Nat.ble ts.length 1048576) (Q (.t (.tup ts)) L')):SE b M ρ L (.Tuple es c pos) Q:=by
 show JE _ _ _ _ (eval (.Tuple es c pos) b.env) _ _
 rw[arm_eval_Tuple]
 refine JE.stand (JE.bind h fun M1 xs vl L1 l1 vx q1=> ?_)
 obtain⟨ts,e,q⟩:=AO (k _ _ q1)
 obtain⟨hz,q⟩:=Bu q
 have hz:=Nat.le_of_ble_eq_true hz
 refine JE.make (.t (.tup ts)) (fun A M₁ s m Q' E l lf k=> ?_) q
 have rv:=PRs.mono l.P _ (MY vx e)
 have n:=ES (b:=b) (h:=s.heap) (o:={cls:= .type "tuple",data:= .seq xs.toArray 0}) rfl
 exact wpAny_newTuple (k _ s.toks _ _ _ n.1 n.2.1 n.2.2 fun le=>⟨_,xs,rfl,⟨⟨_,0,BL,⟨rfl,rfl⟩,rfl⟩,rv.length▸hz⟩,PRs.mono le.P _ rv⟩) (Cj (rv.length▸hz))
theorem WA(hx:VR b.w M v x)(h:bg L (fun k=>Q (vi k) L) v):SV b M ρ L (call (.builtin "len") [x]) Q:=by
 have go:∀(k:Nat),Q (vi k) L→(∀A M₁ s (Q':Value→Shared→Prop) E,MLe M M₁→Sx b A M₁ ρ L s→(∀t tk,Q' (.int k t) {s with toks:=tk})→WP b A (call (.builtin "len") [x]) Q' E s)→SV b M ρ L (call (.builtin "len") [x]) Q:=fun k q h=>
  JE.still (vi k) (fun A M₁ s m Q' E l lf z=>h A M₁ s Q' E l lf.st fun t tk=>z _ tk s.heap (.refl _ _) ⟨_,rfl⟩) q
 have list:∀{v ts},VR b.w M v x→Bp L v=some ts→Q (vi ts.length) L→SV b M ρ L (call (.builtin "len") [x]) Q:=fun{v ts} hx e q=>go ts.length q fun A M₁ s Q' E l st z=>by
  refine hid fun Gg gg=> ?_
  obtain⟨a,ws,n,rfl,hl,rv,hz⟩:=A5 st (VR.mono l _ hx) e
  refine gg ?_
  have:=call_len_list (prog:=pw_nn0409_01) (w:=b.w) (A:=A) (E:=E) (Q:=Q') (isL hl) (by rw[List.size_toArray,←rv.length];exact(l11 (Hb W0 Yb (Ha (.z 9223372036854775808) W0 (Gd (.c W0) W0))) rfl hz Eb))
  rw[List.size_toArray,←rv.length]at this
  exact this (z _ _)
 cases v with
 |t u=>cases u with
  |str w=>obtain⟨t,rfl⟩:=hx;exact go _ h.2 fun A M₁ s Q' E l st z=>len_str (by have:=h.1;exact(l11 (Hb W0 Yb (Ha (.z 9223372036854775808) W0 (.G .inle 1 W0 (.c W0)))) rfl this Eb)) (z _ _)
  |tup ts=>
   exact go _ h fun A M₁ s Q' E l st z=>by
    refine hid fun Gg gg=> ?_
    obtain⟨a,ws,rfl,hl,rv,hz⟩:=ER st (PR.mono l.P _ hx)
    refine gg ?_
    have:=len_tuple (prog:=pw_nn0409_01) (w:=b.w) (A:=A) (E:=E) (Q:=Q') hl (by rw[List.size_toArray,←rv.length];exact(l11 (Hb W0 Yb (Ha (.z 9223372036854775808) W0 (Gd (.c W0) W0))) rfl hz Eb))
    rw[List.size_toArray,←rv.length]at this
    exact this (z _ _)
  |fl ts=>exact list hx rfl h
  |_=>exact h.elim
 |ref i=>
  have h:bh (fun k=>Q (vi k) L) L[i]? :=h
  cases e:L[i]? with
  |none=>rw[e]at h;exact h.elim
  |some o=>rw[e]at h;cases o with
   |list ts=>exact list hx (show GL L[i]? =some ts by rw[e];rfl) h
   |dict es=>
    exact go _ h fun A M₁ s Q' E l st z=>by
     refine hid fun Gg gg=> ?_
     obtain⟨a,kws,rfl,hd,hm,hk,_,hz⟩:=E6 st (VR.mono l _ hx) e
     refine gg ?_
     have:=call_len_dict (prog:=pw_nn0409_01) (w:=b.w) (A:=A) (E:=E) (Q:=Q') hm hd (by exact l11 (Hb W0 Yb (Ha (.z 9223372036854775808) W0 (Gd (.c W0) W0))) rfl hz Eb)
     rw[show kws.length=es.length by have:=congrArg List.length hk;simpa using this]at this
     exact this (z _ _)
   |_=>exact h.elim
 |_=>exact h.elim
theorem V9{i j:Int}(hx:VR b.w M (vi i) x)(hy:VR b.w M (vi j) y)(q:Q (vi (if j>i then j else i)) L):SV b M ρ L (call (.builtin "max") [x,y]) Q:=by
 obtain⟨t,rfl⟩:=hx
 obtain⟨t,rfl⟩:=hy
 exact JE.still (vi (if j>i then j else i)) (fun A M₁ s m Q' E l lf z=>max_two_N lf.am.hand lf.F lf.N fun h' tk F N=>z _ tk h' (lf.keep (x:=[]) F N) ⟨_,rfl⟩) q
theorem V8{i j:Int}(hx:VR b.w M (vi i) x)(hy:VR b.w M (vi j) y)(q:Q (vi (if j<i then j else i)) L):SV b M ρ L (call (.builtin "min") [x,y]) Q:=by
 obtain⟨t,rfl⟩:=hx
 obtain⟨t,rfl⟩:=hy
 exact JE.still (vi (if j<i then j else i)) (fun A M₁ s m Q' E l lf z=>min_two_N lf.am.hand lf.F lf.N fun h' tk F N=>z _ tk h' (lf.keep (x:=[]) F N) ⟨_,rfl⟩) q
theorem V5{i:Int}(hx:VR b.w M (vi i) x)(hb:i.natAbs<2^60)(q:Q (vs (toString i)) L):SV b M ρ L (call (.type "str") [x]) Q:=by
 obtain⟨t,rfl⟩:=hx
 refine JE.still (vs (toString i)) (fun A M₁ s m Q' E l lf z=>PySem.P.str_of_int ?_ (z _ _ s.heap (.refl _ _) ⟨_,rfl⟩)) q
 by_cases h0:i.natAbs=0
 ·rw[h0];decide
 ·exact Nat.lt_of_lt_of_le ((Nat.log2_lt h0).mpr hb) (by decide)
theorem R8{u:Str}(hx:VR b.w M (vs u) x)(h1:u.length=1)(q:Q (vi (u.cps.getD 0 0:Nat)) L):SV b M ρ L (call (.builtin "ord") [x]) Q:=by
 obtain⟨t,rfl⟩:=hx
 exact JE.still (vi (u.cps.getD 0 0:Nat)) (fun A M₁ s m Q' E l lf z=>ord_of_one h1 (z _ _ s.heap (.refl _ _) ⟨_,rfl⟩)) q
theorem SD(hx:VR b.w M v x)(h:Ub L v=some ts)(q:B7 (.list ts) Q L):SV b M ρ L (call (.type "list") [x]) Q:=by
 refine JE.track (.list ts) (fun A M₁ s m Q' E l lf z=> ?_) q
 have rx:=VR.mono l _ hx
 have list:Bp L v=some ts→WP b A (call (.type "list") [x]) Q' E s:=fun e=>by
  refine hid fun Gg gg=> ?_
  obtain⟨a,ws,n,rfl,hl,rv,hz⟩:=A5 lf.st rx e
  refine gg ?_
  exact call_list_seq (hsz:=by rw[List.size_toArray,←rv.length];exact Cj hz) a (.inl rfl) hl rfl rfl fun h' c' hk hD=>z s.toks h' _ _ (.of hk) (gone _ (Nat.le_refl _)) hD (.list rv hz)
 cases v with
 |t u=>cases u with
  |tup us=>
   cases h
   refine hid fun Gg gg=> ?_
   obtain⟨a,ws,rfl,hl,rv,hz⟩:=ER lf.st rx
   obtain⟨o,ho,hc,n,hd⟩:=hl
   refine gg ?_
   exact call_list_seq (hsz:=by rw[List.size_toArray,←rv.length];exact Cj hz) a (.inr rfl) ho hc hd fun h' c' hk hD=>z s.toks h' _ _ (.of hk) (gone _ (Nat.le_refl _)) hD (.list rv hz)
  |fl us=>exact list h
  |_=>exact nos h
 |ref i=>exact list h
 |_=>exact nos h
theorem O7(hx:VR b.w M v x)(h:Bp L v=some ts)(q:Q (.t (.tup ts)) L):SV b M ρ L (call (.type "tuple") [x]) Q:=by
 refine JE.make (.t (.tup ts)) (fun A M₁ s m Q' E l lf z=> ?_) q
 refine hid fun Gg gg=> ?_
 obtain⟨a,ws,n,rfl,hl,rv,hz⟩:=A5 lf.st (VR.mono l _ hx) h
 refine gg ?_
 refine call_tuple_list (isL hl) (fun h' k=> ?_) (by rw[List.size_toArray,←rv.length];exact Cj hz)
 have le:s.heap.get? h'.objs.size=none:=Kt fun o e=>absurd (Heap.lt_size (k _ _ e)) (Nat.lt_irrefl _)
 exact z _ s.toks _ h'.objs.size _ (.of fun c o e=>Heap.get?_push_of_some _ (k c o e)) le (Heap.get?_push_size _ rfl) fun le=>⟨_,ws,rfl,⟨⟨_,0,BL,⟨rfl,rfl⟩,rfl⟩,rv.length▸hz⟩,PRs.mono le.P _ rv⟩
end
end
section
noncomputable def Ho:List Nat→List V→Nat→Option V
 |[],_,_=>none
 |k::ks,l,x=>match l with
  |[]=>none
  |v::vl=>bif Nat.beq k x then some v else Ho ks vl x
theorem Jf:∀{ks:List Nat}{ts:List Tr}{k:Nat},(Oo ks ts k).map V.t=Ho ks (ts.map .t) k
 |[],_,_=>rfl
 |_::_,[],_=>rfl
 |c::ks,t::ts,k=>by
  show(cond (Nat.beq c k) (some t) (Oo ks ts k)).map V.t=cond (Nat.beq c k) (some (.t t)) (Ho ks (ts.map .t) k)
  rw[←Jf];cases Nat.beq c k<;>rfl
theorem JT:∀{fs:List (Nat×V)}{k:Nat},AW fs k=Ho (fs.map (·.1)) (fs.map (·.2)) k
 |[],_=>rfl
 |p::fs,k=>by
  show cond (Nat.beq p.1 k) _ (AW fs k)=cond (Nat.beq p.1 k) _ _
  rw[JT]
theorem PRs.vals{w:World}{M:Mp}:∀{ts:List Tr}{ws:List Value},PRs w M.P ts ws→VRs w M (ts.map .t) ws
 |[],_,h=>h
 |_::_,[],h=>h
 |_::r,_::_,h=>⟨h.1,PRs.vals (ts:=r) h.2⟩
section
variable{b:Bc}{A:Around}{M:Mp}{s:Shared}{ρ:Rho}{L:LH}{Q:V→LH→Prop}{x y:Value}{ts us:List Tr}{v u:V}{w:World}{ks:List Nat}{vl:List V}{es:List DictEntry}{name:Str}{C:Addr}
theorem HP{k name:Str}{t:Tok}:(Value.str k t).isStr name=(k==name):=rfl
theorem Hn{x y:Str}(hx:okS x=true)(hy:okS y=true):Nat.beq (cd x) (cd y)=(x==y):=by
 rw[bc,Bool.eq_iff_iff,beq_iff_eq,beq_iff_eq]
 exact⟨Dx hx hy,fun e=>e▸rfl⟩
theorem KS.find(ok:okS name=true):∀{ks:List Nat}{vl:List V}{es:List DictEntry},KS w ks es→VRs w M vl (es.map (·.val))→∀{v:V},Ho ks vl (cd name)=some v→∃en,es.find? (·.key.isStr name)=some en∧VR w M v en.val
 |[],_,_,_,_,_,e=>nomatch e
 |_::_,_,[],h,_,_,_=>h.elim
 |_::_,[],_::_,_,h,_,_=>nomatch h
 |k::ks,u::vl,en::es,h,r,v,e=>by
  obtain⟨⟨z,t,x,o,rfl,rfl⟩,h⟩:=h
  have e:cond (Nat.beq (cd z) (cd name)) (some u) (Ho ks vl (cd name))=some v:=e
  rw[Hn o ok]at e
  rw[List.find?_cons]
  dsimp only
  rw[HP]
  cases q:z==name with
  |true=>rw[q]at e;cases e;exact⟨_,rfl,r.1⟩
  |false=>rw[q]at e;exact KS.find ok h r.2 e
theorem KS.noRef:∀{ks:List Nat}{es:List DictEntry},KS w ks es→es.any (·.refKey)=false
 |[],_,h=>by cases h;rfl
 |_::_,[],h=>h.elim
 |_::ks,_::es,⟨⟨z,t,x,o,_,e⟩,h⟩=>by subst e;show es.any _=false;exact KS.noRef h
theorem KS.miss(ok:okS name=true):∀{ks:List Nat}{vl:List V}{es:List DictEntry},KS w ks es→VRs w M vl (es.map (·.val))→Ho ks vl (cd name)=none→es.find? (·.key.isStr name)=none
 |[],_,_,h,_,_=>by cases h;rfl
 |_::_,_,[],h,_,_=>h.elim
 |_::_,[],_::_,_,h,_=>nomatch h
 |k::ks,u::vl,en::es,h,r,e=>by
  obtain⟨⟨z,t,x,o,rfl,rfl⟩,h⟩:=h
  have e:cond (Nat.beq (cd z) (cd name)) (some u) (Ho ks vl (cd name))=none:=e
  rw[Hn o ok]at e
  rw[List.find?_cons]
  dsimp only
  rw[HP]
  cases q:z==name with
  |true=>rw[q]at e;cases e
  |false=>rw[q]at e;exact KS.miss ok h r.2 e
theorem KS.length:∀{ks:List Nat}{es:List DictEntry},KS w ks es→ks.length=es.length
 |[],_,h=>by cases h;rfl
 |_::_,[],h=>h.elim
 |_::ks,_::es,h=>congrArg (· +1) (KS.length (ks:=ks) h.2)
theorem KS.put{tk:Tok}(ok:okS name=true)(hv:VR w M v x):∀{fs:List (Nat×V)}{es:List DictEntry},KS w (fs.map (·.1)) es→VRs w M (fs.map (·.2)) (es.map (·.val))→
 KS w ((Bk fs (cd name) v).map (·.1)) (putL name (PyData.keyHash w.params name) (.str name tk) x es)∧VRs w M ((Bk fs (cd name) v).map (·.2)) ((putL name (PyData.keyHash w.params name) (.str name tk) x es).map (·.val))
 |[],_,h,_=>by cases h;exact⟨⟨⟨name,tk,x,ok,rfl,rfl⟩,rfl⟩,hv,rfl⟩
 |_::_,[],h,_=>h.elim
 |(c,u)::fs,en::es,h,r=>by
  refine hid fun Gg gg=> ?_
  obtain⟨⟨z,t,y,o,rfl,rfl⟩,h⟩:=h
  refine gg ?_
  have ih:=KS.put ok hv h r.2 (tk:=tk)
  unfold Bk putL
  dsimp only
  rw[HP,Hn o ok]
  cases q:z==name with
  |true=>exact⟨⟨⟨z,t,x,o,rfl,rfl⟩,h⟩,hv,r.2⟩
  |false=>exact⟨⟨⟨z,t,y,o,rfl,rfl⟩,ih.1⟩,r.1,ih.2⟩
theorem HJ:∀{fs:List (Nat×V)}{k:Nat},(Bk fs k v).length≤fs.length+1
 |[],_=>Nat.le_refl _
 |p::fs,k=>by
  unfold Bk
  cases Nat.beq p.1 k
  ·exact Nat.succ_le_succ HJ
  ·exact Nat.le_succ _
noncomputable def JK(w:World)(M:Mp)(h:Heap)(C:Addr)(ks:List Nat)(vl:List V)(x:Value):Prop:=∃l dx es k,x= .ref l∧h.get? l=some (instObj C dx)∧h.get? dx=some (FJ es k)∧KS w ks es∧VRs w M vl (es.map (·.val))
theorem Kq(st:Sx b A M ρ L s)(h:PR b.w M.P (.fi C ks ts) x):JK b.w M s.heap C ks (ts.map .t) x:=by
 refine hid fun Gg gg=> ?_
 obtain⟨a,ws,e1,⟨dx,es,n,e2,e3,e4,rfl⟩,e5⟩:=h
 refine gg ?_
 exact⟨a,dx,es,n,e1,st.hP _ _ e2,st.hP _ _ e3,e4,e5.vals⟩
theorem Kr{i:Nat}{fs:List (Nat×V)}(st:Sx b A M ρ L s)(h:VR b.w M (.ref i) x)(e1:L[i]? =some (.inst C))(e2:L[i+1]? =some (.flds fs)):JK b.w M s.heap C (fs.map (·.1)) (fs.map (·.2)) x:=by
 refine hid fun Gg gg=> ?_
 obtain⟨a,f1,f2⟩:=h
 obtain⟨a',o,g1,_,g2,dx,g3,rfl⟩:=st.look e1 (by intro xx;contradiction)
 obtain⟨dx',o,h1,_,h2,es,n,rfl,h3,h4,_⟩:=st.look e2 (by intro xx;contradiction)
 refine gg ?_
 rw[f1]at g1;cases g1
 rw[g3]at h1;cases h1
 exact⟨a,dx,es,n,f2,g2,h2,h3,h4⟩
noncomputable def Je(K:Frag)(C:Addr)(name:Str):Bool:=
 okS name&&findIn K (.ref C) "__getattribute__"==some (some (.builtin "object.__getattribute__"))&&hasDictIn K C&&findIn K (.ref C) name==some none&&
  findIn K (.ref C) "__setattr__"==some (some (.builtin "object.__setattr__"))&&plainOver K C&&takerIn K C name==some none
structure Gq(K:Frag)(C:Addr)(name:Str):Prop where
 ok:okS name=true
 get:findIn K (.ref C) "__getattribute__"=some (some (.builtin "object.__getattribute__"))
 dic:hasDictIn K C=true
 own:findIn K (.ref C) name=some none
 set:findIn K (.ref C) "__setattr__"=some (some (.builtin "object.__setattr__"))
 ovr:plainOver K C=true
 tak:takerIn K C name=some none
theorem Lo{K:Frag}(h:Je K C name=true):Gq K C name:=by
 simp only[Je,Bool.and_eq_true,beq_iff_eq]at h
 obtain⟨⟨⟨⟨⟨⟨h1,h2⟩,h3⟩,h4⟩,h5⟩,h6⟩,h7⟩:=h
 exact⟨h1,h2,h3,h4,h5,h6,h7⟩
theorem OS(h:VR w M v x)(n:∀k u,v≠ .view k u):handedIn x=true:=by
 cases v with
 |t z=>cases z with
  |none=>exact(show x= .none from h)▸rfl
  |bool i=>exact(show x= .bool i from h)▸rfl
  |fn i=>exact(show x= .ref i from h)▸rfl
  |_=>first|exact h.elim fun t e=>e▸rfl|exact h.elim fun a h=>h.elim fun ws h=>h.1▸rfl
 |ref i=>exact h.elim fun a h=>h.2▸rfl
 |clo us i=>cases h;rfl
 |rg i j k=>obtain⟨a,_,_,_,rfl,_⟩:=h;rfl
 |view k u=>exact h.elim fun a h=>h.elim fun b h=>h.1▸rfl
theorem Mf{expr:Bool}(hi:∀A M₁ s,Sx b A M₁ ρ L s→VR b.w M₁ u x→JK b.w M₁ s.heap C ks vl x)(hx:VR b.w M u x)(hn:Gq (KT b.w.params) C name)(hv:Ho ks vl (cd name)=some v)(q:Q v L):SV b M ρ L (getAttr x name expr) Q:=by
 refine JE.still v (fun A M₁ s m Q' E l lf z=> ?_) q
 refine hid fun Gg gg=> ?_
 obtain⟨i,dx,es,k,rfl,e1,e2,kk,rr⟩:=hi A M₁ s lf.st (VR.mono l _ hx)
 obtain⟨en,e3,e4⟩:=kk.find hn.ok rr hv
 refine gg ?_
 have hh:handedIn en.val=true:=by
  cases v with
  |view k u=>obtain⟨a,d,e,_⟩:=e4;rw[e];rfl
  |_=>exact OS e4 nofun
 exact get_value lf.st.kIn ⟨e1,rfl,rfl,e2⟩ hn.get (findObj_own hn.dic hn.own rfl (by show getL name es=_;unfold getL;rw[e3])) hh (z _ _ s.heap (.refl _ _) e4)
theorem K5{n:Nat}{R:V→Prop}(h:Nj L n R v):∃C ks vl u,Fv C n=true∧Ho ks vl n=some u∧R u∧∀{b:Bc}{ρ:Rho} A M s x,Sx b A M ρ L s→VR b.w M v x→JK b.w M s.heap C ks vl x:=by
 cases v with
 |t z=>cases z with
  |fi C ks ts=>
   refine hid fun Gg gg=> ?_
   obtain⟨e1,h⟩:=Bu h
   obtain⟨u,e2,q⟩:=AO h
   refine gg ?_
   exact⟨C,ks,_,u,e1,Jf▸e2,q,fun A M s x st hx=>Kq st hx⟩
  |_=>exact h.elim
 |ref i=>
  have h:RS L i n R L[i]? :=h
  cases e:L[i]? with
  |none=>rw[e]at h;exact h.elim
  |some o=>rw[e]at h;cases o with
   |inst C=>
    have h:Vj C n R L[i+1]? :=h
    cases e':L[i+1]? with
    |none=>rw[e']at h;exact h.elim
    |some o=>rw[e']at h;cases o with
     |flds fs=>
      refine hid fun Gg gg=> ?_
      obtain⟨e1,h⟩:=Bu h
      obtain⟨u,e2,q⟩:=AO h
      refine gg ?_
      exact⟨C,_,_,u,e1,JT▸e2,q,fun A M s x st hx=>Kr st hx e e'⟩
     |_=>exact h.elim
   |_=>exact h.elim
 |_=>exact h.elim
end
end
section
section
variable{b:Bc}{A:Around}{M:Mp}{s:Shared}{ρ:Rho}{L:LH}{Q:V→LH→Prop}{x y:Value}{ts us:List Tr}{v u:V}{w:World}{name:Str}{C:Addr}
noncomputable abbrev FB:Mp→Unit→Unit→Prop:=fun zz zz zz=>True
noncomputable abbrev JU(b:Bc)(M:Mp)(ρ:Rho)(L:LH)(t:Sem Unit)(Q:LH→Prop):Prop:=JE b M ρ L t FB fun zz=>Q
theorem NI{n i:Nat}{R:LH→Prop}:∀{o:Option TO},Rh n v R i L o→∃C fs,o=some (.inst C)∧L[i+1]? =some (.flds fs)∧Fv C n=true∧fs.length<1000∧R (L.set (i+1) (.flds (Bk fs n v))):=by
 intro o h
 have two:∀{C:Addr}{o:Option TO},bQ n v R i L C o→∃fs,o=some (.flds fs)∧Fv C n=true∧fs.length<1000∧R (L.set (i+1) (.flds (Bk fs n v))):=fun{C o} h=>by
  cases o with
  |none=>exact h.elim
  |some o=>cases o with
   |flds fs=>
    obtain⟨e1,h⟩:=Bu h
    obtain⟨e2,h⟩:=Bu h
    exact⟨fs,rfl,e1,Nat.le_of_ble_eq_true e2,h⟩
   |_=>exact h.elim
 cases o with
 |none=>exact h.elim
 |some o=>cases o with
  |inst C=>obtain⟨fs,h⟩:=two h;exact⟨C,fs,rfl,h⟩
  |_=>exact h.elim
theorem G1{i:Nat}{fs:List (Nat×V)}{Q:LH→Prop}(hi:L[i]? =some (.inst C))(hf:L[i+1]? =some (.flds fs))(hx:VR b.w M (.ref i) x)(hn:Gq (KT b.w.params) C name)(hv:VR b.w M v y)(hl:fs.length<1000)(q:Q (L.set (i+1) (.flds (Bk fs (cd name) v)))):
 JU b M ρ L (setAttr x name y) Q:=by
 refine JE.change () hf (by intro xx;contradiction) (fun A M₁ s m a o Q' E l lf ea eo t nL z=> ?_) q
 refine hid fun Gg gg=> ?_
 obtain⟨es,k,rfl,kk,rr,hz⟩:=t
 obtain⟨c,f1,rfl⟩:=VR.mono l _ hx
 obtain⟨c',o,g1,_,g2,dx,g3,rfl⟩:=lf.st.look hi (by intro xx;contradiction)
 refine gg ?_
 rw[f1]at g1;cases g1
 rw[ea]at g3;cases g3
 have nc:c≠a:=fun e=>by have:=(List.getElem?_inj (List.getElem?_eq_some_iff.mp f1).1 lf.st.nd).mp (f1.trans (e▸ea.symm));exact(l10 (Hd W0 (.a W0 Y1) .f) rfl this)
 have ncL:c≠b.env.locals:=fun e=>lf.st.loc.2 (e▸List.mem_of_getElem? f1)
 have N:News {} b.env.locals s.heap ([]++(a,FJ es k)::(DQ s.heap b.env.locals).filter fun p=>p.1 !=a):=fun p hp=>by
  rcases List.mem_cons.mp hp with rfl|hp
  ·exact⟨eo,nL,Fb _⟩
  ·exact lf.N p (List.mem_filter.mp hp).1
 have P:=kk.put (tk:=s.toks+1) hn.ok (VR.mono l _ hv) rr
 have I:W.InstAt s.heap c (instObj C a) C (some (FJ es k)):=⟨g2,rfl,rfl,eo⟩
 refine set_plain lf.st.kIn I hn.set (osa_dict (s:={s with toks:=s.toks+1}) lf.F N lf.st.kIn I rfl hn.ovr hn.tak hn.dic ?_ (fun zz h=>(nomatch h)) (fun p hp=>by simpa using(List.mem_filter.mp hp).2) (putName_dict ..) rfl ?_ fun h' F' N'=> ?_)
 ·rw[show lookIn name (FJ es k)=getL name es from rfl];unfold getL
  cases es.find? (·.key.isStr name)with
  |some e=>rfl
  |none=>dsimp only;rw[kk.noRef];rfl
 ·have h1:=P.1.length
  rw[List.length_map]at h1
  have h2:=HJ (fs:=fs) (k:=cd name) (v:=v)
  show(putL name _ (.str name (s.toks+1)) y es).length≤1000
  exact(l30 (Hg W0 (.n 1000) (Hd X1 X2 (Hb X1 (.a W0 Y1) (Gb X2 (.n 1000))))) rfl hl h1 h2)
 ·have old:∀c o,c≠a→c≠b.env.locals→s.heap.get? c=some o→h'.get? c=some o:=fun c o n1 n2 e=>
   (N' (c,o) (List.mem_append_right _ (List.mem_cons_of_mem _ (List.mem_filter.mpr ⟨Ek.mpr ⟨n2,e⟩,by simpa using n1⟩)))).1
  refine z () _ h' _ old (fun mm hm=>by rw[hm.eq_nsMap,←lf.F.ns.eq_nsMap];exact F'.ns) (N' (a,dictOf (putL name (PyData.keyHash b.w.params name) (.str name (s.toks+1)) y es) (putN name es k)) List.mem_cons_self).1 ⟨_,_,rfl,P.1,P.2, ?_⟩ trivial
  exact Nat.le_trans HJ hl
noncomputable def J9(K:Frag)(C:Addr)(name:Str)(f:Addr):Bool:=
 okS name&&findIn K (.ref C) "__getattribute__"==some (some (.builtin "object.__getattribute__"))&&findIn K (.ref C) "__getattr__"==some none&&
  findIn K (.ref C) name==some (some (.ref f))&&typeIn K (.ref f)==some (.type "function")
theorem TG{A:Around}{E:Value→Shared→Prop}{f:Addr}{ks:List Nat}{vl:List V}{pl:Sem Bool}{Q:Value×List Value→Shared→Prop}(st:Sx b A M ρ L s)(hi:JK b.w M s.heap C ks vl x)(hn:J9 (KT b.w.params) C name f=true)
 (hv:Ho ks vl (cd name)=none)(h:Q (.ref f,[x]) s):WP b A (getMethod x name pl) Q E s:=by
 simp only[J9,Bool.and_eq_true,beq_iff_eq]at hn
 refine hid fun Gg gg=> ?_
 obtain⟨⟨⟨⟨ok,g1⟩,g2⟩,g3⟩,g4⟩:=hn
 obtain⟨i,dx,es,k,rfl,e1,e2,kk,rr⟩:=hi
 refine gg ?_
 have I:W.InstAt s.heap i (instObj C dx) C (some (FJ es k)):=⟨e1,rfl,rfl,e2⟩
 refine method_fn st.kIn I g1 g2 g3 g4 ?_ h
 show(getL name es).map _=_
 unfold getL
 rw[kk.miss ok rr hv];dsimp only;rw[kk.noRef];rfl
theorem JE.list{α β:Type}{t:Sem α}{rel:Mp→β→α→Prop}{Q:β→LH→Prop}{i:Nat}(r:β)(hi:L[i]? =some (.list ts))(hx:VR b.w M (.ref i) x)(hz:ts.length≤1048576→us.length≤1048576)
 (h:∀A M₁ s ws k a (Q':α→Shared→Prop) E,MLe M M₁→s.heap.get? a=some (BP ws k)→PRs b.w M₁.P ts ws→ts.length≤1048576→(∀y tk h' ws' k',Heap.SameBut a s.heap h'→h'.get? a=some (BP ws' k')→PRs b.w M₁.P us ws'→rel M₁ r y→Q' y {s with heap:=h',toks:=tk})→x= .ref a→WP b A t Q' E s)
 (q:Q r (L.set i (.list us))):JE b M ρ L t rel Q:=
 JE.change r hi (by intro xx;contradiction) (fun A M₁ s m a o Q' E l lf ea eo t nL z=>by
  refine hid fun Gg gg=> ?_
  obtain⟨ws,k,rfl,rv,hl⟩:=t
  obtain⟨c,f1,e⟩:=VR.mono l _ hx
  refine gg ?_
  rw[ea]at f1;cases f1
  exact h A M₁ s ws k a Q' E l eo rv hl (fun y tk h' ws' k' hs e' rv' r=>z y tk h' _ (fun c o n1 zz e=>(hs.2 c n1).trans e) (fun mm hm=>hm.sameBut hs nL.symm) e' (.list rv' (hz hl)) r) e) q
theorem Tz{h:Heap}{l:Addr}{ws:List Value}{k:Nat}(f:Array Value→Array Value)(e:h.get? l=some (BP ws k)):∃k',(h.update l (Obj.mapSeq f)).get? l=some (BP (f ws.toArray).toList k'):=
 ⟨if(f ws.toArray).size==ws.toArray.size then k else k+1,(Heap.get?_update_self _ e rfl).trans (by simp only[BP,Obj.mapSeq,Array.toArray_toList])⟩
theorem IT{ws:List Value}{k:Nat}{a:Addr}{Q:Value→Shared→Prop}{E:Value→Shared→Prop}(e:s.heap.get? a=some (BP ws k))(hz:ws.length≤1048576)(h:∀k' h',Heap.SameBut a s.heap h'→h'.get? a=some (BP (ws++[y]) k')→Q .none {s with heap:=h'}):WP b A (call (.builtin "list.append") [.ref a,y]) Q E s:=by
 refine wpAny_call_entry slot_list_append (isL e).typeIs entry_list_append ?_ (args_list_append _ _)
 show wpAny _ _ (updateSeq a (·.push y)>>=fun zz=>ret .none) _ _ s
 obtain⟨k',e'⟩:=Tz (·.push y) e
 exact wpAny_bind (wpAny_updateSeq (hz:=Cj (by rw[List.size_toArray];exact hz)) e rfl (wpAny_pure ⟨.none,rfl,h k' _ (Heap.SameBut.update ..) (by simpa using e')⟩))
theorem OB{i:Nat}{t:Tr}(hi:L[i]? =some (.list ts))(hx:VR b.w M (.ref i) x)(hv:PR b.w M.P t y)(hz:ts.length+1≤1048576)(q:Q vn (L.set i (.list (ts++[t])))):SV b M ρ L (call (.builtin "list.append") [x,y]) Q:=by
 refine JE.list vn hi hx (fun zz=>by rw[List.length_append];exact hz) (fun A M₁ s ws k a Q' E l e rv hl z ex=> ?_) q
 subst ex
 exact IT e (rv.length▸hl) fun k' h' hs e'=>z _ s.toks h' _ k' hs e' (rv.append (us:=[t]) (ys:=[y]) ⟨PR.mono l.P _ hv,rfl⟩) rfl
theorem V6{i:Nat}{t:Tr}(hi:L[i]? =some (.list (ts++[t])))(hx:VR b.w M (.ref i) x)(q:Q (.t t) (L.set i (.list ts))):SV b M ρ L (call (.builtin "list.pop") [x]) Q:=by
 refine JE.list (.t t) hi hx (fun h=>by rw[List.length_append]at h;exact Nat.le_of_add_right_le h) (fun A M₁ s ws k a Q' E l e rv hl z ex=> ?_) q
 subst ex
 have hlen:=rv.length
 rw[List.length_append]at hlen hl
 simp only[List.length_cons,List.length_nil]at hlen hl
 obtain⟨u,e1,e2⟩:=rv.get (i:=ts.length) (t:=t) (by simp)
 have el:ws.length-1=ts.length:=by exact l30 (Hd (.a W0 (.a Y0 Y1)) X1 (Hc (.a X2 Y1) X1 (Gf X2 W0))) rfl hlen (Nat.sub_add_cancel (l20 (.P 0 1 (Hc (.a W0 (.a Y0 Y1)) X1 (Gb Y1 X1))) rfl hlen))
 have rv2:PRs b.w M₁.P ts ws.dropLast:=by have:=rv.take ts.length;rw[List.take_left]at this;rw[List.dropLast_eq_take,el];exact this
 obtain⟨k',e'⟩:=Tz (fun xs=>xs.eraseIdxIfInBounds (ws.toArray.size-1)) e
 refine call_meets PySem.F.slot_list_pop ⟨_,e,rfl⟩ PySem.F.entry_list_pop (PySem.F.args_list_pop_1 _) (MeetsSeq.list_pop_last a ws.toArray k u (by rw[List.size_toArray,el,List.getElem?_toArray];exact e1) (Cj (by rw[List.size_toArray];exact(l20 (Hb (.a W0 (.a Y0 Y1)) Yb (Hd (.a W0 (.a Y0 Y1)) X1 (Gb X1 Yb))) rfl hl hlen)))) ⟨e, ?_⟩
 refine z u s.toks _ _ k' (Heap.SameBut.update ..) e' ?_ e2
 have:(ws.toArray.eraseIdxIfInBounds (ws.toArray.size-1)).toList=ws.dropLast:=by
  have h1:ws.toArray.size-1<ws.toArray.size:=by rw[List.size_toArray];exact(l30 (Hc (.a W0 (.a Y0 Y1)) X1 (Hc X2 W0 (Gc X2 X1))) rfl hlen el)
  simp only[Array.eraseIdxIfInBounds,h1,dif_pos]
  simp[List.eraseIdx_length_sub_one]
 rw[this];exact rv2
theorem La{i:Nat}(hi:L[i]? =some (.list ts))(hx:VR b.w M (.ref i) x)(q:Q vn (L.set i (.list ts.reverse))):SV b M ρ L (call (.builtin "list.reverse") [x]) Q:=by
 refine JE.list vn hi hx (fun h=>by rw[List.length_reverse];exact h) (fun A M₁ s ws k a Q' E l e rv hl z ex=> ?_) q
 subst ex
 obtain⟨k',e'⟩:=Tz (fun xs=>xs.reverse) e
 refine call_meets PySem.F.slot_list_reverse ⟨_,e,rfl⟩ PySem.F.entry_list_reverse (PySem.F.args_list_reverse_1 _) (AutoSeq1.list_reverse_list_0 a ws.toArray k (Cj (by rw[List.size_toArray,←rv.length];exact hl))) ⟨e, ?_⟩
 exact z Value.none s.toks _ _ k' (Heap.SameBut.update ..) e' (by simpa using rv.reverse) rfl
theorem OQ{i:Nat}{k:Int}{t:Tr}{xi:Value}{Q:LH→Prop}(hi:L[i]? =some (.list ts))(hx:VR b.w M (.ref i) x)(hk:VR b.w M (vi k) xi)(hv:PR b.w M.P t y)(h0:0≤k)(h1:k<ts.length)(q:Q (L.set i (.list (ts.set k.toNat t)))):JU b M ρ L (setItem x xi y) Q:=by
 obtain⟨tk,rfl⟩:=hk
 refine JE.list () hi hx (fun h=>by rw[List.length_set];exact h) (fun A M₁ s ws n a Q' E l e rv hl z ex=> ?_) q
 subst ex
 have hlen:=rv.length
 have hl':=isL e
 have hfit:k<2^63:=by exact l12 (Hh W0 (.c W0) (Hb W0 Yb (Ha (.z 9223372036854775808) X1 (Gd W0 X1)))) rfl h1 hl Eb
 unfold setItem
 try with_reducible refine wpAny_holding ?_
 first|refine wpAny_bind (wpAny_pure ?_)|skip
 refine wpAny_bind (wpAny_sequenceKey hl'.typeIs (by decide) ?_)
 refine wpAny_bind (wpAny_callSpecial?_slot (name:=Str.ofString "__setitem__") hl'.typeIs slot_list_setitem
  (wpAny_call_entry slot_list_setitem hl'.typeIs entry_list_setitem ?_ (args_list_setitem _ _ _)))
 show wpAny _ _ (Builtin.List.listSubscript? (.int k _)>>=_) _ _ s
 refine wpAny_bind (wpAny_listSubscript_int (fitsIndex_of h0 hfit) ?_)
 obtain⟨j,rfl⟩:=Int.eq_ofNat_of_zero_le h0
 have hj:j<ws.toArray.size:=by rw[List.size_toArray];exact(l30 (Hc W0 X1 (Hh (.c X2) (.c W0) (Gc X2 X1))) rfl hlen h1)
 have hx':ws.toArray[j]? =some ws.toArray[j]:=Array.getElem?_eq_getElem hj
 show wpAny _ _ ((seqItemAt a j>>=fun r=>pure (r.map (j,·)))>>=_) _ _ s
 refine wpAny_bind (wpAny_bind (wpAny_seqItemAt e rfl (wpAny_pure ?_)))
 rw[hx']
 show wpAny _ _ (setSeqItemAt a j y>>=_) _ _ s
 obtain⟨k',e'⟩:=Tz (·.setIfInBounds j y) e
 refine wpAny_bind (wpAny_setSeqItemAt e rfl ?_)
 have fin:=z () s.toks _ _ k' (Heap.SameBut.update ..) e' (by simpa using rv.set (i:=j) (PR.mono l.P _ hv)) trivial
 first
  |exact wpAny_bind (wpAny_pure (wpAny_pure ⟨.none,rfl,wpAny_pure fin⟩))
  |exact wpAny_pure ⟨.none,rfl,wpAny_pure fin⟩
theorem NJ{α:Type}{l:List (Int×α)}{k:Int}:l.any (fun kv=>decide (kv.1=k))=(l.map (·.1)).any fun c=>decide (c=k):=by rw[List.any_map];rfl
theorem OC{w:World}{P:PH}{k:Int}{t:Tr}(e:PR w P t x):∀{es:List (Int×Tr)}{kws:List (Int×Value)},kws.map (·.1)=es.map (·.1)→PRs w P (es.map (·.2)) (kws.map (·.2))→
 (PySem.stored kws k x).map (·.1)=(BX es k t).map (·.1)∧PRs w P ((BX es k t).map (·.2)) ((PySem.stored kws k x).map (·.2)):=by
 intro es kws h1 h2
 have any:kws.any (fun kv=>decide (kv.1=k))=es.any (fun kv=>decide (kv.1=k)):=by rw[NJ,NJ,h1]
 have all:∀{es:List (Int×Tr)}{kws:List (Int×Value)},kws.map (·.1)=es.map (·.1)→PRs w P (es.map (·.2)) (kws.map (·.2))→(kws.map fun kv=>if kv.1=k then(kv.1,x)else kv).map (·.1)=(es.map fun kv=>if kv.1=k then(kv.1,t)else kv).map (·.1)∧
  PRs w P ((es.map fun kv=>if kv.1=k then(kv.1,t)else kv).map (·.2)) ((kws.map fun kv=>if kv.1=k then(kv.1,x)else kv).map (·.2)):=by
  intro es
  induction es with
  |nil=>intro kws h1 h2;cases kws with
   |nil=>exact⟨rfl,rfl⟩
   |cons p r=>cases h1
  |cons p r ih=>intro kws h1 h2;cases kws with
   |nil=>cases h1
   |cons q s=>
    obtain⟨g1,g2⟩:=List.cons.inj h1
    obtain⟨i1,i2⟩:=ih g2 h2.2
    have g1:q.1=p.1:=g1
    rw[List.map_cons,List.map_cons,List.map_cons,List.map_cons,i1]
    by_cases c:p.1=k
    ·rw[if_pos c,if_pos (g1.trans c),g1]
     exact⟨rfl,e,i2⟩
    ·rw[if_neg c,if_neg (fun q=>c (g1.symm.trans q)),g1]
     exact⟨rfl,h2.1,i2⟩
 unfold BX PySem.stored
 rw[any]
 split
 ·exact all h1 h2
 ·rw[List.map_append,List.map_append,List.map_append,List.map_append,h1]
  exact⟨rfl,h2.append (us:=[t]) (ys:=[x]) ⟨e,rfl⟩⟩
theorem KJ{es:List (Int×Tr)}{k:Int}{t:Tr}:(BX es k t).length≤es.length+1:=by unfold BX;split<;>simp
theorem OR{i:Nat}{k:Int}{t:Tr}{es:List (Int×Tr)}{xi:Value}{Q:LH→Prop}(hi:L[i]? =some (.dict es))(hx:VR b.w M (.ref i) x)(hk:VR b.w M (vi k) xi)(hv:PR b.w M.P t y)(hz:es.length+1≤1048576)(q:Q (L.set i (.dict (BX es k t)))):JU b M ρ L (setItem x xi y) Q:=by
 obtain⟨tk,rfl⟩:=hk
 refine JE.change () hi (by intro xx;contradiction) (fun A M₁ s m a o Q' E l lf ea eo t nL z=> ?_) q
 obtain⟨kws,hd,e1,e2,hl⟩:=t
 obtain⟨c,f1,rfl⟩:=VR.mono l _ hx
 rw[ea]at f1;cases f1
 have hlen:kws.length=es.length:=by have:=congrArg List.length e1;simpa using this
 have S:=OC (k:=k) (PR.mono l.P _ hv) e1 e2
 exact wpAny_setItem_pairs (intKind_is _ _ _ _) (Jh eo hd) (fun h' hd' hs'=>by
  obtain⟨o',e3,hd'⟩:=Heap.dictOf_iff.mp hd'
  exact z () _ h' o' (fun c o n1 zz e=>(hs'.2 c n1).trans e) (fun mm hm=>hm.sameBut hs' nL.symm) e3 ⟨_,hd',S.1,S.2,Nat.le_trans KJ hz⟩ trivial) (Cj (by exact l20 (Hb (.a W0 Y1) Yb (Hc X1 W0 (Gb X1 Yb))) rfl hz hlen))
theorem SJ{es:List Int×List Tr}{i:Int}{d:Tr}{xi:Value}(hx:VR b.w M v x)(he:GM L v=some es)(hi:VR b.w M (vi i) xi)(hv:PR b.w M.P d y)(q:Q (.t ((ED es.1 es.2 i).getD d)) L):SV b M ρ L (call (.builtin "dict.get") [x,xi,y]) Q:=by
 obtain⟨tk,rfl⟩:=hi
 refine JE.still (.t ((ED es.1 es.2 i).getD d)) (fun A M₁ s m Q' E l lf z=> ?_) q
 refine hid fun Gg gg=> ?_
 obtain⟨a,kws,rfl,hd,hm,e1,e2,_⟩:=DT lf.st (VR.mono l _ hx) he
 refine gg ?_
 refine call_meetsIn PySem.F.slot_dict_get hd.typeIs PySem.F.entry_dict_get (PySem.F.args_dict_get_3 _ _ _) (meets_dict_get_default (IK b.w) a (intKind_is _ _ _ _) hm y) ⟨_,hd.mapOf, ?_⟩
 refine z _ (s.toks+1) s.heap (.refl _ _) ?_
 cases e:ED es.1 es.2 i with
 |some v=>obtain⟨u,e3,e4⟩:=Ip e1 e2 e;rw[e3];exact e4
 |none=>
  have no:∀{kws:List (Int×Value)}{ks:List Int}{ts:List Tr},kws.map (·.1)=ks→PRs b.w M₁.P ts (kws.map (·.2))→ED ks ts i=none→valueAt kws i=none:=by
   intro kws
   induction kws with
   |nil=>intro ks ts _ _ _;rfl
   |cons p r ih=>
    intro ks ts e h q
    cases e
    cases ts with
    |nil=>cases h
    |cons u ts=>
     have q:(if p.1=i then some u else ED (r.map (·.1)) ts i)=none:=q
     unfold valueAt
     rw[List.find?_cons]
     by_cases c:p.1=i
     ·rw[if_pos c]at q;cases q
     ·rw[if_neg c]at q
      simp only[c,decide_false]
      exact ih rfl h.2 q
  rw[no e1 e2 e];exact PR.mono l.P _ hv
theorem Tx(pl:List Nat)(n:Nat):Ly (pl.map Int.ofNat) (n:Int)=(Ap pl n).map Int.ofNat:=by
 unfold Ly
 rw[List.map_map,show(Int.toNat∘Int.ofNat)=id from rfl,List.map_id];rfl
theorem JE.set{α β:Type}{t:Sem α}{rel:Mp→β→α→Prop}{Q:β→LH→Prop}{i:Nat}{xs zs:List Int}(r:β)(hi:L[i]? =some (.set xs))(hx:VR b.w M (.ref i) x)
 (h:∀A M₁ s m pl a (Q':α→Shared→Prop) E,MLe M M₁→Lf b A M₁ ρ L s m→xs=pl.map Int.ofNat→pl∈subs4→AS b.w s.heap a pl→(∀y tk h' pl',(∀c o,c≠a→s.heap.get? c=some o→h'.get? c=some o)→zs=pl'.map Int.ofNat→pl'∈subs4→AS b.w h' a pl'→rel M₁ r y→Q' y {s with heap:=h',toks:=tk})→x= .ref a→WP b A t Q' E s)
 (q:Q r (L.set i (.set zs))):JE b M ρ L t rel Q:=
 JE.change r hi (by intro xx;contradiction) (fun A M₁ s m a o Q' E l lf ea eo t nL z=>by
  refine hid fun Gg gg=> ?_
  obtain⟨pl,es,ep,e1,hp,rfl,he⟩:=t
  obtain⟨c,f1,e⟩:=VR.mono l _ hx
  refine gg ?_
  rw[ea]at f1;cases f1
  exact h A M₁ s m pl a Q' E l lf e1 hp ⟨es,ep,eo,he⟩ (fun y tk h' pl' hs e1 hp' ⟨es',ep',eo',he'⟩ r=>z y tk h' _ (fun c o n1 zz e=>hs c o n1 e) (fun mm hm=>hm.at' fun o e=>hs _ o nL.symm e) eo' ⟨pl',es',ep',e1,hp',rfl,he'⟩ r) e) q
theorem N5{i:Nat}{xs:List Int}{k:Int}(hi:L[i]? =some (.set xs))(hx:VR b.w M (.ref i) x)(hk:VR b.w M (vi k) y)(h0:0≤k)(h4:k<4)(q:Q vn (L.set i (.set (Ly xs k)))):SV b M ρ L (call (.builtin "set.add") [x,y]) Q:=by
 obtain⟨tk,rfl⟩:=hk
 refine JE.set vn hi hx (fun A M₁ s m pl a Q' E l lf e1 hp hS z ex=> ?_) q
 subst ex;subst e1
 obtain⟨k,rfl⟩:=Int.eq_ofNat_of_zero_le h0
 have h4:k<4:=by exact l10 (Hh (.c W0) (.z 4) (Gc W0 Y4)) rfl h4
 exact H4 hS hp h4 fun h' hs hS'=>z Value.none _ h' (Ap pl k) (fun c o n e=>(hs.2 c n).trans e) (Tx pl k) (Gp hp h4) hS' rfl
theorem R7(q:B7 (.set []) Q L):SV b M ρ L (call (.type "set") []) Q:=
 JE.track (.set []) (fun A M₁ s m Q' E l lf z=>Rt (z s.toks _ _ _ (lf.keep (x:=[_]) (lf.F.push _) (lf.N.push lf.F _)) (gone _ (Nat.le_refl _)) (Heap.get?_push_size _ rfl) ⟨[],[],0,rfl,by decide,rfl,rfl,fun zz h=>absurd h List.not_mem_nil⟩)) q
end
end
section
section
variable{b:Bc}{A:Around}{M:Mp}{s:Shared}{ρ:Rho}{L:LH}{Q:V→LH→Prop}{x y z:Value}{ts us:List Tr}{v u:V}{w:World}{P:PH}
theorem cf(h:Heap)(o:Obj)(hf:o.isFreed=false):DE b.env.locals h (h.push o):= .of fun zz zz e=>Heap.get?_push_of_some _ e
theorem N8{i:Int}(hx:VR b.w M (vi i) x)(q:Q (.rg 0 i 1) L):SV b M ρ L (call (.type "range") [x]) Q:=by
 obtain⟨t,rfl⟩:=hx
 exact JE.make (.rg 0 i 1) (fun A M₁ s m Q' E l lf z=>call_range_1 (z _ _ _ _ _ (.of fun zz zz e=>Heap.get?_push_of_some _ e) (gone _ (Nat.le_refl _)) (Heap.get?_push_size _ rfl) fun zz=>⟨_,_,_,_,rfl,BL⟩)) q
theorem N7{i j:Int}(hx:VR b.w M (vi i) x)(hy:VR b.w M (vi j) y)(q:Q (.rg i j 1) L):SV b M ρ L (call (.type "range") [x,y]) Q:=by
 obtain⟨t,rfl⟩:=hx
 obtain⟨t,rfl⟩:=hy
 exact JE.make (.rg i j 1) (fun A M₁ s m Q' E l lf z=>call_range_2 (z _ _ _ _ _ (.of fun zz zz e=>Heap.get?_push_of_some _ e) (gone _ (Nat.le_refl _)) (Heap.get?_push_size _ rfl) fun zz=>⟨_,_,_,_,rfl,BL⟩)) q
theorem N6{i j:Int}(hx:VR b.w M (vi i) x)(hy:VR b.w M (vi j) y)(hz:VR b.w M (vi (-1)) z)(h:(j-i).natAbs<2^29)(q:Q (.rg i j (-1)) L):SV b M ρ L (call (.type "range") [x,y,z]) Q:=by
 obtain⟨t,rfl⟩:=hx
 obtain⟨t,rfl⟩:=hy
 obtain⟨t,rfl⟩:=hz
 exact JE.make (.rg i j (-1)) (fun A M₁ s m Q' E l lf z=>call_range_3 (by decide) (z _ _ _ _ _ (.of fun zz zz e=>Heap.get?_push_of_some _ e) (gone _ (Nat.le_refl _)) (Heap.get?_push_size _ rfl) fun zz=>⟨_,_,_,_,rfl,BL⟩) (.inl (PyProof.noPylong_small (by decide)))) q
theorem HK:∀{vs:List Value}{ns:List Int},IntsAre vs ns→PRs w P (ns.map Tr.int) vs
 |_,_, .nil=>rfl
 |_,_, .cons n t r=>⟨⟨t,rfl⟩,HK r⟩
theorem Em:∀{ns:List Int}{ws:List Value},PRs w P (ns.map Tr.int) ws→IntsAre ws ns
 |[],_,h=>by cases h;exact .nil
 |_::_,[],h=>h.elim
 |k::r,_::_,⟨⟨t,e⟩,h⟩=>by subst e;exact .cons _ _ (Em h)
theorem Ej:∀{ys:List Str}{ws:List Value},PRs w P (ys.map Tr.str) ws→StrsAre ws ys
 |[],_,h=>by cases h;exact .nil
 |_::_,[],h=>h.elim
 |k::r,_::_,⟨⟨t,e⟩,h⟩=>by subst e;exact .cons _ _ (Ej h)
theorem SM{i:Nat}{es:List (Int×Tr)}(hi:L[i]? =some (.dict es))(hx:VR b.w M (.ref i) x)(q:B7 (.dict es) Q L):SV b M ρ L (call (.type "dict") [x]) Q:=by
 refine JE.track (.dict es) (fun A M₁ s m Q' E l lf z=> ?_) q
 refine hid fun Gg gg=> ?_
 obtain⟨a,kws,rfl,hd,hm,e1,e2,hz⟩:=E6 lf.st (VR.mono l _ hx) hi
 refine gg ?_
 refine PySem.kt_call_dict hm hd (Cj hz) fun h' hd hs=> ?_
 refine hid fun Gg gg=> ?_
 obtain⟨o,e3,hd'⟩:=Heap.dictOf_iff.mp hd
 refine gg ?_
 exact z s.toks h' _ o (.of fun c o e=>(hs.2 c (Nat.ne_of_lt (Heap.lt_size e))).trans (Heap.get?_push_of_some _ e)) (gone _ (Nat.le_refl _)) e3 ⟨kws,hd',e1,e2,by
  have:=congrArg List.length e1;rw[List.length_map,List.length_map]at this;rw[←this];exact hz⟩
theorem SH{ys:List Str}{u:Str}(hx:VR b.w M (vs u) x)(hy:VR b.w M (.t (.fl (ys.map Tr.str))) y)(hw:(ys.map (·.length)).sum+ys.length*u.length≤16777216)(q:Q (vs (Txt.join u ys)) L):SV b M ρ L (call (.builtin "str.join") [x,y]) Q:=by
 obtain⟨t,rfl⟩:=hx
 refine JE.still (vs (Txt.join u ys)) (fun A M₁ s m Q' E l lf z=> ?_) q
 refine hid fun Gg gg=> ?_
 obtain⟨a,ws,n,rfl,hl,rv,hz⟩:=A5 lf.st (VR.mono l _ hy) rfl
 refine gg ?_
 exact join_list (isL hl) (Ej rv) hw fun t k=>z _ k s.heap (.refl _ _) ⟨_,rfl⟩
theorem IW{ws:List Value}{ys:List Str}(h:StrsAre ws ys){u:Str}{j:Nat}(hj:Hy ys u j):j<ws.toArray.size∧(∀y,y∈ws.toArray→∀t,MeetsSeq.EqGives y (.str u t) (isStrOf u y))∧
 (∀(hj:j<ws.toArray.size),isStrOf u ws.toArray[j]=true)∧∀m (hm:m<ws.toArray.size),m<j→isStrOf u ws.toArray[m]=false:=by
 have lj:j<ys.length:=(List.getElem?_eq_some_iff.mp hj.1).1
 have key:∀m (hm:m<ws.toArray.size),∃y t,ws.toArray[m]= .str y t∧ys[m]? =some y:=fun m hm=>h.item m ws.toArray[m] (List.getElem?_eq_getElem hm)
 refine⟨by rw[List.size_toArray,h.len_eq];exact lj,fun y hy t=>eq_isStrOf u t h y (List.mem_toArray.mp hy),fun hm=> ?_,fun m hm hmj=> ?_⟩
 ·obtain⟨y,t,e1,e2⟩:=key j hm
  rw[e1]
  have:=hj.1
  rw[e2]at this
  cases this
  exact beq_self_eq_true _
 ·obtain⟨y,t,e1,e2⟩:=key m hm
  rw[e1]
  exact beq_false_of_ne fun q=>hj.2 m hmj (q▸e2)
theorem OA{ys:List Str}{u:Str}{j:Nat}(hx:VR b.w M (.t (.fl (ys.map Tr.str))) x)(hy:VR b.w M (vs u) y)(hj:Hy ys u j)(q:Q (vi j) L):SV b M ρ L (call (.builtin "list.index") [x,y]) Q:=by
 obtain⟨t,rfl⟩:=hy
 refine JE.still (vi j) (fun A M₁ s m Q' E l lf z=> ?_) q
 refine hid fun Gg gg=> ?_
 obtain⟨a,ws,k,rfl,hl,rv,hz⟩:=A5 lf.st (VR.mono l _ hx) rfl
 obtain⟨h1,h2,h3,h4⟩:=IW (Ej rv) hj
 refine gg ?_
 have h6:=rv.length
 exact call_meets PySem.F.slot_list_index (isL hl).typeIs PySem.F.entry_list_index (PySem.F.args_list_index_2 _ _) (MeetsSeq.list_index a ws.toArray k _ (isStrOf u) (fun y hy=>h2 y hy _) j h1 (by rw[List.size_toArray]at h1;rw[h6]at hz;exact(l21 (Hb W0 Yb (Hg X1 W0 (Ha (.z 9223372036854775808) W0 (Gd (.c X1) (.s W0 Z1))))) rfl hz h1 Eb)) (h3 h1) h4) ⟨hl,z _ _ s.heap (.refl _ _) ⟨_,rfl⟩⟩
theorem N9{ys:List Str}{u:Str}{j:Nat}(hx:VR b.w M (.t (.tup (ys.map Tr.str))) x)(hy:VR b.w M (vs u) y)(hj:Hy ys u j)(q:Q (vi j) L):SV b M ρ L (call (.builtin "tuple.index") [x,y]) Q:=by
 obtain⟨t,rfl⟩:=hy
 refine JE.still (vi j) (fun A M₁ s m Q' E l lf z=> ?_) q
 refine hid fun Gg gg=> ?_
 obtain⟨a,ws,rfl,⟨⟨o,k,e2,e3,e4⟩,_⟩,rv⟩:=VR.mono l _ hx
 obtain⟨h1,h2,h3,h4⟩:=IW (Ej rv) hj
 have hl:=lf.st.hP _ _ e2
 obtain⟨ocls,odict,odata,oslots⟩:=o
 obtain⟨rfl,_⟩:ocls=_∧odict=_:=e3
 refine gg ?_
 obtain rfl:odata=_:=e4
 exact call_meets PySem.F.slot_tuple_index ⟨_,hl,rfl⟩ PySem.F.entry_tuple_index (PySem.F.args_tuple_index_2 _ _) (Ny a ws.toArray k odict oslots _ (isStrOf u) (fun y hy=>h2 y hy _) j h1 (h3 h1) h4) ⟨hl,z _ _ s.heap (.refl _ _) ⟨_,rfl⟩⟩
theorem SG{es:List Int×List Tr}(he:GM L v=some es)(hx:VR b.w M v x)(q:Q (.view true v) L):SV b M ρ L (call (.builtin "dict.keys") [x]) Q:=by
 refine JE.make (.view true v) (fun A M₁ s m Q' E l lf z=> ?_) q
 have rx:=VR.mono l _ hx
 obtain⟨a,kws,rfl,hD,lo,_⟩:=DT lf.st rx he
 exact call_meetsIn PySem.F.slot_dict_keys hD.typeIs PySem.F.entry_dict_keys (PySem.F.args_dict_keys_1 _) (kdl_meets_keys (IK b.w) a lo) ⟨⟨kws,hD⟩,
  z _ s.toks _ _ (Qq true a) (.of fun zz zz e=>Heap.get?_push_of_some _ e) (gone _ (Nat.le_refl _)) (Heap.get?_push_size _ rfl) fun le=>⟨_,a,rfl,BL,VR.mono le _ rx⟩⟩
theorem Nz{es:List Int×List Tr}(he:GM L v=some es)(hx:VR b.w M v x)(q:Q (.view false v) L):SV b M ρ L (call (.builtin "dict.values") [x]) Q:=by
 refine JE.make (.view false v) (fun A M₁ s m Q' E l lf z=> ?_) q
 have rx:=VR.mono l _ hx
 obtain⟨a,kws,rfl,hD,lo,_⟩:=DT lf.st rx he
 exact call_meetsIn PySem.F.slot_dict_values hD.typeIs PySem.F.entry_dict_values (PySem.F.args_dict_values_1 _) (meets_dict_values (IK b.w) a lo) ⟨⟨kws,hD⟩,
  z _ s.toks _ _ (Qq false a) (.of fun zz zz e=>Heap.get?_push_of_some _ e) (gone _ (Nat.le_refl _)) (Heap.get?_push_size _ rfl) fun le=>⟨_,a,rfl,BL,VR.mono le _ rx⟩⟩
inductive YO(w:World)(s:Shared)(ks:List Int):Value→Prop
 |mk {T:String}{r d:Addr}{P:Nat→Value→Prop}{OK:Heap→Prop}:KdlSrc pw_nn0409_01 w T r d ks.length P OK→OK s.heap→(∀i y,P i y→∃k t,ks[i]? =some k∧y=Value.int k t)→YO w s ks (.ref r)
theorem Kl{kws:List (Int×Value)}{i:Nat}{y:Value}(h:∃k x,kws[i]? =some (k,x)∧(IK w).is k y=true):∃k t,(kws.map (·.1))[i]? =some k∧y=Value.int k t:=by
 refine hid fun Gg gg=> ?_
 obtain⟨k,x,hx,hk⟩:=h
 obtain⟨t,rfl⟩:=Value.isInt_shape hk
 refine gg ?_
 exact⟨k,t,by rw[List.getElem?_map,hx];rfl,rfl⟩
theorem P4{ks:List Int}(h:Fx w P s ks ts x):YO w s ks x:=by
 obtain⟨a,kws,rfl,hd,hm,rfl,_⟩:=h
 obtain⟨ep,hat⟩:=hd.dictAt
 have K:=kdl_dict (prog:=pw_nn0409_01) (w:=w) (knd:=IK w) (kvs:=kws) (ep:=ep) hm
 rw[←List.length_map (f:=Prod.fst) (as:=kws)]at K
 exact .mk K hat fun i y h=>Kl h
theorem Gz{ks:List Int}(hv:VR b.w M v x)(hx:∀A M₁ s,Sx b A M₁ ρ L s→VR b.w M₁ v x→YO b.w s ks x)(hz:ks.length<60)(q:B7 (.list ((JF ks).map Tr.int)) Q L):SV b M ρ L (call (.builtin "sorted") [x]) Q:=by
 refine JE.track (.list ((JF ks).map Tr.int)) (fun A M₁ s m Q' E l lf z=> ?_) q
 cases hx A M₁ s lf.st (VR.mono l _ hv)with
 |mk K ok item=>
  refine Cx (G:=fun ns=>ns=ks) K lf.am.hand ok (by exact l10 (Hg W0 (.n 60) (Gc W0 (.n 64))) rfl hz) (fun acc hacc=>⟨_,FZ (by rw[Array.length_toList,hacc.1]) fun i v hv=>item i v (hacc.2 i v (by rw[←Array.getElem?_toList];exact hv)),rfl⟩) fun h' tk B vs ns ns' e hG hI hpm hso hB hk hb=> ?_
  subst hG
  obtain rfl:=PL hpm hso
  exact z tk h' B _ (.of hk) (HS hb) hB ⟨vs,e,rfl,HK hI,by rw[List.length_map,hpm.length_eq];exact(l10 (Hg W0 (.n 60) (Gb W0 Yb)) rfl hz)⟩
theorem G0{es:List Int×List Tr}(hx:VR b.w M v x)(e:GM L v=some es)(h:LC es.1 Q L):SV b M ρ L (call (.builtin "sorted") [x]) Q:=
 Gz hx (fun A M₁ s st hx=>P4 (DT st hx e)) h.1 h.2
theorem LY{es:List Int×List Tr}(hx:VR b.w M (.view true v) x)(e:GM L v=some es)(h:LC es.1 Q L):SV b M ρ L (call (.builtin "sorted") [x]) Q:=
 Gz hx (fun A M₁ s st hx=>by
  refine hid fun Gg gg=> ?_
  obtain⟨a,d,rfl,e1,e2⟩:=hx
  obtain⟨a',kws,e3,hd,hm,e4,_⟩:=DT st e2 e
  cases e3
  obtain⟨ep,hat⟩:=hd.dictAt
  refine gg ?_
  have K:=kdl_keys (prog:=pw_nn0409_01) (w:=b.w) (r:=a) (d:=d) (knd:=IK b.w) (kvs:=kws) (ep:=ep)
  rw[←List.length_map (f:=Prod.fst) (as:=kws),e4]at K
  exact .mk K ⟨⟨_,st.hP _ _ e1,rfl,rfl⟩,hat⟩ fun i y h=>e4▸Kl h) h.1 h.2
theorem LX{i:Nat}{xs:List Int}(hi:L[i]? =some (.set xs))(hx:VR b.w M (.ref i) x)(q:B7 (.list (xs.map Tr.int)) Q L):SV b M ρ L (call (.builtin "sorted") [x]) Q:=by
 refine JE.track (.list (xs.map Tr.int)) (fun A M₁ s m Q' E l lf z=> ?_) q
 refine hid fun Gg gg=> ?_
 obtain⟨c,f1,rfl⟩:=VR.mono l _ hx
 obtain⟨a,o,g1,_,g2,pl,es,ep,rfl,hp,rfl,he⟩:=lf.st.look hi (by intro xx;contradiction)
 refine gg ?_
 rw[f1]at g1;cases g1
 have h4:=Cg pl hp
 exact I0 ⟨es,ep,g2,he⟩ hp lf.am.hand fun h' tk B vs e hI hB hk hb=>z tk h' B _ (.of hk) (HS hb) hB ⟨vs,e,rfl,HK hI,by rw[List.length_map,List.length_map];exact(l10 (Hb W0 Y4 (Gb W0 Yb)) rfl h4)⟩
theorem LZ{i:Nat}{t:Tr}(hi:L[i]? =some (.list [t]))(hx:VR b.w M (.ref i) x)(q:B7 (.list [t]) Q L):SV b M ρ L (call (.builtin "sorted") [x]) Q:=by
 refine JE.track (.list [t]) (fun A M₁ s m Q' E l lf z=> ?_) q
 refine hid fun Gg gg=> ?_
 obtain⟨a,ws,n,rfl,hl,rv,hz⟩:=A5 lf.st (VR.mono l _ hx) (show GL L[i]? =some [t] by rw[hi];rfl)
 obtain⟨u,rfl,ru⟩:=rv.one
 refine gg ?_
 exact Ld (isL hl) fun h' B e e2 hk hb=>z s.toks h' B _ (.of hk) hb e2 ⟨[u],e,rfl,⟨ru,rfl⟩,show 1≤1048576 by decide⟩
theorem N1(hx:VR b.w M v x)(h:UY Q L v):SV b M ρ L (call (.builtin "sorted") [x]) Q:=by
 cases v with
 |t z=>cases z with
  |fd ks ts=>exact G0 (es:=(ks,ts)) hx rfl h
  |_=>exact h.elim
 |ref i=>
  have h:UZ Q L L[i]? :=h
  cases e:L[i]? with
  |none=>rw[e]at h;exact h.elim
  |some o=>rw[e]at h;cases o with
   |set xs=>exact LX e hx h
   |dict es=>exact G0 (es:=(es.map Prod.fst,es.map Prod.snd)) hx (show UI L[i]? =some (es.map Prod.fst,es.map Prod.snd) by rw[e];rfl) h
   |list ts=>obtain⟨t,rfl,h⟩:=GV h;exact LZ e hx h
   |_=>exact h.elim
 |view k u=>cases k with
  |true=>obtain⟨es,e,h⟩:=AO h;exact LY hx e h
  |false=>exact h.elim
 |_=>exact h.elim
theorem JE.newSet{ns:List Nat}(h:∀A M₁ s m (Q':Value→Shared→Prop) E,MLe M M₁→Lf b A M₁ ρ L s m→(∀h' tk,AS b.w h' s.heap.objs.size (ns.foldl Ap [])→ns.foldl Ap []∈subs4→(∀c o,c<s.heap.objs.size→s.heap.get? c=some o→h'.get? c=some o)→Q' (.ref s.heap.objs.size) {s with heap:=h',toks:=tk})→WP b A (call (.type "set") [x]) Q' E s)
 (q:B7 (.set ((ns.foldl Ap []).map Int.ofNat)) Q L):SV b M ρ L (call (.type "set") [x]) Q:=
 JE.track (.set ((ns.foldl Ap []).map Int.ofNat)) (fun A M₁ s m Q' E l lf z=>h A M₁ s m Q' E l lf fun h' tk ⟨es,ep,e,he⟩ hp hk=>z tk h' s.heap.objs.size _ (.of fun c o e=>hk c o (Heap.lt_size e) e) (gone _ (Nat.le_refl _)) e ⟨_,es,ep,rfl,hp,rfl,he⟩) q
theorem R6(hx:VR b.w M v x)(h:bR Q L v):SV b M ρ L (call (.type "set") [x]) Q:=by
 cases v with
 |t z=>
  refine hid fun Gg gg=> ?_
  obtain⟨ts,rfl,ns,rfl,h4,q⟩:=KB h
  refine gg ?_;clear gg
  refine JE.newSet (fun A M₁ s m Q' E l lf z=> ?_) q
  refine hid fun Gg gg=> ?_
  obtain⟨a,ws,n,rfl,hl,rv,hz⟩:=A5 lf.st (VR.mono l _ hx) rfl
  refine gg ?_;clear gg
  exact Rs lf.am.hand (isL hl) (Em rv) h4 z
 |view k u=>cases k with
  |false=>
   refine hid fun Gg gg=> ?_
   obtain⟨es,e,ns,e2,h4,q⟩:=AO h
   refine gg ?_;clear gg
   refine JE.newSet (fun A M₁ s m Q' E l lf z=> ?_) q
   refine hid fun Gg gg=> ?_
   obtain⟨a,d,rfl,e1,e3⟩:=VR.mono l _ hx
   obtain⟨a',kws,e4,hd,hm,_,rv,_⟩:=DT lf.st e3 e
   cases e4
   obtain⟨ep,hat⟩:=hd.dictAt
   refine gg ?_;clear gg
   rw[e2]at rv
   exact LO lf.am.hand ⟨_,lf.st.hP _ _ e1,rfl,rfl⟩ hat (Em rv) h4 z
  |true=>exact h.elim
 |_=>exact h.elim
theorem N0{i:Nat}{xs:List Int}{ns:List Nat}(hi:L[i]? =some (.set xs))(hx:VR b.w M (.ref i) x)(hy:VR b.w M (.t (.tup ((ns.map Int.ofNat).map Tr.int))) y)(h4:∀m∈ns,m<4)
 (q:Q vn (L.set i (.set ((ns.foldl Ap (xs.map Int.toNat)).map Int.ofNat)))):SV b M ρ L (call (.builtin "set.update") [x,y]) Q:=by
 refine JE.set vn hi hx (fun A M₁ s m pl a Q' E l lf e1 hp hS z ex=> ?_) q
 subst ex;subst e1
 rw[List.map_map,show(Int.toNat∘Int.ofNat)=id from rfl,List.map_id]at z
 refine hid fun Gg gg=> ?_
 obtain⟨c,ws,rfl,⟨⟨o,k,e2,e3,e4⟩,_⟩,rv⟩:=VR.mono l _ hy
 obtain⟨a',f1,f2⟩:=VR.mono l _ hx
 cases f2
 obtain⟨a',o',g1,p,_⟩:=lf.st.look hi (by intro xx;contradiction)
 refine gg ?_;clear gg
 rw[f1]at g1;cases g1
 exact Nr hS hp lf.am.hand ⟨o,lf.st.hP _ _ e2,e3.1,k,e4⟩ (Em rv) h4 (fun q=>by subst q;rw[e2]at p;cases p) fun h' tk hS' hp' hk=>z .none tk h' _ hk rfl hp' hS' rfl
end
end
section
noncomputable def Hr:Bi→Value
 | .len=> .builtin "len"
 | .max=> .builtin "max"
 | .min=> .builtin "min"
 | .str=> .type "str"
 | .ord=> .builtin "ord"
 | .list=> .type "list"
 | .tuple=> .type "tuple"
 | .set=> .type "set"
 | .range=> .type "range"
 | .sorted=> .builtin "sorted"
 | .dict=> .type "dict"
 | .append=> .builtin "list.append"
 | .pop=> .builtin "list.pop"
 | .rev=> .builtin "list.reverse"
 | .index=> .builtin "list.index"
 | .add=> .builtin "set.add"
 | .upd=> .builtin "set.update"
 | .get=> .builtin "dict.get"
 | .join=> .builtin "str.join"
 | .indexT=> .builtin "tuple.index"
 | .keys=> .builtin "dict.keys"
 | .vals=> .builtin "dict.values"
section
variable{b:Bc}{A:Around}{M:Mp}{s:Shared}{ρ:Rho}{L:LH}{Q:V→LH→Prop}{x y z:Value}{ts us:List Tr}{v u a c d:V}{w:World}{P:PH}{vl:List V}{xs:List Value}{k:Bi}
theorem bc1(hx:VR b.w M a x)(h:bW1 a Q L k):SV b M ρ L (call (Hr k) [x]) Q:=by
 cases k with
 |len=>exact WA hx h
 |str=>obtain⟨i,rfl,g⟩:=AX h;exact V5 hx g.1 g.2
 |ord=>obtain⟨i,rfl,g⟩:=Dy h;exact R8 hx g.1 g.2
 |list=>obtain⟨ts,e,h⟩:=AO h;exact SD hx e h
 |tuple=>obtain⟨ts,e,h⟩:=AO h;exact O7 hx e h
 |set=>exact R6 hx h
 |range=>obtain⟨i,rfl,g⟩:=AX h;exact N8 hx g
 |sorted=>exact N1 hx h
 |dict=>
  obtain⟨i,rfl,g⟩:=CI h
  have g:cC Q L L[i]? :=g
  generalize e:L[i]? =o at g
  cases o with
  |some o=>cases o with
   |dict es=>exact SM e hx g
   |_=>exact g.elim
  |none=>exact g.elim
 |pop=>
  obtain⟨i,rfl,g⟩:=CI h
  have g:bX i Q L L[i]? :=g
  generalize e:L[i]? =o at g
  cases o with
  |some o=>cases o with
   |list ts=>obtain⟨us,u,rfl,q⟩:=g;exact V6 e hx q
   |_=>exact g.elim
  |none=>exact g.elim
 |rev=>
  obtain⟨i,rfl,g⟩:=CI h
  have g:bV i Q L L[i]? :=g
  generalize e:L[i]? =o at g
  cases o with
  |some o=>cases o with
   |list ts=>exact La e hx g
   |_=>exact g.elim
  |none=>exact g.elim
 |keys=>obtain⟨es,e,h⟩:=AO h;exact SG e hx h
 |vals=>obtain⟨es,e,h⟩:=AO h;exact Nz e hx h
 |_=>exact h.elim
theorem bc2(hx:VR b.w M a x)(hy:VR b.w M c y)(h:bW2 a c Q L k):SV b M ρ L (call (Hr k) [x,y]) Q:=by
 cases k with
 |max=>obtain⟨i,rfl,g⟩:=AX h;obtain⟨j,rfl,g2⟩:=AX g;exact V9 hx hy g2
 |min=>obtain⟨i,rfl,g⟩:=AX h;obtain⟨j,rfl,g2⟩:=AX g;exact V8 hx hy g2
 |range=>obtain⟨i,rfl,g⟩:=AX h;obtain⟨j,rfl,g2⟩:=AX g;exact N7 hx hy g2
 |append=>
  refine hid fun Gg gg=> ?_
  obtain⟨i,rfl,g⟩:=CI h
  obtain⟨t,rfl,g2⟩:=CU g
  refine gg ?_
  have g2:cV i t Q L L[i]? :=g2
  generalize e:L[i]? =o at g2
  cases o with
  |some o=>cases o with
   |list ts=>exact OB e hx hy g2.1 g2.2
   |_=>exact g2.elim
  |none=>exact g2.elim
 |index=>
  refine hid fun Gg gg=> ?_
  obtain⟨t,rfl,g⟩:=CU h
  obtain⟨ts,rfl,g2⟩:=KB g
  obtain⟨u,rfl,ys,j,rfl,q⟩:=Dy g2
  refine gg ?_
  exact OA hx hy q.1 q.2
 |indexT=>
  refine hid fun Gg gg=> ?_
  obtain⟨ts,rfl,g⟩:=GQ h
  obtain⟨u,rfl,ys,j,rfl,q⟩:=Dy g
  refine gg ?_
  exact N9 hx hy q.1 q.2
 |add=>
  refine hid fun Gg gg=> ?_
  obtain⟨i,rfl,g⟩:=CI h
  obtain⟨t,rfl,g2⟩:=AX g
  refine gg ?_
  have g2:cW i t Q L L[i]? :=g2
  generalize e:L[i]? =o at g2
  cases o with
  |some o=>cases o with
   |set xs=>exact N5 e hx hy g2.1.1 g2.1.2 g2.2
   |_=>exact g2.elim
  |none=>exact g2.elim
 |upd=>
  refine hid fun Gg gg=> ?_
  obtain⟨i,rfl,g⟩:=CI h
  obtain⟨t,rfl,g2⟩:=GQ g
  refine gg ?_
  have g2:bJ i t Q L L[i]? :=g2
  generalize e:L[i]? =o at g2
  cases o with
  |some o=>cases o with
   |set xs=>obtain⟨ns,rfl,q⟩:=g2;exact N0 e hx hy q.1 q.2
   |_=>exact g2.elim
  |none=>exact g2.elim
 |join=>
  refine hid fun Gg gg=> ?_
  obtain⟨u,rfl,g⟩:=Dy h
  obtain⟨t,rfl,g2⟩:=CU g
  obtain⟨ts,rfl,ys,rfl,q⟩:=KB g2
  refine gg ?_
  exact SH hx hy q.1 q.2
 |_=>exact h.elim
theorem bc3(hx:VR b.w M a x)(hy:VR b.w M c y)(hz:VR b.w M d z)(h:bW3 a c d Q L k):SV b M ρ L (call (Hr k) [x,y,z]) Q:=by
 cases k with
 |range=>
  refine hid fun Gg gg=> ?_
  obtain⟨i,rfl,g⟩:=AX h
  obtain⟨j,rfl,g2⟩:=AX g
  obtain⟨k,rfl,rfl,q⟩:=AX g2
  refine gg ?_
  exact N6 hx hy hz q.1 q.2
 |get=>
  refine hid fun Gg gg=> ?_
  obtain⟨i,rfl,g⟩:=AX h
  obtain⟨es,e,g⟩:=AO g
  obtain⟨t,rfl,q⟩:=CU g
  refine gg ?_
  exact SJ hx e hy hz q
 |_=>exact h.elim
theorem Bm(h:VRs w M (a::vl) xs):∃x r,xs=x::r∧VR w M a x∧VRs w M vl r:=by
 cases xs with
 |nil=>exact h.elim
 |cons x r=>exact⟨x,r,rfl,h⟩
theorem Vi(hv:VRs b.w M vl xs)(h:bW k vl Q L):SV b M ρ L (call (Hr k) xs) Q:=by
 cases vl with
 |nil=>
  cases hv
  cases k with
  |set=>exact R7 h
  |_=>exact h.elim
 |cons a r=>
  replace hv:=Bm hv
  obtain⟨x,xs,rfl,hx,hv⟩:=hv
  cases r with
  |nil=>cases hv;exact bc1 hx h
  |cons c r=>
   replace hv:=Bm hv
   obtain⟨y,xs,rfl,hy,hv⟩:=hv
   cases r with
   |nil=>cases hv;exact bc2 hx hy h
   |cons d r=>
    replace hv:=Bm hv
    obtain⟨z,xs,rfl,hz,hv⟩:=hv
    cases r with
    |nil=>cases hv;exact bc3 hx hy hz h
    |cons d r=>exact h.elim
theorem EY{id:String}:Cq b P (.builtin id):=fun h zz=>⟨.machine, .inr (.inl rfl), .now⟩
theorem OP{T:String}:Cq b P (.type T):=fun h zz=>⟨.machine, .inr (.inl rfl), .now⟩
theorem Ii:Cq b P (Hr k):=by cases k<;>first|exact EY|exact OP
set_option tactic.hygienic true in
theorem Ry{x:Str}{i j:Nat}(h1:i≤j)(h2:j≤x.length):Txt.slice x (some (i:Int)) (some (j:Int))=CZ x i j:=by
 unfold Txt.slice CZ
 rw[StrLaws.sliced_plain x h1 h2]
 split
 ·rename_i h
  rw[StrLaws.strSliceIndices_plain h1 h2]at h
  simp at h
  have hl:x.length=x.cps.toList.length:=by simp[Str.length]
  have e1:i=0:=by exact(Nat.le_antisymm (l40 (Hb W0 X1 (Hd X2 X1 (Hc (.a X2 X3) W0 (Gb X3 Y0)))) rfl h2 h (Nat.sub_add_cancel h1)) (l10 (.P 0 1 (Gb Y0 W0)) rfl))
  have e2:j=x.length:=by exact l40 (Hc W0 X1 (Hc X2 Y0 (Hd (.a W0 X2) X3 (Gf X3 X1)))) rfl h e1 (Nat.sub_add_cancel h1)
  subst e1;subst e2
  rw[List.drop_zero,Nat.sub_zero,hl,List.take_length]
 ·rfl
theorem I4(items:Array Value)(b:Nat):slicePick items none (some (b:Int)) none=(items.toList.take b).toArray:=by
 have e:sliceBounds none (some (b:Int)) none items.size=(((0:Nat):Int),((min b items.size:Nat):Int),1):=by
  simp only[sliceBounds,Option.getD_none]
  have h2:¬((b:Int)<0):=by exact l10 (.P 0 1 (.G .inlt 1 (.c W0) Z0)) rfl
  simp only[h2,if_false,show(1:Int)>0 by decide,if_true]
  congr 1
  congr 1;exact(Int.le_total _ _).elim (fun x3'=>(Nat.le_total _ _).elim (fun x2'=>(Int.le_total _ _).elim (fun x1'=>l22 (He W0 X1 (Hd W0 X1 (He X1 (.c X1) (Ge W0 (.c W0))))) rfl (Int.max_eq_right x3') (Nat.min_eq_left x2') (Int.min_eq_left x1')) (fun x1'=>Int.le_antisymm (l32 (He W0 X1 (Hd W0 X1 (Ha (.c X2) (.c X1) (He X1 (.c X2) (Ga W0 (.c W0)))))) rfl (Int.max_eq_right x3') (Nat.min_eq_left x2') x1' (Int.min_eq_right x1')) (l32 (Hf W0 X1 (Hb W0 X1 (Hc X2 W0 (Hf X1 (.c X1) (Ga (.c X2) W0))))) rfl (Int.max_eq_right x3') x2' (Nat.min_eq_left x2') (Int.min_eq_right x1')))) (fun x2'=>(Int.le_total _ _).elim (fun x1'=>Int.le_antisymm (l32 (He W0 X1 (Hd W0 X1 (Ha (.c X2) (.c X1) (He X1 (.c X2) (Ga W0 (.c W0)))))) rfl (Int.max_eq_right x3') (Nat.min_eq_right x2') x1' (Int.min_eq_left x1')) (l32 (Hf W0 X1 (Hb W0 X1 (Hc X2 W0 (Hf X1 (.c X1) (Ga (.c X2) W0))))) rfl (Int.max_eq_right x3') x2' (Nat.min_eq_right x2') (Int.min_eq_left x1'))) (fun x1'=>l22 (He W0 X1 (Hd W0 X1 (He X1 (.c X1) (Ge W0 (.c W0))))) rfl (Int.max_eq_right x3') (Nat.min_eq_right x2') (Int.min_eq_right x1')))) (fun x3'=>(Nat.le_total _ _).elim (fun x2'=>(Int.le_total _ _).elim (fun x1'=>Int.le_antisymm (l21 (.H .inlt 1 (.c W0) Z0 (He W0 Z0 (Hd X1 W0 (Ga W0 (.c X1))))) rfl h2 (Int.max_eq_left x3') (Nat.min_eq_left x2')) (l22 (Ha W0 Z0 (Hf X1 Z0 (Hc W0 X1 (Hf W0 (.c X1) (Ga (.c W0) X1))))) rfl x3' (Int.max_eq_left x3') (Nat.min_eq_left x2') (Int.min_eq_left x1'))) (fun x1'=>Int.le_antisymm (l21 (.H .inlt 1 (.c W0) Z0 (He W0 Z0 (Hd X1 W0 (Ga W0 (.c X1))))) rfl h2 (Int.max_eq_left x3') (Nat.min_eq_left x2')) (l32 (Ha W0 Z0 (Hf X1 Z0 (Hb W0 X1 (Hc X2 W0 (Hf W0 (.c X1) (Ga (.c X2) X1)))))) rfl x3' (Int.max_eq_left x3') x2' (Nat.min_eq_left x2') (Int.min_eq_right x1')))) (fun x2'=>(Int.le_total _ _).elim (fun x1'=>Int.le_antisymm (l11 (.P 0 1 (He W0 Z0 (Ga W0 (.c W0)))) rfl (Int.max_eq_left x3')) (l32 (Ha W0 Z0 (Hf X1 Z0 (Hb W0 X1 (Hc X2 W0 (Hf W0 (.c X1) (Ga (.c X2) X1)))))) rfl x3' (Int.max_eq_left x3') x2' (Nat.min_eq_right x2') (Int.min_eq_left x1'))) (fun x1'=>Int.le_antisymm (l11 (.P 0 1 (He W0 Z0 (Ga W0 (.c W0)))) rfl (Int.max_eq_left x3')) (l22 (Ha W0 Z0 (Hf X1 Z0 (Hc W0 X1 (Hf W0 (.c X1) (Ga (.c W0) X1))))) rfl x3' (Int.max_eq_left x3') (Nat.min_eq_right x2') (Int.min_eq_right x1')))))
 unfold slicePick
 rw[e]
 simp only[sliceRange_one,pick_run]
 rw[List.drop_zero,Nat.sub_zero]
 congr 1
 rw[List.take_eq_take_iff];simp
noncomputable abbrev MF(xl xu:Value):Obj:={cls:= .type "slice",data:= .fields #[xl,xu, .none]}
theorem MC{E:Value→Shared→Prop}{e i:Expr}{j:Value}{T id:String}(hi:∀o j c,subscripted i c o j=operate [j,o] (getItem o j))(tl:typeLookup (.type T) "__getitem__"=pure (some (.builtin id)))(ti:s.TypeIs x T)
 {Q':Value→Shared→Prop}(h:WP b A (getItem x j) Q' E s):WP b A (NK e i x j) Q' E s:=by
 refine wpAny_bind ?_
 rw[getitemInPython_of_ne ti.not_modules]
 refine wpAny_bind (wpAny_specialOf ti tl (wpAny_pure ?_))
 rw[hi]
 exact wpAny_bind (wpAny_operating (wpAny_mono h (fun r s' q=>wpAny_bind (wpAny_letTemporaryGo (wpAny_pure q))) fun zz zz e=>e))
section
variable{e i':Expr}{sl:Addr}{xl xu:Value}{i j:Int}(hi:∀o j c,subscripted i' c o j=operate [j,o] (getItem o j))(hs:M.P sl=some (MF xl xu))
include hi hs
theorem N3{u:Str}(hx:VR b.w M (vs u) x)(hl:VR b.w M (vi i) xl)(hu:VR b.w M (vi j) xu)(hz:u.length≤1048576)(h0:0≤i)(h1:i≤j)(h2:j≤u.length)(q:Q (vs (CZ u i.toNat j.toNat)) L):SV b M ρ L (NK e i' x (.ref sl)) Q:=by
 obtain⟨tx,rfl⟩:=hx
 obtain⟨t,rfl⟩:=hl
 obtain⟨t2,rfl⟩:=hu
 refine JE.still (vs (CZ u i.toNat j.toNat)) (fun A M₁ s m Q' E l lf z=> ?_) q
 obtain⟨i,rfl⟩:=Int.eq_ofNat_of_zero_le h0
 obtain⟨j,rfl⟩:=Int.eq_ofNat_of_zero_le (Int.le_trans h0 h1)
 have key:=Ry (x:=u) (i:=i) (j:=j) (by exact l20 (Ha (.c W0) (.c X1) (Gb W0 X1)) rfl h1) (by exact l20 (Ha (.c W0) (.c X1) (Gb W0 X1)) rfl h2)
 refine MC hi PyProof.Rows.slot_str_getitem.lookup (typeIs_str _ _ _) (wpAny_getItem_str_slice (l:=some ((i:Int),t)) (u:=some ((j:Int),t2)) (st:=none) ⟨_,lf.st.hP _ _ (l.P _ _ hs),rfl,rfl⟩ rfl (post_val_or_str ⟨Nat.le_trans (Txt.slice_le u (some (i:Int)) (some (j:Int))) (Cj hz),fun t' k=> ?_⟩))
 exact z _ k s.heap (.refl _ _) ⟨t',congrArg (fun s=>Value.str s t') key⟩
theorem N4(hx:VR b.w M a x)(hl:VR b.w M (vi i) xl)(hu:VR b.w M (vi j) xu)(e1:Bp L a=some ts)(h:bO i j Q L ts):SV b M ρ L (NK e i' x (.ref sl)) Q:=by
 refine hid fun Gg gg=> ?_
 obtain⟨h0,h1,h2,q⟩:=h
 obtain⟨t,rfl⟩:=hl
 obtain⟨t2,rfl⟩:=hu
 refine gg ?_
 refine JE.track (.list ((ts.drop i.toNat).take (j.toNat-i.toNat))) (fun A M₁ s m Q' E l lf z=> ?_) q
 refine hid fun Gg gg=> ?_
 obtain⟨c,ws,k,rfl,e2,rv,hz⟩:=A5 lf.st (VR.mono l _ hx) e1
 obtain⟨i,rfl⟩:=Int.eq_ofNat_of_zero_le h0
 obtain⟨j,rfl⟩:=Int.eq_ofNat_of_zero_le (Int.le_trans h0 h1)
 refine gg ?_
 have hlen:=rv.length
 refine MC hi list_getitem_lookup (isL e2).typeIs (wpAny_getItem_list_slice (isL e2) ⟨_,lf.st.hP _ _ (l.P _ _ hs),rfl,rfl⟩ (.int _ _) (.int _ _) .none (by simp) ?_ (Cj (by rw[List.size_toArray];exact(l20 (Hb W0 Yb (Hd W0 X1 (Gb X1 Yb))) rfl hz hlen))))
 rw[slicePick_run ws.toArray i j (by simp;exact(l30 (Ha (.c W0) (.c X1) (Hc X1 X2 (Gb W0 X2))) rfl h2 hlen)) (by exact l20 (Ha (.c W0) (.c X1) (Gb W0 X1)) rfl h1)]
 have n:=ES (b:=b) (h:=s.heap) (o:={cls:= .type "list",data:= .seq ((ws.drop i).take (j-i)).toArray}) rfl
 exact z s.toks _ _ _ n.1 n.2.1 n.2.2 (.list ((rv.drop i).take (j-i)) (by rw[List.length_take,List.length_drop];exact(l30 (Hb W0 Yb (Hb X1 X2 (Hb X2 W0 (Gb X1 Yb)))) rfl hz (Nat.min_le_right _ _) (Nat.sub_le _ _))))
theorem N2(hx:VR b.w M a x)(hl:VR b.w M vn xl)(hu:VR b.w M (vi j) xu)(e1:Bp L a=some ts)(h:bN j Q L ts):SV b M ρ L (NK e i' x (.ref sl)) Q:=by
 obtain⟨h0,q⟩:=h
 obtain rfl:xl= .none:=hl
 obtain⟨t2,rfl⟩:=hu
 refine JE.track (.list (ts.take j.toNat)) (fun A M₁ s m Q' E l lf z=> ?_) q
 refine hid fun Gg gg=> ?_
 obtain⟨c,ws,k,rfl,e2,rv,hz⟩:=A5 lf.st (VR.mono l _ hx) e1
 obtain⟨j,rfl⟩:=Int.eq_ofNat_of_zero_le h0
 refine gg ?_
 have hlen:=rv.length
 refine MC hi list_getitem_lookup (isL e2).typeIs (wpAny_getItem_list_slice (isL e2) ⟨_,lf.st.hP _ _ (l.P _ _ hs),rfl,rfl⟩ .none (.int _ _) .none (by simp) ?_ (Cj (by rw[List.size_toArray];exact(l20 (Hb W0 Yb (Hd W0 X1 (Gb X1 Yb))) rfl hz hlen))))
 rw[I4 ws.toArray j]
 have n:=ES (b:=b) (h:=s.heap) (o:={cls:= .type "list",data:= .seq (ws.take j).toArray}) rfl
 exact z s.toks _ _ _ n.1 n.2.1 n.2.2 (.list (rv.take j) (by rw[List.length_take];exact(l20 (Hb W0 Yb (Hb X1 W0 (Gb X1 Yb))) rfl hz (Nat.min_le_right _ _))))
theorem O8{lo hi':V}(hx:VR b.w M a x)(hl:VR b.w M lo xl)(hu:VR b.w M hi' xu)(h:Fu a lo hi' Q L):SV b M ρ L (NK e i' x (.ref sl)) Q:=by
 refine hid fun Gg gg=> ?_
 obtain⟨j,rfl,g⟩:=AX h
 replace g:=CU g
 obtain⟨t,rfl,g⟩:=g
 refine gg ?_
 cases t with
 |int i=>
  refine hid fun Gg gg=> ?_
  obtain⟨t,rfl,h⟩:=CU (k:=bM i j Q L) g
  refine gg ?_
  cases t with
  |str u=>exact N3 hi hs hx hl hu h.1 h.2.1 h.2.2.1 h.2.2.2.1 h.2.2.2.2
  |fl ts=>exact N4 hi hs hx hl hu rfl h
  |_=>exact h.elim
 |none=>obtain⟨ts,e,h⟩:=AO g;exact N2 hi hs hx hl hu e h
 |_=>exact h.elim
end
noncomputable def Q6(o:Option Expr)(env:Env):Sem Value:=valueOrNone (evalOpt o env)
theorem PZ{e:Expr}{lo hi:Option Expr}{p pos:Pos}{Q1:V→LH→Prop}{Q2:V→V→LH→Prop}(h:SE b M ρ L e Q1)(k:∀M₁ a L₁,MLe M M₁→Q1 a L₁→SV b M₁ ρ L₁ (Q6 lo b.env) (Q2 a))
 (k2:∀M₁ a c L₁,MLe M M₁→Q2 a c L₁→SV b M₁ ρ L₁ (Q6 hi b.env) (fun d L₂=>Fu a c d Q L₂)):SE b M ρ L (.Subscript e (.Slice lo hi none p) pos) Q:=by
 show JE _ _ _ _ (eval (.Subscript e (.Slice lo hi none p) pos) b.env) _ _
 rw[arm_eval_Subscript,arm_eval_Slice]
 refine JE.bind h fun M1 x a L1 l1 vx q1=> ?_
 refine JE.bind (rel:=fun M (c:V×V) v=>∃sl xl xu,v= .ref sl∧M.P sl=some (MF xl xu)∧VR b.w M c.1 xl∧VR b.w M c.2 xu) (Qe:=fun c L'=>Fu a c.1 c.2 Q L') (JE.holding ?_) fun M2 v c L2 l2 hv q2=> ?_
 ·refine JE.bind (k M1 a L1 l1 q1) fun M2 xl c L2 l2 vl q2=>JE.bind (JE.holding (k2 M2 a c L2 (l1.trans l2) q2)) fun M3 xu d L3 l3 vu q3=> ?_
  show JE _ _ _ _ (PySem.holding [xl,xu] (pure Value.none)>>=fun s=>newFields "slice" [xl,xu,s]) _ _
  refine JE.bind (rel:=fun _ (_:Unit) v=>v=Value.none) (Qe:=fun zz L'=>Fu a c d Q L') (JE.holding (JE.pure (x:=()) (fun zz zz=>rfl) q3)) fun M4 v zz L4 l4 hv q4=> ?_
  subst hv
  refine JE.make (c,d) (fun A M₅ s m Q' E l lf z=> ?_) q4
  have n:=ES (b:=b) (h:=s.heap) (o:=MF xl xu) rfl
  exact wpAny_newObj_type (z _ s.toks _ _ _ n.1 n.2.1 n.2.2 fun le=>⟨_,xl,xu,rfl,BL,VR.mono (((l3.trans l4).trans l).trans le) _ vl,VR.mono ((l4.trans l).trans le) _ vu⟩)
 ·refine hid fun Gg gg=> ?_
  obtain⟨sl,xl,xu,rfl,hs,hl,hu⟩:=hv
  refine gg ?_
  exact JE.stand (O8 (fun o j b=>rfl) hs (VR.mono l2 _ vx) hl hu q2)
theorem V7{i:Int}(hx:VR b.w M (vi i) x)(q:Q (vi (-i)) L):SV b M ρ L (unaryOp .USub x) Q:=by
 obtain⟨t,rfl⟩:=hx
 exact C7 (fun A s Q' E z=>PyProof.Rows.neg_int (z _ _)) q
end
end
section
noncomputable def cF:Nat→Nat→List Nat
 |0,_=>[]
 |k+1,n=>bif Nat.beq n 0 then[]else(n%128-1)::cF k (n/128)
noncomputable def dec(n:Nat):Str:=⟨(cF 40 n).toArray⟩
noncomputable def GE(n:Nat):Bool:=okS (dec n)&&Nat.beq (cd (dec n)) n
theorem LI{n:Nat}{name:Str}(h:GE n=true)(ok:okS name=true)(e:cd name=n):name=dec n:=by
 obtain⟨h1,h2⟩:=Bool.and_eq_true_iff.mp h
 exact Dx ok h1 (e.trans (Nat.eq_of_beq_eq_true h2).symm)
theorem Pm(P:Params):(Uf.all fun e=>GE e.2.1&&(J9 (KT P) e.1 (dec e.2.1) e.2.2&&keepIn (KT P) (.ref e.2.2)))=true:=by kernel_rfl
theorem OV(P:Params):(Qc.all fun e=>GE e.2&&Je (KT P) e.1 (dec e.2))=true:=by kernel_rfl
theorem W4(P:Params):(fnA.all fun a=>keepIn (KT P) (.ref a))=true:=by kernel_rfl
theorem Ql(P:Params):(readsIn (KT P) 520 (.type "type")&&(specialIn (KT P) (.ref 520) "__getattribute__"==some (some (.builtin "type.__getattribute__"))))=true:=by kernel_rfl
theorem W8(P:Params):(readsIn (KT P) 817 (.type "type")&&(specialIn (KT P) (.ref 817) "__getattribute__"==some (some (.builtin "type.__getattribute__"))))=true:=by kernel_rfl
theorem Te(P:Params):findCls (KT P) (.ref 520) (.type "type") "of"=some (.get (.builtin "staticmethod.__get__") (.ref 405) .none (.ref 520)):=by kernel_rfl
theorem OT(P:Params):findCls (KT P) (.ref 520) (.type "type") "made"=some (.get (.builtin "staticmethod.__get__") (.ref 425) .none (.ref 520)):=by kernel_rfl
theorem OU(P:Params):findCls (KT P) (.ref 817) (.type "type") "__init__"=some (.val (.ref 709)):=by kernel_rfl
theorem WZ(P:Params):(recIn (KT P) 405 "staticmethod").map (·.head?)=some (some (.ref 403)):=by kernel_rfl
theorem Pc(P:Params):(recIn (KT P) 425 "staticmethod").map (·.head?)=some (some (.ref 423)):=by kernel_rfl
section
variable{b:Bc}{A:Around}{M:Mp}{s:Shared}{ρ:Rho}{L:LH}{x y z:Value}{v u a:V}{name:Str}{f:Sum V Bi}{first:List V}{C:Addr}{k:Bi}{fa:Addr}
noncomputable def Top(b:Bc)(P:PH):Prop:=∀a o,(KT b.w.params).lookup a=some o→P a=some o
theorem JE.top{α β:Type}{t:Sem α}{rel:Mp→β→α→Prop}{Q:β→LH→Prop}(h:∀M',MLe M M'→Top b M'.P→JE b M' ρ L t rel Q):JE b M ρ L t rel Q:=fun A M₁ s E l am st ex=>h M₁ l (fun a o e=>st.kP e) A M₁ s E (.refl _) am st ex
theorem HO{P:PH}{f:Value}(hP:Top b P)(hk:keepIn (KT b.w.params) f=true):Cq b P f:=fun h hh=>keeps_K hk h fun a o e=>hh a o (hP a o e)
theorem TH{l:List Nat}{a:Nat}(h:(l.any fun c=>Nat.beq c a)=true):a∈l:=by
 obtain⟨c,h1,h2⟩:=List.any_eq_true.mp h
 exact Nat.eq_of_beq_eq_true h2▸h1
theorem Km(hP:Top b M.P)(hx:VR b.w M v x)(h:Uo v=true):Cq b M.P x:=by
 cases v with
 |t z=>cases z with
  |fn a=>
   cases hx
   exact HO hP (List.all_eq_true.mp (W4 b.w.params) _ (TH h))
  |_=>exact absurd h Bool.false_ne_true
 |clo us i=>
  cases hx with
  |mk g=>exact fun hh hP=>⟨.frame, .inl rfl,(Looks.ld (part:=none) (hP _ _ g)).andThen .now⟩
 |_=>exact absurd h Bool.false_ne_true
theorem Ds(ok:okS name=true)(h:Fv C (cd name)=true):Gq (KT b.w.params) C name:=by
 obtain⟨e,h1,h2⟩:=List.any_eq_true.mp h
 obtain⟨h3,h4⟩:=Bool.and_eq_true_iff.mp h2
 obtain⟨h5,h6⟩:=Bool.and_eq_true_iff.mp (List.all_eq_true.mp (OV b.w.params) e h1)
 rw[LI h5 ok (Nat.eq_of_beq_eq_true h4).symm,←Nat.eq_of_beq_eq_true h3]
 exact Lo h6
theorem Po(ok:okS name=true)(h:Ui C (cd name)=some fa):J9 (KT b.w.params) C name fa=true∧keepIn (KT b.w.params) (.ref fa)=true:=by
 obtain⟨e,he,rfl⟩:=Option.map_eq_some_iff.mp h
 obtain⟨h3,h4⟩:=Bool.and_eq_true_iff.mp (List.find?_some (p:=fun e:Addr×Nat×Addr=>Nat.beq e.1 C&&Nat.beq e.2.1 (cd name)) he)
 obtain⟨h5,h6⟩:=Bool.and_eq_true_iff.mp (List.all_eq_true.mp (Pm b.w.params) e (List.mem_of_find?_eq_some he))
 rw[LI h5 ok (Nat.eq_of_beq_eq_true h4).symm,←Nat.eq_of_beq_eq_true h3]
 exact Bool.and_eq_true_iff.mp h6
noncomputable def UO(b:Bc)(M:Mp)(ρ:Rho)(L:LH)(x:Value)(name:Str)(fx:Value)(first:List Value):Prop:=
 ∀A M₁ s pl (Q:Value×List Value→Shared→Prop) E,MLe M M₁→Sx b A M₁ ρ L s→(∀tk,Q (fx,first) {s with toks:=tk})→WP b A (getMethod x name pl) Q E s
noncomputable def cb(b:Bc)(M:Mp)(x:Value):Sum V Bi→Prop
 | .inl g=>VR b.w M g x∧Cq b M.P x
 | .inr c=>x=Hr c
inductive Cr(b:Bc)(M:Mp)(ρ:Rho)(L:LH)(x:Value)(name:Str)(f:Sum V Bi)(first:List V):Prop
 |mk {fx:Value}{fs:List Value}:UO b M ρ L x name fx fs→VRs b.w M first fs→cb b M fx f→Cr b M ρ L x name f first
noncomputable def Ty(s:Shared)(x:Value)(T:String):Prop:=s.TypeIs x T∧∀a,x= .ref a→∃o,s.heap.get? a=some o∧o.dict=none
noncomputable def TyV(b:Bc)(ρ:Rho)(L:LH)(v:V)(T:String):Prop:=∀A M s x,Sx b A M ρ L s→VR b.w M v x→Ty s x T
theorem MW{ts:List Tr}(e:Bp L v=some ts):TyV b ρ L v "list":=fun A M s x st hx=>by
 obtain⟨a,ws,k,rfl,e,_⟩:=A5 st hx e
 exact⟨(isL e).typeIs,fun a' e'=>by cases e';exact⟨_,e,rfl⟩⟩
theorem JP{es:List Int×List Tr}(e:GM L v=some es):TyV b ρ L v "dict":=fun A M s x st hx=>by
 obtain⟨a,ws,rfl,hD,_⟩:=DT st hx e
 exact⟨hD.typeIs,fun a' e'=>by cases e';obtain⟨o,es',ep,ho,hx,_⟩:=hD;exact⟨o,ho,hx.2.1⟩⟩
theorem QF{i:Nat}{xs:List Int}(e:L[i]? =some (.set xs)):TyV b ρ L (.ref i) "set":=fun A M s x st hx=>by
 obtain⟨c,o,f1,_,f2,pl,es,ep,rfl,hp,rfl,he⟩:=st.look e (by intro xx;contradiction)
 obtain⟨a,e1,rfl⟩:=hx
 rw[e1]at f1;cases f1
 exact⟨⟨_,f2,rfl⟩,fun a' e'=>by cases e';exact⟨_,f2,rfl⟩⟩
theorem Vv{u:Str}:TyV b ρ L (vs u) "str":=fun A M s x st hx=>by
 obtain⟨t,rfl⟩:=hx
 exact⟨typeIs_str _ _ _,fun a' e'=>by cases e'⟩
theorem Vu{ts:List Tr}:TyV b ρ L (.t (.tup ts)) "tuple":=fun A M s x st hx=>by
 obtain⟨a,ws,rfl,⟨⟨o,n,e,c,_⟩,_⟩,_⟩:=hx
 exact⟨⟨_,st.hP _ _ e,c.1⟩,fun a' e'=>by cases e';exact⟨_,st.hP _ _ e,c.2⟩⟩
theorem IF{T id:String}(hx:VR b.w M a x)(slot:Slot T name id)(hty:typeOf (.builtin id)=pure (.type "method_descriptor"))(pa:PlainAttrs T)(ti:TyV b ρ L a T)(hb: .builtin id=Hr k):Cr b M ρ L x name (.inr k) [a]:=
 .mk (fun A M₁ s pl Q E l st h=>have t:=ti A M₁ s x st (VR.mono l _ hx);getMethod_builtin t.1 pa slot hty t.2 (h s.toks)) ⟨hx,rfl⟩ hb
theorem Bq{n:Nat}{zs:Str}{o:MR}(ok:okS name=true)(h:(bif Nat.beq (cd name) n then some (.inr k,[a])else o)=some (f,first))(hz:Nat.beq (cd zs) n=true)(okz:okS zs=true)(hm:name=zs→Cr b M ρ L x name (.inr k) [a])
 (r:o=some (f,first)→Cr b M ρ L x name f first):Cr b M ρ L x name f first:=by
 cases e:Nat.beq (cd name) n with
 |true=>
  rw[e]at h
  cases h
  exact hm (Dx ok okz ((Nat.eq_of_beq_eq_true e).trans (Nat.eq_of_beq_eq_true hz).symm))
 |false=>rw[e]at h;exact r h
theorem Ms{es:List Int×List Tr}(ok:okS name=true)(hx:VR b.w M a x)(hd:GM L a=some es)(h:Q8 a (cd name)=some (f,first)):Cr b M ρ L x name f first:=
 Bq (zs:="get") ok h (by kernel_rfl) (by kernel_rfl) (fun e=>by subst e;exact IF hx PySem.F.slot_dict_get PySem.F.type_dict_get PySem.F.plainAttrs_dict (JP hd) rfl) fun h=>
 Bq (zs:="keys") ok h (by kernel_rfl) (by kernel_rfl) (fun e=>by subst e;exact IF hx PySem.F.slot_dict_keys PySem.F.type_dict_keys PySem.F.plainAttrs_dict (JP hd) rfl) fun h=>
 Bq (zs:="values") ok h (by kernel_rfl) (by kernel_rfl) (fun e=>by subst e;exact IF hx PySem.F.slot_dict_values PySem.F.type_dict_values PySem.F.plainAttrs_dict (JP hd) rfl) nos
theorem TD{i:Nat}{ts:List Tr}(ok:okS name=true)(hx:VR b.w M (.ref i) x)(e:L[i]? =some (.list ts))(h:UF L i (cd name) (some (.list ts))=some (f,first)):Cr b M ρ L x name f first:=
 have t:TyV b ρ L (.ref i) "list":=MW (show GL L[i]? =some ts by rw[e];rfl)
 Bq (zs:="append") ok h (by kernel_rfl) (by kernel_rfl) (fun e=>by subst e;exact IF hx PySem.F.slot_list_append PySem.F.type_list_append PySem.F.plainAttrs_list t rfl) fun h=>
 Bq (zs:="pop") ok h (by kernel_rfl) (by kernel_rfl) (fun e=>by subst e;exact IF hx PySem.F.slot_list_pop PySem.F.type_list_pop PySem.F.plainAttrs_list t rfl) fun h=>
 Bq (zs:="reverse") ok h (by kernel_rfl) (by kernel_rfl) (fun e=>by subst e;exact IF hx PySem.F.slot_list_reverse PySem.F.type_list_reverse PySem.F.plainAttrs_list t rfl) nos
theorem Wj{i:Nat}{xs:List Int}(ok:okS name=true)(hx:VR b.w M (.ref i) x)(e:L[i]? =some (.set xs))(h:UF L i (cd name) (some (.set xs))=some (f,first)):Cr b M ρ L x name f first:=
 Bq (zs:="add") ok h (by kernel_rfl) (by kernel_rfl) (fun q=>by subst q;exact IF hx PySem.F.slot_set_add PySem.F.type_set_add PySem.F.plainAttrs_set (QF e) rfl) fun h=>
 Bq (zs:="update") ok h (by kernel_rfl) (by kernel_rfl) (fun q=>by subst q;exact IF hx PySem.F.slot_set_update PySem.F.type_set_update PySem.F.plainAttrs_set (QF e) rfl) nos
theorem Mr{o:Option V}{ks:List Nat}{vl:List V}(hP:Top b M.P)(ok:okS name=true)(hx:VR b.w M a x)(hi:∀A M₁ s,Sx b A M₁ ρ L s→VR b.w M₁ a x→JK b.w M₁ s.heap C ks vl x)(ho:o=Ho ks vl (cd name))
 (h:Q7 a C o.isSome (cd name)=some (f,first)):Cr b M ρ L x name f first:=by
 cases o with
 |some o=>exact nos h
 |none=>
  obtain⟨g,hg,e⟩:=Option.map_eq_some_iff.mp h
  cases e
  have m:=Po (b:=b) ok hg
  exact .mk (fun A M₁ s pl Q E l st h=>TG st (hi A M₁ s st (VR.mono l _ hx)) m.1 ho.symm (h s.toks)) ⟨hx,rfl⟩ ⟨rfl,HO hP m.2⟩
theorem Fk{C p f:Addr}(hr:(readsIn (KT b.w.params) C (.type "type")&&(specialIn (KT b.w.params) (.ref C) "__getattribute__"==some (some (.builtin "type.__getattribute__"))))=true)
 (hf:findCls (KT b.w.params) (.ref C) (.type "type") name=some (.get (.builtin "staticmethod.__get__") (.ref p) .none (.ref C)))(hp:(recIn (KT b.w.params) p "staticmethod").map (·.head?)=some (some (.ref f))):
 UO b M ρ L (.ref C) name (.ref f) []:=fun A M₁ s pl Q E l st h=>by
 obtain⟨rest,h1,h2⟩:=Option.map_eq_some_iff.mp hp
 obtain⟨hr,hg⟩:=Bool.and_eq_true_iff.mp hr
 cases rest with
 |nil=>exact nos h2
 |cons y rest=>
  obtain rfl:=Option.some.inj h2
  refine method_cls st.kIn (eq_of_beq hg) (cls_bind st.kIn hr hf ?_)
  refine wpAny_call (sm_get (s:={s with toks:=s.toks+1}) st.kIn h1 ?_)
  exact handed_on rfl (h _)
theorem Ll{C f:Addr}(hr:(readsIn (KT b.w.params) C (.type "type")&&(specialIn (KT b.w.params) (.ref C) "__getattribute__"==some (some (.builtin "type.__getattribute__"))))=true)
 (hf:findCls (KT b.w.params) (.ref C) (.type "type") name=some (.val (.ref f))):UO b M ρ L (.ref C) name (.ref f) []:=fun A M₁ s pl Q E l st h=>by
 obtain⟨hr,hg⟩:=Bool.and_eq_true_iff.mp hr
 exact method_cls st.kIn (eq_of_beq hg) (cls_value st.kIn hr hf rfl (h _))
theorem Ja(hP:Top b M.P)(h:Up (.fn fa)=true):cb b M (.ref fa) (.inl (.t (.fn fa))):=⟨rfl,Km (v:= .t (.fn fa)) hP rfl h⟩
theorem RZ{α:Type}{k n:Nat}{p q:Option α}{r:α}{G:Prop}(h:(bif Nat.beq k n then p else q)=some r)(g:k=n→p=some r→G)(g2:q=some r→G):G:=by
 cases e:Nat.beq k n with
 |true=>rw[e]at h;exact g (Nat.eq_of_beq_eq_true e) h
 |false=>rw[e]at h;exact g2 h
theorem JX{zs:Str}{n:Nat}(ok:okS name=true)(e:cd name=n)(hz:(Nat.beq (cd zs) n&&okS zs)=true):name=zs:=by
 obtain⟨h1,h2⟩:=Bool.and_eq_true_iff.mp hz
 exact Dx ok h2 (e.trans (Nat.eq_of_beq_eq_true h1).symm)
theorem Wk{c:Addr}(hP:Top b M.P)(ok:okS name=true)(h:bd c (cd name)=some (f,first)):Cr b M ρ L (.ref c) name f first:=
 RZ h (fun e h=>e▸RZ h (fun e h=>by
  cases h;cases JX (zs:="of") ok e (by kernel_rfl);exact .mk (Fk (Ql _) (Te _) (WZ _)) rfl (Ja hP rfl)) fun h=>RZ h (fun e h=>by
  cases h;cases JX (zs:="made") ok e (by kernel_rfl);exact .mk (Fk (Ql _) (OT _) (Pc _)) rfl (Ja hP rfl)) nos)
  fun h=>RZ h (fun e h=>e▸RZ h (fun e h=>by
   cases h;cases JX (zs:="__init__") ok e (by kernel_rfl);exact .mk (Ll (W8 _) (OU _)) rfl (Ja hP rfl)) nos) nos
theorem TF(hP:Top b M.P)(ok:okS name=true)(hx:VR b.w M a x)(h:Nc L (cd name) a=some (f,first)):Cr b M ρ L x name f first:=by
 cases a with
 |t z=>cases z with
  |fi C ks ts=>
   refine Mr hP ok hx (fun A M₁ s st=>Kq st) (o:=(Oo ks ts (cd name)).map .t) Jf ?_
   rw[Option.isSome_map]
   exact h
  |fl ts=>exact Bq (zs:="index") ok h (by kernel_rfl) (by kernel_rfl) (fun e=>by subst e;exact IF hx PySem.F.slot_list_index PySem.F.type_list_index PySem.F.plainAttrs_list (MW rfl) rfl) nos
  |fd ks ts=>exact Ms ok hx rfl h
  |str u=>exact Bq (zs:="join") ok h (by kernel_rfl) (by kernel_rfl) (fun e=>by subst e;exact IF hx PySem.F.slot_str_join PySem.F.type_str_join PySem.F.plainAttrs_str Vv rfl) nos
  |tup ts=>exact Bq (zs:="index") ok h (by kernel_rfl) (by kernel_rfl) (fun e=>by subst e;exact IF hx PySem.F.slot_tuple_index PySem.F.type_tuple_index PySem.F.plainAttrs_tuple Vu rfl) nos
  |fn c=>cases hx;exact Wk hP ok h
  |_=>exact nos h
 |ref i=>
  have h:UF L i (cd name) L[i]? =some (f,first):=h
  generalize e:L[i]? =o at h
  cases o with
  |none=>exact nos h
  |some o=>cases o with
   |inst C=>
    have h:Uh i C (cd name) L[i+1]? =some (f,first):=h
    generalize e':L[i+1]? =o at h
    cases o with
    |none=>exact nos h
    |some o=>cases o with
     |flds fs=>exact Mr hP ok hx (fun A M₁ s st hx=>Kr st hx e e') JT h
     |_=>exact nos h
   |list ts=>exact TD ok hx e h
   |set xs=>exact Wj ok hx e h
   |dict es=>exact Ms ok hx (show UI L[i]? =some (es.map Prod.fst,es.map Prod.snd) by rw[e];rfl) h
   |_=>exact nos h
 |_=>exact nos h
end
end
section
theorem FT{k x:Nat}{v:V}:∀{ρ:Rho},AW (Bk ρ k v) x=bif Nat.beq k x then some v else AW ρ x
 |[]=>rfl
 |p::r=>by
  unfold Bk
  cases e:Nat.beq p.1 k with
  |true=>
   have e:=Nat.eq_of_beq_eq_true e
   show(bif Nat.beq p.1 x then some v else AW r x)=bif Nat.beq k x then some v else(bif Nat.beq p.1 x then some p.2 else AW r x)
   rw[e]
   cases Nat.beq k x<;>rfl
  |false=>
   show(bif Nat.beq p.1 x then some p.2 else AW (Bk r k v) x)=bif Nat.beq k x then some v else(bif Nat.beq p.1 x then some p.2 else AW r x)
   rw[FT]
   cases e2:Nat.beq k x with
   |true=>
    have e2:=Nat.eq_of_beq_eq_true e2
    subst e2
    rw[e];rfl
   |false=>rfl
section
variable{b:Bc}{A:Around}{M:Mp}{s s':Shared}{ρ ρ':Rho}{L:LH}{x y:Value}{v u:V}{Q:Rho→LH→Prop}
theorem JR{x z:Str}(ok:okS z=true)(ok':okS x=true)(h:AW (Bk ρ (cd z) v) (cd x)=some u):(x=z∧u=v)∨(x≠z∧AW ρ (cd x)=some u):=by
 rw[FT,Hn ok ok']at h
 cases e:z==x with
 |true=>rw[e]at h;exact .inl ⟨(eq_of_beq e).symm,(Option.some.inj h).symm⟩
 |false=>rw[e]at h;exact .inr ⟨fun q=>ne_of_beq_false e q.symm,h⟩
theorem Sx.own(st:Sx b A M ρ L s){a:Addr}(na:M.P a=none∧a∉M.φ)(ho:a=b.env.locals∨Ed b a)(k:∀c o,c≠a→s.heap.get? c=some o→s'.heap.get? c=some o)(fr:Bl A a→∃o es n,s'.heap.get? a=some o∧o.data= .dict es n)
 (var:∃m,s'.heap.Ns b.env.locals m∧∀x v,okS x=true→AW ρ' (cd x)=some v→LN b M s'.heap m x v)(cel:∀x c,b.env.cells.lookup x=some c→∃y,s'.heap.IsCell c y)(g:s'.gens=s.gens)(os:s'.os=s.os):Sx b A M ρ' L s'∧Go b A M s M s':=
 ⟨⟨fun c o e=>k c o (fun q=>by rw[q,na.1]at e;cases e) (st.hP _ _ e),st.top,st.len,fun j y ej=>(st.hL j y ej).imp fun c z=>z.imp fun o z=>⟨z.1,k c o (fun q=>na.2 (q▸List.mem_of_getElem? z.1)) z.2.1,z.2.2⟩,st.nd,fun c h=>by
  refine hid fun Gg gg=> ?_
  obtain⟨f1,f2,o,es,n,f3,f4⟩:=st.fr c h
  refine gg ?_
  refine⟨f1,f2, ?_⟩
  by_cases q:c=a
  ·subst q;exact fr h
  ·exact⟨o,es,n,k c o q f3,f4⟩,var,st.loc,fun x c e=>⟨cel x c e,(st.cel x c e).2⟩,g.trans st.gens,os.trans st.os⟩,
  .refl _,fun zz zz zz h=> .inr (.inr h.old),fun c o h e=> .same (k c o (fun q=>h (q▸⟨na.1,ho.elim .inl fun h=> .inr (.inl h)⟩)) e)⟩
theorem J.store{z:Str}(ok:okS z=true)(hk:b.env.kindOf z=some .local∨b.env.kindOf z=some .cell)(hv:VR b.w M v y)(q:Q (Bk ρ (cd z) v) L):J b M ρ L (storeName b.env z y) FB fun zz=>Q:=by
 intro A M₁ s E l am st ex
 obtain⟨m,hn,hvar⟩:=st.var
 rcases hk with hk|hk
 ·refine wpAny_storeName_local hk hn (fun h' hn' hs=> ?_) (by rw[am.kind];rfl)
  have r:=st.own (s':={s with heap:=h',toks:=s.toks+1}) (ρ':=Bk ρ (cd z) v) st.loc (.inl rfl) (fun c o n e=>(hs.2 c n).trans e) (fun zz=>let⟨o,es,n,e1,e2,_⟩:=hn';⟨o,es,n,e1,e2⟩) ⟨_,hn',fun x u ok' e=>by
   rcases JR ok ok' e with⟨rfl,rfl⟩|⟨nx,e⟩
   ·exact .inl ⟨hk,y,if_pos rfl,VR.mono l _ hv⟩
   ·rcases hvar x u ok' e with⟨a,y',c,d⟩|⟨a,c,y',d,⟨o,e1,e2⟩,f⟩
    ·exact .inl ⟨a,y',(if_neg nx).trans c,d⟩
    ·exact .inr ⟨a,c,y',d,⟨o,(hs.2 _ (st.cel x c d).2.2.1).trans e1,e2⟩,f⟩⟩ (fun x c e=>let⟨⟨y',o,d,d2⟩,n⟩:=st.cel x c e;⟨y',o,(hs.2 _ n.2.1).trans d,d2⟩) rfl rfl
  exact .mk (x:=()) r.2 r.1 trivial q
 ·obtain⟨c,hc⟩:=am.has z hk
  obtain⟨⟨v0,hv0⟩,b1,b2,b3,b4⟩:=st.cel z c hc
  refine wpAny_storeName_cell am.kind hk hc hv0 (fun h' hn' hs=> ?_)
  have r:=st.own (s':={s with heap:=h'}) (ρ':=Bk ρ (cd z) v) ⟨b3 hk,b1⟩ (.inr ⟨z,hc,hk⟩) (fun d o n e=>(hs.2 d n).trans e) (fun f=>by
   obtain⟨_,_,o,es,n,e1,e2⟩:=st.fr c f
   obtain⟨o',e3,e4⟩:=hv0
   rw[e1]at e3;cases e3;rw[e2]at e4;cases e4) ⟨m,hn.sameBut hs b2.symm,fun x u ok' e=>by
   rcases JR ok ok' e with⟨rfl,rfl⟩|⟨nx,e⟩
   ·exact .inr ⟨.inl hk,c,y,hc,hn',VR.mono l _ hv⟩
   ·rcases hvar x u ok' e with⟨a,y',c,d⟩|⟨a,c',y',d,⟨o,e1,e2⟩,f⟩
    ·exact .inl ⟨a,y',c,d⟩
    ·exact .inr ⟨a,c',y',d,⟨o,(hs.2 _ fun q=>nx (am.inj x z c (by rw[←q];exact d) hc)).trans e1,e2⟩,f⟩⟩ (fun x c' e=>by
   obtain⟨⟨y',o,d,d2⟩,_⟩:=st.cel x c' e
   by_cases nc:c'=c
   ·subst nc;exact⟨_,hn'⟩
   ·exact⟨y',o,(hs.2 _ nc).trans d,d2⟩) rfl rfl
  exact .mk (x:=()) r.2 r.1 trivial q
noncomputable def Dv(env:Env)(z:Str):Bool:=okS z&&(env.kindOf z==some .local||env.kindOf z==some .cell)
theorem J.bindN{z:Str}(ok:Dv b.env z=true)(hv:VR b.w M v y)(q:Q (Bk ρ (cd z) v) L):J b M ρ L (bindName b.env z y) FB fun zz=>Q:=by
 simp only[Dv,Bool.and_eq_true,Bool.or_eq_true,beq_iff_eq]at ok
 have key:=J.store (b:=b) (Q:=Q) ok.1 ok.2 hv q
 exact fun A M₁ s E l am st ex=>wpAny_bindName (key A M₁ s E l am st ex)
theorem J.assignN{z:Str}{pos:Pos}(ok:Dv b.env z=true)(hv:VR b.w M v y)(q:Q (Bk ρ (cd z) v) L):J b M ρ L (assign (.Name z pos) b.env y) FB fun zz=>Q:=by
 rw[arm_assign_Name]
 exact J.stand (J.bindN ok hv q)
noncomputable def GF(env:Env):List Expr→List Nat→Prop
 |[],ks=>ks=[]
 |e::es,ks=>(∃z p,e= .Name z p∧Dv env z=true∧ks.head? =some (cd z))∧GF env es ks.tail
theorem Kh:∀{es:List Expr}{ks:List Nat},GF b.env es ks→(assignEach es b.env).length=es.length∧(assignEach es b.env).findIdx? (·.1)=none∧ks.length=es.length
 |[],_,h=>by cases h;exact⟨rfl,rfl,rfl⟩
 |_::es,[],⟨⟨z,p,_,_,h⟩,_⟩=>nos h
 |_::es,k::ks,⟨⟨z,p,rfl,_,_⟩,h⟩=>by
  obtain⟨i1,i2,i3⟩:=Kh h
  have e:assignEach (.Name z p::es) b.env=(false,assign (.Name z p) b.env)::assignEach es b.env:=rfl
  rw[e]
  exact⟨congrArg (· +1) i1,by rw[List.findIdx?_cons];simp[i2],congrArg (· +1) i3⟩
theorem J.order:∀{es:List Expr}{ks:List Nat}{us:List Tr}{ys:List Value}{M:Mp}{ρ:Rho}{L:LH},GF b.env es ks→es.length=us.length→PRs b.w M.P us ys→Q (D4 ρ ks us) L→
 J b M ρ L (assignInOrder ((assignEach es b.env).map (·.2)) ys) FB fun zz=>Q
 |[],_,_,ys,_,_,_,h,hl,hv,q=>by
  cases h
  cases List.eq_nil_of_length_eq_zero hl.symm
  cases hv
  exact J.pure (x:=()) (fun zz zz=>trivial) q
 |_::es,[],_,_,_,_,_,⟨⟨z,p,_,_,h⟩,_⟩,_,_,_=>nos h
 |_::es,k::ks,[],_,_,_,_,h,hl,_,_=>absurd hl (Nat.succ_ne_zero _)
 |_::es,k::ks,u::us,[],_,_,_,h,hl,hv,_=>hv.elim
 |_::es,k::ks,u::us,y::ys,M,ρ,L,⟨⟨z,p,rfl,ok,hk⟩,h⟩,hl,hv,q=>by
  cases hk
  show J _ _ _ _ (PySem.holding _ (assign (.Name z p) b.env _)>>=fun zz=>assignInOrder ((assignEach es b.env).map (·.2)) _) _ _
  exact J.bind (J.holding (J.assignN (v:= .t u) (Q:=fun ρ' L'=>ρ'=Bk ρ (cd z) (.t u)∧L'=L) ok hv.1 ⟨rfl,rfl⟩)) fun M1 _ _ ρ1 L1 l1 _ ⟨e1,e2⟩=>e1▸e2▸J.order h (Nat.succ.inj hl) (PRs.mono l1.P _ hv.2) q
theorem J.assignT{es:List Expr}{ks:List Nat}{c:Nat}{pos:Pos}{us:List Tr}(h:GF b.env es ks)(hl:us.length=ks.length)(hv:VR b.w M (.t (.tup us)) y)(q:Q (D4 ρ ks us) L):J b M ρ L (assign (.Tuple es c pos) b.env y) FB fun zz=>Q:=by
 rw[arm_assign_Tuple]
 refine J.stand ?_
 obtain⟨e1,e2,e3⟩:=Kh h
 unfold unpack
 rw[e1,e2]
 refine JE.bindS (rel:=fun M (_:Unit) ys=>PRs b.w M.P us ys) (Qe:=fun zz L'=>L'=L) (JE.holding (JE.still () (fun A M₁ s m Q' E l lf z=> ?_) rfl)) fun M1 ys zz L1 l1 hy e=> ?_
 ·obtain⟨a,ws,rfl,hlw,rv,hz⟩:=ER lf.st (PR.mono l.P _ hv)
  have e:es.length=ws.toArray.size:=by rw[List.size_toArray,←rv.length,hl,e3]
  rw[e]
  exact wpAny_unpackItems_tuple lf.am.hand hlw fun h' k=>z _ s.toks h' (.of fun b o eb=>k b o (Nat.ne_of_lt (Heap.lt_size eb)) eb) rv
 ·subst e
  exact J.order h (e3.symm.trans hl.symm) hy q
theorem Go.grow{M':Mp}(l:MLe M M')(h:∀a,New M M' a→a∈M.φ):Go b A M s M' s:=⟨l,fun zz zz zz e=> .inr (.inr (h _ e)),fun zz zz zz e=> .same e⟩
theorem Go.add{a:Addr}{o:Obj}(pm:M.P a=none)(h:a∈M.φ):Go b A M s ⟨M.P.add a o,M.φ⟩ s:= .grow (.add pm) fun c n=>n.elim id fun n=>by rw[show c=a from Decidable.byContradiction fun q=>n.2 ((CY q).trans n.1)];exact h
theorem Sx.off(st:Sx b A M ρ L s){a:Addr}(h:a∈M.φ):¬Bl A a∧a≠b.env.locals∧∀x c,b.env.cells.lookup x=some c→c≠a:=
 ⟨fun f=>(st.fr a f).2.1 h,fun q=>st.loc.2 (q▸h),fun x c e q=>(st.cel x c e).2.1 (q▸h)⟩
set_option tactic.hygienic true in
theorem Sx.gone(st:Sx b A M ρ L s){i:Nat}{a:Addr}{o:Obj}(em:M.φ[i]? =some a)(pm:M.P a=none)(e:s.heap.get? a=some o)(nc:∀v,o.data≠ .cell v):Sx b A ⟨M.P.add a o,M.φ⟩ ρ (L.set i .gone) s:=
 st.grow (.add pm) (fun c d h=>(BV h).elim (fun⟨q,q2⟩=> .inr (by subst q;subst q2;exact⟨e,st.off (List.mem_of_getElem? em)⟩)) fun q=> .inl q.2) (fun zz h=> .inl h) (by rw[List.length_set];exact st.len) st.nd
  fun j x ex=>by
   rw[List.getElem?_set]at ex
   split at ex
   ·rename_i q;subst q
    split at ex
    ·cases ex;exact⟨a,o,em,e, .inl ⟨rfl,nc⟩⟩
    ·cases ex
   ·rename_i q
    refine(st.hL j x ex).imp fun c z=>z.imp fun o z=>⟨z.1,z.2.1,z.2.2.imp id fun y=>⟨(CY fun q2=>q ?_).trans y.1,y.2.mono (.add pm)⟩⟩
    subst q2
    exact(List.getElem?_inj (List.getElem?_eq_some_iff.mp em).1 st.nd).mp (em.trans z.1.symm)
inductive Frz(b:Bc)(A:Around)(M:Mp)(s:Shared)(ρ:Rho)(L':LH)(R:Mp→Prop):Prop
 |mk {M':Mp}:Go b A M s M' s→Sx b A M' ρ L' s→R M'→Frz b A M s ρ L' R
theorem MO(st:Sx b A M ρ L s)(hv:VR b.w M v x):Frz b A M s ρ (frz L v).2 fun M'=>VR b.w M' (frz L v).1 x:=by
 cases v with
 |ref i=>
  show Frz b A M s ρ (Re L i L[i]?).2 fun M'=>VR b.w M' (Re L i L[i]?).1 x
  refine hid fun Gg gg=> ?_
  obtain⟨c,e1,rfl⟩:=hv
  refine gg ?_
  cases e:L[i]? with
  |none=>exact .mk (.refl _) st ⟨c,e1,rfl⟩
  |some o=>cases o with
   |list ts=>
    refine hid fun Gg gg=> ?_
    obtain⟨a,o,f1,p,f2,ws,n,rfl,f3,hz⟩:=st.look e (by intro xx;contradiction)
    refine gg ?_
    rw[e1]at f1;cases f1
    exact .mk (.add p (List.mem_of_getElem? e1)) (st.gone e1 p f2 (by intro xx yy;contradiction)) ⟨c,ws,rfl,⟨⟨n,BL⟩,f3.length▸hz⟩,PRs.mono (C8 p) _ f3⟩
   |dict es=>
    refine hid fun Gg gg=> ?_
    obtain⟨a,o,f1,p,f2,kws,f3,f4,f5,hz⟩:=st.look e (by intro xx;contradiction)
    refine gg ?_
    rw[e1]at f1;cases f1
    refine .mk (.add p (List.mem_of_getElem? e1)) (st.gone e1 p f2 fun v q=>by obtain⟨_,_,_,d,_⟩:=f3;rw[d]at q;cases q) ⟨c,kws,rfl,⟨⟨o,BL,f3⟩,st.noMods p, ?_⟩,f4,PRs.mono (C8 p) _ f5⟩
    have:=congrArg List.length f4
    rw[List.length_map,List.length_map]at this
    rw[this];exact hz
   |_=>exact .mk (.refl _) st ⟨c,e1,rfl⟩
 |_=>exact .mk (.refl _) st hv
theorem Wy{i:Nat}{o:TO}(h:L[i]? =some o)(hl:∀ts,o≠ .list ts)(hd:∀es,o≠ .dict es):(frz L v).2[i]? =some o:=by
 cases v with
 |ref j=>
  show(Re L j L[j]?).2[i]? =some o
  have ne:∀o',L[j]? =some o'→o≠o'→(L.set j .gone)[i]? =some o:=fun o' e n=>by
   rw[List.getElem?_set_ne fun q=>by subst q;rw[h]at e;exact n (Option.some.inj e)];exact h
  cases e:L[j]? with
  |none=>exact h
  |some o'=>cases o' with
   |list ts=>exact ne _ e (hl ts)
   |dict es=>exact ne _ e (hd es)
   |_=>exact h
 |_=>exact h
theorem V3{w:World}{z:Tr}(h:tOf v=some z)(hv:VR w M v x):PR w M.P z x:=by
 cases v with
 |t y=>cases h;exact hv
 |_=>exact nos h
theorem Mx:∀{fs:List (Nat×V)}{M:Mp}{L:LH}{ws:List Value},Sx b A M ρ L s→VRs b.w M (fs.map (·.2)) ws→Frz b A M s ρ (Jx L fs).2 fun M'=>∀ts,(Jx L fs).1=some ts→PRs b.w M'.P ts ws
 |[],M,L,ws,st,h=> .mk (.refl _) st fun ts e=>by cases e;exact h
 |p::r,M,L,[],st,h=>h.elim
 |p::r,M,L,x::ws,st,h=>by
  obtain⟨g1,st1,hv⟩:=MO st h.1
  obtain⟨g2,st2,hr⟩:=Mx (fs:=r) st1 (VRs.mono g1.le _ h.2)
  refine .mk (g1.trans g2) st2 fun ts e=> ?_
  obtain⟨t,e3,e4⟩:=Option.bind_eq_some_iff.mp (show((tOf (frz L p.2).1).bind fun x=>(Jx (frz L p.2).2 r).1.map (x::·))=some ts from e)
  obtain⟨ts',e5,rfl⟩:=Option.map_eq_some_iff.mp e4
  exact⟨PR.mono g2.le.P _ (V3 e3 hv),hr ts' e5⟩
theorem Jd{i:Nat}{o:TO}(hl:∀ts,o≠ .list ts)(hd:∀es,o≠ .dict es):∀{fs:List (Nat×V)}{L:LH},L[i]? =some o→(Jx L fs).2[i]? =some o
 |[],_,h=>h
 |_::r,_,h=>Jd hl hd (fs:=r) (Wy h hl hd)
theorem Tc{C:Addr}{R:Tr→Prop}{o:Option TO}(h:bv C L R o):∃fs ts,o=some (.flds fs)∧(Jx L fs).1=some ts∧R (.fi C (fs.map (·.1)) ts):=by
 cases o with
 |none=>exact h.elim
 |some o=>cases o with
  |flds fs=>obtain⟨ts,e,h⟩:=AO h;exact⟨fs,ts,rfl,e,h⟩
  |_=>exact h.elim
theorem Tb{R:Tr→Prop}{o:Option TO}(h:On L R o):∃C fs ts,o=some (.inst C)∧L[1]? =some (.flds fs)∧(Jx L fs).1=some ts∧R (.fi C (fs.map (·.1)) ts):=by
 cases o with
 |none=>exact h.elim
 |some o=>cases o with
  |inst C=>obtain⟨fs,ts,h⟩:=Tc h;exact⟨C,fs,ts,rfl,h⟩
  |_=>exact h.elim
theorem Ta{R:Tr→Prop}(h:On L R L[0]?):∃t L',R t∧∀{b:Bc} {A M ρ s x},Sx b A M ρ L s→VR b.w M (.ref 0) x→Frz b A M s ρ L' fun M'=>PR b.w M'.P t x:=by
 refine hid fun Gg gg=> ?_
 obtain⟨C,fs,ts,e0,e1,e2,h⟩:=Tb h
 refine gg ?_
 refine⟨_,((Jx L fs).2.set 1 .gone).set 0 .gone,h,fun st hx=> ?_⟩
 refine hid fun Gg gg=> ?_
 obtain⟨dx,o,f1,_,f2,es,n,rfl,kk,rr,_⟩:=st.look e1 (by intro xx;contradiction)
 obtain⟨a,o,i1,_,i2,dx',i3,rfl⟩:=st.look e0 (by intro xx;contradiction)
 rw[f1]at i3;cases i3
 obtain⟨c,e,rfl⟩:=hx
 rw[i1]at e;cases e
 obtain⟨g1,st1,hr⟩:=Mx st rr
 obtain⟨_,_,k1,p1,_⟩:=st1.look (Jd (o:= .flds fs) (fun zz=>(by intro xx;contradiction)) (fun zz=>(by intro xx;contradiction)) e1) (by intro xx;contradiction)
 have m1:=g1.le.φ _ _ f1
 rw[m1]at k1;cases k1
 have st2:=st1.gone m1 p1 f2 (by intro xx yy;contradiction)
 obtain⟨_,_,k2,p2,_⟩:=st2.look (i:=0) (x:= .inst C) (by rw[List.getElem?_set_ne Nat.one_ne_zero];exact Jd (o:= .inst C) (fun zz=>(by intro xx;contradiction)) (fun zz=>(by intro xx;contradiction)) e0) (by intro xx;contradiction)
 refine gg ?_
 have m2:=g1.le.φ _ _ i1
 rw[m2]at k2;cases k2
 have st3:=st2.gone m2 p2 i2 (by intro xx yy;contradiction)
 exact .mk ((g1.trans (.add p1 (List.mem_of_getElem? m1))).trans (.add p2 (List.mem_of_getElem? m2))) st3 ⟨a,_,rfl,⟨dx,es,n,BL,C8 p2 _ _ BL,kk,rfl⟩,PRs.mono (C8 p2) _ (PRs.mono (C8 p1) _ (hr ts e2))⟩
end
end
section
structure Sy(w:World)(os:OsState)(A:Around)(M:Mp)(L:LH)(s:Shared):Prop where
 hP:∀a o,M.P a=some o→s.heap.get? a=some o
 top:∀a o,a≠900→(H1 w.params).get? a=some o→M.P a=some o
 len:L.length=M.φ.length
 hL:∀i x,L[i]? =some x→∃a o,M.φ[i]? =some a∧s.heap.get? a=some o∧(Gon o x∨(M.P a=none∧TR w M i o x))
 nd:M.φ.Nodup
 fr:∀a,Bl A a→M.P a=none∧a∉M.φ∧∃o es n,s.heap.get? a=some o∧o.data= .dict es n
 gens:s.gens= #[]
 os:s.os=os
noncomputable def Ow(M:Mp)(a:Addr):Prop:=M.P a=none∧a∈M.φ
structure Og(A:Around)(M:Mp)(s:Shared)(M':Mp)(s':Shared):Prop where
 le:MLe M M'
 keep:∀a o,¬Ow M a→s.heap.get? a=some o→StA A s'.heap a o
 new:∀a o,s.heap.get? a=some o→a∉M.φ→a∉M'.φ∧(M.P a=none→M'.P a=none)
noncomputable def Mp.take(M:Mp)(k:Nat):Mp:=⟨M.P,M.φ.take k⟩
section
variable{b:Bc}{A:Around}{M M' M₀:Mp}{s s' s₀:Shared}{ρ ρ':Rho}{L L':LH}{x y:Value}{v u:V}{w:World}{os:OsState}{n k i:Nat}
theorem Sx.sy(st:Sx b A M ρ L s):Sy b.w b.os A M L s:=⟨st.hP,st.top,st.len,st.hL,st.nd,st.fr,st.gens,st.os⟩
theorem C2{l:List Addr}{a:Addr}(h:i<k)(e:l[i]? =some a):(l.take k)[i]? =some a:=by rw[List.getElem?_take_of_lt h];exact e
theorem VR.take:∀(v:V){x:Value},Bs k v=true→VR w M v x→VR w (M.take k) v x
 | .t x,_,_,h=>h
 | .ref i,_,o,h=>h.imp fun zz h=>⟨C2 (Nat.le_of_ble_eq_true o) h.1,h.2⟩
 | .clo _ _,_,o, .mk a b c d e f g h k j=> .mk a b c d e f g h (C2 (Nat.le_of_ble_eq_true o) k) j
 | .rg a b c,_,_,h=>h
 | .view k v,_,o,h=>h.imp fun zz h=>h.imp fun zz h=>⟨h.1,h.2.1,VR.take v o h.2.2⟩
theorem VRs.take:∀(vl:List V){xs:List Value},vl.all (Bs k)=true→VRs w M vl xs→VRs w (M.take k) vl xs
 |[],_,_,h=>h
 |_::_,[],_,h=>h
 |v::vl,_::_,o,h=>⟨VR.take v (Bool.and_eq_true_iff.mp o).1 h.1,VRs.take vl (Bool.and_eq_true_iff.mp o).2 h.2⟩
theorem VR.old(hn:M.φ.length≤n):∀(v:V){x:Value},VR w M v x→Bs n v=true
 | .t x,_,h=>rfl
 | .ref i,_,⟨a,e,_⟩=>Nat.ble_eq_true_of_le (Nat.le_trans (List.getElem?_eq_some_iff.mp e).1 hn)
 | .clo _ _,_, .mk a b c d e f g h k j=>Nat.ble_eq_true_of_le (Nat.le_trans (List.getElem?_eq_some_iff.mp k).1 hn)
 | .rg a b c,_,h=>rfl
 | .view k v,_,⟨_,_,_,_,h⟩=>VR.old hn v h
theorem Qm:∀{m:Nat}{l:LH}{i:Nat}{x:TO},clL n m l=true→l[i]? =some x→i<m→∃j,i+1+j=m∧clT n j x=true
 |0,_,_,_,_,_,h=>absurd h (Nat.not_lt_zero _)
 |m+1,[],_,_,_,e,_=>nomatch e
 |m+1,y::l,i,x,h,e,hi=>by
  have h:(bif clT n m y then clL n m l else false)=true:=h
  cases c:clT n m y with
  |false=>rw[c]at h;exact absurd h Bool.false_ne_true
  |true=>
   rw[c]at h
   cases i with
   |zero=>cases e;exact⟨m,by lia,c⟩
   |succ i=>obtain⟨j,e1,e2⟩:=Qm (i:=i) h e (Nat.lt_of_succ_lt_succ hi);exact⟨j,by lia,e2⟩
theorem Tw{is:List Nat}(h:(is.all fun i=>Nat.blt i k)=true):(is.map V.ref).all (Bs k)=true:=by rw[List.all_map];exact h
theorem TR.take{j:Nat}{o:Obj}(hj:i+1+j=k):∀{x:TO},clT k j x=true→TR w M i o x→TR w (M.take k) i o x
 | .list _,_,h=>h
 | .refs is,c,h=>h.imp fun zz h=>h.imp fun zz h=>⟨h.1,VRs.take _ (Tw c) h.2.1,h.2.2⟩
 | .dict _,_,h=>h
 | .set _,_,h=>h
 | .inst _,c,h=>h.imp fun zz h=>⟨C2 (have:=Nat.le_of_ble_eq_true c;by lia) h.1,h.2⟩
 | .flds fs,c,h=>h.imp fun zz h=>h.imp fun zz h=>⟨h.1,h.2.1,VRs.take _ (by rw[List.all_map];exact c) h.2.2.1,h.2.2.2⟩
 | .gone,_,h=>h
 | .raw _,_,h=>⟨h.1,fun q=>(h.2 q).imp id (C2 (by lia))⟩
 | .tab,_,h=>h
theorem Sy.take(st:Sy w os A M L s)(h:clL k k L=true):Sy w os A (M.take k) (L.take k) s:=
 ⟨st.hP,st.top,by show _=(M.φ.take k).length;rw[List.length_take,List.length_take,st.len],fun i x e=>by
  have hi:i<k:=by have:=(List.getElem?_eq_some_iff.mp e).1;rw[List.length_take]at this;lia
  rw[List.getElem?_take_of_lt hi]at e
  obtain⟨j,hj,c⟩:=Qm h e hi
  exact(st.hL i x e).imp fun a z=>z.imp fun o z=>⟨C2 hi z.1,z.2.1,z.2.2.imp id fun y=>⟨y.1,y.2.take hj c⟩⟩,
  st.nd.sublist (List.take_sublist _ _),fun a h=>⟨(st.fr a h).1,fun q=>(st.fr a h).2.1 (List.mem_of_mem_take q),(st.fr a h).2.2⟩,st.gens,st.os⟩
noncomputable def Mp.cut(M:Mp)(n:Nat)(L:LH):Mp:=bif clL n n L then M.take n else M
theorem VR.cut(h:Bs n v=true)(hv:VR w M v x):VR w (M.cut n L) v x:=by
 unfold Mp.cut
 cases clL n n L
 ·exact hv
 ·exact VR.take v h hv
theorem Sx.cut(st:Sx b A M ρ L s)(n:Nat)(hρ:∀x v,okS x=true→AW ρ' (cd x)=some v→AW ρ (cd x)=some v∧Bs n v=true):Sx b A (M.cut n L) ρ' (cut n L) s:=by
 have hv:∃m,s.heap.Ns b.env.locals m∧∀x v,okS x=true→AW ρ' (cd x)=some v→LN b (M.cut n L) s.heap m x v:=by
  obtain⟨m,hn,hv⟩:=st.var
  exact⟨m,hn,fun x v ok e=>have h:=hρ x v ok e;(hv x v ok h.1).imp (fun⟨a,y,c,d⟩=>⟨a,y,c,d.cut h.2⟩) fun⟨a,c,y,d,e,f⟩=>⟨a,c,y,d,e,f.cut h.2⟩⟩
 unfold Mp.cut Internal.cut
 unfold Mp.cut at hv
 cases c:clL n n L with
 |false=>rw[c]at hv;exact⟨st.hP,st.top,st.len,st.hL,st.nd,st.fr,hv,st.loc,st.cel,st.gens,st.os⟩
 |true=>
  rw[c]at hv
  have sy:=st.sy.take c
  exact⟨sy.hP,sy.top,sy.len,sy.hL,sy.nd,sy.fr,hv,⟨st.loc.1,fun q=>st.loc.2 (List.mem_of_mem_take q)⟩,fun x c e=>have h:=st.cel x c e;⟨h.1,fun q=>h.2.1 (List.mem_of_mem_take q),h.2.2⟩,sy.gens,sy.os⟩
theorem Sy.cut(st:Sy w os A M L s):Sy w os A (M.cut n L) (cut n L) s:=by
 unfold Mp.cut Internal.cut
 cases c:clL n n L with
 |false=>exact st
 |true=>exact st.take c
theorem Gj{a:Addr}(h:a∈(M.cut n L).φ):a∈M.φ:=by
 unfold Mp.cut at h
 cases c:clL n n L with
 |false=>rw[c]at h;exact h
 |true=>rw[c]at h;exact List.mem_of_mem_take h
theorem LL:(M.cut n L).P=M.P:=by unfold Mp.cut;cases clL n n L<;>rfl
theorem MLe.cut(le:MLe M₀ M)(hn:M₀.φ.length≤n):MLe M₀ (M.cut n L):=by
 unfold Mp.cut
 cases clL n n L
 ·exact le
 ·exact⟨le.P,fun i a e=>C2 (Nat.lt_of_lt_of_le (List.getElem?_eq_some_iff.mp e).1 hn) (le.φ i a e)⟩
theorem New.cut{a:Addr}(h:New M₀ (M.cut n L) a):New M₀ M a:=h.imp Gj fun h=>⟨h.1,LL▸h.2⟩
theorem Go.cut(g:Go b A M₀ s₀ M s)(hn:M₀.φ.length=n):Go b A M₀ s₀ (M.cut n L) s:=⟨g.le.cut (Nat.le_of_eq hn),fun a o e h=>g.new a o e h.cut,g.keep⟩
theorem Dz{x:Nat}:∀{ρ0:Rho},AW (Cy ρ0 n ρ) x=some v→AW ρ x=some v∧Bs n v=true
 |[],h=>nos h
 |p::r,h=>by
  replace h:AW (Ue n p.1 (Cy r n ρ) (AW ρ p.1)) x=some v:=h
  cases e:AW ρ p.1 with
  |none=>rw[e]at h;exact Dz (ρ0:=r) h
  |some u=>
   rw[e]at h
   cases o:Bs n u with
   |false=>
    replace h:AW (bif Bs n u then(p.1,u)::Cy r n ρ else Cy r n ρ) x=some v:=h
    rw[o]at h;exact Dz (ρ0:=r) h
   |true=>
    replace h:AW (bif Bs n u then(p.1,u)::Cy r n ρ else Cy r n ρ) x=some v:=h
    rw[o]at h
    replace h:(bif Nat.beq p.1 x then some u else AW (Cy r n ρ) x)=some v:=h
    cases q:Nat.beq p.1 x with
    |false=>rw[q]at h;exact Dz (ρ0:=r) h
    |true=>rw[q]at h;cases h;exact⟨Nat.eq_of_beq_eq_true q▸e,o⟩
theorem Dr{env':Env}{F a:Addr}(hf:env'.frame=some F)(h:Bl (A.deeper env') a):a=F∨Bl A a:=by
 obtain⟨l,e,h1,h2,h3⟩:=h
 obtain⟨l0,e1,rfl⟩:=Option.map_eq_some_iff.mp (show A.frames.map (env'::·)=some l from h1)
 rcases List.mem_cons.mp h2 with rfl|h2
 ·rw[hf]at h3;exact .inl (Option.some.inj h3).symm
 ·exact .inr ⟨l0,e,e1,h2,h3⟩
theorem Td{env':Env}{a:Addr}(h:Bl A a):Bl (A.deeper env') a:=by
 obtain⟨l,e,h1,h2,h3⟩:=h
 exact⟨env'::l,e,by show A.frames.map _=_;rw[h1];rfl,List.mem_cons_of_mem _ h2,h3⟩
theorem Sy.grown(st:Sy w os A M L s)(k:∀c o,s.heap.get? c=some o→s'.heap.get? c=some o)(g:s'.gens=s.gens)(o:s'.os=s.os):Sy w os A M L s':=
 ⟨fun a o e=>k _ _ (st.hP a o e),st.top,st.len,fun i x e=>(st.hL i x e).imp fun a z=>z.imp fun o z=>⟨z.1,k _ _ z.2.1,z.2.2⟩,st.nd,fun a h=>have f:=st.fr a h;⟨f.1,f.2.1,f.2.2.imp fun o z=>z.imp fun zz z=>z.imp fun zz z=>⟨k _ _ z.1,z.2⟩⟩,g.trans st.gens,o.trans st.os⟩
theorem Sy.fresh(st:Sy w os A M L s){a:Addr}(h:s.heap.get? a=none):M.P a=none∧a∉M.φ∧¬Bl A a:=by
 refine⟨?_,fun q=> ?_,fun q=> ?_⟩
 ·cases e:M.P a with
  |none=>rfl
  |some o=>rw[st.hP _ _ e]at h;cases h
 ·obtain⟨i,hi⟩:=List.mem_iff_getElem?.mp q
  have hl:=(List.getElem?_eq_some_iff.mp hi).1
  rw[←st.len]at hl
  obtain⟨c,o,e1,e2,_⟩:=st.hL i _ (List.getElem?_eq_getElem hl)
  rw[hi]at e1;cases e1;rw[h]at e2;cases e2
 ·obtain⟨_,_,_,_,_,e,_⟩:=st.fr _ q
  rw[h]at e;cases e
end
end
section
theorem G8{k:Str→Option NameKind}:∀{bs:List (Str×Value)}{m:Str→Option Value}{x:Str},(∀b∈bs,b.1≠x)→bindL k bs m x=m x
 |[],_,_,_=>rfl
 |(n,v)::r,m,x,h=>by
  unfold bindL
  rw[G8 fun b hb=>h b (List.mem_cons_of_mem _ hb)]
  have:=h (n,v) List.mem_cons_self
  split
  ·exact if_neg fun q=>this q.symm
  ·rfl
theorem G9{k:Str→Option NameKind}:∀{bs:List (Str×Value)}{m:Str→Option Value}{x:Str},(∀b∈bs,b.1≠x)→bindC k bs m x=m x
 |[],_,_,_=>rfl
 |(n,v)::r,m,x,h=>by
  unfold bindC
  rw[G9 fun b hb=>h b (List.mem_cons_of_mem _ hb)]
  have:=h (n,v) List.mem_cons_self
  split
  ·rfl
  ·exact if_neg fun q=>this q.symm
theorem KP{p x:Str}{ps:List Str}{xs:List Value}(h:p∉ps):∀b∈ps.zip xs,b.1≠p:=fun b hb q=>h (q▸(List.of_mem_zip (a:=b.1) (b:=b.2) hb).1)
theorem Iv{k:Str→Option NameKind}{x:Str}(hk:k x=some .local):∀{ps:List Str}{xs:List Value}{m:Str→Option Value}{y:Value},ps.Nodup→(x,y)∈ps.zip xs→bindL k (ps.zip xs) m x=some y
 |[],_,_,_,_,h=>absurd h List.not_mem_nil
 |p::ps,[],_,_,_,h=>absurd h List.not_mem_nil
 |p::ps,z::xs,m,y,nd,h=>by
  obtain⟨n1,n2⟩:=List.nodup_cons.mp nd
  rw[List.zip_cons_cons]at h⊢
  unfold bindL
  rcases List.mem_cons.mp h with e|e
  ·cases e
   rw[G8 (KP (x:=x) n1)]
   simp[hk]
  ·exact Iv hk n2 e
theorem Iw{k:Str→Option NameKind}{x:Str}(hk:k x=some .cell):∀{ps:List Str}{xs:List Value}{m:Str→Option Value}{y:Value},ps.Nodup→(x,y)∈ps.zip xs→bindC k (ps.zip xs) m x=some y
 |[],_,_,_,_,h=>absurd h List.not_mem_nil
 |p::ps,[],_,_,_,h=>absurd h List.not_mem_nil
 |p::ps,z::xs,m,y,nd,h=>by
  obtain⟨n1,n2⟩:=List.nodup_cons.mp nd
  rw[List.zip_cons_cons]at h⊢
  unfold bindC
  rcases List.mem_cons.mp h with e|e
  ·cases e
   rw[G9 (KP (x:=x) n1)]
   simp[hk]
  ·exact Iw hk n2 e
theorem KQ{w:World}{M:Mp}{x:Str}{v:V}(ok:okS x=true):∀{ps:List Str}{vl:List V}{xs:List Value},(∀p∈ps,okS p=true)→VRs w M vl xs→AW ((ps.map cd).zip vl) (cd x)=some v→∃y,(x,y)∈ps.zip xs∧VR w M v y
 |[],_,_,_,_,h=>nos h
 |p::ps,[],_,_,_,h=>nos h
 |p::ps,_::_,[],_,hv,h=>hv.elim
 |p::ps,u::vl,y::xs,hp,hv,h=>by
  replace h:(bif Nat.beq (cd p) (cd x)then some u else AW ((ps.map cd).zip vl) (cd x))=some v:=h
  rw[Hn (hp p List.mem_cons_self) ok]at h
  cases e:p==x with
  |true=>rw[e]at h;cases h;cases eq_of_beq e;exact⟨y,List.mem_cons_self,hv.1⟩
  |false=>
   rw[e]at h
   obtain⟨z,h1,h2⟩:=KQ ok (fun q hq=>hp q (List.mem_cons_of_mem _ hq)) hv.2 h
   exact⟨z,List.mem_cons_of_mem _ h1,h2⟩
set_option tactic.hygienic true in
theorem HW{x:Str}{c:Addr}:∀{names:List (Str×NameKind)}{n:Nat}{acc:List (Str×Addr)},(cellsFrom n names acc).lookup x=some c→(x,NameKind.cell)∈names∨acc.lookup x=some c
 |[],_,_,h=> .inr h
 |(m,k)::r,n,acc,h=>by
  unfold cellsFrom at h
  split at h
  ·rename_i hk
   replace hk:=eq_of_beq hk
   subst hk
   rcases HW h with e|e
   ·exact .inl (List.mem_cons_of_mem _ e)
   ·rw[List.lookup_cons]at e
    cases q:x==m with
    |true=>cases eq_of_beq q;exact .inl List.mem_cons_self
    |false=>rw[q]at e;exact .inr e
  ·exact(HW h).imp (List.mem_cons_of_mem _) id
set_option tactic.hygienic true in
theorem Fe{x:Str}:∀{names:List (Str×NameKind)}{n:Nat}{acc:List (Str×Addr)},(x,NameKind.cell)∈names∨(acc.lookup x).isSome=true→((cellsFrom n names acc).lookup x).isSome=true
 |[],_,_,h=>h.elim (fun h=>absurd h List.not_mem_nil) id
 |(m,k)::r,n,acc,h=>by
  unfold cellsFrom
  split
  ·refine Fe ?_
   rcases h with e|e
   ·rcases List.mem_cons.mp e with e|e
    ·cases e;exact .inr (by rw[List.lookup_cons,beq_self_eq_true];rfl)
    ·exact .inl e
   ·refine .inr ?_
    rw[List.lookup_cons]
    split<;>first|rfl|exact e
  ·rename_i hk
   refine Fe (h.imp (fun e=> ?_) id)
   rcases List.mem_cons.mp e with e|e
   ·cases e;exact absurd rfl hk
   ·exact e
theorem As{x:Str}{k:NameKind}:∀{names:List (Str×NameKind)},(names.map (·.1)).Nodup→(names.lookup x=some k↔(x,k)∈names)
 |[],_=>⟨nos,fun h=>absurd h List.not_mem_nil⟩
 |(m,j)::r,nd=>by
  rw[List.map_cons,List.nodup_cons]at nd
  have ih:=As (x:=x) (k:=k) nd.2
  rw[List.lookup_cons,List.mem_cons]
  cases q:x==m with
  |true=>
   cases eq_of_beq q
   exact⟨fun h=> .inl (by cases h;rfl),fun h=>h.elim (fun h=>by cases h;rfl) fun h=>absurd (List.mem_map.mpr ⟨_,h,rfl⟩) nd.1⟩
  |false=>exact ih.trans ⟨.inr,fun h=>h.resolve_left fun h=>ne_of_beq_false q (Prod.mk.inj h).1⟩
structure EF(P:PH)(fa:Addr)(fd:FuncData)(body:List Stmt)(ps:List Str):Prop where
 get:∃o,P fa=some o∧o.data= .func fd
 code:∃c oc vs t,fd.code= .ref c∧P c=some oc∧oc.data= .fields vs∧vs[1]? =some (.str fd.qualname t)
 bod:fd.body= .stmts body
 glob:fd.globals=mainGlobals
 blt:fd.builtins=builtinsNs
 clo:fd.closure=[]
 kind:fd.scope.kind= .function
 co:fd.scope.isCoroutine=false
 gen:fd.scope.isGenerator=false
 par:∀p∈ps,okS p=true∧(fd.scope.names.lookup p=some .local∨fd.scope.names.lookup p=some .cell)
 nod:ps.Nodup
 nodN:(fd.scope.names.map (·.1)).Nodup
section
variable{b:Bc}{A:Around}{M M' M₀:Mp}{s s' s₀ s₁:Shared}{ρ ρ':Rho}{L L':LH}{x y:Value}{v u:V}{w:World}{os:OsState}{n k i:Nat}{P P':PH}{fa:Addr}{fd:FuncData}{body:List Stmt}{ps:List Str}{vl:List V}{xs xs':List Value}{X:Prop}
theorem EF.mono(l:PLe P P')(F:EF P fa fd body ps):EF P' fa fd body ps:=
 {F with get:=F.get.imp fun o h=>⟨l _ _ h.1,h.2⟩,code:=F.code.imp fun c h=>h.imp fun oc h=>h.imp fun vs h=>h.imp fun t h=>⟨h.1,l _ _ h.2.1,h.2.2⟩}
theorem EF.cells(F:EF P fa fd body ps)(n:Nat)(x:Str)(h:fd.scope.names.lookup x=some .cell):((cellsFrom n fd.scope.names []).lookup x).isSome=true:=Fe (.inl ((As F.nodN).mp h))
theorem EF.kinds(F:EF P fa fd body ps)(n:Nat)(x:Str)(c:Addr)(h:(cellsFrom n fd.scope.names []).lookup x=some c):fd.scope.names.lookup x=some .cell:=
 (As F.nodN).mpr ((HW h).resolve_right nos)
structure Ar(A:Around)(n:Nat):Prop where
 hand:A.handled=none
 grd:A.guards=some []
 dep:A.depth+8*n≤600
 uni:A.units+40*n≤9000
 frs:∃l,A.frames=some l∧∀e∈l,e.scope.kind≠ .module∧∃L,e.frame=some L
theorem Amb.ar(am:Amb b A):Ar A b.n:=⟨am.hand,am.grd,am.dep,am.uni,am.frs⟩
section
variable{env':Env}{F:Addr}
theorem Ar.amb(ar:Ar A (n+1))(hf:env'.frame=some F)(hk:env'.scope.kind= .function)(hg:env'.globals=mainGlobals)(hb:env'.builtins=builtinsNs)(has:∀x,env'.kindOf x=some .cell→∃c,env'.cells.lookup x=some c)
 (inj:∀x y c,env'.cells.lookup x=some c→env'.cells.lookup y=some c→x=y):Amb ⟨w,os,n,X,env'⟩ (A.deeper env'):=by
 have h1:=ar.dep
 have h2:=ar.uni
 obtain⟨l,e,ho⟩:=ar.frs
 have e':(A.deeper env').frames=some (env'::l):=by show A.frames.map _=_;rw[e];rfl
 refine⟨ar.hand,ar.grd, ?_, ?_,⟨_,e',fun e he=> ?_⟩,hk,hg,hb,⟨F,hf,_,_,e',List.mem_cons_self,hf⟩,has,inj⟩
 ·show A.depth+1+8*n≤600;exact(l20 (Hb (.a W0 (.m 8 (.a X1 Y1))) (.n 600) (Gb (.a (.a W0 Y1) (.m 8 X1)) (.n 600))) rfl h1)
 ·show A.units+3+40*n≤9000;exact(l20 (Hb (.a W0 (.m 40 (.a X1 Y1))) (.n 9000) (Gb (.a (.a W0 Y3) (.m 40 X1)) (.n 9000))) rfl h2)
 ·rcases List.mem_cons.mp he with rfl|he
  ·exact⟨by rw[hk];decide,_,hf⟩
  ·exact ho e he
theorem Sy.frame{m:Str→Option Value}(sy:Sy w os A M L s)(keep:∀c o,s.heap.get? c=some o→s₁.heap.get? c=some o)(g:s₁.gens=s.gens)(o:s₁.os=s.os)(hf:env'.frame=some env'.locals)(nF:s.heap.get? env'.locals=none)(hn:s₁.heap.Ns env'.locals m)
 (hv:∀x v,okS x=true→AW ρ (cd x)=some v→LN ⟨w,os,n,X,env'⟩ M s₁.heap m x v)(hc:∀x c,env'.cells.lookup x=some c→(∃y,s₁.heap.IsCell c y)∧c∉M.φ∧c≠env'.locals∧(env'.kindOf x=some .cell→M.P c=none)∧(env'.kindOf x≠some .cell→∃o,M.P c=some o)):
 Sx ⟨w,os,n,X,env'⟩ (A.deeper env') M ρ L s₁:=
 have s1:=sy.grown keep g o
 have hL:=sy.fresh nF
 ⟨s1.hP,s1.top,s1.len,s1.hL,s1.nd,fun a h=>by
  rcases Dr hf h with rfl|h
  ·refine hid fun Gg gg=> ?_
   obtain⟨o,es,n,e1,e2,_⟩:=hn
   refine gg ?_
   exact⟨hL.1,hL.2.1,o,es,n,e1,e2⟩
  ·exact s1.fr a h,⟨m,hn,hv⟩,⟨hL.1,hL.2.1⟩,hc,s1.gens,s1.os⟩
end
section
variable(F:EF M.P fa fd body ps)(sy:Sy w os A M L s)(ar:Ar A (n+1))(hv:VRs w M vl xs)
 (ic:InCallC s (callEnvC fd s.heap.objs.size fa).locals (bindL (callEnvC fd s.heap.objs.size fa).kindOf (ps.zip xs) fun zz=>none) (callEnvC fd s.heap.objs.size fa).cells (bindC (callEnvC fd s.heap.objs.size fa).kindOf (ps.zip xs) fun zz=>none) s₁)
include F ic
theorem K1{z:Str}{c:Addr}(e:(cellsFrom (s.heap.objs.size+1) fd.scope.names []).lookup z=some c):s.heap.get? c=none∧c≠s.heap.objs.size:=have h:=ic.above z c (mem_of_lookup e);⟨Internal.gone _ (Nat.le_of_lt h),Nat.ne_of_gt h⟩
include ar
theorem Wg:Amb ⟨w,os,n,X,callEnvC fd s.heap.objs.size fa⟩ (A.deeper (callEnvC fd s.heap.objs.size fa)):=
 ar.amb rfl F.kind F.glob F.blt (fun z hz=>Option.isSome_iff_exists.mp (F.cells (s.heap.objs.size+1) z hz)) fun z z' c h1 h2=>name_of_addr ic.apart (mem_of_lookup h1) (mem_of_lookup h2)
omit ar
include sy hv
theorem ZR:Sx ⟨w,os,n,X,callEnvC fd s.heap.objs.size fa⟩ (A.deeper (callEnvC fd s.heap.objs.size fa)) M ((ps.map cd).zip vl) L s₁:=by
 obtain⟨h₁,tk,rfl,keep⟩:=ic.done
 refine sy.frame keep rfl rfl rfl (Internal.gone s.heap (Nat.le_refl _)) ic.toInCall.ns (fun z v ok e=> ?_) fun z c e=> ?_
 ·obtain⟨y,m1,m2⟩:=KQ ok (fun p hp=>(F.par p hp).1) hv e
  rcases(F.par z (List.of_mem_zip m1).1).2 with k|k
  ·exact .inl ⟨k,y,Iv k F.nod m1,m2⟩
  ·obtain⟨c,hc⟩:=Option.isSome_iff_exists.mp (F.cells (s.heap.objs.size+1) z k)
   have:=ic.cell z c hc
   rw[Iw (k:=(callEnvC fd s.heap.objs.size fa).kindOf) k F.nod m1]at this
   exact .inr ⟨.inl k,c,y,hc,this,m2⟩
 ·have n:=K1 F ic e
  have hc:=sy.fresh n.1
  exact⟨⟨_,ic.cell z c e⟩,hc.2.1,n.2,fun zz=>hc.1,fun q=>absurd (F.kinds _ z c e) q⟩
end
theorem Og.of{b':Bc}{env':Env}{F:Addr}(hf:env'.frame=some F)(nF:s.heap.get? F=none)(nl:s.heap.get? b'.env.locals=none)(nc:∀a,Ed b' a→s.heap.get? a=none)(keep:∀a o,s.heap.get? a=some o→s₁.heap.get? a=some o)(g:Go b' (A.deeper env') M s₁ M' s'):Og A M s M' s':=by
 have nl':∀a o,s.heap.get? a=some o→a≠b'.env.locals:=fun a o e q=>by rw[q,nl]at e;cases e
 have nc':∀a o,s.heap.get? a=some o→¬Ed b' a:=fun a o e q=>by rw[nc a q]at e;cases e
 refine⟨g.le,fun a o h e=> ?_,fun a o e h=> ?_⟩
 ·obtain⟨sl,e1,q⟩:=g.keep a o (fun q=>q.2.elim (nl' a o e) fun r=>r.elim (nc' a o e) fun r=>h ⟨q.1,r⟩) (keep _ _ e)
  exact⟨sl,e1,q.imp id fun q=>(Dr hf q).resolve_left fun q=>by rw[q,nF]at e;cases e⟩
 ·have key:¬New M M' a:=fun q=>(g.new a o (keep _ _ e) q).elim (nl' a o e) fun r=>r.elim (nc' a o e) h
  exact⟨fun q=>key (.inl q),fun p=>Decidable.byContradiction fun q=>key (.inr ⟨p,q⟩)⟩
end
end
section
noncomputable def Ko:Value→Bool
 | .str _ _=>true
 |_=>false
noncomputable def Qa(name:Str)(o:Obj):Bool:=match o.data with
 | .dict es _=>es.toList.all (fun e=>Ko e.key)&& !es.toList.any fun e=>e.key.isStr name
 |_=>false
theorem Lm(P:Params):((KT P).lookup 2).map (Qa "sys.recursionlimit")=some true:=by kernel_rfl
noncomputable def FlR(w:World)(M:Mp):Fl→Flow→Prop
 | .next,f=>f= .next
 | .brk,f=>f= .brk
 | .cont,f=>f= .cont
 | .ret v,f=>∃x,f= .ret x∧VR w M v x
noncomputable abbrev SS(b:Bc)(M:Mp)(ρ:Rho)(L:LH)(st:List Stmt)(Q:QS):Prop:=J b M ρ L (execs st b.env) (FlR b.w) Q
structure Oe(os:OsState)(A:Around)(M:Mp)(s:Shared)(e:Value)(s':Shared):Prop where
 keep:∀a o,¬Ow M a→s.heap.get? a=some o→StA A s'.heap a o
 gens:s'.gens= #[]
 os:s'.os=os
 fly:∃l base x a0,A.frames=some l∧e= .ref x∧Heap.FlyingW base l x (.ref 309) a0 s'.heap∧∀a o,¬Ow M a→¬Bl A a→s.heap.get? a=some o→base.get? a=some o
section
variable{b:Bc}{A:Around}{M M' M₀:Mp}{s s' s₀ s₁:Shared}{ρ ρ':Rho}{L L':LH}{x y:Value}{v u:V}{w:World}{os:OsState}{n k i:Nat}{P P':PH}{fa:Addr}{fd:FuncData}{body:List Stmt}{ps:List Str}{vl:List V}{xs xs':List Value}{X:Prop}{Q:V→LH→Prop}
theorem Sy.kP(st:Sy w os A M L s){a:Addr}{o:Obj}(h:(KT w.params).lookup a=some o):M.P a=some o:=st.top _ _ (fun q=>by subst q;rw[Um]at h;cases h) (MN h)
set_option tactic.hygienic true in
theorem Sy.noLimit(r:Sy w os A M L s):s.heap.NoLimit:=by
 obtain⟨o,e1,e2⟩:=Option.map_eq_some_iff.mp (Lm w.params)
 have e3:=r.hP _ _ (r.kP e1)
 unfold Qa at e2
 split at e2
 ·rename_i es n hd
  rw[Bool.and_eq_true,Bool.not_eq_true']at e2
  have sk:StrKeys es:=fun e he=>by
   have:=List.all_eq_true.mp e2.1 e (Array.mem_toList_iff.mpr he)
   unfold Ko at this
   split at this
   ·rename_i a b q;exact⟨a,b,q⟩
   ·cases this
  refine⟨fun name=>nsFind es name,⟨o,es,n,e3,hd,sk,fun zz=>rfl⟩, ?_⟩
  show nsFind es _=none
  unfold nsFind findBy
  rw[Option.map_eq_none_iff,Array.find?_eq_none]
  exact fun e he=>List.any_eq_false.mp e2.2 e (Array.mem_toList_iff.mpr he)
 ·cases e2
theorem FN.noted{outer:List Env}{F:Addr}{e:Value}{E:Value→Shared→Prop}{Q:Unit→Shared→Prop}(fl:FN b A M s e s'.heap)(hfr:A.frames=some (b.env::outer))(hL:b.env.frame=some F)
 (q:∀base x0 a0 h',e= .ref x0→(∀a o,¬Own b M a→¬Bl A a→s.heap.get? a=some o→base.get? a=some o)→Heap.HeldW base (b.env::outer) x0 (.ref 309) a0 F h'→s'.heap.UpToSlots h'→Q () {s' with heap:=h'}):
 wpAny (model pw_nn0409_01 b.w) A (noteFrame e b.env) Q E s':=by
 cases fl with
 | @mk l base h x0 a0 e1 fl z=>
  rw[hfr]at e1;cases e1
  rcases fl with fl|⟨L2,hL2,fl⟩|⟨f1,f2,f3,oe,vs,he,hc,hd,h0,h1⟩
  ·exact wpAny_looks_onW hfr hL fl fun h'=>q base x0 a0 h' rfl z
  ·cases hL.symm.trans hL2
   exact wpAny_noteFrame_againW hL fl.2.2.2 (q base x0 a0 _ rfl z fl (.refl _))
  ·unfold noteFrame
   simp only[hL]
   refine wpAny_bind (wpAny_field he hd h1 ?_)
   rw[if_neg (by decide)]
   refine wpAny_entryW hfr f3 hL he f1 f2 hd (Array.getElem?_eq_some_iff.mp h1).1 h0 fun h' hN=> ?_
   rw[hc]at hN
   obtain⟨k1,k2,k3,k4⟩:=hN
   exact q base x0 a0 h' rfl z ⟨k1,f2,k2,k3⟩ k4
theorem Xz{N:Addr→Prop}{base h:Heap}(fr:∀a,Bl A a→∃o es n,s.heap.get? a=some o∧o.data= .dict es n)(kp:∀a o,N a→s.heap.get? a=some o→StA A s'.heap a o)(z:∀a o,N a→¬Bl A a→s.heap.get? a=some o→base.get? a=some o)(sb:base.StaysIn h)(up:s'.heap.UpToSlots h):
 ∀a o,N a→s.heap.get? a=some o→StA A h a o:=fun a o n e=>by
 by_cases f:Bl A a
 ·refine hid fun Gg gg=> ?_
  obtain⟨sl,e2,_⟩:=kp a o n e
  obtain⟨o',es,m,e3,e4⟩:=fr a f
  cases e.symm.trans e3
  obtain⟨sl',e5⟩:=up _ _ e2 fun vs q=>by rw[show o.data= .fields vs from q]at e4;cases e4
  refine gg ?_
  exact⟨sl',e5, .inr f⟩
 ·exact .same (sb _ _ (z a o n f e))
noncomputable def bC(fl:Flow)(y:Value):Prop:=fl= .ret y∨(y= .none∧∀v,fl≠ .ret v)
theorem Iu{env':Env}{F:Addr}(sy:Sy w os A M L s)(frs:∃l,A.frames=some l)(hf:env'.frame=some F)(nF:s.heap.get? F=none)(nl:s.heap.get? env'.locals=none)(nc:∀a,Ed ⟨w,os,n,X,env'⟩ a→s.heap.get? a=none)(keep:∀a o,s.heap.get? a=some o→s₁.heap.get? a=some o)
 {RR:Result→Shared→Prop}(ex:X→∀e s',Oe os A M s e s'→RR (.error e) s')
 (h:(∃l,(A.deeper env').frames=some (env'::l))→∀E,EOk ⟨w,os,n,X,env'⟩ (A.deeper env') M s₁ E→WP ⟨w,os,n,X,env'⟩ (A.deeper env') (execs body env') (fun fl s'=>∃y,bC fl y∧RR (.ok (.ret y)) s') E s₁):
 codeAny (model pw_nn0409_01 w) A (.func body env') RR s₁:=by
 have nOwn:∀a o,¬Ow M a→s.heap.get? a=some o→¬Own ⟨w,os,n,X,env'⟩ M a:=fun a o h e q=>
  q.2.elim (fun r=>by rw[r]at e;exact nos (nl.symm.trans e)) fun r=>r.elim (fun r=>nos ((nc a r).symm.trans e)) fun r=>h ⟨q.1,r⟩
 have nFr:∀a o,s.heap.get? a=some o→Bl (A.deeper env') a→Bl A a:=fun a o e q=>(Dr hf q).resolve_left fun r=>by rw[r]at e;exact nos (nF.symm.trans e)
 obtain⟨l0,e0⟩:=frs
 have frs:(A.deeper env').frames=some (env'::l0):=by show A.frames.map _=_;rw[e0];rfl
 refine codeAny_func ?_
 refine wpAny_mono (h ⟨l0,frs⟩ (fun e s'=>wpAny (model pw_nn0409_01 w) (A.deeper env') (leaving env' e) (fun zz s''=>RR (.error e) s'') (fun e' s''=>RR (.error e') s'') s') ?_)
  (fun fl s' ⟨y,g,q⟩=> ?_) fun zz zz e=>e
 ·refine fun hX=>⟨⟨l0,frs⟩,fun e s' kp fx gs os fl=> ?_⟩
  unfold leaving
  refine wpAny_bind (FN.noted fl frs hf fun base x0 a0 h1 ee z hh up1=> ?_)
  subst ee
  refine wpAny_landsW hh fun h' fl' up2=> ?_
  have bs:∀a o,¬Ow M a→¬Bl A a→s.heap.get? a=some o→base.get? a=some o:=fun a o n f e=>z a o (nOwn a o n e) (fun q=>f (nFr a o e q)) (keep _ _ e)
  exact ex hX _ _ ⟨Xz (N:=fun a=>¬Ow M a) (fun a f=>(sy.fr a f).2.2) (fun a o n e=>have⟨sl,e2,c⟩:=kp a o (nOwn a o n e) (keep _ _ e);⟨sl,e2,c.imp id (nFr a o e)⟩) bs fl'.1 (up1.trans up2),gs,os,l0,base,x0,a0,e0,rfl,⟨fl'.1,fl'.2.1,fl'.2.2.1.2.2,fl'.2.2.2⟩,bs⟩
 ·rcases g with rfl|⟨rfl,g⟩
  ·exact q
  ·cases fl with
   |ret v=>exact absurd rfl (g v)
   |_=>exact q
theorem K3{env':Env}{F:Addr}(sy:Sy w os A M L s)(frs:∃l,A.frames=some l)(hf:env'.frame=some F)(nF:s.heap.get? F=none)(nl:s.heap.get? env'.locals=none)(nc:∀a,Ed ⟨w,os,n,X,env'⟩ a→s.heap.get? a=none)(keep:∀a o,s.heap.get? a=some o→s₁.heap.get? a=some o)
 {RR:Result→Shared→Prop}(ex:X→∀e s',Oe os A M s e s'→RR (.error e) s')
 (post:∀v y s' M' L',(∀(L'':LH) (R:Mp→Prop),(∀b' A' ρ',b'.w=w→Sx b' A' M' ρ' L' s'→Frz b' A' M' s' ρ' L'' R)→∃M'',Og A M s M'' s'∧Sy w os A M'' L'' s'∧R M'')→VR w M' v y→Q v L'→RR (.ok (.ret y)) s')
 (h:(∃l,(A.deeper env').frames=some (env'::l))→∀E,EOk ⟨w,os,n,X,env'⟩ (A.deeper env') M s₁ E→WP ⟨w,os,n,X,env'⟩ (A.deeper env') (execs body env') (Pst ⟨w,os,n,X,env'⟩ (A.deeper env') M s₁ (FlR w) (DX Q)) E s₁):
 codeAny (model pw_nn0409_01 w) A (.func body env') RR s₁:=
 Iu sy frs hf nF nl nc keep ex fun fr E ex'=>wpAny_mono (h fr E ex') (fun fl s' p=>p.use fun M' x ρ' L' g st' r q=>by
  have fin:∀v y,VR w M' v y→Q v L'→RR (.ok (.ret y)) s':=fun v y hvy hq=>post v y s' M' L' (fun L'' R hz=>by
   obtain⟨g2,st2,r⟩:=hz _ _ ρ' rfl st'
   have og:=Og.of hf nF nl nc keep (g.trans g2)
   exact⟨_,og,⟨st2.hP,st2.top,st2.len,st2.hL,st2.nd,fun a f=>st2.fr a (Td f),st2.gens,st2.os⟩,r⟩) hvy hq
  cases x with
  |ret v=>obtain⟨y,rfl,hr⟩:=r;exact⟨y, .inl rfl,fin v y hr q⟩
  |_=>cases r;exact⟨_, .inr ⟨rfl,by intro xx;first|contradiction|(intro yy;contradiction)⟩,fin vn .none rfl q⟩) fun zz zz e=>e
theorem Qg(F:EF M.P fa fd body ps)(sy:Sy w os A M L s)(ar:Ar A (n+1))(hv:VRs w M vl xs')
 (hb:∀(A:Around) (Q:List (Str×Value)→Shared→Prop) E (s:Shared),(∀a o,M.P a=some o→s.heap.get? a=some o)→Q (ps.zip xs') s→wpAny (model pw_nn0409_01 w) A (bindArgs fd ⟨xs,[]⟩) Q E s)
 {RR:Result→Shared→Prop}
 (h:∀env' s₁,env'.scope=fd.scope→env'.code=fd.code→env'.frame=some env'.locals→s.heap.get? env'.locals=none→(∀a,Ed ⟨w,os,n,X,env'⟩ a→s.heap.get? a=none)→(∀a o,s.heap.get? a=some o→s₁.heap.get? a=some o)→Amb ⟨w,os,n,X,env'⟩ (A.deeper env')→Sx ⟨w,os,n,X,env'⟩ (A.deeper env') M ((ps.map cd).zip vl) L s₁→
  codeAny (model pw_nn0409_01 w) A (.func body env') RR s₁):
 codeAny (model pw_nn0409_01 w) A (.call (.ref fa) ⟨xs,[]⟩) RR s:=by
 have hd:=ar.dep
 have hroom:A.depth<recursionLimit:=Nat.lt_of_le_of_lt (Nat.le_trans (Nat.le_add_right _ _) hd) (by decide)
 refine hid fun Gg gg=> ?_
 obtain⟨o,ho,hdat⟩:=F.get
 obtain⟨c,oc,vsc,t,hc1,hc2,hc3,hc4⟩:=F.code
 refine gg ?_
 refine codeAny_call_function hroom (sy.hP _ _ ho) hdat F.co F.gen F.bod ⟨c,oc,vsc,t,hc1,sy.hP _ _ hc2,hc3,hc4⟩ (hb _ _ _ s sy.hP ?_)
 rw[F.clo]
 refine wpAny_newFunctionEnv_cells F.kind (fun b hbm=> ?_) fun env' he s₁ ic=> ?_
 ·exact(F.par b.1 (List.of_mem_zip hbm).1).2.imp id fun k=>⟨k,F.cells _ _ k⟩
 ·have heq:env'=callEnvC fd s.heap.objs.size fa:=he
  subst heq
  clear he
  have keep:∀a o,s.heap.get? a=some o→s₁.heap.get? a=some o:=by obtain⟨h₁,tk,rfl,keep⟩:=ic.done;exact keep
  exact⟨sy.noLimit.keeps keep,h _ _ rfl rfl rfl (Internal.gone s.heap (Nat.le_refl _)) (fun a ⟨z,e,_⟩=>(K1 F ic e).1) keep (Wg (X:=X) F ar ic) (ZR (X:=X) F sy hv ic)⟩
theorem Qf(F:EF M.P fa fd body ps)(sy:Sy w os A M L s)(ar:Ar A (n+1))(hv:VRs w M vl xs')
 (hb:∀(A:Around) (Q:List (Str×Value)→Shared→Prop) E (s:Shared),(∀a o,M.P a=some o→s.heap.get? a=some o)→Q (ps.zip xs') s→wpAny (model pw_nn0409_01 w) A (bindArgs fd ⟨xs,[]⟩) Q E s)
 (h:∀env' s₁,env'.scope=fd.scope→(∃l,(A.deeper env').frames=some (env'::l))→Amb ⟨w,os,n,X,env'⟩ (A.deeper env')→Sx ⟨w,os,n,X,env'⟩ (A.deeper env') M ((ps.map cd).zip vl) L s₁→
  ∀E,EOk ⟨w,os,n,X,env'⟩ (A.deeper env') M s₁ E→WP ⟨w,os,n,X,env'⟩ (A.deeper env') (execs body env') (Pst ⟨w,os,n,X,env'⟩ (A.deeper env') M s₁ (FlR w) (DX Q)) E s₁)
 {RR:Result→Shared→Prop}(ex:X→∀e s',Oe os A M s e s'→RR (.error e) s')
 (post:∀v y s' M' L',(∀(L'':LH) (R:Mp→Prop),(∀b' A' ρ',b'.w=w→Sx b' A' M' ρ' L' s'→Frz b' A' M' s' ρ' L'' R)→∃M'',Og A M s M'' s'∧Sy w os A M'' L'' s'∧R M'')→VR w M' v y→Q v L'→RR (.ok (.ret y)) s'):
 codeAny (model pw_nn0409_01 w) A (.call (.ref fa) ⟨xs,[]⟩) RR s:=
 Qg (X:=X) F sy ar hv hb fun env' s₁ hs zz hf nF nc keep am st=>K3 sy (ar.frs.imp fun zz h=>h.1) hf nF nF nc keep ex post fun fr=>h env' s₁ hs fr am st
theorem RC(F:EF M.P fa fd body ps)(sy:Sy w os A M L s)(ar:Ar A (n+1))(hv:VRs w M vl xs')
 (hb:∀(A:Around) (Q:List (Str×Value)→Shared→Prop) E (s:Shared),(∀a o,M.P a=some o→s.heap.get? a=some o)→Q (ps.zip xs') s→wpAny (model pw_nn0409_01 w) A (bindArgs fd ⟨xs,[]⟩) Q E s)
 (h:∀env',env'.scope=fd.scope→SS ⟨w,os,n,X,env'⟩ M ((ps.map cd).zip vl) L body (DX Q))
 {RR:Result→Shared→Prop}(ex:X→∀e s',Oe os A M s e s'→RR (.error e) s')
 (post:∀v y s' M' L',(∀(L'':LH) (R:Mp→Prop),(∀b' A' ρ',b'.w=w→Sx b' A' M' ρ' L' s'→Frz b' A' M' s' ρ' L'' R)→∃M'',Og A M s M'' s'∧Sy w os A M'' L'' s'∧R M'')→VR w M' v y→Q v L'→RR (.ok (.ret y)) s'):
 codeAny (model pw_nn0409_01 w) A (.call (.ref fa) ⟨xs,[]⟩) RR s:=
 Qf F sy ar hv hb (fun env' s₁ hs zz am st E=>h env' hs _ M s₁ E (.refl _) am st) ex post
theorem StA.ns{h h':Heap}{a:Addr}{m:Str→Option Value}(hn:h.Ns a m)(k:∀o,h.get? a=some o→StA A h' a o):h'.Ns a m:=by
 obtain⟨o,es,ep,e1,e2,r⟩:=hn
 obtain⟨sl,e3,_⟩:=k o e1
 exact⟨_,es,ep,e3,e2,r⟩
theorem StA.cell{h h':Heap}{a:Addr}{v:Option Value}(hn:h.IsCell a v)(k:∀o,h.get? a=some o→StA A h' a o):h'.IsCell a v:=by
 obtain⟨o,e1,e2⟩:=hn
 obtain⟨sl,e3,_⟩:=k o e1
 exact⟨_,e3,e2⟩
theorem Lk{l:List Addr}{a:Addr}(nd:l.Nodup)(e:l[i]? =some a)(hk:k≤i):a∉l.take k:=fun q=>by
 obtain⟨j,hj⟩:=List.mem_iff_getElem?.mp q
 have hl:=(List.getElem?_eq_some_iff.mp hj).1
 rw[List.length_take]at hl
 rw[List.getElem?_take_of_lt (by lia)]at hj
 have:=(List.getElem?_inj (List.getElem?_eq_some_iff.mp hj).1 nd).mp (hj.trans e.symm)
 lia
theorem Ow.up{a:Addr}(h:Ow (M.take k) a):Ow M a:=⟨h.1,List.mem_of_mem_take h.2⟩
theorem Sx.back(st:Sx b A M ρ L s)(og:Og A (M.take k) s M' s')(sy:Sy b.w b.os A M' L' s')(hk:L.drop k=[]∨L'.length=k):
 Sx b A ⟨M'.P,M'.φ++M.φ.drop k⟩ ρ (L'++L.drop k) s'∧Go b A M s ⟨M'.P,M'.φ++M.φ.drop k⟩ s'∧MLe M' ⟨M'.P,M'.φ++M.φ.drop k⟩:=by
 have hlen:=st.len
 have hlen':=sy.len
 have up:MLe M' ⟨M'.P,M'.φ++M.φ.drop k⟩:=⟨.refl _,fun i c e=>(List.getElem?_append_left (List.getElem?_eq_some_iff.mp e).1).trans e⟩
 have far:∀i a,M.φ[i]? =some a→k≤i→L'.length=k:=fun i a e hi=>hk.resolve_left fun q=>by
  have h1:=(List.getElem?_eq_some_iff.mp e).1
  have:=List.drop_eq_nil_iff.mp q
  lia
 have le:MLe M ⟨M'.P,M'.φ++M.φ.drop k⟩:=⟨og.le.P,fun i a e=>by
  by_cases hi:i<k
  ·exact up.φ _ _ (og.le.φ _ _ (C2 hi e))
  ·have:=far i a e (Nat.le_of_not_lt hi)
   show(M'.φ++M.φ.drop k)[i]? =_
   rw[List.getElem?_append_right (by lia),List.getElem?_drop,show k+(i-M'.φ.length)=i by lia]
   exact e⟩
 have nφ:∀a o,s.heap.get? a=some o→a∉M.φ→a∉M'.φ++M.φ.drop k:=fun a o e n q=>(List.mem_append.mp q).elim (og.new a o e fun q=>n (List.mem_of_mem_take q)).1 fun q=>n (List.mem_of_mem_drop q)
 have keep:∀a o,a∉M.φ→s.heap.get? a=some o→StA A s'.heap a o:=fun a o n e=>og.keep a o (fun q=>n q.up.2) e
 have old:∀i x,L[i]? =some x→k≤i→∃a o,M.φ[i]? =some a∧s.heap.get? a=some o∧s'.heap.get? a=some o∧a∉M'.φ∧(Gon o x∨(M'.P a=none∧TR b.w M i o x)):=fun i x e hi=>by
  refine hid fun Gg gg=> ?_
  obtain⟨a,o,h1,h2,h3⟩:=st.hL i x e
  refine gg ?_
  have nt:=Lk st.nd h1 hi
  have nw:=og.new a o h2 nt
  exact⟨a,o,h1,h2,(og.keep a o (fun q=>nt q.2) h2).exact fun f=>(st.fr a f).2.1 (List.mem_of_getElem? h1),nw.1,h3.imp id fun h=>⟨nw.2 h.1,h.2⟩⟩
 have dis:∀c∈M'.φ,∀d∈M.φ.drop k,c≠d:=fun c hc d hd q=>by
  subst q
  refine hid fun Gg gg=> ?_
  obtain⟨j,hj⟩:=List.mem_iff_getElem?.mp hd
  rw[List.getElem?_drop]at hj
  have hl:=(List.getElem?_eq_some_iff.mp hj).1
  rw[←st.len]at hl
  obtain⟨a,o,e1,_,_,e2,_⟩:=old _ _ (List.getElem?_eq_getElem hl) (Nat.le_add_right k j)
  refine gg ?_
  rw[hj]at e1;cases e1
  exact e2 hc
 refine⟨⟨sy.hP,sy.top, ?_,fun i x e=> ?_,List.nodup_append.mpr ⟨sy.nd,st.nd.sublist (List.drop_sublist _ _),dis⟩,fun a f=> ?_, ?_, ?_,fun z c e=> ?_,sy.gens,sy.os⟩,⟨le,fun a o e h=> .inr (.inr ?_),fun a o n e=>og.keep a o (fun q=>n ⟨q.1, .inr (.inr q.up.2)⟩) e⟩,up⟩
 ·show _=(M'.φ++M.φ.drop k).length
  rw[List.length_append,List.length_append,List.length_drop,List.length_drop,hlen,hlen']
 ·by_cases hi:i<L'.length
  ·rw[List.getElem?_append_left hi]at e
   exact(sy.hL i x e).imp fun a z=>z.imp fun o z=>⟨up.φ _ _ z.1,z.2.1,z.2.2.imp id fun y=>⟨y.1,y.2.mono up⟩⟩
  ·rw[List.getElem?_append_right (Nat.le_of_not_lt hi),List.getElem?_drop]at e
   have hl:=(List.getElem?_eq_some_iff.mp e).1
   have hk:=hk.resolve_left fun q=>by have:=List.drop_eq_nil_iff.mp q;lia
   rw[show k+(i-L'.length)=i by lia]at e
   exact(old i x e (by lia)).imp fun a z=>z.imp fun o z=>⟨le.φ _ _ z.1,z.2.2.1,z.2.2.2.2.imp id fun y=>⟨y.1,y.2.mono le⟩⟩
 ·have h:=st.fr a f
  have h':=sy.fr a f
  exact⟨h'.1,fun q=>(List.mem_append.mp q).elim h'.2.1 fun q=>h.2.1 (List.mem_of_mem_drop q),h'.2.2⟩
 ·refine hid fun Gg gg=> ?_
  obtain⟨m,hn,hv⟩:=st.var
  refine gg ?_
  exact⟨m,StA.ns hn fun o e=>keep _ o st.loc.2 e,fun x v ok e=>(hv x v ok e).imp (fun⟨a,y,c,d⟩=>⟨a,y,c,VR.mono le _ d⟩) fun⟨a,c,y,d,e,f⟩=>⟨a,c,y,d,StA.cell e fun o e=>keep _ o (st.cel x c d).2.1 e,VR.mono le _ f⟩⟩
 ·refine hid fun Gg gg=> ?_
  obtain⟨m,⟨o,_,_,e,_⟩,_⟩:=st.var
  refine gg ?_
  exact⟨(og.new _ o e fun q=>st.loc.2 (List.mem_of_mem_take q)).2 st.loc.1,nφ _ o e st.loc.2⟩
 ·refine hid fun Gg gg=> ?_
  obtain⟨⟨y,hc⟩,c1,c2,c3,c4⟩:=st.cel z c e
  obtain⟨o,eo,_⟩:=id hc
  refine gg ?_
  exact⟨⟨y,StA.cell hc fun o e=>keep _ o c1 e⟩,nφ _ o eo c1,c2,fun q=>(og.new c o eo fun q=>c1 (List.mem_of_mem_take q)).2 (c3 q),fun q=>(c4 q).imp fun zz h=>og.le.P _ _ h⟩
 ·by_cases q:a∈M.φ.take k
  ·exact List.mem_of_mem_take q
  ·have nw:=og.new a o e q
   exact h.elim (fun h=>(List.mem_append.mp h).elim (fun h=>absurd h nw.1) List.mem_of_mem_drop) fun h=>absurd (nw.2 h.1) h.2
theorem EOk.call{E:Value→Shared→Prop}(st:Sx b A M ρ L s)(ex:EOk b A M s E)(hs:s₀.heap=s.heap∨∀a o,s.heap.get? a=some o→s₀.heap.get? a=some o)(hM:∀a o,s.heap.get? a=some o→Ow M₀ a→Ow M a)(h:b.X){e:Value}(oe:Oe b.os A M₀ s₀ e s'):E e s':=by
 have up:∀a o,s.heap.get? a=some o→s₀.heap.get? a=some o:=hs.elim (fun h a o e=>by rw[h];exact e) id
 have keep:∀a o,a∉M.φ→s.heap.get? a=some o→StA A s'.heap a o:=fun a o n e=>oe.keep a o (fun q=>n (hM a o e q).2) (up _ _ e)
 have nOw:∀a o,¬Own b M a→s.heap.get? a=some o→¬Ow M₀ a:=fun a o n e q=>n ⟨(hM a o e q).1, .inr (.inr (hM a o e q).2)⟩
 obtain⟨l,base,x,a0,e1,rfl,fl,z⟩:=oe.fly
 obtain⟨m,hn,_⟩:=st.var
 exact(ex h).2 _ _ (fun a o n e=>oe.keep a o (nOw a o n e) (up _ _ e)) ⟨⟨m,StA.ns hn fun o e=>keep _ o st.loc.2 e⟩,fun z c e=>have h:=st.cel z c e;h.1.imp fun y hc=>StA.cell hc fun o e=>keep _ o h.2.1 e⟩ oe.gens oe.os (.mk e1 (.inl fl) fun a o n f e=>z a o (nOw a o n e) f (up _ _ e))
theorem Gm{R:LH}(h:Internal.back k Q v L' R):Q v (L'++R)∧(R=[]∨L'.length=k):=by
 cases R with
 |nil=>rw[List.append_nil];exact⟨h, .inl rfl⟩
 |cons x r=>obtain⟨e,h⟩:=Bu h;exact⟨h, .inr (Nat.eq_of_beq_eq_true e)⟩
theorem MLe.take(l:MLe M M'):MLe (M.take k) (M'.take k):=⟨l.P,fun i a e=>by
 have hi:=(List.getElem?_eq_some_iff.mp e).1
 rw[show(M.take k).φ.length=min k M.φ.length from List.length_take]at hi
 have e:(M.φ.take k)[i]? =some a:=e
 rw[List.getElem?_take_of_lt (by lia)]at e
 exact C2 (by lia) (l.φ i a e)⟩
theorem Ar.le{m:Nat}(a:Ar A m)(h:n≤m):Ar A n:=⟨a.hand,a.grd,Nat.le_trans (Nat.add_le_add_left (Nat.mul_le_mul_left 8 h) _) a.dep,Nat.le_trans (Nat.add_le_add_left (Nat.mul_le_mul_left 40 h) _) a.uni,a.frs⟩
theorem Og.cut{m:Nat}(og:Og A M₀ s M' s')(h:M₀.φ.length≤m):Og A M₀ s (M'.cut m L') s':=⟨og.le.cut h,og.keep,fun a o e n=>have w:=og.new a o e n;⟨fun q=>w.1 (Gj q),fun p=>by rw[LL];exact w.2 p⟩⟩
theorem Sx.left{keep:Nat}(st:Sx b A M ρ L s)(hk:(L.take k).length≤keep)(hz:∀(L'':LH) (R:Mp→Prop),(∀b' A' ρ',b'.w=b.w→Sx b' A' M' ρ' L' s'→Frz b' A' M' s' ρ' L'' R)→∃M'',Og A (M.take k) s M'' s'∧Sy b.w b.os A M'' L'' s'∧R M'')(hvy:VR b.w M' v y)
 (q:Lw keep (fun v L'=>Internal.back k Q v L' (L.drop k)) v L'):Pse b A M s ρ (VR b.w) Q y s':=by
 refine hid fun Gg gg=> ?_
 obtain⟨M2,og,sy,hr⟩:=hz L' (fun M2=>VR b.w M2 v y) fun b' A' ρ' e st'=> .mk (.refl _) st' hvy
 obtain⟨o,q⟩:=Bu q
 obtain⟨q1,q2⟩:=Gm q
 have hl:(M.take k).φ.length≤keep:=by rw[show(M.take k).φ.length=min k M.φ.length from List.length_take,←st.len,←List.length_take];exact hk
 obtain⟨st2,g,le⟩:=st.back (og.cut hl) (sy.cut (n:=keep)) q2
 refine gg ?_
 exact .mk g st2 (VR.mono le _ (hr.cut o)) q1
theorem Ka{keep:Nat}(hn:n+1≤b.n)(F:EF M.P fa fd body ps)(hv:VRs b.w M vl xs')(hc:clL k k L=true)(ho:vl.all (Bs k)=true)(hk:(L.take k).length≤keep)
 (hb:∀(A:Around) (Q:List (Str×Value)→Shared→Prop) E (s:Shared),(∀a o,M.P a=some o→s.heap.get? a=some o)→Q (ps.zip xs') s→wpAny (model pw_nn0409_01 b.w) A (bindArgs fd ⟨xs,[]⟩) Q E s)
 (h:∀A M₁ env' s₁,MLe (M.take k) M₁→env'.scope=fd.scope→(∃l,A.frames=some (env'::l))→Amb ⟨b.w,b.os,n,b.X,env'⟩ A→Sx ⟨b.w,b.os,n,b.X,env'⟩ A M₁ ((ps.map cd).zip vl) (L.take k) s₁→
  ∀E,EOk ⟨b.w,b.os,n,b.X,env'⟩ A M₁ s₁ E→WP ⟨b.w,b.os,n,b.X,env'⟩ A (execs body env') (Pst ⟨b.w,b.os,n,b.X,env'⟩ A M₁ s₁ (FlR b.w) (DX (Lw keep fun v L'=>Internal.back k Q v L' (L.drop k)))) E s₁):
 SV b M ρ L (call (.ref fa) xs) Q:=fun A M₁ s E l am st ex=>
 wpAny_call (Qf (M:=M₁.take k) (F.mono l.P) (st.sy.take hc) (am.ar.le hn) (VRs.take _ ho (VRs.mono l _ hv)) (fun A Q E s hP=>hb A Q E s fun a o e=>hP a o (l.P a o e)) (fun env' s₁ hs fr am' st' E=>h _ _ env' s₁ l.take hs fr am' st' E)
  (fun hX e s' oe=>EOk.call st ex (.inl rfl) (fun zz zz zz q=>q.up) hX oe)
  fun v y s' M' L' hz hvy q=>st.left hk hz hvy q)
theorem SN{keep:Nat}(hn:n+1≤b.n)(F:EF M.P fa fd body ps)(hv:VRs b.w M vl xs')(hc:clL k k L=true)(ho:vl.all (Bs k)=true)(hk:(L.take k).length≤keep)
 (hb:∀(A:Around) (Q:List (Str×Value)→Shared→Prop) E (s:Shared),(∀a o,M.P a=some o→s.heap.get? a=some o)→Q (ps.zip xs') s→wpAny (model pw_nn0409_01 b.w) A (bindArgs fd ⟨xs,[]⟩) Q E s)
 (h:∀env' M',env'.scope=fd.scope→MLe (M.take k) M'→SS ⟨b.w,b.os,n,b.X,env'⟩ M' ((ps.map cd).zip vl) (L.take k) body (DX (Lw keep fun v L'=>Internal.back k Q v L' (L.drop k)))):
 SV b M ρ L (call (.ref fa) xs) Q:=Ka hn F hv hc ho hk hb fun A M₁ env' s₁ l hs zz am st E=>h env' M₁ hs l A M₁ s₁ E (.refl _) am st
end
end
section
section
variable{b:Bc}{A:Around}{M M' M₀:Mp}{s s' s₀ s₁:Shared}{ρ ρ':Rho}{L L':LH}{x y:Value}{v u:V}{w:World}{os:OsState}{n k i:Nat}{P P':PH}{C fa:Addr}{fd:FuncData}{body:List Stmt}{ps:List Str}{vl:List V}{xs xs':List Value}{X:Prop}{Q:V→LH→Prop}
theorem TB{G:Prop}(h:UE G v):v=vn∧G:=by
 replace h:=CU h
 obtain⟨t,rfl,h⟩:=h
 cases t with
 |none=>exact⟨rfl,h⟩
 |_=>exact h.elim
theorem Ar.make{vals:List Value}(a:Ar A (n+1)):Ar (A.under (.builtin "type.__call__" ⟨.ref C::vals,[]⟩)) n:=by
 have h1:=a.dep
 have h2:=a.uni
 refine⟨a.hand,a.grd, ?_, ?_,a.frs⟩
 ·show A.depth+1+8*n≤600;exact(l20 (Hb (.a W0 (.m 8 (.a X1 Y1))) (.n 600) (Gb (.a (.a W0 Y1) (.m 8 X1)) (.n 600))) rfl h1)
 ·show A.units+1+40*n≤9000;exact(l20 (Hb (.a W0 (.m 40 (.a X1 Y1))) (.n 9000) (Gb (.a (.a W0 Y1) (.m 40 X1)) (.n 9000))) rfl h2)
theorem Sy.inst(sy:Sy w os A M L s){a dx:Addr}{j:Nat}(k:∀c o,s.heap.get? c=some o→s'.heap.get? c=some o)(g:s'.gens=s.gens)(o:s'.os=s.os)(ha:s.heap.get? a=none)(hd:s.heap.get? dx=none)(ne:a≠dx)(e1:s'.heap.get? a=some (instObj C dx))(e2:s'.heap.get? dx=some (FJ [] j)):
 Sy w os A ⟨M.P,[a,dx]⟩ [.inst C, .flds []] s':=by
 have s1:=sy.grown k g o
 have fa:=sy.fresh ha
 have fd:=sy.fresh hd
 refine⟨s1.hP,s1.top,rfl,fun i x e=> ?_,List.nodup_cons.mpr ⟨fun q=>ne (List.mem_singleton.mp q),List.pairwise_singleton _ _⟩,fun c f=>⟨(s1.fr c f).1,fun q=> ?_,(s1.fr c f).2.2⟩,s1.gens,s1.os⟩
 ·match i,e with
  |0,e=>cases e;exact⟨a,_,rfl,e1, .inr ⟨fa.1,dx,rfl,rfl⟩⟩
  |1,e=>cases e;exact⟨dx,_,rfl,e2, .inr ⟨fd.1,[],j,rfl,rfl,rfl,Nat.zero_le _⟩⟩
 ·rcases List.mem_cons.mp q with rfl|q
  ·exact fa.2.2 f
  ·rw[List.mem_singleton.mp q]at f;exact fd.2.2 f
theorem Sy.under{id:String}{ar:Args}(sy:Sy w os A M L s):Sy w os (A.under (.builtin id ar)) M L s:=⟨sy.hP,sy.top,sy.len,sy.hL,sy.nd,sy.fr,sy.gens,sy.os⟩
theorem Sy.over{id:String}{ar:Args}(sy:Sy w os (A.under (.builtin id ar)) M L s):Sy w os A M L s:=⟨sy.hP,sy.top,sy.len,sy.hL,sy.nd,sy.fr,sy.gens,sy.os⟩
theorem Og.outer{id:String}{ar:Args}{l0:List Addr}{M3 M4:Mp}(og:Og (A.under (.builtin id ar)) ⟨M.P,l0⟩ s₀ M3 s')(up:∀a o,s.heap.get? a=some o→s₀.heap.get? a=some o)(nw:∀a o,s.heap.get? a=some o→a∉l0)(hP:M4.P=M3.P)(hφ:∀a∈M4.φ,a∈M3.φ):Og A (M.take 0) s M4 s':=
 ⟨⟨by rw[hP];exact og.le.P,fun zz zz e=>nos e⟩,fun a o n e=>og.keep a o (fun q=>nw a o e q.2) (up _ _ e),fun a o e n=>have h:=og.new a o (up _ _ e) (nw a o e);⟨fun q=>h.1 (hφ a q),by rw[hP];exact h.2⟩⟩
theorem R9{R:Tr→Prop}{G:LH→Prop}(hn:n+2≤b.n)(hm:makesIn (KT b.w.params) C=true)(hi:findIn (KT b.w.params) (.ref C) "__init__"=some (some (.ref fa)))(ht:typeIn (KT b.w.params) (.ref fa)=some (.type "function"))
 (F:EF M.P fa fd body ps)(hv:VRs b.w M vl xs')(ho:vl.all (Bs 0)=true)
 (hb:∀(self:Addr) (A:Around) (Q:List (Str×Value)→Shared→Prop) E (s:Shared),(∀a o,M.P a=some o→s.heap.get? a=some o)→Q (ps.zip (.ref self::xs')) s→wpAny (model pw_nn0409_01 b.w) A (bindArgs fd ⟨.ref self::xs,[]⟩) Q E s)
 (h:∀env' M',env'.scope=fd.scope→PLe M.P M'.P→SS ⟨b.w,b.os,n,b.X,env'⟩ M' ((ps.map cd).zip (.ref 0::vl)) [.inst C, .flds []] body
  (DX fun v L'=>UE (bif Nat.beq C 860 then G L' else On L' R L'[0]?) v)) (hR:∀t,R t→Q (.t t) L) (hG:∀L',0<L'.length→G L'→L=[]∧Q (.ref 0) (cut 4 L')):SV b M ρ L (call (.ref C) xs) Q:=fun A M₁ s E l am st ex=>by
 refine hid fun Gg gg=> ?_
 obtain⟨hh,g,d,t,os'⟩:=s
 refine gg ?_
 have X0:=st.kIn
 refine wpAny_call (make_core (makes_of X0 hm) (looks_findIn X0 hi) (fun self=>bind_fn X0 self ht) (.inl rfl) ?_)
 have e1:((hh.push emptyDict).push (instObj C hh.objs.size)).get? (hh.objs.size+1)=some (instObj C hh.objs.size):=by
  have:=Heap.get?_push_size (hh.push emptyDict) (o:=instObj C hh.objs.size) rfl
  rwa[Heap.size_push]at this
 have e2:((hh.push emptyDict).push (instObj C hh.objs.size)).get? hh.objs.size=some (FJ [] 0):=Heap.get?_push_of_some _ (Heap.get?_push_size hh rfl)
 have kp:∀b o,hh.get? b=some o→((hh.push emptyDict).push (instObj C hh.objs.size)).get? b=some o:=fun b o e=>Heap.get?_push_of_some _ (Heap.get?_push_of_some _ e)
 have ga:=Internal.gone hh (Nat.le_succ hh.objs.size)
 have gd:=Internal.gone hh (Nat.le_refl hh.objs.size)
 have ne:hh.objs.size+1≠hh.objs.size:=Nat.succ_ne_self _
 have sy:=st.sy.inst (s':=⟨(hh.push emptyDict).push (instObj C hh.objs.size),g,d,t,os'⟩) kp rfl rfl ga gd ne e1 e2
 have nw:∀a o,hh.get? a=some o→a∉[hh.objs.size+1,hh.objs.size]:=fun a o e q=>by
  rcases List.mem_cons.mp q with rfl|q
  ·exact nos (ga.symm.trans e)
  ·rw[List.mem_singleton.mp q]at e;exact nos (gd.symm.trans e)
 refine RC (M:=⟨M₁.P,[hh.objs.size+1,hh.objs.size]⟩) (X:=b.X) (F.mono l.P) sy.under (Ar.make (am.ar.le hn)) (vl:= .ref 0::vl) (xs':= .ref (hh.objs.size+1)::xs') (show _∧_ from⟨⟨_,rfl,rfl⟩, ?_⟩) (fun A Q E s hP=>hb _ A Q E s fun a o e=>hP a o (l.P a o e)) (fun env' hs=>h env' _ hs l.P) (fun hX e s' oe=> ?_) fun v y s' M' L' hz hvy q=> ?_
 ·exact VRs.mono (M:=M₁.take 0) (M':=⟨M₁.P,[hh.objs.size+1,hh.objs.size]⟩) ⟨.refl _,fun zz zz e=>nos e⟩ _ (VRs.take _ ho (VRs.mono l _ hv))
 ·exact EOk.call st ex (.inr kp) (fun a o e q=>absurd q.2 (nw a o e)) hX ⟨oe.keep,oe.gens,oe.os,oe.fly⟩
 ·refine hid fun Gg gg=> ?_
  obtain⟨rfl,q⟩:=TB q
  cases hvy
  refine gg ?_
  refine⟨rfl, ?_⟩
  refine hid fun Gg gg=> ?_
  obtain⟨_,og,sy0,rfl⟩:=hz L' (fun M''=>M''=M') fun b' A' ρ' e st'=> .mk (.refl _) st' rfl
  refine gg ?_
  have h0:=og.le.φ 0 _ rfl
  cases e:Nat.beq C 860 with
  |false=>
   rw[e]at q
   refine hid fun Gg gg=> ?_
   obtain⟨t,L'',q,fz⟩:=Ta (show On L' R L'[0]? from q)
   obtain⟨M3,og3,sy3,hr⟩:=hz L'' (fun M3=>PR b.w M3.P t _) fun b' A' ρ' e st'=>e▸fz st' ⟨_,h0,rfl⟩
   refine gg ?_
   have r:=st.back (k:=0) (og3.outer (M4:=M3.take 0) kp nw rfl fun a h=>nos ((List.mem_iff_getElem?.mp h).elim fun zz h=>h)) (sy3.over.take (k:=0) rfl) (.inr rfl)
   exact .mk r.2.1 r.1 (x:= .t t) hr (hR t q)
  |true=>
   rw[e]at q
   obtain⟨rfl,q2⟩:=hG L' (by rw[sy0.len];exact(List.getElem?_eq_some_iff.mp h0).1) q
   have r:=st.back (k:=0) (og.outer (M4:=Mp.cut _ 4 L') kp nw LL fun a h=>Gj h) sy0.over.cut (.inl rfl)
   exact .mk r.2.1 r.1 (x:= .ref 0) (VR.mono r.2.2 (.ref 0) (VR.cut (v:= .ref 0) rfl ⟨_,h0,rfl⟩)) (by rw[List.drop_nil,List.append_nil];exact q2)
end
end
section
section
variable{b:Bc}{A:Around}{M M' M₀:Mp}{s s' s₀ s₁:Shared}{ρ ρ':Rho}{L L':LH}{x y:Value}{v u:V}{w:World}{os:OsState}{n k i:Nat}{P P':PH}{E:Value→Shared→Prop}
theorem EOk.loop(st:Sx b A M ρ L s)(am:Amb b A)(ex:EOk b A M s E):EOk b A M s (notedBy (model pw_nn0409_01 b.w) A b.env fun e s'=>cameBackBy (model pw_nn0409_01 b.w) A b.env E e s'):=by
 refine fun hX=>⟨(ex hX).1,fun e s' kp fx gs os fl=> ?_⟩
 refine hid fun Gg gg=> ?_
 obtain⟨outer,hfr⟩:=(ex hX).1
 obtain⟨L,hL,_⟩:=am.frm
 refine gg ?_;clear gg
 refine FN.noted fl hfr hL fun base x0 a0 h' ee z hh up=> ?_
 subst ee
 have fin:∀h',base.StaysIn h'→s'.heap.UpToSlots h'→Heap.HeldW base (b.env::outer) x0 (.ref 309) a0 L h'→E (.ref x0) {s' with heap:=h'}:=fun h' sb up hh=>by
  refine(ex hX).2 _ _ (Xz (N:=fun a=>¬Own b M a) (fun a f=>(st.fr a f).2.2) kp z sb up) ⟨fx.ns.imp fun m hn=>up.ns hn,fun x c e=>(fx.cel x c e).imp fun y ⟨o,d,d2⟩=> ?_⟩ gs os (.mk hfr (.inr (.inl ⟨L,hL,hh⟩)) z)
  obtain⟨sl,d3⟩:=up c o d fun vs q=>by rw[d2]at q;cases q
  exact⟨_,d3,d2⟩
 refine hid fun Gg gg=> ?_
 obtain⟨k1,k2,k3,oe,vs,T,oT,ts,he,hcls,hd,h1,hnT,hTe,hT,hdT,h3⟩:=hh
 refine gg ?_;clear gg
 have other:∀c,c≠T→(h'.update T (Obj.mapFields (·.setIfInBounds 3 (b.env.frame.elim Value.none fun f=>rawInt f)))).get? c=h'.get? c:=fun c hb=>Heap.get?_update_other _ _ (Ne.symm hb)
 have noRecord:∀c o,h'.get? c=some o→(∀vs,o.data≠ .fields vs)→c≠T:=fun c o hb hnf q=>by
  rw[q,hT]at hb;injection hb with hb;subst hb;exact hnf ts hdT
 have sb:base.StaysIn (h'.update T (Obj.mapFields (·.setIfInBounds 3 (b.env.frame.elim Value.none fun f=>rawInt f)))):=fun c o hbo=>(other c fun q=>by rw[q,hnT]at hbo;cases hbo).trans (k1 c o hbo)
 show cameBackBy _ A b.env E (.ref x0) _
 unfold cameBackBy
 refine wpAny_bind (wpAny_field he hd h1 ?_)
 rw[if_neg (show¬(Value.ref T==Value.none)=true from Bool.false_ne_true)]
 unfold setFlight
 refine wpAny_bind (wpAny_field he hd h1 ?_)
 rw[if_pos (show(Value.ref T !=Value.none)=true from rfl)]
 refine wpAny_setField hT hdT (Array.getElem?_eq_some_iff.mp h3).1 (fin _ sb (fun c o hb hn=> ?_) ⟨sb,k2,k3.of_keeps fun c o hb hnf=>⟨o,(other c (noRecord c o hb hnf)).trans hb,rfl⟩, ?_⟩)
 ·obtain⟨sl,e⟩:=up c o hb hn
  exact⟨sl,(other c (noRecord c _ e hn)).trans e⟩
 ·exact⟨oe,vs,T,_,_,(other x0 (Ne.symm hTe)).trans he,hcls,hd,h1,hnT,hTe,Heap.get?_update_self _ hT (Obj.isFreed_of_fields (Obj.data_mapFields hdT _)),Obj.data_mapFields hdT _,by simp[(Array.getElem?_eq_some_iff.mp h3).1,hL]⟩
noncomputable def BW(b:Bc)(A:Around)(M:Mp)(I:Addr):Prop:=(M.P I=none∧I∉M.φ)∧¬Bl A I∧I≠b.env.locals∧∀x c,b.env.cells.lookup x=some c→c≠I
theorem Sx.side(st:Sx b A M ρ L s){I:Addr}(p:BW b A M I)(k:∀c o,c≠I→s.heap.get? c=some o→s'.heap.get? c=some o)(g:s'.gens=s.gens)(os:s'.os=s.os):Sx b A M ρ L s':=by
 refine hid fun Gg gg=> ?_
 obtain⟨⟨p1,p2⟩,p3,p4,p5⟩:=p
 refine gg ?_
 refine⟨fun a o e=>k a o (fun q=>nos (p1.symm.trans (q▸e))) (st.hP _ _ e),st.top,st.len,fun j y ej=>(st.hL j y ej).imp fun a z=>z.imp fun o z=>⟨z.1,k a o (fun q=>p2 (q▸List.mem_of_getElem? z.1)) z.2.1,z.2.2⟩,st.nd,
  fun a h=>(st.fr a h).imp id fun f=>f.imp id fun f=>f.imp fun o f=>f.imp fun es f=>f.imp fun n f=>⟨k a o (fun q=>p3 (q▸h)) f.1,f.2⟩, ?_,st.loc,fun x c ec=>(st.cel x c ec).imp (fun d=>d.imp fun y d=>d.imp fun o d=>⟨k c o (p5 x c ec) d.1,d.2⟩) id,g.trans st.gens,os.trans st.os⟩
 refine hid fun Gg gg=> ?_
 obtain⟨m,⟨o,es,ep,e1,r⟩,hv⟩:=st.var
 refine gg ?_
 exact⟨m,⟨o,es,ep,k _ _ p4.symm e1,r⟩,fun x v ok e=>(hv x v ok e).imp id fun⟨a,c,y,e1,⟨o,d,d2⟩,e2⟩=>⟨a,c,y,e1,⟨o,k c o (p5 x c e1) d,d2⟩,e2⟩⟩
theorem Go.side{I:Addr}(g:Go b A M₀ s₀ M s)(hI:s₀.heap.get? I=none)(k:∀c o,c≠I→s.heap.get? c=some o→s'.heap.get? c=some o):Go b A M₀ s₀ M s':=
 ⟨g.le,g.new,fun a o n e=>have⟨sl,e1,f⟩:=g.keep a o n e;⟨sl,k a _ (fun q=>nos (hI.symm.trans (q▸e))) e1,f⟩⟩
theorem BW.mono{I:Addr}(p:BW b A M I)(g:Go b A M s M' s'){o:Obj}(e:s.heap.get? I=some o):BW b A M' I:=
 have key:¬New M M' I:=fun q=>(g.new I o e q).elim p.2.2.1 fun q=>q.elim (fun⟨z,h,_⟩=>p.2.2.2 z I h rfl) p.1.2
 ⟨⟨Decidable.byContradiction fun q=>key (.inr ⟨p.1.1,q⟩),fun q=>key (.inl q)⟩,p.2⟩
noncomputable def E1(T:String):Bool:= !["enumerate","zip","dict_itemiterator","dict_reverseitemiterator","odict_iterator","itertools.zip_longest","itertools.pairwise"].contains T
structure cZ(w:World)(A:Around)(P:PH)(I:Addr)(ts:List Tr)(fp:List Addr)(St:Nat→Heap→Prop):Prop where
 walk:Walks pw_nn0409_01 w A I fp [I] ts.length (fun i v=>∃u,ts[i]? =some u∧PR w P u v) St
 foot:∀b∈fp,b=I∨∃o,P b=some o
 here:∀i h,St i h→∃o T,h.get? I=some o∧o.cls= .type T∧E1 T=true
theorem Walks.map{prog:Program}{A:Around}{I:Addr}{fp wr:List Addr}{k:Nat}{F G:Nat→Value→Prop}{St:Nat→Heap→Prop}(W:Walks prog w A I fp wr k F St)(m:∀i v,i<k→F i v→G i v):Walks prog w A I fp wr k G St:=
 ⟨W.sub,W.frame,fun i s Q E hi st hQ=>W.item i s Q E hi st fun v h' tk hp st' hk=>hQ v h' tk (m i v hi hp) st' hk,W.done,W.self⟩
theorem GY{P:Obj→Prop}{I:Addr}{h:Heap}{T:String}(hT:E1 T=true)(e:∃o,h.get? I=some o∧o.cls= .type T∧P o):∃o T,h.get? I=some o∧o.cls= .type T∧E1 T=true:=e.imp fun o e=>⟨T,e.1,e.2.1,hT⟩
theorem Kb{ts:List Tr}{ws:List Value}(h:PRs w P ts ws){i:Nat}{y:Value}(e:ws.toArray[i]? =some y):∃u,ts[i]? =some u∧PR w P u y:=by
 rw[List.getElem?_toArray]at e
 have hi:=(List.getElem?_eq_some_iff.mp e).1
 rw[←h.length]at hi
 obtain⟨z,e1,e2⟩:=h.get (i:=i) (List.getElem?_eq_getElem hi)
 rw[e]at e1;cases e1
 exact⟨_,List.getElem?_eq_getElem hi,e2⟩
set_option tactic.hygienic true in
theorem Kn{K:List Tr→Prop}{Q':Value→Shared→Prop}{a:V}(hh:A.handled=none)(hP:∀b o,M.P b=some o→s.heap.get? b=some o)(hx:VR w M a x)(h:Jt K a)
 (q:∀ts o St fp,ts.length≤1048576→K ts→(∀A':Around,A'.handled=none→cZ w A' M.P s.heap.objs.size ts fp St)→St 0 (s.heap.push o)→Q' (.ref s.heap.objs.size) {s with heap:=s.heap.push o}):wpAny (model pw_nn0409_01 w) A (pyIter x) Q' E s:=by
 cases a with
 |t z=>cases z with
  |str u=>
   obtain⟨t,rfl⟩:=hx
   have e:(u.cps.toList.map fun c=>Tr.str ⟨#[c]⟩).length=u.cps.size:=by rw[List.length_map];rfl
   have mp:∀i v,SignAt u i v→∃z,(u.cps.toList.map fun c=>Tr.str ⟨#[c]⟩)[i]? =some z∧PR w M.P z v:=fun i v ⟨c,tk,e1,e2⟩=>⟨.str ⟨#[c]⟩,by rw[List.getElem?_map,Array.getElem?_toList,e1];rfl,tk,e2⟩
   cases ha:u.cps.all (· <128)
   ·exact wpAny_pyIter_wide ha (q _ _ (fun i h=>h.IsStrIter s.heap.objs.size "str_iterator" u t i) [s.heap.objs.size] (e▸h.1) h.2 (fun A' hA'=>⟨by rw[e];exact Walks.map (Walks.strWide hA' _ u t) fun i v zz h=>mp i v h,fun b hb=> .inl (List.mem_singleton.mp hb),fun i h st=>GY (by decide+kernel) st⟩) ⟨_,Heap.get?_push_size _ rfl,rfl,rfl⟩)
   ·exact wpAny_pyIter_ascii ha (q _ _ (fun i h=>h.IsStrIter s.heap.objs.size "str_ascii_iterator" u t i) [s.heap.objs.size] (e▸h.1) h.2 (fun A' hA'=>⟨by rw[e];exact Walks.map (Walks.strAscii hA' _ u t) fun i v zz h=>mp i v h,fun b hb=> .inl (List.mem_singleton.mp hb),fun i h st=>GY (by decide+kernel) st⟩) ⟨_,Heap.get?_push_size _ rfl,rfl,rfl⟩)
  |tup ts=>
   obtain⟨l,ws,rfl,⟨⟨o,m,e1,e2,e3⟩,hz⟩,rv⟩:=hx
   have ht:s.heap.IsTuple l ws.toArray:=⟨o,hP _ _ e1,e2.1,m,e3⟩
   have ne:l≠s.heap.objs.size:=Nat.ne_of_lt (Heap.lt_size (hP _ _ e1))
   refine wpAny_pyIter_tuple ht (q ts _ (fun i h=>h.IsTupleIter s.heap.objs.size l i∧h.IsTuple l ws.toArray) [s.heap.objs.size,l] (rv.length▸hz) h (fun A' hA'=>⟨?_,fun b hb=>(List.mem_cons.mp hb).imp id fun hb=>⟨o,by rw[List.mem_singleton.mp hb];exact e1⟩,fun i h st=>GY (by decide+kernel) st.1⟩) ⟨⟨_,Heap.get?_push_size _ rfl,rfl,rfl⟩,ht.push _⟩)
   rw[show ts.length=ws.toArray.size from rv.length]
   exact Walks.map (Walks.tuple hA' _ _ ne _) fun i v hi hv=>Kb rv hv
  |fl ts=>
   obtain⟨l,ws,rfl,⟨⟨m,e1⟩,hz⟩,rv⟩:=hx
   have ht:=isL (hP _ _ e1)
   have ne:l≠s.heap.objs.size:=Nat.ne_of_lt (Heap.lt_size (hP _ _ e1))
   refine wpAny_pyIter_list ht (q ts _ (fun i h=>h.IsListIter s.heap.objs.size l i∧h.IsList l ws.toArray) [s.heap.objs.size,l] (rv.length▸hz) h (fun A' hA'=>⟨?_,fun b hb=>(List.mem_cons.mp hb).imp id fun hb=>⟨BP ws m,by rw[List.mem_singleton.mp hb];exact e1⟩,fun i h st=>GY (by decide+kernel) st.1⟩) ⟨⟨_,Heap.get?_push_size _ rfl,rfl,rfl⟩,ht.push _⟩)
   rw[show ts.length=ws.toArray.size from rv.length]
   exact Walks.map (Walks.list hA' _ _ ne _) fun i v hi hv=>Kb rv hv
  |_=>exact h.elim
 |rg a c d=>
  obtain⟨r,t,u,v,rfl,e1⟩:=hx
  obtain⟨ts,hs,h⟩:=h
  unfold Hp at hs
  split at hs
  ·rename_i hc
   rw[Bool.and_eq_true,Bool.and_eq_true,decide_eq_true_eq,decide_eq_true_eq]at hc
   cases hs
   have e:(rgs a c d).length=(Builtin.Range.rangeSize a c d).toNat:=by simp[rgs]
   refine wpAny_pyIter_range (hP _ _ e1) hc.1 (q _ _ (fun i h=>IsRangeIter h s.heap.objs.size (a+(i:Nat)*d) (((Builtin.Range.rangeSize a c d).toNat:Int)-(i:Nat)) d) [s.heap.objs.size] (by rw[e];have:=hc.2.2;exact(l11 (Ha W0 (.z 1048576) (He (.c W0) W0 (Gb W0 Yb))) rfl hc.2.2 (Int.toNat_of_nonneg hc.2.1))) h (fun A' hA'=>⟨?_,fun b hb=> .inl (List.mem_singleton.mp hb),fun i h st=>⟨_,"range_iterator",st,rfl,by decide+kernel⟩⟩) ?_)
   ·rw[e]
    exact Walks.map (Walks.range hA' _ a d _) fun i v hi ⟨t,e2⟩=>⟨.int (a+(i:Nat)*d),by simp[rgs,hi],t,e2⟩
   ·show Heap.get? _ _=_
    have e:((Builtin.Range.rangeSize a c d).toNat:Int)=Builtin.Range.rangeSize a c d:=Int.toNat_of_nonneg hc.2.1
    rw[e]
    simpa using Heap.get?_push_size s.heap (o:={cls:= .type "range_iterator",data:= .fields #[rawInt a,rawInt (Builtin.Range.rangeSize a c d),rawInt d]}) rfl
  ·exact nos hs
 |_=>exact h.elim
set_option tactic.hygienic true in
theorem Uk{t:Expr}{I:Addr}{v:Value}{o:Obj}{T:String}{Q:Unit→Shared→Prop}(e:s.heap.get? I=some o)(hc:o.cls= .type T)(hp:E1 T=true)(q:Q () s):
 wpAny (model pw_nn0409_01 w) A (letOwnedTupleGo t (.ref I) v) Q E s:=by
 have body:wpAny (model pw_nn0409_01 w) A (do
  let(.ref r, .ref a):=((Value.ref I),v)|return
  let o←load r
  match o.cls,o.data with
  | .type n, .fields vs=>
   if["enumerate","zip","dict_itemiterator","dict_reverseitemiterator","odict_iterator","itertools.zip_longest","itertools.pairwise"].contains n&&vs[0]? ==some (rawInt a)then
    rule "for.unpacks-the-owned-tuple"
    updateField r 0 .none
  |_,_=>pure ():Sem Unit) Q E s:=by
  cases v<;>first|exact wpAny_pure q|skip
  refine wpAny_bind (wpAny_load e ?_)
  rw[hc]
  split
  ·rename_i n vs h1 h2
   cases h1
   unfold E1 at hp
   rw[Bool.not_eq_true']at hp
   rw[hp,Bool.false_and,if_neg Bool.false_ne_true]
   exact wpAny_pure q
  ·exact wpAny_pure q
 cases t<;>first|exact wpAny_pure q|exact body
end
end
section
section
variable{b:Bc}{A:Around}{M M' M₀:Mp}{s s' s₀ s₁:Shared}{ρ ρ':Rho}{L L':LH}{x y:Value}{v u:V}{w:World}{os:OsState}{n k i:Nat}{E:Value→Shared→Prop}{Q:QS}{c e t:Expr}{pos:Pos}{body r:List Stmt}{α β:Type}
noncomputable abbrev S1(b:Bc)(M:Mp)(ρ:Rho)(L:LH)(st:Stmt)(Q:QS):Prop:=J b M ρ L (exec st b.env) (FlR b.w) Q
theorem SV.frz{t:Sem Value}{Q:V→LH→Prop}(h:SV b M ρ L t fun v L₁=>Q (frz L₁ v).1 (frz L₁ v).2):SV b M ρ L t Q:=fun A M₁ s E l am st ex=>
 wpAny_mono (h A M₁ s E l am st ex) (fun x s' p=>p.use fun M' v L' g st r q=>(MO st r).rec fun g2 st2 r2=> .mk (g.trans g2) st2 r2 q) fun zz zz e=>e
theorem J.frz{t:Sem α}{rel:Mp→β→α→Prop}{Q:β→Rho→LH→Prop}{z:Str}(ok:okS z=true)(e:AW ρ (cd z)=some v)(h:∀M',MLe M M'→J b M' (Bk ρ (cd z) (frz L v).1) (frz L v).2 t rel Q):J b M ρ L t rel Q:=fun A M₁ s E l am st ex=>by
 obtain⟨m,hn,hv⟩:=st.var
 have fin:∀y,VR b.w M₁ v y→(∀M',VR b.w M' (Internal.frz L v).1 y→LN b M' s.heap m z (Internal.frz L v).1)→WP b A t (Pst b A M₁ s rel Q) E s:=fun y hy mk=>by
  refine hid fun Gg gg=> ?_
  obtain⟨g,st2,r2⟩:=MO st hy
  obtain⟨m',hn',hv'⟩:=st2.var
  refine gg ?_
  have st3:Sx b A _ (Bk ρ (cd z) (Internal.frz L v).1) (Internal.frz L v).2 s:={st2 with var:=⟨m,hn,fun x u ok' e=>by
   rcases JR ok ok' e with⟨rfl,rfl⟩|⟨_,e⟩
   ·exact mk _ r2
   ·exact(hv x u ok' e).imp (fun⟨a,y,c,d⟩=>⟨a,y,c,VR.mono g.le _ d⟩) fun⟨a,c,y,d,e,f⟩=>⟨a,c,y,d,e,VR.mono g.le _ f⟩⟩}
  exact wpAny_mono (h _ (l.trans g.le) A _ s E (.refl _) am st3 (ex.weak g)) (fun zz zz p=>p.after g) fun zz zz e=>e
 rcases hv z v ok e with⟨a,y,c,d⟩|⟨a,c,y,d,e,f⟩
 ·exact fin y d fun M' r=> .inl ⟨a,y,c,r⟩
 ·exact fin y f fun M' r=> .inr ⟨a,c,y,d,e,r⟩
theorem JE.release{vs:List Value}{Q:LH→Prop}(q:Q L):JU b M ρ L (release vs []) Q:=
 JE.still () (fun A M₁ s m Q' E l lf k=>wpAny_release (k () s.toks s.heap (.refl _ _) trivial)) q
theorem QM(q:Q .next ρ L):SS b M ρ L [] Q:=J.pure (x:=Fl.next) (fun zz zz=>rfl) q
theorem Mh{st:Stmt}{Q1:Rho→LH→Prop}(h:S1 b M ρ L st (NY Q1 Q))(k:∀M' ρ' L',MLe M M'→Q1 ρ' L'→SS b M' ρ' L' r Q):SS b M ρ L (st::r) Q:=by
 show J _ _ _ _ (execs (st::r) b.env) _ _
 rw[arm_execs_cons]
 refine J.bind h fun M1 f x ρ1 L1 l1 d q=> ?_
 cases x with
 |next=>cases d;exact k M1 ρ1 L1 l1 q
 |brk=>cases d;exact J.pure (x:=Fl.brk) (fun zz zz=>rfl) q
 |cont=>cases d;exact J.pure (x:=Fl.cont) (fun zz zz=>rfl) q
 |ret v=>obtain⟨y,rfl,hv⟩:=d;exact J.pure (x:=Fl.ret v) (fun M2 l2=>⟨y,rfl,VR.mono l2 _ hv⟩) q
theorem dF{Q1 Q2:LH→Prop}(h:SB b M ρ L (isTrue c b.env (eval c b.env)) fun t L₁=>ifB t (Q1 L₁) (Q2 L₁))(k1:∀M' L',MLe M M'→Q1 L'→SS b M' ρ L' body Q)(k2:∀M' L',MLe M M'→Q2 L'→SS b M' ρ L' r Q):S1 b M ρ L (.If c body r pos) Q:=by
 show J _ _ _ _ (exec (.If c body r pos) b.env) _ _
 rw[show exec (.If c body r pos) b.env=(do standAt pos;if←isTrue c b.env (eval c b.env)then execs body b.env else execs r b.env)from rfl]
 refine J.stand (JE.bindS h fun M1 t x L1 l1 e q=> ?_)
 cases e
 cases t with
 |true=>exact k1 M1 L1 l1 q
 |false=>exact k2 M1 L1 l1 q
theorem Y8(h:SE b M ρ L e fun v L₁=>Q (.ret v) ρ L₁):S1 b M ρ L (.Return (some e) pos) Q:=by
 show J _ _ _ _ (exec (.Return (some e) pos) b.env) _ _
 rw[show exec (.Return (some e) pos) b.env=(do standAt pos;return .ret (←eval e b.env))from rfl]
 exact J.stand (JE.bindS h fun M1 x v L1 l1 vx q=>J.pure (x:=Fl.ret v) (fun M2 l2=>⟨x,rfl,VR.mono l2 _ vx⟩) q)
theorem ZA(q:Q .brk ρ L):S1 b M ρ L (.Break pos) Q:=by
 show J _ _ _ _ (exec (.Break pos) b.env) _ _
 rw[arm_exec_Break]
 exact J.stand (J.pure (x:=Fl.brk) (fun zz zz=>rfl) q)
theorem WW(q:Q .cont ρ L):S1 b M ρ L (.Continue pos) Q:=by
 show J _ _ _ _ (exec (.Continue pos) b.env) _ _
 rw[arm_exec_Continue]
 exact J.stand (J.pure (x:=Fl.cont) (fun zz zz=>rfl) q)
theorem QP(hs:swapsWith e none pos.line b.env=pure false)(h:SE b M ρ L e fun v L₁=>Q .next ρ L₁):S1 b M ρ L (.Expr e pos) Q:=by
 intro A M₁ s E l am st ex
 have hi:interactive b.env=false:=by unfold interactive;rw[am.kind];rfl
 exact wpAny_Expr_any (wpAny_mono (h A M₁ s E l am st ex) (fun v s' p=>p.use fun M' x L' g st r q=> .mk (x:=Fl.next) g st rfl q) fun zz zz e=>e) hi hs
theorem Pa{Q1:V→LH→Prop}(hsw:swapsWithSole [t] e pos.line b.env=pure false)(hst:swappedStores [t] e b.env=pure none)(hne:assignEach [t] b.env=[(false,assign t b.env)])(h:SE b M ρ L e Q1)
 (k:∀M' y v L',MLe M M'→VR b.w M' v y→Q1 v L'→J b M' ρ L' (assign t b.env y) FB fun zz=>Q .next):S1 b M ρ L (.Assign [t] e pos) Q:=by
 show J _ _ _ _ (exec (.Assign [t] e pos) b.env) _ _
 rw[arm_exec_Assign,hsw]
 refine J.stand ?_
 show J _ _ _ _ (do
  let v←eval e b.env
  assignStores b.env v (←swappedStores [t] e b.env) ((assignEach [t] b.env).map (·.2))) _ _
 rw[hst,hne]
 refine JE.bindS h fun M1 x v L1 l1 vx q=> ?_
 rw[pure_bind]
 show J _ _ _ _ (assign t b.env x>>=fun zz=>(pure Flow.next:Sem Flow)) _ _
 exact J.bind (k M1 x v L1 l1 vx q) fun M2 zz zz ρ2 L2 l2 zz q=>J.pure (x:=Fl.next) (fun zz zz=>rfl) q
theorem V2{o:Expr}{name:Str}{Q:LH→Prop}(ok:okS name=true)(hv:VR b.w M v y)(h:SE b M ρ L o fun a L₁=>Fz (fun l=>Rh (cd name) v Q l L₁ L₁[l]?) a):JU b M ρ L (assign (.Attribute o name pos) b.env y) Q:=by
 rw[arm_assign_Attribute]
 refine JE.bind (JE.holding h) fun M1 x a L1 l1 vx q=> ?_
 refine hid fun Gg gg=> ?_
 obtain⟨i,rfl,q⟩:=CI q
 obtain⟨C,fs,e1,e2,e3,e4,q⟩:=NI q
 refine gg ?_
 exact JE.stand (JE.bind (JE.holding (G1 (Q:=Q) e1 e2 vx (Ds ok e3) (VR.mono l1 _ hv) e4 q)) fun M2 zz zz L2 l2 zz q=>JE.release q)
theorem Yo{o j:Expr}{Q:LH→Prop}{Q1:V→LH→Prop}(hv:VR b.w M v y)(h:SE b M ρ L o Q1)(k:∀M' a L₁,MLe M M'→Q1 a L₁→SE b M' ρ L₁ j fun b L₂=>Fz (fun l=>Ca (fun k=>tW (fun y=>YK k y Q l L₂ L₂[l]?) v) b) a):JU b M ρ L (assign (.Subscript o j pos) b.env y) Q:=by
 rw[arm_assign_Subscript]
 refine JE.bind (JE.holding h) fun M1 x a L1 l1 vx q1=>JE.bind (JE.holding (k M1 a L1 l1 q1)) fun M2 z d L2 l2 vz q=> ?_
 refine hid fun Gg gg=> ?_
 replace q:=CI q
 obtain⟨i,rfl,q⟩:=q
 replace q:=AX q
 obtain⟨n,rfl,q⟩:=q
 replace q:=CU q
 obtain⟨t,rfl,q⟩:=q
 refine gg ?_
 have hv:=VR.mono (l1.trans l2) _ hv
 have vx:=VR.mono l2 _ vx
 have q:YK n t Q i L2 L2[i]? :=q
 generalize e:L2[i]? =o at q
 cases o with
 |none=>exact q.elim
 |some o=>cases o with
  |list ts=>exact JE.stand (JE.bind (JE.holding (OQ (Q:=Q) e vx vz hv q.1.1 q.1.2 q.2)) fun M3 zz zz L3 l3 zz q=>JE.release q)
  |dict es=>exact JE.stand (JE.bind (JE.holding (OR (Q:=Q) e vx vz hv q.1 q.2)) fun M3 zz zz L3 l3 zz q=>JE.release q)
  |_=>exact q.elim
theorem YS{A:Around}{i j:Int}{t u:Tok}{E:Value→Shared→Prop}{Q':Value→Shared→Prop}(z:∀t tk,Q' (.int (i+j) t) {s with toks:=tk}):WP b A (inplaceOp .Add (.int i t) (.int j u)) Q' E s:=iadd_int (z _ _)
theorem ZB{o:Expr}{name:Str}{W:Post→LH→Prop}(ok:okS name=true)(h:SE b M ρ L o fun a L₁=>Fz (fun l=>cS (cd name) W (Q .next ρ) l L₁ L₁[l]?) a)
 (k:∀M' L' (Q':Post),MLe M M'→W Q' L'→SE b M' ρ L' e Q'){tp:Pos}:S1 b M ρ L (.AugAssign (.Attribute o name tp) .Add e pos) Q:=by
 show J _ _ _ _ (exec (.AugAssign (.Attribute o name tp) .Add e pos) b.env) _ _
 rw[arm_exec_AugAssign_2]
 refine J.stand (JE.bindS h fun M1 x a L1 l1 vx q=> ?_)
 refine hid fun Gg gg=> ?_
 replace q:=CI q
 obtain⟨i,rfl,q⟩:=q
 replace q:=K5 (v:= .ref i) (show Nj L1 (cd name) _ (.ref i)from q)
 obtain⟨C,ks,vl,u,f1,f2,q,f3⟩:=q
 replace q:=AX q
 obtain⟨j,rfl,q⟩:=q
 refine gg ?_;clear gg
 refine JE.bindS (rel:=VR b.w) (Qe:=fun v L'=>Ca (fun j=>Rh (cd name) (vi j) (Q .next ρ) i L' L'[i]?) v) (JE.holding ?_) fun M2 y v L2 l2 vy q2=> ?_
 ·refine JE.stand (JE.bind (Mf (Q:=fun u L'=>u=vi j∧L'=L1) (fun A M₁ s st hx=>f3 A M₁ s _ st hx) vx (Ds ok f1) f2 ⟨rfl,rfl⟩) fun M3 z u L3 l3 vz e=> ?_)
  obtain⟨rfl,rfl⟩:=e
  refine JE.bind (JE.holding (k M3 _ _ (l1.trans l3) q)) fun M4 d v L4 l4 vd q4=> ?_
  refine hid fun Gg gg=> ?_
  obtain⟨n,rfl,rfl,q5⟩:=AX q4
  obtain⟨t,rfl⟩:=VR.mono l4 (vi j) vz
  obtain⟨t,rfl⟩:=vd
  refine gg ?_;clear gg
  exact JE.stand (JE.operate (C7 (fun A s Q' E z=>iadd_int (z _ _)) q5))
 ·refine hid fun Gg gg=> ?_
  obtain⟨n,rfl,q3⟩:=AX q2
  replace q3:=NI q3
  obtain⟨C,fs,e1,e2,e3,e4,q3⟩:=q3
  refine gg ?_;clear gg
  exact J.stand (JE.bindS (JE.holding (G1 (Q:=fun L'=>Q .next ρ L') e1 e2 (VR.mono l2 (.ref i) vx) (Ds ok e3) vy e4 q3)) fun M3 zz zz L3 l3 zz q=>JE.bindS (JE.release (Q:=fun L'=>Q .next ρ L') q) fun M4 zz zz L4 l4 zz q=>J.pure (x:=Fl.next) (fun zz zz=>rfl) q)
theorem BW.cut{I:Addr}(p:BW b A M I):BW b A (M.cut n L) I:=⟨⟨by rw[LL];exact p.1.1,fun q=>p.1.2 (Gj q)⟩,p.2⟩
theorem Y9{step:V→QS→Rho→LH→Prop}(hf:∀x,foldedSetIterable e b.env x=pure x)(h:SE b M ρ L e fun a L₁=>Jt (fun l=>IG ρ L₁.length step Q l ρ L₁) a)
 (hs:∀v y Q' M' ρ' L',MLe M M'→step v Q' ρ' L'→VR b.w M' v y→∃ρ₁,J b M' ρ' L' (assign t b.env y) FB (fun zz ρ₂ L₂=>ρ₂=ρ₁∧L₂=L')∧∀M'',MLe M' M''→SS b M'' ρ₁ L' body Q'):S1 b M ρ L (.For t e body [] pos) Q:=by
 intro A M₁ s E l am st ex
 refine wpAny_For (wpAny_mono (h A M₁ s E l am st ex) (fun x s₁ p=>p.use fun M1 a L1 g1 st1 va q1=> ?_) fun zz zz e=>e) hf
 refine Kn am.hand st1.hP va q1 fun ts o St fp zz hK hI h0=> ?_
 have It:=hI A am.hand
 have nI:=Internal.gone s₁.heap (Nat.le_refl _)
 have as:BW b A M1 s₁.heap.objs.size:=have f:=st1.fresh nI;⟨⟨f.1,st1.notIn nI⟩,f.2⟩
 have kp:∀c ob,c≠s₁.heap.objs.size→s₁.heap.get? c=some ob→(s₁.heap.push o).get? c=some ob:=fun c ob zz eb=>Heap.get?_push_of_some _ eb
 have hn:=st1.len.symm
 refine codeAny_forLoop_any (fun k s'=>∃i M' ρ' L',k+i=ts.length∧Go b A M1 s₁ M' s'∧Sx b A M' ρ' L' s'∧St i s'.heap∧BW b A M' s₁.heap.objs.size∧IG ρ L1.length step Q (ts.drop i) ρ' L') ?_ ts.length
  ⟨0,M1,ρ,L1,rfl,(Go.refl M1).side nI kp,st1.side as kp rfl rfl,h0,as,hK⟩
 rintro k s' ⟨i,M',ρ',L',hk,g,st',hst,as',hK⟩
 by_cases hi:i<ts.length
 ·refine It.walk.item i s' _ _ hi hst fun v h' tk hp hst' hkp=> ?_
  refine hid fun Gg gg=> ?_
  obtain⟨u,e2,hu⟩:=hp
  have k2:∀c ob,c≠s₁.heap.objs.size→s'.heap.get? c=some ob→h'.get? c=some ob:=fun c ob nb eb=>hkp c ob (fun q=>nb (List.mem_singleton.mp q)) eb
  have st2:Sx b A M' ρ' L' {s' with heap:=h',toks:=tk}:=st'.side as' k2 rfl rfl
  have g2:Go b A M1 s₁ M' {s' with heap:=h',toks:=tk}:=g.side nI k2
  obtain⟨oI,T,w1,w2,w3⟩:=It.here _ _ hst'
  refine gg ?_
  refine Uk w1 w2 w3 ?_
  refine hid fun Gg gg=> ?_
  obtain⟨h1,h2⟩:=List.getElem?_eq_some_iff.mp e2
  rw[show ts.drop i=u::ts.drop (i+1) by rw[←h2];exact List.drop_eq_getElem_cons hi]at hK
  obtain⟨ρ₁,ha,hb⟩:=hs (.t u) v _ M' ρ' L' ((l.trans g1.le).trans g2.le) hK (PR.mono g2.le.P _ hu)
  refine gg ?_
  refine wpAny_mono (ha A M' _ _ (.refl _) am st2 ((ex.weak (g1.trans g2)).loop st2 am)) (fun zz s₂ p=>p.use fun M2 zz ρ2 L2 g3 st3 zz q=> ?_) fun zz zz e=>e
  obtain⟨rfl,rfl⟩:=q
  refine wpAny_mono (hb M2 g3.le A M2 s₂ _ (.refl _) am st3 ((ex.weak ((g1.trans g2).trans g3)).loop st3 am)) (fun fl s₃ p=>p.use fun M3 x ρ3 L3 g4 st4 r q=> ?_) fun zz zz e=>e
  have g5:=g3.trans g4
  have g6:=g2.trans g5
  have gI:s₃.heap.get? s₁.heap.objs.size=some oI:=(g5.keep _ oI (fun q=>q.2.elim as'.2.2.1 fun q=>q.elim (fun⟨z,h,_⟩=>as'.2.2.2 z _ h rfl) as'.1.2) w1).exact as'.2.1
  have hst3:St (i+1) s₃.heap:=It.walk.frame _ _ _ hst' fun c hc ob eb=>by
   rcases It.foot c hc with rfl|⟨o2,e2⟩
   ·rw[w1]at eb;cases eb;exact gI
   ·have e3:=st2.hP _ _ (g2.le.P _ _ e2)
    rw[eb]at e3;cases e3
    exact st4.hP _ _ (g6.le.P _ _ e2)
  have as3:BW b A M3 s₁.heap.objs.size:=as'.mono g5 w1
  have cutSt:=st4.cut (ρ':=Cy ρ L1.length ρ3) L1.length fun x v ok e=>Dz e
  cases x with
  |next=>cases r;exact⟨k-1,by lia,i+1,_,_,_,by lia,g6.cut hn,cutSt,hst3,as3.cut,q⟩
  |cont=>cases r;exact⟨k-1,by lia,i+1,_,_,_,by lia,g6.cut hn,cutSt,hst3,as3.cut,q⟩
  |brk=>cases r;exact .mk (x:=Fl.next) (g1.trans (g6.cut hn)) cutSt rfl q
  |ret v=>obtain⟨y,rfl,hv⟩:=r;exact .mk (x:=Fl.ret v) (g1.trans g6) st4 ⟨y,rfl,hv⟩ q
 ·have hi2:i=ts.length:=by lia
  subst hi2
  refine It.walk.done s' _ _ hst fun h' tk hkp=> ?_
  have k2:∀c ob,c≠s₁.heap.objs.size→s'.heap.get? c=some ob→h'.get? c=some ob:=fun c ob nb eb=>hkp c ob (fun q=>nb (List.mem_singleton.mp q)) eb
  rw[List.drop_length]at hK
  exact wpAny_execs_nil (.mk (x:=Fl.next) (g1.trans (g.side nI k2)) (st'.side as' k2 rfl rfl) rfl hK)
theorem S5{I:Nat→Rho→LH→Prop}{WB:Nat→Rho→LH→Prop}(h:∃k,I k ρ L)
 (step:∀k M' ρ' L',MLe M M'→I k ρ' L'→SB b M' ρ' L' (isTrue c b.env (eval c b.env)) fun t L₁=>ifB t (WB k ρ' L₁) (Q .next (Cy ρ L.length ρ') (cut L.length L₁)))
 (hb:∀k M' ρ' L',MLe M M'→WB k ρ' L'→SS b M' ρ' L' body (LJ ρ L.length (fun ρ₂ L₂=>∃m,m<k∧I m ρ₂ L₂) Q)):S1 b M ρ L (.While c body [] pos) Q:=by
 intro A M₁ s E l am st ex
 obtain⟨k,h⟩:=h
 have hn:=st.len.symm
 refine wpAny_While (codeAny_whileLoop (fun k s'=>∃M' ρ' L',Go b A M₁ s M' s'∧Sx b A M' ρ' L' s'∧I k ρ' L') ?_ k ⟨M₁,ρ,L, .refl _,st,h⟩)
 rintro k s' ⟨M',ρ',L',g,st',hI⟩
 refine wpAny_mono (step k M' ρ' L' (l.trans g.le) hI A M' s' _ (.refl _) am st' ((ex.weak g).loop st' am)) (fun t s₂ p=>p.use fun M2 x L2 g2 st2 e q=> ?_) fun zz zz e=>e
 cases e
 have g3:=g.trans g2
 cases t with
 |false=>exact wpAny_execs_nil (.mk (x:=Fl.next) (g3.cut hn) (st2.cut L.length fun x v ok e=>Dz e) rfl q)
 |true=>
  refine wpAny_mono (hb k M2 ρ' L2 (l.trans g3.le) q A M2 s₂ _ (.refl _) am st2 ((ex.weak g3).loop st2 am)) (fun fl s₃ p=>p.use fun M3 x ρ3 L3 g4 st4 r q=> ?_) fun zz zz e=>e
  have g6:=g3.trans g4
  have cutSt:=st4.cut (ρ':=Cy ρ L.length ρ3) L.length fun x v ok e=>Dz e
  cases x with
  |next=>cases r;obtain⟨m,hm,q⟩:=q;exact⟨m,hm,_,_,_,g6.cut hn,cutSt,q⟩
  |cont=>cases r;obtain⟨m,hm,q⟩:=q;exact⟨m,hm,_,_,_,g6.cut hn,cutSt,q⟩
  |brk=>cases r;exact .mk (x:=Fl.next) (g6.cut hn) cutSt rfl q
  |ret v=>obtain⟨y,rfl,hv⟩:=r;exact .mk (x:=Fl.ret v) g6 st4 ⟨y,rfl,hv⟩ q
end
end
section
structure DW(env:Env)(scope:Scope):Prop where
 kind:scope.kind= .function
 noCell:∀y∈scope.names,y.2≠ .cell
 nod:(scope.names.map (·.1)).Nodup
 free:∀y∈scope.names,y.2= .free→env.kindOf y.1=some .cell
 okN:∀y∈scope.names,okS y.1=true
theorem Jl{env:Env}:∀(names:List (Str×NameKind)) (cs:List (Str×Addr)),(∀y∈names,y.2= .free→∃c,env.cells.lookup y.1=some c)→
 ∃cl,(forIn names cs fun(y:Str×NameKind) cs=>(if(y.2==NameKind.free)=true then do let c←cellOf env y.1;pure (ForInStep.yield ((y.1,c)::cs))else pure (ForInStep.yield cs):Sem (ForInStep (List (Str×Addr)))))=pure cl∧
  (∀x c,cl.lookup x=some c→((x,NameKind.free)∈names∧env.cells.lookup x=some c)∨cs.lookup x=some c)∧∀x,((x,NameKind.free)∈names∨(cs.lookup x).isSome=true)→(cl.lookup x).isSome=true
 |[],cs,_=>⟨cs,by rw[List.forIn_nil],fun x c e=> .inr e,fun x h=>h.elim (fun h=>absurd h List.not_mem_nil) id⟩
 |(m,k)::r,cs,h=>by
  have hr:∀y∈r,y.2= .free→∃c,env.cells.lookup y.1=some c:=fun y hy=>h y (List.mem_cons_of_mem _ hy)
  rw[List.forIn_cons]
  cases hk:k==NameKind.free with
  |true=>
   cases eq_of_beq hk
   refine hid fun Gg gg=> ?_
   obtain⟨c,hc⟩:=h (m, .free) List.mem_cons_self rfl
   obtain⟨cl,e1,e2,e3⟩:=Jl r ((m,c)::cs) hr
   refine gg ?_
   refine⟨cl, ?_,fun x c' e=> ?_,fun x hx=>e3 x ?_⟩
   ·have:cellOf env m=pure c:=by unfold cellOf;rw[hc]
    rw[if_pos rfl,this]
    exact e1
   ·rcases e2 x c' e with⟨a,b⟩|a
    ·exact .inl ⟨List.mem_cons_of_mem _ a,b⟩
    ·rw[List.lookup_cons]at a
     cases q:x==m with
     |true=>rw[q]at a;cases eq_of_beq q;cases a;exact .inl ⟨List.mem_cons_self,hc⟩
     |false=>rw[q]at a;exact .inr a
   ·rw[List.lookup_cons]
    cases q:x==m with
    |true=>exact .inr rfl
    |false=>exact hx.imp (fun hx=>(List.mem_cons.mp hx).resolve_left fun e=>ne_of_beq_false q (Prod.mk.inj e).1) id
  |false=>
   refine hid fun Gg gg=> ?_
   obtain⟨cl,e1,e2,e3⟩:=Jl r cs hr
   refine gg ?_
   refine⟨cl, ?_,fun x c' e=>(e2 x c' e).imp (fun h=>⟨List.mem_cons_of_mem _ h.1,h.2⟩) id,fun x hx=>e3 x (hx.imp (fun hx=>(List.mem_cons.mp hx).resolve_left fun e=> ?_) id)⟩
   ·rw[if_neg Bool.false_ne_true]
    exact e1
   ·rw[←(Prod.mk.inj e).2]at hk;cases hk
theorem Kj{g:Str→NameKind→NameKind}:∀{names:List (Str×NameKind)}{x:Str},(names.map fun y=>(y.1,g y.1 y.2)).lookup x=(names.lookup x).map (g x)
 |[],_=>rfl
 |(m,k)::r,x=>by
  rw[List.map_cons,List.lookup_cons,List.lookup_cons]
  cases q:x==m with
  |true=>cases eq_of_beq q;rfl
  |false=>exact Kj
noncomputable def frees(scope:Scope):List Nat:=(scope.names.filter fun y=>y.2== .free).map fun y=>cd y.1
theorem Ig{scope:Scope}{k:Nat}:((frees scope).any (Nat.beq k))=true↔∃x,(x,NameKind.free)∈scope.names∧cd x=k:=by
 unfold frees
 simp only[List.any_eq_true,List.mem_map,List.mem_filter]
 constructor
 ·rintro⟨_,⟨⟨x,k'⟩,⟨h1,h2⟩,rfl⟩,h3⟩
  cases eq_of_beq h2
  exact⟨x,h1,(Nat.eq_of_beq_eq_true h3).symm⟩
 ·rintro⟨x,h1,h2⟩
  exact⟨_,⟨(x, .free),⟨h1,rfl⟩,rfl⟩,by rw[h2];exact Nat.beq_refl _⟩
theorem Dq{fr:List Nat}{k:Nat}:∀{ρ:Rho},AW (Cs fr ρ) k=bif fr.any (Nat.beq k)then AW ρ k else none
 |[]=>by cases fr.any (Nat.beq k)<;>rfl
 |p::r=>by
  show AW (bif fr.any (Nat.beq p.1)then p::Cs fr r else Cs fr r) k=bif fr.any (Nat.beq k)then(bif Nat.beq p.1 k then some p.2 else AW r k)else none
  have ih:=Dq (fr:=fr) (k:=k) (ρ:=r)
  cases q:Nat.beq p.1 k with
  |true=>
   rw[Nat.eq_of_beq_eq_true q]
   cases h:fr.any (Nat.beq k)with
   |true=>show(bif Nat.beq p.1 k then some p.2 else AW (Cs fr r) k)=_;rw[q];rfl
   |false=>rw[h]at ih;exact ih
  |false=>
   cases h:fr.any (Nat.beq p.1)with
   |true=>show(bif Nat.beq p.1 k then some p.2 else AW (Cs fr r) k)=_;rw[q];exact ih
   |false=>exact ih
section
variable{b b':Bc}{A:Around}{M M' M₀:Mp}{s s' s₀ s₁:Shared}{ρ ρ':Rho}{L L':LH}{x y:Value}{v u:V}{w:World}{os:OsState}{n k i:Nat}{E:Value→Shared→Prop}{Q:V→LH→Prop}{scope:Scope}{cl:List (Str×Addr)}{C:Addr}
theorem G6(K:DW b.env scope)(am:Amb b A):∃cl,closureFor scope b.env=pure cl∧(∀x c,cl.lookup x=some c→scope.names.lookup x=some .free∧b.env.cells.lookup x=some c)∧∀x,scope.names.lookup x=some .free→∃c,cl.lookup x=some c:=by
 refine hid fun Gg gg=> ?_
 obtain⟨cl,e1,e2,e3⟩:=Jl (env:=b.env) scope.names [] fun y hy hk=>am.has _ (K.free y hy hk)
 refine gg ?_
 refine⟨cl, ?_,fun x c e=>have h:=(e2 x c e).resolve_right nos;⟨(As K.nod).mpr h.1,h.2⟩,fun x hx=>Option.isSome_iff_exists.mp (e3 x (.inl ((As K.nod).mp hx)))⟩
 unfold closureFor
 rw[←e1,bind_pure]
theorem I5{env:Env}{x:Str}(hk:env.scope.kind= .function):(relabel scope env).names.lookup x=(scope.names.lookup x).map fun k=>if(k== .free&&env.kindOf x==some .cell)then .cell else k:=by
 rw[←Kj (g:=fun x k=>if(k== .free&&env.kindOf x==some .cell)then .cell else k)]
 unfold relabel
 congr 1
 refine List.map_congr_left fun y hy=> ?_
 obtain⟨m,k⟩:=y
 simp only[hk,beq_self_eq_true,Bool.and_true]
 split<;>rfl
set_option tactic.hygienic true in
theorem Ch{env:Env}(K:DW env scope)(hk:env.scope.kind= .function)(x:Str):
 (scope.names.lookup x=some .free→(compEnvC scope cl C env).kindOf x=some .cell)∧((compEnvC scope cl C env).kindOf x=some .cell→scope.names.lookup x=some .free):=by
 have e:(compEnvC scope cl C env).kindOf x=(scope.names.lookup x).map fun k=>if(k== .free&&env.kindOf x==some .cell)then .cell else k:=I5 hk
 refine⟨fun h=> ?_,fun h=> ?_⟩
 ·rw[e,h]
  have:=K.free _ ((As K.nod).mp h) rfl
  simp[this]
 ·rw[e]at h
  obtain⟨k,h1,h2⟩:=Option.map_eq_some_iff.mp h
  split at h2
  ·rename_i q
   rw[h1,eq_of_beq (Bool.and_eq_true_iff.mp q).1]
  ·subst h2
   exact absurd rfl (K.noCell _ ((As K.nod).mp h1))
noncomputable abbrev Eh(ifs:List Expr)(env:Env):Sem Bool:=forIn ifs true fun c r=>if r=true then do let ok←isTrue c env (eval c env);pure (ForInStep.yield ok)else pure (ForInStep.yield r)
theorem OH{Q:Bool→LH→Prop}(q:Q true L):SB b M ρ L (Eh [] b.env) Q:=fun A M₁ s E l am st ex=>wpAny_tests_nil (.mk (.refl _) st rfl q)
theorem OG{c:Expr}{Q:Bool→LH→Prop}(h:SB b M ρ L (isTrue c b.env (eval c b.env)) Q):SB b M ρ L (Eh [c] b.env) Q:=fun A M₁ s E l am st ex=>wpAny_tests_one (h A M₁ s E l am st ex)
theorem KN{elt target iter:Expr}{ifs:List Expr}{pos:Pos}{it acc:Value}{env:Env}{RR:Result→Shared→Prop}(I:Nat→Shared→Prop)
 (turn:∀n s,I n s→wpAny (model pw_nn0409_01 w) A (pyNext it) (fun r s₁=>match r with
  |none=>RR (.ok .next) s₁
  |some v=>wpAny (model pw_nn0409_01 w) A (letOwnedTupleGo target it v) (fun zz s₁'=>wpAny (model pw_nn0409_01 w) A (assign target env v) (fun zz s₂=>
   wpAny (model pw_nn0409_01 w) A (Eh ifs env) (fun ok s₃=>
    if ok=true then wpAny (model pw_nn0409_01 w) A (eval elt env) (fun x s₄=>
     wpAny (model pw_nn0409_01 w) A (call (.builtin "list.append") [acc,x]) (fun zz s₅=>∃m,m<n∧I m s₅) (notedBy (model pw_nn0409_01 w) A env fun e s'=>RR (.error e) s') s₄) (notedBy (model pw_nn0409_01 w) A env fun e s'=>RR (.error e) s') s₃
    else∃m,m<n∧I m s₃) (notedBy (model pw_nn0409_01 w) A env fun e s'=>RR (.error e) s') s₂) (notedBy (model pw_nn0409_01 w) A env fun e s'=>RR (.error e) s') s₁') (notedBy (model pw_nn0409_01 w) A env fun e s'=>RR (.error e) s') s₁) (notedBy (model pw_nn0409_01 w) A env fun e s'=>RR (.error e) s') s)
 (n:Nat) (s:Shared) (h:I n s):codeAny (model pw_nn0409_01 w) A (.compLoop (.ListComp elt [⟨target,iter,ifs,0⟩] scope pos) 0 it acc env) RR s:=by
 refine codeAny_loop rfl I (fun n s hI=> ?_) n h
 show wpAny _ A ((compTurn (.ListComp elt [⟨target,iter,ifs,0⟩] scope pos) 0 it acc env).onRaise (fun x=>do noteFrame x env;theTreesLotGoes x)) _ _ s
 refine wpAny_noted ?_
 rw[compTurn_list]
 refine wpAny_bind (wpAny_standAt (wpAny_bind (wpAny_mono (turn n s hI) (fun r s₁ h₁=> ?_) fun zz zz h'=>h')))
 cases r with
 |none=>exact wpAny_pure h₁
 |some v=>
  refine wpAny_bind (wpAny_mono h₁ (fun zz s₁' h₁'=> ?_) fun zz zz h'=>h')
  refine wpAny_bind (wpAny_mono h₁' (fun zz s₂ h₂=>wpAny_bind (wpAny_mono h₂ (fun ok s₃ h₃=> ?_) fun zz zz h'=>h')) fun zz zz h'=>h')
  cases ok with
  |false=>exact wpAny_pure ⟨rfl,h₃⟩
  |true=>
   exact wpAny_bind (wpAny_bind (wpAny_mono h₃ (fun x s₄ h₄=>wpAny_bind (wpAny_mono h₄ (fun zz s₅ h₅=>wpAny_pure (wpAny_pure ⟨rfl,h₅⟩)) fun zz zz h'=>h')) fun zz zz h'=>h'))
theorem EOk.none(h:¬b.X):EOk b A M s E:=fun x=>absurd x h
noncomputable abbrev Cl(b:Bc)(env':Env):Bc:=⟨b.w,b.os,b.n,False,env'⟩
section
variable(K:DW b.env scope)(am:Amb b A)(c1:∀x c,cl.lookup x=some c→scope.names.lookup x=some .free∧b.env.cells.lookup x=some c)(c2:∀x,scope.names.lookup x=some .free→∃c,cl.lookup x=some c)
include K am c1
theorem Fd{a:Addr}(h:Ed (Cl b (compEnvC scope cl C b.env)) a):Ed b a∧∃x,cl.lookup x=some a:=by
 obtain⟨z,h1,h2⟩:=h
 have f:=(Ch K am.kind z).2 h2
 exact⟨⟨z,(c1 z a h1).2,K.free _ ((As K.nod).mp f) rfl⟩,z,h1⟩
theorem Go.comp(g:Go (Cl b (compEnvC scope cl C b.env)) A M s M' s')(hC:s.heap.get? C=none):Go b A M s M' s':=by
 have sub:∀a o,s.heap.get? a=some o→∀M:Mp,(a=C∨Ed (Cl b (compEnvC scope cl C b.env)) a∨a∈M.φ)→a=b.env.locals∨Ed b a∨a∈M.φ:=fun a o e M h=>h.elim (fun q=>by rw[q]at e;exact nos (hC.symm.trans e)) fun h=> .inr (h.imp (fun h=>(Fd K am c1 h).1) id)
 exact⟨g.le,fun a o e h=>sub a o e M (g.new a o e h),fun a o n e=>g.keep a o (fun q=>n ⟨q.1,sub a o e M q.2⟩) e⟩
include c2
theorem P7:Amb (Cl b (compEnvC scope cl C b.env)) A:=
 ⟨am.hand,am.grd,am.dep,am.uni,am.frs,K.kind,am.glob,am.blt,am.frm,fun x hx=>c2 x ((Ch K am.kind x).2 hx),fun x x' c h1 h2=>am.inj x x' c (c1 x c h1).2 (c1 x' c h2).2⟩
theorem Tm(st:Sx b A M ρ L s)(k:∀c o,s.heap.get? c=some o→s'.heap.get? c=some o)(g:s'.gens=s.gens)(o:s'.os=s.os)(hC:s.heap.get? C=none)(ns:s'.heap.Ns C fun zz=>none):Sx (Cl b (compEnvC scope cl C b.env)) A M (Cs (frees scope) ρ) L s':=by
 have sy:=st.sy.grown k g o
 have fr:=st.sy.fresh hC
 refine hid fun Gg gg=> ?_
 obtain⟨m,hn,hv⟩:=st.var
 refine gg ?_
 refine⟨sy.hP,sy.top,sy.len,sy.hL,sy.nd,sy.fr,⟨_,ns,fun x v ok e=> ?_⟩,⟨fr.1,fr.2.1⟩,fun x c e=> ?_,sy.gens,sy.os⟩
 ·rw[Dq]at e
  cases q:(frees scope).any (Nat.beq (cd x))with
  |false=>rw[q]at e;exact nos e
  |true=>
   rw[q]at e
   obtain⟨x',h1,h2⟩:=Ig.mp q
   cases Dx (K.okN _ h1) ok h2
   have hx:=(As K.nod).mpr h1
   obtain⟨c,hc⟩:=c2 _ hx
   have kc:=K.free _ h1 rfl
   rcases hv _ v ok e with⟨a,_⟩|⟨a,c',y,d,f,z⟩
   ·exact absurd (kc.symm.trans a) (by intro xx;contradiction)
   ·have:=(c1 _ c hc).2
    rw[d]at this;cases this
    exact .inr ⟨.inl ((Ch K am.kind _).1 hx),_,y,hc,f.keeps k,z⟩
 ·refine hid fun Gg gg=> ?_
  obtain⟨g1,g2⟩:=c1 x c e
  obtain⟨⟨y,q⟩,b1,b2,b3,b4⟩:=st.cel x c g2
  refine gg ?_
  exact⟨⟨y,q.keeps k⟩,b1,(st.fresh hC).2.2.2 x c g2,fun zz=>b3 (K.free _ ((As K.nod).mp g1) rfl),fun q2=>absurd ((Ch (cl:=cl) (C:=C) K am.kind x).1 g1) q2⟩
theorem Ob(st:Sx b A M ρ L s)(g:Go (Cl b (compEnvC scope cl C b.env)) A M s M' s')(hC:s.heap.get? C=none)(sti:Sx (Cl b (compEnvC scope cl C b.env)) A M' (Cs (frees scope) ρ) L' s'):Sx b A M' ρ L' s':=by
 refine hid fun Gg gg=> ?_
 obtain⟨m,hn,hv⟩:=st.var
 obtain⟨m',hn',hv'⟩:=sti.var
 have nC:∀a o,s.heap.get? a=some o→a≠C:=fun a o e q=>by rw[q]at e;exact nos (hC.symm.trans e)
 have keep:∀a,a∉M.φ→(∀x,cl.lookup x≠some a)→∀o,s.heap.get? a=some o→StA A s'.heap a o:=fun a n1 n2 o e=>g.keep a o (fun q=>q.2.elim (nC a o e) fun q=>q.elim (fun q=>(Fd K am c1 q).2.elim n2) n1) e
 have fresh:∀a o,s.heap.get? a=some o→a∉M.φ→(∀x,cl.lookup x≠some a)→¬New M M' a:=fun a o e n1 n2 q=>(g.new a o e q).elim (nC a o e) fun q=>q.elim (fun q=>(Fd K am c1 q).2.elim n2) n1
 have notCl:∀x c,b.env.cells.lookup x=some c→cl.lookup x=none→∀z,cl.lookup z≠some c:=fun x c e q z h=>by
  cases am.inj z x c (c1 z c h).2 e
  exact nos (q.symm.trans h)
 have locCl:∀z,cl.lookup z≠some b.env.locals:=fun z h=>(st.cel z _ (c1 z _ h).2).2.2.1 rfl
 obtain⟨o,_,_,eo,_⟩:=id hn
 refine gg ?_
 have fl:=fresh _ o eo st.loc.2 locCl
 refine⟨sti.hP,sti.top,sti.len,sti.hL,sti.nd,sti.fr,⟨m,StA.ns hn (keep _ st.loc.2 locCl),fun x v ok e=> ?_⟩,⟨Decidable.byContradiction fun q=>fl (.inr ⟨st.loc.1,q⟩),fun q=>fl (.inl q)⟩,fun x c e=> ?_,sti.gens,sti.os⟩
 ·rcases hv x v ok e with⟨a,y,d,c⟩|⟨a,c,y,d,f,z⟩
  ·exact .inl ⟨a,y,d,VR.mono g.le _ c⟩
  ·cases q:cl.lookup x with
   |none=>exact .inr ⟨a,c,y,d,StA.cell f (keep c (st.cel x c d).2.1 (notCl x c d q)),VR.mono g.le _ z⟩
   |some c'=>
    obtain⟨g1,g2⟩:=c1 x c' q
    have hs:AW (Cs (frees scope) ρ) (cd x)=some v:=by
     rw[Dq,Ig.mpr ⟨x,(As K.nod).mp g1,rfl⟩];exact e
    rcases hv' x v ok hs with⟨a2,_⟩|⟨a2,c2,y2,b2,d2,z2⟩
    ·exact absurd (((Ch K am.kind x).1 g1).symm.trans a2) (by intro xx;contradiction)
    ·cases(show cl.lookup x=some c2 from b2).symm.trans q
     exact .inr ⟨a,c',y2,g2,d2,z2⟩
 ·refine hid fun Gg gg=> ?_
  obtain⟨⟨y,q⟩,b1,b2,b3,b4⟩:=st.cel x c e
  refine gg ?_
  cases qc:cl.lookup x with
  |none=>
   have nc:=notCl x c e qc
   refine hid fun Gg gg=> ?_
   obtain⟨o,eo,_⟩:=id q
   refine gg ?_
   have fc:=fresh c o eo b1 nc
   exact⟨⟨y,StA.cell q (keep c b1 nc)⟩,fun q=>fc (.inl q),b2,fun kz=>Decidable.byContradiction fun q=>fc (.inr ⟨b3 kz,q⟩),fun kz=>(b4 kz).imp fun zz h=>g.le.P _ _ h⟩
  |some c'=>
   refine hid fun Gg gg=> ?_
   obtain⟨g1,g2⟩:=c1 x c' qc
   rw[g2]at e;cases e
   obtain⟨q',d1,d2,d3,d4⟩:=sti.cel x c qc
   refine gg ?_
   exact⟨q',d1,b2,fun zz=>d3 ((Ch K am.kind x).1 g1),fun q2=>absurd (K.free _ ((As K.nod).mp g1) rfl) q2⟩
end
end
end
section
section
variable{b b':Bc}{A:Around}{M M' M₀:Mp}{s s' s₀ s₁:Shared}{ρ ρ':Rho}{L L':LH}{x y:Value}{v u:V}{w:World}{os:OsState}{n k i:Nat}{E:Value→Shared→Prop}{scope:Scope}{cl:List (Str×Addr)}{C:Addr}{elt t iter:Expr}{ifs:List Expr}{pos:Pos}
theorem Wi{c I:Nat}(h:c<I)(j:Nat):c≠I+j:=by exact(fun h9=>l30 (.P 2 1 (Hg W0 X1 (Hd W0 (.a X1 X2) .f))) rfl h h9)
theorem JW{I:Nat}(i j:Nat)(h:i≠j):I+i≠I+j:=by lia
theorem TC{I:Nat}(j:Nat)(h:0<j):I≠I+j:=by exact(fun h9=>l20 (Hg Y0 W0 (Hd X1 (.a X1 W0) .f)) rfl h h9)
theorem Wx{I k:Nat}(h:k=I)(j:Nat):k≤I+j:=by exact l30 (.P 2 1 (Hc W0 X1 (Gb W0 (.a X1 X2)))) rfl h
theorem Wl{c I:Nat}(h:c<I+1):c≠I+2:=by exact(fun h9=>l20 (Hg W0 (.a X1 Y1) (Hd W0 (.a X1 Y2) .f)) rfl h h9)
noncomputable def NS(b':Bc)(M:Mp)(ρ:Rho)(t:Expr)(ifs:List Expr)(elt:Expr)(stepM:V→(V→LH→Prop)→(LH→Prop)→LH→Prop):Prop:=
 ∀v y yes no M' L',MLe M M'→stepM v yes no L'→VR b'.w M' v y→∃(ρ₁:Rho) (El:LH→Prop),(∀x u,okS x=true→AW ρ (cd x)=some u→AW ρ₁ (cd x)=some u)∧J b' M' ρ L' (assign t b'.env y) FB (fun zz ρ₂ L₂=>ρ₂=ρ₁∧L₂=L')∧
  (∀M'',MLe M' M''→SB b' M'' ρ₁ L' (Eh ifs b'.env) fun ok L₂=>ifB ok (El L₂) (no L₂))∧∀M'' L₂,MLe M' M''→El L₂→SE b' M'' ρ₁ L₂ elt yes
theorem Oa{ts:List Tr}{fp:List Addr}{St:Nat→Heap→Prop}{I D:Addr}{stepM:V→(V→LH→Prop)→(LH→Prop)→LH→Prop}{finM:List Tr→LH→Prop}(am:Amb b A)(hX:¬b.X)(It:cZ b.w A M.P I ts fp St)(hz:ts.length≤1048576)(go0:Go b A M s₁ M s)(sx0:Sx b A M ρ L s)(st1:St 0 s.heap)
 (hold:∀x v,okS x=true→AW ρ (cd x)=some v→Bs L.length v=true)(aI:BW b A M I)(aD:BW b A M D)(nI:s₁.heap.get? I=none)(nD:s₁.heap.get? D=none)(ne:I≠D)(eD:s.heap.get? D=some (BP [] 0))(hK:EE L.length stepM finM ts [] L)(step:NS b M ρ t ifs elt stepM)
 {RR:Result→Shared→Prop}(fin:∀M' L' acc ws m s',Go b A M s₁ M' s'→Sx b A M' ρ L' s'→BW b A M' D→s'.heap.get? D=some (BP ws m)→PRs b.w M'.P acc ws→acc.length≤1048576→finM acc L'→RR (.ok .next) s'):
 codeAny (model pw_nn0409_01 b.w) A (.compLoop (.ListComp elt [⟨t,iter,ifs,0⟩] scope pos) 0 (.ref I) (.ref D) b.env) RR s:=by
 have hn:=sx0.len.symm
 refine KN (fun k s'=>∃i M' L' acc ws m,k+i=ts.length∧acc.length≤i∧Go b A M s₁ M' s'∧Sx b A M' ρ L' s'∧St i s'.heap∧BW b A M' I∧BW b A M' D∧s'.heap.get? D=some (BP ws m)∧PRs b.w M'.P acc ws∧EE L.length stepM finM (ts.drop i) acc L') ?_ ts.length _
  ⟨0,M,L,[],[],0,rfl,Nat.le_refl _,go0,sx0,st1,aI,aD,eD,rfl,hK⟩
 rintro k s' ⟨i,M',L',acc,ws,m,hk,ha,g,st',hst,aI',aD',eD',rv,hK⟩
 by_cases hi:i<ts.length
 ·refine It.walk.item i s' _ _ hi hst fun v h' tk hp hst' hkp=> ?_
  refine hid fun Gg gg=> ?_
  obtain⟨u,e2,hu⟩:=hp
  have k2:∀c ob,c≠I→s'.heap.get? c=some ob→h'.get? c=some ob:=fun c ob nb eb=>hkp c ob (fun q=>nb (List.mem_singleton.mp q)) eb
  have st2:Sx b A M' ρ L' {s' with heap:=h',toks:=tk}:=st'.side aI' k2 rfl rfl
  have g2:Go b A M s₁ M' {s' with heap:=h',toks:=tk}:=g.side nI k2
  have eD2:=k2 D _ ne.symm eD'
  obtain⟨oI,T,w1,w2,w3⟩:=It.here _ _ hst'
  refine gg ?_;clear gg
  refine Uk w1 w2 w3 ?_
  refine hid fun Gg gg=> ?_
  obtain⟨h1,h2⟩:=List.getElem?_eq_some_iff.mp e2
  rw[show ts.drop i=u::ts.drop (i+1) by rw[←h2];exact List.drop_eq_getElem_cons hi]at hK
  obtain⟨ρ₁,El,hsub,hA,hB,hC⟩:=step (.t u) v _ _ M' L' g2.le hK (PR.mono g2.le.P _ hu)
  refine gg ?_;clear gg
  have kept:∀{a o M5 s5},BW b A M' a→h'.get? a=some o→Go b A M' {s' with heap:=h',toks:=tk} M5 s5→s5.heap.get? a=some o:=fun as e g=>(g.keep _ _ (fun q=>q.2.elim as.2.2.1 fun q=>q.elim (fun⟨z,h,_⟩=>as.2.2.2 z _ h rfl) as.1.2) e).exact as.2.1
  have back:∀M5 L5 s5 acc' ws' m',Go b A M s₁ M5 s5→MLe M' M5→Sx b A M5 ρ₁ L5 s5→s5.heap.get? I=some oI→BW b A M5 I→BW b A M5 D→s5.heap.get? D=some (BP ws' m')→PRs b.w M5.P acc' ws'→acc'.length≤i+1→EE L.length stepM finM (ts.drop (i+1)) acc' (cut L.length L5)→
   ∃m,m<k∧∃i M' L' acc ws j,m+i=ts.length∧acc.length≤i∧Go b A M s₁ M' s5∧Sx b A M' ρ L' s5∧St i s5.heap∧BW b A M' I∧BW b A M' D∧s5.heap.get? D=some (BP ws j)∧PRs b.w M'.P acc ws∧EE L.length stepM finM (ts.drop i) acc L':=fun M5 L5 s5 acc' ws' m' g5 l5 st5 gI aI5 aD5 eD5 rv5 ha5 q=>
   ⟨k-1,by lia,i+1,_,_,acc',ws',m',by lia,ha5,g5.cut hn,st5.cut L.length fun x v ok e=>⟨hsub x v ok e,hold x v ok e⟩,It.walk.frame _ _ _ hst' fun c hc ob eb=>by
    rcases It.foot c hc with rfl|⟨o2,e2⟩
    ·rw[w1]at eb;cases eb;exact gI
    ·have e3:=st2.hP _ _ (g2.le.P _ _ e2)
     rw[eb]at e3;cases e3
     exact st5.hP _ _ (g5.le.P _ _ e2),aI5.cut,aD5.cut,eD5,by rw[LL];exact rv5,q⟩
  refine wpAny_mono (hA A M' _ _ (.refl _) am st2 (.none hX)) (fun zz s₂ p=>p.use fun M2 zz ρ2 L2 g3 st3 zz q=> ?_) fun zz zz e=>e
  obtain⟨rfl,rfl⟩:=q
  refine wpAny_mono (hB M2 g3.le A M2 s₂ _ (.refl _) am st3 (.none hX)) (fun ok s₃ p=>p.use fun M3 x L3 g4 st4 e q=> ?_) fun zz zz e=>e
  cases e
  have g5:=g3.trans g4
  cases ok with
  |false=>exact back M3 L3 s₃ acc ws m (g2.trans g5) g5.le st4 (kept aI' w1 g5) (aI'.mono g5 w1) (aD'.mono g5 eD2) (kept aD' eD2 g5) (PRs.mono g5.le.P _ rv) (Nat.le_succ_of_le ha) q
  |true=>
   refine wpAny_mono (hC M3 L3 g5.le q A M3 s₃ _ (.refl _) am st4 (.none hX)) (fun x s₄ p=>p.use fun M4 z L4 g6 st5 hx q=> ?_) fun zz zz e=>e
   refine hid fun Gg gg=> ?_
   obtain⟨y,rfl,q⟩:=CU q
   refine gg ?_;clear gg
   have g7:=g5.trans g6
   have rv7:=PRs.mono g7.le.P _ rv
   have aD7:=aD'.mono g7 eD2
   refine IT (kept aD' eD2 g7) (by rw[←rv7.length];lia) fun k' h'' hs e'=> ?_
   have k3:∀c ob,c≠D→s₄.heap.get? c=some ob→h''.get? c=some ob:=fun c ob n e=>(hs.2 c n).trans e
   exact back M4 L4 _ (acc++[y]) _ k' ((g2.trans g7).side nD k3) g7.le (st5.side aD7 k3 rfl rfl) (k3 I _ ne (kept aI' w1 g7)) (aI'.mono g7 w1) aD7 e' (rv7.append (us:=[y]) ⟨hx,rfl⟩) (by rw[List.length_append];exact Nat.succ_le_succ ha) q
 ·have hi2:i=ts.length:=by lia
  subst hi2
  refine It.walk.done s' _ _ hst fun h' tk hkp=> ?_
  have k2:∀c ob,c≠I→s'.heap.get? c=some ob→h'.get? c=some ob:=fun c ob nb eb=>hkp c ob (fun q=>nb (List.mem_singleton.mp q)) eb
  rw[List.drop_length]at hK
  exact fin M' L' acc ws m _ (g.side nI k2) (st'.side aI' k2 rfl rfl) aD' (k2 D _ ne.symm eD') rv (Nat.le_trans ha hz) hK
theorem Iq{use:Option (Value→Sem Unit)}{Q:Value→Shared→Prop}{a:V}{xv:Value}{stepM:V→(V→LH→Prop)→(LH→Prop)→LH→Prop}{finM:List Tr→LH→Prop}
 (am:Amb b A)(st:Sx b A M ρ L s₁)(K:DW b.env scope)(c1:∀x c,cl.lookup x=some c→scope.names.lookup x=some .free∧b.env.cells.lookup x=some c)(c2:∀x,scope.names.lookup x=some .free→∃c,cl.lookup x=some c)
 (hv:VR b.w M a xv)(hs:Jt (fun l=>EE L.length stepM finM l [] L) a)(step:∀C,NS (Cl b (compEnvC scope cl C b.env)) M (Cs (frees scope) ρ) t ifs elt stepM)
 (fin:∀C D M' L' acc s',Go b A M s₁ M' s'→Sx b A M' ρ (L'++[.list acc]) s'→BW b A M' C→s₁.heap.get? C=none→VR b.w M' (.ref L'.length) (.ref D)→(∃m,s'.heap.Ns C m)→finM acc L'→compPost (model pw_nn0409_01 b.w) A E use Q (.ref D) C (.ok .next) s'):
 WP b A (pyIter xv) (fun it s₂=>WP b A (newList []) (fun acc s₃=>
  WP b A (newFunctionEnv scope b.env.globals cl [] b.env.qual none .none (some b.env)) (fun cenv s₄=>
   codeAny (model pw_nn0409_01 b.w) A (.compStart (.ListComp elt [⟨t,iter,ifs,0⟩] scope pos) 0 it acc {cenv with scope:=relabel scope b.env}) (compPost (model pw_nn0409_01 b.w) A E use Q acc cenv.locals) s₄) E s₃) E s₂) E s₁:=by
 refine Kn am.hand st.hP hv hs fun ts o St fp hz hK hI hSt=> ?_
 have It:=hI A am.hand
 refine wpAny_newObj_type (wpAny_newFunctionEnv K.noCell (fun y hy=>absurd hy List.not_mem_nil) (fun h₁ hns₁ hsb₁=> ?_) K.kind)
 dsimp only at hns₁ hsb₁⊢
 generalize hI0:s₁.heap.objs.size=I at It hSt hns₁ hsb₁⊢
 generalize hH1:s₁.heap.push o=H1 at hSt hns₁ hsb₁⊢
 have sz1:H1.objs.size=I+1:=by rw[←hH1,Heap.size_push,hI0]
 generalize hH2:H1.push {cls:= .type "list",dict:=none,data:= .seq ([]:List Value).toArray}=H2 at hns₁ hsb₁⊢
 have sz2:H2.objs.size=I+2:=by rw[←hH2,Heap.size_push,sz1]
 rw[sz1]
 rw[sz2]at hns₁ hsb₁
 rw[sz2]
 have keep:∀c ob,s₁.heap.get? c=some ob→h₁.get? c=some ob:=fun c ob eb=>hsb₁.extBut c ob (Wi (hI0▸Heap.lt_size eb) 2) (Heap.get?_push_of_some _ (hH2▸Heap.get?_push_of_some _ (hH1▸Heap.get?_push_of_some _ eb)))
 have nl:∀j,s₁.heap.get? (I+j)=none:=fun j=>Internal.gone _ (Wx hI0 j)
 have eD:h₁.get? (I+1)=some (BP [] 0):=by
  refine hsb₁.extBut _ _ (JW 1 2 (by decide)) (Heap.get?_push_of_some _ ?_)
  rw[←hH2]
  have:=Heap.get?_push_size H1 (o:={cls:= .type "list",dict:=none,data:= .seq ([]:List Value).toArray}) rfl
  rwa[sz1]at this
 have st1:St 0 h₁:=It.walk.frame _ _ _ hSt fun c hb ob eb=>by
  have lt:=Heap.lt_size eb
  rw[sz1]at lt
  exact hsb₁.extBut c ob (Wl lt) (Heap.get?_push_of_some _ (hH2▸Heap.get?_push_of_some _ eb))
 have sx0:=Tm (cl:=cl) (s':={s₁ with heap:=h₁,toks:=s₁.toks+([]:List (Str×Value)).length}) K am c1 c2 st keep rfl rfl (nl 2) hns₁
 have am':=P7 (cl:=cl) (C:=I+2) K am c1 c2
 have as0:∀j,j≠2→BW (Cl b (compEnvC scope cl (I+2) b.env)) A M (I+j):=fun j n=>have f:=st.fresh (nl j);⟨⟨f.1,st.notIn (nl j)⟩,f.2.1,JW j 2 n,fun x c e=>f.2.2.2 x c (c1 x c e).2⟩
 have go0:Go (Cl b (compEnvC scope cl (I+2) b.env)) A M s₁ M {s₁ with heap:=h₁,toks:=s₁.toks+([]:List (Str×Value)).length}:=⟨.refl _,fun zz zz zz h=> .inr (.inr h.old),fun a o zz e=> .same (keep _ _ e)⟩
 have hold:∀x v,okS x=true→AW (Cs (frees scope) ρ) (cd x)=some v→Bs L.length v=true:=fun x v ok e=>by
  obtain⟨_,_,hv⟩:=sx0.var
  rcases hv x v ok e with⟨_,y,_,r⟩|⟨_,_,y,_,_,r⟩
  ·exact VR.old (Nat.le_of_eq st.len.symm) v r
  ·exact VR.old (Nat.le_of_eq st.len.symm) v r
 have loop:=Oa (iter:=iter) (scope:=scope) (pos:=pos) (D:=I+1) am' id It hz go0 sx0 st1 hold (as0 0 (by decide)) (as0 1 (by decide)) (nl 0) (nl 1) (TC 1 (by decide)) eD hK (step (I+2))
  (RR:=compPost (model pw_nn0409_01 b.w) A E use Q (.ref (I+1)) (I+2)) fun M' L' acc ws m s' g sti aD e rv ha q=>by
   have stb:=Ob K am c1 c2 st g (nl 2) sti
   have gb:=Go.comp K am c1 g (nl 2)
   have fD:=st.fresh (nl 1)
   have fC:=st.fresh (nl 2)
   have up:=MLe.snoc M' (I+1)
   have fin:=fin (I+2) (I+1) ⟨M'.P,M'.φ++[I+1]⟩ L' acc s' ⟨gb.le.trans up,fun a o e h=> ?_,gb.keep⟩ (stb.addL (o:=BP ws m) aD.1.1 fD.2 aD.1.2 e (.list rv ha)) ⟨⟨sti.loc.1,fun q=>(List.mem_append.mp q).elim sti.loc.2 fun q=>JW 2 1 (by decide) (List.mem_singleton.mp q)⟩,fC.2⟩ (nl 2) ⟨I+1,by rw[stb.len,List.getElem?_append_right (Nat.le_refl _),Nat.sub_self];rfl,rfl⟩ (sti.var.imp fun m h=>h.1) q
   ·exact fin
   ·exact h.elim (fun h=>(List.mem_append.mp h).elim (fun h=>gb.new a o e (.inl h)) fun h=>nos (((List.mem_singleton.mp h)▸nl 1).symm.trans e)) fun h=>gb.new a o e (.inr h)
 exact codeAny_compStart_list loop (It.walk.self 0 _ _ _ st1 loop)
theorem DW.names{env:Env}(K:DW env scope):∀x∈scope.names,x.2= .local→scope.names.lookup x.1=some .local:=fun x hx h=>(As K.nod).mpr (by rw[←h];exact hx)
theorem Sz{Q:V→LH→Prop}{stepM:V→(V→LH→Prop)→(LH→Prop)→LH→Prop}(K:DW b.env scope)(hf:∀x,foldedSetIterable iter b.env x=pure x)
 (h:SE b M ρ L iter fun a L₁=>Jt (fun l=>EE L₁.length stepM (fun acc=>B7 (.list acc) Q) l [] L₁) a)
 (step:∀env' M',env'.scope=relabel scope b.env→MLe M M'→NS (Cl b env') M' (Cs (frees scope) ρ) t ifs elt stepM):SE b M ρ L (.ListComp elt [⟨t,iter,ifs,0⟩] scope pos) Q:=by
 intro A M₁ s E l am st ex
 refine hid fun Gg gg=> ?_
 obtain⟨cl,e1,c1,c2⟩:=G6 K am
 refine gg ?_
 rw[eval_ListComp]
 refine wpAny_comprehension_free (use:=none) rfl hf e1 K.kind K.names (wpAny_mono (h A M₁ s E l am st ex) (fun xv s₁ p=>p.use fun M' a L' g st' hv q=> ?_) fun zz zz e=>e)
 refine Iq am st' K c1 c2 hv q (fun C=>step _ _ rfl (l.trans g.le)) fun C D M2 L2 acc s' g2 st2 aC nC hD hn q=> ?_
 obtain⟨m,hm⟩:=hn
 exact⟨m,hm,fun h' hs'=> .mk (g.trans (g2.side nC fun c o n e=>(hs'.2 c n).trans e)) (st2.side (s':={s' with heap:=h'}) aC (fun c o n e=>(hs'.2 c n).trans e) rfl rfl) hD q⟩
theorem H5{z:Str}{zp spos:Pos}{Q:QS}{stepM:V→(V→LH→Prop)→(LH→Prop)→LH→Prop}(hsw:swapsWith (.ListComp elt [⟨t,iter,ifs,0⟩] scope pos) (some (.Name z zp)) spos.line b.env=pure true)(hz:Dv b.env z=true)
 (K:DW b.env scope)(hf:∀x,foldedSetIterable iter b.env x=pure x)(h:SE b M ρ L iter fun a L₁=>Jt (fun l=>EE L₁.length stepM (fun acc=>B7 (.list acc) fun v L₂=>Q .next (Bk ρ (cd z) v) L₂) l [] L₁) a)
 (step:∀env' M',env'.scope=relabel scope b.env→MLe M M'→NS (Cl b env') M' (Cs (frees scope) ρ) t ifs elt stepM):S1 b M ρ L (.Assign [.Name z zp] (.ListComp elt [⟨t,iter,ifs,0⟩] scope pos) spos) Q:=by
 intro A M₁ s E l am st ex
 refine hid fun Gg gg=> ?_
 obtain⟨cl,e1,c1,c2⟩:=G6 K am
 refine gg ?_
 rw[exec_Assign_Name_used _ _ _ _ hsw]
 refine wpAny_bind (wpAny_standAt (wpAny_bind ?_))
 show wpAny _ A (do let _←comprehension (.ListComp elt [⟨t,iter,ifs,0⟩] scope pos) scope b.env _ (newList []) false (eval iter b.env) (some (assign (.Name z zp) b.env))) _ _ s
 refine wpAny_bind (wpAny_mono (wpAny_comprehension_free (use:=some (assign (.Name z zp) b.env)) (Q:=fun zz s'=>Pst b A M₁ s (FlR b.w) Q .next s') rfl hf e1 K.kind K.names
  (wpAny_mono (h A M₁ s E l am st ex) (fun xv s₁ p=>p.use fun M' a L' g st' hv q=> ?_) fun zz zz e=>e)) (fun zz s' hq=>wpAny_pure (wpAny_pure hq)) fun zz zz e=>e)
 refine Iq (Q:=fun zz s'=>Pst b A M₁ s (FlR b.w) Q .next s') am st' K c1 c2 hv q (fun C=>step _ _ rfl (l.trans g.le)) fun C D M2 L2 acc s' g2 st2 aC nC hD hn q=> ?_
 obtain⟨m,hm⟩:=hn
 show wpAny _ A (assign (.Name z zp) b.env (.ref D)) _ _ s'
 refine hid fun Gg gg=> ?_
 obtain⟨oC,es,ep,w1,w2,w3⟩:=id hm
 refine gg ?_
 have gg:=g.trans g2
 refine wpAny_mono (J.assignN (b:=⟨b.w,b.os,b.n,False,b.env⟩) (M:=M2) (ρ:=ρ) (L:=L2++[TO.list acc]) (v:= .ref L2.length) (pos:=zp) (Q:=fun ρ3 L3=>Q .next ρ3 L3) hz hD (show Q .next (Bk ρ (cd z) (.ref L2.length)) (L2++[TO.list acc])from q) A M2 s' _ (.refl _) ⟨am.hand,am.grd,am.dep,am.uni,am.frs,am.kind,am.glob,am.blt,am.frm,am.has,am.inj⟩ ⟨st2.hP,st2.top,st2.len,st2.hL,st2.nd,st2.fr,st2.var,st2.loc,st2.cel,st2.gens,st2.os⟩ (.none id)) (fun zz s'' p=>p.use fun M3 zz ρ3 L3 g3 st3 zz q=> ?_) fun zz zz e=>e
 have g3:Go b A M2 s' M3 s'':=⟨g3.le,g3.new,g3.keep⟩
 have st3:Sx b A M3 ρ3 L3 s'':=⟨st3.hP,st3.top,st3.len,st3.hL,st3.nd,st3.fr,st3.var,st3.loc,st3.cel,st3.gens,st3.os⟩
 have sC:=(g3.keep C oC (fun q=>q.2.elim aC.2.2.1 fun q=>q.elim (fun⟨z,h,_⟩=>aC.2.2.2 z _ h rfl) aC.1.2) w1).exact aC.2.1
 exact⟨m,⟨oC,es,ep,sC,w2,w3⟩,fun h' hs'=> .mk (x:=Fl.next) (g.trans ((g2.trans g3).side nC fun c o n e=>(hs'.2 c n).trans e)) (st3.side (s':={s'' with heap:=h'}) (aC.mono g3 w1) (fun c o n e=>(hs'.2 c n).trans e) rfl rfl) rfl q⟩
end
end
section
theorem an{p q:Bool}(h:(p&&q)=true):p=true∧q=true:=Bool.and_eq_true_iff.mp h
theorem or_{p q:Bool}(h:(p||q)=true):p=true∨q=true:=Bool.or_eq_true_iff.mp h
theorem ff{C:Prop}(h:false=true):C:=absurd h Bool.false_ne_true
noncomputable def dB{p:Prop}(d:Decidable p)(f:p→Bool):Bool:=d.rec (fun _=>false) f
theorem Aa{p:Prop}{d:Decidable p}{f:p→Bool}(h:dB d f=true):∃q,f q=true:=d.casesOn (motive:=fun d=>dB d f=true→∃q,f q=true) (fun _ h=>ff h) (fun q h=>⟨q,h⟩) h
section
variable{α:Type}{C:List α→Prop}{D:Option α→Prop}{l:List α}{o:Option α}
noncomputable def lc(l:List α)(f:α→List α→Bool):Bool:=l.rec false fun a r _=>f a r
noncomputable def l0(l:List α):Bool:=l.rec true fun _ _ _=>false
noncomputable def l1(l:List α)(f:α→Bool):Bool:=lc l fun a r=>l0 r&&f a
noncomputable def l2(l:List α)(f:α→α→Bool):Bool:=lc l fun a r=>l1 r (f a)
noncomputable def l3(l:List α)(f:α→α→α→Bool):Bool:=lc l fun a r=>l2 r (f a)
noncomputable def o0(o:Option α):Bool:=o.rec true fun _=>false
noncomputable def o1(o:Option α)(f:α→Bool):Bool:=o.rec false f
theorem Lu{f:α→List α→Bool}(h:lc l f=true)(k:∀a r,f a r=true→C (a::r)):C l:=l.casesOn (motive:=fun l=>lc l f=true→C l) (fun h=>ff h) (fun a r h=>k a r h) h
theorem E9(h:l0 l=true)(k:C []):C l:=l.casesOn (motive:=fun l=>l0 l=true→C l) (fun _=>k) (fun _ _ h=>ff h) h
theorem Ju{f:α→Bool}(h:l1 l f=true)(k:∀a,f a=true→C [a]):C l:=Lu (f:=fun a r=>l0 r&&f a) h fun a r h=>E9 (C:=fun r=>C (a::r)) (an h).1 (k a (an h).2)
theorem Rc{f:α→α→Bool}(h:l2 l f=true)(k:∀a b,f a b=true→C [a,b]):C l:=Lu (f:=fun a r=>l1 r (f a)) h fun a r h=>Ju (C:=fun r=>C (a::r)) h (k a)
theorem bj{f:α→α→α→Bool}(h:l3 l f=true)(k:∀a b c,f a b c=true→C [a,b,c]):C l:=Lu (f:=fun a r=>l2 r (f a)) h fun a r h=>Rc (C:=fun r=>C (a::r)) h (k a)
theorem Xs(h:o0 o=true)(k:D none):D o:=o.casesOn (motive:=fun o=>o0 o=true→D o) (fun _=>k) (fun _ h=>ff h) h
theorem UD{f:α→Bool}(h:o1 o f=true)(k:∀a,f a=true→D (some a)):D o:=o.casesOn (motive:=fun o=>o1 o f=true→D o) (fun h=>ff h) k h
end
noncomputable def Gh(e:Expr)(f:BoolOp→List Expr→Pos→Bool):Bool:=dB (Nat.decEq e.ctorIdx 0) fun h=>Expr.BoolOp.elim e h f
theorem Fc{e:Expr}{f:BoolOp→List Expr→Pos→Bool}{C:Expr→Prop}(h:Gh e f=true)(k:∀a b c,f a b c=true→C (.BoolOp a b c)):C e:=(Aa h).elim fun q h=>Expr.BoolOp.elim (motive_1:=fun e=>∀q:e.ctorIdx=0,Expr.BoolOp.elim (motive_1:=fun _=>Bool) e q f=true→C e) e q (fun a b c _ h=>k a b c h) q h
noncomputable def Qj(e:Expr)(f:Expr→Operator→Expr→Pos→Bool):Bool:=dB (Nat.decEq e.ctorIdx 2) fun h=>Expr.BinOp.elim e h f
theorem P1{e:Expr}{f:Expr→Operator→Expr→Pos→Bool}{C:Expr→Prop}(h:Qj e f=true)(k:∀a b c d,f a b c d=true→C (.BinOp a b c d)):C e:=(Aa h).elim fun q h=>Expr.BinOp.elim (motive_1:=fun e=>∀q:e.ctorIdx=2,Expr.BinOp.elim (motive_1:=fun _=>Bool) e q f=true→C e) e q (fun a b c d _ h=>k a b c d h) q h
noncomputable def HU(e:Expr)(f:UnaryOp→Expr→Pos→Bool):Bool:=dB (Nat.decEq e.ctorIdx 3) fun h=>Expr.UnaryOp.elim e h f
theorem G4{e:Expr}{f:UnaryOp→Expr→Pos→Bool}{C:Expr→Prop}(h:HU e f=true)(k:∀a b c,f a b c=true→C (.UnaryOp a b c)):C e:=(Aa h).elim fun q h=>Expr.UnaryOp.elim (motive_1:=fun e=>∀q:e.ctorIdx=3,Expr.UnaryOp.elim (motive_1:=fun _=>Bool) e q f=true→C e) e q (fun a b c _ h=>k a b c h) q h
noncomputable def Qi(e:Expr)(f:Expr→Expr→Expr→Pos→Bool):Bool:=dB (Nat.decEq e.ctorIdx 5) fun h=>Expr.IfExp.elim e h f
theorem Pz{e:Expr}{f:Expr→Expr→Expr→Pos→Bool}{C:Expr→Prop}(h:Qi e f=true)(k:∀a b c d,f a b c d=true→C (.IfExp a b c d)):C e:=(Aa h).elim fun q h=>Expr.IfExp.elim (motive_1:=fun e=>∀q:e.ctorIdx=5,Expr.IfExp.elim (motive_1:=fun _=>Bool) e q f=true→C e) e q (fun a b c d _ h=>k a b c d h) q h
noncomputable def RE(e:Expr)(f:List (Option Expr)→List Expr→Pos→Bool):Bool:=dB (Nat.decEq e.ctorIdx 6) fun h=>Expr.Dict.elim e h f
theorem NB{e:Expr}{f:List (Option Expr)→List Expr→Pos→Bool}{C:Expr→Prop}(h:RE e f=true)(k:∀a b c,f a b c=true→C (.Dict a b c)):C e:=(Aa h).elim fun q h=>Expr.Dict.elim (motive_1:=fun e=>∀q:e.ctorIdx=6,Expr.Dict.elim (motive_1:=fun _=>Bool) e q f=true→C e) e q (fun a b c _ h=>k a b c h) q h
noncomputable def DG(e:Expr)(f:Expr→List Comprehension→Scope→Pos→Bool):Bool:=dB (Nat.decEq e.ctorIdx 8) fun h=>Expr.ListComp.elim e h f
theorem Ct{e:Expr}{f:Expr→List Comprehension→Scope→Pos→Bool}{C:Expr→Prop}(h:DG e f=true)(k:∀a b c d,f a b c d=true→C (.ListComp a b c d)):C e:=(Aa h).elim fun q h=>Expr.ListComp.elim (motive_1:=fun e=>∀q:e.ctorIdx=8,Expr.ListComp.elim (motive_1:=fun _=>Bool) e q f=true→C e) e q (fun a b c d _ h=>k a b c d h) q h
noncomputable def Kv(e:Expr)(f:Expr→List CmpOp→List Expr→Pos→Bool):Bool:=dB (Nat.decEq e.ctorIdx 15) fun h=>Expr.Compare.elim e h f
theorem Lp{e:Expr}{f:Expr→List CmpOp→List Expr→Pos→Bool}{C:Expr→Prop}(h:Kv e f=true)(k:∀a b c d,f a b c d=true→C (.Compare a b c d)):C e:=(Aa h).elim fun q h=>Expr.Compare.elim (motive_1:=fun e=>∀q:e.ctorIdx=15,Expr.Compare.elim (motive_1:=fun _=>Bool) e q f=true→C e) e q (fun a b c d _ h=>k a b c d h) q h
noncomputable def GC(e:Expr)(f:Expr→List Expr→List Keyword→Pos→Bool):Bool:=dB (Nat.decEq e.ctorIdx 16) fun h=>Expr.Call.elim e h f
theorem DS{e:Expr}{f:Expr→List Expr→List Keyword→Pos→Bool}{C:Expr→Prop}(h:GC e f=true)(k:∀a b c d,f a b c d=true→C (.Call a b c d)):C e:=(Aa h).elim fun q h=>Expr.Call.elim (motive_1:=fun e=>∀q:e.ctorIdx=16,Expr.Call.elim (motive_1:=fun _=>Bool) e q f=true→C e) e q (fun a b c d _ h=>k a b c d h) q h
noncomputable def B6(e:Expr)(f:Const→Nat→Pos→Bool):Bool:=dB (Nat.decEq e.ctorIdx 19) fun h=>Expr.Constant.elim e h f
theorem CC{e:Expr}{f:Const→Nat→Pos→Bool}{C:Expr→Prop}(h:B6 e f=true)(k:∀a b c,f a b c=true→C (.Constant a b c)):C e:=(Aa h).elim fun q h=>Expr.Constant.elim (motive_1:=fun e=>∀q:e.ctorIdx=19,Expr.Constant.elim (motive_1:=fun _=>Bool) e q f=true→C e) e q (fun a b c _ h=>k a b c h) q h
noncomputable def Av(e:Expr)(f:Expr→Str→Pos→Bool):Bool:=dB (Nat.decEq e.ctorIdx 20) fun h=>Expr.Attribute.elim e h f
theorem Ah{e:Expr}{f:Expr→Str→Pos→Bool}{C:Expr→Prop}(h:Av e f=true)(k:∀a b c,f a b c=true→C (.Attribute a b c)):C e:=(Aa h).elim fun q h=>Expr.Attribute.elim (motive_1:=fun e=>∀q:e.ctorIdx=20,Expr.Attribute.elim (motive_1:=fun _=>Bool) e q f=true→C e) e q (fun a b c _ h=>k a b c h) q h
noncomputable def BJ(e:Expr)(f:Expr→Expr→Pos→Bool):Bool:=dB (Nat.decEq e.ctorIdx 21) fun h=>Expr.Subscript.elim e h f
theorem Am{e:Expr}{f:Expr→Expr→Pos→Bool}{C:Expr→Prop}(h:BJ e f=true)(k:∀a b c,f a b c=true→C (.Subscript a b c)):C e:=(Aa h).elim fun q h=>Expr.Subscript.elim (motive_1:=fun e=>∀q:e.ctorIdx=21,Expr.Subscript.elim (motive_1:=fun _=>Bool) e q f=true→C e) e q (fun a b c _ h=>k a b c h) q h
noncomputable def DC(e:Expr)(f:Str→Pos→Bool):Bool:=dB (Nat.decEq e.ctorIdx 23) fun h=>Expr.Name.elim e h f
theorem BN{e:Expr}{f:Str→Pos→Bool}{C:Expr→Prop}(h:DC e f=true)(k:∀a b,f a b=true→C (.Name a b)):C e:=(Aa h).elim fun q h=>Expr.Name.elim (motive_1:=fun e=>∀q:e.ctorIdx=23,Expr.Name.elim (motive_1:=fun _=>Bool) e q f=true→C e) e q (fun a b _ h=>k a b h) q h
noncomputable def RD(e:Expr)(f:List Expr→Pos→Bool):Bool:=dB (Nat.decEq e.ctorIdx 24) fun h=>Expr.List.elim e h f
theorem NA{e:Expr}{f:List Expr→Pos→Bool}{C:Expr→Prop}(h:RD e f=true)(k:∀a b,f a b=true→C (.List a b)):C e:=(Aa h).elim fun q h=>Expr.List.elim (motive_1:=fun e=>∀q:e.ctorIdx=24,Expr.List.elim (motive_1:=fun _=>Bool) e q f=true→C e) e q (fun a b _ h=>k a b h) q h
noncomputable def Hm(e:Expr)(f:List Expr→Nat→Pos→Bool):Bool:=dB (Nat.decEq e.ctorIdx 25) fun h=>Expr.Tuple.elim e h f
theorem Dg{e:Expr}{f:List Expr→Nat→Pos→Bool}{C:Expr→Prop}(h:Hm e f=true)(k:∀a b c,f a b c=true→C (.Tuple a b c)):C e:=(Aa h).elim fun q h=>Expr.Tuple.elim (motive_1:=fun e=>∀q:e.ctorIdx=25,Expr.Tuple.elim (motive_1:=fun _=>Bool) e q f=true→C e) e q (fun a b c _ h=>k a b c h) q h
noncomputable def Qh(e:Expr)(f:Option Expr→Option Expr→Option Expr→Pos→Bool):Bool:=dB (Nat.decEq e.ctorIdx 26) fun h=>Expr.Slice.elim e h f
theorem Py{e:Expr}{f:Option Expr→Option Expr→Option Expr→Pos→Bool}{C:Expr→Prop}(h:Qh e f=true)(k:∀a b c d,f a b c d=true→C (.Slice a b c d)):C e:=(Aa h).elim fun q h=>Expr.Slice.elim (motive_1:=fun e=>∀q:e.ctorIdx=26,Expr.Slice.elim (motive_1:=fun _=>Bool) e q f=true→C e) e q (fun a b c d _ h=>k a b c d h) q h
noncomputable def MT(e:Stmt)(f:Option Expr→Pos→Bool):Bool:=dB (Nat.decEq e.ctorIdx 3) fun h=>Stmt.Return.elim e h f
theorem Np{e:Stmt}{f:Option Expr→Pos→Bool}{C:Stmt→Prop}(h:MT e f=true)(k:∀a b,f a b=true→C (.Return a b)):C e:=(Aa h).elim fun q h=>Stmt.Return.elim (motive_2:=fun e=>∀q:e.ctorIdx=3,Stmt.Return.elim (motive_2:=fun _=>Bool) e q f=true→C e) e q (fun a b _ h=>k a b h) q h
noncomputable def JM(e:Stmt)(f:List Expr→Expr→Pos→Bool):Bool:=dB (Nat.decEq e.ctorIdx 5) fun h=>Stmt.Assign.elim e h f
theorem IP{e:Stmt}{f:List Expr→Expr→Pos→Bool}{C:Stmt→Prop}(h:JM e f=true)(k:∀a b c,f a b c=true→C (.Assign a b c)):C e:=(Aa h).elim fun q h=>Stmt.Assign.elim (motive_2:=fun e=>∀q:e.ctorIdx=5,Stmt.Assign.elim (motive_2:=fun _=>Bool) e q f=true→C e) e q (fun a b c _ h=>k a b c h) q h
noncomputable def Gw(e:Stmt)(f:Expr→Operator→Expr→Pos→Bool):Bool:=dB (Nat.decEq e.ctorIdx 7) fun h=>Stmt.AugAssign.elim e h f
theorem Iy{e:Stmt}{f:Expr→Operator→Expr→Pos→Bool}{C:Stmt→Prop}(h:Gw e f=true)(k:∀a b c d,f a b c d=true→C (.AugAssign a b c d)):C e:=(Aa h).elim fun q h=>Stmt.AugAssign.elim (motive_2:=fun e=>∀q:e.ctorIdx=7,Stmt.AugAssign.elim (motive_2:=fun _=>Bool) e q f=true→C e) e q (fun a b c d _ h=>k a b c d h) q h
noncomputable def bD(e:Stmt)(f:Expr→Expr→List Stmt→List Stmt→Pos→Bool):Bool:=dB (Nat.decEq e.ctorIdx 9) fun h=>Stmt.For.elim e h f
theorem Vn{e:Stmt}{f:Expr→Expr→List Stmt→List Stmt→Pos→Bool}{C:Stmt→Prop}(h:bD e f=true)(k:∀a b c d g,f a b c d g=true→C (.For a b c d g)):C e:=(Aa h).elim fun q h=>Stmt.For.elim (motive_2:=fun e=>∀q:e.ctorIdx=9,Stmt.For.elim (motive_2:=fun _=>Bool) e q f=true→C e) e q (fun a b c d g _ h=>k a b c d g h) q h
noncomputable def P9(e:Stmt)(f:Expr→List Stmt→List Stmt→Pos→Bool):Bool:=dB (Nat.decEq e.ctorIdx 11) fun h=>Stmt.While.elim e h f
theorem Os{e:Stmt}{f:Expr→List Stmt→List Stmt→Pos→Bool}{C:Stmt→Prop}(h:P9 e f=true)(k:∀a b c d,f a b c d=true→C (.While a b c d)):C e:=(Aa h).elim fun q h=>Stmt.While.elim (motive_2:=fun e=>∀q:e.ctorIdx=11,Stmt.While.elim (motive_2:=fun _=>Bool) e q f=true→C e) e q (fun a b c d _ h=>k a b c d h) q h
noncomputable def yIf(e:Stmt)(f:Expr→List Stmt→List Stmt→Pos→Bool):Bool:=dB (Nat.decEq e.ctorIdx 12) fun h=>Stmt.If.elim e h f
theorem YT{e:Stmt}{f:Expr→List Stmt→List Stmt→Pos→Bool}{C:Stmt→Prop}(h:yIf e f=true)(k:∀a b c d,f a b c d=true→C (.If a b c d)):C e:=(Aa h).elim fun q h=>Stmt.If.elim (motive_2:=fun e=>∀q:e.ctorIdx=12,Stmt.If.elim (motive_2:=fun _=>Bool) e q f=true→C e) e q (fun a b c d _ h=>k a b c d h) q h
noncomputable def QA(e:Stmt)(f:Option Expr→Option Expr→Pos→Bool):Bool:=dB (Nat.decEq e.ctorIdx 16) fun h=>Stmt.Raise.elim e h f
theorem Ot{e:Stmt}{f:Option Expr→Option Expr→Pos→Bool}{C:Stmt→Prop}(h:QA e f=true)(k:∀a b c,f a b c=true→C (.Raise a b c)):C e:=(Aa h).elim fun q h=>Stmt.Raise.elim (motive_2:=fun e=>∀q:e.ctorIdx=16,Stmt.Raise.elim (motive_2:=fun _=>Bool) e q f=true→C e) e q (fun a b c _ h=>k a b c h) q h
noncomputable def UR(e:Stmt)(f:Expr→Pos→Bool):Bool:=dB (Nat.decEq e.ctorIdx 24) fun h=>Stmt.Expr.elim e h f
theorem Rn{e:Stmt}{f:Expr→Pos→Bool}{C:Stmt→Prop}(h:UR e f=true)(k:∀a b,f a b=true→C (.Expr a b)):C e:=(Aa h).elim fun q h=>Stmt.Expr.elim (motive_2:=fun e=>∀q:e.ctorIdx=24,Stmt.Expr.elim (motive_2:=fun _=>Bool) e q f=true→C e) e q (fun a b _ h=>k a b h) q h
noncomputable def QB(e:Stmt)(f:Pos→Bool):Bool:=dB (Nat.decEq e.ctorIdx 26) fun h=>Stmt.Break.elim e h f
theorem Ou{e:Stmt}{f:Pos→Bool}{C:Stmt→Prop}(h:QB e f=true)(k:∀a,f a=true→C (.Break a)):C e:=(Aa h).elim fun q h=>Stmt.Break.elim (motive_2:=fun e=>∀q:e.ctorIdx=26,Stmt.Break.elim (motive_2:=fun _=>Bool) e q f=true→C e) e q (fun a _ h=>k a h) q h
noncomputable def IO(e:Stmt)(f:Pos→Bool):Bool:=dB (Nat.decEq e.ctorIdx 27) fun h=>Stmt.Continue.elim e h f
theorem KF{e:Stmt}{f:Pos→Bool}{C:Stmt→Prop}(h:IO e f=true)(k:∀a,f a=true→C (.Continue a)):C e:=(Aa h).elim fun q h=>Stmt.Continue.elim (motive_2:=fun e=>∀q:e.ctorIdx=27,Stmt.Continue.elim (motive_2:=fun _=>Bool) e q f=true→C e) e q (fun a _ h=>k a h) q h
noncomputable def aq(e:Const)(f:Bool→Bool):Bool:=dB (Nat.decEq e.ctorIdx 1) fun h=>Const.bool.elim e h f
theorem cm{e:Const}{f:Bool→Bool}{C:Const→Prop}(h:aq e f=true)(k:∀a,f a=true→C (.bool a)):C e:=(Aa h).elim fun q h=>Const.bool.elim (motive:=fun e=>∀q:e.ctorIdx=1,Const.bool.elim (motive:=fun _=>Bool) e q f=true→C e) e q (fun a _ h=>k a h) q h
noncomputable def X6(e:Const)(f:Int→Bool):Bool:=dB (Nat.decEq e.ctorIdx 2) fun h=>Const.int.elim e h f
theorem Qn{e:Const}{f:Int→Bool}{C:Const→Prop}(h:X6 e f=true)(k:∀a,f a=true→C (.int a)):C e:=(Aa h).elim fun q h=>Const.int.elim (motive:=fun e=>∀q:e.ctorIdx=2,Const.int.elim (motive:=fun _=>Bool) e q f=true→C e) e q (fun a _ h=>k a h) q h
noncomputable def fA(e:Const)(f:Str→Bool):Bool:=dB (Nat.decEq e.ctorIdx 5) fun h=>Const.str.elim e h f
theorem cq{e:Const}{f:Str→Bool}{C:Const→Prop}(h:fA e f=true)(k:∀a,f a=true→C (.str a)):C e:=(Aa h).elim fun q h=>Const.str.elim (motive:=fun e=>∀q:e.ctorIdx=5,Const.str.elim (motive:=fun _=>Bool) e q f=true→C e) e q (fun a _ h=>k a h) q h
noncomputable def UW(e:Tr)(f:Bool→Bool):Bool:=dB (Nat.decEq e.ctorIdx 1) fun h=>Tr.bool.elim e h f
theorem R3{e:Tr}{f:Bool→Bool}{C:Tr→Prop}(h:UW e f=true)(k:∀a,f a=true→C (.bool a)):C e:=(Aa h).elim fun q h=>Tr.bool.elim (motive_1:=fun e=>∀q:e.ctorIdx=1,Tr.bool.elim (motive_1:=fun _=>Bool) e q f=true→C e) e q (fun a _ h=>k a h) q h
noncomputable def UA(e:Tr)(f:Int→Bool):Bool:=dB (Nat.decEq e.ctorIdx 2) fun h=>Tr.int.elim e h f
theorem MA{e:Tr}{f:Int→Bool}{C:Tr→Prop}(h:UA e f=true)(k:∀a,f a=true→C (.int a)):C e:=(Aa h).elim fun q h=>Tr.int.elim (motive_1:=fun e=>∀q:e.ctorIdx=2,Tr.int.elim (motive_1:=fun _=>Bool) e q f=true→C e) e q (fun a _ h=>k a h) q h
noncomputable def XW(e:Tr)(f:Str→Bool):Bool:=dB (Nat.decEq e.ctorIdx 3) fun h=>Tr.str.elim e h f
theorem QG{e:Tr}{f:Str→Bool}{C:Tr→Prop}(h:XW e f=true)(k:∀a,f a=true→C (.str a)):C e:=(Aa h).elim fun q h=>Tr.str.elim (motive_1:=fun e=>∀q:e.ctorIdx=3,Tr.str.elim (motive_1:=fun _=>Bool) e q f=true→C e) e q (fun a _ h=>k a h) q h
noncomputable def tfn(e:Tr)(f:Addr→Bool):Bool:=dB (Nat.decEq e.ctorIdx 4) fun h=>Tr.fn.elim e h f
theorem Yn{e:Tr}{f:Addr→Bool}{C:Tr→Prop}(h:tfn e f=true)(k:∀a,f a=true→C (.fn a)):C e:=(Aa h).elim fun q h=>Tr.fn.elim (motive_1:=fun e=>∀q:e.ctorIdx=4,Tr.fn.elim (motive_1:=fun _=>Bool) e q f=true→C e) e q (fun a _ h=>k a h) q h
noncomputable def bK(e:Tr)(f:List Tr→Bool):Bool:=dB (Nat.decEq e.ctorIdx 5) fun h=>Tr.tup.elim e h f
theorem Vy{e:Tr}{f:List Tr→Bool}{C:Tr→Prop}(h:bK e f=true)(k:∀a,f a=true→C (.tup a)):C e:=(Aa h).elim fun q h=>Tr.tup.elim (motive_1:=fun e=>∀q:e.ctorIdx=5,Tr.tup.elim (motive_1:=fun _=>Bool) e q f=true→C e) e q (fun a _ h=>k a h) q h
noncomputable def tfs(e:Tr)(f:List Str→List Tr→Bool):Bool:=dB (Nat.decEq e.ctorIdx 8) fun h=>Tr.fs.elim e h f
theorem Ym{e:Tr}{f:List Str→List Tr→Bool}{C:Tr→Prop}(h:tfs e f=true)(k:∀a b,f a b=true→C (.fs a b)):C e:=(Aa h).elim fun q h=>Tr.fs.elim (motive_1:=fun e=>∀q:e.ctorIdx=8,Tr.fs.elim (motive_1:=fun _=>Bool) e q f=true→C e) e q (fun a b _ h=>k a b h) q h
noncomputable def bH(e:Value)(f:Int→Tok→Bool):Bool:=dB (Nat.decEq e.ctorIdx 4) fun h=>Value.int.elim e h f
theorem Vt{e:Value}{f:Int→Tok→Bool}{C:Value→Prop}(h:bH e f=true)(k:∀a b,f a b=true→C (.int a b)):C e:=(Aa h).elim fun q h=>Value.int.elim (motive:=fun e=>∀q:e.ctorIdx=4,Value.int.elim (motive:=fun _=>Bool) e q f=true→C e) e q (fun a b _ h=>k a b h) q h
noncomputable def bF(e:Value)(f:Str→Tok→Bool):Bool:=dB (Nat.decEq e.ctorIdx 6) fun h=>Value.str.elim e h f
theorem Vr{e:Value}{f:Str→Tok→Bool}{C:Value→Prop}(h:bF e f=true)(k:∀a b,f a b=true→C (.str a b)):C e:=(Aa h).elim fun q h=>Value.str.elim (motive:=fun e=>∀q:e.ctorIdx=6,Value.str.elim (motive:=fun _=>Bool) e q f=true→C e) e q (fun a b _ h=>k a b h) q h
noncomputable def bG(e:Value)(f:Addr→Bool):Bool:=dB (Nat.decEq e.ctorIdx 10) fun h=>Value.ref.elim e h f
theorem Vs{e:Value}{f:Addr→Bool}{C:Value→Prop}(h:bG e f=true)(k:∀a,f a=true→C (.ref a)):C e:=(Aa h).elim fun q h=>Value.ref.elim (motive:=fun e=>∀q:e.ctorIdx=10,Value.ref.elim (motive:=fun _=>Bool) e q f=true→C e) e q (fun a _ h=>k a h) q h
noncomputable def cD(e:Data)(f:Array Value→Nat→Bool):Bool:=dB (Nat.decEq e.ctorIdx 2) fun h=>Data.seq.elim e h f
theorem W6{e:Data}{f:Array Value→Nat→Bool}{C:Data→Prop}(h:cD e f=true)(k:∀a b,f a b=true→C (.seq a b)):C e:=(Aa h).elim fun q h=>Data.seq.elim (motive:=fun e=>∀q:e.ctorIdx=2,Data.seq.elim (motive:=fun _=>Bool) e q f=true→C e) e q (fun a b _ h=>k a b h) q h
noncomputable def vxk(e:Ex)(f:Tr→Bool):Bool:=dB (Nat.decEq e.ctorIdx 1) fun h=>Ex.k.elim e h f
theorem UU{e:Ex}{f:Tr→Bool}{C:Ex→Prop}(h:vxk e f=true)(k:∀a,f a=true→C (.k a)):C e:=(Aa h).elim fun q h=>Ex.k.elim (motive_1:=fun e=>∀q:e.ctorIdx=1,Ex.k.elim (motive_1:=fun _=>Bool) e q f=true→C e) e q (fun a _ h=>k a h) q h
noncomputable def QE(e:Ex)(f:Bool→List Nat→Ex→Ex→List Nat→Bool):Bool:=dB (Nat.decEq e.ctorIdx 15) fun h=>Ex.cmpr.elim e h f
theorem Oy{e:Ex}{f:Bool→List Nat→Ex→Ex→List Nat→Bool}{C:Ex→Prop}(h:QE e f=true)(k:∀a b c d g,f a b c d g=true→C (.cmpr a b c d g)):C e:=(Aa h).elim fun q h=>Ex.cmpr.elim (motive_1:=fun e=>∀q:e.ctorIdx=15,Ex.cmpr.elim (motive_1:=fun _=>Bool) e q f=true→C e) e q (fun a b c d g _ h=>k a b c d g h) q h
noncomputable def KV(e:Ex)(f:Bool→List Nat→Ex→Ex→Bx→List Nat→Bool):Bool:=dB (Nat.decEq e.ctorIdx 16) fun h=>Ex.cmprIf.elim e h f
theorem LS{e:Ex}{f:Bool→List Nat→Ex→Ex→Bx→List Nat→Bool}{C:Ex→Prop}(h:KV e f=true)(k:∀a b c d g m,f a b c d g m=true→C (.cmprIf a b c d g m)):C e:=(Aa h).elim fun q h=>Ex.cmprIf.elim (motive_1:=fun e=>∀q:e.ctorIdx=16,Ex.cmprIf.elim (motive_1:=fun _=>Bool) e q f=true→C e) e q (fun a b c d g m _ h=>k a b c d g m h) q h
end
noncomputable def ssB:List Str→List Str→Bool
 |[],l=>l.isEmpty
 |x::r,l=>match l with
  |[]=>false
  |y::l=>C5 x y&&ssB r l
mutual
noncomputable def trB:Nat→Tr→Tr→Bool
 |0,_,_=>false
 |n+1,x,y=>match x with
  | .none=>LG y
  | .int i=>UA y fun j=>decide (i=j)
  | .str i=>XW y fun j=>C5 i j
  | .fn i=>tfn y fun j=>Nat.beq i j
  | .tup i=>bK y fun j=>trsB n i j
  | .fs ks i=>tfs y fun js j=>ssB ks js&&trsB n i j
  |_=>false
noncomputable def trsB:Nat→List Tr→List Tr→Bool
 |0,_,_=>false
 |n+1,l,m=>match l with
  |[]=>l0 m
  |x::r=>lc m fun y k=>trB n x y&&trsB n r k
end
noncomputable def gvN:List (Nat×Tr):=[(145793861, .int (-1)),(1337429, .int 127),(3496856058100, .fn 28),(513776828381158, .fn 88),(7411674939047588723, .fn 95),(64135644126458211, .fn 100),(1086398182737793955810, .fn 177),(61796396083722858, .fn 184),(976943840884663614308, .fn 191),(17820779235151500231095156, .fn 198),(17650858645238367699974134, .fn 203),(289190284336087933448229614437, .fn 210),(1050798340696044024163, .fn 217),(513915324445555, .fn 224),(122640935114748542662769, .fn 259),(8056292702382815206, .fn 354),(27591752181, .fn 869),(1068098892479807928032, .fn 905),(277006881050902292860256171744, .fn 910),(8417662758226015968, .fn 917),(8054005850049132256, .fn 922),(948045386079876462304, .fn 927),(1618885, .fn 76),(1932100, .fn 117),(8416584618819351373, .fn 166),(62983699802437713, .fn 248),(30012029013, .fn 343),(518098926482628, .fn 520),(513709472003780, .fn 596),(500515534173005, .fn 632),(452377807057741, .fn 691),(3978963759955, .fn 817),(509310072828500, .fn 860),(780496661789126735584, .str ⟨⟨[97,98,10,97,99]⟩⟩),(12792360718665600657307360, .fs [⟨⟨[97]⟩⟩,⟨⟨[98]⟩⟩,⟨⟨[10]⟩⟩,⟨⟨[99]⟩⟩] [.int 1, .int 2, .int 0, .int 0]),(779851485786335131360, .tup [.str ⟨⟨[73,78,73,84,73,65,76]⟩⟩, .str ⟨⟨[65]⟩⟩]),(780639699455807370976, .tup [.tup [], .tup [.tup [.str ⟨⟨[101,99,104,111]⟩⟩, .none]], .tup [.tup [.str ⟨⟨[114,101,116,117,114,110]⟩⟩, .str ⟨⟨[78]⟩⟩]], .tup [.tup [.str ⟨⟨[108,101,115,115]⟩⟩, .int 1], .tup [.str ⟨⟨[114,101,116,117,114,110]⟩⟩, .str ⟨⟨[77]⟩⟩]], .tup [.tup [.str ⟨⟨[98,101,103,105,110]⟩⟩, .str ⟨⟨[65]⟩⟩]], .tup [.tup [.str ⟨⟨[98,101,103,105,110]⟩⟩, .str ⟨⟨[73,78,73,84,73,65,76]⟩⟩], .tup [.str ⟨⟨[114,101,116,117,114,110]⟩⟩, .str ⟨⟨[39,43,39]⟩⟩]]]),(779782304823953110752, .tup [.tup [.int 0], .tup [.int 1], .tup [.int 2], .tup [.int 0, .int 0], .tup [.int 0, .int 1], .tup [.int 0, .int 2], .tup [.int 1, .int 0], .tup [.int 1, .int 1], .tup [.int 1, .int 2], .tup [.int 2, .int 0], .tup [.int 2, .int 1], .tup [.int 2, .int 2]])]
noncomputable def bvN:List (Nat×Bi):=[(1831789, .len),(1995118, .max),(1832302, .min),(1899252, .str),(1669616, .ord),(247281005, .list),(27610872693, .tuple),(1930100, .set),(27600351603, .range),(3497961257076, .sorted),(247018853, .dict)]
noncomputable def okN(z:Str)(n:Nat):Bool:=okS z&&(Nat.beq (cd z) n&& !(Nat.beq n 6972033701246496864||Nat.beq n 1871556228015750684023009376))
theorem MK{z:Str}{n:Nat}(h:okN z n=true):okS z=true∧cd z=n∧(z==("__debug__":Str))=false∧(z==("__classdict__":Str))=false:=by
 unfold okN at h
 obtain⟨h1,h⟩:=Bool.and_eq_true_iff.mp h
 obtain⟨h2,h3⟩:=Bool.and_eq_true_iff.mp h
 rw[Bool.not_eq_true',Bool.or_eq_false_iff]at h3
 have h2:=Nat.eq_of_beq_eq_true h2
 refine⟨h1,h2,beq_false_of_ne fun e=> ?_,beq_false_of_ne fun e=> ?_⟩
 ·subst e;rw[←h2]at h3;exact absurd (h3.1.symm.trans (show Nat.beq (cd (("__debug__":Str))) 6972033701246496864=true by kernel_rfl)) Bool.false_ne_true
 ·subst e;rw[←h2]at h3;exact absurd (h3.2.symm.trans (show Nat.beq (cd (("__classdict__":Str))) 1871556228015750684023009376=true by kernel_rfl)) Bool.false_ne_true
noncomputable def d9:Option NameKind→Bool
 |some .local=>true
 |some .cell=>true
 |some .free=>true
 |_=>false
noncomputable def Rd:Option NameKind→Bool
 |some .globalImplicit=>true
 |_=>false
noncomputable def bZ(sc:Scope)(z:Str)(n:Nat):Bool:=okS z&&(Nat.beq (cd z) n&&(sc.names.lookup z==some .local||sc.names.lookup z==some .cell))
noncomputable def ID(scope sc:Scope):Scope:=
 {scope with names:=scope.names.map fun(n,k)=>if(k== .free&&sc.kind== .function&&sc.names.lookup n==some .cell)then(n, .cell)else(n,k)}
noncomputable def Gk(scope sc:Scope):Bool:=
 scope.kind== .function&&scope.names.all (fun y=>y.2 != .cell&&okS y.1&&(y.2 != .free||sc.names.lookup y.1==some .cell))&&decide (scope.names.map (·.1)).Nodup
noncomputable def FU(e:Expr):Bool:=DC e (fun _ _=>true)||(Av e (fun _ _ _=>true)||(BJ e (fun _ _ _=>true)||(B6 e (fun _ _ _=>true)||GC e fun f _ _ _=>Av f fun _ _ _=>true)))
noncomputable def DR(e:Expr):Bool:= !Nat.beq e.ctorIdx 22
noncomputable def J8(e:Expr):Bool:= !Nat.beq e.ctorIdx 7
noncomputable def HL(e:Expr):Bool:= !Nat.beq e.ctorIdx 26
noncomputable def E3(e:Expr):Bool:=Nat.blt e.ctorIdx 8||Nat.blt 10 e.ctorIdx
noncomputable def ckC(c:Const)(v:Tr):Bool:=match c with
 | .none=>LG v
 | .bool i=>UW v fun j=>i==j
 | .int i=>UA v fun j=>decide (i=j)
 | .str i=>XW v fun j=>C5 i j
 |_=>false
noncomputable def ckK(sc:Scope)(v:Tr)(e:Expr):Bool:=B6 e (fun c _ _=>ckC c v)||DC e fun z _=>Rd (sc.names.lookup z)&&(okN z (cd z)&&o1 (gvN.find? fun p=>Nat.beq p.1 (cd z)) fun p=>trB 30 p.2 v)
noncomputable def Rf(sc:Scope):List Expr→List Nat→Bool
 |[],ks=>l0 ks
 |e::es,ks=>DC e fun z _=>lc ks fun k ks=>bZ sc z k&&Rf sc es ks
noncomputable def Lx(sc:Scope)(one:Bool)(ts:List Nat)(e:Expr):Bool:=bif one then Rf sc [e] ts else Hm e fun es _ _=>Rf sc es ts
noncomputable def Xx(i:Int)(a:Ex):Bool:=vxk a fun v=>UA v fun j=>decide (i=j)
noncomputable def UH(a:Ex):Bool:=vxk a LG
noncomputable def isO(o o':UnaryOp):Bool:=decide (o=o')
noncomputable def isB(o o':BoolOp):Bool:=decide (o=o')
noncomputable def ckO(sc:Scope)(o:Option Expr)(n:Bool)(f:Expr→Bool):Bool:=o.rec n f
noncomputable def Mw(sc:Scope)(scope:Scope)(it:Expr)(fr ts:List Nat):Bool:=Gk scope sc&&(J8 it&&(Lv fr (frees scope)&&ts.all fun k=> !fr.any (Nat.beq k)))
noncomputable def Wu:Bx→Bool
 | .cmp _ _ _=>true
 |_=>false
mutual
noncomputable def ckE:Ex→Scope→Expr→Bool
 | .nm n,sc,e=>DC e fun z _=>okN z n&&d9 (sc.names.lookup z)
 | .k v,sc,e=>ckK sc v e
 | .bin op a b,sc,e=>Qj e fun l o r _=>decide (op=o)&&(ckE a sc l&&ckE b sc r)
 | .ofB b,sc,e=>Wu b&&ckB b sc e
 | .andV a b,sc,e=>Gh e fun o vs _=>isB o .And&&l2 vs fun l r=>ckE a sc l&&ckE b sc r
 | .neg a,sc,e=>HU e fun o l _=>isO o .USub&&ckE a sc l
 | .ite t a b,sc,e=>Qi e fun c l r _=>ckB t sc c&&(ckE a sc l&&ckE b sc r)
 | .attr o n,sc,e=>Av e fun l z _=>okS z&&(Nat.beq (cd z) n&&(FU l&&ckE o sc l))
 | .idx o i,sc,e=>BJ e fun l j _=>HL j&&(ckE o sc l&&ckE i sc j)
 | .slc o lo hi,sc,e=>BJ e fun l j _=>Qh j fun a b st _=>o0 st&&(ckE o sc l&&(ckO sc a (UH lo) (fun a=>ckE lo sc a)&&ckO sc b (UH hi) fun b=>ckE hi sc b))
 | .lst es,sc,e=>RD e fun ls _=>cks es sc ls
 | .lrf es,sc,e=>RD e fun ls _=>cks es sc ls
 | .tup es,sc,e=>Hm e fun ls _ _=>cks es sc ls
 | .dic0,sc,e=>RE e fun ks vs _=>l0 ks&&l0 vs
 | .dic1 a b,sc,e=>RE e fun ks vs _=>l1 ks fun k=>o1 k fun k=>B6 k fun c _ _=>X6 c fun i=>l1 vs fun v=>B6 v fun c _ _=>X6 c fun j=>Xx i a&&Xx j b
 | .cmpr one ts it el fr,sc,e=>DG e fun l gens scope _=>l1 gens fun g=>decide (g.is_async=0)&&(l0 g.ifs&&(Mw sc scope g.iter fr ts&&(Lx (ID scope sc) one ts g.target&&(ckE it sc g.iter&&ckE el (ID scope sc) l))))
 | .cmprIf one ts it el c fr,sc,e=>DG e fun l gens scope _=>l1 gens fun g=>decide (g.is_async=0)&&l1 g.ifs fun d=>Mw sc scope g.iter fr ts&&(Lx (ID scope sc) one ts g.target&&(ckE it sc g.iter&&(ckE el (ID scope sc) l&&ckB c (ID scope sc) d)))
 | .call _ f es,sc,e=>GC e fun g ls kw _=>l0 kw&&(DC g (fun _ _=>true)&&(ckE f sc g&&cks es sc ls))
 | .bcall b es,sc,e=>GC e fun g ls kw _=>l0 kw&&DC g fun z _=>Rd (sc.names.lookup z)&&(okN z (cd z)&&(o1 (bvN.find? fun p=>Nat.beq p.1 (cd z)) (fun p=>Hr p.2==Hr b)&&cks es sc ls))
 | .mth _ o n es,sc,e=>GC e fun g ls kw p=>l0 kw&&Av g fun l z ap=>okS z&&(Nat.beq (cd z) n&&(FU l&&((ap.endLine==p.line)&&(Nat.blt ls.length 29&&(ckE o sc l&&cks es sc ls)))))
 | .frz x,sc,e=>ckE x sc e
noncomputable def cks:Exs→Scope→List Expr→Bool
 | .n,sc,l=>l0 l
 | .c x xs,sc,l=>lc l fun e r=>DR e&&(ckE x sc e&&cks xs sc r)
noncomputable def ckB:Bx→Scope→Expr→Bool
 | .plain x,sc,e=>(DC e (fun _ _=>true)||(Av e (fun _ _ _=>true)||(BJ e (fun _ _ _=>true)||(GC e (fun _ _ _ _=>true)||B6 e fun _ _ _=>true))))&&ckE x sc e
 | .cmp op a b,sc,e=>Kv e fun l os rs _=>l1 os fun o=>l1 rs fun r=> !behindInMarks op r&&(decide (op=o)&&(ckE a sc l&&ckE b sc r))
 | .not b,sc,e=>HU e fun o l _=>isO o .Not&&ckB b sc l
 | .and a b,sc,e=>Gh e fun o vs p=>isB o .And&&(l2 vs (fun l r=>ckB a sc l&&ckB b sc r)||l3 vs fun l r d=>ckB a sc l&&ckB b sc (.BoolOp .And [r,d] p))
 | .or a b,sc,e=>Gh e fun o vs p=>isB o .Or&&(l2 vs (fun l r=>ckB a sc l&&ckB b sc r)||l3 vs fun l r d=>ckB a sc l&&ckB b sc (.BoolOp .Or [r,d] p))
end
noncomputable def HG(l e:Expr):Bool:=(DC l (fun _ _=>true)||(Av l (fun _ _ _=>true)||BJ l fun _ _ _=>true))||Hm l fun _ _ _=>(GC e (fun _ _ _ _=>true)||(DC e (fun _ _=>true)||BJ e fun _ _ _=>true))||Hm e fun vs _ _=>vs.all (foldedForSure 8)
noncomputable def cJ(t:Tg)(sc:Scope)(e:Expr):Bool:=match t with
 | .nm x=>Lx sc true [x] e
 | .tup xs=>Lx sc false xs e
 | .attr o n=>Av e fun l z _=>okS z&&(Nat.beq (cd z) n&&ckE o sc l)
 | .sub o i=>BJ e fun l j _=>HL j&&(ckE o sc l&&ckE i sc j)
noncomputable def fB(sc scope:Scope)(z:Str)(zp cp:Pos)(x:Nat):Bool:=okS z&&(Nat.beq (cd z) x&&(sc.kind== .function&&(sc.names.lookup z==some .local&&(zp.line==cp.line&& !(scope.names.any fun(n,k)=>n==z&&(k== .local||k== .cell))))))
noncomputable def eN(x:Ex):Bool:=QE x (fun _ _ _ _ _=>true)||KV x fun _ _ _ _ _ _=>true
noncomputable def Vf(sc:Scope)(e:Expr):Bool:=DC e fun z _=>sc.kind== .function&&sc.names.lookup z==some .cell
mutual
noncomputable def ckS:St→Scope→Stmt→Bool
 | .asg t x,sc,s=>JM s fun ts e _=>l1 ts fun l=>(bif E3 e then HG l e else DG e (fun _ _ _ _=>true)&&Vf sc l)&&(ckE x sc e&&cJ t sc l)
 | .asgC n x,sc,s=>JM s fun ts e _=>l1 ts fun l=>DC l fun z zp=>DG e fun el gens scope cp=>fB sc scope z zp cp n&&(eN x&&ckE x sc (.ListComp el gens scope cp))
 | .aug o n x,sc,s=>Gw s fun t op e _=>Av t fun l z _=>decide (op= .Add)&&(okS z&&(Nat.beq (cd z) n&&(ckE o sc l&&ckE x sc e)))
 | .ex x,sc,s=>UR s fun e _=>E3 e&&ckE x sc e
 | .ret x,sc,s=>MT s fun v _=>o1 v fun e=>ckE x sc e
 | .ite t a b,sc,s=>yIf s fun c l r _=>ckB t sc c&&(ckSs a sc l&&ckSs b sc r)
 | .whl t b,sc,s=>P9 s fun c l r _=>l0 r&&(ckB t sc c&&ckSs b sc l)
 | .for_ one ts it b,sc,s=>bD s fun t i l r _=>l0 r&&(J8 i&&(Lx sc one ts t&&(ckE it sc i&&ckSs b sc l)))
 | .brk,sc,s=>QB s fun _=>true
 | .cont,sc,s=>IO s fun _=>true
 | .frz n,_,_=>false
 | .rais a b,sc,s=>QA s fun ex ca _=>o0 ca&&o1 ex fun ex=>GC ex fun g ls kw _=>l0 kw&&DC g fun f _=>l2 ls fun x y=>f==("ScanError":Str)&&(Rd (sc.names.lookup f)&&(DR x&&(DR y&&(ckE a sc x&&ckE b sc y))))
noncomputable def Nd:St→Option Nat
 | .frz n=>some n
 |_=>none
noncomputable def ckSs:Sts→Scope→List Stmt→Bool
 | .n,sc,l=>l0 l
 | .c s r,sc,l=>match Nd s with
  |some n=>GE n&&ckSs r sc l
  |none=>lc l fun t l=>ckS s sc t&&ckSs r sc l
end
section
noncomputable def KOk(w:World)(os:OsState)(n:Nat)(X:Prop)(K:KT'):Prop:=∀env M ρ L k Q f vl x xs,VR w M f x→VRs w M vl xs→FK K k f vl Q L→SV ⟨w,os,n,X,env⟩ M ρ L (call x xs) Q
structure Cok(b:Bc)(c:Ctx):Prop where
 K:KOk b.w b.os b.n b.X c.K
 K0:KOk b.w b.os b.n False c.K0
 X:c.X→b.X∧2≤b.n
theorem Cok.low{b:Bc}{c:Ctx}(k:Cok b c){env':Env}:Cok (Cl b env') c.low:=⟨k.K0,k.K0,fun h=>h.elim⟩
noncomputable def Ay(x:Ex)(sc:Scope)(e:Expr):Prop:=∀(b:Bc) c M ρ L Q,b.env.scope=sc→Cok b c→we x c ρ Q L→SE b M ρ L e Q
noncomputable def Jy(x:Bx)(sc:Scope)(e:Expr):Prop:=∀(b:Bc) c M ρ L Q,b.env.scope=sc→Cok b c→wb x c ρ Q L→SB b M ρ L (isTrue e b.env (eval e b.env)) Q
noncomputable def Rk(xs:Exs)(sc:Scope)(es:List Expr):Prop:=(∀e∈es,∀a p,e≠ .Starred a p)∧∀(b:Bc) c M ρ L pos Q,b.env.scope=sc→Cok b c→was xs c ρ Q L→SA b M ρ L pos es Q
noncomputable abbrev IE(x:Ex):Prop:=∀sc e,ckE x sc e=true→Ay x sc e
noncomputable abbrev IB(x:Bx):Prop:=∀sc e,ckB x sc e=true→Jy x sc e
noncomputable abbrev IA(x:Exs):Prop:=∀sc es,cks x sc es=true→Rk x sc es
section
variable{sc:Scope}{e:Expr}{a d u:Ex}{es:Exs}{t t2:Bx}
theorem WN{n:Nat}(h:ckE (.nm n) sc e=true):Ay (.nm n) sc e:=BN h fun z p h=>by
 obtain⟨o1,rfl,o2,o3⟩:=MK (an h).1
 exact fun b c M ρ L Q hs k hw=>(AO (show Ax (AW ρ (cd z)) fun v=>Q v L from hw)).elim fun v h=>Ew o1 h.1 h.2 o2 o3
theorem Sl{op:Operator}(ia:IE a)(id:IE d)(h:ckE (.bin op a d) sc e=true):Ay (.bin op a d) sc e:=P1 h fun l o r p h=>by
 cases of_decide_eq_true (an h).1
 intro b c M ρ L Q hs k hw
 show JE _ _ _ _ (eval (.BinOp l op r p) b.env) _ _
 rw[eval_BinOp]
 exact JE.bind (ia _ _ (an (an h).2).1 b c M ρ L _ hs k hw) fun M1 x v L1 l1 vx q1=>JE.bind (JE.holding (id _ _ (an (an h).2).2 b c M1 ρ L1 _ hs k q1)) fun M2 y u L2 l2 vy q2=>JE.stand (JE.operate (WD (VR.mono l2 _ vx) vy q2))
theorem Ve{op:CmpOp}{C:Expr→Prop}(ia:IE a)(id:IE d)(h:ckB (.cmp op a d) sc e=true)(k:∀l r p,behindInMarks op r=false→Ay a sc l→Ay d sc r→C (.Compare l [op] [r] p)):C e:=
 Lp h fun l os rs p h=>Ju (C:=fun os=>C (.Compare l os rs p)) h fun o h=>Ju (C:=fun rs=>C (.Compare l [o] rs p)) h fun r h=>by
  cases of_decide_eq_true (an (an h).2).1
  exact k l r p ((Bool.not_eq_true' _).mp (an h).1) (ia _ _ (an (an (an h).2).2).1) (id _ _ (an (an (an h).2).2).2)
theorem Sb{op:CmpOp}(ia:IE a)(id:IE d)(h:ckE (.ofB (.cmp op a d)) sc e=true):Ay (.ofB (.cmp op a d)) sc e:=Ve ia id h fun l r p hm sa sd=>by
 intro b c M ρ L Q hs k hw
 show JE _ _ _ _ (eval (.Compare l [op] [r] p) b.env) _ _
 rw[eval_Compare1,markedBehindIn_of_false hm]
 exact JE.bind (sa b c M ρ L _ hs k hw) fun M1 x v L1 l1 vx q1=>JE.bind (JE.holding (sd b c M1 ρ L1 _ hs k q1)) fun M2 y u L2 l2 vy q2=>JE.stand (JE.operate (QJ (VR.mono l2 _ vx) vy q2))
theorem Se(ia:IE a)(h:ckE (.neg a) sc e=true):Ay (.neg a) sc e:=G4 h fun o l p h=>by
 cases of_decide_eq_true (an h).1
 intro b c M ρ L Q hs k hw
 show JE _ _ _ _ (eval (.UnaryOp .USub l p) b.env) _ _
 rw[arm_eval_UnaryOp]
 refine JE.bind (ia _ _ (an h).2 b c M ρ L _ hs k hw) fun M1 x v L1 l1 vx q1=>JE.stand (JE.holding ?_)
 obtain⟨i,rfl,q⟩:=AX q1
 exact V7 vx q
theorem PX(ia:IE a)(id:IE d)(h:ckE (.andV a d) sc e=true):Ay (.andV a d) sc e:=Fc h fun o vs p h=>by
 cases of_decide_eq_true (an h).1
 refine Rc (C:=fun vs=>Ay (.andV a d) sc (.BoolOp .And vs p)) (an h).2 fun l r h=> ?_
 intro b c M ρ L Q hs k hw
 show JE _ _ _ _ (do
  let v←eval l b.env
  PySem.standAt p
  let t←PySem.holding [v] (truthy v)
  match BoolOp.And,t with
  | .And,false| .Or,true=>pure v
  |_,_=>eval r b.env) _ _
 refine JE.bind (ia _ _ (an h).1 b c M ρ L _ hs k hw) fun M1 x v L1 l1 vx q1=> ?_
 obtain⟨t,e2,q⟩:=AO q1
 refine JE.stand (JE.bind (JE.holding (Ia (Qb:=fun t L'=>ifB t (we d c ρ Q L') (Q v L')) vx e2 q)) fun M2 t t' L2 l2 e q=> ?_)
 cases e
 cases t with
 |false=>exact JE.pure (x:=v) (fun M3 l3=>VR.mono (l2.trans l3) _ vx) q
 |true=>exact id _ _ (an h).2 b c M2 ρ L2 _ hs k q
theorem Si(it:IB t)(ia:IE a)(id:IE d)(h:ckE (.ite t a d) sc e=true):Ay (.ite t a d) sc e:=Pz h fun cc l r p h=>by
 intro b c M ρ L Q hs k hw
 show JE _ _ _ _ (eval (.IfExp cc l r p) b.env) _ _
 rw[arm_eval_IfExp]
 refine JE.bind (it _ _ (an h).1 b c M ρ L _ hs k hw) fun M1 t t' L1 l1 e q=> ?_
 cases e
 cases t with
 |true=>exact ia _ _ (an (an h).2).1 b c M1 ρ L1 _ hs k q
 |false=>exact id _ _ (an (an h).2).2 b c M1 ρ L1 _ hs k q
theorem Jo{o:Expr}{name:Str}{env:Env}(h:FU o=true):attributeBase o name env (eval o env)=eval o env:=
 let C:=fun o=>attributeBase o name env (eval o env)=eval o env
 (or_ h).elim (fun h=>BN (C:=C) h fun _ _ _=>rfl) fun h=>(or_ h).elim (fun h=>Ah (C:=C) h fun _ _ _ _=>rfl) fun h=>(or_ h).elim (fun h=>Am (C:=C) h fun _ _ _ _=>rfl) fun h=>(or_ h).elim (fun h=>CC (C:=C) h fun _ _ _ _=>rfl) fun h=>
  DS (C:=C) h fun f ls kw p h=>Ah (C:=fun f=>C (.Call f ls kw p)) h fun _ _ _ _=>rfl
theorem PW{n:Nat}(ia:IE a)(h:ckE (.attr a n) sc e=true):Ay (.attr a n) sc e:=Ah h fun o z p h=>by
 refine hid fun Gg gg=> ?_
 obtain⟨h1,h2⟩:=an h
 obtain⟨h2,h3⟩:=an h2
 cases Nat.eq_of_beq_eq_true h2
 refine gg ?_;clear gg
 intro b c M ρ L Q hs k hw
 show JE _ _ _ _ (eval (.Attribute o z p) b.env) _ _
 rw[arm_eval_Attribute,Jo (an h3).1]
 refine JE.bind (ia _ _ (an h3).2 b c M ρ L _ hs k hw) fun M1 x v L1 l1 vx q1=> ?_
 refine hid fun Gg gg=> ?_
 obtain⟨C,ks,vl,u,f1,f2,q,f3⟩:=K5 (show Nj L1 (cd z) (fun u=>Q u L1) v from q1)
 refine gg ?_;clear gg
 refine JE.stand (JE.bind (JE.holding (Mf (Q:=fun w L'=>w=u∧L'=L1) (fun A M₁ s st hx=>f3 A M₁ s _ st hx) vx (Ds h1 f1) f2 ⟨rfl,rfl⟩)) fun M2 y w L2 l2 vy e=> ?_)
 obtain⟨rfl,rfl⟩:=e
 exact JE.bind (rel:=FB) (Qe:=fun zz L'=>Q w L') (JE.still () (fun A M₁ s m Q' E l lf k=>wpAny_letTemporaryGo (k () s.toks s.heap (.refl _ _) trivial)) q) fun M3 zz zz L3 l3 zz q=>JE.pure (x:=w) (fun M4 l4=>VR.mono (l3.trans l4) _ vy) q
theorem OM{j:Expr}(h:HL j=true):∀x y,subscripted j false x y=operate [x,y] (getItem x y):=by
 cases j<;>first|exact ff h|exact fun zz zz=>rfl
theorem Sj(ia:IE a)(id:IE d)(h:ckE (.idx a d) sc e=true):Ay (.idx a d) sc e:=Am h fun o j p h=>by
 intro b c M ρ L Q hs k hw
 show JE _ _ _ _ (eval (.Subscript o j p) b.env) _ _
 rw[arm_eval_Subscript]
 exact JE.bind (ia _ _ (an (an h).2).1 b c M ρ L _ hs k hw) fun M1 x v L1 l1 vx q1=>JE.bind (JE.holding (id _ _ (an (an h).2).2 b c M1 ρ L1 _ hs k q1)) fun M2 y u L2 l2 vy q2=>JE.stand (V4 (OM (an h).1) (VR.mono l2 _ vx) vy q2)
theorem HM{v:Tr}(h:LG v=true):v= .none:=by cases v<;>first|rfl|exact ff h
theorem TT(h:UH a=true):a= .k .none:=UU (C:=fun a=>a= .k .none) h fun v h=>congrArg Ex.k (HM h)
theorem Mk{o:Option Expr}(ia:IE a)(h:ckO sc o (UH a) (fun o=>ckE a sc o)=true)(b:Bc)(c:Ctx)(M:Mp)(ρ:Rho)(L:LH)(Q:V→LH→Prop)(hs:b.env.scope=sc)(k:Cok b c)(hw:we a c ρ Q L):SV b M ρ L (Q6 o b.env) Q:=by
 cases o with
 |none=>cases TT h;exact JE.pure (x:=vn) (fun zz zz=>rfl) hw
 |some o=>exact ia _ _ h b c M ρ L Q hs k hw
theorem Sa(ia:IE a)(id:IE d)(iu:IE u)(h:ckE (.slc a d u) sc e=true):Ay (.slc a d u) sc e:=
 Am h fun o j p h=>Py (C:=fun j=>Ay (.slc a d u) sc (.Subscript o j p)) h fun lo hi st p2 h=>Xs (D:=fun st=>Ay (.slc a d u) sc (.Subscript o (.Slice lo hi st p2) p)) (an h).1 fun b c M ρ L Q hs k hw=>
  PZ (Q2:=fun v l L₂=>we u c ρ (fun r L₃=>Fu v l r Q L₃) L₂) (ia _ _ (an (an h).2).1 b c M ρ L _ hs k hw) (fun M1 v L1 l1 q=>Mk id (an (an (an h).2).2).1 b c M1 ρ L1 _ hs k q) fun M1 v l L1 l1 q=>Mk iu (an (an (an h).2).2).2 b c M1 ρ L1 _ hs k q
theorem Sg(ia:IA es)(h:ckE (.lst es) sc e=true):Ay (.lst es) sc e:=NA h fun ls p h b c M ρ L Q hs k hw=>Sv ((ia _ _ h).2 b c M ρ L p _ hs k hw) fun zz zz q=>q
theorem Sh(ia:IA es)(h:ckE (.lrf es) sc e=true):Ay (.lrf es) sc e:=NA h fun ls p h b c M ρ L Q hs k hw=>Ss ((ia _ _ h).2 b c M ρ L p _ hs k hw) fun zz zz q=>q
theorem SZ(ia:IA es)(h:ckE (.tup es) sc e=true):Ay (.tup es) sc e:=Dg h fun ls j p h b c M ρ L Q hs k hw=>PY ((ia _ _ h).2 b c M ρ L p _ hs k hw) fun zz zz q=>q
theorem Sk(ia:IE a)(h:ckE (.frz a) sc e=true):Ay (.frz a) sc e:=fun b c M ρ L Q hs k hw=>SV.frz (ia _ _ h b c M ρ L _ hs k hw)
theorem Pi(h:DR e=true):∀x p,e≠ .Starred x p:=fun x p q=>by subst q;exact ff h
theorem FO{r:List Expr}{env:Env}(h:DR e=true):starEach (e::r) env=(false,eval e env)::starEach r env:=by cases e<;>first|rfl|exact ff h
theorem Sd{l:List Expr}(h:cks .n sc l=true):Rk .n sc l:=E9 (C:=Rk .n sc) h ⟨fun e he=>absurd he List.not_mem_nil,fun b c M ρ L pos Q hs k hw=>MH hw⟩
theorem PT{l:List Expr}(ia:IE a)(ie:IA es)(h:cks (.c a es) sc l=true):Rk (.c a es) sc l:=Lu (C:=Rk (.c a es) sc) h fun e r h=>
 have hi:=ie _ _ (an (an h).2).2
 have ns:=Pi (an h).1
 ⟨fun e' h'=>(List.mem_cons.mp h').elim (fun q=>q▸ns) fun h'=>hi.1 e' h',fun b c M ρ L pos Q hs k hw=>Ey (FO (an h).1) (ia _ _ (an (an h).2).1 b c M ρ L _ hs k hw) fun M1 v L1 l1 q=>hi.2 b c M1 ρ L1 pos _ hs k q⟩
variable{b:Bc}{M:Mp}{ρ:Rho}{L:LH}{x:Expr}{r:List Expr}{Q:Bool→LH→Prop}
theorem MG{R:LH→Prop}(h:SB b M ρ L (isTrue x b.env (eval x b.env)) fun t L₁=>ifB t (R L₁) (Q false L₁))(k:∀M' L',MLe M M'→R L'→SB b M' ρ L' (allTrue .And r b.env) Q):SB b M ρ L (allTrue .And (x::r) b.env) Q:=by
 show JE _ _ _ _ (do match BoolOp.And,←isTrue x b.env (eval x b.env)with
  | .And,false=>pure false
  | .Or,true=>pure true
  |_,_=>allTrue .And r b.env) _ _
 refine JE.bind h fun M1 t t' L1 l1 e q=> ?_
 cases e
 cases t with
 |false=>exact JE.pure (x:=false) (fun zz zz=>rfl) q
 |true=>exact k M1 L1 l1 q
theorem Q4{R:LH→Prop}(h:SB b M ρ L (isTrue x b.env (eval x b.env)) fun t L₁=>ifB t (Q true L₁) (R L₁))(k:∀M' L',MLe M M'→R L'→SB b M' ρ L' (allTrue .Or r b.env) Q):SB b M ρ L (allTrue .Or (x::r) b.env) Q:=by
 show JE _ _ _ _ (do match BoolOp.Or,←isTrue x b.env (eval x b.env)with
  | .And,false=>pure false
  | .Or,true=>pure true
  |_,_=>allTrue .Or r b.env) _ _
 refine JE.bind h fun M1 t t' L1 l1 e q=> ?_
 cases e
 cases t with
 |true=>exact JE.pure (x:=true) (fun zz zz=>rfl) q
 |false=>exact k M1 L1 l1 q
theorem Ks{t:Bool}{F:Bool→Prop}(h:F t):ifB t (F true) (F false):=by cases t<;>exact h
theorem S4(h:SB b M ρ L (isTrue x b.env (eval x b.env)) Q):SB b M ρ L (allTrue .And [x] b.env) Q:=MG (R:=fun L'=>Q true L') (h.mono fun t L' q=>Ks (F:=fun t=>Q t L') q) fun M' L' zz q=>JE.pure (x:=true) (fun zz zz=>rfl) q
theorem WV(h:SB b M ρ L (isTrue x b.env (eval x b.env)) Q):SB b M ρ L (allTrue .Or [x] b.env) Q:=Q4 (R:=fun L'=>Q false L') (h.mono fun t L' q=>Ks (F:=fun t=>Q t L') q) fun M' L' zz q=>JE.pure (x:=false) (fun zz zz=>rfl) q
theorem So(i1:IB t)(i2:IB t2)(h:ckB (.and t t2) sc e=true):Jy (.and t t2) sc e:=Fc h fun o vs p h=>by
 cases of_decide_eq_true (an h).1
 exact(or_ (an h).2).elim (fun h=>Rc (C:=fun vs=>Jy (.and t t2) sc (.BoolOp .And vs p)) h fun l r h b c M ρ L Q hs k hw=>MG (R:=fun L'=>wb t2 c ρ Q L') (i1 _ _ (an h).1 b c M ρ L _ hs k hw) fun M' L' zz q=>S4 (i2 _ _ (an h).2 b c M' ρ L' _ hs k q))
  fun h=>bj (C:=fun vs=>Jy (.and t t2) sc (.BoolOp .And vs p)) h fun l r d h b c M ρ L Q hs k hw=>MG (R:=fun L'=>wb t2 c ρ Q L') (i1 _ _ (an h).1 b c M ρ L _ hs k hw) fun M' L' zz q=>i2 _ _ (an h).2 b c M' ρ L' _ hs k q
theorem WO(i1:IB t)(i2:IB t2)(h:ckB (.or t t2) sc e=true):Jy (.or t t2) sc e:=Fc h fun o vs p h=>by
 cases of_decide_eq_true (an h).1
 exact(or_ (an h).2).elim (fun h=>Rc (C:=fun vs=>Jy (.or t t2) sc (.BoolOp .Or vs p)) h fun l r h b c M ρ L Q hs k hw=>Q4 (R:=fun L'=>wb t2 c ρ Q L') (i1 _ _ (an h).1 b c M ρ L _ hs k hw) fun M' L' zz q=>WV (i2 _ _ (an h).2 b c M' ρ L' _ hs k q))
  fun h=>bj (C:=fun vs=>Jy (.or t t2) sc (.BoolOp .Or vs p)) h fun l r d h b c M ρ L Q hs k hw=>Q4 (R:=fun L'=>wb t2 c ρ Q L') (i1 _ _ (an h).1 b c M ρ L _ hs k hw) fun M' L' zz q=>i2 _ _ (an h).2 b c M' ρ L' _ hs k q
theorem Sm(i1:IB t)(h:ckB (.not t) sc e=true):Jy (.not t) sc e:=G4 h fun o l p h=>by
 cases of_decide_eq_true (an h).1
 intro b c M ρ L Q hs k hw
 show JE _ _ _ _ (isTrue (.UnaryOp .Not l p) b.env _) _ _
 rw[arm_isTrue_UnaryOp]
 refine JE.bind (i1 _ _ (an h).2 b c M ρ L _ hs k hw) fun M1 t t' L1 l1 e q=> ?_
 cases e
 exact JE.pure (x:= !t) (fun zz zz=>rfl) q
noncomputable def ay(P:Bool→Prop):Tr→Prop
 | .bool t=>P t
 |_=>False
theorem Sn{op:CmpOp}(ia:IE a)(id:IE d)(h:ckB (.cmp op a d) sc e=true):Jy (.cmp op a d) sc e:=Ve ia id h fun l r p hm sa sd=>by
 intro b c M ρ L Q hs k hw
 show JE _ _ _ _ (isTrue (.Compare l [op] [r] p) b.env _) _ _
 rw[isTrue_Compare1,markedBehindIn_of_false hm]
 refine JE.bind (sa b c M ρ L _ hs k hw) fun M1 x v L1 l1 vx q1=>JE.bind (JE.holding (sd b c M1 ρ L1 _ hs k q1)) fun M2 y u L2 l2 vy q2=>JE.stand (JE.bind (JE.operate (QJ (Q:=fun v L'=>tW (ay fun t=>Q t L') v) (VR.mono l2 _ vx) vy q2)) fun M3 z v L3 l3 vz q=> ?_)
 obtain⟨t,rfl,q⟩:=CU q
 cases t with
 |bool t=>cases vz;exact JE.holding (JE.pure (x:=t) (fun zz zz=>rfl) q)
 |_=>exact q.elim
theorem OE(ia:IE a)(h:ckB (.plain a) sc e=true):Jy (.plain a) sc e:=by
 have he:∀env,isTrue e env (eval e env)=(do let v←eval e env;PySem.standAt e.pos;PySem.holding [v] (truthy v)):=
  let C:=fun e=>∀env,isTrue e env (eval e env)=(do let v←eval e env;PySem.standAt e.pos;PySem.holding [v] (truthy v))
  (or_ (an h).1).elim (fun h=>BN (C:=C) h fun _ _ _ _=>rfl) fun h=>(or_ h).elim (fun h=>Ah (C:=C) h fun _ _ _ _ _=>rfl) fun h=>(or_ h).elim (fun h=>Am (C:=C) h fun _ _ _ _ _=>rfl) fun h=>
   (or_ h).elim (fun h=>DS (C:=C) h fun _ _ _ _ _ _=>rfl) fun h=>CC (C:=C) h fun _ _ _ _ _=>rfl
 intro b c M ρ L Q hs k hw
 rw[he]
 refine JE.bind (ia _ _ (an h).2 b c M ρ L _ hs k hw) fun M1 x v L1 l1 vx q=> ?_
 obtain⟨t,e,q⟩:=AO q
 exact JE.stand (JE.holding (Ia vx e q))
end
end
section
mutual
noncomputable def vrB(K:Frag):Nat→Tr→Value→Bool
 |0,_,_=>false
 |n+1,v,y=>match v with
  | .none=>y== .none
  | .int i=>bH y fun j _=>decide (i=j)
  | .str i=>bF y fun j _=>i==j
  | .fn a=>y== .ref a
  | .tup ts=>bG y fun a=>o1 (K.lookup a) fun o=>o.cls== .type "tuple"&&(o0 o.dict&&cD o.data fun ws _=>Nat.ble ts.length 1000&&vrsB K n ts ws.toList)
  |_=>false
noncomputable def vrsB(K:Frag):Nat→List Tr→List Value→Bool
 |0,_,_=>false
 |n+1,l,ys=>match l with
  |[]=>l0 ys
  |v::r=>lc ys fun y ys=>vrB K n v y&&vrsB K n r ys
end
noncomputable def gvB(K:Frag)(p:Nat×Tr):Bool:=o1 (nsIn K 3 (dec p.1)) fun y=>o1 y fun y=>bif Nat.beq p.1 12792360718665600657307360 then y== .ref 870 else vrB K 30 p.2 y
theorem Ww(P:Params):(gvN.all fun p=>GE p.1&&gvB (KT P) p)=true:=by kernel_rfl
theorem XD(P:Params):(bvN.all fun p=>GE p.1&&(nsIn (KT P) 3 (dec p.1)==some none&&(nsIn (KT P) 0 (dec p.1)==some (some (Hr p.2)))))=true:=by kernel_rfl
theorem eJ(P:Params):(KT P).lookup 870=some (bY P):=by kernel_rfl
theorem aW:(gvN.find? fun p=>Nat.beq p.1 12792360718665600657307360)=some (12792360718665600657307360, .fs [⟨⟨[97]⟩⟩,⟨⟨[98]⟩⟩,⟨⟨[10]⟩⟩,⟨⟨[99]⟩⟩] [.int 1, .int 2, .int 0, .int 0]):=by kernel_rfl
theorem HY{α:Type}{l:List α}{p q:α→Bool}{a:α}(h:l.all q=true)(f:l.find? p=some a):p a=true∧q a=true:=⟨List.find?_some f,List.all_eq_true.mp h a (List.mem_of_find?_eq_some f)⟩
section
variable{w:World}{P:PH}{K:Frag}{sc:Scope}{e:Expr}{a d u:Ex}{es:Exs}{t t2:Bx}
theorem TA(hK:∀a o,(KT w.params).lookup a=some o→P a=some o):PR w P (.fs [⟨⟨[97]⟩⟩,⟨⟨[98]⟩⟩,⟨⟨[10]⟩⟩,⟨⟨[99]⟩⟩] [.int 1, .int 2, .int 0, .int 0]) (.ref 870):=by
 refine⟨870,[("a", .int 1 1442),("b", .int 2 1444),("\n", .int 0 1446),("c", .int 0 1448)],rfl,⟨⟨_,hK _ _ (eJ _),⟨_,_,⟨rfl,rfl,rfl⟩,rfl, ?_, ?_, ?_⟩⟩,by decide,by decide⟩,rfl,⟨_,rfl⟩,⟨_,rfl⟩,⟨_,rfl⟩,⟨_,rfl⟩,rfl⟩
 ·intro e he
  simp only[List.mem_toArray,List.map_cons,List.map_nil,List.mem_cons,List.not_mem_nil,or_false]at he
  rcases he with rfl|rfl|rfl|rfl
  ·exact⟨"a",by rfl,rfl⟩
  ·exact⟨"b",by rfl,rfl⟩
  ·exact⟨"\n",by rfl,rfl⟩
  ·exact⟨"c",by rfl,rfl⟩
 ·exact .cons (by rfl) rfl (.cons (by rfl) rfl (.cons (by rfl) rfl (.cons (by rfl) rfl .nil)))
 ·decide
theorem LF{α:Type}{o:Option α}{f:α→Bool}(h:o1 o f=true):∃a,o=some a∧f a=true:=UD (D:=fun o=>∃a,o=some a∧f a=true) h fun a h=>⟨a,rfl,h⟩
theorem L9(hK:∀a o,K.lookup a=some o→P a=some o):∀n:Nat,(∀v y,vrB K n v y=true→PR w P v y)∧∀l ys,vrsB K n l ys=true→PRs w P l ys
 |0=>⟨fun zz zz h=>ff h,fun zz zz h=>ff h⟩
 |n+1=>by
  obtain⟨i1,i2⟩:=L9 hK n
  refine⟨fun v y h=> ?_,fun l ys h=> ?_⟩
  ·cases v with
   |none=>exact eq_of_beq (show(y== .none)=true from h)
   |fn a=>exact eq_of_beq (show(y== .ref a)=true from h)
   |int i=>exact Vt (C:=PR w P (.int i)) h fun j t h=>⟨t,of_decide_eq_true h▸rfl⟩
   |str i=>exact Vr (C:=PR w P (.str i)) h fun j t h=>⟨t,eq_of_beq h▸rfl⟩
   |tup ts=>
    refine Vs (C:=PR w P (.tup ts)) h fun a h=> ?_
    obtain⟨o,e,h⟩:=LF h
    obtain⟨h1,h2⟩:=an h
    obtain⟨h2,h3⟩:=an h2
    refine W6 (C:=fun d=>o.data=d→PR w P (.tup ts) (.ref a)) h3 (fun ws k h q=> ?_) rfl
    have rv:=i2 _ _ (an h).2
    exact⟨a,ws.toList,rfl,⟨⟨o,k,hK _ _ e,⟨eq_of_beq h1,Xs (D:=fun x=>x=none) h2 rfl⟩,by rw[q,Array.toArray_toList]⟩,rv.length▸Nat.le_trans (Nat.le_of_ble_eq_true (an h).1) (by decide)⟩,rv⟩
   |_=>exact ff h
  ·cases l with
   |nil=>exact E9 (C:=fun ys=>ys=[]) h rfl
   |cons v r=>exact Lu (C:=PRs w P (v::r)) h fun y ys h=>⟨i1 _ _ (an h).1,i2 _ _ (an h).2⟩
theorem QN:∀{k l:List Str},ssB k l=true→k=l
 |[],[],_=>rfl
 |[],_::_,h=>ff h
 |_::_,[],h=>ff h
 |x::k,y::l,h=>by
  have h:=an (show(C5 x y&&ssB k l)=true from h)
  rw[Ev]at h
  rw[eq_of_beq h.1,QN h.2]
theorem QH:∀n:Nat,(∀x y,trB n x y=true→x=y)∧∀l m,trsB n l m=true→l=m
 |0=>⟨fun zz zz h=>ff h,fun zz zz h=>ff h⟩
 |n+1=>by
  obtain⟨i1,i2⟩:=QH n
  refine⟨fun x y h=> ?_,fun l m h=> ?_⟩
  ·cases x with
   |none=>exact(HM h).symm
   |int i=>exact MA (C:=fun y=>Tr.int i=y) h fun j h=>congrArg Tr.int (of_decide_eq_true h)
   |str i=>exact QG (C:=fun y=>Tr.str i=y) h fun j h=>congrArg Tr.str (eq_of_beq (Ev.symm.trans h))
   |fn i=>exact Yn (C:=fun y=>Tr.fn i=y) h fun j h=>congrArg Tr.fn (Nat.eq_of_beq_eq_true h)
   |tup i=>exact Vy (C:=fun y=>Tr.tup i=y) h fun j h=>congrArg Tr.tup (i2 _ _ h)
   |fs ks i=>exact Ym (C:=fun y=>Tr.fs ks i=y) h fun js j h=>by rw[i2 _ _ (an h).2,QN (an h).1]
   |_=>exact ff h
  ·cases l with
   |nil=>exact E9 (C:=fun m=>[]=m) h rfl
   |cons v r=>exact Lu (C:=fun m=>v::r=m) h fun y ys h=>by rw[i1 _ _ (an h).1,i2 _ _ (an h).2]
theorem Jb{o:Option NameKind}(h:Rd o=true):o=some .globalImplicit:=by
 cases o with
 |none=>exact ff h
 |some k=>cases k<;>first|rfl|exact ff h
theorem XA{cc:Const}{v:Tr}{b:Bc}{M:Mp}{ρ:Rho}{L:LH}{Q:V→LH→Prop}{j:Nat}{p:Pos}(h:ckC cc v=true)(q:Q (.t v) L):SE b M ρ L (.Constant cc j p) Q:=by
 cases cc with
 |none=>cases HM h;exact Su q
 |bool i=>exact R3 (C:=fun v=>Q (.t v) L→SE b M ρ L (.Constant (.bool i) j p) Q) h (fun k h=>eq_of_beq h▸S0) q
 |int i=>exact MA (C:=fun v=>Q (.t v) L→SE b M ρ L (.Constant (.int i) j p) Q) h (fun k h=>of_decide_eq_true h▸WU) q
 |str i=>exact QG (C:=fun v=>Q (.t v) L→SE b M ρ L (.Constant (.str i) j p) Q) h (fun k h=>eq_of_beq (Ev.symm.trans h)▸WT) q
 |_=>exact ff h
theorem Yz{v:Tr}(h:ckE (.k v) sc e=true):Ay (.k v) sc e:=by
 refine(or_ (show(B6 e (fun c _ _=>ckC c v)||DC e fun z _=>Rd (sc.names.lookup z)&&(okN z (cd z)&&o1 (gvN.find? fun p=>Nat.beq p.1 (cd z)) fun p=>trB 30 p.2 v))=true from h)).elim (fun h=>CC h fun cc j p h b c M ρ L Q hs k hw=>XA h hw) fun h=>BN h fun z p h=> ?_
 obtain⟨h1,h2⟩:=an h
 replace h2:=an h2
 obtain⟨h2,h3⟩:=h2
 obtain⟨o1,_,o2,_⟩:=MK h2
 replace h3:=LF h3
 obtain⟨g,f,h3⟩:=h3
 cases(QH 30).1 _ _ h3
 intro b c M ρ L Q hs k hw
 subst hs
 obtain⟨f1,f2⟩:=HY (Ww b.w.params) f
 replace f2:=an f2
 obtain⟨f2,f3⟩:=f2
 have f1:=Nat.eq_of_beq_eq_true f1
 replace f3:=LF f3
 obtain⟨y,ey,f3⟩:=f3
 replace f3:=LF f3
 obtain⟨y,rfl,f3⟩:=f3
 rw[←LI f2 o1 f1.symm]at ey
 refine GS (y:=y) (Jb h1) (.inl ey) (fun M₁ hK=> ?_) hw o2
 cases q:Nat.beq g.1 12792360718665600657307360 with
 |true=>
  rw[q]at f3
  cases eq_of_beq (show(y== .ref 870)=true from f3)
  have:=aW
  rw[(Nat.eq_of_beq_eq_true q).symm.trans f1]at this
  rw[this]at f
  cases f
  exact TA hK
 |false=>rw[q]at f3;exact(L9 hK 30).1 _ _ f3
end
end
section
section
variable{w:World}{P:PH}{sc:Scope}{e:Expr}{a d u:Ex}{es:Exs}{t t2:Bx}{b:Bc}{A:Around}{M:Mp}{s:Shared}{ρ ρ₁:Rho}{L:LH}{Q:V→LH→Prop}{x y:Value}{v:V}{k:Nat}{ls:List Expr}{pos:Pos}
theorem PV(ia:IE a)(ie:IA es)(h:ckE (.call k a es) sc e=true):Ay (.call k a es) sc e:=DS h fun f ls kw p h=>E9 (C:=fun kw=>Ay (.call k a es) sc (.Call f ls kw p)) (an h).1 (BN (C:=fun f=>(ckE a sc f&&cks es sc ls)=true→Ay (.call k a es) sc (.Call f ls [] p)) (an (an h).2).1 (fun z zp _ h=>by
 have ie:=ie _ _ (an h).2
 intro b c M ρ L Q hs kk hw
 show JE _ _ _ _ (eval (.Name z zp) b.env>>=fun f=>callWith p f [] (backTo p (starEach ls b.env)) []) _ _
 refine JE.bind (ia _ _ (an h).1 b c M ρ L _ hs kk hw) fun M1 x v L1 l1 vx q=>JE.top fun M2 l2 hP=> ?_
 obtain⟨kv,q⟩:=Bu q
 have vx:=VR.mono l2 _ vx
 exact BY (first:=[]) ie.1 (Km hP vx kv) (ie.2 b c M2 ρ L1 p _ hs kk q) fun M3 vl xs L3 l3 hx q=>kk.K b.env M3 ρ L3 k Q v vl x xs (VR.mono l3 _ vx) hx q) (an (an h).2).2)
theorem OD{c0:Bi}(ie:IA es)(h:ckE (.bcall c0 es) sc e=true):Ay (.bcall c0 es) sc e:=DS h fun f ls kw p h=>E9 (C:=fun kw=>Ay (.bcall c0 es) sc (.Call f ls kw p)) (an h).1 (BN (C:=fun f=>Ay (.bcall c0 es) sc (.Call f ls [] p)) (an h).2 fun z zp h=>by
 refine hid fun Gg gg=> ?_
 obtain⟨h1,h2⟩:=an h
 obtain⟨h2,h3⟩:=an h2
 obtain⟨o1,_,o2,_⟩:=MK h2
 have ie:=ie _ _ (an h3).2
 obtain⟨g,f,g3⟩:=LF (an h3).1
 refine gg ?_
 intro b c M ρ L Q hs kk hw
 subst hs
 refine hid fun Gg gg=> ?_
 obtain⟨f1,f2⟩:=HY (XD b.w.params) f
 obtain⟨f2,f3⟩:=an f2
 obtain⟨f3,f4⟩:=an f3
 refine gg ?_
 rw[←LI f2 o1 (Nat.eq_of_beq_eq_true f1).symm,eq_of_beq g3]at f4
 rw[←LI f2 o1 (Nat.eq_of_beq_eq_true f1).symm]at f3
 show JE _ _ _ _ (eval (.Name z zp) b.env>>=fun f=>callWith p f [] (backTo p (starEach ls b.env)) []) _ _
 refine JE.bind (GS (rel:=fun _ (_:Unit) y=>y=Hr c0) (Q:=fun zz L'=>was es c ρ (fun vl L₁=>bW c0 vl Q L₁) L') (v:=()) (y:=Hr c0) (Jb h1) (.inr ⟨eq_of_beq f3,eq_of_beq f4⟩) (fun zz zz=>rfl) hw o2) fun M1 x v L1 l1 vx q=> ?_
 subst vx
 exact BY (first:=[]) ie.1 Ii (ie.2 b c M1 ρ L1 p _ rfl kk q) fun M3 vl xs L3 l3 hx q=>Vi hx q)
theorem VRs.append{M:Mp}:∀{vl ul:List V}{xs ys:List Value},VRs w M vl xs→VRs w M ul ys→VRs w M (vl++ul) (xs++ys)
 |[],_,_,_,h,k=>by cases h;exact k
 |_::_,_,[],_,h,_=>h.elim
 |_::r,_,_::_,_,h,k=>⟨h.1,VRs.append (vl:=r) h.2 k⟩
theorem My(h:∀e∈ls,∀a p,e≠ .Starred a p)(n:ls.length<29){env:Env}:methodCallForm (ls.length+([]:List Keyword).length) (backTo pos (starEach ls env)) (backToKw pos (keywordEach [] env))=true:=by
 unfold methodCallForm
 rw[Bool.and_eq_true,Bool.and_eq_true]
 refine⟨⟨?_,rfl⟩, ?_⟩
 ·rw[List.all_eq_true];intro p hp
  simpa using List.any_eq_false.mp (ML (env:=env) (pos:=pos) ls h) p hp
 ·exact decide_eq_true (show ls.length+0<30 from Nat.lt_succ_of_lt n)
theorem Sf{n:Nat}(ia:IE a)(ie:IA es)(h:ckE (.mth k a n es) sc e=true):Ay (.mth k a n es) sc e:=DS h fun f ls kw p h=>E9 (C:=fun kw=>Ay (.mth k a n es) sc (.Call f ls kw p)) (an h).1 (Ah (C:=fun f=>Ay (.mth k a n es) sc (.Call f ls [] p)) (an h).2 fun o z ap h=>by
 refine hid fun Gg gg=> ?_
 obtain⟨h1,h2⟩:=an h
 obtain⟨h2,h3⟩:=an h2
 obtain⟨h3,h4⟩:=an h3
 obtain⟨h4,h5⟩:=an h4
 obtain⟨h5,h6⟩:=an h5
 have ie:=ie _ _ (an h6).2
 cases Nat.eq_of_beq_eq_true h2
 refine gg ?_
 intro b c M ρ L Q hs kk hw
 show JE _ _ _ _ (eval (.Call (.Attribute o z ap) ls [] p) b.env) _ _
 rw[arm_eval_Call,Jo h3]
 refine JE.bind (ia _ _ (an h6).1 b c M ρ L _ hs kk hw) fun M1 x v L1 l1 vx q=>JE.stand (JE.top fun M2 l2 hP=> ?_)
 have vx:=VR.mono l2 _ vx
 have hpos:methodCallPos true o b.env ap p=pure p:=by unfold methodCallPos;rw[h4];rfl
 unfold methodCall
 rw[My ie.1 (Nat.le_of_ble_eq_true h5)]
 have q:Ug k c (fun A=>was es c ρ A L1) Q (Nc L1 (cd z) v):=q
 cases f:Nc L1 (cd z) v with
 |none=>rw[f]at q;exact q.elim
 |some g=>
  obtain⟨g,first⟩:=g
  rw[f]at q
  obtain@⟨fx,fs,hm,hf,hg⟩:=TF (ρ:=ρ) hP h1 vx f
  refine JE.bind (rel:=fun _ (_:Unit) p=>p=(fx,fs)) (Qe:=fun zz L'=>L'=L1) (JE.holding (JE.still () (fun A M₁ s m Q' E l lf z=> ?_) rfl)) fun M3 r zz L3 l3 hr e=> ?_
  ·exact hm A M₁ s _ _ _ l lf.st fun tk=>z _ tk s.heap (.refl _ _) rfl
  ·subst e;subst hr
   dsimp only
   rw[hpos,pure_bind]
   cases g with
   |inl g=>exact BY ie.1 (fun h hh=>hg.2 h fun a o e=>hh a o (l3.P a o e)) (ie.2 b c M3 ρ L3 p _ hs kk q) fun M4 vl xs L4 l4 hx q=>kk.K b.env M4 ρ L4 k Q g _ _ _ (VR.mono (l3.trans l4) _ hg.1) (VRs.append (VRs.mono (l3.trans l4) _ hf) hx) q
   |inr g=>
    cases hg
    exact BY ie.1 Ii (ie.2 b c M3 ρ L3 p _ hs kk q) fun M4 vl xs L4 l4 hx q=>Vi (VRs.append (VRs.mono (l3.trans l4) _ hf) hx) q)
theorem PS(h:ckE .dic0 sc e=true):Ay .dic0 sc e:=NB h fun ks vs p h=>E9 (C:=fun ks=>Ay .dic0 sc (.Dict ks vs p)) (an h).1 (E9 (C:=fun vs=>Ay .dic0 sc (.Dict [] vs p)) (an h).2 fun b c M ρ L Q hs kk hw=>by
 refine JE.track (.dict []) (fun A M₁ s m Q' E l lf z=> ?_) hw
 refine wpAny_Dict_empty ?_
 have n:=ES (b:=b) (h:=s.heap) (o:=emptyDict) rfl
 obtain⟨o,e3,hd⟩:=Heap.dictOf_iff.mp (Heap.DictOf.new (knd:=IK b.w) s.heap)
 exact z s.toks _ _ o n.1 n.2.1 e3 ⟨[],hd,rfl,rfl,Nat.zero_le _⟩)
theorem Mv{i:Int}(h:Xx i a=true):a= .k (.int i):=UU (C:=fun a=>a= .k (.int i)) h fun v h=>MA (C:=fun v=>Ex.k v= .k (.int i)) h fun j h=>of_decide_eq_true h▸rfl
theorem Sw{i j:Int}{k1 k2:Nat}{p q:Pos}(q0:B7 (.dict [(i, .int j)]) Q L):SE b M ρ L (.Dict [some (.Constant (.int i) k1 p)] [.Constant (.int j) k2 q] pos) Q:=by
 refine JE.track (.dict [(i, .int j)]) (fun A M₁ s m Q' E l lf z=> ?_) q0
 refine wpAny_Dict_pairs (knd:=IK b.w) (pairs:=[(eval (.Constant (.int i) k1 p) b.env,do let x←eval (.Constant (.int j) k2 q) b.env;PySem.standAt pos;pure x)]) rfl (by simp) (by simp) ?_
 refine evalPairs_cons ?_
 refine wpAny_Constant_int ?_
 refine wpAny_bind (wpAny_Constant_int ?_)
 refine wpAny_bind (wpAny_standAt (wpAny_pure ?_))
 refine evalPairs_nil ⟨[(i, .int j _)],⟨intKind_is _ _ _ _,rfl,trivial⟩,Heap.DictOf.new _,fun h' hd hs=> ?_⟩
 obtain⟨o,e3,hd'⟩:=Heap.dictOf_iff.mp hd
 exact z _ h' _ o (.of fun c o e=>(hs.2 c (Nat.ne_of_lt (Heap.lt_size e))).trans (Heap.get?_push_of_some _ e)) (Internal.gone _ (Nat.le_refl _)) e3 ⟨_,hd',rfl,⟨⟨_,rfl⟩,rfl⟩,show 1≤1048576 by decide⟩
theorem PQ(h:ckE (.dic1 a d) sc e=true):Ay (.dic1 a d) sc e:=NB h fun ks vs p h=>Ju (C:=fun ks=>Ay (.dic1 a d) sc (.Dict ks vs p)) h fun k h=>UD (D:=fun k=>Ay (.dic1 a d) sc (.Dict [k] vs p)) h fun k h=>
 CC (C:=fun k=>Ay (.dic1 a d) sc (.Dict [some k] vs p)) h fun c k1 p1 h=>Qn (C:=fun c=>Ay (.dic1 a d) sc (.Dict [some (.Constant c k1 p1)] vs p)) h fun i h=>Ju (C:=fun vs=>Ay (.dic1 a d) sc (.Dict _ vs p)) h fun v h=>
 CC (C:=fun v=>Ay (.dic1 a d) sc (.Dict _ [v] p)) h fun c k2 p2 h=>Qn (C:=fun c=>Ay (.dic1 a d) sc (.Dict _ [.Constant c k2 p2] p)) h fun j h=>by
  cases Mv (an h).1
  cases Mv (an h).2
  exact fun b c M ρ L Q hs kk hw=>Sw hw
theorem Pj{z:Str}{n:Nat}(hs:b.env.scope=sc)(h:bZ sc z n=true):Dv b.env z=true∧cd z=n:=by
 obtain⟨h1,h2⟩:=an h
 obtain⟨g2,h3⟩:=an h2
 subst hs
 exact⟨Bool.and_eq_true_iff.mpr ⟨h1,h3⟩,Nat.eq_of_beq_eq_true g2⟩
theorem Jm(hs:b.env.scope=sc):∀{es:List Expr}{ks:List Nat},Rf sc es ks=true→GF b.env es ks
 |[],_,h=>E9 (C:=GF b.env []) h rfl
 |e::es,ks,h=>BN (C:=fun e=>GF b.env (e::es) ks) h fun z p h=>Lu (C:=GF b.env (.Name z p::es)) h fun k ks h=>by
  obtain⟨o1,rfl⟩:=Pj hs (an h).1
  exact⟨⟨z,p,rfl,o1,rfl⟩,Jm hs (an h).2⟩
theorem Vh{ts:List Nat}(hb:CF false ts v ρ=some ρ₁):∃us,v= .t (.tup us)∧us.length=ts.length∧ρ₁=D4 ρ ts us:=by
 cases v with
 |t v=>cases v with
  |tup us=>
   have hb:(bif Nat.beq us.length ts.length then some (D4 ρ ts us)else none)=some ρ₁:=hb
   cases q:Nat.beq us.length ts.length with
   |false=>rw[q]at hb;exact nos hb
   |true=>rw[q]at hb;cases hb;exact⟨us,rfl,Nat.eq_of_beq_eq_true q,rfl⟩
  |_=>exact nos hb
 |_=>exact nos hb
theorem Hl{t:Expr}{one:Bool}{ts:List Nat}(hs:b.env.scope=sc)(ht:Lx sc one ts t=true)(hb:CF one ts v ρ=some ρ₁)(hv:VR b.w M v y):
 J b M ρ L (assign t b.env y) FB fun zz ρ' L'=>ρ'=ρ₁∧L'=L:=by
 cases one with
 |true=>
  obtain⟨⟨z,p,e,o1,o2⟩,o3⟩:=Jm hs (show Rf sc [t] ts=true from ht)
  cases e
  cases ts with
  |nil=>exact nos o2
  |cons k r=>
   cases o2
   cases(show r=[]from o3)
   cases hb
   exact J.assignN o1 hv ⟨rfl,rfl⟩
 |false=>
  obtain⟨us,rfl,q,rfl⟩:=Vh hb
  exact Dg (C:=fun t=>J b M ρ L (assign t b.env y) FB fun zz ρ' L'=>ρ'=D4 ρ ts us∧L'=L) ht fun es c p ht=>J.assignT (Jm hs ht) q hv ⟨rfl,rfl⟩
theorem Id{k x:Nat}{u:V}(h:Nat.beq k x=false):AW (Bk ρ k u) x=AW ρ x:=by rw[FT,h];rfl
theorem G2{x:Nat}:∀{ts:List Nat}{us:List Tr}{ρ:Rho},(∀k∈ts,Nat.beq k x=false)→AW (D4 ρ ts us) x=AW ρ x
 |[],_,_,_=>rfl
 |_::_,[],_,_=>rfl
 |k::ts,u::us,ρ,h=>(G2 (ts:=ts) fun k hk=>h k (List.mem_cons_of_mem _ hk)).trans (Id (h k List.mem_cons_self))
theorem KO{one:Bool}{ts:List Nat}{x:Nat}(h:CF one ts v ρ=some ρ₁)(hx:∀k∈ts,Nat.beq k x=false):AW ρ₁ x=AW ρ x:=by
 cases one with
 |true=>cases ts with
  |nil=>exact nos h
  |cons k r=>cases r with
   |nil=>cases h;exact Id (hx k List.mem_cons_self)
   |cons _ _=>exact nos h
 |false=>
  obtain⟨us,rfl,_,rfl⟩:=Vh h
  exact G2 hx
theorem JY{l m:List Nat}(h:Lv l m=true):l=m:=eq_of_beq (JZ▸h)
theorem E0(scope:Scope)(env:Env):relabel scope env=ID scope env.scope:=rfl
theorem Ir{scope:Scope}{env:Env}(h:Gk scope env.scope=true):DW env scope:=by
 simp only[Gk,Bool.and_eq_true,beq_iff_eq,List.all_eq_true,bne_iff_ne,decide_eq_true_eq,Bool.or_eq_true]at h
 obtain⟨⟨a,b⟩,c⟩:=h
 exact⟨a,fun y hy=>(b y hy).1.1,c,fun y hy hk=>((b y hy).2.resolve_left (fun q=>q hk)),fun y hy=>(b y hy).1.2⟩
theorem FX{it:Expr}{env:Env}(h:J8 it=true):∀x,foldedSetIterable it env x=pure x:=by cases it<;>first|exact fun zz=>rfl|exact ff h
theorem Kc{one:Bool}{ts fr:List Nat}(hd:(ts.all fun k=> !fr.any (Nat.beq k))=true)(hb:CF one ts v (Cs fr ρ)=some ρ₁){x:Str}{u:V}(e:AW (Cs fr ρ) (cd x)=some u):AW ρ₁ (cd x)=some u:=by
 rw[KO hb,e]
 intro k hk
 have h:=List.all_eq_true.mp hd k hk
 cases q:Nat.beq k (cd x)with
 |false=>rfl
 |true=>
  rw[Nat.eq_of_beq_eq_true q]at h
  rw[Dq]at e
  cases r:fr.any (Nat.beq (cd x))with
  |false=>rw[r]at e;exact nos e
  |true=>rw[r]at h;exact ff h
theorem Yk{one:Bool}{ts:List Nat}{it tg el:Expr}{scope:Scope}{c:Ctx}{M':Mp}{env':Env}(ie:IE d)(hd:(ts.all fun k=> !(frees scope).any (Nat.beq k))=true)(ht:Lx (ID scope b.env.scope) one ts tg=true)(he:ckE d (ID scope b.env.scope) el=true)(kk:Cok b c)(hs:env'.scope=relabel scope b.env):
 NS (Cl b env') M' (Cs (frees scope) ρ) tg [] el fun v yes zz L₂=>Ax (CF one ts v (Cs (frees scope) ρ)) fun ρ₁=>we d c.low ρ₁ yes L₂:=fun v y yes no M2 L2 l2 q hv=>by
 obtain⟨ρ₁,hb,q⟩:=AO q
 exact⟨ρ₁,fun L₂=>we d c.low ρ₁ yes L₂,fun x u ok e=>Kc hd hb e,Hl (hs.trans (E0 scope b.env)) ht hb hv,fun M3 l3=>OH q,fun M3 L3 l3 q=>ie _ _ he _ _ M3 ρ₁ L3 _ (hs.trans (E0 scope b.env)) kk.low q⟩
theorem Yj{one:Bool}{ts:List Nat}{it tg el cc:Expr}{scope:Scope}{c:Ctx}{M':Mp}{env':Env}(ie:IE d)(ib:IB t)(hd:(ts.all fun k=> !(frees scope).any (Nat.beq k))=true)(ht:Lx (ID scope b.env.scope) one ts tg=true)(he:ckE d (ID scope b.env.scope) el=true)(hc:ckB t (ID scope b.env.scope) cc=true)(kk:Cok b c)(hs:env'.scope=relabel scope b.env):
 NS (Cl b env') M' (Cs (frees scope) ρ) tg [cc] el fun v yes no L₂=>Ax (CF one ts v (Cs (frees scope) ρ)) fun ρ₁=>wb t c.low ρ₁ (fun ok L₃=>ifB ok (we d c.low ρ₁ yes L₃) (no L₃)) L₂:=fun v y yes no M2 L2 l2 q hv=>by
 obtain⟨ρ₁,hb,q⟩:=AO q
 exact⟨ρ₁,fun L₂=>we d c.low ρ₁ yes L₂,fun x u ok e=>Kc hd hb e,Hl (hs.trans (E0 scope b.env)) ht hb hv,fun M3 l3=>OG (ib _ _ hc _ _ M3 ρ₁ L2 _ (hs.trans (E0 scope b.env)) kk.low q),fun M3 L3 l3 q=>ie _ _ he _ _ M3 ρ₁ L3 _ (hs.trans (E0 scope b.env)) kk.low q⟩
end
end
section
inductive Ht(x:Ex)(sc:Scope)(el:Expr)(gens:List Comprehension)(scope:Scope):Prop
 |mk {t i:Expr}{ifs:List Expr}{it:Ex}{stepM:Ctx→Rho→V→(V→LH→Prop)→(LH→Prop)→LH→Prop}:gens=[⟨t,i,ifs,0⟩]→Gk scope sc=true→J8 i=true→Ay it sc i→
  (∀c ρ Q L,we x c ρ Q L→we it c ρ (fun a L₁=>Jt (fun l=>EE L₁.length (stepM c ρ) (fun acc=>B7 (.list acc) Q) l [] L₁) a) L)→
  (∀(b:Bc) c M ρ env',b.env.scope=sc→Cok b c→env'.scope=relabel scope b.env→NS (Cl b env') M (Cs (frees scope) ρ) t ifs el (stepM c ρ))→Ht x sc el gens scope
section
variable{sc:Scope}{e:Expr}{a d u x:Ex}{es:Exs}{t t2:Bx}{one:Bool}{ts fr:List Nat}{el:Expr}{gens:List Comprehension}{scope:Scope}{p:Pos}
theorem Kz(ia:IE a)(id:IE d)(h:ckE (.cmpr one ts a d fr) sc (.ListComp el gens scope p)=true):Ht (.cmpr one ts a d fr) sc el gens scope:=
 Ju (C:=fun gens=>Ht (.cmpr one ts a d fr) sc el gens scope) h fun g h=>by
  obtain⟨t,i,ifs,n⟩:=g
  cases of_decide_eq_true (an h).1
  refine E9 (C:=fun ifs=>Ht (.cmpr one ts a d fr) sc el [⟨t,i,ifs,0⟩] scope) (an (an h).2).1 ?_
  obtain⟨h1,h2⟩:=an (an (an h).2).2
  obtain⟨h5,h6⟩:=an (an h1).2
  obtain⟨g3,g4⟩:=an (an h2).2
  cases JY (an h6).1
  exact .mk rfl (an h1).1 h5 (ia _ _ g3) (stepM:=fun c ρ v yes zz L₂=>Ax (CF one ts v (Cs (frees scope) ρ)) fun ρ₁=>we d c.low ρ₁ yes L₂) (fun c ρ Q L h=>h) fun b c M ρ env' hs kk he=>by
   subst hs
   exact Yk (it:=el) id (an h6).2 (an h2).1 g4 kk he
theorem G5(ia:IE a)(id:IE d)(ib:IB t)(h:ckE (.cmprIf one ts a d t fr) sc (.ListComp el gens scope p)=true):Ht (.cmprIf one ts a d t fr) sc el gens scope:=
 Ju (C:=fun gens=>Ht (.cmprIf one ts a d t fr) sc el gens scope) h fun g h=>by
  obtain⟨tg,i,ifs,n⟩:=g
  cases of_decide_eq_true (an h).1
  refine Ju (C:=fun ifs=>Ht (.cmprIf one ts a d t fr) sc el [⟨tg,i,ifs,0⟩] scope) (an h).2 fun cc h=> ?_
  obtain⟨h1,h2⟩:=an h
  obtain⟨h5,h6⟩:=an (an h1).2
  obtain⟨g3,g4⟩:=an (an h2).2
  cases JY (an h6).1
  exact .mk rfl (an h1).1 h5 (ia _ _ g3) (stepM:=fun c ρ v yes no L₂=>Ax (CF one ts v (Cs (frees scope) ρ)) fun ρ₁=>wb t c.low ρ₁ (fun ok L₃=>ifB ok (we d c.low ρ₁ yes L₃) (no L₃)) L₂) (fun c ρ Q L h=>h) fun b c M ρ env' hs kk he=>by
   subst hs
   exact Yj (it:=el) id ib (an h6).2 (an h2).1 (an g4).1 (an g4).2 kk he
theorem Ht.snd(h:Ht x sc el gens scope):Ay x sc (.ListComp el gens scope p):=by
 cases h with
 |mk e1 h1 h2 h3 h4 h5=>
  subst e1
  intro b c M ρ L Q hs kk hw
  subst hs
  exact Sz (Ir h1) (FX h2) (h3 b c M ρ L _ rfl kk (h4 c ρ Q L hw)) fun env' M' he l=>h5 b c M' ρ env' rfl kk he
theorem PU(ia:IE a)(id:IE d)(h:ckE (.cmpr one ts a d fr) sc e=true):Ay (.cmpr one ts a d fr) sc e:=Ct h fun el gens scope p h=>(Kz (one:=one) (ts:=ts) (fr:=fr) (el:=el) (gens:=gens) (scope:=scope) (p:=p) ia id h).snd
theorem Le(ia:IE a)(id:IE d)(ib:IB t)(h:ckE (.cmprIf one ts a d t fr) sc e=true):Ay (.cmprIf one ts a d t fr) sc e:=Ct h fun el gens scope p h=>(G5 (one:=one) (ts:=ts) (fr:=fr) (el:=el) (gens:=gens) (scope:=scope) (p:=p) ia id ib h).snd
end
mutual
theorem A9:∀x:Ex,IE x
 | .nm _=>fun zz zz h=>WN h
 | .k _=>fun zz zz h=>Yz h
 | .bin _ a b=>fun zz zz h=>Sl (A9 a) (A9 b) h
 | .ofB (.cmp _ a b)=>fun zz zz h=>Sb (A9 a) (A9 b) h
 | .ofB (.plain _)=>fun zz zz h=>ff h
 | .ofB (.not _)=>fun zz zz h=>ff h
 | .ofB (.and _ _)=>fun zz zz h=>ff h
 | .ofB (.or _ _)=>fun zz zz h=>ff h
 | .andV a b=>fun zz zz h=>PX (A9 a) (A9 b) h
 | .neg a=>fun zz zz h=>Se (A9 a) h
 | .ite t a b=>fun zz zz h=>Si (sndB t) (A9 a) (A9 b) h
 | .attr a _=>fun zz zz h=>PW (A9 a) h
 | .idx a b=>fun zz zz h=>Sj (A9 a) (A9 b) h
 | .slc a b d=>fun zz zz h=>Sa (A9 a) (A9 b) (A9 d) h
 | .lst es=>fun zz zz h=>Sg (sndA es) h
 | .lrf es=>fun zz zz h=>Sh (sndA es) h
 | .tup es=>fun zz zz h=>SZ (sndA es) h
 | .dic0=>fun zz zz h=>PS h
 | .dic1 _ _=>fun zz zz h=>PQ h
 | .cmpr _ _ a b _=>fun zz zz h=>PU (A9 a) (A9 b) h
 | .cmprIf _ _ a b t _=>fun zz zz h=>Le (A9 a) (A9 b) (sndB t) h
 | .call _ a es=>fun zz zz h=>PV (A9 a) (sndA es) h
 | .bcall _ es=>fun zz zz h=>OD (sndA es) h
 | .mth _ a _ es=>fun zz zz h=>Sf (A9 a) (sndA es) h
 | .frz a=>fun zz zz h=>Sk (A9 a) h
theorem sndA:∀x:Exs,IA x
 | .n=>fun zz zz h=>Sd h
 | .c a es=>fun zz zz h=>PT (A9 a) (sndA es) h
theorem sndB:∀x:Bx,IB x
 | .plain a=>fun zz zz h=>OE (A9 a) h
 | .cmp _ a b=>fun zz zz h=>Sn (A9 a) (A9 b) h
 | .not t=>fun zz zz h=>Sm (sndB t) h
 | .and a b=>fun zz zz h=>So (sndB a) (sndB b) h
 | .or a b=>fun zz zz h=>WO (sndB a) (sndB b) h
end
end
section
noncomputable def Cb(x:St)(sc:Scope)(st:Stmt):Prop:=∀(b:Bc) c M ρ L Q,b.env.scope=sc→Cok b c→wst x c ρ Q L→S1 b M ρ L st Q
noncomputable def Rj(x:Sts)(sc:Scope)(l:List Stmt):Prop:=∀(b:Bc) c M ρ L Q,b.env.scope=sc→Cok b c→wss x c ρ Q L→SS b M ρ L l Q
noncomputable def RaiseOk:Prop:=∀(b:Bc) M ρ L f fp cp p (x y:Expr) (Q:QS) (Q1:V→LH→Prop),f=("ScanError":Str)→b.env.kindOf f=some .globalImplicit→DR x=true→DR y=true→SE b M ρ L x Q1→(∀M' v L',MLe M M'→Q1 v L'→SE b M' ρ L' y fun zz zz=>b.X∧2≤b.n)→
 S1 b M ρ L (.Raise (some (.Call (.Name f fp) [x,y] [] cp)) none p) Q
section
variable{sc:Scope}{e l:Expr}{st:Stmt}{ls:List Stmt}{a d:Ex}{t:Bx}{g:Tg}{y:Sts}{n:Nat}{env:Env}{b:Bc}{M:Mp}{ρ:Rho}{L:LH}
theorem Md{j:Nat}(h:E3 e=true):swapsWith e none j env=pure false:=by cases e<;>first|rfl|exact ff h
theorem Mc{j:Nat}(h:E3 e=true):swapsWith e (some l) j env=pure false:=by cases e<;>first|rfl|exact ff h
theorem Xw{α:Type}{c:Prop}[Decidable c]{x y:α}(h:y=x):(if c then x else y)=x:=by rw[h,ite_self]
theorem Fj(h:HG l e=true):swappedStores [l] e env=pure none:=by
 let C:=fun l=>swappedStores [l] e env=pure none
 refine(or_ h).elim (fun h=>(or_ h).elim (fun h=>BN (C:=C) h fun _ _ _=>rfl) fun h=>(or_ h).elim (fun h=>Ah (C:=C) h fun _ _ _ _=>rfl) fun h=>Am (C:=C) h fun _ _ _ _=>rfl) fun h=>Dg (C:=C) h fun ts tk tp h=> ?_
 let D:=fun e=>swappedStores [.Tuple ts tk tp] e env=pure none
 refine(or_ h).elim (fun h=>(or_ h).elim (fun h=>DS (C:=D) h fun _ _ _ _ _=>rfl) fun h=>(or_ h).elim (fun h=>BN (C:=D) h fun _ _ _=>rfl) fun h=>Am (C:=D) h fun _ _ _ _=>rfl) fun h=>Dg (C:=D) h fun vs vk vp h=> ?_
 show swappedStores [.Tuple ts tk tp] (.Tuple vs vk vp) env=pure none
 unfold swappedStores
 exact Xw (Xw (Xw (if_pos h)))
theorem Ku(h:HG l e=true):assignEach [l] env=[(false,assign l env)]:=
 let C:=fun l=>assignEach [l] env=[(false,assign l env)]
 (or_ h).elim (fun h=>(or_ h).elim (fun h=>BN (C:=C) h fun _ _ _=>rfl) fun h=>(or_ h).elim (fun h=>Ah (C:=C) h fun _ _ _ _=>rfl) fun h=>Am (C:=C) h fun _ _ _ _=>rfl) fun h=>Dg (C:=C) h fun _ _ _ _=>rfl
theorem J.mono{α β:Type}{t:Sem α}{rel:Mp→β→α→Prop}{Q Q':β→Rho→LH→Prop}(h:J b M ρ L t rel Q)(k:∀x ρ L,Q x ρ L→Q' x ρ L):J b M ρ L t rel Q':=
 fun A M₁ s E l am st ex=>wpAny_mono (h A M₁ s E l am st ex) (fun zz zz p=>p.use fun zz zz zz zz a b c d=> .mk a b c (k _ _ _ d)) fun zz zz e=>e
theorem snt(h:cJ g sc l=true)(c:Ctx){v:V}{z:Value}{Q:Rho→LH→Prop}(hs:b.env.scope=sc)(kk:Cok b c)(hv:VR b.w M v z)(hw:wt g c ρ v Q L):J b M ρ L (assign l b.env z) FB fun zz=>Q:=by
 cases g with
 |nm x=>exact J.mono (Hl (ρ₁:=Bk ρ x v) hs h rfl hv) fun zz ρ' L' e=>by obtain⟨rfl,rfl⟩:=e;exact hw
 |tup xs=>
  obtain⟨us,rfl,hw⟩:=GQ hw
  obtain⟨e,hw⟩:=Bu hw
  exact J.mono (Hl (v:= .t (.tup us)) (ρ₁:=D4 ρ xs us) hs h (by show(bif Nat.beq us.length xs.length then some (D4 ρ xs us)else none)=_;rw[e];rfl) hv) fun zz ρ' L' e=>by obtain⟨rfl,rfl⟩:=e;exact hw
 |attr o n=>
  refine Ah (C:=fun l=>J b M ρ L (assign l b.env z) FB fun zz=>Q) h fun o' z' p h=> ?_
  cases Nat.eq_of_beq_eq_true (an (an h).2).1
  exact JE.toJ (V2 (Q:=Q ρ) (an h).1 hv (A9 o _ _ (an (an h).2).2 b c M ρ L _ hs kk hw)) fun zz zz q=>q
 |sub o i=>exact Am (C:=fun l=>J b M ρ L (assign l b.env z) FB fun zz=>Q) h fun o' j p h=>JE.toJ (Yo (Q:=Q ρ) hv (A9 o _ _ (an (an h).2).1 b c M ρ L _ hs kk hw) fun M' v' L' l' q=>A9 i _ _ (an (an h).2).2 b c M' ρ L' _ hs kk q) fun zz zz q=>q
theorem Tq{el:Expr}{gens:List Comprehension}{scope:Scope}{cp:Pos}{j:Nat}(h:Vf env.scope l=true):swapsWith (.ListComp el gens scope cp) (some l) j env=pure false∧swappedStores [l] (.ListComp el gens scope cp) env=pure none∧assignEach [l] env=[(false,assign l env)]:=
 BN (C:=fun l=>swapsWith (.ListComp el gens scope cp) (some l) j env=pure false∧swappedStores [l] (.ListComp el gens scope cp) env=pure none∧assignEach [l] env=[(false,assign l env)]) h fun z zp h=>⟨by
  show(pure (env.blockKind== .function&&env.kindOf z==some .local&&zp.line==cp.line&& !(scope.names.any fun(n,k)=>n==z&&(k== .local||k== .cell))):Sem Bool)=pure false
  rw[show env.kindOf z=some .cell from eq_of_beq (an h).2,show(some NameKind.cell==some NameKind.local)=false from rfl,Bool.and_false]
  rfl,rfl,rfl⟩
theorem SX(h:ckS (.asg g a) sc st=true):Cb (.asg g a) sc st:=IP h fun ts e p h=>Ju (C:=fun ts=>Cb (.asg g a) sc (.Assign ts e p)) h fun l h b c M ρ L Q hs kk hw=>by
 obtain⟨h1,h2⟩:=an h
 have key:swapsWith e (some l) p.line b.env=pure false∧swappedStores [l] e b.env=pure none∧assignEach [l] b.env=[(false,assign l b.env)]:=by
  cases q:E3 e with
  |true=>rw[q]at h1;exact⟨Mc q,Fj h1,Ku h1⟩
  |false=>
   rw[q]at h1
   subst hs
   exact Ct (C:=fun e=>swapsWith e (some l) p.line b.env=pure false∧swappedStores [l] e b.env=pure none∧assignEach [l] b.env=[(false,assign l b.env)]) (an h1).1 fun el gens scope cp zz=>Tq (an h1).2
 exact Pa key.1 key.2.1 key.2.2 (A9 a _ _ (an h2).1 b c M ρ L _ hs kk hw) fun M' z v L' l' hv q=>snt (an h2).2 c hs kk hv q
theorem PO(h:ckS (.asgC n a) sc st=true):Cb (.asgC n a) sc st:=IP h fun ts e p h=>Ju (C:=fun ts=>Cb (.asgC n a) sc (.Assign ts e p)) h fun l h=>BN (C:=fun l=>Cb (.asgC n a) sc (.Assign [l] e p)) h fun z zp h=>by
 refine Ct (C:=fun e=>Cb (.asgC n a) sc (.Assign [.Name z zp] e p)) h fun el gens scope cp h=> ?_
 obtain⟨h3,h4⟩:=an (an h).1
 obtain⟨h7,h8⟩:=an (an h4).2
 obtain⟨h9,h10⟩:=an h8
 obtain⟨g1,g2⟩:=an (an h).2
 cases Nat.eq_of_beq_eq_true (an h4).1
 intro b c M ρ L Q hs kk hw
 subst hs
 have hsw:swapsWith (.ListComp el gens scope cp) (some (.Name z zp)) p.line b.env=pure true:=by
  show(pure (b.env.blockKind== .function&&b.env.kindOf z==some .local&&zp.line==cp.line&& !(scope.names.any fun(n,k)=>n==z&&(k== .local||k== .cell))):Sem Bool)=pure true
  have e1:b.env.blockKind= .function:=by unfold Env.blockKind;rw[eq_of_beq h7];rfl
  rw[e1,show b.env.kindOf z=some .local from eq_of_beq h9,(an h10).1,(an h10).2];rfl
 have hz:Dv b.env z=true:=by unfold Dv;rw[h3,show b.env.kindOf z=some .local from eq_of_beq h9];rfl
 have ci:Ht a b.env.scope el gens scope:=(or_ g1).elim (fun q=>Oy (C:=fun a=>ckE a b.env.scope (.ListComp el gens scope cp)=true→Ht a b.env.scope el gens scope) q (fun _ _ i d _ _ h=>Kz (A9 i) (A9 d) h) g2)
  fun q=>LS (C:=fun a=>ckE a b.env.scope (.ListComp el gens scope cp)=true→Ht a b.env.scope el gens scope) q (fun _ _ i d t _ _ h=>G5 (A9 i) (A9 d) (sndB t) h) g2
 cases ci with
 |mk e1 i1 i2 i3 i4 i5=>
  subst e1
  exact H5 hsw hz (Ir i1) (FX i2) (i3 b c M ρ L _ rfl kk (i4 c ρ _ L hw)) fun env' M' he l=>i5 b c M' ρ env' rfl kk he
theorem SW(h:ckS (.aug a n d) sc st=true):Cb (.aug a n d) sc st:=Iy h fun l op e p h=>Ah (C:=fun l=>Cb (.aug a n d) sc (.AugAssign l op e p)) h fun o z tp h=>by
 obtain⟨h1,h2⟩:=an (an h).2
 obtain⟨h3,h4⟩:=an h2
 cases of_decide_eq_true (an h).1
 cases Nat.eq_of_beq_eq_true h3
 exact fun b c M ρ L Q hs kk hw=>ZB h1 (A9 a _ _ (an h4).1 b c M ρ L _ hs kk hw) fun M' L' Q' l q=>A9 d _ _ (an h4).2 b c M' ρ L' _ hs kk q
theorem WM(h:ckS (.ex a) sc st=true):Cb (.ex a) sc st:=Rn h fun e p h b c M ρ L Q hs kk hw=>QP (Md (an h).1) (A9 a _ _ (an h).2 b c M ρ L _ hs kk hw)
theorem SQ(h:ckS (.ret a) sc st=true):Cb (.ret a) sc st:=Np h fun v p h=>UD (D:=fun v=>Cb (.ret a) sc (.Return v p)) h fun e h b c M ρ L Q hs kk hw=>Y8 (A9 a _ _ h b c M ρ L _ hs kk hw)
theorem PM(hR:RaiseOk)(h:ckS (.rais a d) sc st=true):Cb (.rais a d) sc st:=Ot h fun ex ca p h=>Xs (D:=fun ca=>Cb (.rais a d) sc (.Raise ex ca p)) (an h).1 (UD (D:=fun ex=>Cb (.rais a d) sc (.Raise ex none p)) (an h).2 fun ex h=>
 DS (C:=fun ex=>Cb (.rais a d) sc (.Raise (some ex) none p)) h fun g ls kw cp h=>E9 (C:=fun kw=>Cb (.rais a d) sc (.Raise (some (.Call g ls kw cp)) none p)) (an h).1 (BN (C:=fun g=>Cb (.rais a d) sc (.Raise (some (.Call g ls [] cp)) none p)) (an h).2 fun f fp h=>
 Rc (C:=fun ls=>Cb (.rais a d) sc (.Raise (some (.Call (.Name f fp) ls [] cp)) none p)) h fun x y h b c M ρ L Q hs kk hw=>by
  refine hid fun Gg gg=> ?_
  obtain⟨h3,h4⟩:=an (an h).2
  obtain⟨h5,h6⟩:=an h4
  obtain⟨h7,h8⟩:=an h6
  refine gg ?_
  subst hs
  exact hR b M ρ L _ _ _ _ _ _ Q _ (eq_of_beq (an h).1) (Jb h3) h5 h7 (A9 a _ _ (an h8).1 b c M ρ L _ rfl kk hw) fun M' v L' l q=>(A9 d _ _ (an h8).2 b c M' ρ L' _ rfl kk q).mono fun zz zz q=>kk.X q))
theorem SU(h:ckS .brk sc st=true):Cb .brk sc st:=Ou h fun _ _ b c M ρ L Q hs kk hw=>ZA hw
theorem PN(h:ckS .cont sc st=true):Cb .cont sc st:=KF h fun _ _ b c M ρ L Q hs kk hw=>WW hw
noncomputable abbrev IS(x:Sts):Prop:=∀sc l,ckSs x sc l=true→Rj x sc l
theorem SR{y2:Sts}(i1:IS y)(i2:IS y2)(h:ckS (.ite t y y2) sc st=true):Cb (.ite t y y2) sc st:=YT h fun cc l r p h b c M ρ L Q hs kk hw=>
 dF (Q1:=fun L'=>wss y c ρ Q L') (Q2:=fun L'=>wss y2 c ρ Q L') (sndB t _ _ (an h).1 b c M ρ L _ hs kk hw) (fun M' L' l q=>i1 _ _ (an (an h).2).1 b c M' ρ L' Q hs kk q) fun M' L' l q=>i2 _ _ (an (an h).2).2 b c M' ρ L' Q hs kk q
theorem SP(i1:IS y)(h:ckS (.whl t y) sc st=true):Cb (.whl t y) sc st:=Os h fun cc l r p h=>E9 (C:=fun r=>Cb (.whl t y) sc (.While cc l r p)) (an h).1 fun b c M ρ L Q hs kk hw=>by
 obtain⟨I,h0,hstep⟩:=(show∃I:Nat→Rho→LH→Prop,(∃k,I k ρ L)∧∀k ρ' L',I k ρ' L'→wb t c ρ' (fun t L₁=>ifB t (wss y c ρ' (LJ ρ L.length (fun ρ₂ L₂=>∃m,m<k∧I m ρ₂ L₂) Q) L₁) (Q .next (Cy ρ L.length ρ') (cut L.length L₁))) L' from hw)
 exact S5 (WB:=fun k ρ' L₁=>wss y c ρ' (LJ ρ L.length (fun ρ₂ L₂=>∃m,m<k∧I m ρ₂ L₂) Q) L₁) h0 (fun k M' ρ' L' l hI=>sndB t _ _ (an (an h).2).1 b c M' ρ' L' _ hs kk (hstep k ρ' L' hI)) fun k M' ρ' L' l q=>i1 _ _ (an (an h).2).2 b c M' ρ' L' _ hs kk q
theorem ST{one:Bool}{ts:List Nat}(i1:IS y)(h:ckS (.for_ one ts a y) sc st=true):Cb (.for_ one ts a y) sc st:=Vn h fun tg i l r p h=>E9 (C:=fun r=>Cb (.for_ one ts a y) sc (.For tg i l r p)) (an h).1 fun b c M ρ L Q hs kk hw=>by
 obtain⟨h1,h2⟩:=an (an h).2
 obtain⟨h5,h6⟩:=an (an h2).2
 exact Y9 (step:=fun v Q' ρ' L₂=>Ax (CF one ts v ρ') fun ρ₁=>wss y c ρ₁ Q' L₂) (FX h1) (A9 a _ _ h5 b c M ρ L _ hs kk hw) fun v z Q' M' ρ' L' l q hv=>by
  obtain⟨ρ₁,e,q⟩:=AO q
  exact⟨ρ₁,Hl hs (an h2).1 e hv,fun M'' l2=>i1 _ _ h6 b c M'' ρ₁ L' Q' hs kk q⟩
theorem SY(i1:IS y)(h:ckSs (.c (.frz n) y) sc ls=true):Rj (.c (.frz n) y) sc ls:=by
 obtain⟨h1,h2⟩:=an (show(GE n&&ckSs y sc ls)=true from h)
 obtain⟨h3,h4⟩:=an h1
 intro b c M ρ L Q hs kk hw
 obtain⟨v,e,q⟩:=AO (show Ax (AW ρ n) fun v=>wss y c (Bk ρ n (frz L v).1) Q (frz L v).2 from hw)
 have e4:=Nat.eq_of_beq_eq_true h4
 rw[←e4]at e q
 exact J.frz h3 e fun M' l=>i1 _ _ h2 b c M' _ _ Q hs kk q
end
theorem PP{s:St}{y:Sts}{sc:Scope}{l:List Stmt}(hf:Nd s=none)(is:∀st,ckS s sc st=true→Cb s sc st)(i1:IS y)(h:ckSs (.c s y) sc l=true):Rj (.c s y) sc l:=by
 have h:(match Nd s with
  |some n=>GE n&&ckSs y sc l
  |none=>lc l fun t l=>ckS s sc t&&ckSs y sc l)=true:=h
 rw[hf]at h
 exact Lu (C:=Rj (.c s y) sc) h fun t l h b c M ρ L Q hs kk hw=>Mh (is t (an h).1 b c M ρ L _ hs kk hw) fun M' ρ' L' l' q=>i1 _ _ (an h).2 b c M' ρ' L' Q hs kk q
mutual
theorem dC(hR:RaiseOk):∀(s:St){sc:Scope}(st:Stmt),ckS s sc st=true→Cb s sc st
 | .asg _ _,_,_,h=>SX h
 | .asgC _ _,_,_,h=>PO h
 | .aug _ _ _,_,_,h=>SW h
 | .ex _,_,_,h=>WM h
 | .ret _,_,_,h=>SQ h
 | .ite _ a b,_,_,h=>SR (sndL hR a) (sndL hR b) h
 | .whl _ a,_,_,h=>SP (sndL hR a) h
 | .for_ _ _ _ a,_,_,h=>ST (sndL hR a) h
 | .brk,_,_,h=>SU h
 | .cont,_,_,h=>PN h
 | .frz _,_,_,h=>ff h
 | .rais _ _,_,_,h=>PM hR h
theorem sndL(hR:RaiseOk):∀x:Sts,IS x
 | .n=>fun sc l h=>E9 (C:=Rj .n sc) h fun b c M ρ L Q hs kk hw=>QM hw
 | .c s y=>fun sc l h=>by
  cases q:Nd s with
  |some n=>
   cases s with
   |frz k=>exact SY (sndL hR y) h
   |_=>exact nos q
  |none=>exact PP q (fun st=>dC hR s st) (sndL hR y) h
end
end
section
noncomputable abbrev KTp(w:World):PH:=fun a=>(KT w.params).lookup a
noncomputable def Rm(w:World)(a:Addr)(f:Fn):Prop:=
 ∃fd body ps,EF (KTp w) a fd body ps∧ps.map cd=f.params∧ckSs f.body fd.scope body=true∧
  ∃ds,PRs w (KTp w) f.dfl ds∧∀xs:List Value,xs.length≤ps.length→ps.length≤xs.length+ds.length→∀(A:Around) (Q:List (Str×Value)→Shared→Prop) E (s:Shared),(∀a o,KTp w a=some o→s.heap.get? a=some o)→
   Q (ps.zip (xs++ds.drop (xs.length+ds.length-ps.length))) s→wpAny (model pw_nn0409_01 w) A (bindArgs fd ⟨xs,[]⟩) Q E s
section
variable{b:Bc}{M:Mp}{ρ ρ0:Rho}{L:LH}{Q:V→LH→Prop}{x:Value}{xs:List Value}{v:V}{vl:List V}{k n:Nat}{c:Ctx}{a C:Addr}{f:Fn}{X:Prop}
theorem Qd(h:f.env vl=some ρ0):vl.length≤f.params.length∧f.params.length≤vl.length+f.dfl.length∧ρ0=f.params.zip (vl++(f.dfl.drop (vl.length+f.dfl.length-f.params.length)).map .t):=by
 unfold Fn.env at h
 cases q:Nat.ble vl.length f.params.length&&Nat.ble f.params.length (vl.length+f.dfl.length)with
 |false=>rw[q]at h;exact nos h
 |true=>
  rw[q]at h
  have q:=an q
  exact⟨Nat.le_of_ble_eq_true q.1,Nat.le_of_ble_eq_true q.2,(Option.some.inj h).symm⟩
theorem FW{ts:List Tr}:(ts.map V.t).all (Bs k)=true:=by rw[List.all_map];exact List.all_eq_true.mpr fun zz zz=>rfl
theorem Pw(hR:RaiseOk)(hf:Rm b.w a f)(hn:n+1≤b.n)(kc:∀env',Cok ⟨b.w,b.os,n,b.X,env'⟩ c)(hP:Top b M.P)(hv:VRs b.w M vl xs)(hc:clL k k L=true)(ho:vl.all (Bs k)=true)
 (h:fnW c f vl (fun v L'=>Internal.back k Q v L' (L.drop k)) (L.take k)):SV b M ρ L (call (.ref a) xs) Q:=by
 refine hid fun Gg gg=> ?_
 obtain⟨fd,body,ps,F,hp,hck,ds,hds,bind⟩:=hf
 obtain⟨hk,h⟩:=Bu h
 obtain⟨ρ0,he,h⟩:=AO h
 obtain⟨e1,e2,rfl⟩:=Qd he
 refine gg ?_
 have hlen:=hv.length
 have hlp:ps.length=f.params.length:=by rw[←hp,List.length_map]
 have hld:=hds.length
 have e3:xs.length+ds.length-ps.length=vl.length+f.dfl.length-f.params.length:=by rw[hlen,hld,hlp]
 refine SN (xs':=xs++ds.drop (vl.length+f.dfl.length-f.params.length)) hn (F.mono hP) (VRs.append hv (PRs.vals ((PRs.mono hP _ hds).drop _))) hc (by rw[List.all_append,ho,FW];rfl) (Nat.le_of_ble_eq_true hk)
  (fun A Q E s hh q=>bind xs (by exact l40 (Hb W0 X1 (Hd W0 X2 (Hd X3 X1 (Gb X2 X3)))) rfl e1 hlen hlp) (by exact l60 (Hb W0 (.a X1 X2) (Hc X1 X3 (Hc X4 W0 (Hc X2 X5 (Gb X4 (.a X3 X5)))))) rfl e2 hlen hlp hld) A Q E s (fun a o e=>hh a o (hP a o e)) (e3▸q)) fun env' M' hs l=> ?_
 rw[hp]
 exact sndL hR f.body _ _ hck _ c M' _ _ _ hs (kc env') h
theorem MX:∀{vl:List V}{ts:List Tr},IC vl=some ts→vl=ts.map .t
 |[],_,h=>by cases h;rfl
 |v::vl,_,h=>by
  obtain⟨z,e1,e2⟩:=Option.bind_eq_some_iff.mp (show((tOf v).bind fun x=>(IC vl).map (x::·))=some _ from h)
  obtain⟨r,e3,rfl⟩:=Option.map_eq_some_iff.mp e2
  cases v with
  |t y=>cases e1;rw[MX e3];rfl
  |_=>exact nos e1
theorem ON(hR:RaiseOk)(hm:(makesIn (KT b.w.params) C&&(findIn (KT b.w.params) (.ref C) "__init__"==some (some (.ref a))&&(typeIn (KT b.w.params) (.ref a)==some (.type "function"))))=true)(hf:Rm b.w a f)(hn:n+2≤b.n)(kc:∀env',Cok ⟨b.w,b.os,n,b.X,env'⟩ c)(hP:Top b M.P){ts:List Tr}
 (hv:VRs b.w M (ts.map .t) xs)(h:bb C c f ts (fun v L'=>Internal.back k Q v L' (L.drop k)) (L.take k)):SV b M ρ L (call (.ref C) xs) Q:=by
 refine hid fun Gg gg=> ?_
 obtain⟨fd,body,ps,F,hp,hck,ds,hds,bind⟩:=hf
 obtain⟨m1,m2⟩:=an hm
 obtain⟨m2,m3⟩:=an m2
 obtain⟨ρ0,he,h⟩:=AO h
 obtain⟨e1,e2,rfl⟩:=Qd he
 refine gg ?_;clear gg
 have hlen:=hv.length
 have hlp:ps.length=f.params.length:=by rw[←hp,List.length_map]
 have hld:=hds.length
 rw[List.length_cons]at e1 e2
 have e3:xs.length+1+ds.length-ps.length=(V.ref 0::ts.map V.t).length+f.dfl.length-f.params.length:=by rw[List.length_cons,hlen,hld,hlp]
 refine R9 (xs':=xs++ds.drop ((V.ref 0::ts.map V.t).length+f.dfl.length-f.params.length)) hn m1 (eq_of_beq m2) (eq_of_beq m3) (F.mono hP) (VRs.append hv (PRs.vals ((PRs.mono hP _ hds).drop _))) (by rw[List.all_append,FW,FW];rfl)
  (fun self A Q E s hh q=>bind (.ref self::xs) (by rw[List.length_cons];exact(l40 (Hb (.a W0 Y1) X1 (Hd W0 X2 (Hd X3 X1 (Gb (.a X2 Y1) X3)))) rfl e1 hlen hlp)) (by rw[List.length_cons];exact(l60 (Hb W0 (.a (.a X1 Y1) X2) (Hc X1 X3 (Hc X4 W0 (Hc X2 X5 (Gb X4 (.a (.a X3 Y1) X5)))))) rfl e2 hlen hlp hld)) A Q E s (fun a o e=>hh a o (hP a o e)) (by rw[←e3]at q;exact q)) (fun env' M' hs l=> ?_) (R:=fun x=>Internal.back k Q (.t x) (L.take k) (L.drop k)) (G:=fun L'=>L.take k=[]∧Internal.back k Q (.ref 0) (cut 4 L') (L.drop k)) (fun t q=> ?_) fun L' hl q=> ?_
 ·rw[hp]
  exact sndL hR f.body _ _ hck _ c M' _ _ _ hs (kc env') h
 ·have:=(Gm q).1
  rw[List.take_append_drop]at this
  exact this
 ·obtain⟨q1,q2⟩:=Gm q.2
  have e:=List.take_append_drop k L
  rw[q.1,List.nil_append]at e
  rcases q2 with q2|q2
  ·rw[q2]at e q1
   rw[List.append_nil]at q1
   exact⟨e.symm,q1⟩
  ·have hc:0<(cut 4 L').length:=by
    unfold cut
    cases clL 4 4 L'
    ·exact hl
    ·show 0<(L'.take 4).length;rw[List.length_take];exact(Nat.le_total _ _).elim (fun x3'=>l10 (Hd W0 Y4 (Gc Y0 W0)) rfl (Nat.min_eq_left x3')) (fun x3'=>l20 (Hg Y0 W0 (Hd X1 W0 (Gc Y0 X1))) rfl hl (Nat.min_eq_right x3'))
   have:L.length=0:=by
    have h1:=congrArg List.length q.1
    rw[List.length_take,List.length_nil]at h1
    exact(Nat.le_total _ _).elim (fun x3'=>Nat.le_antisymm (l40 (Hc W0 X1 (Hg Y0 W0 (Hc X2 Y0 (Hd X2 X1 (.G .nle 0 X3 Y0))))) rfl q2 hc h1 (Nat.min_eq_left x3')) (l40 (Hc W0 X1 (Hg Y0 W0 (Hc X2 Y0 (Hd X2 X1 (.G .nle 0 Y0 X3))))) rfl q2 hc h1 (Nat.min_eq_left x3'))) (fun x3'=>l20 (Hc W0 Y0 (Hd W0 X1 (Gf X1 Y0))) rfl h1 (Nat.min_eq_right x3'))
   have e0:=List.eq_nil_of_length_eq_zero this
   subst e0
   exact⟨rfl,by rw[List.drop_nil,List.append_nil]at q1;exact q1⟩
end
end
section
noncomputable def Oq(w:World)(os:OsState)(fv:V)(W:(Prop→KT')→Prop→Prop→List V→Post→LH→Prop):Prop:=
 ∀(k:Nat) (X:Prop),(∀X',KOk w os (2*k) X' (AC k X'))→∀env M ρ L j Q vl x xs,(∀a o,KTp w a=some o→M.P a=some o)→VR w M fv x→VRs w M vl xs→clL j j L=true→Bs j fv=true→vl.all (Bs j)=true→
  W (AC k) (1≤k) X vl (fun v L'=>Internal.back j Q v L' (L.drop j)) (L.take j)→SV ⟨w,os,2*k+2,X,env⟩ M ρ L (call x xs) Q
structure Vk(w:World)(os:OsState):Prop where
 fn:∀a f,FA a=some f→Rm w a f
 cl:∀C i,CA C=some i→(makesIn (KT w.params) C&&(findIn (KT w.params) (.ref C) "__init__"==some (some (.ref i))&&(typeIn (KT w.params) (.ref i)==some (.type "function"))))=true
 clo:∀us i,Oq w os (.clo us i) fun KT xk X vl Q L=>UJ ⟨KT X,KT False,X∧xk⟩ us i vl Q L
 tk:Oq w os (.t (.fn 905)) fun KT xk X vl Q L=>Ft ⟨KT X,KT False,X∧xk⟩ vl Q L
 tr:Oq w os (.t (.fn 927)) fun KT xk X vl Q L=>Fs KT xk X vl Q L
section
variable{w:World}{os:OsState}
theorem ET{k:Nat}{X:Prop}(IH:∀X',KOk w os (2*k) X' (AC k X'))(env':Env):Cok ⟨w,os,2*k,X,env'⟩ ⟨AC k X,AC k False,X∧1≤k⟩:=⟨IH X,IH False,fun h=>⟨h.1,Nat.mul_le_mul_left 2 h.2⟩⟩
theorem G7(hR:RaiseOk)(O:Vk w os):∀(k:Nat) (X:Prop),KOk w os (2*k) X (AC k X)
 |0,X=>fun env M ρ L j Q f vl x xs hf hv h=>(Bu h).2.elim
 |k+1,X=>fun env M ρ L j Q f vl x xs hf hv h=>by
  have IH:=G7 hR O k
  replace h:=Bu h
  obtain⟨hck,h⟩:=h
  obtain⟨hc,ho⟩:=an hck
  obtain⟨of,ov⟩:=an ho
  clear hck ho
  show SV ⟨w,os,2*k+2,X,env⟩ M ρ L (call x xs) Q
  refine JE.top fun M1 l1 hP=> ?_
  replace hf:=VR.mono l1 _ hf
  replace hv:=VRs.mono l1 _ hv
  cases f with
  |clo us i=>exact O.clo us i k X IH env M1 ρ L j Q vl x xs hP hf hv hc of ov h
  |t f=>cases f with
   |fn a=>
    have h:Ni a ⟨AC k X,AC k False,X∧1≤k⟩ vl (fun v L'=>Internal.back j Q v L' (L.drop j)) (L.take j) (bif Nat.beq a 905 then Ft ⟨AC k X,AC k False,X∧1≤k⟩ vl (fun v L'=>Internal.back j Q v L' (L.drop j)) (L.take j)else bif Nat.beq a 927 then Fs (AC k) (1≤k) X vl (fun v L'=>Internal.back j Q v L' (L.drop j)) (L.take j)else False) (FA a):=h
    cases hf
    cases e:FA a with
    |some fn=>rw[e]at h;exact Pw (n:=2*k) hR (O.fn a fn e) (Nat.le_succ _) (ET IH) hP hv hc ov h
    |none=>
     rw[e]at h
     have h:Xu a ⟨AC k X,AC k False,X∧1≤k⟩ vl (fun v L'=>Internal.back j Q v L' (L.drop j)) (L.take j) _ (CA a):=h
     cases e2:CA a with
     |some i=>
      rw[e2]at h
      obtain⟨fn,e3,h2⟩:=AO h
      obtain⟨ts,e4,h3⟩:=AO h2
      cases MX e4
      exact ON (n:=2*k) hR (O.cl a i e2) (O.fn i fn e3) (Nat.le_refl _) (ET IH) hP hv h3
     |none=>
      rw[e2]at h
      have h:(bif Nat.beq a 905 then Ft ⟨AC k X,AC k False,X∧1≤k⟩ vl (fun v L'=>Internal.back j Q v L' (L.drop j)) (L.take j)else bif Nat.beq a 927 then Fs (AC k) (1≤k) X vl (fun v L'=>Internal.back j Q v L' (L.drop j)) (L.take j)else False):=h
      cases q:Nat.beq a 905 with
      |true=>rw[q]at h;cases Nat.eq_of_beq_eq_true q;exact O.tk k X IH env M1 ρ L j Q vl _ xs hP rfl hv hc of ov h
      |false=>
       rw[q]at h
       cases q2:Nat.beq a 927 with
       |true=>rw[q2]at h;cases Nat.eq_of_beq_eq_true q2;exact O.tr k X IH env M1 ρ L j Q vl _ xs hP rfl hv hc of ov h
       |false=>rw[q2]at h;exact h.elim
   |_=>exact h.elim
  |_=>exact h.elim
end
end
section
noncomputable def II(P:Params)(a:Addr):Option FuncData:=match(KT P).lookup a with
 |some o=>(match o.data with
  | .func fd=>some fd
  |_=>none)
 |none=>none
noncomputable def JH(P:Params)(fd:FuncData):Bool:=match fd.code with
 | .ref c=>(match(KT P).lookup c with
  |some ⟨_,_, .fields vs,_⟩=>(match(vs[1]? :Option Value)with
   |some (.str q _)=>q==fd.qualname
   |_=>false)
  |_=>false)
 |_=>false
noncomputable def Hk:List Str→Bool
 |[]=>true
 |x::r=> !r.contains x&&Hk r
noncomputable def Dj(fd:FuncData):List Str:=fd.params.args.map (·.arg)
noncomputable def J6(fd:FuncData)(ps:List Str):Bool:=
 Nat.beq fd.globals mainGlobals&&(Nat.beq fd.builtins builtinsNs&&(fd.closure.isEmpty&&(fd.scope.kind== .function&&(!fd.scope.isCoroutine&&(!fd.scope.isGenerator&&
 ((ps.all fun p=>okS p&&(fd.scope.names.lookup p==some .local||fd.scope.names.lookup p==some .cell))&&(Hk ps&&Hk (fd.scope.names.map (·.1)))))))))
noncomputable def IM(P:Params)(fd:FuncData):List Value:=match fd.defaults with
 | .ref t=>(match(KT P).lookup t with
  |some ⟨_,_, .seq vs _,_⟩=>vs.toList
  |_=>[])
 |_=>[]
noncomputable def fnB(P:Params)(a:Addr)(f:Fn):Bool:=match II P a with
 |some fd=>(match fd.body with
  | .stmts l=>J6 fd (Dj fd)&&(JH P fd&&(vrsB (KT P) 30 f.dfl (IM P fd)&&(Lv ((Dj fd).map cd) f.params&&ckSs f.body fd.scope l)))
  |_=>false)
 |none=>false
theorem ag(P:Params):(FL.all fun p=>fnB P p.1 p.2)=true:=by kernel_rfl
noncomputable def clB(P:Params)(p:Addr×Addr):Bool:=makesIn (KT P) p.1&&(findIn (KT P) (.ref p.1) "__init__"==some (some (.ref p.2))&&(typeIn (KT P) (.ref p.2)==some (.type "function")))
theorem W9(P:Params):(CLs.all fun p=>clB P p)=true:=by kernel_rfl
noncomputable def cH(P:Params)(fd:FuncData):List Nat:=(List.range ((IM P fd).length+1)).map fun i=>(Dj fd).length-i
noncomputable def NQ(P:Params)(S:Setting)(f:Nat→Value)(a:Addr):List (Option (List (Str×Value))):=match II P a with
 |some fd=>(cH P fd).map fun n=>peek (KT P) S (bindArgs fd ⟨(List.range n).map f,[]⟩)
 |none=>[]
noncomputable def NR(P:Params)(f:Nat→Value)(a:Addr):List (Option (List (Str×Value))):=match II P a with
 |some fd=>(cH P fd).map fun n=>some ((Dj fd).zip ((List.range n).map f++(IM P fd).drop (n+(IM P fd).length-(Dj fd).length)))
 |none=>[]
theorem XG(P:Params)(S:Setting)(f:Nat→Value):(FL.map fun p=>NQ P S f p.1)=FL.map fun p=>NR P f p.1:=by kernel_rfl
theorem FY:∀{l:List Str},Hk l=true→l.Nodup
 |[],_=>List.nodup_nil
 |x::r,h=>by
  have h:=an (show(!r.contains x&&Hk r)=true from h)
  exact List.nodup_cons.mpr ⟨fun q=>by rw[List.contains_iff_mem.mpr q]at h;exact ff h.1,FY h.2⟩
theorem TI{xs:List Value}:xs=(List.range xs.length).map fun i=>xs.getD i .none:=by
 refine List.ext_getElem? fun i=> ?_
 rw[List.getElem?_map]
 by_cases h:i<xs.length
 ·rw[List.getElem?_range h];simp[h]
 ·rw[List.getElem?_eq_none (by simpa using h),List.getElem?_eq_none (by simpa using h)];rfl
section
variable{w:World}{a:Addr}{f:Fn}
set_option tactic.hygienic true in
theorem ai{fd:FuncData}(h:II w.params a=some fd):∃o,KTp w a=some o∧o.data= .func fd:=by
 unfold II at h
 split at h
 ·rename_i o e
  split at h
  ·rename_i fd' e2;cases h;exact⟨o,e,e2⟩
  ·exact nos h
 ·exact nos h
set_option tactic.hygienic true in
theorem Tn{fd:FuncData}(h:JH w.params fd=true):∃c oc vs t,fd.code= .ref c∧KTp w c=some oc∧oc.data= .fields vs∧vs[1]? =some (.str fd.qualname t):=by
 unfold JH at h
 split at h
 ·rename_i c e
  split at h
  ·rename_i x1 x2 vs x3 e2
   split at h
   ·rename_i q t e3
    cases eq_of_beq h
    exact⟨c,_,vs,t,e,e2,rfl,e3⟩
   ·exact ff h
  ·exact ff h
 ·exact ff h
theorem M0{fd:FuncData}{l:List Stmt}(e:II w.params a=some fd)(el:fd.body= .stmts l)(h1:J6 fd (Dj fd)=true)(h3:JH w.params fd=true):EF (KTp w) a fd l (Dj fd):=by
 refine hid fun Gg gg=> ?_
 obtain⟨a1,b1⟩:=an h1
 obtain⟨a2,b2⟩:=an b1
 obtain⟨a3,b3⟩:=an b2
 obtain⟨a4,b4⟩:=an b3
 obtain⟨a5,b5⟩:=an b4
 obtain⟨a6,b6⟩:=an b5
 obtain⟨a7,b7⟩:=an b6
 obtain⟨a8,a9⟩:=an b7
 refine gg ?_
 refine⟨ai e,Tn h3,el,Nat.eq_of_beq_eq_true a1,Nat.eq_of_beq_eq_true a2,List.isEmpty_iff.mp a3,eq_of_beq a4,by rw[Bool.not_eq_true']at a5;exact a5,by rw[Bool.not_eq_true']at a6;exact a6,fun p hp=> ?_,FY a8,FY a9⟩
 have:=an (List.all_eq_true.mp a7 p hp)
 rw[Bool.or_eq_true,beq_iff_eq,beq_iff_eq]at this
 exact this
theorem NG{fd:FuncData}(e:II w.params a=some fd)(h:∀S g,NQ w.params S g a=NR w.params g a)(xs:List Value)(hx:xs.length≤(Dj fd).length)(hy:(Dj fd).length≤xs.length+(IM w.params fd).length)(A:Around)(Q:List (Str×Value)→Shared→Prop)(E:Value→Shared→Prop)(s:Shared)
 (hP:∀a o,KTp w a=some o→s.heap.get? a=some o)(q:Q ((Dj fd).zip (xs++(IM w.params fd).drop (xs.length+(IM w.params fd).length-(Dj fd).length))) s):wpAny (model pw_nn0409_01 w) A (bindArgs fd ⟨xs,[]⟩) Q E s:=by
 have hb:∀S g,peek (KT w.params) S (bindArgs fd ⟨(List.range xs.length).map g,[]⟩)=some ((Dj fd).zip ((List.range xs.length).map g++(IM w.params fd).drop (xs.length+(IM w.params fd).length-(Dj fd).length))):=fun S g=>by
  have h:=h S g
  unfold NQ NR at h
  rw[e]at h
  exact List.map_inj_left.mp h xs.length (List.mem_map.mpr ⟨(Dj fd).length-xs.length,List.mem_range.mpr (by exact l40 (Hb W0 (.a X1 X2) (Hc (.a X3 X1) W0 (Gc X3 (.a X2 Y1)))) rfl hy (Nat.sub_add_cancel hx)),by exact(Nat.le_total _ _).elim (fun x3'=>l40 (Hc (.a W0 X1) X2 (Hd (.a X1 X3) X2 (Gf W0 X3))) rfl (Nat.sub_add_cancel (x3')) (Nat.sub_add_cancel hx)) (fun x3'=>Nat.le_antisymm (l20 (.P 1 1 (Hc W0 Y0 (Gb W0 X1))) rfl (Nat.sub_eq_zero_of_le x3')) (l40 (Hb W0 X1 (Hd X2 Y0 (Hc (.a X1 X3) W0 (Gb X3 X2)))) rfl x3' (Nat.sub_eq_zero_of_le x3') (Nat.sub_add_cancel hx)))⟩)
 have:=kp_binds (s:=s) (K:=KT w.params) (fd:=fd) (args:=⟨(List.range xs.length).map fun i=>xs.getD i .none,[]⟩) (fun b o e=>hP b o e) (fun S=>hb S fun i=>xs.getD i .none)
 rw[←TI]at this
 exact this _ _ _ _ q
set_option tactic.hygienic true in
theorem Mz(hm:(a,f)∈FL):Rm w a f:=by
 have h:fnB w.params a f=true:=List.all_eq_true.mp (ag w.params) _ hm
 unfold fnB at h
 cases e:II w.params a with
 |none=>rw[e]at h;exact ff h
 |some fd=>
  rw[e]at h
  have h:(match fd.body with
   | .stmts l=>J6 fd (Dj fd)&&(JH w.params fd&&(vrsB (KT w.params) 30 f.dfl (IM w.params fd)&&(Lv ((Dj fd).map cd) f.params&&ckSs f.body fd.scope l)))
   |_=>false)=true:=h
  split at h
  ·rename_i l el
   obtain⟨h1,h2⟩:=an h
   obtain⟨h3,h4⟩:=an h2
   obtain⟨h5,h6⟩:=an h4
   obtain⟨h7,h8⟩:=an h6
   exact⟨fd,l,Dj fd,M0 e el h1 h3,JY h7,h8,IM w.params fd,(L9 (fun zz zz e=>e) 30).2 _ _ h5,NG e fun S g=>List.map_inj_left.mp (XG w.params S g) _ hm⟩
  ·exact ff h
theorem XL(h:FA a=some f):Rm w a f:=by
 obtain⟨p,e,rfl⟩:=Option.map_eq_some_iff.mp h
 have:=Nat.eq_of_beq_eq_true (List.find?_some (p:=fun p:Addr×Fn=>Nat.beq p.1 a) e)
 subst this
 exact Mz (List.mem_of_find?_eq_some e)
theorem XM{i:Addr}(h:CA a=some i):(makesIn (KT w.params) a&&(findIn (KT w.params) (.ref a) "__init__"==some (some (.ref i))&&(typeIn (KT w.params) (.ref i)==some (.type "function"))))=true:=by
 obtain⟨p,e,rfl⟩:=Option.map_eq_some_iff.mp h
 obtain⟨h1,h2⟩:=HY (W9 w.params) e
 cases Nat.eq_of_beq_eq_true h1
 exact h2
end
end
section
noncomputable def bmS:List Value:=[.ref 284, .type "Exception", .type "BaseException", .type "object"]
noncomputable def BQ:Str:=nm 120
noncomputable def scanO:Obj:=excClassObj BQ BQ 309 308 [.ref 284] bmS true [] [] false none none (some (.ref 300)) none (some (.str BQ 609)) (some (.str BQ 617)) (some (.bool true)) "Exception.__new__"
theorem Ol(P:Params):(KT P).lookup 309=some scanO:=by kernel_rfl
theorem ev(P:Params):findIn (KT P) (.ref 309) "__init__"=some (some (.ref 274)):=by kernel_rfl
theorem eK(P:Params):typeIn (KT P) (.ref 274)=some (.type "function"):=by kernel_rfl
section
variable{w:World}{A:Around}{E:Value→Shared→Prop}{h:Heap}{g:Array GenState}{d:Drawn}{t:Nat}{os:OsState}
noncomputable abbrev FE:=PySem.F.excBase_Exception
theorem I7{M:Model}{rest:List Value}{Q:Unit→Shared→Prop}(hC:h.get? 309=some scanO)
 (hq:Q () ⟨h,g,d,t,os⟩):wpAny M A (checkBuiltinCall "Exception.__new__" ⟨.ref 309::rest,[]⟩) Q E ⟨h,g,d,t,os⟩:=by
 have hcont:(Value.ref 309::bmS).contains (.type "Exception")=true:=by decide+kernel
 have hstar:=FE.noStar
 have hC':h.get? 309=some (excClassObj BQ BQ 309 308 [.ref 284] bmS true [] [] false none none (some (.ref 300)) none (some (.str BQ 609)) (some (.str BQ 617)) (some (.bool true)) "Exception.__new__"):=hC
 simp only[checkBuiltinCall,FE.newKind,FE.newSplit,FE.newRow]
 repeat (first|refine wpAny_loadPart_at hC' ?_|(refine wpAny_isSubtype_exc hC' ?_;rw[hcont])|refine wpAny_staticBase_exc hC' ?_|refine wpAny_madeBy_exc hC' ?_|simp only[bne_self_eq_false,Bool.false_eq_true,if_false]|wp_step)
 exact hq
theorem Wh{R:Result→Shared→Prop}{rest:List Value}(hC:h.get? 309=some scanO)
 (hq:R (.ok (.ret (.ref (h.objs.size+1)))) ⟨(h.push {cls:= .type "tuple",data:= .seq rest.toArray}).push
  {cls:= .ref 309,data:= .fields #[.ref h.objs.size, .none, .none, .none, .bool false, .none]},g,d,t,os⟩) (hrest:rest.length≤sizeLine):
 codeAny (model pw_nn0409_01 w) A (.builtin "Exception.__new__" ⟨.ref 309::rest,[]⟩) R ⟨h,g,d,t,os⟩:=by
 have hends:=FE.ends
 have hcB:(Value.ref 309::bmS).contains (.type "Exception")=true:=by decide+kernel
 have hcA:(Value.ref 309::bmS).contains (.type "AttributeError")=false:=by decide+kernel
 have hcN:(Value.ref 309::bmS).contains (.type "NameError")=false:=by decide+kernel
 have hC':h.get? 309=some (excClassObj BQ BQ 309 308 [.ref 284] bmS true [] [] false none none (some (.ref 300)) none (some (.str BQ 609)) (some (.str BQ 617)) (some (.bool true)) "Exception.__new__"):=hC
 refine codeAny_builtinAt FE.entry ?_
 unfold Builtin.«BaseException.__new__»
 refine PySem.wpAt_bind ?_
 show PySem.wpAt _ _ _ (stack>>=_) _ _ _
 refine PySem.wpAt_bind (PySem.wpAt_stack fun p below=>PySem.wpAt_of_wpAny ?_)
 wp_walk
 refine PySem.wpAt_of_wpAny ?_
 rw[FE.owner]
 repeat (first|with_reducible refine wpAny_madeHere_exc FE.canon hC' ?_|with_reducible refine wpAny_loadPart_at hC' ?_|(with_reducible refine wpAny_isSubtype_exc hC' ?_;first|rw[hcB]|rw[hcA]|rw[hcN])|wp_step)
 show R _ _
 rw[Heap.size_push]
 exact hq
theorem I2{rest:List Value}{Q:PySem.Fin→Shared→Prop}(X:(KT w.params).In h)
 (hq:∀h' e,Heap.MadeExcOf h h' e (.ref 309) rest→
  wpAny (model pw_nn0409_01 w) A (call (.ref 274) (.ref e::rest)) (fun r s'=>r= .none∧Q (.done (.ret (.ref e))) s') E ⟨h',g,d,t,os⟩) (hrest:rest.length≤sizeLine):
 wpAny (model pw_nn0409_01 w) A (Builtin.«type.__call__» ⟨.ref 309::rest,[]⟩) Q E ⟨h,g,d,t,os⟩:=by
 have hC:h.get? 309=some (excClassObj BQ BQ 309 308 [.ref 284] bmS true [] [] false none none (some (.ref 300)) none (some (.str BQ 609)) (some (.str BQ 617)) (some (.bool true)) "Exception.__new__"):=X _ _ (Ol _)
 repeat (first|with_reducible refine wpAny_loadPart_at hC ?_|with_reducible refine wpAny_madeBy_exc hC ?_|wp_step)
 refine codeAny_call_builtin_code (Code.quiet_builtin _ FE.quiet) (I7 hC ?_)
 refine Wh hC ?_ hrest
 show wpAny _ _ _ _ _ _
 have hC₁:=Heap.get?_push_of_some {cls:= .ref 309,data:= .fields #[.ref h.objs.size, .none, .none, .none, .bool false, .none]}
  (Heap.get?_push_of_some {cls:= .type "tuple",data:= .seq rest.toArray} hC)
 have X₁:(KT w.params).In ((h.push {cls:= .type "tuple",data:= .seq rest.toArray}).push {cls:= .ref 309,data:= .fields #[.ref h.objs.size, .none, .none, .none, .bool false, .none]}):=fun b o e=>Heap.get?_push_of_some _ (Heap.get?_push_of_some _ (X b o e))
 have hget:((h.push {cls:= .type "tuple",data:= .seq rest.toArray}).push
  {cls:= .ref 309,data:= .fields #[.ref h.objs.size, .none, .none, .none, .bool false, .none]}).get? (h.objs.size+1)=some
  {cls:= .ref 309,data:= .fields #[.ref h.objs.size, .none, .none, .none, .bool false, .none]}:=by heap_get
 have hcC:(Value.ref 309::bmS).contains (.ref 309)=true:=by decide+kernel
 unfold isInstance
 repeat (first|with_reducible refine wpAny_loadPart_at hget ?_|(with_reducible refine wpAny_isSubtype_exc hC₁ ?_;rw[hcC])|wp_step)
 show wpAny _ _ (typeLookup (.ref 309) _) _ _ _
 refine(looks_findIn X₁ (ev _)).here ?_
 refine wpAny_holding (wpAny_bind ?_)
 refine(bind_fn X₁ _ (eK _)).here ?_
 refine wpAny_bind (wpAny_mono (hq _ (h.objs.size+1) ⟨fun b o hb=>Heap.get?_push_of_some _ (Heap.get?_push_of_some _ hb),Heap.get?_none_of_le (Nat.le_succ _),h.objs.size,hget,Heap.get?_none_of_le (Nat.le_refl _), ?_⟩) (fun r s' hr=> ?_) fun zz zz x=>x)
 ·exact Heap.get?_push_of_some _ (Heap.get?_push_at rfl rfl)
 ·obtain⟨rfl,hQ⟩:=hr
  wp_walk
  exact hQ
theorem Tt{rest:List Value}{Q:Value→Shared→Prop}(X:(KT w.params).In h)
 (hq:∀h' e,Heap.MadeExcOf h h' e (.ref 309) rest→
  wpAny (model pw_nn0409_01 w) (A.under (.builtin "type.__call__" ⟨.ref 309::rest,[]⟩)) (call (.ref 274) (.ref e::rest)) (fun r s'=>r= .none∧Q (.ref e) s') E ⟨h',g,d,t,os⟩) (hrest:rest.length≤sizeLine):
 wpAny (model pw_nn0409_01 w) A (call (.ref 309) rest) Q E ⟨h,g,d,t,os⟩:=by
 have f1:=tc_lookup
 have f2:=tc_bind (.ref 309)
 have hC:h.get? 309=some (excClassObj BQ BQ 309 308 [.ref 284] bmS true [] [] false none none (some (.ref 300)) none (some (.str BQ 609)) (some (.str BQ 617)) (some (.bool true)) "Exception.__new__"):=X _ _ (Ol _)
 have hT:(⟨h,g,d,t,os⟩:Shared).TypeIs (.ref 309) "type":=⟨_,hC,rfl⟩
 refine wpAny_call (codeAny_of_tree ?_)
 show wpAny _ _ (callAny (.ref 309) _) _ _ _
 repeat (any_goals (first|assumption|with_reducible refine wpAny_loadPart_at hC ?_|wp_step))
 refine⟨rfl, ?_⟩
 refine codeAny_call_builtin_at (Code.quiet_builtin _ (by decide+kernel)) entry_typeCall (wpAny_check_type_call_sub hC (I2 (hrest:=hrest) X fun h' e hm=> ?_))
 exact hq h' e hm
end
theorem Tf:findCls [] (.type "Exception") (.type "type") ("__init__":Str)=some (.val (.builtin "Exception.__init__")):=by kernel_rfl
theorem Yx:specialOf (.type "Exception") ("__getattribute__":Str)=pure (some (.builtin "type.__getattribute__")):=by kernel_rfl
theorem Vw:typeOf (.type "Exception")=pure (.type "type"):=by kernel_rfl
theorem We:opaqueClassAbove (.type "Exception")=pure none:=by kernel_rfl
theorem TW:findIn [] (.type "type") ("__getattribute__":Str)=some (some (.builtin "type.__getattribute__")):=by kernel_rfl
theorem TV:hookBefore (.type "type")=pure none:=by kernel_rfl
theorem SO:subIn [] (.type "type") (.type "type")=some true:=by kernel_rfl
section
variable{w:World}{A:Around}{E:Value→Shared→Prop}{s:Shared}
theorem H7{M:Model}{e:Addr}{oe:Obj}{rest:List Value}{Q:Unit→Shared→Prop}(hC:s.heap.get? 309=some scanO)(he:s.heap.get? e=some oe)(hcls:oe.cls= .ref 309)(hq:Q () s):
 wpAny M A (checkBuiltinCall "Exception.__init__" ⟨.ref e::rest,[]⟩) Q E s:=by
 obtain⟨h,g,d,t,os⟩:=s
 have hcB:(Value.ref 309::bmS).contains (.type "Exception")=true:=by decide+kernel
 have hC':h.get? 309=some (excClassObj BQ BQ 309 308 [.ref 284] bmS true [] [] false none none (some (.ref 300)) none (some (.str BQ 609)) (some (.str BQ 617)) (some (.bool true)) "Exception.__new__"):=hC
 have hshort:=FE.noStar
 simp only[checkBuiltinCall,FE.initKind,FE.initSplit,FE.initRow]
 repeat (first|(with_reducible refine wpAny_loadPart_at he ?_;rw[hcls])|with_reducible refine wpAny_loadPart_at hC' ?_|(with_reducible refine wpAny_isSubtype_exc hC' ?_;rw[hcB])|wp_step)
 refine wpAny_onRaise ?_
 rw[show∀(a b:String) (n:Nat),Bind.check ⟨.positional,"*","Exception", .self,[⟨"args", .varPos,false⟩]⟩ a b n (List.map (fun x=>x.fst) ({pos:=Value.ref e::rest}:Args).kw)=pure ()from
  fun a b n=>check_star_args _ _ _ _ _ _]
 exact wpAny_pure hq
theorem I6{e:Addr}{oe:Obj}{vs:Array Value}{a0 y:Value}{Q:Value→Shared→Prop}(hC:s.heap.get? 309=some scanO)(he:s.heap.get? e=some oe)(hcls:oe.cls= .ref 309)(hd:oe.data= .fields vs)(h0:vs[0]? =some a0)
 (hq:∀t,s.heap.get? t=none→Q .none {s with heap:=(s.heap.push {cls:= .type "tuple",data:= .seq #[y]}).update e (Obj.mapFields (·.setIfInBounds 0 (.ref t)))}):
 wpAny (model pw_nn0409_01 w) A (call (.builtin "Exception.__init__") [.ref e,y]) Q E s:=by
 refine wpAny_call (codeAny_call_builtin FE.init.plain FE.initEntry (H7 hC he hcls ?_))
 unfold Builtin.«BaseException.__init__»
 obtain⟨oc,od,oda,osl⟩:=oe
 simp only at hcls hd
 subst hcls hd
 wp_walk
 rw[h0]
 refine wpAny_pure (wpAny_bind ?_)
 have he':=Heap.get?_push_of_some {cls:= .type "tuple",data:= .seq #[y]} he
 refine wpAny_setField he' rfl (Array.getElem?_eq_some_iff.mp h0).1 ?_
 have fin:=hq s.heap.objs.size (gone _ (Nat.le_refl _))
 cases a0<;>first|exact wpAny_letGo (wpAny_pure fin)|exact wpAny_pure (wpAny_pure fin)
end
open Builtin Builtin.ObjectAttr
theorem dm(self:Value):refuseLoop self "__setattr__" (.ref 309::bmS)=pure ():=by
 unfold bmS
 rw[refuseLoop_ref,refuseLoop_ref]
 exact PySem.F.store_Exception.passes self
theorem Pf(P:Params):findIn (KT P) (.ref 309) ("what":Str)=some none:=by kernel_rfl
theorem Wd(P:Params):findIn (KT P) (.ref 309) ("at":Str)=some none:=by kernel_rfl
theorem Sr(P:Params):findIn (KT P) (.ref 309) ("__setattr__":Str)=some (some (.builtin "object.__setattr__")):=by kernel_rfl
section
variable{w:World}{A:Around}{E:Value→Shared→Prop}{h:Heap}{g:Array GenState}{d:Drawn}{t:Nat}{os:OsState}{x:Addr}{name:Str}{v:Value}
set_option tactic.hygienic true in
theorem PF{tk:Tok}{Q:PySem.Fin→Shared→Prop}{ns:List Str}{o:Obj}{mA:Str→Option Value}(X:(KT w.params).In h)(hf:findIn (KT w.params) (.ref 309) name=some none)
 (hx:h.get? x=some o)(hc:o.cls= .ref 309)(hnc:∀c,o.data≠ .cls c)
 (hd:(o.dict=none∧∀n,mA n=none)∨∃dx,o.dict=some dx∧dx≠x∧h.Ns1 dx mA)
 (h1:o.dict=none→∀h' tk',h'.get? x=some {o with dict:=some h.objs.size}→h'.Ns1 h.objs.size (fun y=>if y=name then some v else mA y)→(∀b ob,b≠x→h.get? b=some ob→h'.get? b=some ob)→Q (.done (.ret .none)) ⟨h',g,d,tk',os⟩)
 (h2:∀dx,o.dict=some dx→∀h' tk',h'.Ns1 dx (fun y=>if y=name then some v else mA y)→Heap.SameBut dx h h'→Q (.done (.ret .none)) ⟨h',g,d,tk',os⟩)
 (hw:PySem.Within mA ns)(hsz:ns.length≤100):
 wpAny (model pw_nn0409_01 w) A (Builtin.«object.__setattr__» ⟨[.ref x, .str name tk,v],[]⟩) Q E ⟨h,g,d,t,os⟩:=by
 have hC:h.get? 309=some (excClassObj BQ BQ 309 308 [.ref 284] bmS true [] [] false none none (some (.ref 300)) none (some (.str BQ 609)) (some (.str BQ 617)) (some (.bool true)) "Exception.__new__"):=X _ _ (Ol _)
 have hpass:=dm (.ref x)
 have hz:ns.length≤sizeLine:=Nat.le_trans hsz (by decide)
 have hL:Looks (model pw_nn0409_01 w) h (typeLookup (.ref 309) name) none:=looks_findIn X hf
 unfold Builtin.«object.__setattr__»
 repeat (first|rw[refuse_eq]|(rw[hpass])|(with_reducible refine wpAny_loadPart_at hx ?_;rw[hc])|with_reducible refine wpAny_mroOf_exc hC ?_|(with_reducible refine hL.here ?_)|wp_step)
 rcases hd with⟨hdn,hmA⟩|⟨dx,hdx,hne,hns⟩
 ·rw[hdn,if_neg (by simp[typeHasDict])]
  split
  ·rename_i hcd
   cases hcd
  split
  ·rename_i c hcd
   exact absurd hcd (hnc c)
  ·have hx₁:(h.push {cls:= .type "dict",data:= .dict #[]}).get? x=some o:=Heap.get?_push_of_some _ hx
   have hxs:x≠h.objs.size:=Nat.ne_of_lt (Heap.lt_size hx)
   refine wpAny_bind (wpAny_alloc' ?_)
   refine wpAny_bind (wpAny_update' hx₁ ?_)
   refine wpAny_pure ?_
   have hgd:((h.push {cls:= .type "dict",data:= .dict #[]}).update x fun o=>{cls:=o.cls,dict:=some h.objs.size,data:=o.data,slots:=o.slots}).get? h.objs.size
    =some {cls:= .type "dict",data:= .dict #[]}:=
    (Heap.get?_update_ne _ _ _ _ hxs.symm).trans (Heap.get?_push_at rfl rfl)
   have hnd:((h.push {cls:= .type "dict",data:= .dict #[]}).update x fun o=>{cls:=o.cls,dict:=some h.objs.size,data:=o.data,slots:=o.slots}).Ns h.objs.size (fun zz=>none):=
    ⟨_, #[],_,hgd,rfl,fun e he=>absurd he (by simp),fun zz=>rfl⟩
   show wpAny _ _ (storeInDict h.objs.size (.str name tk) name v) _ _ _
   unfold storeInDict newKeyGuard
   refine wpAny_bind (wpAny_pure (wpAny_bind (wpAny_nsSet1 (Heap.Ns1.of_empty hnd) fun h' hn' hs=> ?_)))
   refine hid fun Gg gg=> ?_
   obtain⟨oD,esD,epD,hoD,hdD,hcD⟩:=hn'.count (Within.cons name v Within.nil)
   refine gg ?_
   refine wpAny_bind (wpAny_lookBehind hoD (by rw[hdD];exact pastItsLine_dict (Nat.le_trans hcD (by rw[List.length_cons,List.length_nil,sizeLine_eq];decide))) ?_)
   wp_walk
   have hx':h'.get? x=some {cls:=o.cls,dict:=some h.objs.size,data:=o.data,slots:=o.slots}:= ?_
   refine h1 hdn h' _ hx' ?_ (fun b ob hbx hb=> ?_)
   ·refine hid fun Gg gg=> ?_
    obtain⟨o',es,ep,e1,e2,e3,eu,e4⟩:=hn'
    refine gg ?_
    exact⟨o',es,ep,e1,e2,e3,eu,fun y=>by rw[e4 y];by_cases hy:y=name<;>simp[hy,hmA]⟩
   ·exact(hs.2 b (Nat.ne_of_lt (Heap.lt_size hb))).trans ((Heap.get?_update_ne _ _ _ _ hbx).trans (Heap.get?_push_of_some _ hb))
   ·refine(hs.2 x hxs).trans (Heap.get?_update_self _ hx₁ ?_)
    have hfr:=(Heap.get?_some_iff.mp hx).2
    clear h1 h2 hx₁ hx hc hnc hdn
    obtain⟨oc,od,odt,osl⟩:=o
    cases odt<;>first|rfl|exact hfr
 ·rw[hdx]
  refine wpAny_pure ?_
  show wpAny _ _ (storeInDict dx (.str name tk) name v) _ _ _
  unfold storeInDict newKeyGuard
  refine wpAny_bind (wpAny_pure (wpAny_bind (wpAny_nsSet1 hns fun h' hn' hs=> ?_)))
  refine hid fun Gg gg=> ?_
  obtain⟨oD,esD,epD,hoD,hdD,hcD⟩:=hn'.count (Within.cons name v hw)
  refine gg ?_
  refine wpAny_bind (wpAny_lookBehind hoD (by rw[hdD];exact pastItsLine_dict (Nat.le_trans hcD (by rw[List.length_cons,sizeLine_eq];exact(l10 (Hb W0 Yc (Gb (.a W0 Y1) (.a (.n 16777216) Y1))) rfl hsz)))) ?_)
  wp_walk
  exact h2 dx hdx h' _ hn' hs
theorem WF(P:Params):subIn (KT P) (.ref 309) (.type "object")=some true:=by kernel_rfl
theorem QO{Q:Unit→Shared→Prop}{ns:List Str}{o:Obj}{mA:Str→Option Value}(X:(KT w.params).In h)(hf:findIn (KT w.params) (.ref 309) name=some none)
 (hx:h.get? x=some o)(hc:o.cls= .ref 309)(hnc:∀c,o.data≠ .cls c)
 (hd:(o.dict=none∧∀n,mA n=none)∨∃dx,o.dict=some dx∧dx≠x∧h.Ns1 dx mA)
 (h1:o.dict=none→∀h' tk',h'.get? x=some {o with dict:=some h.objs.size}→h'.Ns1 h.objs.size (fun y=>if y=name then some v else mA y)→(∀b ob,b≠x→h.get? b=some ob→h'.get? b=some ob)→Q () ⟨h',g,d,tk',os⟩)
 (h2:∀dx,o.dict=some dx→∀h' tk',h'.Ns1 dx (fun y=>if y=name then some v else mA y)→Heap.SameBut dx h h'→Q () ⟨h',g,d,tk',os⟩)
 (hw:PySem.Within mA ns)(hsz:ns.length≤100):
 wpAny (model pw_nn0409_01 w) A (setAttr (.ref x) name v) Q E ⟨h,g,d,t,os⟩:=by
 have SF:=PySem.F.store_object
 have hno:notCls o=true:=by
  cases q:o.data<;>first|(exact absurd q (hnc _))|(unfold notCls;rw[q])
 have I:∃od,W.InstAt h x o 309 od:=by
  rcases hd with⟨hdn,_⟩|⟨dx,hdx,_,hns⟩
  ·exact⟨none,hx,hc,hno,by rw[hdn];trivial⟩
  ·obtain⟨oD,es,ep,e1,_⟩:=hns
   exact⟨some oD,hx,hc,hno,by rw[hdx];exact e1⟩
 obtain⟨od,I⟩:=I
 refine set_plain (s:=⟨h,g,d,t,os⟩) X I (Sr _) ?_
 have sub:Looks (model pw_nn0409_01 w) h (isInstance (.ref x) (.type "object")) true:=I.type.andThen (looks_subIn X (WF _))
 refine codeAny_call_builtin SF.slot.plain SF.entry (@check_slot (model pw_nn0409_01 w) _ _ ⟨h,g,d,t+1,os⟩ "object.__setattr__" "object" "__setattr__" (.ref x) [.str name t,v] [] _ SF.kind SF.split sub (SF.args (.ref x) (.str name t) v) ?_)
 exact PF X hf hx hc hnc hd (fun e h' tk' a b c=>h1 e h' tk' a b c) (fun dx e h' tk' a b=>h2 dx e h' tk' a b) hw hsz
end
end
section
structure Ef(oe:Obj):Prop where
 cls:oe.cls= .ref 309
 dat:∃vs a0,oe.data= .fields vs∧vs[0]? =some a0∧vs[1]? =some .none
section
variable{b:Bc}{A:Around}{M M':Mp}{s s':Shared}{ρ:Rho}{L:LH}{y:Value}{a dx:Addr}{oe od:Obj}{i j:Nat}{v1 v2:V}{name:Str}
theorem Go.kn(ne:b.env.locals≠a){h h':Heap}(k:∀c o,c≠a→h.get? c=some o→h'.get? c=some o):∀mm,h.Ns b.env.locals mm→h'.Ns b.env.locals mm:=fun mm ⟨o,es,ep,ho,hr⟩=>⟨o,es,ep,k _ _ ne ho,hr⟩
theorem Sx.raw(st:Sx b A M' ρ L s)(l:MLe M M')(e:L[i]? =some (.raw oe))(ha:M.φ[i]? =some a):M'.φ[i]? =some a∧M'.P a=none∧s.heap.get? a=some oe∧b.env.locals≠a:=by
 refine hid fun Gg gg=> ?_
 obtain⟨a',o,e1,p,e2,q⟩:=st.look e (by intro xx;contradiction)
 cases e1.symm.trans (l.φ _ _ ha)
 obtain⟨rfl,_⟩:=q
 refine gg ?_
 exact⟨e1,p,e2,fun q=>st.loc.2 (q▸List.mem_of_getElem? e1)⟩
theorem Lb{Q:V→LH→Prop}(e:L[i]? =some (.raw oe))(o:Ef oe)(hd:oe.dict=none)(ha:M.φ[i]? =some a)(q:∀oe',Ef oe'→oe'.dict=none→Q vn (L.set i (.raw oe'))):
 SV b M ρ L (call (.builtin "Exception.__init__") [.ref a,y]) Q:=fun A M₁ s E l am st ex=>by
 refine hid fun Gg gg=> ?_
 obtain⟨vs,a0,d,h0,h1⟩:=o.dat
 obtain⟨e1,p,e2,ne⟩:=st.raw l e ha
 refine gg ?_
 refine I6 (st.hP _ _ (st.kP (Ol _))) e2 o.cls d h0 fun t ht=> ?_
 have k0:∀c o,c≠a→s.heap.get? c=some o→((s.heap.push {cls:= .type "tuple",data:= .seq #[y]}).update a (Obj.mapFields (·.setIfInBounds 0 (.ref t)))).get? c=some o:=fun c o nb eb=>
  (Heap.get?_update_ne _ _ _ _ nb).trans (Heap.get?_push_of_some _ eb)
 have hd2:=Obj.data_mapFields d (·.setIfInBounds 0 (Value.ref t))
 have hg:=Heap.get?_update_self (Obj.mapFields (·.setIfInBounds 0 (.ref t))) (Heap.get?_push_of_some {cls:= .type "tuple",data:= .seq #[y]} e2) (Obj.isFreed_of_fields hd2)
 have hdn:(oe.mapFields (·.setIfInBounds 0 (.ref t))).dict=oe.dict:=by
  refine hid fun Gg gg=> ?_
  obtain⟨a,b,c,d⟩:=oe
  refine gg ?_
  simp only at d;subst d;rfl
 have up:=st.upd (s':={s with heap:=(s.heap.push {cls:= .type "tuple",data:= .seq #[y]}).update a (Obj.mapFields (·.setIfInBounds 0 (.ref t)))}) (x:= .raw (oe.mapFields (·.setIfInBounds 0 (.ref t)))) e1 p (fun c o n zz=>k0 c o n) (Go.kn ne k0) hg ⟨rfl,fun zz=> .inl ((Obj.cls_mapFields _ _).trans o.cls)⟩ rfl rfl
 exact .mk (x:=vn) up.2 up.1 rfl (q _ ⟨(Obj.cls_mapFields _ _).trans o.cls,_, .ref t,hd2,by simp[(Array.getElem?_eq_some_iff.mp h0).1],by simpa using h1⟩ (hdn.trans hd))
theorem Ef.nc(o:Ef oe):∀c,oe.data≠ .cls c:=fun c q=>by obtain⟨vs,a0,d,_⟩:=o.dat;rw[q]at d;cases d
noncomputable def cY(a:Addr)(n:Nat)(name:Str)(M:Mp)(z:Obj×Obj)(_:Unit):Prop:=∃y dx,z.1.dict=some dx∧M.φ[n]? =some dx∧dx≠a∧∀h:Heap,h.get? dx=some z.2→h.Ns1 dx fun n=>if n=name then some y else none
theorem TS{Q:Obj×Obj→LH→Prop}(e:L[i]? =some (.raw oe))(o:Ef oe)(hd:oe.dict=none)(ha:M.φ[i]? =some a)(hf:findIn (KT b.w.params) (.ref 309) name=some none)(q:∀z,Ef z.1→Q z (L.set i (.raw z.1)++[.raw z.2])):
 JE b M ρ L (setAttr (.ref a) name y) (cY a L.length name) Q:=fun A M₁ s E l am st ex=>by
 refine hid fun Gg gg=> ?_
 obtain⟨e1,p,e2,ne⟩:=st.raw l e ha
 obtain⟨hh,g,d,t,os'⟩:=s
 refine gg ?_
 refine QO (mA:=fun zz=>none) st.kIn hf e2 o.cls o.nc (.inl ⟨hd,fun zz=>rfl⟩) (fun e0 h' tk' hx' hn' keep=> ?_) (fun dx e0=>by rw[hd]at e0;exact nos e0) Within.nil (Nat.zero_le _)
 have up:=st.upd (s':=⟨h',g,d,tk',os'⟩) (x:= .raw {oe with dict:=some hh.objs.size}) e1 p (fun c o n zz=>keep c o n) (Go.kn ne keep) hx' ⟨rfl,fun zz=> .inl o.cls⟩ rfl rfl
 have gn:=Internal.gone hh (Nat.le_refl _)
 have fr:=st.fresh gn
 refine hid fun Gg gg=> ?_
 obtain⟨od,es,ep,ho,r1⟩:=id hn'
 refine gg ?_
 have st2:=up.1.addL (x:= .raw od) fr.1 fr.2 (st.notIn gn) ho ⟨rfl,fun⟨vs,q⟩=>by rw[r1.1]at q;cases q⟩
 refine .mk (x:=({oe with dict:=some hh.objs.size},od)) ⟨MLe.snoc _ _,fun c o e h=> ?_,up.2.keep⟩ st2 ⟨y,hh.objs.size,rfl, ?_,fun q=> ?_,fun h eh=>⟨od,es,ep,eh,r1⟩⟩ (q _ ⟨o.cls,o.dat⟩)
 ·refine h.elim (fun h=>(List.mem_append.mp h).elim (fun h=> .inr (.inr h)) fun h=> ?_) fun h=>absurd h.1 h.2
  rw[List.mem_singleton.mp h]at e
  exact nos (gn.symm.trans e)
 ·rw[st.len];exact List.getElem?_concat_length ..
 ·rw[q]at gn;exact nos (gn.symm.trans e2)
theorem TQ{Q:LH→Prop}{ns:List Str}{mA:Str→Option Value}(e:L[i]? =some (.raw oe))(o:Ef oe)(hd:oe.dict=some dx)(ha:M.φ[i]? =some a)(ej:L[j]? =some (.raw od))(hx:M.φ[j]? =some dx)(ne:dx≠a)
 (hn:∀h:Heap,h.get? dx=some od→h.Ns1 dx mA)(hw:PySem.Within mA ns)(hz:ns.length≤100)(hf:findIn (KT b.w.params) (.ref 309) name=some none)(q:∀od',Q (L.set j (.raw od'))):JU b M ρ L (setAttr (.ref a) name y) Q:=fun A M₁ s E l am st ex=>by
 refine hid fun Gg gg=> ?_
 obtain⟨e1,p,e2,_⟩:=st.raw l e ha
 obtain⟨f1,p2,f2,nl⟩:=st.raw l ej hx
 obtain⟨hh,g,d,t,os'⟩:=s
 refine gg ?_
 refine QO st.kIn hf e2 o.cls o.nc (.inr ⟨dx,hd,ne,hn hh f2⟩) (fun e0=>by rw[hd]at e0;exact nos e0.symm) (fun dx' e0 h' tk' hn' hs=> ?_) hw hz
 cases hd.symm.trans e0
 refine hid fun Gg gg=> ?_
 obtain⟨od',es,ep,ho,r1⟩:=id hn'
 refine gg ?_
 have k:∀c o,c≠dx→hh.get? c=some o→h'.get? c=some o:=fun c o nb eb=>(hs.2 c nb).trans eb
 have up:=st.upd (s':=⟨h',g,d,tk',os'⟩) (x:= .raw od') f1 p2 (fun c o n zz=>k c o n) (Go.kn nl k) ho ⟨rfl,fun⟨vs,q⟩=>by rw[r1.1]at q;cases q⟩ rfl rfl
 exact .mk (x:=()) up.2 up.1 trivial (q _)
theorem Pl:UO b M ρ L (.type "Exception") ("__init__":Str) (.builtin "Exception.__init__") []:=fun A M₁ s pl Q E l st h=>by
 unfold getMethod
 rw[Yx]
 refine wpAny_bind (wpAny_pure ?_)
 dsimp only
 rw[if_pos canon_tga]
 refine wpAny_bind (cls_open (K:=[]) (hook:=none) (fun b o e=>by cases e) (Looks.of_pure We) (Looks.of_pure Vw) TW (Looks.of_pure TV) SO Tf ?_)
 refine wpAny_pure ?_
 exact handed_on rfl (wpAny_pure (h _))
end
end
section
noncomputable def WJ:Stmt:= .Expr (.Call (.Attribute (.Name ("Exception":Str) ⟨181,8,181,17⟩) ("__init__":Str) ⟨181,8,181,26⟩) [(.Name ("self":Str) ⟨181,27,181,31⟩),(.Name ("what":Str) ⟨181,33,181,37⟩)] [] ⟨181,8,181,38⟩) ⟨181,8,181,38⟩
noncomputable def QL:Stmt:= .Assign [(.Attribute (.Name ("self":Str) ⟨182,8,182,12⟩) ("what":Str) ⟨182,8,182,17⟩)] (.Name ("what":Str) ⟨182,20,182,24⟩) ⟨182,8,182,24⟩
noncomputable def ME:Stmt:= .Assign [(.Attribute (.Name ("self":Str) ⟨183,8,183,12⟩) ("at":Str) ⟨183,8,183,15⟩)] (.Name ("at":Str) ⟨183,18,183,20⟩) ⟨183,8,183,20⟩
theorem Tu:BH (inS 23 0)=[WJ,QL,ME]:=by kernel_rfl
theorem Px(P:Params):(nsIn (KT P) 3 ("Exception":Str)==some none&&nsIn (KT P) 0 ("Exception":Str)==some (some (.type "Exception")))=true:=by kernel_rfl
theorem Za:(AZ (inS 23 0)).names.lookup ("Exception":Str)=some .globalImplicit:=by kernel_rfl
section
variable{b:Bc}{A:Around}{M M':Mp}{s s':Shared}{ρ:Rho}{L:LH}{y:Value}{a dx:Addr}{oe od:Obj}{i j:Nat}{v v1 v2:V}{name zs:Str}
theorem QX{β:Type}{rel:Mp→β→Unit→Prop}{Q:β→LH→Prop}{p1 p2 p3 p4:Pos}(hm:∀{M M' x},MLe M M'→rel M x ()→rel M' x ())(h1:AW ρ (cd ("self":Str))=some (.ref i))(ha:M.φ[i]? =some a)(h2:AW ρ (cd zs)=some v)
 (ok:(okS zs&&(!(zs==("__debug__":Str))&& !(zs==("__classdict__":Str))))=true)(h:∀M' y,MLe M M'→JE b M' ρ L (setAttr (.ref a) name y) rel Q):
 JE b M ρ L (exec (.Assign [.Attribute (.Name ("self":Str) p1) name p2] (.Name zs p3) p4) b.env) (fun M' x f=>f=Flow.next∧rel M' x ()) Q:=by
 obtain⟨o1,o2⟩:=an ok
 obtain⟨o2,o3⟩:=an o2
 rw[Bool.not_eq_true']at o2 o3
 have hsw:swapsWithSole [.Attribute (.Name ("self":Str) p1) name p2] (.Name zs p3) p4.line b.env=pure false:=by
  show swapsWith (.Name zs p3) (some (.Attribute (.Name ("self":Str) p1) name p2)) p4.line b.env=_
  exact Mc rfl
 rw[arm_exec_Assign,hsw]
 refine JE.stand ?_
 show JE _ _ _ _ (do
  let v←eval (.Name zs p3) b.env
  assignStores b.env v (←swappedStores [.Attribute (.Name ("self":Str) p1) name p2] (.Name zs p3) b.env) ((assignEach [.Attribute (.Name ("self":Str) p1) name p2] b.env).map (·.2))) _ _
 rw[Fj rfl,Ku (e:= .Name zs p3) rfl]
 refine JE.bind (Ew (Q:=fun v L'=>L'=L) o1 h2 rfl o2 o3) fun M1 y v L1 l1 vy e=> ?_
 subst e
 rw[pure_bind]
 show JE _ _ _ _ (assign (.Attribute (.Name ("self":Str) p1) name p2) b.env y>>=fun zz=>(pure Flow.next:Sem Flow)) _ _
 rw[arm_assign_Attribute]
 refine JE.bind (rel:=rel) (Qe:=Q) ?_ fun M2 zz x L2 l2 r q=>JE.pure (x:=x) (fun M3 l3=>⟨rfl,hm l3 r⟩) q
 refine JE.bind (JE.holding (Ew (Q:=fun v L'=>v= .ref i∧L'=L1) (by kernel_rfl) h1 ⟨rfl,rfl⟩ (by kernel_rfl) (by kernel_rfl))) fun M2 x v L2 l2 vx q=> ?_
 obtain⟨rfl,rfl⟩:=q
 obtain⟨a',e1,rfl⟩:=vx
 cases e1.symm.trans ((l1.trans l2).φ _ _ ha)
 refine JE.stand (JE.bind (JE.holding (h M2 y (l1.trans l2))) fun M3 zz x L3 l3 r q=> ?_)
 exact JE.still x (fun A M₁ s m Q' E l lf k=>wpAny_release (k () s.toks s.heap (.refl _ _) (hm l r))) q
theorem Yv(hs:b.env.scope=AZ (inS 23 0))(h1:AW ρ (cd ("self":Str))=some (.ref i))(h2:AW ρ (cd ("what":Str))=some v1)(h3:AW ρ (cd ("at":Str))=some v2)(e:L[i]? =some (.raw oe))(o:Ef oe)(hd:oe.dict=none)(ha:M.φ[i]? =some a):
 SS b M ρ L (BH (inS 23 0)) fun fl zz L'=>fl= .next∧∃oe',L'[i]? =some (.raw oe')∧Ef oe':=by
 have hi:=(List.getElem?_eq_some_iff.mp e).1
 have star:∀e∈[Expr.Name ("self":Str) ⟨181,27,181,31⟩, .Name ("what":Str) ⟨181,33,181,37⟩],∀a p,e≠ .Starred a p:=fun e he a p=>by
  rcases List.mem_cons.mp he with rfl|he
  ·nofun
  ·rw[List.mem_singleton.mp he];nofun
 rw[Tu]
 refine Mh (Q1:=fun ρ' L'=>ρ'=ρ∧∃oe1,L'=L.set i (.raw oe1)∧Ef oe1∧oe1.dict=none) (QP (Md rfl) ?_) fun M1 ρ1 L1 l1 ⟨er,oe1,eL,o1,d1⟩=> ?_
 ·show JE _ _ _ _ (eval (.Call (.Attribute (.Name ("Exception":Str) ⟨181,8,181,17⟩) ("__init__":Str) ⟨181,8,181,26⟩) [.Name ("self":Str) ⟨181,27,181,31⟩, .Name ("what":Str) ⟨181,33,181,37⟩] [] ⟨181,8,181,38⟩) b.env) _ _
  rw[arm_eval_Call,Jo rfl]
  obtain⟨x1,x2⟩:=an (Px b.w.params)
  refine JE.bind (GS (rel:=fun _ (_:Unit) y=>y= .type "Exception") (Q:=fun zz L'=>L'=L) (v:=()) (by unfold Env.kindOf;rw[hs];exact Za) (.inr ⟨eq_of_beq x1,eq_of_beq x2⟩) (fun zz zz=>rfl) rfl (by kernel_rfl)) fun M1 x v L1 l1 vx q=>JE.stand ?_
  subst vx q
  unfold methodCall
  rw[My star (by decide)]
  refine JE.bind (rel:=fun _ (_:Unit) p=>p=(.builtin "Exception.__init__",[])) (Qe:=fun zz L'=>L'=L1) (JE.holding (JE.still () (fun A M₁ s m Q' E l lf z=> ?_) rfl)) fun M3 r zz L3 l3 hr e'=> ?_
  ·exact Pl A M₁ s _ _ _ l lf.st fun tk=>z _ tk s.heap (.refl _ _) rfl
  ·subst e' hr
   dsimp only
   rw[show methodCallPos true (.Name ("Exception":Str) ⟨181,8,181,17⟩) b.env ⟨181,8,181,26⟩ ⟨181,8,181,38⟩=pure ⟨181,8,181,38⟩from rfl,pure_bind]
   refine BY (Q1:=fun vl L'=>(∃u,vl=[.ref i,u])∧L'=L3) star EY (Ey (Q1:=fun v L'=>v= .ref i∧L'=L3) rfl (Ew (by kernel_rfl) h1 ⟨rfl,rfl⟩ (by kernel_rfl) (by kernel_rfl)) fun M4 u L4 l4 q=> ?_) fun M6 vl xs L6 l6 hx q=> ?_
   ·obtain⟨rfl,rfl⟩:=q
    exact Ey (Q1:=fun v L'=>L'=L4) rfl (Ew (by kernel_rfl) h2 rfl (by kernel_rfl) (by kernel_rfl)) fun M5 u' L5 l5 q'=>MH ⟨⟨_,rfl⟩,q'⟩
   ·refine hid fun Gg gg=> ?_
    obtain⟨⟨u,rfl⟩,rfl⟩:=q
    obtain⟨x1,_,rfl,hx1,hr⟩:=Bm hx
    obtain⟨x2,_,rfl,_,hr⟩:=Bm hr
    cases hr
    obtain⟨a',e1,rfl⟩:=hx1
    have ha6:=l6.φ _ _ (l3.φ _ _ (l1.φ _ _ ha))
    cases e1.symm.trans ha6
    refine gg ?_
    exact Lb e o hd ha6 fun oe' o' d'=>⟨rfl,oe',rfl,o',d'⟩
 ·subst er eL
  have e1:(L.set i (.raw oe1))[i]? =some (.raw oe1):=List.getElem?_set_self hi
  show J _ _ _ _ (execs [QL,ME] b.env) _ _
  rw[arm_execs_cons]
  refine J.bind (rel:=fun M' z f=>f=Flow.next∧cY a (L.set i (.raw oe1)).length "what" M' z ()) (Q:=fun(z:Obj×Obj) ρ' L'=>ρ'=ρ1∧L'=(L.set i (.raw oe1)).set i (.raw z.1)++[.raw z.2]∧Ef z.1) ((QX (zs:="what") (name:="what") (fun l ⟨y,dx,f1,f2,f3,f4⟩=>⟨y,dx,f1,l.φ _ _ f2,f3,f4⟩) h1 (l1.φ _ _ ha) h2 (by kernel_rfl) fun M' y l=>TS e1 o1 d1 (l.φ _ _ (l1.φ _ _ ha)) (Pf _) fun z oz=>⟨rfl,oz⟩).toJ fun z L' q=>⟨rfl,q⟩) fun M2 f z ρ2 L2 l2 ⟨ef,y,dx,f1,f2,f3,f4⟩ ⟨er,eL,o2⟩=> ?_
  subst ef er
  have hl:(L.set i (.raw oe1)).length=((L.set i (.raw oe1)).set i (.raw z.1)).length:=List.length_set.symm
  have e2:L2[i]? =some (.raw z.1):=by rw[eL,List.getElem?_append_left (by rw[List.length_set,List.length_set];exact hi)];exact List.getElem?_set_self (by rw[List.length_set];exact hi)
  have e3:L2[(L.set i (.raw oe1)).length]? =some (.raw z.2):=by rw[eL,hl];exact List.getElem?_concat_length ..
  have ha2:=l2.φ _ _ (l1.φ _ _ ha)
  show J _ _ _ _ (execs [ME] b.env) _ _
  rw[arm_execs_cons]
  refine J.bind (rel:=fun _ (_:Unit) f=>f=Flow.next∧True) (Q:=fun(_:Unit) ρ' L'=>∃od',L'=L2.set (L.set i (.raw oe1)).length (.raw od')) ((QX (rel:=fun _ (_:Unit) _=>True) (zs:="at") (name:="at") (fun zz q=>q) h1 ha2 h3 (by kernel_rfl) fun M' y l=>TQ e2 o2 f1 (l.φ _ _ ha2) e3 (l.φ _ _ f2) f3 f4 (Within.cons _ _ Within.nil) (by decide) (Wd _) fun od'=>⟨od',rfl⟩).toJ fun z L' q=>q) fun M3 f _ ρ3 L3 l3 ⟨ef,_⟩ ⟨od',eL3⟩=> ?_
  subst ef eL3
  exact QM ⟨rfl,z.1,by rw[List.getElem?_set_ne (by rw[List.length_set];exact Nat.ne_of_gt hi)];exact e2,o2⟩
end
end
section
noncomputable def shp(P:Params)(a:Addr):Option (FuncBody×Scope×List Str×Bool×Bool):=(II P a).map fun fd=>(fd.body,fd.scope,Dj fd,J6 fd (Dj fd),JH P fd)
theorem Jp{w:World}{a:Addr}{l:List Stmt}{sc:Scope}{ps:List Str}(h:shp w.params a=some (.stmts l,sc,ps,true,true))(hb:∀P S f,NQ P S f a=NR P f a):
 ∃fd,II w.params a=some fd∧EF (KTp w) a fd l ps∧fd.scope=sc∧∀xs:List Value,xs.length=ps.length→∀(A:Around) (Q:List (Str×Value)→Shared→Prop) E (s:Shared),(∀a o,KTp w a=some o→s.heap.get? a=some o)→Q (ps.zip xs) s→wpAny (model pw_nn0409_01 w) A (bindArgs fd ⟨xs,[]⟩) Q E s:=by
 refine hid fun Gg gg=> ?_
 obtain⟨fd,e,h⟩:=Option.map_eq_some_iff.mp h
 rw[Prod.mk.injEq,Prod.mk.injEq,Prod.mk.injEq,Prod.mk.injEq]at h
 obtain⟨h1,h2,h3,h5,h6⟩:=h
 refine gg ?_
 have F:=M0 e h1 h5 h6
 rw[h3]at F
 refine⟨fd,e,F,h2,fun xs hx A Q E s hP q=>NG e (hb _) xs ?_ ?_ A Q E s hP ?_⟩
 ·rw[h3,hx];exact Nat.le_refl _
 ·rw[h3,hx];exact Nat.le_add_right _ _
 ·rw[h3,hx,Nat.add_sub_cancel_left,List.drop_length,List.append_nil];exact q
theorem WS(P:Params):shp P 274=some (.stmts (BH (inS 23 0)),AZ (inS 23 0),[("self":Str),("what":Str),("at":Str)],true,true):=by kernel_rfl
theorem XJ(P:Params)(S:Setting)(f:Nat→Value):NQ P S f 274=NR P f 274:=by kernel_rfl
theorem IZ(P:Params):(nsIn (KT P) 3 ("ScanError":Str)==some (some (.ref 309))&&keepIn (KT P) (.ref 309))=true:=by kernel_rfl
theorem Ik{A:Around}{base h:Heap}(hb:∀L,Bl A L→base.get? L=none∧∃o,h.get? L=some o∧∀vs,o.data≠ .fields vs){l0:List Env}(e0:A.frames=some l0):
 ∀{l:List Env},(∀e∈l,e∈l0)→(∀e∈l,e.scope.kind≠ .module∧∃L,e.frame=some L)→h.FunFrames base l
 |[],_,_=>trivial
 |e::r,hi,ho=>by
  obtain⟨h1,L,h2⟩:=ho e List.mem_cons_self
  obtain⟨b1,o,b2,b3⟩:=hb L ⟨l0,e,e0,hi e List.mem_cons_self,h2⟩
  exact⟨h1,⟨L,o,h2,b1,b2,b3⟩,Ik hb e0 (fun e he=>hi e (List.mem_cons_of_mem _ he)) fun e he=>ho e (List.mem_cons_of_mem _ he)⟩
section
variable{b:Bc}{A:Around}{M M':Mp}{s s':Shared}{ρ:Rho}{L:LH}{a:Addr}{v1 v2:V}{x y:Value}{n:Nat}{E:Value→Shared→Prop}
theorem S3(hn:2≤b.n)(hv:VRs b.w M [v1,v2] [x,y]):SV b M ρ L (call (.ref 309) [x,y]) fun v L'=>∃i oe,v= .ref i∧L'[i]? =some (.raw oe)∧Ef oe:=fun A M₁ s E l am st ex=>by
 refine hid fun Gg gg=> ?_
 obtain⟨n,hn⟩:∃n,b.n=n+2:=⟨b.n-2,by exact l20 (Hd (.a W0 Y2) X1 (Gf X1 (.a W0 Y2))) rfl (Nat.sub_add_cancel hn)⟩
 obtain⟨hh,g,d,t,os'⟩:=s
 refine gg ?_
 refine Tt st.kIn (fun h' e hm=> ?_) (by size_fits)
 refine hid fun Gg gg=> ?_
 obtain⟨t0,ht1,ht2,ht3⟩:=hm.there
 have fr:=st.fresh hm.new
 have st2:=(st.keepL (s':=⟨h',g,d,t,os'⟩) (DE.of hm.keeps) rfl rfl).1.addL (x:= .raw _) fr.1 fr.2 (st.notIn hm.new) ht1 ⟨rfl,fun zz=> .inl rfl⟩
 have le:=MLe.snoc M₁ e
 have he:(M₁.φ++[e])[L.length]? =some e:=by rw[st.len];exact List.getElem?_concat_length ..
 obtain⟨fd,_,F,hsc,hb⟩:=Jp (WS b.w.params) XJ
 refine gg ?_
 have hP:=fun a o e=>st.kP (a:=a) (o:=o) e
 have off:∀c o,hh.get? c=some o→c∈M₁.φ++[e]→c∈M₁.φ:=fun c o ec q=>(List.mem_append.mp q).elim id fun q=>by rw[List.mem_singleton.mp q]at ec;exact nos (hm.new.symm.trans ec)
 have ar:Ar (A.under (.builtin "type.__call__" ⟨[.ref 309,x,y],[]⟩)) (n+1):=Ar.make (am.ar.le (by exact l20 (Hd W0 (.a X1 Y2) (Gb (.a (.a X1 Y1) Y1) W0)) rfl hn))
 refine wpAny_call (RC (M:=⟨M₁.P,M₁.φ++[e]⟩) (X:=b.X) (F.mono hP) st2.sy.under ar (vl:=[.ref L.length,v1,v2]) (xs':=[.ref e,x,y]) ⟨⟨e,he,rfl⟩,VRs.mono (l.trans le) _ hv⟩ (fun A Q E s hs q=>hb _ rfl A Q E s (fun a o e=>hs a o (hP a o e)) q) (Q:=fun v L'=>v=vn∧∃oe',L'[L.length]? =some (.raw oe')∧Ef oe')
  (fun env' hs=>(Yv (i:=L.length) (v1:=v1) (v2:=v2) (a:=e) (hs.trans hsc) (by kernel_rfl) (by kernel_rfl) (by kernel_rfl) (by rw[List.getElem?_append_right (Nat.le_refl _),Nat.sub_self];rfl) ⟨rfl,_,_,rfl,rfl,rfl⟩ rfl he).mono fun fl ρ' L' q=> ?_)
  (fun hX e' s' oe=>EOk.call (M₀:=⟨M₁.P,M₁.φ++[e]⟩) st ex (.inr hm.keeps) (fun c o ec q=>⟨q.1,off c o ec q.2⟩) hX ⟨oe.keep,oe.gens,oe.os,oe.fly⟩) fun v y' s' M' L' hz hvy q=> ?_)
 ·obtain⟨rfl,q⟩:=q
  exact⟨rfl,q⟩
 ·refine hid fun Gg gg=> ?_
  obtain⟨rfl,oe',e1,o'⟩:=q
  cases hvy
  obtain⟨_,og,sy,rfl⟩:=hz L' (fun M''=>M''=M') fun b' A' ρ' e st'=> .mk (.refl _) st' rfl
  refine gg ?_
  have ht:M₁.take L.length=M₁:=by unfold Mp.take;rw[List.take_of_length_le (by rw[st.len];exact Nat.le_refl _)]
  have r:=st.back (k:=L.length) (by rw[ht];exact⟨le.trans og.le,fun c o n ec=>og.keep c o (fun q=>n ⟨q.1,off c o ec q.2⟩) (hm.keeps _ _ ec),fun c o ec n=>og.new c o (hm.keeps _ _ ec) fun q=>n (off c o ec q)⟩) sy.over (.inl (List.drop_length ..))
  exact⟨rfl, .mk (x:= .ref L.length) r.2.1 r.1 ⟨e,r.2.2.φ _ _ (og.le.φ _ _ he),rfl⟩ ⟨_,oe',rfl,by rw[List.drop_length,List.append_nil];exact e1,o'⟩⟩
theorem KM{outer:List Env}{i:Nat}{oe:Obj}{L':LH}{ρ':Rho}(g:Go b A M s M' s')(st:Sx b A M' ρ' L' s')(am:Amb b A)(hfr:A.frames=some (b.env::outer))(e:L'[i]? =some (.raw oe))(o:Ef oe)(ha:M'.φ[i]? =some a):FN b A M s (.ref a) s'.heap:=by
 refine hid fun Gg gg=> ?_
 obtain⟨e1,p,e2,ne⟩:=st.raw (.refl _) e ha
 obtain⟨l0,hl0,hout⟩:=am.frs
 cases hfr.symm.trans hl0
 obtain⟨hc,vs,a0,d,h0,h1⟩:=o
 refine gg ?_
 refine .mk (base:=hideAll s'.heap (a::(b.env::outer).filterMap (·.frame))) hfr (.inr (.inr ⟨fun c o q=>of_hideAll _ q,hideAll_none _ List.mem_cons_self, ?_,_,vs,e2,hc,d,h0,h1⟩)) fun c o n f ec=> ?_
 ·refine Ik (fun F f=>⟨?_, ?_⟩) hfr (fun zz h=>h) hout
  ·refine hid fun Gg gg=> ?_
   obtain⟨l,e',f1,f2,f3⟩:=f
   cases hfr.symm.trans f1
   refine gg ?_
   exact hideAll_none _ (List.mem_cons_of_mem _ (List.mem_filterMap.mpr ⟨e',f2,f3⟩))
  ·refine hid fun Gg gg=> ?_
   obtain⟨_,_,o,es,n,f1,f2⟩:=st.fr F f
   refine gg ?_
   exact⟨o,f1,fun vs q=>by rw[f2]at q;cases q⟩
 ·refine hideAll_get _ ((g.keep c o n ec).exact f) fun q=> ?_
  rcases List.mem_cons.mp q with rfl|q
  ·refine n ⟨?_,g.new _ o ec (.inl (List.mem_of_getElem? e1))⟩
   cases q:M.P c with
   |none=>rfl
   |some o'=>exact nos (p.symm.trans (g.le.P _ _ q))
  ·refine hid fun Gg gg=> ?_
   obtain⟨e',f1,f2⟩:=List.mem_filterMap.mp q
   refine gg ?_
   exact f ⟨_,e',hfr,f1,f2⟩
theorem Lg{Q:Flow→Shared→Prop}{t:Sem Value}(hh:A.handled=none)
 (h:wpAny (model pw_nn0409_01 b.w) A t (fun v s₁=>∃e oe,v= .ref e∧s₁.heap.get? 309=some scanO∧s₁.heap.get? e=some oe∧Ef oe∧E (.ref e) s₁) E s):
 wpAny (model pw_nn0409_01 b.w) A (raiseStmt b.env (some t) none) Q E s:=by
 have hcB:(Value.ref 309::bmS).contains (.type "BaseException")=true:=by decide+kernel
 unfold raiseStmt
 refine wpAny_bind (wpAny_mono h (fun v s₁ h₁=> ?_) fun zz zz x=>x)
 refine hid fun Gg gg=> ?_
 obtain⟨e,oe,rfl,hC,he,⟨hc,vs,a0,hd,h0,h1⟩,hE⟩:=h₁
 obtain⟨hp,g,d,tk,os⟩:=s₁
 have hC':hp.get? 309=some (excClassObj BQ BQ 309 308 [.ref 284] bmS true [] [] false none none (some (.ref 300)) none (some (.str BQ 609)) (some (.str BQ 617)) (some (.bool true)) "Exception.__new__"):=hC
 obtain⟨oc,od,oda,osl⟩:=oe
 refine gg ?_
 simp only at hc hd
 subst hc hd
 repeat (first|with_reducible refine wpAny_loadPart_at he ?_|with_reducible refine wpAny_loadPart_at hC' ?_|(with_reducible refine wpAny_isSubtype_exc hC' ?_;rw[hcB])|wp_step)
 rw[h1]
 repeat (first|with_reducible refine wpAny_loadPart_at he ?_|with_reducible refine wpAny_loadPart_at hC' ?_|(with_reducible refine wpAny_isSubtype_exc hC' ?_;rw[hcB])|wp_step)
 exact wpAny_raiseNew_none hh hE
theorem DJ:RaiseOk:=fun b M ρ L f fp cp p x y Q Q1 hf hl ha hb h k A M₁ s E l am st ex=>by
 subst hf
 obtain⟨s1,s2⟩:=an (IZ b.w.params)
 have star:∀e∈[x,y],∀a p,e≠ .Starred a p:=fun e he a p q=>by
  subst q
  rcases List.mem_cons.mp he with q|q
  ·subst q;exact ff ha
  ·rw[←List.mem_singleton.mp q]at hb;exact ff hb
 have key:SE b M ρ L (.Call (.Name ("ScanError":Str) fp) [x,y] [] cp) fun v L'=>(∃i oe,v= .ref i∧L'[i]? =some (.raw oe)∧Ef oe)∧b.X:=by
  show JE _ _ _ _ (eval (.Name ("ScanError":Str) fp) b.env>>=fun f=>callWith cp f [] (backTo cp (starEach [x,y] b.env)) []) _ _
  refine JE.bind (GS (rel:=fun _ (_:Unit) y=>y= .ref 309) (Q:=fun zz L'=>L'=L) (v:=()) hl (.inl (eq_of_beq s1)) (fun zz zz=>rfl) rfl (by kernel_rfl)) fun M1 z zz L1 l1 vx q=>JE.top fun M2 l2 hP=> ?_
  subst vx q
  have l3:=l1.trans l2
  refine BY (Q1:=fun vl L'=>(∃u v,vl=[u,v])∧b.X∧2≤b.n) (first:=[]) star (HO hP s2) (Ey (FO ha) (h.weak l3) fun M3 u L3 l4 q=>Ey (FO hb) (k M3 u L3 (l3.trans l4) q) fun M4 v L4 l5 q=>MH ⟨⟨_,_,rfl⟩,q⟩) fun M5 vl xs L5 l5 hx q=> ?_
  refine hid fun Gg gg=> ?_
  obtain⟨⟨u,v,rfl⟩,hX,hn⟩:=q
  obtain⟨x1,_,rfl,hx1,hr⟩:=Bm hx
  obtain⟨x2,_,rfl,hx2,hr⟩:=Bm hr
  cases hr
  refine gg ?_
  exact(S3 hn ⟨hx1,hx2,rfl⟩).mono fun v L' q=>⟨q,hX⟩
 rw[arm_exec_Raise]
 refine wpAny_bind (wpAny_standAt ?_)
 show wpAny _ A (raiseStmt b.env (some (do let v←eval (.Call (.Name ("ScanError":Str) fp) [x,y] [] cp) b.env;standAt p;pure v)) none) _ E s
 refine Lg am.hand (wpAny_bind (wpAny_mono (key A M₁ s E l am st ex) (fun v s₁ p=>p.use fun M' u L' g st' hv q=>wpAny_bind (wpAny_standAt (wpAny_pure ?_))) fun zz zz e=>e))
 refine hid fun Gg gg=> ?_
 obtain⟨⟨i,oe,rfl,e1,o⟩,hX⟩:=q
 obtain⟨a,ha,rfl⟩:=hv
 obtain⟨_,_,e2,_⟩:=st'.raw (.refl _) e1 ha
 obtain⟨⟨outer,hfr⟩,hE⟩:=ex hX
 refine gg ?_
 exact⟨a,oe,rfl,st'.hP _ _ (st'.kP (Ol _)),e2,o,hE _ _ g.keep ⟨st'.var.imp fun m h=>h.1,fun z c ec=>(st'.cel z c ec).1⟩ st'.gens st'.os (KM g st' am hfr e1 o ha)⟩
end
end
section
theorem GR:(AZ takeD).kind= .function∧(AZ takeD).isCoroutine=false∧(AZ takeD).isGenerator=false:=⟨by kernel_rfl,by kernel_rfl,by kernel_rfl⟩
theorem Gy:(AZ takeD).names.all (fun y=>y.2 != .cell)=true:=by kernel_rfl
theorem Do:(AZ takeD).names.lookup ("limit":Str)=some .local∧(AZ takeD).names.lookup ("place":Str)=some .free∧(AZ takeD).names.lookup ("cells":Str)=some .free:=⟨by kernel_rfl,by kernel_rfl,by kernel_rfl⟩
theorem LW(nm q:Str)(cl:List (Str×Addr))(g b:Addr)(pm cdv doc ct:Value)(an:Option Addr)(y:Value)(S:Setting):
 peek [] S (bindArgs {name:=nm,qualname:=q,params:=EJ takeD,body:= .stmts (BH takeD),scope:=AZ takeD,globals:=g,closure:=cl,defaults:= .none,kwdefaults:= .none,doc:=doc,pyModule:=pm,annotations:=an,code:=cdv,closureTuple:=ct,builtins:=b} ⟨[y],[]⟩)=some [(("limit":Str),y)]:=by kernel_rfl
theorem cTk:ckSs Xy (AZ takeD) (BH takeD)=true:=by kernel_rfl
theorem Vg:(Nat.beq (cd ("limit":Str)) Hj&&(okS "limit"&&(Nat.beq (cd ("place":Str)) Ac&&(okS "place"&&(Nat.beq (cd ("cells":Str)) Bt&&okS "cells")))))=true:=by kernel_rfl
section
variable{b:Bc}{A:Around}{M M':Mp}{s s':Shared}{ρ:Rho}{L:LH}{a:Addr}{v u:V}{x y z:Value}{n k i:Nat}{E:Value→Shared→Prop}{us:List Tr}{Q:V→LH→Prop}
theorem JS{c:Nat}{r:Rho}{G:Prop}(h:AW ((c,v)::r) i=some u)(g1:c=i→v=u→G)(g2:AW r i=some u→G):G:=by
 have h:(bif Nat.beq c i then some v else AW r i)=some u:=h
 cases e:Nat.beq c i with
 |true=>rw[e]at h;exact g1 (Nat.eq_of_beq_eq_true e) (Option.some.inj h)
 |false=>rw[e]at h;exact g2 h
theorem Ce{κ α:Type}[BEq κ][LawfulBEq κ]{c c':κ}{w w':α}{r:List (κ×α)}{G:Prop}(h:((c,w)::r).lookup c'=some w')(g1:c'=c→w=w'→G)(g2:r.lookup c'=some w'→G):G:=by
 rw[List.lookup_cons]at h
 cases e:c'==c with
 |true=>rw[e]at h;exact g1 (eq_of_beq e) (Option.some.inj h)
 |false=>rw[e]at h;exact g2 h
theorem WC(hn:n+1≤b.n)(hx:VR b.w M (.clo us i) x)(hy:VR b.w M v y)(hc:clL k k L=true)(hf:Bs k (.clo us i)=true)(ho:Bs k v=true)
 (h:∀env' M',env'.scope=AZ takeD→SS ⟨b.w,b.os,n,b.X,env'⟩ M' [(Hj,v),(Ac, .ref i),(Bt, .t (.fl us))] (L.take k) (BH takeD) (DX (Lw (L.take k).length fun v L'=>Internal.back k Q v L' (L.drop k)))):
 SV b M ρ L (call x [y]) Q:=fun A M₁ s E l am st ex=>by
 have sy:=st.sy.take hc
 have hy:=VR.take _ ho (VR.mono l _ hy)
 cases VR.take _ hf (VR.mono l _ hx)with
 | @mk fa fd c1 c2 o1 o2 w1 ba hf ht hcl h1 hd1 h2 hd2 hv1 hφ hcode=>
  refine hid fun Gg gg=> ?_
  obtain⟨name,qualname,params,body,scope,globals,closure,defaults,kwdefaults,doc,pyModule,annotations,code,closureTuple,builtins⟩:=fd
  obtain⟨t1,t2,t3,t4,t5,t6,t7⟩:=ht
  obtain⟨hcl,ne⟩:=hcl
  refine gg ?_
  dsimp only at t1 t2 t3 t4 t5 t6 t7 hcl hcode
  subst t1 t2 t3 t4 t5 t6 t7 hcl
  have ar:=am.ar.le hn
  have hroom:A.depth<recursionLimit:=Nat.lt_of_le_of_lt (Nat.le_trans (Nat.le_add_right _ _) ar.dep) (by decide)
  refine hid fun Gg gg=> ?_
  obtain⟨c,oc,vsc,t,hc1,hc2,hc3,hc4⟩:=hcode
  refine gg ?_
  refine wpAny_call (codeAny_call_function hroom (sy.hP _ _ hf) rfl GR.2.1 GR.2.2 rfl ⟨c,oc,vsc,t,hc1,sy.hP _ _ hc2,hc3,hc4⟩ ?_)
  refine kp_binds (K:=[]) (fun b o e=>nos e) (fun S=>LW _ _ _ _ _ _ _ _ _ _ y S) _ _ _ _ ?_
  refine wpAny_newFunctionEnv (hk:=GR.1) (fun z hz=>by simpa using List.all_eq_true.mp Gy z hz) (fun z hz=>by rw[List.mem_singleton.mp hz];exact Do.1) fun h' hns hsb=> ?_
  have keep:∀b o,s.heap.get? b=some o→h'.get? b=some o:=fun b o e=>(hsb.2 b (Nat.ne_of_lt (Heap.lt_size e))).trans (Heap.get?_push_of_some _ e)
  have nF:=Internal.gone s.heap (Nat.le_refl _)
  have nφ:∀c o v,(M₁.take k).P c=some o→o.data= .cell v→c∉(M₁.take k).φ:=fun c o v e d q=>by
   obtain⟨j,hj⟩:=List.mem_iff_getElem?.mp q
   have hl:=(List.getElem?_eq_some_iff.mp hj).1
   rw[←sy.len]at hl
   obtain⟨c',o',e1,e2,e3⟩:=sy.hL _ _ (List.getElem?_eq_getElem hl)
   cases hj.symm.trans e1
   cases(sy.hP _ _ e).symm.trans e2
   rcases e3 with e3|e3
   ·exact e3.2 _ d
   ·exact nos (e3.1.symm.trans e)
  generalize henv:newEnv (AZ takeD) s.heap.objs.size mainGlobals [(("place":Str),c2),(("cells":Str),c1)] (qualname++".<locals>.") (some fa) code none builtinsNs=env'
  have e1:env'.scope=AZ takeD:=by subst henv;rfl
  have e2:env'.locals=s.heap.objs.size:=by subst henv;rfl
  have e3:env'.cells=([(("place":Str),c2),(("cells":Str),c1)]:List (Str×Addr)):=by subst henv;rfl
  have e4:env'.frame=some env'.locals:=by subst henv;rfl
  have e5:env'.globals=mainGlobals:=by subst henv;rfl
  have e6:env'.builtins=builtinsNs:=by subst henv;rfl
  clear henv
  have kd:∀z k,(AZ takeD).names.lookup z=some k→env'.kindOf z=some k:=fun z k q=>by unfold Env.kindOf;rw[e1];exact q
  have nocell:∀z,env'.kindOf z≠some .cell:=fun z q=>by
   unfold Env.kindOf at q
   rw[e1]at q
   exact ff (show(NameKind.cell !=NameKind.cell)=true from List.all_eq_true.mp Gy _ (mem_of_lookup q))
  rw[←e2]at hns nF
  refine hid fun Gg gg=> ?_
  obtain⟨k1,k2⟩:=an Vg
  obtain⟨k2,k3⟩:=an k2
  obtain⟨k3,k4⟩:=an k3
  obtain⟨k4,k5⟩:=an k4
  obtain⟨k5,k6⟩:=an k5
  refine gg ?_
  have std:∀z c,env'.cells.lookup z=some c→∃o v,(M₁.take k).P c=some o∧o.data= .cell v:=fun z c e=>by
   rw[e3]at e
   exact Ce e (fun zz q=>q▸⟨_,_,h2,hd2⟩) fun e=>Ce e (fun zz q=>q▸⟨_,_,h1,hd1⟩) nos
  have st1:Sx ⟨b.w,b.os,n,b.X,env'⟩ (A.deeper env') (M₁.take k) [(Hj,v),(Ac, .ref i),(Bt, .t (.fl us))] (L.take k) {s with heap:=h',toks:=s.toks+1}:=by
   refine sy.frame keep rfl rfl e4 nF hns (fun z u ok e=> ?_) fun z c e=> ?_
   ·refine JS e (fun q1 q2=> ?_) fun e=>JS e (fun q1 q2=> ?_) fun e=>JS e (fun q1 q2=> ?_) nos
    ·cases Dx ok k2 (q1.symm.trans (Nat.eq_of_beq_eq_true k1).symm)
     subst q2
     exact .inl ⟨kd _ _ Do.1,y,rfl,hy⟩
    ·cases Dx ok k4 (q1.symm.trans (Nat.eq_of_beq_eq_true k3).symm)
     subst q2
     exact .inr ⟨.inr (kd _ _ Do.2.1),c2,_,by rw[e3];rfl,⟨_,keep _ _ (sy.hP _ _ h2),hd2⟩,_,hφ,rfl⟩
    ·cases Dx ok k6 (q1.symm.trans (Nat.eq_of_beq_eq_true k5).symm)
     subst q2
     exact .inr ⟨.inr (kd _ _ Do.2.2),c1,w1,by rw[e3];rfl,⟨_,keep _ _ (sy.hP _ _ h1),hd1⟩,hv1⟩
   ·refine hid fun Gg gg=> ?_
    obtain⟨o,v,f1,f2⟩:=std z c e
    refine gg ?_
    exact⟨⟨_,o,keep _ _ (sy.hP _ _ f1),f2⟩,nφ c o v f1 f2,fun q=>nos (nF.symm.trans (q▸sy.hP _ _ f1)),fun q=>absurd q (nocell z),fun zz=>⟨o,f1⟩⟩
  have amb:Amb ⟨b.w,b.os,n,b.X,env'⟩ (A.deeper env'):=ar.amb e4 (by rw[e1];exact GR.1) e5 e6 (fun z q=>absurd q (nocell z)) fun z z' c q1 q2=>by
   rw[e3]at q1 q2
   refine Ce q1 (fun a1 a2=>Ce q2 (fun b1 b2=>a1.trans b1.symm) fun q2=>Ce q2 (fun b1 b2=>absurd (b2.trans a2.symm) ne) nos) fun q1=>Ce q1 (fun a1 a2=>Ce q2 (fun b1 b2=>absurd (a2.trans b2.symm) ne) fun q2=>Ce q2 (fun b1 b2=>a1.trans b1.symm) nos) nos
  exact⟨st.sy.noLimit.keeps keep,K3 (X:=b.X) sy (ar.frs.imp fun zz h=>h.1) e4 nF nF (fun a ⟨z,_,q⟩=>absurd q (nocell z)) keep (fun hX e s' oe=>EOk.call st ex (.inl rfl) (fun zz zz zz q=>q.up) hX oe) (fun v y s' M' L' hz hvy q=>st.left (Nat.le_refl _) hz hvy q) fun fr E=>h env' _ e1 _ _ _ E (.refl _) amb st1⟩
theorem P8(w:World)(os:OsState)(us:List Tr)(i:Nat):Oq w os (.clo us i) fun KT xk X vl Q L=>UJ ⟨KT X,KT False,X∧xk⟩ us i vl Q L:=fun k X IH env M ρ L j Q vl x xs hP hx hv hc hf ho h=>by
 refine hid fun Gg gg=> ?_
 obtain⟨v,rfl,h⟩:=GV h
 obtain⟨y,_,rfl,hy,hr⟩:=Bm hv
 cases hr
 refine gg ?_
 exact WC (n:=2*k) (Nat.le_succ _) hx hy hc hf (an ho).1 fun env' M' hs=>sndL DJ Xy _ _ cTk _ _ M' _ _ _ hs (ET IH env') h
end
end
section
noncomputable def posT:Pos:=match takeD with
 | .FunctionDef _ _ _ _ _ _ _ _ _ p=>p
 |_=>⟨0,0,0,0⟩
theorem O6:takeD= .FunctionDef ("take":Str) (EJ takeD) (BH takeD) [] none [] (AZ takeD) none ("take":Str) posT:=by kernel_rfl
theorem XF:BH (stm 45)=(BH (stm 45)).take 3++[takeD, .Return (some (.Name ("take":Str) ⟨612,11,612,15⟩)) ⟨612,4,612,15⟩]:=by kernel_rfl
theorem exT(env:Env):exec (.FunctionDef ("take":Str) (EJ takeD) (BH takeD) [] none [] (AZ takeD) none ("take":Str) posT) env=(do
 let decos←evalAll []
 standAt posT
 let f←holding decos (do
  let dv←evalAll []
  let kdv←holding dv (evalAllOpt [])
  holding (dv++kdv.filterMap id) (do
   let ann←evalNamed []
   makeFunction ("take":Str) (qualnameIn env ("take":Str) ("take":Str)) (EJ takeD) (.stmts (BH takeD)) (AZ takeD) env dv kdv ann posT posT.line))
 let f←decorate (decos.zip []).reverse f
 standAt posT
 bindName env ("take":Str) f
 pure .next):=by kernel_rfl
theorem kwT:(EJ takeD).kwonlyargs=[]:=by kernel_rfl
theorem ez:docOf (BH takeD)=none:=by kernel_rfl
theorem nmT(P:Params)(S:Setting):(peek (KT P) S (nsGet mainGlobals "__name__")).isSome=true:=by kernel_rfl
theorem Xv:(AZ (stm 45)).names.lookup ("take":Str)=some .local∧(AZ (stm 45)).names.lookup ("place":Str)=some .cell∧(AZ (stm 45)).names.lookup ("cells":Str)=some .cell:=⟨by kernel_rfl,by kernel_rfl,by kernel_rfl⟩
theorem g4(P:Params):(Nat.blt 4 933,(T19 P).get 4,((T19 P).get 4).bind alive)=(true,some (boot_o_4 P),some (boot_o_4 P)):=by kernel_rfl
theorem eg(P:Params):(H1 P).get? 4=some (boot_o_4 P):=by
 have e:=g4 P
 rw[Prod.mk.injEq,Prod.mk.injEq]at e
 unfold H1
 rw[abs_get (by decide) e.2.1]
 rw[e.2.1]at e;exact e.2.2
noncomputable def K4(P:Params):Frag:=(4,boot_o_4 P)::KT P
theorem blT(P:Params)(S:Setting):peek (K4 P) S (builtinsFor mainGlobals builtinsNs)=some builtinsNs:=by kernel_rfl
theorem scT:(AZ takeD).names=[(("limit":Str), .local),(("k":Str), .local),(("level":Str), .local),(("cells":Str), .free),(("place":Str), .free),(("len":Str), .globalImplicit)]:=by kernel_rfl
theorem aj{M:Model}{A:Around}{E:Value→Shared→Prop}{s:Shared}{env:Env}{c1 c2:Addr}{Q:List (Str×Addr)→Shared→Prop}(h1:env.cells.lookup ("cells":Str)=some c1)(h2:env.cells.lookup ("place":Str)=some c2)
 (h:Q [(("place":Str),c2),(("cells":Str),c1)] s):wpAny M A (closureFor (AZ takeD) env) Q E s:=by
 unfold closureFor
 rw[scT]
 simp only[List.forIn_cons,List.forIn_nil,bind_assoc,pure_bind,show(NameKind.local==NameKind.free)=false from rfl,show(NameKind.globalImplicit==NameKind.free)=false from rfl,show(NameKind.free==NameKind.free)=true from rfl,Bool.false_eq_true,if_false,if_true]
 unfold cellOf
 rw[h1,h2]
 exact wpAny_pure h
theorem bm(P:Params):(KT P).lookup 904=some (Xr P):=by kernel_rfl
theorem Im{env:Env}{b:List Stmt}:∀a:List Stmt,execs (a++b) env=(execs a env>>=fun f=>match f with| .next=>execs b env|f=>pure f)
 |[]=>rfl
 |c::a=>by
  rw[List.cons_append,arm_execs_cons,arm_execs_cons,bind_assoc]
  refine congrArg _ (funext fun f=> ?_)
  cases f with
  |next=>exact Im a
  |_=>rfl
structure Tkn(b:Bc)(M:Mp)(s:Shared)(us:List Tr)(j:Nat)(y:Value)(P':PH)(s':Shared):Prop where
 le:PLe M.P P'
 hP:∀a o,P' a=some o→s'.heap.get? a=some o
 new:∀a,P' a≠none→M.P a≠none∨s.heap.get? a=none∨Ed b a
 keep:∀c o,c≠900→c≠b.env.locals→s.heap.get? c=some o→s'.heap.get? c=some o
 tab:∃vs,s'.heap.get? 900=some (XZ vs)
 clo:∀ba,M.φ[j]? =some ba→YR b.w ⟨P',[900,ba]⟩ us 1 y
 gens:s'.gens=s.gens
 os:s'.os=s.os
section
variable{b:Bc}{A:Around}{M M':Mp}{s s':Shared}{ρ:Rho}{L:LH}{a:Addr}{v u:V}{x y z:Value}{n k i j:Nat}{E:Value→Shared→Prop}{us:List Tr}{Q:V→LH→Prop}
theorem Kg(st:Sx b A M ρ L s)(hs:b.env.scope=AZ (stm 45)){z:Str}(ok:okS z=true)(hk:(AZ (stm 45)).names.lookup z=some .cell)(h:AW ρ (cd z)=some u):
 ∃c o y,b.env.cells.lookup z=some c∧s.heap.get? c=some o∧o.data= .cell (some y)∧VR b.w M u y∧M.P c=none∧c∉M.φ∧Ed b c:=by
 have hkk:b.env.kindOf z=some .cell:=by unfold Env.kindOf;rw[hs];exact hk
 obtain⟨m,hn,hv⟩:=st.var
 rcases hv z u ok h with⟨a,_⟩|⟨_,c,y,b,⟨o,d1,d2⟩,e⟩
 ·rw[hkk]at a;cases a
 ·refine hid fun Gg gg=> ?_
  obtain⟨_,b1,b2,b3,_⟩:=st.cel z c b
  refine gg ?_
  exact⟨c,o,y,b,d1,d2,e,b3 hkk,b1,z,b,hkk⟩
theorem RT(st:Sx b A M ρ L s)(h9:L[0]? =some (.raw o9)):M.φ[0]? =some 900∧M.P 900=none∧s.heap.get? 900=some o9:=by
 refine hid fun Gg gg=> ?_
 obtain⟨a9,o,f1,p9,g9,rfl,f2⟩:=st.look h9 (by intro xx;contradiction)
 cases f1.symm.trans ((f2 ⟨_,rfl⟩).resolve_left (by intro xx;contradiction))
 refine gg ?_
 exact⟨f1,p9,g9⟩
theorem TE{q:Str}(st:Sx b A M ρ L s)(am:Amb b A)(hs:b.env.scope=AZ (stm 45))(hcode:b.env.code= .ref 904)(h9:L[0]? =some (.raw o9))(hc:AW ρ Bt=some (.t (.fl us)))(hp:AW ρ Ac=some (.ref j)):
 WP b A (makeFunction ("take":Str) q (EJ takeD) (.stmts (BH takeD)) (AZ takeD) b.env [] [] [] posT k) (fun v s'=>∃P',Tkn b M s us j v P' s'∧∀m,s.heap.Ns b.env.locals m→s'.heap.Ns b.env.locals m) E s:=by
 refine hid fun Gg gg=> ?_
 obtain⟨k1,k2⟩:=an Vg
 obtain⟨k2,k3⟩:=an k2
 obtain⟨k3,k4⟩:=an k3
 obtain⟨k4,k5⟩:=an k4
 obtain⟨k5,k6⟩:=an k5
 obtain⟨c1,o1,y1,x1,x2,x3,x4,x5,x6,x7⟩:=Kg st hs k6 Xv.2.2 (by rw[Nat.eq_of_beq_eq_true k5];exact hc)
 obtain⟨c2,o2,y2,z1,z2,z3,z4,z5,z6,z7⟩:=Kg st hs k4 Xv.2.1 (by rw[Nat.eq_of_beq_eq_true k3];exact hp)
 obtain⟨f9,p9,g9⟩:=RT st h9
 refine gg ?_;clear gg
 have g904:s.heap.get? 904=some (Xr b.w.params):=st.hP _ _ (st.kP (bm _))
 rw[makeFunction_eq,kwT]
 refine wpAny_bind (wpAny_pure (wpAny_bind (wpAny_pure (wpAny_bind (wpAny_pure ?_)))))
 unfold makeTail
 refine wpAny_bind (aj x1 z1 ?_)
 rw[if_neg (by simp)]
 refine wpAny_bind (wpAny_newTextTuple ?_)
 dsimp only
 have keep0:∀b o,s.heap.get? b=some o→(s.heap.push {cls:= .type "tuple",data:= .seq ((([(("place":Str),c2),(("cells":Str),c1)]:List (Str×Addr)).mergeSort fun a b=>a.1.cps.toList≤b.1.cps.toList).map (Value.ref ·.2)).toArray}).get? b=some o:=fun b o e=>Heap.get?_push_of_some _ e
 generalize hG:s.heap.push {cls:= .type "tuple",data:= .seq ((([(("place":Str),c2),(("cells":Str),c1)]:List (Str×Addr)).mergeSort fun a b=>a.1.cps.toList≤b.1.cps.toList).map (Value.ref ·.2)).toArray}=G at*
 have hsz:G.objs.size=s.heap.objs.size+1:=by subst hG;exact Heap.size_push ..
 clear hG
 have hok:G.IsCode 904 900 #[]:=⟨_,_,_,_,_,_,_,_,_,o9,keep0 _ _ g904,rfl,rfl,rfl,rfl,rfl,rfl,keep0 _ _ g9,rfl,trivial,by decide⟩
 refine wpAny_bind (wpAny_functionCodeX (s:={s with heap:=G}) hcode hok ⟨⟨_,_,keep0 _ _ g904,rfl,rfl,rfl⟩,keep0 _ _ g9⟩ rfl fun c' h1 tk1 hx hge hlt hok' hrec htab zz=> ?_)
 have keep1:∀b o,b≠900→s.heap.get? b=some o→h1.get? b=some o:=fun b o nb e=>hx b o nb (keep0 b o e)
 have kin:(K4 b.w.params).In h1:=fun a o e=>by
  refine Ce (c:=4) (r:=KT b.w.params) e (fun q1 q2=> ?_) fun e=> ?_
  ·subst q1 q2
   exact keep1 _ _ (by decide) (st.hP _ _ (st.top _ _ (by decide) (eg _)))
  ·have hp:=st.kP e
   exact keep1 _ _ (fun q=>by subst q;exact nos (p9.symm.trans hp)) (st.hP _ _ hp)
 rw[am.glob,am.blt]
 refine wpAny_bind ((Looks.of_peek kin (blT _ _)).here ?_)
 refine hid fun Gg gg=> ?_
 obtain⟨nm,hnm⟩:=Option.isSome_iff_exists.mp (nmT b.w.params ⟨(model pw_nn0409_01 b.w).prog,(model pw_nn0409_01 b.w).w.params⟩)
 refine gg ?_;clear gg
 refine wpAny_bind ((Looks.of_peek (K:=KT b.w.params) (fun b o e=>by
  have hp:=st.kP e
  exact keep1 _ _ (fun q=>by subst q;exact nos (p9.symm.trans hp)) (st.hP _ _ hp)) hnm).here ?_)
 rw[ez]
 refine wpAny_bind (wpAny_pure (wpAny_newObj_type ?_ (by size_fits)))
 generalize hfo:({cls:= .type "function",data:= .func _}:Obj)=fo
 have hge:G.objs.size≤c':=hge
 have hgc:s.heap.objs.size<c':=by exact l30 (Hd W0 (.a X1 Y1) (Hb W0 X2 (Gc X1 X2))) rfl hsz hge
 have hsz1:s.heap.objs.size≤h1.objs.size:=by exact l40 (Hd W0 (.a X1 Y1) (Hg X2 X3 (Hb W0 X2 (Gb X1 X3)))) rfl hsz hlt hge
 have n1:c1≠900:=fun q=>x6 (q▸List.mem_of_getElem? f9)
 have n2:c2≠900:=fun q=>z6 (q▸List.mem_of_getElem? f9)
 have ne12:c1≠c2:=fun q=>by
  have:=am.inj _ _ c1 x1 (q▸z1)
  exact absurd this (by decide)
 have K:∀c o,c≠900→s.heap.get? c=some o→(h1.push fo).get? c=some o:=fun b o nb e=>Heap.get?_push_of_some _ (keep1 b o nb e)
 have fr:∀a,s.heap.objs.size≤a→s.heap.get? a=none∧M.P a=none:=fun a h=>have g:=Internal.gone s.heap h;⟨g,(st.fresh g).1⟩
 have off:∀c o d,s.heap.get? c=some o→s.heap.objs.size≤d→c≠d:=fun c o d e h q=>nos ((fr d h).1.symm.trans (q▸e))
 refine hid fun Gg gg=> ?_
 obtain⟨cc,oc,vsc,tc,ec,hgcc,hdc,hqc⟩:=hrec
 cases ec
 have p1:=(fr _ (Nat.le_of_lt hgc)).2
 have p2:M.P.add c' oc c1=none:=(CY (off _ _ _ x2 (Nat.le_of_lt hgc))).trans x5
 have p3:(M.P.add c' oc).add c1 o1 c2=none:=(CY ne12.symm).trans ((CY (off _ _ _ z2 (Nat.le_of_lt hgc))).trans z5)
 have p4:((M.P.add c' oc).add c1 o1).add c2 o2 h1.objs.size=none:=(CY (off _ _ _ z2 hsz1).symm).trans ((CY (off _ _ _ x2 hsz1).symm).trans ((CY (Nat.ne_of_gt hlt)).trans (fr _ hsz1).2))
 have l1:=C8 (o:=oc) p1
 have l2:=C8 (o:=o1) p2
 have l3:=C8 (o:=o2) p3
 have l4:=C8 (o:=fo) p4
 have ll:=l1.trans (l2.trans (l3.trans l4))
 have gf:(h1.push fo).get? h1.objs.size=some fo:=Heap.get?_push_size _ (by subst hfo;rfl)
 obtain⟨ba,hba,rfl⟩:=z4
 refine gg ?_
 clear hge gg hok' x1 z1 p1 p2 p3 p4 keep0
 refine⟨_,⟨ll,fun a o e=> ?_,fun a e=> ?_,fun c o n zz=>K c o n,⟨_,Heap.get?_push_of_some _ htab.2⟩,fun ba' hb=> ?_,rfl,rfl⟩,fun m ⟨o,es,ep,ho,hd⟩=>⟨o,es,ep,K _ _ (fun q=>st.loc.2 (q▸List.mem_of_getElem? f9)) ho,hd⟩⟩
 ·clear hfo ll l1 l2 l3 l4 htab hlt
  rcases BV e with⟨rfl,rfl⟩|⟨_,f⟩
  ·exact gf
  clear e
  rcases BV f with⟨rfl,rfl⟩|⟨_,g⟩
  ·exact K _ _ n2 z2
  clear f
  rcases BV g with⟨rfl,rfl⟩|⟨_,h⟩
  ·exact K _ _ n1 x2
  clear g
  rcases BV h with⟨rfl,rfl⟩|⟨_,m⟩
  ·exact Heap.get?_push_of_some _ hgcc
  ·exact K _ _ (fun q=>by subst q;exact nos (p9.symm.trans m)) (st.hP _ _ m)
 ·clear hfo ll l1 l2 l3 l4 htab hlt K gf hgcc hdc
  obtain⟨o,e⟩:=Option.ne_none_iff_exists'.mp e
  rcases BV e with⟨rfl,rfl⟩|⟨_,f⟩
  ·exact .inr (.inl (fr _ hsz1).1)
  clear e
  rcases BV f with⟨rfl,rfl⟩|⟨_,g⟩
  ·exact .inr (.inr z7)
  clear f
  rcases BV g with⟨rfl,rfl⟩|⟨_,h⟩
  ·exact .inr (.inr x7)
  clear g
  rcases BV h with⟨rfl,rfl⟩|⟨_,m⟩
  ·exact .inr (.inl (fr _ (Nat.le_of_lt hgc)).1)
  ·exact .inl (by rw[m];nofun)
 ·cases hba.symm.trans hb
  subst hfo
  exact .mk BL ⟨rfl,rfl,rfl,rfl,rfl,rfl,rfl⟩ ⟨rfl,ne12⟩ (l4 _ _ (l3 _ _ BL)) x3 (l4 _ _ BL) z3 (PR.mono ll _ x4) rfl ⟨c',oc,vsc,tc,rfl,l4 _ _ (l3 _ _ (l2 _ _ BL)),hdc,hqc⟩
theorem Rz{p1 p2:Pos}(st:Sx b A M ρ L s)(am:Amb b A)(hs:b.env.scope=AZ (stm 45))(hcode:b.env.code= .ref 904)(h9:L[0]? =some (.raw o9))(hc:AW ρ Bt=some (.t (.fl us)))(hp:AW ρ Ac=some (.ref j)):
 WP b A (execs [takeD, .Return (some (.Name ("take":Str) p1)) p2] b.env) (fun fl s'=>∃y P',fl= .ret y∧Tkn b M s us j y P' s') E s:=by
 have hl:b.env.kindOf ("take":Str)=some .local:=by unfold Env.kindOf;rw[hs];exact Xv.1
 rw[arm_execs_cons]
 refine wpAny_bind ?_
 rw[O6,exT]
 refine wpAny_bind (wpAny_pure ?_)
 refine wpAny_bind (wpAny_standAt ?_)
 refine wpAny_bind (wpAny_holding ?_)
 refine wpAny_bind (wpAny_pure ?_)
 refine wpAny_bind (wpAny_holding (wpAny_pure ?_))
 refine wpAny_holding ?_
 refine wpAny_bind (wpAny_pure ?_)
 refine wpAny_mono (TE (E:=E) st am hs hcode h9 hc hp) (fun v s' h=> ?_) fun zz zz e=>e
 refine hid fun Gg gg=> ?_
 obtain⟨P',T,kN⟩:=h
 refine gg ?_
 refine wpAny_bind (wpAny_pure ?_)
 refine wpAny_bind (wpAny_standAt ?_)
 refine hid fun Gg gg=> ?_
 obtain⟨m,hn,hvar⟩:=st.var
 refine gg ?_
 refine wpAny_bind (wpAny_bindName (wpAny_storeName_local hl (kN _ hn) (fun h2 hn2 hs2=>wpAny_pure ?_) (by rw[am.kind];rfl)))
 show wpAny _ A (execs [.Return (some (.Name ("take":Str) p1)) p2] b.env) _ _ _
 rw[arm_execs_cons]
 refine wpAny_bind (wpAny_Return_some (wpAny_Name (wpAny_loadName_local (v:=v) am.kind hl hn2 (if_pos rfl) ?_) (by decide+kernel)))
 refine hid fun Gg gg=> ?_
 obtain⟨o,es,ep,eL,_⟩:=hn
 refine gg ?_
 have nP:∀a,P' a≠none→a≠b.env.locals:=fun a h q=>by
  subst q
  rcases T.new _ h with h|h|⟨z,h,_⟩
  ·exact h st.loc.1
  ·exact nos (h.symm.trans eL)
  ·exact(st.cel z _ h).2.2.1 rfl
 have n9:b.env.locals≠900:=fun q=>st.loc.2 (q▸List.mem_of_getElem? (RT st h9).1)
 exact wpAny_pure ⟨v,P',rfl,T.le,fun a o e=>(hs2.2 a (nP a (by rw[e];nofun))).trans (T.hP a o e),T.new,fun c o n1 n2 e=>(hs2.2 c n2).trans (T.keep c o n1 n2 e),T.tab.imp fun vs e=>(hs2.2 900 n9.symm).trans e,T.clo,T.gens,T.os⟩
end
end
section
theorem WR(P:Params):shp P 905=some (.stmts (BH (stm 45)),AZ (stm 45),[("script":Str)],true,true):=by kernel_rfl
theorem XI(P:Params)(S:Setting)(f:Nat→Value):NQ P S f 905=NR P f 905:=by kernel_rfl
theorem To(P:Params):(II P 905).map (·.code)=some (.ref 904):=by kernel_rfl
theorem ao:cd ("script":Str)=xscript:=by kernel_rfl
theorem fI:ckSs RA (AZ (stm 45)) ((BH (stm 45)).take 3)=true:=by kernel_rfl
section
variable{w:World}{os:OsState}{X:Prop}{env:Env}{A A':Around}{b:Bc}{M M' M₁:Mp}{s s₁ s₂ s₃:Shared}{ρ:Rho}{L:LH}{P':PH}{y:Value}{n i j:Nat}{us ts:List Tr}
theorem Tkn.outer(sy:Sy b.w b.os A M [.raw o9] s)(nF:s.heap.get? b.env.locals=none)(hf:b.env.frame=some b.env.locals)(nc:∀a,Ed b a→s.heap.get? a=none)(keep:∀a o,s.heap.get? a=some o→s₁.heap.get? a=some o)
 (g:Go b (A.deeper b.env) M s₁ M' s₂)(st:Sx b (A.deeper b.env) M' ρ L s₂)(h9:L[0]? =some (.raw o9))(ht:L[j]? =some (.list ts))(T:Tkn b M' s₂ us j y P' s₃):
 ∃M'',Og A M s M'' s₃∧Sy b.w b.os A M'' [.tab, .list ts] s₃∧VR b.w M'' (.clo us 1) y:=by
 refine hid fun Gg gg=> ?_
 obtain⟨f9,p9,g9⟩:=RT st h9
 obtain⟨ba,ob,hb,pb,gb,tb⟩:=st.look ht (by intro xx;contradiction)
 refine gg ?_;clear gg
 have only:∀(i:Nat) a,M.φ[i]? =some a→i=0∧a=900:=fun i a e=>by
  have h1:=(List.getElem?_eq_some_iff.mp e).1
  rw[←sy.len]at h1
  obtain rfl:i=0:=Nat.lt_one_iff.mp h1
  cases f9.symm.trans (g.le.φ _ _ e)
  exact⟨rfl,rfl⟩
 have in9:900∈M.φ:=by
  have h1:0<M.φ.length:=by rw[←sy.len];exact Nat.one_pos
  have e:=List.getElem?_eq_getElem h1
  rw[(only _ _ e).2]at e
  exact List.mem_of_getElem? e
 have m9:M.P 900=none:=by
  cases q:M.P 900 with
  |none=>rfl
  |some o=>exact nos (p9.symm.trans (g.le.P _ _ q))
 have nb:ba≠900:=fun q=>by
  subst q
  cases(List.getElem?_inj (List.getElem?_eq_some_iff.mp hb).1 st.nd).mp (hb.trans f9.symm)
  cases h9.symm.trans ht
 have old:∀a o,s.heap.get? a=some o→a≠b.env.locals∧¬Ed b a:=fun a o e=>⟨fun q=>nos (nF.symm.trans (q▸e)),fun q=>nos ((nc a q).symm.trans e)⟩
 have at2:∀a o,¬Ow M a→s.heap.get? a=some o→StA (A.deeper b.env) s₂.heap a o:=fun a o n e=>g.keep a o (fun q=>q.2.elim (old a o e).1 fun r=>r.elim (old a o e).2 fun r=>n ⟨q.1,r⟩) (keep _ _ e)
 have nw:∀a o,s.heap.get? a=some o→a∉M.φ→¬New M M' a:=fun a o e n q=>(g.new a o (keep _ _ e) q).elim (old a o e).1 fun r=>r.elim (old a o e).2 n
 have nFr:∀a o,s.heap.get? a=some o→Bl (A.deeper b.env) a→Bl A a:=fun a o e q=>(Dr hf q).resolve_left (old a o e).1
 have s3:∀a o,s.heap.get? a=some o→¬Ow M a→StA A s₃.heap a o:=fun a o e n=>by
  refine hid fun Gg gg=> ?_
  obtain⟨sl,e2,c⟩:=at2 a o n e
  refine gg ?_;clear gg
  exact⟨sl,T.keep a _ (fun q=>n (q▸⟨m9,in9⟩)) (old a o e).1 e2,c.imp id (nFr a o e)⟩
 have P0:∀a o,s.heap.get? a=some o→a∉M.φ→M.P a=none→P' a=none:=fun a o e n p=>Decidable.byContradiction fun q=>by
  rcases T.new a q with h|h|h
  ·exact nw a o e n (.inr ⟨p,h⟩)
  ·refine hid fun Gg gg=> ?_
   obtain⟨sl,e2,_⟩:=at2 a o (fun q=>n q.2) e
   refine gg ?_;clear gg
   exact nos (h.symm.trans e2)
  ·exact(old a o e).2 h
 have off:∀c o,c∈M'.φ→s₂.heap.get? c=some o→M'.P c=none→P' c=none:=fun c o m e p=>Decidable.byContradiction fun q=>by
  rcases T.new c q with h|h|⟨z,h,_⟩
  ·exact h p
  ·exact nos (h.symm.trans e)
  ·exact(st.cel z c h).2.1 m
 refine⟨⟨P',[900,ba]⟩,⟨⟨g.le.P.trans T.le,fun i a e=>by obtain⟨rfl,rfl⟩:=only i a e;rfl⟩,fun a o n e=>s3 a o e n,fun a o e n=>⟨fun q=> ?_,P0 a o e n⟩⟩,⟨T.hP,fun a o n e=>T.le _ _ (st.top a o n e),rfl,fun i x e=> ?_, ?_,fun a f=> ?_,T.gens.trans st.gens,T.os.trans st.os⟩,T.clo ba hb⟩
 ·rcases List.mem_cons.mp q with rfl|q
  ·exact n in9
  ·rw[List.mem_singleton.mp q]at e n
   exact nw _ _ e n (.inl (List.mem_of_getElem? hb))
 ·match i,e with
  |0,e=>
   cases e
   obtain⟨vs,e⟩:=T.tab
   exact⟨900,_,rfl,e, .inr ⟨off _ _ (List.mem_of_getElem? f9) g9 p9,vs,rfl⟩⟩
  |1,e=>
   cases e
   refine hid fun Gg gg=> ?_
   obtain⟨ws,n,rfl,h1,h2⟩:=tb
   refine gg ?_;clear gg
   exact⟨ba,_,rfl,T.keep _ _ nb (fun q=>st.loc.2 (q▸List.mem_of_getElem? hb)) gb, .inr ⟨off _ _ (List.mem_of_getElem? hb) gb pb,ws,n,rfl,PRs.mono T.le _ h1,h2⟩⟩
 ·exact List.nodup_cons.mpr ⟨fun q=>nb (List.mem_singleton.mp q).symm,List.pairwise_singleton _ _⟩
 ·refine hid fun Gg gg=> ?_
  obtain⟨h1,h2,o,es,n,e,d⟩:=sy.fr a f
  refine gg ?_;clear gg
  refine⟨P0 a o e h2 h1,fun q=> ?_, ?_⟩
  ·rcases List.mem_cons.mp q with rfl|q
   ·exact h2 in9
   ·rw[List.mem_singleton.mp q]at e h2
    exact nw _ _ e h2 (.inl (List.mem_of_getElem? hb))
  ·refine hid fun Gg gg=> ?_
   obtain⟨sl,e3,_⟩:=s3 a o e fun q=>h2 q.2
   refine gg ?_;clear gg
   exact⟨_,es,n,e3,d⟩
theorem LV(w:World)(os:OsState):Oq w os (.t (.fn 905)) fun KT xk X vl Q L=>Ft ⟨KT X,KT False,X∧xk⟩ vl Q L:=fun k X IH env M ρ L j Q vl x xs hP hx hv hc hf ho h A M₁ s E l am st ex=>by
 refine hid fun Gg gg=> ?_
 obtain⟨eL,h⟩:=h
 obtain⟨v,rfl,h⟩:=GV h
 obtain⟨y,_,rfl,hy,hr⟩:=Bm hv
 cases hr
 cases hx
 obtain⟨fd,e,F,hsc,hb⟩:=Jp (WR w.params) XI
 refine gg ?_
 have hcd:fd.code= .ref 904:=by have h:=To w.params;rw[e]at h;exact Option.some.inj h
 have hPt:=fun a o e=>st.kP (a:=a) (o:=o) e
 have sy:=st.sy.take hc
 have ht:VR w (M₁.take j) v y:=VR.take _ (an ho).1 (VR.mono l _ hy)
 refine wpAny_call (Qg (M:=M₁.take j) (L:=L.take j) (n:=2*k) (X:=X) (F.mono hPt) sy (am.ar.le (Nat.le_succ _)) (vl:=[v]) (xs':=[y]) ⟨ht,rfl⟩ (fun A Q E s hs q=>hb _ rfl A Q E s (fun a o e=>hs a o (hPt a o e)) q) fun env' s₁ hs hcd' hf nF nc keep am' st'=> ?_)
 have hs':=hs.trans hsc
 have pre:=sndL DJ RA (sc:=AZ (stm 45)) ((BH (stm 45)).take 3) fI ⟨w,os,2*k,X,env'⟩ _ (M₁.take j) _ _ _ hs' (ET IH env') h
 rw[←ao]at pre
 rw[XF]
 refine Iu (X:=X) sy (am.ar.frs.imp fun zz h=>h.1) hf nF nF nc keep (fun hX e s' oe=>EOk.call st ex (.inl rfl) (fun zz zz zz q=>q.up) hX oe) fun fr E' ex'=> ?_
 rw[Im]
 refine wpAny_bind (wpAny_mono (pre _ _ s₁ E' (.refl _) am' st' ex') (fun fl s2 p=>p.use fun M2 f ρ2 L2 g st2 r q=> ?_) fun zz zz e=>e)
 refine hid fun Gg gg=> ?_
 obtain⟨rfl,h9,q⟩:=q
 cases r
 obtain⟨u1,e1,q⟩:=AO q
 obtain⟨t1,rfl,q⟩:=CU q
 obtain⟨us,rfl,q⟩:=KB q
 obtain⟨u2,e2,q⟩:=AO q
 obtain⟨i,rfl,ts,e3,q⟩:=CI q
 refine gg ?_
 refine wpAny_mono (Rz st2 am' hs' (hcd'.trans hcd) h9 e1 e2) (fun fl s3 ⟨y,P',efl,T⟩=>⟨y, .inl efl, ?_⟩) fun zz zz e=>e
 refine hid fun Gg gg=> ?_
 obtain⟨M'',og,sy'',hv⟩:=Tkn.outer (eL▸sy) nF hf nc keep g st2 h9 e3 T
 obtain⟨q1,q2⟩:=Gm q
 refine gg ?_
 have r:=st.back og sy'' q2
 exact .mk (x:= .clo us 1) r.2.1 r.1 (VR.mono r.2.2 (.clo us 1) hv) q1
end
end
section
noncomputable abbrev De:Str:=⟨#[114,101,102,117,115,101,100]⟩
noncomputable def XX:List Stmt:=match BH (stm 49)with
 | .Try b _ _ _ _::_=>b
 |_=>[]
noncomputable def Xm:Stmt:=match BH (stm 49)with
 |[_,r]=>r
 |_=> .Pass ⟨0,0,0,0⟩
theorem XE:BH (stm 49)=[.Try XX [.ExceptHandler (some (.Name ("ScanError":Str) ⟨671,11,671,20⟩)) none [.Return (some (.Constant (.str De) 0 ⟨672,15,672,24⟩)) ⟨672,8,672,24⟩] ⟨671,4,672,24⟩] [] [] ⟨669,4,672,24⟩,Xm]:=by kernel_rfl
theorem ak:ckSs Nf (AZ (stm 49)) XX=true:=by kernel_rfl
theorem XB:ckSs KA (AZ (stm 49)) [Xm]=true:=by kernel_rfl
theorem WQ(P:Params):shp P 927=some (.stmts (BH (stm 49)),AZ (stm 49),[("tables":Str),("text":Str)],true,true):=by kernel_rfl
theorem XH(P:Params)(S:Setting)(f:Nat→Value):NQ P S f 927=NR P f 927:=by kernel_rfl
theorem eI:(AZ (stm 49)).names.lookup ("ScanError":Str)=some .globalImplicit:=by kernel_rfl
theorem al:[("tables":Str),("text":Str)].map cd=[AE,AK]:=by kernel_rfl
section
variable{b:Bc}{A:Around}{M M':Mp}{s s':Shared}{ρ:Rho}{L:LH}{X:Prop}{e:Value}{E:Value→Shared→Prop}
theorem Sx.ch(st:Sx b A M ρ L s):Sx {b with X:=X} A M ρ L s:=⟨st.hP,st.top,st.len,st.hL,st.nd,st.fr,st.var,st.loc,st.cel,st.gens,st.os⟩
theorem Go.ch(g:Go b A M s M' s'):Go {b with X:=X} A M s M' s':=⟨g.le,g.new,g.keep⟩
theorem Amb.ch(a:Amb b A):Amb {b with X:=X} A:=⟨a.hand,a.grd,a.dep,a.uni,a.frs,a.kind,a.glob,a.blt,a.frm,a.has,a.inj⟩
theorem Sx.caught{base h:Heap}{tk:Nat}(st:Sx b A M ρ [] s)(kp:Kp b A M s s')(fx:Frx b s'.heap)(gs:s'.gens= #[])(os:s'.os=b.os)(z:∀a o,¬Own b M a→¬Bl A a→s.heap.get? a=some o→base.get? a=some o)(sb:base.StaysIn h)(up:s'.heap.UpToSlots h):
 Sx b A M [] [] {s' with heap:=h,toks:=tk}∧Go b A M s M {s' with heap:=h,toks:=tk}:=by
 have at_:=Xz (N:=fun a=>¬Own b M a) (fun a f=>(st.fr a f).2.2) kp z sb up
 refine⟨⟨fun a o e=>(at_ a o (fun q=>nos (q.1.symm.trans e)) (st.hP _ _ e)).exact fun f=>nos ((st.fr a f).1.symm.trans e),st.top,st.len,fun i x e=>nos e,st.nd,fun a f=> ?_,fx.ns.imp fun m hn=>⟨up.ns hn,fun x v zz e=>nos e⟩,st.loc,fun x c e=>⟨(fx.cel x c e).imp fun y ⟨o,d,d2⟩=> ?_,(st.cel x c e).2⟩,gs,os⟩, .refl _,fun a o e h=> .inr (.inr h.old),at_⟩
 ·refine hid fun Gg gg=> ?_
  obtain⟨f1,f2,o,es,n,e,d⟩:=st.fr a f
  refine gg ?_
  refine⟨f1,f2, ?_⟩
  by_cases q:Own b M a
  ·rcases q.2 with q|⟨z,q,_⟩|q
   ·refine hid fun Gg gg=> ?_
    obtain⟨m,hn⟩:=fx.ns
    obtain⟨o,es,ep,e1,e2,_⟩:=up.ns hn
    refine gg ?_
    exact⟨o,es,ep,q▸e1,e2⟩
   ·refine hid fun Gg gg=> ?_
    obtain⟨⟨y,o',e1,e2⟩,_⟩:=st.cel z a q
    cases e.symm.trans e1
    refine gg ?_
    rw[d]at e2;cases e2
   ·exact absurd q f2
  ·refine hid fun Gg gg=> ?_
   obtain⟨sl,e1,_⟩:=at_ a o q e
   refine gg ?_
   exact⟨_,es,n,e1,d⟩
 ·obtain⟨sl,d3⟩:=up c o d fun vs q=>by rw[d2]at q;cases q
  exact⟨_,d3,d2⟩
theorem XC{Q':Flow→Shared→Prop}{np hp rp cp:Pos}{kk:Nat}{outer:List Env}(hl:b.env.kindOf ("ScanError":Str)=some .globalImplicit)(st:Sx b A M ρ [] s)(am:Amb b A)(hfr:A.frames=some (b.env::outer))
 (kp:Kp b A M s s')(fx:Frx b s'.heap)(gs:s'.gens= #[])(os:s'.os=b.os)(fl:FN b A M s e s'.heap)
 (q:∀h tk,Sx b A M [] [] {s' with heap:=h,toks:=tk+1}→Go b A M s M {s' with heap:=h,toks:=tk+1}→Q' (.ret (.str De tk)) {s' with heap:=h,toks:=tk+1}):
 wpAny (model pw_nn0409_01 b.w) A (noteFrame e b.env) (fun zz s₂=>wpAny (model pw_nn0409_01 b.w) A (setFlight e none) (fun zz s₃=>wpAny (model pw_nn0409_01 b.w) A (handleBy e b.env [.ExceptHandler (some (.Name ("ScanError":Str) np)) none [.Return (some (.Constant (.str De) kk cp)) rp] hp]) Q' E s₃) E s₂) E s':=by
 obtain⟨L,hL,_⟩:=am.frm
 refine FN.noted fl hfr hL fun base x0 a0 h1 ee z hh up1=> ?_
 subst ee
 refine wpAny_landsW hh fun h2 fl2 up2=> ?_
 have up02:=up1.trans up2
 have st2:=(st.caught (tk:=s'.toks) kp fx gs os z fl2.1 up02).1
 refine wpAny_handleBy_cons (codeAny_handlers_test ?_) (fun q=>by cases q)
 refine wpAny_Name (D6 (v:= .ref 309) am.kind hl ?_) (by kernel_rfl)
 unfold loadGlobal
 rw[am.glob,am.blt]
 refine wpAny_bind ((looks_nsIn st2.kIn (eq_of_beq (an (IZ b.w.params)).1)).here (wpAny_pure ?_))
 obtain⟨ob,hob,hobc⟩:=fl2.there
 have hC':h2.get? 309=some (excClassObj BQ BQ 309 308 [.ref 284] bmS true [] [] false none none (some (.ref 300)) none (some (.str BQ 609)) (some (.str BQ 617)) (some (.bool true)) "Exception.__new__"):=st2.kIn _ _ (Ol _)
 obtain⟨hp2,g2,d2,tk2,os2⟩:=s'
 refine wpAny_excMatches_sub_self hC' hob hobc (by decide+kernel) ?_
 show codeAny _ _ (.handlers (.ref x0) [.ExceptHandler none none [.Return (some (.Constant (.str De) kk cp)) rp] hp] b.env) _ _
 refine codeAny_handlers_suite (lands_againW fl2 fun h3 fl3 up3=> ?_)
 rw[arm_execs_cons]
 refine wpAny_bind (wpAny_Return_some (wpAny_Constant_str ?_))
 refine wpAny_pure ?_
 have r:=st.caught (tk:=tk2+1) kp fx gs os z fl3.1 (up02.trans up3)
 exact q h3 tk2 r.1 r.2
end
theorem LU(w:World)(os:OsState):Oq w os (.t (.fn 927)) fun KT xk X vl Q L=>Fs KT xk X vl Q L:=fun k X IH env M ρ L j Q vl x xs hP hx hv hc hf ho h=>by
 refine hid fun Gg gg=> ?_
 obtain⟨eL,v1,v2,rfl,XT,h,hq⟩:=h
 cases hx
 obtain⟨fd,_,F,hsc,hb⟩:=Jp (WQ w.params) XH
 refine gg ?_
 refine Ka (keep:=0) (b:=⟨w,os,2*k+2,X,env⟩) (n:=2*k) (Nat.le_succ _) (F.mono hP) hv hc ho (by rw[eL];exact Nat.le_refl _) (fun A Q E s hs q=>hb xs (by rw[←hv.length];rfl) A Q E s (fun a o e=>hs a o (hP a o e)) q) fun A M₁ env' s₁ l hs fr am st E ex=> ?_
 have hs':=hs.trans hsc
 rw[eL]at st
 rw[al]at st
 have pre:=sndL DJ Nf (sc:=AZ (stm 49)) XX ak ⟨w,os,2*k,XT,env'⟩ _ M₁ _ _ _ hs' (ET IH env') h
 obtain⟨outer,hfr⟩:=fr
 have hl:env'.kindOf ("ScanError":Str)=some .globalImplicit:=by unfold Env.kindOf;rw[hs'];exact eI
 show wpAny _ A (execs _ env') _ E s₁
 rw[XE,arm_execs_cons]
 refine wpAny_bind (wpAny_Try_except (wpAny_mono (pre A M₁ s₁ _ (.refl _) am.ch st.ch fun hX=>⟨⟨outer,hfr⟩,fun e s' kp fx gs ho' fl=> ?_⟩) (fun fl s' p=>p.use fun M2 f ρ2 L2 g st2 r q=> ?_) fun zz zz e=>e))
 rotate_left
 ·refine hid fun Gg gg=> ?_
  obtain⟨rfl,q⟩:=q
  cases r
  refine gg ?_
  show wpAny _ A (execs [] env') _ _ _
  rw[arm_execs_nil]
  have g:=g.ch (X:=X)
  exact wpAny_pure (wpAny_mono (sndL DJ KA (sc:=AZ (stm 49)) [Xm] XB ⟨w,os,2*k,X,env'⟩ _ M2 _ _ _ hs' (ET IH env') q A M2 s' E (.refl _) am st2.ch (ex.weak g)) (fun zz zz p=>p.after g) fun zz zz e=>e)
 ·exact XC (b:=⟨w,os,2*k,XT,env'⟩) hl st.ch am.ch hfr kp fx gs ho' fl fun h tk st2 g=>wpAny_pure (.mk (x:=Fl.ret (vs De)) g.ch st2.ch ⟨_,rfl,tk,rfl⟩ (hq hX))
end
theorem Wo{w:World}{os:OsState}:Vk w os:=⟨fun zz zz=>XL,fun zz zz=>XM,P8 w os,LV w os,LU w os⟩
noncomputable def isT(v:V)(L:LH):Prop:=v=vb true∧L[0]? =some .tab
noncomputable def Law(k:Nat):Prop:=∀ns:List Int,wss fn932.body ⟨AC k False,AC k False,False∧1≤k⟩ [(xscript, .t (.fl (ns.map .int)))] (DX isT) [.raw o9]
theorem aV(call:WalkX qv lz (fun zz zz=>True) (fun s=>s.heap) (fun w=>H1 w.params) rr.toRowW IL [] fun f vs=>PySem.call f vs):rw_nn0409_01.Holds:=by
 refine holds_law UC fun zz=>holds_openX (q:=qv) (loose:=lz) (Xt:=fun zz=>true) (XP:=fun zz zz=>True) (Yf:=fun s:Shared=>s.heap) (Ya:=fun w:World=>H1 w.params) (N:=20000) (d:=IL) (kwd:=[])
  Ul (fun zz zz=>trivial) (fun zz zz zz zz zz=>trivial) Qk Ma bl (fun zz zz=>recFacts_nil rfl) rfl ?_ ok_ ⟨rfl,rfl,rfl,rfl,rfl,by decide+kernel⟩ ?_ call
 ·exact row_said UC
 ·w_witness2
theorem Tv{w:World}{s₀ s₁:Shared}{args:List WData}{vals:List Value}{as:List Addr}(L:Laid rr.toRowW.records w s₀ s₁ args vals as)(hpre:rr.toRowW.claim.pre args=true)(hlay:WData.layableAll args=true)
 (hrd:ReadsAllW rr.toRowW.records (classAt s₀.heap) s₁.heap vals args as)(hwl:WellAll w.params s₁.heap vals args)(hlo:∀a∈as,(a==sysModules)=false):
 ∃(ns:List Int) (l:Addr) (vs:List Value),vals=[.ref l]∧s₁.heap.get? l=some {cls:= .type "list",data:= .seq vs.toArray}∧IntsAre vs ns∧ns.length≤63:=by
 wrow_args hpre hlay hrd hwl hlo
 exact⟨_,_,_,rfl,X.script_obj L ‹_›,‹_›,by exact l10 (.H .inlt 1 (.c (.n 63)) (.c W0) (Gb W0 (.n 63))) rfl (by assumption)⟩
set_option tactic.hygienic true in
theorem Lj{K:Frag}{h:Heap}{N:Addr}{mg:Str→Option Value}{n:Str}{v:Value}(X:K.In h)(G:h.Ns N mg)(e:nsIn K N n=some (some v)):mg n=some v:=by
 refine hid fun Gg gg=> ?_
 obtain⟨o,es,ep,ho,hd,_,hf⟩:=G
 refine gg ?_
 unfold nsIn at e
 split at e
 ·rename_i c d es' n' sl q
  cases ho.symm.trans (X _ _ q)
  cases hd
  split at e
  ·rename_i he
   rw[←hf]
   unfold nsFind findBy
   rw[←Array.find?_toList,he]
   simpa using e
  ·split at e<;>cases e
 ·cases e
theorem Wp(P:Params):nsIn (KT P) 3 ("law":Str)=some (some (.ref 932)):=by kernel_rfl
theorem ei(P:Params):(Nat.blt 900 933,(T19 P).get 900,((T19 P).get 900).bind alive)=(true,some o9,some o9):=by kernel_rfl
theorem Wv(P:Params):(H1 P).get? 900=some o9:=by
 have e:=ei P
 rw[Prod.mk.injEq,Prod.mk.injEq]at e
 unfold H1
 rw[abs_get (by decide) e.2.1]
 rw[e.2.1]at e;exact e.2.2
theorem gD:(932,fn932)∈FL:=by
 have e:FA 932=some fn932:=rfl
 obtain⟨⟨x,f⟩,e,h2⟩:=Option.map_eq_some_iff.mp e
 cases Nat.eq_of_beq_eq_true (List.find?_some (p:=fun p:Addr×Fn=>Nat.beq p.1 932) e)
 cases show f=fn932 from h2
 exact List.mem_of_find?_eq_some e
theorem PRs.ints{w:World}{P:PH}:∀{vs:List Value}{ns:List Int},IntsAre vs ns→PRs w P (ns.map Tr.int) vs
 |_,_, .nil=>rfl
 |_,_, .cons n t h=>⟨⟨t,rfl⟩,PRs.ints h⟩
theorem ah{k:Nat}(hk:k≤15)(law:Law k):WalkX qv lz (fun zz zz=>True) (fun s=>s.heap) (fun w=>H1 w.params) rr.toRowW IL [] fun f vs=>PySem.call f vs:=by
 intro w s₀ s₁ mg mb G Y a o pm cd doc dV kV h1 h2 h3 h4 h5 gens args vals as L hpre hlay hrd hwl hlo
 have ek:∀b o,(H1 w.params).get? b=some o→s₁.heap.get? b=some o:=fun b o e=>L.keeps b o (by rw[show s₀.heap=H1 w.params from Y];exact e)
 have kin:(KT w.params).In s₁.heap:=fun b o e=>ek b o (MN e)
 have ea:=Lj kin G.T.g (Wp w.params)
 have:mg ("law":Str)=some (.ref a):=h5
 rw[this]at ea
 cases ea
 refine hid fun Gg gg=> ?_
 obtain⟨ns,l,vs,rfl,hl,hi,hn⟩:=Tv L hpre hlay hrd hwl hlo
 refine gg ?_
 have e9:s₁.heap.get? 900=some o9:=ek _ _ (Wv _)
 have nl:l≠900:=fun q=>by rw[q,e9]at hl;cases hl
 let P:PH:=fun b=>if b=900 then none else s₁.heap.get? b
 have pn:∀{b o},b≠900→s₁.heap.get? b=some o→P b=some o:=fun n e=>(if_neg n).trans e
 have p9:P 900=none:=if_pos rfl
 have pg:∀{b o},P b=some o→s₁.heap.get? b=some o:=fun{b o} e=>by
  by_cases q:b=900
  ·subst q;exact nos (p9.symm.trans e)
  ·exact(if_neg q).symm.trans e
 have sy:Sy w s₁.os callerA ⟨P,[900]⟩ [.raw o9] s₁:=⟨fun b o e=>pg e,fun b o n e=>pn n (ek b o e),rfl,fun i x e=>by
  match i,e with
  |0,e=>cases e;exact⟨900,o9,rfl,e9, .inr ⟨p9,rfl,fun zz=> .inr rfl⟩⟩,List.pairwise_singleton _ _,fun a ⟨l,e,f1,f2,_⟩=>by cases f1;exact absurd f2 List.not_mem_nil,gens,rfl⟩
 have lt:∀b o,KTp w b=some o→P b=some o:=fun b o e=>sy.kP e
 refine hid fun Gg gg=> ?_
 obtain⟨fd,body,ps,F,hp,hck,ds,hds,bind⟩:=Mz (w:=w) gD
 refine gg ?_
 have hpl:ps.length=1:=by have:=congrArg List.length hp;rw[List.length_map]at this;exact this
 have hdl:ds=[]:=List.eq_nil_of_length_eq_zero hds.length.symm
 subst hdl
 have hv:VRs w ⟨P,[900]⟩ [.t (.fl (ns.map .int))] [.ref l]:=⟨⟨l,vs,rfl,⟨⟨0,pn nl hl⟩,by have:=(PRs.ints (w:=w) (P:=P) hi).length;rw[List.length_map]at this;exact(l20 (Hb W0 (.n 63) (Hd W0 X1 (Gb X1 Yb))) rfl hn this)⟩,PRs.ints hi⟩,rfl⟩
 refine wpAny_call (RC (M:=⟨P,[900]⟩) (X:=False) (n:=2*k) (F.mono lt) sy ⟨rfl,rfl,by show 301+8*(2*k+1)≤600;exact(l10 (.H .nle 16 W0 (.n 15) (Gb (.a (.n 301) (.m 8 (.a (.m 2 W0) Y1))) (.n 600))) rfl hk),by show 4+40*(2*k+1)≤9000;exact(l10 (.H .nle 80 W0 (.n 15) (Gb (.a Y4 (.m 40 (.a (.m 2 W0) Y1))) (.n 9000))) rfl hk),[],rfl,fun e h=>absurd h List.not_mem_nil⟩ hv (fun A Q E s hs q=>bind [.ref l] (by rw[hpl];exact Nat.le_refl _) (by rw[hpl];exact Nat.le_refl _) A Q E s (fun a o e=>hs a o (lt a o e)) (by rw[List.drop_nil,List.append_nil];exact q)) (Q:=isT)
  (fun env' hs=> ?_) (fun hX=>hX.elim) fun v y s' M' L' hz hvy q=> ?_)
 ·rw[hp]
  exact sndL DJ fn932.body _ _ hck _ _ _ _ _ _ hs (ET (G7 DJ Wo k) env') (law ns)
 ·refine hid fun Gg gg=> ?_
  obtain⟨rfl,q⟩:=q
  cases hvy
  obtain⟨_,og,sy',rfl⟩:=hz L' (fun M''=>M''=M') fun b' A' ρ' e st'=> .mk (.refl _) st' rfl
  obtain⟨a9,o',f1,f2,f3⟩:=sy'.hL _ _ q
  cases f1.symm.trans (og.le.φ 0 900 rfl)
  obtain⟨_,vs',rfl⟩:=f3.resolve_left fun q=>by cases q.1
  refine gg ?_
  refine⟨.inl ⟨_, .bool true,[],rfl,fun zz=>rfl, .bool true,by wrow_post,fun zz=>⟨.nil,fun zz h=>by cases h⟩⟩,⟨fun b o e=> ?_,fun b o e=> ?_⟩,sy'.os, .of_eq sy'.gens⟩
  ·by_cases q:b=900
   ·subst q
    cases e9.symm.trans e
    exact .inr (.inl ⟨⟨904,_,_,kin _ _ (bm _),rfl,rfl,rfl⟩,rfl, #[],vs',rfl,by rw[f2];simp[o9,XZ]⟩)
   ·exact .inl (sy'.hP _ _ (og.le.P _ _ (pn q e)))
  ·by_cases q:b=900
   ·subst q;exact⟨_,f2⟩
   ·exact⟨_,sy'.hP _ _ (og.le.P _ _ (pn q e))⟩
theorem Pt{k:Nat}(hk:k≤15)(law:Law k):rw_nn0409_01.Holds:=aV (ah hk law)
section
section
variable{α:Type}{P R:Prop}{b:Bool}
theorem CJ{o:Option α}{a:α}{k:α→Prop}(e:o=some a)(h:k a):Ax o k:=by subst e;exact h
theorem AD{o:Option α}{a:α}{k:α→Prop}(e:o=some a)(h:k a):D3 o k:=by subst e;exact h
theorem CE(e:b=true)(h:P):tru b P:=by subst e;exact h
theorem A6(h1:b=true→P)(h2:b=false→R):ifB b P R:=by cases b;exact h2 rfl;exact h1 rfl
theorem Cf(h1:b=false→P)(h2:b=true→R):ifB (!b) P R:=by cases b;exact h1 rfl;exact h2 rfl
theorem Ur(e:b=true)(h:P):ifB b P R:=by subst e;exact h
theorem RB(e:b=false)(h:R):ifB b P R:=by subst e;exact h
theorem Br{p:Prop}[d:Decidable p](h1:p→P)(h2:¬p→R):ifB (decide p) P R:=A6 (fun h=>h1 (of_decide_eq_true h)) fun h=>h2 (of_decide_eq_false h)
theorem Uq{p:Prop}[d:Decidable p](e:p)(h:P):ifB (decide p) P R:=Ur (decide_eq_true e) h
theorem LK{p:Prop}[d:Decidable p](e:¬p)(h:R):ifB (decide p) P R:=RB (decide_eq_false e) h
theorem C3{i j:Int}(h1:i=j→P)(h2:i≠j→R):ifB (i==j) P R:=A6 (fun h=>h1 (eq_of_beq h)) fun h=>h2 (ne_of_beq_false h)
theorem Jc{i j:Int}(h1:i≠j→P)(h2:i=j→R):ifB (!(i==j)) P R:=Cf (fun h=>h1 (ne_of_beq_false h)) fun h=>h2 (eq_of_beq h)
theorem GX{l:List α}(h1:l≠[]→P)(h2:l=[]→R):ifB (!l.isEmpty) P R:=by cases l;exact h2 rfl;exact h1 (by intro xx;contradiction)
end
theorem AN{α:Type}{f:α→Tr}{l:List α}{k:Int}{a:α}(h0:0≤k)(h:l[k.toNat]? =some a):CW (l.map f) k=some (f a):=by
 unfold CW;rw[if_pos h0,List.getElem?_map,h];rfl
noncomputable abbrev cx(k:Nat)(X:Prop):Ctx:=⟨AC k X,AC k False,X∧1≤k⟩
noncomputable abbrev fnV(a:Addr):V:= .t (.fn a)
structure Ret(K:KT')(a:Addr)(vl:List V)(v:Tr):Prop where
 run:∀Q:Post,Q (.t v) []→K (fnV a) vl Q []
section
variable{k:Nat}{X:Prop}{K:KT'}{a C i:Addr}{f:Fn}{vl:List V}{ts:List Tr}{ρ:Rho}{x:Tr}{Q:Post}{L:LH}
theorem Gl{Q:Post}{L:LH}(hF:FA a=some f)(h:fnW (cx k X) f vl Q L):AC (k+1) X (fnV a) vl Q L:=by
 show Ni a _ vl Q L _ (FA a)
 rw[hF]
 exact h
theorem Af(hF:FA a=some f)(hk:f.keep=0)(hρ:f.env vl=some ρ)(h:∀K K0,K=AC k X→K0=AC k False→∀Q:QS,(∀ρ' L',Q (.ret (.t x)) ρ' L')→wss f.body ⟨K,K0,X∧1≤k⟩ ρ Q []):Ret (AC (k+1) X) a vl x:=⟨fun Q hq=>
 Gl hF (CE rfl (CJ hρ (h _ _ rfl rfl _ fun zz L'=>by rw[hk];exact hq)))⟩
theorem Al(h:Ret K a vl x)(hv:vl.all (Bs 0)=true)(hq:Q (.t x) L):FK K 0 (fnV a) vl Q L:=CE hv (h.run _ (by cases L<;>exact hq))
end
section
variable{c:Ctx}{ρ:Rho}{Q:QS}{L:LH}
theorem Kx:cut L.length L=L:=by unfold cut;cases clL L.length L.length L;rfl;exact List.take_length
theorem Jk{α:Type}{n:Nat}{step:V→(V→LH→Prop)→(LH→Prop)→LH→Prop}{fin:List Tr→LH→Prop}{f:α→Tr}(I:Nat→LH→List Tr→Prop):∀(l:List α){i:Nat}{L:LH}{acc:List Tr},I i L acc→
 (∀j x L acc,l[j]? =some x→I (i+j) L acc→∀yes no,(∀y L',I (i+j+1) (cut n L') (acc++[y])→yes (.t y) L')→(∀L',I (i+j+1) (cut n L') acc→no L')→step (.t (f x)) yes no L)→
 (∀L acc,I (i+l.length) L acc→fin acc L)→EE n step fin (l.map f) acc L
 |[],i,L,acc,h0,_,fn=>fn _ _ h0
 |x::r,i,L,acc,h0,st,fn=>by
  have next:∀L acc,I (i+0+1) L acc→EE n step fin (r.map f) acc L:=fun L acc h=>Jk I r h (fun j y L acc e=>by
   rw[show i+0+1+j=i+(j+1) by lia];exact st (j+1) y L acc e) fun L acc h=>fn L acc (by rw[List.length_cons,show i+(r.length+1)=i+0+1+r.length by lia];exact h)
  exact st 0 x L acc rfl h0 _ _ (fun y L' h=>next _ _ h) fun L' h=>next _ _ h
theorem Db{α:Type}{n:Nat}{step:V→(V→LH→Prop)→(LH→Prop)→LH→Prop}{fin:List Tr→LH→Prop}{f g:α→Tr}{p:α→Bool}:∀(l:List α){acc:List Tr},
 (∀x∈l,∀yes no,(p x=true→∀L',cut n L'=L→yes (.t (g x)) L')→(p x=false→∀L',cut n L'=L→no L')→step (.t (f x)) yes no L)→fin (acc++(l.filter p).map g) L→EE n step fin (l.map f) acc L
 |[],acc,_,h=>by rw[show acc=acc++([].filter p).map g from(List.append_nil acc).symm];exact h
 |x::r,acc,st,h=>st x List.mem_cons_self _ _ (fun e L' e2=>by
  rw[e2];exact Db r (fun y hy=>st y (List.mem_cons_of_mem _ hy)) (by simpa[List.filter_cons,e]using h)) fun e L' e2=>by
  rw[e2];exact Db r (fun y hy=>st y (List.mem_cons_of_mem _ hy)) (by simpa[List.filter_cons,e]using h)
theorem Bz{α:Type}{n:Nat}{step:V→(V→LH→Prop)→(LH→Prop)→LH→Prop}{fin:List Tr→LH→Prop}{f g:α→Tr}{p:α→Bool}{ts:List Tr}(l:List α)
 (st:∀x∈l,∀yes:V→LH→Prop,∀no:LH→Prop,(p x=true→∀L',cut n L'=L→yes (.t (g x)) L')→(p x=false→∀L',cut n L'=L→no L')→step (.t (f x)) yes no L)(h:fin ((l.filter p).map g) L)(hl:ts=l.map f:=by rfl):EE n step fin ts [] L:=by
 subst hl;exact Db l st h
theorem C4{α:Type}{n:Nat}{step:V→(V→LH→Prop)→(LH→Prop)→LH→Prop}{fin:List Tr→LH→Prop}{f g:α→Tr}{ts:List Tr}(l:List α)
 (st:∀x∈l,∀yes:V→LH→Prop,∀no,(∀L',cut n L'=L→yes (.t (g x)) L')→step (.t (f x)) yes no L)(h:fin (l.map g) L)(hl:ts=l.map f:=by rfl):EE n step fin ts [] L:=
 Bz (p:=fun zz=>true) l (fun x hx yes no h1 zz=>st x hx yes no (h1 rfl)) (by rw[List.filter_eq_self.mpr fun zz zz=>rfl];exact h) hl
theorem E5{α:Type}{n:Nat}{ρ0:Rho}{step:V→QS→Rho→LH→Prop}{f:α→Tr}(I:Nat→Rho→LH→Prop):∀(l:List α){i:Nat}{ρ:Rho}{L:LH},I i ρ L→
 (∀j x ρ L,l[j]? =some x→I (i+j) ρ L→∀Z:QS,(∀ρ₂ L₂,I (i+j+1) (Cy ρ0 n ρ₂) (cut n L₂)→Z .next ρ₂ L₂∧Z .cont ρ₂ L₂)→(∀ρ₂ L₂,Q .next (Cy ρ0 n ρ₂) (cut n L₂)→Z .brk ρ₂ L₂)→(∀v ρ₂ L₂,Q (.ret v) ρ₂ L₂→Z (.ret v) ρ₂ L₂)→step (.t (f x)) Z ρ L)→
 (∀ρ L,I (i+l.length) ρ L→Q .next ρ L)→IG ρ0 n step Q (l.map f) ρ L
 |[],i,ρ,L,h0,_,fn=>fn _ _ h0
 |x::r,i,ρ,L,h0,st,fn=>by
  have next:∀ρ L,I (i+0+1) ρ L→IG ρ0 n step Q (r.map f) ρ L:=fun ρ L h=>E5 I r h (fun j y ρ L e=>by
   rw[show i+0+1+j=i+(j+1) by lia];exact st (j+1) y ρ L e) fun ρ L h=>fn ρ L (by rw[List.length_cons,show i+(r.length+1)=i+0+1+r.length by lia];exact h)
  exact st 0 x ρ L rfl h0 _ (fun ρ₂ L₂ h=>⟨next _ _ h,next _ _ h⟩) (fun zz zz h=>h) fun zz zz zz h=>h
theorem Ag{α σ:Type}{n:Nat}{ρ0:Rho}{step:V→QS→Rho→LH→Prop}{f:α→Tr}{ts:List Tr}(R:σ→Rho)(G:σ→LH)(g:σ→α→σ)(I:Nat→σ→Prop)(l:List α)(s:σ)(h0:I 0 s)
 (st:∀i s x,l[i]? =some x→I i s→∀Z:QS,(I (i+1) (g s x)→∀ρ₂ L₂,Cy ρ0 n ρ₂=R (g s x)→cut n L₂=G (g s x)→Z .next ρ₂ L₂∧Z .cont ρ₂ L₂)→step (.t (f x)) Z (R s) (G s))
 (fin:I l.length (l.foldl g s)→Q .next (R (l.foldl g s)) (G (l.foldl g s)))(hl:ts=l.map f:=by rfl):IG ρ0 n step Q ts (R s) (G s):=by
 subst hl
 refine E5 (fun i ρ L=>I i ((l.take i).foldl g s)∧ρ=R ((l.take i).foldl g s)∧L=G ((l.take i).foldl g s)) l ⟨h0,rfl,rfl⟩ ?_ ?_
 ·rintro i x ρ L hx ⟨hi,rfl,rfl⟩ Z hZ _ _
  rw[Nat.zero_add]at hi hZ⊢
  have e:(l.take (i+1)).foldl g s=g ((l.take i).foldl g s) x:=by
   rw[List.take_add_one,hx,List.foldl_append];rfl
  rw[e]at hZ
  exact st i _ x hx hi Z fun h ρ₂ L₂ e1 e2=>hZ ρ₂ L₂ ⟨h,e1,e2⟩
 ·rintro ρ L ⟨hi,rfl,rfl⟩
  rw[Nat.zero_add,List.take_length]at hi⊢
  exact fin hi
theorem EO{σ:Type}{t:Bx}{b:Sts}(R:σ→Rho)(G:σ→LH)(I:Nat→σ→Prop)(k:Nat)(s0:σ)(h0:I k s0)
 (st:∀k s,I k s→∀Z:QS,(∀m s',m<k→I m s'→∀ρ₂ L₂,Cy (R s0) (G s0).length ρ₂=R s'→cut (G s0).length L₂=G s'→Z .next ρ₂ L₂∧Z .cont ρ₂ L₂)→(∀ρ₂ L₂,Q .next (Cy (R s0) (G s0).length ρ₂) (cut (G s0).length L₂)→Z .brk ρ₂ L₂)→
  (∀v ρ₂ L₂,Q (.ret v) ρ₂ L₂→Z (.ret v) ρ₂ L₂)→wb t c (R s) (fun t L₁=>ifB t (wss b c (R s) Z L₁) (Q .next (Cy (R s0) (G s0).length (R s)) (cut (G s0).length L₁))) (G s)):wst (.whl t b) c (R s0) Q (G s0):=by
 refine⟨fun k ρ L=>∃s,I k s∧ρ=R s∧L=G s,⟨k,s0,h0,rfl,rfl⟩, ?_⟩
 rintro k ρ L ⟨s,hs,rfl,rfl⟩
 exact st k s hs _ (fun m s' hm hs' ρ₂ L₂ e1 e2=>⟨⟨m,hm,s',hs',e1,e2⟩,⟨m,hm,s',hs',e1,e2⟩⟩) (fun zz zz h=>h) fun zz zz zz h=>h
end
structure Aut where
 rows:List (List Int)
 tags:List (List Nat)
noncomputable def AQ(l:List Int):Tr:= .fl (l.map Tr.int)
noncomputable def Bv(l:List Nat):Tr:= .tup (l.map fun n=>Tr.int (Int.ofNat n))
noncomputable def A8(A:Aut):Tr:= .fi 76 [Cu,At] [.fl (A.rows.map AQ), .fl (A.tags.map Bv)]
section
variable{k:Nat}{X:Prop}{A:Aut}{q c v:Int}{r:List Int}
theorem c76{a b:Tr}:Ret (AC (k+1) X) 76 [.t a, .t b] (.fi 76 [Cu,At] [a,b]):=⟨fun Q hq=>hq⟩
theorem c63(h:(q= -1∧v= -1)∨(0≤q∧A.rows[q.toNat]? =some r∧0≤c∧r[c.toNat]? =some v)):Ret (AC (k+1) X) 63 [.t (A8 A),vi q,vi c] (.int v):=by
 refine Af (f:=b8) rfl rfl rfl fun K K0 zz zz Q hQ=> ?_
 rcases h with⟨rfl,rfl⟩|⟨h0,h1,h2,h3⟩
 ·exact hQ _ _
 ·have e1:=AN (f:=AQ) h0 h1
  have n3:=(List.getElem?_eq_some_iff.mp h3).1
  refine C3 (fun h=>absurd (h▸h0) (by decide)) fun zz=>LK (Int.not_lt.mpr h2) (AD e1 (LK ?_ (AD e1 (AD (AN (f:=Tr.int) h2 h3) (hQ _ _)))))
  rw[List.length_map];lia
theorem YI{t:List Nat}(h:(q= -1∧t=[])∨(0≤q∧A.tags[q.toNat]? =some t)):Ret (AC (k+1) X) 184 [.t (A8 A),vi q] (.bool (!t.isEmpty)):=by
 refine Af (f:=VS) rfl rfl rfl fun K K0 zz zz Q hQ=> ?_
 rcases h with⟨rfl,rfl⟩|⟨h0,h1⟩
 ·exact hQ _ _
 ·rw[show(!t.isEmpty)=decide ((0:Int)<((t.map fun n=>Tr.int (Int.ofNat n)).length:Nat)) by cases t<;>simp]at hQ
  exact Jc (fun zz=>AD (AN (f:=Bv) h0 h1) (hQ _ _)) fun h=>absurd (h▸h0) (by decide)
theorem c68:Ret (AC (k+1) X) 68 [.t (A8 A)] (.fl (A.rows.map fun r=>AQ (r.filter (· != -1)))):=by
 refine Af (f:=bz) rfl rfl rfl fun K K0 zz zz Q hQ=> ?_
 refine C4 A.rows (g:=fun r:List Int=>AQ (r.filter (· != -1))) (fun r zz yes zz z=> ?_) (hQ _ _)
 refine Bz (f:=Tr.int) r (g:=Tr.int) (p:=(· != -1)) (fun v zz yes' no' z1 z2=> ?_) (z _ rfl)
 exact Jc (fun h=>z1 (bne_iff_ne.mpr h) _ rfl) fun h=>z2 (by rw[h];rfl) _ rfl
end
end
section
structure GN(K:KT')(a:Addr)(vl:List V)(P:Tr→Prop):Prop where
 run:∀Q:Post,(∀x,P x→Q (.t x) [])→K (fnV a) vl Q []
section
variable{k:Nat}{X:Prop}{K:KT'}{a:Addr}{f:Fn}{vl:List V}{ρ:Rho}{Q:Post}{L:LH}{P:Tr→Prop}
theorem GU(hF:FA a=some f)(hk:f.keep=0)(hρ:f.env vl=some ρ)(h:∀K K0,K=AC k X→K0=AC k False→∀Q:QS,(∀x ρ' L',P x→Q (.ret (.t x)) ρ' L')→wss f.body ⟨K,K0,X∧1≤k⟩ ρ Q []):GN (AC (k+1) X) a vl P:=⟨fun Q hq=>
 Gl hF (CE rfl (CJ hρ (h _ _ rfl rfl _ fun x zz L' hx=>by rw[hk];exact hq x hx)))⟩
theorem F8(h:GN K a vl P)(hv:vl.all (Bs 0)=true)(hq:∀x,P x→Q (.t x) L):FK K 0 (fnV a) vl Q L:=CE hv (h.run _ fun x hx=>by cases L<;>exact hq x hx)
end
noncomputable def spS(p:List Bool×List Int)(g:Int):List Bool×List Int:=if p.1[g.toNat]? =some true then p else(p.1.set g.toNat true,p.2++[g])
structure NT(n:Nat)(L:List (List Int))(S:List Bool)(W:List Int)(ex:Nat→Prop):Prop where
 len:S.length=n
 zero:S[0]? =some true
 wt:∀g∈W,0≤g∧g<n∧S[g.toNat]? =some true
 clo:∀(i:Nat) r (j:Int),S[i]? =some true→(i:Int)∉W→¬ex i→L[i]? =some r→j∈r→S[j.toNat]? =some true
noncomputable def spM(S:List Bool)(W:List Int):Nat:=2*S.count false+W.length
set_option tactic.hygienic true in
theorem Mi{n:Nat}{L:List (List Int)}{S:List Bool}{W:List Int}{ex:Nat→Prop}(h:NT n L S W ex){g:Int}(hg:0≤g∧g<n):
 NT n L (spS (S,W) g).1 (spS (S,W) g).2 ex∧spM (spS (S,W) g).1 (spS (S,W) g).2≤spM S W∧(spS (S,W) g).1[g.toNat]? =some true∧∀i:Nat,S[i]? =some true→(spS (S,W) g).1[i]? =some true:=by
 unfold spS
 by_cases q:S[g.toNat]? =some true
 ·simp only[q,if_true]
  exact⟨h,Nat.le_refl _,trivial,fun zz e=>e⟩
 ·simp only[q,if_false]
  have hl:g.toNat<S.length:=by have:=h.len;exact(l31 (Hh W0 (.c W0) (Hd X1 W0 (He (.c X2) W0 (Gc X2 X1)))) rfl hg.2 this (Int.toNat_of_nonneg hg.1))
  have up:∀i:Nat,S[i]? =some true→(S.set g.toNat true)[i]? =some true:=fun i e=>by
   rw[List.getElem?_set];split
   ·rename_i q2;simp[hl]
   ·exact e
  have gg:(S.set g.toNat true)[g.toNat]? =some true:=by simp[List.getElem?_set,hl]
  refine⟨⟨by simp[h.len],up _ h.zero,fun x hx=> ?_,fun i r j e1 e2 e3 e4 e5=> ?_⟩, ?_,gg,up⟩
  ·rcases List.mem_append.mp hx with hx|hx
   ·have:=h.wt x hx;exact⟨this.1,this.2.1,up _ this.2.2⟩
   ·simp only[List.mem_singleton]at hx;subst hx;exact⟨hg.1,hg.2,gg⟩
  ·have ni:i≠g.toNat:=fun q2=>e2 (by subst q2;simp;right;exact(Int.le_total _ _).elim (fun x3'=>Int.le_antisymm (l02 (Ha Z0 W0 (He X1 Z0 (Ga X1 W0))) rfl hg.1 (Int.max_eq_right x3')) (l02 (Ha W0 Z0 (Hf X1 Z0 (Ga W0 X1))) rfl x3' (Int.max_eq_right x3'))) (fun x3'=>(Int.max_eq_left x3')))
   rw[List.getElem?_set_ne (Ne.symm ni)]at e1
   exact up _ (h.clo i r j e1 (fun q2=>e2 (by simp[q2])) e3 e4 e5)
  ·have hf:S[g.toNat]=false:=by
    rw[List.getElem?_eq_getElem hl]at q
    simpa using q
   have:(S.set g.toNat true).count false+1=S.count false:=by
    rw[List.count_set hl]
    have:=List.count_pos_iff.mpr (hf▸List.getElem_mem hl:false∈S)
    simp[hf];exact(Nat.sub_add_cancel (l10 (Hg Y0 W0 (Gb Y1 W0)) rfl this))
   unfold spM
   simp only[List.length_append,List.length_cons,List.length_nil]
   exact(l30 (.H .neq 2 (.a W0 Y1) X1 (Gb (.a (.m 2 W0) (.a X2 (.a Y0 Y1))) (.a (.m 2 X1) X2))) rfl this)
theorem Mj{n:Nat}{L:List (List Int)}{ex:Nat→Prop}:∀(r:List Int) (S:List Bool) (W:List Int),NT n L S W ex→(∀g∈r,0≤g∧g<n)→
 NT n L (r.foldl spS (S,W)).1 (r.foldl spS (S,W)).2 ex∧spM (r.foldl spS (S,W)).1 (r.foldl spS (S,W)).2≤spM S W∧(∀g∈r,(r.foldl spS (S,W)).1[g.toNat]? =some true)∧∀i:Nat,S[i]? =some true→(r.foldl spS (S,W)).1[i]? =some true
 |[],S,W,h,_=>⟨h,Nat.le_refl _,fun zz h=>absurd h List.not_mem_nil,fun zz e=>e⟩
 |g::r,S,W,h,hr=>by
  refine hid fun Gg gg=> ?_
  obtain⟨a,b,c,d⟩:=Mi h (hr g List.mem_cons_self)
  obtain⟨a2,b2,c2,d2⟩:=Mj r _ _ a fun x hx=>hr x (List.mem_cons_of_mem _ hx)
  refine gg ?_;clear gg
  refine⟨a2,Nat.le_trans b2 b,fun x hx=> ?_,fun i e=>d2 _ (d _ e)⟩
  rcases List.mem_cons.mp hx with rfl|hx
  ·exact d2 _ c
  ·exact c2 _ hx
theorem Kf{n:Nat}(h:1≤n):((List.replicate n false).set 0 true)[0]? =some true:=by
 cases n with
 |zero=>lia
 |succ n=>rfl
section
variable{k:Nat}{X:Prop}{A:Aut}{L:List (List Int)}
theorem c56:Ret (AC (k+1) X) 56 [.t (A8 A)] (.int A.rows.length):=Af (f:=b9) rfl rfl rfl fun K K0 zz zz Q hQ=>by
 rw[←List.length_map (f:=AQ)]at hQ
 exact hQ _ _
theorem Yg{t:Bx}{b:Sts}{c:Ctx}{ρ:Rho}{Q:QS}{L L':LH}(e:L=L')(h:wst (.whl t b) c ρ Q L'):wst (.whl t b) c ρ Q L:=e▸h
theorem c28(hn:1≤L.length∧L.length≤100)(hL:∀r∈L,∀g∈r,0≤g∧g<L.length):
 GN (AC (k+1) X) 28 [.t (.fl (L.map AQ)), .t (.fl [.int 0])] fun x=>∃bs:List Bool,x= .fl (bs.map .bool)∧bs.length=L.length∧bs[0]? =some true∧∀(i:Nat) (j:Int) r,bs[i]? =some true→L[i]? =some r→j∈r→bs[j.toNat]? =some true:=by
 refine GU (f:=cA) rfl rfl rfl fun K K0 zz zz Q hQ=> ?_
 have hl:(L.map AQ).length=L.length:=List.length_map ..
 refine⟨Int.natCast_nonneg _,by rw[hl];exact(l10 (Hb W0 Yc (Ga (.c W0) (.z 1000))) rfl hn.2), ?_⟩
 refine⟨⟨by decide,by rw[List.length_replicate,hl];exact(l20 (Hb Y1 W0 (Hf (.c X1) (.c W0) (Gd Z0 (.c X1)))) rfl hn.1 (Int.toNat_of_nonneg (l10 (Hb Y1 W0 (Ga Z0 (.c W0))) rfl hn.1)))⟩, ?_⟩
 let R:List Bool×List Int→Rho:=fun zz=>[(Hi, .t (.fl (L.map AQ))),(J0, .t (.fl [.int 0])),(Hu, .ref 1),(DH, .ref 2)]
 let G:List Bool×List Int→LH:=fun s=>[.list [.bool false], .list (s.1.map .bool), .list (s.2.map .int)]
 refine Yg (L':=G ((List.replicate L.length false).set 0 true,[0])) (by
  show[TO.list [.bool false],TO.list ((List.replicate (L.map AQ).length (Tr.bool false)).set 0 (Tr.bool true)),TO.list [.int 0]]=_
  rw[hl,←List.map_replicate,←List.map_set];rfl) ?_
 refine EO R G (fun m s=>NT L.length L s.1 s.2 (fun zz=>False)∧spM s.1 s.2≤300∧m=spM s.1 s.2) _ _ ⟨⟨by simp,Kf hn.1,fun g hg=> ?_,fun i r j e1 e2=> ?_⟩, ?_,rfl⟩ ?_
 ·cases List.mem_singleton.mp hg
  exact⟨by decide,by exact l10 (Hb Y1 W0 (Gd Z0 (.c W0))) rfl hn.1,Kf hn.1⟩
 ·exfalso
  have:0≠i:=fun q=>e2 (q▸List.mem_singleton.mpr rfl)
  rw[List.getElem?_set_ne this,List.getElem?_replicate]at e1
  split at e1<;>simp at e1
 ·unfold spM;have:=List.count_le_length (a:=false) (l:=(List.replicate L.length false).set 0 true);simp at this⊢;exact(l20 (.H .nle 2 W0 Yc (.H .nle 2 X1 W0 (Gb (.m 2 X1) (.n 299)))) rfl hn.2 this)
 ·rintro m ⟨S,W⟩ ⟨ok,hM,rfl⟩ Z hZ _ _
  dsimp only at ok hM hZ
  refine GX (l:=W.map Tr.int) (fun hW=> ?_) fun hW=> ?_
  ·rcases List.eq_nil_or_concat W with rfl|⟨W',g,rfl⟩
   ·exact absurd rfl hW
   have hg:=ok.wt g (by simp)
   refine⟨W'.map Tr.int,Tr.int g,by simp, ?_⟩
   obtain⟨r,hr⟩:∃r,L[g.toNat]? =some r:=⟨_,List.getElem?_eq_getElem (by exact l21 (Hh W0 (.c W0) (He (.c X1) W0 (Gc X1 W0))) rfl hg.2.1 (Int.toNat_of_nonneg hg.1))⟩
   have hrm:∀x∈r,0≤x∧x<L.length:=hL r (List.mem_of_getElem? hr)
   have ok1:NT L.length L S W' (fun i=>(i:Int)=g):=⟨ok.len,ok.zero,fun x hx=>ok.wt x (by simp[hx]),fun i r' j e1 e2 e3 e4 e5=>ok.clo i r' j e1 (by simp;exact⟨e2,e3⟩) (fun q=>q) e4 e5⟩
   have hm:spM S W'<spM S (W'.concat g):=by unfold spM;simp
   obtain⟨f1,f2,f3,f4⟩:=Mj r S W' ok1 hrm
   refine AD (AN hg.1 hr) ?_
   refine Ag (f:=Tr.int) (fun zz=>R (S,W')++[(Ac,vi g)]) G spS (fun zz p=>NT L.length L p.1 p.2 (fun i=>(i:Int)=g)∧spM p.1 p.2≤spM S W') r (S,W') ⟨ok1,Nat.le_refl _⟩ (fun i p x hx hp Z' hz=> ?_) fun hp=> ?_
   ·have hx2:=hrm x (List.mem_of_getElem? hx)
    obtain⟨g1,g2,g3,g4⟩:=Mi hp.1 hx2
    obtain⟨S2,W2⟩:=p
    dsimp only at hp g1 g2 hz
    have hlen:=hp.1.len
    have hW2:W2.length≤300:=by
     have h3:W2.length≤spM S2 W2:=by unfold spM;exact(l20 (.P 0 2 (Gb X1 (.a (.m 2 W0) X1))) rfl)
     exact(l40 (Hb W0 (.n 300) (Hg X1 W0 (Hb X2 X1 (Hb X3 X2 (Gb X3 (.n 300)))))) rfl hM hm hp.2 h3)
    obtain⟨t,ht⟩:∃t,S2[x.toNat]? =some t:=⟨_,List.getElem?_eq_getElem (by exact l31 (Hh W0 (.c W0) (Hd X1 W0 (He (.c X2) W0 (Gc X2 X1)))) rfl hx2.2 hlen (Int.toNat_of_nonneg hx2.1))⟩
    have hz:=hz ⟨g1,Nat.le_trans g2 hp.2⟩
    refine AD (AN (f:=Tr.bool) hx2.1 ht) (Cf ?_ ?_)
    ·rintro rfl
     have e:spS (S2,W2) x=(S2.set x.toNat true,W2++[x]):=by unfold spS;rw[if_neg (by simp[ht])]
     rw[e]at hz
     refine⟨⟨hx2.1,by rw[List.length_map];exact hlen▸hx2.2⟩,by rw[List.length_map];exact Nat.le_trans (Nat.succ_le_succ hW2) (by decide),(hz _ _ rfl ?_).1⟩
     show[TO.list [.bool false],TO.list ((S2.map Tr.bool).set x.toNat (Tr.bool true)),TO.list (W2.map Tr.int++[.int x])]=_
     rw[←List.map_set]
     exact congrArg (fun l=>[TO.list [.bool false],TO.list ((S2.set x.toNat true).map Tr.bool),TO.list l]) (List.map_append (l₂:=[x])).symm
    ·rintro rfl
     have e:spS (S2,W2) x=(S2,W2):=by unfold spS;rw[if_pos (by simp[ht])]
     rw[e]at hz
     exact(hz _ _ rfl rfl).1
   ·refine(hZ _ (r.foldl spS (S,W')) (Nat.lt_of_le_of_lt f2 hm) ⟨⟨f1.len,f1.zero,f1.wt,fun i r' j e1 e2 e3 e4 e5=> ?_⟩,Nat.le_trans f2 (by exact l20 (Hb W0 (.n 300) (Hg X1 W0 (Gb X1 (.n 300)))) rfl hM hm),rfl⟩ _ _ rfl rfl).1
    by_cases q:(i:Int)=g
    ·subst q
     rw[Int.toNat_natCast]at hr
     cases hr.symm.trans e4
     exact f3 _ e5
    ·exact f1.clo i r' j e1 e2 q e4 e5
  ·cases List.map_eq_nil_iff.mp hW
   exact hQ _ _ _ ⟨S,rfl,ok.len,ok.zero,fun i j r e1 e2 e3=>ok.clo i r j e1 List.not_mem_nil (fun q=>q) e2 e3⟩
end
end
section
structure An(A:Aut):Prop where
 rl:A.rows.length=3
 rw3:∀r∈A.rows,r.length=3
 ent:∀r∈A.rows,∀x∈r, -1≤x∧x<3
 r0:∃r,A.rows[0]? =some r∧(1:Int)∈r
 r1:∃r,A.rows[1]? =some r∧(2:Int)∈r
 tl:A.tags.length=3
 t0:A.tags[0]? =some []
 tb:∀t∈A.tags,∀n∈t,n<3
noncomputable def LM(A:Aut):List Int:=[1,2].filter fun q=>((A.tags[q.toNat]?.getD []).isEmpty&&(A.rows[q.toNat]?.getD []).contains (-1))
theorem W7{x:Int}{l:List Int}:decide (x∈l)=l.contains x:=by rw[List.contains_eq_mem]
theorem E4:∀l:List Int,Dw (l.map Tr.int)=some l
 |[]=>rfl
 |i::r=>by show(Dw (r.map Tr.int)).map _=_;rw[E4 r];rfl
theorem Yw:Hp 1 (3:Nat) 1=some ([(1:Int),2].map Tr.int):=by kernel_rfl
section
variable{k:Nat}{X:Prop}{A:Aut}
theorem c95(g:An A):Ret (AC (k+2) X) 95 [.t (A8 A)] (.fl [.bool true, .bool true, .bool true]):=by
 refine Af (f:=bw) rfl rfl rfl fun K K0 e zz Q hQ=> ?_
 have hl:(A.rows.map fun r=>r.filter (· != -1)).length=3:=by rw[List.length_map,g.rl]
 have h68:Ret K 68 _ _:=e▸c68 (A:=A)
 refine Al h68 rfl ?_
 have h:=c28 (k:=k) (X:=X) (L:=A.rows.map fun r=>r.filter (· != -1)) (by rw[hl];decide) fun r hr x hx=> ?_
 ·rw[List.map_map,←e]at h
  refine F8 h rfl ?_
  rintro _ ⟨bs,rfl,h1,h2,h3⟩
  obtain⟨r0,e0,m0⟩:=g.r0
  obtain⟨r1,e1,m1⟩:=g.r1
  have b1:=h3 0 1 _ h2 (by rw[List.getElem?_map,e0];rfl) (List.mem_filter.mpr ⟨m0,rfl⟩)
  have b2:=h3 1 2 _ b1 (by rw[List.getElem?_map,e1];rfl) (List.mem_filter.mpr ⟨m1,rfl⟩)
  have hl:bs.length=3:=h1.trans hl
  have:bs=[true,true,true]:=by
   match bs,hl,h2,b1,b2 with
   |[x,y,z],_,h2,b1,b2=>cases h2;cases b1;cases b2;rfl
  subst this
  exact hQ _ _
 ·obtain⟨r',hr',rfl⟩:=List.mem_map.mp hr
  obtain⟨h1,h2⟩:=List.mem_filter.mp hx
  have:=g.ent r' hr' x h1
  have:=bne_iff_ne.mp h2
  rw[hl]
  lia
theorem An.row(g:An A){i:Nat}(h:i<3):∃r,A.rows[i]? =some r∧r∈A.rows:=by
 rw[←g.rl]at h;exact⟨_,List.getElem?_eq_getElem h,List.getElem_mem h⟩
theorem An.tag(g:An A){i:Nat}(h:i<3):∃r,A.tags[i]? =some r∧r∈A.tags:=by
 rw[←g.tl]at h;exact⟨_,List.getElem?_eq_getElem h,List.getElem_mem h⟩
theorem f0(g:An A):Ret (AC (k+3) X) 100 [.t (A8 A)] (AQ (LM A)):=by
 refine Af (f:=VZ) rfl rfl rfl fun K K0 e zz Q hQ=> ?_
 have h95:Ret K 95 _ _:=e▸c95 g
 have h56:Ret K 56 _ _:=e▸c56 (A:=A)
 generalize hn:((A.rows.length:Nat):Int)=n at h56
 refine hid fun Gg gg=> ?_
 obtain⟨l,hl⟩:∃l:List Int,l=[1,2]:=⟨_,rfl⟩
 refine gg ?_
 have es:Hp 1 n 1=some (l.map Tr.int):=by rw[←hn,g.rl,hl];exact Yw
 refine Al h95 rfl (Al h56 rfl ⟨_,es, ?_⟩)
 refine Bz (f:=Tr.int) (g:=Tr.int) (p:=fun q=>((A.tags[q.toNat]?.getD []).isEmpty&&(A.rows[q.toNat]?.getD []).contains (-1))) l (fun q hq yes no z1 z2=> ?_) (by rw[hl];exact hQ _ _)
 have hq2:0≤q∧q.toNat<3∧CW [.bool true, .bool true, .bool true] q=some (.bool true):=by
  rw[hl]at hq
  rcases List.mem_cons.mp hq with e|e
  ·subst e;exact⟨by decide,by decide,rfl⟩
  ·rw[List.mem_singleton.mp e];exact⟨by decide,by decide,rfl⟩
 refine hid fun Gg gg=> ?_
 obtain⟨t,ht,_⟩:=g.tag hq2.2.1
 obtain⟨r,hr,_⟩:=g.row hq2.2.1
 refine gg ?_
 rw[ht,hr]at z1 z2
 refine AD hq2.2.2 (AD (AN (f:=Bv) hq2.1 ht) ?_)
 cases t with
 |nil=>
  refine AD (AN (f:=AQ) hq2.1 hr) (AD (E4 r) ?_)
  rw[W7]
  exact A6 (fun h=>z1 h _ rfl) fun h=>z2 h _ rfl
 |cons a b=>exact z2 rfl _ rfl
end
end
section
noncomputable abbrev Na:Str:=⟨#[101,99,104,111]⟩
noncomputable abbrev GT:Str:=⟨#[114,101,116,117,114,110]⟩
noncomputable abbrev NZ:Str:=⟨#[108,101,115,115]⟩
noncomputable abbrev Dt:Str:=⟨#[98,101,103,105,110]⟩
noncomputable abbrev GA:Str:=⟨#[73,78,73,84,73,65,76]⟩
noncomputable abbrev sA:Str:=⟨#[65]⟩
noncomputable def Ck:Nat→List (Str×Tr)
 |1=>[(Na, .none)]
 |2=>[(GT, .str ⟨#[78]⟩)]
 |3=>[(NZ, .int 1),(GT, .str ⟨#[77]⟩)]
 |4=>[(Dt, .str sA)]
 |5=>[(Dt, .str GA),(GT, .str ⟨#[39,43,39]⟩)]
 |_=>[]
noncomputable def NX(p:Str×Tr):Tr:= .tup [.str p.1,p.2]
noncomputable def AT(i:Nat):Tr:= .tup ((Ck i).map NX)
noncomputable def EP(p:Str×Tr):Tr:= .fi 632 [Ao,Ai] [.str p.1,p.2]
noncomputable def Bn(p:Int×Nat):Tr:= .fi 691 [AB,B8,Dc,AY,C9] [.int p.1, .tup [.int 0, .int 1], .none, .fl ((Ck p.2).map EP), .int (p.1+1)]
noncomputable def E8:Aut:=⟨[[0,0,0]],[[0]]⟩
noncomputable def vCut:Tr:= .fi 117 [Lq,CH,EL,F7] [.str ⟨#[115,101,97,114,99,104]⟩, .none,A8 E8,A8 E8]
structure BA where
 auts:Nat→Aut
 rules:List (Int×Nat)
 cuts:List Int
 ends:List Int
 dflt:Bool
noncomputable def EQ:Tr:= .fl [.str GA, .str sA]
noncomputable def JC(a:Nat→Aut):List Tr:=[A8 (a 0),A8 (a 1),A8 (a 2),A8 (a 3)]
noncomputable def Op:List Int→List Nat
 |[]=>[]
 |_=>[3]
noncomputable def vCls:Tr:= .fi 596 [Es,AJ,Be] [.fl [.int 0, .int 97, .int 98, .int 99], .fl [.int 0, .int 1, .int 2, .int 0], .int 3]
noncomputable def AU(T:BA):Tr:= .fi 166 [BR,CX,AH,Ak,BF,Bw,AF,D8,Da]
 [vCls,EQ, .fd [0,1,2,3] (JC T.auts), .fl (T.rules.map Bn), .fd T.cuts (T.cuts.map fun zz=>vCut), .fd T.ends (T.ends.map fun zz=> .int 3), .bool T.dflt,AQ ((Op T.ends).map Int.ofNat), .bool false]
theorem ZQ(i:Nat):∀p∈Ck i,C5 p.1 ⟨#[114,101,106,101,99,116]⟩=false:=by
 unfold Ck
 split<;>decide
theorem KC{a:Nat→Aut}{k:Int}(hk:0≤k∧k<4):ED [0,1,2,3] (JC a) k=some (A8 (a k.toNat)):=by
 obtain⟨n,rfl⟩:=Int.eq_ofNat_of_zero_le hk.1
 have:n=0∨n=1∨n=2∨n=3:=by lia
 rcases this with rfl|rfl|rfl|rfl<;>rfl
theorem Eo{v:Tr}{c:Int}:∀{l:List Int},ED l (l.map fun zz=>v) c=if c∈l then some v else none
 |[]=>rfl
 |x::r=>by
  show(if x=c then some v else ED r (r.map fun zz=>v) c)=_
  rw[Eo]
  by_cases q:x=c
  ·rw[if_pos q,if_pos (List.mem_cons.mpr (.inl q.symm))]
  ·rw[if_neg q]
   by_cases h:c∈r
   ·rw[if_pos h,if_pos (List.mem_cons_of_mem _ h)]
   ·rw[if_neg h,if_neg fun z=>(List.mem_cons.mp z).elim (fun z=>q z.symm) h]
section
variable{k:Nat}{X:Prop}{a0 a1 a2 a3 a4:Tr}{T:BA}{c b n:Int}{i:Nat}
theorem fy:Ret (AC (k+1) X) 117 [.t a0, .t a1, .t a2, .t a3] (.fi 117 [Lq,CH,EL,F7] [a0,a1,a2,a3]):=⟨fun Q hq=>hq⟩
theorem fX:Ret (AC (k+1) X) 248 [.t a0, .t a1, .t a2] (.fi 248 [CG,C9,GP] [a0,a1,a2]):=⟨fun Q hq=>hq⟩
theorem fR:Ret (AC (k+1) X) 520 [.t a0] (.fi 520 [Bd] [a0]):=⟨fun Q hq=>hq⟩
theorem fM:Ret (AC (k+1) X) 632 [.t a0, .t a1] (.fi 632 [Ao,Ai] [a0,a1]):=⟨fun Q hq=>hq⟩
theorem fL:Ret (AC (k+1) X) 691 [.t a0, .t a1, .t a2, .t a3, .t a4] (.fi 691 [AB,B8,Dc,AY,C9] [a0,a1,a2,a3,a4]):=⟨fun Q hq=>hq⟩
theorem cM:Ret (AC (k+1) X) 343 [.t a0, .t a1, .t a2] (.fi 343 [FG,AK,xat,Ai] [a0,a1,a2,a1]):=⟨fun Q hq=>hq⟩
theorem fj{rs:List (Int×Nat)}:Ret (AC (k+1) X) 177 [.t (.fl (rs.map Bn))] (.bool false):=by
 refine Af (f:=VT) rfl rfl rfl fun K K0 zz zz Q hQ=> ?_
 refine Ag (σ:=Unit) (fun zz=>[(Ak, .t (.fl (rs.map Bn)))]) (fun zz=>[]) (fun zz zz=>()) (fun zz zz=>True) rs () trivial (fun i zz r hr zz Z hZ=> ?_) fun zz=>hQ _ _
 refine Ag (f:=EP) (σ:=Unit) (fun zz=>[(Ak, .t (.fl (rs.map Bn))),(F4, .t (Bn r))]) (fun zz=>[]) (fun zz zz=>()) (fun zz zz=>True) (Ck r.2) () trivial (fun i zz p hp zz Z2 hZ2=> ?_) fun zz=>(hZ trivial _ _ rfl rfl).1
 exact RB (ZQ _ p (List.mem_of_getElem? hp)) (hZ2 trivial _ _ rfl rfl).1
theorem cQ(hc:0≤c∧c<2)(hb:0≤b∧b<2):Ret (AC (k+1) X) 142 [.t (AU T),vi c,vi b] (A8 (T.auts (2*c+b).toNat)):=
 Af (f:=VX) rfl rfl rfl fun K K0 zz zz Q hQ=>⟨.inl (by decide),AD (KC (by lia)) (hQ _ _)⟩
theorem fw(hn:0≤n)(hi:T.rules[n.toNat]? =some (n,i)):Ret (AC (k+1) X) 149 [.t (AU T),vi n] (.fl ((Ck i).map EP)):=
 Af (f:=VW) rfl rfl rfl fun K K0 zz zz Q hQ=>AD (AN (f:=Bn) hn hi) (hQ _ _)
theorem fu:Ret (AC (k+1) X) 156 [.t (AU T),vi c] (.int (if c∈T.ends then 3 else-1)):=by
 refine Af (f:=VV) rfl rfl rfl fun K K0 zz zz Q hQ=> ?_
 have e:Tr.int (if c∈T.ends then 3 else-1)=(ED T.ends (T.ends.map fun zz=>Tr.int 3) c).getD (.int (-1)):=by
  rw[Eo];split<;>rfl
 rw[e]at hQ
 exact hQ _ _
noncomputable def EK(A:Aut)(s:List Nat):List Nat:=A.tags.foldl (fun s t=>t.foldl Ap s) s
theorem Er{pl:List Nat}{n:Nat}:Ly (pl.map Int.ofNat) (Int.ofNat n)=(Ap pl n).map Int.ofNat:=by
 unfold Ly
 rw[List.map_map,show Int.toNat∘Int.ofNat=id from rfl,List.map_id];rfl
noncomputable def MJ(s:List Nat):LH:=[.set (s.map Int.ofNat)]
theorem fq(hg:∀i,An (T.auts i))(hc:0≤c∧c<2):Ret (AC (k+2) X) 163 [.t (AU T),vi c] (AQ ((EK (T.auts (2*c+1).toNat) (EK (T.auts (2*c+0).toNat) [])).map Int.ofNat)):=by
 refine Af (f:=VU) rfl rfl rfl fun K K0 e zz Q hQ=> ?_
 have h:∀b:Int,0≤b∧b<2→Ret K 142 [.t (AU T),vi c,vi b] (A8 (T.auts (2*c+b).toNat)):=fun b hb=>e▸cQ hc hb
 refine Ag (f:=Tr.int) (fun zz=>[(AA, .t (AU T)),(AI,vi c),(AJ, .ref 0)]) MJ (fun s b=>EK (T.auts (2*c+b).toNat) s) (fun zz zz=>True) [0,1] [] trivial (fun i s b hb zz Z hZ=> ?_) (fun zz=> ?_)
 rotate_left
 ·exact hQ _ _
 have hb:0≤b∧b<2:=by
  rcases List.mem_cons.mp (List.mem_of_getElem? hb)with e|e
  ·subst e;decide
  ·rw[List.mem_singleton.mp e];decide
 refine Al (h b hb) rfl ?_
 have g:=hg (2*c+b).toNat
 generalize T.auts (2*c+b).toNat=A at g hZ
 refine Ag (f:=Bv) (fun zz=>[(AA, .t (AU T)),(AI,vi c),(AJ, .ref 0),(DP,vi b)]) MJ (fun s t=>t.foldl Ap s) (fun zz zz=>True) A.tags s trivial (fun i s t ht zz Z2 hZ2=> ?_) fun zz=>(hZ trivial _ _ rfl rfl).1
 have tb:=g.tb t (List.mem_of_getElem? ht)
 refine Ag (f:=fun n=>Tr.int (Int.ofNat n)) (fun zz=>[(AA, .t (AU T)),(AI,vi c),(AJ, .ref 0),(DP,vi b),(At, .t (Bv t))]) MJ Ap (fun zz zz=>True) t s trivial (fun i s n hn zz Z3 hZ3=> ?_) fun zz=>(hZ2 trivial _ _ rfl rfl).1
 refine⟨⟨Int.natCast_nonneg _,Int.lt_trans (Int.ofNat_lt.mpr (tb n (List.mem_of_getElem? hn))) (by decide)⟩,(hZ3 trivial _ _ rfl ?_).1⟩
 exact congrArg (fun l=>[TO.set l]) Er
end
end
section
noncomputable def AR(A:Aut)(q c:Int):Int:=if q= -1 then-1 else((A.rows[q.toNat]?.getD [])[c.toNat]?).getD (-1)
noncomputable def Bj(A:Aut)(q:Int):List Nat:=if q= -1 then[]else(A.tags[q.toNat]?).getD []
noncomputable def K8(key n:Int):Tr:= .tup [.int (key.fdiv 2), .int (key.fmod 2), .int n]
noncomputable def BG:List Int:=JF [0,1,2,3]
theorem BU:BG=[0,1,2,3]:=List.mergeSort_of_pairwise (by decide)
theorem NM:Hp 0 3 1=some ([(0:Int),1,2].map Tr.int):=by kernel_rfl
theorem in4{key:Int}(h:key∈BG):0≤key∧key<4:=by
 rw[BU]at h
 simp only[List.mem_cons,List.not_mem_nil,or_false]at h
 exact(h.elim (fun x3'=>⟨l01 (Hf W0 Z0 (Ga Z0 W0)) rfl x3',l01 (He W0 Z0 (Gd W0 (.z 4))) rfl x3'⟩) (fun x3'=>x3'.elim (fun x2'=>⟨l01 (Hf W0 Z1 (Ga Z0 W0)) rfl x2',l01 (He W0 Z1 (Gd W0 (.z 4))) rfl x2'⟩) (fun x2'=>x2'.elim (fun x1'=>⟨l01 (Hf W0 U2 (Ga Z0 W0)) rfl x1',l01 (He W0 U2 (Gd W0 (.z 4))) rfl x1'⟩) (fun x1'=>⟨l01 (Hf W0 W3 (Ga Z0 W0)) rfl x1',l01 (He W0 W3 (Gd W0 (.z 4))) rfl x1'⟩))))
theorem in3{n:Int}(h:n∈[(0:Int),1,2]):0≤n∧n<3:=by
 simp only[List.mem_cons,List.not_mem_nil,or_false]at h
 exact(h.elim (fun x3'=>⟨l01 (Hf W0 Z0 (Ga Z0 W0)) rfl x3',l01 (He W0 Z0 (Gd W0 W3)) rfl x3'⟩) (fun x3'=>x3'.elim (fun x2'=>⟨l01 (Hf W0 Z1 (Ga Z0 W0)) rfl x2',l01 (He W0 Z1 (Gd W0 W3)) rfl x2'⟩) (fun x2'=>⟨l01 (Hf W0 U2 (Ga Z0 W0)) rfl x2',l01 (He W0 U2 (Gd W0 W3)) rfl x2'⟩)))
noncomputable def Hz(A:Aut)(key:Int)(s:List Tr):List Tr:=([0,1,2]:List Int).foldl (fun s n=>if(Bj A (AR A 0 n)).isEmpty=true then s++[K8 key n]else s) s
noncomputable def LA(T:BA):List Tr:=BG.foldl (fun s key=>Hz (T.auts key.toNat) key s) []
noncomputable def Fw(A:Aut)(key:Int)(s:List Tr):List Tr:=(LM A).foldl (fun s n=>s++[K8 key n]) s
noncomputable def JI(T:BA):List Tr:=BG.foldl (fun s key=>Fw (T.auts key.toNat) key s) []
noncomputable def d6(s:List Tr):LH:=[.list s]
theorem Au{α:Type}{l:List α}{i:Nat}{x:α}(h:l[i]? =some x):i<l.length:=(List.getElem?_eq_some_iff.mp h).1
section
variable{k:Nat}{X:Prop}{A:Aut}{T:BA}{q c key:Int}
theorem cL(g:An A)(hq: -1≤q∧q<3)(hc:0≤c∧c<3):Ret (AC (k+1) X) 63 [.t (A8 A),vi q,vi c] (.int (AR A q c)):=by
 unfold AR
 by_cases h:q= -1
 ·rw[if_pos h];exact c63 (r:=[]) (.inl ⟨h,rfl⟩)
 ·refine hid fun Gg gg=> ?_
  obtain⟨r,hr,rm⟩:=g.row (show q.toNat<3 by exact(Int.le_total 0 _).elim (fun x3'=>l11 (Hh W0 W3 (He (.c W0) W0 (Gc W0 Y3))) rfl hq.2 (Int.toNat_of_nonneg (x3'))) (fun x3'=>l10 (Hc W0 Y0 (Gc W0 Y3)) rfl (Int.toNat_of_nonpos x3')))
  refine gg ?_
  have hl:c.toNat<r.length:=by rw[g.rw3 r rm];exact(l11 (Hh W0 W3 (He (.c W0) W0 (Gc W0 Y3))) rfl hc.2 (Int.toNat_of_nonneg hc.1))
  rw[if_neg h,hr]
  exact c63 (.inr ⟨by exact l01 (Hh Zm W0 (Ga Z0 W0)) rfl (iln hq.1 (Ne.symm h)),hr,hc.1,by rw[Option.getD_some,List.getElem?_eq_getElem hl];rfl⟩)
theorem Ei(g:An A)(hq: -1≤q∧q<3)(hc:0≤c∧c<3): -1≤AR A q c∧AR A q c<3:=by
 unfold AR
 by_cases h:q= -1
 ·rw[if_pos h];decide
 ·obtain⟨r,hr,rm⟩:=g.row (show q.toNat<3 by exact(Int.le_total 0 _).elim (fun x3'=>l11 (Hh W0 W3 (He (.c W0) W0 (Gc W0 Y3))) rfl hq.2 (Int.toNat_of_nonneg (x3'))) (fun x3'=>l10 (Hc W0 Y0 (Gc W0 Y3)) rfl (Int.toNat_of_nonpos x3')))
  have hl:c.toNat<r.length:=by rw[g.rw3 r rm];exact(l11 (Hh W0 W3 (He (.c W0) W0 (Gc W0 Y3))) rfl hc.2 (Int.toNat_of_nonneg hc.1))
  rw[if_neg h,hr,Option.getD_some,List.getElem?_eq_getElem hl]
  exact g.ent r rm _ (List.getElem_mem hl)
theorem ax(g:An A)(hq: -1≤q∧q<3):Ret (AC (k+1) X) 184 [.t (A8 A),vi q] (.bool (!(Bj A q).isEmpty)):=by
 unfold Bj
 by_cases h:q= -1
 ·rw[if_pos h];exact YI (t:=[]) (.inl ⟨h,rfl⟩)
 ·refine hid fun Gg gg=> ?_
  obtain⟨t,ht,_⟩:=g.tag (show q.toNat<3 by exact(Int.le_total 0 _).elim (fun x3'=>l11 (Hh W0 W3 (He (.c W0) W0 (Gc W0 Y3))) rfl hq.2 (Int.toNat_of_nonneg (x3'))) (fun x3'=>l10 (Hc W0 Y0 (Gc W0 Y3)) rfl (Int.toNat_of_nonpos x3')))
  refine gg ?_
  rw[if_neg h,ht]
  exact YI (.inr ⟨by exact l01 (Hh Zm W0 (Ga Z0 W0)) rfl (iln hq.1 (Ne.symm h)),ht⟩)
theorem OY(A:Aut)(key:Int)(s:List Tr):(Hz A key s).length≤s.length+3:=by
 have one:∀(s:List Tr) n,(if(Bj A (AR A 0 n)).isEmpty=true then s++[K8 key n]else s).length≤s.length+1:=fun s n=>by
  by_cases h:(Bj A (AR A 0 n)).isEmpty=true
  ·rw[if_pos h,List.length_append];exact Nat.le_refl _
  ·rw[if_neg h];exact Nat.le_succ _
 exact Nat.le_trans (one _ 2) (Nat.succ_le_succ (Nat.le_trans (one _ 1) (Nat.succ_le_succ (one _ 0))))
theorem cN(hg:∀i,An (T.auts i)):Ret (AC (k+2) X) 210 [.t (AU T)] (.fl (LA T)):=by
 refine Af (f:=VN) rfl rfl rfl fun K K0 e zz Q hQ=> ?_
 refine⟨by decide, ?_⟩
 refine Ag (f:=Tr.int) (fun zz=>[(AE, .t (AU T)),(AP, .ref 0)]) (fun s=>[.list s, .gone]) (fun s key=>Hz (T.auts key.toNat) key s) (fun i s=>s.length≤3*i) BG [] (Nat.le_refl _) (fun i s key hk hs Z hZ=> ?_) (fun zz=> ?_)
 rotate_left
 ·exact hQ _ _
 have hi:i<4:=by have:=Au hk;rw[BU]at this;exact this
 have hk:=in4 (List.mem_of_getElem? hk)
 have g:=hg key.toNat
 refine AD (KC hk) ⟨_,NM, ?_⟩
 have hZ:=hZ (by have:=OY (T.auts key.toNat) key s;exact(l30 (Hb W0 (.m 3 X1) (Hb X2 (.a W0 Y3) (Gb X2 (.m 3 (.a X1 Y1))))) rfl hs this))
 generalize T.auts key.toNat=A at g hZ
 refine Ag (f:=Tr.int) (fun zz=>[(AE, .t (AU T)),(AP, .ref 0),(Aw,vi key),(AV, .t (A8 A))]) (fun s=>[.list s, .gone]) (fun s n=>if(Bj A (AR A 0 n)).isEmpty=true then s++[K8 key n]else s) (fun i s=>s.length≤12+i) [0,1,2] s (by exact l20 (Hb W0 (.m 3 X1) (.H .nlt 3 X1 Y4 (Gb W0 (.a (.n 12) Y0)))) rfl hs hi) (fun i s n hn hs Z2 hZ2=> ?_) fun zz=>(hZ _ _ rfl rfl).1
 have hi2:i<3:=Au hn
 have hn:=in3 (List.mem_of_getElem? hn)
 have h63:Ret K 63 _ _:=e▸cL g (q:=0) (by decide) hn
 have h184:Ret K 184 _ _:=e▸ax g (Ei g (q:=0) (by decide) hn)
 refine Al h63 rfl (Al h184 rfl (Cf (fun h=> ?_) fun h=> ?_))
 ·have h:(Bj A (AR A 0 n)).isEmpty=true:=by simpa using h
  rw[if_pos h]at hZ2
  refine⟨by decide,by decide,by decide,by exact l20 (Hb W0 (.a (.n 12) X1) (Hg X1 Y3 (Gb (.a W0 Y1) Yb))) rfl hs hi2,(hZ2 (by rw[List.length_append];exact Nat.succ_le_succ hs) _ _ rfl rfl).1⟩
 ·have h:¬(Bj A (AR A 0 n)).isEmpty=true:=by simpa using h
  rw[if_neg h]at hZ2
  exact(hZ2 (by exact l20 (Hb W0 (.a (.n 12) X1) (Gb W0 (.a (.n 12) (.a X1 Y1)))) rfl hs) _ _ rfl rfl).1
theorem Oh:(LM A).length≤2:=List.length_filter_le _ _
theorem fZ(hg:∀i,An (T.auts i)):Ret (AC (k+4) X) 217 [.t (AU T)] (.fl (JI T)):=by
 refine Af (f:=VM) rfl rfl rfl fun K K0 e zz Q hQ=> ?_
 refine⟨by decide, ?_⟩
 refine Ag (f:=Tr.int) (fun zz=>[(AE, .t (AU T)),(AP, .ref 0)]) (fun s=>[.list s, .gone]) (fun s key=>Fw (T.auts key.toNat) key s) (fun i s=>s.length≤2*i) BG [] (Nat.le_refl _) (fun i s key hk hs Z hZ=> ?_) (fun zz=> ?_)
 rotate_left
 ·exact hQ _ _
 have hi:i<4:=by have:=Au hk;rw[BU]at this;exact this
 have hk:=in4 (List.mem_of_getElem? hk)
 have h100:Ret K 100 _ _:=e▸f0 (hg key.toNat)
 refine AD (KC hk) (Al h100 rfl ?_)
 generalize T.auts key.toNat=A at hZ
 have hb:=Oh (A:=A)
 refine Ag (f:=Tr.int) (fun zz=>[(AE, .t (AU T)),(AP, .ref 0),(Aw,vi key)]) (fun s=>[.list s, .gone]) (fun s n=>s++[K8 key n]) (fun i' s'=>s'.length=s.length+i') (LM A) s rfl (fun i s n hn hs2 Z2 hZ2=> ?_) (fun hl=>(hZ (by unfold Fw;exact(l40 (Hb W0 (.m 2 X1) (Hb X2 Y2 (Hc X3 (.a W0 X2) (Gb X3 (.m 2 (.a X1 Y1)))))) rfl hs hb hl)) _ _ rfl rfl).1)
 have hi2:=Au hn
 exact⟨by decide,by decide,by decide,by exact l50 (Hb W0 (.m 2 X1) (.H .nlt 2 X1 Y4 (Hb X2 Y2 (Hc X3 (.a W0 X4) (Hg X4 X2 (Gb (.a X3 Y1) Yb)))))) rfl hs hi hb hs2 hi2,(hZ2 (by rw[List.length_append,hs2];rfl) _ _ rfl rfl).1⟩
end
end
section
noncomputable def upI(a b:Int):List Int:=(List.range (b-a).toNat).map fun(i:Nat)=>a+(i:Int)
noncomputable def GD(a:Int)(n:Nat):List Int:=(List.range n).map fun(i:Nat)=>a-(i:Int)
theorem J5{a b:Int}(ha: -1000≤a∧a≤1000)(hb: -1000≤b∧b≤1000):Hp a b 1=some ((upI a b).map Tr.int):=by
 have e:=PyProof.Rows.rangeSize_nat a b
 unfold Hp
 rw[if_pos]
 ·unfold rgs upI
  rw[e,Int.toNat_natCast,List.map_map]
  exact congrArg some (List.map_congr_left fun i zz=>congrArg Tr.int (by show _=a+(i:Int);lia))
 ·rw[Bool.and_eq_true,Bool.and_eq_true,decide_eq_true_eq,decide_eq_true_eq,e]
  exact⟨small_one (by exact l02 (Ha (.z (-1000)) W0 (Ha (.z 4611686018427387904) X1 (Ga (.g X1) W0))) rfl ha.1 UG) (by exact l02 (Ha W0 (.z 1000) (Ha (.z 4611686018427387904) X1 (Gd W0 X1))) rfl ha.2 UG) (by exact l02 (Ha (.z (-1000)) W0 (Ha (.z 4611686018427387904) X1 (Ga (.g X1) W0))) rfl hb.1 UG) (by exact l02 (Ha W0 (.z 1000) (Ha (.z 4611686018427387904) X1 (Gd W0 X1))) rfl hb.2 UG),by exact l10 (.P 0 1 (Ga Z0 (.c W0))) rfl,by exact(Int.le_total 0 _).elim (fun x3'=>l12 (Ha (.z (-1000)) W0 (Ha X1 (.z 1000) (He (.c W0) (.s X1 W0) (Ga (.c W0) (.z 1048576))))) rfl ha.1 hb.2 (Int.toNat_of_nonneg (x3'))) (fun x3'=>l10 (Hc W0 Y0 (Ga (.c W0) (.z 1048576))) rfl (Int.toNat_of_nonpos x3'))⟩
theorem fit{x:Int}(h: -3000≤x∧x≤3000): -2^63≤x∧x<2^63:=⟨Int.le_trans (by decide+kernel) h.1,Int.lt_of_le_of_lt h.2 (by decide+kernel)⟩
theorem PK{a b:Int}(ha: -1000≤a∧a≤1000)(hb: -1000≤b∧b≤1000):Hp a b (-1)=some ((GD a (a-b).toNat).map Tr.int):=by
 have e:Builtin.Range.rangeSize a b (-1)=((a-b).toNat:Int):=by
  unfold Builtin.Range.rangeSize
  rw[if_neg (by decide),show(-(-1):Int)=1 from rfl,Int.ediv_one]
  by_cases h:a>b
  ·rw[if_pos h,Int.toNat_of_nonneg (Int.sub_nonneg_of_le (Int.le_of_lt h)),Int.sub_add_cancel]
  ·rw[if_neg h,Int.toNat_of_nonpos (Int.sub_nonpos_of_le (Int.not_lt.mp h))];rfl
 unfold Hp
 rw[if_pos]
 ·unfold rgs GD
  rw[e,Int.toNat_natCast,List.map_map]
  exact congrArg some (List.map_congr_left fun i zz=>congrArg Tr.int (by show _=a-(i:Int);lia))
 ·rw[Bool.and_eq_true,Bool.and_eq_true,decide_eq_true_eq,decide_eq_true_eq,e]
  refine⟨?_,by exact l10 (.P 0 1 (Ga Z0 (.c W0))) rfl,by exact(Int.le_total 0 _).elim (fun x3'=>l12 (Ha W0 (.z 1000) (Ha (.z (-1000)) X1 (He (.c W0) (.s W0 X1) (Ga (.c W0) (.z 1048576))))) rfl ha.2 hb.1 (Int.toNat_of_nonneg (x3'))) (fun x3'=>l10 (Hc W0 Y0 (Ga (.c W0) (.z 1048576))) rfl (Int.toNat_of_nonpos x3'))⟩
  unfold Builtin.Range.small
  rw[e]
  simp only[Builtin.Range.rangeFitsLong,Bool.and_eq_true,Bool.or_eq_true,decide_eq_true_eq,beq_iff_eq,show¬((-1:Int)>0) by decide,if_false]
  have fa:=fit (x:=a) ⟨Int.le_trans (by decide) ha.1,Int.le_trans ha.2 (by decide)⟩
  have fb:=fit (x:=b) ⟨Int.le_trans (by decide) hb.1,Int.le_trans hb.2 (by decide)⟩
  exact⟨⟨⟨⟨fa,fb⟩,fit ⟨by decide,by decide⟩⟩,fit ⟨Int.le_trans (by decide) (Int.natCast_nonneg _),Int.le_trans (Int.ofNat_le.mpr (Int.toNat_le.mpr (show a-b≤((2000:Nat):Int)from Int.sub_le_sub ha.2 hb.1))) (by decide)⟩⟩, .inr (show-2^63≤b+0∧b+0<2^63 from(Int.add_zero b).symm▸fb)⟩
theorem J3{a b:Int}{i:Nat}{x:Int}(h:(upI a b)[i]? =some x):x=a+i∧x<b∧i<(b-a).toNat:=by
 unfold upI at h
 rw[List.getElem?_map]at h
 refine hid fun Gg gg=> ?_
 obtain⟨j,h1,h2⟩:=Option.map_eq_some_iff.mp h
 obtain⟨h3,h4⟩:=List.getElem?_eq_some_iff.mp h1
 refine gg ?_
 rw[List.length_range]at h3
 rw[List.getElem_range]at h4
 exact(Int.le_total 0 _).elim (fun x3'=>⟨l22 (Hf (.a W0 (.c W0)) X1 (Hd X1 W0 (Ge X1 (.a W0 (.c X1))))) rfl h2 h4,⟨l33 (Hf (.a W0 (.c W0)) X1 (Hg X1 X2 (Hd X1 W0 (He (.c X2) (.s X2 W0) (Gd X1 X2))))) rfl h2 h3 h4 (Int.toNat_of_nonneg (x3')),h3⟩⟩) (fun x3'=>⟨l22 (Hf (.a W0 (.c W0)) X1 (Hd X1 W0 (Ge X1 (.a W0 (.c X1))))) rfl h2 h4,⟨l32 (.P 2 1 (Hg W0 X1 (Hd W0 X2 (Hc X1 Y0 (.G .ilt 0 W0 X1))))) rfl h3 h4 (Int.toNat_of_nonpos x3'),h3⟩⟩)
theorem P2{a:Int}{n i:Nat}{x:Int}(h:(GD a n)[i]? =some x):x=a-i∧i<n:=by
 unfold GD at h
 rw[List.getElem?_map]at h
 obtain⟨j,h1,h2⟩:=Option.map_eq_some_iff.mp h
 obtain⟨h3,h4⟩:=List.getElem?_eq_some_iff.mp h1
 rw[List.length_range]at h3
 rw[List.getElem_range]at h4
 exact(⟨l22 (Hf (.s W0 (.c W0)) X1 (Hc X1 W0 (Ge X1 (.s W0 (.c X1))))) rfl h2 h4,h3⟩)
theorem Rx{n:Nat}{s:Int}:(upI 0 ((n:Int)+1)).foldl (fun zz p=>p) s=n:=by
 unfold upI
 rw[show((n:Int)+1-0).toNat=n+1 by exact l20 (He (.c W0) (.s (.a (.c X1) Z1) Z0) (Gf W0 (.a X1 Y1))) rfl (Int.toNat_of_nonneg (l10 (.P 0 1 (Ga Z0 (.s (.a (.c W0) Z1) Z0))) rfl)),List.range_succ,List.map_append,List.foldl_append]
 show 0+(n:Int)=n
 exact(l10 (Ge (.a Z0 (.c W0)) (.c W0)) rfl)
theorem Yu{s:St}{c:Ctx}{ρ:Rho}{Q:QS}{L L':LH}(e:L=L')(h:wst s c ρ Q L'):wst s c ρ Q L:=e▸h
section
variable{k:Nat}{X:Prop}{A:Aut}{T:BA}{q c n:Int}{ns:List Int}
theorem Pg(hc:0≤c∧c<3):Ret (AC (k+1) X) 63 [.t (A8 E8),vi 0,vi c] (.int 0):=by
 refine c63 (r:=[0,0,0]) (.inr ⟨by decide,rfl,hc.1, ?_⟩)
 have:c=0∨c=1∨c=2:=by lia
 rcases this with rfl|rfl|rfl<;>rfl
theorem OL:Ret (AC (k+1) X) 184 [.t (A8 E8),vi 0] (.bool true):=YI (t:=[0]) (.inr ⟨by decide,rfl⟩)
theorem fg(hn:ns.length≤100)(hns:∀x∈ns,0≤x∧x<3):Ret (AC (k+2) X) 198 [.t vCut, .t (AQ ns)] (.int ns.length):=by
 refine Af (f:=VP) rfl rfl rfl fun K K0 e zz Q hQ=> ?_
 have h63:∀c:Int,0≤c∧c<3→Ret K 63 [.t (A8 E8),vi 0,vi c] (.int 0):=fun c hc=>e▸Pg hc
 have h184:Ret K 184 [.t (A8 E8),vi 0] (.bool true):=e▸OL
 have hl:((ns.map Tr.int).length:Int)=ns.length:=by rw[List.length_map]
 refine⟨by exact l20 (.P 1 1 (Hf (.c W0) (.c X1) (Ga Z0 (.a (.c W0) Z1)))) rfl hl,by exact l20 (Hb W0 Yc (He (.c X1) (.c W0) (Ga (.a (.c X1) Z1) (.z 1000)))) rfl hn hl, ?_⟩
 refine Al h184 rfl ⟨⟨by exact l20 (.P 1 1 (Hf (.c W0) (.c X1) (Ga Z0 (.c W0)))) rfl hl,by rw[List.length_replicate];exact(l20 (Hf (.c W0) (.a (.c X1) Z1) (Gd (.c X1) (.c W0))) rfl (Int.toNat_of_nonneg (l20 (.P 1 1 (Hf (.c W0) (.c X1) (Ga Z0 (.a (.c W0) Z1)))) rfl hl)))⟩, ?_⟩
 let R:Rho:=[(GH, .t vCut),(AJ, .t (AQ ns)),(Be,vi ns.length),(By, .ref 1),(AG,vi 0)]
 let G:List Bool→LH:=fun s=>[.list [.bool false], .list (s.map .bool)]
 refine Yu (L':=G ((List.replicate (ns.length+1) false).set ns.length true)) (by
  show[TO.list [.bool false],TO.list ((List.replicate (((ns.map Tr.int).length:Int)+1).toNat (Tr.bool false)).set ((ns.map Tr.int).length:Int).toNat (Tr.bool true))]=_
  rw[hl,show((ns.length:Int)+1).toNat=ns.length+1 by exact l20 (He (.c W0) (.a (.c X1) Z1) (Gf W0 (.a X1 Y1))) rfl (Int.toNat_of_nonneg (l10 (.P 0 1 (Ga Z0 (.a (.c W0) Z1))) rfl)),Int.toNat_natCast,←List.map_replicate,←List.map_set]) ?_
 refine⟨rfl,by exact d8 (by omega),_,PK (by exact(⟨l20 (.P 1 1 (Hf (.c W0) (.c X1) (Ga (.z (-1000)) (.s (.c W0) Z1)))) rfl hl,l20 (Hb W0 Yc (He (.c X1) (.c W0) (Ga (.s (.c X1) Z1) (.z 1000)))) rfl hn hl⟩)) (by decide), ?_⟩
 rw[hl,show((ns.length:Int)-1- -1).toNat=ns.length by exact l20 (He (.c W0) (.s (.s (.c X1) Z1) Zm) (Gf W0 X1)) rfl (Int.toNat_of_nonneg (l10 (.P 0 1 (Ga Z0 (.s (.s (.c W0) Z1) Zm))) rfl))]
 refine Ag (f:=Tr.int) (fun zz=>R) G (fun(s:List Bool) (p:Int)=>s.set p.toNat true) (fun i s=>s.length=ns.length+1∧i≤ns.length∧∀j,ns.length-i≤j→j≤ns.length→s[j]? =some true) (GD ((ns.length:Int)-1) ns.length) ((List.replicate (ns.length+1) false).set ns.length true) ⟨by rw[List.length_set,List.length_replicate],by exact l10 (.P 0 1 (Gb Y0 W0)) rfl,fun j h1 h2=> ?_⟩ (fun i s p hi hs Z hz=> ?_) (fun hs=> ?_)
 ·have:j=ns.length:=by exact(Nat.le_antisymm h2 (l30 (Hb W0 X1 (Hd (.a W0 Y0) X2 (Gb X2 X1))) rfl h1 (Nat.sub_add_cancel (l10 (.P 0 1 (Gb Y0 W0)) rfl))))
  subst this
  exact List.getElem?_set_self (by simp)
 ·obtain⟨rfl,hi2⟩:=P2 hi
  obtain⟨h1,h2,h3⟩:=hs
  have hp:((ns.length:Int)-1-(i:Int)).toNat=ns.length-1-i:=by exact(Int.le_total 0 _).elim (fun x3'=>(Nat.le_total _ _).elim (fun x2'=>l50 (He (.c W0) (.s (.s (.c X1) Z1) (.c X2)) (Hd (.a X3 X2) X4 (Hd (.a X4 Y1) X1 (Gf W0 X3)))) rfl (Int.toNat_of_nonneg (x3')) (Nat.sub_add_cancel (x2')) (Nat.sub_add_cancel (l20 (.P 0 1 (Hg W0 X1 (Gb Y1 X1))) rfl hi2))) (fun x2'=>Nat.le_antisymm (l50 (Hb W0 X1 (Hd X2 Y0 (He (.c X3) (.s (.s (.c X4) Z1) (.c X1)) (Hd (.a W0 Y1) X4 (Gb X3 X2))))) rfl x2' (Nat.sub_eq_zero_of_le x2') (Int.toNat_of_nonneg (x3')) (Nat.sub_add_cancel (l20 (.P 0 1 (Hg W0 X1 (Gb Y1 X1))) rfl hi2))) (l40 (Hg W0 X1 (Hc X2 Y0 (Hf (.c X3) (.s (.s (.c X1) Z1) (.c W0)) (Gb X2 X3)))) rfl hi2 (Nat.sub_eq_zero_of_le x2') (Int.toNat_of_nonneg (x3'))))) (fun x3'=>(Nat.le_total _ _).elim (fun x2'=>l50 (He (.c W0) (.s (.s (.c X1) Z1) (.c X2)) (Hd (.a X3 X2) X4 (Hd (.a X4 Y1) X1 (Gf W0 X3)))) rfl (Int.toNat_of_nonneg (l20 (Hg W0 X1 (Ga Z0 (.s (.s (.c X1) Z1) (.c W0)))) rfl hi2)) (Nat.sub_add_cancel (x2')) (Nat.sub_add_cancel (l30 (.P 2 1 (Hd W0 Y0 (He (.c W0) (.s (.s (.c X1) Z1) (.c X2)) (Gb Y1 X1)))) rfl (Int.toNat_of_nonpos x3') (Int.toNat_of_nonneg (l20 (Hg W0 X1 (Ga Z0 (.s (.s (.c X1) Z1) (.c W0)))) rfl hi2))))) (fun x2'=>l20 (Hc W0 Y0 (Hd X1 Y0 (Gf W0 X1))) rfl (Int.toNat_of_nonpos x3') (Nat.sub_eq_zero_of_le x2')))
  obtain⟨c,hc⟩:∃c,ns[((ns.length:Int)-1-(i:Int)).toNat]? =some c:=⟨_,List.getElem?_eq_getElem (by exact l40 (Hc W0 X1 (Hb X1 X2 (Hc (.a X2 Y1) X3 (Gc W0 X3)))) rfl hp (Nat.sub_le _ _) (Nat.sub_add_cancel (l20 (.P 0 1 (Hg W0 X1 (Gb Y1 X1))) rfl hi2)))⟩
  have hz:=hz ⟨by rw[List.length_set];exact h1,by assumption,fun j h4 h5=>by
   rw[hp,List.getElem?_set]
   split
   ·rw[if_pos (by exact l40 (Hd W0 (.a X1 Y1) (Hb X2 X1 (Hc X3 X2 (Gc X3 W0)))) rfl h1 h5 (by assumption))]
   ·exact h3 j (by lia) h5⟩
  refine AD (AN (f:=Tr.int) (by exact l20 (Hg W0 X1 (Ga Z0 (.s (.s (.c X1) Z1) (.c W0)))) rfl hi2) hc) (Al (h63 c (hns c (List.mem_of_getElem? hc))) rfl (Al h184 rfl ⟨⟨by exact l20 (Hg W0 X1 (Ga Z0 (.s (.s (.c X1) Z1) (.c W0)))) rfl hi2,by rw[List.length_map];exact(l30 (.P 2 1 (Hd W0 (.a X1 Y1) (Gd (.s (.s (.c X1) Z1) (.c X2)) (.c W0)))) rfl h1)⟩,(hz _ _ rfl ?_).1⟩))
  show[TO.list [.bool false],TO.list ((s.map Tr.bool).set _ (Tr.bool true))]=_
  rw[←List.map_set]
 ·obtain⟨h1,h2,h3⟩:=hs
  rw[show(GD ((ns.length:Int)-1) ns.length).length=ns.length by rw[GD,List.length_map,List.length_range]]at h3
  generalize(GD ((ns.length:Int)-1) ns.length).foldl (fun(s:List Bool) (p:Int)=>s.set p.toNat true) ((List.replicate (ns.length+1) false).set ns.length true)=ft at h1 h3
  refine⟨_,J5 (by decide) (by exact(⟨l10 (.P 0 1 (Ga (.z (-1000)) (.a (.c W0) Z1))) rfl,l10 (Hb W0 Yc (Ga (.a (.c W0) Z1) (.z 1000))) rfl hn⟩)), ?_⟩
  refine Ag (f:=Tr.int) (fun(b:Int)=>R++[(NW,vi b)]) (fun zz=>G ft) (fun(_:Int) (p:Int)=>p) (fun zz zz=>True) (upI 0 ((ns.length:Int)+1)) (-1) trivial (fun i b p hi zz Z hz=> ?_) (fun zz=> ?_)
  ·obtain⟨hp,hp2,hp3⟩:=J3 hi
   refine Al h184 rfl (AD (AN (f:=Tr.bool) (k:=p) (by exact l11 (.P 0 1 (Hf W0 (.a Z0 (.c W0)) (Ga Z0 W0))) rfl hp) (h3 p.toNat (by exact l41 (.P 0 1 (Hf W0 (.a Z0 (.c W0)) (Hc (.a X1 X2) X2 (Hf (.c X3) W0 (Gb X1 X3))))) rfl hp (Nat.sub_add_cancel (l10 (Gb W0 W0) rfl)) (Int.toNat_of_nonneg (l11 (.P 0 1 (Hf W0 (.a Z0 (.c W0)) (Ga Z0 W0))) rfl hp))) (by exact l21 (Hh W0 (.a (.c W0) Z1) (He (.c X1) W0 (Gb X1 W0))) rfl hp2 (Int.toNat_of_nonneg (l11 (.P 0 1 (Hf W0 (.a Z0 (.c W0)) (Ga Z0 W0))) rfl hp))))) (Br (fun hlt=> ?_) fun hlt=>(hz trivial _ _ rfl rfl).1))
   obtain⟨c,hc⟩:∃c,ns[p.toNat]? =some c:=⟨_,List.getElem?_eq_getElem (by exact l21 (Hh W0 (.c W0) (He (.c X1) W0 (Gc X1 W0))) rfl hlt (Int.toNat_of_nonneg (l11 (.P 0 1 (Hf W0 (.a Z0 (.c W0)) (Ga Z0 W0))) rfl hp)))⟩
   exact AD (AN (f:=Tr.int) (by exact l11 (.P 0 1 (Hf W0 (.a Z0 (.c W0)) (Ga Z0 W0))) rfl hp) hc) (Al (h63 c (hns c (List.mem_of_getElem? hc))) rfl (hz trivial _ _ rfl rfl).1)
  ·rw[Rx]
   exact hQ _ _
theorem fh(hn:ns.length≤100)(hns:∀x∈ns,0≤x∧x<3):Ret (AC (k+3) X) 191 [.t (AU T),vi n, .t (AQ ns)] (.int ns.length):=by
 refine Af (f:=VQ) rfl rfl rfl fun K K0 e zz Q hQ=> ?_
 have h198:Ret K 198 _ _:=e▸fg hn hns
 rw[←List.length_map (f:=Tr.int)]at hQ
 refine Cf (fun zz=>hQ _ _) fun h=> ?_
 refine AD (by rw[Eo,if_pos (of_decide_eq_true h)]) ?_
 rw[List.length_map]at hQ
 exact Al h198 rfl (hQ _ _)
noncomputable def LE(s:List Nat)(t:List Nat):List Nat:=match t with
 |[]=>s
 |n::_=>Ap s n
noncomputable def Hx(A:Aut)(s:List Nat):List Nat:=A.tags.foldl LE s
noncomputable def GB(T:BA):List Nat:=BG.foldl (fun s key=>Hx (T.auts key.toNat) s) ((Op T.ends).foldl Ap [])
noncomputable def GI(T:BA):List Int:=(T.rules.filter fun p=> !decide (p.1∈(GB T).map Int.ofNat)).map (·.1)
theorem Th{l:List Int}:∀m∈Op l,m<4:=by
 cases l with
 |nil=>exact fun m h=>absurd h List.not_mem_nil
 |cons _ _=>exact fun m h=>by rw[List.mem_singleton.mp h];decide
theorem cP(hg:∀i,An (T.auts i)):Ret (AC (k+1) X) 203 [.t (AU T)] (AQ (GI T)):=by
 refine Af (f:=VO) rfl rfl rfl fun K K0 e zz Q hQ=> ?_
 refine⟨Op T.ends,rfl,Th,by decide, ?_⟩
 refine Ag (f:=Tr.int) (fun zz=>[(AE, .t (AU T)),(BB, .ref 0)]) (fun s=>[.set (s.map Int.ofNat), .gone]) (fun s key=>Hx (T.auts key.toNat) s) (fun zz zz=>True) BG ((Op T.ends).foldl Ap []) trivial (fun i s key hk zz Z hZ=> ?_) (fun zz=> ?_)
 ·have hk:=in4 (List.mem_of_getElem? hk)
  have g:=hg key.toNat
  refine AD (KC hk) ?_
  generalize T.auts key.toNat=A at g hZ
  refine Ag (f:=Bv) (fun zz=>[(AE, .t (AU T)),(BB, .ref 0),(Aw,vi key)]) (fun s=>[.set (s.map Int.ofNat), .gone]) LE (fun zz zz=>True) A.tags s trivial (fun i s t ht zz Z2 hZ2=> ?_) (fun zz=> ?_)
  rotate_left
  ·exact(hZ trivial _ _ rfl rfl).1
  cases t with
  |nil=>exact(hZ2 trivial _ _ rfl rfl).1
  |cons n r=>
   have hn:=g.tb _ (List.mem_of_getElem? ht) n List.mem_cons_self
   refine Uq (Int.natCast_pos.mpr (Nat.succ_pos _)) ⟨⟨Int.natCast_nonneg _,Int.lt_trans (Int.ofNat_lt.mpr hn) (by decide)⟩,(hZ2 trivial _ _ rfl ?_).1⟩
   exact congrArg (fun l=>[TO.set l,TO.gone]) Er
 ·unfold GI at hQ
  show wss _ _ _ _ [.set ((GB T).map Int.ofNat), .gone]
  generalize GB T=pk at hQ
  refine Bz (f:=Bn) (g:=fun p=> .int p.1) (p:=fun p=> !decide (p.1∈pk.map Int.ofNat)) T.rules (fun p hp yes no z1 z2=> ?_) ?_
  ·exact A6 (fun h=>z1 h _ rfl) fun h=>z2 h _ rfl
  ·rw[AQ,List.map_map]at hQ
   exact hQ _ _
end
end
section
theorem BC{x y:Str}:(x++y).length=x.length+y.length:=by
 show(x.cps++y.cps).size=_
 rw[Array.size_append];rfl
noncomputable def CR(i:Int):Str:=toString i
theorem Dd{i:Int}(h:0≤i∧i<4):(CR i).length=1:=by
 have:i=0∨i=1∨i=2∨i=3:=by lia
 rcases this with rfl|rfl|rfl|rfl<;>decide+kernel
noncomputable abbrev F9:Str:=⟨#[114,117,108,101,32]⟩
noncomputable abbrev Q5:Str:=⟨#[32,99,97,110,110,111,116,32,98,101,32,109,97,116,99,104,101,100]⟩
noncomputable abbrev MI:Str:=⟨#[32,104,97,115,32,118,97,114,105,97,98,108,101,32,116,114,97,105,108,105,110,103,32,99,111,110,116,101,120,116]⟩
noncomputable def NN(n:Int):Tr:= .str ((F9++CR n)++Q5)
noncomputable def Xo(n:Int):Tr:= .str ((F9++CR n)++MI)
noncomputable def dk:Tr:= .str ⟨#[110,111,100,101,102,97,117,108,116,32,105,115,32,116,111,108,100,32,98,117,116,32,116,104,101,32,100,101,102,97,117,108,116,32,114,117,108,101,32,99,97,110,32,98,101,32,109,97,116,99,104,101,100]⟩
noncomputable def Hs(b:Bool)(x:Tr)(s:List Tr):List Tr:=bif b then s++[x]else s
noncomputable def DA(cuts un:List Int)(n:Int)(s:List Tr):List Tr:=Hs (decide (n∈cuts)) (Xo n) (Hs (decide (n∈un)) (NN n) s)
noncomputable def K9(b:Bool)(ps s:List Tr):List Tr:=Hs (!b&& !ps.isEmpty) dk s
noncomputable def Ls(T:BA):List Tr:=K9 T.dflt (LA T) (T.rules.foldl (fun s p=>DA T.cuts (GI T) p.1 s) [])
theorem Ep(b:Bool)(x:Tr)(s:List Tr):(Hs b x s).length≤s.length+1:=by
 cases b
 ·exact Nat.le_succ _
 ·show(s++[x]).length≤_;rw[List.length_append];exact Nat.le_refl _
theorem ck{b:Bool}{P R:Prop}{x:Tr}{s:List Tr}{W:List Tr→Prop}(h1:b=true→W (s++[x])→P)(h2:W s→R)(h:W (Hs b x s)):ifB b P R:=by
 cases b
 ·exact h2 h
 ·exact h1 rfl h
section
variable{k:Nat}{X:Prop}{T:BA}{n off:Int}
theorem fY(hg:∀i,An (T.auts i))(hr:T.rules.length≤100)(hr2:∀p∈T.rules,0≤p.1∧p.1<4):Ret (AC (k+3) X) 224 [.t (AU T)] (.fl (Ls T)):=by
 refine Af (f:=VL) rfl rfl rfl fun K K0 e zz Q hQ=> ?_
 have h203:Ret K 203 _ _:=e▸cP hg
 have h210:Ret K 210 _ _:=e▸cN hg
 refine Al h203 rfl ?_
 unfold Ls at hQ
 generalize GI T=un at hQ
 refine Ag (f:=Bn) (fun zz=>[(AE, .t (AU T)),(AP, .ref 0),(JO, .t (AQ un))]) d6 (fun s p=>DA T.cuts un p.1 s) (fun i s=>s.length≤2*i) T.rules [] (Nat.le_refl _) (fun i s p hi hs Z hZ=> ?_) (fun hs=> ?_)
 ·have hp:=hr2 p (List.mem_of_getElem? hi)
  have hi2:=Au hi
  have hb:p.1.natAbs<2^60:=by exact Ok (by omega)
  have hl:=Dd hp
  have B1:F9.length+(CR p.1).length≤1048576:=by rw[hl];decide
  have B2:(F9++CR p.1).length+Q5.length≤1048576:=by rw[BC,hl];decide
  have B3:(F9++CR p.1).length+MI.length≤1048576:=by rw[BC,hl];decide
  have a1:=Ep (decide (p.1∈un)) (NN p.1) s
  have a2:=Ep (decide (p.1∈T.cuts)) (Xo p.1) (Hs (decide (p.1∈un)) (NN p.1) s)
  have hZ:=fun ρ₂ L₂ e1 e2=>(hZ (by unfold DA;exact(l40 (Hb W0 (.m 2 X1) (Hb X2 (.a W0 Y1) (Hb X3 (.a X2 Y1) (Gb X3 (.m 2 (.a X1 Y1)))))) rfl hs a1 a2)) ρ₂ L₂ e1 e2).1
  have B5:(Hs (decide (p.1∈un)) (NN p.1) s).length+1≤1048576:=by exact l40 (.H .nle 2 W0 Yc (Hb X1 (.m 2 X2) (.H .nlt 2 X2 W0 (Hb X3 (.a X1 Y1) (Gb (.a X3 Y1) Yb))))) rfl hr hs hi2 a1
  have B4:s.length+1≤1048576:=by exact l30 (.H .nle 2 W0 Yc (Hb X1 (.m 2 X2) (.H .nlt 2 X2 W0 (Gb (.a X1 Y1) Yb)))) rfl hr hs hi2
  clear a1 a2 hi2 hs hp hl
  have hd:∀h:decide (p.1∈T.cuts)=true,ED T.cuts (T.cuts.map fun zz=>vCut) p.1=some vCut:=fun h=>by rw[Eo,if_pos (of_decide_eq_true h)]
  unfold DA at hZ
  refine AD (E4 un) (A6 (fun e1=> ?_) fun e1=> ?_)
  ·rw[e1]at hZ B5
   refine⟨hb,B1,B2,B4,A6 (fun e2=> ?_) fun e2=> ?_⟩
   ·rw[e2]at hZ
    exact AD (hd e2) ⟨hb,B1,B3,B5,hZ _ _ rfl rfl⟩
   ·rw[e2]at hZ;exact hZ _ _ rfl rfl
  ·rw[e1]at hZ
   refine A6 (fun e2=> ?_) fun e2=> ?_
   ·rw[e2]at hZ
    exact AD (hd e2) ⟨hb,B1,B3,B4,hZ _ _ rfl rfl⟩
   ·rw[e2]at hZ;exact hZ _ _ rfl rfl
 ·have B4:(T.rules.foldl (fun s p=>DA T.cuts un p.1 s) []).length+1≤1048576:=by exact l20 (.H .nle 2 W0 Yc (Hb X1 (.m 2 W0) (Gb (.a X1 Y1) Yb))) rfl hr hs
  generalize T.rules.foldl (fun s p=>DA T.cuts un p.1 s) []=rs at B4 hQ
  refine Cf (fun hd=>Al h210 rfl (GX (fun he=> ?_) fun he=> ?_)) fun hd=> ?_
  ·rw[K9,hd,List.isEmpty_eq_false_iff.mpr he]at hQ
   exact⟨B4,hQ _ _⟩
  ·rw[K9,hd,he]at hQ
   exact hQ _ _
  ·rw[K9,hd]at hQ
   exact hQ _ _
end
end
section
noncomputable def txt(cs:List Nat):Str:=⟨⟨cs⟩⟩
noncomputable def sgn(c:Nat):Str:=⟨#[c]⟩
theorem Dp{cs:List Nat}{i:Int}{c:Nat}(h0:0≤i)(h:cs[i.toNat]? =some c):LB (txt cs) i=some c:=by
 have h1:=Au h
 have hl:i<((txt cs).length:Nat):=by show i<(cs.length:Nat);exact(l21 (Hg W0 X1 (Hf (.c W0) W0 (Gd W0 (.c X1)))) rfl h1 (Int.toNat_of_nonneg h0))
 have e:seqIndex? i (txt cs).length=some i.toNat:=by
  unfold seqIndex?
  rw[if_neg (by exact(l01 (Ha Z0 W0 (.G .inlt 1 W0 Z0)) rfl h0):¬i<0)]
  exact if_pos (by rw[decide_eq_true h0,decide_eq_true hl];rfl)
 unfold LB
 rw[e]
 show cs.toArray[i.toNat]? =some c
 rw[List.getElem?_toArray];exact h
theorem JG{c d:Nat}:C5 (sgn c) (sgn d)=Nat.beq c d:=by
 show(bif Nat.beq c d then true else false)=_
 cases Nat.beq c d<;>rfl
noncomputable abbrev Dl:Str:=⟨#[36,101,110,100]⟩
noncomputable abbrev sNo:Str:=⟨#[]⟩
noncomputable def Js(kd tx:Str)(p:Tr):Tr:= .fi 343 [FG,AK,xat,Ai] [.str kd, .str tx,p, .str tx]
noncomputable def EU(off n:Int):Int:=if n<(if(0:Int)>off then 0 else off)then n else if(0:Int)>off then 0 else off
theorem Oc{off n:Int}(hn:0≤n):0≤EU off n∧EU off n≤n:=by
 unfold EU
 by_cases a:(0:Int)>off
 ·rw[if_pos a,if_neg (Int.not_lt.mpr hn)];exact⟨Int.le_refl _,hn⟩
 ·rw[if_neg a];by_cases b:n<off
  ·rw[if_pos b];exact⟨hn,Int.le_refl _⟩
  ·rw[if_neg b];exact⟨Int.not_lt.mp a,Int.not_lt.mp b⟩
section
variable{k:Nat}{X:Prop}{cs:List Nat}{off:Int}{kd tx:Str}{p:Tr}
theorem YH(hl:cs.length≤100):GN (AC (k+2) X) 259 [.t (.str (txt cs)),vi off] fun x=>True:=by
 refine GU (f:=VK) rfl rfl rfl fun K K0 e zz Q hQ=> ?_
 have h248:∀a b c:Int,Ret K 248 [vi a,vi b,vi c] _:=fun a b c=>e▸fX
 have hl1:(txt cs).length≤1048576:=Nat.le_trans hl (by decide)
 refine⟨hl1, ?_⟩
 obtain⟨h0,h1⟩:=Oc (off:=off) (n:=(txt cs).length) (Int.natCast_nonneg _)
 have h1:EU off ((txt cs).length:Nat)≤cs.length:=h1
 refine⟨_,J5 (a:=0) (b:=EU off ((txt cs).length:Nat)) (by decide) (by exact(⟨l01 (Ha Z0 W0 (Ga (.z (-1000)) W0)) rfl h0,l11 (Hb W0 Yc (Ha W0 (.c W0) (Ga W0 (.z 1000)))) rfl hl h1⟩)), ?_⟩
 refine Ag (f:=Tr.int) (σ:=Int×Int) (fun s=>[(AK, .t (.str (txt cs))),(CG,vi off),(xat,vi (EU off ((txt cs).length:Nat))),(C9,vi s.1),(J2,vi s.2)]) (fun zz=>[]) (fun s p=>bif Nat.beq (cs.getD p.toNat 0) 10 then(s.1+1,p+1)else s) (fun zz zz=>True) (upI 0 (EU off ((txt cs).length:Nat))) (1,0) trivial (fun i s p hi zz Z hZ=> ?_) (fun zz=> ?_)
 ·refine hid fun Gg gg=> ?_
  obtain⟨hp,hp2,hp3⟩:=J3 hi
  obtain⟨c,hc⟩:∃c,cs[p.toNat]? =some c:=⟨_,List.getElem?_eq_getElem (by exact l22 (Ha W0 (.c W0) (Hh X1 W0 (He (.c X1) X1 (Gc X1 W0)))) rfl h1 hp2 (Int.toNat_of_nonneg (l11 (.P 0 1 (Hf W0 (.a Z0 (.c W0)) (Ga Z0 W0))) rfl hp)))⟩
  refine gg ?_
  have hZ:=fun ρ₂ L₂ e1 e2=>(hZ trivial ρ₂ L₂ e1 e2).1
  rw[List.getD_eq_getElem?_getD,hc,Option.getD_some]at hZ
  refine⟨hl1,AD (Dp (by exact l11 (.P 0 1 (Hf W0 (.a Z0 (.c W0)) (Ga Z0 W0))) rfl hp) hc) (A6 (b:=C5 (sgn c) (sgn 10)) (fun h=> ?_) fun h=> ?_)⟩
  ·rw[←JG,h]at hZ
   exact hZ _ _ rfl rfl
  ·rw[←JG,h]at hZ
   exact hZ _ _ rfl rfl
 ·exact Al (h248 _ _ _) rfl (hQ _ _ _ trivial)
theorem fV:Ret (AC (k+1) X) 340 [.t (Js kd tx p)] (.bool (C5 kd Dl)):=Af (f:=VI) rfl rfl rfl fun K K0 e zz Q hQ=>hQ _ _
theorem fW:Ret (AC (k+1) X) 333 [.t (Js kd tx p)] (.tup [.str kd, .str tx]):=Af (f:=VJ) rfl rfl rfl fun K K0 e zz Q hQ=>hQ _ _
theorem fU(hl:cs.length≤100):GN (AC (k+3) X) 354 [.t (.str (txt cs))] fun x=>∃p,x=Js Dl sNo p:=by
 refine GU (f:=VH) rfl rfl rfl fun K K0 e zz Q hQ=> ?_
 have h259:∀off:Int,GN K 259 [.t (.str (txt cs)),vi off] _:=fun off=>e▸YH hl
 have h343:∀p:Tr,Ret K 343 [.t (.str Dl), .t (.str sNo), .t p] _:=fun p=>e▸cM
 exact⟨Nat.le_trans hl (by decide),F8 (h259 _) rfl fun p zz=>Al (h343 p) rfl (hQ _ _ _ ⟨p,rfl⟩)⟩
end
end
section
structure SC where
 cs:List Nat
 T:BA
 ns:List Int
structure Sc where
 at_:Int
 began:Int
 cond:Int
 ech:Str
 cnt:Int
 turns:List (Int×Int×Int)
 ended:Bool
noncomputable def Qs(x:Int×Int×Int):Tr:= .tup [.int x.1, .int x.2.1, .int x.2.2]
noncomputable def scF(c:SC)(s:Sc):List (Nat×V):=[(AK,vs (txt c.cs)),(CX, .t EQ),(AF,vb c.T.dflt),(EG,vi 2000),(xat,vi s.at_),(EM,vi s.began),(AI,vi s.cond),(I9, .ref 2),(DO,vs s.ech),(Be,vi s.cnt),(Bb, .ref 3),(Cp,vb false),(DF,vb s.ended),(AE, .t (AU c.T)),(AJ, .t (AQ c.ns))]
noncomputable def scL(c:SC)(s:Sc):LH:=[.inst 860, .flds (scF c s), .list [], .list (s.turns.map Qs)]
structure Co(K:KT')(a:Addr)(vl:List V)(c:SC)(s:Sc)(v:Tr)(s':Sc):Prop where
 run:∀Q:Post,Q (.t v) (scL c s')→K (fnV a) (.ref 0::vl) Q (scL c s)
structure Cn(K:KT')(a:Addr)(vl:List V)(c:SC)(s:Sc)(P:Tr→Sc→Prop):Prop where
 run:∀Q:Post,(∀v s',P v s'→Q (.t v) (scL c s'))→K (fnV a) (.ref 0::vl) Q (scL c s)
noncomputable def CO(cs:List Nat)(off:Int):Int:=if off=0∨cs[(off-1).toNat]? =some 10 then 1 else 0
section
variable{k:Nat}{X:Prop}{K:KT'}{a:Addr}{f:Fn}{vl:List V}{ρ:Rho}{x:Tr}{Q:Post}{R:LH}{c:SC}{s s':Sc}{P:Tr→Sc→Prop}
theorem Du(hF:FA a=some f)(hk:f.keep=4)(hρ:f.env (.ref 0::vl)=some ρ)(h:∀K K0,K=AC k X→K0=AC k False→∀Q:QS,(∀x s' ρ' N,P x s'→Q (.ret (.t x)) ρ' (scL c s'++N))→(∀s' ρ' N,P .none s'→Q .next ρ' (scL c s'++N))→wss f.body ⟨K,K0,X∧1≤k⟩ ρ Q (scL c s)):Cn (AC (k+1) X) a vl c s P:=⟨fun Q hq=>
 Gl hF (CE (by rw[hk];rfl) (CJ hρ (h _ _ rfl rfl _ (fun x s' zz N hx=>by rw[hk];exact hq x s' hx) fun s' zz N hx=>by rw[hk];exact hq .none s' hx)))⟩
theorem EI(hF:FA a=some f)(hk:f.keep=4)(hρ:f.env (.ref 0::vl)=some ρ)(h:∀K K0,K=AC k X→K0=AC k False→∀Q:QS,(∀ρ' N,Q (.ret (.t x)) ρ' (scL c s'++N))→(x= .none→∀ρ' N,Q .next ρ' (scL c s'++N))→wss f.body ⟨K,K0,X∧1≤k⟩ ρ Q (scL c s)):Co (AC (k+1) X) a vl c s x s':=⟨fun Q hq=>
 (Du (P:=fun y t=>y=x∧t=s') hF hk hρ (fun K K0 e e0 Q h1 h2=>h K K0 e e0 Q (fun ρ' N=>h1 _ _ _ _ ⟨rfl,rfl⟩) fun hx ρ' N=>h2 _ _ _ ⟨hx.symm,rfl⟩)).run Q fun v t ⟨e1,e2⟩=>e1▸e2▸hq⟩
theorem Fy(h:Co K a vl c s x s')(hv:vl.all (Bs 4)=true)(hq:Q (.t x) (scL c s'++R)):FK K 4 (fnV a) (.ref 0::vl) Q (scL c s++R):=
 CE hv (h.run _ (by cases R<;>exact hq))
theorem D1(h:Cn K a vl c s P)(hv:vl.all (Bs 4)=true)(hq:∀x s',P x s'→Q (.t x) (scL c s'++R)):FK K 4 (fnV a) (.ref 0::vl) Q (scL c s++R):=
 CE hv (h.run _ fun x s' hx=>by cases R<;>exact hq x s' hx)
theorem dU{off:Int}(hl:c.cs.length≤100)(h0:0≤off∧off≤c.cs.length):Co (AC (k+1) X) 737 [vi off] c s (.int (CO c.cs off)) s:=by
 refine EI (f:=VC) rfl rfl rfl fun K K0 zz zz Q hQ zz=> ?_
 have hl1:(txt c.cs).length≤1048576:=Nat.le_trans hl (by decide)
 unfold CO at hQ
 refine C3 (fun e=> ?_) fun e=> ?_
 ·rw[if_pos (.inl e)]at hQ
  exact hQ _ []
 ·obtain⟨d,hd⟩:∃d,c.cs[(off-1).toNat]? =some d:=⟨_,List.getElem?_eq_getElem (by exact l21 (Ha W0 (.c W0) (He (.c X1) (.s W0 Z1) (Gc X1 W0))) rfl h0.2 (Int.toNat_of_nonneg (l01 (Hh Z0 W0 (Ga Z0 (.s W0 Z1))) rfl (iln h0.1 (Ne.symm e)))))⟩
  rw[hd]at hQ
  refine⟨hl1,AD (Dp (by exact l01 (Hh Z0 W0 (Ga Z0 (.s W0 Z1))) rfl (iln h0.1 (Ne.symm e))) hd) (A6 (b:=C5 (sgn d) (sgn 10)) (fun h=> ?_) fun h=> ?_)⟩
  ·rw[JG]at h
   rw[if_pos (.inr (by rw[Nat.eq_of_beq_eq_true h]))]at hQ
   exact hQ _ []
  ·rw[JG]at h
   rw[if_neg fun q=>q.elim e fun q=>by cases q;exact absurd h (by decide)]at hQ
   exact hQ _ []
noncomputable def yyT(c:SC)(s:Sc):Str:=CZ (txt c.cs) s.began.toNat s.at_.toNat
noncomputable def Ri(c:SC)(s:Sc):Prop:=0≤s.began∧s.began≤s.at_∧s.at_≤c.cs.length
theorem Xl(hl:c.cs.length≤100)(h0:Ri c s):Co (AC (k+1) X) 744 [] c s (.str (yyT c s)) s:=
 EI (f:=VB) rfl rfl rfl fun K K0 zz zz Q hQ zz=>⟨Nat.le_trans hl (by decide),h0.1,h0.2.1,h0.2.2,hQ _ []⟩
theorem dT{kd:Str}(hl:c.cs.length≤100)(h0:Ri c s):Cn (AC (k+3) X) 751 [vs kd] c s fun x s'=>s'=s∧∃p,x=Js kd (yyT c s) p:=by
 refine Du (f:=VA) rfl rfl rfl fun K K0 e zz Q hQ zz=> ?_
 have h744:Co K 744 [] c s _ _:=e▸Xl hl h0
 have h259:∀off:Int,GN K 259 [.t (.str (txt c.cs)),vi off] _:=fun off=>e▸YH hl
 have h343:∀p:Tr,Ret K 343 [vs kd,vs (yyT c s), .t p] _:=fun p=>e▸cM
 exact Fy (R:=[]) h744 rfl (F8 (h259 _) rfl fun p zz=>Al (h343 p) rfl (hQ _ s _ [] ⟨rfl,p,rfl⟩))
theorem dR(hl:c.cs.length≤100):Cn (AC (k+3) X) 765 [] c s fun x s'=>s'=s:=by
 refine Du (f:=U8) rfl rfl rfl fun K K0 e zz Q hQ zz=> ?_
 have h259:∀off:Int,GN K 259 [.t (.str (txt c.cs)),vi off] _:=fun off=>e▸YH hl
 exact F8 (h259 _) rfl fun p zz=>hQ _ s _ [] rfl
theorem dS(hc:s.cnt<2000):Co (AC (k+1) X) 758 [] c s .none {s with cnt:=s.cnt+1}:=
 EI (f:=U9) rfl rfl rfl fun K K0 zz zz Q zz hQ=>⟨rfl,LK (by exact l01 (Hh W0 (.z 2000) (.G .inlt 1 (.z 2000) (.a W0 Z1))) rfl hc) (hQ rfl _ [])⟩
theorem bU(hc:s.cnt<2000):Co (AC (k+2) X) 786 [] c s .none {s with cnt:=s.cnt+1,began:=s.at_}:=by
 refine EI (f:=U5) rfl rfl rfl fun K K0 e zz Q zz hQ=> ?_
 have h758:Co K 758 [] c s _ _:=e▸dS hc
 exact Fy (R:=[]) h758 rfl (hQ rfl _ [])
end
end
section
noncomputable def EB(A:Aut):List Int→Int→Int→List (Int×List Nat)
 |[],_,_=>[]
 |c::r,e,q=>if AR A q c= -1 then[]else if(Bj A (AR A q c)).isEmpty=true then EB A r (e+1) (AR A q c)else(e+1,Bj A (AR A q c))::EB A r (e+1) (AR A q c)
theorem J7{A:Aut}{c:Int}{r:List Int}{e q:Int}:EB A (c::r) e q=if AR A q c= -1 then[]else if(Bj A (AR A q c)).isEmpty=true then EB A r (e+1) (AR A q c)else(e+1,Bj A (AR A q c))::EB A r (e+1) (AR A q c):=rfl
noncomputable def XV(p:Int×List Nat):Tr:= .tup [.int p.1,Bv p.2]
theorem Pb{A:Aut}:∀(r:List Int) (e q:Int),(EB A r e q).length≤r.length
 |[],_,_=>Nat.le_refl _
 |c::r,e,q=>by
  have:=Pb (A:=A) r (e+1) (AR A q c)
  rw[J7]
  split
  ·exact Nat.zero_le _
  ·split
   ·exact Nat.le_succ_of_le this
   ·exact Nat.succ_le_succ this
theorem Et{A:Aut}(g:An A){q:Int}(h:0≤q∧q<3):A.tags[q.toNat]? =some (Bj A q):=by
 unfold Bj
 obtain⟨t,ht,_⟩:=g.tag (show q.toNat<3 by exact l11 (Hh W0 W3 (He (.c W0) W0 (Gc W0 Y3))) rfl h.2 (Int.toNat_of_nonneg h.1))
 rw[if_neg (by exact(fun h9=>l01 (Ha Z0 W0 (He W0 Zm .f)) rfl h.1 h9)),ht];rfl
section
variable{k:Nat}{X:Prop}{A:Aut}{ns:List Int}{b:Int}
theorem c88(g:An A)(hn:ns.length≤100)(hns:∀x∈ns,0≤x∧x<3)(hb:0≤b∧b≤ns.length):Ret (AC (k+2) X) 88 [.t (A8 A), .t (AQ ns),vi b] (.fl (((EB A (ns.drop b.toNat) b 0).reverse).map XV)):=by
 refine Af (f:=bx) rfl rfl rfl fun K K0 e zz Q hQ=> ?_
 have hl:((ns.map Tr.int).length:Int)=ns.length:=by rw[List.length_map]
 have h63:∀q c:Int, -1≤q∧q<3→0≤c∧c<3→Ret K 63 [.t (A8 A),vi q,vi c] (.int (AR A q c)):=fun q c h1 h2=>e▸cL g h1 h2
 rw[List.map_reverse]at hQ
 refine⟨_,J5 (by exact(⟨l01 (Ha Z0 W0 (Ga (.z (-1000)) W0)) rfl hb.1,l11 (Hb W0 Yc (Ha W0 (.c W0) (Ga W0 (.z 1000)))) rfl hn hb.2⟩)) (by exact(⟨l20 (.P 1 1 (Hf (.c W0) (.c X1) (Ga (.z (-1000)) (.c W0)))) rfl hl,l20 (Hb W0 Yc (He (.c X1) (.c W0) (Ga (.c X1) (.z 1000)))) rfl hn hl⟩)), ?_⟩
 rw[hl]
 generalize hF:(EB A (ns.drop b.toNat) b 0).map XV=F at hQ
 refine E5 (f:=Tr.int) (fun i ρ L=>∃(q:Int) (acc:List Tr),ρ=[(GG,V.t (A8 A)),(AJ, .t (AQ ns)),(xat,vi b),(AG,vi q),(Fq, .ref 0)]∧L=[.list acc]∧(-1≤q∧q<3)∧acc.length≤i∧acc++(EB A (ns.drop (b.toNat+i)) (b+i) q).map XV=F) (upI b ns.length) (i:=0) ⟨0,[],rfl,rfl,by decide,Nat.le_refl _,by rw[List.nil_append,Nat.add_zero,←hF];congr 2;exact(l01 (Ge (.a W0 (.c Y0)) W0) rfl)⟩ ?_ ?_
 ·rintro i x _ _ hx ⟨q,acc,rfl,rfl,hq,ha,hr⟩ Z hZ hbk _
  rw[Nat.zero_add]at ha hr hZ
  obtain⟨rfl,hp2,hp3⟩:=J3 hx
  have hlt:b.toNat+i<ns.length:=by exact l31 (Hh (.a W0 (.c W0)) (.c X1) (He (.c X2) W0 (Gc (.a X2 W0) X1))) rfl hp2 (Int.toNat_of_nonneg hb.1)
  have hx:ns[(b+(i:Int)).toNat]? =some ns[b.toNat+i]:=by
   rw[show(b+(i:Int)).toNat=b.toNat+i by exact l31 (He (.c W0) (.a W0 (.c X1)) (Hf (.c X2) W0 (Gf W0 (.a X2 X1)))) rfl (Int.toNat_of_nonneg (l11 (.P 0 1 (Ha Z0 W0 (Ga Z0 (.a W0 (.c W0))))) rfl hb.1)) (Int.toNat_of_nonneg hb.1),List.getElem?_eq_getElem hlt]
  rw[List.drop_eq_getElem_cons hlt,EB]at hr
  have hxr:=hns _ (List.getElem_mem hlt)
  generalize ns[b.toNat+i]=c at hx hr hxr
  have hs:=Ei g hq hxr
  refine AD (AN (f:=Tr.int) (by exact l11 (.P 0 1 (Ha Z0 W0 (Ga Z0 (.a W0 (.c W0))))) rfl hb.1) hx) (Al (h63 _ _ hq hxr) rfl ?_)
  generalize AR A q c=q1 at hs hr
  refine C3 (fun e1=> ?_) fun e1=> ?_
  ·rw[if_pos e1,List.map_nil,List.append_nil]at hr
   subst hr
   exact hbk _ _ (hQ _ _)
  ·rw[if_neg e1]at hr
   have ht:=Et g (q:=q1) (by exact(⟨l01 (Hh Zm W0 (Ga Z0 W0)) rfl (iln hs.1 (Ne.symm e1)),hs.2⟩))
   have he:(b+((i+1:Nat):Int))=b+(i:Int)+1:=by exact l11 (Ge (.a W0 (.c (.a W0 Y1))) (.a (.a W0 (.c W0)) Z1)) rfl
   refine AD (AN (f:=Bv) (by exact l01 (Hh Zm W0 (Ga Z0 W0)) rfl (iln hs.1 (Ne.symm e1))) ht) (GX (fun e2=> ?_) fun e2=> ?_)
   ·rw[if_neg (fun h=>e2 (by rw[List.isEmpty_iff.mp h];rfl)),List.map_cons,List.append_cons]at hr
    refine AD (AN (f:=Bv) (by exact l01 (Hh Zm W0 (Ga Z0 W0)) rfl (iln hs.1 (Ne.symm e1))) ht) ⟨by exact l31 (Hb W0 Yc (Ha Z0 W0 (Hb X1 X2 (Hh (.a W0 (.c X2)) (.c W0) (Gb (.a X1 Y1) Yb))))) rfl hn hb.1 ha hp2,(hZ _ _ ⟨q1,_,rfl,rfl,hs,by rw[List.length_append];exact Nat.succ_le_succ ha, ?_⟩).1⟩
    rw[he,←hr];rfl
   ·rw[if_pos (List.isEmpty_iff.mpr (List.map_eq_nil_iff.mp e2))]at hr
    exact(hZ _ _ ⟨q1,_,rfl,rfl,hs,Nat.le_succ_of_le ha,by rw[he,←hr];rfl⟩).1
 ·rintro _ _ ⟨q,acc,rfl,rfl,_,_,hr⟩
  rw[Nat.zero_add,show(upI b ns.length).length=((ns.length:Int)-b).toNat by rw[upI,List.length_map,List.length_range],List.drop_of_length_le (by exact l31 (Hf (.c W0) W0 (Hf (.c X1) (.s (.c X2) W0) (Gb X2 (.a W0 X1)))) rfl (Int.toNat_of_nonneg hb.1) (Int.toNat_of_nonneg (l11 (Ha W0 (.c W0) (Ga Z0 (.s (.c W0) W0))) rfl hb.2)))]at hr
  rw[show EB A [] _ q=[]from rfl,List.map_nil,List.append_nil]at hr
  subst hr
  exact hQ _ _
set_option tactic.hygienic true in
theorem HI{A:Aut}:∀(r:List Int) (e q:Int) (p:Int×List Nat),p∈EB A r e q→e+1≤p.1∧p.1≤e+r.length∧p.2≠[]∧∃q2,p.2=Bj A q2
 |[],_,_,p,h=>absurd h List.not_mem_nil
 |c::r,e,q,p,h=>by
  have ih:=HI (A:=A) r (e+1) (AR A q c) p
  rw[J7]at h
  rw[List.length_cons]
  split at h
  ·exact absurd h List.not_mem_nil
  ·split at h
   ·obtain⟨h1,h2,h3⟩:=ih h;exact⟨by exact l02 (Ha (.a (.a W0 Z1) Z1) X1 (Ga (.a W0 Z1) X1)) rfl h1,by exact l12 (Ha W0 (.a (.a X1 Z1) (.c W0)) (Ga W0 (.a X1 (.c (.a W0 Y1))))) rfl h2,h3⟩
   ·rename_i h0
    rcases List.mem_cons.mp h with rfl|h
    ·exact⟨Int.le_refl _,by dsimp only;exact(l11 (.P 0 1 (Ga (.a W0 Z1) (.a W0 (.c (.a W0 Y1))))) rfl),fun e=>h0 (List.isEmpty_iff.mpr e),_,rfl⟩
    ·obtain⟨h1,h2,h3⟩:=ih h;exact⟨by exact l02 (Ha (.a (.a W0 Z1) Z1) X1 (Ga (.a W0 Z1) X1)) rfl h1,by exact l12 (Ha W0 (.a (.a X1 Z1) (.c W0)) (Ga W0 (.a X1 (.c (.a W0 Y1))))) rfl h2,h3⟩
theorem JQ(g:An A){q:Int}{n:Nat}(h:n∈Bj A q):n<3:=by
 unfold Bj at h
 split at h
 ·exact absurd h List.not_mem_nil
 ·cases e:A.tags[q.toNat]? with
  |none=>rw[e]at h;exact absurd h List.not_mem_nil
  |some t=>rw[e]at h;exact g.tb t (List.mem_of_getElem? e) n h
end
noncomputable def DD(A:Aut)(ns:List Int)(b:Int):List (Int×Int):=match(EB A (ns.drop b.toNat) b 0).reverse with
 |[]=>[]
 |(e,t)::_=>match t with
  |[]=>[]
  |n::_=>[(e,Int.ofNat n)]
noncomputable def UV(p:Int×Int):Tr:= .tup [.int p.1, .int p.2]
structure ScO(c:SC):Prop where
 hg:∀i,An (c.T.auts i)
 cl:c.cs.length≤100
 nl:c.ns.length=c.cs.length
 hns:∀x∈c.ns,0≤x∧x<3
section
variable{k:Nat}{X:Prop}{c:SC}{s:Sc}{b:Int}
theorem NH:0≤CO c.cs b∧CO c.cs b<2:=by unfold CO;split<;>decide
theorem bL{a b:Int}(h:0≤b)(k:b≤a):((a.toNat-b.toNat:Nat):Int)=a-b:=by rw[Int.ofNat_sub (Int.toNat_le_toNat k),Int.toNat_of_nonneg (Int.le_trans h k),Int.toNat_of_nonneg h]
theorem dK(o:ScO c)(hb:0≤b∧b≤c.cs.length)(hc:0≤s.cond∧s.cond<2):Co (AC (k+4) X) 843 [vi b] c s (.fl ((DD (c.T.auts (2*s.cond+CO c.cs b).toNat) c.ns b).map UV)) s:=by
 refine EI (f:=Uz) rfl rfl rfl fun K K0 e zz Q hQ zz=> ?_
 have hcs:=o.cl
 have hnl:=o.nl
 have h737:Co K 737 [vi b] c s _ _:=e▸dU hcs hb
 have h142:Ret K 142 [.t (AU c.T),vi s.cond,vi (CO c.cs b)] _:=e▸cQ hc NH
 have g:=o.hg (2*s.cond+CO c.cs b).toNat
 refine Fy (R:=[]) h737 rfl (Al h142 rfl ?_)
 generalize c.T.auts (2*s.cond+CO c.cs b).toNat=A at g hQ
 have h88:Ret K 88 [.t (A8 A), .t (AQ c.ns),vi b] _:=e▸c88 g (by exact l20 (Hb W0 Yc (Hc X1 W0 (Gb X1 Yc))) rfl hcs hnl) o.hns (by exact(⟨hb.1,l21 (Ha W0 (.c W0) (Hd X1 W0 (Ga W0 (.c X1)))) rfl hb.2 hnl⟩))
 refine Al h88 rfl ?_
 have hm:=fun p hp=>HI (A:=A) (c.ns.drop b.toNat) b 0 p (List.mem_reverse.mp hp)
 unfold DD at hQ
 generalize(EB A (c.ns.drop b.toNat) b 0).reverse=l at hm hQ
 cases l with
 |nil=>exact hQ _ [.gone]
 |cons p l=>
  obtain⟨e',t⟩:=p
  obtain⟨m1,m2,m3,q2,m4⟩:=hm _ List.mem_cons_self
  rw[List.length_drop]at m2
  dsimp only at m1 m2 m3 m4
  cases t with
  |nil=>exact absurd rfl m3
  |cons x t=>
   have hx:x<3:=JQ g (m4▸List.mem_cons_self)
   have h191:Ret K 191 [.t (AU c.T),vi (Int.ofNat x), .t (AQ ((c.ns.drop b.toNat).take (e'.toNat-b.toNat)))] _:=e▸fh (by rw[List.length_take,List.length_drop];exact(l40 (Hb W0 Yc (Hc X1 W0 (Hb X2 X1 (Hb X3 X2 (Gb X3 Yc))))) rfl hcs hnl (Nat.sub_le _ _) (Nat.min_le_right _ _))) fun y hy=>o.hns y (List.mem_of_mem_drop (List.mem_of_mem_take hy))
   rw[show(((c.ns.drop b.toNat).take (e'.toNat-b.toNat)).length:Int)=e'-b by rw[List.length_take,List.length_drop,Nat.min_eq_left (Int.ofNat_le.mp (bL hb.1 (Int.le_trans (Int.le_add_of_nonneg_right (by decide)) m1)▸Int.sub_left_le_of_le_add m2))];exact bL hb.1 (Int.le_trans (Int.le_add_of_nonneg_right (by decide)) m1),AQ,List.map_take,List.map_drop]at h191
   refine⟨hb.1,by exact l02 (Ha (.a W0 Z1) X1 (Ga W0 X1)) rfl m1,by rw[List.length_map];exact(Nat.le_total _ _).elim (fun x3'=>l32 (Ha W0 (.a X1 (.c W0)) (Hc (.a W0 X1) X2 (Hf (.c X1) X1 (Ga W0 (.c X2))))) rfl m2 (Nat.sub_add_cancel (x3')) (Int.toNat_of_nonneg hb.1)) (fun x3'=>l22 (Ha (.a W0 Z1) X1 (Ha X1 (.a W0 (.c W0)) (Hc W0 Y0 (.G .ile 0 X1 (.c X1))))) rfl m1 m2 (Nat.sub_eq_zero_of_le x3')),Al h191 rfl (Uq (by exact l02 (Ha (.a W0 Z1) X1 (Gd Z0 (.s X1 W0))) rfl m1) ⟨by decide, ?_⟩)⟩
   rw[show e'=b+(e'-b) by exact l02 (Ge W0 (.a X1 (.s W0 X1))) rfl]at hQ
   exact hQ _ [.gone, .gone]
end
end
section
noncomputable def Bo(c:SC)(i:Nat)(s:Sc)(b:Int):Sc:=match i with
 |1=>{s with ech:=s.ech++yyT c s}
 |3=>{s with at_:=b+1}
 |4=>{s with cond:=1}
 |5=>{s with cond:=0}
 |_=>s
noncomputable def DM:Nat→Option Str
 |2=>some ⟨#[78]⟩
 |3=>some ⟨#[77]⟩
 |5=>some ⟨#[39,43,39]⟩
 |_=>none
noncomputable def Vl(o:Option Str)(tx:Str)(r:Tr):Prop:=match o with
 |none=>r= .none
 |some kd=>∃p,r=Js kd tx p
section
variable{k:Nat}{X:Prop}{c:SC}{s:Sc}{m b:Int}{i j:Nat}{u:Str}
theorem dJ(hn:0≤m)(hi:c.T.rules[m.toNat]? =some (m,i)):Co (AC (k+2) X) 850 [vi m] c s (.fl ((Ck i).map EP)) s:=by
 refine EI (f:=Uy) rfl rfl rfl fun K K0 e zz Q hQ zz=> ?_
 have h149:Ret K 149 [.t (AU c.T),vi m] _:=e▸fw hn hi
 exact Al h149 rfl (hQ _ [])
theorem dH:Co (AC (k+2) X) 857 [vi b] c s (.int (if b∈c.T.ends then 3 else-1)) s:=by
 refine EI (f:=Ux) rfl rfl rfl fun K K0 e zz Q hQ zz=> ?_
 have h156:Ret K 156 [.t (AU c.T),vi b] _:=e▸fu
 exact Al h156 rfl (hQ _ [])
theorem Ud(hu:Hy [GA,sA] u j):Co (AC (k+1) X) 814 [vs Dt,vs u,vi b] c s .none {s with cond:=j}:=
 EI (f:=Nh) rfl rfl rfl fun K K0 e zz Q zz hQ=>⟨_,j,rfl,hu,hQ rfl _ []⟩
theorem ZC(h1:s.began=b)(h2:b+1≤s.at_):Co (AC (k+1) X) 814 [vs NZ,vi 1,vi b] c s .none {s with at_:=b+1}:=by
 refine EI (f:=Nh) rfl rfl rfl fun K K0 e zz Q zz hQ=> ?_
 rw[show b+1=if(if s.began+1>b then s.began+1 else b)<s.at_ then(if s.began+1>b then s.began+1 else b)else s.at_ by rw[h1,if_pos (by exact(l01 (Gd W0 (.a W0 Z1)) rfl):b+1>b)];split<;>omega]at hQ
 exact hQ rfl _ []
theorem JL(hl:c.cs.length≤100):(yyT c s).length≤100:=by
 show(((txt c.cs).cps.toList.drop s.began.toNat).take (s.at_.toNat-s.began.toNat)).toArray.size≤100
 rw[List.size_toArray,List.length_take,List.length_drop]
 have:(txt c.cs).cps.toList.length=c.cs.length:=rfl
 exact(l40 (Hb W0 Yc (Hc X1 W0 (Hb X2 X3 (Hb X3 X1 (Gb X2 Yc))))) rfl hl this (Nat.min_le_right _ _) (Nat.sub_le _ _))
theorem ZD(hl:c.cs.length≤100)(h0:Ri c s)(he:s.ech.length≤1000000):Co (AC (k+2) X) 814 [vs Na, .t .none,vi b] c s .none {s with ech:=s.ech++yyT c s}:=by
 refine EI (f:=Nh) rfl rfl rfl fun K K0 e zz Q zz hQ=> ?_
 have h744:Co K 744 [] c s _ _:=e▸Xl hl h0
 exact Fy (R:=[]) h744 rfl ⟨by have:=JL (s:=s) hl;exact(l20 (Hb W0 (.n 1000000) (Hb X1 Yc (Gb (.a W0 X1) Yb))) rfl he this),hQ rfl _ []⟩
theorem bT(hl:c.cs.length≤100)(hn:0≤m)(hi:c.T.rules[m.toNat]? =some (m,i))(hi6:i<6)(h0:Ri c s)(he:s.ech.length≤1000000)(h3:i=3→s.began=b∧b+1≤s.at_):
 Cn (AC (k+4) X) 807 [vi m,vi b] c s fun x s'=>s'=Bo c i s b∧∃r,x= .tup [.bool false,r]∧Vl (DM i) (yyT c (Bo c i s b)) r:=by
 refine Du (f:=U1) rfl rfl rfl fun K K0 e zz Q hQ zz=> ?_
 have h850:Co K 850 [vi m] c s _ _:=e▸dJ hn hi
 have h751:∀(kd:Str) (s:Sc),Ri c s→Cn K 751 [vs kd] c s _:=fun kd s h0=>e▸dT hl h0
 replace hQ:=fun x r ρ' N h1 h2=>hQ x (Bo c i s b) ρ' N ⟨rfl,r,h1,h2⟩
 refine Fy (R:=[]) h850 rfl ?_
 have:i=0∨i=1∨i=2∨i=3∨i=4∨i=5:=by clear hQ h3;lia
 clear hi hi6 h850
 rcases this with rfl|rfl|rfl|rfl|rfl|rfl
 ·exact hQ _ _ _ [] rfl rfl
 ·have h814:Co K 814 [vs Na, .t .none,vi b] c s _ _:=e▸ZD hl h0 he
  exact Fy (R:=[]) h814 rfl (hQ _ _ _ [] rfl rfl)
 ·refine D1 (R:=[]) (h751 _ s h0) rfl ?_
  rintro _ _ ⟨rfl,p,rfl⟩
  exact hQ _ _ _ [] rfl ⟨p,rfl⟩
 ·have h4:=h3 rfl
  have h814:Co K 814 [vs NZ,vi 1,vi b] c s _ _:=e▸ZC h4.1 h4.2
  refine Fy (R:=[]) h814 rfl (D1 (R:=[]) (h751 _ {s with at_:=b+1} ⟨h0.1,by dsimp only;exact(l02 (He W0 X1 (Ga W0 (.a X1 Z1))) rfl h4.1),by have:=h0.2.2;dsimp only;exact(l12 (Ha (.a W0 Z1) X1 (Ha X1 (.c W0) (Ga (.a W0 Z1) (.c W0)))) rfl h4.2 this)⟩) rfl ?_)
  rintro _ _ ⟨rfl,p,rfl⟩
  exact hQ _ _ _ [] rfl ⟨p,rfl⟩
 ·have h814:Co K 814 [vs Dt,vs sA,vi b] c s _ _:=e▸Ud (j:=1) ⟨rfl,fun m hm=>by cases Nat.lt_one_iff.mp hm;decide⟩
  exact Fy (R:=[]) h814 rfl (hQ _ _ _ [] rfl rfl)
 ·have h814:Co K 814 [vs Dt,vs GA,vi b] c s _ _:=e▸Ud (j:=0) ⟨rfl,fun m hm=>absurd hm (Nat.not_lt_zero _)⟩
  refine Fy (R:=[]) h814 rfl (D1 (R:=[]) (h751 _ {s with cond:=0} h0) rfl ?_)
  rintro _ _ ⟨rfl,p,rfl⟩
  exact hQ _ _ _ [] rfl ⟨p,rfl⟩
end
end
section
noncomputable def Ae(T:BA)(m:Int):Nat:=((T.rules[m.toNat]?).map (·.2)).getD 0
structure ScR(c:SC):Prop where
 hr:∀m:Nat,m<c.T.rules.length→∃i,c.T.rules[m]? =some ((m:Int),i)∧i<6
 r3:3≤c.T.rules.length
 he:∀b∈c.T.ends,4≤c.T.rules.length∧Ae c.T 3≠3
theorem ScR.at{c:SC}(h:ScR c){m:Int}(h0:0≤m)(h1:m<c.T.rules.length):c.T.rules[m.toNat]? =some (m,Ae c.T m)∧Ae c.T m<6:=by
 obtain⟨i,e,hi⟩:=h.hr m.toNat (by exact l21 (Hh W0 (.c W0) (He (.c X1) W0 (Gc X1 W0))) rfl h1 (Int.toNat_of_nonneg h0))
 rw[show((m.toNat:Nat):Int)=m by exact(Int.toNat_of_nonneg h0)]at e
 unfold Ae
 rw[e]
 exact⟨rfl,hi⟩
noncomputable abbrev Tk:=Str×Str
noncomputable def D2(o:Option Str)(tx:Str):Option Tk:=o.map fun kd=>(kd,tx)
noncomputable def A7(c:SC)(s:Sc)(e m:Int):Sc:=Bo c (Ae c.T m) {s with cnt:=s.cnt+1,began:=s.at_,at_:=e} s.at_
noncomputable def CM(c:SC)(s:Sc):Option (Sc×Option Tk):=
 match DD (c.T.auts (2*s.cond+CO c.cs s.at_).toNat) c.ns s.at_ with
 |[]=>if c.T.dflt=true then some ({s with cnt:=s.cnt+1,began:=s.at_,at_:=s.at_+1,ech:=s.ech++CZ (txt c.cs) s.at_.toNat (s.at_+1).toNat,turns:=s.turns++[(-1,s.at_,s.at_+1)]},none)else none
 |(e,m)::_=>some ({A7 c s e m with turns:=s.turns++[(m,s.at_,(A7 c s e m).at_)]},D2 (DM (Ae c.T m)) (CZ (txt c.cs) s.at_.toNat (A7 c s e m).at_.toNat))
noncomputable def Ec(c:SC)(s:Sc):Sc:=Bo c (Ae c.T 3) {s with cnt:=s.cnt+1,began:=s.at_} s.at_
noncomputable def EC(c:SC)(s:Sc):Sc×Option Tk:=
 ({Ec c s with turns:=s.turns++[(3,s.at_,s.at_)],ended:=(Ec c s).cond==s.cond},D2 (DM (Ae c.T 3)) (CZ (txt c.cs) s.at_.toNat s.at_.toNat))
noncomputable def YQ(o:Option Tk)(r:Tr):Prop:=match o with
 |none=>r= .none
 |some (kd,tx)=>∃p,r=Js kd tx p
theorem Mu{o:Option Str}{tx:Str}{r:Tr}(h:Vl o tx r):YQ (D2 o tx) r:=by cases o<;>exact h
theorem Ff{A:Aut}(g:An A){ns:List Int}{b e m:Int}{r:List (Int×Int)}(h0:0≤b)(h1:b≤ns.length)(h:DD A ns b=(e,m)::r):b+1≤e∧e≤ns.length∧0≤m∧m<3∧r=[]:=by
 unfold DD at h
 have hm:=fun p hp=>HI (A:=A) (ns.drop b.toNat) b 0 p (List.mem_reverse.mp hp)
 generalize(EB A (ns.drop b.toNat) b 0).reverse=l at hm h
 cases l with
 |nil=>cases h
 |cons p l=>
  obtain⟨e',t⟩:=p
  obtain⟨m1,m2,m3,q2,m4⟩:=hm _ List.mem_cons_self
  rw[List.length_drop]at m2
  cases t with
  |nil=>cases h
  |cons x t=>
   cases h
   have m4:x::t=Bj A q2:=m4
   have hx:x<3:=JQ g (m4▸List.mem_cons_self)
   exact⟨m1,by dsimp only at m2;exact(Nat.le_total _ _).elim (fun x3'=>l32 (Ha W0 (.a X1 (.c W0)) (Hc (.a W0 X1) X2 (Hf (.c X1) X1 (Ga W0 (.c X2))))) rfl m2 (Nat.sub_add_cancel (x3')) (Int.toNat_of_nonneg h0)) (fun x3'=>l22 (Ha (.a W0 Z1) X1 (Ha X1 (.a W0 (.c W0)) (Hc W0 Y0 (.G .ile 0 X1 (.c X1))))) rfl m1 m2 (Nat.sub_eq_zero_of_le x3')),Int.natCast_nonneg _,Int.ofNat_lt.mpr hx,rfl⟩
structure XO(c:SC)(i:Nat)(s:Sc)(b:Int)(s':Sc):Prop where
 at_:s'.at_=s.at_∨(i=3∧s'.at_=b+1)
 tu:s'.turns=s.turns
 cn:s'.cnt=s.cnt
 be:s'.began=s.began
 en:s'.ended=s.ended
 co:0≤s.cond∧s.cond<2→0≤s'.cond∧s'.cond<2
 ec:s'.ech.length≤s.ech.length+100
theorem E2{c:SC}(hl:c.cs.length≤100){i:Nat}{s:Sc}{b:Int}:XO c i s b (Bo c i s b):=by
 unfold Bo
 split
 ·exact⟨.inl rfl,rfl,rfl,rfl,rfl,id,by rw[BC];exact Nat.add_le_add_left (JL hl) _⟩
 ·exact⟨.inr ⟨rfl,rfl⟩,rfl,rfl,rfl,rfl,id,Nat.le_add_right _ _⟩
 ·exact⟨.inl rfl,rfl,rfl,rfl,rfl,fun zz=>(by decide:(0:Int)≤1∧(1:Int)<2),Nat.le_add_right _ _⟩
 ·exact⟨.inl rfl,rfl,rfl,rfl,rfl,fun zz=>(by decide:(0:Int)≤0∧(0:Int)<2),Nat.le_add_right _ _⟩
 ·exact⟨.inl rfl,rfl,rfl,rfl,rfl,id,Nat.le_add_right _ _⟩
structure Inv(c:SC)(f:Nat)(s:Sc):Prop where
 a0:0≤s.at_
 a1:s.at_≤c.cs.length
 c0:0≤s.cond∧s.cond<2
 n0:0≤s.cnt
 n1:s.cnt+f≤1000
 el:(s.ech.length:Int)≤100*s.cnt
 tl:(s.turns.length:Int)≤s.cnt
section
variable{k f:Nat}{X:Prop}{c:SC}{s:Sc}
theorem FQ(s:Sc)(l:List (Int×Int×Int))(a b d:Int):scL c {s with turns:=l++[(a,b,d)]}=[.inst 860, .flds (scF c s), .list [], .list (l.map Qs++[.tup [.int a, .int b, .int d]])]:=by
 unfold scL;rw[List.map_append];rfl
theorem dL(o:ScO c)(hr:ScR c)(v:Inv c (f+1) s)(hb:s.cond∈c.T.ends)(hat:s.at_=c.cs.length):
 Cn (AC (k+5) X) 800 [vi 3] c s fun x s'=>s'=(EC c s).1∧YQ (EC c s).2 x∧Inv c f s':=by
 refine Du (f:=U3) rfl rfl rfl fun K K0 e zz Q hQ zz=> ?_
 have hcs:=o.cl
 obtain⟨h4,h3⟩:=hr.he _ hb
 obtain⟨r1,r2⟩:=hr.at (m:=3) (by decide) (by exact l10 (Hb Y4 W0 (Gd W3 (.c W0))) rfl h4)
 have v1:=v.a0;have v4:=v.n0;have v5:=v.n1;have v6:=v.el;have v7:=v.tl
 have h786:Co K 786 [] c s _ _:=e▸bU (by exact l11 (.P 0 1 (Ha (.a W0 (.c (.a W0 Y1))) (.z 1000) (Gd W0 (.z 2000)))) rfl v5)
 have h807:Cn K 807 [vi 3,vi s.at_] c {s with cnt:=s.cnt+1,began:=s.at_} _:=e▸bT (s:={s with cnt:=s.cnt+1,began:=s.at_}) hcs (by decide) r1 r2 ⟨v1,Int.le_refl _,v.a1⟩ (by show s.ech.length≤1000000;exact(l21 (.P 0 100 (.H .ile 100 (.a W0 (.c (.a W0 Y1))) (.z 1000) (Ha (.c X1) (.p 100 W0) (Gb X1 (.n 1000000))))) rfl v5 v6)) fun e=>absurd e h3
 have p:=E2 hcs (i:=Ae c.T 3) (s:={s with cnt:=s.cnt+1,began:=s.at_}) (b:=s.at_)
 unfold EC at hQ
 refine Fy (R:=[]) h786 rfl (D1 (R:=[]) h807 rfl ?_)
 rintro _ s2 ⟨rfl,r,rfl,hr⟩
 have ep:Bo c (Ae c.T 3) {s with cnt:=s.cnt+1,began:=s.at_} s.at_=Ec c s:=rfl
 rw[ep]at p hr⊢
 have ea:(Ec c s).at_=s.at_:=p.at_.elim id fun h=>absurd h.1 h3
 have et:=p.tu
 have eb:(Ec c s).began=s.at_:=p.be
 have hr:=Mu hr
 unfold yyT at hr
 rw[ea,eb]at hr
 have pe:=p.ec
 have pn:=p.cn
 dsimp only at pe pn et
 refine⟨by rw[List.length_map,et];exact(l21 (.P 0 1 (Ha (.a W0 (.c (.a W0 Y1))) (.z 1000) (Ha (.c X1) W0 (Gb (.a X1 Y1) Yb)))) rfl v5 v7), ?_⟩
 have v2:=v.a1
 have fin:=hQ r {Ec c s with turns:=(Ec c s).turns++[(3,(Ec c s).at_,(Ec c s).at_)],ended:=(Ec c s).cond==s.cond} [(AA, .ref 0),(AB,vi 3),(Az,vi s.cond),(Bh,vb false),(CD, .t r)] []
  ⟨by rw[et,ea],hr,⟨by dsimp only;exact(l12 (.P 0 1 (Hf W0 (.c W0) (Hf X1 W0 (Ga Z0 X1)))) rfl hat ea),by dsimp only;exact(l12 (He W0 (.c W0) (He X1 W0 (Ga X1 (.c W0)))) rfl hat ea),p.co v.c0,by dsimp only;exact(l02 (Ha Z0 W0 (Hf X1 (.a W0 Z1) (Ga Z0 X1))) rfl v4 pn),by dsimp only;exact(l12 (Ha (.a W0 (.c (.a W0 Y1))) (.z 1000) (He X1 (.a W0 Z1) (Ga (.a X1 (.c W0)) (.z 1000)))) rfl v5 pn),by dsimp only;exact(l22 (Ha (.c W0) (.p 100 W0) (Hb X1 (.a W0 Yc) (.H .ieq (-100) X1 (.a W0 Z1) (Ga (.c X1) (.p 100 X1))))) rfl v6 pe pn),by show(((Ec c s).turns++[_]).length:Int)≤(Ec c s).cnt;rw[List.length_append,List.length_singleton,et];exact(l12 (Ha (.c W0) W0 (Hf X1 (.a W0 Z1) (Ga (.c (.a W0 Y1)) X1))) rfl v7 pn)⟩⟩
 rw[FQ {Ec c s with ended:=(Ec c s).cond==s.cond}]at fin
 exact fin
theorem dM(o:ScO c)(hr:ScR c)(v:Inv c (f+1) s)(hat:s.at_<c.cs.length)(hX:CM c s=none→X):
 Cn (AC (k+5) X) 793 [] c s fun x s'=>∃tk,CM c s=some (s',tk)∧YQ tk x∧Inv c f s':=by
 refine Du (f:=U4) rfl rfl rfl fun K K0 e zz Q hQ zz=> ?_
 have hcs:=o.cl
 have hnl:=o.nl
 have v1:=v.a0;have v4:=v.n0;have v5:=v.n1;have v6:=v.el;have v7:=v.tl
 have h786:Co K 786 [] c s _ _:=e▸bU (by exact l11 (.P 0 1 (Ha (.a W0 (.c (.a W0 Y1))) (.z 1000) (Gd W0 (.z 2000)))) rfl v5)
 have h843:Co K 843 [vi s.at_] c {s with cnt:=s.cnt+1,began:=s.at_} _ _:=e▸dK (s:={s with cnt:=s.cnt+1,began:=s.at_}) o ⟨v1,v.a1⟩ v.c0
 refine Fy (R:=[]) h786 rfl (Fy (R:=[]) h843 rfl ?_)
 have g:=o.hg (2*s.cond+CO c.cs s.at_).toNat
 unfold CM at hX hQ
 show IG _ _ _ _ ((DD (c.T.auts (2*s.cond+CO c.cs s.at_).toNat) c.ns s.at_).map UV) _ _
 generalize c.T.auts (2*s.cond+CO c.cs s.at_).toNat=A at hX hQ g
 have hm:=fun e m r=>Ff g (ns:=c.ns) (b:=s.at_) (e:=e) (m:=m) (r:=r) v1 (by exact l21 (Hh W0 (.c W0) (Hd X1 W0 (Ga W0 (.c X1)))) rfl hat hnl)
 generalize DD A c.ns s.at_=l at hX hQ hm
 cases l with
 |nil=>
  dsimp only at hX hQ
  refine Cf (fun hd=> ?_) fun hd=> ?_
  ·rw[hd,if_neg Bool.false_ne_true]at hX
   have h765:Cn K 765 [] c {s with cnt:=s.cnt+1,began:=s.at_} _:=e▸dR hcs
   refine D1 (R:=[]) h765 rfl fun x s' zz=>⟨hX rfl, ?_⟩
   exact Nat.le_add_left 1 (k+3)
  ·rw[hd,if_pos rfl]at hQ
   have h744:Co K 744 [] c {s with cnt:=s.cnt+1,began:=s.at_,at_:=s.at_+1} _ _:=e▸Xl hcs ⟨v1,by dsimp only;exact(l01 (Ga W0 (.a W0 Z1)) rfl),by dsimp only;assumption⟩
   have hy:=JL (s:={s with cnt:=s.cnt+1,began:=s.at_,at_:=s.at_+1}) hcs
   refine Fy (R:=[]) h744 rfl ⟨by show s.ech.length+_≤_;exact(l31 (.P 0 100 (.H .ile 100 (.a W0 (.c (.a W0 Y1))) (.z 1000) (Ha (.c X1) (.p 100 W0) (Hb X2 Yc (Gb (.a X1 X2) Yb))))) rfl v5 v6 hy),by rw[List.length_map];show s.turns.length+1≤_;exact(l21 (.P 0 1 (Ha (.a W0 (.c (.a W0 Y1))) (.z 1000) (Ha (.c X1) W0 (Gb (.a X1 Y1) Yb)))) rfl v5 v7), ?_⟩
   have fin:=hQ .none {s with cnt:=s.cnt+1,began:=s.at_,at_:=s.at_+1,ech:=s.ech++CZ (txt c.cs) s.at_.toNat (s.at_+1).toNat,turns:=s.turns++[(-1,s.at_,s.at_+1)]} [(AA, .ref 0),(BD,vi s.at_)] []
    ⟨none,rfl,rfl,⟨by dsimp only;exact(l01 (Ha Z0 W0 (Ga Z0 (.a W0 Z1))) rfl v1),by dsimp only;assumption,v.c0,by dsimp only;exact(l01 (Ha Z0 W0 (Ga Z0 (.a W0 Z1))) rfl v4),by dsimp only;exact(l11 (Ha (.a W0 (.c (.a W0 Y1))) (.z 1000) (Ga (.a (.a W0 Z1) (.c W0)) (.z 1000))) rfl v5),by
     show((s.ech++yyT c {s with cnt:=s.cnt+1,began:=s.at_,at_:=s.at_+1}).length:Int)≤100*(s.cnt+1)
     rw[BC];exact(l21 (Ha (.c W0) (.p 100 W0) (Hb X1 Yc (Ga (.c (.a W0 X1)) (.p 100 (.a W0 Z1))))) rfl v6 hy),by show((s.turns++[_]).length:Int)≤s.cnt+1;rw[List.length_append,List.length_singleton];exact(l11 (Ha (.c W0) W0 (Ga (.c (.a W0 Y1)) (.a W0 Z1))) rfl v7)⟩⟩
   rw[FQ {s with cnt:=s.cnt+1,began:=s.at_,at_:=s.at_+1,ech:=s.ech++CZ (txt c.cs) s.at_.toNat (s.at_+1).toNat}]at fin
   exact fin
 |cons p l=>
  obtain⟨e',m⟩:=p
  obtain⟨m1,m2,m3,m4,rfl⟩:=hm e' m l rfl
  dsimp only at hQ
  obtain⟨r1,r2⟩:=hr.at (m:=m) m3 (by have:=hr.r3;exact(l11 (Hh W0 W3 (Hb Y3 W0 (Gd W0 (.c W0)))) rfl m4 this))
  have h807:Cn K 807 [vi m,vi s.at_] c {s with cnt:=s.cnt+1,began:=s.at_,at_:=e'} _:=e▸bT (s:={s with cnt:=s.cnt+1,began:=s.at_,at_:=e'}) hcs m3 r1 r2 ⟨v1,by dsimp only;exact(l02 (Ha (.a W0 Z1) X1 (Ga W0 X1)) rfl m1),by dsimp only;exact(l21 (Hc W0 X1 (Ha W0 (.c W0) (Ga W0 (.c X1)))) rfl hnl m2)⟩ (by show s.ech.length≤1000000;exact(l21 (.P 0 100 (.H .ile 100 (.a W0 (.c (.a W0 Y1))) (.z 1000) (Ha (.c X1) (.p 100 W0) (Gb X1 (.n 1000000))))) rfl v5 v6)) fun zz=>⟨rfl,m1⟩
  have p:=E2 hcs (i:=Ae c.T m) (s:={s with cnt:=s.cnt+1,began:=s.at_,at_:=e'}) (b:=s.at_)
  refine D1 (R:=[]) h807 rfl ?_
  rintro _ _ ⟨rfl,r,rfl,hr⟩
  have ep:Bo c (Ae c.T m) {s with cnt:=s.cnt+1,began:=s.at_,at_:=e'} s.at_=A7 c s e' m:=rfl
  rw[ep]at p hr⊢
  have eb:(A7 c s e' m).began=s.at_:=p.be
  have et:(A7 c s e' m).turns=s.turns:=p.tu
  have ea:=p.at_
  have pe:=p.ec
  have pn:=p.cn
  dsimp only at pe pn ea
  have hr:=Mu hr
  unfold yyT at hr
  rw[eb]at hr
  refine⟨by rw[List.length_map,et];exact(l21 (.P 0 1 (Ha (.a W0 (.c (.a W0 Y1))) (.z 1000) (Ha (.c X1) W0 (Gb (.a X1 Y1) Yb)))) rfl v5 v7), ?_⟩
  have fin:=hQ r {A7 c s e' m with turns:=(A7 c s e' m).turns++[(m,s.at_,(A7 c s e' m).at_)]} [(AA, .ref 0),(BD,vi s.at_),(Jr,vi e'),(AB,vi m),(Bh,vb false),(CD, .t r)] []
   ⟨_,by rw[et],hr,⟨by dsimp only;exact(ea.elim (fun x3'=>l03 (Ha Z0 W0 (Ha (.a W0 Z1) X1 (Hf X2 X1 (Ga Z0 X2)))) rfl v1 m1 x3') (fun x3'=>l02 (Ha Z0 W0 (Hf X1 (.a W0 Z1) (Ga Z0 X1))) rfl v1 x3'.2)),by dsimp only;exact(ea.elim (fun x3'=>l22 (Hc W0 X1 (Ha W0 (.c W0) (He X1 W0 (Ga X1 (.c X1))))) rfl hnl m2 x3') (fun x3'=>l12 (Hh W0 (.c W0) (He X1 (.a W0 Z1) (Ga X1 (.c W0)))) rfl hat x3'.2)),p.co v.c0,by dsimp only;exact(l02 (Ha Z0 W0 (Hf X1 (.a W0 Z1) (Ga Z0 X1))) rfl v4 pn),by dsimp only;exact(l12 (Ha (.a W0 (.c (.a W0 Y1))) (.z 1000) (He X1 (.a W0 Z1) (Ga (.a X1 (.c W0)) (.z 1000)))) rfl v5 pn),by dsimp only;exact(l22 (Ha (.c W0) (.p 100 W0) (Hb X1 (.a W0 Yc) (.H .ieq (-100) X1 (.a W0 Z1) (Ga (.c X1) (.p 100 X1))))) rfl v6 pe pn),by show(((A7 c s e' m).turns++[_]).length:Int)≤(A7 c s e' m).cnt;rw[List.length_append,List.length_singleton,et];exact(l12 (Ha (.c W0) W0 (Hf X1 (.a W0 Z1) (Ga (.c (.a W0 Y1)) X1))) rfl v7 pn)⟩⟩
  rw[FQ (A7 c s e' m)]at fin
  exact fin
end
end
section
noncomputable def GK(c:SC)(R:Prop)(P:Sc→List Tk→Prop):Nat→Sc→List Tk→Prop
 |0,_,_=>False
 |f+1,s,acc=>if s.at_<c.cs.length then(match CM c s with
  |none=>R
  |some (s',none)=>GK c R P f s' acc
  |some (s',some tk)=>GK c R P f s' (acc++[tk]))
  else if s.ended=true∨s.cond∉c.T.ends then P s (acc++[(Dl,sNo)])
  else(match EC c s with
   |(s',none)=>GK c R P f s' acc
   |(s',some tk)=>GK c R P f s' (acc++[tk]))
theorem TP{i:Nat}{kd:Str}(h:DM i=some kd):C5 kd Dl=false:=by
 unfold DM at h
 split at h<;>cases h<;>rfl
theorem KY{i:Nat}{tx kd u:Str}(h:D2 (DM i) tx=some (kd,u)):C5 kd Dl=false:=by
 obtain⟨kd',e1,e2⟩:=Option.map_eq_some_iff.mp h
 cases e2
 exact TP e1
section
variable{k f:Nat}{X:Prop}{c:SC}{s s':Sc}{R:Prop}{P:Sc→List Tk→Prop}{acc:List Tk}{kd tx:Str}
theorem LT(h:CM c s=some (s',some (kd,tx))):C5 kd Dl=false:=by
 unfold CM at h
 split at h
 ·split at h<;>cases h
 ·exact KY (Prod.mk.inj (Option.some.inj h)).2
theorem OX(h:(EC c s).2=some (kd,tx)):C5 kd Dl=false:=KY h
noncomputable def RU(c:SC)(R:Prop)(P:Sc→List Tk→Prop)(f:Nat)(acc:List Tk)(x:Tr)(s':Sc):Prop:=
 (∃p,x=Js Dl sNo p∧P s' (acc++[(Dl,sNo)]))∨∃kd tx p f',x=Js kd tx p∧f'<f∧C5 kd Dl=false∧Inv c f' s'∧GK c R P f' s' (acc++[(kd,tx)])
theorem dQ(o:ScO c)(hr:ScR c)(v:Inv c f s)(hR:R→X)(h:GK c R P f s acc):Cn (AC (k+6) X) 772 [] c s (RU c R P f acc):=by
 refine Du (f:=U7) rfl rfl rfl fun K K0 e zz Q hQ zz=> ?_
 have hcs:=o.cl
 have hl1:(txt c.cs).length≤1048576:=Nat.le_trans hcs (by decide)
 have h354:GN K 354 [.t (.str (txt c.cs))] _:=e▸fU hcs
 refine EO (fun zz=>[(AA, .ref 0)]) (scL c) (fun j s=>Inv c j s∧GK c R P j s acc∧j≤f) f s ⟨v,h,Nat.le_refl _⟩ fun j s ⟨v,h,hj⟩ Z hZ _ hret=> ?_
 cases j with
 |zero=>exact h.elim
 |succ j=>
  replace h:ite (s.at_<c.cs.length) _ _:=h
  refine⟨hl1,Br (fun hat=> ?_) fun hat=> ?_⟩
  ·have hat:s.at_<c.cs.length:=hat
   rw[if_pos hat]at h
   have h793:Cn K 793 [] c s _:=e▸dM (f:=j) o hr v hat fun e=>hR (by rw[e]at h;exact h)
   refine D1 (R:=[]) h793 rfl ?_
   rintro x s' ⟨tk,et,hr2,v'⟩
   rw[et]at h
   cases tk with
   |none=>cases hr2;exact(hZ j s' (Nat.lt_succ_self j) ⟨v',h,by lia⟩ _ _ rfl rfl).1
   |some tk=>
    obtain⟨kd,tx⟩:=tk
    obtain⟨p,rfl⟩:=hr2
    exact hret _ _ _ (hQ _ s' _ [] (.inr ⟨kd,tx,p,j,rfl,by assumption,LT et,v',h⟩))
  ·have hat:¬s.at_<c.cs.length:=hat
   rw[if_neg hat]at h
   have h857:Co K 857 [vi s.cond] c s _ _:=e▸dH
   have stop:P s (acc++[(Dl,sNo)])→∀ρ' x,(∃p,x=Js Dl sNo p)→Z (.ret (.t x)) ρ' (scL c s):=fun h ρ' x ⟨p,e⟩=>hret _ _ _ (hQ _ s _ [] (.inl ⟨p,e,h⟩))
   refine Fy (R:=[]) h857 rfl ?_
   cases he:s.ended with
   |true=>
    rw[if_pos (.inl he)]at h
    refine Ur (b:=s.ended) he (F8 h354 rfl fun x hx=>stop h _ x hx)
   |false=>
    refine RB (b:=s.ended) he ?_
    by_cases hb:s.cond∈c.T.ends
    ·rw[if_neg fun h2=>h2.elim (fun h2=>by rw[he]at h2;cases h2) fun h2=>h2 hb]at h
     have h800:Cn K 800 [vi 3] c s _:=e▸dL (f:=j) o hr v hb (by have:=v.a1;exact(Int.le_antisymm this (l11 (.H .inlt 1 W0 (.c W0) (Ga (.c W0) W0)) rfl hat)))
     rw[if_pos hb]
     refine D1 (R:=[]) h800 rfl ?_
     rintro x s' ⟨e1,hr2,v'⟩
     generalize e2:EC c s=q at h hr2 e1
     obtain⟨s2,tk⟩:=q
     cases e1
     cases tk with
     |none=>cases hr2;exact(hZ j s2 (Nat.lt_succ_self j) ⟨v',h,by omega⟩ _ _ rfl rfl).1
     |some tk=>
      obtain⟨kd,tx⟩:=tk
      obtain⟨p,rfl⟩:=hr2
      exact hret _ _ _ (hQ _ s2 _ [] (.inr ⟨kd,tx,p,j,rfl,by assumption,OX (by rw[e2]),v',h⟩))
    ·rw[if_pos (.inr hb)]at h
     rw[if_neg hb]
     exact F8 h354 rfl fun x hx=>stop h _ x hx
noncomputable abbrev TkV:=Str×Str×Tr
noncomputable def Oi(p:TkV):Tk:=(p.1,p.2.1)
noncomputable def EA(p:TkV):Tr:=Js p.1 p.2.1 p.2.2
theorem Ps{ts:List TkV}{t:TkV}:CW ((ts++[t]).map EA) (-1)=some (EA t):=by
 have hl:((ts++[t]).map EA).length=ts.length+1:=by rw[List.length_map,List.length_append,List.length_singleton]
 unfold CW
 rw[if_neg (by decide),if_pos (by exact l20 (.P 1 1 (Hd W0 (.a X1 Y1) (Ga Z0 (.a Zm (.c W0))))) rfl hl),show(-1+(((ts++[t]).map EA).length:Int)).toNat=ts.length by exact l30 (Hc W0 (.a X1 Y1) (He (.c X2) (.a Zm (.c W0)) (Gf X2 X1))) rfl hl (Int.toNat_of_nonneg (l20 (.P 1 1 (Hd W0 (.a X1 Y1) (Ga Z0 (.a Zm (.c W0))))) rfl hl)),List.getElem?_map,List.getElem?_concat_length]
 rfl
noncomputable def tkL(c:SC)(q:Sc×List TkV×TkV):LH:=scL c q.1++[.list ((q.2.1++[q.2.2]).map EA)]
theorem R0{t:TkV}{ts:List TkV}{x:TkV}:scL c s++[.list ((ts++[t]).map EA++[EA x])]=tkL c (s,ts++[t],x):=by
 unfold tkL;rw[List.map_append (l₁:=ts++[t])];rfl
noncomputable def TkI(c:SC)(R:Prop)(P:Sc→List Tk→Prop)(m:Nat)(q:Sc×List TkV×TkV):Prop:=
 q.2.1.length+m≤1001∧((m=0∧q.2.2.1=Dl∧P q.1 ((q.2.1++[q.2.2]).map Oi))∨∃i,m=i+1∧C5 q.2.2.1 Dl=false∧Inv c i q.1∧GK c R P i q.1 ((q.2.1++[q.2.2]).map Oi))
theorem KZ{m:Nat}{ts:List TkV}{x:Tr}(hm:ts.length+m≤1001)(h:RU c R P m (ts.map Oi) x s):∃t m',x=EA t∧m'≤m∧TkI c R P m' (s,ts,t):=by
 rcases h with⟨p,rfl,h⟩|⟨kd,tx,p,f',rfl,h1,h2,h3,h4⟩
 ·exact⟨(Dl,sNo,p),0,rfl,Nat.zero_le _,by dsimp only;exact(l20 (.P 1 1 (Hb (.a W0 X1) (.n 1001) (Gb (.a W0 Y0) (.n 1001)))) rfl hm), .inl ⟨rfl,rfl,by dsimp only;rw[List.map_append];exact h⟩⟩
 ·exact⟨(kd,tx,p),f'+1,rfl,h1,by dsimp only;exact(l30 (Hb (.a W0 X1) (.n 1001) (Hg X2 X1 (Gb (.a W0 (.a X2 Y1)) (.n 1001)))) rfl hm h1), .inr ⟨f',rfl,h2,h3,by dsimp only;rw[List.map_append];exact h4⟩⟩
theorem dP(o:ScO c)(hr:ScR c)(v:Inv c f s)(hR:R→X)(h:GK c R P f s []):Cn (AC (k+7) X) 779 [] c s fun x s'=>∃ts:List TkV,x= .fl (ts.map EA)∧P s' (ts.map Oi):=by
 refine Du (f:=U6) rfl rfl rfl fun K K0 e zz Q hQ zz=> ?_
 have h772:∀(s:Sc) (i:Nat) (acc:List Tk),Inv c i s→GK c R P i s acc→Cn K 772 [] c s (RU c R P i acc):=fun s i acc v h=>e▸dQ o hr v hR h
 have h340:∀t:TkV,Ret K 340 [.t (EA t)] _:=fun t=>e▸fV
 refine D1 (R:=[]) (h772 s f [] v h) rfl ?_
 intro x s1 hx
 obtain⟨t,m,rfl,_,ht⟩:=KZ (ts:=[]) (by have:=v.n1;have:=v.n0;rw[List.length_nil];exact(l11 (Ha (.a W0 (.c W0)) (.z 1000) (Ha Z0 W0 (Gb (.a Y0 W0) (.n 1001)))) rfl (by assumption) this)) hx
 refine EO (fun zz=>[(AA, .ref 0),(AP, .ref 4)]) (tkL c) (TkI c R P) m (s1,[],t) ht fun m q hq Z hZ zz zz=> ?_
 obtain⟨s,ts,t⟩:=q
 refine AD Ps (Al (h340 t) rfl (Cf (fun hk=> ?_) fun hk=> ?_))
 ·obtain⟨hl,⟨_,h2,_⟩|⟨i,rfl,_,h3,h4⟩⟩:=hq
  ·dsimp only at h2;rw[h2]at hk;cases hk
  ·have hl:ts.length+(i+1)≤1001:=hl
   dsimp only at h3 h4
   refine D1 (R:=[.list ((ts++[t]).map EA)]) (h772 s i _ h3 h4) rfl fun x s2 hx=> ?_
   obtain⟨t2,m',rfl,hm,ht⟩:=KZ (ts:=ts++[t]) (by rw[List.length_append,List.length_singleton];exact(l20 (Hb (.a W0 (.a X1 Y1)) (.n 1001) (Gb (.a (.a W0 Y1) X1) (.n 1001))) rfl hl)) hx
   refine⟨by rw[List.length_map,List.length_append,List.length_singleton];exact(l20 (.P 1 1 (Hb (.a W0 (.a X1 Y1)) (.n 1001) (Gb (.a (.a W0 Y1) Y1) Yb))) rfl (by assumption)),(hZ m' _ (Nat.lt_succ_of_le hm) ht _ _ rfl ?_).1⟩
   exact R0
 ·obtain⟨hl,⟨_,h2,h3⟩|⟨i,rfl,h2,_⟩⟩:=hq
  ·exact hQ _ s _ [.gone] ⟨_,rfl,h3⟩
  ·rw[hk]at h2;cases h2
end
end
section
noncomputable def vCS(d:Int):Tr:= .fi 520 [Bd] [.tup [.tup [.int d, .int d]]]
theorem W1{n:Nat}{ρ0 ρ:Rho}{step:V→QS→Rho→LH→Prop}{Q:QS}{ts ts':List Tr}{L:LH}(e:ts=ts')(h:IG ρ0 n step Q ts' ρ L):IG ρ0 n step Q ts ρ L:=e▸h
section
variable{k:Nat}{X:Prop}{d c:Int}
theorem fS(hd:d=97∨d=98):Ret (AC (k+2) X) 423 [.t (.fl [.tup [.int d, .int d]])] (vCS d):=by
 refine Af (f:=VF) rfl rfl rfl fun K K0 e zz Q hQ=> ?_
 have h520:Ret K 520 [.t (.tup [.tup [.int d, .int d]])] _:=e▸fR
 rcases hd with rfl|rfl<;>exact⟨by decide,by decide,Al h520 rfl (hQ _ _)⟩
theorem fT{n:Nat}(hd:n=97∨n=98):Ret (AC (k+3) X) 403 [.t (.str ⟨#[n]⟩)] (vCS n):=by
 refine Af (f:=VG) rfl rfl rfl fun K K0 e zz Q hQ=> ?_
 have h423:Ret K 423 [.t (.fl [.tup [.int n, .int n]])] _:=e▸fS (by rcases hd with rfl|rfl;exact .inl rfl;exact .inr rfl)
 exact⟨Nat.le_add_left 1 1048575,rfl,rfl,Al h423 rfl (hQ _ _)⟩
theorem WL:JF [0,97,98,99]=[0,97,98,99]:=List.mergeSort_of_pairwise (by decide)
theorem dA:Hp 0 2 1=some [.int 0, .int 1]:=by kernel_rfl
set_option maxHeartbeats 4000000 in
theorem fN:Ret (AC (k+1) X) 596 [.t (.fl [vCS 97,vCS 98])] vCls:=by
 constructor
 intro Q hQ
 refine⟨_,dA, ?_⟩
 refine⟨by decide,by decide,by decide,by decide, ?_⟩
 refine⟨by decide,by decide,by decide,by decide, ?_⟩
 refine⟨by decide,by decide,by decide,by decide, ?_⟩
 refine⟨by decide,by decide,by decide,by decide, ?_⟩
 refine⟨by decide,W1 (congrArg (List.map Tr.int) WL) ?_⟩
 refine⟨by decide,by decide,by decide, ?_⟩
 refine⟨by decide,by decide,by decide, ?_⟩
 refine⟨by decide,by decide,by decide, ?_⟩
 refine⟨by decide,by decide, ?_⟩
 exact hQ
noncomputable def DN(c:Int):Int:=if c=97 then 1 else if c=98 then 2 else 0
theorem Ph{c:Int}:0≤DN c∧DN c<3:=by unfold DN;split<;>first|decide|(split<;>decide)
theorem bu{l:Int}(h:0≤l∧l<4):CW [.int 0, .int 97, .int 98, .int 99] l=some (.int (if l=0 then 0 else l+96))∧CW [.int 0, .int 1, .int 2, .int 0] l=some (.int (if l=3 then 0 else l)):=by
 have:l=0∨l=1∨l=2∨l=3:=by lia
 rcases this with rfl|rfl|rfl|rfl<;>exact⟨rfl,rfl⟩
theorem Wf{l r c:Int}(h1:0≤l)(h2:l<r)(h3:r≤4)(h4:(if l=0 then 0 else l+96)≤c)(h5:r<4→c<r+96)(h7:¬(1<r-l)):(if l=3 then 0 else l)=DN c:=by
 have e:r=l+1:=Int.le_antisymm (Int.not_lt.mp fun h=>h7 (by lia)) h2
 have:l=0∨l=1∨l=2∨l=3:=by lia
 subst e
 rcases this with rfl|rfl|rfl|rfl
 ·have h:c<97:=h5 (by decide)
  unfold DN
  rw[if_neg (Int.ne_of_lt h),if_neg (Int.ne_of_lt (Int.lt_trans h (by decide)))];rfl
 ·rw[←Int.le_antisymm (show(97:Int)≤c from h4) (Int.le_of_lt_add_one (h5 (by decide)))];rfl
 ·rw[←Int.le_antisymm (show(98:Int)≤c from h4) (Int.le_of_lt_add_one (h5 (by decide)))];rfl
 ·unfold DN
  rw[if_neg (Int.ne_of_gt (Int.lt_of_lt_of_le (by decide) (show(99:Int)≤c from h4))),if_neg (Int.ne_of_gt (Int.lt_of_lt_of_le (by decide) (show(99:Int)≤c from h4)))];rfl
theorem fQ(hc:0≤c∧c≤127):Ret (AC (k+1) X) 555 [.t vCls,vi c] (.int (DN c)):=by
 refine Af (f:=VE) rfl rfl rfl fun K K0 e zz Q hQ=> ?_
 refine LK (by exact l01 (Ha Z0 W0 (.G .inlt 1 W0 Z0)) rfl hc.1) (LK (by exact l01 (Ha W0 (.z 127) (.G .inlt 1 (.z 127) W0)) rfl hc.2) ?_)
 refine EO (σ:=Int×Int) (fun s=>[(AA, .t vCls),(F6,vi c),(JA,vi s.1),(HZ,vi s.2)]) (fun zz=>[]) (fun m s=>0≤s.1∧s.1<s.2∧s.2≤4∧(if s.1=0 then 0 else s.1+96)≤c∧(s.2<4→c<s.2+96)∧(m:Int)=s.2-s.1) 4 (0,4) ⟨by decide,by decide,by decide,hc.1,fun h=>absurd h (by decide),rfl⟩ ?_
 rintro m ⟨l,r⟩ ⟨h1,h2,h3,h4,h5,h6⟩ Z hZ _ _
 dsimp only at h1 h2 h3 h4 h5 h6
 refine Br (fun h7=> ?_) fun h7=> ?_
 ·refine⟨by decide,by decide, ?_⟩
  have hm:l+1≤(l+r).fdiv 2∧(l+r).fdiv 2+1≤r:=by
   rw[Int.fdiv_eq_ediv_of_nonneg _ (by decide)];lia
  refine AD (bu (l:=(l+r).fdiv 2) (by exact(⟨l02 (Ha Z0 W0 (Ha (.a W0 Z1) X1 (Ga Z0 X1))) rfl h1 hm.1,l02 (Ha W0 (.z 4) (Ha (.a X1 Z1) W0 (Gd X1 (.z 4)))) rfl h3 hm.2⟩))).1 ?_
  generalize(l+r).fdiv 2=md at hm⊢
  have e:(if md=0 then 0 else md+96)=md+96:=if_neg (by exact(fun h9=>l02 (Ha Z0 W0 (Ha (.a W0 Z1) X1 (He X1 Z0 .f))) rfl h1 hm.1 h9))
  refine Br (fun h8=> ?_) fun h8=> ?_
  ·exact(hZ (r-md).toNat (md,r) (by exact l23 (Hf (.c W0) (.s W0 X1) (Ha (.a X1 Z1) X2 (He (.c X1) (.s W0 X2) (Gc X1 W0)))) rfl h6 hm.1 (Int.toNat_of_nonneg (l02 (Ha (.a W0 Z1) X1 (Ga Z0 (.s X1 W0))) rfl hm.2))) ⟨by dsimp only;exact(l02 (Ha Z0 W0 (Ha (.a W0 Z1) X1 (Ga Z0 X1))) rfl h1 hm.1),by dsimp only;exact(l02 (Ha (.a W0 Z1) X1 (Gd W0 X1)) rfl hm.2),h3,h8,h5,by dsimp only;exact(Int.toNat_of_nonneg (l02 (Ha (.a W0 Z1) X1 (Ga Z0 (.s X1 W0))) rfl hm.2))⟩ _ _ rfl rfl).1
  ·exact(hZ (md-l).toNat (l,md) (by exact l23 (Hf (.c W0) (.s W0 X1) (Ha (.a X2 Z1) W0 (He (.c X1) (.s X2 X1) (Gc X1 W0)))) rfl h6 hm.2 (Int.toNat_of_nonneg (l02 (Ha (.a W0 Z1) X1 (Ga Z0 (.s X1 W0))) rfl hm.1))) ⟨h1,by dsimp only;exact(l02 (Ha (.a W0 Z1) X1 (Gd W0 X1)) rfl hm.1),by dsimp only;exact(l02 (Ha W0 (.z 4) (Ha (.a X1 Z1) W0 (Ga X1 (.z 4)))) rfl h3 hm.2),h4,fun zz=>by dsimp only;exact(l03 (He W0 (.a X1 (.z 96)) (.H .inle 1 W0 X2 (Gd X2 (.a X1 (.z 96))))) rfl e h8),by dsimp only;exact(Int.toNat_of_nonneg (l02 (Ha (.a W0 Z1) X1 (Ga Z0 (.s X1 W0))) rfl hm.1))⟩ _ _ rfl rfl).1
 ·refine AD (bu (by exact(⟨h1,l02 (Hh W0 X1 (Ha X1 (.z 4) (Gd W0 (.z 4)))) rfl h2 h3⟩))).2 ?_
  rw[←Wf h1 h2 h3 h4 h5 h7]at hQ
  exact hQ _ _
noncomputable def Ab(cs:List Nat):List Int:=cs.map fun c:Nat=>DN (c:Int)
theorem fP{cs:List Nat}(hl:cs.length≤100)(hc:∀c∈cs,c≤127):Ret (AC (k+2) X) 588 [.t vCls, .t (.str (txt cs))] (AQ (Ab cs)):=by
 refine Af (f:=VD) rfl rfl rfl fun K K0 e e0 Q hQ=> ?_
 have h555:∀c:Nat,c≤127→Ret K0 555 [.t vCls,vi (c:Int)] _:=fun c h=>e0▸fQ (by exact(⟨l10 (.P 0 1 (Ga Z0 (.c W0))) rfl,l10 (Hb W0 (.n 127) (Ga (.c W0) (.z 127))) rfl h⟩))
 refine⟨Nat.le_trans hl (by decide), ?_⟩
 refine C4 (f:=fun c:Nat=>Tr.str ⟨#[c]⟩) (g:=fun c:Nat=>Tr.int (DN c)) cs (fun c hc2 yes zz z=> ?_) ?_
 ·exact⟨rfl,Al (h555 c (hc c hc2)) rfl (z _ rfl)⟩
 ·rw[AQ,Ab,List.map_map]at hQ
  exact hQ _ _
end
end
section
theorem OW:∀l:List Int,(l.map fun zz=>3).foldl Ap []=Op l
 |[]=>rfl
 |_::r=>by
  have:∀r:List Int,(r.map fun zz=>3).foldl Ap [3]=[3]:=fun r=>by
   induction r with
   |nil=>rfl
   |cons _ r ih=>exact ih
  exact this r
noncomputable def Sc0:Sc:=⟨0,0,0,sNo,0,[],false⟩
section
variable{k:Nat}{X:Prop}{K:KT'}{T:BA}{cs:List Nat}{d:Bool}{C i:Addr}{f:Fn}{vl:List V}{ts:List Tr}{ρ:Rho}{Q:Post}{L:LH}
structure UM(K:KT')(C:Addr)(vl:List V)(P:Post→Prop):Prop where
 run:∀Q:Post,P Q→K (fnV C) vl Q []
theorem QT{P:Post→Prop}(hA:FA C=none)(hC:CA C=some i)(hF:FA i=some f)(hv:IC vl=some ts)(hρ:f.env (.ref 0::ts.map .t)=some ρ)
 (h:∀K K0,K=AC k X→K0=AC k False→∀Q:Post,P Q→wss f.body ⟨K,K0,X∧1≤k⟩ ρ (DX fun v L'=>UE (bif Nat.beq C 860 then([]:LH)=[]∧Q (.ref 0) (cut 4 L')else On L' (fun x=>Q (.t x) []) L'[0]?) v) [.inst C, .flds []]):UM (AC (k+1) X) C vl P:=by
 constructor
 intro Q hQ
 show Ni C _ vl Q [] _ (FA C)
 rw[hA]
 show Xu C _ vl Q [] _ (CA C)
 rw[hC]
 exact CJ hF (CJ hv (CJ hρ (h _ _ rfl rfl Q hQ)))
theorem fm:Ret (AC (k+2) X) 166 [.t vCls, .t EQ, .t (.fd [0,1,2,3] (JC T.auts)), .t (.fl (T.rules.map Bn)), .t (.fd T.cuts (T.cuts.map fun zz=>vCut)), .t (.fd T.ends (T.ends.map fun zz=> .int 3)),vb T.dflt] (AU T):=by
 refine⟨UM.run (P:=fun Q=>Q (.t (AU T)) []) ?_⟩
 refine QT (i:=135) (f:=VY) (P:=fun Q=>Q (.t (AU T)) []) rfl rfl rfl rfl rfl fun K K0 e zz Q hQ=> ?_
 have h177:Ret K 177 [.t (.fl (T.rules.map Bn))] _:=e▸fj
 unfold AU at hQ
 rw[←OW]at hQ
 refine⟨T.ends.map fun zz=>3,by rw[List.map_map,List.map_map];rfl,fun m hm=>by obtain⟨_,_,rfl⟩:=List.mem_map.mp hm;decide, ?_⟩
 exact Al h177 rfl hQ
noncomputable def rdF(cs:List Nat)(d:Bool):List (Nat×V):=[(AK,vs (txt cs)),(CX, .t EQ),(AF,vb d),(EG,vi 2000),(xat,vi 0),(EM,vi 0),(AI,vi 0),(I9, .ref 2),(DO,vs sNo),(Be,vi 0),(Bb, .ref 3),(Cp,vb false),(DF,vb false)]
theorem ew{Q:Post}:AC (k+1) X (fnV 709) [.ref 0,vs (txt cs), .t EQ,vb d,vi 2000] Q [.inst 860, .flds []]=Q vn [.inst 860, .flds (rdF cs d), .list [], .list []]:=by kernel_rfl
theorem fK(hl:cs.length≤100)(hc:∀c∈cs,c≤127):UM (AC (k+3) X) 860 [.t (AU T),vs (txt cs)] fun Q=>Q (.ref 0) (scL ⟨cs,T,Ab cs⟩ Sc0):=by
 refine@QT (k+2) X 860 836 U0 [.t (AU T),vs (txt cs)] [AU T, .str (txt cs)] [(AA, .ref 0),(AE, .t (AU T)),(AK,vs (txt cs)),(EG,vi 2000)] _ rfl rfl rfl rfl rfl fun K K0 e zz Q hQ=> ?_
 have h588:Ret K 588 [.t vCls,vs (txt cs)] _:=e▸fP hl hc
 have h709:∀{Q:Post},Q vn [.inst 860, .flds (rdF cs T.dflt), .list [], .list []]→K (fnV 709) [.ref 0,vs (txt cs), .t EQ,vb T.dflt,vi 2000] Q [.inst 860, .flds []]:=fun{Q} h=>by rw[e,ew];exact h
 refine CE rfl (h709 ?_)
 exact Al h588 rfl ⟨rfl,hQ⟩
end
end
section
noncomputable abbrev dG:Str:=⟨#[45,45,97,99,99,101,112,116,105,110,103,32,100,101,102,97,117,108,116,32,114,117,108,101,32,40,34]⟩
noncomputable abbrev sClose:Str:=⟨#[34,41]⟩
noncomputable abbrev Uc:Str:=⟨#[45,45,69,79,70,32,114,117,108,101,32]⟩
noncomputable abbrev GJ:Str:=⟨#[45,45,97,99,99,101,112,116,105,110,103,32,114,117,108,101,32]⟩
noncomputable abbrev EH:Str:=⟨#[32,40,34]⟩
noncomputable abbrev bS:Str:=⟨#[45,45,69,79,70]⟩
noncomputable abbrev HH:Str:=⟨#[114,101,102,117,115,101,100]⟩
noncomputable def Nb(cs:List Nat)(x:Int×Int×Int):Str:=CZ (txt cs) x.2.1.toNat x.2.2.toNat
noncomputable def Dk(cs:List Nat)(x:Int×Int×Int):Str:=
 if x.1<0 then dG++Nb cs x++sClose else if x.2.1=(cs.length:Int)then Uc++CR x.1 else GJ++CR x.1++EH++Nb cs x++sClose
structure TOk(cs:List Nat)(x:Int×Int×Int):Prop where
 n0:x.1<4
 b0:0≤x.2.1
 b1:x.2.1≤x.2.2
 b2:x.2.2≤cs.length
noncomputable def C6(cs:List Nat)(ts:List (Int×Int×Int)):List Str:=ts.map (Dk cs)++[bS]
theorem Eu{cs:List Nat}{i j:Nat}:(CZ (txt cs) i j).length≤cs.length:=by
 show(((txt cs).cps.toList.drop i).take (j-i)).toArray.size≤cs.length
 rw[List.size_toArray,List.length_take,List.length_drop]
 have:(txt cs).cps.toList.length=cs.length:=rfl
 exact(l40 (Hc W0 X1 (Hb X2 X3 (Hb X3 W0 (Gb X2 X1)))) rfl this (Nat.min_le_right _ _) (Nat.sub_le _ _))
theorem HT{α β:Type}{f:α→β}:∀(l:List α) (s:List β),l.foldl (fun s x=>s++[f x]) s=s++l.map f
 |[],s=>(List.append_nil s).symm
 |x::r,s=>by rw[List.foldl_cons,HT r,List.append_assoc];rfl
noncomputable def vTk(p:Tk):Tr:= .tup [.str p.1, .str p.2]
section
variable{k f:Nat}{X R:Prop}{T:BA}{cs:List Nat}{P:Sc→List Tk→Prop}
theorem fJ(hl:cs.length≤100)(hc:∀c∈cs,c≤127)(hf:f≤1000)(ho:ScO ⟨cs,T,Ab cs⟩)(hr:ScR ⟨cs,T,Ab cs⟩)(hR:R→X)(hrun:GK ⟨cs,T,Ab cs⟩ R P f Sc0 [])
 (hP:∀s tk,P s tk→s.turns.length≤1000∧∀x∈s.turns,TOk cs x):GN (AC (k+8) X) 869 [.t (AU T),vs (txt cs)] fun x=>∃(s:Sc) (ts:List TkV),x= .tup [.fl (ts.map EA), .fl ((C6 cs s.turns).map Tr.str)]∧P s (ts.map Oi):=by
 refine@GU (k+7) X 869 Uw [.t (AU T),vs (txt cs)] [(AE, .t (AU T)),(AK,vs (txt cs))] _ rfl rfl rfl fun K K0 e zz Q hQ=> ?_
 have h860:UM K 860 [.t (AU T),vs (txt cs)] fun Q=>Q (.ref 0) (scL ⟨cs,T,Ab cs⟩ Sc0):=by rw[e];exact@fK (k+4) X T cs hl hc
 have iv:Inv ⟨cs,T,Ab cs⟩ f Sc0:=⟨by decide,Int.natCast_nonneg _,by decide,by decide,by show(0:Int)+f≤1000;exact(l10 (Hb W0 (.n 1000) (Ga (.a Z0 (.c W0)) (.z 1000))) rfl hf),by decide,by decide⟩
 have h779:=dP (k:=k) (X:=X) (c:=⟨cs,T,Ab cs⟩) (s:=Sc0) ho hr iv hR hrun
 rw[←e]at h779
 refine CE rfl (h860.run _ (D1 (R:=[]) h779 rfl ?_))
 rintro _ s ⟨ts,rfl,hp⟩
 obtain⟨hp1,hp2⟩:=hP _ _ hp
 have hQ:=fun ρ' L'=>hQ _ ρ' L' ⟨s,ts,rfl,hp⟩
 unfold C6 at hQ
 rw[List.map_append]at hQ
 clear hP hp hrun h860 h779 ho hr iv
 refine Ag (f:=Qs) (fun zz=>[(AE, .t (AU T)),(AK,vs (txt cs)),(Eg, .ref 0),(BM, .t (.fl (ts.map EA)))]++[(BE, .ref 4)]) (fun ls:List Str=>[.inst 860, .flds (scF ⟨cs,T,Ab cs⟩ s), .list [], .gone, .list (ls.map Tr.str)]) (fun ls x=>ls++[Dk cs x]) (fun i ls=>ls.length=i) s.turns [] rfl (fun i ls x hi hs Z hZ=> ?_) (fun hs=> ?_)
 ·obtain⟨x0,x1,x2,x3⟩:=hp2 x (List.mem_of_getElem? hi)
  have hi2:=Au hi
  have hZ:=fun ρ₂ L₂ e1 e2=>(hZ (by rw[List.length_append,hs];rfl) ρ₂ L₂ e1 e2).1
  have hl1:(txt cs).length≤1048576:=Nat.le_trans hl (by decide)
  have B:ls.length+1≤1048576:=by exact l30 (Hb W0 (.n 1000) (Hc X1 X2 (Hg X2 W0 (Gb (.a X1 Y1) Yb)))) rfl hp1 hs hi2
  have hpl:=Eu (cs:=cs) (i:=x.2.1.toNat) (j:=x.2.2.toNat)
  generalize hpt:CZ (txt cs) x.2.1.toNat x.2.2.toNat=pt at hpl
  have fin:∀t,Dk cs x=t→[TO.inst 860, .flds (scF ⟨cs,T,Ab cs⟩ s), .list [], .gone, .list (ls.map Tr.str++[.str t])]=[.inst 860, .flds (scF ⟨cs,T,Ab cs⟩ s), .list [], .gone, .list ((ls++[Dk cs x]).map Tr.str)]:=fun t e=>by rw[←e,List.map_append];rfl
  refine⟨hl1,x1,x2,x3,Br (fun e=> ?_) fun e=>⟨hl1,C3 (fun e2=> ?_) fun e2=> ?_⟩⟩
  ·rw[hpt]
   exact⟨by show 27+pt.length≤_;exact(l20 (Hb W0 Yc (Hb X1 W0 (Gb (.a (.n 27) X1) Yb))) rfl hl hpl),by rw[BC];show 27+pt.length+2≤_;exact(l20 (Hb W0 Yc (Hb X1 W0 (Gb (.a (.a (.n 27) X1) Y2) Yb))) rfl hl hpl),by rw[List.length_map];exact B,hZ _ _ rfl (fin _ (by rw[Dk,if_pos e,Nb,hpt]))⟩
  ·have l6:=Dd (i:=x.1) ⟨by exact l01 (.H .inlt 1 W0 Z0 (Ga Z0 W0)) rfl e,x0⟩
   exact⟨by exact Ok (by omega),by show 11+(CR x.1).length≤_;exact(l10 (Hc W0 Y1 (Gb (.a (.n 11) W0) Yb)) rfl l6),by rw[List.length_map];exact B,hZ _ _ rfl (fin _ (by rw[Dk,if_neg e,if_pos (show x.2.1=(cs.length:Int)from e2)];rfl))⟩
  ·have l6:=Dd (i:=x.1) ⟨by exact l01 (.H .inlt 1 W0 Z0 (Ga Z0 W0)) rfl e,x0⟩
   rw[hpt]
   have c1:(GJ++CR x.1).length=18:=by rw[BC,l6];rfl
   have c2:(GJ++CR x.1++EH).length=21:=by rw[BC,c1];rfl
   have c3:(GJ++CR x.1++EH++pt).length=21+pt.length:=by rw[BC,c2]
   exact⟨by exact Ok (by omega),by show 17+(CR x.1).length≤_;exact(l10 (Hc W0 Y1 (Gb (.a (.n 17) W0) Yb)) rfl l6),by show(GJ++CR x.1).length+3≤_;exact(l10 (Hc W0 (.n 18) (Gb (.a W0 Y3) Yb)) rfl c1),by show(GJ++CR x.1++EH).length+pt.length≤_;exact(l30 (Hb W0 Yc (Hb X1 W0 (Hc X2 (.n 21) (Gb (.a X2 X1) Yb)))) rfl hl hpl c2),by show(GJ++CR x.1++EH++pt).length+2≤_;exact(l30 (Hb W0 Yc (Hb X1 W0 (Hc X2 (.a (.n 21) X1) (Gb (.a X2 Y2) Yb)))) rfl hl hpl c3),by rw[List.length_map];exact B,hZ _ _ rfl (fin _ (by rw[Dk,if_neg e,if_neg (show¬x.2.1=(cs.length:Int)from e2),Nb,hpt];rfl))⟩
 ·rw[HT,List.nil_append]at hs⊢
  refine⟨by rw[List.length_map];exact(l20 (Hb W0 (.n 1000) (Hc X1 W0 (Gb (.a X1 Y1) Yb))) rfl hp1 hs), ?_⟩
  exact hQ _ _
structure A4(P:Prop):Prop where
 get:P
theorem gC{K K0 KX:KT'}{x1 x2:Prop}{Q:Post}(h869:GN K 869 [.t (AU T),vs (txt cs)] fun x=>∃(s:Sc) (ts:List TkV),x= .tup [.fl (ts.map EA), .fl ((C6 cs s.turns).map Tr.str)]∧P s (ts.map Oi))(h333:∀t:TkV,Ret K0 333 [.t (EA t)] (.tup [.str t.1, .str t.2.1]))
 (hQ:∀(s:Sc) (tk:List Tk),P s tk→Q (.t (.tup [.fl (tk.map vTk), .fl ((C6 cs s.turns).map Tr.str)])) []):A4 (wss Nf ⟨K,K0,x1⟩ [(AE, .t (AU T)),(AK,vs (txt cs))] (fun f ρ' L'=>f= .next∧wss KA ⟨KX,K0,x2⟩ ρ' (DX (Lw 0 Q)) L') []):=by
 constructor
 refine F8 h869 rfl ?_
 rintro _ ⟨s,ts,rfl,hp⟩
 refine⟨rfl,C4 (f:=EA) (g:=fun p=> .tup [.str p.1, .str p.2.1]) ts (fun p hp yes zz z=>Al (h333 p) rfl (z _ rfl)) ?_⟩
 have hQ:=hQ s _ hp
 rw[List.map_map]at hQ
 exact hQ
theorem S7{vl:List V}{Q:Post}(h:Fs (AC k) (1≤k) X vl Q []):AC (k+1) X (fnV 927) vl Q []:=h
theorem fF(hl:cs.length≤100)(hc:∀c∈cs,c≤127)(hf:f≤1000)(ho:ScO ⟨cs,T,Ab cs⟩)(hr:ScR ⟨cs,T,Ab cs⟩)(hrun:GK ⟨cs,T,Ab cs⟩ R P f Sc0 [])
 (hP:∀s tk,P s tk→s.turns.length≤1000∧∀x∈s.turns,TOk cs x):GN (AC (k+9) X) 927 [.t (AU T),vs (txt cs)] fun x=>(R∧x= .str HH)∨∃(s:Sc) (tk:List Tk),x= .tup [.fl (tk.map vTk), .fl ((C6 cs s.turns).map Tr.str)]∧P s tk:=by
 constructor
 intro Q hQ
 refine@S7 (k+8) X _ _ ?_
 refine@And.intro _ _ rfl (Exists.intro _ (Exists.intro _ (And.intro rfl (Exists.intro R (And.intro ?_ ?_)))))
 ·have h869:=fJ (k:=k) (X:=R) hl hc hf ho hr id hrun hP
  have h333:∀t:TkV,Ret (AC (k+8) False) 333 [.t (EA t)] (.tup [.str t.1, .str t.2.1]):=fun t=>fW
  have hh:= @gC T cs P (AC (k+8) R) (AC (k+8) False) (AC (k+8) X) (R∧1≤k+8) (X∧1≤k+8) Q h869 h333 fun s tk hp=>hQ _ (.inr ⟨s,tk,rfl,hp⟩)
  cases hh
  assumption
 ·exact fun h=>hQ _ (.inl ⟨h,rfl⟩)
end
end
section
noncomputable def vSc(is:List Int):Tr:= .fl (is.map Tr.int)
noncomputable def tkH(p:Int):LH:=[.tab, .list [.int p]]
theorem TL{n:Nat}(h:n≤400):((720720:Int)^n).natAbs.log2<9000:=by
 have h0:(720720:Nat)^n≠0:=Nat.ne_of_gt (Nat.pow_pos (by decide))
 rw[Int.natAbs_pow]
 refine(Nat.log2_lt h0).mpr (Nat.lt_of_le_of_lt (Nat.pow_le_pow_left (show 720720≤2^20 by decide) n) ?_)
 rw[←Nat.pow_mul]
 exact Nat.pow_lt_pow_right (by decide) (by exact l10 (.H .nle 20 W0 (.n 400) (Gc (.m 20 W0) (.n 9000))) rfl h)
section
variable{k:Nat}{X:Prop}{is us:List Int}{p lim:Int}{K:KT'}
structure IN(K:KT')(us:List Int)(lim p:Int):Prop where
 run:∀Q:Post,(∀r,0≤r→r<lim→Q (vi r) (tkH (p+1)))→K (.clo (us.map Tr.int) 1) [vi lim] Q (tkH p)
theorem Dh{Q:Post}{R:LH}(h:IN K us lim p)(hq:∀r,0≤r→r<lim→Q (vi r) (tkH (p+1)++R)):FK K 2 (.clo (us.map Tr.int) 1) [vi lim] Q (tkH p++R):=
 CE rfl (h.run _ fun r h0 h1=>by cases R<;>exact hq r h0 h1)
theorem Tp{Q:Post}{i:Nat}{ts:List Tr}{vl:List V}{L:LH}(h:UJ (cx k X) ts i vl Q L):AC (k+1) X (.clo ts i) vl Q L:=h
theorem MB(hu:us≠[])(hu2:us.length≤63)(hp:0≤p∧p≤400)(hl:0<lim):IN (AC (k+1) X) us lim p:=by
 constructor
 intro Q hQ
 have hn:0<us.length:=List.length_pos_iff.mpr hu
 have hlen:((us.map Tr.int).length:Int)=us.length:=by rw[List.length_map]
 have f1:0≤p.fdiv (us.length:Int)∧p.fdiv (us.length:Int)≤p:=by
  rw[Int.fdiv_eq_ediv_of_nonneg _ (by exact l10 (Hg Y0 W0 (Ga Z0 (.c W0))) rfl hn)]
  exact⟨Int.ediv_nonneg hp.1 (by exact l10 (Hg Y0 W0 (Ga Z0 (.c W0))) rfl hn),Int.ediv_le_self _ hp.1⟩
 have f2:=Int.fmod_nonneg_of_pos p (b:=(us.length:Int)) (by exact l10 (Hg Y0 W0 (Gd Z0 (.c W0))) rfl hn)
 have f3:=Int.fmod_lt_of_pos p (b:=(us.length:Int)) (by exact l10 (Hg Y0 W0 (Gd Z0 (.c W0))) rfl hn)
 have f4:((us.length:Int)).natAbs.log2<9000:=(Nat.log2_lt (by exact(fun h9=>l20 (Hg Y0 W0 (Hc X1 Y0 (Hf (.c X1) (.c W0) .f))) rfl hn h9 (Int.natAbs_of_nonneg (l10 (Hg Y0 W0 (Ga Z0 (.c W0))) rfl hn))))).mpr (Nat.lt_trans (show(us.length:Int).natAbs<2^6 by exact na6 (by omega)) (Nat.pow_lt_pow_right (by decide) (by decide)))
 obtain⟨y,hy⟩:∃y,us[(p.fmod (us.length:Int)).toNat]? =some y:=⟨_,List.getElem?_eq_getElem (by exact l21 (Hh W0 (.c W0) (He (.c X1) W0 (Gc X1 W0))) rfl f3 (Int.toNat_of_nonneg f2))⟩
 have f5:=TL (n:=(p.fdiv (us.length:Int)).toNat) (by exact l12 (Ha W0 (.z 400) (Ha X1 W0 (He (.c W0) X1 (Gb W0 (.n 400))))) rfl hp.2 f1.2 (Int.toNat_of_nonneg f1.1))
 have f6:(720720:Int)^(p.fdiv (us.length:Int)).toNat≠0:=Int.pow_ne_zero (by decide)
 have n0:((us.map Tr.int).length:Int)≠0:=by exact(fun h9=>l20 (Hg Y0 W0 (Hf (.c X1) (.c W0) (He (.c X1) Z0 .f))) rfl hn hlen h9)
 rw[←hlen]at f1 f2 f3 f4 hy f5 f6
 refine Tp ?_
 refine⟨⟨by decide,(by decide:(0:Int)<1)⟩,n0,f4,n0,AD (AN (f:=Tr.int) f2 hy) ?_⟩
 exact⟨f1.1,by exact l02 (Ha W0 (.z 400) (Ha X1 W0 (Ga X1 (.z 1000)))) rfl hp.2 f1.2,by decide,f6,f5, .inl (by decide), .inl (by exact Ok (by omega)),by exact(fun h9=>l01 (Hh Z0 W0 (He W0 Z0 .f)) rfl hl h9),hQ _ (Int.fmod_nonneg_of_pos _ hl) (Int.fmod_lt_of_pos _ hl)⟩
structure YN(K:KT')(is:List Int):Prop where
 run:∀Q:Post,(∀us:List Int,us≠[]→us.length≤63→Q (.clo (us.map Tr.int) 1) (tkH 0))→K (fnV 905) [.t (vSc is)] Q [.raw o9]
theorem O5{Q:Post}{vl:List V}{L:LH}(h:Ft (cx k X) vl Q L):AC (k+1) X (fnV 905) vl Q L:=h
theorem R5:YN (AC (k+1) X) is:=by
 constructor
 intro Q hQ
 have hu:(is.take 63).length≤63:=by rw[List.length_take];exact Nat.min_le_left _ _
 refine O5 ⟨rfl,by decide, ?_⟩
 refine .inl ⟨rfl, ?_⟩
 have e:(is.map Tr.int).take 63=(is.take 63).map Tr.int:=List.map_take.symm
 generalize is.take 63=us at hu e
 have e2:((is.map Tr.int).take (63:Int).toNat).isEmpty=us.isEmpty:=by show((is.map Tr.int).take 63).isEmpty=_;rw[e];cases us<;>rfl
 refine A6 (fun h=> ?_) fun h=> ?_
 ·exact⟨rfl,rfl,_,rfl,hQ [1] (by intro xx;contradiction) (by decide)⟩
 ·refine⟨rfl,rfl,_,rfl, ?_⟩
  have h:us≠[]:=fun q=>by subst q;exact absurd (e2.symm.trans h) (by intro xx;contradiction)
  have fin:=hQ us h hu
  rw[←e]at fin
  exact fin
end
end
section
noncomputable def CN(A:Aut):Tr:= .tup [.fl (A.rows.map AQ), .fl (A.tags.map Bv)]
noncomputable def IJ(A:Aut)(ns:List Int):Int:=ns.foldl (AR A) 0
theorem Ti{A:Aut}(g:An A){ns:List Int}(hns:∀x∈ns,0≤x∧x<3): -1≤IJ A ns∧IJ A ns<3:=by
 have:∀(r:List Int) (q:Int),(∀x∈r,0≤x∧x<3)→-1≤q∧q<3→-1≤r.foldl (AR A) q∧r.foldl (AR A) q<3:=by
  intro r
  induction r with
  |nil=>intro q _ h;exact h
  |cons x r ih=>intro q h h2;exact ih _ (fun y hy=>h y (List.mem_cons_of_mem _ hy)) (Ei g h2 (h x List.mem_cons_self))
 exact this ns 0 hns (by decide)
theorem WK{P:List Tr→Prop}{sv:Tr}{l:List Tr}(hs:sv= .fl l∨sv= .tup l)(h:P l):Jt P (.t sv):=by
 rcases hs with rfl|rfl<;>exact h
section
variable{k:Nat}{X:Prop}{A:Aut}{ns:List Int}{sv:Tr}
theorem cK(g:An A)(hs:sv= .fl (ns.map Tr.int)∨sv= .tup (ns.map Tr.int))(hns:∀x∈ns,0≤x∧x<3):Ret (AC (k+1) X) 917 [.t (CN A), .t sv] (Bv (Bj A (IJ A ns))):=by
 refine Af (f:=Uu) rfl rfl rfl fun K K0 zz zz Q hQ=> ?_
 refine WK hs ?_
 refine Ag (f:=Tr.int) (fun q=>[(AV, .t (CN A)),(AJ, .t sv),(AG,vi q)]) (fun zz=>[]) (AR A) (fun zz q=> -1≤q∧q<3) ns 0 (by decide) (fun i q x hx hq Z hZ=> ?_) (fun hq=> ?_)
 ·have hx:=hns x (List.mem_of_getElem? hx)
  have hZ:=fun ρ₂ L₂ e1 e2=>(hZ (Ei g hq hx) ρ₂ L₂ e1 e2).1
  refine Br (fun h0=> ?_) fun h0=> ?_
  ·obtain⟨r,hr,rm⟩:=g.row (show q.toNat<3 by exact l11 (Hh W0 W3 (He (.c W0) W0 (Gc W0 Y3))) rfl hq.2 (Int.toNat_of_nonneg h0))
   have hl:x.toNat<r.length:=by rw[g.rw3 r rm];exact(l11 (Hh W0 W3 (He (.c W0) W0 (Gc W0 Y3))) rfl hx.2 (Int.toNat_of_nonneg hx.1))
   rw[AR,if_neg (by exact(fun h9=>l01 (Ha Z0 W0 (He W0 Zm .f)) rfl h0 h9)),hr,Option.getD_some,List.getElem?_eq_getElem hl]at hZ
   exact AD (AN (f:=AQ) h0 hr) (AD (AN (f:=Tr.int) hx.1 (List.getElem?_eq_getElem hl)) (hZ _ _ rfl rfl))
  ·rw[AR,if_pos (by exact(Int.le_antisymm (l01 (.H .inle 1 Z0 W0 (Ga W0 Zm)) rfl h0) hq.1))]at hZ
   exact hZ _ _ rfl rfl
 ·have hq: -1≤IJ A ns∧IJ A ns<3:=hq
  show wss _ _ [(AV, .t (CN A)),(AJ, .t sv),(AG,vi (IJ A ns))] _ []
  generalize IJ A ns=q at hq hQ
  refine Br (fun h0=> ?_) fun h0=> ?_
  ·exact AD (AN (f:=Bv) h0 (Et g (by exact(⟨h0,hq.2⟩)))) (hQ _ _)
  ·rw[Bj,if_pos (by exact(Int.le_antisymm (l01 (.H .inle 1 Z0 W0 (Ga W0 Zm)) rfl h0) hq.1))]at hQ
   exact hQ _ _
end
end
section
noncomputable def NP:Sts→Sts
 | .c (.for_ _ _ _ b) _=>b
 |_=> .n
noncomputable def Ad:Nat→Sts→Sts
 |0,s=>s
 |n+1, .c _ r=>Ad n r
 |_,_=> .n
theorem TZ{x j:Nat}{c:Ctx}{ρ:Rho}{Q:QS}{L:LH}{ts:List Tr}(hr:AW ρ x=some (.ref j))(e:L[j]? =some (.list ts))(h:Q .next (Bk ρ x (.t (.fl ts))) (L.set j .gone)):wst (.frz x) c ρ Q L:=by
 refine CJ hr ?_
 have e2:frz L (.ref j)=(.t (.fl ts),L.set j .gone):=by show Re L j L[j]? =_;rw[e];rfl
 rw[e2];exact h
theorem Pp{L:LH}{ts:List Tr}:Bp (L++[.list ts]) (.ref L.length)=some ts:=by
 show GL (L++[.list ts])[L.length]? =_
 rw[List.getElem?_concat_length];rfl
noncomputable def UB(m:Int):List Nat:=[0,1,2].filter fun n=>(m.fdiv (2^n)).fmod 2==1
theorem dp:∀n∈[0,1,2],(2:Int)^n≠0∧((2:Int)^n).natAbs.log2<9000:=by decide
noncomputable def ρA(us:List Int)(full:Bool):Rho:=[(BO, .clo (us.map Tr.int) 1),(Aq,vb full),(Cu, .ref 2),(At, .ref 3)]
noncomputable def lA(p:Int)(rows:List (List Int))(tags:List (List Nat))(N:LH):LH:= .tab:: .list [.int p]:: .list (rows.map AQ):: .list (tags.map Bv)::N
section
variable{k:Nat}{X x:Prop}{us xs:List Int}{full:Bool}{p m i:Int}{rows:List (List Int)}{tags:List (List Nat)}{N:LH}{j:Nat}{K K0:KT'}{Z:QS}
theorem XN(hN:N[j]? =some (.list (xs.map Tr.int)))(hr:rows.length≤3)(ht:tags.length≤3)(h:∀ρ' N',Z .next (ρA us full++ρ') (lA p (rows++[xs]) (tags++[UB m]) N')):
 A4 (wss (Ad 4 (NP (Ad 2 Ng))) ⟨K,K0,x⟩ (ρA us full++[(AG,vi i),(Jq, .ref (j+4)),(FF,vi m)]) Z (lA p rows tags N)):=by
 constructor
 refine TZ (j:=j+4) (ts:=xs.map Tr.int) rfl hN ?_
 refine⟨by rw[List.length_map];exact(l10 (Hb W0 Y3 (Gb (.a W0 Y1) Yb)) rfl hr),⟨_,NM, ?_⟩⟩
 refine Bz (f:=fun n:Nat=>Tr.int (Int.ofNat n)) (g:=fun n:Nat=>Tr.int (Int.ofNat n)) (p:=fun n=>(m.fdiv (2^n)).fmod 2==1) [0,1,2] (fun n hn yes no z1 z2=> ?_) ?_
 ·obtain⟨e1,e2⟩:=dp n hn
  exact⟨Int.natCast_nonneg _,by have:n<3:=by{simp only[List.mem_cons,List.not_mem_nil,or_false]at hn;exact(hn.elim (fun x3'=>l10 (Hc W0 Y0 (Gc W0 Y3)) rfl x3') (fun x3'=>x3'.elim (fun x2'=>l10 (Hc W0 Y1 (Gc W0 Y3)) rfl x2') (fun x2'=>l10 (Hc W0 Y2 (Gc W0 Y3)) rfl x2')))};show(n:Int)≤1000;exact(l10 (Hg W0 Y3 (Ga (.c W0) (.z 1000))) rfl this),by decide,e1,e2,by decide,A6 (fun h=>z1 h _ Kx) fun h=>z2 h _ Kx⟩
 ·have h:=h [(AG,vi i),(Jq, .t (.fl (xs.map Tr.int))),(FF,vi m)] (N.set j .gone++[.list ((UB m).map fun n:Nat=>Tr.int (Int.ofNat n))])
  unfold lA at h
  rw[List.map_append,List.map_append]at h
  refine CJ Pp ⟨by rw[List.length_map];exact(l10 (Hb W0 Y3 (Gb (.a W0 Y1) Yb)) rfl ht), ?_⟩
  exact h
end
end
section
structure ADr(i:Nat)(rows:List (List Int))(tags:List (List Nat)):Prop where
 rl:rows.length=i
 tl:tags.length=i
 rw3:∀r∈rows,r.length=3
 ent:∀r∈rows,∀x∈r, -1≤x∧x<3
 r0:0<i→∃r,rows[0]? =some r∧(1:Int)∈r
 r1:1<i→∃r,rows[1]? =some r∧(2:Int)∈r
 t0:0<i→tags[0]? =some []
 tb:∀t∈tags,∀n∈t,n<3
structure Nl(i:Nat)(r:List Int):Prop where
 l:r.length=3
 e:∀x∈r, -1≤x∧x<3
 m:i<2→(i:Int)+1∈r
theorem ADr.step{i:Nat}{rows:List (List Int)}{tags:List (List Nat)}{r:List Int}{t:List Nat}(d:ADr i rows tags)(hr:Nl i r)(h0:i=0→t=[])(ht:∀n∈t,n<3):ADr (i+1) (rows++[r]) (tags++[t]):=by
 have g:∀j,j<i+1→(∀x:List Int,j<i→rows[j]? =some x→(rows++[r])[j]? =some x)∧(j=i→(rows++[r])[j]? =some r):=fun j hj=>⟨fun x h e=>by rw[List.getElem?_append_left (by have:=d.rl;exact(l30 (Hg W0 X1 (Hd X2 X1 (Gc W0 X2))) rfl h this))];exact e,fun e=>by rw[List.getElem?_append_right (by have:=d.rl;exact(l30 (Hd W0 X1 (Hc X2 X1 (Gb X2 W0))) rfl e this)),e,d.rl];simp⟩
 refine⟨by simp[d.rl],by simp[d.tl],fun x hx=> ?_,fun x hx=> ?_,fun h=> ?_,fun h=> ?_,fun h=> ?_,fun x hx=> ?_⟩
 ·rcases List.mem_append.mp hx with h|h
  ·exact d.rw3 x h
  ·simp only[List.mem_singleton]at h;subst h;exact hr.l
 ·rcases List.mem_append.mp hx with h|h
  ·exact d.ent x h
  ·simp only[List.mem_singleton]at h;subst h;exact hr.e
 ·by_cases q:0<i
  ·obtain⟨x,e,m⟩:=d.r0 q;exact⟨x,(g 0 h).1 x q e,m⟩
  ·have:i=0:=by exact(Nat.le_antisymm (l10 (.H .nnlt 1 Y0 W0 (Gb W0 Y0)) rfl q) (l10 (Hg Y0 (.a W0 Y1) (Gb Y0 W0)) rfl h))
   subst this;exact⟨r,(g 0 h).2 rfl,by simpa using hr.m (by decide)⟩
 ·by_cases q:1<i
  ·obtain⟨x,e,m⟩:=d.r1 q;exact⟨x,(g 1 h).1 x q e,m⟩
  ·have:i=1:=by exact(Nat.le_antisymm (l10 (.H .nnlt 1 Y1 W0 (Gb W0 Y1)) rfl q) (l10 (Hg Y1 (.a W0 Y1) (Gb Y1 W0)) rfl h))
   subst this;exact⟨r,(g 1 h).2 rfl,by simpa using hr.m (by decide)⟩
 ·by_cases q:0<i
  ·rw[List.getElem?_append_left (by have:=d.tl;exact(l20 (Hg Y0 W0 (Hd X1 W0 (Gc Y0 X1))) rfl q this))];exact d.t0 q
  ·have:i=0:=by exact(Nat.le_antisymm (l10 (.H .nnlt 1 Y0 W0 (Gb W0 Y0)) rfl q) (l10 (Hg Y0 (.a W0 Y1) (Gb Y0 W0)) rfl h))
   subst this
   rw[List.getElem?_append_right (by have:=d.tl;exact(l10 (Hc W0 Y0 (Gb W0 Y0)) rfl this)),d.tl,h0 rfl];rfl
 ·rcases List.mem_append.mp hx with h|h
  ·exact d.tb x h
  ·simp only[List.mem_singleton]at h;subst h;exact ht
theorem ADr.good{rows:List (List Int)}{tags:List (List Nat)}(d:ADr 3 rows tags):An ⟨rows,tags⟩:=⟨d.rl,d.rw3,d.ent,d.r0 (by decide),d.r1 (by decide),d.tl,d.t0 (by decide),d.tb⟩
theorem bn{i:Nat}{x:Int}(h:([0,1,2]:List Int)[i]? =some x):x=i∧i<3:=by
 have h2:i<3:=Au h
 have:i=0∨i=1∨i=2:=by lia
 rcases this with rfl|rfl|rfl<;>(cases h;exact⟨rfl,by decide⟩)
theorem R4{m:Int}:∀n∈UB m,n<3:=fun n hn=>by
 have:=(List.mem_filter.mp hn).1
 simp only[List.mem_cons,List.not_mem_nil,or_false]at this
 exact(this.elim (fun x3'=>l10 (Hc W0 Y0 (Gc W0 Y3)) rfl x3') (fun x3'=>x3'.elim (fun x2'=>l10 (Hc W0 Y1 (Gc W0 Y3)) rfl x2') (fun x2'=>l10 (Hc W0 Y2 (Gc W0 Y3)) rfl x2')))
structure UN(K:KT')(a:Addr)(vl:List V)(p:Int)(P:Tr→Int→Prop):Prop where
 run:∀Q:Post,(∀x p',P x p'→Q (.t x) (tkH p'))→K (fnV a) vl Q (tkH p)
theorem Ie{i:Nat}{e r0 r1 r2 r3:Int}(he:e=i+1)(hi:i<2)(a3:0≤r3)(b3:r3<3)(a0:0≤r0)(b0:r0<4)(a1:0≤r1)(b1:r1<4)(a2:0≤r2)(b2:r2<4):Nl i ([r0-1,r1-1,r2-1].set r3.toNat e):=by
 refine⟨by rw[List.length_set];rfl,fun x hx=> ?_,fun zz=>he▸List.mem_set (show r3.toNat<[r0-1,r1-1,r2-1].length by show r3.toNat<3;exact(l11 (Hh W0 W3 (He (.c W0) W0 (Gc W0 Y3))) rfl b3 (Int.toNat_of_nonneg a3))) e⟩
 rcases List.mem_or_eq_of_mem_set hx with h|rfl
 ·simp only[List.mem_cons,List.not_mem_nil,or_false]at h
  exact(h.elim (fun x3'=>⟨l02 (Ha Z0 W0 (Hf X1 (.s W0 Z1) (Ga Zm X1))) rfl a0 x3',l02 (Hh W0 (.z 4) (He X1 (.s W0 Z1) (Gd X1 W3))) rfl b0 x3'⟩) (fun x3'=>x3'.elim (fun x2'=>⟨l02 (Ha Z0 W0 (Hf X1 (.s W0 Z1) (Ga Zm X1))) rfl a1 x2',l02 (Hh W0 (.z 4) (He X1 (.s W0 Z1) (Gd X1 W3))) rfl b1 x2'⟩) (fun x2'=>⟨l02 (Ha Z0 W0 (Hf X1 (.s W0 Z1) (Ga Zm X1))) rfl a2 x2',l02 (Hh W0 (.z 4) (He X1 (.s W0 Z1) (Gd X1 W3))) rfl b2 x2'⟩)))
 ·exact(⟨l11 (.P 0 1 (Hf W0 (.a (.c W0) Z1) (Ga Zm W0))) rfl he,l11 (Hg W0 Y2 (He W0 (.a (.c W0) Z1) (Gd W0 W3))) rfl hi he⟩)
theorem OI{r0 r1 r2:Int}(a0:0≤r0)(b0:r0<4)(a1:0≤r1)(b1:r1<4)(a2:0≤r2)(b2:r2<4):Nl 2 [r0-1,r1-1,r2-1]:=by
 refine⟨rfl,fun x hx=> ?_,fun h=>absurd h (by decide)⟩
 simp only[List.mem_cons,List.not_mem_nil,or_false]at hx
 exact(hx.elim (fun x3'=>⟨l02 (Ha Z0 W0 (Hf X1 (.s W0 Z1) (Ga Zm X1))) rfl a0 x3',l02 (Hh W0 (.z 4) (He X1 (.s W0 Z1) (Gd X1 W3))) rfl b0 x3'⟩) (fun x3'=>x3'.elim (fun x2'=>⟨l02 (Ha Z0 W0 (Hf X1 (.s W0 Z1) (Ga Zm X1))) rfl a1 x2',l02 (Hh W0 (.z 4) (He X1 (.s W0 Z1) (Gd X1 W3))) rfl b1 x2'⟩) (fun x2'=>⟨l02 (Ha Z0 W0 (Hf X1 (.s W0 Z1) (Ga Zm X1))) rfl a2 x2',l02 (Hh W0 (.z 4) (He X1 (.s W0 Z1) (Gd X1 W3))) rfl b2 x2'⟩)))
section
variable{k:Nat}{X:Prop}{us:List Int}{full:Bool}{p:Int}
theorem w4{x k:Int}(h:0≤x∧x≤k)(e:decide (k≤400)=true):0≤x∧x≤400:=⟨h.1,Int.le_trans h.2 (of_decide_eq_true e)⟩
theorem up1{x k:Int}(h:0≤x∧x≤k):0≤x+1∧x+1≤k+1:=⟨Int.le_trans h.1 (Int.le_add_of_nonneg_right (by decide)),Int.add_le_add_right h.2 1⟩
theorem fH(hu:us≠[])(hu2:us.length≤63)(hp:0≤p∧p≤300):UN (AC (k+2) X) 910 [.clo (us.map Tr.int) 1,vb full] p fun x p'=>∃A,x=CN A∧An A∧p≤p'∧p'≤p+20:=by
 constructor
 intro Q hQ
 refine@Gl (k+1) X 910 Uv [.clo (us.map Tr.int) 1,vb full] Q (tkH p) rfl (CE rfl (CJ rfl ?_))
 have hT:∀lim q,0≤q∧q≤400→0<lim→IN (AC (k+1) X) us lim q:=fun lim q h1 h2=>MB hu hu2 h1 h2
 have hT0:∀lim q,0≤q∧q≤400→0<lim→IN (AC (k+1) False) us lim q:=fun lim q h1 h2=>MB hu hu2 h1 h2
 show wss Ng ⟨AC (k+1) X,AC (k+1) False,X∧1≤k+1⟩ _ _ _
 generalize AC (k+1) X=K at hT
 generalize AC (k+1) False=K0 at hT0
 refine⟨_,NM, ?_⟩
 refine E5 (f:=Tr.int) (fun i ρ L=>∃rows tags p',ρ=ρA us full∧L=lA p' rows tags []∧p≤p'∧p'≤p+5*i∧ADr i rows tags) [0,1,2] (i:=0) ⟨[],[],p,rfl,rfl,Int.le_refl _,by exact l01 (Ga W0 (.a W0 (.p 5 (.c Y0)))) rfl,⟨rfl,rfl,(by intro xx yy;contradiction),(by intro xx yy;contradiction),(by intro xx;contradiction),(by intro xx;contradiction),(by intro xx;contradiction),(by intro xx yy;contradiction)⟩⟩ ?_ ?_
 ·rintro i x _ _ hx ⟨rows,tags,p1,rfl,rfl,h1,h2,hd⟩ Z hZ _ _
  rw[Nat.zero_add]at h2 hd hZ
  obtain⟨rfl,hi3⟩:=bn hx
  have hA:∀(xs:List Int) (m p2:Int) (N:LH) (j:Nat),N[j]? =some (.list (xs.map Tr.int))→Nl i xs→(i=0→UB m=[])→p1≤p2→p2≤p1+5→
   A4 (wss (Ad 4 (NP (Ad 2 Ng))) ⟨K,K0,X∧1≤k+1⟩ (ρA us full++[(AG,vi i),(Jq, .ref (j+4)),(FF,vi m)]) Z (lA p2 rows tags N)):=fun xs m p2 N j hN ok h0 h3 h4=>
   XN hN (by rw[hd.rl];exact(l10 (Hg W0 Y3 (Gb W0 Y3)) rfl hi3)) (by rw[hd.tl];exact(l10 (Hg W0 Y3 (Gb W0 Y3)) rfl hi3)) fun ρ' N'=>(hZ _ _ ⟨_,_,p2,rfl,rfl,by exact l03 (Ha W0 X1 (Ha X1 X2 (Ga W0 X2))) rfl h1 h3,by exact l13 (Ha W0 (.a X1 (.p 5 (.c W0))) (Ha X2 (.a W0 (.z 5)) (Ga X2 (.a X1 (.p 5 (.c (.a W0 Y1))))))) rfl h2 h4,hd.step ok h0 R4⟩).1
  have q:0≤p1∧p1≤310:=⟨Int.le_trans hp.1 h1,l12 (Ha W0 (.a X1 (.p 5 (.c W0))) (Ha X1 (.z 300) (.H .nlt 5 W0 Y3 (Ga W0 (.z 310))))) rfl h2 hp.2 hi3⟩
  have u4:p1≤p1+1+1+1+1∧p1+1+1+1+1≤p1+5:=⟨l01 (Ga W0 (.a (.a (.a (.a W0 Z1) Z1) Z1) Z1)) rfl,l01 (Ga (.a (.a (.a (.a W0 Z1) Z1) Z1) Z1) (.a W0 (.z 5))) rfl⟩
  have u5:p1≤p1+1+1+1+1+1∧p1+1+1+1+1+1≤p1+5:=⟨l01 (Ga W0 (.a (.a (.a (.a (.a W0 Z1) Z1) Z1) Z1) Z1)) rfl,l01 (Ga (.a (.a (.a (.a (.a W0 Z1) Z1) Z1) Z1) Z1) (.a W0 (.z 5))) rfl⟩
  clear h1 h2 hZ hd
  refine⟨_,NM,Dh (R:=[.list (rows.map AQ), .list (tags.map Bv)]) (hT0 4 p1 (w4 q rfl) (by decide)) fun r0 a0 b0=>Dh (R:=[.list (rows.map AQ), .list (tags.map Bv)]) (hT0 4 (p1+1) (w4 (up1 q) rfl) (by decide)) fun r1 a1 b1=>Dh (R:=[.list (rows.map AQ), .list (tags.map Bv)]) (hT0 4 (p1+1+1) (w4 (up1 (up1 q)) rfl) (by decide)) fun r2 a2 b2=> ?_⟩
  have q3:=up1 (up1 (up1 q))
  have:i=0∨i=1∨i=2:=by lia
  rcases this with rfl|rfl|rfl<;>cases full
  ·refine Dh (R:=[.list (rows.map AQ), .list (tags.map Bv), .list [.int (r0-1), .int (r1-1), .int (r2-1)]]) (hT 3 (p1+1+1+1) (w4 q3 rfl) (by decide)) fun r3 a3 b3=>⟨⟨a3,b3⟩, ?_⟩
   exact(hA (([r0-1,r1-1,r2-1].set r3.toNat 1)) (0) (p1+1+1+1+1) [.list (([.int (r0-1), .int (r1-1), .int (r2-1)]:List Tr).set r3.toNat (.int 1))] 0 (by show some (TO.list _)=_;rw[List.map_set];rfl) (Ie (by decide) (by decide) a3 b3 a0 b0 a1 b1 a2 b2) (by first|exact fun zz=>rfl|exact fun h=>absurd h (by decide)) u4.1 u4.2).get
  ·refine Dh (R:=[.list (rows.map AQ), .list (tags.map Bv), .list [.int (r0-1), .int (r1-1), .int (r2-1)]]) (hT 3 (p1+1+1+1) (w4 q3 rfl) (by decide)) fun r3 a3 b3=>⟨⟨a3,b3⟩, ?_⟩
   exact(hA ([1,1,1]) (0) (p1+1+1+1+1) [.list (([.int (r0-1), .int (r1-1), .int (r2-1)]:List Tr).set r3.toNat (.int 1)), .list ([1,1,1].map Tr.int)] 1 rfl ⟨rfl,by decide,by decide⟩ (by first|exact fun zz=>rfl|exact fun h=>absurd h (by decide)) u4.1 u4.2).get
  ·refine Dh (R:=[.list (rows.map AQ), .list (tags.map Bv), .list [.int (r0-1), .int (r1-1), .int (r2-1)]]) (hT 3 (p1+1+1+1) (w4 q3 rfl) (by decide)) fun r3 a3 b3=>⟨⟨a3,b3⟩, ?_⟩
   refine Dh (R:=[.list (rows.map AQ), .list (tags.map Bv), .list (([.int (r0-1), .int (r1-1), .int (r2-1)]:List Tr).set r3.toNat (.int 2))]) (hT 8 (p1+1+1+1+1) (w4 (up1 q3) rfl) (by decide)) fun m a4 b4=> ?_
   exact(hA (([r0-1,r1-1,r2-1].set r3.toNat 2)) (m) (p1+1+1+1+1+1) [.list (([.int (r0-1), .int (r1-1), .int (r2-1)]:List Tr).set r3.toNat (.int 2))] 0 (by show some (TO.list _)=_;rw[List.map_set];rfl) (Ie (by decide) (by decide) a3 b3 a0 b0 a1 b1 a2 b2) (by first|exact fun zz=>rfl|exact fun h=>absurd h (by decide)) u5.1 u5.2).get
  ·refine Dh (R:=[.list (rows.map AQ), .list (tags.map Bv), .list [.int (r0-1), .int (r1-1), .int (r2-1)]]) (hT 3 (p1+1+1+1) (w4 q3 rfl) (by decide)) fun r3 a3 b3=>⟨⟨a3,b3⟩, ?_⟩
   refine Dh (R:=[.list (rows.map AQ), .list (tags.map Bv), .list (([.int (r0-1), .int (r1-1), .int (r2-1)]:List Tr).set r3.toNat (.int 2))]) (hT 8 (p1+1+1+1+1) (w4 (up1 q3) rfl) (by decide)) fun m a4 b4=> ?_
   exact(hA ([-1,2,0]) ((if 1>m then 1 else m)) (p1+1+1+1+1+1) [.list (([.int (r0-1), .int (r1-1), .int (r2-1)]:List Tr).set r3.toNat (.int 2)), .list ([-1,2,0].map Tr.int)] 1 rfl ⟨rfl,by decide,by decide⟩ (by first|exact fun zz=>rfl|exact fun h=>absurd h (by decide)) u5.1 u5.2).get
  ·refine Dh (R:=[.list (rows.map AQ), .list (tags.map Bv), .list [.int (r0-1), .int (r1-1), .int (r2-1)]]) (hT 8 (p1+1+1+1) (w4 q3 rfl) (by decide)) fun m a4 b4=> ?_
   exact(hA ([r0-1,r1-1,r2-1]) (m) (p1+1+1+1+1) [.list (([.int (r0-1), .int (r1-1), .int (r2-1)]:List Tr))] 0 rfl (OI a0 b0 a1 b1 a2 b2) (by first|exact fun zz=>rfl|exact fun h=>absurd h (by decide)) u4.1 u4.2).get
  ·refine Dh (R:=[.list (rows.map AQ), .list (tags.map Bv), .list [.int (r0-1), .int (r1-1), .int (r2-1)]]) (hT 8 (p1+1+1+1) (w4 q3 rfl) (by decide)) fun m a4 b4=> ?_
   exact(hA ([-1,2,0]) (m) (p1+1+1+1+1) [.list (([.int (r0-1), .int (r1-1), .int (r2-1)]:List Tr)), .list ([-1,2,0].map Tr.int)] 1 rfl ⟨rfl,by decide,by decide⟩ (by first|exact fun zz=>rfl|exact fun h=>absurd h (by decide)) u4.1 u4.2).get
 ·rintro _ _ ⟨rows,tags,p1,rfl,rfl,h1,h2,hd⟩
  exact hQ _ _ ⟨⟨rows,tags⟩,rfl,hd.good,h1,by have h2:p1≤p+5*((0+3:Nat):Int):=h2;exact(l02 (Ha W0 (.a X1 (.p 5 (.c (.a Y0 Y3)))) (Ga W0 (.a X1 (.z 20)))) rfl h2)⟩
end
end
section
noncomputable def Hq(c:SC):Nat→Sc→List Tk→Option (Option (Sc×List Tk))
 |0,_,_=>none
 |f+1,s,acc=>if s.at_<c.cs.length then(match CM c s with
  |none=>some none
  |some (s',tk)=>Hq c f s' (acc++tk.toList))
  else if s.ended=true∨s.cond∉c.T.ends then some (some (s,acc++[(Dl,sNo)]))
  else Hq c f (EC c s).1 (acc++(EC c s).2.toList)
theorem DV{c:SC}{f:Nat}{s:Sc}{acc:List Tk}:Hq c (f+1) s acc=if s.at_<c.cs.length then(match CM c s with
 |none=>some none
 |some (s',tk)=>Hq c f s' (acc++tk.toList))
 else if s.ended=true∨s.cond∉c.T.ends then some (some (s,acc++[(Dl,sNo)]))
 else Hq c f (EC c s).1 (acc++(EC c s).2.toList):=rfl
theorem Ez{c:SC}{r:Option (Sc×List Tk)}:∀(f:Nat) (s:Sc) (acc:List Tk),Hq c f s acc=some r→GK c (r=none) (fun s tk=>r=some (s,tk)) f s acc
 |0,_,_,h=>by cases h
 |f+1,s,acc,h=>by
  rw[DV]at h
  show ite (s.at_<c.cs.length) _ _
  by_cases h1:s.at_<c.cs.length
  ·rw[if_pos h1]at h
   rw[if_pos h1]
   generalize CM c s=o at h
   rcases o with _|⟨s',_|tk⟩
   ·cases h;rfl
   ·exact Ez f s' acc (by rw[←h];exact congrArg _ (List.append_nil acc).symm)
   ·exact Ez f s' _ h
  ·rw[if_neg h1]at h
   rw[if_neg h1]
   by_cases h2:s.ended=true∨s.cond∉c.T.ends
   ·rw[if_pos h2]at h
    rw[if_pos h2]
    cases h;rfl
   ·rw[if_neg h2]at h
    rw[if_neg h2]
    generalize EC c s=o at h
    rcases o with⟨s',_|tk⟩
    ·exact Ez f s' acc (by rw[←h];exact congrArg _ (List.append_nil acc).symm)
    ·exact Ez f s' _ h
section
variable{c:SC}{s s':Sc}{tk:Option Tk}
theorem M9(o:ScO c)(hr:ScR c)(h:s.cond∈c.T.ends):(EC c s).1.at_=s.at_:=(E2 (i:=Ae c.T 3) (s:={s with cnt:=s.cnt+1,began:=s.at_}) (b:=s.at_) o.cl).at_.elim id fun e=>absurd e.1 (hr.he _ h).2
theorem KW{m a b:Int}(ht:∀x∈s.turns,TOk c.cs x)(h:TOk c.cs (m,a,b)):∀x∈s.turns++[(m,a,b)],TOk c.cs x:=fun x hx=>(List.mem_append.mp hx).elim (ht x) fun q=>List.mem_singleton.mp q▸h
structure MQ(c:SC)(s s':Sc):Prop where
 lt:s.at_<s'.at_
 le:s'.at_≤c.cs.length
 co:0≤s'.cond∧s'.cond<2
 en:s'.ended=s.ended
 ln:s'.turns.length=s.turns.length+1
 ok:(∀x∈s.turns,TOk c.cs x)→∀x∈s'.turns,TOk c.cs x
theorem MQ.of{s2:Sc}{b:Int}(hb:s2.at_=b)(a0:0≤s.at_)(m:Int)(hm:m<4)(h1:s.at_<b)(h2:b≤c.cs.length)(h3:0≤s2.cond∧s2.cond<2)(h4:s2.ended=s.ended)(e:s2.turns=s.turns++[(m,s.at_,b)]):MQ c s s2:=
 ⟨hb▸h1,hb▸h2,h3,h4,by rw[e,List.length_append];rfl,fun ht=>by rw[e];exact KW ht ⟨hm,a0,Int.le_of_lt h1,h2⟩⟩
theorem HF(o:ScO c)(a0:0≤s.at_)(hc:0≤s.cond∧s.cond<2)(ha:s.at_<c.cs.length)(e:CM c s=some (s',tk)):MQ c s s':=by
 have g:=o.hg (2*s.cond+CO c.cs s.at_).toNat
 have hm:=fun e m r=>Ff g (ns:=c.ns) (b:=s.at_) (e:=e) (m:=m) (r:=r) a0 (by rw[o.nl];exact Int.le_of_lt ha)
 unfold CM at e
 generalize DD (c.T.auts (2*s.cond+CO c.cs s.at_).toNat) c.ns s.at_=L at e hm
 cases L with
 |nil=>
  dsimp only at e
  split at e
  ·cases e;exact .of rfl a0 (-1) (by decide) (Int.lt_succ _) ha hc rfl rfl
  ·cases e
 |cons x L=>
  obtain⟨e1,m⟩:=x
  have m':=hm e1 m L rfl
  have p:=E2 (c:=c) (i:=Ae c.T m) (s:={s with cnt:=s.cnt+1,began:=s.at_,at_:=e1}) (b:=s.at_) o.cl
  cases e
  have p1:s.at_<(A7 c s e1 m).at_∧(A7 c s e1 m).at_≤c.cs.length:=p.at_.elim (fun h=>by rw[show(A7 c s e1 m).at_=e1 from h,←o.nl];exact⟨m'.1,m'.2.1⟩) fun h=>by rw[show(A7 c s e1 m).at_=s.at_+1 from h.2];exact⟨Int.lt_succ _,ha⟩
  exact .of rfl a0 m (Int.lt_trans m'.2.2.2.1 (by decide)) p1.1 p1.2 (p.co hc) p.en rfl
noncomputable def H3(c:SC)(f:Nat)(s:Sc)(acc:List Tk):Prop:=∃r,Hq c f s acc=some r∧∀s' tk,r=some (s',tk)→s'.turns.length≤s.turns.length+f∧∀x∈s'.turns,TOk c.cs x
theorem H3.stop{f:Nat}{acc:List Tk}(ha:¬s.at_<c.cs.length)(h:s.ended=true∨s.cond∉c.T.ends)(ht:∀x∈s.turns,TOk c.cs x):H3 c (f+1) s acc:=
 ⟨_,by rw[DV,if_neg ha,if_pos h],fun s' tk e=>by cases e;exact⟨Nat.le_add_right _ _,ht⟩⟩
theorem H3.next{f:Nat}{acc acc':List Tk}(e:Hq c (f+1) s acc=Hq c f s' acc')(l:s'.turns.length=s.turns.length+1)(h:H3 c f s' acc'):H3 c (f+1) s acc:=by
 obtain⟨r,h1,h2⟩:=h
 exact⟨r,e.trans h1,fun s' tk q=>⟨by have:=(h2 s' tk q).1;exact(l40 (Hc W0 (.a X1 Y1) (Hb X2 (.a W0 X3) (Gb X2 (.a X1 (.a X3 Y1))))) rfl l this),(h2 s' tk q).2⟩⟩
theorem Mn(o:ScO c)(hr:ScR c)(i:Nat):∀{s:Sc}{acc:List Tk},s.at_=c.cs.length→(∀x∈s.turns,TOk c.cs x)→(i=0→s.ended=true)→(i=1→Ae c.T 3=4→s.cond=1)→(i=1→Ae c.T 3=5→s.cond=0)→i<3→H3 c (i+1) s acc:=by
 induction i with
 |zero=>exact fun ha ht h0 zz zz zz=> .stop (by exact l11 (Hf W0 (.c W0) (.G .inlt 1 W0 (.c W0))) rfl ha) (.inl (h0 rfl)) ht
 |succ i ih=>
  intro s acc ha ht h0 h4 h5 hi
  by_cases h1:s.ended=true∨s.cond∉c.T.ends
  ·exact .stop (by exact l11 (Hf W0 (.c W0) (.G .inlt 1 W0 (.c W0))) rfl ha) h1 ht
  ·have hb:s.cond∈c.T.ends:=Decidable.not_not.mp fun q=>h1 (.inr q)
   have ha2:=M9 o hr hb
   refine .next (s':=(EC c s).1) (by rw[DV,if_neg (by exact l11 (Hf W0 (.c W0) (.G .inlt 1 W0 (.c W0))) rfl ha),if_neg h1]) (by show(s.turns++[_]).length=_;rw[List.length_append];rfl) (ih (ha2.trans ha) (KW ht ⟨(by decide:(3:Int)<4),by rw[ha];exact Int.natCast_nonneg _,Int.le_refl _,Int.le_of_eq ha⟩) (fun e=> ?_) (fun zz e=> ?_) (fun zz e=> ?_) (by exact l10 (Hg (.a W0 Y1) Y3 (Gc W0 Y3)) rfl hi))
   ·subst e
    have h4:=h4 rfl
    have h5:=h5 rfl
    show((Ec c s).cond==s.cond)=true
    unfold Ec
    generalize Ae c.T 3=j at h4 h5
    unfold Bo
    split
    ·exact beq_self_eq_true _
    ·exact beq_self_eq_true _
    ·exact beq_iff_eq.mpr (h4 rfl).symm
    ·exact beq_iff_eq.mpr (h5 rfl).symm
    ·exact beq_self_eq_true _
   ·show(Bo c (Ae c.T 3) _ _).cond=1;rw[e];rfl
   ·show(Bo c (Ae c.T 3) _ _).cond=0;rw[e];rfl
theorem WX(o:ScO c)(hr:ScR c)(n:Nat):∀{s:Sc}{acc:List Tk},0≤s.at_→0≤s.cond∧s.cond<2→s.at_≤c.cs.length→(c.cs.length:Int)≤s.at_+n→(∀x∈s.turns,TOk c.cs x)→∃f,f≤n+3∧H3 c f s acc:=by
 induction n with
 |zero=>exact fun a0 hc a1 hn ht=>⟨3,Nat.le_add_left _ _,Mn o hr 2 (by exact(Int.le_antisymm a1 (l11 (Ha (.c W0) (.a W0 (.c Y0)) (Ga (.c W0) W0)) rfl hn))) ht (fun h=>absurd h (by decide)) (fun h=>absurd h (by decide)) (fun h=>absurd h (by decide)) (by decide)⟩
 |succ n ih=>
  intro s acc a0 hc a1 hn ht
  by_cases ha:s.at_<c.cs.length
  ·cases e:CM c s with
   |none=>exact⟨1,Nat.le_add_left 1 (n+3),none,by rw[DV,if_pos ha,e],fun zz zz h=>by cases h⟩
   |some p=>
    obtain⟨s',tk⟩:=p
    have t:=HF o a0 hc ha e
    have hx:(c.cs.length:Int)≤s'.at_+n:=by have:=t.lt;clear ih o hr e t;exact(l22 (Ha (.c W0) (.a W0 (.c (.a X1 Y1))) (Hh W0 X1 (Ga (.c W0) (.a X1 (.c X1))))) rfl hn this)
    exact(ih (s:=s') (acc:=acc++tk.toList) (Int.le_trans a0 (Int.le_of_lt t.lt)) t.co t.le hx (t.ok ht)).elim fun f h=>⟨f+1,Nat.succ_le_succ h.1, .next (by rw[DV,if_pos ha,e]) t.ln h.2⟩
  ·exact⟨3,Nat.le_add_left _ _,Mn o hr 2 (Int.le_antisymm a1 (Int.not_lt.mp ha)) ht (fun h=>absurd h (by decide)) (fun h=>absurd h (by decide)) (fun h=>absurd h (by decide)) (by decide)⟩
end
theorem Il{A:Aut}:∀r:List Int,r.foldl (AR A) (-1)= -1
 |[]=>rfl
 |c::r=>by rw[List.foldl_cons,AR,if_pos rfl];exact Il r
theorem IV{A:Aut}:Bj A (-1)=[]:=if_pos rfl
theorem FR{A:Aut}:∀(r:List Int){e q:Int},(∀n,n<r.length→Bj A ((r.take (n+1)).foldl (AR A) q)=[])→EB A r e q=[]
 |[],_,_,_=>rfl
 |c::r,e,q,h=>by
  have h1:Bj A (AR A q c)=[]:=h 0 (Nat.succ_pos _)
  rw[J7]
  rw[h1,if_pos (show(([]:List Nat).isEmpty=true)from rfl),FR r fun n h3=>h (n+1) (Nat.succ_lt_succ h3)]
  exact ite_self _
theorem Ic{A:Aut}:∀(r:List Int) (e q:Int) (n:Nat) (t:List Nat),n<r.length→Bj A ((r.take (n+1)).foldl (AR A) q)=t→t≠[]→(∀m,n<m→m<r.length→Bj A ((r.take (m+1)).foldl (AR A) q)=[])→∃L,EB A r e q=L++[(e+(n+1:Nat),t)]
 |[],_,_,n,_,h2,_,_,_=>absurd h2 (Nat.not_lt_zero _)
 |c::r,e,q,n,t,h2,h3,h4,h5=>by
  have nd:AR A q c≠-1:=fun e1=>h4 (by
   rw[←h3,List.take_succ_cons,List.foldl_cons,e1,Il,IV])
  rw[J7]
  rw[if_neg nd]
  cases n with
  |zero=>
   have h3:Bj A (AR A q c)=t:=h3
   rw[FR r fun m h7=>h5 (m+1) (Nat.succ_pos _) (Nat.succ_lt_succ h7),h3,if_neg fun h=>h4 (List.isEmpty_iff.mp h)]
   exact⟨[],rfl⟩
  |succ n=>
   obtain⟨L,hL⟩:=Ic r (e+1) (AR A q c) n t (Nat.lt_of_succ_lt_succ h2) h3 h4 fun m h6 h7=>h5 (m+1) (Nat.succ_lt_succ h6) (Nat.succ_lt_succ h7)
   rw[hL,show e+1+((n+1:Nat):Int)=e+((n+1+1:Nat):Int) by exact l11 (Ge (.a (.a W0 Z1) (.c (.a W0 Y1))) (.a W0 (.c (.a (.a W0 Y1) Y1)))) rfl]
   split
   ·exact⟨L,rfl⟩
   ·exact⟨_::L,rfl⟩
noncomputable def Bg(A:Aut)(ns:List Int)(b:Int)(j:Nat):List Nat:=Bj A (IJ A ((ns.drop b.toNat).take (j-b.toNat)))
theorem Of{A:Aut}{ns:List Int}{b:Int}(h:∀j:Nat,b<j→j≤ns.length→Bg A ns b j=[])(h0:0≤b):DD A ns b=[]:=by
 unfold DD
 rw[FR _ fun n h2=> ?_]
 ·rfl
 rw[List.length_drop]at h2
 have:=h (b.toNat+(n+1)) (by exact l21 (.P 1 1 (Hf (.c W0) W0 (Gd W0 (.c (.a W0 (.a X1 Y1)))))) rfl (Int.toNat_of_nonneg h0)) (by exact(Nat.le_total _ _).elim (fun x3'=>l40 (Hg W0 X1 (Hc (.a X1 X2) X3 (Gb (.a X2 (.a W0 Y1)) X3))) rfl h2 (Nat.sub_add_cancel (x3'))) (fun x3'=>l40 (.P 0 1 (Hg W0 X1 (Hc X1 Y0 (.G .nle 0 (.a X2 (.a W0 Y1)) X3)))) rfl h2 (Nat.sub_eq_zero_of_le x3')))
 rw[Bg,Nat.add_sub_cancel_left]at this
 exact this
theorem Od{A:Aut}{ns:List Int}{b:Int}{n x:Nat}{t:List Nat}(h0:0≤b)(h1:b<n)(h2:n≤ns.length)(h3:Bg A ns b n=x::t)(h4:∀j:Nat,n<j→j≤ns.length→Bg A ns b j=[]):DD A ns b=[((n:Int),Int.ofNat x)]:=by
 obtain⟨m,rfl⟩:∃m,n=b.toNat+(m+1):=⟨n-b.toNat-1,by omega⟩
 rw[Bg,Nat.add_sub_cancel_left]at h3
 obtain⟨L,hL⟩:=Ic (ns.drop b.toNat) b 0 m _ (by rw[List.length_drop];exact(l40 (Hb (.a W0 (.a X1 Y1)) X2 (Hd (.a X3 W0) X2 (Gc X1 X3))) rfl h2 (Nat.sub_add_cancel (l30 (.P 1 1 (Hb (.a W0 (.a X1 Y1)) X2 (Gb W0 X2))) rfl h2)))) h3 (by intro xx;contradiction) fun m' h6 h7=>by
  rw[List.length_drop]at h7
  have:=h4 (b.toNat+(m'+1)) (by exact l30 (Hg W0 X1 (Gc (.a X2 (.a W0 Y1)) (.a X2 (.a X1 Y1)))) rfl h6) (by exact l40 (Hg W0 X1 (Hc (.a X1 X2) X3 (Gb (.a X2 (.a W0 Y1)) X3))) rfl h7 (Nat.sub_add_cancel (l30 (.P 1 1 (Hb (.a W0 (.a X1 Y1)) X2 (Gb W0 X2))) rfl h2)))
  rw[Bg,Nat.add_sub_cancel_left]at this
  exact this
 unfold DD
 rw[hL,List.reverse_append,show((b.toNat+(m+1):Nat):Int)=b+((m+1:Nat):Int) by exact l21 (He (.c W0) W0 (Ge (.c (.a W0 (.a X1 Y1))) (.a W0 (.c (.a X1 Y1))))) rfl (Int.toNat_of_nonneg h0)]
 rfl
end
section
noncomputable def H9:Sts→Sts
 | .c (.whl _ b) _=>b
 |_=> .n
noncomputable def vAs(a:Nat→Aut):Tr:= .fl [CN (a 0),CN (a 1),CN (a 2),CN (a 3)]
noncomputable def ρW(T:BA)(cs:List Nat)(at_ st:Int)(R:Rho):Rho:=[(AH, .t (vAs T.auts)),(AY, .t (.fl (T.rules.map fun p=>AT p.2))),(Bw, .t (.fd T.ends (T.ends.map fun zz=> .int 3))),(AF,vb T.dflt),(AK,vs (txt cs)),(BM, .ref 0),(BE, .ref 1),(xat,vi at_),(AG,vi st)]++R
noncomputable def lW(cs:List Nat)(tk:List Tk)(tn:List (Int×Int×Int))(N:LH):LH:=[.list (tk.map vTk), .list ((tn.map (Dk cs)).map Tr.str)]++N
theorem Gn{a:Nat→Aut}{k:Int}(hk:0≤k∧k<4):CW [CN (a 0),CN (a 1),CN (a 2),CN (a 3)] k=some (CN (a k.toNat)):=by
 obtain⟨n,rfl⟩:=Int.eq_ofNat_of_zero_le hk.1
 have:n=0∨n=1∨n=2∨n=3:=by lia
 rcases this with rfl|rfl|rfl|rfl<;>rfl
theorem Mq{c:Nat}(h:c=97∨c=98∨c=10∨c=99):Oj [⟨⟨[97]⟩⟩,⟨⟨[98]⟩⟩,⟨⟨[10]⟩⟩,⟨⟨[99]⟩⟩] [.int 1, .int 2, .int 0, .int 0] ⟨#[c]⟩=some (.int (DN c)):=by
 rcases h with rfl|rfl|rfl|rfl<;>rfl
theorem Li{cs:List Nat}{i n:Nat}:((Ab cs).drop i).take n=Ab ((cs.drop i).take n):=by
 unfold Ab;rw[List.map_take,List.map_drop]
theorem Mo{cs:List Nat}:∀x∈Ab cs,0≤x∧x<3:=fun x hx=>by
 obtain⟨c,_,rfl⟩:=List.mem_map.mp hx
 exact Ph
noncomputable def slT(cs:List Nat)(b:Int)(j:Nat):Tr:= .fl (((cs.drop b.toNat).take (j-b.toNat)).map fun c:Nat=>Tr.int (DN c))
theorem aw{k:Nat}{X:Prop}{cs:List Nat}{A:Aut}{b:Int}{j:Nat}(g:An A):Ret (AC (k+1) X) 917 [.t (CN A), .t (slT cs b j)] (Bv (Bg A (Ab cs) b j)):=by
 have h:=cK (k:=k) (X:=X) g (.inl rfl) (Mo (cs:=(cs.drop b.toNat).take (j-b.toNat)))
 rw[Bg,Li,slT]
 rw[Ab,List.map_map]at h
 exact h
noncomputable def MS(A:Aut)(cs:List Nat)(b:Int)(j:Nat):Prop:=b≤j∧j≤cs.length∧∀i:Nat,j<i→i≤cs.length→Bg A (Ab cs) b i=[]
section
variable{k:Nat}{X x:Prop}{T:BA}{cs:List Nat}{b st key:Int}{tk:List Tk}{tn:List (Int×Int×Int)}{Q:QS}{K K0:KT'}
theorem Vp(h917:∀j,Ret K 917 [.t (CN (T.auts key.toNat)), .t (slT cs b j)] (Bv (Bg (T.auts key.toNat) (Ab cs) b j)))(hk:0≤key∧key<4)(cl:cs.length≤100)(cg:∀c∈cs,c=97∨c=98∨c=10∨c=99)(h0:0≤b)
 (hs:b≤cs.length)(hQ:∀j,MS (T.auts key.toNat) cs b j→(b=j∨Bg (T.auts key.toNat) (Ab cs) b j≠[])→wss (Ad 3 (H9 (Ad 3 DB))) ⟨K,K0,x⟩ (ρW T cs b st [(Aw,vi key),(CS,vi j)]) Q (lW cs tk tn [])):
 A4 (wss (Ad 2 (H9 (Ad 3 DB))) ⟨K,K0,x⟩ (ρW T cs b st [(Aw,vi key),(CS,vi cs.length)]) Q (lW cs tk tn [])):=by
 constructor
 have ha:=Gn (a:=T.auts) hk
 refine EO (σ:=Nat) (fun j=>ρW T cs b st [(Aw,vi key),(CS,vi j)]) (fun zz=>lW cs tk tn []) (fun m j=>m=j∧MS (T.auts key.toNat) cs b j) cs.length cs.length ⟨rfl,hs,Nat.le_refl _,fun i h1 h2=>absurd h1 (Nat.not_lt.mpr h2)⟩ ?_
 rintro m _ ⟨rfl,h1,h2,h3⟩ Z hZ _ _
 generalize T.auts key.toNat=A at h917 ha h3 hZ hQ
 refine Br (fun h4=> ?_) fun h4=> ?_
 ·refine AD ha ⟨Nat.le_trans cl (by decide),h0,h1,Int.ofNat_le.mpr h2,Nat.le_trans (Eu (cs:=cs)) (Nat.le_trans cl (by decide)), ?_⟩
  refine C4 (f:=fun c:Nat=>Tr.str ⟨#[c]⟩) (g:=fun c:Nat=>Tr.int (DN c)) ((cs.drop b.toNat).take (m-b.toNat)) (fun c hc yes zz z=> ?_) ?_
  ·exact AD (Mq (cg c (List.mem_of_mem_drop (List.mem_of_mem_take hc)))) (z _ rfl)
  refine Al (h917 m) rfl (Or.inl ⟨rfl, ?_⟩)
  rw[List.isEmpty_map]
  refine A6 (fun e=> ?_) fun e=> ?_
  ·refine(hZ (m-1) (m-1) (by exact l20 (Hc (.a W0 Y1) X1 (Gc W0 X1)) rfl (Nat.sub_add_cancel (l11 (Ha Z0 W0 (Hh W0 (.c W0) (Gb Y1 W0))) rfl h0 h4))) ⟨rfl,by exact(Nat.le_total _ _).elim (fun x3'=>l21 (Hh W0 (.c W0) (Hd (.a X1 Y1) W0 (Ga W0 (.c X1)))) rfl h4 (Nat.sub_add_cancel (x3'))) (fun x3'=>l21 (Hh W0 (.c W0) (Hb W0 Y1 (Hd X1 Y0 (Ga W0 (.c X1))))) rfl h4 x3' (Nat.sub_eq_zero_of_le x3')),by exact l30 (Hb W0 X1 (Hc (.a X2 Y1) W0 (Gb X2 X1))) rfl h2 (Nat.sub_add_cancel (l11 (Ha Z0 W0 (Hh W0 (.c W0) (Gb Y1 W0))) rfl h0 h4)),fun i h5 h6=> ?_⟩ _ _ ?_ rfl).1
   ·by_cases q:i=m
    ·rw[q];exact List.isEmpty_iff.mp e
    ·exact h3 i (by lia) h6
   ·exact congrArg (fun i=>ρW T cs b st [(Aw,vi key),(CS,vi i)]) (by exact(l20 (Hd (.a W0 Y1) X1 (Ge (.s (.c X1) Z1) (.c W0))) rfl (Nat.sub_add_cancel (l11 (Ha Z0 W0 (Hh W0 (.c W0) (Gb Y1 W0))) rfl h0 h4))):(m:Int)-1=((m-1:Nat):Int))
  ·exact hQ m ⟨h1,h2,h3⟩ (.inr fun q=>by rw[q]at e;cases e)
 ·exact hQ m ⟨h1,h2,h3⟩ (.inl (by exact(Int.le_antisymm h1 (l11 (.H .inlt 1 W0 (.c W0) (Ga (.c W0) W0)) rfl h4))))
noncomputable def Q3(tx:Int→Str)(b:Int)(s:Int×Int×List Tk)(p:Str×Tr):Int×Int×List Tk:=match p.2 with
 | .int _=>(b+1,s.2)
 | .str w=>bif C5 p.1 Dt then(s.1,(bif C5 w sA then 1 else 0),s.2.2)else(s.1,s.2.1,s.2.2++[(w,tx s.1)])
 |_=>s
inductive FM:Str×Tr→Prop where
 |echo:FM (Na, .none)
 |ret (w:Str):FM (GT, .str w)
 |less:FM (NZ, .int 1)
 |bA:FM (Dt, .str sA)
 |bI:FM (Dt, .str GA)
theorem UX(i:Nat):∀p∈Ck i,FM p:=by
 have two:∀{a b p:Str×Tr},FM a→FM b→p∈[a,b]→FM p:=fun ha hb h=>(List.mem_cons.mp h).elim (fun e=>e▸ha) fun h=>List.mem_singleton.mp h▸hb
 unfold Ck
 split
 ·exact fun p h=>List.mem_singleton.mp h▸ .echo
 ·exact fun p h=>List.mem_singleton.mp h▸ .ret _
 ·exact fun p h=>two .less (.ret _) h
 ·exact fun p h=>List.mem_singleton.mp h▸ .bA
 ·exact fun p h=>two .bI (.ret _) h
 ·exact fun p h=>absurd h List.not_mem_nil
theorem IY(i:Nat):(Ck i).length≤2:=by unfold Ck;split<;>decide
theorem IX{c:SC}{i:Nat}{s:Sc}{tx:Int→Str}(hi:i<6):(Ck i).foldl (Q3 tx b) (s.at_,s.cond,tk)=((Bo c i s b).at_,(Bo c i s b).cond,tk++(D2 (DM i) (tx (Bo c i s b).at_)).toList):=by
 have:i=0∨i=1∨i=2∨i=3∨i=4∨i=5:=by lia
 clear hi
 rcases this with rfl|rfl|rfl|rfl|rfl|rfl
 ·exact congrArg (fun l=>(s.at_,s.cond,l)) (List.append_nil tk).symm
 ·exact congrArg (fun l=>(s.at_,s.cond,l)) (List.append_nil tk).symm
 ·rfl
 ·rfl
 ·exact congrArg (fun l=>(s.at_,(1:Int),l)) (List.append_nil tk).symm
 ·rfl
theorem cU:Hy [GA,sA] sA 1:=⟨rfl,fun m hm=>by cases Nat.lt_one_iff.mp hm;decide⟩
theorem cT:Hy [GA,sA] GA 0:=⟨rfl,fun m hm=>absurd hm (Nat.not_lt_zero _)⟩
theorem QU(t:Tk)(N:LH): .list (tk.map vTk++[vTk t]):: .list ((tn.map (Dk cs)).map Tr.str)::N=lW cs (tk++[t]) tn N:=by rw[lW,List.map_append];rfl
theorem Vq{i:Nat}{m:Int}{s1:Sc}(cl:cs.length≤100)(hm:0≤m)(hi:T.rules[m.toNat]? =some (m,i))(hi6:i<6)(h0:0≤b)(h1:b<s1.at_)(h2:s1.at_≤cs.length)(ht:tk.length≤1000)
 (hQ:wss (Ad 8 (H9 (Ad 3 DB))) ⟨K,K0,x⟩ (ρW T cs (Bo ⟨cs,T,Ab cs⟩ i s1 b).at_ (Bo ⟨cs,T,Ab cs⟩ i s1 b).cond [(Aw,vi key),(CS,vi s1.at_),(DZ,vi b),(AB,vi m)]) Q (lW cs (tk++(D2 (DM i) (CZ (txt cs) b.toNat (Bo ⟨cs,T,Ab cs⟩ i s1 b).at_.toNat)).toList) tn [.gone])):
 A4 (wss (Ad 7 (H9 (Ad 3 DB))) ⟨K,K0,x⟩ (ρW T cs s1.at_ s1.cond [(Aw,vi key),(CS,vi s1.at_),(DZ,vi b),(AB,vi m)]) Q (lW cs tk tn [.gone])):=by
 constructor
 have hl:(txt cs).length≤1048576:=Nat.le_trans cl (by decide)
 have sp:=UX i
 have sl:=IY i
 have e:=IX (c:=⟨cs,T,Ab cs⟩) (s:=s1) (b:=b) (tk:=tk) (tx:=fun a=>CZ (txt cs) b.toNat a.toNat) hi6
 refine AD (AN (f:=fun p:Int×Nat=>AT p.2) hm hi) ?_
 clear hi hi6
 generalize(s1.at_)=a1 at h1 h2 hQ e
 refine Ag (f:=NX) (fun s:Int×Int×List Tk=>ρW T cs s.1 s.2.1 [(Aw,vi key),(CS,vi a1),(DZ,vi b),(AB,vi m)]) (fun s=>lW cs s.2.2 tn [.gone]) (Q3 (fun a=>CZ (txt cs) b.toNat a.toNat) b) (fun i s=>b<s.1∧s.1≤cs.length∧s.2.2.length≤1000+i) (Ck i) (a1,s1.cond,tk) ⟨h1,h2,ht⟩ (fun i s p hp h Z hZ=> ?_) fun zz=> ?_
 ·obtain⟨a,st,tk⟩:=s
  obtain⟨h3,h4,h5⟩:=h
  dsimp only at h3 h4 h5
  have B:(tk.map vTk).length+1≤1048576:=by rw[List.length_map];have:=Au hp;clear sp hZ e hQ;exact(l30 (Hb W0 Y2 (Hb X1 (.a (.n 1000) X2) (Hg X2 W0 (Gb (.a X1 Y1) Yb)))) rfl sl h5 this)
  have sp:=sp p (List.mem_of_getElem? hp)
  clear hp e hQ
  cases sp with
  |echo=>exact(hZ ⟨h3,h4,Nat.le_succ_of_le h5⟩ _ _ rfl rfl).1
  |ret w=>
   refine⟨hl,h0,Int.le_of_lt h3,h4,B,(hZ ⟨h3,h4,by show(tk++[_]).length≤_;rw[List.length_append];exact Nat.succ_le_succ h5⟩ _ _ rfl ?_).1⟩
   exact QU (tk:=tk) (w,CZ (txt cs) b.toNat a.toNat) [.gone]
  |less=>exact(hZ ⟨Int.lt_succ b,Int.le_trans h3 h4,Nat.le_succ_of_le h5⟩ _ _ rfl rfl).1
  |bA=>exact⟨_,1,rfl,cU,(hZ ⟨h3,h4,Nat.le_succ_of_le h5⟩ _ _ rfl rfl).1⟩
  |bI=>exact⟨_,0,rfl,cT,(hZ ⟨h3,h4,Nat.le_succ_of_le h5⟩ _ _ rfl rfl).1⟩
 ·rw[e];exact hQ
end
end
section
noncomputable def Xn(cs:List Nat):Option (Sc×List Tk)→Tr
 |none=> .str HH
 |some (s,tk)=> .tup [.fl (tk.map vTk), .fl ((C6 cs s.turns).map Tr.str)]
theorem PD{x:Str}{i:Nat}:CZ x i i=sNo:=by unfold CZ;rw[Nat.sub_self];rfl
section
variable{k:Nat}{X x:Prop}{T:BA}{cs:List Nat}{b st key bef:Int}{tk:List Tk}{tn:List (Int×Int×Int)}{Q:QS}{K K0:KT'}
theorem Yh{i:Nat}{a:Int}{s1:Sc}{c:SC}(hi:T.rules[3]? =some (3,i))(hi6:i<6)(ht:tk.length≤1000)
 (hQ:wss (Ad 3 (H9 (Ad 5 DB))) ⟨K,K0,x⟩ (ρW T cs a (Bo c i s1 b).cond [(Az,vi bef)]) Q (lW cs (tk++(D2 (DM i) sNo).toList) tn [])):
 A4 (wss (Ad 2 (H9 (Ad 5 DB))) ⟨K,K0,x⟩ (ρW T cs a s1.cond [(Az,vi bef)]) Q (lW cs tk tn [])):=by
 constructor
 have sp:=UX i
 have sl:=IY i
 have e:=IX (c:=c) (s:=s1) (b:=b) (tk:=tk) (tx:=fun a=>sNo) hi6
 refine AD (AN (f:=fun p:Int×Nat=>AT p.2) (k:=3) (by decide) hi) ?_
 clear hi hi6
 refine Ag (f:=NX) (fun s:Int×Int×List Tk=>ρW T cs a s.2.1 [(Az,vi bef)]) (fun s=>lW cs s.2.2 tn []) (Q3 (fun a=>sNo) b) (fun i s=>s.2.2.length≤1000+i) (Ck i) (s1.at_,s1.cond,tk) ht (fun i s p hp h5 Z hZ=> ?_) fun zz=> ?_
 ·obtain⟨a2,st,tk⟩:=s
  dsimp only at h5
  have B:(tk.map vTk).length+1≤1048576:=by rw[List.length_map];have:=Au hp;clear sp hZ e hQ;exact(l30 (Hb W0 Y2 (Hb X1 (.a (.n 1000) X2) (Hg X2 W0 (Gb (.a X1 Y1) Yb)))) rfl sl h5 this)
  have sp:=sp p (List.mem_of_getElem? hp)
  clear hp e hQ
  cases sp with
  |echo=>exact(hZ (Nat.le_succ_of_le h5) _ _ rfl rfl).1
  |ret w=>
   refine⟨B,(hZ (by show(tk++[_]).length≤_;rw[List.length_append];exact Nat.succ_le_succ h5) _ _ rfl ?_).1⟩
   exact QU (tk:=tk) (w,sNo) []
  |less=>exact(hZ (Nat.le_succ_of_le h5) _ _ rfl rfl).1
  |bA=>exact⟨_,1,rfl,cU,(hZ (Nat.le_succ_of_le h5) _ _ rfl rfl).1⟩
  |bI=>exact⟨_,0,rfl,cT,(hZ (Nat.le_succ_of_le h5) _ _ rfl rfl).1⟩
 ·rw[e];exact hQ
structure WI(c:SC)(r:Option (Sc×List Tk))(m:Nat)(s:Sc)(tk:List Tk):Prop where
 a0:0≤s.at_
 a1:s.at_≤c.cs.length
 c0:0≤s.cond∧s.cond<2
 en:s.ended=false
 run:Hq c m s tk=some r
 n1:tk.length+m≤500
 n2:s.turns.length+m≤500
theorem MZ{α:Type}(o:Option α):o.toList.length≤1:=by cases o;exact Nat.zero_le 1;exact Nat.le_refl 1
theorem WI.turn{c:SC}{r:Option (Sc×List Tk)}{m:Nat}{s s':Sc}{t:Option Tk}(o:ScO c)(v:WI c r (m+1) s tk)(ha:s.at_<c.cs.length)(e:CM c s=some (s',t)):WI c r m s' (tk++t.toList):=by
 have h:=HF o v.a0 v.c0 ha e
 have run:=v.run
 rw[DV,if_pos ha,e]at run
 refine⟨Int.le_trans v.a0 (Int.le_of_lt h.lt),h.le,h.co,h.en.trans v.en,run, ?_, ?_⟩
 ·have:=v.n1;have:=MZ t;rw[List.length_append];clear run h v;exact(l30 (Hb (.a W0 (.a X1 Y1)) (.n 500) (Hb X2 Y1 (Gb (.a (.a W0 X2) X1) (.n 500)))) rfl (by assumption) this)
 ·have:=v.n2;rw[h.ln];clear run h v;exact(l20 (Hb (.a W0 (.a X1 Y1)) (.n 500) (Gb (.a (.a W0 Y1) X1) (.n 500))) rfl this)
theorem WI.fail{c:SC}{r:Option (Sc×List Tk)}{m:Nat}{s:Sc}(v:WI c r (m+1) s tk)(ha:s.at_<c.cs.length)(e:CM c s=none):r=none:=by
 have run:=v.run
 rw[DV,if_pos ha,e]at run
 exact(Option.some.inj run).symm
noncomputable def dfS(c:SC)(s:Sc):Sc:={s with cnt:=s.cnt+1,began:=s.at_,at_:=s.at_+1,ech:=s.ech++CZ (txt c.cs) s.at_.toNat (s.at_+1).toNat,turns:=s.turns++[(-1,s.at_,s.at_+1)]}
theorem O1{c:SC}{s:Sc}{A:Aut}(hA:c.T.auts (2*s.cond+CO c.cs s.at_).toNat=A)(h:DD A c.ns s.at_=[]):CM c s=if c.T.dflt=true then some (dfS c s,none)else none:=by
 unfold CM;rw[hA,h];rfl
theorem O0{c:SC}{s:Sc}{A:Aut}{e m:Int}(hA:c.T.auts (2*s.cond+CO c.cs s.at_).toNat=A)(h:DD A c.ns s.at_=[(e,m)]):CM c s=some ({A7 c s e m with turns:=s.turns++[(m,s.at_,(A7 c s e m).at_)]},D2 (DM (Ae c.T m)) (CZ (txt c.cs) s.at_.toNat (A7 c s e m).at_.toNat)):=by
 unfold CM;rw[hA,h]
theorem Q9{u:Str}{y:Int×Int×Int}(N:LH)(e:Dk cs y=u): .list (tk.map vTk):: .list ((tn.map (Dk cs)).map Tr.str++[.str u])::N=lW cs tk (tn++[y]) N:=by
 subst e;rw[lW,List.map_append,List.map_append];rfl
theorem Vo{m:Nat}{s:Sc}{r:Option (Sc×List Tk)}(o:ScO ⟨cs,T,Ab cs⟩)(hr:ScR ⟨cs,T,Ab cs⟩)(cg:∀c∈cs,c=97∨c=98∨c=10∨c=99)(h917:∀A j,An A→Ret K 917 [.t (CN A), .t (slT cs s.at_ j)] (Bv (Bg A (Ab cs) s.at_ j)))
 (v:WI ⟨cs,T,Ab cs⟩ r (m+1) s tk)(ha:s.at_<cs.length)(hret:r=none→∀ρ' L',Q (.ret (.t (.str HH))) ρ' L')
 (hZ:∀s' tk',WI ⟨cs,T,Ab cs⟩ r m s' tk'→∀ρ₂ L₂,Cy (ρW T cs 0 0 []) 2 ρ₂=ρW T cs s'.at_ s'.cond []→cut 2 L₂=lW cs tk' s'.turns []→Q .next ρ₂ L₂∧Q .cont ρ₂ L₂):
 A4 (wss (Ad 1 (H9 (Ad 3 DB))) ⟨K,K0,x⟩ (ρW T cs s.at_ s.cond [(Aw,vi (2*s.cond+CO cs s.at_))]) Q (lW cs tk s.turns [])):=by
 constructor
 have cl:cs.length≤100:=o.cl
 have hl:(txt cs).length≤1048576:=Nat.le_trans cl (by decide)
 have hbg:=NH (c:=⟨cs,T,Ab cs⟩) (b:=s.at_)
 have hk:0≤2*s.cond+CO cs s.at_∧2*s.cond+CO cs s.at_<4:=by have:=v.c0;dsimp only at hbg;exact(⟨l02 (Ha Z0 W0 (.H .ile 2 Z0 X1 (Ga Z0 (.a (.p 2 X1) W0)))) rfl hbg.1 this.1,l02 (Hh W0 U2 (.H .ilt 2 X1 U2 (Gd (.a (.p 2 X1) W0) (.z 4)))) rfl hbg.2 this.2⟩)
 have g:=o.hg (2*s.cond+CO cs s.at_).toNat
 have hnl:(Ab cs).length=cs.length:=o.nl
 suffices h:∀j,MS (T.auts (2*s.cond+CO cs s.at_).toNat) cs s.at_ j→(s.at_=j∨Bg (T.auts (2*s.cond+CO cs s.at_).toNat) (Ab cs) s.at_ j≠[])→wss (Ad 3 (H9 (Ad 3 DB))) ⟨K,K0,x⟩ (ρW T cs s.at_ s.cond [(Aw,vi (2*s.cond+CO cs s.at_)),(CS,vi j)]) Q (lW cs tk s.turns []) by
  refine⟨hl, ?_⟩
  have hh:= @Vp x T cs s.at_ s.cond (2*s.cond+CO cs s.at_) tk s.turns Q K K0 (fun j=>h917 _ j g) hk cl cg v.a0 v.a1 h
  cases hh;assumption
 intro j hj hb
 have hs:=Gn (a:=T.auts) hk
 refine hid fun Gg gg=> ?_
 obtain⟨A,hA⟩:∃A,T.auts (2*s.cond+CO cs s.at_).toNat=A:=⟨_,rfl⟩
 refine gg ?_
 rw[hA]at g hs hj hb
 have df:=O1 (c:=⟨cs,T,Ab cs⟩) (s:=s) hA
 have so:=fun e m=>O0 (c:=⟨cs,T,Ab cs⟩) (s:=s) (e:=e) (m:=m) hA
 clear hA hbg
 generalize 2*s.cond+CO cs s.at_=key at hs hk
 have B:((s.turns.map (Dk cs)).map Tr.str).length+1≤1048576:=by have:=v.n2;rw[List.length_map,List.length_map];exact(l20 (.P 1 1 (Hb (.a W0 (.a X1 Y1)) (.n 500) (Gb (.a W0 Y1) Yb))) rfl this)
 have a0:=v.a0
 refine hid fun Gg gg=> ?_
 obtain⟨j1,j2,j3⟩:=hj
 refine gg ?_
 have j3':∀i:Nat,j<i→i≤(Ab cs).length→Bg A (Ab cs) s.at_ i=[]:=fun i h1 h2=>j3 i h1 (hnl▸h2)
 refine C3 (fun e=> ?_) fun e=> ?_
 ·have df:=df (Of (fun i h1 h2=>j3' i (Int.ofNat_lt.mp (e▸h1)) h2) a0)
  refine Cf (fun hd=> ?_) fun hd=> ?_
  ·rw[hd]at df
   exact hret (v.fail ha df) _ _
  ·rw[if_pos hd]at df
   have w:=v.turn o ha df
   rw[Option.toList_none,List.append_nil]at w
   have hpl:=Eu (cs:=cs) (i:=s.at_.toNat) (j:=(s.at_+1).toNat)
   refine⟨hl,a0,Int.le_of_lt (Int.lt_succ _),ha, ?_, ?_,B,(hZ _ _ w _ _ rfl ?_).2⟩
   ·show 27+Str.length _≤_;exact(l20 (Hb W0 Yc (Hb X1 W0 (Gb (.a (.n 27) X1) Yb))) rfl cl hpl)
   ·rw[BC];show 27+Str.length _+2≤_;exact(l20 (Hb W0 Yc (Hb X1 W0 (Gb (.a (.a (.n 27) X1) Y2) Yb))) rfl cl hpl)
   ·exact Q9 (tk:=tk) (tn:=s.turns) (y:=(-1,s.at_,s.at_+1)) [] (if_pos (by decide:(-1:Int)<0))
 ·have hb:=hb.resolve_left (fun q=>e q.symm)
  have hlt:s.at_<j:=by exact(iln j1 (Ne.symm e))
  refine hid fun Gg gg=> ?_
  obtain⟨y,t,htg⟩:=List.exists_cons_of_ne_nil hb
  have hc:=Od (ns:=Ab cs) a0 hlt (hnl▸j2) htg j3'
  obtain⟨m1,m2,m3,m4,_⟩:=Ff g a0 (by rw[hnl];exact Int.le_of_lt ha) hc
  have so:=so _ _ hc
  have w:=v.turn o ha so
  have h:=HF o v.a0 v.c0 ha so
  have h917:=h917 A j g
  rw[htg]at h917
  obtain⟨r1,r2⟩:=hr.at (m:=Int.ofNat y) m3 (Int.lt_of_lt_of_le m4 (Int.ofNat_le.mpr hr.r3))
  refine gg ?_
  clear so hb htg hc df j3' j3
  suffices h2:wss (Ad 8 (H9 (Ad 3 DB))) ⟨K,K0,x⟩ (ρW T cs (A7 ⟨cs,T,Ab cs⟩ s j (Int.ofNat y)).at_ (A7 ⟨cs,T,Ab cs⟩ s j (Int.ofNat y)).cond [(Aw,vi key),(CS,vi j),(DZ,vi s.at_),(AB,vi (Int.ofNat y))]) Q (lW cs (tk++(D2 (DM (Ae T (Int.ofNat y))) (CZ (txt cs) s.at_.toNat (A7 ⟨cs,T,Ab cs⟩ s j (Int.ofNat y)).at_.toNat)).toList) s.turns [.gone]) by
   have hh:= @Vq x T cs s.at_ key tk s.turns Q K K0 (Ae T (Int.ofNat y)) (Int.ofNat y) {s with cnt:=s.cnt+1,began:=s.at_,at_:=j} cl m3 r1 r2 a0 hlt (Int.ofNat_le.mpr j2) (by have:=v.n1;exact(l20 (.P 1 1 (Hb (.a W0 (.a X1 Y1)) (.n 500) (Gb W0 (.n 1000)))) rfl this)) h2
   refine AD hs ⟨hl,a0,j1,Int.ofNat_le.mpr j2,Nat.le_trans (Eu (cs:=cs)) hl, ?_⟩
   refine C4 (f:=fun c:Nat=>Tr.str ⟨#[c]⟩) (g:=fun c:Nat=>Tr.int (DN c)) ((cs.drop s.at_.toNat).take (j-s.at_.toNat)) (fun c hc yes zz z=> ?_) ?_
   ·exact AD (Mq (cg c (List.mem_of_mem_drop (List.mem_of_mem_take hc)))) (z _ rfl)
   refine Al h917 rfl ?_
   cases hh;assumption
  have l6:=Dd (i:=Int.ofNat y) ⟨m3,Int.lt_trans m4 (by decide)⟩
  have hpl:=Eu (cs:=cs) (i:=s.at_.toNat) (j:=(A7 ⟨cs,T,Ab cs⟩ s j (Int.ofNat y)).at_.toNat)
  have h1:s.at_<(A7 ⟨cs,T,Ab cs⟩ s j (Int.ofNat y)).at_:=h.lt
  have h3:(A7 ⟨cs,T,Ab cs⟩ s j (Int.ofNat y)).at_≤cs.length:=h.le
  have hZ:=hZ _ _ w
  clear w h
  generalize hs1:A7 ⟨cs,T,Ab cs⟩ s j (Int.ofNat y)=s1 at hpl h1 h3 hZ
  have ln:Dk cs (Int.ofNat y,s.at_,s1.at_)=GJ++CR (Int.ofNat y)++EH++CZ (txt cs) s.at_.toNat s1.at_.toNat++sClose:=by
   rw[Dk,if_neg (show¬Int.ofNat y<0 by exact l10 (Ha Z0 (.c W0) (.G .inlt 1 (.c W0) Z0)) rfl m3),if_neg (show¬s.at_=(cs.length:Int) by exact(fun h9=>l11 (Hh W0 (.c W0) (Hf W0 (.c W0) .f)) rfl ha h9))];rfl
  have c1:(GJ++CR (Int.ofNat y)).length=18:=by rw[BC,l6];rfl
  have c2:(GJ++CR (Int.ofNat y)++EH).length=21:=by rw[BC,c1];rfl
  have c3:(GJ++CR (Int.ofNat y)++EH++CZ (txt cs) s.at_.toNat s1.at_.toNat).length≤121:=by rw[BC,c2];exact(l20 (Hb W0 Yc (Hb X1 W0 (Gb (.a (.n 21) X1) (.n 121)))) rfl cl hpl)
  refine⟨by exact Ok (by omega),by rw[show(toString (Int.ofNat y):Str)=CR (Int.ofNat y)from rfl,l6];decide,by rw[show(toString (Int.ofNat y):Str)=CR (Int.ofNat y)from rfl,c1];decide,hl,a0,Int.le_of_lt h1,h3, ?_, ?_,B,(hZ _ _ rfl ?_).1⟩
  ·show(GJ++CR (Int.ofNat y)++EH).length+_≤_;exact(l30 (Hb W0 Yc (Hb X1 W0 (Hc X2 (.n 21) (Gb (.a X2 X1) Yb)))) rfl cl hpl c2)
  ·show(GJ++CR (Int.ofNat y)++EH++CZ (txt cs) s.at_.toNat s1.at_.toNat).length+2≤_;exact(l10 (Hb W0 (.n 121) (Gb (.a W0 Y2) Yb)) rfl c3)
  ·exact Q9 (y:=(Int.ofNat y,s.at_,s1.at_)) [] ln
end
end
section
structure WE(c:SC)(r:Option (Sc×List Tk))(m:Nat)(bef:Int)(s:Sc)(tk:List Tk):Prop where
 at_:s.at_=c.cs.length
 c0:0≤s.cond∧s.cond<2
 en:s.ended=true↔s.cond=bef
 run:Hq c m s tk=some r
 n1:tk.length+m≤500
 n2:s.turns.length+m≤500
theorem WI.atEnd{c:SC}{r:Option (Sc×List Tk)}{m:Nat}{s:Sc}{tk:List Tk}(v:WI c r m s tk)(h:¬s.at_<c.cs.length):WE c r m (-1) s tk:=
 ⟨Int.le_antisymm v.a1 (Int.not_lt.mp h),v.c0,⟨fun e=>absurd (v.en▸e) Bool.false_ne_true,fun e=>absurd (e▸v.c0.1) (by decide)⟩,v.run,v.n1,v.n2⟩
theorem WE.next{c:SC}{r:Option (Sc×List Tk)}{m:Nat}{s:Sc}{tk:List Tk}{bef:Int}(o:ScO c)(hr:ScR c)(v:WE c r (m+1) bef s tk)(hb:s.cond∈c.T.ends)(hn:s.cond≠bef):WE c r m s.cond (EC c s).1 (tk++(EC c s).2.toList):=by
 have run:=v.run
 rw[DV,if_neg (by rw[v.at_];exact Int.lt_irrefl _),if_neg fun h=>h.elim (fun h=>hn (v.en.mp h)) fun h=>h hb]at run
 refine⟨(M9 o hr hb).trans v.at_,(E2 (i:=Ae c.T 3) (s:={s with cnt:=s.cnt+1,began:=s.at_}) (b:=s.at_) o.cl).co v.c0,beq_iff_eq,run, ?_, ?_⟩
 ·have:=v.n1;have:=MZ (EC c s).2;rw[List.length_append];clear run v;exact(l30 (Hb (.a W0 (.a X1 Y1)) (.n 500) (Hb X2 Y1 (Gb (.a (.a W0 X2) X1) (.n 500)))) rfl (by assumption) this)
 ·have:=v.n2;show(s.turns++[_]).length+m≤500;rw[List.length_append,List.length_singleton];clear run v;exact(l20 (Hb (.a W0 (.a X1 Y1)) (.n 500) (Gb (.a (.a W0 Y1) X1) (.n 500))) rfl this)
theorem WE.stop{c:SC}{r:Option (Sc×List Tk)}{m:Nat}{s:Sc}{tk:List Tk}{bef:Int}(v:WE c r m bef s tk)(h:s.cond∈c.T.ends→s.cond=bef):r=some (s,tk++[(Dl,sNo)]):=by
 have run:=v.run
 cases m with
 |zero=>cases run
 |succ m=>
  rw[DV,if_neg (by rw[v.at_];exact Int.lt_irrefl _),if_pos (by
   by_cases q:s.cond∈c.T.ends
   ·exact .inl (v.en.mpr (h q))
   ·exact .inr q)]at run
  exact(Option.some.inj run).symm
section
variable{k:Nat}{X x:Prop}{T:BA}{cs:List Nat}{bef:Int}{tk:List Tk}{Q:QS}{K K0:KT'}
theorem Wn{b:Int}:Dk cs (3,(cs.length:Int),b)=⟨⟨[45,45,69,79,70,32,114,117,108,101,32,51]⟩⟩:=by
 rw[Dk,if_neg (by decide:¬(3:Int)<0),if_pos rfl];show Uc++CR 3=_;decide+kernel
theorem Rw{m:Nat}{s:Sc}{r:Option (Sc×List Tk)}(o:ScO ⟨cs,T,Ab cs⟩)(hr:ScR ⟨cs,T,Ab cs⟩)(v:WE ⟨cs,T,Ab cs⟩ r (m+1) bef s tk)(hb:s.cond∈T.ends)(hn:s.cond≠bef)
 (hZ:∀s' tk' b',WE ⟨cs,T,Ab cs⟩ r m b' s' tk'→∀ρ₂ L₂,Cy (ρW T cs 0 0 [(Az,vi 0)]) 2 ρ₂=ρW T cs cs.length s'.cond [(Az,vi b')]→cut 2 L₂=lW cs tk' s'.turns []→Q .next ρ₂ L₂∧Q .cont ρ₂ L₂):
 A4 (wss (H9 (Ad 5 DB)) ⟨K,K0,x⟩ (ρW T cs cs.length s.cond [(Az,vi bef)]) Q (lW cs tk s.turns [])):=by
 constructor
 obtain⟨r1,r2⟩:=hr.at (m:=3) (by decide) (Int.ofNat_lt.mpr (hr.he _ hb).1)
 have w:=v.next o hr hb hn
 have B:((s.turns.map (Dk cs)).map Tr.str).length+1≤1048576:=by have:=v.n2;rw[List.length_map,List.length_map];exact(l20 (.P 1 1 (Hb (.a W0 (.a X1 Y1)) (.n 500) (Gb (.a W0 Y1) Yb))) rfl this)
 suffices h2:wss (Ad 3 (H9 (Ad 5 DB))) ⟨K,K0,x⟩ (ρW T cs cs.length (Bo ⟨cs,T,Ab cs⟩ (Ae T 3) {s with cnt:=s.cnt+1,began:=s.at_} s.at_).cond [(Az,vi s.cond)]) Q (lW cs (tk++(D2 (DM (Ae T 3)) sNo).toList) (s.turns++[(3,s.at_,s.at_)]) []) by
  refine⟨B, ?_⟩
  have hh:= @Yh x T cs s.at_ s.cond tk (s.turns++[(3,s.at_,s.at_)]) Q K K0 (Ae T 3) cs.length {s with cnt:=s.cnt+1,began:=s.at_} _ r1 r2 (by have:=v.n1;exact(l20 (.P 1 1 (Hb (.a W0 (.a X1 Y1)) (.n 500) (Gb W0 (.n 1000)))) rfl this)) h2
  have ln:Dk cs (3,s.at_,s.at_)=⟨⟨[45,45,69,79,70,32,114,117,108,101,32,51]⟩⟩:=by rw[v.at_];exact Wn
  rw[←Q9 [] ln]at hh
  cases hh;assumption
 have hZ:=hZ _ _ _ w
 rw[show(EC ⟨cs,T,Ab cs⟩ s).2=D2 (DM (Ae T 3)) (CZ (txt cs) s.at_.toNat s.at_.toNat)from rfl,PD]at hZ
 exact(hZ _ _ rfl rfl).1
theorem S8{s:Sc}{t:Tk}:Xn cs (some (s,tk++[t]))= .tup [.fl (tk.map vTk++[vTk t]), .fl ((s.turns.map (Dk cs)).map Tr.str++[.str bS])]:=by
 show Tr.tup [.fl ((tk++[t]).map vTk), .fl ((C6 cs s.turns).map Tr.str)]=_
 rw[C6,List.map_append,List.map_append];rfl
theorem fG{f:Nat}{r:Option (Sc×List Tk)}(o:ScO ⟨cs,T,Ab cs⟩)(hr:ScR ⟨cs,T,Ab cs⟩)(cg:∀c∈cs,c=97∨c=98∨c=10∨c=99)(hf:f≤500)(hrun:Hq ⟨cs,T,Ab cs⟩ f Sc0 []=some r):
 Ret (AC (k+2) X) 922 [.t (vAs T.auts), .t (.fl (T.rules.map fun p=>AT p.2)), .t (.fd T.ends (T.ends.map fun zz=> .int 3)),vb T.dflt,vs (txt cs)] (Xn cs r):=by
 refine Af (f:=Ut) rfl rfl rfl fun K K0 e zz Q hQ=> ?_
 have h917:∀(b:Int) (A:Aut) (j:Nat),An A→Ret K 917 [.t (CN A), .t (slT cs b j)] (Bv (Bg A (Ab cs) b j)):=fun b A j g=>e▸aw g
 have hl:(txt cs).length≤1048576:=Nat.le_trans o.cl (by decide)
 clear e
 refine EO (σ:=Sc×List Tk) (fun s=>ρW T cs s.1.at_ s.1.cond []) (fun s=>lW cs s.2 s.1.turns []) (fun m s=>WI ⟨cs,T,Ab cs⟩ r m s.1 s.2) f (Sc0,[]) ⟨by decide,Int.natCast_nonneg _,by decide,rfl,hrun,by show 0+f≤500;exact(l10 (Hb W0 (.n 500) (Gb (.a Y0 W0) (.n 500))) rfl hf),by show 0+f≤500;exact(l10 (Hb W0 (.n 500) (Gb (.a Y0 W0) (.n 500))) rfl hf)⟩ ?_
 rintro m ⟨s,tk⟩ v Z hZ _ hret
 replace v:WI ⟨cs,T,Ab cs⟩ r m s tk:=v
 refine⟨hl,Br (fun ha=> ?_) fun ha=> ?_⟩
 ·cases m with
  |zero=>cases v.run
  |succ m=>
  have hh:= @Vo (X∧1≤k+1) T cs tk Z K K0 m s r o hr cg (h917 s.at_) v ha (fun e ρ' L'=>hret _ _ _ (by subst e;exact hQ _ _)) fun s' tk' w=>hZ m (s',tk') (Nat.lt_succ_self m) w
  replace hh:=hh.get
  clear hZ hret hQ hrun h917
  refine⟨.inl (by decide), ?_⟩
  refine C3 (fun e=> ?_) fun e=> ?_
  ·rw[show CO cs s.at_=1 from if_pos (.inl e)]at hh
   exact hh
  ·have e:s.at_≠0:=e
   have ha:s.at_<cs.length:=ha
   have a0:=v.a0
   obtain⟨d,hd⟩:∃d,cs[(s.at_-1).toNat]? =some d:=⟨_,List.getElem?_eq_getElem (by exact(Int.le_total 0 _).elim (fun x3'=>l21 (Hh W0 (.c W0) (He (.c X1) (.s W0 Z1) (Gc X1 W0))) rfl ha (Int.toNat_of_nonneg (x3'))) (fun x3'=>l21 (Hh W0 (.c W0) (Ha Z0 W0 (Hc X1 Y0 (Gc X1 W0)))) rfl ha a0 (Int.toNat_of_nonpos x3')))⟩
   unfold CO at hh
   rw[hd]at hh
   refine⟨hl,AD (Dp (by dsimp only;exact(l01 (Hh Z0 W0 (Ga Z0 (.s W0 Z1))) rfl (iln a0 (Ne.symm e)))) hd) (A6 (b:=C5 (sgn d) (sgn 10)) (fun h=> ?_) fun h=> ?_)⟩
   ·rw[JG]at h
    rw[if_pos (.inr (by rw[Nat.eq_of_beq_eq_true h]))]at hh
    exact hh
   ·rw[JG]at h
    rw[if_neg fun q=>q.elim e fun q=>by cases q;exact absurd h (by decide)]at hh
    exact hh
 ·have w:=v.atEnd ha
  have ha:s.at_=cs.length:=w.at_
  show wss (Ad 4 DB) _ (ρW T cs s.at_ s.cond []) _ (lW cs tk s.turns [])
  rw[ha]
  clear v hZ hret ha
  refine EO (σ:=Sc×List Tk×Int) (fun s=>ρW T cs cs.length s.1.cond [(Az,vi s.2.2)]) (fun s=>lW cs s.2.1 s.1.turns []) (fun m s=>WE ⟨cs,T,Ab cs⟩ r m s.2.2 s.1 s.2.1) m (s,tk, -1) w ?_
  clear w
  rintro m ⟨s,tk,bef⟩ v Z hZ _ _
  replace v:WE ⟨cs,T,Ab cs⟩ r m bef s tk:=v
  have fin:(s.cond∈T.ends→s.cond=bef)→wss (Ad 6 DB) ⟨K,K0,X∧1≤k+1⟩ (ρW T cs cs.length s.cond [(Az,vi bef)]) Q (lW cs tk s.turns []):=fun h=>by
   have er:=v.stop h
   subst er
   rw[S8]at hQ
   have n1:=v.n1
   have n2:=v.n2
   exact⟨by rw[List.length_map];show tk.length+1≤_;exact(l20 (.P 1 1 (Hb (.a W0 X1) (.n 500) (Gb (.a W0 Y1) Yb))) rfl n1),by rw[List.length_map,List.length_map];show s.turns.length+1≤_;exact(l20 (.P 1 1 (Hb (.a W0 X1) (.n 500) (Gb (.a W0 Y1) Yb))) rfl n2),hQ _ _⟩
  refine Br (fun hb=>Jc (fun hn=> ?_) fun hn=> ?_) fun hb=> ?_
  ·cases m with
   |zero=>cases v.run
   |succ m=>
   have hh:= @Rw (X∧1≤k+1) T cs bef tk Z K K0 m s r o hr v hb hn fun s' tk' b' w=>hZ m (s',tk',b') (Nat.lt_succ_self m) w
   cases hh;assumption
  ·exact fin fun zz=>hn
  ·exact fin fun h=>absurd h hb
end
end
section
noncomputable def CV(T:BA)(c:Int):List Nat:=EK (T.auts (2*c+1).toNat) (EK (T.auts (2*c+0).toNat) [])
noncomputable def Om:Post:=fun v L=>v=vb true∧L[0]? =some .tab
section
variable{α:Type}{f:α→Tr}{T:BA}
theorem NE(h:∀x,dat 6 (f x)=true):∀l:List α,(l.map f).all (dat 6)=true
 |[]=>rfl
 |x::r=>by rw[List.map_cons,List.all_cons,h,NE h r];rfl
theorem DK{g:List Tr→α→List Tr}(hg:∀s x,s.all (dat 6)=true→(g s x).all (dat 6)=true):∀(l:List α){s:List Tr},s.all (dat 6)=true→(l.foldl g s).all (dat 6)=true
 |[],_,h=>h
 |x::r,s,h=>DK hg r (hg s x h)
theorem Jj{s:List Tr}{x:Tr}(h:s.all (dat 6)=true)(hx:dat 6 x=true):(s++[x]).all (dat 6)=true:=by
 rw[List.all_append,h,List.all_cons,hx];rfl
theorem P6:(LA T).all (dat 6)=true:=DK (fun s key h=>DK (fun s n h=>by
 split;exact Jj h rfl;exact h) _ h) _ rfl
theorem OZ:(JI T).all (dat 6)=true:=DK (fun s key h=>DK (fun s n h=>Jj h rfl) _ h) _ rfl
theorem HV{b:Bool}{x:Tr}{s:List Tr}(h:s.all (dat 6)=true)(hx:dat 6 x=true):(Hs b x s).all (dat 6)=true:=by
 cases b;exact h;exact Jj h hx
theorem P5:(Ls T).all (dat 6)=true:=HV (DK (fun s p h=>HV (HV h rfl) rfl) _ rfl) rfl
theorem Kw{l:List Int}{n:Nat}:(l.map Tr.int).all (dat (n+1))=true:=by
 rw[List.all_map];exact List.all_eq_true.mpr fun zz zz=>rfl
theorem Tl{cs:List Nat}{ts:List (Int×Int×Int)}{tk:List Tk}:([.fl (tk.map vTk), .fl ((C6 cs ts).map Tr.str)]:List Tr).all (dat 6)=true:=by
 show((tk.map vTk).all (dat 5)&&(((C6 cs ts).map Tr.str).all (dat 5)&&true))=true
 rw[List.all_map,List.all_map]
 exact Bool.and_eq_true_iff.mpr ⟨List.all_eq_true.mpr fun zz zz=>rfl,Bool.and_eq_true_iff.mpr ⟨List.all_eq_true.mpr fun zz zz=>rfl,rfl⟩⟩
end
structure Cw(T:BA)(cs:List Nat):Prop where
 o:ScO ⟨cs,T,Ab cs⟩
 hr:ScR ⟨cs,T,Ab cs⟩
 cg:∀c∈cs,c=97∨c=98∨c=10∨c=99
 num:(T.rules.map (·.1)=[0,1,2]∧T.ends=[])∨(T.rules.map (·.1)=[0,1,2,3]∧T.ends≠[])
 cut:∀c∈T.cuts,c<3
noncomputable def ρT(is us:List Int)(T:BA)(cs:List Nat)(en:Int)(full:Bool)(R:Rho):Rho:=[(xscript, .t (vSc is)),(BO, .clo (us.map Tr.int) 1),(AF,vb T.dflt),(C1,vi en),(AY, .t (.fl (T.rules.map fun p=>AT p.2))),(BF, .t (.fd T.cuts (T.cuts.map fun zz=>vCut))),(Bw, .t (.fd T.ends (T.ends.map fun zz=> .int 3))),(AK,vs (txt cs)),(Aq,vb full),(AH, .t (vAs T.auts)),(Ak, .t (.fl (T.rules.map Bn))),(FH, .t (.fd [0,1,2,3] (JC T.auts))),(BR, .t vCls),(AE, .t (AU T))]++R
noncomputable def lT(p:Int)(N:LH):LH:=[.tab, .list [.int p], .gone, .gone, .gone, .gone, .gone, .gone, .gone, .gone, .gone, .gone]++N
noncomputable abbrev gF:Nat:=JB
section
variable{k:Nat}{x:Prop}{T:BA}{cs:List Nat}{is us:List Int}{en p:Int}{full:Bool}{pk:List Int}
theorem Cw.len(w:Cw T cs):T.rules.length≤4:=by
 rw[←List.length_map (f:=(·.1))]
 rcases w.num with⟨h,_⟩|⟨h,_⟩<;>rw[h]<;>decide
theorem Cw.r4(w:Cw T cs):∀q∈T.rules,0≤q.1∧q.1<4:=fun q hq=>by
 have h:=List.mem_map_of_mem (f:=(·.1)) hq
 have:∀y∈([0,1,2,3]:List Int),0≤y∧y<4:=by decide
 rcases w.num with⟨e,_⟩|⟨e,_⟩
 ·rw[e]at h;exact this _ (List.mem_append_left [3] h)
 ·rw[e]at h;exact this _ h
noncomputable def ρL(is us:List Int)(T:BA)(cs:List Nat)(en:Int)(full:Bool):Rho:=ρT is us T cs en full [(BB, .ref 12),(F5, .ref 15),(C0, .ref 16),(EN, .ref 17),(JB, .ref 18),(Hv, .ref 19)]
noncomputable def lL(T:BA)(p:Int)(pk un:List Int)(rs:List Tr)(N:LH):LH:=lT p ([.set pk, .set ((CV T 0).map Int.ofNat), .set ((CV T 1).map Int.ofNat), .refs [13,14], .list (LA T), .list (JI T), .list (un.map Tr.int), .list rs]++N)
theorem eC{N:LH}(w:Cw T cs){K:KT'}(e:K=AC (k+9) False):A4 (wss (Ad 34 Aj) ⟨K,K,x⟩ (ρL is us T cs en full) (DX Om) (lL T p pk (GI T) (Ls T) N)):=by
 constructor
 have hg:∀i,An (T.auts i):=w.o.hg
 have h224:Ret K 224 _ _:=e▸fY hg (Nat.le_trans w.len (by decide)) w.r4
 refine Al h224 rfl (Or.inr ⟨rfl,P5, ?_⟩)
 have hcl:cs.length≤100:=w.o.cl
 refine hid fun Gg gg=> ?_
 obtain⟨f,hf,r,hrun,hok⟩:=WX w.o w.hr cs.length (s:=Sc0) (acc:=[]) (by decide) (by decide) (Int.natCast_nonneg _) (by show(cs.length:Int)≤0+cs.length;exact(l10 (Ga (.c W0) (.a Z0 (.c W0))) rfl)) (fun x h=>absurd h List.not_mem_nil)
 refine gg ?_
 have h922:Ret K 922 [.t (vAs T.auts), .t (.fl (T.rules.map fun p=>AT p.2)), .t (.fd T.ends (T.ends.map fun zz=> .int 3)),vb T.dflt,vs (txt cs)] (Xn cs r):=e▸fG w.o w.hr w.cg (by exact l20 (Hb W0 Yc (Hb X1 (.a W0 Y3) (Gb X1 (.n 500)))) rfl hcl hf) hrun
 have h927:GN K 927 [.t (AU T),vs (txt cs)] _:=e▸fF (k:=k) (X:=False) hcl (fun c hc=>by rcases w.cg c hc with h|h|h|h<;>rw[h]<;>decide) (by exact l20 (Hb W0 Yc (Hb X1 (.a W0 Y3) (Gb X1 (.n 1000)))) rfl hcl hf) w.o w.hr (Ez _ _ _ hrun) fun s tk h=>⟨by have:=(hok _ _ h).1;have:Sc0.turns.length=0:=rfl;exact(l40 (Hb W0 Yc (Hb X1 (.a W0 Y3) (Hb X2 (.a X3 X1) (Hc X3 Y0 (Gb X2 (.n 1000)))))) rfl hcl hf (by assumption) this),(hok _ _ h).2⟩
 refine F8 h927 rfl fun y hy=>Al h922 rfl ?_
 rcases hy with⟨rfl,rfl⟩|⟨s,tk,rfl,rfl⟩
 ·exact⟨rfl,rfl⟩
 ·exact Or.inr ⟨rfl,Tl,rfl,rfl⟩
noncomputable def lvL(T:BA):List Tr:=[AQ ((CV T 0).map Int.ofNat),AQ ((CV T 1).map Int.ofNat)]
set_option maxHeartbeats 2000000 in
theorem eE{N:LH}(hN:N=[]∨N=[.list []])(w:Cw T cs){K:KT'}(e:K=AC (k+9) False):A4 (wss (Ad 32 Aj) ⟨K,K,x⟩ (ρL is us T cs en full) (DX Om) (lL T p pk (GI T) (Ls T) N)):=by
 constructor
 have hg:∀i,An (T.auts i):=w.o.hg
 have h203:Ret K 203 _ _:=e▸cP hg
 have h210:Ret K 210 _ _:=e▸cN hg
 have h217:Ret K 217 _ _:=e▸fZ hg
 have h163:∀c∈[(0:Int),1],Ret K 163 [.t (AU T),vi c] (AQ ((CV T c).map Int.ofNat)):=fun c hc=>e▸fq hg (by rcases List.mem_cons.mp hc with h|h;subst h;decide;rw[List.mem_singleton.mp h];decide)
 have dl:=NE (f:=fun c:Int=>AQ ((CV T c).map Int.ofNat)) (fun c=>Kw (l:=(CV T c).map Int.ofNat) (n:=4)) [0,1]
 have h9:=eC (N:=N++[.list (lvL T), .gone, .gone, .list (lvL T)]) (x:=x) (is:=is) (us:=us) (en:=en) (p:=p) (full:=full) (pk:=pk) w e
 clear hg e w
 refine Al h203 rfl (Or.inr ⟨rfl,Kw,Al h210 rfl (Or.inr ⟨rfl,P6,Al h217 rfl (Or.inr ⟨rfl,OZ, ?_⟩)⟩)⟩)
 rcases hN with rfl|rfl
 ·refine C4 (f:=Tr.int) (g:=fun c=>AQ ((CV T c).map Int.ofNat)) [0,1] (fun c hc yes zz z=>Al (h163 c hc) rfl (z _ rfl)) ?_
  apply Or.inr
  refine⟨rfl,dl, ?_⟩
  cases h9;assumption
 ·refine C4 (f:=Tr.int) (g:=fun c=>AQ ((CV T c).map Int.ofNat)) [0,1] (fun c hc yes zz z=>Al (h163 c hc) rfl (z _ rfl)) ?_
  apply Or.inr
  refine⟨rfl,dl, ?_⟩
  cases h9;assumption
end
end
section
section
variable{k:Nat}{x:Prop}{T:BA}{cs:List Nat}{is us:List Int}{en p:Int}{full:Bool}{pk:List Nat}
set_option maxHeartbeats 2000000 in
theorem eF(w:Cw T cs){K:KT'}(e:K=AC (k+9) False)(hu:GI T=([0,1,2]:List Int).filter fun n=> !decide (n∈pk.map Int.ofNat))
 (hm:Ls T=K9 T.dflt (LA T) (([0,1,2]:List Int).foldl (fun s n=>DA T.cuts (GI T) n s) [])):
 A4 (wss (Ad 28 Aj) ⟨K,K,x⟩ (ρT is us T cs en full [(BB, .ref 12),(F5, .ref 15),(C0, .ref 16),(EN, .ref 17)]) (DX Om)
 (lT p [.set (pk.map Int.ofNat), .set ((CV T 0).map Int.ofNat), .set ((CV T 1).map Int.ofNat), .refs [13,14], .list (LA T), .list (JI T)])):=by
 constructor
 have hh:=fun N hN=>eE (N:=N) (x:=x) (is:=is) (us:=us) (en:=en) (p:=p) (full:=full) (pk:=pk.map Int.ofNat) hN w e
 rw[hm,hu]at hh
 clear hm e w
 refine⟨_,NM, ?_⟩
 refine Bz (f:=Tr.int) (g:=Tr.int) (p:=fun n=> !decide (n∈pk.map Int.ofNat)) [0,1,2] (fun n hn yes no z1 z2=> ?_) ?_
 ·exact A6 (fun h=>z1 h _ rfl) fun h=>z2 h _ rfl
 generalize([0,1,2]:List Int).filter (fun n=> !decide (n∈pk.map Int.ofNat))=un at hh⊢
 clear hu
 refine⟨_,NM, ?_⟩
 refine Ag (f:=Tr.int) (fun zz=>ρT is us T cs en full [(BB, .ref 12),(F5, .ref 15),(C0, .ref 16),(EN, .ref 17),(JB, .ref 18),(Hv, .ref 19)]) (fun s=>lT p [.set (pk.map Int.ofNat), .set ((CV T 0).map Int.ofNat), .set ((CV T 1).map Int.ofNat), .refs [13,14], .list (LA T), .list (JI T), .list (un.map Tr.int), .list s]) (fun s n=>DA T.cuts un n s) (fun i s=>s.length≤2*i) [0,1,2] [] (Nat.le_refl _) (fun i s n hi hs Z hZ=> ?_) (fun hs=> ?_)
 ·have hn:=in3 (List.mem_of_getElem? hi)
  have hi2:i<3:=Au hi
  have hb:n.natAbs<2^60:=by exact Ok (by omega)
  have hl:=Dd (i:=n) ⟨hn.1,by exact l01 (Hh W0 W3 (Gd W0 (.z 4))) rfl hn.2⟩
  have B1:F9.length+(CR n).length≤1048576:=by rw[hl];decide
  have B2:(F9++CR n).length+Q5.length≤1048576:=by rw[BC,hl];decide
  have B3:(F9++CR n).length+MI.length≤1048576:=by rw[BC,hl];decide
  have a1:=Ep (decide (n∈un)) (NN n) s
  have a2:=Ep (decide (n∈T.cuts)) (Xo n) (Hs (decide (n∈un)) (NN n) s)
  have hZ:=fun ρ₂ L₂ e1 e2=>(hZ (by unfold DA;exact(l40 (Hb W0 (.m 2 X1) (Hb X2 (.a W0 Y1) (Hb X3 (.a X2 Y1) (Gb X3 (.m 2 (.a X1 Y1)))))) rfl hs a1 a2)) ρ₂ L₂ e1 e2).1
  have B5:(Hs (decide (n∈un)) (NN n) s).length+1≤1048576:=by exact l30 (Hb W0 (.m 2 X1) (.H .nlt 2 X1 Y3 (Hb X2 (.a W0 Y1) (Gb (.a X2 Y1) Yb)))) rfl hs hi2 a1
  have B4:s.length+1≤1048576:=by exact l20 (Hb W0 (.m 2 X1) (.H .nlt 2 X1 Y3 (Gb (.a W0 Y1) Yb))) rfl hs hi2
  clear a1 a2 hi2 hs hn hl hh hi
  unfold DA at hZ
  refine AD (E4 un) (A6 (fun e1=> ?_) fun e1=> ?_)
  ·rw[e1]at hZ B5
   refine⟨hb,B1,B2,B4,A6 (fun e2=> ?_) fun e2=> ?_⟩
   ·rw[e2]at hZ
    exact⟨hb,B1,B3,B5,hZ _ _ rfl rfl⟩
   ·rw[e2]at hZ;exact hZ _ _ rfl rfl
  ·rw[e1]at hZ
   refine A6 (fun e2=> ?_) fun e2=> ?_
   ·rw[e2]at hZ
    exact⟨hb,B1,B3,B4,hZ _ _ rfl rfl⟩
   ·rw[e2]at hZ;exact hZ _ _ rfl rfl
 ·have B4:(([0,1,2]:List Int).foldl (fun s n=>DA T.cuts un n s) []).length+1≤1048576:=Nat.succ_le_of_lt (Nat.lt_of_le_of_lt hs (by decide))
  generalize([0,1,2]:List Int).foldl (fun s n=>DA T.cuts un n s) []=rs at B4 hh⊢
  refine Cf (fun hd=>Or.inl ⟨rfl,GX (fun he=> ?_) fun he=> ?_⟩) fun hd=> ?_
  ·have hh:=hh _ (.inr rfl)
   rw[K9,hd,List.isEmpty_eq_false_iff.mpr he]at hh
   refine⟨B4, ?_⟩
   cases hh;assumption
  ·have hh:=hh _ (.inr rfl)
   rw[K9,hd,he]at hh
   cases hh;assumption
  ·have hh:=hh _ (.inl rfl)
   rw[K9,hd]at hh
   cases hh;assumption
end
end
section
theorem PC:∀a∈subs4,∀b∈subs4,(∀m,m<4→(m∈a↔m∈b))→a=b:=by decide+kernel
theorem Ih:∀pl∈subs4,∀n,n<4→∀m,m<4→(m∈Ap pl n↔m∈pl∨n=m):=by decide+kernel
structure GOk(G:List Nat→List Nat→List Nat)(R:List Nat→Nat→Prop):Prop where
 st:∀s∈subs4,∀t:List Nat,(∀n∈t,n<4)→G s t∈subs4∧∀m,m<4→(m∈G s t↔m∈s∨R t m)
 ni:∀m,¬R [] m
noncomputable def FC(s t:List Nat):List Nat:=t.foldl Ap s
theorem MP:GOk FC fun t m=>m∈t:=by
 refine⟨fun s hs t=> ?_,fun m=>List.not_mem_nil⟩
 induction t generalizing s with
 |nil=>exact fun zz=>⟨hs,fun m zz=>⟨.inl,fun h=>h.elim id fun h=>absurd h List.not_mem_nil⟩⟩
 |cons n t ih=>
  intro ht
  have hn:=ht n List.mem_cons_self
  obtain⟨a,b⟩:=ih (Ap s n) (Gp hs hn) fun x hx=>ht x (List.mem_cons_of_mem _ hx)
  exact⟨a,fun m hm=>(b m hm).trans (by rw[Ih s hs n hn m hm,List.mem_cons,or_assoc, @eq_comm _ n m])⟩
theorem JV:GOk LE fun t m=>t.head? =some m:=by
 refine⟨fun s hs t ht=> ?_,(by intro xx yy;contradiction)⟩
 cases t with
 |nil=>exact⟨hs,fun m zz=>⟨.inl,fun h=>h.elim id (by intro xx;contradiction)⟩⟩
 |cons n t=>
  have hn:=ht n List.mem_cons_self
  exact⟨Gp hs hn,fun m hm=>(Ih s hs n hn m hm).trans (by rw[List.head?_cons,Option.some.injEq])⟩
section
variable{G:List Nat→List Nat→List Nat}{R:List Nat→Nat→Prop}{α:Type}{f:α→List Nat}{A:Aut}{s:List Nat}{T:BA}
theorem GOk.fold(g:GOk G R):∀(l:List α){s:List Nat},s∈subs4→(∀x∈l,∀n∈f x,n<4)→l.foldl (fun s x=>G s (f x)) s∈subs4∧∀m,m<4→(m∈l.foldl (fun s x=>G s (f x)) s↔m∈s∨∃x∈l,R (f x) m)
 |[],s,h,_=>⟨h,fun m zz=>⟨.inl,fun h=>h.elim id fun⟨_,h,_⟩=>absurd h List.not_mem_nil⟩⟩
 |x::r,s,h,hf=>by
  obtain⟨a,b⟩:=g.st s h (f x) (hf x List.mem_cons_self)
  obtain⟨c,d⟩:=GOk.fold g r a fun y hy=>hf y (List.mem_cons_of_mem _ hy)
  exact⟨c,fun m hm=>(d m hm).trans (by rw[b m hm,or_assoc];exact or_congr Iff.rfl ⟨fun h=>h.elim (fun h=>⟨x,List.mem_cons_self,h⟩) fun⟨y,hy,h⟩=>⟨y,List.mem_cons_of_mem _ hy,h⟩,fun⟨y,hy,h⟩=>(List.mem_cons.mp hy).elim (fun e=> .inl (e▸h)) fun hy=> .inr ⟨y,hy,h⟩⟩)⟩
noncomputable def wordsL:List (List Int):=[[0],[1],[2],[0,0],[0,1],[0,2],[1,0],[1,1],[1,2],[2,0],[2,1],[2,2]]
noncomputable def Di(A:Aut)(w:List Int):List Nat:=Bj A (IJ A w)
theorem KU:∀w∈wordsL,∀x∈w,(0:Int)≤x∧x<3:=by decide
theorem Mb(g:An A){q:Int}:∀n∈Bj A q,n<4:=fun n h=>Nat.lt_succ_of_lt (JQ g h)
theorem Ye:∀x:Fin 3,[(x:Int)]∈wordsL:=by decide
theorem Yd:∀x y:Fin 3,[(x:Int),(y:Int)]∈wordsL:=by decide
theorem QQ{r:List Int}{v:Int}(hl:r.length=3)(hv:v∈r):∃x:Fin 3,r[(x:Int).toNat]? =some v:=by
 obtain⟨i,hi⟩:=List.mem_iff_getElem?.mp hv
 exact⟨⟨i,hl▸Au hi⟩,hi⟩
theorem Mg{q v:Int}{r:List Int}{x:Fin 3}(hq:q≠-1)(hr:A.rows[q.toNat]? =some r)(e:r[(x:Int).toNat]? =some v):AR A q x=v:=by
 rw[AR,if_neg hq,hr,Option.getD_some,e];rfl
theorem Vc(g:An A){t:List Nat}(h:t≠[]):(∃w∈wordsL,Di A w=t)↔t∈A.tags:=by
 constructor
 ·rintro⟨w,hw,e⟩
  have hq:=Ti g (KU w hw)
  unfold Di at e
  by_cases q:IJ A w= -1
  ·rw[q,IV]at e;exact absurd e.symm h
  ·have:=Et g (q:=IJ A w) (by exact(⟨l01 (Hh Zm W0 (Ga Z0 W0)) rfl (iln hq.1 (Ne.symm q)),hq.2⟩))
   rw[e]at this
   exact List.mem_of_getElem? this
 ·intro ht
  obtain⟨j,hj⟩:=List.mem_iff_getElem?.mp ht
  have hj3:=Au hj
  rw[g.tl]at hj3
  obtain⟨r0,e0,m0⟩:=g.r0
  obtain⟨r1,e1,m1⟩:=g.r1
  obtain⟨x,ex⟩:=QQ (g.rw3 _ (List.mem_of_getElem? e0)) m0
  obtain⟨y,ey⟩:=QQ (g.rw3 _ (List.mem_of_getElem? e1)) m1
  have s1:AR A 0 x=1:=Mg (by decide) e0 ex
  have s2:AR A 1 y=2:=Mg (by decide) e1 ey
  have:j=0∨j=1∨j=2:=by lia
  rcases this with rfl|rfl|rfl
  ·rw[g.t0]at hj;exact absurd (Option.some.inj hj).symm h
  ·exact⟨_,Ye x,by show Bj A (AR A 0 x)=t;rw[s1];exact Option.some.inj ((Et g (by decide)).symm.trans hj)⟩
  ·exact⟨_,Yd x y,by show Bj A (AR A (AR A 0 x) y)=t;rw[s1,s2];exact Option.some.inj ((Et g (by decide)).symm.trans hj)⟩
theorem HE(o:GOk G R)(g:An A)(hs:s∈subs4):wordsL.foldl (fun s w=>G s (Di A w)) s=A.tags.foldl G s:=by
 obtain⟨a,b⟩:=o.fold (f:=Di A) wordsL hs fun w zz=>Mb g
 obtain⟨c,d⟩:=o.fold (f:=id) A.tags hs fun t ht n hn=>Nat.lt_succ_of_lt (g.tb t ht n hn)
 refine PC _ a _ c fun m hm=>(b m hm).trans (Iff.trans ?_ (d m hm).symm)
 refine or_congr Iff.rfl ⟨fun⟨w,hw,h⟩=> ?_,fun⟨t,ht,h⟩=> ?_⟩
 ·have:Di A w≠[]:=fun e=>o.ni m (e▸h)
  exact⟨_,(Vc g this).mp ⟨w,hw,rfl⟩,h⟩
 ·have:t≠[]:=fun e=>o.ni m (e▸h)
  obtain⟨w,hw,e⟩:=(Vc g this).mpr ht
  exact⟨w,hw,e▸h⟩
end
end
section
structure LSt where
 pk:List Nat
 l0:List Nat
 l1:List Nat
 pl:List Tr
 bk:List Tr
noncomputable def plW(A:Aut)(key:Int)(s:List Tr)(w:List Int):List Tr:=match w with
 |[]=>s
 |n::r=>match r with
  |[]=>if(Bj A (AR A 0 n)).isEmpty=true then s++[K8 key n]else s
  |_::_=>s
noncomputable def CT(A:Aut)(key:Int)(s:LSt)(w:List Int):LSt:=⟨LE s.pk (Di A w),if key<2 then FC s.l0 (Di A w)else s.l0,if key<2 then s.l1 else FC s.l1 (Di A w),plW A key s.pl w,s.bk⟩
noncomputable def bkP(A:Aut)(q:Int):Bool:=(A.tags[q.toNat]?.getD []).isEmpty&&(A.rows[q.toNat]?.getD []).contains (-1)
noncomputable def MD(A:Aut)(key:Int)(s:LSt)(q:Int):LSt:=⟨s.pk,s.l0,s.l1,s.pl,if bkP A q=true then s.bk++[K8 key q]else s.bk⟩
noncomputable def NO(T:BA)(s:LSt)(key:Int):LSt:=([1,2]:List Int).foldl (MD (T.auts key.toNat) key) (wordsL.foldl (CT (T.auts key.toNat) key) s)
noncomputable def Jv(T:BA)(s:LSt)(key:Int):LSt:=⟨Hx (T.auts key.toNat) s.pk,if key<2 then EK (T.auts key.toNat) s.l0 else s.l0,if key<2 then s.l1 else EK (T.auts key.toNat) s.l1,Hz (T.auts key.toNat) key s.pl,Fw (T.auts key.toNat) key s.bk⟩
noncomputable def bi(T:BA):LSt:=BG.foldl (NO T) ⟨[],[],[],[],[]⟩
structure LOk(s:LSt):Prop where
 pk:s.pk∈subs4
 l0:s.l0∈subs4
 l1:s.l1∈subs4
theorem Ba{σ τ α:Type}{f:σ→α→σ}{g:τ→α→τ}(π:σ→τ)(h:∀s x,π (f s x)=g (π s) x):∀(l:List α) (s:σ),π (l.foldl f s)=l.foldl g (π s)
 |[],_=>rfl
 |x::r,s=>by rw[List.foldl_cons,List.foldl_cons,Ba π h r,h]
theorem Pv{α β:Type}{p:Prop}[Decidable p]{g:β→α→β}(l:List α)(s:β):l.foldl (fun s x=>if p then g s x else s) s=if p then l.foldl g s else s:=by
 by_cases h:p
 ·simp only[if_pos h]
 ·simp only[if_neg h]
  induction l with
  |nil=>rfl
  |cons x r ih=>exact ih
theorem Pu{α β:Type}{p:Prop}[Decidable p]{g:β→α→β}(l:List α)(s:β):l.foldl (fun s x=>if p then s else g s x) s=if p then s else l.foldl g s:=by
 by_cases h:p
 ·simp only[if_pos h]
  induction l with
  |nil=>rfl
  |cons x r ih=>exact ih
 ·simp only[if_neg h]
section
variable{A:Aut}{T:BA}{s:LSt}{key:Int}
theorem Mt(g:An A){s:List Nat}(h:s∈subs4):EK A s∈subs4:=(MP.fold (f:=id) A.tags h fun t ht n hn=>Nat.lt_succ_of_lt (g.tb t ht n hn)).1
theorem S9(g:An A){s:List Nat}(h:s∈subs4):Hx A s∈subs4:=(JV.fold (f:=id) A.tags h fun t ht n hn=>Nat.lt_succ_of_lt (g.tb t ht n hn)).1
theorem Ru(g:An A)(h:LOk s):wordsL.foldl (CT A key) s=⟨Hx A s.pk,if key<2 then EK A s.l0 else s.l0,if key<2 then s.l1 else EK A s.l1,Hz A key s.pl,s.bk⟩:=by
 have e1:=(Ba LSt.pk (f:=CT A key) (fun zz zz=>rfl) wordsL s).trans (HE JV g h.pk)
 have e2:=(Ba LSt.l0 (f:=CT A key) (g:=fun s w=>if key<2 then FC s (Di A w)else s) (fun zz zz=>rfl) wordsL s).trans (Pv (g:=fun s w=>FC s (Di A w)) _ _)
 have e3:=(Ba LSt.l1 (f:=CT A key) (g:=fun s w=>if key<2 then s else FC s (Di A w)) (fun zz zz=>rfl) wordsL s).trans (Pu (g:=fun s w=>FC s (Di A w)) _ _)
 have e4:(wordsL.foldl (CT A key) s).pl=Hz A key s.pl:=(Ba LSt.pl (f:=CT A key) (g:=plW A key) (fun zz zz=>rfl) wordsL s).trans rfl
 have e5:(wordsL.foldl (CT A key) s).bk=s.bk:=rfl
 rw[HE MP g h.l0]at e2
 rw[HE MP g h.l1]at e3
 generalize wordsL.foldl (CT A key) s=s' at e1 e2 e3 e4 e5
 cases s'
 cases e1;cases e2;cases e3;cases e4;cases e5
 rfl
theorem ZZ(g:An (T.auts key.toNat))(h:LOk s):NO T s key=Jv T s key:=by
 unfold NO Jv
 rw[Ru g h,Fw,LM,List.foldl_filter]
 rfl
theorem Wt(g:An (T.auts key.toNat))(h:LOk s):LOk (Jv T s key):=by
 refine⟨S9 g h.pk, ?_, ?_⟩
 ·show(if key<2 then _ else _)∈subs4
  split
  ·exact Mt g h.l0
  ·exact h.l0
 ·show(if key<2 then _ else _)∈subs4
  split
  ·exact h.l1
  ·exact Mt g h.l1
theorem QV(g:∀i,An (T.auts i)):∀(l:List Int){s:LSt},LOk s→l.foldl (NO T) s=l.foldl (Jv T) s
 |[],_,_=>rfl
 |key::r,s,h=>by
  rw[List.foldl_cons,List.foldl_cons,ZZ (g _) h];exact QV g r (Wt (g _) h)
noncomputable def D5(T:BA)(s:List Nat):List Nat:=BG.foldl (fun s key=>Hx (T.auts key.toNat) s) s
theorem ZX(g:∀i,An (T.auts i)):bi T=⟨D5 T [],CV T 0,CV T 1,LA T,JI T⟩:=by
 have e:=QV g BG (s:=⟨[],[],[],[],[]⟩) ⟨List.mem_cons_self,List.mem_cons_self,List.mem_cons_self⟩
 have e1:=Ba LSt.pk (f:=Jv T) (g:=fun s key=>Hx (T.auts key.toNat) s) (fun zz zz=>rfl) BG ⟨[],[],[],[],[]⟩
 have e4:=Ba LSt.pl (f:=Jv T) (g:=fun s key=>Hz (T.auts key.toNat) key s) (fun zz zz=>rfl) BG ⟨[],[],[],[],[]⟩
 have e5:=Ba LSt.bk (f:=Jv T) (g:=fun s key=>Fw (T.auts key.toNat) key s) (fun zz zz=>rfl) BG ⟨[],[],[],[],[]⟩
 have e2:(BG.foldl (Jv T) ⟨[],[],[],[],[]⟩).l0=CV T 0:=by rw[BU];rfl
 have e3:(BG.foldl (Jv T) ⟨[],[],[],[],[]⟩).l1=CV T 1:=by rw[BU];rfl
 rw[bi,e]
 generalize BG.foldl (Jv T) ⟨[],[],[],[],[]⟩=s' at e1 e2 e3 e4 e5
 cases s'
 cases e1;cases e2;cases e3;cases e4;cases e5
 rfl
theorem FV(g:∀i,An (T.auts i)){s:List Nat}(h:s∈subs4):∀m,m<4→(m∈D5 T s↔m∈s∨∃t∈BG.flatMap fun key=>(T.auts key.toNat).tags,t.head? =some m):=by
 have e:D5 T s=(BG.flatMap fun key=>(T.auts key.toNat).tags).foldl LE s:=by rw[List.foldl_flatMap];rfl
 rw[e]
 refine(JV.fold (f:=id) _ h fun t ht n hn=> ?_).2
 obtain⟨key,_,ht⟩:=List.mem_flatMap.mp ht
 exact Nat.lt_succ_of_lt ((g _).tb t ht n hn)
theorem Fa{l:List Nat}{m:Nat}:Int.ofNat m∈l.map Int.ofNat↔m∈l:=
 ⟨fun h=>by obtain⟨n,hn,e⟩:=List.mem_map.mp h;rw[←Int.ofNat.inj e];exact hn,List.mem_map_of_mem⟩
theorem Pd(g:∀i,An (T.auts i)):∀n∈([0,1,2]:List Int),(!decide (n∈(D5 T [3]).map Int.ofNat))= !decide (n∈(D5 T []).map Int.ofNat):=fun n hn=>by
 obtain⟨j,rfl⟩:=Int.eq_ofNat_of_zero_le (in3 hn).1
 have hj:j<3:=Int.ofNat_lt.mp (in3 hn).2
 have h4:=Nat.lt_succ_of_lt hj
 refine congrArg Bool.not (decide_eq_decide.mpr (Fa.trans (Iff.trans ?_ Fa.symm)))
 rw[FV g (by decide) j h4,FV g (by decide) j h4]
 exact or_congr ⟨fun h=>absurd (List.mem_singleton.mp h) (Nat.ne_of_lt hj),fun h=>absurd h List.not_mem_nil⟩ Iff.rfl
theorem Lh(g:∀i,An (T.auts i)):(3:Int)∈(D5 T [3]).map Int.ofNat:=Fa.mpr ((FV g (by decide) 3 (by decide)).mpr (.inl List.mem_cons_self))
theorem Pe(h:T.ends≠[]):GB T=D5 T [3]:=by
 unfold GB
 cases e:T.ends with
 |nil=>exact absurd e h
 |cons _ _=>rfl
theorem Oz:GI T=(T.rules.map (·.1)).filter fun n=> !decide (n∈(GB T).map Int.ofNat):=by rw[List.filter_map];rfl
theorem MV{cs:List Nat}(w:Cw T cs):GI T=([0,1,2]:List Int).filter fun n=> !decide (n∈(D5 T []).map Int.ofNat):=by
 have hg:∀i,An (T.auts i):=w.o.hg
 rw[Oz]
 rcases w.num with⟨q,q2⟩|⟨q,q2⟩
 ·rw[q,show GB T=D5 T [] by unfold GB;rw[q2];rfl]
 ·have e3:([3]:List Int).filter (fun n=> !decide (n∈(D5 T [3]).map Int.ofNat))=[]:=List.filter_cons_of_neg (by rw[decide_eq_true (Lh hg)];decide)
  rw[q,Pe q2,show([0,1,2,3]:List Int)=[0,1,2]++[3]from rfl,List.filter_append,List.filter_congr (Pd hg),e3,List.append_nil]
theorem WY{cs:List Nat}(w:Cw T cs):Ls T=K9 T.dflt (LA T) (([0,1,2]:List Int).foldl (fun s n=>DA T.cuts (GI T) n s) []):=by
 unfold Ls
 rw[←List.foldl_map (f:=Prod.fst) (g:=fun s n=>DA T.cuts (GI T) n s)]
 rcases w.num with⟨q,_⟩|⟨q,q2⟩
 ·rw[show T.rules.map Prod.fst=_ from q]
 ·rw[show T.rules.map Prod.fst=_ from q,show([0,1,2,3]:List Int)=[0,1,2]++[3]from rfl,List.foldl_append]
  refine congrArg _ ?_
  show Hs (decide ((3:Int)∈T.cuts)) _ (Hs (decide ((3:Int)∈GI T)) _ _)=_
  rw[decide_eq_false fun h=>absurd (w.cut _ h) (by decide),decide_eq_false fun h=>by
   rw[MV w]at h
   exact absurd (List.mem_filter.mp h).1 (by decide)]
  rfl
end
end
section
noncomputable def lS(p:Int)(s:LSt):LH:=lT p [.set (s.pk.map Int.ofNat), .set (s.l0.map Int.ofNat), .set (s.l1.map Int.ofNat), .refs [13,14], .list s.pl, .list s.bk]
noncomputable def Qr(w:List Int):Tr:= .tup (w.map Tr.int)
noncomputable def ρS(is us:List Int)(T:BA)(cs:List Nat)(en:Int)(full:Bool)(R:Rho):Rho:=ρT is us T cs en full ([(BB, .ref 12),(F5, .ref 15),(C0, .ref 16),(EN, .ref 17)]++R)
theorem IU{l:List Nat}:(l.map Int.ofNat).map Int.toNat=l:=by
 rw[List.map_map]
 exact(List.map_congr_left fun n zz=>rfl).trans (List.map_id l)
inductive UK:List Int→Prop where
 |one (n:Int):UK [n]
 |two (a b:Int):UK [a,b]
theorem Nu:∀w∈wordsL,0<w.length∧w.length<3:=by decide
theorem Rv{w:List Int}(h:w∈wordsL):UK w:=by
 have l:=Nu w h
 clear h
 cases w with
 |nil=>exact absurd l.1 (Nat.lt_irrefl 0)
 |cons a w=>cases w with
  |nil=>exact .one a
  |cons b w=>cases w with
   |nil=>exact .two a b
   |cons c w=>exact absurd l.2 (Nat.not_lt.mpr (Nat.le_add_left 3 w.length))
theorem aX{s b r:Sts}{one:Bool}{xs:List Nat}{ts:List Tr}{c:Ctx}{ρ:Rho}{Q:QS}{L:LH}(hs:s= .c (.for_ one xs (.k (.tup ts)) b) r)(h:IG ρ L.length (fun v Q' ρ' L₂=>Ax (CF one xs v ρ') fun ρ₁=>wss b c ρ₁ Q' L₂) (NY (fun ρ' L'=>wss r c ρ' Q L') Q) ts ρ L):A4 (wss s c ρ Q L):=by
 subst hs;exact⟨h⟩
theorem Xk:Hp 0 4 1=some (BG.map Tr.int):=by rw[BU];kernel_rfl
section
variable{A:Aut}{T:BA}{s:LSt}{key a b:Int}{w:List Int}{n:Nat}{t:List Nat}
theorem LR(h:Di A w=n::t)(hw:UK w):CT A key s w=⟨Ap s.pk n,if key<2 then FC s.l0 (n::t)else s.l0,if key<2 then s.l1 else FC s.l1 (n::t),s.pl,s.bk⟩:=by
 have e:plW A key s.pl w=s.pl:=by
  cases hw with
  |one m=>exact if_neg fun q=>by rw[List.isEmpty_iff.mp (show(Di A [m]).isEmpty=true from q)]at h;cases h
  |two=>rfl
 rw[CT,h,e];rfl
theorem Nw(h:Di A [a]=[]):CT A key s [a]=⟨s.pk,s.l0,s.l1,s.pl++[K8 key a],s.bk⟩:=by
 have e:plW A key s.pl [a]=s.pl++[K8 key a]:=if_pos (by rw[show Bj A (AR A 0 a)=[]from h];rfl)
 rw[CT,h,e,show FC s.l0 []=s.l0 from rfl,show FC s.l1 []=s.l1 from rfl,ite_self,ite_self];rfl
theorem Nv(h:Di A [a,b]=[]):CT A key s [a,b]=s:=by
 rw[CT,h,show FC s.l0 []=s.l0 from rfl,show FC s.l1 []=s.l1 from rfl,ite_self,ite_self];rfl
end
theorem Wr{p:Int}{s:LSt}{n:Nat}{ns:List Nat}:lT p [.set (Ly (s.pk.map Int.ofNat) (Int.ofNat n)), .set ((ns.foldl Ap ((s.l0.map Int.ofNat).map Int.toNat)).map Int.ofNat), .set (s.l1.map Int.ofNat), .refs [13,14], .list s.pl, .list s.bk]=lS p ⟨Ap s.pk n,FC s.l0 ns,s.l1,s.pl,s.bk⟩:=by rw[Er,IU];rfl
theorem Wq{p:Int}{s:LSt}{n:Nat}{ns:List Nat}:lT p [.set (Ly (s.pk.map Int.ofNat) (Int.ofNat n)), .set (s.l0.map Int.ofNat), .set ((ns.foldl Ap ((s.l1.map Int.ofNat).map Int.toNat)).map Int.ofNat), .refs [13,14], .list s.pl, .list s.bk]=lS p ⟨Ap s.pk n,s.l0,FC s.l1 ns,s.pl,s.bk⟩:=by rw[Er,IU];rfl
section
variable{k:Nat}{x:Prop}{T:BA}{cs:List Nat}{is us:List Int}{en p:Int}{full:Bool}
theorem eG(v:Cw T cs){K:KT'}(e:K=AC (k+9) False):A4 (wss (Ad 23 Aj) ⟨K,K,x⟩ (ρT is us T cs en full []) (DX Om) (lT p [])):=by
 constructor
 have hg:∀i,An (T.auts i):=v.o.hg
 have hh:=eF (x:=x) (is:=is) (us:=us) (en:=en) (p:=p) (full:=full) (pk:=D5 T []) v e (MV v) (WY v)
 have eS:=ZX hg
 have h917:∀(A:Aut) (w:List Int),An A→(∀x∈w,0≤x∧x<3)→Ret K 917 [.t (CN A), .t (Qr w)] (Bv (Di A w)):=fun A w g hw=>e▸cK g (.inr rfl) hw
 refine⟨_,Xk, ?_⟩
 refine Ag (f:=Tr.int) (fun zz=>ρS is us T cs en full []) (lS p) (NO T) (fun i s=>s.pl.length≤12*i∧s.bk.length≤2*i) BG ⟨[],[],[],[],[]⟩ ⟨Nat.le_refl _,Nat.le_refl _⟩ (fun i s key hi hs Z hZ=> ?_) (fun zz=> ?_)
 rotate_left
 ·rw[show BG.foldl (NO T) ⟨[],[],[],[],[]⟩=_ from eS]
  cases hh;assumption
 clear hh eS
 have hk:=in4 (List.mem_of_getElem? hi)
 have ha:=Gn (a:=T.auts) hk
 have hi4:i<4:=by have:=Au hi;rw[BU]at this;exact this
 have g:=hg key.toNat
 unfold NO at hZ
 generalize T.auts key.toNat=A at ha g hZ
 refine@CJ _ _ (ρS is us T cs en full [(Aw,vi key)]) _ rfl ?_
 suffices hh:A4 (wss (NP (Ad 27 Aj)) ⟨K,K,x⟩ (ρS is us T cs en full [(Aw,vi key)]) Z (lS p s)) by
  cases hh;assumption
 refine aX (ts:=wordsL.map Qr) (one:=true) (xs:=[Ao]) rfl ?_
 generalize hws:wordsL=ws at hZ⊢
 refine Ag (f:=Qr) (fun zz=>ρS is us T cs en full [(Aw,vi key)]) (lS p) (CT A key) (fun j s'=>s'.pl.length≤12*i+j∧s'.bk=s.bk) ws s ⟨hs.1,rfl⟩ (fun j s' w hj hs' Z2 hZ2=> ?_) (fun hs'=> ?_)
 ·have hm:=List.mem_of_getElem? hj
  have hj2:=Au hj
  rw[←hws]at hm hj2
  have hj2:j<12:=hj2
  have hw:=Rv hm
  have hw9:=h917 A w g (KU w hm)
  have ht:∀n∈Di A w,n<4:=Mb g
  have B:s'.pl.length+1≤1048576:=by have:=hs'.1;exact(l30 (.H .nlt 12 W0 Y4 (Hb X1 (.a (.m 12 W0) X2) (Hg X2 (.n 12) (Gb (.a X1 Y1) Yb)))) rfl hi4 hs'.1 hj2)
  clear hm hj hZ h917 hws hi
  cases htg:Di A w with
  |nil=>
   rw[htg]at hw9
   refine AD ha (Al hw9 rfl (Or.inl ⟨rfl, ?_⟩))
   cases hw with
   |one a=>
    rw[Nw htg]at hZ2
    refine⟨by decide,by decide,by decide,B,(hZ2 ⟨?_,hs'.2⟩ _ _ rfl rfl).1⟩
    rw[List.length_append];exact Nat.succ_le_succ hs'.1
   |two a b=>
    rw[Nv htg]at hZ2
    exact(hZ2 ⟨Nat.le_succ_of_le hs'.1,hs'.2⟩ _ _ rfl rfl).1
  |cons n t=>
   rw[htg]at hw9 ht
   rw[LR htg hw]at hZ2
   have en:((n::t).map fun n=>Tr.int (Int.ofNat n))=((n::t).map Int.ofNat).map Tr.int:=by rw[List.map_map];rfl
   have n4:0≤Int.ofNat n∧Int.ofNat n<4:=⟨Int.natCast_nonneg _,Int.ofNat_lt.mpr (ht n List.mem_cons_self)⟩
   have ef:key.fdiv 2=key/2:=Int.fdiv_eq_ediv_of_nonneg _ (by decide)
   refine AD ha (Al hw9 rfl (Or.inl ⟨rfl,n4,by decide,by decide, ?_⟩))
   by_cases h2:key<2
   ·rw[if_pos h2,if_pos h2]at hZ2
    refine AD (a:=13) (by rw[show key.fdiv 2=0 by lia];rfl) ⟨n::t,en,ht,(hZ2 ⟨Nat.le_succ_of_le hs'.1,hs'.2⟩ _ _ rfl ?_).1⟩
    exact Wr
   ·rw[if_neg h2,if_neg h2]at hZ2
    refine AD (a:=14) (by rw[show key.fdiv 2=1 by lia];rfl) ⟨n::t,en,ht,(hZ2 ⟨Nat.le_succ_of_le hs'.1,hs'.2⟩ _ _ rfl ?_).1⟩
    exact Wq
 ·generalize ws.foldl (CT A key) s=s2 at hs' hZ⊢
  rw[show ws.length=12 by rw[←hws];rfl]at hs'
  clear hws
  refine Ag (f:=Tr.int) (fun zz=>ρS is us T cs en full [(Aw,vi key)]) (lS p) (MD A key) (fun j s'=>s'.pl=s2.pl∧s'.bk.length≤s.bk.length+j) [1,2] s2 ⟨rfl,by rw[hs'.2];exact Nat.le_refl _⟩ (fun j s' q hj hs' Z2 hZ2=> ?_) (fun hs3=> ?_)
  ·have hq:1≤q∧q<3:=by
    rcases List.mem_cons.mp (List.mem_of_getElem? hj)with h|h
    ·rw[h];decide
    ·rw[List.mem_singleton.mp h];decide
   have hj2:j<2:=Au hj
   refine hid fun Gg gg=> ?_
   obtain⟨r,e0,_⟩:=g.row (show q.toNat<3 by exact l11 (Hh W0 W3 (He (.c W0) W0 (Gc W0 Y3))) rfl hq.2 (Int.toNat_of_nonneg (l01 (Ha Z1 W0 (Ga Z0 W0)) rfl hq.1)))
   obtain⟨t,e1,_⟩:=g.tag (show q.toNat<3 by exact l11 (Hh W0 W3 (He (.c W0) W0 (Gc W0 Y3))) rfl hq.2 (Int.toNat_of_nonneg (l01 (Ha Z1 W0 (Ga Z0 W0)) rfl hq.1)))
   refine gg ?_
   have hb:bkP A q=(t.isEmpty&&decide (-1∈r)):=by rw[bkP,e0,e1,Option.getD_some,Option.getD_some,List.contains_eq_mem]
   have hB:s'.bk.length+1≤1048576:=by exact l40 (Hb W0 (.m 2 X1) (.H .nlt 2 X1 Y4 (Hb X2 (.a W0 X3) (Hg X3 Y2 (Gb (.a X2 Y1) Yb))))) rfl hs.2 hi4 hs'.2 hj2
   unfold MD at hZ2
   rw[hb]at hZ2
   refine AD ha (AD (AN (f:=Bv) (by exact l01 (Ha Z1 W0 (Ga Z0 W0)) rfl hq.1) e1) (Or.inl ⟨rfl, ?_⟩))
   rw[List.isEmpty_map]
   refine A6 (fun h1=>AD ha (AD (AN (f:=AQ) (by exact l01 (Ha Z1 W0 (Ga Z0 W0)) rfl hq.1) e0) (AD (E4 r) (A6 (fun h2=> ?_) fun h2=> ?_)))) fun h1=> ?_
   ·rw[h1,h2,if_pos (show(true&&true)=true from rfl)]at hZ2
    refine⟨by decide,by decide,by decide,hB,(hZ2 ⟨hs'.1, ?_⟩ _ _ rfl rfl).1⟩
    rw[List.length_append];exact Nat.succ_le_succ hs'.2
   ·rw[h1,h2,if_neg (by decide)]at hZ2
    exact(hZ2 ⟨hs'.1,Nat.le_succ_of_le hs'.2⟩ _ _ rfl rfl).1
   ·rw[h1,if_neg (show¬(false&&decide (-1∈r))=true from Bool.false_ne_true)]at hZ2
    exact(hZ2 ⟨hs'.1,Nat.le_succ_of_le hs'.2⟩ _ _ rfl rfl).1
  ·refine(hZ ⟨?_, ?_⟩ _ _ rfl rfl).1
   ·rw[hs3.1];exact hs'.1
   ·exact Nat.le_trans hs3.2 (Nat.add_le_add_right hs.2 2)
end
end
section
noncomputable def ρR(is us:List Int)(T:BA)(cs:List Nat)(en:Int)(full:Bool)(R:Rho):Rho:=[(xscript, .t (vSc is)),(BO, .clo (us.map Tr.int) 1),(AF,vb T.dflt),(C1,vi en),(AY, .t (.fl (T.rules.map fun p=>AT p.2))),(BF, .ref 3),(Bw, .ref 4),(AK,vs (txt cs)),(Aq,vb full),(AH, .t (vAs T.auts))]++R
noncomputable def lR(p:Int)(cu ce:List (Int×Tr))(N:LH):LH:=[.tab, .list [.int p], .gone, .dict cu, .dict ce, .gone, .gone]++N
noncomputable def Us(a:Nat→Aut):List (Int×Tr):=[(0,A8 (a 0)),(1,A8 (a 1)),(2,A8 (a 2)),(3,A8 (a 3))]
structure Vm(T:BA)(cu ce:List (Int×Tr)):Prop where
 c1:cu.map (·.1)=T.cuts
 c2:cu.map (·.2)=T.cuts.map fun zz=>vCut
 e1:ce.map (·.1)=T.ends
 e2:ce.map (·.2)=T.ends.map fun zz=> .int 3
section
variable{k:Nat}{x:Prop}{T:BA}{cs:List Nat}{is us:List Int}{en p:Int}{full:Bool}{cu ce:List (Int×Tr)}
noncomputable def ρF(is us:List Int)(T:BA)(cs:List Nat)(en:Int)(full:Bool)(cu:List (Int×Tr))(R:Rho):Rho:=[(xscript, .t (vSc is)),(BO, .clo (us.map Tr.int) 1),(AF,vb T.dflt),(C1,vi en),(AY, .t (.fl (T.rules.map fun p=>AT p.2))),(BF, .t (.fd (cu.map (·.1)) (cu.map (·.2)))),(Bw, .ref 4),(AK,vs (txt cs)),(Aq,vb full),(AH, .t (vAs T.auts)),(Ak, .t (.fl (T.rules.map Bn))),(FH, .t (.fd [0,1,2,3] (JC T.auts))),(BR, .t vCls)]++R
noncomputable def Ea:Nat→Sts→Sts→Sts
 |0,_,r=>r
 |n+1, .c a s,r=> .c a (Ea n s r)
 |_,_,r=>r
theorem cy{r:Sts}{Q:QS}(d:Vm T cu ce){K:KT'}(e:K=AC (k+9) False)(h:A4 (wss r ⟨K,K,x⟩ (ρT is us T cs en full []) Q (lT p []))):A4 (wss (Ea 2 (Ad 21 Aj) r) ⟨K,K,x⟩ (ρF is us T cs en full cu []) Q [.tab, .list [.int p], .gone, .gone, .dict ce, .gone, .gone, .gone, .gone, .gone]):=by
 constructor
 have h166:Ret K 166 [.t vCls, .t EQ, .t (.fd [0,1,2,3] (JC T.auts)), .t (.fl (T.rules.map Bn)), .t (.fd T.cuts (T.cuts.map fun zz=>vCut)), .t (.fd T.ends (T.ends.map fun zz=> .int 3)),vb T.dflt] (AU T):=e▸fm
 replace h:=h.get
 unfold ρT at h
 rw[←d.c2,←d.c1,←d.e2,←d.e1]at h h166
 clear d e
 refine Al h166 rfl ?_
 exact h
theorem cz{r:Sts}{Q:QS}{K:KT'}(e:K=AC (k+9) False)(h:A4 (wss r ⟨K,K,x⟩ (ρF is us T cs en full cu []) Q [.tab, .list [.int p], .gone, .gone, .dict ce, .gone, .gone, .gone, .gone, .gone])):A4 (wss (Ea 4 (Ad 17 Aj) r) ⟨K,K,x⟩ (ρR is us T cs en full [(Ak, .ref 7),(FH, .ref 8)]) Q (lR p cu ce [.list (T.rules.map Bn), .dict (Us T.auts)])):=by
 constructor
 have h403:∀n:Nat,n=97∨n=98→Ret K 403 [.t (.str ⟨#[n]⟩)] _:=fun n h=>e▸fT h
 have h596:Ret K 596 _ _:=e▸fN
 replace h:=h.get
 refine Al (h403 97 (.inl rfl)) rfl (Al (h403 98 (.inr rfl)) rfl ?_)
 refine Al h596 rfl ?_
 exact h
theorem PG{d:List (Int×Tr)}{i:Int}{v:Tr}:(BX d i v).length≤d.length+1:=by
 unfold BX
 split
 ·rw[List.length_map];exact Nat.le_succ _
 ·rw[List.length_append];exact Nat.le_refl _
theorem Cw.src(v:Cw T cs):Hp 0 (T.rules.length:Nat) 1=some (T.rules.map fun q=>Tr.int q.1):=by
 rw[show(T.rules.map fun q=>Tr.int q.1)=(T.rules.map (·.1)).map Tr.int by rw[List.map_map];rfl,←List.length_map (f:=(·.1)) (as:=T.rules)]
 rcases v.num with⟨h,_⟩|⟨h,_⟩<;>rw[h]<;>kernel_rfl
theorem c6{r:Sts}{Q:QS}(v:Cw T cs){K:KT'}(e:K=AC (k+9) False)(h:A4 (wss r ⟨K,K,x⟩ (ρR is us T cs en full [(Ak, .ref 7)]) Q (lR p cu ce [.list (T.rules.map Bn)]))):A4 (wss (Ea 2 (Ad 13 Aj) r) ⟨K,K,x⟩ (ρR is us T cs en full []) Q (lR p cu ce [])):=by
 constructor
 have h632:∀q:Str×Tr,Ret K 632 [.t (.str q.1), .t q.2] (EP q):=fun q=>e▸fM
 have h691:∀(n:Int) (j:Nat),Ret K 691 [vi n, .t (.tup [.int 0, .int 1]), .t .none, .t (.fl ((Ck j).map EP)),vi (n+1)] (Bn (n,j)):=fun n j=>e▸fL
 replace h:=h.get
 refine⟨_,by rw[List.length_map];exact v.src, ?_⟩
 refine Ag (f:=fun q:Int×Nat=>Tr.int q.1) (fun zz=>ρR is us T cs en full [(Ak, .ref 7)]) (fun s:List Tr=>lR p cu ce [.list s]) (fun s q=>s++[Bn q]) (fun i s=>s.length=i) T.rules [] rfl (fun i s q hi hs Z hZ=> ?_) (fun zz=> ?_)
 ·obtain⟨j,ej,_⟩:=v.hr.hr i (Au hi)
  have hl:s.length<4:=by rw[hs];exact Nat.lt_of_lt_of_le (Au hi) v.len
  rw[show T.rules[i]? =some ((i:Int),j)from ej]at hi
  cases hi
  refine AD (AN (f:=fun q:Int×Nat=>AT q.2) (Int.natCast_nonneg i) ej) ?_
  refine C4 (f:=NX) (g:=EP) (Ck j) (fun q zz yes zz z=>Al (h632 q) rfl (z _ rfl)) ?_
  refine Al (h691 _ j) rfl ⟨by exact l10 (Hg W0 Y4 (Gb (.a W0 Y1) Yb)) rfl hl,(hZ (by rw[List.length_append,hs];rfl) _ _ rfl rfl).1⟩
 ·rw[HT,List.nil_append]
  exact h
theorem c5{r:Sts}{Q:QS}(hg:∀i,An (T.auts i)){K:KT'}(e:K=AC (k+9) False)(h:A4 (wss r ⟨K,K,x⟩ (ρR is us T cs en full [(Ak, .ref 7),(FH, .ref 8)]) Q (lR p cu ce [.list (T.rules.map Bn), .dict (Us T.auts)]))):A4 (wss (Ea 2 (Ad 15 Aj) r) ⟨K,K,x⟩ (ρR is us T cs en full [(Ak, .ref 7)]) Q (lR p cu ce [.list (T.rules.map Bn)])):=by
 constructor
 have h76:∀A:Aut,Ret K 76 [.t (.fl (A.rows.map AQ)), .t (.fl (A.tags.map Bv))] (A8 A):=fun A=>e▸c76
 replace h:=h.get
 refine⟨_,Xk, ?_⟩
 refine Ag (f:=Tr.int) (fun zz=>ρR is us T cs en full [(Ak, .ref 7),(FH, .ref 8)]) (fun d=>lR p cu ce [.list (T.rules.map Bn), .dict d]) (fun d key=>BX d key (A8 (T.auts key.toNat))) (fun i d=>d.length≤i) BG [] (Nat.le_refl _) (fun i d key hi hs Z hZ=> ?_) (fun zz=> ?_)
 ·have ha:=Gn (a:=T.auts) (in4 (List.mem_of_getElem? hi))
  have hi4:i<4:=by have:=Au hi;rw[BU]at this;exact this
  exact AD ha (AD ha (Al (h76 _) rfl ⟨by exact l20 (Hb W0 X1 (Hg X1 Y4 (Gb (.a W0 Y1) Yb))) rfl hs hi4,(hZ (Nat.le_trans PG (Nat.succ_le_succ hs)) _ _ rfl rfl).1⟩))
 ·rw[BU]
  exact h
theorem eH(v:Cw T cs)(d:Vm T cu ce){K:KT'}(e:K=AC (k+9) False):A4 (wss (Ad 13 Aj) ⟨K,K,x⟩ (ρR is us T cs en full []) (DX Om) (lR p cu ce [])):=
 c6 (r:=Ad 15 Aj) v e (c5 (r:=Ad 17 Aj) v.o.hg e (cz (r:=Ad 21 Aj) e (cy (r:=Ad 23 Aj) d e (eG v e))))
end
end
section
theorem Pr(cs:List Nat):Txt.join (⟨⟨[]⟩⟩:Str) (cs.map sgn)=txt cs:=by
 show Builtin.Str.glued _ _=_
 rw[StrLaws.glued_eq_join]
 induction cs with
 |nil=>rfl
 |cons c r ih=>
  cases r with
  |nil=>rfl
  |cons d r=>
   rw[List.map_cons,List.map_cons]
   show sgn c++_++Str.join _ ((d::r).map sgn)=_
   rw[ih]
   show(⟨(#[c]++ #[])++⟨d::r⟩⟩:Str)=⟨⟨c::d::r⟩⟩
   simp
theorem Ml:∀cs:List Nat,((cs.map sgn).map (·.length)).sum=cs.length
 |[]=>rfl
 |c::r=>by rw[List.map_cons,List.map_cons,List.sum_cons,Ml r];exact Nat.add_comm 1 r.length
noncomputable def ρQ(is us:List Int)(df:Bool)(en:Int)(R:Rho):Rho:=[(xscript, .t (vSc is)),(BO, .clo (us.map Tr.int) 1),(AF,vb df),(C1,vi en),(AY, .ref 2),(BF, .ref 3),(Bw, .ref 4)]++R
noncomputable def lQ(p:Int)(sl:List Nat)(cu ce:List (Int×Tr))(N:LH):LH:=tkH p++([.list (sl.map AT), .dict cu, .dict ce]++N)
noncomputable def Rl(c:Nat):Prop:=c=97∨c=98∨c=10∨c=99
theorem Sp{r:Int}(h:0≤r∧r<5):∃c,LB (txt [97,98,10,97,99]) r=some c∧Rl c:=by
 obtain⟨n,rfl⟩:=Int.eq_ofNat_of_zero_le h.1
 have:n=0∨n=1∨n=2∨n=3∨n=4:=by lia
 rcases this with rfl|rfl|rfl|rfl|rfl<;>exact⟨_,Dp (by decide) rfl,by unfold Rl;decide⟩
section
variable{k:Nat}{x:Prop}{is us:List Int}{df:Bool}{en p:Int}{sl:List Nat}{cu ce:List (Int×Tr)}{r:Sts}{Q:QS}{K:KT'}
theorem Yi{a:Addr}{vl:List V}{P:Tr→Int→Prop}{Q:Post}{R:LH}(h:UN K a vl p P)(hv:vl.all (Bs 2)=true)(hq:∀x p',P x p'→Q (.t x) (tkH p'++R)):FK K 2 (fnV a) vl Q (tkH p++R):=
 CE hv (h.run _ fun x p' hx=>by cases R<;>exact hq x p' hx)
theorem st8(hT:∀lim q,0≤q∧q≤400→0<lim→IN K us lim q)(hp:0≤p∧p≤50)(h:∀cs p',(∀c∈cs,Rl c)→cs.length≤5→p≤p'∧p'≤p+6→A4 (wss r ⟨K,K,x⟩ (ρQ is us df en [(AK,vs (txt cs))]) Q (lQ p' sl cu ce [.gone]))):
 A4 (wss (Ea 1 (Ad 8 Aj) r) ⟨K,K,x⟩ (ρQ is us df en []) Q (lQ p sl cu ce [])):=by
 constructor
 refine Dh (R:=[.list (sl.map AT), .dict cu, .dict ce]) (hT 4 p (by exact(⟨hp.1,l01 (Ha W0 (.z 50) (Ga W0 (.z 400))) rfl hp.2⟩)) (by decide)) fun v v0 v1=> ?_
 refine⟨_,J5 (a:=0) (b:=2+v) (by decide) (by exact(⟨l01 (Ha Z0 W0 (Ga (.z (-1000)) (.a U2 W0))) rfl v0,l01 (Hh W0 (.z 4) (Ga (.a U2 W0) (.z 1000))) rfl v1⟩)), ?_⟩
 refine Jk (f:=Tr.int) (fun j L acc=>∃cs:List Nat,L=lQ (p+1+j) sl cu ce []∧acc=(cs.map sgn).map Tr.str∧cs.length=j∧∀c∈cs,Rl c) (upI 0 (2+v)) (i:=0) ⟨[],by rw[Int.natCast_zero,Int.add_zero];rfl,rfl,rfl,fun c h=>absurd h List.not_mem_nil⟩ ?_ ?_
 ·rintro j y _ _ hj ⟨cs,rfl,rfl,hl,hcs⟩ yes no hy _
  rw[Nat.zero_add]at hl hy⊢
  have hj:=(J3 hj).2.2
  refine Dh (R:=[.list (sl.map AT), .dict cu, .dict ce]) (hT 5 (p+1+j) (by exact(⟨l21 (.P 0 1 (Ha Z0 W0 (Hc W0 X1 (Ga Z0 (.a (.a W0 Z1) (.c X1)))))) rfl hp.1 hl,l22 (Ha W0 (.z 50) (Hh X1 (.z 4) (Hg W0 X1 (He (.c X1) (.s (.a U2 X1) Z0) (Ga (.a (.a W0 Z1) (.c W0)) (.z 400)))))) rfl hp.2 v1 hj (Int.toNat_of_nonneg (l01 (Ha Z0 W0 (Ga Z0 (.s (.a U2 W0) Z0))) rfl v0))⟩)) (by decide)) fun w w0 w1=> ?_
  obtain⟨c,hc,hs⟩:=Sp ⟨w0,w1⟩
  refine⟨by decide,AD hc (hy _ _ ⟨cs++[c], ?_, ?_, ?_, ?_⟩)⟩
  ·rw[show p+1+((j+1:Nat):Int)=p+1+(j:Int)+1 by exact l11 (Ge (.a (.a W0 Z1) (.c (.a W0 Y1))) (.a (.a (.a W0 Z1) (.c W0)) Z1)) rfl];rfl
  ·rw[List.map_append,List.map_append];rfl
  ·rw[List.length_append,hl];rfl
  ·exact fun d hd=>(List.mem_append.mp hd).elim (hcs d) fun q=>List.mem_singleton.mp q▸hs
 ·rintro _ _ ⟨cs,rfl,rfl,hl,hcs⟩
  rw[Nat.zero_add]at hl⊢
  have hl5:(upI 0 (2+v)).length≤5:=by rw[upI,List.length_map,List.length_range];exact(l11 (Hh W0 (.z 4) (He (.c W0) (.s (.a U2 W0) Z0) (Gb W0 (.n 5)))) rfl v1 (Int.toNat_of_nonneg (l01 (Ha Z0 W0 (Ga Z0 (.s (.a U2 W0) Z0))) rfl v0)))
  generalize(upI 0 (2+v)).length=n at hl hl5⊢
  have h:=(h cs (p+1+n) hcs (by exact l20 (Hc W0 X1 (Hb X1 (.n 5) (Gb W0 (.n 5)))) rfl hl hl5) (by exact(⟨l21 (.P 0 1 (Hc W0 X1 (Ga W0 (.a (.a W0 Z1) (.c X1))))) rfl hl,l11 (Hb W0 (.n 5) (Ga (.a (.a W0 Z1) (.c W0)) (.a W0 (.z 6)))) rfl hl5⟩))).get
  refine⟨cs.map sgn,rfl,by rw[Ml];show cs.length+_*0≤_;lia, ?_⟩
  rw[Pr]
  exact h
theorem st9{tx:Str}(hT:∀lim q,0≤q∧q≤400→0<lim→IN K us lim q)(hp:0≤p∧p≤400)(h:∀full,A4 (wss r ⟨K,K,x⟩ (ρQ is us df en [(AK,vs tx),(Aq,vb full)]) Q (lQ (p+1) sl cu ce [.gone]))):
 A4 (wss (Ea 1 (Ad 9 Aj) r) ⟨K,K,x⟩ (ρQ is us df en [(AK,vs tx)]) Q (lQ p sl cu ce [.gone])):=by
 constructor
 refine Dh (R:=[.list (sl.map AT), .dict cu, .dict ce, .gone]) (hT 4 p hp (by decide)) fun v v0 v1=> ?_
 have h:=(h (v==3)).get
 exact h
theorem c8{tx:Str}{full:Bool}(hA:∀q,0≤q∧q≤300→UN K 910 [.clo (us.map Tr.int) 1,vb full] q fun x p'=>∃A,x=CN A∧An A∧q≤p'∧p'≤q+20)(hp:0≤p∧p≤100)
 (h:∀(a:Nat→Aut) p',(∀i,An (a i))→A4 (wss r ⟨K,K,x⟩ (ρQ is us df en [(AK,vs tx),(Aq,vb full),(AH, .ref 6)]) Q (lQ p' sl cu ce [.gone, .list [CN (a 0),CN (a 1),CN (a 2),CN (a 3)]]))):
 A4 (wss (Ea 1 (Ad 10 Aj) r) ⟨K,K,x⟩ (ρQ is us df en [(AK,vs tx),(Aq,vb full)]) Q (lQ p sl cu ce [.gone])):=by
 constructor
 refine⟨_,Xk, ?_⟩
 have h4:BG.length=4:=by rw[BU];rfl
 refine Jk (f:=Tr.int) (fun j L acc=>∃(as:List Aut) (q:Int),L=lQ q sl cu ce [.gone]∧acc=as.map CN∧as.length=j∧(∀A∈as,An A)∧0≤q∧q≤p+20*j) BG (i:=0) ⟨[],p,rfl,rfl,rfl,fun c h=>absurd h List.not_mem_nil,hp.1,by exact l01 (Ga W0 (.a W0 (.p 20 (.c Y0)))) rfl⟩ ?_ ?_
 ·rintro j y _ _ hj ⟨as,q,rfl,rfl,hl,hg,q0,q1⟩ yes no hy _
  rw[Nat.zero_add]at hl hy q1
  have hj:j<4:=h4▸Au hj
  refine Yi (R:=[.list (sl.map AT), .dict cu, .dict ce, .gone]) (hA q (by exact(⟨q0,l12 (Ha W0 (.z 100) (Ha X1 (.a W0 (.p 20 (.c W0))) (.H .nlt 20 W0 Y4 (Ga X1 (.z 300))))) rfl hp.2 q1 hj⟩))) rfl ?_
  rintro _ p' ⟨A,rfl,gA,p0,p1⟩
  refine hy _ _ ⟨as++[A],p',rfl,by rw[List.map_append];rfl,by rw[List.length_append,hl];rfl,fun B hB=>(List.mem_append.mp hB).elim (hg B) fun q=>List.mem_singleton.mp q▸gA,by exact l02 (Ha Z0 W0 (Ha W0 X1 (Ga Z0 X1))) rfl q0 p0,by exact l13 (Ha W0 (.a X1 (.p 20 (.c W0))) (Ha X2 (.a W0 (.z 20)) (Ga X2 (.a X1 (.p 20 (.c (.a W0 Y1))))))) rfl q1 p1⟩
 ·rintro _ _ ⟨as,q,rfl,rfl,hl,hg,_,_⟩
  rw[Nat.zero_add,h4]at hl
  match as,hl with
  |[A0,A1,A2,A3],_=>
   have h:=(h (fun i=>([A0,A1,A2,A3][i]?).getD A0) q fun i=>by
    cases e:[A0,A1,A2,A3][i]? with
    |none=>exact hg _ List.mem_cons_self
    |some B=>exact hg _ (List.mem_of_getElem? e)).get
   exact h
theorem c7{T:BA}{cs:List Nat}{full:Bool}(hs:T.rules.map (fun p=>AT p.2)=sl.map AT)(h:A4 (wss r ⟨K,K,x⟩ (ρR is us T cs en full []) Q (lR p cu ce []))):
 A4 (wss (Ea 2 (Ad 11 Aj) r) ⟨K,K,x⟩ (ρQ is us T.dflt en [(AK,vs (txt cs)),(Aq,vb full),(AH, .ref 6)]) Q (lQ p sl cu ce [.gone, .list [CN (T.auts 0),CN (T.auts 1),CN (T.auts 2),CN (T.auts 3)]])):=by
 constructor
 have h:=h.get
 unfold ρR at h
 rw[hs]at h
 exact h
end
end
section
noncomputable def ρ0(is us:List Int)(df:Bool)(en:Int)(R:Rho):Rho:=[(xscript, .t (vSc is)),(BO, .clo (us.map Tr.int) 1),(AF,vb df),(C1,vi en)]++R
noncomputable def Cv(v:Tr)(l:List Int):List (Int×Tr):=l.map fun c=>(c,v)
noncomputable def lC(p:Int)(sl:List Nat)(cl:List Int)(N:LH):LH:=tkH p++([.list (sl.map AT), .dict (Cv vCut cl)]++N)
noncomputable def Yl:Sts→Sts
 | .c (.ite _ a _) _=>a
 |_=> .n
theorem Tj{v:Tr}{cl:List Int}{i:Int}(h:∀c∈cl,c<i):BX (Cv v cl) i v=Cv v (cl++[i]):=by
 unfold BX Cv
 rw[if_neg,List.map_append]
 ·rfl
 ·intro q
  rw[List.any_map]at q
  obtain⟨c,hc,e⟩:=List.any_eq_true.mp q
  have:=h c hc
  have e:c=i:=of_decide_eq_true e
  exact(l02 (Hh W0 X1 (Hf W0 X1 .f)) rfl this e)
theorem ND{v:Tr}{l:List Int}:(Cv v l).map (·.1)=l:=by
 rw[Cv,List.map_map];exact List.map_id l
theorem NC{v:Tr}{l:List Int}:(Cv v l).map (·.2)=l.map fun zz=>v:=by
 rw[Cv,List.map_map];rfl
theorem PJ{r:Int}(h:0≤r∧r<6):CW [AT 0,AT 1,AT 2,AT 3,AT 4,AT 5] r=some (AT r.toNat):=by
 obtain⟨n,rfl⟩:=Int.eq_ofNat_of_zero_le h.1
 have:n=0∨n=1∨n=2∨n=3∨n=4∨n=5:=by lia
 rcases this with rfl|rfl|rfl|rfl|rfl|rfl<;>rfl
section
variable{k:Nat}{x:Prop}{is us:List Int}{df:Bool}{en p i:Int}{sl:List Nat}{cl:List Int}{r:Sts}{Q:QS}{K:KT'}
theorem st0(h905:YN K is)(hT:∀us:List Int,us≠[]→us.length≤63→∀lim q,0≤q∧q≤400→0<lim→IN K us lim q)
 (h:∀(us:List Int) df en,us≠[]→us.length≤63→0≤en∧en<3→A4 (wss r ⟨K,K,x⟩ (ρ0 is us df en []) Q (tkH 2))):A4 (wss (Ea 3 Aj r) ⟨K,K,x⟩ [(xscript, .t (vSc is))] Q [.raw o9]):=by
 constructor
 refine CE rfl (h905.run _ fun us hu hu2=> ?_)
 refine Dh (R:=[]) (hT us hu hu2 3 0 (by decide) (by decide)) fun v v0 v1=> ?_
 refine Dh (R:=[]) (hT us hu hu2 3 1 (by decide) (by decide)) fun w w0 w1=> ?_
 have h:=(h us (!(v==0)) w hu hu2 ⟨w0,w1⟩).get
 exact h
theorem WG(h76:Ret K 76 [.t (.fl [.fl [.int 0, .int 0, .int 0]]), .t (.fl [.tup [.int 0]])] (A8 E8))(h117:Ret K 117 [.t (.str ⟨#[115,101,97,114,99,104]⟩), .t .none, .t (A8 E8), .t (A8 E8)] vCut)(hc:∀c∈cl,c<i)(hl:cl.length≤10)
 (h:A4 (wss r ⟨K,K,x⟩ (ρ0 is us df en [(AY, .ref 2),(BF, .ref 3),(AB,vi i)]) Q (lC p sl (cl++[i]) [.gone, .gone, .gone, .gone, .gone, .gone]))):A4 (wss (Ea 1 (Yl (NP (Ad 5 Aj))) r) ⟨K,K,x⟩ (ρ0 is us df en [(AY, .ref 2),(BF, .ref 3),(AB,vi i)]) Q (lC p sl cl [])):=by
 constructor
 have h:=h.get
 rw[lC,←Tj hc]at h
 have B:(Cv vCut cl).length+1≤1048576:=by rw[Cv,List.length_map];exact(l10 (Hb W0 (.n 10) (Gb (.a W0 Y1) Yb)) rfl hl)
 refine Al (L:=lC p sl cl [.gone, .gone, .gone]) h76 rfl ?_
 refine Al (L:=lC p sl cl [.gone, .gone, .gone, .gone, .gone, .gone]) h76 rfl ?_
 refine Al (L:=lC p sl cl [.gone, .gone, .gone, .gone, .gone, .gone]) h117 rfl ⟨B, ?_⟩
 exact h
theorem WH{N:LH}(hT:IN K us 6 p)(hl:sl.length≤10)(h:∀y,y<6→A4 (wss r ⟨K,K,x⟩ (ρ0 is us df en [(AY, .ref 2),(BF, .ref 3),(AB,vi i)]) Q (lC (p+1) (sl++[y]) cl N))):A4 (wss (Ea 1 (Ad 1 (NP (Ad 5 Aj))) r) ⟨K,K,x⟩ (ρ0 is us df en [(AY, .ref 2),(BF, .ref 3),(AB,vi i)]) Q (lC p sl cl N)):=by
 constructor
 refine Dh (R:=[.list (sl.map AT), .dict (Cv vCut cl)]++N) hT fun w w0 w1=> ?_
 have h:=(h w.toNat (by exact l11 (Hh W0 (.z 6) (He (.c W0) W0 (Gc W0 (.n 6)))) rfl w1 (Int.toNat_of_nonneg w0))).get
 rw[lC,List.map_append]at h
 refine AD (PJ ⟨w0,w1⟩) ⟨by rw[List.length_map];exact(l10 (Hb W0 (.n 10) (Gb (.a W0 Y1) Yb)) rfl hl), ?_⟩
 exact h
theorem st3(hT:∀lim q,0≤q∧q≤400→0<lim→IN K us lim q)(h76:Ret K 76 [.t (.fl [.fl [.int 0, .int 0, .int 0]]), .t (.fl [.tup [.int 0]])] (A8 E8))(h117:Ret K 117 [.t (.str ⟨#[115,101,97,114,99,104]⟩), .t .none, .t (A8 E8), .t (A8 E8)] vCut)
 (h:∀sl cl p,sl.length=3→(∀y∈sl,y<6)→(∀c∈cl,c<3)→0≤p∧p≤20→A4 (wss r ⟨K,K,x⟩ (ρ0 is us df en [(AY, .ref 2),(BF, .ref 3)]) Q (lC p sl cl []))):A4 (wss (Ea 3 (Ad 3 Aj) r) ⟨K,K,x⟩ (ρ0 is us df en []) Q (tkH 2)):=by
 constructor
 refine⟨_,NM, ?_⟩
 refine E5 (f:=Tr.int) (fun i ρ L=>∃(sl:List Nat) (cl:List Int) (q:Int),ρ=ρ0 is us df en [(AY, .ref 2),(BF, .ref 3)]∧L=lC q sl cl []∧sl.length=i∧(∀y∈sl,y<6)∧(∀c∈cl,c<i)∧cl.length≤i∧0≤q∧q≤2+2*i) [0,1,2] (i:=0) ⟨[],[],2,rfl,rfl,rfl,fun y h=>absurd h List.not_mem_nil,fun y h=>absurd h List.not_mem_nil,Nat.le_refl _,by decide,by decide⟩ ?_ ?_
 ·rintro i n _ _ hi ⟨sl,cl,q,rfl,rfl,hl,h6,hc,hcl,q0,q1⟩ Z hZ _ _
  rw[Nat.zero_add]at hl hc hcl q1 hZ
  obtain⟨rfl,hi3⟩:=bn hi
  clear h hi
  have ap:∀cl N,(∀c∈cl,c<(i:Int)+1)→cl.length≤i+1→A4 (wss (Ea 1 (Ad 1 (NP (Ad 5 Aj))) .n) ⟨K,K,x⟩ (ρ0 is us df en [(AY, .ref 2),(BF, .ref 3),(AB,vi i)]) Z (lC (q+1) sl cl N)):=fun cl N hc hcl=>
   WH (hT 6 (q+1) (by exact(⟨l01 (Ha Z0 W0 (Ga Z0 (.a W0 Z1))) rfl q0,l11 (Ha W0 (.a U2 (.p 2 (.c W0))) (.H .nlt 2 W0 Y3 (Ga (.a W0 Z1) (.z 400)))) rfl q1 hi3⟩)) (by decide)) (by exact l20 (Hc W0 X1 (Hg X1 Y3 (Gb W0 (.n 10)))) rfl hl hi3) fun y hy=>⟨(hZ _ _ ⟨sl++[y],cl,q+1+1,rfl,rfl,by rw[List.length_append,hl];rfl,fun z hz=>(List.mem_append.mp hz).elim (h6 z) fun q=>List.mem_singleton.mp q▸hy,fun c h=>by have:=hc c h;assumption,hcl,by exact l01 (Ha Z0 W0 (Ga Z0 (.a (.a W0 Z1) Z1))) rfl q0,by exact l11 (Ha W0 (.a U2 (.p 2 (.c W0))) (Ga (.a (.a W0 Z1) Z1) (.a U2 (.p 2 (.c (.a W0 Y1)))))) rfl q1⟩).1⟩
  refine Dh (R:=[.list (sl.map AT), .dict (Cv vCut cl)]) (hT 2 q (by exact(⟨q0,l11 (Ha W0 (.a U2 (.p 2 (.c W0))) (.H .nlt 2 W0 Y3 (Ga W0 (.z 400)))) rfl q1 hi3⟩)) (by decide)) fun w w0 w1=> ?_
  refine C3 (fun zz=> ?_) fun zz=> ?_
  ·have hh:=WG (x:=x) (r:= .n) (Q:=NY (fun ρ' L'=>wss (Ea 1 (Ad 1 (NP (Ad 5 Aj))) .n) ⟨K,K,x⟩ ρ' Z L') Z) h76 h117 hc (by exact l20 (Hb W0 X1 (Hg X1 Y3 (Gb W0 (.n 10)))) rfl hcl hi3) ⟨(ap (cl++[(i:Int)]) _ (fun c h=>(List.mem_append.mp h).elim (fun h=>Int.lt_trans (hc c h) (Int.lt_succ _)) fun h=>by rw[List.mem_singleton.mp h];exact Int.lt_succ _) (by rw[List.length_append];exact Nat.succ_le_succ hcl)).get⟩
   cases hh;assumption
  ·have hh:=ap cl [] (fun c h=>Int.lt_trans (hc c h) (Int.lt_succ _)) (Nat.le_succ_of_le hcl)
   cases hh;assumption
 ·rintro _ _ ⟨sl,cl,q,rfl,rfl,hl,h6,hc,hcl,q0,q1⟩
  have h:=(h sl cl q hl h6 hc ⟨q0,Int.le_trans q1 (by decide)⟩).get
  exact h
end
end
section
structure UL(sl:List Nat)(es:List Int):Prop where
 l6:∀y∈sl,y<6
 ne:(sl.length=3∧es=[])∨(∃s y,sl=s++[y]∧s.length=3∧y≠3∧es≠[])
noncomputable def B0:Nat→List Nat→List (Int×Nat)
 |_,[]=>[]
 |i,y::r=>((i:Int),y)::B0 (i+1) r
theorem Ke:∀{l:List Nat}{i m:Nat},m<l.length→∃y∈l,(B0 i l)[m]? =some (((i+m:Nat):Int),y)
 |y::r,i,0,_=>⟨y,List.mem_cons_self,rfl⟩
 |y::r,i,m+1,h=>by
  obtain⟨z,hz,e⟩:=Ke (l:=r) (i:=i+1) (Nat.lt_of_succ_lt_succ h)
  exact⟨z,List.mem_cons_of_mem _ hz,by rw[show i+(m+1)=i+1+m by exact l20 (Gf (.a W0 (.a X1 Y1)) (.a (.a W0 Y1) X1)) rfl];exact e⟩
theorem FS:∀{l:List Nat}{i:Nat},(B0 i l).length=l.length
 |[],_=>rfl
 |_::r,i=>congrArg Nat.succ (FS (l:=r))
theorem Kd:∀{l:List Nat}{i:Nat},(B0 i l).map (fun p=>AT p.2)=l.map AT
 |[],_=>rfl
 |_::r,i=>congrArg (_::·) (Kd (l:=r))
theorem UL.law{sl:List Nat}{es cl:List Int}{a:Nat→Aut}{df:Bool}{cs:List Nat}(h:UL sl es)(hg:∀i,An (a i))(hc:∀c∈cl,c<3)(lc:cs.length≤5)(cg:∀c∈cs,Rl c):Cw ⟨a,B0 0 sl,cl,es,df⟩ cs:=by
 have l3:3≤sl.length:=by
  rcases h.ne with⟨h1,_⟩|⟨s,y,rfl,h1,_⟩
  ·exact Nat.le_of_eq h1.symm
  ·rw[List.length_append,h1];exact Nat.le_add_right 3 _
 refine⟨⟨hg,Nat.le_trans lc (by decide),List.length_map _,Mo⟩,⟨fun m hm=> ?_, ?_,fun b hb=> ?_⟩,cg, ?_,hc⟩
 ·obtain⟨y,hy,e⟩:=Ke (i:=0) (FS (l:=sl)▸hm)
  rw[Nat.zero_add]at e
  exact⟨y,e,h.l6 y hy⟩
 ·show 3≤(B0 0 sl).length;rw[FS];exact l3
 ·rcases h.ne with⟨_,h1⟩|⟨s,y,rfl,h1,h2,_⟩
  ·exact absurd (h1▸hb) List.not_mem_nil
  ·match s,h1 with
   |[y0,y1,y2],_=>exact⟨Nat.le_refl 4,h2⟩
 ·rcases h.ne with⟨h1,h2⟩|⟨s,y,rfl,h1,_,h2⟩
  ·match sl,h1 with
   |[y0,y1,y2],_=>exact .inl ⟨rfl,h2⟩
  ·match s,h1 with
   |[y0,y1,y2],_=>exact .inr ⟨rfl,h2⟩
theorem O3{r:Int}(h:0≤r∧r<3):∃y,CW [AT 2,AT 4,AT 5] r=some (AT y)∧y<6∧y≠3:=by
 obtain⟨n,rfl⟩:=Int.eq_ofNat_of_zero_le h.1
 have:n=0∨n=1∨n=2:=by lia
 rcases this with rfl|rfl|rfl<;>exact⟨_,rfl,by decide,by decide⟩
section
variable{k:Nat}{x:Prop}{is us:List Int}{df:Bool}{en p:Int}{sl:List Nat}{cl:List Int}{r:Sts}{Q:QS}{K:KT'}
theorem st6(hT:IN K us 3 p)(hl:sl.length=3)(h6:∀y∈sl,y<6)(hp:0≤p∧p≤20)
 (h:∀sl es p,UL sl es→0≤p∧p≤50→A4 (wss r ⟨K,K,x⟩ (ρQ is us df en []) Q (lQ p sl (Cv vCut cl) (Cv (.int 3) es) []))):A4 (wss (Ea 2 (Ad 6 Aj) r) ⟨K,K,x⟩ (ρ0 is us df en [(AY, .ref 2),(BF, .ref 3)]) Q (lC p sl cl [])):=by
 constructor
 refine Br (fun zz=> ?_) fun zz=> ?_
 ·refine Dh (R:=[.list (sl.map AT), .dict (Cv vCut cl), .dict []]) hT fun w w0 w1=> ?_
  refine hid fun Gg gg=> ?_
  obtain⟨y,hy,y6,y3⟩:=O3 ⟨w0,w1⟩
  refine gg ?_
  have ok:∀es:List Int,es≠[]→UL (sl++[y]) es:=fun es he=>⟨fun z hz=>(List.mem_append.mp hz).elim (h6 z) fun q=>List.mem_singleton.mp q▸y6, .inr ⟨sl,y,rfl,hl,y3,he⟩⟩
  have h1:=(h _ [0] (p+1) (ok _ (by decide)) (by exact(⟨l01 (Ha Z0 W0 (Ga Z0 (.a W0 Z1))) rfl hp.1,l01 (Ha W0 (.z 20) (Ga (.a W0 Z1) (.z 50))) rfl hp.2⟩))).get
  have h2:=(h _ [0,1] (p+1) (ok _ (by decide)) (by exact(⟨l01 (Ha Z0 W0 (Ga Z0 (.a W0 Z1))) rfl hp.1,l01 (Ha W0 (.z 20) (Ga (.a W0 Z1) (.z 50))) rfl hp.2⟩))).get
  rw[lQ,List.map_append]at h1 h2
  refine AD hy ⟨by rw[List.length_map];exact(l10 (Hc W0 Y3 (Gb (.a W0 Y1) Yb)) rfl hl),by decide,C3 (fun zz=>⟨by decide, ?_⟩) fun zz=> ?_⟩
  ·exact h2
  ·exact h1
 ·have h1:=(h sl [] p ⟨h6, .inl ⟨hl,rfl⟩⟩ ⟨hp.1,by exact l01 (Ha W0 (.z 20) (Ga W0 (.z 50))) rfl hp.2⟩).get
  exact h1
theorem TN(e:K=AC 9 False):A4 (wss Aj ⟨K,K,x⟩ [(xscript, .t (vSc is))] (DX Om) [.raw o9]):=by
 have hT:∀us:List Int,us≠[]→us.length≤63→∀lim q,0≤q∧q≤400→0<lim→IN K us lim q:=fun us hu hu2 lim q hq hl=>e▸MB hu hu2 hq hl
 have h905:YN K is:=e▸R5
 have h76:Ret K 76 [.t (.fl [.fl [.int 0, .int 0, .int 0]]), .t (.fl [.tup [.int 0]])] (A8 E8):=e▸c76
 have h117:Ret K 117 [.t (.str ⟨#[115,101,97,114,99,104]⟩), .t .none, .t (A8 E8), .t (A8 E8)] vCut:=e▸fy
 have hA:∀us:List Int,us≠[]→us.length≤63→∀full q,0≤q∧q≤300→UN K 910 [.clo (us.map Tr.int) 1,vb full] q fun x p'=>∃A,x=CN A∧An A∧q≤p'∧p'≤q+20:=fun us hu hu2 full q hq=>e▸fH hu hu2 hq
 exact st0 (r:=Ad 3 Aj) h905 hT fun us df en hu hu2 zz=>
  st3 (r:=Ad 6 Aj) (hT us hu hu2) h76 h117 fun sl cl p hl h6 hc hp=>
  st6 (r:=Ad 8 Aj) (hT us hu hu2 3 p ⟨hp.1,by exact l01 (Ha W0 (.z 20) (Ga W0 (.z 400))) rfl hp.2⟩ (by decide)) hl h6 hp fun sl es p ok hp=>
  st8 (r:=Ad 9 Aj) (hT us hu hu2) hp fun cs p' hcs hl5 hp'=>
  st9 (r:=Ad 10 Aj) (hT us hu hu2) (by exact(⟨l02 (Ha Z0 W0 (Ha W0 X1 (Ga Z0 X1))) rfl hp.1 hp'.1,l02 (Ha W0 (.z 50) (Ha X1 (.a W0 (.z 6)) (Ga X1 (.z 400)))) rfl hp.2 hp'.2⟩)) fun full=>
  c8 (r:=Ad 11 Aj) (hA us hu hu2 full) (by exact(⟨l02 (Ha Z0 W0 (Ha W0 X1 (Ga Z0 (.a X1 Z1)))) rfl hp.1 hp'.1,l02 (Ha W0 (.z 50) (Ha X1 (.a W0 (.z 6)) (Ga (.a X1 Z1) (.z 100)))) rfl hp.2 hp'.2⟩)) fun a p2 hg=>
  c7 (r:=Ad 13 Aj) (T:=⟨a,B0 0 sl,cl,es,df⟩) Kd
   (eH (k:=0) (ok.law hg hc hl5 hcs) ⟨ND,NC,ND,NC⟩ e)
end
end
set_option tactic.hygienic true
theorem eB:Law 9:=fun ns=>by
 have hh:=TN (K:=AC 9 False) (x:=False∧1≤9) (is:=ns) rfl
 cases hh;assumption
theorem gE:rw_nn0409_01.Holds:=Pt (by decide) eB
end Nn.Internal
theorem PySem.Challenge.cw_nn0409_01_holds : PySem.Challenge.rw_nn0409_01.Holds :=
  Nn.Internal.gE
