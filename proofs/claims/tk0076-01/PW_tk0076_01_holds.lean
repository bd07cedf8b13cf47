import PyProof.Rows.All
import Wide.All
import OpenK.AllK
import Wide.FinOn
import Lean
import PySem.Challenge.RW_tk0076_01
set_option Elab.async false
set_option linter.all false
set_option compiler.extract_closed false
set_option backward.match.sparseCases false
set_option genSizeOf false
set_option genInjectivity false
set_option maxRecDepth 100000
set_option maxHeartbeats 0
namespace Mine.Internal
noncomputable section
local macro_rules
  | `(tactic| rw [$a:term]) => `(tactic| refine $a)
  | `(tactic| rw [← $a:term]) => `(tactic| (refine $a; left))
  | `(tactic| rw [$a:rwRule, $b,*]) => `(tactic| (rw [$a:rwRule]; rw [$b,*]))
local macro_rules | `(tactic| erw [$b,*]) => `(tactic| (rewrite [$b,*]; try with_reducible rfl))
theorem ac {p:Prop}[Decidable p](h:decide p=true:=by rfl):p:=of_decide_eq_true h
open PySem PySem.W PySem.Calls PySem.Spec PyProof.Rows
universe u v
@[elab_as_elim] theorem af {α:Sort u} {a b:α} {P:α->Prop} (h:a=b) (x:P b):P a:=h▸x
theorem ak {α:Type u}{x:Option α}{a:α}{P:Prop}(h:x=none)(e:x=some a):P:=by rw[h] at e;cases e
theorem aq {α:Type u}{a:α}{P:Prop}(e:none=some a):P:=nomatch e
theorem gu {α:Type u}{a:α}{P:Prop}(e:some a=none):P:=nomatch e
theorem sI {α:Type u}{a b:α}(e:some a=some b):a=b:=Option.some.inj e
theorem ir {P:Prop}(e:true=false):P:=nomatch e
theorem aA {P:Prop}(e:false=true):P:=nomatch e
theorem bU {α:Type u}{a b:α}{P:Prop}(f:α->Nat)(e:a=b)(q:Nat.beq (f a) (f b)=false):P:=by
 subst e;rw[Nat.beq_refl] at q;cases q
theorem aj {G:Prop}(h:∀P:Prop,(G->P)->P):G:=h G id
local macro_rules | `(tactic| right) => do let P := Lean.mkIdent `Pq; let o := Lean.mkIdent `oq; `(tactic| refine aj fun $P $o => ?_)
local macro_rules | `(tactic| symm) => do let o := Lean.mkIdent `oq; `(tactic| (refine $o ?_; clear $o))
inductive A8 (a b c d e f g h:Prop):Prop
 |mk (x1:a) (x2:b) (x3:c) (x4:d) (x5:e) (x6:f) (x7:g) (x8:h)
abbrev IE:=Int.Internal.Linear.Expr
abbrev IC:=Int.Internal.Linear.Context
noncomputable def y9:List Nat->List IE->IE
 |_,[]=>.num 0
 |[],e::es=>.add e (y9 [] es)
 |c::cs,e::es=>.add (.mulL c e) (y9 cs es)
theorem zB {a:Int}(h:Int.NonNeg a):0<=a:=show Int.NonNeg (a-0) by erw[Int.sub_zero];rw[h]
theorem QF {a:Int}(h:0<=a):Int.NonNeg a:=by have:Int.NonNeg<|a-0:=h;rw[Int.sub_zero] at this;rw[this]
theorem Jq {d g s:Int}(hd:0<=d)(z:g+1<=0)(s0:0<=s):d*(g+1)-s<=0:=Int.sub_nonpos_of_le<|Int.le_trans (Int.mul_nonpos_of_nonneg_of_nonpos hd z) s0
theorem dS (x:IC)(cs:List Nat)(d:Nat)(g:IE)(hs:List IE)(k:(Int.Internal.Linear.Expr.sub (.mulL d<|.add g<|.num 1)<|y9 cs hs).norm.isUnsatLe=true)(H:∀e∈hs,Int.NonNeg<|e.denote x):Int.NonNeg<|g.denote x:=by
 have S:∀(hs:List IE) (cs:List Nat),(∀e∈hs,Int.NonNeg<|e.denote x)->0<=(y9 cs hs).denote x:=by
  intro hs
  induction hs with
  |nil=>intro cs _;cases cs<;>rw[Int.le_refl 0]
  |cons e es ih=>
   intro cs H;have b:0<=e.denote x:=zB<|H e<|.head _
   cases cs with
   |nil=>rw[Int.add_nonneg b<|ih [] λe h=>H e<|.tail _ h]
   |cons c cs=>rw[Int.add_nonneg (Int.mul_nonneg (Int.natCast_nonneg c) b)<|ih cs λe h=>H e<|.tail _ h]
 rw[QF<|Int.not_lt.mp λz=>Int.Internal.Linear.le_unsat x _ k ?_,af (Int.Internal.Linear.Poly.denote'_eq_denote ..)<|af (Int.Internal.Linear.Expr.denote_norm ..)<|Jq (Int.natCast_nonneg d) z<|S hs cs H]
theorem tt:true=true:=rfl
theorem hs0 (x:IC):∀e∈([]:List IE),Int.NonNeg<|e.denote x:=λ_ h=>(List.not_mem_nil h).elim
theorem hs1 (x:IC){a:IE}{l:List IE}(p:Int.NonNeg<|a.denote x)(h:∀e∈l,Int.NonNeg<|e.denote x):∀e∈a::l,Int.NonNeg<|e.denote x:=λe z=>(List.mem_cons.mp z).elim (λz=>z▸p)<|h e
noncomputable def CF (c:List Nat)(d:Nat)(g:IE)(hs:List IE):Bool:=(Int.Internal.Linear.Expr.sub (.mulL d<|.add g<|.num 1)<|y9 c hs).norm.isUnsatLe
section
variable (x:IC)(c:List Nat)(d:Nat)(a b e f h i j l g:IE)
theorem Fy (k:CF c d g []=true):Int.NonNeg<|g.denote x:=dS x c d g _ k<|hs0 x
theorem vh (k:CF c d g [a]=true)(p1:Int.NonNeg<|a.denote x):Int.NonNeg<|g.denote x:=dS x c d g _ k<|hs1 x p1<|hs0 x
theorem bB (k:CF [] 1 g [a]=true)(p1:Int.NonNeg<|a.denote x):Int.NonNeg<|g.denote x:=dS x [] 1 g _ k<|hs1 x p1<|hs0 x
theorem mY (k:CF c d g [a,b]=true)(p1:Int.NonNeg<|a.denote x)(p2:Int.NonNeg<|b.denote x):Int.NonNeg<|g.denote x:=dS x c d g _ k<|hs1 x p1<|hs1 x p2<|hs0 x
theorem dQ (k:CF [] 1 g [a,b]=true)(p1:Int.NonNeg<|a.denote x)(p2:Int.NonNeg<|b.denote x):Int.NonNeg<|g.denote x:=dS x [] 1 g _ k<|hs1 x p1<|hs1 x p2<|hs0 x
theorem ur (k:CF c d g [a,b,e]=true)(p1:Int.NonNeg<|a.denote x)(p2:Int.NonNeg<|b.denote x)(p3:Int.NonNeg<|e.denote x):Int.NonNeg<|g.denote x:=dS x c d g _ k<|hs1 x p1<|hs1 x p2<|hs1 x p3<|hs0 x
theorem wK (k:CF [] 1 g [a,b,e]=true)(p1:Int.NonNeg<|a.denote x)(p2:Int.NonNeg<|b.denote x)(p3:Int.NonNeg<|e.denote x):Int.NonNeg<|g.denote x:=dS x [] 1 g _ k<|hs1 x p1<|hs1 x p2<|hs1 x p3<|hs0 x
theorem Dl (k:CF c d g [a,b,e,f]=true)(p1:Int.NonNeg<|a.denote x)(p2:Int.NonNeg<|b.denote x)(p3:Int.NonNeg<|e.denote x)(p4:Int.NonNeg<|f.denote x):Int.NonNeg<|g.denote x:=dS x c d g _ k<|hs1 x p1<|hs1 x p2<|hs1 x p3<|hs1 x p4<|hs0 x
theorem Ny (k:CF [] 1 g [a,b,e,f]=true)(p1:Int.NonNeg<|a.denote x)(p2:Int.NonNeg<|b.denote x)(p3:Int.NonNeg<|e.denote x)(p4:Int.NonNeg<|f.denote x):Int.NonNeg<|g.denote x:=dS x [] 1 g _ k<|hs1 x p1<|hs1 x p2<|hs1 x p3<|hs1 x p4<|hs0 x
end
section
variable (a b c d e f g h:Int)
noncomputable abbrev r1:IC:=.leaf a
noncomputable abbrev r2:IC:=.branch 1 (.leaf a)<|.leaf b
noncomputable abbrev r3:IC:=.branch 1 (.leaf a)<|.branch 2 (.leaf b)<|.leaf c
noncomputable abbrev r4:IC:=.branch 2 (r2 a b)<|.branch 3 (.leaf c)<|.leaf d
noncomputable abbrev r5:IC:=.branch 4 (r4 a b c d)<|.leaf e
noncomputable abbrev r6:IC:=.branch 5 (r5 a b c d e)<|.leaf f
end
theorem nE {m n:Nat}(h:m<=n):Int.NonNeg<|(n:Int)-m:=Int.ofNat_le.mpr h
theorem eN {m n:Nat}(h:Int.NonNeg<|(n:Int)-m):m<=n:=Int.ofNat_le.mp h
noncomputable abbrev nn:Int->IE:=.num
noncomputable abbrev aa:IE->IE->IE:=.add
noncomputable abbrev ss:IE->IE->IE:=.sub
noncomputable abbrev mm:Int->IE->IE:=.mulL
noncomputable abbrev mr:IE->Int->IE:=.mulR
noncomputable abbrev su (e:IE):IE:=.add e<|.num 1
noncomputable abbrev v0:IE:=.var 0
noncomputable abbrev v1:IE:=.var 1
noncomputable abbrev v2:IE:=.var 2
noncomputable abbrev v3:IE:=.var 3
noncomputable abbrev v4:IE:=.var 4
noncomputable abbrev v5:IE:=.var 5
noncomputable abbrev n0:IE:=.num 0
theorem iQ {a b:Int}(h:a=b):Int.NonNeg<|b-a:=Int.le_of_eq h
theorem iR {a b:Int}(h:a=b):Int.NonNeg<|a-b:=Int.le_of_eq h.symm
theorem nQ {a b:Nat}(h:a=b):Int.NonNeg<|(b:Int)-a:=nE<|Nat.le_of_eq h
theorem nR {a b:Nat}(h:a=b):Int.NonNeg<|(a:Int)-b:=nE<|Nat.le_of_eq h.symm
theorem eQ {a b:Int}(h:Int.NonNeg<|b-a)(h2:Int.NonNeg<|a-b):a=b:=Int.le_antisymm h h2
theorem Dm {a b:Nat}(h:Int.NonNeg<|(b:Int)-a)(h2:Int.NonNeg<|(a:Int)-b):a=b:=Nat.le_antisymm (eN h)<|eN h2
theorem nF {P:Prop}(h:Int.NonNeg<|-1):P:=absurd (zB h) ac
theorem mA (a:Int)(k:Nat):Int.NonNeg<|a%(k+1:Nat):=QF<|Int.emod_nonneg _<|Int.ofNat_ne_zero.mpr<|Nat.succ_ne_zero k
theorem mB (a:Int)(k:Nat):Int.NonNeg<|((k+1:Nat):Int)-(a%(k+1:Nat)+1):=Int.emod_lt_of_pos _<|Int.ofNat_lt.mpr<|Nat.succ_pos k
theorem mC (a:Int)(k:Nat):a%(k+1:Nat)+((k+1:Nat):Int)*(a/(k+1:Nat))=a:=Int.emod_add_mul_ediv a _
theorem nS (a b:Nat):Int.NonNeg<|((a-b:Nat):Int)-(a-b):=show ((a:Int)-b)<=((a-b:Nat):Int) from (Nat.le_total b a).elim (λh=>Int.le_of_eq (Int.ofNat_sub h).symm) λh=>Int.le_trans (Int.sub_nonpos_of_le<|Int.ofNat_le.mpr h)<|Int.natCast_nonneg _
section
variable {a b c d e f g:Int}{i j k l m n o:Nat}
theorem nab {x:Int}{N:Nat}(h0:0<=x)(h1:x<(N:Int)):Int.natAbs x<N:=Int.ofNat_lt.mp<|af (Int.natAbs_of_nonneg h0) h1
theorem Jo (h0:0<=a)(h1:a<(n:Int)):Int.natAbs (a/(k:Int))<n:=nab (Int.ediv_nonneg h0<|Int.natCast_nonneg k)<|Int.lt_of_le_of_lt (Int.ediv_le_self _ h0) h1
theorem Fv (h0:0<=b)(h1:b<c):(a*c+b)%c=b:=(Int.mul_add_emod_self_right ..).trans<|Int.emod_eq_of_lt h0 h1
theorem Oa (h0:0<=b)(h1:b<c):(a*c+b)/c=a:=(Int.mul_add_ediv_right _ _<|Int.ne_of_gt<|Int.lt_of_le_of_lt h0 h1).trans<|af (Int.ediv_eq_zero_of_lt h0 h1)<|Int.add_zero a
theorem QO (h:a%4=0):a/4*4=a:=Int.ediv_mul_cancel_of_emod_eq_zero h
theorem Jt (h:a%4=0):(a+4*b)%4=0:=(Int.add_mul_emod_self_left ..).trans h
theorem Qf (ha:a%4=0)(hy:b%4=0):(a<=b/\b<a+4*(i:Int))↔(a/4<=b/4/\b/4<a/4+i):=by
 obtain ⟨c,rfl⟩:=Int.dvd_of_emod_eq_zero ha;obtain ⟨d,rfl⟩:=Int.dvd_of_emod_eq_zero hy;rw[af (Int.mul_ediv_cancel_left c ac)<|af (Int.mul_ediv_cancel_left d ac)<|af (Int.mul_add 4 c i).symm ?_,and_congr (Int.mul_le_mul_left ac)<|Int.mul_lt_mul_left ac]
theorem zk (h:k=n+1):a+4*(k:Int)=a+4*(n:Int)+4:=by subst h;rw[(congrArg (a+·)<|Int.mul_add 4 n 1).trans (Int.add_assoc ..).symm]
theorem zs (h:i<=m)(h0:¬i=0):m-i+1=m-(i-1):=((Nat.sub_sub_right m<|Nat.pos_of_ne_zero h0).trans<|Nat.sub_add_comm h).symm
theorem tw (hx:a%4=0)(hy:b%4=0)(h:b<=a):a=b+4*((Int.toNat ((a-b)/4):Nat):Int):=by
 obtain ⟨c,hc⟩:=Int.dvd_sub (Int.dvd_of_emod_eq_zero hx)<|Int.dvd_of_emod_eq_zero hy;have h0:0<=c:=Int.le_of_mul_le_mul_left (a:=4) (af (Int.mul_zero 4)<|hc▸Int.sub_nonneg_of_le h) ac;rw[af hc<|af (Int.mul_ediv_cancel_left c ac)<|af (Int.toNat_of_nonneg h0) ?_,Int.sub_eq_iff_eq_add'.mp hc]
theorem Qm (hx:a%4=0)(hy:b%4=0)(h:b<=a)(z:a<b+4*(i:Int)):Int.toNat ((a-b)/4)<i:=Int.ofNat_lt.mp<|Int.lt_of_mul_lt_mul_left (Int.lt_of_add_lt_add_left<|Int.lt_of_le_of_lt (Int.le_of_eq (tw hx hy h).symm) z) ac
theorem sd:(a/1024*1024+a%256)/1024=a/1024:=Oa (Int.emod_nonneg a ac)<|Int.lt_trans (Int.emod_lt_of_pos a ac) ac
theorem sx:(a*1024+b)%256=b%256:=(Int.emod_emod_of_dvd _ (by decide:(256:Int)∣1024)).symm.trans ((congrArg (·%256)<|Int.mul_add_emod_self_right ..).trans<|Int.emod_emod_of_dvd _ ac)
theorem e2:a%1024%256=a%256:=Int.emod_emod_of_dvd a ac
theorem k1:a-b=a/1024*1024+(a%1024-b):=(congrArg (·-b) (Int.ediv_mul_add_emod a 1024).symm).trans<|Int.add_sub_assoc ..
theorem O4 (q:a=b+(c+d))(hB:0<=c)(m0:0<=d)(m1:d<e)(q3:c+e<=f):b<=a/\a<b+f:=by subst q;rw[⟨Int.le_add_of_nonneg_right<|Int.add_nonneg hB m0,Int.add_lt_add_left (Int.lt_of_lt_of_le (Int.add_lt_add_left m1 c) q3) b⟩]
theorem QE (L:b<=a/\a<b+f)(h:c<=a)(z:b+f<=c){P:Prop}:P:=absurd (Int.lt_of_lt_of_le L.2<|Int.le_trans z h)<|Int.lt_irrefl a
theorem QD (L:b<=a/\a<b+f)(h:a<c+f)(z:c+f<=b){P:Prop}:P:=absurd (Int.lt_of_lt_of_le h<|Int.le_trans z L.1)<|Int.lt_irrefl a
theorem sm:(a/1024*1024+a%256)%256=a%256:=sx.trans<|Int.emod_emod ..
theorem Q8 (z:a+4*(i:Int)+4*(j:Int)=a+4*(k:Int)+4*(l:Int)):i+j=k+l:=Int.ofNat_inj.mp (Int.eq_of_mul_eq_mul_left (by decide:(4:Int)≠0) (Int.add_left_cancel (a:=a) (((congrArg (a+·)<|Int.mul_add 4 i j).trans (Int.add_assoc ..).symm).trans (z.trans ((Int.add_assoc ..).trans (congrArg (a+·) (Int.mul_add 4 k l).symm))))))
theorem Oq (h:i+40*j+200<k)(h3:l<=60)(hm:m<=l):i+1+m<k:=Nat.lt_of_le_of_lt (by erw[Nat.add_assoc,Nat.add_assoc];rw[Nat.add_le_add_left (Nat.le_trans (Nat.add_le_add_left (Nat.le_trans hm h3) 1)<|Nat.le_trans ac<|Nat.le_add_left 200 _) i]) h
theorem eO (h:(4:Nat)<=2^i/\(2^i:Nat)<=32):(0:Nat)<2^i:=eN<|bB (r1 (2^i:Nat)) (ss v0<|nn 4) (ss v0<|su n0) tt<|nE h.1
theorem yD (h1:b%4=0/\0<=b/\b<=384)(h2:(4:Nat)<=2^i/\(2^i:Nat)<=32)(h3:b<=a/\a+4*((2^i:Nat):Int)<=b+12*(4*((2^i:Nat):Int))):a<2^20:=ur (r3 b (2^i:Nat) a) [1,44,1] 1 (ss (nn 384) v0) (ss (nn 32) v1) (ss (aa v0<|mm 12<|mm 4 v1)<|aa v2<|mm 4 v1) (ss (nn 1048576)<|su v2) tt h1.2.2 (nE h2.2) h3.2
theorem wo (h1:b%4=0/\0<=b/\b<=384)(h2:b<=a/\a+4*((2^i:Nat):Int)<=b+12*(4*((2^i:Nat):Int))):0<=a:=dQ (r2 b a) (ss v0 n0) (ss v1 v0) (ss v1 n0) tt h1.2.1 h2.1
theorem QI (h1:(a+4*(i:Int))%4=0)(h2:(4:Nat)<=2^j/\(2^j:Nat)<=32)(h3:b%4=0)(h4:a+4*(i:Int)<b+4*((2^j:Nat):Int))(h5:b<=a+4*(i:Int)):a+4*(i:Int)=b+4*((Int.toNat ((a+4*(i:Int)-b)/4):Nat):Int)/\Int.toNat ((a+4*(i:Int)-b)/4)<2^j:=⟨tw h1 h3 h5,Qm h1 h3 h5 h4⟩
theorem OL:(a/1024*1024+a%256)%1024=a%1024%256:=(Fv (Int.emod_nonneg a ac)<|Int.lt_trans (Int.emod_lt_of_pos a ac) ac).trans (Int.emod_emod_of_dvd a ac).symm
theorem QH (h:a%1024=(i:Int)):(a/1024*1024+a%256)%1024=(i:Int)%256:=OL.trans (congrArg (·%256) h)
theorem Ob (h:(4:Nat)<=2^i/\(2^i:Nat)<=32):Int.natAbs (4*((2^i:Nat):Int))<2^64:=by rw[Nat.lt_of_le_of_lt (Nat.mul_le_mul_left 4 h.2) ac]
theorem BW (h:(4:Nat)<=2^i/\(2^i:Nat)<=32):0<4*((2^i:Nat):Int):=vh (r1 (2^i:Nat)) [4] 1 (ss v0<|nn 4) (ss (mm 4 v0)<|su n0) tt<|nE h.1
theorem OJ (h1:(4:Nat)<=2^j/\(2^j:Nat)<=32)(h2:i<2^j):Int.natAbs (i:Int)<2^64:=by rw[Nat.lt_trans (Nat.lt_of_lt_of_le h2 h1.2) ac]
theorem QG (h1:b%4=0/\0<=b/\b<=384)(h2:a%4=0)(h3:b<=a/\a+4*((2^j:Nat):Int)<=b+12*(4*((2^j:Nat):Int)))(h4:i<2^j):a+4*(i:Int)+4<=b+12*(4*((2^j:Nat):Int)):=mY (r4 b a (2^j:Nat) i) [1,4] 1 (ss (aa v0<|mm 12<|mm 4 v2)<|aa v1<|mm 4 v2) (ss v2<|su v3) (ss (aa v0<|mm 12<|mm 4 v2)<|aa (aa v1<|mm 4 v3)<|nn 4) tt h3.2<|nE h4
theorem EB (h1:a%4=0/\0<=a/\a<=384)(h2:(4:Nat)<=2^i/\(2^i:Nat)<=32):0<=a+2*(4*((2^i:Nat):Int)):=mY (r2 a (2^i:Nat)) [1,8] 1 (ss v0 n0) v1 (ss (aa v0<|mm 2<|mm 4 v1) n0) tt h1.2.1<|.mk _
theorem MR (h1:j<i)(h2:j<=i):i-j=i-(j+1)+1:=Dm (dQ (r4 j i (i-j:Nat) (i-(j+1):Nat)) (ss (ss v1 v0) v2) (ss v3<|ss v1<|su v0) (ss (su v3) v2) tt (iQ<|Int.ofNat_sub<|eN<|bB (r4 j i (i-j:Nat) (i-(j+1):Nat)) (ss v1 v0) (ss v1 v0) tt<|nE h2)<|iR<|Int.ofNat_sub<|eN<|bB (r4 j i (i-j:Nat) (i-(j+1):Nat)) (ss v1<|su v0) (ss v1<|su v0) tt<|nE h1)<|dQ (r4 j i (i-j:Nat) (i-(j+1):Nat)) (ss v2<|ss v1 v0) (ss (ss v1<|su v0) v3) (ss v2<|su v3) tt (iR<|Int.ofNat_sub<|eN<|bB (r4 j i (i-j:Nat) (i-(j+1):Nat)) (ss v1 v0) (ss v1 v0) tt<|nE h2)<|iQ<|Int.ofNat_sub<|eN<|bB (r4 j i (i-j:Nat) (i-(j+1):Nat)) (ss v1<|su v0) (ss v1<|su v0) tt<|nE h1
theorem B8 (h:a%4=0):(a+4*(i:Int))%4=0:=Jt h
theorem Mw (h1:a%4=0/\0<=a/\a<=384)(h2:b%4=0)(h3:a<=b/\b+4*((2^j:Nat):Int)<=a+12*(4*((2^j:Nat):Int))):a<=b+4*(i:Int):=mY (r3 a b i) [1,4] 1 (ss v1 v0) v2 (ss (aa v1<|mm 4 v2) v0) tt h3.1<|.mk _
theorem EA (h:a%1024=(i:Int)):(i:Int)%256<1024:=bB (r1<|(i:Int)%256) (ss (nn 256)<|su v0) (ss (nn 1024)<|su v0) tt<|mB (i:Int) 255
theorem Ez (h1:0<=a)(h2:a<2^40):Int.natAbs a<2^64:=nab h1<|Int.lt_trans h2 ac
theorem LN (h1:a%4=0/\0<=a/\a<=384)(h2:(4:Nat)<=2^i/\(2^i:Nat)<=32):a+2*(4*((2^i:Nat):Int))+10*(4*((2^i:Nat):Int))<=2^20:=mY (r2 a (2^i:Nat)) [1,48] 1 (ss (nn 384) v0) (ss (nn 32) v1) (ss (nn 1048576)<|aa (aa v0<|mm 2<|mm 4 v1)<|mm 10<|mm 4 v1) tt h1.2.2<|nE h2.2
theorem zX (h:0<=a):0<=a/1024:=ur (r3 a (a/1024)<|a%1024) [] 1024 (ss v0 n0) (ss (nn 1024)<|su v2) (ss (aa v2<|mm 1024 v1) v0) (ss v1 n0) tt h (mB a 1023)<|iR<|mC a 1023
theorem Lq (h1:j<2^40)(h2:i<=j):Int.natAbs (i:Int)<2^64:=by rw[Nat.lt_trans (Nat.lt_of_le_of_lt h2 h1) ac]
theorem K9 (h1:0<=b)(h2:b<1024):(a*1024+b)%2^10=b:=by rw[Fv h1 h2]
theorem KY (h:(2^i:Int)<=2^10):Int.natAbs (2^i)<2^64:=nab (Int.pow_nonneg ac)<|Int.lt_of_le_of_lt h ac
theorem s8 (h1:0<=b)(h2:0<=a):0<=a*1024+b:=Int.add_nonneg (Int.mul_nonneg h2 ac) h1
theorem B7 (h1:i<k)(h2:j=k):i<j:=eN<|dQ (r3 i k j) (ss v1<|su v0) (ss v2 v1) (ss v2<|su v0) tt (nE h1)<|nR h2
theorem B6 (h:i<2^39):i+1+1<2^40:=eN<|bB (r1 i) (ss (nn 549755813888)<|su v0) (ss (nn 1099511627776)<|su<|su<|su v0) tt<|nE h
theorem Kc (h:0<=b/\b<=c):a%1024-b<1024:=dQ (r2 b<|a%1024) (ss v0 n0) (ss (nn 1024)<|su v1) (ss (nn 1024)<|su<|ss v1 v0) tt h.1<|mB a 1023
theorem Ka (h1:0<=b/\b<=1)(h2:a<1024):a-b<1024:=dQ (r2 b a) (ss v0 n0) (ss (nn 1024)<|su v1) (ss (nn 1024)<|su<|ss v1 v0) tt h1.1 h2
theorem B5 (h:i<2^39):i+1<2^40:=eN<|bB (r1 i) (ss (nn 549755813888)<|su v0) (ss (nn 1099511627776)<|su<|su v0) tt<|nE h
theorem Ey (h1:k<j)(h2:i<k):i<j:=Nat.lt_trans h2 h1
theorem J9 (h:a<1024):Int.toNat a<2^10:=(Int.toNat_lt' ac).mpr h
theorem B3 (h:i<2^39):i<2^40:=eN<|bB (r1 i) (ss (nn 549755813888)<|su v0) (ss (nn 1099511627776)<|su v0) tt<|nE h
theorem B0 (h1:i+j<=k)(h2:k<=20):i<=100000:=eN<|wK (r3 i j k) (ss v2<|aa v0 v1) (ss (nn 20) v2) v1 (ss (nn 100000) v0) tt (nE h1) (nE h2)<|.mk _
theorem J8 (h1:(4:Nat)<=2^k/\(2^k:Nat)<=32)(h2:j<=2^k)(h3:i<=1024):i+j<=100000:=eN<|wK (r3 (2^k:Nat) j i) (ss (nn 32) v0) (ss v0 v1) (ss (nn 1024) v2) (ss (nn 100000)<|aa v2 v1) tt (nE h1.2) (nE h2)<|nE h3
theorem zW (h:0<i):0<4*(i:Int):=vh (r1 i) [4] 1 (ss v0<|su n0) (ss (mm 4 v0)<|su n0) tt<|nE h
theorem zV:i+1+1+1<=i+8:=eN<|Fy (r1 i) [] 1 (ss (aa v0<|nn 8)<|su<|su<|su v0) tt
theorem Ex (h:(4:Nat)<=2^i/\(2^i:Nat)<=32):0<((2^i:Nat):Int):=bB (r1 (2^i:Nat)) (ss v0<|nn 4) (ss v0<|su n0) tt<|nE h.1
theorem Ew (h:(0:Nat)<2^i):0<4*((2^i:Nat):Int):=vh (r1 (2^i:Nat)) [4] 1 (ss v0<|su n0) (ss (mm 4 v0)<|su n0) tt<|nE h
theorem J7 (h1:i<=j)(h2:¬j=i):i+1<=j:=Nat.lt_of_le_of_ne h1<|Ne.symm h2
theorem zU (h:i<=1):8+i<=100000:=eN<|bB (r1 i) (ss (nn 1) v0) (ss (nn 100000)<|aa (nn 8) v0) tt<|nE h
theorem J6 (h:a+(j:Int)*(4*(i:Int))≠a+(k:Int)*(4*(i:Int))):0<i:=Nat.pos_of_ne_zero λz=>h (by clear h;subst z;rw[congrArg (a+·)<|(Int.mul_zero _).trans (Int.mul_zero _).symm])
theorem J5 (h1:(2^j*2^j:Nat)<=32*32)(h2:k=i+l)(h3:k<=2^j*2^j):i<=100000:=eN<|Ny (r4 (2^j*2^j:Nat) k i l) (ss (mm 32<|nn 32) v0) (ss v1<|aa v2 v3) (ss v0 v1) v3 (ss (nn 100000) v2) tt (nE h1) (nR h2) (nE h3)<|.mk _
theorem J4 (h:i<8):(i:Int)<((8+j:Nat):Int):=dQ (r2 i j) (ss (nn 8)<|su v0) v1 (ss (aa (nn 8) v1)<|su v0) tt (nE h)<|.mk _
theorem Eu (h:(i:Int)<4):(i:Int)<2^63:=bB (r1 i) (ss (nn 4)<|su v0) (ss (nn 9223372036854775808)<|su v0) tt h
theorem J3 (h:i+40*k+200<j):i+64<j:=eN<|mY (r3 i k j) [1,40] 1 (ss v2<|su<|aa (aa v0<|mm 40 v1)<|nn 200) v1 (ss v2<|su<|aa v0<|nn 64) tt (nE h)<|.mk _
theorem xU (h:i<=63):i<=100000:=eN<|bB (r1 i) (ss (nn 63) v0) (ss (nn 100000) v0) tt<|nE h
theorem zT (h:(4:Nat)<=2^i/\(2^i:Nat)<=32):(2^i:Nat)<=1000000:=eN<|bB (r1 (2^i:Nat)) (ss (nn 32) v0) (ss (nn 1000000) v0) tt<|nE h.2
theorem J2 (h1:(2^j:Nat)=i)(h2:4<=i/\i<=32):0<(i:Int):=bB (r1 i) (ss v0<|nn 4) (ss v0<|su n0) tt<|nE h2.1
theorem J1 (h1:(4:Nat)<=2^j/\(2^j:Nat)<=32)(h2:k<2^j)(h3:i<=k):i<=100000:=eN<|wK (r3 (2^j:Nat) k i) (ss (nn 32) v0) (ss v0<|su v1) (ss v1 v2) (ss (nn 100000) v2) tt (nE h1.2) (nE h2)<|nE h3
theorem Et (h:¬i=j):a+4*(i:Int)≠a+4*(j:Int):=λz=>h<|Int.ofNat_inj.mp<|Int.eq_of_mul_eq_mul_left ac<|Int.add_left_cancel z
theorem J0 (h1:a%4=0)(h2:0<=a):0<=a+4*((i-j:Nat):Int):=mY (r2 a (i-j:Nat)) [1,4] 1 (ss v0 n0) v1 (ss (aa v0<|mm 4 v1) n0) tt h2<|.mk _
theorem JZ (h1:i=1+j)(h2:j<=4):i<10:=eN<|dQ (r2 i j) (ss (aa (nn 1) v1) v0) (ss (nn 4) v1) (ss (nn 10)<|su v0) tt (nQ h1)<|nE h2
theorem JY (h1:b+10*a<=2^20)(h2:0<=b):a<2^20:=mY (r2 b a) [] 10 (ss (nn 1048576)<|aa v0<|mm 10 v1) (ss v0 n0) (ss (nn 1048576)<|su v1) tt h1 h2
theorem zS (h:i<=1024):i<=100000:=eN<|bB (r1 i) (ss (nn 1024) v0) (ss (nn 100000) v0) tt<|nE h
theorem zR (h:0<i):(i:Int)≠0:=λz=>nF<|mY (r1 i) [] 0 (ss v0<|su n0) (ss n0 v0) (nn<|-1) tt (nE h)<|iQ z
theorem JX (h1:i<k)(h2:k=j):i<j:=eN<|dQ (r3 i k j) (ss v1<|su v0) (ss v2 v1) (ss v2<|su v0) tt (nE h1)<|nQ h2
theorem JW (h1:i+j=k)(h2:k<=1024):i<=100000:=eN<|wK (r3 i j k) (ss v2<|aa v0 v1) (ss (nn 1024) v2) v1 (ss (nn 100000) v0) tt (nQ h1) (nE h2)<|.mk _
theorem JV (h1:i<k)(h2:k<=j):i<j:=eN<|dQ (r3 i k j) (ss v1<|su v0) (ss v2 v1) (ss v2<|su v0) tt (nE h1)<|nE h2
theorem JU (h1:(4:Nat)<=2^j/\(2^j:Nat)<=32)(h2:i<2^j):i<=32:=eN<|dQ (r2 (2^j:Nat) i) (ss (nn 32) v0) (ss v0<|su v1) (ss (nn 32) v1) tt (nE h1.2)<|nE h2
theorem JT (h1:(2^j:Nat)=i)(h2:4<=i/\i<=32):(i:Int)<=32:=bB (r1 i) (ss (nn 32) v0) (ss (nn 32) v0) tt<|nE h2.2
theorem zQ:0<=a%1024:=bB (r1<|a%1024) v0 (ss v0 n0) tt<|mA a 1023
theorem JS (h:a<2^32):a<2^40:=bB (r1 a) (ss (nn 4294967296)<|su v0) (ss (nn 1099511627776)<|su v0) tt h
theorem JR (h:(i:Int)<1024):i<1024:=eN<|bB (r1 i) (ss (nn 1024)<|su v0) (ss (nn 1024)<|su v0) tt h
theorem JQ (h1:i<=3+5*j)(h2:j<=60):i<=100000:=eN<|mY (r2 i j) [1,5] 1 (ss (aa (nn 3)<|mm 5 v1) v0) (ss (nn 60) v1) (ss (nn 100000) v0) tt (nE h1)<|nE h2
theorem BZ (h:i<=60):i<=100000:=eN<|bB (r1 i) (ss (nn 60) v0) (ss (nn 100000) v0) tt<|nE h
theorem BY (h:i<=9):i<=60:=eN<|bB (r1 i) (ss (nn 9) v0) (ss (nn 60) v0) tt<|nE h
theorem JP (h1:(4:Nat)<=2^j/\(2^j:Nat)<=32)(h2:i<=2^j):i<=100000:=eN<|dQ (r2 (2^j:Nat) i) (ss (nn 32) v0) (ss v0 v1) (ss (nn 100000) v1) tt (nE h1.2)<|nE h2
theorem BX (h:i<=5):i<=10:=eN<|bB (r1 i) (ss (nn 5) v0) (ss (nn 10) v0) tt<|nE h
theorem JO (h:i+j<=k):i+1+j<=k+1:=eN<|bB (r3 i j k) (ss v2<|aa v0 v1) (ss (su v2)<|aa (su v0) v1) tt<|nE h
theorem Es (h:0<=a/(4*(i:Int))):0<=a/(4*(i:Int))*1024+1:=vh (r1<|a/(4*(i:Int))) [1024] 1 (ss v0 n0) (ss (su<|mr v0 1024) n0) tt h
theorem JN (h1:j<=63)(h2:i<=k)(h3:k<=j):i<=63:=eN<|wK (r3 j i k) (ss (nn 63) v0) (ss v2 v1) (ss v0 v2) (ss (nn 63) v1) tt (nE h1) (nE h2)<|nE h3
theorem JM:a+2*(4*((2^i:Nat):Int))+(j:Int)*(4*((2^i:Nat):Int))=a+((j:Int)*(4*((2^i:Nat):Int))+2*(4*((2^i:Nat):Int))):=eQ (Fy (r3 a (2^i:Nat)<|(j:Int)*(4*((2^i:Nat):Int))) [] 1 (ss (aa v0<|aa v2<|mm 2<|mm 4 v1)<|aa (aa v0<|mm 2<|mm 4 v1) v2) tt)<|Fy (r3 a (2^i:Nat)<|(j:Int)*(4*((2^i:Nat):Int))) [] 1 (ss (aa (aa v0<|mm 2<|mm 4 v1) v2)<|aa v0<|aa v2<|mm 2<|mm 4 v1) tt
theorem JL (h:(4:Nat)<=2^i):4*((2^i:Nat):Int)≠0:=λz=>nF<|mY (r1 (2^i:Nat)) [4,1] 0 (ss v0<|nn 4) (ss n0<|mm 4 v0) (nn<|-1) tt (nE h)<|iQ z
theorem JK (h:(4:Nat)<=2^i/\(2^i:Nat)<=32):(1:Nat)<2^i:=eN<|bB (r1 (2^i:Nat)) (ss v0<|nn 4) (ss v0<|su<|nn 1) tt<|nE h.1
theorem Er (h:(4:Nat)<=2^i/\(2^i:Nat)<=32):(2^i:Nat)<=100000:=eN<|bB (r1 (2^i:Nat)) (ss (nn 32) v0) (ss (nn 100000) v0) tt<|nE h.2
theorem JJ (h:i<=100000):(i:Int)<2^63:=bB (r1 i) (ss (nn 100000) v0) (ss (nn 9223372036854775808)<|su v0) tt<|nE h
theorem JI (h1:i<=j+1)(h2:j<=999):i<=16777216+1:=eN<|dQ (r2 i j) (ss (su v1) v0) (ss (nn 999) v1) (ss (su<|nn 16777216) v0) tt (nE h1)<|nE h2
theorem JH (h:i=32):i<128:=eN<|bB (r1 i) (ss (nn 32) v0) (ss (nn 128)<|su v0) tt<|nQ h
theorem Ep (h:i<=10):(i:Int)+2<=1000000:=bB (r1 i) (ss (nn 10) v0) (ss (nn 1000000)<|aa v0<|nn 2) tt<|nE h
theorem Eo:i+1+1+1+1<=i+8:=eN<|Fy (r1 i) [] 1 (ss (aa v0<|nn 8)<|su<|su<|su<|su v0) tt
theorem JG (h:¬j<=i):i<=j:=eN<|bB (r2 j i) (ss v0<|su v1) (ss v0 v1) tt<|nE<|Nat.not_le.mp h
theorem JF (h:(4:Nat)<=2^i):(0:Nat)<2^i:=eN<|bB (r1 (2^i:Nat)) (ss v0<|nn 4) (ss v0<|su n0) tt<|nE h
theorem JE (h:4<=i):0<i:=eN<|bB (r1 i) (ss v0<|nn 4) (ss v0<|su n0) tt<|nE h
theorem JD (h1:i=j)(h2:j<=4):i<=100000:=eN<|dQ (r2 i j) (ss v1 v0) (ss (nn 4) v1) (ss (nn 100000) v0) tt (nQ h1)<|nE h2
theorem Em (h:i<=4):i<=100000:=eN<|bB (r1 i) (ss (nn 4) v0) (ss (nn 100000) v0) tt<|nE h
theorem JC (h1:j<=63)(h2:i<=j):i<=100000:=eN<|dQ (r2 j i) (ss (nn 63) v0) (ss v0 v1) (ss (nn 100000) v1) tt (nE h1)<|nE h2
theorem JB (h:0<=a):¬0<=(-a)-1:=λz=>absurd (Int.le_trans z<|Int.sub_le_sub_right (Int.neg_nonpos_of_nonneg h) 1) ac
theorem JA (h:i<=900):i<=999:=eN<|bB (r1 i) (ss (nn 900) v0) (ss (nn 999) v0) tt<|nE h
theorem Jz (h:i<=1000):i<=100000:=eN<|bB (r1 i) (ss (nn 1000) v0) (ss (nn 100000) v0) tt<|nE h
theorem Jy (h:i<=4):i<=1000:=eN<|bB (r1 i) (ss (nn 4) v0) (ss (nn 1000) v0) tt<|nE h
theorem El:a-a=0:=eQ (Fy (r1 a) [] 1 (ss n0<|ss v0 v0) tt)<|Fy (r1 a) [] 1 (ss (ss v0 v0) n0) tt
theorem Jx (h:i+1=j+1):i=j:=Dm (bB (r2 i j) (ss (su v1)<|su v0) (ss v1 v0) tt<|nQ h)<|bB (r2 i j) (ss (su v0)<|su v1) (ss v0 v1) tt<|nR h
theorem Jw:(-((-a)-1))-1=a:=by erw[Int.neg_sub,Int.sub_neg,Int.add_comm,Int.add_sub_cancel]
theorem Jv (h:a<1024):a<1024:=bB (r1 a) (ss (nn 1024)<|su v0) (ss (nn 1024)<|su v0) tt h
theorem OI (h1:k<i+(j-i))(h2:i<=j):i+(j-i)-(k+1)=j-(k+1):=Dm (wK (r6 k i (j-i:Nat) j (i+(j-i)-(k+1):Nat) (j-(k+1):Nat)) (ss (ss v3 v1) v2) (ss (ss (aa v1 v2)<|su v0) v4) (ss v5<|ss v3<|su v0) (ss v5 v4) tt (iQ<|Int.ofNat_sub<|eN<|bB (r6 k i (j-i:Nat) j (i+(j-i)-(k+1):Nat) (j-(k+1):Nat)) (ss v3 v1) (ss v3 v1) tt<|nE h2) (iQ<|Int.ofNat_sub<|eN<|bB (r6 k i (j-i:Nat) j (i+(j-i)-(k+1):Nat) (j-(k+1):Nat)) (ss (aa v1 v2)<|su v0) (ss (aa v1 v2)<|su v0) tt<|nE h1)<|iR<|Int.ofNat_sub<|eN<|wK (r6 k i (j-i:Nat) j (i+(j-i)-(k+1):Nat) (j-(k+1):Nat)) (ss (ss v3 v1) v2) (ss (ss (aa v1 v2)<|su v0) v4) v4 (ss v3<|su v0) tt (iQ<|Int.ofNat_sub<|eN<|bB (r6 k i (j-i:Nat) j (i+(j-i)-(k+1):Nat) (j-(k+1):Nat)) (ss v3 v1) (ss v3 v1) tt<|nE h2) (iQ<|Int.ofNat_sub<|eN<|bB (r6 k i (j-i:Nat) j (i+(j-i)-(k+1):Nat) (j-(k+1):Nat)) (ss (aa v1 v2)<|su v0) (ss (aa v1 v2)<|su v0) tt<|nE h1)<|.mk _)<|wK (r6 k i (j-i:Nat) j (i+(j-i)-(k+1):Nat) (j-(k+1):Nat)) (ss v2<|ss v3 v1) (ss v4<|ss (aa v1 v2)<|su v0) (ss (ss v3<|su v0) v5) (ss v4 v5) tt (iR<|Int.ofNat_sub<|eN<|bB (r6 k i (j-i:Nat) j (i+(j-i)-(k+1):Nat) (j-(k+1):Nat)) (ss v3 v1) (ss v3 v1) tt<|nE h2) (iR<|Int.ofNat_sub<|eN<|bB (r6 k i (j-i:Nat) j (i+(j-i)-(k+1):Nat) (j-(k+1):Nat)) (ss (aa v1 v2)<|su v0) (ss (aa v1 v2)<|su v0) tt<|nE h1)<|iQ<|Int.ofNat_sub<|eN<|wK (r6 k i (j-i:Nat) j (i+(j-i)-(k+1):Nat) (j-(k+1):Nat)) (ss (ss v3 v1) v2) (ss (ss (aa v1 v2)<|su v0) v4) v4 (ss v3<|su v0) tt (iQ<|Int.ofNat_sub<|eN<|bB (r6 k i (j-i:Nat) j (i+(j-i)-(k+1):Nat) (j-(k+1):Nat)) (ss v3 v1) (ss v3 v1) tt<|nE h2) (iQ<|Int.ofNat_sub<|eN<|bB (r6 k i (j-i:Nat) j (i+(j-i)-(k+1):Nat) (j-(k+1):Nat)) (ss (aa v1 v2)<|su v0) (ss (aa v1 v2)<|su v0) tt<|nE h1)<|.mk _
theorem OH (h1:i<k+(j-k))(h2:k<=j):i+1<=j:=eN<|dQ (r4 i k (j-k:Nat) j) (ss (aa v1 v2)<|su v0) (ss (ss v3 v1) v2) (ss v3<|su v0) tt (nE h1)<|iQ<|Int.ofNat_sub<|eN<|bB (r4 i k (j-k:Nat) j) (ss v3 v1) (ss v3 v1) tt<|nE h2
theorem OG (h1:a%4=0)(h2:a+4*(i:Int)<=b)(h3:b<2^20)(h4:j<=i)(h5:¬j=0):a+4*((i-j:Nat):Int)<2^20:=Dl (r5 a i b j (i-j:Nat)) [1,1,4,4] 1 (ss v2<|aa v0<|mm 4 v1) (ss (nn 1048576)<|su v2) (ss (ss v1 v3) v4) v3 (ss (nn 1048576)<|su<|aa v0<|mm 4 v4) tt h2 h3 (iQ<|Int.ofNat_sub<|eN<|bB (r5 a i b j (i-j:Nat)) (ss v1 v3) (ss v1 v3) tt<|nE h4)<|.mk _
theorem OF (h1:b%4=0/\0<=b/\b<=384)(h2:(a+4*(i:Int))%4=0)(h3:4<=2^j/\2^j<=32)(h4:b<=a/\a+4*((2^j:Nat):Int)<=b+12*(4*((2^j:Nat):Int)))(h5:i<2^j):a+4*(i:Int)<2^20:=Dl (r4 b (2^j:Nat) a i) [1,48,1,4] 1 (ss (nn 384) v0) (ss (nn 32) v1) (ss (aa v0<|mm 12<|mm 4 v1)<|aa v2<|mm 4 v1) (ss v1<|su v3) (ss (nn 1048576)<|su<|aa v2<|mm 4 v3) tt h1.2.2 (nE h3.2) h4.2<|nE h5
theorem OE (h1:a%4=0)(h2:a+4*(i:Int)<=b)(h3:b<2^20)(h4:j<=i):a+4*((i-j:Nat):Int)<2^20:=Dl (r5 a i b j (i-j:Nat)) [1,1,4,4] 1 (ss v2<|aa v0<|mm 4 v1) (ss (nn 1048576)<|su v2) (ss (ss v1 v3) v4) v3 (ss (nn 1048576)<|su<|aa v0<|mm 4 v4) tt h2 h3 (iQ<|Int.ofNat_sub<|eN<|bB (r5 a i b j (i-j:Nat)) (ss v1 v3) (ss v1 v3) tt<|nE h4)<|.mk _
theorem OD (h:0<=a/\a<131072/\0<b/\b<=4096):0<=a+b/2/\a+b/2<2^40:=⟨(Dl (r4 a b (b/2)<|b%2) [2,1,1,1] 2 (ss v0 n0) (ss v1<|su n0) (ss (nn 2)<|su v3) (ss (aa v3<|mm 2 v2) v1) (ss (aa v0 v2) n0) tt h.1 h.2.2.1 (mB b 1)<|iR<|mC b 1),(Dl (r4 a b (b/2)<|b%2) [2,1,1,1] 2 (ss (nn 131072)<|su v0) (ss (nn 4096) v1) v3 (ss v1<|aa v3<|mm 2 v2) (ss (nn 1099511627776)<|su<|aa v0 v2) tt h.2.1 h.2.2.2 (mA b 1)<|iQ<|mC b 1)⟩
theorem OC (h1:b%4=0/\0<=b/\b<=384)(h2:(a+4*(i:Int))%4=0)(h3:b<=a/\a+4*((2^j:Nat):Int)<=b+12*(4*((2^j:Nat):Int)))(h4:i<2^j):a+4*(i:Int)+4<=b+12*(4*((2^j:Nat):Int)):=mY (r4 b a (2^j:Nat) i) [1,4] 1 (ss (aa v0<|mm 12<|mm 4 v2)<|aa v1<|mm 4 v2) (ss v2<|su v3) (ss (aa v0<|mm 12<|mm 4 v2)<|aa (aa v1<|mm 4 v3)<|nn 4) tt h3.2<|nE h4
theorem OB (h1:b%4=0/\0<=b/\b<=384)(h2:4<=2^j/\2^j<=32)(h3:a%4=0)(h4:b<=a/\a+4*((2^j:Nat):Int)<=b+12*(4*((2^j:Nat):Int)))(h5:i<2^j):a+4*(i:Int)<2^20:=Dl (r4 b (2^j:Nat) a i) [1,48,1,4] 1 (ss (nn 384) v0) (ss (nn 32) v1) (ss (aa v0<|mm 12<|mm 4 v1)<|aa v2<|mm 4 v1) (ss v1<|su v3) (ss (nn 1048576)<|su<|aa v2<|mm 4 v3) tt h1.2.2 (nE h2.2) h4.2<|nE h5
theorem M3 (h:0<a):Int.toNat a=Int.toNat (a-1)+1:=Dm (dQ (r3 a (Int.toNat a:Nat) (Int.toNat (a-1):Nat)) (ss v0 v1) (ss v2<|ss v0<|nn 1) (ss (su v2) v1) tt (iQ<|Int.toNat_of_nonneg<|zB<|bB (r3 a (Int.toNat a:Nat) (Int.toNat (a-1):Nat)) (ss v0<|su n0) v0 tt h)<|iR<|Int.toNat_of_nonneg<|zB<|bB (r3 a (Int.toNat a:Nat) (Int.toNat (a-1):Nat)) (ss v0<|su n0) (ss v0<|nn 1) tt h)<|dQ (r3 a (Int.toNat a:Nat) (Int.toNat (a-1):Nat)) (ss v1 v0) (ss (ss v0<|nn 1) v2) (ss v1<|su v2) tt (iR<|Int.toNat_of_nonneg<|zB<|bB (r3 a (Int.toNat a:Nat) (Int.toNat (a-1):Nat)) (ss v0<|su n0) v0 tt h)<|iQ<|Int.toNat_of_nonneg<|zB<|bB (r3 a (Int.toNat a:Nat) (Int.toNat (a-1):Nat)) (ss v0<|su n0) (ss v0<|nn 1) tt h
theorem M0 (h1:b%4=0/\0<=b/\b<=384)(h2:4<=2^i/\2^i<=32)(h3:b<=a/\a+4*((2^i:Nat):Int)<=b+12*(4*((2^i:Nat):Int))):a<2^40:=ur (r3 b (2^i:Nat) a) [1,44,1] 1 (ss (nn 384) v0) (ss (nn 32) v1) (ss (aa v0<|mm 12<|mm 4 v1)<|aa v2<|mm 4 v1) (ss (nn 1099511627776)<|su v2) tt h1.2.2 (nE h2.2) h3.2
theorem MZ (h1:b%4=0/\0<=b/\b<=384)(h2:(a+4*(i:Int))%4=0)(h3:b<=a/\a+4*((2^j:Nat):Int)<=b+12*(4*((2^j:Nat):Int))):0<=a+4*(i:Int):=ur (r3 b a i) [1,1,4] 1 (ss v0 n0) (ss v1 v0) v2 (ss (aa v1<|mm 4 v2) n0) tt h1.2.1 h3.1<|.mk _
theorem MY (h1:a%4=0/\0<=a/\a<=384)(h2:(b+4*(i:Int))%4=0)(h3:a<=b/\b+4*((2^j:Nat):Int)<=a+12*(4*((2^j:Nat):Int))):a<=b+4*(i:Int):=mY (r3 a b i) [1,4] 1 (ss v1 v0) v2 (ss (aa v1<|mm 4 v2) v0) tt h3.1<|.mk _
theorem MX (h1:i+j=k)(h2:j<k):i-1+(j+1)=k:=Dm (dQ (r4 i j k (i-1:Nat)) (ss v2<|aa v0 v1) (ss (ss v0<|nn 1) v3) (ss v2<|aa v3<|su v1) tt (nQ h1)<|iQ<|Int.ofNat_sub<|eN<|dQ (r4 i j k (i-1:Nat)) (ss (aa v0 v1) v2) (ss v2<|su v1) (ss v0<|nn 1) tt (nR h1)<|nE h2)<|dQ (r4 i j k (i-1:Nat)) (ss (aa v0 v1) v2) (ss v3<|ss v0<|nn 1) (ss (aa v3<|su v1) v2) tt (nR h1)<|iR<|Int.ofNat_sub<|eN<|dQ (r4 i j k (i-1:Nat)) (ss (aa v0 v1) v2) (ss v2<|su v1) (ss v0<|nn 1) tt (nR h1)<|nE h2
theorem MW (h:0<=a/\a<131072/\0<b/\b<=4096):0<=a+b-1/\a+b-1<2^40:=⟨(dQ (r2 a b) (ss v0 n0) (ss v1<|su n0) (ss (ss (aa v0 v1)<|nn 1) n0) tt h.1 h.2.2.1),(dQ (r2 a b) (ss (nn 131072)<|su v0) (ss (nn 4096) v1) (ss (nn 1099511627776)<|su<|ss (aa v0 v1)<|nn 1) tt h.2.1 h.2.2.2)⟩
theorem MV (h1:b%4=0/\0<=b/\b<=384)(h2:a%4=0)(h3:b<=a/\a+4*((2^j:Nat):Int)<=b+12*(4*((2^j:Nat):Int))):0<=a+4*(i:Int):=ur (r3 b a i) [1,1,4] 1 (ss v0 n0) (ss v1 v0) v2 (ss (aa v1<|mm 4 v2) n0) tt h1.2.1 h3.1<|.mk _
theorem MU (h1:0<j)(h2:i<=j-1):i<j:=eN<|dQ (r3 j i (j-1:Nat)) (ss v2 v1) (ss (ss v0<|nn 1) v2) (ss v0<|su v1) tt (nE h2)<|iQ<|Int.ofNat_sub<|eN<|bB (r3 j i (j-1:Nat)) (ss v0<|su n0) (ss v0<|nn 1) tt<|nE h1
theorem MS (h:0<=a/\a<131072/\0<b/\b<=4096):0<=a+b/\a+b<2^40:=⟨(dQ (r2 a b) (ss v0 n0) (ss v1<|su n0) (ss (aa v0 v1) n0) tt h.1 h.2.2.1),(dQ (r2 a b) (ss (nn 131072)<|su v0) (ss (nn 4096) v1) (ss (nn 1099511627776)<|su<|aa v0 v1) tt h.2.1 h.2.2.2)⟩
theorem MQ (h:0<=a/\a<131072/\0<b/\b<=4096):0<=a/\a<2^40:=⟨(bB (r1 a) (ss v0 n0) (ss v0 n0) tt h.1),(bB (r1 a) (ss (nn 131072)<|su v0) (ss (nn 1099511627776)<|su v0) tt h.2.1)⟩
theorem MP (h1:(a+4*(i:Int))%4=0)(h2:b<=a/\a+4*((2^j:Nat):Int)<=b+12*(4*((2^j:Nat):Int)))(h3:i<2^j):a+4*(i:Int)+4<=b+12*(4*((2^j:Nat):Int)):=mY (r4 b a (2^j:Nat) i) [1,4] 1 (ss (aa v0<|mm 12<|mm 4 v2)<|aa v1<|mm 4 v2) (ss v2<|su v3) (ss (aa v0<|mm 12<|mm 4 v2)<|aa (aa v1<|mm 4 v3)<|nn 4) tt h2.2<|nE h3
theorem MO (h1:a%(4*(i:Int))+4*(i:Int)*(a/(4*(i:Int)))=a)(h2:a%(4*(i:Int))<4*(i:Int))(h3:0<=a%(4*(i:Int))):4*(i:Int)*(a/(4*(i:Int)))<=a/\a<4*(i:Int)*(a/(4*(i:Int)))+4*(i:Int):=⟨(dQ (r4 (a%(4*(i:Int))) (4*(i:Int)*(a/(4*(i:Int)))) a i) (ss v2<|aa v0 v1) (ss v0 n0) (ss v2 v1) tt (iQ h1) h3),(dQ (r4 (a%(4*(i:Int))) (4*(i:Int)*(a/(4*(i:Int)))) a i) (ss (aa v0 v1) v2) (ss (mm 4 v3)<|su v0) (ss (aa v1<|mm 4 v3)<|su v2) tt (iR h1) h2)⟩
theorem MN (h:4<=2^i/\2^i<=32):2^i-2<2^i:=eN<|bB (r2 (2^i:Nat) (2^i-2:Nat)) (ss (ss v0<|nn 2) v1) (ss v0<|su v1) tt<|iQ<|Int.ofNat_sub<|eN<|bB (r2 (2^i:Nat) (2^i-2:Nat)) (ss v0<|nn 4) (ss v0<|nn 2) tt<|nE h.1
theorem MM (h1:b%4=0/\0<=b/\b<=384)(h2:b<=a/\a+4*((2^i:Nat):Int)<=b+12*(4*((2^i:Nat):Int))):a+4*((2^i:Nat):Int)<=b+12*(4*((2^i:Nat):Int)):=bB (r3 b a (2^i:Nat)) (ss (aa v0<|mm 12<|mm 4 v2)<|aa v1<|mm 4 v2) (ss (aa v0<|mm 12<|mm 4 v2)<|aa v1<|mm 4 v2) tt h2.2
theorem ML (h:4<=2^i/\2^i<=32):2^i-1<2^i:=eN<|bB (r2 (2^i:Nat) (2^i-1:Nat)) (ss (ss v0<|nn 1) v1) (ss v0<|su v1) tt<|iQ<|Int.ofNat_sub<|eN<|bB (r2 (2^i:Nat) (2^i-1:Nat)) (ss v0<|nn 4) (ss v0<|nn 1) tt<|nE h.1
theorem MK (h1:a%1024=(i:Int))(h2:0<=a)(h3:a<2^32):0<=a/1024/\a/1024<2^22:=⟨(ur (r3 (a%1024) a<|a/1024) [] 1024 (ss v1 n0) (ss (nn 1024)<|su v0) (ss (aa v0<|mm 1024 v2) v1) (ss v2 n0) tt h2 (mB a 1023)<|iR<|mC a 1023),(ur (r3 (a%1024) a<|a/1024) [] 1024 (ss (nn 4294967296)<|su v1) v0 (ss v1<|aa v0<|mm 1024 v2) (ss (nn 4194304)<|su v2) tt h3 (mA a 1023)<|iQ<|mC a 1023)⟩
theorem MJ (h1:a%4=0/\0<=a/\a<=384)(h2:4<=2^i/\2^i<=32):a+12*(4*((2^i:Nat):Int))<2^20:=mY (r2 a (2^i:Nat)) [1,48] 1 (ss (nn 384) v0) (ss (nn 32) v1) (ss (nn 1048576)<|su<|aa v0<|mm 12<|mm 4 v1) tt h1.2.2<|nE h2.2
theorem MI (h1:i+j<=k)(h2:0<i):i-1+j<=k+1:=eN<|dQ (r4 i j k (i-1:Nat)) (ss v2<|aa v0 v1) (ss (ss v0<|nn 1) v3) (ss (su v2)<|aa v3 v1) tt (nE h1)<|iQ<|Int.ofNat_sub<|eN<|bB (r4 i j k (i-1:Nat)) (ss v0<|su n0) (ss v0<|nn 1) tt<|nE h2
theorem MH (h1:i<=j)(h2:¬i=0):i-1<=j:=eN<|dQ (r3 i j (i-1:Nat)) (ss v1 v0) (ss (ss v0<|nn 1) v2) (ss v1 v2) tt (nE h1)<|iQ<|Int.ofNat_sub<|eN<|bB (r3 i j (i-1:Nat)) (ss v0<|su n0) (ss v0<|nn 1) tt<|nE<|Nat.pos_of_ne_zero h2
theorem MG (h1:j<=i)(h2:¬j=0):a+4*((i-j:Nat):Int)<a+4*(i:Int):=mY (r4 j i a (i-j:Nat)) [4,4] 1 (ss v0<|su n0) (ss (ss v1 v0) v3) (ss (aa v2<|mm 4 v1)<|su<|aa v2<|mm 4 v3) tt (nE<|Nat.pos_of_ne_zero h2)<|iQ<|Int.ofNat_sub<|eN<|bB (r4 j i a (i-j:Nat)) (ss v1 v0) (ss v1 v0) tt<|nE h1
theorem MF (h1:0<=a)(h2:a<b):a/4<b/\0<=a/4:=⟨(Dl (r4 a b (a/4)<|a%4) [3,4,1,1] 4 (ss v0 n0) (ss v1<|su v0) v3 (ss v0<|aa v3<|mm 4 v2) (ss v1<|su v2) tt h1 h2 (mA a 3)<|iQ<|mC a 3),(ur (r4 a b (a/4)<|a%4) [] 4 (ss v0 n0) (ss (nn 4)<|su v3) (ss (aa v3<|mm 4 v2) v0) (ss v2 n0) tt h1 (mB a 3)<|iR<|mC a 3)⟩
theorem ME (h:i<8):8=i+(7-i+1):=Dm (bB (r2 i (7-i:Nat)) (ss v1<|ss (nn 7) v0) (ss (aa v0<|su v1)<|nn 8) tt<|iR<|Int.ofNat_sub<|eN<|bB (r2 i (7-i:Nat)) (ss (nn 8)<|su v0) (ss (nn 7) v0) tt<|nE h)<|bB (r2 i (7-i:Nat)) (ss (ss (nn 7) v0) v1) (ss (nn 8)<|aa v0<|su v1) tt<|iQ<|Int.ofNat_sub<|eN<|bB (r2 i (7-i:Nat)) (ss (nn 8)<|su v0) (ss (nn 7) v0) tt<|nE h
theorem MD (h1:(i:Int)*(4*(j:Int))+4*(j:Int)<=4*(j:Int)*(j:Int))(h2:a%(4*(j:Int))+4*(j:Int)*(a/(4*(j:Int)))=a)(h3:a%(4*(j:Int))<4*(j:Int)):(i:Int)*(4*(j:Int))+a%(4*(j:Int))<4*(j:Int)*(j:Int):=dQ (r4 ((i:Int)*(4*(j:Int))) j (4*(j:Int)*(j:Int))<|a%(4*(j:Int))) (ss v2<|aa v0<|mm 4 v1) (ss (mm 4 v1)<|su v3) (ss v2<|su<|aa v0 v3) tt h1 h3
theorem MC (h1:a%4=0/\0<=a/\a<=384)(h2:a<=b/\b+4*((2^i:Nat):Int)<=a+12*(4*((2^i:Nat):Int))):a<=b:=bB (r2 a b) (ss v1 v0) (ss v1 v0) tt h2.1
theorem MB (h1:j<=i)(h2:¬j=0):¬a+4*(i:Int)-(a+4*((i-j:Nat):Int))<4-0:=λz=>nF<|ur (r4 j i a (i-j:Nat)) [4,4,1] 0 (ss v0<|su n0) (ss (ss v1 v0) v3) (ss (ss (nn 4) n0)<|su<|ss (aa v2<|mm 4 v1)<|aa v2<|mm 4 v3) (nn<|-1) tt (nE<|Nat.pos_of_ne_zero h2) (iQ<|Int.ofNat_sub<|eN<|bB (r4 j i a (i-j:Nat)) (ss v1 v0) (ss v1 v0) tt<|nE h1) z
theorem MA (h1:i<k+(j-k))(h2:k<=j):i<=j:=eN<|dQ (r4 i k (j-k:Nat) j) (ss (aa v1 v2)<|su v0) (ss (ss v3 v1) v2) (ss v3 v0) tt (nE h1)<|iQ<|Int.ofNat_sub<|eN<|bB (r4 i k (j-k:Nat) j) (ss v3 v1) (ss v3 v1) tt<|nE h2
theorem Mz (h1:0<j)(h2:i<j):i<=j-1:=eN<|dQ (r3 j i (j-1:Nat)) (ss v0<|su v1) (ss v2<|ss v0<|nn 1) (ss v2 v1) tt (nE h2)<|iR<|Int.ofNat_sub<|eN<|dQ (r3 j i (j-1:Nat)) (ss v0<|su v1) v1 (ss v0<|nn 1) tt (nE h2)<|.mk _
theorem My:a%1024=((Int.toNat (a%1024):Nat):Int):=eQ (bB (r2 (a%1024) (Int.toNat (a%1024):Nat)) (ss v1 v0) (ss v1 v0) tt<|iR<|Int.toNat_of_nonneg<|zB<|bB (r2 (a%1024) (Int.toNat (a%1024):Nat)) v0 v0 tt<|mA a 1023)<|bB (r2 (a%1024) (Int.toNat (a%1024):Nat)) (ss v0 v1) (ss v0 v1) tt<|iQ<|Int.toNat_of_nonneg<|zB<|bB (r2 (a%1024) (Int.toNat (a%1024):Nat)) v0 v0 tt<|mA a 1023
theorem Mx (h1:Int.toNat a<i)(h2:0<=a)(h3:i=j):a<(i:Int):=dQ (r3 (Int.toNat a:Nat) i a) (ss v1<|su v0) (ss v0 v2) (ss v1<|su v2) tt (nE h1)<|iR<|Int.toNat_of_nonneg<|zB<|bB (r3 (Int.toNat a:Nat) i a) (ss v2 n0) v2 tt h2
theorem Mv (h1:j<i)(h2:i<=4):i-1<=4:=eN<|dQ (r3 j i (i-1:Nat)) (ss (nn 4) v1) (ss (ss v1<|nn 1) v2) (ss (nn 4) v2) tt (nE h2)<|iQ<|Int.ofNat_sub<|eN<|dQ (r3 j i (i-1:Nat)) (ss v1<|su v0) v0 (ss v1<|nn 1) tt (nE h1)<|.mk _
theorem Mu (h1:a%4=0/\0<=a/\a<=384)(h2:4<=2^i/\2^i<=32):a+12*(4*((2^i:Nat):Int))<=2^20:=mY (r2 a (2^i:Nat)) [1,48] 1 (ss (nn 384) v0) (ss (nn 32) v1) (ss (nn 1048576)<|aa v0<|mm 12<|mm 4 v1) tt h1.2.2<|nE h2.2
theorem Mt (h1:0<=a/\a<131072/\0<b/\b<=4096)(h2:i<j):a+3<2^40:=bB (r1 a) (ss (nn 131072)<|su v0) (ss (nn 1099511627776)<|su<|aa v0<|nn 3) tt h1.2.1
theorem Ms:i+(j+1)-(i+1)=j:=Dm (bB (r3 (i+(j+1)-(i+1):Nat) j i) (ss (ss (aa v2<|su v1)<|su v2) v0) (ss v1 v0) tt<|iQ<|Int.ofNat_sub<|eN<|bB (r3 (i+(j+1)-(i+1):Nat) j i) v1 (ss (aa v2<|su v1)<|su v2) tt<|.mk _)<|bB (r3 (i+(j+1)-(i+1):Nat) j i) (ss v0<|ss (aa v2<|su v1)<|su v2) (ss v0 v1) tt<|iR<|Int.ofNat_sub<|eN<|bB (r3 (i+(j+1)-(i+1):Nat) j i) v1 (ss (aa v2<|su v1)<|su v2) tt<|.mk _
theorem Mr (h1:i<k+(j-k))(h2:k<=j):i<j:=eN<|dQ (r4 i k (j-k:Nat) j) (ss (aa v1 v2)<|su v0) (ss (ss v3 v1) v2) (ss v3<|su v0) tt (nE h1)<|iQ<|Int.ofNat_sub<|eN<|bB (r4 i k (j-k:Nat) j) (ss v3 v1) (ss v3 v1) tt<|nE h2
theorem Mq (h1:(i:Int)*b<=9*b)(h2:c+10*b<=2^20)(h3:0<b)(h4:a=c+(i:Int)*b):a<2^20:=Ny (r4 ((i:Int)*b) b c a) (ss (mm 9 v1) v0) (ss (nn 1048576)<|aa v2<|mm 10 v1) (ss v1<|su n0) (ss (aa v2 v0) v3) (ss (nn 1048576)<|su v3) tt h1 h2 h3<|iQ h4
theorem Mp (h:¬i=0):i-1<i:=eN<|bB (r2 i (i-1:Nat)) (ss (ss v0<|nn 1) v1) (ss v0<|su v1) tt<|iQ<|Int.ofNat_sub<|eN<|bB (r2 i (i-1:Nat)) (ss v0<|su n0) (ss v0<|nn 1) tt<|nE<|Nat.pos_of_ne_zero h
theorem Mn (h1:a<(i:Int))(h2:i<=63):a<2^63:=dQ (r2 a i) (ss v1<|su v0) (ss (nn 63) v1) (ss (nn 9223372036854775808)<|su v0) tt h1<|nE h2
theorem Mm (h1:i<k)(h2:j<=k):i<j+(k-j):=eN<|dQ (r4 i k j (k-j:Nat)) (ss v1<|su v0) (ss v3<|ss v1 v2) (ss (aa v2 v3)<|su v0) tt (nE h1)<|iR<|Int.ofNat_sub<|eN<|bB (r4 i k j (k-j:Nat)) (ss v1 v2) (ss v1 v2) tt<|nE h2
theorem Ml (h1:(b+4*(i:Int))%4=0)(h2:a<=b/\b+4*((2^j:Nat):Int)<=a+12*(4*((2^j:Nat):Int))):a<=b+4*(i:Int):=mY (r3 a b i) [1,4] 1 (ss v1 v0) v2 (ss (aa v1<|mm 4 v2) v0) tt h2.1<|.mk _
theorem Mj (h:i<24):((i%3:Nat):Int)<2^63:=Int.lt_trans (Int.ofNat_lt.mpr<|Nat.mod_lt i ac) ac
theorem Mi (h:i<j+1+k):i<j+(k+1):=eN<|bB (r3 i j k) (ss (aa (su v1) v2)<|su v0) (ss (aa v1<|su v2)<|su v0) tt<|nE h
theorem Mh (h:i<j+(k+1)):i<j+1+k:=eN<|bB (r3 i j k) (ss (aa v1<|su v2)<|su v0) (ss (aa (su v1) v2)<|su v0) tt<|nE h
theorem Mg (h1:Int.toNat a<i)(h2:0<=a)(h3:i=j)(h4:j<=100000):a<2^63:=Ny (r4 (Int.toNat a:Nat) i a j) (ss v1<|su v0) (ss v3 v1) (ss (nn 100000) v3) (ss v0 v2) (ss (nn 9223372036854775808)<|su v2) tt (nE h1) (nQ h3) (nE h4)<|iR<|Int.toNat_of_nonneg<|zB<|bB (r4 (Int.toNat a:Nat) i a j) (ss v2 n0) v2 tt h2
theorem Mf (h1:j<=i)(h2:i<=j):i-j=0:=Dm (dQ (r3 j i (i-j:Nat)) (ss v0 v1) (ss (ss v1 v0) v2) (ss n0 v2) tt (nE h2)<|iQ<|Int.ofNat_sub<|eN<|bB (r3 j i (i-j:Nat)) (ss v1 v0) (ss v1 v0) tt<|nE h1)<|bB (r3 j i (i-j:Nat)) v2 (ss v2 n0) tt<|.mk _
theorem Me (h:0<=a/\a<131072/\0<b/\b<=4096):a<2^32:=bB (r1 a) (ss (nn 131072)<|su v0) (ss (nn 4294967296)<|su v0) tt h.2.1
theorem Mc (h1:Int.toNat a<i)(h2:0<=a):a<(i:Int):=dQ (r3 (Int.toNat a:Nat) i a) (ss v1<|su v0) (ss v0 v2) (ss v1<|su v2) tt (nE h1)<|iR<|Int.toNat_of_nonneg<|zB<|bB (r3 (Int.toNat a:Nat) i a) (ss v2 n0) v2 tt h2
theorem Mb (h1:a/(4*(i:Int))<(j:Int)*(i:Int)+(k:Int)+1)(h2:b/(4*(i:Int))=(l:Int)*(i:Int)+(k:Int)):a/(4*(i:Int))<=(j:Int)*(i:Int)+(k:Int):=bB (r3 (a/(4*(i:Int))) ((j:Int)*(i:Int)) k) (ss (su<|aa v1 v2)<|su v0) (ss (aa v1 v2) v0) tt h1
theorem Ma (h:i<2^j):a<=a+4*(i:Int)/\a+4*(i:Int)<a+4*((2^j:Nat):Int):=⟨(vh (r3 i (2^j:Nat) a) [4] 1 v0 (ss (aa v2<|mm 4 v0) v2) tt<|.mk _),(vh (r3 i (2^j:Nat) a) [4] 1 (ss v1<|su v0) (ss (aa v2<|mm 4 v1)<|su<|aa v2<|mm 4 v0) tt<|nE h)⟩
theorem LZ (h1:(i:Int)*(j:Int)+(j:Int)<=(l:Int)*(j:Int))(h2:k<j):(i:Int)*(j:Int)+(k:Int)<(l:Int)*(j:Int)+(m:Int):=wK (r5 ((i:Int)*(j:Int)) j ((l:Int)*(j:Int)) k m) (ss v2<|aa v0 v1) (ss v1<|su v3) v4 (ss (aa v2 v4)<|su<|aa v0 v3) tt h1 (nE h2)<|.mk _
theorem LY (h1:b%4=0)(h2:a%4=0)(h3:a+b<=2^20):a+b<=2^32:=bB (r2 a b) (ss (nn 1048576)<|aa v0 v1) (ss (nn 4294967296)<|aa v0 v1) tt h3
theorem LX (h:0=i-j):i<=j:=eN<|dQ (r3 (i-j:Nat) i j) (ss n0 v0) (ss v0<|ss v1 v2) (ss v2 v1) tt (nR h)<|nS i j
theorem LW (h:a<=b/\b<a+(i:Int)):a<=b/\b<a+((i+1:Nat):Int):=⟨(bB (r3 a b i) (ss v1 v0) (ss v1 v0) tt h.1),(bB (r3 a b i) (ss (aa v0 v2)<|su v1) (ss (aa v0<|su v2)<|su v1) tt h.2)⟩
theorem LV (h1:0=i-j)(h2:j<i):False:=nF<|ur (r3 (i-j:Nat) j i) [] 0 (ss n0 v0) (ss v2<|su v1) (ss v0<|ss v2 v1) (nn<|-1) tt (nR h1) (nE h2)<|iR<|Int.ofNat_sub<|eN<|bB (r3 (i-j:Nat) j i) (ss v2<|su v1) (ss v2 v1) tt<|nE h2
theorem LU (h1:a*((2^i:Nat):Int)+((2^i:Nat):Int)<=4*((2^20:Nat):Int))(h2:4<=2^i/\2^i<=32):a*((2^i:Nat):Int)<2^22:=dQ (r2 (a*((2^i:Nat):Int)) (2^i:Nat)) (ss (mm 4<|nn 1048576)<|aa v0 v1) (ss v1<|nn 4) (ss (nn 4194304)<|su v0) tt h1<|nE h2.1
theorem LS (h:(i:Int)<640):((i%5:Nat):Int)<2^63:=Int.lt_trans (Int.ofNat_lt.mpr<|Nat.mod_lt i ac) ac
theorem Df (h1:b<2*a)(h2:¬b%2=0):0<=a-1-b/2:=ur (r4 b a (b/2)<|b%2) [] 2 (ss (mm 2 v1)<|su v0) v3 (ss v0<|aa v3<|mm 2 v2) (ss (ss (ss v1<|nn 1) v2) n0) tt h1 (mA b 1)<|iQ<|mC b 1
theorem LR (h1:i+4*(k+1)+20<l)(h2:j<=4):i+j+4*k+20<l:=eN<|dQ (r4 i k l j) (ss v2<|aa (aa (aa v0<|mm 4<|su v1)<|nn 20)<|nn 1) (ss (nn 4) v3) (ss v2<|su<|aa (aa (aa v0 v3)<|mm 4 v1)<|nn 20) tt (nE h1)<|nE h2
theorem LQ (h1:i+40*(k+1)+200<l)(h2:j<=40):i+j+40*k+200<l:=eN<|dQ (r4 i k l j) (ss v2<|aa (aa (aa v0<|mm 40<|su v1)<|nn 200)<|nn 1) (ss (nn 40) v3) (ss v2<|su<|aa (aa (aa v0 v3)<|mm 40 v1)<|nn 200) tt (nE h1)<|nE h2
theorem LP (h1:4*(i:Int)*(i:Int)*(i:Int)<=128*32*32)(h2:a<4*(i:Int)*(i:Int)*(i:Int)):a<131072:=dQ (r2 (4*(i:Int)*(i:Int)*(i:Int)) a) (ss (mr (mm 128<|nn 32) 32) v0) (ss v0<|su v1) (ss (nn 131072)<|su v1) tt h1 h2
theorem LM (h1:2^k*2^k<=32*32)(h2:j<=2^k*2^k)(h3:i<=27*j):i+j*1<=1000000:=eN<|ur (r3 (2^k*2^k:Nat) j i) [28,28,1] 1 (ss (mm 32<|nn 32) v0) (ss v0 v1) (ss (mm 27 v1) v2) (ss (nn 1000000)<|aa v2<|mr v1 1) tt (nE h1) (nE h2)<|nE h3
theorem De (h1:0<=b)(h2:¬b%2=0):a-1-b/2<a:=ur (r4 b a (b/2)<|b%2) [] 2 (ss v0 n0) (ss (nn 2)<|su v3) (ss (aa v3<|mm 2 v2) v0) (ss v1<|su<|ss (ss v1<|nn 1) v2) tt h1 (mB b 1)<|iR<|mC b 1
theorem zY (h1:a<2^22)(h2:b<1024):a*1024+b<2^32:=mY (r2 a b) [1024,1] 1 (ss (nn 4194304)<|su v0) (ss (nn 1024)<|su v1) (ss (nn 4294967296)<|su<|aa (mr v0 1024) v1) tt h1 h2
theorem LL (h1:(i:Int)*(j:Int)+1*(j:Int)<=(j:Int)*(j:Int))(h2:k<j):(i:Int)*(j:Int)+(k:Int)+1<=(j:Int)*(j:Int):=dQ (r4 ((i:Int)*(j:Int)) j ((j:Int)*(j:Int)) k) (ss v2<|aa v0<|mm 1 v1) (ss v1<|su v3) (ss v2<|su<|aa v0 v3) tt h1<|nE h2
theorem LK (h:i+4*k+20<j):i+4*0+20<j:=eN<|mY (r3 i k j) [1,4] 1 (ss v2<|su<|aa (aa v0<|mm 4 v1)<|nn 20) v1 (ss v2<|su<|aa (aa v0<|mm 4 n0)<|nn 20) tt (nE h)<|.mk _
theorem LJ (h:i+40*k+200<j):i+40*0+200<j:=eN<|mY (r3 i k j) [1,40] 1 (ss v2<|su<|aa (aa v0<|mm 40 v1)<|nn 200) v1 (ss v2<|su<|aa (aa v0<|mm 40 n0)<|nn 200) tt (nE h)<|.mk _
theorem LI (h:a<2^32):a/1024<2^22:=ur (r3 a (a/1024)<|a%1024) [] 1024 (ss (nn 4294967296)<|su v0) v2 (ss v0<|aa v2<|mm 1024 v1) (ss (nn 4194304)<|su v1) tt h (mA a 1023)<|iQ<|mC a 1023
theorem LH (h1:a%2=0)(h2:a<2*b):a/2<b:=ur (r4 (a%2) a b<|a/2) [] 2 (ss (mm 2 v2)<|su v1) v0 (ss v1<|aa v0<|mm 2 v3) (ss v2<|su v3) tt h2 (mA a 1)<|iQ<|mC a 1
theorem LG (h1:i<=k+1)(h2:k<=j):i<=j+1:=eN<|dQ (r3 i k j) (ss (su v1) v0) (ss v2 v1) (ss (su v2) v0) tt (nE h1)<|nE h2
theorem LF (h1:i<2^39)(h2:j<k)(h3:k<=1024):i+j<2^40:=eN<|wK (r3 i j k) (ss (nn 549755813888)<|su v0) (ss v2<|su v1) (ss (nn 1024) v2) (ss (nn 1099511627776)<|su<|aa v0 v1) tt (nE h1) (nE h2)<|nE h3
theorem LD (h1:b%4=0)(h2:0<b):a<a+b:=bB (r2 b a) (ss v0<|su n0) (ss (aa v1 v0)<|su v1) tt h2
theorem LC (h1:4<=2^i/\2^i<=32)(h2:0<=a):0<=a+4*((2^i:Nat):Int)-1:=mY (r2 (2^i:Nat) a) [4,1] 1 (ss v0<|nn 4) (ss v1 n0) (ss (ss (aa v1<|mm 4 v0)<|nn 1) n0) tt (nE h1.1) h2
theorem LB (h1:i=j)(h2:j<=4):i<=4:=eN<|dQ (r2 i j) (ss v1 v0) (ss (nn 4) v1) (ss (nn 4) v0) tt (nQ h1)<|nE h2
theorem LA (h1:(i:Int)<(j:Int))(h2:j+k<=l)(h3:l<=20):(i:Int)<2^63:=Ny (r4 i j k l) (ss v1<|su v0) (ss v3<|aa v1 v2) (ss (nn 20) v3) v2 (ss (nn 9223372036854775808)<|su v0) tt h1 (nE h2) (nE h3)<|.mk _
theorem Lz (h1:k<2^j)(h2:i<k):i<2^j:=eN<|dQ (r3 k (2^j:Nat) i) (ss v1<|su v0) (ss v0<|su v2) (ss v1<|su v2) tt (nE h1)<|nE h2
theorem Ly (h1:a*(i:Int)+1*(i:Int)<=b*(i:Int))(h2:b*(i:Int)<=2^22):a*(i:Int)+(i:Int)<=2^22:=dQ (r3 (a*(i:Int)) i<|b*(i:Int)) (ss v2<|aa v0<|mm 1 v1) (ss (nn 4194304) v2) (ss (nn 4194304)<|aa v0 v1) tt h1 h2
theorem Lx (h1:i+j=k)(h2:j<k):0<(i:Int):=dQ (r3 i j k) (ss (aa v0 v1) v2) (ss v2<|su v1) (ss v0<|su n0) tt (nR h1)<|nE h2
theorem Lw (h1:i+j=k)(h2:k<=1024):(i:Int)<2^29:=wK (r3 i j k) (ss v2<|aa v0 v1) (ss (nn 1024) v2) v1 (ss (nn 536870912)<|su v0) tt (nQ h1) (nE h2)<|.mk _
theorem Lu (h:i<2^10):0<=(i:Int)/\(i:Int)<1024:=⟨(bB (r1 i) v0 (ss v0 n0) tt<|.mk _),(bB (r1 i) (ss (nn 1024)<|su v0) (ss (nn 1024)<|su v0) tt<|nE h)⟩
theorem Lr (h1:i<2^39)(h2:j<=303):i+1+j<2^40:=eN<|dQ (r2 i j) (ss (nn 549755813888)<|su v0) (ss (nn 303) v1) (ss (nn 1099511627776)<|su<|aa (su v0) v1) tt (nE h1)<|nE h2
theorem Lp (h1:j=i+k)(h2:j<=3+5*l)(h3:l<=60):i<=303:=eN<|Dl (r4 j i k l) [1,1,5,1] 1 (ss v0<|aa v1 v2) (ss (aa (nn 3)<|mm 5 v3) v0) (ss (nn 60) v3) v2 (ss (nn 303) v1) tt (nR h1) (nE h2) (nE h3)<|.mk _
theorem Lm (h1:i<j)(h2:j<=9):3+10*i+1<2^39:=eN<|mY (r2 i j) [10,10] 1 (ss v1<|su v0) (ss (nn 9) v1) (ss (nn 549755813888)<|su<|su<|aa (nn 3)<|mm 10 v0) tt (nE h1)<|nE h2
theorem Ll (h1:j<=3+5*k)(h2:k<=60):i+1+j<=i+1024:=eN<|mY (r3 j k i) [1,5] 1 (ss (aa (nn 3)<|mm 5 v1) v0) (ss (nn 60) v1) (ss (aa v2<|nn 1024)<|aa (su v2) v0) tt (nE h1)<|nE h2
theorem Lk (h1:a/(4*(i:Int))<=a)(h2:a<2^20):a/(4*(i:Int))*1024+1<2^32:=mY (r2 (a/(4*(i:Int))) a) [1024,1024] 1 (ss v1 v0) (ss (nn 1048576)<|su v1) (ss (nn 4294967296)<|su<|su<|mr v0 1024) tt h1 h2
theorem Lj (h1:i<j)(h2:j<=9):3+10*i<2^40:=eN<|mY (r2 i j) [10,10] 1 (ss v1<|su v0) (ss (nn 9) v1) (ss (nn 1099511627776)<|su<|aa (nn 3)<|mm 10 v0) tt (nE h1)<|nE h2
theorem Li (h1:2^j=i)(h2:4<=i/\i<=32):0<4*(i:Int):=vh (r1 i) [4] 1 (ss v0<|nn 4) (ss (mm 4 v0)<|su n0) tt<|nE h2.1
theorem Lh (h:i+4*(j+1)+20<k):i+1+4*j+20<k:=eN<|bB (r3 i j k) (ss v2<|aa (aa (aa v0<|mm 4<|su v1)<|nn 20)<|nn 1) (ss v2<|su<|aa (aa (su v0)<|mm 4 v1)<|nn 20) tt<|nE h
theorem Le (h:i+40*(j+1)+200<k):i+3+40*j+200<k:=eN<|bB (r3 i j k) (ss v2<|aa (aa (aa v0<|mm 40<|su v1)<|nn 200)<|nn 1) (ss v2<|aa (aa (aa (aa v0<|nn 3)<|mm 40 v1)<|nn 200)<|nn 1) tt<|nE h
theorem Lb (h1:a<(i:Int))(h2:i<2^60):a<2^63:=dQ (r2 a i) (ss v1<|su v0) (ss (nn 1152921504606846976)<|su v1) (ss (nn 9223372036854775808)<|su v0) tt h1<|nE h2
theorem La (h1:0<=a*2^i)(h2:0<=b):0<=a*2^i+b:=dQ (r2 (a*2^i) b) (ss v0 n0) (ss v1 n0) (ss (aa v0 v1) n0) tt h1 h2
theorem K8 (h1:4<=2^i/\2^i<=32)(h2:0<2^i):5<4*((2^i:Nat):Int):=vh (r1 (2^i:Nat)) [4] 1 (ss v0<|nn 4) (ss (mm 4 v0)<|su<|nn 5) tt<|nE h1.1
theorem K7 (h1:4<=2^i/\2^i<=32)(h2:0<2^i):7<4*((2^i:Nat):Int):=vh (r1 (2^i:Nat)) [4] 1 (ss v0<|nn 4) (ss (mm 4 v0)<|su<|nn 7) tt<|nE h1.1
theorem K6 (h1:j<=27*k)(h2:i<=j+k)(h3:k<=1024):i<=100000:=eN<|ur (r3 j k i) [1,1,28] 1 (ss (mm 27 v1) v0) (ss (aa v0 v1) v2) (ss (nn 1024) v1) (ss (nn 100000) v2) tt (nE h1) (nE h2)<|nE h3
theorem K5 (h1:0<=(i:Int)*b)(h2:0<=c)(h3:a=c+(i:Int)*b):0<=a:=wK (r3 ((i:Int)*b) c a) (ss v0 n0) (ss v1 n0) (ss v2<|aa v1 v0) (ss v2 n0) tt h1 h2<|iR h3
theorem K4 (h:i+1<=j):i<=j:=eN<|bB (r2 i j) (ss v1<|su v0) (ss v1 v0) tt<|nE h
theorem K3 (h1:4<=2^i/\2^i<=32)(h2:0<2^i):1<((2^i:Nat):Int):=bB (r1 (2^i:Nat)) (ss v0<|nn 4) (ss v0<|su<|nn 1) tt<|nE h1.1
theorem K2 (h1:0+j=i)(h2:j<10):i<10:=eN<|dQ (r2 j i) (ss (aa n0 v0) v1) (ss (nn 10)<|su v0) (ss (nn 10)<|su v1) tt (nR h1)<|nE h2
theorem K1 (h1:i+j+k=l)(h2:l<=10):i<=100000:=eN<|Ny (r4 i j k l) (ss v3<|aa (aa v0 v1) v2) (ss (nn 10) v3) v1 v2 (ss (nn 100000) v0) tt (nQ h1) (nE h2) (.mk _)<|.mk _
theorem K0 (h1:(i:Int)<a)(h2:a<=4):(i:Int)<2^63:=dQ (r2 i a) (ss v1<|su v0) (ss (nn 4) v1) (ss (nn 9223372036854775808)<|su v0) tt h1 h2
theorem KZ (h1:(i:Int)<a)(h2:a<=4):i<4:=eN<|dQ (r2 i a) (ss v1<|su v0) (ss (nn 4) v1) (ss (nn 4)<|su v0) tt h1 h2
theorem KX (h:i+4*(k+1)+20<j):i<j:=eN<|mY (r3 i k j) [1,4] 1 (ss v2<|aa (aa (aa v0<|mm 4<|su v1)<|nn 20)<|nn 1) v1 (ss v2<|su v0) tt (nE h)<|.mk _
theorem KW (h:i<2^39):i+1+1+1<2^40:=eN<|bB (r1 i) (ss (nn 549755813888)<|su v0) (ss (nn 1099511627776)<|su<|su<|su<|su v0) tt<|nE h
theorem KU (h1:4<=2^j/\2^j<=32)(h2:i<2^j):(i:Int)<2^20:=dQ (r2 (2^j:Nat) i) (ss (nn 32) v0) (ss v0<|su v1) (ss (nn 1048576)<|su v1) tt (nE h1.2)<|nE h2
theorem KR (h1:(k:Int)<(j:Int))(h2:i<k):i<j:=eN<|dQ (r3 k j i) (ss v1<|su v0) (ss v0<|su v2) (ss v1<|su v2) tt h1<|nE h2
theorem KQ (h1:8<=j)(h2:i<8):(i:Int)<(j:Int):=dQ (r2 j i) (ss v0<|nn 8) (ss (nn 8)<|su v1) (ss v0<|su v1) tt (nE h1)<|nE h2
theorem KP (h1:i+j<=k)(h2:k<=20):(i:Int)<2^29:=wK (r3 i j k) (ss v2<|aa v0 v1) (ss (nn 20) v2) v1 (ss (nn 536870912)<|su v0) tt (nE h1) (nE h2)<|.mk _
theorem KO (h1:j<=27*k)(h2:i<=27):i+j<=27*(k+1):=eN<|dQ (r3 j k i) (ss (mm 27 v1) v0) (ss (nn 27) v2) (ss (mm 27<|su v1)<|aa v2 v0) tt (nE h1)<|nE h2
theorem KN (h:4<=2^i/\2^i<=32):0<12*(4*((2^i:Nat):Int)):=vh (r1 (2^i:Nat)) [48] 1 (ss v0<|nn 4) (ss (mm 12<|mm 4 v0)<|su n0) tt<|nE h.1
theorem KJ (h:0=Int.toNat a):a<=0:=dQ (r2 (Int.toNat a:Nat) a) (ss n0 v0) (ss v0 v1) (ss n0 v1) tt (nR h)<|Int.self_le_toNat a
theorem KI (h:j<=k+l):i+(j+1)<=i+k+(l+1):=eN<|bB (r4 j k l i) (ss (aa v1 v2) v0) (ss (aa (aa v3 v1)<|su v2)<|aa v3<|su v0) tt<|nE h
theorem KH (h1:(i:Int)<(j:Int))(h2:j<=60):(i:Int)<2^63:=dQ (r2 i j) (ss v1<|su v0) (ss (nn 60) v1) (ss (nn 9223372036854775808)<|su v0) tt h1<|nE h2
theorem KG (h:4<=2^i/\2^i<=32):0<=4*((2^i:Nat):Int)-1:=vh (r1 (2^i:Nat)) [4] 1 (ss v0<|nn 4) (ss (ss (mm 4 v0)<|nn 1) n0) tt<|nE h.1
theorem KD (h:i<=3+5*j):i+5<=3+5*(j+1):=eN<|bB (r2 i j) (ss (aa (nn 3)<|mm 5 v1) v0) (ss (aa (nn 3)<|mm 5<|su v1)<|aa v0<|nn 5) tt<|nE h
theorem KC (h1:i<j)(h2:j<=10):i+2<12:=eN<|dQ (r2 i j) (ss v1<|su v0) (ss (nn 10) v1) (ss (nn 12)<|su<|aa v0<|nn 2) tt (nE h1)<|nE h2
theorem Kz (h:4<=2^i/\2^i<=32):1<=4*((2^i:Nat):Int):=vh (r1 (2^i:Nat)) [4] 1 (ss v0<|nn 4) (ss (mm 4 v0)<|nn 1) tt<|nE h.1
theorem Ky (h1:2^j=i)(h2:4<=i/\i<=32):4*(i:Int)<=128:=vh (r1 i) [4] 1 (ss (nn 32) v0) (ss (nn 128)<|mm 4 v0) tt<|nE h2.2
theorem Kx (h1:a/(4*(j:Int))%(j:Int)=(i:Int))(h2:i<j):(i:Int)+1<=(j:Int):=bB (r2 i j) (ss v1<|su v0) (ss v1<|su v0) tt<|nE h2
theorem Kw (h:4<=2^i/\2^i<=32):2<=((2^i:Nat):Int):=bB (r1 (2^i:Nat)) (ss v0<|nn 4) (ss v0<|nn 2) tt<|nE h.1
theorem Kv (h:i<8):(i:Int)<2^63:=bB (r1 i) (ss (nn 8)<|su v0) (ss (nn 9223372036854775808)<|su v0) tt<|nE h
theorem Ku (h:(i:Int)<3):(i:Int)<2^63:=bB (r1 i) (ss (nn 3)<|su v0) (ss (nn 9223372036854775808)<|su v0) tt h
theorem Ks (h:j+i<=9):i<64:=eN<|dQ (r2 j i) (ss (nn 9)<|aa v0 v1) v0 (ss (nn 64)<|su v1) tt (nE h)<|.mk _
theorem Kr (h:a*1+1<=2^22):a<2^22:=bB (r1 a) (ss (nn 4194304)<|su<|mr v0 1) (ss (nn 4194304)<|su v0) tt h
theorem Kq (h:a<=2^22):2*a<2^29:=vh (r1 a) [2] 1 (ss (nn 4194304) v0) (ss (nn 536870912)<|su<|mm 2 v0) tt h
theorem Kp (h:i<10):i+2<12:=eN<|bB (r1 i) (ss (nn 10)<|su v0) (ss (nn 12)<|su<|aa v0<|nn 2) tt<|nE h
theorem Ko (h:a<=4):a<2^29:=bB (r1 a) (ss (nn 4) v0) (ss (nn 536870912)<|su v0) tt h
theorem Kn (h:i+j<=9):i+j<64:=eN<|bB (r2 i j) (ss (nn 9)<|aa v0 v1) (ss (nn 64)<|su<|aa v0 v1) tt<|nE h
theorem Km (h:i<64):i<1920:=eN<|bB (r1 i) (ss (nn 64)<|su v0) (ss (nn 1920)<|su v0) tt<|nE h
theorem Kl (h:i+j<=k):i+j<=k+1:=eN<|bB (r3 i j k) (ss v2<|aa v0 v1) (ss (su v2)<|aa v0 v1) tt<|nE h
theorem Kh (h:¬63<(i:Int)):i<=63:=eN<|bB (r1 i) (ss (nn 63) v0) (ss (nn 63) v0) tt<|Int.not_lt.mp h
theorem Kg (h:¬j<i):i<=j:=eN<|bB (r2 j i) (ss v0 v1) (ss v0 v1) tt<|nE<|Nat.not_lt.mp h
theorem Kf (h:i<128):i<1114112:=eN<|bB (r1 i) (ss (nn 128)<|su v0) (ss (nn 1114112)<|su v0) tt<|nE h
theorem Ke (h:i<=60):(i:Int)<2^29:=bB (r1 i) (ss (nn 60) v0) (ss (nn 536870912)<|su v0) tt<|nE h
theorem Kd (h:1<i):0<4*(i:Int):=vh (r1 i) [4] 1 (ss v0<|su<|nn 1) (ss (mm 4 v0)<|su n0) tt<|nE h
theorem Dc (h:4<=i):0<(i:Int):=bB (r1 i) (ss v0<|nn 4) (ss v0<|su n0) tt<|nE h
end
theorem O0 {P:Nat->Prop}(j:Nat)(h:j<0):P j:=absurd h<|Nat.not_lt_zero j
theorem yF {P:Nat->Prop}{n:Nat}(a:∀j,j<n->P j)(b:P n)(j:Nat)(h:j<n+1):P j:=(Nat.lt_or_eq_of_le<|Nat.le_of_lt_succ h).elim (a j) λe=>e▸b
@[elab_as_elim] theorem OZ {P:Nat->Prop} (j:Nat) (h:j<3) (h0:P 0) (h1:P 1) (h2:P 2):P j:=yF (yF (yF O0 h0) h1) h2 j h
@[elab_as_elim] theorem QJ {P:Nat->Prop} (j:Nat) (h:j<4) (h0:P 0) (h1:P 1) (h2:P 2) (h3:P 3):P j:=yF (yF (yF (yF O0 h0) h1) h2) h3 j h
@[elab_as_elim] theorem Rn {P:Nat->Prop} (j:Nat) (h:j<5) (h0:P 0) (h1:P 1) (h2:P 2) (h3:P 3) (h4:P 4):P j:=yF (yF (yF (yF (yF O0 h0) h1) h2) h3) h4 j h
theorem nz {α:Type u}{a:α}{P:Prop}(h:a∈([]:List α)):P:=absurd h List.not_mem_nil
theorem bZ {α:Type u}{P:α->Prop}(a:α)(h:a∈([]:List α)):P a:=absurd h List.not_mem_nil
theorem b9 {α:Type u}{a b:α}(h:a∈[b]):a=b:=List.mem_singleton.mp h
theorem ek {α:Type u}{a b:α}{l:List α}(h:a∈b::l):a=b\/a∈l:=List.mem_cons.mp h
theorem kX {α:Type u}{a:α}{s t:List α}(h:a∈s++t):a∈s\/a∈t:=List.mem_append.mp h
theorem nN (n:Nat):0<=(n:Int):=Int.natCast_nonneg n
theorem cD {α:Type u}{β:Type v}{l:List α}(f:α->β):(l.map f).length=l.length:=List.length_map f
theorem gE {α:Type u}{l:List α}{i:Nat}{a:α}(h:l[i]?=some a):a∈l:=List.mem_of_getElem? h
theorem gA {α:Type u}{a:α}(b:α){l:List α}(h:a∈l):a∈b::l:=List.Mem.tail b h
section
variable {L a b:Addr}{h h':Heap}{vs:List Value}{tk:Nat}{s s':Shared}{m:Str->Option Value}{v v':Value}
inductive V where
 |none
 |bool (b:Bool)
 |int (i:Int)
 |str (s:Str)
 |tup (vs:List V)
 |ref (a:Addr)
 |atom (v:Value)
 |uq (a b c:Int)
abbrev Lo:=List<|Str×V
mutual
inductive cz (h:Heap):Value->V->Prop
 |none:cz h .none .none
 |bool (b:Bool):cz h (.bool b) (.bool b)
 |int (i:Int) (t:Tok):cz h (.int i t) (.int i)
 |str (x:Str) (t:Tok):cz h (.str x t) (.str x)
 |ref (a:Addr):cz h (.ref a) (.ref a)
 |atom (v:Value):cz h v (.atom v)
 |tup {a:Addr} {o:Obj} {n:Nat} {vs:List Value} {xs:List V}:h.get? a=some o->o.cls=.type "tuple"->o.data=.seq vs.toArray n->aM h vs xs->cz h (.ref a) (.tup xs)
 |uq {r:Addr} {a b c:Int} {t u v:Tok}:h.get? r=some {cls:=.type "range",data:=.fields #[.int a t,.int b u,.int c v]}->cz h (.ref r) (.uq a b c)
inductive aM (h:Heap):List Value->List V->Prop
 |nil:aM h [] []
 |cons {v:Value} {x:V} {vs:List Value} {xs:List V}:cz h v x->aM h vs xs->aM h (v::vs) (x::xs)
end
inductive i9 (h:Heap):List DictEntry->List (Str×V)->Prop
 |nil:i9 h [] []
 |cons {hs:Int} {y:Str} {t:Tok} {v:Value} {x:V} {es:List DictEntry} {xs:List (Str×V)}:cz h v x->i9 h es xs->i9 h (⟨hs,.str y t,v⟩::es) ((y,x)::xs)
set_option genInjectivity true in
inductive bI where
 |list (vs:List V)
 |bD (f:Int->Option Int)
 |j9 (es:List (Str×V))
 |inst (C d:Addr) (at_:List (Str×V))
 |exc (C:Addr) (d:Option Addr) (at_:List (Str×V))
 |yG (C d:Addr) (at_:List (Str×V))
noncomputable def bI.dictAt:bI->Option Addr
 |.inst _ d _=>some d
 |.exc _ d _=>d
 |.yG _ d _=>some d
 |_=>none
noncomputable def bI.own (_:bI):Bool:=true
abbrev St:=Addr->Option bI
noncomputable def St.set (U:St)(a:Addr)(o:bI):St:=λb=>if b=a then some o else U b
def St.le (U τ:St):Prop:=∀a o,U a=some o->τ a=some o
def Lo.le (l m:Lo):Prop:=∀x v,l.lookup x=some v->m.lookup x=some v
theorem St.ah {U:St}{o:bI}:U.set a o a=some o:=by simp [St.set]
theorem St.ai {U:St}{o:bI}(h:b≠a):U.set a o b=U b:=by simp [St.set,h]
theorem St.le_refl (U:St):U.le U:=λ_ _ e=>e
theorem St.le_trans {U τ υ:St}(x:U.le τ)(y:τ.le υ):U.le υ:=λa o e=>y a o<|x a o e
theorem St.aY {U:St}{o:bI}(h:U a=none):U.le<|U.set a o:=λb p e=>by
 by_cases q:b=a
 ·subst q;rw[ak h e]
 ·rw[af (St.ai q) e]
theorem kE {U:St}{x y:Addr}{o:bI}(h:U x=some o)(e:U y=none):x≠y:=λz=>by subst z;rw[ak e h]
theorem Ei {α:Type}{y a:α}(h:y∈[a]):y=a:=b9 h
theorem Js {α:Type}{y a b:α}(h:y∈[a,b]):y=a\/y=b:=(ek h).imp_right Ei
theorem Eh {α:Type}{y a b c:α}(h:y∈[a,b,c]):y=a\/y=b\/y=c:=(ek h).imp_right Js
theorem zI {α:Type}{y a b c d:α}(h:y∈[a,b,c,d]):y=a\/y=b\/y=c\/y=d:=(ek h).imp_right Eh
theorem Oz {α:Type}{y a b c d e:α}(h:y∈[a,b,c,d,e]):y=a\/y=b\/y=c\/y=d\/y=e:=(ek h).imp_right zI
theorem Ox {α:Type}{y a b c d e f:α}(h:y∈[a,b,c,d,e,f]):y=a\/y=b\/y=c\/y=d\/y=e\/y=f:=(ek h).imp_right Oz
theorem nc {α:Type}{y a b c d e f g:α}(h:y∈[a,b,c,d,e,f,g]):y=a\/y=b\/y=c\/y=d\/y=e\/y=f\/y=g:=(ek h).imp_right Ox
theorem Lo.le_refl (l:Lo):l.le l:=λ_ _ e=>e
noncomputable def intOf:Value->Option Int
 |.int i _=>some i
 |_=>none
inductive i8 (h:Heap)(a:Addr)(vs:List Value):Prop
 |mk (o:Obj) (e:h.get? a=some o) (q:∃n,o={cls:=.type "list",data:=.seq vs.toArray n})
theorem i8.isList (x:i8 h a vs):h.IsList a vs.toArray:=by
 obtain ⟨o,e,n,rfl⟩:=x;rw[⟨_,e,rfl,n,rfl⟩]
inductive yC (h:Heap)(d:Addr)(ats:List<|Str×V):Prop
 |mk (es:List DictEntry) (n:Nat) (e:h.get? d=some (dictOf es n)) (i:i9 h es ats)
inductive RL (h:Heap)(a:Addr)(xs:List V):Prop
 |mk (vs:List Value) (l:i8 h a vs) (i:aM h vs xs)
inductive RJ (h:Heap)(a C:Addr)(d:Option Addr):Prop
 |mk (o:Obj) (a0:Value) (e:h.get? a=some o) (q:o={cls:=.ref C,dict:=d,data:=.fields #[a0,.none,.none,.none,.bool false,.none]})
inductive RN (h:Heap)(a C d:Addr):Prop
 |mk (o:Obj) (ws:Array Value) (e:h.get? a=some o) (c:o.cls=.ref C) (q:o.dict=some d) (f:o.data=.fields ws)
structure Of (P Q:Prop):Prop where
 ob:P
 dc:Q
section
variable (prog:Program)(w:World)
inductive RM (h:Heap)(a:Addr)(f:Int->Option Int):Prop
 |mk (n:(a==sysModules)=false) (Ss:List (Int×Value)) (d:h.DictOf (intKind prog w) a Ss) (b:∀kv∈Ss,0<=kv.1/\kv.1<2^20/\∃i t,kv.2=.int i t) (q:∀k,f k=(valueAt Ss k).bind intOf)
inductive RK (h:Heap)(a:Addr)(es:List<|Str×V):Prop
 |mk (n:(a==sysModules)=false) (mf:Str->Option Value) (d:h.MapOf (strKind prog w) a mf) (b:∀o,h.get? a=some o->o.cls=.type "dict") (q:∀x v,es.lookup x=some v->∃v',mf x=some v'/\cz h v' v)
def vI (h:Heap)(a:Addr):bI->Prop
 |.list vs=>RL h a vs
 |.bD f=>RM prog w h a f
 |.j9 es=>RK prog w h a es
 |.inst C d ats=>Of (h.get? a=some (instObj C d)) (yC h d ats)
 |.exc C d ats=>Of (RJ h a C d) (match d with|none=>ats=[]|some d'=>yC h d' ats)
 |.yG C d ats=>Of (RN h a C d) (yC h d ats)
end
structure Cx where
 g:Heap
 A:Around
 env:Env
 mV:List Env
 os:OsState
def Own (c:Cx)(U:St)(b:Addr):Prop:=
 (∃o,U b=some o/\o.own=true)\/(∃x o,U x=some o/\o.dictAt=some b)\/b=c.env.locals\/(∃n,c.env.cells.lookup n=some b)
def f7 (c:Cx)(b:Addr):Prop:=∃e∈c.mV,e.frame=some b
inductive RP (h:Heap)(b:Addr):Prop
 |mk (o:Obj) (es:Array DictEntry) (n:Nat) (e:h.get? b=some o) (q:o.data=.dict es n)
def iE (c:Cx)(U:St)(h h':Heap):Prop:=∀b o,h.get? b=some o->¬Own c U b->h'.get? b=some o\/(f7 c b/\∃sl,h'.get? b=some {o with slots:=sl})
def je (c:Cx)(U:St)(h:Heap)(σ':St):Prop:=∀b,Own c σ' b->Own c U b\/h.get? b=none
inductive Bb (env:Env)(h:Heap)(m cm:Str->Option Value)(x:Str)(v:V):Prop
 |mk (v':Value) (i:cz h v' v) (w:(env.kindOf x=some .local/\m x=some v')\/((env.kindOf x=some .cell\/env.kindOf x=some .free)/\(env.cells.lookup x).isSome=true/\cm x=some v'))
inductive P7 (env:Env)(h:Heap)(lo:Lo):Prop
 |mk (m cm:Str->Option Value) (m1:h.Ns env.locals m) (m2:∀n a,env.cells.lookup n=some a->h.IsCell a (cm n))
  (m3:∀x v,lo.lookup x=some v->Bb env h m cm x v)
@[reducible] def pN (c:Cx) (h:Heap) (lo:Lo):Prop:=P7 c.env h lo
section
variable (prog:Program)(w:World)
structure R (c:Cx)(lo:Lo)(U:St)(s:Shared):Prop where
 gens:s.gens=#[]
 os:s.os=c.os
 keep:∀b o,c.g.get? b=some o->s.heap.get? b=some o
 lo:pN c s.heap lo
 obs:∀a o,U a=some o->vI prog w s.heap a o
 new:∀b,Own c U b->c.g.get? b=none
 newF:∀b,f7 c b->Of (c.g.get? b=none) (RP s.heap b)
 apart:∀a o,U a=some o->o.own=true->a≠c.env.locals/\(∀n,c.env.cells.lookup n≠some a)/\¬f7 c a
 aG:∀a o d,U a=some o->o.dictAt=some d->d≠c.env.locals/\(∀n,c.env.cells.lookup n≠some d)/\¬f7 c d/\U d=none
 inj:∀a a' o o' d,U a=some o->U a'=some o'->o.dictAt=some d->o'.dictAt=some d->a=a'
 bE:∀n a,c.env.cells.lookup n=some a->¬f7 c a/\a≠c.env.locals
 bT:∀n n' a,c.env.cells.lookup n=some a->c.env.cells.lookup n'=some a->n=n'
end
theorem aM.ind {P:List Value->List V->Prop}(a:P [] [])(b:∀v x vs xs,cz h v x->aM h vs xs->P vs xs->P (v::vs) (x::xs)){xs:List V}(i:aM h vs xs):P vs xs:=
 aM.rec (motive_1:=λ_ _ _=>True) (motive_2:=λvs xs _=>P vs xs) trivial (λ_=>trivial) (λ_ _=>trivial) (λ_ _=>trivial) (λ_=>trivial) (λ_=>trivial) (λ_ _ _ _ _=>trivial) (λ_=>trivial) a (λp q _ r=>b _ _ _ _ p q r) i
theorem aM.length {xs:List V}(i:aM h vs xs):vs.length=xs.length:=
 i.ind (P:=λvs xs=>vs.length=xs.length) rfl λ_ _ _ _ _ _ e=>congrArg (·+1) e
theorem aM.at_ {xs:List V}(iv:aM h vs xs):∀{i:Nat} {x:V},xs[i]?=some x->∃v,vs[i]?=some v/\cz h v x:=
 iv.ind (P:=λvs xs=>∀{i:Nat} {x:V},xs[i]?=some x->∃v,vs[i]?=some v/\cz h v x) (λe=>nomatch e) λv x vs xs a _ r {i y} e=>by
  cases i with
  |zero=>rw[⟨v,rfl,Option.some.inj e▸a⟩]
  |succ i=>rw[r (i:=i) e]
def dW (o:Obj):Prop:=(o.cls=.type "tuple"/\∃vs n,o.data=.seq vs n)\/(o.cls=.type "range"/\∃ws,o.data=.fields ws)
def dM (h h':Heap):Prop:=∀b o,h.get? b=some o->dW o->h'.get? b=some o
theorem cz.aE (k:dM h h'){x:V}(i:cz h v x):cz h' v x:=
 cz.rec (motive_1:=λv x _=>cz h' v x) (motive_2:=λvs xs _=>aM h' vs xs) .none .bool .int .str .ref .atom (λe1 e2 e3 _ r=>.tup (k _ _ e1<|.inl ⟨e2,_,_,e3⟩) e2 e3 r) (λe1=>.uq<|k _ _ e1<|.inr ⟨rfl,_,rfl⟩) .nil (λ_ _ a b=>.cons a b) i
theorem aM.aE (k:dM h h'){xs:List V}(i:aM h vs xs):aM h' vs xs:=
 i.ind (P:=λvs xs=>aM h' vs xs) .nil λ_ _ _ _ a _ r=>.cons (a.aE k) r
theorem i9.aE (k:dM h h'){vs:List DictEntry}{xs:List<|Str×V}(i:i9 h vs xs):i9 h' vs xs:=by
 induction i with
 |nil=>rw[.nil]
 |cons a _ r=>rw[.cons (a.aE k) r]
theorem dM.of_keeps (k:∀b o,h.get? b=some o->h'.get? b=some o):dM h h':=λb o e _=>k b o e
theorem dM.trans {Yh:Heap}(x:dM h h')(y:dM h' Yh):dM h Yh:=λb o e q=>y b o (x b o e q) q
section
variable {prog:Program}{w:World}{c:Cx}{lo:Lo}{U σ' T7:St}{Yh:Heap}
theorem iE.refl:iE c U h h:=λ_ _ e _=>.inl e
theorem je.refl:je c U h U:=λ_ e=>.inl e
theorem iE.of_keeps (k:∀b o,h.get? b=some o->h'.get? b=some o):iE c U h h':=λb o e _=>.inl<|k b o e
theorem iE.none (k:iE c U h h')(hn:h'.get? b=none):h.get? b=none\/Own c U b:=by
 cases e:h.get? b with
 |none=>rw[.inl rfl]
 |some o=>
  by_cases q:Own c U b
  ·rw[.inr q]
  ·rcases k b o e q with e'|⟨_,sl,e'⟩<;>rw[hn] at e'<;>rw[aq e']
theorem iE.trans (k:iE c U h h')(g:je c U h σ')(k':iE c σ' h' Yh):iE c U h Yh:=λb o e q=>by
 have q':¬Own c σ' b:=λz=>by
  rcases g b z with z|z
  ·rw[q z]
  ·rw[ak z e]
 rcases k b o e q with e'|⟨f,sl,e'⟩
 ·rw[k' b o e' q']
 ·rcases k' b _ e' q' with UY|⟨_,XE,UY⟩
  ·rw[.inr ⟨f,sl,UY⟩]
  ·rw[.inr ⟨f,XE,UY⟩]
theorem je.trans (k:iE c U h h')(g:je c U h σ')(g':je c σ' h' T7):je c U h T7:=λb e=>by
 rcases g' b e with e|e
 ·rw[g b e]
 ·rcases k.none e with e|e
  ·rw[.inr e]
  ·rw[.inl e]
structure Step (c:Cx)(U:St)(s:Shared)(σ':St)(s':Shared):Prop where
 keep:iE c U s.heap s'.heap
 grow:je c U s.heap σ'
 dom:∀b o,s.heap.get? b=some o->∃o',s'.heap.get? b=some o'
theorem Step.refl:Step c U s U s:=⟨.refl,.refl,λ_ o e=>⟨o,e⟩⟩
theorem Step.trans {VM:Shared}(x:Step c U s σ' s')(y:Step c σ' s' T7 VM):Step c U s T7 VM:=⟨x.keep.trans x.grow y.keep,je.trans x.keep x.grow y.grow,λb o e=>by
 obtain ⟨o',e'⟩:=x.dom b o e;rw[y.dom b o' e']⟩
theorem Step.none (x:Step c U s σ' s')(e:s'.heap.get? b=none):s.heap.get? b=none:=by
 cases q:s.heap.get? b with
 |none=>rfl
 |some o=>obtain ⟨o',e'⟩:=x.dom b o q;rw[ak e e']
theorem Own.le {τ:St}(SM:U.le τ)(x:Own c U b):Own c τ b:=by
 rcases x with ⟨o,e,q⟩|⟨a,o,e,q⟩|e|e
 ·rw[.inl ⟨o,SM _ _ e,q⟩]
 ·rw[.inr<|.inl ⟨a,o,SM _ _ e,q⟩]
 ·rw[.inr<|.inr<|.inl e]
 ·rw[.inr<|.inr<|.inr e]
theorem je.le {τ:St}(SM:σ'.le τ)(g:je c U h τ):je c U h σ':=λb e=>g b<|e.le SM
theorem Step.le {τ:St}(SM:σ'.le τ)(x:Step c U s τ s'):Step c U s σ' s':=⟨x.keep,x.grow.le SM,x.dom⟩
theorem pN.le {l m:Lo}(SM:l.le m)(x:pN c h m):pN c h l:=by
 obtain ⟨a,b,x1,x2,x3⟩:=x;rw[⟨a,b,x1,x2,λy v e=>x3 y v<|SM y v e⟩]
theorem R.le {τ:St}(x:R prog w c lo τ s)(SM:U.le τ):R prog w c lo U s where
 gens:=x.gens
 os:=x.os
 keep:=x.keep
 lo:=x.lo
 obs a o e:=x.obs a o<|SM _ _ e
 new b e:=x.new b<|e.le SM
 newF:=x.newF
 apart a o e:=x.apart a o<|SM _ _ e
 aG a o d e q:=by
  obtain ⟨h1,h2,h3,h4⟩:=x.aG a o d (SM _ _ e) q;rw[⟨h1,h2,h3,?_⟩]
  cases z:U d with
  |none=>rfl
  |some p=>rw[ak h4<|SM _ _ z]
 inj a a' o o' d e e':=x.inj a a' o o' d (SM _ _ e)<|SM _ _ e'
 bE:=x.bE
 bT:=x.bT
theorem R.Ce {l:Lo}(x:R prog w c lo U s)(SM:l.le lo):R prog w c l U s:={x with lo:=x.lo.le SM}
theorem vI.gY {o:bI}(x:vI prog w h a o):∃ob,h.get? a=some ob/\¬(o.own=true/\dW ob):=by
 have nd:∀(ob:Obj) es ep,ob.data=.dict es ep->¬dW ob:=λob es ep hd z=>by
  rcases z with ⟨_,vs,n,e⟩|⟨_,ws,e⟩<;>rw[hd] at e<;>rw[bU Data.ctorIdx e rfl]
 cases o with
 |list vs=>
  right;obtain ⟨items,⟨o,e,m,rfl⟩,_⟩:=x;symm;rw[⟨_,e,λz=>?_⟩];rcases z.2 with ⟨q,_⟩|⟨q,_⟩<;>simp at q
 |bD f=>
  right;obtain ⟨_,Ss,⟨o,es,ep,e,_,hd,_⟩,_⟩:=x;symm;rw[⟨o,e,λz=>nd _ _ _ hd z.2⟩]
 |j9 es=>
  right;obtain ⟨_,mf,⟨o,es,ep,e,_,hd,_⟩,_⟩:=x;symm;rw[⟨o,e,λz=>nd _ _ _ hd z.2⟩]
 |inst C d ats=>rw[⟨_,x.ob,λz=>by rcases z.2 with ⟨q,_⟩|⟨q,_⟩<;>rw[bU Value.ctorIdx q rfl]⟩]
 |exc C d ats=>
  right;obtain ⟨⟨o,a0,e,rfl⟩,_⟩:=x;symm;rw[⟨_,e,λz=>by rcases z.2 with ⟨q,_⟩|⟨q,_⟩<;>rw[bU Value.ctorIdx q rfl]⟩]
 |yG C d ats=>
  right;obtain ⟨⟨o,ws,e,hc,_⟩,_⟩:=x;symm;rw[⟨o,e,λz=>by rcases z.2 with ⟨q,_⟩|⟨q,_⟩<;>rw[hc] at q<;>rw[bU Value.ctorIdx q rfl]⟩]
theorem vI.dP {d:Addr}{o:bI}(x:vI prog w h a o)(q:o.dictAt=some d):∃es n,h.get? d=some (dictOf es n):=by
 cases o with
 |list|bD|j9=>rw[aq q]
 |inst C d' ats=>cases q;obtain ⟨_,es,n,e,_⟩:=x;rw[⟨es,n,e⟩]
 |exc C d' ats=>cases (show d'=some d from q);obtain ⟨_,es,n,e,_⟩:=x;rw[⟨es,n,e⟩]
 |yG C d' ats=>cases q;obtain ⟨_,es,n,e,_⟩:=x;rw[⟨es,n,e⟩]
theorem R.jz (x:R prog w c lo U s){o:Obj}(q:Own c U b)(e:s.heap.get? b=some o):¬dW o:=by
 have nd:∀(ob:Obj) es ep,ob.data=.dict es ep->¬dW ob:=λob es ep hd z=>by
  rcases z with ⟨_,vs,n,e⟩|⟨_,ws,e⟩<;>rw[hd] at e<;>rw[bU Data.ctorIdx e rfl]
 rcases q with ⟨ao,ea,hq⟩|⟨a,ao,ea,hq⟩|rfl|⟨n,hn⟩
 ·obtain ⟨ob,eb,hb⟩:=(x.obs _ _ ea).gY;rw[e] at eb;(obtain rfl:=sI eb;clear eb);rw[λz=>hb ⟨hq,z⟩]
 ·obtain ⟨es,n,eb⟩:=(x.obs _ _ ea).dP hq;rw[e] at eb;(clear e;obtain rfl:=sI eb;clear eb);rw[nd _ _ _ rfl]
 ·obtain ⟨m,cm,⟨ob,es,ep,eb,hd,_⟩,_⟩:=x.lo;rw[e] at eb;(obtain rfl:=sI eb;clear eb);rw[nd _ _ _ hd]
 ·obtain ⟨m,cm,_,hc,_⟩:=x.lo;obtain ⟨ob,eb,hd⟩:=hc n b hn;rw[e] at eb;(obtain rfl:=sI eb;clear eb);rintro (⟨_,vs,n,e⟩|⟨_,ws,e⟩)<;>rw[hd] at e<;>rw[bU Data.ctorIdx e rfl]
theorem R.aE (x:R prog w c lo U s)(k:iE c U s.heap h'):dM s.heap h':=λb o e q=>by
 by_cases z:Own c U b
 ·rw[absurd q<|x.jz z e]
 ·rcases k b o e z with e'|⟨f,sl,e'⟩
  ·rw[e']
  ·obtain ⟨_,o',es,n,e',hd⟩:=x.newF b f;rw[e] at e';(obtain rfl:=sI e';clear e');rcases q with ⟨_,vs,m,q⟩|⟨_,ws,q⟩<;>rw[hd] at q<;>rw[bU Data.ctorIdx q rfl]
theorem vI.stay {o:bI}(x:vI prog w h a o)(kv:dM h h')(k1:∀ob,h.get? a=some ob->h'.get? a=some ob)
 (k2:∀d,o.dictAt=some d->∀ob,h.get? d=some ob->h'.get? d=some ob):vI prog w h' a o:=by
 cases o with
 |list vs=>obtain ⟨items,⟨o,e,q⟩,r⟩:=x;rw[⟨items,⟨o,k1 _ e,q⟩,r.aE kv⟩]
 |bD f=>obtain ⟨lo,Ss,⟨o,es,ep,e,q⟩,r,r'⟩:=x;rw[⟨lo,Ss,⟨o,es,ep,k1 _ e,q⟩,r,r'⟩]
 |j9 es=>
  obtain ⟨lo,mf,⟨o,es,ep,e,q⟩,hc,r⟩:=x;rw[⟨lo,mf,⟨o,es,ep,k1 _ e,q⟩,λo' e'=>?_,λy v q=>?_⟩]
  ·have:=k1 _ e;rw[e'] at this;(clear q;obtain rfl:=sI this;clear this);rw[hc _ e]
  ·obtain ⟨v',a,b⟩:=r y v q;rw[⟨v',a,b.aE kv⟩]
 |inst C d ats=>obtain ⟨e,es,n,f,r⟩:=x;rw[⟨k1 _ e,es,n,k2 _ rfl _ f,r.aE kv⟩]
 |exc C d ats=>
  obtain ⟨⟨o,a0,e,q⟩,w⟩:=x;rw[⟨⟨o,a0,k1 _ e,q⟩,?_⟩]
  cases d with
  |none=>rw[w]
  |some d'=>obtain ⟨es,n,f,r⟩:=w;rw[⟨es,n,k2 _ rfl _ f,r.aE kv⟩]
 |yG C d ats=>obtain ⟨⟨o,ws,e,q,q',p⟩,es,n,f,r⟩:=x;rw[⟨⟨o,ws,k1 _ e,q,q',p⟩,es,n,k2 _ rfl _ f,r.aE kv⟩]
theorem pM (x:h.Ns L m)(k:∀ob,h.get? L=some ob->∃sl,h'.get? L=some {ob with slots:=sl}):h'.Ns L m:=by
 obtain ⟨o,es,ep,e,hd,r⟩:=x;obtain ⟨sl,e'⟩:=k _ e;rw[⟨_,es,ep,e',hd,r⟩]
theorem pN.stay (x:pN c h lo)(kv:dM h h')(k1:∀ob,h.get? c.env.locals=some ob->∃sl,h'.get? c.env.locals=some {ob with slots:=sl})
 (k2:∀n a,c.env.cells.lookup n=some a->∀ob,h.get? a=some ob->∃sl,h'.get? a=some {ob with slots:=sl}):pN c h' lo:=by
 obtain ⟨m,cm,x1,x2,x3⟩:=x;rw[⟨m,cm,pM x1 k1,λn a e=>?_,λy v e=>?_⟩]
 ·obtain ⟨o,e',hd⟩:=x2 n a e;obtain ⟨sl,UY⟩:=k2 n a e _ e';rw[⟨_,UY,hd⟩]
 ·obtain ⟨v',a,b⟩:=x3 y v e;rw[⟨v',a.aE kv,b⟩]
theorem iU (k:∀b o,h.get? b=some o->h'.get? b=some o)(a:Addr):∀ob,h.get? a=some ob->∃sl,h'.get? a=some {ob with slots:=sl}:=λob e=>⟨ob.slots,k _ _ e⟩
theorem R.more (x:R prog w c lo U s)(k:∀b o,s.heap.get? b=some o->h'.get? b=some o):R prog w c lo U {s with heap:=h',toks:=tk}:=
 have kv:=dM.of_keeps k
 {gens:=x.gens,os:=x.os,keep:=λb o e=>k _ _ (x.keep b o e)
  lo:=x.lo.stay kv (iU k _) λn a _=>iU k _
  obs:=λa o e=>(x.obs a o e).stay kv (λob=>k a ob) λd _ ob=>k d ob
  new:=x.new
  newF:=λb q=>⟨(x.newF b q).ob,let ⟨o,es,n,e,hd⟩:=(x.newF b q).dc;⟨o,es,n,k _ _ e,hd⟩⟩
  apart:=x.apart,aG:=x.aG,inj:=x.inj,bE:=x.bE,bT:=x.bT}
theorem Step.more (k:∀b o,s.heap.get? b=some o->h'.get? b=some o):Step c U s U {s with heap:=h',toks:=tk}:=⟨.of_keeps k,.refl,λb o e=>⟨o,k b o e⟩⟩
theorem R.tok (x:R prog w c lo U s)(tk:Nat):R prog w c lo U {s with toks:=tk}:=x.more λ_ _ e=>e
theorem Step.tok (tk:Nat):Step c U s U {s with toks:=tk}:=Step.more λ_ _ e=>e
theorem Own.ah {o:bI}(h:o.own=true):Own c (U.set a o) a:=.inl ⟨o,St.ah,h⟩
theorem Own.zy {o o':bI}(e:U a=some o)(ho:o.own=true)(hd:o'.dictAt=o.dictAt)(q:Own c (U.set a o') b):Own c U b:=by
 rcases q with ⟨p,ep,hp⟩|⟨x,p,ep,hp⟩|q
 ·by_cases z:b=a
  ·clear ep;subst z;rw[.inl ⟨o,e,ho⟩]
  ·rw[St.ai z] at ep;rw[.inl ⟨p,ep,hp⟩]
 ·by_cases z:x=a
  ·subst z;rw[St.ah] at ep;(obtain rfl:=sI ep;clear ep);rw[.inr<|.inl ⟨x,o,e,hd▸hp⟩]
  ·rw[St.ai z] at ep;rw[.inr<|.inl ⟨x,p,ep,hp⟩]
 ·rw[.inr<|.inr q]
theorem R.put (x:R prog w c lo U s){o o':bI}(e:U a=some o)(ho:o.own=true)(Yt:o'.own=true)(hd:o'.dictAt=o.dictAt)(hb:b=a\/o.dictAt=some b) 
 (same:∀y ob,y≠b->s.heap.get? y=some ob->h'.get? y=some ob) (obs:dM s.heap h'->vI prog w h' a o'):
 R prog w c lo (U.set a o') {s with heap:=h',toks:=tk}/\Step c U s (U.set a o') {s with heap:=h',toks:=tk}:=by
 have ob:Own c U b:=by
  clear obs;rcases hb with rfl|hb
  ·rw[.inl ⟨o,e,ho⟩]
  ·rw[.inr<|.inl ⟨a,o,e,hb⟩]
 have kp:iE c U s.heap h':=λy oy ey q=>.inl<|same y oy (λz=>q<|z▸ob) ey;have kv:=x.aE kp;have bL:b≠c.env.locals:=by
  clear obs;rcases hb with rfl|hb
  ·rw[(x.apart _ _ e ho).1]
  ·rw[(x.aG _ _ _ e hb).1]
 have bC:∀n y,c.env.cells.lookup n=some y->y≠b:=λn y hy z=>by
  clear same ob bL;subst z;clear obs;rcases hb with rfl|hb
  ·rw[(x.apart _ _ e ho).2.1 n hy]
  ·rw[(x.aG _ _ _ e hb).2.1 n hy]
 have bF:¬f7 c b:=by
  clear obs;rcases hb with rfl|hb
  ·rw[(x.apart _ _ e ho).2.2]
  ·rw[(x.aG _ _ _ e hb).2.2.1]
 rw[⟨{gens:=x.gens,os:=x.os,keep:=λy oy ey=>same y oy (λz=>?_)<|x.keep y oy ey,lo:=?_,obs:=λy oy ey=>?_,new:=λy q=>x.new y<|q.zy e ho hd,newF:=λy q=>?_,apart:=λy oy ey hy=>?_,aG:=λy oy d ey hy=>?_,inj:=λy y' oy Xd d ey Tv hy SE=>?_,bE:=x.bE,bT:=x.bT},⟨kp,λy q=>.inl<|q.zy e ho hd,λy oy ey=>?_⟩⟩]
 ·rw[z,x.new b ob] at ey;rw[aq ey]
 ·rw[x.lo.stay kv (λWz e'=>⟨_,same _ _ (Ne.symm bL) e'⟩) λn y hy Wz e'=>⟨_,same _ _ (bC n y hy) e'⟩]
 ·by_cases z:y=a
  ·clear e hb;subst z;rw[St.ah] at ey;(obtain rfl:=sI ey;clear ey);rw[obs kv]
  ·rw[St.ai z] at ey;rw[(x.obs y oy ey).stay kv (λWz e'=>same _ _ (λq=>?_) e') λd TQ Wz e'=>same _ _ (λq=>?_) e']
   ·clear same ob bL bC bF;subst q;clear obs;rcases hb with rfl|hb
    ·rw[z rfl]
    ·have:=(x.aG _ _ _ e hb).2.2.2;rw[ak this ey]
   ·clear same ob bL bC bF;subst q;clear obs;rcases hb with rfl|hb
    ·have:=(x.aG _ _ _ ey TQ).2.2.2;rw[ak this e]
    ·rw[z<|x.inj _ _ _ _ _ ey e TQ hb]
 ·obtain ⟨h1,Wy,es,n,Vb,VD⟩:=x.newF y q;rw[⟨h1,Wy,es,n,same _ _ (λz=>bF<|z▸q) Vb,VD⟩]
 ·by_cases z:y=a
  ·clear hb obs ey;subst z;rw[x.apart _ _ e ho]
  ·rw[St.ai z] at ey;rw[x.apart _ _ ey hy]
 ·have main:d≠c.env.locals/\(∀n,c.env.cells.lookup n≠some d)/\¬f7 c d/\U d=none:=by
   by_cases z:y=a
   ·clear hb obs;subst z;rw[St.ah] at ey;(obtain rfl:=sI ey;clear ey);rw[x.aG _ _ _ e<|hd▸hy]
   ·rw[St.ai z] at ey;rw[x.aG _ _ _ ey hy]
  rw[⟨main.1,main.2.1,main.2.2.1,?_⟩]
  by_cases z:d=a
  ·clear hb obs ey;subst z;rw[e] at main;cases main.2.2.2
  ·rw[af (St.ai z) main.2.2.2]
 ·have pick:∀{u ou},(U.set a o') u=some ou->ou.dictAt=some d->∃p,U u=some p/\p.dictAt=some d:=λ{u ou} eu hu=>by
   by_cases z:u=a
   ·clear hb obs ey Tv;subst z;rw[St.ah] at eu;(obtain rfl:=sI eu;clear eu);rw[⟨o,e,hd▸hu⟩]
   ·rw[St.ai z] at eu;rw[⟨_,eu,hu⟩]
  obtain ⟨p,e1,q1⟩:=pick ey hy;obtain ⟨p',e2,q2⟩:=pick Tv SE;rw[x.inj _ _ _ _ _ e1 e2 q1 q2]
 ·by_cases z:y=b
  ·clear same ob bL bC bF;subst z;clear e;rcases hb with rfl|hb
   ·obtain ⟨p,ep,_⟩:=(obs kv).gY;rw[⟨p,ep⟩]
   ·obtain ⟨es,n,ep⟩:=(obs kv).dP<|hd.trans hb;rw[⟨_,ep⟩]
  ·rw[⟨oy,same _ _ z ey⟩]
theorem R.alloc (x:R prog w c lo U s){o:bI}(k:∀b o,s.heap.get? b=some o->h'.get? b=some o)(ha:s.heap.get? a=none)
 (hd:∀d,o.dictAt=some d->s.heap.get? d=none/\d≠a) (obs:vI prog w h' a o):
 U a=none/\R prog w c lo (U.set a o) {s with heap:=h',toks:=tk}/\Step c U s (U.set a o) {s with heap:=h',toks:=tk}:=by
 have kv:=dM.of_keeps k;have nσ:∀y,s.heap.get? y=none->U y=none:=λy hy=>by
  cases q:U y with
  |none=>rfl
  |some p=>obtain ⟨ob,e,_⟩:=(x.obs _ _ q).gY;rw[ak hy e]
 have nL:∀y,s.heap.get? y=none->y≠c.env.locals:=λy hy z=>by
  obtain ⟨m,cm,⟨o,es,ep,e,_⟩,_⟩:=x.lo;rw[<- z,hy] at e;rw[aq e]
 have nC:∀y,s.heap.get? y=none->∀n,c.env.cells.lookup n≠some y:=λy hy n z=>by
  obtain ⟨m,cm,_,hc,_⟩:=x.lo;obtain ⟨o,e,_⟩:=hc n y z;rw[ak hy e]
 have nF:∀y,s.heap.get? y=none->¬f7 c y:=λy hy z=>by
  obtain ⟨_,o,es,n,e,_⟩:=x.newF y z;rw[ak hy e]
 have ng:∀y,s.heap.get? y=none->c.g.get? y=none:=λy hy=>by
  cases q:c.g.get? y with
  |none=>rfl
  |some p=>rw[ak hy<|x.keep _ _ q]
 have own:∀y,Own c (U.set a o) y->Own c U y\/s.heap.get? y=none:=λy q=>by
  rcases q with ⟨p,ep,hp⟩|⟨u,p,ep,hp⟩|q
  ·by_cases z:y=a
   ·clear hd obs ep;subst z;rw[.inr ha]
   ·rw[St.ai z] at ep;rw[.inl<|.inl ⟨p,ep,hp⟩]
  ·by_cases z:u=a
   ·clear ha obs;subst z;rw[St.ah] at ep;(obtain rfl:=sI ep;clear ep);rw[.inr (hd _ hp).1]
   ·rw[St.ai z] at ep;rw[.inl<|.inr<|.inl ⟨u,p,ep,hp⟩]
  ·rw[.inl<|.inr<|.inr q]
 rw[⟨nσ a ha,{gens:=x.gens,os:=x.os,keep:=λb o e=>k _ _<|x.keep b o e,lo:=x.lo.stay kv (iU k _) λn a _=>iU k _,obs:=λy oy ey=>?_,new:=λy q=>?_,newF:=λb q=>⟨(x.newF b q).ob,let ⟨o,es,n,e,hd⟩:=(x.newF b q).dc;⟨o,es,n,k _ _ e,hd⟩⟩,apart:=λy oy ey hy=>?_,aG:=λy oy d ey hy=>?_,inj:=λy y' oy Xd d ey Tv hy SE=>?_,bE:=x.bE,bT:=x.bT},⟨.of_keeps k,own,λb o e=>⟨o,k b o e⟩⟩⟩]
 ·by_cases z:y=a
  ·clear ha hd own;subst z;rw[St.ah] at ey;(obtain rfl:=sI ey;clear ey);rw[obs]
  ·rw[St.ai z] at ey;rw[(x.obs y oy ey).stay kv (λob=>k y ob) λd _ ob=>k d ob]
 ·rcases own y q with q|q
  ·rw[x.new y q]
  ·rw[ng y q]
 ·by_cases z:y=a
  ·clear hd obs own ey;subst z;rw[⟨nL _ ha,nC _ ha,nF _ ha⟩]
  ·rw[St.ai z] at ey;rw[x.apart _ _ ey hy]
 ·by_cases z:y=a
  ·clear ha obs own;subst z;rw[St.ah] at ey;(obtain rfl:=sI ey;clear ey);obtain ⟨h1,h2⟩:=hd _ hy;rw[⟨nL _ h1,nC _ h1,nF _ h1,af (St.ai h2)<|nσ _ h1⟩]
  ·rw[St.ai z] at ey;obtain ⟨h1,h2,h3,h4⟩:=x.aG _ _ _ ey hy;rw[⟨h1,h2,h3,?_⟩]
   by_cases z':d=a
   ·clear hd obs own z;subst z';obtain ⟨es,n,e⟩:=(x.obs _ _ ey).dP hy;rw[ak ha e]
   ·rw[af (St.ai z') h4]
 ·have old:∀{u ou},u≠a->(U.set a o) u=some ou->ou.dictAt=some d->s.heap.get? d≠none:=λ{u ou} z eu hu=>by
   rw[St.ai z] at eu;obtain ⟨es,n,e⟩:=(x.obs _ _ eu).dP hu;rw[af e<|Option.some_ne_none _]
  by_cases z:y=a
  ·by_cases z':y'=a
   ·rw[af z<|af z' rfl]
   ·clear ha obs own;subst z;rw[St.ah] at ey;(obtain rfl:=sI ey;clear ey);rw[absurd (hd _ hy).1 (old z' Tv SE)]
  ·by_cases z':y'=a
   ·clear ha obs own;subst z';rw[St.ah] at Tv;(obtain rfl:=sI Tv;clear Tv);rw[absurd (hd _ SE).1 (old z ey hy)]
   ·rw[St.ai z] at ey;rw[St.ai z'] at Tv;rw[x.inj _ _ _ _ _ ey Tv hy SE]
theorem R.bindL (x:R prog w c lo U s){y:Str}{v:V}(hv:cz s.heap v' v)(hk:c.env.kindOf y=some .local) 
 (hm:∃cm:Str->Option Value,s.heap.Ns c.env.locals m/\(∀n a,c.env.cells.lookup n=some a->s.heap.IsCell a (cm n))/\
   ∀x v,lo.lookup x=some v->Bb c.env s.heap m cm x v)
 (ns:h'.Ns c.env.locals λz=>if z=y then some v' else m z) (same:Heap.SameBut c.env.locals s.heap h') (lo':Lo) (Xp:∀z u,lo'.lookup z=some u->(z=y/\u=v)\/(z≠y/\lo.lookup z=some u)):
 R prog w c lo' U {s with heap:=h',toks:=tk}/\Step c U s U {s with heap:=h',toks:=tk}:=by
 right;have oL:Own c U c.env.locals:=.inr<|.inr<|.inl rfl;have kp:iE c U s.heap h':=λz oz ez q=>.inl<|(same.2 z λe=>q<|e▸oL).trans ez;have kv:=x.aE kp;have k:∀z,z≠c.env.locals->∀ob,s.heap.get? z=some ob->h'.get? z=some ob:=λz hz ob e=>(same.2 z hz).trans e;obtain ⟨cm,m1,m2,m3⟩:=hm;symm;refine ⟨{gens:=x.gens,os:=x.os,keep:=λz oz ez=>k z (λe=>?_) _<|x.keep z oz ez,lo:=⟨_,cm,ns,λn a e=>?_,λz u e=>?_⟩,obs:=λz oz ez=>(x.obs z oz ez).stay kv ?_ ?_,new:=x.new,newF:=λb q=>?_,apart:=x.apart,aG:=x.aG,inj:=x.inj,bE:=x.bE,bT:=x.bT},
  ⟨kp,.refl,λz oz ez=>?_⟩⟩
 ·rw[e,x.new _ oL] at ez;rw[aq ez]
 ·right;obtain ⟨o,e',hd⟩:=m2 n a e;symm;rw[⟨o,k a (x.bE n a e).2 _ e',hd⟩]
 ·clear ns;rcases Xp z u e with ⟨rfl,rfl⟩|⟨hz,e⟩
  ·rw[⟨v',hv.aE kv,.inl ⟨hk,if_pos rfl⟩⟩]
  ·right;obtain ⟨u',a,b⟩:=m3 z u e;symm;rw[⟨u',a.aE kv,?_⟩];rcases b with ⟨b,d⟩|b
   ·rw[.inl ⟨b,af (if_neg hz) d⟩]
   ·rw[.inr b]
 ·intro ob e;rw[k z (x.apart _ _ ez rfl).1 _ e]
 ·intro d hd ob e;rw[k d (x.aG _ _ _ ez hd).1 _ e]
 ·right;obtain ⟨h1,o,es,n,e,hd⟩:=x.newF b q;symm
  by_cases z:b=c.env.locals
  ·right;obtain ⟨o',U5,Xv,e',TQ,_⟩:=ns;symm;rw[⟨h1,o',U5,Xv,z▸e',TQ⟩]
  ·rw[⟨h1,o,es,n,k b z _ e,hd⟩]
 ·by_cases z':z=c.env.locals
  ·right;obtain ⟨o',U5,Xv,e',_⟩:=ns;symm;rw[⟨o',z'▸e'⟩]
  ·rw[⟨oz,k z z' _ ez⟩]
end
variable {c:Cx}{e:Expr}{i:Int}{xs:List V}{us ws:List Value}{lo:Lo}{n t:Nat}{op:Operator}{pos:Pos}{sc:Scope}{RT:Shared}{U RS:St}{x y:V}{k k':V->St->Prop}
structure cN where
 prog:Program
 w:World
 K:Frag
 p:Program
 loose:List Str
 mg:Str->Option Value
 mb:Str->Option Value
 bw:Addr
 fH:List Value
structure bK (D:cN)(n:Nat)(c:Cx):Prop where
 kind:c.env.scope.kind=.function
 glob:c.env.globals=mainGlobals
 bi:c.env.builtins=builtinsNs
 K:D.K.In c.g
 top:TopRead D.p D.loose D.mg D.mb c.g
 m8:c.g.IsList D.bw D.fH.toArray
 hd:0<n->c.A.handled=none
 fr:c.A.frames=some c.mV
 Ai:∀e∈c.mV,e.scope.kind≠ .module
 frs:∀e∈c.mV,∃b,e.frame=some b
 here:∃e r,c.mV=e::r/\e.frame=c.env.frame
 fh:∀y,c.env.kindOf y=some .cell\/c.env.kindOf y=some .free->(c.env.cells.lookup y).isSome=true
 depth:c.A.depth+4*n+20<recursionLimit
 units:c.A.units+40*n+200<cLine
def gG (c:Cx)(Ul:Heap)(U:St)(b:Addr):Prop:=Ul.get? b=none/\¬Own c U b/\¬f7 c b
inductive RG (c:Cx)(Ul:Heap)(U:St)(h:Heap)(e:Addr)(tb:Value):Prop
 |mk (T:Addr) (oT:Obj) (ts:Array Value) (q:tb=.ref T) (n:T≠e) (a:gG c Ul U T) (x1:h.get? T=some oT) (x2:oT.cls=.type "traceback") (x3:oT.data=.fields ts) (x4:ts[3]?=some .none)
inductive xq (c:Cx)(Ul:Heap)(U:St)(h:Heap)(e C:Addr)(ats:List<|Str×V):Prop
 |mk (oe:Obj) (ws:Array Value) (d:Addr) (tb a0:Value) (es:List DictEntry) (n:Nat) (x1:h.get? e=some oe) (x2:oe.cls=.ref C) (x3:oe.dict=some d) (x4:oe.data=.fields ws) (x5:ws[0]?=some a0) (x6:ws[1]?=some tb) (x7:h.get? d=some (dictOf es n)) (x8:i9 h es ats)
  (x9:gG c Ul U e) (Yp:gG c Ul U d) (Zo:tb=.none\/RG c Ul U h e tb)
abbrev KE:=Addr->List (Str×V)->St->Prop
section
variable (D:cN)
inductive EP (c:Cx)(lo:Lo)(U:St)(s:Shared)(ke:KE)(v:Value)(s':Shared):Prop
 |mk (e C:Addr) (ats:List (Str×V)) (σ':St) (ev:v=.ref e) (r:R D.prog D.w c lo σ' s') (st:Step c U s σ' s') (fl:xq c s.heap σ' s'.heap e C ats) (h:ke C ats σ')
inductive Post {α β:Type}(rel:Heap->α->β->Prop)(c:Cx)(lo:Lo)(U:St)(s:Shared)(k:β->St->Prop)(a:α)(s':Shared):Prop
 |mk (b:β) (σ':St) (r:R D.prog D.w c lo σ' s') (st:Step c U s σ' s') (e:rel s'.heap a b) (h:k b σ')
def Tr {α β:Type}(rel:Heap->α->β->Prop)(c:Cx)(lo:Lo)(U:St)(vs:List Value)(xs:List V)(t:Sem α)(k:β->St->Prop)(ke:KE):Prop:=
 ∀s,R D.prog D.w c lo U s->aM s.heap vs xs->wpAny (model D.prog D.w) c.A t (Post D rel c lo U s k) (EP D c lo U s ke) s
end
def qR (_:Heap)(_:Unit)(_:Unit):Prop:=True
def lJ (_:Heap)(a b:Bool):Prop:=a=b
section
variable {D:cN}{n:Nat}{α β γ δ:Type}{rel:Heap->α->β->Prop}{rel':Heap->γ->δ->Prop}{ke:KE}{k:β->St->Prop}
theorem EP.step (t:Step c U s RS RT)(h:EP D c lo RS RT ke v s'):EP D c lo U s ke v s':=by
 obtain ⟨e,C,ats,σ',e1,r,st,⟨oe,ws,d,tb,a0,es,n,x1,x2,x3,x4,x4',x5,x6,x7,x8,x9,Yp⟩,q⟩:=h;rw[⟨e,C,ats,σ',e1,r,t.trans st,⟨oe,ws,d,tb,a0,es,n,x1,x2,x3,x4,x4',x5,x6,x7,⟨t.none x8.1,x8.2⟩,⟨t.none x9.1,x9.2⟩,?_⟩,q⟩];rcases Yp with z|⟨T,oT,ts,y1,y2,y3,y4,y5,y6,y7⟩
 ·rw[.inl z]
 ·rw[.inr ⟨T,oT,ts,y1,y2,⟨t.none y3.1,y3.2⟩,y4,y5,y6,y7⟩]
theorem Post.step {a:α}(t:Step c U s RS RT)(h:Post D rel c lo RS RT k a s'):Post D rel c lo U s k a s':=by
 obtain ⟨b,σ',r,st,e,q⟩:=h;rw[⟨b,σ',r,t.trans st,e,q⟩]
theorem Post.here {a:α}{b:β}(r:R D.prog D.w c lo U s)(e:rel s.heap a b)(h:k b U):Post D rel c lo U s k a s:=⟨b,U,r,.refl,e,h⟩
theorem Tr.mono {t:Sem α}{k':β->St->Prop}{Un:KE}(h:Tr D rel c lo U vs xs t k ke)(hk:∀b τ,k b τ->k' b τ)(he:∀C a τ,ke C a τ->Un C a τ):Tr D rel c lo U vs xs t k' Un:=
 λs r i=>wpAny_mono (h s r i) (λa s' ⟨b,τ,x,y,z,q⟩=>⟨b,τ,x,y,z,hk _ _ q⟩) λv s' ⟨e,C,ats,τ,x,y,z,f,q⟩=>⟨e,C,ats,τ,x,y,z,f,he _ _ _ q⟩
theorem Tr.bind {m:Sem γ}{f:γ->Sem α}{k':δ->St->Prop}(h:Tr D rel' c lo U vs xs m k' ke)
 (hf:∀a b RS RT,k' b RS->R D.prog D.w c lo RS RT->rel' RT.heap a b->aM RT.heap vs xs->wpAny (model D.prog D.w) c.A (f a) (Post D rel c lo RS RT k) (EP D c lo RS RT ke) RT):
 Tr D rel c lo U vs xs (m >>= f) k ke:=λs r i=>by
 rw[wpAny_bind<|wpAny_mono (h s r i) (λa RT w9=>?_) λ_ _ x=>x];obtain ⟨b,RS,RX,st,e,q⟩:=w9;rw[wpAny_mono (hf a b RS RT q RX e<|i.aE<|r.aE st.keep) (λa' s' x=>x.step st) λv s' x=>x.step st]
theorem Tr.eS {m:Sem Value}{f:Value->Sem α}(h:Tr D cz c lo U vs xs m k' ke)
 (hf:∀v x RS,k' x RS->Tr D rel c lo RS (v::vs) (x::xs) (f v) k ke):Tr D rel c lo U vs xs (m >>= f) k ke:=
 h.bind λa b RS RT q r e i=>hf a b RS q RT r<|.cons e i
theorem Tr.bindB {m:Sem Bool}{f:Bool->Sem α}{k':Bool->St->Prop}(h:Tr D lJ c lo U vs xs m k' ke)
 (hf:∀b RS,k' b RS->Tr D rel c lo RS vs xs (f b) k ke):Tr D rel c lo U vs xs (m >>= f) k ke:=
 h.bind λa b RS RT q r e i=>by cases e;rw[hf a RS q RT r i]
theorem Tr.Dv {m:Sem Unit}{f:Unit->Sem α}{k':Unit->St->Prop}(h:Tr D qR c lo U vs xs m k' ke)
 (hf:∀RS,k' () RS->Tr D rel c lo RS vs xs (f ()) k ke):Tr D rel c lo U vs xs (m >>= f) k ke:=
 h.bind λa b RS RT q r e i=>hf RS q RT r i
theorem Tr.pure {a:α}{b:β}(h:k b U)(e:∀h,aM h vs xs->rel h a b):Tr D rel c lo U vs xs (Pure.pure a) k ke:=λs r i=>wpAny_pure<|.here r (e _ i) h
theorem Tr.standAt {k:Unit->St->Prop}(h:k () U):Tr D qR c lo U vs xs (standAt pos) k ke:=λs r _=>wpAny_standAt<|.here r True.intro h
theorem Tr.jt {f:Unit->Sem α}(h:Tr D rel c lo U vs xs (f ()) k ke):Tr D rel c lo U vs xs (PySem.standAt pos >>= f) k ke:=λs r i=>wpAny_bind<|wpAny_standAt<|h s r i
theorem Tr.rule {t:String}{f:Unit->Sem α}(h:Tr D rel c lo U vs xs (f ()) k ke):Tr D rel c lo U vs xs (PySem.rule t >>= f) k ke:=λs r i=>wpAny_bind<|wpAny_rule<|h s r i
theorem Tr.holding {t:Sem α}(h:Tr D rel c lo U vs xs t k ke):Tr D rel c lo U vs xs (PySem.holding us t) k ke:=λs r i=>wpAny_holding<|h s r i
theorem Tr.operate {t:Sem Value}{k:V->St->Prop}(h:Tr D cz c lo U vs xs t k ke):Tr D cz c lo U vs xs (PySem.operate us t) k ke:=λs r i=>wpAny_operate'<|h s r i
theorem Tr.release {k:Unit->St->Prop}(h:k () U):Tr D qR c lo U vs xs (PySem.release us ws) k ke:=λs r _=>wpAny_release'<|.here r True.intro h
theorem Tr.point {k:Unit->St->Prop}(h:k () U):Tr D qR c lo U vs xs PySem.point k ke:=λs r _=>wpAny_point<|.here r True.intro h
theorem Tr.drop {t:Sem α}(h:Tr D rel c lo U [] [] t k ke):Tr D rel c lo U vs xs t k ke:=λs r _=>h s r .nil
theorem aM.take (i:aM h (v::vs)<|x::xs):aM h vs xs:=by cases i;assumption
theorem aM.head (i:aM h (v::vs)<|x::xs):cz h v x:=by cases i;assumption
theorem aM.pair {u:Value}(i:aM h (v::u::vs)<|x::y::xs):cz h v x/\cz h u y:=⟨i.head,i.take.head⟩
theorem aM.three {u w:Value}{z:V}(i:aM h (v::u::w::vs)<|x::y::z::xs):cz h v x/\cz h u y/\cz h w z:=⟨i.head,i.take.head,i.take.take.head⟩
theorem Tr.aW {t:Sem α}(h:∀s,R D.prog D.w c lo U s->aM s.heap vs xs->∀Q:α->Shared->Prop,(∀a b tk,rel s.heap a b->k b U->Q a {s with toks:=tk})->wpAny (model D.prog D.w) c.A t Q (λ_ _=>False) s):
 Tr D rel c lo U vs xs t k ke:=λs r i=>wpAny_mono (h s r i (Post D rel c lo U s k) λa b tk e q=>⟨b,U,r.tok tk,.tok tk,e,q⟩) (λ_ _ x=>x) λ_ _ x=>x.elim
end
section
variable (D:cN)(n:Nat)
def bY (sc:Scope)(e:Expr)(lo:Lo)(U:St)(k:V->St->Prop)(ke:KE):Prop:=
 ∀c,bK D n c->c.env.scope=sc->Tr D cz c lo U [] [] (eval e c.env) k ke
def kI (sc:Scope)(e:Expr)(lo:Lo)(U:St)(k:Bool->St->Prop)(ke:KE):Prop:=
 ∀c,bK D n c->c.env.scope=sc->Tr D lJ c lo U [] [] (isTrue e c.env<|eval e c.env) k ke
def jg (op:Operator)(x y:V)(U:St)(k:V->St->Prop)(ke:KE):Prop:=
 ∀c lo a b,bK D n c->Tr D cz c lo U [b,a] [y,x] (binaryOp op a b) k ke
def Oe (op:UnaryOp)(x:V)(U:St)(k:V->St->Prop)(ke:KE):Prop:=
 ∀c lo a,bK D n c->Tr D cz c lo U [a] [x] (unaryOp op a) k ke
def cZ (op:CmpOp)(x y:V)(U:St)(k:V->St->Prop)(ke:KE):Prop:=
 ∀c lo a b,bK D n c->Tr D cz c lo U [b,a] [y,x] (compareOp op a b) k ke
def pH (x:V)(U:St)(k:Bool->St->Prop)(ke:KE):Prop:=
 ∀c lo a,bK D n c->Tr D lJ c lo U [a] [x] (truthy a) k ke
def vL (x:V)(name:Str)(U:St)(k:V->St->Prop)(ke:KE):Prop:=
 ∀c lo a,bK D n c->Tr D cz c lo U [a] [x] (getAttr a name true) k ke
def bN (f:Value)(xs:List V)(U:St)(k:V->St->Prop)(ke:KE):Prop:=
 ∀c lo vs,bK D n c->Tr D cz c lo U vs xs (call f vs) k ke
end
section
variable {D:cN}{n:Nat}{k:V->St->Prop}{ke:KE}
@[reducible] def Nn (D:cN) (n:Nat) (op:Operator) (x:V) (k:V->St->Prop) (ke:KE):V->St->Prop:=λy RU=>jg D n op x y RU k ke
@[reducible] def Pp (D:cN) (n:Nat) (sc:Scope) (lo:Lo) (r:Expr) (op:Operator) (k:V->St->Prop) (ke:KE):V->St->Prop:=λx RS=>bY D n sc r lo RS (Nn D n op x k ke) ke
@[reducible] def Ro (D:cN) (n:Nat) (op:UnaryOp) (k:V->St->Prop) (ke:KE):V->St->Prop:=λx RS=>Oe D n op x RS k ke
@[reducible] def Pd (D:cN) (n:Nat) (sc:Scope) (lo:Lo) (b o:Expr) (k:V->St->Prop) (ke:KE):Bool->St->Prop:=λx RS=>if x=true then bY D n sc b lo RS k ke else bY D n sc o lo RS k ke
theorem bY.mono {Un:KE}(h:bY D n sc e lo U k ke)(hk:∀b τ,k b τ->k' b τ)(he:∀C a τ,ke C a τ->Un C a τ):bY D n sc e lo U k' Un:=λc hc hs=>(h c hc hs).mono hk he
theorem bN.mono {f:Value}{Un:KE}(h:bN D n f xs U k ke)(hk:∀b τ,k b τ->k' b τ)(he:∀C a τ,ke C a τ->Un C a τ):bN D n f xs U k' Un:=λc lo vs hc=>(h c lo vs hc).mono hk he
theorem EZ (h:k (.int i) U):bY D n sc (.Constant (.int i) t pos) lo U k ke:=λc hc hs s r _=>
 wpAny_mkInt ⟨.int i,U,r.tok _,.tok _,.int _ _,h⟩
theorem vo {x:Str}(h:k (.str x) U):bY D n sc (.Constant (.str x) t pos) lo U k ke:=λc hc hs s r _=>
 wpAny_mkText ⟨.str x,U,r.tok _,.tok _,.str _ _,h⟩
theorem Cs (h:k .none U):bY D n sc (.Constant .none t pos) lo U k ke:=λc hc hs s r _=>
 wpAny_pure ⟨.none,U,r,.refl,.none,h⟩
theorem Cw {b:Bool}(h:k (.bool b) U):bY D n sc (.Constant (.bool b) t pos) lo U k ke:=λc hc hs s r _=>
 wpAny_pure ⟨.bool b,U,r,.refl,.bool b,h⟩
theorem Ct {x:Str}{v:V}(hv:lo.lookup x=some v)(h:k v U)(hd:(x==("__debug__":Str))=false)(Vj:(x==("__classdict__":Str))=false):bY D n sc (.Name x pos) lo U k ke:=λc hc hs s r _=>by
 obtain ⟨m,cm,m1,m2,m3⟩:=r.lo;obtain ⟨v',iv,q⟩:=m3 x v hv;have fin:Post D cz c lo U s k v' s:=⟨v,U,r,.refl,iv,h⟩;rcases q with ⟨hk,e⟩|⟨hk,hi,e⟩
 ·rw[wpAny_Name (wpAny_loadName_local hc.kind hk m1 e fin) hd]
 ·obtain ⟨a,ha⟩:=Option.isSome_iff_exists.mp hi;have ce:=m2 x a ha;rw[e] at ce;rcases hk with hk|hk
  ·rw[wpAny_Name (wpAny_loadName_cell hc.kind hk ha ce fin) hd]
  ·rw[wpAny_Name (wpAny_loadName_free hc.kind hk ha ce fin Vj) hd]
theorem qB {x:Str}(e:nsIn D.K mainGlobals x=some (some v))(hx:sc.names.lookup x=some .globalImplicit)(hy:∀h,cz h v y)(h:k y U)(hd:(x==("__debug__":Str))=false):
 bY D n sc (.Name x pos) lo U k ke:=λc hc hs s r _=>
 Name_function_global hc.kind (by unfold Env.kindOf;rw[af hs hx]) (loadGlobal_global (env:=c.env) (af hc.glob<|hc.top.g.keeps r.keep) (mg_of hc.K hc.top.g e) ⟨y,U,r,.refl,hy _,h⟩) hd
theorem vp {x:Str}(e:nsIn D.K mainGlobals x=some none)(hv:bootBuiltins x=some v)(hx:sc.names.lookup x=some .globalImplicit)(h:k (.atom v) U)(hn:x≠"__name__")(hd:(x==("__debug__":Str))=false):
 bY D n sc (.Name x pos) lo U k ke:=λc hc hs s r _=>
 Name_function_global hc.kind (by unfold Env.kindOf;rw[af hs hx]) (loadGlobal_builtin (env:=c.env) (af hc.glob<|hc.top.g.keeps r.keep) (mg_none_of hc.K hc.top.g e) (af hc.bi<|hc.top.b.keeps r.keep)
  ((hc.top.builtins x hn).trans hv) ⟨.atom v,U,r,.refl,.atom _,h⟩) hd
theorem AE {l r:Expr}(h:bY D n sc l lo U (Pp D n sc lo r op k ke) ke):bY D n sc (.BinOp l op r pos) lo U k ke:=λc hc hs=>by
 rw[(h c hc hs).eS λa x RS q=>?_,(Tr.holding (q c hc hs).drop).eS λb y RU q=>.jt<|.operate λs r i=>q c lo a b hc s r (by cases i with|cons i1 j=>cases j with|cons i2 j=>rw[.cons i1<|.cons i2 .nil])]
theorem wO {x:Expr}{op:UnaryOp}(h:bY D n sc x lo U (Ro D n op k ke) ke):bY D n sc (.UnaryOp op x pos) lo U k ke:=λc hc hs=>by
 rw[(h c hc hs).eS λa x RS q=>.jt<|.holding<|q c lo a hc]
theorem Ax {t b o:Expr}(h:kI D n sc t lo U (Pd D n sc lo b o k ke) ke):bY D n sc (.IfExp t b o pos) lo U k ke:=λc hc hs=>by
 rw[(h c hc hs).bindB λx RS q=>?_]
 cases x with
 |true=>rw[q c hc hs]
 |false=>rw[q c hc hs]
end
variable {A:Around}{kb:Bool->St->Prop}{e' slice value:Expr}{ke:KE}{l:List<|Bool×Sem Value}{args es r:List Expr}{ys:List V}{ka:List V->St->Prop}{first:List Value}{M:Model}{D:cN}{Sf name:Str}{E Q:Value->Shared->Prop}
set_option backward.match.sparseCases true
def DB (h:Heap)(a:Value×List Value)(b:Value×List V):Prop:=a.1=b.1/\aM h a.2 b.2
def dZ (D:cN)(f:Value):Prop:=(∃id,f=.builtin id)\/(∃T,f=.type T)\/keepIn D.K f=true
section
variable (D:cN)(n:Nat)
def N6 (sc:Scope)(op:BoolOp)(es:List Expr)(lo:Lo)(U:St)(k:V->St->Prop)(ke:KE):Prop:=
 ∀c pos,bK D n c->c.env.scope=sc->Tr D cz c lo U [] [] (boolOp pos op<|evalEach es c.env) k ke
def N5 (sc:Scope)(op:BoolOp)(es:List Expr)(lo:Lo)(U:St)(k:Bool->St->Prop)(ke:KE):Prop:=
 ∀c,bK D n c->c.env.scope=sc->Tr D lJ c lo U [] [] (allTrue op es c.env) k ke
def N4 (sc:Scope)(YJ:List CmpOp)(es:List Expr)(x:V)(lo:Lo)(U:St)(k:V->St->Prop)(ke:KE):Prop:=
 ∀c a pos,bK D n c->c.env.scope=sc->Tr D cz c lo U [a] [x] (compareChain pos a YJ<|evalEach es c.env) k ke
def N2 (sc:Scope)(YJ:List CmpOp)(es:List Expr)(x:V)(lo:Lo)(U:St)(k:Bool->St->Prop)(ke:KE):Prop:=
 ∀c a pos,bK D n c->c.env.scope=sc->Tr D lJ c lo U [a] [x] (testChain pos a YJ<|evalEach es c.env) k ke
def gc (sc:Scope)(es:List Expr)(lo:Lo)(U:St)(k:List V->St->Prop)(ke:KE):Prop:=
 ∀c pos,bK D n c->c.env.scope=sc->Tr D aM c lo U [] [] (spliced<|backTo pos<|starEach es c.env) k ke
def MethW (x:V)(name:Str)(U:St)(f:Value)(first:List V):Prop:=
 ∀c lo a pl,bK D n c->Tr D DB c lo U [a] [x] (getMethod a name pl) (λr τ=>τ=U/\r=(f,first)) (λ_ _ _=>False)
def r7 (value slice:Expr)(x y:V)(U:St)(k:V->St->Prop)(ke:KE):Prop:=
 ∀c lo a b,bK D n c->Tr D cz c lo U [b,a] [y,x] (subscriptTail value slice a b) k ke
end
section
variable {D:cN}{n:Nat}{op:BoolOp} 
theorem two {a b:Value}(i:aM h (b::a::vs)<|y::x::xs):aM h [b,a] [y,x]:=by
 cases i with|cons i1 j=>cases j with|cons i2 j=>rw[.cons i1<|.cons i2 .nil]
theorem one {a:Value}(i:aM h (a::vs)<|x::xs):aM h [a] [x]:=by
 cases i with|cons i1 j=>rw[.cons i1 .nil]
@[reducible] def EI (D:cN) (n:Nat) (kb:Bool->St->Prop) (ke:KE):V->St->Prop:=λz U=>pH D n z U kb ke
@[reducible] def Po (D:cN) (n:Nat) (sc:Scope) (lo:Lo) (op:BoolOp) (es:List Expr) (x:V) (k:V->St->Prop) (ke:KE):Bool->St->Prop:=λb RU=>if (b==(op== .Or))=true then k x RU else N6 D n sc op es lo RU k ke
@[reducible] def Rt (D:cN) (n:Nat) (sc:Scope) (lo:Lo) (op:BoolOp) (es:List Expr) (k:V->St->Prop) (ke:KE):V->St->Prop:=λx RS=>pH D n x RS (Po D n sc lo op es x k ke) ke
@[reducible] def Rr (D:cN) (n:Nat) (sc:Scope) (lo:Lo) (op:BoolOp) (r:List Expr) (kb:Bool->St->Prop) (ke:KE):Bool->St->Prop:=λb RS=>if (b==(op== .Or))=true then kb b RS else N5 D n sc op r lo RS kb ke
@[reducible] def Pa (kb:Bool->St->Prop):Bool->St->Prop:=λb RS=>kb (!b) RS
@[reducible] def Pb (D:cN) (n:Nat) (sc:Scope) (lo:Lo) (b o:Expr) (kb:Bool->St->Prop) (ke:KE):Bool->St->Prop:=λx RS=>if x=true then kI D n sc b lo RS kb ke else kI D n sc o lo RS kb ke
@[reducible] def Nl (D:cN) (n:Nat) (o:CmpOp) (x:V) (k:V->St->Prop) (ke:KE):V->St->Prop:=λy RS=>cZ D n o x y RS k ke
@[reducible] def Pk (D:cN) (n:Nat) (sc:Scope) (lo:Lo) (y z:V) (os:List CmpOp) (es:List Expr) (k:V->St->Prop) (ke:KE):Bool->St->Prop:=λb R1=>if b=true then N4 D n sc os es y lo R1 k ke else k z R1
@[reducible] def Pn (D:cN) (n:Nat) (sc:Scope) (lo:Lo) (y:V) (os:List CmpOp) (es:List Expr) (k:V->St->Prop) (ke:KE):V->St->Prop:=λz RU=>pH D n z RU (Pk D n sc lo y z os es k ke) ke
@[reducible] def Pj (D:cN) (n:Nat) (sc:Scope) (lo:Lo) (o:CmpOp) (x:V) (os:List CmpOp) (es:List Expr) (k:V->St->Prop) (ke:KE):V->St->Prop:=λy RS=>cZ D n o x y RS (Pn D n sc lo y os es k ke) ke
@[reducible] def Rq (D:cN) (n:Nat) (sc:Scope) (lo:Lo) (os:List CmpOp) (es:List Expr) (k:V->St->Prop) (ke:KE):V->St->Prop:=λx RS=>N4 D n sc os es x lo RS k ke
@[reducible] def Ph (D:cN) (n:Nat) (sc:Scope) (lo:Lo) (y:V) (os:List CmpOp) (es:List Expr) (kb:Bool->St->Prop) (ke:KE):Bool->St->Prop:=λb R1=>if b=true then N2 D n sc os es y lo R1 kb ke else kb false R1
@[reducible] def Pf (D:cN) (n:Nat) (sc:Scope) (lo:Lo) (o:CmpOp) (x:V) (os:List CmpOp) (es:List Expr) (kb:Bool->St->Prop) (ke:KE):V->St->Prop:=λy RS=>cZ D n o x y RS (EI D n (Ph D n sc lo y os es kb ke) ke) ke
@[reducible] def Rp (D:cN) (n:Nat) (sc:Scope) (lo:Lo) (os:List CmpOp) (es:List Expr) (kb:Bool->St->Prop) (ke:KE):V->St->Prop:=λx RS=>N2 D n sc os es x lo RS kb ke
@[reducible] def Nk (ka:List V->St->Prop) (x:V):List V->St->Prop:=λxs RU=>ka (x::xs) RU
@[reducible] def Nt (D:cN) (n:Nat) (sc:Scope) (lo:Lo) (es:List Expr) (ka:List V->St->Prop) (ke:KE):V->St->Prop:=λx RS=>gc D n sc es lo RS (Nk ka x) ke
inductive QX (k:V->St->Prop)(xs:List V)(RS:St):Prop
 |mk (l:xs.length<=1000) (h:∀a,RS a=none->k (.ref a) (RS.set a (.list xs)))
inductive QW (k:V->St->Prop)(xs:List V)(RS:St):Prop
 |mk (l:xs.length<=1000) (h:k (.tup xs) RS)
@[reducible] def Ni (k:V->St->Prop):List V->St->Prop:=λxs RS=>QX k xs RS
@[reducible] def O5 (k:V->St->Prop):List V->St->Prop:=λxs RS=>QW k xs RS
@[reducible] def Pu (D:cN) (n:Nat) (Sf:Str) (k:V->St->Prop) (ke:KE):V->St->Prop:=λx RS=>vL D n x Sf RS k ke
@[reducible] def Nc (D:cN) (n:Nat) (value slice:Expr) (x:V) (k:V->St->Prop) (ke:KE):V->St->Prop:=λy RU=>r7 D n value slice x y RU k ke
@[reducible] def O6 (D:cN) (n:Nat) (sc:Scope) (lo:Lo) (value slice:Expr) (k:V->St->Prop) (ke:KE):V->St->Prop:=λx RS=>bY D n sc slice lo RS (Nc D n value slice x k ke) ke
@[reducible] def Nm (D:cN) (n:Nat) (f:Value) (first:List V) (k:V->St->Prop) (ke:KE):List V->St->Prop:=λxs RU=>bN D n f (first++xs) RU k ke
@[reducible] def EL (D:cN) (n:Nat) (f:Value) (k:V->St->Prop) (ke:KE):List V->St->Prop:=λxs RU=>bN D n f xs RU k ke
@[reducible] def Pe (D:cN) (n:Nat) (sc:Scope) (lo:Lo) (args:List Expr) (U:St) (k:V->St->Prop) (ke:KE) (f:Value):Prop:=gc D n sc args lo U (EL D n f k ke) ke
@[reducible] def EK (D:cN) (n:Nat) (sc:Scope) (lo:Lo) (args:List Expr) (U:St) (k:V->St->Prop) (ke:KE) (f:Value) (first:List V):Prop:=gc D n sc args lo U (Nm D n f first k ke) ke
@[reducible] def QM (D:cN) (n:Nat) (sc:Scope) (lo:Lo) (args:List Expr) (k:V->St->Prop) (ke:KE):V->St->Prop:=λy RS=>∃f,y=.atom f/\dZ D f/\Pe D n sc lo args RS k ke f
@[reducible] def Dh (D:cN) (n:Nat) (sc:Scope) (lo:Lo) (name:Str) (args:List Expr) (k:V->St->Prop) (ke:KE):V->St->Prop:=λy RS=>∃f first,MethW D n y name RS f first/\dZ D f/\EK D n sc lo args RS k ke f first
theorem Fd (h:bY D n sc e lo U k ke):N6 D n sc op [e] lo U k ke:=λc pos hc hs=>h c hc hs
theorem CM (h:bY D n sc e lo U (Rt D n sc lo op (e'::r) k ke) ke):N6 D n sc op (e::e'::r) lo U k ke:=λc pos hc hs=>by
 show Tr D cz c lo U [] [] (do
  let v <- eval e c.env
  standAt pos
  let t <- holding [v]<|truthy v
  match op,t with
  |.And,false|.Or,true=>pure v
  |_,_=>boolOp pos op (evalEach (e'::r) c.env)) k ke
 rw[(h c hc hs).eS λv x RS q=>.jt<|(Tr.holding λs r i=>q c lo v hc s r<|one i).bindB λb RU q=>?_];clear h;cases op<;>cases b<;>first
  |exact Tr.pure q λ_ i=>i.head
  |exact (q c pos hc hs).drop
theorem AD (h:N6 D n sc op es lo U k ke):bY D n sc (.BoolOp op es pos) lo U k ke:=λc hc hs=>h c pos hc hs
theorem Fb (h:kb (op== .And) U):N5 D n sc op [] lo U kb ke:=λc hc hs=>Tr.pure h λ_ _=>rfl
theorem CL (h:kI D n sc e lo U (Rr D n sc lo op r kb ke) ke):N5 D n sc op (e::r) lo U kb ke:=λc hc hs=>by
 show Tr D lJ c lo U [] [] (do
  match op,<- isTrue e c.env (eval e c.env) with
  |.And,false=>pure false
  |.Or,true=>pure true
  |_,_=>allTrue op r c.env) kb ke
 rw[(h c hc hs).bindB λb RS q=>?_];clear h;cases op<;>cases b<;>first
  |exact Tr.pure q λ_ i=>rfl
  |exact (q c hc hs).drop
theorem Bs (h:N5 D n sc op es lo U kb ke):kI D n sc (.BoolOp op es pos) lo U kb ke:=λc hc hs=>h c hc hs
theorem DQ (h:kI D n sc e lo U (Pa kb) ke):kI D n sc (.UnaryOp .Not e pos) lo U kb ke:=λc hc hs=>by
 rw[(h c hc hs).bindB λb RS q=>Tr.pure q λ_ _=>rfl]
theorem C0 (h:bY D n sc e lo U (EI D n kb ke) ke)(he:∀env SG,isTrue e env SG=(do let v <- SG;standAt e.pos;holding [v] (truthy v)):=by intros;rfl):kI D n sc e lo U kb ke:=λc hc hs=>by
 rw[af (he ..)<|(h c hc hs).eS λv x RS q=>.jt<|.holding<|q c lo v hc]
theorem yR {t b o:Expr}(h:kI D n sc t lo U (Pb D n sc lo b o kb ke) ke):kI D n sc (.IfExp t b o pos) lo U kb ke:=λc hc hs=>by
 rw[(h c hc hs).bindB λx RS q=>?_]
 cases x with
 |true=>rw[q c hc hs]
 |false=>rw[q c hc hs]
theorem E5 {o:CmpOp}(h:bY D n sc e lo U (Nl D n o x k ke) ke):N4 D n sc [o] [e] x lo U k ke:=λc a pos hc hs=>by
 show Tr D cz c lo U [a] [x] (do
  let rv <- holding [a]<|eval e c.env
  standAt pos
  operate [a,rv] (compareOp o a rv)) k ke
 rw[(Tr.holding (h c hc hs).drop).eS λb y RS q=>.jt<|.operate<|q c lo a b hc]
theorem CG {o o':CmpOp}{os:List CmpOp}(h:bY D n sc e lo U (Pj D n sc lo o x (o'::os) (e'::es) k ke) ke):
 N4 D n sc (o::o'::os) (e::e'::es) x lo U k ke:=λc a pos hc hs=>by
 show Tr D cz c lo U [a] [x] (do
  let rv <- holding [a]<|eval e c.env
  standAt pos
  let cc <- holding [a,rv]<|compareOp o a rv
  release [a,rv] [cc]
  if <- holding [cc,rv] (truthy cc) then compareChain pos rv (o'::os) (evalEach (e'::es) c.env) else pure cc) k ke
 rw[(Tr.holding (h c hc hs).drop).eS λb y RS q=>.jt<|(Tr.holding<|q c lo a b hc).eS λcc z RU q=>?_,(Tr.release (k:=λ_ τ=>τ=RU) rfl).Dv λτ e=>?_];subst e;rw[(Tr.holding λs r i=>q c lo cc hc s r<|one i).bindB λt R1 q=>?_]
 cases t with
 |true=>rw[λs r i=>q c b pos hc hs s r<|one i.take]
 |false=>rw[Tr.pure q λ_ i=>i.head]
theorem E0 {l:Expr}{os:List CmpOp}(h:bY D n sc l lo U (Rq D n sc lo os es k ke) ke)(hm:lastMarks os es=false:=by rfl):bY D n sc (.Compare l os es pos) lo U k ke:=λc hc hs=>by
 show Tr D cz c lo U [] [] (do compareChain pos (<- eval l c.env) os (markedEach os es<|evalEach es c.env)) k ke;rw[af (markedEach_of_false _ _ _ hm)<|(h c hc hs).eS λa x RS q=>q c a pos hc hs]
theorem E4 {o:CmpOp}(h:bY D n sc e lo U (Nl D n o x (EI D n kb ke) ke) ke):N2 D n sc [o] [e] x lo U kb ke:=λc a pos hc hs=>by
 show Tr D lJ c lo U [a] [x] (do
  let rv <- holding [a]<|eval e c.env
  standAt pos
  let cc <- operate [a,rv]<|compareOp o a rv
  holding [cc] (truthy cc)) kb ke
 rw[(Tr.holding (h c hc hs).drop).eS λb y RS q=>.jt<|(Tr.operate<|q c lo a b hc).eS λcc z RU q=>.holding λs r i=>q c lo cc hc s r<|one i]
theorem CE {o o':CmpOp}{os:List CmpOp}(h:bY D n sc e lo U (Pf D n sc lo o x (o'::os) (e'::es) kb ke) ke):
 N2 D n sc (o::o'::os) (e::e'::es) x lo U kb ke:=λc a pos hc hs=>by
 show Tr D lJ c lo U [a] [x] (do
  let rv <- holding [a]<|eval e c.env
  standAt pos
  let cc <- holding [a,rv]<|compareOp o a rv
  release [a,rv] [cc]
  if <- holding [cc,rv] (truthy cc) then testChain pos rv (o'::os) (evalEach (e'::es) c.env) else pure false) kb ke
 rw[(Tr.holding (h c hc hs).drop).eS λb y RS q=>.jt<|(Tr.holding<|q c lo a b hc).eS λcc z RU q=>?_,(Tr.release (k:=λ_ τ=>τ=RU) rfl).Dv λτ e=>?_];subst e;rw[(Tr.holding λs r i=>q c lo cc hc s r<|one i).bindB λt R1 q=>?_]
 cases t with
 |true=>rw[λs r i=>q c b pos hc hs s r<|one i.take]
 |false=>rw[Tr.pure q λ_ i=>rfl]
theorem DR {l:Expr}{os:List CmpOp}(h:bY D n sc l lo U (Rp D n sc lo os es kb ke) ke)(hm:lastMarks os es=false:=by rfl):kI D n sc (.Compare l os es pos) lo U kb ke:=λc hc hs=>by
 show Tr D lJ c lo U [] [] (do testChain pos (<- eval l c.env) os (markedEach os es<|evalEach es c.env)) kb ke;rw[af (markedEach_of_false _ _ _ hm)<|(h c hc hs).eS λa x RS q=>q c a pos hc hs]
theorem args_nil (h:ka [] U):gc D n sc [] lo U ka ke:=λc pos hc hs s r _=>spliced_nil<|.here r .nil h
theorem args_cons (h:bY D n sc e lo U (Nt D n sc lo es ka ke) ke)
 (he:∀env,starEach (e::es) env=(false,eval e env)::starEach es env:=by intros;rfl):gc D n sc (e::es) lo U ka ke:=λc pos hc hs s r _=>by
 rw[af (he ..) ?_,spliced_cons<|wpAny_mono (h c hc hs s r .nil) (by rintro v RT ⟨x,RS,RX,st,i,q⟩;rw[wpAny_mono (q c pos hc hs RT RX .nil) (λvs RZ ⟨xs,RU,R7,Sb,j,S7⟩=>⟨x::xs,RU,R7,st.trans Sb,.cons (i.aE<|RX.aE Sb.keep) j,S7⟩) λ_ _ z=>z.step st]) λ_ _ z=>z]
theorem Cu (h:gc D n sc es lo U (Ni k) ke):bY D n sc (.List es pos) lo U k ke:=λc hc hs s r _=>by
 rw[wpAny_bind<|wpAny_standAt<|wpAny_bind<|wpAny_mono (h c pos hc hs s r .nil) (λvs RT w9=>?_) λ_ _ z=>z];obtain ⟨xs,RS,RX,st,i,hz,q⟩:=w9;rw[wpAny_newObj_type ?_ (by show vs.toArray.size<=sizeLine;rw[af List.size_toArray<|af i.length<|Nat.le_trans hz ac])];obtain ⟨e,R7,Sb⟩:=RX.alloc (a:=RT.heap.objs.size) (o:=.list xs) (tk:=RT.toks) (h':=RT.heap.push {cls:=.type "list",data:=.seq vs.toArray}) (λb o e=>Heap.get?_push_of_some _ e)
  (by cases q:RT.heap.get? RT.heap.objs.size with|none=>rfl|some o=>rw[absurd (Heap.lt_size q)<|Nat.lt_irrefl _]) (λd hd=>by rw[aq hd])
  ⟨vs,⟨_,Heap.get?_push_size _ rfl,0,rfl⟩,i.aE<|.of_keeps λb o e=>Heap.get?_push_of_some _ e⟩
 rw[⟨.ref _,_,R7,st.trans Sb,.ref _,q _ e⟩]
theorem tT {kk:Nat}(h:gc D n sc es lo U (O5 k) ke):bY D n sc (.Tuple es kk pos) lo U k ke:=λc hc hs s r _=>by
 rw[wpAny_bind<|wpAny_standAt<|wpAny_bind<|wpAny_mono (h c pos hc hs s r .nil) (λvs RT w9=>?_) λ_ _ z=>z];obtain ⟨xs,RS,RX,st,i,hz,q⟩:=w9;rw[wpAny_newObj_type ?_ (by show vs.toArray.size<=sizeLine;rw[af List.size_toArray<|af i.length<|Nat.le_trans hz ac])];have kp:∀b o,RT.heap.get? b=some o->(RT.heap.push {cls:=.type "tuple",data:=.seq vs.toArray}).get? b=some o:=λb o e=>Heap.get?_push_of_some _ e;rw[⟨.tup xs,RS,RX.more kp (tk:=RT.toks),st.trans<|.more kp,.tup (Heap.get?_push_size _ rfl) rfl rfl (i.aE<|.of_keeps kp),q⟩]
theorem Cy (h:bY D n sc value lo U (Pu D n Sf k ke) ke)(hb:∀env SG,attributeBase value Sf env SG=SG:=by intros;rfl):bY D n sc (.Attribute value Sf pos) lo U k ke:=λc hc hs=>by
 show Tr D cz c lo U [] [] (do
  let o <- attributeBase value Sf c.env<|eval value c.env
  standAt pos.atName
  let r <- holding [o]<|getAttr o Sf true
  letTemporaryGo value o r
  pure r) k ke
 rw[af (hb ..) ?_,(h c hc hs).eS λv x RS q=>.jt<|(Tr.holding<|q c lo v hc).eS λr y RU q=>?_];intro s rr i;rw[wpAny_bind<|wpAny_letTemporaryGo<|wpAny_pure ⟨y,RU,rr,.refl,i.head,q⟩]
theorem EY (h:bY D n sc value lo U (O6 D n sc lo value slice k ke) ke):bY D n sc (.Subscript value slice pos) lo U k ke:=λc hc hs=>by
 have e:eval (.Subscript value slice pos) c.env=(do
  let o <- eval value c.env
  let i <- holding [o]<|eval slice c.env
  standAt pos
  subscriptTail value slice o i):=eval_Subscript ..
 rw[af e ?_,(h c hc hs).eS λa x RS q=>(Tr.holding (q c hc hs).drop).eS λb y RU q=>.jt λs r i=>q c lo a b hc s r<|two i]
theorem jH {f:Value}{Q:Args->Shared->Prop}(hl:l.all (λx=> !x.1)=true)
 (h:wpAny M A (spliced l) (λvs s'=>Q ⟨vs,[]⟩ s') E s):wpAny M A (evalArgs f true l []) Q E s:=by
 cases l with
 |nil=>
  rw[wpAny_bind<|wpAny_mono h (λvs s' h'=>?_) λ_ _ x=>x,wpAny_bind<|wpAny_pure<|wpAny_holding<|wpAny_bind<|wpAny_pure<|wpAny_bind<|wpAny_pure<|wpAny_pure h']
 |cons p r=>
  obtain ⟨b,x⟩:=p;have:b=false:=by simpa using (List.all_eq_true.mp hl (b,x)<|.head _)
  clear hl;subst this;rw[evalArgs_plain h]
theorem vF (hl:l.all (λx=> !x.1)=true):l.any (·.1)=false:=by
 induction l with
 |nil=>rfl
 |cons p r ih=>
  rw[List.all_cons,Bool.and_eq_true] at hl;rw[af List.any_cons<|af (ih hl.2)<|af (Bool.or_false ..) ?_];simpa using hl.1
theorem kH {f:Value}(hk:dZ D f)(hl:l.all (λx=> !x.1)=true)
 (h:wpAny (model D.prog D.w) A (spliced l) (λvs s'=>D.K.In s'.heap/\wpAny (model D.prog D.w) A (call f<|first++vs) Q E s') E s):wpAny (model D.prog D.w) A (callWith pos f first l []) Q E s:=by
 have hp:=vF hl;rcases hk with ⟨id,rfl⟩|⟨T,rfl⟩|hk
 ·rw[callWith_builtin hp<|jH hl<|wpAny_mono h (λvs s' x=>x.2) λ_ _ x=>x]
 ·rw[PySem.callWith_type hp<|jH hl<|wpAny_mono h (λvs s' x=>x.2) λ_ _ x=>x]
 ·rw[callWith_of (af hp rfl) (keeps_K hk)<|jH hl h]
theorem R.P8 (hc:bK D n c)(r:R D.prog D.w c lo U s):D.K.In s.heap:=hc.K.keeps r.keep
theorem aM.append (i:aM h vs xs)(j:aM h ws ys):aM h (vs++ws)<|xs++ys:=
 i.ind (P:=λvs xs=>aM h (vs++ws)<|xs++ys) j λ_ _ _ _ a _ r=>.cons a r
theorem wQ {func:Expr}(h:bY D n sc func lo U (QM D n sc lo args k ke) ke)
 (hf:∀env,eval (.Call func args [] pos) env=(do callWith pos (<- eval func env) [] (backTo pos<|starEach args env) []):=by intros;rfl)
 (hl:∀env,(backTo pos<|starEach args env).all (λx=> !x.1)=true:=by intros;rfl):bY D n sc (.Call func args [] pos) lo U k ke:=λc hc hs=>by
 rw[af (hf ..) ?_,(h c hc hs).eS λfv y RS w9=>?_];obtain ⟨f,e,hk,q⟩:=w9;intro s r i;subst e;obtain rfl:fv=f:=by clear hk q;cases i.head;rfl
 rw[kH hk (hl _)<|wpAny_mono (q c pos hc hs s r .nil) (by rintro vs RT ⟨xs,RU,R7,st,j,S7⟩;rw[⟨R7.P8 hc,wpAny_mono (S7 c lo vs hc RT R7 j) (λ_ _ z=>z.step st) λ_ _ z=>z.step st⟩]) λ_ _ z=>z]
theorem Aw {o:Expr}{Ug:Pos}(h:bY D n sc o lo U (Dh D n sc lo name args k ke) ke)
 (hb:∀env SG,attributeBase o name env SG=SG:=by intros;rfl)
 (hp:(Ug.endLine==pos.line)=true:=by rfl)
 (hm:∀env,methodCallForm (args.length+([]:List Keyword).length) (backTo pos<|starEach args env) []=true:=by intros;rfl)
 (hl:∀env,(backTo pos<|starEach args env).all (λx=> !x.1)=true:=by intros;rfl):bY D n sc (.Call (.Attribute o name Ug) args [] pos) lo U k ke:=λc hc hs=>by
 show Tr D cz c lo U [] [] (do
  let ov <- attributeBase o name c.env<|eval o c.env
  standAt Ug.atName
  let (f,first) <- holding [ov]<|calleeOf (methodCallForm (args.length+([]:List Keyword).length) (backTo pos<|starEach args c.env) []) o c.env ov name
  let callPos <- methodCallPos (methodCallForm (args.length+([]:List Keyword).length) (backTo pos<|starEach args c.env) []) o c.env Ug pos
  callWith callPos f first (backTo pos<|starEach args c.env) []) k ke
 rw[af (hb ..)<|af (hm ..) ?_,(h c hc hs).eS λov y RS ⟨f,first,hmeth,hk,q⟩=>.jt ?_,Tr.bind (k':=λr τ=>τ=RS/\r=(f,first)) (rel':=DB) (Tr.holding λs r i=>?_) λa b RU RT e RX ra i=>?_]
 ·rw[wpAny_mono (hmeth c lo ov _ hc s r i) (λ_ _ z=>z) λ_ _ ⟨_,_,_,_,_,_,_,_,z⟩=>z.elim]
 right;obtain ⟨rfl,rfl⟩:=e;obtain ⟨a1,a2⟩:=a;obtain ⟨e1,e2⟩:=ra;dsimp only at e1 e2;clear hmeth;subst e1;symm;show wpAny _ _ (do
  let callPos <- methodCallPos true o c.env Ug pos
  callWith callPos a1 a2 (backTo pos<|starEach args c.env) []) _ _ _
 have:methodCallPos true o c.env Ug pos=pure pos:=by unfold methodCallPos;rw[af hp rfl]
 rw[af this ?_,wpAny_bind<|wpAny_pure ?_,kH hk (hl _)<|wpAny_mono (q c pos hc hs RT RX .nil) (by rintro vs RZ ⟨xs,RU,R7,st,j,S7⟩;rw[⟨R7.P8 hc,wpAny_mono (S7 c lo (a2++vs) hc RZ R7<|(e2.aE<|RX.aE st.keep).append j) (λ_ _ z=>z.step st) λ_ _ z=>z.step st⟩]) λ_ _ z=>z]
end
set_option backward.match.sparseCases false
variable {c':Cx}{env:Env}{lo' WD:Lo}{σ':St}{cm:Str->Option Value}
noncomputable def Cx.deep (c:Cx)(env:Env):Cx:={g:=c.g,A:=c.A.deeper env,env:=env,mV:=env::c.mV,os:=c.os}
theorem cG (hb:h.objs.size<=b):h.get? b=none:=by
 cases q:h.get? b with
 |none=>rfl
 |some o=>rw[absurd (Heap.lt_size q)<|Nat.not_lt.mpr hb]
section
theorem bK.deep (hc:bK D (n+1) c)(hk:env.scope.kind=.function)(hg:env.globals=mainGlobals)(hb:env.builtins=builtinsNs)(hf:env.frame=some env.locals)(Yu:∀y,env.kindOf y=some .cell\/env.kindOf y=some .free->(env.cells.lookup y).isSome=true):bK D n (c.deep env) where
 kind:=hk
 glob:=hg
 bi:=hb
 K:=hc.K
 top:=hc.top
 m8:=hc.m8
 hd:=λ_=>hc.hd<|Nat.succ_pos _
 fr:=by show Option.map _ c.A.frames=_;rw[af hc.fr rfl]
 Ai e he:=by
  clear hg hb hf Yu;rcases ek he with rfl|he
  ·rw[af hk ?_];decide
  ·rw[hc.Ai e he]
 frs e he:=by
  clear hk hg hb Yu;rcases ek he with rfl|he
  ·rw[⟨_,hf⟩]
  ·rw[hc.frs e he]
 here:=⟨env,c.mV,rfl,rfl⟩
 fh:=Yu
 depth:=by have:=hc.depth;show c.A.depth+1+4*n+20<_;rw[Lh this]
 units:=by have:=hc.units;show c.A.units+3+40*n+200<_;rw[Le this]
theorem R.enter (r:R D.prog D.w c lo U s)(hf:env.frame=some env.locals)(x:InCallC s env.locals m env.cells cm RT)
 (Xp:∀y v,lo'.lookup y=some v->Bb env RT.heap m cm y v)
 (hi:∀n n' a,env.cells.lookup n=some a->env.cells.lookup n'=some a->n=n'):
 R D.prog D.w (c.deep env) lo' U RT/\Step c U s U RT:=by
 obtain ⟨Sg,tk,rfl,hk⟩:=x.done;have r':=r.more (tk:=tk) hk;have hL:s.heap.get? env.locals=none:=cG x.toInCall.fresh;have hC:∀n a,env.cells.lookup n=some a->s.heap.get? a=none:=λn a e=>cG<|Nat.le_trans x.toInCall.fresh<|Nat.le_of_lt<|x.above n a<|mem_of_lookup e;have there:∀a o,U a=some o->s.heap.get? a≠none:=λa o e=>by
  obtain ⟨ob,eb,_⟩:=(r.obs a o e).gY;rw[af eb<|Option.some_ne_none _]
 have thereD:∀a o d,U a=some o->o.dictAt=some d->s.heap.get? d≠none:=λa o d e q=>by
  obtain ⟨es,n,eb⟩:=(r.obs a o e).dP q;rw[af eb<|Option.some_ne_none _]
 have gnone:∀b,s.heap.get? b=none->c.g.get? b=none:=λb hb=>by
  cases q:c.g.get? b with
  |none=>rfl
  |some o=>rw[ak hb<|r.keep _ _ q]
 have fthere:∀b,f7 c b->s.heap.get? b≠none:=λb q=>by
  obtain ⟨_,o,es,n,e,_⟩:=r.newF b q;rw[af e<|Option.some_ne_none _]
 have fr:∀b,f7 (c.deep env) b->b=env.locals\/f7 c b:=λb ⟨e,he,q⟩=>by
  clear hi x Xp hL hC;rcases ek he with rfl|he
  ·rw[hf] at q;rw[.inl (Option.some.inj q).symm]
  ·rw[.inr ⟨e,he,q⟩]
 rw[⟨{gens:=r.gens,os:=r.os,keep:=r'.keep,lo:=⟨m,cm,x.toInCall.ns,x.cell,Xp⟩,obs:=r'.obs,new:=λb q=>?_,newF:=λb q=>?_,apart:=λa o e q=>?_,aG:=λa o d e q=>?_,inj:=r.inj,bE:=λn a e=>?_,bT:=hi},.more hk⟩]
 ·rcases q with q|q|rfl|⟨n,q⟩
  ·rw[r.new b<|.inl q]
  ·rw[r.new b<|.inr<|.inl q]
  ·rw[gnone _ hL]
  ·rw[gnone _<|hC n b q]
 ·rcases fr b q with rfl|q
  ·obtain ⟨o,es,ep,e,hd,_⟩:=x.toInCall.ns;rw[⟨gnone _ hL,o,es,ep,e,hd⟩]
  ·rw[r'.newF b q]
 ·obtain ⟨h1,h2,h3⟩:=r.apart a o e q;rw[⟨λz=>there a o e<|z▸hL,λn z=>there a o e<|hC n a z,λz=>?_⟩];rcases fr a z with z|z
  ·rw[there a o e<|z▸hL]
  ·rw[h3 z]
 ·obtain ⟨h1,h2,h3,h4⟩:=r.aG a o d e q;rw[⟨λz=>thereD a o d e q<|z▸hL,λn z=>thereD a o d e q<|hC n d z,λz=>?_,h4⟩];rcases fr d z with z|z
  ·rw[thereD a o d e q<|z▸hL]
  ·rw[h3 z]
 ·rw[⟨λz=>?_,Nat.ne_of_gt<|x.above n a<|mem_of_lookup e⟩];rcases fr a z with z|z
  ·rw[Nat.ne_of_gt (x.above n a<|mem_of_lookup e) z]
  ·rw[fthere a z<|hC n a e]
theorem R.leave (r:R D.prog D.w c lo U s)(hk:∀b o,s.heap.get? b=some o->RT.heap.get? b=some o)(hs:RT.gens=s.gens/\RT.os=s.os)(hL:s.heap.get? c'.env.locals=none)(hC:∀n a,c'.env.cells.lookup n=some a->s.heap.get? a=none)
 (hF:∀b,f7 c' b->f7 c b\/s.heap.get? b=none) (Zi:∀b,f7 c b->f7 c' b) (hg:c'.g=c.g)
 (r':R D.prog D.w c' WD σ' s') (ho:c'.os=c.os) (st:Step c' U RT σ' s'):R D.prog D.w c lo σ' s'/\Step c U s σ' s':=by
 have own:∀b,Own c' U b->Own c U b\/s.heap.get? b=none:=λb q=>by
  rcases q with q|q|rfl|⟨n,q⟩
  ·rw[.inl<|.inl q]
  ·rw[.inl<|.inr<|.inl q]
  ·rw[.inr hL]
  ·rw[.inr<|hC n b q]
 have kp:iE c U s.heap s'.heap:=λb o e q=>by
  have q':¬Own c' U b:=λz=>by
   rcases own b z with z|z
   ·rw[q z]
   ·rw[ak z e]
  rcases st.keep b o (hk b o e) q' with e'|⟨f,e'⟩
  ·rw[.inl e']
  ·rcases hF b f with f|f
   ·rw[.inr ⟨f,e'⟩]
   ·rw[ak f e]
 have kv:=r.aE kp;have gone:∀b,Own c' σ' b->Own c U b\/s.heap.get? b=none:=λb q=>by
  rcases st.grow b q with z|z
  ·rw[own b z]
  ·cases e:s.heap.get? b with
   |none=>rw[.inr rfl]
   |some o=>rw[ak z<|hk b o e]
 have part:∀b,Own c σ' b->Own c' σ' b\/b=c.env.locals\/∃n,c.env.cells.lookup n=some b:=λb q=>by
  rcases q with q|q|q
  ·rw[.inl<|.inl q]
  ·rw[.inl<|.inr<|.inl q]
  ·rw[.inr q]
 have gr:je c U s.heap σ':=λb q=>by
  rcases part b q with z|z
  ·rw[gone b z]
  ·rw[.inl<|.inr<|.inr z]
 have nL:¬Own c' U c.env.locals/\s.heap.get? c.env.locals≠none:=by
  obtain ⟨m,cm,⟨o,es,ep,e,_⟩,_⟩:=r.lo;rw[⟨λz=>?_,af e<|Option.some_ne_none _⟩];rcases z with ⟨p,ep,hp⟩|⟨a,p,ep,hp⟩|z|⟨n,z⟩
  ·rw[(r.apart _ _ ep hp).1 rfl]
  ·rw[(r.aG _ _ _ ep hp).1 rfl]
  ·rw[<- z] at hL;rw[ak hL e]
  ·have:=hC n _ z;rw[ak this e]
 have nC:∀n a,c.env.cells.lookup n=some a->¬Own c' U a/\s.heap.get? a≠none:=λn a h=>by
  obtain ⟨m,cm,_,VE,_⟩:=r.lo;obtain ⟨o,e,_⟩:=VE n a h;rw[⟨λz=>?_,af e<|Option.some_ne_none _⟩];rcases z with ⟨p,ep,hp⟩|⟨b,p,ep,hp⟩|z|⟨n',z⟩
  ·rw[(r.apart _ _ ep hp).2.1 n h]
  ·rw[(r.aG _ _ _ ep hp).2.1 n h]
  ·rw[<- z] at hL;rw[ak hL e]
  ·have:=hC n' _ z;rw[ak this e]
 have up:∀b,¬Own c' U b->∀ob,s.heap.get? b=some ob->∃sl,s'.heap.get? b=some {ob with slots:=sl}:=λb q ob e=>by
  rcases st.keep b ob (hk b ob e) q with e'|⟨_,sl,e'⟩
  ·rw[⟨ob.slots,e'⟩]
  ·rw[⟨sl,e'⟩]
 have notOwn':∀b,¬Own c' U b->s.heap.get? b≠none->¬Own c' σ' b:=λb q e z=>by
  rcases st.grow b z with z|z
  ·rw[q z]
  ·cases e':s.heap.get? b with
   |none=>rw[e e']
   |some o=>rw[ak z<|hk b o e']
 rw[⟨{gens:=r'.gens,os:=r'.os.trans ho,keep:=λb o e=>r'.keep b o<|hg▸e,lo:=r.lo.stay kv (up _ nL.1) λn a h=>up _ (nC n a h).1,obs:=r'.obs,new:=λb q=>?_,newF:=λb q=>?_,apart:=λa o e q=>?_,aG:=λa o d e q=>?_,inj:=r'.inj,bE:=r.bE,bT:=r.bT},⟨kp,gr,λb o e=>st.dom b o<|hk b o e⟩⟩]
 ·rcases part b q with z|z
  ·rw[hg▸r'.new b z]
  ·rw[r.new b<|.inr<|.inr z]
 ·obtain ⟨a1,a2⟩:=r'.newF b<|Zi b q;rw[⟨hg▸a1,a2⟩]
 ·have z:Own c' σ' a:=.inl ⟨o,e,q⟩;rw[⟨λy=>notOwn' _ nL.1 nL.2<|y▸z,λn y=>notOwn' _ (nC n a y).1 (nC n a y).2 z,λy=>(r'.apart a o e q).2.2 (Zi a y)⟩]
 ·have z:Own c' σ' d:=.inr<|.inl ⟨a,o,e,q⟩;rw[⟨λy=>notOwn' _ nL.1 nL.2<|y▸z,λn y=>notOwn' _ (nC n d y).1 (nC n d y).2 z,λy=>(r'.aG a o d e q).2.2.1 (Zi d y),(r'.aG a o d e q).2.2.2⟩]
end
variable {st:Stmt}
set_option backward.match.sparseCases true
inductive Fl where
 |next|brk|cont
 |ret (v:V)
def Be (h:Heap):Flow->Fl->Prop
 |.next,.next=>True
 |.brk,.brk=>True
 |.cont,.cont=>True
 |.ret v,.ret x=>cz h v x
 |_,_=>False
abbrev ji:=Addr->List (Str×V)->Lo->St->Prop
section
variable (D:cN)
inductive lK (c:Cx)(U:St)(s:Shared)(k:Fl->Lo->St->Prop)(f:Flow)(s':Shared):Prop
 |mk (fl:Fl) (lo':Lo) (σ':St) (r:R D.prog D.w c lo' σ' s') (st:Step c U s σ' s') (e:Be s'.heap f fl) (h:k fl lo' σ')
def xu (c:Cx)(U:St)(s:Shared)(ke:ji)(v:Value)(s':Shared):Prop:=∃lo',EP D c lo' U s (λC a τ=>ke C a lo' τ) v s'
inductive pK (c:Cx)(U:St)(s:Shared)(k:Lo->St->Prop)(s':Shared):Prop
 |mk (lo':Lo) (σ':St) (r:R D.prog D.w c lo' σ' s') (st:Step c U s σ' s') (h:k lo' σ')
variable (n:Nat)
def lO (sc:Scope)(ss:List Stmt)(lo:Lo)(U:St)(k:Fl->Lo->St->Prop)(ke:ji):Prop:=
 ∀c,bK D n c->c.env.scope=sc->∀s,R D.prog D.w c lo U s->wpAny (model D.prog D.w) c.A (execs ss c.env) (lK D c U s k) (xu D c U s ke) s
def eU (sc:Scope)(st:Stmt)(lo:Lo)(U:St)(k:Fl->Lo->St->Prop)(ke:ji):Prop:=
 ∀c,bK D n c->c.env.scope=sc->∀s,R D.prog D.w c lo U s->wpAny (model D.prog D.w) c.A (exec st c.env) (lK D c U s k) (xu D c U s ke) s
def fF (sc:Scope)(t:Expr)(x:V)(lo:Lo)(U:St)(k:Lo->St->Prop)(ke:ji):Prop:=
 ∀c v,bK D n c->c.env.scope=sc->∀s,R D.prog D.w c lo U s->cz s.heap v x->wpAny (model D.prog D.w) c.A (assign t c.env v) (λ_ s'=>pK D c U s k s') (xu D c U s ke) s
def gV (o:V)(name:Str)(x:V)(U:St)(k:St->Prop)(ke:KE):Prop:=
 ∀c lo a v,bK D n c->Tr D qR c lo U [v,a] [x,o] (setAttr a name v) (λ_ τ=>k τ) ke
def r8 (o i:V)(x:V)(U:St)(k:St->Prop)(ke:KE):Prop:=
 ∀c lo a b v,bK D n c->Tr D qR c lo U [v,b,a] [x,i,o] (setItem a b v) (λ_ τ=>k τ) ke
def QY (op:Operator)(x y:V)(U:St)(k:V->St->Prop)(ke:KE):Prop:=
 ∀c lo a b,bK D n c->Tr D cz c lo U [b,a] [y,x] (inplaceOp op a b) k ke
end
noncomputable def Lo.put (x:Str)(v:V):Lo->Lo
 |[]=>[(x,v)]
 |(y,u)::r=>if x==y then (y,v)::r else (y,u)::Lo.put x v r
theorem Lo.iN (x:Str)(v:V):∀(lo:Lo) (z:Str) (u:V),(lo.put x v).lookup z=some u->(z=x/\u=v)\/(z≠x/\lo.lookup z=some u)
 |[],z,u,h=>by
  unfold Lo.put at h;rw[List.lookup_cons] at h
  cases q:z==x with
  |true=>rw[q] at h;(replace h:=sI h;subst h);rw[.inl ⟨eq_of_beq q,rfl⟩]
  |false=>rw[q] at h;rw[aq h]
 |(y,w)::r,z,u,h=>by
  unfold Lo.put at h
  split at h
  ·rename_i e
   have e':=eq_of_beq e;clear e;subst e';rw[List.lookup_cons] at h
   cases q:z==x with
   |true=>rw[q] at h;(replace h:=sI h;subst h);rw[.inl ⟨eq_of_beq q,rfl⟩]
   |false=>rw[q] at h;rw[.inr ⟨λz'=>(beq_eq_false_iff_ne.mp q) z',af List.lookup_cons<|af q h⟩]
  ·rename_i e
   rw[List.lookup_cons] at h
   cases q:z==y with
   |true=>
    rw[q] at h;(replace h:=sI h;subst h);have:=eq_of_beq q;subst this;rw[.inr ⟨λz'=>e ?_,by rw[af List.lookup_cons<|af q rfl]⟩];clear e;subst z';rw[beq_self_eq_true _]
   |false=>
    rw[q] at h;rcases Lo.iN x v r z u h with a|⟨a,b⟩
    ·rw[.inl a]
    ·rw[.inr ⟨a,af List.lookup_cons<|af q b⟩]
section
variable {D:cN}{n:Nat}{k:Fl->Lo->St->Prop}{kl:Lo->St->Prop}{ke:ji} 
theorem xu.step (t:Step c U s RS RT)(h:xu D c RS RT ke v s'):xu D c U s ke v s':=let ⟨lo',e⟩:=h;⟨lo',e.step t⟩
theorem lK.step {f:Flow}(t:Step c U s RS RT)(h:lK D c RS RT k f s'):lK D c U s k f s':=by
 obtain ⟨fl,lo',σ',r,st,e,q⟩:=h;rw[⟨fl,lo',σ',r,t.trans st,e,q⟩]
theorem pK.step (t:Step c U s RS RT)(h:pK D c RS RT kl s'):pK D c U s kl s':=by
 obtain ⟨lo',σ',r,st,q⟩:=h;rw[⟨lo',σ',r,t.trans st,q⟩]
theorem EP.toS (h:EP D c lo U s (λC a τ=>ke C a lo τ) v s'):xu D c U s ke v s':=⟨lo,h⟩
theorem Be.BE {f:Flow}(r:Be h f<|.ret x):∃v,f=.ret v/\cz h v x:=by
 cases f<;>first|exact ⟨_,rfl,r⟩|exact r.elim
@[reducible] def k6 (ke:ji) (lo:Lo):KE:=λC a τ=>ke C a lo τ
@[reducible] def kEx (D:cN) (n:Nat) (sc:Scope) (rest:List Stmt) (k:Fl->Lo->St->Prop) (ke:ji):Fl->Lo->St->Prop:=λfl RY RS=>match fl with|.next=>lO D n sc rest RY RS k ke|f=>k f RY RS
@[reducible] def O8 (k:Fl->Lo->St->Prop) (lo:Lo):V->St->Prop:=λx RS=>k (.ret x) lo RS
@[reducible] def Ng (k:Fl->Lo->St->Prop) (lo:Lo):V->St->Prop:=λ_ RS=>k .next lo RS
@[reducible] def Pw (D:cN) (n:Nat) (sc:Scope) (lo:Lo) (t:Expr) (kl:Lo->St->Prop) (ke:ji):V->St->Prop:=λx RS=>fF D n sc t x lo RS kl ke
@[reducible] def Nf (D:cN) (n:Nat) (Sf:Str) (x:V) (k:St->Prop) (ke:KE):V->St->Prop:=λy RS=>gV D n y Sf x RS k ke
@[reducible] def EJ (D:cN) (n:Nat) (y x:V) (k:St->Prop) (ke:KE):V->St->Prop:=λz RU=>r8 D n y z x RU k ke
@[reducible] def Nd (D:cN) (n:Nat) (sc:Scope) (lo:Lo) (i:Expr) (x:V) (k:St->Prop) (ke:KE):V->St->Prop:=λy RS=>bY D n sc i lo RS (EJ D n y x k ke) ke
@[reducible] def QL (D:cN) (n:Nat) (op:Operator) (x:V) (k:V->St->Prop) (ke:KE):V->St->Prop:=λz RS=>QY D n op x z RS k ke
@[reducible] def O9 (kl:Lo->St->Prop) (lo:Lo) (y:Str):V->St->Prop:=λr τ=>kl (lo.put y r) τ
@[reducible] def Np (D:cN) (n:Nat) (Sf:Str) (y:V) (k:St->Prop) (ke:KE):V->St->Prop:=λr SY=>gV D n y Sf r SY k ke
@[reducible] def Nq (D:cN) (n:Nat) (sc:Scope) (lo:Lo) (Sf:Str) (e:Expr) (op:Operator) (y:V) (k:St->Prop) (ke:KE):V->St->Prop:=λx RU=>bY D n sc e lo RU (QL D n op x (Np D n Sf y k ke) ke) ke
@[reducible] def Pr (D:cN) (n:Nat) (sc:Scope) (lo:Lo) (Sf:Str) (e:Expr) (op:Operator) (k:St->Prop) (ke:KE):V->St->Prop:=λy RS=>vL D n y Sf RS (Nq D n sc lo Sf e op y k ke) ke
@[reducible] def Pc (D:cN) (n:Nat) (sc:Scope) (lo:Lo) (a b:List Stmt) (k:Fl->Lo->St->Prop) (ke:ji):Bool->St->Prop:=λx RS=>if x=true then lO D n sc a lo RS k ke else lO D n sc b lo RS k ke
theorem Av (h:k .next lo U):lO D n sc [] lo U k ke:=λc hc hs s r=>wpAny_execs_nil ⟨.next,lo,U,r,.refl,trivial,h⟩
theorem br {rest:List Stmt}(h:eU D n sc st lo U (kEx D n sc rest k ke) ke):lO D n sc (st::rest) lo U k ke:=λc hc hs s r=>by
 rw[wpAny_execs_cons<|wpAny_mono (h c hc hs s r) (λf RT ⟨fl,RY,RS,RX,t,rf,q⟩=>?_) λ_ _ z=>z]
 cases fl<;>cases f<;>first
  |exact rf.elim
  |exact wpAny_mono (q c hc hs RT RX) (λ_ _ z=>z.step t) λ_ _ z=>z.step t
  |exact ⟨_,RY,RS,RX,t,rf,q⟩
theorem vn (h:eU D n sc st lo U k ke):lO D n sc [st] lo U k ke:=br λc hc hs s r=>wpAny_mono (h c hc hs s r) (λf RT ⟨fl,RY,RS,RX,t,rf,q⟩=>⟨fl,RY,RS,RX,t,rf,by
 clear rf;cases fl<;>first|exact q|exact Av q⟩) λ_ _ z=>z
theorem eU.mono {k':Fl->Lo->St->Prop}{Un:ji}(h:eU D n sc st lo U k ke)(hk:∀f l τ,k f l τ->k' f l τ)(he:∀C a l τ,ke C a l τ->Un C a l τ):eU D n sc st lo U k' Un:=λc hc hs s r=>
 wpAny_mono (h c hc hs s r) (λf RT ⟨fl,RY,RS,RX,t,rf,q⟩=>⟨fl,RY,RS,RX,t,rf,hk _ _ _ q⟩) λv s' ⟨l,e,C,ats,τ,x,y,z,f,q⟩=>⟨l,e,C,ats,τ,x,y,z,f,he _ _ _ _ q⟩
theorem lO.mono {st:List Stmt}{k':Fl->Lo->St->Prop}{Un:ji}(h:lO D n sc st lo U k ke)(hk:∀f l τ,k f l τ->k' f l τ)(he:∀C a l τ,ke C a l τ->Un C a l τ):lO D n sc st lo U k' Un:=λc hc hs s r=>
 wpAny_mono (h c hc hs s r) (λf RT ⟨fl,RY,RS,RX,t,rf,q⟩=>⟨fl,RY,RS,RX,t,rf,hk _ _ _ q⟩) λv s' ⟨l,e,C,ats,τ,x,y,z,f,q⟩=>⟨l,e,C,ats,τ,x,y,z,f,he _ _ _ _ q⟩
theorem Bv (h:k .next lo U):eU D n sc (.Pass pos) lo U k ke:=λc hc hs s r=>wpAny_bind<|wpAny_standAt<|wpAny_pure ⟨.next,lo,U,r,.refl,trivial,h⟩
theorem sM (h:k .cont lo U):eU D n sc (.Continue pos) lo U k ke:=λc hc hs s r=>wpAny_bind<|wpAny_standAt<|wpAny_pure ⟨.cont,lo,U,r,.refl,trivial,h⟩
theorem xE (h:bY D n sc e lo U (O8 k lo)<|k6 ke lo):eU D n sc (.Return (some e) pos) lo U k ke:=λc hc hs s r=>by
 rw[wpAny_Return_some<|wpAny_mono (h c hc hs s r .nil) (by rintro v RT ⟨x,RS,RX,t,i,q⟩;rw[⟨.ret x,lo,RS,RX,t,i,q⟩]) λ_ _ z=>z.toS]
theorem uA (h:k (.ret .none) lo U):eU D n sc (.Return none pos) lo U k ke:=λc hc hs s r=>wpAny_bind<|wpAny_standAt<|wpAny_pure ⟨.ret .none,lo,U,r,.refl,.none,h⟩
theorem Bw (h:bY D n sc e lo U (Ng k lo)<|k6 ke lo)(hw:∀env line,swapsWith e none line env=pure false:=by intros;rfl):eU D n sc (.Expr e pos) lo U k ke:=λc hc hs s r=>by
 have hi:interactive c.env=false:=by unfold interactive;rw[af hc.kind rfl]
 show wpAny _ _ (do
  standAt pos
  if interactive c.env then printExpr (eval e c.env)
  else if <- swapsWith e none pos.line c.env then do evalThenUse e c.env λ_=>point;pure .next
  else do dropValue e pos (<- eval e c.env)) _ _ s
 rw[af hi<|af (hw ..) ?_,wpAny_bind<|wpAny_standAt<|wpAny_bind<|wpAny_pure<|wpAny_bind<|wpAny_mono (h c hc hs s r .nil) (by rintro v RT ⟨x,RS,RX,t,i,q⟩;rw[wpAny_dropValue ⟨.next,lo,RS,RX,t,trivial,q⟩]) λ_ _ z=>z.toS]
theorem xF {t:Expr}(h:bY D n sc e lo U (Pw D n sc lo t (k .next) ke)<|k6 ke lo)
 (hw:∀env line,swapsWith e (some t) line env=pure false:=by intros;rfl) (XS:∀env,swappedStores [t] e env=pure none:=by intros;rfl) (ha:∀env,assignEach [t] env=[(false,assign t env)]:=by intros;rfl):eU D n sc (.Assign [t] e pos) lo U k ke:=λc hc hs s r=>by
 show wpAny _ _ (do
  standAt pos
  if <- swapsWithSole [t] e pos.line c.env then do
   evalThenUse e c.env λv=>assignAll v ((assignEach [t] c.env).map (·.2))
   pure .next
  else do
   let v <- eval e c.env
   assignStores c.env v (<- swappedStores [t] e c.env) ((assignEach [t] c.env).map (·.2))) _ _ s
 erw[show swapsWithSole [t] e pos.line c.env=pure false from hw _ _,XS,ha];rw[wpAny_bind<|wpAny_standAt<|wpAny_bind<|wpAny_pure<|wpAny_bind<|wpAny_mono (h c hc hs s r .nil) (λv RT w9=>?_) λ_ _ z=>z.toS];obtain ⟨x,RS,RX,st,i,q⟩:=w9;rw[wpAny_bind<|wpAny_pure ?_,wpAny_bind<|wpAny_mono (q c v hc hs RT RX i) (by rintro _ RZ ⟨l,τ,R7,Sb,S7⟩;rw[wpAny_pure ⟨.next,l,τ,R7,st.trans Sb,trivial,S7⟩]) λ_ _ z=>z.step st]
theorem iJ {y:Str}(hc:bK D n c)(hk:c.env.kindOf y=some .local\/c.env.kindOf y=some .cell)(r:R D.prog D.w c lo U s)(i:cz s.heap v x):
 wpAny (model D.prog D.w) A (bindName c.env y v) (λ_ s'=>pK D c U s (λl τ=>l=lo.put y x/\τ=U) s') E s:=by
 rw[wpAny_bindName ?_];obtain ⟨m,cm,m1,m2,m3⟩:=id r.lo;rcases hk with hk|hk
 ·rw[wpAny_storeName_local hk m1 (λh' hn hs=>?_)<|af hc.kind rfl];obtain ⟨r',st⟩:=r.bindL (tk:=s.toks+1) i hk ⟨cm,m1,m2,m3⟩ hn hs (lo.put y x) λz u e=>lo.iN y x z u e;rw[⟨_,_,r',st,rfl,rfl⟩]
 ·have hy:c.env.kindOf y=some .cell->_:=λz=>hc.fh y<|.inl z;obtain ⟨a,ha⟩:=Option.isSome_iff_exists.mp<|hy hk;rw[wpAny_storeName_cell hc.kind hk ha (m2 y a ha) λh' hv hs=>?_];have oa:Own c U a:=.inr<|.inr<|.inr ⟨y,ha⟩;have kp:iE c U s.heap h':=λz oz ez q=>.inl<|(hs.2 z λe=>q<|e▸oa).trans ez;have kv:=r.aE kp;have kk:∀z,z≠a->∀ob,s.heap.get? z=some ob->h'.get? z=some ob:=λz hz ob e=>(hs.2 z hz).trans e;have aL:=(r.bE y a ha).2;rw[⟨lo.put y x,U,{gens:=r.gens,os:=r.os,keep:=λz oz ez=>kk z (λe=>?_) _<|r.keep z oz ez,lo:=⟨m,λz=>if z=y then some v else cm z,?_,λz b e=>?_,λz u e=>?_⟩,obs:=λz oz ez=>(r.obs z oz ez).stay kv ?_ ?_,new:=r.new,newF:=λb q=>?_,apart:=r.apart,aG:=r.aG,inj:=r.inj,bE:=r.bE,bT:=r.bT},⟨kp,.refl,λz oz ez=>?_⟩,rfl,rfl⟩]
  ·rw[e,r.new _ oa] at ez;rw[aq ez]
  ·rw[pM m1 λob e=>⟨_,kk _ (Ne.symm aL) _ e⟩]
  ·by_cases q:z=y
   ·clear hk hy;subst q;rw[ha] at e;(obtain rfl:=sI e;clear e);rw[af (if_pos rfl) hv]
   ·show h'.IsCell b (if z=y then some v else cm z);rw[af (if_neg q) ?_];obtain ⟨o,e',hd⟩:=m2 z b e;rw[⟨o,kk b (λw=>q<|r.bT _ _ _ (w▸e) ha) _ e',hd⟩]
  ·clear ha;rcases lo.iN y x z u e with ⟨rfl,rfl⟩|⟨hz,e⟩
   ·rw[⟨v,i.aE kv,.inr ⟨.inl hk,hy hk,if_pos rfl⟩⟩]
   ·obtain ⟨u',a1,b⟩:=m3 z u e;rw[⟨u',a1.aE kv,?_⟩];rcases b with b|⟨b1,b2,b3⟩
    ·rw[.inl b]
    ·rw[.inr ⟨b1,b2,by show (if z=y then some v else cm z)=_;rw[af (if_neg hz) b3]⟩]
  ·intro ob e;rw[kk z (λw=>(r.apart _ _ ez rfl).2.1 y (w▸ha)) _ e]
  ·intro d hd ob e;rw[kk d (λw=>(r.aG _ _ _ ez hd).2.1 y (w▸ha)) _ e]
  ·obtain ⟨h1,o,es,n,e,hd⟩:=r.newF b q;rw[⟨h1,o,es,n,kk b (λw=>(r.bE y a ha).1 (w▸q)) _ e,hd⟩]
  ·by_cases z':z=a
   ·obtain ⟨o',e',_⟩:=hv;rw[⟨o',z'▸e'⟩]
   ·rw[⟨oz,kk z z' _ ez⟩]
theorem pZ (o i':Expr)(pos:Pos)(env:Env)(v:Value):assign (.Subscript o i' pos) env v=(do
 let ov <- holding [v]<|eval o env
 let iv <- holding [v,ov]<|eval i' env
 standAt pos
 holding [v,ov,iv] (setItem ov iv v)
 release (match i' with|.Slice _ _ none _=>[iv,v,ov]|_=>[v,ov,iv]) []):=rfl
theorem pF {y:Str}(hk:sc.names.lookup y=some .local\/sc.names.lookup y=some .cell)(h:kl (lo.put y x) U):fF D n sc (.Name y pos) x lo U kl ke:=λc v hc hs s r i=>by
 rw[af (assign_Name ..) ?_,wpAny_bind<|wpAny_standAt<|wpAny_mono (iJ hc (by unfold Env.kindOf;rw[af hs hk]) r i) (λ_ s' w9=>?_) λ_ _ z=>z];obtain ⟨l,τ,r',st,e1,e2⟩:=w9;subst e1;clear r;subst e2;rw[⟨_,_,r',st,h⟩]
theorem A5 {o:Expr}(h:bY D n sc o lo U (Nf D n Sf x (kl lo)<|k6 ke lo)<|k6 ke lo):fF D n sc (.Attribute o Sf pos) x lo U kl ke:=λc v hc hs s r i=>by
 show wpAny _ _ (do
  let ov <- holding [v]<|eval o c.env
  standAt pos.atName
  holding [v,ov] (setAttr ov Sf v)
  release [v,ov] []) _ _ s
 rw[wpAny_bind<|wpAny_holding<|wpAny_mono (h c hc hs s r .nil) (λov RT w9=>?_) λ_ _ z=>z.toS];obtain ⟨y,RS,RX,t,j,q⟩:=w9;rw[wpAny_bind<|wpAny_standAt<|wpAny_bind<|wpAny_holding<|wpAny_mono (q c lo ov v hc RT RX<|.cons (i.aE<|r.aE t.keep)<|.cons j .nil) (λ_ RZ ⟨_,RU,R7,t₂,_,S7⟩=>wpAny_release' ⟨lo,RU,R7,t.trans t₂,S7⟩) λ_ _ z=>(z.step t).toS]
theorem CR {o i':Expr}(h:bY D n sc o lo U (Nd D n sc lo i' x (kl lo)<|k6 ke lo)<|k6 ke lo):fF D n sc (.Subscript o i' pos) x lo U kl ke:=λc v hc hs s r i=>by
 rw[af (pZ ..) ?_,wpAny_bind<|wpAny_holding<|wpAny_mono (h c hc hs s r .nil) (λov RT w9=>?_) λ_ _ z=>z.toS];obtain ⟨y,RS,RX,t,j,q⟩:=w9;rw[wpAny_bind<|wpAny_holding<|wpAny_mono (q c hc hs RT RX .nil) (λiv RZ ⟨z,RU,R7,t₂,j₂,S7⟩=>?_) λ_ _ z=>(z.step t).toS,wpAny_bind<|wpAny_standAt<|wpAny_bind<|wpAny_holding<|wpAny_mono (S7 c lo ov iv v hc RZ R7<|.cons (i.aE<|r.aE (t.trans t₂).keep)<|.cons j₂<|.cons (j.aE<|RX.aE t₂.keep) .nil) (by rintro _ R8 ⟨_,R1,So,UO,_,Ww⟩;rw[wpAny_release' ⟨lo,R1,So,(t.trans t₂).trans UO,Ww⟩]) λ_ _ z=>(z.step<|t.trans t₂).toS]
theorem mJ {y:Str}{p:Pos}(hx:lo.lookup y=some x)(hk:sc.names.lookup y=some .local\/sc.names.lookup y=some .cell)
 (h:bY D n sc e lo U (QL D n op x (O9 (k .next) lo y)<|k6 ke lo)<|k6 ke lo):eU D n sc (.AugAssign (.Name y p) op e pos) lo U k ke:=λc hc hs s r=>by
 show wpAny _ _ (do
  standAt p
  let old <- loadName c.env y
  let v <- holding [old]<|eval e c.env
  standAt pos
  let new <- operate [old,v]<|inplaceOp op old v
  standAt p
  bindName c.env y new
  pure Flow.next) _ _ s
 right;obtain ⟨m,cm,m1,m2,m3⟩:=id r.lo;obtain ⟨v',iv,q⟩:=m3 y x hx;symm;have hk':c.env.kindOf y=some .local\/c.env.kindOf y=some .cell:=by unfold Env.kindOf;rw[af hs hk]
 have main:wpAny (model D.prog D.w) c.A (do
  let v <- holding [v']<|eval e c.env
  standAt pos
  let new <- operate [v',v]<|inplaceOp op v' v
  standAt p
  bindName c.env y new
  pure Flow.next) (lK D c U s k) (xu D c U s ke) s:=by
  rw[wpAny_bind<|wpAny_holding<|wpAny_mono (h c hc hs s r .nil) (λv RT w9=>?_) λ_ _ z=>z.toS];obtain ⟨z,RS,RX,t,j,q⟩:=w9;rw[wpAny_bind<|wpAny_standAt<|wpAny_bind<|wpAny_operate'<|wpAny_mono (q c lo v' v hc RT RX<|.cons j<|.cons (iv.aE<|r.aE t.keep) .nil) (λw RZ ⟨u,RU,R7,t₂,j₂,S7⟩=>?_) λ_ _ z=>(z.step t).toS,wpAny_bind<|wpAny_standAt<|wpAny_bind<|wpAny_mono (iJ hc hk' R7 j₂) (λ_ s' w9=>?_) λ_ _ z=>z];obtain ⟨l,τ,r',st,e1,e2⟩:=w9;subst e1;clear R7;subst e2;rw[wpAny_pure ⟨.next,_,_,r',(t.trans t₂).trans st,trivial,S7⟩]
 rw[wpAny_bind<|wpAny_standAt<|wpAny_bind ?_];rcases q with ⟨hk,e⟩|⟨hk,hi,e⟩
 ·rw[wpAny_loadName_local hc.kind hk m1 e main]
 ·obtain ⟨a,ha⟩:=Option.isSome_iff_exists.mp hi;have ce:=m2 y a ha;rw[e] at ce;rcases hk with hk|hk
  ·rw[wpAny_loadName_cell hc.kind hk ha ce main]
  ·exfalso;rcases hk' with z|z<;>rw[hk] at z<;>rw[bU NameKind.ctorIdx (sI z) rfl]
theorem sN {o:Expr}{p:Pos}
 (h:bY D n sc o lo U (Pr D n sc lo Sf e op (k .next lo)<|k6 ke lo)<|k6 ke lo):
 eU D n sc (.AugAssign (.Attribute o Sf p) op e pos) lo U k ke:=λc hc hs s r=>by
 rw[wpAny_AugAssign_AttributeAny ?_,wpAny_mono (h c hc hs s r .nil) (λov RT w9=>?_) λ_ _ z=>z.toS];obtain ⟨y,RS,RX,SX,XK,q⟩:=w9;rw[wpAny_mono (q c lo ov hc RT RX<|.cons XK .nil) (λold RZ ⟨x,RU,R7,t₂,Vt,q⟩=>?_) λ_ _ z=>(z.step SX).toS];have t12:=SX.trans t₂;rw[wpAny_mono (q c hc hs RZ R7 .nil) (λv R8 w9=>?_) λ_ _ z=>(z.step t12).toS];obtain ⟨z,R1,So,UO,Vs,q⟩:=w9;have t123:=t12.trans UO;rw[wpAny_mono (q c lo old v hc R8 So<|.cons Vs<|.cons (Vt.aE<|R7.aE UO.keep) .nil) (λnw Sz w9=>?_) λ_ _ z=>(z.step t123).toS];obtain ⟨u,SY,Tg,Wu,WE,q⟩:=w9;rw[wpAny_mono (q c lo ov nw hc Sz Tg<|.cons WE<|.cons (XK.aE<|RX.aE ((t₂.trans UO).trans Wu).keep) .nil) (λ_ SR ⟨_,SN,TF,t₅,_,q⟩=>⟨.next,lo,SN,TF,(t123.trans Wu).trans t₅,trivial,q⟩) λ_ _ z=>(z.step<|t123.trans Wu).toS]
theorem zc {t:Expr}{a b:List Stmt}(h:kI D n sc t lo U (Pc D n sc lo a b k ke)<|k6 ke lo):eU D n sc (.If t a b pos) lo U k ke:=λc hc hs s r=>by
 rw[wpAny_If<|wpAny_mono (h c hc hs s r .nil) (λx RT ⟨y,RS,RX,st,e,q⟩=>?_) λ_ _ z=>z.toS]
 cases e
 cases x with
 |true=>rw[wpAny_mono (q c hc hs RT RX) (λ_ _ z=>z.step st) λ_ _ z=>z.step st]
 |false=>rw[wpAny_mono (q c hc hs RT RX) (λ_ _ z=>z.step st) λ_ _ z=>z.step st]
def xg:KE:=λ_ _ _=>False
def gF:ji:=λ_ _ _ _=>False
theorem EP.no (h:EP D c lo U s xg v s'):False:=let ⟨_,_,_,_,_,_,_,_,z⟩:=h;z
theorem xu.no (h:xu D c U s gF v s'):False:=let ⟨_,_,_,_,_,_,_,_,_,z⟩:=h;z
@[reducible] def Nb (I:Nat->Lo->St->Prop) (m:Nat) (k:Fl->Lo->St->Prop):Fl->Lo->St->Prop:=λf Ua RU=>match f with
 |.next|.cont=>∃m' Sw R1,m'<m/\Sw.le Ua/\R1.le RU/\I m' Sw R1
 |.brk=>k .next Ua RU
 |.ret v=>k (.ret v) Ua RU
@[reducible] def EH (D:cN) (n:Nat) (sc:Scope) (lo:Lo) (body:List Stmt) (I:Nat->Lo->St->Prop) (m:Nat) (k:Fl->Lo->St->Prop):Bool->St->Prop:=λb RS=>if b=true then lO D n sc body lo RS (Nb I m k) gF else k .next lo RS
inductive RB (D:cN)(c:Cx)(U:St)(s:Shared)(I:Nat->Lo->St->Prop)(m:Nat)(RT:Shared):Prop
 |mk (RY:Lo) (RS:St) (r:R D.prog D.w c RY RS RT) (st:Step c U s RS RT) (h:I m RY RS)
theorem sL {t:Expr}{body:List Stmt}(I:Nat->Lo->St->Prop)(m:Nat)(h0:I m lo U)
 (turn:∀m lo U,I m lo U->kI D n sc t lo U (EH D n sc lo body I m k) xg):eU D n sc (.While t body [] pos) lo U k ke:=λc hc hs s r=>by
 rw[wpAny_While<|codeAny_whileLoop (RB D c U s I) (λm RT w9=>?_) m ⟨lo,U,r,.refl,h0⟩];obtain ⟨RY,RS,RX,SX,hI⟩:=w9;rw[wpAny_mono (turn m RY RS hI c hc hs RT RX .nil) (λb RZ ⟨b',RU,R7,t₂,e,q⟩=>?_) λ_ _ z=>z.no.elim]
 cases e
 cases b with
 |false=>rw[wpAny_execs_nil ⟨.next,RY,RU,R7,SX.trans t₂,trivial,q⟩]
 |true=>
  rw[wpAny_mono (q c hc hs RZ R7) (λf R8 w9=>?_) λ_ _ z=>z.no.elim];obtain ⟨fl,Sw,R1,So,UO,rf,q⟩:=w9;have tt:=(SX.trans t₂).trans UO
  cases fl<;>cases f<;>first
   |exact rf.elim
   |(obtain ⟨m',TM,SY,a1,a2,a3,a4⟩:=q;exact ⟨m',a1,TM,SY,(So.le a3).Ce a2,tt.le a3,a4⟩)
   |exact ⟨.next,Sw,R1,So,tt,trivial,q⟩
   |exact ⟨.ret _,Sw,R1,So,tt,rf,q⟩
end
set_option backward.match.sparseCases false
variable {C:Addr}{X:Addr->Prop}{ats:List<|Str×V}{fs:List Addr}{outer:List Env}{oe:Obj}{Sk:Shared}{Tp:St}{a0 fl tb:Value}
inductive pO (h:Heap)(e C d:Addr)(tb:Value):Prop
 |mk (oe:Obj) (ws:Array Value) (a0:Value) (x1:h.get? e=some oe) (x2:oe.cls=.ref C) (x3:oe.dict=some d) (x4:oe.data=.fields ws) (x5:ws[0]?=some a0) (x6:ws[1]?=some tb)
inductive pJ (h:Heap)(e:Addr)(tb fl:Value):Prop
 |mk (T:Addr) (oT:Obj) (ts:Array Value) (x1:tb=.ref T) (x2:T≠e) (x3:h.get? T=some oT) (x4:oT.cls=.type "traceback") (x5:oT.data=.fields ts) (x6:ts[3]?=some fl)
structure Bg (fs:List Addr)(e:Addr)(tb:Value)(h h':Heap):Prop where
 same:∀b o,b≠e->tb≠ .ref b->b∉fs->h.get? b=some o->h'.get? b=some o
 slots:∀b o,b∈fs->h.get? b=some o->∃sl,h'.get? b=some {o with slots:=sl}
 dom:∀b o,h.get? b=some o->∃o',h'.get? b=some o'
section
variable {e d:Addr}{Q:Unit->Shared->Prop}
theorem qC {head:Value}{V7:Bool}(UE:A.frames=some (env::outer))(hl:s.heap.FunFrames {} (env::outer))(hf:env.frame=some L)(he:pO s.heap e C d tb)
 (h:∀h' T,pO h' e C d (.ref T)->s.heap.get? T=none->pJ h' e (.ref T) (rawInt L)->Bg ((env::outer).filterMap (·.frame)) e .none s.heap h'->Q () {s with heap:=h'}):
 wpAny M A (do let a <- frameOf env;let pl <- entryPlaceOf L V7;let b <- EntryCells.newEntry head a .none (rawInt L) .none pl;setField (.ref e) 1 b) Q E s:=by
 obtain ⟨oe,ws,a0,he,hc,Xr,hd,h0,h1⟩:=he;have Ve:1<ws.size:=(Array.getElem?_eq_some_iff.mp h1).1;have hene:e∉(env::outer).filterMap (·.frame):=λhm=>by
  obtain ⟨_,o,ho,WI⟩:=hl.mem hm;rw[he] at ho;injection ho with ho;subst ho;rw[WI ws hd]
 rw[wpAny_bind<|wpAny_frameOf_fun UE hl hf λSg UB=>?_,wpAny_bind<|wpAny_entryPlaceOf λpl Uv=>?_,wpAny_bind<|wpAny_newObj_type ?_<|Uv.sizeOk5 _ _ _ _ _];have he₁:Sg.get? e=some oe:=(UB.2.1 e hene).trans he;have Uq:=Heap.get?_push_of_some (h:=Sg) {cls:=.type "traceback",dict:=none,data:=.fields ([head,.ref L,.none,rawInt L,.none]++(if pl.isEmpty then List.replicate 6 Value.none else pl)).toArray} he₁;rw[wpAny_setField Uq hd Ve<|h _ Sg.objs.size ?_ ?_ ?_ ?_]
 all_goals
  have hTe:Sg.objs.size≠e:=Nat.ne_of_gt<|Heap.lt_size he₁;have hd₃:=Obj.data_mapFields hd (·.setIfInBounds 1 (Value.ref Sg.objs.size));have he₃:=Heap.get?_update_self (Obj.mapFields (·.setIfInBounds 1 (Value.ref Sg.objs.size))) Uq<|Obj.isFreed_of_fields hd₃;have hT₃:=(Heap.get?_update_other (Sg.push {cls:=.type "traceback",dict:=none,data:=.fields ([head,.ref L,.none,rawInt L,.none]++(if pl.isEmpty then List.replicate 6 Value.none else pl)).toArray})
   (Obj.mapFields (·.setIfInBounds 1 (Value.ref Sg.objs.size))) (Ne.symm hTe)).trans (Heap.get?_push_size Sg rfl)
  have keep:∀b o,b≠e->Sg.get? b=some o->
   ((Sg.push {cls:=.type "traceback",dict:=none,data:=.fields ([head,.ref L,.none,rawInt L,.none]++(if pl.isEmpty then List.replicate 6 Value.none else pl)).toArray}).update e (Obj.mapFields (·.setIfInBounds 1 (Value.ref Sg.objs.size)))).get? b=some o:=
   λb o Zg hb=>by
    rw[af (Heap.get?_update_other _ _<|Ne.symm Zg) ?_,Heap.get?_push_of_some _ hb]
 ·rw[⟨_,_,a0,he₃,?_,?_,hd₃,?_,by simp [Ve]⟩]
  ·obtain ⟨c1,d1,dt,sl⟩:=oe;dsimp only at hd;clear he Xr he₁ Uq hd₃ he₃;subst hd;rw[hc]
  ·obtain ⟨c1,d1,dt,sl⟩:=oe;dsimp only at hd;clear hc;subst hd;rw[Xr]
  ·rw[af (Array.getElem?_setIfInBounds_ne ac) ?_,h0]
 ·cases q:s.heap.get? Sg.objs.size with
  |none=>rfl
  |some o=>
   have:=Heap.lt_size q;rw[UB.1] at this;rw[absurd this<|Nat.lt_irrefl _]
 ·rw[⟨_,_,_,rfl,hTe,hT₃,rfl,rfl,by first|(rfl;done)|(rcases Uv with rfl|⟨_,_,_,_,_,_,_,rfl⟩<;>simp)⟩]
 ·rw[⟨λb o Zg _ Zf hb=>keep b o Zg<|(UB.2.1 b Zf).trans hb,λb o Zf hb=>?_,λb o hb=>?_⟩]
  ·obtain ⟨sl,hs⟩:=UB.2.2 b o hb;rw[⟨sl,keep b _ (λz=>hene<|z▸Zf) hs⟩]
  ·by_cases z:b=e
   ·clear h he hene he₁ Uq hTe hT₃ keep;subst z;rw[⟨_,he₃⟩]
   ·obtain ⟨sl,hs⟩:=UB.2.2 b o hb;rw[⟨_,keep b _ z hs⟩]
theorem sV (UE:A.frames=some (env::outer))(hl:s.heap.FunFrames {} (env::outer))(hf:env.frame=some L)(he:pO s.heap e C d tb)(ht:tb=.none\/pJ s.heap e tb .none)
 (h:∀h' T,pO h' e C d (.ref T)->s.heap.get? T=none->pJ h' e (.ref T) (rawInt L)->Bg ((env::outer).filterMap (·.frame)) e tb s.heap h'->Q () {s with heap:=h'}):
 wpAny M A (noteFrame (.ref e) env) Q E s:=by
 obtain ⟨oe,ws,a0,e1,e2,e3,e4,e5,e6⟩:=id he;unfold noteFrame;simp only [hf];rw[wpAny_bind<|wpAny_field e1 e4 e6 ?_];rcases ht with rfl|⟨T,oT,ts,rfl,t1,t2,t3,t4,t5⟩
 ·rw[af (if_neg ac)<|qC UE hl hf he λh' T x1 x2 x3 x4=>h h' T x1 x2 x3 ⟨λb o p _=>x4.same b o p<|by assumption,x4.slots,x4.dom⟩]
 ·erw[if_pos<|show (Value.ref T !=Value.none)=true from by rfl];rw[wpAny_bind<|wpAny_field t2 t4 t5 ?_,af (if_neg<|show ¬((Value.none==rawInt L)=true) from by simp [rawInt]) ?_,wpAny_bind<|wpAny_setField t2 t4 (Array.getElem?_eq_some_iff.mp t5).1 ?_];have other:∀b,b≠T->(s.heap.update T (Obj.mapFields (·.setIfInBounds 3 Value.none))).get? b=s.heap.get? b:=λb hb=>Heap.get?_update_other _ _<|Ne.symm hb;have noRecord:∀b o,s.heap.get? b=some o->(∀vs,o.data≠ .fields vs)->b≠T:=λb o hb WI q=>by
   rw[q,t2] at hb;injection hb with hb;subst hb;rw[WI ts t4]
  have hTs:(s.heap.update T (Obj.mapFields (·.setIfInBounds 3 Value.none))).get? T=some (Obj.mapFields (·.setIfInBounds 3 Value.none) oT):=Heap.get?_update_self _ t2<|Obj.isFreed_of_fields<|Obj.data_mapFields t4 _;refine qC (s:={s with heap:=s.heap.update T (Obj.mapFields (·.setIfInBounds 3 Value.none))}) UE (hl.of_keeps λb o hb WI=>⟨o,(other b<|noRecord b o hb WI).trans hb,rfl⟩) hf
   (tb:=.ref T) ⟨oe,ws,a0,(other e<|Ne.symm t1).trans e1,e2,e3,e4,e5,e6⟩ λh' T' x1 x2 x3 x4=>h h' T' x1 ?_ x3 ⟨λb o p q f hb=>?_,λb o f hb=>?_,λb o hb=>?_⟩
  ·by_cases z:T'=T
   ·clear t1 t2 he h e6 other noRecord x4;subst z;rw[ak x2 hTs]
   ·rw[(other T' z).symm.trans x2]
  ·rw[x4.same b o p (by simp) f<|(other b λz=>q<|by rw[af z rfl]).trans hb]
  ·rw[x4.slots b o f<|(other b λz=>?_).trans hb];obtain ⟨_,o',Yt,WI⟩:=hl.mem f;rw[z,t2] at Yt;(obtain rfl:=sI Yt;clear Yt);rw[WI ts t4]
  ·by_cases z:b=T
   ·clear t1 t2 he h e6 other noRecord x2;subst z;rw[x4.dom _ _ hTs]
   ·rw[x4.dom b o<|(other b z).trans hb]
theorem oN (he:pO s.heap e C d tb)(ht:pJ s.heap e tb fl)
 (h:∀h',pO h' e C d tb->pJ h' e tb .none->(∀b o,tb≠ .ref b->s.heap.get? b=some o->h'.get? b=some o)->(∀b o,s.heap.get? b=some o->∃o',h'.get? b=some o')->Q () {s with heap:=h'}):wpAny M A (setFlight (.ref e) none) Q E s:=by
 right;obtain ⟨oe,ws,a0,e1,e2,e3,e4,e5,e6⟩:=he;obtain ⟨T,oT,ts,rfl,t1,t2,t3,t4,t5⟩:=ht;have hsz3:3<ts.size:=(Array.getElem?_eq_some_iff.mp t5).1;symm;rw[wpAny_bind<|wpAny_field e1 e4 e6 ?_];erw[if_pos<|show (Value.ref T !=Value.none)=true from by rfl];have other:∀b,b≠T->(s.heap.update T (Obj.mapFields (·.setIfInBounds 3 ((none:Option Addr).elim Value.none λf=>rawInt f)))).get? b=s.heap.get? b:=λb hb=>Heap.get?_update_other _ _<|Ne.symm hb;have hTs:(s.heap.update T (Obj.mapFields (·.setIfInBounds 3 ((none:Option Addr).elim Value.none λf=>rawInt f)))).get? T=_:=Heap.get?_update_self _ t2<|Obj.isFreed_of_fields<|Obj.data_mapFields t4 _;rw[wpAny_setField t2 t4 hsz3<|h _ ⟨oe,ws,a0,(other e<|Ne.symm t1).trans e1,e2,e3,e4,e5,e6⟩ ⟨T,_,_,rfl,t1,hTs,?_,Obj.data_mapFields t4 _,by simp [hsz3]⟩ (λb o hb e=>(other b λz=>hb<|by rw[af z rfl]).trans e) λb o e=>?_]
 ·obtain ⟨c1,d1,dt,sl⟩:=oT;dsimp only at t4;clear t2 hTs;subst t4;rw[t3]
 ·by_cases z:b=T
  ·clear t1 h e6 other;subst z;rw[⟨_,hTs⟩]
  ·rw[⟨o,(other b z).trans e⟩]
end
section
theorem iW (r:R D.prog D.w c lo U s):∀{l:List Env},(∀e∈l,e∈c.mV)->(∀e∈l,e.scope.kind≠ .module)->(∀e∈l,∃b,e.frame=some b)->s.heap.FunFrames {} l
 |[],_,_,_=>trivial
 |e::l,h1,h2,h3=>by
  obtain ⟨b,hb⟩:=h3 e<|.head _;obtain ⟨_,o,es,n,eo,hd⟩:=r.newF b ⟨e,h1 e<|.head _,hb⟩;have none0:({}:Heap).get? b=none:=cG<|Nat.zero_le _;rw[⟨h2 e<|.head _,⟨b,o,hb,none0,eo,λvs q=>by rw[hd] at q;rw[bU Data.ctorIdx q rfl]⟩,iW r (λe he=>h1 e<|.tail _ he) (λe he=>h2 e<|.tail _ he) λe he=>h3 e<|.tail _ he⟩]
theorem R.noted (r:R D.prog D.w c lo U s)(same:∀b o,¬X b->¬f7 c b->s.heap.get? b=some o->h'.get? b=some o)(slots:∀b o,f7 c b->s.heap.get? b=some o->∃sl,h'.get? b=some {o with slots:=sl})
 (hX:∀b,X b->¬Own c U b/\¬f7 c b/\c.g.get? b=none/\∀o,s.heap.get? b=some o->¬dW o):R D.prog D.w c lo U {s with heap:=h'}/\dM s.heap h':=by
 have gI:∀b o,s.heap.get? b=some o->dW o->¬f7 c b:=λb o e q f=>by
  obtain ⟨_,o',es,n,e',hd⟩:=r.newF b f;rw[e] at e';(obtain rfl:=sI e';clear e');rcases q with ⟨_,vs,m,q⟩|⟨_,ws,q⟩<;>rw[hd] at q<;>rw[bU Data.ctorIdx q rfl]
 have kv:dM s.heap h':=λb o e q=>same b o (λx=>(hX b x).2.2.2 o e q) (gI b o e q) e;rw[⟨{gens:=r.gens,os:=r.os,keep:=λb o e=>same b o (λx=>by rw[ak ((hX b x).2.2.1) e]) (λf=>by rw[ak ((r.newF b f).1) e])<|r.keep b o e,lo:=r.lo.stay kv (λob e=>?_) λn a hn ob e=>?_,obs:=λa o e=>(r.obs a o e).stay kv (λob eo=>?_) λd hd ob eo=>?_,new:=r.new,newF:=λb q=>?_,apart:=r.apart,aG:=r.aG,inj:=r.inj,bE:=r.bE,bT:=r.bT},kv⟩]
 ·by_cases f:f7 c c.env.locals
  ·rw[slots _ _ f e]
  ·rw[⟨ob.slots,same _ _ (λx=>(hX _ x).1 (.inr<|.inr<|.inl rfl)) f e⟩]
 ·rw[⟨ob.slots,same _ _ (λx=>(hX _ x).1 (.inr<|.inr<|.inr ⟨n,hn⟩)) (r.bE n a hn).1 e⟩]
 ·rw[same _ _ (λx=>(hX _ x).1 (.inl ⟨o,e,rfl⟩)) (r.apart a o e rfl).2.2 eo]
 ·rw[same _ _ (λx=>(hX _ x).1 (.inr<|.inl ⟨a,o,e,hd⟩)) (r.aG a o d e hd).2.2.1 eo]
 ·obtain ⟨h1,o,es,n,e,hd⟩:=r.newF b q;obtain ⟨sl,e'⟩:=slots b o q e;rw[⟨h1,_,es,n,e',hd⟩]
theorem Step.noted (st:Step c Tp Sk U s)(same:∀b o,¬X b->¬f7 c b->s.heap.get? b=some o->h'.get? b=some o)(slots:∀b o,f7 c b->s.heap.get? b=some o->∃sl,h'.get? b=some {o with slots:=sl})
 (hX:∀b,X b->Sk.heap.get? b=Option.none):Step c Tp Sk U {s with heap:=h'}:=by
 rw[⟨λb o e q=>?_,st.grow,λb o e=>?_⟩]
 ·have nx:¬X b:=λx=>by rw[ak (hX b x) e]
  rcases st.keep b o e q with e'|⟨f,sl,e'⟩
  ·by_cases f:f7 c b
   ·rw[.inr ⟨f,slots b o f e'⟩]
   ·rw[.inl<|same b o nx f e']
  ·obtain ⟨XE,UY⟩:=slots b _ f e';rw[.inr ⟨f,XE,UY⟩]
 ·obtain ⟨o',e'⟩:=st.dom b o e
  by_cases f:f7 c b
  ·obtain ⟨sl,UY⟩:=slots b o' f e';rw[⟨_,UY⟩]
  ·rw[⟨o',same b o' (λx=>by rw[ak (hX b x) e]) f e'⟩]
theorem wN {e d:Addr}{ws:Array Value}(x1:h.get? e=some oe)(x2:oe.cls=.ref C)(x3:oe.dict=some d)(x4:oe.data=.fields ws)(x5:ws[0]?=some a0)(x6:ws[1]?=some tb):pO h e C d tb:=⟨oe,ws,a0,x1,x2,x3,x4,x5,x6⟩
theorem pO.kind {e d:Addr}(x:pO h e C d tb):∀o,h.get? e=some o->¬dW o:=λo e'=>by
 obtain ⟨oe,ws,a0,e1,e2,e3,e4,_⟩:=x;rw[e1] at e';(obtain rfl:=sI e';clear e');rintro (⟨q,_⟩|⟨q,_⟩)<;>rw[e2] at q<;>rw[bU Value.ctorIdx q rfl]
theorem pJ.kind {e:Addr}(x:pJ h e tb fl):∀b,tb=.ref b->∀o,h.get? b=some o->¬dW o:=λb hb o e'=>by
 obtain ⟨T,oT,ts,rfl,t1,t2,t3,t4,t5⟩:=x;clear t1;cases hb;rw[t2] at e';(obtain rfl:=sI e';clear e');rintro (⟨q,_⟩|⟨q,_⟩)<;>rw[t3] at q<;>simp at q
theorem fQ {e d:Addr}(r:R D.prog D.w c lo U s)(U4:∀b,b∈fs↔f7 c b)(st:Step c Tp Sk U s)(he:pO s.heap e C d tb)(Wh:tb=.none\/∃fl,pJ s.heap e tb fl)
 (hes:yC s.heap d ats) (ae:gG c Sk.heap U e) (ad:gG c Sk.heap U d) (Wn:∀T,tb=.ref T->gG c Sk.heap U T) (TJ:d≠e) (UM:tb≠ .ref d) (kg:∀b o,c.g.get? b=some o->Sk.heap.get? b=some o)
 (N:Bg fs e tb s.heap h'):R D.prog D.w c lo U {s with heap:=h'}/\Step c Tp Sk U {s with heap:=h'}/\yC h' d ats:=by
 have same:∀b o,¬(b=e\/tb=.ref b)->¬f7 c b->s.heap.get? b=some o->h'.get? b=some o:=λb o x f eb=>N.same b o (λz=>x<|.inl z) (λz=>x<|.inr z) (λz=>f<|(U4 b).mp z) eb;have slots:∀b o,f7 c b->s.heap.get? b=some o->∃sl,h'.get? b=some {o with slots:=sl}:=λb o f eb=>N.slots b o ((U4 b).mpr f) eb;have gn:∀b,Sk.heap.get? b=none->c.g.get? b=none:=λb hb=>by
  cases q:c.g.get? b with
  |none=>rfl
  |some o=>rw[ak hb<|kg b o q]
 obtain ⟨r',kv⟩:=r.noted (X:=λb=>b=e\/tb=.ref b) same slots λb x=>by
  clear TJ N same;rcases x with rfl|x
  ·rw[⟨ae.2.1,ae.2.2,gn _ ae.1,he.kind⟩]
  ·have a:=Wn b x;rw[⟨a.2.1,a.2.2,gn _ a.1,?_⟩];rcases Wh with z|⟨fl,z⟩
   ·rw[z] at x;rw[bU Value.ctorIdx x rfl]
   ·rw[z.kind b x]
 rw[⟨r',st.noted (X:=λb=>b=e\/tb=.ref b) same slots λb x=>?_,?_⟩]
 ·clear he Wh TJ N same;rcases x with rfl|x
  ·rw[ae.1]
  ·rw[(Wn b x).1]
 ·obtain ⟨es,n,e1,e2⟩:=hes;rw[⟨es,n,same d _ (λx=>?_) ad.2.2 e1,e2.aE kv⟩];rcases x with z|z
  ·rw[TJ z]
  ·rw[UM z]
theorem xZ (hc:bK D (n+1) c)(UW:bK D n<|c.deep env)(hf:env.frame=some env.locals)(r:R D.prog D.w c lo U s)(hk:∀b o,s.heap.get? b=some o->RT.heap.get? b=some o)(hs:RT.gens=s.gens/\RT.os=s.os)(hL:s.heap.get? env.locals=none)
 (hC:∀n a,env.cells.lookup n=some a->s.heap.get? a=none) (x:xu D (c.deep env) U RT (λC a _ τ=>ke C a τ) v s'):
 wpAny (model D.prog D.w) (c.A.deeper env) (leaving env v) (λ_ VM=>EP D c lo U s ke v VM) (λ_ _=>False) s':=by
 right;obtain ⟨lo',e,C,ats,σ',rfl,r',st,⟨oe,ws,d,tb,a0,es,n',x1,x2,x3,x4,x5,x6,x7,x8,ae,ad,tbc⟩,q⟩:=x;have he:=wN x1 x2 x3 x4 x5 x6;have Wh:tb=.none\/pJ s'.heap e tb .none:=by
  rcases tbc with z|⟨T,oT,ts,y1,y2,y3,y4,y5,y6,y7⟩
  ·rw[.inl z]
  ·rw[.inr ⟨T,oT,ts,y1,y2,y4,y5,y6,y7⟩]
 have hat:∀T,tb=.ref T->gG (c.deep env) RT.heap σ' T:=λT hT=>by
  rcases tbc with z|⟨T',oT,ts,y1,y2,y3,_⟩
  ·rw[z] at hT;rw[bU Value.ctorIdx hT rfl]
  ·rw[y1] at hT;clear y1 y2;cases hT;rw[y3]
 have TJ:d≠e:=λz=>by
  rw[z,x1] at x7;(clear x1 x2 x3;obtain rfl:=sI x7;clear x7);rw[bU Data.ctorIdx x4 rfl]
 have UM:tb≠ .ref d:=λz=>by
  rcases tbc with z'|⟨T,oT,ts,y1,y2,y3,y4,y5,y6,y7⟩
  ·rw[z'] at z;rw[bU Value.ctorIdx z rfl]
  ·rw[y1] at z;clear y1 y2 y3;cases z;rw[x7] at y4;(clear y5;obtain rfl:=sI y4;clear y4);rw[bU Data.ctorIdx y6 rfl]
 have kg:∀b o,(c.deep env).g.get? b=some o->RT.heap.get? b=some o:=λb o e=>hk b o<|r.keep b o e;have hFF:=iW (l:=env::c.mV) r' (λ_ h=>h) UW.Ai UW.frs;have U4:∀b,b∈(env::c.mV).filterMap (·.frame)↔f7 (c.deep env) b:=λb=>by
  rw[af (propext List.mem_filterMap) ?_];rfl
 symm;rw[wpAny_bind<|sV UW.fr hFF hf he Wh λSi T f1 f2 f3 N=>?_];right;obtain ⟨R7,Sb,VI,Vq,WZ,Vt⟩:=fQ r' U4 st he (Wh.imp id λz=>⟨_,z⟩) ⟨es,n',x7,x8⟩ ae ad hat TJ UM kg N;symm;rw[oN (s:={s' with heap:=Si}) f1 f3 λTh g1 g2 g3 g4=>?_];right;have none₁:∀b,s'.heap.get? b=none->RT.heap.get? b=none:=λb hb=>st.none hb;have there:∀b,Own (c.deep env) σ' b->s'.heap.get? b≠none:=λb q=>by
  rcases q with ⟨o,eo,_⟩|⟨a,o,eo,hd⟩|rfl|⟨m,hm⟩
  ·obtain ⟨ob,eb,_⟩:=(r'.obs _ _ eo).gY;rw[af eb<|Option.some_ne_none _]
  ·obtain ⟨es,n,eb⟩:=(r'.obs _ _ eo).dP hd;rw[af eb<|Option.some_ne_none _]
  ·obtain ⟨m,cm,⟨o,es,ep,eb,_⟩,_⟩:=r'.lo;rw[af eb<|Option.some_ne_none _]
  ·obtain ⟨_,cm,_,VE,_⟩:=r'.lo;obtain ⟨o,eb,_⟩:=VE m b hm;rw[af eb<|Option.some_ne_none _]
 have frth:∀b,f7 (c.deep env) b->s'.heap.get? b≠none:=λb q=>by
  obtain ⟨_,o,es,n,eb,_⟩:=r'.newF b q;rw[af eb<|Option.some_ne_none _]
 have aT:gG (c.deep env) RT.heap σ' T:=⟨none₁ T f2,λz=>there T z f2,λz=>frth T z f2⟩;have hdT:(Value.ref T:Value)≠ .ref d:=λz=>by
  clear f1 f3 g1 g2 g3 aT;cases z;rw[ak f2 x7]
 obtain ⟨So,SA,Ue,UQ,WY,Vs⟩:=fQ (fs:=(env::c.mV).filterMap (·.frame)) R7 U4 Sb f1 (.inr ⟨_,f3⟩) ⟨VI,Vq,WZ,Vt⟩ ae ad (λT' hT=>by cases hT;rw[aT]) TJ hdT kg
  ⟨λb o _ h2 _ h=>g3 b o h2 h,λb o hb h=>⟨o.slots,g3 b o (λz=>by clear h;cases z;rw[aT.2.2<|(U4 _).mp hb]) h⟩,g4⟩
 obtain ⟨Tg,SO⟩:=r.leave (c':=c.deep env) hk hs hL hC (λb ⟨e,To,q⟩=>by
  clear UW hC r' st ae ad tbc hat kg hFF U4 f3 N R7 Sb there frth aT So SA;rcases ek To with rfl|To
  ·rw[hf] at q;rw[.inr<|Option.some.inj q▸hL]
  ·rw[.inl ⟨e,To,q⟩]) (by rintro b ⟨e,To,q⟩;rw[⟨e,.tail _ To,q⟩]) rfl So rfl SA
 have back:∀b,gG (c.deep env) RT.heap σ' b->gG c s.heap σ' b:=λb ⟨a1,a2,a3⟩=>by
  have sn:s.heap.get? b=none:=by
   cases z:s.heap.get? b with
   |none=>rfl
   |some o=>rw[ak a1<|hk b o z]
  rw[⟨sn,λz=>?_,by rintro ⟨e,To,q⟩;rw[a3 ⟨e,.tail _ To,q⟩]⟩];clear a1 a3;rcases z with z|z|rfl|⟨m,z⟩
  ·rw[a2<|.inl z]
  ·rw[a2<|.inr<|.inl z]
  ·obtain ⟨m,cm,⟨o,es,ep,eb,_⟩,_⟩:=r.lo;rw[ak sn eb]
  ·obtain ⟨_,cm,_,VE,_⟩:=r.lo;obtain ⟨o,eb,_⟩:=VE m b z;rw[ak sn eb]
 obtain ⟨Z4,Z1,a0',y1,y2,y3,y4,y5,y6⟩:=g1;obtain ⟨T',Z5,Z3,t0,t1,t2,t3,t4,t5⟩:=g2
 cases t0
 symm;rw[⟨e,C,ats,σ',rfl,Tg,SO,⟨Z4,Z1,d,.ref T,a0',Ue,UQ,y1,y2,y3,y4,y5,y6,WY,Vs,back e ae,back d ad,.inr ⟨T,Z5,Z3,rfl,t1,back T aT,t2,t3,t4,t5⟩⟩,q⟩]
end
variable {fd:FuncData}{ps:List Str}{kd:Str->Option NameKind}
set_option backward.match.sparseCases true
structure FnAt (D:cN)(f:Addr)(fd:FuncData)(body:List Stmt):Prop where
 there:∃fo,D.K.lookup f=some fo/\fo.data=.func fd
 QS:fd.closure=[]
 glob:fd.globals=mainGlobals
 bi:fd.builtins=builtinsNs
 body:fd.body=.stmts body
 code:codeIn D.K fd.code fd.qualname=true
 co:fd.scope.isCoroutine=false
 gen:fd.scope.isGenerator=false
 kind:fd.scope.kind=.function
 zA:∀p∈fd.scope.names,p.2≠ .free
def mF (D:cN)(fd:FuncData)(m:Nat)(ps:List Str)(ds:List V):Prop:=
 ∀(s:Shared) (vs:List Value),D.K.In s.heap->vs.length=m->∃us,aM s.heap us ds/\BindsTo s fd ⟨vs,[]⟩ (ps.zip<|vs++us)
theorem pq {kd:Str->Option NameKind}{y:Str}:∀(UI:List<|Str×Value) (m:Str->Option Value),y∉UI.map (·.1)->bindL kd UI m y=m y
 |[],m,_=>rfl
 |(n,v)::r,m,h=>by
  unfold bindL;erw[pq r _ λq=>h<|.tail _ q]
  split
  ·rw[if_neg λ(e:y=n)=>h<|af e<|.head _]
  ·rfl
theorem pA {kd:Str->Option NameKind}{y:Str}:∀(UI:List<|Str×Value) (m:Str->Option Value),y∉UI.map (·.1)->bindC kd UI m y=m y
 |[],m,_=>rfl
 |(n,v)::r,m,h=>by
  unfold bindC;erw[pA r _ λq=>h<|.tail _ q]
  split
  ·rfl
  ·rw[if_neg λ(e:y=n)=>h<|af e<|.head _]
theorem o9 {h:Heap}{kd:Str->Option NameKind}:∀(ps:List Str) (vs:List Value) (xs:List V) (m cm:Str->Option Value) (y:Str) (x:V),aM h vs xs->ps.Nodup->(ps.zip xs).lookup y=some x->
 ∃v,cz h v x/\(kd y=some .local->bindL kd (ps.zip vs) m y=some v)/\(kd y≠some .local->bindC kd (ps.zip vs) cm y=some v)
 |[],_,_,_,_,_,_,_,_,e=>by rw[aq e]
 |p::ps,_,_,_,_,_,_,.nil,_,e=>by rw[aq e]
 |p::ps,v::vs,x'::xs,m,cm,y,x,.cons i j,nd,e=>by
  rw[List.zip_cons_cons,List.lookup_cons] at e;have pT:∀{vs:List Value},p∉(ps.zip vs).map (·.1):=λ{vs} q=>by
   obtain ⟨⟨a,b⟩,h1,h2⟩:=List.mem_map.mp q;rw[(List.nodup_cons.mp nd).1 (h2▸(List.of_mem_zip h1).1)]
  cases q:y==p with
  |true=>
   rw[q] at e;(replace e:=sI e;subst e);have:=eq_of_beq q;clear nd q;subst this;rw[⟨v,i,λhk=>?_,λhk=>?_⟩]
   ·rw[af List.zip_cons_cons ?_];unfold bindL;erw[pq _ _ pT,if_pos hk,if_pos rfl]
   ·rw[af List.zip_cons_cons ?_];unfold bindC;erw[pA _ _ pT,if_neg hk,if_pos rfl]
  |false=>
   rw[q] at e;obtain ⟨v',a,b,c⟩:=o9 (kd:=kd) ps vs xs (if kd p=some .local then λz=>if z=p then some v else m z else m) (if kd p=some .local then cm else λz=>if z=p then some v else cm z) y x j (List.nodup_cons.mp nd).2 e;rw[⟨v',a,b,c⟩]
section
def ay (D:cN)(n:Nat)(f:Value)(xs:List V)(U:St)(k:V->St->Prop)(ke:KE):Prop:=
 ∀c lo vs,bK D n c->∀s,R D.prog D.w c lo U s->aM s.heap vs xs->
  codeAny (model D.prog D.w) c.A (.call f ⟨vs,[]⟩) (λr s'=>match r with|.ok (.ret v)=>Post D cz c lo U s k v s'|.ok _=>False|.error e=>EP D c lo U s ke e s') s
@[reducible] noncomputable def Fl.val (fl:Fl):V:=match fl with|.ret x=>x|_=>.none
inductive Fj (k:V->St->Prop)(fl:Fl)(τ:St):Prop
 |mk (υ:St) (l:υ.le τ) (h:k fl.val υ)
theorem rt {v:V}(h:k v U):Fj k (.ret v) U:=⟨U,St.le_refl U,h⟩
@[reducible] def z9 (k:V->St->Prop):Fl->Lo->St->Prop:=λfl _ τ=>Fj k fl τ
@[reducible] def Na (ke:KE):ji:=λC a _ τ=>ke C a τ
theorem ay.call {f:Value}(h:ay D n f xs U k ke):bN D n f xs U k ke:=λc lo vs hc s r i=>wpAny_call<|h c lo vs hc s r i
theorem ay.mono {f:Value}{Un:KE}(h:ay D n f xs U k ke)(hk:∀b τ,k b τ->k' b τ)(he:∀C a τ,ke C a τ->Un C a τ):ay D n f xs U k' Un:=λc lo vs hc s r i=>codeAny_mono (h c lo vs hc s r i) λr s' z=>by
 match r,z with
 |.error e,⟨e',C,ats,τ,x,y,w,f,q⟩=>rw[⟨e',C,ats,τ,x,y,w,f,he _ _ _ q⟩]
 |.ok (.ret v),⟨b,τ,x,y,w,q⟩=>rw[⟨b,τ,x,y,w,hk _ _ q⟩]
theorem AN {f:Addr}{body:List Stmt}{mm:Nat}{ds:List V}(F:FnAt D f fd body)(B:mF D fd mm ps ds)(Sd:xs.length=mm)
 (VB:∀p∈ps,fd.scope.names.lookup p=some .local\/fd.scope.names.lookup p=some .cell) (nd:ps.Nodup)
 (h:lO D n fd.scope body (ps.zip<|xs++ds) U (z9 k)<|Na ke):ay D (n+1) (.ref f) xs U k ke:=λc lo vs hc s r i=>by
 right;obtain ⟨fo,hl,Y6⟩:=F.there;have X:D.K.In s.heap:=hc.K.keeps r.keep;obtain ⟨us,iu,bu⟩:=B s vs X<|i.length.trans Sd;have ia:=i.append iu;symm;have hd:c.A.depth<recursionLimit:=by have:=hc.depth;rw[KX this]
 rw[codeAny_call_function hd (X _ _ hl) Y6 F.co F.gen F.body (codeRec_of X F.code)<|bu _ _ _ _ ?_,af F.QS ?_];have Ei:∀x∈ps.zip (vs++us),x.1∈ps:=λx hx=>(List.of_mem_zip (a:=x.1) (b:=x.2) hx).1;rw[wpAny_newFunctionEnv_cells F.kind (λx hx=>?_) λenv he RT x=>?_]
 ·rcases VB x.1 (Ei x hx) with q|q
  ·rw[.inl q]
  ·rw[.inr ⟨q,cellsFrom_some _ _ _<|.inl q⟩]
 have Sl:∀y,env.kindOf y=some .cell\/env.kindOf y=some .free->(env.cells.lookup y).isSome=true:=λy q=>by
  clear x;subst he;rcases q with q|q
  ·rw[cellsFrom_some _ _ _<|.inl q]
  ·rw[absurd rfl (F.zA _<|mem_of_lookup q)]
 have U3:env.scope=fd.scope:=by clear x Sl;subst he;rfl
 have UE:env.frame=some env.locals:=by clear U3;subst he;rfl
 have hg:env.globals=mainGlobals:=by clear UE;subst he;rw[F.glob]
 have hb:env.builtins=builtinsNs:=by clear hg;subst he;rw[F.bi]
 right;have UW:bK D n<|c.deep env:=hc.deep (af U3 F.kind) hg hb UE Sl;obtain ⟨Sg,tk,es,hk⟩:=x.done;symm;have hk':∀b o,s.heap.get? b=some o->RT.heap.get? b=some o:=by subst es;rw[hk]
 have TH:RT.gens=s.gens/\RT.os=s.os:=by clear hk';subst es;rw[⟨rfl,rfl⟩]
 obtain ⟨RX,SJ⟩:=r.enter (lo':=ps.zip<|xs++ds) UE x (λy v e=>by
  obtain ⟨v',a1,a2,a3⟩:=o9 (kd:=env.kindOf) ps (vs++us) (xs++ds) (λ_=>none) (λ_=>none) y v ia nd e;rw[⟨v',a1.aE<|.of_keeps hk',?_⟩];have yin:y∈ps:=(List.of_mem_zip<|mem_of_lookup e).1;rcases VB y yin with q|q
  ·have q':env.kindOf y=some .local:=by unfold Env.kindOf;rw[af U3 q]
   rw[.inl ⟨q',a2 q'⟩]
  ·have q':env.kindOf y=some .cell:=by unfold Env.kindOf;rw[af U3 q]
   rw[.inr ⟨.inl q',Sl y<|.inl q',a3 (by rw[af q' ?_];decide)⟩])
  (λn n' a e e'=>(name_of_addr x.apart (mem_of_lookup e) (mem_of_lookup e'):_))
 have hL:s.heap.get? env.locals=none:=cG x.toInCall.fresh;have hC:∀n a,env.cells.lookup n=some a->s.heap.get? a=none:=λn a e=>cG<|Nat.le_trans x.toInCall.fresh<|Nat.le_of_lt<|x.above n a<|mem_of_lookup e;rw[⟨hc.top.nolimit.keeps λb o e=>hk' _ _<|r.keep _ _ e,codeAny_func ?_⟩,wpAny_mono (h (c.deep env) UW U3 RT RX) (λfl RZ ⟨ZD,l,τ,R7,Sb,rf,υ,SM,q⟩=>?_) λv RZ hx=>?_]
 ·obtain ⟨So,SA⟩:=r.leave (c':=c.deep env) hk' TH hL hC (λb ⟨e,To,q⟩=>by
   clear he hb UW RX hC R7 Sb;rcases ek To with rfl|To
   ·rw[UE] at q;rw[.inr<|Option.some.inj q▸hL]
   ·rw[.inl ⟨e,To,q⟩]) (λb ⟨e,To,q⟩=>⟨e,.tail _ To,q⟩) rfl R7 rfl Sb
  rw[⟨_,υ,So.le SM,SA.le SM,?_,q⟩];clear q;cases ZD<;>cases fl<;>first
   |exact rf.elim
   |exact .none
   |exact rf
 ·rw[wpAny_mono (xZ hc UW UE r hk' TH hL hC hx) (λ_ _ z=>z) λ_ _ z=>z.elim]
end
set_option backward.match.sparseCases false
variable {it:Addr}{target:Expr}{body:List Stmt}{R6:List V}{w:World}
inductive Src where
 |lst (l:Addr) (all:List V)
 |free
def bJ (U:St):Src->Prop
 |.lst l all=>U l=some (.list all)
 |.free=>True
noncomputable def c9 (x:Int)(n:Nat)(step:Int):List V:=(List.range n).map λ(j:Nat)=>V.int<|x+(j:Int)*step
def jO (h:Heap)(it:Addr):Src->List V->Prop
 |.lst l all,R6=>∃i,h.IsListIter it l i/\R6=all.drop i
 |.free,R6=>(∃x left step,IsRangeIter h it x left step/\R6=c9 x left.toNat step)\/
   (∃x t i,h.IsStrIter it "str_ascii_iterator" x t i/\R6=(x.cps.toList.drop i).map λc=>V.str ⟨#[c]⟩)
structure DC (c:Cx)(U:St)(it:Addr):Prop where
 own:¬Own c U it
 fr:¬f7 c it
 g:c.g.get? it=none
theorem aM.at {i:Nat}{r:List V}(j:aM h vs xs)(e:x::r=xs.drop i):∃v,vs[i]?=some v/\cz h v x:=
 j.at_ (by rw[af (Eq.symm<|List.head?_drop)<|af (Eq.symm<|e) ?_];rfl)
section
variable {Sj:Src}{v:V}{k:Fl->Lo->St->Prop}{ke:ji} 
theorem drop_cons {α:Type}{l:List α}{i:Nat}{x:α}{r:List α}(e:x::r=l.drop i):r=l.drop (i+1):=by
 have h:(l.drop i).tail=l.drop (i+1):=by rw[af List.tail_drop rfl]
 rw[af (Eq.symm<|h)<|af (Eq.symm<|e) rfl]
theorem jO.kind (x:jO h it Sj R6):∃o ws T,h.get? it=some o/\o.cls=.type T/\o.data=.fields ws/\(T="list_iterator"\/T="range_iterator"\/T="str_ascii_iterator"):=by
 cases Sj with
 |lst l all=>obtain ⟨i,⟨o,e,hc,hd⟩,_⟩:=x;rw[⟨o,_,_,e,hc,hd,.inl rfl⟩]
 |free=>
  rcases x with ⟨x,left,step,e,_⟩|⟨x,t,i,⟨o,e,hc,hd⟩,_⟩
  ·rw[⟨_,_,_,e,rfl,rfl,.inr<|.inl rfl⟩]
  ·rw[⟨o,_,_,e,hc,hd,.inr<|.inr rfl⟩]
theorem jO.jz (x:jO h it Sj R6):∀o,h.get? it=some o->¬dW o:=λo e=>by
 obtain ⟨o',ws,T,e',hc,hd,hT⟩:=x.kind;rw[e] at e';(clear hd;obtain rfl:=sI e';clear e');rintro (⟨q,_⟩|⟨q,_⟩)<;>rw[hc] at q<;>rcases hT with rfl|rfl|rfl<;>simp at q
theorem jO.same (x:jO h it Sj R6)(e:∀o,h.get? it=some o->h'.get? it=some o):jO h' it Sj R6:=by
 cases Sj with
 |lst l all=>obtain ⟨i,⟨o,e1,r⟩,q⟩:=x;rw[⟨i,⟨o,e _ e1,r⟩,q⟩]
 |free=>
  rcases x with ⟨x,left,step,e1,q⟩|⟨x,t,i,⟨o,e1,r⟩,q⟩
  ·rw[.inl ⟨x,left,step,e _ e1,q⟩]
  ·rw[.inr ⟨x,t,i,⟨o,e _ e1,r⟩,q⟩]
theorem R.iter (r:R D.prog D.w c lo U s)(x:jO s.heap it Sj R6)(off:DC c U it)(same:∀b o,b≠it->s.heap.get? b=some o->h'.get? b=some o):R D.prog D.w c lo U {s with heap:=h',toks:=tk}/\dM s.heap h':=by
 obtain ⟨r',kv⟩:=r.noted (X:=λb=>b=it) (h':=h') (λb o z _ e=>same b o z e) (λb o f e=>⟨o.slots,same b o (λz=>off.fr<|z▸f) e⟩) λb z=>by
  clear same;subst z;rw[⟨off.own,off.fr,off.g,x.jz⟩]
 rw[⟨r'.tok tk,kv⟩]
theorem next_item {Q:Option Value->Shared->Prop}(r:R D.prog D.w c lo U s)(ok:bJ U Sj)(x:jO s.heap it Sj<|v::R6)
 (h:∀h' tk v',jO h' it Sj R6->cz s.heap v' v->(∀b o,b≠it->s.heap.get? b=some o->h'.get? b=some o)->(∃o,h'.get? it=some o)->Q (some v') {s with heap:=h',toks:=tk}):wpAny (model D.prog D.w) c.A (pyNext<|.ref it) Q E s:=by
 have TX:∀h',Heap.SameBut it s.heap h'->∀b o,b≠it->s.heap.get? b=some o->h'.get? b=some o:=λh' hs b o hb e=>(hs.2 b hb).trans e
 cases Sj with
 |lst l all=>
  right;obtain ⟨i,TG,e⟩:=x;have:∃items,s.heap.IsList l (List.toArray items)/\aM s.heap items all:=by
   obtain ⟨items,e1,e2⟩:=r.obs _ _ ok;rw[⟨items,e1.isList,e2⟩]
  obtain ⟨items,hl,iv⟩:=this;obtain ⟨v',e1,e2⟩:=iv.at e;symm;rw[wpAny_pyNext_list_item TG hl (by rw[af List.getElem?_toArray ?_,e1]) λh' hi hs=>h h' s.toks v' ⟨i+1,hi,drop_cons e⟩ e2 (TX h' hs) (let ⟨o,e,_⟩:=hi;⟨o,e⟩)]
 |free=>
  rcases x with ⟨x,left,step,TG,e⟩|⟨x,t,i,TG,e⟩
  ·have hl:0<left:=by
    apply Int.lt_of_not_ge;intro q;rw[Int.toNat_of_nonpos q] at e;rw[bU List.ctorIdx e rfl]
   have hn:left.toNat=(left-1).toNat+1:=M3 hl;rw[hn,c9,List.range_succ_eq_map,List.map_cons,List.map_map] at e;injection e with e1 e2
   rw[wpAny_pyNext_range_item TG hl λh' hi hs=>h h' _ _ (.inl ⟨_,_,_,hi,?_⟩) (by rw[af e1 ?_];simpa using cz.int _ _) (TX h' hs) ⟨_,hi⟩];erw[e2,c9];rw[List.map_congr_left λj _=>?_];simp only [Function.comp,Nat.succ_eq_add_one]
   congr 1
   erw[Int.natCast_add,Int.natCast_one,Int.add_mul,Int.one_mul,<- Int.add_assoc,Int.add_assoc x,Int.add_comm _ step,<- Int.add_assoc]
  ·cases hd:x.cps.toList.drop i with
   |nil=>rw[hd] at e;rw[bU List.ctorIdx e rfl]
   |cons a r'=>
    rw[hd] at e;injection e with e1 e2
    have hx:x.cps[i]?=some a:=by
     rw[af (Eq.symm<|Array.getElem?_toList) ?_];have:=congrArg (·[0]?) hd;simpa using this
    rw[wpAny_pyNext_ascii_item TG hx λh' hi hs=>h h' _ _ (.inr ⟨x,t,i+1,hi,?_⟩) (af e1<|.str _ _) (TX h' hs) (let ⟨o,e,_⟩:=hi;⟨o,e⟩),af e2<|af (drop_cons hd.symm) rfl]
theorem next_end {Q:Option Value->Shared->Prop}(hh:c.A.handled=none)(r:R D.prog D.w c lo U s)(ok:bJ U Sj)(x:jO s.heap it Sj [])
 (h:∀h',(∀b o,b≠it->s.heap.get? b=some o->h'.get? b=some o)->Q none {s with heap:=h'}):wpAny (model D.prog D.w) c.A (pyNext<|.ref it) Q E s:=by
 have TX:∀h',Heap.ExtBut it s.heap h'->∀b o,b≠it->s.heap.get? b=some o->h'.get? b=some o:=λh' hs b o hb e=>hs b o hb e
 cases Sj with
 |lst l all=>
  right;obtain ⟨i,TG,e⟩:=x;have:∃items,s.heap.IsList l (List.toArray items)/\aM s.heap items all:=by
   obtain ⟨items,e1,e2⟩:=r.obs _ _ ok;rw[⟨items,e1.isList,e2⟩]
  obtain ⟨items,hl,iv⟩:=this;have:all.length<=i:=by
   apply Nat.le_of_not_lt;intro q;have:=congrArg List.length e;rw[List.length_drop] at this;simp at this;rw[LV this q]
  symm;rw[wpAny_pyNext_list_end hh TG hl (by erw[List.getElem?_toArray,List.getElem?_eq_none];rw[af iv.length this]) λh' hs=>h h'<|TX h' hs]
 |free=>
  rcases x with ⟨x,left,step,TG,e⟩|⟨x,t,i,TG,e⟩
  ·have hl:left<=0:=by
    have:=congrArg List.length e;simp [c9] at this;rw[KJ this]
   rw[wpAny_pyNext_range_end hh TG hl λh' hs=>h h'<|TX h' hs]
  ·have hx:x.cps[i]?=none:=by
    have:=congrArg List.length e;simp at this;erw[Array.getElem?_eq_none];rw[LX this]
   rw[wpAny_pyNext_ascii_end hh TG hx λh' hs=>h h'<|TX h' hs]
theorem mS {Q:Unit->Shared->Prop}(x:jO s.heap it Sj R6)(h:Q () s):wpAny (model D.prog D.w) A (letOwnedTupleGo target (.ref it) v') Q E s:=by
 right;obtain ⟨o,ws,T,e,hc,hd,hT⟩:=x.kind;symm;have hn:(["enumerate","zip","dict_itemiterator","dict_reverseitemiterator","odict_iterator","itertools.zip_longest","itertools.pairwise"]:List String).contains T=false:=by clear hc;rcases hT with rfl|rfl|rfl<;>decide
 cases target<;>first
  |exact wpAny_pure h
  |(cases v'<;>first
     |exact wpAny_pure h
     |(refine wpAny_bind (wpAny_load e ?_)
       rw[af hc<|af hd ?_];dsimp only;rw[af hn<|af (Bool.false_and ..)<|af (if_neg Bool.false_ne_true) ?_,wpAny_pure h]))
theorem tP {M:Program}{R:Result->Shared->Prop}{YL:Value}(I:Nat->Shared->Prop)
 (turn:∀n s,I n s->wpAny (model M w) A (pyNext YL) (λr RT=>match r with
   |none=>R (.ok .next) RT
   |some v=>wpAny (model M w) A (letOwnedTupleGo target YL v) (λ_ RZ=>wpAny (model M w) A (assign target env v) (λ_ R8=>wpAny (model M w) A (execs body env) (λf Sz=>match f with
     |.next|.cont=>∃m,m<n/\I m Sz
     |.brk=>R (.ok .next) Sz
     |.ret v=>R (.ok<|.ret v) Sz) (λ_ _=>False) R8) (λ_ _=>False) RZ) (λ_ _=>False) RT) (λ_ _=>False) s)
 (n:Nat) (h:I n s):codeAny (model M w) A (.forLoop target YL body [] env) R s:=by
 rw[codeAny_loop' rfl I (λn s hI=>?_) n h,wpAny_noted ?_];simp only [forTurn];rw[wpAny_bind<|wpAny_standAt<|wpAny_bind<|wpAny_onRaise<|wpAny_mono (turn n s hI) (λr RT Sg=>?_) λ_ _ h'=>h'.elim]
 cases r with
 |none=>rw[wpAny_pure<|.inr ⟨rfl,codeAny_block<|wpAny_execs_nil Sg⟩]
 |some v=>
  rw[wpAny_bind<|wpAny_mono Sg (λ_ RZ Si=>?_) λ_ _ h'=>h'.elim,wpAny_bind<|wpAny_mono Si (λ_ RZ Si=>wpAny_bind<|wpAny_mono Si (λf R8 Th=>?_) λ_ _ h'=>h'.elim) λ_ _ h'=>h'.elim]
  cases f with
  |next=>rw[wpAny_pure<|.inl ⟨rfl,Th⟩]
  |cont=>rw[wpAny_pure<|.inl ⟨rfl,Th⟩]
  |brk=>rw[wpAny_pure Th]
  |ret v=>rw[wpAny_pure Th]
end
inductive uo (J:Lo->St->Prop)(lo:Lo)(U:St):Prop
 |mk (Sw:Lo) (R1:St) (l:Sw.le lo) (s:R1.le U) (j:J Sw R1)
@[reducible] def Nh (J:Lo->St->Prop) (k:Fl->Lo->St->Prop):Fl->Lo->St->Prop:=λf Ua RU=>match f with
 |.next|.cont=>uo J Ua RU
 |.brk=>k .next Ua RU
 |.ret x=>k (.ret x) Ua RU
@[reducible] def tF (D:cN) (n:Nat) (sc:Scope) (body:List Stmt) (J:Lo->St->Prop) (k:Fl->Lo->St->Prop):Lo->St->Prop:=λRY RS=>lO D n sc body RY RS (Nh J k) gF
def Bl (D:cN)(n:Nat)(sc:Scope)(t:Expr)(body:List Stmt)(Sj:Src):List V->Lo->St->(Fl->Lo->St->Prop)->Prop
 |[],lo,U,k=>k .next lo U
 |v::r,lo,U,k=>fF D n sc t v lo U (tF D n sc body (λSw R1=>bJ R1 Sj/\Bl D n sc t body Sj r Sw R1 k) k) gF
def ki (D:cN)(n:Nat)(x:V)(U:St)(k:Src->List V->Prop):Prop:=
 ∃Sj items,bJ U Sj/\k Sj items/\∀c lo v s (Q:Value->Shared->Prop) E,bK D n c->R D.prog D.w c lo U s->cz s.heap v x->
  (∀it h' tk,(∀b o,s.heap.get? b=some o->h'.get? b=some o)->s.heap.get? it=none->jO h' it Sj items->Q (.ref it) {s with heap:=h',toks:=tk})->wpAny (model D.prog D.w) c.A (pyIter v) Q E s
section
variable {Sj:Src}{v:V}{k:Fl->Lo->St->Prop}{ke:ji} 
inductive PZ (Sj:Src)(J:Lo->St->Prop)(lo:Lo)(U:St):Prop
 |mk (o:bJ U Sj) (j:J lo U)
@[reducible] def O7 (Sj:Src) (J:Lo->St->Prop):Lo->St->Prop:=λSw R1=>PZ Sj J Sw R1
@[reducible] def uU (D:cN) (n:Nat) (sc:Scope) (t:Expr) (body:List Stmt) (lo:Lo) (U:St) (k:Fl->Lo->St->Prop):Src->List V->Prop:=λSj items=>Bl D n sc t body Sj items lo U k
@[reducible] def kFor (D:cN) (n:Nat) (sc:Scope) (lo:Lo) (t:Expr) (body:List Stmt) (k:Fl->Lo->St->Prop):V->St->Prop:=λx RS=>ki D n x RS<|uU D n sc t body lo RS k
theorem R.there (r:R D.prog D.w c lo U s)(hb:s.heap.get? b=none):¬Own c U b/\¬f7 c b/\c.g.get? b=none:=by
 rw[⟨λq=>?_,λq=>?_,?_⟩]
 ·rcases q with ⟨o,eo,_⟩|⟨a,o,eo,hd⟩|rfl|⟨m,hm⟩
  ·obtain ⟨ob,eb,_⟩:=(r.obs _ _ eo).gY;rw[ak hb eb]
  ·obtain ⟨es,n,eb⟩:=(r.obs _ _ eo).dP hd;rw[ak hb eb]
  ·obtain ⟨m,cm,⟨o,es,ep,eb,_⟩,_⟩:=r.lo;rw[ak hb eb]
  ·obtain ⟨_,cm,_,VE,_⟩:=r.lo;obtain ⟨o,eb,_⟩:=VE m b hm;rw[ak hb eb]
 ·obtain ⟨_,o,es,n,eb,_⟩:=r.newF b q;rw[ak hb eb]
 ·cases q:c.g.get? b with
  |none=>rfl
  |some o=>rw[ak hb<|r.keep _ _ q]
inductive Qc (D:cN)(n:Nat)(sc:Scope)(t:Expr)(body:List Stmt)(Sj:Src)(c:Cx)(U:St)(s:Shared)(it:Addr)(k:Fl->Lo->St->Prop)(m:Nat)(RT:Shared):Prop
 |mk (R6:List V) (RY:Lo) (RS:St) (em:m=R6.length) (r:R D.prog D.w c RY RS RT) (st:Step c U s RS RT) (no:¬Own c RS it) (ia:jO RT.heap it Sj R6) (ok:bJ RS Sj) (hk:Bl D n sc t body Sj R6 RY RS k)
theorem dz {t:Expr}(h:bY D n sc e lo U (kFor D n sc lo t body k)<|k6 ke lo)
 (hf:∀env x,foldedSetIterable e env x=pure x:=by intros;rfl) (hn:0<n:=by rw[Nat.succ_pos _]):eU D n sc (.For t e body [] pos) lo U k ke:=λc hc hs s r=>by
 rw[wpAny_For ?_ λx=>hf _ _,wpAny_mono (h c hc hs s r .nil) (λxv Sk w9=>?_) λ_ _ z=>z.toS];right;obtain ⟨x,Tp,SD,Uy,iv,Sj,items,ok,hk,TG⟩:=w9;have Sq:=hn;symm;rw[TG c lo xv Sk _ _ hc SD iv λit h' tk kp hn x=>?_];have RX:=SD.more (tk:=tk) kp;have off₀:=SD.there hn;refine tP (Qc D n sc t body Sj c U s it k)
  (λm RT ⟨R6,RY,RS,em,RX,SJ,no,ia,ok,hk⟩=>?_) items.length ⟨items,lo,Tp,rfl,RX,Uy.trans<|.more kp,off₀.1,x,ok,hk⟩
 subst em;have off:DC c RS it:=⟨no,off₀.2.1,off₀.2.2⟩;have hsn:s.heap.get? it=none:=Uy.none hn
 cases R6 with
 |nil=>
  rw[next_end (hc.hd Sq) RX ok ia λSi same=>?_];have rr:=RX.iter (tk:=RT.toks) ia off same;rw[⟨.next,RY,RS,rr.1,SJ.noted (X:=λb=>b=it) (λb o z _ e=>same b o z e) (λb o f e=>⟨o.slots,same b o (λz=>off.fr<|z▸f) e⟩) λb z=>by clear hn x off₀ no off ia same;subst z;rw[hsn],trivial,hk⟩]
 |cons v R6=>
  rw[next_item RX ok ia λSi tk₂ v' Tf Uz same Us=>?_];have rr:=RX.iter (tk:=tk₂) ia off same;have Sb:Step c U s RS {RT with heap:=Si,toks:=tk₂}:=by
   have:=SJ.noted (h':=Si) (X:=λb=>b=it) (λb o z _ e=>same b o z e) (λb o f e=>⟨o.slots,same b o (λz=>off.fr<|z▸f) e⟩) λb z=>by clear hn x off₀ no off ia Tf same Us;subst z;rw[hsn]
   rw[this.trans<|.tok tk₂]
  rw[mS (s:={RT with heap:=Si,toks:=tk₂}) Tf ?_,wpAny_mono (hk c v' hc hs _ rr.1<|Uz.aE rr.2) (λ_ R8 w9=>?_) λ_ _ z=>z.no];obtain ⟨Sw,R1,So,SA,q⟩:=w9;rw[wpAny_mono (q c hc hs R8 So) (λf Sz ⟨fl,TM,SY,Tg,SO,rf,q⟩=>?_) λ_ _ z=>z.no];have st34:=SA.trans SO;have tt:=Sb.trans st34;have no₄:¬Own c SY it:=λz=>by
   rcases st34.grow it z with z|z
   ·rw[no z]
   ·obtain ⟨o,e⟩:=Us;rw[ak z<|(show ({RT with heap:=Si,toks:=tk₂}:Shared).heap.get? it=Si.get? it from rfl).trans e]
  have ia₄:jO Sz.heap it Sj R6:=Tf.same λo e=>by
   rcases st34.keep it o e no with e'|⟨f,_⟩
   ·rw[e']
   ·rw[absurd f off.fr]
  cases fl<;>cases f<;>first
   |exact rf.elim
   |(obtain ⟨XG,SN,a1,a2,a3,a4⟩:=q
     rw[⟨R6.length,Nat.lt_succ_self _,R6,XG,SN,rfl,(Tg.le a2).Ce a1,tt.le a2,λz=>no₄<|z.le a2,ia₄,a3,a4⟩])
   |exact ⟨.next,TM,SY,Tg,tt,trivial,q⟩
   |exact ⟨.ret _,TM,SY,Tg,tt,rf,q⟩
end
variable {ts:List Expr}{kk:Src->List V->Prop}
def Dz (U:St)(x:V)(xs:List V):Prop:=x=.tup xs\/∃a,x=.ref a/\U a=some (.list xs)
def iF (D:cN)(n:Nat)(sc:Scope):List Expr->List V->Lo->St->(Lo->St->Prop)->ji->Prop
 |[],[],lo,U,k,_=>k lo U
 |t::ts,x::xs,lo,U,k,ke=>fF D n sc t x lo U (λRY RS=>iF D n sc ts xs RY RS k ke) ke
 |_,_,_,_,_,_=>False
section
variable {k:Fl->Lo->St->Prop}{kl:Lo->St->Prop}{ke:ji} 
theorem jk {Q:List Value->Shared->Prop}(hh:c.A.handled=none)(r:R D.prog D.w c lo U s)(i:cz s.heap v x)(u:Dz U x xs)
 (h:∀h' vs,(∀b o,s.heap.get? b=some o->h'.get? b=some o)->aM h' vs xs->Q vs {s with heap:=h'}):wpAny (model D.prog D.w) c.A (unpackItems v xs.length none) Q E s:=by
 have TX:∀{h':Heap},Heap.ExtBut s.heap.objs.size s.heap h'->∀b o,s.heap.get? b=some o->h'.get? b=some o:=λ{h'} x b o e=>x b o (Nat.ne_of_lt<|Heap.lt_size e) e;rcases u with rfl|⟨a,rfl,u⟩
 ·cases i with
  |tup e1 e2 e3 j=>
   rename_i a o m vs
   have ht:s.heap.IsTuple a vs.toArray:=⟨o,e1,e2,m,e3⟩;have:=wpAny_unpackItems_tuple (prog:=D.prog) (w:=D.w) (E:=E) hh ht (Q:=Q) λh' he=>h h' vs (TX he)<|j.aE<|.of_keeps<|TX he;rw[List.size_toArray,j.length] at this;rw[this]
 ·cases i
  have:∃items,s.heap.IsList a (List.toArray items)/\aM s.heap items xs:=by
   obtain ⟨items,e1,e2⟩:=r.obs _ _ u;rw[⟨items,e1.isList,e2⟩]
  obtain ⟨items,hl,j⟩:=this;have:=kun_itemsOf (prog:=D.prog) (w:=D.w) (E:=E) hh hl (Q:=Q) λh' he=>h h' items (TX he)<|j.aE<|.of_keeps<|TX he;rw[List.size_toArray,j.length] at this;rw[this]
theorem aM.reverse:∀{vs:List Value} {xs:List V},aM h vs xs->aM h vs.reverse xs.reverse
 |_,_,.nil=>.nil
 |_,_,.cons a r=>by rw[af List.reverse_cons<|af List.reverse_cons<|r.reverse.append<|.cons a .nil]
theorem assignInOrder_cons (t:Value->Sem Unit)(ts:List<|Value->Sem Unit)(x:Value)(xs:List Value):assignInOrder (t::ts) (x::xs)=(do holding xs (t x);assignInOrder ts xs):=rfl
theorem assignInOrder_nil:assignInOrder [] []=pure ():=rfl
theorem CQ (hc:bK D n c)(hs:c.env.scope=sc)(ts:List Expr):∀(xs:List V) (vs:List Value) (lo:Lo) (U:St) (s:Shared),(∀t∈ts,∀r,assignEach (t::r) c.env=(false,assign t c.env)::assignEach r c.env)->R D.prog D.w c lo U s->aM s.heap vs xs->iF D n sc ts xs lo U kl ke->
 wpAny (model D.prog D.w) c.A (assignInOrder ((assignEach ts c.env).map (·.2)) vs) (λ_ s'=>pK D c U s kl s') (xu D c U s ke) s:=by
 induction ts with
 |nil=>
  intro xs vs lo U s ha r i h
  cases i with
  |nil=>
   rw[af (show (assignEach [] c.env).map (·.2)=[] from rfl)<|af assignInOrder_nil<|wpAny_pure ⟨lo,U,r,.refl,h⟩]
  |cons _ _=>rw[h.elim]
 |cons t ts ih=>
  intro xs vs lo U s ha r i h
  cases i with
  |nil=>rw[h.elim]
  |cons i j=>
   erw[ha t<|.head _,List.map_cons,assignInOrder_cons];rw[wpAny_bind<|wpAny_holding<|wpAny_mono (h c _ hc hs s r i) (by rintro _ RT ⟨RY,RS,RX,st,q⟩;rw[wpAny_mono (ih _ _ RY RS RT (λt h=>ha t<|.tail _ h) RX (j.aE<|r.aE st.keep) q) (λ_ _ z=>z.step st) λ_ _ z=>z.step st]) λ_ _ z=>z]
theorem rG {l:List<|Bool×(Value->Sem Unit)}(h:l.all (λx=> !x.1)=true):l.findIdx? (·.1)=none:=by
 rw[af (propext List.findIdx?_eq_none_iff) ?_];intro x hx;have:=List.all_eq_true.mp h x hx;simpa using this
theorem m5 (env:Env):∀(ts:List Expr),(∀t∈ts,∀r,assignEach (t::r) env=(false,assign t env)::assignEach r env)->(assignEach ts env).length=ts.length/\(assignEach ts env).all (λx=> !x.1)=true
 |[],_=>⟨rfl,rfl⟩
 |t::ts,h=>by
  obtain ⟨a,b⟩:=m5 env ts λt h'=>h t<|.tail _ h';erw[h t<|.head _];rw[⟨af List.length_cons<|af List.length_cons<|af a rfl,by rw[af List.all_cons<|af b rfl]⟩]
theorem iF.len:∀{ts:List Expr} {xs:List V} {lo:Lo} {U:St},iF D n sc ts xs lo U kl ke->True
 |_,_,_,_,_=>trivial
theorem mz {kk:Nat}(u:Dz U x xs)(hl:xs.length=ts.length)(h:iF D n sc ts xs lo U kl ke)
 (ha:∀env,∀t∈ts,∀r,assignEach (t::r) env=(false,assign t env)::assignEach r env) (hn:0<n:=by rw[Nat.succ_pos _]):fF D n sc (.Tuple ts kk pos) x lo U kl ke:=λc v hc hs s r i=>by
 rw[af (show assign (.Tuple ts kk pos) c.env v=(do standAt pos;unpack v (assignEach ts c.env)) from rfl) ?_,wpAny_bind<|wpAny_standAt ?_];unfold unpack;obtain ⟨a,b⟩:=m5 c.env ts<|ha c.env;rw[af (rG b)<|af a<|af (Eq.symm<|hl) ?_,wpAny_bind<|wpAny_holding<|jk (hc.hd hn) r i u λh' vs kp j=>?_];have r':=r.more (tk:=s.toks) kp;rw[wpAny_mono (CQ hc hs ts xs vs lo U _ (ha c.env) r' j h) (λ_ _ z=>z.step<|.more kp) λ_ _ z=>z.step<|.more kp]
theorem zD (hc:bK D n c)(ns:List Str):∀(xs:List V) (vs:List Value) (lo:Lo) (s:Shared),(∀y∈ns,c.env.kindOf y=some .local)->R D.prog D.w c lo U s->aM s.heap vs xs->ns.length=xs.length->
 kl ((ns.zip xs).foldl (λl p=>l.put p.1 p.2) lo) U->wpAny (model D.prog D.w) c.A (assignInOrder (ns.map λy=>bindName c.env y) vs) (λ_ s'=>pK D c U s kl s') (xu D c U s ke) s:=by
 induction ns with
 |nil=>
  intro xs vs lo s hk r i hl h
  cases i with
  |nil=>rw[wpAny_pure ⟨lo,U,r,.refl,h⟩]
  |cons _ _=>rw[bU Nat.ctorIdx hl rfl]
 |cons y ns ih=>
  intro xs vs lo s hk r i hl h
  cases i with
  |nil=>rw[bU Nat.ctorIdx hl rfl]
  |cons i j=>
   rw[af List.map_cons<|af (assignInOrder_cons ..) ?_,wpAny_bind<|wpAny_holding<|wpAny_mono (iJ hc (.inl<|hk y<|.head _) r i) (λ_ RT w9=>?_) λ_ _ z=>z];obtain ⟨RY,RS,RX,st,e1,e2⟩:=w9;subst e1;subst e2;rw[wpAny_mono (ih _ _ _ RT (λy h=>hk y<|.tail _ h) RX (j.aE<|r.aE st.keep) (by simpa using hl) h) (λ_ _ z=>z.step st) λ_ _ z=>z.step st]
theorem dB {k1 k2:Nat}{p1 p2:Pos}{names:List Str}(h:gc D n sc es lo U (λxs RS=>xs.length<=1000/\names.length=xs.length/\k .next ((names.reverse.zip xs.reverse).foldl (λl p=>l.put p.1 p.2) lo) RS) λC a τ=>ke C a lo τ)
 (hk:∀y∈names,sc.names.lookup y=some .local) (XS:∀env,env.scope=sc->swappedStores [.Tuple ts k1 p1] (.Tuple es k2 p2) env=pure (some names))
 (hw:∀env line,swapsWith (.Tuple es k2 p2) (some<|.Tuple ts k1 p1) line env=pure false:=by intros;rfl) (hn:0<n:=by rw[Nat.succ_pos _]):eU D n sc (.Assign [.Tuple ts k1 p1] (.Tuple es k2 p2) pos) lo U k ke:=λc hc hs s r=>by
 show wpAny _ _ (do
  standAt pos
  if <- swapsWithSole [.Tuple ts k1 p1] (.Tuple es k2 p2) pos.line c.env then do
   evalThenUse (.Tuple es k2 p2) c.env λv=>assignAll v ((assignEach [.Tuple ts k1 p1] c.env).map (·.2))
   pure .next
  else do
   let v <- eval (.Tuple es k2 p2) c.env
   assignStores c.env v (<- swappedStores [.Tuple ts k1 p1] (.Tuple es k2 p2) c.env) ((assignEach [.Tuple ts k1 p1] c.env).map (·.2))) _ _ s
 erw[show swapsWithSole [.Tuple ts k1 p1] (.Tuple es k2 p2) pos.line c.env=pure false from hw c.env pos.line,XS c.env hs];have hev:bY D n sc (.Tuple es k2 p2) lo U (λx RS=>∃xs,x=.tup xs/\names.length=xs.length/\k .next ((names.reverse.zip xs.reverse).foldl (λl p=>l.put p.1 p.2) lo) RS) λC a τ=>ke C a lo τ:=
  tT λc pos hc hs=>(h c pos hc hs).mono (by rintro xs τ ⟨a,b,q⟩;rw[⟨a,xs,rfl,b,q⟩]) λ_ _ _ z=>z
 rw[wpAny_bind<|wpAny_standAt<|wpAny_bind<|wpAny_pure<|wpAny_bind<|wpAny_mono (hev c hc hs s r .nil) (λv RT w9=>?_) λ_ _ z=>z.toS];right;obtain ⟨x,RS,RX,st,i,xs,ex,hl,q⟩:=w9;subst ex;symm;rw[wpAny_bind<|wpAny_pure ?_];show wpAny _ _ (do
  rule "assign.swapped-stores"
  let items <- unpackItems v names.length none
  assignInOrder (names.reverse.map λn=>bindName c.env n) items.reverse
  pure Flow.next) _ _ RT
 rw[af hl ?_,wpAny_bind<|wpAny_rule<|wpAny_bind<|jk (hc.hd hn) RX i (.inl rfl) λh' vs kp j=>?_];have R7:=RX.more (tk:=RT.toks) kp;have jr:aM h' vs.reverse xs.reverse:=j.reverse;have Sb:=st.trans<|.more (tk:=RT.toks) kp;rw[wpAny_bind<|wpAny_mono (zD (kl:=λl τ=>k .next l τ) hc names.reverse xs.reverse vs.reverse lo _ (λy hy=>by unfold Env.kindOf;rw[af hs<|hk y<|List.mem_reverse.mp hy]) R7 jr (by simpa using hl) q) (λ_ R8 w9=>?_) λ_ _ z=>z.step Sb];obtain ⟨Sw,R1,So,SA,Ww⟩:=w9;rw[wpAny_pure ⟨.next,Sw,R1,So,Sb.trans SA,trivial,Ww⟩]
theorem bW (h:Heap):h.get? h.objs.size=none:=cG<|Nat.le_refl _
theorem aV {vs:List V}(ha:U a=some (.list vs))(h:kk (.lst a vs) vs):ki D n (.ref a) U kk:=by
 rw[⟨.lst a vs,vs,ha,h,λc lo v s Q E hc r i hQ=>?_⟩]
 cases i
 have:∃items,s.heap.IsList a<|List.toArray items:=by
  obtain ⟨items,e1,e2⟩:=r.obs _ _ ha;rw[⟨items,e1.isList⟩]
 obtain ⟨items,hl⟩:=this;rw[wpAny_pyIter_list hl<|hQ _ _ s.toks (λb o e=>Heap.get?_push_of_some _ e) (bW _) ⟨0,⟨_,Heap.get?_push_size _ rfl,rfl,rfl⟩,rfl⟩]
theorem gB {a b st:Int}(hsm:Builtin.Range.small a b st=true)(h:kk .free<|c9 a (Builtin.Range.rangeSize a b st).toNat st):ki D n (.uq a b st) U kk:=by
 rw[⟨.free,_,trivial,h,λc lo v s Q E hc r i hQ=>?_⟩]
 cases i with
 |uq e=>rw[wpAny_pyIter_range e hsm<|hQ _ _ s.toks (λb o e=>Heap.get?_push_of_some _ e) (bW _)<|.inl ⟨_,_,_,Heap.get?_push_size _ rfl,rfl⟩]
theorem Ad {x:Str}(hx:x.cps.all (·<128)=true)(h:kk .free<|x.cps.toList.map λc=>V.str ⟨#[c]⟩):ki D n (.str x) U kk:=by
 rw[⟨.free,_,trivial,h,λc lo v s Q E hc r i hQ=>?_⟩]
 cases i with
 |str _ t=>rw[wpAny_pyIter_ascii hx<|hQ _ _ s.toks (λb o e=>Heap.get?_push_of_some _ e) (bW _)<|.inr ⟨x,t,0,⟨_,Heap.get?_push_size _ rfl,rfl,rfl⟩,rfl⟩]
end
variable {S8 iter:Expr}{Tc:List Expr}{RY:Lo}{scope:Scope}{Sj:Src}{Sa:Value}
theorem mj:∀(names:List<|Str×NameKind) (h:Heap) (Sa:List<|Str×Addr) (n:Str) (a:Addr),(n,a)∈cellsFrom h.objs.size names Sa->(n,a)∈Sa\/(h.objs.size<=a/\(pushCells h names).IsCell a none)
 |[],_,_,_,_,e=>.inl e
 |(y,kd)::r,h,Sa,n,a,e=>by
  unfold cellsFrom at e;unfold pushCells
  split at e
  ·rename_i q
   rw[af (if_pos q) ?_];rw[show h.objs.size+1=(h.push {cls:=.type "cell",data:=.cell none}).objs.size from (Heap.size_push ..).symm] at e;rcases mj r _ _ n a e with z|z
   ·rcases ek z with z|z
    ·clear e;cases z;rw[.inr ⟨Nat.le_refl _,⟨_,pushCells_keeps r _ _ _<|Heap.get?_push_size _ rfl,rfl⟩⟩]
    ·rw[.inl z]
   ·rw[Heap.size_push] at z;rw[.inr ⟨Nat.le_trans (Nat.le_succ _) z.1,z.2⟩]
  ·rename_i q
   rw[af (if_neg q)<|mj r h Sa n a e]
theorem mq:∀(names:List<|Str×NameKind) (h:Heap) (Sa:List<|Str×Addr),(∀n n' a,(n,a)∈Sa->(n',a)∈Sa->n=n')->(∀p∈Sa,p.2<h.objs.size)->
 ∀n n' a,(n,a)∈cellsFrom h.objs.size names Sa->(n',a)∈cellsFrom h.objs.size names Sa->n=n'
 |[],_,_,hp,_=>hp
 |(y,kd)::r,h,Sa,hp,hb=>by
  unfold cellsFrom
  split
  ·rw[af (show h.objs.size+1=(h.push {cls:=.type "cell",data:=.cell none}).objs.size from (Heap.size_push ..).symm) ?_,mq r _ _ (λn n' a e e'=>?_) λp Sn=>?_]
   ·rcases ek e with z|z<;>rcases ek e' with z'|z'
    ·cases z;cases z';rfl
    ·cases z;rw[absurd (hb _ z')<|Nat.lt_irrefl _]
    ·cases z';rw[absurd (hb _ z)<|Nat.lt_irrefl _]
    ·rw[hp _ _ _ z z']
   ·rw[af (Heap.size_push ..) ?_];rcases ek Sn with z|z
    ·subst z;rw[Nat.lt_succ_self _]
    ·rw[Nat.lt_succ_of_lt<|hb _ z]
  ·rw[mq r h Sa hp hb]
noncomputable def cE (sc scope:Scope):Scope:={scope with names:=scope.names.map λ(n,k)=>if (k== .free&&sc.kind== .function&&sc.names.lookup n==some .cell) then (n,.cell) else (n,k)}
theorem kG {x:Str}:∀(names:List<|Str×NameKind) (n:Nat) (Sa:List<|Str×Addr),(∀p∈names,p.2=.cell->p.1≠x)->(cellsFrom n names Sa).lookup x=Sa.lookup x
 |[],_,_,_=>rfl
 |(y,kd)::r,n,Sa,h=>by
  unfold cellsFrom
  split
  ·rename_i q
   erw[kG r _ _ λp hp=>h p<|.tail _ hp,List.lookup_cons];have:(x==y)=false:=beq_eq_false_iff_ne.mpr λz=>h (y,kd) (.head _) (eq_of_beq q) z.symm;rw[af this rfl]
  ·rw[kG r _ _ λp hp=>h p<|.tail _ hp]
theorem jK (sc scope:Scope)(x:Str):(cE sc scope).names.lookup x=(scope.names.lookup x).map λk=>if (k== .free&&sc.kind== .function&&sc.names.lookup x==some .cell) then .cell else k:=by
 unfold cE;dsimp only
 induction scope.names with
 |nil=>rfl
 |cons p r ih=>
  obtain ⟨y,kd⟩:=p;erw[List.map_cons,List.lookup_cons]
  by_cases q:(kd==NameKind.free&&sc.kind==ScopeKind.function&&List.lookup y sc.names==some NameKind.cell)=true
  ·erw[if_pos q,List.lookup_cons]
   cases z:x==y with
   |true=>
    have:=eq_of_beq z;clear z;subst this;simp only [Option.map_some];rw[af (if_pos q) rfl]
   |false=>rw[ih]
  ·rw[af (if_neg q)<|af List.lookup_cons ?_]
   cases z:x==y with
   |true=>
    have:=eq_of_beq z;clear z;subst this;simp only [Option.map_some];rw[af (if_neg q) rfl]
   |false=>rw[ih]
inductive N3 (scope:Scope)(env:Env):Prop
 |mk (cs:List (Str×Addr)) (e:closureFor scope env=pure cs) (a:∀p∈cs,env.cells.lookup p.1=some p.2) (b:∀p∈scope.names,p.2=.free->p.1∈cs.map (·.1)) (c:∀p∈cs,(p.1,NameKind.free)∈scope.names)
inductive Qd (env:Env)(names:List<|Str×NameKind)(Sa:List<|Str×Addr):Prop
 |mk (cs:List (Str×Addr)) (e:(forIn names Sa (λ(x:Str×NameKind) (r:List (Str×Addr))=>if x.2== .free then (do let a <- cellOf env x.1;pure (ForInStep.yield ((x.1,a)::r))) else pure (ForInStep.yield r)):Sem (List (Str×Addr)))=pure cs)
  (a:∀p∈cs,env.cells.lookup p.1=some p.2) (b:∀p∈names,p.2=.free->p.1∈cs.map (·.1)) (c:∀p∈Sa,p∈cs) (d:∀p∈cs,p∈Sa\/(p.1,NameKind.free)∈names)
theorem g7 (h:∀p∈scope.names,p.2=.free->(env.cells.lookup p.1).isSome=true):
 N3 scope env:=by
 have gen:∀(names:List<|Str×NameKind) (Sa:List<|Str×Addr),(∀p∈names,p.2=.free->(env.cells.lookup p.1).isSome=true)->(∀p∈Sa,env.cells.lookup p.1=some p.2)->Qd env names Sa:=by
  intro names
  induction names with
  |nil=>intro Sa _ ha;rw[⟨Sa,rfl,ha,λ_ z=>(nomatch z),λ_ z=>z,λ_ z=>.inl z⟩]
  |cons x r ih=>
   intro Sa hn ha;obtain ⟨y,kd⟩:=x
   by_cases q:(kd==NameKind.free)=true
   ·have qe:kd=.free:=eq_of_beq q;subst qe;obtain ⟨a,hl⟩:=Option.isSome_iff_exists.mp<|hn (y,.free) (.head _) rfl;obtain ⟨cs,e1,e2,e3,e4,e5⟩:=ih ((y,a)::Sa) (λp hp=>hn p<|.tail _ hp) (λp hp=>by
     rcases ek hp with z|z
     ·clear hp;subst z;rw[hl]
     ·rw[ha p z])
    rw[⟨cs,?_,e2,λp hp hk=>?_,λp hp=>e4 p<|.tail _ hp,λp hp=>?_⟩]
    ·erw[List.forIn_cons];erw[if_pos q,show cellOf env y=pure a by unfold cellOf;rw[af hl rfl]];rw[e1]
    ·rcases ek hp with z|z
     ·clear hp hk;subst z;rw[List.mem_map_of_mem<|e4 (y,a)<|.head _]
     ·rw[e3 p z hk]
    ·rcases e5 p hp with z|z
     ·rcases ek z with z|z
      ·clear hp;subst z;rw[.inr<|.head _]
      ·rw[.inl z]
     ·rw[.inr<|.tail _ z]
   ·obtain ⟨cs,e1,e2,e3,e4,e5⟩:=ih Sa (λp hp=>hn p<|.tail _ hp) ha;rw[⟨cs,by erw[List.forIn_cons];dsimp only;erw[if_neg q];rw[e1],e2,λp hp hk=>?_,e4,λp hp=>(e5 p hp).imp id λz=>.tail _ z⟩];rcases ek hp with z|z
    ·clear hp;subst z;rw[absurd (show (kd==NameKind.free)=true by have e:kd=.free:=hk;rw[af e rfl]) q]
    ·rw[e3 p z hk]
 obtain ⟨cs,e1,e2,e3,_,e5⟩:=gen scope.names [] h λ_ z=>(nomatch z);rw[⟨cs,(congrArg (λ(t:Sem<|List<|Str×Addr)=>t >>= λs=>(pure s:Sem<|List<|Str×Addr)) e1:_),e2,e3,λp hp=>(e5 p hp).elim (λz=>(nomatch z)) id⟩]
def vJ (D:cN)(n:Nat)(sc:Scope):List Expr->Lo->St->(Bool->St->Prop)->Prop
 |[],lo,U,k=>k true U
 |[e],lo,U,k=>kI D n sc e lo U k xg
 |_,_,_,_=>False
def yy (D:cN)(n:Nat)(sc:Scope)(t:Expr)(Tc:List Expr)(S8:Expr)(lo:Lo)(Sj:Src):List V->List V->St->(List V->St->Prop)->Prop
 |[],Sa,U,k=>k Sa U
 |v::r,Sa,U,k=>fF D n sc t v lo U (λRY RS=>lo.le RY/\vJ D n sc Tc RY RS λb RU=>
   if b=true then bY D n sc S8 RY RU (λx R1=>∃SY,St.le SY R1/\bJ SY Sj/\yy D n sc t Tc S8 lo Sj r (Sa++[x]) SY k) xg
   else ∃R1,St.le R1 RU/\bJ R1 Sj/\yy D n sc t Tc S8 lo Sj r Sa R1 k) gF
section
variable {M:Program}{R:Result->Shared->Prop} 
theorem rR {it:Value}(I:Nat->Shared->Prop)
 (turn:∀n s,I n s->wpAny (model M w) A (pyNext it) (λr RT=>match r with
   |none=>R (.ok .next) RT
   |some v=>wpAny (model M w) A (letOwnedTupleGo target it v) (λ_ RT=>wpAny (model M w) A (assign target env v) (λ_ RZ=>
     wpAny (model M w) A (forIn Tc true λc r=>if r=true then do let ok <- isTrue c env<|eval c env;pure (ForInStep.yield ok) else pure (ForInStep.yield r)) (λok R8=>
      if ok=true then wpAny (model M w) A (eval S8 env) (λx Sz=>
       wpAny (model M w) A (call (.builtin "list.append") [Sa,x]) (λ_ SR=>∃m,m<n/\I m SR) (λ_ _=>False) Sz) (λ_ _=>False) R8
      else ∃m,m<n/\I m R8) (λ_ _=>False) RZ) (λ_ _=>False) RT) (λ_ _=>False) RT) (λ_ _=>False) s)
 (n:Nat) (h:I n s):codeAny (model M w) A (.compLoop (.ListComp S8 [⟨target,iter,Tc,0⟩] scope pos) 0 it Sa env) R s:=by
 rw[codeAny_loop rfl I (λn s hI=>?_) n h,wpAny_noted ?_,af (compTurn_list ..) ?_,wpAny_bind<|wpAny_standAt<|wpAny_bind<|wpAny_mono (turn n s hI) (λr RT Sg=>?_) λ_ _ h'=>h'.elim]
 cases r with
 |none=>rw[wpAny_pure Sg]
 |some v=>
  rw[wpAny_bind<|wpAny_mono Sg (λ_ RT Sg=>?_) λ_ _ h'=>h'.elim,wpAny_bind<|wpAny_mono Sg (λ_ RZ Si=>wpAny_bind<|wpAny_mono Si (λok R8 Th=>?_) λ_ _ h'=>h'.elim) λ_ _ h'=>h'.elim]
  cases ok with
  |false=>rw[wpAny_pure ⟨rfl,Th⟩]
  |true=>
   rw[wpAny_bind<|wpAny_bind<|wpAny_mono Th (λx Sz SS=>wpAny_bind<|wpAny_mono SS (λ_ SR Uk=>wpAny_pure<|wpAny_pure ⟨rfl,Uk⟩) λ_ _ h'=>h'.elim) λ_ _ h'=>h'.elim]
end
section
theorem eY {α:Type}{l:List<|Str×α}{n:Str}(h:n∈l.map (·.1)):(l.lookup n).isSome=true:=by
 induction l with
 |nil=>cases h
 |cons p r ih=>
  obtain ⟨a,b⟩:=p;rw[af List.lookup_cons ?_]
  cases q:n==a with
  |true=>rfl
  |false=>
   rcases ek h with z|z
   ·rw[absurd z<|beq_eq_false_iff_ne.mp q]
   ·rw[ih z]
theorem R.E1 (hc:bK D n c)(r:R D.prog D.w c lo U s)(hg:c'.g=c.g)(XT:c'.os=c.os)(UD:c'.mV=c.mV){Sg:Heap}(k:∀b o,s.heap.get? b=some o->Sg.get? b=some o)
 (hn:Sg.Ns c'.env.locals m) (hL:s.heap.get? c'.env.locals=none)
 (Sl:∀n a,c'.env.cells.lookup n=some a->c.env.cells.lookup n=some a\/(s.heap.get? a=none/\Sg.IsCell a none/\a≠c'.env.locals)) (YZ:∀n n' a,c'.env.cells.lookup n=some a->c'.env.cells.lookup n'=some a->n=n')
 (Xp:∀x v,RY.lookup x=some v->lo.lookup x=some v/\(c'.env.kindOf x=some .cell\/c'.env.kindOf x=some .free)/\(∃a,c'.env.cells.lookup x=some a/\c.env.cells.lookup x=some a)/\c.env.kindOf x≠some .local):
 R D.prog D.w c' RY U {s with heap:=Sg,toks:=tk}:=by
 have RX:=r.more (tk:=tk) k;have kv:=dM.of_keeps k;have hF:∀b,f7 c' b↔f7 c b:=λb=>by unfold f7;erw[UD]
 right;have th:=λ{b} (hb:s.heap.get? b=none)=>r.there hb;obtain ⟨m₀,cm,m1,m2,m3⟩:=r.lo;have old:∀n a,c.env.cells.lookup n=some a->s.heap.get? a≠none:=λn a e z=>by
  obtain ⟨o,e',_⟩:=m2 n a e;rw[ak z e']
 have cellv:∀n a,c'.env.cells.lookup n=some a->Sg.IsCell a (if c'.env.cells.lookup n=c.env.cells.lookup n then cm n else none):=λn a e=>by
  rcases Sl n a e with z|⟨z1,z2,_⟩
  ·rw[af (if_pos<|e.trans z.symm) ?_];obtain ⟨o,e',hd⟩:=m2 n a z;rw[⟨o,k _ _ e',hd⟩]
  ·erw[if_neg λ(w:c'.env.cells.lookup n=c.env.cells.lookup n)=>old n a (w.symm.trans e) z1];rw[z2]
 have own:∀b,Own c' U b->Own c U b\/s.heap.get? b=none:=λb q=>by
  rcases q with q|q|rfl|⟨n,q⟩
  ·rw[.inl<|.inl q]
  ·rw[.inl<|.inr<|.inl q]
  ·rw[.inr hL]
  ·rcases Sl n b q with z|z
   ·rw[.inl<|.inr<|.inr<|.inr ⟨n,z⟩]
   ·rw[.inr z.1]
 have sth:∀a o,U a=some o->s.heap.get? a≠none:=λa o e=>by
  obtain ⟨ob,eb,_⟩:=(r.obs a o e).gY;rw[af eb<|Option.some_ne_none _]
 have sthD:∀a o d,U a=some o->o.dictAt=some d->s.heap.get? d≠none:=λa o d e q=>by
  obtain ⟨es,n,eb⟩:=(r.obs a o e).dP q;rw[af eb<|Option.some_ne_none _]
 symm;rw[{gens:=r.gens,os:=r.os.trans XT.symm,keep:=λb o e=>RX.keep b o<|hg▸e,lo:=⟨m,_,hn,cellv,λx v e=>?_⟩,obs:=RX.obs,new:=λb q=>?_,newF:=λb q=>?_,apart:=λa o e q=>?_,aG:=λa o d e q=>?_,inj:=r.inj,bE:=λn a e=>?_,bT:=YZ}]
 ·right;obtain ⟨h1,h2,⟨a,h3,h4⟩,h5⟩:=Xp x v e;obtain ⟨v',iv,q⟩:=m3 x v h1;symm;rw[⟨v',iv.aE kv,.inr ⟨h2,af h3 rfl,?_⟩⟩];rcases q with ⟨q,_⟩|⟨_,_,q⟩
  ·rw[absurd q h5]
  ·show (if c'.env.cells.lookup x=c.env.cells.lookup x then cm x else none)=_;rw[af (if_pos<|h3.trans h4.symm) q]
 ·rcases own b q with z|z
  ·rw[hg▸r.new b z]
  ·rw[hg▸(th z).2.2]
 ·rw[hg▸RX.newF b ((hF b).mp q)]
 ·right;obtain ⟨h1,h2,h3⟩:=r.apart a o e q;symm;rw[⟨λz=>sth a o e<|z▸hL,λn z=>?_,λz=>h3<|(hF a).mp z⟩];rcases Sl n a z with w|w
  ·rw[h2 n w]
  ·rw[sth a o e w.1]
 ·right;obtain ⟨h1,h2,h3,h4⟩:=r.aG a o d e q;symm;rw[⟨λz=>sthD a o d e q<|z▸hL,λn z=>?_,λz=>h3<|(hF d).mp z,h4⟩];rcases Sl n d z with w|w
  ·rw[h2 n w]
  ·rw[sthD a o d e q w.1]
 ·rw[⟨λz=>?_,λz=>?_⟩]
  ·rcases Sl n a e with w|w
   ·rw[(r.bE n a w).1 ((hF a).mp z)]
   ·rw[(th w.1).2.1 ((hF a).mp z)]
  ·rcases Sl n a e with w|w
   ·rw[old n a w<|z▸hL]
   ·rw[w.2.2 z]
theorem R.EF (r:R D.prog D.w c lo U s)(hk:∀b o,s.heap.get? b=some o->RT.heap.get? b=some o)(hL:s.heap.get? c'.env.locals=none)(hg:c'.g=c.g)(XT:c'.os=c.os)(UD:c'.mV=c.mV)
 (Sl:∀n a,c'.env.cells.lookup n=some a->c.env.cells.lookup n=some a\/s.heap.get? a=none) (r':R D.prog D.w c' WD σ' s') (st:Step c' U RT σ' s')
 (Zc:∀x v a,lo.lookup x=some v->c'.env.cells.lookup x=some a->c.env.cells.lookup x=some a->WD.lookup x=some v) (hkd:∀x a,c'.env.cells.lookup x=some a->c.env.cells.lookup x=some a->c'.env.kindOf x≠some .local):
 R D.prog D.w c lo σ' s'/\Step c U s σ' s':=by
 have hF:∀b,f7 c' b↔f7 c b:=λb=>by unfold f7;erw[UD]
 obtain ⟨m₀,cm,m1,m2,m3⟩:=id r.lo;have own:∀b,Own c' U b->Own c U b\/s.heap.get? b=none:=λb q=>by
  rcases q with q|q|rfl|⟨n,q⟩
  ·rw[.inl<|.inl q]
  ·rw[.inl<|.inr<|.inl q]
  ·rw[.inr hL]
  ·rcases Sl n b q with z|z
   ·rw[.inl<|.inr<|.inr<|.inr ⟨n,z⟩]
   ·rw[.inr z]
 have kp:iE c U s.heap s'.heap:=λb o e q=>by
  have q':¬Own c' U b:=λz=>by
   rcases own b z with z|z
   ·rw[q z]
   ·rw[ak z e]
  rcases st.keep b o (hk b o e) q' with e'|⟨f,e'⟩
  ·rw[.inl e']
  ·rw[.inr ⟨(hF b).mp f,e'⟩]
 have kv:=r.aE kp;have gone:∀b,Own c' σ' b->Own c U b\/s.heap.get? b=none:=λb q=>by
  rcases st.grow b q with z|z
  ·rw[own b z]
  ·cases e:s.heap.get? b with
   |none=>rw[.inr rfl]
   |some o=>rw[ak z<|hk b o e]
 have part:∀b,Own c σ' b->Own c' σ' b\/b=c.env.locals\/∃n,c.env.cells.lookup n=some b:=λb q=>by
  rcases q with q|q|q
  ·rw[.inl<|.inl q]
  ·rw[.inl<|.inr<|.inl q]
  ·rw[.inr q]
 have gr:je c U s.heap σ':=λb q=>by
  rcases part b q with z|z
  ·rw[gone b z]
  ·rw[.inl<|.inr<|.inr z]
 have thL:s.heap.get? c.env.locals≠none:=by
  obtain ⟨o,es,ep,e,_⟩:=m1;rw[af e<|Option.some_ne_none _]
 have thC:∀n a,c.env.cells.lookup n=some a->s.heap.get? a≠none:=λn a h=>by
  obtain ⟨o,e,_⟩:=m2 n a h;rw[af e<|Option.some_ne_none _]
 have nL:¬Own c' U c.env.locals:=λz=>by
  rcases z with ⟨p,ep,hp⟩|⟨a,p,ep,hp⟩|z|⟨n,z⟩
  ·rw[(r.apart _ _ ep hp).1 rfl]
  ·rw[(r.aG _ _ _ ep hp).1 rfl]
  ·rw[thL<|z▸hL]
  ·rcases Sl n _ z with w|w
   ·rw[(r.bE n _ w).2 rfl]
   ·rw[thL w]
 have nC:∀n a,c.env.cells.lookup n=some a->(¬∃n',c'.env.cells.lookup n'=some a)->¬Own c' U a:=λn a h h' z=>by
  rcases z with ⟨p,ep,hp⟩|⟨b,p,ep,hp⟩|z|⟨n',z⟩
  ·rw[(r.apart _ _ ep hp).2.1 n h]
  ·rw[(r.aG _ _ _ ep hp).2.1 n h]
  ·rw[thC n a h<|z▸hL]
  ·rw[h' ⟨n',z⟩]
 have up:∀b,¬Own c' U b->∀ob,s.heap.get? b=some ob->∃sl,s'.heap.get? b=some {ob with slots:=sl}:=λb q ob e=>by
  rcases st.keep b ob (hk b ob e) q with e'|⟨_,sl,e'⟩
  ·rw[⟨ob.slots,e'⟩]
  ·rw[⟨sl,e'⟩]
 have notOwn':∀b,¬Own c' U b->s.heap.get? b≠none->¬Own c' σ' b:=λb q e z=>by
  rcases st.grow b z with z|z
  ·rw[q z]
  ·cases e':s.heap.get? b with
   |none=>rw[e e']
   |some o=>rw[ak z<|hk b o e']
 have capName:∀n n' a,c.env.cells.lookup n=some a->c'.env.cells.lookup n'=some a->n'=n:=λn n' a h h'=>by
  rcases Sl n' a h' with w|w
  ·rw[r.bT _ _ _ w h]
  ·rw[absurd w<|thC n a h]
 obtain ⟨m',cm',p1,p2,p3⟩:=r'.lo;have noC':∀n a,c.env.cells.lookup n=some a->∀b,((∃o,σ' b=some o/\o.own=true)\/∃x o,σ' x=some o/\o.dictAt=some b)->b≠a:=λn a h b q z=>by
  subst z
  by_cases w:∃n',c'.env.cells.lookup n'=some b
  ·obtain ⟨n',w⟩:=w;rcases q with ⟨o,eo,ho⟩|⟨x,o,eo,hd⟩
   ·rw[(r'.apart _ _ eo ho).2.1 n' w]
   ·rw[(r'.aG _ _ _ eo hd).2.1 n' w]
  ·rw[notOwn' b (nC n b h w) (thC n b h) (by rcases q with q|q;rw[.inl q,.inr<|.inl q])]
 rw[⟨{gens:=r'.gens,os:=r'.os.trans XT,keep:=λb o e=>r'.keep b o<|hg▸e,lo:=⟨m₀,λn=>if c'.env.cells.lookup n=c.env.cells.lookup n then cm' n else cm n,pM m1<|up _ nL,λn a h=>?_,λx v e=>?_⟩,obs:=r'.obs,new:=λb q=>?_,newF:=λb q=>?_,apart:=λa o e q=>?_,aG:=λa o d e q=>?_,inj:=r'.inj,bE:=r.bE,bT:=r.bT},⟨kp,gr,λb o e=>st.dom b o<|hk b o e⟩⟩]
 ·by_cases w:c'.env.cells.lookup n=c.env.cells.lookup n
  ·rw[af (if_pos w)<|p2 n a<|w.trans h]
  ·rw[af (if_neg w) ?_];obtain ⟨o,e,hd⟩:=m2 n a h;obtain ⟨sl,e'⟩:=up a (nC n a h λ⟨n',h'⟩=>w (by rw[capName n n' a h h'] at h';rw[h'.trans h.symm])) o e;rw[⟨_,e',hd⟩]
 ·obtain ⟨v',iv,q⟩:=m3 x v e;rcases q with q|⟨q1,q2,q3⟩
  ·rw[⟨v',iv.aE kv,.inl q⟩]
  ·obtain ⟨a,ha⟩:=Option.isSome_iff_exists.mp q2
   by_cases w:c'.env.cells.lookup x=c.env.cells.lookup x
   ·obtain ⟨Z2,iv',q'⟩:=p3 x v<|Zc x v a e (w.trans ha) ha;rcases q' with ⟨q',_⟩|⟨_,_,q'⟩
    ·rw[absurd q'<|hkd x a (w.trans ha) ha]
    ·rw[⟨Z2,iv',.inr ⟨q1,q2,af (if_pos w) q'⟩⟩]
   ·rw[⟨v',iv.aE kv,.inr ⟨q1,q2,af (if_neg w) q3⟩⟩]
 ·rcases part b q with z|z
  ·rw[hg▸r'.new b z]
  ·rw[r.new b<|.inr<|.inr z]
 ·obtain ⟨a1,a2⟩:=r'.newF b<|(hF b).mpr q;rw[⟨hg▸a1,a2⟩]
 ·rw[⟨λy=>notOwn' _ nL thL<|y▸(.inl ⟨o,e,q⟩:Own c' σ' a),λn y=>noC' n a y a (.inl ⟨o,e,q⟩) rfl,λy=>(r'.apart a o e q).2.2 ((hF a).mpr y)⟩]
 ·rw[⟨λy=>notOwn' _ nL thL<|y▸(.inr (.inl ⟨a,o,e,q⟩):Own c' σ' d),λn y=>noC' n d y d (.inr ⟨a,o,e,q⟩) rfl,λy=>(r'.aG a o d e q).2.2.1 ((hF d).mpr y),(r'.aG a o d e q).2.2.2⟩]
end
variable {o:bI}{f:Array Value->Array Value}{cs:List<|Str×Addr}{gs:List Comprehension}{use:Option<|Value->Sem Unit}{prog:Program}{τ:St}
section
theorem ff {Vr first:Sem Value}{g:Comprehension} 
 (VE:clausesOf e=g::gs) (hs:∀x,foldedSetIterable g.iter env x=pure x) (TL:closureFor scope env=pure cs)
 (Wj:scope.kind=.function) (WJ:∀x∈scope.names,x.2=.local->(cE env.scope scope).names.lookup x.1=some .local)
 (h:wpAny M A first (λx RT=>wpAny M A (pyIter x) (λit RZ=>wpAny M A Vr (λSa R8=>
   wpAny M A (newFunctionEnv scope env.globals cs [] env.qual none .none<|some env) (λcenv Sz=>
    codeAny M A (.compStart e 0 it Sa {cenv with scope:=cE env.scope scope}) (λr s'=>match r with
     |.error _=>False
     |.ok _=>match use with
      |none=>∃m,s'.heap.Ns cenv.locals m/\∀h',Heap.SameBut cenv.locals s'.heap h'->Q Sa {s' with heap:=h'}
      |some u=>wpAny M A (u Sa) (λ_ VM=>∃m,VM.heap.Ns cenv.locals m/\∀h',Heap.SameBut cenv.locals VM.heap h'->Q .none {VM with heap:=h'}) E s') Sz) E R8) E RZ) E RT) E s):
 wpAny M A (comprehension e scope env pos Vr false first use) Q E s:=by
 unfold comprehension;rw[af TL<|af VE ?_];refine wpAny_bind (wpAny_mono h (λx RT Sg=>wpAny_bind (wpAny_standAt (wpAny_bind (wpAny_of_eq (hs x) (wpAny_bind (wpAny_holding (wpAny_mono Sg (λit RZ Si=>
  wpAny_standIf (wpAny_bind<|wpAny_mono Si (λSa R8 Th=>wpAny_bind<|wpAny_pure<|wpAny_bind<|wpAny_mono Th (λcenv Sz SS=>?_) λ_ _ h'=>h') λ_ _ h'=>h'))
   λ_ _ h'=>h'))))))) λ_ _ h'=>h')
 have hsce:({scope with names:=scope.names.map λ(x:Str×NameKind)=>match x with|(n,k)=>if (k==NameKind.free&&env.scope.kind==ScopeKind.function&&env.kindOf n==some NameKind.cell)=true then (n,NameKind.cell) else (n,k)}:Scope)=cE env.scope scope:=rfl;have hv:∀x∈(scope.names.filter λx=>(x.2== .local||x.2== .cell)&&x.1 !=(".0":Str)).reverse,x.2=.local->
  Env.kindOf {cenv with scope:=cE env.scope scope} x.1=some .local:=λx hx hl=>WJ x (List.mem_filter.mp<|List.mem_reverse.mp hx).1 hl
 rw[wpAny_holding<|wpAny_bind<|wpAny_attempt<|wpAny_holding<|wpAny_run<|codeAny_mono SS λr s' hr=>?_]
 cases r with
 |error x=>rw[hr.elim]
 |ok f=>
  cases use with
  |none=>
   obtain ⟨m,hn,hr⟩:=hr;rw[wpAny_bind<|wpAny_holding<|wpAny_comp_letGo (cenv:={cenv with scope:=cE env.scope scope}) Wj _ s' m hv hn λh' m' _ TH=>wpAny_pure<|hr h' TH]
  |some u=>
   rw[wpAny_bind<|wpAny_rule<|wpAny_bind<|wpAny_holding<|wpAny_mono hr (λ_ VM hr=>?_) λ_ _ z=>z];obtain ⟨m,hn,hr⟩:=hr;rw[wpAny_bind<|wpAny_comp_letGo (cenv:={cenv with scope:=cE env.scope scope}) Wj _ VM m (λx hx hl=>?_) hn λh' m' _ TH=>wpAny_pure<|hr h' TH];rcases kX hx with hx|hx
   ·rw[hv x (List.mem_of_mem_drop hx) hl]
   ·rw[hv x (List.mem_of_mem_take hx) hl]
theorem oj {globals:Addr}{qual:Str}{outer:Env}{Q:Env->Shared->Prop}
 (h:∀Sg,(∀b o,s.heap.get? b=some o->Sg.get? b=some o)->Sg.Ns s.heap.objs.size (λ_=>none)->(∀n a,(n,a)∈cellsFrom (s.heap.objs.size+1) scope.names cs->(n,a)∈cs\/(s.heap.objs.size+1<=a/\Sg.IsCell a none))->
   Q {scope:=scope,locals:=s.heap.objs.size,globals:=globals,cells:=cellsFrom (s.heap.objs.size+1) scope.names cs,qual:=qual,func:=none,code:=outer.code,frame:=outer.frame,builtins:=outer.builtins} {s with heap:=Sg}):
 wpAny M A (newFunctionEnv scope globals cs [] qual none .none<|some outer) Q E s:=by
 simp only [newFunctionEnv,Option.isSome_some,if_true];rw[wpAny_bind<|wpAny_alloc ?_,wpAny_bind<|wpAny_layCells _ (λname kind cells=>by cases hkc:kind==NameKind.cell<;>rfl) _ _ _ _ ?_,af (show ({s with heap:=s.heap.push {cls:=.type "dict",data:=.dict #[]}}:Shared).heap.objs.size=s.heap.objs.size+1 from Heap.size_push ..) ?_,wpAny_bind ?_,af List.forIn_nil ?_,wpAny_pure<|wpAny_pure<|h _ (λb o e=>pushCells_keeps _ _ b o<|Heap.get?_push_of_some _ e) ((Heap.Ns.new s.heap<|.type "dict").keeps<|pushCells_keeps _ _) λn a hm=>?_];have:=mj scope.names (s.heap.push {cls:=.type "dict",data:=.dict #[]}) cs n a<|af (Heap.size_push ..) hm;rw[Heap.size_push] at this;rw[this]
end
section
theorem R.Ba (r:R D.prog D.w c lo U s)(h1:¬Own c U a)(h2:¬f7 c a)(h3:c.g.get? a=none)(hd:o.dictAt=none)(ob:vI D.prog D.w s.heap a o):
 U a=none/\R D.prog D.w c lo (U.set a o) s:=by
 have ha:U a=none:=by
  cases q:U a with
  |none=>rfl
  |some o=>rw[absurd (.inl ⟨o,q,rfl⟩) h1]
 have own:∀b,Own c (U.set a o) b->Own c U b\/b=a:=λb q=>by
  rcases q with ⟨p,ep,hp⟩|⟨x,p,ep,hp⟩|q
  ·by_cases z:b=a
   ·rw[.inr z]
   ·rw[St.ai z] at ep;rw[.inl<|.inl ⟨p,ep,hp⟩]
  ·by_cases z:x=a
   ·clear h1 h2 h3 ob ha;subst z;rw[St.ah] at ep;(obtain rfl:=sI ep;clear ep);rw[ak hd hp]
   ·rw[St.ai z] at ep;rw[.inl<|.inr<|.inl ⟨x,p,ep,hp⟩]
  ·rw[.inl<|.inr<|.inr q]
 rw[⟨ha,{gens:=r.gens,os:=r.os,keep:=r.keep,lo:=r.lo,obs:=λy oy ey=>?_,new:=λy q=>?_,newF:=r.newF,apart:=λy oy ey hy=>?_,aG:=λy oy d ey hy=>?_,inj:=λy y' oy Xd d ey Tv hy SE=>?_,bE:=r.bE,bT:=r.bT}⟩]
 ·by_cases z:y=a
  ·clear h1 h2 h3 ha own;subst z;rw[St.ah] at ey;(obtain rfl:=sI ey;clear ey);rw[ob]
  ·rw[St.ai z] at ey;rw[r.obs y oy ey]
 ·rcases own y q with z|z
  ·rw[r.new y z]
  ·clear h1 h2 ob ha own q;subst z;rw[h3]
 ·by_cases z:y=a
  ·clear h3 ob ha own ey;subst z;rw[⟨λw=>h1<|.inr<|.inr<|.inl w,λn w=>h1<|.inr<|.inr<|.inr ⟨n,w⟩,h2⟩]
  ·rw[St.ai z] at ey;rw[r.apart y oy ey hy]
 ·by_cases z:y=a
  ·clear h1 h2 h3 ob ha own;subst z;rw[St.ah] at ey;(obtain rfl:=sI ey;clear ey);rw[ak hd hy]
  ·right;rw[St.ai z] at ey;obtain ⟨a1,a2,a3,a4⟩:=r.aG y oy d ey hy;symm;rw[⟨a1,a2,a3,?_⟩];erw[St.ai λ(w:d=a)=>h1<|.inr<|.inl ⟨y,oy,ey,af (Eq.symm<|w) hy⟩];rw[a4]
 ·by_cases z:y=a
  ·clear h1 h2 h3 ob ha own Tv;subst z;rw[St.ah] at ey;(obtain rfl:=sI ey;clear ey);rw[ak hd hy]
  ·by_cases z':y'=a
   ·clear h1 h2 h3 ob ha own ey z;subst z';rw[St.ah] at Tv;(obtain rfl:=sI Tv;clear Tv);rw[ak hd SE]
   ·rw[St.ai z] at ey;rw[St.ai z'] at Tv;rw[r.inj y y' oy Xd d ey Tv hy SE]
theorem R.adopt (r:R D.prog D.w c lo U s)(h1:¬Own c U a)(h2:¬f7 c a)(h3:c.g.get? a=none)(hl:i8 s.heap a vs)(iv:aM s.heap vs xs):
 U a=none/\R D.prog D.w c lo (U.set a<|.list xs) s:=r.Ba h1 h2 h3 rfl ⟨vs,hl,iv⟩
structure Off (c:Cx)(U:St)(a:Addr):Prop where
 own:¬Own c U a
 fr:¬f7 c a
 g:c.g.get? a=none
theorem R.off (r:R D.prog D.w c lo U s)(hb:s.heap.get? b=none):Off c U b:=let ⟨a,b,c⟩:=r.there hb;⟨a,b,c⟩
theorem Off.step (x:Off c U a)(st:Step c U s σ' s'){o:Obj}(h:s.heap.get? a=some o):Off c σ' a:=by
 rw[⟨λz=>?_,x.fr,x.g⟩];rcases st.grow a z with z|z
 ·rw[x.own z]
 ·rw[ak z h]
theorem Off.le (x:Off c τ a)(h:U.le τ):Off c U a:=⟨λz=>x.own<|z.le h,x.fr,x.g⟩
theorem Off.at (x:Off c U a)(st:Step c U s σ' s'){o:Obj}(h:s.heap.get? a=some o):s'.heap.get? a=some o:=by
 rcases st.keep a o h x.own with e|⟨f,_⟩
 ·rw[e]
 ·rw[absurd f x.fr]
theorem R.turn (r:R D.prog D.w c lo U s)(x:Off c U a)(hs:∀o,s.heap.get? a=some o->¬dW o)(same:∀b o,b≠a->s.heap.get? b=some o->h'.get? b=some o):R D.prog D.w c lo U {s with heap:=h',toks:=tk}/\dM s.heap h':=by
 obtain ⟨r',kv⟩:=r.noted (X:=λb=>b=a) (h':=h') (λb o z _ e=>same b o z e) (λb o f e=>⟨o.slots,same b o (λz=>x.fr<|z▸f) e⟩) λb z=>by
  clear same;subst z;rw[⟨x.own,x.fr,x.g,hs⟩]
 rw[⟨r'.tok tk,kv⟩]
theorem Step.turn (st:Step c Tp Sk U s)(fr:¬f7 c a)(hn:Sk.heap.get? a=Option.none)(same:∀b o,b≠a->s.heap.get? b=some o->h'.get? b=some o):Step c Tp Sk U {s with heap:=h',toks:=tk}:=
 (st.noted (h':=h') (X:=λb=>b=a) (λb o z _ e=>same b o z e) (λb o f e=>⟨o.slots,same b o (λz=>fr<|z▸f) e⟩) λb z=>by clear fr same;subst z;rw[hn]).trans (.tok tk)
theorem pU {items:Array Value}(x:h.IsList a items):∀o,h.get? a=some o->¬dW o:=λo e=>by
 obtain ⟨o',e',hc,_⟩:=x;rw[e] at e';(obtain rfl:=sI e';clear e');rintro (⟨q,_⟩|⟨q,_⟩)<;>rw[hc] at q<;>simp at q
theorem Obj.s7 (f:Array Value->Array Value):∃n',Obj.mapSeq f {cls:=.type "list",data:=.seq vs.toArray n}={cls:=.type "list",data:=.seq (f vs.toArray) n'}:=⟨_,rfl⟩
theorem i8.upd (x:i8 h a vs)(e:f vs.toArray=ws.toArray):i8 (h.update a<|Obj.mapSeq f) a ws:=by
 right;obtain ⟨o,eo,n,rfl⟩:=x;obtain ⟨n',q⟩:=Obj.s7 (vs:=vs) (n:=n) f;symm;rw[⟨_,Heap.get?_update_self _ eo<|af q rfl,n',by rw[af q<|af e rfl]⟩]
theorem qu {l:Addr}{x:Value}(hl:i8 s.heap l vs)
 (hQ:∀h',i8 h' l (vs++[x])->Heap.SameBut l s.heap h'->Q .none {s with heap:=h'}) (Ve:vs.length<=sizeLine):
 wpAny (model prog w) A (call (.builtin "list.append") [.ref l,x]) Q E s:=by
 right;obtain ⟨o,eo,n,rfl⟩:=id hl;symm;exact call_meets slot_list_append hl.isList.typeIs entry_list_append (args_list_append _ _) (AutoListH.list_append_list_val_0 l vs.toArray n x<|af List.size_toArray Ve)
  ⟨eo,hQ _ (hl.upd<|by simp)<|Heap.SameBut.update ..⟩
theorem mQ (x:h.Ns a m):∀o,h.get? a=some o->¬dW o:=λo e=>by
 obtain ⟨o',es,ep,e',hd,_⟩:=x;rw[e] at e';(obtain rfl:=sI e';clear e');rintro (⟨_,vs,n,q⟩|⟨_,ws,q⟩)<;>rw[hd] at q<;>rw[bU Data.ctorIdx q rfl]
theorem uW (x:jO s.heap it Sj R6)(h:Q (.ref it) s):wpAny (model D.prog D.w) A (pyIter<|.ref it) Q E s:=by
 cases Sj with
 |lst l all=>obtain ⟨i,TG,_⟩:=x;rw[wpAny_pyIter_listiter TG h]
 |free=>
  rcases x with ⟨x,left,step,TG,_⟩|⟨x,t,i,TG,_⟩
  ·rw[wpAny_pyIter_rangeiter TG h]
  ·rw[wpAny_pyIter_striter_ascii TG h]
theorem ES (hc:bK D n c)(hs:c.env.scope=sc)(r:R D.prog D.w c lo U s)(h:vJ D n sc Tc lo U kb):
 wpAny (model D.prog D.w) c.A (forIn Tc true λe r=>if r=true then do let ok <- isTrue e c.env<|eval e c.env;pure (ForInStep.yield ok) else pure (ForInStep.yield r))
  (λb s'=>∃σ',R D.prog D.w c lo σ' s'/\Step c U s σ' s'/\kb b σ') (λ_ _=>False) s:=by
 match Tc,h with
 |[],h=>rw[wpAny_tests_nil ⟨U,r,.refl,h⟩]
 |[e],h=>rw[wpAny_tests_one<|wpAny_mono (h c hc hs s r .nil) (λb s' ⟨b',σ',r',st,e,q⟩=>by cases e;rw[⟨σ',r',st,q⟩]) λ_ _ z=>z.no]
structure jP (sc scope:Scope)(lo RY:Lo):Prop where
 kind:scope.kind=.function
 nd:(scope.names.map (·.1)).Nodup
 free:∀p∈scope.names,p.2=.free->sc.names.lookup p.1=some .cell\/sc.names.lookup p.1=some .free
 cap:∀p∈RY,(p.1,NameKind.free)∈scope.names/\lo.lookup p.1=RY.lookup p.1
 all:∀p∈scope.names,p.2=.free->lo.lookup p.1=RY.lookup p.1
theorem d9 {α:Type}{l:List<|Str×α}(nd:(l.map (·.1)).Nodup){x:Str}{v:α}(h:(x,v)∈l):l.lookup x=some v:=by
 induction l with
 |nil=>cases h
 |cons p r ih=>
  rw[List.map_cons,List.nodup_cons] at nd;rw[af List.lookup_cons ?_];rcases ek h with z|z
  ·clear nd h;cases z;rw[af (beq_self_eq_true ..) rfl]
  ·have:(x==p.1)=false:=beq_eq_false_iff_ne.mpr λw=>nd.1 (w▸List.mem_map_of_mem (f:=(·.1)) z);rw[af this<|ih nd.2 z]
inductive CompEnd (D:cN)(c:Cx)(lo:Lo)(Tp:St)(Sk:Shared)(kk:List V->St->Prop)(Sa:Value)(L':Addr)(s':Shared):Prop
 |mk (a:Addr) (Sy:List V) (σ':St) (ea:Sa=.ref a) (x1:σ' a=none) (r:R D.prog D.w c lo (σ'.set a (.list Sy)) s') (st:Step c Tp Sk (σ'.set a (.list Sy)) s') (off:Off c (σ'.set a (.list Sy)) L') (x2:Sk.heap.get? L'=none) (x3:∃m,s'.heap.Ns L' m) (h:kk Sy σ')
end
variable {Z:Addr->Prop}{J:Heap->List V->Prop}
structure xm (D:cN)(n:Nat)(Sj:Src)(target:Expr)(it:Addr)(Z:Addr->Prop)(J:Heap->List V->Prop):Prop where
 kind:∀{h:Heap} {R6 b},J h R6->Z b->(∃o,h.get? b=some o)/\∀o,h.get? b=some o->¬dW o
 same:∀{h h':Heap} {R6},J h R6->(∀b o,Z b->h.get? b=some o->h'.get? b=some o)->J h' R6
 next:∀{c:Cx} {lo U s v R6} {Q:Option Value->Shared->Prop},0<n->bK D n c->R D.prog D.w c lo U s->bJ U Sj->J s.heap (v::R6)->
  (∀Sg tk v',(∀Q':Unit->Shared->Prop,(∀h',J h' R6->cz h' v' v->(∀b o,¬Z b->s.heap.get? b=some o->h'.get? b=some o)->Q' () {s with heap:=h',toks:=tk})->
    wpAny (model D.prog D.w) c.A (letOwnedTupleGo target (.ref it) v') Q' (λ_ _=>False) {s with heap:=Sg,toks:=tk})->Q (some v') {s with heap:=Sg,toks:=tk})->
  wpAny (model D.prog D.w) c.A (pyNext<|.ref it) Q (λ_ _=>False) s
 done:∀{c:Cx} {lo U s} {Q:Option Value->Shared->Prop},0<n->bK D n c->R D.prog D.w c lo U s->bJ U Sj->J s.heap []->
  (∀h',(∀b o,¬Z b->s.heap.get? b=some o->h'.get? b=some o)->Q none {s with heap:=h'})->wpAny (model D.prog D.w) c.A (pyNext<|.ref it) Q (λ_ _=>False) s
 again:∀{A:Around} {s:Shared} {R6} {Q:Value->Shared->Prop} {E:Value->Shared->Prop},J s.heap R6->Q (.ref it) s->wpAny (model D.prog D.w) A (pyIter<|.ref it) Q E s
section
variable {v:V}{k:Fl->Lo->St->Prop}{ke:ji} 
theorem R.CY (r:R D.prog D.w c lo U s)(x:∀b,Z b->Off c U b)(hs:∀b,Z b->∀o,s.heap.get? b=some o->¬dW o)(same:∀b o,¬Z b->s.heap.get? b=some o->h'.get? b=some o):R D.prog D.w c lo U {s with heap:=h',toks:=tk}/\dM s.heap h':=by
 obtain ⟨r',kv⟩:=r.noted (X:=Z) (h':=h') (λb o z _ e=>same b o z e) (λb o f e=>⟨o.slots,same b o (λz=>(x b z).fr f) e⟩) λb z=>⟨(x b z).own,(x b z).fr,(x b z).g,hs b z⟩;rw[⟨r'.tok tk,kv⟩]
inductive RQ (D:cN)(n:Nat)(sc:Scope)(target:Expr)(Tc:List Expr)(S8:Expr)(lo:Lo)(Sj:Src)(c:Cx)(U:St)(s:Shared)(a:Addr)(kk:List V->St->Prop)(Z:Addr->Prop)(J:Heap->List V->Prop)(m:Nat)(RT:Shared):Prop
 |mk (R6 Sy:List V) (RS:St) (em:m=R6.length) (r:R D.prog D.w c lo RS RT) (oi:∀b,Z b->Off c RS b) (oa:Off c RS a) (ia:J RT.heap R6) (ok:bJ RS Sj) (l:∃vs:List Value,i8 RT.heap a vs/\aM RT.heap vs Sy) (hz:Sy.length+R6.length<=100000)
   (kp:∀b o,¬Z b->b≠a->¬Own c U b->s.heap.get? b=some o->RT.heap.get? b=some o\/(f7 c b/\∃sl,RT.heap.get? b=some {o with slots:=sl})) (gr:je c U s.heap RS) (dm:∀b o,s.heap.get? b=some o->¬Z b->∃o',RT.heap.get? b=some o') (hk:yy D n sc target Tc S8 lo Sj R6 Sy RS kk)
theorem t7 (G:xm D n Sj target it Z J)(Sq:0<n)(hc:bK D n c)(hs:c.env.scope=sc){items:List V}{kk:List V->St->Prop}{P:Shared->Prop}(r:R D.prog D.w c lo U s)(ok:bJ U Sj)(ia:J s.heap items)
 (oi:∀b,Z b->Off c U b) (oa:Off c U a) (ne:¬Z a) (hl:i8 s.heap a []) (hz:items.length<=100000) (h:yy D n sc target Tc S8 lo Sj items [] U kk)
 (fin:∀s' σ' Sy,R D.prog D.w c lo σ' s'->Off c σ' a->(∃vs:List Value,i8 s'.heap a vs/\aM s'.heap vs Sy)->(∀b o,¬Z b->b≠a->¬Own c U b->s.heap.get? b=some o->s'.heap.get? b=some o\/(f7 c b/\∃sl,s'.heap.get? b=some {o with slots:=sl}))->je c U s.heap σ'->(∀b o,s.heap.get? b=some o->¬Z b->∃o',s'.heap.get? b=some o')->kk Sy σ'->P s'):
 codeAny (model D.prog D.w) c.A (.compLoop (.ListComp S8 [⟨target,iter,Tc,0⟩] scope pos) 0 (.ref it) (.ref a) c.env) (λr s'=>match r with|.ok _=>P s'|.error _=>False) s:=by
 refine rR (RQ D n sc target Tc S8 lo Sj c U s a kk Z J)
  (λm RT ⟨R6,Sy,RS,em,RX,oi₁,oa₁,ia₁,ok₁,⟨vs,l1,l2⟩,hz₁,kp,gr,dm,hk⟩=>?_) items.length ⟨items,[],U,rfl,r,oi,oa,ia,ok,⟨[],hl,.nil⟩,by simpa using hz,λb o _ _ _ e=>.inl e,.refl,λb o e _=>⟨o,e⟩,h⟩
 subst em
 cases R6 with
 |nil=>
  rw[G.done Sq hc RX ok₁ ia₁ λSi same=>?_];right;have rr:=RX.CY (tk:=RT.toks) oi₁ (λb z=>(G.kind ia₁ z).2) same;obtain ⟨o,eo,q⟩:=l1;symm;rw[fin _ RS Sy rr.1 oa₁ ⟨vs,⟨o,same a o ne eo,q⟩,l2.aE rr.2⟩ (λb o h1 h2 h3 e=>?_) gr (λb o e h1=>?_) hk]
  ·rcases kp b o h1 h2 h3 e with e'|⟨f,sl,e'⟩
   ·rw[.inl<|same b o h1 e']
   ·rw[.inr ⟨f,sl,same b _ h1 e'⟩]
  ·obtain ⟨o',e'⟩:=dm b o e h1;rw[⟨o',same b o' h1 e'⟩]
 |cons v R6=>
  rw[G.next Sq hc RX ok₁ ia₁ λUl tk₂ v' hgo=>hgo _ λSi Tf Uz same=>?_];have rr:=RX.CY (tk:=tk₂) oi₁ (λb z=>(G.kind ia₁ z).2) same;rw[wpAny_mono (hk c v' hc hs _ rr.1 Uz) (λ_ R8 w9=>?_) λ_ _ z=>z.no];obtain ⟨Sw,R1,So,SA,SM,q⟩:=w9;rw[wpAny_mono (ES hc hs So q) (λb Sz ⟨SY,Tg,SO,q⟩=>?_) λ_ _ z=>z];right;have st34:=SA.trans SO;have hth:∀b,Z b->∃o,Si.get? b=some o:=λb z=>(G.kind Tf z).1;obtain ⟨Xe,Yk,ql⟩:=l1;have eal₂:Si.get? a=some Xe:=same a Xe ne Yk;have after:∀{SR:Shared} {SN:St},Step c RS {RT with heap:=Si,toks:=tk₂} SN SR->
   A8 (∀b,Z b->Off c SN b) (Off c SN a) (J SR.heap R6) (SR.heap.get? a=some Xe) (aM SR.heap vs Sy)
   (∀b o,¬Z b->b≠a->¬Own c U b->s.heap.get? b=some o->SR.heap.get? b=some o\/(f7 c b/\∃sl,SR.heap.get? b=some {o with slots:=sl})) (je c U s.heap SN) (∀b o,s.heap.get? b=some o->¬Z b->∃o',SR.heap.get? b=some o'):=λ{SR SN} st=>by
   have e1:∀b o,Z b->Si.get? b=some o->SR.heap.get? b=some o:=λb o z e=>(oi₁ b z).at (o:=o) st e;have e2:=oa₁.at (o:=Xe) st eal₂;rw[⟨λb z=>by obtain ⟨o,e⟩:=hth b z;rw[(oi₁ b z).step (o:=o) st e],oa₁.step st eal₂,G.same Tf e1,e2,(l2.aE rr.2).aE<|rr.1.aE st.keep,λb o h1 h2 h3 e=>?_,λb q=>?_,λb o e h1=>?_⟩]
   ·have notOwn:¬Own c RS b:=λz=>by
     rcases gr b z with z|z
     ·rw[h3 z]
     ·rw[ak z e]
    rcases kp b o h1 h2 h3 e with e'|⟨f,sl,e'⟩
    ·rw[st.keep b o (same b o h1 e') notOwn]
    ·rcases st.keep b _ (same b _ h1 e') notOwn with UY|⟨_,XE,UY⟩
     ·rw[.inr ⟨f,sl,UY⟩]
     ·rw[.inr ⟨f,XE,UY⟩]
   ·rcases st.grow b q with z|z
    ·rw[gr b z]
    ·by_cases w:Z b
     ·obtain ⟨oh,eh⟩:=hth b w;rw[ak z<|(show ({RT with heap:=Si,toks:=tk₂}:Shared).heap.get? b=Si.get? b from rfl).trans eh]
     ·cases y:s.heap.get? b with
      |none=>rw[.inr rfl]
      |some o=>
       obtain ⟨o',e'⟩:=dm b o y w;rw[ak z<|(show ({RT with heap:=Si,toks:=tk₂}:Shared).heap.get? b=Si.get? b from rfl).trans<|same b o' w e']
   ·obtain ⟨o',e'⟩:=dm b o e h1;rw[st.dom b o'<|same b o' h1 e']
  symm
  cases b with
  |false=>
   right;obtain ⟨SN,a1,a2,a3⟩:=q;obtain ⟨b1,b2,b3,b4,b5,b6,b7,b8⟩:=after st34;symm;rw[⟨R6.length,Nat.lt_succ_self _,R6,Sy,SN,rfl,(Tg.le a1).Ce SM,λb z=>(b1 b z).le a1,b2.le a1,b3,a2,⟨vs,⟨Xe,b4,ql⟩,b5⟩,by rw[List.length_cons] at hz₁;rw[Nat.le_of_lt hz₁],b6,b7.le a1,b8,a3⟩]
  |true=>
   rw[wpAny_mono (q c hc hs Sz Tg .nil) (λxv SR w9=>?_) λ_ _ z=>z.no];right;obtain ⟨x,SN,TF,Te,ix,Xz,a1,a2,a3⟩:=w9;obtain ⟨b1,b2,b3,b4,b5,b6,b7,b8⟩:=after<|st34.trans Te;have hla:i8 SR.heap a vs:=⟨Xe,b4,ql⟩;symm;rw[qu hla (λXM Wi U1=>?_) (by rw[af b5.length ?_];rw[List.length_cons] at hz₁;rw[Nat.le_trans (by rw[Nat.le_trans (Nat.le_add_right _ _) hz₁]:Sy.length<=100000) ac])];have same₆:∀b o,b≠a->SR.heap.get? b=some o->XM.get? b=some o:=λb o hb e=>(U1.2 b hb).trans e;have rr₆:=TF.turn (tk:=SR.toks) b2 (pU hla.isList) same₆;rw[⟨R6.length,Nat.lt_succ_self _,R6,Sy++[x],Xz,rfl,(rr₆.1.le a1).Ce SM,λb z=>(b1 b z).le a1,b2.le a1,G.same b3 λb o z e=>same₆ b o (λw=>ne<|w▸z) e,a2,⟨vs++[xv],by simpa using Wi,(b5.aE rr₆.2).append<|.cons (ix.aE rr₆.2) .nil⟩,by rw[af List.length_append<|af List.length_singleton ?_];rw[List.length_cons] at hz₁;lia,λb o h1 h2 h3 e=>?_,b7.le a1,λb o e h1=>?_,a3⟩]
   ·rcases b6 b o h1 h2 h3 e with e'|⟨f,sl,e'⟩
    ·rw[.inl<|same₆ b o h2 e']
    ·rw[.inr ⟨f,sl,same₆ b _ h2 e'⟩]
   ·obtain ⟨o',e'⟩:=b8 b o e h1
    by_cases w:b=a
    ·clear oa ne hl fin oa₁ kp Yk eal₂ after b2 b4 b6 hla U1 same₆;subst w;obtain ⟨Z6,UY,_⟩:=Wi;rw[⟨Z6,UY⟩]
    ·rw[⟨o',same₆ b o' w e'⟩]
theorem o5 (G:xm D n Sj target it Z J){items:List V}{Si:Heap}{tk₂:Nat}{kk:List V->St->Prop}(Sq:0<n)(hc:bK D n c)(hs:c.env.scope=sc)(SD:R D.prog D.w c lo U s)(ok:jP sc scope lo RY)
 (TL:closureFor scope c.env=pure cs) (q1:∀p∈cs,c.env.cells.lookup p.1=some p.2) (q2:∀p∈scope.names,p.2=.free->p.1∈cs.map (·.1)) (q3:∀p∈cs,(p.1,NameKind.free)∈scope.names)
 (YE:bJ U Sj) (hz:items.length<=100000) (hk:yy D n (cE sc scope) target Tc S8 RY Sj items [] U kk) (TY:∀b o,s.heap.get? b=some o->Si.get? b=some o) (nZ:∀b,Z b->s.heap.get? b=none) (ia:J Si items):
 wpAny (model D.prog D.w) c.A (newList []) (λSa R8=>
  wpAny (model D.prog D.w) c.A (newFunctionEnv scope c.env.globals cs [] c.env.qual none .none<|some c.env) (λcenv Sz=>
   codeAny (model D.prog D.w) c.A (.compStart (.ListComp S8 [⟨target,iter,Tc,0⟩] scope pos) 0 (.ref it) Sa {cenv with scope:=cE c.env.scope scope}) (λr s'=>match r with
    |.error _=>False
    |.ok _=>CompEnd D c lo U s kk Sa cenv.locals s') Sz) (λ_ _=>False) R8) (λ_ _=>False) {s with heap:=Si,toks:=tk₂}:=by
 have R7:=SD.more (tk:=tk₂) TY;rw[wpAny_newObj_type ?_<|by size_fits];generalize UA:({s with heap:=Si,toks:=tk₂}:Shared)=RZ at*;have hh₂:RZ.heap=Si:=by clear R7;subst UA;rfl
 have k₃:∀b o,RZ.heap.get? b=some o->(RZ.heap.push {cls:=.type "list",data:=.seq ([]:List Value).toArray}).get? b=some o:=λb o e=>Heap.get?_push_of_some _ e;have So:=R7.more (tk:=RZ.toks) k₃;generalize ha:RZ.heap.objs.size=a;have na:RZ.heap.get? a=none:=by subst ha;rw[bW _]
 have la:(RZ.heap.push {cls:=.type "list",data:=.seq ([]:List Value).toArray}).get? a=some {cls:=.type "list",data:=.seq ([]:List Value).toArray}:=by clear na;subst ha;rw[Heap.get?_push_size _ rfl]
 generalize hs₃:({RZ with heap:=RZ.heap.push {cls:=.type "list",data:=.seq ([]:List Value).toArray}}:Shared)=R8 at*;have hh₃:R8.heap=RZ.heap.push {cls:=.type "list",data:=.seq ([]:List Value).toArray}:=by clear So;subst hs₃;rfl
 have r₃':R D.prog D.w c lo U R8:=by clear hh₃;subst hs₃;rw[So]
 rw[<- hh₃] at la;have k₃':∀b o,RZ.heap.get? b=some o->R8.heap.get? b=some o:=af hh₃ k₃;rw[oj λSS VV Wg U6=>?_];generalize hL:R8.heap.objs.size=L' at*;have nL:R8.heap.get? L'=none:=by clear Wg U6;subst hL;rw[bW _]
 have Yu:c.env.scope=sc:=hs
 let env':Env:={scope:=cE c.env.scope scope,locals:=L',globals:=c.env.globals,cells:=cellsFrom (L'+1) scope.names cs,qual:=c.env.qual,func:=none,code:=c.env.code,frame:=c.env.frame,builtins:=c.env.builtins}
 let c':Cx:={g:=c.g,A:=c.A,env:=env',mV:=c.mV,os:=c.os}
 have scl:∀y k',(cE c.env.scope scope).names.lookup y=some k'->∃kd,scope.names.lookup y=some kd/\(kd=k'\/(kd=.free/\k'=.cell)):=λy k' e=>by
  rw[jK] at e
  cases q:scope.names.lookup y with
  |none=>rw[q] at e;rw[aq e]
  |some kd=>
   rw[q,Option.map_some] at e;rw[⟨kd,rfl,?_⟩]
   by_cases w:(kd==NameKind.free&&c.env.scope.kind==ScopeKind.function&&List.lookup y c.env.scope.names==some NameKind.cell)=true
   ·rw[if_pos w] at e;have:kd=.free:=by simp only [Bool.and_eq_true,beq_iff_eq] at w;rw[w.1.1]
    rw[.inr ⟨this,(Option.some.inj e).symm⟩]
   ·rw[if_neg w] at e;rw[.inl<|Option.some.inj e]
 have freeKind:∀y,(y,NameKind.free)∈scope.names->(cE c.env.scope scope).names.lookup y=some .cell\/(cE c.env.scope scope).names.lookup y=some .free:=λy hy=>by
  rw[af (jK ..)<|af (d9 ok.nd hy)<|af (Option.map_some ..) ?_]
  split
  ·rw[.inl rfl]
  ·rw[.inr rfl]
 have csMem:∀y,(y,NameKind.free)∈scope.names->∃b,cs.lookup y=some b/\c.env.cells.lookup y=some b:=λy hy=>by
  obtain ⟨b,hb⟩:=Option.isSome_iff_exists.mp<|eY<|q2 (y,.free) hy rfl;rw[⟨b,hb,q1 (y,b)<|mem_of_lookup hb⟩]
 have skip:∀y,(y,NameKind.free)∈scope.names->(cellsFrom (L'+1) scope.names cs).lookup y=cs.lookup y:=λy hy=>kG _ _ _ λp hp hpk w=>by
  have e1:=d9 ok.nd hy;have e2:=d9 ok.nd<|show (p.1,p.2)∈scope.names from hp;rw[w,e1,hpk] at e2;rw[bU NameKind.ctorIdx (sI e2) rfl]
 have hce':∀y,(c'.env.scope.names.lookup y=some .cell\/c'.env.scope.names.lookup y=some .free)->(c'.env.cells.lookup y).isSome=true:=λy hy=>by
  rcases hy with hy|hy<;>obtain ⟨kd,e,q⟩:=scl y _ hy
  ·rcases q with q|⟨q,_⟩
   ·subst q;rw[cellsFrom_some _ _ _<|.inl e]
   ·subst q;rw[cellsFrom_some _ _ _<|.inr<|eY<|q2 _ (mem_of_lookup e) rfl]
  ·rcases q with q|⟨q,z⟩
   ·subst q;rw[cellsFrom_some _ _ _<|.inr<|eY<|q2 _ (mem_of_lookup e) rfl]
   ·rw[bU NameKind.ctorIdx z rfl]
 have UW:bK D n c':={kind:=ok.kind,glob:=hc.glob,bi:=hc.bi,K:=hc.K,top:=hc.top,m8:=hc.m8,hd:=hc.hd,fr:=hc.fr,Ai:=hc.Ai,frs:=hc.frs,here:=hc.here,fh:=hce',depth:=hc.depth,units:=hc.units};have memc:∀y b,(cellsFrom (L'+1) scope.names cs).lookup y=some b->c.env.cells.lookup y=some b\/(R8.heap.get? b=none/\SS.IsCell b none/\b≠L'):=λy b e=>by
  rcases U6 y b (mem_of_lookup e) with z|⟨z1,z2⟩
  ·rw[.inl<|q1 _ z]
  ·have z1':R8.heap.objs.size<=b:=af hL<|Nat.le_of_succ_le z1;rw[.inr ⟨cG z1',z2,λw=>by rw[w] at z1;rw[Nat.not_succ_le_self _ z1]⟩]
 obtain ⟨m₀,ZH,m1,m2,_⟩:=id r₃'.lo;have Tg:R D.prog D.w c' RY U {R8 with heap:=SS,toks:=R8.toks}:=r₃'.E1 (c':=c') hc rfl rfl rfl VV Wg nL memc (λy y' b e e'=>by
  rw[mq scope.names (R8.heap.push {cls:=.type "dict",data:=.dict #[]}) cs (λy y' b z z'=>r₃'.bT _ _ _ (q1 _ z)<|q1 _ z') (λp hp=>?_) y y' b (af (Heap.size_push ..)<|af hL<|mem_of_lookup e)<|af (Heap.size_push ..)<|af hL<|mem_of_lookup e'];obtain ⟨o,eo,_⟩:=m2 _ _<|q1 p hp;rw[af (Heap.size_push ..)<|Nat.lt_succ_of_lt<|Heap.lt_size eo]) λy v e=>by
  obtain ⟨f1,f2⟩:=ok.cap _<|mem_of_lookup e;obtain ⟨b,g1,g2⟩:=csMem y f1;rw[⟨f2.trans e,freeKind y f1,⟨b,(skip y f1).trans g1,g2⟩,?_⟩];unfold Env.kindOf;rw[af hs ?_];rcases ok.free _ f1 rfl with w|w<;>rw[af w ?_]<;>decide
 have th:∀{b},s.heap.get? b=none->Off c U b:=λhb=>SD.off hb;have kall:∀b o,s.heap.get? b=some o->SS.get? b=some o:=λb o e=>VV b o<|k₃' b o<|af hh₂<|TY b o e;have sna:s.heap.get? a=none:=by
  cases q:s.heap.get? a with
  |none=>rfl
  |some o=>rw[hh₂,TY a o q] at na;rw[gu na]
 have snL:s.heap.get? L'=none:=by
  cases q:s.heap.get? L' with
  |none=>rfl
  |some o=>rw[ak nL<|k₃' L' o<|af hh₂<|TY _ o q]
 have there:∀b,Z b->∃o,RZ.heap.get? b=some o:=λb z=>by rw[af hh₂<|(G.kind ia z).1]
 have ne:¬Z a:=λz=>by obtain ⟨o,e⟩:=there a z;rw[ak na e]
 have neL:¬Z L':=λz=>by obtain ⟨o,e⟩:=there L' z;rw[ak nL<|k₃' _ o e]
 have naL:L'≠a:=λz=>by rw[z,la] at nL;rw[gu nL]
 have off':∀b,s.heap.get? b=none->b≠L'->(∀o,R8.heap.get? b=some o->True)->R8.heap.get? b≠none->Off c' U b:=λb hb hbL _ h3=>by
  rw[⟨λz=>?_,(th hb).fr,(th hb).g⟩];rcases z with z|z|z|⟨y,z⟩
  ·rw[(th hb).own<|.inl z]
  ·rw[(th hb).own<|.inr<|.inl z]
  ·rw[hbL z]
  ·rcases memc y b z with w|w
   ·rw[(th hb).own<|.inr<|.inr<|.inr ⟨y,w⟩]
   ·rw[h3 w.1]
 have Tf:J RZ.heap items:=af hh₂ ia;have ia₄:J SS items:=G.same Tf λb o _ e=>VV b o<|k₃' b o e;have lst:i8 SS a []:=⟨_,VV a _ la,0,rfl⟩;have core:codeAny (model D.prog D.w) c.A (.compLoop (.ListComp S8 [⟨target,iter,Tc,0⟩] scope pos) 0 (.ref it) (.ref a) env') (λr s'=>match r with|.ok _=>CompEnd D c lo U s kk (.ref a) L' s'|.error _=>False) {R8 with heap:=SS}:=by
  refine t7 G Sq (c:=c') (sc:=cE sc scope) (items:=items) (kk:=kk) UW (by show cE c.env.scope scope=_;rw[af hs rfl]) Tg YE ia₄ (λb z=>off' b (nZ b z) (λw=>neL<|w▸z) (λ_ _=>trivial) (by obtain ⟨o,e⟩:=there b z;rw[af (k₃' b o e)<|Option.some_ne_none _])) (off' a sna (Ne.symm naL) (λ_ _=>trivial)<|af la<|Option.some_ne_none _) ne lst hz hk
   λs' σ' Sy r' oa' ⟨vs,l1,l2⟩ kp gr dm hkk=>?_
  have grw:je c' U s.heap σ':=λb q=>by
   rcases gr b q with z|z
   ·rw[.inl z]
   ·cases e:s.heap.get? b with
    |none=>rw[.inr rfl]
    |some o=>
     rw[show ({R8 with heap:=SS,toks:=R8.toks}:Shared).heap.get? b=SS.get? b from rfl,kall b o e] at z;rw[gu z]
  have st:Step c' U s σ' s':=⟨λb o e q=>kp b o (λz=>by rw[nZ b z] at e;rw[aq e]) (λz=>by rw[z,sna] at e;rw[aq e]) q<|kall b o e,grw,λb o e=>dm b o (kall b o e) λz=>by rw[nZ b z] at e;rw[aq e]⟩;obtain ⟨TF,Te⟩:=SD.EF (c':=c') (λb o e=>e) snL rfl rfl rfl (λy b e=>(memc y b e).imp id λz=>by
   cases q:s.heap.get? b with
   |none=>rfl
   |some o=>rw[k₃' b o<|af hh₂<|TY b o q] at z;cases z.1) r' st (λy v b e1 e2 e3=>by
   rcases U6 y b (mem_of_lookup e2) with z|⟨z1,z2⟩
   ·rw[(ok.all _ (q3 _ z) rfl).symm.trans e1]
   ·obtain ⟨o,eo,_⟩:=m2 y b e3;rw[ak (cG<|af hL<|Nat.le_of_lt z1) eo]) (λy b e2 e3=>by
   rcases U6 y b (mem_of_lookup e2) with z|⟨z1,z2⟩
   ·show (cE c.env.scope scope).names.lookup y≠_;rcases freeKind y (q3 _ z) with w|w<;>rw[af w ?_]<;>decide
   ·obtain ⟨o,eo,_⟩:=m2 y b e3;rw[ak (cG<|af hL<|Nat.le_of_lt z1) eo])
  have offc:∀b,s.heap.get? b=none->(∀z,¬((∃o,σ' z=some o/\o.own=true/\z=b)\/∃y o,σ' y=some o/\o.dictAt=some b))->Off c σ' b:=λb hb hz=>by
   rw[⟨λz=>?_,(th hb).fr,(th hb).g⟩];rcases z with ⟨o,z1,z2⟩|z|z
   ·rw[hz b<|.inl ⟨o,z1,z2,rfl⟩]
   ·rw[hz b<|.inr z]
   ·rw[(th hb).own<|.inr<|.inr z]
  have oac:Off c σ' a:=offc a sna λz w=>oa'.own (by
   rcases w with ⟨o,w1,w2,w3⟩|w
   ·clear ha la sna ne naL lst oa' kp l1;subst w3;rw[.inl ⟨o,w1,w2⟩]
   ·rw[.inr<|.inl w])
  obtain ⟨VW,Uj⟩:=TF.adopt oac.own oac.fr oac.g l1 l2;have offL:Off c (σ'.set a<|.list Sy) L':=by
   rw[⟨λz=>?_,(th snL).fr,(th snL).g⟩];rcases z with ⟨o,z1,z2⟩|⟨y,o,z1,z2⟩|z
   ·rw[St.ai naL] at z1;rw[(r'.apart _ _ z1 z2).1 rfl]
   ·by_cases w:y=a
    ·clear ha la sna ne naL lst oa' kp l1 oac VW Uj;subst w;rw[St.ah] at z1;(obtain rfl:=sI z1;clear z1);rw[aq z2]
    ·rw[St.ai w] at z1;rw[(r'.aG _ _ _ z1 z2).1 rfl]
   ·rw[(th snL).own<|.inr<|.inr z]
  rw[⟨a,Sy,σ',rfl,VW,Uj,⟨Te.keep,λb q=>?_,Te.dom⟩,offL,snL,?_,hkk⟩]
  ·rcases q with ⟨o,z1,z2⟩|⟨y,o,z1,z2⟩|z
   ·by_cases w:b=a
    ·clear ha la ne naL lst oa' kp l1 oac VW Uj offL z1;subst w;rw[.inr sna]
    ·rw[St.ai w] at z1;rw[Te.grow b<|.inl ⟨o,z1,z2⟩]
   ·by_cases w:y=a
    ·clear ha la sna ne naL lst oa' kp l1 oac VW Uj offL;subst w;rw[St.ah] at z1;(obtain rfl:=sI z1;clear z1);rw[aq z2]
    ·rw[St.ai w] at z1;rw[Te.grow b<|.inr<|.inl ⟨y,o,z1,z2⟩]
   ·rw[.inl<|.inr<|.inr z]
  ·obtain ⟨m,_,hm,_⟩:=r'.lo;rw[⟨m,hm⟩]
 have core':codeAny (model D.prog D.w) c.A (.compLoop (.ListComp S8 [⟨target,iter,Tc,0⟩] scope pos) 0 (.ref it) (.ref a) env') (λr s'=>match r with|.error _=>False|.ok _=>CompEnd D c lo U s kk (.ref a) L' s') {R8 with heap:=SS}:=
  codeAny_mono core λr s' z=>by cases r<;>rw[z]
 rw[codeAny_compStart_list core'<|G.again (s:={R8 with heap:=SS}) ia₄ core']
theorem Ae:xm D n Sj target it (λb=>b=it) (λh R6=>jO h it Sj R6) where
 kind:=by
  rintro h R6 b x rfl;right;obtain ⟨o,_,_,e,_⟩:=x.kind;symm;rw[⟨⟨o,e⟩,x.jz⟩]
 same:=λx hs=>x.same λo e=>hs _ o rfl e
 next:=by
  intro c lo U s v R6 Q Sq hc r ok ia hQ;rw[next_item r ok ia λh' tk v' Tf Uz same Us=>hQ h' tk v' λQ' hq=>mS (s:={s with heap:=h',toks:=tk}) Tf<|hq h' Tf (Uz.aE λb o e st=>same b o (λz=>?_) e) same];clear hQ Tf same Us hq;subst z;rw[ia.jz o e st]
 done:=λSq hc r ok ia hQ=>next_end (hc.hd Sq) r ok ia hQ
 again:=λx h=>uW x h
theorem qI {xv:Value}{kk:List V->St->Prop}(Sq:0<n)(hc:bK D n c)(hs:c.env.scope=sc)(SD:R D.prog D.w c lo U s)(iv:cz s.heap xv x)(ok:jP sc scope lo RY)
 (TL:closureFor scope c.env=pure cs) (q1:∀p∈cs,c.env.cells.lookup p.1=some p.2) (q2:∀p∈scope.names,p.2=.free->p.1∈cs.map (·.1)) (q3:∀p∈cs,(p.1,NameKind.free)∈scope.names)
 (h:ki D n x U λSj items=>items.length<=100000/\yy D n (cE sc scope) target Tc S8 RY Sj items [] U kk):
 wpAny (model D.prog D.w) c.A (pyIter xv) (λit RZ=>wpAny (model D.prog D.w) c.A (newList []) (λSa R8=>
  wpAny (model D.prog D.w) c.A (newFunctionEnv scope c.env.globals cs [] c.env.qual none .none<|some c.env) (λcenv Sz=>
   codeAny (model D.prog D.w) c.A (.compStart (.ListComp S8 [⟨target,iter,Tc,0⟩] scope pos) 0 it Sa {cenv with scope:=cE c.env.scope scope}) (λr s'=>match r with
    |.error _=>False
    |.ok _=>CompEnd D c lo U s kk Sa cenv.locals s') Sz) (λ_ _=>False) R8) (λ_ _=>False) RZ) (λ_ _=>False) s:=by
 right;obtain ⟨Sj,items,YE,⟨hz,hk⟩,TG⟩:=h;symm;rw[TG c lo xv s _ _ hc SD iv λit Si tk₂ TY Vq ia=>o5 Ae Sq hc hs SD ok TL q1 q2 q3 YE hz hk TY (λb e=>e▸Vq) ia]
end
variable {ks:Fl->Lo->St->Prop}{US:ji}
section
theorem jP.names (ok:jP sc scope lo RY):∀x∈scope.names,x.2=NameKind.local->(cE sc scope).names.lookup x.1=some .local:=λx hx hl=>by
 have e:=d9 ok.nd<|show (x.1,x.2)∈scope.names from hx;rw[af (jK ..)<|af e<|af hl<|af (Option.map_some ..) rfl]
theorem CompEnd.done (st:Step c U s σ' RT)(x:CompEnd D c lo σ' RT (λSy RU=>∀a,RU a=none->k (.ref a) (RU.set a<|.list Sy)) Sa L s'):
 ∃m,s'.heap.Ns L m/\∀h',Heap.SameBut L s'.heap h'->Post D cz c lo U s k Sa {s' with heap:=h'}:=by
 obtain ⟨a,Sy,τ,e,hn,r,st',off,hnL,⟨m,hm⟩,hk⟩:=x;rw[⟨m,hm,λh' hs=>?_⟩];have same:∀b o,b≠L->s'.heap.get? b=some o->h'.get? b=some o:=λb o hb e=>(hs.2 b hb).trans e;obtain ⟨r',kv⟩:=r.turn (tk:=s'.toks) off (mQ hm) same;subst e;rw[⟨.ref a,_,r',st.trans<|st'.turn (tk:=s'.toks) off.fr hnL same,.ref a,hk a hn⟩]
theorem cU (ok:jP sc scope lo RY)(h:bY D n sc iter lo U (λx RS=>ki D n x RS λSj items=>items.length<=100000/\
 yy D n (cE sc scope) target Tc S8 RY Sj items [] RS (λSy RU=>∀a,RU a=none->k (.ref a) (RU.set a<|.list Sy))) ke)
 (hf:∀env x,foldedSetIterable iter env x=pure x:=by intros;rfl) (hn:0<n:=by rw[Nat.succ_pos _]):bY D n sc (.ListComp S8 [⟨target,iter,Tc,0⟩] scope pos) lo U k ke:=λc hc hs s r _=>by
 obtain ⟨cs,TL,q1,q2,q3⟩:=g7 (scope:=scope) (env:=c.env) λp hp hf=>hc.fh p.1 (by unfold Env.kindOf;rw[af hs<|ok.free p hp hf]);rw[ff (use:=none) rfl (hf _) TL ok.kind (af hs ok.names) (wpAny_mono (h c hc hs s r .nil) (λv RT w9=>?_) λ_ _ z=>z)];obtain ⟨x,RS,RX,st,i,q⟩:=w9;rw[wpAny_mono (qI hn hc hs RX i ok TL q1 q2 q3 q) (λit RZ Si=>wpAny_mono Si (λSa R8 Th=>wpAny_mono Th (λcenv Sz SS=>codeAny_mono SS λrr SR Uk=>?_) λ_ _ z=>z.elim) λ_ _ z=>z.elim) λ_ _ z=>z.elim]
 cases rr with
 |error _=>rw[Uk]
 |ok _=>rw[Uk.done st]
theorem rH (t e:Expr)(pos:Pos)(env:Env):exec (.Assign [t] e pos) env=(do
 standAt pos
 if <- swapsWithSole [t] e pos.line env then do
  evalThenUse e env λv=>assignAll v ((assignEach [t] env).map (·.2))
  pure .next
 else do
  let v <- eval e env
  assignStores env v (<- swappedStores [t] e env) ((assignEach [t] env).map (·.2))):=rfl
theorem l9 (S8 target iter:Expr)(Tc:List Expr)(scope:Scope)(pos:Pos)(env:Env)(use:Value->Sem Unit):
 evalThenUse (.ListComp S8 [⟨target,iter,Tc,0⟩] scope pos) env use=(do
  let _ <- comprehension (.ListComp S8 [⟨target,iter,Tc,0⟩] scope pos) scope env iter.pos (newList []) false (eval iter env)<|some use):=by
 rw[af (evalThenUse.eq_def ..) rfl]
theorem dD {y:Str}{U9 Vc:Pos}(ok:jP sc scope lo RY)(h:bY D n sc iter lo U (λx RS=>ki D n x RS λSj items=>items.length<=100000/\
 yy D n (cE sc scope) target Tc S8 RY Sj items [] RS (λSy RU=>∀a,RU a=none->ks .next (lo.put y<|.ref a) (RU.set a<|.list Sy))) (λC a τ=>US C a lo τ))
 (hy:sc.names.lookup y=some .local) (hw:∀env:Env,env.scope=sc->swapsWith (.ListComp S8 [⟨target,iter,Tc,0⟩] scope Vc) (some<|.Name y U9) pos.line env=pure true:=by intro env e;subst e;rfl)
 (hf:∀env x,foldedSetIterable iter env x=pure x:=by intros;rfl) (hn:0<n:=by rw[Nat.succ_pos _]):eU D n sc (.Assign [.Name y U9] (.ListComp S8 [⟨target,iter,Tc,0⟩] scope Vc) pos) lo U ks US:=λc hc hs s r=>by
 rw[af (rH ..) ?_];erw[show swapsWithSole [.Name y U9] (.ListComp S8 [⟨target,iter,Tc,0⟩] scope Vc) pos.line c.env=pure true from hw _ hs];right;obtain ⟨cs,TL,q1,q2,q3⟩:=g7 (scope:=scope) (env:=c.env) λp hp hf=>hc.fh p.1 (by unfold Env.kindOf;rw[af hs<|ok.free p hp hf]);symm;rw[wpAny_bind<|wpAny_standAt<|wpAny_bind<|wpAny_pure<|wpAny_bind ?_,af (l9 ..) ?_,af (show (assignEach [.Name y U9] c.env).map (·.2)=[assign (.Name y U9) c.env] from rfl) ?_,wpAny_bind<|ff rfl (hf _) TL ok.kind (af hs ok.names) (wpAny_mono (h c hc hs s r .nil) (λv RT w9=>?_) λ_ _ z=>z.toS)];obtain ⟨x,RS,RX,st,i,q⟩:=w9;rw[wpAny_mono (qI hn hc hs RX i ok TL q1 q2 q3 q) (λit RZ Si=>wpAny_mono Si (λSa R8 Th=>wpAny_mono Th (λcenv Sz SS=>codeAny_mono SS λrr SR Uk=>?_) λ_ _ z=>z.elim) λ_ _ z=>z.elim) λ_ _ z=>z.elim]
 cases rr with
 |error _=>rw[Uk]
 |ok _=>
  right;obtain ⟨a,Sy,τ,e,hn,TF,Te,off,hnL,⟨m,hm⟩,hk⟩:=Uk;clear Th SS;subst e;symm;show wpAny _ _ (assign (.Name y U9) c.env<|.ref a) _ _ SR;rw[af (assign_Name ..) ?_,wpAny_bind<|wpAny_standAt<|wpAny_mono (iJ hc (.inl (by unfold Env.kindOf;rw[af hs hy])) TF<|.ref a) (λ_ VU w9=>?_) λ_ _ z=>z];right;obtain ⟨l,Ur,Uj,T8,e1,e2⟩:=w9;subst e1;subst e2;obtain ⟨oL,es,ep,eL,m1⟩:=id hm;have hm₆:VU.heap.Ns cenv.locals m:=⟨oL,es,ep,off.at T8 eL,m1⟩;have off₆:=off.step T8 eL;symm;rw[⟨m,hm₆,λh' TH=>?_⟩];have same:∀b o,b≠cenv.locals->VU.heap.get? b=some o->h'.get? b=some o:=λb o hb e=>(TH.2 b hb).trans e;obtain ⟨r',kv⟩:=Uj.turn (tk:=VU.toks) off₆ (mQ hm₆) same;rw[wpAny_pure<|wpAny_pure ⟨.next,_,_,r',(st.trans<|(Te.trans T8).turn (tk:=VU.toks) off₆.fr hnL same),trivial,hk a hn⟩]
end
variable {j:Int}{ds:List PyData}{d:PyData}
theorem isInt (x:cz h v<|.int i):∃t,v=.int i t:=by cases x;rw[⟨_,rfl⟩]
theorem isStr {i:Str}(x:cz h v<|.str i):∃t,v=.str i t:=by cases x;rw[⟨_,rfl⟩]
theorem isNone (x:cz h v .none):v=.none:=by cases x;rfl
theorem isBool {b:Bool}(x:cz h v<|.bool b):v=.bool b:=by cases x;rfl
theorem isRef (x:cz h v<|.ref a):v=.ref a:=by cases x;rfl
theorem isAtom {u:Value}(x:cz h v<|.atom u):v=u:=by cases x;rfl
section
theorem fG {f:Int->Int->Int}(h:k (.int<|f i j) U)
 (q:∀(c:Cx) (s:Shared) (t u:Tok) (Q:Value->Shared->Prop),Q (.int (f i j) s.toks) {s with toks:=s.toks+1}->wpAny (model D.prog D.w) c.A (binaryOp op (.int i t)<|.int j u) Q (λ_ _=>False) s):jg D n op (.int i) (.int j) U k ke:=λc lo a b hc=>Tr.aW λs r iv Q hQ=>by
 obtain ⟨t,rfl⟩:=isInt iv.pair.2;obtain ⟨u,rfl⟩:=isInt iv.pair.1;rw[q c s t u Q<|hQ _ _ _ (.int _ _) h]
theorem rC {f:Int->Int->Int}(h:k (.int<|f i j) U)
 (q:∀(c:Cx) (s:Shared) (t u:Tok) (Q:Value->Shared->Prop),Q (.int (f i j) s.toks) {s with toks:=s.toks+1}->wpAny (model D.prog D.w) c.A (inplaceOp op (.int i t)<|.int j u) Q (λ_ _=>False) s):QY D n op (.int i) (.int j) U k ke:=λc lo a b hc=>Tr.aW λs r iv Q hQ=>by
 obtain ⟨t,rfl⟩:=isInt iv.pair.2;obtain ⟨u,rfl⟩:=isInt iv.pair.1;rw[q c s t u Q<|hQ _ _ _ (.int _ _) h]
theorem jY {op:CmpOp}{f:Int->Int->Bool}(h:k (.bool<|f i j) U)
 (q:∀(c:Cx) (s:Shared) (t u:Tok) (Q:Value->Shared->Prop),Q (.bool<|f i j) s->wpAny (model D.prog D.w) c.A (compareOp op (.int i t)<|.int j u) Q (λ_ _=>False) s):cZ D n op (.int i) (.int j) U k ke:=λc lo a b hc=>Tr.aW λs r iv Q hQ=>by
 obtain ⟨t,rfl⟩:=isInt iv.pair.2;obtain ⟨u,rfl⟩:=isInt iv.pair.1;rw[q c s t u Q<|hQ _ _ s.toks (.bool _) h]
theorem NQ (h:k (.int<|i+j) U):jg D n .Add (.int i) (.int j) U k ke:=fG (f:=(·+·)) h λ_ _ _ _ _ q=>P.add_int q
theorem NO (h:k (.int<|i-j) U):jg D n .Sub (.int i) (.int j) U k ke:=fG (f:=(·-·)) h λ_ _ _ _ _ q=>P.sub_int q
theorem bG (hm:IntMulOk i j)(h:k (.int<|i*j) U):jg D n .Mult (.int i) (.int j) U k ke:=fG (f:=(·*·)) h λ_ _ _ _ _ q=>P.mul_int q hm
theorem fq (hj:j≠0)(h:k (.int<|i.fmod j) U):jg D n .Mod (.int i) (.int j) U k ke:=fG (f:=Int.fmod) h λ_ _ _ _ _ q=>PyProof.Rows.mod_int' hj q
theorem gT (hj:j≠0)(VP:j.natAbs<1073741824)(h:k (.int<|i.fdiv j) U):jg D n .FloorDiv (.int i) (.int j) U k ke:=fG (f:=Int.fdiv) h λ_ _ _ _ _ q=>PyProof.Rows.floordiv_int hj q<|.inl<|PyProof.noPylong_small VP
theorem NP (h:k (.int<|Builtin.bitAnd i j) U):jg D n .BitAnd (.int i) (.int j) U k ke:=fG (f:=Builtin.bitAnd) h λ_ _ _ _ _ q=>PyProof.Rows.and_int q
theorem PY (h:k (.int<|Builtin.bitOr i j) U):jg D n .BitOr (.int i) (.int j) U k ke:=fG (f:=Builtin.bitOr) h λ_ _ _ _ _ q=>PyProof.Rows.or_int q
theorem lH (hj:0<=j)(h:k (.int<|i.fdiv<|2^j.toNat) U):jg D n .RShift (.int i) (.int j) U k ke:=fG (f:=λi j=>i.fdiv<|2^j.toNat) h λ_ _ _ _ _ q=>PyProof.Rows.rshift_int hj q
theorem pB (hj:0<=j)(VP:j<=1000000)(hi:i.natAbs<2^64)(h:k (.int<|i*2^j.toNat) U):jg D n .LShift (.int i) (.int j) U k ke:=fG (f:=λi j=>i*2^j.toNat) h λ_ _ _ _ _ q=>PyProof.Rows.lshift_int_small hj VP hi q
theorem qN (hj:0<=j)(VP:j<=1000000)(hi:i.natAbs<2^64)(h:k (.int<|i^j.toNat) U):jg D n .Pow (.int i) (.int j) U k ke:=fG (f:=λi j=>i^j.toNat) h λ_ _ _ _ _ q=>PyProof.Rows.pow_int_small hj VP hi q
theorem FF (h:k (.int<|-i-1) U):Oe D n .Invert (.int i) U k ke:=λc lo a hc=>Tr.aW λs r iv Q hQ=>by
 have ia:=iv.head;clear iv;obtain ⟨t,rfl⟩:=isInt ia;rw[PyProof.Rows.invert_int<|hQ _ _ _ (.int _ _) h]
theorem CX (h:k (.int<|-i) U):Oe D n .USub (.int i) U k ke:=λc lo a hc=>Tr.aW λs r iv Q hQ=>by
 have ia:=iv.head;clear iv;obtain ⟨t,rfl⟩:=isInt ia;rw[P.neg_int<|hQ _ _ _ (.int _ _) h]
theorem PG (h:k (.bool<|i==j) U):cZ D n .Eq (.int i) (.int j) U k ke:=jY (f:=(·==·)) h λ_ _ _ _ _ q=>P.eq_int q
theorem PB (h:k (.bool<|i !=j) U):cZ D n .NotEq (.int i) (.int j) U k ke:=jY (f:=(· !=·)) h λ_ _ _ _ _ q=>P.ne_int q
theorem PC (h:k (.bool<|decide (i<j)) U):cZ D n .Lt (.int i) (.int j) U k ke:=jY (f:=λi j=>decide (i<j)) h λ_ _ _ _ _ q=>P.lt_int q
theorem PD (h:k (.bool<|decide (i<=j)) U):cZ D n .LtE (.int i) (.int j) U k ke:=jY (f:=λi j=>decide (i<=j)) h λ_ _ _ _ _ q=>P.le_int q
theorem PE (h:k (.bool<|decide (i>j)) U):cZ D n .Gt (.int i) (.int j) U k ke:=jY (f:=λi j=>decide (i>j)) h λ_ _ _ _ _ q=>P.gt_int q
theorem PF (h:k (.bool<|decide (i>=j)) U):cZ D n .GtE (.int i) (.int j) U k ke:=jY (f:=λi j=>decide (i>=j)) h λ_ _ _ _ _ q=>P.ge_int q
theorem C2 (h:kb (i !=0) U):pH D n (.int i) U kb ke:=λc lo a hc=>Tr.aW λs r iv Q hQ=>by
 have ia:=iv.head;clear iv;obtain ⟨t,rfl⟩:=isInt ia;rw[P.truthy_int<|hQ _ _ s.toks rfl h]
theorem yX (h:kb false U):pH D n .none U kb ke:=λc lo a hc=>Tr.aW λs r iv Q hQ=>by
 have ia:=iv.head;clear iv;cases isNone ia;rw[PyProof.Rows.truthy_none<|hQ _ _ s.toks rfl h]
theorem yY {b:Bool}(h:kb b U):pH D n (.bool b) U kb ke:=λc lo a hc=>Tr.aW λs r iv Q hQ=>by
 have ia:=iv.head;clear iv;cases isBool ia;rw[wpAny_truthy_bool<|hQ _ _ s.toks rfl h]
mutual
inductive fC (U:St):V->PyData->Prop
 |none:fC U .none .none
 |bool (b:Bool):fC U (.bool b) (.bool b)
 |int (i:Int):fC U (.int i) (.int i)
 |str (x:Str):fC U (.str x) (.str x)
 |tup {xs:List V} {ds:List PyData}:fS U xs ds->fC U (.tup xs) (.tuple ds)
 |list {a:Addr} {xs:List V} {ds:List PyData}:U a=some (.list xs)->fS U xs ds->fC U (.ref a) (.list ds)
inductive fS (U:St):List V->List PyData->Prop
 |nil:fS U [] []
 |cons {x:V} {xs:List V} {d:PyData} {ds:List PyData}:fC U x d->fS U xs ds->fS U (x::xs) (d::ds)
end
theorem fC.reads (ob:∀a o,U a=some o->vI prog w h a o)(p:fC U x d)(i:cz h v x):∃as,Reads h v d as:=by
 rw[fC.rec (motive_1:=λx d _=>∀v,cz h v x->∃as,Reads h v d as) (motive_2:=λxs ds _=>∀vs,aM h vs xs->∃as,ReadsAll h vs ds as) ?_ ?_ ?_ ?_ ?_ ?_ ?_ ?_ p v i]
 ·intro v i;cases i;rw[⟨_,.none⟩]
 ·intro b v i;cases i;rw[⟨_,.bool b⟩]
 ·intro j v i;cases i;rw[⟨_,.int j _⟩]
 ·intro x v i;cases i;rw[⟨_,.str x _⟩]
 ·intro xs ds _ ih v i
  cases i with
  |tup e1 e2 e3 iv=>
   obtain ⟨as,q⟩:=ih _ iv;rw[⟨_,.tuple e1 e2 e3<|by simpa using q⟩]
 ·intro a xs ds e _ ih v i
  cases i
  obtain ⟨items,⟨o,e1,m,rfl⟩,iv⟩:=ob _ _ e;obtain ⟨as,q⟩:=ih _ iv;rw[⟨_,.list e1 rfl rfl (by simpa using q)⟩]
 ·intro vs i;cases i;rw[⟨_,.nil⟩]
 ·intro x xs d ds _ _ iha ihb vs i
  cases i with
  |cons ia ib=>
   obtain ⟨as,q⟩:=iha _ ia;obtain ⟨bs,p⟩:=ihb _ ib;rw[⟨_,.cons q p⟩]
theorem AW {e:PyData}(hx:fC U x d)(hy:fC U y e)(h1:SeqAt.shaped d=true)(h2:SeqAt.shaped e=true)(h:k (.bool<|PyData.eqv d e) U):cZ D n .Eq x y U k ke:=λc lo a b hc=>Tr.aW λs r iv Q hQ=>by
 obtain ⟨as,ra⟩:=hx.reads r.obs iv.pair.2;obtain ⟨bs,rb⟩:=hy.reads r.obs iv.pair.1;rw[eq_dataH ra rb h1 h2 (by have:=hc.units;rw[J3 this])<|hQ _ _ s.toks (.bool _) h]
theorem jL {e:PyData}(hx:fC U x d)(hy:fC U y e)(h1:SeqAt.shaped d=true)(h2:SeqAt.shaped e=true)(h:k (.bool<|!PyData.eqv d e) U):cZ D n .NotEq x y U k ke:=λc lo a b hc=>Tr.aW λs r iv Q hQ=>by
 obtain ⟨as,ra⟩:=hx.reads r.obs iv.pair.2;obtain ⟨bs,rb⟩:=hy.reads r.obs iv.pair.1;rw[ne_dataH ra rb h1 h2 (by have:=hc.units;rw[J3 this])<|hQ _ _ s.toks (.bool _) h]
theorem NB (hl:U a=some (.list xs))(Vu:fS U xs ds)(hx:fC U x d)(h1:PyData.canLayAll0 ds=true)(h2:d.canLay0=true)(h3:PyData.depthAll ds<=60)
 (h:k (.bool<|ds.any λy=>PyData.eqv y d) U):cZ D n .In x (.ref a) U k ke:=λc lo av b hc=>Tr.aW λs r iv Q hQ=>by
 obtain ⟨as,ra⟩:=hx.reads r.obs iv.pair.2;obtain ⟨bs,rb⟩:=(fC.list hl Vu).reads r.obs iv.pair.1;rw[SeqAt.in_list_reads rb ra h1 h2 (by have:=hc.units;have:=Nat.min_le_left (PyData.depthAll ds) d.depth;rw[Oq hc.units h3<|Nat.min_le_left ..])<|hQ _ _ s.toks (.bool _) h]
theorem AR (hl:U a=some (.list xs))(Vu:fS U xs ds)(hx:fC U x d)(h1:PyData.canLayAll0 ds=true)(h2:d.canLay0=true)(h3:PyData.depthAll ds<=60)
 (h:k (.bool<|!ds.any λy=>PyData.eqv y d) U):cZ D n .NotIn x (.ref a) U k ke:=λc lo av b hc=>Tr.aW λs r iv Q hQ=>by
 obtain ⟨as,ra⟩:=hx.reads r.obs iv.pair.2;obtain ⟨bs,rb⟩:=(fC.list hl Vu).reads r.obs iv.pair.1;rw[SeqAt.notIn_list_reads rb ra h1 h2 (by have:=hc.units;have:=Nat.min_le_left (PyData.depthAll ds) d.depth;rw[Oq hc.units h3<|Nat.min_le_left ..])<|hQ _ _ s.toks (.bool _) h]
theorem AQ (Vu:fS U xs ds)(hx:fC U x d)(h1:PyData.canLayAll0 ds=true)(h2:d.canLay0=true)(h3:PyData.depthAll ds<=60)
 (h:k (.bool<|!ds.any λy=>PyData.eqv y d) U):cZ D n .NotIn x (.tup xs) U k ke:=λc lo av b hc=>Tr.aW λs r iv Q hQ=>by
 obtain ⟨as,ra⟩:=hx.reads r.obs iv.pair.2;obtain ⟨bs,rb⟩:=(fC.tup Vu).reads r.obs iv.pair.1;rw[SeqAt.notIn_tuple_reads rb ra h1 h2 (by have:=hc.units;have:=Nat.min_le_left (PyData.depthAll ds) d.depth;rw[Oq hc.units h3<|Nat.min_le_left ..])<|hQ _ _ s.toks (.bool _) h]
end
variable {K:Frag}{kt:St->Prop}
noncomputable def V.plain:V->Bool
 |.atom _=>false
 |_=>true
theorem V.handed {x:V}(i:cz h v x)(p:x.plain=true):handedIn v=true:=by
 cases i<;>first|rfl|exact aA p
theorem i9.getL {es:List DictEntry}(j:i9 h es ats):∀x,ats.lookup name=some x->∃v,getL name es=some (some v)/\cz h v x:=by
 induction j with
 |nil=>intro x e;rw[aq e]
 | @cons hs y t v xv es xs i r ih=>
   intro x e;rw[List.lookup_cons] at e;unfold PySem.W.getL;rw[af List.find?_cons ?_]
   by_cases q:name=y
   ·subst q;rw[beq_self_eq_true] at e
    (replace e:=sI e;subst e)
    have:Value.isStr (.str name t) name=true:=by simp [Value.isStr]
    simp only [this];rw[⟨_,rfl,i⟩]
   ·have q':(name==y)=false:=beq_eq_false_iff_ne.mpr q;rw[q'] at e;obtain ⟨u,e1,e2⟩:=ih x e;have:Value.isStr (.str y t) name=false:=by simp [Value.isStr,Ne.symm q]
    simp only [this];rw[⟨u,?_,e2⟩];unfold PySem.W.getL at e1
    split at e1
    ·rename_i en he;rw[af he e1]
    ·split at e1<;>cases e1
theorem i9.refKey {es:List DictEntry}(j:i9 h es ats):es.any (·.refKey)=false:=by
 induction j with
 |nil=>rfl
 |cons i r ih=>rw[af List.any_cons<|af ih rfl]
theorem i9.yc {es:List DictEntry}(j:i9 h es ats):ats.lookup name=none->PySem.W.getL name es=some none:=by
 induction j with
 |nil=>intro e;rfl
 | @cons hs y t v xv es xs i r ih=>
   intro e;rw[List.lookup_cons] at e
   by_cases q:name=y
   ·subst q;rw[beq_self_eq_true] at e;rw[gu e]
   ·have q':(name==y)=false:=beq_eq_false_iff_ne.mpr q;rw[q'] at e;have e1:=ih e;have:Value.isStr (.str y t) name=false:=by simp [Value.isStr,Ne.symm q]
    unfold PySem.W.getL at e1 ⊢;rw[af List.find?_cons ?_];simp only [this]
    split at e1
    ·rw[bU Option.ctorIdx (sI e1) rfl]
    ·rename_i he
     rw[af he ?_,af List.any_cons<|af r.refKey rfl]
theorem i9.put {Ys:Int}{t:Tok}{x:V}(iv:cz h v x):∀{es:List DictEntry} {ats:List<|Str×V},i9 h es ats->i9 h (putL name Ys (.str name t) v es) (Lo.put name x ats)
 |_,_,.nil=>.cons iv .nil
 |_,_,.cons (hs:=hs) (y:=y) (t:=t') (v:=u) (es:=es) (xs:=xs) i r=>by
  unfold putL Lo.put
  by_cases q:name=y
  ·subst q;have:Value.isStr (.str name t') name=true:=by simp [Value.isStr]
   simp only [this,if_true,beq_self_eq_true];rw[.cons iv r]
  ·have this:Value.isStr (.str y t') name=false:=by simp [Value.isStr,Ne.symm q]
   have q':(name==y)=false:=beq_eq_false_iff_ne.mpr q;simp only [this,q',Bool.false_eq_true,if_false];rw[.cons i<|r.put iv]
theorem i9.length:∀{es:List DictEntry} {ats:List<|Str×V},i9 h es ats->es.length=ats.length
 |_,_,.nil=>rfl
 |_,_,.cons i r=>by rw[af List.length_cons<|af List.length_cons<|af r.length rfl]
section
variable {x dx:Addr}{es:List DictEntry}{tk:Tok}{R:Result->Shared->Prop}
theorem BJ (X:K.In s.heap)(I:InstAt s.heap x (instObj C dx) C<|some<|dictOf es n)(hp:plainOver K C=true)(ht:takerIn K C name=some none)(hh:hasDictIn K C=true)(hr:es.any (·.refKey)=false)(hz:es.length<=999)
 (h:R (.ok<|.ret .none) {s with heap:=s.heap.update dx<|Obj.putName name (PyData.keyHash w.params name) (.str name s.toks) v,toks:=s.toks+1}):
 codeAny (model prog w) A (.call (.builtin "object.__setattr__") ⟨[.ref x,.str name tk,v],[]⟩) R s:=by
 rw[osa_open X I hp ht λb=>?_];obtain ⟨cd,hc,TQ⟩:=any_some hh;have D:s.heap.get? dx=some (dictOf es n):=I.dict;have P:=putName_dict name (PyData.keyHash w.params name) (.str name s.toks) v es n;have D':(s.heap.update dx<|Obj.putName name (PyData.keyHash w.params name) (.str name s.toks) v).get? dx=some (dictOf (putL name (PyData.keyHash w.params name) (.str name s.toks) v es)<|putN name es n):=by
  rw[af (Eq.symm<|P) ?_,Heap.get?_update_self _ D<|af P rfl]
 have VY:(putL name (PyData.keyHash w.params name) (.str name s.toks) v es).length<=es.length+1:=by
  clear hz hr I D P D' h
  induction es with
  |nil=>rw[Nat.le_refl _]
  |cons e r ih=>
   unfold putL
   split
   ·rw[Nat.le_succ _]
   ·rw[Nat.succ_le_succ ih]
 rw[wpAny_bind<|wpAny_pure<|wpAny_bind<|wpAny_bind<|wpAny_loadPart I.at_<|wpAny_bind<|(looks_clsIn X hc).here ?_,af TQ ?_,wpAny_pure (a:=some dx)<|wpAny_bind<|wpAny_pure<|wpAny_bind ?_,wpAny_bind<|wpAny_bind<|wpAny_askSetting<|wpAny_pure<|wpAny_bind<|wpAny_mkText<|wpAny_bind<|wpAny_loadPart D ?_];dsimp only [dictOf];erw[aRefKeyMayBeTheName_at,show es.toArray.any (·.refKey)=false by erw[<- Array.any_toList];rw[hr],Bool.and_false];rw[wpAny_updatePart D ?_,wpAny_bind<|wpAny_lookBehind D' (pastItsLine_dict<|af List.size_toArray<|af sizeLine_eq<|JI VY hz) ?_,wpAny_pure h]
end
section
variable {d:Addr} 
theorem bK.u0 (hc:bK D n c)(r:R D.prog D.w c lo U s):D.K.In s.heap:=hc.K.keeps r.keep
structure Bf (K:Frag)(C:Addr)(name:Str):Prop where
 get:plainGet K C name=true
 dict:hasDictIn K C=true
 cls:∃Sf,findIn K (.ref C) name=some Sf/\noGet K Sf=true
theorem Fg {x:V}(ha:U a=some (.inst C d ats))(hl:ats.lookup name=some x)(hx:x.plain=true)(o:Bf D.K C name)(h:k x U):vL D n (.ref a) name U k ke:=λc lo av hc=>Tr.aW λs r iv Q hQ=>by
 right;have ia:=iv.head;clear iv;cases isRef ia;obtain ⟨e1,es,m,e2,e3⟩:=r.obs a _ ha;obtain ⟨v,e4,e5⟩:=e3.getL x hl;obtain ⟨Sf,f1,f2⟩:=o.cls;have I:InstAt s.heap a (instObj C d) C<|some<|dictOf es m:=⟨e1,rfl,rfl,e2⟩;symm;rw[get_value (hc.u0 r) I (plainGet_of o.get).1 (findObj_own o.dict f1 f2 e4) (V.handed e5 hx) (hQ _ _ _ e5 h)]
structure Bc (K:Frag)(C:Addr)(name:Str):Prop where
 set:findIn K (.ref C) "__setattr__"=some (some<|.builtin "object.__setattr__")
 over:plainOver K C=true
 vQ:takerIn K C name=some none
 dict:hasDictIn K C=true
theorem DV {x:V}(ha:U a=some (.inst C d ats))(hz:ats.length<=900)(o:Bc D.K C name)(h:kt<|U.set a<|.inst C d<|Lo.put name x ats):gV D n (.ref a) name x U kt ke:=λc lo av v hc s r iv=>by
 obtain ⟨ix,ia⟩:=iv.pair;clear iv;cases isRef ia;obtain ⟨e1,es,m,e2,e3⟩:=r.obs a _ ha;have I:InstAt s.heap a (instObj C d) C<|some<|dictOf es m:=⟨e1,rfl,rfl,e2⟩;have I':InstAt ({s with toks:=s.toks+1}:Shared).heap a (instObj C d) C<|some<|dictOf es m:=I;have nd:a≠d:=λz=>by clear ha h I I';subst z;rw[e1] at e2;cases e2
 have X:=hc.u0 r;rw[set_plain X I o.set<|BJ (s:={s with toks:=s.toks+1}) X I' o.over o.vQ o.dict e3.refKey (af e3.length<|JA hz) ?_];have same:∀y ob,y≠d->s.heap.get? y=some ob->(s.heap.update d<|Obj.putName name (PyData.keyHash D.w.params name) (.str name<|s.toks+1) v).get? y=some ob:=λy ob ny e=>(Heap.get?_update_ne _ _ _ _ ny).trans e;have P:=putName_dict name (PyData.keyHash D.w.params name) (.str name<|s.toks+1) v es m;obtain ⟨r',st⟩:=r.put (o':=.inst C d<|Lo.put name x ats) (b:=d) (tk:=s.toks+1+1) ha rfl rfl rfl (.inr rfl) same λkv=>⟨same _ _ nd e1,_,_,by erw[Heap.get?_update_self _ e2 (by rw[af P ?_];rfl),P],(e3.put ix).aE kv⟩;rw[⟨(),_,r',st,True.intro,h⟩]
theorem Ej {f:Addr}(ha:U a=some (.inst C d ats))(hl:ats.lookup name=none)(hg:plainGet D.K C name=true)(hf:findIn D.K (.ref C) name=some (some<|.ref f))(ht:isFn D.K (.ref f)=true):MethW D n (.ref a) name U (.ref f) [.ref a]:=λc lo av pl hc=>Tr.aW λs r iv Q hQ=>by
 have ia:=iv.head;clear iv;cases isRef ia;obtain ⟨e1,es,m,e2,e3⟩:=r.obs a _ ha;have I:InstAt s.heap a (instObj C d) C<|some<|dictOf es m:=⟨e1,rfl,rfl,e2⟩;rw[method_fn (hc.u0 r) I (plainGet_of hg).1 (plainGet_of hg).2 hf (beq_iff_eq.mp ht) (by show (lookIn name<|dictOf es m).map _=_;rw[af (lookIn_dict ..)<|af (e3.yc hl) rfl]) (hQ _ _ s.toks ⟨rfl,.cons (.ref a) .nil⟩ ⟨rfl,rfl⟩)]
end
variable {Va:String}
theorem aM.set {u:Value}(iy:cz h u y)(iv:aM h vs xs):∀{i:Nat},aM h (vs.set i u)<|xs.set i y:=
 iv.ind (P:=λvs xs=>∀{i:Nat},aM h (vs.set i u)<|xs.set i y) .nil λ_ _ _ _ a b r {i}=>by
  cases i with
  |zero=>rw[.cons iy b]
  |succ i=>rw[.cons a r]
theorem aM.eraseIdx (iv:aM h vs xs):∀{i:Nat},aM h (vs.eraseIdx i)<|xs.eraseIdx i:=
 iv.ind (P:=λvs xs=>∀{i:Nat},aM h (vs.eraseIdx i)<|xs.eraseIdx i) .nil λ_ _ _ _ a b r {i}=>by
  cases i with
  |zero=>rw[b]
  |succ i=>rw[.cons a r]
section
theorem EE {l:Addr}{k:Int}{t:Tok}{Q:Unit->Shared->Prop}(hl:i8 s.heap l vs)(h0:0<=k)(Y0:k<2^63)(hn:k<vs.length)
 (hQ:∀h',i8 h' l (vs.set k.toNat v)->Heap.SameBut l s.heap h'->Q () {s with heap:=h'}):wpAny (model prog w) A (setItem (.ref l) (.int k t) v) Q E s:=by
 right;have hL:=hl.isList;obtain ⟨o,eo,m,rfl⟩:=id hl;symm;rw[ki_setAt eo h0 Y0 (af List.size_toArray hn)<|hQ _ (hl.upd<|by simp)<|Heap.SameBut.update ..]
end
section
theorem aC (ha:U a=some (.list xs))(h0:0<=i)(h1:i<2^63)(hx:xs[i.toNat]?=some x)(h:k x U)
 (hs:∀l j u,subscripted slice false (.ref l) (.int j u)=operate [.ref l,.int j u] (getItem (.ref l)<|.int j u):=by intros;rfl):r7 D n value slice (.ref a) (.int i) U k ke:=λc lo av bv hc=>Tr.aW λs r iv Q hQ=>by
 obtain ⟨ib,ia⟩:=iv.pair
 cases isRef ia
 clear iv;obtain ⟨u,rfl⟩:=isInt ib;obtain ⟨vs,hl,iv⟩:=r.obs a _ ha;obtain ⟨v,e1,e2⟩:=iv.at_ hx;rw[tail_any hl.isList.typeIs slot_list_getitem.lookup (wpAny_getItem_list hl.isList h0 h1 (by simpa using e1)<|hQ _ _ s.toks e2 h)<|hs _ _ _]
theorem jq (h0:0<=i)(h1:i<2^63)(hx:xs[i.toNat]?=some x)(h:k x U)
 (hs:∀l j u,subscripted slice false (.ref l) (.int j u)=operate [.ref l,.int j u] (getItem (.ref l)<|.int j u):=by intros;rfl):r7 D n value slice (.tup xs) (.int i) U k ke:=λc lo av bv hc=>Tr.aW λs r iv Q hQ=>by
 obtain ⟨ib,ia⟩:=iv.pair
 cases ia with| @tup a o m vs _ f1 f2 f3 f4=>
 clear iv;obtain ⟨u,rfl⟩:=isInt ib;obtain ⟨v,e1,e2⟩:=f4.at_ hx;have ht:IsTup s.heap a vs.toArray:=⟨o,f1,f2,m,f3⟩;have UC:i.toNat<vs.length:=by
  rcases Nat.lt_or_ge i.toNat vs.length with z|z
  ·rw[z]
  ·rw[ak (List.getElem?_eq_none z) e1]
 have hj:seqIndex? i vs.length=some i.toNat:=by
  unfold seqIndex?;rw[af (if_neg<|Int.not_lt.mpr h0) ?_];simp only [Bool.and_eq_true,decide_eq_true_eq];rw[af (if_pos ⟨h0,Mc UC h0⟩) rfl]
 rw[item_tupleT ht (by lia) h1 hj e1 (hQ _ _ s.toks e2 h)<|hs _ _ _]
theorem qX (ha:U a=some (.list xs))(h0:0<=i)(h1:i<xs.length)(h2:xs.length<2^60)(h:kt<|U.set a<|.list<|xs.set i.toNat x):r8 D n (.ref a) (.int i) x U kt ke:=λc lo av bv v hc s r iv=>by
 right;obtain ⟨ix,ib,ia⟩:=iv.three
 cases isRef ia
 clear iv;obtain ⟨u,rfl⟩:=isInt ib;obtain ⟨vs,hl,iv⟩:=r.obs a _ ha;obtain ⟨o,eo,m,rfl⟩:=id hl;symm;rw[EE hl h0 (Lb h1 h2) (af iv.length h1) λh' SP hs=>?_];have same:∀y ob,y≠a->s.heap.get? y=some ob->h'.get? y=some ob:=λy ob ny e=>(hs.2 y ny).trans e;obtain ⟨r',st⟩:=r.put (o':=.list<|xs.set i.toNat x) (b:=a) (tk:=s.toks) ha rfl rfl rfl (.inl rfl) same λkv=>⟨_,SP,(aM.set ix iv).aE kv⟩;rw[⟨(),_,r',st,True.intro,h⟩]
theorem nu (ha:U a=some (.list xs))(slot:Slot "list" name Va)(ty:typeOf (.builtin Va)=pure (.type "method_descriptor")):MethW D n (.ref a) name U (.builtin Va) [.ref a]:=λc lo av pl hc=>Tr.aW λs r iv Q hQ=>by
 right;have ia:=iv.head;clear iv;cases isRef ia;obtain ⟨vs,hl,iv⟩:=r.obs a _ ha;obtain ⟨o,eo,m,rfl⟩:=id hl;symm;rw[getMethod_list_of slot ty hl.isList ⟨_,eo,rfl⟩<|hQ _ _ s.toks ⟨rfl,.cons (.ref a) .nil⟩ ⟨rfl,rfl⟩]
theorem cu (ha:U a=some (.list xs)):MethW D n (.ref a) "append" U (.builtin "list.append") [.ref a]:=nu ha PySem.F.slot_list_append PySem.F.type_list_append
theorem lY (ha:U a=some (.list xs)):MethW D n (.ref a) "extend" U (.builtin "list.extend") [.ref a]:=nu ha PySem.F.slot_list_extend PySem.F.type_list_extend
theorem zJ (ha:U a=some (.list xs)):MethW D n (.ref a) "pop" U (.builtin "list.pop") [.ref a]:=nu ha PySem.F.slot_list_pop PySem.F.type_list_pop
theorem qp (ha:U a=some (.list xs)):MethW D n (.ref a) "remove" U (.builtin "list.remove") [.ref a]:=nu ha PySem.F.slot_list_remove PySem.F.type_list_remove
theorem nv (r:R D.prog D.w c lo U s)(ha:U a=some (.list xs))(hl:i8 s.heap a vs)(e:f vs.toArray=ws.toArray)(iw:aM s.heap ws ys)(Z9:cz s.heap v y)(h:k y<|U.set a<|.list ys)(tk:Nat):
 Post D cz c lo U s k v {s with heap:=s.heap.update a<|Obj.mapSeq f,toks:=tk}:=by
 have same:∀y ob,y≠a->s.heap.get? y=some ob->(s.heap.update a<|Obj.mapSeq f).get? y=some ob:=λy ob ny e=>(Heap.get?_update_ne _ _ _ _ ny).trans e;obtain ⟨r',st⟩:=r.put (o':=.list ys) (b:=a) (tk:=tk) ha rfl rfl rfl (.inl rfl) same λkv=>⟨ws,hl.upd e,iw.aE kv⟩;rw[⟨y,_,r',st,Z9.aE<|r.aE st.keep,h⟩]
end
variable {ns:List Int}{p q:Str}
theorem dY {α β:Type}(f:α->β):∀(l:List α) (i:Nat),(l.map f).eraseIdx i=(l.eraseIdx i).map f
 |[],_=>rfl
 |_::_,0=>rfl
 |x::r,i+1=>by
  show f x::(r.map f).eraseIdx i=f x::(r.eraseIdx i).map f;rw[af (dY f r i) rfl]
theorem oQ {h:Heap}:∀{vs:List Value} {ns:List Int},aM h vs (ns.map .int)->IntsAre vs ns
 |vs,[],i=>by cases i;rw[.nil]
 |vs,n::ns,i=>by
  cases i with
  |cons a b=>
   obtain ⟨t,rfl⟩:=isInt a;rw[.cons n t<|oQ b]
theorem qy (j:IntsAre vs ns):aM h vs<|ns.map .int:=by
 induction j with
 |nil=>rw[.nil]
 |cons n t r ih=>rw[.cons (.int n t) ih]
inductive RE (h:Heap)(vs:List Value)(x:V):Prop
 |mk (v:Value) (e:vs=[v]) (i:cz h v x)
inductive RD (h:Heap)(vs:List Value)(x y:V):Prop
 |mk (v u:Value) (e:vs=[v,u]) (i:cz h v x) (j:cz h u y)
inductive RC (h:Heap)(vs:List Value)(x y z:V):Prop
 |mk (v u w:Value) (e:vs=[v,u,w]) (i:cz h v x) (j:cz h u y) (k:cz h w z)
theorem gC (i:aM h vs [x]):RE h vs x:=by
 cases i with|cons a b=>cases b;rw[⟨_,rfl,a⟩]
theorem gQ (i:aM h vs [x,y]):RD h vs x y:=by
 cases i with|cons a b=>obtain ⟨u,rfl,c⟩:=gC b;rw[⟨_,_,rfl,a,c⟩]
theorem tH {z:V}(i:aM h vs [x,y,z]):RC h vs x y z:=by
 cases i with|cons a b=>obtain ⟨u,w,rfl,c,d⟩:=gQ b;rw[⟨_,_,_,rfl,a,c,d⟩]
section
theorem eK (r:R D.prog D.w c lo U s)(kp:∀b o,s.heap.get? b=some o->h'.get? b=some o)(iv:cz h' v x)(h:k x U):Post D cz c lo U s k v {s with heap:=h',toks:=tk}:=⟨x,U,r.more kp,.more kp,iv,h⟩
theorem gh (r:R D.prog D.w c lo U s)(kp:∀b o,s.heap.get? b=some o->h'.get? b=some o)(na:s.heap.get? a=none)(l:i8 h' a vs)(iv:aM s.heap vs xs)(h:∀a,U a=none->k (.ref a) (U.set a<|.list xs)):
 Post D cz c lo U s k (.ref a) {s with heap:=h',toks:=tk}:=by
 obtain ⟨e,r',st⟩:=r.alloc (a:=a) (o:=.list xs) (tk:=tk) kp na (λd hd=>by rw[aq hd]) ⟨vs,l,iv.aE<|.of_keeps kp⟩;rw[⟨.ref a,_,r',st,.ref a,h a e⟩]
theorem vU (h:Heap):h.get? h.objs.size=none:=bW h
theorem pC (ha:U a=some (.list xs))(hb:U b=some (.list ys))(hz:xs.length+ys.length<=100000)(h:∀a,U a=none->k (.ref a) (U.set a<|.list<|xs++ys)):jg D n .Add (.ref a) (.ref b) U k ke:=λc lo av bv hc s r iv=>by
 right;obtain ⟨ib,ia⟩:=iv.pair
 cases isRef ia;cases isRef ib
 obtain ⟨vs,⟨o,eo,m,rfl⟩,iv⟩:=r.obs a _ ha;obtain ⟨ws,⟨o',eo',m',rfl⟩,iw⟩:=r.obs b _ hb;symm;rw[PySem.P.add_list eo eo' ?_<|af List.size_toArray<|af List.size_toArray<|af iv.length<|af iw.length<|Nat.le_trans hz ac,gh (vs:=vs++ws) (tk:=s.toks) r (λb o e=>Heap.get?_push_of_some _ e) (vU _) ⟨_,Heap.get?_push_size _ rfl,0,by simp⟩ (iv.append iw) h]
theorem g8 (hz:p.length+q.length<=100000)(h:k (.str<|p++q) U):jg D n .Add (.str p) (.str q) U k ke:=λc lo av bv hc=>Tr.aW λs r iv Q hQ=>by
 obtain ⟨t,rfl⟩:=isStr iv.pair.2;obtain ⟨u,rfl⟩:=isStr iv.pair.1;rw[PyProof.Rows.add_str (λt' tk=>hQ _ _ _ (.str _ t') h)<|Nat.le_trans hz ac]
theorem cy (ha:U a=some (.list xs))(hz:xs.length<=100000)(h:k .none<|U.set a<|.list<|xs++[x]):bN D n (.builtin "list.append") [.ref a,x] U k ke:=λc lo vs hc s r iv=>by
 obtain ⟨va,vx,rfl,ia,ix⟩:=gQ iv;clear iv;cases isRef ia;obtain ⟨vs,hl,iv⟩:=r.obs a _ ha;rw[qu hl (λh' SP hs=>?_)<|af iv.length<|Nat.le_trans hz ac];obtain ⟨r',st⟩:=r.put (o':=.list<|xs++[x]) (b:=a) (tk:=s.toks) ha rfl rfl rfl (.inl rfl) (λy ob ny e=>(hs.2 y ny).trans e) λkv=>⟨_,SP,(iv.append<|.cons ix .nil).aE kv⟩;rw[⟨.none,_,r',st,.none,h⟩]
theorem mw (ha:U a=some (.list xs))(hb:U b=some (.list ys))(hz:xs.length+ys.length<=100000)(h:k .none<|U.set a<|.list<|xs++ys):bN D n (.builtin "list.extend") [.ref a,.ref b] U k ke:=λc lo vs hc s r iv=>by
 right;obtain ⟨va,vb,rfl,ia,ib⟩:=gQ iv
 cases isRef ia;clear iv;cases isRef ib
 obtain ⟨vs,hl,iv⟩:=r.obs a _ ha;obtain ⟨ws,⟨o',eo',m',rfl⟩,iw⟩:=r.obs b _ hb;obtain ⟨o,eo,m,rfl⟩:=id hl;symm;rw[call_meets PySem.F.slot_list_extend ⟨_,eo,rfl⟩ PySem.F.entry_list_extend (PySem.F.args_list_extend_2 _ _) (PySem.AutoSeq1.list_extend_list_list_0 a vs.toArray m b ws.toArray m' ?_ ?_ ?_) ⟨eo,eo',?_⟩]
 ·rw[af List.size_toArray<|af List.size_toArray<|af iv.length<|af iw.length ?_];unfold Builtin.List.listTooLong;simp only [Bool.and_eq_true,decide_eq_true_eq,not_and,Nat.not_lt];intro _;have:sizeLine=16777216:=by decide
  lia
 ·rw[af List.size_toArray<|af iv.length<|Nat.le_trans (Nat.le_trans (Nat.le_add_right _ _) hz) ac]
 ·rw[af List.size_toArray<|af List.size_toArray<|af iv.length<|af iw.length<|Nat.le_trans hz ac]
 ·rw[nv (ws:=vs++ws) (ys:=xs++ys) (y:=.none) r ha hl (by simp) (iv.append iw) .none h s.toks]
theorem vC (ha:U a=some (.list<|xs++[x]))(hz:xs.length<=100000)(h:k x<|U.set a<|.list xs):bN D n (.builtin "list.pop") [.ref a] U k ke:=λc lo vs hc s r iv=>by
 right;obtain ⟨va,rfl,ia⟩:=gC iv;clear iv;cases isRef ia;obtain ⟨vs,hl,iv⟩:=r.obs a _ ha;obtain ⟨o,eo,m,rfl⟩:=id hl;have el:=iv.length;rw[List.length_append,List.length_singleton] at el;obtain ⟨v,e1,e2⟩:=iv.at_ (i:=xs.length) (x:=x) (by simp);have e3:vs.eraseIdx xs.length=vs.dropLast:=by rw[af List.dropLast_eq_take<|af (List.eraseIdx_eq_take_drop_succ ..)<|af (List.drop_eq_nil_of_le<|by rw[Nat.le_of_eq el])<|af (List.append_nil ..)<|af el<|af (Nat.add_sub_cancel ..) rfl]
 have iw:=iv.eraseIdx (i:=xs.length);symm;have e4:(xs++[x]).eraseIdx xs.length=xs:=by erw[List.eraseIdx_append_of_length_le<|Nat.le_refl _];simp
 rw[e4] at iw;rw[call_meets PySem.F.slot_list_pop ⟨_,eo,rfl⟩ PySem.F.entry_list_pop (PySem.F.args_list_pop_1 _) (MeetsSeq.list_pop_last a vs.toArray m v (by rw[af List.size_toArray<|af el ?_];simpa using e1)<|af List.size_toArray<|af el<|Nat.le_trans (Nat.add_le_add_right hz 1) ac) ⟨eo,?_⟩];have z:=nv (k:=k) (ws:=vs.eraseIdx xs.length) (ys:=xs) (y:=x) (v:=v) (f:=λl=>l.eraseIdxIfInBounds<|vs.toArray.size-1) r ha hl (by
  rw[af List.size_toArray<|af el<|af (Nat.add_sub_cancel ..) ?_];apply Array.toList_inj.mp;unfold Array.eraseIdxIfInBounds;erw[dif_pos<|af List.size_toArray<|Nat.le_of_eq<|id<|Eq.symm el,Array.toList_eraseIdx]) iw e2 h s.toks
 rw[z]
theorem AP (ha:U a=some (.list xs))(hz:xs.length<=100000)(h0:0<=i)(hx:xs[i.toNat]?=some x)(h:k x<|U.set a<|.list<|xs.eraseIdx i.toNat):bN D n (.builtin "list.pop") [.ref a,.int i] U k ke:=λc lo vs hc s r iv=>by
 right;obtain ⟨va,vb,rfl,ia,ib⟩:=gQ iv
 cases isRef ia
 clear iv;obtain ⟨u,rfl⟩:=isInt ib;obtain ⟨vs,hl,iv⟩:=r.obs a _ ha;obtain ⟨o,eo,m,rfl⟩:=id hl;have el:=iv.length;obtain ⟨v,e1,e2⟩:=iv.at_ hx;have UC:i.toNat<vs.length:=by
  rcases Nat.lt_or_ge i.toNat vs.length with z|z
  ·rw[z]
  ·rw[ak (List.getElem?_eq_none z) e1]
 have hj:seqIndex? i vs.toArray.size=some i.toNat:=by
  unfold seqIndex?;rw[af (if_neg<|Int.not_lt.mpr h0) ?_];simp only [Bool.and_eq_true,decide_eq_true_eq];erw[if_pos ⟨h0,by erw[List.size_toArray];rw[Mx UC h0 el]⟩]
 symm;rw[call_meets PySem.F.slot_list_pop ⟨_,eo,rfl⟩ PySem.F.entry_list_pop (PySem.F.args_list_pop_2 _ _) (MeetsSeq.list_pop_at a vs.toArray m i u i.toNat v ?_ hj (by simpa using e1) (by erw[List.size_toArray,el];rw[Nat.le_trans hz ac])) ⟨eo,?_⟩]
 ·rw[fitsIndex_of h0<|Mg UC h0 el hz]
 ·exact nv (k:=k) (ws:=vs.eraseIdx i.toNat) (ys:=xs.eraseIdx i.toNat) (y:=x) (v:=v) (f:=λl=>l.eraseIdxIfInBounds i.toNat) r ha hl (by
   apply Array.toList_inj.mp;unfold Array.eraseIdxIfInBounds;erw[dif_pos (by erw[List.size_toArray];omega),Array.toList_eraseIdx]) iv.eraseIdx e2 h s.toks
theorem qK {m:Nat}(ha:U a=some (.list<|ns.map .int))(hz:ns.length<=100000)(hm:ns[m]?=some i)(hno:∀l,l<m->ns[l]?≠some i)(h:k .none<|U.set a<|.list<|(ns.eraseIdx m).map .int):bN D n (.builtin "list.remove") [.ref a,.int i] U k ke:=λc lo vs hc s r iv=>by
 obtain ⟨va,vb,rfl,ia,ib⟩:=gQ iv
 cases isRef ia
 clear iv;obtain ⟨u,rfl⟩:=isInt ib;obtain ⟨vs,hl,iv⟩:=r.obs a _ ha;obtain ⟨o,eo,mm,rfl⟩:=id hl;have el:=iv.length;rw[cD] at el;have hi:=oQ iv;have Vy:m<ns.length:=by
  rcases Nat.lt_or_ge m ns.length with z|z
  ·rw[z]
  ·rw[ak (List.getElem?_eq_none z) hm]
 have at_:∀l (hl:l<vs.toArray.size),∃t,vs.toArray[l]=.int (ns.getD l 0) t:=λl hl=>by
  rw[List.size_toArray] at hl;obtain ⟨v,e1,e2⟩:=iv.at_ (i:=l) (x:=.int<|ns.getD l 0) (by rw[af List.getElem?_map<|af (List.getElem?_eq_getElem (by rw[JX hl el]:l<ns.length)) ?_];simp [List.getD,List.getElem?_eq_getElem (by rw[JX hl el]:l<ns.length)]);obtain ⟨t,rfl⟩:=isInt e2;rw[⟨t,?_⟩];rw[List.getElem?_eq_getElem hl] at e1;simpa using e1
 rw[call_meets PySem.F.slot_list_remove ⟨_,eo,rfl⟩ PySem.F.entry_list_remove (PySem.F.args_list_remove_2 _ _) (MeetsSeq.list_remove a vs.toArray mm (.int i u) (λv=>match v with|.int j _=>j==i|_=>false) (λy hy=>?_) m (af List.size_toArray<|B7 Vy el) ?_ (λl hl YY=>?_)<|af List.size_toArray<|af el<|Nat.le_trans hz ac) ⟨eo,?_⟩]
 ·obtain ⟨l,hl,e⟩:=Array.getElem_of_mem hy;obtain ⟨t,q⟩:=at_ l hl;rw[af (Eq.symm<|e)<|af q<|MeetsSeq.EqGives.int _ _ _ _]
 ·obtain ⟨t,q⟩:=at_ m<|af List.size_toArray<|B7 Vy el;rw[af q ?_];simp only [beq_iff_eq];simp [List.getD,hm]
 ·obtain ⟨t,q⟩:=at_ l hl;rw[af q ?_];rw[List.size_toArray] at hl;have:=hno l YY;rw[List.getElem?_eq_getElem (by rw[Ey Vy YY]:l<ns.length)] at this;simp only [beq_eq_false_iff_ne];intro z;apply this;rw[af (Eq.symm<|z) ?_];simp [List.getD,List.getElem?_eq_getElem (by rw[Ey Vy YY]:l<ns.length)]
 ·exact nv (k:=k) (ws:=vs.eraseIdx m) (ys:=(ns.eraseIdx m).map .int) (y:=.none) (v:=.none) (f:=λl=>l.eraseIdxIfInBounds m) r ha hl (by
   apply Array.toList_inj.mp;unfold Array.eraseIdxIfInBounds;erw[dif_pos (by erw[List.size_toArray];rw[B7 Vy el]),Array.toList_eraseIdx]) (by erw[<- dY];rw[iv.eraseIdx]) .none h s.toks
theorem eg (ha:U a=some (.list xs))(hz:xs.length<=100000)(h:k (.int xs.length) U):bN D n (.builtin "len") [.ref a] U k ke:=λc lo vs hc=>Tr.aW λs r iv Q hQ=>by
 obtain ⟨va,rfl,ia⟩:=gC iv;clear iv;cases isRef ia;obtain ⟨vs,hl,iv⟩:=r.obs a _ ha;rw[Calls.call_len_list hl.isList (af List.size_toArray<|af iv.length<|JJ hz) ?_,af List.size_toArray<|af iv.length<|hQ _ _ _ (.int _ _) h]
theorem rT (hz:p.length<=100000)(h:k (.int p.length) U):bN D n (.builtin "len") [.str p] U k ke:=λc lo vs hc=>Tr.aW λs r iv Q hQ=>by
 obtain ⟨va,rfl,ia⟩:=gC iv;clear iv;obtain ⟨t,rfl⟩:=isStr ia;rw[P.len_str (by lia)<|hQ _ _ _ (.int _ _) h]
theorem CI (ha:U a=some (.list xs))(hz:xs.length<=100000)(h:∀a,U a=none->k (.ref a) (U.set a<|.list xs)):bN D n (.type "list") [.ref a] U k ke:=λc lo vs hc s r iv=>by
 right;obtain ⟨va,rfl,ia⟩:=gC iv
 cases isRef ia
 obtain ⟨vs,⟨o,eo,m,rfl⟩,iv⟩:=r.obs a _ ha;symm;rw[call_list_seq a (.inl rfl) eo rfl rfl (λh' c' hk hD=>gh (tk:=s.toks) r hk (vU _) ⟨_,hD,c',rfl⟩ iv h) (af List.size_toArray<|af iv.length<|Nat.le_trans hz ac)]
theorem qJ (ha:U a=some (.list<|ns.map .int))(hz:ns.length<64)(h:∀(ms:List Int) a,ms.Perm ns->ms.Pairwise (·<=·)->U a=none->k (.ref a) (U.set a<|.list<|ms.map .int)):bN D n (.builtin "sorted") [.ref a] U k ke:=λc lo vs hc s r iv=>by
 obtain ⟨va,rfl,ia⟩:=gC iv;clear iv;cases isRef ia;obtain ⟨vs,hl,iv⟩:=r.obs a _ ha;rw[sorted_ints hl.isList (oQ iv) (af iv.length<|af (cD ..) hz) λTX ns' a1 a2 a3=>?_];obtain ⟨e,he⟩:=sortedAll_at s.heap vs TX;rw[gh (vs:=TX.toList) (tk:=s.toks) r (λ_ _=>sortedAll_old) (cG<|Nat.le_succ _) ⟨_,he,e,rfl⟩ (qy a1) λa ea=>h _ a a2 a3 ea]
theorem rS (hn:0<n)(h:k (.int<|if j<i then j else i) U):bN D n (.builtin "min") [.int i,.int j] U k ke:=λc lo vs hc s r iv=>by
 obtain ⟨va,vb,rfl,ia,ib⟩:=gQ iv;obtain ⟨t,rfl⟩:=isInt ia;clear iv;obtain ⟨u,rfl⟩:=isInt ib;rw[min_two_ints (hc.hd hn) λh' tk kp=>eK (x:=.int<|if j<i then j else i) r kp ?_ h]
 split<;>rw[.int _ _]
theorem CH (hn:0<n)(h:k (.int<|if j>i then j else i) U):bN D n (.builtin "max") [.int i,.int j] U k ke:=λc lo vs hc s r iv=>by
 obtain ⟨va,vb,rfl,ia,ib⟩:=gQ iv;obtain ⟨t,rfl⟩:=isInt ia;clear iv;obtain ⟨u,rfl⟩:=isInt ib;rw[max_two_ints (hc.hd hn) λh' tk kp=>eK (x:=.int<|if j>i then j else i) r kp ?_ h]
 split<;>rw[.int _ _]
theorem cP (h:k (.uq 0 i 1) U):bN D n (.type "range") [.int i] U k ke:=λc lo vs hc s r iv=>by
 obtain ⟨va,rfl,ia⟩:=gC iv;clear iv;obtain ⟨t,rfl⟩:=isInt ia;rw[call_range_1<|eK (x:=.uq 0 i 1) r (λb o e=>Heap.get?_push_of_some _ e) (.uq<|Heap.get?_push_size _ rfl) h]
theorem mu {l:Int}(hl:l≠0)(SW:l.natAbs<1073741824)(h:k (.uq i j l) U):bN D n (.type "range") [.int i,.int j,.int l] U k ke:=λc lo vs hc s r iv=>by
 obtain ⟨va,vb,vc,rfl,ia,ib,ic⟩:=tH iv;obtain ⟨t,rfl⟩:=isInt ia;obtain ⟨u,rfl⟩:=isInt ib;clear iv;obtain ⟨u',rfl⟩:=isInt ic;rw[PySem.call_range_3 hl (eK (x:=.uq i j l) r (λb o e=>Heap.get?_push_of_some _ e) (.uq<|Heap.get?_push_size _ rfl) h)<|.inl<|PyProof.noPylong_small SW]
theorem yt (hj:j≠0)(VP:j.natAbs<1073741824)(h:k (.tup [.int<|i.fdiv j,.int<|i.fmod j]) U):bN D n (.builtin "divmod") [.int i,.int j] U k ke:=λc lo vs hc s r iv=>by
 obtain ⟨va,vb,rfl,ia,ib⟩:=gQ iv;obtain ⟨t,rfl⟩:=isInt ia;clear iv;obtain ⟨u,rfl⟩:=isInt ib;rw[PyProof.Rows.divmod_int hj (eK (x:=.tup [.int<|i.fdiv j,.int<|i.fmod j]) r (λb o e=>Heap.get?_push_of_some _ e) (.tup (vs:=[_,_]) (Heap.get?_push_size _ rfl) rfl rfl (.cons (.int _ _)<|.cons (.int _ _) .nil)) h)<|.inl<|PyProof.noPylong_small VP]
theorem vD (h:k (.bool<|i !=0) U):bN D n (.type "bool") [.int i] U k ke:=λc lo vs hc=>Tr.aW λs r iv Q hQ=>by
 obtain ⟨va,rfl,ia⟩:=gC iv;clear iv;obtain ⟨t,rfl⟩:=isInt ia;rw[call_bool_int<|hQ _ _ s.toks (.bool _) h]
theorem qM (h:k (.bool true) U):bN D n (.builtin "isinstance") [.int i,.atom<|.type "int"] U k ke:=λc lo vs hc=>Tr.aW λs r iv Q hQ=>by
 obtain ⟨va,vb,rfl,ia,ib⟩:=gQ iv;obtain ⟨t,rfl⟩:=isInt ia;clear iv;cases isAtom ib;rw[IsiPair.int_int<|hQ _ _ s.toks (.bool _) h]
theorem yr (h:k (.bool false) U):bN D n (.builtin "isinstance") [.tup xs,.atom<|.type "int"] U k ke:=λc lo vs hc=>Tr.aW λs r iv Q hQ=>by
 obtain ⟨va,vb,rfl,ia,ib⟩:=gQ iv
 cases ia with|tup f1 f2 f3 f4=>
 clear iv;cases isAtom ib;rw[IsiPair.tuple_int f1 f2<|hQ _ _ _ (.bool _) h]
end
variable {Ss:List<|Int×Value}
section
variable {K:Type} [DecidableEq K]
theorem yM (p:K×Value)(r:List<|K×Value)(x:K):valueAt (p::r) x=if p.1=x then some p.2 else valueAt r x:=by
 unfold valueAt;rw[af List.find?_cons ?_]
 by_cases h:p.1=x
 ·rw[af (decide_eq_true h) (if_pos h).symm]
 ·rw[af (decide_eq_false h) (if_neg h).symm]
theorem Br {a b:Option Value}{k x:K}{c:Option Value}(h1:x=k->a=c)(h2:x≠k->a=b):a=if x=k then c else b:=by
 by_cases h:x=k
 ·rw[(h1 h).trans (if_pos h).symm]
 ·rw[(h2 h).trans (if_neg h).symm]
theorem Q6 (k:K)(v:Value)(x:K):∀Ss:List<|K×Value,valueAt (Ss.map λkv=>if kv.1=k then (kv.1,v) else kv) x=if x=k then (valueAt Ss k).map λ_=>v else valueAt Ss x:=by
 intro Ss
 induction Ss with
 |nil=>rw[Br (λ_=>rfl) λ_=>rfl]
 |cons p r ih=>
  rw[af List.map_cons<|af (yM ..)<|af (yM p r k)<|af (yM p r x)<|af ih ?_]
  by_cases q:p.1=k
  ·rw[af (if_pos q)<|af (if_pos q)<|Br (λh=>if_pos<|q.trans h.symm) λh=>?_,af (if_neg λw=>h<|w.symm.trans q)<|af (if_neg h)<|af (if_neg λw=>h<|w.symm.trans q) rfl]
  ·rw[af (if_neg q)<|af (if_neg q)<|Br (λh=>?_) λh=>?_]
   ·clear ih;subst h;rw[af (if_neg q)<|if_pos rfl]
   ·rw[af (if_neg h) rfl]
theorem gm (Ss:List<|K×Value)(k:K)(v:Value)(x:K):valueAt (stored Ss k v) x=if x=k then some v else valueAt Ss x:=by
 have key:∀Ss:List<|K×Value,Ss.any (λkv=>kv.1=k)=(valueAt Ss k).isSome/\((valueAt Ss k).isSome=false->valueAt (Ss++[(k,v)]) x=if x=k then some v else valueAt Ss x):=by
  intro Ss
  induction Ss with
  |nil=>rw[⟨rfl,λ_=>af (yM ..)<|Br (λh=>if_pos h.symm) λh=>if_neg<|Ne.symm h⟩]
  |cons p r ih=>
   constructor
   ·rw[af List.any_cons<|af ih.1<|af (yM ..) ?_]
    by_cases q:p.1=k
    ·rw[af (if_pos q)<|af (decide_eq_true q) rfl]
    ·rw[af (if_neg q)<|af (decide_eq_false q) rfl]
   ·intro e;rw[yM] at e
    by_cases q:p.1=k
    ·rw[if_pos q] at e;rw[ir e]
    ·rw[if_neg q] at e;rw[af List.cons_append<|af (yM ..)<|af (yM p r x)<|af (ih.2 e) ?_,Br (λh=>?_) λh=>?_]
     ·clear ih e;subst h;rw[af (if_neg q)<|if_pos rfl]
     ·rw[af (if_neg h) rfl]
 unfold stored;rw[af (key Ss).1 ?_]
 cases e:(valueAt Ss k).isSome with
 |false=>rw[(key Ss).2 e]
 |true=>
  rw[(Q6 ..).trans<|Br (λh=>(if_pos h).trans ?_) λh=>if_neg h];obtain ⟨y,hy⟩:=Option.isSome_iff_exists.mp e;rw[af hy rfl]
theorem m7 (Ss:List<|K×Value)(k x:K):valueAt (without Ss k) x=if x=k then none else valueAt Ss x:=by
 unfold without
 induction Ss with
 |nil=>rw[Br (λ_=>rfl) λ_=>rfl]
 |cons p r ih=>
  by_cases q:p.1=k
  ·rw[af (List.filter_cons_of_neg (p:=λkv:K×Value=>decide (kv.1≠k)) (a:=p) λw=>of_decide_eq_true (p:=p.1≠k) w q) ?_,af ih ?_,Br (λh=>if_pos h) λh=>?_,af (if_neg h)<|af (yM ..) (if_neg λw=>h<|w.symm.trans q).symm]
  ·rw[af (List.filter_cons_of_pos (p:=λkv:K×Value=>decide (kv.1≠k)) (a:=p)<|decide_eq_true q)<|af (yM ..) ?_,af ih<|Br (λh=>?_) λh=>?_]
   ·clear ih;subst h;rw[af (if_neg q)<|if_pos rfl]
   ·rw[af (if_neg h) (yM ..).symm]
end
theorem dH:∀(n:Nat) (l:List Int),l.Nodup->(∀x∈l,0<=x/\x<(n:Int))->l.length<=n
 |0,[],_,_=>Nat.le_refl _
 |0,x::_,_,h=>by have:=h x<|.head _;rw[absurd (Int.lt_of_le_of_lt this.1 this.2) ac]
 |n+1,l,nd,h=>by
  have e:l.length<=(l.filter λx=>decide (x≠(n:Int))).length+1:=by
   clear h
   induction l with
   |nil=>rw[Nat.zero_le _]
   |cons x r ih=>
    rw[List.nodup_cons] at nd
    by_cases q:x=(n:Int)
    ·erw[List.filter_cons_of_neg<|by simp [q]];have:r.filter (λx=>decide (x≠(n:Int)))=r:=List.filter_eq_self.mpr λy hy=>by
      simp only [ne_eq,decide_eq_true_eq];intro z;rw[nd.1<|af q<|af (Eq.symm<|z) hy]
     rw[af this<|af List.length_cons<|Nat.le_refl _]
    ·rw[af (List.filter_cons_of_pos<|by simp [q])<|af List.length_cons<|af List.length_cons<|Nat.succ_le_succ<|ih nd.2]
  have:=dH n (l.filter λx=>decide (x≠(n:Int))) (List.filter_sublist.nodup nd) λx hx=>by
   obtain ⟨h1,h2⟩:=List.mem_filter.mp hx;have:=h x h1;simp only [ne_eq,decide_eq_true_eq] at h2;rw[⟨this.1,Int.lt_iff_le_and_ne.mpr ⟨Int.le_of_lt_add_one this.2,h2⟩⟩]
  rw[LG e this]
noncomputable def nk (f:Int->Option Int)(k v:Int):Int->Option Int:=λx=>if x=k then some v else f x
noncomputable def oV (f:Int->Option Int)(k:Int):Int->Option Int:=λx=>if x=k then none else f x
section
variable {f:Int->Option Int}
theorem vY (hd:h.DictOf (intKind D.prog D.w) a Ss)(hb:∀kv∈Ss,0<=kv.1/\kv.1<2^20/\∃i t,kv.2=Value.int i t):Ss.length<=sizeLine:=by
 right;obtain ⟨_,_,_,_,_,_,_,_,nd⟩:=hd;have:=dH (2^20) (Ss.map (·.1)) nd λx hx=>by
  obtain ⟨kv,h1,rfl⟩:=List.mem_map.mp hx;have:=hb kv h1;rw[⟨this.1,this.2.1⟩]
 rw[cD] at this;symm;rw[Nat.le_trans this ac]
theorem wY (ha:U a=some (.bD f))(h:k (.int<|(f i).getD j) U):bN D n (.builtin "dict.get") [.ref a,.int i,.int j] U k ke:=λc lo vs hc=>Tr.aW λs r iv Q hQ=>by
 obtain ⟨va,vb,vc,rfl,ia,ib,ic⟩:=tH iv
 cases isRef ia
 obtain ⟨t,rfl⟩:=isInt ib;clear iv;obtain ⟨u,rfl⟩:=isInt ic;obtain ⟨hm,Ss,hd,hb,hf⟩:=r.obs a _ ha;rw[call_meetsIn PySem.F.slot_dict_get hd.typeIs PySem.F.entry_dict_get (PySem.F.args_dict_get_3 _ _ _) (meets_dict_get_default (intKind D.prog D.w) a (intKind_is _ _ i t) hm<|.int j u) ⟨_,hd.mapOf,?_⟩]
 cases q:valueAt Ss i with
 |none=>
  rw[hf i,q] at h;rw[hQ _ _ _ (.int j u) h]
 |some v=>
  obtain ⟨m,t',e⟩:∃m t',v=.int m t':=by
   unfold valueAt at q;obtain ⟨kv,e1,rfl⟩:=Option.map_eq_some_iff.mp q;obtain ⟨_,_,m,t',e⟩:=hb kv<|List.mem_of_find?_eq_some e1;rw[⟨m,t',e⟩]
  subst e;rw[hf i,q] at h;rw[hQ _ _ _ (.int m t') h]
theorem za (ha:U a=some (.bD f))(hi:f i=some j)(h:k (.int j) U)(hs:∀l j u,subscripted slice false (.ref l) (.int j u)=operate [.ref l,.int j u] (getItem (.ref l)<|.int j u):=by intros;rfl):r7 D n value slice (.ref a) (.int i) U k ke:=λc lo av bv hc=>Tr.aW λs r iv Q hQ=>by
 obtain ⟨ib,ia⟩:=iv.pair
 cases isRef ia
 clear iv;obtain ⟨u,rfl⟩:=isInt ib;obtain ⟨hm,Ss,hd,hb,hf⟩:=r.obs a _ ha;rw[hf i] at hi
 cases q:valueAt Ss i with
 |none=>rw[q] at hi;rw[aq hi]
 |some v=>
  rw[q] at hi;have:∃t,v=.int j t:=by cases v<;>first|(cases hi;rw[⟨_,rfl⟩];done)|(rw[aq hi];done)
  clear hi;obtain ⟨t,rfl⟩:=this;rw[tail_any hd.typeIs slot_dict_getitem.lookup (wpAny_getItem_of (intKind_is _ _ i u) hd.mapOf q<|hQ _ _ _ (.int _ _) h)<|hs _ _ _]
theorem qV {t:Tok}(hb:∀kv∈Ss,0<=kv.1/\kv.1<2^20/\∃i t,kv.2=Value.int i t)(h0:0<=i)(h1:i<2^20):∀kv∈stored Ss i (.int j t),0<=kv.1/\kv.1<2^20/\∃i t,kv.2=Value.int i t:=λkv hm=>by
 unfold stored at hm
 split at hm
 ·obtain ⟨p,hp,rfl⟩:=List.mem_map.mp hm;have:=hb p hp
  split
  ·rw[⟨this.1,this.2.1,j,t,rfl⟩]
  ·rw[this]
 ·rcases kX hm with z|z
  ·rw[hb kv z]
  ·clear hm;cases b9 z;rw[⟨h0,h1,j,t,rfl⟩]
theorem sQ (ha:U a=some (.bD f))(h0:0<=i)(h1:i<2^20)(h:kt<|U.set a<|.bD<|nk f i j):r8 D n (.ref a) (.int i) (.int j) U kt ke:=λc lo av bv v hc s r iv=>by
 right;obtain ⟨_,_,_,e,ix,ib,ia⟩:=tH iv
 cases e
 cases isRef ia
 obtain ⟨u,rfl⟩:=isInt ib;clear iv;obtain ⟨t,rfl⟩:=isInt ix;obtain ⟨hm,Ss,hd,hb,hf⟩:=r.obs a _ ha;symm;rw[wpAny_setItem_pairs (intKind_is _ _ i u) hd (λh' TQ hs=>?_)<|vY hd hb];obtain ⟨r',st⟩:=r.put (o':=.bD<|nk f i j) (b:=a) (tk:=s.toks+1) ha rfl rfl rfl (.inl rfl) (λy ob ny e=>(hs.2 y ny).trans e) λkv=>⟨hm,_,TQ,qV hb h0 h1,λz=>by
  unfold nk;rw[af (gm ..) ?_]
  split
  ·rfl
  ·rw[hf z]⟩
 rw[⟨(),_,r',st,True.intro,h⟩]
theorem wZ (ha:U a=some (.bD f))(hi:f i=some j)(h:k (.int j)<|U.set a<|.bD<|oV f i){more:List V}(XW:more=[]\/more=[.none]):bN D n (.builtin "dict.pop") (.ref a:: .int i::more) U k ke:=λc lo vs hc s r iv=>by
 obtain ⟨va,vb,rest,rfl,ia,ib,Uo⟩:∃va vb rest,vs=va::vb::rest/\cz s.heap va (.ref a)/\cz s.heap vb (.int i)/\(rest=[]\/rest=[.none]):=by
  rcases XW with rfl|rfl
  ·obtain ⟨va,vb,rfl,ia,ib⟩:=gQ iv;rw[⟨va,vb,[],rfl,ia,ib,.inl rfl⟩]
  ·obtain ⟨va,vb,vc,rfl,ia,ib,ic⟩:=tH iv;clear iv;cases isNone ic;rw[⟨va,vb,_,rfl,ia,ib,.inr rfl⟩]
 cases isRef ia
 obtain ⟨u,rfl⟩:=isInt ib;obtain ⟨hm,Ss,hd,hb,hf⟩:=r.obs a _ ha;rw[hf i] at hi
 cases q:valueAt Ss i with
 |none=>rw[q] at hi;rw[aq hi]
 |some v=>
  rw[q] at hi;have:∃t,v=.int j t:=by cases v<;>first|(cases hi;rw[⟨_,rfl⟩];done)|(rw[aq hi];done)
  clear hi;obtain ⟨t,rfl⟩:=this;rw[call_meetsIn PySem.F.slot_dict_pop hd.typeIs PySem.F.entry_dict_pop (by clear iv;rcases Uo with rfl|rfl;rw[PySem.F.args_dict_pop_2 _ _,PySem.F.args_dict_pop_3 _ _ _]) (meets_dict_pop_there (intKind D.prog D.w) a (intKind_is _ _ i u) rest (Uo.imp id λz=>⟨_,z⟩) rfl) ⟨Ss,_,hd,vY hd hb,q,λh' TQ hs=>?_⟩];obtain ⟨r',st⟩:=r.put (o':=.bD<|oV f i) (b:=a) (tk:=s.toks+1) ha rfl rfl rfl (.inl rfl) (λy ob ny e=>(hs.2 y ny).trans e) λkv=>⟨hm,_,TQ,λkv hm=>hb kv (List.mem_filter.mp hm).1,λz=>by
   unfold oV;rw[af (m7 ..) ?_]
   split
   ·rfl
   ·rw[hf z]⟩
  rw[⟨.int j,_,r',st,.int _ _,h⟩]
theorem ua (ha:U a=some (.bD f))(hi:f i=none)(h:k .none U):bN D n (.builtin "dict.pop") [.ref a,.int i,.none] U k ke:=λc lo vs hc=>Tr.aW λs r iv Q hQ=>by
 obtain ⟨va,vb,vc,rfl,ia,ib,ic⟩:=tH iv
 cases isRef ia
 obtain ⟨u,rfl⟩:=isInt ib;clear iv;cases isNone ic;obtain ⟨hm,Ss,hd,hb,hf⟩:=r.obs a _ ha;rw[hf i] at hi
 cases q:valueAt Ss i with
 |some v=>
  exfalso;unfold valueAt at q;obtain ⟨kv,e1,rfl⟩:=Option.map_eq_some_iff.mp q;obtain ⟨_,_,m,t',e⟩:=hb kv<|List.mem_of_find?_eq_some e1;unfold valueAt at hi;rw[e1] at hi;rw[Option.map_some,e] at hi;rw[gu hi]
 |none=>
  rw[call_meetsIn PySem.F.slot_dict_pop hd.typeIs PySem.F.entry_dict_pop (PySem.F.args_dict_pop_3 _ _ _) (meets_dict_pop_default (intKind D.prog D.w) a (intKind_is _ _ i u) hm rfl .none) ⟨Ss,hd,q,hQ _ _ _ .none h⟩]
theorem wj (ha:U a=some (.bD f))(slot:Slot "dict" name Va)(ty:typeOf (.builtin Va)=pure (.type "method_descriptor")):MethW D n (.ref a) name U (.builtin Va) [.ref a]:=λc lo av pl hc=>Tr.aW λs r iv Q hQ=>by
 right;obtain ⟨va,e,ia⟩:=gC iv
 cases e
 clear iv;cases isRef ia;obtain ⟨hm,Ss,hd,hb,hf⟩:=r.obs a _ ha;symm;rw[getMethod_builtin hd.typeIs PySem.F.plainAttrs_dict slot ty hd.mapOf.noDict<|hQ _ _ s.toks ⟨rfl,.cons (.ref a) .nil⟩ ⟨rfl,rfl⟩]
theorem zK (ha:U a=some (.bD f)):MethW D n (.ref a) "get" U (.builtin "dict.get") [.ref a]:=wj ha PySem.F.slot_dict_get PySem.F.type_dict_get
theorem wh (ha:U a=some (.bD f)):MethW D n (.ref a) "pop" U (.builtin "dict.pop") [.ref a]:=wj ha PySem.F.slot_dict_pop PySem.F.type_dict_pop
theorem aS {es:List<|Str×V}(ha:U a=some (.j9 es))(hl:es.lookup p=some x)(h:k x U)(hs:∀l j u,subscripted slice false (.ref l) (.str j u)=operate [.ref l,.str j u] (getItem (.ref l)<|.str j u):=by intros;rfl):r7 D n value slice (.ref a) (.str p) U k ke:=λc lo av bv hc=>Tr.aW λs r iv Q hQ=>by
 right;obtain ⟨ib,ia⟩:=iv.pair
 cases isRef ia
 clear iv;obtain ⟨u,rfl⟩:=isStr ib;obtain ⟨hm,mf,hd,UW,hf⟩:=r.obs a _ ha;obtain ⟨v,e1,e2⟩:=hf p x hl;symm;rw[tail_any hd.typeIs slot_dict_getitem.lookup (wpAny_getItem_of (strKind_is _ _ p u) hd e1<|hQ _ _ _ e2 h)<|hs _ _ _]
theorem v7 (hc:bK D n c)(r:R D.prog D.w c lo U s):(s.heap.objs.size==sysModules)=false:=by
 rw[beq_eq_false_iff_ne.mpr λz=>?_];have h1:=modules_low hc.top.nolimit;have h2:=modules_low<|hc.top.nolimit.keeps r.keep;rw[z] at h2;rw[Nat.lt_irrefl _ h2]
theorem tW (h:∀a,U a=none->k (.ref a) (U.set a<|.bD λ_=>none)):bY D n sc (.Dict [] [] pos) lo U k ke:=λc hc hs s r _=>by
 rw[af (eval_Dict_empty ..) ?_,wpAny_bind<|wpAny_standAt ?_,wpAny_newObj_type ?_<|by size_fits];have kp:∀b o,s.heap.get? b=some o->(s.heap.push {cls:=.type "dict",data:=.dict #[]}).get? b=some o:=λb o e=>Heap.get?_push_of_some _ e;obtain ⟨e,R7,Sb⟩:=r.alloc (a:=s.heap.objs.size) (o:=.bD λ_=>none) (tk:=s.toks) kp (bW _) (λd hd=>by rw[aq hd]) ⟨v7 hc r,[],Heap.DictOf.new _,bZ,λ_=>rfl⟩;rw[⟨.ref _,_,R7,Sb,.ref _,h _ e⟩]
end
variable {bl bs bu:Option Int}
inductive eF:Option Expr->Option Int->Prop
 |none:eF none none
 |int {i:Int} {t:Nat} {p:Pos}:eF (some (.Constant (.int i) t p)) (some i)
section
theorem q9 {e:Option Expr}{i:Option Int}(x:eF e i)(h:∀v tk,IsPart v i->Q v {s with toks:=tk}):wpAny (model prog w) A (evalPart e env) Q E s:=by
 cases x with
 |none=>rw[wpAny_pure<|h _ s.toks .none]
 |int=>rw[wpAny_mkInt<|h _ _<|.int _ _]
theorem lU {l u st:Option Expr}{lo hi step:Option Int}{p:Pos}(pl:eF l lo)(pu:eF u hi)(ps:eF st step)
 (h:wpAny (model prog w) A (eval value env) (λo RT=>∀vl vu vs tk,IsPart vl lo->IsPart vu hi->IsPart vs step->∃T Va,typeLookup (.type T) "__getitem__"=pure (some<|.builtin Va)/\RT.TypeIs o T/\
   (∀RZ:Shared,RZ={RT with heap:=RT.heap.push {cls:=.type "slice",data:=.fields #[vl,vu,vs]},toks:=tk}->RZ.TypeIs o T/\wpAny (model prog w) A (getItem o<|.ref RT.heap.objs.size) Q E RZ)) E s):
 wpAny (model prog w) A (eval (.Subscript value (.Slice l u st p) pos) env) Q E s:=by
 rw[af (eval_Subscript ..) ?_,wpAny_bind<|wpAny_mono h (λo RT Sg=>wpAny_bind<|wpAny_holding<|wpAny_Slice<|q9 pl λvl t1 i1=>q9 pu λvu t2 i2=>q9 ps λvs t3 i3=>wpAny_bind<|wpAny_standAt ?_) λ_ _ x=>x];obtain ⟨T,Va,hl,_,hg⟩:=Sg vl vu vs t3 i1 i2 i3;obtain ⟨hT,hg⟩:=hg _ rfl;clear h Sg i3;cases ps
 ·rw[tail_any hT hl hg rfl]
 ·rw[tail_any hT hl hg rfl]
end
noncomputable def pick {α:Type}(xs:List α)(lo hi step:Option Int):List α:=
 (sliceRange (sliceBounds lo hi step xs.length).1 (sliceBounds lo hi step xs.length).2.1 (sliceBounds lo hi step xs.length).2.2).filterMap (xs[·]?)
theorem aM.q6 (iv:aM h vs xs):∀l:List Nat,aM h (l.filterMap (vs[·]?)) (l.filterMap (xs[·]?))
 |[]=>.nil
 |i::l=>by
  rw[af List.filterMap_cons<|af List.filterMap_cons ?_];have el:=iv.length
  cases e:xs[i]? with
  |none=>
   rw[List.getElem?_eq_none_iff] at e;have:vs[i]?=none:=List.getElem?_eq_none_iff.mpr (by lia);rw[af this<|iv.q6 l]
  |some x=>
   right;obtain ⟨v,e1,e2⟩:=iv.at_ e;symm;rw[af e1<|.cons e2<|iv.q6 l]
theorem aM.pick (iv:aM h vs xs)(lo hi step:Option Int):aM h (Internal.pick vs lo hi step)<|Internal.pick xs lo hi step:=by
 unfold Internal.pick;rw[af iv.length<|iv.q6 _]
theorem kN (vs:List Value)(lo hi step:Option Int):slicePick vs.toArray lo hi step=(pick vs lo hi step).toArray:=by
 unfold slicePick pick;simp
section
variable {l u st:Option Expr}{p:Pos}{f:Int->Option Int}
theorem jX (pl:eF l bl)(pu:eF u bu)(ps:eF st bs)(h0:bs≠some 0)(h:bY D n sc value lo U (λx RS=>∃a xs,x=.ref a/\RS a=some (.list xs)/\xs.length<=100000/\∀b,RS b=none->k (.ref b) (RS.set b<|.list<|pick xs bl bu bs)) ke):
 bY D n sc (.Subscript value (.Slice l u st p) pos) lo U k ke:=λc hc hs s r _=>by
 rw[lU pl pu ps<|wpAny_mono (h c hc hs s r .nil) (λv RT w9 vl vu vs tk i1 i2 i3=>?_) λ_ _ z=>z];right;obtain ⟨x,RS,RX,SJ,i,a,xs,e,ha,hz,q⟩:=w9;subst e
 cases isRef i
 obtain ⟨ws,hl,iv⟩:=RX.obs a _ ha;symm;rw[⟨"list",_,slot_list_getitem.lookup,hl.isList.typeIs,λRZ Tu=>?_⟩];have hl₂:RZ.heap.IsList a ws.toArray:=by subst Tu;rw[hl.isList.push _]
 rw[⟨hl₂.typeIs,?_⟩];have TY:∀b o,RT.heap.get? b=some o->RZ.heap.get? b=some o:=λb o e=>by clear hl₂;subst Tu;rw[Heap.get?_push_of_some _ e]
 have R7:R D.prog D.w c lo RS RZ:=by clear TY;subst Tu;rw[RX.more λb o e=>Heap.get?_push_of_some _ e]
 have t₂:Step c RS RT RS RZ:=by clear R7;subst Tu;rw[.more λb o e=>Heap.get?_push_of_some _ e]
 rw[wpAny_getItem_list_slice hl₂ (by clear t₂;subst Tu;rw[Heap.IsSliceOf.new _ _ _ _]) i1 i2 i3 h0 ?_<|af List.size_toArray<|af iv.length<|Nat.le_trans hz ac];have z:=gh (k:=k) (a:=RZ.heap.objs.size) (tk:=RZ.toks) (h':=RZ.heap.push {cls:=.type "list",data:=.seq<|slicePick ws.toArray bl bu bs}) (vs:=pick ws bl bu bs) R7 (λb o e=>Heap.get?_push_of_some _ e) (bW _) ⟨_,Heap.get?_push_size _ rfl,0,by rw[af (kN ..) rfl]⟩ ((iv.aE<|.of_keeps TY).pick bl bu bs) q;rw[z.step<|SJ.trans t₂]
theorem tU (TZ:IntsAre D.fH ns)(hz:ns.length<=100000)(pl:eF l bl)(pu:eF u bu)(ps:eF st bs)(h0:bs≠some 0)(h:bY D n sc value lo U (λx RS=>x=.ref D.bw/\∀b,RS b=none->k (.ref b) (RS.set b<|.list<|(pick ns bl bu bs).map .int)) ke):
 bY D n sc (.Subscript value (.Slice l u st p) pos) lo U k ke:=by
 intro c hc hs s r _;rw[lU pl pu ps<|wpAny_mono (h c hc hs s r .nil) (λv RT w9 vl vu vs tk i1 i2 i3=>?_) λ_ _ z=>z];obtain ⟨x,RS,RX,SJ,i,e,q⟩:=w9;subst e
 cases isRef i
 have hl:RT.heap.IsList D.bw D.fH.toArray:=by obtain ⟨o,e,z⟩:=hc.m8;rw[⟨o,RX.keep _ _ e,z⟩]
 rw[⟨"list",_,slot_list_getitem.lookup,hl.typeIs,λRZ Tu=>?_⟩];have hl₂:RZ.heap.IsList D.bw D.fH.toArray:=by subst Tu;rw[hl.push _]
 rw[⟨hl₂.typeIs,?_⟩];have TY:∀b o,RT.heap.get? b=some o->RZ.heap.get? b=some o:=λb o e=>by clear hl₂;subst Tu;rw[Heap.get?_push_of_some _ e]
 have R7:R D.prog D.w c lo RS RZ:=by clear TY;subst Tu;rw[RX.more λb o e=>Heap.get?_push_of_some _ e]
 have t₂:Step c RS RT RS RZ:=by clear R7;subst Tu;rw[.more λb o e=>Heap.get?_push_of_some _ e]
 have iv:aM RZ.heap D.fH<|ns.map .int:=qy TZ;rw[wpAny_getItem_list_slice hl₂ (by clear t₂ iv;subst Tu;rw[Heap.IsSliceOf.new _ _ _ _]) i1 i2 i3 h0 ?_<|af List.size_toArray<|af TZ.length<|Nat.le_trans hz ac];have ep:pick (ns.map V.int) bl bu bs=(pick ns bl bu bs).map .int:=by
  unfold pick;rw[af (cD ..)<|af List.map_filterMap ?_]
  congr 1
  funext i
  rw[af List.getElem?_map rfl]
 have z:=gh (k:=k) (a:=RZ.heap.objs.size) (tk:=RZ.toks) (h':=RZ.heap.push {cls:=.type "list",data:=.seq<|slicePick D.fH.toArray bl bu bs}) (vs:=pick D.fH bl bu bs) (xs:=pick (ns.map V.int) bl bu bs) R7 (λb o e=>Heap.get?_push_of_some _ e) (bW _) ⟨_,Heap.get?_push_size _ rfl,0,by rw[af (kN ..) rfl]⟩ (iv.pick bl bu bs)<|af ep q;rw[z.step<|SJ.trans t₂]
theorem qL (TZ:IntsAre D.fH ns)(hz:ns.length<=100000)(h:k (.int ns.length) U):bN D n (.builtin "len") [.ref D.bw] U k ke:=λc lo vs hc=>Tr.aW λs r iv Q hQ=>by
 obtain ⟨va,rfl,ia⟩:=gC iv;clear iv;cases isRef ia;have hl:s.heap.IsList D.bw D.fH.toArray:=by obtain ⟨o,e,z⟩:=hc.m8;rw[⟨o,r.keep _ _ e,z⟩]
 rw[Calls.call_len_list hl (af List.size_toArray<|af TZ.length<|JJ hz) ?_,af List.size_toArray<|af TZ.length<|hQ _ _ _ (.int _ _) h]
theorem qU {t:Tok}{sl:Addr}{l1 l2:Option<|Int×Tok}(V0:s.heap.IsSlice sl l1 l2 none)(hz:q.length<=sizeLine)
 (h:∀t' k',Q (.str (Txt.slice q (l1.map (·.1)) (l2.map (·.1))) t') {s with toks:=k'}):wpAny (model prog w) A (getItem (.str q t)<|.ref sl) Q E s:=by
 have SM:=Nat.le_trans (Txt.slice_le q (l1.map (·.1)) (l2.map (·.1))) hz;rw[wpAny_getItem_str_slice V0 rfl ?_];unfold sliceMade slicePicked;unfold Txt.slice at h SM;simp only [Option.map_none,Option.getD_none] at h SM ⊢;rw[post_val_or_str ⟨SM,h⟩]
theorem mh (pl:eF l bl)(pu:eF u bu)(h:bY D n sc value lo U (λx RS=>∃q,x=.str q/\q.length<=100000/\k (.str<|Txt.slice q bl bu) RS) ke):
 bY D n sc (.Subscript value (.Slice l u none p) pos) lo U k ke:=by
 intro c hc hs s r _;have ps:eF none none:=.none;rw[lU pl pu ps<|wpAny_mono (h c hc hs s r .nil) (λv RT w=>?_) λ_ _ z=>z];intro vl vu vs tk i1 i2 i3;right;obtain ⟨x,RS,RX,SJ,i,q,e,hz,hk⟩:=w;subst e;obtain ⟨t,rfl⟩:=isStr i;symm;rw[⟨"str",_,PySem.F.slot_str_getitem.lookup,typeIs_str _ _ _,λRZ Tu=>⟨typeIs_str _ _ _,?_⟩⟩];have R7:R D.prog D.w c lo RS RZ:=by subst Tu;rw[RX.more λb o e=>Heap.get?_push_of_some _ e]
 have t₂:Step c RS RT RS RZ:=by clear R7;subst Tu;rw[.more λb o e=>Heap.get?_push_of_some _ e]
 right;have p1:∀{v:Value} {i:Option Int},IsPart v i->∃l,v=partValue l/\l.map (·.1)=i:=λx=>by
  cases x with
  |none=>rw[⟨none,rfl,rfl⟩]
  |int i t=>rw[⟨some (i,t),rfl,rfl⟩]
 obtain ⟨l1,rfl,q1⟩:=p1 i1;obtain ⟨l2,rfl,q2⟩:=p1 i2
 cases i3
 clear pl i1;subst q1;clear pu i2 h;subst q2;symm;have V0:RZ.heap.IsSlice RT.heap.objs.size l1 l2 none:=by clear t₂;subst Tu;rw[⟨_,Heap.get?_push_size _ rfl,rfl,rfl⟩]
 rw[qU V0 (Nat.le_trans hz ac) λt' k'=>?_];have z:Post D cz c lo RS RZ k (.str (Txt.slice q (l1.map (·.1)) (l2.map (·.1))) t') {RZ with toks:=k'}:=eK (h':=RZ.heap) R7 (λ_ _ e=>e) (.str _ _) hk;rw[z.step<|SJ.trans t₂]
theorem qT (h0:0<=i)(h1:i<q.length)(hz:q.length<=100000)(h:k (.str<|Txt.item q i) U)
 (hs:∀l t j u,subscripted slice false (.str l t) (.int j u)=operate [.str l t,.int j u] (getItem (.str l t)<|.int j u):=by intros;rfl):r7 D n value slice (.str q) (.int i) U k ke:=λc lo av bv hc=>Tr.aW λs r iv Q hQ=>by
 obtain ⟨t,rfl⟩:=isStr iv.pair.2;obtain ⟨u,rfl⟩:=isInt iv.pair.1;have hf:fitsSsize i=true:=by
  unfold fitsSsize;rw[af (decide_eq_false (by lia:¬i< -(2^63:Int)))<|af (decide_eq_false (by lia:¬i>=2^63)) rfl]
 obtain ⟨T,Va,e1,e2,e3⟩:=SB.item (prog:=D.prog) (w:=D.w) (A:=c.A) (E:=λ_ _=>False) (Q:=Q) (s:=s) (x:=q) (t:=t) (u:=u) hf (charAt_isSome (by lia) h1)<|hQ _ _ _ (.str _ _) h;rw[tail_any e2 e1 e3<|hs _ _ _ _]
end
theorem Af {h:Heap}:∀{vs:List Value} {ns:List Str},aM h vs (ns.map .str)->StrsAre vs ns
 |vs,[],i=>by cases i;rw[.nil]
 |vs,n::ns,i=>by
  cases i with
  |cons a b=>
   obtain ⟨t,rfl⟩:=isStr a;rw[.cons n t<|Af b]
theorem qx {h:Heap}:∀(l:List<|Str×Tok),aM h (strValues l) ((l.map (·.1)).map .str)
 |[]=>.nil
 |(x,t)::r=>.cons (.str x t) (qx r)
section
open Builtin Builtin.Str
variable {x:Str}{t:Tok} 
theorem xG {y:Str}{u:Tok}(hy:(y.length==0)=false)
 (hq:∀l h' tk,l.map (·.1)=Txt.split x y->(∀b o,s.heap.get? b=some o->h'.get? b=some o)->i8 h' s.heap.objs.size (strValues l)->Q (.ref s.heap.objs.size) {s with heap:=h',toks:=tk})
 (Ve:x.length<=sizeLine) (YS:(partsBetween x (occurrences x y 0 x.length<|x.length+1) y.length).length<=sizeLine):
 wpAny (model prog w) A (call (.builtin "str.split") [.str x t,.str y u]) Q E s:=by
 have kp:∀(ob:Obj) b o,s.heap.get? b=some o->(s.heap.push ob).get? b=some o:=λob b o e=>Heap.get?_push_of_some _ e
 cases h1:(decide (x.length<y.length)||decide (strKind x<strKind y))
 ·cases hf:(occurrences x y 0 x.length<|x.length+1).isEmpty
  ·rw[call_meets F.slot_str_split (typeIs_str _ _ _) F.entry_str_split (F.args_str_split_2 _ _) (meets_str_split_sep x y t u h1 hy hf Ve YS) ?_];show wants Q E _ {s with toks:=_,heap:=s.heap.push {cls:=.type "list",data:=.seq (strsFrom s.toks<|partsBetween x (occurrences x y 0 x.length<|x.length+1) y.length).toArray}};rw[af (strsFrom_eq ..) ?_,hq (numbered s.toks _) _ _ ((numbered_texts _ _).trans ((if_neg<|ne_true_of_eq_false h1).trans<|if_neg<|ne_true_of_eq_false hf).symm) (kp _) ⟨_,Heap.get?_push_size _ rfl,0,rfl⟩]
  ·exact call_meets PySem.F.slot_str_split (typeIs_str _ _ _) PySem.F.entry_str_split (PySem.F.args_str_split_2 _ _) (meets_str_split_not_found x y t u h1 hy hf)
    (hq [(x,t)] _ s.toks ((if_neg<|ne_true_of_eq_false h1).trans<|if_pos hf).symm (kp _) ⟨_,Heap.get?_push_size _ rfl,0,rfl⟩)
 ·exact call_meets F.slot_str_split (typeIs_str _ _ _) F.entry_str_split (F.args_str_split_2 _ _) (meets_str_split_cannot_occur x y t u h1)
   (hq [(x,t)] _ s.toks (if_pos h1).symm (kp _) ⟨_,Heap.get?_push_size _ rfl,0,rfl⟩)
end
section
theorem uR (slot:Slot "str" name Va)(ty:typeOf (.builtin Va)=pure (.type "method_descriptor")):MethW D n (.str p) name U (.builtin Va) [.str p]:=λc lo av pl hc=>Tr.aW λs r iv Q hQ=>by
 right;obtain ⟨va,e,ia⟩:=gC iv
 cases e
 obtain ⟨t,rfl⟩:=isStr ia;symm;rw[getMethod_builtin (typeIs_str _ _ _) PySem.F.plainAttrs_str slot ty (λa e=>by rw[bU Value.ctorIdx e rfl])<|hQ _ _ s.toks ⟨rfl,.cons (.str p t) .nil⟩ ⟨rfl,rfl⟩]
theorem ru:MethW D n (.str p) "join" U (.builtin "str.join") [.str p]:=uR PySem.F.slot_str_join PySem.F.type_str_join
theorem sZ:MethW D n (.str p) "split" U (.builtin "str.split") [.str p]:=uR PySem.F.slot_str_split PySem.F.type_str_split
theorem BR:MethW D n (.str p) "find" U (.builtin "str.find") [.str p]:=uR PySem.F.slot_str_find PySem.F.type_str_find
theorem rU {ys:List Str}(ha:U a=some (.list<|ys.map .str))(hz:(ys.map (·.length)).sum+ys.length*p.length<=1000000)(h:k (.str<|Txt.join p ys) U):bN D n (.builtin "str.join") [.str p,.ref a] U k ke:=λc lo vs hc=>Tr.aW λs r iv Q hQ=>by
 obtain ⟨va,vb,rfl,ia,ib⟩:=gQ iv;obtain ⟨t,rfl⟩:=isStr ia;clear iv;cases isRef ib;obtain ⟨vs,hl,iv⟩:=r.obs a _ ha;rw[PyProof.Rows.join_list hl.isList (Af iv) (Nat.le_trans hz ac) λt' k'=>hQ _ _ _ (.str _ t') h]
theorem CJ (h:k (.int<|Txt.find p q) U):bN D n (.builtin "str.find") [.str p,.str q] U k ke:=λc lo vs hc=>Tr.aW λs r iv Q hQ=>by
 obtain ⟨va,vb,rfl,ia,ib⟩:=gQ iv;obtain ⟨t,rfl⟩:=isStr ia;clear iv;obtain ⟨u,rfl⟩:=isStr ib;rw[SC.find<|hQ _ _ _ (.int _ _) h]
theorem t9 (hq:1<=q.length)(hz:p.length<=100000)(h:∀a,U a=none->k (.ref a) (U.set a<|.list<|(Txt.split p q).map .str)):bN D n (.builtin "str.split") [.str p,.str q] U k ke:=λc lo vs hc s r iv=>by
 obtain ⟨va,vb,rfl,ia,ib⟩:=gQ iv;obtain ⟨t,rfl⟩:=isStr ia;clear iv;obtain ⟨u,rfl⟩:=isStr ib;rw[xG (af (propext beq_eq_false_iff_ne)<|Nat.ne_of_gt hq) (λl h' tk e kp hl=>?_) (Nat.le_trans hz ac) ?_]
 ·have iv:aM s.heap (strValues l)<|(Txt.split p q).map .str:=af (Eq.symm<|e)<|qx l;rw[gh (tk:=tk) r kp (bW _) hl iv h]
 ·rw[af (len_partsBetween ..) ?_];have:=StrLaws.occ_length_le p q 0 p.length<|p.length+1;rw[Nat.le_trans (show _<=200000 by lia) ac]
end
open Builtin Builtin.Float Builtin.Str
noncomputable def u6:FormatSpec:={align:=62,type:=some 120}
noncomputable def yJ:Str:=⟨#[120]⟩
noncomputable def jV (f:FormatSpec)(a:Int):Str:=intField' f (decide (a<0)) [] ((Nat.toDigits 16 a.natAbs).map λc=>(if (120:Nat)==88 then c.toUpper else c).toNat) [] 4
theorem Q2 {c d:Sem Fin}{Q:Fin->Shared->Prop}(h:c=d)(x:wpAny M A d Q E s):wpAny M A c Q E s:=by subst h;rw[x]
theorem Og {c:Bool}{a d:Sem Fin}{Q:Fin->Shared->Prop}(h:c=false)(x:wpAny M A d Q E s):wpAny M A (if c=true then a else d) Q E s:=by subst h;rw[x]
theorem Cc (a:Int):(jV u6 a).length<=(Nat.toDigits 16 a.natAbs).length+1:=by
 rw[Nat.le_trans (Nat.le_of_eq<|intField'_length_plain u6 _ _ 4 rfl rfl ?_) ?_]
 ·cases e:Nat.toDigits 16 a.natAbs with
  |nil=>rw[absurd e Nat.toDigits_ne_nil]
  |cons _ _=>rfl
 ·rw[af (List.length_map ..) ?_]
  cases decide (a<0)
  ·rw[Nat.max_le.mpr ⟨Nat.zero_le _,Nat.le_trans (Nat.le_of_eq<|Nat.zero_add _)<|Nat.le_succ _⟩]
  ·rw[Nat.max_le.mpr ⟨Nat.zero_le _,Nat.le_of_eq<|Nat.add_comm ..⟩]
section
theorem Ci (a:Int)(t u:Tok)(hl:(jV u6 a).length<=sizeLine):Meets (Builtin.«int.__format__» ⟨[.int a t,.str yJ u],[]⟩) (λ_ R s=>∀t' k,R (.ok<|.ret<|.str (jV u6 a) t') {s with toks:=k}):=by
 apply KPc.meets_of;intro prog w A s Q E hq;unfold Builtin.«int.__format__»;rw[wpAny_bind<|wpAny_of_eq (a:=(_,_)) rfl ?_,wpAny_bind<|wpAny_of_eq (a:=_) rfl ?_,Og (c:=Value.str yJ u==Value.none) rfl ?_,wpAny_bind<|wpAny_typeNameOf (T:="str") (typeIs_str _ _ _) ac λ_=>?_,wpAny_bind<|wpAny_of_eq (a:=some _) rfl ?_,Og rfl ?_,Og rfl ?_,wpAny_bind<|wpAny_typeNameOfCut_int ?_,Q2 (d:=retStr<|jV u6 a) (by kernel_rfl!) ?_,KXf.ret_text (T:=jV u6 a) rfl hl hq]
theorem pX {a:Int}{t:Tok}(ha:a.natAbs<2^64)(h:∀y t' k,y.length<=30->Q (.str y t') {s with toks:=k}):wpAny (model prog w) A (formatField (.int a t) yJ) Q E s:=by
 have hl:(jV u6 a).length<=30:=by
  have h1:=Cc a;have h2:(Nat.toDigits 16 a.natAbs).length<=16:=by
   erw[Nat.length_toDigits_le_iff ac ac];rw[Nat.lt_of_lt_of_le ha ac]
  rw[Nat.le_trans (Nat.le_trans h1<|Nat.add_le_add_right h2 1) ac]
 rw[KXf.field_int rfl ac ac (λu=>Ci a t u<|Nat.le_trans hl ac) λt' k=>h _ t' k hl]
end
section
variable (D:cN)(n:Nat)
def xj (sc:Scope)(TX:Str)(es:List Expr)(lo:Lo)(U:St)(k:V->St->Prop)(ke:KE):Prop:=
 ∀c,bK D n c->c.env.scope=sc->Tr D cz c lo U [] [] (joinParts TX<|evalEach es c.env) k ke
end
section
variable {D:cN}{n:Nat}{TX:Str}{p:Pos}
theorem join_nil (hz:TX.length<=100000)(h:k (.str TX) U):xj D n sc TX [] lo U k ke:=λc hc hs s r _=>
 joinParts_nil ⟨.str TX,U,r.tok _,.tok _,.str _ _,h⟩ (Nat.le_trans hz ac)
theorem join_cons (h:bY D n sc e lo U (λx RS=>∃y,x=.str y/\TX.length+y.length<=100000/\xj D n sc (TX++y) es lo RS k ke) ke):xj D n sc TX (e::es) lo U k ke:=λc hc hs s r _=>by
 rw[joinParts_cons (rest:=evalEach es c.env)<|wpAny_mono (h c hc hs s r .nil) (λv RT w=>?_) λ_ _ z=>z];right;obtain ⟨x,RS,RX,st,i,y,e,hz,q⟩:=w;subst e;obtain ⟨t,rfl⟩:=isStr i;symm;rw[⟨by rw[af (strLen_append ..) ?_,Nat.le_trans hz ac],?_⟩,wpAny_mono (q c hc hs RT RX .nil) (λv RZ z=>z.step st) λv RZ z=>z.step st]
theorem yi (h:xj D n sc Str.empty (e::e'::es) lo U k ke):bY D n sc (.JoinedStr (e::e'::es) pos) lo U k ke:=λc hc hs s r _=>JoinedStr_many<|h c hc hs s r .nil
theorem Az (h:bY D n sc e lo U (λx RS=>∃i,x=.int i/\0<=i/\i<10^18/\∀y:Str,y.length<=30->k (.str y) RS) ke):bY D n sc (.FormattedValue e (-1) none pos) lo U k ke:=λc hc hs s r _=>by
 rw[FormattedValue_plain<|wpAny_mono (h c hc hs s r .nil) (λv RT w=>?_) λ_ _ z=>z];right;obtain ⟨x,RS,RX,st,i,j,e,h0,hj,q⟩:=w;subst e;obtain ⟨t,rfl⟩:=isInt i;have hl:Nat.log2 j.natAbs<1920:=by
  rcases Nat.eq_zero_or_pos j.natAbs with z|z
  ·rw[af z ?_];decide
  ·have:j.natAbs<2^64:=by lia
   have q1:j.natAbs.log2<64:=(Nat.log2_lt<|by rw[Nat.ne_of_gt z]).mpr this;rw[Km q1]
 symm;rw[formatField_int_small hl ?_];have ly:(PySem.Str.ofString<|toString j).length<=30:=by
  rw[Nat.le_trans (toString_length_le h0 ac hj) ac]
 have z:Post D cz c lo RS RT k (.str (PySem.Str.ofString<|toString j)<|RT.toks+1) {RT with toks:=RT.toks+1+1}:=⟨.str _,RS,RX.tok _,.tok _,.str _ _,q _ ly⟩;rw[z.step st]
theorem AA {pp:Pos}{tt:Nat}(h:bY D n sc e lo U (λx RS=>∃i,x=.int i/\i.natAbs<2^64/\∀y:Str,y.length<=30->k (.str y) RS) ke):bY D n sc (.FormattedValue e (-1) (some<|.JoinedStr [.Constant (.str "x") tt p] pp) pos) lo U k ke:=λc hc hs s r _=>by
 rw[wpAny_bind<|wpAny_mono (h c hc hs s r .nil) (λv RT w=>?_) λ_ _ z=>z];right;obtain ⟨x,RS,RX,st,i,j,e,hj,q⟩:=w;subst e;obtain ⟨t,rfl⟩:=isInt i;symm;rw[wpAny_bind<|wpAny_standAt ?_,wpAny_bind<|wpAny_holding<|wpAny_pure ?_,wpAny_bind<|wpAny_holding<|JoinedStr_one<|wpAny_mkText ?_,wpAny_bind<|wpAny_standAt ?_,pX (s:={RT with toks:=RT.toks+1}) hj λy t' tk ly=>?_];have z:Post D cz c lo RS RT k (.str y t') {RT with toks:=tk}:=⟨.str _,RS,RX.tok _,.tok _,.str _ _,q _ ly⟩;rw[z.step st]
end
variable {fI:Addr}{cd:Code}
section
noncomputable def Cx.under (c:Cx)(cd:Code):Cx:={c with A:=c.A.under cd}
theorem bK.under (hc:bK D (n+1) c)(hw:cd.weight<=4)(he:cd.envs=[])(hu:cd.cUnits<=40):bK D n (c.under cd) where
 kind:=hc.kind
 glob:=hc.glob
 bi:=hc.bi
 K:=hc.K
 top:=hc.top
 m8:=hc.m8
 hd:=λ_=>hc.hd<|Nat.succ_pos _
 fr:=by show pushEnvs cd.envs c.A.frames=_;rw[af he<|af hc.fr rfl]
 Ai:=hc.Ai
 frs:=hc.frs
 here:=hc.here
 fh:=hc.fh
 depth:=by have:=hc.depth;show c.A.depth+cd.weight+4*n+20<_;rw[LR this hw]
 units:=by have:=hc.units;show c.A.units+cd.cUnits+40*n+200<_;rw[LQ this hu]
theorem R.under (r:R D.prog D.w c lo U s):R D.prog D.w (c.under cd) lo U s:=⟨r.gens,r.os,r.keep,r.lo,r.obs,r.new,r.newF,r.apart,r.aG,r.inj,r.bE,r.bT⟩
theorem R.d8 (r:R D.prog D.w (c.under cd) lo U s):R D.prog D.w c lo U s:=⟨r.gens,r.os,r.keep,r.lo,r.obs,r.new,r.newF,r.apart,r.aG,r.inj,r.bE,r.bT⟩
theorem xq.d8 {e:Addr}(x:xq (c.under cd) h U h' e C ats):xq c h U h' e C ats:=by
 obtain ⟨oe,ws,d,tb,a0,es,n,x1,x2,x3,x4,x5,x6,x7,x8,x9,Yp,Zo⟩:=x;rw[⟨oe,ws,d,tb,a0,es,n,x1,x2,x3,x4,x5,x6,x7,x8,x9,Yp,?_⟩];rcases Zo with z|⟨T,oT,ts,q,n,a,y1,y2,y3,y4⟩
 ·rw[.inl z]
 ·rw[.inr ⟨T,oT,ts,q,n,a,y1,y2,y3,y4⟩]
theorem Step.d8 (x:Step (c.under cd) U s σ' s'):Step c U s σ' s':=⟨x.keep,x.grow,x.dom⟩
theorem Step.under (x:Step c U s σ' s'):Step (c.under cd) U s σ' s':=⟨x.keep,x.grow,x.dom⟩
theorem p9 (C:Addr)(vs:List Value):(Code.builtin "type.__call__" ⟨.ref C::vs,[]⟩).weight=1:=rfl
theorem sD (a:Args):(Code.builtin "type.__call__" a).cUnits=1:=rfl
theorem jZ (hm:makesIn D.K C=true)(hi:findIn D.K (.ref C) "__init__"=some (some<|.ref fI))(hf:typeIn D.K (.ref fI)=some (.type "function"))
 (h:∀x dx,U x=none->ay D n (.ref fI) (.ref x::xs) (U.set x<|.inst C dx []) (λv τ=>v=.none/\k (.ref x) τ) ke):bN D (n+1) (.ref C) xs U k ke:=λc lo vs hc s r i=>by
 rw[wpAny_call ?_];obtain ⟨hh,g,d,t,os⟩:=s;have X:=hc.u0 r
 let RT:Shared:=⟨(hh.push emptyDict).push<|instObj C hh.objs.size,g,d,t,os⟩
 have kp:∀b o,hh.get? b=some o->((hh.push emptyDict).push<|instObj C hh.objs.size).get? b=some o:=λb o e=>Heap.get?_push_of_some _<|Heap.get?_push_of_some _ e;have hx:((hh.push emptyDict).push<|instObj C hh.objs.size).get? (hh.objs.size+1)=some (instObj C hh.objs.size):=by
  have:((hh.push emptyDict).push<|instObj C hh.objs.size).get? (hh.push emptyDict).objs.size=some (instObj C hh.objs.size):=Heap.get?_push_size _ rfl
  rwa [Heap.size_push] at this
 have hd:((hh.push emptyDict).push<|instObj C hh.objs.size).get? hh.objs.size=some (dictOf [] 0):=Heap.get?_push_of_some _<|Heap.get?_push_size _ rfl;obtain ⟨e,r',st⟩:=r.alloc (a:=hh.objs.size+1) (o:=.inst C hh.objs.size []) (tk:=t) kp (cG<|Nat.le_succ _) (λd' e=>by (replace e:=sI e;subst e);rw[⟨cG<|Nat.le_refl _,Nat.ne_of_lt<|Nat.lt_succ_self _⟩]) ⟨hx,[],0,hd,.nil⟩;rw[make_core (makes_of X hm) (looks_findIn X hi) (λself=>bind_fn X self hf) (.inl rfl) ?_];have UW:bK D n<|c.under<|.builtin "type.__call__" ⟨.ref C::vs,[]⟩:=hc.under (by rw[af (p9 ..) ?_];decide) rfl (by rw[af (sD ..) ?_];decide);rw[codeAny_mono (h _ _ e (c.under<|.builtin "type.__call__" ⟨.ref C::vs,[]⟩) lo (.ref (hh.objs.size+1)::vs) UW _ r'.under<|.cons (.ref _)<|i.aE<|.of_keeps kp) λrr s' z=>?_]
 match rr,z with
 |.error e',z=>
  have z':EP D c lo (U.set (hh.objs.size+1)<|.inst C hh.objs.size []) RT ke e' s':=by
   obtain ⟨e1,C',ats,τ,x,y,w,f,q⟩:=z;rw[⟨e1,C',ats,τ,x,y.d8,w.d8,f.d8,q⟩]
  rw[z'.step st]
 |.ok (.ret v),⟨b,τ,x,y,w,e',q⟩=>
  subst e'
  cases isNone w
  rw[⟨rfl,.ref _,τ,x.d8,st.trans y.d8,.ref _,q⟩]
end
variable {g:Array GenState}{ab Um:Bool}{sn:List Str}{bm Ym rest:List Value}{dd:Option Addr}{VS:Option Bool}{nm:Str}
section
open Sem (wp)
variable {R:Result->Shared->Prop}{d:Drawn}{os:OsState}
variable {N:Addr}{bs:List Value}{sub:List Value}{k0 k1 k2 k3 k5:Option Value} 
noncomputable abbrev lQ:String:="ValueError.__new__"
theorem pY (F:ExcBaseFacts "ValueError" lQ "ValueError.__init__" Ym)(Yd:(Value.ref C::bm).contains (.type "ValueError")=true){Q:Unit->Shared->Prop}(hC:h.get? C=some (excClassObj nm q C N bs bm Um sn sub ab VS dd k0 k1 k2 k3 k5 lQ))
 (hq:Q () ⟨h,g,d,t,os⟩):wpAny M A (checkBuiltinCall lQ ⟨.ref C::rest,[]⟩) Q E ⟨h,g,d,t,os⟩:=by
 rw[wpAny_check_new_subU F (bmB:=bm) Yd .base hC hq]
theorem Cq (F:ExcBaseFacts "ValueError" lQ "ValueError.__init__" Ym)(VQ:(Value.ref C::bm).contains (.type "ValueError")=true)(Ze:(Value.ref C::bm).contains (.type "AttributeError")=false)(Zd:(Value.ref C::bm).contains (.type "NameError")=false)
 (hC:h.get? C=some (excClassObj nm q C N bs bm Um sn sub ab VS dd k0 k1 k2 k3 k5 lQ))
 (hq:R (.ok<|.ret<|.ref<|h.objs.size+1) ⟨(h.push {cls:=.type "tuple",data:=.seq rest.toArray}).push
   {cls:=.ref C,data:=.fields #[.ref h.objs.size,.none,.none,.none,.bool false,.none]},g,d,t,os⟩) (Uo:rest.length<=sizeLine):
 codeAny (model prog w) A (.builtin lQ ⟨.ref C::rest,[]⟩) R ⟨h,g,d,t,os⟩:=by
 have hends:=F.ends;rw[codeAny_builtinAt F.entry ?_];unfold Builtin.«BaseException.__new__»;rw[PySem.wpAt_bind ?_,PySem.wpAt_bind<|PySem.wpAt_stack λp ZI=>PySem.wpAt_of_wpAny ?_]
 wp_walk
 rw[PySem.wpAt_of_wpAny ?_];erw[F.owner]
 repeat (first|with_reducible refine wpAny_madeHere_exc F.canon hC ?_|with_reducible refine wpAny_loadPart_at hC ?_|(with_reducible rw[wpAny_isSubtype_exc hC ?_];first|erw[VQ]|erw[Ze]|erw[Zd])|wp_step)
 rw[af (Heap.size_push ..) hq]
theorem Aq (F:ExcBaseFacts "ValueError" lQ "ValueError.__init__" Ym)(VQ:(Value.ref C::bm).contains (.type "ValueError")=true)(Ze:(Value.ref C::bm).contains (.type "AttributeError")=false)(Zd:(Value.ref C::bm).contains (.type "NameError")=false)
 (X:K.In h) (hC:h.get? C=some (excClassObj nm q C N bs bm Um sn sub ab VS dd k0 k1 k2 k3 k5 lQ)) (hi:findIn K (.ref C) "__init__"=some (some<|.ref fI)) (hf:typeIn K (.ref fI)=some (.type "function")) (Uo:rest.length<=sizeLine)
 (hq:codeAny (model prog w) (A.under<|.builtin "type.__call__" ⟨.ref C::rest,[]⟩) (.call (.ref fI) ⟨.ref (h.objs.size+1)::rest,[]⟩) (InitBack (h.objs.size+1) R) ⟨(h.push {cls:=.type "tuple",data:=.seq rest.toArray}).push
   {cls:=.ref C,data:=.fields #[.ref h.objs.size,.none,.none,.none,.bool false,.none]},g,d,t,os⟩):
 codeAny (model prog w) A (.call (.ref C) ⟨rest,[]⟩) R ⟨h,g,d,t,os⟩:=by
 have f1:=PySem.tc_lookup;have f2:=PySem.tc_bind<|.ref C;have hT:(⟨h,g,d,t,os⟩:Shared).TypeIs (.ref C) "type":=⟨_,hC,rfl⟩;rw[codeAny_of_tree ?_]
 repeat (any_goals (first|assumption|with_reducible refine wpAny_loadPart_at hC ?_|wp_step))
 rw[⟨rfl,?_⟩,codeAny_call_builtin_at (Code.quiet_builtin _<|by decide+kernel) PySem.entry_typeCall<|wpAny_check_type_call_sub hC ?_]
 repeat (first|with_reducible refine wpAny_loadPart_at hC ?_|with_reducible refine wpAny_madeBy_exc hC ?_|wp_step)
 rw[codeAny_call_builtin_code (Code.quiet_builtin _ F.quiet)<|pY F VQ hC ?_,Cq F VQ Ze Zd hC ?_ Uo];have kp:∀b o,h.get? b=some o->((h.push {cls:=.type "tuple",data:=.seq rest.toArray}).push {cls:=.ref C,data:=.fields #[.ref h.objs.size,.none,.none,.none,.bool false,.none]}).get? b=some o:=λb o e=>Heap.get?_push_of_some _<|Heap.get?_push_of_some _ e;have hC₁:=kp _ _ hC;have X₁:=X.keeps kp;have hget:((h.push {cls:=.type "tuple",data:=.seq rest.toArray}).push
  {cls:=.ref C,data:=.fields #[.ref h.objs.size,.none,.none,.none,.bool false,.none]}).get? (h.objs.size+1)=some
  {cls:=.ref C,data:=.fields #[.ref h.objs.size,.none,.none,.none,.bool false,.none]}:=by heap_get
 have hcC:(Value.ref C::bm).contains (.ref C)=true:=by simp
 repeat (first|with_reducible refine wpAny_loadPart_at hget ?_|(with_reducible rw[wpAny_isSubtype_exc hC₁ ?_];erw[hcC])|wp_step)
 rw[wpAny_isSubtype_exc hC₁ ?_,af hcC ?_]
 repeat (first|with_reducible refine wpAny_loadPart_at hget ?_|wp_step)
 rw[(looks_findIn X₁ hi).here ?_,wpAny_holding<|wpAny_bind<|(bind_fn X₁ _ hf).here ?_,wpAny_bind<|wpAny_call<|codeAny_mono hq λr s' z=>?_];rcases r with e|(v|_|_|_)<;>first|exact z|exact z.elim|skip
 obtain ⟨rfl,z⟩:=z
 wp_walk
 rw[z]
end
variable {dx:Option Addr}
noncomputable abbrev sy:String:="ValueError.__init__"
noncomputable abbrev dU (C:Addr)(dx:Option Addr)(a0:Value):Obj:={cls:=.ref C,dict:=dx,data:=.fields #[a0,.none,.none,.none,.bool false,.none]}
section
variable {R:Result->Shared->Prop}{d:Drawn}{os:OsState}
variable {N:Addr}{bs:List Value}{sub:List Value}{k0 k1 k2 k3 k5:Option Value} 
theorem oW (F:ExcBaseFacts "ValueError" lQ sy Ym)(VQ:(Value.ref C::bm).contains (.type "ValueError")=true){e:Addr}{Q:Unit->Shared->Prop}
 (hC:h.get? C=some (excClassObj nm q C N bs bm Um sn sub ab VS dd k0 k1 k2 k3 k5 lQ)) (he:h.get? e=some oe) (Zb:oe.cls=.ref C) (hq:Q () ⟨h,g,d,t,os⟩):
 wpAny M A (checkBuiltinCall sy ⟨.ref e::rest,[]⟩) Q E ⟨h,g,d,t,os⟩:=by
 have hshort:=F.noStar;simp only [checkBuiltinCall,F.initKind,F.initSplit,F.initRow]
 repeat (first|(with_reducible rw[wpAny_loadPart_at he ?_,af Zb ?_])|with_reducible refine wpAny_loadPart_at hC ?_|(with_reducible rw[wpAny_isSubtype_exc hC ?_,af VQ ?_])|wp_step)
 rw[wpAny_onRaise ?_];erw[show ∀(a b:String) (n:Nat),Bind.check ⟨.positional,"*","ValueError",.self,[⟨"args",.varPos,false⟩]⟩ a b n (List.map (λx=>x.fst) ({pos:=Value.ref e::rest}:Args).kw)=pure () from
  λa b n=>check_star_args _ _ _ _ _ _]
 rw[wpAny_pure hq]
theorem Ao (F:ExcBaseFacts "ValueError" lQ sy Ym)(VQ:(Value.ref C::bm).contains (.type "ValueError")=true){e:Addr} 
 (hC:h.get? C=some (excClassObj nm q C N bs bm Um sn sub ab VS dd k0 k1 k2 k3 k5 lQ)) (he:h.get? e=some (dU C dx a0)) (Uo:rest.length<=sizeLine)
 (hq:∀h',(∀b o,b≠e->h.get? b=some o->h'.get? b=some o)->h'.get? e=some (dU C dx<|.ref h.objs.size)->Q .none ⟨h',g,d,t,os⟩):
 wpAny (model prog w) A (call (.builtin sy)<|.ref e::rest) Q E ⟨h,g,d,t,os⟩:=by
 rw[wpAny_call<|codeAny_call_builtin F.init.plain F.initEntry<|oW F VQ hC he rfl ?_];have he₁:(h.push {cls:=.type "tuple",data:=.seq rest.toArray}).get? e=some (dU C dx a0):=Heap.get?_push_of_some _ he
 wp_walk
 have fin:Q .none ⟨(h.push {cls:=.type "tuple",data:=.seq rest.toArray}).update e<|Obj.mapFields λx=>x.setIfInBounds 0<|Value.ref h.objs.size,g,d,t,os⟩:=by
  rw[hq _ (λb o hb eb=>(Heap.get?_update_ne _ _ _ _ hb).trans<|Heap.get?_push_of_some _ eb) ?_,af (Heap.get?_update_self _ he₁ rfl) ?_];rfl
 clear he he₁;cases a0<;>first
  |exact wpAny_letGo (wpAny_pure fin)
  |exact wpAny_pure (wpAny_pure fin)
end
inductive NZ (K:Frag)(C:Addr):Prop
 |mk (nm q:Str) (N:Addr) (bs bm:List Value) (Um:Bool) (sn:List Str) (sub:List Value) (ab:Bool) (VS:Option Bool) (dd:Option Addr) (k0 k1 k2 k3 k5:Option Value) (hl:K.lookup C=some (excClassObj nm q C N bs bm Um sn sub ab VS dd k0 k1 k2 k3 k5 lQ))
  (c1:(Value.ref C::bm).contains (.type "ValueError")=true) (c2:(Value.ref C::bm).contains (.type "AttributeError")=false) (c3:(Value.ref C::bm).contains (.type "NameError")=false) (c4:(Value.ref C::bm).contains (.type "BaseException")=true)
structure mE (K:Frag)(C:Addr):Prop where
 obj:NZ K C
structure r9 (K:Frag)(C fI:Addr):Prop extends mE K C where
 init:findIn K (.ref C) "__init__"=some (some<|.ref fI)
 fn:typeIn K (.ref fI)=some (.type "function")
section
variable {e:Addr} 
theorem o7 (o:r9 D.K C fI)(hz:xs.length<=1000)(h:∀e,U e=none->ay D n (.ref fI) (.ref e::xs) (U.set e<|.exc C none []) (λv τ=>v=.none/\k (.ref e) τ) ke):bN D (n+1) (.ref C) xs U k ke:=λc lo vs hc s r i=>by
 rw[wpAny_call ?_];obtain ⟨hh,g,d,t,os⟩:=s;have X:=hc.u0 r;obtain ⟨nm,q,N,bs,bm,Um,sn,sub,ab,VS,dd,k0,k1,k2,k3,k5,hl,c1,c2,c3,c4⟩:=o.obj
 let RT:Shared:=⟨(hh.push {cls:=.type "tuple",data:=.seq vs.toArray}).push<|dU C none<|.ref hh.objs.size,g,d,t,os⟩
 have kp:∀b o,hh.get? b=some o->RT.heap.get? b=some o:=λb o e=>Heap.get?_push_of_some _<|Heap.get?_push_of_some _ e;have hx:RT.heap.get? (hh.objs.size+1)=some (dU C none<|.ref hh.objs.size):=by
  have:RT.heap.get? (hh.push {cls:=.type "tuple",data:=.seq vs.toArray}).objs.size=some (dU C none<|.ref hh.objs.size):=Heap.get?_push_size _ rfl
  rwa [Heap.size_push] at this
 obtain ⟨e,r',st⟩:=r.alloc (a:=hh.objs.size+1) (o:=.exc C none []) (tk:=t) kp (cG<|Nat.le_succ _) (λd' e=>by rw[aq e]) ⟨⟨_,_,hx,rfl⟩,rfl⟩;rw[Aq PySem.F.excBase_ValueError c1 c2 c3 X (X _ _ hl) o.init o.fn (af i.length<|Nat.le_trans hz ac) ?_];have UW:bK D n<|c.under<|.builtin "type.__call__" ⟨.ref C::vs,[]⟩:=hc.under (by rw[af (p9 ..) ?_];decide) rfl (by rw[af (sD ..) ?_];decide);rw[codeAny_mono (h _ e (c.under<|.builtin "type.__call__" ⟨.ref C::vs,[]⟩) lo (.ref (hh.objs.size+1)::vs) UW _ r'.under<|.cons (.ref _)<|i.aE<|.of_keeps kp) λrr s' z=>?_]
 match rr,z with
 |.error e',z=>
  have z':EP D c lo (U.set (hh.objs.size+1)<|.exc C none []) RT ke e' s':=by
   obtain ⟨e1,C',ats,τ,x,y,w,f,q⟩:=z;rw[⟨e1,C',ats,τ,x,y.d8,w.d8,f.d8,q⟩]
  rw[z'.step st]
 |.ok (.ret v),⟨b,τ,x,y,w,e',q⟩=>
  subst e'
  cases isNone w
  rw[⟨rfl,.ref _,τ,x.d8,st.trans y.d8,.ref _,q⟩]
theorem yq (o:mE D.K C)(hz:xs.length<=1000)(he:U e=some (.exc C dx ats))(h:k .none U):bN D n (.builtin sy) (.ref e::xs) U k ke:=λc lo vs hc s r i=>by
 cases i with|cons ie iv=>
 right
 cases isRef ie
 obtain ⟨hh,g,d,t,os⟩:=s;have X:=hc.u0 r;obtain ⟨nm,q,N,bs,bm,Um,sn,sub,ab,VS,dd,k0,k1,k2,k3,k5,hl,c1,c2,c3,c4⟩:=o.obj;obtain ⟨⟨o',a0,e1,rfl⟩,hd⟩:=r.obs e _ he;symm;rw[Ao PySem.F.excBase_ValueError c1 (X _ _ hl) e1 (af iv.length<|Nat.le_trans hz ac) λh' kp To=>?_];obtain ⟨r',st⟩:=r.put (o':=.exc C dx ats) (b:=e) (tk:=t) he rfl rfl rfl (.inl rfl) (λy ob ny e=>kp y ob ny e) λkv=>⟨⟨_,_,To,rfl⟩,by
  cases dx with
  |none=>rw[hd]
  |some d'=>
   obtain ⟨es,m,f1,f2⟩:=hd;have nd:d'≠e:=λz=>by clear ie kp he To;subst z;rw[e1] at f1;cases f1
   rw[⟨es,m,kp _ _ nd f1,f2.aE kv⟩]⟩
 have es:U.set e (.exc C dx ats)=U:=by
  funext b
  unfold St.set
  split
  ·rename_i z;rw[af z<|af he rfl]
  ·rfl
 rw[es] at r' st;rw[⟨.none,_,r',st,.none,h⟩]
end
variable {ox:Obj}{od:Option Obj}
open Builtin Builtin.ObjectAttr
noncomputable def uZ:Value->Bool
 |.ref _=>true
 |_=>false
theorem uY (h:uZ v=true):∃c,v=.ref c:=by
 cases v<;>first|exact ⟨_,rfl⟩|exact aA h
def lA (l:List Value):Bool:=l.dropWhile uZ== [.type "ValueError",.type "Exception",.type "BaseException",.type "object"]
theorem jG {P:List Value->Prop}(a:P [.type "ValueError",.type "Exception",.type "BaseException",.type "object"])(b:∀c r,P r->P (.ref c::r)):∀{l:List Value},lA l=true->P l
 |[],e=>absurd (eq_of_beq e) (λz=>nomatch z)
 |v::r,e=>by
  unfold lA at e;rw[List.dropWhile_cons] at e
  cases h:uZ v with
  |true=>
   rw[h,if_pos rfl] at e;obtain ⟨c,rfl⟩:=uY h;rw[b c r<|jG a b e]
  |false=>
   rw[h,if_neg ac] at e;rw[af (eq_of_beq e) a]
theorem vj (self:Value){l:List Value}(e:lA l=true):refuseLoop self "__setattr__" l=pure ():=
 jG (P:=λl=>refuseLoop self "__setattr__" l=pure ()) (PySem.F.store_ValueError.passes self) (λc r ih=>by rw[af (refuseLoop_ref ..) ih]) e
theorem Cr {l:List Value}(e:lA l=true):l.contains (.type "object")=true:=
 jG (P:=λl=>l.contains (.type "object")=true) ac (λc r ih=>by rw[af List.contains_cons<|af ih<|af (Bool.or_true ..) rfl]) e
def nD (K:Frag)(C:Addr):Bool:=(clsIn K C).any λcd=>lA cd.mro
section
variable {x dx:Addr}{es:List DictEntry}{tk:Tok}{R:Result->Shared->Prop} 
theorem lz {r:Option Value}(X:K.In s.heap)(I:InstAt s.heap x ox C od)(hp:nD K C=true)(ht:takerIn K C name=some r)
 (h:∀b,wpAny (model prog w) A.in1 (match r with|some a=>setByDescriptor a (.ref x) v|none=>storeInOwnDict (.ref x) (.ref C) (.str name tk) name v b)
   (λfin s'=>match fin with|.done f=>R (.ok f) s'|.again c'=>c'.quiet=true/\codeAny (model prog w) A c' R s') (λe s'=>R (.error e) s') s):
 codeAny (model prog w) A (.call (.builtin "object.__setattr__") ⟨[.ref x,.str name tk,v],[]⟩) R s:=by
 right;have SF:=PySem.F.store_object;obtain ⟨cd,hc,ho⟩:=any_some hp;symm;have ne:cd.mro.isEmpty=false:=by cases q:cd.mro with|nil=>rw[q] at ho;exact aA ho|cons _ _=>rfl
 have sub:Looks (model prog w) s.heap (isInstance (.ref x)<|.type "object") true:=I.type.andThen<|looks_mroIn X (by unfold mroIn;erw[hc,Option.bind_some,if_neg (by erw[ne];decide),Cr ho]);rw[codeAny_call_builtin SF.slot.plain SF.entry<|@check_slot (model prog w) _ _ s "object.__setattr__" "object" "__setattr__" (.ref x) [.str name tk,v] [] _ SF.kind SF.split sub (SF.args (.ref x) (.str name tk) v) ?_];right;obtain ⟨Sf,ha,hr⟩:=Option.bind_eq_some_iff.mp ht;have hm:Looks (model prog w) s.heap (mroOf<|.ref C) cd.mro:=(looks_clsIn X hc).andThen .now;have L3:Looks (model prog w) s.heap (storeTaker? Sf) r:=by
  cases Sf with
  |none=>(replace hr:=sI hr;clear ht h;subst hr);rw[.now]
  |some a=>
   obtain ⟨b,hb,rfl⟩:=Option.map_eq_some_iff.mp hr;rw[(looks_takesIn X hb).andThen ?_];clear hb hr;cases b<;>rw[.now]
 symm;rw[af (osa_eq ..)<|af (refuse_eq ..) ?_,wpAny_bind<|wpAny_bind<|I.type.here<|wpAny_bind<|hm.here ?_,af (vj _ ho) ?_,wpAny_pure<|wpAny_bind<|I.type.here<|wpAny_bind<|(looks_findIn X ha).here<|wpAny_bind<|L3.here<|h _]
theorem rI (X:K.In s.heap)(hx:s.heap.get? x=some (dU C (some dx) a0))(D:s.heap.get? dx=some (dictOf es n))(hp:nD K C=true)(ht:takerIn K C name=some none)(hh:hasDictIn K C=true)(hr:es.any (·.refKey)=false)(hz:es.length<=999)
 (h:R (.ok<|.ret .none) {s with heap:=s.heap.update dx<|Obj.putName name (PyData.keyHash w.params name) (.str name s.toks) v,toks:=s.toks+1}):
 codeAny (model prog w) A (.call (.builtin "object.__setattr__") ⟨[.ref x,.str name tk,v],[]⟩) R s:=by
 have I:InstAt s.heap x (dU C (some dx) a0) C<|some<|dictOf es n:=⟨hx,rfl,rfl,D⟩;rw[lz X I hp ht λb=>?_];obtain ⟨cd,hc,TQ⟩:=any_some hh;have P:=putName_dict name (PyData.keyHash w.params name) (.str name s.toks) v es n;have D':(s.heap.update dx<|Obj.putName name (PyData.keyHash w.params name) (.str name s.toks) v).get? dx=some (dictOf (putL name (PyData.keyHash w.params name) (.str name s.toks) v es)<|putN name es n):=by
  rw[af (Eq.symm<|P) ?_,Heap.get?_update_self _ D<|af P rfl]
 have VY:(putL name (PyData.keyHash w.params name) (.str name s.toks) v es).length<=es.length+1:=by
  clear hz hr I D P D' h
  induction es with
  |nil=>rw[Nat.le_refl _]
  |cons e r ih=>
   unfold putL
   split
   ·rw[Nat.le_succ _]
   ·rw[Nat.succ_le_succ ih]
 rw[wpAny_bind<|wpAny_pure<|wpAny_bind<|wpAny_bind<|wpAny_loadPart I.at_<|wpAny_bind<|(looks_clsIn X hc).here ?_,af TQ ?_,wpAny_pure (a:=some dx)<|wpAny_bind<|wpAny_pure<|wpAny_bind ?_,wpAny_bind<|wpAny_bind<|wpAny_askSetting<|wpAny_pure<|wpAny_bind<|wpAny_mkText<|wpAny_bind<|wpAny_loadPart D ?_];dsimp only [dictOf];erw[aRefKeyMayBeTheName_at,show es.toArray.any (·.refKey)=false by erw[<- Array.any_toList];rw[hr],Bool.and_false];rw[wpAny_updatePart D ?_,wpAny_bind<|wpAny_lookBehind D' (pastItsLine_dict<|af List.size_toArray<|af sizeLine_eq<|JI VY hz) ?_,wpAny_pure h]
theorem rJ (X:K.In s.heap)(hx:s.heap.get? x=some (dU C none a0))(hp:nD K C=true)(ht:takerIn K C name=some none)(hh:hasDictIn K C=true)
 (h:∀h' Ys,(∀b o,b≠x->s.heap.get? b=some o->h'.get? b=some o)->h'.get? x=some (dU C (some s.heap.objs.size) a0)->h'.get? s.heap.objs.size=some (dictOf (putL name Ys (.str name s.toks) v [])<|putN name [] 0)->
   R (.ok<|.ret .none) {s with heap:=h',toks:=s.toks+1}):
 codeAny (model prog w) A (.call (.builtin "object.__setattr__") ⟨[.ref x,.str name tk,v],[]⟩) R s:=by
 have I:InstAt s.heap x (dU C none a0) C none:=⟨hx,rfl,rfl,trivial⟩;rw[lz X I hp ht λb=>?_];obtain ⟨cd,hc,TQ⟩:=any_some hh;rw[wpAny_bind<|wpAny_pure<|wpAny_bind<|wpAny_bind<|wpAny_loadPart I.at_<|wpAny_bind<|(looks_clsIn X hc).here ?_,af TQ ?_];have hx₁:(s.heap.push {cls:=.type "dict",data:=.dict #[]}).get? x=some (dU C none a0):=Heap.get?_push_of_some _ hx;have Vu:x≠s.heap.objs.size:=Nat.ne_of_lt<|Heap.lt_size hx;rw[wpAny_bind<|wpAny_alloc ?_,wpAny_bind<|wpAny_update hx₁ ?_,wpAny_pure (a:=some s.heap.objs.size) ?_];generalize hg:(s.heap.push {cls:=Value.type "dict",data:=Data.dict #[]}).update x (λo=>{cls:=o.cls,dict:=some s.heap.objs.size,data:=o.data,slots:=o.slots})=g;have gd:g.get? s.heap.objs.size=some (dictOf [] 0):=by
  subst hg;rw[(Heap.get?_update_ne _ _ _ _<|Ne.symm Vu).trans<|Heap.get?_push_size _ rfl]
 have gx:g.get? x=some (dU C (some s.heap.objs.size) a0):=by
  clear gd;subst hg;rw[af (Heap.get?_update_self _ hx₁ rfl) rfl]
 have gk:∀b o,b≠x->s.heap.get? b=some o->g.get? b=some o:=λb o hb e=>by
  clear gd gx;subst hg;rw[(Heap.get?_update_ne _ _ _ _ hb).trans<|Heap.get?_push_of_some _ e]
 rw[wpAny_bind<|wpAny_pure<|wpAny_bind ?_];have P:=putName_dict name (PyData.keyHash w.params name) (.str name s.toks) v [] 0;have D':(g.update s.heap.objs.size<|Obj.putName name (PyData.keyHash w.params name) (.str name s.toks) v).get? s.heap.objs.size=some (dictOf (putL name (PyData.keyHash w.params name) (.str name s.toks) v [])<|putN name [] 0):=by
  rw[af (Eq.symm<|P) ?_,Heap.get?_update_self _ gd<|af P rfl]
 rw[wpAny_bind<|wpAny_bind<|wpAny_askSetting<|wpAny_pure<|wpAny_bind<|wpAny_mkText<|wpAny_bind<|wpAny_loadPart gd ?_,wpAny_updatePart gd ?_,wpAny_bind<|wpAny_lookBehind D' (pastItsLine_dict<|show 1<=_ by decide) ?_,wpAny_pure<|h _ _ (λb o hb e=>(Heap.get?_update_ne _ _ _ _<|Nat.ne_of_lt<|Heap.lt_size e).trans<|gk b o hb e) ((Heap.get?_update_ne _ _ _ _ Vu).trans gx) D']
end
section
variable {e:Addr}{x:V}{dx:Option Addr} 
theorem R.putD (r:R D.prog D.w c lo U s){d:Addr}{o':bI}(e:U a=some o)(hd:o.dictAt=none)(TQ:o'.dictAt=some d)(nd:s.heap.get? d=none){tk:Nat}
 (same:∀y ob,y≠a->s.heap.get? y=some ob->h'.get? y=some ob) (obs:dM s.heap h'->vI D.prog D.w h' a o'):
 R D.prog D.w c lo (U.set a o') {s with heap:=h',toks:=tk}/\Step c U s (U.set a o') {s with heap:=h',toks:=tk}:=by
 have oa:Own c U a:=.inl ⟨o,e,rfl⟩;have sa:s.heap.get? a≠none:=by
  obtain ⟨ob,eb,_⟩:=(r.obs a o e).gY;rw[af eb<|Option.some_ne_none _]
 have nda:d≠a:=λz=>sa<|z▸nd;have kp:iE c U s.heap h':=λy oy ey q=>.inl<|same y oy (λz=>q<|z▸oa) ey;have kv:=r.aE kp;have ap:=r.apart a o e rfl;have offd:=r.off nd;have nσd:U d=none:=by
  cases q:U d with
  |none=>rfl
  |some p=>rw[absurd (.inl ⟨p,q,rfl⟩) offd.own]
 have own:∀y,Own c (U.set a o') y->Own c U y\/y=d:=λy q=>by
  rcases q with ⟨p,ep,hp⟩|⟨u,p,ep,hp⟩|q
  ·by_cases z:y=a
   ·clear e same obs sa nda ap ep;subst z;rw[.inl oa]
   ·rw[St.ai z] at ep;rw[.inl<|.inl ⟨p,ep,hp⟩]
  ·by_cases z:u=a
   ·clear e same obs oa sa nda ap;subst z;rw[St.ah] at ep;(obtain rfl:=sI ep;clear ep);rw[TQ] at hp;rw[.inr (Option.some.inj hp).symm]
   ·rw[St.ai z] at ep;rw[.inl<|.inr<|.inl ⟨u,p,ep,hp⟩]
  ·rw[.inl<|.inr<|.inr q]
 rw[⟨{gens:=r.gens,os:=r.os,keep:=λy oy ey=>same y oy (λz=>?_)<|r.keep y oy ey,lo:=?_,obs:=λy oy ey=>?_,new:=λy q=>?_,newF:=λy q=>?_,apart:=λy oy ey hy=>?_,aG:=λy oy d' ey hy=>?_,inj:=λy y' oy Xd d' ey Tv hy SE=>?_,bE:=r.bE,bT:=r.bT},⟨kp,λy q=>?_,λy oy ey=>?_⟩⟩]
 ·rw[z,r.new a oa] at ey;rw[aq ey]
 ·rw[r.lo.stay kv (λWz e'=>⟨_,same _ _ (Ne.symm ap.1) e'⟩) λn y hy Wz e'=>⟨_,same _ _ (λz=>ap.2.1 n<|z▸hy) e'⟩]
 ·by_cases z:y=a
  ·clear e same oa sa nda ap own;subst z;rw[St.ah] at ey;(obtain rfl:=sI ey;clear ey);rw[obs kv]
  ·rw[St.ai z] at ey;rw[(r.obs y oy ey).stay kv (λWz e'=>same _ _ z e') λd' Za Wz e'=>same _ _ (λq=>?_) e'];clear same obs oa sa nda ap own z;subst q;have:=(r.aG _ _ _ ey Za).2.2.2;rw[ak this e]
 ·rcases own y q with q|q
  ·rw[r.new y q]
  ·clear TQ nd nda nσd own;subst q;rw[offd.g]
 ·obtain ⟨h1,Wy,es,m,Vb,VD⟩:=r.newF y q;rw[⟨h1,Wy,es,m,same _ _ (λz=>ap.2.2<|z▸q) Vb,VD⟩]
 ·by_cases z:y=a
  ·clear e same obs oa sa nda own ey;subst z;rw[ap]
  ·rw[St.ai z] at ey;rw[r.apart _ _ ey hy]
 ·by_cases z:y=a
  ·clear e same obs oa sa ap own;subst z;rw[St.ah] at ey;(obtain rfl:=sI ey;clear ey);rw[TQ] at hy;(obtain rfl:=sI hy;clear hy);rw[⟨λz=>offd.own<|.inr<|.inr<|.inl z,λm z=>offd.own<|.inr<|.inr<|.inr ⟨m,z⟩,offd.fr,af (St.ai nda)<|nσd⟩]
  ·rw[St.ai z] at ey;obtain ⟨h1,h2,h3,h4⟩:=r.aG _ _ _ ey hy;rw[⟨h1,h2,h3,?_⟩];have:d'≠a:=λz'=>by clear same obs oa sa nda ap own z;subst z';rw[ak h4 e]
   rw[af (St.ai this) h4]
 ·have old:∀{u ou},u≠a->(U.set a o') u=some ou->ou.dictAt=some d'->d'≠d:=λ{u ou} z eu hu q=>by
   clear TQ nd nda nσd own;subst q;rw[St.ai z] at eu;rw[offd.own<|.inr<|.inl ⟨u,ou,eu,hu⟩]
  by_cases z:y=a
  ·by_cases z':y'=a
   ·rw[af z<|af z' rfl]
   ·clear e same obs oa sa nda ap own;subst z;rw[St.ah] at ey;(obtain rfl:=sI ey;clear ey);rw[TQ] at hy;(obtain rfl:=sI hy;clear hy);rw[absurd rfl (old z' Tv SE)]
  ·by_cases z':y'=a
   ·clear e same obs oa sa nda ap own;subst z';rw[St.ah] at Tv;(obtain rfl:=sI Tv;clear Tv);rw[TQ] at SE;(obtain rfl:=sI SE;clear SE);rw[absurd rfl (old z ey hy)]
   ·rw[St.ai z] at ey;rw[St.ai z'] at Tv;rw[r.inj _ _ _ _ _ ey Tv hy SE]
 ·rcases own y q with q|q
  ·rw[.inl q]
  ·clear TQ nda offd nσd own;subst q;rw[.inr nd]
 ·by_cases z:y=a
  ·clear e same oa sa nda ap own;subst z;obtain ⟨p,ep,_⟩:=(obs kv).gY;rw[⟨p,ep⟩]
  ·rw[⟨oy,same _ _ z ey⟩]
structure kJ (K:Frag)(C:Addr)(name:Str):Prop where
 set:findIn K (.ref C) "__setattr__"=some (some<|.builtin "object.__setattr__")
 over:nD K C=true
 vQ:takerIn K C name=some none
 dict:hasDictIn K C=true
theorem BB (he:U e=some (.exc C none []))(o:kJ D.K C name)(h:∀d,kt<|U.set e<|.exc C (some d) [(name,x)]):gV D n (.ref e) name x U kt ke:=λc lo av v hc s r iv=>by
 right;obtain ⟨ix,ia⟩:=iv.pair;clear iv;cases isRef ia;obtain ⟨⟨oe,a0,e1,rfl⟩,_⟩:=r.obs e _ he;have I:InstAt s.heap e (dU C none a0) C none:=⟨e1,rfl,rfl,trivial⟩;have X:=hc.u0 r;symm;rw[set_plain X I o.set<|rJ (s:={s with toks:=s.toks+1}) X e1 o.over o.vQ o.dict λh' Ys kp g1 g2=>?_];obtain ⟨r',st⟩:=r.putD (o':=.exc C (some s.heap.objs.size) [(name,x)]) (d:=s.heap.objs.size) (tk:=s.toks+1+1) he rfl rfl (bW _) kp λkv=>⟨⟨_,_,g1,rfl⟩,_,_,g2,.cons (ix.aE kv) .nil⟩;rw[⟨(),_,r',st,True.intro,h _⟩]
theorem zj {d:Addr}(he:U e=some (.exc C (some d) ats))(hz:ats.length<=900)(o:kJ D.K C name)(h:kt<|U.set e<|.exc C (some d)<|Lo.put name x ats):gV D n (.ref e) name x U kt ke:=λc lo av v hc s r iv=>by
 right;obtain ⟨ix,ia⟩:=iv.pair;clear iv;cases isRef ia;obtain ⟨⟨oe,a0,e1,rfl⟩,es,m,e2,e3⟩:=r.obs e _ he;have I:InstAt s.heap e (dU C (some d) a0) C<|some<|dictOf es m:=⟨e1,rfl,rfl,e2⟩;have nd:e≠d:=λz=>by clear he h I;subst z;rw[e1] at e2;cases e2
 have X:=hc.u0 r;symm;rw[set_plain X I o.set<|rI (s:={s with toks:=s.toks+1}) X e1 e2 o.over o.vQ o.dict e3.refKey (af e3.length<|JA hz) ?_];have same:∀y ob,y≠d->s.heap.get? y=some ob->(s.heap.update d<|Obj.putName name (PyData.keyHash D.w.params name) (.str name<|s.toks+1) v).get? y=some ob:=λy ob ny e=>(Heap.get?_update_ne _ _ _ _ ny).trans e;have P:=putName_dict name (PyData.keyHash D.w.params name) (.str name<|s.toks+1) v es m;obtain ⟨r',st⟩:=r.put (o':=.exc C (some d)<|Lo.put name x ats) (b:=d) (tk:=s.toks+1+1) he rfl rfl rfl (.inr rfl) same λkv=>⟨⟨_,_,same _ _ nd e1,rfl⟩,_,_,by erw[Heap.get?_update_self _ e2 (by rw[af P ?_];rfl),P],(e3.put ix).aE kv⟩;rw[⟨(),_,r',st,True.intro,h⟩]
end
variable {T:String}
section
theorem yP {pl:Sem Bool}{Q:Value×List Value->Shared->Prop}(X:K.In s.heap)(ht:typeOf (.type T)=pure (.type "type"))(hs:Manifest.isStub T=false)
 (e:findCls K (.type T) (.type "type") name=some (.val v)) (hh:handedIn v=true) (h:Q (v,[]) {s with toks:=s.toks+1}):wpAny (model prog w) A (getMethod (.type T) name pl) Q E s:=by
 have hstub:opaqueClassAbove (.type T)=pure none:=by unfold opaqueClassAbove;dsimp only;rw[af hs rfl]
 have L0:Looks (model prog w) s.heap (typeOf<|.type T)<|.type "type":=Looks.of_pure ht;have hg:findIn K (.type "type") "__getattribute__"=some (some<|.builtin "type.__getattribute__"):=type_tga;unfold getMethod specialOf;rw[wpAny_bind<|wpAny_bind<|L0.here<|(looks_findIn X hg).here ?_];dsimp only;rw[af (if_pos canon_tga) ?_,wpAny_bind<|wpAny_mono (Q:=λv=>Q (v,[])) (E:=E) ?_ (λ_ _ z=>wpAny_pure z) λ_ _ z=>z];have LO:Looks (model prog w) s.heap (opaqueClassAbove<|.type T) none:=Looks.of_pure hstub;refine cls_open X LO L0 hg (looks_hook X (r:=none)<|by rfl) (by show subIn K _ _=_;rfl) e
  (wpAny_pure (by show wpAny _ _ (handedOut v) _ _ _;rw[af (handedOut_of hh)<|wpAny_pure h]))
end
section
theorem BQ (ht:typeOf (.type T)=pure (.type "type"))(hs:Manifest.isStub T=false)(e:findCls D.K (.type T) (.type "type") name=some (.val v))(hh:handedIn v=true):MethW D n (.atom<|.type T) name U v []:=λc lo av pl hc=>Tr.aW λs r iv Q hQ=>by
 right;obtain ⟨va,e',ia⟩:=gC iv
 cases e'
 clear iv;cases isAtom ia;symm;rw[yP (hc.u0 r) ht hs e hh<|hQ _ _ _ ⟨rfl,.nil⟩ ⟨rfl,rfl⟩]
theorem Ek {mc:Value}(hg:specialIn D.K (.ref C) "__getattribute__"=some (some<|.builtin "type.__getattribute__"))(hr:readsIn D.K C mc=true)(e:findCls D.K (.ref C) mc name=some (.val v))(hh:handedIn v=true):MethW D n (.atom<|.ref C) name U v []:=λc lo av pl hc=>Tr.aW λs r iv Q hQ=>by
 right;obtain ⟨va,e',ia⟩:=gC iv
 cases e'
 clear iv;cases isAtom ia;have X:=hc.u0 r;symm;rw[method_cls X hg<|cls_value X hr e hh<|hQ _ _ _ ⟨rfl,.nil⟩ ⟨rfl,rfl⟩]
end
variable {kl:Fl->Lo->St->Prop}
inductive RH (E:Value->Shared->Prop)(v:Value)(RT:Shared):Prop
 |mk (e:Addr) (dx:Option Addr) (a0:Value) (K:Frag) (C:Addr) (o:NZ K C) (x:K.In RT.heap) (q:v=.ref e) (h:RT.heap.get? e=some (dU C dx a0)) (z:E (.ref e) RT)
section
theorem xK {x:Sem Value}{Q:Flow->Shared->Prop}(hh:A.handled=none)
 (h:wpAny M A x (RH E) E s):
 wpAny M A (raiseStmt env (some x) none) Q E s:=by
 rw[wpAny_bind<|wpAny_mono h (λv RT Sg=>?_) λ_ _ x=>x];obtain ⟨e,dx,a0,K,C,⟨nm,q,N,bs,bm,Um,sn,sub,ab,VS,dd,k0,k1,k2,k3,k5,hl,_,_,_,VQ⟩,X,rfl,he,hE⟩:=Sg;have hC:=X _ _ hl
 repeat (first|with_reducible refine wpAny_loadPart_at he ?_|with_reducible refine wpAny_loadPart_at hC ?_|(with_reducible rw[wpAny_isSubtype_exc hC ?_,af VQ ?_])|wp_step)
 rw[wpAny_raiseNew_none hh hE]
end
section
theorem St.mT {d:Addr}(r:R D.prog D.w c lo RS RT)(SM:τ.le RS)(ha:RS a=some o)(hd:o.dictAt=some d)(hn:τ a=none):¬Own c τ a/\¬Own c τ d:=by
 have ap:=r.apart a o ha rfl;have ad:=r.aG a o d ha hd;rw[⟨λq=>?_,λq=>?_⟩]
 ·rcases q with ⟨p,ep,_⟩|⟨x,p,ep,hp⟩|q|⟨m,q⟩
  ·rw[ak hn ep]
  ·have:=(r.aG x p a (SM _ _ ep) hp).2.2.2;rw[ak this ha]
  ·rw[ap.1 q]
  ·rw[ap.2.1 m q]
 ·rcases q with ⟨p,ep,_⟩|⟨x,p,ep,hp⟩|q|⟨m,q⟩
  ·rw[SM _ _ ep] at ad;cases ad.2.2.2
  ·have:=r.inj _ _ _ _ _ (SM _ _ ep) ha hp hd;clear ha ap;subst this;rw[ak hn ep]
  ·rw[ad.1 q]
  ·rw[ad.2.1 m q]
inductive RI (K:Frag)(lo:Lo)(U:St)(US:ji)(x:V)(RS:St):Prop
 |mk (a C d:Addr) (ats:List (Str×V)) (τ:St) (e:x=.ref a) (ha:RS a=some (.exc C (some d) ats)) (ex:mE K C) (l:U.le RS) (n:U a=none) (t:τ.le RS) (tn:τ a=none) (k:US C ats lo τ)
theorem ju (h:bY D n sc e lo U (RI D.K lo U US) λC a τ=>US C a lo τ)(Sq:0<n:=by rw[Nat.succ_pos _]):eU D n sc (.Raise (some e) none pos) lo U kl US:=λc hc hs s r=>by
 rw[af (arm_exec_Raise ..) ?_,wpAny_bind<|wpAny_standAt ?_,xK (hc.hd Sq)<|wpAny_bind<|wpAny_mono (h c hc hs s r .nil) (λv RT w=>wpAny_bind<|wpAny_standAt<|wpAny_pure ?_) λ_ _ z=>z.toS];right;obtain ⟨x,RS,RX,st,i,a,C,d,ats,τ,e,ha,ex,SM,hn,YO,YN,hk⟩:=w;subst e
 cases isRef i
 obtain ⟨⟨oe,a0,e1,rfl⟩,es,m,e2,e3⟩:=RX.obs a _ ha;obtain ⟨n1,n2⟩:=St.mT RX SM ha rfl hn;obtain ⟨m1,m2⟩:=St.mT RX YO ha rfl YN;have oa:Own c RS a:=.inl ⟨_,ha,rfl⟩;have od:Own c RS d:=.inr<|.inl ⟨a,_,ha,rfl⟩;have fa:=(RX.apart a _ ha rfl).2.2;have fd:=(RX.aG a _ d ha rfl).2.2.1;have na:s.heap.get? a=none:=(st.grow a oa).resolve_left n1;have nd:s.heap.get? d=none:=(st.grow d od).resolve_left n2;symm;rw[⟨a,some d,a0,_,C,ex.obj,hc.u0 RX,rfl,e1,lo,a,C,ats,τ,rfl,RX.le YO,st.le YO,⟨_,_,d,.none,a0,es,m,e1,rfl,rfl,rfl,rfl,rfl,e2,e3,⟨na,m1,fa⟩,⟨nd,m2,fd⟩,.inl rfl⟩,hk⟩]
end
variable {Xk:ji}{U0:List Stmt}{u:Option Value}{R8:Shared}{Wb:Stmt}
theorem ri {env':Env}(h:env.frame=env'.frame):noteFrame v env=noteFrame v env':=by
 unfold noteFrame PySem.frameOf;rw[af h rfl]
section
inductive se (D:cN)(c:Cx)(U:St)(s:Shared)(Xk:ji)(v:Value)(R8:Shared):Prop
 |mk (lo':Lo) (e C d:Addr) (ats:List (Str×V)) (τ:St) (tb:Value) (ev:v=.ref e) (r:R D.prog D.w c lo' τ R8) (st:Step c U s τ R8) (x1:pO R8.heap e C d tb) (x2:pJ R8.heap e tb .none) (x3:yC R8.heap d ats)
  (x4:gG c s.heap τ e) (x5:gG c s.heap τ d) (x6:∀T,tb=.ref T->gG c s.heap τ T) (x7:d≠e) (x8:tb≠ .ref d) (h:Xk C ats lo' τ)
theorem o6 (hc:bK D n c)(r:R D.prog D.w c lo U s)(x:xu D c U s Xk v s'):
 wpAny (model D.prog D.w) c.A (noteFrame v c.env) (λ_ RZ=>wpAny (model D.prog D.w) c.A (setFlight v none) (λ_ R8=>se D c U s Xk v R8) (λ_ _=>False) RZ) (λ_ _=>False) s':=by
 right;obtain ⟨lo',e,C,ats,σ',rfl,r',st,⟨oe,ws,d,tb,a0,es,n',x1,x2,x3,x4,x5,x6,x7,x8,ae,ad,tbc⟩,q⟩:=x;obtain ⟨e',rest,UD,hfe⟩:=hc.here;have he:=wN x1 x2 x3 x4 x5 x6;obtain ⟨L,hL⟩:=hc.frs e'<|af UD<|.head _;have Wh:tb=.none\/pJ s'.heap e tb .none:=by
  rcases tbc with z|⟨T,oT,ts,y1,y2,y3,y4,y5,y6,y7⟩
  ·rw[.inl z]
  ·rw[.inr ⟨T,oT,ts,y1,y2,y4,y5,y6,y7⟩]
 have hat:∀T,tb=.ref T->gG c s.heap σ' T:=λT hT=>by
  rcases tbc with z|⟨T',oT,ts,y1,y2,y3,_⟩
  ·rw[z] at hT;rw[bU Value.ctorIdx hT rfl]
  ·rw[y1] at hT;clear y1 y2;cases hT;rw[y3]
 have TJ:d≠e:=λz=>by
  rw[z,x1] at x7;(clear x1 x2 x3;obtain rfl:=sI x7;clear x7);rw[bU Data.ctorIdx x4 rfl]
 have UM:tb≠ .ref d:=λz=>by
  rcases tbc with z'|⟨T,oT,ts,y1,y2,y3,y4,y5,y6,y7⟩
  ·rw[z'] at z;rw[bU Value.ctorIdx z rfl]
  ·rw[y1] at z;clear y1 y2 y3;cases z;rw[x7] at y4;(clear y5;obtain rfl:=sI y4;clear y4);rw[bU Data.ctorIdx y6 rfl]
 have kg:∀b o,c.g.get? b=some o->s.heap.get? b=some o:=r.keep;have hFF:=iW (l:=c.mV) r' (λ_ h=>h) hc.Ai hc.frs;have U4:∀b,b∈c.mV.filterMap (·.frame)↔f7 c b:=λb=>by
  rw[af (propext List.mem_filterMap) ?_];rfl
 symm;rw[af (ri (env:=c.env) (env':=e') hfe.symm) ?_];rw[UD] at hFF;rw[sV (outer:=rest) (by rw[af hc.fr<|af UD rfl]) hFF hL he Wh λSi T f1 f2 f3 N=>?_];right;rw[<- UD] at N;obtain ⟨R7,Sb,VI,Vq,WZ,Vt⟩:=fQ r' U4 st he (Wh.imp id λz=>⟨_,z⟩) ⟨es,n',x7,x8⟩ ae ad hat TJ UM kg N;symm;rw[oN (s:={s' with heap:=Si}) f1 f3 λTh g1 g2 g3 g4=>?_];right;have there:∀b,Own c σ' b->s'.heap.get? b≠none:=λb q=>by
  rcases q with ⟨o,eo,_⟩|⟨a,o,eo,hd⟩|rfl|⟨m,hm⟩
  ·obtain ⟨ob,eb,_⟩:=(r'.obs _ _ eo).gY;rw[af eb<|Option.some_ne_none _]
  ·obtain ⟨es,n,eb⟩:=(r'.obs _ _ eo).dP hd;rw[af eb<|Option.some_ne_none _]
  ·obtain ⟨m,cm,⟨o,es,ep,eb,_⟩,_⟩:=r'.lo;rw[af eb<|Option.some_ne_none _]
  ·obtain ⟨_,cm,_,VE,_⟩:=r'.lo;obtain ⟨o,eb,_⟩:=VE m b hm;rw[af eb<|Option.some_ne_none _]
 have frth:∀b,f7 c b->s'.heap.get? b≠none:=λb q=>by
  obtain ⟨_,o,es,n,eb,_⟩:=r'.newF b q;rw[af eb<|Option.some_ne_none _]
 have aT:gG c s.heap σ' T:=⟨st.none f2,λz=>there T z f2,λz=>frth T z f2⟩;have hdT:(Value.ref T:Value)≠ .ref d:=λz=>by
  clear f1 f3 g1 g2 g3 aT;cases z;rw[ak f2 x7]
 obtain ⟨So,SA,Ue,UQ,WY,Vs⟩:=fQ (fs:=c.mV.filterMap (·.frame)) R7 U4 Sb f1 (.inr ⟨_,f3⟩) ⟨VI,Vq,WZ,Vt⟩ ae ad (λT' hT=>by cases hT;rw[aT]) TJ hdT kg
  ⟨λb o _ h2 _ h=>g3 b o h2 h,λb o hb h=>⟨o.slots,g3 b o (λz=>by clear h;cases z;rw[aT.2.2<|(U4 _).mp hb]) h⟩,g4⟩
 symm;rw[⟨lo',e,C,d,ats,σ',.ref T,rfl,So,SA,g1,g2,⟨Ue,UQ,WY,Vs⟩,ae,ad,λT' hT=>by cases hT;rw[aT],TJ,hdT,q⟩]
theorem se.flight (r:R D.prog D.w c lo U s)(x:se D c U s Xk v R8):wpAny (model D.prog D.w) A (setFlight v none) (λ_ Sz=>se D c U s Xk v Sz) E R8:=by
 obtain ⟨lo',e,C,d,ats,τ,tb,rfl,So,SA,g1,g2,hd,ae,ad,Wn,TJ,UM,q⟩:=x;have U4:∀b,b∈c.mV.filterMap (·.frame)↔f7 c b:=λb=>by
  rw[af (propext List.mem_filterMap) ?_];rfl
 rw[oN g1 g2 λSS f1 f2 f3 f4=>?_];obtain ⟨Tg,SO,Yi,YK,VJ,WE⟩:=fQ (fs:=c.mV.filterMap (·.frame)) So U4 SA g1 (.inr ⟨_,g2⟩) hd ae ad Wn TJ UM r.keep
  ⟨λb o _ h2 _ h=>f3 b o h2 h,λb o hb h=>⟨o.slots,f3 b o (λz=>(Wn b z).2.2 ((U4 _).mp hb)) h⟩,f4⟩
 rw[⟨lo',e,C,d,ats,τ,tb,rfl,Tg,SO,f1,f2,⟨Yi,YK,VJ,WE⟩,ae,ad,Wn,TJ,UM,q⟩]
noncomputable def Cx.mark (c:Cx)(v:Option Value):Cx:={c with A:=c.A.mark v}
theorem bK.mark (hc:bK D n c)(v:Option Value):bK D 0 (c.mark v) where
 kind:=hc.kind
 glob:=hc.glob
 bi:=hc.bi
 K:=hc.K
 top:=hc.top
 m8:=hc.m8
 hd:=λz=>absurd z<|Nat.lt_irrefl 0
 fr:=hc.fr
 Ai:=hc.Ai
 frs:=hc.frs
 here:=hc.here
 fh:=hc.fh
 depth:=by have:=hc.depth;show c.A.depth+4*0+20<_;rw[LK this]
 units:=by have:=hc.units;show c.A.units+40*0+200<_;rw[LJ this]
theorem R.mark (r:R D.prog D.w c lo U s):R D.prog D.w (c.mark u) lo U s:=⟨r.gens,r.os,r.keep,r.lo,r.obs,r.new,r.newF,r.apart,r.aG,r.inj,r.bE,r.bT⟩
theorem R.unmark (r:R D.prog D.w (c.mark u) lo U s):R D.prog D.w c lo U s:=⟨r.gens,r.os,r.keep,r.lo,r.obs,r.new,r.newF,r.apart,r.aG,r.inj,r.bE,r.bT⟩
theorem Step.unmark (x:Step (c.mark u) U s σ' s'):Step c U s σ' s':=⟨x.keep,x.grow,x.dom⟩
theorem zb {x:Str}{np Sq:Pos}{X:Addr}(ex:nsIn D.K mainGlobals x=some (some<|.ref X))(hx:sc.names.lookup x=some .globalImplicit)
 (h:lO D n sc body lo U kl λC ats lo' τ=>exmOne D.K (.ref C) (.ref X)=some true/\lO D 0 sc (Wb::U0) lo' τ kl gF) (hd:(x==("__debug__":Str))=false:=by decide):
 eU D n sc (.Try body [.ExceptHandler (some<|.Name x np) none (Wb::U0) Sq] [] [] pos) lo U kl US:=λc hc hs s r=>by
 rw[wpAny_Try_except<|wpAny_mono (h c hc hs s r) (λf RT w=>?_) λv RT w=>?_]
 ·have w':lK D c U s kl f RT:=w;clear w;cases f<;>first
   |exact w'
   |exact wpAny_pure w'
 ·rw[wpAny_mono (o6 hc r w) (λ_ RZ U8=>wpAny_mono U8 (λ_ R8 Vn=>?_) λ_ _ z=>z.elim) λ_ _ z=>z.elim];right;have w₃':=Vn;clear w U8;obtain ⟨lo',e,C,d,ats,τ,tb,rfl,So,SA,g1,g2,Xr,ae,ad,Wn,TJ,UM,hm,hk⟩:=Vn;have X₃:=hc.u0 So;symm;rw[wpAny_handleBy_cons (codeAny_handlers_test ?_) (by intro q;rw[bU Value.ctorIdx q rfl]),Name_function_global hc.kind (by unfold Env.kindOf;rw[af hs hx]) (loadGlobal_global (env:=c.env) (af hc.glob<|hc.top.g.keeps So.keep) (mg_of hc.K hc.top.g ex) ?_) hd];right;obtain ⟨oe,ws,a0,y1,y2,y3,y4,y5,y6⟩:=id g1;obtain ⟨Ue,UQ,y7,_⟩:=Xr;have I:InstAt R8.heap e oe C<|some<|dictOf Ue UQ:=⟨y1,y2,by unfold notCls;rw[af y4 rfl],by rw[af y3 y7]⟩;have LT:Looks (model D.prog D.w) R8.heap (typeOf<|.ref e)<|.ref C:=I.type;symm;rw[(exm_one X₃ LT hm).here ?_,codeAny_handlers_suite<|wpAny_mono (w₃'.flight r) (λ_ Sz Ws=>?_) λ_ _ z=>z];right;obtain ⟨TM,Zj,Xa,VJ,UZ,Wc,XC,ev,Tg,SO,_,_,_,_,_,_,_,_,_,VA⟩:=Ws
  cases ev
  symm;rw[wpAny_mono (VA (c.mark<|some<|.ref e) (hc.mark _) hs Sz Tg.mark) (by rintro f SR ⟨fl,l,υ,TF,Te,rf,q⟩;rw[⟨fl,l,υ,TF.unmark,SO.trans Te.unmark,rf,q⟩]) λ_ _ z=>z.no.elim]
end
variable {m':Str->Option Value}
section
variable {e d:Addr} 
theorem R.Fi (r:R D.prog D.w c lo τ RT)(ge:c.g.get? e=none)(gd:c.g.get? d=none)(ne:¬Own c τ e)(nd:¬Own c τ d)(fe:¬f7 c e)(fd:¬f7 c d)(TJ:d≠e)
 (obs:vI D.prog D.w RT.heap e<|.yG C d ats):τ e=none/\R D.prog D.w c lo (τ.set e<|.yG C d ats) RT:=by
 have he:τ e=none:=by
  cases q:τ e with
  |none=>rfl
  |some o=>rw[absurd (.inl ⟨o,q,rfl⟩) ne]
 have hd:τ d=none:=by
  cases q:τ d with
  |none=>rfl
  |some o=>rw[absurd (.inl ⟨o,q,rfl⟩) nd]
 have own:∀b,Own c (τ.set e<|.yG C d ats) b->Own c τ b\/b=e\/b=d:=λb q=>by
  rcases q with ⟨p,ep,hp⟩|⟨x,p,ep,hp⟩|q
  ·by_cases z:b=e
   ·rw[.inr<|.inl z]
   ·rw[St.ai z] at ep;rw[.inl<|.inl ⟨p,ep,hp⟩]
  ·by_cases z:x=e
   ·clear ge ne fe TJ obs he;subst z;rw[St.ah] at ep;(obtain rfl:=sI ep;clear ep);(replace hp:=sI hp;subst hp);rw[.inr<|.inr rfl]
   ·rw[St.ai z] at ep;rw[.inl<|.inr<|.inl ⟨x,p,ep,hp⟩]
  ·rw[.inl<|.inr<|.inr q]
 rw[⟨he,{gens:=r.gens,os:=r.os,keep:=r.keep,lo:=r.lo,obs:=λy oy ey=>?_,new:=λy q=>?_,newF:=r.newF,apart:=λy oy ey hy=>?_,aG:=λy oy d' ey hy=>?_,inj:=λy y' oy Xd d' ey Tv hy SE=>?_,bE:=r.bE,bT:=r.bT}⟩]
 ·by_cases z:y=e
  ·clear ge ne fe TJ he own;subst z;rw[St.ah] at ey;(obtain rfl:=sI ey;clear ey);rw[obs]
  ·rw[St.ai z] at ey;rw[r.obs y oy ey]
 ·rcases own y q with z|z|z
  ·rw[r.new y z]
  ·clear ne fe TJ obs he own q;subst z;rw[ge]
  ·clear nd fd TJ obs hd own q;subst z;rw[gd]
 ·by_cases z:y=e
  ·clear ge TJ obs he own ey;subst z;rw[⟨λw=>ne<|.inr<|.inr<|.inl w,λn w=>ne<|.inr<|.inr<|.inr ⟨n,w⟩,fe⟩]
  ·rw[St.ai z] at ey;rw[r.apart y oy ey hy]
 ·by_cases z:y=e
  ·clear ge ne fe obs he own;subst z;rw[St.ah] at ey;(obtain rfl:=sI ey;clear ey);(replace hy:=sI hy;subst hy);rw[⟨λw=>nd<|.inr<|.inr<|.inl w,λn w=>nd<|.inr<|.inr<|.inr ⟨n,w⟩,fd,af (St.ai TJ) hd⟩]
  ·rw[St.ai z] at ey;obtain ⟨a1,a2,a3,a4⟩:=r.aG y oy d' ey hy;rw[⟨a1,a2,a3,?_⟩];erw[St.ai λ(w:d'=e)=>ne<|.inr<|.inl ⟨y,oy,ey,af (Eq.symm<|w) hy⟩];rw[a4]
 ·have old:∀{u ou},u≠e->(τ.set e<|.yG C d ats) u=some ou->ou.dictAt=some d'->d'≠d:=λ{u ou} z eu hu q=>by
   clear gd fd TJ obs hd own ey Tv;subst q;rw[St.ai z] at eu;rw[nd<|.inr<|.inl ⟨u,ou,eu,hu⟩]
  by_cases z:y=e
  ·by_cases z':y'=e
   ·rw[af z<|af z' rfl]
   ·clear ge ne fe TJ obs he own;subst z;rw[St.ah] at ey;(obtain rfl:=sI ey;clear ey);(replace hy:=sI hy;subst hy);rw[absurd rfl (old z' Tv SE)]
  ·by_cases z':y'=e
   ·clear ge ne fe TJ obs he own;subst z';rw[St.ah] at Tv;(obtain rfl:=sI Tv;clear Tv);(replace SE:=sI SE;subst SE);rw[absurd rfl (old z ey hy)]
   ·rw[St.ai z] at ey;rw[St.ai z'] at Tv;rw[r.inj y y' oy Xd d' ey Tv hy SE]
theorem R.locals (r:R D.prog D.w c lo U s)(ns:h'.Ns c.env.locals m')(same:Heap.SameBut c.env.locals s.heap h'):
 R D.prog D.w c [] U {s with heap:=h',toks:=tk}/\Step c U s U {s with heap:=h',toks:=tk}:=by
 right;have oL:Own c U c.env.locals:=.inr<|.inr<|.inl rfl;have kp:iE c U s.heap h':=λz oz ez q=>.inl<|(same.2 z λe=>q<|e▸oL).trans ez;have kv:=r.aE kp;have k:∀z,z≠c.env.locals->∀ob,s.heap.get? z=some ob->h'.get? z=some ob:=λz hz ob e=>(same.2 z hz).trans e;obtain ⟨m,cm,m1,m2,m3⟩:=r.lo;symm;refine ⟨{gens:=r.gens,os:=r.os,keep:=λz oz ez=>k z (λe=>?_) _<|r.keep z oz ez,lo:=⟨_,cm,ns,λn a e=>?_,λz u e=>by rw[aq e]⟩,obs:=λz oz ez=>(r.obs z oz ez).stay kv ?_ ?_,new:=r.new,newF:=λb q=>?_,apart:=r.apart,aG:=r.aG,inj:=r.inj,bE:=r.bE,bT:=r.bT},
  ⟨kp,.refl,λz oz ez=>?_⟩⟩
 ·rw[e,r.new _ oL] at ez;rw[aq ez]
 ·right;obtain ⟨o,e',hd⟩:=m2 n a e;symm;rw[⟨o,k a (r.bE n a e).2 _ e',hd⟩]
 ·intro ob e;rw[k z (r.apart _ _ ez rfl).1 _ e]
 ·intro d hd ob e;rw[k d (r.aG _ _ _ ez hd).1 _ e]
 ·right;obtain ⟨h1,o,es,n,e,hd⟩:=r.newF b q;symm
  by_cases z:b=c.env.locals
  ·right;obtain ⟨o',U5,Xv,e',TQ,_⟩:=ns;symm;rw[⟨h1,o',U5,Xv,z▸e',TQ⟩]
  ·rw[⟨h1,o,es,n,k b z _ e,hd⟩]
 ·by_cases z':z=c.env.locals
  ·right;obtain ⟨o',U5,Xv,e',_⟩:=ns;symm;rw[⟨o',z'▸e'⟩]
  ·rw[⟨oz,k z z' _ ez⟩]
theorem xD {x:Str}{np Sq:Pos}{X:Addr}(ex:nsIn D.K mainGlobals x=some (some<|.ref X))(hx:sc.names.lookup x=some .globalImplicit)(hnm:sc.names.lookup nm=some .local)
 (h:lO D n sc body lo U kl (λC ats lo' τ=>exmOne D.K (.ref C) (.ref X)=some true/\∀e d,τ e=none->lO D 0 sc (Wb::U0) (lo'.put nm<|.ref e) (τ.set e<|.yG C d ats) (λfl _ υ=>∃Xx:St,Xx.le υ/\Xx e=none/\kl fl [] Xx) gF)) (hd:(x==("__debug__":Str))=false:=by decide):
 eU D n sc (.Try body [.ExceptHandler (some<|.Name x np) (some nm) (Wb::U0) Sq] [] [] pos) lo U kl US:=λc hc hs s r=>by
 rw[wpAny_Try_except<|wpAny_mono (h c hc hs s r) (λf RT w=>?_) λv RT w=>?_]
 ·have w':lK D c U s kl f RT:=w;clear w;cases f<;>first
   |exact w'
   |exact wpAny_pure w'
 ·rw[wpAny_mono (o6 hc r w) (λ_ RZ U8=>wpAny_mono U8 (λ_ R8 Vn=>?_) λ_ _ z=>z.elim) λ_ _ z=>z.elim];right;have w₃':=Vn;obtain ⟨lo',e,C,d,ats,τ,tb,rfl,So,SA,g1,g2,Xr,ae,ad,Wn,TJ,UM,hm,hk⟩:=Vn;have X₃:=hc.u0 So;symm;rw[wpAny_handleBy_cons (codeAny_handlers_test ?_) (by intro q;rw[bU Value.ctorIdx q rfl]),Name_function_global hc.kind (by unfold Env.kindOf;rw[af hs hx]) (loadGlobal_global (env:=c.env) (af hc.glob<|hc.top.g.keeps So.keep) (mg_of hc.K hc.top.g ex) ?_) hd];right;obtain ⟨oe,ws,a0,y1,y2,y3,y4,y5,y6⟩:=id g1;obtain ⟨Ue,UQ,y7,_⟩:=Xr;have I:InstAt R8.heap e oe C<|some<|dictOf Ue UQ:=⟨y1,y2,by unfold notCls;rw[af y4 rfl],by rw[af y3 y7]⟩;have LT:Looks (model D.prog D.w) R8.heap (typeOf<|.ref e)<|.ref C:=I.type;symm;rw[(exm_one X₃ LT hm).here ?_,codeAny_handlers_suite_as<|wpAny_mono (w₃'.flight r) (λ_ Sz Ws=>?_) λ_ _ z=>z];right;obtain ⟨TM,Zj,Xa,VJ,UZ,Wc,XC,ev,Tg,SO,f1,_,Yc,UJ,U7,_,UU,_,_,VA⟩:=Ws
  cases ev
  obtain ⟨XF,XA,a₄,z1,z2,z3,z4,_,_⟩:=id f1;have gn:∀b,s.heap.get? b=none->c.g.get? b=none:=λb hb=>by
   cases q:c.g.get? b with
   |none=>rfl
   |some o=>rw[ak hb<|r.keep b o q]
  obtain ⟨VC,TF⟩:=Tg.Fi (gn _ UJ.1) (gn _ U7.1) UJ.2.1 U7.2.1 UJ.2.2 U7.2.2 UU (C:=Xa) (ats:=UZ) ⟨⟨XF,XA,z1,z2,z3,z4⟩,Yc⟩;symm;have hkn:c.env.kindOf nm=some .local:=by unfold Env.kindOf;rw[af hs hnm]
  right;obtain ⟨m,cm,m1,m2,m3⟩:=id TF.lo;symm;rw[wpAny_storeName_local hkn m1 (λXM Vx U1=>?_)<|af hc.kind rfl];obtain ⟨Uj,T8⟩:=TF.bindL (tk:=Sz.toks+1) (.ref e) hkn ⟨cm,m1,m2,m3⟩ Vx U1 (TM.put nm<|.ref e) λz u e'=>TM.iN nm _ z u e';rw[wpAny_mono (VA e VJ VC (c.mark<|some<|.ref e) (hc.mark _) hs _ Uj.mark) (λf XD YD=>?_) λ_ _ z=>z.no.elim];right;obtain ⟨fl,l,υ,Wv,Vp,rf,Xx,SM,SK,q⟩:=YD;have r₇':=(Wv.unmark.le SM);obtain ⟨Z8,ZG,p1,_⟩:=id r₇'.lo;symm;rw[wpAny_nameGoes hkn p1 (af hc.kind rfl) λYM Z7 XU XR=>?_];obtain ⟨YG,Wf⟩:=r₇'.locals (tk:=XD.toks+1) XU XR;have kv:dM XD.heap YM:=r₇'.aE Wf.keep;rw[⟨fl,[],Xx,YG,?_,?_,q⟩]
  ·have Te:Step c U s (Wc.set e<|.yG Xa VJ UZ) Sz:=⟨SO.keep,λb q=>by
    rcases q with ⟨p,ep,hp⟩|⟨y,p,ep,hp⟩|q
    ·by_cases z:b=e
     ·clear g1 g2 ae TJ w U8 w₃' y1 I LT f1 UU z1 VC TF Vx Uj T8 Wv Vp SK ep;subst z;rw[.inr UJ.1]
     ·rw[St.ai z] at ep;rw[SO.grow b<|.inl ⟨p,ep,hp⟩]
    ·by_cases z:y=e
     ·clear g1 g2 ae TJ w U8 w₃' y1 I LT f1 UJ UU z1 VC TF Vx Uj T8 Wv Vp SK;subst z;rw[St.ah] at ep;(obtain rfl:=sI ep;clear ep);(replace hp:=sI hp;subst hp);rw[.inr U7.1]
     ·rw[St.ai z] at ep;rw[SO.grow b<|.inr<|.inl ⟨y,p,ep,hp⟩]
    ·rw[SO.grow b<|.inr<|.inr q],SO.dom⟩
   rw[(((Te.trans T8).trans Vp.unmark).le SM).trans Wf]
  ·cases f<;>cases fl<;>first
    |exact rf
    |exact (rf:cz _ _ _).aE kv
end
noncomputable def V.vZ:V->Bool
 |.none=>false
 |.atom _=>false
 |_=>true
theorem V.BN (i:cz h v x)(p:x.vZ=true):v≠ .none:=by
 cases i<;>first|(intro z;cases z;done)|(rw[aA p];done)
section
theorem Dn (h:k (.bool true) U):cZ D n .Is .none .none U k ke:=λc lo a b hc=>Tr.aW λs r iv Q hQ=>by
 obtain ⟨ib,ia⟩:=iv.pair
 cases isNone ia;cases isNone ib
 rw[wpAny_is_self rfl (hQ _ _ s.toks (.bool _) h)]
theorem rV (hx:x.vZ=true)(h:k (.bool false) U):cZ D n .Is x .none U k ke:=λc lo a b hc=>Tr.aW λs r iv Q hQ=>by
 obtain ⟨ib,ia⟩:=iv.pair;clear iv;cases isNone ib;rw[is_none_ne (V.BN ia hx)<|hQ _ _ s.toks (.bool _) h]
theorem AO (hn:0<n)(ha:U a=some (.list<|ns.map .int))(h:k (.int ns.sum) U):bN D n (.builtin "sum") [.ref a] U k ke:=λc lo vs hc s r iv=>by
 obtain ⟨va,rfl,ia⟩:=gC iv;clear iv;cases isRef ia;obtain ⟨vs,hl,iv⟩:=r.obs a _ ha;have hi:=oQ iv;obtain ⟨xs,e⟩:=hi.allInts.items;have TZ:ns=xs.toList.map (·.1):=by rw[af (Eq.symm<|hi.numsOf)<|af (Eq.symm<|nums_intItems ..)<|af (Eq.symm<|e) rfl]
 have SP:=hl.isList;rw[e] at SP;rw[sum_intListG (hc.hd hn) SP λh' tk t' kp=>?_];have es:preSum (numAt xs) xs.size=ns.sum:=by
  rw[af (preSum_eq ..)<|af (List.take_of_length_le<|by simp)<|af (Eq.symm<|TZ) rfl]
 rw[af es<|eK (x:=.int ns.sum) r kp (.int _ _) h]
theorem E6 (hn:0<n)(ha:U a=some (.list<|ns.map .int))(SK:0<ns.length)(h:∀m,m∈ns->(∀a∈ns,m<=a)->k (.int m) U):bN D n (.builtin "min") [.ref a] U k ke:=λc lo vs hc s r iv=>by
 obtain ⟨va,rfl,ia⟩:=gC iv;clear iv;cases isRef ia;obtain ⟨vs,hl,iv⟩:=r.obs a _ ha;have hi:=oQ iv;obtain ⟨xs,e⟩:=hi.allInts.items;have TZ:ns=xs.toList.map (·.1):=by rw[af (Eq.symm<|hi.numsOf)<|af (Eq.symm<|nums_intItems ..)<|af (Eq.symm<|e) rfl]
 have Ve:0<xs.size:=by
  have h3:=SK;rw[TZ,cD,Array.length_toList] at h3;rw[h3]
 have SP:=hl.isList;rw[e] at SP;rw[min_intList (hc.hd hn) SP Ve λv h' tk hv kp=>?_];obtain ⟨t,rfl⟩:=intItems_at hv;obtain ⟨h1,h2⟩:=argBest_lt (numAt xs)<|xs.size-1;rw[eK (x:=.int _) r kp (.int _ _)<|h _ ?_ λa ha=>?_]
 ·rw[af TZ<|af (numAt_eq ..) ?_,getD_mem<|af (cD ..)<|af Array.length_toList<|MU Ve h1]
 ·rw[TZ] at ha;obtain ⟨j,hj,rfl⟩:=mem_getD ha;rw[cD,Array.length_toList] at hj;rw[af (Eq.symm<|numAt_eq ..)<|h2 j<|Mz Ve hj]
theorem ux {es:Array DictEntry}{m:Nat}(hl:D.K.lookup a=some ⟨.type "dict",none,.dict es m,#[]⟩)(hk:KeysLit D.w.params es.toList)(e:nsIn D.K a p=some (some v))(hy:∀h,cz h v y)(h:k y U)
 (hs:∀l j u,subscripted slice false (.ref l) (.str j u)=operate [.ref l,.str j u] (getItem (.ref l)<|.str j u):=by intros;rfl):r7 D n value slice (.atom<|.ref a) (.str p) U k ke:=λc lo av bv hc=>Tr.aW λs r iv Q hQ=>by
 obtain ⟨ib,ia⟩:=iv.pair
 cases isAtom ia
 clear iv;obtain ⟨u,rfl⟩:=isStr ib;have X:=hc.u0 r;have hm:=mapOf_K (prog:=D.prog) X hl hk;rw[tail_any hm.typeIs slot_dict_getitem.lookup (wpAny_getItem_of (strKind_is D.prog D.w p u) hm (find_K hl e)<|hQ _ _ _ (hy _) h)<|hs _ _ _]
end
section
variable {d:Drawn}{os:OsState}{x:Addr} 
theorem yg {tk:Tok}{Q:Fin->Shared->Prop}(X:K.In h)(I:InstAt h x ox C od)(hf:findObj K C od name=some (.value v))(hq:Q (.done<|.ret v) ⟨h,g,d,t,os⟩):
 wpAny (model prog w) A (Builtin.«object.__getattribute__» ⟨[.ref x,.str name tk],[]⟩) Q E ⟨h,g,d,t,os⟩:=by
 have L0:=I.type (M:=model prog w);have L1:=looks_find (M:=model prog w) X I hf
 repeat (any_goals (first|assumption|with_reducible refine L0.at ?_|with_reducible refine L1.at ?_|wp_step))
theorem yh {T9:Value}{Q:Unit->Shared->Prop}(X:K.In h)(I:InstAt h x ox C od)(hs:subIn K (.ref C) (.type "BaseException")=some true)(hq:Q () ⟨h,g,d,t,os⟩):wpAny M A (checkBuiltinCall "BaseException.__getattribute__" ⟨[.ref x,T9],[]⟩) Q E ⟨h,g,d,t,os⟩:=by
 have hk:builtinKind "BaseException.__getattribute__"=some .slot:=by decide+kernel
 have hsplit:splitId "BaseException.__getattribute__"=some ("BaseException","__getattribute__"):=by decide+kernel
 have ha:=F.args_bexc_ga (.ref x) T9;have L0:=I.type (M:=M);have L1:=looks_subIn (M:=M) X hs;simp only [checkBuiltinCall,hk,hsplit];rw[wpAny_bind ?_]
 ·unfold isInstance
  repeat (first|with_reducible refine L0.at ?_|with_reducible refine L1.at ?_|wp_step)
  rw[hq]
theorem Au {tk:Tok}{R:Result->Shared->Prop}(X:K.In h)(I:InstAt h x ox C od)(hs:subIn K (.ref C) (.type "BaseException")=some true)(hf:findObj K C od name=some (.value v))(hq:R (.ok<|.ret v) ⟨h,g,d,t,os⟩):
 codeAny (model prog w) A (.call (.builtin "BaseException.__getattribute__") ⟨[.ref x,.str name tk],[]⟩) R ⟨h,g,d,t,os⟩:=
 codeAny_call_builtin F.attrBase_ValueError.ga.plain F.entry_bexc_ga (yh X I hs<|yg X I hf hq)
theorem EW {tk:Tok}{fill WX:Bool}(X:K.In h)(I:InstAt h x ox C od)(hs:subIn K (.ref C) (.type "BaseException")=some true)
 (hga:findIn K (.ref C) "__getattribute__"=some (some<|.builtin "BaseException.__getattribute__")) (hgt:findIn K (.ref C) "__getattr__"=some none) (hf:findObj K C od name=some (.value v)) (hh:handedIn v=true) (hq:Q v ⟨h,g,d,t,os⟩):
 wpAny (model prog w) A (getAttrBy (.ref x) (.str name tk) fill WX) Q E ⟨h,g,d,t,os⟩:=by
 have f3:=F.attrBase_ValueError.ga.bind<|.ref x;have VZ:(WX&&onTheHeap (Value.builtin "BaseException.__getattribute__"))=false:=by cases WX<;>rfl
 have hx2:(Value.builtin "BaseException.__getattribute__"==Value.builtin "object.__getattribute__")=false:=by decide+kernel
 have hx1:(onTheHeap (Value.ref C)&&Value.builtin "BaseException.__getattribute__"==Value.builtin "object.__getattribute__")=false:=af hx2 rfl;have L0:=I.type (M:=model prog w);have L1:=looks_findIn (M:=model prog w) X hga;have L2:=looks_findIn (M:=model prog w) X hgt;have hho:=handedOut_of hh
 repeat (any_goals (first|assumption|with_reducible refine L0.at ?_|with_reducible refine L1.at ?_|with_reducible refine L2.at ?_|wp_step))
 rw[Au X I hs hf ?_]
 repeat (any_goals (first|assumption|erw[hho]|wp_step))
end
section
variable {e d:Addr}{x:V}
structure vK (K:Frag)(C:Addr)(name:Str):Prop where
 sub:subIn K (.ref C) (.type "BaseException")=some true
 get:findIn K (.ref C) "__getattribute__"=some (some<|.builtin "BaseException.__getattribute__")
 hook:findIn K (.ref C) "__getattr__"=some none
 dict:hasDictIn K C=true
 cls:∃Sf,findIn K (.ref C) name=some Sf/\noGet K Sf=true
theorem xe (ha:U e=some (.yG C d ats))(hl:ats.lookup name=some x)(hx:x.plain=true)(o:vK D.K C name)(h:k x U):vL D n (.ref e) name U k ke:=λc lo av hc=>Tr.aW λs r iv Q hQ=>by
 right;have ia:=iv.head;clear iv;cases isRef ia;obtain ⟨⟨oe,ws,e1,e1c,e1d,e1f⟩,es,m,e2,e3⟩:=r.obs e _ ha;obtain ⟨v,e4,e5⟩:=e3.getL x hl;obtain ⟨Sf,f1,f2⟩:=o.cls;have I:InstAt s.heap e oe C<|some<|dictOf es m:=⟨e1,e1c,by unfold notCls;rw[af e1f rfl],by rw[af e1d e2]⟩;have hv:=V.handed e5 hx;have main:∀tk:Nat,wpAny (model D.prog D.w) c.A (getAttrBy (.ref e) (.str name tk) true true) Q (λ_ _=>False) {s with toks:=s.toks+1}:=λtk=>EW (hc.u0 r) I o.sub o.get o.hook (findObj_own o.dict f1 f2 e4) hv<|hQ _ _ _ e5 h;symm;rw[wpAny_bind<|wpAny_mkText<|main _]
end
variable {Ul:ExceptHandler}{hs:List ExceptHandler}
section
theorem jS (h:lO D n sc body lo U kl gF):eU D n sc (.Try body (Ul::hs) [] [] pos) lo U kl US:=λc hc U3 s r=>
 wpAny_Try_except (wpAny_mono (h c hc U3 s r) (λf RT w=>by
  have w':lK D c U s kl f RT:=w;clear w;cases f<;>first
   |exact w'
   |exact wpAny_pure w') λv RT w=>w.no.elim)
end
variable {Wa:List Expr}{x1:Nat}{Tq VT:Pos}
noncomputable def iZ (x:Str)(i:Nat):List V:=(x.cps.toList.zipIdx.drop i).map λp=>.tup [.int p.2,.str ⟨#[p.1]⟩]
def Fo (e it:Addr)(x:Str)(h:Heap)(R6:List V):Prop:=∃i old t,IsEnum h e it (i:Nat) old/\h.IsStrIter it "str_ascii_iterator" x t i/\i<=x.cps.size/\R6=iZ x i
theorem tY {x:Str}{i:Nat}{v:V}(h:v::R6=iZ x i):∃c,x.cps[i]?=some c/\v=.tup [.int i,.str ⟨#[c]⟩]/\R6=iZ x (i+1)/\i<x.cps.size:=by
 unfold iZ at h;have UC:i<x.cps.size:=by
  apply Nat.lt_of_not_le;intro z;rw[List.drop_eq_nil_of_le<|by simpa using z] at h;rw[bU List.ctorIdx h rfl]
 have e:x.cps.toList.zipIdx.drop i=(x.cps[i],i)::x.cps.toList.zipIdx.drop (i+1):=by
  rw[af (List.drop_eq_getElem_cons<|by simpa using UC) ?_];simp
 rw[e,List.map_cons] at h;obtain ⟨rfl,rfl⟩:=List.cons.inj h;rw[⟨x.cps[i],by simp [UC],rfl,rfl,UC⟩]
theorem vt {x:Str}{i:Nat}(h:[]=iZ x i)(hi:i<=x.cps.size):i=x.cps.size:=by
 unfold iZ at h;have:=congrArg List.length h;simp at this;rw[Nat.le_antisymm hi<|Nat.sub_eq_zero_iff_le.mp this.symm]
section
variable {e:Addr}{v:V} 
theorem AF {x:Str}(ne:e≠it):xm D n .free (.Tuple Wa x1 VT) e (λb=>b=e\/b=it) (Fo e it x) where
 kind:=by
  clear ne;rintro h R6 b ⟨i,old,t,he,⟨o,e1,e2,e3⟩,_,_⟩ (rfl|rfl)
  ·rw[⟨⟨_,he⟩,λo e=>?_⟩];rw[he] at e;(obtain rfl:=sI e;clear e);rintro (⟨q,_⟩|⟨q,_⟩)<;>simp at q
  ·rw[⟨⟨_,e1⟩,λo' e=>?_⟩];rw[e1] at e;(obtain rfl:=sI e;clear e);rintro (⟨q,_⟩|⟨q,_⟩)<;>rw[e2] at q<;>simp at q
 same:=by
  rintro h h' R6 ⟨i,old,t,he,⟨o,e1,r⟩,q⟩ hs;rw[⟨i,old,t,hs _ _ (.inl rfl) he,⟨o,hs _ _ (.inr rfl) e1,r⟩,q⟩]
 next:=by
  rintro c lo U s v R6 Q Sq hc r _ ⟨i,old,t,he,TG,hi,hv⟩ hQ;right;obtain ⟨ch,h1,rfl,rfl,UC⟩:=tY hv;symm;rw[wpAny_pyNext_enum_itemD (Draws.strAscii (A:=c.A.in1) (hc.hd Sq) it x t) he TG UC ne (by simpa using ne) λy Sg tk hy ho WQ hT Ve hk=>hQ Sg (tk+1) _ λQ' hq=>?_];right;obtain ⟨c',u,h2,rfl⟩:=hy;rw[h1] at h2;(obtain rfl:=sI h2;clear h2);have hel:e<s.heap.objs.size:=Heap.lt_size he;symm;have hil:it<s.heap.objs.size:=by obtain ⟨o,eo,_⟩:=TG;rw[Heap.lt_size eo]
  rw[wpAny_letOwnedTupleGo_enum ho λSi Uq UA=>hq Si ⟨i+1,_,t,Uq,?_,UC,rfl⟩ ?_ λb o hb eb=>?_]
  ·right;obtain ⟨o,eo,q⟩:=WQ;symm;rw[⟨o,(UA.2 it<|Ne.symm ne).trans eo,q⟩]
  ·rw[.tup (vs:=[.int i tk,.str ⟨#[ch]⟩ u]) ((UA.2 _<|Nat.ne_of_gt hel).trans hT) rfl rfl (.cons (.int _ _)<|.cons (.str _ _) .nil)]
  ·rw[(UA.2 b λw=>hb<|.inl w).trans<|hk b o (λw=>hb<|.inl w) (λw=>hb<|.inr w) eb]
 done:=by
  rintro c lo U s Q Sq hc r _ ⟨i,old,t,he,TG,hi,hv⟩ hQ;obtain rfl:=vt hv hi;rw[wpAny_pyNext_enum_endD (Draws.strAscii (A:=c.A.in1) (hc.hd Sq) it x t) he TG λh' hs=>hQ h' λb o hb eb=>hs b o (λw=>hb<|.inr w) eb]
 again:=by
  rintro A s R6 Q E ⟨i,old,t,he,_⟩ h;rw[wpAny_pyIter_enum he h]
theorem yj {f e:Expr}{x:Str}{X:St->Prop}(hc:bK D n c)(hs:c.env.scope=sc)(r:R D.prog D.w c lo U s)(hx:x.cps.all (·<128)=true)
 (h:bY D n sc f lo U (λy RS=>y=.atom (.type "enumerate")/\bY D n sc e lo RS (λz RU=>z=.str x/\X RU) ke) ke)
 (hf:eval (.Call f [e] [] Tq) c.env=(do callWith Tq (<- eval f c.env) [] (backTo Tq<|starEach [e] c.env) []))
 (hl:(backTo Tq<|starEach [e] c.env).all (λx=> !x.1)=true)
 (YU:∀env,starEach [e] env=(false,eval e env)::starEach [] env)
 (hQ:∀RU RZ h' t,R D.prog D.w c lo RU RZ->Step c U s RU RZ->X RU->IsEnum h' (RZ.heap.objs.size+1) RZ.heap.objs.size (0:Nat) .none->h'.IsStrIter RZ.heap.objs.size "str_ascii_iterator" x t 0->(∀b o,RZ.heap.get? b=some o->h'.get? b=some o)->Q (.ref<|RZ.heap.objs.size+1) {RZ with heap:=h'})
 (hE:∀v s',EP D c lo U s ke v s'->E v s'):wpAny (model D.prog D.w) c.A (eval (.Call f [e] [] Tq) c.env) Q E s:=by
 rw[af hf ?_,wpAny_bind<|wpAny_mono (h c hc hs s r .nil) (λfv RT w9=>?_) hE];obtain ⟨y,RS,RX,SJ,iy,ey,q⟩:=w9;have fe:fv=.type "enumerate":=by clear hQ hE q h;subst ey;cases iy;rfl
 rw[af fe ?_];clear ey iy fe;have ha:gc D n sc [e] lo RS (λxs RU=>xs=[.str x]/\X RU) ke:=
  args_cons (q.mono (λz τ w=>args_nil ⟨congrArg (λz=>[z]) w.1,w.2⟩) λ_ _ _ z=>z) YU
 rw[kH (.inr<|.inl ⟨_,rfl⟩) hl<|wpAny_mono (ha c Tq hc hs RT RX .nil) (λvs RZ w9=>?_) λ_ _ w=>hE _ _<|w.step SJ];obtain ⟨xs,RU,R7,Sb,j,e1,S7⟩:=w9;have ve:∃t,vs=[.str x t]:=by clear hQ hE S7 q h;subst e1;cases j with|cons iz jn=>?_;cases jn;cases iz with|str _ t=>rw[⟨t,rfl⟩]
 clear j e1;obtain ⟨t,ve⟩:=ve;rw[af ve ?_,⟨R7.P8 hc,?_⟩,call_enumerate_str λh' he TG Ve kp=>hQ RU RZ h' t R7 (SJ.trans Sb) S7 he ?_ kp];rw[show strIterType x="str_ascii_iterator" by unfold strIterType;rw[af (if_pos hx) rfl]] at TG;rw[TG]
theorem rK {f e:Expr}{Vc:Pos}{x:Str}(ok:jP sc scope lo RY)(hx:x.cps.all (·<128)=true)(hz:x.cps.size<=100000)
 (h:bY D n sc f lo U (λy RS=>y=.atom (.type "enumerate")/\bY D n sc e lo RS (λz RU=>z=.str x/\
   yy D n (cE sc scope) (.Tuple Wa x1 VT) Tc S8 RY .free (iZ x 0) [] RU (λSy R1=>∀a,R1 a=none->k (.ref a) (R1.set a<|.list Sy))) ke) ke)
 (X0:∀env y,foldedSetIterable (.Call f [e] [] Tq) env y=pure y:=by intros;rfl)
 (hf:∀env,eval (.Call f [e] [] Tq) env=(do callWith Tq (<- eval f env) [] (backTo Tq<|starEach [e] env) []):=by intros;rfl)
 (hl:∀env,(backTo Tq<|starEach [e] env).all (λx=> !x.1)=true:=by intros;rfl)
 (YU:∀env,starEach [e] env=(false,eval e env)::starEach [] env:=by intros;rfl)
 (hn:0<n:=by rw[Nat.succ_pos _]):bY D n sc (.ListComp S8 [⟨.Tuple Wa x1 VT,.Call f [e] [] Tq,Tc,0⟩] scope Vc) lo U k ke:=λc hc hs s r _=>by
 show wpAny _ _ (comprehension (.ListComp S8 [⟨.Tuple Wa x1 VT,.Call f [e] [] Tq,Tc,0⟩] scope Vc) scope c.env Tq (newList []) false<|eval (.Call f [e] [] Tq) c.env) _ _ s;obtain ⟨cs,TL,q1,q2,q3⟩:=g7 (scope:=scope) (env:=c.env) λp hp hf=>hc.fh p.1 (by unfold Env.kindOf;rw[af hs<|ok.free p hp hf]);rw[ff (use:=none) rfl (X0 _) TL ok.kind (af hs ok.names) ?_,yj hc hs r hx h (hf _) (hl _) YU (λRU RZ h' t R7 Sb S7 he WQ kp=>?_) λ_ _ z=>z,wpAny_pyIter_enum he ?_];refine wpAny_mono (o5 (tk₂:=RZ.toks) (AF (D:=D) (n:=n) (x:=x)<|Nat.succ_ne_self RZ.heap.objs.size) hn hc hs R7 ok TL q1 q2 q3 trivial (by unfold iZ;simpa using hz) S7 kp (λb hb=>by
  rcases hb with rfl|rfl
  ·rw[cG<|Nat.le_succ _]
  ·rw[cG<|Nat.le_refl _]) ⟨0,_,t,he,WQ,Nat.zero_le _,rfl⟩) (λSa R8 Th=>wpAny_mono Th (λcenv Sz SS=>codeAny_mono SS λrr SR Uk=>?_) λ_ _ z=>z.elim) λ_ _ z=>z.elim
 cases rr with
 |error _=>rw[Uk]
 |ok _=>rw[Uk.done Sb]
end
variable {XJ:List<|Option Expr}
section
def FA (D:cN)(n:Nat)(sc:Scope):List Expr->Lo->St->(List V->St->Prop)->KE->Prop
 |[],_,U,k,_=>k [] U
 |e::es,lo,U,k,ke=>bY D n sc e lo U (λx RS=>FA D n sc es lo RS (λxs RU=>k (x::xs) RU) ke) ke
abbrev Bj:=Str×Nat×Pos
noncomputable def AH (p:Bj):Expr:=.Constant (.str p.1) p.2.1 p.2.2
def rQ (ks:List Bj)(es:List Expr)(pos:Pos)(env:Env):List<|Sem Value×Sem Value:=(ks.zip es).map λp=>(eval (AH p.1) env,do let x <- eval p.2 env;standAt pos;pure x)
theorem qH (pos:Pos)(env:Env):∀(ks:List Bj) (es:List Expr),ks.length=es.length->(evalEachOpt (ks.map λp=>some<|AH p) env).zip ((evalEach es env).map λv=>do let x <- v;standAt pos;pure x)=(rQ ks es pos env).map λp=>(some p.1,p.2)
 |[],[],_=>rfl
 |[],_::_,h=>by rw[bU Nat.ctorIdx h rfl]
 |_::_,[],h=>by rw[bU Nat.ctorIdx h rfl]
 |p::ks,e::es,h=>by
  rw[List.length_cons,List.length_cons] at h;have ih:=qH pos env ks es<|Jx h;show (some<|eval (AH p) env,_)::(evalEachOpt (ks.map λp=>some<|AH p) env).zip ((evalEach es env).map λv=>do let x <- v;standAt pos;pure x)=_;rw[af ih rfl]
inductive N1 (D:cN)(c:Cx)(lo:Lo)(U:St)(s:Shared)(ns:List Str)(kk:List V->St->Prop)(vs:List<|Value×Value)(s':Shared):Prop
 |mk (Ss:List (Str×Value)) (xs:List V) (σ':St) (q1:Carries (strKind D.prog D.w) vs Ss) (q2:Ss.map (·.1)=ns) (q3:aM s'.heap (Ss.map (·.2)) xs) (r:R D.prog D.w c lo σ' s') (st:Step c U s σ' s') (q4:kk xs σ')
theorem qG {pos:Pos}(hc:bK D n c)(hs:c.env.scope=sc):∀(ks:List Bj) (es:List Expr) (U:St) (s:Shared) (kk:List V->St->Prop),ks.length=es.length->R D.prog D.w c lo U s->FA D n sc es lo U kk ke->
 wpAny (model D.prog D.w) c.A (evalPairs<|rQ ks es pos c.env) (N1 D c lo U s (ks.map (·.1)) kk) (EP D c lo U s ke) s
 |[],[],U,s,kk,_,r,h=>evalPairs_nil ⟨[],[],U,trivial,rfl,.nil,r,.refl,h⟩
 |[],_::_,_,_,_,h,_,_=>by rw[bU Nat.ctorIdx h rfl]
 |_::_,[],_,_,_,h,_,_=>by rw[bU Nat.ctorIdx h rfl]
 |p::ks,e::es,U,s,kk,hl,r,h=>by
  rw[List.length_cons,List.length_cons] at hl;rw[evalPairs_cons<|wpAny_mono (vo (D:=D) (n:=n) (sc:=sc) (ke:=ke) (k:=λx τ=>x=.str p.1/\τ=U) ⟨rfl,rfl⟩ c hc hs s r .nil) (λkv RT w9=>?_) λ_ _ z=>z];obtain ⟨x,RS,RX,st,i,q1,q2⟩:=w9;subst q1;clear r;subst q2;obtain ⟨t,rfl⟩:=isStr i;rw[wpAny_mono (wpAny_bind<|wpAny_mono (h c hc hs RT RX .nil) (λv RZ q=>wpAny_bind<|wpAny_standAt<|wpAny_pure q) λ_ _ z=>z) (λv RZ w9=>?_) λ_ _ z=>z.step st];obtain ⟨x,RU,R7,Sb,j,q⟩:=w9;rw[wpAny_mono (qG hc hs ks es RU RZ _ (Jx hl) R7 q) (λvs R8 ⟨Ss,xs,R1,q1,q2,q3,So,SA,q4⟩=>⟨(p.1,v)::Ss,x::xs,R1,⟨strKind_is _ _ _ _,rfl,q1⟩,by rw[af List.map_cons<|af List.map_cons<|af q2 rfl],.cons (j.aE<|R7.aE SA.keep) q3,So,(st.trans Sb).trans SA,q4⟩) λ_ _ z=>(z.step Sb).step st]
theorem qo {x:Str}:∀(Ss Sa:List<|Str×Value),(Ss.map (·.1)).Nodup->valueAt (merged Sa Ss) x=match Ss.lookup x with|some v=>some v|none=>valueAt Sa x
 |[],Sa,_=>rfl
 |(y,v)::r,Sa,nd=>by
  rw[List.map_cons,List.nodup_cons] at nd;rw[af (show merged Sa ((y,v)::r)=merged (stored Sa y v) r from rfl)<|af (qo r _ nd.2)<|af List.lookup_cons ?_]
  cases q:x==y with
  |true=>
   have hx:=eq_of_beq q;clear q;subst hx;have:r.lookup x=none:=by
    rw[af (propext List.lookup_eq_none_iff) ?_];intro p hp;rw[af (propext bne_iff_ne) (λw=>nd.1 (w▸List.mem_map_of_mem (f:=(·.1)) hp))]
   rw[af this ?_,af (gm ..)<|af (if_pos rfl) rfl]
  |false=>
   have hx:x≠y:=λw=>by clear nd;subst w;rw[beq_self_eq_true] at q;rw[ir q]
   rw[af (gm ..)<|af (if_neg hx) rfl]
theorem nI {h:Heap}{x:Str}{y:V}:∀(Ss:List<|Str×Value) (xs:List V),aM h (Ss.map (·.2)) xs->((Ss.map (·.1)).zip xs).lookup x=some y->∃v,Ss.lookup x=some v/\cz h v y
 |[],xs,i,e=>by rw[List.map_nil,List.zip_nil_left] at e;rw[aq e]
 |(z,v)::r,xs,i,e=>by
  cases i with
  |cons j i=>
   rw[List.map_cons,List.zip_cons_cons,List.lookup_cons] at e;rw[af List.lookup_cons ?_]
   cases q:x==z with
   |true=>rw[q] at e;(replace e:=(sI e).symm;subst e);rw[⟨v,rfl,j⟩]
   |false=>rw[q] at e;rw[nI r _ i e]
theorem AB (ks:List Bj)(hk:XJ=ks.map λp=>some<|AH p)(hl:(Nat.beq ks.length es.length&&Nat.ble 1 ks.length&&Nat.ble ks.length 15)=true)(nd:(ks.map (·.1)).Nodup)
 (h:FA D n sc es lo U (λxs RS=>∀a,RS a=none->k (.ref a) (RS.set a (.j9 ((ks.map (·.1)).zip xs)))) ke):bY D n sc (.Dict XJ es pos) lo U k ke:=λc hc hs s r _=>by
 simp only [Bool.and_eq_true] at hl;obtain ⟨⟨TP,SW⟩,Tj⟩:=hl;have TP:=Nat.eq_of_beq_eq_true TP;have SW:=Nat.le_of_ble_eq_true SW;have Tj:=Nat.le_of_ble_eq_true Tj;have Sd:(rQ ks es pos c.env).length=ks.length:=by unfold rQ;rw[af (cD ..)<|af List.length_zip<|af (Eq.symm<|TP)<|af (Nat.min_self ..) rfl]
 subst hk;rw[wpAny_Dict_pairs (knd:=strKind D.prog D.w) (qH pos c.env ks es TP) (λz=>by rw[z] at Sd;rw[<- Sd] at SW;cases SW) (af Sd Tj) ?_];have kp:∀b o,s.heap.get? b=some o->(s.heap.push {cls:=.type "dict",data:=.dict #[]}).get? b=some o:=λb o e=>Heap.get?_push_of_some _ e;have hd:(s.heap.push {cls:=.type "dict",data:=.dict #[]}).get? s.heap.objs.size=some {cls:=.type "dict",data:=.dict #[]}:=Heap.get?_push_size _ rfl;have off:=r.off<|bW s.heap;have SD:R D.prog D.w c lo U {s with heap:=s.heap.push {cls:=.type "dict",data:=.dict #[]}}:=r.more (tk:=s.toks) kp;have Uy:Step c U s U {s with heap:=s.heap.push {cls:=.type "dict",data:=.dict #[]}}:=.more (tk:=s.toks) kp;rw[wpAny_mono (qG hc hs ks es U _ _ TP SD h) (λvs RT w9=>?_) λ_ _ z=>z.step Uy];obtain ⟨Ss,xs,RS,q1,q2,q3,RX,SJ,q4⟩:=w9;have Vb:=off.at SJ hd;have off₁:=off.step SJ hd;rw[⟨Ss,q1,?_,λh' hm hsb=>?_⟩]
 ·obtain ⟨o,U5,ep,e,x⟩:=Heap.DictOf.new (knd:=strKind D.prog D.w) s.heap;rw[hd] at e;(obtain rfl:=sI e;clear e);rw[⟨_,U5,ep,Vb,x⟩]
 have same:∀b o,b≠s.heap.objs.size->RT.heap.get? b=some o->h'.get? b=some o:=λb o hb e=>(hsb.2 b hb).trans e;have ns:∀o,RT.heap.get? s.heap.objs.size=some o->¬dW o:=λo e=>by
  rw[Vb] at e;(obtain rfl:=sI e;clear e);rintro (⟨z,_⟩|⟨z,_⟩)<;>simp at z
 obtain ⟨R7,kv⟩:=RX.turn (tk:=RT.toks+vs.length) off₁ ns same;have Sb:=(Uy.trans SJ).turn (tk:=RT.toks+vs.length) off₁.fr (bW s.heap) same;have ndk:(Ss.map (·.1)).Nodup:=af q2 nd;have ob:vI D.prog D.w h' s.heap.objs.size (.j9 ((ks.map (·.1)).zip xs)):=by
  rw[⟨v7 hc r,_,hm.mapOf,λo e=>?_,λx v e=>?_⟩]
  ·obtain ⟨o',U5,Xv,eo,hex,_⟩:=hm;rw[e] at eo
   (obtain rfl:=sI eo;clear eo)
   rw[hex.1]
  ·rw[<- q2] at e;obtain ⟨v',e1,e2⟩:=nI Ss xs q3 e;rw[⟨v',?_,e2.aE kv⟩,af (qo _ _ ndk)<|af e1 rfl]
 obtain ⟨ha,So⟩:=R7.Ba off₁.own off₁.fr off₁.g rfl ob;rw[⟨.ref _,_,So,⟨Sb.keep,λb q=>?_,Sb.dom⟩,.ref _,q4 _ ha⟩]
 by_cases z:b=s.heap.objs.size
 ·clear q;subst z;rw[.inr<|bW _]
 ·rw[Sb.grow b ?_];rcases q with ⟨p,ep,hp⟩|⟨x,p,ep,hp⟩|q
  ·rw[St.ai z] at ep;rw[.inl ⟨p,ep,hp⟩]
  ·by_cases w:x=s.heap.objs.size
   ·subst w;rw[St.ah] at ep;(obtain rfl:=sI ep;clear ep);rw[aq hp]
   ·rw[St.ai w] at ep;rw[.inr<|.inl ⟨x,p,ep,hp⟩]
  ·rw[.inr<|.inr q]
end
end
noncomputable abbrev pw:Program:=PySem.Challenge.pw_tk0076_01
noncomputable def Ov:List Stmt->Nat->Stmt
 |[],_=>.Pass ⟨0,0,0,0⟩
 |s::_,0=>s
 |_::r,n+1=>Ov r n
noncomputable def PA:Stmt->List Stmt
 |.ClassDef _ _ _ b _ _ _ _ _ _ _=>b
 |_=>[]
noncomputable def Al:Stmt->List Stmt
 |.FunctionDef _ _ b _ _ _ _ _ _ _=>b
 |_=>[]
noncomputable def mW:Stmt->Scope
 |.FunctionDef _ _ _ _ _ _ s _ _ _=>s
 |_=>default
noncomputable def QN:Stmt->Str
 |.FunctionDef n _ _ _ _ _ _ _ _ _=>n
 |_=>""
noncomputable def Py:Stmt->Arguments
 |.FunctionDef _ a _ _ _ _ _ _ _ _=>a
 |_=>default
noncomputable def f9 (i:Nat):Stmt:=Ov pw.main.body i
noncomputable def au (i j:Nat):Stmt:=Ov (PA<|f9 i) j
noncomputable abbrev vS (x:String)(t:Nat):Value:=.str (Str.ofString x) t
noncomputable abbrev vP:Value:=vS "pipeboard.paging" 337
noncomputable abbrev vM:Value:=vS "pipeboard.memory" 876
noncomputable def tE:Obj:={cls:=.type "tuple",data:=.seq #[]}
noncomputable def tV (vs:List Value):Obj:={cls:=.type "tuple",data:=.seq vs.toArray}
noncomputable def FH:Nat->List String->List Value
 |_,[]=>[]
 |t,x::r=>vS x t::FH (t+1) r
noncomputable def tN (t:Nat)(xs:List String):Obj:=tV<|FH t xs
noncomputable def fV (c:Value)(vs:List Value):Obj:={cls:=c,data:=.fields vs.toArray}
noncomputable def fE:Obj:={cls:=.none,data:=.fields #[]}
def bP:Obj:=fV (.type "builtin_function_or_method") [(.builtin "type.__prepare__"),(.type "type")]
def bO (a:Addr):Obj:=fV (.type "builtin_function_or_method") [(.builtin "object.__init_subclass__"),(.ref a)]
noncomputable def yd (c l:Nat)(m:Value):Obj:={cls:=.type "frame",slots:=#[some<|.ref c,some<|.ref 3,some<|.ref l,none,some m,none,some<|.ref 0]}
noncomputable def oC (t:Nat)(n q:String)(ln na fl:Int)(a:Nat)(b:Bool)(f2:Int)(c:Nat)(x y z:Value)(k:Int)(t':Nat):Obj:={cls:=.type "code",data:=.fields #[vS n t,vS q<|t+1,vS "/claim/cut.py"<|t+2,.int ln 0,.int na 0,.int 0 0,.int 0 0,.int fl 0,.ref a,.bool b,.int f2 0,.ref c,.none,x,y,z,.int k 0,.int ln 0,vS "/claim/cut.py" t']}
noncomputable def fT (st:Stmt)(q:String):Obj:={cls:=.none,data:=.func {name:=QN st,qualname:=q,params:=Py st,body:=.stmts<|Al st,scope:=mW st,globals:=0,closure:=[],defaults:=.none,kwdefaults:=.none}}
noncomputable abbrev fD (st:Stmt)(q:String)(UH mod:Value)(code:Nat):FuncData:={name:=QN st,qualname:=q,params:=Py st,body:=.stmts<|Al st,scope:=mW st,globals:=3,closure:=[],defaults:=UH,kwdefaults:=.none,pyModule:=mod,code:=.ref code}
noncomputable def fO (st:Stmt)(q:String)(UH mod:Value)(code:Nat):Obj:={cls:=.type "function",data:=.func<|fD st q UH mod code}
noncomputable def oK (n:String)(bs mro:List Value)(ns:Nat)(sub:List Value)(sl:Array<|Option Value):Obj:={cls:=.type "type",data:=.cls {name:=n,bases:=bs,mro:=mro,ns:=ns,qualname:=n,subclasses:=sub},slots:=sl}
noncomputable abbrev dE (P:Params)(x:String)(t:Nat)(v:Value):DictEntry:=⟨PyData.keyHash P<|Str.ofString x,vS x t,v⟩
noncomputable def dO (c:Value)(e:Nat)(es:List DictEntry):Obj:={cls:=c,data:=.dict es.toArray e}
noncomputable def Ju (P:Params):List DictEntry:=[dE P "__doc__" 166 .none,dE P "__package__" 167 .none,dE P "__loader__" 168<|.builtin "__main__.__loader__#opaque",dE P "__spec__" 169 .none,dE P "__annotations__" 170<|.ref 6,dE P "__builtins__" 171<|.ref 4,dE P "__file__" 173<|vS "/claim/cut.py" 172,dE P "__cached__" 174 .none,dE P "_wall" 193<|.ref 21,dE P "BoardError" 223<|.ref 39,dE P "BadArgument" 239<|.ref 52,dE P "BadAddress" 264<|.ref 71,dE P "NoRoom" 280<|.ref 83,dE P "Trap" 336<|.ref 103,dE P "ENTRY" 340<|.int 4 339,dE P "VALID" 342<|.int 1 341,dE P "READ" 344<|.int 2 343,dE P "WRITE" 346<|.int 4 345,dE P "EXECUTE" 348<|.int 8 347,dE P "USER" 350<|.int 16 349,dE P "ACCESSED" 352<|.int 64 351,dE P "DIRTY" 354<|.int 128 353,dE P "LEAF" 356<|.int 10 355,dE P "FLAG_BITS" 358<|.int 10 357,dE P "FLAGS" 363<|.int 1023 362,dE P "FLAG_NAMES" 365<|vS "vrwxugad" 364,dE P "DIGITS" 367<|vS "0123456789abcdef" 366,dE P "FETCH" 369<|vS "fetch" 368,dE P "LOAD" 371<|vS "load" 370,dE P "STORE" 373<|vS "store" 372,dE P "PAGE_FAULTS" 380<|.ref 106,dE P "ACCESS_FAULTS" 387<|.ref 107,dE P "USER_MODE" 389<|.int 0 388,dE P "Layout" 494<|.ref 182,dE P "eight_digits" 500<|.ref 191,dE P "is_leaf" 507<|.ref 198,dE P "is_sound" 514<|.ref 205,dE P "may" 525<|.ref 212,dE P "Walker" 627<|.ref 266,dE P "Tables" 875<|.ref 425,dE P "WORD" 879<|.int 4 878,dE P "MASK" 885<|.int 4294967295 884,dE P "SPACE" 889<|.int 4294967296 888,dE P "SIZES" 893<|.ref 430,dE P "need_size" 900<|.ref 437,dE P "need_stretch" 908<|.ref 444,dE P "Memory" 1149<|.ref 614,dE P "Rom" 1206<|.ref 656,dE P "Bus" 1302<|.ref 721,dE P "TAKEN" 1306<|.int 5 1305,dE P "FREED" 1308<|.int 1 1307,dE P "Pages" 1460<|.ref 841,dE P "_law_box" 1468<|.ref 850,dE P "_law_take" 1479<|.ref 857,dE P "_law_board" 1489<|.ref 864,dE P "_law_frame" 1500<|.ref 871,dE P "_law_flags" 1508<|.ref 878,dE P "_law_lone" 1514<|.ref 883,dE P "_law_deed" 1534<|.ref 890,dE P "_law_read" 1540<|.ref 895,dE P "_law_rebuilt" 1556<|.ref 902,dE P "_law_entries" 1569<|.ref 909,dE P "_law_access" 1580<|.ref 916,dE P "_law_look" 1590<|.ref 923,dE P "_law_goal" 1600<|.ref 930,dE P "_law_same" 1606<|.ref 935,dE P "law" 1612<|.ref 940]
noncomputable def zP (P:Params)(m:Value)(n e:Nat):Obj:=dO (.type "dict") e<|dE P "__name__" 165 m::(Ju P).take n
noncomputable def Dg:List Value:=[(.int 1 0),(.int 0 0),(.ref 20),(.int 5 0),(.int 0 0),(.ref 27),(.int 10 0),(.int 0 0),(.ref 48),(.int 12 0),(.int 0 0),(.ref 60),(.int 17 0),(.int 0 0),(.ref 79),(.int 19 0),(.int 0 0),(.ref 91),(.int 59 0),(.int 0 0),(.ref 113),(.int 97 0),(.int 0 0),(.ref 190),(.int 99 0),(.int 0 0),(.ref 197),(.int 101 0),(.int 0 0),(.ref 204),(.int 103 0),(.int 0 0),(.ref 211),(.int 113 0),(.int 0 0),(.ref 218),(.int 160 0),(.int 0 0),(.ref 276),(.int 334 0),(.int 0 0),(.ref 436),(.int 337 0),(.int 0 0),(.ref 443),(.int 340 0),(.int 0 0),(.ref 450),(.int 470 0),(.int 0 0),(.ref 624),(.int 486 0),(.int 0 0),(.ref 666),(.int 548 0),(.int 0 0),(.ref 731),(.int 625 0),(.int 0 0),(.ref 849),(.int 628 0),(.int 0 0),(.ref 856),(.int 639 0),(.int 0 0),(.ref 863),(.int 643 0),(.int 0 0),(.ref 870),(.int 647 0),(.int 0 0),(.ref 877),(.int 650 0),(.int 0 0),(.ref 882),(.int 652 0),(.int 0 0),(.ref 889),(.int 679 0),(.int 0 0),(.ref 894),(.int 693 0),(.int 0 0),(.ref 901),(.int 705 0),(.int 0 0),(.ref 908),(.int 711 0),(.int 0 0),(.ref 915),(.int 716 0),(.int 0 0),(.ref 922),(.int 722 0),(.int 0 0),(.ref 929),(.int 727 0),(.int 0 0),(.ref 934),(.int 744 0),(.int 0 0),(.ref 939)]
def QC:Obj:=tN 208 [""]
def QB:Obj:=oC 209 "__init__" "BoardError.__init__" 7 2 3 30 true 181 31 (.ref 32) (.ref 33) (.ref 34) 214 215
def QA:Obj:=fO (au 2 0) "BoardError.__init__" (.ref 29) (vS "pipeboard.errors" 194) 35
def Qz (P:Params):Obj:=dO (.type "dict") 3 [dE P "__module__" 203<|vS "pipeboard.errors" 194,dE P "__firstlineno__" 207<|.int 5 206,dE P "__init__" 216<|.ref 36,dE P "__static_attributes__" 218<|.ref 37,dE P "__weakref__" 220<|.ref 40,dE P "__doc__" 221 .none]
def Qy:Obj:=oK "BoardError" [(.type "ValueError")] [(.ref 39),(.type "ValueError"),(.type "Exception"),(.type "BaseException"),(.type "object")] 38 [(.ref 52),(.ref 71),(.ref 83),(.ref 103)] #[some<|.ref 22,none,some<|vS "BoardError" 196,some<|vS "BoardError" 204,some<|.builtin "ValueError.__new__",some<|.bool true]
def Qx (P:Params):Obj:=dO (.type "dict") 2 [dE P "__module__" 231<|vS "pipeboard.errors" 194,dE P "__firstlineno__" 235<|.int 10 234,dE P "__static_attributes__" 236<|.ref 50,dE P "__doc__" 237 .none]
def Qw:Obj:=oK "BadArgument" [(.ref 39)] [(.ref 52),(.ref 39),(.type "ValueError"),(.type "Exception"),(.type "BaseException"),(.type "object")] 51 [] #[some<|.ref 43,none,some<|vS "BadArgument" 224,some<|vS "BadArgument" 232,some<|.builtin "ValueError.__new__",some<|.bool true]
def Qv (P:Params):Obj:=dO (.type "dict") 2 [dE P "__module__" 247<|vS "pipeboard.errors" 194,dE P "__firstlineno__" 251<|.int 12 250,dE P "__init__" 259<|.ref 68,dE P "__static_attributes__" 261<|.ref 69,dE P "__doc__" 262 .none]
def Qu:Obj:=oK "BadAddress" [(.ref 39)] [(.ref 71),(.ref 39),(.type "ValueError"),(.type "Exception"),(.type "BaseException"),(.type "object")] 70 [] #[some<|.ref 55,none,some<|vS "BadAddress" 240,some<|vS "BadAddress" 248,some<|.builtin "ValueError.__new__",some<|.bool true]
def Qt (P:Params):Obj:=dO (.type "dict") 2 [dE P "__module__" 272<|vS "pipeboard.errors" 194,dE P "__firstlineno__" 276<|.int 17 275,dE P "__static_attributes__" 277<|.ref 81,dE P "__doc__" 278 .none]
def Qs:Obj:=oK "NoRoom" [(.ref 39)] [(.ref 83),(.ref 39),(.type "ValueError"),(.type "Exception"),(.type "BaseException"),(.type "object")] 82 [] #[some<|.ref 74,none,some<|vS "NoRoom" 265,some<|vS "NoRoom" 273,some<|.builtin "ValueError.__new__",some<|.bool true]
def Qq:Obj:=tV [(.int 0 321)]
def Qp:Obj:=oC 322 "__init__" "Trap.__init__" 35 3 3 94 true 181 95 (.ref 96) (.ref 97) (.ref 98) 328 329
def Jl:Obj:=fO (au 6 14) "Trap.__init__" (.ref 93) (vS "pipeboard.errors" 194) 99
def Jk (P:Params):Obj:=dO (.type "dict") 2 [dE P "__module__" 288<|vS "pipeboard.errors" 194,dE P "__firstlineno__" 292<|.int 19 291,dE P "FETCH_MISALIGNED" 294<|.int 0 293,dE P "FETCH_ACCESS" 296<|.int 1 295,dE P "ILLEGAL" 298<|.int 2 297,dE P "BREAKPOINT" 300<|.int 3 299,dE P "LOAD_MISALIGNED" 302<|.int 4 301,dE P "LOAD_ACCESS" 304<|.int 5 303,dE P "STORE_MISALIGNED" 306<|.int 6 305,dE P "STORE_ACCESS" 308<|.int 7 307,dE P "CALL_FROM_USER" 310<|.int 8 309,dE P "CALL_FROM_SUPERVISOR" 312<|.int 9 311,dE P "CALL_FROM_MACHINE" 314<|.int 11 313,dE P "FETCH_PAGE" 316<|.int 12 315,dE P "LOAD_PAGE" 318<|.int 13 317,dE P "STORE_PAGE" 320<|.int 15 319,dE P "__init__" 330<|.ref 100,dE P "__static_attributes__" 333<|.ref 101,dE P "__doc__" 334 .none]
def Jj:Obj:=oK "Trap" [(.ref 39)] [(.ref 103),(.ref 39),(.type "ValueError"),(.type "Exception"),(.type "BaseException"),(.type "object")] 102 [] #[some<|.ref 86,none,some<|vS "Trap" 281,some<|vS "Trap" 289,some<|.builtin "ValueError.__new__",some<|.bool true]
def Ji (P:Params):Obj:=dO (.type "dict") 3 [dE P "fetch" 368<|.int 12 315,dE P "load" 370<|.int 13 317,dE P "store" 372<|.int 15 319]
def Jh (P:Params):Obj:=dO (.type "dict") 3 [dE P "fetch" 368<|.int 1 295,dE P "load" 370<|.int 5 303,dE P "store" 372<|.int 7 307]
def Jg:Obj:=tV [(.int 12 402)]
def Jf:Obj:=oC 403 "__init__" "Layout.__init__" 61 2 3 116 true 181 117 (.ref 118) (.ref 119) (.ref 120) 408 409
def Je:Obj:=fO (au 27 0) "Layout.__init__" (.ref 115) vP 121
def Jd:Obj:=oC 411 "parts" "Layout.parts" 71 2 3 123 true 181 124 (.ref 125) (.ref 126) (.ref 127) 417 418
def Jc:Obj:=fO (au 27 1) "Layout.parts" .none vP 128
def Jb:Obj:=tV [(.int 0 420)]
def Ja:Obj:=oC 421 "address" "Layout.address" 77 4 3 131 true 181 132 (.ref 133) (.ref 134) (.ref 135) 428 429
def I9:Obj:=fO (au 27 2) "Layout.address" (.ref 130) vP 136
def I8:Obj:=oC 431 "down" "Layout.down" 80 2 3 138 true 181 139 (.ref 140) (.ref 141) (.ref 142) 436 437
def I7:Obj:=fO (au 27 3) "Layout.down" .none vP 143
def I6:Obj:=oC 447 "is_begin" "Layout.is_begin" 86 2 3 152 true 181 153 (.ref 154) (.ref 155) (.ref 156) 452 453
def I5:Obj:=fO (au 27 5) "Layout.is_begin" .none vP 157
def I4:Obj:=oC 464 "entry" "Layout.entry" 92 3 3 166 true 181 167 (.ref 168) (.ref 169) (.ref 170) 470 471
def I3:Obj:=fO (au 27 7) "Layout.entry" .none vP 171
def I2:Obj:=oC 473 "physical" "Layout.physical" 95 2 3 173 true 181 174 (.ref 175) (.ref 176) (.ref 177) 478 479
def I1:Obj:=fO (au 27 8) "Layout.physical" .none vP 178
def I0 (P:Params):Obj:=dO (.type "dict") 4 [dE P "__module__" 397 vP,dE P "__firstlineno__" 401<|.int 59 400,dE P "__init__" 410<|.ref 122,dE P "parts" 419<|.ref 129,dE P "address" 430<|.ref 137,dE P "down" 438<|.ref 144,dE P "up" 446<|.ref 151,dE P "is_begin" 454<|.ref 158,dE P "pages_in" 463<|.ref 165,dE P "entry" 472<|.ref 172,dE P "physical" 480<|.ref 179,dE P "__static_attributes__" 487<|.ref 180,dE P "__dict__" 489<|.ref 183,dE P "__weakref__" 491<|.ref 184,dE P "__doc__" 492 .none]
def IZ:Obj:=oK "Layout" [(.type "object")] [(.ref 182),(.type "object")] 181 [] #[none,none,some<|vS "Layout" 390,some<|vS "Layout" 398,some<|.builtin "object.__new__",some<|.bool true]
def IY:Obj:=oC 495 "eight_digits" "eight_digits" 97 1 3 187 true 181 188 .none .none (.ref 189) 498 499
def IX:Obj:=fO (f9 28) "eight_digits" .none vP 190
def IW:Obj:=oC 501 "is_leaf" "is_leaf" 99 1 3 192 true 181 193 (.ref 194) (.ref 195) (.ref 196) 505 506
def IV:Obj:=fO (f9 29) "is_leaf" .none vP 197
def IU:Obj:=oC 508 "is_sound" "is_sound" 101 1 3 199 true 181 200 (.ref 201) (.ref 202) (.ref 203) 512 513
def IT:Obj:=fO (f9 30) "is_sound" .none vP 204
def IS:Obj:=oC 515 "may" "may" 103 5 3 206 true 181 207 (.ref 208) (.ref 209) (.ref 210) 523 524
def IQ:Obj:=fO (f9 31) "may" .none vP 211
def IP:Obj:=oC 538 "__init__" "Walker.__init__" 115 3 3 220 true 181 221 (.ref 222) (.ref 223) (.ref 224) 544 545
def IM:Obj:=fO (au 32 0) "Walker.__init__" .none vP 225
def IL:Obj:=tV [(.int 0 547),(.int 0 548)]
def IK:Obj:=oC 549 "translate" "Walker.translate" 119 7 3 228 true 181 229 (.ref 230) (.ref 231) (.ref 232) 562 563
def IJ:Obj:=fO (au 32 1) "Walker.translate" (.ref 227) vP 233
def II:Obj:=oC 565 "entry_at" "Walker.entry_at" 134 4 3 235 true 181 236 (.ref 237) (.ref 238) (.ref 239) 573 574
def IG:Obj:=fO (au 32 2) "Walker.entry_at" .none vP 240
def IF:Obj:=oC 576 "large_page" "Walker.large_page" 143 8 3 242 true 181 243 (.ref 244) (.ref 245) (.ref 246) 588 589
def ID:Obj:=fO (au 32 3) "Walker.large_page" .none vP 247
def IB:Obj:=oC 591 "mark" "Walker.mark" 150 5 3 249 true 181 250 (.ref 251) (.ref 252) (.ref 253) 600 601
def IA:Obj:=fO (au 32 4) "Walker.mark" .none vP 254
def Iz (P:Params):Obj:=dO (.type "dict") 4 [dE P "__module__" 533 vP,dE P "__firstlineno__" 537<|.int 113 536,dE P "__init__" 546<|.ref 226,dE P "translate" 564<|.ref 234,dE P "entry_at" 575<|.ref 241,dE P "large_page" 590<|.ref 248,dE P "mark" 602<|.ref 255,dE P "probe" 617<|.ref 263,dE P "__static_attributes__" 620<|.ref 264,dE P "__dict__" 622<|.ref 267,dE P "__weakref__" 624<|.ref 268,dE P "__doc__" 625 .none]
def Iw:Obj:=oK "Walker" [(.type "object")] [(.ref 266),(.type "object")] 265 [] #[none,none,some<|vS "Walker" 526,some<|vS "Walker" 534,some<|.builtin "object.__new__",some<|.bool true]
def Iv:Obj:=oC 640 "__init__" "Tables.__init__" 162 4 3 278 true 181 279 (.ref 280) (.ref 281) (.ref 282) 647 648
def Iu:Obj:=fO (au 33 0) "Tables.__init__" .none vP 283
def Ir:Obj:=oC 650 "new_table" "Tables.new_table" 167 1 3 285 true 181 286 (.ref 287) (.ref 288) (.ref 289) 655 656
def Iq:Obj:=fO (au 33 1) "Tables.new_table" .none vP 290
def Ip:Obj:=oC 658 "need_parts" "Tables.need_parts" 172 2 3 292 true 181 293 (.ref 294) (.ref 295) (.ref 296) 664 665
def Io:Obj:=fO (au 33 2) "Tables.need_parts" .none vP 297
def Im:Obj:=tV [(.bool false)]
def Il:Obj:=oC 667 "walk" "Tables.walk" 178 4 3 300 true 181 301 (.ref 302) (.ref 303) (.ref 304) 679 680
def Ik:Obj:=fO (au 33 3) "Tables.walk" (.ref 299) vP 305
def Ij:Obj:=oC 682 "entry" "Tables.entry" 191 3 3 307 true 181 308 (.ref 309) (.ref 310) (.ref 311) 692 693
def Ii:Obj:=fO (au 33 4) "Tables.entry" .none vP 312
def Ih:Obj:=oC 695 "physical" "Tables.physical" 199 3 3 314 true 181 315 (.ref 316) (.ref 317) (.ref 318) 705 706
def Ig:Obj:=fO (au 33 5) "Tables.physical" .none vP 319
def Ie:Obj:=oC 708 "need_flags" "Tables.need_flags" 208 2 3 321 true 181 322 (.ref 323) (.ref 324) (.ref 325) 713 714
def Ic:Obj:=fO (au 33 6) "Tables.need_flags" .none vP 326
def Ib:Obj:=oC 716 "need_page" "Tables.need_page" 212 3 3 328 true 181 329 (.ref 330) (.ref 331) (.ref 332) 722 723
def Ia:Obj:=fO (au 33 7) "Tables.need_page" .none vP 333
def H9:Obj:=oC 725 "map" "Tables.map" 216 5 3 335 true 181 336 (.ref 337) (.ref 338) (.ref 339) 733 734
def H8:Obj:=fO (au 33 8) "Tables.map" .none vP 340
def H7:Obj:=oC 736 "map_large" "Tables.map_large" 225 5 3 342 true 181 343 (.ref 344) (.ref 345) (.ref 346) 745 746
def H6:Obj:=fO (au 33 9) "Tables.map_large" .none vP 347
def HZ:Obj:=oC 748 "need_place" "Tables.need_place" 235 3 3 349 true 181 350 (.ref 351) (.ref 352) (.ref 353) 755 756
def HY:Obj:=fO (au 33 10) "Tables.need_place" .none vP 354
def HX:Obj:=oC 758 "unmap" "Tables.unmap" 241 3 3 356 true 181 357 (.ref 358) (.ref 359) (.ref 360) 766 767
def HW:Obj:=fO (au 33 11) "Tables.unmap" .none vP 361
def HV:Obj:=tV [(.int 0 769)]
def HU:Obj:=oC 770 "change" "Tables.change" 247 5 3 364 true 181 365 (.ref 366) (.ref 367) (.ref 368) 780 781
def HT:Obj:=fO (au 33 12) "Tables.change" (.ref 363) vP 369
def HS:Obj:=oC 783 "move" "Tables.move" 256 5 3 371 true 181 372 (.ref 373) (.ref 374) (.ref 375) 793 794
def HR:Obj:=fO (au 33 13) "Tables.move" .none vP 376
def HQ:Obj:=oC 796 "tables_of" "Tables.tables_of" 264 2 3 378 true 181 379 (.ref 380) (.ref 381) (.ref 382) 804 805
def HP:Obj:=fO (au 33 14) "Tables.tables_of" .none vP 383
def HO:Obj:=oC 807 "rows" "Tables.rows" 272 2 3 385 true 181 386 (.ref 387) (.ref 388) (.ref 389) 816 817
def HN:Obj:=fO (au 33 15) "Tables.rows" .none vP 390
def HM:Obj:=oC 819 "rows_of" "Tables.rows_of" 285 3 3 392 true 181 393 (.ref 394) (.ref 395) (.ref 396) 829 830
def HL:Obj:=fO (au 33 16) "Tables.rows_of" .none vP 397
def HK:Obj:=oC 832 "prune" "Tables.prune" 294 2 3 399 true 181 400 (.ref 401) (.ref 402) (.ref 403) 840 841
def HJ:Obj:=fO (au 33 17) "Tables.prune" .none vP 404
def HH:Obj:=oC 843 "leaves" "Tables.leaves" 303 2 3 406 true 181 407 .none .none (.ref 408) 846 847
def HG:Obj:=fO (au 33 18) "Tables.leaves" .none vP 409
def HF:Obj:=oC 849 "free" "Tables.free" 317 2 3 411 true 181 412 (.ref 413) (.ref 414) (.ref 415) 856 857
def HE:Obj:=fO (au 33 19) "Tables.free" .none vP 416
def HD:Obj:=oC 859 "text" "Tables.text" 322 2 3 418 true 181 419 .none .none (.ref 420) 862 863
def HC:Obj:=fO (au 33 20) "Tables.text" .none vP 421
def HB (P:Params):Obj:=dO (.type "dict") 4 [dE P "__module__" 635 vP,dE P "__firstlineno__" 639<|.int 160 638,dE P "__init__" 649<|.ref 284,dE P "new_table" 657<|.ref 291,dE P "need_parts" 666<|.ref 298,dE P "walk" 681<|.ref 306,dE P "entry" 694<|.ref 313,dE P "physical" 707<|.ref 320,dE P "need_flags" 715<|.ref 327,dE P "need_page" 724<|.ref 334,dE P "map" 735<|.ref 341,dE P "map_large" 747<|.ref 348,dE P "need_place" 757<|.ref 355,dE P "unmap" 768<|.ref 362,dE P "change" 782<|.ref 370,dE P "move" 795<|.ref 377,dE P "tables_of" 806<|.ref 384,dE P "rows" 818<|.ref 391,dE P "rows_of" 831<|.ref 398,dE P "prune" 842<|.ref 405,dE P "leaves" 848<|.ref 410,dE P "free" 858<|.ref 417,dE P "text" 864<|.ref 422,dE P "__static_attributes__" 868<|.ref 423,dE P "__dict__" 870<|.ref 426,dE P "__weakref__" 872<|.ref 427,dE P "__doc__" 873 .none]
def HA:Obj:=oK "Tables" [(.type "object")] [(.ref 425),(.type "object")] 424 [] #[none,none,some<|vS "Tables" 628,some<|vS "Tables" 636,some<|.builtin "object.__new__",some<|.bool true]
def Hz:Obj:=tV [(.int 1 890),(.int 2 891),(.int 4 892)]
def Hy:Obj:=oC 901 "need_stretch" "need_stretch" 337 2 3 438 true 181 439 (.ref 440) (.ref 441) (.ref 442) 906 907
def Hx:Obj:=fO (f9 40) "need_stretch" .none vM 443
def Hw:Obj:=tV [(.int 0 921)]
def Hv:Obj:=oC 922 "__init__" "Memory.__init__" 342 3 3 453 true 181 454 (.ref 455) (.ref 456) (.ref 457) 928 929
def Hu:Obj:=fO (au 41 0) "Memory.__init__" (.ref 452) vM 458
def Ht:Obj:=oC 940 "need" "Memory.need" 352 3 3 467 true 181 468 (.ref 469) (.ref 470) (.ref 471) 946 947
def Hs:Obj:=fO (au 41 2) "Memory.need" .none vM 472
def Hr:Obj:=oC 949 "need_aligned" "Memory.need_aligned" 356 3 3 474 true 181 475 (.ref 476) (.ref 477) (.ref 478) 955 956
def Hq:Obj:=fO (au 41 3) "Memory.need_aligned" .none vM 479
def Hp:Obj:=oC 958 "word" "Memory.word" 360 2 3 481 true 181 482 (.ref 483) (.ref 484) (.ref 485) 963 964
def Ho:Obj:=fO (au 41 4) "Memory.word" .none vM 486
def Hl:Obj:=oC 966 "put_word" "Memory.put_word" 364 3 3 488 true 181 489 (.ref 490) (.ref 491) (.ref 492) 972 973
def Hj:Obj:=fO (au 41 5) "Memory.put_word" .none vM 493
def Hi:Obj:=oC 975 "keep" "Memory.keep" 368 3 3 495 true 181 496 (.ref 497) (.ref 498) (.ref 499) 981 982
def Hh:Obj:=fO (au 41 6) "Memory.keep" .none vM 500
def Hg:Obj:=oC 1030 "get" "Memory.get" 395 3 3 537 true 181 538 (.ref 539) (.ref 540) (.ref 541) 1036 1037
def Hf:Obj:=fO (au 41 12) "Memory.get" .none vM 542
def G9:Obj:=oC 1039 "put" "Memory.put" 403 4 3 544 true 181 545 (.ref 546) (.ref 547) (.ref 548) 1046 1047
def G8:Obj:=fO (au 41 13) "Memory.put" .none vM 549
def G7:Obj:=oC 1078 "zero" "Memory.zero" 438 3 3 565 true 181 566 (.ref 567) (.ref 568) (.ref 569) 1087 1088
def G6:Obj:=fO (au 41 16) "Memory.zero" .none vM 570
def G5 (P:Params):Obj:=dO (.type "dict") 4 [dE P "__module__" 916 vM,dE P "__firstlineno__" 920<|.int 340 919,dE P "__init__" 930<|.ref 459,dE P "holds" 939<|.ref 466,dE P "need" 948<|.ref 473,dE P "need_aligned" 957<|.ref 480,dE P "word" 965<|.ref 487,dE P "put_word" 974<|.ref 494,dE P "keep" 983<|.ref 501,dE P "half" 991<|.ref 508,dE P "put_half" 1000<|.ref 515,dE P "octet" 1008<|.ref 522,dE P "put_octet" 1017<|.ref 529,dE P "put_part" 1029<|.ref 536,dE P "get" 1038<|.ref 543,dE P "put" 1048<|.ref 550,dE P "load" 1062<|.ref 557,dE P "store" 1077<|.ref 564,dE P "zero" 1089<|.ref 571,dE P "fill" 1099<|.ref 578,dE P "copy" 1109<|.ref 585,dE P "used" 1116<|.ref 592,dE P "rows" 1122<|.ref 597,dE P "twin" 1129<|.ref 604,dE P "alike" 1137<|.ref 611,dE P "__static_attributes__" 1142<|.ref 612,dE P "__dict__" 1144<|.ref 615,dE P "__weakref__" 1146<|.ref 616,dE P "__doc__" 1147 .none]
def G4:Obj:=oK "Memory" [(.type "object")] [(.ref 614),(.type "object")] 613 [] #[none,none,some<|vS "Memory" 909,some<|vS "Memory" 917,some<|.builtin "object.__new__",some<|.bool true]
def G3 (P:Params):Obj:=dO (.type "dict") 4 [dE P "__module__" 1157 vM,dE P "__firstlineno__" 1161<|.int 470 1160,dE P "__init__" 1169<|.ref 632,dE P "size" 1176<|.ref 639,dE P "load" 1187<|.ref 646,dE P "store" 1197<|.ref 653,dE P "__static_attributes__" 1199<|.ref 654,dE P "__dict__" 1201<|.ref 657,dE P "__weakref__" 1203<|.ref 658,dE P "__doc__" 1204 .none]
def G2:Obj:=oK "Rom" [(.type "object")] [(.ref 656),(.type "object")] 655 [] #[none,none,some<|vS "Rom" 1150,some<|vS "Rom" 1158,some<|.builtin "object.__new__",some<|.bool true]
def G1:Obj:=oC 1219 "__init__" "Bus.__init__" 488 2 3 668 true 181 669 (.ref 670) (.ref 671) (.ref 672) 1224 1225
def G0:Obj:=fO (au 43 0) "Bus.__init__" .none vM 673
def GZ:Obj:=tV [(.int 5 303)]
def GY:Obj:=oC 1248 "load" "Bus.load" 501 4 3 690 true 181 691 (.ref 692) (.ref 693) (.ref 694) 1257 1258
def GX:Obj:=fO (au 43 3) "Bus.load" (.ref 689) vM 695
def GW:Obj:=tV [(.int 7 307)]
def GV:Obj:=oC 1261 "store" "Bus.store" 516 5 3 698 true 181 699 (.ref 700) (.ref 701) (.ref 702) 1271 1272
def GU:Obj:=fO (au 43 4) "Bus.store" (.ref 697) vM 703
def GS (P:Params):Obj:=dO (.type "dict") 4 [dE P "__module__" 1214 vM,dE P "__firstlineno__" 1218<|.int 486 1217,dE P "__init__" 1226<|.ref 674,dE P "attach" 1236<|.ref 681,dE P "stretch_at" 1246<|.ref 688,dE P "load" 1259<|.ref 696,dE P "store" 1273<|.ref 704,dE P "fetch" 1283<|.ref 711,dE P "is_memory" 1292<|.ref 718,dE P "__static_attributes__" 1295<|.ref 719,dE P "__dict__" 1297<|.ref 722,dE P "__weakref__" 1299<|.ref 723,dE P "__doc__" 1300 .none]
def GR:Obj:=oK "Bus" [(.type "object")] [(.ref 721),(.type "object")] 720 [] #[none,none,some<|vS "Bus" 1207,some<|vS "Bus" 1215,some<|.builtin "object.__new__",some<|.bool true]
def GQ:Obj:=tV [(.bool true)]
def GP:Obj:=oC 1321 "__init__" "Pages.__init__" 550 6 3 734 true 181 735 (.ref 736) (.ref 737) (.ref 738) 1330 1331
def GO:Obj:=fO (au 47 0) "Pages.__init__" (.ref 733) (vS "pipeboard.pages" 1303) 739
def GN:Obj:=oC 1333 "address_of" "Pages.address_of" 562 2 3 741 true 181 742 (.ref 743) (.ref 744) (.ref 745) 1338 1339
def GL:Obj:=fO (au 47 1) "Pages.address_of" .none (vS "pipeboard.pages" 1303) 746
def GK:Obj:=oC 1341 "is_page" "Pages.is_page" 565 2 3 748 true 181 749 (.ref 750) (.ref 751) (.ref 752) 1348 1349
def GJ:Obj:=fO (au 47 2) "Pages.is_page" .none (vS "pipeboard.pages" 1303) 753
def GI:Obj:=oC 1351 "holders" "Pages.holders" 569 2 3 755 true 181 756 (.ref 757) (.ref 758) (.ref 759) 1356 1357
def GH:Obj:=fO (au 47 3) "Pages.holders" .none (vS "pipeboard.pages" 1303) 760
def GG:Obj:=oC 1359 "need_held" "Pages.need_held" 574 2 3 762 true 181 763 (.ref 764) (.ref 765) (.ref 766) 1364 1365
def GF:Obj:=fO (au 47 4) "Pages.need_held" .none (vS "pipeboard.pages" 1303) 767
def GD:Obj:=oC 1367 "free_count" "Pages.free_count" 578 1 3 769 true 181 770 (.ref 771) (.ref 772) (.ref 773) 1371 1372
def GC:Obj:=fO (au 47 5) "Pages.free_count" .none (vS "pipeboard.pages" 1303) 774
def GB:Obj:=oC 1374 "need_free" "Pages.need_free" 581 2 3 776 true 181 777 (.ref 778) (.ref 779) (.ref 780) 1379 1380
def GA:Obj:=fO (au 47 6) "Pages.need_free" .none (vS "pipeboard.pages" 1303) 781
def Gz:Obj:=oC 1382 "filled" "Pages.filled" 585 3 3 783 true 181 784 (.ref 785) (.ref 786) (.ref 787) 1388 1389
def Gy:Obj:=fO (au 47 7) "Pages.filled" .none (vS "pipeboard.pages" 1303) 788
def Gx:Obj:=oC 1391 "take" "Pages.take" 589 1 3 790 true 181 791 (.ref 792) (.ref 793) (.ref 794) 1396 1397
def Gw:Obj:=fO (au 47 8) "Pages.take" .none (vS "pipeboard.pages" 1303) 795
def Gu:Obj:=oC 1422 "give" "Pages.give" 609 2 3 818 true 181 819 (.ref 820) (.ref 821) (.ref 822) 1427 1428
def Gs:Obj:=fO (au 47 12) "Pages.give" .none (vS "pipeboard.pages" 1303) 823
def Gr (P:Params):Obj:=dO (.type "dict") 4 [dE P "__module__" 1316<|vS "pipeboard.pages" 1303,dE P "__firstlineno__" 1320<|.int 548 1319,dE P "__init__" 1332<|.ref 740,dE P "address_of" 1340<|.ref 747,dE P "is_page" 1350<|.ref 754,dE P "holders" 1358<|.ref 761,dE P "need_held" 1366<|.ref 768,dE P "free_count" 1373<|.ref 775,dE P "need_free" 1381<|.ref 782,dE P "filled" 1390<|.ref 789,dE P "take" 1398<|.ref 796,dE P "take_clear" 1405<|.ref 803,dE P "take_many" 1413<|.ref 810,dE P "share" 1421<|.ref 817,dE P "give" 1429<|.ref 824,dE P "own" 1437<|.ref 831,dE P "all_held" 1444<|.ref 838,dE P "__static_attributes__" 1453<|.ref 839,dE P "__dict__" 1455<|.ref 842,dE P "__weakref__" 1457<|.ref 843,dE P "__doc__" 1458 .none]
def Gq:Obj:=oK "Pages" [(.type "object")] [(.ref 841),(.type "object")] 840 [] #[none,none,some<|vS "Pages" 1309,some<|vS "Pages" 1317,some<|.builtin "object.__new__",some<|.bool true]
def Gp:Obj:=oC 1463 "_law_box" "_law_box" 625 1 3 846 true 181 847 .none .none (.ref 848) 1466 1467
def Gn:Obj:=fO (f9 49) "_law_box" .none (vS "law_tk0076_01" 1461) 849
def Gm:Obj:=oC 1469 "_law_take" "_law_take" 628 2 3 851 true 181 852 (.ref 853) (.ref 854) (.ref 855) 1477 1478
def Gl:Obj:=fO (f9 50) "_law_take" .none (vS "law_tk0076_01" 1461) 856
def Gk:Obj:=oC 1480 "_law_board" "_law_board" 639 2 3 858 true 181 859 (.ref 860) (.ref 861) (.ref 862) 1487 1488
def Gj:Obj:=fO (f9 51) "_law_board" .none (vS "law_tk0076_01" 1461) 863
def Gi:Obj:=oC 1490 "_law_frame" "_law_frame" 643 3 3 865 true 181 866 (.ref 867) (.ref 868) (.ref 869) 1498 1499
def Gh:Obj:=fO (f9 52) "_law_frame" .none (vS "law_tk0076_01" 1461) 870
def Gg:Obj:=oC 1501 "_law_flags" "_law_flags" 647 1 3 872 true 181 873 (.ref 874) (.ref 875) (.ref 876) 1506 1507
def Gf:Obj:=fO (f9 53) "_law_flags" .none (vS "law_tk0076_01" 1461) 877
def Ge:Obj:=oC 1509 "_law_lone" "_law_lone" 650 3 3 879 true 181 880 .none .none (.ref 881) 1512 1513
def Gd:Obj:=fO (f9 54) "_law_lone" .none (vS "law_tk0076_01" 1461) 882
def Gb:Obj:=oC 1515 "_law_deed" "_law_deed" 652 8 3 884 true 181 885 (.ref 886) (.ref 887) (.ref 888) 1532 1533
def Ga:Obj:=fO (f9 55) "_law_deed" .none (vS "law_tk0076_01" 1461) 889
def F9:Obj:=oC 1535 "_law_read" "_law_read" 679 1 3 891 true 181 892 .none .none (.ref 893) 1538 1539
def F8:Obj:=fO (f9 56) "_law_read" .none (vS "law_tk0076_01" 1461) 894
def F7:Obj:=oC 1541 "_law_rebuilt" "_law_rebuilt" 693 4 3 896 true 181 897 (.ref 898) (.ref 899) (.ref 900) 1554 1555
def F6:Obj:=fO (f9 57) "_law_rebuilt" .none (vS "law_tk0076_01" 1461) 901
def F5:Obj:=oC 1557 "_law_entries" "_law_entries" 705 3 3 903 true 181 904 (.ref 905) (.ref 906) (.ref 907) 1567 1568
def F4:Obj:=fO (f9 58) "_law_entries" .none (vS "law_tk0076_01" 1461) 908
def F3:Obj:=oC 1570 "_law_access" "_law_access" 711 4 3 910 true 181 911 (.ref 912) (.ref 913) (.ref 914) 1578 1579
def F2:Obj:=fO (f9 59) "_law_access" .none (vS "law_tk0076_01" 1461) 915
def F1:Obj:=oC 1581 "_law_look" "_law_look" 716 3 3 917 true 181 918 (.ref 919) (.ref 920) (.ref 921) 1588 1589
def F0:Obj:=fO (f9 60) "_law_look" .none (vS "law_tk0076_01" 1461) 922
def FZ:Obj:=oC 1591 "_law_goal" "_law_goal" 722 3 3 924 true 181 925 (.ref 926) (.ref 927) (.ref 928) 1598 1599
def FY:Obj:=fO (f9 61) "_law_goal" .none (vS "law_tk0076_01" 1461) 929
def FW:Obj:=oC 1601 "_law_same" "_law_same" 727 7 3 931 true 181 932 .none .none (.ref 933) 1604 1605
def FU:Obj:=fO (f9 62) "_law_same" .none (vS "law_tk0076_01" 1461) 934
def FT:Obj:=oC 1607 "law" "law" 744 1 3 936 true 181 937 .none .none (.ref 938) 1610 1611
def FQ:Obj:=fO (f9 63) "law" .none (vS "law_tk0076_01" 1461) 939
noncomputable abbrev lf (o:Obj):BT:=.node o .nil .nil
noncomputable abbrev nd (o:Obj)(a b:BT):BT:=.node o a b
noncomputable abbrev lT:BT:=lf tE
noncomputable abbrev lF:BT:=lf fE
def Bt (P:Params):BT:=(nd (boot_o_0 P) (nd (boot_o_1 P) (nd (zP P (vS "law_tk0076_01" 1461) 67 68) (nd (boot_o_7 P) (nd tE (nd fE (nd fE (nd (fT (au 27 1) "Layout.parts") (nd IA (lf<|tN 995 ["self","address","value"])<|lf GG)<|nd HQ (lf<|fO (au 42 1) "Rom.size" .none vM 638)<|lf F8)<|nd IX (nd Ih lT<|lf<|fO (au 47 13) "Pages.own" .none (vS "pipeboard.pages" 1303) 830)<|nd (dO (.type "dict") 27 [dE P "__module__" 916 vM,dE P "__qualname__" 918<|vS "Memory" 917,dE P "__firstlineno__" 920<|.int 340 919,dE P "__init__" 930<|.ref 459,dE P "holds" 939<|.ref 466,dE P "need" 948<|.ref 473,dE P "need_aligned" 957<|.ref 480,dE P "word" 965<|.ref 487,dE P "put_word" 974<|.ref 494,dE P "keep" 983<|.ref 501,dE P "half" 991<|.ref 508,dE P "put_half" 1000<|.ref 515,dE P "octet" 1008<|.ref 522,dE P "put_octet" 1017<|.ref 529,dE P "put_part" 1029<|.ref 536,dE P "get" 1038<|.ref 543,dE P "put" 1048<|.ref 550,dE P "load" 1062<|.ref 557,dE P "store" 1077<|.ref 564,dE P "zero" 1089<|.ref 571,dE P "fill" 1099<|.ref 578,dE P "copy" 1109<|.ref 585,dE P "used" 1116<|.ref 592,dE P "rows" 1122<|.ref 597,dE P "twin" 1129<|.ref 604,dE P "alike" 1137<|.ref 611,dE P "__static_attributes__" 1142<|.ref 612]) (lf GV) .nil)<|nd fE (nd tE (nd (tN 653 ["self","page"]) (lf Hf)<|lf<|tN 1402 ["self"])<|nd (fT (au 33 19) "Tables.free") lT lT)<|nd tE (nd (tN 751 ["self","root","address","place"]) (lf<|tN 1133 ["self","other"])<|lf Gk)<|nd Hr lF .nil)<|nd fE (nd (oC 267 "NoRoom" "NoRoom" 17 0 0 77 false 181 78 .none .none .none 270 271) (nd I8 (nd tE (lf<|fT (au 41 10) "Memory.put_octet") lT)<|nd tE (lf<|G3 P) lF)<|nd fE (nd tE (lf<|oC 1110 "used" "Memory.used" 459 1 3 586 true 181 587 (.ref 588) (.ref 589) (.ref 590) 1114 1115) lF)<|nd tE (lf<|tN 1293 ["memory","stretches"]) .nil)<|nd tE (nd (tN 476 ["self","entry"]) (nd tE lF<|lf<|fT (au 47 11) "Pages.share")<|nd tE (lf<|oC 1237 "stretch_at" "Bus.stretch_at" 495 3 3 682 true 181 683 (.ref 684) (.ref 685) (.ref 686) 1244 1245) .nil)<|nd (fT (au 32 2) "Walker.entry_at") (nd tE (lf<|fV .none [(.int 472 0),(.int 4 0),(.ref 631),(.int 475 0),(.int 4 0),(.ref 638),(.int 478 0),(.int 4 0),(.ref 645),(.int 484 0),(.int 4 0),(.ref 652)]) lT)<|nd tE lT .nil)<|nd (bP) (nd Qy (nd Qu (nd (fT (au 27 2) "Layout.address") (nd (fO (au 32 5) "Walker.probe" (.ref 256) vP 262) lT<|lf GC)<|nd HN lT lT)<|nd tE (nd Ic (lf<|fT (au 41 18) "Memory.copy")<|lf<|tN 1445 ["begin","count","fill","given","held","memory","size","untouched"])<|nd (tN 925 ["self","size","begin"]) (lf<|fO (au 43 5) "Bus.fetch" .none vM 710) .nil)<|nd Jj (nd fE (nd tE lT lT)<|nd (tN 865 ["layout","memory","pages"]) (lf<|fT (au 43 1) "Bus.attach")<|lf FU)<|nd tE (nd tE (lf<|fV (.type "getset_descriptor") [(vS "__dict__" 1143),(.ref 614),(.builtin "function.__dict__"),(.builtin "function.__dict__#set")])<|lf Gh)<|nd Ho (lf<|tN 1336 ["self","index"]) .nil)<|nd (tV [(.ref 39)]) (nd (bP) (nd (fO (au 27 4) "Layout.up" .none vP 150) (nd fE (lf<|oC 1018 "put_part" "Memory.put_part" 390 4 3 530 true 181 531 (.ref 532) (.ref 533) (.ref 534) 1027 1028) lF)<|nd fE (lf<|dO (.type "dict") 11 [dE P "__module__" 1214 vM,dE P "__qualname__" 1216<|vS "Bus" 1215,dE P "__firstlineno__" 1218<|.int 486 1217,dE P "__init__" 1226<|.ref 674,dE P "attach" 1236<|.ref 681,dE P "stretch_at" 1246<|.ref 688,dE P "load" 1259<|.ref 696,dE P "store" 1273<|.ref 704,dE P "fetch" 1283<|.ref 711,dE P "is_memory" 1292<|.ref 718,dE P "__static_attributes__" 1295<|.ref 719])<|lf<|tN 1584 ["board","root","place","entry"])<|nd (dO (.type "dict") 10 [dE P "__module__" 533 vP,dE P "__qualname__" 535<|vS "Walker" 534,dE P "__firstlineno__" 537<|.int 113 536,dE P "__init__" 546<|.ref 226,dE P "translate" 564<|.ref 234,dE P "entry_at" 575<|.ref 241,dE P "large_page" 590<|.ref 248,dE P "mark" 602<|.ref 255,dE P "probe" 617<|.ref 263,dE P "__static_attributes__" 620<|.ref 264]) (nd fE lF<|lf<|fT (f9 50) "_law_take")<|nd (fT (au 41 2) "Memory.need") (lf<|bP) .nil)<|nd tE (nd (fV (.type "getset_descriptor") [(vS "__dict__" 488),(.ref 182),(.builtin "function.__dict__"),(.builtin "function.__dict__#set")]) (nd (fT (au 33 4) "Tables.entry") (lf<|tN 1081 ["self","address","count","place","end","size"])<|lf Gu)<|nd fE (lf GY) .nil)<|nd IF (nd (fT (au 33 13) "Tables.move") (lf<|oC 1162 "__init__" "Rom.__init__" 472 2 3 626 true 181 627 (.ref 628) (.ref 629) (.ref 630) 1167 1168) lT)<|nd fE (lf<|fT (au 47 3) "Pages.holders") .nil)<|nd tE (nd (fT (f9 0) "_wall") (nd QB (nd (oC 252 "__init__" "BadAddress.__init__" 14 2 3 62 true 181 63 (.ref 64) (.ref 65) (.ref 66) 257 258) (nd tE (nd (tN 608 ["self","root","address","kind","mode","sum_bit","mxr"]) (lf<|fO (au 41 8) "Memory.put_half" .none vM 514)<|lf<|tN 1370 ["self"])<|nd (tN 810 ["self","root","found","first","entry","row"]) lT lT)<|nd tE (nd (tN 711 ["self","flags"]) lT lT)<|nd (yd 450 447 vM) (lf<|tN 1277 ["self","address","memory","stretch"]) .nil)<|nd Qp (nd (fT (au 27 6) "Layout.pages_in") (nd Iq lT<|lf<|fO (au 47 9) "Pages.take_clear" .none (vS "pipeboard.pages" 1303) 802)<|nd fE lT lT)<|nd IL (nd HY (lf<|fO (au 41 22) "Memory.alike" .none vM 610)<|lf<|tN 1493 ["box","page","pages","count","n"])<|nd (tN 961 ["self","address"]) (lf GP) .nil)<|nd (Qx P) (nd Qs (nd (tN 442 ["self","address"]) (nd (fV .none [(.int 162 0),(.int 4 0),(.ref 283),(.int 167 0),(.int 4 0),(.ref 290),(.int 172 0),(.int 4 0),(.ref 297),(.int 178 0),(.int 4 0),(.ref 305),(.int 191 0),(.int 4 0),(.ref 312),(.int 199 0),(.int 4 0),(.ref 319),(.int 208 0),(.int 4 0),(.ref 326),(.int 212 0),(.int 4 0),(.ref 333),(.int 216 0),(.int 4 0),(.ref 340),(.int 225 0),(.int 4 0),(.ref 347),(.int 235 0),(.int 4 0),(.ref 354),(.int 241 0),(.int 4 0),(.ref 361),(.int 247 0),(.int 4 0),(.ref 369),(.int 256 0),(.int 4 0),(.ref 376),(.int 264 0),(.int 4 0),(.ref 383),(.int 272 0),(.int 4 0),(.ref 390),(.int 285 0),(.int 4 0),(.ref 397),(.int 294 0),(.int 4 0),(.ref 404),(.int 303 0),(.int 4 0),(.ref 409),(.int 317 0),(.int 4 0),(.ref 416),(.int 322 0),(.int 4 0),(.ref 421)]) lF<|lf<|fT (au 47 7) "Pages.filled")<|nd (fT (au 33 17) "Tables.prune") (lf<|fV (.type "super") [(.ref 656),(.ref 656),(.ref 656)])<|lf F3)<|nd IS (nd (fT (au 33 8) "Tables.map") (lf<|fT (au 41 20) "Memory.rows") lT)<|nd tE (lf<|fV (.type "getset_descriptor") [(vS "__weakref__" 1298),(.ref 721),(.builtin "ExceptionGroup.__weakref__"),.none]) .nil)<|nd Jg (nd I1 (nd tE (lf<|oC 1063 "store" "Memory.store" 423 3 3 558 true 181 559 (.ref 560) (.ref 561) (.ref 562) 1075 1076) lF)<|nd (fT (f9 39) "need_size") lF .nil)<|nd fE (nd tE lF<|lf Gd)<|nd (fT (au 41 6) "Memory.keep") lT .nil)<|nd (oC 198 "BoardError" "BoardError" 5 0 0 25 false 181 26 .none .none .none 201 202) (nd (tV [(.ref 39)]) (nd (bP) (nd fE (nd (fV (.type "getset_descriptor") [(vS "__dict__" 621),(.ref 266),(.builtin "function.__dict__"),(.builtin "function.__dict__#set")]) lT lT)<|nd tE (lf<|fT (au 42 3) "Rom.store")<|lf<|fT (f9 58) "_law_entries")<|nd (fT (f9 30) "is_sound") (nd tE lF<|lf<|fV (.type "getset_descriptor") [(vS "__weakref__" 1456),(.ref 841),(.builtin "ExceptionGroup.__weakref__"),.none])<|nd Hu lT .nil)<|nd (Jh P) (nd I4 (nd Im (lf<|fT (au 41 14) "Memory.load") lT)<|nd (fV (.type "getset_descriptor") [(vS "__weakref__" 871),(.ref 425),(.builtin "ExceptionGroup.__weakref__"),.none]) lF<|lf FT)<|nd tE (nd HV lT lT)<|nd tE (lf GL) .nil)<|nd (fV .none [(.int 14 0),(.int 4 0),(.ref 67)]) (nd (oC 283 "Trap" "Trap" 19 0 0 89 false 181 90 .none .none .none 286 287) (nd tE (nd Iv (lf<|tN 1033 ["self","address","size"])<|lf Gx)<|nd tE (lf<|yd 666 663 vM)<|lf F0)<|nd (yd 218 215 vP) (nd H7 (lf<|oC 1123 "twin" "Memory.twin" 465 1 3 598 true 181 599 (.ref 600) (.ref 601) (.ref 602) 1127 1128) lF)<|nd fE (lf<|oC 1311 "Pages" "Pages" 548 0 0 729 false 181 730 .none .none .none 1314 1315) .nil)<|nd tE (nd tE (nd fE (lf G6)<|lf<|tN 1433 ["self","address"])<|nd Hy lF .nil)<|nd (tN 594 ["self","place","entry","address","kind","due"]) (nd fE (lf<|tN 1173 ["self"]) lT)<|nd (oC 984 "half" "Memory.half" 374 2 3 502 true 181 503 (.ref 504) (.ref 505) (.ref 506) 989 990) lF .nil)<|nd (boot_o_5 P) (nd (boot_o_9 P) (nd (tN 190 ["k"]) (nd tE (nd tE (nd Jc (nd tE (lf<|fT (au 41 8) "Memory.put_half") lT)<|nd tE lF lF)<|nd fE (nd tE (lf<|oC 1090 "fill" "Memory.fill" 449 4 3 572 true 181 573 (.ref 574) (.ref 575) (.ref 576) 1097 1098) lF)<|nd (fV .none [(.int 342 0),(.int 4 0),(.ref 458),(.int 349 0),(.int 4 0),(.ref 465),(.int 352 0),(.int 4 0),(.ref 472),(.int 356 0),(.int 4 0),(.ref 479),(.int 360 0),(.int 4 0),(.ref 486),(.int 364 0),(.int 4 0),(.ref 493),(.int 368 0),(.int 4 0),(.ref 500),(.int 374 0),(.int 4 0),(.ref 507),(.int 378 0),(.int 4 0),(.ref 514),(.int 382 0),(.int 4 0),(.ref 521),(.int 386 0),(.int 4 0),(.ref 528),(.int 390 0),(.int 4 0),(.ref 535),(.int 395 0),(.int 4 0),(.ref 542),(.int 403 0),(.int 4 0),(.ref 549),(.int 412 0),(.int 4 0),(.ref 556),(.int 423 0),(.int 4 0),(.ref 563),(.int 438 0),(.int 4 0),(.ref 570),(.int 449 0),(.int 4 0),(.ref 577),(.int 456 0),(.int 4 0),(.ref 584),(.int 459 0),(.int 4 0),(.ref 591),(.int 462 0),(.int 4 0),(.ref 596),(.int 465 0),(.int 4 0),(.ref 603),(.int 468 0),(.int 4 0),(.ref 610)]) lT .nil)<|nd tE (nd (tN 458 ["self","begin","end"]) (nd (fT (au 33 1) "Tables.new_table") lF<|lf<|fT (au 47 9) "Pages.take_clear")<|nd HE (lf G1)<|lf FZ)<|nd IP (nd (fT (au 33 10) "Tables.need_place") (lf<|fT (au 41 22) "Memory.alike") lT)<|nd tE lT .nil)<|nd (yd 48 45<|vS "pipeboard.errors" 194) (nd tE (nd tE (nd (dO (.type "dict") 25 [dE P "__module__" 635 vP,dE P "__qualname__" 637<|vS "Tables" 636,dE P "__firstlineno__" 639<|.int 160 638,dE P "__init__" 649<|.ref 284,dE P "new_table" 657<|.ref 291,dE P "need_parts" 666<|.ref 298,dE P "walk" 681<|.ref 306,dE P "entry" 694<|.ref 313,dE P "physical" 707<|.ref 320,dE P "need_flags" 715<|.ref 327,dE P "need_page" 724<|.ref 334,dE P "map" 735<|.ref 341,dE P "map_large" 747<|.ref 348,dE P "need_place" 757<|.ref 355,dE P "unmap" 768<|.ref 362,dE P "change" 782<|.ref 370,dE P "move" 795<|.ref 377,dE P "tables_of" 806<|.ref 384,dE P "rows" 818<|.ref 391,dE P "rows_of" 831<|.ref 398,dE P "prune" 842<|.ref 405,dE P "leaves" 848<|.ref 410,dE P "free" 858<|.ref 417,dE P "text" 864<|.ref 422,dE P "__static_attributes__" 868<|.ref 423]) (lf<|fO (au 41 10) "Memory.put_octet" .none vM 528)<|lf<|tN 1385 ["self","address","octet"])<|nd (tN 835 ["self","root","count","first","table"]) (lf<|fV (.type "getset_descriptor") [(vS "__dict__" 1200),(.ref 656),(.builtin "function.__dict__"),(.builtin "function.__dict__#set")]) lT)<|nd tE (nd (tN 728 ["self","root","address","physical","flags"]) lT<|lf Gp)<|nd (oC 931 "holds" "Memory.holds" 349 3 3 460 true 181 461 (.ref 462) (.ref 463) (.ref 464) 937 938) (lf GR) .nil)<|nd (oC 392 "Layout" "Layout" 59 0 0 111 false 181 112 .none .none .none 395 396) (nd (fT (au 27 8) "Layout.physical") (nd Il lT<|lf<|fO (au 47 11) "Pages.share" .none (vS "pipeboard.pages" 1303) 816)<|nd (tN 897 ["size"]) (lf GZ) .nil)<|nd IG (nd HU (lf<|yd 624 621 vM)<|lf<|fT (f9 54) "_law_lone")<|nd (tN 978 ["self","index","value"]) (lf GK) .nil)<|nd tE (nd (fV (.type "super") [(.ref 39),(.ref 39),(.ref 39)]) (nd (bO 71) (nd I9 (nd (Iz P) (lf<|oC 1001 "octet" "Memory.octet" 382 2 3 516 true 181 517 (.ref 518) (.ref 519) (.ref 520) 1006 1007) lF)<|nd fE (lf<|tN 1191 ["self","offset","size","value"])<|lf<|tN 1560 ["board","root","soft","found","address","place","entry"])<|nd (tN 511 ["entry"]) (nd fE (lf<|fO (au 41 18) "Memory.copy" .none vM 584)<|lf Gq)<|nd (fT (au 41 0) "Memory.__init__") lF .nil)<|nd (bO 103) (nd tE (nd Ip (lf<|tN 1052 ["self","address","count","found","place","end","word","turn"])<|lf<|oC 1406 "take_many" "Pages.take_many" 603 2 3 804 true 181 805 (.ref 806) (.ref 807) (.ref 808) 1411 1412)<|nd HA (lf<|fO (au 43 1) "Bus.attach" .none vM 680) lF)<|nd IK (nd HX (lf<|fV (.type "super") [(.ref 614),(.ref 614),(.ref 614)]) lF)<|nd fE (lf<|fT (au 47 1) "Pages.address_of") .nil)<|nd (dO (.type "dict") 5 [dE P "__module__" 247<|vS "pipeboard.errors" 194,dE P "__qualname__" 249<|vS "BadAddress" 248,dE P "__firstlineno__" 251<|.int 12 250,dE P "__init__" 259<|.ref 68,dE P "__static_attributes__" 261<|.ref 69]) (nd tE (nd fE (nd tE lT lT)<|nd HH (lf<|fV .none [(.int 488 0),(.int 4 0),(.ref 673),(.int 492 0),(.int 4 0),(.ref 680),(.int 495 0),(.int 4 0),(.ref 687),(.int 501 0),(.int 4 0),(.ref 695),(.int 516 0),(.int 4 0),(.ref 703),(.int 532 0),(.int 4 0),(.ref 710),(.int 543 0),(.int 4 0),(.ref 717)])<|lf<|fT (f9 60) "_law_look")<|nd (fV .none [(.int 115 0),(.int 4 0),(.ref 225),(.int 119 0),(.int 4 0),(.ref 233),(.int 134 0),(.int 4 0),(.ref 240),(.int 143 0),(.int 4 0),(.ref 247),(.int 150 0),(.int 4 0),(.ref 254),(.int 158 0),(.int 4 0),(.ref 262)]) (nd tE lT<|lf Gl)<|nd Hs lT .nil)<|nd Jf (nd (fV (.type "super") [(.ref 182),(.ref 182),(.ref 182)]) (nd Ii (lf<|fT (au 41 16) "Memory.zero") lT)<|nd tE (lf GW) .nil)<|nd tE (nd HR lT<|lf Gb)<|nd tE (lf GH) .nil)<|nd (oC 182 "<module>" "<module>" 1 0 0 11 false 181 12 .none .none .none 185 186) (nd (fO (f9 0) "_wall" .none (vS "__main__" 164) 20) (nd (tN 217 ["reason"]) (nd (tN 260 ["address"]) (nd (tN 424 ["self","first","second","offset"]) (nd (fT (au 32 5) "Walker.probe") lF<|lf<|fT (au 47 5) "Pages.free_count")<|nd (fT (au 33 15) "Tables.rows") (lf<|oC 1177 "load" "Rom.load" 478 3 3 640 true 181 641 (.ref 642) (.ref 643) (.ref 644) 1185 1186)<|lf F7)<|nd IW (nd (fT (au 33 6) "Tables.need_flags") (lf<|tN 1103 ["self","source","target","count"])<|lf<|oC 1438 "all_held" "Pages.all_held" 622 1 3 832 true 181 833 (.ref 834) (.ref 835) (.ref 836) 1442 1443)<|nd tE (lf<|fT (au 43 5) "Bus.fetch") .nil)<|nd (tN 331 ["cause","value"]) (nd (fO (au 27 6) "Layout.pages_in" .none vP 164) (nd fE (lf G9) lF)<|nd HD (lf<|tN 1230 ["self","begin","end","device"])<|lf<|fT (f9 62) "_law_same")<|nd fE (nd fE (lf<|G5 P)<|lf<|fT (f9 52) "_law_frame")<|nd (fT (au 41 4) "Memory.word") lT .nil)<|nd (fV (.type "super") [(.ref 52),(.ref 52),(.ref 52)]) (nd (bO 83) (nd (fT (au 27 4) "Layout.up") (nd (yd 276 273 vP) lT<|lf Gy)<|nd HJ lT lT)<|nd tE (nd H8 (lf<|fO (au 41 20) "Memory.rows" .none vM 596)<|lf<|tN 1472 ["box","many","digit","at","cell"])<|nd (tN 943 ["self","address","count"]) (lf<|bO 721) .nil)<|nd fE (nd (I0 P) (nd (tN 685 ["self","root","address","first","second","offset","entry"]) lT lT)<|nd (fO (f9 39) "need_size" .none vM 436) lT .nil)<|nd tE (nd (tN 786 ["self","root","address","physical","flags","place","found"]) lT lF)<|nd Hh (lf<|tN 1354 ["self","address"]) .nil)<|nd QC (nd (dO (.type "dict") 4 [dE P "__module__" 231<|vS "pipeboard.errors" 194,dE P "__qualname__" 233<|vS "BadArgument" 232,dE P "__firstlineno__" 235<|.int 10 234,dE P "__static_attributes__" 236<|.ref 50]) (nd tE (nd tE (nd (fV (.type "super") [(.ref 266),(.ref 266),(.ref 266)]) (lf<|tN 1012 ["self","address","value"])<|lf GB)<|nd HM (lf<|fO (au 42 3) "Rom.store" .none vM 652)<|lf F4)<|nd IT (nd Ib lT<|lf<|bO 841)<|nd fE (lf<|oC 1284 "is_memory" "Bus.is_memory" 543 3 3 712 true 181 713 (.ref 714) (.ref 715) (.ref 716) 1290 1291) .nil)<|nd (bP) (nd tE (nd fE (lf<|fO (au 41 14) "Memory.load" .none vM 556)<|lf<|tN 1417 ["self","address"])<|nd (bO 425) lT .nil)<|nd (tN 568 ["self","place","address","kind","entry"]) (nd fE (lf<|dO (.type "dict") 8 [dE P "__module__" 1157 vM,dE P "__qualname__" 1159<|vS "Rom" 1158,dE P "__firstlineno__" 1161<|.int 470 1160,dE P "__init__" 1169<|.ref 632,dE P "size" 1176<|.ref 639,dE P "load" 1187<|.ref 646,dE P "store" 1197<|.ref 653,dE P "__static_attributes__" 1199<|.ref 654])<|lf Gg)<|nd Hl lF .nil)<|nd (yd 60 57<|vS "pipeboard.errors" 194) (nd Qq (nd I6 (nd tE (lf<|fT (au 41 12) "Memory.get") lT)<|nd (tN 852 ["self","root","first","table"]) lF lF)<|nd fE (nd tE lT lT)<|nd tE (lf GQ) .nil)<|nd (tN 414 ["self","address","number"]) (nd (fT (f9 28) "eight_digits") (nd tE lF<|lf<|fT (au 47 13) "Pages.own")<|nd tE lT .nil)<|nd (fT (au 32 4) "Walker.mark") (nd tE (lf<|fT (au 42 1) "Rom.size")<|lf<|fT (f9 56) "_law_read")<|nd tE lT .nil)<|nd (boot_o_2 P) (nd (boot_o_4 P) (nd (boot_o_8 P) (nd fE (nd (tN 212 ["self","reason"]) (nd (tN 255 ["self","address"]) (nd Jd (nd (tV [(.int 0 603),(.int 0 604)]) lT<|lf GF)<|nd HP lT lT)<|nd tE (nd Ig (lf<|fT (au 41 17) "Memory.fill") lT)<|nd tE (lf GU) .nil)<|nd (tN 325 ["self","cause","value"]) (nd fE (nd tE lT lT)<|nd HF (lf<|fT (au 43 0) "Bus.__init__")<|lf<|fT (f9 61) "_law_goal")<|nd (fT (au 32 0) "Walker.__init__") (nd tE lT<|lf Gj)<|nd Hq (lf<|tN 1324 ["self","memory","begin","count","size","fill"]) .nil)<|nd (oC 226 "BadArgument" "BadArgument" 10 0 0 46 false 181 47 .none .none .none 229 230) (nd (yd 79 76<|vS "pipeboard.errors" 194) (nd I7 (nd (bP) (lf<|oC 1009 "put_octet" "Memory.put_octet" 386 3 3 523 true 181 524 (.ref 525) (.ref 526) (.ref 527) 1015 1016) lF)<|nd fE (lf G2)<|lf<|tN 1573 ["board","root","place","n","trap"])<|nd (tN 518 ["entry","kind","mode","sum_bit","mxr"]) (nd fE (lf<|fO (au 41 19) "Memory.used" .none vM 591)<|lf<|fT (f9 49) "_law_box")<|nd (fT (au 41 1) "Memory.holds") (lf<|GS P) .nil)<|nd (fV .none [(.int 61 0),(.int 4 0),(.ref 121),(.int 71 0),(.int 4 0),(.ref 128),(.int 77 0),(.int 4 0),(.ref 136),(.int 80 0),(.int 4 0),(.ref 143),(.int 83 0),(.int 4 0),(.ref 150),(.int 86 0),(.int 4 0),(.ref 157),(.int 89 0),(.int 4 0),(.ref 164),(.int 92 0),(.int 4 0),(.ref 171),(.int 95 0),(.int 4 0),(.ref 178)]) (nd tE (nd (fT (au 33 3) "Tables.walk") (lf<|tN 1066 ["self","address","octets","place","at","end","size","value","octet"])<|lf<|oC 1414 "share" "Pages.share" 606 2 3 811 true 181 812 (.ref 813) (.ref 814) (.ref 815) 1419 1420)<|nd fE (lf<|fO (au 43 2) "Bus.stretch_at" .none vM 687) .nil)<|nd II (nd (fT (au 33 12) "Tables.change") (lf<|oC 1152 "Rom" "Rom" 470 0 0 622 false 181 623 .none .none .none 1155 1156) lF)<|nd fE (lf<|fT (au 47 2) "Pages.is_page") .nil)<|nd (dO (.type "dict") 5 [dE P "__module__" 203<|vS "pipeboard.errors" 194,dE P "__qualname__" 205<|vS "BoardError" 204,dE P "__firstlineno__" 207<|.int 5 206,dE P "__init__" 216<|.ref 36,dE P "__static_attributes__" 218<|.ref 37]) (nd (fV (.type "getset_descriptor") [(vS "__weakref__" 219),(.ref 39),(.builtin "ExceptionGroup.__weakref__"),.none]) (nd (fV (.type "super") [(.ref 71),(.ref 71),(.ref 71)]) (nd Ja (nd (tN 618 ["bus","layout"]) (lf<|fT (au 41 9) "Memory.octet") lT)<|nd tE lF lF)<|nd fE (nd tE (lf<|oC 1100 "copy" "Memory.copy" 456 4 3 579 true 181 580 (.ref 581) (.ref 582) (.ref 583) 1107 1108)<|lf<|Gr P)<|nd tE lT .nil)<|nd (fV (.type "super") [(.ref 103),(.ref 103),(.ref 103)]) (nd (tN 467 ["self","physical","flags"]) (nd (fT (au 33 2) "Tables.need_parts") lF<|lf<|fT (au 47 10) "Pages.take_many")<|nd (HB P) (lf<|oC 1227 "attach" "Bus.attach" 492 4 3 675 true 181 676 (.ref 677) (.ref 678) (.ref 679) 1234 1235) lT)<|nd (fT (au 32 1) "Walker.translate") (nd (fT (au 33 11) "Tables.unmap") (lf<|fV (.type "getset_descriptor") [(vS "__weakref__" 1145),(.ref 614),(.builtin "ExceptionGroup.__weakref__"),.none]) lT)<|nd tE lT .nil)<|nd (bP) (nd (dO (.type "dict") 19 [dE P "__module__" 288<|vS "pipeboard.errors" 194,dE P "__qualname__" 290<|vS "Trap" 289,dE P "__firstlineno__" 292<|.int 19 291,dE P "FETCH_MISALIGNED" 294<|.int 0 293,dE P "FETCH_ACCESS" 296<|.int 1 295,dE P "ILLEGAL" 298<|.int 2 297,dE P "BREAKPOINT" 300<|.int 3 299,dE P "LOAD_MISALIGNED" 302<|.int 4 301,dE P "LOAD_ACCESS" 304<|.int 5 303,dE P "STORE_MISALIGNED" 306<|.int 6 305,dE P "STORE_ACCESS" 308<|.int 7 307,dE P "CALL_FROM_USER" 310<|.int 8 309,dE P "CALL_FROM_SUPERVISOR" 312<|.int 9 311,dE P "CALL_FROM_MACHINE" 314<|.int 11 313,dE P "FETCH_PAGE" 316<|.int 12 315,dE P "LOAD_PAGE" 318<|.int 13 317,dE P "STORE_PAGE" 320<|.int 15 319,dE P "__init__" 330<|.ref 100,dE P "__static_attributes__" 333<|.ref 101]) (nd tE (nd (tN 643 ["self","memory","layout","pages"]) (lf<|fO (au 41 11) "Memory.put_part" .none vM 535)<|lf<|tN 1394 ["self","address"])<|nd (fT (au 33 18) "Tables.leaves") lT lT)<|nd tE (nd (tN 739 ["self","root","address","physical","flags","place"]) (lf<|tN 1126 ["self"])<|lf Gm)<|nd Ht (lf<|dO (.type "dict") 19 [dE P "__module__" 1316<|vS "pipeboard.pages" 1303,dE P "__qualname__" 1318<|vS "Pages" 1317,dE P "__firstlineno__" 1320<|.int 548 1319,dE P "__init__" 1332<|.ref 740,dE P "address_of" 1340<|.ref 747,dE P "is_page" 1350<|.ref 754,dE P "holders" 1358<|.ref 761,dE P "need_held" 1366<|.ref 768,dE P "free_count" 1373<|.ref 775,dE P "need_free" 1381<|.ref 782,dE P "filled" 1390<|.ref 789,dE P "take" 1398<|.ref 796,dE P "take_clear" 1405<|.ref 803,dE P "take_many" 1413<|.ref 810,dE P "share" 1421<|.ref 817,dE P "give" 1429<|.ref 824,dE P "own" 1437<|.ref 831,dE P "all_held" 1444<|.ref 838,dE P "__static_attributes__" 1453<|.ref 839]) .nil)<|nd (fT (au 27 0) "Layout.__init__") (nd (fV (.type "getset_descriptor") [(vS "__weakref__" 490),(.ref 182),(.builtin "ExceptionGroup.__weakref__"),.none]) (nd Ij lT<|lf Gs)<|nd (tN 904 ["begin","end"]) (lf GX) .nil)<|nd ID (nd HS (lf<|fO (au 42 0) "Rom.__init__" .none vM 631)<|lf<|fT (f9 55) "_law_deed")<|nd (tN 987 ["self","address"]) (lf GI) .nil)<|nd (fV .none Dg) (nd (oC 187 "_wall" "_wall" 1 1 3 15 true 181 16 (.ref 17) (.ref 18) (.ref 19) 191 192) (nd QA (nd (fO (au 4 0) "BadAddress.__init__" .none (vS "pipeboard.errors" 194) 67) (nd fE (nd tE lT lT)<|nd tE (lf<|fT (au 42 2) "Rom.load")<|lf<|fT (f9 57) "_law_rebuilt")<|nd (fT (f9 29) "is_leaf") (nd tE lF<|lf<|fT (au 47 14) "Pages.all_held")<|nd Hw lT .nil)<|nd Jl (nd (oC 455 "pages_in" "Layout.pages_in" 89 3 3 159 true 181 160 (.ref 161) (.ref 162) (.ref 163) 461 462) (nd tE (lf<|fT (au 41 13) "Memory.put") lT)<|nd (fT (au 33 20) "Tables.text") lF lF)<|nd tE (nd tE (lf<|tN 1138 ["begin","end","size","words"]) lT)<|nd tE (lf GO) .nil)<|nd Qw (nd (fV (.type "super") [(.ref 83),(.ref 83),(.ref 83)]) (nd tE (nd (oC 630 "Tables" "Tables" 160 0 0 274 false 181 275 .none .none .none 633 634) (lf<|tN 1021 ["self","address","ones","value","shift","old"])<|lf Gz)<|nd HK (lf<|bO 656)<|lf F2)<|nd IQ (nd H9 (lf<|oC 1117 "rows" "Memory.rows" 462 1 3 593 true 181 594 .none .none (.ref 595) 1120 1121) lF)<|nd fE (lf<|fV (.type "super") [(.ref 721),(.ref 721),(.ref 721)]) .nil)<|nd tE (nd (tN 481 ["end","entries","large","level_bits","page","page_bits"]) (nd fE (lf<|fO (au 41 15) "Memory.store" .none vM 563)<|lf<|tN 1425 ["self","address"])<|nd (oC 894 "need_size" "need_size" 334 1 3 431 true 181 432 (.ref 433) (.ref 434) (.ref 435) 898 899) (lf<|tN 1251 ["self","address","size","cause","memory","stretch"]) .nil)<|nd (tN 579 ["self","place","entry","address","kind","mode","sum_bit","mxr","physical"]) (nd fE (lf<|tN 1165 ["self","octets"]) lT)<|nd Hi lF .nil)<|nd (yd 27 24<|vS "pipeboard.errors" 194) (nd (bP) (nd (dO (.type "dict") 4 [dE P "__module__" 272<|vS "pipeboard.errors" 194,dE P "__qualname__" 274<|vS "NoRoom" 273,dE P "__firstlineno__" 276<|.int 17 275,dE P "__static_attributes__" 277<|.ref 81]) (nd (tN 434 ["self","address"]) (nd (fV (.type "getset_descriptor") [(vS "__weakref__" 623),(.ref 266),(.builtin "ExceptionGroup.__weakref__"),.none]) lF<|lf<|fT (au 47 6) "Pages.need_free")<|nd (fT (au 33 16) "Tables.rows_of") (lf<|oC 1188 "store" "Rom.store" 484 4 3 647 true 181 648 (.ref 649) (.ref 650) (.ref 651) 1195 1196)<|lf F5)<|nd IU (nd (fT (au 33 7) "Tables.need_page") (lf<|tN 1113 ["self"])<|lf<|fV (.type "super") [(.ref 841),(.ref 841),(.ref 841)])<|nd tE (lf<|fT (au 43 6) "Bus.is_memory") .nil)<|nd tE (nd I3 (nd tE (lf<|oC 1049 "load" "Memory.load" 412 3 3 551 true 181 552 (.ref 553) (.ref 554) (.ref 555) 1060 1061) lF)<|nd (fV (.type "super") [(.ref 425),(.ref 425),(.ref 425)]) (lf<|tN 1240 ["self","address","size","stretch"])<|lf FQ)<|nd fE (nd tE (lf<|bP)<|lf<|fT (f9 53) "_law_flags")<|nd (fT (au 41 5) "Memory.put_word") lT .nil)<|nd (oC 242 "BadAddress" "BadAddress" 12 0 0 58 false 181 59 .none .none .none 245 246) (nd (yd 91 88<|vS "pipeboard.errors" 194) (nd (fT (au 27 5) "Layout.is_begin") (nd Iu lT<|lf Gw)<|nd fE lT lT)<|nd tE (nd H6 (lf<|fO (au 41 21) "Memory.twin" .none vM 603)<|lf<|tN 1483 ["layout","begin","memory","pool"])<|nd (tN 952 ["self","address","size"]) (lf<|yd 731 728<|vS "pipeboard.pages" 1303) .nil)<|nd fE (nd fE (nd (tN 698 ["self","root","address","first","second","offset","entry"]) lT lT)<|nd Hx (lf<|tN 1264 ["self","address","size","value","cause","memory","stretch"]) .nil)<|nd tE (nd (tN 799 ["self","root","found","first","entry"]) lT lF)<|nd (fO (au 41 7) "Memory.half" .none vM 507) (lf<|tN 1362 ["self","address"]) .nil)<|nd (boot_o_6 P) (nd (boot_o_10 P) (nd tE (nd (fT (au 2 0) "BoardError.__init__") (nd (fT (au 4 0) "BadAddress.__init__") (nd Jb (nd fE (lf<|oC 992 "put_half" "Memory.put_half" 378 3 3 509 true 181 510 (.ref 511) (.ref 512) (.ref 513) 998 999) lF)<|nd fE (lf<|tN 1180 ["self","offset","size","value","octet"])<|lf<|tN 1544 ["box","table","far","lines","rest","turn","address","physical","flags","is_large"])<|nd (tN 504 ["entry"]) (nd fE (lf<|fO (au 41 17) "Memory.fill" .none vM 577)<|lf<|tN 1441 ["self"])<|nd (oC 911 "Memory" "Memory" 340 0 0 448 false 181 449 .none .none .none 914 915) lF .nil)<|nd (fT (au 6 14) "Trap.__init__") (nd tE (nd Ir (lf<|tN 1042 ["self","address","size","value"])<|lf<|oC 1399 "take_clear" "Pages.take_clear" 600 1 3 797 true 181 798 (.ref 799) (.ref 800) (.ref 801) 1403 1404)<|nd tE (lf G0)<|lf FY)<|nd IM (nd HZ (lf<|oC 1130 "alike" "Memory.alike" 468 2 3 605 true 181 606 (.ref 607) (.ref 608) (.ref 609) 1135 1136) lF)<|nd fE (lf<|fT (au 47 0) "Pages.__init__") .nil)<|nd tE (nd (Qt P) (nd fE (nd tE lT lT)<|nd tE (lf<|fV (.type "getset_descriptor") [(vS "__weakref__" 1202),(.ref 656),(.builtin "ExceptionGroup.__weakref__"),.none])<|lf<|fT (f9 59) "_law_access")<|nd (fT (f9 31) "may") (nd tE lF<|lf Gn)<|nd (fO (au 41 1) "Memory.holds" .none vM 465) (lf<|fV (.type "getset_descriptor") [(vS "__dict__" 1296),(.ref 721),(.builtin "function.__dict__"),(.builtin "function.__dict__#set")]) .nil)<|nd (yd 113 110 vP) (nd I2 (nd Ik (lf<|fT (au 41 15) "Memory.store") lT)<|nd tE lT .nil)<|nd tE (nd HT lT<|lf Ge)<|nd tE (lf GJ) .nil)<|nd (fV .none [(.int 7 0),(.int 4 0),(.ref 35)]) (nd (bO 39) (nd (tV [(.ref 39)]) (nd tE (nd Iw (lf<|fO (au 41 9) "Memory.octet" .none vM 521)<|lf<|tN 1377 ["self","count"])<|nd (tN 822 ["self","table","first","found","second","entry","address"]) lT lT)<|nd tE (nd (tN 719 ["self","physical","size"]) lT<|lf<|fV (.type "getset_descriptor") [(vS "__dict__" 1454),(.ref 841),(.builtin "function.__dict__"),(.builtin "function.__dict__#set")])<|nd Hv (lf<|tN 1287 ["self","address","size"]) .nil)<|nd (Ji P) (nd (fT (au 27 7) "Layout.entry") (nd Io lT<|lf<|fO (au 47 10) "Pages.take_many" .none (vS "pipeboard.pages" 1303) 809)<|nd (fV (.type "getset_descriptor") [(vS "__dict__" 869),(.ref 425),(.builtin "function.__dict__"),(.builtin "function.__dict__#set")]) lT<|lf<|fT (f9 63) "law")<|nd IJ (nd HW (lf<|bO 614)<|lf<|tN 1504 ["box","n"])<|nd (tN 969 ["self","address","value"]) (lf GN) .nil)<|nd tE (nd (fV .none [(.int 35 0),(.int 4 0),(.ref 99)]) (nd (tN 450 ["self","address"]) (nd (fT (au 33 0) "Tables.__init__") lF<|lf<|fT (au 47 8) "Pages.take")<|nd HG (lf<|oC 1209 "Bus" "Bus" 486 0 0 664 false 181 665 .none .none .none 1212 1213)<|lf F1)<|nd (oC 528 "Walker" "Walker" 113 0 0 216 false 181 217 .none .none .none 531 532) (nd (fT (au 33 9) "Tables.map_large") (lf<|fT (au 41 21) "Memory.twin") lT)<|nd tE (lf<|fV .none [(.int 550 0),(.int 4 0),(.ref 739),(.int 562 0),(.int 4 0),(.ref 746),(.int 565 0),(.int 4 0),(.ref 753),(.int 569 0),(.int 4 0),(.ref 760),(.int 574 0),(.int 4 0),(.ref 767),(.int 578 0),(.int 4 0),(.ref 774),(.int 581 0),(.int 4 0),(.ref 781),(.int 585 0),(.int 4 0),(.ref 788),(.int 589 0),(.int 4 0),(.ref 795),(.int 600 0),(.int 4 0),(.ref 802),(.int 603 0),(.int 4 0),(.ref 809),(.int 606 0),(.int 4 0),(.ref 816),(.int 609 0),(.int 4 0),(.ref 823),(.int 619 0),(.int 4 0),(.ref 830),(.int 622 0),(.int 4 0),(.ref 837)]) .nil)<|nd Je (nd (bO 182) (nd tE (lf G7) lF)<|nd (fT (f9 40) "need_stretch") lT .nil)<|nd fE (nd tE lF<|lf Ga)<|nd (fT (au 41 7) "Memory.half") lT .nil)<|nd (yd 13 3<|vS "__main__" 164) (nd (tV [(.type "ValueError")]) (nd (Qz P) (nd (Qv P) (nd tE (nd (oC 605 "probe" "Walker.probe" 158 7 3 257 true 181 258 (.ref 259) (.ref 260) (.ref 261) 615 616) (lf<|tN 1004 ["self","address"])<|lf GD)<|nd HO (lf<|fO (au 42 2) "Rom.load" .none vM 645)<|lf F6)<|nd IV (nd Ie lT<|lf<|fO (au 47 14) "Pages.all_held" .none (vS "pipeboard.pages" 1303) 837)<|nd fE (lf<|oC 1274 "fetch" "Bus.fetch" 532 2 3 705 true 181 706 (.ref 707) (.ref 708) (.ref 709) 1281 1282) .nil)<|nd (Jk P) (nd tE (nd (tN 661 ["self","address","parts"]) (lf G8)<|lf<|tN 1409 ["self","count"])<|nd HC lT<|lf FW)<|nd (tN 552 ["self","root","address","kind","mode","sum_bit","mxr","parts","place","entry"]) (nd (tN 761 ["self","root","address","place","found"]) (lf G4)<|lf Gi)<|nd Hp lF .nil)<|nd (bO 52) (nd (tV [(.ref 39)]) (nd (oC 439 "up" "Layout.up" 83 2 3 145 true 181 146 (.ref 147) (.ref 148) (.ref 149) 444 445) (nd tE (lf<|fT (au 41 11) "Memory.put_part") lT)<|nd tE (lf<|bP) lF)<|nd (bP) (nd tE lT lT)<|nd tE lT .nil)<|nd (tN 406 ["self","page_bits"]) (nd IZ (nd tE lF<|lf<|fT (au 47 12) "Pages.give")<|nd tE (lf<|fT (au 43 3) "Bus.load") .nil)<|nd (fT (au 32 3) "Walker.large_page") (nd tE (lf<|fT (au 42 0) "Rom.__init__")<|lf<|tN 1518 ["box","way","table","root","layout","held","big","made","page","many","large","ends","begin","address"])<|nd tE lT .nil)<|nd tE (nd tE (nd fE (nd (fT (au 27 3) "Layout.down") (nd (bO 266) lT<|lf GA)<|nd HL (lf<|tN 1198 ["octets"]) lT)<|nd tE (nd Ia (lf<|fT (au 41 19) "Memory.used") lT)<|nd (tN 934 ["self","address","count"]) (lf<|fO (au 43 6) "Bus.is_memory" .none vM 717) .nil)<|nd (dO (.type "dict") 13 [dE P "__module__" 397 vP,dE P "__qualname__" 399<|vS "Layout" 398,dE P "__firstlineno__" 401<|.int 59 400,dE P "__init__" 410<|.ref 122,dE P "parts" 419<|.ref 129,dE P "address" 430<|.ref 137,dE P "down" 438<|.ref 144,dE P "up" 446<|.ref 151,dE P "is_begin" 454<|.ref 158,dE P "pages_in" 463<|.ref 165,dE P "entry" 472<|.ref 172,dE P "physical" 480<|.ref 179,dE P "__static_attributes__" 487<|.ref 180]) (nd fE (nd (tN 670 ["self","root","address","make","first","second","offset","place","entry"]) lT lT)<|nd Hz (lf<|fT (au 43 2) "Bus.stretch_at") .nil)<|nd tE (nd (tN 773 ["self","root","address","add","take","place","entry"]) lT<|lf Gf)<|nd Hj (lf<|tN 1344 ["self","address","index","inside"]) .nil)<|nd tE (nd tE (nd I5 (nd fE (lf Hg) lF)<|nd tE (lf<|tN 1222 ["self","memory"])<|lf<|tN 1594 ["lines","layout","place","line"])<|nd (tN 541 ["self","bus","layout"]) (nd fE lF<|lf<|fT (f9 51) "_law_board")<|nd (fT (au 41 3) "Memory.need_aligned") lT .nil)<|nd tE (nd IY (nd (fT (au 33 5) "Tables.physical") (lf<|tN 1093 ["self","address","count","octet"])<|lf<|oC 1430 "own" "Pages.own" 619 2 3 825 true 181 826 (.ref 827) (.ref 828) (.ref 829) 1435 1436)<|nd (bP) (lf<|fT (au 43 4) "Bus.store") .nil)<|nd IB (nd (fT (au 33 14) "Tables.tables_of") (lf<|oC 1170 "size" "Rom.size" 475 1 3 633 true 181 634 (.ref 635) (.ref 636) (.ref 637) 1174 1175)<|lf F9)<|nd fE (lf<|fT (au 47 4) "Pages.need_held") .nil)
noncomputable def prune (n:Nat):BT->Nat->Nat->BT
 |.nil,_,_=>.nil
 |.node v l r,a,b=>match Nat.blt b n with
  |true=>.node v (prune n l (2*a)<|a+b) (prune n r (2*a)<|2*a+b)
  |false=>.nil
def jJ (P:Params)(n:Nat)(m:Value)(k e j t:Nat)(os:OsState):SharedT:=
 ⟨((prune n (Bt P) 1 0).set 3 λ_=>zP P m k e).set 12 λ_=>fV .none<|Dg.take j,n,(boot_heap P).life,Array.mk [],boot_drawn,t,os⟩
noncomputable abbrev gp:Env:={scope:=pw.main.scope,locals:=mainNs,globals:=mainNs,cells:=[],code:=.ref 13,frame:=some 14}
noncomputable abbrev topC:Code:=.body (behindTheImports pw) gp
noncomputable abbrev p0:Pos:=⟨0,0,0,0⟩
def c8 (i n:Nat):List Stmt:=(pw.main.body.drop i).take n
theorem dN {w:World}{n:Nat}{S:SharedT}{t:Thread}{r}(h:Fast.tw10110043849684766642 Fast.tw14364793385576792824 pw w 11 (some<|.ref 6) 1 n S t=r):segRunT treeTable pw w 11 (some<|.ref 6) 1 n S t=r:=by
 erw[Fast.te10110043849684766642,Fast.te14364793385576792824];rw[h]
theorem BG (w:World)(os:OsState):topGo treeTable pw w 11 (some<|.ref 6) 12 ⟨boot_heap w.params,Array.mk [],boot_drawn,boot_toks,os⟩ (topStub pw)=
 some ((jJ w.params 15 (vS "__main__" 164) 8 9 0 187 os).abs,⟨denote treeTable topC,topC,p0,[topFrame p0]⟩):=by
 erw[Fast.te15667345088766844465,Fast.te14364793385576792824,Fast.te11892475500146522536]
 kernel_rfl!
theorem Ed (w:World)(os:OsState):segRunT treeTable pw w 11 (some<|.ref 6) 1 1493 (jJ w.params 15 (vS "__main__" 164) 8 9 0 187 os) (piecesOf (c8 0 24) gp topC p0 [topFrame p0])=some (.next,(jJ w.params 106 (vS "pipeboard.paging" 337) 30 31 18 374 os),topC,⟨55,0,55,5⟩):=dN (by kernel_rfl!)
theorem Ec (w:World)(os:OsState):segRunT treeTable pw w 11 (some<|.ref 6) 1 195 (jJ w.params 106 (vS "pipeboard.paging" 337) 30 31 18 374 os) (piecesOf (c8 24 2) gp topC ⟨55,0,55,5⟩ [topFrame p0])=some (.next,(jJ w.params 108 (vS "pipeboard.paging" 337) 32 33 18 388 os),topC,⟨57,0,57,13⟩):=by
 revert w
 rw[byRow2 "special-get-raises" (λw=>dN<|by kernel_rfl!) λw=>dN<|by kernel_rfl!]
theorem Eb (w:World)(os:OsState):segRunT treeTable pw w 11 (some<|.ref 6) 1 1036 (jJ w.params 108 (vS "pipeboard.paging" 337) 32 33 18 388 os) (piecesOf (c8 26 7) gp topC ⟨57,0,57,13⟩ [topFrame p0])=some (.next,(jJ w.params 271 (vS "pipeboard.paging" 337) 39 40 36 628 os),topC,⟨113,0,159,16⟩):=dN (by kernel_rfl!)
theorem Ea (w:World)(os:OsState):segRunT treeTable pw w 11 (some<|.ref 6) 1 1046 (jJ w.params 271 (vS "pipeboard.paging" 337) 39 40 36 628 os) (piecesOf (c8 33 8) gp topC ⟨113,0,159,16⟩ [topFrame p0])=some (.next,(jJ w.params 445 (vS "pipeboard.memory" 876) 46 47 45 909 os),topC,⟨337,0,339,53⟩):=dN (by kernel_rfl!)
theorem D0 (w:World)(os:OsState):segRunT treeTable pw w 11 (some<|.ref 6) 1 962 (jJ w.params 445 (vS "pipeboard.memory" 876) 46 47 45 909 os) (piecesOf (c8 41 1) gp topC ⟨337,0,339,53⟩ [topFrame p0])=some (.next,(jJ w.params 619 (vS "pipeboard.memory" 876) 47 48 48 1150 os),topC,⟨340,0,469,100⟩):=dN (by kernel_rfl!)
theorem DZ (w:World)(os:OsState):segRunT treeTable pw w 11 (some<|.ref 6) 1 815 (jJ w.params 619 (vS "pipeboard.memory" 876) 47 48 48 1150 os) (piecesOf (c8 42 5) gp topC ⟨340,0,469,100⟩ [topFrame p0])=some (.next,(jJ w.params 726 (vS "pipeboard.pages" 1303) 51 52 54 1309 os),topC,⟨547,0,547,5⟩):=dN (by kernel_rfl!)
theorem DY (w:World)(os:OsState):segRunT treeTable pw w 11 (some<|.ref 6) 1 683 (jJ w.params 726 (vS "pipeboard.pages" 1303) 51 52 54 1309 os) (piecesOf (c8 47 1) gp topC ⟨547,0,547,5⟩ [topFrame p0])=some (.next,(jJ w.params 846 (vS "pipeboard.pages" 1303) 52 53 57 1461 os),topC,⟨548,0,623,17⟩):=dN (by kernel_rfl!)
theorem DX (w:World)(os:OsState):segRunT treeTable pw w 11 (some<|.ref 6) 1 480 (jJ w.params 846 (vS "pipeboard.pages" 1303) 52 53 57 1461 os) (piecesOf (c8 48 16) gp topC ⟨548,0,623,17⟩ [topFrame p0])=some (.next,⟨Bt w.params,941,(boot_heap w.params).life,Array.mk [],boot_drawn,1613,os⟩,topC,⟨744,0,780,78⟩):=dN (by kernel_rfl!)
def jl (P:Params):Heap:=absHeap (Bt P) 941 (boot_heap P).life
noncomputable abbrev S0 (P:Params)(os:OsState):Shared:=(jJ P 15 (vS "__main__" 164) 8 9 0 187 os).abs
theorem Fe (w:World)(os:OsState):segRun treeTable pw w 11 (some<|.ref 6) 1 1 (S0 w.params os) (blockOf (behindTheImports pw) gp topC p0 [topFrame p0])=some (.next,S0 w.params os,topC,p0):=by kernel_rfl!
theorem Pz (w:World)(os:OsState):topRun treeTable pw w 11 (some<|.ref 6) 2 ⟨jl w.params,Array.mk [],boot_drawn,1613,os⟩ ⟨doneF .next,topC,⟨744,0,780,78⟩,[topFrame p0]⟩=some ⟨jl w.params,Array.mk [],boot_drawn,1613,os⟩:=by kernel_rfl!
theorem xQ:opening pw=plainProg pw.main.scope.names:=by kernel_rfl!
theorem vg (s:Shared):fenceModules? pw s=some s:=by kernel_rfl!
theorem yv:behindTheImports pw=c8 0 24++(c8 24 2++(c8 26 7++(c8 33 8++(c8 41 1++(c8 42 5++(c8 47 1++(c8 48 16++[]))))))):=by kernel_rfl!
theorem BD (w:World)(os:OsState):topRun treeTable pw w 11 (some<|.ref 6) (12+(1+(1493+(195+(1036+(1046+(962+(815+(683+(480+2)))))))))) ⟨boot_heap w.params,Array.mk [],boot_drawn,boot_toks,os⟩ (topStub pw)=some ⟨jl w.params,Array.mk [],boot_drawn,1613,os⟩:=by
 rw[go_top (BG w os)<|piece_block (Fe w os) ?_];have h:topRun treeTable pw w 11 (some<|.ref 6) (1493+(195+(1036+(1046+(962+(815+(683+(480+2)))))))) (S0 w.params os) (restOf (c8 0 24++(c8 24 2++(c8 26 7++(c8 33 8++(c8 41 1++(c8 42 5++(c8 47 1++(c8 48 16++[])))))))) gp topC p0 [topFrame p0])=some ⟨jl w.params,Array.mk [],boot_drawn,1613,os⟩:=
  piece_app (segRun_of<|Ed w os) (piece_app (segRun_of<|Ec w os)<|piece_app (segRun_of<|Eb w os)<|piece_app (segRun_of<|Ea w os)<|piece_app (segRun_of<|D0 w os)<|piece_app (segRun_of<|DZ w os)<|piece_app (segRun_of<|DY w os)<|piece_app (segRun_of<|DX w os)<|piece_nil<|Pz w os)
 rw[<- yv] at h;rw[h]
theorem xP (w:World):(fencedOpening treeTable pw w 14000).map (λs=>(s.heap,s.gens,s.drawn,s.toks))=some (boot_heap w.params,Array.mk [],boot_drawn,boot_toks):=boot_open xQ ac vg w
theorem zd (w:World):((boot_heap w.params).isNs mainGlobals&&(Array.mk []:Array GenState).size==0,(boot_heap w.params).objs.size,(boot_heap w.params).nsMap mainGlobals "__annotations__")=(true,11,some<|.ref 6):=by kernel_rfl!
def pV:Program:=view pw [63]
def jB:List Str:=pw.boundNames.filter λn=> !(n==("law":Str))
noncomputable abbrev s1 (P:Params)(os:OsState):Shared:=⟨jl P,Array.mk [],boot_drawn,1613,os⟩
theorem ED (w:World)(os:OsState):(staticsOk (importedModules pw.main.body) (boot_heap w.params) (jl w.params)&&namesBound pw (jl w.params)&&gensDone (s1 w.params os)&&laidKept (boot_heap w.params) (jl w.params))=true:=by kernel_rfl!
theorem EC (w:World)(os:OsState):openSeen pV jB (importedModules pw.main.body) (λs=>recOk [] s) true (s1 w.params os)=openGood pV jB:=by
 erw[Fast.te4187177175401517315]
 kernel_rfl!
theorem z5:LeftO pw pV jB (λs=>recOk [] s) (λs=>s.heap) (λw=>jl w.params) 14000:=
 LeftO.of_pieces (H₀:=boot_heap) (H₁:=jl) (m₀:=11) (ann:=some<|.ref 6) xP zd BD ac λw=>by
  funext os
  rw[looks_pair (ED w os)<|looks_pair (EC w os) rfl]
noncomputable abbrev BC:OpenLaw:=PySem.Challenge.rw_tk0076_01
theorem zh:BC.wellSaid=true:=by
 erw[Fast.te9446332074065402090]
 delta Fast.tw9446332074065402090
 iterate 18 rw[look_both ?_<|by decide+kernel]
 delta Fast.tw17960256430627541270
 iterate 2 rw[look_both ?_<|by decide+kernel]
 delta Fast.tw2436336058641802641
 iterate 14 rw[look_both ?_<|by decide+kernel]
 iterate 4 rw[look_both ?_<|by decide+kernel]
 decide+kernel
def M7:DefRec:=⟨"law",Py<|f9 63,Al<|f9 63,mW<|f9 63,⟨744,0,780,78⟩⟩
theorem hd (call:WalkX pV jB (λ_ _=>True) (λs=>s.heap) (λw=>jl w.params) BC.row.toRowW M7 [] λf vs=>PySem.call f vs):BC.Holds:=by
 rw[holds_law zh λYF=>holds_openX (q:=pV) (loose:=jB) (Xt:=λs=>recOk [] s) (XP:=λ_ _=>True) (Yf:=λs=>s.heap) (Ya:=λw=>jl w.params) (N:=14000) z5 (λ_ _=>trivial) (λ_ _ _ _ _=>trivial) ?hdef ?hp ?hk (λs e=>recFacts_of e) rfl YF ?ok ⟨rfl,rfl,rfl,rfl,rfl,by decide+kernel⟩ ?hw call]
 case hdef=>kernel_rfl!
 case hp=>kernel_rfl!
 case hk=>kernel_rfl!
 case ok=>decide+kernel
 case hw=>rw[⟨[.list [.int 3]],by decide+kernel,by decide+kernel⟩]
def KK (P:Params):Frag:=[(3,zP P (vS "law_tk0076_01" 1461) 67 68),(2,boot_o_2 P),(39,Qy),(52,Qw),(71,Qu),(83,Qs),(103,Jj),(182,IZ),(266,Iw),(425,HA),(614,G4),(656,G2),(721,GR),(841,Gq),(38,Qz P),(51,Qx P),(70,Qv P),(82,Qt P),(102,Jk P),(181,I0 P),(265,Iz P),(424,HB P),(613,G5 P),(655,G3 P),(720,GS P),(840,Gr P),(106,Ji P),(107,Jh P),(430,Hz),(36,QA),(35,QB),(29,QC),(100,Jl),(99,Qp),(93,Qq),(122,Je),(121,Jf),(115,Jg),(129,Jc),(128,Jd),(137,I9),(136,Ja),(130,Jb),(144,I7),(143,I8),(158,I5),(157,I6),(172,I3),(171,I4),(179,I1),(178,I2),(191,IX),(190,IY),(198,IV),(197,IW),(205,IT),(204,IU),(212,IQ),(211,IS),(226,IM),(225,IP),(234,IJ),(233,IK),(227,IL),(241,IG),(240,II),(248,ID),(247,IF),(255,IA),(254,IB),(284,Iu),(283,Iv),(291,Iq),(290,Ir),(298,Io),(297,Ip),(306,Ik),(305,Il),(299,Im),(313,Ii),(312,Ij),(320,Ig),(319,Ih),(327,Ic),(326,Ie),(334,Ia),(333,Ib),(341,H8),(340,H9),(348,H6),(347,H7),(355,HY),(354,HZ),(362,HW),(361,HX),(370,HT),(369,HU),(363,HV),(377,HR),(376,HS),(384,HP),(383,HQ),(391,HN),(390,HO),(398,HL),(397,HM),(405,HJ),(404,HK),(410,HG),(409,HH),(417,HE),(416,HF),(422,HC),(421,HD),(444,Hx),(443,Hy),(459,Hu),(458,Hv),(452,Hw),(473,Hs),(472,Ht),(480,Hq),(479,Hr),(487,Ho),(486,Hp),(494,Hj),(493,Hl),(501,Hh),(500,Hi),(543,Hf),(542,Hg),(550,G8),(549,G9),(571,G6),(570,G7),(674,G0),(673,G1),(696,GX),(695,GY),(689,GZ),(704,GU),(703,GV),(697,GW),(740,GO),(739,GP),(733,GQ),(747,GL),(746,GN),(754,GJ),(753,GK),(761,GH),(760,GI),(768,GF),(767,GG),(775,GC),(774,GD),(782,GA),(781,GB),(789,Gy),(788,Gz),(796,Gw),(795,Gx),(824,Gs),(823,Gu),(850,Gn),(849,Gp),(857,Gl),(856,Gm),(864,Gj),(863,Gk),(871,Gh),(870,Gi),(878,Gf),(877,Gg),(883,Gd),(882,Ge),(890,Ga),(889,Gb),(895,F8),(894,F9),(902,F6),(901,F7),(909,F4),(908,F5),(916,F2),(915,F3),(923,F0),(922,F1),(930,FY),(929,FZ),(935,FU),(934,FW),(940,FQ),(939,FT)]
def zg (P:Params)(a:Nat):Option Obj:=match Nat.blt a 941 with
 |true=>match (Bt P).get a with
  |some o=>alive o
  |none=>none
 |false=>none
theorem zf {P:Params}{a:Nat}{o:Obj}(h:zg P a=some o):(jl P).get? a=some o:=by
 unfold zg at h
 split at h
 ·rename_i h1
  split at h
  ·rename_i o' h2
   rw[(abs_get (Nat.le_of_ble_eq_true h1) h2).trans h]
  ·cases h
 ·cases h
theorem ze (P:Params):(KK P).map (λp=>zg P p.1)=(KK P).map λp=>some p.2:=by kernel_rfl!
theorem NV (P:Params):(KK P).In<|jl P:=by
 have h:(KK P).map (λp=>(jl P).get? p.1)=(KK P).map λp=>some p.2:=by
  apply List.map_congr_left;intro p hp;rw[zf<|List.map_inj_left.mp (ze P) p hp]
 rw[Frag.in_of (as:=(KK P).map (·.1)) rfl (by erw[List.map_map];rw[h])]
section
variable {C:Nat}{x:Str}{y:V}{v:Value}
noncomputable def rD:List<|String×Value:=[("BoardError",.ref 39),("BadArgument",.ref 52),("BadAddress",.ref 71),("NoRoom",.ref 83),("Trap",.ref 103),("ENTRY",.int 4 339),("VALID",.int 1 341),("READ",.int 2 343),("WRITE",.int 4 345),("EXECUTE",.int 8 347),("USER",.int 16 349),("ACCESSED",.int 64 351),("DIRTY",.int 128 353),("LEAF",.int 10 355),("FLAG_BITS",.int 10 357),("FLAGS",.int 1023 362),("FLAG_NAMES",.str (Str.ofString "vrwxugad") 364),("DIGITS",.str (Str.ofString "0123456789abcdef") 366),("FETCH",.str (Str.ofString "fetch") 368),("LOAD",.str (Str.ofString "load") 370),("STORE",.str (Str.ofString "store") 372),("PAGE_FAULTS",.ref 106),("ACCESS_FAULTS",.ref 107),("USER_MODE",.int 0 388),("Layout",.ref 182),("eight_digits",.ref 191),("is_leaf",.ref 198),("is_sound",.ref 205),("may",.ref 212),("Walker",.ref 266),("Tables",.ref 425),("WORD",.int 4 878),("MASK",.int 4294967295 884),("SPACE",.int 4294967296 888),("SIZES",.ref 430),("need_stretch",.ref 444),("Memory",.ref 614),("Bus",.ref 721),("TAKEN",.int 5 1305),("FREED",.int 1 1307),("Pages",.ref 841),("_law_box",.ref 850),("_law_take",.ref 857),("_law_board",.ref 864),("_law_frame",.ref 871),("_law_flags",.ref 878),("_law_lone",.ref 883),("_law_deed",.ref 890),("_law_read",.ref 895),("_law_rebuilt",.ref 902),("_law_entries",.ref 909),("_law_access",.ref 916),("_law_look",.ref 923),("_law_goal",.ref 930),("_law_same",.ref 935)]
noncomputable def Ah (K:Frag)(x:String)(v:Value):Bool:=nsIn K mainGlobals (Str.ofString x)==some (some v)
theorem tM (P:Params):(rD.all λp=>Ah (KK P) p.1 p.2)=true:=by kernel_rfl!
noncomputable def Ag (x:Str):Option Value:=(rD.find? λp=>Str.ofString p.1==x).map (·.2)
theorem Px {P:Params}(h:Ag x=some v):nsIn (KK P) mainGlobals x=some (some v):=by
 obtain ⟨p,h1,rfl⟩:=Option.map_eq_some_iff.mp h;have e:Str.ofString p.1=x:=eq_of_beq<|List.find?_some (p:=λp:String×Value=>Str.ofString p.1==x) h1;clear h;subst e;rw[beq_iff_eq.mp<|List.all_eq_true.mp (tM P) p<|List.mem_of_find?_eq_some h1]
noncomputable def DP:Value->Option V
 |.int i _=>some (.int i)
 |.str s _=>some (.str s)
 |.ref a=>some (.atom<|.ref a)
 |_=>none
theorem Bq (h:DP v=some y):∀h,cz h v y:=by
 cases v with
 |int i t=>rw[sI h▸λ_=>.int _ _]
 |str s t=>rw[sI h▸λ_=>.str _ _]
 |ref a=>rw[sI h▸λ_=>.atom _]
 |_=>rw[aq h]
theorem wH {P:Params}{x:String}(i:Nat)(h:rD[i]?=some (x,v)):nsIn (KK P) mainGlobals (Str.ofString x)=some (some v):=
 beq_iff_eq.mp (List.all_eq_true.mp (tM P) (x,v)<|List.mem_of_getElem? h)
theorem g5 (P:Params):nsIn (KK P) mainGlobals (Str.ofString "BadArgument")=some (some<|.ref 52):=wH 1 rfl
theorem EU (P:Params):nsIn (KK P) mainGlobals (Str.ofString "Trap")=some (some<|.ref 103):=wH 4 rfl
noncomputable def wg:List<|Nat×String×Nat:=[(182,"parts",129),(182,"address",137),(182,"down",144),(182,"is_begin",158),(182,"entry",172),(182,"physical",179),(266,"translate",234),(266,"entry_at",241),(266,"large_page",248),(266,"mark",255),(425,"new_table",291),(425,"need_parts",298),(425,"walk",306),(425,"entry",313),(425,"physical",320),(425,"need_flags",327),(425,"need_page",334),(425,"map",341),(425,"map_large",348),(425,"need_place",355),(425,"unmap",362),(425,"change",370),(425,"move",377),(425,"tables_of",384),(425,"rows",391),(425,"rows_of",398),(425,"prune",405),(425,"leaves",410),(425,"free",417),(425,"text",422),(614,"need",473),(614,"need_aligned",480),(614,"word",487),(614,"put_word",494),(614,"keep",501),(614,"get",543),(614,"put",550),(614,"zero",571),(721,"load",696),(721,"store",704),(841,"address_of",747),(841,"is_page",754),(841,"holders",761),(841,"need_held",768),(841,"free_count",775),(841,"need_free",782),(841,"filled",789),(841,"take",796),(841,"give",824)]
noncomputable def sX (K:Frag)(C:Nat)(x:String)(f:Nat):Bool:=plainGet K C (Str.ofString x)&&findIn K (.ref C) (Str.ofString x)==some (some<|.ref f)&&isFn K (.ref f)&&keepIn K (.ref f)
theorem zG (P:Params):(wg.all λp=>sX (KK P) p.1 p.2.1 p.2.2)=true:=by kernel_rfl!
structure Bh (K:Frag)(C:Nat)(x:Str)(f:Nat):Prop where
 plain:plainGet K C x=true
 find:findIn K (.ref C) x=some (some<|.ref f)
 fn:isFn K (.ref f)=true
 keep:keepIn K (.ref f)=true
noncomputable def C9 (C:Nat)(x:Str):Option Nat:=(wg.find? λp=>p.1==C&&Str.ofString p.2.1==x).map (·.2.2)
theorem OA {P:Params}{f:Nat}(h:C9 C x=some f):Bh (KK P) C x f:=by
 obtain ⟨p,h1,rfl⟩:=Option.map_eq_some_iff.mp h;have e:=List.find?_some (p:=λp:Nat×String×Nat=>p.1==C&&Str.ofString p.2.1==x) h1;rw[Bool.and_eq_true,beq_iff_eq,beq_iff_eq] at e;clear h;obtain ⟨rfl,rfl⟩:=e;have:=List.all_eq_true.mp (zG P) p<|List.mem_of_find?_eq_some h1;unfold sX at this;simp only [Bool.and_eq_true,beq_iff_eq] at this;rw[⟨this.1.1.1,this.1.1.2,this.1.2,this.2⟩]
noncomputable def nA:List Nat:=[39,52,71,83,103,182,191,198,205,212,266,425,444,614,721,841,850,857,864,871,878,883,890,895,902,909,916,923,930,935]
theorem z8 (P:Params):(nA.all λa=>keepIn (KK P)<|.ref a)=true:=by kernel_rfl!
theorem wD {P:Params}{a:Nat}(h:nA.contains a=true):keepIn (KK P) (.ref a)=true:=
 List.all_eq_true.mp (z8 P) a (List.contains_iff_mem.mp h)
variable {a f:Addr}{c:Bool}{t:Expr}{fd:FuncData}{i j:Int}{ke:ji}{s5:List<|Str×Const}{s2:List<|Str×NameKind}{ats:List<|Str×V}{ts:List Expr}{body bs:List Stmt}{ps:List Str}{ds xs:List V}{us:List Value}{lo:Lo}{k:Lo->St->Prop}{m n:Nat}{pos:Pos}{p:Prop}{sc:Scope}{U:St}{D q:cN}{name:Str}{id:String}{P:Value->Prop}
inductive yz (U:St)(a C:Addr)(ats:List<|Str×V):Prop
 |mk (d:Addr) (h:U a=some (.inst C d ats))
noncomputable abbrev Dd (q:cN):cN:={q with K:=KK q.w.params}
theorem FL (vs:List Value):(List.range vs.length).map (λi=>vs.getD i Value.none)=vs:=List.ext_getElem (by erw[cD,List.length_range]) λi h1 h2=>by
 erw[List.getElem_map,List.getElem_range];rw[(List.getElem_eq_getD Value.none).symm]
theorem Dw (h:∀g:Nat->Value,bindArgs fd ⟨(List.range m).map g,[]⟩=pure (ps.zip<|(List.range m).map g)):mF D fd m ps []:=λs vs _ hl=>by
 have:=h λi=>vs.getD i Value.none;rw[<- hl,FL vs] at this;rw[⟨[],.nil,.of_eq<|af (List.append_nil ..) this⟩]
noncomputable def QV (fd:FuncData)(vs:List Value):{k:Option (Array Value)->Sem (List<|Str×Value)//bindArgs fd ⟨vs,[]⟩=seqItems? fd.defaults >>= k}:=⟨_,rfl⟩
theorem iD {T:Addr}{o:Obj}{items:Array Value}(hd:fd.defaults=.ref T)(ho:D.K.lookup T=some o)(hs:o.data=.seq items n)(hu:∀h,aM h us ds)
 (h:∀g:Nat->Value,(QV fd<|(List.range m).map g).1 (some items)=pure (ps.zip<|(List.range m).map g++us)):mF D fd m ps ds:=λs vs X hl=>by
 have:=h λi=>vs.getD i Value.none;rw[<- hl,FL vs] at this;rw[⟨us,hu _,.of_defaults hd (X _ _ ho) hs (QV fd vs).2 this⟩]
def CP:List<|Nat×List String:=[(182,["page_bits","level_bits","page","entries","large","end"]),(266,["bus","layout"]),(425,["memory","layout","pages"]),(614,["size","begin","end","words"]),(721,["memory","stretches"]),(841,["memory","begin","count","size","fill","untouched","given","held"])]
noncomputable def uh (C:Nat)(x:Str):Bool:=CP.any λp=>Nat.beq p.1 C&&p.2.any λy=>Str.ofString y==x
noncomputable def rX (K:Frag)(C:Nat)(x:Str):Bool:=plainGet K C x&&hasDictIn K C&&findIn K (.ref C) x==some none
theorem CO (P:Params):(CP.all λp=>p.2.all λy=>rX (KK P) p.1<|Str.ofString y)=true:=by kernel_rfl!
theorem qO {f:Nat->Str->Bool}(h:uh C x=true)(a:(CP.all λp=>p.2.all λy=>f p.1<|Str.ofString y)=true):f C x=true:=by
 right;obtain ⟨p,h1,h2⟩:=List.any_eq_true.mp h;obtain ⟨h3,h4⟩:=Bool.and_eq_true_iff.mp h2;obtain ⟨y,h5,h6⟩:=List.any_eq_true.mp h4;have:=List.all_eq_true.mp (List.all_eq_true.mp a p h1) y h5;rw[Nat.eq_of_beq_eq_true h3,eq_of_beq h6] at this;symm;rw[this]
theorem oa {P:Params}(h:uh C x=true):Bf (KK P) C x:=by
 have:=qO (f:=rX<|KK P) h<|CO P;unfold rX at this;simp only [Bool.and_eq_true,beq_iff_eq] at this;rw[⟨this.1.1,this.1.2,none,this.2,rfl⟩]
noncomputable def qY (K:Frag)(C:Nat)(x:Str):Bool:=findIn K (.ref C) "__setattr__"==some (some<|.builtin "object.__setattr__")&&plainOver K C&&takerIn K C x==some none&&hasDictIn K C
theorem Bx (P:Params):(CP.all λp=>p.2.all λy=>qY (KK P) p.1<|Str.ofString y)=true:=by kernel_rfl!
theorem os {P:Params}(h:uh C x=true):Bc (KK P) C x:=by
 have:=qO (f:=qY<|KK P) h<|Bx P;unfold qY at this;simp only [Bool.and_eq_true,beq_iff_eq] at this;rw[⟨this.1.1.1,this.1.1.2,this.1.2,this.2⟩]
theorem St.set_set {o o':bI}:(U.set a o).set a o'=U.set a o':=by
 funext b;unfold St.set;split<;>rfl
def NU:Lo->Lo->Prop
 |[],_=>True
 |p::r,m=>m.lookup p.1=some p.2/\NU r m
theorem Lo.bg {m:Lo}:∀{l:Lo},NU l m->l.le m
 |[],_=>λx v h=>by rw[aq h]
 |(y,u)::r,h=>λx v e=>by
  rw[List.lookup_cons] at e
  cases q:x==y with
  |true=>rw[q] at e;(replace e:=sI e;subst e);rw[af (eq_of_beq q) h.1]
  |false=>rw[q] at e;rw[Lo.bg h.2 x v e]
theorem nB {D:cN}{n:Nat}{sc:Scope}{t:Expr}{body:List Stmt}{Sj:Src}{k:Fl->Lo->St->Prop}(I:List V->Lo->St->Prop)
 (step:∀v r lo U,I (v::r) lo U->fF D n sc t v lo U (tF D n sc body (O7 Sj<|I r) k) gF) (fin:∀lo U,I [] lo U->k .next lo U):∀{items:List V} {lo:Lo} {U:St},I items lo U->Bl D n sc t body Sj items lo U k
 |[],lo,U,h=>fin lo U h
 |v::r,lo,U,h=>by
  have s:=step v r lo U h;intro c v' hc hs Sk SD i;rw[wpAny_mono (s c v' hc hs Sk SD i) (λ_ RT ⟨l,τ,RX,SX,q⟩=>⟨l,τ,RX,SX,?_⟩) λ_ _ z=>z,q.mono (λf WC Vl q=>?_) λ_ _ _ _ z=>z]
  cases f<;>first
   |exact q
   |(obtain ⟨UR,T6,a1,a2,a3,a4⟩:=q;exact ⟨UR,T6,a1,a2,a3,nB I step fin a4⟩)
theorem cF (h:i.natAbs<2^64):IntMulOk i j:=by
 rw[IntMulOk.of_left ?_];unfold Builtin.Int.intBits
 split
 ·decide
 ·rename_i z
  have:i.natAbs≠0:=λe=>z<|af (Int.natAbs_eq_zero.mp e) rfl;rw[(Nat.log2_lt this).mpr h]
theorem mul_r (h:j.natAbs<2^64):IntMulOk i j:=by
 rw[IntMulOk.of_right ?_];unfold Builtin.Int.intBits
 split
 ·decide
 ·rename_i z
  have:j.natAbs≠0:=λe=>z<|af (Int.natAbs_eq_zero.mp e) rfl;rw[(Nat.log2_lt this).mpr h]
theorem aN {A B:Prop}(hc:c=true)(h:A):if c=true then A else B:=af (if_pos hc) h
theorem az {A B:Prop}(hc:c=false)(h:B):if c=true then A else B:=af hc<|af (if_neg ac) h
theorem zx (h:c=true):(c==(BoolOp.Or==BoolOp.Or))=true:=by subst h;rfl
theorem jh (h:c=false):(c==(BoolOp.Or==BoolOp.Or))=false:=by subst h;rfl
theorem qQ (h:c=true):(c==(BoolOp.And==BoolOp.Or))=false:=by subst h;rfl
theorem yH (h:c=false):(c==(BoolOp.And==BoolOp.Or))=true:=by subst h;rfl
theorem dT [Decidable p] (h:p):decide p=true:=decide_eq_true h
theorem dF [Decidable p] (h:¬p):decide p=false:=decide_eq_false h
theorem neT (h:i≠j):(i !=j)=true:=bne_iff_ne.mpr h
theorem gH (h:i=j):(i !=j)=false:=by subst h;rw[bne_self_eq_false i]
theorem eqT (h:i=j):(i==j)=true:=beq_iff_eq.mpr h
theorem oX (h:i≠j):(i==j)=false:=beq_eq_false_iff_ne.mpr h
theorem n7 (h:c=false):(!c)=true:=by subst h;rfl
theorem gI (h:c=true):(!c)=false:=by subst h;rfl
theorem cC {x:V}{first:List V}{P:Value->List V->Prop}(h:MethW D n x name U (.builtin id) first)(hp:P (.builtin id) first):∃f first,MethW D n x name U f first/\dZ D f/\P f first:=⟨_,_,h,.inl ⟨_,rfl⟩,hp⟩
theorem A4 (h:k lo U):iF D n sc [] [] lo U k ke:=h
@[reducible] def Nr (D:cN) (n:Nat) (sc:Scope) (ts:List Expr) (xs:List V) (k:Lo->St->Prop) (ke:ji):Lo->St->Prop:=λRY RS=>iF D n sc ts xs RY RS k ke
theorem yw {x:V}(h:fF D n sc t x lo U (Nr D n sc ts xs k ke) ke):iF D n sc (t::ts) (x::xs) lo U k ke:=h
noncomputable def isNm:Expr->Bool
 |.Name .. =>true
 |_=>false
theorem gf {kk:Nat}(hl:(xs.length==ts.length&&ts.all isNm)=true)(hn:0<n)(h:iF D n sc ts xs lo U k ke):fF D n sc (.Tuple ts kk pos) (.tup xs) lo U k ke:=by
 obtain ⟨h1,h2⟩:=Bool.and_eq_true_iff.mp hl;rw[mz (.inl rfl) (beq_iff_eq.mp h1) h (λenv t ht r=>?_) hn];have:=List.all_eq_true.mp h2 t ht;clear ht;cases t<;>first|rfl|exact aA this
theorem Ef:(BoolOp.Or==BoolOp.And)=false:=rfl
theorem CT:(BoolOp.And==BoolOp.And)=true:=rfl
theorem zF {C d:Addr}{P:Value->List V->Prop}(ha:U a=some (.inst C d ats))(hl:ats.lookup name=none)
 (hm:Bh (KK q.w.params) C name f) (h:P (.ref f) [.ref a]):∃g first,MethW (Dd q) n (.ref a) name U g first/\dZ (Dd q) g/\P g first:=
 ⟨_,_,Ej ha hl hm.plain hm.find hm.fn,.inr<|.inr hm.keep,h⟩
theorem Cv {k:V->St->Prop}{ke:KE}(e:nsIn (KK q.w.params) mainGlobals x=some (some v))(hy:∀h,cz h v y)(hx:sc.names.lookup x=some .globalImplicit)(hd:(x==("__debug__":Str))=false)(h:k y U):bY (Dd q) n sc (.Name x pos) lo U k ke:=
 qB e hx hy h hd
theorem Ay {k:V->St->Prop}{ke:KE}(e:Ag x=some v)(hy:DP v=some y)(hx:sc.names.lookup x=some .globalImplicit)(hd:(x==("__debug__":Str))=false)(h:k y U):bY (Dd q) n sc (.Name x pos) lo U k ke:=
 qB (Px e) hx (Bq hy) h hd
theorem AM (hk:nA.contains f=true)(h:P<|.ref f):∃g,V.atom (.ref f)=.atom g/\dZ (Dd q) g/\P g:=⟨_,rfl,.inr<|.inr<|wD hk,h⟩
end
section
variable {f:Addr}{b:Bool}{k':Bool->St->Prop}{op:BoolOp}{ats:List<|Str×V}{args es:List Expr}{r:List Stmt}{ds xs:List V}{lo:Lo}{kl:Lo->St->Prop}{code:Nat}{o:Option NameKind}{pos:Pos}{B C:Prop}{sc:Scope}{U τ:St}{D:cN}{st:Stmt}{name:Str}{qual:String}{y:V}{k:V->St->Prop}{UH mod:Value}
inductive Stop (P:Prop):Prop
 |mk (h:P)
theorem Stop.get {P:Prop}(h:Stop P):P:=let ⟨h⟩:=h;h
structure En where
 q:cN
 n:Nat
 ke:ji
@[reducible] def En.x (c:En) (lo:Lo):KE:=k6 c.ke lo
abbrev KV:=En->Lo->V->St->Prop
abbrev KB:=En->Lo->Bool->St->Prop
abbrev KL:=En->Lo->List V->St->Prop
abbrev KA:=En->Lo->St->Prop
abbrev KS:=En->Fl->Lo->St->Prop
abbrev WV:=En->Lo->St->KV->Prop
abbrev WB:=En->Lo->St->KB->Prop
abbrev WL:=En->Lo->St->KL->Prop
abbrev WS:=En->Lo->St->KS->Prop
abbrev WA:=V->En->Lo->St->KA->Prop
def on {α:Type}(o:Option α)(A:α->Prop)(B:Prop):Prop:=match o with
 |some y=>A y
 |none=>B
theorem on.get {α:Type}{o:Option α}{A:α->Prop}{C:Prop}(h:on o A B)(f:∀y,o=some y->A y->C)(g:o=none->B->C):C:=by
 cases o with
 |none=>rw[g rfl h]
 |some y=>rw[f y rfl h]
def bn (b:Bool)(A B:Prop):Prop:=match b with
 |true=>A
 |false=>B
theorem bn.get {A C:Prop}(h:bn b A B)(f:b=true->A->C)(g:B->C):C:=by
 cases b with
 |true=>rw[f rfl h]
 |false=>rw[g h]
theorem bn.Nx {A C:Prop}(h:bn b A B)(f:b=true->A->C)(g:b=false->B->C):C:=by
 cases b with
 |true=>rw[f rfl h]
 |false=>rw[g rfl h]
noncomputable def oB (b:Bool){α:Type}(x:Option α):Option α:=match b with
 |true=>x
 |false=>none
theorem kR {α:Type}{x:Option α}{y:α}(h:oB b x=some y):b=true/\x=some y:=by
 cases b with
 |true=>rw[⟨rfl,h⟩]
 |false=>rw[aq h]
noncomputable def Dy:List String:=["len","range","min","max","sum","sorted","divmod","isinstance","enumerate","int","list","str","super","bool","dict","set","tuple","ValueError","Exception","abs","any","all","zip","reversed"]
theorem Ff (P:Params):(Dy.all λy=>nsIn (KK P) mainGlobals (Str.ofString y)==some none)=true:=by kernel_rfl!
noncomputable def Ry (x:Str):Option Value:=oB (Dy.any λy=>Str.ofString y==x)<|bootBuiltins x
noncomputable def Nv (o:Option NameKind):Bool:=match o with
 |some s=>Nat.beq s.ctorIdx (NameKind.ctorIdx .globalImplicit)
 |none=>false
theorem wG (h:Nv o=true):o=some .globalImplicit:=by
 cases o with
 |none=>rw[aA h]
 |some s=>cases s<;>first|rfl|exact aA h
noncomputable def EO (o:Option NameKind):Bool:=match o with
 |some s=>Nat.beq s.ctorIdx (NameKind.ctorIdx .local)||Nat.beq s.ctorIdx (NameKind.ctorIdx .cell)
 |none=>false
theorem wF (h:EO o=true):o=some .local\/o=some .cell:=by
 cases o with
 |none=>rw[aA h]
 |some s=>cases s<;>first|exact .inl rfl|exact .inr rfl|exact aA h
def Ou (sc:Scope)(x:Str):Option V:=oB (Nv<|sc.names.lookup x)<|((Ag x).bind DP).or<|(Ry x).map .atom
noncomputable def Nz (x:Str):Bool:=x==("__debug__":Str)||x==("__classdict__":Str)||x==("__name__":Str)
def T9 (sc:Scope)(lo:Lo)(x:Str):Option V:=oB (!Nz x)<|(lo.lookup x).or<|Ou sc x
noncomputable def vA:Const->Option V
 |.int i=>some (.int i)
 |.str s=>some (.str s)
 |.none=>some .none
 |.bool b=>some (.bool b)
 |_=>none
def wW:Value->Bool
 |.builtin _=>true
 |.type _=>true
 |.ref a=>nA.contains a
 |_=>false
noncomputable def noStar (e:Expr):Bool:= !Nat.beq e.ctorIdx 22
noncomputable def n9 (e:Expr):Bool:= !Nat.beq e.ctorIdx 16
noncomputable def rj (e:Expr):Bool:= !Nat.beq e.ctorIdx 26
noncomputable def kT (e:Expr):Bool:= !(Nat.beq e.ctorIdx 8||Nat.beq e.ctorIdx 9||Nat.beq e.ctorIdx 10)
noncomputable def uI (t e:Expr):Bool:=Nat.beq t.ctorIdx 20||Nat.beq t.ctorIdx 21||Nat.beq t.ctorIdx 23||(Nat.beq t.ctorIdx 25&& !Nat.beq e.ctorIdx 25)
noncomputable def kids:Expr->List Expr
 |.BinOp l _ r _=>[l,r]
 |.UnaryOp _ x _=>[x]
 |.BoolOp _ es _=>es
 |.IfExp t b o _=>[t,b,o]
 |.Compare l _ es _=>l::es
 |.Call f es _ _=>f::es
 |.Attribute o _ _=>[o]
 |.Subscript o i _=>[o,i]
 |.List es _=>es
 |.Tuple es _ _=>es
 |_=>[]
noncomputable def kF:List Expr->Expr
 |[]=>.Constant .none 0 ⟨0,0,0,0⟩
 |e::_=>e
def BO (es:List Expr):Expr:=kF es.tail
noncomputable def sE:Stmt->List Expr
 |.Return (some e) _=>[e]
 |.Expr e _=>[e]
 |.Assign ts e _=>e::ts
 |.If t _ _ _=>[t]
 |_=>[]
noncomputable def sA:Stmt->List Stmt
 |.If _ a _ _=>a
 |_=>[]
noncomputable def sB:Stmt->List Stmt
 |.If _ _ b _=>b
 |_=>[]
noncomputable def hdS:List Stmt->Stmt
 |[]=>.Pass ⟨0,0,0,0⟩
 |s::_=>s
def cW {K:Type}(W:V->En->Lo->St->K->Prop)(k:K)(c:En)(lo:Lo)(x:V)(U:St):Prop:=W x c lo U k
def PL {K:Type}(A B:En->Lo->St->K->Prop)(k:K)(c:En)(lo:Lo)(b:Bool)(U:St):Prop:=Stop<|if b=true then A c lo U k else B c lo U k
def NK (k:KL)(x:V)(c:En)(lo:Lo)(xs:List V)(U:St):Prop:=k c lo (x::xs) U
def Du (W:WL)(k:KL)(c:En)(lo:Lo)(x:V)(U:St):Prop:=W c lo U<|NK k x
def PJ (k:KB)(c:En)(lo:Lo)(b:Bool)(U:St):Prop:=k c lo (!b) U
def PV (W:WV)(op:BoolOp)(x:V)(k:KV)(c:En)(lo:Lo)(b:Bool)(U:St):Prop:=Stop<|if (b==(op== .Or))=true then k c lo x U else W c lo U k
def Rv (W:WB)(op:BoolOp)(k:KB)(c:En)(lo:Lo)(b:Bool)(U:St):Prop:=Stop<|if (b==(op== .Or))=true then k c lo b U else W c lo U k
def PT (W:V->WV)(y z:V)(k:KV)(c:En)(lo:Lo)(b:Bool)(U:St):Prop:=Stop<|if b=true then W y c lo U k else k c lo z U
def PR (W:V->WB)(y:V)(k:KB)(c:En)(lo:Lo)(b:Bool)(U:St):Prop:=Stop<|if b=true then W y c lo U k else k c lo false U
def NJ (k:KV)(c:En)(lo:Lo)(xs:List V)(U:St):Prop:=Stop<|QX (k c lo) xs U
def NC (k:KV)(c:En)(lo:Lo)(xs:List V)(U:St):Prop:=Stop<|QW (k c lo) xs U
structure W3 where
 ok:Lo->Bool
 e:WV
 t:WB
 c:List Expr->Pos->WV
 a:WA
def Ds (op:Operator)(x:V)(k:KV)(c:En)(lo:Lo)(y:V)(U:St):Prop:=match x with
 |.int i=>match y with
  |.int j=>match op with
   |.Add=>k c lo (.int<|i+j) U
   |.Sub=>k c lo (.int<|i-j) U
   |.BitAnd=>k c lo (.int<|Builtin.bitAnd i j) U
   |.BitOr=>k c lo (.int<|Builtin.bitOr i j) U
   |op=>Stop (jg (Dd c.q) c.n op (.int i) (.int j) U (k c lo)<|c.x lo)
  |y=>Stop (jg (Dd c.q) c.n op (.int i) y U (k c lo)<|c.x lo)
 |x=>Stop (jg (Dd c.q) c.n op x y U (k c lo)<|c.x lo)
def PX (W:WV)(op:Operator)(k:KV)(c:En)(lo:Lo)(x:V)(U:St):Prop:=W c lo U<|Ds op x k
def QT (op:UnaryOp)(k:KV)(c:En)(lo:Lo)(x:V)(U:St):Prop:=Stop<|Oe (Dd c.q) c.n op x U (k c lo)<|c.x lo
def vE (k:KB)(c:En)(lo:Lo)(x:V)(U:St):Prop:=match x with
 |.bool b=>k c lo b U
 |.int i=>k c lo (i !=0) U
 |.none=>k c lo false U
 |x=>Stop (pH (Dd c.q) c.n x U (k c lo)<|c.x lo)
def Rw (W:WV)(op:BoolOp)(k:KV)(c:En)(lo:Lo)(x:V)(U:St):Prop:=vE (PV W op x k) c lo x U
def NL (o:CmpOp)(x:V)(k:KV)(c:En)(lo:Lo)(y:V)(U:St):Prop:=Stop<|cZ (Dd c.q) c.n o x y U (k c lo)<|c.x lo
def PU (W:V->WV)(y:V)(k:KV)(c:En)(lo:Lo)(z:V)(U:St):Prop:=vE (PT W y z k) c lo z U
def PS (W:V->WV)(o:CmpOp)(x:V)(k:KV)(c:En)(lo:Lo)(y:V)(U:St):Prop:=Stop<|cZ (Dd c.q) c.n o x y U (PU W y k c lo)<|c.x lo
def PO (W:V->WB)(o:CmpOp)(x:V)(k:KB)(c:En)(lo:Lo)(y:V)(U:St):Prop:=Stop<|cZ (Dd c.q) c.n o x y U (vE (PR W y k) c lo)<|c.x lo
def NN (Sf:Str)(k:KV)(c:En)(lo:Lo)(x:V)(U:St):Prop:=Stop<|vL (Dd c.q) c.n x Sf U (k c lo)<|c.x lo
def ND (value slice:Expr)(x:V)(k:KV)(c:En)(lo:Lo)(y:V)(U:St):Prop:=Stop<|r7 (Dd c.q) c.n value slice x y U (k c lo)<|c.x lo
def NF (W:WV)(value slice:Expr)(k:KV)(c:En)(lo:Lo)(x:V)(U:St):Prop:=W c lo U<|ND value slice x k
def AZ (f:Value)(k:KV)(c:En)(lo:Lo)(xs:List V)(U:St):Prop:=Stop<|bN (Dd c.q) c.n f xs U (k c lo)<|c.x lo
def Dr (f:Value)(first:List V)(k:KV)(c:En)(lo:Lo)(xs:List V)(U:St):Prop:=Stop<|bN (Dd c.q) c.n f (first++xs) U (k c lo)<|c.x lo
def QU (W:WL)(k:KV)(c:En)(lo:Lo)(y:V)(U:St):Prop:=match y with
 |.atom f=>bn (wW f) (W c lo U<|AZ f k) (Stop<|dZ (Dd c.q) f/\W c lo U (AZ f k))
 |_=>False
def AY (W:WL)(k:KV)(c:En)(lo:Lo)(U:St)(f:Value)(first:List V):Prop:=W c lo U<|Dr f first k
def Dq (W:WL)(name:Str)(k:KV)(c:En)(lo:Lo)(y:V)(U:St):Prop:=Stop (∃f first,MethW (Dd c.q) c.n y name U f first/\dZ (Dd c.q) f/\AY W k c lo U f first)
def NH (Sf:Str)(x:V)(k:KA)(c:En)(lo:Lo)(y:V)(U:St):Prop:=Stop<|gV (Dd c.q) c.n y Sf x U (k c lo)<|c.x lo
def E8 (y x:V)(k:KA)(c:En)(lo:Lo)(z:V)(U:St):Prop:=Stop<|r8 (Dd c.q) c.n y z x U (k c lo)<|c.x lo
def NG (W:WV)(x:V)(k:KA)(c:En)(lo:Lo)(y:V)(U:St):Prop:=W c lo U<|E8 y x k
def Rx (W:List V->En->Lo->St->KA->Prop)(xs:List V)(k:KA)(c:En)(lo:Lo)(U:St):Prop:=W xs c lo U k
def PI (k:KS)(c:En)(lo:Lo)(x:V)(U:St):Prop:=k c (.ret x) lo U
def NI (k:KS)(c:En)(lo:Lo)(_:V)(U:St):Prop:=k c .next lo U
def PK (k:KS)(c:En)(lo:Lo)(U:St):Prop:=k c .next lo U
abbrev MT:=Expr->W3
section
variable (sc:Scope)
def Bm (e:Expr)(c:En)(lo:Lo)(U:St)(k:KV):Prop:=Stop<|bY (Dd c.q) c.n sc e lo U (k c lo)<|c.x lo
def Qo (e:Expr)(c:En)(lo:Lo)(U:St)(k:KB):Prop:=Stop<|kI (Dd c.q) c.n sc e lo U (k c lo)<|c.x lo
def FJ (e:Expr)(args:List Expr)(pos:Pos)(c:En)(lo:Lo)(U:St)(k:KV):Prop:=Stop<|bY (Dd c.q) c.n sc (.Call e args [] pos) lo U (k c lo)<|c.x lo
def Ft (e:Expr)(x:V)(c:En)(lo:Lo)(U:St)(k:KA):Prop:=Stop<|fF (Dd c.q) c.n sc e x lo U (k c) c.ke
def N8 (s:Stmt)(c:En)(lo:Lo)(U:St)(k:KS):Prop:=Stop<|eU (Dd c.q) c.n sc s lo U (k c) c.ke
def DN (M:MT)(_:Nat)(W:List Expr->WL)(es:List Expr)(c:En)(lo:Lo)(U:St)(k:KL):Prop:=match es with
 |[]=>k c lo [] U
 |e::_=>bn (noStar e) (bn (Nat.beq e.ctorIdx 5) (Bm sc (kF es) c lo U<|Du (W es.tail) k)<|(M<|kF es).e c lo U<|Du (W es.tail) k) (Stop<|gc (Dd c.q) c.n sc es lo U (k c lo)<|c.x lo)
def DO (es:List Expr)(c:En)(lo:Lo)(U:St)(k:KL):Prop:=Stop<|gc (Dd c.q) c.n sc es lo U (k c lo)<|c.x lo
def kK (M:MT)(f:Nat):List Expr->WL:=Nat.rec (DO sc) (DN sc M) f
def Om (M:MT)(op:BoolOp)(_:Nat)(W:List Expr->WV)(es:List Expr)(c:En)(lo:Lo)(U:St)(k:KV):Prop:=match es with
 |[]=>False
 |_::r=>match r with
  |[]=>(M<|kF es).e c lo U k
  |_::_=>(M<|kF es).e c lo U (Rw (W es.tail) op k)
def Qk (M:MT)(op:BoolOp)(f:Nat):List Expr->WV:=Nat.rec (λ_ _ _ _ _=>False) (Om M op) f
def Ol (M:MT)(op:BoolOp)(_:Nat)(W:List Expr->WB)(es:List Expr)(c:En)(lo:Lo)(U:St)(k:KB):Prop:=match es with
 |[]=>k c lo (op== .And) U
 |_::_=>(M<|kF es).t c lo U (Rv (W es.tail) op k)
def Qj (M:MT)(op:BoolOp)(f:Nat):List Expr->WB:=Nat.rec (λ_ _ _ _ _=>False) (Ol M op) f
def Oj (M:MT):List CmpOp->List Expr->V->WV
 |[],_,_,_,_,_,_=>False
 |o::os,es,x,c,lo,U,k=>match es with
  |[]=>False
  |_::U5=>match os with
   |[]=>match U5 with
    |[]=>(M<|kF es).e c lo U (NL o x k)
    |_::_=>False
   |_::_=>match U5 with
    |[]=>False
    |_::_=>(M<|kF es).e c lo U (PS (Oj M os es.tail) o x k)
def Oi (M:MT):List CmpOp->List Expr->V->WB
 |[],_,_,_,_,_,_=>False
 |o::os,es,x,c,lo,U,k=>match es with
  |[]=>False
  |_::U5=>match os with
   |[]=>match U5 with
    |[]=>(M<|kF es).e c lo U (NL o x<|vE k)
    |_::_=>False
   |_::_=>match U5 with
    |[]=>False
    |_::_=>(M<|kF es).e c lo U (PO (Oi M os es.tail) o x k)
def Oo (M:MT)(_:Nat)(W:List Expr->List V->En->Lo->St->KA->Prop)(ts:List Expr)(xs:List V)(c:En)(lo:Lo)(U:St)(k:KA):Prop:=match ts with
 |[]=>match xs with
  |[]=>k c lo U
  |_::_=>False
 |_::_=>match xs with
  |[]=>False
  |x::xs=>(M<|kF ts).a x c lo U (Rx (W ts.tail) xs k)
def Ql (M:MT)(f:Nat):List Expr->List V->En->Lo->St->KA->Prop:=Nat.rec (λ_ _ _ _ _ _=>False) (Oo M) f
def Qh (M:MT)(e:Expr)(x:V)(c:En)(lo:Lo)(U:St)(k:KA):Prop:=match x with
 |.tup xs=>match c.n with
  |0=>Ft sc e x c lo U k
  |_+1=>bn ((kids e).all noStar&&Nat.beq xs.length (kids e).length) (Ql M 12 (kids e) xs c lo U k) (Ft sc e x c lo U k)
 |x=>Ft sc e x c lo U k
noncomputable def yes (_:Lo):Bool:=true
noncomputable def w0 (e:Expr):W3:=⟨λ_=>false,Bm sc e,Qo sc e,FJ sc e,Ft sc e⟩
def cT (A:WV)(c:En)(lo:Lo)(U:St)(k:KB):Prop:=A c lo U<|vE k
noncomputable def wV (e:Expr)(ok:Lo->Bool)(A:WV):W3:=⟨ok,A,cT A,FJ sc e,Ft sc e⟩
def Oh (e:Expr)(x:Str):WV:=λc lo U k=>on (T9 sc lo x) (λy=>k c lo y U)<|Bm sc e c lo U k
def Qi (M:MT)(e:Expr):W3:=match e with
 |.Name x _=>⟨λlo=>(T9 sc lo x).isSome,Oh sc e x,cT<|Oh sc e x,
   λargs pos c lo U k=>bn (args.all noStar) (on (T9 sc lo x) (λy=>QU (kK sc M 12 args) k c lo y U)<|FJ sc e args pos c lo U k)<|FJ sc e args pos c lo U k,
   λx' c lo U k=>bn (EO<|sc.names.lookup x) (k c (lo.put x x') U)<|Ft sc e x' c lo U k⟩
 |.Constant cc _ _=>wV sc e (λ_=>(vA cc).isSome) λc lo U k=>on (vA cc) (λy=>k c lo y U)<|Bm sc e c lo U k
 |.BinOp _ op _ _=>wV sc e yes λc lo U k=>(M<|kF<|kids e).e c lo U<|PX (M<|BO<|kids e).e op k
 |.UnaryOp op _ _=>{wV sc e yes λc lo U k=>(M<|kF<|kids e).e c lo U (QT op k) with t:=λc lo U k=>bn (Nat.beq op.ctorIdx<|UnaryOp.ctorIdx .Not) ((M<|kF<|kids e).t c lo U<|PJ k)<|(M<|kF<|kids e).e c lo U<|QT op<|vE k}
 |.BoolOp op _ _=>{wV sc e yes (Qk M op 12<|kids e) with t:=Qj M op 12<|kids e}
 |.IfExp _ _ _ _=>{wV sc e yes λc lo U k=>(M<|kF<|kids e).t c lo U (PL (M<|BO<|kids e).e (M<|BO (kids e).tail).e k) with t:=λc lo U k=>(M<|kF<|kids e).t c lo U<|PL (M<|BO<|kids e).t (M<|BO (kids e).tail).t k}
 |.Compare _ os es _=>{wV sc e (λ_=> !lastMarks os es) λc lo U k=>bn (lastMarks os es) (Bm sc e c lo U k) ((M<|kF<|kids e).e c lo U<|cW (Oj M os (kids e).tail) k) with
   t:=λc lo U k=>bn (lastMarks os es) (Qo sc e c lo U k)<|(M<|kF<|kids e).e c lo U<|cW (Oi M os (kids e).tail) k}
 |.Call _ args kws pos=>wV sc e (λlo=>(M<|kF<|kids e).ok lo&&args.all noStar&&kws.isEmpty) λc lo U k=>bn kws.isEmpty ((M<|kF<|kids e).c (kids e).tail pos c lo U k)<|Bm sc e c lo U k
 |.Attribute o Sf Ug=>{wV sc e (λ_=>n9 o) λc lo U k=>bn (n9 o) ((M<|kF<|kids e).e c lo U<|NN Sf k) (Bm sc e c lo U k) with
   c:=λargs pos c lo U k=>bn (n9 o&&Nat.beq Ug.endLine pos.line&&args.all noStar&&Nat.blt args.length 30) ((M<|kF<|kids e).e c lo U<|Dq (kK sc M 12 args) Sf k)<|FJ sc e args pos c lo U k,
   a:=λx c lo U k=>(M<|kF<|kids e).e c lo U<|NH Sf x k}
 |.Subscript _ i _=>{wV sc e (λ_=>rj i) λc lo U k=>bn (rj i) ((M<|kF<|kids e).e c lo U<|NF (M<|BO<|kids e).e (kF<|kids e) (BO<|kids e) k) (Bm sc e c lo U k) with
   a:=λx c lo U k=>(M<|kF<|kids e).e c lo U<|NG (M<|BO<|kids e).e x k}
 |.List _ _=>wV sc e yes λc lo U k=>kK sc M 12 (kids e) c lo U<|NJ k
 |.Tuple _ _ _=>{wV sc e yes λc lo U k=>kK sc M 12 (kids e) c lo U (NC k) with a:=Qh sc M e}
 |e=>w0 sc e
def Q4 (_:Nat)(M:MT):MT:=Qi sc M
def wM (f:Nat):MT:=Nat.rec (w0 sc) (Q4 sc) f
def Ru (W:WS)(k:KS)(c:En)(fl:Fl)(lo:Lo)(U:St):Prop:=match fl with
 |.next=>W c lo U k
 |fl=>k c fl lo U
def CK (k:Fl->Lo->St->Prop)(_:En)(fl:Fl)(lo:Lo)(U:St):Prop:=Stop<|k fl lo U
def PM (k:Lo->St->Prop)(_:En)(lo:Lo)(U:St):Prop:=Stop<|k lo U
def PN {α:Type}(k:α->St->Prop)(_:En)(_:Lo)(x:α)(U:St):Prop:=Stop<|k x U
structure W2 where
 ok:Bool
 s:WS
noncomputable def wS (M:MT)(X:List Stmt->WS)(s:Stmt):W2:=match s with
 |.Pass _=>⟨true,λc lo U k=>k c .next lo U⟩
 |.Continue _=>⟨true,λc lo U k=>k c .cont lo U⟩
 |.Return e _=>⟨true,match e with
  |some _=>λc lo U k=>(M<|kF<|sE s).e c lo U<|PI k
  |none=>λc lo U k=>k c (.ret .none) lo U⟩
 |.Expr e _=>⟨kT e,λc lo U k=>bn (kT e) ((M<|kF<|sE s).e c lo U<|NI k)<|N8 sc s c lo U k⟩
 |.Assign ts e _=>match ts with
  |[]=>⟨false,N8 sc s⟩
  |t::r=>⟨r.isEmpty&&(kT e&&uI t e),λc lo U k=>bn (r.isEmpty&&(kT e&&uI t e)) ((M<|kF<|sE s).e c lo U<|cW (M<|BO<|sE s).a<|PK k)<|N8 sc s c lo U k⟩
 |.If _ _ _ _=>⟨true,λc lo U k=>(M<|kF<|sE s).t c lo U<|PL (X<|sA s) (X<|sB s) k⟩
 |s=>⟨false,N8 sc s⟩
def Q5 (M:MT)(X:List Stmt->WS)(_:Nat)(W:List Stmt->WS)(ss:List Stmt)(c:En)(lo:Lo)(U:St)(k:KS):Prop:=match ss with
 |[]=>k c .next lo U
 |_::r=>match r with
  |[]=>(wS sc M X<|hdS ss).s c lo U k
  |_::_=>(wS sc M X<|hdS ss).s c lo U (Ru (W ss.tail) k)
def Qg (ss:List Stmt)(c:En)(lo:Lo)(U:St)(k:KS):Prop:=Stop<|lO (Dd c.q) c.n sc ss lo U (k c) c.ke
def wL (M:MT)(X:List Stmt->WS)(f:Nat):List Stmt->WS:=Nat.rec (Qg sc) (Q5 sc M X) f
def Q3 (_:Nat)(X:List Stmt->WS):List Stmt->WS:=wL sc (wM sc 40) X 60
def wX (f:Nat):List Stmt->WS:=Nat.rec (Qg sc) (Q3 sc) f
end
section
variable {q:cN}{n:Nat}{ke:KE}{sc:Scope} 
theorem CA {x:Str}(h:Nz x=false):(x==("__debug__":Str))=false/\(x==("__classdict__":Str))=false/\(x==("__name__":Str))=false:=by
 obtain ⟨h1,h3⟩:=Bool.or_eq_false_iff.mp h;obtain ⟨h1,h2⟩:=Bool.or_eq_false_iff.mp h1;rw[⟨h1,h2,h3⟩]
theorem sW {x:Str}{k:V->St->Prop}(h:T9 sc lo x=some y)(hk:k y U):bY (Dd q) n sc (.Name x pos) lo U k ke:=by
 right;obtain ⟨hd,h⟩:=kR h;obtain ⟨d1,d2,d3⟩:=CA<|Bool.not_eq_true' _▸hd;symm;rcases Option.or_eq_some_iff.mp h with e|⟨_,h⟩
 ·rw[Ct e hk d1 d2]
 ·obtain ⟨hs,h⟩:=kR h;rcases Option.or_eq_some_iff.mp h with e|⟨_,h⟩
  ·right;obtain ⟨v,e,h⟩:=Option.bind_eq_some_iff.mp e;symm;rw[Ay e h (wG hs) d1 hk]
  ·right;obtain ⟨v,hv,rfl⟩:=Option.map_eq_some_iff.mp h;obtain ⟨hb,hv⟩:=kR hv;obtain ⟨z,hz,ez⟩:=List.any_eq_true.mp hb;have e1:=beq_iff_eq.mp<|List.all_eq_true.mp (Ff q.w.params) z hz;rw[eq_of_beq ez] at e1;symm;rw[vp e1 hv (wG hs) hk (λw=>ir<|(beq_iff_eq.mpr w).symm.trans d3) d1]
theorem ym {c:Const}{t:Nat}{k:V->St->Prop}(h:vA c=some y)(hk:k y U):bY (Dd q) n sc (.Constant c t pos) lo U k ke:=by
 cases c<;>first
  |exact aq h
  |(obtain rfl:=sI h;first|exact EZ hk|exact vo hk|exact Cs hk|exact Cw hk)
theorem vB {f:Value}(h:wW f=true):dZ (Dd q) f:=by
 cases f<;>first
  |exact aA h
  |exact .inl ⟨_,rfl⟩
  |exact .inr (.inl ⟨_,rfl⟩)
  |exact .inr (.inr (wD h))
theorem cZ.mono {o:CmpOp}{x:V}{k k':V->St->Prop}(h:cZ D n o x y U k ke)(hk:∀b τ,k b τ->k' b τ):cZ D n o x y U k' ke:=λc lo a b hc=>(h c lo a b hc).mono hk λ_ _ _ z=>z
theorem pH.mono {x:V}{k:Bool->St->Prop}(h:pH D n x U k ke)(hk:∀b τ,k b τ->k' b τ):pH D n x U k' ke:=λc lo a hc=>(h c lo a hc).mono hk λ_ _ _ z=>z
theorem kI.bS {e:Expr}{k:Bool->St->Prop}(h:kI D n sc e lo U k ke)(hk:∀b τ,k b τ->k' b τ):kI D n sc e lo U k' ke:=λc hc hs=>(h c hc hs).mono hk λ_ _ _ z=>z
theorem bY.bS {e:Expr}{k k':V->St->Prop}(h:bY D n sc e lo U k ke)(hk:∀b τ,k b τ->k' b τ):bY D n sc e lo U k' ke:=h.mono hk λ_ _ _ z=>z
theorem gc.bS {k k':List V->St->Prop}(h:gc D n sc es lo U k ke)(hk:∀b τ,k b τ->k' b τ):gc D n sc es lo U k' ke:=λC pos hc hs=>(h C pos hc hs).mono hk λ_ _ _ z=>z
theorem A0 {c:En}{op:Operator}{x:V}{k:KV}(h:Ds op x k c lo y U):jg (Dd c.q) c.n op x y U (k c lo)<|c.x lo:=by
 cases x<;>first
  |exact h.get
  |(cases y<;>first
     |exact h.get
     |(cases op<;>first|exact h.get|exact NQ h|exact NO h|exact NP h|exact PY h))
theorem j0 {c:En}{x:V}{k:KB}(h:vE k c lo x U):pH (Dd c.q) c.n x U (k c lo)<|c.x lo:=by
 cases x<;>first|exact h.get|exact yY h|exact C2 h|exact yX h
theorem iV {c:Prop} [Decidable c] {A A' B':Prop}(h:if c then A else B)(f:A->A')(g:B->B'):if c then A' else B':=by
 by_cases z:c
 ·rw[if_pos z] at h ⊢;rw[f h]
 ·rw[if_neg z] at h ⊢;rw[g h]
end
section
variable {sc:Scope}
structure P6 (sc:Scope)(x:Expr)(w:W3):Prop where
 e:∀{c lo U k},w.e c lo U k->bY (Dd c.q) c.n sc x lo U (k c lo) (c.x lo)
 t:∀{c lo U k},w.t c lo U k->kI (Dd c.q) c.n sc x lo U (k c lo) (c.x lo)
 c:∀{args pos c lo U k},w.c args pos c lo U k->bY (Dd c.q) c.n sc (.Call x args [] pos) lo U (k c lo) (c.x lo)
 a:∀{v c lo U k},w.a v c lo U k->fF (Dd c.q) c.n sc x v lo U (k c) c.ke
abbrev xh (sc:Scope)(M:MT):Prop:=∀e,P6 sc e<|M e
variable {M:MT}{c:En} 
theorem ig (hM:xh sc M)(f:Nat):∀{es:List Expr} {c:En} {lo:Lo} {U:St} {k:KL},kK sc M f es c lo U k->gc (Dd c.q) c.n sc es lo U (k c lo) (c.x lo):=by
 induction f with
 |zero=>rw[Stop.get]
 |succ f ih=>
  intro es c lo U k h
  cases es with
  |nil=>rw[args_nil h]
  |cons e es=>rw[bn.get h (λhs h=>args_cons (((show bn _ _ _ from h).get (λ_=>Stop.get) (hM e).e).bS λx τ z=>ih z) (by clear h;cases e<;>first|exact λ_=>rfl|exact aA hs)) Stop.get]
theorem DL (hM:xh sc M)(f:Nat):∀{es:List Expr} {c:En} {lo:Lo} {U:St} {k:KV},Qk M op f es c lo U k->N6 (Dd c.q) c.n sc op es lo U (k c lo) (c.x lo):=by
 induction f with
 |zero=>rw[False.elim]
 |succ f ih=>
  intro es c lo U k h
  cases es with
  |nil=>rw[h.elim]
  |cons e es=>
   cases es with
   |nil=>rw[Fd<|(hM e).e h]
   |cons e' r=>rw[CM<|((hM e).e h).bS λx τ z=>(j0 z).mono λb υ w=>iV w.get id ih]
theorem DK (hM:xh sc M)(f:Nat):∀{es:List Expr} {c:En} {lo:Lo} {U:St} {k:KB},Qj M op f es c lo U k->N5 (Dd c.q) c.n sc op es lo U (k c lo) (c.x lo):=by
 induction f with
 |zero=>rw[False.elim]
 |succ f ih=>
  intro es c lo U k h
  cases es with
  |nil=>rw[Fb h]
  |cons e es=>rw[CL<|((hM e).t h).bS λb υ w=>iV w.get id ih]
theorem DJ (hM:xh sc M):∀{os:List CmpOp} {es:List Expr} {x:V} {c:En} {lo:Lo} {U:St} {k:KV},Oj M os es x c lo U k->N4 (Dd c.q) c.n sc os es x lo U (k c lo) (c.x lo):=λ{os}=>by
 induction os with
 |nil=>rw[λh=>h.elim]
 |cons o os ih=>
  intro es x c lo U k h
  cases es with
  |nil=>rw[h.elim]
  |cons e es=>
   cases os with
   |nil=>
    cases es with
    |nil=>rw[E5<|((hM e).e h).bS λy τ z=>z.get]
    |cons=>rw[h.elim]
   |cons=>
    cases es with
    |nil=>rw[h.elim]
    |cons=>rw[CG<|((hM e).e h).bS λy τ z=>z.get.mono λb υ w=>(j0 w).mono λb υ w=>iV w.get ih id]
theorem DI (hM:xh sc M):∀{os:List CmpOp} {es:List Expr} {x:V} {c:En} {lo:Lo} {U:St} {k:KB},Oi M os es x c lo U k->N2 (Dd c.q) c.n sc os es x lo U (k c lo) (c.x lo):=λ{os}=>by
 induction os with
 |nil=>rw[λh=>h.elim]
 |cons o os ih=>
  intro es x c lo U k h
  cases es with
  |nil=>rw[h.elim]
  |cons e es=>
   cases os with
   |nil=>
    cases es with
    |nil=>rw[E4<|((hM e).e h).bS λy τ z=>z.get.mono λb υ w=>j0 w]
    |cons=>rw[h.elim]
   |cons=>
    cases es with
    |nil=>rw[h.elim]
    |cons=>rw[CE<|((hM e).e h).bS λy τ z=>z.get.mono λb υ w=>(j0 w).mono λb υ w=>iV w.get ih id]
theorem qm {o:Expr}(h:n9 o=true)(Sf:Str)(env:Env)(SG:Sem Value):attributeBase o Sf env SG=SG:=by
 cases o<;>first|rfl|exact aA h
theorem lS (h:args.all noStar=true)(pos:Pos)(env:Env):(backTo pos<|starEach args env).all (λx=> !x.1)=true:=by
 induction args with
 |nil=>rfl
 |cons e es ih=>
  obtain ⟨h1,h2⟩:=Bool.and_eq_true_iff.mp h;clear h;cases e<;>first
   |exact aA h1
   |exact ih h2
theorem ye (h:args.all noStar=true)(hl:Nat.blt args.length 30=true)(pos:Pos)(env:Env):methodCallForm (args.length+([]:List Keyword).length) (backTo pos<|starEach args env) []=true:=by
 unfold methodCallForm;rw[af (lS h pos env)<|decide_eq_true<|Nat.blt_eq.mp hl]
theorem AX (hM:xh sc M){k:KV}(z:Dq (kK sc M 12 args) name k c lo y τ):Dh (Dd c.q) c.n sc lo name args (k c lo) (c.x lo) y τ:=by
 right;obtain ⟨f,first,a,b,w⟩:=z.get;symm;rw[⟨f,first,a,b,(ig hM 12 w).bS λxs υ w=>w.get⟩]
theorem E9 (hM:xh sc M){k:KV}(z:QU (kK sc M 12 args) k c lo y τ):QM (Dd c.q) c.n sc lo args (k c lo) (c.x lo) y τ:=by
 cases y<;>first
  |exact False.elim z
  |exact bn.get z (λhf z=>⟨_,rfl,vB hf,(ig hM 12 z).bS λxs υ w=>w.get⟩) λz=>⟨_,rfl,z.get.1,(ig hM 12 z.get.2).bS λxs υ w=>w.get⟩
theorem FE (e:Expr):P6 sc e<|w0 sc e:=⟨Stop.get,Stop.get,Stop.get,Stop.get⟩
theorem mG {e:Expr}{b:Lo->Bool}{A:WV}(h:∀{c lo U k},A c lo U k->bY (Dd c.q) c.n sc e lo U (k c lo) (c.x lo))(he:∀env SG,isTrue e env SG=(do let v <- SG;standAt e.pos;holding [v] (truthy v))):P6 sc e<|wV sc e b A:=
 ⟨h,λz=>C0 ((h z).bS λ_ _ z=>j0 z) he,Stop.get,Stop.get⟩
theorem fF.mono {n:Nat}{ke:ji}{t:Expr}{x:V}{k k':Lo->St->Prop}(h:fF D n sc t x lo U k ke)(hk:∀l τ,k l τ->k' l τ):fF D n sc t x lo U k' ke:=λc v hc hs s r i=>
 wpAny_mono (h c v hc hs s r i) (by rintro _ _ ⟨l,τ,r,st,z⟩;rw[⟨l,τ,r,st,hk _ _ z⟩]) λ_ _ z=>z
theorem DM (hM:xh sc M)(f:Nat):∀{ts:List Expr} {xs:List V} {c:En} {lo:Lo} {U:St} {k:KA},Ql M f ts xs c lo U k->iF (Dd c.q) c.n sc ts xs lo U (k c) c.ke:=by
 induction f with
 |zero=>rw[False.elim]
 |succ f ih=>
  intro ts xs c lo U k h
  cases ts with
  |nil=>
   cases xs with
   |nil=>rw[h]
   |cons=>rw[h.elim]
  |cons t ts=>
   cases xs with
   |nil=>rw[h.elim]
   |cons x xs=>rw[((hM t).a h).mono λl τ z=>ih z]
theorem DG (hM:xh sc M){kk:Nat}{x:V}{k:KA}(h:Qh sc M (.Tuple es kk pos) x c lo U k):fF (Dd c.q) c.n sc (.Tuple es kk pos) x lo U (k c) c.ke:=by
 obtain ⟨q,n,ke⟩:=c
 cases x<;>first
  |exact h.get
  |(cases n with
   |zero=>rw[h.get]
   |succ n=>
    rw[bn.get h (λhb h=>?_) Stop.get];obtain ⟨h1,h2⟩:=Bool.and_eq_true_iff.mp hb;rw[mz (.inl rfl) (Nat.eq_of_beq_eq_true h2) (DM hM 12 h) (λenv t ht r=>?_)<|Nat.succ_pos n];have:=List.all_eq_true.mp h1 t ht;clear ht;cases t<;>first|rfl|exact aA this)
theorem DH (hM:xh sc M):xh sc<|Qi sc M:=λe=>by
 cases e with
 |Name x pos=>
  exact {mG (e:=.Name x pos) (b:=yes) (A:=Oh sc (.Name x pos) x) (λh=>h.get (λ_ e z=>sW e z) λ_=>Stop.get) (λ_ _=>rfl) with
   c:=λh=>h.get (λhb h=>h.get (λ_ e z=>wQ (sW e<|E9 hM z) (λenv=>rfl) λenv=>lS hb _ env) λ_=>Stop.get) Stop.get
   a:=λh=>h.get (λhs h=>pF (wF hs) h) Stop.get}
 |Constant c t pos=>rw[mG (λh=>h.get (λ_ e z=>ym e z) λ_=>Stop.get) λ_ _=>rfl]
 |BinOp l op r pos=>rw[mG (λh=>AE<|((hM l).e h).bS λx τ z=>((hM r).e z).bS λy υ w=>A0 w) λ_ _=>rfl]
 |UnaryOp op x pos=>
  exact ⟨λh=>wO<|((hM x).e h).bS λ_ _ z=>z.get,λh=>by
   cases op<;>first
    |exact DQ ((hM x).t h)
    |exact C0 ((wO (((hM x).e h).bS λ_ _ z=>z.get)).bS λ_ _ z=>j0 z) λ_ _=>rfl,Stop.get,Stop.get⟩
 |BoolOp op es pos=>rw[⟨λh=>AD<|DL hM 12 h,λh=>Bs<|DK hM 12 h,Stop.get,Stop.get⟩]
 |IfExp t b o pos=>rw[⟨λh=>Ax<|((hM t).t h).bS λb' υ w=>iV w.get (hM b).e (hM o).e,λh=>yR<|((hM t).t h).bS λb' υ w=>iV w.get (hM b).t (hM o).t,Stop.get,Stop.get⟩]
 |Compare l os es pos=>
  exact ⟨λh=>bn.Nx h (λ_=>Stop.get) λhm h=>E0 (((hM l).e h).bS λx τ z=>DJ hM z) hm,
   λh=>bn.Nx h (λ_=>Stop.get) λhm h=>DR (((hM l).e h).bS λx τ z=>DI hM z) hm,Stop.get,Stop.get⟩
 |Call func args kws pos=>
  rw[mG (λh=>h.get (λe h=>?_) Stop.get) λ_ _=>rfl];obtain rfl:=List.isEmpty_iff.mp e;rw[(hM func).c h]
 |Attribute o Sf Ug=>
  exact {mG (e:=.Attribute o Sf Ug) (b:=yes) (A:=λc lo U k=>bn (n9 o) ((M o).e c lo U<|NN Sf k)<|Bm sc (.Attribute o Sf Ug) c lo U k) (λh=>h.get (λhb h=>Cy (((hM o).e h).bS λ_ _ z=>z.get) λenv SG=>qm hb Sf env SG) Stop.get) (λ_ _=>rfl) with
   c:=λh=>h.get (λhb h=>by
    obtain ⟨hb,h4⟩:=Bool.and_eq_true_iff.mp hb;obtain ⟨hb,h3⟩:=Bool.and_eq_true_iff.mp hb;obtain ⟨h1,h2⟩:=Bool.and_eq_true_iff.mp hb;rw[Aw (((hM o).e h).bS λ_ _ z=>AX hM z) (λenv SG=>qm h1 Sf env SG) (beq_iff_eq.mpr<|Nat.eq_of_beq_eq_true h2) (λenv=>ye h3 h4 _ env) λenv=>lS h3 _ env]) Stop.get
   a:=λh=>A5<|((hM o).e h).bS λy τ z=>z.get}
 |Subscript o i pos=>
  exact {mG (e:=.Subscript o i pos) (b:=yes) (A:=λc lo U k=>bn (rj i) ((M o).e c lo U<|NF (M i).e o i k)<|Bm sc (.Subscript o i pos) c lo U k) (λh=>h.get (λhb h=>EY<|((hM o).e h).bS λ_ _ z=>((hM i).e z).bS λ_ _ z=>z.get) Stop.get) (λ_ _=>rfl) with
   a:=λh=>CR<|((hM o).e h).bS λy τ z=>((hM i).e z).bS λ_ _ z=>z.get}
 |List es pos=>rw[mG (λh=>Cu<|(ig hM 12 h).bS λ_ _ z=>z.get) λ_ _=>rfl]
 |Tuple es kk pos=>rw[{mG (e:=.Tuple es kk pos) (b:=yes) (A:=λc lo U k=>kK sc M 12 es c lo U<|NC k) (λh=>tT<|(ig hM 12 h).bS λ_ _ z=>z.get) (λ_ _=>rfl) with a:=DG hM}]
 |_=>rw[⟨Stop.get,Stop.get,Stop.get,Stop.get⟩]
theorem p7 (f:Nat):xh sc<|wM sc f:=by
 induction f with
 |zero=>rw[FE]
 |succ f ih=>rw[DH ih]
theorem n8 {e:Expr}(h:kT e=true)(t:Option Expr)(line:Nat)(env:Env):swapsWith e t line env=pure false:=by
 cases e<;>first|rfl|exact aA h
theorem qj {t e:Expr}(h:uI t e=true)(env:Env):swappedStores [t] e env=pure none/\assignEach [t] env=[(false,assign t env)]:=by
 cases t<;>first
  |exact ⟨rfl,rfl⟩
  |exact aA h
  |(cases e<;>first|exact ⟨rfl,rfl⟩|exact aA h)
abbrev Od (sc:Scope)(X:List Stmt->WS):Prop:=∀{ss c lo U k},X ss c lo U k->lO (Dd c.q) c.n sc ss lo U (k c) c.ke
variable {X:List Stmt->WS}
theorem yL (hM:xh sc M)(hX:Od sc X){s:Stmt}{k:KS}(h:(wS sc M X s).s c lo U k):eU (Dd c.q) c.n sc s lo U (k c) c.ke:=by
 cases s with
 |Pass=>rw[Bv h]
 |Continue=>rw[sM h]
 |Return e pos=>
  cases e with
  |some e=>rw[xE<|(hM e).e h]
  |none=>rw[uA h]
 |Expr e pos=>rw[bn.get h (λhc h=>Bw ((hM e).e h) λenv line=>n8 hc ..) Stop.get]
 |Assign ts e pos=>
  cases ts with
  |nil=>rw[h.get]
  |cons t r=>
   rw[bn.get h (λhb z=>?_) Stop.get];clear h;obtain ⟨h0,hb⟩:=Bool.and_eq_true_iff.mp hb;obtain ⟨h1,h2⟩:=Bool.and_eq_true_iff.mp hb;obtain rfl:=List.isEmpty_iff.mp h0;rw[xF (((hM e).e z).bS λx τ z=>(hM t).a z) (λenv line=>n8 h1 ..) (λenv=>(qj h2 env).1) λenv=>(qj h2 env).2]
 |If t a b pos=>rw[zc<|((hM t).t h).bS λb υ w=>iV w.get hX hX]
 |_=>rw[h.get]
theorem FD (hM:xh sc M)(hX:Od sc X)(f:Nat):Od sc<|wL sc M X f:=by
 induction f with
 |zero=>rw[Stop.get]
 |succ f ih=>
  intro ss c lo U k h
  cases ss with
  |nil=>rw[Av h]
  |cons s r=>
   cases r with
   |nil=>rw[vn<|yL hM hX h]
   |cons s' r=>
    rw[br<|(yL hM hX h).mono (λfl l τ z=>?_) λ_ _ _ _ z=>z]
    cases fl<;>first|exact z|exact ih z
theorem CW (f:Nat):Od sc<|wX sc f:=by
 induction f with
 |zero=>rw[Stop.get]
 |succ f ih=>rw[FD (p7 40) ih 60]
end
section
variable {q:cN}{n:Nat}{ke:ji}{sc:Scope} 
inductive Cut (P:Prop):Prop
 |mk (h:P)
def Nj (D:cN)(n:Nat)(sc:Scope)(r:List Stmt)(k:Fl->Lo->St->Prop)(ke:ji)(fl:Fl)(lo:Lo)(U:St):Prop:=match fl with
 |.next=>Cut (lO D n sc r lo U k ke)
 |f=>k f lo U
theorem EX {s:Stmt}{k:Fl->Lo->St->Prop}(h:eU D n sc s lo U (Nj D n sc r k ke) ke):lO D n sc (s::r) lo U k ke:=
 br (h.mono (λfl l τ z=>by cases fl<;>first|exact z|exact (let ⟨w⟩:=z;w)) λ_ _ _ _ z=>z)
noncomputable def Oc:List Stmt->Bool
 |[]=>false
 |_::_=>true
theorem xc {ss:List Stmt}{k:Fl->Lo->St->Prop}(e:Oc ss=true)(h:eU D n sc (hdS ss) lo U (kEx D n sc ss.tail k ke) ke):lO D n sc ss lo U k ke:=by
 cases ss with
 |nil=>rw[aA e]
 |cons s r=>rw[br h]
theorem xt {ss:List Stmt}{k:Fl->Lo->St->Prop}(e:Oc ss=true)(h:eU D n sc (hdS ss) lo U (Nj D n sc ss.tail k ke) ke):lO D n sc ss lo U k ke:=by
 cases ss with
 |nil=>rw[aA e]
 |cons s r=>rw[EX h]
theorem xo {ss:List Stmt}{k:Fl->Lo->St->Prop}(e:Oc ss=true)(e2:Oc ss.tail=false)(h:eU D n sc (hdS ss) lo U k ke):lO D n sc ss lo U k ke:=by
 cases ss with
 |nil=>rw[aA e]
 |cons s r=>cases r with
  |nil=>rw[vn h]
  |cons s r=>rw[ir e2]
theorem xr {ss:List Stmt}{k:Fl->Lo->St->Prop}(h:wX sc 20 ss ⟨q,n,ke⟩ lo U<|CK k):lO (Dd q) n sc ss lo U k ke:=(CW 20 h).mono (λ_ _ _ z=>z.get) λ_ _ _ _ z=>z
theorem sr {s:Stmt}{k:Fl->Lo->St->Prop}(_:(wS sc (wM sc 40) (wX sc 20) s).ok=true)(h:(wS sc (wM sc 40) (wX sc 20) s).s ⟨q,n,ke⟩ lo U<|CK k):eU (Dd q) n sc s lo U k ke:=
 (yL (p7 40) (CW 20) h).mono (λ_ _ _ z=>z.get) λ_ _ _ _ z=>z
noncomputable def RA (t:Expr)(x:V):Bool:=Nat.beq t.ctorIdx 20||Nat.beq t.ctorIdx 21||Nat.beq t.ctorIdx 23||(Nat.beq t.ctorIdx 25&&Nat.beq x.ctorIdx (V.ctorIdx<|.tup []))
theorem ar {t:Expr}{x:V}(_:RA t x=true)(h:(wM sc 40 t).a x ⟨q,n,ke⟩ lo U<|PM kl):fF (Dd q) n sc t x lo U kl ke:=((p7 40 t).a h).mono λ_ _ z=>z.get
end
section
variable {q:cN}{n:Nat}{ke:KE}{sc:Scope} 
@[reducible] def M8 (ke:KE):ji:=λC a _ τ=>ke C a τ
theorem er {e:Expr}{k:V->St->Prop}(_:(wM sc 40 e).ok lo=true)(h:(wM sc 40 e).e ⟨q,n,M8 ke⟩ lo U<|PN k):bY (Dd q) n sc e lo U k ke:=((p7 40 e).e h).bS λ_ _ z=>z.get
theorem tr {e:Expr}{k:Bool->St->Prop}(h:(wM sc 40 e).t ⟨q,n,M8 ke⟩ lo U<|PN k):kI (Dd q) n sc e lo U k ke:=((p7 40 e).t h).bS λ_ _ z=>z.get
theorem gr {k:List V->St->Prop}(h:kK sc (wM sc 40) 12 es ⟨q,n,M8 ke⟩ lo U<|PN k):gc (Dd q) n sc es lo U k ke:=(ig (p7 40) 12 h).bS λ_ _ z=>z.get
variable {c:En}{k:KV}
variable {a C d:Addr} 
def FO (C:Nat)(ats:List<|Str×V)(name:Str):Option V:=oB (uh C name)<|(ats.lookup name).filter V.plain
theorem at2 (ha:U a=some (.inst C d ats))(h:on (FO C ats name) (λx=>k c lo x U) False):vL (Dd c.q) c.n (.ref a) name U (k c lo)<|c.x lo:=
 h.get (λy e h=>by
  obtain ⟨h0,e⟩:=kR e;obtain ⟨h1,h2⟩:=Option.filter_eq_some_iff.mp e;rw[Fg ha h1 h2 (oa h0) h]) λ_=>False.elim
theorem Rz {k:V->St->Prop}(ha:U a=some (.inst C d ats))(h:on (FO C ats name) (λx=>Stop<|k x U) False):vL (Dd q) n (.ref a) name U k ke:=
 at2 (c:=⟨q,n,M8 ke⟩) (k:=λ_ _ x τ=>k x τ) (lo:=[]) ha (h.get (λy e z=>by rw[af e z.get]) λ_=>False.elim)
def Jr (C:Nat)(ats:List<|Str×V)(name:Str):Option Nat:=oB (ats.lookup name).isNone<|C9 C name
theorem Ra {W:WL}(ha:U a=some (.inst C d ats))(h:on (Jr C ats name) (λf=>W c lo U<|Dr (.ref f) [.ref a] k) False):
 ∃f first,MethW (Dd c.q) c.n (.ref a) name U f first/\dZ (Dd c.q) f/\AY W k c lo U f first:=
 h.get (λf e h=>by
  obtain ⟨h0,e⟩:=kR e;rw[zF ha (Option.isNone_iff_eq_none.mp h0) (OA e) h]) λ_=>False.elim
def FI (C:Nat)(ats:List<|Str×V)(name:Str):Bool:=uh C name&&Nat.ble ats.length 900
theorem Qn {x:V}{k:KA}(ha:U a=some (.inst C d ats))(e:FI C ats name=true)(h:k c lo<|U.set a<|.inst C d<|Lo.put name x ats):gV (Dd c.q) c.n (.ref a) name x U (k c lo)<|c.x lo:=by
 obtain ⟨h1,h2⟩:=Bool.and_eq_true_iff.mp e;rw[DV ha (Nat.le_of_ble_eq_true h2) (os h1) h]
theorem Q7 {x:V}{k:St->Prop}(ha:U a=some (.inst C d ats))(e:FI C ats name=true)(h:k<|U.set a<|.inst C d<|Lo.put name x ats):gV (Dd q) n (.ref a) name x U k ke:=
 Qn (c:=⟨q,n,M8 ke⟩) (k:=λ_ _ τ=>k τ) (lo:=[]) ha e h
noncomputable def uK:List Str->Bool
 |[]=>true
 |p::r=> !r.contains p&&uK r
theorem xR:∀{ps:List Str},uK ps=true->ps.Nodup:=λ{ps}=>by
 induction ps with
 |nil=>rw[λ_=>.nil]
 |cons p r ih=>
  intro h;obtain ⟨h1,h2⟩:=Bool.and_eq_true_iff.mp h;rw[List.nodup_cons.mpr ⟨λz=>?_,ih h2⟩];rw[List.contains_iff_mem.mpr z] at h1;rw[aA h1]
def By (sc:Scope)(ps:List Str):Bool:=Nat.beq sc.kind.ctorIdx (ScopeKind.ctorIdx .function)&&(!sc.isGenerator&&(!sc.isCoroutine&&(ps.all (λp=>EO<|sc.names.lookup p)&&(sc.names.all (λp=> !Nat.beq p.2.ctorIdx (NameKind.ctorIdx .free))&&uK ps))))
theorem fnX (ps:List Str){k:V->St->Prop}(hl:(KK q.w.params).lookup f=some (fO st qual UH mod code))
 (hc:(codeIn (KK q.w.params) (.ref code) qual&&By (mW st) ps)=true) (B:mF (Dd q) (fD st qual UH mod code) xs.length ps ds)
 (h:lO (Dd q) n (mW st) (Al st) (ps.zip<|xs++ds) U (z9 k)<|Na ke):ay (Dd q) (n+1) (.ref f) xs U k ke:=by
 right;obtain ⟨hc,h1⟩:=Bool.and_eq_true_iff.mp hc;obtain ⟨s1,h1⟩:=Bool.and_eq_true_iff.mp h1;obtain ⟨s2,h1⟩:=Bool.and_eq_true_iff.mp h1;obtain ⟨s3,h1⟩:=Bool.and_eq_true_iff.mp h1;obtain ⟨s4,h1⟩:=Bool.and_eq_true_iff.mp h1;obtain ⟨s5,s6⟩:=Bool.and_eq_true_iff.mp h1;have s2:(mW st).isGenerator=false:=by cases e:(mW st).isGenerator with
  |false=>rfl
  |true=>rw[e] at s2;rw[aA s2]
 have s3:(mW st).isCoroutine=false:=by cases e:(mW st).isCoroutine with
  |false=>rfl
  |true=>rw[e] at s3;rw[aA s3]
 symm;have s1:(mW st).kind=.function:=by cases e:(mW st).kind<;>first|rfl|(rw[e] at s1;rw[aA s1])
 rw[AN (D:=Dd q) (fd:=fD st qual UH mod code) (body:=Al st) ⟨⟨_,hl,rfl⟩,rfl,rfl,rfl,rfl,hc,s3,s2,s1,λp hp z=>?_⟩ B rfl (λp hp=>wF<|List.all_eq_true.mp s4 p hp) (xR s6) h];have:=List.all_eq_true.mp s5 p hp;rw[z] at this;rw[aA this]
theorem fn (ps:List Str){k:V->St->Prop}(hl:(KK q.w.params).lookup f=some (fO st qual UH mod code))
 (hc:(codeIn (KK q.w.params) (.ref code) qual&&By (mW st) ps)=true) (B:mF (Dd q) (fD st qual UH mod code) xs.length ps ds)
 (h:wX (mW st) 20 (Al st) ⟨q,n,Na ke⟩ (ps.zip<|xs++ds) U<|CK<|z9 k):ay (Dd q) (n+1) (.ref f) xs U k ke:=fnX ps hl hc B<|xr h
theorem Ak (ps:List Str){k:V->St->Prop}(hl:(KK q.w.params).lookup f=some (fO st qual UH mod code))
 (hc:(codeIn (KK q.w.params) (.ref code) qual&&By (mW st) ps)=true) (B:∀g:Nat->Value,bindArgs (fD st qual UH mod code) ⟨(List.range xs.length).map g,[]⟩=pure (ps.zip<|(List.range xs.length).map g))
 (h:lO (Dd q) n (mW st) (Al st) (ps.zip xs) U (z9 k)<|Na ke):ay (Dd q) (n+1) (.ref f) xs U k ke:=fnX ps (ds:=[]) hl hc (Dw B) (by erw[List.append_nil];rw[h])
theorem fp (ps:List Str){k:V->St->Prop}(hl:(KK q.w.params).lookup f=some (fO st qual UH mod code))
 (hc:(codeIn (KK q.w.params) (.ref code) qual&&By (mW st) ps)=true) (B:∀g:Nat->Value,bindArgs (fD st qual UH mod code) ⟨(List.range xs.length).map g,[]⟩=pure (ps.zip<|(List.range xs.length).map g))
 (h:wX (mW st) 20 (Al st) ⟨q,n,Na ke⟩ (ps.zip xs) U<|CK<|z9 k):ay (Dd q) (n+1) (.ref f) xs U k ke:=Ak ps hl hc B<|xr h
end
end
section
variable {a w:Addr}{R2 c v y:Int}{f:Int->Option Int}{ke:KE}{n:Nat}{U:St}{q:cN}{k:V->St->Prop}
local macro_rules | `(tactic| fail "y") => `(tactic| (first | assumption | exact St.ah))
local macro_rules | `(tactic| fail "x") => `(tactic| (with_unfolding_all rfl))
local macro_rules | `(tactic| fail) => `(tactic| (first
 |with_reducible (first
  |refine xr ?_
  |refine er (by fail "x") ?_
  |refine tr ?_
  |refine sr (by fail "x") ?_
  |refine gr ?_
  |refine ar (by fail "x") ?_
  |refine at2 (by fail "y") ?_
  |refine Ra (by fail "y") ?_
  |refine Qn (by fail "y") (by fail "x") ?_
  |refine Rz (by fail "y") ?_
  |refine Q7 (by fail "y") (by fail "x") ?_
  |refine PG ?_
  |refine PB ?_
  |refine PC ?_
  |refine PD ?_
  |refine PE ?_
  |refine PF ?_
  |refine FF ?_
  |refine yY ?_
  |refine C2 ?_
  |refine yX ?_
  |refine gf (by fail "x") (by first|exact Nat.succ_pos _|lia) ?_
  |refine yw ?_
  |refine A4 ?_
  |refine az Ef ?_
  |refine aN CT ?_)
 |(with_unfolding_all refine Stop.mk ?_)))
local macro_rules | `(tactic| left) => `(tactic| repeat fail)
section
variable {d:Addr}
noncomputable abbrev zH (w:Addr)(b e:Int):List<|Str×V:=[("size",.int<|e-b),("begin",.int b),("end",.int e),("words",.ref w)]
structure jN (U:St)(a w:Addr)(f:Int->Option Int)(b e:Int):Prop where
 it:yz U a 614<|zH w b e
 words:U w=some (.bD f)
theorem ja {b e:Int}(ha:U a=some (.inst 614 d<|zH w b e))(h1:R2.fmod 4=0)(h2:b<=R2)(h3:R2+4<=e)(h:k .none U):
 ay (Dd q) (n+1) (.ref 480) [.ref a,.int R2,.int 4] U k ke:=by
 rw[<-fp ["self","address","size"] rfl rfl (λ_=>rfl) ?_,<-fq ac ?_,<-az (jh<|gH h1) ?_,<-az (jh<|dF<|Int.not_lt.mpr h2) ?_,<-az (jh<|dF<|Int.not_lt.mpr h3) ?_,⟨U,U.le_refl,h⟩]
noncomputable def word (f:Int->Option Int)(x:Int):Int:=(f<|x.fdiv 4).getD 0
theorem vN {b e:Int}(hm:jN U a w f b e)(h1:R2.fmod 4=0)(h2:b<=R2)(h3:R2+4<=e)(h:k (.int<|word f R2) U):
 ay (Dd q) (n+2) (.ref 487) [.ref a,.int R2] U k ke:=by
 obtain ⟨⟨d,ha⟩,hf⟩:=hm;rw[<-fp ["self","address"] rfl rfl (λ_=>rfl) ?_,<-(ja ha h1 h2 h3 ?_).call,<-cC (zK hf) ?_,<-lH ac ?_,wY hf ⟨U,U.le_refl,h⟩]
noncomputable def fset (f:Int->Option Int)(i v:Int):Int->Option Int:=λx=>if x=i then (if v=0 then none else some v) else f x
theorem wC {i b e:Int}(hm:jN U a w f b e)(h0:0<=i)(h1:i<2^20)(h:k .none<|U.set w<|.bD<|fset f i v):
 ay (Dd q) (n+1) (.ref 501) [.ref a,.int i,.int v] U k ke:=by
 obtain ⟨⟨d,ha⟩,hf⟩:=hm;rw[<-fp ["self","index","value"] rfl rfl (λ_=>rfl) ?_]
 by_cases hv:v=0
 ·subst hv;rw[<-az (gH rfl) ?_,<-cC (wh hf) ?_]
  cases q':f i with
  |some j=>
   rw[wZ hf q' ⟨_,St.le_refl _,?_⟩<|.inr rfl];have:oV f i=fset f i 0:=by funext x;unfold oV fset;rfl
   rw[af this h]
  |none=>
   rw[ua hf q' ⟨_,St.le_refl _,?_⟩];have:U.set w (.bD<|fset f i 0)=U:=by
    funext b
    unfold St.set
    split
    ·rename_i z
     clear ha;subst z;rw[af hf ?_]
     congr 2
     funext x
     unfold fset
     split
     ·rename_i z;clear h0 h1 h;subst z;rw[id<|Eq.symm q']
     ·rfl
    ·rfl
   rw[this] at h;rw[h]
 ·rw[<-aN (neT hv) ?_,sQ hf h0 h1 ⟨_,St.le_refl _,?_⟩];have:nk f i v=fset f i v:=by funext x;unfold nk fset;simp [hv]
  rw[af this h]
theorem lu {x:Int}(h0:0<=x)(h:x<y):x.fdiv 4<y/\0<=x.fdiv 4:=by
 rw[af (Int.fdiv_eq_ediv_of_nonneg _ ac)<|MF h0 h]
theorem mO {b e:Int}(hm:jN U a w f b e)(h0:0<=R2)(Xu:R2<2^20)(h1:R2.fmod 4=0)(h2:b<=R2)(h3:R2+4<=e)(hv:0<=v)(WH:v<2^32)
 (h:k .none<|U.set w<|.bD<|fset f (R2.fdiv 4) v):ay (Dd q) (n+2) (.ref 494) [.ref a,.int R2,.int v] U k ke:=by
 have TA:=hm;obtain ⟨⟨d,ha⟩,hf⟩:=TA;rw[<-fp ["self","address","value"] rfl rfl (λ_=>rfl) ?_,<-(ja ha h1 h2 h3 ?_).call,<-lH ac ?_];erw[bitAnd_m32,Int.emod_eq_of_lt hv<|show v<4294967296 from WH];rw[(wC hm (lu h0 Xu).2 (lu h0 Xu).1 ⟨_,St.le_refl _,h⟩).call]
theorem BL {b e:Int}(ha:U a=some (.inst 614 d<|zH w b e))(h1:0<=c)(h2:b<=R2)(h3:R2+c<=e)(h:k .none U):
 ay (Dd q) (n+1) (.ref 473) [.ref a,.int R2,.int c] U k ke:=by
 rw[<-fp ["self","address","count"] rfl rfl (λ_=>rfl) ?_,<-az (jh<|dF<|Int.not_lt.mpr h1) ?_,<-az (jh<|dF<|Int.not_lt.mpr h2) ?_,<-az (jh<|dF<|Int.not_lt.mpr h3) ?_,⟨U,U.le_refl,h⟩]
end
theorem cQ {x:Int}(k:Nat)(h0:0<=x):Builtin.bitAnd x (2^k-1)=x%2^k:=by
 have hp:(0:Int)<2^k:=Int.pow_pos ac;erw[bitAnd_pp h0<|by rw[Int.sub_nonneg_of_le hp]];have e:(2^k-1:Int).toNat=2^k-1:=by
  have:((2^k-1:Nat):Int)=2^k-1:=af (Int.natCast_sub<|Nat.one_le_two_pow) rfl;rw[af (Eq.symm<|this) rfl]
 rw[af e<|af (Nat.and_two_pow_sub_one_eq_mod ..) ?_];obtain ⟨m,rfl⟩:=Int.eq_ofNat_of_zero_le h0;rfl
theorem yx {a:Int}(k:Nat)(ha:0<=a)(h0:0<=c)(h1:c<2^k):Builtin.bitAnd (a*2^k) c=0:=by
 have hp:(0:Int)<2^k:=Int.pow_pos ac;obtain ⟨m,rfl⟩:=Int.eq_ofNat_of_zero_le ha;obtain ⟨c,rfl⟩:=Int.eq_ofNat_of_zero_le h0;have hc:c<2^k:=by exact_mod_cast h1
 rw[af (bitAnd_pp (Int.mul_nonneg ha<|Int.le_of_lt hp) h0) ?_];have e:((m:Int)*2^k).toNat=m*2^k:=by
  have:((m*2^k:Nat):Int)=(m:Int)*2^k:=by rfl
  rw[af (Eq.symm<|this) rfl]
 rw[af e ?_];have:m*2^k&&& (c:Int).toNat=0:=by
  apply Nat.eq_of_testBit_eq;intro i;rw[af (Nat.testBit_and ..)<|af (Nat.zero_testBit ..)<|af (Nat.testBit_mul_two_pow ..) ?_]
  by_cases h:k<=i
  ·have:c<2^i:=Nat.lt_of_lt_of_le hc<|Nat.pow_le_pow_right ac h;simp [Nat.testBit_lt_two_pow this]
  ·simp [h]
 rw[af this rfl]
theorem jy {a:Int}(k:Nat)(ha:0<=a)(h0:0<=c)(h1:c<2^k):Builtin.bitOr (a*2^k) c=a*2^k+c:=by
 rw[af (bitOr_and ..)<|af (yx k ha h0 h1) ?_];lia
theorem gj (x y:Int):Builtin.bitAnd x (-y-1)=x-Builtin.bitAnd x y:=bitAnd_not x y
theorem ku (x:Int)(j:Nat):x.fdiv (2^j)=x/2^j:=Int.fdiv_eq_ediv_of_nonneg _<|Int.le_of_lt<|Int.pow_pos ac
theorem dh {x m:Int}(k:Nat)(h0:0<=x)(hm:0<=m)(TA:m<2^k):Builtin.bitAnd x m=Builtin.bitAnd (x%2^k) m:=by
 have hp:(0:Int)<2^k:=Int.pow_pos ac;obtain ⟨a,rfl⟩:=Int.eq_ofNat_of_zero_le h0;obtain ⟨m,rfl⟩:=Int.eq_ofNat_of_zero_le hm;have hc:m<2^k:=by exact_mod_cast TA
 have e:((a:Int)%2^k)=((a%2^k:Nat):Int):=by rfl
 rw[af e<|af (bitAnd_pp h0 hm)<|af (bitAnd_pp (nN _) hm) ?_];show ((a&&& m:Nat):Int)=((a%2^k&&& m:Nat):Int)
 congr 1
 apply Nat.eq_of_testBit_eq;intro i;rw[af (Nat.testBit_and ..)<|af (Nat.testBit_and ..)<|af (Nat.testBit_mod_two_pow ..) ?_]
 by_cases h:i<k
 ·simp [h]
 ·have:m<2^i:=Nat.lt_of_lt_of_le hc<|Nat.pow_le_pow_right ac<|Nat.le_of_not_lt h;simp [Nat.testBit_lt_two_pow this]
variable {fl:Int}
section
variable {d:Addr}{b:Nat}
theorem bq {e:Int}(h:k (.bool<|Builtin.bitAnd e 10 !=0) U):ay (Dd q) (n+1) (.ref 198) [.int e] U k ke:=by
 rw[<-fp ["entry"] rfl rfl (λ_=>rfl) ?_,rt h]
theorem jD {e:Int}(h:k (.bool<|Builtin.bitAnd e 1 !=0&&Builtin.bitAnd e 6 !=4) U):ay (Dd q) (n+1) (.ref 205) [.int e] U k ke:=by
 rw[<-fp ["entry"] rfl rfl (λ_=>rfl) ?_]
 by_cases h1:Builtin.bitAnd e 1=0
 ·rw[h1] at h ⊢;rw[<-aN ac ?_,rt h]
 ·have h1':(Builtin.bitAnd e 1 !=0)=true:=by simp [h1]
  rw[h1'] at h;rw[<-az (qQ h1') ?_,rt h]
noncomputable abbrev layA (b:Nat):List<|Str×V:=[("page_bits",.int<|(b:Int)+2),("level_bits",.int b),("page",.int<|2^(b+2)),("entries",.int<|2^b),("large",.int<|2^(b+2)*2^b),("end",.int<|2^(b+2)*2^b*2^b)]
def gb (U:St)(a:Addr)(b:Nat):Prop:=yz U a 182<|layA b
theorem nJ:((b:Int)+2).toNat=b+2:=by rw[rfl]
theorem yU:((b:Int)).toNat=b:=rfl
theorem mP {e:Int}(hl:gb U a b)(h0:0<=e)(h1:e<2^40)(h:k (.int<|e/1024*2^(b+2)) U)(hb:b<=10):ay (Dd q) (n+1) (.ref 179) [.ref a,.int e] U k ke:=by
 obtain ⟨d,ha⟩:=hl;rw[<-fp ["self","entry"] rfl rfl (λ_=>rfl) ?_,<-lH ac ?_];have e1:e.fdiv (2^(10:Int).toNat)=e/1024:=ku e 10;rw[pB (by rw[nN<|b+2]) (Ep hb) (by rw[af e1 ?_,Jo h0<|Int.lt_trans h1 ac]) ?_,<-af e1<|af nJ ?_,rt h]
theorem lD {p:Int}(hl:gb U a b)(h0:0<=p)(h1:p<2^40)(h2:0<=fl)(h3:fl<1024)(h:k (.int<|p/2^(b+2)*1024+fl) U):ay (Dd q) (n+1) (.ref 172) [.ref a,.int p,.int fl] U k ke:=by
 obtain ⟨d,ha⟩:=hl;rw[<-fp ["self","physical","flags"] rfl rfl (λ_=>rfl) ?_,<-lH (by rw[nN<|b+2]) ?_,af nJ<|af (ku ..) ?_];have hp:(0:Int)<2^(b+2):=Int.pow_pos ac;have h4:0<=p/2^(b+2):=Int.ediv_nonneg h0<|Int.le_of_lt hp;have h5:p/2^(b+2)<=p:=Int.ediv_le_self _ h0;rw[<-pB ac ac (by rw[nab h4<|Int.lt_trans (Int.lt_of_le_of_lt h5 h1) ac]) ?_];erw[show Builtin.bitOr (p/2^(b+2)*2^(10:Int).toNat) fl=p/2^(b+2)*1024+fl from jy 10 h4 h2 h3];rw[rt h]
theorem rP {x:Int}(hl:gb U a b)(h0:0<=x)(h:k (.int<|x-x%2^(b+2)) U):ay (Dd q) (n+1) (.ref 144) [.ref a,.int x] U k ke:=by
 obtain ⟨d,ha⟩:=hl;rw[<-fp ["self","address"] rfl rfl (λ_=>rfl) ?_,af (gj ..)<|af (cQ (b+2) h0)<|rt h]
theorem mU {x:Int}(hl:gb U a b)(h0:0<=x)(h:k (.bool<|x%2^(b+2)==0) U):ay (Dd q) (n+1) (.ref 158) [.ref a,.int x] U k ke:=by
 obtain ⟨d,ha⟩:=hl;rw[<-fp ["self","address"] rfl rfl (λ_=>rfl) ?_,af (cQ (b+2) h0)<|rt h]
theorem qk {x:Int}(hl:gb U a b)(h0:¬(0<=x/\x<2^(b+2)*2^b*2^b))(h:k .none U):ay (Dd q) (n+1) (.ref 129) [.ref a,.int x] U k ke:=by
 obtain ⟨d,ha⟩:=hl;rw[<-fp ["self","address"] rfl rfl (λ_=>rfl) ?_]
 by_cases h1:0<=x
 ·rw[<-aN (dT h1) ?_,<-aN (n7<|dF λh2=>h0 ⟨h1,h2⟩) ?_,rt h]
 ·rw[<-az (dF h1) ?_];left;rw[rt h]
theorem sS {x:Int}(hl:gb U a b)(h0:0<=x)(h1:x<2^(b+2)*2^b*2^b)(h:k (.tup [.int<|x/2^(b+2)/2^b,.int<|x/2^(b+2)%2^b,.int<|x%2^(b+2)]) U):ay (Dd q) (n+1) (.ref 129) [.ref a,.int x] U k ke:=by
 obtain ⟨d,ha⟩:=hl;rw[<-fp ["self","address"] rfl rfl (λ_=>rfl) ?_,<-aN (dT h0) ?_,<-az (gI<|dT h1) ?_,<-lH (by rw[nN<|b+2]) ?_,<-lH (by rw[nN b]) ?_];have hp:(0:Int)<2^(b+2):=Int.pow_pos ac;rw[af nJ<|af yU<|af (ku ..)<|af (ku ..)<|af (cQ b<|Int.ediv_nonneg h0<|Int.le_of_lt hp)<|af (cQ (b+2) h0) ⟨by simp,_,St.le_refl _,h⟩]
end
variable {dx:Addr}
section
variable {d:Addr}{b:Nat}
theorem vH {i j:Int}(hl:gb U a b)(h0:0<=i)(h1:i<2^20)(h2:0<=j)(h3:j<2^b)(hb:b<=10)(h:k (.int<|(i*2^b+j)*2^(b+2)) U):ay (Dd q) (n+1) (.ref 137) [.ref a,.int i,.int j] U k ke:=by
 obtain ⟨d,ha⟩:=hl;rw[<-fn ["self","first","second","offset"] (ds:=[.int 0]) rfl rfl (iD rfl rfl rfl (λ_=>.cons (.int _ _) .nil) λ_=>rfl) ?_,<-pB (by rw[nN b]) (by lia) (by rw[nab h0<|Int.lt_trans h1<|by decide]) ?_,af yU<|af (jy b h0 h2 h3) ?_];have hp:(0:Int)<2^b:=Int.pow_pos (by decide);have hp2:(2:Int)^b<=2^10:=by
  have:(2:Nat)^b<=2^10:=Nat.pow_le_pow_right ac hb
  exact_mod_cast this
 have h4:0<=i*2^b:=Int.mul_nonneg h0<|Int.le_of_lt hp;have h5:i*2^b<=2^20*2^10:=Int.mul_le_mul (Int.le_of_lt h1) hp2 (Int.le_of_lt hp) ac;rw[<-pB (by rw[nN<|b+2]) (Ep hb) (by rw[nab (Int.add_nonneg h4 h2)<|Int.lt_of_lt_of_le (Int.add_lt_add_of_le_of_lt h5<|Int.lt_of_lt_of_le h3 hp2) ac]) ?_,af nJ<|af (jy (c:=0) (b+2) (La h4 h2) ac<|Int.pow_pos ac)<|af (Int.add_zero ..)<|rt h]
theorem tC {x:Addr}(hx:U x=some (.inst 182 dx []))(h4:2<=b)(h5:b<=10)(h:k .none<|U.set x<|.inst 182 dx<|layA b):ay (Dd q) (n+1) (.ref 122) [.ref x,.int<|(b:Int)+2] U k ke:=by
 rw[<-fn ["self","page_bits"] (ds:=[]) rfl rfl (iD (us:=[]) rfl rfl rfl (λ_=>.nil) λ_=>rfl) ?_,<-aN (dT<|show (4:Int)<=(b:Int)+2 by lia) ?_,<-az (gI<|dT<|show (b:Int)+2<=12 by lia) ?_,<-pB (by rw[nN<|b+2]) (Ep h5) ac ?_,<-pB (by lia) (by lia) ac ?_];have hp:(0:Int)<2^b:=Int.pow_pos ac;have hp2:(2:Int)^b<=2^10:=by
  have:(2:Nat)^b<=2^10:=Nat.pow_le_pow_right ac h5
  exact_mod_cast this
 have e1:(1:Int)*2^((b:Int)+2).toNat=2^(b+2):=by rw[af nJ<|af (Int.one_mul ..) rfl]
 have e2:(1:Int)*2^((b:Int)+2-2).toNat=2^b:=by rw[af (show ((b:Int)+2-2).toNat=b by lia)<|af (Int.one_mul ..) rfl]
 rw[af e1<|af e2 ?_,<-bG (mul_r<|KY hp2) ?_,<-bG (mul_r<|KY hp2) ?_];simp only [St.set_set];rw[af (show (b:Int)+2-2=b by lia) ⟨_,St.le_refl _,h⟩]
end
section
variable {d:Addr}{b:Nat}
noncomputable def fm (f:Int->Option Int)(i:Int)(m:Nat):Int->Option Int:=λx=>if i<=x/\x<i+m then none else f x
theorem u9 (f:Int->Option Int)(i:Int)(m:Nat):fset (fm f i m) (i+m) 0=fm f i (m+1):=by
 funext x
 unfold fset fm
 by_cases h:x=i+m
 ·subst h;rw[af (if_pos rfl)<|af (if_pos rfl)<|af (if_pos<|by rw[⟨Int.le_add_of_nonneg_right<|nN m,Int.add_lt_add_left (by rw[Int.lt_succ m]) i⟩]) rfl]
 ·rw[af (if_neg h) ?_]
  by_cases h1:i<=x/\x<i+m
  ·rw[af (if_pos h1)<|af (if_pos<|LW h1) rfl]
  ·rw[af (if_neg h1)<|af (if_neg<|by rw[λz=>h1 ⟨z.1,Int.lt_iff_le_and_ne.mpr ⟨Int.le_of_lt_add_one<|Int.lt_of_lt_of_le z.2<|Int.le_of_eq<|show i+((m:Int)+1)=i+m+1 from (Int.add_assoc ..).symm,h⟩⟩]) rfl]
theorem u7 (f:Int->Option Int)(i:Int):fm f i 0=f:=by
 funext x;unfold fm;rw[af (if_neg<|by rw[λz=>Int.not_lt.mpr z.1<|Int.lt_of_lt_of_le z.2<|Int.le_of_eq<|Int.add_zero i]) rfl]
theorem Bp {b e:Int}{m:Nat}(hm:jN U a w f b e)(h0:0<=R2)(h1:R2%4=0)(h2:b<=R2)(h3:R2+4*m<=e)(h4:e<2^20)
 (h:k .none<|U.set w<|.bD<|fm f (R2/4) m):ay (Dd q) (n+3) (.ref 571) [.ref a,.int R2,.int<|4*m] U k ke:=by
 have TA:=hm;obtain ⟨⟨d,ha⟩,hf⟩:=TA;have haw:a≠w:=λz=>by clear hm h;subst z;rw[ha] at hf;rw[bU bI.ctorIdx (sI hf) rfl]
 rw[<-fp ["self","address","count"] rfl rfl (λ_=>rfl) ?_,<-(BL ha (by rw[nN<|4*m]) h2 h3 ?_).call,<-dB (names:=["place","end"]) ?_ ac (by rintro ⟨⟩ z;subst z;rfl),<-⟨by simp,rfl,?_⟩,sL (λj lo τ=>j<=m/\lo=([("self",.ref a),("address",.int R2),("count",.int<|4*m),("end",.int<|R2+4*m),("place",.int<|R2+4*(m-j:Nat))]:Lo)/\τ=U.set w (.bD<|fm f (R2/4)<|m-j)) m ⟨Nat.le_refl _,?_,?_⟩ ?_]
 ·rw[af (Nat.sub_self ..)<|af (show (R2+4*((0:Nat):Int))=R2 by rw[Int.add_zero R2]) rfl]
 ·rw[af (Nat.sub_self ..)<|af (u7 ..) ?_]
  funext x;unfold St.set;split
  ·rename_i z;rw[af z hf]
  ·rfl
 ·rintro j lo τ ⟨hj,rfl,rfl⟩;left
  by_cases hj0:j=0
  ·clear hj;subst hj0;rw[az (dF<|by rw[Int.not_lt.mpr<|Int.le_refl<|R2+4*↑m]) ?_,af (Nat.sub_zero ..) ⟨_,St.le_refl _,h⟩]
  ·rw[<-aN (dT<|MG hj hj0) ?_,af (bitAnd_m2 ..)<|af (show (R2+4*((m-j:Nat):Int))%4=0 by rw[Jt h1]) ?_,rS (by rw[Nat.succ_pos _]) ?_];erw[show (if R2+4*(m:Int)-(R2+4*((m-j:Nat):Int))<4-0 then R2+4*(m:Int)-(R2+4*((m-j:Nat):Int)) else 4-0)=4 by rw[af (if_neg<|MB hj hj0) rfl]];left;have haj:(U.set w<|.bD<|fm f (R2/4)<|m-j) a=some (.inst 614 d<|zH w b e):=af (St.ai haw) ha;left;rw[<-lH ac ?_,(wC ⟨⟨d,haj⟩,St.ah⟩ ?_ ?_ ?_).call]
   ·rw[(lu (y:=2^20) (J0 h1 h0)<|OG h1 h3 h4 hj hj0).2]
   ·rw[(lu (y:=2^20) (J0 h1 h0)<|OE h1 h3 h4 hj).1]
   left;rw[<-mJ (by with_unfolding_all rfl) ac ?_,rC (op:=.Add) (f:=(·+·)) ?_ λ_ _ _ _ _ q=>P.iadd_int q,⟨j-1,_,_,Mp hj0,?_,?_,MH hj hj0,rfl,rfl⟩]
   ·rw[Lo.bg ⟨rfl,rfl,rfl,rfl,af (show R2+4*((m-(j-1):Nat):Int)=R2+4*((m-j:Nat):Int)+4 by rw[zk (zs hj hj0).symm]) rfl,trivial⟩]
   ·erw[St.set_set,show (R2+4*((m-j:Nat):Int)).fdiv (2^(2:Int).toNat)=R2/4+(m-j:Nat) by erw[show ((2:Int)^(2:Int).toNat)=2^2 from rfl,ku];rw[Int.add_mul_ediv_left R2 _ ac],u9,show m-j+1=m-(j-1) by rw[zs hj hj0]];rw[St.le_refl _]
theorem ET {b e:Int}(hm:jN U a w f b e)(h1:R2.fmod 4=0)(h2:b<=R2)(h3:R2+4<=e)(h:k (.int<|word f R2) U):
 ay (Dd q) (n+3) (.ref 543) [.ref a,.int R2,.int 4] U k ke:=by
 have TA:=hm;obtain ⟨⟨d,ha⟩,hf⟩:=TA;rw[<-fp ["self","address","size"] rfl rfl (λ_=>rfl) ?_];left;rw[(vN hm h1 h2 h3 ⟨_,St.le_refl _,h⟩).call]
theorem DW {b e:Int}(hm:jN U a w f b e)(h0:0<=R2)(Xu:R2<2^20)(h1:R2.fmod 4=0)(h2:b<=R2)(h3:R2+4<=e)(hv:0<=v)(WH:v<2^32)
 (h:k .none<|U.set w<|.bD<|fset f (R2.fdiv 4) v):ay (Dd q) (n+3) (.ref 550) [.ref a,.int R2,.int 4,.int v] U k ke:=by
 right;have TA:=hm;obtain ⟨⟨d,ha⟩,hf⟩:=TA;symm;rw[<-fp ["self","address","size","value"] rfl rfl (λ_=>rfl) ?_];left;rw[(mO hm h0 Xu h1 h2 h3 hv WH ⟨_,St.le_refl _,h⟩).call]
theorem m9 {b e:Int}(h0:0<=b)(h1:b<e)(h2:e<=2^32)(h3:b%4=0)(h4:e%4=0)(h:k .none U):ay (Dd q) (n+1) (.ref 444) [.int b,.int e] U k ke:=by
 rw[<-fp ["begin","end"] rfl rfl (λ_=>rfl) ?_,<-aN (dT h0) ?_,<-aN (dT h1) ?_,<-az (jh<|gI<|dT h2) ?_,<-fq ac ?_,<-az (jh<|gH<|af (Int.fmod_eq_emod_of_nonneg _ ac) h3) ?_,<-fq ac ?_,<-az (jh<|gH<|af (Int.fmod_eq_emod_of_nonneg _ ac) h4) ?_,⟨U,U.le_refl,h⟩]
theorem sY {x:Addr}{z b:Int}(hx:U x=some (.inst 614 dx []))(h0:0<=b)(h1:0<z)(h2:b+z<=2^20)(h3:b%4=0)(h4:z%4=0)
 (h:∀w σ',U w=none->w≠x->jN σ' x w (λ_=>none) b (b+z)->(∀y,y≠x->y≠w->σ' y=U y)->k .none σ'):ay (Dd q) (n+2) (.ref 459) [.ref x,.int z,.int b] U k ke:=by
 rw[<-fn ["self","size","begin"] (ds:=[]) rfl rfl (iD (us:=[]) rfl rfl rfl (λ_=>.nil) λ_=>rfl) ?_,<-(m9 (e:=b+z) h0 (LD h4 h1) (LY h4 h3 h2) h3 (by lia) ?_).call,tW λw hw=>?_];have hxw:x≠w:=kE St.ah hw;have hw':U w=none:=by simpa [St.set,Ne.symm hxw] using hw
 rw[af St.set_set<|af St.set_set ?_];have Xl:((U.set x<|.inst 614 dx<|Lo.put "end" (.int<|b+z)<|Lo.put "begin" (.int b)<|Lo.put "size" (.int z) []).set w<|.bD λ_=>none) x=some (.inst 614 dx<|Lo.put "end" (.int<|b+z)<|Lo.put "begin" (.int b)<|Lo.put "size" (.int z) []):=by
  rw[af (St.ai hxw)<|af St.ah rfl]
 left;rw[⟨_,St.le_refl _,h w _ hw' (Ne.symm hxw) ⟨⟨dx,?_⟩,?_⟩ λy h1 h2=>?_⟩]
 ·rw[af St.ah ?_];unfold zH;rw[af (show b+z-b=z by lia) rfl]
 ·rw[af (St.ai<|Ne.symm hxw)<|af St.ah rfl]
 ·rw[af (St.ai h1)<|af (St.ai h2)<|af (St.ai h1) rfl]
end
variable {m0 root:Int}{f':Int->Option Int}{E j':Nat}{g:Nat->Int}
def Pg (E:Nat)(m0 a:Int):Prop:=∃i:Nat,i<12/\a=m0+i*(4*E)
set_option genInjectivity true in
inductive Slot where
 |none
 |leaf (e:Int)
 |tab (a:Int) (g:Nat->Int)
def fR (e:Int):Prop:=0<=e/\e<2^32/\Builtin.bitAnd e 1≠0/\Builtin.bitAnd e 10≠0/\Builtin.bitAnd e 6≠4
noncomputable def Slot.code (E:Nat):Slot->Int
 |.none=>0
 |.leaf e=>e
 |.tab a _=>a/(4*E)*1024+1
noncomputable def upd {α:Type}(f:Nat->α)(i:Nat)(x:α):Nat->α:=λj=>if j=i then x else f j
theorem aB {α:Type}{f:Nat->α}{i:Nat}{x:α}:upd f i x i=x:=if_pos rfl
theorem aJ {α:Type}{f:Nat->α}{i j:Nat}{x:α}(h:j≠i):upd f i x j=f j:=if_neg h
def fL (E:Nat)(root:Int)(T:Nat->Slot)(a:Int):Prop:=a=root\/∃i g,i<E/\T i=.tab a g
structure aF (E:Nat)(m0:Int)(f:Int->Option Int)(root:Int)(T:Nat->Slot):Prop where
 rt:Pg E m0 root
 top:∀i:Nat,i<E->word f (root+4*i)=(T i).code E
 leaf:∀i e,i<E->T i=.leaf e->fR e/\e/1024%E=0
 tab:∀i a g,i<E->T i=.tab a g->Pg E m0 a/\a≠root/\∀j:Nat,j<E->word f (a+4*j)=g j/\(g j=0\/fR (g j))
 inj:∀i i' a g g',i<E->i'<E->T i=.tab a g->T i'=.tab a g'->i=i'
section
variable {a a' e:Int}{T:Nat->Slot}{i j:Nat}{s:Slot}
theorem Pg.kU (h:Pg E m0 a)(h0:m0%4=0):a%4=0:=by
 obtain ⟨i,_,rfl⟩:=h;rw[af (Int.mul_left_comm ..) ?_,Jt h0]
theorem Pg.mod (h:Pg E m0 a)(h0:m0%(4*E)=0):a%(4*E)=0:=by
 obtain ⟨i,_,rfl⟩:=h;rw[af (Int.add_mul_emod_self_right ..) h0]
theorem cB (h:Pg E m0 a)(h':Pg E m0 a')(SK:a≠a')(hj:j<E)(Up:j'<E):a+4*(j:Int)≠a'+4*(j':Int):=by
 obtain ⟨x,_,rfl⟩:=h;obtain ⟨y,_,rfl⟩:=h';intro z;apply SK;have e1:(x:Int)*(4*E)=4*((x*E:Nat):Int):=af (Int.mul_left_comm ..) rfl;have e2:(y:Int)*(4*E)=4*((y*E:Nat):Int):=af (Int.mul_left_comm ..) rfl;rw[e1,e2] at z ⊢;have z':x*E+j=y*E+j':=by rw[Q8 z]
 have z2:x=y:=by
  have h1:(x*E+j)/E=x:=by erw[Nat.mul_comm,Nat.mul_add_div<|J6 SK,Nat.div_eq_of_lt hj,Nat.add_zero]
  have h2:(y*E+j')/E=y:=by erw[Nat.mul_comm,Nat.mul_add_div<|J6 SK,Nat.div_eq_of_lt Up,Nat.add_zero]
  rw[af (Eq.symm<|h1)<|af (Eq.symm<|h2)<|af z' rfl]
 rw[af z2 rfl]
theorem Am (x:Int):x.fdiv 4=x/4:=Int.fdiv_eq_ediv_of_nonneg _ ac
theorem g9 {x:Int}(hx:x%4=0)(hy:y%4=0):word (fset f (x.fdiv 4) v) y=if y=x then v else word f y:=by
 unfold word fset;rw[af (Am ..)<|af (Am ..) ?_]
 by_cases h:y=x
 ·clear hx;subst h;rw[af (if_pos rfl)<|af (if_pos rfl) ?_];split<;>simp_all
 ·rw[af (if_neg (by rw[λz=>h ((QO hy).symm.trans ((congrArg (·*4) z).trans<|QO hx))]))<|af (if_neg h) rfl]
theorem bx {x:Int}(hx:x%4=0)(hy:y%4=0)(h:y≠x):word (fset f (x.fdiv 4) v) y=word f y:=by rw[af (g9 hx hy)<|af (if_neg h) rfl]
theorem gX {x:Int}(hx:x%4=0):word (fset f (x.fdiv 4) v) x=v:=by rw[af (g9 hx hx)<|af (if_pos rfl) rfl]
theorem aD {a:Int}(h0:m0%4=0)(h:Pg E m0 a):(a+4*(j:Int))%4=0:=by have:=h.kU h0;rw[B8 this]
theorem aF.pg (S:aF E m0 f root T)(h:fL E root T a):Pg E m0 a:=by
 rcases h with rfl|⟨i,g,hi,hT⟩
 ·rw[S.rt]
 ·rw[(S.tab i a g hi hT).1]
theorem aF.frame (S:aF E m0 f root T)(h:∀a,fL E root T a->∀j:Nat,j<E->word f' (a+4*j)=word f (a+4*j)):aF E m0 f' root T where
 rt:=S.rt
 top i hi:=by erw[h root (.inl rfl) i hi];rw[S.top i hi]
 leaf:=S.leaf
 tab i a g hi hT:=by
  obtain ⟨h1,h2,h3⟩:=S.tab i a g hi hT;rw[⟨h1,h2,λj hj=>by erw[h a (.inr ⟨i,g,hi,hT⟩) j hj];rw[h3 j hj]⟩]
 inj:=S.inj
theorem aF.put (S:aF E m0 f root T)(h0:m0%4=0)(ha:Pg E m0 a)(hj:j<E)(hn:¬fL E root T a):aF E m0 (fset f ((a+4*(j:Int)).fdiv 4) v) root T:=
 S.frame λa' TU j' Up=>bx (aD h0 ha) (aD h0<|S.pg TU)<|cB (S.pg TU) ha (λz=>hn<|z▸TU) Up hj
theorem aF.setTop (S:aF E m0 f root T)(h0:m0%4=0)(hi:i<E)(hs:s.code E=v)(h:s=.none\/∃e,s=.leaf e/\fR e/\e/1024%E=0):aF E m0 (fset f ((root+4*(i:Int)).fdiv 4) v) root (upd T i s) where
 rt:=S.rt
 top j hj:=by
  by_cases z:j=i
  ·clear hi;subst z;rw[af (gX<|aD h0 S.rt)<|af aB<|af hs rfl]
  ·rw[af (bx (aD h0 S.rt) (aD h0 S.rt)<|Et z)<|af (aJ z)<|S.top j hj]
 leaf j e hj hT:=by
  by_cases z:j=i
  ·clear hi;subst z;rw[aB] at hT;rcases h with h|⟨e',h,h1,h2⟩<;>rw[h] at hT<;>cases hT;rw[⟨h1,h2⟩]
  ·rw[aJ z] at hT;rw[S.leaf j e hj hT]
 tab j a g hj hT:=by
  by_cases z:j=i
  ·clear hi;subst z;rw[aB] at hT;rcases h with h|⟨e',h,h1,h2⟩<;>rw[h] at hT<;>rw[bU Slot.ctorIdx hT rfl]
  ·rw[aJ z] at hT;obtain ⟨h1,h2,h3⟩:=S.tab j a g hj hT;rw[⟨h1,h2,λl hl=>by rw[af (bx (aD h0 S.rt) (aD h0 h1)<|cB h1 S.rt h2 hl hi)<|h3 l hl]⟩]
 inj j j' a g g' hj Up hT Tn:=by
  have key:∀j g,upd T i s j=.tab a g->j≠i/\T j=.tab a g:=λj g hT=>by
   by_cases z:j=i
   ·clear hi Tn;subst z;rw[aB] at hT;rcases h with h|⟨e',h,h1,h2⟩<;>rw[h] at hT<;>rw[bU Slot.ctorIdx hT rfl]
   ·rw[aJ z] at hT;rw[⟨z,hT⟩]
  rw[S.inj j j' a g g' hj Up (key j g hT).2 (key j' g' Tn).2]
theorem aF.DU (S:aF E m0 f root T)(h0:m0%4=0)(hi:i<E)(ha:Pg E m0 a)(hn:¬fL E root T a)(hz:∀j:Nat,j<E->word f (a+4*j)=0):aF E m0 (fset f ((root+4*(i:Int)).fdiv 4)<|a/(4*E)*1024+1) root (upd T i<|.tab a λ_=>0) where
 rt:=S.rt
 top j hj:=by
  by_cases z:j=i
  ·subst z;rw[af (gX<|aD h0 S.rt)<|af aB rfl]
  ·rw[af (bx (aD h0 S.rt) (aD h0 S.rt)<|Et z)<|af (aJ z)<|S.top j hj]
 leaf j e hj hT:=by
  by_cases z:j=i
  ·subst z;rw[aB] at hT;rw[bU Slot.ctorIdx hT rfl]
  ·rw[aJ z] at hT;rw[S.leaf j e hj hT]
 tab j a' g hj hT:=by
  by_cases z:j=i
  ·subst z;rw[aB] at hT;cases hT;have hr:a≠root:=λz=>hn<|.inl z;rw[⟨ha,hr,λl hl=>⟨by rw[af (bx (aD h0 S.rt) (aD h0 ha)<|cB ha S.rt hr hl hi) ?_,hz l hl],.inl rfl⟩⟩]
  ·rw[aJ z] at hT;obtain ⟨h1,h2,h3⟩:=S.tab j a' g hj hT;rw[⟨h1,h2,λl hl=>by rw[af (bx (aD h0 S.rt) (aD h0 h1)<|cB h1 S.rt h2 hl hi)<|h3 l hl]⟩]
 inj j j' a' g g' hj Up hT Tn:=by
  by_cases z:j=i<;>by_cases z':j'=i
  ·rw[af z<|af z' rfl]
  ·subst z;rw[aB] at hT;cases hT;rw[aJ z'] at Tn;rw[absurd (.inr ⟨j',g',Up,Tn⟩) hn]
  ·subst z';rw[aB] at Tn;cases Tn;rw[aJ z] at hT;rw[absurd (.inr ⟨j,g,hj,hT⟩) hn]
  ·rw[aJ z] at hT;rw[aJ z'] at Tn;rw[S.inj j j' a' g g' hj Up hT Tn]
theorem aF.qg (S:aF E m0 f root T)(h0:m0%4=0)(hi:i<E)(hT:T i=.tab a g)(hj:j<E)(he:e=0\/fR e):aF E m0 (fset f ((a+4*(j:Int)).fdiv 4) e) root<|upd T i<|.tab a<|upd g j e:=by
 obtain ⟨p1,p2,p3⟩:=S.tab i a g hi hT;exact
 {rt:=S.rt
  top:=λl hl=>by
   rw[af (bx (aD h0 p1) (aD h0 S.rt)<|cB S.rt p1 (Ne.symm p2) hl hj)<|af (S.top l hl) ?_]
   by_cases z:l=i
   ·clear hi;subst z;rw[af aB<|af hT rfl]
   ·rw[af (aJ z) rfl]
  leaf:=λl e' hl Tn=>by
   by_cases z:l=i
   ·clear hi hT;subst z;rw[aB] at Tn;rw[bU Slot.ctorIdx Tn rfl]
   ·rw[aJ z] at Tn;rw[S.leaf l e' hl Tn]
  tab:=λl a' g' hl Tn=>by
   by_cases z:l=i
   ·clear hi hT;subst z;rw[aB] at Tn;cases Tn;rw[⟨p1,p2,λy hy=>?_⟩]
    by_cases w:y=j
    ·clear hj;subst w;rw[af (gX<|aD h0 p1)<|af aB ⟨rfl,he⟩]
    ·rw[af (bx (aD h0 p1) (aD h0 p1)<|Et w)<|af (aJ w)<|p3 y hy]
   ·rw[aJ z] at Tn;obtain ⟨h1,h2,h3⟩:=S.tab l a' g' hl Tn;have SK:a'≠a:=λw=>by clear p1 p2 p3;subst w;rw[z<|S.inj l i a' g' g hl hi Tn hT]
    rw[⟨h1,h2,λy hy=>by rw[af (bx (aD h0 p1) (aD h0 h1)<|cB h1 p1 SK hy hj)<|h3 y hy]⟩]
  inj:=λl l' a' g1 g2 hl SP Zy Zx=>by
   have key:∀l g1,upd T i (.tab a<|upd g j e) l=.tab a' g1->∃g2,T l=.tab a' g2:=λl g1 h=>by
    by_cases z:l=i
    ·clear hi;subst z;rw[aB] at h;clear Zy Zx;cases h;rw[⟨g,hT⟩]
    ·rw[aJ z] at h;rw[⟨g1,h⟩]
   obtain ⟨x,hx⟩:=key l g1 Zy;obtain ⟨y,hy⟩:=key l' g2 Zx;rw[S.inj l l' a' x y hl SP hx hy]}
theorem fu (ha:a%4=0)(hy:y%4=0):word (fm f (a/4) E) y=if a<=y/\y<a+4*E then 0 else word f y:=by
 unfold word fm;rw[af (Am ..) ?_]
 by_cases h:a<=y/\y<a+4*E
 ·rw[af (if_pos<|by rw[(Qf ha hy).mp h])<|af (if_pos h) rfl]
 ·rw[af (if_neg<|by rw[λz=>h<|(Qf ha hy).mpr z])<|af (if_neg h) rfl]
end
variable {Xq:Int->Option Int}{used:List Int}
section
variable {d:Addr}{b:Nat}
inductive m6 (U:St)(a mem:Addr):Prop
 |mk (d l:Addr) (h:U a=some (.inst 721 d [("memory",.ref mem),("stretches",.ref l)]))
theorem A1 {x mem:Addr}(hx:U x=some (.inst 721 dx []))(h:∀l σ',U l=none->l≠x->m6 σ' x mem->(∀y,y≠x->y≠l->σ' y=U y)->k .none σ'):ay (Dd q) (n+1) (.ref 674) [.ref x,.ref mem] U k ke:=by
 rw[<-fp ["self","memory"] rfl rfl (λ_=>rfl) ?_,⟨by simp,λl hl=>?_⟩];have hxl:x≠l:=kE St.ah hl;have SP:U l=none:=by simpa [St.set,Ne.symm hxl] using hl
 have Xl:((U.set x<|.inst 721 dx<|Lo.put "memory" (.ref mem) []).set l<|.list []) x=some (.inst 721 dx<|Lo.put "memory" (.ref mem) []):=by rw[af (St.ai hxl)<|af St.ah rfl]
 left;rw[⟨_,St.le_refl _,h l _ SP (Ne.symm hxl) ⟨dx,l,St.ah⟩ λy h1 h2=>by rw[af (St.ai h1)<|af (St.ai h2)<|af (St.ai h1) rfl]⟩]
theorem uf {mem:Addr}{b e:Int}(hb:m6 U a mem)(hm:jN U mem w f b e)(h1:R2.fmod 4=0)(h2:b<=R2)(h3:R2+4<=e)(h:k (.int<|word f R2) U):
 ay (Dd q) (n+4) (.ref 696) [.ref a,.int R2,.int 4] U k ke:=by
 right;obtain ⟨d,l,ha⟩:=hb;have TA:=hm;obtain ⟨⟨d',TU⟩,hf⟩:=TA;symm;rw[<-fn ["self","address","size","cause"] (ds:=[.int 5]) rfl rfl (iD rfl rfl rfl (λ_=>.cons (.int _ _) .nil) λ_=>rfl) ?_,<-az (qQ<|dT h2) ?_,<-az (qQ<|dT h3) ?_,(ET hm h1 h2 h3 ⟨_,St.le_refl _,h⟩).call]
theorem rW {mem:Addr}{b e:Int}(hb:m6 U a mem)(hm:jN U mem w f b e)(h0:0<=R2)(Xu:R2<2^20)(h1:R2.fmod 4=0)(h2:b<=R2)(h3:R2+4<=e)(hv:0<=v)(WH:v<2^32)
 (h:k .none<|U.set w<|.bD<|fset f (R2.fdiv 4) v):ay (Dd q) (n+4) (.ref 704) [.ref a,.int R2,.int 4,.int v] U k ke:=by
 right;obtain ⟨d,l,ha⟩:=hb;have TA:=hm;obtain ⟨⟨d',TU⟩,hf⟩:=TA;symm;rw[<-fn ["self","address","size","value","cause"] (ds:=[.int 7]) rfl rfl (iD rfl rfl rfl (λ_=>.cons (.int _ _) .nil) λ_=>rfl) ?_,<-az (qQ<|dT h2) ?_,<-az (qQ<|dT h3) ?_,<-(DW hm h0 Xu h1 h2 h3 hv WH ?_).call,rt h]
noncomputable abbrev zo (m:Addr)(b0 p:Int)(u:Nat)(g h:Addr):List<|Str×V:=[("memory",.ref m),("begin",.int b0),("count",.int 10),("size",.int p),("fill",.bool false),("untouched",.int u),("given",.ref g),("held",.ref h)]
structure jM (b0 p:Int)(u:Nat)(gv:List Int)(hf:Int->Option Int)(used:List Int):Prop where
 yO:u<=10
 nd:used.Nodup
 Ow:gv.Nodup
 apart:∀x,x∈gv->x∉used
 all:∀x,(x∈gv\/x∈used)↔∃i:Nat,i<u/\x=b0+i*p
 held:∀x,hf x=if x∈used then some 1 else none
 sum:gv.length+used.length=u
structure jd (U:St)(a m g h:Addr)(b0 p:Int)(u:Nat)(gv:List Int)(hf:Int->Option Int):Prop where
 it:yz U a 841<|zo m b0 p u g h
 gv:U g=some (.list<|gv.map .int)
 hf:U h=some (.bD hf)
inductive i7 (U:St)(a m g h:Addr)(b0 p:Int)(used:List Int):Prop
 |mk (u:Nat) (gv:List Int) (hf:Int->Option Int) (w:jd U a m g h b0 p u gv hf) (ok:jM b0 p u gv hf used)
variable {m g h':Addr}{b0 p:Int}{u:Nat}{gv:List Int}{hf:Int->Option Int}
theorem p5 {i:Int}(P:jd U a m g h' b0 p u gv hf)(hp:p.natAbs<2^64)(h:k (.int<|b0+i*p) U):ay (Dd q) (n+1) (.ref 747) [.ref a,.int i] U k ke:=by
 obtain ⟨⟨d,ha⟩,hg,hh⟩:=P;rw[<-fp ["self","index"] rfl rfl (λ_=>rfl) ?_,<-bG (mul_r hp) ?_,rt h]
theorem g6 (P:i7 U a m g h' b0 p used)(h:k (.int<|10-used.length) U):ay (Dd q) (n+1) (.ref 775) [.ref a] U k ke:=by
 obtain ⟨u,gv,hf,⟨⟨d,ha⟩,hg,hh⟩,ok⟩:=P;rw[<-fp ["self"] rfl rfl (λ_=>rfl) ?_];have h1:=ok.sum;have h2:=ok.yO;rw[<-eg hg (by rw[af (cD ..) ?_,Nat.le_trans (Nat.le.intro h1)<|Nat.le_trans h2 ac]) ?_,af (cD ..)<|af (show (10:Int)-u+gv.length=10-used.length by lia)<|rt h]
theorem rq (P:i7 U a m g h' b0 p used)(hu:used.length<10)(h:k .none U):ay (Dd q) (n+2) (.ref 782) [.ref a,.int 1] U k ke:=by
 right;have P':=P;obtain ⟨u,gv,hf,⟨⟨d,ha⟩,hg,hh⟩,ok⟩:=P';symm;rw[<-fp ["self","count"] rfl rfl (λ_=>rfl) ?_,<-(g6 P ?_).call,<-az (dF<|by lia) ?_,⟨_,St.le_refl _,h⟩]
theorem uX {i:Nat}(P:jd U a m g h' b0 p u gv hf)(hp:0<p)(Sn:p<2^20)(hi:i<10)(h:k (.bool true) U):ay (Dd q) (n+2) (.ref 754) [.ref a,.int<|b0+i*p] U k ke:=by
 right;obtain ⟨⟨d,ha⟩,hg,hh⟩:=P;symm;rw[<-fp ["self","address"] rfl rfl (λ_=>rfl) ?_,yt (by rw[Int.ne_of_gt hp]) (by rw[nab (Int.le_of_lt hp)<|Int.lt_trans Sn ac]) ?_];have e:b0+i*p-b0=p*i:=by rw[af (Int.mul_comm ..) ?_];lia
 have e1:(b0+i*p-b0).fdiv p=i:=by rw[af e<|af (Int.fdiv_eq_ediv_of_nonneg _<|Int.le_of_lt hp)<|af (Int.mul_ediv_cancel_left _<|by rw[Int.ne_of_gt hp]) rfl]
 have e2:(b0+i*p-b0).fmod p=0:=by rw[af e<|af (Int.fmod_eq_emod_of_nonneg _<|Int.le_of_lt hp)<|af (Int.mul_emod_right ..) rfl]
 rw[<-af e1<|af e2 ?_];left;left;erw[dT<|show (i:Int)<10 by rw[Int.ofNat_lt.mpr hi]];rw[rt h]
theorem u5 {i:Nat}(P:jd U a m g h' b0 p u gv hf)(hp:0<p)(Sn:p<2^20)(hi:i<10)(h:k (.int<|(hf<|b0+i*p).getD 0) U):ay (Dd q) (n+3) (.ref 761) [.ref a,.int<|b0+i*p] U k ke:=by
 right;have P':=P;obtain ⟨⟨d,ha⟩,hg,hh⟩:=P';symm;rw[<-fp ["self","address"] rfl rfl (λ_=>rfl) ?_,<-qM ?_];left;rw[<-(uX P hp Sn hi ?_).call];left;rw[<-cC (zK hh) ?_,wY hh ⟨_,St.le_refl _,h⟩]
theorem rm {i:Nat}(P:jd U a m g h' b0 p u gv hf)(hp:0<p)(Sn:p<2^20)(hi:i<10)(h1:hf (b0+i*p)=some 1)(h:k .none U):ay (Dd q) (n+4) (.ref 768) [.ref a,.int<|b0+i*p] U k ke:=by
 have P':=P;obtain ⟨⟨d,ha⟩,hg,hh⟩:=P';rw[<-fp ["self","address"] rfl rfl (λ_=>rfl) ?_,(u5 P hp Sn hi ?_).call,<-af h1 ?_];left;rw[⟨_,St.le_refl _,h⟩]
theorem qA {x:Int}(P:jd U a m g h' b0 p u gv hf)(h:k .none U):ay (Dd q) (n+1) (.ref 789) [.ref a,.int x,.int y] U k ke:=by
 right;obtain ⟨⟨d,ha⟩,hg,hh⟩:=P;symm;rw[<-fp ["self","address","octet"] rfl rfl (λ_=>rfl) ?_];left;rw[⟨_,St.le_refl _,h⟩]
theorem xN {x:Int}(ok:jM b0 p u (gv++[x]) hf used)(e:Xq=nk hf x 1):x∉used/\(∃i:Nat,i<10/\x=b0+i*p)/\jM b0 p u gv Xq (x::used):=by
 right;have h1:x∉used:=ok.apart x (by rw[List.mem_append_right gv List.mem_cons_self]);obtain ⟨i,hi,hx⟩:=(ok.all x).mp (.inl<|by rw[List.mem_append_right gv List.mem_cons_self]);have nd:=ok.Ow;rw[List.nodup_append] at nd;symm;rw[⟨h1,⟨i,Nat.lt_of_lt_of_le hi ok.yO,hx⟩,⟨ok.yO,List.nodup_cons.mpr ⟨h1,ok.nd⟩,nd.1,λy hy=>?_,λy=>?_,λy=>?_,?_⟩⟩]
 ·rw[af (propext List.mem_cons)<|af (propext not_or) ⟨λz=>nd.2.2 y hy x (by rw[List.Mem.head []]) z,ok.apart y<|by rw[List.mem_append_left [x] hy]⟩]
 ·erw[<- ok.all y];simp only [List.mem_append,List.mem_cons,List.not_mem_nil,or_false];rw[or_assoc.symm]
 ·subst e;unfold nk
  by_cases z:y=x
  ·rw[af (if_pos z)<|af (if_pos<|by simp [z]) rfl]
  ·rw[af (if_neg z)<|af (ok.held y) ?_];simp [z]
 ·have:=ok.sum;simp only [List.length_append,List.length_cons,List.length_nil] at this ⊢;lia
theorem uH (ok:jM b0 p u [] hf used)(hp:p≠0)(hu:u<10)(e:Xq=nk hf (b0+u*p) 1):(b0+u*p)∉used/\(∃i:Nat,i<10/\b0+u*p=b0+i*p)/\jM b0 p (u+1) [] Xq ((b0+u*p)::used):=by
 have h1:(b0+u*p)∉used:=λz=>by
  obtain ⟨i,hi,hx⟩:=(ok.all _).mp<|.inr z;have:(u:Int)*p=i*p:=by lia
  have:=Int.eq_of_mul_eq_mul_right hp this;lia
 rw[⟨h1,⟨u,hu,rfl⟩,⟨by rw[hu],List.nodup_cons.mpr ⟨h1,ok.nd⟩,ok.Ow,λy hy=>(nomatch hy),λy=>?_,λy=>?_,?_⟩⟩]
 ·have:=ok.all y;simp only [List.not_mem_nil,false_or,List.mem_cons] at this ⊢
  constructor
  ·rintro (z|z)
   ·rw[⟨u,by rw[Nat.le_refl u.succ],z⟩]
   ·obtain ⟨i,hi,hx⟩:=this.mp z;rw[⟨i,by rw[Nat.le_succ_of_le hi],hx⟩]
  ·rintro ⟨i,hi,hx⟩
   by_cases z:i=u
   ·clear ok hu e h1 this hi;subst z;rw[.inl hx]
   ·rw[.inr<|this.mpr ⟨i,by lia,hx⟩]
 ·subst e;unfold nk
  by_cases z:y=b0+u*p
  ·rw[af (if_pos z)<|af (if_pos<|by simp [z]) rfl]
  ·rw[af (if_neg z)<|af (ok.held y) ?_];simp [z]
 ·have:=ok.sum;simp only [List.length_cons,List.length_nil] at this ⊢;lia
theorem xO {x:Int}(ok:jM b0 p u gv hf used)(hx:x∈used)(e:Xq=oV hf x):jM b0 p u (gv++[x]) Xq<|used.erase x:=by
 have nd:=ok.nd;have hg:x∉gv:=λz=>ok.apart x z hx;rw[⟨ok.yO,nd.erase x,?_,λy hy=>?_,λy=>?_,λy=>?_,?_⟩]
 ·rw[af (propext List.nodup_append) ⟨ok.Ow,by simp,λa ha b hb=>by rw[List.mem_singleton] at hb;clear hx e;subst hb;rw[λz=>hg<|z▸ha]⟩]
 ·rw[af (propext nd.mem_erase_iff) ?_];rcases kX hy with z|z
  ·rw[λw=>ok.apart y z w.2]
  ·rw[List.mem_singleton] at z;rw[λw=>w.1 z]
 ·erw[<- ok.all y,nd.mem_erase_iff,List.mem_append,List.mem_singleton]
  by_cases z:y=x
  ·clear hg;subst z;simp [hx]
  ·simp [z]
 ·subst e;unfold oV
  by_cases z:y=x
  ·erw[if_pos z,if_neg<|by rw[af (propext nd.mem_erase_iff) ?_,λw=>w.1 z]]
  ·rw[af (if_neg z)<|af (ok.held y) ?_];simp [nd.mem_erase_iff,z]
 ·have h1:=ok.sum;have h2:=List.length_pos_of_mem hx;rw[af List.length_append<|af (List.length_erase_of_mem hx)<|af List.length_singleton ?_,(Nat.add_assoc ..).trans ((congrArg (_+·)<|Nat.add_sub_cancel' h2).trans h1)]
end
variable {hf:Int->Option Int}
section
variable {d:Addr}{b:Nat}
variable {m g h':Addr}{b0 p:Int}{u:Nat}{gv:List Int} 
theorem jd.ne (P:jd U a m g h' b0 p u gv hf):a≠g/\a≠h'/\g≠h':=by
 obtain ⟨⟨d,ha⟩,hg,hh⟩:=P;rw[⟨λz=>?_,λz=>?_,λz=>?_⟩]<;>subst z
 ·rw[ha] at hg;rw[bU bI.ctorIdx (sI hg) rfl]
 ·rw[ha] at hh;rw[bU bI.ctorIdx (sI hh) rfl]
 ·rw[hg] at hh;rw[bU bI.ctorIdx (sI hh) rfl]
theorem Bu (P:i7 U a m g h' b0 p used)(hu:used.length<10)(h0:0<=b0)(hp:0<p)(hb:b0+10*p<=2^20)
 (h:∀x σ',x∉used->(∃i:Nat,i<10/\x=b0+i*p)->i7 σ' a m g h' b0 p (x::used)->(∀y,y≠a->y≠g->y≠h'->σ' y=U y)->k (.int x) σ'):ay (Dd q) (n+3) (.ref 796) [.ref a] U k ke:=by
 right;have P0:=P;obtain ⟨u,gv,hf,P1,ok⟩:=P;have P2:=P1;obtain ⟨⟨d,ha⟩,hg,hh⟩:=P2;obtain ⟨ng,nh,Zr⟩:=P1.ne;have hp20:p<2^20:=JY hb h0;symm;rw[Ak ["self"] rfl rfl (λ_=>rfl) ?_,<-xt rfl ?_,<-(rq P0 hu ?_).call,Cut.mk ?_,xc rfl ?_,eU.mono (k:=λf l τ=>∃x u' gv',f=.next/\l=([("self",.ref a),("address",.int x)]:Lo)/\jd τ a m g h' b0 p u' gv' hf/\x∉used/\(∃i:Nat,i<10/\x=b0+i*p)/\jM b0 p u' gv' (nk hf x 1) (x::used)/\(∀y,y≠a->y≠g->τ y=U y)) (ke:=gF) ?_ ?_ λ_ _ _ _ z=>z.elim]
 ·left;rw[<-eg hg (by rw[af (cD ..) ?_];have:=ok.sum;have:=ok.yO;rw[Nat.le_trans (Nat.le.intro ok.sum)<|Nat.le_trans ok.yO ac]) ?_,af (cD ..) ?_];rcases List.eq_nil_or_concat gv with rfl|⟨gv',x,rfl⟩
  ·rw[<-az (dF<|by simp) ?_];have hu10:u<10:=by have:=ok.sum;simp only [List.length_nil] at this;rw[K2 this hu]
   rw[<-(p5 P1 (by lia) ?_).call,<-sN ?_,<-rC (op:=.Add) (f:=(·+·)) ?_ λ_ _ _ _ _ q=>P.iadd_int q];right;obtain ⟨h1,h2,h3⟩:=uH ok (by rw[Int.ne_of_gt hp]) hu10 rfl;symm;rw[⟨_,u+1,[],rfl,rfl,⟨⟨d,?_⟩,?_,?_⟩,h1,h2,h3,λy h1 h2=>St.ai h1⟩]
   ·rw[af St.ah rfl]
   ·rw[af (St.ai<|Ne.symm ng) hg]
   ·rw[af (St.ai<|Ne.symm nh) hh]
  ·rw[List.concat_eq_append] at hg ok ⊢;rw[<-aN (dT<|by simp) ?_,<-cC (zJ hg) ?_];right;obtain ⟨h1,h2,h3⟩:=xN ok rfl;have e:(gv'++[x]).map V.int=gv'.map V.int++[.int x]:=by simp
   symm;rw[<-vC (by rw[af hg<|af e rfl]) (by rw[af (cD ..) ?_];have h5:=ok.sum;have:=ok.yO;simp only [List.length_append] at h5;rw[K1 h5 this]) ?_,⟨x,u,gv',rfl,rfl,⟨⟨d,?_⟩,?_,?_⟩,h1,h2,h3,λy h1 h2=>St.ai h2⟩]
   ·rw[af (St.ai ng) ha]
   ·rw[af St.ah rfl]
   ·rw[af (St.ai<|Ne.symm Zr) hh]
 ·rintro f l τ ⟨x,u',gv',rfl,rfl,PW,h1,⟨i,hi,hx⟩,h3,h4⟩;right;have PW':=PW;obtain ⟨⟨d',TU⟩,hg',V5⟩:=PW';symm;left;have hip:(i:Int)*p<=9*p:=Int.mul_le_mul_of_nonneg_right (by lia)<|Int.le_of_lt hp;have hip0:0<=(i:Int)*p:=Int.mul_nonneg (by rw[nN i])<|Int.le_of_lt hp;rw[sQ V5 (K5 hip0 h0 hx) (Mq hip hb hp hx) ?_];have PW2:jd (τ.set h'<|.bD<|nk hf x 1) a m g h' b0 p u' gv'<|nk hf x 1:=⟨⟨d',by rw[af (St.ai nh) ?_,TU]⟩,by rw[af (St.ai Zr) ?_,hg'],St.ah⟩;obtain ⟨da2,Ui⟩:=PW2.it;left;rw[<-(qA PW2 ?_).call,⟨_,St.le_refl _,h x _ h1 ⟨i,hi,hx⟩ ⟨u',gv',_,PW2,h3⟩ λy z1 z2 z3=>by rw[af (St.ai z3)<|h4 y z1 z2]⟩]
theorem Cn {x:Int}(P:i7 U a m g h' b0 p used)(hx:x∈used)(h0:0<=b0)(hp:0<p)(hb:b0+10*p<=2^20)
 (h:∀σ',i7 σ' a m g h' b0 p (used.erase x)->(∀y,y≠a->y≠g->y≠h'->σ' y=U y)->k (.bool true) σ'):ay (Dd q) (n+5) (.ref 824) [.ref a,.int x] U k ke:=by
 right;obtain ⟨u,gv,hf,P1,ok⟩:=P;have P2:=P1;obtain ⟨⟨d,ha⟩,hg,hh⟩:=P2;obtain ⟨i,hi,rfl⟩:=(ok.all x).mp<|.inr hx;have hi10:i<10:=Nat.lt_of_lt_of_le hi ok.yO;have h1:hf (b0+i*p)=some 1:=by rw[af (ok.held ..)<|af (if_pos hx) rfl]
 symm;rw[<-fp ["self","address"] rfl rfl (λ_=>rfl) ?_,<-(rm P1 hp (JY hb h0) hi10 h1 ?_).call,<-za hh h1 ?_];left;rw[<-cC (wh hh) ?_,wZ hh h1 ?_<|.inl rfl];have Ui:(U.set h'<|.bD<|oV hf<|b0+i*p) a=some (.inst 841 d<|zo m b0 p u g h'):=af (St.ai P1.ne.2.1) ha;have hg2:(U.set h'<|.bD<|oV hf<|b0+i*p) g=some (.list<|gv.map .int):=af (St.ai P1.ne.2.2) hg;left;rw[<-cC (cu hg2) ?_,cy hg2 (by rw[af (cD ..) ?_];have:=ok.sum;have:=ok.yO;lia) ?_];have PW2:jd ((U.set h'<|.bD<|oV hf<|b0+i*p).set g<|.list<|gv.map .int++[.int<|b0+i*p]) a m g h' b0 p u (gv++[b0+i*p])<|oV hf<|b0+i*p:=⟨⟨d,af (St.ai P1.ne.1) Ui⟩,by rw[af St.ah ?_];simp,by rw[af (St.ai<|Ne.symm P1.ne.2.2)<|af St.ah rfl]⟩;obtain ⟨da3,VF⟩:=PW2.it;left;rw[<-(qA PW2 ?_).call,⟨_,St.le_refl _,h _ ⟨u,_,_,PW2,xO ok hx rfl⟩ λy z1 z2 z3=>by rw[af (St.ai z2)<|af (St.ai z3) rfl]⟩]
theorem uJ {x:Addr}(hx:U x=some (.inst 841 dx []))(h0:0<=b0)(h1:1<=p)(h2:b0%p=0)
 (h:∀g h' σ',U g=none->U h'=none->g≠x->h'≠x->i7 σ' x m g h' b0 p []->(∀y,y≠x->y≠g->y≠h'->σ' y=U y)->k .none σ'):ay (Dd q) (n+1) (.ref 740) [.ref x,.ref m,.int b0,.int 10,.int p,.bool false] U k ke:=by
 rw[<-fn ["self","memory","begin","count","size","fill"] (ds:=[]) rfl rfl (iD (us:=[]) rfl rfl rfl (λ_=>.nil) λ_=>rfl) ?_,<-az (jh<|dF<|by rw[Int.not_lt.mpr h0]) ?_,<-az (jh<|dF<|by rw[Int.not_lt.mpr h1]) ?_,<-fq (by rw[Int.ne_of_gt h1]) ?_,<-az (jh<|gH (by erw[Int.fmod_eq_emod_of_nonneg _<|by rw[Int.le_of_lt h1]];rw[h2])) ?_,⟨by simp,λg hg=>?_⟩];simp only [St.set_set] at hg ⊢;have nxg:x≠g:=kE St.ah hg;have hg0:U g=none:=by rw[af (Eq.symm<|hg)<|af (St.ai<|Ne.symm nxg) rfl]
 generalize hats:(Lo.put "untouched" (V.int 0) _)=ats;have hx2:((U.set x<|.inst 841 dx ats).set g<|.list []) x=some (.inst 841 dx ats):=by rw[af (St.ai nxg)<|af St.ah rfl]
 subst hats;left;rw[tW λw hw=>?_];have nxw:x≠w:=kE St.ah hw;have ngw:g≠w:=λz=>by subst z;rw[ak hw<|(St.ai<|Ne.symm nxg).trans St.ah]
 have hw0:U w=none:=by rw[af (Eq.symm<|hw)<|af (St.ai<|Ne.symm nxw)<|af (St.ai<|Ne.symm ngw)<|af (St.ai<|Ne.symm nxw) rfl]
 have hx3:((((U.set x<|.inst 841 dx<|Lo.put "untouched" (.int 0)<|Lo.put "fill" (.bool false)<|Lo.put "size" (.int p)<|Lo.put "count" (.int 10)<|Lo.put "begin" (.int b0)<|Lo.put "memory" (.ref m) []).set g<|.list []).set x
  (.inst 841 dx<|Lo.put "given" (.ref g)<|Lo.put "untouched" (.int 0)<|Lo.put "fill" (.bool false)<|Lo.put "size" (.int p)<|Lo.put "count" (.int 10)<|Lo.put "begin" (.int b0)<|Lo.put "memory" (.ref m) [])).set w (.bD λ_=>none)) x=some
  (.inst 841 dx<|Lo.put "given" (.ref g)<|Lo.put "untouched" (.int 0)<|Lo.put "fill" (.bool false)<|Lo.put "size" (.int p)<|Lo.put "count" (.int 10)<|Lo.put "begin" (.int b0)<|Lo.put "memory" (.ref m) []):=by rw[af (St.ai nxw)<|af St.ah rfl]
 left;rw[⟨_,St.le_refl _,h g w _ hg0 hw0 (Ne.symm nxg) (Ne.symm nxw) ⟨0,[],λ_=>none,⟨⟨dx,?_⟩,?_,?_⟩,⟨by decide,.nil,.nil,λy hy=>(nomatch hy),λy=>?_,λy=>rfl,rfl⟩⟩ λy z1 z2 z3=>?_⟩]
 ·rw[af St.ah rfl]
 ·rw[af (St.ai<|Ne.symm nxg)<|af (St.ai ngw)<|af (St.ai<|Ne.symm nxg)<|af St.ah rfl]
 ·rw[af (St.ai<|Ne.symm nxw)<|af St.ah rfl]
 ·simp
 ·rw[af (St.ai z1)<|af (St.ai z3)<|af (St.ai z1)<|af (St.ai z2)<|af (St.ai z1) rfl]
end
variable {kl:Fl->Lo->St->Prop}{US:ji}{lo:Lo}{sc:Scope}{s:Str}
section
variable {d:Addr}{b:Nat}
theorem l8 (P:Params):mE (KK P) 52:=⟨⟨_,_,_,_,_,_,_,_,_,_,_,_,_,_,_,_,rfl,rfl,rfl,rfl,rfl⟩⟩
theorem fz (P:Params):mE (KK P) 103:=⟨⟨_,_,_,_,_,_,_,_,_,_,_,_,_,_,_,_,rfl,rfl,rfl,rfl,rfl⟩⟩
theorem vm (P:Params):r9 (KK P) 52 36:=⟨l8 P,by kernel_rfl!,by kernel_rfl!⟩
theorem gS (P:Params):r9 (KK P) 103 100:=⟨fz P,by kernel_rfl!,by kernel_rfl!⟩
theorem yf (P:Params):kJ (KK P) 52 "reason":=⟨by kernel_rfl!,by kernel_rfl!,by kernel_rfl!,by kernel_rfl!⟩
theorem tR (P:Params):kJ (KK P) 103 "reason":=⟨by kernel_rfl!,by kernel_rfl!,by kernel_rfl!,by kernel_rfl!⟩
theorem tS (P:Params):kJ (KK P) 103 "cause":=⟨by kernel_rfl!,by kernel_rfl!,by kernel_rfl!,by kernel_rfl!⟩
theorem tQ (P:Params):kJ (KK P) 103 "value":=⟨by kernel_rfl!,by kernel_rfl!,by kernel_rfl!,by kernel_rfl!⟩
theorem As (P:Params):vK (KK P) 103 "cause":=⟨by kernel_rfl!,by kernel_rfl!,by kernel_rfl!,by kernel_rfl!,none,by kernel_rfl!,by kernel_rfl!⟩
theorem Ar (P:Params):vK (KK P) 103 "value":=⟨by kernel_rfl!,by kernel_rfl!,by kernel_rfl!,by kernel_rfl!,none,by kernel_rfl!,by kernel_rfl!⟩
theorem o8 {e C:Addr}(hC:C=52\/C=103)(he:U e=some (.exc C none []))(h:∀d,k .none<|U.set e<|.exc C (some d) [("reason",.str s)]):ay (Dd q) (n+1) (.ref 36) [.ref e,.str s] U k ke:=by
 have hc:mE (Dd q).K C:=by clear he h;rcases hC with rfl|rfl;rw[l8 _,fz _]
 have hs:kJ (Dd q).K C "reason":=by clear hc;rcases hC with rfl|rfl;rw[yf _,tR _]
 rw[<-fn ["self","reason"] (ds:=[]) rfl rfl (iD (us:=[]) rfl rfl rfl (λ_=>.nil) λ_=>rfl) ?_,<-cC (BQ (by kernel_rfl!) (by kernel_rfl!) (v:=.builtin "ValueError.__init__") (by kernel_rfl!)<|by kernel_rfl!) ?_,<-yq hc (by simp) he ?_,BB he hs λd=>⟨_,St.le_refl _,h d⟩]
theorem nP {t:Nat}{p1 p2 p3 pos:Pos}(hx:sc.names.lookup ("BadArgument":Str)=some .globalImplicit)(h:US 52 [("reason",.str s)] lo U)
 (hf:∀env,eval (.Call (.Name "BadArgument" p1) [.Constant (.str s) t p2] [] p3) env=(do callWith p3 (<- eval (.Name "BadArgument" p1) env) [] (backTo p3<|starEach [.Constant (.str s) t p2] env) []):=by intros;rfl)
 (hl:∀env,(backTo p3<|starEach [.Constant (.str s) t p2] env).all (λx=> !x.1)=true:=by intros;rfl):eU (Dd q) (n+3) sc (.Raise (some<|.Call (.Name "BadArgument" p1) [.Constant (.str s) t p2] [] p3) none pos) lo U kl US:=by
 rw[ju ?_,wQ ?_ hf hl,Cv (g5 _) (λ_=>.atom _) hx rfl ?_,AM rfl ?_,args_cons ?_ (by intros;rfl),vo ?_,args_nil ?_,o7 (vm _) (by simp) λe he=>?_,o8 (.inl rfl) St.ah λd=>?_,⟨rfl,e,52,d,_,U,rfl,St.ah,l8 _,?_,he,?_,he,h⟩]
 ·rw[af St.set_set<|St.aY he]
 ·rw[af St.set_set<|St.aY he]
end
section
variable {d:Addr}{b:Nat}
theorem jQ {e:Addr}(he:U e=some (.exc 103 none []))(h0:0<=c)(h1:c<10^18)(h2:v.natAbs<2^64)(h:∀d s,k .none<|U.set e<|.exc 103 (some d) [("reason",.str s),("cause",.int c),("value",.int v)]):ay (Dd q) (n+2) (.ref 100) [.ref e,.int c,.int v] U k ke:=by
 rw[<-fn ["self","cause","value"] (ds:=[]) rfl rfl (iD (us:=[]) rfl rfl rfl (λ_=>.nil) λ_=>rfl) ?_,<-⟨_,_,Ek (mc:=.type "type") (v:=.ref 36) (by kernel_rfl!) (by kernel_rfl!) (by kernel_rfl!)<|by kernel_rfl!,.inr<|.inr<|by kernel_rfl!,?_⟩,yi ?_,<-join_cons ?_,⟨_,rfl,by decide,?_⟩,<-join_cons<|Az ?_,⟨_,rfl,h0,h1,λy1 VN=>⟨_,rfl,?_,?_⟩⟩]
 ·have e5:(Str.empty++Str.ofString "trap ":Str).length=5:=by decide
  rw[Nat.le_trans (Nat.add_le_add (Nat.le_of_eq e5) VN) ac]
 rw[<-join_cons ?_,⟨_,rfl,?_,?_⟩]
 ·rw[af (Str.length_append ..) ?_];have e5:(Str.empty++Str.ofString "trap ":Str).length=5:=by decide
  have e6:(Str.ofString " with ":Str).length=6:=by decide
  rw[Nat.le_trans (Nat.add_le_add (Nat.add_le_add (Nat.le_of_eq e5) VN)<|Nat.le_of_eq e6) ac]
 rw[<-join_cons<|AA ?_,⟨_,rfl,h2,λy2 Yr=>⟨_,rfl,?_,?_⟩⟩]
 ·rw[af (Str.length_append ..)<|af (Str.length_append ..) ?_];have e5:(Str.empty++Str.ofString "trap ":Str).length=5:=by decide
  have e6:(Str.ofString " with ":Str).length=6:=by decide
  rw[Nat.le_trans (Nat.add_le_add (Nat.add_le_add (Nat.add_le_add (Nat.le_of_eq e5) VN)<|Nat.le_of_eq e6) Yr) ac]
 rw[join_nil ?_ ?_]
 ·rw[af (Str.length_append ..)<|af (Str.length_append ..)<|af (Str.length_append ..) ?_];have e5:(Str.empty++Str.ofString "trap ":Str).length=5:=by decide
  have e6:(Str.ofString " with ":Str).length=6:=by decide
  rw[Nat.le_trans (Nat.add_le_add (Nat.add_le_add (Nat.add_le_add (Nat.le_of_eq e5) VN)<|Nat.le_of_eq e6) Yr) ac]
 left;rw[<-(o8 (.inr rfl) he λd=>?_).call,<-zj St.ah (by simp) (tS _) ?_,zj St.ah (Nat.le_of_ble_eq_true rfl) (tQ _) ?_,⟨_,St.le_refl _,?_⟩,af St.set_set<|af St.set_set<|h d _]
end
variable {R5:List Int}{T:Nat->Slot}{σ' T7:St}
structure Bd where
 lay:Addr
 mem:Addr
 words:Addr
 pool:Addr
 rF:Addr
 qz:Addr
 tab:Addr
structure aH (U:St)(B:Bd)(b:Nat)(m0:Int)(f:Int->Option Int)(used:List Int):Prop where
 lay:gb U B.lay b
 mem:jN U B.mem B.words f m0<|m0+12*2^(b+2)
 pool:i7 U B.pool B.mem B.rF B.qz (m0+2*2^(b+2)) (2^(b+2)) used
 tab:yz U B.tab 425 [("memory",.ref B.mem),("layout",.ref B.lay),("pages",.ref B.pool)]
 ne:B.words≠B.qz
def Bd.muts (B:Bd)(y:Addr):Prop:=y=B.words\/y=B.pool\/y=B.rF\/y=B.qz
def eW (B:Bd)(U σ':St):Prop:=∀y,¬B.muts y->σ' y=U y
structure eG (b:Nat)(m0:Int):Prop where
 b2:2<=b
 b5:b<=5
 m:m0=0\/m0=3*2^(b+2)
section
variable {d:Addr}{b:Nat}{B:Bd}{x:Int}{i j:Nat}
theorem pe (b:Nat):(2:Int)^(b+2)=4*((2^b:Nat):Int):=by rw[af (Int.pow_add ..) ?_];simp;lia
theorem iG (b:Nat):(2:Int)^b=((2^b:Nat):Int):=by rfl
theorem eG.e (G:eG b m0):4<=2^b/\2^b<=32:=by
 have h1:2^2<=2^b:=Nat.pow_le_pow_right ac G.b2;have h2:2^b<=2^5:=Nat.pow_le_pow_right ac G.b5;rw[⟨h1,h2⟩]
theorem eG.m4 (G:eG b m0):m0%4=0/\0<=m0/\m0<=384:=by
 have:=G.e;rcases G.m with h|h
 ·clear G;subst h;decide
 ·rw[pe] at h;rw[af h ⟨Int.emod_eq_zero_of_dvd ⟨_,Int.mul_left_comm ..⟩,by rw[nN<|3*(4*2^b)],by rw[Int.ofNat_le.mpr<|Nat.mul_le_mul_left 3<|Nat.mul_le_mul_left 4 this.2]⟩]
theorem eG.mp (G:eG b m0):m0%(4*((2^b:Nat):Int))=0:=by
 rcases G.m with h|h
 ·clear G;subst h;simp
 ·rw[pe] at h;rw[af h ?_];simp
theorem fM {a:Int}(h:Pg E m0 a):m0<=a/\a+4*E<=m0+12*(4*E):=by
 obtain ⟨i,hi,rfl⟩:=h;have h1:(i:Int)*(4*E)<=11*(4*E):=Int.mul_le_mul_of_nonneg_right (by rw[Int.ofNat_le.mpr<|Nat.le_of_lt_succ hi]) (by rw[nN<|4*E]);have h2:0<=(i:Int)*(4*E):=Int.mul_nonneg (by rw[nN i]) (by rw[nN<|4*E]);rw[⟨Int.le_add_of_nonneg_right h2,af (Int.add_assoc ..) (Int.add_le_add_left (Int.le_trans (Int.add_le_add_right h1 _) (Int.le_of_eq ((congrArg (11*(4*(E:Int))+·) (Int.one_mul _).symm).trans (Int.add_mul 11 1 _).symm))) m0)⟩]
theorem aH.same (H:aH U B b m0 f used)(h:∀y,y=B.lay\/y=B.mem\/y=B.words\/y=B.pool\/y=B.rF\/y=B.qz\/y=B.tab->σ' y=U y):aH σ' B b m0 f used:=by
 right;obtain ⟨⟨d1,h1⟩,⟨⟨d2,h2⟩,h3⟩,⟨u,gv,hf,⟨⟨d4,h4⟩,h5,h6⟩,ok⟩,⟨d7,h7⟩,ne⟩:=H;symm;rw[⟨⟨d1,af (h _<|by rw[Or.inl rfl]) h1⟩,⟨⟨d2,af (h _<|by rw[Or.inr<|Or.inl rfl]) h2⟩,af (h _<|by rw[Or.inr<|Or.inr<|Or.inl rfl]) h3⟩,⟨u,gv,hf,⟨⟨d4,af (h _<|by simp) h4⟩,by rw[af (h _<|by simp) ?_,h5],af (h _<|by simp) h6⟩,ok⟩,⟨d7,af (h _<|by simp) h7⟩,ne⟩]
theorem aH.put (H:aH U B b m0 f used)(f':Int->Option Int):aH (U.set B.words<|.bD f') B b m0 f' used/\eW B U (U.set B.words<|.bD f'):=by
 right;obtain ⟨⟨d1,h1⟩,⟨⟨d2,h2⟩,h3⟩,⟨u,gv,hf,⟨⟨d4,h4⟩,h5,h6⟩,ok⟩,⟨d7,h7⟩,ne⟩:=H;symm;have n:∀y o,U y=some o->(∀g,o≠ .bD g)->y≠B.words:=λy o e hn z=>by subst z;rw[h3] at e;(obtain rfl:=sI e;clear e);rw[hn _ rfl]
 rw[⟨⟨⟨d1,?_⟩,⟨⟨d2,?_⟩,St.ah⟩,⟨u,gv,hf,⟨⟨d4,?_⟩,?_,?_⟩,ok⟩,⟨d7,?_⟩,ne⟩,λy hy=>St.ai λz=>hy<|.inl z⟩]
 ·erw[St.ai<|n _ _ h1 (by intro g z;rw[bU bI.ctorIdx z rfl])];rw[h1]
 ·erw[St.ai<|n _ _ h2 (by intro g z;rw[bU bI.ctorIdx z rfl])];rw[h2]
 ·erw[St.ai<|n _ _ h4 (by intro g z;rw[bU bI.ctorIdx z rfl])];rw[h4]
 ·erw[St.ai<|n _ _ h5 (by intro g z;rw[bU bI.ctorIdx z rfl])];rw[h5]
 ·rw[af (St.ai<|Ne.symm ne) h6]
 ·erw[St.ai<|n _ _ h7 (by intro g z;rw[bU bI.ctorIdx z rfl])];rw[h7]
theorem aH.turn (H:aH U B b m0 f used)(P:i7 σ' B.pool B.mem B.rF B.qz (m0+2*2^(b+2)) (2^(b+2)) R5)(h:∀y,y≠B.pool->y≠B.rF->y≠B.qz->σ' y=U y):aH σ' B b m0 f R5/\eW B U σ':=by
 right;obtain ⟨⟨d1,h1⟩,⟨⟨d2,h2⟩,h3⟩,⟨u,gv,hf,⟨⟨d4,h4⟩,h5,h6⟩,ok⟩,⟨d7,h7⟩,ne⟩:=H;have n:∀y o,U y=some o->(∀d ats,o≠ .inst 841 d ats)->(∀vs,o≠ .list vs)->(∀g,o≠ .bD g)->σ' y=some o:=λy o e n1 n2 n3=>by
  erw[h y (λz=>?_) (λz=>?_) λz=>?_,e]
  ·subst z;rw[h4] at e;(clear n2 n3;obtain rfl:=sI e;clear e);rw[n1 _ _ rfl]
  ·subst z;rw[h5] at e;(clear n1;obtain rfl:=sI e;clear e);rw[n2 _ rfl]
  ·subst z;rw[h6] at e;(obtain rfl:=sI e;clear e);rw[n3 _ rfl]
 have hw:σ' B.words=some (.bD f):=by
  erw[h _ (λz=>?_) (λz=>?_) ne];rw[h3]
  ·rw[z,h4] at h3;rw[bU bI.ctorIdx (sI h3) rfl]
  ·rw[z,h5] at h3;rw[bU bI.ctorIdx (sI h3) rfl]
 symm;exact ⟨⟨⟨d1,n _ _ h1 (by intro _ _ z;cases z) (by intro _ z;rw[bU bI.ctorIdx z rfl]) (by intro _ z;rw[bU bI.ctorIdx z rfl])⟩,⟨⟨d2,n _ _ h2 (by intro _ _ z;cases z) (by intro _ z;rw[bU bI.ctorIdx z rfl]) (by intro _ z;rw[bU bI.ctorIdx z rfl])⟩,hw⟩,P,⟨d7,n _ _ h7 (by intro _ _ z;cases z) (by intro _ z;rw[bU bI.ctorIdx z rfl]) (by intro _ z;rw[bU bI.ctorIdx z rfl])⟩,ne⟩,
  λy hy=>h y (λz=>hy<|.inr<|.inl z) (λz=>hy<|.inr<|.inr<|.inl z) λz=>hy<|.inr<|.inr<|.inr z⟩
theorem eW.trans (h:eW B U σ')(h':eW B σ' T7):eW B U T7:=λy hy=>(h' y hy).trans<|h y hy
theorem eW.refl:eW B U U:=λ_ _=>rfl
theorem rd (G:eG b m0)(H:aH U B b m0 f used)(ha:Pg (2^b) m0 y)(hi:i<2^b)(h:k (.int<|word f<|y+4*i) U):ay (Dd q) (n+2) (.ref 487) [.ref B.mem,.int<|y+4*i] U k ke:=by
 have h1:=fM ha;have h2:=aD (j:=i) G.m4.1 ha;rw[vN H.mem ?_ (Ml h2 h1) (af (pe ..)<|MP h2 h1 hi) h,af (Int.fmod_eq_emod_of_nonneg _ ac) h2]
theorem wr (G:eG b m0)(H:aH U B b m0 f used)(ha:Pg (2^b) m0 y)(hi:i<2^b)(hv:0<=v)(WH:v<2^32)(h:∀σ',aH σ' B b m0 (fset f ((y+4*(i:Int)).fdiv 4) v) used->eW B U σ'->k .none σ'):ay (Dd q) (n+2) (.ref 494) [.ref B.mem,.int<|y+4*i,.int v] U k ke:=by
 have h1:=fM ha;have h2:=aD (j:=i) G.m4.1 ha;have h3:=G.m4;have h4:=G.e;obtain ⟨p1,p2⟩:=H.put<|fset f ((y+4*(i:Int)).fdiv 4) v;rw[mO H.mem (MZ h3 h2 h1) (OF h3 h2 h4 h1 hi) ?_ (MY h3 h2 h1) (af (pe ..)<|OC h3 h2 h1 hi) hv WH<|h _ p1 p2,af (Int.fmod_eq_emod_of_nonneg _ ac) h2]
theorem sH {x lay mem pool:Addr}(hx:U x=some (.inst 425 dx []))(h:k .none<|U.set x<|.inst 425 dx [("memory",.ref mem),("layout",.ref lay),("pages",.ref pool)]):ay (Dd q) (n+1) (.ref 284) [.ref x,.ref mem,.ref lay,.ref pool] U k ke:=by
 rw[<-fp ["self","memory","layout","pages"] rfl rfl (λ_=>rfl) ?_];simp only [St.set_set];rw[⟨_,St.le_refl _,h⟩]
noncomputable def cI (E:Nat)(x:Int):Nat:=(x/(4*E)/E).toNat
noncomputable def cM (E:Nat)(x:Int):Nat:=(x/(4*E)%E).toNat
theorem rA (h0:0<=x):x/(4*E)/E=(cI E x:Int):=(Int.toNat_of_nonneg<|Int.ediv_nonneg (Int.ediv_nonneg h0<|by rw[nN<|4*E])<|by rw[nN E]).symm
theorem uV (hE:0<E)(h0:0<=x):x/(4*E)%E=(cM E x:Int):=(Int.toNat_of_nonneg<|Int.emod_nonneg _<|zR hE).symm
theorem fX (hE:0<E):cM E x<E:=by
 have:=Int.emod_lt_of_pos (x/(4*(E:Int))) (show (0:Int)<E by rw[Int.ofNat_lt.mpr hE]);have h0:=Int.emod_nonneg (x/(4*(E:Int))) (show (E:Int)≠0 by rw[zR hE]);unfold cM;rw[(Int.toNat_lt h0).mpr this]
theorem dR (hE:0<E)(h0:0<=x)(h:x<4*E*E*E):cI E x<E:=by
 have h1:x/(4*(E:Int))<E*E:=Int.ediv_lt_of_lt_mul (zW hE)<|af (Int.mul_comm ..)<|af (Eq.symm<|Int.mul_assoc ..) h;have h2:x/(4*(E:Int))/E<E:=Int.ediv_lt_of_lt_mul (by rw[Int.ofNat_lt.mpr hE]) h1;have:=rA (E:=E) h0;rw[Int.ofNat_lt.mp<|this▸h2]
def fB (b:Nat)(x:Int):Prop:=0<=x/\x<4*((2^b:Nat):Int)*((2^b:Nat):Int)*((2^b:Nat):Int)
theorem cK (G:eG b m0)(H:aH U B b m0 f used)(hx:fB b x)(h:k (.tup [.int<|cI (2^b) x,.int<|cM (2^b) x,.int<|x%(4*((2^b:Nat):Int))]) U):ay (Dd q) (n+2) (.ref 298) [.ref B.tab,.int x] U k ke:=by
 obtain ⟨d,ha⟩:=H.tab;have hl:=H.lay;obtain ⟨dl,SP⟩:=hl;have hE:=G.e;rw[<-fp ["self","address"] rfl rfl (λ_=>rfl) ?_,(sS H.lay hx.1 (af (pe ..)<|af (iG ..) hx.2) ?_).call];erw[pe,iG,rA hx.1,uV (eO hE) hx.1];left;rw[<-rV rfl ?_];left;rw[rt h]
theorem ow (H:aH U B b m0 f used)(hx:¬fB b x)(h:∀s,ke 52 [("reason",.str s)] U):ay (Dd q) (n+4) (.ref 298) [.ref B.tab,.int x] U k ke:=by
 obtain ⟨d,ha⟩:=H.tab;obtain ⟨dl,SP⟩:=H.lay;rw[<-fp ["self","address"] rfl rfl (λ_=>rfl) ?_,(qk H.lay (λz=>hx ⟨z.1,?_⟩) ?_).call]
 ·have:=z.2;rw[pe,iG] at this;rw[this]
 left;rw[<-Dn ?_];left;rw[nP rfl (h _)]
end
variable {B:Bd}{ph:Int}
section
variable {d:Addr}{b:Nat}{x:Int}{i j:Nat}{e:Int}
theorem cX (h0:0<=y)(h1:y<2^20)(hE:0<E):0<=(Slot.tab y g).code E/\(Slot.tab y g).code E<2^32/\Builtin.bitAnd ((Slot.tab y g).code E) 1=1/\Builtin.bitAnd ((Slot.tab y g).code E) 10=0:=by
 have h2:0<=y/(4*(E:Int)):=Int.ediv_nonneg h0 (by rw[nN<|4*E]);have h3:y/(4*(E:Int))<=y:=Int.ediv_le_self _ h0;rw[af (show (Slot.tab y g).code E=y/(4*E)*1024+1 from rfl) ?_];have h4:(y/(4*(E:Int))*1024+1)%2^10=1:=by rw[Fv ac ac]
 rw[⟨Es h2,Lk h3 h1,?_,?_⟩]
 ·rw[af (dh 10 (Es h2) ac ac)<|af h4 rfl]
 ·rw[af (dh 10 (Es h2) ac ac)<|af h4 rfl]
theorem z1:Builtin.bitAnd 0 1=0:=by decide
theorem yo (hE:0<E)(hm:y%(4*E)=0):(Slot.tab y g).code E/1024*(4*E)=y:=by
 have:(y/(4*(E:Int))*1024+1)/1024=y/(4*E):=by rw[Oa ac ac]
 rw[af this<|Int.ediv_mul_cancel<|Int.dvd_of_emod_eq_zero hm]
noncomputable def entryAt (T:Nat->Slot)(i j:Nat):Int:=match T i with
 |.none=>0
 |.leaf e=>e
 |.tab _ g=>g j
theorem ck (h:T i=.tab y g):entryAt T i j=g j:=by unfold entryAt;rw[af h rfl]
theorem cH (h:T i=.leaf e):entryAt T i j=e:=by unfold entryAt;rw[af h rfl]
theorem cV (h:T i=.none):entryAt T i j=0:=by unfold entryAt;rw[af h rfl]
theorem fW (G:eG b m0)(H:aH U B b m0 f used)(S:aF (2^b) m0 f root T)(hi:i<2^b)(h:k (.int<|(T i).code<|2^b) U):ay (Dd q) (n+2) (.ref 487) [.ref B.mem,.int<|root+4*i] U k ke:=
 rd G H S.rt hi (af (S.top i hi) h)
theorem kD (G:eG b m0)(H:aH U B b m0 f used)(S:aF (2^b) m0 f root T)(hi:i<2^b)(hT:T i=.tab y g)(hj:j<2^b)(h:k (.int<|g j) U):ay (Dd q) (n+2) (.ref 487) [.ref B.mem,.int<|y+4*j] U k ke:=
 rd G H (S.tab i y g hi hT).1 hj (af ((S.tab i y g hi hT).2.2 j hj).1 h)
theorem fJ (G:eG b m0)(H:aH U B b m0 f used)(S:aF (2^b) m0 f root T)(hi:i<2^b)(hT:T i=.tab y g)(h:k (.int y) U):ay (Dd q) (n+1) (.ref 179) [.ref B.lay,.int<|(Slot.tab y g).code<|2^b] U k ke:=by
 right;have hp:=(S.tab i y g hi hT).1;have h1:=fM hp;have h2:=G.m4;have h3:=G.e;obtain ⟨c0,c1,_⟩:=cX (g:=g) (E:=2^b) (show 0<=y by rw[wo h2 h1]) (yD h2 h3 h1)<|eO h3;symm;rw[mP H.lay c0 (JS c1) ?_ (by have:=G.b5;rw[BX this]),af (pe ..)<|af (yo (eO h3)<|hp.mod G.mp) h]
theorem cY (H:aH U B b m0 f used)(h0:0<=fl)(h1:fl<1024)(h2:Builtin.bitAnd fl 10≠0)(h3:Builtin.bitAnd (Builtin.bitOr fl 1) 6≠4)(h4:Builtin.bitAnd (Builtin.bitOr fl 1) 1≠0)(h:k .none U):ay (Dd q) (n+2) (.ref 327) [.ref B.tab,.int fl] U k ke:=by
 rw[<-fp ["self","flags"] rfl rfl (λ_=>rfl) ?_];have e1:Builtin.bitAnd fl (-1023-1)=0:=by
  erw[gj,show (1023:Int)=2^10-1 by decide,cQ 10 h0,Int.emod_eq_of_lt h0<|by rw[h1]];rw[El]
 rw[<-az (jh<|gH e1) ?_,<-(bq ?_).call,<-az (jh<|gI<|neT h2) ?_,<-(jD ?_).call,<-az (jh<|gI<|af (neT h4)<|af (neT h3) rfl) ?_,⟨_,St.le_refl _,h⟩]
theorem oA (H:aH U B b m0 f used)(h0:0<=fl)(h1:fl<1024)(hb:Builtin.bitAnd fl 10=0\/Builtin.bitAnd (Builtin.bitOr fl 1) 6=4)(h:∀s,ke 52 [("reason",.str s)] U):ay (Dd q) (n+4) (.ref 327) [.ref B.tab,.int fl] U k ke:=by
 rw[<-fp ["self","flags"] rfl rfl (λ_=>rfl) ?_];have e1:Builtin.bitAnd fl (-1023-1)=0:=by
  erw[gj,show (1023:Int)=2^10-1 by decide,cQ 10 h0,Int.emod_eq_of_lt h0<|by rw[h1]];rw[El]
 rw[<-az (jh<|gH e1) ?_,<-(bq ?_).call]
 by_cases h2:Builtin.bitAnd fl 10=0
 ·rw[<-aN (zx<|n7<|gH h2) ?_,<-aN (n7<|gH h2) ?_,nP rfl (h _)]
 ·rw[<-az (jh<|gI<|neT h2) ?_];have h3:=hb.resolve_left h2;rw[<-(jD ?_).call];have e2:(!(Builtin.bitAnd (Builtin.bitOr fl 1) 1 !=0&&Builtin.bitAnd (Builtin.bitOr fl 1) 6 !=4))=true:=af (gH h3)<|af (Bool.and_false ..) rfl;rw[<-aN (zx e2) ?_,<-aN e2 ?_,nP rfl (h _)]
theorem eX {sz:Int}(H:aH U B b m0 f used)(hb:b<=5)(h0:0<=ph)(h1:ph<2^22*2^(b+2))(h2:ph%sz=0)(h3:0<sz)(h:k .none U):ay (Dd q) (n+1) (.ref 334) [.ref B.tab,.int ph,.int sz] U k ke:=by
 right;obtain ⟨d,ha⟩:=H.tab;obtain ⟨dl,SP⟩:=H.lay;symm;rw[<-fp ["self","physical","size"] rfl rfl (λ_=>rfl) ?_,<-fq (by rw[Int.ne_of_gt h3]) ?_,<-az (jh<|gH<|af (Int.fmod_eq_emod_of_nonneg _<|by rw[Int.le_of_lt h3]) h2) ?_,<-aN (dT h0) ?_,<-pB (by rw[nN<|32-Nat.succ 9+(b+2)]) (by lia) ac ?_];have e1:(1:Int)*2^(32-10+((b:Int)+2)).toNat=2^22*2^(b+2):=by
  erw[show (32-10+((b:Int)+2)).toNat=22+(b+2) by rw[rfl],Int.pow_add,Int.one_mul]
 rw[<-az (jh<|gI<|dT<|af e1 h1) ?_,⟨_,St.le_refl _,h⟩]
theorem lB (G:eG b m0)(H:aH U B b m0 f used)(S:aF (2^b) m0 f root T)(hx:fB b x)(h:k (.int<|entryAt T (cI (2^b) x)<|cM (2^b) x) U):ay (Dd q) (n+3) (.ref 313) [.ref B.tab,.int root,.int x] U k ke:=by
 right;obtain ⟨d,ha⟩:=H.tab;obtain ⟨dm,TA⟩:=H.mem.it;obtain ⟨dl,SP⟩:=H.lay;have hE:=G.e;have hi:=dR (E:=2^b) (eO hE) hx.1 hx.2;have hj:=fX (E:=2^b) (x:=x)<|eO hE;symm;rw[<-fp ["self","root","address"] rfl rfl (λ_=>rfl) ?_,<-(cK G H hx ?_).call,<-bG (cF ac) ?_,<-(fW G H S hi ?_).call]
 cases hT:T (cI (2^b) x) with
 |none=>
  rw[<-aN (zx<|eqT z1) ?_];left;left;rw[cV hT] at h;rw[rt h]
 |leaf e=>
  right;obtain ⟨⟨l0,l1,l2,l3,l4⟩,_⟩:=S.leaf _ e hi hT;symm;rw[<-az (jh<|oX l2) ?_,<-(bq ?_).call,<-aN (zx<|neT l3) ?_,<-aN (neT l3) ?_,<-aN (neT l2) ?_];rw[cH hT] at h;rw[rt h]
 |tab y g=>
  right;obtain ⟨p1,p2,p3⟩:=S.tab _ y g hi hT;have h1:=fM p1;have h2:=G.m4;obtain ⟨c0,c1,c2,c3⟩:=cX (g:=g) (E:=2^b) (show 0<=y by rw[wo h2 h1]) (yD h2 hE h1)<|eO hE;symm;rw[<-az (jh<|oX (by rw[af c2 ?_];decide)) ?_,<-(bq ?_).call,<-az (jh<|gH c3) ?_,<-(fJ G H S hi hT ?_).call,<-bG (cF ac) ?_,<-(kD G H S hi hT hj ?_).call];rw[ck hT] at h;rcases (p3 _ hj).2 with z|z
  ·rw[z] at h ⊢;rw[<-az (gH rfl) ?_,rt h]
  ·rw[<-aN (neT z.2.2.1) ?_,rt h]
end
section
variable {d:Addr}{b:Nat}{x:Int}{i j:Nat}{e:Int} 
def Rest (E:Nat)(m0:Int)(root:Int)(T:Nat->Slot)(used:List Int)(f f':Int->Option Int):Prop:=
 ∀a,a∈used->Pg E m0 a->¬fL E root T a->∀j:Nat,j<E->word f' (a+4*j)=word f (a+4*j)
structure f6 (B:Bd)(b:Nat)(m0:Int)(f:Int->Option Int)(used:List Int)(root:Int)(T:Nat->Slot)(U σ':St)(f':Int->Option Int)(R5:List Int)(T':Nat->Slot):Prop where
 bd:aH σ' B b m0 f' R5
 same:eW B U σ'
 sp:aF (2^b) m0 f' root T'
 rest:Rest (2^b) m0 root T used f f'
theorem jw (h0:m0%4=0)(hp:fL E root T y)(hy:Pg E m0 y)(hj:j<E):Rest E m0 root T used f<|fset f ((y+4*(j:Int)).fdiv 4) v:=λa _ ha hn l hl=>
 bx (aD h0 hy) (aD h0 ha) (cB ha hy (λz=>hn<|z▸hp) hl hj)
theorem yI {b e:Int}{m:Nat}(hc:c=4*(m:Int))(hm:jN U a w f b e)(h0:0<=R2)(h1:R2%4=0)(h2:b<=R2)(h3:R2+4*m<=e)(h4:e<2^20)
 (h:k .none<|U.set w<|.bD<|fm f (R2/4) m):ay (Dd q) (n+3) (.ref 571) [.ref a,.int R2,.int c] U k ke:=by
 subst hc;rw[Bp hm h0 h1 h2 h3 h4 h]
theorem iP (G:eG b m0)(H:aH U B b m0 f used)(hu:used.length<10)
 (h:∀y σ',y∉used->Pg (2^b) m0 y->aH σ' B b m0 (fm f (y/4)<|2^b) (y::used)->eW B U σ'->k (.int y) σ'):ay (Dd q) (n+4) (.ref 291) [.ref B.tab] U k ke:=by
 obtain ⟨d,ha⟩:=H.tab;have hE:=G.e;have h4:=G.m4;rw[fp ["self"] rfl rfl (λ_=>rfl) ?_];have Ub:=H.pool;obtain ⟨u,gv,hf,⟨⟨dp,Sn⟩,_,_⟩,_⟩:=Ub;left;rw[(Bu H.pool hu (af (pe ..)<|EB h4 hE) (af (pe ..)<|BW hE) (af (pe ..)<|LN h4 hE) λy RS hy hi P1 s1=>?_).call];obtain ⟨H1,S1⟩:=H.turn P1 s1;have TN:Pg (2^b) m0 y:=by
  clear hy P1 H1;obtain ⟨i,hi,rfl⟩:=hi;rw[⟨i+2,Kp hi,?_⟩];erw[pe,show ((i+2:Nat):Int)=(i:Int)+2 by rw[rfl],Int.add_mul];rw[JM]
 obtain ⟨d1,TS⟩:=H1.tab;obtain ⟨Yl,Xo⟩:=H1.mem.it;obtain ⟨Wm,TP⟩:=H1.lay;left;have SM:=fM TN;rw[<-(yI (pe b) H1.mem (wo h4 SM) (TN.kU h4.1) (MC h4 SM) (af (pe ..)<|MM h4 SM) (af (pe ..)<|MJ h4 hE) ?_).call];obtain ⟨H2,S2⟩:=H1.put<|fm f (y/4)<|2^b;rw[rt<|h y _ hy TN H2<|S1.trans S2]
theorem xx (G:eG b m0)(H:aH U B b m0 f used)(S:aF (2^b) m0 f root T)(hx:fB b x)(hT:T (cI (2^b) x)=.tab y g)(h:k (.int<|y+4*(cM (2^b) x:Int)) U):ay (Dd q) (n+3) (.ref 306) [.ref B.tab,.int root,.int x] U k ke:=by
 right;obtain ⟨d,ha⟩:=H.tab;obtain ⟨dm,TA⟩:=H.mem.it;obtain ⟨dl,SP⟩:=H.lay;have hE:=G.e;have hi:=dR (E:=2^b) (eO hE) hx.1 hx.2;symm;rw[<-fn ["self","root","address","make"] (ds:=[.bool false]) rfl rfl (iD rfl rfl rfl (λ_=>.cons (.bool _) .nil) λ_=>rfl) ?_,<-(cK G H hx ?_).call,<-bG (cF ac) ?_,<-(fW G H S hi ?_).call,af hT ?_];right;have hp:=(S.tab _ y g hi hT).1;have h1:=fM hp;have h2:=G.m4;obtain ⟨c0,c1,c2,c3⟩:=cX (g:=g) (E:=2^b) (show 0<=y by rw[wo h2 h1]) (yD h2 hE h1)<|eO hE;symm;rw[<-az (oX (by rw[af c2 ?_];decide)) ?_,<-(bq ?_).call,<-az (gH c3) ?_,<-(fJ G H S hi hT ?_).call,<-bG (cF ac) ?_,rt h]
theorem xw (G:eG b m0)(H:aH U B b m0 f used)(S:aF (2^b) m0 f root T)(hx:fB b x)(hT:T (cI (2^b) x)=.tab y g)(h:k (.int<|y+4*(cM (2^b) x:Int)) U):ay (Dd q) (n+3) (.ref 306) [.ref B.tab,.int root,.int x,.bool true] U k ke:=by
 right;obtain ⟨d,ha⟩:=H.tab;obtain ⟨dm,TA⟩:=H.mem.it;obtain ⟨dl,SP⟩:=H.lay;have hE:=G.e;have hi:=dR (E:=2^b) (eO hE) hx.1 hx.2;symm;rw[<-fn ["self","root","address","make"] (ds:=[]) rfl rfl (iD (us:=[]) rfl rfl rfl (λ_=>.nil) λ_=>rfl) ?_,<-(cK G H hx ?_).call,<-bG (cF ac) ?_,<-(fW G H S hi ?_).call,af hT ?_];right;have hp:=(S.tab _ y g hi hT).1;have h1:=fM hp;have h2:=G.m4;obtain ⟨c0,c1,c2,c3⟩:=cX (g:=g) (E:=2^b) (show 0<=y by rw[wo h2 h1]) (yD h2 hE h1)<|eO hE;symm;rw[<-az (oX (by rw[af c2 ?_];decide)) ?_,<-(bq ?_).call,<-az (gH c3) ?_,<-(fJ G H S hi hT ?_).call,<-bG (cF ac) ?_,rt h]
theorem uv (G:eG b m0)(H:aH U B b m0 f used)(S:aF (2^b) m0 f root T)(hx:fB b x)(hT:T (cI (2^b) x)=.none)(hu:used.length<10)(Vv:∀a,fL (2^b) root T a->a∈used)
 (h:∀y σ' f',y∉used->Pg (2^b) m0 y->f6 B b m0 f used root T U σ' f' (y::used) (upd T (cI (2^b) x)<|.tab y λ_=>0)->k (.int<|y+4*(cM (2^b) x:Int)) σ'):ay (Dd q) (n+5) (.ref 306) [.ref B.tab,.int root,.int x,.bool true] U k ke:=by
 right;obtain ⟨d,ha⟩:=H.tab;obtain ⟨dm,TA⟩:=H.mem.it;obtain ⟨dl,SP⟩:=H.lay;have hE:=G.e;have h4:=G.m4;have hi:=dR (E:=2^b) (eO hE) hx.1 hx.2;symm;rw[<-fn ["self","root","address","make"] (ds:=[]) rfl rfl (iD (us:=[]) rfl rfl rfl (λ_=>.nil) λ_=>rfl) ?_,<-(cK G H hx ?_).call,<-bG (cF ac) ?_,<-(fW G H S hi ?_).call,af hT ?_,<-aN (eqT z1) ?_];left;rw[(iP G H hu λy RS hy TN H1 S1=>?_).call];right;have SM:=fM TN;have nroot:¬fL (2^b) root T y:=λz=>hy<|Vv y z;have Sp1:aF (2^b) m0 (fm f (y/4)<|2^b) root T:=S.frame λa ha j hj=>by
  erw[fu (TN.kU h4.1)<|aD h4.1<|S.pg ha,if_neg];rintro ⟨w1,w2⟩;obtain ⟨jj,Wk⟩:∃jj:Nat,a+4*(j:Int)=y+4*(jj:Int)/\jj<2^b:=⟨((a+4*(j:Int)-y)/4).toNat,by
   have m1:=aD (j:=j) h4.1<|S.pg ha;have m2:=TN.kU h4.1;rw[QI m1 hE m2 w2 w1]⟩
  rw[cB (S.pg ha) TN (λz=>nroot<|z▸ha) hj Wk.2 Wk.1]
 obtain ⟨d1,TS⟩:=H1.tab;obtain ⟨Yl,Xo⟩:=H1.mem.it;obtain ⟨Wm,TP⟩:=H1.lay;symm;left;rw[<-(lD H1.lay (wo h4 SM) (M0 h4 hE SM) ac ac ?_).call];have c:=cX (g:=λ_=>0) (E:=2^b) (show 0<=y by rw[wo h4 SM]) (yD h4 hE SM)<|eO hE;rw[af (pe ..) ?_,(wr G H1 S.rt hi c.1 c.2.1 λRU H2 S2=>?_).call];right;have Sp2:=Sp1.DU h4.1 hi TN nroot λj hj=>by
  rw[af (fu (TN.kU h4.1)<|aD h4.1 TN)<|af (if_pos<|Ma hj) rfl]
 have tn:f6 B b m0 f used root T U RU _ (y::used)<|upd T (cI (2^b) x)<|.tab y λ_=>0:=⟨H2,S1.trans S2,Sp2,λa Yv ha hn j hj=>by
  rw[show (Slot.tab y λ_=>0).code (2^b)=y/(4*((2^b:Nat):Int))*1024+1 from rfl] at*;erw[bx (aD h4.1 S.rt) (aD h4.1 ha)<|cB ha S.rt (λz=>hn<|.inl z) hj hi,fu (TN.kU h4.1)<|aD h4.1 ha,if_neg];rintro ⟨w1,w2⟩;obtain ⟨jj,Wk⟩:∃jj:Nat,a+4*(j:Int)=y+4*(jj:Int)/\jj<2^b:=⟨((a+4*(j:Int)-y)/4).toNat,by
   have m1:=aD (j:=j) h4.1 ha;have m2:=TN.kU h4.1;rw[QI m1 hE m2 w2 w1]⟩
  rw[cB ha TN (λz=>hy<|z▸Yv) hj Wk.2 Wk.1]⟩
 obtain ⟨d2,Ui⟩:=H2.tab;obtain ⟨Yx,Xn⟩:=H2.mem.it;obtain ⟨Yy,SW⟩:=H2.lay;symm;left;rw[<-(fJ (g:=λ_=>0) G H2 Sp2 hi aB ?_).call,<-bG (cF ac) ?_,rt<|h y _ _ hy TN tn]
end
structure p6 (fl:Int):Prop where
 h0:0<=fl
 h1:fl<1024
 leaf:Builtin.bitAnd fl 10≠0
 sound:Builtin.bitAnd (Builtin.bitOr fl 1) 6≠4
 valid:Builtin.bitAnd (Builtin.bitOr fl 1) 1≠0
 o0:0<=Builtin.bitOr fl 1
 o1:Builtin.bitOr fl 1<1024
 FP:Builtin.bitAnd (Builtin.bitOr fl 1) 10≠0
noncomputable def we (E:Nat)(ph fl:Int):Int:=ph/(4*E)*1024+Builtin.bitOr fl 1
structure lM (b:Nat)(ph:Int):Prop where
 h0:0<=ph
 h1:ph<2^22*(4*((2^b:Nat):Int))
section
variable {d:Addr}{b:Nat}{x:Int}{i j:Nat}{e:Int} 
theorem oM {fr:Int}(h0:0<=fr)(h1:fr<2^22)(c0:0<=c)(c1:c<1024)(v1:Builtin.bitAnd c 1≠0)(v2:Builtin.bitAnd c 10≠0)(v3:Builtin.bitAnd c 6≠4):fR (fr*1024+c)/\(fr*1024+c)/1024=fr:=by
 have e:(fr*1024+c)%2^10=c:=K9 c0 c1;rw[⟨⟨s8 c0 h0,zY h1 c1,?_,?_,?_⟩,by rw[Oa c0 c1]⟩]
 ·rw[af (dh 10 (s8 c0 h0) ac ac)<|af e v1]
 ·rw[af (dh 10 (s8 c0 h0) ac ac)<|af e v2]
 ·rw[af (dh 10 (s8 c0 h0) ac ac)<|af e v3]
theorem lM.fr (hE:0<2^b)(P:lM b ph):0<=ph/(4*((2^b:Nat):Int))/\ph/(4*((2^b:Nat):Int))<2^22:=
 ⟨Int.ediv_nonneg P.h0<|by rw[nN<|4*2^b],Int.ediv_lt_of_lt_mul (Ew hE) P.h1⟩
theorem kZ (hE:0<2^b)(P:lM b ph)(F:p6 fl):fR (we (2^b) ph fl)/\we (2^b) ph fl/1024=ph/(4*((2^b:Nat):Int)):=
 oM (P.fr hE).1 (P.fr hE).2 F.o0 F.o1 F.valid F.FP F.sound
theorem lM.lt (G:eG b m0)(P:lM b ph):ph<2^40:=by
 have:=P.h1;have:=G.e;rw[Int.lt_of_lt_of_le P.h1<|by rw[Int.ofNat_le.mpr<|Nat.le_trans (Nat.mul_le_mul_left _<|Nat.mul_le_mul_left 4 G.e.2) ac]]
theorem lC (G:eG b m0)(H:aH U B b m0 f used)(P:lM b ph)(F:p6 fl)(h:k (.int<|we (2^b) ph fl) U):ay (Dd q) (n+1) (.ref 172) [.ref B.lay,.int ph,.int<|Builtin.bitOr fl 1] U k ke:=
 lD H.lay P.h0 (P.lt G) F.o0 F.o1 (af (pe ..) h)
theorem zO (G:eG b m0)(H:aH U B b m0 f used)(S:aF (2^b) m0 f root T)(hx:fB b x)(hb:x%(4*((2^b:Nat):Int))=0)(P:lM b ph)(hp:ph%(4*((2^b:Nat):Int))=0)(F:p6 fl)
 (he:entryAt T (cI (2^b) x) (cM (2^b) x)≠0) (h:∀s,ke 52 [("reason",.str s)] U):ay (Dd q) (n+4) (.ref 341) [.ref B.tab,.int root,.int x,.int ph,.int fl] U k ke:=by
 obtain ⟨d,ha⟩:=H.tab;obtain ⟨dm,TA⟩:=H.mem.it;obtain ⟨dl,SP⟩:=H.lay;have hE:=G.e;rw[<-fp ["self","root","address","physical","flags"] rfl rfl (λ_=>rfl) ?_,<-(cY H F.h0 F.h1 F.leaf F.sound F.valid ?_).call,<-(eX H G.b5 P.h0 (by rw[af (pe b) ?_,P.h1]) (by rw[af (pe ..) ?_,hp]) (by rw[af (pe ..) ?_,BW hE]) ?_).call,<-(mU H.lay hx.1 ?_).call,<-az (gI<|eqT<|af (pe ..) hb) ?_,<-(lB G H S hx ?_).call,<-aN (neT he) ?_,nP rfl (h _)]
theorem zN (G:eG b m0)(H:aH U B b m0 f used)(S:aF (2^b) m0 f root T)(hx:fB b x)(hb:x%(4*((2^b:Nat):Int))=0)(P:lM b ph)(hp:ph%(4*((2^b:Nat):Int))=0)(F:p6 fl)
 (hu:T (cI (2^b) x)=.none->used.length<10) (Vv:∀a,fL (2^b) root T a->a∈used) (he:entryAt T (cI (2^b) x) (cM (2^b) x)=0)
 (h1:∀y g σ' f',T (cI (2^b) x)=.tab y g->f6 B b m0 f used root T U σ' f' used (upd T (cI (2^b) x)<|.tab y<|upd g (cM (2^b) x)<|we (2^b) ph fl)->k .none σ')
 (h2:∀y σ' f',T (cI (2^b) x)=.none->y∉used->f6 B b m0 f used root T U σ' f' (y::used) (upd T (cI (2^b) x)<|.tab y<|upd (λ_=>0) (cM (2^b) x)<|we (2^b) ph fl)->k .none σ'):
 ay (Dd q) (n+6) (.ref 341) [.ref B.tab,.int root,.int x,.int ph,.int fl] U k ke:=by
 right;obtain ⟨d,ha⟩:=H.tab;obtain ⟨dm,TA⟩:=H.mem.it;obtain ⟨dl,SP⟩:=H.lay;have hE:=G.e;have h4:=G.m4;have hi:=dR (E:=2^b) (eO hE) hx.1 hx.2;have hj:=fX (E:=2^b) (x:=x)<|eO hE;have L:=kZ (eO hE) P F;symm;rw[<-fp ["self","root","address","physical","flags"] rfl rfl (λ_=>rfl) ?_,<-(cY H F.h0 F.h1 F.leaf F.sound F.valid ?_).call,<-(eX H G.b5 P.h0 (by rw[af (pe b) ?_,P.h1]) (by rw[af (pe ..) ?_,hp]) (by rw[af (pe ..) ?_,BW hE]) ?_).call,<-(mU H.lay hx.1 ?_).call,<-az (gI<|eqT<|af (pe ..) hb) ?_,<-(lB G H S hx ?_).call,<-az (gH he) ?_]
 cases hT:T (cI (2^b) x) with
 |leaf e=>
  rw[cH hT] at he;have:=(S.leaf _ e hi hT).1.2.2.1;rw[he] at this;rw[absurd z1 this]
 |tab y g=>
  rw[<-(xw G H S hx hT ?_).call,<-(lC G H P F ?_).call];right;obtain ⟨p1,p2,p3⟩:=S.tab _ y g hi hT;symm;rw[(wr G H p1 hj L.1.1 L.1.2.1 λRU H2 S2=>⟨_,St.le_refl _,h1 y g RU _ hT ⟨H2,S2,S.qg h4.1 hi hT hj<|.inr L.1,jw h4.1 (.inr ⟨_,g,hi,hT⟩) p1 hj⟩⟩).call]
 |none=>
  rw[(uv G H S hx hT (hu hT) Vv λy RS f₁ hy TN t=>?_).call];right;obtain ⟨d1,TS⟩:=t.bd.tab;obtain ⟨Yl,Xo⟩:=t.bd.mem.it;obtain ⟨Wm,TP⟩:=t.bd.lay;symm;left;rw[<-(lC G t.bd P F ?_).call,(wr G t.bd TN hj L.1.1 L.1.2.1 λRU H2 S2=>?_).call,⟨_,St.le_refl _,h2 y RU _ hT hy ⟨H2,t.same.trans S2,?_,λa Yv Zh hn jj Wk=>?_⟩⟩]
  ·have:=t.sp.qg (e:=we (2^b) ph fl) h4.1 hi aB hj<|.inr L.1;rw[show upd (upd T (cI (2^b) x)<|.tab y λ_=>0) (cI (2^b) x) (.tab y<|upd (λ_=>0) (cM (2^b) x)<|we (2^b) ph fl)=upd T (cI (2^b) x) (.tab y<|upd (λ_=>0) (cM (2^b) x)<|we (2^b) ph fl) by funext z;unfold upd;split<;>rfl] at this;rw[this]
  ·erw[bx (aD h4.1 TN) (aD h4.1 Zh)<|cB Zh TN (λz=>hy<|z▸Yv) Wk hj];rw[t.rest a Yv Zh hn jj Wk]
theorem oH (G:eG b m0)(H:aH U B b m0 f used)(S:aF (2^b) m0 f root T)(hx:fB b x)(hb:x%(4*((2^b:Nat):Int)*((2^b:Nat):Int))=0)(P:lM b ph)(hp:ph%(4*((2^b:Nat):Int)*((2^b:Nat):Int))=0)(F:p6 fl)
 (he:T (cI (2^b) x)≠ .none) (h:∀s,ke 52 [("reason",.str s)] U):ay (Dd q) (n+4) (.ref 348) [.ref B.tab,.int root,.int x,.int ph,.int fl] U k ke:=by
 obtain ⟨d,ha⟩:=H.tab;obtain ⟨dm,TA⟩:=H.mem.it;obtain ⟨dl,SP⟩:=H.lay;have hE:=G.e;have hi:=dR (E:=2^b) (eO hE) hx.1 hx.2;have Sq:(0:Int)<4*((2^b:Nat):Int)*((2^b:Nat):Int):=Int.mul_pos (BW hE)<|Ex hE;rw[<-fp ["self","root","address","physical","flags"] rfl rfl (λ_=>rfl) ?_,<-(cY H F.h0 F.h1 F.leaf F.sound F.valid ?_).call,<-(eX H G.b5 P.h0 (af (pe b) P.h1) (by rw[af (pe ..)<|af (iG ..) ?_,hp]) (by rw[af (pe ..)<|af (iG ..) ?_,Sq]) ?_).call,<-fq (af (pe ..)<|af (iG ..)<|Int.ne_of_gt Sq) ?_,<-az (gH (by erw[pe,iG,Int.fmod_eq_emod_of_nonneg _<|by rw[Int.NonNeg.mk<|4*2^b*2^b+0]];rw[hb])) ?_,<-(cK G H hx ?_).call,<-jq ac ac rfl ?_,<-bG (cF ac) ?_,<-(fW G H S hi ?_).call];have hv:Builtin.bitAnd ((T<|cI (2^b) x).code<|2^b) 1≠0:=by
  cases hT:T (cI (2^b) x) with
  |none=>rw[absurd hT he]
  |leaf e=>rw[(S.leaf _ e hi hT).1.2.2.1]
  |tab y g=>
   have SM:=fM (S.tab _ y g hi hT).1;have h4:=G.m4;rw[af (cX (g:=g) (E:=2^b) (show 0<=y by rw[wo h4 SM]) (yD h4 hE SM)<|eO hE).2.2.1 ?_];decide
 rw[<-aN (neT hv) ?_,nP rfl (h _)]
theorem kW (G:eG b m0)(H:aH U B b m0 f used)(S:aF (2^b) m0 f root T)(hx:fB b x)(hb:x%(4*((2^b:Nat):Int)*((2^b:Nat):Int))=0)(P:lM b ph)(hp:ph%(4*((2^b:Nat):Int)*((2^b:Nat):Int))=0)(F:p6 fl)
 (he:T (cI (2^b) x)=.none) (h:∀σ' f',f6 B b m0 f used root T U σ' f' used (upd T (cI (2^b) x)<|.leaf<|we (2^b) ph fl)->k .none σ'):ay (Dd q) (n+4) (.ref 348) [.ref B.tab,.int root,.int x,.int ph,.int fl] U k ke:=by
 right;obtain ⟨d,ha⟩:=H.tab;obtain ⟨dm,TA⟩:=H.mem.it;obtain ⟨dl,SP⟩:=H.lay;have hE:=G.e;have h4:=G.m4;have hi:=dR (E:=2^b) (eO hE) hx.1 hx.2;have L:=kZ (eO hE) P F;have Sq:(0:Int)<4*((2^b:Nat):Int)*((2^b:Nat):Int):=Int.mul_pos (BW hE)<|Ex hE;symm;rw[<-fp ["self","root","address","physical","flags"] rfl rfl (λ_=>rfl) ?_,<-(cY H F.h0 F.h1 F.leaf F.sound F.valid ?_).call,<-(eX H G.b5 P.h0 (af (pe b) P.h1) (by rw[af (pe ..)<|af (iG ..) ?_,hp]) (by rw[af (pe ..)<|af (iG ..) ?_,Sq]) ?_).call,<-fq (af (pe ..)<|af (iG ..)<|Int.ne_of_gt Sq) ?_,<-az (gH (by erw[pe,iG,Int.fmod_eq_emod_of_nonneg _<|by rw[Int.NonNeg.mk<|4*2^b*2^b+0]];rw[hb])) ?_,<-(cK G H hx ?_).call,<-jq ac ac rfl ?_,<-bG (cF ac) ?_,<-(fW G H S hi ?_).call,<-az (gH<|af he z1) ?_,<-(lC G H P F ?_).call,(wr G H S.rt hi L.1.1 L.1.2.1 λRU H2 S2=>?_).call,⟨_,St.le_refl _,h RU _ ⟨H2,S2,S.setTop h4.1 hi rfl (.inr ⟨_,rfl,L.1,?_⟩),jw h4.1 (.inl rfl) S.rt hi⟩⟩,af (L.2) ?_];have e:ph/(4*((2^b:Nat):Int))%((2^b:Nat):Int)=0:=by
  obtain ⟨c,hc⟩:=Int.dvd_of_emod_eq_zero hp;rw[af hc<|af (Int.mul_assoc ..)<|af (Int.mul_ediv_cancel_left _<|by lia)<|af (Int.mul_emod_right ..) rfl]
 rw[e]
end
variable {x0:Int}
section
variable {d:Addr}{b:Nat}{x:Int}{i j:Nat}{e:Int} 
theorem A3 {x:Int}(hx:0<=x)(hy:0<=y):Builtin.bitOr x y=((x.toNat|||y.toNat:Nat):Int):=by
 have e:∀z:Int,Builtin.bitNot z=-z-1:=λ_=>rfl;show Builtin.bitNot (Builtin.bitAnd (Builtin.bitNot x)<|Builtin.bitNot y)=_;erw[bitAnd_nn (by erw[e];rw[JB hx]) (by erw[e];rw[JB hy])];have h1:Builtin.bitNot (Builtin.bitNot x)=x:=af (e ..)<|af (e ..) Jw;have h2:Builtin.bitNot (Builtin.bitNot y)=y:=af (e ..)<|af (e ..) Jw;rw[af h1<|af h2<|af (e ..)<|af (e ..) ?_];lia
theorem sU {x:Int}(hx:0<=x)(Xl:x<1024)(hy:0<=y)(SE:y<1024):0<=Builtin.bitOr x y/\Builtin.bitOr x y<1024:=by
 rw[af (A3 hx hy) ?_];have:(x.toNat|||y.toNat)<2^10:=Nat.or_lt_two_pow (J9 Xl)<|J9 SE;rw[Lu this]
theorem rg {fr m:Int}(h0:0<=fr)(c0:0<=c)(c1:c<1024)(hm:0<=m)(TA:m<1024):Builtin.bitOr (fr*1024+c) m=fr*1024+Builtin.bitOr c m:=by
 erw[bitOr_and,bitOr_and,dh (x:=fr*1024+c) 10 (s8 c0 h0) hm TA,show (fr*1024+c)%2^10=c by rw[K9 c0 c1]];lia
noncomputable def AL (c ad tk:Int):Int:=Builtin.bitOr (c-Builtin.bitAnd c tk) ad
theorem AK {ad tk:Int}(he:0<=e)(ha:0<=ad)(TU:ad<1024)(ht:0<=tk)(ht':tk<1024):
 Builtin.bitOr (Builtin.bitAnd e<|-tk-1) ad=e/1024*1024+AL (e%1024) ad tk/\0<=AL (e%1024) ad tk/\AL (e%1024) ad tk<1024:=by
 have h1:=bitAnd_range (e%1024) ht;have h2:Builtin.bitAnd (e%1024) tk<=e%1024:=af (bitAnd_comm ..)<|(bitAnd_range tk (by rw[zQ]:(0:Int)<=e%1024)).2;have h3:=sU (x:=e%1024-Builtin.bitAnd (e%1024) tk) (y:=ad) (by rw[Int.sub_nonneg_of_le h2]) (Kc h1) ha TU;rw[⟨?_,h3⟩];erw[gj,dh (x:=e) 10 he ht ht',show e%2^10=e%1024 from rfl,show e-Builtin.bitAnd (e%1024) tk=e/1024*1024+(e%1024-Builtin.bitAnd (e%1024) tk) by rw[k1],rg (Int.ediv_nonneg he ac) (by rw[Int.sub_nonneg_of_le h2]) (Kc h1) ha TU];rfl
theorem vd:∀c:Fin 1024,Builtin.bitOr ((c.val:Int)-Builtin.bitAnd c.val 1) 1=Builtin.bitOr c.val 1/\Builtin.bitAnd ((c.val:Int)-Builtin.bitAnd c.val 1) 10=Builtin.bitAnd (Builtin.bitOr c.val 1) 10/\Builtin.bitAnd (Builtin.bitOr c.val 1) 1≠0/\0<=((c.val:Int)-Builtin.bitAnd c.val 1):=by decide+kernel
theorem Co (h0:0<=c)(h1:c<1024):Builtin.bitOr (c-Builtin.bitAnd c 1) 1=Builtin.bitOr c 1/\Builtin.bitAnd (c-Builtin.bitAnd c 1) 10=Builtin.bitAnd (Builtin.bitOr c 1) 10/\Builtin.bitAnd (Builtin.bitOr c 1) 1≠0/\0<=c-Builtin.bitAnd c 1:=by
 obtain ⟨m,rfl⟩:=Int.eq_ofNat_of_zero_le h0;rw[vd ⟨m,by rw[Int.ofNat_lt.mp h1]⟩]
theorem gZ (G:eG b m0)(H:aH U B b m0 f used)(S:aF (2^b) m0 f root T)(hx:fB b x)(hT:T (cI (2^b) x)=.tab y g)(hg:g (cM (2^b) x)≠0)(h:k (.int<|y+4*(cM (2^b) x:Int)) U):ay (Dd q) (n+4) (.ref 355) [.ref B.tab,.int root,.int x] U k ke:=by
 obtain ⟨d,ha⟩:=H.tab;obtain ⟨dm,TA⟩:=H.mem.it;have hE:=G.e;have hi:=dR (E:=2^b) (eO hE) hx.1 hx.2;have hj:=fX (E:=2^b) (x:=x)<|eO hE;rw[<-fp ["self","root","address"] rfl rfl (λ_=>rfl) ?_,<-(xx G H S hx hT ?_).call,<-rV rfl ?_];left;rw[<-(kD G H S hi hT hj ?_).call];have L:=((S.tab _ y g hi hT).2.2 _ hj).2.resolve_left hg;rw[<-az (jh<|oX L.2.2.1) ?_,rt h]
theorem fK (G:eG b m0)(H:aH U B b m0 f used)(L:fR e)(h:k (.int<|e/1024*(4*((2^b:Nat):Int))) U):ay (Dd q) (n+1) (.ref 179) [.ref B.lay,.int e] U k ke:=
 mP H.lay L.1 (by have:=L.2.1;rw[JS this]) (af (pe ..) h) (by have:=G.b5;rw[BX this])
theorem yN (G:eG b m0)(H:aH U B b m0 f used)(S:aF (2^b) m0 f root T)(h0:0<=x)(hd:x-x%(4*((2^b:Nat):Int))=x0)(hx:fB b x0)(hT:T (cI (2^b) x0)=.tab y g)(hg:g (cM (2^b) x0)≠0)
 (h:∀z σ' f',f6 B b m0 f used root T U σ' f' used (upd T (cI (2^b) x0)<|.tab y<|upd g (cM (2^b) x0) 0)->k (.int z) σ'):ay (Dd q) (n+5) (.ref 362) [.ref B.tab,.int root,.int x] U k ke:=by
 right;obtain ⟨d,ha⟩:=H.tab;obtain ⟨dm,TA⟩:=H.mem.it;obtain ⟨dl,SP⟩:=H.lay;have hE:=G.e;have h4:=G.m4;have hi:=dR (E:=2^b) (eO hE) hx.1 hx.2;have hj:=fX (E:=2^b) (x:=x0)<|eO hE;have p1:=(S.tab _ y g hi hT).1;have L:=((S.tab _ y g hi hT).2.2 _ hj).2.resolve_left hg;symm;rw[<-fp ["self","root","address"] rfl rfl (λ_=>rfl) ?_,(rP H.lay h0 ?_).call,<-af (pe ..)<|af hd ?_,<-(gZ G H S hx hT hg ?_).call,<-(kD G H S hi hT hj ?_).call,<-(fK G H L ?_).call,<-(wr G H p1 hj ac ac λRU H2 S2=>?_).call,⟨_,St.le_refl _,h _ RU _ ⟨H2,S2,S.qg h4.1 hi hT hj<|.inl rfl,jw h4.1 (.inr ⟨_,g,hi,hT⟩) p1 hj⟩⟩]
theorem BP (G:eG b m0)(H:aH U B b m0 f used)(S:aF (2^b) m0 f root T)(h0:0<=x)(hd:x-x%(4*((2^b:Nat):Int))=x0)(hx:fB b x0)(hT:T (cI (2^b) x0)=.tab y g)(hg:g (cM (2^b) x0)≠0)
 (P:lM b ph) (hp:ph%(4*((2^b:Nat):Int))=0) (F:p6 fl)
 (h:∀z σ' f',f6 B b m0 f used root T U σ' f' used (upd T (cI (2^b) x0)<|.tab y<|upd g (cM (2^b) x0)<|we (2^b) ph fl)->k (.int z) σ'):ay (Dd q) (n+5) (.ref 377) [.ref B.tab,.int root,.int x,.int ph,.int fl] U k ke:=by
 obtain ⟨d,ha⟩:=H.tab;obtain ⟨dm,TA⟩:=H.mem.it;obtain ⟨dl,SP⟩:=H.lay;have hE:=G.e;have h4:=G.m4;have hi:=dR (E:=2^b) (eO hE) hx.1 hx.2;have hj:=fX (E:=2^b) (x:=x0)<|eO hE;have p1:=(S.tab _ y g hi hT).1;have L:=((S.tab _ y g hi hT).2.2 _ hj).2.resolve_left hg;have L2:=kZ (eO hE) P F;rw[<-fp ["self","root","address","physical","flags"] rfl rfl (λ_=>rfl) ?_,<-(cY H F.h0 F.h1 F.leaf F.sound F.valid ?_).call,<-(eX H G.b5 P.h0 (by rw[af (pe b) ?_,P.h1]) (by rw[af (pe ..) ?_,hp]) (by rw[af (pe ..) ?_,BW hE]) ?_).call,(rP H.lay h0 ?_).call,<-af (pe ..)<|af hd ?_,<-(gZ G H S hx hT hg ?_).call,<-(kD G H S hi hT hj ?_).call,<-(fK G H L ?_).call,<-(lC G H P F ?_).call,<-(wr G H p1 hj L2.1.1 L2.1.2.1 λRU H2 S2=>?_).call,⟨_,St.le_refl _,h _ RU _ ⟨H2,S2,S.qg h4.1 hi hT hj<|.inr L2.1,jw h4.1 (.inr ⟨_,g,hi,hT⟩) p1 hj⟩⟩]
theorem yp {ad tk:Int}(G:eG b m0)(H:aH U B b m0 f used)(S:aF (2^b) m0 f root T)(h0:0<=x)(hd:x-x%(4*((2^b:Nat):Int))=x0)(hx:fB b x0)(hT:T (cI (2^b) x0)=.tab y g)(hg:g (cM (2^b) x0)≠0)
 (hA:0<=ad) (ZA:ad<1024) (hK:0<=tk) (Zz:tk<1024)
 (h1:∀s,ke 52 [("reason",.str s)] U)
 (h2:∀c z σ' f',fR (g (cM (2^b) x0)/1024*1024+c)->f6 B b m0 f used root T U σ' f' used (upd T (cI (2^b) x0)<|.tab y<|upd g (cM (2^b) x0)<|g (cM (2^b) x0)/1024*1024+c)->0<=c->c<1024->k (.int z) σ'):ay (Dd q) (n+5) (.ref 370) [.ref B.tab,.int root,.int x,.int ad,.int tk] U k ke:=by
 right;obtain ⟨d,ha⟩:=H.tab;obtain ⟨dm,TA⟩:=H.mem.it;obtain ⟨dl,SP⟩:=H.lay;have hE:=G.e;have h4:=G.m4;have hi:=dR (E:=2^b) (eO hE) hx.1 hx.2;have hj:=fX (E:=2^b) (x:=x0)<|eO hE;have p1:=(S.tab _ y g hi hT).1;have L:=((S.tab _ y g hi hT).2.2 _ hj).2.resolve_left hg;obtain ⟨o0,o1⟩:=sU hA ZA hK Zz;obtain ⟨c0,c1,c2⟩:=AK (e:=g<|cM (2^b) x0) L.1 hA ZA hK Zz;obtain ⟨f1,f2,f3,f4⟩:=Co c1 c2;have fr0:0<=g (cM (2^b) x0)/1024:=Int.ediv_nonneg L.1 ac;symm;have fr1:g (cM (2^b) x0)/1024<2^22:=by have:=L.2.1;rw[LI this]
 rw[<-fn ["self","root","address","add","take"] (ds:=[]) rfl rfl (iD (us:=[]) rfl rfl rfl (λ_=>.nil) λ_=>rfl) ?_,<-az (gH (by erw[gj,show (1023:Int)=2^10-1 by decide,cQ 10 o0,Int.emod_eq_of_lt o0<|by rw[o1]];rw[El])) ?_,(rP H.lay h0 ?_).call,<-af (pe ..)<|af hd ?_,<-(gZ G H S hx hT hg ?_).call,<-(kD G H S hi hT hj ?_).call];have e1:Builtin.bitAnd (Builtin.bitAnd (g (cM (2^b) x0)/1024*1024+AL (g (cM (2^b) x0)%1024) ad tk) 1023) (-1-1)=AL (g (cM (2^b) x0)%1024) ad tk-Builtin.bitAnd (AL (g (cM (2^b) x0)%1024) ad tk) 1:=by
  rw[af (show (1023:Int)=2^10-1 by decide)<|af (cQ 10<|by lia)<|af (show (g (cM (2^b) x0)/1024*1024+AL (g (cM (2^b) x0)%1024) ad tk)%2^10=AL (g (cM (2^b) x0)%1024) ad tk by rw[Fv c1 c2])<|af (gj ..) rfl]
 rw[af c0 ?_,af e1 ?_];have f5:=bitAnd_range (AL (g (cM (2^b) x0)%1024) ad tk) (show (0:Int)<=1 by decide)
 by_cases hb:Builtin.bitAnd (Builtin.bitOr (AL (g (cM (2^b) x0)%1024) ad tk) 1) 10=0\/Builtin.bitAnd (Builtin.bitOr (AL (g (cM (2^b) x0)%1024) ad tk) 1) 6=4
 ·rw[(oA H f4 (Ka f5 c2) (af f1<|af f2 hb) h1).call]
 ·rw[not_or] at hb;rw[<-(cY H f4 (Ka f5 c2) (af f2 hb.1) (af f1 hb.2) (af f1 f3) ?_).call];obtain ⟨o2,o3⟩:=sU c1 c2 (show (0:Int)<=1 by decide) ac;have L2:=oM fr0 fr1 o2 o3 f3 hb.1 hb.2;rw[af (rg fr0 c1 c2 ac ac) ?_,<-(wr G H p1 hj L2.1.1 L2.1.2.1 λRU H2 S2=>?_).call,⟨_,St.le_refl _,h2 _ _ RU _ L2.1 ⟨H2,S2,S.qg h4.1 hi hT hj<|.inr L2.1,jw h4.1 (.inr ⟨_,g,hi,hT⟩) p1 hj⟩ o2 o3⟩]
end
variable {o:bI}{t:Expr}{body:List Stmt}{D:cN}
section
variable {k:Fl->Lo->St->Prop} 
theorem mL (hE:E<=1000000):Builtin.Range.small 0 E 1=true:=by
 have fl:∀x:Int,0<=x->x<=1000001->Builtin.Range.rangeFitsLong x=true:=λx h1 h2=>by
  unfold Builtin.Range.rangeFitsLong;simp;lia
 have e:Builtin.Range.rangeSize 0 E 1=E:=by
  unfold Builtin.Range.rangeSize;rw[af (if_pos ac) ?_]
  split<;>lia
 unfold Builtin.Range.small;erw[e,fl 0 ac ac,fl E (by rw[nN E])<|by lia,fl 1 ac ac,if_pos ac,fl (E+(1-1)) (by rw[nN<|E+(1-Nat.succ 0)])<|by lia];simp
theorem nX:(Builtin.Range.rangeSize 0 E 1).toNat=E:=by
 unfold Builtin.Range.rangeSize;rw[af (if_pos ac) ?_]
 split<;>lia
theorem iX (hE:E<=1000000)(I:Nat->Lo->St->Prop)(h0:I 0 lo U)
 (step:∀m lo U,m<E->I m lo U->fF D n sc t (.int m) lo U (tF D n sc body (I<|m+1) k) gF) (fin:∀lo U,I E lo U->k .next lo U):ki D n (.uq 0 E 1) U<|uU D n sc t body lo U k:=by
 rw[gB (mL hE) ?_,af nX ?_];have key:c9 0 E 1=(List.range' 0 E).map λ(j:Nat)=>V.int j:=by
  unfold c9;rw[af List.range_eq_range' ?_]
  congr 1
  funext j
  rw[af (Int.zero_add ..)<|af (Int.mul_one ..) rfl]
 rw[af key ?_,nB (λR6 lo U=>∃m,m<=E/\R6=(List.range' m<|E-m).map (λ(j:Nat)=>V.int j)/\I m lo U) ?_ ?_ ⟨0,Nat.zero_le _,rfl,h0⟩]
 ·rintro v r lo U ⟨m,hm,e,hI⟩;have UC:m<E:=by
   rcases Nat.lt_or_ge m E with h|h
   ·rw[h]
   ·rw[show E-m=0 by rw[Mf hm h]] at e;rw[bU List.ctorIdx e rfl]
  rw[show E-m=(E-(m+1))+1 by rw[MR UC hm],List.range'_succ,List.map_cons] at e;obtain ⟨rfl,rfl⟩:=List.cons.inj e;have s:=step m lo U UC hI;intro c v' hc hs Sk SD i;rw[wpAny_mono (s c v' hc hs Sk SD i) (λ_ RT ⟨l,τ,RX,SX,q⟩=>⟨l,τ,RX,SX,?_⟩) λ_ _ z=>z,q.mono (λf WC Vl q=>?_) λ_ _ _ _ z=>z]
  cases f<;>first
   |exact q
   |(obtain ⟨UR,T6,a1,a2,a4⟩:=q;exact ⟨UR,T6,a1,a2,trivial,m+1,UC,rfl,a4⟩)
 ·rintro lo U ⟨m,hm,e,hI⟩;have:m=E:=by
   rcases Nat.lt_or_ge m E with h|h
   ·rw[show E-m=(E-(m+1))+1 by rw[MR h hm],List.range'_succ,List.map_cons] at e;rw[bU List.ctorIdx e rfl]
   ·lia
  clear hE step key hm e;subst this;rw[fin lo U hI]
end
section
variable {k:V->St->Prop}{d:Addr}{b:Nat}{x:Int}{i j:Nat}{e:Int} 
theorem aH.fresh {l:Addr}(H:aH U B b m0 f used)(hl:U l=none):aH (U.set l o) B b m0 f used:=by
 right;have H':=H;obtain ⟨⟨d1,h1⟩,⟨⟨d2,h2⟩,h3⟩,⟨u,gv,hf,⟨⟨d4,h4⟩,h5,h6⟩,ok⟩,⟨d7,h7⟩,ne⟩:=H';symm;rw[H.same λy hy=>St.ai λz=>?_];subst z;rcases hy with rfl|rfl|rfl|rfl|rfl|rfl|rfl
 ·rw[ak hl h1]
 ·rw[ak hl h2]
 ·rw[ak hl h3]
 ·rw[ak hl h4]
 ·rw[ak hl h5]
 ·rw[ak hl h6]
 ·rw[ak hl h7]
noncomputable def aZ (T:Nat->Slot)(m:Nat):List<|Nat×Int:=(List.range m).filterMap λi=>match T i with
 |.tab a _=>some (i,a)
 |_=>none
noncomputable def dX (p:Nat×Int):V:=.tup [.int p.1,.int p.2]
theorem jo (m:Nat):aZ T (m+1)=aZ T m++(match T m with|.tab a _=>[(m,a)]|_=>[]):=by
 unfold aZ;rw[af List.range_succ<|af List.filterMap_append ?_]
 congr 1
 cases h:T m<;>simp [h]
theorem ko (m:Nat):(aZ T m).length<=m:=by
 rw[Nat.le_trans (List.length_filterMap_le _ _)<|af List.length_range<|Nat.le_refl _]
theorem tables_of_ok (G:eG b m0)(H:aH U B b m0 f used)(S:aF (2^b) m0 f root T)(h:∀l,U l=none->k (.ref l) (U.set l<|.list<|(aZ T<|2^b).map dX)):ay (Dd q) (n+3) (.ref 384) [.ref B.tab,.int root] U k ke:=by
 have hE:=G.e;obtain ⟨d,ha⟩:=H.tab;rw[<-fp ["self","root"] rfl rfl (λ_=>rfl) ?_,<-⟨by simp,λl hl=>?_⟩,dz ?_];right;have H1:=H.fresh (o:=.list []) hl;obtain ⟨d1,TS⟩:=H1.tab;obtain ⟨Wm,TP⟩:=H1.lay;symm;left;rw[cP ?_,<-af (iG ..) ?_,iX (zT hE) (λm lo τ=>lo=([("self",.ref B.tab),("root",.int root),("found",.ref l)]:Lo)/\τ=U.set l (.list<|(aZ T m).map dX)) ⟨rfl,rfl⟩ ?_ ?_]
 ·rintro m lo τ hm ⟨rfl,rfl⟩;right;have H2:=H.fresh (o:=.list<|(aZ T m).map dX) hl;obtain ⟨d2,Ui⟩:=H2.tab;obtain ⟨Yx,Xn⟩:=H2.mem.it;obtain ⟨Yy,SW⟩:=H2.lay;symm;left;rw[<-bG (cF<|by decide) ?_,<-(fW G H2 S hm ?_).call];have skip:∀xs:List V,(aZ T<|m+1).map dX=xs->uo (λSw R1=>Sw=([("self",.ref B.tab),("root",.int root),("found",.ref l)]:Lo)/\R1=U.set l (.list<|(aZ T<|m+1).map dX)) (Lo.put "entry" (V.int<|(T m).code<|2^b)<|Lo.put "first" (V.int m) ([("self",.ref B.tab),("root",.int root),("found",.ref l)]:Lo)) (U.set l<|.list xs):=λxs hs=>
   ⟨[("self",.ref B.tab),("root",.int root),("found",.ref l)],_,Lo.bg ⟨rfl,rfl,rfl,trivial⟩,by rw[af hs ?_,St.le_refl _],rfl,rfl⟩
  cases hT:T m with
  |none=>
   rw[hT] at skip;rw[<-aN (yH<|gH z1) ?_];left;rw[skip _ (by rw[af (jo ..)<|af hT<|af (List.append_nil ..) rfl])]
  |leaf e=>
   right;rw[hT] at skip;obtain ⟨⟨l0,l1,l2,l3,l4⟩,_⟩:=S.leaf _ e hm hT;symm;rw[<-az (qQ<|neT l2) ?_,<-(bq ?_).call,<-aN (yH<|gI<|neT l3) ?_,<-az (gI<|neT l3) ?_,skip _ (by rw[af (jo ..)<|af hT<|af (List.append_nil ..) rfl])]
  |tab y g=>
   right;rw[hT] at skip;have hp:=(S.tab _ y g hm hT).1;have h1:=fM hp;have h2:=G.m4;obtain ⟨c0,c1,c2,c3⟩:=cX (g:=g) (E:=2^b) (show 0<=y by rw[wo h2 h1]) (yD h2 hE h1)<|eO hE;symm;rw[<-az (qQ<|neT (by rw[af c2 ?_];decide)) ?_,<-(bq ?_).call,<-az (qQ<|n7<|gH c3) ?_,<-cC (cu St.ah) ?_,<-(fJ G H2 S hm hT ?_).call,<-⟨by simp,?_⟩,cy St.ah (by rw[af (cD ..) ?_];have:=ko (T:=T) m;rw[J1 hE hm this]) ?_,<-af St.set_set ?_,skip _ (af (jo ..)<|af hT<|af List.map_append rfl)]
 ·rintro lo τ ⟨rfl,rfl⟩;left;rw[rt<|h l hl]
end
abbrev Row:=Int×Int×Int×Int
noncomputable def fk (r:Row):V:=.tup [.int r.1,.int r.2.1,.int r.2.2.1,.int r.2.2.2]
noncomputable def C4 (E i:Nat)(j:Nat)(e:Int):Row:=(((i:Int)*E+j)*(4*E),e/1024*(4*E),e%1024,4*E)
noncomputable def M6 (E i:Nat)(e:Int):Row:=(((i:Int)*E+(0:Int))*(4*E),e/1024*(4*E),e%1024,4*E*E)
def fU (E i:Nat)(g:Nat->Int)(m:Nat):List Row:=(List.range m).filterMap λj=>if g j=0 then none else some (C4 E i j<|g j)
def jv (E:Nat)(i:Nat):Slot->List Row
 |.none=>[]
 |.leaf e=>[M6 E i e]
 |.tab _ g=>fU E i g E
def aP (E:Nat)(T:Nat->Slot)(m:Nat):List Row:=(List.range m).flatMap λi=>jv E i<|T i
section
variable {d:Addr}{b:Nat}{x:Int}{i j:Nat}{e:Int} 
theorem mK (m:Nat):fU E i g (m+1)=fU E i g m++(if g m=0 then [] else [C4 E i m<|g m]):=by
 unfold fU;rw[af List.range_succ<|af List.filterMap_append ?_]
 congr 1
 by_cases h:g m=0<;>simp [h]
theorem kB (m:Nat):(fU E i g m).length<=m:=by
 rw[Nat.le_trans (List.length_filterMap_le _ _)<|af List.length_range<|Nat.le_refl _]
theorem gg (m:Nat):aP E T (m+1)=aP E T m++jv E m (T m):=by
 unfold aP;rw[af List.range_succ<|af List.flatMap_append ?_];simp
theorem qW (hE:0<E):(jv E i<|T j).length<=E:=by
 cases T j with
 |none=>rw[Nat.zero_le _]
 |leaf e=>rw[hE]
 |tab y g=>rw[kB _]
theorem eT (hE:0<E):∀m,(aP E T m).length<=m*E
 |0=>Nat.zero_le _
 |m+1=>by
  rw[af (gg ..)<|af List.length_append<|af (Nat.succ_mul ..)<|Nat.add_le_add (eT hE m)<|qW hE]
theorem St.Cd {l l2:Addr}{o1 o2:bI}(h2:U l2=none)(SK:l2≠l):(U.set l o).le<|((U.set l o1).set l2 o2).set l o:=λz p hz=>by
 by_cases h:z=l
 ·clear SK;subst h;rw[St.ah] at hz ⊢;rw[hz]
 ·rw[St.ai h] at hz ⊢
  by_cases h':z=l2
  ·clear SK;subst h';rw[ak h2 hz]
  ·rw[af (St.ai h')<|af (St.ai h) hz]
theorem rY (G:eG b m0)(H:aH U B b m0 f used)(hi:i<2^b)(hj:j<2^b)(h:k (.int<|((i:Int)*((2^b:Nat):Int)+j)*(4*((2^b:Nat):Int))) U):ay (Dd q) (n+1) (.ref 137) [.ref B.lay,.int i,.int j] U k ke:=by
 have hE:=G.e;rw[vH H.lay (by rw[nN i]) (KU hE hi) (by rw[nN j]) (af (iG ..)<|Int.ofNat_lt.mpr hj) (by have:=G.b5;rw[BX this]) ?_,af (pe ..)<|af (iG ..) h]
theorem qP (h0:0<=e):Builtin.bitAnd e 1023=e%1024:=cQ 10 h0
theorem nV (G:eG b m0)(H:aH U B b m0 f used)(hi:i<2^b)(hy:Pg (2^b) m0 y)(hw:∀j:Nat,j<2^b->word f (y+4*j)=g j/\(g j=0\/fR (g j)))(h:∀l,U l=none->k (.ref l) (U.set l<|.list<|(fU (2^b) i g<|2^b).map fk)):ay (Dd q) (n+3) (.ref 398) [.ref B.tab,.int y,.int i] U k ke:=by
 have hE:=G.e;obtain ⟨d,ha⟩:=H.tab;rw[<-fp ["self","table","first"] rfl rfl (λ_=>rfl) ?_,<-⟨by simp,λl hl=>?_⟩,dz ?_];right;have H1:=H.fresh (o:=.list []) hl;obtain ⟨d1,TS⟩:=H1.tab;obtain ⟨Wm,TP⟩:=H1.lay;symm;left;rw[cP ?_,<-af (iG ..) ?_,iX (zT hE) (λm lo τ=>lo=([("self",.ref B.tab),("table",.int y),("first",.int i),("found",.ref l)]:Lo)/\τ=U.set l (.list<|(fU (2^b) i g m).map fk)) ⟨rfl,rfl⟩ ?_ ?_]
 ·rintro m lo τ hm ⟨rfl,rfl⟩;right;have H2:=H.fresh (o:=.list<|(fU (2^b) i g m).map fk) hl;obtain ⟨d2,Ui⟩:=H2.tab;obtain ⟨Yx,Xn⟩:=H2.mem.it;obtain ⟨Yy,SW⟩:=H2.lay;symm;left;rw[<-bG (cF ac) ?_,(rd G H2 hy hm ?_).call,<-af (hw m hm).1 ?_]
  by_cases hg:g m=0
  ·rw[<-az (gH<|af hg z1) ?_,⟨[("self",.ref B.tab),("table",.int y),("first",.int i),("found",.ref l)],_,Lo.bg ⟨rfl,rfl,rfl,rfl,trivial⟩,?_,rfl,rfl⟩,af (mK ..)<|af (if_pos hg)<|af (List.append_nil ..)<|St.le_refl _]
  ·have L:=(hw m hm).2.resolve_left hg;rw[<-aN (neT L.2.2.1) ?_,<-(rY G H2 hi hm ?_).call,<-cC (cu St.ah) ?_,<-(fK G H2 L ?_).call,<-⟨by simp,?_⟩,cy St.ah (by rw[af (cD ..) ?_];have:=kB (E:=2^b) (i:=i) (g:=g) m;rw[J1 hE hm this]) ?_];erw[St.set_set,pe,qP L.1];rw[⟨[("self",.ref B.tab),("table",.int y),("first",.int i),("found",.ref l)],_,Lo.bg ⟨rfl,rfl,rfl,rfl,trivial⟩,?_,rfl,rfl⟩,af (mK ..)<|af (if_neg hg)<|af List.map_append<|St.le_refl _]
 ·rintro lo τ ⟨rfl,rfl⟩;left;rw[rt<|h l hl]
theorem qZ (G:eG b m0)(H:aH U B b m0 f used)(S:aF (2^b) m0 f root T)(h:∀l,U l=none->k (.ref l) (U.set l<|.list<|(aP (2^b) T<|2^b).map fk)):ay (Dd q) (n+4) (.ref 391) [.ref B.tab,.int root] U k ke:=by
 have hE:=G.e;rw[<-fp ["self","root"] rfl rfl (λ_=>rfl) ?_,<-⟨by simp,λl hl=>?_⟩,dz ?_];right;have H1:=H.fresh (o:=.list []) hl;obtain ⟨d1,TS⟩:=H1.tab;obtain ⟨Wm,TP⟩:=H1.lay;symm;left;rw[cP ?_,<-af (iG ..) ?_,iX (zT hE) (λm lo τ=>lo=([("self",.ref B.tab),("root",.int root),("found",.ref l)]:Lo)/\τ=U.set l (.list<|(aP (2^b) T m).map fk)) ⟨rfl,rfl⟩ ?_ ?_]
 ·rintro m lo τ hm ⟨rfl,rfl⟩;right;have H2:=H.fresh (o:=.list<|(aP (2^b) T m).map fk) hl;obtain ⟨d2,Ui⟩:=H2.tab;obtain ⟨Yx,Xn⟩:=H2.mem.it;obtain ⟨Yy,SW⟩:=H2.lay;have Sd:(aP (2^b) T m).length<=1024:=Nat.le_trans (eT (eO hE) m)<|Nat.mul_le_mul (show m<=32 by rw[JU hE hm]) hE.2;symm;left;rw[<-bG (cF ac) ?_,<-(fW G H2 S hm ?_).call]
  cases hT:T m with
  |none=>
   rw[<-aN (eqT z1) ?_,⟨[("self",.ref B.tab),("root",.int root),("found",.ref l)],_,Lo.bg ⟨rfl,rfl,rfl,trivial⟩,?_,rfl,rfl⟩,af (gg ..)<|af hT<|af (show jv (2^b) m .none=[] from rfl)<|af (List.append_nil ..)<|St.le_refl _]
  |leaf e=>
   obtain ⟨L,_⟩:=S.leaf _ e hm hT;rw[<-az (oX L.2.2.1) ?_,<-(bq ?_).call,<-aN (neT L.2.2.2.1) ?_,<-(rY (j:=0) G H2 hm (eO hE) ?_).call,<-(fK G H2 L ?_).call,<-⟨by simp,?_⟩,<-cC (cu St.ah) ?_,cy St.ah (af (cD ..)<|zS Sd) ?_];erw[St.set_set,pe,iG,show Builtin.bitAnd ((Slot.leaf e).code<|2^b) 1023=e%1024 from qP L.1];rw[⟨[("self",.ref B.tab),("root",.int root),("found",.ref l)],_,Lo.bg ⟨rfl,rfl,rfl,trivial⟩,?_,rfl,rfl⟩,af (gg ..)<|af hT<|af List.map_append<|St.le_refl _]
  |tab y g=>
   right;obtain ⟨hp,_,hw⟩:=S.tab m y g hm hT;have h1:=fM hp;have h2:=G.m4;obtain ⟨c0,c1,c2,c3⟩:=cX (g:=g) (E:=2^b) (show 0<=y by rw[wo h2 h1]) (yD h2 hE h1)<|eO hE;symm;rw[<-az (oX (by rw[af c2 ?_];decide)) ?_,<-(bq ?_).call,<-az (gH c3) ?_,<-cC (lY St.ah) ?_,<-(fJ G H2 S hm hT ?_).call,(nV G H2 hm hp hw λl2 SW=>?_).call];have SK:l2≠l:=(kE St.ah SW).symm;have hl2':U l2=none:=by rw[St.ai SK] at SW;rw[SW]
   left;rw[mw (af (St.ai<|Ne.symm SK) St.ah) St.ah (by rw[af (cD ..)<|af (cD ..) ?_];have:=kB (E:=2^b) (i:=m) (g:=g)<|2^b;rw[J8 hE this Sd]) ?_,⟨[("self",.ref B.tab),("root",.int root),("found",.ref l)],_,Lo.bg ⟨rfl,rfl,rfl,trivial⟩,?_,rfl,rfl⟩,af (gg ..)<|af hT<|af List.map_append<|St.Cd hl2' SK]
 ·rintro lo τ ⟨rfl,rfl⟩;left;rw[rt<|h l hl]
end
theorem rL {i j:Int}:PyData.eqv (.int i) (.int j)=(i==j):=by rfl
theorem nG {x y:Str}:PyData.eqv (.str x) (.str y)=(x==y):=by rfl
theorem tX {x y:PyData}{xs ys:List PyData}:PyData.eqvAll (x::xs) (y::ys)=(PyData.eqv x y&&PyData.eqvAll xs ys):=by rfl
theorem iY {α:Type} [DecidableEq α] (f:α->PyData)(hf:∀a b,PyData.eqv (f a) (f b)=decide (a=b)):∀xs ys:List α,PyData.eqvAll (xs.map f) (ys.map f)=decide (xs=ys)
 |[],[]=>by rfl
 |[],_::_=>by rfl
 |_::_,[]=>by rfl
 |x::xs,y::ys=>by
  rw[af List.map_cons<|af List.map_cons<|af tX<|af (hf ..)<|af (iY f hf xs ys) ?_]
  by_cases h:x=y<;>by_cases h':xs=ys<;>simp [h,h']
theorem pI (i j:Int):(i==j&&true)=decide (i=j):=by
 rw[af (Bool.and_true ..) rfl]
theorem pD {α:Type} [DecidableEq α] (i j:Int)(x y:α):(i==j&&decide (x=y))=decide ((i,x)=(j,y)):=
 Bool.eq_iff_iff.mpr ⟨λz=>decide_eq_true<|af (eq_of_beq (Bool.and_eq_true_iff.mp z).1)<|af (of_decide_eq_true (Bool.and_eq_true_iff.mp z).2) rfl,
  λz=>Bool.and_eq_true_iff.mpr ⟨beq_iff_eq.mpr<|congrArg Prod.fst<|of_decide_eq_true z,decide_eq_true<|congrArg Prod.snd<|of_decide_eq_true z⟩⟩
theorem dG {α:Type}(f:α->PyData)(m:Nat)(hm:m<=63)(hf:∀a,(f a).canLay0=true/\(f a).depth<=m)(xs:List α):SeqAt.shaped (.list<|xs.map f)=true:=by
 have h1:PyData.canLayAll0 (xs.map f)=true:=by
  induction xs with
  |nil=>rfl
  |cons x xs ih=>simp [PyData.canLayAll0,hf x,ih]
 have h2:PyData.depthAll (xs.map f)<=m:=by
  induction xs with
  |nil=>rw[Nat.zero_le _]
  |cons x xs ih=>simp only [List.map_cons,PyData.depthAll];have:=(hf x).2;have:=ih (by simpa [PyData.canLayAll0,hf x] using h1);rw[Nat.max_le.mpr ⟨(hf x).2,this⟩]
 rw[af (Bool.and_eq_true ..) ⟨by simpa [PyData.canLay0] using h1,decide_eq_true (by simp only [PyData.depth];lia)⟩]
theorem fS.map {U:St}{α:Type}(f:α->V)(g:α->PyData)(h:∀a,fC U (f a)<|g a):∀xs:List α,fS U (xs.map f) (xs.map g)
 |[]=>.nil
 |x::xs=>.cons (h x) (fS.map f g h xs)
variable {T':Nat->Slot}
noncomputable def j5 (r:Row):PyData:=.tuple [.int r.1,.int r.2.1,.int r.2.2.1,.int r.2.2.2]
theorem kC (r:Row):(j5 r).canLay0=true/\(j5 r).depth<=1:=by
 unfold j5;rw[⟨rfl,Nat.le.refl⟩]
theorem zl (a b:Row):PyData.eqv (j5 a) (j5 b)=decide (a=b):=by
 show (a.1==b.1&&(a.2.1==b.2.1&&(a.2.2.1==b.2.2.1&&(a.2.2.2==b.2.2.2&&true))))=_;rw[af (pI ..)<|af (pD ..)<|af (pD ..)<|pD ..]
theorem sR (r:Row):fC U (fk r)<|j5 r:=.tup<|.cons (.int _)<|.cons (.int _)<|.cons (.int _)<|.cons (.int _) .nil
section
variable {d:Addr}{b:Nat}{x:Int}{i j:Nat}{e:Int} 
theorem aH.iO (H:aH U B b m0 f used):used.Nodup/\used.length<=10/\∀x,x∈used->Pg (2^b) m0 x:=by
 obtain ⟨u,gv,hf,_,ok⟩:=H.pool;rw[⟨ok.nd,by have:=ok.sum;have:=ok.yO;lia,λx hx=>?_⟩];obtain ⟨i,hi,rfl⟩:=(ok.all x).mp<|.inr hx;rw[⟨i+2,by have:=ok.yO;rw[KC hi this],?_⟩];erw[pe,show ((i+2:Nat):Int)=(i:Int)+2 by rw[rfl],Int.add_mul];rw[JM]
theorem rE (G:eG b m0)(H:aH U B b m0 f used)(hy:y∈used)(h:∀σ',aH σ' B b m0 f (used.erase y)->eW B U σ'->k (.bool true) σ'):ay (Dd q) (n+5) (.ref 824) [.ref B.pool,.int y] U k ke:=by
 have hE:=G.e;have h4:=G.m4;rw[Cn H.pool hy (af (pe ..)<|EB h4 hE) (af (pe ..)<|BW hE) (af (pe ..)<|LN h4 hE) λRS P1 s1=>?_];obtain ⟨H1,S1⟩:=H.turn P1 s1;rw[h RS H1 S1]
noncomputable def bX (E:Nat)(g:Nat->Int):Bool:=(List.range E).all λj=>g j==0
theorem nW:(fU E i g E=[])↔bX E g=true:=by
 rw[af (propext List.filterMap_eq_nil_iff)<|af (propext List.all_eq_true) ?_,forall_congr' λj=>imp_congr_right λ_=>?_]
 by_cases h:g j=0<;>simp [h]
def gy (E:Nat):Slot->Slot
 |.tab a g=>if bX E g=true then .none else .tab a g
 |s=>s
def cO (E:Nat)(T:Nat->Slot)(m:Nat):Nat->Slot:=λi=>if i<m then gy E (T i) else T i
def jE (E:Nat):Slot->Bool
 |.tab _ g=>bX E g
 |_=>false
def bA (E:Nat)(T:Nat->Slot)(m:Nat):Nat:=((List.range m).filter λi=>jE E<|T i).length
theorem fc (m:Nat):bA E T (m+1)=bA E T m+(match T m with|.tab _ g=>if bX E g=true then 1 else 0|_=>0):=by
 unfold bA;rw[af List.range_succ<|af (List.filter_append ..)<|af List.length_append ?_]
 congr 1
 cases h:T m with
 |tab y g=>by_cases h':bX E g=true<;>simp [h,jE,h']
 |_=>simp [h,jE]
theorem xM (m:Nat):cO E T (m+1)=upd (cO E T m) m (gy E<|T m):=by
 funext i
 unfold cO upd
 by_cases h:i=m
 ·subst h;rw[af (if_pos<|Nat.lt_succ_self _)<|af (if_pos rfl) rfl]
 ·rw[af (if_neg h) ?_]
  by_cases h':i<m
  ·simp only [if_pos h',if_pos<|Nat.lt_succ_of_lt h']
  ·simp only [if_neg h',if_neg<|show ¬i<m+1 by lia]
def gz:Slot->Prop
 |.tab _ _=>False
 |_=>True
theorem uG {s:Slot}(h:gz s):gy E s=s:=by cases s<;>first|rfl|exact h.elim
theorem kQ {m:Nat}(hm:m<=i)(h:∀l,m<=l->l<i->gz (T l)):cO E T i=cO E T m:=by
 funext j
 unfold cO
 by_cases h1:j<m
 ·rw[af (if_pos<|JV h1 hm)<|af (if_pos h1) rfl]
 ·rw[af (if_neg h1) ?_]
  by_cases h2:j<i
  ·rw[af (if_pos h2)<|af (uG<|h j (Kg h1) h2) rfl]
  ·rw[af (if_neg h2) rfl]
theorem fY {m:Nat}:∀c,(∀l,m<=l->l<m+c->gz (T l))->bA E T (m+c)=bA E T m
 |0,_=>rfl
 |c+1,h=>by
  erw[<- Nat.add_assoc,fc,fY c λl h1 h2=>h l h1<|by rw[Nat.le_succ_of_le h2]];have:=h (m+c) (by rw[Nat.le_add_right m c]) (by rw[Nat.le_refl (m+c).succ])
  cases e:T (m+c) with
  |tab y g=>rw[e] at this;rw[this.elim]
  |_=>rfl
noncomputable def iI (T:Nat->Slot)(i:Nat):Option<|Nat×Int:=match T i with
 |.tab a _=>some (i,a)
 |_=>none
def j8 (T:Nat->Slot)(m c:Nat):List<|Nat×Int:=(List.range' m c).filterMap<|iI T
theorem yW:aZ T E=j8 T 0 E:=by unfold aZ j8;rw[af List.range_eq_range' rfl]
theorem nK:∀(c m:Nat) (p:Nat×Int) (ps:List<|Nat×Int),j8 T m c=p::ps->∃g,m<=p.1/\p.1<m+c/\T p.1=.tab p.2 g/\ps=j8 T (p.1+1) (m+c-(p.1+1))/\∀l,m<=l->l<p.1->gz (T l)
 |0,_,_,_,h=>by rw[bU List.ctorIdx h rfl]
 |c+1,m,p,ps,h=>by
  unfold j8 at h;rw[List.range'_succ,List.filterMap_cons] at h;have skip:gz (T m)->iI T m=none:=λz=>by unfold iI;cases e:T m<;>simp_all [gz]
  cases e:T m with
  |tab a g=>
   have e2:iI T m=some (m,a):=by unfold iI;rw[af e rfl]
   rw[e2] at h;obtain ⟨rfl,rfl⟩:=List.cons.inj h;rw[⟨g,Nat.le_refl _,by rw[Nat.lt_succ_of_le<|Nat.le_add_right (m,a).fst c],e,af (show m+(c+1)-(m+1)=c by rw[Ms]) rfl,λl h1 h2=>by rw[absurd (Nat.lt_of_lt_of_le h2 h1)<|Nat.lt_irrefl _]⟩]
  |_=>
   rw[skip (by rw[af e ?_];trivial)] at h;obtain ⟨g,h1,h2,h3,h4,h5⟩:=nK c (m+1) p ps h;rw[⟨g,K4 h1,Mi h2,h3,by rw[af h4 ?_];congr 1;lia,λl l1 l2=>?_⟩]
   by_cases z:l=m
   ·clear h skip h1 h2 h4 h5 l1;subst z;rw[af e ?_];trivial
   ·rw[h5 l (J7 l1 z) l2]
theorem qa:∀(c m:Nat),j8 T m c=[]->∀l,m<=l->l<m+c->gz (T l)
 |0,_,_=>λl h1 h2=>by rw[absurd (Nat.lt_of_lt_of_le h2 h1)<|Nat.lt_irrefl _]
 |c+1,m,h=>λl h1 h2=>by
  unfold j8 at h;rw[List.range'_succ,List.filterMap_cons] at h
  cases e:T m with
  |tab a g=>
   have e2:iI T m=some (m,a):=by unfold iI;rw[af e rfl]
   rw[e2] at h;rw[bU List.ctorIdx h rfl]
  |_=>
   have skip:iI T m=none:=by unfold iI;rw[af e rfl]
   rw[skip] at h
   by_cases z:l=m
   ·clear h h1 h2 skip;subst z;rw[af e ?_];trivial
   ·rw[qa c (m+1) h l (J7 h1 z)<|Mh h2]
end
variable {τ:St}
section
variable {d:Addr}{b:Nat}{x:Int}{i j:Nat}{e:Int}{l:Addr} 
theorem aH.om (H:aH U B b m0 f used)(hl:U l=none):∀y,y=B.lay\/y=B.mem\/y=B.words\/y=B.pool\/y=B.rF\/y=B.qz\/y=B.tab->y≠l:=by
 right;obtain ⟨⟨d1,h1⟩,⟨⟨d2,h2⟩,h3⟩,⟨u,gv,hf,⟨⟨d4,h4⟩,h5,h6⟩,ok⟩,⟨d7,h7⟩,ne⟩:=H;symm;intro y hy z;subst z;rcases hy with rfl|rfl|rfl|rfl|rfl|rfl|rfl
 ·rw[ak hl h1]
 ·rw[ak hl h2]
 ·rw[ak hl h3]
 ·rw[ak hl h4]
 ·rw[ak hl h5]
 ·rw[ak hl h6]
 ·rw[ak hl h7]
theorem aH.away (H:aH U B b m0 f used)(hl:U l=none)(H':aH τ B b m0 f' R5)(hs:eW B (U.set l o) τ):∃Ur,Ur.le τ/\aH Ur B b m0 f' R5/\eW B U Ur:=by
 rw[⟨λy=>if y=l then none else τ y,λz p hz=>?_,H'.same λy hy=>if_neg<|H.om hl y hy,λy hy=>?_⟩]
 ·by_cases h:z=l
  ·simp only [if_pos h] at hz;rw[aq hz]
  ·simp only [if_neg h] at hz;rw[hz]
 ·by_cases h:y=l
  ·clear hs;subst h;simp only [if_true];rw[hl.symm]
  ·simp only [if_neg h];erw[hs y hy];rw[St.ai h]
theorem eW.list (H:aH U B b m0 f used)(hl:U l=none)(hs:eW B (U.set l o) τ):τ l=some o:=by
 erw[hs l λh=>?_]
 ·rw[St.ah]
 ·rcases h with h|h|h|h
  ·rw[H.om hl _ (.inr<|.inr<|.inl rfl) h.symm]
  ·rw[H.om hl _ (.inr<|.inr<|.inr<|.inl rfl) h.symm]
  ·rw[H.om hl _ (.inr<|.inr<|.inr<|.inr<|.inl rfl) h.symm]
  ·rw[H.om hl _ (.inr<|.inr<|.inr<|.inr<|.inr<|.inl rfl) h.symm]
structure Given (E:Nat)(root:Int)(T T':Nat->Slot)(used R5:List Int)(c:Nat):Prop where
 mem:∀x,x∈R5↔x∈used/\(fL E root T x->fL E root T' x)
 len:R5.length+c=used.length
theorem q7 (S:aF E m0 f root T)(hi:i<E)(hT:T i=.tab y g):fL E root (upd T i .none) x↔fL E root T x/\x≠y:=by
 constructor
 ·rintro (rfl|⟨i',g',h,h'⟩)
  ·rw[⟨.inl rfl,λz=>(S.tab i y g hi hT).2.1 z.symm⟩]
  ·by_cases z:i'=i
   ·clear hi hT;subst z;rw[aB] at h';rw[bU Slot.ctorIdx h' rfl]
   ·rw[aJ z] at h';rw[⟨.inr ⟨i',g',h,h'⟩,λzz=>z<|S.inj i' i y g' g h hi (zz▸h') hT⟩]
 ·clear S;rintro ⟨rfl|⟨i',g',h,h'⟩,SK⟩
  ·rw[.inl rfl]
  ·rw[.inr ⟨i',g',h,?_⟩]
   by_cases z:i'=i
   ·clear hi;subst z;rw[hT] at h';rw[(SK (Slot.tab.inj h').1.symm).elim]
   ·rw[af (aJ z) h']
theorem Given.refl:Given E root T T used used 0:=⟨λx=>⟨λh=>⟨h,id⟩,And.left⟩,rfl⟩
theorem Given.step {c:Nat}(h:Given E root T T' used R5 c)(nd:R5.Nodup)(S:aF E m0 f root T')(hi:i<E)(hT:T' i=.tab y g)(hy:y∈R5)(YT:∀x,fL E root T' x->fL E root T x):Given E root T (upd T' i .none) used (R5.erase y)<|c+1:=by
 constructor
 ·intro x;erw[nd.mem_erase_iff,h.mem,q7 S hi hT]
  constructor
  ·rintro ⟨h1,h2,h3⟩;rw[⟨h2,λz=>⟨h3 z,h1⟩⟩]
  ·rintro ⟨h2,h3⟩;rw[⟨λz=>?_,h2,λz=>(h3 z).1⟩];clear hy;subst z;rw[(h3<|YT _<|.inr ⟨i,g,hi,hT⟩).2 rfl]
 ·rw[af (List.length_erase_of_mem hy) ?_];have:=List.length_pos_of_mem hy;have:=h.len;lia
theorem kP {m:Nat}(h:fL E root (cO E T m) x):fL E root T x:=by
 rcases h with h|⟨i,g,h,h'⟩
 ·rw[.inl h]
 ·rw[.inr ⟨i,g,h,?_⟩];unfold cO at h'
  by_cases z:i<m
  ·simp only [if_pos z] at h'
   cases e:T i with
   |tab y g2=>
    rw[e] at h';unfold gy at h'
    by_cases z':bX E g2=true
    ·simp only [if_pos z'] at h';rw[bU Slot.ctorIdx h' rfl]
    ·simp only [if_neg z'] at h';rw[h']
   |none=>rw[e] at h';rw[bU Slot.ctorIdx h' rfl]
   |leaf _=>rw[e] at h';rw[bU Slot.ctorIdx h' rfl]
  ·simp only [if_neg z] at h';rw[h']
theorem sG {kk:Fl->Lo->St->Prop}{l:Addr}(I:Nat->Lo->St->Prop)(h0:I 0 lo U)(Ti:∀m lo U,I m lo U->U l=some (.list<|(aZ T E).map dX))
 (skip:∀m i lo U,m<=i->i<=E->(∀l,m<=l->l<i->gz (T l))->I m lo U->I i lo U)
 (step:∀(i:Nat) y g lo U,i<E->T i=.tab y g->I i lo U->fF D n sc t (.tup [.int i,.int y]) lo U (tF D n sc body (I<|i+1) kk) gF) (fin:∀lo U,I E lo U->kk .next lo U):ki D n (.ref l) U<|uU D n sc t body lo U kk:=by
 rw[aV (Ti _ _ _ h0) ?_,nB (λR6 lo U=>∃m,m<=E/\R6=(j8 T m<|E-m).map dX/\I m lo U) ?_ ?_ ⟨0,Nat.zero_le _,af yW rfl,h0⟩]
 ·rintro v r lo U ⟨m,hm,e,hI⟩
  cases h:j8 T m (E-m) with
  |nil=>rw[h] at e;rw[bU List.ctorIdx e rfl]
  |cons p ps=>
   right;rw[h] at e;obtain ⟨rfl,rfl⟩:=List.cons.inj e;obtain ⟨g,h1,h2,h3,h4,h5⟩:=nK _ _ _ _ h;have hI':=skip m p.1 lo U h1 (MA h2 hm) h5 hI;have s:=step p.1 p.2 g lo U (Mr h2 hm) h3 hI';symm;intro c v' hc hs Sk SD i;rw[wpAny_mono (s c v' hc hs Sk SD i) (λ_ RT ⟨l,τ,RX,SX,q⟩=>⟨l,τ,RX,SX,?_⟩) λ_ _ z=>z,q.mono (λf WC Vl q=>?_) λ_ _ _ _ z=>z]
   cases f<;>first
    |exact q
    |(obtain ⟨UR,T6,a1,a2,a4⟩:=q;exact ⟨UR,T6,a1,a2,Ti _ _ _ a4,p.1+1,OH h2 hm,by refine af h4 (af (show m+(E-m)-(p.1+1)=E-(p.1+1) by exact OI h2 hm) rfl),a4⟩)
 ·rintro lo U ⟨m,hm,e,hI⟩;have:j8 T m (E-m)=[]:=List.map_eq_nil_iff.mp e.symm;rw[fin lo U<|skip m E lo U hm (Nat.le_refl _) (λl h1 h2=>qa _ _ this l h1<|Mm h2 hm) hI]
end
section
variable {d:Addr}{b:Nat}{x:Int}{i j:Nat}{e:Int}{l:Addr} 
theorem qi:cO E T 0=T:=by funext i;unfold cO;rw[af (if_neg<|Nat.not_lt_zero i) rfl]
theorem vV {m:Nat}:cO E T m m=T m:=by unfold cO;rw[af (if_neg<|Nat.lt_irrefl m) rfl]
theorem kO {m:Nat}(hT:T m=.tab y g):cO E T (m+1)=if bX E g=true then upd (cO E T m) m .none else cO E T m:=by
 rw[af (xM ..)<|af hT ?_]
 by_cases h:bX E g=true
 ·rw[af (if_pos h) ?_];unfold gy;simp only [if_pos h]
 ·rw[af (if_neg h) ?_];unfold gy;simp only [if_neg h]
  funext i
  by_cases z:i=m
  ·subst z;rw[af aB<|af vV<|af hT rfl]
  ·rw[af (aJ z) rfl]
theorem xH (xs:List Row):PyData.eqv (.list<|xs.map j5) (.list [])=decide (xs=[]):=by
 cases xs with
 |nil=>simp [PyData.eqv,PyData.eqvAll]
 |cons x xs=>rfl
inductive NS (B:Bd)(b:Nat)(m0:Int)(f:Int->Option Int)(used:List Int)(root:Int)(T:Nat->Slot)(U:St)(l:Addr)(m:Nat)(lo:Lo)(τ:St):Prop
 |mk (e:lo=([("self",.ref B.tab),("root",.int root),("count",.int (bA (2^b) T m))]:Lo)) (f':Int->Option Int) (R5:List Int) (h1:aH τ B b m0 f' R5) (h2:eW B (U.set l (.list ((aZ T (2^b)).map dX))) τ) (h3:aF (2^b) m0 f' root (cO (2^b) T m)) (h4:Rest (2^b) m0 root T used f f') (h5:Given (2^b) root T (cO (2^b) T m) used R5 (bA (2^b) T m))
theorem nY (G:eG b m0)(H:aH U B b m0 f used)(S:aF (2^b) m0 f root T)(hu:∀x,fL (2^b) root T x->x∈used)
 (h:∀σ' f' R5,f6 B b m0 f used root T U σ' f' R5 (cO (2^b) T<|2^b)->Given (2^b) root T (cO (2^b) T<|2^b) used R5 (bA (2^b) T<|2^b)->k (.int<|bA (2^b) T<|2^b) σ'):ay (Dd q) (n+6) (.ref 405) [.ref B.tab,.int root] U k ke:=by
 have hE:=G.e;obtain ⟨d,ha⟩:=H.tab;rw[<-fp ["self","root"] rfl rfl (λ_=>rfl) ?_,<-dz ?_,<-(tables_of_ok G H S λl hl=>?_).call];have H1:=H.fresh (o:=.list<|(aZ T<|2^b).map dX) hl;rw[sG (T:=T) (E:=2^b) (NS B b m0 f used root T U l) ⟨rfl,f,used,H1,eW.refl,by rw[af qi ?_,S],λa _ _ _ _ _=>rfl,af qi Given.refl⟩ ?_ ?_ ?_ ?_]
 ·rintro m lo τ ⟨_,f',u',_,s,_⟩;rw[eW.list H hl s]
 ·rintro m i lo τ hm hi hn ⟨rfl,f',u',h1,h2,h3,h4,h5⟩;right;clear hi;obtain ⟨c,rfl⟩:=Nat.exists_eq_add_of_le hm;symm;rw[⟨by rw[af (fY c hn) rfl],f',u',h1,h2,?_,h4,?_⟩]
  ·rw[af (kQ hm hn) h3]
  ·rw[af (kQ hm hn)<|af (fY c hn) h5]
 ·rintro i y g lo τ hi hT ⟨rfl,f',u',h1,h2,h3,h4,h5⟩;right;obtain ⟨d1,TS⟩:=h1.tab;obtain ⟨Yl,Xo⟩:=h1.mem.it;obtain ⟨Wm,TP⟩:=h1.lay;have hTi:cO (2^b) T i i=.tab y g:=by rw[af vV<|af hT rfl]
  obtain ⟨hp,SK,hw⟩:=h3.tab i y g hi hTi;symm;rw[<-gf rfl (by rw[Nat.succ_pos _]) ?_,(nV G h1 hi hp hw λl2 SW=>?_).call];have H2:=h1.fresh (o:=.list<|(fU (2^b) i g<|2^b).map fk) SW;left;rw[⟨by simp,λl3 Tj=>?_⟩];right;have SK:l2≠l3:=kE St.ah Tj;have H3:=H2.fresh (o:=.list []) Tj;obtain ⟨d3,VF⟩:=H3.tab;obtain ⟨dm3,YX⟩:=H3.mem.it;symm;left;rw[AW (fC.list (af (St.ai SK) St.ah)<|fS.map _ _ (λr=>sR r) _) (fC.list St.ah .nil) (dG j5 1 ac kC _) rfl ?_,<-af (xH ..) ?_]
  by_cases Vi:bX (2^b) g=true
  ·rw[<-aN (dT<|nW.mpr Vi) ?_,<-bG (cF ac) ?_,(wr G H3 h3.rt hi ac ac λRU H4 S4=>?_).call];right;obtain ⟨d4,Zw⟩:=H4.tab;obtain ⟨u4,gv4,hf4,⟨⟨dp4,hp4⟩,_⟩,_⟩:=H4.pool;symm;left;rw[<-(rE G H4 ((h5.mem y).mpr ⟨hu y<|.inr ⟨i,g,hi,hT⟩,λ_=>.inr ⟨i,g,hi,hTi⟩⟩) λSN H5 S5=>?_).call,<-mJ (by with_unfolding_all rfl) ac ?_,rC (op:=.Add) (f:=(·+·)) ?_ λ_ _ _ _ _ q=>P.iadd_int q];right;obtain ⟨Ur,t1,t2,t3⟩:=H2.away Tj H5<|S4.trans S5;obtain ⟨Wq,u1,u2,u3⟩:=h1.away SW t2 t3;symm;rw[⟨([("self",.ref B.tab),("root",.int root),("count",.int<|bA (2^b) T<|i+1)]:Lo),Wq,?_,St.le_trans u1 t1,rfl,_,_,u2,h2.trans u3,?_,?_,?_⟩]
   ·rw[Lo.bg ⟨rfl,rfl,?_,trivial⟩,af (fc ..)<|af hT ?_];simp only [if_pos Vi];rfl
   ·rw[af (kO hT)<|af (if_pos Vi)<|h3.setTop G.m4.1 hi rfl (.inl rfl)]
   ·intro a ha hpa hn j hj;erw[bx (aD G.m4.1 h3.rt) (aD G.m4.1 hpa)<|cB hpa h3.rt (λz=>hn<|.inl z) hj hi];rw[h4 a ha hpa hn j hj]
   ·rw[af (kO hT)<|af (if_pos Vi)<|af (fc ..)<|af hT ?_];simp only [if_pos Vi];rw[h5.step h1.iO.1 h3 hi hTi ((h5.mem y).mpr ⟨hu y<|.inr ⟨i,g,hi,hT⟩,λ_=>.inr ⟨i,g,hi,hTi⟩⟩) λx hx=>kP hx]
  ·rw[<-az (dF λz=>Vi<|nW.mp z) ?_];right;obtain ⟨Ur,t1,t2,t3⟩:=H2.away Tj H3 eW.refl;obtain ⟨Wq,u1,u2,u3⟩:=h1.away SW t2 t3;symm;rw[⟨([("self",.ref B.tab),("root",.int root),("count",.int<|bA (2^b) T<|i+1)]:Lo),Wq,?_,St.le_trans u1 t1,rfl,_,_,u2,h2.trans u3,?_,h4,?_⟩]
   ·rw[Lo.bg ⟨rfl,rfl,?_,trivial⟩,af (fc ..)<|af hT ?_];simp only [if_neg Vi];rfl
   ·rw[af (kO hT)<|af (if_neg Vi) h3]
   ·rw[af (kO hT)<|af (if_neg Vi)<|af (fc ..)<|af hT ?_];simp only [if_neg Vi];rw[h5]
 ·rintro lo τ ⟨rfl,f',u',h1,h2,h3,h4,h5⟩;left;right;obtain ⟨Ur,t1,t2,t3⟩:=H.away hl h1 h2;symm;rw[⟨Ur,t1,h _ _ _ ⟨t2,t3,h3,h4⟩ h5⟩]
end
section
variable {d:Addr}{b:Nat}{x:Int}{i j:Nat}{e:Int}{l:Addr} 
inductive NY (B:Bd)(b:Nat)(m0:Int)(f:Int->Option Int)(used:List Int)(root:Int)(T:Nat->Slot)(U:St)(l:Addr)(m:Nat)(lo:Lo)(τ:St):Prop
 |mk (e:lo=([("self",.ref B.tab),("root",.int root)]:Lo)) (R5:List Int) (h1:aH τ B b m0 f R5) (h2:eW B (U.set l (.list ((aZ T (2^b)).map dX))) τ) (h3:∀x,x∈R5↔x∈used/\¬∃i g,i<m/\T i=.tab x g)
theorem wI (G:eG b m0)(H:aH U B b m0 f used)(S:aF (2^b) m0 f root T)(hu:∀x,fL (2^b) root T x->x∈used)
 (h:∀σ' R5,aH σ' B b m0 f R5->eW B U σ'->(∀x,x∈R5↔x∈used/\¬fL (2^b) root T x)->k .none σ'):ay (Dd q) (n+6) (.ref 417) [.ref B.tab,.int root] U k ke:=by
 have hE:=G.e;obtain ⟨d,ha⟩:=H.tab;rw[<-fp ["self","root"] rfl rfl (λ_=>rfl) ?_,<-dz ?_,<-(tables_of_ok G H S λl hl=>?_).call];have H1:=H.fresh (o:=.list<|(aZ T<|2^b).map dX) hl;rw[sG (T:=T) (E:=2^b) (NY B b m0 f used root T U l) ⟨rfl,used,H1,eW.refl,λx=>⟨λh=>⟨h,by rintro ⟨i,g,h,_⟩;rw[absurd h<|Nat.not_lt_zero i]⟩,And.left⟩⟩ ?_ ?_ ?_ ?_]
 ·rintro m lo τ ⟨_,u',_,s,_⟩;rw[eW.list H hl s]
 ·rintro m i lo τ hm hi hn ⟨rfl,u',h1,h2,h3⟩;rw[⟨rfl,u',h1,h2,λx=>(h3 x).trans<|and_congr_right λ_=>not_congr ⟨λ⟨j,g,a,c⟩=>⟨j,g,JV a hm,c⟩,λ⟨j,g,a,c⟩=>⟨j,g,?_,c⟩⟩⟩];rcases Nat.lt_or_ge j m with z|z
  ·rw[z]
  ·have:=hn j z a;rw[c] at this;rw[this.elim]
 ·rintro i y g lo τ hi hT ⟨rfl,u',h1,h2,h3⟩;right;obtain ⟨d1,TS⟩:=h1.tab;obtain ⟨u4,gv4,hf4,⟨⟨dp4,hp4⟩,_⟩,_⟩:=h1.pool;have hy:y∈u':=(h3 y).mpr ⟨hu y<|.inr ⟨i,g,hi,hT⟩,by rintro ⟨j,g',a,c⟩;rw[absurd (S.inj j i y g' g (Lz hi a) hi c hT)<|by rw[Nat.ne_of_lt a]]⟩;symm;rw[<-gf rfl (by rw[Nat.succ_pos _]) ?_,(rE G h1 hy λSN H5 S5=>?_).call,⟨([("self",.ref B.tab),("root",.int root)]:Lo),_,Lo.bg ⟨rfl,rfl,trivial⟩,St.le_refl _,rfl,_,H5,h2.trans S5,λx=>?_⟩,af (propext h1.iO.1.mem_erase_iff)<|af (propext<|h3 ..) ?_]
  constructor
  ·rintro ⟨z,h4,h5⟩;rw[⟨h4,λw9=>?_⟩];obtain ⟨j,g',a,c⟩:=w9;clear hi h3;rcases Nat.lt_or_eq_of_le (Nat.le_of_lt_succ a) with w|rfl
   ·rw[h5 ⟨j,g',w,c⟩]
   ·rw[hT] at c;rw[z (Slot.tab.inj c).1.symm]
  ·rintro ⟨h4,h5⟩;rw[⟨λz=>h5 ⟨i,g,Nat.lt_succ_self i,z▸hT⟩,h4,by rintro ⟨j,g',a,c⟩;rw[h5 ⟨j,g',by rw[Nat.le_succ_of_le a],c⟩]⟩]
 ·rintro lo τ ⟨rfl,u',h1,h2,h3⟩;right;obtain ⟨d1,TS⟩:=h1.tab;obtain ⟨u4,gv4,hf4,⟨⟨dp4,hp4⟩,_⟩,_⟩:=h1.pool;have hy:root∈u':=(h3 root).mpr ⟨hu root<|.inl rfl,by rintro ⟨j,g',a,c⟩;rw[(S.tab j root g' a c).2.1 rfl]⟩;symm;left;rw[(rE G h1 hy λSN H5 S5=>?_).call];right;obtain ⟨Ur,t1,t2,t3⟩:=H.away hl H5<|h2.trans S5;symm;rw[⟨Ur,t1,h _ _ t2 t3 λx=>?_⟩,af (propext h1.iO.1.mem_erase_iff)<|af (propext<|h3 ..) ?_]
  constructor
  ·rintro ⟨z,h4,h5⟩;rw[⟨h4,λw=>w.elim z λ⟨j,g',a,c⟩=>h5 ⟨j,g',a,c⟩⟩]
  ·rintro ⟨h4,h5⟩;rw[⟨λz=>h5<|.inl z,h4,by rintro ⟨j,g',a,c⟩;rw[h5<|.inr ⟨j,g',a,c⟩]⟩]
end
variable {k':Bool->St->Prop}{S8:Expr}{es Tc:List Expr}{Sj:Src}
section
variable {scope:Scope} 
noncomputable def AJ (scope:Scope)(lo:Lo):Lo:=scope.names.filterMap λp=>if p.2== .free then (lo.lookup p.1).map λv=>(p.1,v) else none
theorem fZ (lo:Lo){x:Str}:∀{ns:List<|Str×NameKind},(ns.map (·.1)).Nodup->(x,NameKind.free)∈ns->(ns.filterMap λp=>if p.2== .free then (lo.lookup p.1).map λv=>(p.1,v) else none).lookup x=lo.lookup x
 |p::ns,nd,h=>by
  obtain ⟨y,kd⟩:=p;rw[List.map_cons,List.nodup_cons] at nd;rw[af List.filterMap_cons ?_];rcases ek h with z|z
  ·clear h;cases z;erw[if_pos<|by rfl]
   cases e:lo.lookup x with
   |none=>
    rw[af (propext List.lookup_eq_none_iff) ?_];intro p hp;obtain ⟨p',Sn,e'⟩:=List.mem_filterMap.mp hp;rw[af (propext bne_iff_ne) ?_];intro w
    split at e'
    ·cases e2:lo.lookup p'.1 with
     |none=>rw[e2] at e';rw[aq e']
     |some v=>rw[e2] at e';(replace e':=sI e';clear hp;subst e');rw[nd.1 (w▸List.mem_map_of_mem (f:=(·.1)) Sn)]
    ·rw[aq e']
   |some v=>
    show List.lookup x ((x,v)::List.filterMap _ ns)=some v;rw[af List.lookup_cons<|af (beq_self_eq_true ..) rfl]
  ·have SK:(x==y)=false:=beq_eq_false_iff_ne.mpr λw=>nd.1 (w▸List.mem_map_of_mem (f:=(·.1)) z);have ih:=fZ lo nd.2 z
   by_cases hk:(kd==NameKind.free)=true
   ·rw[af (if_pos hk) ?_]
    cases e:lo.lookup y with
    |none=>rw[ih]
    |some v=>
     show List.lookup x ((y,v)::List.filterMap _ ns)=_;rw[af List.lookup_cons<|af SK ih]
   ·rw[af (if_neg hk) ih]
theorem bV (kind:scope.kind=.function)(nd:(scope.names.map (·.1)).Nodup)(free:∀p∈scope.names,p.2=.free->sc.names.lookup p.1=some .cell\/sc.names.lookup p.1=some .free):jP sc scope lo (AJ scope lo) where
 kind:=kind
 nd:=nd
 free:=free
 cap p hp:=by
  obtain ⟨p',Sn,e⟩:=List.mem_filterMap.mp hp
  split at e
  ·rename_i h
   cases e2:lo.lookup p'.1 with
   |none=>rw[e2] at e;rw[aq e]
   |some v=>
    rw[e2] at e;(replace e:=sI e;clear hp;subst e);have:p'=(p'.1,NameKind.free):=by rw[af (Eq.symm<|LawfulBEq.eq_of_beq h) rfl]
    rw[⟨this▸Sn,(fZ lo nd<|this▸Sn).symm⟩]
  ·rw[aq e]
 all p hp h:=(fZ lo nd<|af (Eq.symm<|h) hp).symm
theorem vJ.mono {k:Bool->St->Prop}(h:vJ D n sc es lo U k)(hk:∀b τ,k b τ->k' b τ):vJ D n sc es lo U k':=by
 cases es with
 |nil=>rw[hk _ _ h]
 |cons e es=>
  cases es with
  |nil=>rw[λc hc hs=>(h c hc hs).mono hk λ_ _ _ z=>z]
  |cons _ _=>rw[h.elim]
theorem kh {α:Type}{t S8:Expr}{Tc:List Expr}{Sj:Src}{k:List V->St->Prop}(fv:α->V)(r:α->Option V)(Ti:bJ U Sj):∀(xs:List α) (Sa:List V),
 (∀x∈xs,fF D n sc t (fv x) lo U (λRY RS=>lo.le RY/\vJ D n sc Tc RY RS λb RU=>if b=true then bY D n sc S8 RY RU (λy R1=>U.le R1/\r x=some y) xg else U.le RU/\r x=none) gF)->
 k (Sa++xs.filterMap r) U->yy D n sc t Tc S8 lo Sj (xs.map fv) Sa U k
 |[],Sa,_,h=>by rw[List.filterMap_nil,List.append_nil] at h;rw[h]
 |x::xs,Sa,step,h=>by
  intro c v' hc hs Sk SD i;rw[wpAny_mono (step x List.mem_cons_self c v' hc hs Sk SD i) (λ_ RT ⟨l,τ,RX,SX,le,q⟩=>⟨l,τ,RX,SX,le,q.mono λb RU q=>?_⟩) λ_ _ z=>z];have step':=λy hy=>step y<|List.mem_cons_of_mem _ hy
  cases b with
  |false=>
   rw[if_neg ac] at q ⊢;rw[List.filterMap_cons,q.2] at h;rw[⟨U,q.1,Ti,kh fv r Ti xs Sa step' h⟩]
  |true=>
   rw[if_pos rfl] at q ⊢;rw[q.mono (λy R1 ⟨a,e⟩=>⟨U,a,Ti,kh fv r Ti xs (Sa++[y]) step' ?_⟩) λ_ _ _ z=>z];rw[List.filterMap_cons,e] at h;rw[af (List.append_assoc ..) h]
theorem fy {α:Type}{k:List V->St->Prop}(fv r:α->V)(Ti:bJ U Sj)(xs:List α)
 (step:∀x∈xs,fF D n sc t (fv x) lo U (λRY RS=>lo.le RY/\bY D n sc S8 RY RS (λy R1=>U.le R1/\y=r x) xg) gF)
 (h:k (xs.map r) U):yy D n sc t [] S8 lo Sj (xs.map fv) [] U k:=by
 rw[kh fv (λx=>some<|r x) Ti xs [] (λx hx c v' hc hs Sk SD i=>?_) ?_]
 ·rw[wpAny_mono (step x hx c v' hc hs Sk SD i) (λ_ RT ⟨l,τ,RX,SX,le,q⟩=>⟨l,τ,RX,SX,le,?_⟩) λ_ _ z=>z,aN (B:=U.le τ/\some (r x)=none) rfl (q.mono (λy R1 ⟨a,e⟩=>⟨a,by rw[af e rfl]⟩) λ_ _ _ z=>z)]
 ·erw[List.nil_append,show List.filterMap (λx=>some<|r x) xs=xs.map r by rw[af (Eq.symm<|List.filterMap_eq_map) rfl]];rw[h]
end
section
variable {d:Addr}{b:Nat}{x:Int}{i j:Nat}{e:Int}{l:Addr} 
def bH (E:Nat)(T:Nat->Slot)(x:Int):Option Int:=match T (cI E x) with
 |.none=>none
 |.leaf e=>some (e/1024*(4*E)+x%(4*E*E))
 |.tab _ g=>if g (cM E x)=0 then none else some (g (cM E x)/1024*(4*E)+x%(4*E))
noncomputable def BK:Option Int->V
 |none=>.none
 |some z=>.int z
theorem pl (b:Nat):(4*((2^b:Nat):Int))*((2^b:Nat):Int)=2^(2*b+2):=by
 rw[af (Int.pow_add ..)<|af (show 2*b=b+b by lia)<|af (Int.pow_add ..)<|af (iG b) ?_];generalize ((2^b:Nat):Int)=z;rw[af (show (2:Int)^2=4 from rfl)<|af (Int.mul_assoc ..)<|af (Int.mul_comm ..) rfl]
theorem C6 (h0:0<=e)(hd:e/1024%((2^b:Nat):Int)=0):Builtin.bitOr (e/1024*(4*((2^b:Nat):Int))) (x%(4*((2^b:Nat):Int)*((2^b:Nat):Int)))=e/1024*(4*((2^b:Nat):Int))+x%(4*((2^b:Nat):Int)*((2^b:Nat):Int)):=by
 rw[af (pl b) ?_];have hp:(0:Int)<2^(2*b+2):=Int.pow_pos ac;have key:e/1024*(4*((2^b:Nat):Int))=e/1024/((2^b:Nat):Int)*2^(2*b+2):=by
  rw[af (Eq.symm<|pl b) ?_];have h1:e/1024/((2^b:Nat):Int)*((2^b:Nat):Int)=e/1024:=Int.ediv_mul_cancel<|Int.dvd_of_emod_eq_zero hd;generalize e/1024/((2^b:Nat):Int)=z at h1;generalize ((2^b:Nat):Int)=E at*;rw[af (Eq.symm<|h1)<|af (Int.mul_assoc ..)<|af (Int.mul_comm E<|4*E) rfl]
 rw[af key<|jy _ (Int.ediv_nonneg (zX h0)<|by rw[nN<|2^b]) (Int.emod_nonneg _<|by rw[Int.ne_of_gt hp])<|Int.emod_lt_of_pos _ hp]
theorem C5 (h0:0<=e):Builtin.bitOr (e/1024*(4*((2^b:Nat):Int))) (x%(4*((2^b:Nat):Int)))=e/1024*(4*((2^b:Nat):Int))+x%(4*((2^b:Nat):Int)):=by
 rw[af (Eq.symm<|pe b) ?_];have hp:(0:Int)<2^(b+2):=Int.pow_pos ac;rw[jy _ (zX h0) (Int.emod_nonneg _<|by rw[Int.ne_of_gt hp])<|Int.emod_lt_of_pos _ hp]
theorem A6 (h0:0<=x):Builtin.bitAnd x (4*((2^b:Nat):Int)*((2^b:Nat):Int)-1)=x%(4*((2^b:Nat):Int)*((2^b:Nat):Int)):=by
 rw[af (pl b)<|cQ _ h0]
theorem yS (G:eG b m0)(H:aH U B b m0 f used)(S:aF (2^b) m0 f root T)(hx:fB b x)(h:k (BK<|bH (2^b) T x) U):ay (Dd q) (n+4) (.ref 320) [.ref B.tab,.int root,.int x] U k ke:=by
 right;obtain ⟨d,ha⟩:=H.tab;obtain ⟨dm,TA⟩:=H.mem.it;obtain ⟨dl,SP⟩:=H.lay;have hE:=G.e;have hi:=dR (E:=2^b) (eO hE) hx.1 hx.2;have hj:=fX (E:=2^b) (x:=x)<|eO hE;symm;rw[<-fp ["self","root","address"] rfl rfl (λ_=>rfl) ?_,<-(cK G H hx ?_).call,<-(lB G H S hx ?_).call]
 cases hT:T (cI (2^b) x) with
 |none=>
  rw[af (cV hT) ?_,<-aN (eqT rfl) ?_];unfold bH at h;rw[hT] at h;rw[rt h]
 |leaf e=>
  right;obtain ⟨L,hd⟩:=S.leaf _ e hi hT;obtain ⟨l0,l1,l2,l3,l4⟩:=id L;symm;rw[af (cH hT) ?_,<-az (oX λz=>l2<|af z z1) ?_,<-bG (cF ac) ?_,(fW G H S hi ?_).call,<-af hT ?_,<-(bq ?_).call,<-aN (neT l3) ?_,<-(fK G H L ?_).call];erw[pe b,iG b,A6 hx.1,C6 l0 hd];unfold bH at h;rw[hT] at h;rw[rt h]
 |tab y g=>
  right;obtain ⟨p1,p2,p3⟩:=S.tab _ y g hi hT;have h1:=fM p1;have h2:=G.m4;symm;rw[af (ck hT) ?_];rcases (p3 _ hj).2 with z|z
  ·rw[<-aN (eqT z) ?_];unfold bH at h;rw[hT] at h;simp only [if_pos z] at h;rw[rt h]
  ·have hz:g (cM (2^b) x)≠0:=λw=>z.2.2.1<|af w z1;rw[<-az (oX hz) ?_,<-bG (cF ac) ?_,(fW G H S hi ?_).call,af hT ?_];right;obtain ⟨c0,c1,c2,c3⟩:=cX (g:=g) (E:=2^b) (show 0<=y by rw[wo h2 h1]) (yD h2 hE h1)<|eO hE;symm;left;rw[<-(bq ?_).call,<-az (gH c3) ?_,<-(fK G H z ?_).call];erw[C5 z.1];unfold bH at h;rw[hT] at h;simp only [if_neg hz] at h;rw[rt h]
end
noncomputable def jF (d:Nat):Nat:=if d<10 then 48+d else 87+d
def aK (x:Int):Str:=⟨((List.range 8).map λj=>jF<|x.toNat/16^(7-j)%16).toArray⟩
theorem vz (d:Nat)(h:d<16):Txt.item (Str.ofString "0123456789abcdef") (d:Int)=⟨#[jF d]⟩:=by
 have key:∀d:Fin 16,Txt.item (Str.ofString "0123456789abcdef") ((d.1:Nat):Int)=⟨#[jF d.1]⟩:=by decide+kernel
 rw[key ⟨d,h⟩]
theorem oO:∀(xs:List Nat),Txt.join (Str.ofString "") (xs.map λc=>(⟨#[c]⟩:Str))=⟨xs.toArray⟩:=by
 intro xs;show (⟨((xs.map λc=>(⟨#[c]⟩:Str)).drop 1).foldl (λSa p=>Sa++(Str.ofString "").cps++p.cps) ((xs.map λc=>(⟨#[c]⟩:Str)).headD Str.empty).cps⟩:Str)=_;have key:∀(ys:List Nat) (Sa:Array Nat),(ys.map λc=>(⟨#[c]⟩:Str)).foldl (λSa p=>Sa++(Str.ofString "").cps++p.cps) Sa=Sa++ys.toArray:=by
  intro ys
  induction ys with
  |nil=>intro Sa;rfl
  |cons y ys ih=>
   intro Sa;rw[af List.map_cons<|af List.foldl_cons<|af (ih ..)<|af (show (Str.ofString "").cps=#[] from rfl) ?_];apply Array.ext';simp
 cases xs with
 |nil=>rfl
 |cons x xs=>
  rw[af List.map_cons<|af List.drop_one<|af List.tail_cons<|af List.headD_cons<|af (key ..) ?_]
  congr 1
  apply Array.ext';simp
theorem yl (x:Int)(h0:0<=x)(p:Nat):Builtin.bitAnd (x.fdiv<|2^(4*p)) 15=((x.toNat/16^p%16:Nat):Int):=by
 rw[af (ku ..) ?_];have h1:0<=x/2^(4*p):=Int.ediv_nonneg h0<|Int.le_of_lt<|Int.pow_pos ac;rw[af (show (15:Int)=2^4-1 from rfl)<|af (cQ 4 h1) ?_];clear h1;obtain ⟨m,rfl⟩:=Int.eq_ofNat_of_zero_le h0;rw[af Int.pow_mul rfl]
section
variable {d:Addr}{b:Nat}{x:Int}{i j:Nat}{e:Int}{l:Addr} 
theorem lE (h0:0<=x)(h:k (.str<|aK x) U):ay (Dd q) (n+3) (.ref 191) [.int x] U k ke:=by
 rw[<-fp ["value"] rfl rfl (λ_=>rfl) ?_,<-cC ru ?_,<-cU (bV rfl ac ac) ?_,<-CX ?_,<-CX ?_,<-mu ac ac ?_,gB ac ?_];erw[show c9 7 (Builtin.Range.rangeSize 7 (-1)<|-1).toNat (-1)=(List.range 8).map λ(j:Nat)=>V.int ((7-j:Nat):Int) by rfl];rw[⟨by simp,?_⟩,fy _ (λj=>.str ⟨#[jF<|x.toNat/16^(7-j)%16]⟩) (show bJ U .free from trivial) (List.range 8) (λj hj=>?_) ?_]
 ·left;rw[<-⟨Lo.bg ⟨rfl,trivial⟩,?_⟩,<-bG (cF ac) ?_,<-lH (by rw[nN<|4*(7-j)]) ?_];erw[show (4*((7-j:Nat):Int)).toNat=4*(7-j) by rw[rfl],yl x h0];have h16:x.toNat/16^(7-j)%16<16:=Nat.mod_lt _ ac;rw[qT (by rw[nN<|x.toNat/16^(7-j)%16]) (af (show (Str.ofString "0123456789abcdef").length=16 from rfl)<|Int.ofNat_lt.mpr h16) ac ?_,af (vz _ h16) ⟨St.le_refl _,rfl⟩]
 ·intro a ha;left;have e:((List.range 8).map λj=>(V.str ⟨#[jF<|x.toNat/16^(7-j)%16]⟩:V))=(((List.range 8).map λj=>jF<|x.toNat/16^(7-j)%16).map λc=>(⟨#[c]⟩:Str)).map .str:=by
   rw[af List.map_map<|af List.map_map rfl]
  rw[af e ?_,rU St.ah ?_ ?_]
  ·rw[Nat.le_of_ble_eq_true rfl]
  ·rw[af (oO ..) ⟨_,St.aY ha,h⟩]
end
section
variable {d:Addr}{b:Nat}{x:Int}{i j:Nat}{e:Int}{l:Addr} 
theorem gR {α:Type}{kk:Fl->Lo->St->Prop}(fv:α->V)(xs:List α)(I:List α->Lo->St->Prop)(h0:I [] lo U)(Ti:∀done lo U,I done lo U->bJ U Sj)
 (step:∀done x lo U,(∃rest,xs=done++x::rest)->I done lo U->fF D n sc t (fv x) lo U (tF D n sc body (I<|done++[x]) kk) gF) (fin:∀lo U,I xs lo U->kk .next lo U):Bl D n sc t body Sj (xs.map fv) lo U kk:=by
 rw[nB (λR6 lo U=>∃done rest,xs=done++rest/\R6=rest.map fv/\I done lo U) ?_ ?_ ⟨[],xs,rfl,rfl,h0⟩]
 ·rintro v r lo U ⟨done,rest,e1,e2,hI⟩
  cases rest with
  |nil=>rw[bU List.ctorIdx e2 rfl]
  |cons x rest=>
   obtain ⟨rfl,rfl⟩:=List.cons.inj e2;have s:=step done x lo U ⟨rest,e1⟩ hI;intro c v' hc hs Sk SD i;rw[wpAny_mono (s c v' hc hs Sk SD i) (λ_ RT ⟨l,τ,RX,SX,q⟩=>⟨l,τ,RX,SX,?_⟩) λ_ _ z=>z,q.mono (λf WC Vl q=>?_) λ_ _ _ _ z=>z]
   cases f<;>first
    |exact q
    |(obtain ⟨UR,T6,a1,a2,a4⟩:=q;exact ⟨UR,T6,a1,a2,Ti _ _ _ a4,done++[x],rest,af e1 (af (List.append_assoc ..) rfl),rfl,a4⟩)
 ·rintro lo U ⟨done,rest,e1,e2,hI⟩;have:rest=[]:=List.map_eq_nil_iff.mp e2.symm;clear e2;subst this;rw[List.append_nil] at e1;subst e1;rw[fin lo U hI]
noncomputable def gM (j:Nat):Nat:=(Str.ofString "vrwxugad").cps[j]?.getD 0
def cg (fl:Int)(j:Nat):Nat:=if fl/2^j%2=1 then gM j else 45
def bk (fl:Int):Str:=⟨((List.range 8).map<|cg fl).toArray⟩
def bf (E:Nat)(r:Row):Str:=aK r.1++(Str.ofString " ")++aK r.2.1++(Str.ofString " ")++bk r.2.2.1++(if r.2.2.2=4*E*E then Str.ofString "*" else Str.ofString "")
theorem vq:iZ (Str.ofString "vrwxugad") 0=(List.range 8).map λ(j:Nat)=>V.tup [.int j,.str ⟨#[gM j]⟩]:=by rfl
def DA (r:Row):Prop:=0<=r.1/\0<=r.2.1/\0<=r.2.2.1
theorem BU (h0:0<=fl)(j:Nat):Builtin.bitAnd (fl.fdiv<|2^j) 1=fl/2^j%2:=by
 rw[af (ku ..)<|cQ 1<|Int.ediv_nonneg h0<|Int.le_of_lt<|Int.pow_pos ac]
theorem aI (x y:Str):(x++y).length=x.length+y.length:=by
 show (x.cps++y.cps).size=_;rw[af Array.size_append rfl]
theorem aR (x:Int):(aK x).length=8:=rfl
theorem aX (x:Int):(bk x).length=8:=rfl
theorem St.tB {l l2:Addr}{X Y R J:bI}(h2:l2≠l)(ha:((U.set l X).set l2 R) a=none):((U.set l Y).set l2 R).le<|(((U.set l X).set l2 R).set a J).set l Y:=λz p hz=>by
 by_cases h:z=l
 ·clear ha;subst h;rw[St.ai<|Ne.symm h2,St.ah] at hz;rw[af St.ah hz]
 ·have e:((U.set l X).set l2 R) z=some p:=by
   by_cases h':z=l2
   ·clear h2 ha;subst h';rw[St.ah] at hz ⊢;rw[hz]
   ·rw[St.ai h',St.ai h] at hz ⊢;rw[hz]
  rw[af (St.ai h) ?_]
  by_cases h':z=a
  ·subst h';rw[ak ha e]
  ·erw[St.ai h'];rw[e]
theorem jU:∀xs:List Row,((xs.map<|bf E).map (·.length)).sum<=27*xs.length
 |[]=>Nat.zero_le _
 |r::xs=>by
  have h1:(bf E r).length<=27:=by
   unfold bf;erw[aI,aI,aI,aI,aI,aR,aR,aX,show (Str.ofString " ").length=1 from rfl]
   split
   ·rw[Nat.le_of_ble_eq_true rfl]
   ·rw[Nat.le_of_ble_eq_true rfl]
  have h2:=jU xs;erw[List.map_cons,List.map_cons,List.sum_cons,List.length_cons];rw[KO h2 h1]
theorem nq (G:eG b m0)(H:aH U B b m0 f used)(S:aF (2^b) m0 f root T)(hr:∀r∈aP (2^b) T (2^b),DA r)(h:k (.str<|Txt.join (Str.ofString "\n")<|(aP (2^b) T<|2^b).map<|bf<|2^b) U):ay (Dd q) (n+6) (.ref 422) [.ref B.tab,.int root] U k ke:=by
 have hE:=G.e;obtain ⟨d,ha⟩:=H.tab;rw[<-fp ["self","root"] rfl rfl (λ_=>rfl) ?_,<-⟨by simp,λl hl=>?_⟩,dz ?_];have H1:=H.fresh (o:=.list []) hl;obtain ⟨d1,TS⟩:=H1.tab;left;rw[(qZ G H1 S λl2 SW=>?_).call];have SK:l2≠l:=(kE St.ah SW).symm;left;rw[aV St.ah ?_,gR fk _ (λdone lo τ=>lo=([("self",.ref B.tab),("root",.int root),("lines",.ref l)]:Lo)/\τ=(U.set l<|.list<|(done.map<|bf<|2^b).map .str).set l2 (.list<|(aP (2^b) T<|2^b).map fk)) ⟨rfl,rfl⟩ ?_ ?_ ?_]
 ·rintro done lo τ ⟨rfl,rfl⟩;rw[St.ah]
 ·rintro done r lo τ ⟨rest,Vu⟩ ⟨rfl,rfl⟩;have hdone:done.length<=100000:=by
   have h1:=eT (T:=T) (show 0<2^b by rw[eO hE])<|2^b;have h2:2^b*2^b<=32*32:=Nat.mul_le_mul hE.2 hE.2;have h3:=congrArg List.length Vu;rw[List.length_append] at h3;rw[J5 h2 h3 h1]
  have R:=hr r<|af Vu<|List.mem_append_right _ List.mem_cons_self;have H2:aH ((U.set l<|.list<|(done.map<|bf<|2^b).map .str).set l2<|.list<|(aP (2^b) T<|2^b).map fk) B b m0 f used:=
   (H.fresh hl).fresh (by rw[af (St.ai SK) ?_];rw[St.ai SK] at SW;rw[SW])
  have hlist:((U.set l<|.list<|(done.map<|bf<|2^b).map .str).set l2<|.list<|(aP (2^b) T<|2^b).map fk) l=some (.list<|(done.map<|bf<|2^b).map .str):=af (St.ai<|Ne.symm SK) St.ah;rw[<-gf rfl (by rw[Nat.succ_pos _]) ?_,<-cC ru ?_,<-rK (x:=Str.ofString "vrwxugad") (bV rfl ac ac) (by decide+kernel) ac ?_,<-⟨rfl,?_⟩,⟨rfl,?_⟩,af vq ?_,fy (λ(j:Nat)=>V.tup [.int j,.str ⟨#[gM j]⟩]) (λj=>.str ⟨#[cg r.2.2.1 j]⟩) (show bJ _ .free from trivial) (List.range 8) (λj hj=>?_) ?_]
  ·rw[<-gf rfl (by rw[Nat.succ_pos _]) ?_,<-⟨Lo.bg ⟨rfl,trivial⟩,?_⟩,<-lH (by rw[nN j]) ?_];erw[Int.toNat_natCast,BU R.2.2]
   by_cases hm:r.2.2.1/2^j%2=1
   ·rw[<-aN (eqT hm) ?_,⟨St.le_refl _,?_⟩];unfold cg;rw[af (if_pos hm) rfl]
   ·rw[<-az (oX hm) ?_,⟨St.le_refl _,?_⟩];unfold cg;rw[af (if_neg hm) rfl]
  ·intro a TU;left;have e:((List.range 8).map λj=>(V.str ⟨#[cg r.2.2.1 j]⟩:V))=(((List.range 8).map<|cg r.2.2.1).map λc=>(⟨#[c]⟩:Str)).map .str:=by
    rw[af List.map_map<|af List.map_map rfl]
   rw[af e ?_,rU St.ah ?_ ?_]
   ·rw[Nat.le_of_ble_eq_true rfl]
   rw[af (oO ..)<|af (show (⟨((List.range 8).map<|cg r.2.2.1).toArray⟩:Str)=bk r.2.2.1 from rfl) ?_];right;have H3:=H2.fresh (o:=.list<|(((List.range 8).map<|cg r.2.2.1).map λc=>(⟨#[c]⟩:Str)).map .str) TU;have hla:l≠a:=kE hlist TU;have hlist3:=(St.ai (U:=((U.set l<|.list<|(done.map<|bf<|2^b).map .str).set l2<|.list<|(aP (2^b) T<|2^b).map fk)) (o:=.list<|(((List.range 8).map<|cg r.2.2.1).map λc=>(⟨#[c]⟩:Str)).map .str) hla).trans hlist;obtain ⟨d3,VF⟩:=H3.tab;obtain ⟨dl3,hla3⟩:=H3.lay;symm;left;have e2:∀st:Str,(if r.2.2.2=4*((2^b:Nat):Int)*((2^b:Nat):Int) then Str.ofString "*" else Str.ofString "")=st->((done++[r]).map<|bf<|2^b).map V.str=(done.map<|bf<|2^b).map V.str++[V.str<|aK r.1++(Str.ofString " ")++aK r.2.1++(Str.ofString " ")++bk r.2.2.1++st]:=λst Vf=>by
    rw[af List.map_append<|af List.map_append<|af (Eq.symm<|Vf) rfl]
   by_cases hs:r.2.2.2=2^(b+2)*2^b
   ·rw[<-aN (eqT hs) ?_,<-cC (cu hlist3) ?_,<-(lE R.1 ?_).call,<-g8 (by rw[af (aR ..) ?_];decide) ?_,<-(lE R.2.1 ?_).call,<-g8 (by erw[aI,aR,aR];decide) ?_,<-g8 (by erw[aI,aI,aR,aR];decide) ?_,<-g8 (by erw[aI,aI,aI,aR,aR,aX];decide) ?_,<-g8 (by erw[aI,aI,aI,aI,aR,aR,aX];decide) ?_,cy hlist3 (af (cD ..)<|af (cD ..) hdone) ?_,⟨([("self",.ref B.tab),("root",.int root),("lines",.ref l)]:Lo),_,Lo.bg ⟨rfl,rfl,rfl,trivial⟩,?_,rfl,rfl⟩];erw[e2 _<|by erw[if_pos (by erw[<- pe b,<- iG b];rw[hs])]];rw[St.tB SK TU]
   ·rw[<-az (oX hs) ?_,<-cC (cu hlist3) ?_,<-(lE R.1 ?_).call,<-g8 (by rw[af (aR ..) ?_];decide) ?_,<-(lE R.2.1 ?_).call,<-g8 (by erw[aI,aR,aR];decide) ?_,<-g8 (by erw[aI,aI,aR,aR];decide) ?_,<-g8 (by erw[aI,aI,aI,aR,aR,aX];decide) ?_,<-g8 (by erw[aI,aI,aI,aI,aR,aR,aX];decide) ?_,cy hlist3 (by erw[cD,cD];rw[hdone]) ?_,⟨([("self",.ref B.tab),("root",.int root),("lines",.ref l)]:Lo),_,Lo.bg ⟨rfl,rfl,rfl,trivial⟩,?_,rfl,rfl⟩];erw[e2 _<|by erw[if_neg (by erw[<- pe b,<- iG b];rw[hs])]];rw[St.tB SK TU]
 ·rintro lo τ ⟨rfl,rfl⟩;left;rw[<-cC ru ?_];have hn2:(U.set l<|.list<|((aP (2^b) T<|2^b).map<|bf<|2^b).map .str) l2=none:=by rw[af (St.ai SK) ?_];rw[St.ai SK] at SW;rw[SW]
  rw[rU ((St.ai<|Ne.symm SK).trans St.ah) ?_ ⟨U,St.le_trans (St.aY hl)<|St.aY hn2,h⟩];have h1:=eT (T:=T) (show 0<2^b by rw[eO hE])<|2^b;have h2:2^b*2^b<=32*32:=Nat.mul_le_mul hE.2 hE.2;have h3:=jU (E:=2^b)<|aP (2^b) T<|2^b;rw[af (cD ..)<|af (show (Str.ofString "\n").length=1 from rfl)<|LM h2 h1 h3]
end
section
variable {d:Addr}{b:Nat}{x:Int}{i j:Nat}{e:Int}{l:Addr} 
abbrev Lv:=Int×Int
noncomputable def oJ (r:Lv):V:=.tup [.int r.1,.int r.2]
noncomputable def C1 (E i:Nat)(y:Int)(g:Nat->Int)(j:Nat):Option Lv:=if g j=0 then none else some (((i:Int)*E+j)*(4*E),y+4*j)
def gJ (E:Nat)(root:Int)(i:Nat):Slot->List Lv
 |.none=>[]
 |.leaf _=>[(((i:Int)*E+(0:Int))*(4*E),root+4*i)]
 |.tab y g=>(List.range E).filterMap (C1 E i y g)
def eE (E:Nat)(root:Int)(T:Nat->Slot)(m:Nat):List Lv:=(List.range m).flatMap λi=>gJ E root i<|T i
theorem gU (m:Nat):eE E root T (m+1)=eE E root T m++gJ E root m (T m):=by
 unfold eE;rw[af List.range_succ<|af List.flatMap_append ?_];simp
theorem sO (hE:0<E):(gJ E root i<|T j).length<=E:=by
 cases T j with
 |none=>rw[Nat.zero_le _]
 |leaf e=>rw[hE]
 |tab y g=>rw[Nat.le_trans (List.length_filterMap_le _ _)<|af List.length_range<|Nat.le_refl _]
theorem pG (hE:0<E):∀m,(eE E root T m).length<=m*E
 |0=>Nat.zero_le _
 |m+1=>by
  rw[af (gU ..)<|af List.length_append<|af (Nat.succ_mul ..)<|Nat.add_le_add (pG hE m)<|sO hE]
theorem jW {α:Type}(fv:Nat->α):∀xs:List Nat,xs.filterMap (λj=>if g j=0 then none else some (fv j))=(xs.filter λj=>decide (g j≠0)).map fv
 |[]=>rfl
 |x::xs=>by
  rw[af List.filterMap_cons<|af List.filter_cons ?_]
  by_cases h:g x=0
  ·rw[af (if_pos h)<|af (if_neg<|by simpa using h)<|jW fv xs]
  ·rw[af (if_neg h)<|af (if_pos<|by simpa using h)<|af List.map_cons<|af (jW fv xs) rfl]
theorem St.z6 {l:Addr}{X Y:bI}(h:(U.set l X).le τ):(U.set l Y).le<|τ.set l Y:=λz p hz=>by
 by_cases w:z=l
 ·clear h;subst w;rw[St.ah] at hz ⊢;rw[hz]
 ·rw[St.ai w] at hz ⊢;rw[h z p<|af (St.ai w) hz]
theorem xB (y:Int)(m:Nat):(gJ E root m<|.tab y g).map oJ=((List.range E).filter λj=>decide (g j≠0)).map λ(j:Nat)=>oJ (((m:Int)*E+j)*(4*E),y+4*(j:Int)):=by
 show ((List.range E).filterMap λj=>if g j=0 then none else some ((((m:Int)*E+j)*(4*E),y+4*(j:Int)):Lv)).map oJ=_;rw[af (jW ..)<|af List.map_map rfl]
theorem xY (G:eG b m0)(H:aH U B b m0 f used)(S:aF (2^b) m0 f root T)(h:∀l,U l=none->k (.ref l) (U.set l<|.list<|(eE (2^b) root T<|2^b).map oJ)):ay (Dd q) (n+6) (.ref 410) [.ref B.tab,.int root] U k ke:=by
 have hE:=G.e;obtain ⟨d,ha⟩:=H.tab;rw[<-fp ["self","root"] rfl rfl (λ_=>rfl) ?_,<-⟨by simp,λl hl=>?_⟩,dz ?_];right;have H1:=H.fresh (o:=.list []) hl;obtain ⟨d1,TS⟩:=H1.tab;obtain ⟨Wm,TP⟩:=H1.lay;symm;left;rw[cP ?_,<-af (iG ..) ?_,iX (zT hE) (λm lo τ=>lo=([("self",.ref B.tab),("root",.int root),("found",.ref l)]:Lo)/\τ=U.set l (.list<|(eE (2^b) root T m).map oJ)) ⟨rfl,rfl⟩ ?_ ?_]
 ·rintro m lo τ hm ⟨rfl,rfl⟩;right;have H2:=H.fresh (o:=.list<|(eE (2^b) root T m).map oJ) hl;obtain ⟨d2,Ui⟩:=H2.tab;obtain ⟨Yx,Xn⟩:=H2.mem.it;obtain ⟨Yy,SW⟩:=H2.lay;have Sd:(eE (2^b) root T m).length<=1024:=Nat.le_trans (pG (eO hE) m)<|Nat.mul_le_mul (show m<=32 by rw[JU hE hm]) hE.2;symm;left;rw[<-bG (cF ac) ?_,<-(fW G H2 S hm ?_).call]
  cases hT:T m with
  |none=>
   rw[<-aN (yH<|gH z1) ?_];left;left;rw[⟨([("self",.ref B.tab),("root",.int root),("found",.ref l)]:Lo),_,Lo.bg ⟨rfl,rfl,rfl,trivial⟩,?_,rfl,rfl⟩,af (gU ..)<|af hT<|af (show gJ (2^b) root m .none=[] from rfl)<|af (List.append_nil ..)<|St.le_refl _]
  |leaf e=>
   obtain ⟨L,_⟩:=S.leaf _ e hm hT;rw[<-az (qQ<|neT L.2.2.1) ?_,<-(bq ?_).call,<-az (qQ<|neT L.2.2.2.1) ?_,<-cC (cu St.ah) ?_,<-(rY (j:=0) G H2 hm (eO hE) ?_).call,<-⟨by simp,?_⟩,cy St.ah (af (cD ..)<|zS Sd) ?_,af St.set_set ?_,⟨([("self",.ref B.tab),("root",.int root),("found",.ref l)]:Lo),_,Lo.bg ⟨rfl,rfl,rfl,trivial⟩,?_,rfl,rfl⟩,af (gU ..)<|af hT<|af List.map_append<|St.le_refl _]
  |tab y g=>
   right;obtain ⟨hp,_,hw⟩:=S.tab m y g hm hT;have h1:=fM hp;have h2:=G.m4;obtain ⟨c0,c1,c2,c3⟩:=cX (g:=g) (E:=2^b) (show 0<=y by rw[wo h2 h1]) (yD h2 hE h1)<|eO hE;symm;rw[<-az (qQ<|neT (by rw[af c2 ?_];decide)) ?_,<-(bq ?_).call,<-aN (yH<|gH c3) ?_,<-az (gH c3) ?_,<-aN (neT (by rw[af c2 ?_];decide)) ?_,<-(fJ G H2 S hm hT ?_).call,<-dD (bV rfl ac ac) ?_ rfl (by intro env e;cases env;subst e;rfl),cP ?_,<-af (iG ..) ?_,gB (mL<|zT hE) ?_];erw[nX,show c9 0 (2^b) 1=(List.range<|2^b).map λ(j:Nat)=>V.int j by unfold c9;congr 1;funext j;erw[Int.zero_add,Int.mul_one]];rw[⟨by rw[af (cD ..)<|af List.length_range ?_,Er hE],?_⟩,fy (λ(j:Nat)=>V.int j) (λj=>.tup [.int j,.int<|y+4*(j:Int)]) (show bJ _ .free from trivial) (List.range<|2^b) (λj hj=>?_) ?_]
   ·left;rw[<-⟨Lo.bg ⟨rfl,trivial⟩,?_⟩,<-bG (cF ac) ?_,⟨by simp,⟨St.le_refl _,rfl⟩⟩]
   intro l3 Tj;right;have H3:=H2.fresh (o:=.list<|(List.range<|2^b).map λ(j:Nat)=>V.tup [.int j,.int<|y+4*(j:Int)]) Tj;obtain ⟨d3,VF⟩:=H3.tab;obtain ⟨dm3,YX⟩:=H3.mem.it;symm;left;rw[<-dD (bV rfl ac ac) ?_ rfl (by intro env e;cases env;subst e;rfl),aV St.ah ?_,⟨by rw[af (cD ..)<|af List.length_range ?_,Er hE],?_⟩,kh (λ(j:Nat)=>V.tup [.int j,.int<|y+4*(j:Int)]) (λj=>if g j=0 then none else some (.tup [.int j,.int<|y+4*(j:Int)])) (show bJ _ (.lst _ _) from St.ah) (List.range<|2^b) [] (λj hj=>?_) ?_]
   ·have Up:j<2^b:=List.mem_range.mp hj;left;rw[⟨Lo.bg ⟨rfl,trivial⟩,?_⟩];show kI _ _ _ _ _ _ _ _;left;rw[<-jq ac ac rfl ?_,<-(kD G H3 S hm hT Up ?_).call]
    by_cases hg:g j=0
    ·rw[az (gH<|af hg z1) ⟨St.le_refl _,if_pos hg⟩]
    ·rw[<-aN (neT ((hw j Up).2.resolve_left hg).2.2.1) ?_,⟨St.le_refl _,if_neg hg⟩]
   intro l4 Vh;rw[af (List.nil_append ..)<|af (jW ..) ?_];have H4:=H3.fresh (o:=.list<|((List.range<|2^b).filter λj=>decide (g j≠0)).map λ(j:Nat)=>V.tup [.int j,.int<|y+4*(j:Int)]) Vh;have hl3':U l3=none:=by
    by_cases z:l3=l
    ·clear hl H1 TS TP H2 Ui Xn SW H3 VF YX Vh H4;subst z;rw[ak Tj St.ah]
    ·rw[St.ai z] at Tj;rw[Tj]
   have hne3:l3≠l:=(kE St.ah Tj).symm;have hne4:l4≠l:=λz=>by clear hl H1 TS TP H2 Ui Xn SW Tj H3 VF YX H4;subst z;rw[ak Vh<|(St.ai<|Ne.symm hne3).trans St.ah]
   right;have hlist:=(St.ai (U:=(U.set l<|.list<|(eE (2^b) root T m).map oJ).set l3<|.list<|(List.range<|2^b).map λ(j:Nat)=>V.tup [.int j,.int<|y+4*(j:Int)]) (o:=.list<|((List.range<|2^b).filter λj=>decide (g j≠0)).map λ(j:Nat)=>V.tup [.int j,.int<|y+4*(j:Int)])<|Ne.symm hne4).trans<|(St.ai<|Ne.symm hne3).trans St.ah;obtain ⟨d4,Zw⟩:=H4.tab;obtain ⟨dl4,hla4⟩:=H4.lay;symm;left;rw[<-cC (lY hlist) ?_,<-cU (bV rfl ac ac) ?_,aV St.ah ?_,⟨by rw[af (cD ..) ?_,Nat.le_trans (List.length_filter_le _ _)<|af List.length_range<|Er hE],?_⟩,fy (λ(j:Nat)=>V.tup [.int j,.int<|y+4*(j:Int)]) (λ(j:Nat)=>oJ (((m:Int)*((2^b:Nat):Int)+j)*(4*((2^b:Nat):Int)),y+4*(j:Int))) (show bJ _ (.lst _ _) from St.ah) _ (λj hj=>?_) ?_]
   ·have Up:j<2^b:=List.mem_range.mp (List.mem_filter.mp hj).1;rw[<-gf rfl (by rw[Nat.succ_pos _]) ?_,<-⟨Lo.bg ⟨rfl,rfl,trivial⟩,?_⟩,<-(rY G H4 hm Up ?_).call,⟨by simp,⟨St.le_refl _,rfl⟩⟩]
   intro l5 hl5;left;have hne5:l≠l5:=kE hlist hl5;rw[mw ((St.ai hne5).trans hlist) St.ah (by rw[af (cD ..)<|af (cD ..) ?_];have:=List.length_filter_le (λj=>decide (g j≠0))<|List.range<|2^b;rw[List.length_range] at this;rw[J8 hE this Sd]) ?_,⟨([("self",.ref B.tab),("root",.int root),("found",.ref l)]:Lo),_,Lo.bg ⟨rfl,rfl,rfl,trivial⟩,?_,rfl,rfl⟩];erw[gU,hT,List.map_append,show (gJ (2^b) root m<|.tab y g).map oJ=((List.range<|2^b).filter λj=>decide (g j≠0)).map λ(j:Nat)=>oJ (((m:Int)*((2^b:Nat):Int)+j)*(4*((2^b:Nat):Int)),y+4*(j:Int)) by
    rw[xB y m]]
   rw[St.z6<|St.le_trans (St.le_trans (St.aY Tj)<|St.aY Vh)<|St.aY hl5]
 ·rintro lo τ ⟨rfl,rfl⟩;left;rw[rt<|h l hl]
end
variable {u:Int}{kk:V->St->Prop}
section
variable {e:Int}{w x:Int}
noncomputable def jA (e:Int)(s:Str)(u w x:Int):Bool:=
 if u=0/\Builtin.bitAnd e 16=0 then false
 else if u≠0/\Builtin.bitAnd e 16≠0/\(s=Str.ofString "fetch"\/w=0) then false
 else if s=Str.ofString "fetch" then Builtin.bitAnd e 8 !=0
 else if s=Str.ofString "store" then Builtin.bitAnd e 4 !=0
 else Builtin.bitAnd e 2 !=0||(x !=0&&Builtin.bitAnd e 8 !=0)
theorem ue {t:Str}(hs:PyData.strOk s=true)(ht:PyData.strOk t=true)(h:kk (.bool<|s==t) U):cZ D n .Eq (.str s) (.str t) U kk ke:=AW (.str s) (.str t) (by simp [SeqAt.shaped,PyData.canLay0,PyData.depth,hs]) (by simp [SeqAt.shaped,PyData.canLay0,PyData.depth,ht])<|af nG h
theorem sT {t:Str}(h:s=t):(s==t)=true:=beq_iff_eq.mpr h
theorem sF {t:Str}(h:s≠t):(s==t)=false:=beq_eq_false_iff_ne.mpr h
theorem zL (hs:PyData.strOk s=true)(h:k (.bool<|jA e s u w x) U):ay (Dd q) (n+2) (.ref 212) [.int e,.str s,.int u,.int w,.int x] U k ke:=by
 rw[Ak ["entry","kind","mode","sum_bit","mxr"] rfl rfl (λ_=>rfl) ?_,xc rfl ?_,eU.mono (k:=λf l τ=>τ=U/\((f=.next/\l=([("entry",.int e),("kind",.str s),("mode",.int u),("sum_bit",.int w),("mxr",.int x)]:Lo)/\¬(u=0/\Builtin.bitAnd e 16=0))\/(f=.ret (.bool false)/\(u=0/\Builtin.bitAnd e 16=0)))) (ke:=gF) ?_ ?_ λ_ _ _ _ z=>z.elim]
 ·left
  by_cases c1:u=0
  ·rw[<-az (qQ<|eqT c1) ?_]
   by_cases c2:Builtin.bitAnd e 16=0
   ·rw[<-az (qQ<|eqT c2) ?_,⟨rfl,.inr ⟨rfl,c1,c2⟩⟩]
   ·rw[<-aN (yH<|oX c2) ?_,<-az (oX c2) ?_,⟨rfl,.inl ⟨rfl,rfl,λz=>c2 z.2⟩⟩]
  ·rw[<-aN (yH<|oX c1) ?_,<-az (oX c1) ?_,⟨rfl,.inl ⟨rfl,rfl,λz=>c1 z.1⟩⟩]
 rintro f l τ ⟨rfl,⟨rfl,rfl,hA⟩|⟨rfl,hA⟩⟩
 rotate_left
 ·unfold jA at h;rw[if_pos hA] at h;rw[rt h]
 rw[xc rfl ?_,eU.mono (k:=λf l Ur=>Ur=τ/\((f=.next/\l=([("entry",.int e),("kind",.str s),("mode",.int u),("sum_bit",.int w),("mxr",.int x)]:Lo)/\¬(u≠0/\Builtin.bitAnd e 16≠0/\(s=Str.ofString "fetch"\/w=0)))\/(f=.ret (.bool false)/\(u≠0/\Builtin.bitAnd e 16≠0/\(s=Str.ofString "fetch"\/w=0))))) (ke:=gF) ?_ ?_ λ_ _ _ _ z=>z.elim]
 ·left
  by_cases c1:u=0
  ·rw[<-aN (yH<|gH c1) ?_,<-az (gH c1) ?_,⟨rfl,.inl ⟨rfl,rfl,λz=>z.1 c1⟩⟩]
  ·rw[<-az (qQ<|neT c1) ?_]
   by_cases c2:Builtin.bitAnd e 16=0
   ·rw[<-aN (yH<|gH c2) ?_,<-az (gH c2) ?_,⟨rfl,.inl ⟨rfl,rfl,λz=>z.2.1 c2⟩⟩]
   ·rw[<-az (qQ<|neT c2) ?_,<-ue hs (by decide+kernel) ?_]
    by_cases c3:s=Str.ofString "fetch"
    ·rw[<-aN (zx<|sT c3) ?_,<-az (qQ<|sT c3) ?_,⟨rfl,.inr ⟨rfl,c1,c2,.inl c3⟩⟩]
    ·rw[<-az (jh<|sF c3) ?_]
     by_cases c4:w=0
     ·rw[<-aN (zx<|n7<|gH c4) ?_,<-az (qQ<|n7<|gH c4) ?_,⟨rfl,.inr ⟨rfl,c1,c2,.inr c4⟩⟩]
     ·rw[<-az (jh<|gI<|neT c4) ?_];left;rw[⟨rfl,.inl ⟨rfl,rfl,λz=>z.2.2.elim c3 c4⟩⟩]
 rintro f l Ur ⟨rfl,⟨rfl,rfl,hB⟩|⟨rfl,hB⟩⟩
 rotate_left
 ·unfold jA at h;rw[if_neg hA,if_pos hB] at h;rw[rt h]
 unfold jA at h;rw[if_neg hA,if_neg hB] at h;left;rw[<-ue hs (by decide+kernel) ?_]
 by_cases c3:s=Str.ofString "fetch"
 ·rw[aN (sT c3) ?_];rw[if_pos c3] at h;left;rw[rt h]
 rw[az (sF c3) ?_];rw[if_neg c3] at h;left;rw[<-ue hs (by decide+kernel) ?_]
 by_cases c5:s=Str.ofString "store"
 ·rw[aN (sT c5) ?_];rw[if_pos c5] at h;left;rw[rt h]
 rw[az (sF c5) ?_];rw[if_neg c5] at h;left
 by_cases c6:Builtin.bitAnd e 2=0
 ·rw[az (jh<|gH c6) ?_];rw[gH c6,Bool.false_or] at h;left;rw[<-vD ?_]
  by_cases c7:x=0
  ·rw[<-aN (yH<|gH c7) ?_];rw[gH c7] at h ⊢;rw[rt h]
  ·rw[az (qQ<|neT c7) ?_];rw[neT c7,Bool.true_and] at h;left;rw[rt h]
 ·rw[<-aN (zx<|neT c6) ?_];rw[neT c6] at h ⊢;rw[rt h]
end
section
variable {e:Int}{w x:Int}
def lN (s:Str)(c:Int):Prop:=(s=Str.ofString "fetch"/\c=12)\/(s=Str.ofString "load"/\c=13)\/(s=Str.ofString "store"/\c=15)
theorem kM {value slice:Expr}(hk:lN s c)(h:k (.int c) U)
 (hs:∀l j u,subscripted slice false (.ref l) (.str j u)=operate [.ref l,.str j u] (getItem (.ref l)<|.str j u):=by intros;rfl):r7 (Dd q) n value slice (.atom<|.ref 106) (.str s) U k ke:=by
 rcases hk with ⟨rfl,rfl⟩|⟨rfl,rfl⟩|⟨rfl,rfl⟩
 ·(refine' ux (v:=.int 12 _) (y:=.int 12) ?la ?ka ?ea (λ_=>.int _ _) h hs);(case la=>rfl);(case ka=>rw[⟨⟨_,_,rfl,rfl⟩,⟨_,_,rfl,rfl⟩,⟨_,_,rfl,rfl⟩,trivial⟩]);(case ea=>rfl)
 ·(refine' ux (v:=.int 13 _) (y:=.int 13) ?lb ?kb ?eb (λ_=>.int _ _) h hs);(case lb=>rfl);(case kb=>rw[⟨⟨_,_,rfl,rfl⟩,⟨_,_,rfl,rfl⟩,⟨_,_,rfl,rfl⟩,trivial⟩]);(case eb=>rfl)
 ·(refine' ux (v:=.int 15 _) (y:=.int 15) ?lc ?kc ?ec (λ_=>.int _ _) h hs);(case lc=>rfl);(case kc=>rw[⟨⟨_,_,rfl,rfl⟩,⟨_,_,rfl,rfl⟩,⟨_,_,rfl,rfl⟩,trivial⟩]);(case ec=>rfl)
end
variable {lay:Addr}
section
variable {e:Int}{w x:Int}{b:Nat}{i:Nat}{wk jb d:Addr}
def WalkAt (U:St)(wk jb lay:Addr):Prop:=yz U wk 266 [("bus",.ref jb),("layout",.ref lay)]
theorem sq {x jb:Addr}(hx:U x=some (.inst 266 dx []))(h:k .none<|U.set x<|.inst 266 dx [("bus",.ref jb),("layout",.ref lay)]):ay (Dd q) (n+1) (.ref 226) [.ref x,.ref jb,.ref lay] U k ke:=by
 rw[<-fp ["self","bus","layout"] rfl rfl (λ_=>rfl) ?_,⟨_,St.le_refl _,?_⟩,af St.set_set h]
theorem mZ (G:eG b m0)(H:aH U B b m0 f used)(hw:WalkAt U wk jb B.lay)(hb:m6 U jb B.mem)(hk:lN s c)(hy:Pg (2^b) m0 y)(hi:i<2^b)(hx:x.natAbs<2^64)
 (h1:(Builtin.bitAnd (word f<|y+4*i) 1 !=0&&Builtin.bitAnd (word f<|y+4*i) 6 !=4)=true->k (.int<|word f<|y+4*i) U)
 (h2:(Builtin.bitAnd (word f<|y+4*i) 1 !=0&&Builtin.bitAnd (word f<|y+4*i) 6 !=4)=false->∀t,ke 103 [("reason",.str t),("cause",.int c),("value",.int x)] U):ay (Dd q) (n+5) (.ref 241) [.ref wk,.int<|y+4*i,.int x,.str s] U k ke:=by
 obtain ⟨d,ha⟩:=hw;rw[Ak ["self","place","address","kind"] rfl rfl (λ_=>rfl) ?_,xc rfl ?_,jS ?_];have Vk:=hb;obtain ⟨db,lb,hba⟩:=Vk;left;have hE:=G.e;have h4:=G.m4;have hl:=fM hy;have hm:=hy.kU h4.1;rw[(uf hb H.mem ?_ (Mw h4 hm hl) (af (pe b)<|QG h4 hm hl hi) ?_).call]
 ·rw[af (Int.fmod_eq_emod_of_nonneg _ ac)<|B8 hm]
 left;rw[<-(jD ?_).call]
 cases hs:(Builtin.bitAnd (word f<|y+4*i) 1 !=0&&Builtin.bitAnd (word f<|y+4*i) 6 !=4) with
 |true=>
  rw[<-az rfl ?_,rt<|h1 hs]
 |false=>
  rw[<-aN rfl ?_,<-ju ?_,<-kM hk ?_,o7 (gS _) (by simp) λe he=>?_,jQ St.ah ?_ ?_ hx λd t=>?_]
  ·clear h2;rcases hk with ⟨_,rfl⟩|⟨_,rfl⟩|⟨_,rfl⟩<;>decide
  ·clear h2;rcases hk with ⟨_,rfl⟩|⟨_,rfl⟩|⟨_,rfl⟩<;>decide
  rw[⟨rfl,e,103,d,_,U,rfl,St.ah,fz _,?_,he,?_,he,h2 hs t⟩]
  ·rw[af St.set_set<|St.aY he]
  ·rw[af St.set_set<|St.aY he]
end
section
variable {e:Int}{w x:Int}{b:Nat}{i:Nat}{wk jb d:Addr}
noncomputable def bz (e:Int)(s:Str):Int:=Builtin.bitOr (Builtin.bitOr e 64)<|if s=Str.ofString "store" then 128 else 0
theorem lN.ok (hk:lN s c):PyData.strOk s=true:=by
 rcases hk with ⟨rfl,_⟩|⟨rfl,_⟩|⟨rfl,_⟩<;>decide+kernel
theorem wm (G:eG b m0)(H:aH U B b m0 f used)(hw:WalkAt U wk jb B.lay)(hb:m6 U jb B.mem)(hk:lN s c)(hy:Pg (2^b) m0 y)(hi:i<2^b)(he:word f (y+4*i)=e)(hd:0<=bz e s)(TQ:bz e s<2^32)
 (h:∀σ' f',aH σ' B b m0 f' used->eW B U σ'->(∀z,z%4=0->word f' z=if z=y+4*i then bz e s else word f z)->k .none σ'):ay (Dd q) (n+5) (.ref 255) [.ref wk,.int<|y+4*i,.int e,.int x,.str s] U k ke:=by
 obtain ⟨d,ha⟩:=hw;have hE:=G.e;have h4:=G.m4;have hl:=fM hy;have hm:=hy.kU h4.1;rw[Ak ["self","place","entry","address","kind"] rfl rfl (λ_=>rfl) ?_,xc rfl ?_,eU.mono (k:=λf l τ=>τ=U/\f=.next/\l=([("self",.ref wk),("place",.int<|y+4*i),("entry",.int e),("address",.int x),("kind",.str s),("due",.int<|bz e s)]:Lo)) (ke:=gF) ?_ ?_ λ_ _ _ _ z=>z.elim]
 ·left;rw[<-ue hk.ok (by decide+kernel) ?_];unfold bz
  by_cases hs:s=Str.ofString "store"
  ·rw[aN (sT hs) ?_,<-af (if_pos hs) ?_,⟨rfl,rfl,rfl⟩]
  ·rw[az (sF hs) ?_,<-af (if_neg hs) ?_,⟨rfl,rfl,rfl⟩]
 rintro _ _ τ ⟨rfl,rfl,rfl⟩;have Vk:=hb;obtain ⟨db,lb,hba⟩:=Vk;left
 by_cases hq:bz e s=e
 ·rw[<-az (gH hq) ?_,⟨_,St.le_refl _,h τ f H eW.refl λz _=>?_⟩]
  by_cases w:z=y+4*i
  ·rw[af (if_pos w)<|af w<|af he<|af hq rfl]
  ·rw[af (if_neg w) rfl]
 ·rw[<-aN (neT hq) ?_,<-jS ?_,(rW hb H.mem (MV h4 hm hl) (OB h4 hE hm hl hi) ?_ (Mw h4 hm hl) (af (pe b)<|QG h4 hm hl hi) hd TQ ?_).call]
  ·rw[af (Int.fmod_eq_emod_of_nonneg _ ac)<|B8 hm]
  obtain ⟨H2,S2⟩:=H.put<|fset f ((y+4*(i:Int)).fdiv 4)<|bz e s;rw[⟨_,St.le_refl _,h _ _ H2 S2 λz hz=>g9 (B8 hm) hz⟩]
end
section
variable {e:Int}{w x xr:Int}{b:Nat}{i:Nat}{wk jb d:Addr}
theorem rO (h0:0<=e):bz e s=e/1024*1024+bz (e%1024) s/\0<=bz (e%1024) s/\bz (e%1024) s<1024:=by
 have e0:0<=e%1024:=Int.emod_nonneg _ ac;have e1:e%1024<1024:=Int.emod_lt_of_pos _ ac;have h1:=sU (x:=e%1024) (y:=64) e0 e1 ac ac;have hm:0<=(if s=Str.ofString "store" then (128:Int) else 0)/\(if s=Str.ofString "store" then (128:Int) else 0)<1024:=by split<;>decide
 have h2:=sU h1.1 h1.2 hm.1 hm.2;rw[⟨?_,h2⟩];unfold bz;have key:e=e/1024*1024+e%1024:=by rw[(Int.ediv_mul_add_emod e 1024).symm]
 conv=>lhs;erw[key]
 erw[rg (Int.ediv_nonneg h0 ac) e0 e1 ac ac,rg (Int.ediv_nonneg h0 ac) h1.1 h1.2 hm.1 hm.2]
theorem rN (L:fR e):0<=bz e s/\bz e s<2^32:=by
 obtain ⟨h1,h2,h3⟩:=rO (s:=s) L.1;rw[af h1 ⟨s8 h2<|Int.ediv_nonneg L.1 ac,zY (Int.ediv_lt_of_lt_mul ac L.2.1) h3⟩]
theorem pW (G:eG b m0)(H:aH U B b m0 f used)(hw:WalkAt U wk jb B.lay)(hn:¬B.muts wk)(hb:m6 U jb B.mem)(hk:lN s c)(hy:Pg (2^b) m0 y)(hi:i<2^b)(he:word f (y+4*i)=e)(L:fR e)(hd:e/1024%((2^b:Nat):Int)=0)(VZ:0<=x)(hx:x.natAbs<2^64)
 (h1:jA e s u w xr=true->∀σ' f',aH σ' B b m0 f' used->eW B U σ'->(∀z,z%4=0->word f' z=if z=y+4*i then bz e s else word f z)->k (.int<|e/1024*(4*((2^b:Nat):Int))+x%(4*((2^b:Nat):Int)*((2^b:Nat):Int))) σ')
 (h2:jA e s u w xr=false->∀t,ke 103 [("reason",.str t),("cause",.int c),("value",.int x)] U):ay (Dd q) (n+6) (.ref 248) [.ref wk,.int<|y+4*i,.int e,.int x,.str s,.int u,.int w,.int xr] U k ke:=by
 right;obtain ⟨d,ha⟩:=id hw;have hE:=G.e;obtain ⟨dl,SP⟩:=H.lay;symm;rw[<-fp ["self","place","entry","address","kind","mode","sum_bit","mxr"] rfl rfl (λ_=>rfl) ?_,<-(fK G H L ?_).call];have hz:(e/1024*(4*((2^b:Nat):Int))).fmod (2^(b+2)*2^b)=0:=by
  erw[pe b,iG b,Int.fmod_eq_emod_of_nonneg _<|Int.mul_nonneg (by rw[nN<|4*2^b])<|by rw[nN<|2^b]];have h1:e/1024/((2^b:Nat):Int)*((2^b:Nat):Int)=e/1024:=Int.ediv_mul_cancel<|Int.dvd_of_emod_eq_zero hd;generalize e/1024/((2^b:Nat):Int)=z at h1;generalize ((2^b:Nat):Int)=E at*;rw[af (Eq.symm<|h1)<|af (Int.mul_assoc ..)<|af (Int.mul_comm E<|4*E)<|Int.mul_emod_left _ _]
 have hp:(0:Int)<2^(b+2)*2^b:=Int.mul_pos (Int.pow_pos ac)<|Int.pow_pos ac;rw[fq (Int.ne_of_gt hp) ?_,<-af hz ?_,<-(zL hk.ok ?_).call]
 cases hmay:jA e s u w xr with
 |false=>
  rw[<-aN (zx<|n7 rfl) ?_];left;rw[<-ju ?_,<-kM hk ?_,o7 (gS _) (by simp) λa To=>?_,jQ St.ah ?_ ?_ hx λd t=>?_]
  ·clear h2;rcases hk with ⟨_,rfl⟩|⟨_,rfl⟩|⟨_,rfl⟩<;>decide
  ·clear h2;rcases hk with ⟨_,rfl⟩|⟨_,rfl⟩|⟨_,rfl⟩<;>decide
  rw[⟨rfl,a,103,d,_,U,rfl,St.ah,fz _,?_,To,?_,To,h2 hmay t⟩]
  ·rw[af St.set_set<|St.aY To]
  ·rw[af St.set_set<|St.aY To]
 |true=>
  rw[<-az (jh<|gI rfl) ?_,(wm (x:=x) G H hw hb hk hy hi he (rN L).1 (rN L).2 λσ' f' H' S' XN=>?_).call];obtain ⟨d',SW⟩:=H'.lay;have TU:σ' wk=some (.inst 266 d [("bus",.ref jb),("layout",.ref B.lay)]):=(S' wk hn).trans ha;left;erw[pe b,iG b,A6 VZ,C6 L.1 hd];rw[rt<|h1 hmay σ' f' H' S' XN]
end
section
variable {e:Int}{w x:Int}
theorem qF:∀c:Fin 1024,∀d:Fin 2,Builtin.bitAnd (Builtin.bitOr (Builtin.bitOr (c.val:Int) 64)<|128*d.val) 1=Builtin.bitAnd c.val 1/\Builtin.bitAnd (Builtin.bitOr (Builtin.bitOr (c.val:Int) 64)<|128*d.val) 10=Builtin.bitAnd c.val 10/\
 Builtin.bitAnd (Builtin.bitOr (Builtin.bitOr (c.val:Int) 64)<|128*d.val) 6=Builtin.bitAnd c.val 6:=by decide+kernel
theorem CB (h0:0<=c)(h1:c<1024):Builtin.bitAnd (bz c s) 1=Builtin.bitAnd c 1/\Builtin.bitAnd (bz c s) 10=Builtin.bitAnd c 10/\Builtin.bitAnd (bz c s) 6=Builtin.bitAnd c 6:=by
 obtain ⟨m,rfl⟩:=Int.eq_ofNat_of_zero_le h0;unfold bz
 by_cases hs:s=Str.ofString "store"
 ·rw[af (if_pos hs)<|qF ⟨m,JR h1⟩ 1]
 ·rw[af (if_neg hs)<|qF ⟨m,JR h1⟩ 0]
theorem iC (L:fR e):fR (bz e s)/\bz e s/1024=e/1024:=by
 right;obtain ⟨h1,h2,h3⟩:=rO (s:=s) L.1;obtain ⟨l0,l1,l2,l3,l4⟩:=L;have e0:0<=e%1024:=Int.emod_nonneg _ ac;have e1:e%1024<1024:=Int.emod_lt_of_pos _ ac;obtain ⟨f1,f2,f3⟩:=CB (s:=s) e0 e1;have hm:bz e s%1024=bz (e%1024) s:=by rw[af h1<|Fv h2 h3]
 have d0:0<=bz e s:=by rw[af h1<|s8 h2<|Int.ediv_nonneg l0 ac]
 have low:∀m:Int,0<=m->m<1024->Builtin.bitAnd (bz e s) m=Builtin.bitAnd (bz (e%1024) s) m/\Builtin.bitAnd e m=Builtin.bitAnd (e%1024) m:=λm a b=>
  ⟨by erw[dh 10 d0 a b,show (2:Int)^10=1024 from rfl,hm],dh 10 l0 a b⟩
 symm;rw[⟨⟨d0,by rw[af h1<|zY (Int.ediv_lt_of_lt_mul ac l1) h3],?_,?_,?_⟩,by rw[af h1<|Oa h2 h3]⟩]
 ·rw[af (low 1 ac ac).1 (af f1<|af (Eq.symm<|(low 1 ac ac).2) l2)]
 ·rw[af (low 10 ac ac).1 (af f2<|af (Eq.symm<|(low 10 ac ac).2) l3)]
 ·rw[af (low 6 ac ac).1 (af f3<|af (Eq.symm<|(low 6 ac ac).2) l4)]
end
section
variable {e:Int}{w x xr:Int}{b:Nat}{i j:Nat}{wk jb d:Addr} 
def lR (s:Str)(j:Nat):Slot->Slot
 |.none=>.none
 |.leaf e=>.leaf (bz e s)
 |.tab y g=>.tab y (upd g j<|bz (g j) s)
theorem xy (G:eG b m0)(S:aF (2^b) m0 f root T)(hi:i<2^b)(hT:T i=.leaf e)(hw:∀z,z%4=0->word f' z=if z=root+4*i then bz e s else word f z):aF (2^b) m0 f' root (upd T i<|.leaf<|bz e s)/\Rest (2^b) m0 root T used f f':=by
 right;obtain ⟨L,hd⟩:=S.leaf _ e hi hT;obtain ⟨L',q'⟩:=iC (s:=s) L;have S1:=S.setTop (s:=.leaf<|bz e s) G.m4.1 hi rfl (.inr ⟨_,rfl,L',af q' hd⟩);symm;rw[⟨S1.frame λa ha j hj=>?_,λa hu hp hn j hj=>?_⟩]
 ·have hp:=S1.pg ha;rw[af (hw _<|aD G.m4.1 hp)<|af (g9 (aD G.m4.1 S.rt)<|aD G.m4.1 hp) rfl]
 ·erw[hw _<|aD G.m4.1 hp,if_neg<|cB hp S.rt (λz=>hn<|.inl z) hj hi]
theorem xA (G:eG b m0)(S:aF (2^b) m0 f root T)(hi:i<2^b)(hj:j<2^b)(hT:T i=.tab y g)(hg:fR<|g j)(hw:∀z,z%4=0->word f' z=if z=y+4*j then bz (g j) s else word f z):aF (2^b) m0 f' root (upd T i<|.tab y<|upd g j<|bz (g j) s)/\Rest (2^b) m0 root T used f f':=by
 obtain ⟨hp,_⟩:=S.tab i y g hi hT;have S1:=S.qg G.m4.1 hi hT hj<|.inr (iC (s:=s) hg).1;rw[⟨S1.frame λa ha l hl=>?_,λa hu Sn hn l hl=>?_⟩]
 ·have hpa:=S1.pg ha;rw[af (hw _<|aD G.m4.1 hpa)<|af (g9 (aD G.m4.1 hp)<|aD G.m4.1 hpa) rfl]
 ·erw[hw _<|aD G.m4.1 Sn,if_neg<|cB Sn hp (λz=>hn<|.inr ⟨i,g,hi,z▸hT⟩) hl hj]
theorem qS (G:eG b m0)(H:aH U B b m0 f used)(S:aF (2^b) m0 f root T)(hw:WalkAt U wk jb B.lay)(hn:¬B.muts wk)(hb:m6 U jb B.mem)(hk:lN s c)(VZ:0<=x)(hx:x.natAbs<2^64)
 (h1:fB b x->∀z,bH (2^b) T x=some z->jA (entryAt T (cI (2^b) x)<|cM (2^b) x) s u w xr=true->∀σ' f',f6 B b m0 f used root T U σ' f' used (upd T (cI (2^b) x)<|lR s (cM (2^b) x)<|T<|cI (2^b) x)->k (.int z) σ')
 (h2:¬fB b x\/(fB b x/\(bH (2^b) T x=none\/jA (entryAt T (cI (2^b) x)<|cM (2^b) x) s u w xr=false))->∀t,ke 103 [("reason",.str t),("cause",.int c),("value",.int x)] U):ay (Dd q) (n+7) (.ref 234) [.ref wk,.int root,.int x,.str s,.int u,.int w,.int xr] U k ke:=by
 right;obtain ⟨d,ha⟩:=id hw;have hE:=G.e;obtain ⟨dl,SP⟩:=H.lay;symm;rw[<-fn ["self","root","address","kind","mode","sum_bit","mxr"] (ds:=[]) rfl rfl (iD (us:=[]) rfl rfl rfl (λ_=>.nil) λ_=>rfl) ?_]
 by_cases hIn:fB b x
 ·rw[(sS H.lay hIn.1 (af (pe ..)<|af (iG ..) hIn.2) ?_).call];erw[pe,iG,rA hIn.1,uV (eO hE) hIn.1];left;rw[<-rV rfl ?_];left;rw[<-jq ac ac rfl ?_,<-bG (cF ac) ?_];have hi:=dR (E:=2^b) (eO hE) hIn.1 hIn.2;have hj:=fX (E:=2^b) (x:=x)<|eO hE;rw[(mZ G H hw hb hk S.rt hi hx (λhs=>?_) λhs t=>?_).call]
  ·rw[S.top _ hi] at hs ⊢;left;rw[(bq ?_).call]
   cases hT:T (cI (2^b) x) with
   |none=>rw[hT] at hs;rw[absurd hs<|show ¬(Builtin.bitAnd 0 1 !=0&&Builtin.bitAnd 0 6 !=4)=true by decide]
   |leaf e=>
    obtain ⟨L,hd⟩:=S.leaf _ e hi hT;left;rw[<-aN (neT L.2.2.2.1) ?_,(pW (i:=cI (2^b) x) G H hw hn hb hk S.rt hi (af (S.top _ hi)<|af hT rfl) L hd VZ hx (λhm σ' f' H' S' XN=>?_) λhm t=>?_).call]
    ·obtain ⟨t1,t2⟩:=xy (used:=used) G S hi hT XN;rw[⟨_,St.le_refl _,h1 hIn _ (by unfold bH;rw[af hT rfl]) (af (cH hT) hm) σ' f' ?_⟩,af hT ⟨H',S',t1,t2⟩]
    ·rw[h2 (.inr ⟨hIn,.inr<|af (cH hT) hm⟩) t]
   |tab y g=>
    right;obtain ⟨p1,p2,p3⟩:=S.tab _ y g hi hT;have q1:=fM p1;have q2:=G.m4;obtain ⟨c0,c1,c2,c3⟩:=cX (g:=g) (E:=2^b) (show 0<=y by rw[wo q2 q1]) (yD q2 hE q1)<|eO hE;symm;left;rw[<-az (gH c3) ?_,<-(fJ G H S hi hT ?_).call,<-jq ac ac rfl ?_,<-bG (cF ac) ?_,(mZ G H hw hb hk p1 hj hx (λTH=>?_) λTH t=>?_).call]
    ·rw[(p3 _ hj).1] at TH ⊢;left;rw[(bq ?_).call];have hg0:g (cM (2^b) x)≠0:=λz=>by rw[z] at TH;rw[absurd TH ac]
     have Lg:=(p3 _ hj).2.resolve_left hg0;left;rw[<-az (jh<|gI<|neT Lg.2.2.2.1) ?_,<-(zL hk.ok ?_).call];have Vg:bH (2^b) T x=some (g (cM (2^b) x)/1024*(4*((2^b:Nat):Int))+x%(4*((2^b:Nat):Int))):=by
      unfold bH;rw[af hT ?_];simp only [if_neg hg0]
     cases hmay:jA (g<|cM (2^b) x) s u w xr with
     |false=>
      rw[<-aN (zx<|n7 rfl) ?_];left;rw[<-ju ?_,<-kM hk ?_,o7 (gS _) (by simp) λa To=>?_,jQ St.ah ?_ ?_ hx λd t=>?_]
      ·clear h2;rcases hk with ⟨_,rfl⟩|⟨_,rfl⟩|⟨_,rfl⟩<;>decide
      ·clear h2;rcases hk with ⟨_,rfl⟩|⟨_,rfl⟩|⟨_,rfl⟩<;>decide
      rw[⟨rfl,a,103,d,_,U,rfl,St.ah,fz _,?_,To,?_,To,h2 (.inr ⟨hIn,.inr<|af (ck hT) hmay⟩) t⟩]
      ·rw[af St.set_set<|St.aY To]
      ·rw[af St.set_set<|St.aY To]
     |true=>
      rw[<-az (jh<|gI rfl) ?_,(wm (x:=x) G H hw hb hk p1 hj (p3 _ hj).1 (rN Lg).1 (rN Lg).2 λσ' f' H' S' XN=>?_).call];have TU:σ' wk=some (.inst 266 d [("bus",.ref jb),("layout",.ref B.lay)]):=(S' wk hn).trans ha;obtain ⟨dl',SW⟩:=H'.lay;left;rw[<-(fK G H' Lg ?_).call,<-jq ac ac rfl ?_];erw[C5 Lg.1];obtain ⟨t1,t2⟩:=xA (used:=used) G S hi hj hT Lg XN;rw[⟨_,St.le_refl _,h1 hIn _ Vg (af (ck hT) hmay) σ' f' ?_⟩,af hT ⟨H',S',t1,t2⟩]
    ·rcases (p3 _ hj).2 with z|z
     ·rw[h2 (.inr ⟨hIn,.inl (by unfold bH;rw[af hT ?_];simp only [if_pos z])⟩) t]
     ·rw[(p3 _ hj).1,neT z.2.2.1,Bool.true_and] at TH;rw[absurd TH (by erw[bne_iff_ne.mpr z.2.2.2.2];decide)]
  ·rw[S.top _ hi] at hs
   cases hT:T (cI (2^b) x) with
   |none=>rw[h2 (.inr ⟨hIn,.inl (by unfold bH;rw[af hT rfl])⟩) t]
   |leaf e=>
    obtain ⟨L,hd⟩:=S.leaf _ e hi hT;rw[hT] at hs;have hs2:(Builtin.bitAnd e 1 !=0&&Builtin.bitAnd e 6 !=4)=false:=hs;rw[neT L.2.2.1,Bool.true_and] at hs2;rw[absurd hs2 (by erw[bne_iff_ne.mpr L.2.2.2.2];decide)]
   |tab y g=>
    right;obtain ⟨p1,p2,p3⟩:=S.tab _ y g hi hT;have q1:=fM p1;have q2:=G.m4;obtain ⟨c0,c1,c2,c3⟩:=cX (g:=g) (E:=2^b) (show 0<=y by rw[wo q2 q1]) (yD q2 hE q1)<|eO hE;rw[hT,c2] at hs;have e6:Builtin.bitAnd ((Slot.tab y g).code<|2^b) 6=0:=by
     erw[dh 10 c0 ac ac,show (2:Int)^10=1024 from rfl,show (Slot.tab y g).code (2^b)%1024=1 by show (y/(4*((2^b:Nat):Int))*1024+1)%1024=1;rw[Fv ac ac]]
     decide
    rw[e6] at hs;symm;rw[absurd hs ac]
 ·rw[(qk H.lay (λz=>hIn ⟨z.1,?_⟩) ?_).call]
  ·have:=z.2;rw[pe,iG] at this;rw[this]
  left;rw[<-Dn ?_];left;rw[<-ju ?_,<-kM hk ?_,o7 (gS _) (by simp) λa To=>?_,jQ St.ah ?_ ?_ hx λd t=>?_]
  ·clear h2;rcases hk with ⟨_,rfl⟩|⟨_,rfl⟩|⟨_,rfl⟩<;>decide
  ·clear h2;rcases hk with ⟨_,rfl⟩|⟨_,rfl⟩|⟨_,rfl⟩<;>decide
  rw[⟨rfl,a,103,d,_,U,rfl,St.ah,fz _,?_,To,?_,To,h2 (.inl hIn) t⟩]
  ·rw[af St.set_set<|St.aY To]
  ·rw[af St.set_set<|St.aY To]
end
variable {RW l0:Addr}{many:Int}{xs ys:List Addr}{ms ns:List Int}{m':Nat}
def Ext (xs:List Addr)(U σ':St):Prop:=∀y o,y∉xs->U y=some o->σ' y=some o
structure sf (U:St)(RW l0 l1:Addr)(ns ms:List Int)(t:Nat):Prop where
 it:U RW=some (.list [.ref l0,.ref l1,.int t])
 c0:U l0=some (.list<|ns.map .int)
 c1:U l1=some (.list<|ms.map .int)
structure Fq (RW l0 l1:Addr)(zs:List Addr)(ns ms:List Int):Prop where
 n0:ns.length<=63
 n1:ms.length<=63
 z:RW∉zs
 z0:l0∉zs
 z1:l1∉zs
 b0:l0≠RW
 b1:l1≠RW
inductive aU (U:St)(RW:Addr)(zs:List Addr)(m:Nat):Prop
 |mk (l0 l1:Addr) (ns ms:List Int) (t:Nat) (w:sf U RW l0 l1 ns ms t) (n:Fq RW l0 l1 zs ns ms) (l:t<=m)
section
variable {l l1:Addr}{zs:List Addr}{m t:Nat} 
theorem Ext.refl:Ext xs U U:=λ_ _ _ h=>h
theorem Ext.trans (h:Ext xs U σ')(h':Ext xs σ' T7):Ext xs U T7:=λy o hy e=>h' y o hy<|h y o hy e
theorem Ext.sub (h:Ext xs U σ')(hs:∀y∈xs,y∈ys):Ext ys U σ':=λy o hy e=>h y o (λz=>hy<|hs y z) e
theorem Ext.fresh (h:U a=none):Ext xs U<|U.set a o:=λy p _ e=>by
 erw[St.ai (λz=>by subst z;rw[h] at e;cases e)];rw[e]
theorem Ext.put (h:a∈xs):Ext xs U<|U.set a o:=λy p hy e=>by
 erw[St.ai (λz=>by subst z;rw[hy h])];rw[e]
theorem sf.ext (h:sf U RW l0 l1 ns ms t)(N:Fq RW l0 l1 zs ns ms)(x:Ext xs U σ')(hs:∀y∈xs,y∈zs):sf σ' RW l0 l1 ns ms t:=
 ⟨x _ _ (λz=>N.z<|hs _ z) h.it,x _ _ (λz=>N.z0<|hs _ z) h.c0,x _ _ (λz=>N.z1<|hs _ z) h.c1⟩
theorem aU.ext (h:aU U RW zs m)(x:Ext xs U σ')(hs:∀y∈xs,y∈zs):aU σ' RW zs m:=by
 obtain ⟨l0,l1,ns,ms,t,w,N,ht⟩:=h;rw[⟨l0,l1,ns,ms,t,w.ext N x hs,N,ht⟩]
theorem aU.le (h:aU U RW zs m)(hm:m<=m'):aU U RW zs m':=by
 obtain ⟨l0,l1,ns,ms,t,w,N,ht⟩:=h;rw[⟨l0,l1,ns,ms,t,w,N,Nat.le_trans ht hm⟩]
theorem aU.grow (h:aU U RW zs m)(ha:U a=none):aU (U.set a o) RW (a::zs) m:=by
 obtain ⟨l0,l1,ns,ms,t,w,N,ht⟩:=h;have w':sf (U.set a o) RW l0 l1 ns ms t:=w.ext N (xs:=[]) (Ext.fresh ha) bZ;rw[⟨l0,l1,ns,ms,t,w',⟨N.n0,N.n1,λz=>?_,λz=>?_,λz=>?_,N.b0,N.b1⟩,ht⟩]
 ·rcases ek z with z|z
  ·clear w';subst z;rw[ak ha w.it]
  ·rw[N.z z]
 ·rcases ek z with z|z
  ·clear w';subst z;rw[ak ha w.c0]
  ·rw[N.z0 z]
 ·rcases ek z with z|z
  ·clear w';subst z;rw[ak ha w.c1]
  ·rw[N.z1 z]
theorem aU.less (h:aU U RW zs m)(hs:∀y∈ys,y∈zs):aU U RW ys m:=by
 obtain ⟨l0,l1,ns,ms,t,w,N,ht⟩:=h;rw[⟨l0,l1,ns,ms,t,w,⟨N.n0,N.n1,λz=>N.z<|hs _ z,λz=>N.z0<|hs _ z,λz=>N.z1<|hs _ z,N.b0,N.b1⟩,ht⟩]
noncomputable def tK (ns:List Int):PyData:=.list<|ns.map .int
theorem fP (h:U a=some (.list<|ns.map .int)):fC U (.ref a)<|tK ns:=.list h<|fS.map _ _ (λi=>.int i) ns
theorem cR (ns:List Int):SeqAt.shaped (tK ns)=true:=dG _ 1 ac (λi=>⟨rfl,by simp [PyData.depth]⟩) ns
theorem lg (ns ms:List Int):PyData.eqv (tK ns) (tK ms)=decide (ns=ms):=by
 unfold tK;erw[show PyData.eqv (.list<|ns.map .int) (.list<|ms.map .int)=PyData.eqvAll (ns.map .int) (ms.map .int) by rfl];rw[iY _ (λa b=>by rw[af rL ?_];by_cases h:a=b<;>rfl) ns ms]
theorem w7 {b:Addr}(ha:U a=some (.list<|ns.map .int))(hb:U b=some (.list []))(h:k (.bool<|!decide (ns=[])) U):cZ (Dd q) n .NotEq (.ref a) (.ref b) U k ke:=
 jL (fP ha) (fP (ns:=[]) hb) (cR _) (cR _) (af (lg ..) h)
theorem pick_from {α:Type}(xs:List α)(x:Nat):pick xs (some x) none none=xs.drop x:=by
 have e:sliceBounds (some (x:Int)) none none xs.length=(((min x xs.length:Nat):Int),((xs.length:Nat):Int),1):=by
  simp only [sliceBounds,Option.getD_none,show (1:Int)>0 by decide,if_true,if_neg<|show ¬((x:Int)<0) by rw[Int.not_lt.mpr<|nN x]]
  congr 1
  rcases Nat.le_total x xs.length with h|h
  ·erw[Nat.min_eq_left h,Int.min_eq_left<|Int.ofNat_le.mpr h,Int.max_eq_right<|nN x]
  ·erw[Nat.min_eq_right h,Int.min_eq_right<|Int.ofNat_le.mpr h,Int.max_eq_right<|nN _]
 unfold pick;rw[af e ?_];simp only [sliceRange_one];have:=pick_run xs.toArray (min x xs.length)<|xs.length-min x xs.length;simp only [List.getElem?_toArray] at this;erw[this,List.take_of_length_le (by erw[List.length_drop];rw[Nat.le_refl<|xs.length-min x xs.length])]
 by_cases h:x<=xs.length
 ·rw[af (Nat.min_eq_left h) rfl]
 ·rw[af (Nat.min_eq_right<|JG h)<|af (List.drop_of_length_le<|Nat.le_refl _)<|af (List.drop_of_length_le<|JG h) rfl]
theorem zq {α:Type}(xs:List α)(lo hi:Option Int):(pick xs lo hi none).length<=xs.length:=by
 unfold pick;rw[af (sliceBounds_plain ..) ?_];simp only [sliceRange_one];have:=pick_run xs.toArray (lo.elim 0<|clipAt xs.length)<|hi.elim xs.length (clipAt xs.length)-lo.elim 0 (clipAt xs.length);simp only [List.getElem?_toArray] at this;rw[af this<|af List.length_take<|af List.length_drop ?_,Nat.le_trans (Nat.min_le_right ..)<|Nat.sub_le ..]
theorem zp {α:Type}{xs:List α}{a b c:Option Int}{x:α}(h:x∈pick xs a b c):x∈xs:=by
 unfold pick at h;obtain ⟨i,_,h⟩:=List.mem_filterMap.mp h;rw[List.mem_of_getElem? h]
theorem n5 {α β:Type}(f:α->β)(xs:List α)(a b c:Option Int):pick (xs.map f) a b c=(pick xs a b c).map f:=by
 unfold pick;rw[af (cD ..)<|af List.map_filterMap ?_]
 congr 1
 funext i
 rw[af List.getElem?_map rfl]
theorem cA (hb:aU U RW zs m)(hz:∀y∈zs,U y≠none)(hm:m<2^40)(h0:0<many)(h1:many<2^29)(h:∀i σ',0<=i->i<many->aU σ' RW zs (m+1)->Ext [RW] U σ'->k (.int i) σ'):ay (Dd q) (n+2) (.ref 857) [.ref RW,.int many] U k ke:=by
 obtain ⟨l0,l1,ns,ms,t,w,N,ht⟩:=hb;rw[Ak ["box","many"] rfl rfl (λ_=>rfl) ?_,xc rfl ?_,sL (λj lo τ=>lo=([("box",.ref RW),("many",.int many)]:Lo)/\∃l1 ms,ms.length=j/\sf τ RW l0 l1 ns ms t/\Fq RW l0 l1 zs ns ms/\Ext [RW] U τ) ms.length ⟨rfl,l1,ms,rfl,w,N,Ext.refl⟩ ?_];rintro j lo τ ⟨rfl,l1,ms,hj,w,N,X⟩;left;rw[<-aC w.it ac ac rfl ?_,⟨by simp,λe he=>?_⟩];have w1:=w.ext (σ':=τ.set e<|.list []) N (xs:=[]) (Ext.fresh he) bZ;have X1:=X.trans<|Ext.fresh (o:=.list []) he;left;rw[<-w7 w1.c1 St.ah ?_]
 cases ms with
 |nil=>
  rw[<-aN (yH rfl) ?_,az rfl ?_,<-xt rfl ?_,<-aC w1.it ac ac rfl ?_,⟨by simp,λe2 WR=>?_⟩];have w2:=w1.ext N (xs:=[]) (Ext.fresh (o:=.list []) WR) bZ;have X2:=X1.trans<|Ext.fresh (o:=.list []) WR;left;rw[<-w7 w2.c1 St.ah ?_,Cut.mk ?_,<-xt rfl ?_,<-aC w2.it ac ac rfl ?_,Cut.mk ?_,<-xt rfl ?_,qX w2.it ac (by show (2:Int)<3;decide) (by show 3<2^60;decide) ?_];have w3:sf (((τ.set e<|.list []).set e2<|.list []).set RW<|.list<|[V.ref l0,V.ref l1,V.int t].set (Int.toNat 2) (V.int<|(t:Int)+1)) RW l0 l1 ns []<|t+1:=⟨St.ah,by rw[af (St.ai N.b0) ?_,w2.c0],af (St.ai N.b1) w2.c1⟩;have X3:=X2.trans<|Ext.put (a:=RW) (o:=.list<|[V.ref l0,V.ref l1,V.int t].set (Int.toNat 2) (V.int<|(t:Int)+1))<|List.mem_singleton.mpr rfl;generalize ((τ.set e<|.list []).set e2<|.list []).set RW (.list<|[V.ref l0,V.ref l1,V.int t].set (Int.toNat 2) (V.int<|(t:Int)+1))=VK at w3 X3 ⊢;clear X2 X1 w2 w1 w X he WR;left;rw[Cut.mk ?_,xc rfl ?_,eU.mono (k:=λf l υ=>f=.next/\(∃c,l=([("box",.ref RW),("many",.int many),("at",.int t),("cell",.int c)]:Lo))/\sf υ RW l0 l1 ns [] (t+1)/\Ext [RW] U υ) (ke:=gF) ?_ ?_ λ_ _ _ _ z=>z.elim]
  ·left;rw[<-aC w3.it ac ac rfl ?_,⟨by simp,λe he=>?_⟩];have w4:=w3.ext N (xs:=[]) (Ext.fresh (o:=.list []) he) bZ;have X4:=X3.trans<|Ext.fresh (o:=.list []) he;left;rw[<-w7 w4.c0 St.ah ?_]
   cases ns with
   |nil=>
    rw[<-az rfl ?_,⟨rfl,⟨_,rfl⟩,w4,X4⟩]
   |cons c cs=>
    rw[<-aN rfl ?_,<-aC w4.it ac ac rfl ?_,aC w4.it ac ac rfl ?_];have Sd:=N.n0;left;rw[eg w4.c0 (af (cD ..)<|xU Sd) ?_,af (cD ..) ?_];have hp:0<((c::cs).length:Int):=by simp
    left;rw[fq (by rw[Int.ne_of_gt hp]) ?_];have r0:=Int.fmod_nonneg_of_pos (t:Int) hp;have r1:=Int.fmod_lt_of_pos (t:Int) hp;have r2:((t:Int).fmod ((c::cs).length:Int)).toNat<(c::cs).length:=by rw[(Int.toNat_lt r0).mpr r1]
    left;rw[<-aC (x:=.int<|(c::cs)[((t:Int).fmod ((c::cs).length:Int)).toNat]) w4.c0 r0 (Mn r1 Sd) (by rw[af List.getElem?_map<|af (List.getElem?_eq_getElem r2) ?_];rfl) ?_,⟨rfl,⟨_,rfl⟩,w4,X4⟩]
  rintro _ _ υ ⟨rfl,⟨c,rfl⟩,w4,X4⟩;left;rw[<-gT ac ac ?_,<-bG (mul_r<|Lq hm ht) ?_,<-bG (cF<|Lq hm ht) ?_,<-gT ac ac ?_,<-gT ac ac ?_,fq (by rw[Int.ne_of_gt h0]) ⟨_,St.le_refl _,h _ _ (Int.fmod_nonneg_of_pos _ h0) (Int.fmod_lt_of_pos _ h0) ⟨l0,l1,ns,[],t+1,w4,N,by rw[Nat.lt_succ_of_le ht]⟩ X4⟩]
 |cons c cs=>
  rw[<-az (qQ rfl) ?_,<-aC w1.it ac ac rfl ?_,<-aC w1.c1 ac ac rfl ?_]
  by_cases hc:c=0
  ·rw[<-az (qQ<|eqT hc) ?_];left;rw[<-jX .int .none .none ac ?_,aC w1.it ac ac rfl ?_];have hn:=N.n1;rw[⟨l1,_,rfl,w1.c1,by rw[af (cD ..) ?_,xU hn],λl' SP=>?_⟩,<-af (n5 ..)<|af (show (some (1:Int))=some ((1:Nat):Int) from rfl)<|af (pick_from ..) ?_];have w2:=w1.ext N (xs:=[]) (Ext.fresh (o:=.list<|((c::cs).drop 1).map .int) SP) bZ;rw[qX w2.it ac (by show (1:Int)<3;decide) (by show 3<2^60;decide) ?_];have nb:l'≠RW:=(kE w1.it SP).symm;have n0:l0≠l':=kE w1.c0 SP;rw[⟨cs.length,_,_,by rw[af (Eq.symm<|hj) ?_,Nat.lt_succ_self _],Lo.le_refl _,St.le_refl _,rfl,l',cs,rfl,⟨St.ah,?_,?_⟩,⟨N.n0,?_,N.z,N.z0,?_,N.b0,nb⟩,?_⟩]
   ·rw[af (St.ai N.b0) w2.c0]
   ·rw[af (St.ai nb) St.ah]
   ·simp at hn;rw[Nat.le_succ_of_le hn]
   ·intro YQ;rw[hz _ YQ ?_]
    cases hs:U l' with
    |none=>rfl
    |some o=>rw[ak SP<|X1 l' o (λz=>nb<|b9 z) hs]
   ·rw[(X1.trans<|Ext.fresh SP).trans<|Ext.put<|List.mem_singleton.mpr rfl]
  ·rw[<-aN (yH<|oX hc) ?_,<-az (oX hc) ?_,<-aC w1.it ac ac rfl ?_,⟨by simp,λe2 WR=>?_⟩];have w2:=w1.ext N (xs:=[]) (Ext.fresh (o:=.list []) WR) bZ;have X2:=X1.trans<|Ext.fresh (o:=.list []) WR;left;rw[<-w7 w2.c1 St.ah ?_];generalize (τ.set e<|.list []).set e2 (.list [])=UK at w2 X2 ⊢;clear w1 X1 WR he w X;left;rw[<-aC w2.it ac ac rfl ?_,<-aC w2.c1 ac ac rfl ?_,<-fq (by rw[Int.ne_of_gt h0]) ?_,<-aC w2.it ac ac rfl ?_,<-aC w2.c1 ac ac rfl ?_,<-gT (by rw[Int.ne_of_gt h0]) (by lia) ?_,⟨by simp,λe3 Zu=>?_⟩];have w3:=w2.ext N (xs:=[]) (Ext.fresh (o:=.list [.int<|c.fdiv many]) Zu) bZ;have X3:=X2.trans<|Ext.fresh (o:=.list [.int<|c.fdiv many]) Zu;left;rw[<-jX .int .none .none ac ?_,aC w3.it ac ac rfl ?_];have hn:=N.n1;rw[⟨l1,_,rfl,w3.c1,by rw[af (cD ..) ?_,xU hn],λl' SP=>?_⟩,af (n5 ..)<|af (show (some (1:Int))=some ((1:Nat):Int) from rfl)<|af (pick_from ..) ?_];have w4:=w3.ext N (xs:=[]) (Ext.fresh (o:=.list<|((c::cs).drop 1).map .int) SP) bZ;have X4:=X3.trans<|Ext.fresh (o:=.list<|((c::cs).drop 1).map .int) SP;have ne3:e3≠l':=kE St.ah SP;left;rw[pC (xs:=[.int<|c.fdiv many]) (af (St.ai ne3) St.ah) St.ah (by simp at hn ⊢;lia) λXI Vz=>?_,af (show [V.int<|c.fdiv many]++((c::cs).drop 1).map V.int=(c.fdiv many::cs).map V.int from rfl) ?_];have w5:=w4.ext N (xs:=[]) (Ext.fresh (o:=.list<|(c.fdiv many::cs).map .int) Vz) bZ;have X5:=X4.trans<|Ext.fresh (o:=.list<|(c.fdiv many::cs).map .int) Vz;have nb:XI≠RW:=(kE w4.it Vz).symm;have nz:XI∉zs:=λYQ=>hz _ YQ (by
    cases hs:U XI with
    |none=>rfl
    |some o=>rw[ak Vz<|X4 XI o (λz=>nb<|b9 z) hs])
   generalize ((UK.set e3<|.list [.int<|c.fdiv many]).set l'<|.list<|((c::cs).drop 1).map .int)=Uw at w4 X4 w5 X5 Vz ⊢;left;rw[<-qX w5.it ac (by show (1:Int)<3;decide) (by show 3<2^60;decide) ?_,⟨_,St.le_refl _,h _ _ (Int.fmod_nonneg_of_pos _ h0) (Int.fmod_lt_of_pos _ h0) ⟨l0,XI,ns,c.fdiv many::cs,t,⟨St.ah,?_,?_⟩,⟨N.n0,?_,N.z,N.z0,nz,N.b0,nb⟩,by rw[Nat.le_succ_of_le ht]⟩<|X5.trans<|Ext.put<|List.mem_singleton.mpr rfl⟩]
   ·rw[af (St.ai N.b0) w5.c0]
   ·rw[af (St.ai nb) St.ah]
   ·simp at hn ⊢;omega
end
variable {held RV:Addr}{SV pg:Int}{hs:List Int}
section
variable {l l1:Addr}{zs:List Addr}{m t:Nat} 
theorem Dp {b:Addr}(ha:U a=some (.list<|ns.map .int))(hb:U b=some (.list []))(h:k (.bool<|decide (ns=[])) U):cZ D n .Eq (.ref a) (.ref b) U k ke:=
 AW (fP ha) (fP (ns:=[]) hb) (cR _) (cR _) (by erw[lg];rw[h])
theorem Fc (TZ:IntsAre q.fH ns)(hz:ns.length<=63)(h:∀RW σ',aU σ' RW [] 0->Ext [] U σ'->U RW=none->k (.ref RW) σ'):ay (Dd q) (n+2) (.ref 850) [.ref q.bw] U k ke:=by
 rw[<-fp ["script"] rfl rfl (λ_=>rfl) ?_,<-tU (D:=Dd q) TZ (xU hz) .none .int .none ac ?_,⟨rfl,λl hl=>?_⟩];have hp:=zq ns none<|some 40;generalize pick ns none (some 40) none=ps at hp ⊢;left;rw[<-cU (bV rfl ac ac) ?_,aV St.ah ⟨by rw[af (cD ..) ?_,JC hz hp],?_⟩,kh V.int (λi=>if i<10^18 then some (.int i) else none) (show bJ _ (.lst _ _) from St.ah) ps [] (λx hx=>?_) ?_]
 ·left;rw[⟨Lo.bg trivial,?_⟩];show kI _ _ _ _ _ _ _ _;left;rw[<-qN ac ac ac ?_]
  by_cases hc:x<10^18
  ·rw[<-aN (dT hc) ?_,⟨St.le_refl _,if_pos hc⟩]
  ·rw[az (dF hc) ⟨St.le_refl _,if_neg hc⟩]
 erw[List.nil_append,show ps.filterMap (λi=>if i<10^18 then some (V.int i) else none)=(ps.filter λi=>decide (i<10^18)).map V.int by erw[<- List.filterMap_eq_map,List.filterMap_filter];congr 1;funext i;by_cases h:i<10^18<;>simp [h]];intro a1 TS;have n1:l≠a1:=kE St.ah TS;left;rw[<-cU (bV rfl ac ac) ?_,aV (vs:=ps.map V.int) (af (St.ai n1) St.ah) ⟨by rw[af (cD ..) ?_,JC hz hp],?_⟩,kh V.int (λi=>if i>=10^18 then some (.int<|i-10^18) else none) (show bJ _ (.lst _ _) from (St.ai n1).trans St.ah) ps [] (λx hx=>?_) ?_]
 ·left;rw[⟨Lo.bg trivial,?_⟩];show kI _ _ _ _ _ _ _ _;left;rw[<-qN ac ac ac ?_]
  by_cases hc:x>=10^18
  ·rw[<-aN (dT hc) ?_,<-qN ac ac ac ?_,⟨St.le_refl _,if_pos hc⟩]
  ·rw[az (dF hc) ⟨St.le_refl _,if_neg hc⟩]
 erw[List.nil_append,show ps.filterMap (λi=>if i>=10^18 then some (V.int<|i-10^18) else none)=((ps.filter λi=>decide (i>=10^18)).map λi=>i-10^18).map V.int by erw[List.map_map,<- List.filterMap_eq_map,List.filterMap_filter];congr 1;funext i;by_cases h:i>=10^18<;>simp [h]];intro a2 Ui;have l1:=List.length_filter_le (λi=>decide (i<10^18)) ps;have l2:=List.length_filter_le (λi=>decide (i>=10^18)) ps;generalize ps.filter (λi=>decide (i<10^18))=c0 at l1 Ui ⊢;generalize ps.filter (λi=>decide (i>=10^18))=c1 at l2 ⊢;left;rw[⟨by simp,λb hb=>?_⟩];have n2:a1≠a2:=kE St.ah Ui;have n3:a2≠b:=kE St.ah hb;have n4:a1≠b:=λz=>by clear n3;subst z;rw[ak hb<|(St.ai n2).trans St.ah]
 have X:Ext [] U<|((U.set l<|.list<|ps.map .int).set a1<|.list<|c0.map .int).set a2<|.list<|(c1.map λi=>i-10^18).map .int:=((Ext.fresh hl).trans<|Ext.fresh TS).trans<|Ext.fresh Ui;rw[⟨_,St.le_refl _,h b _ ⟨a1,a2,c0,c1.map λi=>i-10^18,0,⟨St.ah,?_,?_⟩,⟨JN hz l1 hp,by rw[af (cD ..) ?_,JN hz l2 hp],nz,nz,nz,n4,n3⟩,Nat.le_refl _⟩ (X.trans<|Ext.fresh hb) ?_⟩]
 ·rw[af (St.ai n4)<|af (St.ai n2) St.ah]
 ·rw[af (St.ai n3) St.ah]
 ·cases hs:U b with
  |none=>rfl
  |some o=>rw[ak hb<|X b o nz hs]
theorem Aj {P:Nat}(hb:aU U RW zs m)(hz:∀y∈zs,U y≠none)(hm:m<2^40)(hP:0<P)(Yw:P<=32)(TN:pg.natAbs<2^64)
 (h:∀(c:Int) σ',0<=c->c*P+P<=2^22->aU σ' RW zs (m+1)->Ext [RW] U σ'->k (.int<|pg*P*c) σ'):ay (Dd q) (n+3) (.ref 871) [.ref RW,.int pg,.int P] U k ke:=by
 have hc0:(2:Int)^22/P*P<=2^22:=Int.ediv_mul_le _<|zR hP;have VR:(2:Int)^22/P<=2^22:=Int.ediv_le_self _ ac;have WU:1<=(2:Int)^22/P:=(Int.le_ediv_iff_mul_le<|by rw[Int.ofNat_lt.mpr hP]).mpr (by rw[Int.le_trans (af (Int.one_mul _)<|Int.ofNat_le.mpr Yw) ac]);rw[<-fp ["box","page","pages"] rfl rfl (λ_=>rfl) ?_,<-qN ac ac ac ?_,gT (zR hP) (by rw[Nat.lt_of_le_of_lt Yw ac]) ?_,af (show (2:Int)^(22:Int).toNat=2^22 from rfl)<|af (Int.fdiv_eq_ediv_of_nonneg _<|show (0:Int)<=P by rw[nN P]) ?_];generalize (2:Int)^22/P=ct at hc0 VR WU ⊢;left;rw[<-bG (cF ac) ?_,<-(cA hb hz hm (by lia) (Kq VR) λi τ i0 i1 Vk X=>?_).call,<-bG (cF<|by omega) ?_,<-fq ac ?_];have fin:∀c:Int,0<=c->c<ct->k (.int<|pg*P*c) τ:=λc c0 c1=>by
  rw[h c τ c0 ?_ Vk X];have:=Int.mul_le_mul_of_nonneg_right (show c+1<=ct by rw[c1]) (show (0:Int)<=P by rw[nN P]);rw[Int.add_mul] at this;rw[Ly this hc0]
 rw[af (Int.fmod_eq_emod_of_nonneg _ ac) ?_]
 by_cases hp:i%2=0
 ·rw[<-aN (eqT hp) ?_,gT ac ac ?_,<-af (Int.fdiv_eq_ediv_of_nonneg _ ac) ?_,<-bG (mul_r<|by rw[Jo i0<|Int.lt_of_lt_of_le (Int.lt_of_lt_of_le i1<|Int.mul_le_mul_of_nonneg_left VR ac) ac]) ?_,rt<|fin _ (by rw[Int.ediv_nonneg i0 ac])<|LH hp i1]
 ·rw[<-az (oX hp) ?_,gT ac ac ?_,<-af (Int.fdiv_eq_ediv_of_nonneg _ ac) ?_,<-bG (mul_r<|by rw[nab (Df i1 hp)<|Int.lt_of_lt_of_le (De i0 hp)<|Int.le_trans VR ac]) ?_,rt<|fin _ (Df i1 hp)<|De i0 hp]
end
section
variable {l l1:Addr}{zs:List Addr}{m t b:Nat} 
noncomputable def Bo (n:Nat):Int:=([2,6,8,10,14][n%5]?.getD 0)+16*((n/5%64:Nat):Int)+((n/320:Nat):Int)
theorem EV (n:Fin 640):p6<|Bo n:=by
 have key:∀n:Fin 640,0<=Bo n/\Bo n<1024/\Builtin.bitAnd (Bo n) 10≠0/\Builtin.bitAnd (Builtin.bitOr (Bo n) 1) 6≠4/\Builtin.bitAnd (Builtin.bitOr (Bo n) 1) 1≠0/\0<=Builtin.bitOr (Bo n) 1/\Builtin.bitOr (Bo n) 1<1024/\Builtin.bitAnd (Builtin.bitOr (Bo n) 1) 10≠0:=by decide+kernel
 obtain ⟨a,b,c,d,e,f,g,h⟩:=key n;rw[⟨a,b,c,d,e,f,g,h⟩]
theorem oU (hb:aU U RW zs m)(hz:∀y∈zs,U y≠none)(hm:m<2^40)
 (h:∀fl σ',p6 fl->aU σ' RW zs (m+1)->Ext [RW] U σ'->k (.int fl) σ'):ay (Dd q) (n+3) (.ref 878) [.ref RW] U k ke:=by
 rw[<-fp ["box"] rfl rfl (λ_=>rfl) ?_,<-(cA hb hz hm ac ac λi τ i0 i1 Vk X=>?_).call,<-⟨by simp,λl hl=>?_⟩,fq ac ?_];obtain ⟨i,rfl⟩:=Int.eq_ofNat_of_zero_le i0;have i1':i<640:=by rw[Int.ofNat_lt.mp i1]
 erw[Int.fmod_eq_emod_of_nonneg _ ac,show (i:Int)%5=((i%5:Nat):Int) by rw[rfl]];have h5:i%5<5:=Nat.mod_lt _ ac;left;rw[aC (x:=.int<|[2,6,8,10,14][i%5]?.getD 0) St.ah (by rw[nN<|i%5]) (LS i1) ?_ ?_]
 ·rw[af (Int.toNat_natCast ..) ?_];generalize i%5=j at h5;rw[Rn j h5 ?_ ?_ ?_ ?_ ?_]
  ·rfl
  ·rfl
  ·rfl
  ·rfl
  ·rfl
 left;rw[<-gT ac ac ?_,<-fq ac ?_,<-bG (cF ac) ?_,<-gT ac ac ?_];erw[Int.fdiv_eq_ediv_of_nonneg _ ac,Int.fdiv_eq_ediv_of_nonneg _ ac,Int.fmod_eq_emod_of_nonneg _ ac,show (i:Int)/5%64=((i/5%64:Nat):Int) by rw[rfl],show (i:Int)/320=((i/320:Nat):Int) by rw[rfl]];have X2:Ext [RW] U<|τ.set l<|.list [.int 2,.int 6,.int 8,.int 10,.int 14]:=X.trans<|Ext.fresh hl;rw[⟨_,St.le_refl _,h (Bo i) _ (EV ⟨i,i1'⟩) (Vk.ext (xs:=[]) (Ext.fresh hl) bZ) X2⟩]
noncomputable def jC (hs:List Int)(SV b:Int):Bool:=decide ((hs.filter λa=>decide (b<=a/\a<b+SV))=[])
theorem wA (hh:U held=some (.list<|hs.map .int))(hm:U RV=some (.list<|ms.map .int))(hz:hs.length<=1000)(UL:ms.length<=1000)
 (h:∀l σ',U l=none->σ' l=some (.list<|(ms.filter<|jC hs SV).map .int)->Ext [] U σ'->k (.ref l) σ'):ay (Dd q) (n+2) (.ref 883) [.ref held,.ref RV,.int SV] U k ke:=by
 rw[<-fp ["held","made","large"] rfl rfl (λ_=>rfl) ?_,<-cU (bV rfl ac ac) ?_,aV hm ⟨by rw[af (cD ..) ?_,Jz UL],?_⟩,kh V.int (λi=>if jC hs SV i=true then some (.int i) else none) (show bJ _ (.lst _ _) from hm) ms [] (λx hx=>?_) ?_]
 ·left;rw[⟨Lo.bg ⟨rfl,rfl,trivial⟩,?_⟩];show kI _ _ _ _ _ _ _ _;left;rw[<-cU (bV rfl ac ac) ?_,aV hh ⟨by rw[af (cD ..) ?_,Jz hz],?_⟩,kh V.int (λa=>if x<=a/\a<x+SV then some (.int a) else none) (show bJ _ (.lst _ _) from hh) hs [] (λy hy=>?_) ?_]
  ·left;rw[⟨Lo.bg ⟨rfl,rfl,trivial⟩,?_⟩];show kI _ _ _ _ _ _ _ _;left
   by_cases h1:x<=y
   ·rw[<-aN (dT h1) ?_]
    by_cases h2:y<x+SV
    ·rw[<-aN (dT h2) ?_,⟨St.le_refl _,if_pos ⟨h1,h2⟩⟩]
    ·rw[az (dF h2) ⟨St.le_refl _,if_neg λz=>h2 z.2⟩]
   ·rw[<-az (dF h1) ?_,az rfl ⟨St.le_refl _,if_neg λz=>h1 z.1⟩]
  erw[List.nil_append,show hs.filterMap (λa=>if x<=a/\a<x+SV then some (V.int a) else none)=(hs.filter λa=>decide (x<=a/\a<x+SV)).map V.int by erw[<- List.filterMap_eq_map,List.filterMap_filter];congr 1;funext i;by_cases h:x<=i/\i<x+SV<;>simp [h]];intro a1 TS;left;rw[⟨by simp,λa2 Ui=>?_⟩];have ne:a1≠a2:=kE St.ah Ui;left;rw[<-Dp ((St.ai ne).trans St.ah) St.ah ?_];have le:U.le<|(U.set a1<|.list<|(hs.filter λa=>decide (x<=a/\a<x+SV)).map .int).set a2<|.list []:=St.le_trans (St.aY TS)<|St.aY Ui
  cases hl:jC hs SV x with
  |true=>
   rw[<-aN hl ?_,⟨le,if_pos rfl⟩]
  |false=>
   rw[az hl ⟨le,if_neg ac⟩]
 erw[List.nil_append,show ms.filterMap (λi=>if jC hs SV i=true then some (V.int i) else none)=(ms.filter<|jC hs SV).map V.int by rw[af (Eq.symm<|List.filterMap_eq_map)<|af List.filterMap_filter ?_];congr 1];intro a1 TS;left;rw[rt<|h a1 _ TS St.ah<|Ext.fresh TS]
end
theorem uN (P:Params):makesIn (KK P) 614=true/\findIn (KK P) (.ref 614) "__init__"=some (some<|.ref 459)/\typeIn (KK P) (.ref 459)=some (.type "function"):=⟨by kernel_rfl!,by kernel_rfl!,by kernel_rfl!⟩
theorem uL (P:Params):makesIn (KK P) 841=true/\findIn (KK P) (.ref 841) "__init__"=some (some<|.ref 740)/\typeIn (KK P) (.ref 740)=some (.type "function"):=⟨by kernel_rfl!,by kernel_rfl!,by kernel_rfl!⟩
theorem uO (P:Params):makesIn (KK P) 425=true/\findIn (KK P) (.ref 425) "__init__"=some (some<|.ref 284)/\typeIn (KK P) (.ref 284)=some (.type "function"):=⟨by kernel_rfl!,by kernel_rfl!,by kernel_rfl!⟩
theorem uP (P:Params):makesIn (KK P) 266=true/\findIn (KK P) (.ref 266) "__init__"=some (some<|.ref 226)/\typeIn (KK P) (.ref 226)=some (.type "function"):=⟨by kernel_rfl!,by kernel_rfl!,by kernel_rfl!⟩
theorem uM (P:Params):makesIn (KK P) 721=true/\findIn (KK P) (.ref 721) "__init__"=some (some<|.ref 674)/\typeIn (KK P) (.ref 674)=some (.type "function"):=⟨by kernel_rfl!,by kernel_rfl!,by kernel_rfl!⟩
theorem uQ (P:Params):makesIn (KK P) 182=true/\findIn (KK P) (.ref 182) "__init__"=some (some<|.ref 122)/\typeIn (KK P) (.ref 122)=some (.type "function"):=⟨by kernel_rfl!,by kernel_rfl!,by kernel_rfl!⟩
section
variable {l l1:Addr}{zs:List Addr}{m t b:Nat} 
theorem E2 {kl:List V->St->Prop}(h:kl [] U):FA D n sc [] lo U kl ke:=h
theorem nH {kl:List V->St->Prop}{e:Expr}(h:bY D n sc e lo U (λx RS=>FA D n sc es lo RS (λxs RU=>kl (x::xs) RU) ke) ke):FA D n sc (e::es) lo U kl ke:=h
theorem Ext.none (h:Ext [] U σ')(hn:σ' a=none):U a=none:=by
 cases hs:U a with
 |none=>rfl
 |some o=>rw[ak hn<|h a o nz hs]
noncomputable def Bd.al (B:Bd):List Addr:=[B.lay,B.mem,B.words,B.pool,B.rF,B.qz,B.tab]
theorem aH.ext (H:aH U B b m0 f used)(x:Ext xs U σ')(hs:∀y∈xs,y∉B.al):aH σ' B b m0 f used:=by
 right;obtain ⟨⟨d1,h1⟩,⟨⟨d2,h2⟩,h3⟩,⟨u,gv,hf,⟨⟨d4,h4⟩,h5,h6⟩,ok⟩,⟨d7,h7⟩,ne⟩:=H;have X:∀y o,y∈B.al->U y=some o->σ' y=some o:=λy o hy e=>x y o (λz=>hs y z hy) e;symm;rw[⟨⟨d1,X _ _ (by rw[List.Mem.head [B.mem,B.words,B.pool,B.rF,B.qz,B.tab]]) h1⟩,⟨⟨d2,X _ _ (by rw[gA B.lay<|List.Mem.head [B.words,B.pool,B.rF,B.qz,B.tab]]) h2⟩,X _ _ (by rw[gA B.lay<|gA B.mem<|List.Mem.head [B.pool,B.rF,B.qz,B.tab]]) h3⟩,⟨u,gv,hf,⟨⟨d4,X _ _ (by rw[gA B.lay<|gA B.mem<|gA B.words<|List.Mem.head [B.rF,B.qz,B.tab]]) h4⟩,X _ _ (by rw[gE (i:=4) rfl]) h5,X _ _ (by rw[gE (i:=5) rfl]) h6⟩,ok⟩,⟨d7,X _ _ (by rw[gE (i:=6) rfl]) h7⟩,ne⟩]
structure dj (U:St)(D wk jb:Addr)(B:Bd):Prop where
 dict:U D=some (.j9 [("memory",.ref B.mem),("pool",.ref B.pool),("table",.ref B.tab),("walker",.ref wk)])
 wk:WalkAt U wk jb B.lay
 jb:m6 U jb B.mem
theorem ug (G:eG b m0)(hl:gb U lay b)(h:∀D wk jb B σ',B.lay=lay->aH σ' B b m0 (λ_=>none) []->dj σ' D wk jb B->Ext [] U σ'->(∀y∈[B.mem,B.words,B.pool,B.rF,B.qz,B.tab,wk,jb,D],U y=none)->k (.ref D) σ'):ay (Dd q) (n+4) (.ref 864) [.ref lay,.int m0] U k ke:=by
 have hE:=G.e;have h4:=G.m4;have hmp:=G.mp;rw[fp ["layout","begin"] rfl rfl (λ_=>rfl) ?_];obtain ⟨dl,WO⟩:=id hl;left;rw[<-bG (cF ac) ?_,jZ (uN _).1 (uN _).2.1 (uN _).2.2 λmem dm V3=>?_,sY St.ah h4.2.1 (af (pe ..)<|KN hE) (af (pe ..)<|Mu h4 hE) h4.1 (by rw[af (pe ..) ?_,Int.emod_eq_zero_of_dvd ⟨_,Int.mul_left_comm ..⟩]) λw Sx hw YR M1 S1=>⟨rfl,?_⟩];have X1:Ext [] U Sx:=λy o _ e=>by
  have n1:y≠mem:=kE e V3;have n2:y≠w:=λz=>by clear YR M1 S1;subst z;rw[ak hw<|(St.ai n1).trans e]
  rw[af (S1 y n1 n2)<|af (St.ai n1) e]
 have hw0:U w=none:=by rw[St.ai YR] at hw;rw[hw]
 have TP:gb Sx lay b:=⟨dl,X1 _ _ nz WO⟩;obtain ⟨Wm,hl1'⟩:=id TP;left;rw[<-bG (cF ac) ?_,jZ (uL _).1 (uL _).2.1 (uL _).2.2 λpool dp Ub=>?_,uJ St.ah (af (pe ..)<|EB h4 hE) (af (pe ..)<|Kz hE) ?_ λg h' Tz hg V5 ng nh P2 S2=>⟨rfl,?_⟩]
 ·rw[af (pe ..)<|af (Int.add_mul_emod_self_right ..) hmp]
 right;have X2:Ext [] Sx Tz:=λy o _ e=>by
  have n1:y≠pool:=kE e Ub;have n2:y≠g:=λz=>by clear ng P2 S2;subst z;rw[ak hg<|(St.ai n1).trans e]
  have n3:y≠h':=λz=>by clear nh;subst z;rw[ak V5<|(St.ai n1).trans e]
  rw[af (S2 y n1 n2 n3)<|af (St.ai n1) e]
 have hg0:U g=none:=X1.none (by rw[St.ai ng] at hg;rw[hg]);have hh0:U h'=none:=X1.none (by rw[St.ai nh] at V5;rw[V5]);have hp0:U pool=none:=X1.none Ub;obtain ⟨⟨Yl,Xo⟩,hw1⟩:=M1;symm;have nwh:w≠h':=λz=>by clear P2 S2 hh0;subst z;rw[ak V5<|(St.ai nh).trans hw1]
 left;rw[AB [("memory",_,_),("pool",_,_),("table",_,_),("walker",_,_)] rfl rfl ac ?_,<-nH ?_,<-nH ?_,<-nH ?_,jZ (uO _).1 (uO _).2.1 (uO _).2.2 λtab dt XQ=>?_,sH St.ah ⟨rfl,?_⟩,af St.set_set ?_];have X3:Ext [] Tz<|Tz.set tab<|.inst 425 dt [("memory",.ref mem),("layout",.ref lay),("pages",.ref pool)]:=Ext.fresh XQ;have e3:(Tz.set tab<|.inst 425 dt [("memory",.ref mem),("layout",.ref lay),("pages",.ref pool)]) tab=some (.inst 425 dt [("memory",.ref mem),("layout",.ref lay),("pages",.ref pool)]):=St.ah;generalize Tz.set tab (.inst 425 dt [("memory",.ref mem),("layout",.ref lay),("pages",.ref pool)])=Uu at X3 e3 ⊢;left;rw[<-nH ?_,jZ (uM _).1 (uM _).2.1 (uM _).2.2 λjb db Ye=>?_,A1 St.ah λl Vm Vh Zq B4 S4=>⟨rfl,?_⟩];have X4:Ext [] Uu Vm:=λy o _ e=>by
  have n1:y≠jb:=kE e Ye;have n2:y≠l:=λz=>by clear Zq S4;subst z;rw[ak Vh<|(St.ai n1).trans e]
  rw[af (S4 y n1 n2)<|af (St.ai n1) e]
 left;rw[jZ (uP _).1 (uP _).2.1 (uP _).2.2 λwk dw Zs=>?_,sq St.ah ⟨rfl,?_⟩,<-af St.set_set ?_,E2 ?_];intro D hD;have X5:Ext [] Vm<|(Vm.set wk<|.inst 266 dw [("bus",.ref jb),("layout",.ref lay)]).set D<|.j9 [("memory",.ref mem),("pool",.ref pool),("table",.ref tab),("walker",.ref wk)]:=(Ext.fresh Zs).trans<|Ext.fresh hD;have nDw:wk≠D:=kE St.ah hD;have hD0:Vm D=none:=by rw[St.ai<|Ne.symm nDw] at hD;rw[hD]
 right;have X35:=(X3.trans X4).trans X5;have X25:=X2.trans X35;have nm:∀{y:Addr},y∉([]:List Addr):=nz;obtain ⟨d4,l4,b4⟩:=B4;symm;rw[⟨_,St.le_refl _,h D wk jb ⟨lay,mem,w,pool,g,h',tab⟩ _ rfl ⟨⟨dl,X25 _ _ nm<|X1 _ _ nm WO⟩,⟨⟨Yl,X25 _ _ nm Xo⟩,X25 _ _ nm hw1⟩,?_,⟨dt,(X4.trans X5) _ _ nm e3⟩,nwh⟩ ⟨St.ah,⟨dw,?_⟩,⟨d4,l4,X5 _ _ nm b4⟩⟩ (X1.trans X25) ?_⟩]
 ·right;obtain ⟨u,gv,hf,⟨⟨dp,h1⟩,h2,h3⟩,ok⟩:=P2;symm;rw[⟨u,gv,hf,⟨⟨dp,X35 _ _ nm h1⟩,X35 _ _ nm h2,X35 _ _ nm h3⟩,ok⟩]
 ·rw[af (St.ai nDw) St.ah]
 ·have X13:=(X1.trans X2).trans X3;intro y hy;clear hw YR S1 Ub hg V5 ng nh hw1 Xo nwh e3 Vh Zq S4 hD X5 nDw X35 X25 b4;rcases (ek hy).imp_right λz=>(ek z).imp_right nc with rfl|rfl|rfl|rfl|rfl|rfl|rfl|rfl|rfl
  ·rw[V3]
  ·rw[hw0]
  ·rw[hp0]
  ·rw[hg0]
  ·rw[hh0]
  ·rw[(X1.trans X2).none XQ]
  ·rw[(X13.trans X4).none Zs]
  ·rw[X13.none Ye]
  ·rw[(X13.trans X4).none hD0]
end
variable {jb wk:Addr}
noncomputable def Bd.ml (B:Bd):List Addr:=[B.words,B.pool,B.rF,B.qz]
structure lI (B:Bd)(b:Nat)(m0:Int)(f:Int->Option Int)(used:List Int)(root:Int)(T:Nat->Slot)(U σ':St)(f':Int->Option Int)(R5:List Int)(T':Nat->Slot):Prop where
 bd:aH σ' B b m0 f' R5
 ext:Ext B.ml U σ'
 sp:aF (2^b) m0 f' root T'
 rest:Rest (2^b) m0 root T used f f'
noncomputable def kindS (n:Nat):Str:=match n%3 with|0=>Str.ofString "fetch"|1=>Str.ofString "load"|_=>Str.ofString "store"
noncomputable def tD (n:Nat):Int:=match n%3 with|0=>12|1=>13|_=>15
noncomputable def aQ (e:Int):Int:=e-Builtin.bitAnd e 768
theorem Cp (P:Params):exmOne (KK P) (.ref 103) (.ref 103)=some true:=by kernel_rfl!
theorem An (P:Params):exmOne (KK P) (.ref 52) (.ref 52)=some true:=by kernel_rfl!
section
variable {l D:Addr}{zs:List Addr}{m t b:Nat}{x:Int} 
theorem bM {y:Addr}(h:y∈B.ml):y∈B.al:=gA B.lay<|gA B.mem<|List.mem_append_left [B.tab] h
theorem z7 (n:Nat):lN (kindS n)<|tD n:=by
 unfold kindS tD lN;have:n%3<3:=Nat.mod_lt _ ac;generalize n%3=j at this;rw[OZ j this ?_ ?_ ?_]
 ·rw[.inl ⟨rfl,rfl⟩]
 ·rw[.inr<|.inl ⟨rfl,rfl⟩]
 ·rw[.inr<|.inr ⟨rfl,rfl⟩]
theorem eW.ext (h:eW B U σ'):Ext B.ml U σ':=λy o hy e=>by
 erw[h y λz=>hy ?_];rw[e];rcases z with z|z|z|z<;>subst z<;>first|exact gE (i:=0) rfl|exact gE (i:=1) rfl|exact gE (i:=2) rfl|exact gE (i:=3) rfl
theorem f6.tx (h:f6 B b m0 f used root T U σ' f' R5 T'):lI B b m0 f used root T U σ' f' R5 T':=⟨h.bd,h.same.ext,h.sp,h.rest⟩
theorem lI.pre (x:Ext [] U σ')(h:lI B b m0 f used root T σ' T7 f' R5 T'):lI B b m0 f used root T U T7 f' R5 T':=
 ⟨h.bd,(x.sub bZ).trans h.ext,h.sp,h.rest⟩
theorem dj.ext (h:dj U D wk jb B)(x:Ext xs U σ')(hs:∀y∈xs,y≠D/\y≠wk/\y≠jb):dj σ' D wk jb B:=by
 right;obtain ⟨h1,⟨d,h2⟩,⟨d',l,h3⟩⟩:=h;symm;rw[⟨x _ _ (λz=>(hs _ z).1 rfl) h1,⟨d,x _ _ (λz=>(hs _ z).2.1 rfl) h2⟩,⟨d',l,x _ _ (λz=>(hs _ z).2.2 rfl) h3⟩⟩]
theorem aH.Q9 (H:aH U B b m0 f used)(h:WalkAt U wk jb B.lay):¬B.muts wk:=by
 right;obtain ⟨d,h⟩:=h;obtain ⟨_,⟨_,h3⟩,⟨u,gv,hf,⟨⟨d4,h4⟩,h5,h6⟩,ok⟩,_,_⟩:=H;symm;rintro (z|z|z|z)<;>subst z
 ·rw[h] at h3;rw[bU bI.ctorIdx (sI h3) rfl]
 ·rw[h] at h4;cases h4
 ·rw[h] at h5;rw[bU bI.ctorIdx (sI h5) rfl]
 ·rw[h] at h6;rw[bU bI.ctorIdx (sI h6) rfl]
theorem mD {j:Nat}(G:eG b m0)(H:aH U B b m0 f used)(S:aF (2^b) m0 f root T)(O:dj U D wk jb B)(hj:j<24)(VZ:0<=x)(hx:x.natAbs<2^64)
 (h1:fB b x->∀z,bH (2^b) T x=some z->jA (entryAt T (cI (2^b) x)<|cM (2^b) x) (kindS j) ((j/3%2:Nat):Int) ((j/6%2:Nat):Int) ((j/12:Nat):Int)=true->∀σ' f',lI B b m0 f used root T U σ' f' used (upd T (cI (2^b) x)<|lR (kindS j) (cM (2^b) x)<|T<|cI (2^b) x)->k (.int z) σ')
 (h2:¬fB b x\/(fB b x/\(bH (2^b) T x=none\/jA (entryAt T (cI (2^b) x)<|cM (2^b) x) (kindS j) ((j/3%2:Nat):Int) ((j/6%2:Nat):Int) ((j/12:Nat):Int)=false))->∀σ',Ext [] U σ'->k (.tup [.int<|tD j,.int x]) σ'):
 ay (Dd q) (n+9) (.ref 916) [.ref D,.int root,.int x,.int j] U k ke:=by
 rw[Ak ["board","root","place","n"] rfl rfl (λ_=>rfl) ?_,xo rfl rfl ?_,<-xD (EU _) rfl rfl ?_,aS O.dict rfl ?_];obtain ⟨dw,hw⟩:=O.wk;left;rw[⟨by simp,λl hl=>?_⟩];have X1:Ext [] U<|U.set l<|.list [.str<|Str.ofString "fetch",.str<|Str.ofString "load",.str<|Str.ofString "store"]:=Ext.fresh hl;have H1:=H.ext X1 bZ;have O1:=O.ext X1 bZ;left;rw[fq ac ?_];erw[Int.fmod_eq_emod_of_nonneg _ ac,show (j:Int)%3=((j%3:Nat):Int) by rw[rfl]];have h3:j%3<3:=Nat.mod_lt _ ac;left;rw[aC (x:=.str<|kindS j) St.ah (by rw[nN<|j%3]) (Mj hj) ?_ ?_]
 ·rw[af (Int.toNat_natCast ..) ?_];unfold kindS;generalize j%3=i at h3;rw[OZ i h3 ?_ ?_ ?_]
  ·rfl
  ·rfl
  ·rfl
 left;rw[<-gT ac ac ?_,<-fq ac ?_,<-gT ac ac ?_,<-fq ac ?_,<-gT ac ac ?_];erw[Int.fdiv_eq_ediv_of_nonneg _ ac,Int.fdiv_eq_ediv_of_nonneg _ ac,Int.fdiv_eq_ediv_of_nonneg _ ac,Int.fmod_eq_emod_of_nonneg _ ac,Int.fmod_eq_emod_of_nonneg _ ac,show (j:Int)/3%2=((j/3%2:Nat):Int) by rw[rfl],show (j:Int)/6%2=((j/6%2:Nat):Int) by rw[rfl],show (j:Int)/12=((j/12:Nat):Int) by rw[rfl]];rw[(qS G H1 S O1.wk (H1.Q9 O1.wk) O1.jb (z7 j) VZ hx (λhi z hz hm σ' f' t=>?_) λhn s=>?_).call]
 ·left;rw[rt<|h1 hi z hz hm σ' f'<|t.tx.pre X1]
 ·rw[<-⟨Cp _,λe d he=>?_⟩,<-xe St.ah rfl rfl (As _) ?_,<-xe St.ah rfl rfl (Ar _) ?_,⟨by simp,⟨_,St.aY he,he,_,St.le_refl _,h2 hn _ X1⟩⟩]
theorem yk (H:aH U B b m0 f used)(hx:¬fB b x)(h:∀s,ke 52 [("reason",.str s)] U):ay (Dd q) (n+5) (.ref 313) [.ref B.tab,.int root,.int x] U k ke:=by
 obtain ⟨d,ha⟩:=H.tab;rw[<-fp ["self","root","address"] rfl rfl (λ_=>rfl) ?_,(ow H hx h).call]
open Classical in
def kY (b:Nat)(T:Nat->Slot)(x:Int):V:=if fB b x then .tup [.int<|aQ<|entryAt T (cI (2^b) x)<|cM (2^b) x,BK<|bH (2^b) T x] else .none
theorem wz (G:eG b m0)(H:aH U B b m0 f used)(S:aF (2^b) m0 f root T)(O:dj U D wk jb B)(h:k (kY b T x) U):ay (Dd q) (n+6) (.ref 923) [.ref D,.int root,.int x] U k ke:=by
 rw[Ak ["board","root","place"] rfl rfl (λ_=>rfl) ?_,xo rfl rfl ?_];obtain ⟨d,ha⟩:=H.tab
 by_cases hx:fB b x
 ·rw[<-jS ?_,<-aS O.dict rfl ?_,<-(lB G H S hx ?_).call,<-aS O.dict rfl ?_,<-(yS G H S hx ?_).call,⟨by simp,?_⟩,⟨_,St.le_refl _,?_⟩];unfold kY at h;rw[if_pos hx] at h;rw[h]
 ·rw[<-zb (g5 _) rfl ?_,<-aS O.dict rfl ?_,<-(yk H hx λs=>⟨An _,?_⟩).call];unfold kY at h;rw[if_neg hx] at h;rw[rt h]
end
abbrev It:=Nat×Option Nat×Int
noncomputable def gw (E i:Nat):Slot->List It
 |.none=>[]
 |.leaf e=>[(i,none,e)]
 |.tab _ g=>(List.range E).filterMap λj=>if g j=0 then none else some (i,some j,g j)
def items (E:Nat)(T:Nat->Slot)(m:Nat):List It:=(List.range m).flatMap λi=>gw E i<|T i
noncomputable def eV (E:Nat)(t:It):Int:=((t.1:Int)*E+((t.2.1.getD 0:Nat):Int))*(4*E)
noncomputable def sj (E:Nat)(t:It):Int:=if t.2.1=none then 4*E*E else 4*E
def gP (E:Nat)(t:It):Row:=(eV E t,t.2.2/1024*(4*E),t.2.2%1024,sj E t)
noncomputable def Nu (root:Int)(T:Nat->Slot)(t:It):Int:=match t.2.1,T t.1 with
 |none,_=>root+4*t.1
 |some j,.tab y _=>y+4*j
 |_,_=>0
section
variable {m i:Nat}{t:It}{s:Slot} 
theorem sP:jv E i s=(gw E i s).map (gP E):=by
 cases s with
 |none=>rfl
 |leaf e=>rfl
 |tab y g=>
  show fU E i g E=_;unfold fU gw;simp only;rw[af List.map_filterMap ?_]
  congr 1
  funext j
  by_cases h:g j=0
  ·rw[af (if_pos h)<|af (if_pos h) rfl]
  ·rw[af (if_neg h)<|af (if_neg h) rfl]
theorem cL:aP E T m=(items E T m).map (gP E):=by
 unfold aP items;rw[af List.map_flatMap ?_]
 congr 1
 funext i
 rw[sP]
theorem uD:gJ E root i (T i)=(gw E i<|T i).map λt=>(eV E t,Nu root T t):=by
 cases h:T i with
 |none=>rfl
 |leaf e=>rfl
 |tab y g=>
  unfold gJ gw;simp only;rw[af List.map_filterMap ?_]
  congr 1
  funext j
  unfold C1
  by_cases hg:g j=0
  ·rw[af (if_pos hg)<|af (if_pos hg) rfl]
  ·rw[af (if_neg hg)<|af (if_neg hg) ?_];exact congrArg some (congrArg (Prod.mk _) (show y+4*(j:Int)=match some j,T i with
    |none,_=>root+4*(i:Int)
    |some j,.tab y _=>y+4*(j:Int)
    |_,_=>0 from h▸rfl))
theorem ya:eE E root T m=(items E T m).map λt=>(eV E t,Nu root T t):=by
 unfold eE items;rw[af List.map_flatMap ?_]
 congr 1
 funext i
 rw[uD]
def Bk (E:Nat)(T:Nat->Slot)(t:It):Prop:=match t.2.1 with
 |none=>T t.1=.leaf t.2.2
 |some j=>j<E/\∃y g,T t.1=.tab y g/\g j=t.2.2/\t.2.2≠0
theorem kr:t∈gw E i (T i)↔t.1=i/\Bk E T t:=by
 obtain ⟨a,o,e⟩:=t
 constructor
 ·intro h
  cases hT:T i with
  |none=>rw[hT] at h;cases h
  |leaf e'=>
   rw[hT] at h
   cases b9 h
   rw[⟨rfl,hT⟩]
  |tab y g=>
   rw[hT] at h;obtain ⟨j,hj,h⟩:=List.mem_filterMap.mp h
   by_cases hg:g j=0
   ·rw[ak (if_pos hg) h]
   ·rw[if_neg hg] at h
    cases h
    rw[⟨rfl,List.mem_range.mp hj,y,g,hT,rfl,hg⟩]
 ·rintro ⟨h1,h2⟩;dsimp only at h1 h2;subst h1
  cases o with
  |none=>
   rw[af (show T a=.leaf e from h2)<|List.mem_singleton.mpr rfl]
  |some j=>
   obtain ⟨h3,y,g,h4,h5,h6⟩:=h2;rw[af h4 ?_,List.mem_filterMap.mpr ⟨j,List.mem_range.mpr h3,?_⟩];erw[if_neg (by erw[h5];rw[h6]),h5]
theorem bQ:t∈items E T m↔t.1<m/\Bk E T t:=by
 rw[af (propext List.mem_flatMap) ?_]
 constructor
 ·rintro ⟨i,hi,h⟩;obtain ⟨h1,h2⟩:=kr.mp h;rw[⟨h1▸List.mem_range.mp hi,h2⟩]
 ·rintro ⟨h1,h2⟩;rw[⟨t.1,List.mem_range.mpr h1,kr.mpr ⟨rfl,h2⟩⟩]
theorem lZ (hE:0<E):(items E T m).length<=m*E:=by
 have:=eT (T:=T) hE m;rw[cL,cD] at this;rw[this]
end
variable {ls:Addr}{UP:Int}
abbrev Ln:=Int×Int×Int×Bool
noncomputable def Fx (r:Ln):List V:=[.int r.1,.int r.2.1,.int r.2.2.1,.bool r.2.2.2]
structure gW (U:St)(ls:Addr)(ps:List<|Addr×Ln):Prop where
 it:U ls=some (.list<|ps.map λp=>.ref p.1)
 each:∀p∈ps,U p.1=some (.list<|Fx p.2)
abbrev nj (E:Nat)(x:Int)(r:Ln):Prop:=r.1<=x/\x<r.1+(if r.2.2.2=true then 4*(E:Int)*E else 4*(E:Int))
noncomputable def gD (E:Nat)(x:Int):List (Addr×Ln)->Option Int
 |[]=>none
 |p::ps=>if nj E x p.2 then some (p.2.2.1+x-p.2.1) else gD E x ps
section
variable {l D:Addr}{zs:List Addr}{m t b:Nat}{x:Int}{ps:List<|Addr×Ln}
theorem gW.ext (h:gW U ls ps)(x:Ext xs U σ')(h1:ls∉xs)(h2:∀p∈ps,p.1∉xs):gW σ' ls ps:=⟨x _ _ h1 h.it,λp hp=>x _ _ (h2 p hp)<|h.each p hp⟩
theorem Cm (hl:gb U lay b)(L:gW U ls ps)(h:k (BK<|gD (2^b) x ps) U):ay (Dd q) (n+1+1) (.ref 930) [.ref ls,.ref lay,.int x] U k ke:=by
 obtain ⟨dl,SP⟩:=hl;rw[Ak ["lines","layout","place"] rfl rfl (λ_=>rfl) ?_,xc rfl ?_,<-dz ?_,aV L.it ?_,gR (λp:Addr×Ln=>V.ref p.1) ps (λdone lo τ=>lo=([("lines",.ref ls),("layout",.ref lay),("place",.int x)]:Lo)/\τ=U/\∃rest,ps=done++rest/\gD (2^b) x ps=gD (2^b) x rest) ⟨rfl,rfl,ps,rfl,rfl⟩ ?_ ?_ ?_]
 ·clear h SP;rintro done lo τ ⟨_,rfl,_⟩;rw[L.it]
 ·rintro done p lo τ ⟨rest,hr⟩ ⟨rfl,rfl,rest',h1,h2⟩;have hrr:rest'=p::rest:=List.append_cancel_left<|h1.symm.trans hr;clear h1;subst hrr;have hp:=L.each p<|af hr<|List.mem_append_right _ List.mem_cons_self;left;rw[<-aC hp ac ac rfl ?_];have step:¬nj (2^b) x p.2->gD (2^b) x ps=gD (2^b) x rest:=λz=>by rw[af h2 ?_];show (if nj (2^b) x p.2 then _ else _)=_;rw[af (if_neg z) rfl]
  by_cases c1:p.2.1<=x
  ·rw[<-aN (dT c1) ?_,<-aC hp ac ac rfl ?_,<-aC hp ac ac rfl ?_];have both:∀z:Int,z=(if p.2.2.2.2=true then 4*((2^b:Nat):Int)*((2^b:Nat):Int) else 4*((2^b:Nat):Int))->nj (2^b) x p.2=(p.2.1<=x/\x<p.2.1+z):=λz e=>by unfold nj;rw[af e rfl]
   have fin:nj (2^b) x p.2->Fj k (.ret<|.int<|p.2.2.1+x-p.2.1) τ:=λz=>⟨_,St.le_refl _,by rw[h2] at h;rw[show gD (2^b) x (p::rest)=some (p.2.2.1+x-p.2.1) from if_pos z] at h;rw[h]⟩;have go:¬nj (2^b) x p.2->uo (λSw R1=>Sw=([("lines",.ref ls),("layout",.ref lay),("place",.int x)]:Lo)/\R1=τ/\∃rest_1,ps=done++[p]++rest_1/\gD (2^b) x ps=gD (2^b) x rest_1) (Lo.put (Str.ofString "line") (.ref p.1) ([("lines",.ref ls),("layout",.ref lay),("place",.int x)]:Lo)) τ:=λz=>⟨([("lines",.ref ls),("layout",.ref lay),("place",.int x)]:Lo),_,Lo.bg ⟨rfl,rfl,rfl,trivial⟩,St.le_refl _,rfl,rfl,rest,by rw[af hr ?_];simp,step z⟩
   cases hb:p.2.2.2.2 with
   |true=>
    rw[<-aN rfl ?_];have e:(2:Int)^(b+2)*2^b=4*((2^b:Nat):Int)*((2^b:Nat):Int):=by rw[af (pe ..)<|af (iG ..) rfl]
    have w:=both (2^(b+2)*2^b) (by rw[af (if_pos hb)<|af e rfl])
    by_cases c2:x<p.2.1+2^(b+2)*2^b
    ·rw[<-aN (dT c2) ?_,<-aC hp ac ac rfl ?_,<-aC hp ac ac rfl ?_,fin<|af w<|⟨c1,c2⟩]
    ·rw[<-az (dF c2) ?_,go<|af w λz=>c2 z.2]
   |false=>
    rw[<-az rfl ?_];have w:=both (2^(b+2)) (by erw[if_neg (by erw[hb];decide),pe])
    by_cases c2:x<p.2.1+2^(b+2)
    ·rw[<-aN (dT c2) ?_,<-aC hp ac ac rfl ?_,<-aC hp ac ac rfl ?_,fin<|af w<|⟨c1,c2⟩]
    ·rw[<-az (dF c2) ?_,go<|af w λz=>c2 z.2]
  ·rw[<-az (dF c1) ?_];left;rw[⟨([("lines",.ref ls),("layout",.ref lay),("place",.int x)]:Lo),_,Lo.bg ⟨rfl,rfl,rfl,trivial⟩,St.le_refl _,rfl,rfl,rest,by rw[af hr ?_];simp,step λz=>c1 z.1⟩]
 ·clear L SP;rintro lo τ ⟨rfl,rfl,rest,h1,h2⟩;have:rest=[]:=by have:=congrArg List.length h1;rw[List.length_append] at this;rw[List.length_eq_zero_iff.mp<|by lia]
  clear h1;subst this;left;rw[h2] at h;rw[rt h]
end
variable {ps:List<|Addr×Ln}
def Cz (E:Nat)(UP:Int)(t:It):V:=.tup [.int<|eV E t,.int<|t.2.2-Builtin.bitAnd t.2.2 UP]
section
variable {l D:Addr}{zs:List Addr}{m t b:Nat}{x:Int} 
theorem EN {it:It}(G:eG b m0)(H:aH U B b m0 f used)(S:aF (2^b) m0 f root T)(hi:it∈items (2^b) T (2^b))(h:k (.int it.2.2) U):ay (Dd q) (n+2) (.ref 487) [.ref B.mem,.int<|Nu root T it] U k ke:=by
 obtain ⟨h1,h2⟩:=bQ.mp hi;obtain ⟨i,o,e⟩:=it
 cases o with
 |none=>
  have h2:T i=.leaf e:=h2;rw[fW G H S h1<|af h2 h]
 |some j=>
  obtain ⟨h3,y,g,h4,h5,h6⟩:=h2;have h4:T i=.tab y g:=h4;unfold Nu;simp only [h4];rw[kD G H S h1 h4 h3<|af h5 h]
theorem oY (G:eG b m0)(H:aH U B b m0 f used)(S:aF (2^b) m0 f root T)(O:dj U D wk jb B)(h:∀l σ',U l=none->σ' l=some (.list<|(items (2^b) T<|2^b).map<|Cz (2^b) UP)->Ext [] U σ'->k (.ref l) σ'):ay (Dd q) (n+7) (.ref 909) [.ref D,.int root,.int UP] U k ke:=by
 have hE:=G.e;rw[<-fp ["board","root","soft"] rfl rfl (λ_=>rfl) ?_,⟨by simp,λl hl=>?_⟩];have X1:Ext [] U<|U.set l<|.list []:=Ext.fresh hl;have H1:=H.ext X1 bZ;have O1:=O.ext X1 bZ;have e1:(U.set l<|.list []) l=some (.list []):=St.ah;generalize U.set l (.list [])=Sx at X1 H1 O1 e1 ⊢;left;rw[<-dz ?_,aS O1.dict rfl ?_];obtain ⟨d,ha⟩:=H1.tab;left;rw[(xY G H1 S λl2 SW=>?_).call];have X2:Ext [] Sx<|Sx.set l2<|.list<|(eE (2^b) root T<|2^b).map oJ:=Ext.fresh SW;have e2:(Sx.set l2<|.list<|(eE (2^b) root T<|2^b).map oJ) l2=some (.list<|(eE (2^b) root T<|2^b).map oJ):=St.ah;generalize Sx.set l2 (.list<|(eE (2^b) root T<|2^b).map oJ)=Tz at X2 e2 ⊢;rw[ya,List.map_map] at e2;have SK:l2≠l:=(kE e1 SW).symm;left;rw[aV e2 ?_,gR (λt:It=>oJ (eV (2^b) t,Nu root T t)) (items (2^b) T<|2^b) (λdone lo τ=>lo=([("board",.ref D),("root",.int root),("soft",.int UP),("found",.ref l)]:Lo)/\Ext [l] Tz τ/\τ l=some (.list<|done.map<|Cz (2^b) UP)) ⟨rfl,Ext.refl,X2 _ _ nz e1⟩ ?_ ?_ ?_]
 ·rintro done lo τ ⟨_,X,_⟩;rw[X _ _ (λz=>SK<|b9 z) e2]
 ·rintro done t lo τ ⟨rest,hr⟩ ⟨rfl,X,hf⟩;have H2:=(H1.ext X2 bZ).ext X (λy z=>by
   rw[af (b9 z) ?_];intro w;have hn:=H.om hl;replace w:=nc w;rw[hn _ w rfl])
  have O2:=(O1.ext X2 bZ).ext X (λy z=>by
   rw[af (b9 z) ?_];obtain ⟨o1,⟨_,o2⟩,⟨_,_,o3⟩⟩:=O;rw[⟨λw=>?_,λw=>?_,λw=>?_⟩]<;>subst w
   ·rw[ak hl o1]
   ·rw[ak hl o2]
   ·rw[ak hl o3])
  have Sd:done.length<=100000:=by
   have h1:=lZ (T:=T) (m:=2^b) (show 0<2^b by rw[eO hE]);have h2:2^b*2^b<=32*32:=Nat.mul_le_mul hE.2 hE.2;have h3:=congrArg List.length hr;rw[List.length_append] at h3;rw[J5 h2 h3 h1]
  obtain ⟨dm,hm⟩:=H2.mem.it;rw[<-gf rfl (by rw[Nat.succ_pos _]) ?_,<-aS O2.dict rfl ?_,<-(EN G H2 S (af hr<|List.mem_append_right _ List.mem_cons_self) ?_).call,<-cC (cu hf) ?_,<-⟨by simp,?_⟩,cy hf (af (cD ..) Sd) ?_,⟨([("board",.ref D),("root",.int root),("soft",.int UP),("found",.ref l)]:Lo),_,Lo.bg ⟨rfl,rfl,rfl,rfl,trivial⟩,St.le_refl _,rfl,X.trans<|Ext.put<|List.mem_singleton.mpr rfl,?_⟩,af List.map_append St.ah]
 ·rintro lo τ ⟨rfl,X,hf⟩;left;rw[⟨_,St.le_refl _,h l τ hl hf λy o _ e=>?_⟩,X y o (λz=>?_)<|X2 _ _ nz<|X1 _ _ nz e];rw[b9 z,hl] at e;rw[aq e]
end
variable {rs:List Row}
noncomputable def jn (c:Nat):List (List Nat)->List Nat
 |[]=>[]
 |[x]=>x
 |x::r=>x++c::jn c r
theorem gO (c:Nat)(x y:List Nat)(r:List<|List Nat):jn c (x::y::r)=x++c::jn c (y::r):=rfl
theorem tO {c:Nat}:∀{p q X Y:List Nat},c∉p->c∉q->p++c::X=q++c::Y->p=q/\X=Y
 |[],[],X,Y,_,_,h=>⟨rfl,by simpa using h⟩
 |[],b::q,X,Y,_,hq,h=>by
  rw[List.nil_append,List.cons_append] at h;rw[absurd (List.cons.inj h).1 λz=>hq<|z▸List.mem_cons_self]
 |a::p,[],X,Y,hp,_,h=>by
  rw[List.nil_append,List.cons_append] at h;rw[absurd (List.cons.inj h).1 λz=>hp<|z▸List.mem_cons_self]
 |a::p,b::q,X,Y,hp,hq,h=>by
  rw[List.cons_append,List.cons_append] at h;obtain ⟨h1,h2⟩:=List.cons.inj h;obtain ⟨h3,h4⟩:=tO (λz=>hp<|List.mem_cons_of_mem _ z) (λz=>hq<|List.mem_cons_of_mem _ z) h2;rw[⟨by erw[h1,h3],h4⟩]
theorem Ac {c:Nat}:∀{ps qs:List<|List Nat},ps≠[]->qs≠[]->(∀p∈ps,c∉p)->(∀p∈qs,c∉p)->jn c ps=jn c qs->ps=qs
 |[],_,h,_,_,_,_=>absurd rfl h
 |_,[],_,h,_,_,_=>absurd rfl h
 |[p],[q],_,_,_,_,h=>by erw[show p=q from h]
 |[p],q::q'::s,_,_,hp,_,h=>by
  rw[gO] at h;rw[absurd (show c∈p by erw[show p=_ from h];simp)<|hp p<|by simp]
 |p::p'::r,[q],_,_,_,hq,h=>by
  rw[gO] at h;rw[absurd (show c∈q by erw[<- show _=q from h];simp)<|hq q<|by simp]
 |p::p'::r,q::q'::s,_,_,hp,hq,h=>by
  rw[gO,gO] at h;obtain ⟨h1,h2⟩:=tO (hp p<|by simp) (hq q<|by simp) h;erw[h1,Ac (by simp) (by simp) (λx hx=>hp x<|List.mem_cons_of_mem _ hx) (λx hx=>hq x<|List.mem_cons_of_mem _ hx) h2]
theorem vR {x y:Str}(h:x.cps.toList=y.cps.toList):x=y:=by
 cases x;cases y;congr 1;rw[Array.toList_inj.mp h]
theorem eB (x y:Str):(x++y).cps.toList=x.cps.toList++y.cps.toList:=by
 show (x.cps++y.cps).toList=_;simp
theorem k7 (c:Nat):∀ps:List Str,(Str.join ⟨#[c]⟩ ps).cps.toList=jn c (ps.map (·.cps.toList))
 |[]=>rfl
 |[x]=>rfl
 |x::y::r=>by
  show (x++⟨#[c]⟩++Str.join ⟨#[c]⟩ (y::r)).cps.toList=_;erw[eB,eB,k7 c<|y::r,List.map_cons,List.map_cons,List.map_cons,gO];simp
theorem nU {c:Nat}{ps:List Str}(h0:ps≠[])(hp:∀p∈ps,c∉p.cps.toList):Txt.split (Str.join ⟨#[c]⟩ ps) ⟨#[c]⟩=ps:=by
 have h1:=StrLaws.join_split (Str.join ⟨#[c]⟩ ps) ⟨#[c]⟩;have h2:=StrLaws.split_free (Str.join ⟨#[c]⟩ ps) c;have h3:=split_pos (Str.join ⟨#[c]⟩ ps) ⟨#[c]⟩;generalize Txt.split (Str.join ⟨#[c]⟩ ps) ⟨#[c]⟩=qs at h1 h2 h3;have h4:=congrArg (λx:Str=>x.cps.toList) h1;simp only [k7] at h4;have h5:=Ac (c:=c) (ps:=qs.map (·.cps.toList)) (qs:=ps.map (·.cps.toList)) (by intro z;rw[List.map_eq_nil_iff] at z;clear h1 h2 h4;subst z;simp at h3) (by intro z;rw[h0<|List.map_eq_nil_iff.mp z]) (by
  intro p Sn;obtain ⟨x,hx,rfl⟩:=List.mem_map.mp Sn;rw[h2 x hx]) (by
  intro p Sn;obtain ⟨x,hx,rfl⟩:=List.mem_map.mp Sn;rw[hp x hx]) h4
 have inj:∀(a b:List Str),a.map (·.cps.toList)=b.map (·.cps.toList)->a=b:=by
  intro a
  induction a with
  |nil=>intro b h;cases b with|nil=>rfl|cons=>cases h
  |cons x a ih=>intro b h;cases b with
   |nil=>cases h
   |cons y b=>rw[List.map_cons,List.map_cons] at h;obtain ⟨e1,e2⟩:=List.cons.inj h;erw[vR e1,ih b e2]
 rw[inj _ _ h5]
theorem kL (c:Nat)(ps:List Str):Txt.join ⟨#[c]⟩ ps=Str.join ⟨#[c]⟩ ps:=StrLaws.glued_eq_join _ _
theorem Cj (d:Nat)(h:d<16):jF d≠10/\jF d≠32/\jF d<128:=(by decide:∀d:Fin 16,jF d≠10/\jF d≠32/\jF d<128) ⟨d,h⟩
theorem dK (x:Int):∀c∈(aK x).cps.toList,c≠10/\c≠32/\c<128:=by
 intro c hc;unfold aK at hc;obtain ⟨j,_,rfl⟩:=List.mem_map.mp (show c∈(List.range 8).map λj=>jF (x.toNat/16^(7-j)%16) by simpa using hc);rw[Cj _<|Nat.mod_lt _ ac]
theorem oE:∀j:Fin 8,gM j≠10/\gM j≠32/\gM j≠45:=by decide
theorem mR (fl:Int):∀c∈(bk fl).cps.toList,c≠10/\c≠32:=by
 intro c hc;unfold bk at hc;obtain ⟨j,hj,rfl⟩:=List.mem_map.mp (show c∈(List.range 8).map (cg fl) by simpa using hc);have:=oE ⟨j,List.mem_range.mp hj⟩;unfold cg
 split
 ·rw[⟨this.1,this.2.1⟩]
 ·decide
noncomputable def eH (E:Nat)(r:Row):Str:=if r.2.2.2=4*E*E then Str.ofString "*" else Str.ofString ""
theorem nO (E:Nat)(r:Row):∀c∈(eH E r).cps.toList,c≠10/\c≠32:=by
 intro c hc;unfold eH at hc
 split at hc
 ·rw[show (Str.ofString "*").cps.toList=[42] from rfl] at hc;erw[b9 hc];decide
 ·rw[show (Str.ofString "").cps.toList=[] from rfl] at hc
  cases hc
theorem xW (E:Nat)(r:Row):bf E r=Str.join ⟨#[32]⟩ [aK r.1,aK r.2.1,bk r.2.2.1++eH E r]:=by
 apply vR;show (aK r.1++⟨#[32]⟩++aK r.2.1++⟨#[32]⟩++bk r.2.2.1++eH E r).cps.toList=(aK r.1++⟨#[32]⟩++(aK r.2.1++⟨#[32]⟩++(bk r.2.2.1++eH E r))).cps.toList;simp only [eB,List.append_assoc]
theorem uC (E:Nat)(r:Row):Txt.split (bf E r) ⟨#[32]⟩=[aK r.1,aK r.2.1,bk r.2.2.1++eH E r]:=by
 erw[xW];rw[nU (by simp) λp hp=>?_];replace hp:=Eh hp;rcases hp with rfl|rfl|rfl
 ·rw[λz=>(dK _ _ z).2.1 rfl]
 ·rw[λz=>(dK _ _ z).2.1 rfl]
 ·intro z;rw[eB,List.mem_append] at z;rcases z with z|z
  ·rw[(mR _ _ z).2 rfl]
  ·rw[(nO _ _ _ z).2 rfl]
theorem xX (E:Nat)(r:Row):10∉(bf E r).cps.toList:=by
 intro z;have e:(bf E r).cps.toList=(aK r.1++⟨#[32]⟩++aK r.2.1++⟨#[32]⟩++bk r.2.2.1++eH E r).cps.toList:=rfl;rw[e] at z;simp only [eB,List.mem_append] at z;rcases z with ((((z|z)|z)|z)|z)|z
 ·rw[(dK _ _ z).1 rfl]
 ·simp at z
 ·rw[(dK _ _ z).1 rfl]
 ·simp at z
 ·rw[(mR _ _ z).1 rfl]
 ·rw[(nO _ _ _ z).1 rfl]
theorem uB (E:Nat)(h:rs≠[]):Txt.split (Txt.join (Str.ofString "\n")<|rs.map<|bf E) (Str.ofString "\n")=rs.map (bf E):=by
 erw[show Str.ofString "\n"=⟨#[10]⟩ from rfl,kL];rw[nU (λz=>h<|List.map_eq_nil_iff.mp z) λp hp=>?_];obtain ⟨r,_,rfl⟩:=List.mem_map.mp hp;rw[xX E r]
theorem sC (E:Nat):Txt.join (Str.ofString "\n") (rs.map<|bf E)=Str.ofString ""↔rs=[]:=by
 constructor
 ·intro h
  cases rs with
  |nil=>rfl
  |cons r rs=>
   have e:=congrArg (λx:Str=>x.cps.toList) h;rw[show Str.ofString "\n"=⟨#[10]⟩ from rfl,kL] at e;simp only [k7] at e;rw[List.map_cons,List.map_cons] at e;have h1:(bf E r).cps.toList≠[]:=by
    intro z;have:=congrArg List.length z;have l:(bf E r).cps.toList.length=(bf E r).length:=by simp [Str.length]
    rw[l] at this;unfold bf at this;rw[aI,aI,aX] at this;simp at this
   have e':jn 10 ((bf E r).cps.toList::List.map (λx=>x.cps.toList) (List.map (bf E) rs))=[]:=e
   cases rs with
   |nil=>rw[absurd e' h1]
   |cons s rs=>rw[List.map_cons,List.map_cons,gO] at e';simp at e'
 ·rintro rfl;rfl
variable {st:Str}
theorem vf (d:Nat)(h:d<16):Txt.find (Str.ofString "0123456789abcdef") ⟨#[jF d]⟩=(d:Int):=by
 have key:∀d:Fin 16,Txt.find (Str.ofString "0123456789abcdef") ⟨#[jF d.1]⟩=((d.1:Nat):Int):=by decide+kernel
 rw[key ⟨d,h⟩]
noncomputable def jI (x:Int)(j:Nat):Nat:=x.toNat/16^(7-j)%16
theorem tZ (x:Int):(aK x).cps.all (·<128)=true:=by
 rw[af (propext Array.all_eq_true_iff_forall_mem) ?_];intro c hc;rw[decide_eq_true (dK x c<|by simpa using hc).2.2]
theorem vv (x:Int):((aK x).cps.toList.map λc=>V.str ⟨#[c]⟩)=(List.range 8).map λj=>V.str ⟨#[jF<|jI x j]⟩:=by
 unfold aK;simp only [List.map_map];rfl
theorem xd (n:Nat):∀m,((List.range m).map λk=>(n:Int)/2^k%2*2^k).sum=((n%2^m:Nat):Int)
 |0=>by rw[af (Nat.pow_zero ..)<|af (Nat.mod_one ..) rfl]
 |m+1=>by
  erw[List.range_succ,List.map_append,List.sum_append_int,xd n m,Nat.pow_succ,Nat.mod_mul,Nat.mul_comm<|2^m];rfl
theorem t6 (b n:Nat):∀m,((List.range m).map λk=>((n/b^(m-1-k)%b:Nat):Int)*(b:Int)^(m-1-k)).sum=((n%b^m:Nat):Int)
 |0=>by rw[af (Nat.pow_zero ..)<|af (Nat.mod_one ..) rfl]
 |m+1=>by
  rw[af List.range_succ_eq_map<|af List.map_cons<|af List.map_map<|af List.sum_cons ?_];erw[show ((λk=>((n/b^(m+1-1-k)%b:Nat):Int)*(b:Int)^(m+1-1-k)) ∘ Nat.succ)=λk=>((n/b^(m-1-k)%b:Nat):Int)*(b:Int)^(m-1-k) from funext λk=>by
   show ((n/b^(m+1-1-(k+1))%b:Nat):Int)*(b:Int)^(m+1-1-(k+1))=_;erw[show m+1-1-(k+1)=m-1-k from by erw[Nat.add_sub_cancel,Nat.sub_sub,Nat.add_comm 1 k]]]
  erw[t6 b n m,Nat.pow_succ,Nat.mod_mul,Nat.mul_comm<|b^m];simp [Int.add_comm]
theorem A2 (fl:Int)(j:Nat)(hj:j<8):fl%256/2^j%2=fl/2^j%2:=by
 obtain ⟨t,ht⟩:∃t,8=j+(t+1):=⟨7-j,ME hj⟩;have e:(256:Int)=2^j*(2*2^t):=by
  erw[show (256:Int)=2^8 from rfl,ht,Int.pow_add,Int.pow_succ,Int.mul_comm<|2^t]
 have h:=Int.emod_add_mul_ediv fl 256
 conv=>rhs;erw[<- h]
 erw[show (256:Int)*(fl/256)=2^j*(2*(2^t*(fl/256))) from by erw[<- Int.mul_assoc 2,<- Int.mul_assoc<|2^j,<- e],
  Int.add_mul_ediv_left _ _ (Int.pow_ne_zero ac),Int.add_mul_emod_self_left]
theorem CC {x:Int}(h0:0<=x)(h1:x<2^32):((List.range 8).map λk=>(jI x k:Int)*16^(7-k)).sum=x:=by
 obtain ⟨n,rfl⟩:=Int.eq_ofNat_of_zero_le h0;have hn:n<16^8:=Int.ofNat_lt.mp h1;rw[(t6 16 n 8).trans<|by rw[af (Nat.mod_eq_of_lt hn) rfl]]
theorem yZ {α:Type}(c:α->Prop) [DecidablePred c] (v:α->Int):∀l:List α,(l.filterMap λk=>if c k then some (v k) else none).sum=(l.map λk=>if c k then v k else 0).sum
 |[]=>rfl
 |x::l=>by
  rw[af List.filterMap_cons<|af List.map_cons<|af List.sum_cons<|af (Eq.symm<|yZ c v l) ?_]
  by_cases h:c x
  ·rw[af (if_pos h)<|af (if_pos h) rfl]
  ·rw[af (if_neg h)<|af (if_neg h)<|af (Int.zero_add ..) rfl]
theorem zM (h0:0<=fl):((List.range 8).filterMap λk=>if cg fl k≠45 then some ((2:Int)^k) else none).sum=fl%256:=by
 rw[af (yZ ..) ?_];have e:∀k:Nat,k<8->(if cg fl k≠45 then (2:Int)^k else 0)=fl/2^k%2*2^k:=by
  intro k hk;have:=(oE ⟨k,hk⟩).2.2;have h2:fl/2^k%2=0\/fl/2^k%2=1:=by rw[Int.emod_two_eq _]
  unfold cg;rcases h2 with h|h
  ·erw[h,if_neg (by decide:¬(0:Int)=1),if_neg ac];simp
  ·rw[af h<|af (if_pos rfl)<|af (if_pos this) ?_];simp
 rw[af (List.map_congr_left λk hk=>e k<|List.mem_range.mp hk) ?_];clear e;obtain ⟨n,rfl⟩:=Int.eq_ofNat_of_zero_le h0;rw[xd n 8]
def isStar (st:Str):Prop:=st=Str.ofString "*"\/st=Str.ofString ""
theorem Eg (fl:Int)(st:Str):(bk fl++st).cps=(((List.range 8).map<|cg fl)++st.cps.toList).toArray:=by
 apply Array.toList_inj.mp;rw[af (eB ..) rfl]
theorem v9 (fl:Int)(h:isStar st)(k:Nat)(hk:k<8):Txt.item (bk fl++st) k=⟨#[cg fl k]⟩:=by
 unfold Txt.item Txt.charAt;have hl:8<=(bk fl++st).length:=af (aI ..)<|af (aX ..)<|Nat.succ_le_of_lt<|Nat.le_add_right (Nat.succ 7) st.length;have e1:seqIndex? (k:Int) (bk fl++st).length=some k:=by
  unfold seqIndex?;erw[if_neg<|show ¬((k:Int)<0) by rw[Int.not_lt.mpr<|nN k]];show (if (decide (0<=(k:Int))&&decide ((k:Int)<((bk fl++st).length:Int)))=true then some (k:Int).toNat else none)=some k;erw[if_pos (by erw[Bool.and_eq_true];rw[⟨decide_eq_true<|by rw[nN k],decide_eq_true<|KQ hl hk⟩])];rfl
 rw[af e1 ?_];show (⟨#[((bk fl++st).cps[k]?).getD 0]⟩:Str)=_;rw[af (Eg ..)<|af List.getElem?_toArray<|af (List.getElem?_append_left<|by simpa using hk)<|af List.getElem?_map<|af (List.getElem?_range hk) ?_];rfl
theorem wc (fl:Int)(h:isStar st):(Txt.slice (bk fl++st) none<|some 8).length=8:=by
 rcases h with rfl|rfl
 ·unfold Txt.slice;erw[if_neg (by erw[aI,aX];decide),aI,aX];rfl
 ·unfold Txt.slice;erw[if_pos (by erw[aI,aX];decide),aI,aX];rfl
theorem v8 (fl:Int)(h:isStar st):Txt.slice (bk fl++st) (some 8) none=st:=by
 rcases h with rfl|rfl
 ·unfold Txt.slice;erw[if_neg (by erw[aI,aX];decide),aI,aX];rfl
 ·unfold Txt.slice;erw[if_neg (by erw[aI,aX];decide),aI,aX];rfl
noncomputable def uS (E:Nat)(r:Row):Ln:=(r.1,r.2.1,r.2.2.1%256,decide (r.2.2.2=4*(E:Int)*E))
section
variable {l D:Addr}{zs:List Addr}{m t b:Nat}{x:Int}{r:Row}
theorem iL {D:cN}{k:Fl->Lo->St->Prop}{ke:ji}{pos:Pos}{t e:Expr}(h:bY D n sc e lo U (λx RS=>fF D n sc t x lo RS (λl τ=>k .next l τ) ke) λC a τ=>ke C a lo τ)
 (hw:∀env:Env,env.scope=sc->swapsWith e (some t) pos.line env=pure false) (XS:∀env:Env,env.scope=sc->swappedStores [t] e env=pure none:=by intros;rfl) (ha:∀env,assignEach [t] env=[(false,assign t env)]:=by intros;rfl):eU D n sc (.Assign [t] e pos) lo U k ke:=λc hc hs s r=>by
 show wpAny _ _ (do
  standAt pos
  if <- swapsWithSole [t] e pos.line c.env then do
   evalThenUse e c.env λv=>assignAll v ((assignEach [t] c.env).map (·.2))
   pure .next
  else do
   let v <- eval e c.env
   assignStores c.env v (<- swappedStores [t] e c.env) ((assignEach [t] c.env).map (·.2))) _ _ s
 erw[show swapsWithSole [t] e pos.line c.env=pure false from hw _ hs,XS _ hs,ha];rw[wpAny_bind<|wpAny_standAt<|wpAny_bind<|wpAny_pure<|wpAny_bind<|wpAny_mono (h c hc hs s r .nil) (λv RT w9=>?_) λ_ _ z=>z.toS];obtain ⟨x,RS,RX,st,i,q⟩:=w9;rw[wpAny_bind<|wpAny_pure ?_,wpAny_bind<|wpAny_mono (q c v hc hs RT RX i) (by rintro _ RZ ⟨l,τ,R7,Sb,S7⟩;rw[wpAny_pure ⟨.next,l,τ,R7,st.trans Sb,trivial,S7⟩]) λ_ _ z=>z.step st]
theorem oG (j:Nat)(hj:j<8):PyData.strOk ⟨#[cg fl j]⟩=true/\PyData.strOk ⟨#[gM j]⟩=true:=by
 have key:∀j:Fin 8,PyData.strOk ⟨#[gM j]⟩=true/\PyData.strOk ⟨#[45]⟩=true:=by decide+kernel
 obtain ⟨h1,h2⟩:=key ⟨j,hj⟩;unfold cg
 split
 ·rw[⟨h1,h1⟩]
 ·rw[⟨h2,h1⟩]
theorem w6 {t:Str}(hs:PyData.strOk s=true)(ht:PyData.strOk t=true)(h:kk (.bool<|!(s==t)) U):cZ (Dd q) n .NotEq (.str s) (.str t) U kk ke:=jL (.str s) (.str t) (by simp [SeqAt.shaped,PyData.canLay0,PyData.depth,hs]) (by simp [SeqAt.shaped,PyData.canLay0,PyData.depth,ht])<|af nG h
theorem ud {t u:Str}(hs:PyData.strOk s=true)(ht:PyData.strOk t=true)(hu:PyData.strOk u=true)(h:kk (.bool<|!(s==u||t==u)) U):cZ (Dd q) n .NotIn (.str u) (.tup [.str s,.str t]) U kk ke:=
 AQ (.cons (.str s)<|.cons (.str t) .nil) (.str u) (by simp [PyData.canLayAll0,PyData.canLay0,hs,ht]) (by assumption) (by rw[Nat.zero_le 60]) (af List.any_cons<|af List.any_cons<|af List.any_nil<|af nG<|af nG<|af (Bool.or_false ..) h)
theorem Ext.drop (h:Ext (a::xs) U σ')(ha:U a=Option.none):Ext xs U σ':=λy o hy e=>h y o (λz=>by
 rcases ek z with z|z
 ·clear h;subst z;rw[ak ha e]
 ·rw[hy z]) e
theorem xS (j:Nat)(hj:j<8):Txt.item (Str.ofString "vrwxugad") (j:Int)=⟨#[gM j]⟩:=by
 have key:∀j:Fin 8,Txt.item (Str.ofString "vrwxugad") ((j.1:Nat):Int)=⟨#[gM j.1]⟩:=by decide+kernel
 rw[key ⟨j,hj⟩]
theorem jR (h:isStar st):PyData.strOk st=true/\(Str.ofString ""==st||Str.ofString "*"==st)=true:=by
 rcases h with rfl|rfl<;>rw[⟨by decide+kernel,by decide+kernel⟩]
theorem sJ (E:Nat)(r:Row):isStar<|eH E r:=by unfold eH;split;rw[.inl rfl,.inr rfl]
theorem BF (h0:0<=r.1)(h1:r.1<2^32)(h2:0<=r.2.1)(h3:r.2.1<2^32)(h4:0<=r.2.2.1)(h:∀l σ',U l=none->σ' l=some (.list<|Fx<|uS E r)->Ext [] U σ'->k (.ref l) σ'):ay (Dd q) (n+2) (.ref 895) [.str<|bf E r] U k ke:=by
 have Vf:=sJ E r;have V0:(eH E r).length<=1:=by rcases Vf with e|e<;>rw[af e ?_]<;>decide
 rw[<-fp ["line"] rfl rfl (λ_=>rfl) ?_,<-cC sZ ?_];refine t9 ac (by
  have:=jU (E:=E) [r];simp only [List.map_cons,List.map_nil,List.sum_cons,List.sum_nil,List.length_singleton] at this;lia) λp hp=>?_
 erw[show Txt.split (bf E r) (Str.ofString " ")=_ from uC E r,show ([aK r.1,aK r.2.1,bk r.2.2.1++eH E r].map V.str)=[.str<|aK r.1,.str<|aK r.2.1,.str<|bk r.2.2.1++eH E r] from rfl];have X1:Ext [] U<|U.set p<|.list [.str<|aK r.1,.str<|aK r.2.1,.str<|bk r.2.2.1++eH E r]:=Ext.fresh hp;have e1:(U.set p<|.list [.str<|aK r.1,.str<|aK r.2.1,.str<|bk r.2.2.1++eH E r]) p=some (.list [.str<|aK r.1,.str<|aK r.2.1,.str<|bk r.2.2.1++eH E r]):=St.ah;generalize U.set p (.list [.str<|aK r.1,.str<|aK r.2.1,.str<|bk r.2.2.1++eH E r])=Sx at X1 e1 ⊢;left;rw[<-eg e1 (by show 3<=100000;decide) ?_,<-aC e1 ac ac rfl ?_,rT (by rw[af (aR ..) ?_];decide) ?_,<-af (aR ..) ?_,<-aC e1 ac ac rfl ?_,rT (by rw[af (aR ..) ?_];decide) ?_,<-af (aR ..) ?_,<-mh .none .int ?_,aC e1 ac ac rfl ?_,<-⟨_,rfl,by rw[af (aI ..)<|af (aX ..) ?_,zU V0],?_⟩,rT (by rw[af (wc _ Vf) ?_];decide) ?_,<-af (wc _ Vf) ?_,⟨by simp,λl2 SW=>?_⟩];have X2:Ext [] Sx<|Sx.set l2<|.list<|[8,8,8].map .int:=Ext.fresh SW;have e2:(Sx.set l2<|.list<|[8,8,8].map .int) l2=some (.list<|[8,8,8].map .int):=St.ah;show (_:V->St->Prop) _ (Sx.set l2<|.list<|[8,8,8].map .int);have e3:=X2 _ _ nz e1;generalize Sx.set l2 (.list<|[8,8,8].map .int)=Tz at X2 e2 e3 ⊢;left;rw[⟨by simp,λl3 Tj=>?_⟩];have X3:Ext [] Tz<|Tz.set l3<|.list [.int 8,.int 8,.int 8]:=Ext.fresh Tj;left;rw[jL (fP (ns:=[8,8,8])<|X3 _ _ nz e2) (fP (ns:=[8,8,8]) St.ah) (cR _) (cR _) ?_,af (lg ..) ?_];have e4:=X3 _ _ nz e3;generalize Tz.set l3 (.list [.int 8,.int 8,.int 8])=Uu at X3 e4 ⊢;have X13:=X2.trans X3;clear e3 e2 e1 Tj SW X2 X3;left;left;rw[<-mh .int .none ?_,aC e4 ac ac rfl ?_,⟨_,rfl,by rw[af (aI ..)<|af (aX ..) ?_,zU V0],?_⟩,<-af (v8 _ Vf) ?_,<-⟨by simp,?_⟩,ud (jR<|.inr rfl).1 (jR<|.inl rfl).1 (jR Vf).1 ?_,<-af (jR Vf).2 ?_];left;rw[⟨by simp,λfo X0=>?_⟩];have X4:Ext [] Uu<|Uu.set fo<|.list []:=Ext.fresh X0;have e5:=X4 _ _ nz e4;have nfp:p≠fo:=kE e4 X0;have e6:(Uu.set fo<|.list []) fo=some (.list []):=St.ah;generalize Uu.set fo (.list [])=Vm at X4 e5 e6 ⊢;have Xw:=X13.trans X4;have hfo0:U fo=none:=(X1.trans X13).none X0;clear X13 e4;left;rw[dz ?_,<-jX .none .int .none ac ?_,⟨_,_,rfl,e5,by show 3<=100000;decide,λl4 Vh=>?_⟩];erw[show pick [V.str<|aK r.1,.str<|aK r.2.1,.str<|bk r.2.2.1++eH E r] none (some 2) none=[r.1,r.2.1].map λx=>V.str (aK x) by rfl];have nfl:l4≠fo:=(kE e6 Vh).symm;have X5:Ext [] Vm<|Vm.set l4<|.list<|[r.1,r.2.1].map λx=>V.str<|aK x:=Ext.fresh Vh;have e7:(Vm.set l4<|.list<|[r.1,r.2.1].map λx=>V.str<|aK x) l4=_:=St.ah;have e8:=X5 _ _ nz e5;have e9:=X5 _ _ nz e6;generalize Vm.set l4 (.list<|[r.1,r.2.1].map λx=>V.str<|aK x)=YB at X5 e7 e8 e9 ⊢;rw[aV e7 ?_,gR (λx:Int=>V.str<|aK x) [r.1,r.2.1] (λdone lo τ=>lo=([("line",.str<|bf E r),("parts",.ref p),("found",.ref fo)]:Lo)/\Ext [fo] YB τ/\τ fo=some (.list<|done.map .int)) ⟨rfl,Ext.refl,e9⟩ ?_ ?_ ?_]
 ·rintro done lo τ ⟨_,X,_⟩;rw[X _ _ (λz=>nfl<|b9 z) e7]
 ·rintro done x lo τ ⟨rest,hr⟩ ⟨rfl,X,ef⟩;have hx:0<=x/\x<2^32:=by
   have:x∈[r.1,r.2.1]:=af hr<|List.mem_append_right _ List.mem_cons_self;replace this:=Js this;clear hr;rcases this with rfl|rfl
   ·rw[⟨h0,h1⟩]
   ·rw[⟨h2,h3⟩]
  have hdone:done.length<=2:=by have:=congrArg List.length hr;rw[List.length_append] at this;simp at this;lia
  left;rw[iL ?_ (by intro env e;cases env;subst e;rfl),<-cU (bV rfl ac ac) ?_,Ad (tZ x) ?_,af (vv ..) ?_,⟨by simp,?_⟩,fy (λ(j:Nat)=>V.str ⟨#[jF<|jI x j]⟩) (λj=>.int<|jI x j) (show bJ _ .free from trivial) (List.range 8) (λj hj=>?_) ?_]
  ·left;rw[<-⟨Lo.bg trivial,?_⟩,<-cC BR ?_,CJ ?_,af (vf (jI x j)<|Nat.mod_lt _ ac) ⟨St.le_refl _,rfl⟩]
  intro d hd;have e10:(τ.set d<|.list<|(List.range 8).map λj=>V.int<|jI x j) d=some (.list<|((List.range 8).map λj=>(jI x j:Int)).map .int):=af St.ah<|af List.map_map rfl;have X6:Ext [] τ<|τ.set d<|.list<|(List.range 8).map λj=>V.int<|jI x j:=Ext.fresh hd;have ef2:=X6 _ _ nz ef;generalize τ.set d (.list<|(List.range 8).map λj=>V.int<|jI x j)=Ux at X6 e10 ef2 ⊢;left;rw[E6 (by rw[Nat.succ_pos n]) e10 (by simp) λmn hm _=>?_];have hmn:¬mn<0:=by
   obtain ⟨j,_,rfl⟩:=List.mem_map.mp hm;rw[Int.not_lt.mpr<|nN<|jI x j]
  left;rw[<-az (dF hmn) ?_,<-cC (cu ef2) ?_,<-cU (bV rfl ac ac) ?_,<-cP ?_,gB ac ?_];erw[show c9 0 (Builtin.Range.rangeSize 0 8 1).toNat 1=(List.range 8).map λ(j:Nat)=>V.int j by rfl];rw[⟨by simp,?_⟩,fy (λ(j:Nat)=>V.int j) (λj=>.int<|(jI x j:Int)*16^(7-j)) (show bJ _ .free from trivial) (List.range 8) (λj hj=>?_) ?_]
  ·have hj8:=List.mem_range.mp hj;left;rw[<-⟨Lo.bg ⟨rfl,trivial⟩,?_⟩,<-aC (x:=.int<|jI x j) e10 (by rw[nN j]) (Kv hj8) (by rw[af (Int.toNat_natCast ..)<|af List.getElem?_map<|af List.getElem?_map<|af (List.getElem?_range hj8) ?_];rfl) ?_,qN (by lia) (by lia) ac ?_];have hd16:jI x j<16:=Nat.mod_lt _ ac;left;rw[bG (cF<|by rw[Nat.lt_trans hd16 ac]) ?_,af (show (7-(j:Int)).toNat=7-j by rw[Int.toNat_sub 7 j]) ⟨St.le_refl _,rfl⟩]
  intro d2 Vj;have X7:Ext [] Ux<|Ux.set d2<|.list<|(List.range 8).map λj=>V.int<|(jI x j:Int)*16^(7-j):=Ext.fresh Vj;have e11:(Ux.set d2<|.list<|(List.range 8).map λj=>V.int<|(jI x j:Int)*16^(7-j)) d2=some (.list<|((List.range 8).map λj=>(jI x j:Int)*16^(7-j)).map .int):=af St.ah<|af List.map_map rfl;have ef3:=X7 _ _ nz ef2;generalize Ux.set d2 (.list<|(List.range 8).map λj=>V.int<|(jI x j:Int)*16^(7-j))=UK at X7 e11 ef3 ⊢;left;rw[AO (by rw[Nat.succ_pos n]) e11 ?_,<-af (CC hx.1 hx.2) ?_,cy ef3 (by rw[af (cD ..) ?_];lia) ?_,⟨([("line",.str<|bf E r),("parts",.ref p),("found",.ref fo)]:Lo),_,Lo.bg ⟨rfl,rfl,rfl,trivial⟩,St.le_refl _,rfl,((X.trans<|(X6.trans X7).sub bZ).trans<|Ext.put<|List.mem_singleton.mpr rfl),?_⟩,af List.map_append St.ah]
 ·rintro lo τ ⟨rfl,X,ef⟩;have e10:=X _ _ (λz=>nfp<|b9 z) e8;left;rw[<-dz ?_,<-cP ?_];show ki _ _ (.uq 0 ((8:Nat):Int) 1) _ _;rw[iX ac (λm lo υ=>lo=([("line",.str<|bf E r),("parts",.ref p),("found",.ref fo)]:Lo)/\υ=τ) ⟨rfl,rfl⟩ ?_ ?_]
  ·clear X ef;rintro m lo υ hm ⟨rfl,rfl⟩;left;rw[<-aC e10 ac ac rfl ?_];have hms:(cg r.2.2.1 m=45\/cg r.2.2.1 m=gM m):=by unfold cg;split<;>simp
   rw[qT (by rw[nN m]) (af (aI ..)<|af (aX ..)<|J4 hm) (af (aI ..)<|af (aX ..)<|zU V0) ?_,<-af (v9 _ Vf m hm) ?_,qT (by rw[nN m]) (by show (m:Int)<8;rw[Int.ofNat_lt.mpr hm]) ac ?_,<-af (show Txt.item (Str.ofString "vrwxugad") (m:Int)=⟨#[gM m]⟩ from xS m hm) ?_,<-⟨by simp,?_⟩,ud (s:=Str.ofString "-") (by decide+kernel) (oG (fl:=0) m hm).2 (oG m hm).1 ?_];have Ud:(Str.ofString "-"==(⟨#[cg r.2.2.1 m]⟩:Str)||(⟨#[gM m]⟩:Str)==⟨#[cg r.2.2.1 m]⟩)=true:=by
    rcases hms with e|e<;>rw[af e ?_]
    ·rfl
    ·rw[af (beq_self_eq_true ..)<|af (Bool.or_true ..) rfl]
   rw[<-af Ud ?_];left;rw[⟨([("line",.str<|bf E r),("parts",.ref p),("found",.ref fo)]:Lo),_,Lo.bg ⟨rfl,rfl,rfl,trivial⟩,St.le_refl _,rfl,rfl⟩]
  ·rintro lo υ ⟨rfl,rfl⟩;left;rw[<-cU (bV rfl ac ac) ?_,<-cP ?_,gB ac ?_];erw[show c9 0 (Builtin.Range.rangeSize 0 8 1).toNat 1=(List.range 8).map λ(j:Nat)=>V.int j by rfl];rw[⟨by simp,?_⟩,kh (λ(j:Nat)=>V.int j) (λj=>(if cg r.2.2.1 j≠45 then some ((2:Int)^j) else none).map .int) (show bJ _ .free from trivial) (List.range 8) [] (λj hj=>?_) ?_]
   ·have hj8:=List.mem_range.mp hj;left;rw[⟨Lo.bg ⟨rfl,trivial⟩,?_⟩];show kI _ _ _ _ _ _ _ _;left;rw[<-aC e10 ac ac rfl ?_,qT (by rw[nN j]) (af (aI ..)<|af (aX ..)<|J4 hj8) (af (aI ..)<|af (aX ..)<|zU V0) ?_,<-af (v9 _ Vf j hj8) ?_,<-w6 (oG j hj8).1 (t:=Str.ofString "-") (by decide+kernel) ?_]
    by_cases hm:cg r.2.2.1 j=45
    ·rw[af hm ?_,az rfl ?_,⟨St.le_refl _,rfl⟩]
    ·have:((⟨#[cg r.2.2.1 j]⟩:Str)==Str.ofString "-")=false:=sF (λz=>hm (by
      have:=congrArg (λx:Str=>x.cps.toList) z;simpa [show (Str.ofString "-").cps.toList=[45] from rfl] using this))
     rw[af this ?_,<-aN rfl ?_,qN (by rw[nN j]) (by lia) ac ?_,⟨St.le_refl _,?_⟩,af (if_pos hm) rfl]
   rw[af (List.nil_append ..)<|af (Eq.symm<|List.map_filterMap) ?_];intro d hd;have X6:Ext [] υ<|υ.set d<|.list<|((List.range 8).filterMap λk=>if cg r.2.2.1 k≠45 then some ((2:Int)^k) else none).map .int:=Ext.fresh hd;have e11:(υ.set d<|.list<|((List.range 8).filterMap λk=>if cg r.2.2.1 k≠45 then some ((2:Int)^k) else none).map .int) d=_:=St.ah;have ef2:=X6 _ _ nz ef;have e12:=X6 _ _ nz e10;generalize υ.set d (.list<|((List.range 8).filterMap λk=>if cg r.2.2.1 k≠45 then some ((2:Int)^k) else none).map .int)=Ux at X6 e11 ef2 e12 ⊢;left;rw[AO (by rw[Nat.succ_pos n]) e11 ?_,<-af (zM h4) ?_,<-mh .int .none ?_,aC e12 ac ac rfl ?_,⟨_,rfl,by rw[af (aI ..)<|af (aX ..) ?_,zU V0],?_⟩,<-af (v8 _ Vf) ?_,<-ue (jR Vf).1 (jR<|.inl rfl).1 ?_,⟨by simp,λd2 Vj=>?_⟩];have n2:fo≠d2:=kE ef2 Vj;left;rw[pC ((St.ai n2).trans ef2) St.ah (by rw[af (cD ..) ?_];show 2+2<=100000;decide) λd3 Zv=>?_];have up:∀{α β:St},Ext [] α β->Ext [fo] α β:=λh=>h.sub bZ;have X7:=(((((up X1).trans<|up Xw).trans<|up X5).trans X).trans<|up X6).drop hfo0;rw[⟨_,St.le_refl _,h d3 _ ((X7.trans<|Ext.fresh Vj).none Zv) ?_<|(X7.trans<|Ext.fresh Vj).trans<|Ext.fresh Zv⟩]
   ·rw[af St.ah ?_];have:(eH E r==Str.ofString "*")=decide (r.2.2.2=4*(E:Int)*E):=by
     unfold eH
     by_cases hs:r.2.2.2=4*(E:Int)*E
     ·rw[af (if_pos hs)<|af (decide_eq_true hs)<|sT rfl]
     ·rw[af (if_neg hs)<|af (decide_eq_false hs) rfl]
    rw[af this rfl]
end
theorem iA {α:Type} [DecidableEq α]:∀{l l':List α},l.Nodup->(∀x∈l,x∈l')->l.length<=l'.length
 |[],_,_,_=>Nat.zero_le _
 |x::l,l',nd,h=>by
  rw[List.nodup_cons] at nd;have hx:=h x List.mem_cons_self;have:=iA (l:=l) (l':=l'.erase x) nd.2 λy hy=>(List.mem_erase_of_ne λz=>nd.1<|by rw[af (Eq.symm<|z) ?_,hy]).mpr<|h y<|List.mem_cons_of_mem _ hy;rw[List.length_erase_of_mem hx] at this;have:=List.length_pos_of_mem hx;rw[af List.length_cons ?_,Nat.add_le_of_le_sub this<|by assumption]
theorem fN {α:Type} [DecidableEq α] {l l':List α}(h1:l.Nodup)(h2:l'.Nodup)(h:∀x,x∈l↔x∈l'):l.length=l'.length:=
 Nat.le_antisymm (iA h1 λx hx=>(h x).mp hx) (iA h2 λx hx=>(h x).mpr hx)
theorem iT {α:Type}{l:List α}{k:Nat}{a:α}(nd:l.Nodup)(ha:l[k]?=some a)(x:α):x∈l.eraseIdx k↔x∈l/\x≠a:=by
 obtain ⟨hk,e⟩:=List.getElem?_eq_some_iff.mp ha;have e1:l=l.take k++a::l.drop (k+1):=by rw[af (Eq.symm<|e)<|af (Eq.symm<|List.drop_eq_getElem_cons hk)<|af (List.take_append_drop ..) rfl]
 rw[af (List.eraseIdx_eq_take_drop_succ ..) ?_]
 constructor
 ·intro h;rw[⟨?_,?_⟩]
  ·rw[af e1 ?_];rcases kX h with h|h
   ·rw[List.mem_append_left _ h]
   ·rw[List.mem_append_right _<|List.mem_cons_of_mem _ h]
  ·rw[e1,List.nodup_append] at nd;obtain ⟨_,n2,n3⟩:=nd;rw[List.nodup_cons] at n2;clear ha e e1;rintro rfl;rcases kX h with h|h
   ·rw[n3 x h x List.mem_cons_self rfl]
   ·rw[n2.1 h]
 ·rintro ⟨h1,h2⟩;rw[e1] at h1;rcases kX h1 with h|h
  ·rw[List.mem_append_left _ h]
  ·rcases ek h with h|h
   ·rw[absurd h h2]
   ·rw[List.mem_append_right _ h]
theorem strip_facts:∀c:Fin 1024,((c.val:Int)-Builtin.bitAnd c.val 768=(c.val:Int)%256)/\(Builtin.bitAnd (c.val:Int) 1≠0->Builtin.bitOr ((c.val:Int)%256) 1=(c.val:Int)%256)/\Builtin.bitAnd ((c.val:Int)%256) 10=Builtin.bitAnd c.val 10/\Builtin.bitAnd ((c.val:Int)%256) 6=Builtin.bitAnd c.val 6/\Builtin.bitAnd ((c.val:Int)%256) 1=Builtin.bitAnd c.val 1/\
 Builtin.bitAnd ((c.val:Int)%256) 16=Builtin.bitAnd c.val 16/\Builtin.bitAnd ((c.val:Int)%256) 8=Builtin.bitAnd c.val 8/\Builtin.bitAnd ((c.val:Int)%256) 4=Builtin.bitAnd c.val 4/\Builtin.bitAnd ((c.val:Int)%256) 2=Builtin.bitAnd c.val 2:=by decide+kernel
section
variable {e:Int}{b:Nat}
theorem wu (h0:0<=e):∃c:Fin 1024,e%1024=(c.val:Int):=⟨⟨(e%1024).toNat,by rw[(Int.toNat_lt<|Int.emod_nonneg e ac).mpr<|Int.emod_lt_of_pos e ac]⟩,by show _=((e%1024).toNat:Int);rw[My]⟩
theorem strip_eq (h0:0<=e):aQ e=e/1024*1024+e%256:=by
 unfold aQ;obtain ⟨c,hc⟩:=wu h0;rw[af (dh 10 h0 ac ac)<|af (show (2:Int)^10=1024 from rfl)<|af hc ?_];have:=(strip_facts c).1;rw[(congrArg (·-_) (Int.ediv_mul_add_emod e 1024).symm).trans ((Int.add_sub_assoc ..).trans (congrArg (e/1024*1024+·)<|af hc<|this.trans<|af hc.symm e2))]
theorem cJ (L:fR e):fR (aQ e)/\aQ e/1024=e/1024/\p6 (e%1024%256)/\Builtin.bitOr (e%1024%256) 1=e%256:=by
 right;obtain ⟨l0,l1,l2,l3,l4⟩:=L;symm;rw[af (strip_eq l0) ?_];obtain ⟨c,hc⟩:=wu l0;have low:∀m:Int,0<=m->m<1024->Builtin.bitAnd e m=Builtin.bitAnd c.val m:=λm a b=>by erw[dh 10 l0 a b,<- hc];rfl
 right;obtain ⟨f1,f2,f3,f4,f5,_⟩:=strip_facts c;have e1:e%256=(c.val:Int)%256:=by rw[e2.symm.trans (congrArg (·%256) hc)]
 rw[low 1 ac ac] at l2;rw[low 10 ac ac] at l3;rw[low 6 ac ac] at l4;have g:=f2 l2;symm;rw[af hc<|af e1 ?_];have hd:0<=e/1024/\e/1024<2^22:=MK hc l0 l1;obtain ⟨q1,q2⟩:=oM (fr:=e/1024) (c:=(c.val:Int)%256) hd.1 hd.2 (by rw[nN<|↑c%Int.natAbs 256]) (EA hc) (af f5 l2) (af f3 l3)<|af f4 l4;rw[⟨q1,q2,⟨by rw[nN<|↑c%Int.natAbs 256],EA hc,by rw[af f3 ?_,l3],by rw[af g<|af f4 ?_,l4],by rw[af g<|af f5 ?_,l2],by rw[af g ?_,nN<|↑c%Int.natAbs 256],by rw[af g ?_,EA hc],af g<|af f3 l3⟩,g⟩]
theorem gq:aQ 0=0:=by decide
theorem nM (L:fR e):aQ e≠0:=λz=>by
 obtain ⟨h,_⟩:=cJ L;rw[z] at h;rw[h.2.2.1 ac]
end
def P4 (E:Nat):Slot->Slot->Prop
 |.none,s=>s=.none
 |.leaf e,s=>s=.leaf (aQ e)
 |.tab _ g,s=>(bX E g=true/\s=.none)\/(bX E g=false/\∃y g',s=.tab y g'/\∀j,j<E->g' j=aQ (g j))
def j7 (E:Nat)(T T':Nat->Slot):Prop:=∀i,i<E->P4 E (T i) (T' i)
def RO (E:Nat):Slot->Slot->Prop
 |.none,s=>s=.none
 |.leaf e,s=>∃e',s=.leaf e'/\e'/1024=e/1024
 |.tab y g,s=>∃g',s=.tab y g'/\∀j,j<E->(g' j=0↔g j=0)/\g' j/1024=g j/1024
def Mk (E:Nat)(T T':Nat->Slot):Prop:=∀i,i<E->RO E (T i) (T' i)
theorem bR:bX E g=true↔∀j,j<E->g j=0:=by
 rw[af (propext List.all_eq_true) ?_]
 constructor
 ·intro h j hj;rw[beq_iff_eq.mp<|h j<|List.mem_range.mpr hj]
 ·intro h j hj;rw[beq_iff_eq.mpr<|h j<|List.mem_range.mp hj]
variable {B1 B2:Bd}{m1 m2:Int}{f1 f2 VH:Int->Option Int}{u1 u2 We:List Int}{T1 T2:Nat->Slot}
noncomputable def dJ:Slot->Bool
 |.tab _ _=>true
 |_=>false
def nT (E:Nat)(T:Nat->Slot):Nat:=((List.range E).filter λi=>dJ<|T i).length
noncomputable def Ot:Slot->Option Int
 |.tab a _=>some a
 |_=>none
def N9 (E:Nat)(root:Int)(T:Nat->Slot):List Int:=root::(List.range E).filterMap λi=>Ot<|T i
def P5 (E:Nat)(B1 B2:Bd)(m1 m2 r1 r2:Int)(T1 T2:Nat->Slot)(f1 f2:Int->Option Int)(u1 u2:List Int):Prop:=
 (B1=B2/\m1=m2/\f1=f2/\u1=u2/\(∀x,x∈u1↔fL E r1 T1 x\/fL E r2 T2 x)/\∀x,fL E r1 T1 x->¬fL E r2 T2 x)\/
 ((∀y∈B1.al,y∉B2.ml)/\(∀y∈B2.al,y∉B1.ml)/\(∀x,x∈u1↔fL E r1 T1 x)/\∀x,x∈u2↔fL E r2 T2 x)
structure jf (U:St)(B1 B2:Bd)(b:Nat)(m1 m2 r1 r2:Int)(T1 T2:Nat->Slot)(f1 f2:Int->Option Int)(u1 u2:List Int):Prop where
 g1:eG b m1
 g2:eG b m2
 j6:aH U B1 b m1 f1 u1
 jc:aH U B2 b m2 f2 u2
 j4:aF (2^b) m1 f1 r1 T1
 pQ:aF (2^b) m2 f2 r2 T2
 rel:P5 (2^b) B1 B2 m1 m2 r1 r2 T1 T2 f1 f2 u1 u2
inductive iH (U:St)(B1 B2:Bd)(b:Nat)(m1 m2 r1 r2:Int)(T1 T2:Nat->Slot):Prop
 |mk (f1 f2:Int->Option Int) (u1 u2:List Int) (w:jf U B1 B2 b m1 m2 r1 r2 T1 T2 f1 f2 u1 u2)
section
variable {b i:Nat}{r1 r2 x:Int}{T4:Nat->Slot}{u:List Int} 
theorem gK:x∈N9 E root T↔fL E root T x:=by
 rw[af (propext List.mem_cons)<|af (propext List.mem_filterMap) ?_]
 constructor
 ·rintro (h|⟨i,hi,h⟩)
  ·rw[.inl h]
  ·cases hT:T i with
   |tab a g=>rw[hT] at h;cases h;rw[.inr ⟨i,g,List.mem_range.mp hi,hT⟩]
   |none=>rw[hT] at h;rw[aq h]
   |leaf e=>rw[hT] at h;rw[aq h]
 ·rintro (h|⟨i,g,hi,h⟩)
  ·rw[.inl h]
  ·rw[.inr ⟨i,List.mem_range.mpr hi,af h rfl⟩]
theorem jT:(N9 E root T).length=1+nT E T:=by
 unfold N9 nT;rw[af List.length_cons<|af (Nat.add_comm ..) ?_]
 congr 1
 generalize List.range E=l
 induction l with
 |nil=>rfl
 |cons i l ih=>
  rw[af List.filterMap_cons<|af List.filter_cons ?_]
  cases hT:T i with
  |tab a g=>show (a::_).length=(if true=true then _ else _:List Nat).length;rw[af (if_pos rfl)<|af List.length_cons<|af List.length_cons<|af ih rfl]
  |none=>show (List.filterMap _ l).length=(if false=true then _ else _:List Nat).length;rw[af (if_neg<|by decide)<|af ih rfl]
  |leaf e=>show (List.filterMap _ l).length=(if false=true then _ else _:List Nat).length;rw[af (if_neg<|by decide)<|af ih rfl]
theorem gi (S:aF E m0 f root T):(N9 E root T).Nodup:=by
 rw[af (propext List.nodup_cons) ?_,⟨λh=>?_,?_⟩]
 ·obtain ⟨i,hi,h⟩:=List.mem_filterMap.mp h
  cases hT:T i with
  |tab a g=>rw[hT] at h;cases h;rw[(S.tab i _ g (List.mem_range.mp hi) hT).2.1 rfl]
  |none=>rw[hT] at h;rw[aq h]
  |leaf e=>rw[hT] at h;rw[aq h]
 ·show List.Pairwise _ _;rw[af (propext List.pairwise_filterMap) ?_,List.Pairwise.imp_of_mem ?_<|List.nodup_range (n:=E)];intro i j hi hj SK a ha a' TU z;subst z
  cases hT:T i with
  |none=>rw[hT] at ha;rw[aq ha]
  |leaf e=>rw[hT] at ha;rw[aq ha]
  |tab y g=>
   cases Tn:T j with
   |none=>rw[Tn] at TU;rw[aq TU]
   |leaf e=>rw[Tn] at TU;rw[aq TU]
   |tab y' g'=>
    rw[hT] at ha;rw[Tn] at TU
    cases ha;cases TU
    rw[SK<|S.inj i j _ _ _ (List.mem_range.mp hi) (List.mem_range.mp hj) hT Tn]
theorem jf.swap (h:jf U B1 B2 b m1 m2 r1 r2 T1 T2 f1 f2 u1 u2):jf U B2 B1 b m2 m1 r2 r1 T2 T1 f2 f1 u2 u1:=by
 rw[⟨h.g2,h.g1,h.jc,h.j6,h.pQ,h.j4,?_⟩];rcases h.rel with ⟨a1,a2,a3,a4,a5,a6⟩|⟨a1,a2,a3,a4⟩
 ·rw[.inl ⟨a1.symm,a2.symm,a3.symm,a4.symm,λx=>by rw[af (Eq.symm<|a4)<|af (propext<|a5 ..) ?_,Or.comm],λx hx hy=>a6 x hy hx⟩]
 ·rw[.inr ⟨a2,a1,a4,a3⟩]
theorem iH.swap (h:iH U B1 B2 b m1 m2 r1 r2 T1 T2):iH U B2 B1 b m2 m1 r2 r1 T2 T1:=let ⟨_,_,_,_,h⟩:=h;⟨_,_,_,_,h.swap⟩
theorem jf.ER (h:jf U B1 B2 b m1 m2 r1 r2 T1 T2 f1 f2 u1 u2):∀a,fL (2^b) r2 T2 a->a∈u2:=λa ha=>by
 rcases h.rel with ⟨a1,a2,a3,a4,a5,a6⟩|⟨a1,a2,a3,a4⟩
 ·rw[af (Eq.symm<|a4)<|(a5 a).mpr<|.inr ha]
 ·rw[(a4 a).mpr ha]
theorem iH.ext (h:iH U B1 B2 b m1 m2 r1 r2 T1 T2)(x:Ext xs U σ')(hs:∀y∈xs,y∉B1.al/\y∉B2.al):iH σ' B1 B2 b m1 m2 r1 r2 T1 T2:=by
 obtain ⟨f1,f2,u1,u2,h⟩:=h;rw[⟨f1,f2,u1,u2,h.g1,h.g2,h.j6.ext x λy hy=>(hs y hy).1,h.jc.ext x λy hy=>(hs y hy).2,h.j4,h.pQ,h.rel⟩]
theorem jf.yQ (h:jf U B1 B2 b m1 m2 r1 r2 T1 T2 f1 f2 u1 u2)(t:lI B2 b m2 f2 u2 r2 T2 U σ' VH We T4)(hu:∀x,x∈We↔(x∈u2/\¬fL (2^b) r2 T2 x)\/fL (2^b) r2 T4 x)
 (hd:∀x,fL (2^b) r2 T4 x->fL (2^b) r2 T2 x\/x∉u2):∃V9 Xc,jf σ' B1 B2 b m1 m2 r1 r2 T1 T4 V9 VH Xc We:=by
 obtain ⟨g1,g2,j6,jc,j4,pQ,rel⟩:=h;rcases rel with ⟨a1,a2,a3,a4,a5,a6⟩|⟨a1,a2,a3,a4⟩
 ·subst a1;subst a2;clear pQ;subst a3;clear jc;subst a4;rw[⟨VH,We,g1,g2,t.bd,t.bd,j4.frame λa ha j hj=>t.rest a ((a5 a).mpr<|.inl ha) (j4.pg ha) (a6 a ha) j hj,t.sp,.inl ⟨rfl,rfl,rfl,rfl,λx=>?_,λx hx hy=>?_⟩⟩]
  ·rw[af (propext<|hu ..)<|af (propext<|a5 ..) ?_]
   constructor
   ·rintro (⟨z|z,w⟩|z)
    ·rw[.inl z]
    ·rw[absurd z w]
    ·rw[.inr z]
   ·rintro (z|z)
    ·rw[.inl ⟨.inl z,a6 x z⟩]
    ·rw[.inr z]
  ·rcases hd x hy with z|z
   ·rw[a6 x hx z]
   ·rw[z<|(a5 x).mpr<|.inl hx]
 ·rw[⟨f1,u1,g1,g2,j6.ext t.ext λy hy z=>a1 y z hy,t.bd,j4,t.sp,.inr ⟨a1,a2,a3,λx=>?_⟩⟩,af (propext<|hu ..)<|af (propext<|a4 ..) ?_]
  constructor
  ·rintro (⟨z,w⟩|z)
   ·rw[absurd z w]
   ·rw[z]
  ·rw[.inr]
theorem jf.AI (h:jf U B1 B2 b m1 m2 r1 r2 T1 T2 f1 f2 u1 u2):(B1=B2/\u2.length=(1+nT (2^b) T1)+(1+nT (2^b) T2))\/(B1≠B2/\u2.length=1+nT (2^b) T2):=by
 have nd2:=h.jc.iO.1;rcases h.rel with ⟨a1,a2,a3,a4,a5,a6⟩|⟨a1,a2,a3,a4⟩
 ·rw[.inl ⟨a1,?_⟩,af (Eq.symm<|jT (root:=r1))<|af (Eq.symm<|jT (root:=r2))<|af (Eq.symm<|List.length_append) ?_,fN nd2 ?_ λx=>by erw[List.mem_append,gK,gK,<- a5,a4]]
  rw[af (propext List.nodup_append) ?_,⟨gi h.j4,gi h.pQ,λx hx y hy z=>?_⟩];subst z;rw[a6 x (gK.mp hx)<|gK.mp hy]
 ·rw[.inr ⟨λz=>?_,?_⟩]
  ·clear h a2;subst z;rw[a1 B1.words (by rw[gA B1.lay<|gA B1.mem<|List.Mem.head [B1.pool,B1.rF,B1.qz,B1.tab]])<|by rw[List.Mem.head [B1.pool,B1.rF,B1.qz]]]
  ·rw[af (Eq.symm<|jT (root:=r2))<|fN nd2 (gi h.pQ) λx=>by erw[gK,a4]]
theorem Jp {i:Nat}(h:∀i,i<E->dJ (T' i)=true->dJ (T i)=true)(hi:i<E)(h1:dJ (T i)=true)(h2:dJ (T' i)=false):nT E T'<nT E T:=by
 have:=iA (l:=i::(List.range E).filter λi=>dJ<|T' i) (l':=(List.range E).filter λi=>dJ<|T i) (by
  rw[af (propext List.nodup_cons) ?_,⟨λz=>?_,List.nodup_range.filter _⟩];rw[List.mem_filter,h2] at z;cases z.2) (by
  intro j hj;rw[af (propext List.mem_filter) ?_];rcases ek hj with z|z
  ·clear h2 hj;subst z;rw[⟨List.mem_range.mpr hi,h1⟩]
  ·rw[List.mem_filter] at z;rw[⟨z.1,h j (List.mem_range.mp z.1) z.2⟩])
 rw[List.length_cons] at this;rw[this]
end
variable {g':Nat->Int}
def Fz (E i:Nat)(SH:List It):Slot->Slot->Prop
 |.none,s=>s=.none
 |.leaf e,s=>((i,none,e)∈SH->s=.none)/\((i,none,e)∉SH->s=.leaf (aQ e))
 |.tab _ g,s=>(s=.none/\∀j,j<E->g j≠0->(i,some j,g j)∈SH)\/
   (∃y g',s=.tab y g'/\(∃j,j<E/\g j≠0)/\∀j,j<E->(g j=0\/(i,some j,g j)∈SH->g' j=0)/\(g j≠0->(i,some j,g j)∉SH->g' j=aQ (g j)))
def Rb (E:Nat)(T1 T2:Nat->Slot)(SH:List It):Prop:=∀i,i<E->Fz E i SH (T1 i) (T2 i)
section
variable {i j b:Nat}{SH TV:List It}{s s':Slot}{e:Int}{t:It}{x:Int}
theorem Rb.start:Rb E T1 (λ_=>.none)<|items E T1 E:=λi hi=>by
 cases hT:T1 i with
 |none=>rw[rfl]
 |leaf e=>rw[⟨λ_=>rfl,λz=>absurd (bQ.mpr ⟨hi,show Bk E T1 (i,none,e) from hT⟩) z⟩]
 |tab a g=>rw[.inl ⟨rfl,λj hj hg=>bQ.mpr ⟨hi,hj,a,g,hT,rfl,hg⟩⟩]
theorem Rb.fin (h:Rb E T1 T2 []):j7 E T1 T2:=λi hi=>by
 have hh:=h i hi
 cases hT:T1 i with
 |none=>rw[hT] at hh;rw[hh]
 |leaf e=>rw[hT] at hh;rw[hh.2 nz]
 |tab a g=>
  rw[hT] at hh;rcases hh with ⟨h1,h2⟩|⟨y,g',h1,⟨j,hj,hg⟩,h3⟩
  ·rw[.inl ⟨bR.mpr λj hj=>?_,h1⟩]
   by_cases hg:g j=0
   ·rw[hg]
   ·rw[absurd (h2 j hj hg) nz]
  ·rw[.inr ⟨?_,y,g',h1,λj hj=>?_⟩]
   ·cases q:bX E g with
    |false=>rfl
    |true=>rw[absurd (bR.mp q j hj) hg]
   ·by_cases hg:g j=0
    ·erw[(h3 j hj).1 (.inl hg),hg];rw[gq.symm]
    ·rw[(h3 j hj).2 hg nz]
theorem Fz.other (hr:∀o e,(i,o,e)∈SH↔(i,o,e)∈TV)(h:Fz E i SH s s'):Fz E i TV s s':=by
 cases s with
 |none=>rw[h]
 |leaf e=>rw[⟨λz=>h.1<|(hr _ _).mpr z,λz=>h.2 λw=>z<|(hr _ _).mp w⟩]
 |tab a g=>
  rcases h with ⟨h1,h2⟩|⟨y,g',h1,h2,h3⟩
  ·rw[.inl ⟨h1,λj hj hg=>(hr _ _).mp<|h2 j hj hg⟩]
  ·rw[.inr ⟨y,g',h1,h2,λj hj=>⟨λz=>(h3 j hj).1 (z.imp id (hr _ _).mpr),λa z=>(h3 j hj).2 a λw=>z<|(hr _ _).mp w⟩⟩]
theorem Rb.step (h:Rb E T1 T2 SH)(hr:∀x,x∈TV↔x∈SH/\x≠t)(hs:Fz E t.1 TV (T1 t.1) s):Rb E T1 (upd T2 t.1 s) TV:=λi hi=>by
 by_cases z:i=t.1
 ·clear hi;subst z;rw[af aB hs]
 ·rw[af (aJ z) ?_,(h i hi).other λo e=>by exact af (propext<|hr ..) ⟨λw=>⟨w,λv=>z<|by rw[af (Eq.symm<|v) rfl]⟩,And.left⟩]
theorem Rb.leaf (h:Rb E T1 T2 SH)(hr:∀x,x∈TV↔x∈SH/\x≠(i,none,e))(hT:T1 i=.leaf e):Rb E T1 (upd T2 i<|.leaf<|aQ e) TV:=
 h.step (t:=(i,none,e)) hr (by show Fz E i TV (T1 i) _;rw[af hT ⟨λz=>absurd rfl ((hr _).mp z).2,λ_=>rfl⟩])
theorem Rb.none (h:Rb E T1 T2 SH)(hi:i<E)(hm:(i,Option.none,e)∈SH)(hT:T1 i=.leaf e):T2 i=.none:=by
 have:=h i hi;rw[hT] at this;rw[this.1 hm]
theorem Rb.DT (h:Rb E T1 T2 SH)(hr:∀x,x∈TV↔x∈SH/\x≠(i,some j,e))(hi:i<E)(hj:j<E)(hT:T1 i=.tab y g)(hg:g j=e)(he:e≠0)(h2:T2 i=.none)(y':Int):Rb E T1 (upd T2 i<|.tab y'<|upd (λ_=>0) j<|aQ e) TV:=
 h.step (t:=(i,some j,e)) hr (by
  have hh:=h i hi;rw[hT] at hh ⊢;rcases hh with ⟨_,h3⟩|⟨y',g',h1,_,_⟩
  ·rw[.inr ⟨y',_,rfl,⟨j,hj,af hg he⟩,λl hl=>⟨λz=>?_,λz w=>?_⟩⟩]
   ·rw[aJ λq=>?_];clear hj;subst q;rcases z with z|z
    ·rw[hg] at z;rw[he z]
    ·rw[((hr _).mp z).2 (by rw[af hg rfl])]
   ·by_cases q:l=j
    ·clear hr hj w;subst q;rw[af aB<|af hg rfl]
    ·rw[absurd ((hr _).mpr ⟨h3 l hl z,λv=>q (by clear hr hg he hl z w q;cases v;rfl)⟩) w]
  ·rw[h2] at h1;rw[bU Slot.ctorIdx h1 rfl])
theorem Rb.DS (h:Rb E T1 T2 SH)(hr:∀x,x∈TV↔x∈SH/\x≠(i,some j,e))(hi:i<E)(hj:j<E)(hT:T1 i=.tab y g)(hg:g j=e)(he:e≠0){y':Int}(h2:T2 i=.tab y' g'):Rb E T1 (upd T2 i<|.tab y'<|upd g' j<|aQ e) TV:=
 h.step (t:=(i,some j,e)) hr (by
  have hh:=h i hi;rw[hT] at hh ⊢;rcases hh with ⟨h1,_⟩|⟨y'',g'',h1,h3,h4⟩
  ·rw[h2] at h1;rw[bU Slot.ctorIdx h1 rfl]
  ·right;rw[h2] at h1;cases h1;symm;rw[.inr ⟨y',_,rfl,h3,λl hl=>⟨λz=>?_,λz w=>?_⟩⟩]
   ·have q:l≠j:=λq=>by
     clear hj;subst q;rcases z with z|z
     ·rw[hg] at z;rw[he z]
     ·rw[((hr _).mp z).2 (by rw[af hg rfl])]
    rw[af (aJ q)<|(h4 l hl).1 (z.imp id λv=>((hr _).mp v).1)]
   ·by_cases q:l=j
    ·clear hr hj w;subst q;rw[af aB<|af hg rfl]
    ·rw[af (aJ q) ?_,(h4 l hl).2 z λv=>w<|(hr _).mpr ⟨v,λv=>q (by clear hr hg he hl z w q;cases v;rfl)⟩])
theorem Rb.at_ (h:Rb E T1 T2 SH)(hi:i<E)(hj:j<E)(hT:T1 i=.tab y g)(hg:g j≠0)(hm:(i,some j,g j)∈SH):(T2 i=.none\/∃y' g',T2 i=.tab y' g'/\g' j=0)/\entryAt T2 i j=0:=by
 have hh:=h i hi;rw[hT] at hh;rcases hh with ⟨h1,_⟩|⟨y',g',h1,_,h4⟩
 ·rw[⟨.inl h1,cV h1⟩]
 ·have:=(h4 j hj).1 (.inr hm);rw[⟨.inr ⟨y',g',h1,this⟩,af (ck h1) this⟩]
theorem Rb.tabs (h:Rb E T1 T2 SH):∀i,i<E->dJ (T2 i)=true->dJ (T1 i)=true:=λi hi ht=>by
 have hh:=h i hi
 cases hT:T1 i with
 |none=>rw[hT] at hh;rw[show T2 i=.none from hh] at ht;rw[aA ht]
 |leaf e=>
  rw[hT] at hh
  by_cases q:(i,Option.none,e)∈SH
  ·rw[hh.1 q] at ht;rw[aA ht]
  ·rw[hh.2 q] at ht;rw[aA ht]
 |tab a g=>rfl
structure N7 (E i j:Nat)(x:Int):Prop where
 d:x/(4*E)=(i:Int)*E+j
 i:cI E x=i
 j:cM E x=j
 m:x%(4*E)=0
 p:0<=x
 l:x<4*E*E*E
theorem k8 (hE:0<E)(hi:i<E)(hj:j<E)(hx:x=((i:Int)*E+(j:Int))*(4*E)):N7 E i j x:=by
 subst hx;have e0:(((i:Int)*E+(j:Int))*(4*E))/(4*E)=(i:Int)*E+j:=Int.mul_ediv_cancel _ (by rw[Int.ne_of_gt<|zW hE]);have e1:((i:Int)*E+j)/E=i:=by
  rw[af (Int.add_comm ..)<|af (Int.add_mul_ediv_right _ _<|zR hE)<|af (Int.ediv_eq_zero_of_lt (by rw[nN j])<|by rw[Int.ofNat_lt.mpr hj])<|af (Int.zero_add ..) rfl]
 have e2:((i:Int)*E+j)%E=j:=by
  rw[af (Int.add_comm ..)<|af (Int.add_mul_emod_self_right ..)<|Int.emod_eq_of_lt (by rw[nN j])<|by rw[Int.ofNat_lt.mpr hj]]
 have h3:(i:Int)*E+j+1<=E*E:=by
  have:((i:Int)+1)*E<=E*E:=Int.mul_le_mul_of_nonneg_right (by rw[Int.ofNat_lt.mpr hi]) (by rw[nN E]);rw[Int.add_mul] at this;rw[LL this hj]
 have h4:0<=(i:Int)*E:=Int.mul_nonneg (by rw[nN i]) (by rw[nN E]);rw[⟨e0,?_,?_,Int.mul_emod_left _ _,Int.mul_nonneg (by rw[nN<|i*E+j])<|by rw[nN<|4*E],?_⟩]
 ·unfold cI;rw[af e0<|af e1 rfl]
 ·unfold cM;rw[af e0<|af e2 rfl]
 ·have h5:=Int.mul_lt_mul_of_pos_right (show (i:Int)*E+j<E*E by rw[h3]) (show (0:Int)<4*E by rw[zW hE]);erw[show (4:Int)*E*E*E=E*E*(4*E) by erw[Int.mul_comm (E*E:Int)<|4*E,Int.mul_assoc,Int.mul_assoc]];rw[h5]
theorem zv (L:fR e):lM b<|e/1024*(4*((2^b:Nat):Int)):=by
 have hd:0<=e/1024/\e/1024<2^22:=by have:=L.1;have:=L.2.1;rw[⟨Int.ediv_nonneg L.1 ac,Int.ediv_lt_of_lt_mul ac L.2.1⟩]
 have hp:0<2^b:=Nat.pow_pos ac;rw[⟨Int.mul_nonneg hd.1<|by rw[nN<|4*2^b],Int.mul_lt_mul_of_pos_right hd.2<|Ew hp⟩]
theorem oF (L:fR e):we (2^b) (e/1024*(4*((2^b:Nat):Int))) (e%1024%256)=aQ e:=by
 have hp:0<2^b:=Nat.pow_pos ac;unfold we;erw[Int.mul_ediv_cancel _<|by lia,(cJ L).2.2.2,strip_eq L.1]
end
variable {l:Addr}{pt:List<|Addr×It}{ts:List Expr}{i:Nat}
section
variable {zs:List Addr}{m b:Nat}{r1 r2 x:Int}{T4:Nat->Slot}{s:Slot}
theorem n6 (hT:T i=.tab y g):fL E root (upd T i<|.tab y g') x↔fL E root T x:=by
 constructor
 ·rintro (h|⟨j,g2,hj,h⟩)
  ·rw[.inl h]
  ·by_cases z:j=i
   ·subst z;rw[aB] at h;cases h;rw[.inr ⟨j,g,hj,hT⟩]
   ·rw[aJ z] at h;rw[.inr ⟨j,g2,hj,h⟩]
 ·rintro (h|⟨j,g2,hj,h⟩)
  ·rw[.inl h]
  ·by_cases z:j=i
   ·subst z;rw[hT] at h;clear hT;cases h;rw[.inr ⟨j,g',hj,aB⟩]
   ·rw[.inr ⟨j,g2,hj,af (aJ z) h⟩]
theorem q8 (hT:gz<|T i)(hs:gz s):fL E root (upd T i s) x↔fL E root T x:=by
 constructor
 ·rintro (h|⟨j,g2,hj,h⟩)
  ·rw[.inl h]
  ·by_cases z:j=i
   ·clear hT;subst z;rw[aB] at h;subst h;rw[hs.elim]
   ·rw[aJ z] at h;rw[.inr ⟨j,g2,hj,h⟩]
 ·rintro (h|⟨j,g2,hj,h⟩)
  ·rw[.inl h]
  ·by_cases z:j=i
   ·subst z;rw[h] at hT;rw[hT.elim]
   ·rw[.inr ⟨j,g2,hj,af (aJ z) h⟩]
theorem vX (hi:i<E)(hT:gz<|T i):fL E root (upd T i<|.tab y g') x↔fL E root T x\/x=y:=by
 constructor
 ·rintro (h|⟨j,g2,hj,h⟩)
  ·rw[.inl<|.inl h]
  ·by_cases z:j=i
   ·clear hi hT;subst z;rw[aB] at h;cases h;rw[.inr rfl]
   ·rw[aJ z] at h;rw[.inl<|.inr ⟨j,g2,hj,h⟩]
 ·rintro ((h|⟨j,g2,hj,h⟩)|h)
  ·rw[.inl h]
  ·by_cases z:j=i
   ·clear hi;subst z;rw[h] at hT;rw[hT.elim]
   ·rw[.inr ⟨j,g2,hj,af (aJ z) h⟩]
  ·subst h;rw[.inr ⟨i,g',hi,aB⟩]
theorem jf.vO (h:jf U B1 B2 b m1 m2 r1 r2 T1 T2 f1 f2 u1 u2)(t:lI B2 b m2 f2 u2 r2 T2 U σ' VH u2 T4)(hp:∀x,fL (2^b) r2 T4 x↔fL (2^b) r2 T2 x):iH σ' B1 B2 b m1 m2 r1 r2 T1 T4:=by
 right;obtain ⟨V9,Xc,w⟩:=h.yQ t (λx=>by
  rw[af (propext<|hp ..) ?_]
  constructor
  ·intro z
   by_cases w:fL (2^b) r2 T2 x
   ·rw[.inr w]
   ·rw[.inl ⟨z,w⟩]
  ·rintro (z|z)
   ·rw[z.1]
   ·rw[h.ER x z]) λx hx=>.inl<|(hp x).mp hx
 symm;rw[⟨_,_,_,_,w⟩]
theorem jf.FG (h:jf U B1 B2 b m1 m2 r1 r2 T1 T2 f1 f2 u1 u2)(hy:y∉u2)(t:lI B2 b m2 f2 u2 r2 T2 U σ' VH (y::u2) T4)(hp:∀x,fL (2^b) r2 T4 x↔fL (2^b) r2 T2 x\/x=y):iH σ' B1 B2 b m1 m2 r1 r2 T1 T4:=by
 obtain ⟨V9,Xc,w⟩:=h.yQ t (λx=>by
  rw[af (propext<|hp ..)<|af (propext List.mem_cons) ?_]
  constructor
  ·rintro (z|z)
   ·rw[.inr<|.inr z]
   ·by_cases w:fL (2^b) r2 T2 x
    ·rw[.inr<|.inl w]
    ·rw[.inl ⟨z,w⟩]
  ·rintro (z|z|z)
   ·rw[.inr z.1]
   ·rw[.inr<|h.ER x z]
   ·rw[.inl z]) λx hx=>by
   rcases (hp x).mp hx with z|z
   ·rw[.inl z]
   ·clear t hp;subst z;rw[.inr hy]
 rw[⟨_,_,_,_,w⟩]
theorem CS {kl:Lo->St->Prop}{pos:Pos}{kk:Nat}{vs:List V}(ha:U a=some (.list vs))(hl:(vs.length==ts.length&&ts.all isNm)=true)(hn:0<n)(h:iF D n sc ts vs lo U kl US):fF D n sc (.Tuple ts kk pos) (.ref a) lo U kl US:=by
 obtain ⟨h1,h2⟩:=Bool.and_eq_true_iff.mp hl;rw[mz (.inr ⟨a,rfl,ha⟩) (beq_iff_eq.mp h1) h (λenv t ht r=>?_) hn];have:=List.all_eq_true.mp h2 t ht;clear ht;cases t<;>first|rfl|exact aA this
theorem aO (hz:∀y∈zs,U y≠none)(X:Ext xs U σ')(hx:∀y∈xs,y∈zs->σ' y≠none):∀y∈zs,σ' y≠none:=λy hy=>by
 by_cases h:y∈xs
 ·rw[hx y h hy]
 ·cases hs:U y with
  |none=>rw[absurd hs<|hz y hy]
  |some o=>erw[X y o h hs];rw[λz=>nomatch z]
theorem lX (H:aH U B b m0 f u1):∀y∈B.ml,U y≠none:=λy hy=>by
 obtain ⟨_,⟨_,h3⟩,⟨u,gv,hf,⟨⟨d4,h4⟩,h5,h6⟩,ok⟩,_,_⟩:=H;replace hy:=zI hy;rcases hy with z|z|z|z<;>subst z
 ·rw[af h3 λz=>nomatch z]
 ·rw[af h4 λz=>nomatch z]
 ·rw[af h5 λz=>nomatch z]
 ·rw[af h6 λz=>nomatch z]
theorem aU.pT (h:aU U RW zs m):RW∉zs:=by obtain ⟨_,_,_,_,_,_,N,_⟩:=h;rw[N.z]
theorem iH.E3 (D:iH U B1 B2 b m1 m2 r1 r2 T1 T2):∀y∈B2.ml,U y≠none:=by obtain ⟨_,_,_,_,D⟩:=D;rw[lX D.jc]
def dI (E:Nat)(p:Addr×It):Addr×Ln:=(p.1,uS E<|gP E p.2)
inductive Q0 (B1 B2:Bd)(b m:Nat)(m1 m2 r1 r2:Int)(T1:Nat->Slot)(ls RW rl:Addr)(zs:List Addr)(Sx:St)(pt:List<|Addr×It)(t:Nat)(lo:Lo)(τ:St):Prop
 |mk (e:lo=([("box",.ref RW),("table",.ref B2.tab),("far",.int r2),("lines",.ref ls),("rest",.ref rl)]:Lo)) (SH:List (Addr×It)) (T2:Nat->Slot) (h1:SH.length+t=pt.length) (h2:(SH.map (·.2)).Nodup) (h3:∀p∈SH,p∈pt) (h5:Rb (2^b) T1 T2 (SH.map (·.2))) (h6:iH τ B1 B2 b m1 m2 r1 r2 T1 T2) (h7:aU τ RW (rl::zs) (m+t)) (h8:τ rl=some (.list (SH.map λp=>.ref p.1))) (X:Ext (rl::RW::B2.ml) Sx τ)
theorem uE (hb:aU U RW zs m)(hz:∀y∈zs,U y≠none)(hm:m<2^39)(D:iH U B1 B2 b m1 m2 r1 r2 T1 λ_=>.none)(L:gW U ls<|pt.map<|dI<|2^b)(hp:pt.map (·.2)=items (2^b) T1 (2^b))(nd:(items (2^b) T1<|2^b).Nodup)(h4:nT (2^b) T1<=4)
 (hB:∀y∈B2.ml,y∈zs) (nb:RW∉B1.al/\RW∉B2.al) (nl:∀p∈pt,p.1∉B2.ml/\p.1≠RW)
 (h:∀σ' T2,j7 (2^b) T1 T2->iH σ' B1 B2 b m1 m2 r1 r2 T1 T2->aU σ' RW zs (m+1024)->Ext (RW::B2.ml) U σ'->k (.bool true) σ'):ay (Dd q) (n+7) (.ref 902) [.ref RW,.ref B2.tab,.int r2,.ref ls] U k ke:=by
 have hE:=(let ⟨_,_,_,_,D⟩:=D;D.g2.e:4<=2^b/\2^b<=32);have Sd:pt.length<=1024:=by
  have h1:=lZ (T:=T1) (m:=2^b) (show 0<2^b by rw[eO hE]);have h2:2^b*2^b<=32*32:=Nat.mul_le_mul hE.2 hE.2;have h3:=congrArg List.length hp;rw[cD] at h3;rw[Nat.le_trans (Nat.le_of_eq h3)<|Nat.le_trans h1 h2]
 rw[<-fp ["box","table","far","lines"] rfl rfl (λ_=>rfl) ?_,CI L.it (af (cD ..)<|af (cD ..)<|zS Sd) λrl VO=>?_,af List.map_map ?_];have X1:Ext [] U<|U.set rl<|.list<|pt.map<|(λp=>V.ref p.1) ∘ dI (2^b):=Ext.fresh VO;have e1:(U.set rl<|.list<|pt.map<|(λp=>V.ref p.1) ∘ dI (2^b)) rl=some (.list<|pt.map λp=>.ref p.1):=af St.ah rfl;have Tt:=hb.grow (o:=.list<|pt.map<|(λp=>V.ref p.1) ∘ dI (2^b)) VO;have D1:=D.ext X1 bZ;have L1:=L.ext X1 nz λp _ z=>nomatch z;have hz1:∀y∈rl::zs,(U.set rl<|.list<|pt.map<|(λp=>V.ref p.1) ∘ dI (2^b)) y≠none:=λy hy=>by
  rcases ek hy with z|z
  ·clear VO X1 e1 Tt D1 L1 hy;subst z;rw[af St.ah λz=>nomatch z]
  ·cases hs:U y with
   |none=>rw[absurd hs<|hz y z]
   |some o=>erw[X1 y o (λz=>nomatch z) hs];rw[λz=>nomatch z]
 have nrl:rl∉B1.al/\rl∉B2.al:=by
  obtain ⟨_,_,_,_,D⟩:=D;rw[⟨λw=>?_,λw=>?_⟩]
  ·have hn:=D.j6.om VO;replace w:=nc w;rw[hn _ w rfl]
  ·have hn:=D.jc.om VO;replace w:=nc w;rw[hn _ w rfl]
 have nrp:∀p∈pt,p.1≠rl:=λp hp z=>by
  have:=L.each _<|List.mem_map_of_mem (f:=dI<|2^b) hp;rw[show (dI (2^b) p).1=p.1 from rfl,z,VO] at this;rw[aq this]
 have nrb:RW≠rl:=λz=>by
  obtain ⟨_,_,_,_,_,w,_⟩:=hb;rw[<- z,w.it] at VO;rw[gu VO]
 generalize U.set rl (.list<|pt.map<|(λp=>V.ref p.1) ∘ dI (2^b))=Sx at X1 e1 Tt D1 L1 hz1 ⊢;left;rw[<-dz ?_,eg L1.it (af (cD ..)<|af (cD ..)<|zS Sd) ?_,<-af (cD ..)<|af (cD ..) ?_,<-cP ?_];refine iX (by lia) (Q0 B1 B2 b m m1 m2 r1 r2 T1 ls RW rl zs Sx pt)
  ⟨rfl,pt,_,rfl,by rw[af hp ?_,nd],λ_ z=>z,by rw[af hp ?_,Rb.start],D1,Tt,e1,Ext.refl⟩ ?_ ?_
 ·rintro t lo τ ht ⟨rfl,SH,T2,h1,h2,h3,h5,h6,h7,h8,X⟩;have UL:∀y∈rl::zs,τ y≠none:=aO hz1 X λy hy SE=>by
   rcases ek hy with z|z
   ·clear VO nrl nrp nrb e1 Tt hz1 h7 X hy SE;subst z;rw[af h8 λz=>nomatch z]
   ·rcases ek z with z|z
    ·clear hb nb nl h nrb Tt X hy;subst z;rw[absurd SE h7.pT]
    ·rw[h6.E3 y z]
  left;rw[<-cC (zJ h8) ?_,eg h8 (af (cD ..)<|JW h1 Sd) ?_,<-af (cD ..) ?_,(cA (many:=(SH.length:Int)) h7 UL (LF hm ht Sd) (Lx h1 ht) (Lw h1 Sd) λi UK i0 i1 ZC Y=>?_).call];obtain ⟨i,rfl⟩:=Int.eq_ofNat_of_zero_le i0;have hi:i<SH.length:=by rw[Int.ofNat_lt.mp i1]
  have e2:=Y _ _ (λz=>nrb (b9 z).symm) h8;have D2:=h6.ext Y (λy hy=>by rw[af (b9 hy) nb]);have hpm:SH[i]?=some SH[i]:=List.getElem?_eq_getElem hi;have hpt:=h3 _<|List.getElem_mem hi;generalize SH[i]=p at hpm hpt;left;rw[AP e2 (af (cD ..)<|JW h1 Sd) (by omega) (by rw[af (Int.toNat_natCast ..)<|af List.getElem?_map<|af hpm ?_];rfl) ?_,af (Int.toNat_natCast ..)<|af (dY ..) ?_];have rr:∀x,x∈(SH.eraseIdx i).map (·.2)↔x∈SH.map (·.2)/\x≠p.2:=by
   rw[af (Eq.symm<|dY ..) ?_,iT h2 (by rw[af List.getElem?_map<|af hpm ?_];rfl)]
  have rnd:((SH.eraseIdx i).map (·.2)).Nodup:=af (Eq.symm<|dY ..)<|h2.sublist<|List.eraseIdx_sublist _ _;have rsub:∀x∈SH.eraseIdx i,x∈pt:=λx hx=>h3 x<|List.mem_of_mem_eraseIdx hx;have rlen:(SH.eraseIdx i).length+(t+1)=pt.length:=af (List.length_eraseIdx_of_lt hi)<|MX h1 ht;have e3:(UK.set rl<|.list<|(SH.eraseIdx i).map λp=>.ref p.1) rl=some (.list<|(SH.eraseIdx i).map λp=>.ref p.1):=St.ah;have Z:Ext [rl] UK<|UK.set rl<|.list<|(SH.eraseIdx i).map λp=>.ref p.1:=Ext.put<|List.mem_singleton.mpr rfl;have D3:=D2.ext Z (λy hy=>by rw[af (b9 hy) nrl]);have TR:=ZC.ext Z (λy hy=>by rw[af (b9 hy) List.mem_cons_self]);have X3:Ext (rl::RW::B2.ml) Sx<|UK.set rl<|.list<|(SH.eraseIdx i).map λp=>.ref p.1:=(X.trans<|Y.sub λy hy=>by rw[af (b9 hy)<|gA rl<|List.Mem.head B2.ml]).trans (Z.sub λy hy=>by rw[af (b9 hy)<|List.Mem.head<|RW::B2.ml]);have Tj:(UK.set rl<|.list<|(SH.eraseIdx i).map λp=>.ref p.1) p.1=some (.list<|Fx<|uS (2^b)<|gP (2^b) p.2):=by
   rw[X3 _ _ (λz=>?_)<|L1.each _<|List.mem_map_of_mem (f:=dI<|2^b) hpt];rcases ek z with z|z
   ·rw[nrp p hpt z]
   ·rcases ek z with z|z
    ·rw[(nl p hpt).2 z]
    ·rw[(nl p hpt).1 z]
  generalize UK.set rl (.list<|(SH.eraseIdx i).map λp=>.ref p.1)=VK at e3 Z D3 TR X3 Tj ⊢;clear e2 D2 Z Y ZC h8 X;left;rw[CS Tj rfl (by rw[Nat.succ_pos _]) ?_];obtain ⟨f1,f2,u1,u2,W⟩:=D3;obtain ⟨dt,UM⟩:=W.jc.tab;have V3:p.2∈items (2^b) T1 (2^b):=hp▸List.mem_map_of_mem (f:=(·.2)) hpt;have hrem:p.2∈SH.map (·.2):=by obtain ⟨hh,V5⟩:=List.getElem?_eq_some_iff.mp hpm;rw[af (Eq.symm<|V5)<|List.mem_map_of_mem<|List.getElem_mem hh]
  obtain ⟨Su,c,o,e⟩:=p;obtain ⟨q1,q2⟩:=bQ.mp V3;have q1:c<2^b:=q1
  --what is left to show after a zw is laid
  have fin:∀Uw s,Rb (2^b) T1 (upd T2 c s) ((SH.eraseIdx i).map (·.2))->iH Uw B1 B2 b m1 m2 r1 r2 T1 (upd T2 c s)->Ext B2.ml VK Uw->uo (Q0 B1 B2 b m m1 m2 r1 r2 T1 ls RW rl zs Sx pt<|t+1) ([("box",.ref RW),("table",.ref B2.tab),("far",.int r2),("lines",.ref ls),("rest",.ref rl)]:Lo) Uw:=λUw s R4 D4 X4=>by
   rw[⟨([("box",.ref RW),("table",.ref B2.tab),("far",.int r2),("lines",.ref ls),("rest",.ref rl)]:Lo),Uw,Lo.le_refl _,St.le_refl _,rfl,_,_,rlen,rnd,rsub,R4,D4,TR.ext X4 λy hy=>List.mem_cons_of_mem _<|hB y hy,X4 _ _ (λz=>?_) e3,X3.trans<|X4.sub λy hy=>List.mem_cons_of_mem _<|List.mem_cons_of_mem _ hy⟩,nrl.2 ?_,bM z]
  have lole:∀a1 a2 a3 a4 a5:V,Lo.le ([("box",.ref RW),("table",.ref B2.tab),("far",.int r2),("lines",.ref ls),("rest",.ref rl)]:Lo) ([("box",.ref RW),("table",.ref B2.tab),("far",.int r2),("lines",.ref ls),("rest",.ref rl),("turn",a1),("address",a2),("physical",a3),("flags",a4),("is_large",a5)]:Lo):=λ_ _ _ _ _=>Lo.bg ⟨rfl,rfl,rfl,rfl,rfl,trivial⟩;show iF _ _ _ _ [.int<|eV (2^b) (c,o,e),.int<|e/1024*(4*((2^b:Nat):Int)),.int<|e%1024%256,.bool<|decide (sj (2^b) (c,o,e)=4*((2^b:Nat):Int)*((2^b:Nat):Int))] _ _ _ _;left;rw[<-jS ?_]
  cases o with
  |none=>
   have hT:T1 c=.leaf e:=q2;obtain ⟨Lf,hd⟩:=W.j4.leaf c e q1 hT;obtain ⟨k0,k1,k2,k3,k4,k5⟩:=k8 (x:=eV (2^b) (c,none,e)) (show 0<2^b by rw[eO hE]) q1 (show 0<2^b by rw[eO hE]) rfl;rw[<-aN (dT rfl) ?_,(kW W.g2 W.jc W.pQ ⟨k4,k5⟩ ?_ (zv Lf) ?_ (cJ Lf).2.2.1 ?_ λσ' f' tt=>?_).call]
   ·show (((c:Int)*((2^b:Nat):Int)+((0:Nat):Int))*(4*((2^b:Nat):Int)))%_=0;rw[af (show ((0:Nat):Int)=0 from rfl)<|af (Int.add_zero ..)<|af (Int.mul_assoc ..)<|af (Int.mul_comm ((2^b:Nat):Int)<|4*((2^b:Nat):Int))<|Int.mul_emod_left _ _]
   ·have h1:e/1024/((2^b:Nat):Int)*((2^b:Nat):Int)=e/1024:=Int.ediv_mul_cancel<|Int.dvd_of_emod_eq_zero hd;rw[af (Eq.symm<|h1)<|af (Int.mul_assoc ..)<|af (Int.mul_comm ((2^b:Nat):Int)<|4*((2^b:Nat):Int))<|Int.mul_emod_left _ _]
   ·rw[af k1<|h5.none q1 hrem hT]
   ·rw[k1,oF Lf] at tt;have hn:T2 c=.none:=h5.none q1 hrem hT;obtain ⟨XH,s3,w1,w2,w3⟩:=fin σ' _ (h5.leaf rr hT) (W.vO tt.tx λx=>q8 (by rw[af hn ?_];trivial) trivial) tt.tx.ext;rw[⟨XH,s3,λx v hx=>lole _ _ _ _ _ x v<|w1 x v hx,w2,w3⟩]
  |some j=>
   obtain ⟨hj,y,g,hT,hg,he⟩:=q2;have hT:T1 c=.tab y g:=hT;have hg:g j=e:=hg;have he:e≠0:=he;have Lf:fR e:=by rcases ((W.j4.tab c y g q1 hT).2.2 j hj).2 with z|z;rw[absurd (hg▸z) he,hg▸z]
   obtain ⟨k0,k1,k2,k3,k4,k5⟩:=k8 (x:=eV (2^b) (c,some j,e)) (show 0<2^b by rw[eO hE]) q1 hj rfl;rw[az (dF ?_) ?_]
   ·show ¬(4*((2^b:Nat):Int)=4*((2^b:Nat):Int)*((2^b:Nat):Int));intro z;have:4*((2^b:Nat):Int)*2<=4*((2^b:Nat):Int)*((2^b:Nat):Int):=Int.mul_le_mul_of_nonneg_left (Kw hE) (by rw[nN<|4*2^b]);lia
   left;have hrem':(c,some j,g j)∈SH.map (·.2):=af hg hrem;obtain ⟨hc,Vd⟩:=h5.at_ q1 hj hT (af hg he) hrem';rw[(zN W.g2 W.jc W.pQ ⟨k4,k5⟩ k3 (zv Lf) (Int.mul_emod_left _ _) (cJ Lf).2.2.1 (λhn=>?_) W.ER (af k1<|af k2 Vd) (λy' g' σ' f' Tn tt=>?_) λy' σ' f' Tn SE tt=>?_).call]
   ·rw[k1] at hn;have:=Jp h5.tabs q1 (af hT rfl)<|af hn rfl;rcases W.AI with ⟨_,z⟩|⟨_,z⟩<;>lia
   ·rw[k1] at Tn;rw[k1,k2,oF Lf] at tt;obtain ⟨XH,s3,w1,w2,w3⟩:=fin σ' _ (h5.DS rr q1 hj hT hg he Tn) (W.vO tt.tx λx=>n6 Tn) tt.tx.ext;rw[⟨XH,s3,λx v hx=>lole _ _ _ _ _ x v<|w1 x v hx,w2,w3⟩]
   ·rw[k1] at Tn;rw[k1,k2,oF Lf] at tt;obtain ⟨XH,s3,w1,w2,w3⟩:=fin σ' _ (h5.DT rr q1 hj hT hg he Tn y') (W.FG SE tt.tx λx=>vX q1 (by rw[af Tn ?_];trivial)) tt.tx.ext;rw[⟨XH,s3,λx v hx=>lole _ _ _ _ _ x v<|w1 x v hx,w2,w3⟩]
 ·rintro lo τ ⟨rfl,SH,T2,h1,h2,h3,h5,h6,h7,h8,X⟩;have:SH=[]:=List.length_eq_zero_iff.mp (by lia);clear h1 h2 h3;subst this;left;rw[⟨_,St.le_refl _,h τ T2 h5.fin h6 ((h7.less λy hy=>List.mem_cons_of_mem _ hy).le<|by lia) λy o hy e=>?_⟩];exact X y o (λz=>by
   rcases ek z with z|z
   ·clear nrl nrp nrb e1 Tt hz1 h7 X h8;subst z;rw[ak VO e]
   ·rw[hy z]) (X1 y o nz e)
end
variable {bs Yz TH Xj:List Int}{j:Nat}
noncomputable def Su (E i j:Nat):Int:=((i:Int)*E+(j:Int))*(4*E)
inductive oR (E:Nat)(T:Nat->Slot)(x:Int):Prop
 |mk (i j:Nat) (y:Int) (g:Nat->Int) (h1:i<E) (h2:j<E) (h3:T i=.tab y g) (h4:g j≠0) (h5:x=Su E i j)
inductive Di (E:Nat)(T:Nat->Slot)(x:Int):Prop
 |mk (i:Nat) (e:Int) (h1:i<E) (h2:T i=.leaf e) (h3:x=Su E i 0)
inductive rB (E:Nat)(T:Nat->Slot)(x:Int):Prop
 |mk (i:Nat) (y:Int) (g:Nat->Int) (h1:i<E) (h2:T i=.tab y g) (h3:x=Su E i 0)
inductive DF (E:Nat)(T:Nat->Slot)(i:Nat)(x:Int):Prop
 |mk (i' j:Nat) (y:Int) (g:Nat->Int) (h1:i'<E) (h2:j<E) (z:i'≠i) (h3:T i'=.tab y g) (h4:g j≠0) (h5:x=Su E i' j)
inductive DE (E:Nat)(s:Slot)(i:Nat)(x:Int):Prop
 |mk (j:Nat) (y:Int) (g:Nat->Int) (h2:j<E) (h3:s=.tab y g) (h4:g j≠0) (h5:x=Su E i j)
inductive Qe (E:Nat)(T:Nat->Slot)(i:Nat)(x:Int):Prop
 |mk (i':Nat) (e:Int) (h1:i'<E) (z:i'≠i) (h3:T i'=.leaf e) (h5:x=Su E i' 0)
inductive NT (E:Nat)(T:Nat->Slot)(i:Nat)(x:Int):Prop
 |mk (i':Nat) (y:Int) (g:Nat->Int) (h1:i'<E) (z:i'≠i) (h3:T i'=.tab y g) (h5:x=Su E i' 0)
structure cS (E:Nat)(root:Int)(T:Nat->Slot)(used hs bs ms:List Int):Prop where
 hn:hs.Nodup
 bn:bs.Nodup
 mn:ms.Nodup
 hm:∀x,x∈hs↔oR E T x
 bm:∀x,x∈bs↔Di E T x
 mm:∀x,x∈ms↔rB E T x
 um:∀x,x∈used↔fL E root T x
 pos:∀i,i<E->dJ (T i)=true->i∈[0,E-1,1,E-2]
section
variable {i':Nat}{x e:Int}{s:Slot}
theorem fj (hE:0<E)(hi:i<E)(hj:j<E)(hi':i'<E)(Up:j'<E)(h:Su E i j=Su E i' j'):i=i'/\j=j':=by
 obtain ⟨_,a1,a2,_⟩:=k8 hE hi hj<|show Su E i j=_ from rfl;obtain ⟨_,b1,b2,_⟩:=k8 hE hi' Up<|show Su E i' j'=_ from rfl;rw[h] at a1 a2;rw[⟨a1.symm.trans b1,a2.symm.trans b2⟩]
theorem lq (hi:i<E):oR E (upd T i s) x↔DF E T i x\/DE E s i x:=by
 constructor
 ·rintro ⟨a,j,y,g,h1,h2,h3,h4,h5⟩
  by_cases z:a=i
  ·clear hi;subst z;rw[aB] at h3;rw[.inr ⟨j,y,g,h2,h3,h4,h5⟩]
  ·rw[aJ z] at h3;rw[.inl ⟨a,j,y,g,h1,h2,z,h3,h4,h5⟩]
 ·rintro (⟨a,j,y,g,h1,h2,z,h3,h4,h5⟩|⟨j,y,g,h2,h3,h4,h5⟩)
  ·rw[⟨a,j,y,g,h1,h2,by rw[af (aJ z) ?_,h3],h4,h5⟩]
  ·rw[⟨i,j,y,g,hi,h2,by rw[af aB ?_,h3],h4,h5⟩]
theorem kj:upd T i (T i)=T:=by
 funext l
 unfold upd
 split
 ·rename_i z;rw[af z rfl]
 ·rfl
theorem l6 (hi:i<E):oR E T x↔DF E T i x\/DE E (T i) i x:=by
 have:=lq (T:=T) (s:=T i) (x:=x) hi
 rwa [kj] at this
theorem j3 (hi:i<E):Di E (upd T i s) x↔Qe E T i x\/((∃e,s=.leaf e)/\x=Su E i 0):=by
 constructor
 ·rintro ⟨a,e,h1,h3,h5⟩
  by_cases z:a=i
  ·clear hi;subst z;rw[aB] at h3;rw[.inr ⟨⟨e,h3⟩,h5⟩]
  ·rw[aJ z] at h3;rw[.inl ⟨a,e,h1,z,h3,h5⟩]
 ·rintro (⟨a,e,h1,z,h3,h5⟩|⟨⟨e,h3⟩,h5⟩)
  ·rw[⟨a,e,h1,by rw[af (aJ z) ?_,h3],h5⟩]
  ·rw[⟨i,e,hi,by rw[af aB ?_,h3],h5⟩]
theorem iB (hi:i<E):rB E (upd T i s) x↔NT E T i x\/((∃y g,s=.tab y g)/\x=Su E i 0):=by
 constructor
 ·rintro ⟨a,y,g,h1,h3,h5⟩
  by_cases z:a=i
  ·clear hi;subst z;rw[aB] at h3;rw[.inr ⟨⟨y,g,h3⟩,h5⟩]
  ·rw[aJ z] at h3;rw[.inl ⟨a,y,g,h1,z,h3,h5⟩]
 ·rintro (⟨a,y,g,h1,z,h3,h5⟩|⟨⟨y,g,h3⟩,h5⟩)
  ·rw[⟨a,y,g,h1,by rw[af (aJ z) ?_,h3],h5⟩]
  ·rw[⟨i,y,g,hi,by rw[af aB ?_,h3],h5⟩]
theorem iM {l:List Int}(h:l.Nodup)(hx:x∉l):(l++[x]).Nodup:=by
 rw[af (propext List.nodup_append) ⟨h,by simp,λa ha b hb z=>by rw[b9 hb] at z;rw[hx<|z▸ha]⟩]
theorem cS.leaf (hE:0<E)(h:cS E root T used hs bs ms)(hi:i<E)(hT:T i=.none):cS E root (upd T i<|.leaf e) used hs (bs++[Su E i 0]) ms where
 hn:=h.hn
 mn:=h.mn
 bn:=iM h.bn λz=>by
  obtain ⟨a,e,h1,h2,h3⟩:=(h.bm _).mp z;obtain ⟨rfl,_⟩:=fj hE hi hE h1 hE h3;rw[hT] at h2;rw[bU Slot.ctorIdx h2 rfl]
 hm x:=by
  erw[h.hm,lq hi,l6 hi,hT]
  constructor
  ·rintro (z|⟨_,_,_,_,z,_⟩)
   ·rw[.inl z]
   ·rw[bU Slot.ctorIdx z rfl]
  ·rintro (z|⟨_,_,_,_,z,_⟩)
   ·rw[.inl z]
   ·rw[bU Slot.ctorIdx z rfl]
 bm x:=by
  erw[List.mem_append,h.bm,List.mem_singleton,j3 hi];have:=j3 (T:=T) (s:=T i) (x:=x) hi;rw[kj,hT] at this;erw[this]
  constructor
  ·rintro ((z|⟨⟨_,z⟩,_⟩)|z)
   ·rw[.inl z]
   ·rw[bU Slot.ctorIdx z rfl]
   ·rw[.inr ⟨⟨e,rfl⟩,z⟩]
  ·rintro (z|⟨_,z⟩)
   ·rw[.inl<|.inl z]
   ·rw[.inr z]
 mm x:=by
  have:=iB (T:=T) (s:=T i) (x:=x) hi;rw[kj,hT] at this;erw[h.mm,iB hi,this]
  constructor
  ·rintro (z|⟨⟨_,_,z⟩,_⟩)
   ·rw[.inl z]
   ·rw[bU Slot.ctorIdx z rfl]
  ·rintro (z|⟨⟨_,_,z⟩,_⟩)
   ·rw[.inl z]
   ·rw[bU Slot.ctorIdx z rfl]
 um x:=by rw[af (propext<|h.um ..) ?_,(q8 (s:=.leaf e) (by rw[af hT ?_];trivial) trivial).symm]
 pos l hl ht:=by
  by_cases z:l=i
  ·clear hi hT;subst z;rw[aB] at ht;rw[aA ht]
  ·rw[aJ z] at ht;rw[h.pos l hl ht]
theorem Ck (hE:0<E)(hi:i<E)(hj:j<E)(hT:T i=.tab y g)(y':Int):oR E (upd T i<|.tab y'<|upd g j e) x↔(oR E T x/\x≠Su E i j)\/(e≠0/\x=Su E i j):=by
 erw[lq hi,l6 hi,hT]
 constructor
 ·rintro (⟨a,l,y1,g1,h1,h2,z,h3,h4,h5⟩|⟨l,y1,g1,h2,h3,h4,h5⟩)
  ·rw[.inl ⟨.inl ⟨a,l,y1,g1,h1,h2,z,h3,h4,h5⟩,λw=>?_⟩];rw[h5] at w;rw[z (fj hE h1 h2 hi hj w).1]
  ·right
   cases h3
   symm
   by_cases z:l=j
   ·clear hj;subst z;rw[aB] at h4;rw[.inr ⟨h4,h5⟩]
   ·rw[aJ z] at h4;rw[.inl ⟨.inr ⟨l,y,g,h2,rfl,h4,h5⟩,λw=>?_⟩];rw[h5] at w;rw[z (fj hE hi h2 hi hj w).2]
 ·rintro (⟨⟨a,l,y1,g1,h1,h2,z,h3,h4,h5⟩|⟨l,y1,g1,h2,h3,h4,h5⟩,w⟩|⟨he,h5⟩)
  ·rw[.inl ⟨a,l,y1,g1,h1,h2,z,h3,h4,h5⟩]
  ·right
   cases h3
   symm;have z:l≠j:=λz=>by clear hj;subst z;rw[w h5]
   rw[.inr ⟨l,_,_,h2,rfl,by rw[af (aJ z) ?_,h4],h5⟩]
  ·rw[.inr ⟨j,_,_,hj,rfl,by rw[af aB ?_,he],h5⟩]
theorem cS.zw (hE:0<E)(h:cS E root T used hs bs ms)(hi:i<E)(hj:j<E)(hT:T i=.tab y g)(hn:TH.Nodup)(hm:∀x,x∈TH↔(x∈hs/\x≠Su E i j)\/(e≠0/\x=Su E i j)):cS E root (upd T i<|.tab y<|upd g j e) used TH bs ms where
 hn:=hn
 mn:=h.mn
 bn:=h.bn
 hm x:=by erw[hm,Ck hE hi hj hT,h.hm]
 bm x:=by
  have:=j3 (T:=T) (s:=T i) (x:=x) hi;rw[kj,hT] at this;erw[h.bm,j3 hi,this]
  constructor
  ·rintro (z|⟨⟨_,z⟩,_⟩)
   ·rw[.inl z]
   ·rw[bU Slot.ctorIdx z rfl]
  ·rintro (z|⟨⟨_,z⟩,_⟩)
   ·rw[.inl z]
   ·rw[bU Slot.ctorIdx z rfl]
 mm x:=by
  have:=iB (T:=T) (s:=T i) (x:=x) hi;rw[kj,hT] at this;erw[h.mm,iB hi,this]
  constructor
  ·rintro (z|⟨_,z⟩)
   ·rw[.inl z]
   ·rw[.inr ⟨⟨_,_,rfl⟩,z⟩]
  ·rintro (z|⟨_,z⟩)
   ·rw[.inl z]
   ·rw[.inr ⟨⟨_,_,rfl⟩,z⟩]
 um x:=af (propext<|h.um ..)<|(n6 hT).symm
 pos l hl ht:=by
  by_cases z:l=i
  ·clear hi hm ht;subst z;rw[h.pos l hl<|af hT rfl]
  ·rw[aJ z] at ht;rw[h.pos l hl ht]
theorem cS.fresh (hE:0<E)(h:cS E root T used hs bs ms)(hi:i<E)(hj:j<E)(hT:T i=.none)(he:e≠0)(hy:y∉used)(hp:i∈[0,E-1,1,E-2]):cS E root (upd T i<|.tab y<|upd (λ_=>0) j e) (y::used) (hs++[Su E i j]) bs (ms++[Su E i 0]) where
 hn:=iM h.hn λz=>by
  obtain ⟨a,l,y1,g1,h1,h2,h3,h4,h5⟩:=(h.hm _).mp z;obtain ⟨rfl,_⟩:=fj hE hi hj h1 h2 h5;rw[hT] at h3;rw[bU Slot.ctorIdx h3 rfl]
 mn:=iM h.mn λz=>by
  obtain ⟨a,y1,g1,h1,h3,h5⟩:=(h.mm _).mp z;obtain ⟨rfl,_⟩:=fj hE hi hE h1 hE h5;rw[hT] at h3;rw[bU Slot.ctorIdx h3 rfl]
 bn:=h.bn
 hm x:=by
  erw[List.mem_append,h.hm,List.mem_singleton,lq hi,l6 hi,hT]
  constructor
  ·rintro ((z|⟨_,_,_,_,z,_⟩)|z)
   ·rw[.inl z]
   ·rw[bU Slot.ctorIdx z rfl]
   ·rw[.inr ⟨j,_,_,hj,rfl,by rw[af aB ?_,he],z⟩]
  ·rintro (z|⟨l,_,_,h2,h3,h4,h5⟩)
   ·rw[.inl<|.inl z]
   ·cases h3
    by_cases w:l=j
    ·clear hj h4;subst w;rw[.inr h5]
    ·rw[aJ w] at h4;rw[absurd rfl h4]
 bm x:=by
  have:=j3 (T:=T) (s:=T i) (x:=x) hi;rw[kj,hT] at this;erw[h.bm,j3 hi,this]
  constructor
  ·rintro (z|⟨⟨_,z⟩,_⟩)
   ·rw[.inl z]
   ·rw[bU Slot.ctorIdx z rfl]
  ·rintro (z|⟨⟨_,z⟩,_⟩)
   ·rw[.inl z]
   ·rw[bU Slot.ctorIdx z rfl]
 mm x:=by
  have:=iB (T:=T) (s:=T i) (x:=x) hi;rw[kj,hT] at this;erw[List.mem_append,h.mm,List.mem_singleton,iB hi,this]
  constructor
  ·rintro ((z|⟨⟨_,_,z⟩,_⟩)|z)
   ·rw[.inl z]
   ·rw[bU Slot.ctorIdx z rfl]
   ·rw[.inr ⟨⟨_,_,rfl⟩,z⟩]
  ·rintro (z|⟨_,z⟩)
   ·rw[.inl<|.inl z]
   ·rw[.inr z]
 um x:=by
  erw[List.mem_cons,h.um,vX hi (by rw[af hT ?_];trivial)];rw[Or.comm]
 pos l hl ht:=by
  by_cases z:l=i
  ·clear hi hT ht;subst z;rw[hp]
  ·rw[aJ z] at ht;rw[h.pos l hl ht]
theorem cS.prune {c:Nat}(h:cS E root T used hs bs ms)(G:Given E root T (cO E T E) used R5 c)(hn:Xj.Nodup)(hm:∀x,x∈Xj↔rB E (cO E T E) x):cS E root (cO E T E) R5 hs bs Xj where
 hn:=h.hn
 mn:=hn
 bn:=h.bn
 hm x:=by
  rw[af (propext<|h.hm ..) ?_]
  constructor
  ·rintro ⟨i,j,y,g,h1,h2,h3,h4,h5⟩;rw[⟨i,j,y,g,h1,h2,?_,h4,h5⟩];unfold cO;rw[af (if_pos h1)<|af h3<|if_neg λz=>h4<|bR.mp z j h2]
  ·rintro ⟨i,j,y,g,h1,h2,h3,h4,h5⟩;rw[⟨i,j,y,g,h1,h2,?_,h4,h5⟩];unfold cO at h3;rw[if_pos h1] at h3
   cases hT:T i with
   |none=>rw[hT] at h3;rw[bU Slot.ctorIdx h3 rfl]
   |leaf e=>rw[hT] at h3;rw[bU Slot.ctorIdx h3 rfl]
   |tab a g'=>
    rw[hT] at h3;unfold gy at h3;simp only at h3
    split at h3
    ·rw[bU Slot.ctorIdx h3 rfl]
    ·rw[h3]
 bm x:=by
  rw[af (propext<|h.bm ..) ?_]
  constructor
  ·rintro ⟨i,e,h1,h3,h5⟩;rw[⟨i,e,h1,?_,h5⟩];unfold cO;rw[af (if_pos h1)<|af h3 rfl]
  ·rintro ⟨i,e,h1,h3,h5⟩;rw[⟨i,e,h1,?_,h5⟩];unfold cO at h3;rw[if_pos h1] at h3
   cases hT:T i with
   |none=>rw[hT] at h3;rw[bU Slot.ctorIdx h3 rfl]
   |leaf e=>rw[hT] at h3;rw[h3]
   |tab a g'=>
    rw[hT] at h3;unfold gy at h3;simp only at h3
    split at h3<;>rw[bU Slot.ctorIdx h3 rfl]
 mm:=hm
 um x:=by
  rw[af (propext<|G.mem ..)<|af (propext<|h.um ..) ?_]
  constructor
  ·rw[λz=>z.2 z.1]
  ·rw[λz=>⟨kP z,λ_=>z⟩]
 pos l hl ht:=by
  rw[h.pos l hl ?_];unfold cO at ht;rw[if_pos hl] at ht
  cases hT:T l with
  |none=>rw[hT] at ht;rw[aA ht]
  |leaf e=>rw[hT] at ht;rw[aA ht]
  |tab a g'=>rfl
theorem cS.n4 (h:cS E root T used hs bs ms):nT E T<=4:=by
 rw[iA (l':=[0,E-1,1,E-2]) (List.nodup_range.filter _) λi hi=>?_];rw[List.mem_filter] at hi;rw[h.pos i (List.mem_range.mp hi.1) hi.2]
theorem cS.zE (hE:0<E)(h:cS E root T used hs bs ms):ms.length=nT E T:=by
 unfold nT;rw[af (Eq.symm<|cD (f:=λi=>Su E i 0) (l:=(List.range E).filter λi=>dJ<|T i)) ?_,fN h.mn ?_ λx=>?_]
 ·show List.Pairwise _ _;rw[af (propext List.pairwise_map) ?_,List.Pairwise.imp_of_mem ?_<|List.nodup_range.filter _];intro a b ha hb SK z;rw[SK (fj hE (List.mem_range.mp (List.mem_filter.mp ha).1) hE (List.mem_range.mp (List.mem_filter.mp hb).1) hE z).1]
 ·rw[af (propext<|h.mm ..)<|af (propext List.mem_map) ?_]
  constructor
  ·rintro ⟨i,y,g,h1,h3,h5⟩;rw[⟨i,List.mem_filter.mpr ⟨List.mem_range.mpr h1,af h3 rfl⟩,h5.symm⟩]
  ·rintro ⟨i,hi,h5⟩;obtain ⟨h1,h2⟩:=List.mem_filter.mp hi
   cases hT:T i with
   |none=>rw[hT] at h2;rw[aA h2]
   |leaf e=>rw[hT] at h2;rw[aA h2]
   |tab y g=>rw[⟨i,y,g,List.mem_range.mp h1,hT,h5.symm⟩]
end
section
theorem kI.mono {k:Bool->St->Prop}{Un:KE}{e:Expr}(h:kI D n sc e lo U k ke)(hk:∀x τ,k x τ->k' x τ)(he:∀C a τ,ke C a τ->Un C a τ):kI D n sc e lo U k' Un:=λc hc hs=>(h c hc hs).mono hk he
theorem wU:∀ms:List Int,PyData.canLayAll0 (ms.map .int)=true
 |[]=>rfl
 |x::xs=>by rw[af List.map_cons ?_];simp only [PyData.canLayAll0,PyData.canLay0,Bool.true_and];rw[wU xs]
theorem wR:∀ms:List Int,PyData.depthAll (ms.map .int)<=1
 |[]=>Nat.zero_le _
 |x::xs=>by have:=wR xs;rw[af List.map_cons ?_];simp only [PyData.depthAll,PyData.depth];assumption
theorem uc {x:Int}(ha:U a=some (.list<|ms.map .int))(h:k (.bool<|!decide (x∈ms)) U):cZ (Dd q) n .NotIn (.int x) (.ref a) U k ke:=by
 rw[AR ha (fS.map _ _ (λi=>.int i) ms) (.int x) ?_ rfl ?_ ?_]
 ·rw[wU ms]
 ·rw[Nat.le_trans (wR ms) ac]
 ·have:(ms.map PyData.int).any (λy=>PyData.eqv y<|.int x)=decide (x∈ms):=by
   rw[af List.any_map<|af (propext Bool.eq_iff_iff)<|af (propext List.any_eq_true)<|af decide_eq_true_eq ?_]
   constructor
   ·rintro ⟨y,h1,h2⟩;rw[Function.comp,rL,beq_iff_eq] at h2;rw[h2▸h1]
   ·rw[λz=>⟨x,z,by erw[Function.comp,rL,beq_self_eq_true]⟩]
  rw[af this h]
end
section
variable {i':Nat}{x e:Int}{s:Slot}
theorem A9 (hE:0<E)(hj:j<E)(Up:j'<E):(Su E i 0<=Su E i' j'/\Su E i' j'<Su E i 0+4*E*E)↔i'=i:=by
 have e1:∀a b:Nat,Su E a b=(a:Int)*(4*E*E)+(b:Int)*(4*E):=λa b=>by
  unfold Su;rw[af (Int.add_mul ..) ?_];congr 1;ac_rfl
 have r0:∀b:Nat,b<E->0<=(b:Int)*(4*E)/\(b:Int)*(4*E)<4*E*E:=λb hb=>by
  rw[⟨Int.mul_nonneg (by rw[nN b])<|by rw[nN<|4*E],?_⟩,af (Int.mul_comm ..)<|Int.mul_lt_mul_of_pos_left (by rw[Int.ofNat_lt.mpr hb])<|zW hE]
 have hL:(0:Int)<=4*E*E:=Int.mul_nonneg (by rw[nN<|4*E]) (by rw[nN E]);have q:=r0 j' Up;rw[af (e1 ..)<|af (e1 ..)<|af (show ((0:Nat):Int)=0 from rfl)<|af (Int.zero_mul ..)<|af (Int.add_zero ..) ?_]
 constructor
 ·rintro ⟨h1,h2⟩;rcases Nat.lt_trichotomy i' i with z|z|z
  ·have:=Int.mul_le_mul_of_nonneg_right (show (i':Int)+1<=i by rw[Int.ofNat_lt.mpr z]) hL;rw[Int.add_mul,Int.one_mul] at this;rw[QE ⟨Int.le_add_of_nonneg_right q.1,Int.add_lt_add_left q.2 _⟩ h1 this]
  ·rw[z]
  ·have:=Int.mul_le_mul_of_nonneg_right (show (i:Int)+1<=i' by rw[Int.ofNat_lt.mpr z]) hL;rw[Int.add_mul,Int.one_mul] at this;rw[QD ⟨Int.le_add_of_nonneg_right q.1,Int.add_lt_add_left q.2 _⟩ h2 this]
 ·rintro rfl;rw[⟨Int.le_add_of_nonneg_right q.1,Int.add_lt_add_left q.2 _⟩]
theorem s9 (hE:0<E)(h:cS E root T used hs bs ms):x∈ms.filter (jC hs<|4*E*E)↔∃i y g,i<E/\T i=.tab y g/\bX E g=true/\x=Su E i 0:=by
 rw[af (propext List.mem_filter)<|af (propext<|h.mm ..) ?_];have key:∀i y g,i<E->T i=.tab y g->(jC hs (4*E*E) (Su E i 0)=true↔bX E g=true):=by
  intro i y g hi hT;rw[af decide_eq_true_eq<|af (propext List.filter_eq_nil_iff)<|af (propext bR) ?_]
  constructor
  ·intro h1 j hj
   cases q:decide (g j=0) with
   |true=>rw[of_decide_eq_true q]
   |false=>
    rw[absurd (decide_eq_true<|(A9 hE hj hj).mpr rfl)<|h1 (Su E i j)<|(h.hm _).mpr ⟨i,j,y,g,hi,hj,hT,of_decide_eq_false q,rfl⟩]
  ·intro h1 a ha z;obtain ⟨i',j',y',g',k1,k2,k3,k4,rfl⟩:=(h.hm _).mp ha;have:=(A9 hE k2 k2).mp<|of_decide_eq_true z;clear hi z;subst this;rw[hT] at k3;cases k3;rw[k4<|h1 j' k2]
 constructor
 ·rintro ⟨⟨i,y,g,h1,h2,rfl⟩,h3⟩;rw[⟨i,y,g,h1,h2,(key i y g h1 h2).mp h3,rfl⟩]
 ·rintro ⟨i,y,g,h1,h2,h3,rfl⟩;rw[⟨⟨i,y,g,h1,h2,rfl⟩,(key i y g h1 h2).mpr h3⟩]
theorem zZ (hE:0<E)(h:cS E root T used hs bs ms):(ms.filter<|jC hs<|4*E*E).length=bA E T E:=by
 unfold bA;rw[af (Eq.symm<|cD (f:=λi=>Su E i 0) (l:=(List.range E).filter _)) ?_,fN (h.mn.filter _) ?_ λx=>?_]
 ·show List.Pairwise _ _;rw[af (propext List.pairwise_map) ?_,List.Pairwise.imp_of_mem ?_<|List.nodup_range.filter _];intro a b ha hb SK z;rw[SK (fj hE (List.mem_range.mp (List.mem_filter.mp ha).1) hE (List.mem_range.mp (List.mem_filter.mp hb).1) hE z).1]
 ·erw[s9 hE h,List.mem_map]
  constructor
  ·rintro ⟨i,y,g,h1,h2,h3,h4⟩;rw[⟨i,List.mem_filter.mpr ⟨List.mem_range.mpr h1,af h2 h3⟩,h4.symm⟩]
  ·rintro ⟨i,hi,h4⟩;obtain ⟨h1,h2⟩:=List.mem_filter.mp hi
   cases hT:T i with
   |none=>rw[hT] at h2;rw[aA h2]
   |leaf e=>rw[hT] at h2;rw[aA h2]
   |tab y g=>rw[hT] at h2;rw[⟨i,y,g,List.mem_range.mp h1,hT,h2,h4.symm⟩]
theorem BV (hE:0<E)(h:cS E root T used hs bs ms):rB E (cO E T E) x↔x∈ms/\x∉ms.filter (jC hs<|4*E*E):=by
 erw[s9 hE h,h.mm]
 constructor
 ·rintro ⟨i,y,g,h1,h2,rfl⟩;unfold cO at h2;rw[if_pos h1] at h2
  cases hT:T i with
  |none=>rw[hT] at h2;rw[bU Slot.ctorIdx h2 rfl]
  |leaf e=>rw[hT] at h2;rw[bU Slot.ctorIdx h2 rfl]
  |tab a g'=>
   rw[hT] at h2;unfold gy at h2;simp only at h2
   split at h2
   ·rw[bU Slot.ctorIdx h2 rfl]
   ·rename_i SK
    rw[⟨⟨i,a,g',h1,hT,rfl⟩,?_⟩];rintro ⟨i',y',g'',k1,k2,k3,k4⟩;obtain ⟨rfl,_⟩:=fj hE h1 hE k1 hE k4;rw[hT] at k2;cases k2;rw[SK k3]
 ·rintro ⟨⟨i,y,g,h1,h2,rfl⟩,h3⟩;rw[⟨i,y,g,h1,?_,rfl⟩];unfold cO;rw[af (if_pos h1)<|af h2<|if_neg λz=>h3 ⟨i,y,g,h1,h2,z,rfl⟩]
end
variable {R3:Addr}
structure lP (U:St)(B:Bd)(b:Nat)(m0 root:Int)(held R3 RV:Addr)(c:Nat)(f:Int->Option Int)(used:List Int)(T:Nat->Slot)(hs bs ms:List Int):Prop where
 bd:aH U B b m0 f used
 sp:aF (2^b) m0 f root T
 di:cS (2^b) root T used hs bs ms
 eh:U held=some (.list<|hs.map .int)
 eb:U R3=some (.list<|bs.map .int)
 em:U RV=some (.list<|ms.map .int)
 len:hs.length+bs.length<=c
inductive pP (U:St)(B:Bd)(b:Nat)(m0 root:Int)(held R3 RV:Addr)(c:Nat):Prop
 |mk (f:Int->Option Int) (used:List Int) (T:Nat->Slot) (hs bs ms:List Int) (w:lP U B b m0 root held R3 RV c f used T hs bs ms)
structure CV (B:Bd)(held R3 RV RW:Addr)(zs:List Addr):Prop where
 h:held∉B.al
 b:R3∉B.al
 m:RV∉B.al
 x:RW∉B.al
 hb:held≠R3
 hm:held≠RV
 bm:R3≠RV
 z:∀y,y∈B.ml\/y=held\/y=R3\/y=RV->y∈zs
section
variable {zs:List Addr}{m b c:Nat}{x Vo:Int}{s:Slot}
theorem lP.ext (D:lP U B b m0 root held R3 RV c f used T hs bs ms)(X:Ext xs U σ')(h:∀y∈xs,y∉B.al/\y≠held/\y≠R3/\y≠RV):lP σ' B b m0 root held R3 RV c f used T hs bs ms:=
 ⟨D.bd.ext X λy hy=>(h y hy).1,D.sp,D.di,X _ _ (λz=>(h _ z).2.1 rfl) D.eh,X _ _ (λz=>(h _ z).2.2.1 rfl) D.eb,X _ _ (λz=>(h _ z).2.2.2 rfl) D.em,D.len⟩
noncomputable def qD (b:Nat):List Int:=[0,2^b-1,1,2^b-2]
theorem rM (G:eG b m0){p:Nat}(hp:p<4):∃i:Nat,i<2^b/\i∈[0,2^b-1,1,2^b-2]/\(qD b)[p]?=some (i:Int):=by
 have:=G.e;have e:=iG b;rw[QJ p hp ?_ ?_ ?_ ?_]
 ·rw[⟨0,eO this,by rw[List.Mem.head [2^b-1,1,2^b-2]],rfl⟩]
 ·rw[⟨2^b-1,ML this,by rw[List.mem_cons_of_mem 0 List.mem_cons_self],by show some ((2:Int)^b-1)=_;congr 1;rw[(Int.ofNat_sub<|Nat.le_trans ac this.1).symm]⟩]
 ·rw[⟨1,JK this,by rw[gA 0<|gA (2^b-1)<|List.Mem.head [2^b-2]],rfl⟩]
 ·rw[⟨2^b-2,MN this,by rw[gA 0<|gA (2^b-1)<|gA 1<|List.Mem.head []],by show some ((2:Int)^b-2)=_;congr 1;rw[(Int.ofNat_sub<|Nat.le_trans ac this.1).symm]⟩]
theorem l7 {P:Int}(hb:aU U RW zs m)(hz:∀y∈zs,U y≠none)(hm:m<2^40)(hP:0<P)(Yw:P<=32)(TN:pg.natAbs<2^64)
 (h:∀(c:Int) σ',0<=c->c*P+P<=2^22->aU σ' RW zs (m+1)->Ext [RW] U σ'->k (.int<|pg*P*c) σ'):ay (Dd q) (n+3) (.ref 871) [.ref RW,.int pg,.int P] U k ke:=by
 obtain ⟨p,rfl⟩:=Int.eq_ofNat_of_zero_le (show 0<=P by rw[Int.le_of_lt hP]);rw[Aj hb hz hm (by rw[Int.ofNat_lt.mp hP]) (by rw[Int.ofNat_le.mp Yw]) TN h]
theorem rZ (i:Nat):(2:Int)^(b+2)*2^b*(i:Int)=Su (2^b) i 0:=by
 rw[af (pe ..)<|af (iG ..) ?_];unfold Su;rw[af (show ((0:Nat):Int)=0 from rfl)<|af (Int.add_zero ..) ?_];ac_rfl
theorem vG (i j:Nat):(2:Int)^(b+2)*2^b*(i:Int)+2^(b+2)*(j:Int)=Su (2^b) i j:=by
 rw[af (pe ..)<|af (iG ..) ?_];unfold Su;rw[af (Int.add_mul ..) ?_]
 congr 1<;>ac_rfl
theorem FN (G:eG b m0){c:Int}(h0:0<=c)(h1:c*2^b+2^b<=2^22):lM b (2^(b+2)*2^b*c)/\(2^(b+2)*2^b*c)%(4*((2^b:Nat):Int)*((2^b:Nat):Int))=0:=by
 have hE:=G.e;rw[pe,iG] at*;rw[⟨⟨Int.mul_nonneg (Int.mul_nonneg (by rw[nN<|4*2^b])<|by rw[nN<|2^b]) h0,?_⟩,Int.mul_emod_right _ _⟩,af (Int.mul_assoc ..)<|af (Int.mul_comm ..)<|af (Int.mul_comm ((2^b:Nat):Int) c)<|Int.mul_lt_mul_of_pos_right (LU h1 hE)<|BW hE]
theorem C3 (G:eG b m0){c:Int}(h0:0<=c)(h1:c*1+1<=2^22):lM b (2^(b+2)*1*c)/\(2^(b+2)*1*c)%(4*((2^b:Nat):Int))=0:=by
 have hE:=G.e;rw[af (pe ..)<|af (Int.mul_one ..) ?_,⟨⟨Int.mul_nonneg (by rw[nN<|4*2^b]) h0,?_⟩,Int.mul_emod_right _ _⟩,af (Int.mul_comm ..)<|Int.mul_lt_mul_of_pos_right (Kr h1)<|BW hE]
structure pL (U σ':St)(B:Bd)(b:Nat)(m0 root:Int)(held R3 RV RW:Addr)(zs:List Addr)(c m:Nat):Prop where
 d:pP σ' B b m0 root held R3 RV c
 x:aU σ' RW zs m
 e:Ext (RW::held::R3::RV::B.ml) U σ'
theorem jx {Sx υ ω:St}{m4 c':Nat}(S3:CV B held R3 RV RW zs)(X1:Ext [] U Sx)(Z:Ext [RW] Sx τ)(hb:aU τ RW zs m4)(hm:m4<=m')(tx:Ext B.ml τ υ)(W:Ext [held,R3,RV] υ ω)(H:aH υ B b m0 f' R5)(S:aF (2^b) m0 f' root T')(I:cS (2^b) root T' R5 TH Yz Xj)
 (eh:ω held=some (.list<|TH.map .int)) (eb:ω R3=some (.list<|Yz.map .int)) (em:ω RV=some (.list<|Xj.map .int)) (len:TH.length+Yz.length<=c'):pL U ω B b m0 root held R3 RV RW zs c' m':=by
 have hw:∀y∈[held,R3,RV],y∉B.al/\y∈zs:=λy hy=>by
  replace hy:=Eh hy;clear W eh eb em;rcases hy with rfl|rfl|rfl
  ·rw[⟨S3.h,S3.z _<|.inr<|.inl rfl⟩]
  ·rw[⟨S3.b,S3.z _<|.inr<|.inr<|.inl rfl⟩]
  ·rw[⟨S3.m,S3.z _<|.inr<|.inr<|.inr rfl⟩]
 rw[⟨⟨f',R5,T',TH,Yz,Xj,H.ext W λy hy=>(hw y hy).1,S,I,eh,eb,em,len⟩,((hb.ext tx λy hy=>S3.z y<|.inl hy).ext W λy hy=>(hw y hy).2).le hm,?_⟩,(((X1.sub bZ).trans<|Z.sub λy hy=>by rw[af (b9 hy)<|List.Mem.head<|held::R3::RV::B.ml]).trans<|tx.sub λy hy=>gA RW<|gA held<|gA R3<|gA RV hy).trans<|W.sub λy hy=>gA RW<|List.mem_append_left B.ml hy]
theorem CD (G:eG b m0)(D:pP U B b m0 root held R3 RV c)(hc:c<=20)(S3:CV B held R3 RV RW zs)(hb:aU U RW zs m)(hz:∀y∈zs,U y≠none)(hm:m<2^39)(w0:0<=Vo)(w1:Vo<10)
 (h1:∀σ',pL U σ' B b m0 root held R3 RV RW zs (c+1) (m+8)->k .none σ')
 (h2:∀σ' s,pL U σ' B b m0 root held R3 RV RW zs (c+1) (m+8)->ke 52 [("reason",.str s)] σ'):
 ay (Dd q) (n+8) (.ref 890) [.ref RW,.int Vo,.ref B.tab,.int root,.ref B.lay,.ref held,.ref R3,.ref RV] U k ke:=by
 have hE:=G.e;obtain ⟨f,used,T,hs,bs,ms,D⟩:=D;rw[Ak ["box","way","table","root","layout","held","big","made"] rfl rfl (λ_=>rfl) ?_];obtain ⟨dl,hl⟩:=D.bd.lay;rw[xc rfl ?_,<-dB (names:=["page","many","large"]) ?_ ac (by rintro ⟨⟩ z;subst z;rfl),<-bG (cF<|af (pe ..)<|Ob hE) ?_,⟨by simp,rfl,?_⟩,<-xt rfl ?_,⟨by simp,λen Y8=>?_⟩];have X1:Ext [] U<|U.set en<|.list<|(qD b).map .int:=Ext.fresh Y8;have een:(U.set en<|.list<|(qD b).map .int) en=some (.list<|(qD b).map .int):=St.ah;have D1:=D.ext X1 bZ;have Tt:=hb.ext X1 bZ;have hz1:=aO hz X1 bZ;have nen:en≠RW:=λz=>by
  clear S3 h1 h2 Tt;subst z;obtain ⟨_,_,_,_,_,w,_⟩:=hb;rw[ak Y8 w.it]
 show (_:V->St->Prop) _ (U.set en<|.list<|(qD b).map .int);generalize U.set en (.list<|(qD b).map .int)=Sx at X1 een D1 Tt hz1 ⊢;have n39:∀y∈[RW],y∉B.al/\y≠held/\y≠R3/\y≠RV:=λy hy=>by
  rw[af (b9 hy) ?_];have hx:=hb.pT;rw[⟨S3.x,λz=>hx<|S3.z _<|.inr<|.inl z,λz=>hx<|S3.z _<|.inr<|.inr<|.inl z,λz=>hx<|S3.z _<|.inr<|.inr<|.inr z⟩]
 clear Y8 D hb hz;left;rw[Cut.mk ?_,xo rfl rfl ?_,<-zc ?_]
 by_cases hw:Vo=0
 ·rw[<-aN (eqT hw) ?_,(cA Tt hz1 (B3 hm) ac ac λp τ p0 p1 Ut Y=>?_).call];obtain ⟨p,rfl⟩:=Int.eq_ofNat_of_zero_le p0;obtain ⟨i,hi,Sq,UG⟩:=rM G (show p<4 by rw[Int.ofNat_lt.mp p1]);have een2:=Y _ _ (λz=>nen<|b9 z) een;left;rw[<-aC (x:=.int i) een2 p0 (Eu p1) (by rw[af (Int.toNat_natCast ..)<|af List.getElem?_map<|af UG ?_];rfl) ?_,bG (mul_r<|OJ hE hi) ?_];have D2:=D1.ext Y n39;have UL:=aO hz1 Y λy hy SE=>absurd SE<|b9 hy▸Ut.pT;obtain ⟨d2,Ui⟩:=D2.bd.tab;left;rw[(l7 Ut UL (B5 hm) (by rw[af (iG ..) ?_,Ex hE]) (by rw[af (iG ..) ?_];lia) (by rw[af (pe ..) ?_,Ob hE]) λc2 UK c0 c1 TR Y2=>?_).call];have hz3:=aO UL Y2 λy hy SE=>absurd SE<|b9 hy▸TR.pT;left;rw[(oU TR hz3 (B6 hm) λfl VK F T5 Y3=>?_).call];have D4:=(D2.ext Y2 n39).ext Y3 n39;obtain ⟨P,Vg⟩:=FN G c0 c1;rw[<-af (rZ ..) ?_];obtain ⟨k0,k1,k2,k3,k4,k5⟩:=k8 (x:=Su (2^b) i 0) (show 0<2^b by rw[eO hE]) hi (show 0<2^b by rw[eO hE]) rfl;have VZ:Su (2^b) i 0%(4*((2^b:Nat):Int)*((2^b:Nat):Int))=0:=by
   rw[af (Eq.symm<|rZ ..)<|af (pe ..)<|af (iG ..)<|Int.mul_emod_right _ _]
  have Z:Ext [RW] Sx VK:=(Y.trans Y2).trans Y3
  by_cases hT:T i=.none
  ·rw[(kW G D4.bd D4.sp ⟨k4,k5⟩ VZ P Vg F (af k1 hT) λσ' f' tt=>?_).call];rw[k1] at tt;have tx:=tt.tx;left;have eb':=tx.ext _ _ (λz=>S3.b<|bM z) D4.eb;rw[<-cC (cu eb') ?_];have hl:=D4.len;rw[cy eb' (by rw[af (cD ..) ?_];lia) ?_,⟨_,St.le_refl _,h1 _<|jx S3 X1 Z T5 zV tx.ext (Ext.put<|by rw[gA held<|List.Mem.head [RV]]) tx.bd tx.sp (D4.di.leaf (eO hE) hi hT) (af (St.ai S3.hb)<|tx.ext _ _ (λz=>S3.h<|bM z) D4.eh) (af St.ah<|af List.map_append rfl) (af (St.ai S3.bm.symm)<|tx.ext _ _ (λz=>S3.m<|bM z) D4.em)<|af List.length_append<|af List.length_singleton<|Nat.lt_succ_of_le hl⟩]
  ·rw[(oH G D4.bd D4.sp ⟨k4,k5⟩ VZ P Vg F (af k1 hT) λs=>h2 _ s<|jx S3 X1 Z T5 zV Ext.refl Ext.refl D4.bd D4.sp D4.di D4.eh D4.eb D4.em (by have:=D4.len;rw[Kl this])).call]
 rw[az (oX hw) ?_,xo rfl rfl ?_,zc ?_,kI.mono (k:=λv τ=>(v=false->¬Vo<5/\hs≠[])/\Ext [] Sx τ) (ke:=xg) ?_ ?_ λ_ _ _ z=>z.elim]
 ·left
  by_cases XO:Vo<5
  ·rw[aN (zx<|dT XO) ?_,⟨λz=>absurd (decide_eq_true XO) (by rw[af z ?_];decide),Ext.refl⟩]
  ·rw[<-az (jh<|dF XO) ?_,⟨by simp,λe he=>?_⟩];have W:Ext [] Sx<|Sx.set e<|.list []:=Ext.fresh he;left;rw[<-Dp (W _ _ nz D1.eh) St.ah ?_]
   by_cases hh:hs=[]
   ·rw[aN (zx<|dT hh) ?_,⟨λz=>absurd (decide_eq_true hh) (by rw[af z ?_];decide),W⟩]
   ·rw[<-az (jh<|dF hh) ?_,⟨λ_=>⟨XO,hh⟩,W⟩]
 rintro v Ux ⟨hv,W1⟩;have X2:=X1.trans W1;have een1:=W1 _ _ nz een;have D2:=D1.ext W1 bZ;have Ut:=Tt.ext W1 bZ;have UL:=aO hz1 W1 bZ;clear W1 een D1 Tt hz1 X1
 cases v with
 |true=>
  rw[aN rfl ?_]
  iterate 2 fail
  rw[bY.mono (k:=λx υ=>∃mn:Int,x=.int mn/\0<mn/\mn<=4/\υ=Ux) (ke:=xg) ?_ ?_ λ_ _ _ z=>z.elim]
  ·left
   by_cases T3:(2:Int)^(b+2)<100
   ·rw[<-aN (dT T3) ?_,⟨_,rfl,by decide,by decide,rfl⟩]
   ·rw[<-az (dF T3) ?_,⟨_,rfl,by decide,by decide,rfl⟩]
  rintro _ Wd ⟨mn,rfl,mn0,mn4,rfl⟩;left;rw[(cA Ut UL (B3 hm) mn0 (Ko mn4) λp τ p0 p1 TR Y=>?_).call];obtain ⟨p,rfl⟩:=Int.eq_ofNat_of_zero_le p0;obtain ⟨i,hi,Sq,UG⟩:=rM G (show p<4 by rw[KZ p1 mn4]);have een2:=Y _ _ (λz=>nen<|b9 z) een1;left;rw[<-aC (x:=.int i) een2 p0 (K0 p1 mn4) (by rw[af (Int.toNat_natCast ..)<|af List.getElem?_map<|af UG ?_];rfl) ?_,bG (mul_r<|OJ hE hi) ?_];have hz3:=aO UL Y λy hy SE=>absurd SE<|b9 hy▸TR.pT;left;rw[(cA TR hz3 (B5 hm) ac ac λr UK r0 r1 T5 Y2=>?_).call];obtain ⟨r,rfl⟩:=Int.eq_ofNat_of_zero_le r0;obtain ⟨j,hj,_,Yb⟩:=rM G (show r<4 by rw[Int.ofNat_lt.mp r1]);have een3:=Y2 _ _ (λz=>nen<|b9 z) een2;left;rw[<-aC (x:=.int j) een3 r0 (Eu r1) (by rw[af (Int.toNat_natCast ..)<|af List.getElem?_map<|af Yb ?_];rfl) ?_,bG (mul_r<|OJ hE hj) ?_];have hz4:=aO hz3 Y2 λy hy SE=>absurd SE<|b9 hy▸T5.pT;have D4:=(D2.ext Y n39).ext Y2 n39;obtain ⟨d4,Zw⟩:=D4.bd.tab;left;rw[(l7 T5 hz4 (B6 hm) ac ac (by rw[af (pe ..) ?_,Ob hE]) λc2 VK c0 c1 T3 Y3=>?_).call];have WG:=aO hz4 Y3 λy hy SE=>absurd SE<|b9 hy▸T3.pT;left;rw[(oU T3 WG (KW hm) λfl Uw F UX Y4=>?_).call];have D6:=(D4.ext Y3 n39).ext Y4 n39;have Z:Ext [RW] Wd Uw:=((Y.trans Y2).trans Y3).trans Y4;obtain ⟨P,Vg⟩:=C3 G c0 c1;obtain ⟨k0,k1,k2,k3,k4,k5⟩:=k8 (x:=2^(b+2)*2^b*(i:Int)+2^(b+2)*(j:Int)) (show 0<2^b by rw[eO hE]) hi hj<|vG i j;clear een1 een2 een3 Y Y2 Y3 Y4 Ut TR T5 T3 UL hz3 hz4 D2;left;have hE0:0<2^b:=eO hE;have Uh:=D6.len;have Lf:=(kZ hE0 P F).1;have hn0:we (2^b) (2^(b+2)*1*c2) fl≠0:=λz=>by rw[z] at Lf;rw[Lf.2.2.1 ac]
  by_cases hent:entryAt T i j=0
  ·rw[(zN G D6.bd D6.sp ⟨k4,k5⟩ k3 P Vg F (λ_=>?_) (λa ha=>(D6.di.um a).mpr ha) (af k1<|af k2 hent) (λy g σ' f' hT tt=>?_) λy σ' f' hT hy tt=>?_).call]
   ·have h5:used.length=1+nT (2^b) T:=by
     rw[af (Eq.symm<|jT (root:=root))<|fN D6.bd.iO.1 (gi D6.sp) λx=>by erw[gK,D6.di.um]]
    have:=D6.di.n4;rw[JZ h5 this]
   ·rw[k1] at hT;rw[k1,k2] at tt;have tx:=tt.tx;rw[ck hT] at hent;have eh':=tx.ext _ _ (λz=>S3.h<|bM z) D6.eh;left;rw[<-cC (cu eh') ?_,cy eh' (af (cD ..)<|B0 Uh hc) ?_];erw[vG,rZ,show hs.map V.int++[V.int<|Su (2^b) i j]=(hs++[Su (2^b) i j]).map .int by rw[af List.map_append rfl]];have W:Ext [held] σ'<|σ'.set held<|.list<|(hs++[Su (2^b) i j]).map .int:=Ext.put<|List.mem_singleton.mpr rfl;have em':=W _ _ (λz=>S3.hm (b9 z).symm)<|tx.ext _ _ (λz=>S3.m<|bM z) D6.em;left;rw[<-uc em' ?_];have Ud:Su (2^b) i 0∈ms:=(D6.di.mm _).mpr ⟨i,y,g,hi,hT,rfl⟩;rw[<-az (gI<|dT Ud) ?_];have hnin:Su (2^b) i j∉hs:=λz=>by
     obtain ⟨i',j',y',g',q1,q2,q3,q4,q5⟩:=(D6.di.hm _).mp z;obtain ⟨rfl,rfl⟩:=fj hE0 hi hj q1 q2 q5;rw[hT] at q3;cases q3;rw[q4 hent]
    exact ⟨_,St.le_refl _,h1 _ (jx S3 X2 Z UX Eo tx.ext (W.sub λy hy=>by rw[af (b9 hy)<|List.Mem.head [R3,RV]]) tx.bd tx.sp (D6.di.zw hE0 hi hj hT (iM D6.di.hn hnin) λx=>by
     rw[af (propext List.mem_append)<|af (propext List.mem_singleton) ?_]
     constructor
     ·rintro (z|z)
      ·rw[.inl ⟨z,λw=>hnin<|w▸z⟩]
      ·rw[.inr ⟨hn0,z⟩]
     ·rintro (z|z)
      ·rw[.inl z.1]
      ·rw[.inr z.2]) St.ah (W _ _ (λz=>S3.hb (b9 z).symm)<|tx.ext _ _ (λz=>S3.b<|bM z) D6.eb) em' (af List.length_append<|af List.length_singleton<|JO Uh))⟩
   ·rw[k1] at hT;rw[k1,k2] at tt;have tx:=tt.tx;have eh':=tx.ext _ _ (λz=>S3.h<|bM z) D6.eh;left;rw[<-cC (cu eh') ?_,cy eh' (af (cD ..)<|B0 Uh hc) ?_];erw[vG,rZ,show hs.map V.int++[V.int<|Su (2^b) i j]=(hs++[Su (2^b) i j]).map .int by rw[af List.map_append rfl]];have W:Ext [held] σ'<|σ'.set held<|.list<|(hs++[Su (2^b) i j]).map .int:=Ext.put<|List.mem_singleton.mpr rfl;have em':=W _ _ (λz=>S3.hm (b9 z).symm)<|tx.ext _ _ (λz=>S3.m<|bM z) D6.em;left;rw[<-uc em' ?_];have hnin:Su (2^b) i 0∉ms:=λz=>by
     obtain ⟨i',y',g',q1,q3,q5⟩:=(D6.di.mm _).mp z;obtain ⟨rfl,_⟩:=fj hE0 hi hE0 q1 hE0 q5;rw[hT] at q3;rw[bU Slot.ctorIdx q3 rfl]
    rw[<-aN (n7<|dF hnin) ?_,<-cC (cu em') ?_];have hml:ms.length<=4:=af (D6.di.zE hE0) D6.di.n4;rw[cy em' (af (cD ..)<|Em hml) ?_];have W2:Ext [RV] (σ'.set held<|.list<|(hs++[Su (2^b) i j]).map .int)<|(σ'.set held<|.list<|(hs++[Su (2^b) i j]).map .int).set RV<|.list<|ms.map .int++[.int<|Su (2^b) i 0]:=Ext.put<|List.mem_singleton.mpr rfl;rw[⟨_,St.le_refl _,h1 _<|jx S3 X2 Z UX Eo tx.ext ((W.sub λy hy=>by rw[af (b9 hy)<|List.Mem.head [R3,RV]]).trans<|W2.sub λy hy=>by rw[af (b9 hy)<|gA held<|gA R3<|List.Mem.head []]) tx.bd tx.sp (D6.di.fresh hE0 hi hj hT hn0 hy Sq) (W2 _ _ (λz=>S3.hm<|b9 z) St.ah) (W2 _ _ (λz=>S3.bm<|b9 z)<|W _ _ (λz=>S3.hb (b9 z).symm)<|tx.ext _ _ (λz=>S3.b<|bM z) D6.eb) (af St.ah<|af List.map_append rfl)<|af List.length_append<|af List.length_singleton<|JO Uh⟩]
  ·rw[(zO G D6.bd D6.sp ⟨k4,k5⟩ k3 P Vg F (af k1<|af k2 hent) λs=>?_).call,h2 _ s<|jx S3 X2 Z UX Eo Ext.refl Ext.refl D6.bd D6.sp D6.di D6.eh D6.eb D6.em<|by rw[Nat.le_succ_of_le Uh]]
 |false=>
  obtain ⟨XO,SK⟩:=hv rfl;rw[<-az rfl ?_];obtain ⟨d2,Ui⟩:=D2.bd.tab;have hE0:0<2^b:=eO hE;have Uh:=D2.len
  by_cases hw8:Vo=8
  ·rw[<-aN (eqT hw8) ?_,(nY G D2.bd D2.sp (λa ha=>(D2.di.um a).mpr ha) λσ' f' R5 tt Gv=>?_).call];have tx:=tt.tx;left;rw[<-dz ?_];have hml:ms.length<=4:=af (D2.di.zE hE0) D2.di.n4;have eh':=tx.ext _ _ (λz=>S3.h<|bM z) D2.eh;have em':=tx.ext _ _ (λz=>S3.m<|bM z) D2.em;rw[(wA eh' em' (by lia) (Jy hml) λl Tz SP el W=>?_).call];have hlarge:(2:Int)^(b+2)*2^b=4*((2^b:Nat):Int)*((2^b:Nat):Int):=by rw[af (pe ..)<|af (iG ..) rfl]
   rw[hlarge] at el;generalize hlone:ms.filter (jC hs<|4*((2^b:Nat):Int)*((2^b:Nat):Int))=R9 at el;have nlm:l≠RV:=(kE em' SP).symm;left;rw[aV el ?_];have lnd:R9.Nodup:=af (Eq.symm<|hlone)<|D2.di.mn.filter _;have lsub:∀x∈R9,x∈ms:=λx hx=>by rw[<- hlone] at hx;rw[(List.mem_filter.mp hx).1]
   rw[gR V.int R9 (λdone lo τ=>lo=([("box",.ref RW),("way",.int Vo),("table",.ref B.tab),("root",.int root),("layout",.ref B.lay),("held",.ref held),("big",.ref R3),("made",.ref RV),("large",.int<|2^(b+2)*2^b),("many",.int<|2^b),("page",.int<|2^(b+2)),("ends",.ref en)]:Lo)/\∃cur:List Int,Ext [RV] Tz τ/\τ RV=some (.list<|cur.map .int)/\cur.Nodup/\cur.length<=4/\∀x,x∈cur↔x∈ms/\x∉done) ⟨rfl,ms,Ext.refl,W _ _ nz em',D2.di.mn,hml,λx=>by simp⟩ ?_ ?_ ?_]
   ·rintro done lo τ ⟨_,cur,V,_⟩;rw[V _ _ (λz=>nlm<|b9 z) el]
   ·rintro done x lo τ ⟨rest,hr⟩ ⟨rfl,cur,V,ec,cn,cl,cm⟩;left;rw[<-cC (qp ec) ?_];have hxl:x∈R9:=af hr<|List.mem_append_right _ List.mem_cons_self;have hxd:x∉done:=λz=>by
     rw[hr,List.nodup_append] at lnd;rw[lnd.2.2 x z x List.mem_cons_self rfl]
    obtain ⟨p,hp⟩:=List.getElem?_of_mem<|(cm x).mpr ⟨lsub x hxl,hxd⟩;have Uv:=(List.getElem?_eq_some_iff.mp hp).1;rw[qK ec (Em cl) hp (λl hl hq=>?_) ?_]
    ·rw[absurd ((List.getElem?_inj (Ey Uv hl) cn).mp<|hq.trans hp.symm)<|by rw[Nat.ne_of_lt hl]]
    ·rw[⟨([("box",.ref RW),("way",.int Vo),("table",.ref B.tab),("root",.int root),("layout",.ref B.lay),("held",.ref held),("big",.ref R3),("made",.ref RV),("large",.int<|2^(b+2)*2^b),("many",.int<|2^b),("page",.int<|2^(b+2)),("ends",.ref en)]:Lo),_,Lo.bg ⟨rfl,rfl,rfl,rfl,rfl,rfl,rfl,rfl,rfl,rfl,rfl,rfl,trivial⟩,St.le_refl _,rfl,cur.eraseIdx p,V.trans<|Ext.put<|List.mem_singleton.mpr rfl,St.ah,cn.sublist<|List.eraseIdx_sublist _ _,by rw[af (List.length_eraseIdx_of_lt Uv) ?_,Mv Uv cl],λy=>?_⟩];erw[iT cn hp,cm,List.mem_append,List.mem_singleton]
     constructor
     ·rintro ⟨⟨a1,a2⟩,a3⟩;rw[⟨a1,λz=>z.elim a2 a3⟩]
     ·rintro ⟨a1,a2⟩;rw[⟨⟨a1,λz=>a2<|.inl z⟩,λz=>a2<|.inr z⟩]
   ·rintro lo τ ⟨rfl,cur,V,ec,cn,cl,cm⟩;rw[⟨_,St.le_refl _,h1 _<|jx S3 X2 Ext.refl Ut (by rw[Nat.le_succ_of_le<|Nat.le_add_right m 7]) tx.ext ((W.sub bZ).trans (V.sub λy hy=>by erw[b9 hy];rw[gA held<|gA R3<|List.Mem.head []])) tx.bd tx.sp (D2.di.prune Gv cn λx=>by erw[BV hE0 D2.di,hlone];rw[cm x]) (V _ _ (λz=>S3.hm<|b9 z)<|W _ _ nz eh') (V _ _ (λz=>S3.bm<|b9 z)<|W _ _ nz<|tx.ext _ _ (λz=>S3.b<|bM z) D2.eb) ec<|by rw[Nat.le_succ_of_le Uh]⟩]
  ·rw[<-az (oX hw8) ?_,eg D2.eh (af (cD ..)<|B0 Uh hc) ?_,<-af (cD ..) ?_];have Sq:0<hs.length:=List.length_pos_iff.mpr SK;rw[(cA (many:=(hs.length:Int)) Ut UL (B3 hm) (by rw[Int.ofNat_lt.mpr Sq]) (KP Uh hc) λp τ p0 p1 TR Y=>?_).call];obtain ⟨p,rfl⟩:=Int.eq_ofNat_of_zero_le p0;have hp:p<hs.length:=by rw[Int.ofNat_lt.mp p1]
   have D3:=D2.ext Y n39;have hz3:=aO UL Y λy hy SE=>absurd SE<|b9 hy▸TR.pT;left;rw[aC (x:=.int hs[p]) D3.eh p0 (LA p1 Uh hc) (by rw[af (Int.toNat_natCast ..)<|af List.getElem?_map<|af (List.getElem?_eq_getElem hp) ?_];rfl) ?_];obtain ⟨i,j,y,g,hi,hj,hT,hg,Yg⟩:=(D3.di.hm _).mp<|List.getElem_mem hp;have hpe:hs[p]?=some (Su (2^b) i j):=by rw[af (List.getElem?_eq_getElem hp)<|af Yg rfl]
   rw[af Yg ?_];obtain ⟨k0,k1,k2,k3,k4,k5⟩:=k8 (x:=Su (2^b) i j) hE0 hi hj rfl;have Tn:T (cI (2^b)<|Su (2^b) i j)=.tab y g:=af k1 hT;have hg':g (cM (2^b)<|Su (2^b) i j)≠0:=af k2 hg;have Ud:Su (2^b) i j∈hs:=List.mem_of_getElem? hpe;have same:∀e:Int,e≠0->∀x,x∈hs↔(x∈hs/\x≠Su (2^b) i j)\/(e≠0/\x=Su (2^b) i j):=λe he x=>by
    constructor
    ·intro z
     by_cases w:x=Su (2^b) i j
     ·rw[.inr ⟨he,w⟩]
     ·rw[.inl ⟨z,w⟩]
    ·rintro (z|z)
     ·rw[z.1]
     ·rw[af (z.2) Ud]
   have down:∀d:Int,0<=d->d<4*((2^b:Nat):Int)->(Su (2^b) i j+d)-(Su (2^b) i j+d)%(4*((2^b:Nat):Int))=Su (2^b) i j:=λd d0 d1=>by
    rw[af (Int.add_emod ..)<|af k3<|af (Int.zero_add ..)<|af (Int.emod_emod ..)<|af (Int.emod_eq_of_lt d0 d1) ?_];lia
   left;have keepL:∀(υ:St) (f':Int->Option Int) (T':Nat->Slot) (m':Nat),m'<=m+8->∀Ur:St,Ext [RW] Ux Ur->aU Ur RW zs m'->aH υ B b m0 f' used->Ext B.ml Ur υ->aF (2^b) m0 f' root T'->cS (2^b) root T' used hs bs ms->lP Ur B b m0 root held R3 RV c f used T hs bs ms->pL U υ B b m0 root held R3 RV RW zs (c+1) (m+8):=λυ f' T' m' TA Ur Z Vk H' X' S' I' D'=>
    jx S3 X2 Z Vk TA X' Ext.refl H' S' I' (X' _ _ (λz=>S3.h<|bM z) D'.eh) (X' _ _ (λz=>S3.b<|bM z) D'.eb) (X' _ _ (λz=>S3.m<|bM z) D'.em) (by rw[Nat.le_succ_of_le Uh])
   by_cases hw7:Vo=7
   ·rw[aN (eqT hw7) ?_];obtain ⟨d3,VF⟩:=D3.bd.tab;left;rw[(cA TR hz3 (B5 hm) ac ac λad Uw a0 a1 T5 Y4=>?_).call];have hz4:=aO hz3 Y4 λy hy SE=>absurd SE<|b9 hy▸T5.pT;left;rw[(cA T5 hz4 (B6 hm) ac ac λtk Wd t0 t1 T3 Y5=>?_).call];have D5:=(D3.ext Y4 n39).ext Y5 n39;have Z:Ext [RW] Ux Wd:=(Y.trans Y4).trans Y5;left;rw[(yp (x0:=Su (2^b) i j) G D5.bd D5.sp (by rw[af (pe ..) ?_,LC hE k4]) (by rw[af (Int.add_sub_assoc ..)<|af (pe ..) ?_,down _ (KG hE)<|by lia]) ⟨k4,k5⟩ Tn hg' a0 (Jv a1) t0 (Jv t1) (λs=>?_) λcc z σ' f' Lc tt _ _=>?_).call]
    ·rw[h2 _ s<|keepL _ f T _ zV _ Z T3 D5.bd Ext.refl D5.sp D5.di D5]
    ·rw[k1,k2] at tt;rw[k2] at Lc;have hc0:g j/1024*1024+cc≠0:=λz=>by rw[z] at Lc;rw[Lc.2.2.1 ac]
     rw[⟨_,St.le_refl _,h1 _<|keepL _ f' _ _ zV _ Z T3 tt.tx.bd tt.tx.ext tt.tx.sp (D5.di.zw hE0 hi hj hT D5.di.hn<|same _ hc0) D5⟩]
   ·rw[<-az (oX hw7) ?_];obtain ⟨d3,VF⟩:=D3.bd.tab
    by_cases hw9:Vo=9
    ·rw[<-aN (eqT hw9) ?_,(l7 TR hz3 (B5 hm) ac ac (by rw[af (pe ..) ?_,Ob hE]) λc2 Uw c0 c1 T5 Y4=>?_).call];have hz4:=aO hz3 Y4 λy hy SE=>absurd SE<|b9 hy▸T5.pT;left;rw[(oU T5 hz4 (B6 hm) λfl Wd F T3 Y5=>?_).call];have D5:=(D3.ext Y4 n39).ext Y5 n39;have Z:Ext [RW] Ux Wd:=(Y.trans Y4).trans Y5;obtain ⟨P,Vg⟩:=C3 G c0 c1;have Lf:=(kZ hE0 P F).1;have hn0:we (2^b) (2^(b+2)*1*c2) fl≠0:=λz=>by rw[z] at Lf;rw[Lf.2.2.1 ac]
     left;rw[(BP (x0:=Su (2^b) i j) G D5.bd D5.sp (by rw[nN<|(i*2^b+j)*(4*2^b)+5]) (down 5 ac<|K8 hE hE0) ⟨k4,k5⟩ Tn hg' P Vg F λz σ' f' tt=>?_).call];rw[k1,k2] at tt;rw[⟨_,St.le_refl _,h1 _<|keepL _ f' _ _ zV _ Z T3 tt.tx.bd tt.tx.ext tt.tx.sp (D5.di.zw hE0 hi hj hT D5.di.hn<|same _ hn0) D5⟩]
    ·rw[<-az (oX hw9) ?_,(yN (x0:=Su (2^b) i j) G D3.bd D3.sp (by rw[nN<|(i*2^b+j)*(4*2^b)+7]) (down 7 ac<|K7 hE hE0) ⟨k4,k5⟩ Tn hg' λz σ' f' tt=>?_).call];rw[k1,k2] at tt;have tx:=tt.tx;have eh':=tx.ext _ _ (λz=>S3.h<|bM z) D3.eh;left;rw[<-cC (qp eh') ?_,qK eh' (B0 Uh hc) hpe (λl hl hq=>?_) ?_]
     ·rw[absurd ((List.getElem?_inj (KR p1 hl) D3.di.hn).mp<|hq.trans hpe.symm)<|by rw[Nat.ne_of_lt hl]]
     ·have W:Ext [held] σ'<|σ'.set held<|.list<|(hs.eraseIdx p).map .int:=Ext.put<|List.mem_singleton.mpr rfl;rw[⟨_,St.le_refl _,h1 _<|jx S3 X2 Y TR (by rw[Nat.lt_succ_of_le<|Nat.le_add_right m 7]) tx.ext (W.sub λy hy=>by rw[af (b9 hy)<|List.Mem.head [R3,RV]]) tx.bd tx.sp (D3.di.zw (e:=0) hE0 hi hj hT (D3.di.hn.sublist<|List.eraseIdx_sublist _ _) λx=>?_) St.ah (W _ _ (λz=>S3.hb (b9 z).symm)<|tx.ext _ _ (λz=>S3.b<|bM z) D3.eb) (W _ _ (λz=>S3.hm (b9 z).symm)<|tx.ext _ _ (λz=>S3.m<|bM z) D3.em)<|af (List.length_eraseIdx_of_lt hp)<|MI Uh Sq⟩];erw[iT D3.di.hn hpe]
      constructor
      ·rw[.inl]
      ·rintro (z|z)
       ·rw[z]
       ·rw[absurd rfl z.1]
end
variable {x:Int}{b:Nat}{T0:Nat->Slot}
section
variable {e z:Int}{w xr:Int}
theorem oZ:∀c:Fin 1024,∀d:Fin 2,Builtin.bitOr (Builtin.bitOr (c.val:Int) 64) (128*d.val)%256=Builtin.bitOr (Builtin.bitOr ((c.val:Int)%256) 64) (128*d.val):=by decide+kernel
theorem qE (L:fR e):aQ (bz e s)=bz (aQ e) s:=by
 obtain ⟨Ld,hd⟩:=iC (s:=s) L;erw[strip_eq Ld.1,hd];right;have Ls:=(cJ L).1;obtain ⟨h1,h2,h3⟩:=rO (s:=s) L.1;obtain ⟨k1,k2,k3⟩:=rO (s:=s) Ls.1;symm;rw[af k1<|af (cJ L).2.1 ?_];have hm:bz e s%256=bz (e%1024) s%256:=by rw[af h1 sx]
 rw[af hm ?_];obtain ⟨c,hc⟩:=wu L.1;have hs:aQ e%1024=(c.val:Int)%256:=by erw[strip_eq L.1];rw[QH hc]
 rw[af hs<|af hc ?_]
 congr 1
 unfold bz
 by_cases q:s=Str.ofString "store"
 ·rw[af (if_pos q)<|oZ c 1]
 ·rw[af (if_neg q)<|oZ c 0]
theorem AG (L:fR e):bz e s≠0:=λz=>by
 have:=(iC (s:=s) L).1;rw[z] at this;rw[this.2.2.1 ac]
theorem uz (h0:0<=e):∀m:Int,m=16\/m=8\/m=4\/m=2->Builtin.bitAnd (aQ e) m=Builtin.bitAnd e m:=by
 obtain ⟨c,hc⟩:=wu h0;have hs:aQ e%1024=(c.val:Int)%256:=af (strip_eq h0)<|QH hc;have hp:0<=aQ e:=by rw[af (strip_eq h0) ?_,s8 (Int.emod_nonneg _ ac)<|Int.ediv_nonneg h0 ac]
 right;obtain ⟨_,_,_,_,_,f1,f2,f3,f4⟩:=strip_facts c;have low:∀m:Int,0<=m->m<1024->Builtin.bitAnd ((c.val:Int)%256) m=Builtin.bitAnd c.val m->Builtin.bitAnd (aQ e) m=Builtin.bitAnd e m:=λm a b h=>by
  erw[dh 10 hp a b,dh 10 h0 a b,show (2:Int)^10=1024 from rfl,hs,hc,h]
 symm;rintro m (rfl|rfl|rfl|rfl)
 ·rw[low 16 ac ac f1]
 ·rw[low 8 ac ac f2]
 ·rw[low 4 ac ac f3]
 ·rw[low 2 ac ac f4]
theorem qc (h0:0<=e):jA (aQ e) s u w xr=jA e s u w xr:=by
 have h:=uz h0;unfold jA;rw[af (h 16<|by simp)<|af (h 8<|by simp)<|af (h 4<|by simp)<|af (h 2<|by simp) rfl]
theorem qd (h0:0<=e):aQ e/1024=e/1024:=by rw[af (strip_eq h0) ?_,sd]
theorem aF.ent (S:aF E m0 f root T)(hi:i<E)(hj:j<E):entryAt T i j=0\/fR (entryAt T i j):=by
 cases hT:T i with
 |none=>rw[.inl<|cV hT]
 |leaf e=>rw[af (cH hT)<|.inr (S.leaf i e hi hT).1]
 |tab y g=>rw[af (ck hT)<|((S.tab i y g hi hT).2.2 j hj).2]
theorem j7.ent (h:j7 E T1 T2)(hi:i<E)(hj:j<E):entryAt T2 i j=aQ (entryAt T1 i j):=by
 have hh:=h i hi
 cases hT:T1 i with
 |none=>rw[hT] at hh;erw[cV hT,cV hh];rw[gq.symm]
 |leaf e=>rw[hT] at hh;erw[cH hT,cH hh]
 |tab y g=>
  rw[hT] at hh;rcases hh with ⟨h1,h2⟩|⟨h1,y',g',h2,h3⟩
  ·rw[af (ck hT)<|af (cV h2)<|af (bR.mp h1 j hj) gq.symm]
  ·rw[af (ck hT)<|af (ck h2)<|af (h3 j hj) rfl]
theorem vW (hi:cI E x<E)(hj:cM E x<E)
 (h:(T (cI E x)=.none\/(∃y g,T (cI E x)=.tab y g/\g (cM E x)=0))/\(T' (cI E x)=.none\/(∃y g,T' (cI E x)=.tab y g/\g (cM E x)=0))\/
   (∃e e',T (cI E x)=.leaf e/\T' (cI E x)=.leaf e'/\e'/1024=e/1024)\/
   ∃y g y' g',T (cI E x)=.tab y g/\T' (cI E x)=.tab y' g'/\g (cM E x)≠0/\g' (cM E x)≠0/\g' (cM E x)/1024=g (cM E x)/1024):bH E T' x=bH E T x:=by
 have em:∀T:Nat->Slot,(T (cI E x)=.none\/(∃y g,T (cI E x)=.tab y g/\g (cM E x)=0))->bH E T x=none:=λT h=>by
  unfold bH;rcases h with h|⟨y,g,h,h'⟩
  ·rw[af h rfl]
  ·rw[af h<|if_pos h']
 rcases h with ⟨a,b⟩|⟨e,e',a,b,c⟩|⟨y,g,y',g',a,b,c,d,k⟩
 ·rw[af (em T a)<|af (em T' b) rfl]
 ·unfold bH;rw[af a<|af b ?_];simp only;rw[af c rfl]
 ·unfold bH;rw[af a<|af b ?_];simp only;rw[af (if_neg c)<|af (if_neg d)<|af k rfl]
theorem j7.zu (h:j7 E T1 T2)(S:aF E m0 f root T1)(hi:cI E x<E)(hj:cM E x<E):bH E T2 x=bH E T1 x:=by
 rw[vW hi hj ?_];have hh:=h _ hi
 cases hT:T1 (cI E x) with
 |none=>rw[hT] at hh;rw[.inl ⟨.inl rfl,.inl hh⟩]
 |leaf e=>
  rw[hT] at hh;rw[.inr<|.inl ⟨e,_,rfl,hh,qd (S.leaf _ e hi hT).1.1⟩]
 |tab y g=>
  rw[hT] at hh;rcases hh with ⟨h1,h2⟩|⟨h1,y',g',h2,h3⟩
  ·rw[.inl ⟨.inr ⟨y,g,rfl,bR.mp h1 _ hj⟩,.inl h2⟩]
  ·by_cases q:g (cM E x)=0
   ·rw[.inl ⟨.inr ⟨y,g,rfl,q⟩,.inr ⟨y',g',h2,af (h3 _ hj)<|af q gq⟩⟩]
   ·have L:=((S.tab _ y g hi hT).2.2 _ hj).2.resolve_left q;rw[.inr<|.inr ⟨y,g,y',g',rfl,h2,q,by rw[af (h3 _ hj) ?_,nM L],af (h3 _ hj)<|qd L.1⟩]
theorem Mk.zu (h:Mk E T0 T1)(hi:cI E x<E)(hj:cM E x<E):bH E T1 x=bH E T0 x:=by
 rw[vW hi hj ?_];have hh:=h _ hi
 cases hT:T0 (cI E x) with
 |none=>rw[hT] at hh;rw[.inl ⟨.inl rfl,.inl hh⟩]
 |leaf e=>
  rw[hT] at hh;obtain ⟨e',h1,h2⟩:=hh;rw[.inr<|.inl ⟨e,e',rfl,h1,h2⟩]
 |tab y g=>
  rw[hT] at hh;obtain ⟨g',h1,h2⟩:=hh
  by_cases q:g (cM E x)=0
  ·rw[.inl ⟨.inr ⟨y,g,rfl,q⟩,.inr ⟨y,g',h1,(h2 _ hj).1.mpr q⟩⟩]
  ·rw[.inr<|.inr ⟨y,g,y,g',rfl,h1,q,λz=>q<|(h2 _ hj).1.mp z,(h2 _ hj).2⟩]
theorem Mk.refl:Mk E T T:=λi hi=>by
 cases hT:T i with
 |none=>rw[rfl]
 |leaf e=>rw[⟨e,rfl,rfl⟩]
 |tab y g=>rw[⟨g,rfl,λj _=>⟨Iff.rfl,rfl⟩⟩]
theorem lV (h:bH E T x=some z):(∃e,T (cI E x)=.leaf e)\/∃y g,T (cI E x)=.tab y g/\g (cM E x)≠0:=by
 unfold bH at h
 cases hT:T (cI E x) with
 |none=>rw[hT] at h;rw[aq h]
 |leaf e=>rw[.inl ⟨e,rfl⟩]
 |tab y g=>
  rw[hT] at h;simp only at h
  split at h
  ·rw[aq h]
  ·rename_i q;rw[.inr ⟨y,g,rfl,q⟩]
theorem Mk.uw (h:Mk E T0 T1)(S:aF E m0 f root T1)(hi:i<E)(hj:j<E)(hp:(∃e,T1 i=.leaf e)\/∃y g,T1 i=.tab y g/\g j≠0):Mk E T0<|upd T1 i<|lR s j<|T1 i:=λl hl=>by
 by_cases q:l=i
 ·clear hi;subst q;rw[af aB ?_];have hh:=h l hl
  cases hT:T0 l with
  |none=>rw[hT] at hh;rw[show T1 l=.none from hh] at hp;rcases hp with ⟨_,z⟩|⟨_,_,z,_⟩<;>rw[bU Slot.ctorIdx z rfl]
  |leaf e=>
   rw[hT] at hh;obtain ⟨e',h1,h2⟩:=hh;rw[af h1 ⟨_,rfl,((iC (S.leaf l e' hl h1).1).2).trans h2⟩]
  |tab y g=>
   rw[hT] at hh;obtain ⟨g',h1,h2⟩:=hh;rw[af h1 ?_,⟨_,rfl,λk hk=>?_⟩]
   by_cases w:k=j
   ·clear hj;subst w;rw[af aB ?_];rcases hp with ⟨_,z⟩|⟨y2,g2,z,hg⟩
    ·rw[h1] at z;rw[bU Slot.ctorIdx z rfl]
    ·rw[h1] at z;cases z;have L:=((S.tab l _ _ hl h1).2.2 k hk).2.resolve_left hg;rw[⟨⟨λz=>absurd z<|AG L,λz=>absurd ((h2 k hk).1.mpr z) hg⟩,((iC L).2).trans (h2 k hk).2⟩]
   ·rw[af (aJ w)<|h2 k hk]
 ·rw[af (aJ q)<|h l hl]
theorem j7.uw (h:j7 E T1 T2)(S:aF E m0 f root T1)(hi:i<E)(hj:j<E)(hp:(∃e,T1 i=.leaf e)\/∃y g,T1 i=.tab y g/\g j≠0):j7 E (upd T1 i<|lR s j<|T1 i)<|upd T2 i<|lR s j<|T2 i:=λl hl=>by
 by_cases q:l=i
 ·clear hi;subst q;rw[af aB<|af aB ?_];have hh:=h l hl;rcases hp with ⟨e,hT⟩|⟨y,g,hT,hg⟩
  ·rw[hT] at hh ⊢;erw[show T2 l=.leaf (aQ e) from hh];show (Slot.leaf _)=.leaf (aQ<|bz e s);rw[af (qE (S.leaf l e hl hT).1) rfl]
  ·rw[hT] at hh ⊢;rcases hh with ⟨h1,_⟩|⟨h1,y',g',h2,h3⟩
   ·rw[absurd (bR.mp h1 j hj) hg]
   ·rw[af h2 ?_];have L:=((S.tab l y g hl hT).2.2 j hj).2.resolve_left hg;rw[.inr ⟨?_,y',_,rfl,λk hk=>?_⟩]
    ·cases w:bX E (upd g j<|bz (g j) s) with
     |false=>rfl
     |true=>have:=bR.mp w j hj;rw[aB] at this;rw[absurd this<|AG L]
    ·by_cases w:k=j
     ·clear hj hg;subst w;rw[af aB<|af aB<|af (h3 k hk)<|af (qE L) rfl]
     ·rw[af (aJ w)<|af (aJ w)<|h3 k hk]
 ·rw[af (aJ q)<|af (aJ q)<|h l hl]
theorem p8 (hp:(∃e,T i=.leaf e)\/∃y g,T i=.tab y g/\g j≠0):∀x,fL E root (upd T i<|lR s j<|T i) x↔fL E root T x:=λx=>by
 rcases hp with ⟨e,hT⟩|⟨y,g,hT,_⟩
 ·rw[af hT ?_,q8 (s:=.leaf _) (by rw[af hT ?_];trivial) trivial]
 ·rw[af hT<|n6 hT]
end
section
theorem uT {α:Type}{t S8:Expr}{Tc:List Expr}{Sj:Src}{k:List V->St->Prop}(fv:α->V)(all:List α)(I:List α->List V->St->Prop)(Ti:∀done Sa U,I done Sa U->bJ U Sj)
 (step:∀done x Sa U,(∃rest,all=done++x::rest)->I done Sa U->fF D n sc t (fv x) lo U (λRY RS=>lo.le RY/\vJ D n sc Tc RY RS λb RU=>if b=true then bY D n sc S8 RY RU (λy R1=>I (done++[x]) (Sa++[y]) R1) xg else I (done++[x]) Sa RU) gF)
 (fin:∀Sa U,I all Sa U->k Sa U):∀(xs done:List α) (Sa:List V) (U:St),all=done++xs->I done Sa U->yy D n sc t Tc S8 lo Sj (xs.map fv) Sa U k
 |[],done,Sa,U,he,h=>fin Sa U (af he<|af (List.append_nil ..) h)
 |x::xs,done,Sa,U,he,h=>by
  intro c v' hc hs Sk SD i;rw[wpAny_mono (step done x Sa U ⟨xs,he⟩ h c v' hc hs Sk SD i) (λ_ RT ⟨l,τ,RX,SX,le,q⟩=>⟨l,τ,RX,SX,le,q.mono λb RU q=>?_⟩) λ_ _ z=>z];have To:all=(done++[x])++xs:=by rw[af he ?_];simp
  cases b with
  |false=>
   rw[if_neg ac] at q ⊢;rw[⟨RU,St.le_refl _,Ti _ _ _ q,uT fv all I Ti step fin xs _ Sa RU To q⟩]
  |true=>
   rw[if_pos rfl] at q ⊢;rw[q.mono (λy R1 q=>⟨R1,St.le_refl _,Ti _ _ _ q,uT fv all I Ti step fin xs _ (Sa++[y]) R1 To q⟩) λ_ _ _ z=>z]
theorem wB {α:Type}{t:Expr}{k:List V->St->Prop}(fv:α->V)(all:List α)(I:List α->List V->St->Prop)(Ti:∀done Sa U,I done Sa U->bJ U Sj)
 (step:∀done x Sa U,(∃rest,all=done++x::rest)->I done Sa U->fF D n sc t (fv x) lo U (λRY RS=>lo.le RY/\bY D n sc S8 RY RS (λy R1=>I (done++[x]) (Sa++[y]) R1) xg) gF)
 (fin:∀Sa U,I all Sa U->k Sa U) (U:St) (h:I [] [] U):yy D n sc t [] S8 lo Sj (all.map fv) [] U k:=by
 rw[uT fv all I Ti (λdone x Sa U hr hI c v' hc hs Sk SD i=>wpAny_mono (step done x Sa U hr hI c v' hc hs Sk SD i) (by rintro _ RT ⟨l,τ,RX,SX,le,q⟩;rw[⟨l,τ,RX,SX,le,aN (B:=I (done++[x]) Sa τ) rfl q⟩]) λ_ _ z=>z) fin all [] [] U rfl h]
end
section
variable {z:Int}{t:It} 
def Fp (E:Nat)(x:Int)(t:It):Prop:=t.1=cI E x/\∀j,t.2.1=some j->j=cM E x
theorem M5 (hE:1<E)(h0:0<=x)(hi:t.1<E)(hj:∀j,t.2.1=some j->j<E):(nj E x (uS E<|gP E t)↔Fp E x t)/\(Fp E x t->x-eV E t=if t.2.1=none then x%(4*E*E) else x%(4*E)):=by
 obtain ⟨a,o,e⟩:=t;have hp:(0:Int)<4*E:=Kd hE;have e1:(4:Int)*E*E=E*(4*E):=by ac_rfl
 have k1:=rA (E:=E) h0;have k2:=uV (E:=E) (by rw[Nat.le_of_lt hE]) h0;have d0:=Int.emod_add_mul_ediv x<|4*E;have m0:=Int.emod_nonneg x (show (4*(E:Int))≠0 by rw[Int.ne_of_gt hp]);have m1:=Int.emod_lt_of_pos x hp;have d1:=Int.emod_add_mul_ediv (x/(4*E)) E;rw[k1,k2] at d1
 cases o with
 |none=>
  have hl:nj E x (uS E<|gP E (a,none,e))=(eV E (a,none,e)<=x/\x<eV E (a,none,e)+4*(E:Int)*E):=by
   show (eV E (a,none,e)<=x/\x<eV E (a,none,e)+(if decide (sj E (a,none,e)=4*(E:Int)*E)=true then 4*(E:Int)*E else 4*(E:Int)))=_;erw[if_pos<|decide_eq_true<|show sj E (a,none,e)=_ from if_pos rfl]
  have hA:eV E (a,none,e)=(a:Int)*(4*E*E):=by
   show ((a:Int)*E+((0:Nat):Int))*(4*E)=_;rw[af (show ((0:Nat):Int)=0 from rfl)<|af (Int.add_zero ..) ?_];ac_rfl
  have q1:x=(cI E x:Int)*(4*E*E)+((cM E x:Int)*(4*E)+x%(4*E)):=by
   have:4*(E:Int)*(x/(4*E))=(cI E x:Int)*(4*E*E)+(cM E x:Int)*(4*E):=by
    rw[af (Eq.symm<|d1)<|af (Int.mul_add ..)<|af (Int.add_comm ..) ?_]
    congr 1<;>ac_rfl
   rw[d0.symm.trans<|af this<|(Int.add_comm ..).trans<|Int.add_assoc ..]
  have q2:0<=(cM E x:Int)*(4*E):=Int.mul_nonneg (by rw[nN<|cM E x]) (by rw[Int.NonNeg.mk<|4*E+0]);have q3:(cM E x:Int)*(4*E)+4*E<=4*E*E:=by
   have:=Int.mul_le_mul_of_nonneg_right (show (cM E x:Int)+1<=E by have:=fX (E:=E) (x:=x) (by rw[Nat.le_of_lt hE]);rw[Kx k2 this])<|Int.le_of_lt hp;rw[Int.add_mul,Int.one_mul] at this;rw[Int.le_trans this<|Int.le_of_eq<|Int.mul_comm ..]
  have hL:(0:Int)<=4*E*E:=by rw[nN<|4*E*E]
  rw[af hl<|af hA ?_];have cov:(a:Int)*(4*E*E)<=x/\x<(a:Int)*(4*E*E)+4*E*E↔a=cI E x:=by
   constructor
   ·rintro ⟨h1,h2⟩;rcases Nat.lt_trichotomy a (cI E x) with z|z|z
    ·have:=Int.mul_le_mul_of_nonneg_right (show (a:Int)+1<=cI E x by rw[Int.ofNat_lt.mpr z]) hL;rw[Int.add_mul,Int.one_mul] at this;rw[QD (O4 q1 q2 m0 m1 q3) h2 this]
    ·rw[z]
    ·have:=Int.mul_le_mul_of_nonneg_right (show (cI E x:Int)+1<=a by rw[Int.ofNat_lt.mpr z]) hL;rw[Int.add_mul,Int.one_mul] at this;rw[QE (O4 q1 q2 m0 m1 q3) h1 this]
   ·intro z;rw[af z ?_,O4 q1 q2 m0 m1 q3]
  rw[⟨cov.trans ⟨λz=>⟨z,λj w=>by rw[aq w]⟩,And.left⟩,λc=>?_⟩,af (if_pos rfl) ?_];have ha:a=cI E x:=c.1;have:x%(4*E*E)=(cM E x:Int)*(4*E)+x%(4*E):=by
   conv=>lhs;erw[q1]
   rw[af (Int.add_comm ..)<|af (Int.add_mul_emod_self_right ..)<|Int.emod_eq_of_lt (by rw[Int.add_nonneg q2 m0])<|MD q3 d0 m1]
  rw[af this<|af ha ?_];lia
 |some j=>
  have hj:=hj j rfl;have hl:nj E x (uS E<|gP E (a,some j,e))=(eV E (a,some j,e)<=x/\x<eV E (a,some j,e)+4*(E:Int)):=by
   show (eV E (a,some j,e)<=x/\x<eV E (a,some j,e)+(if decide (sj E (a,some j,e)=4*(E:Int)*E)=true then 4*(E:Int)*E else 4*(E:Int)))=_;erw[if_neg];intro z;have z:=of_decide_eq_true z;have z:4*(E:Int)=4*E*E:=z;have:=Int.mul_lt_mul_of_pos_left (show (1:Int)<E by rw[Int.ofNat_lt.mpr hE]) hp;rw[Int.ne_of_lt (Int.lt_of_le_of_lt (Int.le_of_eq (Int.mul_one _).symm) this) z]
  obtain ⟨c0,c1,c2,c3,c4,c5⟩:=k8 (x:=eV E (a,some j,e)) (show 0<E by rw[Nat.le_of_lt hE]) hi hj rfl;have hA:eV E (a,some j,e)=4*E*((a:Int)*E+j):=by
   show ((a:Int)*E+(j:Int))*(4*E)=_
   ac_rfl
  have cov:eV E (a,some j,e)<=x/\x<eV E (a,some j,e)+4*E↔x/(4*E)=(a:Int)*E+j:=by
   rw[af hA ?_]
   constructor
   ·rintro ⟨h1,h2⟩;rw[Int.le_antisymm ?_ ?_]
    ·have:=Int.ediv_lt_of_lt_mul hp (show x<((a:Int)*E+j+1)*(4*E) by rw[af (Int.add_mul ..)<|af (Int.one_mul ..)<|af (Int.mul_comm ..) h2]);rw[Mb this c0]
    ·rw[(Int.le_ediv_iff_mul_le hp).mpr<|af (Int.mul_comm ..) h1]
   ·intro z;rw[af (Eq.symm<|z)<|MO d0 m1 m0]
  have cov2:x/(4*E)=(a:Int)*E+j↔a=cI E x/\j=cM E x:=by
   constructor
   ·intro z;have z':x/(4*E)=eV E (a,some j,e)/(4*E):=by rw[af c0<|af z rfl]
    unfold cI at c1 ⊢;unfold cM at c2 ⊢;rw[af z' ⟨c1.symm,c2.symm⟩]
   ·clear hi hj hl c0 c1 c2 c3 c4 c5 hA cov;rintro ⟨rfl,rfl⟩;rw[af (Eq.symm<|d1)<|af (Int.add_comm ..) ?_];congr 1;ac_rfl
  rw[af hl<|af (propext cov)<|af (propext cov2) ?_,⟨⟨λz=>⟨z.1,λj' w=>by (replace w:=sI w;subst w);rw[z.2]⟩,λz=>⟨z.1,z.2 j rfl⟩⟩,λc=>?_⟩,af (if_neg λz=>nomatch z) ?_];have:=cov2.mpr ⟨c.1,c.2 j rfl⟩;rw[af hA<|af (Eq.symm<|this) ?_,(Int.emod_def ..).symm]
theorem yb (hE:1<E)(h0:0<=x)(hi:cI E x<E)(hj:cM E x<E)(hp:pt.map (·.2)=items E T E)(hz:bH E T x=some z):gD E x (pt.map<|dI E)=some z:=by
 have val:∀p∈pt,(nj E x (dI E p).2↔Fp E x p.2)/\(Fp E x p.2->(dI E p).2.2.1+x-(dI E p).2.1=z):=λp Sn=>by
  have hm:p.2∈items E T E:=hp▸List.mem_map_of_mem Sn;obtain ⟨h1,h2⟩:=bQ.mp hm;obtain ⟨a,t⟩:=p;have VP:∀j,t.2.1=some j->j<E:=λj e=>by
   unfold Bk at h2;dsimp only at h2;rw[e] at h2;rw[h2.1]
  obtain ⟨l1,l2⟩:=M5 (t:=t) (x:=x) hE h0 h1 VP;rw[⟨l1,λc=>?_⟩,af (Int.add_sub_assoc ..)<|af (l2 c) ?_];unfold bH at hz;obtain ⟨i,o,e⟩:=t;have c1:i=cI E x:=c.1;subst c1
  cases o with
  |none=>
   rw[show T (cI E x)=.leaf e from h2] at hz;rw[af (if_pos rfl)<|Option.some.inj hz]
  |some j=>
   obtain ⟨h3,y,g,h4,h5,h6⟩:=h2;have cj:j=cM E x:=c.2 j rfl;clear Sn hm h1 VP l1 l2 c h3;subst cj;rw[show T (cI E x)=.tab y g from h4] at hz;simp only at hz;rw[if_neg<|by rw[af (show g (cM E x)=e from h5) ?_,h6],show g (cM E x)=e from h5] at hz;rw[af (if_neg λz=>nomatch z)<|Option.some.inj hz]
 have ex:∃p∈pt,Fp E x p.2:=by
  have:∃t∈items E T E,Fp E x t:=by
   rcases lV hz with ⟨e,hT⟩|⟨y,g,hT,hg⟩
   ·rw[⟨(cI E x,none,e),bQ.mpr ⟨hi,hT⟩,rfl,λj w=>by rw[aq w]⟩]
   ·rw[⟨(cI E x,some<|cM E x,g<|cM E x),bQ.mpr ⟨hi,hj,y,g,hT,rfl,hg⟩,rfl,λj w=>by (replace w:=sI w;subst w);rfl⟩]
  obtain ⟨t,ht,c⟩:=this;rw[<- hp] at ht;obtain ⟨p,Sn,rfl⟩:=List.mem_map.mp ht;rw[⟨p,Sn,c⟩]
 clear hp
 induction pt with
 |nil=>obtain ⟨_,h,_⟩:=ex;cases h
 |cons p ps ih=>
  show (if nj E x (dI E p).2 then some ((dI E p).2.2.1+x-(dI E p).2.1) else gD E x (ps.map<|dI E))=some z;obtain ⟨v1,v2⟩:=val p List.mem_cons_self
  by_cases c:Fp E x p.2
  ·rw[af (if_pos<|v1.mpr c)<|af (v2 c) rfl]
  ·erw[if_neg λw=>c<|v1.mp w];rw[ih (λq hq=>val q<|List.mem_cons_of_mem _ hq) ?_];obtain ⟨q,hq,hc⟩:=ex;rcases ek hq with w|w
   ·clear val v1 v2 hq;subst w;rw[absurd hc c]
   ·rw[⟨q,w,hc⟩]
end
variable {D1 D2 b' Se Sh SI SQ:Addr}{m:Nat}
section
variable {zs:List Addr}{c:Nat}{r1 r2:Int} 
noncomputable def Ca (r:Ln):PyData:=.list [.int r.1,.int r.2.1,.int r.2.2.1,.bool r.2.2.2]
theorem tu (h:∀p∈ps,U p.1=some (.list<|Fx p.2)):fS U (ps.map λp=>V.ref p.1)<|ps.map λp=>Ca p.2:=by
 induction ps with
 |nil=>rw[.nil]
 |cons p ps ih=>rw[.cons (.list (h p List.mem_cons_self)<|.cons (.int _)<|.cons (.int _)<|.cons (.int _)<|.cons (.bool _) .nil)<|ih λq hq=>h q<|List.mem_cons_of_mem _ hq]
theorem qt (r:Ln):(Ca r).canLay0=true/\(Ca r).depth<=1:=by rw[⟨rfl,Nat.le.refl⟩]
theorem E7 (L:gW U ls ps)(hb:U b'=some (.list []))(h:k (.bool<|!decide (ps=[])) U):cZ (Dd q) n .NotEq (.ref ls) (.ref b') U k ke:=by
 have e:∀ds:List PyData,PyData.eqv (.list ds) (.list [])=decide (ds=[]):=λds=>by cases ds<;>rfl
 rw[jL (.list L.it<|tu L.each) (.list hb .nil) ?_ rfl ?_]
 ·have:=dG Ca 1 ac qt (ps.map (·.2));rw[List.map_map] at this;rw[this]
 ·rw[af (e ..) ?_];have:decide (ps.map (λp=>Ca p.2)=[])=decide (ps=[]):=by clear L h;cases ps<;>rfl
  rw[af this h]
theorem iH.om (D:iH U B1 B2 b m1 m2 r1 r2 T1 T2)(hl:U l=none):l∉B1.al/\l∉B2.al:=by
 obtain ⟨_,_,_,_,D⟩:=D;rw[⟨λw=>?_,λw=>?_⟩]
 ·have hn:=D.j6.om hl;rw[hn _ (nc w) rfl]
 ·have hn:=D.jc.om hl;rw[hn _ (nc w) rfl]
theorem dj.iS (O:dj U D1 SI Se B1)(hb:aU U RW zs m):RW≠D1/\RW≠SI/\RW≠Se:=by
 right;obtain ⟨o1,⟨_,o2⟩,⟨_,_,o3⟩⟩:=O;obtain ⟨_,_,_,_,_,w,_⟩:=hb;symm;rw[⟨λz=>?_,λz=>?_,λz=>?_⟩]<;>subst z
 ·rw[w.it] at o1;rw[bU bI.ctorIdx (sI o1) rfl]
 ·rw[w.it] at o2;rw[bU bI.ctorIdx (sI o2) rfl]
 ·rw[w.it] at o3;rw[bU bI.ctorIdx (sI o3) rfl]
theorem dj.om (O:dj U D1 SI Se B1)(hl:U l=none):l≠D1/\l≠SI/\l≠Se:=by
 obtain ⟨o1,⟨_,o2⟩,⟨_,_,o3⟩⟩:=O;rw[⟨λz=>?_,λz=>?_,λz=>?_⟩]<;>subst z
 ·rw[ak hl o1]
 ·rw[ak hl o2]
 ·rw[ak hl o3]
theorem dj.pS (O:dj U D1 SI Se B1)(H:aH U B b m0 f used):∀y∈B.ml,y≠D1/\y≠SI/\y≠Se:=λy hy=>by
 obtain ⟨o1,⟨_,o2⟩,⟨_,_,o3⟩⟩:=O;obtain ⟨_,⟨_,h3⟩,⟨u,gv,hf,⟨⟨d4,h4⟩,h5,h6⟩,ok⟩,_,_⟩:=H;replace hy:=zI hy;have val:∃o,U y=some o/\(∀es,o≠ .j9 es)/\(∀d ats,o≠ .inst 266 d ats)/\∀d ats,o≠ .inst 721 d ats:=by
  rcases hy with z|z|z|z<;>subst z
  ·rw[⟨_,h3,by lia,by lia,by lia⟩]
  ·rw[⟨_,h4,by simp,by simp,by simp⟩]
  ·rw[⟨_,h5,by lia,by lia,by lia⟩]
  ·rw[⟨_,h6,by lia,by lia,by lia⟩]
 obtain ⟨o,e,v1,v2,v3⟩:=val;rw[⟨λz=>?_,λz=>?_,λz=>?_⟩]
 ·rw[z,o1] at e;(clear v2 v3;obtain rfl:=sI e;clear e);rw[v1 _ rfl]
 ·rw[z,o2] at e;(clear v1;obtain rfl:=sI e;clear e);rw[v2 _ _ rfl]
 ·rw[z,o3] at e;(obtain rfl:=sI e;clear e);rw[v3 _ _ rfl]
theorem yu (h:k (.bool false) U):cZ (Dd q) n .NotEq (kY b T x) (kY b T x) U k ke:=by
 have key:∀v:V,(v=.none\/∃i o,v=.tup [.int i,BK o])->cZ (Dd q) n .NotEq v v U k ke:=by
  rintro v (rfl|⟨i,o,rfl⟩)
  ·rw[jL .none .none rfl rfl (af (show PyData.eqv .none .none=true by simp [PyData.eqv]) h)]
  ·cases o with
   |none=>rw[jL (.tup<|.cons (.int _)<|.cons .none .nil) (.tup<|.cons (.int _)<|.cons .none .nil) rfl rfl (af (show PyData.eqv (.tuple [.int i,.none]) (.tuple [.int i,.none])=true by simp [PyData.eqv,PyData.eqvAll]) h)]
   |some z=>rw[jL (.tup<|.cons (.int _)<|.cons (.int _) .nil) (.tup<|.cons (.int _)<|.cons (.int _) .nil) rfl rfl (af (show PyData.eqv (.tuple [.int i,.int z]) (.tuple [.int i,.int z])=true by simp [PyData.eqv,PyData.eqvAll]) h)]
 rw[key _ ?_];unfold kY
 by_cases Ud:fB b x
 ·rw[af (if_pos Ud)<|.inr ⟨_,_,rfl⟩]
 ·rw[af (if_neg Ud)<|.inl rfl]
theorem qw {t:It}(h4:4<=E)(WW:E<=32)(h:t∈items E T E):0<=eV E t/\eV E t<131072/\0<sj E t/\sj E t<=4096:=by
 obtain ⟨q1,q2⟩:=bQ.mp h;have h1:(4:Int)*E*E<=128*32:=Int.mul_le_mul (by rw[Int.mul_le_mul_of_nonneg_left (Int.ofNat_le.mpr WW) ac]) (by rw[Int.ofNat_le.mpr WW]) (by rw[nN E]) ac;have h2:=Int.mul_le_mul h1 (show (E:Int)<=32 by rw[Int.ofNat_le.mpr WW]) (by rw[nN E]) ac;have h3:(0:Int)<4*E*E:=Int.mul_pos (Int.mul_pos ac<|Dc h4)<|Dc h4;obtain ⟨i,o,e⟩:=t;have hj:o.getD 0<E:=by
  cases o with
  |none=>show 0<E;rw[JE h4]
  |some j=>rw[q2.1]
 obtain ⟨_,_,_,_,k4,k5⟩:=k8 (x:=eV E (i,o,e)) (show 0<E by rw[JE h4]) q1 hj rfl;rw[⟨k4,LP h2 k5,?_,?_⟩]
 ·unfold sj;split<;>lia
 ·unfold sj;split<;>lia
@[reducible] def ry (D1 D2 ls RW pl lay:Addr) (r1 r2 nr:Int) (Sv:Bool) (t:Lo):Lo:=("one",.ref D1)::("root",.int r1)::("other",.ref D2)::("far",.int r2)::("lines",.ref ls)::("box",.ref RW)::("is_short",.bool Sv)::("layout",.ref lay)::("places",.ref pl)::("near",.int nr)::t
inductive Qa (D1 D2 ls RW pl lay:Addr)(r1 r2:Int)(Sv:Bool)(Sx:St)(done:List<|Addr×It)(lo:Lo)(τ:St):Prop
 |mk (e:lo=ry D1 D2 ls RW pl lay r1 r2 0 Sv []) (X:Ext [pl] Sx τ) (qs:List Int) (h1:τ pl=some (.list (qs.map .int))) (h2:qs.length<=3+5*done.length) (h3:∀x∈qs,0<=x/\x<2^40)
inductive P9 (D1 D2 ls RW pl lay:Addr)(r1 r2:Int)(Sv:Bool)(zs:List Addr)(m:Nat)(τ:St)(f:Fl)(l:Lo)(υ:St):Prop
 |mk (ef:f=.next) (nr:Int) (e:l=ry D1 D2 ls RW pl lay r1 r2 nr Sv []) (h0:0<=nr) (h1:nr<2^40) (hb:aU υ RW (pl::zs) (m+1)) (X:Ext [RW] τ υ)
inductive NW (D1 D2 ls RW pl as:Addr)(B1 B2:Bd)(b:Nat)(m1 m2 r1 r2 nr:Int)(Sv:Bool)(T0:Nat->Slot)(Xy:St)(lo:Lo)(ω:St):Prop
 |mk (e:lo=ry D1 D2 ls RW pl B1.lay r1 r2 nr Sv [("asked",.ref as)]) (X:Ext (B1.ml++B2.ml) Xy ω) (T1 T2:Nat->Slot) (D:iH ω B1 B2 b m1 m2 r1 r2 T1 T2) (M:Mk (2^b) T0 T1) (S:j7 (2^b) T1 T2)
theorem BA {Sv:Bool}(D:iH U B1 B2 b m1 m2 r1 r2 T1 T2)(M:Mk (2^b) T0 T1)(Sm:j7 (2^b) T1 T2)(L:gW U ls<|pt.map<|dI<|2^b)(hp:pt.map (·.2)=items (2^b) T0 (2^b))(Sd:pt.length<=60)
 (O1:dj U D1 SI Se B1) (O2:dj U D2 SQ Sh B2) (hb:aU U RW zs m) (hz:∀y∈zs,U y≠none) (hm:m<2^39) (nb:RW∉B1.al/\RW∉B2.al) (nl:ls∉RW::(B1.ml++B2.ml)) (Xi:∀p∈pt,p.1∉RW::(B1.ml++B2.ml)) (hB:∀y∈B1.ml++B2.ml,y∈zs)
 (h:∀σ' UN T4,iH σ' B1 B2 b m1 m2 r1 r2 UN T4->Mk (2^b) T0 UN->j7 (2^b) UN T4->aU σ' RW zs (m+1024)->Ext (RW::(B1.ml++B2.ml)) U σ'->k (.bool true) σ'):
 ay (Dd q) (n+10) (.ref 935) [.ref D1,.int r1,.ref D2,.int r2,.ref ls,.ref RW,.bool Sv] U k ke:=by
 rw[Ak ["one","root","other","far","lines","box","is_short"] rfl rfl (λ_=>rfl) ?_];have hE:=(let ⟨_,_,_,_,D⟩:=D;D.g2.e:4<=2^b/\2^b<=32);obtain ⟨dt,UM⟩:=(let ⟨_,_,_,_,D⟩:=D;D.j6.tab);have UT:=(let ⟨_,_,_,_,D⟩:=D;D.j6.lay:gb U B1.lay b);obtain ⟨dl,WO⟩:=id UT;rw[<-xt rfl ?_,<-aS O1.dict rfl ?_,Cut.mk ?_,xt rfl ?_,<-iL ?_ (by intro env e;rfl) (by intro env e;cases env;subst e;rfl),⟨by simp,λpl Uv=>?_⟩];have X1:Ext [] U<|U.set pl<|.list [.int 0,.int<|2^(b+2)*2^b*2^b-1,.int<|2^(b+2)*2^b*2^b]:=Ext.fresh Uv;have epl:(U.set pl<|.list [.int 0,.int<|2^(b+2)*2^b*2^b-1,.int<|2^(b+2)*2^b*2^b]) pl=some (.list<|[0,2^(b+2)*2^b*2^b-1,2^(b+2)*2^b*2^b].map .int):=St.ah;have UG:(0:Int)<2^(b+2)*2^b*2^b/\(2:Int)^(b+2)*2^b*2^b<=131072:=by
  rw[af (pe ..)<|af (iG ..) ?_];obtain ⟨e,he⟩:∃e:Nat,2^b=e:=⟨_,rfl⟩;rw[he] at hE ⊢;rw[⟨Int.mul_pos (Int.mul_pos (Li he hE)<|J2 he hE)<|J2 he hE,?_⟩];have h1:(4:Int)*e*e<=128*32:=Int.mul_le_mul (Ky he hE) (JT he hE) (by rw[nN e]) ac;have h2:=Int.mul_le_mul h1 (show (e:Int)<=32 by rw[JT he hE]) (by rw[nN e]) ac;rw[h2]
 have Tt:=hb.grow (o:=.list [.int 0,.int<|2^(b+2)*2^b*2^b-1,.int<|2^(b+2)*2^b*2^b]) Uv;generalize U.set pl (.list [.int 0,.int<|2^(b+2)*2^b*2^b-1,.int<|2^(b+2)*2^b*2^b])=Sx at X1 epl Tt ⊢;left;rw[<-⟨by simp,?_⟩];have L1:=L.ext X1 nz λp _ z=>nomatch z;have TP:=X1 _ _ nz WO;have npl:ls≠pl:=kE L.it Uv;have npp:∀p∈pt,p.1≠pl:=λp Sn z=>by
  have:=L.each _<|List.mem_map_of_mem (f:=dI<|2^b) Sn;rw[show (dI (2^b) p).1=p.1 from rfl,z,Uv] at this;rw[aq this]
 have npy:B1.lay≠pl:=λz=>by rw[z,Uv] at WO;rw[aq WO]
 have nbx:RW≠pl:=λz=>by
  obtain ⟨_,_,_,_,_,w,_⟩:=hb;rw[<- z,w.it] at Uv;rw[gu Uv]
 rw[Cut.mk ?_,xc rfl ?_,<-dz ?_,aV L1.it ?_,af List.map_map ?_,gR (λp:Addr×It=>V.ref p.1) pt (Qa D1 D2 ls RW pl B1.lay r1 r2 Sv Sx) ⟨rfl,Ext.refl,_,epl,by rw[Nat.le.refl],λx hx=>?_⟩ ?_ ?_ ?_]
 ·simp only [List.mem_cons,List.not_mem_nil,or_false] at hx;rcases hx with rfl|rfl|rfl<;>first|decide|exact ⟨Int.le_sub_one_of_lt UG.1,Int.lt_of_le_of_lt (Int.le_trans (Int.sub_le_self _<|by decide) UG.2)<|by decide⟩|exact ⟨Int.le_of_lt UG.1,Int.lt_of_le_of_lt UG.2<|by decide⟩
 ·rintro done lo τ ⟨_,X,_⟩;rw[(X _ _ (λz=>npl<|b9 z) L1.it).trans<|by rw[af List.map_map rfl]]
 ·rintro done p lo τ ⟨rest,hr⟩ ⟨rfl,X,qs,eq,ql,qb⟩;have hpt:p∈pt:=af hr<|List.mem_append_right _ List.mem_cons_self;have hdl:done.length<=60:=by have:=congrArg List.length hr;rw[List.length_append] at this;lia
  have Uh:τ p.1=some (.list<|Fx<|uS (2^b)<|gP (2^b) p.2):=X _ _ (λz=>npp p hpt<|b9 z)<|L1.each _<|List.mem_map_of_mem (f:=dI<|2^b) hpt;have UC:=X _ _ (λz=>npy<|b9 z) TP;have hA:0<=eV (2^b) p.2/\eV (2^b) p.2<131072/\0<sj (2^b) p.2/\sj (2^b) p.2<=4096:=by
   rw[qw hE.1 hE.2 (T:=T0)<|af (Eq.symm<|hp)<|List.mem_map_of_mem hpt]
  have hitz:sj (2^b) p.2=4*((2^b:Nat):Int)*((2^b:Nat):Int)\/sj (2^b) p.2=4*((2^b:Nat):Int):=by
   unfold sj
   split
   ·rw[.inl rfl]
   ·rw[.inr rfl]
  generalize hA0:eV (2^b) p.2=A at hA;generalize hZ0:sj (2^b) p.2=Z at hA hitz;have hlv:τ p.1=some (.list [.int A,.int<|p.2.2.2/1024*(4*((2^b:Nat):Int)),.int<|p.2.2.2%1024%256,.bool<|decide (Z=4*((2^b:Nat):Int)*((2^b:Nat):Int))]):=af Uh<|af (Eq.symm<|hA0)<|af (Eq.symm<|hZ0) rfl
  with_reducible rw[pF (by decide) ?_]
  rw[xc rfl ?_,<-dB (names:=["begin","size"]) ?_ ac (by rintro ⟨⟩ z;subst z;rfl),aC hlv ac ac rfl ?_]
  iterate 1 fail
  rw[bY.mono (k:=λx υ=>x=.int Z/\υ=τ) (ke:=xg) ?_ ?_ λ_ _ _ z=>z.elim]
  ·left;rw[<-aC hlv ac ac rfl ?_]
   by_cases hz:Z=4*((2^b:Nat):Int)*((2^b:Nat):Int)
   ·rw[<-aN (dT hz) ?_,⟨by rw[af hz<|af (pe ..)<|af (iG ..) rfl],rfl⟩]
   ·rw[<-az (dF hz) ?_,⟨by rw[af (hitz.resolve_left hz)<|af (pe ..) rfl],rfl⟩]
  clear Uh UC;rintro _ υ ⟨rfl,rfl⟩;left;rw[<-⟨by simp,rfl,?_⟩,<-cC (lY eq) ?_,<-CH (by rw[Nat.succ_pos _]) ?_,gT ac ac ?_,<-af (Int.fdiv_eq_ediv_of_nonneg _ ac) ?_,⟨by simp,λl3 Tj=>?_⟩];have ne3:pl≠l3:=kE eq Tj;left;rw[mw ((St.ai ne3).trans eq) St.ah (by rw[af (cD ..) ?_];show qs.length+5<=100000;rw[Nat.le_trans (Nat.add_le_add_right (Nat.le_trans ql<|Nat.add_le_add_left (Nat.mul_le_mul_left 5 hdl) 3) 5) ac]) ?_,⟨(ry D1 D2 ls RW pl B1.lay r1 r2 0 Sv []),_,Lo.bg ⟨rfl,rfl,rfl,rfl,rfl,rfl,rfl,rfl,rfl,rfl,trivial⟩,St.le_refl _,rfl,(X.trans<|Ext.fresh Tj).trans<|Ext.put<|List.mem_singleton.mpr rfl,qs++[if A-1>0 then A-1 else 0,A,A+Z/2,A+Z-1,A+Z],?_,?_,?_⟩]
  ·rw[af St.ah<|af List.map_append rfl]
  ·rw[af List.length_append<|af List.length_append<|af List.length_singleton ?_];show qs.length+5<=_;rw[KD ql]
  ·intro x hx;rcases kX hx with hx|hx
   ·rw[qb x hx]
   ·simp only [List.mem_cons,List.not_mem_nil,or_false] at hx;clear hA0 hlv;rcases hx with rfl|rfl|rfl|rfl|rfl
    ·split<;>first|decide|exact ⟨Int.le_of_lt<|by assumption,Int.lt_trans (Int.lt_of_le_of_lt (Int.sub_le_self A<|by decide) hA.2.1)<|by decide⟩
    ·rw[MQ hA]
    ·rw[OD hA]
    ·rw[MW hA]
    ·rw[MS hA]
 ·rintro lo τ ⟨rfl,X,qs,eq,ql,qb⟩;have npl2:=D.om Uv;have D3:=(D.ext X1 bZ).ext X λy hy=>by rw[af (b9 hy) npl2]
  have TR:aU τ RW (pl::zs) m:=Tt.ext X λy hy=>by rw[af (b9 hy)<|List.Mem.head zs]
  have hz3:∀y∈pl::zs,τ y≠none:=λy hy=>by
   rcases ek hy with w|w
   ·rw[af w<|af eq λz=>nomatch z]
   ·rw[aO (aO hz X1 λy z=>nomatch z) X (λy hy _=>by rw[af (b9 hy)<|af eq λz=>nomatch z]) y w]
  have L3:=L1.ext X (λz=>npl<|b9 z) λp Sn z=>by
   obtain ⟨p',V1,rfl⟩:=List.mem_map.mp Sn;rw[npp p' V1<|b9 z]
  have O13:=(O1.ext X1 bZ).ext X λy hy=>by rw[af (b9 hy)<|O1.om Uv]
  have O23:=(O2.ext X1 bZ).ext X λy hy=>by rw[af (b9 hy)<|O2.om Uv]
  have Tj:=X _ _ (λz=>npy<|b9 z) TP;rw[xc rfl ?_,eU.mono (k:=P9 D1 D2 ls RW pl B1.lay r1 r2 Sv zs m τ) (ke:=gF) ?_ ?_ λ_ _ _ _ z=>z.elim]
  ·left;rw[⟨by simp,λe he=>?_⟩];have W:Ext [] τ<|τ.set e<|.list []:=Ext.fresh he;have L4:=L3.ext W nz λp _ z=>nomatch z;left;rw[E7 L4 St.ah ?_];have T5:=TR.ext W bZ;have hz4:=aO hz3 W bZ;generalize τ.set e (.list [])=Uw at W L4 T5 hz4 ⊢;left
   by_cases hpe:pt=[]
   ·rw[<-az (gI<|dT<|af hpe rfl) ?_,⟨rfl,0,rfl,by decide,by decide,T5.le<|by rw[Nat.le.step Nat.le.refl],W.sub bZ⟩]
   ·rw[<-aN (n7<|dF λz=>hpe<|List.map_eq_nil_iff.mp z) ?_,eg L4.it (af (cD ..)<|af (cD ..)<|BZ Sd) ?_,<-af (cD ..)<|af (cD ..) ?_];have Sq:0<pt.length:=List.length_pos_iff.mpr hpe;rw[(cA (many:=(pt.length:Int)) T5 hz4 (B3 hm) (by rw[Int.ofNat_lt.mpr Sq]) (Ke Sd) λi Wd i0 i1 T3 Y=>?_).call];obtain ⟨i,rfl⟩:=Int.eq_ofNat_of_zero_le i0;have hi:i<pt.length:=by rw[Int.ofNat_lt.mp i1]
    have L5:=L4.ext Y (λz=>nl<|af (b9 z)<|List.Mem.head<|B1.ml++B2.ml) λp Sn z=>by
     obtain ⟨p',V1,rfl⟩:=List.mem_map.mp Sn;rw[Xi p' V1 (by erw[show p'.1=RW from b9 z];rw[List.Mem.head<|B1.ml++B2.ml])]
    left;rw[<-aC (x:=.ref (pt[i]).1) L5.it i0 (KH i1 Sd) (by rw[af (Int.toNat_natCast ..)<|af List.getElem?_map<|af List.getElem?_map<|af (List.getElem?_eq_getElem hi) ?_];rfl) ?_,<-aC (x:=.int<|eV (2^b) (pt[i]).2) (L5.each _<|List.mem_map_of_mem (f:=dI<|2^b)<|List.getElem_mem hi) ac ac rfl ?_];have:=qw hE.1 hE.2 (T:=T0) (t:=(pt[i]).2)<|af (Eq.symm<|hp)<|List.mem_map_of_mem<|List.getElem_mem hi;rw[⟨rfl,_,rfl,by rw[nN<|(pt[i].snd.fst*2^b+pt[i].snd.snd.fst.getD 0)*(4*2^b)+3],Mt this hi,T3,(W.sub bZ).trans Y⟩]
  rintro _ _ υ ⟨rfl,nr,rfl,nr0,nr1,UX,Y⟩;have D6:=D3.ext Y λy hy=>by rw[af (b9 hy) nb]
  have L6:=L3.ext Y (λz=>nl<|af (b9 z)<|List.Mem.head<|B1.ml++B2.ml) λp Sn z=>by
   obtain ⟨p',V1,rfl⟩:=List.mem_map.mp Sn;rw[Xi p' V1 (by erw[show p'.1=RW from b9 z];rw[List.Mem.head<|B1.ml++B2.ml])]
  have O16:=O13.ext Y λy hy=>by rw[af (b9 hy)<|O1.iS hb]
  have O26:=O23.ext Y λy hy=>by rw[af (b9 hy)<|O2.iS hb]
  have VX:=aO hz3 Y λy hy SE=>absurd SE<|b9 hy▸UX.pT;have eq6:=Y _ _ (λz=>nbx (b9 z).symm) eq;have X6:Ext (pl::[RW]) U υ:=((X1.sub bZ).trans<|X.sub λy hy=>by rw[af (b9 hy)<|List.Mem.head [RW]]).trans (Y.sub λy hy=>by rw[af (b9 hy)<|gA pl<|List.Mem.head []]);clear D3 L3 O13 O23 hz3 TR eq X Y L1 TP Tj Tt X1 epl;have hql:qs.length<=303:=by rw[Nat.le_trans ql<|Nat.add_le_add_left (Nat.mul_le_mul_left 5 Sd) 3]
  rw[xc rfl ?_,<-dD (bV rfl ac ac) ?_ rfl (by intro env e;cases env;subst e;rfl),aV eq6 ⟨by rw[af (cD ..) ?_,JQ ql Sd],?_⟩,wB V.int qs (λdone Sa ω=>(∃ps:List<|Int×Nat,Sa=ps.map (λp=>V.tup [.int p.1,.int p.2])/\(∀p∈ps,0<=p.1/\p.1<2^40/\p.2<24)/\ps.length=done.length)/\aU ω RW (pl::zs) (m+1+done.length)/\Ext [RW] υ ω) ?_ ?_ ?_ υ ⟨⟨[],rfl,bZ,rfl⟩,UX,Ext.refl⟩]
  ·rintro done Sa ω ⟨_,_,Y⟩;rw[Y _ _ (λz=>nbx (b9 z).symm) eq6]
  ·rintro done x Sa ω ⟨rest,hr⟩ ⟨⟨ps,rfl,pb,pn⟩,hb7,Y⟩;have hx:x∈qs:=af hr<|List.mem_append_right _ List.mem_cons_self;have hdl:done.length<=303:=by have:=congrArg List.length hr;rw[List.length_append] at this;rw[Lp this ql Sd]
   have hz7:=aO VX Y λy hy SE=>absurd SE<|b9 hy▸hb7.pT;left;rw[<-⟨Lo.bg ⟨rfl,trivial⟩,?_⟩,<-(cA hb7 hz7 (Lr hm hdl) ac ac λi ZP i0 i1 Wl Y2=>?_).call,⟨by simp,?_⟩];obtain ⟨i,rfl⟩:=Int.eq_ofNat_of_zero_le i0;rw[⟨⟨ps++[(x,i)],by rw[af List.map_append ?_];rfl,λp Sn=>?_,by rw[af List.length_append<|af List.length_append<|af pn ?_];rfl⟩,by rw[af List.length_append ?_,Wl],Y.trans Y2⟩];rcases kX Sn with w|w
   ·rw[pb p w]
   ·rw[af (b9 w) ⟨(qb x hx).1,(qb x hx).2,by show i<24;rw[Int.ofNat_lt.mp i1]⟩]
  rintro Sa ω ⟨⟨ps,rfl,pb,pn⟩,hb7,Y⟩;intro as has;have W:Ext [] ω<|ω.set as<|.list<|ps.map λp=>V.tup [.int p.1,.int p.2]:=Ext.fresh has;have eas:(ω.set as<|.list<|ps.map λp=>V.tup [.int p.1,.int p.2]) as=some (.list<|ps.map λp=>V.tup [.int p.1,.int p.2]):=St.ah;have D7:=(D6.ext Y λy hy=>by rw[af (b9 hy) nb]).ext W bZ;have L7:=(L6.ext Y (λz=>nl<|af (b9 z)<|List.Mem.head<|B1.ml++B2.ml) λp Sn z=>by
   obtain ⟨p',V1,rfl⟩:=List.mem_map.mp Sn;rw[Xi p' V1 (by erw[show p'.1=RW from b9 z];rw[List.Mem.head<|B1.ml++B2.ml])]).ext W nz λp _ z=>nomatch z
  have O17:=(O16.ext Y λy hy=>by rw[af (b9 hy)<|O1.iS hb]).ext W bZ;have O27:=(O26.ext Y λy hy=>by rw[af (b9 hy)<|O2.iS hb]).ext W bZ;have Wl:=hb7.ext W bZ;have eq7:=W _ _ nz<|Y _ _ (λz=>nbx (b9 z).symm) eq6;have X7:Ext (pl::[RW]) U<|ω.set as<|.list<|ps.map λp=>V.tup [.int p.1,.int p.2]:=(X6.trans<|Y.sub λy hy=>by rw[af (b9 hy)<|gA pl<|List.Mem.head []]).trans<|W.sub bZ;generalize ω.set as (.list<|ps.map λp=>V.tup [.int p.1,.int p.2])=VL at W eas D7 L7 O17 O27 Wl eq7 X7 ⊢;clear D6 L6 O16 O26 UX hb7 eq6 X6 VX W Y;rw[xc rfl ?_,dz ?_,bY.mono (k:=λx τ=>∃(al:Addr) (ps:List<|Int×Nat),x=.ref al/\τ al=some (.list<|ps.map λp=>V.tup [.int p.1,.int p.2])/\(∀p∈ps,0<=p.1/\p.1<2^40/\p.2<24)/\VL al=none/\Ext [] VL τ) (ke:=xg) ?_ ?_ λ_ _ _ z=>z.elim]
  ·have key:∀(ns:List Nat),(∀x∈ns,x<24)->ns.length<=24->∀a,VL a=none->∀d,(VL.set a<|.list<|ns.map λ(x:Nat)=>V.tup [.int nr,.int x]) d=none->∃(al:Addr) (Yq:List<|Int×Nat),V.ref d=.ref al/\((VL.set a<|.list<|ns.map λ(x:Nat)=>V.tup [.int nr,.int x]).set d<|.list<|(ps.map λp=>V.tup [.int p.1,.int p.2])++ns.map λ(x:Nat)=>V.tup [.int nr,.int x]) al=some (.list<|Yq.map λp=>V.tup [.int p.1,.int p.2])/\(∀p∈Yq,0<=p.1/\p.1<2^40/\p.2<24)/\VL al=none/\Ext [] VL ((VL.set a<|.list<|ns.map λ(x:Nat)=>V.tup [.int nr,.int x]).set d<|.list<|(ps.map λp=>V.tup [.int p.1,.int p.2])++ns.map λ(x:Nat)=>V.tup [.int nr,.int x]):=λns TZ _ a ha d hd=>by
    rw[⟨d,ps++ns.map λx=>(nr,x),rfl,af St.ah<|af List.map_append<|af List.map_map rfl,λp Sn=>?_,(Ext.fresh (xs:=[]) ha).none hd,(Ext.fresh ha).trans<|Ext.fresh hd⟩];rcases kX Sn with w|w
    ·rw[pb p w]
    ·clear Sn;obtain ⟨x,hx,rfl⟩:=List.mem_map.mp w;rw[⟨nr0,nr1,TZ x hx⟩]
   have hpl':ps.length<=303:=by rw[Nat.le_trans (Nat.le_of_eq pn) hql]
   left;rw[<-cU (bV rfl ac ac) ?_]
   cases Sv with
   |true=>
    rw[<-aN rfl ?_,<-mu ac ac ?_,gB ac ?_];erw[show c9 0 (Builtin.Range.rangeSize 0 24 5).toNat 5=([0,5,10,15,20]:List Nat).map λ(j:Nat)=>V.int j by rfl];rw[⟨by simp,?_⟩,fy _ (λ(x:Nat)=>V.tup [.int nr,.int x]) (show bJ _ .free from trivial) ([0,5,10,15,20]:List Nat) (λx hx=>?_) ?_]
    ·left;rw[<-⟨Lo.bg ⟨rfl,trivial⟩,?_⟩,⟨by simp,St.le_refl _,rfl⟩]
    intro a ha;have ne:as≠a:=kE eas ha;left;rw[<-pC ((St.ai ne).trans eas) St.ah (by simp;lia) λd hd=>?_,key _ ac ac a ha d hd]
   |false=>
    rw[<-az rfl ?_,<-mu ac ac ?_,gB ac ?_];erw[show c9 0 (Builtin.Range.rangeSize 0 24 1).toNat 1=(List.range 24).map λ(j:Nat)=>V.int j by rfl];rw[⟨by simp,?_⟩,fy _ (λ(x:Nat)=>V.tup [.int nr,.int x]) (show bJ _ .free from trivial) (List.range 24) (λx hx=>?_) ?_]
    ·left;rw[<-⟨Lo.bg ⟨rfl,trivial⟩,?_⟩,⟨by simp,St.le_refl _,rfl⟩]
    intro a ha;have ne:as≠a:=kE eas ha;left;rw[<-pC ((St.ai ne).trans eas) St.ah (by simp;lia) λd hd=>?_,key (List.range 24) (λx hx=>List.mem_range.mp hx) (by simp) a ha d hd]
  rintro _ Xy ⟨al,Yq,rfl,Yk,pb',hal,W⟩;have C8:=D7.om hal;have D8:=D7.ext W bZ;have L8:=L7.ext W nz λp _ z=>nomatch z;have O18:=O17.ext W bZ;have O28:=O27.ext W bZ;have eq8:=W _ _ nz eq7;have hb9:=Wl.ext W bZ;have X8:=X7.trans<|W.sub bZ;clear D7 L7 O17 O27 Wl eq7 X7 eas hal W;rw[aV Yk ?_,gR (λp:Int×Nat=>V.tup [.int p.1,.int p.2]) Yq (λ_=>NW D1 D2 ls RW pl as B1 B2 b m1 m2 r1 r2 nr Sv T0 Xy) ⟨rfl,Ext.refl,T1,T2,D8,M,Sm⟩ ?_ ?_ ?_]
  ·rintro done lo ω ⟨_,Y,_⟩;rw[Y _ _ (λz=>(kX z).elim (λw=>C8.1<|bM w) λw=>C8.2<|bM w) Yk]
  ·rintro done p lo ω ⟨rest,hr⟩ ⟨rfl,Y,T1,T2,D9,M9,S9⟩;obtain ⟨Wx,YI,YH⟩:=pb' p<|af hr<|List.mem_append_right _ List.mem_cons_self;clear hr;obtain ⟨x,w⟩:=p;obtain ⟨f1,f2,u1,u2,W⟩:=D9;have hml:∀y∈B1.ml++B2.ml,y≠D1/\y≠SI/\y≠Se:=λy hy=>by
    obtain ⟨_,_,_,_,V⟩:=D8;rw[(kX hy).elim (O18.pS V.j6 y)<|O18.pS V.jc y]
   have hml2:∀y∈B1.ml++B2.ml,y≠D2/\y≠SQ/\y≠Sh:=λy hy=>by
    obtain ⟨_,_,_,_,V⟩:=D8;rw[(kX hy).elim (O28.pS V.j6 y)<|O28.pS V.jc y]
   have O19:=O18.ext Y hml;have O29:=O28.ext Y hml2;have nl':ls∉B1.ml++B2.ml:=λz=>nl<|List.mem_cons_of_mem _ z;have nl2':∀p∈pt.map (dI<|2^b),p.1∉B1.ml++B2.ml:=λp Sn z=>by
    obtain ⟨p',V1,rfl⟩:=List.mem_map.mp Sn;rw[Xi p' V1<|List.mem_cons_of_mem _ z]
   have L9:=L8.ext Y nl' nl2';have fin:∀(Yo:St) (UN T4:Nat->Slot),iH Yo B1 B2 b m1 m2 r1 r2 UN T4->Mk (2^b) T0 UN->j7 (2^b) UN T4->Ext (B1.ml++B2.ml) Xy Yo->NW D1 D2 ls RW pl as B1 B2 b m1 m2 r1 r2 nr Sv T0 Xy (ry D1 D2 ls RW pl B1.lay r1 r2 nr Sv [("asked",.ref as)]) Yo:=λYo UN T4 a b c d=>⟨rfl,d,UN,T4,a,b,c⟩;have hE1:1<2^b:=JK hE;rw[<-gf rfl (by rw[Nat.succ_pos _]) ?_,(mD W.g1 W.j6 W.j4 O19 YH Wx (Ez Wx YI) (λUd z hz hmy σ' f' tt=>?_) λhn σ' V=>?_).call]
   ·have hi:=dR (E:=2^b) (by rw[Nat.le_of_lt hE1]) Ud.1 Ud.2;have hj:=fX (E:=2^b) (x:=x) (by rw[Nat.le_of_lt hE1]);have hps:=lV hz;have Vd:=M9.zu hi hj▸hz;have S2:=S9.zu W.j4 hi hj;have D10:=(W.swap.vO tt<|p8 hps).swap;have M10:=M9.uw (s:=kindS w) W.j4 hi hj hps;have S10:=S9.uw (s:=kindS w) W.j4 hi hj hps;have he:=W.j4.ent hi hj;have hmy2:∀u wd xr,jA (entryAt T2 (cI (2^b) x)<|cM (2^b) x) (kindS w) u wd xr=jA (entryAt T1 (cI (2^b) x)<|cM (2^b) x) (kindS w) u wd xr:=λu wd xr=>by
     rw[af (S9.ent hi hj) ?_,qc<|he.elim (λq=>by rw[af q ?_];decide) λq=>q.1]
    have V:=tt.ext.sub (ys:=B1.ml++B2.ml) λy hy=>List.mem_append_left _ hy;have L10:=L9.ext V nl' nl2';have O210:=O29.ext V hml2;have hps2:(∃e,T2 (cI (2^b) x)=.leaf e)\/∃y g,T2 (cI (2^b) x)=.tab y g/\g (cM (2^b) x)≠0:=lV<|S2.trans hz;clear L9 O19 O29 W tt;obtain ⟨f1,f2,u1,u2,W⟩:=D10;left;rw[<-qM ?_];left;rw[(Cm (b:=b) (x:=x) W.j6.lay L10 ?_).call,<-af (yb hE1 Wx hi hj hp Vd) ?_];show cZ _ _ _ _ (.int z) _ _ _;left;rw[<-aN (yH<|gH rfl) ?_,<-az (jh<|gH rfl) ?_,(mD W.g2 W.jc W.pQ O210 YH Wx (Ez Wx YI) (λ_ z' VY _ Tz f' tt=>?_) λhn _ _=>?_).call]
    ·have hzz:z'=z:=by rw[S2,hz] at VY;rw[(Option.some.inj VY).symm]
     clear hz Vd;subst hzz;have D11:=W.vO tt<|p8 hps2;have V2:=tt.ext.sub (ys:=B1.ml++B2.ml) λy hy=>List.mem_append_right _ hy;left;rw[<-az (jh<|gH rfl) ?_,⟨(ry D1 D2 ls RW pl B1.lay r1 r2 nr Sv [("asked",.ref as)]),_,Lo.bg ⟨rfl,rfl,rfl,rfl,rfl,rfl,rfl,rfl,rfl,rfl,rfl,trivial⟩,St.le_refl _,fin _ _ _ D11 M10 S10<|(Y.trans V).trans V2⟩]
    ·exfalso;rcases hn with q|⟨_,q|q⟩
     ·rw[q Ud]
     ·rw[ak q<|S2.trans hz]
     ·rw[hmy2,hmy] at q;rw[ir q]
   ·have V':=V.sub (ys:=B1.ml++B2.ml) bZ;have D10:iH σ' B1 B2 b m1 m2 r1 r2 T1 T2:=iH.ext ⟨_,_,_,_,W⟩ V bZ;have O210:=O29.ext V' hml2;obtain ⟨V9,VH,Xc,We,W'⟩:=D10;left;rw[<-yr ?_];left;rw[(mD W'.g2 W'.jc W'.pQ O210 YH Wx (Ez Wx YI) (λUd z' VY WK _ _ _=>?_) λ_ Tz V2=>?_).call]
    ·exfalso;have hi:=dR (E:=2^b) (by rw[Nat.le_of_lt hE1]) Ud.1 Ud.2;have hj:=fX (E:=2^b) (x:=x) (by rw[Nat.le_of_lt hE1]);rw[S9.zu W.j4 hi hj] at VY;rw[S9.ent hi hj,qc<|(W.j4.ent hi hj).elim (λq=>by rw[af q ?_];decide) λq=>q.1] at WK;rcases hn with q|⟨_,q|q⟩
     ·rw[q Ud]
     ·rw[ak q VY]
     ·rw[q] at WK;rw[aA WK]
    ·left;rw[jL (.tup<|.cons (.int _)<|.cons (.int _) .nil) (.tup<|.cons (.int _)<|.cons (.int _) .nil) rfl rfl ?_,<-af (show PyData.eqv (.tuple [.int<|tD w,.int x]) (.tuple [.int<|tD w,.int x])=true by simp [PyData.eqv,PyData.eqvAll]) ?_];left;have V2':=V2.sub (ys:=B1.ml++B2.ml) bZ;rw[⟨(ry D1 D2 ls RW pl B1.lay r1 r2 nr Sv [("asked",.ref as)]),_,Lo.bg ⟨rfl,rfl,rfl,rfl,rfl,rfl,rfl,rfl,rfl,rfl,rfl,trivial⟩,St.le_refl _,fin _ _ _ (iH.ext ⟨_,_,_,_,W'⟩ V2 bZ) M9 S9<|(Y.trans V').trans V2'⟩]
  ·rintro lo ω ⟨rfl,Y,T1,T2,D9,M9,S9⟩;obtain ⟨f1,f2,u1,u2,W⟩:=D9;have O19:=O18.ext Y λy hy=>by
    obtain ⟨_,_,_,_,V⟩:=D8;rw[(kX hy).elim (O18.pS V.j6 y)<|O18.pS V.jc y]
   have O29:=O28.ext Y λy hy=>by
    obtain ⟨_,_,_,_,V⟩:=D8;rw[(kX hy).elim (O28.pS V.j6 y)<|O28.pS V.jc y]
   have npm:pl∉B1.ml++B2.ml:=λz=>(kX z).elim (λw=>npl2.1<|bM w) λw=>npl2.2<|bM w;have eq9:=Y _ _ npm eq8;have look:∀x∈qs,kY b T1 x=kY b T2 x:=λx hx=>by
    unfold kY
    by_cases Ud:fB b x
    ·have hi:=dR (E:=2^b) (eO hE) Ud.1 Ud.2;have hj:=fX (E:=2^b) (x:=x)<|eO hE;rw[af (if_pos Ud)<|af (if_pos Ud)<|af (S9.zu W.j4 hi hj)<|af (S9.ent hi hj) ?_];rcases W.j4.ent hi hj with q|q
     ·rw[af q rfl]
     ·have h2:=(cJ q).1;erw[strip_eq h2.1,strip_eq q.1]
      congr 3
      rw[af sd<|af sm rfl]
    ·rw[af (if_neg Ud)<|af (if_neg Ud) rfl]
   have hb10:=hb9.ext Y λy hy=>List.mem_cons_of_mem _<|hB y hy;rw[xc rfl ?_,dz ?_,<-jX .none .none .int ac ?_,⟨_,_,rfl,eq9,by rw[af (cD ..) ?_,JQ ql Sd],λl4 Vh=>?_⟩,af (n5 ..) ?_];have V4:Ext [] ω<|ω.set l4<|.list<|(pick qs none none<|some 4).map .int:=Ext.fresh Vh;rw[aV St.ah ?_];have D10:iH (ω.set l4<|.list<|(pick qs none none<|some 4).map .int) B1 B2 b m1 m2 r1 r2 T1 T2:=iH.ext ⟨_,_,_,_,W⟩ V4 bZ;have O110:=O19.ext V4 bZ;have O210:=O29.ext V4 bZ;have e4:(ω.set l4<|.list<|(pick qs none none<|some 4).map .int) l4=some (.list<|(pick qs none none<|some 4).map .int):=St.ah;generalize ω.set l4 (.list<|(pick qs none none<|some 4).map .int)=ω4 at V4 D10 O110 O210 e4 ⊢;obtain ⟨V9,VH,Xc,We,W'⟩:=D10;rw[gR V.int (pick qs none none<|some 4) (λdone lo υ=>lo=(ry D1 D2 ls RW pl B1.lay r1 r2 nr Sv [("asked",.ref as)])/\υ=ω4) ⟨rfl,rfl⟩ ?_ ?_ ?_]
   ·clear V4 O110 O210 W';rintro done lo υ ⟨_,rfl⟩;rw[e4]
   ·clear V4 e4;rintro done x lo υ ⟨rest,hr⟩ ⟨rfl,rfl⟩;have hx:x∈qs:=zp<|af hr<|List.mem_append_right _ List.mem_cons_self;left;rw[<-(wz W'.g1 W'.j6 W'.j4 O110 ?_).call,(wz W'.g2 W'.jc W'.pQ O210 ?_).call,<-af (Eq.symm<|look x hx) ?_,<-yu ?_];left;rw[⟨(ry D1 D2 ls RW pl B1.lay r1 r2 nr Sv [("asked",.ref as)]),_,Lo.bg ⟨rfl,rfl,rfl,rfl,rfl,rfl,rfl,rfl,rfl,rfl,rfl,trivial⟩,St.le_refl _,rfl,rfl⟩]
   ·clear O110 O210 e4;rintro lo υ ⟨rfl,rfl⟩;left;have XX:Ext (pl::RW::(B1.ml++B2.ml)) U υ:=((X8.sub λy hy=>by
     rw[List.mem_append_left (B1.ml++B2.ml) hy]).trans (Y.sub λy hy=>List.mem_cons_of_mem _<|List.mem_cons_of_mem _ hy)).trans (V4.sub bZ)
    rw[⟨_,St.le_refl _,h υ T1 T2 ⟨_,_,_,_,W'⟩ M9 S9 (((hb10.ext V4 bZ).less λy hy=>List.mem_cons_of_mem _ hy).le<|Ll ql Sd)<|XX.drop Uv⟩]
end
set_option backward.match.sparseCases true
theorem kq:∀{l l':List Int},l.Pairwise (·<·)->l'.Pairwise (·<·)->(∀x,x∈l↔x∈l')->l=l'
 |[],[],_,_,_=>rfl
 |[],y::l',_,_,h=>absurd ((h y).mpr List.mem_cons_self) nz
 |x::l,[],_,_,h=>absurd ((h x).mp List.mem_cons_self) nz
 |x::l,y::l',h1,h2,h=>by
  rw[List.pairwise_cons] at h1 h2;have hxy:x=y:=by
   rcases ek ((h x).mp List.mem_cons_self) with a|a
   ·rw[a]
   ·rcases ek ((h y).mpr List.mem_cons_self) with b|b
    ·rw[b.symm]
    ·have:=h1.1 y b;have:=h2.1 x a;lia
  subst hxy;erw[kq h1.2 h2.2 λz=>?_]
  constructor
  ·intro hz;rcases ek ((h z).mp<|List.mem_cons_of_mem _ hz) with a|a
   ·clear h2 h;subst a;have:=h1.1 _ hz;lia
   ·rw[a]
  ·intro hz;rcases ek ((h z).mpr<|List.mem_cons_of_mem _ hz) with a|a
   ·clear h1 h;subst a;have:=h2.1 _ hz;lia
   ·rw[a]
theorem oS {α β:Type}{f g:α->Option β}:∀{l:List α},(∀x∈l,f x=g x)->l.filterMap f=l.filterMap g
 |[],_=>rfl
 |x::l,h=>by erw[List.filterMap_cons,List.filterMap_cons,h x List.mem_cons_self,oS λy hy=>h y<|List.mem_cons_of_mem _ hy]
theorem qf {l:List Int}(h:l.Pairwise (·<=·))(nd:l.Nodup):l.Pairwise (·<·):=
 (List.Pairwise.and h nd).imp λ⟨a,b⟩=>by rw[Int.lt_iff_le_and_ne.mpr ⟨a,b⟩]
section
variable {t:It}{s s':Slot} 
theorem A7 {i':Nat}(hE:0<E)(hj:j<E)(Up:j'<E)(h:i<i'\/(i=i'/\j<j')):Su E i j<Su E i' j':=by
 rw[Int.mul_lt_mul_of_pos_right ?_<|zW hE];rcases h with h|⟨rfl,h⟩
 ·have:=Int.mul_le_mul_of_nonneg_right (show (i:Int)+1<=i' by rw[Int.ofNat_lt.mpr h]) (show (0:Int)<=E by rw[nN E]);rw[Int.add_mul,Int.one_mul] at this;rw[LZ this hj]
 ·lia
theorem pR (hE:0<E):((gw E i s).map<|eV E).Pairwise (·<·):=by
 cases s with
 |none=>rw[.nil]
 |leaf e=>rw[List.pairwise_singleton ..]
 |tab y g=>
  unfold gw;simp only;erw[List.pairwise_map,List.pairwise_filterMap];rw[List.Pairwise.imp_of_mem ?_<|List.pairwise_lt_range (n:=E)];intro a b ha hb hab p hp p' Sn
  split at hp
  ·cases hp
  ·split at Sn
   ·cases Sn
   ·cases hp;cases Sn
    rw[A7 hE (List.mem_range.mp ha) (List.mem_range.mp hb)<|.inr ⟨rfl,hab⟩]
theorem eZ (hE:0<E):∀m,((items E T m).map<|eV E).Pairwise (·<·)
 |0=>.nil
 |m+1=>by
  have e:items E T (m+1)=items E T m++gw E m (T m):=by unfold items;erw[List.range_succ,List.flatMap_append];simp
  erw[e,List.map_append,List.pairwise_append];rw[⟨eZ hE m,pR hE,λa ha b hb=>?_⟩];obtain ⟨p,hp,rfl⟩:=List.mem_map.mp ha;obtain ⟨p',Sn,rfl⟩:=List.mem_map.mp hb;obtain ⟨h1,h2⟩:=bQ.mp hp;obtain ⟨h3,h4⟩:=kr.mp Sn;have hj:∀q:It,Bk E T q->q.2.1.getD 0<E:=λq hq=>by
   obtain ⟨a,o,e⟩:=q
   cases o with
   |none=>rw[hE]
   |some j=>rw[hq.1]
  rw[A7 hE (hj p h2) (hj p' h4)<|.inl<|B7 h1 h3]
theorem tG (hE:0<E):(items E T E).Nodup:=by
 have h:=eZ (T:=T) hE E;rw[List.pairwise_map] at h;exact h.imp λh z=>by rw[z] at h;lia
theorem qv (h:cS E root T used hs bs ms):x∈(items E T E).map (eV E)↔x∈hs++bs:=by
 erw[List.mem_append,h.hm,h.bm,List.mem_map]
 constructor
 ·rintro ⟨⟨i,o,e⟩,ht,rfl⟩;obtain ⟨h1,h2⟩:=bQ.mp ht
  cases o with
  |none=>rw[.inr ⟨i,e,h1,h2,rfl⟩]
  |some j=>obtain ⟨h3,y,g,h4,h5,h6⟩:=h2;rw[.inl ⟨i,j,y,g,h1,h3,h4,by erw[h5];rw[h6],rfl⟩]
 ·rintro (⟨i,j,y,g,h1,h2,h3,h4,rfl⟩|⟨i,e,h1,h2,rfl⟩)
  ·rw[⟨(i,some j,g j),bQ.mpr ⟨h1,h2,y,g,h3,rfl,h4⟩,rfl⟩]
  ·rw[⟨(i,none,e),bQ.mpr ⟨h1,h2⟩,rfl⟩]
noncomputable def k9 (t:It):Bool:=t.2.1.isNone
theorem CN (h:cS E root T used hs bs ms):x∈((items E T E).filter k9).map (eV E)↔x∈bs:=by
 erw[h.bm,List.mem_map]
 constructor
 ·rintro ⟨⟨i,o,e⟩,ht,rfl⟩;obtain ⟨ht,hl⟩:=List.mem_filter.mp ht;obtain ⟨h1,h2⟩:=bQ.mp ht
  cases o with
  |none=>rw[⟨i,e,h1,h2,rfl⟩]
  |some j=>cases hl
 ·rintro ⟨i,e,h1,h2,rfl⟩;rw[⟨(i,none,e),List.mem_filter.mpr ⟨bQ.mpr ⟨h1,h2⟩,rfl⟩,rfl⟩]
theorem tL (hE:0<E)(h:cS E root T used hs bs ms):(hs++bs).Nodup:=by
 erw[List.nodup_append];rw[⟨h.hn,h.bn,λa ha b hb z=>?_⟩];subst z;obtain ⟨i,j,y,g,h1,h2,h3,h4,h5⟩:=(h.hm _).mp ha;obtain ⟨i',e,k1,k2,k3⟩:=(h.bm _).mp hb;rw[h5] at k3;obtain ⟨rfl,_⟩:=fj hE h1 h2 k1 hE k3;rw[h3] at k2;cases k2
theorem xT (fl:Int):bk (fl%256)=bk fl:=by
 unfold bk
 congr 2
 rw[List.map_congr_left λj hj=>?_];have hj:=List.mem_range.mp hj;unfold cg;have:fl%256/2^j%2=fl/2^j%2:=A2 fl j hj;erw[this]
def nt (t:It):It:=(t.1,t.2.1,aQ t.2.2)
theorem j7.items (S:aF E m0 f root T1)(h:j7 E T1 T2):items E T2 E=(items E T1 E).map nt:=by
 unfold Internal.items;erw[List.map_flatMap];erw[List.flatMap_def,List.flatMap_def]
 congr 1
 rw[List.map_congr_left λi hi=>?_];have hi:=List.mem_range.mp hi;have hh:=h i hi
 cases hT:T1 i with
 |none=>rw[hT] at hh;erw[show T2 i=.none from hh];rfl
 |leaf e=>rw[hT] at hh;erw[show T2 i=.leaf (aQ e) from hh];rfl
 |tab y g=>
  rw[hT] at hh;rcases hh with ⟨h1,h2⟩|⟨h1,y',g',h2,h3⟩
  ·erw[h2];unfold gw;simp only;have hg:=bR.mp h1;erw[show (List.range E).filterMap (λj=>if g j=0 then (none:Option It) else some (i,some j,g j))=[] by
    erw[List.filterMap_eq_nil_iff];intro j hj;rw[if_pos<|hg j<|List.mem_range.mp hj]]
   rfl
  ·erw[h2];unfold gw;simp only;erw[List.map_filterMap];rw[oS λj hj=>?_];have hj:=List.mem_range.mp hj;erw[h3 j hj]
   by_cases hg:g j=0
   ·erw[hg,gq,if_pos rfl];rfl
   ·have L:=((S.tab i y g hi hT).2.2 j hj).2.resolve_left hg;erw[if_neg<|nM L,if_neg hg];rfl
theorem aF.it (S:aF E m0 f root T)(h:t∈items E T E):fR t.2.2:=by
 obtain ⟨h1,h2⟩:=bQ.mp h;obtain ⟨i,o,e⟩:=t
 cases o with
 |none=>rw[(S.leaf i e h1 h2).1]
 |some j=>
  obtain ⟨h3,y,g,h4,h5,h6⟩:=h2;have:=((S.tab i y g h1 h4).2.2 j h3).2.resolve_left (by erw[h5];rw[h6]);rw[h5] at this;rw[this]
theorem uy (L:fR t.2.2):bf E (gP E<|nt t)=bf E (gP E t):=by
 have h1:=(cJ L).2.1;have h2:aQ t.2.2%1024=t.2.2%1024%256:=by erw[strip_eq L.1];have:=L.1;rw[OL]
 show aK (eV E t)++_++aK (aQ t.2.2/1024*(4*E))++_++bk (aQ t.2.2%1024)++_=aK (eV E t)++_++aK (t.2.2/1024*(4*E))++_++bk (t.2.2%1024)++_;erw[h1,h2,xT];rfl
theorem j7.text (S:aF E m0 f root T1)(h:j7 E T1 T2):(aP E T2 E).map (bf E)=(aP E T1 E).map (bf E):=by
 erw[cL,cL,h.items S,List.map_map,List.map_map,List.map_map];rw[List.map_congr_left λt ht=>uy<|S.it ht]
theorem mX {α:Type}(p q r:α->Bool):∀l:List α,(∀x∈l,p x=(q x||r x)/\(q x&&r x)=false)->(l.filter q).length+(l.filter r).length=(l.filter p).length
 |[],_=>rfl
 |x::l,h=>by
  have ih:=mX p q r l λy hy=>h y<|List.mem_cons_of_mem _ hy;obtain ⟨h1,h2⟩:=h x List.mem_cons_self;erw[List.filter_cons,List.filter_cons,List.filter_cons,h1]
  cases hq:q x<;>cases hr:r x
  ·simp only [Bool.or_self,Bool.false_eq_true,if_false];rw[ih]
  ·simp only [Bool.false_or,Bool.false_eq_true,if_false,if_true,List.length_cons];lia
  ·simp only [Bool.or_false,Bool.false_eq_true,if_false,if_true,List.length_cons];lia
  ·rw[hq,hr] at h2;cases h2
theorem i6:bA E T m=((List.range m).filter λi=>jE E<|T i).length:=rfl
theorem j7.nT (h:j7 E T1 T2):nT E T2+bA E T1 E=nT E T1:=by
 erw[i6];rw[mX (λi=>dJ<|T1 i) (λi=>dJ<|T2 i) (λi=>jE E<|T1 i) _ λi hi=>?_];have hh:=h i<|List.mem_range.mp hi
 cases hT:T1 i with
 |none=>rw[hT] at hh;erw[show T2 i=.none from hh];rw[⟨rfl,rfl⟩]
 |leaf e=>rw[hT] at hh;erw[show T2 i=.leaf (aQ e) from hh];rw[⟨rfl,rfl⟩]
 |tab y g=>
  rw[hT] at hh;rcases hh with ⟨h1,h2⟩|⟨h1,y',g',h2,h3⟩
  ·erw[h2];rw[⟨h1.symm,rfl⟩]
  ·erw[h2];rw[⟨rfl,h1⟩]
theorem Mk.emp (h:Mk E T0 T1)(hi:i<E):jE E (T1 i)=jE E (T0 i)/\dJ (T1 i)=dJ (T0 i):=by
 have hh:=h i hi
 cases hT:T0 i with
 |none=>rw[hT] at hh;erw[show T1 i=.none from hh];rw[⟨rfl,rfl⟩]
 |leaf e=>rw[hT] at hh;obtain ⟨e',h1,_⟩:=hh;erw[h1];rw[⟨rfl,rfl⟩]
 |tab y g=>
  rw[hT] at hh;obtain ⟨g',h1,h2⟩:=hh;erw[h1];rw[⟨?_,rfl⟩];show bX E g'=bX E g;erw[Bool.eq_iff_iff,bR,bR];rw[⟨λz j hj=>(h2 j hj).1.mp (z j hj),λz j hj=>(h2 j hj).1.mpr (z j hj)⟩]
theorem Mk.bA (h:Mk E T0 T1):bA E T1 E=bA E T0 E:=by
 erw[i6,i6]
 congr 1
 rw[List.filter_congr λi hi=>(h.emp<|List.mem_range.mp hi).1]
theorem j7.Jm (S:aF E m0 f root T1)(h:j7 E T1 T2)(hi:i<E):jE E (T2 i)=false:=by
 have hh:=h i hi
 cases hT:T1 i with
 |none=>rw[hT] at hh;erw[show T2 i=.none from hh];rfl
 |leaf e=>rw[hT] at hh;erw[show T2 i=.leaf (aQ e) from hh];rfl
 |tab y g=>
  rw[hT] at hh;rcases hh with ⟨h1,h2⟩|⟨h1,y',g',h2,h3⟩
  ·erw[h2];rfl
  ·erw[h2];show bX E g'=false
   cases q:bX E g' with
   |false=>rfl
   |true=>
    have q:=bR.mp q;have:bX E g=true:=bR.mpr λj hj=>by
     rcases ((S.tab i y g hi hT).2.2 j hj).2 with z|z
     ·rw[z]
     ·have:=q j hj;rw[h3 j hj] at this;rw[absurd this<|nM z]
    rw[this] at h1;cases h1
theorem zm (h:∀i,i<E->jE E (T i)=false):cO E T E=T/\bA E T E=0:=by
 constructor
 ·funext i
  unfold cO
  by_cases hi:i<E
  ·erw[if_pos hi];have:=h i hi
   cases hT:T i with
   |none=>rfl
   |leaf e=>rfl
   |tab y g=>rw[hT] at this;rw[if_neg (by erw[show bX E g=false from this];decide)]
  ·erw[if_neg hi]
 ·erw[i6,List.length_eq_zero_iff,List.filter_eq_nil_iff];intro i hi;erw[h i<|List.mem_range.mp hi];decide
theorem j7.prune (h:j7 E T1 T2):j7 E (cO E T1 E) T2:=λi hi=>by
 have hh:=h i hi;unfold cO;erw[if_pos hi]
 cases hT:T1 i with
 |none=>rw[hT] at hh;rw[hh]
 |leaf e=>rw[hT] at hh;rw[hh]
 |tab y g=>
  rw[hT] at hh;unfold gy;simp only;rcases hh with ⟨h1,h2⟩|⟨h1,h2⟩
  ·erw[if_pos h1];rw[h2]
  ·erw[if_neg (by erw[h1];decide)];rw[.inr ⟨h1,h2⟩]
theorem uF (hi:i<E):jE E (cO E T E i)=false:=by
 unfold cO;erw[if_pos hi]
 cases hT:T i with
 |none=>rfl
 |leaf e=>rfl
 |tab y g=>
  unfold gy;simp only
  by_cases q:bX E g=true
  ·erw[if_pos q];rfl
  ·erw[if_neg q]
   cases w:bX E g with
   |false=>rw[w]
   |true=>rw[absurd w q]
theorem yV (h:∀i,i<E->dJ (T1 i)=dJ (T2 i)):(aZ T1 E).map (·.1)=(aZ T2 E).map (·.1):=by
 unfold aZ;erw[List.map_filterMap,List.map_filterMap];rw[oS λi hi=>?_];have:=h i<|List.mem_range.mp hi
 cases h1:T1 i<;>cases h2:T2 i<;>first|rfl|(rw[h1,h2] at this;cases this)
theorem j7.dJ (h:j7 E T1 T2)(hn:∀i,i<E->jE E (T1 i)=false):∀i,i<E->dJ (T1 i)=dJ (T2 i):=λi hi=>by
 have hh:=h i hi;have he:=hn i hi
 cases hT:T1 i with
 |none=>rw[hT] at hh;erw[show T2 i=.none from hh]
 |leaf e=>rw[hT] at hh;erw[show T2 i=.leaf (aQ e) from hh];rfl
 |tab y g=>
  rw[hT] at hh he;rcases hh with ⟨h1,h2⟩|⟨h1,y',g',h2,h3⟩
  ·rw[show bX E g=false from he] at h1;cases h1
  ·erw[h2];rfl
end
set_option backward.match.sparseCases false
def dg:Scope:=mW<|f9 63
def EG:List Stmt:=Al<|f9 63
def bh (i:Nat):Stmt:=(EG[i]?).getD<|.Pass default
theorem iK {k:Fl->Lo->St->Prop}{ke:ji}{s:Stmt}(s':Stmt)(e:s=s')(h:eU D n sc s' lo U k ke):eU D n sc s lo U k ke:=e▸h
section
variable {ke:ji}{zs:List Addr}{c:Nat}{r1 r2:Int} 
theorem aU.Dk (h:aU U RW zs m)(X:Ext [] U σ')(hy:∀y∈ys,U y=none):aU σ' RW (ys++zs) m:=by
 obtain ⟨l0,l1,ns,ms,t,w,N,ht⟩:=h;have w':sf σ' RW l0 l1 ns ms t:=w.ext N X bZ;rw[⟨l0,l1,ns,ms,t,w',⟨N.n0,N.n1,λz=>?_,λz=>?_,λz=>?_,N.b0,N.b1⟩,ht⟩]
 ·rcases kX z with z|z
  ·rw[nomatch w.it.symm.trans (hy _ z)]
  ·rw[N.z z]
 ·rcases kX z with z|z
  ·rw[nomatch w.c0.symm.trans (hy _ z)]
  ·rw[N.z0 z]
 ·rcases kX z with z|z
  ·rw[nomatch w.c1.symm.trans (hy _ z)]
  ·rw[N.z1 z]
theorem aH.iS (H:aH U B1 b m0 f used)(hb:aU U RW zs m):RW∉B1.al:=λhy=>by
 obtain ⟨⟨d1,h1⟩,⟨⟨d2,h2⟩,h3⟩,⟨u,gv,hf,⟨⟨d4,h4⟩,h5,h6⟩,ok⟩,⟨d7,h7⟩,ne⟩:=H;obtain ⟨l0,l1,_,_,_,w,_⟩:=hb;have w:=w.it;replace hy:=nc hy;rcases hy with z|z|z|z|z|z|z<;>rw[z] at w
 ·rw[h1] at w;rw[bU bI.ctorIdx (sI w) rfl]
 ·rw[h2] at w;rw[bU bI.ctorIdx (sI w) rfl]
 ·rw[h3] at w;rw[bU bI.ctorIdx (sI w) rfl]
 ·rw[h4] at w;rw[bU bI.ctorIdx (sI w) rfl]
 ·rw[h5] at w
  cases gv with
  |nil=>(replace w:=bI.list.inj<|sI w;obtain ⟨rfl,rfl⟩:=w)
  |cons x xs=>cases w
 ·rw[h6] at w;rw[bU bI.ctorIdx (sI w) rfl]
 ·rw[h7] at w;rw[bU bI.ctorIdx (sI w) rfl]
structure uu (U:St)(b:Nat)(lay D1 SI Se:Addr)(B1:Bd)(D2 SQ Sh:Addr)(B2:Bd)(m2:Int):Prop where
 g2:eG b m2
 o1:dj U D1 SI Se B1
 o2:dj U D2 SQ Sh B2
 l1:B1.lay=lay
 l2:B2.lay=lay
 rel:(B1=B2/\m2=0)\/((∀y∈B1.al,y∉B2.ml)/\(∀y∈B2.al,y∉B1.ml)/\aH U B2 b m2 (λ_=>none) [])
theorem Rm (TZ:IntsAre q.fH ns)(hz:ns.length<=63)(h:∀RW σ',aU σ' RW [] 0->kl .next ([("script",.ref q.bw),("box",.ref RW)]:Lo) σ'):eU (Dd q) (n+10) dg (bh 0) ([("script",.ref q.bw)]:Lo) (λ_=>none) kl gF:=by
 left;rw[<-(Fc TZ hz λRW σ' hb _ _=>?_).call,h RW σ' hb]
theorem Rl (hb:aU U RW [] 0)(h:∀lay b σ',2<=b->b<=5->gb σ' lay b->aU σ' RW [] 1->kl .next ([("script",.ref q.bw),("box",.ref RW),("layout",.ref lay)]:Lo) σ'):eU (Dd q) (n+10) dg (bh 1) ([("script",.ref q.bw),("box",.ref RW)]:Lo) U kl gF:=by
 left;rw[⟨by simp,λe he=>?_⟩];have X:Ext [] U<|U.set e<|.list<|[4,5,4,7].map .int:=Ext.fresh he;have ee:(U.set e<|.list<|[4,5,4,7].map .int) e=some (.list<|[4,5,4,7].map .int):=St.ah;have Tt:=hb.ext X bZ;have ne:e≠RW:=λz=>by
  clear h Tt;subst z;obtain ⟨_,_,_,_,_,w,_⟩:=hb;rw[ak he w.it]
 show (_:V->St->Prop) _ (U.set e<|.list<|[4,5,4,7].map .int);generalize U.set e (.list<|[4,5,4,7].map .int)=Sx at X ee Tt ⊢;left;rw[(cA Tt bZ ac ac ac λp τ p0 p1 Ut Y=>?_).call];obtain ⟨p,rfl⟩:=Int.eq_ofNat_of_zero_le p0;have hp:p<4:=by rw[Int.ofNat_lt.mp p1]
 have ee2:=Y _ _ (λz=>ne<|b9 z) ee;obtain ⟨b,b2,b5,hpb⟩:∃b:Nat,2<=b/\b<=5/\([4,5,4,7].map V.int)[p]?=some (.int<|(b:Int)+2):=by
  rw[QJ p hp ?_ ?_ ?_ ?_]
  ·rw[⟨2,by decide,by decide,rfl⟩]
  ·rw[⟨3,by decide,by decide,rfl⟩]
  ·rw[⟨2,by decide,by decide,rfl⟩]
  ·rw[⟨5,by decide,by decide,rfl⟩]
 left;rw[<-aC ee2 p0 (Eu p1) (af (Int.toNat_natCast ..) hpb) ?_,jZ (uQ _).1 (uQ _).2.1 (uQ _).2.2 λlay dl UT=>?_,tC St.ah b2 (BX b5) ⟨rfl,?_⟩,<-af St.set_set ?_,h lay b _ b2 b5 ⟨dl,St.ah⟩<|Ut.ext (xs:=[]) (Ext.fresh UT) bZ]
theorem Rk (b2:2<=b)(b5:b<=5)(hl:gb U lay b)(hb:aU U RW [] 1)(h:∀D1 SI Se B1 σ',B1.lay=lay->aH σ' B1 b 0 (λ_=>none) []->dj σ' D1 SI Se B1->aU σ' RW B1.ml 1->kl .next ([("script",.ref q.bw),("box",.ref RW),("layout",.ref lay),("one",.ref D1)]:Lo) σ'):eU (Dd q) (n+10) dg (bh 2) ([("script",.ref q.bw),("box",.ref RW),("layout",.ref lay)]:Lo) U kl gF:=by
 left;rw[<-(ug (m0:=0) ⟨b2,b5,.inl rfl⟩ hl λD1 SI Se B1 σ' el H O X hf=>?_).call,h D1 SI Se B1 σ' el H O ?_];have:=hb.Dk X (ys:=B1.ml) λy hy=>hf y<|gA B1.mem<|List.mem_append_left [B1.tab,SI,Se,D1] hy
 rwa [List.append_nil] at this
theorem Rj (b2:2<=b)(b5:b<=5)(el:B1.lay=lay)(H:aH U B1 b 0 (λ_=>none) [])(O:dj U D1 SI Se B1)(hb:aU U RW B1.ml 1)
 (h:∀D2 SQ Sh B2 m2 σ',aH σ' B1 b 0 (λ_=>none) []->uu σ' b lay D1 SI Se B1 D2 SQ Sh B2 m2->aU σ' RW (B1.ml++B2.ml) 2->kl .next ([("script",.ref q.bw),("box",.ref RW),("layout",.ref lay),("one",.ref D1),("other",.ref D2)]:Lo) σ'):eU (Dd q) (n+10) dg (bh 3) ([("script",.ref q.bw),("box",.ref RW),("layout",.ref lay),("one",.ref D1)]:Lo) U kl gF:=by
 left;rw[(cA hb (lX H) ac ac ac λp τ p0 p1 Ut Y=>?_).call];have nb:=H.iS hb;have H2:=H.ext Y λy hy=>by rw[af (b9 hy) nb]
 have O2:=O.ext Y λy hy=>by rw[af (b9 hy)<|O.iS hb]
 left
 by_cases hp:p=0
 ·rw[<-aN (eqT hp) ?_,h D1 SI Se B1 0 τ H2 ⟨⟨b2,b5,.inl rfl⟩,O2,O2,el,el,.inl ⟨rfl,rfl⟩⟩<|Ut.less λy hy=>(kX hy).elim id id]
 ·rw[az (oX hp) ?_];have SW:=H2.lay;rw[el] at SW;obtain ⟨dl,Tj⟩:=id SW;left;rw[<-bG (cF ac) ?_,<-(ug (m0:=3*2^(b+2)) ⟨b2,b5,.inr rfl⟩ SW λD2 SQ Sh B2 σ' Yj H3 O3 X hf=>?_).call];have Y7:∀y∈B2.ml,τ y=none:=λy hy=>hf y<|gA B2.mem<|List.mem_append_left [B2.tab,SQ,Sh,D2] hy;have TR:=Ut.Dk X Y7;have s1:∀y∈B1.al,y∉B2.ml:=λy hy Yr=>by
   rw[H2.om (Y7 y Yr) _ (nc hy) rfl]
  have s2:∀y∈B2.al,y∉B1.ml:=λy hy VN=>by
   rcases ek hy with z|z
   ·obtain ⟨_,⟨_,h3⟩,⟨u,gv,hf,⟨⟨d4,h4⟩,h5,h6⟩,ok⟩,_,_⟩:=H2;rw[z,Yj] at VN;replace VN:=zI VN;rcases VN with w|w|w|w<;>rw[w] at Tj
    ·rw[h3] at Tj;rw[bU bI.ctorIdx (sI Tj) rfl]
    ·rw[h4] at Tj;cases Tj
    ·rw[h5] at Tj;rw[bU bI.ctorIdx (sI Tj) rfl]
    ·rw[h6] at Tj;rw[bU bI.ctorIdx (sI Tj) rfl]
   ·rw[H2.om (hf y<|List.mem_append_left [SQ,Sh,D2] z) _ (nc<|bM VN) rfl]
  rw[h D2 SQ Sh B2 _ σ' (H2.ext X bZ) ⟨⟨b2,b5,.inr rfl⟩,O2.ext X bZ,O3,el,Yj,.inr ⟨s1,s2,H3⟩⟩<|TR.less λy hy=>List.mem_append.mpr (kX hy).symm]
end
variable {R0:Int}
section
variable {ke:ji}{zs:List Addr}{c:Nat}{r1 r2:Int} 
theorem uu.ext (W:uu U b lay D1 SI Se B1 D2 SQ Sh B2 m2)(H:aH U B1 b 0 f used)(X:Ext xs U σ')(hx:∀y∈xs,y∈B1.ml\/((y≠D1/\y≠SI/\y≠Se)/\(y≠D2/\y≠SQ/\y≠Sh)/\y∉B2.al)):uu σ' b lay D1 SI Se B1 D2 SQ Sh B2 m2 where
 g2:=W.g2
 o1:=W.o1.ext X λy hy=>(hx y hy).elim (W.o1.pS H y) λz=>z.1
 o2:=W.o2.ext X λy hy=>(hx y hy).elim (W.o2.pS H y) λz=>z.2.1
 l1:=W.l1
 l2:=W.l2
 rel:=W.rel.imp id λ⟨a,b,c⟩=>⟨a,b,c.ext X λy hy w=>(hx y hy).elim (λz=>b y w z) λz=>z.2.2 w⟩
theorem uu.zC (W:uu U b lay D1 SI Se B1 D2 SQ Sh B2 m2)(H:aH U B1 b 0 f used)(hl:U l=none):(l≠D1/\l≠SI/\l≠Se)/\(l≠D2/\l≠SQ/\l≠Sh)/\l∉B2.al:=by
 rw[⟨W.o1.om hl,W.o2.om hl,λw=>?_⟩];rcases W.rel with ⟨rfl,_⟩|⟨_,_,H2⟩
 ·have:=H.om hl;replace w:=nc w;rw[this _ w rfl]
 ·have:=H2.om hl;replace w:=nc w;rw[this _ w rfl]
theorem uu.C7 (W:uu U b lay D1 SI Se B1 D2 SQ Sh B2 m2)(H:aH U B1 b 0 f used)(hb:aU U RW zs m):(RW≠D1/\RW≠SI/\RW≠Se)/\(RW≠D2/\RW≠SQ/\RW≠Sh)/\RW∉B2.al:=by
 rw[⟨W.o1.iS hb,W.o2.iS hb,?_⟩];rcases W.rel with ⟨rfl,_⟩|⟨_,_,H2⟩
 ·rw[H.iS hb]
 ·rw[H2.iS hb]
theorem aH.C8 (H:aH U B b m1 f used)(hl:U l=none):l∉B.al:=λw=>by
 have:=H.om hl;replace w:=nc w;rw[this _ w rfl]
structure NR (held R3 RV RW D1 SI Se D2 SQ Sh:Addr)(B2:Bd):Prop where
 all:∀y∈[RW,held,R3,RV],(y≠D1/\y≠SI/\y≠Se)/\(y≠D2/\y≠SQ/\y≠Sh)/\y∉B2.al
theorem Ri (b2:2<=b)(b5:b<=5)(H:aH U B1 b 0 (λ_=>none) [])(W:uu U b lay D1 SI Se B1 D2 SQ Sh B2 m2)(hb:aU U RW (B1.ml++B2.ml) 2)
 (h:∀root held R3 RV R0 σ',pP σ' B1 b 0 root held R3 RV 0->uu σ' b lay D1 SI Se B1 D2 SQ Sh B2 m2->aU σ' RW (RV::R3::held::(B1.ml++B2.ml)) 3->(∀y∈RV::R3::held::(B1.ml++B2.ml),σ' y≠none)->CV B1 held R3 RV RW (RV::R3::held::(B1.ml++B2.ml))->NR held R3 RV RW D1 SI Se D2 SQ Sh B2->
   kl .next ([("script",.ref q.bw),("box",.ref RW),("layout",.ref lay),("one",.ref D1),("other",.ref D2),("root",.int root),("held",.ref held),("big",.ref R3),("made",.ref RV),("front",.int R0)]:Lo) σ'):eU (Dd q) (n+10) dg (bh 4) ([("script",.ref q.bw),("box",.ref RW),("layout",.ref lay),("one",.ref D1),("other",.ref D2)]:Lo) U kl gF:=by
 have G:eG b 0:=⟨b2,b5,.inl rfl⟩;have hE:=G.e;rw[iK (.Assign [_] _ _) rfl ?_,<-iL ?_ (by intro env e;rfl) (by intro env e;cases env;cases e;rfl),aS W.o1.dict rfl ?_];obtain ⟨dt,UM⟩:=H.tab;left;rw[(iP G H ac λroot Ux _ TN H1 S1=>?_).call];have X1:Ext B1.ml U Ux:=S1.ext;have W1:=W.ext H X1 λy hy=>.inl hy;have Tt:=hb.ext X1 λy hy=>List.mem_append_left _ hy;have hz1:∀y∈B1.ml++B2.ml,Ux y≠none:=λy hy=>(kX hy).elim (λz=>lX H1 y z) λz=>by
  rcases W1.rel with ⟨e,_⟩|⟨_,_,H2⟩
  ·rw[<- e] at z;rw[lX H1 y z]
  ·rw[lX H2 y z]
 have Sp:aF (2^b) 0 (fm (λ_=>none) (root/4)<|2^b) root λ_=>.none:=by
  rw[⟨TN,λi hi=>?_,(λi e _ z=>nomatch z),(λi a g _ z=>nomatch z),(λi i' a g g' _ _ z=>nomatch z)⟩,af (fu (TN.kU ac)<|aD ac TN)<|af (if_pos (by constructor<;>lia)) rfl]
 clear H hb W X1 S1;left;rw[⟨by simp,λheld hh=>?_⟩];have Xh:Ext [] Ux<|Ux.set held<|.list []:=Ext.fresh hh;have nh1:=H1.C8 hh;have nh2:=W1.zC H1 hh;have Ut:=Tt.grow (o:=.list []) hh;have H2:=H1.ext Xh bZ;have W2:=W1.ext H1 Xh bZ;have eh:(Ux.set held<|.list []) held=some (.list []):=St.ah;have UL:=aO hz1 Xh bZ;generalize Ux.set held (.list [])=UK at Xh Ut H2 W2 eh UL ⊢;clear H1 W1 Tt hz1;left;rw[⟨by simp,λR3 Xs=>?_⟩];have Xb:Ext [] UK<|UK.set R3<|.list []:=Ext.fresh Xs;have nb1:=H2.C8 Xs;have nb2:=W2.zC H2 Xs;have nhb:held≠R3:=λz=>by rw[z,Xs] at eh;rw[aq eh]
 have TR:=Ut.grow (o:=.list []) Xs;have H3:=H2.ext Xb bZ;have W3:=W2.ext H2 Xb bZ;have eh2:=Xb _ _ nz eh;have eb:(UK.set R3<|.list []) R3=some (.list []):=St.ah;have hz3:=aO UL Xb bZ;generalize UK.set R3 (.list [])=VK at Xb TR H3 W3 eh2 eb hz3 ⊢;clear H2 W2 Ut UL eh;left;rw[⟨by simp,λRV WM=>?_⟩];have Xm:Ext [] VK<|VK.set RV<|.list []:=Ext.fresh WM;have nm1:=H3.C8 WM;have nm2:=W3.zC H3 WM;have nhm:held≠RV:=λz=>by rw[z,WM] at eh2;rw[aq eh2]
 have nbm:R3≠RV:=λz=>by rw[z,WM] at eb;rw[aq eb]
 have T5:=TR.grow (o:=.list []) WM;have H4:=H3.ext Xm bZ;have W4:=W3.ext H3 Xm bZ;have eh3:=Xm _ _ nz eh2;have eb2:=Xm _ _ nz eb;have em:(VK.set RV<|.list []) RV=some (.list []):=St.ah;have hz4:=aO hz3 Xm bZ;generalize VK.set RV (.list [])=Uw at Xm T5 H4 W4 eh3 eb2 em hz4 ⊢;clear H3 W3 TR hz3 eh2 eb;left;rw[⟨by simp,λfr UE=>?_⟩];have Xf:Ext [] Uw<|Uw.set fr<|.list<|[1,0,2].map .int:=Ext.fresh UE;have T3:=T5.ext Xf bZ;have H5:=H4.ext Xf bZ;have W5:=W4.ext H4 Xf bZ;have nfb:fr≠RW:=λz=>by
  obtain ⟨_,_,_,_,_,w,_⟩:=T5;rw[<- z] at w;rw[nomatch w.it.symm.trans UE]
 have ef:(Uw.set fr<|.list<|[1,0,2].map .int) fr=some (.list<|[1,0,2].map .int):=St.ah;have eh4:=Xf _ _ nz eh3;have eb3:=Xf _ _ nz eb2;have em2:=Xf _ _ nz em;have WG:=aO hz4 Xf bZ;show (_:V->St->Prop) _ (Uw.set fr<|.list<|[1,0,2].map .int);generalize Uw.set fr (.list<|[1,0,2].map .int)=Wd at Xf T3 H5 W5 ef eh4 eb3 em2 WG ⊢;clear H4 W4 T5 hz4 eh3 eb2 em;have VX:∀y∈RV::R3::held::(B1.ml++B2.ml),Wd y≠none:=λy hy=>by
  rcases ek hy with z|z
  ·rw[af z<|af em2 λz=>nomatch z]
  ·rcases ek z with z|z
   ·rw[af z<|af eb3 λz=>nomatch z]
   ·rcases ek z with z|z
    ·rw[af z<|af eh4 λz=>nomatch z]
    ·rw[WG y z]
 left;rw[(cA T3 VX ac ac ac λp ZQ p0 p1 UX Y=>?_).call];have hnin:=UX.pT;have nx:=H5.iS T3;have nx2:=W5.C7 H5 T3;have hbx:∀y∈[RW],y∉B1.al:=λy hy=>by rw[af (b9 hy) nx]
 have nbh:held≠RW:=λz=>hnin<|af (Eq.symm<|z)<|gA RV<|gA R3<|List.Mem.head<|B1.ml++B2.ml;have nbb:R3≠RW:=λz=>hnin<|af (Eq.symm<|z)<|gA RV<|List.Mem.head<|held::(B1.ml++B2.ml);have nbmd:RV≠RW:=λz=>hnin<|af (Eq.symm<|z)<|List.Mem.head<|R3::held::(B1.ml++B2.ml);obtain ⟨p,rfl⟩:=Int.eq_ofNat_of_zero_le p0;obtain ⟨fv,hfv⟩:∃fv:Int,([1,0,2].map V.int)[p]?=some (.int fv):=by
  rw[OZ p (show p<3 by rw[Int.ofNat_lt.mp p1]) ?_ ?_ ?_]
  ·rw[⟨_,rfl⟩]
  ·rw[⟨_,rfl⟩]
  ·rw[⟨_,rfl⟩]
 left;rw[<-aC (Y _ _ (λz=>nfb<|b9 z) ef) p0 (Ku p1) (af (Int.toNat_natCast ..) hfv) ?_,<-⟨by simp,?_⟩];refine h root held R3 RV fv ZQ ⟨_,[root],_,[],[],[],H5.ext Y hbx,Sp,⟨by simp,by simp,by simp,(λx=>⟨nz,(by rintro ⟨_,_,_,_,_,_,z,_,_⟩;rw[nomatch z])⟩),(λx=>⟨nz,(by rintro ⟨_,_,_,z,_⟩;rw[nomatch z])⟩),(λx=>⟨nz,(by rintro ⟨_,_,_,_,z,_⟩;rw[nomatch z])⟩),(λx=>?_),(λi _ z=>nomatch z)⟩,Y _ _ (λz=>nbh<|b9 z) eh4,Y _ _ (λz=>nbb<|b9 z) eb3,Y _ _ (λz=>nbmd<|b9 z) em2,Nat.le_refl _⟩
  (W5.ext H5 Y λy hy=>by rw[af (b9 hy)<|.inr nx2]) UX (aO VX Y λy hy SE=>absurd SE<|b9 hy▸hnin) ⟨nh1,nb1,nm1,nx,nhb,nhm,nbm,λy hy=>?_⟩ ⟨λy hy=>?_⟩
 ·unfold fL;rw[af (propext List.mem_singleton) ⟨.inl,λz=>z.elim id (by rintro ⟨_,_,_,z⟩;rw[nomatch z])⟩]
 ·rcases hy with z|z|z|z
  ·simp [z]
  ·simp [z]
  ·simp [z]
  ·simp [z]
 ·replace hy:=zI hy;clear h hh nh1 Xs nb1 nhb WM nm1 nhm nbm nfb T3 eh4 eb3 em2 VX UX Y hnin nx hbx nbh nbb nbmd;rcases hy with rfl|rfl|rfl|rfl
  ·rw[nx2]
  ·rw[nh2]
  ·rw[nb2]
  ·rw[nm2]
end
section
variable {ke:ji}{zs:List Addr}{c:Nat}{r1 r2:Int} 
noncomputable def M4 (m8 RW lay D1 D2 held R3 RV:Addr)(root R0:Int):Lo:=[("script",.ref m8),("box",.ref RW),("layout",.ref lay),("one",.ref D1),("other",.ref D2),("root",.int root),("held",.ref held),("big",.ref R3),("made",.ref RV),("front",.int R0)]
inductive QZ (m8 RW D1 D2 SI SQ Se Sh held R3 RV:Addr)(B1 B2:Bd)(b:Nat)(m2 root R0:Int)(t:Nat)(lo:Lo)(τ:St):Prop
 |mk (e:lo=M4 m8 RW B1.lay D1 D2 held R3 RV root R0) (D:pP τ B1 b 0 root held R3 RV t) (W:uu τ b B1.lay D1 SI Se B1 D2 SQ Sh B2 m2) (hb:aU τ RW (RV::R3::held::(B1.ml++B2.ml)) (3+10*t)) (hz:∀y∈RV::R3::held::(B1.ml++B2.ml),τ y≠none)
theorem Rh (TZ:IntsAre q.fH ns)(Vd:ns.length<=63)(b2:2<=b)(b5:b<=5)(D:pP U B1 b 0 root held R3 RV 0)(W:uu U b lay D1 SI Se B1 D2 SQ Sh B2 m2)(hb:aU U RW (RV::R3::held::(B1.ml++B2.ml)) 3)(hz:∀y∈RV::R3::held::(B1.ml++B2.ml),U y≠none)(S3:CV B1 held R3 RV RW<|RV::R3::held::(B1.ml++B2.ml))(ST:NR held R3 RV RW D1 SI Se D2 SQ Sh B2)
 (h:∀σ',pP σ' B1 b 0 root held R3 RV 9->uu σ' b lay D1 SI Se B1 D2 SQ Sh B2 m2->aU σ' RW (RV::R3::held::(B1.ml++B2.ml)) 103->(∀y∈RV::R3::held::(B1.ml++B2.ml),σ' y≠none)->kl .next (M4 q.bw RW lay D1 D2 held R3 RV root R0) σ'):
 eU (Dd q) (n+10) dg (bh 5) ([("script",.ref q.bw),("box",.ref RW),("layout",.ref lay),("one",.ref D1),("other",.ref D2),("root",.int root),("held",.ref held),("big",.ref R3),("made",.ref RV),("front",.int R0)]:Lo) U kl gF:=by
 have el:=W.l1;subst el;have G:eG b 0:=⟨b2,b5,.inl rfl⟩;have hE:=G.e;have UT:yz U B1.lay 182<|layA b:=by
  obtain ⟨f,used,T,hs,bs,ms,D⟩:=D;rw[D.bd.lay]
 obtain ⟨dl,hl⟩:=UT;rw[iK (.For _ _ _ [] _) rfl ?_,dz ?_,bY.mono (k:=λx υ=>υ=U/\∃N:Nat,N<=9/\x=.uq 0 N 1) (ke:=xg) ?_ ?_ λ_ _ _ z=>z.elim]
 ·left;rw[<-qL TZ (xU Vd) ?_];have fin:∀c:Int,0<=c->c<=6->U=U/\∃N:Nat,N<=9/\V.uq 0 (3+(if c<(ns.length:Int) then c else (ns.length:Int))) 1=.uq 0 N 1:=λc c0 c6=>by
   rw[⟨rfl,(3+(if c<(ns.length:Int) then c else (ns.length:Int))).toNat,by split<;>first|exact Int.toNat_le.mpr (Int.add_le_add_left c6 3)|exact Nat.add_le_add_left (Int.ofNat_le.mp<|Int.le_trans (Int.not_lt.mp<|by assumption) c6) 3,?_⟩]
   congr 1
   split<;>first|rfl|exact (Int.toNat_of_nonneg<|Int.add_nonneg (by decide) c0).symm
  by_cases T3:(2:Int)^(b+2)<100
  ·rw[<-aN (dT T3) ?_,<-rS (by rw[Nat.succ_pos _]) ?_,<-cP ?_,fin 6 ac ac]
  ·rw[<-az (dF T3) ?_,<-rS (by rw[Nat.succ_pos _]) ?_,<-cP ?_,fin 3 ac ac]
 clear hl;rintro _ _ ⟨rfl,N,hN,rfl⟩;have n39:∀y∈[RW],y∉B1.al/\y≠held/\y≠R3/\y≠RV:=λy hy=>by
  rw[af (b9 hy) ?_];have hx:=hb.pT;rw[⟨S3.x,λz=>hx<|af z<|gA RV<|gA R3<|List.Mem.head<|B1.ml++B2.ml,λz=>hx<|af z<|gA RV<|List.Mem.head<|held::(B1.ml++B2.ml),λz=>hx<|af z<|List.Mem.head<|R3::held::(B1.ml++B2.ml)⟩]
 rw[iX (by lia) (QZ q.bw RW D1 D2 SI SQ Se Sh held R3 RV B1 B2 b m2 root R0) ⟨rfl,D,W,hb,hz⟩ ?_ ?_]
 ·rintro t lo τ ht ⟨rfl,Dt,Wt,hbt,hzt⟩
  with_reducible rw[pF (by decide) ?_]
  rw[xo rfl rfl ?_,zb (g5 _) rfl ?_]
  iterate 2 fail
  rw[bY.mono (k:=λx υ=>(∃w:Int,x=.int w/\0<=w/\w<10)/\aU υ RW (RV::R3::held::(B1.ml++B2.ml)) (3+10*t+1)/\Ext [RW] τ υ) (ke:=xg) ?_ ?_ λ_ _ _ z=>z.elim]
  ·left
   by_cases hf:(t:Int)<R0
   ·rw[<-aN (dT hf) ?_,⟨⟨_,rfl,by decide,by decide⟩,hbt.le<|by rw[Nat.le.step Nat.le.refl],Ext.refl⟩]
   ·rw[<-az (dF hf) ?_,(cA hbt hzt (Lj ht hN) ac ac λw υ w0 w1 Vk Y=>⟨⟨w,rfl,w0,w1⟩,Vk,Y⟩).call]
  rintro _ υ ⟨⟨w,rfl,w0,w1⟩,Tt,Y⟩;have hH:∃f used,aH τ B1 b 0 f used:=by
   obtain ⟨f,used,T,hs,bs,ms,D⟩:=Dt;rw[⟨f,used,D.bd⟩]
  obtain ⟨f0,Zp,H0⟩:=hH;have nx2:=Wt.C7 H0 hbt;have hz1:=aO hzt Y λy hy SE=>absurd SE<|b9 hy▸Tt.pT;have W1:=Wt.ext H0 Y λy hy=>by rw[af (b9 hy)<|.inr nx2]
  have D1':pP υ B1 b 0 root held R3 RV t:=by
   obtain ⟨f,used,T,hs,bs,ms,D⟩:=Dt;rw[⟨f,used,T,hs,bs,ms,D.ext Y n39⟩]
  have H1:=H0.ext Y λy hy=>(n39 y hy).1;clear hzt hbt Dt Wt Y nx2;left;rw[<-aS W1.o1.dict rfl ?_];have fin:∀σ',pL υ σ' B1 b 0 root held R3 RV RW (RV::R3::held::(B1.ml++B2.ml)) (t+1) (3+10*t+1+8)->uo (QZ q.bw RW D1 D2 SI SQ Se Sh held R3 RV B1 B2 b m2 root R0<|t+1) (Lo.put "turn" (.int t)<|M4 q.bw RW B1.lay D1 D2 held R3 RV root R0) σ':=λσ' P=>by
   rw[⟨M4 q.bw RW B1.lay D1 D2 held R3 RV root R0,σ',Lo.bg ⟨rfl,rfl,rfl,rfl,rfl,rfl,rfl,rfl,rfl,rfl,trivial⟩,St.le_refl _,rfl,P.d,W1.ext H1 P.e λy hy=>?_,P.x.le<|by rw[Nat.le.step Nat.le.refl],?_⟩]
   ·rcases ek hy with z|z
    ·rw[.inr<|z▸ST.all _ (by rw[List.Mem.head [held,R3,RV]])]
    ·rcases ek z with z|z
     ·rw[.inr<|z▸ST.all _ (by rw[gA RW<|List.Mem.head [R3,RV]])]
     ·rcases ek z with z|z
      ·rw[.inr<|z▸ST.all _ (by rw[gA RW<|gA held<|List.Mem.head [RV]])]
      ·rcases ek z with z|z
       ·rw[.inr<|z▸ST.all _ (by rw[gA RW<|gA held<|gA R3<|List.Mem.head []])]
       ·rw[.inl z]
   ·obtain ⟨f,used,T,hs,bs,ms,D⟩:=P.d;rw[aO hz1 P.e λy hy SE=>?_];rcases ek hy with z|z
    ·rw[z] at SE;rw[absurd SE P.x.pT]
    ·rcases ek z with z|z
     ·rw[af z<|af D.eh λz=>nomatch z]
     ·rcases ek z with z|z
      ·rw[af z<|af D.eb λz=>nomatch z]
      ·rcases ek z with z|z
       ·rw[af z<|af D.em λz=>nomatch z]
       ·rw[lX D.bd y z]
  left;rw[<-(CD G D1' (by lia) S3 Tt hz1 (Lm ht hN) w0 w1 (λσ' P=>by (left);rw[fin σ' P]) λσ' s P=>⟨An _,?_⟩).call,fin σ' P]
 ·rintro lo τ ⟨rfl,Dt,Wt,hbt,hzt⟩;rw[h τ ?_ Wt (hbt.le<|by lia) hzt];obtain ⟨f,used,T,hs,bs,ms,D⟩:=Dt;rw[⟨f,used,T,hs,bs,ms,{D with len:=Nat.le_trans D.len hN}⟩]
end
variable {R9:Addr}
theorem Aa {c d:Nat}:∀{L:List<|List Nat},d∈jn c L->d=c\/∃l∈L,d∈l
 |[],h=>nomatch h
 |[x],h=>.inr ⟨x,List.mem_cons_self,h⟩
 |x::y::r,h=>by
  rw[gO,List.mem_append,List.mem_cons] at h;rcases h with h|h|h
  ·rw[.inr ⟨x,List.mem_cons_self,h⟩]
  ·rw[.inl h]
  ·rw[(Aa h).imp id λ⟨l,a,b⟩=>⟨l,List.mem_cons_of_mem _ a,b⟩]
theorem BS (fl:Int):∀c∈(bk fl).cps.toList,c<128:=by
 intro c hc;unfold bk at hc;obtain ⟨j,hj,rfl⟩:=List.mem_map.mp (show c∈(List.range 8).map (cg fl) by simpa using hc);have key:∀j:Fin 8,gM j<128:=by decide
 have:=key ⟨j,List.mem_range.mp hj⟩;unfold cg
 split
 ·rw[this]
 ·decide
theorem Cb (E:Nat)(r:Row):∀c∈(bf E r).cps.toList,c<128:=by
 intro c z;have e:(bf E r).cps.toList=(aK r.1++⟨#[32]⟩++aK r.2.1++⟨#[32]⟩++bk r.2.2.1++eH E r).cps.toList:=rfl;rw[e] at z;simp only [eB,List.mem_append] at z;rcases z with ((((z|z)|z)|z)|z)|z
 ·rw[(dK _ _ z).2.2]
 ·have:c=32:=by simpa using z
  rw[JH this]
 ·rw[(dK _ _ z).2.2]
 ·have:c=32:=by simpa using z
  rw[JH this]
 ·rw[BS _ _ z]
 ·rcases sJ E r with w|w<;>rw[w] at z
  ·rw[show (Str.ofString "*").cps.toList=[42] from rfl] at z;rw[af (b9 z) ?_];decide
  ·rw[show (Str.ofString "").cps.toList=[] from rfl] at z;cases z
theorem jm (E:Nat)(rs:List Row):PyData.strOk (Txt.join (Str.ofString "\n")<|rs.map<|bf E)=true:=by
 rw[af (propext Array.all_eq_true_iff_forall_mem) ?_];intro c hc;rw[show Str.ofString "\n"=⟨#[10]⟩ from rfl,kL,<- Array.mem_toList_iff,k7] at hc;rw[decide_eq_true ?_];rcases Aa hc with z|⟨l,hl,hc⟩
 ·rw[af z ?_];decide
 ·obtain ⟨p,hp,rfl⟩:=List.mem_map.mp hl;clear hl;obtain ⟨r,_,rfl⟩:=List.mem_map.mp hp;have:=Cb E r c hc;rw[Kf this]
theorem Ab (c:Nat):∀L:List<|List Nat,(jn c L).length<=(L.map (·.length)).sum+L.length
 |[]=>Nat.zero_le _
 |[x]=>by rw[Nat.le.step Nat.le.refl]
 |x::y::r=>by
  have:=Ab c<|y::r;rw[af (gO ..)<|af List.length_append<|af List.length_cons<|af List.map_cons<|af List.sum_cons<|af List.length_cons<|KI this]
theorem text_len (E:Nat)(rs:List Row)(h:rs.length<=1024):(Txt.join (Str.ofString "\n")<|rs.map<|bf E).length<=100000:=by
 have h3:=jU (E:=E) rs;rw[af (show Str.ofString "\n"=⟨#[10]⟩ from rfl)<|af (kL ..) ?_];have e:(Str.join ⟨#[10]⟩<|rs.map<|bf E).length=(Str.join ⟨#[10]⟩<|rs.map<|bf E).cps.toList.length:=by rfl
 rw[af e<|af (k7 ..) ?_];have h1:=Ab 10 ((rs.map<|bf E).map (·.cps.toList));have e2:((rs.map<|bf E).map (·.cps.toList)).map (·.length)=(rs.map<|bf E).map (·.length):=by
  rw[af List.map_map ?_,List.map_congr_left λx _=>rfl]
 rw[e2,cD,cD] at h1;rw[K6 h3 h1 h]
section
variable {ke:ji}{zs:List Addr}{c:Nat}{r1 r2:Int} 
noncomputable def mH (E:Nat)(T:Nat->Slot):Str:=Txt.join (Str.ofString "\n")<|(aP E T E).map<|bf E
noncomputable def QK (m8 RW lay D1 D2 held R3 RV R9:Addr)(root R0:Int)(Td:Str):Lo:=[("script",.ref m8),("box",.ref RW),("layout",.ref lay),("one",.ref D1),("other",.ref D2),("root",.int root),("held",.ref held),("big",.ref R3),("made",.ref RV),("front",.int R0),("text",.str Td),("lone",.ref R9)]
theorem Rg (b2:2<=b)(b5:b<=5)(D:lP U B1 b 0 root held R3 RV 9 f used T0 hs bs ms)(W:uu U b B1.lay D1 SI Se B1 D2 SQ Sh B2 m2)
 (h:∀R9 σ',σ' R9=some (.list<|(ms.filter<|jC hs<|4*((2^b:Nat):Int)*((2^b:Nat):Int)).map .int)->Ext [] U σ'->U R9=none->kl .next (QK q.bw RW B1.lay D1 D2 held R3 RV R9 root R0<|mH (2^b) T0) σ'):
 eU (Dd q) (n+10) dg (bh 6) (M4 q.bw RW B1.lay D1 D2 held R3 RV root R0) U kl gF:=by
 have G:eG b 0:=⟨b2,b5,.inl rfl⟩;have hE:=G.e;obtain ⟨dl,hl⟩:=D.bd.lay;have hml:ms.length<=4:=af (D.di.zE<|eO hE) D.di.n4;have hhl:=D.len;rw[iK (.Assign [.Tuple [_,_] _ _] (.Tuple [_,_] _ _) _) rfl ?_,<-dB (names:=["lone","text"]) ?_ ac (by rintro ⟨⟩ z;cases z;rfl),(wA D.eh D.em (by lia) (Jy hml) λR9 τ Uh el X=>?_).call];rw[show (2:Int)^(b+2)*2^b=4*((2^b:Nat):Int)*((2^b:Nat):Int) by rw[af (pe ..)<|af (iG ..) rfl]] at el;have D2':=D.ext X bZ;have W2:=W.ext D.bd X bZ;obtain ⟨dt,UM⟩:=D2'.bd.tab;left;rw[<-aS W2.o1.dict rfl ?_,(nq G D2'.bd D2'.sp (λr hr=>?_) ?_).call]
 ·rw[cL] at hr;obtain ⟨t,ht,rfl⟩:=List.mem_map.mp hr;have L:=D.sp.it ht;have:=qw hE.1 hE.2 ht;rw[⟨this.1,Int.mul_nonneg (by have:=L.1;rw[zX this])<|by rw[nN<|4*2^b],by show 0<=t.2.2%1024;rw[zQ]⟩]
 left;rw[⟨by simp,rfl,h R9 τ el X Uh⟩]
noncomputable def Fw (m8 RW lay D1 D2 held R3 RV R9 ls:Addr)(root R0:Int)(Td:Str):Lo:=[("script",.ref m8),("box",.ref RW),("layout",.ref lay),("one",.ref D1),("other",.ref D2),("root",.int root),("held",.ref held),("big",.ref R3),("made",.ref RV),("front",.int R0),("text",.str Td),("lone",.ref R9),("lines",.ref ls)]
theorem Rf (h4:4<=2^b)(WW:2^b<=32)(Sp:aF (2^b) 0 f root T0)
 (h:∀(ls:Addr) (pt:List<|Addr×It) (σ':St),gW σ' ls (pt.map<|dI<|2^b)->pt.map (·.2)=items (2^b) T0 (2^b)->Ext [] U σ'->U ls=none->(∀p∈pt,U p.1=none)->kl .next (Fw q.bw RW lay D1 D2 held R3 RV R9 ls root R0<|mH (2^b) T0) σ'):
 eU (Dd q) (n+10) dg (bh 7) (QK q.bw RW lay D1 D2 held R3 RV R9 root R0<|mH (2^b) T0) U kl gF:=by
 have Sd:(aP (2^b) T0<|2^b).length<=1024:=Nat.le_trans (eT (JF h4) _)<|Nat.mul_le_mul WW WW;rw[iK (.Assign [_] _ _) rfl ?_,<-iL ?_ (by intro env e;rfl),<-w6 (jm _ _) (by decide+kernel) ?_]
 by_cases ht:mH (2^b) T0=Str.ofString ""
 ·rw[<-az (gI<|sT ht) ?_,<-⟨by simp,λls WN=>?_⟩];have hr:=(sC<|2^b).mp ht;rw[cL,List.map_eq_nil_iff] at hr;rw[h ls [] _ ⟨St.ah,bZ⟩ hr.symm (Ext.fresh WN) WN bZ]
 ·rw[aN (n7<|sF ht) ?_];have hr:aP (2^b) T0 (2^b)≠[]:=λz=>ht<|(sC<|2^b).mpr z;left;rw[<-cU (bV rfl ac ac) ?_,<-cC sZ ?_,t9 ac (text_len _ _ Sd) λsp hsp=>?_];erw[show Txt.split (mH (2^b) T0) (Str.ofString "\n")=_ from uB (2^b) hr];have X1:Ext [] U<|U.set sp<|.list<|((aP (2^b) T0<|2^b).map<|bf<|2^b).map .str:=Ext.fresh hsp;have e1:(U.set sp<|.list<|((aP (2^b) T0<|2^b).map<|bf<|2^b).map .str) sp=some (.list<|((aP (2^b) T0<|2^b).map<|bf<|2^b).map .str):=St.ah;generalize U.set sp (.list<|((aP (2^b) T0<|2^b).map<|bf<|2^b).map .str)=Sx at X1 e1 ⊢;left;rw[aV e1 ⟨by rw[af (cD ..)<|af (cD ..) ?_,zS Sd],?_⟩];rw[cL,List.map_map,List.map_map] at e1 ⊢;rw[wB (λt:It=>V.str<|bf (2^b)<|gP (2^b) t) (items (2^b) T0<|2^b) (λdone Sa ω=>Ext [] Sx ω/\∃pt:List<|Addr×It,Sa=pt.map (λp=>.ref p.1)/\pt.map (·.2)=done/\(∀p∈pt,ω p.1=some (.list<|Fx (dI (2^b) p).2)/\U p.1=none)) ?_ ?_ ?_ Sx ⟨Ext.refl,[],rfl,rfl,bZ⟩]
  ·rintro done Sa ω ⟨Y,_⟩;rw[Y _ _ nz e1]
  ·rintro done t Sa ω ⟨rest,hrr⟩ ⟨Y,pt,rfl,hpt,hp⟩;have htm:t∈items (2^b) T0 (2^b):=af hrr<|List.mem_append_right _ List.mem_cons_self;have L:=Sp.it htm;have bd:=qw h4 WW htm;have Vg:0<=t.2.2/1024*(4*((2^b:Nat):Int))/\t.2.2/1024*(4*((2^b:Nat):Int))<2^32:=by
    have P:=zv (b:=b) L;rw[⟨P.h0,Int.lt_of_lt_of_le P.h1 ?_⟩];have:(2:Int)^22*(4*((2^b:Nat):Int))<=2^22*128:=Int.mul_le_mul_of_nonneg_left (by lia) ac;lia
   left;rw[<-⟨Lo.bg trivial,?_⟩,(BF bd.1 (by show eV (2^b) t<_;rw[Me bd]) Vg.1 Vg.2 (by show 0<=t.2.2%1024;rw[zQ]) λl ZP hl el Y2=>?_).call,⟨Y.trans Y2,pt++[(l,t)],af List.map_append rfl,af List.map_append<|af hpt rfl,λp Sn=>?_⟩];rcases kX Sn with w|w
   ·rw[⟨Y2 _ _ nz (hp p w).1,(hp p w).2⟩]
   ·rw[af (b9 w) ⟨el,(X1.trans Y).none hl⟩]
  ·rintro Sa ω ⟨Y,pt,rfl,hpt,hp⟩;intro ls WN;left;have Z:Ext [] ω<|ω.set ls<|.list<|pt.map λp=>.ref p.1:=Ext.fresh WN;rw[h ls pt _ ⟨af St.ah<|af List.map_map rfl,λp Sn=>?_⟩ hpt ((X1.trans Y).trans Z) ((X1.trans Y).none WN) λp Sn=>(hp p Sn).2];obtain ⟨p',hq,rfl⟩:=List.mem_map.mp Sn;rw[Z _ _ nz (hp p' hq).1]
end
variable {Td:Str}
section
variable {zs:List Addr}{c:Nat}{r1 r2:Int} 
theorem rz:∀ps:List<|Addr×Ln,PyData.canLayAll0 (ps.map λp=>Ca p.2)=true/\PyData.depthAll (ps.map λp=>Ca p.2)<=1
 |[]=>⟨rfl,Nat.zero_le _⟩
 |p::ps=>by
  obtain ⟨h1,h2⟩:=rz ps;obtain ⟨h3,h4⟩:=qt p.2;rw[af List.map_cons ?_];simp only [PyData.canLayAll0,PyData.depthAll,h3,h1,Bool.and_self];rw[⟨trivial,by lia⟩]
theorem AS (L:gW U ls ps)(h:k (.bool false) U):cZ (Dd q) n .In .none (.ref ls) U k ke:=by
 rw[NB L.it (tu L.each) .none (rz ps).1 rfl (Nat.le_trans (rz ps).2 ac) ?_];have:(ps.map λp=>Ca p.2).any (λy=>PyData.eqv y .none)=false:=by
  rw[af List.any_map<|af (propext List.any_eq_false) ?_];intro p _;simp [Ca,PyData.eqv]
 rw[af this h]
theorem lG (ha:U a=some (.list<|ns.map .int))(hb:U b'=some (.list<|ns.map .int))(h:k (.bool false) U):cZ (Dd q) n .NotEq (.ref a) (.ref b') U k ke:=
 jL (fP ha) (fP hb) (cR _) (cR _) (af (lg ..)<|af (decide_eq_true rfl) h)
theorem Rd (D:lP U B1 b 0 root held R3 RV 9 f used T0 hs bs ms)(hE:0<2^b)(L:gW U ls<|pt.map<|dI<|2^b)(hp:pt.map (·.2)=items (2^b) T0 (2^b))(Sd:pt.length<=60)
 (h:∀σ',Ext [] U σ'->kl .next (Fw q.bw RW lay D1 D2 held R3 RV R9 ls root R0 Td) σ'):
 eU (Dd q) (n+10) dg (bh 8) (Fw q.bw RW lay D1 D2 held R3 RV R9 ls root R0 Td) U kl gF:=by
 have hhl:=D.len;left;rw[<-AS L ?_];left;rw[<-cU (bV rfl ac ac) ?_,aV L.it ⟨by rw[af (cD ..)<|af (cD ..) ?_,BZ Sd],?_⟩,af List.map_map ?_,fy (λp:Addr×It=>V.ref p.1) (λp=>.int<|eV (2^b) p.2) (show bJ _ (.lst _ _) from by have:=L.it;rw[List.map_map] at this;rw[this]) pt (λp Sn=>?_) ?_]
 ·left;rw[<-⟨Lo.bg trivial,?_⟩,aC (L.each _<|List.mem_map_of_mem (f:=dI<|2^b) Sn) ac ac rfl ⟨St.le_refl _,rfl⟩]
 intro a1 TS;have e1:(U.set a1<|.list<|pt.map λp=>V.int<|eV (2^b) p.2) a1=some (.list<|((items (2^b) T0<|2^b).map<|eV<|2^b).map .int):=af St.ah<|af (Eq.symm<|hp)<|af List.map_map<|af List.map_map rfl;have X1:Ext [] U<|U.set a1<|.list<|pt.map λp=>V.int<|eV (2^b) p.2:=Ext.fresh TS;generalize U.set a1 (.list<|pt.map λp=>V.int<|eV (2^b) p.2)=Sx at X1 e1 ⊢;left;rw[pC (X1 _ _ nz D.eh) (X1 _ _ nz D.eb) (by rw[af (cD ..)<|af (cD ..) ?_];lia) λa2 Ui=>?_,af (Eq.symm<|List.map_append) ?_];have X2:Ext [] Sx<|Sx.set a2<|.list<|(hs++bs).map .int:=Ext.fresh Ui;have e2:=X2 _ _ nz e1;left;rw[qJ St.ah (af List.length_append<|Kn hhl) λns a3 Uc Vw VF=>?_];have TH:ns=(items (2^b) T0<|2^b).map (eV<|2^b):=
  kq (qf Vw<|Uc.nodup_iff.mpr<|tL hE D.di) (eZ hE _) λx=>by erw[Uc.mem_iff,qv D.di]
 clear Uc Vw;subst TH;have X3:Ext [] (Sx.set a2<|.list<|(hs++bs).map .int)<|(Sx.set a2<|.list<|(hs++bs).map .int).set a3<|.list<|((items (2^b) T0<|2^b).map<|eV<|2^b).map .int:=Ext.fresh VF;left;rw[<-lG (X3 _ _ nz e2) St.ah ?_];left;rw[h _<|(X1.trans X2).trans X3]
theorem Rc (b2:2<=b)(b5:b<=5)(D:lP U B1 b 0 root held R3 RV 9 f used T0 hs bs ms)(W:uu U b lay D1 SI Se B1 D2 SQ Sh B2 m2)(hE:0<2^b)(L:gW U ls<|pt.map<|dI<|2^b)(hp:pt.map (·.2)=items (2^b) T0 (2^b))(Sd:pt.length<=60)
 (h:∀σ',Ext [] U σ'->kl .next (Fw q.bw RW lay D1 D2 held R3 RV R9 ls root R0 Td) σ'):
 eU (Dd q) (n+10) dg (bh 9) (Fw q.bw RW lay D1 D2 held R3 RV R9 ls root R0 Td) U kl gF:=by
 have hhl:=D.len;have V8:=(⟨b2,b5,.inl rfl⟩:eG b 0).e;left;rw[<-cU (bV rfl ac ac) ?_,aV L.it ⟨by rw[af (cD ..)<|af (cD ..) ?_,BZ Sd],?_⟩,af List.map_map ?_];have lgz:∀p:Addr×It,(dI (2^b) p).2.2.2.2=k9 p.2:=λp=>by
  obtain ⟨a,i,o,e⟩:=p
  cases o with
  |none=>rw[decide_eq_true rfl]
  |some j=>
   rw[decide_eq_false λz=>?_];have z:4*((2^b:Nat):Int)=4*((2^b:Nat):Int)*((2^b:Nat):Int):=z;have:=Int.mul_lt_mul_of_pos_left (show (1:Int)<((2^b:Nat):Int) by rw[K3 V8 hE]) (show (0:Int)<4*((2^b:Nat):Int) by rw[Ew hE]);lia
 rw[kh (λp:Addr×It=>V.ref p.1) (λp=>if k9 p.2=true then some (.int<|eV (2^b) p.2) else none) (show bJ _ (.lst _ _) from by have:=L.it;rw[List.map_map] at this;rw[this]) pt [] (λp Sn=>?_) ?_]
 ·have el:=L.each _<|List.mem_map_of_mem (f:=dI<|2^b) Sn;left;rw[⟨Lo.bg trivial,?_⟩];show kI _ _ _ _ _ _ _ _;left;rw[<-aC (x:=.bool<|k9 p.2) el ac ac (af (Eq.symm<|lgz ..) rfl) ?_]
  cases hl:k9 p.2 with
  |true=>
   rw[<-aN rfl ?_,aC el ac ac rfl ⟨St.le_refl _,if_pos rfl⟩]
  |false=>
   rw[az rfl ⟨St.le_refl _,if_neg λz=>nomatch z⟩]
 rw[af (List.nil_append ..) ?_];have em:pt.filterMap (λp=>if k9 p.2=true then some (V.int<|eV (2^b) p.2) else none)=(((items (2^b) T0<|2^b).filter k9).map<|eV<|2^b).map .int:=by
  rw[af (Eq.symm<|hp) ?_];clear hp Sd h L lgz
  induction pt with
  |nil=>rfl
  |cons p ps ih=>
   rw[af List.filterMap_cons<|af List.map_cons<|af List.filter_cons<|af ih ?_]
   cases hl:k9 p.2 with
   |true=>rw[af (if_pos rfl)<|af (if_pos rfl) rfl]
   |false=>rw[af (if_neg ac)<|af (if_neg ac) rfl]
 rw[af em ?_];intro a1 TS;have X1:Ext [] U<|U.set a1<|.list<|(((items (2^b) T0<|2^b).filter k9).map<|eV<|2^b).map .int:=Ext.fresh TS;have e1:(U.set a1<|.list<|(((items (2^b) T0<|2^b).filter k9).map<|eV<|2^b).map .int) a1=_:=St.ah;generalize U.set a1 (.list<|(((items (2^b) T0<|2^b).filter k9).map<|eV<|2^b).map .int)=Sx at X1 e1 ⊢;left;rw[qJ (X1 _ _ nz D.eb) (Ks hhl) λns a3 Uc Vw VF=>?_];have TH:ns=((items (2^b) T0<|2^b).filter k9).map (eV<|2^b):=by
  rw[kq (qf Vw<|Uc.nodup_iff.mpr D.di.bn) ((eZ (T:=T0) hE<|2^b).sublist<|List.filter_sublist.map _) λx=>by erw[Uc.mem_iff,CN D.di]]
 clear Uc Vw;subst TH;have X3:Ext [] Sx<|Sx.set a3<|.list<|(((items (2^b) T0<|2^b).filter k9).map<|eV<|2^b).map .int:=Ext.fresh VF;left;rw[lG (X3 _ _ nz e1) St.ah ?_];have D3:=(D.ext X1 bZ).ext X3 bZ;have W3:=(W.ext D.bd X1 bZ).ext (D.bd.ext X1 bZ) X3 bZ;have X:=X1.trans X3;generalize Sx.set a3 (.list<|(((items (2^b) T0<|2^b).filter k9).map<|eV<|2^b).map .int)=Uu at X D3 W3 ⊢;left;left;rw[aS W3.o1.dict rfl ?_];right;have Ub:∃d u gv hf,jd Uu B1.pool B1.mem B1.rF B1.qz (0+2*2^(b+2)) (2^(b+2)) u gv hf/\Uu B1.pool=some (.inst 841 d<|zo B1.mem (0+2*2^(b+2)) (2^(b+2)) u B1.rF B1.qz):=by
  obtain ⟨u,gv,hf,w,_⟩:=D3.bd.pool;obtain ⟨d,hd⟩:=w.it;rw[⟨d,u,gv,hf,w,hd⟩]
 obtain ⟨dp,u,gv,hf,_,Y9⟩:=Ub;symm;left;rw[<-(g6 D3.bd.pool ?_).call];have hml:ms.length=nT (2^b) T0:=D.di.zE hE;have hn4:=D.di.n4;rw[eg D3.em (af (cD ..)<|JD hml hn4) ?_,<-af (cD ..) ?_];have h5:used.length=1+nT (2^b) T0:=by
  rw[af (Eq.symm<|jT (root:=root))<|fN D.bd.iO.1 (gi D.sp) λx=>by erw[gK,D.di.um]]
 rw[<-az (jh<|gH<|by lia) ?_,h _ X]
end
variable {left:Int}{c0:Nat}
section
variable {zs:List Addr}{c:Nat}{r1 r2 dS:Int} 
theorem t8 (S:aF E m0 f root T0)(h0:m0%4=0)(hy:Pg E m0 y)(hn:¬fL E root T0 y):aF E m0 (fm f (y/4) E) root T0:=
 S.frame λa ha j hj=>by
  have hp:=S.pg ha;erw[fu (hy.kU h0)<|aD h0 hp,if_neg];rintro ⟨z1,z2⟩;have m1:=hy.kU h0;have m2:=hp.kU h0;have Up:((a+4*(j:Int)-y)/4).toNat<E:=by rw[Qm (Jt m2) m1 z1 z2]
  rw[cB hp hy (λz=>hn<|z▸ha) hj Up ?_,tw (Jt m2) m1 z1]
theorem qn (h0:m0%4=0)(hy:Pg E m0 y):aF E m0 (fm f (y/4) E) y λ_=>.none:=by
 rw[⟨hy,λi hi=>?_,(λi e _ z=>nomatch z),(λi a g _ z=>nomatch z),(λi i' a g g' _ _ z=>nomatch z)⟩,af (fu (hy.kU h0)<|aD h0 hy)<|af (if_pos (by constructor<;>lia)) rfl]
theorem lW:fL E dS (λ_=>.none) x↔x=dS:=by
 rw[⟨λz=>z.elim id (by rintro ⟨_,_,_,z⟩;rw[nomatch z]),.inl⟩]
theorem wJ (H:aH U B b m0 f used)(h:k (.int<|10-used.length) U):ay (Dd q) (n+1) (.ref 775) [.ref B.pool] U k ke:=g6 H.pool h
noncomputable def xV (m8 RW lay D1 D2 held R3 RV R9 ls:Addr)(root R0 dS left:Int)(Td:Str):Lo:=[("script",.ref m8),("box",.ref RW),("layout",.ref lay),("one",.ref D1),("other",.ref D2),("root",.int root),("held",.ref held),("big",.ref R3),("made",.ref RV),("front",.int R0),("text",.str Td),("lone",.ref R9),("lines",.ref ls),("far",.int dS),("left",.int left)]
theorem OY (b2:2<=b)(b5:b<=5)(D:lP U B1 b 0 root held R3 RV 9 f used T0 hs bs ms)(W:uu U b lay D1 SI Se B1 D2 SQ Sh B2 m2)
 (h:∀(dS:Int) (c0:Nat) (σ':St),iH σ' B1 B2 b 0 m2 root dS T0 (λ_=>.none)->(B1=B2->c0=1+nT (2^b) T0)->(B1≠B2->c0=0)->Ext B2.ml U σ'->kl .next (xV q.bw RW lay D1 D2 held R3 RV R9 ls root R0 dS (10-(c0:Int)) Td) σ'):
 eU (Dd q) (n+10) dg (bh 10) (Fw q.bw RW lay D1 D2 held R3 RV R9 ls root R0 Td) U kl gF:=by
 right;have G:eG b 0:=⟨b2,b5,.inl rfl⟩;have hE:=G.e;have h5:used.length=1+nT (2^b) T0:=by
  rw[af (Eq.symm<|jT (root:=root))<|fN D.bd.iO.1 (gi D.sp) λx=>by erw[gK,D.di.um]]
 have hn4:=D.di.n4;have key:∃(f2:Int->Option Int) (u2:List Int),aH U B2 b m2 f2 u2/\u2.length<10/\(B1=B2->u2.length=1+nT (2^b) T0)/\(B1≠B2->u2.length=0)/\∀(y:Int) (σ':St),y∉u2->Pg (2^b) m2 y->aH σ' B2 b m2 (fm f2 (y/4)<|2^b) (y::u2)->eW B2 U σ'->iH σ' B1 B2 b 0 m2 root y T0 (λ_=>.none):=by
  rcases W.rel with ⟨e,em⟩|⟨s1,s2,H2⟩
  ·subst e;clear W h;subst em;rw[⟨f,used,D.bd,JZ h5 hn4,λ_=>h5,λz=>absurd rfl z,λy σ' hy hp H' S'=>?_⟩];have hny:¬fL (2^b) root T0 y:=λz=>hy<|(D.di.um y).mpr z;rw[⟨_,_,_,_,⟨G,G,H',H',t8 D.sp ac hp hny,qn ac hp,.inl ⟨rfl,rfl,rfl,rfl,λx=>?_,λx hx Xl=>?_⟩⟩⟩]
   ·rw[af (propext List.mem_cons)<|af (propext<|D.di.um ..)<|af (propext lW) Or.comm]
   ·rw[lW] at Xl;clear hy hp H';subst Xl;rw[hny hx]
  ·have SK:B1≠B2:=λz=>by clear s2 H2;subst z;rw[s1 B1.words (by rw[gA B1.lay<|gA B1.mem<|List.Mem.head [B1.pool,B1.rF,B1.qz,B1.tab]])<|by rw[List.Mem.head [B1.pool,B1.rF,B1.qz]]]
   rw[⟨_,[],H2,by decide,λz=>absurd z SK,λ_=>rfl,λy σ' hy hp H' S'=>?_⟩,⟨_,_,_,_,⟨G,W.g2,D.bd.ext S'.ext λy hy w=>s1 y w hy,H',D.sp,qn W.g2.m4.1 hp,.inr ⟨s1,s2,D.di.um,λx=>?_⟩⟩⟩];erw[List.mem_singleton,lW]
 obtain ⟨f2,u2,H2,hu,VR,WU,fin⟩:=key;symm;rw[iK (.Assign [.Tuple [_,_] _ _] (.Tuple [_,_] _ _) _) rfl ?_,<-dB (names:=["left","far"]) ?_ ac (by rintro ⟨⟩ z;cases z;rfl),aS W.o2.dict rfl ?_];right;obtain ⟨u,gv,hf,w,_⟩:=id H2.pool;obtain ⟨dp,Y9⟩:=w.it;symm;left;rw[<-(wJ H2 ?_).call,aS W.o2.dict rfl ?_];obtain ⟨dt,UM⟩:=H2.tab;left;rw[<-(iP W.g2 H2 hu λy σ' hy hp H' S'=>?_).call,⟨by simp,rfl,h y u2.length σ' (fin y σ' hy hp H' S') VR WU S'.ext⟩]
theorem OX (V8:4<=2^b)(VG:2^b<=32)(D:iH U B1 B2 b 0 m2 root dS T0 λ_=>.none)(L:gW U ls<|pt.map<|dI<|2^b)(hp:pt.map (·.2)=items (2^b) T0 (2^b))(h4:nT (2^b) T0<=4)(O2:dj U D2 SQ Sh B2)
 (hb:aU U RW zs m) (hz:∀y∈zs,U y≠none) (hm:m<2^39) (hB:∀y∈B1.ml++B2.ml,y∈zs) (nl:∀p∈pt,p.1∉B2.ml/\p.1≠RW) (S0:aF (2^b) m1 f root T0)
 (h:∀σ' T2,j7 (2^b) T0 T2->iH σ' B1 B2 b 0 m2 root dS T0 T2->aU σ' RW zs (m+1024)->Ext (RW::B2.ml) U σ'->kl .next (xV q.bw RW lay D1 D2 held R3 RV R9 ls root R0 dS left (mH (2^b) T0)) σ'):
 eU (Dd q) (n+10) dg (bh 11) (xV q.bw RW lay D1 D2 held R3 RV R9 ls root R0 dS left (mH (2^b) T0)) U kl gF:=by
 have nb:RW∉B1.al/\RW∉B2.al:=by
  obtain ⟨_,_,_,_,V⟩:=D;rw[⟨V.j6.iS hb,V.jc.iS hb⟩]
 have hml2:∀y∈RW::B2.ml,y≠D2/\y≠SQ/\y≠Sh:=λy hy=>by
  rcases ek hy with z|z
  ·clear nl h nb hy;subst z;rw[O2.iS hb]
  ·obtain ⟨_,_,_,_,V⟩:=D;rw[O2.pS V.jc y z]
 left;rw[<-aS O2.dict rfl ?_,(uE hb hz hm D L hp (tG<|JF V8) h4 (λy hy=>hB y<|List.mem_append_right _ hy) nb nl λSx T2 Sm D1 Tt X=>?_).call];have O3:=O2.ext X hml2;obtain ⟨V9,VH,u1,u2,V⟩:=D1;obtain ⟨dt,UM⟩:=V.jc.tab;left;left;rw[<-aS O3.dict rfl ?_,(nq V.g2 V.jc V.pQ (λr hr=>?_) ?_).call]
 ·rw[cL] at hr;obtain ⟨t,ht,rfl⟩:=List.mem_map.mp hr;have L:=V.pQ.it ht;have:=qw V8 VG ht;rw[⟨this.1,Int.mul_nonneg (by have:=L.1;rw[zX this])<|by rw[nN<|4*2^b],by show 0<=t.2.2%1024;rw[zQ]⟩]
 rw[<-af (Sm.text S0) ?_,<-w6 (jm _ _) (show PyData.strOk (mH (2^b) T0)=true from jm _ _) ?_,<-az (jh<|gI<|sT rfl) ?_,h Sx T2 Sm ⟨_,_,_,_,V⟩ Tt X]
theorem OW (D:iH U B1 B2 b 0 m2 root dS T0 T2)(Sm:j7 (2^b) T0 T2)(O2:dj U D2 SQ Sh B2)(em:U RV=some (.list<|ms.map .int))(eo:U R9=some (.list<|ns.map .int))(h1:ms.length=nT (2^b) T0)(h2:ns.length=bA (2^b) T0 (2^b))(h4:nT (2^b) T0<=4)
 (VR:B1=B2->c0=1+nT (2^b) T0) (WU:B1≠B2->c0=0) (h:kl .next (xV q.bw RW lay D1 D2 held R3 RV R9 ls root R0 dS (10-(c0:Int)) Td) U):
 eU (Dd q) (n+10) dg (bh 12) (xV q.bw RW lay D1 D2 held R3 RV R9 ls root R0 dS (10-(c0:Int)) Td) U kl gF:=by
 obtain ⟨V9,VH,u1,u2,V⟩:=D;have hT:=Sm.nT;have hcnt:=V.AI;left;rw[aS O2.dict rfl ?_];obtain ⟨u,gv,hf,w,_⟩:=id V.jc.pool;obtain ⟨dp,Y9⟩:=w.it;left;rw[<-(wJ V.jc ?_).call,eg em (af (cD ..)<|JD h1 h4) ?_,<-af (cD ..) ?_,eg eo (by rw[af (cD ..) ?_];lia) ?_,<-af (cD ..) ?_,az (gH ?_) ?_]
 ·rcases hcnt with ⟨e,z⟩|⟨e,z⟩
  ·have:=VR e;lia
  ·have:=WU e;lia
 left;rw[h]
end
section
variable {Tw:Addr}{zs:List Addr}{c:Nat}{r1 r2 dS:Int} 
def o4 (E:Nat)(t:It):Lv:=(eV E t,aQ t.2.2)
noncomputable def yE (r:Lv):PyData:=.tuple [.int r.1,.int r.2]
theorem qq (r:Lv):(yE r).canLay0=true/\(yE r).depth<=1:=by rw[⟨rfl,Nat.le.refl⟩]
theorem B9 (a b:Lv):PyData.eqv (yE a) (yE b)=decide (a=b):=by
 show (a.1==b.1&&(a.2==b.2&&true))=_;rw[af (pI ..)<|pD ..]
theorem AV {ps:List Lv}(ha:U a=some (.list<|ps.map oJ))(hb:U b'=some (.list<|ps.map oJ))(h:k (.bool false) U):cZ (Dd q) n .NotEq (.ref a) (.ref b') U k ke:=by
 have dt:∀c,U c=some (.list<|ps.map oJ)->fC U (.ref c) (.list<|ps.map yE):=λc hc=>.list hc<|fS.map _ _ (λr=>.tup<|.cons (.int _)<|.cons (.int _) .nil) _;rw[jL (dt _ ha) (dt _ hb) (dG yE 1 ac qq _) (dG yE 1 ac qq _) ?_];erw[show PyData.eqv (.list<|ps.map yE) (.list<|ps.map yE)=PyData.eqvAll (ps.map yE) (ps.map yE) by rfl,iY yE B9,decide_eq_true rfl];rw[h]
noncomputable def tg (m8 RW lay D1 D2 held R3 RV R9 ls Tw:Addr)(root R0 dS left:Int)(Td:Str):Lo:=[("script",.ref m8),("box",.ref RW),("layout",.ref lay),("one",.ref D1),("other",.ref D2),("root",.int root),("held",.ref held),("big",.ref R3),("made",.ref RV),("front",.int R0),("text",.str Td),("lone",.ref R9),("lines",.ref ls),("far",.int dS),("left",.int left),("due",.ref Tw)]
theorem OV (L:gW U ls<|pt.map<|dI<|2^b)(hp:pt.map (·.2)=items (2^b) T0 (2^b))(Sd:pt.length<=60)(hl:gb U lay b)(V8:4<=2^b)(VG:2^b<=32)(S0:aF (2^b) m1 f root T0)
 (h:∀Tw σ',σ' Tw=some (.list<|((items (2^b) T0<|2^b).map<|o4<|2^b).map oJ)->Ext [] U σ'->kl .next (tg q.bw RW lay D1 D2 held R3 RV R9 ls Tw root R0 dS left Td) σ'):
 eU (Dd q) (n+10) dg (bh 13) (xV q.bw RW lay D1 D2 held R3 RV R9 ls root R0 dS left Td) U kl gF:=by
 obtain ⟨dl,WO⟩:=hl;rw[iK (.Assign [.Name _ _] (.ListComp _ [⟨_,_,_,0⟩] _ _) _) rfl ?_,<-dD (bV rfl ac ac) ?_ rfl (by intro env e;cases env;cases e;rfl),aV L.it ⟨by rw[af (cD ..)<|af (cD ..) ?_,BZ Sd],?_⟩,af List.map_map ?_,fy (λp:Addr×It=>V.ref p.1) (λp=>oJ<|o4 (2^b) p.2) (show bJ _ (.lst _ _) from by have:=L.it;rw[List.map_map] at this;rw[this]) pt (λp Sn=>?_) ?_]
 ·have el:=L.each _<|List.mem_map_of_mem (f:=dI<|2^b) Sn;have Lf:=S0.it (t:=p.2)<|af (Eq.symm<|hp)<|List.mem_map_of_mem Sn;have e1:((p.2.2.2/1024*(4*((2^b:Nat):Int))).fdiv<|2^(b+2))*1024+p.2.2.2%1024%256=aQ p.2.2.2:=by
   erw[pe,Int.fdiv_eq_ediv_of_nonneg _<|by rw[nN<|4*2^b],Int.mul_ediv_cancel _<|JL V8,strip_eq Lf.1];rw[congrArg (_+·) e2]
  left;rw[<-⟨Lo.bg ⟨rfl,trivial⟩,?_⟩,<-aC el ac ac rfl ?_,<-aC el ac ac rfl ?_,<-gT (af (pe ..)<|JL V8) (by rw[af (pe ..) ?_,Nat.lt_of_le_of_lt (Nat.mul_le_mul_left 4 VG) ac]) ?_,<-bG (mul_r ac) ?_,<-aC el ac ac rfl ?_,⟨by simp,St.le_refl _,?_⟩];show V.tup [.int<|eV (2^b) p.2,.int<|((p.2.2.2/1024*(4*((2^b:Nat):Int))).fdiv<|2^(b+2))*1024+p.2.2.2%1024%256]=_;rw[af e1 rfl]
 intro Tw hd;rw[h Tw _ ?_<|Ext.fresh hd,af St.ah<|af (Eq.symm<|hp)<|af List.map_map<|af List.map_map rfl]
theorem and_zero {e:Int}(h0:0<=e):Builtin.bitAnd e 0=0:=by
 have:=cQ 0 h0;rw[show (2:Int)^0-1=0 from rfl] at this;rw[af this ?_,Int.emod_one e]
theorem OU (D:iH U B1 B2 b 0 m2 root dS T0 T2)(Sm:j7 (2^b) T0 T2)(O1:dj U D1 SI Se B1)(O2:dj U D2 SQ Sh B2)(ed:U Tw=some (.list<|((items (2^b) T0<|2^b).map<|o4<|2^b).map oJ))
 (h:∀σ',Ext [] U σ'->kl .next (tg q.bw RW lay D1 D2 held R3 RV R9 ls Tw root R0 dS left Td) σ'):
 eU (Dd q) (n+10) dg (bh 14) (tg q.bw RW lay D1 D2 held R3 RV R9 ls Tw root R0 dS left Td) U kl gF:=by
 obtain ⟨V9,VH,u1,u2,V⟩:=D;left;rw[(oY V.g1 V.j6 V.j4 O1 λl1 Sx TP ZF X1=>?_).call];have e1:(items (2^b) T0<|2^b).map (Cz (2^b) 768)=((items (2^b) T0<|2^b).map<|o4<|2^b).map oJ:=af List.map_map rfl;rw[e1] at ZF;left;rw[<-AV ZF (X1 _ _ nz ed) ?_];left;rw[(oY V.g2 (V.jc.ext X1 bZ) V.pQ (O2.ext X1 bZ) λl2 Tz SW Yj X2=>?_).call];have e2:(items (2^b) T2<|2^b).map (Cz (2^b) 0)=((items (2^b) T0<|2^b).map<|o4<|2^b).map oJ:=by
  rw[af (Sm.items V.j4)<|af List.map_map<|af List.map_map ?_,List.map_congr_left λt ht=>?_];have L:=(cJ<|V.j4.it ht).1;show Internal.V.tup [.int<|eV (2^b) t,.int<|aQ t.2.2-Builtin.bitAnd (aQ t.2.2) 0]=Internal.V.tup [.int<|eV (2^b) t,.int<|aQ t.2.2];erw[and_zero L.1,Int.sub_zero]
 rw[e2] at Yj;left;rw[<-AV Yj (X2 _ _ nz<|X1 _ _ nz ed) ?_];left;rw[h _<|X1.trans X2]
theorem OT (TZ:IntsAre q.fH ns)(Vd:ns.length<=63)(D:iH U B1 B2 b 0 m2 root dS T0 T2)(Sm:j7 (2^b) T0 T2)(L:gW U ls<|pt.map<|dI<|2^b)(hp:pt.map (·.2)=items (2^b) T0 (2^b))(Sd:pt.length<=60)
 (O1:dj U D1 SI Se B1) (O2:dj U D2 SQ Sh B2) (hb:aU U RW zs m) (hz:∀y∈zs,U y≠none) (hm:m<2^39) (nl:ls∉RW::(B1.ml++B2.ml)) (Xi:∀p∈pt,p.1∉RW::(B1.ml++B2.ml)) (hB:∀y∈B1.ml++B2.ml,y∈zs)
 (h:∀σ' UN T4,iH σ' B1 B2 b 0 m2 root dS UN T4->Mk (2^b) T0 UN->j7 (2^b) UN T4->Ext (RW::(B1.ml++B2.ml)) U σ'->kl .next (tg q.bw RW lay D1 D2 held R3 RV R9 ls Tw root R0 dS left Td) σ'):
 eU (Dd q) (n+10) dg (bh 15) (tg q.bw RW lay D1 D2 held R3 RV R9 ls Tw root R0 dS left Td) U kl gF:=by
 have nb:RW∉B1.al/\RW∉B2.al:=by
  obtain ⟨_,_,_,_,V⟩:=D;rw[⟨V.j6.iS hb,V.jc.iS hb⟩]
 left;rw[<-qL TZ (xU Vd) ?_,<-(BA D Mk.refl Sm L hp Sd O1 O2 hb hz hm nb nl Xi hB λσ' UN T4 D' M' S' Vk X=>?_).call];left;rw[h σ' UN T4 D' M' S' X]
end
section
variable {Tw S6:Addr}{zs:List Addr}{c:Nat}{r1 r2 dS:Int} 
theorem jf.CZ {cc:Nat}(V:jf U B1 B2 b m1 m2 r1 r2 T1 T2 f1 f2 u1 u2)(t:lI B2 b m2 f2 u2 r2 T2 U σ' VH We<|cO (2^b) T2<|2^b)(Gv:Given (2^b) r2 T2 (cO (2^b) T2<|2^b) u2 We cc):iH σ' B1 B2 b m1 m2 r1 r2 T1<|cO (2^b) T2<|2^b:=by
 obtain ⟨V9,Xc,w⟩:=V.yQ t (λx=>by
  rw[af (propext<|Gv.mem ..) ?_]
  constructor
  ·rintro ⟨z,w⟩
   by_cases hp:fL (2^b) r2 T2 x
   ·rw[.inr<|w hp]
   ·rw[.inl ⟨z,hp⟩]
  ·rintro (⟨z,w⟩|z)
   ·rw[⟨z,λy=>absurd y w⟩]
   ·rw[⟨V.ER x<|kP z,λ_=>z⟩]) λx hx=>.inl<|kP hx
 rw[⟨_,_,_,_,w⟩]
theorem OS (D:iH U B1 B2 b 0 m2 root dS T1 T2)(M:Mk (2^b) T0 T1)(Sm:j7 (2^b) T1 T2)(O1:dj U D1 SI Se B1)(O2:dj U D2 SQ Sh B2)(eo:U R9=some (.list<|ns.map .int))(hnl:ns.length=bA (2^b) T0 (2^b))(h4:ns.length<=4)(Xg:R9∉B1.ml++B2.ml)
 (h:∀σ',iH σ' B1 B2 b 0 m2 root dS (cO (2^b) T1<|2^b) T2->Ext (B1.ml++B2.ml) U σ'->kl .next (tg q.bw RW lay D1 D2 held R3 RV R9 ls Tw root R0 dS left Td) σ'):
 eU (Dd q) (n+10) dg (bh 16) (tg q.bw RW lay D1 D2 held R3 RV R9 ls Tw root R0 dS left Td) U kl gF:=by
 obtain ⟨f1,f2,u1,u2,W⟩:=D;have SK:=λi hi=>Sm.Jm W.j4 (i:=i) hi;obtain ⟨hpr,Vi⟩:=zm SK;have hE0:bA (2^b) T1 (2^b)=ns.length:=by rw[af hnl<|af M.bA rfl]
 left;rw[aS O1.dict rfl ?_];obtain ⟨d1,WT⟩:=W.j6.tab;left;rw[(nY W.g1 W.j6 W.j4 W.swap.ER λSx f' R5 tt Gv=>?_).call];have D1':=(W.swap.CZ tt.tx Gv).swap;have X1:Ext (B1.ml++B2.ml) U Sx:=tt.tx.ext.sub λy hy=>List.mem_append_left _ hy;have O21:=O2.ext X1 λy hy=>(kX hy).elim (O2.pS W.j6 y)<|O2.pS W.jc y;have eo1:=X1 _ _ Xg eo;clear tt Gv W O1 O2 eo;obtain ⟨f1,f2,u1,u2,W⟩:=D1';left;rw[aS O21.dict rfl ?_];obtain ⟨d2,Vj⟩:=W.jc.tab;left;rw[(nY W.g2 W.jc W.pQ W.ER λTz f' R5 tt Gv=>?_).call];have D2':=W.CZ tt.tx Gv;rw[hpr] at D2';have X2:Ext (B1.ml++B2.ml) Sx Tz:=tt.tx.ext.sub λy hy=>List.mem_append_right _ hy;have eo2:=X2 _ _ Xg eo1;rw[af Vi<|af hE0 ?_];clear tt Gv;left;rw[⟨by simp,λl1 TP=>?_⟩];have X3:Ext [] Tz<|Tz.set l1<|.list<|[(ns.length:Int),((0:Nat):Int)].map .int:=Ext.fresh TP;have e1:(Tz.set l1<|.list<|[(ns.length:Int),((0:Nat):Int)].map .int) l1=some (.list<|[(ns.length:Int),((0:Nat):Int)].map .int):=St.ah;have eo3:=X3 _ _ nz eo2;have D3':=D2'.ext X3 bZ;show (_:V->St->Prop) _ (Tz.set l1<|.list<|[(ns.length:Int),((0:Nat):Int)].map .int);generalize Tz.set l1 (.list<|[(ns.length:Int),((0:Nat):Int)].map .int)=Uu at X3 e1 eo3 D3' ⊢;left;rw[eg eo3 (af (cD ..)<|Em h4) ?_,<-af (cD ..) ?_,⟨by simp,λl2 SW=>?_⟩];have X4:Ext [] Uu<|Uu.set l2<|.list<|[(ns.length:Int),((0:Nat):Int)].map .int:=Ext.fresh SW;left;rw[<-lG (ns:=[(ns.length:Int),((0:Nat):Int)]) (X4 _ _ nz e1) St.ah ?_];left;rw[h _ (D3'.ext X4 bZ)<|((X1.trans X2).trans<|X3.sub bZ).trans<|X4.sub bZ]
def xJ (E:Nat)(t:It):Row:=(eV E t,t.2.2/1024*(4*E),t.2.2%1024%256,sj E t)
noncomputable def ni (m8 RW lay D1 D2 held R3 RV R9 ls Tw S6:Addr)(root R0 dS left:Int)(Td:Str):Lo:=[("script",.ref m8),("box",.ref RW),("layout",.ref lay),("one",.ref D1),("other",.ref D2),("root",.int root),("held",.ref held),("big",.ref R3),("made",.ref RV),("front",.int R0),("text",.str Td),("lone",.ref R9),("lines",.ref ls),("far",.int dS),("left",.int left),("due",.ref Tw),("rows",.ref S6)]
theorem OR (D:iH U B1 B2 b 0 m2 root dS T1 T2)(O1:dj U D1 SI Se B1)
 (h:∀S6 σ',σ' S6=some (.list<|((items (2^b) T1<|2^b).map<|xJ<|2^b).map fk)->Ext [] U σ'->kl .next (ni q.bw RW lay D1 D2 held R3 RV R9 ls Tw S6 root R0 dS left Td) σ'):
 eU (Dd q) (n+10) dg (bh 17) (tg q.bw RW lay D1 D2 held R3 RV R9 ls Tw root R0 dS left Td) U kl gF:=by
 obtain ⟨f1,f2,u1,u2,W⟩:=D;have hE:=W.g1.e;have Sd:=lZ (T:=T1) (m:=2^b) (show 0<2^b by rw[eO hE]);have hm:2^b*2^b<=32*32:=Nat.mul_le_mul hE.2 hE.2;rw[iK (.Assign [.Name _ _] (.ListComp _ [⟨_,_,_,0⟩] _ _) _) rfl ?_,<-dD (bV rfl ac ac) ?_ rfl (by intro env e;cases env;cases e;rfl),aS O1.dict rfl ?_];obtain ⟨d1,WT⟩:=W.j6.tab;left;rw[(qZ W.g1 W.j6 W.j4 λl hl=>?_).call];have X1:Ext [] U<|U.set l<|.list<|(aP (2^b) T1<|2^b).map fk:=Ext.fresh hl;have e1:(U.set l<|.list<|(aP (2^b) T1<|2^b).map fk) l=some (.list<|(aP (2^b) T1<|2^b).map fk):=St.ah;generalize U.set l (.list<|(aP (2^b) T1<|2^b).map fk)=Sx at X1 e1 ⊢;rw[cL,List.map_map] at e1;left;rw[aV e1 ⟨by rw[af (cD ..) ?_,Nat.le_trans Sd<|Nat.le_trans hm ac],?_⟩,fy (λt:It=>fk<|gP (2^b) t) (λt=>fk<|xJ (2^b) t) (show bJ _ (.lst _ _) from e1) (items (2^b) T1<|2^b) (λt ht=>?_) ?_]
 ·rw[gf rfl (by rw[Nat.succ_pos _]) ?_];show iF _ _ _ _ [.int<|eV (2^b) t,.int<|t.2.2/1024*(4*((2^b:Nat):Int)),.int<|t.2.2%1024,.int<|sj (2^b) t] _ _ _ _;left;rw[<-⟨Lo.bg trivial,?_⟩,fq ac ?_,<-af (Int.fmod_eq_emod_of_nonneg _ ac) ?_,⟨by simp,St.le_refl _,rfl⟩]
 intro S6 hr;rw[h S6 _ ?_<|X1.trans<|Ext.fresh hr,af St.ah<|af List.map_map rfl]
theorem AU {ps:List Row}(ha:U a=some (.list<|ps.map fk))(hb:U b'=some (.list<|ps.map fk))(h:k (.bool false) U):cZ (Dd q) n .NotEq (.ref a) (.ref b') U k ke:=by
 have dt:∀c,U c=some (.list<|ps.map fk)->fC U (.ref c) (.list<|ps.map j5):=λc hc=>.list hc<|fS.map _ _ (λr=>sR r) _;rw[jL (dt _ ha) (dt _ hb) (dG j5 1 ac kC _) (dG j5 1 ac kC _) ?_];erw[show PyData.eqv (.list<|ps.map j5) (.list<|ps.map j5)=PyData.eqvAll (ps.map j5) (ps.map j5) by rfl,iY j5 zl,decide_eq_true rfl];rw[h]
theorem xC {t:It}(L:fR t.2.2):gP E (nt t)=xJ E t:=by
 have h1:=(cJ L).2.1;have h2:aQ t.2.2%1024=t.2.2%1024%256:=by erw[strip_eq L.1];have:=L.1;rw[OL]
 show (eV E t,aQ t.2.2/1024*(4*E),aQ t.2.2%1024,sj E t)=_;rw[af h1<|af h2 rfl]
theorem qh (S:aF (2^b) m0 f root T1)(V8:4<=2^b)(VG:2^b<=32):∀r∈aP (2^b) T1 (2^b),DA r:=λr hr=>by
 rw[cL] at hr;obtain ⟨t,ht,rfl⟩:=List.mem_map.mp hr;have L:=S.it ht;have:=qw V8 VG ht;rw[⟨this.1,Int.mul_nonneg (by have:=L.1;rw[zX this])<|by rw[nN<|4*2^b],by show 0<=t.2.2%1024;rw[zQ]⟩]
theorem OQ (D:iH U B1 B2 b 0 m2 root dS T1 T2)(Sm:j7 (2^b) T1 T2)(O1:dj U D1 SI Se B1)(O2:dj U D2 SQ Sh B2)(er:U S6=some (.list<|((items (2^b) T1<|2^b).map<|xJ<|2^b).map fk))
 (h:∀σ',Ext [] U σ'->kl .next (ni q.bw RW lay D1 D2 held R3 RV R9 ls Tw S6 root R0 dS left Td) σ'):
 eU (Dd q) (n+10) dg (bh 18) (ni q.bw RW lay D1 D2 held R3 RV R9 ls Tw S6 root R0 dS left Td) U kl gF:=by
 right;obtain ⟨f1,f2,u1,u2,W⟩:=D;have hE:=W.g1.e;symm;left;rw[aS O2.dict rfl ?_];obtain ⟨d2,Vj⟩:=W.jc.tab;left;rw[(qZ W.g2 W.jc W.pQ λl hl=>?_).call];have X1:Ext [] U<|U.set l<|.list<|(aP (2^b) T2<|2^b).map fk:=Ext.fresh hl;have e1:(U.set l<|.list<|(aP (2^b) T2<|2^b).map fk) l=some (.list<|((items (2^b) T1<|2^b).map<|xJ<|2^b).map fk):=by
  erw[St.ah,cL,Sm.items W.j4,show ((items (2^b) T1<|2^b).map nt).map (gP<|2^b)=(items (2^b) T1<|2^b).map (xJ<|2^b) by
   rw[af List.map_map<|List.map_congr_left λt ht=>xC<|W.j4.it ht]]
 generalize U.set l (.list<|(aP (2^b) T2<|2^b).map fk)=Sx at X1 e1 ⊢;left;rw[<-AU e1 (X1 _ _ nz er) ?_];right;have W1:jf Sx B1 B2 b 0 m2 root dS T1 T2 f1 f2 u1 u2:=⟨W.g1,W.g2,W.j6.ext X1 bZ,W.jc.ext X1 bZ,W.j4,W.pQ,W.rel⟩;have O11:=O1.ext X1 bZ;have O21:=O2.ext X1 bZ;clear O1 O2 Vj d2;obtain ⟨d2,Vj⟩:=W1.jc.tab;obtain ⟨d1,WT⟩:=W1.j6.tab;symm;left;rw[<-aS O21.dict rfl ?_,(nq W1.g2 W1.jc W1.pQ (qh W1.pQ hE.1 hE.2) ?_).call,<-af (Sm.text W1.j4) ?_,<-aS O11.dict rfl ?_,<-(nq W1.g1 W1.j6 W1.j4 (qh W1.j4 hE.1 hE.2) ?_).call,<-w6 (jm _ _) (jm _ _) ?_,<-az (jh<|gI<|sT rfl) ?_,h _ X1]
theorem OP (D:iH U B1 B2 b 0 m2 root dS T1 T2)(ht:∀i,i<2^b->dJ (T1 i)=dJ (T2 i))(O1:dj U D1 SI Se B1)(O2:dj U D2 SQ Sh B2)
 (h:∀σ',Ext [] U σ'->kl .next (ni q.bw RW lay D1 D2 held R3 RV R9 ls Tw S6 root R0 dS left Td) σ'):
 eU (Dd q) (n+10) dg (bh 19) (ni q.bw RW lay D1 D2 held R3 RV R9 ls Tw S6 root R0 dS left Td) U kl gF:=by
 obtain ⟨f1,f2,u1,u2,W⟩:=D;have hE:=W.g1.e;have TP:=ko (T:=T1)<|2^b;have SW:=ko (T:=T2)<|2^b;have he:(aZ T1<|2^b).map (λp=>(p.1:Int))=(aZ T2<|2^b).map (λp=>(p.1:Int)):=by
  have:=congrArg (λl=>l.map λ(n:Nat)=>(n:Int))<|yV ht;rw[List.map_map,List.map_map] at this;rw[this]
 left;rw[<-cU (bV rfl ac ac) ?_,aS O1.dict rfl ?_];obtain ⟨d1,WT⟩:=W.j6.tab;left;rw[(tables_of_ok W.g1 W.j6 W.j4 λl hl=>?_).call];have X1:Ext [] U<|U.set l<|.list<|(aZ T1<|2^b).map dX:=Ext.fresh hl;have e1:(U.set l<|.list<|(aZ T1<|2^b).map dX) l=some (.list<|(aZ T1<|2^b).map dX):=St.ah;generalize U.set l (.list<|(aZ T1<|2^b).map dX)=Sx at X1 e1 ⊢;left;rw[aV e1 ⟨by rw[af (cD ..) ?_,JP hE TP],?_⟩,fy dX (λp=>.int p.1) (show bJ _ (.lst _ _) from e1) (aZ T1<|2^b) (λp hp=>?_) ?_]
 ·left;rw[<-⟨Lo.bg trivial,?_⟩,jq ac ac rfl ⟨St.le_refl _,rfl⟩]
 intro a1 TS;have X2:Ext [] Sx<|Sx.set a1<|.list<|(aZ T1<|2^b).map λp=>V.int p.1:=Ext.fresh TS;have e2:(Sx.set a1<|.list<|(aZ T1<|2^b).map λp=>V.int p.1) a1=some (.list<|((aZ T1<|2^b).map λp=>(p.1:Int)).map .int):=af St.ah<|af List.map_map rfl;generalize Sx.set a1 (.list<|(aZ T1<|2^b).map λp=>V.int p.1)=Tz at X2 e2 ⊢;have Wo:=X1.trans X2;have O22:=O2.ext Wo bZ;have H2:=W.jc.ext Wo bZ;clear WT d1;obtain ⟨d2,Vj⟩:=H2.tab;left;rw[<-cU (bV rfl ac ac) ?_,<-aS O22.dict rfl ?_,(tables_of_ok W.g2 H2 W.pQ λl hl=>?_).call];have X3:Ext [] Tz<|Tz.set l<|.list<|(aZ T2<|2^b).map dX:=Ext.fresh hl;have e3:(Tz.set l<|.list<|(aZ T2<|2^b).map dX) l=some (.list<|(aZ T2<|2^b).map dX):=St.ah;generalize Tz.set l (.list<|(aZ T2<|2^b).map dX)=Uu at X3 e3 ⊢;left;rw[aV e3 ⟨by rw[af (cD ..) ?_,JP hE SW],?_⟩,fy dX (λp=>.int p.1) (show bJ _ (.lst _ _) from e3) (aZ T2<|2^b) (λp hp=>?_) ?_]
 ·left;rw[<-⟨Lo.bg trivial,?_⟩,jq ac ac rfl ⟨St.le_refl _,rfl⟩]
 intro a2 Ui;have X4:Ext [] Uu<|Uu.set a2<|.list<|(aZ T2<|2^b).map λp=>V.int p.1:=Ext.fresh Ui;have e4:(Uu.set a2<|.list<|(aZ T2<|2^b).map λp=>V.int p.1) a2=some (.list<|((aZ T1<|2^b).map λp=>(p.1:Int)).map .int):=af St.ah<|af he<|af List.map_map rfl;left;rw[<-lG (X4 _ _ nz<|X3 _ _ nz e2) e4 ?_];left;rw[h _<|(Wo.trans X3).trans X4]
end
section
variable {Tw S6:Addr}{zs:List Addr}{c:Nat}{r1 r2 dS:Int} 
inductive NX (U:St)(B1 B2:Bd)(b:Nat)(m2 dS:Int)(T2:Nat->Slot):Prop
 |mk (f2:Int->Option Int) (u2:List Int) (d:aH U B2 b m2 f2 u2) (s:aF (2^b) m2 f2 dS T2) (u:∀x,x∈u2↔fL (2^b) dS T2 x) (w:(B1=B2/\m2=0)\/((∀y∈B1.al,y∉B2.ml)/\∃f1,aH U B1 b 0 f1 []))
theorem nil_of {u:List Int}(h:∀x,x∈u↔False):u=[]:=by
 cases u with
 |nil=>rfl
 |cons x xs=>rw[((h x).mp List.mem_cons_self).elim]
theorem OO (D:iH U B1 B2 b 0 m2 root dS T1 T2)(O1:dj U D1 SI Se B1)
 (h:∀σ',NX σ' B1 B2 b m2 dS T2->Ext B1.ml U σ'->kl .next (ni q.bw RW lay D1 D2 held R3 RV R9 ls Tw S6 root R0 dS left Td) σ'):
 eU (Dd q) (n+10) dg (bh 20) (ni q.bw RW lay D1 D2 held R3 RV R9 ls Tw S6 root R0 dS left Td) U kl gF:=by
 obtain ⟨f1,f2,u1,u2,W⟩:=D;left;rw[aS O1.dict rfl ?_];obtain ⟨d1,WT⟩:=W.j6.tab;left;rw[<-(wI W.g1 W.j6 W.j4 W.swap.ER λσ' R5 H' S' hu=>?_).call,h σ' ?_ S'.ext];rcases W.rel with ⟨a1,a2,a3,a4,a5,a6⟩|⟨a1,a2,a3,a4⟩
 ·subst a1;clear h;subst a2;subst a3;subst a4;rw[⟨f1,R5,H',W.pQ,λx=>?_,.inl ⟨rfl,rfl⟩⟩,af (propext<|hu ..)<|af (propext<|a5 ..) ⟨by rintro ⟨z,w⟩;rw[z.elim (λv=>absurd v w) id],λz=>⟨.inr z,λw=>a6 x w z⟩⟩]
 ·rw[⟨f2,u2,W.jc.ext S'.ext λy hy w=>a2 y w hy,W.pQ,a4,.inr ⟨a1,f1,?_⟩⟩];have:R5=[]:=nil_of λx=>by rw[af (propext<|hu ..)<|af (propext<|a3 ..) ⟨by rintro ⟨z,w⟩;rw[w z],False.elim⟩]
  rw[this] at H';rw[H']
theorem ON (b2:2<=b)(b5:b<=5)(g2:eG b m2)(H:NX U B1 B2 b m2 dS T2)(O2:dj U D2 SQ Sh B2)
 (h:∀σ' f1 f2,aH σ' B1 b 0 f1 []->aH σ' B2 b m2 f2 []->Ext B2.ml U σ'->kl .next (ni q.bw RW lay D1 D2 held R3 RV R9 ls Tw S6 root R0 dS left Td) σ'):
 eU (Dd q) (n+10) dg (bh 21) (ni q.bw RW lay D1 D2 held R3 RV R9 ls Tw S6 root R0 dS left Td) U kl gF:=by
 right;obtain ⟨f2,u2,H2,S2,Zt,hr⟩:=H;symm;left;rw[aS O2.dict rfl ?_];obtain ⟨d1,WT⟩:=H2.tab;left;rw[(wI g2 H2 S2 (λx hx=>(Zt x).mpr hx) λσ' R5 H' S' hu=>?_).call];have:R5=[]:=nil_of λx=>by rw[af (propext<|hu ..)<|af (propext<|Zt ..) ⟨by rintro ⟨z,w⟩;rw[w z],False.elim⟩]
 rw[this] at H';rcases hr with ⟨e1,e2⟩|⟨a1,f1,H1⟩
 ·right;clear O2 WT;subst e1;clear g2 S2 H2;subst e2;symm;left;rw[h σ' f2 f2 H' H' S'.ext]
 ·left;rw[h σ' f1 f2 (H1.ext S'.ext λy hy w=>a1 y w hy) H' S'.ext]
theorem OM (H1:aH U B1 b 0 f1 [])(H2:aH U B2 b m2 f2 [])(O1:dj U D1 SI Se B1)(O2:dj U D2 SQ Sh B2)
 (h:kl (.ret<|.bool true) (ni q.bw RW lay D1 D2 held R3 RV R9 ls Tw S6 root R0 dS left Td) U):
 eU (Dd q) (n+10) dg (bh 22) (ni q.bw RW lay D1 D2 held R3 RV R9 ls Tw S6 root R0 dS left Td) U kl gF:=by
 right;obtain ⟨u,gv,hf,w,_⟩:=id H1.pool;obtain ⟨dp,Y9⟩:=w.it;obtain ⟨u2,gv2,Y7,w2,_⟩:=id H2.pool;obtain ⟨dp2,hdp2⟩:=w2.it;symm;unfold ni at h ⊢;left;rw[<-aS O1.dict rfl ?_,<-(wJ H1 ?_).call];left;rw[<-aS O2.dict rfl ?_,<-(wJ H2 ?_).call,h]
end
theorem Cg:EG=[bh 0,bh 1,bh 2,bh 3,bh 4,bh 5,bh 6,bh 7,bh 8,bh 9,bh 10,bh 11,bh 12,bh 13,bh 14,bh 15,bh 16,bh 17,bh 18,bh 19,bh 20,bh 21,bh 22]:=by kernel_rfl!
theorem EM (hE:0<E)(h:cS E root T used hs bs ms):(items E T E).length=hs.length+bs.length:=by
 rw[af (Eq.symm<|cD (f:=eV E))<|af (Eq.symm<|List.length_append)<|fN ((eZ hE E).imp λh=>Int.ne_of_lt h) (tL hE h) λx=>qv h]
theorem Cf (TZ:IntsAre q.fH ns)(Vd:ns.length<=63):lO (Dd q) (n+10) dg EG ([("script",.ref q.bw)]:Lo) (λ_=>none) (λfl _ _=>fl=.ret (.bool true)) gF:=by
 rw[af Cg ?_,br<|Rm TZ Vd λRW Sx Tt=>?_,br<|Rl Tt λlay b Tz b2 b5 hl Ut=>?_,br<|Rk b2 b5 hl Ut λD1 SI Se B1 Uu el H O TR=>?_,br<|Rj b2 b5 el H O TR λD2 SQ Sh B2 m2 Vm H4 W4 T5=>?_,br<|Ri b2 b5 H4 W4 T5 λroot held R3 RV R0 YB ZO W5 T3 WG S3 ST=>?_,br<|Rh TZ Vd b2 b5 ZO W5 T3 WG S3 ST λσ6 Ds6 W6 UX VX=>?_];clear Tt Ut TR T5 T3 hl H O H4 W4 W5 ZO WG Sx Tz Uu Vm YB;subst el;obtain ⟨f,used,T0,hs,bs,ms,D6⟩:=Ds6;have hE:=(⟨b2,b5,.inl rfl⟩:eG b 0).e;have hE0:0<2^b:=eO hE;have nn:∀{α:Addr->Prop},∀y∈([]:List Addr),α y:=bZ;rw[br<|Rg b2 b5 D6 W6 λR9 VL ZE X7 Uh=>?_];have D7:=D6.ext X7 nn;have W7:=W6.ext D6.bd X7 nn;have hb7:=UX.ext X7 nn;have hz7:=aO VX X7 nn;have nlo1:=D6.bd.C8 Uh;have nlo2:=(W6.zC D6.bd Uh).2.2;have nlob:R9≠RW:=λz=>by
  obtain ⟨_,_,_,_,_,w,_⟩:=UX;rw[<- z] at w;rw[nomatch w.it.symm.trans Uh]
 clear UX VX W6 D6;rw[br<|Rf hE.1 hE.2 D7.sp λls pt σ8 L8 hp X8 WN YW=>?_];have fresh:∀y:Addr,VL y=none->y∉B1.al/\y∉B2.al/\y≠RW:=λy hy=>⟨D7.bd.C8 hy,(W7.zC D7.bd hy).2.2,λz=>by
  obtain ⟨_,_,_,_,_,w,_⟩:=hb7;rw[<- z] at w;rw[nomatch w.it.symm.trans hy]⟩
 have fls:=fresh ls WN;have fpt:∀p∈pt,p.1∉B1.al/\p.1∉B2.al/\p.1≠RW:=λp Sn=>fresh p.1<|YW p Sn;have D8:=D7.ext X8 nn;have W8:=W7.ext D7.bd X8 nn;have Wl:=hb7.ext X8 nn;have hz8:=aO hz7 X8 nn;have elo8:=X8 _ _ nz ZE;have Sd:pt.length<=9:=by
  have h1:=EM hE0 D8.di;have h2:=congrArg List.length hp;rw[cD] at h2;have:=D8.len;lia
 clear hb7 hz7 W7 D7 ZE fresh;rw[br<|Rd D8 hE0 L8 hp (BY Sd) λσ9 X9=>?_];have D9:=D8.ext X9 nn;have W9:=W8.ext D8.bd X9 nn;have L9:=L8.ext X9 nz λp _ z=>nomatch z;rw[br<|Rc b2 b5 D9 W9 hE0 L9 hp (BY Sd) λZ0 X10=>?_];have X810:=X9.trans X10;have D10:=D8.ext X810 nn;have W10:=W8.ext D8.bd X810 nn;have hb10:=Wl.ext X810 nn;have hz10:=aO hz8 X810 nn;have L10:=L8.ext X810 nz λp _ z=>nomatch z;have elo10:=X810 _ _ nz elo8;clear D8 W8 Wl hz8 L8 elo8 D9 W9 L9;rw[br<|OY b2 b5 D10 W10 λdS c0 YC YA VR WU W0=>?_];have nmd:RV∉B2.al:=(ST.all RV<|by rw[gA RW<|gA held<|gA R3<|List.Mem.head []]).2.2;have O1:=W10.o1.ext W0 λy hy=>by
  rcases W10.rel with ⟨e,_⟩|⟨_,_,H2⟩
  ·rw[<- e] at hy;rw[W10.o1.pS D10.bd y hy]
  ·rw[W10.o1.pS H2 y hy]
 have O2:=W10.o2.ext W0 λy hy=>by
  rcases W10.rel with ⟨e,_⟩|⟨_,_,H2⟩
  ·rw[<- e] at hy;rw[W10.o2.pS D10.bd y hy]
  ·rw[W10.o2.pS H2 y hy]
 have hBz:∀y∈B1.ml++B2.ml,y∈RV::R3::held::(B1.ml++B2.ml):=λy hy=>by rw[List.mem_cons_of_mem RV<|List.mem_cons_of_mem R3<|List.mem_cons_of_mem held hy]
 have hb11:=hb10.ext W0 λy hy=>hBz y<|List.mem_append_right _ hy;have hz11:=aO hz10 W0 λy hy _=>YA.E3 y hy;have L11:=L10.ext W0 (λz=>fls.2.1<|bM z) λp Sn z=>by
  obtain ⟨p',hq,rfl⟩:=List.mem_map.mp Sn;rw[(fpt p' hq).2.1 (bM z)]
 have elo11:=W0 _ _ (λz=>nlo2<|bM z) elo10;have em11:=W0 _ _ (λz=>nmd<|bM z) D10.em;have di:=D10.di;have S0:=D10.sp;have g2:=W10.g2;clear hb10 hz10 L10 elo10 D10 W10;rw[br<|OX hE.1 hE.2 YA L11 hp di.n4 O2 hb11 hz11 ac hBz (λp Sn=>⟨λz=>(fpt p Sn).2.1 (bM z),(fpt p Sn).2.2⟩) S0 λWr T2 Sm Yn V6 Wo=>?_];have hO1:∀y∈RW::(B1.ml++B2.ml),y≠D1/\y≠SI/\y≠Se:=λy hy=>by
  obtain ⟨_,_,_,_,V⟩:=YA;rcases ek hy with z|z
  ·clear S3 ST nlob fls fpt V6 Wo hy;subst z;rw[O1.iS hb11]
  ·rw[(kX z).elim (O1.pS V.j6 y)<|O1.pS V.jc y]
 have hO2:∀y∈RW::(B1.ml++B2.ml),y≠D2/\y≠SQ/\y≠Sh:=λy hy=>by
  obtain ⟨_,_,_,_,V⟩:=YA;rcases ek hy with z|z
  ·clear S3 ST nlob fls fpt V6 Wo hO1 hy;subst z;rw[O2.iS hb11]
  ·rw[(kX z).elim (O2.pS V.j6 y)<|O2.pS V.jc y]
 have nls:ls∉RW::(B1.ml++B2.ml):=λz=>by
  rcases ek z with z|z
  ·rw[fls.2.2 z]
  ·rw[(kX z).elim (λw=>fls.1<|bM w) λw=>fls.2.1<|bM w]
 have npt:∀p∈pt,p.1∉RW::(B1.ml++B2.ml):=λp Sn z=>by
  rcases ek z with z|z
  ·rw[(fpt p Sn).2.2 z]
  ·rw[(kX z).elim (λw=>(fpt p Sn).1 (bM w)) λw=>(fpt p Sn).2.1 (bM w)]
 have npt2:∀p∈pt.map (dI<|2^b),p.1∉RW::(B1.ml++B2.ml):=λp Sn=>by
  obtain ⟨p',hq,rfl⟩:=List.mem_map.mp Sn;rw[npt p' hq]
 have Xg:R9∉RW::(B1.ml++B2.ml):=λz=>by
  rcases ek z with z|z
  ·rw[nlob z]
  ·rw[(kX z).elim (λw=>nlo1<|bM w) λw=>nlo2<|bM w]
 have nmade:RV∉RW::(B1.ml++B2.ml):=λz=>by
  rcases ek z with z|z
  ·rw[hb11.pT<|af (Eq.symm<|z)<|List.Mem.head<|R3::held::(B1.ml++B2.ml)]
  ·rw[(kX z).elim (λw=>S3.m<|bM w) λw=>nmd<|bM w]
 have X12':Ext (RW::(B1.ml++B2.ml)) YC Wr:=Wo.sub λy hy=>by
  rcases ek hy with z|z
  ·rw[af z<|List.Mem.head<|B1.ml++B2.ml]
  ·rw[List.mem_cons_of_mem _<|List.mem_append_right _ z]
 have O112:=O1.ext X12' hO1;have O212:=O2.ext X12' hO2;have hz12:∀y∈RV::R3::held::(B1.ml++B2.ml),Wr y≠none:=aO hz11 Wo λy hy SE=>by
  rcases ek hy with z|z
  ·rw[z] at SE;rw[absurd SE V6.pT]
  ·rw[Yn.E3 y z]
 have L12:=L11.ext X12' nls npt2;have elo12:=X12' _ _ Xg elo11;have em12:=X12' _ _ nmade em11;have hll:=zZ hE0 di;have hml:=di.zE hE0;have hn4:=di.n4;have hemp:bA (2^b) T0 (2^b)<=4:=by have:=Sm.nT;lia
 rw[br<|OW Yn Sm O212 em12 elo12 hml hll hn4 VR WU ?_];have hl12:gb Wr B1.lay b:=by obtain ⟨_,_,_,_,V⟩:=Yn;rw[V.j6.lay]
 rw[br<|OV L12 hp (BY Sd) hl12 hE.1 hE.2 S0 λTw ZZ ed Xw=>?_];have U14:=Yn.ext Xw nn;have O114:=O112.ext Xw nn;have O214:=O212.ext Xw nn;rw[br<|OU U14 Sm O114 O214 ed λZY X15=>?_];have XX:=Xw.trans X15;have U15:=Yn.ext XX nn;have O115:=O112.ext XX nn;have O215:=O212.ext XX nn;have L15:=L12.ext XX nz λp _ z=>nomatch z;have hb15:=V6.ext XX nn;have hz15:=aO hz12 XX nn;have elo15:=XX _ _ nz elo12;rw[br<|OT TZ Vd U15 Sm L15 hp (BY Sd) O115 O215 hb15 hz15 ac nls npt hBz λZX UN T4 U16 M16 ZN Zn=>?_];have O116:=O115.ext Zn hO1;have O216:=O215.ext Zn hO2;have elo16:=Zn _ _ Xg elo15;rw[br<|OS U16 M16 ZN O116 O216 elo16 hll (LB hll hemp) (λz=>Xg<|List.mem_cons_of_mem _ z) λZW ZM ZL=>?_];have hO1':∀y∈B1.ml++B2.ml,y≠D1/\y≠SI/\y≠Se:=λy hy=>hO1 y<|List.mem_cons_of_mem _ hy;have hO2':∀y∈B1.ml++B2.ml,y≠D2/\y≠SQ/\y≠Sh:=λy hy=>hO2 y<|List.mem_cons_of_mem _ hy;have O117:=O116.ext ZL hO1';have O217:=O216.ext ZL hO2';have S17:=ZN.prune;rw[br<|OR ZM O117 λS6 ZV er Zm=>?_];have U18:=ZM.ext Zm nn;have O118:=O117.ext Zm nn;have O218:=O217.ext Zm nn;rw[br<|OQ U18 S17 O118 O218 er λZU Zl=>?_];have U19:=U18.ext Zl nn;have O119:=O118.ext Zl nn;have O219:=O218.ext Zl nn;rw[br<|OP U19 (S17.dJ λi hi=>uF hi) O119 O219 λZT Zk=>?_];have U20:=U19.ext Zk nn;have O120:=O119.ext Zk nn;have O220:=O219.ext Zk nn;rw[br<|OO U20 O120 λZS H21 ZK=>?_];have O121:=O120.ext ZK λy hy=>hO1' y<|List.mem_append_left _ hy;have O221:=O220.ext ZK λy hy=>hO2' y<|List.mem_append_left _ hy;rw[br<|ON b2 b5 g2 H21 O221 λZR f1 f2 H1 H2 ZJ=>?_];have O122:=O121.ext ZJ λy hy=>hO1' y<|List.mem_append_right _ hy;have O222:=O221.ext ZJ λy hy=>hO2' y<|List.mem_append_right _ hy;rw[vn<|OM H1 H2 O122 O222 rfl]
variable {cl:Str->Option Addr}
theorem yT {f:Addr}{st:Stmt}{qual:String}{UH mod:Value}{code:Nat}{s:Shared}{v:Value}(p:Str)
 (hl:(KK q.w.params).lookup f=some (fO st qual UH mod code)) (hcd:codeIn (KK q.w.params) (.ref code) qual=true) (kind:(mW st).kind=.function) (co:(mW st).isCoroutine=false) (gen:(mW st).isGenerator=false)
 (B:mF (Dd q) (fD st qual UH mod code) 1 [p] []) (XY:(mW st).names.lookup p=some .local\/(mW st).names.lookup p=some .cell) (XZ:∀x∈(mW st).names,x.2≠ .free) (hn:n<=20)
 (X:(KK q.w.params).In s.heap) (T:TopRead q.p q.loose q.mg q.mb s.heap) (YV:s.heap.IsList q.bw q.fH.toArray) (hv:v=.ref q.bw) (gens:s.gens=#[])
 (h:lO (Dd q) n (mW st) (Al st) ([(p,.ref q.bw)]:Lo) (λ_=>none) (λfl _ _=>fl=.ret (.bool true)) gF):
 codeAny (model q.prog q.w) callerA (.call (.ref f) ⟨[v],[]⟩) (λr s'=>r=.ok (.ret<|.bool true)/\(∀b o,s.heap.get? b=some o->s'.heap.get? b=some o)/\s'.os=s.os/\s'.gens=#[]) s:=by
 right;have F:FnAt (Dd q) f (fD st qual UH mod code)<|Al st:=⟨⟨_,hl,rfl⟩,rfl,rfl,rfl,rfl,hcd,co,gen,kind,XZ⟩;obtain ⟨fo,SP,Y6⟩:=F.there;obtain ⟨us,iu,bu⟩:=B s [v] X rfl
 cases iu
 symm;rw[codeAny_call_function (by decide+kernel) (X _ _ SP) Y6 F.co F.gen F.body (codeRec_of X F.code)<|bu _ _ _ _ ?_,af F.QS ?_,wpAny_newFunctionEnv_cells F.kind (λx hx=>?_) λenv he RT x=>?_]
 ·erw[b9<|show x∈[(p,v)] from hx];rcases XY with z|z
  ·rw[.inl z]
  ·rw[.inr ⟨z,cellsFrom_some _ _ _<|.inl z⟩]
 have Sl:∀y,env.kindOf y=some .cell\/env.kindOf y=some .free->(env.cells.lookup y).isSome=true:=λy z=>by
  clear x;subst he;rcases z with z|z
  ·rw[cellsFrom_some _ _ _<|.inl z]
  ·rw[absurd rfl (F.zA _<|mem_of_lookup z)]
 have U3:env.scope=mW st:=by clear x Sl;subst he;rfl
 have UE:env.frame=some env.locals:=by clear U3;subst he;rfl
 have hg:env.globals=mainGlobals:=by clear UE;subst he;rfl
 have hbi:env.builtins=builtinsNs:=by clear hg;subst he;rfl
 right;obtain ⟨Sg,tk,es,hk⟩:=x.done;symm;have hk':∀b o,s.heap.get? b=some o->RT.heap.get? b=some o:=by subst es;rw[hk]
 have hgens:RT.gens=#[]:=by clear hk';subst es;rw[gens]
 have XT:RT.os=s.os:=by clear hgens;subst es;rfl
 have hL:s.heap.get? env.locals=none:=cG x.toInCall.fresh;have hC:∀n a,env.cells.lookup n=some a->s.heap.get? a=none:=λn a e=>cG<|Nat.le_trans x.toInCall.fresh<|Nat.le_of_lt<|x.above n a<|mem_of_lookup e;have fr:∀b,f7 {g:=s.heap,A:=callerA.deeper env,env:=env,mV:=[env],os:=s.os} b->b=env.locals:=λb ⟨e,hm,z⟩=>by
  rw[b9 hm,UE] at z;rw[(Option.some.inj z).symm]
 have RX:R q.prog q.w {g:=s.heap,A:=callerA.deeper env,env:=env,mV:=[env],os:=s.os} ([(p,.ref q.bw)]:Lo) (λ_=>none) RT:=by
  rw[{gens:=hgens,os:=XT,keep:=hk',lo:=⟨_,_,x.toInCall.ns,x.cell,λy u e=>?_⟩,obs:=λa o z=>(nomatch z),new:=λb z=>?_,newF:=λb z=>?_,apart:=λa o z=>(nomatch z),aG:=λa o d z=>(nomatch z),inj:=λa a' o o' d z=>(nomatch z),bE:=λn a e=>?_,bT:=λn n' a e e'=>name_of_addr x.apart (mem_of_lookup e)<|mem_of_lookup e'}]
  ·obtain ⟨v',a1,a2,a3⟩:=o9 (h:=RT.heap) (kd:=env.kindOf) [p] [v] [.ref q.bw] (λ_=>none) (λ_=>none) y u (.cons (af hv<|.ref _) .nil) (by simp) e;rw[⟨v',a1,?_⟩];have yin:y=p:=by
    have:=(List.of_mem_zip<|mem_of_lookup<|show (([p]:List Str).zip [V.ref q.bw]).lookup y=some u from e).1;rw[b9 this]
   rcases XY with z|z
   ·have z':env.kindOf y=some .local:=by unfold Env.kindOf;rw[af U3<|af yin z]
    rw[.inl ⟨z',a2 z'⟩]
   ·have z':env.kindOf y=some .cell:=by unfold Env.kindOf;rw[af U3<|af yin z]
    rw[.inr ⟨.inl z',Sl y<|.inl z',a3 (by rw[af z' ?_];decide)⟩]
  ·rcases z with ⟨o,z,_⟩|⟨y,o,z,_⟩|z|⟨n,z⟩
   ·rw[aq z]
   ·rw[aq z]
   ·rw[af z hL]
   ·rw[hC n b z]
  ·rw[af (fr b z) ?_];obtain ⟨o,es,ep,e,hd,_⟩:=x.toInCall.ns;rw[⟨hL,o,es,ep,e,hd⟩]
  ·rw[⟨λz=>Nat.ne_of_gt (x.above n a<|mem_of_lookup e)<|fr a z,Nat.ne_of_gt<|x.above n a<|mem_of_lookup e⟩]
 have dl:1+claimMargin+1+4*20+20<recursionLimit:=by decide+kernel
 have cl:4+3+40*20+200<cLine:=by decide+kernel
 have hc:bK (Dd q) n {g:=s.heap,A:=callerA.deeper env,env:=env,mV:=[env],os:=s.os}:=
  {kind:=by show env.scope.kind=_;exact af U3 kind
   glob:=hg
   bi:=hbi
   K:=X
   top:=T
   m8:=YV
   hd:=λ_=>rfl
   fr:=rfl
   Ai:=λe he=>by rw[af (b9 he)<|af U3<|af kind ?_];decide
   frs:=λe he=>⟨env.locals,af (b9 he) UE⟩
   here:=⟨env,[],rfl,rfl⟩
   fh:=Sl
   depth:=by show 1+claimMargin+1+4*n+20<_;rw[Nat.lt_of_le_of_lt (Nat.add_le_add_right (Nat.add_le_add_left (Nat.mul_le_mul_left 4 hn) _) 20) dl]
   units:=by show 4+3+40*n+200<_;rw[Nat.lt_of_le_of_lt (Nat.add_le_add_right (Nat.add_le_add_left (Nat.mul_le_mul_left 40 hn) _) 200) cl]}
 rw[⟨T.nolimit.keeps hk',codeAny_func ?_⟩,wpAny_mono (h _ hc U3 RT RX) (λfl RZ w9=>?_) λv RZ hx=>hx.no.elim];right;obtain ⟨ZD,l,τ,R7,Sb,rf,e⟩:=w9;subst e;obtain ⟨v,e,iv⟩:=rf.BE;clear rf;subst e;symm;rw[af (isBool iv) ⟨rfl,R7.keep,R7.os,R7.gens⟩]
theorem Dj {R:WRecords}{cl:Str->Option Addr}{h:Heap}:∀{vs:List Value} {ns:List Int} {as:List Addr},ReadsAllW R cl h vs (ns.map .int) as->IntsAre vs ns
 |_,[],_,r=>by cases r;rw[.nil]
 |_,n::ns,_,r=>by
  cases r with
  |cons a b=>cases a;rw[.cons n _<|Dj b]
theorem BH (h:BC.row.toRowW.pre.holds [] {args:=[.list<|ns.map .int]}=true):ns.length<=63:=by
 have h':(WTm.and (.not<|.lt (.lit<|.int 63)<|.len<|.arg 0)<|.lit<|.bool true).holds [] {args:=[.list<|ns.map .int]}=true:=h;simp [WTm.holds,WTm.value] at h';have e:W.less? (WData.int 63) (WData.int ns.length)=some (decide ((63:Int)<ns.length)):=rfl;rw[e] at h'
 by_cases hc:(63:Int)<ns.length
 ·rw[decide_eq_true hc] at h';rw[absurd h' ac]
 ·rw[Kh hc]
theorem BI (a b:List WData):BC.row.toRowW.claim.post a (.bool true) b=true:=by
 show (WShape.has [] (.bool true) .bool&&(WTm.eq .res<|.lit<|.bool true).holds [] {args:=a,res:=some<|.bool true,after:=b})=true;rw[af (Bool.and_eq_true ..) ?_]
 constructor
 ·decide
 ·simp only [WTm.holds,WTm.value];erw[show W.same (WData.bool true) (WData.bool true)=true by decide+kernel]
theorem yK:WalkX pV jB (λ_ _=>True) (λs=>s.heap) (λw=>jl w.params) BC.row.toRowW M7 [] λf vs=>PySem.call f vs:=by
 intro w Sk RT mg mb G hY a o pm cd doc dV kV ha ho hcode hdf hmg hgens args vals as L hpre UT hreads hwell hlow;have X₀:(KK w.params).In Sk.heap:=af (show Sk.heap=jl w.params from hY)<|NV w.params;have X:(KK w.params).In RT.heap:=X₀.keeps L.keeps;have T:TopRead pV (looseW pV jB) mg mb RT.heap:=topRead_of G.T;have hlaw:mg "law"=some (.ref 940):=mg_of X T.g (by kernel_rfl!);have ea:a=940:=by
  have:mg "law"=some (.ref a):=hmg;rw[hlaw] at this;clear ha hmg;cases this;rfl
 clear ha hmg;subst ea;obtain ⟨h1,h2⟩:=pre_splitW hpre;obtain ⟨d,r,rfl,h3,h4⟩:=hasAllW_cons<|show WShape.hasAll [] args [.list .int]=true from h1
 cases hasAllW_nil h4
 obtain ⟨xs,rfl,h5⟩:=hasW_list h3;clear h3 hpre UT h1;obtain ⟨ns,rfl⟩:=items_int h5;have Sd:ns.length<=63:=BH h2
 cases hreads with
 |cons TU hr'=>
  cases hr'
  cases TU with
  | @list A o' vs nn _ as' g1 g2 g3 g4=>
    have hints:IntsAre vs.toList ns:=Dj g4
    let q:cN:={prog:=BC.row.toRowW.prog,w:=w,K:=KK w.params,p:=pV,loose:=looseW pV jB,mg:=mg,mb:=mb,bw:=A,fH:=vs.toList}
    have hl:RT.heap.IsList q.bw q.fH.toArray:=⟨o',g1,g2,nn,by rw[af g3 rfl]⟩;rw[wpAny_call<|codeAny_mono (yT (q:=q) (n:=1+10) "script" rfl rfl rfl rfl rfl (Dw λ_=>rfl) (by decide+kernel) (by decide+kernel) ac X T hl rfl hgens (Cf (q:=q) (n:=1) hints Sd)) λr s' z=>?_];obtain ⟨rfl,k1,k2,k3⟩:=z;have g:GoodW BC.row.toRowW.claim (classAt Sk.heap) (ExcName.means Sk.heap) [.list<|ns.map .int] RT (.ok<|.ret<|.bool true) s':=
     ⟨.inl ⟨.bool true,.bool true,[],rfl,(λ_=>rfl),.bool true,BI _ _,λ_=>⟨List.nodup_nil,bZ⟩⟩,k1,k2,k3⟩
    rw[g.toG]
theorem CU:BC.Holds:=hd yK
end
end
end Mine.Internal
theorem PySem.Challenge.cw_tk0076_01_holds : PySem.Challenge.rw_tk0076_01.Holds :=
 Mine.Internal.CU