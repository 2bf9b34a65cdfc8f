import PyProof.Rows.All
import Wide.All
import OpenK.AllK
import Wide.FinOn
import Lean
import PySem.Challenge.RW_qz0061_01
set_option Elab.async false
set_option tactic.hygienic false
set_option linter.unusedVariables false
set_option genSizeOfSpec false
set_option compiler.extract_closed false
set_option maxRecDepth 100000
set_option maxHeartbeats 4000000
open PySem PySem.W PyProof.Rows
open PySem.Builtin.Int (intBits)
namespace Mine
local macro_rules | `(tactic|w_on)=>`(tactic|with_unfolding_all rfl)
namespace Lc
set_option genInjectivity false
set_option genSizeOf false
set_option genSizeOfSpec false
noncomputable abbrev Poly:=Lean.Grind.CommRing.Poly
inductive Lx where
 |v (i:Nat)
 |n (k:Nat)
 |ad (a b:Lx)
 |sb (a b:Lx)
 |ml (a b:Lx)
 |ng (a:Lx)
 |dv (a:Lx) (d:Nat)
inductive Hy where
 |le (m:Nat) (a b:Lx)
 |lt (m:Nat) (a b:Lx)
 |eq (m a b:Lx)
inductive Go where
 |le (c:Nat) (a b:Lx)
 |lt (c:Nat) (a b:Lx)
 |eq (c:Nat) (a b:Lx)
 |ff
structure Sq where
 nv:Nat
 hs:List Hy
 g:Go
noncomputable def tok(N i:Nat):Nat:=Nat.mod (Nat.shiftRight N (Nat.mul 6 i)) 64
noncomputable def pop2(st:List Lx)(k:Lx→Lx→List Lx→Sq):Sq:=
 @List.rec Lx (fun o1_=>Sq) ⟨0,[],.ff⟩ (fun b r o1_=>@List.rec Lx (fun o1_=>Sq) ⟨0,[],.ff⟩ (fun a s o1_=>k a b s) r) st
noncomputable def pop1(st:List Lx)(k:Lx→List Lx→Sq):Sq:=
 @List.rec Lx (fun o1_=>Sq) ⟨0,[],.ff⟩ (fun b r o1_=>k b r) st
noncomputable def alt(t:Nat)(a:Sq)(b:Nat→Sq):Sq:=@Nat.rec (fun o1_=>Sq) a (fun i o1_=>b i) t
noncomputable def runL(N n:Nat):Nat→List Lx→List Hy→Go→Sq:=
 @Nat.rec (fun o1_=>Nat→List Lx→List Hy→Go→Sq) (fun acc o1_ hs g=>⟨acc,hs,g⟩)
  (fun i ih acc st hs g=>
   @Bool.rec (fun o1_=>Sq)
    (@Bool.rec (fun o1_=>Sq)
     (alt (tok N i) (ih 0 (.v acc::st) hs g) fun t=>
      alt t (ih 0 (.n acc::st) hs g) fun t=>
      alt t (pop2 st fun a b s=>ih 0 (.ad a b::s) hs g) fun t=>
      alt t (pop2 st fun a b s=>ih 0 (.sb a b::s) hs g) fun t=>
      alt t (pop2 st fun a b s=>ih 0 (.ml a b::s) hs g) fun t=>
      alt t (pop1 st fun a s=>ih 0 (.ng a::s) hs g) fun t=>
      alt t (pop1 st fun a s=>ih 0 (.dv a acc::s) hs g) fun t=>
      alt t (pop2 st fun a b s=>ih 0 s (.le acc a b::hs) g) fun t=>
      alt t (pop2 st fun a b s=>ih 0 s (.lt acc a b::hs) g) fun t=>
      alt t (pop2 st fun a b s=>pop1 s fun m s=>ih 0 s (.eq m a b::hs) g) fun t=>
      alt t (pop2 st fun a b s=>ih 0 s hs (.le acc a b)) fun t=>
      alt t (pop2 st fun a b s=>ih 0 s hs (.lt acc a b)) fun t=>
      alt t (pop2 st fun a b s=>ih 0 s hs (.eq acc a b)) fun t=>⟨0,[],.ff⟩)
     (@Bool.rec (fun o1_=>Sq) (ih 0 (.v (Nat.sub (tok N i) 14)::st) hs g) (ih (Nat.mul (Nat.div acc 64) (Nat.pow (@Bool.rec (fun o1_=>Nat) 2 10 (Nat.beq (tok N i) 29)) (Nat.mod acc 64))) st hs g) (Nat.ble 28 (tok N i)))
     (Nat.ble 14 (tok N i)))
    (ih (Nat.add (Nat.mul 32 acc) (Nat.sub (tok N i) 32)) st hs g)
    (Nat.ble 32 (tok N i))) n
noncomputable def prog(N:Nat):Sq:=runL N (Nat.div (Nat.add (Nat.log2 N) 6) 6) 0 [] [] .ff
structure Op(α:Type) where
 lit:Nat→α
 ad:α→α→α
 sb:α→α→α
 ml:α→α→α
 ng:α→α
 dv:α→Nat→α
 le:α→α→Prop
 lt:α→α→Prop
 c:α→Rat
 s:Bool
 d:Bool
 t:Bool
 c_lit:∀n,c (lit n)=(n:Rat)
 c_ad:∀a b,c (ad a b)=c a+c b
 c_ml:∀a b,c (ml a b)=c a*c b
 c_sb:s=true→∀a b,c (sb a b)=c a-c b
 c_ng:s=true→∀a,c (ng a)= - c a
 c_dv:d=true→∀a n,c (dv a n)=c a/(n:Rat)
 c_le:∀a b,le a b↔c a≤c b
 c_lt:∀a b,lt a b↔c a<c b
 inj:∀a b,c a=c b→a=b
 c_t:t=true→∀a b,c a<c b→c a+1≤c b
noncomputable def hh:Rat:=1-2* -3/4+((5-2* -3:Int):Rat)
section
variable {α:Type} (L:Nat→α) (A S M:α→α→α) (G:α→α) (D:α→Nat→α) (E T:α→α→Prop) (xs:List α)
noncomputable def nth(i:Nat):α:=
 @List.rec α (fun o1_=>Nat→α) (fun o1_=>(fun o1_=>L 0) hh) (fun x o1_ ih i=>@Nat.rec (fun o1_=>α) x (fun j o1_=>ih j) i) xs i
noncomputable def ev(e:Lx):α:=@Lx.rec (fun o1_=>α) (nth L xs) L (fun o1_ o2_=>A) (fun o1_ o2_=>S) (fun o1_ o2_=>M) (fun o1_=>G) (fun o1_ d a=>D a d) e
noncomputable def hyp(h:Hy):Prop:=
 @Hy.rec (fun o1_=>Prop) (fun o1_ a b=>E (ev L A S M G D xs a) (ev L A S M G D xs b)) (fun o1_ a b=>T (ev L A S M G D xs a) (ev L A S M G D xs b)) (fun o1_ a b=>ev L A S M G D xs a=ev L A S M G D xs b) h
noncomputable def goa(h:Go):Prop:=
 @Go.rec (fun o1_=>Prop) (fun o1_ a b=>E (ev L A S M G D xs a) (ev L A S M G D xs b)) (fun o1_ a b=>T (ev L A S M G D xs a) (ev L A S M G D xs b)) (fun o1_ a b=>ev L A S M G D xs a=ev L A S M G D xs b) False h
noncomputable def imps(C:Prop)(g:Go)(hs:List Hy):Prop:=
 @List.rec Hy (fun o1_=>Prop) ((_:C:=by kernel_rfl)→goa L A S M G D E T xs g) (fun h o1_ ih=>hyp L A S M G D E T xs h→ih) hs
noncomputable def alls(n:Nat)(k:List α→Prop):List α→Prop:=
 @Nat.rec (fun o1_=>List α→Prop) k (fun o1_ ih xs=>∀{x},ih (x::xs)) n
noncomputable def den(C:Prop)(s:Sq):Prop:=@Sq.rec (fun o1_=>Prop) (fun nv hs g=>alls nv (fun xs=>imps L A S M G D E T xs C g hs) []) s
end
noncomputable def evR(f:Nat→Rat)(e:Lx):Rat:=@Lx.rec (fun o1_=>Rat) f (fun n=>(n:Rat)) (fun o1_ o2_ a b=>a+b) (fun o1_ o2_ a b=>a-b) (fun o1_ o2_ a b=>a*b) (fun o1_ a=> -a) (fun o1_ d a=>a/(d:Rat)) e
section
variable (oS oD oT:Bool)
noncomputable def okE(e:Lx):Bool:=@Lx.rec (fun o1_=>Bool) (fun o1_=>true) (fun o1_=>true) (fun o1_ o2_ a b=>and a b) (fun o1_ o2_ a b=>and oS (and a b)) (fun o1_ o2_ a b=>and a b) (fun o1_ a=>and oS a) (fun o1_ o2_ a=>and oD a) e
noncomputable def both(a b:Nat×Poly)(f:Poly→Poly→Poly):Nat×Poly:=
 @Bool.rec (fun o1_=>Nat×Poly) (Nat.mul a.1 b.1,f (a.2.mulConst_k (Int.ofNat b.1)) (b.2.mulConst_k (Int.ofNat a.1))) (a.1,f a.2 b.2) (Nat.beq a.1 b.1)
noncomputable def nf(e:Lx):Nat×Poly:=
 @Lx.rec (fun o1_=>Nat×Poly) (fun i=>(1,Lean.Grind.CommRing.Poly.ofVar i)) (fun k=>(1,.num (Int.ofNat k))) (fun o1_ o2_ a b=>both a b fun p q=>p.combine_k q) (fun o1_ o2_ a b=>both a b fun p q=>p.combine_k (q.mulConst_k (-1)))
  (fun o1_ o2_ a b=>(Nat.mul a.1 b.1,a.2.mul b.2)) (fun o1_ a=>(a.1,a.2.mulConst_k (-1))) (fun o1_ d a=>@Bool.rec (fun o1_=>Nat×Poly) (Nat.mul a.1 d,a.2) (1,.num 0) (Nat.beq d 0)) e
noncomputable def hL(b:Bool)(x y:Lx):Lx:=@Bool.rec (fun o1_=>Lx) (.sb y x) (.sb y (.ad x (.n 1))) b
noncomputable def hx(h:Hy):Lx:=
 @Hy.rec (fun o1_=>Lx) (fun m a b=> .ml (.n m) (.sb b a)) (fun m a b=> .ml (.n m) (hL oT a b)) (fun m a b=> .ml m (.sb b a)) h
noncomputable def tl(hs:List Hy)(e:Lx):Lx:=@List.rec Hy (fun o1_=>Lx) e (fun h o1_ ih=> .ad ih (hx oT h)) hs
noncomputable def sth(h:Hy):Bool:=@Hy.rec (fun o1_=>Bool) (fun o1_ o2_ o3_=>false) (fun m o1_ o2_=>and (not oT) (Nat.blt 0 m)) (fun o1_ o2_ o3_=>false) h
noncomputable def okh(h:Hy):Bool:=@Hy.rec (fun o1_=>Bool) (fun o1_ a b=>and (okE oS oD a) (okE oS oD b)) (fun o1_ a b=>and (okE oS oD a) (okE oS oD b)) (fun o1_ a b=>and (okE oS oD a) (okE oS oD b)) h
noncomputable def iseq(h:Hy):Bool:=@Hy.rec (fun o1_=>Bool) (fun o1_ o2_ o3_=>false) (fun o1_ o2_ o3_=>false) (fun o1_ o2_ o3_=>true) h
noncomputable def all(p:Hy→Bool)(hs:List Hy):Bool:=@List.rec Hy (fun o1_=>Bool) true (fun h o1_ ih=>and (p h) ih) hs
noncomputable def any(p:Hy→Bool)(hs:List Hy):Bool:=@List.rec Hy (fun o1_=>Bool) false (fun h o1_ ih=>or (p h) ih) hs
noncomputable def neg(p:Poly)(st:Bool):Bool:=@Lean.Grind.CommRing.Poly.rec (fun o1_=>Bool) (fun k=>or (Int.blt' k 0) (and st (Int.beq' k 0))) (fun o1_ o2_ o3_ o4_=>false) p
noncomputable def chk(s:Sq):Bool:=
 @Sq.rec (fun o1_=>Bool) (fun o1_ hs g=>and (all (okh oS oD) hs) (@Go.rec (fun o1_=>Bool)
  (fun c a b=>and (and (okE oS oD a) (okE oS oD b)) (neg (nf (tl oT hs (.ml (.n c) (hL oT b a)))).2 (or (and (not oT) (Nat.blt 0 c)) (any (sth oT) hs))))
  (fun c a b=>and (and (okE oS oD a) (okE oS oD b)) (neg (nf (tl oT hs (.ml (.n c) (.sb a b)))).2 (any (sth oT) hs)))
  (fun c a b=>and (and (okE oS oD a) (okE oS oD b)) (and (Nat.blt 0 c) (and (all iseq hs) (Lean.Grind.CommRing.Poly.beq' (nf (tl oT hs (.ml (.n c) (.sb a b)))).2 (.num 0)))))
  (neg (nf (tl oT hs (.n 0))).2 (any (sth oT) hs)) g)) s
end
theorem an{a b:Bool}(h:and a b=true):a=true∧b=true:=Bool.and_eq_true_iff.mp h
noncomputable def cx:List Rat→Nat→Lean.RArray Rat
 |[],_=> .leaf 0
 |x::r,i=> .branch (i+1) (.leaf x) (cx r (i+1))
noncomputable def nR(xs:List Rat)(i:Nat):Rat:=
 @List.rec Rat (fun o1_=>Nat→Rat) (fun o1_=>0) (fun x o1_ ih i=>@Nat.rec (fun o1_=>Rat) x (fun j o1_=>ih j) i) xs i
theorem cx_get:∀(xs:List Rat) (i j:Nat),(cx xs i).get (i+j)=nR xs j
 |[],_,_=>rfl
 |x::r,i,0=>by
  show(Lean.RArray.branch (i+1) (.leaf x) (cx r (i+1))).get (i+0)=_
  rw[Lean.RArray.get_eq_getImpl]
  exact if_pos (Nat.lt_succ_self i)
 |x::r,i,j+1=>by
  have:=cx_get r (i+1) j
  rw[show nR (x::r) (j+1)=nR r j from rfl,←this,Lean.RArray.get_eq_getImpl]
  exact(if_neg (Nat.not_lt.mpr (Nat.add_le_add_left (Nat.succ_pos j) i))).trans (by rw[Nat.add_right_comm];rfl)
section
variable {xs:List Rat}
theorem rt1(k b x:Rat):k*b*x=b*(k*x):=Rat.mul_comm b k▸Rat.mul_assoc b k x
theorem rt2(k a b:Rat):k*(a-b)=k*a+ -(k*b):=by grind
theorem rt3(j k a b:Rat):j*k*(a*b)=j*a*(k*b):=by grind
theorem rt4{a b:Rat}(h:a≤b):0≤b-a:=(Rat.le_iff_sub_nonneg a b).mp h
theorem rt5{a b:Rat}(h:a<b):0<b-a:=(Rat.lt_iff_sub_pos a b).mp h
theorem rt6{a b:Rat}(h:0≤a)(k:0≤b):0≤a+b:=Rat.add_nonneg h k
theorem rt9{a b:Rat}(h:0≤a)(k:0<b):0<a+b:=by grind
theorem rt7{a b:Rat}(h:0<a)(k:0≤b):0<a+b:=Rat.add_comm b a▸rt9 k h
theorem rt8{a b:Rat}(h:a-b=0):a=b:=by grind
theorem mc{p:Poly}{k:Int}{x:Rat}(h:x=p.denote (cx xs 0)):(k:Rat)*x=(p.mulConst_k k).denote (cx xs 0):=by
 rw[Lean.Grind.CommRing.Poly.mulConst_k_eq_mulConst,Lean.Grind.CommRing.Poly.denote_mulConst,←h]
theorem mn{p:Poly}{x:Rat}(h:x=p.denote (cx xs 0)): -x=(p.mulConst_k (-1)).denote (cx xs 0):=by
 rw[←mc (k:= -1) h];show -x= -1*x;grind
theorem ca{p q:Poly}{x y:Rat}(h:x=p.denote (cx xs 0))(k:y=q.denote (cx xs 0)):x+y=(p.combine_k q).denote (cx xs 0):=by
 rw[Lean.Grind.CommRing.Poly.combine_k_eq_combine,Lean.Grind.CommRing.Poly.denote_combine,←h,←k]
noncomputable def Nf(xs:List Rat)(a:Nat×Poly)(x:Rat):Prop:=0<a.1∧(a.1:Rat)*x=a.2.denote (cx xs 0)
theorem both_ok{x y z:Rat}{a b:Nat×Poly}{f:Poly→Poly→Poly}(ha:Nf xs a x)(hb:Nf xs b y)
  (hf:∀(p q:Poly) (k:Rat),k*x=p.denote (cx xs 0)→k*y=q.denote (cx xs 0)→k*z=(f p q).denote (cx xs 0)):Nf xs (both a b f) z:=by
 unfold both
 cases h:Nat.beq a.1 b.1 with
 |true=>exact⟨ha.1,hf _ _ _ ha.2 (Nat.eq_of_beq_eq_true h▸hb.2)⟩
 |false=>
  refine⟨Nat.mul_pos ha.1 hb.1,?_⟩
  rw[show(Nat.mul a.1 b.1:Nat)=a.1*b.1 from rfl,Rat.natCast_mul]
  exact hf _ _ _ ((rt1 _ _ _).trans (mc ha.2)) ((Rat.mul_assoc _ _ _).trans (mc hb.2))
theorem nf_ok(e:Lx):Nf xs (nf e) (evR (nR xs) e):=by
 induction e with
 |v i=>
  refine⟨Nat.one_pos,(Rat.one_mul _).trans ?_⟩
  show nR xs i=(Lean.Grind.CommRing.Poly.ofVar i).denote (cx xs 0)
  rw[Lean.Grind.CommRing.Poly.denote_ofVar]
  exact(cx_get xs 0 i).symm.trans (by rw[Nat.zero_add];rfl)
 |n k=>exact⟨Nat.one_pos,Rat.one_mul _⟩
 |ad a b ha hb=>exact both_ok ha hb fun p q k h1 h2=>(Rat.mul_add _ _ _).trans (ca h1 h2)
 |sb a b ha hb=>exact both_ok ha hb fun p q k h1 h2=>(rt2 _ _ _).trans (ca h1 (mn h2))
 |ml a b ha hb=>
  refine⟨Nat.mul_pos ha.1 hb.1,?_⟩
  show((nf a).1*(nf b).1:Nat)*(evR _ a*evR _ b)=((nf a).2.mul (nf b).2).denote _
  rw[Lean.Grind.CommRing.Poly.denote_mul,←ha.2,←hb.2,Rat.natCast_mul]
  exact rt3 _ _ _ _
 |ng a ha=>exact⟨ha.1,(Rat.mul_neg _ _).trans (mn ha.2)⟩
 |dv a d ha=>
  show Nf xs (@Bool.rec (fun o1_=>Nat×Poly) (Nat.mul (nf a).1 d,(nf a).2) (1,.num 0) (Nat.beq d 0)) (evR _ a/d)
  cases h:Nat.beq d 0 with
  |true=>
   rw[Nat.eq_of_beq_eq_true h]
   exact⟨Nat.one_pos,by rw[Rat.div_def,show((0:Nat):Rat)=0 from rfl,Rat.inv_zero];exact(Rat.one_mul _).trans (Rat.mul_zero _)⟩
  |false=>
   have hd:(d:Rat)≠0:=fun h'=>Nat.ne_of_beq_eq_false h (by exact_mod_cast h')
   refine⟨Nat.mul_pos ha.1 (Nat.pos_of_ne_zero (Nat.ne_of_beq_eq_false h)),?_⟩
   rw[←ha.2,show(Nat.mul (nf a).1 d:Nat)=(nf a).1*d from rfl,Rat.natCast_mul,Rat.div_def,rt3]
   rw[Rat.mul_assoc,Rat.mul_inv_cancel _ hd,Rat.mul_one]
theorem neg_ok{e:Lx}{st:Bool}(h:neg (nf e).2 st=true)(h0:0≤evR (nR xs) e)(h1:st=true→0<evR (nR xs) e):False:=by
 obtain⟨p,q⟩:=nf_ok (xs:=xs) e
 have hp:(0:Rat)<((nf e).1:Rat):=by exact_mod_cast p
 generalize nf e=r at *
 obtain⟨r1,r2⟩:=r
 cases r2 with
 |add=>cases h
 |num k=>
  have q:(r1:Rat)*evR (nR xs) e=(k:Rat):=q
  rcases Bool.or_eq_true_iff.mp (show or (Int.blt' k 0) (and st (Int.beq' k 0))=true from h) with h |h
  ·have hk:k<0:=by simpa using h
   exact Rat.not_le.mpr (show(k:Rat)<0 by exact_mod_cast hk) (q▸Rat.mul_nonneg (Rat.le_of_lt hp) h0)
  ·obtain⟨a,b⟩:=an h
   have hk:k=0:=by simpa using b
   subst hk
   exact Rat.lt_irrefl (q▸Rat.mul_pos hp (h1 a))
end
section
variable {α:Type} {o:Op α} {xs:List α}
noncomputable abbrev evO(o:Op α)(xs:List α)(e:Lx):α:=ev o.lit o.ad o.sb o.ml o.ng o.dv xs e
noncomputable abbrev hypO(o:Op α)(xs:List α)(e:Hy):Prop:=hyp o.lit o.ad o.sb o.ml o.ng o.dv o.le o.lt xs e
noncomputable abbrev goaO(o:Op α)(xs:List α)(e:Go):Prop:=goa o.lit o.ad o.sb o.ml o.ng o.dv o.le o.lt xs e
noncomputable abbrev impsO(o:Op α)(xs:List α)(C:Prop)(g:Go)(hs:List Hy):Prop:=imps o.lit o.ad o.sb o.ml o.ng o.dv o.le o.lt xs C g hs
theorem nthR(i:Nat):o.c (nth o.lit xs i)=nR (xs.map o.c) i:=by
 induction xs generalizing i with
 |nil=>exact o.c_lit 0
 |cons x r ih=>cases i with
  |zero=>rfl
  |succ j=>exact ih j
theorem evOk{e:Lx}(h:okE o.s o.d e=true):o.c (evO o xs e)=evR (nR (xs.map o.c)) e:=by
 induction e with
 |v i=>exact nthR i
 |n k=>exact o.c_lit k
 |ad a b ha hb=>exact(o.c_ad _ _).trans (congr (congrArg _ (ha (an h).1)) (hb (an h).2))
 |sb a b ha hb=>exact(o.c_sb (an h).1 _ _).trans (congr (congrArg _ (ha (an (an h).2).1)) (hb (an (an h).2).2))
 |ml a b ha hb=>exact(o.c_ml _ _).trans (congr (congrArg _ (ha (an h).1)) (hb (an h).2))
 |ng a ha=>exact(o.c_ng (an h).1 _).trans (congrArg _ (ha (an h).2))
 |dv a d ha=>exact(o.c_dv (an h).1 _ _).trans (congrArg (· / (d:Rat)) (ha (an h).2))
structure Sum(o:Op α)(f:Nat→Rat)(hs:List Hy):Prop where
 nn:∀{e},0≤evR f e→0≤evR f (tl o.t hs e)
 ps:∀{e},0<evR f e→0<evR f (tl o.t hs e)
 st:∀{e},0≤evR f e→any (sth o.t) hs=true→0<evR f (tl o.t hs e)
 eq:∀{e},all iseq hs=true→evR f (tl o.t hs e)=evR f e
theorem ltOk{f:Nat→Rat}{a b:Lx}(h:evR f a<evR f b)(ht:o.t=true→evR f a+1≤evR f b):0≤evR f (hL o.t a b)∧(o.t=false→0<evR f (hL o.t a b)):=by
 cases q:o.t with
 |true=>exact⟨rt4 (ht q),fun h=>(nomatch h)⟩
 |false=>exact⟨Rat.le_of_lt (rt5 h),fun o1_=>rt5 h⟩
theorem cn(m:Nat):(0:Rat)≤(m:Rat):=by exact_mod_cast Nat.zero_le m
theorem cp{m:Nat}(h:Nat.blt 0 m=true):(0:Rat)<(m:Rat):=by
 have:0<m:=Nat.le_of_ble_eq_true h
 exact_mod_cast this
theorem hx_ok{h:Hy}(k:hypO o xs h)(ok:okh o.s o.d h=true):
  0≤evR (nR (xs.map o.c)) (hx o.t h)∧(sth o.t h=true→0<evR (nR (xs.map o.c)) (hx o.t h))∧(iseq h=true→evR (nR (xs.map o.c)) (hx o.t h)=0):=by
 cases h with
 |le m a b=>
  have k1:=(o.c_le _ _).mp k
  rw[evOk (an ok).1,evOk (an ok).2] at k1
  exact⟨Rat.mul_nonneg (cn m) (rt4 k1),(fun h=>nomatch h),(fun h=>nomatch h)⟩
 |lt m a b=>
  have k1:=(o.c_lt _ _).mp k
  have k2:=fun t=>o.c_t t _ _ k1
  rw[evOk (an ok).1,evOk (an ok).2] at k1 k2
  obtain⟨h1,h2⟩:=ltOk (o:=o) k1 k2
  exact⟨Rat.mul_nonneg (cn m) h1,fun h=>Rat.mul_pos (cp (an h).2) (h2 (by have:=(an h).1;cases q:o.t with |true=>rw[q] at this;cases this |false=>rfl)),(fun h=>nomatch h)⟩
 |eq m a b=>
  have k:evO o xs a=evO o xs b:=k
  have k1:evR (nR (xs.map o.c)) a=evR (nR (xs.map o.c)) b:=by rw[←evOk (an ok).1,←evOk (an ok).2,k]
  have e:evR (nR (xs.map o.c)) (hx o.t (.eq m a b))=0:=by
   show evR _ m*(evR _ b-evR _ a)=_
   rw[k1,Rat.sub_self,Rat.mul_zero]
  exact⟨e▸Rat.le_refl,(fun h=>nomatch h),fun o1_=>e⟩
theorem imps_ok{C:Prop}{g:Go}:∀{hs:List Hy},(C→all (okh o.s o.d) hs=true)→(C→Sum o (nR (xs.map o.c)) hs→goaO o xs g)→impsO o xs C g hs
 |[],_,K=>fun c=>K c ⟨fun h=>h,fun h=>h,(fun o1_ h=>nomatch h),fun o1_=>rfl⟩
 |h::r,ok,K=>fun k=>imps_ok (hs:=r) (fun c=>(an (ok c)).2) fun c H=>
  have⟨a1,a2,a3⟩:=hx_ok k (an (ok c)).1
  K c ⟨fun h=>rt6 (H.nn h) a1,fun h=>rt7 (H.ps h) a1,fun h s=>by
   rcases Bool.or_eq_true_iff.mp s with s |s
   ·exact rt9 (H.nn h) (a2 s)
   ·exact rt7 (H.st h s) a1,fun s=>by
   show evR _ (tl o.t r _)+evR _ (hx o.t h)=_
   rw[H.eq (an s).2,a3 (an s).1,Rat.add_zero]⟩
theorem alls_ok{k:List α→Prop}(h:∀xs,k xs):∀n xs,alls n k xs
 | 0,xs=>h xs
 |n+1,xs=>alls_ok h n _
theorem li0{C:Prop}:∀(s:Sq),(C→chk o.s o.d o.t s=true)→den o.lit o.ad o.sb o.ml o.ng o.dv o.le o.lt C s
 |⟨nv,hs,g⟩,h=>alls_ok (fun xs=>imps_ok (fun c=>(an (h c)).1) fun c' H=>by
  have h:=(an (h c')).2
  cases g with
  |le c a b=>
   refine(o.c_le _ _).mpr (Rat.not_lt.mp fun q=>?_)
   have k2:=fun t=>o.c_t t _ _ q
   rw[evOk (an (an h).1).1,evOk (an (an h).1).2] at q k2
   obtain⟨h1,h2⟩:=ltOk (o:=o) q k2
   refine neg_ok (an h).2 (H.nn (Rat.mul_nonneg (cn c) h1)) fun s=>?_
   rcases Bool.or_eq_true_iff.mp s with s |s
   ·exact H.ps (Rat.mul_pos (cp (an s).2) (h2 (by have:=(an s).1;cases q:o.t with |true=>rw[q] at this;cases this |false=>rfl)))
   ·exact H.st (Rat.mul_nonneg (cn c) h1) s
  |lt c a b=>
   refine(o.c_lt _ _).mpr (Rat.not_le.mp fun q=>?_)
   rw[evOk (an (an h).1).1,evOk (an (an h).1).2] at q
   exact neg_ok (an h).2 (H.nn (Rat.mul_nonneg (cn c) (rt4 q))) fun s=>H.st (Rat.mul_nonneg (cn c) (rt4 q)) s
  |eq c a b=>
   refine o.inj _ _ ?_
   rw[evOk (an (an h).1).1,evOk (an (an h).1).2]
   obtain⟨h1,h2⟩:=an (an h).2
   have e:=H.eq (e:= .ml (.n c) (.sb a b)) (an h2).1
   obtain⟨p,q⟩:=nf_ok (xs:=xs.map o.c) (tl o.t hs (.ml (.n c) (.sb a b)))
   rw[show(nf (tl o.t hs (.ml (.n c) (.sb a b)))).2= .num 0 by simpa using (an h2).2,e] at q
   rcases Rat.mul_eq_zero.mp q with h |h
   ·exact absurd (Rat.natCast_eq_zero_iff.mp h) (Nat.ne_of_gt p)
   ·rcases Rat.mul_eq_zero.mp h with h |h
    ·exact absurd (cp h1) (by rw[show((c:Nat):Rat)=0 from h];decide)
    ·exact rt8 h
  |ff=>exact neg_ok h (H.nn (e:= .n 0) (Rat.le_refl (a:=0))) fun s=>H.st (e:= .n 0) (Rat.le_refl (a:=0)) s) nv []
end
noncomputable def opR:Op Rat:={lit:=fun n=>@OfNat.ofNat Rat n _,ad:=fun a b=>a+b,sb:=fun a b=>a-b,ml:=fun a b=>a*b,ng:=fun a=> -a,dv:=fun a n=>a / @OfNat.ofNat Rat n _,le:=fun a b=>a≤b,lt:=fun a b=>a<b,c:=fun a=>a,s:=true,d:=true,t:=false,c_lit:=fun o1_=>rfl,c_ad:=fun o1_ o2_=>rfl,c_ml:=fun o1_ o2_=>rfl,c_sb:=fun o1_ o2_ o3_=>rfl,c_ng:=fun o1_ o2_=>rfl,c_dv:=fun o1_ o2_ o3_=>rfl,c_le:=fun o1_ o2_=> .rfl,c_lt:=fun o1_ o2_=> .rfl,inj:=fun o1_ o2_ h=>h,c_t:=fun h=>(nomatch h)}
noncomputable def opI:Op Int:={lit:=fun n=>@OfNat.ofNat Int n _,ad:=fun a b=>a+b,sb:=fun a b=>a-b,ml:=fun a b=>a*b,ng:=fun a=> -a,dv:=fun a o1_=>a,le:=fun a b=>a≤b,lt:=fun a b=>a<b,c:=fun a=>a,s:=true,d:=false,t:=true,c_lit:=fun o1_=>rfl,c_ad:=Rat.intCast_add,c_ml:=Rat.intCast_mul,c_sb:=fun o1_=>Rat.intCast_sub,c_ng:=fun o1_=>Rat.intCast_neg,c_dv:=fun h=>(nomatch h),c_le:=fun o1_ o2_=>Rat.intCast_le_intCast.symm,c_lt:=fun o1_ o2_=>Rat.intCast_lt_intCast.symm,inj:=fun o1_ o2_=>Rat.intCast_inj.mp,c_t:=fun o1_ a b h=>(by
   have:a+1≤b:=Rat.intCast_lt_intCast.mp h
   exact_mod_cast this)}
noncomputable def opN:Op Nat:={lit:=fun n=>@OfNat.ofNat Nat n _,ad:=fun a b=>a+b,sb:=fun a b=>a,ml:=fun a b=>a*b,ng:=fun a=>a,dv:=fun a o1_=>a,le:=fun a b=>a≤b,lt:=fun a b=>a<b,c:=fun a=>a,s:=false,d:=false,t:=true,c_lit:=fun o1_=>rfl,c_ad:=Rat.natCast_add,c_ml:=Rat.natCast_mul,c_sb:=fun h=>(nomatch h),c_ng:=fun h=>(nomatch h),c_dv:=fun h=>(nomatch h),c_le:=fun o1_ o2_=>Rat.natCast_le_natCast.symm,c_lt:=fun o1_ o2_=>Rat.natCast_lt_natCast.symm,inj:=fun o1_ o2_=>Rat.natCast_inj.mp,c_t:=fun o1_ a b h=>(by
   have:a+1≤b:=Rat.natCast_lt_natCast.mp h
   exact_mod_cast this)}
noncomputable def kR(N:Nat):Bool:=chk true true false (prog N)
noncomputable def kI(N:Nat):Bool:=chk true false true (prog N)
noncomputable def kN(N:Nat):Bool:=chk false false true (prog N)
noncomputable def dR(N:Nat):Prop:=den (fun n=>@OfNat.ofNat Rat n _) (fun a b=>a+b) (fun a b=>a-b) (fun a b=>a*b) (fun a=> -a) (fun a n=>a / @OfNat.ofNat Rat n _) (fun a b=>a≤b) (fun a b=>a<b) (kR N=true) (prog N)
noncomputable def dI(N:Nat):Prop:=den (fun n=>@OfNat.ofNat Int n _) (fun a b=>a+b) (fun a b=>a-b) (fun a b=>a*b) (fun a=> -a) (fun a o1_=>a) (fun a b=>a≤b) (fun a b=>a<b) (kI N=true) (prog N)
noncomputable def dN(N:Nat):Prop:=den (fun n=>@OfNat.ofNat Nat n _) (fun a b=>a+b) (fun a o1_=>a) (fun a b=>a*b) (fun a=>a) (fun a o1_=>a) (fun a b=>a≤b) (fun a b=>a<b) (kN N=true) (prog N)
end Lc
theorem li(N:Nat):Lc.dR N:=Lc.li0 (o:=Lc.opR) _ fun h=>h
theorem lI(N:Nat):Lc.dI N:=Lc.li0 (o:=Lc.opI) _ fun h=>h
theorem lN(N:Nat):Lc.dN N:=Lc.li0 (o:=Lc.opN) _ fun h=>h
noncomputable abbrev pgm:Program:=PySem.Challenge.rw_qz0061_01.row.prog
noncomputable def pos0:Pos:=⟨0,0,0,0⟩
noncomputable def stm(k:Nat):Stmt:=(pgm.main.body.drop k).headD (.Pass pos0)
noncomputable def stc(i j:Nat):Stmt:=match stm i with
 |.ClassDef _ _ _ b .. =>(b.drop j).headD (.Pass pos0)
 |_=> .Pass pos0
noncomputable def fnO(st:Stmt)(qual:Str)(dfl mod:Value)(c:Addr):Obj:=match st with
 |.FunctionDef name args body _ _ _ scope _ _ _=>{cls:= .type "function",data:= .func {name:=name,qualname:=qual,params:=args,body:= .stmts body,scope:=scope,globals:=3,closure:=[],defaults:=dfl,kwdefaults:= .none,pyModule:=mod,code:= .ref c}}
 |_=>{cls:= .none,data:= .fields #[]}
noncomputable def pickAt:List Stmt→Nat→List Nat→List Stmt
 |[],_,_=>[]
 |s::r,k,out=>if out.elem k then pickAt r (k+1) out else s::pickAt r (k+1) out
noncomputable def f53:Obj:=fnO (stm 4) "common_divisor" (Value.none) (Value.str "outlinemill.exact" 234) 52
noncomputable def f61:Obj:=fnO (stm 5) "fraction" (Value.ref 54) (Value.str "outlinemill.exact" 234) 60
noncomputable def f68:Obj:=fnO (stm 6) "plus" (Value.none) (Value.str "outlinemill.exact" 234) 67
noncomputable def f75:Obj:=fnO (stm 7) "minus" (Value.none) (Value.str "outlinemill.exact" 234) 74
noncomputable def f82:Obj:=fnO (stm 8) "times" (Value.none) (Value.str "outlinemill.exact" 234) 81
noncomputable def f89:Obj:=fnO (stm 9) "divided" (Value.none) (Value.str "outlinemill.exact" 234) 88
noncomputable def f96:Obj:=fnO (stm 10) "negated" (Value.none) (Value.str "outlinemill.exact" 234) 95
noncomputable def f103:Obj:=fnO (stm 11) "absolute" (Value.none) (Value.str "outlinemill.exact" 234) 102
noncomputable def f110:Obj:=fnO (stm 12) "sign_of" (Value.none) (Value.str "outlinemill.exact" 234) 109
noncomputable def f117:Obj:=fnO (stm 13) "compare" (Value.none) (Value.str "outlinemill.exact" 234) 116
noncomputable def f124:Obj:=fnO (stm 14) "least" (Value.none) (Value.str "outlinemill.exact" 234) 123
noncomputable def f131:Obj:=fnO (stm 15) "floor_of" (Value.none) (Value.str "outlinemill.exact" 234) 130
noncomputable def f138:Obj:=fnO (stm 16) "rounded" (Value.none) (Value.str "outlinemill.exact" 234) 137
noncomputable def f145:Obj:=fnO (stm 17) "root_floor" (Value.none) (Value.str "outlinemill.exact" 234) 144
noncomputable def f154:Obj:=fnO (stm 25) "want_bottom" (Value.none) (Value.str "outlinemill.angles" 349) 153
noncomputable def f161:Obj:=fnO (stm 26) "scaled_radians" (Value.none) (Value.str "outlinemill.angles" 349) 160
noncomputable def f168:Obj:=fnO (stm 27) "series" (Value.none) (Value.str "outlinemill.angles" 349) 167
noncomputable def f175:Obj:=fnO (stm 28) "small_turn" (Value.none) (Value.str "outlinemill.angles" 349) 174
noncomputable def f182:Obj:=fnO (stm 29) "near" (Value.none) (Value.str "outlinemill.angles" 349) 181
noncomputable def f189:Obj:=fnO (stm 30) "quarter_turn" (Value.none) (Value.str "outlinemill.angles" 349) 188
noncomputable def f197:Obj:=fnO (stm 31) "turn_of" (Value.ref 190) (Value.str "outlinemill.angles" 349) 196
noncomputable def f205:Obj:=fnO (stm 35) "in_parts" (Value.ref 198) (Value.str "outlinemill.arcs" 446) 204
noncomputable def f212:Obj:=fnO (stm 36) "told_parts" (Value.none) (Value.str "outlinemill.arcs" 446) 211
noncomputable def f219:Obj:=fnO (stm 37) "turned" (Value.none) (Value.str "outlinemill.arcs" 446) 218
noncomputable def f226:Obj:=fnO (stm 38) "dot" (Value.none) (Value.str "outlinemill.arcs" 446) 225
noncomputable def f233:Obj:=fnO (stm 39) "cross" (Value.none) (Value.str "outlinemill.arcs" 446) 232
noncomputable def f247:Obj:=fnO (stc 40 0) "Ellipse.__init__" (Value.none) (Value.str "outlinemill.arcs" 446) 246
noncomputable def f254:Obj:=fnO (stc 40 1) "Ellipse.led" (Value.none) (Value.str "outlinemill.arcs" 446) 253
noncomputable def f261:Obj:=fnO (stc 40 2) "Ellipse.back" (Value.none) (Value.str "outlinemill.arcs" 446) 260
noncomputable def f275:Obj:=fnO (stm 41) "centre_of" (Value.none) (Value.str "outlinemill.arcs" 446) 274
noncomputable def f282:Obj:=fnO (stm 42) "is_within_quarter" (Value.none) (Value.str "outlinemill.arcs" 446) 281
noncomputable def f289:Obj:=fnO (stm 43) "quarter_on" (Value.none) (Value.str "outlinemill.arcs" 446) 288
noncomputable def f296:Obj:=fnO (stm 44) "handle_share" (Value.none) (Value.str "outlinemill.arcs" 446) 295
noncomputable def f303:Obj:=fnO (stm 45) "piece_of" (Value.none) (Value.str "outlinemill.arcs" 446) 302
noncomputable def f310:Obj:=fnO (stm 46) "vectors_of" (Value.none) (Value.str "outlinemill.arcs" 446) 309
noncomputable def f317:Obj:=fnO (stm 47) "straight" (Value.none) (Value.str "outlinemill.arcs" 446) 316
noncomputable def f322:Obj:=fnO (stm 48) "point_told" (Value.none) (Value.str "outlinemill.arcs" 446) 321
noncomputable def f327:Obj:=fnO (stm 49) "arc_cubics" (Value.none) (Value.str "outlinemill.arcs" 446) 326
noncomputable def f334:Obj:=fnO (stm 51) "_law_parts" (Value.none) (Value.str "law_qz0061_01" 642) 333
noncomputable def f341:Obj:=fnO (stm 52) "_law_pool" (Value.none) (Value.str "law_qz0061_01" 642) 340
noncomputable def f348:Obj:=fnO (stm 53) "_law_take" (Value.none) (Value.str "law_qz0061_01" 642) 347
noncomputable def f355:Obj:=fnO (stm 54) "_law_one" (Value.none) (Value.str "law_qz0061_01" 642) 354
noncomputable def f362:Obj:=fnO (stm 55) "_law_way" (Value.none) (Value.str "law_qz0061_01" 642) 361
noncomputable def f369:Obj:=fnO (stm 56) "_law_turned" (Value.none) (Value.str "law_qz0061_01" 642) 368
noncomputable def f374:Obj:=fnO (stm 57) "_law_led" (Value.none) (Value.str "law_qz0061_01" 642) 373
noncomputable def f381:Obj:=fnO (stm 58) "_law_back" (Value.none) (Value.str "law_qz0061_01" 642) 380
noncomputable def f388:Obj:=fnO (stm 59) "_law_dot" (Value.none) (Value.str "law_qz0061_01" 642) 387
noncomputable def f395:Obj:=fnO (stm 60) "_law_cross" (Value.none) (Value.str "law_qz0061_01" 642) 394
noncomputable def f400:Obj:=fnO (stm 61) "_law_on_circle" (Value.none) (Value.str "law_qz0061_01" 642) 399
noncomputable def f405:Obj:=fnO (stm 62) "_law_begins_right" (Value.none) (Value.str "law_qz0061_01" 642) 404
noncomputable def f412:Obj:=fnO (stm 63) "_law_many" (Value.none) (Value.str "law_qz0061_01" 642) 411
noncomputable def f417:Obj:=fnO (stm 64) "_law_arc_right" (Value.none) (Value.str "law_qz0061_01" 642) 416
noncomputable def f422:Obj:=fnO (stm 65) "_law_drawn_right" (Value.none) (Value.str "law_qz0061_01" 642) 421
noncomputable def f429:Obj:=fnO (stm 66) "_law_point" (Value.none) (Value.str "law_qz0061_01" 642) 428
noncomputable def f436:Obj:=fnO (stm 67) "_law_fixed_right" (Value.none) (Value.str "law_qz0061_01" 642) 435
noncomputable def f443:Obj:=fnO (stm 68) "law" (Value.none) (Value.str "law_qz0061_01" 642) 442
noncomputable def K:Params→Frag:=fun P=>
 (nat_lit 3,{cls:=Value.type "dict",data:=Data.dict #[{hash:=PyData.keyHash P "__name__",key:=Value.str "__name__" 165,val:=Value.str "law_qz0061_01" 642},{hash:=PyData.keyHash P "__doc__",key:=Value.str "__doc__" 166,val:=Value.none},{hash:=PyData.keyHash P "__package__",key:=Value.str "__package__" 167,val:=Value.none},{hash:=PyData.keyHash P "__loader__",key:=Value.str "__loader__" 168,val:=Value.builtin "__main__.__loader__#opaque" },{hash:=PyData.keyHash P "__spec__",key:=Value.str "__spec__" 169,val:=Value.none},{hash:=PyData.keyHash P "__annotations__",key:=Value.str "__annotations__" 170,val:=Value.ref 6},{hash:=PyData.keyHash P "__builtins__",key:=Value.str "__builtins__" 171,val:=Value.ref 4},{hash:=PyData.keyHash P "__file__",key:=Value.str "__file__" 173,val:=Value.str "/claim/cut.py" 172},{hash:=PyData.keyHash P "__cached__",key:=Value.str "__cached__" 174,val:=Value.none},{hash:=PyData.keyHash P "MillError",key:=Value.str "MillError" 217,val:=Value.ref 31},{hash:=PyData.keyHash P "NumberFault",key:=Value.str "NumberFault" 233,val:=Value.ref 44},{hash:=PyData.keyHash P "common_divisor",key:=Value.str "common_divisor" 245,val:=Value.ref 53},{hash:=PyData.keyHash P "fraction",key:=Value.str "fraction" 255,val:=Value.ref 61},{hash:=PyData.keyHash P "plus",key:=Value.str "plus" 263,val:=Value.ref 68},{hash:=PyData.keyHash P "minus",key:=Value.str "minus" 271,val:=Value.ref 75},{hash:=PyData.keyHash P "times",key:=Value.str "times" 279,val:=Value.ref 82},{hash:=PyData.keyHash P "divided",key:=Value.str "divided" 287,val:=Value.ref 89},{hash:=PyData.keyHash P "negated",key:=Value.str "negated" 294,val:=Value.ref 96},{hash:=PyData.keyHash P "absolute",key:=Value.str "absolute" 301,val:=Value.ref 103},{hash:=PyData.keyHash P "sign_of",key:=Value.str "sign_of" 308,val:=Value.ref 110},{hash:=PyData.keyHash P "compare",key:=Value.str "compare" 316,val:=Value.ref 117},{hash:=PyData.keyHash P "least",key:=Value.str "least" 325,val:=Value.ref 124},{hash:=PyData.keyHash P "floor_of",key:=Value.str "floor_of" 332,val:=Value.ref 131},{hash:=PyData.keyHash P "rounded",key:=Value.str "rounded" 339,val:=Value.ref 138},{hash:=PyData.keyHash P "root_floor",key:=Value.str "root_floor" 348,val:=Value.ref 145},{hash:=PyData.keyHash P "PI_TOP",key:=Value.str "PI_TOP" 352,val:=Value.int 314159265358979323846264338327950288419716939937510 351},{hash:=PyData.keyHash P "PI_BOTTOM",key:=Value.str "PI_BOTTOM" 356,val:=Value.int 100000000000000000000000000000000000000000000000000 355},{hash:=PyData.keyHash P "MORE",key:=Value.str "MORE" 360,val:=Value.int 65536 359},{hash:=PyData.keyHash P "MOST_BOTTOM",key:=Value.str "MOST_BOTTOM" 364,val:=Value.int 10000000000000000000000000000000000000000 363},{hash:=PyData.keyHash P "RIGHT",key:=Value.str "RIGHT" 367,val:=Value.ref 146},{hash:=PyData.keyHash P "HALF_RIGHT",key:=Value.str "HALF_RIGHT" 370,val:=Value.ref 147},{hash:=PyData.keyHash P "want_bottom",key:=Value.str "want_bottom" 377,val:=Value.ref 154},{hash:=PyData.keyHash P "scaled_radians",key:=Value.str "scaled_radians" 385,val:=Value.ref 161},{hash:=PyData.keyHash P "series",key:=Value.str "series" 398,val:=Value.ref 168},{hash:=PyData.keyHash P "small_turn",key:=Value.str "small_turn" 411,val:=Value.ref 175},{hash:=PyData.keyHash P "near",key:=Value.str "near" 420,val:=Value.ref 182},{hash:=PyData.keyHash P "quarter_turn",key:=Value.str "quarter_turn" 431,val:=Value.ref 189},{hash:=PyData.keyHash P "turn_of",key:=Value.str "turn_of" 445,val:=Value.ref 197},{hash:=PyData.keyHash P "PARTS",key:=Value.str "PARTS" 449,val:=Value.int 1152921504606846976 448},{hash:=PyData.keyHash P "TOLD",key:=Value.str "TOLD" 451,val:=Value.int 1048576 450},{hash:=PyData.keyHash P "in_parts",key:=Value.str "in_parts" 459,val:=Value.ref 205},{hash:=PyData.keyHash P "told_parts",key:=Value.str "told_parts" 469,val:=Value.ref 212},{hash:=PyData.keyHash P "turned",key:=Value.str "turned" 476,val:=Value.ref 219},{hash:=PyData.keyHash P "dot",key:=Value.str "dot" 484,val:=Value.ref 226},{hash:=PyData.keyHash P "cross",key:=Value.str "cross" 492,val:=Value.ref 233},{hash:=PyData.keyHash P "Ellipse",key:=Value.str "Ellipse" 548,val:=Value.ref 264},{hash:=PyData.keyHash P "centre_of",key:=Value.str "centre_of" 564,val:=Value.ref 275},{hash:=PyData.keyHash P "is_within_quarter",key:=Value.str "is_within_quarter" 574,val:=Value.ref 282},{hash:=PyData.keyHash P "quarter_on",key:=Value.str "quarter_on" 582,val:=Value.ref 289},{hash:=PyData.keyHash P "handle_share",key:=Value.str "handle_share" 593,val:=Value.ref 296},{hash:=PyData.keyHash P "piece_of",key:=Value.str "piece_of" 606,val:=Value.ref 303},{hash:=PyData.keyHash P "vectors_of",key:=Value.str "vectors_of" 617,val:=Value.ref 310},{hash:=PyData.keyHash P "straight",key:=Value.str "straight" 629,val:=Value.ref 317},{hash:=PyData.keyHash P "point_told",key:=Value.str "point_told" 635,val:=Value.ref 322},{hash:=PyData.keyHash P "arc_cubics",key:=Value.str "arc_cubics" 641,val:=Value.ref 327},{hash:=PyData.keyHash P "_law_parts",key:=Value.str "_law_parts" 649,val:=Value.ref 334},{hash:=PyData.keyHash P "_law_pool",key:=Value.str "_law_pool" 660,val:=Value.ref 341},{hash:=PyData.keyHash P "_law_take",key:=Value.str "_law_take" 669,val:=Value.ref 348},{hash:=PyData.keyHash P "_law_one",key:=Value.str "_law_one" 677,val:=Value.ref 355},{hash:=PyData.keyHash P "_law_way",key:=Value.str "_law_way" 686,val:=Value.ref 362},{hash:=PyData.keyHash P "_law_turned",key:=Value.str "_law_turned" 695,val:=Value.ref 369},{hash:=PyData.keyHash P "_law_led",key:=Value.str "_law_led" 701,val:=Value.ref 374},{hash:=PyData.keyHash P "_law_back",key:=Value.str "_law_back" 716,val:=Value.ref 381},{hash:=PyData.keyHash P "_law_dot",key:=Value.str "_law_dot" 724,val:=Value.ref 388},{hash:=PyData.keyHash P "_law_cross",key:=Value.str "_law_cross" 732,val:=Value.ref 395},{hash:=PyData.keyHash P "_law_on_circle",key:=Value.str "_law_on_circle" 738,val:=Value.ref 400},{hash:=PyData.keyHash P "_law_begins_right",key:=Value.str "_law_begins_right" 744,val:=Value.ref 405},{hash:=PyData.keyHash P "_law_many",key:=Value.str "_law_many" 755,val:=Value.ref 412},{hash:=PyData.keyHash P "_law_arc_right",key:=Value.str "_law_arc_right" 761,val:=Value.ref 417},{hash:=PyData.keyHash P "_law_drawn_right",key:=Value.str "_law_drawn_right" 767,val:=Value.ref 422},{hash:=PyData.keyHash P "_law_point",key:=Value.str "_law_point" 775,val:=Value.ref 429},{hash:=PyData.keyHash P "_law_fixed_right",key:=Value.str "_law_fixed_right" 788,val:=Value.ref 436},{hash:=PyData.keyHash P "law",key:=Value.str "law" 805,val:=Value.ref 443}] 73}) ::
 (nat_lit 52,{cls:=Value.type "code",data:=Data.fields #[Value.str "common_divisor" 236,Value.str "common_divisor" 237,Value.str "/claim/cut.py" 238,Value.int 9 0,Value.int 2 0,Value.int 0 0,Value.int 0 0,Value.int 3 0,Value.ref 47,Value.bool true,Value.int 181 0,Value.ref 48,Value.none,Value.ref 49,Value.ref 50,Value.ref 51,Value.int 243 0,Value.int 9 0,Value.str "/claim/cut.py" 244]}) ::
 (nat_lit 53,f53) ::
 (nat_lit 54,{cls:=Value.type "tuple",data:=Data.seq #[Value.int 1 246]}) ::
 (nat_lit 60,{cls:=Value.type "code",data:=Data.fields #[Value.str "fraction" 247,Value.str "fraction" 248,Value.str "/claim/cut.py" 249,Value.int 14 0,Value.int 2 0,Value.int 0 0,Value.int 0 0,Value.int 3 0,Value.ref 55,Value.bool true,Value.int 181 0,Value.ref 56,Value.none,Value.ref 57,Value.ref 58,Value.ref 59,Value.int 253 0,Value.int 14 0,Value.str "/claim/cut.py" 254]}) ::
 (nat_lit 61,f61) ::
 (nat_lit 67,{cls:=Value.type "code",data:=Data.fields #[Value.str "plus" 256,Value.str "plus" 257,Value.str "/claim/cut.py" 258,Value.int 21 0,Value.int 2 0,Value.int 0 0,Value.int 0 0,Value.int 3 0,Value.ref 62,Value.bool true,Value.int 181 0,Value.ref 63,Value.none,Value.ref 64,Value.ref 65,Value.ref 66,Value.int 261 0,Value.int 21 0,Value.str "/claim/cut.py" 262]}) ::
 (nat_lit 68,f68) ::
 (nat_lit 74,{cls:=Value.type "code",data:=Data.fields #[Value.str "minus" 264,Value.str "minus" 265,Value.str "/claim/cut.py" 266,Value.int 23 0,Value.int 2 0,Value.int 0 0,Value.int 0 0,Value.int 3 0,Value.ref 69,Value.bool true,Value.int 181 0,Value.ref 70,Value.none,Value.ref 71,Value.ref 72,Value.ref 73,Value.int 269 0,Value.int 23 0,Value.str "/claim/cut.py" 270]}) ::
 (nat_lit 75,f75) ::
 (nat_lit 81,{cls:=Value.type "code",data:=Data.fields #[Value.str "times" 272,Value.str "times" 273,Value.str "/claim/cut.py" 274,Value.int 25 0,Value.int 2 0,Value.int 0 0,Value.int 0 0,Value.int 3 0,Value.ref 76,Value.bool true,Value.int 181 0,Value.ref 77,Value.none,Value.ref 78,Value.ref 79,Value.ref 80,Value.int 277 0,Value.int 25 0,Value.str "/claim/cut.py" 278]}) ::
 (nat_lit 82,f82) ::
 (nat_lit 88,{cls:=Value.type "code",data:=Data.fields #[Value.str "divided" 280,Value.str "divided" 281,Value.str "/claim/cut.py" 282,Value.int 27 0,Value.int 2 0,Value.int 0 0,Value.int 0 0,Value.int 3 0,Value.ref 83,Value.bool true,Value.int 181 0,Value.ref 84,Value.none,Value.ref 85,Value.ref 86,Value.ref 87,Value.int 285 0,Value.int 27 0,Value.str "/claim/cut.py" 286]}) ::
 (nat_lit 89,f89) ::
 (nat_lit 95,{cls:=Value.type "code",data:=Data.fields #[Value.str "negated" 288,Value.str "negated" 289,Value.str "/claim/cut.py" 290,Value.int 31 0,Value.int 1 0,Value.int 0 0,Value.int 0 0,Value.int 3 0,Value.ref 90,Value.bool true,Value.int 181 0,Value.ref 91,Value.none,Value.ref 92,Value.ref 93,Value.ref 94,Value.int 292 0,Value.int 31 0,Value.str "/claim/cut.py" 293]}) ::
 (nat_lit 96,f96) ::
 (nat_lit 102,{cls:=Value.type "code",data:=Data.fields #[Value.str "absolute" 295,Value.str "absolute" 296,Value.str "/claim/cut.py" 297,Value.int 33 0,Value.int 1 0,Value.int 0 0,Value.int 0 0,Value.int 3 0,Value.ref 97,Value.bool true,Value.int 181 0,Value.ref 98,Value.none,Value.ref 99,Value.ref 100,Value.ref 101,Value.int 299 0,Value.int 33 0,Value.str "/claim/cut.py" 300]}) ::
 (nat_lit 103,f103) ::
 (nat_lit 109,{cls:=Value.type "code",data:=Data.fields #[Value.str "sign_of" 302,Value.str "sign_of" 303,Value.str "/claim/cut.py" 304,Value.int 35 0,Value.int 1 0,Value.int 0 0,Value.int 0 0,Value.int 3 0,Value.ref 104,Value.bool true,Value.int 181 0,Value.ref 105,Value.none,Value.ref 106,Value.ref 107,Value.ref 108,Value.int 306 0,Value.int 35 0,Value.str "/claim/cut.py" 307]}) ::
 (nat_lit 110,f110) ::
 (nat_lit 116,{cls:=Value.type "code",data:=Data.fields #[Value.str "compare" 309,Value.str "compare" 310,Value.str "/claim/cut.py" 311,Value.int 41 0,Value.int 2 0,Value.int 0 0,Value.int 0 0,Value.int 3 0,Value.ref 111,Value.bool true,Value.int 181 0,Value.ref 112,Value.none,Value.ref 113,Value.ref 114,Value.ref 115,Value.int 314 0,Value.int 41 0,Value.str "/claim/cut.py" 315]}) ::
 (nat_lit 117,f117) ::
 (nat_lit 123,{cls:=Value.type "code",data:=Data.fields #[Value.str "least" 317,Value.str "least" 318,Value.str "/claim/cut.py" 319,Value.int 43 0,Value.int 1 0,Value.int 0 0,Value.int 0 0,Value.int 3 0,Value.ref 118,Value.bool true,Value.int 181 0,Value.ref 119,Value.none,Value.ref 120,Value.ref 121,Value.ref 122,Value.int 323 0,Value.int 43 0,Value.str "/claim/cut.py" 324]}) ::
 (nat_lit 124,f124) ::
 (nat_lit 130,{cls:=Value.type "code",data:=Data.fields #[Value.str "floor_of" 326,Value.str "floor_of" 327,Value.str "/claim/cut.py" 328,Value.int 49 0,Value.int 1 0,Value.int 0 0,Value.int 0 0,Value.int 3 0,Value.ref 125,Value.bool true,Value.int 181 0,Value.ref 126,Value.none,Value.ref 127,Value.ref 128,Value.ref 129,Value.int 330 0,Value.int 49 0,Value.str "/claim/cut.py" 331]}) ::
 (nat_lit 131,f131) ::
 (nat_lit 137,{cls:=Value.type "code",data:=Data.fields #[Value.str "rounded" 333,Value.str "rounded" 334,Value.str "/claim/cut.py" 335,Value.int 51 0,Value.int 1 0,Value.int 0 0,Value.int 0 0,Value.int 3 0,Value.ref 132,Value.bool true,Value.int 181 0,Value.ref 133,Value.none,Value.ref 134,Value.ref 135,Value.ref 136,Value.int 337 0,Value.int 51 0,Value.str "/claim/cut.py" 338]}) ::
 (nat_lit 138,f138) ::
 (nat_lit 144,{cls:=Value.type "code",data:=Data.fields #[Value.str "root_floor" 340,Value.str "root_floor" 341,Value.str "/claim/cut.py" 342,Value.int 53 0,Value.int 1 0,Value.int 0 0,Value.int 0 0,Value.int 3 0,Value.ref 139,Value.bool true,Value.int 181 0,Value.ref 140,Value.none,Value.ref 141,Value.ref 142,Value.ref 143,Value.int 346 0,Value.int 53 0,Value.str "/claim/cut.py" 347]}) ::
 (nat_lit 145,f145) ::
 (nat_lit 146,{cls:=Value.type "tuple",data:=Data.seq #[Value.int 90 365,Value.int 1 366]}) ::
 (nat_lit 147,{cls:=Value.type "tuple",data:=Data.seq #[Value.int 45 368,Value.int 1 369]}) ::
 (nat_lit 153,{cls:=Value.type "code",data:=Data.fields #[Value.str "want_bottom" 371,Value.str "want_bottom" 372,Value.str "/claim/cut.py" 373,Value.int 73 0,Value.int 1 0,Value.int 0 0,Value.int 0 0,Value.int 3 0,Value.ref 148,Value.bool true,Value.int 181 0,Value.ref 149,Value.none,Value.ref 150,Value.ref 151,Value.ref 152,Value.int 375 0,Value.int 73 0,Value.str "/claim/cut.py" 376]}) ::
 (nat_lit 154,f154) ::
 (nat_lit 160,{cls:=Value.type "code",data:=Data.fields #[Value.str "scaled_radians" 378,Value.str "scaled_radians" 379,Value.str "/claim/cut.py" 380,Value.int 76 0,Value.int 2 0,Value.int 0 0,Value.int 0 0,Value.int 3 0,Value.ref 155,Value.bool true,Value.int 181 0,Value.ref 156,Value.none,Value.ref 157,Value.ref 158,Value.ref 159,Value.int 383 0,Value.int 76 0,Value.str "/claim/cut.py" 384]}) ::
 (nat_lit 161,f161) ::
 (nat_lit 167,{cls:=Value.type "code",data:=Data.fields #[Value.str "series" 386,Value.str "series" 387,Value.str "/claim/cut.py" 388,Value.int 78 0,Value.int 4 0,Value.int 0 0,Value.int 0 0,Value.int 3 0,Value.ref 162,Value.bool true,Value.int 181 0,Value.ref 163,Value.none,Value.ref 164,Value.ref 165,Value.ref 166,Value.int 396 0,Value.int 78 0,Value.str "/claim/cut.py" 397]}) ::
 (nat_lit 168,f168) ::
 (nat_lit 174,{cls:=Value.type "code",data:=Data.fields #[Value.str "small_turn" 399,Value.str "small_turn" 400,Value.str "/claim/cut.py" 401,Value.int 85 0,Value.int 2 0,Value.int 0 0,Value.int 0 0,Value.int 3 0,Value.ref 169,Value.bool true,Value.int 181 0,Value.ref 170,Value.none,Value.ref 171,Value.ref 172,Value.ref 173,Value.int 409 0,Value.int 85 0,Value.str "/claim/cut.py" 410]}) ::
 (nat_lit 175,f175) ::
 (nat_lit 181,{cls:=Value.type "code",data:=Data.fields #[Value.str "near" 412,Value.str "near" 413,Value.str "/claim/cut.py" 414,Value.int 91 0,Value.int 3 0,Value.int 0 0,Value.int 0 0,Value.int 3 0,Value.ref 176,Value.bool true,Value.int 181 0,Value.ref 177,Value.none,Value.ref 178,Value.ref 179,Value.ref 180,Value.int 418 0,Value.int 91 0,Value.str "/claim/cut.py" 419]}) ::
 (nat_lit 182,f182) ::
 (nat_lit 188,{cls:=Value.type "code",data:=Data.fields #[Value.str "quarter_turn" 421,Value.str "quarter_turn" 422,Value.str "/claim/cut.py" 423,Value.int 93 0,Value.int 2 0,Value.int 0 0,Value.int 0 0,Value.int 3 0,Value.ref 183,Value.bool true,Value.int 181 0,Value.ref 184,Value.none,Value.ref 185,Value.ref 186,Value.ref 187,Value.int 429 0,Value.int 93 0,Value.str "/claim/cut.py" 430]}) ::
 (nat_lit 189,f189) ::
 (nat_lit 190,{cls:=Value.type "tuple",data:=Data.seq #[Value.int 65536 432]}) ::
 (nat_lit 196,{cls:=Value.type "code",data:=Data.fields #[Value.str "turn_of" 433,Value.str "turn_of" 434,Value.str "/claim/cut.py" 435,Value.int 102 0,Value.int 2 0,Value.int 0 0,Value.int 0 0,Value.int 3 0,Value.ref 191,Value.bool true,Value.int 181 0,Value.ref 192,Value.none,Value.ref 193,Value.ref 194,Value.ref 195,Value.int 443 0,Value.int 102 0,Value.str "/claim/cut.py" 444]}) ::
 (nat_lit 197,f197) ::
 (nat_lit 198,{cls:=Value.type "tuple",data:=Data.seq #[Value.int 1152921504606846976 448]}) ::
 (nat_lit 204,{cls:=Value.type "code",data:=Data.fields #[Value.str "in_parts" 452,Value.str "in_parts" 453,Value.str "/claim/cut.py" 454,Value.int 115 0,Value.int 2 0,Value.int 0 0,Value.int 0 0,Value.int 3 0,Value.ref 199,Value.bool true,Value.int 181 0,Value.ref 200,Value.none,Value.ref 201,Value.ref 202,Value.ref 203,Value.int 457 0,Value.int 115 0,Value.str "/claim/cut.py" 458]}) ::
 (nat_lit 205,f205) ::
 (nat_lit 211,{cls:=Value.type "code",data:=Data.fields #[Value.str "told_parts" 460,Value.str "told_parts" 461,Value.str "/claim/cut.py" 462,Value.int 117 0,Value.int 2 0,Value.int 0 0,Value.int 0 0,Value.int 3 0,Value.ref 206,Value.bool true,Value.int 181 0,Value.ref 207,Value.none,Value.ref 208,Value.ref 209,Value.ref 210,Value.int 467 0,Value.int 117 0,Value.str "/claim/cut.py" 468]}) ::
 (nat_lit 212,f212) ::
 (nat_lit 218,{cls:=Value.type "code",data:=Data.fields #[Value.str "turned" 470,Value.str "turned" 471,Value.str "/claim/cut.py" 472,Value.int 122 0,Value.int 1 0,Value.int 0 0,Value.int 0 0,Value.int 3 0,Value.ref 213,Value.bool true,Value.int 181 0,Value.ref 214,Value.none,Value.ref 215,Value.ref 216,Value.ref 217,Value.int 474 0,Value.int 122 0,Value.str "/claim/cut.py" 475]}) ::
 (nat_lit 219,f219) ::
 (nat_lit 225,{cls:=Value.type "code",data:=Data.fields #[Value.str "dot" 477,Value.str "dot" 478,Value.str "/claim/cut.py" 479,Value.int 124 0,Value.int 2 0,Value.int 0 0,Value.int 0 0,Value.int 3 0,Value.ref 220,Value.bool true,Value.int 181 0,Value.ref 221,Value.none,Value.ref 222,Value.ref 223,Value.ref 224,Value.int 482 0,Value.int 124 0,Value.str "/claim/cut.py" 483]}) ::
 (nat_lit 226,f226) ::
 (nat_lit 232,{cls:=Value.type "code",data:=Data.fields #[Value.str "cross" 485,Value.str "cross" 486,Value.str "/claim/cut.py" 487,Value.int 126 0,Value.int 2 0,Value.int 0 0,Value.int 0 0,Value.int 3 0,Value.ref 227,Value.bool true,Value.int 181 0,Value.ref 228,Value.none,Value.ref 229,Value.ref 230,Value.ref 231,Value.int 490 0,Value.int 126 0,Value.str "/claim/cut.py" 491]}) ::
 (nat_lit 233,f233) ::
 (nat_lit 246,{cls:=Value.type "code",data:=Data.fields #[Value.str "__init__" 505,Value.str "Ellipse.__init__" 506,Value.str "/claim/cut.py" 507,Value.int 130 0,Value.int 4 0,Value.int 0 0,Value.int 0 0,Value.int 3 0,Value.ref 241,Value.bool true,Value.int 181 0,Value.ref 242,Value.none,Value.ref 243,Value.ref 244,Value.ref 245,Value.int 514 0,Value.int 130 0,Value.str "/claim/cut.py" 515]}) ::
 (nat_lit 247,f247) ::
 (nat_lit 253,{cls:=Value.type "code",data:=Data.fields #[Value.str "led" 517,Value.str "Ellipse.led" 518,Value.str "/claim/cut.py" 519,Value.int 137 0,Value.int 2 0,Value.int 0 0,Value.int 0 0,Value.int 3 0,Value.ref 248,Value.bool true,Value.int 181 0,Value.ref 249,Value.none,Value.ref 250,Value.ref 251,Value.ref 252,Value.int 524 0,Value.int 137 0,Value.str "/claim/cut.py" 525]}) ::
 (nat_lit 254,f254) ::
 (nat_lit 260,{cls:=Value.type "code",data:=Data.fields #[Value.str "back" 527,Value.str "Ellipse.back" 528,Value.str "/claim/cut.py" 529,Value.int 141 0,Value.int 2 0,Value.int 0 0,Value.int 0 0,Value.int 3 0,Value.ref 255,Value.bool true,Value.int 181 0,Value.ref 256,Value.none,Value.ref 257,Value.ref 258,Value.ref 259,Value.int 534 0,Value.int 141 0,Value.str "/claim/cut.py" 535]}) ::
 (nat_lit 261,f261) ::
 (nat_lit 263,{cls:=Value.type "dict",data:=Data.dict #[{hash:=PyData.keyHash P "__module__",key:=Value.str "__module__" 500,val:=Value.str "outlinemill.arcs" 446},{hash:=PyData.keyHash P "__firstlineno__",key:=Value.str "__firstlineno__" 504,val:=Value.int 128 503},{hash:=PyData.keyHash P "__init__",key:=Value.str "__init__" 516,val:=Value.ref 247},{hash:=PyData.keyHash P "led",key:=Value.str "led" 526,val:=Value.ref 254},{hash:=PyData.keyHash P "back",key:=Value.str "back" 536,val:=Value.ref 261},{hash:=PyData.keyHash P "__static_attributes__",key:=Value.str "__static_attributes__" 541,val:=Value.ref 262},{hash:=PyData.keyHash P "__dict__",key:=Value.str "__dict__" 543,val:=Value.ref 265},{hash:=PyData.keyHash P "__weakref__",key:=Value.str "__weakref__" 545,val:=Value.ref 266},{hash:=PyData.keyHash P "__doc__",key:=Value.str "__doc__" 546,val:=Value.none}] 4}) ::
 (nat_lit 264,{cls:=Value.type "type",data:=Data.cls {name:=Str.ofString "Ellipse",bases:=[Value.type "object"],mro:=[Value.ref 264,Value.type "object"],ns:=263,qualname:=Str.ofString "Ellipse" },slots:=#[none,none,some (Value.str "Ellipse" 493),some (Value.str "Ellipse" 501),some (Value.builtin "object.__new__"),some (Value.bool true)]}) ::
 (nat_lit 274,{cls:=Value.type "code",data:=Data.fields #[Value.str "centre_of" 549,Value.str "centre_of" 550,Value.str "/claim/cut.py" 551,Value.int 144 0,Value.int 4 0,Value.int 0 0,Value.int 0 0,Value.int 3 0,Value.ref 269,Value.bool true,Value.int 181 0,Value.ref 270,Value.none,Value.ref 271,Value.ref 272,Value.ref 273,Value.int 562 0,Value.int 144 0,Value.str "/claim/cut.py" 563]}) ::
 (nat_lit 275,f275) ::
 (nat_lit 281,{cls:=Value.type "code",data:=Data.fields #[Value.str "is_within_quarter" 565,Value.str "is_within_quarter" 566,Value.str "/claim/cut.py" 567,Value.int 155 0,Value.int 3 0,Value.int 0 0,Value.int 0 0,Value.int 3 0,Value.ref 276,Value.bool true,Value.int 181 0,Value.ref 277,Value.none,Value.ref 278,Value.ref 279,Value.ref 280,Value.int 572 0,Value.int 155 0,Value.str "/claim/cut.py" 573]}) ::
 (nat_lit 282,f282) ::
 (nat_lit 288,{cls:=Value.type "code",data:=Data.fields #[Value.str "quarter_on" 575,Value.str "quarter_on" 576,Value.str "/claim/cut.py" 577,Value.int 158 0,Value.int 2 0,Value.int 0 0,Value.int 0 0,Value.int 3 0,Value.ref 283,Value.bool true,Value.int 181 0,Value.ref 284,Value.none,Value.ref 285,Value.ref 286,Value.ref 287,Value.int 580 0,Value.int 158 0,Value.str "/claim/cut.py" 581]}) ::
 (nat_lit 289,f289) ::
 (nat_lit 295,{cls:=Value.type "code",data:=Data.fields #[Value.str "handle_share" 583,Value.str "handle_share" 584,Value.str "/claim/cut.py" 585,Value.int 160 0,Value.int 2 0,Value.int 0 0,Value.int 0 0,Value.int 3 0,Value.ref 290,Value.bool true,Value.int 181 0,Value.ref 291,Value.none,Value.ref 292,Value.ref 293,Value.ref 294,Value.int 591 0,Value.int 160 0,Value.str "/claim/cut.py" 592]}) ::
 (nat_lit 296,f296) ::
 (nat_lit 302,{cls:=Value.type "code",data:=Data.fields #[Value.str "piece_of" 594,Value.str "piece_of" 595,Value.str "/claim/cut.py" 596,Value.int 165 0,Value.int 3 0,Value.int 0 0,Value.int 0 0,Value.int 3 0,Value.ref 297,Value.bool true,Value.int 181 0,Value.ref 298,Value.none,Value.ref 299,Value.ref 300,Value.ref 301,Value.int 604 0,Value.int 165 0,Value.str "/claim/cut.py" 605]}) ::
 (nat_lit 303,f303) ::
 (nat_lit 309,{cls:=Value.type "code",data:=Data.fields #[Value.str "vectors_of" 607,Value.str "vectors_of" 608,Value.str "/claim/cut.py" 609,Value.int 170 0,Value.int 3 0,Value.int 0 0,Value.int 0 0,Value.int 3 0,Value.ref 304,Value.bool true,Value.int 181 0,Value.ref 305,Value.none,Value.ref 306,Value.ref 307,Value.ref 308,Value.int 615 0,Value.int 170 0,Value.str "/claim/cut.py" 616]}) ::
 (nat_lit 310,f310) ::
 (nat_lit 316,{cls:=Value.type "code",data:=Data.fields #[Value.str "straight" 618,Value.str "straight" 619,Value.str "/claim/cut.py" 620,Value.int 177 0,Value.int 2 0,Value.int 0 0,Value.int 0 0,Value.int 3 0,Value.ref 311,Value.bool true,Value.int 181 0,Value.ref 312,Value.none,Value.ref 313,Value.ref 314,Value.ref 315,Value.int 627 0,Value.int 177 0,Value.str "/claim/cut.py" 628]}) ::
 (nat_lit 317,f317) ::
 (nat_lit 321,{cls:=Value.type "code",data:=Data.fields #[Value.str "point_told" 630,Value.str "point_told" 631,Value.str "/claim/cut.py" 632,Value.int 183 0,Value.int 5 0,Value.int 0 0,Value.int 0 0,Value.int 3 0,Value.ref 318,Value.bool true,Value.int 181 0,Value.ref 319,Value.none,Value.none,Value.none,Value.ref 320,Value.int 633 0,Value.int 183 0,Value.str "/claim/cut.py" 634]}) ::
 (nat_lit 322,f322) ::
 (nat_lit 326,{cls:=Value.type "code",data:=Data.fields #[Value.str "arc_cubics" 636,Value.str "arc_cubics" 637,Value.str "/claim/cut.py" 638,Value.int 187 0,Value.int 7 0,Value.int 0 0,Value.int 0 0,Value.int 3 0,Value.ref 323,Value.bool true,Value.int 181 0,Value.ref 324,Value.none,Value.none,Value.none,Value.ref 325,Value.int 639 0,Value.int 187 0,Value.str "/claim/cut.py" 640]}) ::
 (nat_lit 327,f327) ::
 (nat_lit 333,{cls:=Value.type "code",data:=Data.fields #[Value.str "_law_parts" 644,Value.str "_law_parts" 645,Value.str "/claim/cut.py" 646,Value.int 210 0,Value.int 0 0,Value.int 0 0,Value.int 0 0,Value.int 3 0,Value.ref 328,Value.bool true,Value.int 181 0,Value.ref 329,Value.none,Value.ref 330,Value.ref 331,Value.ref 332,Value.int 647 0,Value.int 210 0,Value.str "/claim/cut.py" 648]}) ::
 (nat_lit 334,f334) ::
 (nat_lit 340,{cls:=Value.type "code",data:=Data.fields #[Value.str "_law_pool" 650,Value.str "_law_pool" 651,Value.str "/claim/cut.py" 652,Value.int 212 0,Value.int 2 0,Value.int 0 0,Value.int 0 0,Value.int 3 0,Value.ref 335,Value.bool true,Value.int 181 0,Value.ref 336,Value.none,Value.ref 337,Value.ref 338,Value.ref 339,Value.int 658 0,Value.int 212 0,Value.str "/claim/cut.py" 659]}) ::
 (nat_lit 341,f341) ::
 (nat_lit 347,{cls:=Value.type "code",data:=Data.fields #[Value.str "_law_take" 661,Value.str "_law_take" 662,Value.str "/claim/cut.py" 663,Value.int 217 0,Value.int 2 0,Value.int 0 0,Value.int 0 0,Value.int 3 0,Value.ref 342,Value.bool true,Value.int 181 0,Value.ref 343,Value.none,Value.ref 344,Value.ref 345,Value.ref 346,Value.int 667 0,Value.int 217 0,Value.str "/claim/cut.py" 668]}) ::
 (nat_lit 348,f348) ::
 (nat_lit 354,{cls:=Value.type "code",data:=Data.fields #[Value.str "_law_one" 670,Value.str "_law_one" 671,Value.str "/claim/cut.py" 672,Value.int 224 0,Value.int 2 0,Value.int 0 0,Value.int 0 0,Value.int 3 0,Value.ref 349,Value.bool true,Value.int 181 0,Value.ref 350,Value.none,Value.ref 351,Value.ref 352,Value.ref 353,Value.int 675 0,Value.int 224 0,Value.str "/claim/cut.py" 676]}) ::
 (nat_lit 355,f355) ::
 (nat_lit 361,{cls:=Value.type "code",data:=Data.fields #[Value.str "_law_way" 678,Value.str "_law_way" 679,Value.str "/claim/cut.py" 680,Value.int 226 0,Value.int 2 0,Value.int 0 0,Value.int 0 0,Value.int 3 0,Value.ref 356,Value.bool true,Value.int 181 0,Value.ref 357,Value.none,Value.ref 358,Value.ref 359,Value.ref 360,Value.int 684 0,Value.int 226 0,Value.str "/claim/cut.py" 685]}) ::
 (nat_lit 362,f362) ::
 (nat_lit 368,{cls:=Value.type "code",data:=Data.fields #[Value.str "_law_turned" 687,Value.str "_law_turned" 688,Value.str "/claim/cut.py" 689,Value.int 229 0,Value.int 2 0,Value.int 0 0,Value.int 0 0,Value.int 3 0,Value.ref 363,Value.bool true,Value.int 181 0,Value.ref 364,Value.none,Value.ref 365,Value.ref 366,Value.ref 367,Value.int 693 0,Value.int 229 0,Value.str "/claim/cut.py" 694]}) ::
 (nat_lit 369,f369) ::
 (nat_lit 373,{cls:=Value.type "code",data:=Data.fields #[Value.str "_law_led" 696,Value.str "_law_led" 697,Value.str "/claim/cut.py" 698,Value.int 232 0,Value.int 3 0,Value.int 0 0,Value.int 0 0,Value.int 3 0,Value.ref 370,Value.bool true,Value.int 181 0,Value.ref 371,Value.none,Value.none,Value.none,Value.ref 372,Value.int 699 0,Value.int 232 0,Value.str "/claim/cut.py" 700]}) ::
 (nat_lit 374,f374) ::
 (nat_lit 380,{cls:=Value.type "code",data:=Data.fields #[Value.str "_law_back" 702,Value.str "_law_back" 703,Value.str "/claim/cut.py" 704,Value.int 234 0,Value.int 3 0,Value.int 0 0,Value.int 0 0,Value.int 3 0,Value.ref 375,Value.bool true,Value.int 181 0,Value.ref 376,Value.none,Value.ref 377,Value.ref 378,Value.ref 379,Value.int 714 0,Value.int 234 0,Value.str "/claim/cut.py" 715]}) ::
 (nat_lit 381,f381) ::
 (nat_lit 387,{cls:=Value.type "code",data:=Data.fields #[Value.str "_law_dot" 717,Value.str "_law_dot" 718,Value.str "/claim/cut.py" 719,Value.int 240 0,Value.int 2 0,Value.int 0 0,Value.int 0 0,Value.int 3 0,Value.ref 382,Value.bool true,Value.int 181 0,Value.ref 383,Value.none,Value.ref 384,Value.ref 385,Value.ref 386,Value.int 722 0,Value.int 240 0,Value.str "/claim/cut.py" 723]}) ::
 (nat_lit 388,f388) ::
 (nat_lit 394,{cls:=Value.type "code",data:=Data.fields #[Value.str "_law_cross" 725,Value.str "_law_cross" 726,Value.str "/claim/cut.py" 727,Value.int 242 0,Value.int 2 0,Value.int 0 0,Value.int 0 0,Value.int 3 0,Value.ref 389,Value.bool true,Value.int 181 0,Value.ref 390,Value.none,Value.ref 391,Value.ref 392,Value.ref 393,Value.int 730 0,Value.int 242 0,Value.str "/claim/cut.py" 731]}) ::
 (nat_lit 395,f395) ::
 (nat_lit 399,{cls:=Value.type "code",data:=Data.fields #[Value.str "_law_on_circle" 733,Value.str "_law_on_circle" 734,Value.str "/claim/cut.py" 735,Value.int 244 0,Value.int 1 0,Value.int 0 0,Value.int 0 0,Value.int 3 0,Value.ref 396,Value.bool true,Value.int 181 0,Value.ref 397,Value.none,Value.none,Value.none,Value.ref 398,Value.int 736 0,Value.int 244 0,Value.str "/claim/cut.py" 737]}) ::
 (nat_lit 400,f400) ::
 (nat_lit 404,{cls:=Value.type "code",data:=Data.fields #[Value.str "_law_begins_right" 739,Value.str "_law_begins_right" 740,Value.str "/claim/cut.py" 741,Value.int 252 0,Value.int 4 0,Value.int 0 0,Value.int 0 0,Value.int 3 0,Value.ref 401,Value.bool true,Value.int 181 0,Value.ref 402,Value.none,Value.none,Value.none,Value.ref 403,Value.int 742 0,Value.int 252 0,Value.str "/claim/cut.py" 743]}) ::
 (nat_lit 405,f405) ::
 (nat_lit 411,{cls:=Value.type "code",data:=Data.fields #[Value.str "_law_many" 745,Value.str "_law_many" 746,Value.str "/claim/cut.py" 747,Value.int 259 0,Value.int 3 0,Value.int 0 0,Value.int 0 0,Value.int 3 0,Value.ref 406,Value.bool true,Value.int 181 0,Value.ref 407,Value.none,Value.ref 408,Value.ref 409,Value.ref 410,Value.int 753 0,Value.int 259 0,Value.str "/claim/cut.py" 754]}) ::
 (nat_lit 412,f412) ::
 (nat_lit 416,{cls:=Value.type "code",data:=Data.fields #[Value.str "_law_arc_right" 756,Value.str "_law_arc_right" 757,Value.str "/claim/cut.py" 758,Value.int 266 0,Value.int 7 0,Value.int 0 0,Value.int 0 0,Value.int 3 0,Value.ref 413,Value.bool true,Value.int 181 0,Value.ref 414,Value.none,Value.none,Value.none,Value.ref 415,Value.int 759 0,Value.int 266 0,Value.str "/claim/cut.py" 760]}) ::
 (nat_lit 417,f417) ::
 (nat_lit 421,{cls:=Value.type "code",data:=Data.fields #[Value.str "_law_drawn_right" 762,Value.str "_law_drawn_right" 763,Value.str "/claim/cut.py" 764,Value.int 283 0,Value.int 1 0,Value.int 0 0,Value.int 0 0,Value.int 3 0,Value.ref 418,Value.bool true,Value.int 181 0,Value.ref 419,Value.none,Value.none,Value.none,Value.ref 420,Value.int 765 0,Value.int 283 0,Value.str "/claim/cut.py" 766]}) ::
 (nat_lit 422,f422) ::
 (nat_lit 428,{cls:=Value.type "code",data:=Data.fields #[Value.str "_law_point" 768,Value.str "_law_point" 769,Value.str "/claim/cut.py" 770,Value.int 298 0,Value.int 2 0,Value.int 0 0,Value.int 0 0,Value.int 3 0,Value.ref 423,Value.bool true,Value.int 181 0,Value.ref 424,Value.none,Value.ref 425,Value.ref 426,Value.ref 427,Value.int 773 0,Value.int 298 0,Value.str "/claim/cut.py" 774]}) ::
 (nat_lit 429,f429) ::
 (nat_lit 435,{cls:=Value.type "code",data:=Data.fields #[Value.str "_law_fixed_right" 776,Value.str "_law_fixed_right" 777,Value.str "/claim/cut.py" 778,Value.int 300 0,Value.int 0 0,Value.int 0 0,Value.int 0 0,Value.int 3 0,Value.ref 430,Value.bool true,Value.int 181 0,Value.ref 431,Value.none,Value.ref 432,Value.ref 433,Value.ref 434,Value.int 786 0,Value.int 300 0,Value.str "/claim/cut.py" 787]}) ::
 (nat_lit 436,f436) ::
 (nat_lit 442,{cls:=Value.type "code",data:=Data.fields #[Value.str "law" 789,Value.str "law" 790,Value.str "/claim/cut.py" 791,Value.int 308 0,Value.int 1 0,Value.int 0 0,Value.int 0 0,Value.int 3 0,Value.ref 437,Value.bool true,Value.int 181 0,Value.ref 438,Value.none,Value.ref 439,Value.ref 440,Value.ref 441,Value.int 803 0,Value.int 308 0,Value.str "/claim/cut.py" 804]}) ::
 (nat_lit 443,f443)::[]
noncomputable def Kas:List Addr:=[3,52,53,54,60,61,67,68,74,75,81,82,88,89,95,96,102,103,109,110,116,117,123,124,130,131,137,138,144,145,146,147,153,154,160,161,167,168,174,175,181,182,188,189,190,196,197,198,204,205,211,212,218,219,225,226,232,233,246,247,253,254,260,261,263,264,274,275,281,282,288,289,295,296,302,303,309,310,316,317,321,322,326,327,333,334,340,341,347,348,354,355,361,362,368,369,373,374,380,381,387,388,394,395,399,400,404,405,411,412,416,417,421,422,428,429,435,436,442,443]
noncomputable def view:Program:={pgm with main:={pgm.main with body:=pickAt pgm.main.body 0 [0,3,5,18,31,32,35,50]}}
noncomputable abbrev loos:List Str:=[Str.ofString "fraction",Str.ofString "PI_BOTTOM",Str.ofString "MORE",Str.ofString "MOST_BOTTOM",Str.ofString "turn_of",Str.ofString "in_parts"]
noncomputable def toTreeGo:List Obj→BT→Nat→Option BT
 |[],t,_=>some t
 |o::r,t,n=>match((t.ins n o).get n).isSome with
  |true=>toTreeGo r (t.ins n o) (n+1)
  |false=>none
theorem toTreeGo_abs(life:Life):∀(l:List Obj) (t t':BT) (n:Nat),toTreeGo l t n=some t'→absHeap t' (n+l.length) life=⟨(absHeap t n life).objs++l.toArray,life⟩
 |[],t,t',n,h=>by
  cases h
  simp[absHeap]
 |o::r,t,t',n,h=>by
  unfold toTreeGo at h
  cases hg:((t.ins n o).get n).isSome with
  |false=>rw[hg] at h;cases h
  |true=>
   rw[hg] at h
   have:=toTreeGo_abs life r _ _ _ h
   rw[absHeap_ins hg] at this
   rw[show n+(o::r).length=n+1+r.length by simp;exact lN 0xf3a104208f84108e0a1322,this]
   simp[Heap.push]
theorem toTree_abs{h:Heap}{t:BT}(e:toTreeGo h.objs.toList .nil 0=some t):absHeap t h.objs.size h.life=h:=by
 have:=toTreeGo_abs h.life _ _ _ _ e
 rw[Nat.zero_add] at this
 rw[show h.objs.size=h.objs.toList.length by simp,this]
 cases h
 simp[absHeap,BT.list]
section
variable {β:Type}
noncomputable def evalAll(tG:(String→Option Builtin)→Program→World→Nat→Option Value→Nat→Shared→Thread→Option (Shared×Thread))
  (sR:(String→Option Builtin)→Program→World→Nat→Option Value→Nat→Nat→Shared→Thread→Option (Flow×Shared×Code×Pos))
  (sT:(String→Option Builtin)→Program→World→Nat→Option Value→Nat→Nat→SharedT→Thread→Option (Flow×SharedT×Code×Pos))
  (tR:(String→Option Builtin)→Program→World→Nat→Option Value→Nat→Shared→Thread→Option Shared)
  (bs:List Stmt→Env→Sem Unit)(ex:List Stmt→Env→Sem Flow)(tb:String→Option Builtin)(p:Program)(n₀:Nat)(ann:Option Value)(a b c d:Nat)(bd:List Stmt)(env:Env)(cd:Code)(look:Shared→β)(w:World)(os:OsState):
  Option (Thread×Flow×Code×Flow×Code×β):=
 match tG tb p w n₀ ann a ⟨boot_heap w.params,Array.mk [],boot_drawn,boot_toks,os⟩ (topStub p) with
 |none=>none
 |some (s1,t1)=>match sR tb p w n₀ ann 1 b s1 ⟨(bs bd env).wrap (fun o1_=>doneF .next) deadEnd id id,cd,pos0,[topFrame pos0]⟩ with
  |none=>none
  |some (f1,s2,c1,p1)=>match toTreeGo s2.heap.objs.toList .nil 0 with
   |none=>none
   |some t=>match sT tb p w n₀ ann 1 c ⟨t,s2.heap.objs.size,s2.heap.life,s2.gens,s2.drawn,s2.toks,s2.os⟩ ⟨(ex bd env).wrap doneF deadEnd id id,cd,p1,[topFrame pos0]⟩ with
    |none=>none
    |some (f3,s3,c3,p3)=>match tR tb p w n₀ ann d s3.abs ⟨doneF .next,cd,p3,[topFrame pos0]⟩ with
     |none=>none
     |some s4=>some (t1,f1,c1,f3,c3,look s4)
set_option tactic.hygienic true in
theorem evalAll_top{p:Program}{n₀:Nat}{ann:Option Value}{a b c d:Nat}{bd:List Stmt}{env:Env}{look:Shared→β}{w:World}{os:OsState}{g:β}
  (h:evalAll topGo segRun segRunT topRun blockStart execs treeTable p n₀ ann a b c d bd env (.body bd env) look w os=some (⟨denote treeTable (.body bd env),.body bd env,pos0,[topFrame pos0]⟩,.next,.body bd env,.next,.body bd env,g)):
  ∃s,topRun treeTable p w n₀ ann (a+(b+(c+d))) ⟨boot_heap w.params,Array.mk [],boot_drawn,boot_toks,os⟩ (topStub p)=some s∧look s=g:=by
 unfold evalAll at h
 split at h
 ·cases h
 ·rename_i s1 t1 h1
  split at h
  ·cases h
  ·rename_i f1 s2 c1 p1 h2
   split at h
   ·cases h
   ·rename_i t ht
    split at h
    ·cases h
    ·rename_i f3 s3 c3 p3 h3
     split at h
     ·cases h
     ·rename_i s4 h4
      simp only[Option.some.injEq,Prod.mk.injEq] at h
      obtain⟨rfl,rfl,rfl,rfl,rfl,rfl⟩:=h
      refine⟨s4,go_top h1 (piece_block h2 ?_),rfl⟩
      have e3:=segRun_of h3
      have es:(SharedT.abs ⟨t,s2.heap.objs.size,s2.heap.life,s2.gens,s2.drawn,s2.toks,s2.os⟩)=s2:=by
       unfold SharedT.abs
       rw[toTree_abs ht]
      rw[es] at e3
      have:=piece_app (rest:=[]) e3 (piece_nil h4)
      rwa [List.append_nil] at this
end
noncomputable def q1{A B C D T S:Type}(t:Bool)(y:S)(o:A×B×C×D×T):Bool×S×T:=(t,y,o.2.2.2.2)
noncomputable def q2{A B C D T:Type}(o:A×B×C×D×T):A×B×C×D:=(o.1,o.2.1,o.2.2.1,o.2.2.2.1)
theorem q_all{A B C D T S:Type}{t t':Bool}{y y':S}{o g:A×B×C×D×T}(h1:q1 t y o=q1 t' y' g)(h2:q2 o=q2 g):t=t'∧o=g∧y=y':=
 ⟨congrArg (·.1) h1,Prod.ext (congrArg (·.1) h2) (Prod.ext (congrArg (·.2.1) h2) (Prod.ext (congrArg (·.2.2.1) h2) (Prod.ext (congrArg (·.2.2.2) h2) (congrArg (·.2.2) h1)))),congrArg (·.2.1) h1⟩
noncomputable def RL{β:Type}(p:Program)(m₀:Nat)(ann:Option Value)(a b c d:Nat)(bd:List Stmt)(env:Env)(lk:World→Shared→β)(g:World→β):Prop:=
 ∀w:World,(fun os=>evalAll topGo segRun segRunT topRun blockStart execs treeTable p m₀ ann a b c d bd env (.body bd env) (lk w) w os) =
  fun o1_=>some (⟨denote treeTable (.body bd env),.body bd env,pos0,[topFrame pos0]⟩,.next,.body bd env,.next,.body bd env,g w)
theorem left_one{p q:Program}{loose:List Str}{Xt:Shared→Bool}{α:Type}{Yf:Shared→α}{Ya:World→α}{N:Nat}{m₀:Nat}{ann:Option Value}{a b c d:Nat}{bd:List Stmt}{env:Env}
  (open_:∀w:World,(fencedOpening treeTable p w N).map (fun s=>(s.heap,s.gens,s.drawn,s.toks))=some (boot_heap w.params,Array.mk [],boot_drawn,boot_toks))
  (size:∀w:World,((boot_heap w.params).isNs mainGlobals&&(Array.mk ([]:List GenState)).size==0,(boot_heap w.params).objs.size,(boot_heap w.params).nsMap mainGlobals "__annotations__")=(true,m₀,ann))
  (le:Nat.ble (a+(b+(c+d))) N=true)
  (r1:RL p m₀ ann a b c d bd env (fun w s=>q1 (staticsOk (importedModules p.main.body) (boot_heap w.params) s.heap&&namesBound p s.heap&&gensDone s&&laidKept (boot_heap w.params) s.heap) (Yf s) (openSeen q loose (importedModules p.main.body) Xt true s)) fun w=>(true,Ya w,pinGoodD (drecsOf q),plainGoodE q (looseW q loose),plainGoodD q loose,wideGood q,clsGoodW q loose))
  (r2:RL p m₀ ann a b c d bd env (fun o1_ s=>q2 (openSeen q loose (importedModules p.main.body) Xt true s)) fun o1_=>(expectedOf q,bltViewBooted,true,true)):LeftO p q loose Xt Yf Ya N true:=fun w=>by
 obtain⟨⟨h,gs,d',k,os⟩,e,e'⟩:=Option.map_eq_some_iff.mp (open_ w)
 obtain⟨rfl,rfl,rfl,rfl⟩:h=boot_heap w.params∧gs=Array.mk []∧d'=boot_drawn∧k=boot_toks:=by simpa using e'
 obtain⟨z1,z2,z3⟩:_∧_∧_:=by simpa only[Prod.mk.injEq] using size w
 obtain⟨s,hr,h1⟩:=evalAll_top (congrFun (r1 w) os)
 obtain⟨s',hr',h2⟩:=evalAll_top (congrFun (r2 w) os)
 cases Option.some.inj (hr.symm.trans hr')
 obtain⟨l1,l2,l3⟩:=q_all (g:=openGood q loose) h1 h2
 have r:=topRun_mono (N-(a+(b+(c+d)))) _ _ _ _ hr
 rw[Nat.add_sub_cancel' (Nat.le_of_ble_eq_true le)] at r
 have t:topFrom treeTable p w N ⟨boot_heap w.params,Array.mk [],boot_drawn,boot_toks,os⟩=some s:=by
  unfold topFrom
  dsimp only
  rw[z1,z2,z3,r]
  show(match staticsOk (importedModules p.main.body) (boot_heap w.params) s.heap&&namesBound p s.heap&&gensDone s&&laidKept (boot_heap w.params) s.heap with |true=>_ |false=>_)=_
  rw[l1]
 unfold openEnds
 rw[e]
 show(topFrom treeTable p w N _).map _=_
 rw[t]
 exact congrArg some (Prod.ext l2 l3)
noncomputable abbrev lits:List (Str×WData):=[("PI_BOTTOM",WData.int 100000000000000000000000000000000000000000000000000),
        ("MORE",WData.int 65536),
        ("MOST_BOTTOM",WData.int 10000000000000000000000000000000000000000)]
noncomputable def hook:Hook:=kHook K Kas (fun o1_=>rfl)
noncomputable def topEnv:Env:={scope:=pgm.main.scope,locals:=mainNs,globals:=mainNs,cells:=[],code:=Value.ref 13,frame:=some 14}
noncomputable def runX{γ β:Type}(lk:World→(List Stmt→List Str)→Shared→γ→β)(sn:Program→List Str→List Str→(Shared→Bool)→Bool→Shared→γ)(im:List Stmt→List Str)
  (tG:(String→Option Builtin)→Program→World→Nat→Option Value→Nat→Shared→Thread→Option (Shared×Thread))
  (sR:(String→Option Builtin)→Program→World→Nat→Option Value→Nat→Nat→Shared→Thread→Option (Flow×Shared×Code×Pos))
  (sT:(String→Option Builtin)→Program→World→Nat→Option Value→Nat→Nat→SharedT→Thread→Option (Flow×SharedT×Code×Pos))
  (tR:(String→Option Builtin)→Program→World→Nat→Option Value→Nat→Shared→Thread→Option Shared)
  (bs:List Stmt→Env→Sem Unit)(ex:List Stmt→Env→Sem Flow)(dn:(String→Option Builtin)→Code→Sem Fin)(tb:String→Option Builtin)(good:World→β):Prop:=
 ∀(w:World),(fun os=>evalAll tG sR sT tR bs ex tb pgm 11 (some (Value.ref 6)) 12 1 3000 2 (behindTheImports pgm) topEnv (.body (behindTheImports pgm) topEnv) (fun s=>lk w im s (sn view loos (im pgm.main.body) (fun s=>xlAt view lits s&&recOk PySem.Challenge.rw_qz0061_01.row.records s) true s)) w os) =
   fun o1_=>some (⟨dn tb (.body (behindTheImports pgm) topEnv),.body (behindTheImports pgm) topEnv,pos0,[topFrame pos0]⟩,.next,.body (behindTheImports pgm) topEnv,.next,.body (behindTheImports pgm) topEnv,good w)
noncomputable abbrev RQ{β:Type}(lk)(good:World→β):=runX lk PySem.W.Fast.tw4187177175401517315 PySem.W.Fast.tw5923862056798008813 PySem.W.Fast.tw15667345088766844465 PySem.W.Fast.tw14374325043358763698 PySem.W.Fast.tw10110043849684766642 PySem.W.Fast.tw14082659384304107361 PySem.W.Fast.tw1066825118222455980 PySem.W.Fast.tw12563942051412417395 PySem.W.Fast.tw11892475500146522536 PySem.W.Fast.tw14364793385576792824 good
theorem runQ1:RQ (fun w im s o=>q1 (staticsOk (im pgm.main.body) (boot_heap w.params) s.heap&&namesBound pgm s.heap&&gensDone s&&laidKept (boot_heap w.params) s.heap) (hook.obs s) o) (fun w=>(true,hook.val w,pinGoodD (drecsOf view),plainGoodE view (looseW view loos),plainGoodD view loos,wideGood view,clsGoodW view loos)):=by
 intro w
 kernel_rfl
theorem runQ2:RQ (fun o1_ o2_ o3_ o=>q2 o) (fun o1_=>(expectedOf view,bltViewBooted,true,true)):=by
 intro w
 kernel_rfl
theorem runO{β:Type}{lk}{good:World→β}(h:RQ lk good):runX lk openSeen importedModules topGo segRun segRunT topRun blockStart execs denote treeTable good:=by
 rw[PySem.W.Fast.te4187177175401517315,PySem.W.Fast.te5923862056798008813,PySem.W.Fast.te15667345088766844465,PySem.W.Fast.te14374325043358763698,PySem.W.Fast.te10110043849684766642,PySem.W.Fast.te14082659384304107361,PySem.W.Fast.te1066825118222455980,PySem.W.Fast.te12563942051412417395,PySem.W.Fast.te11892475500146522536,PySem.W.Fast.te14364793385576792824]
 exact h
theorem leftO:LeftO pgm view loos (fun s=>xlAt view lits s&&recOk PySem.Challenge.rw_qz0061_01.row.records s) hook.obs hook.val 5166 true:=
 have k1:=runO runQ1
 have k2:=runO runQ2
 left_one (boot_open (by kernel_rfl) (by decide) (fun s=>by kernel_rfl)) (fun w=>by kernel_rfl) (by decide) k1 k2
noncomputable abbrev Pr:=Int×Int
noncomputable abbrev Pt:=Pr×Pr
noncomputable def gcdI(a b:Int):Int:=(Int.gcd a b:Nat)
noncomputable def frac(t b:Int):Pr:=(t.fdiv (gcdI t b),b.fdiv (gcdI t b))
noncomputable def plusF(a b:Pr):Pr:=frac (a.1*b.2+b.1*a.2) (a.2*b.2)
noncomputable def minusF(a b:Pr):Pr:=frac (a.1*b.2-b.1*a.2) (a.2*b.2)
noncomputable def timesF(a b:Pr):Pr:=frac (a.1*b.1) (a.2*b.2)
noncomputable def signI(x:Int):Int:=if 0<x then 1 else if x<0 then -1 else 0
noncomputable def compareF(a b:Pr):Int:=signI (a.1*b.2-b.1*a.2)
noncomputable def roundedF(a:Pr):Int:=(2*a.1+a.2).fdiv (2*a.2)
noncomputable def absI(a:Int):Int:=if a<0 then -a else a
noncomputable def leastF(a b:Pr):Pr:=if compareF b a<0 then b else a
noncomputable def rootGo:Nat→Nat→Nat
 | 0,_=>0
 |k+1,n=>if(2*rootGo k (n/4)+1)*(2*rootGo k (n/4)+1)≤n then 2*rootGo k (n/4)+1 else 2*rootGo k (n/4)
noncomputable def rootI(n:Int):Int:=(rootGo (n.toNat.log2/2+1) n.toNat:Nat)
theorem rootGo_spec:∀(k n:Nat),n<4^k→rootGo k n*rootGo k n≤n∧n<(rootGo k n+1)*(rootGo k n+1)
 | 0,n,h=>by
  have:n=0:=by simpa using h
  subst this;simp[rootGo]
 |k+1,n,h=>by
  have ih:=rootGo_spec k (n/4) (by rw[Nat.pow_succ] at h;omega)
  unfold rootGo
  generalize rootGo k (n/4)=r at ih
  have e:n/4*4≤n:=Nat.div_mul_le_self n 4
  have e2:n<(n/4+1)*4:=by rw[Nat.mul_comm];exact Nat.lt_mul_div_succ n (by decide)
  have a1:(r+1)*(r+1)=r*r+2*r+1:=lN 0xe84108e84108438e12204e1028410a1321
  have a2:(2*r)*(2*r)=4*(r*r):=lN 0x88138488138412404e384121321
  have a3:(2*r+1)*(2*r+1)=4*(r*r)+4*r+1:=lN 0x8813848410a204e12104212404e38412404e1028410a1321
  have a4:(2*r+1+1)*(2*r+1+1)=4*(r*r)+8*r+4:=lN 0x8813848410a10428813848410a104212404e38412804e1029010a1321
  split
  ·rename_i hc
   rw[a3] at hc ⊢
   rw[a4]
   exact⟨lN 0x2404f3c412404f10284108e8479013cf1049013c40a10423a12a2 hc,lN 0x3908410a404484840f84108f8410849083a404f3c412804f1029010a12e3 ih.2 e2⟩
  ·rename_i hc
   rw[a3] at hc ⊢
   rw[a2]
   exact⟨lN 0xf90110e84741010f9079014101043a12a3 ih.1 e,lN 0xf90138e1049013840a10428483e404e38412404e1028410a12e2 (Nat.not_le.mp hc)⟩
theorem rootI_spec{n:Int}(h:0≤n):0≤rootI n∧rootI n*rootI n≤n∧n<(rootI n+1)*(rootI n+1):=by
 have hl:n.toNat<4^(n.toNat.log2/2+1):=by
  have h1:n.toNat<2^(n.toNat.log2+1):=Nat.lt_log2_self
  have h2:(4:Nat)^(n.toNat.log2/2+1)=2^(2*(n.toNat.log2/2+1)):=by rw[Nat.pow_mul]
  rw[h2]
  exact Nat.lt_of_lt_of_le h1 (Nat.pow_le_pow_right (by decide) (Nat.lt_mul_div_succ _ (by decide)))
 have:=rootGo_spec _ _ hl
 unfold rootI
 generalize rootGo (n.toNat.log2/2+1) n.toNat=r at this
 obtain⟨a,b⟩:=this
 refine⟨by exact lI 0x13a11c13a12a1 (Int.natCast_nonneg _),?_,?_⟩
 ·have:((r*r:Nat):Int)≤n:=(Int.le_toNat h).mp a
  simpa using this
 ·have:n<(((r+1)*(r+1):Nat):Int):=(Int.toNat_lt h).mp b
  simpa using this
theorem sq_lt_sq{a b:Int}(ha:0≤a)(hb:0≤b)(h:a*a<b*b):a<b:=by
 rcases Int.lt_or_le a b with h1 |h1
 ·exact h1
 ·have:=Int.mul_le_mul h1 h1 hb ha
  exact lI 0x38e10f3c48473cf10e3848483ce2e2 h this
theorem root_unique{n r:Int}(hn:0≤n)(h0:0≤r)(h1:r*r≤n)(h2:n<(r+1)*(r+1)):r=rootI n:=by
 obtain⟨a,b,c⟩:=rootI_spec hn
 have h3:=sq_lt_sq h0 (show 0≤rootI n+1 from lI 0x38f84108f8410848483cf10e84704f8410a22a2 b c) (by exact lI 0xf3a10423a10421212104043e11d04043a10423a10421212e3 h1 c)
 have h4:=sq_lt_sq a (show 0≤r+1 from lI 0x38f84108f8410848483cf10e84704f8410a22a2 h1 h2) (by exact lI 0xe3844211d03e10423e104212120e3843e10423e10421212e3 h2 b)
 exact Int.le_antisymm (lI 0x3ce8410a120f3a12a2 h3) (lI 0x3ce8410a120f3a12a2 h4)
noncomputable def PARTS:Int:=1152921504606846976
noncomputable def TOLD:Int:=1048576
noncomputable def PITOP:Int:=314159265358979323846264338327950288419716939937510
noncomputable def PIBOT:Int:=100000000000000000000000000000000000000000000000000
noncomputable def radiansF(d:Pr)(scale:Int):Int:=(d.1*PITOP*scale).fdiv (180*d.2*PIBOT)
noncomputable def seriesGo:Nat→Int→Int→Int→Int→Int→Option Int
 | 0,_,_,_,_,_=>none
 |k+1,sq,sc,total,term,step=>if term=0 then some total else seriesGo k sq sc (total+term) (-(((term*sq).fdiv sc).fdiv (step*(step+1)))) (step+2)
noncomputable def nearF(number scale bottom:Int):Pr:=frac (roundedF (frac (number*bottom) scale)) bottom
noncomputable def smallF(d:Pr)(bottom:Int):Option (Int×Int):=
 match seriesGo 200 ((radiansF d (bottom*65536)*radiansF d (bottom*65536)).fdiv (bottom*65536)) (bottom*65536) 0 (bottom*65536) 1,
  seriesGo 200 ((radiansF d (bottom*65536)*radiansF d (bottom*65536)).fdiv (bottom*65536)) (bottom*65536) 0 (radiansF d (bottom*65536)) 2 with
 |some c,some s=>some (c,s)
 |_,_=>none
noncomputable def inPartsF(a:Pr)(parts:Int):Int:=roundedF (a.1*parts,a.2)
noncomputable def toldGo:Nat→Int→Int→Int→Int
 | 0,_,_,t=>t
 |k+1,r0,r1,t=>if r0*t<r1*TOLD then toldGo k r0 r1 (t*2) else t
noncomputable def toldF(rx ry:Pr):Int:=toldGo 64 (leastF (absI rx.1,rx.2) (absI ry.1,ry.2)).1 (leastF (absI rx.1,rx.2) (absI ry.1,ry.2)).2 TOLD
noncomputable def turnedV(v:Pr):Pr:=(0-v.2,v.1)
noncomputable def dotI(v w:Pr):Int:=v.1*w.1+v.2*w.2
noncomputable def crossI(v w:Pr):Int:=v.1*w.2-v.2*w.1
set_option genInjectivity false in
structure El where
 rx:Int
 ry:Int
 c:Int
 s:Int
noncomputable def ledF(e:El)(v:Pr):Pr:=
 ((e.c*(v.1*e.rx).fdiv PARTS-e.s*(v.2*e.ry).fdiv PARTS).fdiv PARTS,(e.s*(v.1*e.rx).fdiv PARTS+e.c*(v.2*e.ry).fdiv PARTS).fdiv PARTS)
noncomputable def backF(e:El)(v:Pr):Pr:=((e.c*v.1+e.s*v.2).fdiv e.rx,(e.c*v.2-e.s*v.1).fdiv e.ry)
noncomputable def sizeF(q:Pr):Int:=dotI (q.1-0,q.2-0) (q.1-0,q.2-0)
noncomputable def shareF(q:Pr)(large sweep:Bool):Int:=
 if large=sweep then 0-rootI (((4*PARTS*PARTS-sizeF q)*PARTS*PARTS).fdiv (sizeF q)) else rootI (((4*PARTS*PARTS-sizeF q)*PARTS*PARTS).fdiv (sizeF q))
noncomputable def centreF(q:Pr)(large sweep:Bool):Pr:=
 if sizeF q<4*PARTS*PARTS then
  ((0+q.1).fdiv 2+(shareF q large sweep*(turnedV (q.1-0,q.2-0)).1).fdiv (2*PARTS),(0+q.2).fdiv 2+(shareF q large sweep*(turnedV (q.1-0,q.2-0)).2).fdiv (2*PARTS))
 else((0+q.1).fdiv 2,(0+q.2).fdiv 2)
noncomputable def withinF(v w:Pr)(sweep:Bool):Bool:=decide (0≤(if sweep then crossI v w else crossI w v))&&decide (0≤dotI v w)
noncomputable def quarterOn(v:Pr)(sweep:Bool):Pr:=if sweep then turnedV v else(v.2,0-v.1)
noncomputable def halfSine(v w:Pr):Int:=rootI ((dotI (w.1-v.1,w.2-v.2) (w.1-v.1,w.2-v.2)*PARTS*PARTS).fdiv (4*dotI v v))
noncomputable def halfCosine(v w:Pr):Int:=rootI (if PARTS*PARTS-halfSine v w*halfSine v w>0 then PARTS*PARTS-halfSine v w*halfSine v w else 0)
noncomputable def handleF(v w:Pr):Int:=(4*halfSine v w*PARTS).fdiv (3*(PARTS+halfCosine v w))
noncomputable def pieceF(v w:Pr)(sweep:Bool):Pr×Pr:=
 ((v.1+(handleF v w*(quarterOn v sweep).1).fdiv PARTS,v.2+(handleF v w*(quarterOn v sweep).2).fdiv PARTS),
  (w.1-(handleF v w*(quarterOn w sweep).1).fdiv PARTS,w.2-(handleF v w*(quarterOn w sweep).2).fdiv PARTS))
noncomputable def vecGo:Nat→Pr→Pr→Bool→List Pr
 | 0,v,_,_=>[v]
 |k+1,v,w,sweep=>if withinF v w sweep then[v] else v::vecGo k (quarterOn v sweep) w sweep
noncomputable def vectorsF(v w:Pr)(sweep:Bool):List Pr:=vecGo 3 v w sweep++[w]
noncomputable def MANY:Int:=1099511627776
noncomputable def pointF(e:El)(centre vector:Pr)(p:Pt)(told:Int):Pt:=
 let place:=ledF e (centre.1+vector.1,centre.2+vector.2)
 (plusF p.1 (frac (roundedF (place.1,MANY)) told),plusF p.2 (frac (roundedF (place.2,MANY)) told))
noncomputable abbrev Cv:=Pt×Pt×Pt×Pt
noncomputable def curvesGo(e:El)(centre:Pr)(p q:Pt)(told:Int)(sweep:Bool):Pt→List Pr→List Cv
 |here,v::w::r=>
  let inner:=pieceF v w sweep
  let there:=if r=[] then q else pointF e centre w p told
  (here,pointF e centre inner.1 p told,pointF e centre inner.2 p told,there)::curvesGo e centre p q told sweep there (w::r)
 |_,_=>[]
section
variable {e:El} {K:Pr} {p q here:Pt} {T:Int} {sw:Bool} {v w:Pr} {r:List Pr}
theorem cg0:curvesGo e K p q T sw here []=[]:=rfl
theorem cg1:curvesGo e K p q T sw here [v]=[]:=rfl
theorem cg2:curvesGo e K p q T sw here (v::w::r)=(here,pointF e K (pieceF v w sw).1 p T,pointF e K (pieceF v w sw).2 p T,if r=[] then q else pointF e K w p T)::curvesGo e K p q T sw (if r=[] then q else pointF e K w p T) (w::r):=rfl
end
noncomputable def backC(x b r:Pr):Int:=((x.1*b.2-b.1*x.2)*r.2*1000000000).fdiv (x.2*b.2*r.1)
noncomputable def backL(p radii0 radii1:Pr×Pr):Pr:=(backC p.1 radii1.1 radii0.1,backC p.2 radii1.2 radii0.2)
noncomputable def wayF(m n:Int):Pt:=(frac (n*n-m*m) (n*n+m*m),frac (2*m*n) (n*n+m*m))
noncomputable def turnF(v w:Pt):Pt:=(minusF (timesF v.1 w.1) (timesF v.2 w.2),plusF (timesF v.1 w.2) (timesF v.2 w.1))
noncomputable def ledL(v radii centre:Pt):Pt:=(plusF centre.1 (timesF v.1 radii.1),plusF centre.2 (timesF v.2 radii.2))
noncomputable def wsum(w0 w1 w2 w3 a b c d:Int):Int:=w0*a+w1*b+w2*c+w3*d
noncomputable def BIG:Int:=4096000000000000000000
noncomputable def circOk(w0 w1 w2 w3 off:Int)(a b c d:Pr):Prop:=
 absI (wsum w0 w1 w2 w3 a.1 b.1 c.1 d.1*wsum w0 w1 w2 w3 a.1 b.1 c.1 d.1+wsum w0 w1 w2 w3 a.2 b.2 c.2 d.2*wsum w0 w1 w2 w3 a.2 b.2 c.2 d.2-BIG)*off≤BIG
structure OnCircle(a b c d:Pr):Prop where
 k0:circOk 64 0 0 0 160000 a b c d
 k1:circOk 27 27 9 1 500 a b c d
 k2:circOk 8 24 24 8 500 a b c d
 k3:circOk 1 9 27 27 500 a b c d
 k4:circOk 0 0 0 64 160000 a b c d
structure Begins(here inner there:Pr)(sense:Int):Prop where
 dot:absI (dotI (inner.1-here.1,inner.2-here.2) here)≤6000000000000
 cross: -6000000000000≤crossI here (inner.1-here.1,inner.2-here.2)*sense
 far:4*dotI (inner.1-here.1,inner.2-here.2) (inner.1-here.1,inner.2-here.2)≤dotI (there.1-here.1,there.2-here.2) (there.1-here.1,there.2-here.2)+24000*(absI (there.1-here.1)+absI (there.2-here.2)+6000)
structure CvOk(radii centre:Pt)(sense:Int)(cv:Cv):Prop where
 circ:OnCircle (backL cv.1 radii centre) (backL cv.2.1 radii centre) (backL cv.2.2.1 radii centre) (backL cv.2.2.2 radii centre)
 beg:Begins (backL cv.1 radii centre) (backL cv.2.1 radii centre) (backL cv.2.2.2 radii centre) sense
 fin:Begins (backL cv.2.2.2 radii centre) (backL cv.2.2.1 radii centre) (backL cv.1 radii centre) (0-sense)
structure Bd(x a:Rat):Prop where
 lo: -a≤x
 hi:x≤a
theorem Bd.mul{x y a b:Rat}(h:Bd x a)(k:Bd y b):Bd (x*y) (a*b):=by
 obtain⟨h1,h2⟩:=h
 obtain⟨k1,k2⟩:=k
 have e1:=Rat.mul_nonneg (show 0≤a-x from li 0xf3a11c138f0e12a2 h2) (show 0≤b+y from li 0x3c53a11c13ce0a12a2 k1)
 have e2:=Rat.mul_nonneg (show 0≤a+x from li 0x3c53a11c13ce0a12a2 h1) (show 0≤b-y from li 0xf3a11c138f0e12a2 k2)
 have e3:=Rat.mul_nonneg (show 0≤a-x from li 0xf3a11c138f0e12a2 h2) (show 0≤b-y from li 0xf3a11c138f0e12a2 k2)
 have e4:=Rat.mul_nonneg (show 0≤a+x from li 0x3c53a11c13ce0a12a2 h1) (show 0≤b+y from li 0x3c53a11c13ce0a12a2 k1)
 constructor;exact li 0x514023ce0848470514033ce0c484744f10540e1222a4 e3 e4;exact li 0x145008f3831211c14500cf3821211d038444f1222a4 e1 e2
theorem Bd.le{x a b:Rat}(h:Bd x a)(k:a≤b):Bd x b:=⟨by have i1:=h.lo;exact li 0x103a11d014f8473853e12a3 h.1 k,by have i2:=h.hi;exact li 0xf3a11d03e11d03a12a3 h.2 k⟩
theorem rt(x y:Rat):x≤y∨y≤x:=Rat.le_total
theorem sq_le{x y:Rat}(hy:0≤y)(h:x*x≤y*y):x≤y:=by
 rcases rt x y with k |k
 ·exact k
 ·have i1:=Rat.mul_nonneg (show 0≤x-y from li 0xf3a11c138f0e12a2 k) (show 0≤x-y from li 0xf3a11c138f0e12a2 k)
  have i2:=Rat.mul_nonneg (show 0≤x-y from li 0xf3a11c138f0e12a2 k) hy
  have e:x=y:=by
   have h3:(x-y)*(x-y)=0:=Rat.le_antisymm (li 0x13ce0ce1221cf3c438e1211cf3833ce0c40612a2 h i2) (li 0x13ce0cf3831211c13ce0cf3831212a2 i1)
   rcases Rat.mul_eq_zero.mp h3 with h |h;exact li 0x8413ce0c124f3a1322 h;exact li 0x8413ce0c124f3a1322 h
  exact li 0x8413ce24f3a12a2 e
theorem mul_self_nonneg'(x:Rat):0≤x*x:=by
 rcases rt 0 x with h |h
 ·exact Rat.mul_nonneg h h
 ·have i1:=Rat.mul_nonneg (show 0≤-x from li 0x38184704e1612a1 h) (show 0≤-x from li 0x38184704e1612a1 h)
  exact li 0x13853851211c138e1212a1 i1
theorem bd_div{z k a:Rat}(hk:1≤k)(h:Bd (k*z) a):Bd z a:=by
 obtain⟨h1,h2⟩:=h
 have ha:0≤a:=li 0x3ce1108474053ce1211c14222a3 h1 h2
 constructor
 ·rcases rt (-a) z with h |h
  ·exact h
  ·have i1:=Rat.mul_nonneg (show 0≤-a-z from li 0xf38584704e14f0e12a2 h) (show 0≤k-1 from li 0x2104e84704e8410e12a1 hk)
   have i2:=Rat.mul_nonneg ha (show 0≤k-1 from li 0x2104e84704e8410e12a1 hk)
   exact li 0x503e10431211c14053833e10431211d014f3848474053a12a3 h1 i1 i2
 ·rcases rt z a with h |h
  ·exact h
  ·have i3:=Rat.mul_nonneg (show 0≤z-a from li 0xf3a11c138f0e12a2 h) (show 0≤k-1 from li 0x2104e84704e8410e12a1 hk)
   have i4:=Rat.mul_nonneg ha (show 0≤k-1 from li 0x2104e84704e8410e12a1 hk)
   exact li 0x13908410c484704f3834210431211d03c43a11cf3a12a3 h2 i3 i4
structure Pc(a b d x σ c h:Rat):Prop where
 f_a:Bd (a-1) (1/25000000)
 f_b:Bd (b-1) (1/25000000)
 f_d0:0≤d
 f_x0:0≤x
 f_dx:d*d+x*x=a*b
 f_s0:0≤σ
 f_c0:0≤c
 f_h0:0≤h
 f_s1:4*a*(σ*σ)≤a+b-2*d
 f_s2:a+b-2*d≤4*a*((σ+1/500000000000000000)*(σ+1/500000000000000000)+1/500000000000000000)
 f_c1:c*c≤1-σ*σ
 f_c2:1-σ*σ≤(c+1/500000000000000000)*(c+1/500000000000000000)
 f_h1:3*h*(1+c)≤4*σ
 f_h2:4*σ≤3*(h+1/500000000000000000)*(1+c)
structure Pd(a b d x c h:Rat):Prop where
 f_a:Bd (a-1) (1/25000000)
 f_b:Bd (b-1) (1/25000000)
 f_c1:7/10≤c
 f_c2:c≤1
 f_d:Bd (d-(2*(c*c)-1)) (1/1000000)
 f_hh:Bd (h*h*(1+c)-16/9*(1-c)) (1/1000000)
 f_hx:Bd (h*x-8/3*(c*(1-c))) (2/1000000)
 f_h0:0≤h
 f_h1:h≤56/100
 f_d0:0≤d
 f_x0:0≤x
 f_ha:4*a*(h*h)≤62/100*(a+b-2*d)
 f_hb:4*b*(h*h)≤62/100*(a+b-2*d)
 f_ab:d*d+x*x=a*b
theorem Pc.pd{a b d x σ c h:Rat}(p:Pc a b d x σ c h):Pd a b d x c h:=by
 obtain⟨⟨ha1,ha2⟩,⟨hb1,hb2⟩,d0,x0,dx,s0,c0,h0,s1,s2,c1,c2,h1,h2⟩:=p
 have hab:=Bd.mul (x:=a-1) (y:=b-1) ⟨ha1,ha2⟩ ⟨hb1,hb2⟩
 obtain⟨hab1,hab2⟩:=hab
 have hxx:=Rat.mul_nonneg x0 x0
 have hdd:=Rat.mul_nonneg d0 d0
 have hd:d≤1+1/10000000:=sq_le (li 0x610610629dd18284a) (li 0x504048473e10433a1043121061ca674684187299d1848473a104384187299d1a11cf8410e1061ca674684784145111040408f3842514448418418a77460a10610629dd1821212a4 dx ha2 hb2 hab2 hxx)
 have hx1:x≤1+1/10000000:=sq_le (li 0x610610629dd18284a) (li 0x514448473e10433a1043121061ca674684187299d1848473a104384187299d1a11cf8410e1061ca674684784145111040408f3842504048418418a77460a10610629dd1821212a4 dx ha2 hb2 hab2 hdd)
 have hs0:=Rat.mul_nonneg s0 s0
 have q1:=Bd.mul (x:=d-1/2) (y:=a-1) (a:=6/10) ⟨li 0x4e847981a8614e8418860e12a1 d0,li 0xe8418418a77460a11ce8418860e606a1a12a1 hd⟩ ⟨ha1,ha2⟩
 obtain⟨q1a,q1b⟩:=q1
 have u1:a*(4*(σ*σ)-2*(1-d))≤1/5000000:=li 0xe8418860d18410c4981a8684187299d1848873e104384187299d1a11e40511104041113c28813840e11d190141010488184138310312106a99d1a12a4 s1 hb2 q1b
 have hs1:σ*σ≤3/4:=by
  rcases rt (σ*σ) (3/4) with k |k
  ·exact k
  ·have i1:=Rat.mul_nonneg (show 0≤a-1/2 from li 0x84187299d1853a104384704e8418860e12a1 ha1) (show 0≤4*(σ*σ)-2*(1-d)-1/2 from li 0x8c190638e1241c13e21c190138e1048818413c31038418860e12a2 d0 k)
   exact li 0x13e106218390138e1048818414031038418860c48873e404e3841220610500c40c4841aa674688784187299d1853e104384705088738e1230641a42a3 d0 ha1 u1 i1
 have hs:σ≤1:=sq_le (li 0x184184a) (li 0x38e1230641a11ce3848418411212a1 hs1)
 have u2:4*(σ*σ)-2*(1-d)≤1/2500000:=by
  rcases rt (4*(σ*σ)-2*(1-d)) (1/2500000) with k |k
  ·exact k
  ·have i2:=Rat.mul_nonneg (show 0≤a-1/2 from li 0x84187299d1853a104384704e8418860e12a1 ha1) (show 0≤4*(σ*σ)-2*(1-d)-1/2500000 from li 0x21061ca57469013cf10488184138310384706404f3c412206104e0c40e1061ca57460e12a2 k)
   exact li 0x14210621839013cf10488184138310384187295d183121ca574742404f3c412206104e0c40c4841aa674687295d1e1061ca67461508410e11e404f3c412206104e0c40e1061ca57469fa91d2a3 ha1 u1 i2
 have u3: -(1/2000000)≤4*(σ*σ)-2*(1-d):=by
  rcases rt (-(1/2000000)) (4*(σ*σ)-2*(1-d)) with k |k
  ·exact k
  ·have i3:=Rat.mul_nonneg (show 0≤a-1/2 from li 0x84187299d1853a104384704e8418860e12a1 ha1) (show 0≤-(1/2000000)-(4*(σ*σ)-2*(1-d)) from li 0x2404f3c412206104e0c40e106499d18584706106499d1859013cf1048818413831030e12a2 k)
   have i4:=Bd.mul (x:=a-1) (y:=σ) (b:=1) ⟨ha1,ha2⟩ ⟨li 0x13a11e10453a12a1 s0,li 0xe8418473a10612a1 hs⟩
   obtain⟨t1,t2⟩:=i4
   exact li 0x118410ce121061ca6746841122c9d1c146106218384192674616404e38412206104f0c40c31219e381d1ce8418b2747981a8684187299d18414f8418860d18410c49fb85d1e1061ca67461508410e19e381d1e1061ca67461518410f99f9b33ce7db0eac8b5fe4efffff1d14028813c40e405110e841ab174608e841ab1746084841ab17460848678e074784192674616404e38412206104f0c40e68eafdd2a4 s2 ha1 hb1 q1a hs i3 t2
 have hc2:c≤1:=sq_le (li 0x184184a) (li 0x4e3848473cf12104e3840e11cf3c48418411212a2 c1 hs0)
 have cc1:c*c-(1-σ*σ)≤0:=li 0xf3c484138e1038473cf12104e3840c30612a2 c1
 have cc2: -(1/100000000000000000)≤c*c-(1-σ*σ):=li 0x3a10611e104f3c40ce841ab174608e841ab1746084872c1d1e1062c5d18538e12104f3c40c3872c1d2a2 c2 hc2
 have hc1:7/10≤c:=sq_le c0 (li 0xe8418479013cf10488184140310384187295d1a19e2b9d1e104f3c40ce841ab174608e841ab1746084872c1d1c1427eaf7479c1a869c1a8610e384872c1d2a3 d0 c2 u2 hc2)
 have hdc:Bd (d-(2*(c*c)-1)) (1/2500000):=⟨li 0x84192674616404f3c412206104e0c40e11d04048413cf10390784187295d1853a20504041210430e22a3 c1 u3,li 0x3e10611e405040412206104e0c40e1061ca57468678ae7478414101033e106ac5d1823e106ac5d182121cb07473a204f3c41210430e1061ca57469fabdd2a3 c2 u2 hc2⟩
 have hh1:h≤56/100:=by
  have hσ:σ≤708/1000:=sq_le (li 0x1da407fa0684a) (li 0x90138e1048818413c310384187295d1a11c13e21ce384da407fa06da407fa061242a2 d0 u2)
  rcases rt h (56/100) with k |k
  ·exact k
  ·have i5:=Rat.mul_nonneg (show 0≤h-56/100 from li 0x21e018e418e84704e8780639060e12a1 k) (show 0≤c-7/10 from li 0x2706a18e84704e9c1a860e12a1 hc1)
   exact li 0x508780639060cf9c1a860c49361ceda407fa069a81e706a18f8b41e305012104f0849013848721d08780639069ff2a3 h1 hc1 hσ i5
 have y0:0≤3*h*(1+c):=by
  have i6:=Rat.mul_nonneg h0 c0
  exact li 0x13ce1231c13e31c18c13c48413821212a2 h0 i6
 have y1:4*σ-3*h*(1+c)≤1/50000000000000000:=li 0x3a10631e405012304f841ab174608484138212ac5d1e405012304f12104e0840e106ac1d1aac5d2a3 h2 hc2
 have y2:=Bd.mul (x:=4*σ-3*h*(1+c)) (y:=4*σ+3*h*(1+c)) (a:=1/50000000000000000) (b:=8) ⟨li 0x2305012104f084901384847841ab074616404e12305012104f0840e12a3 h1,y1⟩ ⟨li 0x18c14048413c21221e305012104f084901384847a0116404e12305012104f0840a12a3 h1 y0,li 0xe841a078c14048413c212404e1211e404e12305012104f0840a80612a3 h1 hs⟩
 obtain⟨y2a,y2b⟩:=y2
 have hhd:Bd (h*h*(1+c)-16/9*(1-c)) (1/1000000000):=by
  refine bd_div (k:=9*(1+c)) (li 0x2706a18ea47841a418413821212a1 hc1) ⟨?_,?_⟩;exact li 0x2405012304e12104f0840e405012304e12104f084084841ab0746a011298e19e88f8cb77473e10738aba22add1d18418418a77460acf72f2c8fb9a2c70d3c8fffff1e10504040cf841ab174608f841ab1746084bbceb9a72edd1c146cf72f2c8fb9a2c70d3c8fffff1e1062a5d185a418413c210e3848413c21300691a104f0c40c4a63867a23e32ddd2a4 d0 c2 hd hc2 y2b;exact li 0x2106ac1d1a804416404f12304e1210500840e404f12304e121050084084af4c3de2f8a67474610610629dd18297edf0bc741012104f3c40f38aba22a9d1c1465fb7c2f1e906105008438e121050084c01a46841403103121062a5d1abd30f78be299d2a4 d0 c1 hd y2a
 have e5:Bd (x*x-4*(σ*σ)*(c*c)) (1/500000):=by
  have k1:=Bd.mul (x:=d-(2*(c*c)-1)) (y:=d+(2*(c*c)-1)) (b:=3) hdc ⟨li 0xf88138e1048410c384187295d1a11c13e21e30453e204e3841210430a12a2 d0 hdc.2,li 0x21061ca574614f88138e1048410c38473e10610629dd1828873e204e3841210430a30612a2 hd hdc.1⟩
  have k2:=Bd.mul (x:=c*c) (y:=c*c-(1-σ*σ)) (a:=1) (b:=1/100000000000000000) ⟨li 0xf88138e1048410c384187295d1a11c13e11e104538e1222a2 d0 hdc.2,li 0x138e1211cf3c484138e1038473cf1210612a2 c1 hs0⟩ ⟨cc2,li 0x4210610629dd1828473cf12104e3840f38aba22a9d1c14211cf3c484138e1030e1062c5d1b38aba22a9d2a3 d0 c1 hd⟩
  obtain⟨k1a,k1b⟩:=k1
  obtain⟨k2a,k2b⟩:=k2
  constructor;exact li 0xf3c43cf12104e3840c3121061062c5d1849074e204f3c41210430d38813cf1048410c2121061ca57468c11211e1061ca674684187299d1841518410d08410c484784187299d18542104384784187299d1854610438478411534c4492102450109841aa574615248490138e1043cf1040e12a6 dx ha1 hb1 hab1 k1b k2b;exact li 0x8418418b17461053cf10f3c484138e1030c490784187295d1a30441538813cf1048410c34e204f3c4121043084847461043421043121061ca674684187299d18484742104384187299d1a11d18410e1061ca67468478414d311248409140425248490138e1043cf1040e106a95d1a12a6 dx ha2 hb2 hab2 k1a k2a
 have hsc:=Rat.mul_nonneg s0 c0
 have e6:Bd (σ*(x-2*σ*c)) (1/700000):=by
  have e7:Bd (2*c*(σ*(x-2*σ*c))) (1/500000):=by
   obtain⟨a1,a2⟩:=e5
   rcases rt 0 (x-2*σ*c) with k |k
   ·have t1:=Rat.mul_nonneg k x0
    have t2:=Rat.mul_nonneg k hsc
    constructor;exact li 0x508813c43840cf3841221e106a95d1858813843d08813c43840c41212a3 t2;exact li 0x142204f10e10340484741012404f3c410e384103841aa57468478813843d08813c43840c412106a95d1a12a3 a2 t1
   ·have t1:=Rat.mul_nonneg (show 0≤-(x-2*σ*c) from li 0x42204f10e1030611c142204f10e1031612a3 k) x0
    have t2:=Rat.mul_nonneg (show 0≤-(x-2*σ*c) from li 0x42204f10e1030611c142204f10e1031612a3 k) hsc
    constructor;exact li 0x508813c43840c5404847841aa57461504049013cf10438e1040e11e106a95d1858813843d08813c43840c41212a3 a1 t1;exact li 0x508813c43840c53ce1048878813843d08813c43840c412106a95d1a12a3 t2
  have e8:Bd ((c*(10/7))*(σ*(x-2*σ*c))) (1/700000):=by
   obtain⟨a1,a2⟩:=e7
   constructor;exact li 0x2106a95d1858814043ce8813c44040c41251e106e95d18542a0671843ce8813c44040c41272a3 a1;exact li 0x2205010f3a204f110103104841aa574694742a0671843ce8813c44040c412106e95d1a72a3 a2
  exact bd_div (li 0x9c1a863aa1e104ea819c61272a1 hc1) e8
 have hhx:Bd (h*x-8/3*(c*(1-c))) (2/1000000):=by
  obtain⟨a1,a2⟩:=e6
  have k2:=Bd.mul (x:=c) (y:=c*c-(1-σ*σ)) (a:=1) (b:=1/100000000000000000) ⟨li 0x9c1a863a11e10453a12a1 hc1,li 0xe8418473a10612a1 hc2⟩ ⟨cc2,li 0x4210610629dd1828473cf12104e3840f38aba22a9d1c14211cf3c484138e1030e1062c5d1b38aba22a9d2a3 d0 c1 hd⟩
  obtain⟨k2a,k2b⟩:=k2
  have k3:=Bd.mul (x:=4*σ-3*h*(1+c)) (y:=x) (a:=1/50000000000000000) (b:=2) ⟨li 0x2305012104f084901384847841ab074616404e12305012104f0840e12a3 h1,y1⟩ ⟨li 0x13a11e20453a12a1 x0,li 0x3a10610629dd1828473a20612a1 hx1⟩
  obtain⟨k3a,k3b⟩:=k3
  have k4:Bd ((3*(1+c))*(h*x-8/3*(c*(1-c)))) (6/1000000):=by
   constructor;exact li 0x2405112304e12104f0840d012106ac1d1a20448478418418b17461053cf3c48414511030c4a07841ba574615142205110f1031241e606299d1858c18413c210e404a018c63e104f0c41031212a4 a1 k2a k3b;exact li 0x2106ac1d1a204416405112304e12104f0840d01211cf3cf1210514440c3121061062c5d184a074508814443c40c4841ba57469078c18413c210e404a018c63e104f0c410312606299d1a12a4 a2 k2b k3a
  have k5:Bd ((1+c)*(h*x-8/3*(c*(1-c)))) (2/1000000):=by
   obtain⟨a1,a2⟩:=k4
   constructor;exact li 0x9818a67461630610500843ce1280631908414031040c48478818a674616105008f384a018c64210500c41031232a3 a1;exact li 0x8c184140210f384a018c64210500c410312606299d1a11e105008f384a018c64210500c410312206299d1a32a3 a2
  exact bd_div (li 0x9c1a863a11e106104e0a12a1 hc1) k5
 have z0:0≤h*h:=Rat.mul_nonneg h0 h0
 have z1:(3*h*(1+c))*(3*h*(1+c))≤(4*σ)*(4*σ):=by
  have i7:=Rat.mul_nonneg (show 0≤4*σ-3*h*(1+c) from li 0x2305012104f08490138484706404e12305012104f0840e12a3 h1) (show 0≤4*σ+3*h*(1+c) from li 0x18c14048413c21221e305012104f08490138484706404e12305012104f0840a12a3 h1 y0)
  exact li 0x19014048c13c48413821039014048c13c48413821021211e304f12104e0848c13c48413821049014049014041212a3 i7
 have z2:26*(h*h)≤16*(σ*σ):=by
  have i8:=Rat.mul_nonneg z0 (show 0≤(1+c)*(1+c)-289/100 by
   have i9:=Rat.mul_nonneg (show 0≤c-7/10 from li 0x2706a18e84704e9c1a860e12a1 hc1) (show 0≤c+27/10 from li 0x2706a18e84704eec1a860a12a1 hc1)
   exact li 0x4e9c1a860ceec1a8608484706104e0a104e084a610639060e12a1 i9)
  exact li 0x4f3c48413828413821298418e4183136ee81e304f12104e0848c13c4841382104901404901404122c681c14101301fa04f3c4130050404122c692a3 hs0 z1 i8
 have z3:4*a*(h*h)≤616/1000*(a+b-2*d):=by
  have i10:=Rat.mul_nonneg (show 0≤a from li 0x21061ca674614e8410e11c13a12a1 ha1) (show 0≤16*(σ*σ)-26*(h*h) from li 0x3a04f3c413004e3841211c1c0138e104e813cf1040e12a2 z2)
  have i11:0≤a+b-2*d:=by
   have i12:=Rat.mul_nonneg (show 0≤a from li 0x21061ca674614e8410e11c13a12a1 ha1) hs0
   exact li 0x5141010490790144441010444f0a204e1038470513c28813840e12a4 s1 i12
  exact li 0x14900a204f103847052c01451104e8138e1040c49fa1e40521114441124028813c40ffa0790148438e104ce807fa064900a204f103121cb92a5 s1 i10 i11
 have z4:4*b*(h*h)≤62/100*(a+b-2*d):=by
  have i13:=Rat.mul_nonneg z0 (show 0≤a*(1001/1000)-b from li 0x3a104384187299d1bfa0784187299d1853e1043fe91c13ffa41fe8184383fe82a2 ha1 hb2)
  have i14:0≤a+b-2*d:=by
   have i15:=Rat.mul_nonneg (show 0≤a from li 0x21061ca674614e8410e11c13a12a1 ha1) hs0
   exact li 0x5141010490790144441010444f0a204e1038470513c28813840e12a4 s1 i15
  exact li 0x513c28813840ed9c705040447fa41fe81843c312a95d1e4051110404133a01fe81913c28813840c48fa9a51e404f110404121f818e41913c28813840c48fa8a82a4 z3 i13 i14
 have z5:0≤a+b-2*d:=by
  have i16:=Rat.mul_nonneg (show 0≤a from li 0x21061ca674614e8410e11c13a12a1 ha1) hs0
  exact li 0x5141010490790144441010444f0a204e1038470513c28813840e12a4 s1 i16
 exact⟨⟨ha1,ha2⟩,⟨hb1,hb2⟩,hc1,hc2,hdc.le (li 0x21061ca57468418a674684a),hhd.le (li 0x8418a97468418a674684a),hhx,h0,hh1,d0,x0,li 0x513c28813840e11e4051110404133a01fe81913c28813840c49fa1e4051110404121f818e41913c28813840c49fa2a4 z3 z5,z4,dx⟩
theorem Pd.cir{a b d x c h:Rat}(p:Pd a b d x c h):
  Bd (2916*a+729*(h*h)*a+100*b+81*(h*h)*b+1080*d+1512*(h*x)-486*((h*h)*d)-4096) 5∧
  Bd (1024*a+1024*b+576*(h*h)*(a+b)+2048*d+3072*(h*x)-1152*((h*h)*d)-4096) (1/10)∧
  Bd (2916*b+729*(h*h)*b+100*a+81*(h*h)*a+1080*d+1512*(h*x)-486*((h*h)*d)-4096) 5:=by
 obtain⟨⟨ha1,ha2⟩,⟨hb1,hb2⟩,hc1,hc2,hd,hh,hx,h0,h1,d0,x0,-,-,-⟩:=p
 obtain⟨hx1,hx2⟩:=hx
 obtain⟨hd1,hd2⟩:=hd
 have hcc:=Rat.mul_nonneg (show 0≤c from li 0x9c1a863a11c13a12a1 hc1) (show 0≤c from li 0x9c1a863a11c13a12a1 hc1)
 have hcc2:c*c≤1:=by
  have i1:=Rat.mul_nonneg (show 0≤c from li 0x9c1a863a11c13a12a1 hc1) (show 0≤1-c from li 0xe84184706104e0e12a1 hc2)
  exact li 0x4e8413831211ce84184738e1210612a1 hc2 i1
 have hh0:=Rat.mul_nonneg h0 h0
 have hh1:h*h≤1:=by
  have i2:=Rat.mul_nonneg h0 (show 0≤1-h from li 0xe87806390684706104e0e12a1 h1)
  exact li 0x4e8413831211ce87806390684738e1210612a1 h1 i2
 obtain⟨g1a,g1b⟩:=Bd.mul (y:=d) (b:=2) hh ⟨li 0x13a11e20453a12a1 d0,li 0x38e1210621cf88138e1048410c38418a67468473e20612a2 hd2 hcc2⟩
 obtain⟨hha,hhb⟩:=hh
 obtain⟨g2a,g2b⟩:=Bd.mul (x:=1-c) (y:=d-(2*(c*c)-1)) (a:=1) ⟨li 0xe84184784116104e0e12a1 hc2,li 0x9c1a863a11e104e0e10612a1 hc1⟩ ⟨hd1,hd2⟩
 obtain⟨g6a,g6b⟩:=Bd.mul (x:=c) (y:=d-(2*(c*c)-1)) (a:=1) ⟨li 0x9c1a863a11e10453a12a1 hc1,li 0xe8418473a10612a1 hc2⟩ ⟨hd1,hd2⟩
 obtain⟨g3a,g3b⟩:=Bd.mul (x:=h*h) (y:=a-1) (a:=1) ⟨li 0x138e1211e104538e1212a1 hh0,li 0xe38484184738e1210612a1 hh1⟩ ⟨ha1,ha2⟩
 obtain⟨g4a,g4b⟩:=Bd.mul (x:=h*h) (y:=b-1) (a:=1) ⟨li 0x138e1211e104538e1212a1 hh0,li 0xe38484184738e1210612a1 hh1⟩ ⟨hb1,hb2⟩
 obtain⟨g5a,g5b⟩:=Bd.mul (x:=c) (y:=h*x-8/3*(c*(1-c))) (a:=1) ⟨li 0x9c1a863a11e10453a12a1 hc1,li 0xe8418473a10612a1 hc2⟩ ⟨hx1,hx2⟩
 have k0:0≤1-c:=li 0xe84184706104e0e12a1 hc2
 have k2:0≤(1-c)*(1-c):=Rat.mul_nonneg k0 k0
 have k3:0≤(1-c)*((1-c)*(1-c)):=Rat.mul_nonneg k0 k2
 have k4:(1-c)*(1-c)≤9/100:=by
  have i3:=Rat.mul_nonneg k0 (show 0≤3/10-(1-c) from li 0x9c1a863a11c18c1a868413830e12a1 hc1)
  exact li 0x18413838c1a868413830c48681cf88138e1048410c38418a67468c704f8c78413838413831290639068622a2 d0 hd2 i3
 have k5:(1-c)*((1-c)*(1-c))≤27/1000:=by
  have i4:=Rat.mul_nonneg k2 (show 0≤3/10-(1-c) from li 0x8413838413831290639068873e204e3841210430e106299d1a11c13e11c18c1a868413830e42a2 d0 hd2 k4)
  exact li 0x6104e0e104e0c48c1a868413830c4a878413838413831290639068c7841383841383841383104ec1fe81aa2a1 k4 i4
 have A1:Bd ((1+c)*(3016+810*(h*h)+1080*d+1512*(h*x)-486*((h*h)*d)-4096)) (45/10):=by
  constructor;exact li 0x6104f0e104f0e104f0c4124c078418818a67461053d1404a018c63e104f0c4103121be81e106106299d18414f3a204f3c41210430c487ce078418a67461514448413c21300691a104f0c40f9a8745112104f084c01a468413c31033848418a674688112f9878418a674614e8813cf1048410c39b81e206299d18545012806318f8413c31040e1be81e1b41a8616104f0a2fa8079a814511040a187804e10286fa014501040af98145110e1040e48200431212a4 hx1 hd1 g1b hha g6a g5a k3;exact li 0x2104f0e104f0e104f0c413b07fa069301cf45012806318f8413c31040c48418818a6746121be81cf3a204f3c41210430c48418418a6746121f381d14448413c21300691a104f0c40e106299d1b9a878418a674688110545112104f084c01a468413c3103384be61ce8813cf1048410c38418a67469b81d1404a018c63e104f0c41038818a674686fa078413c28bea01e6a051444102861e013840a1be8051404102be60514443841039208010c486d06a1a12a4 hx2 hd2 g1a hhb g6b g5b k5
 have A2:Bd ((1+c)*(2048+1152*(h*h)+2048*d+3072*(h*x)-1152*((h*h)*d)-4096)) (5/100):=by
  constructor;exact li 0x21b41a8616104f0a2fa8079a814511040a187804e10286fa014501040af98145110e1040e482004312ede81e104f0e104f0e104f0c413b07fa068a2a348078418818a67461053d1404a018c63e104f0c410312bfbb870ba01e106106299d18414f3a204f3c41210430c4bfeb358b48078413c33a204f3c41210430c48418418a67461238ecfa01e106299d18545112104f084c01a468413c310392fbb4df3c0745112104f084c01a468413c31033848418a6746881124bf3a7b8301e206299d18545012806318f8413c31040ebfbb870ba01e506390616104f0a28200619200514441028a08013840a382005140410286480145110e1040e4820043123ffaf792a4 hx1 g1b hha g2b g6a g5a k5 A1.1;exact li 0x2104f0a2fa8079a814511040a187804e10286fa014501040af98145110e1040e4820043121b41a86af91e1b41a8616104f0a2fa8079a814511040a187804e10286fa014501040af98145110e1040e482004312be473d1404a018c63e104f0c410312106206299d1849b88257473ce8813cf1048410c312106106299d184a6082574745112104f084c01a468413c31038418a67468b18257478418a674688110545112104f084c01a468413c31033848b182574745012806318f8413c31040e206299d1a6e2095d1e104f0a28200619200514441028a08013840a382005140410286480145110e1040e48200431250639068edef42a4 hx2 g1a hhb g6b g5b A1.1 A1.2
 have B1:=bd_div (li 0x210500a2fa8079a813cf1040a187805110286fa013ce1040af9813cf1111040e4820043121b41a868b687cfc786d06a1858414028bea01e6a04f3c4102861e014440a1be804f384102be604f3c44441039208010c48b687cfc784140384140312906390686499d1d18814101048410c38418a6746ca6747051ca67478418414028a899d2a4 d0 hd2 k4 A1.1 A1.2) A1
 have B2:=bd_div (li 0x9418e41858413828a08018648014101040a28200511028e080140f1040a19200504044441039208010c4bafbf1b078413828bea01e6a050404102861e014440a1be80503c4102be60504044441039208010c486d06a1a2860cecc311e1b41a8616104e0a2fa8079a814101040a187805110286fa0140f1040af9814101111040e48200431228228bac311e104e0e104e0c4a418e41bb82099d1c1841383841383841383104a608267478418818a67461053903c4a018c63a104e0c4103123b2099d1e106299d18541012104e084c01a46841383103c2ec267478418a674688110541012104e084c01a468413831034448f9c267478818a67461503c4a018c63a104e0c41038ec826747051b7082674784184138287682099d2a4 d0 hx1 g1a hha g5a k3 k4 A1.1 A1.2 A2.1) A2
 obtain⟨b1,b2⟩:=B1
 obtain⟨b3,b4⟩:=B2
 refine⟨⟨?_,?_⟩,⟨?_,?_⟩,⟨?_,?_⟩⟩;exact li 0x21b41a86162fa8079a814511040a187804f10286fa0144e1040af98145110f1040e48200438a6aa57478414028bea01e6a051444102861e013c40a1be8051384102be60514443c41039208010c486d06a1a5fb5d371e1b41a861610500a2fa8079a814511040a187804f10286fa0144e1040af98145110f1040e4820043125fb5d371e1061061ca67461054511128410c4971fea95d1e1061061ca67461054511138410c4872879ea574784187299d1854a10438a6aa774784187299d1854e10438a08aa9dd1e50458bb9014c4db90514441131028e40521028b1051444112102861e013c40a1be8051384102be60514443c41039208010e29aa95d2a6 ha1 hb1 g3a g4a A1.1 A1.2 b1;exact li 0x22fa8079a814511040a187804f10286fa0144e1040af98145110f1040e482004386d06a1a29aa95d1e10500a2fa8079a814511040a187804f10286fa0144e1040af98145110f1040e4820043121b41a8697ed74dc786d06a1858414028bea01e6a051444102861e013c40a1be8051384102be60514443c41039208010c497ed74dc74511128410c484184187299d184971fea95d1d14444e1043121061061ca6746121ca1e7a95d1d28410e1061ca67468a6aa77474e104384187299d1a2822aa77478bb9014c4db90514441131028e40521028b1051444112102861e013c40a1be8051384102be60514443c41039208010e50629aa95d2a6 ha2 hb2 g3b g4b A1.1 A1.2 b2;exact li 0x250639061628200619200514441028a08013c40a382005138410286480145110f1040e48200439778ec1e10500a2fa8079a814511040a187804f10286fa0144e1040af98145110f1040e4820043121b41a86860bc786d06a1858414028bea01e6a051444102861e013c40a1be8051384102be60514443c41039208010c4860bc784184187299d1841514444a1043126e2674784184187299d1841514444e1043126e2674784187299d1854a1043b2099d1e1061ca67461538410ec826747841a86161820053121820052102ca00514441134821028a08013c40a382005138410286480145110f1040e48200439778ec2a6 ha1 hb1 g3a g4a A1.1 A1.2 b3;exact li 0x228200619200514441028a08013c40a382005138410286480145110f1040e48200439418e41a5de3b078414028bea01e6a051444102861e013c40a1be8051384102be60514443c41039208010c486d06a1a182f1e1b41a861610500a2fa8079a814511040a187804f10286fa0144e1040af98145110f1040e482004312182f1d14444a1043121061061ca6746126e267474511138410c484184187299d1849b899d1d28410e1061ca6746b2099d1d38410e1061ca6746b2099d1e1820053121820052102ca00514441134821028a08013c40a382005138410286480145110f1040e4820043841a869778ec2a6 ha2 hb2 g3b g4b A1.1 A1.2 b4;exact li 0x21b41a86162fa8079a814511040a187804f10286fa0144e1040af98145110f1040e48200438a6aa57478414028bea01e6a051444102861e013c40a1be8051384102be60514443c41039208010c486d06a1a5fb5d371e1b41a861610500a2fa8079a814511040a187804f10286fa0144e1040af98145110f1040e4820043125fb5d371e1061061ca67461054511128410c4872879ea574784184187299d1841514444e1043125c7faa574784187299d1854a10438a08aa9dd1e1061ca67461538410e29aa9dd1e50458bb901484db90514441121028e40531028b1051444113102861e013c40a1be8051384102be60514443c41039208010e29aa95d2a6 ha1 hb1 g3a g4a A1.1 A1.2 b1;exact li 0x22fa8079a814511040a187804f10286fa0144e1040af98145110f1040e482004386d06a1a29aa95d1e10500a2fa8079a814511040a187804f10286fa0144e1040af98145110f1040e4820043121b41a8697ed74dc786d06a1858414028bea01e6a051444102861e013c40a1be8051384102be60514443c41039208010c497ed74dc74511128410c484184187299d184872879ea57474511138410c484184187299d184971fea95d1d28410e1061ca67468a08aa9dd1d38410e1061ca67468a6aa77478bb901484db90514441121028e40531028b1051444113102861e013c40a1be8051384102be60514443c41039208010e50629aa95d2a6 ha2 hb2 g3b g4b A1.1 A1.2 b2
theorem lin_bd{C S m1 m2 n:Rat}{F:Rat}(hn:C*C+S*S=n)(hF:m1*m1+m2*m2=F):(C*m1-S*m2)*(C*m1-S*m2)+(S*m1+C*m2)*(S*m1+C*m2)=n*F:=by
 exact li 0x124844511023cf10e3840932534921114440902523c444e10348f1113840c444f1123840913c448e102102413121326 hn hF
theorem sq_bd{z y:Rat}(hy:0≤y)(h:z*z≤y*y):Bd z y:=by
 refine⟨?_,sq_le hy h⟩
 have i1:=sq_le (x:= -z) hy (li 0xf3c438e1211cf14f14438e1212a2 h)
 exact li 0xf14e8473853e12a2 i1
theorem mix{C S n m1 m2 F e f r:Rat}(hn:C*C+S*S=n)(hn1:Bd (n-1) (1/100000000))(hF:m1*m1+m2*m2=F)(hr:Bd (F-4096) r)(hr5:r≤5)(he:Bd e (64/2000000))(hf:Bd f (64/2000000)):
  Bd ((C*m1-S*m2+e)*(C*m1-S*m2+e)+(S*m1+C*m2+f)*(S*m1+C*m2+f)-4096) (r+1/100):=by
 have hl:=lin_bd hn hF
 generalize C*m1-S*m2=X at *
 generalize S*m1+C*m2=Y at *
 have hX:=mul_self_nonneg' X
 have hY:=mul_self_nonneg' Y
 obtain⟨n1,n2⟩:=hn1
 obtain⟨r1,r2⟩:=hr
 obtain⟨k1,k2⟩:=Bd.mul (x:=n-1) (y:=F) (b:=5000) ⟨n1,n2⟩ ⟨li 0x3c53a48200438473e50611e4f280453a12a2 hr5 r1,li 0x3a48200433e11cf9418473a4f280612a2 hr5 r2⟩
 have bX:Bd X 65:=sq_bd (li 0x6284184a) (li 0xf8410ce121062a1d1a4f280448473a48200434a11c14101211e10514444101023ce1094a50611d14448a10628411212a5 hr5 hl hY r2 k2)
 have bY:Bd Y 65:=sq_bd (li 0x3e10433848418a874693ca0113a95d1ce9208010d2ea5747050404ea5747051444ea5747ea574145111040408f384252941ea57470628418ae9e1d612a5 hr5 hl hX hY r2 k2) (li 0x3e10433848418a874693ca01121d3a95d1ce9208010d2874ea57470504048abd7bfc7051444874ea5747874ea574145111040408f384252941874ea57474101228418a10448ae9e1d612a5 hr5 hl hX hY r2 k2)
 obtain⟨a1,a2⟩:=bX.mul he
 obtain⟨a3,a4⟩:=bY.mul hf
 obtain⟨a5,a6⟩:=he.mul he
 obtain⟨a7,a8⟩:=hf.mul hf
 constructor;exact li 0x8a006499d1a280192674610538e121ea6d34cf0961f878a006499d1a28019267461053cf121ea6d34cf0961f878a10628019267461054ce123d2da699e0aa3f078a106280192674610550f123d2da699e0aa3f078418a874693ca011054a104344487a9b4cfb9bda301d19208010d0b24cfcdc740546482004387a9b4d27af19671c14d3138a67e6e1c1514138a67e6e1e1ea6d33ee6f68c011545044d310249110942106390608550f0943c21133824ce0840a482004387a9b4d33c2587e2a7 hl hX hY r1 r2 k1 a1 a3 a5 a7;exact li 0xe3848a006499d1a28019267461211cf3c48a006499d1a28019267461211d33848a10628019267461221d43c48a10628019267461221d28410d1121062a1d1a4f280448474648200434211e10545044d310249110950f0943c21133824ce0840a48200434210639060a12a7 hl r2 k2 a2 a4 a6 a8
theorem amgm(p q:Rat):(p+q)*(p+q)≤12/10*(p*p)+6*(q*q):=by
 have i1:=mul_self_nonneg' (p-5*q)
 exact li 0x13e504e1033e504e1031211cf3823ce084b01a863cf10498138e1040a52a2 i1
theorem one_bd{g:Rat}(h:g*g=1):Bd g 1:=sq_bd (li 0x184184a) (li 0x2104e38484124e3848418411212a1 h)
theorem beg{C S n u1 u2 w1 w2 g h a b d e0 f0 e1 f1 e3 f3:Rat}(hn:C*C+S*S=n)(hn1:Bd (n-1) (1/100000000))(hg:g*g=1)(h0:0≤h)(h1:h≤56/100)
  (ha:u1*u1+u2*u2=a)(hb:w1*w1+w2*w2=b)(hd:u1*w1+u2*w2=d)(ha1:Bd (a-1) (1/25000000))(hha:4*a*(h*h)≤62/100*(a+b-2*d))
  (he0:Bd e0 (1/2000000))(hf0:Bd f0 (1/2000000))(he1:Bd e1 (1/2000000))(hf1:Bd f1 (1/2000000))(he3:Bd e3 (1/2000000))(hf3:Bd f3 (1/2000000))
  {hX hY iX iY tX tY:Rat}(ehX:hX=C*u1-S*u2+e0)(ehY:hY=S*u1+C*u2+f0)
  (eiX:iX=C*(u1-h*g*u2)-S*(u2+h*g*u1)+e1)(eiY:iY=S*(u1-h*g*u2)+C*(u2+h*g*u1)+f1)
  (etX:tX=C*w1-S*w2+e3)(etY:tY=S*w1+C*w2+f3):
  Bd ((iX-hX)*hX+(iY-hY)*hY) (6/1000000)∧-(6/1000000)≤(hX*(iY-hY)-hY*(iX-hX))*g∧
  4*((iX-hX)*(iX-hX)+(iY-hY)*(iY-hY))≤(tX-hX)*(tX-hX)+(tY-hY)*(tY-hY)+4*(6/1000000)*(6/1000000):=by
 have hA:(C*u1-S*u2)*(C*u1-S*u2)+(S*u1+C*u2)*(S*u1+C*u2)=n*a:=li 0x124844511023cf10e3840932534921114440902523c444e10348f1113840c444f1123840913c448e102102413121326 hn ha
 have hch:(C*w1-S*w2-(C*u1-S*u2))*(C*w1-S*w2-(C*u1-S*u2))+(S*w1+C*w2-(S*u1+C*u2))*(S*w1+C*w2-(S*u1+C*u2))=n*(a+b-2*d):=li 0x8811545041220454d31040913c440e1025495141134c408f3c438e1025895141134c40914444101025c95d60a20455440945044d310248950f1133840d44444d01030d43c44ce1035111134040c31133c450e1024d11144040834cf1143840934445101020c40925d60a205510312132a hn ha hb hd
 have ei1:iX-hX= -(h*g*(S*u1+C*u2))+(e1-e0):=li 0x2105159540f1131031144d03c45440840ce0898411575951144c40d20894570d03c45151164c408414e4830a132a ehX eiX
 have ei2:iY-hY=h*g*(C*u1-S*u2)+(f1-f0):=li 0x8414565503c44c40c451340f1151021023822610455d65445131024822515c340f11454459310310e4830a132a ehY eiY
 have et1:tX-hX=C*w1-S*w2-(C*u1-S*u2)+(e3-e0):=li 0x84145640450f1033822610455d65445131034822515c35901143c40d65445131030ce4830a132a ehX etX
 have et2:tY-hY=S*w1+C*w2-(S*u1+C*u2)+(f3-f0):=li 0x84145640450f1023822610455d65445131024822515c35901143c40965445131020ce4830a132a ehY etY
 rw[ei1,ei2,et1,et2,ehX,ehY]
 clear ei1 ei2 et1 et2 ehX ehY eiX eiY etX etY hb hd
 have hha2:=hha
 generalize C*w1-S*w2-(C*u1-S*u2)=V1 at *
 generalize S*w1+C*w2-(S*u1+C*u2)=V2 at *
 generalize C*u1-S*u2=A at *
 generalize S*u1+C*u2=B at *
 have hD1:Bd (e1-e0) (1/1000000):=⟨by have i1:=he1.lo;have i2:=he0.hi;exact li 0x84192674614e8473e106499d1a11e106299d18538f0e12a2 he0.2 he1.1,by have i3:=he1.hi;have i4:=he0.lo;exact li 0xe84192674684784192674614f84738f0e106299d1a12a2 he0.1 he1.2⟩
 have hD2:Bd (f1-f0) (1/1000000):=⟨by have i5:=hf1.lo;have i6:=hf0.hi;exact li 0x84192674614e8473e106499d1a11e106299d18538f0e12a2 hf0.2 hf1.1,by have i7:=hf1.hi;have i8:=hf0.lo;exact li 0xe84192674684784192674614f84738f0e106299d1a12a2 hf0.1 hf1.2⟩
 have hD3:Bd (e3-e0) (1/1000000):=⟨by have i9:=he3.lo;have i10:=he0.hi;exact li 0x84192674614e8473e106499d1a11e106299d18538f0e12a2 he0.2 he3.1,by have i11:=he3.hi;have i12:=he0.lo;exact li 0xe84192674684784192674614f84738f0e106299d1a12a2 he0.1 he3.2⟩
 have hD4:Bd (f3-f0) (1/1000000):=⟨by have i13:=hf3.lo;have i14:=hf0.hi;exact li 0x84192674614e8473e106499d1a11e106299d18538f0e12a2 hf0.2 hf3.1,by have i15:=hf3.hi;have i16:=hf0.lo;exact li 0xe84192674684784192674614f84738f0e106299d1a12a2 hf0.1 hf3.2⟩
 generalize e1-e0=D1 at *
 generalize f1-f0=D2 at *
 generalize e3-e0=D3 at *
 generalize f3-f0=D4 at *
 obtain⟨na,nb⟩:=hn1
 obtain⟨aa,ab⟩:=ha1
 obtain⟨p1,p2⟩:=Bd.mul (x:=n-1) (y:=a) (b:=2) ⟨na,nb⟩ ⟨li 0x21061ca674614e8410e11e20453a12a1 aa,li 0xe8410e1061ca67468473a20612a1 ab⟩
 have sA:=mul_self_nonneg' A
 have sB:=mul_self_nonneg' B
 have bA:Bd A (101/100):=sq_bd (li 0x18e506390684a) (li 0x504048473e10433848418a87468811211ce8410e1061ca674684784145111040408f3842514448e50639068e50639061212a4 hA ab p2 sB)
 have bB:Bd B (101/100):=sq_bd (li 0xe8e50639068478e506390614e8470639418e41a22a1 bA.1 bA.2) (li 0x4639418e41bed6e9478e5063906151fb5ba51c1451126aa67473e10433848418a8746881126aa67473a104384187299d1a6aa67479aa99d0514444101023ce1094101239418e41a39418e41849aa99d2a4 hA ab p2 sA bA.1 bA.2)
 have bg:=one_bd hg
 have by':Bd (h*g) (56/100):=(Bd.mul (x:=h) (a:=56/100) ⟨li 0x3a39418e41bc1e39418e41853bc1c13e394787806390614f8e52a2 h0 bA.1 bA.2,h1⟩ bg).le (li 0x21e018e41a104487806390684a)
 have hyy:(h*g)*(h*g)=h*h:=li 0x3cf10e38484124f3843ce1043cf121322 hg
 obtain⟨q1,q2⟩:=(by'.mul bA).mul hf0
 obtain⟨q3,q4⟩:=(by'.mul bB).mul he0
 obtain⟨q5,q6⟩:=hD1.mul bA
 obtain⟨q7,q8⟩:=hD2.mul bB
 obtain⟨q9,q10⟩:=hD1.mul he0
 obtain⟨q11,q12⟩:=hD2.mul hf0
 refine⟨⟨li 0x2106299d1a106499d18414e484b34a9d1e106299d1a106499d18414f404b34a9d1e106299d1a39418e418414e444b34a9d1e106299d1a39418e418414f544b34a9d1d44c44444048780639068e506390612106499d184b34a9d1e1e018e41a39418e418484192674610551311511212cd2a7475639418e41a3a26aff1e39418e4185563a26aff1e606299d1855131111053c255008451311510e091482102b34a9d2a8 bA.1 bA.2 q1 q4 q5 q7 q9 q11,li 0x39212106299d1a106499d184b34a9d1cf4048418a674684192674612cd2a74739112106299d1a39418e4184b34a9d1cf5448418a67468e506390612cd2a7478780639068e506390612106499d1841544c4444404b34a9d1d44c45444848780639068e506390612106499d184b34a9d1d58e50639068e89abfc78e50639061558e89abfc75131111053c255008451311510e0914821029818a6746b34a9d2a8 bA.1 bA.2 q2 q3 q6 q8 q10 q12⟩,?_,?_⟩
 ·have hna:0≤h*(n*a):=Rat.mul_nonneg h0 (li 0xe8e506390686fd7c8fd1e39418e41853a1bf5f23f478418a87468811053e10434049aa99d1e1061ca67461508410e6aa674704f4049aa99d2a3 aa p1 bA.1 bA.2)
  have k:Bd (A*D2-B*D1+e0*(h*g)*A+e0*D2+f0*(h*g)*B-f0*D1) (4/1000000):=by
   obtain⟨q13,q14⟩:=hD2.mul bA
   obtain⟨q15,q16⟩:=hD1.mul bB
   obtain⟨q17,q18⟩:=(by'.mul bA).mul he0
   obtain⟨q19,q20⟩:=(by'.mul bB).mul hf0
   obtain⟨q21,q22⟩:=hD2.mul he0
   obtain⟨q23,q24⟩:=hD1.mul hf0
   constructor;exact li 0x133848418a674684192674612cd2a7478418a674684192674610550f12cd2a7478780639068e506390612106499d184151404484384b34a9d1e1e018e41a39418e418484192674610545011510f12cd2a7474d212106299d1a39418e4184b34a9d1e106299d1a39418e4184154544b34a9d1d58e506390686b967fc78e506390615586b967fc79018a67461555044931033d14041151023d4102391404112102393103b34a9d2a8 bA.1 bA.2 q13 q16 q17 q19 q21 q24;exact li 0x8418a67468419267461054ce12cd2a74750f12106299d1a106499d184b34a9d1d14044843848780639068e506390612106499d184b34a9d1d14045443c48780639068e506390612106499d184b34a9d1e106299d1a39418e4184153484b34a9d1d45448418a67468e506390612cd2a7475639418e41a1ae59ff1e39418e4185561ae59ff1d55044931033d14041151023d41023914041121023931039018a6746b34a9d2a8 bA.1 bA.2 q14 q15 q18 q20 q22 q23
  obtain⟨k1,k2⟩:=k.mul bg
  have e:((A+e0)*(h*g*A+D2)-(B+f0)*(-(h*g*B)+D1))*g=h*(n*a)+(A*D2-B*D1+e0*(h*g)*A+e0*D2+f0*(h*g)*B-f0*D1)*g:=li 0x165d71155440934842575c45845951151025141210495d10965045c44021153c259411510538210350459348411740454e1034565041171024501023d65041151023ce1035040a132a hg hA
  rw[e];exact li 0x9018a67468411055d31124440d058f1045c40904c408e58f10448408e4440cf13eeaac07056554104fbaab01d78e50639068478e50639061578479818a67461565541045d31124440d058f1045c40904c408e58f10448408e4440cf102fbaab02aa bA.1 bA.2 hna k1
 ·have m1:=amgm (-(h*g*B)) D1
  have m2:=amgm (h*g*A) D2
  have m3:=amgm (V1+D3) (-D3)
  have m4:=amgm (V2+D4) (-D4)
  obtain⟨r1,r2⟩:=hD1.mul hD1
  obtain⟨r3,r4⟩:=hD2.mul hD2
  obtain⟨r5,r6⟩:=hD3.mul hD3
  obtain⟨r7,r8⟩:=hD4.mul hD4
  have m5:(h*g*A)*(h*g*A)+(-(h*g*B))*(-(h*g*B))=n*(a*(h*h)):=li 0x4d31124844511023ce1094d31121121134c44444440904048412534044844d01121044d01111054d01111051023ce4d3104121326 hg hA
  have m6:4*(n*(a*(h*h)))≤62/100*(n*(a+b-2*d)):=by
   have i17:=Rat.mul_nonneg (show 0≤n from li 0xe8e5063906fa6f331e39418e41853be9bccc78418a874614f8410e499d1c13e499d2a2 na bA.1 bA.2) (show 0≤62/100*(a+b-2*d)-4*a*(h*h) from li 0x24051110404121f818e41913c28813840c4847061f818e41913c28813840c49014444101040e12a4 hha)
   exact li 0x14a1f818e41914028813c40c490144438e1040c484790149138e10410487e0639064914028813c40c41212a5 i17
  have m7:V1*V1+V2*V2≤12/10*((V1+D3)*(V1+D3)+(V2+D4)*(V2+D4))+6*(D3*D3+D4*D4):=li 0xf38238508f382385084b01a863ce08f3821049813853851040a11d1402405091402405084b01a864500914021049814054051040a11d14443cf102b01a8645009140210f3823ce08408498141010e3840840a12a4 m3 m4
  have s1:=mul_self_nonneg' (V1+D3)
  have s2:=mul_self_nonneg' (V2+D4)
  have m8:4*((-(h*g*B)+D1)*(-(h*g*B)+D1)+(h*g*A+D2)*(h*g*A+D2))≤4*(12/10*(n*(a*(h*h)))+6*(D1*D1+D2*D2)):=li 0xe015541111155044441155044c41555044c414408f395544104255504444402554111110084b01a865541111155044441049814101040b41d55044c41520955044c4152084b01a865541131055541131051049814921040b41e40555044c41520955044c415208455411111009550444440210212406c06a18f3955441041260524844101021021252a8 m1 m2 m5
  generalize (V1+D3)*(V1+D3)=Z1 at *
  generalize (V2+D4)*(V2+D4)=Z2 at *
  exact li 0xbc0bc012e02e0040ac06a18f3821260545044d31021028bbdeaa5d1c13ad9bea5d1c13ed9bea5d1e40524444041560924444041560844911171150924445c454210212406c06a19b692484104126056584555102102123ee9aa97479016da49210410487e0639066da6428816040c412ee6ea9d1d34c48418a67468418a6746121de19aa74751412106299d1a106299d184877866a9d1d55448418a67468418a6746122fb6b1d1d65848418a67468418a6746122fb6b1d1d78e50639068b58478e50639061578b58478bbdeaa5d045bc0bc012e02e00409b6990a20581031099014911101055824911101055821124445c45424911171150840843ce0a406606299d1849818a67461028fba6aa5d2b0 hch bA.1 bA.2 r2 r4 r6 r8 m6 m8 s1 s2 m7
noncomputable def val(p:Pr):Rat:=(p.1:Rat)/(p.2:Rat)
theorem icast_pos{b:Int}(h:0<b):(0:Rat)<(b:Rat):=by
 have i1:=Rat.intCast_lt_intCast.mpr h
 simpa using i1
theorem fd_ex(a:Int){b:Int}(h:0<b):∃θ:Rat,0≤θ∧θ<1∧((a.fdiv b:Int):Rat)=(a:Rat)/b-θ:=by
 have hb:=icast_pos h
 have e:a.fdiv b=a/b:=Int.fdiv_eq_ediv_of_nonneg a (Int.le_of_lt h)
 have h1:=Int.mul_ediv_self_le (x:=a) (k:=b) (by exact fun o_=>lI 0x8413812413a1221 h o_)
 have h2:=Int.lt_mul_ediv_self_add (x:=a) (k:=b) h
 rw[←e] at h1 h2
 have h3:=Rat.intCast_le_intCast.mpr h1
 have h4:=Rat.intCast_lt_intCast.mpr h2
 push_cast at h3 h4
 have e2:((a:Rat)/b-((a.fdiv b:Int):Rat))*b=a-b*((a.fdiv b:Int):Rat):=li 0x84145010f2513834043d03840e1324 (Rat.div_mul_cancel (Rat.ne_of_gt (li 0x13a12013a12e1 hb)))
 generalize ((a.fdiv b:Int):Rat)=q at *
 refine⟨(a:Rat)/b-q,?_,?_,li 0xf38e3c30e1322⟩
 ·generalize (a:Rat)/b-q=θ at *
  rcases rt 0 θ with k |k
  ·exact k
  ·have h5:=Rat.mul_nonneg (show 0≤-θ from li 0x38184704e1612a1 k) (Rat.le_of_lt hb)
   have h6:θ*b=0:=Rat.le_antisymm (li 0x4f14e1211cf3840612a2 h5) (li 0x2104539110f4501032514043e11c13911212a4 h3 e2)
   rcases Rat.mul_eq_zero.mp h6 with h |h
   ·exact li 0x210453812413a12a1 h
   ·exact li 0x2104f04904f84804e2a2 hb h
 ·generalize (a:Rat)/b-q=θ at *
  rcases rt 1 θ with k |k
  ·have h5:=Rat.mul_nonneg (show 0≤θ-1 from li 0x2104e84704e8410e12a1 k) (Rat.le_of_lt hb)
   exact li 0x13a104340484784139011140f10325140f1100a120e8412e4 h4 e2 h5
  ·rcases Classical.em (θ=1) with h |h
   ·subst h
    exact li 0x8418413c440f3840c940f3843c28488418412e3 h4 e2
   ·grind
theorem gcd_dvd(t b:Int):gcdI t b∣t∧gcdI t b∣b:=⟨Int.gcd_dvd_left ..,Int.gcd_dvd_right ..⟩
theorem val_frac{t b:Int}(hb:0<b):val (frac t b)=(t:Rat)/b∧0<(frac t b).2:=by
 have hg:0<gcdI t b:=by
  unfold gcdI
  have i1:0<Int.gcd t b:=Int.gcd_pos_of_ne_zero_right _ (by exact fun o_=>lI 0x8413812413a1221 hb o_)
  omega
 obtain⟨⟨u,hu⟩,⟨v,hv⟩⟩:=gcd_dvd t b
 have e1:t.fdiv (gcdI t b)=u:=by
  rw[Int.fdiv_eq_ediv_of_nonneg _ (Int.le_of_lt hg)]
  conv=>lhs;arg 1;rw[hu]
  exact Int.mul_ediv_cancel_left _ (by exact fun o_=>lI 0x8413812413a1221 hg o_)
 have e2:b.fdiv (gcdI t b)=v:=by
  rw[Int.fdiv_eq_ediv_of_nonneg _ (Int.le_of_lt hg)]
  conv=>lhs;arg 1;rw[hv]
  exact Int.mul_ediv_cancel_left _ (by exact fun o_=>lI 0x8413812413a1221 hg o_)
 have hv0:0<v:=by
  rcases Int.lt_or_le 0 v with h |h
  ·exact h
  ·have i2:=Int.mul_nonneg_of_nonpos_of_nonpos (a:= -gcdI t b) (b:=v) (by exact lI 0x4e8483850612a1 hg) h
   have e: -gcdI t b*v= -b:=by rw[Int.neg_mul,←hv]
   exact lI 0x4f14e1211e10503ce10905084804e2e3 hb hv i2
 refine⟨?_,by show 0<b.fdiv (gcdI t b);rw[e2];exact hv0⟩
 show((t.fdiv (gcdI t b):Int):Rat)/((b.fdiv (gcdI t b):Int):Rat)=(t:Rat)/b
 rw[e1,e2]
 have hG:=icast_pos hg
 have hV:=icast_pos hv0
 have c1:(t:Rat)=(gcdI t b:Rat)*u:=by rw[←Rat.intCast_mul,←hu]
 have c2:(b:Rat)=(gcdI t b:Rat)*v:=by rw[←Rat.intCast_mul,←hv]
 rw[c1,c2]
 generalize (gcdI t b:Rat)=G at *
 grind
theorem val_plus{a b:Pr}(ha:0<a.2)(hb:0<b.2):val (plusF a b)=val a+val b∧0<(plusF a b).2:=by
 have h:=val_frac (t:=a.1*b.2+b.1*a.2) (Int.mul_pos ha hb)
 refine⟨h.1.trans ?_,h.2⟩
 have h1:=icast_pos ha
 have h2:=icast_pos hb
 unfold val
 push_cast
 grind
theorem val_minus{a b:Pr}(ha:0<a.2)(hb:0<b.2):val (minusF a b)=val a-val b∧0<(minusF a b).2:=by
 have h:=val_frac (t:=a.1*b.2-b.1*a.2) (Int.mul_pos ha hb)
 refine⟨h.1.trans ?_,h.2⟩
 have h1:=icast_pos ha
 have h2:=icast_pos hb
 unfold val
 push_cast
 grind
theorem val_times{a b:Pr}(ha:0<a.2)(hb:0<b.2):val (timesF a b)=val a*val b∧0<(timesF a b).2:=by
 have h:=val_frac (t:=a.1*b.1) (Int.mul_pos ha hb)
 refine⟨h.1.trans ?_,h.2⟩
 have h1:=icast_pos ha
 have h2:=icast_pos hb
 unfold val
 push_cast
 grind
theorem rounded_ex(a:Pr)(h:0<a.2):∃θ:Rat,Bd θ (1/2)∧((roundedF a:Int):Rat)=val a+θ:=by
 obtain⟨θ,h0,h1,e⟩:=fd_ex (2*a.1+a.2) (show 0<2*a.2 from lI 0x4e88806204e1212e1 h)
 refine⟨1/2-θ,⟨li 0xe84184884188616106218e0e12a1 h1,li 0x13a11e106218e0e10621a12a1 h0⟩,?_⟩
 unfold roundedF val
 rw[e]
 have i1:=icast_pos h
 push_cast
 grind
theorem place_gen{c s z1 z2 A B ρ θ1 θ2 θ3 θ4 θ5 X0 Y0 l R pl one:Rat}(hc:Bd c (101/100))(hs:Bd s (101/100))(hz1:Bd z1 4)(hz2:Bd z2 4)
  (hρ:1152921504606846976≤ρ)(hA:Bd (A-ρ) (1/2))(hB:Bd (s*(B-ρ)) 1)
  (t1:Bd θ1 1)(t2:Bd θ2 1)(t3:Bd θ3 1)(t4:Bd θ4 (1/2))(t5:Bd θ5 1)
  (hX:X0=z1*A-θ1)(hY:Y0=z2*B-θ2)(hl:l=c*X0-s*Y0-θ3)(hR:R=l/1099511627776+θ4)(hpl:pl=(one+R*1099511627776/ρ)*1000000000-θ5):
  Bd (pl/1000000000-(one+c*z1-s*z2)) (48/100000000):=by
 have e1:R*1099511627776=(c*z1-s*z2)*ρ+(c*z1*(A-ρ)-z2*(s*(B-ρ))-c*θ1+s*θ2-θ3+1099511627776*θ4):=li 0x23a1c0504a3a1c18f0898414ae01b1175840d10c95c55955044c326e01b6991180c9423a1c044b806845d5103384b8068464e0c455750e0c4103b806040d74c40910e3a1c04f1020a132f hX hY hl hR
 obtain⟨a1,a2⟩:=(hc.mul hz1).mul hA
 obtain⟨a3,a4⟩:=hz2.mul hB
 obtain⟨a5,a6⟩:=hc.mul t1
 obtain⟨a7,a8⟩:=hs.mul t2
 obtain⟨a9,a10⟩:=t3
 obtain⟨a11,a12⟩:=t4
 obtain⟨a13,a14⟩:=t5
 have e2:Bd (c*z1*(A-ρ)-z2*(s*(B-ρ))-c*θ1+s*θ2-θ3+1099511627776*θ4) (549755814000):=by constructor;exact li 0x210621853a3a1c1cf8418478e50639068411054d01211d84448e50639068411211d44d25431049018411211e39418e41a40448418861056171165431211f0820820823c011585c45950c45134950c41036111034d01023c38e87013840a12ab a1 a4 a6 a7 a10 a11;exact li 0x3a10621a3a1c1e10453e11d34048e50639068411211e39418e41a10441584448479018411055134950c41211d85c45950c48e50639069011210621848476171165431144d25431040d84440d340408f0e3a1c04e102c208208208f00612ab a2 a3 a5 a8 a9 a12
 generalize c*z1*(A-ρ)-z2*(s*(B-ρ))-c*θ1+s*θ2-θ3+1099511627776*θ4=W at *
 have hρ0:ρ≠0:=fun o_=>li 0x2104e0498fc7013a11e1 hρ o_
 have e3:pl/1000000000-(one+c*z1-s*z2)=W/ρ-θ5/1000000000:=by rw[hpl,e1];grind
 have e4:Bd (W/ρ) (477/1000000000):=by
  have q:Bd ((ρ/1152921504606846976)*(W/ρ)) (477/1000000000):=by
   have i1:(ρ/1152921504606846976)*(W/ρ)=W/1152921504606846976:=li 0x84140f10e24f8fc7064043a3f1c1a3f1c323 (Rat.div_mul_cancel (Rat.ne_of_gt (li 0x8fc7013a11c13a12e1 hρ)))
   rw[i1]
   obtain⟨b1,b2⟩:=e2
   constructor;exact li 0xec208208208f0066faad66aa897f1f0820820823c0114e867df9875ab9d77ea11eef418a974614e8fc706867df28ead73aefd23f5c2a1 b1 b2;exact li 0x3b0820820823c01867df9875ab9d77ea11f0820820823c0114e9beab59aaa25fc73a3f1c1aef418a9746867df28ead73aefd23f5c2a1 b1 b2
  exact bd_div (li 0x23f1c04e8478413a3f1c1a3f1c2a1 hρ) q
 rw[e3]
 obtain⟨b1,b2⟩:=e4
 constructor;exact li 0xbbd062a5d1853a1838cadeacb1d1cfc208208208f00611f0820820823c0114f847421070820820823c07870062a1d1853908a97460e1838cadeacb1d2a3 a14 e2.1 e2.2 b1;exact li 0xebbd062a5d1a1838cadeacb1d1cfc208208208f00611f0820820823c0114f847841150c208208208f01ce422a5d183870062a1d1a1838cadeacb1d2a3 a13 e2.1 e2.2 b2
structure Geo(C S A B T:Int)(rx ry:Pr):Prop where
 T0:0<T
 rx0:0<rx.1
 rx1:0<rx.2
 ry0:0<ry.1
 ry1:0<ry.2
 hx:1152921504606846976≤val rx*T*1099511627776
 hy:1152921504606846976≤val ry*T*1099511627776
 hA:Bd ((A:Rat)-val rx*T*1099511627776) (1/2)
 hB:Bd ((B:Rat)-val ry*T*1099511627776) (1/2)
 cc:Bd ((C:Rat)/1152921504606846976) (101/100)
 ss:Bd ((S:Rat)/1152921504606846976) (101/100)
 sA:Bd ((S:Rat)/1152921504606846976*((A:Rat)-val ry*T*1099511627776)) 1
 sB:Bd ((S:Rat)/1152921504606846976*((B:Rat)-val rx*T*1099511627776)) 1
theorem back_ex{x b r:Pr}(hx:0<x.2)(hb:0<b.2)(h0:0<r.1)(h1:0<r.2):∃θ:Rat,0≤θ∧θ<1∧((backC x b r:Int):Rat)=(val x-val b)/val r*1000000000-θ:=by
 obtain⟨θ,a,c,e⟩:=fd_ex ((x.1*b.2-b.1*x.2)*r.2*1000000000) (show 0<x.2*b.2*r.1 from Int.mul_pos (Int.mul_pos hx hb) h0)
 refine⟨θ,a,c,?_⟩
 unfold backC
 rw[e]
 have q1:=icast_pos hx
 have q2:=icast_pos hb
 have q3:=icast_pos h0
 have q4:=icast_pos h1
 unfold val
 push_cast
 generalize (x.2:Rat)=x2 at *
 generalize (b.2:Rat)=b2 at *
 generalize (r.1:Rat)=r1 at *
 generalize (r.2:Rat)=r2 at *
 have i1:x2≠0:=fun o_=>li 0x8413812413a1221 q1 o_
 have i2:b2≠0:=fun o_=>li 0x8413812413a1221 q2 o_
 have i3:r1≠0:=fun o_=>li 0x8413812413a1221 q3 o_
 have i4:r2≠0:=fun o_=>li 0x8413812413a1221 q4 o_
 grind
theorem pos_val{r:Pr}(h0:0<r.1)(h1:0<r.2):0<val r:=by
 have q3:=icast_pos h0
 have q4:=icast_pos h1
 unfold val
 generalize (r.1:Rat)=x at *
 generalize (r.2:Rat)=y at *
 have e:x/y*y=x:=li 0x84140f10e2503c43a1323 (Rat.div_mul_cancel (Rat.ne_of_gt (li 0x13a12013a12e1 q4)))
 rcases rt (x/y) 0 with k |k
 ·have i1:=Rat.mul_nonneg (show 0≤-(x/y) from li 0x38184704e1612a1 k) (Rat.le_of_lt q4)
  exact li 0x13c538484784114f38440905084804f2e3 q3 e i1
 ·rcases Classical.em (x/y=0) with h |h
  ·rw[h] at e;exact li 0x8411413c440905084804e2e3 q3 e
  ·grind
theorem pl_eq{o r R t c z:Rat}(i1:r≠0)(i2:t≠0):(c+o*r+R/t-c)/r*1000000000-z=(o+R*1099511627776/(r*t*1099511627776))*1000000000-z:=by grind
theorem point_place{C S A B T K0 K1 v0 v1:Int}{rx ry:Pr}{centre p:Pt}{o1 o2:Rat}(g:Geo C S A B T rx ry)(hp1:0<p.1.2)(hp2:0<p.2.2)(hc1:0<centre.1.2)(hc2:0<centre.2.2)
  (e1:val p.1=val centre.1+o1*val rx)(e2:val p.2=val centre.2+o2*val ry)
  (hz1:Bd (((K0+v0:Int):Rat)/1152921504606846976) 4)(hz2:Bd (((K1+v1:Int):Rat)/1152921504606846976) 4):
  Bd (((backL (pointF ⟨A,B,C,S⟩ (K0,K1) (v0,v1) p T) (rx,ry) centre).1:Int)/1000000000-(o1+(C:Rat)/1152921504606846976*(((K0+v0:Int):Rat)/1152921504606846976)-(S:Rat)/1152921504606846976*(((K1+v1:Int):Rat)/1152921504606846976))) (48/100000000)∧
  Bd (((backL (pointF ⟨A,B,C,S⟩ (K0,K1) (v0,v1) p T) (rx,ry) centre).2:Int)/1000000000-(o2+(S:Rat)/1152921504606846976*(((K0+v0:Int):Rat)/1152921504606846976)+(C:Rat)/1152921504606846976*(((K1+v1:Int):Rat)/1152921504606846976))) (48/100000000):=by
 have hP:(0:Int)<PARTS:=by decide
 obtain⟨t1,t1a,t1b,f1⟩:=fd_ex ((K0+v0)*A) hP
 obtain⟨t2,t2a,t2b,f2⟩:=fd_ex ((K1+v1)*B) hP
 have rv:=pos_val g.rx0 g.rx1
 have rw':=pos_val g.ry0 g.ry1
 have hT:=icast_pos g.T0
 have eP:((PARTS:Int):Rat)=1152921504606846976:=by rfl
 constructor
 ·obtain⟨t3,t3a,t3b,f3⟩:=fd_ex (C*((K0+v0)*A).fdiv PARTS-S*((K1+v1)*B).fdiv PARTS) hP
  obtain⟨t4,t4a,f4⟩:=rounded_ex ((C*((K0+v0)*A).fdiv PARTS-S*((K1+v1)*B).fdiv PARTS).fdiv PARTS,MANY) (by show 0<MANY;decide)
  have f5:=val_frac (t:=roundedF ((C*((K0+v0)*A).fdiv PARTS-S*((K1+v1)*B).fdiv PARTS).fdiv PARTS,MANY)) g.T0
  have f6:=val_plus hp1 f5.2
  obtain⟨t5,t5a,t5b,f7⟩:=back_ex f6.2 hc1 g.rx0 g.rx1
  show Bd (((backC (plusF p.1 (frac (roundedF ((C*((K0+v0)*A).fdiv PARTS-S*((K1+v1)*B).fdiv PARTS).fdiv PARTS,MANY)) T)) centre.1 rx:Int):Rat)/1000000000-_) _
  refine place_gen (A:=A) (B:=B) (X0:=((((K0+v0)*A).fdiv PARTS:Int):Rat)) (Y0:=((((K1+v1)*B).fdiv PARTS:Int):Rat)) (l:=(((C*((K0+v0)*A).fdiv PARTS-S*((K1+v1)*B).fdiv PARTS).fdiv PARTS:Int):Rat)) (R:=((roundedF ((C*((K0+v0)*A).fdiv PARTS-S*((K1+v1)*B).fdiv PARTS).fdiv PARTS,MANY):Int):Rat))
   (θ1:=t1) (θ2:=t2) (θ3:=t3) (θ4:=t4) (θ5:=t5) g.cc g.ss hz1 hz2 g.hx g.hA g.sB ⟨li 0x4ea073e3f1c1a40611e40453e3f1c1a11e10453a82a2 hz1.1 hz1.2 t1a,li 0xe8418483a10612a1 t1b⟩ ⟨li 0x4ea073e3f1c1a40611e40453e3f1c1a11e10453a82a2 hz1.1 hz1.2 t2a,li 0xe8418483a10612a1 t2b⟩ ⟨li 0x4ea073e3f1c1a40611e40453e3f1c1a11e10453a82a2 hz1.1 hz1.2 t3a,li 0xe8418483a10612a1 t3b⟩ t4a ⟨li 0x4ea073e3f1c1a40611e40453e3f1c1a11e10453a82a2 hz1.1 hz1.2 t5a,li 0xe8418483a10612a1 t5b⟩ ?_ ?_ ?_ ?_ ?_
  ·rw[f1,eP];push_cast;exact li 0x114023c48fc7063834500a3f1c18f10e0e1324
  ·rw[f2,eP];push_cast;exact li 0x114023c48fc7063834500a3f1c18f10e0e1324
  ·rw[f3,eP];push_cast;exact li 0x1244440f1038fc7063834a3f1c1911108fc7063c40ce0e1325
  ·rw[f4];rfl
  ·rw[f7,f6.1,f5.1,e1]
   exact pl_eq (fun o_=>li 0x8413812413a1221 rv o_) fun o_=>li 0x8413812413a1221 hT o_
 ·obtain⟨t3,t3a,t3b,f3⟩:=fd_ex (S*((K0+v0)*A).fdiv PARTS+C*((K1+v1)*B).fdiv PARTS) hP
  obtain⟨t4,t4a,f4⟩:=rounded_ex ((S*((K0+v0)*A).fdiv PARTS+C*((K1+v1)*B).fdiv PARTS).fdiv PARTS,MANY) (by show 0<MANY;decide)
  have f5:=val_frac (t:=roundedF ((S*((K0+v0)*A).fdiv PARTS+C*((K1+v1)*B).fdiv PARTS).fdiv PARTS,MANY)) g.T0
  have f6:=val_plus hp2 f5.2
  obtain⟨t5,t5a,t5b,f7⟩:=back_ex f6.2 hc2 g.ry0 g.ry1
  show Bd (((backC (plusF p.2 (frac (roundedF ((S*((K0+v0)*A).fdiv PARTS+C*((K1+v1)*B).fdiv PARTS).fdiv PARTS,MANY)) T)) centre.2 ry:Int):Rat)/1000000000-_) _
  have sA':Bd (-((S:Rat)/1152921504606846976)*((A:Rat)-val ry*T*1099511627776)) 1:=by
   obtain⟨q1,q2⟩:=g.sA
   constructor;exact li 0x118fc70640f3848e87011031210611e1045463f1c18540f3848e87011031212a4 q2;exact li 0x21045463f1c1903ce123a1c0440c4847463f1c18540f3848e87011031210612a4 q1
  have ss':Bd (-((S:Rat)/1152921504606846976)) (101/100):=by
   obtain⟨q1,q2⟩:=g.ss
   constructor;exact li 0xe8fc7068e50639068478e506390614e8fc7061612a1 q2;exact li 0x239418e41853a3f1c1a11ce8fc7061639418e41a12a1 q1
  have key:=place_gen (A:=B) (B:=A) (X0:=((((K1+v1)*B).fdiv PARTS:Int):Rat)) (Y0:=((((K0+v0)*A).fdiv PARTS:Int):Rat)) (l:=(((S*((K0+v0)*A).fdiv PARTS+C*((K1+v1)*B).fdiv PARTS).fdiv PARTS:Int):Rat)) (R:=((roundedF ((S*((K0+v0)*A).fdiv PARTS+C*((K1+v1)*B).fdiv PARTS).fdiv PARTS,MANY):Int):Rat))
   (θ1:=t2) (θ2:=t1) (θ3:=t3) (θ4:=t4) (θ5:=t5) (one:=o2) (pl:=((backC (plusF p.2 (frac (roundedF ((S*((K0+v0)*A).fdiv PARTS+C*((K1+v1)*B).fdiv PARTS).fdiv PARTS,MANY)) T)) centre.2 ry:Int):Rat)) g.cc ss' hz2 hz1 g.hy g.hB sA' ⟨li 0x4ea073e3f1c1a40611e40453e3f1c1a11e10453a82a2 hz1.1 hz1.2 t2a,li 0xe8418483a10612a1 t2b⟩ ⟨li 0x4ea073e3f1c1a40611e40453e3f1c1a11e10453a82a2 hz1.1 hz1.2 t1a,li 0xe8418483a10612a1 t1b⟩ ⟨li 0x4ea073e3f1c1a40611e40453e3f1c1a11e10453a82a2 hz1.1 hz1.2 t3a,li 0xe8418483a10612a1 t3b⟩ t4a ⟨li 0x4ea073e3f1c1a40611e40453e3f1c1a11e10453a82a2 hz1.1 hz1.2 t5a,li 0xe8418483a10612a1 t5b⟩
   (by rw[f2,eP];push_cast;exact li 0x114023c48fc7063834500a3f1c18f10e0e1324) (by rw[f1,eP];push_cast;exact li 0x114023c48fc7063834500a3f1c18f10e0e1324) (by rw[f3,eP];push_cast;exact li 0x4911103c40a3f1c18e0d08fc7063c44a3f1c1854440ce0e1325) (by rw[f4];rfl) (by
    rw[f7,f6.1,f5.1,e2]
    exact pl_eq (fun o_=>li 0x8413812413a1221 rw' o_) fun o_=>li 0x8413812413a1221 hT o_)
  obtain⟨q1,q2⟩:=key
  constructor;exact li 0x870062a1d1854e2a5d192463f1c1908fc7061023e3f1c1853a3f1c1840c3847870062a1d1854e2a5d1923e3f1c18e8fc706102463f1c1908fc7061020e12a6 q1;exact li 0x4e2a5d192463f1c1908fc7061023e3f1c1853a3f1c1840c3870062a1d1a11d38a974648f8fc7063a3f1c1840918fc706423f1c184083870062a1d1a12a6 q2
structure Pl(c s:Rat)(p:Pr)(m1 m2:Rat):Prop where
 x:Bd ((p.1:Rat)/1000000000-(c*m1-s*m2)) (1/2000000)
 y:Bd ((p.2:Rat)/1000000000-(s*m1+c*m2)) (1/2000000)
theorem absI_le{z:Int}{k:Int}(h1: -k≤z)(h2:z≤k):absI z≤k:=by unfold absI;split;exact lI 0xf14e8473853e12a2 h1;exact lI 0xf3a11cf3a12a2 h2
theorem absI_cast(z:Int):0≤absI z:=by unfold absI;split <;> omega
theorem le_cast{a b:Int}(h:(a:Rat)≤b):a≤b:=Rat.intCast_le_intCast.mp h
theorem circ_of{w0 w1 w2 w3 off:Int}{p0 p1 p2 p3:Pr}{r:Rat}(h0:0≤off)(hr:r*off≤4096)
  (h:Bd (((wsum w0 w1 w2 w3 p0.1 p1.1 p2.1 p3.1:Int):Rat)/1000000000*(((wsum w0 w1 w2 w3 p0.1 p1.1 p2.1 p3.1:Int):Rat)/1000000000)+((wsum w0 w1 w2 w3 p0.2 p1.2 p2.2 p3.2:Int):Rat)/1000000000*(((wsum w0 w1 w2 w3 p0.2 p1.2 p2.2 p3.2:Int):Rat)/1000000000)-4096) r):
  circOk w0 w1 w2 w3 off p0 p1 p2 p3:=by
 unfold circOk
 generalize wsum w0 w1 w2 w3 p0.1 p1.1 p2.1 p3.1=X at *
 generalize wsum w0 w1 w2 w3 p0.2 p1.2 p2.2 p3.2=Y at *
 obtain⟨h1,h2⟩:=h
 have ho:(0:Rat)≤off:=by simpa using Rat.intCast_le_intCast.mpr h0
 have k1:=Rat.mul_nonneg ho (show 0≤r-((X:Rat)/1000000000*((X:Rat)/1000000000)+(Y:Rat)/1000000000*((Y:Rat)/1000000000)-4096) from li 0x108a9746422a5d1843e2a5d18f8a97461029208010ce84704e422a5d1908a974610f8a97463e2a5d1840a48200430e12a3 h2)
 have k2:=Rat.mul_nonneg ho (show 0≤r+((X:Rat)/1000000000*((X:Rat)/1000000000)+(Y:Rat)/1000000000*((Y:Rat)/1000000000)-4096) from li 0x4053e2a5d18f8a974610e8a97463a2a5d1840a48200438470503e2a5d18f8a974610e8a97463a2a5d1840a48200430a12a3 h1)
 have e1:(X*X+Y*Y-BIG)*off≤BIG:=by
  apply le_cast
  unfold BIG
  push_cast
  exact li 0x14113e2a5d18f8a974610e8a97463a2a5d1840a48200430c48b2747450124820062c9d1cf3c438e102a208327410d0128820c9d0612a4 hr k1
 have e2: -(X*X+Y*Y-BIG)*off≤BIG:=by
  apply le_cast
  unfold BIG
  push_cast
  exact li 0x5044f8a97463e2a5d1843a2a5d18e8a97461029208010c2122c9d1d14049208018b27473cf10e3840a8820c9d043150128820c9d0612a4 hr k2
 unfold absI
 split
 ·exact e2
 ·exact e1
theorem wsum_pl{c s:Rat}{p0 p1 p2 p3:Pr}{a1 a2 b1 b2 c1 c2 d1 d2:Rat}(h0:Pl c s p0 a1 a2)(h1:Pl c s p1 b1 b2)(h2:Pl c s p2 c1 c2)(h3:Pl c s p3 d1 d2){w0 w1 w2 w3:Int}(k0:0≤w0)(k1:0≤w1)(k2:0≤w2)(k3:0≤w3)(hw:w0+w1+w2+w3=64):
  ∃e f:Rat,Bd e (64/2000000)∧Bd f (64/2000000)∧
   ((wsum w0 w1 w2 w3 p0.1 p1.1 p2.1 p3.1:Int):Rat)/1000000000=c*(w0*a1+w1*b1+w2*c1+w3*d1)-s*(w0*a2+w1*b2+w2*c2+w3*d2)+e∧
   ((wsum w0 w1 w2 w3 p0.2 p1.2 p2.2 p3.2:Int):Rat)/1000000000=s*(w0*a1+w1*b1+w2*c1+w3*d1)+c*(w0*a2+w1*b2+w2*c2+w3*d2)+f:=by
 have c0:∀{w:Int},0≤w→(0:Rat)≤w:=fun h=>by simpa using Rat.intCast_le_intCast.mpr h
 have hw':(w0:Rat)+w1+w2+w3=64:=by have i1:=congrArg (fun z:Int=>(z:Rat)) hw;push_cast at i1;exact i1
 have mk:∀{e0 e1 e2 e3:Rat},Bd e0 (1/2000000)→Bd e1 (1/2000000)→Bd e2 (1/2000000)→Bd e3 (1/2000000)→Bd (w0*e0+w1*e1+w2*e2+w3*e3) (64/2000000):=by
  intro e0 e1 e2 e3 h0 h1 h2 h3
  have t:∀{w e:Rat},0≤w→Bd e (1/2000000)→-(w*(1/2000000))≤w*e∧w*e≤w*(1/2000000):=by
   intro w e hw he
   obtain⟨a,b⟩:=he
   have i2:=Rat.mul_nonneg hw (show 0≤e+1/2000000 from li 0x84192674614e84704e8419267460a12a1 a)
   have i3:=Rat.mul_nonneg hw (show 0≤1/2000000-e from li 0xe84192674684706106499d18e0e12a1 b)
   constructor;exact li 0x4f3a106499d1821211cf8419267461053ce1212a2 i2;exact li 0x13e106499d18e0c48473ce10f8419267461212a2 i3
  have q0:=t (c0 k0) h0
  have q1:=t (c0 k1) h1
  have q2:=t (c0 k2) h2
  have q3:=t (c0 k3) h3
  constructor;exact li 0x1284192674610548e12499d1d38419267461054cf12499d1d484192674610551012499d1d584192674610555112499d1e10555024c24828a00498a006499d1855511144040933c40923840a499d2a8 hw' q0.1 q1.1 q2.1 q3.1;exact li 0x48e11284192674612499d1d33c44e106499d18492674751011484192674612499d1d544456106499d1849267478415540930920a28012554445101024cf10248e1028a006499d1a499d2a8 hw' q0.2 q1.2 q2.2 q3.2
 refine⟨_,_,mk h0.x h1.x h2.x h3.x,mk h0.y h1.y h2.y h3.y,?_,?_⟩
 ·unfold wsum;push_cast;exact li 0x31030004bc0b801026da1026581028a97465f101612f0151026d4102653102112c40444bc040409b3c40993840840f1030022a5d1975844911030c4bc0b808a97465d51124040c31026da8a97465d41123c40c31026588a97465d31123840c31020a1332
 ·unfold wsum;push_cast;exact li 0x31030004bc0b801026da1026581028a97465f101612f0151026d4102653102112c40444bc040409b3c40993840840b1030022a5d1975844911020c4bc0b808a97465d51124040831026da8a97465d41123c40831026588a97465d31123840831020a1332
theorem cv_checks{c s n:Rat}(hn:c*c+s*s=n)(hn1:Bd (n-1) (1/100000000)){u1 u2 w1 w2 h a b d x:Rat}{g:Int}(hg:g*g=1)
  (ha:u1*u1+u2*u2=a)(hb:w1*w1+w2*w2=b)(hd:u1*w1+u2*w2=d)(hx:g*(u1*w2-u2*w1)=x){c':Rat}(P:Pd a b d x c' h)
  {p0 p1 p2 p3:Pr}(h0:Pl c s p0 u1 u2)(h1:Pl c s p1 (u1-h*g*u2) (u2+h*g*u1))(h2:Pl c s p2 (w1+h*g*w2) (w2-h*g*w1))(h3:Pl c s p3 w1 w2):
  OnCircle p0 p1 p2 p3∧Begins p0 p1 p3 g∧Begins p3 p2 p0 (0-g):=by
 have hg':(g:Rat)*g=1:=by have i1:=congrArg (fun z:Int=>(z:Rat)) hg;push_cast at i1;exact i1
 obtain⟨r1,r2,r3⟩:=P.cir
 have hyy:(h*g)*(h*g)=h*h:=li 0x3cf10e38484124f3843ce1043cf121322 hg'
 have hyx:(h*g)*(u1*w2-u2*w1)=h*x:=by rw[←hx];exact li 0x1348445010f3840c44d245010f3840c4121326
 obtain⟨aa1,aa2⟩:=P.f_a
 obtain⟨bb1,bb2⟩:=P.f_b
 have K:∀(w0 v1 v2 w3 off:Int) (r F:Rat),0≤w0→0≤v1→0≤v2→0≤w3→w0+v1+v2+w3=64→0≤off→r≤5→(r+1/100)*off≤4096→Bd (F-4096) r→
   (w0*u1+v1*(u1-h*g*u2)+v2*(w1+h*g*w2)+w3*w1)*(w0*u1+v1*(u1-h*g*u2)+v2*(w1+h*g*w2)+w3*w1)+(w0*u2+v1*(u2+h*g*u1)+v2*(w2-h*g*w1)+w3*w2)*(w0*u2+v1*(u2+h*g*u1)+v2*(w2-h*g*w1)+w3*w2)=F→
   circOk w0 v1 v2 w3 off p0 p1 p2 p3:=by
  intro w0 v1 v2 w3 off r F k0 k1 k2 k3 hw ho hr hro hF eF
  obtain⟨e,f,he,hf,ex,ey⟩:=wsum_pl h0 h1 h2 h3 k0 k1 k2 k3 hw
  refine circ_of (r:=r+1/100) ho hro ?_
  rw[ex,ey]
  exact mix hn hn1 eF hF hr he hf
 have fin:∀{here inner there:Pr} {g:Int} {u1 u2 w1 w2 a b d:Rat},g*g=1→u1*u1+u2*u2=a→w1*w1+w2*w2=b→u1*w1+u2*w2=d→Bd (a-1) (1/25000000)→4*a*(h*h)≤62/100*(a+b-2*d)→
   Pl c s here u1 u2→Pl c s inner (u1-h*g*u2) (u2+h*g*u1)→Pl c s there w1 w2→Begins here inner there g:=by
  intro here inner there g u1 u2 w1 w2 a b d hg ha hb hd ha1 hha p q r
  have hg':(g:Rat)*g=1:=by have i2:=congrArg (fun z:Int=>(z:Rat)) hg;push_cast at i2;exact i2
  obtain⟨b1,b2,b3⟩:=beg hn hn1 hg' P.f_h0 P.f_h1 ha hb hd ha1 hha p.x p.y q.x q.y r.x r.y (hX:=here.1/1000000000) (hY:=here.2/1000000000) (iX:=inner.1/1000000000) (iY:=inner.2/1000000000) (tX:=there.1/1000000000) (tY:=there.2/1000000000)
   (li 0x128a974645010f3840d28a974645010f3840c30a1325) (li 0x128a974645010f3840928a974645010f3840830a1325) (li 0x148a97464d245010f10310e3d14044840840d48a97464d245010f10310e3d14044840840c30a1327) (li 0x148a97464d245010f10310e3d14044840840948a97464d245010f10310e3d14044840840830a1327) (li 0x128a974645010f3840d28a974645010f3840c30a1325) (li 0x128a974645010f3840928a974645010f3840830a1325)
  obtain⟨b11,b12⟩:=b1
  refine⟨absI_le ?_ ?_,?_,?_⟩
  ·apply le_cast;unfold dotI;push_cast;exact li 0x2606299d185462a5d1908a97460d08a974610f8a97463a2a5d1833a2a5d1840a2c9d1ecb1d0454500d010f3833840a12a4 b11
  ·apply le_cast;unfold dotI;push_cast;exact li 0x118a9746422a5d183422a5d1843e2a5d18e8a97460ce8a97461029818a67468b27474500d010f3833840acb1d0612a4 b12
  ·apply le_cast;unfold crossI;push_cast;exact li 0x2606299d1854a2a5d1918a9746422a5d1831108a97463e2a5d1928a97460c40ce122c9d1ecb1d0454914031103d20c40ce1212a5 b2
  ·have e1:=absI_cast (there.1-here.1)
   have e2:=absI_cast (there.2-here.2)
   refine Int.le_trans (le_cast (b:=dotI (there.1-here.1,there.2-here.2) (there.1-here.1,there.2-here.2)+144000000) ?_) (by exact lI 0x13f7ba01c1437ba01cea6099d0423b7ba00503c297bc010840a12a3 e1 e2)
   unfold dotI;push_cast;exact li 0x9014e2a5d1928a97460d38a97464a2a5d1831118a9746422a5d183462a5d1908a97460c40843e2a5d1928a97460cf8a97464a2a5d18310e8a9746422a5d1833a2a5d1908a97460c40a406606299d1849818a67461028b27479014d20d34831114034500c40843d20cf48310e4033900c40a98267410a12a6 b3
 refine⟨⟨?_,?_,?_,?_,?_⟩,fin hg ha hb hd P.f_a (by have i3:=P.f_ha;exact li 0x24051110404121f818e41913c28813840c484790144441010487e06390644f0a204e1031212a4 i3) h0 h1 h3,?_⟩
 ·exact K 64 0 0 0 160000 (1/1000) (4096*a) (by decide) (by decide) (by decide) (by decide) (by decide) (by decide) (li 0x22ee4052136e414511044840a39014040a2c414511044040a187804f10286fa0144e1040af98145110f1040e482004394193c9c7941162ee4052136e414511044840a39014040a2c414511044040a187804f10286fa0144e1040af98145110f1040e482004393c9c7841fe81a5069e302a5 r1.1 r1.2) (by grind) ⟨li 0x84187299d1854a1043a20a5d1e2ee4052136e414511044840a39014040a2c414511044040a187804f10286fa0144e1040af98145110f1040e48200439418b1d47941162ee4052136e414511044840a39014040a2c414511044040a187804f10286fa0144e1040af98145110f1040e48200438b1d47841fe81859208014849208010fde75cb02a5 r1.1 r1.2 aa1,li 0x3a104384187299d1a48201e482004e124820043841fe81a12a1 aa2⟩ (by push_cast;exact li 0x248200545044d31024898a00541015114044c40c40813d14043840840813c40a280150405445011310310204f45010e10210204f1021228014c405345011410210204e45010f10310204e1028a00531014d14045040840813914043c40c40813840840a4820052121327 ha)
 ·refine K 27 27 9 1 500 5 _ (by decide) (by decide) (by decide) (by decide) (by decide) (by decide) (li 0x94194184a) (by grind) r1 ?_
  push_cast
  rw[←hyy,←hyx,←ha,←hb,←hd]
  generalize h*g=y
  exact li 0xec1484ec14914040c40a904f44e1021028413c40bb05213b052450103102a413d13840840a104f10213b05013b050452102102a413913c40c40a104e102ec1404ec14114840840a904e44f1031028413840840a2ee4052484410102136e414511044921104040840a39013cf10e3840840a2c414511043cf10e3840840a18780523c440e10210286fa0145238440f1031040af9814511123c440e1021040e1325
 ·refine K 8 24 24 8 500 (1/10) _ (by decide) (by decide) (by decide) (by decide) (by decide) (by decide) (li 0x22ee4052136e414511044840a39014040a2c414511044040a187804f10286fa0144e1040af98145110f1040e48200439418711e50458bb901484db90514441121028e40501028b1051444110102861e013c40a1be8051384102be60514443c41039208010e1c47841a869418e42a5 r1.1 r1.2) (by grind) r2 ?_
  push_cast
  rw[←hyy,←hyx,←ha,←hb,←hd]
  generalize h*g=y
  exact li 0xa01484e014914040c40b804f44e102102a013c40a8052138052450103102e013d13840840a804f102128050138050452102102e013913c40c40a804e102a01404e014114840840b804e44f103102a013840840a182005248441010212182004f3c438e102102ca00514441124844101023cf10e3840821028a080148f1103840840a382005148e1103c40c41028648014511123c440e1021040e1325
 ·refine K 1 9 27 27 500 5 _ (by decide) (by decide) (by decide) (by decide) (by decide) (by decide) (li 0x94194184a) (by grind) r3 ?_
  push_cast
  rw[←hyy,←hyx,←ha,←hb,←hd]
  generalize h*g=y
  exact li 0x841484a414914040c40bb04f44e102102ec13c40a1052129052450103102ec13d13840840bb04f102121050129050452102102ec13913c40c40bb04e102841404a414114840840bb04e44f103102ec13840840a2ee404f3c438e102136e414511043cf10e3840840a39014921104040840a2c414511044921104040840a18780523c440e10210286fa0145238440f1031040af9814511123c440e1021040e1325
 ·exact K 0 0 0 64 160000 (1/1000) (4096*b) (by decide) (by decide) (by decide) (by decide) (by decide) (by decide) (li 0x22ee4052136e414511044840a39014040a2c414511044040a187804f10286fa0144e1040af98145110f1040e482004394193c9c7941162ee4052136e414511044840a39014040a2c414511044040a187804f10286fa0144e1040af98145110f1040e482004393c9c7841fe81a5069e302a5 r1.1 r1.2) (by grind) ⟨li 0x84187299d185421043a20a5d1e2ee4052136e414511044840a39014040a2c414511044040a187804f10286fa0144e1040af98145110f1040e48200439418b1d47941162ee4052136e414511044840a39014040a2c414511044040a187804f10286fa0144e1040af98145110f1040e48200438b1d47841fe81859208014049208010fde75cb02a5 r1.1 r1.2 bb1,li 0x3a104384187299d1a48201e482004e124820043841fe81a12a1 bb2⟩ (by push_cast;exact li 0x248200545044d31024890511014503c43840c40815103c44c40840a280150408144405140f10e10310205440f1131021028a005410210138404e40f11110210205340f1141031028a005310204e1013903c44440840814d03c45040c40a28014c40840a4820052121327 hb)
 ·refine fin (g:=0-g) (by exact lI 0x84138e12104904e0c1383121061321 hg) hb ha (show w1*u1+w2*u2=d from li 0x8414911103c408e2514843d01023a1325 hd) P.f_b (by have i4:=P.f_hb;exact li 0x24051110404121f818e418f4428813840c484790144441010487e06390644f0a204e1031212a4 i4) h3 ?_ h0
  have e:((0-g:Int):Rat)= -(g:Rat):=by push_cast;exact li 0x4e0ce161321
  rw[e]
  obtain⟨x,y⟩:=h2
  constructor
  ·have i5:w1-h* -(g:Rat)*w2=w1+h*g*w2:=li 0x4503c510e1034503c43840a1324
   have i6:w2+h* -(g:Rat)*w1=w2-h*g*w1:=li 0x4503c510e1024503c43840e1324
   exact⟨li 0x2106499d185522a5d1934914043c408438f4501121031030e11e106499d185522a5d19349140510f10310e3d14051121021030e12a7 x.1,li 0x148a97464d245010f10210e3d14044840c40c3841926746847522a5d19349140510f10310e3d14051121021030e106499d1a12a7 x.2⟩
  ·have i7:w1-h* -(g:Rat)*w2=w1+h*g*w2:=li 0x4503c510e1034503c43840a1324
   have i8:w2+h* -(g:Rat)*w1=w2-h*g*w1:=li 0x4503c510e1024503c43840e1324
   exact⟨li 0x2106499d185522a5d1934914043c408438f4501121031020e11e106499d185522a5d19349140510f10310e3d14051121021020e12a7 y.1,li 0x148a97464d245010f10210e3d14044840c4083841926746847522a5d19349140510f10310e3d14051121021020e106499d1a12a7 y.2⟩
theorem cast_nn{a:Int}(h:0≤a):(0:Rat)≤a:=by simpa using Rat.intCast_le_intCast.mpr h
theorem cast_le{a b:Int}(h:a≤b):(a:Rat)≤b:=Rat.intCast_le_intCast.mpr h
theorem pc_of{a0 a1 b0 b1 g:Int}(hg:g*g=1)(hd:0<dotI (a0,a1) (a0,a1))
  (ha:Bd ((a0:Rat)/1152921504606846976*(a0/1152921504606846976)+(a1:Rat)/1152921504606846976*(a1/1152921504606846976)-1) (1/25000000))
  (hb:Bd ((b0:Rat)/1152921504606846976*(b0/1152921504606846976)+(b1:Rat)/1152921504606846976*(b1/1152921504606846976)-1) (1/25000000))
  (d0:0≤dotI (a0,a1) (b0,b1))(x0:0≤g*crossI (a0,a1) (b0,b1)):
  Pc ((a0:Rat)/1152921504606846976*(a0/1152921504606846976)+(a1:Rat)/1152921504606846976*(a1/1152921504606846976))
   ((b0:Rat)/1152921504606846976*(b0/1152921504606846976)+(b1:Rat)/1152921504606846976*(b1/1152921504606846976))
   ((a0:Rat)/1152921504606846976*(b0/1152921504606846976)+(a1:Rat)/1152921504606846976*(b1/1152921504606846976))
   (g*((a0:Rat)/1152921504606846976*(b1/1152921504606846976)-(a1:Rat)/1152921504606846976*(b0/1152921504606846976)))
   ((halfSine (a0,a1) (b0,b1):Int)/1152921504606846976) ((halfCosine (a0,a1) (b0,b1):Int)/1152921504606846976) ((handleF (a0,a1) (b0,b1):Int)/1152921504606846976):=by
 have hg':(g:Rat)*g=1:=by have i1:=congrArg (fun z:Int=>(z:Rat)) hg;push_cast at i1;exact i1
 have d0':=cast_nn d0
 have x0':=cast_nn x0
 unfold dotI at d0'
 unfold crossI at x0'
 push_cast at d0' x0'
 have sqn:∀x:Int,0≤x*x:=fun x=>by
  rcases Int.le_total 0 x with h |h
  ·exact Int.mul_nonneg h h
  ·exact Int.mul_nonneg_of_nonpos_of_nonpos h h
 have hway:0≤dotI (b0-a0,b1-a1) (b0-a0,b1-a1):=Int.add_nonneg (sqn _) (sqn _)
 have hN:0≤(dotI (b0-a0,b1-a1) (b0-a0,b1-a1)*PARTS*PARTS).fdiv (4*dotI (a0,a1) (a0,a1)):=
  Int.fdiv_nonneg (Int.mul_nonneg (Int.mul_nonneg hway (by decide)) (by decide)) (by exact lI 0x4e90806404e1212a1 hd)
 obtain⟨θ,t0,t1,eN⟩:=fd_ex (dotI (b0-a0,b1-a1) (b0-a0,b1-a1)*PARTS*PARTS) (show 0<4*dotI (a0,a1) (a0,a1) from lI 0x4e90806404e1212e1 hd)
 have es:halfSine (a0,a1) (b0,b1)=rootI ((dotI (b0-a0,b1-a1) (b0-a0,b1-a1)*PARTS*PARTS).fdiv (4*dotI (a0,a1) (a0,a1))):=rfl
 obtain⟨s0,s1,s2⟩:=rootI_spec hN
 rw[←es] at s0 s1 s2
 have ec:halfCosine (a0,a1) (b0,b1)=rootI (if PARTS*PARTS-halfSine (a0,a1) (b0,b1)*halfSine (a0,a1) (b0,b1)>0 then PARTS*PARTS-halfSine (a0,a1) (b0,b1)*halfSine (a0,a1) (b0,b1) else 0):=rfl
 have eh:handleF (a0,a1) (b0,b1)=(4*halfSine (a0,a1) (b0,b1)*PARTS).fdiv (3*(PARTS+halfCosine (a0,a1) (b0,b1))):=rfl
 generalize halfSine (a0,a1) (b0,b1)=hs at *
 have s0':=cast_nn s0
 have s1':=cast_le s1
 have s2':=cast_le (Int.add_one_le_of_lt s2)
 generalize (dotI (b0-a0,b1-a1) (b0-a0,b1-a1)*PARTS*PARTS).fdiv (4*dotI (a0,a1) (a0,a1))=N at *
 have eP:((PARTS:Int):Rat)=1152921504606846976:=by rfl
 have hd':=icast_pos hd
 unfold dotI at eN hd'
 push_cast at eN s1' s2' hd'
 rw[eP] at eN
 have k1:4*((a0:Rat)*a0+a1*a1)*(N+θ)=((b0-a0)*(b0-a0)+(b1-a1)*(b1-a1))*1152921504606846976*1152921504606846976:=by
  rw[eN];exact li 0x8414e40524844511021044120d048310f4433d10c40a3f1c0448fc7011099014921114440844ce0ce0844120d048310f4433d10c40a3f1c0448fc701121326 (Rat.div_mul_cancel (Rat.ne_of_gt (li 0x4f3c438e10290806404f3c438e1021212e2 hd')))
 have p1:4*((a0:Rat)*a0+a1*a1)*(hs*hs)≤((b0-a0)*(b0-a0)+(b1-a1)*(b1-a1))*1152921504606846976*1152921504606846976:=by
  have i2:=Rat.mul_nonneg (Rat.le_of_lt hd') (show 0≤(N:Rat)+θ-hs*hs from li 0xf3c43a11c14211c139008f3c40e12a3 t0 s1')
  exact li 0x545044d310249108e3840c49078419015141134c40844910844140d050310f4c33d30c40a3f1c0448fc7011099015141134c408438e1044140d050310f4c33d30c40a3f1c0448fc7011212a7 k1 i2
 have p2:((b0-a0)*(b0-a0)+(b1-a1)*(b1-a1))*1152921504606846976*1152921504606846976≤4*((a0:Rat)*a0+a1*a1)*((hs+1)*(hs+1)):=by
  have i3:=Rat.mul_nonneg (Rat.le_of_lt hd') (show 0≤((hs:Rat)+1)*(hs+1)-(N+θ) from li 0xf84108e84108e8410848474210612013a10423a104210f4020e12a3 t1 s2')
  exact li 0x15141134c408e84108e8410844910831241e10459015141134c40844910844140d050310f4c33d30c40a3f1c0448fc7011094140d050310f4c33d30c40a3f1c0448fc7011240545044d310210e84108e8410841212a7 k1 i3
 have q1:4*((a0:Rat)/1152921504606846976*(a0/1152921504606846976)+(a1:Rat)/1152921504606846976*(a1/1152921504606846976))*((hs:Rat)/1152921504606846976*(hs/1152921504606846976))≤
   (b0/1152921504606846976-a0/1152921504606846976)*(b0/1152921504606846976-a0/1152921504606846976)+(b1/1152921504606846976-a1/1152921504606846976)*(b1/1152921504606846976-a1/1152921504606846976):=li 0x9014921114440844101043d20cf48310e4433910c40a3f1c0448fc7011211e40528fc7064a3f1c184463f1c1918fc7061021108fc706423f1c18410f8fc7064a3f1c1833e3f1c1928fc7060c43a3f1c1918fc7060ce8fc706463f1c183102a20820820820820820820820820820820820820820820820820821fdc2a5 p1
 have q2:(b0/1152921504606846976-a0/1152921504606846976)*(b0/1152921504606846976-a0/1152921504606846976)+(b1/1152921504606846976-a1/1152921504606846976)*(b1/1152921504606846976-a1/1152921504606846976)≤
   4*((a0:Rat)/1152921504606846976*(a0/1152921504606846976)+(a1:Rat)/1152921504606846976*(a1/1152921504606846976))*(((hs:Rat)/1152921504606846976+1/1152921504606846976)*(hs/1152921504606846976+1/1152921504606846976)):=li 0x4910d24431103c340f0c40a3f1c0448fc7011240514443cf10210e84108e8410841211d28fc706463f1c1834a3f1c1918fc7060c4423f1c18f8fc7060d08fc7063e3f1c183102901463f1c1918fc70610f8fc7063e3f1c1840843a3f1c1a1063f1c1823a3f1c1a1063f1c182104a20820820820820820820820820820820820820820820820820821fdc2a5 p2
 have d1:0≤(a0:Rat)/1152921504606846976*(b0/1152921504606846976)+(a1:Rat)/1152921504606846976*(b1/1152921504606846976):=li 0x514043ce1028470518fc706423f1c1843e3f1c18e8fc706102a20820820820820821fdc2a4 d0'
 have x1:0≤(g:Rat)*((a0:Rat)/1152921504606846976*(b1/1152921504606846976)-(a1:Rat)/1152921504606846976*(b0/1152921504606846976)):=li 0x5245010f3840c4847052463f1c1908fc70610f8fc7063a3f1c1840c4a20820820820820821fdc2a5 x0'
 have hs1:0≤(hs:Rat)/1152921504606846976:=li 0x3a10423e10423e10421211cf3c43a11c13e3f1c1a3f5c2a2 s1' s2'
 have hlt:hs*hs<PARTS*PARTS:=by
  rcases Int.lt_or_le (hs*hs) (PARTS*PARTS) with h |h
  ·exact h
  ·exfalso
   have h':=cast_le h
   push_cast at h'
   rw[eP] at h'
   obtain⟨ha1,ha2⟩:=ha
   obtain⟨hb1,hb2⟩:=hb
   have m:1≤(hs:Rat)/1152921504606846976*(hs/1152921504606846976):=li 0x23f1c063f1c04438e1211e104e8fc7063a3f1c184a20820820820820821fdc2a1 h'
   generalize (hs:Rat)/1152921504606846976=σ at *
   generalize (a0:Rat)/1152921504606846976=u1 at *
   generalize (a1:Rat)/1152921504606846976=u2 at *
   generalize (b0:Rat)/1152921504606846976=v1 at *
   generalize (b1:Rat)/1152921504606846976=v2 at *
   have i4:=Rat.mul_nonneg (show 0≤u1*u1+u2*u2 from li 0x21061ca674614f3c438e1028410e11c13cf10e3840a12a2 ha1) (show 0≤σ*σ-1 from li 0x2104e38484704e3848410e12a1 m)
   exact li 0x5248445110238e1210431241e405248445110210e3841104834120c43d10cf44310284705240444f10288741010f3c40a104384187299d1a11e1061ca67461524844511028410e31e5 ha1 hb2 d1 q1 i4
 rw[if_pos (by exact lI 0xf3c438e12120138e10f3c40e12e2 hlt)] at ec
 obtain⟨c0,c1,c2⟩:=rootI_spec (show 0≤PARTS*PARTS-hs*hs from lI 0xf3c438e12120138e10f3c40e12a2 hlt)
 rw[←ec] at c0 c1 c2
 generalize halfCosine (a0,a1) (b0,b1)=hc at *
 have hp3:0<3*(PARTS+hc):=by
  have i5:(0:Int)<PARTS:=by decide
  exact lI 0x4f9883cf10e3840d08410908410848c841010f3c438e1038c706304f4021222e3 c1 c2 i5
 obtain⟨φ,f0,f1,eH⟩:=fd_ex (4*hs*PARTS) hp3
 have hH:0≤(4*hs*PARTS).fdiv (3*(PARTS+hc)):=Int.fdiv_nonneg (Int.mul_nonneg (by exact lI 0x38f84108f8410848883cf10e88706404f1212a2 s1 s2) (by decide)) (Int.le_of_lt hp3)
 rw[←eh] at eH hH
 generalize handleF (a0,a1) (b0,b1)=H at *
 have c0':=cast_nn c0
 have c1':=cast_le c1
 have c2':=cast_le (Int.add_one_le_of_lt c2)
 have hH':=cast_nn hH
 push_cast at c1' c2' eH
 rw[eP] at c1' c2' eH
 have eH2:(H:Rat)*(3*(1152921504606846976+hc))=4*hs*1152921504606846976-φ*(3*(1152921504606846976+hc)):=by
  rw[eH]
  have i6:(3*(1152921504606846976+(hc:Rat)))≠0:=fun o_=>li 0x22063063f1c04f0840498fc7018fc70110e3840e10423e10423e10421231cf3c48fc7018fc70110e3840e31e2 c1' c2' o_
  exact li 0x841463063f1c05008412404f123f1c0442513838c18fc7014021049013c48fc70110e8c18fc7014021040e1324 (Rat.div_mul_cancel (Rat.ne_of_gt (li 0x8fc7018fc70110e3840e10423e10423e10421231cf3c48fc7018fc70110e3840e31c18c18fc7013c21222e2 c1' c2')))
 have w1:0≤(hc:Rat)/1152921504606846976:=li 0x8fc7018fc70110e3840e10423e10423e10421211cf3c48fc7018fc70110e3840e11c13e3f1c1a3f5c2a2 c1' c2'
 have w2:0≤(H:Rat)/1152921504606846976:=li 0x13a11c13a3f1c1a3f1c2a1 hH'
 have w3:(hc:Rat)/1152921504606846976*(hc/1152921504606846976)≤1-(hs:Rat)/1152921504606846976*(hs/1152921504606846976):=li 0xf3c48fc7018fc70110e3840e11cf8fc7063e3f1c1848413a3f1c18e8fc706103a20820820820820821fdc2a2 c1'
 have w4:1-(hs:Rat)/1152921504606846976*(hs/1152921504606846976)≤((hc:Rat)/1152921504606846976+1/1152921504606846976)*(hc/1152921504606846976+1/1152921504606846976):=li 0x8fc7018fc70110f3c40e10423a10423a10421211e104f8fc7063e3f1c1840ce8fc7068418fc70608e8fc7068418fc706084a20820820820820821fdc2a2 c2'
 have fp:=Rat.mul_nonneg f0 (show 0≤(1152921504606846976:Rat)+hc from li 0x23f1c063f1c04438e10384108f84108f8410848473cf123f1c063f1c04438e103847063f1c04f0a22a2 c1' c2')
 have fq:=Rat.mul_nonneg (show 0≤1-φ from li 0xe84184806104e0e12a1 f1) (show 0≤(1152921504606846976:Rat)+hc from li 0x23f1c063f1c04438e10384108f84108f8410848473cf123f1c063f1c04438e103847063f1c04f0a22a2 c1' c2')
 have w5:3*((H:Rat)/1152921504606846976)*(1+(hc:Rat)/1152921504606846976)≤4*((hs:Rat)/1152921504606846976):=li 0x13a3f1c0500848c7841463063f1c05008412404f123f1c0443a3063f1c0500841032630518fc7061210508fc7060849013e3f1c184a20820820820820821fdc2a4 eH2 fp
 have w6:4*((hs:Rat)/1152921504606846976)≤3*((H:Rat)/1152921504606846976+1/1152921504606846976)*(1+(hc:Rat)/1152921504606846976):=li 0x6104e0e3f1c0500848c78411518c18fc7014021049013c48fc70110e8c18fc7014021040c99013e3f1c1848c1463f1c1a1063f1c1821210508fc706084a20820820820820821fdc2a4 eH2 fq
 clear eH2 eH eN k1 p1 p2 s1' s2' c1' c2' fp fq d0' x0' hd'
 generalize (hs:Rat)/1152921504606846976=σ at *
 generalize (hc:Rat)/1152921504606846976=c at *
 generalize (H:Rat)/1152921504606846976=h at *
 generalize (a0:Rat)/1152921504606846976=u1 at *
 generalize (a1:Rat)/1152921504606846976=u2 at *
 generalize (b0:Rat)/1152921504606846976=v1 at *
 generalize (b1:Rat)/1152921504606846976=v2 at *
 have a0':0≤u1*u1+u2*u2:=by have i7:=ha.lo;exact li 0x21061ca674614f3c438e1028410e11c13cf10e3840a12a2 ha.1
 refine⟨ha,hb,d1,x1,li 0x49211111112204549010f1111040904043c43c408e3848412524043d110249010f4440843924443d010310e49110f4040c410249210f3c4090404451102121325 hg',hs1,w1,w2,li 0x9014921114440844101043d20cf48310e4433910c40a11e40524844511021104041124844511023cf10e38408288148f1113840840e12a5 q1,?_,w3,?_,w5,?_⟩
 ·have i8:=Rat.mul_nonneg a0' (show 0≤(σ+1/500000000000000000)*(σ+1/500000000000000000)+1/500000000000000000-(σ+1/1152921504606846976)*(σ+1/1152921504606846976) from li 0x4e930fe99669719c704e841ab174608e841ab1746084841ab174608e8418fc70608e8418fc7060840e4820820820820c9d2a1 hs1)
  exact li 0x3d20cf48310e4433910c40a40524844511021108418fc7060908418fc706084126fa1b75cf4f7282082082082082087f7079014921114440844101043d20cf48310e4433910c40a3f77fa1ff992df2ed33974b23e2087f70784187299d1854921114440a10438ef836eb9eaee60820930fe99669719c749211144408f3c438e1020a20523c444e10210390149211144408442106ac5d18242106ac5d18212106ac5d18212182082082082191d2a5 ha.1 q1 q2
 ·exact li 0x2104e3840cf8418fc70608f8418fc70608492082082082083274704f930fe99669719c784138e1033e106ac5d1823e106ac5d182124820820820820c9d2a2 w1 w4
 ·have i9:=Rat.mul_nonneg (show 0≤3*(1+c) from li 0x13a31c18c18413821212a1 w1) (show(0:Rat)≤1/500000000000000000-1/1152921504606846976 from li 0x6106ac5d1a1063f1c18384a)
  exact li 0x2404f12304e8418fc706084841402128820820820820c9d1c142dcbdeefcb0cf51e404f12304e841ab1746084841402128820820820820c9d2a3 w1 w6
structure PnB(c s:Rat)(p:Pr)(m1 m2:Rat):Prop where
 x:Bd ((p.1:Rat)/1000000000-(c*m1-s*m2)) (495/1000000000)
 y:Bd ((p.2:Rat)/1000000000-(s*m1+c*m2)) (495/1000000000)
theorem PnB.pl{c s:Rat}{p:Pr}{m1 m2 k1 k2 e1 e2:Rat}(h:PnB c s p k1 k2)(hc:Bd c (101/100))(hs:Bd s (101/100))(x:m1=k1+e1)(y:m2=k2+e2)(he1:Bd e1 (1/1000000000))(he2:Bd e2 (1/1000000000)):Pl c s p m1 m2:=by
 obtain⟨⟨x1,x2⟩,⟨y1,y2⟩⟩:=h
 obtain⟨a1,a2⟩:=hc.mul he1
 obtain⟨a3,a4⟩:=hs.mul he2
 obtain⟨a5,a6⟩:=hs.mul he1
 obtain⟨a7,a8⟩:=hc.mul he2
 subst x;subst y
 constructor <;> constructor;exact li 0x8e50639068418a974610544e126aa974750f1239418e41a1062a5d1849aaa5d1efbc18a97461538a97465121114040c39aaa5d1d48e50639069351e39418e4185524d478419267461538a97465123c211140e0840c39aaa5d2a7 hc.1 hc.2 x1 a2 a3;exact li 0x44e1239418e41a1062a5d1849aaa5d1e39418e41a1062a5d1841543c49aaa5d1d38a97465121114040c3bef062a5d1a6aa97475239418e41a4d478e50639061549351d38a97465123c211140e0840c38419267469aaa5d2a7 hc.1 hc.2 x2 a1 a4;exact li 0x143848e50639068418a9746126aa974748f1239418e41a1062a5d1849aaa5d1efbc18a97461538a97464911144040839aaa5d1d48e50639069351e39418e4185524d478419267461538a97464913c211440e0840839aaa5d2a7 hc.1 hc.2 y1 a6 a8;exact li 0x239418e41a1062a5d1841543849aaa5d1e39418e41a1062a5d1841523c49aaa5d1d38a9746491114404083bef062a5d1a6aa97475239418e41a4d478e50639061549351d38a97464913c211440e0840838419267469aaa5d2a7 hc.1 hc.2 y2 a5 a7
structure Set'(C S A B T K0 K1:Int)(rx ry:Pr)(centre p:Pt)(o1 o2:Rat):Prop where
 geo:Geo C S A B T rx ry
 p1:0<p.1.2
 p2:0<p.2.2
 c1:0<centre.1.2
 c2:0<centre.2.2
 e1:val p.1=val centre.1+o1*val rx
 e2:val p.2=val centre.2+o2*val ry
 kx:Bd (o1+(C:Rat)/1152921504606846976*(K0/1152921504606846976)-(S:Rat)/1152921504606846976*(K1/1152921504606846976)) (12/1000000000)
 ky:Bd (o2+(S:Rat)/1152921504606846976*(K0/1152921504606846976)+(C:Rat)/1152921504606846976*(K1/1152921504606846976)) (12/1000000000)
 k0:Bd ((K0:Rat)/1152921504606846976) (11/10)
 k1:Bd ((K1:Rat)/1152921504606846976) (11/10)
 nn:Bd ((C:Rat)/1152921504606846976*(C/1152921504606846976)+(S:Rat)/1152921504606846976*(S/1152921504606846976)-1) (1/100000000)
section
variable {C S A B T K0 K1:Int} {rx ry:Pr} {centre p:Pt} {o1 o2:Rat}
theorem Set'.told(h:Set' C S A B T K0 K1 rx ry centre p o1 o2){v0 v1:Int}(b0:Bd ((v0:Rat)/1152921504606846976) 2)(b1:Bd ((v1:Rat)/1152921504606846976) 2):
  PnB ((C:Rat)/1152921504606846976) ((S:Rat)/1152921504606846976) (backL (pointF ⟨A,B,C,S⟩ (K0,K1) (v0,v1) p T) (rx,ry) centre) (v0/1152921504606846976) (v1/1152921504606846976):=by
 obtain⟨k1a,k1b⟩:=h.k0
 obtain⟨k2a,k2b⟩:=h.k1
 obtain⟨b0a,b0b⟩:=b0
 obtain⟨b1a,b1b⟩:=b1
 obtain⟨⟨x1,x2⟩,⟨y1,y2⟩⟩:=point_place (K0:=K0) (K1:=K1) (v0:=v0) (v1:=v1) h.geo h.p1 h.p2 h.c1 h.c2 h.e1 h.e2 ⟨by push_cast;exact li 0xe8fc706881a4788114e8fc7068711eb06a1853e3f1c1a1a0790114f3828fc7068682a2 k1a b0a b0b,by push_cast;exact li 0x3a3f1c1a20611cf8fc706ac1a868473ce0a3f1c1a40612a2 k1b b0b⟩ ⟨by push_cast;exact li 0x220453a3f1c1a11eb06a1853e3f1c1a11e40453ce0a3f1c1a12a2 k2a b1a,by push_cast;exact li 0x3a3f1c1a2061a073e3f1c1a20691e20453e3f1c1a91d08fc706ac1a868681d03828fc7069018682a3 k2b b0a b0b b1b⟩
 obtain⟨kx1,kx2⟩:=h.kx
 obtain⟨ky1,ky2⟩:=h.ky
 push_cast at x1 x2 y1 y2
 constructor <;> constructor;exact li 0x870062a1d1853e2a5d1944e3f1c1925428fc706102463f1c1903828fc7061030e8a5d1ec062a5d1855138fc7064a3f1c1840918fc706423f1c1840e8a5d1d58fc7068818c78811558fc7068c7bef062a5d1853e2a5d1938fc706563f1c184463f1c18e8fc7061030e8a5d2a8 b0a b0b kx1 x1;exact li 0xf8a97465138fc7064950a3f1c1840918fc70640e0a3f1c1840c3870062a1d1a8a5d1d44e3f1c1928fc706102463f1c1908fc706103b018a9746a29747563f1c1a20631e2045563f1c1a31cf8a97464e3f1c1958fc7061118fc7063a3f1c1840c3bef062a5d1a8a5d2a8 b0a b0b kx2 x2;exact li 0x870062a1d1853e2a5d1944e3f1c1925428fc706102463f1c1903828fc7061020e8a5d1ec062a5d1855138fc7064a3f1c1840918fc706423f1c1840a8a5d1d58fc7068818c78811558fc7068c7bef062a5d1853e2a5d1938fc706563f1c184463f1c18e8fc7061020e8a5d2a8 b0a b0b ky1 y1;exact li 0xf8a97465138fc7064950a3f1c1840918fc70640e0a3f1c184083870062a1d1a8a5d1d44e3f1c1928fc706102463f1c1908fc706102b018a9746a29747563f1c1a20631e2045563f1c1a31cf8a97464e3f1c1958fc7061118fc7063a3f1c184083bef062a5d1a8a5d2a8 b0a b0b ky2 y2
theorem sq_small{x y r:Rat}(h:x*x+y*y≤r*r)(hr:0≤r):Bd x r∧Bd y r:=by
 have h1:=mul_self_nonneg' x
 have h2:=mul_self_nonneg' y
 exact⟨sq_bd hr (li 0x13cf1211d04043cf10238e1211d040438e1212a3 h h2),sq_bd hr (li 0x14101211d04043cf10238e1211cf3c438e1212a3 h h1)⟩
theorem curve_ok(h:Set' C S A B T K0 K1 rx ry centre p o1 o2){a0 a1 b0 b1:Int}{sw:Bool}{P0 P3:Pt}(hd:0<dotI (a0,a1) (a0,a1))
  (ha:Bd ((a0:Rat)/1152921504606846976*(a0/1152921504606846976)+(a1:Rat)/1152921504606846976*(a1/1152921504606846976)-1) (1/25000000))
  (hb:Bd ((b0:Rat)/1152921504606846976*(b0/1152921504606846976)+(b1:Rat)/1152921504606846976*(b1/1152921504606846976)-1) (1/25000000))
  (hw:withinF (a0,a1) (b0,b1) sw=true)
  (h0:PnB ((C:Rat)/1152921504606846976) ((S:Rat)/1152921504606846976) (backL P0 (rx,ry) centre) (a0/1152921504606846976) (a1/1152921504606846976))
  (h3:PnB ((C:Rat)/1152921504606846976) ((S:Rat)/1152921504606846976) (backL P3 (rx,ry) centre) (b0/1152921504606846976) (b1/1152921504606846976)):
  CvOk (rx,ry) centre (if sw then 1 else -1) (P0,pointF ⟨A,B,C,S⟩ (K0,K1) (pieceF (a0,a1) (b0,b1) sw).1 p T,pointF ⟨A,B,C,S⟩ (K0,K1) (pieceF (a0,a1) (b0,b1) sw).2 p T,P3):=by
 have hg:(if sw then(1:Int) else -1)*(if sw then 1 else -1)=1:=by cases sw <;> rfl
 have hw':0≤dotI (a0,a1) (b0,b1)∧0≤(if sw then(1:Int) else -1)*crossI (a0,a1) (b0,b1):=by
  unfold withinF at hw
  rw[Bool.and_eq_true,decide_eq_true_eq,decide_eq_true_eq] at hw
  refine⟨hw.2,?_⟩
  have h1:=hw.1
  cases sw
  ·simp only[Bool.false_eq_true,if_false] at h1 ⊢
   unfold crossI at h1 ⊢
   simp only at h1 ⊢
   exact lI 0x145010f3840e11c184114e3c44111031212a4 h1
  ·simp only[if_true] at h1 ⊢
   exact lI 0x4e84706104e1212a1 h1
 have qx:∀v:Pr,(quarterOn v sw).1= -((if sw then(1:Int) else -1)*v.2):=by intro v;cases sw <;> simp[quarterOn,turnedV]
 have qy:∀v:Pr,(quarterOn v sw).2=(if sw then(1:Int) else -1)*v.1:=by intro v;cases sw <;> simp[quarterOn,turnedV]
 have P:=pc_of hg hd ha hb hw'.1 hw'.2
 have D:=P.pd
 have hP:(0:Int)<PARTS:=by decide
 have eP:((PARTS:Int):Rat)=1152921504606846976:=by rfl
 have bU:=sq_small (r:=2) (x:=(a0:Rat)/1152921504606846976) (y:=(a1:Rat)/1152921504606846976) (by have i1:=ha.hi;exact li 0x3e3f1c18f8fc70610e8fc7063a3f1c1840a104384187299d1a11cf8fc7063e3f1c1843a3f1c18e8fc7061028818811212a2 ha.2) (li 0x188184a)
 have bW:=sq_small (r:=2) (x:=(b0:Rat)/1152921504606846976) (y:=(b1:Rat)/1152921504606846976) (by have i2:=hb.hi;exact li 0xe8fc7068818a7c3a97f1e20453a3f1c1a29f0ea5fc7423f1c1908fc70610f8fc7063e3f1c1840a104384187299d1a2a1d1d08fc706423f1c1843e3f1c18f8fc706102881881122a1d2a3 hb.2 bU.1.1 bU.1.2) (li 0xe8fc70688184788114e8fc7068470620622a1 bU.1.1 bU.1.2)
 have bU1:=sq_small (r:=11/10) (x:=(a0:Rat)/1152921504606846976) (y:=(a1:Rat)/1152921504606846976) (by have i3:=ha.hi;exact li 0xf8fc7068819609bebc788114f8fc7069609bebc73e3f1c18f8fc70610e8fc7063a3f1c1840a104384187299d1a2a1d1cf8fc7063e3f1c1843a3f1c18e8fc706102ac1a86ac1a86122a1d2a2 ha.2 bU.1.1 bU.1.2) (li 0x3a3f1c1a206b1e20453a3f1c1ab1c1ac1a868682a1 bU.1.1 bU.1.2)
 have bW1:=sq_small (r:=11/10) (x:=(b0:Rat)/1152921504606846976) (y:=(b1:Rat)/1152921504606846976) (by have i4:=hb.hi;exact li 0xe8fc7068819609bebc788114e8fc7069609bebc7423f1c1908fc70610f8fc7063e3f1c1840a104384187299d1a2a1d1d08fc706423f1c1843e3f1c18f8fc706102ac1a86ac1a86122a1d2a3 hb.2 bU.1.1 bU.1.2) (li 0x3a3f1c1a206b1e20453a3f1c1ab1c1ac1a868682a1 bU.1.1 bU.1.2)
 generalize hG:(if sw then(1:Int) else -1)=g at *
 have hg':(g:Rat)*g=1:=by have i5:=congrArg (fun z:Int=>(z:Rat)) hg;push_cast at i5;exact i5
 have bg:=one_bd hg'
 have e1:(pieceF (a0,a1) (b0,b1) sw).1=(a0+(handleF (a0,a1) (b0,b1)*(quarterOn (a0,a1) sw).1).fdiv PARTS,a1+(handleF (a0,a1) (b0,b1)*(quarterOn (a0,a1) sw).2).fdiv PARTS):=rfl
 have e2:(pieceF (a0,a1) (b0,b1) sw).2=(b0-(handleF (a0,a1) (b0,b1)*(quarterOn (b0,b1) sw).1).fdiv PARTS,b1-(handleF (a0,a1) (b0,b1)*(quarterOn (b0,b1) sw).2).fdiv PARTS):=rfl
 rw[e1,e2,qx,qy,qx,qy]
 simp only
 generalize handleF (a0,a1) (b0,b1)=H at *
 obtain⟨t1,t1a,t1b,f1⟩:=fd_ex (H* -(g*a1)) hP
 obtain⟨t2,t2a,t2b,f2⟩:=fd_ex (H*(g*a0)) hP
 obtain⟨t3,t3a,t3b,f3⟩:=fd_ex (H* -(g*b1)) hP
 obtain⟨t4,t4a,t4b,f4⟩:=fd_ex (H*(g*b0)) hP
 generalize (H* -(g*a1)).fdiv PARTS=V1 at *
 generalize (H*(g*a0)).fdiv PARTS=V2 at *
 generalize (H* -(g*b1)).fdiv PARTS=V3 at *
 generalize (H*(g*b0)).fdiv PARTS=V4 at *
 rw[eP] at f1 f2 f3 f4
 push_cast at f1 f2 f3 f4
 have bh:Bd ((H:Rat)/1152921504606846976) (56/100):=⟨by have i6:=D.f_h0;exact li 0x4e8fc706e473e106e2013ee1e1e018e41853a3f1c1b92a2 t1a t1b i6,D.f_h1⟩
 obtain⟨z1,z2⟩:=(bh.mul bg).mul bU1.1
 obtain⟨z3,z4⟩:=(bh.mul bg).mul bU1.2
 obtain⟨z5,z6⟩:=(bh.mul bg).mul bW1.1
 obtain⟨z7,z8⟩:=(bh.mul bg).mul bW1.2
 obtain⟨⟨u1,u2⟩,⟨u3,u4⟩⟩:=bU1
 obtain⟨⟨u5,u6⟩,⟨u7,u8⟩⟩:=bW1
 have T1:=h.told (v0:=a0+V1) (v1:=a1+V2) ⟨by push_cast;exact li 0xac1a861538fc70693a8208208208208209fa1d08fc7063c43a3f1c18487806390684112b06a184ba3f1c1e784115140f3841448fc7064832528419e12220454e3f1c1a29bfffffffffffffff89878811534428fc706ba3f1c2a6 bU.1.1 t1b f1 z4 u1,by push_cast;exact li 0x3a3f1c1ab06a1a7efc70787806390684112b06a1841518fc7064043e3f1c1849fbf1c1e3f4149140f105123f1c1930c94e1064bfb708053863c208208208208208fd1ce4828fc7068819fbf1c2a6 t1a t1b f1 z3 u2⟩ ⟨by push_cast;exact li 0xac1a861538fc70693a8208208208208209fa1e1e018e41a1044ac1a86105423f1c18f10e8fc70612e8fc7079e10454503ce1048fc7064832528419e12220454e3f1c1a29bfffffffffffffff89878811534428fc706ba3f1c2a6 bU.2.1 t2b f2 z1 u3,by push_cast;exact li 0xe8fc706ac1a869fbf1c1d08fc7063c44e3f1c18487806390684112b06a1849fbf1c1e3f414503d31048fc7064832414a3f474e3f1c1a2064bf97078811538fc70692fe5c1ce4428fc7068819fbf1c2a6 bU.1.1 bU.1.2 t2a f2 z2 u4⟩
 have T2:=h.told (v0:=b0-V3) (v1:=b1-V4) ⟨by push_cast;exact li 0x2b06a1853a3f1c1a7efc70787806390684112b06a1841518fc7064043e3f1c1849fbf1c1e3f4149140f105123f1c1930c90538fd1d484192fedc201524bfb70788114e4838fc7069fbf1c2a7 t1a t1b t3a f3 z7 u5,by push_cast;exact li 0x3a3f1c1ab06a1a7efe707463f1c19010f8fc706121e018e41a1044ac1a86127efe707bf404549140f105123f1c1930c94e106fd08523f1c1a20618efffffffffffffffc8c78811548fc706863bfffffffffffffff231ce4838fc7068819fbf9c2a7 bU.1.1 bU.1.2 t3b f3 z8 u6⟩ ⟨by push_cast;exact li 0x2b06a1854e3f1c1a4efd707423f1c18f10e8fc706121e018e41a1044ac1a8612e8fc7079e105140f384123f1c1920c90529e11e20454e3f1c1a4bfc7078811534438fc706ba3f1c2a6 bW.2.1 t4a f4 z6 u7,by push_cast;exact li 0x3a3f1c1ab06a1a7efe70787806390684112b06a1841518fc7064043e3f1c1849fbf9c1efd011524503c4123f1c1930c94e106fd08523f1c1a20618efffffffffffffffc8c78811548fc706863bfffffffffffffff231ce4838fc7068819fbf9c2a7 bU.1.1 bU.1.2 t4b f4 z5 u8⟩
 have hx:(g:Rat)*((a0:Rat)/1152921504606846976*(b1/1152921504606846976)-(a1:Rat)/1152921504606846976*(b0/1152921504606846976))=g*((a0:Rat)/1152921504606846976*(b1/1152921504606846976)-(a1:Rat)/1152921504606846976*(b0/1152921504606846976)):=rfl
 have z0:Bd (0:Rat) (1/1000000000):=⟨li 0x3a3f1c1a20611e20453a3f1c1a11e1062a5d185068a5d2a1 bU.1.1 bU.1.2,li 0xe8fc70688184788114e8fc706847061062a5d1a8a5d2a1 bU.1.1 bU.1.2⟩
 obtain⟨r1,r2,r3⟩:=cv_checks (c:=(C:Rat)/1152921504606846976) (s:=(S:Rat)/1152921504606846976) rfl h.nn hg rfl rfl rfl hx D
  (h0.pl (e1:=0) (e2:=0) h.geo.cc h.geo.ss (li 0xe8fc7063a3f1c1810a1321) (li 0xe8fc7063a3f1c1810a1321) z0 z0)
  (T1.pl (e1:=t1/1152921504606846976) (e2:=t2/1152921504606846976) h.geo.cc h.geo.ss (by push_cast;rw[f1];exact li 0x4a3f1c1918fc7064043e3f1c1840d24503c41448fc7063830a3f1c18e8fc7060a1325) (by push_cast;rw[f2];exact li 0x128fc706463f1c19010f8fc70610249140f1048fc7063830a3f1c18e8fc7060a1325) ⟨li 0x4e87bceb9473e3f1c1a2063c5c1e20453e3f1c1a3c5c1e1062a5d1853a3f1c1a3de6dabf1c2a2 bU.1.1 bU.1.2 t1a,li 0x3a1067badb3420f8fc70688187ffffffffa4b34ec788114f8fc70687ffffffffa4b34ec73a3f1c1a1062a5d1a3de6dabf9c2a2 bU.1.1 bU.1.2 t1b⟩ ⟨li 0x4e87bceb9473e3f1c1a2063c5c1e20453e3f1c1a3c5c1e1062a5d1853a3f1c1a3de6dabf1c2a2 bU.1.1 bU.1.2 t2a,li 0x3a1067badb3420f8fc70688187ffffffffa4b34ec788114f8fc70687ffffffffa4b34ec73a3f1c1a1062a5d1a3de6dabf9c2a2 bU.1.1 bU.1.2 t2b⟩)
  (T2.pl (e1:= -(t3/1152921504606846976)) (e2:= -(t4/1152921504606846976)) h.geo.cc h.geo.ss (by push_cast;rw[f3];exact li 0x128fc706463f1c19010f8fc70610249140f105123f1c18e0c38fc7063a3f1c1850a1325) (by push_cast;rw[f4];exact li 0x4a3f1c1918fc7064043e3f1c1840d24503c4123f1c18e0c38fc7063a3f1c1850a1325) ⟨li 0x3a1067badb3420f8fc70688187ffffffffa4b34ec788114f8fc70687ffffffffa4b34ec78418a974614e8fc706163de6dabf9c2a2 bU.1.1 bU.1.2 t3b,li 0x4e87bceb9473e3f1c1a2063c5c1e20453e3f1c1a3c5c1ce8fc706161062a5d1a3de6dabf1c2a2 bU.1.1 bU.1.2 t3a⟩ ⟨li 0x3a1067badb3420f8fc70688187ffffffffa4b34ec788114f8fc70687ffffffffa4b34ec78418a974614e8fc706163de6dabf9c2a2 bU.1.1 bU.1.2 t4b,li 0x4e87bceb9473e3f1c1a2063c5c1e20453e3f1c1a3c5c1ce8fc706161062a5d1a3de6dabf1c2a2 bU.1.1 bU.1.2 t4a⟩)
  (h3.pl (e1:=0) (e2:=0) h.geo.cc h.geo.ss (li 0xe8fc7063a3f1c1810a1321) (li 0xe8fc7063a3f1c1810a1321) z0 z0)
 exact⟨r1,r2,r3⟩
end
theorem quarter_dot(v:Pr)(sw:Bool):dotI v (quarterOn v sw)=0:=by cases sw <;> simp[quarterOn,turnedV,dotI];exact lI 0x3ce10e3c5102061322;exact lI 0x3ce14438f102061322
theorem quarter_self(v:Pr)(sw:Bool):dotI (quarterOn v sw) (quarterOn v sw)=dotI v v:=by cases sw <;> simp[quarterOn,turnedV,dotI];exact lI 0xf3c438538510238e10f3c40a1322;exact lI 0xf14f14438e10238e10f3c40a1322
noncomputable def crs(v w:Pr)(sw:Bool):Int:=if sw then crossI v w else crossI w v
theorem within_iff(v w:Pr)(sw:Bool):withinF v w sw=true↔0≤crs v w sw∧0≤dotI v w:=by
 unfold withinF crs
 rw[Bool.and_eq_true,decide_eq_true_eq,decide_eq_true_eq]
theorem crs_quarter(v w:Pr)(sw:Bool):crs (quarterOn v sw) w sw= -dotI v w:=by cases sw <;> simp[quarterOn,turnedV,dotI,crs,crossI];exact lI 0x1140510f3840d044438f102161324;exact lI 0x1115010f3840cf384450102161324
theorem dot_quarter'(v w:Pr)(sw:Bool):dotI (quarterOn v sw) w=crs v w sw:=by cases sw <;> simp[quarterOn,turnedV,dotI,crs,crossI];exact lI 0x45010f14e10241110e3c40e1324;exact lI 0x4454043ce1023ce1114040e1324
theorem within_quarter(v:Pr)(sw:Bool):withinF v (quarterOn v sw) sw=true:=by
 rw[within_iff]
 refine⟨?_,by rw[quarter_dot];decide⟩
 have h:crs v (quarterOn v sw) sw=dotI v v:=by cases sw <;> simp[quarterOn,turnedV,dotI,crs,crossI];exact lI 0x3cf10e14e10338e10f3c40a1322;exact lI 0x3cf10e3851033cf10e3840a1322
 rw[h]
 exact Int.add_nonneg (by
  rcases Int.le_total 0 v.1 with h |h
  ·exact Int.mul_nonneg h h
  ·exact Int.mul_nonneg_of_nonpos_of_nonpos h h) (by
  rcases Int.le_total 0 v.2 with h |h
  ·exact Int.mul_nonneg h h
  ·exact Int.mul_nonneg_of_nonpos_of_nonpos h h)
noncomputable def Ends:Nat→Pr→Pr→Bool→Prop
 | 0,v,w,sw=>withinF v w sw=true
 |k+1,v,w,sw=>withinF v w sw=false→Ends k (quarterOn v sw) w sw
theorem ends3(v w:Pr)(sw:Bool):Ends 3 v w sw:=by
 intro h0 h1 h2
 have f:∀{u:Pr},withinF u w sw=false→¬(0≤crs u w sw∧0≤dotI u w):=fun h=>by rw[←within_iff,h];decide
 have a:=f h0
 have b:=f h1
 have c:=f h2
 show withinF _ _ _=true
 rw[within_iff]
 simp only[crs_quarter,dot_quarter'] at a b c ⊢
 have n:∀{x:Int},x≤0→0≤-x:=Int.neg_nonneg_of_nonpos
 rw[Int.neg_neg]
 exact(Int.le_total 0 (crs v w sw)).elim (fun h=>(Int.le_total 0 (dotI v w)).elim (fun k=>(a ⟨h,k⟩).elim) fun k=>(b ⟨n k,h⟩).elim) fun h=>(Int.le_total 0 (dotI v w)).elim (fun k=>⟨k,n h⟩) fun k=>(c ⟨n h,n k⟩).elim
theorem vecGo_head(k:Nat)(v w:Pr)(sw:Bool):∃r,vecGo k v w sw=v::r:=by
 induction k using Nat.casesOn with
 |zero=>exact⟨[],rfl⟩
 |succ k=>unfold vecGo;split;exact⟨[],rfl⟩;exact⟨_,rfl⟩
noncomputable abbrev nrm(v:Pr):Rat:=(v.1:Rat)/1152921504606846976*(v.1/1152921504606846976)+(v.2:Rat)/1152921504606846976*(v.2/1152921504606846976)
theorem nrm_dot(v:Pr):nrm v=((dotI v v:Int):Rat)/(1152921504606846976*1152921504606846976):=by unfold nrm dotI;push_cast;exact li 0x8411508fc7018fc7011043cf10e3840893e3f1c18f8fc70610e8fc7063a3f1c184090a20820820820820821fdc323 (Rat.div_mul_cancel (Rat.ne_of_gt (li 0x63f1c063f1c04484b)))
theorem nrm_quarter(v:Pr)(sw:Bool):nrm (quarterOn v sw)=nrm v:=by rw[nrm_dot,nrm_dot,quarter_self]
theorem dot_pos{v:Pr}(h:Bd (nrm v-1) (1/25000000)):0<dotI v v:=by
 have h1:=h.lo
 rw[nrm_dot] at h1
 rcases Int.lt_or_le 0 (dotI v v) with k |k
 ·exact k
 ·have i1:=Rat.intCast_le_intCast.mpr k
  simp only[Rat.intCast_zero] at i1
  grind
section
variable {C S A B T K0 K1:Int} {rx ry:Pr} {centre p q:Pt} {o1 o2:Rat} {sw:Bool} {w:Pr}
noncomputable abbrev PnAt(C S:Int)(radii centre:Pt)(pt:Pt)(v:Pr):Prop:=PnB ((C:Rat)/1152921504606846976) ((S:Rat)/1152921504606846976) (backL pt radii centre) (v.1/1152921504606846976) (v.2/1152921504606846976)
theorem Set'.told'(h:Set' C S A B T K0 K1 rx ry centre p o1 o2){v:Pr}(hv:Bd (nrm v-1) (1/25000000)):PnAt C S (rx,ry) centre (pointF ⟨A,B,C,S⟩ (K0,K1) v p T) v:=by
 have bU:=sq_small (r:=2) (x:=(v.1:Rat)/1152921504606846976) (y:=(v.2:Rat)/1152921504606846976) (by have i1:=hv.hi;unfold nrm at i1;exact li 0x3e3f1c18f8fc70610e8fc7063a3f1c1840a104384187299d1a11cf8fc7063e3f1c1843a3f1c18e8fc7061028818811212a2 i1) (li 0x188184a)
 exact h.told bU.1 bU.2
theorem chain_ok(h:Set' C S A B T K0 K1 rx ry centre p o1 o2)(hw:Bd (nrm w-1) (1/25000000))(hq:PnAt C S (rx,ry) centre q w):
  ∀(k:Nat) (v:Pr) (here:Pt),Bd (nrm v-1) (1/25000000)→Ends k v w sw→PnAt C S (rx,ry) centre here v→
   ∀cv∈curvesGo ⟨A,B,C,S⟩ (K0,K1) p q T sw here (vecGo k v w sw++[w]),CvOk (rx,ry) centre (if sw then 1 else -1) cv:=by
 have last:∀(v:Pr) (here:Pt),Bd (nrm v-1) (1/25000000)→withinF v w sw=true→PnAt C S (rx,ry) centre here v→
   ∀cv∈curvesGo ⟨A,B,C,S⟩ (K0,K1) p q T sw here ([v]++[w]),CvOk (rx,ry) centre (if sw then 1 else -1) cv:=by
  intro v here hv hwi hp cv hcv
  simp only[List.cons_append,List.nil_append,cg2,cg1,List.mem_cons,List.not_mem_nil,or_false,if_true] at hcv
  subst hcv
  exact curve_ok (P0:=here) (P3:=q) h (dot_pos hv) hv hw hwi hp hq
 intro k
 induction k with
 |zero=>
  intro v here hv he hp
  exact last v here hv he hp
 |succ k ih=>
  intro v here hv he hp cv hcv
  unfold vecGo at hcv
  by_cases hwi:withinF v w sw=true
  ·rw[if_pos hwi] at hcv
   exact last v here hv hwi hp cv hcv
  ·rw[if_neg hwi] at hcv
   have hwf:withinF v w sw=false:=by simpa using hwi
   have hqv:Bd (nrm (quarterOn v sw)-1) (1/25000000):=by rw[nrm_quarter];exact hv
   obtain⟨r,er⟩:=vecGo_head k (quarterOn v sw) w sw
   have ih':=ih (quarterOn v sw) (pointF ⟨A,B,C,S⟩ (K0,K1) (quarterOn v sw) p T) hqv (he hwf) (h.told' hqv)
   rw[er] at ih' hcv
   simp only[List.cons_append] at ih' hcv
   rw[cg2] at hcv
   rw[if_neg (by simp)] at hcv
   rcases List.mem_cons.mp hcv with e |hcv
   ·subst e
    exact curve_ok (P0:=here) h (dot_pos hv) hv hqv (within_quarter v sw) hp (h.told' hqv)
   ·exact ih' cv hcv
theorem curves_len{e:El}{K:Pr}{p q:Pt}{T:Int}{sw:Bool}:∀(l:List Pr) (here:Pt),(curvesGo e K p q T sw here l).length=l.length-1
 |[],_=>rfl
 |[_],_=>rfl
 |v::w::r,here=>by
  rw[cg2]
  simp only[List.length_cons]
  rw[curves_len (w::r)]
  simp
end
theorem xt{x τ n O G o:Rat}(hx:0≤x)(ht1:1/9≤τ)(ht2:τ≤1000000)(hn:Bd (n-1) (1/1000000000000000000))(hG:G*(1+τ*τ)=4*n)(hO:0<O)(hob:Bd o 3)
  (hOG:Bd ((G-O)*o) (18/1000000000000000000*O))
  (u1:x*x*O≤4-O)(u2:4-O≤O*((x+1/1000000000000000000)*(x+1/1000000000000000000)+1/1000000000000000000)):
  Bd ((x-τ)*o) (1/1000000000):=by
 have hττ:=Rat.mul_nonneg (show 0≤τ-1/9 from li 0x2106918e84704e841a460e12a1 ht1) (show 0≤1000000-τ from li 0xe8a674184706299d04e0e12a1 ht2)
 have hτ2:0≤τ*τ:=mul_self_nonneg' τ
 obtain⟨n1,n2⟩:=hn
 have hG0:0<G:=by
  rcases rt G 0 with k |k
  ·have i1:=Rat.mul_nonneg (show 0≤-G from li 0x38184704e1612a1 k) (show 0≤1+τ*τ from li 0x138e12897df3cee48291c13a10691838a67413831291ce8a6741a32d6284706104e3840b2b1d2a1 ht2 hττ hτ2)
   exact li 0x14058413cf1021211e1062c9d1853a10439078411508413cf10212404e1090502e3 hG n1 i1
  ·rcases Classical.em (G=0) with h |h
   ·rw[h] at hG;exact li 0x21062c9d1853e104390784114184141010212404f10904e2e3 hG n1
   ·grind
 have hG5:G≤5:=by
  have i2:=Rat.mul_nonneg (Rat.le_of_lt hG0) hτ2
  exact li 0x140f3c41211ce8410e1062c9d1a41e10508413cf10212404e1094250612a3 hG n2 i2
 have hw0:39/10000000≤τ*G:=by
  rcases rt (39/10000000) (τ*G) with k |k
  ·exact k
  ·have e1:=Rat.mul_nonneg (show 0≤39/10000000-τ*G from li 0xf3848670629dd1a11c18670629dd18f3840e12a2 k) (show 0≤τ from li 0x3a506495d1c13a495d2013cf1291c13e10691838a67413c31291c13e8cb58a12a2 hττ hτ2 hG0 hG5)
   have e2:=Rat.mul_nonneg (Rat.le_of_lt hG0) (show 0≤9*τ-1 from li 0x841a463a91c1a413848410e12a1 ht1)
   exact li 0x4fa414048410c4ca7829d3a8248e91c18670629dd1903c40d012e8a974704fca6e788e9a61ce9221062c9d1853a1043cab747ba2a5d0453e10504040849013842508a6741eb8f7c1e19c18a774640f1258ff8b6eea864f712a3 ht2 hG n1 hG0 e1 e2
 have hxG:=Rat.mul_nonneg hx (Rat.le_of_lt hG0)
 obtain⟨o1,o2⟩:=hob
 obtain⟨g1,g2⟩:=hOG
 obtain⟨q1,q2⟩:=Bd.mul (x:=n-1) (y:=O*o) (a:=1/1000000000000000000) (b:=3*O) ⟨n1,n2⟩ (by
  have i3:=Rat.mul_nonneg (Rat.le_of_lt hO) (show 0≤o+3 from li 0x8c114e84704e8c10a12a1 o1)
  have i4:=Rat.mul_nonneg (Rat.le_of_lt hO) (show 0≤3-o from li 0xe8c184706304e0e12a1 o2)
  constructor;exact li 0x4f3a30421211e304f1053ce1212a2 i3;exact li 0x13e304e0c48473ce12304f1212a2 i4)
 have hGO:O*G*(τ*τ)=O*(4*n-G):=by
  have i5:O*(G*(1+τ*τ))=O*(4*n):=by rw[hG]
  exact li 0x2105142104f3c408411190138410945010f3c4111901384403121324 i5
 have hE:(x*x-τ*τ)*(O*G)=G*(x*x*O)-O*(4*n-G):=li 0x210454911104041129013c444310938e1104040d244411138e1121044a404f1110c40e1325 hGO
 have dU:(x*x-τ*τ)*(O*G)≤4*(G-n*O):=by
  have i6:=Rat.mul_nonneg (Rat.le_of_lt hG0) (show 0≤4-O-x*x*O from li 0xf3c438490138384706404e0cf3c43840e12a2 u1)
  rw[hE];exact li 0x519014033cf1101031211d13cf11010442404e1110c40e40513901031212a4 i6
 have dL:4*(G-n*O)-O*G*(1/100000000000000000*(x+1))≤(x*x-τ*τ)*(O*G):=by
  have e1:=Rat.mul_nonneg (Rat.le_of_lt hG0) (show 0≤O*((x+1/1000000000000000000)*(x+1/1000000000000000000)+1/1000000000000000000)-(4-O) from li 0x2404f0cf3a1062c9d1823a1062c9d182121062c9d1821211c13ce8418b274608e8418b27460848418b27460849013c30e12a2 u2)
  have e2:=Rat.mul_nonneg (Rat.le_of_lt hO) (Rat.mul_nonneg (Rat.le_of_lt hG0) (show 0≤1/100000000000000000*(x+1)-(2/1000000000000000000*x+1/1000000000000000000+1/1000000000000000000*(1/1000000000000000000)) from li 0x3a5067e79cecaa3c689fffff1c13a7e79cecaa3c689fffff2013e8cdd1c18418b17463e1042122062c9d18f121062c9d1828418b27468418b27461020eb91d2a2 hx hG0 hG5))
  rw[hE];exact li 0x14118418b17463e1042122062c9d18f121062c9d1828418b27468418b27461020c41211c14503e1062c9d1823e1062c9d182121062c9d1821240500c31211e40513901031104448418b17463e10421040d13cf11010442404e1110c40e12a4 e1 e2
 have hOG0:=Rat.mul_nonneg (Rat.le_of_lt hO) (Rat.le_of_lt hG0)
 have hY:0≤O*G*(1/100000000000000000*(x+1)):=Rat.mul_nonneg hOG0 (li 0x3a50611c13a12013e51c18418b17463e104212ac5d2a2 hx hG0 hG5)
 have e3:Bd (((x*x-τ*τ)*(O*G)-4*(G-n*O))*o) (O*G*(1/100000000000000000*(x+1))*3):=by
  have i7:=Bd.mul (x:=(x*x-τ*τ)*(O*G)-4*(G-n*O)) (y:=o) (a:=O*G*(1/100000000000000000*(x+1))) (b:=3) ⟨li 0x9014914040c4412121062c5d18f8410841033cf10e3840d04841211d04848418b17463e104210414f3c438e1034121049014914040c40e12a5 dL,li 0x9013ce4040c440f121062c5d1928410841034921114440d03c41211d248445110340f1049013ce4040c48874921114440d03c412404f39010310340f121062c5d1928410841212a5 dU dL⟩ ⟨o1,o2⟩
  exact i7
 obtain⟨e3a,e3b⟩:=e3
 have e4:Bd (O*(((x-τ)*o)*((x+τ)*G))) (O*(100/1000000000000000000+3/100000000000000000*((x+1)*G))):=by
  constructor;exact li 0x4d2121062c5d18f84108412304414f3c438e1034d21049014904c40c40d11219e2b9d1d08410d3444121062c9d1a3053104872c1d1f2062c9d1931054930d1121cb07470538484e39018b27468c18b17463e10424841021054cf3834443ce0921041219e2b9d2a6 hO g1 q2 e3a;exact li 0x3cf10e3840d34841240524131031034444d2121062c5d18f8410841230448678ae7478418b27468c14c41054210434d1104872c1d1d24c3444c818b27464c4872c1d1c14e12133ce0d110f3824841044e39018b27468c18b17463e10424841021219e2b9d2a6 hO g2 q1 e3b
 have e5:Bd (((x-τ)*o)*((x+τ)*G)) (100/1000000000000000000+3/100000000000000000*((x+1)*G)):=by
  obtain⟨a,b⟩:=e4
  constructor
  ·rcases rt (-(100/1000000000000000000+3/100000000000000000*((x+1)*G))) (((x-τ)*o)*((x+τ)*G)) with k |k
   ·exact k
   ·rcases Classical.em (((x-τ)*o)*((x+τ)*G)= -(100/1000000000000000000+3/100000000000000000*((x+1)*G))) with h |h
    ·exact li 0x210454500cf1114023841239018b27468c18b17464610423841021498e4062c9d1a3062c5d19184108e1040854500cf1114023841212a4 h
    ·have i8:=Rat.mul_pos hO (show 0 < -(100/1000000000000000000+3/100000000000000000*((x+1)*G))-((x-τ)*o)*((x+τ)*G) by grind)
     exact li 0x14a39018b27468c18b17464610424041021513c338444f0901040c48484a39018b27468c18b17464610424041021054913c338444f0901041211e39018b27468c18b17464610424041021513c338444f0901042a5 a i8
  ·rcases rt (((x-τ)*o)*((x+τ)*G)) (100/1000000000000000000+3/100000000000000000*((x+1)*G)) with k |k
   ·exact k
   ·rcases Classical.em (((x-τ)*o)*((x+τ)*G)=100/1000000000000000000+3/100000000000000000*((x+1)*G)) with h |h
    ·exact li 0x8414500cf1114023841239018b27468c18b17464610423841022514033c445008e1048e4062c9d1a3062c5d19184108e1040a12a4 h
    ·have i9:=Rat.mul_pos hO (show 0<((x-τ)*o)*((x+τ)*G)-(100/1000000000000000000+3/100000000000000000*((x+1)*G)) by grind)
     exact li 0x524500cf1114023841239018b27468c18b17464610423841020c48484914033c445008e1041128e4062c9d1a3062c5d19184108e1040848474500cf1114023841239018b27468c18b17464610423841022a5 b i9
 have e6:0≤((x+τ)*G)-39/10000000:=li 0x138f1211e19c18a774640f1211c139008f1219c18a77460e12a3 hw0 hxG
 have e7:(x+1)*G≤9*((x+τ)*G):=by
  have i10:=Rat.mul_nonneg (Rat.le_of_lt hG0) (show 0≤9*τ-1 from li 0x841a463a91c1a413848410e12a1 ht1)
  exact li 0x13e904e1210431211c140f1281d084108f1290503823c41212a3 hxG i10
 generalize (x-τ)*o=z at *
 generalize (x+τ)*G=W at *
 have e8:Bd ((W*(10000000/39))*z) (1/1000000000*(W*(10000000/39))):=by
  obtain⟨a,b⟩:=e5
  constructor;exact li 0x239018b27468c18b17464210423c410214e444ce47474210423c4a41444876cdd1c14619c18a77460e1d74cf483acdd1c149213fee7d3c9fb1c14a10691838a674148313fee7d3c9fb1d28a6741fac836eb8be2d758c78418a97464629dd0619c61041518a7741867184384d7ef5d2a5 ht2 hττ hτ2 e6 e7 a;exact li 0x3911239018b27468c18b17464210423c4102c65aa3fb87474210423c4a41444873bfeafa9dd1c14619c18a77460e1ce58bbffba7e9769dd1d28a6741ffb9f4f27ec7841a464bfee7d3c9fb1d18a77418671843848418a97464629dd0619c6104d3dbeae72c5d2a5 ht1 ht2 e6 e7 b
 obtain⟨a,b⟩:=e8
 have hW:0<W*(10000000/39):=li 0x3e1042404a413848a774704f4048a77470508a774804e8a7741867184abf2e3 hG0 hxG e7
 generalize W*(10000000/39)=V at *
 constructor
 ·rcases rt (-(1/1000000000)) z with k |k
  ·exact k
  ·rcases Classical.em (z= -(1/1000000000)) with h |h
   ·exact li 0x210453a1062a5d185261062a5d1853a12a1 h
   ·have i11:=Rat.mul_pos hW (show 0 < -(1/1000000000)-z by grind)
    exact li 0x4f8418a974614e0c48488418a97463c414f3848478418a974614e2a2 a i11
 ·rcases rt z (1/1000000000) with k |k
  ·exact k
  ·rcases Classical.em (z=1/1000000000) with h |h
   ·exact li 0x8413a1062a5d1893a1062a5d1a12a1 h
   ·have i12:=Rat.mul_pos hW (show 0<z-1/1000000000 by grind)
    exact li 0x13ce8418a97460c48483ce121062a5d18f1211ce8418a97462a2 b i12
theorem in_parts_ex(a:Pr)(k:Int)(h:0<a.2):∃θ:Rat,Bd θ (1/2)∧((inPartsF a k:Int):Rat)=val a*k+θ:=by
 obtain⟨θ,h1,h2⟩:=rounded_ex (a.1*k,a.2) h
 refine⟨θ,h1,?_⟩
 have e:val (a.1*k,a.2)=val a*k:=by
  unfold val
  push_cast
  grind
 rw[←e]
 exact h2
theorem o_gen{c s dx dy ρx ρy A θx θy θ X Y z:Rat}(hc:Bd c (101/100))(hs:Bd s (101/100))(hdx:Bd dx 2)(hdy:Bd dy 2)(hρ:1152921504606846976≤ρx)(hA:Bd (A-ρx) (1/2))(hβ:Bd (s*(A-ρy)) 1)
  (hθx:Bd θx (1/2))(hθy:Bd θy (1/2))(hθ:Bd θ 1)(hX:X=dx*ρx+θx)(hY:Y=dy*ρy+θy)(hz:z=(1152921504606846976*c*X+1152921504606846976*s*Y)/A-θ):
  Bd (z/1152921504606846976-(c*dx+s*dy)) (6/1152921504606846976):=by
 obtain⟨a1,a2⟩:=(hc.mul hdx).mul hA
 obtain⟨a3,a4⟩:=hdy.mul hβ
 obtain⟨a5,a6⟩:=hc.mul hθx
 obtain⟨a7,a8⟩:=hs.mul hθy
 have e1:c*X+s*Y=(c*dx+s*dy)*A+(-(c*dx*(A-ρx))-dy*(s*(A-ρy))+c*θx+s*θy):=li 0x4d245010f0896175951140896171134840985844d110238461610e5431054533900c41036141024cf1020a132b hX hY
 have e2:Bd (-(c*dx*(A-ρx))-dy*(s*(A-ρy))+c*θx+s*θy) (403/100):=by constructor;exact li 0x239418e41a1062184151384b301e39418e41a10621841553c4b301d245440310488184112cc075561144c31239418e41a204484188612cc075a20611e20455a11eccc18e41855561144c31054915100c410354f10244e102b302a9 hdx.1 hdx.2 a2 a4 a5 a7;exact li 0x44e1239418e41a1062184b301d53c48e506390684188612cc078818411054915100c412cc078e50639068811210621841555845130c4b301d68818478811568475561144c31054915100c410354f10244e102b33063906b302a9 hdx.1 hdx.2 a1 a3 a6 a8
 generalize -(c*dx*(A-ρx))-dy*(s*(A-ρy))+c*θx+s*θy=W at *
 obtain⟨h1,h2⟩:=hA
 have hA0:A≠0:=fun o_=>li 0x2104e04984188614e3c38478fc7013e11e2 hρ h1 o_
 have e3:z/1152921504606846976-(c*dx+s*dy)=W/A-θ/1152921504606846976:=by
  have i1:z=1152921504606846976*((c*X+s*Y)/A)-θ:=by rw[hz];grind
  rw[i1,e1];grind
 have e4:Bd (W/A) (404/100/1152921504606846976):=by
  have q:Bd ((A/1152921504606846975)*(W/A)) (404/100/1152921504606846976):=by
   have i2:(A/1152921504606846975)*(W/A)=W/1152921504606846975:=li 0x210503c43893ffffffffffffffffffc64043bfffffffffffffffffc6ffffffffffffffffff323 (Rat.div_mul_cancel (Rat.ne_of_gt (li 0x84188614e3c38478fc7013e11c13a12e2 hρ h1)))
   rw[i2]
   obtain⟨b1,b2⟩:=e2
   constructor;exact li 0xeb33063906d2abecfa5c7bdb91eccc18e41853b0834aafb3e971ef6e47b340639068fc70614effffffffffffffffff1a1ffffffffffffffffffedc2a1 b1 b2;exact li 0x3accc18e41b0834aafb3e971ef6e47b3306390614ed2abecfa5c7bdb91ceffffffffffffffffff1acd018e41a3f1c1a1ffffffffffffffffffedc2a1 b1 b2
  exact bd_div (li 0x84188614e403b331cfb33063906e47b3306390614fe478fc70142ccc78413bfffffffffffffffffc6b32fffffffffffffffced2a3 hρ e2.1 e2.2 h1) q
 rw[e3]
 obtain⟨b1,b2⟩:=e4
 obtain⟨t1,t2⟩:=hθ
 constructor;exact li 0x3a106ccc7b340639068fc70614fe67f1c1d0b330639068701eccc18e4185421c079818fc70614f3a3f1c183e67f1c2a3 e2.1 e2.2 b1 t2;exact li 0x210453accc73ecd018e41a3f1c1b99fc70742ccc18e41a1c07b330639061508701cf3a3f1c1839818fc706e67f1c2a3 e2.1 e2.2 b2 t1
structure Arc(o1 o2 w1 w2 τ k t σ:Rat):Prop where
 un:o1*o1+o2*o2=1
 hk:k*(1+τ*τ)=τ*τ-1
 ht:t*(1+τ*τ)=2*τ
 sg:σ*σ=1
 x:w1=o1*k-o2*(σ*t)
 y:w2=o1*(σ*t)+o2*k
 τ0:τ=0∨(1/9≤τ∧τ≤1000000)
section
variable {o1 o2 w1 w2 τ k t σ c s:Rat}
theorem Arc.pos(h:Arc o1 o2 w1 w2 τ k t σ):0≤τ:=by rcases h.τ0 with h |⟨h,_⟩;exact li 0x210453812413a12a1 h;exact li 0x841a463a11c13a12a1 h
theorem Arc.kt(h:Arc o1 o2 w1 w2 τ k t σ):k*k+t*t=1:=by
 have h0:=h.pos
 have hp:=Rat.mul_nonneg h0 h0
 have e1:=h.hk
 have e2:=h.ht
 have i1:(k*k+t*t-1)*((1+τ*τ)*(1+τ*τ))=0:=li 0xe38f10f1028813c408e8413cf10212204f1098411500903c43c408f3c40908413cf10210f3c48410c941010e3840a10438413cf1028413cf102104061323 e1 e2
 rcases Rat.mul_eq_zero.mp i1 with h |h
 ·exact li 0x8413cf10e3840a10430493cf10e3840a1061322 h
 ·rcases Rat.mul_eq_zero.mp h with h |h;exact li 0x1040438440f1050a204540e10408f08e08f84138e10212204e10988116205010240f10e10508f3c408f38409084138e10210e3848410c941010f3c40a1062323 e1 e2;exact li 0x1040438440f1050a204540e10408f08e08f84138e10212204e10988116205010240f10e10508f3c408f38409084138e10210e3848410c941010f3c40a1062323 e1 e2
theorem Arc.un'(h:Arc o1 o2 w1 w2 τ k t σ):w1*w1+w2*w2=1:=by
 have e:=h.kt
 have i1:=h.un
 have i2:=h.sg
 rw[h.x,h.y]
 exact li 0x49210f10f1114443c43c408e38484126105248445110284125248445110241010f3c40a104949011138f1040d240444e3c410311238f10445010248e3c41114040840a1061325 e i1 i2
theorem Arc.kk(h:Arc o1 o2 w1 w2 τ k t σ):k-1-τ*t= -2∧t+τ*(k-1)=0:=by
 have h0:=h.pos
 have hp:=Rat.mul_nonneg h0 h0
 have e1:=h.hk
 have e2:=h.ht
 constructor
 ·have i1:(k-1-τ*t+2)*(1+τ*τ)=0:=li 0x3c53a104f3c40848813c42610508413cf10210f3c48410c94210433ce1038810a104f3c4084061323 e1 e2
  rcases Rat.mul_eq_zero.mp i1 with h |h;exact li 0x210508410cf3840e20420494210433ce103881161323 h;exact li 0xe40440508f84141010212205010988140f10508e8414101021104048410c93a104340f103881162323 e1 e2
 ·have i2:(t+τ*(k-1))*(1+τ*τ)=0:=li 0x8413a10504040848814042503e105040408441012104324e40f8410c40a1050404084061323 e1 e2
  rcases Rat.mul_eq_zero.mp i2 with h |h;exact li 0x84140f3a104310204940f3a1043102061323 h;exact li 0x8413c509084138e10212204e10940f84138e10210e3848410c940e3e1043102062323 e1 e2
theorem Arc.mid(h:Arc o1 o2 w1 w2 τ k t σ):(w1-o1)-σ*τ*(w2-o2)= -2*o1∧(w2-o2)+σ*τ*(w1-o1)= -2*o2:=by
 obtain⟨a,b⟩:=h.kk
 have hs:=h.sg
 have q1:(w1-o1)-σ*τ*(w2-o2)=o1*(k-1-(σ*σ)*(τ*t))-σ*o2*(t+τ*(k-1)):=by rw[h.x,h.y];exact li 0x134844503c41034c340e11340f1044521024431034d28410d040438f1040c441110f3928410c40840e1326
 have q2:(w2-o2)+σ*τ*(w1-o1)=o2*(k-1-(σ*σ)*(τ*t))+σ*o1*(t+τ*(k-1)):=by rw[h.x,h.y];exact li 0x1349110440f10240348e1133c44124441034c310240f8410d24843911040c449311138f8410c40840a1326
 rw[q1,q2,hs,b]
 constructor;exact li 0x4d28410d14040e20452534a10438414501040c43ce101103881153121326 a;exact li 0x4d28410d14040e20452534a10438414501040c43ce101102881153121326 a
theorem Arc.bd(h:Arc o1 o2 w1 w2 τ k t σ):Bd o1 1∧Bd o2 1∧Bd w1 1∧Bd w2 1:=by
 have h1:=h.un
 have h2:=h.un'
 have i1:=mul_self_nonneg' o1
 have i2:=mul_self_nonneg' o2
 have i3:=mul_self_nonneg' w1
 have i4:=mul_self_nonneg' w2
 exact⟨sq_bd (li 0x184184a) (li 0x138e1211e104f3c438e10284124f3c48418411212a2 h1 i2),sq_bd (li 0x184184a) (li 0x13cf1211e104f3c438e10284124e3848418411212a2 h1 i1),sq_bd (li 0x184184a) (li 0x138e1211e104f3c438e10284124f3c48418411212a2 h2 i4),sq_bd (li 0x184184a) (li 0x13cf1211e104f3c438e10284124e3848418411212a2 h2 i3)⟩
theorem Arc.gG(h:Arc o1 o2 w1 w2 τ k t σ){n:Rat}(hn:c*c+s*s=n){g1 g2:Rat}(h1:g1=c*(w1-o1)+s*(w2-o2))(h2:g2=c*(w2-o2)-s*(w1-o1)):
  (g1*g1+g2*g2)*(1+τ*τ)=4*n:=by
 have e1:=h.un
 have e2:=h.un'
 have e3:o1*w1+o2*w2=k:=by rw[h.x,h.y];exact li 0x4914444101028412514521103ce1040c44113ce1044121021024a1325 e1
 have e4:(w1-o1)*(w1-o1)+(w2-o2)*(w2-o2)=2-2*k:=li 0x220454901113c408e2610504043cf1028412610524844511028412504834120c43d10cf4431028818813840e1325 e1 e2 e3
 have e5:g1*g1+g2*g2=n*(2-2*k):=by rw[h1,h2];exact li 0x8811545041220454d31040913c440e1025495141134c408f3c438e1028412545044d31024511104040a10498818811551025141134c40922543d10c44ce40310250f4431133900c408450e4031133d10c40d43900c44cf4431031024a2062055103121328 hn e1 e2 e3
 have i1:=h.hk
 rw[e5];exact li 0x220454043e104e38408438e1210432508818813c40c484138e102124050121323 i1
theorem Arc.share(h:Arc o1 o2 w1 w2 τ k t σ){n:Rat}(hn:c*c+s*s=n)(hn1:Bd (n-1) (1/1000000000000000000)){g1 g2 u1 u2 x:Rat}(h1:g1=c*(w1-o1)+s*(w2-o2))(h2:g2=c*(w2-o2)-s*(w1-o1))
  (d1:Bd (u1-g1) (6/1152921504606846976))(d2:Bd (u2-g2) (6/1152921504606846976))(hx:0≤x)
  (a1:x*x*(u1*u1+u2*u2)≤4-(u1*u1+u2*u2))(a2:4-(u1*u1+u2*u2)≤(u1*u1+u2*u2)*((x+1/1000000000000000000)*(x+1/1000000000000000000)+1/1000000000000000000)):
  Bd ((x-τ)*u1) (8/1000000000)∧Bd ((x-τ)*u2) (8/1000000000):=by
 have hG:=h.gG hn h1 h2
 obtain⟨n1,n2⟩:=hn1
 have q1:=mul_self_nonneg' u1
 have q2:=mul_self_nonneg' u2
 have q3:=mul_self_nonneg' g1
 have q4:=mul_self_nonneg' g2
 have q5:=mul_self_nonneg' x
 have hO0:=Rat.mul_nonneg q5 (show 0≤u1*u1+u2*u2 from li 0x138e1211c13cf1211c13cf10e3840a12a2 q1 q2)
 have bu:=sq_small (x:=u1) (y:=u2) (r:=2) (li 0x504043cf10e38408484741010f3c438e10212404f3c438e1020e11cf3c438e1028818811212a3 a1 hO0) (li 0x188184a)
 obtain⟨bu1,bu2⟩:=bu
 have hp:=mul_self_nonneg' τ
 have hg4:g1*g1+g2*g2≤4+4/1000000000000000000:=by
  have i1:=Rat.mul_nonneg (show 0≤g1*g1+g2*g2 from li 0x138e1211c13cf1211c13cf10e3840a12a2 q3 q4) hp
  exact li 0x514444101023cf1048473a10438418b27469078414511104040a104f3c40849013842514444101029019018b27460a12a4 hG n2 i1
 have bg:=sq_small (x:=g1) (y:=g2) (r:=3) (li 0xf3c438e1029019018b27460a11cf3c438e1028c18c11212a2 hg4) (li 0xe8818c788114e8c70630642a1 bu1.1 bu1.2)
 obtain⟨bg1,bg2⟩:=bg
 obtain⟨m1,m2⟩:=d1.mul bu1
 obtain⟨m3,m4⟩:=d2.mul bu2
 obtain⟨m5,m6⟩:=d1.mul d1
 obtain⟨m7,m8⟩:=d2.mul d2
 have dG:(g1*g1+g2*g2)-(u1*u1+u2*u2)= -2*((u1-g1)*u1+(u2-g2)*u2)+((u1-g1)*(u1-g1)+(u2-g2)*(u2-g2)):=li 0x114444101023cf10e38408388114f4433c43900ce10210f4433d10c43900ce4031020a1324
 rcases h.τ0 with ht |⟨ht1,ht2⟩
 ·-- opposite ends
  subst ht
  have hx2:x≤36/10000000000:=by
   refine sq_le (li 0x3a30631e30453a31c1864062a9d1aaa5d2a1 bg1.1 bg1.2) ?_
   have hO:39/10≤u1*u1+u2*u2:=li 0x84115040438e1028410411021240521093ce0cf383126063f1c1a6063f1c1848474500d1403126063f1c1a6063f1c1848479818fc7068811053ce0cf1221e6063f1c1a20441514034448878418b27461528410e41e19c1a8645110f3c40a12a5 n1 m1 m3 m6 m8 hG
   have i2:=Rat.mul_nonneg q5 (show 0≤u1*u1+u2*u2-39/10 from li 0x219c1a863cf10e3840a11c13cf10e3840a19c1a860e12a2 hO)
   exact li 0x14d311248445110286706a18312aebe9ebe36da68fab77eb1bedaf3923ff8b21dfa9e486cda61e19c1a864921114440b397ac6fb6bce48ffe2c877ea7921b369878b6df1ebe975c70faed3082082082087f70114f3c438e10284104110212405010944e0d1383126063f1c1a6063f1c1848b6df1ebe975c70faed3082082082087f70748f0d23c3126063f1c1a6063f1c1848b6df1ebe975c70faed3082082082087f7079818fc70688110544e0d1125b6f8f5f2bae387cf69820820820821fdc1e6063f1c1a20441523c348496dbe3d7caeb8e1f3da6082082082087f7078418b27461508410eaebe9ebe36da68f9eb2820820820821fdc1d34c4492111444084901492111444083abafa7af8db69a3eaddfac6fb6bce48ffe2c877ea7921b369874d31219018aa746864062a9d18486aa62daadb8c24d6aa39df0feac2de75fe2a33ce9bbfe34db12a6 a1 n1 m1 m3 m6 m8 hG hO i2
  have bx:Bd (x-0) (36/10000000000):=⟨li 0xe8c18c78c114e8c704faa9747864062a9d1853c10eaa5d2a2 hx bg1.1 bg1.2,li 0xe864062a9d1a11ce043864062a9d1a12a1 hx2⟩
  exact⟨(bx.mul bu1).le (li 0xe8c18478c114e847864062a9d1a2044a018a9746936a1d2a1 bg1.1 bg1.2),(bx.mul bu2).le (li 0xe8c18478c114e847864062a9d1a2044a018a9746936a1d2a1 bg1.1 bg1.2)⟩
 ·have hG1:39/10000000000000≤g1*g1+g2*g2:=by
   have hτ:τ*τ≤1000000000000:=by
    have i3:=Rat.mul_nonneg (show 0≤1000000-τ from li 0xe8a674184706299d04e0e12a1 ht2) (show 0≤1000000+τ from li 0xe8a6741a32d62847841a463a192674706299d04e0a8cb587f2a1 ht1 ht2)
    exact li 0x6299d04e0e299d04e08484738e122b1d0612a1 i3
   rcases rt (39/10000000000000) (g1*g1+g2*g2) with k |k
   ·exact k
   ·have i4:=Rat.mul_nonneg (show 0≤39/10000000000000-(g1*g1+g2*g2) from li 0xf3c438e102867062b5d1a11c1867062b5d18f3c438e1020e12a2 k) (show 0≤1+τ*τ from li 0x38e122b1d0611c138e13d8eaaaa92084706104e3840a2b1d2a1 hp hτ)
    exact li 0x619c18ad7464511104040838413cf102122b5d1cf3c48ac7418671e1062c9d1853a1043a2d7478ad7411514444101028413cf10212404e109867062b5d1914444101022a4 hG n1 hτ i4
  have hO:38/10000000000000≤u1*u1+u2*u2:=by
   exact li 0x219c18ad7463cf10e3840a4e2082082082087f70740e0d0383126063f1c1a6063f1c184938820820820821fdc1d13c344f0c49818fc7069818fc706124e2082082082087f7079818fc70688110540e0d0129c2082082082087f7079818fc70688110544f0d1129c2082082082087f707050404bffe65de2cb487fffffffd78cb3efe8c7051444bffe65de2cb487fffffffd78cb3efe8c7866062b5d191444410102cefff99778b2d21ffffffff5e32cfbfa32a4 q1 q2 m1 m3 m6 m8 hG1
  have one:∀{v r:Rat},Bd v 2→Bd r (6/1152921504606846976)→Bd (v*r) (12/1152921504606846976):=fun h k=>(h.mul k).le (li 0x22066063f1c184b018fc70684a)
  have key:∀{a b e f:Rat},Bd e (6/1152921504606846976)→Bd f (6/1152921504606846976)→38/10000000000000≤a*a+b*b→Bd a 2→
    Bd ((-2*(e*a+f*b)+(e*e+f*f))*a) (18/1000000000000000000*(a*a+b*b)):=by
   intro a b e f he hf hab ha
   have s1:=mul_self_nonneg' a
   have s2:=mul_self_nonneg' b
   have s3:=mul_self_nonneg' (a-b)
   have s4:=mul_self_nonneg' (a+b)
   obtain⟨e1,e2⟩:=he
   obtain⟨f1,f2⟩:=hf
   have p1:=Rat.mul_nonneg s1 (show 0≤6/1152921504606846976-e from li 0xe9818fc706847066063f1c18e0e12a1 e2)
   have p2:=Rat.mul_nonneg s1 (show 0≤6/1152921504606846976+e from li 0x9818fc70614e847066063f1c18e0a12a1 e1)
   have ab:Bd (2*(a*b)) (a*a+b*b):=⟨li 0x13ce08f3821211cf3c438e10216204f3841212a2 s4,li 0x4f3833ce0c48478813ce1043cf10e3840a12a2 s3⟩
   obtain⟨r1,r2⟩:=Bd.mul (x:=f) ⟨f1,f2⟩ ab
   have ee:Bd (e*e+f*f) (1/10000000000000000000000000000000):=by
    obtain⟨z1,z2⟩:=Bd.mul (x:=e) (y:=e) ⟨e1,e2⟩ ⟨e1,e2⟩
    obtain⟨z3,z4⟩:=Bd.mul (x:=f) (y:=f) ⟨f1,f2⟩ ⟨f1,f2⟩
    constructor;exact li 0x26063f1c1a6063f1c18414e384862ab49fc82082082082082082082082083f7479818fc7069818fc7061053cf1218aad27f20820820820820820820820820fdd1d08a6741c7fda0c2bcebf6a828ca0f3cb631e1069190c7fda0c2bcebf6a828ca0f3cb631e1062fdd1853cf10e3840a18aad27f20820820820820820820820820fdd2a3 ht1 ht2 z1 z3;exact li 0x38e126063f1c1a6063f1c184862ab49fc82082082082082082082082083f7473cf126063f1c1a6063f1c184862ab49fc82082082082082082082082083f74742299d071ff6830af3afdaa0a3283cf2d8c7841a46431ff6830af3afdaa0a3283cf2d8c73cf10e3840a1062fdd1a18aad27f20820820820820820820820820fdd2a3 ht1 ht2 z2 z4
   obtain⟨r3,r4⟩:=ee.mul ha
   constructor;exact li 0x8418bf7468811053cf10e38409113196a8fe820820820820fdd1ce881450104126063f1c19144441010213196a8fe820820820820fdd1c1451126063f1c18f0c4862ab49fc820820820820fdd1c1410125cb5be38b2ebe9f5833aad747866062b5d191444410102b39ebbdb196bead936faab1d1d28a6741e3ec35d37f2b8f51e1069192e3ec35d37f2b8f51f2062c9d19144441010210588114f44439010210f3c438e10209113196a8fe820820820820fdd2a5 ht1 ht2 hab s2 p1 r2 r3;exact li 0xf3c438e1024448418bf74688113196a8fe820820820820fdd1e6063f1c1914444101021053a2051404104c65aa3fa082082082083f7470514449818fc7063c21218aad27f2082082082083f747050404972d6f8e2cbafa7d60ceab5d1e19818ad7464511104040ace7aef6c65afab64dbeaac7474a299d078fb0d74dfcae3d47841a464b8fb0d74dfcae3d4788114f44439010210f3c438e102091132062c9d19144441010213196a8fe820820820820fdd2a5 ht1 ht2 hab s2 p2 r1 r4
  have k1:=key d1 d2 hO bu1
  have k2:=key (a:=u2) (b:=u1) d2 d1 (li 0x219818ad7463cf10e3840a11e19818ad74638e10f3c40a12a2 hO) bu2
  have z1:Bd (((g1*g1+g2*g2)-(u1*u1+u2*u2))*u1) (18/1000000000000000000*(u1*u1+u2*u2)):=by rw[dG];exact k1
  have z2:Bd (((g1*g1+g2*g2)-(u1*u1+u2*u2))*u2) (18/1000000000000000000*(u1*u1+u2*u2)):=by
   obtain⟨c1,c2⟩:=k2
   rw[dG];constructor;exact li 0x32062c9d1914444101021058811513c344440e0d01021113c344f0c440e0d03831020911211f2062c9d19040445110210588115038340444f0d110211038340e0c444f0d13c31020911212a4 c1;exact li 0x220454500d110f3833c40844500d140310f3833ce0c4082444c818b274645110f3c408484788114f3833c44500d110210f3833ce0c44500d1403102091132062c9d18f3c44511021212a4 c2
  have b1:=xt hx ht1 ht2 ⟨n1,n2⟩ hG (show 0<u1*u1+u2*u2 from li 0x219818ad7463cf10e3840a11c13cf10e3840a12e2 hO) (bu1.le (li 0xe8a6741a47841a463a91e2063068cb587f2a1 ht1 ht2)) z1 a1 a2
  have b2:=xt hx ht1 ht2 ⟨n1,n2⟩ hG (show 0<u1*u1+u2*u2 from li 0x219818ad7463cf10e3840a11c13cf10e3840a12e2 hO) (bu2.le (li 0xe8a6741a47841a463a91e2063068cb587f2a1 ht1 ht2)) z2 a1 a2
  exact⟨b1.le (li 0xe8a674187f1e106918e87f1e1062a5d1a8062a5d1b196a8fea5d2a1 ht1 ht2),b2.le (li 0xe8a674187f1e106918e87f1e1062a5d1a8062a5d1b196a8fea5d2a1 ht1 ht2)⟩
end
section
variable {o1 o2 w1 w2 τ k t σ c s:Rat}
theorem Arc.whole(h:Arc o1 o2 w1 w2 τ k t σ){n:Rat}(hn:c*c+s*s=n)(hn1:Bd (n-1) (1/1000000000000000000)){g1 g2 u1 u2:Rat}(h1:g1=c*(w1-o1)+s*(w2-o2))(h2:g2=c*(w2-o2)-s*(w1-o1))
  (d1:Bd (u1-g1) (6/1152921504606846976))(d2:Bd (u2-g2) (6/1152921504606846976)):39/10000000000000≤g1*g1+g2*g2∧0<u1*u1+u2*u2∧Bd u1 3∧Bd u2 3∧(4≤u1*u1+u2*u2→τ=0):=by
 have hG:=h.gG hn h1 h2
 obtain⟨n1,n2⟩:=hn1
 have q1:=mul_self_nonneg' g1
 have q2:=mul_self_nonneg' g2
 have hp:=mul_self_nonneg' τ
 have hg4:g1*g1+g2*g2≤4+4/1000000000000000000:=by
  have i1:=Rat.mul_nonneg (show 0≤g1*g1+g2*g2 from li 0x138e1211c13cf1211c13cf10e3840a12a2 q1 q2) hp
  exact li 0x514444101023cf1048473a10438418b27469078414511104040a104f3c40849013842514444101029019018b27460a12a4 hG n2 i1
 have bg:=sq_small (x:=g1) (y:=g2) (r:=21/10) (li 0xf3c438e1029019018b27460a11cf3c438e102d41a86d41a861212a2 hg4) (li 0x1d41a8684a)
 obtain⟨bg1,bg2⟩:=bg
 have hG1:39/10000000000000≤g1*g1+g2*g2:=by
  have hτ:τ*τ≤1000000000000:=by
   rcases h.τ0 with h |⟨h,h'⟩
   ·rw[h];exact li 0x10448ac74184a
   ·have i2:=Rat.mul_nonneg (show 0≤1000000-τ from li 0xe8a674184706299d04e0e12a1 h') (show 0≤1000000+τ from li 0xe8a6741a32d62847841a463a192674706299d04e0a8cb587f2a1 h h')
    exact li 0x6299d04e0e299d04e08484738e122b1d0612a1 i2
  rcases rt (39/10000000000000) (g1*g1+g2*g2) with k |k
  ·exact k
  ·have i3:=Rat.mul_nonneg (show 0≤39/10000000000000-(g1*g1+g2*g2) from li 0xf3c438e102867062b5d1a11c1867062b5d18f3c438e1020e12a2 k) (show 0≤1+τ*τ from li 0x38e122b1d0611c138e13d8eaaaa92084706104e3840a2b1d2a1 hp hτ)
   exact li 0x619c18ad7464511104040838413cf102122b5d1cf3c48ac7418671e1062c9d1853a1043a2d7478ad7411514444101028413cf10212404e109867062b5d1914444101022a4 hG n1 hτ i3
 obtain⟨m1,m2⟩:=d1.mul bg1
 obtain⟨m3,m4⟩:=d2.mul bg2
 obtain⟨m5,m6⟩:=d1.mul d1
 obtain⟨m7,m8⟩:=d2.mul d2
 have s1:=mul_self_nonneg' (u1-g1)
 have s2:=mul_self_nonneg' (u2-g2)
 have dG:u1*u1+u2*u2=(g1*g1+g2*g2)+2*((u1-g1)*g1+(u2-g2)*g2)+((u1-g1)*(u1-g1)+(u2-g2)*(u2-g2)):=li 0x45111040408f3c438e10288144f0cf1103833840840913c344f0c440e0d03831020a1324
 obtain⟨x1,x2⟩:=d1
 obtain⟨x3,x4⟩:=d2
 obtain⟨x5,x6⟩:=bg1
 obtain⟨x7,x8⟩:=bg2
 refine⟨hG1,li 0x4e4033900c48479818fc7069818fc7061053d10cf4431211e6063f1c1b506a18414e4034048879818fc706d41a861053d10d11221e19c18ad7464511104040a11c13cf10e3840a12e4 hG1 m1 m3 m5 s2,⟨li 0xed41a86dffffffffffffffffb1f506a1853a49ffffffffffffffffb1e6063f1c1853ce0efedc1e30453efedc2a2 x1 x5 x6,li 0xed41a86927fffffffffffffffec7d41a8614edffffffffffffffffb1cf3839818fc706bfb7073e306fedc2a2 x2 x5 x6⟩,⟨li 0xd41a8614fbfb7073b506a1b7fffffffffffffffec7d41a8614edffffffffffffffffb1e6063f1c18540f0efedc1e304542fedc2a3 x3 x5 x6 x7,li 0xed41a86927fffffffffffffffec7d41a8614edffffffffffffffffb1cf3839818fc706bfb7073e306fedc2a2 x4 x7 x8⟩,fun h4=>?_⟩
 rcases h.τ0 with h |⟨h,h'⟩
 ·exact h
 ·exfalso
  have hτ:1/81≤τ*τ:=by
   have i4:=Rat.mul_nonneg (show 0≤τ-1/9 from li 0x2106918e84704e841a460e12a1 h) (show 0≤τ+1/9 from li 0x3a299d0621e106918ea32d6284704e841a460a8cb587f2a1 h h')
   exact li 0x13a10691833a10691821211e1062c4638e1212a1 i4
  have hG2:g1*g1+g2*g2≤396/100:=by
   rcases rt (g1*g1+g2*g2) (396/100) with k |k
   ·exact k
   ·have i5:=Rat.mul_nonneg (show 0≤g1*g1+g2*g2-396/100 from li 0x2cb018e418f3c438e10284704f3c438e102b2c0639060e12a2 k) (show 0≤1+τ*τ from li 0x8418b118e3848ad9fdc771ce8a67418b21e106918e8b21c184138e1028ad9fdc772a1 h h' hτ)
    exact li 0x14511104040acb018e41838413cf102121faeb3b8b0f2a8a09e11e1062c463cf127de9d6de6beabda0efb1d14444101029019018b27460adf22eeb9e9ee3ff8fc73a10438418b27469f9e73b2a8f1a2883c90787ebacee2c3caa28278414511104040a104f3c4084901384251444410102b2c063906b7c8bbae7a7b8ffe3f2a4 hG n2 hg4 hτ i5
  exact li 0x1040438e102b2c06390684790145110f3c40a11cf3833ce0c49818fc7069818fc7061211d14034500c49818fc7069818fc7061211cf3833849818fc706d41a861221d14034049818fc706d41a861221e4 m2 m4 m6 m8 h4 hG2
end
structure InAB(C S A B T X Y O0 O1 K0 K1:Int)(rx ry:Pr)(centre p q:Pt)(o1 o2 w1 w2 τ k t σ:Rat)(large sw:Bool):Prop where
 geo:Geo C S A B T rx ry
 p1:0<p.1.2
 p2:0<p.2.2
 q1:0<q.1.2
 q2:0<q.2.2
 c1:0<centre.1.2
 c2:0<centre.2.2
 e1:val p.1=val centre.1+o1*val rx
 e2:val p.2=val centre.2+o2*val ry
 f1:val q.1=val centre.1+w1*val rx
 f2:val q.2=val centre.2+w2*val ry
 arc:Arc o1 o2 w1 w2 τ k t σ
 sg:σ=if large=sw then -1 else 1
 nn:Bd ((C:Rat)/1152921504606846976*(C/1152921504606846976)+(S:Rat)/1152921504606846976*(S/1152921504606846976)-1) (1/1000000000000000000)
 hX:inPartsF (minusF q.1 p.1) (T*MANY)=X
 hY:inPartsF (minusF q.2 p.2) (T*MANY)=Y
 hO0:(backF ⟨A,B,C,S⟩ (X,Y)).1=O0
 hO1:(backF ⟨A,B,C,S⟩ (X,Y)).2=O1
 hK0:(centreF (O0,O1) large sw).1=K0
 hK1:(centreF (O0,O1) large sw).2=K1
theorem A_pos{A:Int}{ρ:Rat}(h:Bd ((A:Rat)-ρ) (1/2))(k:1152921504606846976≤ρ):0<A:=by
 have i1:=h.lo
 rcases Int.lt_or_le 0 A with h |h
 ·exact h
 ·have i2:=Rat.intCast_le_intCast.mpr h
  simp only[Rat.intCast_zero] at i2
  grind
section
variable {C S A B T X Y O0 O1 K0 K1:Int} {rx ry:Pr} {centre p q:Pt} {o1 o2 w1 w2 τ k t σ:Rat} {large sw:Bool}
theorem InAB.chord(h:InAB C S A B T X Y O0 O1 K0 K1 rx ry centre p q o1 o2 w1 w2 τ k t σ large sw):
  Bd ((O0:Rat)/1152921504606846976-((C:Rat)/1152921504606846976*(w1-o1)+(S:Rat)/1152921504606846976*(w2-o2))) (6/1152921504606846976)∧
  Bd ((O1:Rat)/1152921504606846976-((C:Rat)/1152921504606846976*(w2-o2)-(S:Rat)/1152921504606846976*(w1-o1))) (6/1152921504606846976):=by
 have g:=h.geo
 obtain⟨b1,b2,b3,b4⟩:=h.arc.bd
 have dx:Bd (w1-o1) 2:=⟨by have i1:=b1.hi;have i2:=b3.lo;exact li 0x84114e8473e10611e204538f0e12a2 b1.2 b3.1,by have i3:=b1.lo;have i4:=b3.hi;exact li 0xe84184784114f84738f0e20612a2 b1.1 b3.2⟩
 have dy:Bd (w2-o2) 2:=⟨by have i5:=b2.hi;have i6:=b4.lo;exact li 0x84114e8473e10611e204538f0e12a2 b2.2 b4.1,by have i7:=b2.lo;have i8:=b4.hi;exact li 0xe84184784114f84738f0e20612a2 b2.1 b4.2⟩
 have m1:=val_minus h.q1 h.p1
 have m2:=val_minus h.q2 h.p2
 obtain⟨θx,x1,x2⟩:=in_parts_ex (minusF q.1 p.1) (T*MANY) m1.2
 obtain⟨θy,y1,y2⟩:=in_parts_ex (minusF q.2 p.2) (T*MANY) m2.2
 rw[h.hX,m1.1,h.f1,h.e1] at x2
 rw[h.hY,m2.1,h.f2,h.e2] at y2
 have eM:((T*MANY:Int):Rat)=T*1099511627776:=by push_cast;rfl
 rw[eM] at x2 y2
 have A0:=A_pos g.hA g.hx
 have B0:=A_pos g.hB g.hy
 obtain⟨t1,t1a,t1b,f1⟩:=fd_ex (C*X+S*Y) A0
 obtain⟨t2,t2a,t2b,f2⟩:=fd_ex (C*Y-S*X) B0
 have k0:(C*X+S*Y).fdiv A=O0:=h.hO0
 have k1:(C*Y-S*X).fdiv B=O1:=h.hO1
 rw[k0] at f1
 rw[k1] at f2
 push_cast at f1 f2
 have ss':Bd (-((S:Rat)/1152921504606846976)) (101/100):=⟨by have i9:=g.ss.hi;exact li 0xe8fc7068e50639068478e506390614e8fc7061612a1 i9,by have i10:=g.ss.lo;exact li 0x239418e41853a3f1c1a11ce8fc7061639418e41a12a1 i10⟩
 have sB':Bd (-((S:Rat)/1152921504606846976)*((B:Rat)-val rx*T*1099511627776)) 1:=⟨by have i11:=g.sB.hi;exact li 0x118fc70640f3848e87011031210611e1045463f1c18540f3848e87011031212a4 i11,by have i12:=g.sB.lo;exact li 0x21045463f1c1903ce123a1c0440c4847463f1c18540f3848e87011031210612a4 i12⟩
 refine⟨o_gen (A:=A) (X:=X) (Y:=Y) (θ:=t1) g.cc g.ss dx dy g.hx g.hA g.sA x1 y1 ⟨li 0x4e8873e10611e10453e11e10453a22a2 b1.1 b1.2 t1a,li 0xe8418483a10612a1 t1b⟩ (by rw[x2];exact li 0x134911024d04440833e3a1c04410e09240344f123a1c04410e0a1326) (by rw[y2];exact li 0x134911024d04440833e3a1c04410e09240344f123a1c04410e0a1326) (by rw[f1];grind),?_⟩
 have key:=o_gen (A:=B) (X:=Y) (Y:=X) (θ:=t2) (z:=O1) g.cc ss' dy dx g.hy g.hB sB' y1 x1 ⟨li 0x4e8473e10612013e11e10453a12a2 t1a t1b t2a,li 0xe8418483a10612a1 t2b⟩ (by rw[y2];exact li 0x134911024d04440833e3a1c04410e09240344f123a1c04410e0a1326) (by rw[x2];exact li 0x134911024d04440833e3a1c04410e09240344f123a1c04410e0a1326) (by rw[f2];grind)
 exact⟨by have i13:=key.lo;exact li 0x9818fc7061548fc7064e3f1c1924431108fc70614f3831020e11e6063f1c185523f1c1938fc7064910c4423f1c18f3831030e12a7 key.1,by have i14:=key.hi;exact li 0x523f1c1938fc7064910c4423f1c1853ce0c40839818fc706847523f1c1938fc7064910c4423f1c18f3831030e6063f1c1a12a7 key.2⟩
theorem size_rat(O0 O1:Int):((sizeF (O0,O1):Int):Rat)=((O0:Rat)/1152921504606846976*(O0/1152921504606846976)+(O1:Rat)/1152921504606846976*(O1/1152921504606846976))*(1152921504606846976*1152921504606846976):=by
 unfold sizeF dotI;push_cast;exact li 0xf0433c10c43810ce0431023e3f1c18f8fc70610e8fc7063a3f1c1840a3f1c063f1c044121322
theorem InAB.size(h:InAB C S A B T X Y O0 O1 K0 K1 rx ry centre p q o1 o2 w1 w2 τ k t σ large sw):0<sizeF (O0,O1):=by
 obtain⟨d1,d2⟩:=h.chord
 obtain⟨-,h1,-⟩:=h.arc.whole rfl h.nn rfl rfl d1 d2
 have e:=size_rat O0 O1
 have i1:(0:Rat)<((sizeF (O0,O1):Int):Rat):=by
  rw[e]
  exact Rat.mul_pos h1 (li 0x63f1c063f1c04484b)
 exact Rat.intCast_lt_intCast.mp (by simpa using i1)
theorem InAB.cen(h:InAB C S A B T X Y O0 O1 K0 K1 rx ry centre p q o1 o2 w1 w2 τ k t σ large sw):
  ∃x e0 e1:Rat,Bd ((x-τ)*(O0/1152921504606846976)) (8/1000000000)∧Bd ((x-τ)*(O1/1152921504606846976)) (8/1000000000)∧Bd e0 (2/1152921504606846976)∧Bd e1 (2/1152921504606846976)∧
   (K0:Rat)/1152921504606846976=(O0/1152921504606846976-σ*x*(O1/1152921504606846976))/2+e0∧
   (K1:Rat)/1152921504606846976=(O1/1152921504606846976+σ*x*(O0/1152921504606846976))/2+e1:=by
 obtain⟨d1,d2⟩:=h.chord
 obtain⟨-,hpos,bu1,bu2,hwh⟩:=h.arc.whole rfl h.nn rfl rfl d1 d2
 have hs0:=h.size
 have es:=size_rat O0 O1
 obtain⟨t1,t1a,t1b,f1⟩:=fd_ex (0+O0) (show(0:Int)<2 by decide)
 obtain⟨t2,t2a,t2b,f2⟩:=fd_ex (0+O1) (show(0:Int)<2 by decide)
 have hK0:=h.hK0
 have hK1:=h.hK1
 by_cases hc:sizeF (O0,O1)<4*PARTS*PARTS
 ·have hN:0≤((4*PARTS*PARTS-sizeF (O0,O1))*PARTS*PARTS).fdiv (sizeF (O0,O1)):=
   Int.fdiv_nonneg (Int.mul_nonneg (Int.mul_nonneg (by exact lI 0xf90138438484806404e10e10f0e12a2 hc) (by decide)) (by decide)) (by exact lI 0x13a12013a12a1 hs0)
  obtain⟨t3,t3a,t3b,f3⟩:=fd_ex ((4*PARTS*PARTS-sizeF (O0,O1))*PARTS*PARTS) hs0
  obtain⟨r0,r1,r2⟩:=rootI_spec hN
  have hsh:(shareF (O0,O1) large sw:Rat)=σ*rootI (((4*PARTS*PARTS-sizeF (O0,O1))*PARTS*PARTS).fdiv (sizeF (O0,O1))):=by
   unfold shareF
   rw[h.sg]
   split
   ·push_cast;exact li 0x138384114e121321
   ·exact li 0x3a104e121321
  have eK0:K0=(0+O0).fdiv 2+(shareF (O0,O1) large sw*(0-(O1-0))).fdiv (2*PARTS):=by rw[←hK0];unfold centreF;rw[if_pos hc];rfl
  have eK1:K1=(0+O1).fdiv 2+(shareF (O0,O1) large sw*(O0-0)).fdiv (2*PARTS):=by rw[←hK1];unfold centreF;rw[if_pos hc];rfl
  obtain⟨t4,t4a,t4b,f4⟩:=fd_ex (shareF (O0,O1) large sw*(0-(O1-0))) (show(0:Int)<2*PARTS by decide)
  obtain⟨t5,t5a,t5b,f5⟩:=fd_ex (shareF (O0,O1) large sw*(O0-0)) (show(0:Int)<2*PARTS by decide)
  have eP:((PARTS:Int):Rat)=1152921504606846976:=by rfl
  generalize (shareF (O0,O1) large sw*(0-(O1-0))).fdiv (2*PARTS)=V0 at *
  generalize (shareF (O0,O1) large sw*(O0-0)).fdiv (2*PARTS)=V1 at *
  push_cast at f4 f5
  rw[hsh] at f4 f5
  rw[eP] at f4 f5
  generalize rootI (((4*PARTS*PARTS-sizeF (O0,O1))*PARTS*PARTS).fdiv (sizeF (O0,O1)))=r at *
  generalize ((4*PARTS*PARTS-sizeF (O0,O1))*PARTS*PARTS).fdiv (sizeF (O0,O1))=N at *
  generalize (0+O0).fdiv 2=M0 at *
  generalize (0+O1).fdiv 2=M1 at *
  push_cast at f1 f2 f3
  rw[eP,es] at f3
  have hr:=cast_nn r0
  have r1':=cast_le r1
  have r2':=Rat.intCast_lt_intCast.mpr r2
  push_cast at r1' r2'
  have sh:=h.arc.share rfl h.nn rfl rfl d1 d2 (x:=(r:Rat)/1152921504606846976) (li 0x13a11c13a3f1c1a3f1c2a1 hr) (by
    generalize (O0:Rat)/1152921504606846976=u1 at *
    generalize (O1:Rat)/1152921504606846976=u2 at *
    have q0:=Rat.mul_nonneg (show 0≤(N:Rat)-r*r from li 0xf3c43a11c138f3c40e12a2 r1') (Rat.le_of_lt hpos)
    generalize u1*u1+u2*u2=O at *
    have hO:O≠0:=fun o_=>li 0x8413812413a1221 hpos o_
    have e:(N:Rat)*O=(4-O)*(1152921504606846976*1152921504606846976)-t3*O:=by rw[f3];exact li 0x210503e3f1c063f1c0441049018fc701123f1c0443e3f1c063f1c0441038fc701123f1c0442503833c49013c38fc7018fc70110438f103a20820820820820821fdc323 (Rat.div_mul_cancel (Rat.ne_of_gt (li 0x4ea20820820820820821fdc2013a3f1c063f1c0441212e1 hpos)))
    have q1:=Rat.mul_nonneg t3a (Rat.le_of_lt hpos)
    exact li 0x138f1211e10513c49013c38fc7018fc70110438f1032414504040cf1211d08fc706423f1c1843c49013c3a20820820820820821fdc2a4 q0 e q1) (by
    generalize (O0:Rat)/1152921504606846976=u1 at *
    generalize (O1:Rat)/1152921504606846976=u2 at *
    generalize u1*u1+u2*u2=O at *
    have q0:=Rat.mul_nonneg (show 0≤((r:Rat)+1)*(r+1)-N from li 0xf3a10423a10421212013a10423a104210f0e12a2 r2') (Rat.le_of_lt hpos)
    have hO:O≠0:=fun o_=>li 0x8413812413a1221 hpos o_
    have e:(N:Rat)*O=(4-O)*(1152921504606846976*1152921504606846976)-t3*O:=by rw[f3];exact li 0x210503e3f1c063f1c0441049018fc701123f1c0443e3f1c063f1c0441038fc701123f1c0442503833c49013c38fc7018fc70110438f103a20820820820820821fdc323 (Rat.div_mul_cancel (Rat.ne_of_gt (li 0x4ea20820820820820821fdc2013a3f1c063f1c0441212e1 hpos)))
    have q1:=Rat.mul_nonneg (show 0≤1-t3 from li 0xe84184806104e0e12a1 t3b) (Rat.le_of_lt hpos)
    have q2:=Rat.mul_nonneg hr (Rat.le_of_lt hpos)
    have e2:(4-O)≤O*(((r+1)*(r+1)+1)/(1152921504606846976*1152921504606846976)):=li 0x1014e8fc7018fc7011044a10424a10421210422418413c34048478411514049014038fc7018fc7011043d01032414a10424a10421110d01211e40500d0384a20820820820820821fdc2a5 q0 e q1 (Rat.div_mul_cancel (Rat.ne_of_gt (li 0x3a106882082082082082087f70804ea20820820820820821fdc1c18fc7018fc7011212e1 t1a t1b)))
    have e3:((r:Rat)+1)*(r+1)+1≤((r+1152921504606846976/1000000000000000000)*(r+1152921504606846976/1000000000000000000)+1152921504606846976*1152921504606846976 /1000000000000000000):=li 0x38f84108f841084c3fa659a5c6720f3c43b0fe99669719c73e10423e10421210423e3f1c062c9d1823e3f1c062c9d182123f1c063f1c0448b27460a3be0dbae7abb92a2 r1' r2'
    have q3:=Rat.mul_nonneg (Rat.le_of_lt hpos) (show 0≤((r+1152921504606846976/1000000000000000000)*(r+1152921504606846976/1000000000000000000)+1152921504606846976*1152921504606846976 /1000000000000000000)-(((r:Rat)+1)*(r+1)+1) from li 0x38f84108f841084c3fa659a5c6720f3c43b0fe99669719c704f8fc7018b274608f8fc7018b27460848fc7018fc701122c9d1823e10423e10421210420e3be0dbae7abb92a2 r1' r2')
    exact li 0x13d18fc7018b27460918fc7018b27460848fc7018fc701122c9d1824610424610421210420c484706104e0cf1211e104540f12404f0e3f1c063f1c04410e3c40c90518410918410844033c48479013c33d18fc7068418b27460918fc7068418b27460848418b2746084a20820820820820821fdc2a4 q0 e q1 q3)
  refine⟨(r:Rat)/1152921504606846976,-(t1+t4)/1152921504606846976,-(t2+t5)/1152921504606846976,sh.1,sh.2,⟨li 0x3a106120f8418488818fc70614f382163f1c1a3f1c2a2 t1b t4b,li 0x4e8c704f8c7423f1c1a30611e3045423f1c1a11cf382163f1c1a2063f1c1a7f1c2a3 bu1.1 bu1.2 t1a t4a⟩,⟨li 0x3a106120f8418488818fc70614f382163f1c1a3f1c2a2 t2b t5b,li 0x4e8c704f8c7423f1c1a30611e3045423f1c1a11cf382163f1c1a2063f1c1a7f1c2a3 bu1.1 bu1.2 t2a t5a⟩,?_,?_⟩
  ·rw[eK0];push_cast;rw[f1,f4];exact li 0x841522063f1c0441134840510430c42414028863c350e0c28fc706423f1c1934a3f1c184463f1c1840e218f382163f1c182c20820820820820821fdc327 (Rat.div_mul_cancel (Rat.ne_of_gt (li 0x3a1063f5c2013a3f5c1c18818fc7011212e1 t1a t1b)))
  ·rw[eK1];push_cast;rw[f2,f5];exact li 0x841522063f1c0441134844410c42414028863c350e0c28fc706423f1c1934a3f1c184463f1c1840a218f382163f1c182c20820820820820821fdc327 (Rat.div_mul_cancel (Rat.ne_of_gt (li 0x3a1063f5c2013a3f5c1c18818fc7011212e1 t1a t1b)))
 ·have hτ:τ=0:=by
   refine hwh ?_
   have h4:=cast_le (Int.not_lt.mp hc)
   push_cast at h4
   rw[es,show((PARTS:Int):Rat)=1152921504606846976 from rfl] at h4
   exact li 0x9018fc701123f1c0443e3f1c18f8fc70610e8fc7063a3f1c1840a3f1c063f1c0441211e404f8fc7063e3f1c1843a3f1c18e8fc706102a20820820820820821fdc2a2 h4
  have eK0:K0=(0+O0).fdiv 2:=by rw[←hK0];unfold centreF;rw[if_neg hc]
  have eK1:K1=(0+O1).fdiv 2:=by rw[←hK1];unfold centreF;rw[if_neg hc]
  push_cast at f1 f2
  refine⟨0,-t1/1152921504606846976,-t2/1152921504606846976,?_,?_,⟨li 0x3a106620f8fc7068c18478c114f8fc7068478818fc70614e163f1c1a7f5c2a2 bu1.1 bu1.2 t1b,li 0x4e8c73e3f1c1a30611e30453e3f1c1a11ce163f1c1a2063f1c1a7f1c2a2 bu1.1 bu1.2 t1a⟩,⟨li 0x3a106620f8fc7068c18478c114f8fc7068478818fc70614e163f1c1a7f5c2a2 bu1.1 bu1.2 t2b,li 0x4e8c73e3f1c1a30611e30453e3f1c1a11ce163f1c1a2063f1c1a7f1c2a2 bu1.1 bu1.2 t2a⟩,?_,?_⟩
  ·rw[hτ];constructor;exact li 0xe8fc7068c18478c114e8fc706847a018a97461410433a3f1c1849369dd2a1 bu1.1 bu1.2;exact li 0x3a3f1c1a30611e30453a3f1c1a11c10433a3f1c184a018a97469369dd2a1 bu1.1 bu1.2
  ·rw[hτ];constructor;exact li 0xf8fc7068c18478c114f8fc706847a018a97461410433a3f1c1849369dd2a2 bu1.1 bu1.2;exact li 0x3e3f1c1a30611e30453e3f1c1a11c10433a3f1c184a018a97469369dd2a2 bu1.1 bu1.2
  ·rw[eK0,f1];exact li 0x510a21900e3f1c1918fc7063c110e8fc7061038864058fc7060a1324
  ·rw[eK1,f2];exact li 0x510a21900e3f1c1918fc7063c110e8fc7061028864058fc7060a1324
theorem InAB.lie(h:InAB C S A B T X Y O0 O1 K0 K1 rx ry centre p q o1 o2 w1 w2 τ k t σ large sw):
  Bd ((K0:Rat)/1152921504606846976+((C:Rat)/1152921504606846976*o1+(S:Rat)/1152921504606846976*o2)) (41/10000000000)∧
  Bd ((K1:Rat)/1152921504606846976+((C:Rat)/1152921504606846976*o2-(S:Rat)/1152921504606846976*o1)) (41/10000000000)∧
  Bd (((O0-K0:Int):Rat)/1152921504606846976-((C:Rat)/1152921504606846976*w1+(S:Rat)/1152921504606846976*w2)) (42/10000000000)∧
  Bd (((O1-K1:Int):Rat)/1152921504606846976-((C:Rat)/1152921504606846976*w2-(S:Rat)/1152921504606846976*w1)) (42/10000000000):=by
 obtain⟨d1,d2⟩:=h.chord
 obtain⟨x,e0,e1,x1,x2,b0,b1,k0,k1⟩:=h.cen
 obtain⟨m1,m2⟩:=h.arc.mid
 have hs:=h.arc.sg
 have hτ0:=h.arc.pos
 have hτ1:τ≤1000000:=by rcases h.arc.τ0 with h |⟨_,h⟩;exact li 0x2104e0493a299d0612a1 h;exact li 0xe8a67418473a299d0612a1 h
 push_cast
 rw[show ∀a b:Rat,(a-b)/1152921504606846976=a/1152921504606846976-b/1152921504606846976 from fun a b=>li 0xf3838fc7063e3f1c18e8fc7060e1322,show ∀a b:Rat,(a-b)/1152921504606846976=a/1152921504606846976-b/1152921504606846976 from fun a b=>li 0xf3838fc7063e3f1c18e8fc7060e1322]
 rw[k0,k1]
 clear k0 k1
 generalize (C:Rat)/1152921504606846976=c at *
 generalize (S:Rat)/1152921504606846976=s at *
 generalize (O0:Rat)/1152921504606846976=u1 at *
 generalize (O1:Rat)/1152921504606846976=u2 at *
 have bσ:=one_bd hs
 obtain⟨y1,y2⟩:=bσ.mul x1
 obtain⟨y3,y4⟩:=bσ.mul x2
 have bτ:Bd (σ*τ) 1000000:=(bσ.mul (y:=τ) ⟨li 0x13a11e299d0453a12a1 hτ0,hτ1⟩).le (li 0x2106299d0448a674184a)
 obtain⟨z1,z2⟩:=bτ.mul d1
 obtain⟨z3,z4⟩:=bτ.mul d2
 obtain⟨d1a,d1b⟩:=d1
 obtain⟨d2a,d2b⟩:=d2
 obtain⟨b0a,b0b⟩:=b0
 obtain⟨b1a,b1b⟩:=b1
 have g1:(c*(w1-o1)+s*(w2-o2))-σ*τ*(c*(w2-o2)-s*(w1-o1))= -2*(c*o1+s*o2):=by
  have i1:(c*(w1-o1)+s*(w2-o2))-σ*τ*(c*(w2-o2)-s*(w1-o1))=c*((w1-o1)-σ*τ*(w2-o2))+s*((w2-o2)+σ*τ*(w1-o1)):=li 0x155130c44914031023ce1154500c44944c31031035544c33ce1114031031124500cf3845130c40840a1328
  rw[i1,m1,m2];exact li 0x118811501043e20453841028811514043ce102121324
 have g2:(c*(w2-o2)-s*(w1-o1))+σ*τ*(c*(w1-o1)+s*(w2-o2))= -2*(c*o2-s*o1):=by
  have i2:(c*(w2-o2)-s*(w1-o1))+σ*τ*(c*(w1-o1)+s*(w2-o2))=c*((w2-o2)+σ*τ*(w1-o1))-s*((w1-o1)-σ*τ*(w2-o2)):=li 0x155130c44914031033ce1154500c44944c31021025544c33ce1114031021124500cf3845130c40c40e1328
  rw[i2,m1,m2];exact li 0x118811501043e20453841038811514043ce103121324
 have E0:Bd ((u1-σ*x*u2)/2+e0+(c*o1+s*o2)) (41/10000000000):=by
  have e:(u1-σ*x*u2)/2+e0+(c*o1+s*o2)=(u1-(c*(w1-o1)+s*(w2-o2)))/2-(σ*((x-τ)*u2))/2-(σ*τ*(u2-(c*(w2-o2)-s*(w1-o1))))/2+e0:=li 0x8416585c31165540c40934846555031166170c40c40e20456571165040842514d010f1038863826571165040824596170c45955031020e21934120cf1048860d34843d95540c45985c31030c48860ce0a232c g1
  rw[e];constructor;exact li 0x22063f1c1853a4ba3be4efe861fdc1e6063f1c1853d54500c44944c31020e29e1df2b7f831fdc1d95c45955130c44914031030c48a67419818fc7061229e1df2b7f831fdc1d95c48a6741fe5aeb8f49a88e31e299d04565713f96bae3d26a238c76585c3584121068062a5d1848a7877cadfe0c7f707869062a9d1853d54500c44944c31020e21996170d61048860d95c45955130c44914031030c48860ce0a4ba3be4efe861fdc2ac y4 bτ.1 bτ.2 z4 d1a b0a;exact li 0x3a2063f1c1a4ba3be4efe861fdc1cf5514031125130c40839818fc7068a7877cadfe0c7f7078a67419818fc7061056571165544c31124500c40c31229e1df2b7f831fdc1d95c48a6741fe5aeb8f49a88e31e299d04565713f96bae3d26a238c7841a018a97461056585c35841229e1df2b7f831fdc1cf5514031125130c40838866585c35841221836571165544c31124500c40c3122183382869062a9d1a4ba3be4efe861fdc2ac y3 bτ.1 bτ.2 z3 d1b b0b
 have E1:Bd ((u2+σ*x*u1)/2+e1+(c*o2-s*o1)) (41/10000000000):=by
  have e:(u2+σ*x*u1)/2+e1+(c*o2-s*o1)=(u2-(c*(w2-o2)-s*(w1-o1)))/2+(σ*((x-τ)*u1))/2+(σ*τ*(u1-(c*(w1-o1)+s*(w2-o2))))/2+e1:=li 0x8416585c31165540c40d34846555031166170c40840a20456571165040c42514d010f1028863826571165040c24596170c45955031030e21934120cf1048860934843d95540c45985c31020c488608e0a232c g2
  rw[e];constructor;exact li 0x22063f1c1853a4ba3be4efe861fdc1e6063f1c1853d54500c44944c31030e29e1df2b7f831fdc1e299d066063f1c1841595c45955130c44914031020c48a7877cadfe0c7f70765712299d07f96bae3d26a238c78a67411595c4fe5aeb8f49a88e31e1068062a5d1841596170d61048a7877cadfe0c7f707869062a9d1853d54500c44944c31030e21996170d61048860995c45955130c44914031020c488608e0a4ba3be4efe861fdc2ac y1 bτ.1 bτ.2 z1 d2a b1a;exact li 0x3a2063f1c1a4ba3be4efe861fdc1cf5514031125130c40c39818fc7068a7877cadfe0c7f7076571165544c31124500c408312299d066063f1c1848a7877cadfe0c7f70765712299d07f96bae3d26a238c78a67411595c4fe5aeb8f49a88e31d96170d6104841a018a97461229e1df2b7f831fdc1cf5514031125130c40c38866585c35841221826571165544c31124500c4083122182382869062a9d1a4ba3be4efe861fdc2ac y2 bτ.1 bτ.2 z2 d2b b1b
 refine⟨E0,E1,?_,?_⟩
 ·obtain⟨a,b⟩:=E0
  constructor;exact li 0x229e1df2b7f831fdc0554500c44944c31026571155130c44914031031038811554044931021093a2063f1c1a4ba3be4efe861fdc1e6063f1c1853d54500c44944c31020e29e1df2b7f831fdc1e299d066063f1c1841595c45955130c44914031030c48a7877cadfe0c7f70765712299d061fe5aeb8f49a88e31e299d045657121fe5aeb8f49a88e31e1068062a5d1841596170d61048a7877cadfe0c7f70786a062a9d1853cf6581161038863820d54444941020e4ba3be4efe861fdc2ac y3 bτ.1 bτ.2 z3 d1a b0b g1;exact li 0x229e1df2b7f831fdc0455514031125130c40995c45544c31124500c40c40e20455501124c4084262063f1c1853a4ba3be4efe861fdc1cf5514031125130c40839818fc7068a7877cadfe0c7f7076571165544c31124500c40c312299d066063f1c1848a7877cadfe0c7f70765712299d061fe5aeb8f49a88e31e299d045657121fe5aeb8f49a88e31d96170d6104841a018a97461229e1df2b7f831fdc1cf3d96045840e218e08355111250408386a062a9d1a4ba3be4efe861fdc2ac y4 bτ.1 bτ.2 z4 d1b b0a g1
 ·obtain⟨a,b⟩:=E1
  constructor;exact li 0x229e1df2b7f831fdc0554500c44944c31036571155130c44914031021028811554044931031093a2063f1c1a4ba3be4efe861fdc1e6063f1c1853d54500c44944c31030e29e1df2b7f831fdc1d95c45955130c44914031020c48a67419818fc7061229e1df2b7f831fdc1d95c48a674187f96bae3d26a238c78a67411595c487f96bae3d26a238c76585c3584121068062a5d1848a7877cadfe0c7f70786a062a9d1853cf6581161028863820d54444941030e4ba3be4efe861fdc2ac y2 bτ.1 bτ.2 z2 d2a b1b g2;exact li 0x869062a9d1855d94043c40a218e0965044d11030a29e1df2b7f831fdc1d75955031134910c40c39818fc7068a7877cadfe0c7f70765812299d06fffffff921f78d478a6741159604bffffffe487de351d75d94043c40a218e0835951134840c386a062a9d1a29e1df2b7f831fdc2ac bτ.1 bτ.2 d2b a
end
section
variable {C S A B T X Y O0 O1 K0 K1:Int} {rx ry:Pr} {centre p q:Pt} {o1 o2 w1 w2 τ k t σ:Rat} {large sw:Bool}
theorem InAB.set(h:InAB C S A B T X Y O0 O1 K0 K1 rx ry centre p q o1 o2 w1 w2 τ k t σ large sw):Set' C S A B T K0 K1 rx ry centre p o1 o2:=by
 obtain⟨a0,a1,-,-⟩:=h.lie
 obtain⟨b1,b2,b3,b4⟩:=h.arc.bd
 have hun:=h.arc.un
 have nn:=h.nn
 have hc:=h.geo.cc
 have hs:=h.geo.ss
 obtain⟨n1,n2⟩:=nn
 obtain⟨y1,y2⟩:=Bd.mul (x:=(C:Rat)/1152921504606846976*(C/1152921504606846976)+(S:Rat)/1152921504606846976*(S/1152921504606846976)-1) ⟨n1,n2⟩ b1
 obtain⟨y3,y4⟩:=Bd.mul (x:=(C:Rat)/1152921504606846976*(C/1152921504606846976)+(S:Rat)/1152921504606846976*(S/1152921504606846976)-1) ⟨n1,n2⟩ b2
 obtain⟨z1,z2⟩:=hc.mul a0
 obtain⟨z3,z4⟩:=hs.mul a1
 obtain⟨z5,z6⟩:=hs.mul a0
 obtain⟨z7,z8⟩:=hc.mul a1
 have s0:=mul_self_nonneg' ((C:Rat)/1152921504606846976*o1+(S:Rat)/1152921504606846976*o2)
 have s1:=mul_self_nonneg' ((C:Rat)/1152921504606846976*o2-(S:Rat)/1152921504606846976*o1)
 have hsum:((C:Rat)/1152921504606846976*o1+(S:Rat)/1152921504606846976*o2)*((C:Rat)/1152921504606846976*o1+(S:Rat)/1152921504606846976*o2)+((C:Rat)/1152921504606846976*o2-(S:Rat)/1152921504606846976*o1)*((C:Rat)/1152921504606846976*o2-(S:Rat)/1152921504606846976*o1)=(C:Rat)/1152921504606846976*(C/1152921504606846976)+(S:Rat)/1152921504606846976*(S/1152921504606846976):=li 0x114444101023cf10e3840a1049463f1c18f1108fc7063840918fc7063c4423f1c18e1021118fc706384423f1c18f103463f1c18e1108fc7063c40c40918fc706463f1c184423f1c1908fc706102a20820820820820821fdc324 hun
 obtain⟨⟨u1,u2⟩,⟨u3,u4⟩⟩:=sq_small (x:=(C:Rat)/1152921504606846976*o1+(S:Rat)/1152921504606846976*o2) (y:=(C:Rat)/1152921504606846976*o2-(S:Rat)/1152921504606846976*o1) (r:=105/100) (li 0x24c9d0508fc7064443e3f1c18e102423f1c19110f8fc706384084423f1c18e10f8fc7064440d08fc7063843e3f1c191103102423f1c1908fc70610f8fc7063e3f1c184089423f1c1908fc70610f8fc7063e3f1c1840a10438418b2746932747461062ee19e6cfcdf4bfffc78411518bb8679b3f37d2ffff1d08fc7064443e3f1c18e102423f1c19110f8fc706384084423f1c18e10f8fc7064440d08fc7063843e3f1c1911031028e90639068e9063906124c9d2a4 b1.1 b1.2 n2 hsum) (li 0x18e906390684a)
 obtain⟨a0a,a0b⟩:=a0
 obtain⟨a1a,a1b⟩:=a1
 refine⟨h.geo,h.p1,h.p2,h.c1,h.c2,h.e1,h.e2,⟨?_,?_⟩,⟨?_,?_⟩,⟨li 0x21a418aa74614e8fc7064a3f1c1911108fc7063c40828474a3f1c1911108fc7063c40a3a418e41a11eb06a1853a3f1c1a12a5 u2 a0a,li 0x3a3f1c1928fc706444423f1c18f1020a1a418aa7468478e90639061528fc706444423f1c18f1028473a3f1c1ab06a1a12a5 u1 a0b⟩,⟨li 0x21a418aa74614e8fc7064a3f1c1911108fc7063c40c28474a3f1c1911108fc7063c40e3a418e41a11eb06a1853a3f1c1a12a5 u4 a1a,li 0x3a3f1c1928fc706444423f1c18f1030a1a418aa746ba97474a3f1c1911108fc7063c40e3a418e41a4fbea2cf478e90639061528fc706444423f1c18f1039b5cb5a7cf473a3f1c1ab06a1aea5d2a5 u3 u4 a1b⟩,⟨li 0x8418b274614f8fc7063e3f1c1843a3f1c18e8fc7061028410e4c9d1d0841a6a837e3ffc7841150a6a837e3ffc78418a874614f8fc7063e3f1c1843a3f1c18e8fc7061028410e4c9d2a3 b1.1 b1.2 n1,li 0x3e3f1c18f8fc70610e8fc7063a3f1c1840a10438418b2746932747421069aa0df8fff1e1045429aa0df8fff1cf8fc7063e3f1c1843a3f1c18e8fc7061028410e1062a1d1a4c9d2a3 b1.1 b1.2 n2⟩⟩
 ·exact li 0x463f1c18e8fc7064a3f1c1931118fc7064040c21239418e41a1a418aa746124c9d1e39418e41a1a418aa7461054a3f1c18f8fc7064a3f1c1901118fc7064c4082124c9d1d28fc7064a3f1c184463f1c1918fc7061028410d0121062c9d1a10449327474e1063bb9e2baff1e10454e3bb9e2baff1ec062a5d1854128fc7063e3f1c1840918fc7063a3f1c1840e4c9d2a6 b2.1 b2.2 y2 z1 z4
 ·exact li 0x8e5063906869062a9d1841518fc7063a3f1c1928fc7064c4463f1c1901030849327474a3f1c18f8fc7064a3f1c1901118fc7064c40821239418e41a1a418aa746124c9d1e1062c9d1a10441528fc7064a3f1c184463f1c1918fc7061028410d0124c9d1d38418eee78aebfc78411538eee78aebfc74128fc7063e3f1c1840918fc7063a3f1c1840ec062a5d1a4c9d2a6 b2.1 b2.2 y1 z2 z3
 ·exact li 0x8e5063906869062a9d1841538fc7063a3f1c1938fc7064444a3f1c18f1030848478e5063906869062a9d1841528fc706423f1c1938fc7063c44a3f1c1911020848474e3f1c1938fc7061128fc7064a3f1c1840a10434448418b27468411211ec062a5d1854528fc706423f1c1840938fc7063a3f1c1840a12a6 y4 z5 z7
 ·exact li 0x128fc7063a3f1c1928fc706404463f1c1931030848e5063906869062a9d184932747463f1c18f8fc7064a3f1c1931118fc7064040821239418e41a1a418aa746124c9d1e1062c9d1a10441528fc7064a3f1c184463f1c1918fc7061028410d0124c9d1d38418eee78aebfc78411538eee78aebfc74118fc7063e3f1c1840928fc7063a3f1c1840ac062a5d1a4c9d2a6 b1.1 b1.2 y3 z6 z8
theorem near_nrm{c s n o1 o2 v1 v2:Rat}(hc:Bd c (101/100))(hs:Bd s (101/100))(hn:c*c+s*s=n)(hn1:Bd (n-1) (1/1000000000000000000))(hun:o1*o1+o2*o2=1)(b1:Bd o1 1)(b2:Bd o2 1)
  (h1:Bd (v1-(c*o1+s*o2)) (42/10000000000))(h2:Bd (v2-(c*o2-s*o1)) (42/10000000000)):
  Bd (v1*v1+v2*v2-1) (1/25000000)∧Bd (o1-(c*v1-s*v2)) (9/1000000000)∧Bd (o2-(s*v1+c*v2)) (9/1000000000):=by
 obtain⟨n1,n2⟩:=hn1
 obtain⟨y1,y2⟩:=Bd.mul (x:=n-1) ⟨n1,n2⟩ b1
 obtain⟨y3,y4⟩:=Bd.mul (x:=n-1) ⟨n1,n2⟩ b2
 obtain⟨z1,z2⟩:=hc.mul h1
 obtain⟨z3,z4⟩:=hs.mul h2
 obtain⟨z5,z6⟩:=hs.mul h1
 obtain⟨z7,z8⟩:=hc.mul h2
 have hsum:(c*o1+s*o2)*(c*o1+s*o2)+(c*o2-s*o1)*(c*o2-s*o1)=n:=li 0x124844511023cf10e3840a10498414921114440902523c444e10248f11138408448e1113c40d238444f103102421325 hn hun
 have e1:o1-(c*v1-s*v2)= -((n-1)*o1)-c*(v1-(c*o1+s*o2))+s*(v2-(c*o2-s*o1)):=li 0x5054d31124840912544d01123c40c346104350415341350448e1020c40d23d33844941030c40a1327 hn
 have e2:o2-(s*v1+c*v2)= -((n-1)*o2)-s*(v1-(c*o1+s*o2))-c*(v2-(c*o2-s*o1)):=li 0x5054d31124840912544901133c40834610435041524133844941020c40d33d350448e1030c40e1327 hn
 have s0:=mul_self_nonneg' (c*o1+s*o2)
 have s1:=mul_self_nonneg' (c*o2-s*o1)
 obtain⟨u1,u2⟩:=sq_small (x:=c*o1+s*o2) (y:=c*o2-s*o1) (r:=105/100) (li 0xb34c1d0524043ce10249010f38408448e10f4040d23843d01031024494610438418b2746b34c1d1d28e50639068bb8679b3f37d2ffff1e39418e41854a2ee19e6cfcdf4bfffc749010f3840924043ce1021123843d010348e10f4040c40a3a418e41a3a418e4184b34c1d2a5 hc.1 hc.2 n2 hsum) (li 0x18e906390684a)
 obtain⟨k1,k2⟩:=u1.mul h1
 obtain⟨k3,k4⟩:=u2.mul h2
 obtain⟨k5,k6⟩:=h1.mul h1
 obtain⟨k7,k8⟩:=h2.mul h2
 have e3:v1*v1+v2*v2-1=(n-1)+2*((c*o1+s*o2)*(v1-(c*o1+s*o2)))+2*((c*o2-s*o1)*(v2-(c*o2-s*o1)))+(v1-(c*o1+s*o2))*(v1-(c*o1+s*o2))+(v2-(c*o2-s*o1))*(v2-(c*o2-s*o1)):=by rw[←hsum];exact li 0x134c44921028410d14043ce10245010f38408444e10f4040d13843d01031028410e20514043ce1024d14043ce1020c410288144e10f4040d244e10f4040c310409345010f3840834d14043ce1020c409244e10f4040c34913843d01030c40a1326
 rw[e1,e2,e3]
 clear e1 e2 e3 hsum s0 s1
 refine⟨⟨li 0x21a818aa74686a062a9d18414e4d01114840c33934044521030c4abec5d1e1a818aa74686a062a9d18414f4d21114040833d34844501020c4abec5d1e3a418e41a1a818aa7461054d01114840ce4d01114840c31229b27478e906390686a062a9d1841534844501023d34844501020c48a6c9d1d34844501028e906390696dc65aa1c671e3a418e41854d21114040a5b7196a8719c78418b27461548410eafb174784187299d1855210438814d211140408f4d21114040831040a20534044521033934044521030c41023d34844501020cf4d21114040831023934044521030ce4d01114840c3102abec5d2a7 n1 u1.1 u1.2 k1 k3 k5 k7,li 0xe4d01114840c33934044521030c486a062a9d1a1a818aa74612afb17473d34844501020cf4d2111404083121a818aa74686a062a9d184abec5d1d34044521033934044521030c48e906390686a062a9d1848a6c9d1d34844501023d34844501020c48e906390686a062a9d1848a6c9d1d34844501028e906390696dc65aa1c671e3a418e41854d21114040a5b7196a8719c75210438418b2746abec5d1d48410e20534844501023d34844501020c41028814d01114840ce4d01114840c310408f4d21114040833d34844501020c408e4d01114840c33934044521030c40a1061ca6746abec5d2a7 n2 u1.1 u1.2 k2 k4 k6 k8⟩,⟨li 0x8e506390686a062a9d1841503943c44121030c4b34c1d1d445448440f1020c48e506390686a062a9d184b34c1d1d38410d2121062c9d1a1044b34c1d1d48e5063906bec8e29ff1e39418e418552fb238a7fc7a418a97461538410d21055115121103c408310340e50f1104840c3102b34c1d2a7 hc.1 hc.2 y2 z2 z3,li 0x4931103c40a3a418e41afb238a7fc78e90639061524c440f102bec8e29ff1d03923c44131030c48e506390686a062a9d18486ac5d1e39418e41a1a818aa7461054914931103c4083121ab17478418b27468411055210434c486ac5d1d48410d31054914931103c408310340e48f1104c40c3102a418a974686ac5d2a7 y1 z1 z4 u1.1 u1.2⟩,⟨li 0x1439448444f1030c48e506390686a062a9d184b34c1d1d14143c44521020c48e506390686a062a9d184b34c1d1d38410d2121062c9d1a1044b34c1d1d48e5063906bec8e29ff1e39418e418552fb238a7fc7a418a97461538410d210545050f11148408310350e5121113c40c3103b34c1d2a7 hc.1 hc.2 y4 z6 z8,li 0x239418e41a1a818aa74610550e5121113c40c312cd307478e506390686a062a9d1841514143c44521020c4b34c1d1e1062c9d1a10441538410d212cd307475239418e41afb238a7fc78e5063906154bec8e29ff1d38410d210545050f11148408310350e5121113c40c3103a418a9746b34c1d2a7 hc.1 hc.2 y3 z5 z7⟩⟩
theorem InAB.begin(h:InAB C S A B T X Y O0 O1 K0 K1 rx ry centre p q o1 o2 w1 w2 τ k t σ large sw):
  Bd (nrm (0-K0,0-K1)-1) (1/25000000)∧PnAt C S (rx,ry) centre p (0-K0,0-K1):=by
 obtain⟨⟨a0,a1⟩,⟨a2,a3⟩,-,-⟩:=h.lie
 obtain⟨b1,b2,-,-⟩:=h.arc.bd
 obtain⟨r1,⟨r2,r3⟩,⟨r4,r5⟩⟩:=near_nrm (v1:=((0-K0:Int):Rat)/1152921504606846976) (v2:=((0-K1:Int):Rat)/1152921504606846976) h.geo.cc h.geo.ss rfl h.nn h.arc.un b1 b2 ⟨by push_cast;exact li 0x108418478411508474a3f1c1918fc7064043e3f1c18e1020a1a418aa74692a74786a062a9d1850520e3f1c1918fc7064043e3f1c18e1020e4a9d2a5 a1 b1.1 b1.2,by push_cast;exact li 0x10841847841150847869062a9d1854a3f1c1918fc7064043e3f1c18e1020a4a9d1c14838fc706463f1c19010f8fc70638408386a062a9d1a4a9d2a5 a0 b1.1 b1.2⟩ ⟨by push_cast;exact li 0xe84184784114e8474a3f1c1918fc7064043e3f1c18e1030a1a418aa74692a74786a062a9d1850520e3f1c1918fc7064043e3f1c18e1030e4a9d2a5 a3 b1.1 b1.2,by push_cast;exact li 0xe84184784114e847869062a9d1854a3f1c1918fc7064043e3f1c18e1030a4a9d1c14838fc706463f1c19010f8fc7063840c386a062a9d1a4a9d2a5 a2 b1.1 b1.2⟩
 refine⟨r1,?_⟩
 obtain⟨t1,t1a,t1b,f1⟩:=back_ex h.p1 h.c1 h.geo.rx0 h.geo.rx1
 obtain⟨t2,t2a,t2b,f2⟩:=back_ex h.p2 h.c2 h.geo.ry0 h.geo.ry1
 have vx:=pos_val h.geo.rx0 h.geo.rx1
 have vy:=pos_val h.geo.ry0 h.geo.ry1
 rw[h.e1] at f1
 rw[h.e2] at f2
 have g1:((backC p.1 centre.1 rx:Int):Rat)/1000000000=o1-t1/1000000000:=by rw[f1];generalize val rx=r at *;have i1:r≠0:=fun o_=>li 0x8413812413a1221 vx o_;grind
 have g2:((backC p.2 centre.2 ry:Int):Rat)/1000000000=o2-t2/1000000000:=by rw[f2];generalize val ry=r at *;have i2:r≠0:=fun o_=>li 0x8413812413a1221 vy o_;grind
 constructor
 ·show Bd (((backC p.1 centre.1 rx:Int):Rat)/1000000000-_) _
  rw[g1];constructor;exact li 0x3a1062229062a5d1854d28fc706463f1c184423f1c18f8fc7061030e4a5d1d4841be51e104552f947bef062a5d1854ce8a97460d28fc706463f1c184423f1c18f8fc7061030e4a5d2a7 b2.1 b2.2 r2 t1b;exact li 0x13a11d34a3f1c1918fc7061108fc7063e3f1c1840c3a418a97468a9747521067cc78411549f31d33a2a5d1834a3f1c1918fc7061108fc7063e3f1c1840c3bef062a5d1a2a5d2a7 b2.1 b2.2 r3 t1a
 ·show Bd (((backC p.2 centre.2 ry:Int):Rat)/1000000000-_) _
  rw[g2];constructor;exact li 0x3a1062229062a5d1854d28fc706463f1c184423f1c18f8fc7061020e4a5d1d4841be51e104552f947bef062a5d1854ce8a97460d28fc706463f1c184423f1c18f8fc7061020e4a5d2a7 b1.1 b1.2 r4 t2b;exact li 0x13a11d34a3f1c1918fc7061108fc7063e3f1c184083a418a97468a9747521067cc78411549f31d33a2a5d1834a3f1c1918fc7061108fc7063e3f1c184083bef062a5d1a2a5d2a7 b1.1 b1.2 r5 t2a
theorem InAB.ending(h:InAB C S A B T X Y O0 O1 K0 K1 rx ry centre p q o1 o2 w1 w2 τ k t σ large sw):
  Bd (nrm (O0-K0,O1-K1)-1) (1/25000000)∧PnAt C S (rx,ry) centre q (O0-K0,O1-K1):=by
 obtain⟨-,-,a0,a1⟩:=h.lie
 obtain⟨-,-,b1,b2⟩:=h.arc.bd
 obtain⟨r1,⟨r2,r3⟩,⟨r4,r5⟩⟩:=near_nrm (v1:=((O0-K0:Int):Rat)/1152921504606846976) (v2:=((O1-K1:Int):Rat)/1152921504606846976) h.geo.cc h.geo.ss rfl h.nn h.arc.un' b1 b2 a0 a1
 refine⟨r1,?_⟩
 obtain⟨t1,t1a,t1b,f1⟩:=back_ex h.q1 h.c1 h.geo.rx0 h.geo.rx1
 obtain⟨t2,t2a,t2b,f2⟩:=back_ex h.q2 h.c2 h.geo.ry0 h.geo.ry1
 have vx:=pos_val h.geo.rx0 h.geo.rx1
 have vy:=pos_val h.geo.ry0 h.geo.ry1
 rw[h.f1] at f1
 rw[h.f2] at f2
 have g1:((backC q.1 centre.1 rx:Int):Rat)/1000000000=w1-t1/1000000000:=by rw[f1];generalize val rx=r at *;have i1:r≠0:=fun o_=>li 0x8413812413a1221 vx o_;grind
 have g2:((backC q.2 centre.2 ry:Int):Rat)/1000000000=w2-t2/1000000000:=by rw[f2];generalize val ry=r at *;have i2:r≠0:=fun o_=>li 0x8413812413a1221 vy o_;grind
 constructor
 ·show Bd (((backC q.1 centre.1 rx:Int):Rat)/1000000000-_) _
  rw[g1];constructor;exact li 0x3a1062229062a5d1854d28fc706463f1c184423f1c18f8fc7061030e4a5d1d4841be51e104552f947bef062a5d1854ce8a97460d28fc706463f1c184423f1c18f8fc7061030e4a5d2a7 b2.1 b2.2 r2 t1b;exact li 0x13a11d34a3f1c1918fc7061108fc7063e3f1c1840c3a418a97468a9747521067cc78411549f31d33a2a5d1834a3f1c1918fc7061108fc7063e3f1c1840c3bef062a5d1a2a5d2a7 b2.1 b2.2 r3 t1a
 ·show Bd (((backC q.2 centre.2 ry:Int):Rat)/1000000000-_) _
  rw[g2];constructor;exact li 0x3a1062229062a5d1854d28fc706463f1c184423f1c18f8fc7061020e4a5d1d4841be51e104552f947bef062a5d1854ce8a97460d28fc706463f1c184423f1c18f8fc7061020e4a5d2a7 b1.1 b1.2 r4 t2b;exact li 0x13a11d34a3f1c1918fc7061108fc7063e3f1c184083a418a97468a9747521067cc78411549f31d33a2a5d1834a3f1c1918fc7061108fc7063e3f1c184083bef062a5d1a2a5d2a7 b1.1 b1.2 r5 t2a
theorem InAB.checks(h:InAB C S A B T X Y O0 O1 K0 K1 rx ry centre p q o1 o2 w1 w2 τ k t σ large sw):
  ∀cv∈curvesGo ⟨A,B,C,S⟩ (K0,K1) p q T sw p (vectorsF (0-K0,0-K1) (O0-K0,O1-K1) sw),CvOk (rx,ry) centre (if sw then 1 else -1) cv:=
 chain_ok h.set h.ending.1 h.ending.2 3 _ _ h.begin.1 (ends3 _ _ _) h.begin.2
end
noncomputable def manyF(b e:Pr)(large:Bool):List Int:=
 if absI (crossI b e)≤8000000000∧dotI b e<0 then[2,3]
 else if absI (dotI b e)≤8000000000 then(if large then[3,4] else[1,2])
 else[if large then(if dotI b e<0 then 3 else 4) else if dotI b e<0 then 2 else 1]
theorem vec_len(v w:Pr)(sw:Bool):(((vectorsF v w sw).length:Nat):Int)-1 =
  if 0≤crs v w sw∧0≤dotI v w then 1 else if 0≤-dotI v w∧0≤crs v w sw then 2 else if 0≤-crs v w sw∧0≤-dotI v w then 3 else 4:=by
 have f:∀u:Pr,withinF u w sw=(decide (0≤crs u w sw)&&decide (0≤dotI u w)):=fun u=>rfl
 simp only[vectorsF,vecGo,f,crs_quarter,dot_quarter',Bool.and_eq_true,decide_eq_true_eq]
 split
 ·simp
 ·split
  ·simp
  ·split <;> simp
theorem count_plain{a b X D:Int}{l:Int}{large:Bool}{L:List Int}(hl:l=if 0≤a∧0≤b then 1 else if 0≤-b∧0≤a then 2 else if 0≤-a∧0≤-b then 3 else 4)
  (hL:L=if absI X≤8000000000∧D<0 then[2,3] else if absI D≤8000000000 then(if large then[3,4] else[1,2]) else[if large then(if D<0 then 3 else 4) else if D<0 then 2 else 1])
  (hX:absI X≤8000000000∧D<0∧b<0∨8000000000<absI X∧(if large then a<0 else 0<a)∧(absI D≤8000000000∨8000000000<D∧0<b∨D < -8000000000∧b<0)):l∈L:=by
 subst hl;subst hL
 have hab:D < -8000000000∨8000000000<D→¬absI D≤8000000000:=by unfold absI;split <;> omega
 rcases hX with⟨h1,h2,h3⟩ |⟨h1,h2,h3⟩
 ·rw[if_pos ⟨h1,h2⟩]
  (repeat' split) <;> first |(simp;done) |(exfalso;omega)
 ·rw[if_neg (show ¬(absI X≤8000000000∧D<0) from fun o_=>lI 0xec29741847c297413a1221 h1 o_.1)]
  rcases h3 with h3 |⟨h3,h4⟩ |⟨h3,h4⟩
  ·rw[if_pos h3]
   cases large <;> simp only[Bool.false_eq_true,if_false,if_true] at h2 ⊢ <;> (repeat' split) <;> first |(simp;done) |(exfalso;omega)
  ·rw[if_neg (hab (.inr h3))]
   cases large <;> simp only[Bool.false_eq_true,if_false,if_true] at h2 ⊢ <;> (repeat' split) <;> first |(simp;done) |(exfalso;omega)
  ·rw[if_neg (hab (.inl h3))]
   cases large <;> simp only[Bool.false_eq_true,if_false,if_true] at h2 ⊢ <;> (repeat' split) <;> first |(simp;done) |(exfalso;omega)
theorem dot_near{a1 a2 b1 b2 x1 x2 y1 y2:Rat}(ha1:Bd a1 (105/100))(ha2:Bd a2 (105/100))(hb1:Bd b1 (105/100))(hb2:Bd b2 (105/100))(e1:Bd (x1-a1) (42/10000000000))(e2:Bd (x2-a2) (42/10000000000))(f1:Bd (y1-b1) (42/10000000000))(f2:Bd (y2-b2) (42/10000000000)):
  Bd (x1*y1+x2*y2-(a1*b1+a2*b2)) (2/100000000)∧Bd (x1*y2-x2*y1-(a1*b2-a2*b1)) (2/100000000):=by
 obtain⟨p1,p2⟩:=ha1.mul f1
 obtain⟨p3,p4⟩:=ha2.mul f2
 obtain⟨p5,p6⟩:=hb1.mul e1
 obtain⟨p7,p8⟩:=hb2.mul e2
 obtain⟨p9,p10⟩:=e1.mul f1
 obtain⟨p11,p12⟩:=e2.mul f2
 obtain⟨r1,r2⟩:=ha1.mul f2
 obtain⟨r3,r4⟩:=ha2.mul f1
 obtain⟨r5,r6⟩:=hb2.mul e1
 obtain⟨r7,r8⟩:=hb1.mul e2
 obtain⟨r9,r10⟩:=e1.mul f2
 obtain⟨r11,r12⟩:=e2.mul f1
 constructor <;> constructor;exact li 0x86a062a9d1a1a818aa7461053920d1403125922c1d1e1a818aa74686a062a9d18414f5435130c49648b07478e906390686a062a9d1841503920c49648b07478e906390686a062a9d1841533d50c49648b07478e906390686a062a9d1841524500c49648b07478e906390686a062a9d1841555130c49648b0747563a418e41bbbe5b31aa71e3a418e418557bbe5b31aa71e2062a1d1853d410e4440954c44901020e5922c1d2a8 ha1.1 ha1.2 p1 p3 p5 p7 p9 p11;exact li 0xe4834500c486a062a9d1a1a818aa746125922c1d1cf5435130c486a062a9d1a1a818aa746125922c1d1d03920c48e906390686a062a9d1849648b07474cf543123a418e41a1a818aa746125922c1d1d24500c48e906390686a062a9d1849648b07475544c3123a418e41a1a818aa746125922c1d1d58e9063906eef96cc6a9c78e9063906155eef96cc6a9c73d410e4440954c44901020e2062a1d1a5922c1d2a8 ha1.1 ha1.2 p2 p4 p6 p8 p10 p12;exact li 0xe5434500c486a062a9d1a1a818aa746125922c1d1e1a818aa74686a062a9d18414f5034d20c49648b074740e543123a418e41a1a818aa746125922c1d1e3a418e41a1a818aa74610548f503125922c1d1d54500c48e906390686a062a9d1849648b07478e906390686a062a9d1841544d20c49648b0747563a418e41bbbe5b31aa71e3a418e418557bbe5b31aa71e2062a1d1853d310e4440d44845501030e5922c1d2a8 ha2.1 ha2.2 r1 r4 r5 r8 r9 r12;exact li 0x86a062a9d1a1a818aa7461053950d1403125922c1d1cf5034d20c486a062a9d1a1a818aa746125922c1d1e3a418e41a1a818aa74610540e543125922c1d1d23d40c48e906390686a062a9d1849648b07478e906390686a062a9d1841554500c49648b0747513483123a418e41a1a818aa746125922c1d1d58e9063906eef96cc6a9c78e9063906155eef96cc6a9c73d310e4440d44845501030e2062a1d1a5922c1d2a8 ha2.1 ha2.2 r2 r3 r6 r7 r10 r11
theorem dot_near'{a1 a2 b1 b2 x1 x2 y1 y2:Rat}(ha1:Bd a1 1)(ha2:Bd a2 1)(hb1:Bd b1 1)(hb2:Bd b2 1)(e1:Bd (x1-a1) (1/1000000000))(e2:Bd (x2-a2) (1/1000000000))(f1:Bd (y1-b1) (1/1000000000))(f2:Bd (y2-b2) (1/1000000000)):
  Bd (x1*y1+x2*y2-(a1*b1+a2*b2)) (1/200000000)∧Bd (x1*y2-x2*y1-(a1*b2-a2*b1)) (1/200000000):=by
 obtain⟨p1,p2⟩:=ha1.mul f1
 obtain⟨p3,p4⟩:=ha2.mul f2
 obtain⟨p5,p6⟩:=hb1.mul e1
 obtain⟨p7,p8⟩:=hb2.mul e2
 obtain⟨p9,p10⟩:=e1.mul f1
 obtain⟨p11,p12⟩:=e2.mul f2
 obtain⟨r1,r2⟩:=ha1.mul f2
 obtain⟨r3,r4⟩:=ha2.mul f1
 obtain⟨r5,r6⟩:=hb2.mul e1
 obtain⟨r7,r8⟩:=hb1.mul e2
 obtain⟨r9,r10⟩:=e1.mul f2
 obtain⟨r11,r12⟩:=e2.mul f1
 constructor <;> constructor;exact li 0x8418a97468418a97461053920d1403122c9d1e1062a5d1a1062a5d18414f5435130c48b27478418418a974610540e483122c9d1e1061062a5d1841533d50c48b27478418418a9746105491403122c9d1e1061062a5d1841555130c48b274756106ef3ae67fc7841155bbceb99ff1e1064a1d1853d410e4440954c44901020e2c9d2a8 ha1.1 ha1.2 p1 p3 p5 p7 p9 p11;exact li 0xe4834500c48418a97468418a9746122c9d1cf5435130c48418a97468418a9746122c9d1d03920c48418418a9746122c9d1d33d50c48418418a9746122c9d1d24500c48418418a9746122c9d1d55130c48418418a9746122c9d1d5841bbceb99ff1e104556ef3ae67fc73d410e4440954c44901020e1064a1d1a2c9d2a8 ha1.1 ha1.2 p2 p4 p6 p8 p10 p12;exact li 0xe5434500c48418a97468418a9746122c9d1e1062a5d1a1062a5d18414f5034d20c48b274740e543121061062a5d1848b27478418418a974610548f503122c9d1d54500c48418418a9746122c9d1e1061062a5d1841544d20c48b274756106ef3ae67fc7841155bbceb99ff1e1064a1d1853d310e4440d44845501030e2c9d2a8 ha2.1 ha2.2 r1 r4 r5 r8 r9 r12;exact li 0x8418a97468418a97461053950d1403122c9d1cf5034d20c48418a97468418a9746122c9d1e1061062a5d1841503950c48b274748f503121061062a5d1848b27478418418a9746105551403122c9d1d44d20c48418418a9746122c9d1d5841bbceb99ff1e104556ef3ae67fc73d310e4440d44845501030e1064a1d1a2c9d2a8 ha2.1 ha2.2 r2 r3 r6 r7 r10 r11
theorem sgn_of{D:Int}{x:Rat}(h:Bd ((D:Rat)/1000000000000000000-x) (1/200000000)):(x=0→absI D≤8000000000)∧(19/10000000≤x→8000000000<D)∧(x≤-(19/10000000)→D < -8000000000):=by
 obtain⟨a,b⟩:=h
 have eN:((8000000000:Int):Rat)=8000000000:=rfl
 have eM:((-8000000000:Int):Rat)= -8000000000:=rfl
 refine⟨fun e=>?_,fun e=>?_,fun e=>?_⟩
 ·subst e
  refine absI_le (le_cast ?_) (le_cast ?_)
  ·rw[eM];exact li 0x21064a1d1853a2c9d1810e2c9d1f0a5d0453a12a1 a
  ·rw[eN];exact li 0xe8b27460438419287468b27473b0a5d0612a1 b
 ·apply Rat.intCast_lt_intCast.mp;rw[eN];exact li 0x330629dd18e8b274784192874614f8b27463838b2747c297413e12e2 a e
 ·apply Rat.intCast_lt_intCast.mp;rw[eM];exact li 0x3b30629dd1858b27473e2c9d18e0e1064a1d1a2c9d1cfc297411612e2 b e
theorem sgn_of'{D:Int}{x:Rat}(h:Bd ((D:Rat)/(1152921504606846976*1152921504606846976)-x) (3/100000000)):(19/10000000≤x→0<D)∧(x≤-(19/10000000)→D<0):=by
 obtain⟨a,b⟩:=h
 refine⟨fun e=>?_,fun e=>?_⟩
 ·apply Rat.intCast_lt_intCast.mp;rw[Rat.intCast_zero];exact li 0x210508fc7018fc701104389cc18a77463e882082082082082087f7078c18a87461503c3a20820820820820821fdc1c13a12e3 a e (Rat.div_mul_cancel (Rat.ne_of_gt (li 0x63f1c063f1c04484b)))
 ·apply Rat.intCast_lt_intCast.mp;rw[Rat.intCast_zero];exact li 0x8411508fc7018fc7011043893f30629dd185a20820820820820821fdc1d03c38c18a8746a20820820820820821fdc1ce0612e3 b e (Rat.div_mul_cancel (Rat.ne_of_gt (li 0x63f1c063f1c04484b)))
theorem Arc.big{o1 o2 w1 w2 τ k t σ:Rat}(h:Arc o1 o2 w1 w2 τ k t σ):(k= -1∧t=0)∨19/10000000≤t:=by
 have e1:=h.hk
 have e2:=h.ht
 have hp:=mul_self_nonneg' τ
 rcases h.τ0 with h |⟨h1,h2⟩
 ·subst h;left;constructor;exact li 0x8413a104104408404112104324e841161321 e1;exact li 0x8413a104104408488104424e061321 e2
 ·right
  rcases rt (19/10000000) t with k |k
  ·exact k
  ·have i1:=Rat.mul_nonneg (show 0≤19/10000000-t from li 0xecc18a77468470730629dd18e0e12a1 k) (show 0≤1+τ*τ from li 0x4e38484706104e3840a12a1 hp)
   have i2:=Rat.mul_nonneg (show 0≤1000000-τ from li 0xe8a674184706299d04e0e12a1 h2) (show 0≤τ-1/9 from li 0x2106918e84704e841a460e12a1 h1)
   exact li 0x6299d04e0ce841a460c48649dd1c1cc18a77463c384138e10213196a9229dd1c138e128cb586d1f196a9229dd0453e104e3840848813842730629dd18f2a2 e2 hp i1 i2
section
variable {C S A B T X Y O0 O1 K0 K1:Int} {rx ry:Pr} {centre p q:Pt} {o1 o2 w1 w2 τ k t σ:Rat} {large sw:Bool}
theorem back_near{x b r:Pr}{o:Rat}(hx:0<x.2)(hb:0<b.2)(h0:0<r.1)(h1:0<r.2)(e:val x=val b+o*val r):Bd (((backC x b r:Int):Rat)/1000000000-o) (1/1000000000):=by
 obtain⟨t1,t1a,t1b,f1⟩:=back_ex hx hb h0 h1
 have vx:=pos_val h0 h1
 rw[e] at f1
 have g1:((backC x b r:Int):Rat)/1000000000=o-t1/1000000000:=by
  rw[f1]
  generalize val r=r at *
  have i1:r≠0:=fun o_=>li 0x8413812413a1221 vx o_
  grind
 rw[g1];constructor;exact li 0x3e1061221062a5d18538f8a97460ce0e2a5d2a2 t1b;exact li 0x4f84738f8a97460ce0e1062a5d1a2a5d2a2 t1a
theorem InAB.count(h:InAB C S A B T X Y O0 O1 K0 K1 rx ry centre p q o1 o2 w1 w2 τ k t σ large sw)(hk:k=0∨1/10≤k∨k≤-(1/10)):
  (((vectorsF (0-K0,0-K1) (O0-K0,O1-K1) sw).length:Nat):Int)-1∈manyF (backL p (rx,ry) centre) (backL q (rx,ry) centre) large:=by
 refine count_plain (vec_len _ _ _) rfl ?_
 obtain⟨⟨a0,a1⟩,⟨a2,a3⟩,l2,l3⟩:=h.lie
 obtain⟨b1,b2,b3,b4⟩:=h.arc.bd
 have hun:=h.arc.un
 have hun':=h.arc.un'
 have g:=h.geo
 have hσ:=h.arc.sg
 have bσ:=one_bd hσ
 have hkt:=h.arc.kt
 obtain⟨Db,Xb⟩:=dot_near' b1 b2 b3 b4 (back_near h.p1 h.c1 g.rx0 g.rx1 h.e1) (back_near h.p2 h.c2 g.ry0 g.ry1 h.e2) (back_near h.q1 h.c1 g.rx0 g.rx1 h.f1) (back_near h.q2 h.c2 g.ry0 g.ry1 h.f2)
 have ek:o1*w1+o2*w2=k:=by rw[h.arc.x,h.arc.y];exact li 0x4914444101028412514521103ce1040c44113ce1044121021024a1325 hun
 have et:o1*w2-o2*w1=σ*t:=by rw[h.arc.x,h.arc.y];exact li 0x4911104043cf10284125041244410f3840843d03843d2444103103491121325 hun
 rw[ek] at Db
 rw[et] at Xb
 have D1:Bd (((dotI (backL p (rx,ry) centre) (backL q (rx,ry) centre):Int):Rat)/1000000000000000000-k) (1/200000000):=by
  refine⟨?_,?_⟩
  ·have i1:=Db.lo;unfold dotI backL;push_cast;exact li 0x21064a1d1854a2a5d1918a97461108a97463e2a5d18408e0e11e1064a1d1854911103c40a2c9d18e0e12a5 Db.1
  ·have i2:=Db.hi;unfold dotI backL;push_cast;exact li 0x128a9746462a5d184422a5d18f8a97461023838419287468474911103c40a2c9d18e0e1064a1d1a12a5 Db.2
 have X1:Bd (((crossI (backL p (rx,ry) centre) (backL q (rx,ry) centre):Int):Rat)/1000000000000000000-σ*t) (1/200000000):=by
  refine⟨?_,?_⟩
  ·have i3:=Xb.lo;unfold crossI backL;push_cast;exact li 0x21064a1d1854e2a5d1928a97461118a9746422a5d1840cf3840e11e1064a1d1854d21114040e2c9d18f3840e12a6 Xb.1
  ·have i4:=Xb.hi;unfold crossI backL;push_cast;exact li 0x138a97464a2a5d184462a5d1908a97461033ce1038419287468474d21114040e2c9d18f3840e1064a1d1a12a6 Xb.2
 generalize dotI (backL p (rx,ry) centre) (backL q (rx,ry) centre)=D at *
 generalize crossI (backL p (rx,ry) centre) (backL q (rx,ry) centre)=Xc at *
 clear Db Xb
 have nn:=h.nn
 have ho1:((C:Rat)/1152921504606846976*o1+(S:Rat)/1152921504606846976*o2)*((C:Rat)/1152921504606846976*o1+(S:Rat)/1152921504606846976*o2)+((C:Rat)/1152921504606846976*o2-(S:Rat)/1152921504606846976*o1)*((C:Rat)/1152921504606846976*o2-(S:Rat)/1152921504606846976*o1)=(C:Rat)/1152921504606846976*(C/1152921504606846976)+(S:Rat)/1152921504606846976*(S/1152921504606846976):=li 0x114444101023cf10e3840a1049463f1c18f1108fc7063840918fc7063c4423f1c18e1021118fc706384423f1c18f103463f1c18e1108fc7063c40c40918fc706463f1c184423f1c1908fc706102a20820820820820821fdc324 hun
 have hw1:((C:Rat)/1152921504606846976*w1+(S:Rat)/1152921504606846976*w2)*((C:Rat)/1152921504606846976*w1+(S:Rat)/1152921504606846976*w2)+((C:Rat)/1152921504606846976*w2-(S:Rat)/1152921504606846976*w1)*((C:Rat)/1152921504606846976*w2-(S:Rat)/1152921504606846976*w1)=(C:Rat)/1152921504606846976*(C/1152921504606846976)+(S:Rat)/1152921504606846976*(S/1152921504606846976):=li 0x114444101023cf10e3840a1049463f1c18f1108fc7063840918fc7063c4423f1c18e1021118fc706384423f1c18f103463f1c18e1108fc7063c40c40918fc706463f1c184423f1c1908fc706102a20820820820820821fdc324 hun'
 obtain⟨m1,m2⟩:=sq_small (r:=105/100) (show _≤_ by rw[ho1];have i5:=nn.hi;exact li 0x3e3f1c18f8fc70610e8fc7063a3f1c1840a10438418b2746932747421062ee19e6cfcdf4bfffc78411508bb8679b3f37d2ffff1cf8fc7063e3f1c1843a3f1c18e8fc7061028e90639068e9063906124c9d2a3 b1.1 b1.2 nn.2) (li 0x18e906390684a)
 obtain⟨m3,m4⟩:=sq_small (r:=105/100) (show _≤_ by rw[hw1];have i6:=nn.hi;exact li 0x3e3f1c18f8fc70610e8fc7063a3f1c1840a10438418b2746932747421062ee19e6cfcdf4bfffc78411508bb8679b3f37d2ffff1cf8fc7063e3f1c1843a3f1c18e8fc7061028e90639068e9063906124c9d2a3 b1.1 b1.2 nn.2) (li 0x18e906390684a)
 obtain⟨Dv,Xv⟩:=dot_near m1 m2 m3 m4 (x1:=((0-K0:Int):Rat)/1152921504606846976) (x2:=((0-K1:Int):Rat)/1152921504606846976) ⟨by push_cast;exact li 0x108418478411508474a3f1c1918fc7064043e3f1c18e1020a1a418aa74692a74786a062a9d1850520e3f1c1918fc7064043e3f1c18e1020e4a9d2a5 a1 b1.1 b1.2,by push_cast;exact li 0x10841847841150847869062a9d1854a3f1c1918fc7064043e3f1c18e1020a4a9d1c14838fc706463f1c19010f8fc70638408386a062a9d1a4a9d2a5 a0 b1.1 b1.2⟩ ⟨by push_cast;exact li 0xe84184784114e8474a3f1c1918fc7064043e3f1c18e1030a1a418aa74692a74786a062a9d1850520e3f1c1918fc7064043e3f1c18e1030e4a9d2a5 a3 b1.1 b1.2,by push_cast;exact li 0xe84184784114e847869062a9d1854a3f1c1918fc7064043e3f1c18e1030a4a9d1c14838fc706463f1c19010f8fc7063840c386a062a9d1a4a9d2a5 a2 b1.1 b1.2⟩ l2 l3
 have en:((C:Rat)/1152921504606846976*o1+(S:Rat)/1152921504606846976*o2)*((C:Rat)/1152921504606846976*w1+(S:Rat)/1152921504606846976*w2)+((C:Rat)/1152921504606846976*o2-(S:Rat)/1152921504606846976*o1)*((C:Rat)/1152921504606846976*w2-(S:Rat)/1152921504606846976*w1)=((C:Rat)/1152921504606846976*(C/1152921504606846976)+(S:Rat)/1152921504606846976*(S/1152921504606846976))*k:=by rw[←ek];exact li 0x138fc706484463f1c1901024e3f1c18f1118fc7063840844e3f1c1901118fc7064840d38fc706384463f1c18f1031024e3f1c1938fc7061118fc706463f1c1840923c440e102121326
 have ex:((C:Rat)/1152921504606846976*o1+(S:Rat)/1152921504606846976*o2)*((C:Rat)/1152921504606846976*w2-(S:Rat)/1152921504606846976*w1)-((C:Rat)/1152921504606846976*o2-(S:Rat)/1152921504606846976*o1)*((C:Rat)/1152921504606846976*w1+(S:Rat)/1152921504606846976*w2)=((C:Rat)/1152921504606846976*(C/1152921504606846976)+(S:Rat)/1152921504606846976*(S/1152921504606846976))*(σ*t):=by rw[←et];exact li 0x138fc706484463f1c1901024e3f1c18f1118fc7063840c44e3f1c1901118fc7064840d38fc706384463f1c18f1021034e3f1c1938fc7061118fc706463f1c1840923c440e103121326
 rw[en] at Dv
 rw[ex] at Xv
 clear en ex ho1 hw1 m1 m2 m3 m4 l2 l3 a0 a1 a2 a3
 have sk:=mul_self_nonneg' k
 have st:=mul_self_nonneg' t
 have bk:Bd k 1:=sq_bd (li 0xe84184784114e8470610622a1 b1.1 b1.2) (li 0x138e1211e104f3c438e10284124f3c48418411212a2 hkt st)
 have bt:Bd t 1:=sq_bd (li 0xe84184784114e8470610622a1 b1.1 b1.2) (li 0x13cf1211e104f3c438e10284124e3848418411212a2 hkt sk)
 obtain⟨y1,y2⟩:=nn.mul bk
 obtain⟨y3,y4⟩:=nn.mul (bσ.mul bt)
 have D2:Bd (((dotI (0-K0,0-K1) (O0-K0,O1-K1):Int):Rat)/(1152921504606846976*1152921504606846976)-k) (3/100000000):=by
  obtain⟨q1,q2⟩:=Dv
  refine⟨?_,?_⟩
  ·unfold dotI;push_cast at q1 q2 ⊢;exact li 0x23be0dbae7abb90453a3f1c063f1c0441014834520c40500cf403102262062a1d1850520e3f1c1914838fc7061014038fc7063d00e3f1c1840958fc706563f1c184523f1c1948fc7061024c40fbe25db6bb3da882082082082082087f7078418b2746841105563f1c1958fc7061148fc706523f1c1840a10434c4ef8976daecf6a20820820820820821fdc1d684193582bf2fff082082082087f70784115693582bf2fff082082082087f7078c18a874614e4c3ef8976daecf6a20820820820820821fdc2a9 b1.1 b1.2 y1 q1 (Rat.div_mul_cancel (Rat.ne_of_gt (li 0x63f1c063f1c04484b)))
  ·unfold dotI;push_cast at q1 q2 ⊢;exact li 0x8413a3f1c063f1c0441014834520c40500cf4031022414838fc7064520e3f1c1840500e3f1c18f4038fc706102563f1c1958fc7061148fc706523f1c1840931038818a8746a20820820820820821fdc1d58fc706563f1c184523f1c1948fc7061028410d3121062c9d1a1044a20820820820820821fdc1ce4c38c18a8746a20820820820820821fdc2a8 y2 q2 (Rat.div_mul_cancel (Rat.ne_of_gt (li 0x63f1c063f1c04484b)))
 have X2:Bd (((crossI (0-K0,0-K1) (O0-K0,O1-K1):Int):Rat)/(1152921504606846976*1152921504606846976)-σ*t) (3/100000000):=by
  obtain⟨q1,q2⟩:=Xv
  refine⟨?_,?_⟩
  ·unfold crossI;push_cast at q1 q2 ⊢;exact li 0x8ef836eb9eaee4114e8fc7018fc7011040520d14031014033d20c40c98818a87461414838fc7064500e3f1c1840500e3f1c18f4838fc7061035a3f1c1968fc7061158fc706563f1c1840944c4103ef8976daecf6a20820820820820821fdc1e1062c9d1a10610441055a3f1c1968fc7061158fc706563f1c1840a1043513104ef8976daecf6a20820820820820821fdc1d784193582bf2fff082082082087f70784115793582bf2fff082082082087f7078c18a874614e513103ef8976daecf6a20820820820820821fdc2aa b1.1 b1.2 y3 q1 (Rat.div_mul_cancel (Rat.ne_of_gt (li 0x63f1c063f1c04484b)))
  ·unfold crossI;push_cast at q1 q2 ⊢;exact li 0x8ef836eb9eaee413a3f1c063f1c0441014834500c40500cf4831032414838fc7064500e3f1c1840500e3f1c18f4838fc7061035a3f1c1968fc7061158fc706563f1c1840944c41038818a8746ef8976daecf6a20820820820820821fdc1d68fc7065a3f1c184563f1c1958fc7061028410d44c4121062c9d1a106104413be25db6bb3da882082082082082087f7075e1064d60afcbffc20820820821fdc1e10455e4d60afcbffc20820820821fdc1ce5131038c18a8746ef8976daecf6a20820820820820821fdc2aa b1.1 b1.2 y4 q2 (Rat.div_mul_cancel (Rat.ne_of_gt (li 0x63f1c063f1c04484b)))
 have ec:crs (0-K0,0-K1) (O0-K0,O1-K1) sw=if sw then crossI (0-K0,0-K1) (O0-K0,O1-K1) else -crossI (0-K0,0-K1) (O0-K0,O1-K1):=by
  unfold crs;split
  ·rfl
  ·unfold crossI;exact lI 0x45010f3840ce3c4411103161324
 rw[ec]
 generalize dotI (0-K0,0-K1) (O0-K0,O1-K1)=b at *
 generalize crossI (0-K0,0-K1) (O0-K0,O1-K1)=a at *
 clear Dv Xv y1 y2 y3 y4 ec
 obtain⟨d1,d2,d3⟩:=sgn_of D1
 obtain⟨x1,x2,x3⟩:=sgn_of X1
 obtain⟨d4,d5⟩:=sgn_of' D2
 obtain⟨x4,x5⟩:=sgn_of' X2
 have hs:=h.sg
 rcases h.arc.big with⟨hk1,ht0⟩ |ht
 ·left
  refine⟨x1 (by rw[ht0];exact li 0xe044061321),?_,d5 (li 0x29c65d3304e8411493a1069c65ced1cecc18a77461649dd2a1 bk.2 hk1)⟩
  have i7:=d3 (li 0x29c65d3304e8411493a1069c65ced1cecc18a77461649dd2a1 bk.2 hk1)
  exact lI 0xec2974116120e0612e1 i7
 ·right
  have hX:8000000000<absI Xc∧if large=true then(if sw=true then a else -a)<0 else 0<(if sw=true then a else -a):=by
   cases large <;> cases sw <;> simp only[Bool.false_eq_true,if_false,if_true,reduceCtorEq] at hs ⊢
   ·have h1:=x3 (by rw[hs];exact li 0xcc18a77463a11e1045384cc18a77461612a1 ht)
    have h2:=x5 (by rw[hs];exact li 0xcc18a77463a11e1045384cc18a77461612a1 ht)
    unfold absI;constructor
    ·split <;> omega
    ·exact lI 0x38184804e1612e1 h2
   ·have h1:=x2 (by rw[hs];exact li 0xcc18a77463a11f30629dd1a104e1212a1 ht)
    have h2:=x4 (by rw[hs];exact li 0xcc18a77463a11f30629dd1a104e1212a1 ht)
    unfold absI;constructor
    ·split <;> omega
    ·exact lI 0x13a12013a12e1 h2
   ·have h1:=x2 (by rw[hs];exact li 0xcc18a77463a11f30629dd1a104e1212a1 ht)
    have h2:=x4 (by rw[hs];exact li 0xcc18a77463a11f30629dd1a104e1212a1 ht)
    unfold absI;constructor
    ·split <;> omega
    ·exact lI 0x4e8483850612e1 h2
   ·have h1:=x3 (by rw[hs];exact li 0xcc18a77463a11e1045384cc18a77461612a1 ht)
    have h2:=x5 (by rw[hs];exact li 0xcc18a77463a11e1045384cc18a77461612a1 ht)
    unfold absI;constructor
    ·split <;> omega
    ·exact lI 0xe06120e0612e1 h2
  refine⟨hX.1,hX.2,?_⟩
  rcases hk with hk |hk |hk
  ·exact .inl (d1 hk)
  ·exact .inr (.inl ⟨d2 (li 0x841a863a49dd1cf841fb0c6d1e10453fec31b47cc18a77463a49dd2a2 b1.1 b1.2 hk),d4 (li 0x841a863a49dd1cf841fb0c6d1e10453fec31b47cc18a77463a49dd2a2 b1.1 b1.2 hk)⟩)
  ·exact .inr (.inr ⟨d3 (li 0xe841a86169c65d331ce841fb0c6d1cecc18a774617699d2a1 bk.2 hk),d5 (li 0xe841a86169c65d331ce841fb0c6d1cecc18a774617699d2a1 bk.2 hk)⟩)
end
theorem toldGo_spec:∀(k:Nat) (r0 r1 t:Int),0<t→r1*TOLD≤r0*t*2^k→r1*TOLD≤r0*toldGo k r0 r1 t∧0<toldGo k r0 r1 t∧toldGo k r0 r1 t≤t*2^k
 | 0,r0,r1,t,ht,h=>by
  simp only[toldGo,Int.pow_zero,Int.mul_one] at h ⊢
  exact⟨h,ht,by exact lI 0xe3a12a1⟩
 |k+1,r0,r1,t,ht,h=>by
  have e:(2:Int)^(k+1)=2*2^k:=by rw[Int.pow_succ,Int.mul_comm]
  have hp:(0:Int)<2^k:=Int.pow_pos (by decide)
  unfold toldGo
  split
  ·have i1:=toldGo_spec k r0 r1 (t*2) (by exact lI 0x4e88804e8811212e1 ht) (by rw[e] at h;exact lI 0x1244440f12204e1048474911103e204410e1212a5 h)
   rw[e]
   exact⟨i1.1,i1.2.1,by have i2:=i1.2.2;exact lI 0x103e204438484740f8813841212a3 i1.2.2⟩
  ·rename_i hc
   refine⟨by exact lI 0x114043ce1211d14043ce1212a4 (Int.not_lt.mp hc),ht,?_⟩
   have h1:t*1≤t*2^(k+1):=Int.mul_le_mul_of_nonneg_left (by rw[e];exact lI 0x13a222106204e1212a1 hp) (by exact lI 0x13a12013a12a1 ht)
   exact lI 0x3e10443ce1211cf3ce1212a2 h1
theorem toldF_spec{rx ry:Pr}(h:(leastF (absI rx.1,rx.2) (absI ry.1,ry.2)).2≤(leastF (absI rx.1,rx.2) (absI ry.1,ry.2)).1*2^64):
  (leastF (absI rx.1,rx.2) (absI ry.1,ry.2)).2*TOLD≤(leastF (absI rx.1,rx.2) (absI ry.1,ry.2)).1*toldF rx ry∧0<toldF rx ry∧toldF rx ry≤TOLD*2^64:=by
 unfold toldF
 generalize (leastF (absI rx.1,rx.2) (absI ry.1,ry.2)).1=r0 at *
 generalize (leastF (absI rx.1,rx.2) (absI ry.1,ry.2)).2=r1 at *
 exact toldGo_spec 64 r0 r1 TOLD (by decide) (by
  have i1:=Int.mul_le_mul_of_nonneg_right h (show 0≤TOLD by decide)
  exact lI 0x114043ce1101211d14043d010e1212a4 i1)
theorem absI_pos{x:Int}(h:0<x):absI x=x:=by unfold absI;split <;> omega
theorem sign_neg{x:Int}:signI x<0↔x<0:=by unfold signI;split;omega;split <;> omega
theorem least_spec{a b:Pr}(ha:0<a.1∧0<a.2)(hb:0<b.1∧0<b.2){T:Int}(hT:0<T)(h:(leastF a b).2*TOLD≤(leastF a b).1*T):a.2*TOLD≤a.1*T∧b.2*TOLD≤b.1*T:=by
 have key:∀{a b:Pr},(0<a.1∧0<a.2)→(0<b.1∧0<b.2)→b.1*a.2≤a.1*b.2→b.2*TOLD≤b.1*T→a.2*TOLD≤a.1*T:=by
  intro a b ha hb h1 h2
  have e1:=Int.mul_le_mul_of_nonneg_left h2 (Int.le_of_lt ha.2)
  have e2:=Int.mul_le_mul_of_nonneg_right h1 (Int.le_of_lt hT)
  have e3:b.2*(a.2*TOLD)≤b.2*(a.1*T):=by
   have q1:a.2*(b.2*TOLD)=b.2*(a.2*TOLD):=lI 0x103ce1043d0384121323
   have q2:a.2*(b.1*T)=b.1*a.2*T:=lI 0x103ce1043d010e121323
   have q3:a.1*b.2*T=b.2*(a.1*T):=lI 0x103c43843d0384121323
   exact lI 0x104c43c439210f1211d34911044d03c41211d24d110448e3c41212a6 e1 e2
  exact Int.le_of_mul_le_mul_left e3 hb.2
 unfold leastF compareF at h
 by_cases hc:signI (b.1*a.2-a.1*b.2)<0
 ·rw[if_pos hc] at h
  rw[sign_neg] at hc
  exact⟨key ha hb (by exact lI 0x114043ce1030612114043ce1212a4 hc) h,h⟩
 ·rw[if_neg hc] at h
  rw[sign_neg] at hc
  exact⟨h,key hb ha (by exact lI 0x145010f3840e11cf3844501212a4 (Int.not_lt.mp hc)) h⟩
theorem least_le64{a b:Pr}(ha:0<a.1∧a.2≤2^64)(hb:0<b.1∧b.2≤2^64):(leastF a b).2≤(leastF a b).1*2^64:=by
 unfold leastF
 split
 ·have i1:=Int.mul_le_mul_of_nonneg_right (show 1≤b.1 from lI 0x4e8488413a12a1 hb.1) (show(0:Int)≤2^64 by decide)
  exact lI 0x8413c438f1211d03e11d038f1212a3 hb.2 i1
 ·have i2:=Int.mul_le_mul_of_nonneg_right (show 1≤a.1 from lI 0x4e8488413a12a1 ha.1) (show(0:Int)≤2^64 by decide)
  exact lI 0x8413c438f1211d03e11d038f1212a3 ha.2 i2
theorem val_told{a:Pr}{T:Int}(h2:0<a.2)(h:a.2*TOLD≤a.1*T):1152921504606846976≤val a*T*1099511627776:=by
 have q:=icast_pos h2
 have h':=cast_le h
 push_cast at h'
 rw[show((TOLD:Int):Rat)=1048576 from rfl] at h'
 unfold val
 generalize (a.1:Rat)=x at *
 generalize (a.2:Rat)=y at *
 generalize (T:Rat)=t at *
 have e:x/y*y=x:=li 0x84140f10e2503c43a1323 (Rat.div_mul_cancel (Rat.ne_of_gt (li 0x13a12013a12e1 q)))
 generalize x/y=z at *
 subst e
 rcases rt 1048576 (z*t) with k |k
 ·exact li 0x8b47013ce123a1c1e3f1c04f3848e87011212a2 k
 ·rcases Classical.em (z*t=1048576) with h |h
  ·exact li 0x8e870114f3848b4701263f1c04f3848e87011212a2 h
  ·have i1:=Rat.mul_pos q (show 0<1048576-z*t by grind)
   exact li 0x508b47013ce1031212108b470110f4043848478fc7013ce123a1c0442a3 h' i1
theorem geo_mk{rx ry:Pr}{C S A B T:Int}(x0:0<rx.1)(x1:0<rx.2)(y0:0<ry.1)(y1:0<ry.2)(hl:(leastF (absI rx.1,rx.2) (absI ry.1,ry.2)).2≤(leastF (absI rx.1,rx.2) (absI ry.1,ry.2)).1*2^64)
  (cc:Bd ((C:Rat)/1152921504606846976) (101/100))(ss:Bd ((S:Rat)/1152921504606846976) (101/100))(hs:S=0∨ry=rx)(hT:toldF rx ry=T)(hA:inPartsF rx (T*MANY)=A)(hB:inPartsF ry (T*MANY)=B):Geo C S A B T rx ry:=by
 obtain⟨h1,h2,-⟩:=toldF_spec hl
 rw[hT] at h1 h2
 obtain⟨m1,m2⟩:=least_spec (a:=(absI rx.1,rx.2)) (b:=(absI ry.1,ry.2)) ⟨by rw[absI_pos x0];exact x0,x1⟩ ⟨by rw[absI_pos y0];exact y0,y1⟩ h2 h1
 simp only[absI_pos x0,absI_pos y0] at m1 m2
 obtain⟨a1,a2,a3⟩:=in_parts_ex rx (T*MANY) x1
 obtain⟨b1,b2,b3⟩:=in_parts_ex ry (T*MANY) y1
 rw[hA] at a3
 rw[hB] at b3
 have eM:((T*MANY:Int):Rat)=T*1099511627776:=by push_cast;rfl
 rw[eM] at a3 b3
 have hA':Bd ((A:Rat)-val rx*T*1099511627776) (1/2):=⟨by have i1:=a2.lo;exact li 0x2104540f3a3a1c0441110898418861518478418861503ce123a1c0440e12a4 a2.1 a3,by have i2:=a2.hi;exact li 0x84140f3a3a1c0441110894610621a11d03ce123a1c0440e10621a12a4 a2.2 a3⟩
 have hB':Bd ((B:Rat)-val ry*T*1099511627776) (1/2):=⟨by have i3:=b2.lo;exact li 0x2104540f3a3a1c0441110898418861518478418861503ce123a1c0440e12a4 b2.1 b3,by have i4:=b2.hi;exact li 0x84140f3a3a1c0441110894610621a11d03ce123a1c0440e10621a12a4 b2.2 b3⟩
 refine⟨h2,x0,x1,y0,y1,val_told x1 m1,val_told y1 m2,hA',hB',cc,ss,?_,?_⟩
 ·rcases hs with h |h
  ·subst h;rw[Rat.intCast_zero];constructor;exact li 0x8411418fc70640f3848e87011031212a3;exact li 0x18fc70640f3848e87011031210612a3
  ·rw[h];exact(ss.mul hA').le (li 0x239418e41a106218484184a)
 ·rcases hs with h |h
  ·subst h;rw[Rat.intCast_zero];constructor;exact li 0x8411418fc70640f3848e87011031212a3;exact li 0x18fc70640f3848e87011031210612a3
  ·rw[h] at hB';exact(ss.mul hB').le (li 0x239418e41a106218484184a)
theorem way_val{m n:Int}(h:0<n*n+m*m):val (wayF m n).1=((n:Rat)*n-m*m)/(n*n+m*m)∧val (wayF m n).2=2*m*n/((n:Rat)*n+m*m)∧0<(wayF m n).1.2∧0<(wayF m n).2.2:=by
 have h1:=val_frac (t:=n*n-m*m) h
 have h2:=val_frac (t:=2*m*n) h
 push_cast at h1 h2
 exact⟨h1.1,h2.1,h1.2,h2.2⟩
theorem turn_val{v w:Pt}(v1:0<v.1.2)(v2:0<v.2.2)(w1:0<w.1.2)(w2:0<w.2.2):val (turnF v w).1=val v.1*val w.1-val v.2*val w.2∧val (turnF v w).2=val v.1*val w.2+val v.2*val w.1∧0<(turnF v w).1.2∧0<(turnF v w).2.2:=by
 have a:=val_times v1 w1
 have b:=val_times v2 w2
 have c:=val_times v1 w2
 have d:=val_times v2 w1
 have e:=val_minus a.2 b.2
 have f:=val_plus c.2 d.2
 exact⟨by show val (minusF _ _)=_;rw[e.1,a.1,b.1],by show val (plusF _ _)=_;rw[f.1,c.1,d.1],e.2,f.2⟩
theorem led_val{v r c:Pt}(v1:0<v.1.2)(v2:0<v.2.2)(r1:0<r.1.2)(r2:0<r.2.2)(c1:0<c.1.2)(c2:0<c.2.2):val (ledL v r c).1=val c.1+val v.1*val r.1∧val (ledL v r c).2=val c.2+val v.2*val r.2∧0<(ledL v r c).1.2∧0<(ledL v r c).2.2:=by
 have a:=val_times v1 r1
 have b:=val_times v2 r2
 have e:=val_plus c1 a.2
 have f:=val_plus c2 b.2
 exact⟨by show val (plusF _ _)=_;rw[e.1,a.1],by show val (plusF _ _)=_;rw[f.1,b.1],e.2,f.2⟩
theorem sq_pos{n m:Int}(h:0<n∨0<m):0<n*n+m*m:=by
 have sq:∀x:Int,0≤x*x:=fun x=>by
  rcases Int.le_total 0 x with h |h
  ·exact Int.mul_nonneg h h
  ·exact Int.mul_nonneg_of_nonpos_of_nonpos h h
 have a:=sq n
 have b:=sq m
 rcases h with h |h
 ·have i1:=Int.mul_pos h h;exact lI 0x138e1212013cf1211c138e10f3c40a12e2 b i1
 ·have i2:=Int.mul_pos h h;exact lI 0x138e1212013cf1211c13cf10e3840a12e2 a i2
theorem arc_mk{m0 n0 m n m' σ:Int}(p0:0<n0*n0+m0*m0)(hm:1≤m)(hn:0≤n)(hτ:n=0∨(m≤9*n∧n≤1000000*m))(hσ:σ*σ=1)(hm':m'=σ*m):
  Arc (val (wayF m0 n0).1) (val (wayF m0 n0).2) (val (turnF (wayF m0 n0) (wayF m' n)).1) (val (turnF (wayF m0 n0) (wayF m' n)).2) ((n:Rat)/m) (((n:Rat)*n-m*m)/(n*n+m*m)) (2*m*n/((n:Rat)*n+m*m)) σ:=by
 have p1:=sq_pos (n:=n) (m:=m) (.inr (by exact lI 0x8413a11c13a12e1 hm))
 have e':m'*m'=m*m:=by rw[hm'];exact lI 0x3cf10e38484124e3c438f1043cf121322 hσ
 have p1':0<n*n+m'*m':=by rw[e'];exact p1
 have a:=way_val p0
 have b:=way_val p1'
 have t:=turn_val a.2.2.1 a.2.2.2 b.2.2.1 b.2.2.2
 have q0:=icast_pos p0
 have q1:=icast_pos p1
 push_cast at q0 q1
 have hσ':(σ:Rat)*σ=1:=by have i1:=congrArg (fun z:Int=>(z:Rat)) hσ;push_cast at i1;exact i1
 have hm1:(1:Rat)≤m:=cast_le hm
 have hn1:(0:Rat)≤n:=cast_nn hn
 have b1:val (wayF m' n).1=((n:Rat)*n-m*m)/(n*n+m*m):=by
  rw[b.1]
  have i2:(m':Rat)*m'=m*m:=by have i3:=congrArg (fun z:Int=>(z:Rat)) e';push_cast at i3;exact i3
  rw[i2]
 have b2:val (wayF m' n).2=σ*(2*m*n/((n:Rat)*n+m*m)):=by
  rw[b.2.1]
  have h1:(m':Rat)*m'=m*m:=by have i4:=congrArg (fun z:Int=>(z:Rat)) e';push_cast at i4;exact i4
  have h2:(m':Rat)=σ*m:=by rw[hm'];push_cast;rfl
  rw[h1,h2]
  generalize (n:Rat)*n+m*m=D at *
  grind
 rw[a.1,a.2.1] at *
 rw[b1,b2] at t
 clear a b b1 b2
 have eτ:(n:Rat)/m*m=n:=by have i5:(m:Rat)≠0:=fun o_=>li 0x2104e0498413a11e1 hm1 o_;exact li 0x84140f10e2503c43a1323 (Rat.div_mul_cancel (Rat.ne_of_gt (li 0x8413a11c13a12e1 hm1)))
 generalize ht:(n:Rat)/m=τ at *
 rw[t.1,t.2.1]
 have un:((n0:Rat)*n0-m0*m0)/(n0*n0+m0*m0)*(((n0:Rat)*n0-m0*m0)/(n0*n0+m0*m0))+2*m0*n0/(n0*n0+m0*m0)*(2*m0*n0/(n0*n0+m0*m0))=1:=by
  have h0:(n0:Rat)*n0+m0*m0≠0:=fun o_=>li 0x8413cf10e3840812413cf10e3840a1222 q0 o_
  have e:((n0:Rat)*n0-m0*m0)*((n0:Rat)*n0-m0*m0)+2*m0*n0*(2*m0*n0)=(n0*n0+m0*m0)*(n0*n0+m0*m0):=li 0xf3c438e1033cf10e3840c48813843c48813843c41023cf10e38408f3c438e102121322
  generalize (n0:Rat)*n0-m0*m0=X at *
  generalize 2*(m0:Rat)*n0=Y at *
  generalize (n0:Rat)*n0+m0*m0=D at *
  grind
 generalize ((n0:Rat)*n0-m0*m0)/(n0*n0+m0*m0)=o1 at *
 generalize 2*(m0:Rat)*n0/(n0*n0+m0*m0)=o2 at *
 have h0:(n:Rat)*n+m*m≠0:=fun o_=>li 0x8413cf10e3840812413cf10e3840a1222 q1 o_
 have mm:(m:Rat)≠0:=fun o_=>li 0x2104e0498413a11e1 hm1 o_
 have hτ0:0≤τ:=by
  rcases rt 0 τ with h |h
  ·exact h
  ·have i6:=Rat.mul_nonneg (show 0≤-τ from li 0x38184704e1612a1 h) (show 0≤(m:Rat) from li 0x8413a11c13a12a1 hm1)
   have i7:τ*m=0:=Rat.le_antisymm (li 0x4f14e1211cf3840612a2 i6) (li 0x210453ce1102414211c13ce1212a3 hn1 eτ)
   rcases Rat.mul_eq_zero.mp i7 with h |h;exact li 0x210453812413a12a1 h;exact li 0x8413c126104f84704e2a2 hm1 h
 refine⟨un,?_,?_,hσ',li 0x1244440f3841034911103ce1040e1325,li 0x124501043ce10249140410f3840a1325,?_⟩
 ·rw[←eτ] at h0 ⊢
  grind
 ·rw[←eτ] at h0 ⊢
  grind
 ·rcases hτ with h |⟨h1,h2⟩
  ·left
   rw[h,Rat.intCast_zero] at eτ
   rcases Rat.mul_eq_zero.mp eτ with h |h;exact li 0x84138124e061321 h;exact Rat.le_antisymm (li 0x8413c126104f8473812a2 hm1 h) (li 0x8413c126104f84704e2a2 hm1 h)
  ·right
   have h1':=cast_le h1
   have h2':=cast_le h2
   push_cast at h1' h2'
   rw[←eτ] at h1' h2'
   constructor
   ·rcases rt (1/9) τ with h |h
    ·exact h
    ·have i8:=Rat.mul_nonneg (show 0≤1/9-τ from li 0xe841a4684706106918e0e12a1 h) (show 0≤(m:Rat)-1 from li 0x2104e84704e8410e12a1 hm1)
     exact li 0x1841a463833e10431291cfa4138f104847841a463a92a2 h1' i8
   ·rcases rt τ 1000000 with h |h
    ·exact h
    ·have i9:=Rat.mul_nonneg (show 0≤τ-1000000 from li 0x2299d04e84704e8a67410e12a1 h) (show 0≤(m:Rat)-1 from li 0x2104e84704e8410e12a1 hm1)
     exact li 0x13e299d0433a10431211cf3848a67413848473e299d0612a2 h2' i9
noncomputable abbrev LS:List Str:=looseW Mine.view [Str.ofString "fraction",Str.ofString "PI_BOTTOM",Str.ofString "MORE",Str.ofString "MOST_BOTTOM",Str.ofString "turn_of",Str.ofString "in_parts"]
noncomputable abbrev Led:=List (Addr×Obj)
noncomputable abbrev FreshAt(x:Addr)(news:Led):Prop:=∀p∈news,p.1≠x
structure MgOk(mg:Str→Option Value):Prop where
 pib:∃t,mg "PI_BOTTOM" =some (.int 100000000000000000000000000000000000000000000000000 t)
 more:∃t,mg "MORE" =some (.int 65536 t)
 most:∃t,mg "MOST_BOTTOM" =some (.int 10000000000000000000000000000000000000000 t)
noncomputable abbrev Con(w:World)(f:Addr)(d:Nat)(news:Led)(vs:List Value)(R:(h₀:Heap)→(L:Addr)→(m:Str→Option Value)→(s:Shared)→(Q:Value→Shared→Prop)→Prop):Prop:=
 ∀{mg mb:Str→Option Value} {dp un:Nat} {gd:Option (List Code)} {cn:Str} {cs:Scope} {a:Addr} {ccd:Value} {cl:List (Str×Addr)} {outer:List Env} {A₀:Around} {base h₀:Heap} {L:Addr} {m:Str→Option Value} {s:Shared} {Q E:Value→Shared→Prop},
  Below A₀ base outer h₀→Fr h₀ L s.heap m→(Mine.K w.params).In h₀→News h₀ L s.heap news→TopRead Mine.view LS mg mb h₀→MgOk mg→cs.kind= .function→dp+d<recursionLimit→un+8*d<cLine→
  R h₀ L m s Q→wpAny (model PySem.Challenge.rw_qz0061_01.row.prog w) (ktrTop dp un gd cn cs L a ccd cl outer) (call (.ref f) vs) Q E s
section
variable {prog:Program} {w:World} {A A₀:Around} {s:Shared} {K:Frag} {L:Addr} {h₀ base:Heap} {m mg mb:Str→Option Value} {E:Led} {p:Program} {loose:List Str} {mean:ExcName→Option Value}
 {env:Env} {outer:List Env} {R:Result→Shared→Prop} {name qual:Str} {params:Arguments} {body:List Stmt} {scope:Scope} {dV kV doc pm cdv ct oc:Value} {an od:Option Addr} {osl:Array (Option Value)} {f:Addr} {args:Args} {binds:List (Str×Value)}
theorem enter_subC(B:Below A₀ base outer h₀)(F:Fr h₀ L s.heap m)(X₀:K.In h₀)(N:News h₀ L s.heap E)(T:TopRead p loose mg mb h₀)(hA:A.frames=some (env::outer))(hf:env.frame=some L)(hke:env.scope.kind= .function)
  (ho:K.lookup f=some ⟨oc,od,.func (fnOf name qual params body scope dV kV doc pm an cdv ct),osl⟩)(hcd:codeIn K cdv qual=true)(hroom:A.depth<recursionLimit)
  (hbind:BindsTo s (fnOf name qual params body scope dV kV doc pm an cdv ct) args binds)(hkind:(binds.all fun y=>scope.names.lookup y.1==some .local||scope.names.lookup y.1==some .cell)=true)
  (hnd:((cellsFrom 0 scope.names []).map (·.1)).Nodup)
  (h:∀g L' h₁ tk cells,Fr h₀ L g m→Fr g L' h₁ (bindL (envOfC qual scope L' f cdv).kindOf binds fun o1_=>none)→News g L' h₁ (cells++E)→
   CellsAre (bindC (envOfC qual scope L' f cdv).kindOf binds fun o1_=>none) (cellsFrom (L'+1) scope.names []) cells→Below A base (env::outer) g→K.In g→TopRead p loose mg mb g→(∀p∈E,p.1<L')→(∀b o,s.heap.get? b=some o→b∉E.map (·.1)→g.get? b=some o)→
   wpAny (model prog w) (A.deeper (envOfC qual scope L' f cdv)) (execs body (envOfC qual scope L' f cdv))
    (fun fl s'=>LeaveK h₀ L m g R (match fl with |.ret v=>v |_=> .none) s')
    (fun e s'=>wpAny (model prog w) (A.deeper (envOfC qual scope L' f cdv)) (leaving (envOfC qual scope L' f cdv) e) (fun o1_ s''=>R (.error e) s'') (fun e' s''=>R (.error e') s'') s')
    {s with heap:=h₁,toks:=tk})
  (hco:scope.isCoroutine=false) (hgen:scope.isGenerator=false) (hk:scope.kind= .function):codeAny (model prog w) A (.call (.ref f) args) R s:=by
 obtain⟨FG,BG,st,lv⟩:=groundX (R:=R) B F N hA hf hke
 refine codeAny_call_function hroom ((X₀.keeps F.keep) _ _ ho) rfl hco hgen rfl (codeRec_of (X₀.keeps F.keep) hcd) (hbind _ _ _ _ ?_)
 refine wpAny_newFunctionEnv_cells hk (kindsX hkind _) fun env' he s' x=>?_
 subst he
 refine⟨(T.nolimit.keeps F.keep).keeps x.toInCall.keep,codeAny_func ?_⟩
 obtain⟨h₁,tk,rfl,o1_⟩:=x.done
 have hk₁:=x.toInCall.keep
 obtain⟨cells,NC,Y⟩:=Cl.news (h₀:=s.heap) (Nat.le_refl _) fun n c hm=>⟨x.cell n c (lookup_of_mem_nodup (cellsFrom_names scope.names 0 (s.heap.objs.size+1) [] [] rfl▸hnd) hm),x.above n c hm⟩
 refine wpAny_mono (h _ s.heap.objs.size h₁ tk cells FG ⟨x.toInCall.ns,fun b o e=>hk₁ b o (of_hideAll _ e),Nat.le_of_eq (hideAll_size _ _)⟩ (fun p hp=>?_) Y BG (X₀.keeps st) (T.keeps st) (fun p hp=>Heap.lt_size (N p hp).1) (fun b o e hb=>hideAll_get _ e hb)) (fun fl s' hl=>lv _ _ hl) fun o1_ o2_ y=>y
 rcases List.mem_append.mp hp with hp |hp
 ·refine⟨(NC p hp).1,(NC p hp).2.1,?_⟩
  cases q:(hideAll s.heap (E.map (·.1))).get? p.1 with
  |none=>rfl
  |some o=>have:=of_hideAll _ q;rw[(NC p hp).2.2] at this;exact nomatch this
 ·exact⟨hk₁ _ _ (N p hp).1,Nat.ne_of_lt (Heap.lt_size (N p hp).1),hideAll_none _ (List.mem_map_of_mem hp)⟩
end
section
variable {prog:Program} {w:World} {A:Around} {E:Value→Shared→Prop} {s:Shared} {K:Frag} {h₀:Heap} {L a:Addr} {m mg mb:Str→Option Value} {news:Led} {cn:Str} {cs:Scope} {ccd:Value} {cl:List (Str×Addr)} {p:Program} {loose:List Str}
end
theorem gcdI_pos{a b:Int}(hb:0<b):0<gcdI a b:=by
 have:=Int.gcd_pos_iff.mpr (Or.inr (show b≠0 from fun o_=>lI 0x8413812413a1221 hb o_):a≠0∨b≠0)
 unfold gcdI;omega
theorem frac_pos{t b:Int}(hb:0<b):0<b.fdiv (gcdI t b):=by
 have hg:=gcdI_pos (a:=t) hb
 have hd:gcdI t b∣b:=Int.gcd_dvd_right ..
 obtain⟨k,hk⟩:=hd
 generalize gcdI t b=g at *
 subst hk
 rw[Int.mul_fdiv_cancel_left _ (by exact fun o_=>lI 0x8413812413a1221 hg o_)]
 exact Int.pos_of_mul_pos_right hb (by exact lI 0x13a12013a12e1 hg)
theorem gcd_step(x y:Int)(hy:0<y):Int.gcd y (x.fmod y)=Int.gcd x y:=by
 rw[Int.fmod_eq_emod_of_nonneg _ (by exact lI 0x13a12013a12a1 hy),Int.gcd_comm x y,Int.emod_def]
 simp
theorem toNat_lt{a b:Int}(h:a<b)(hb:0<b):a.toNat<b.toNat:=(Int.toNat_lt_toNat hb).mpr h
theorem nat_abs_le{a b:Int}(h0:0≤a)(h:a≤b):a.natAbs≤b.natAbs:=Int.ofNat_le.mp (by rw[Int.natAbs_of_nonneg h0,Int.natAbs_of_nonneg (Int.le_trans h0 h)];exact h)
theorem gcdI_bits{a b:Int}{n:Nat}(hb:0<b)(h:intBits b≤n):intBits (gcdI a b)≤n:=by
 refine bits_of_natAbs_le ?_ h
 exact nat_abs_le (Int.natCast_nonneg _) (Int.gcd_le_right a (b:=b) hb)
theorem np_of_bits{a b:Int}{n:Nat}(h:intBits b≤n)(hn:n≤9000):Builtin.divisionGoesByPylong a b=false:=by
 refine PyProof.noPylong_of_log2 ?_
 by_cases h0:b.natAbs=0
 ·rw[h0];decide +kernel
 ·rw[Nat.log2_lt h0]
  exact Nat.lt_of_lt_of_le (intBits_le_iff.mp h) (Nat.pow_le_pow_right (by decide) hn)
theorem g_start{a b:Int}(hb:0≤b):0≤(if a<0 then -a else a)∧0≤b∧Int.gcd (if a<0 then -a else a) b=Int.gcd a b:=by
 refine⟨by split <;> omega,hb,?_⟩
 split <;> simp
theorem g_step{x y a b:Int}(h:Int.gcd x y=Int.gcd a b)(hy:0<y):0≤y∧0≤x.fmod y∧Int.gcd y (x.fmod y)=Int.gcd a b:=
 ⟨by exact lI 0x13a12013a12a1 hy,Int.fmod_nonneg_of_pos _ hy,(gcd_step x y hy).trans h⟩
theorem g_meas{x y:Int}(hy:0<y):(x.fmod y).toNat<y.toNat:=by
 have h1:=Int.fmod_nonneg_of_pos x hy
 have h2:=Int.fmod_lt_of_pos x hy
 exact toNat_lt h2 hy
theorem g_end{x y a b:Int}(h:Int.gcd x y=Int.gcd a b)(hx:0≤x)(h0:0≤y)(hy:¬0<y):x=gcdI a b:=by
 have:y=0:=Int.le_antisymm (lI 0xe0611ce0612a1 (Int.not_lt.mp hy)) (lI 0x13a11c13a12a1 h0)
 subst this
 unfold gcdI
 rw[←h,Int.gcd_zero_right]
 exact(Int.natAbs_of_nonneg hx).symm
section
variable {M:Model} {A:Around} {E:Value→Shared→Prop} {s:Shared} {K:Frag} {h₀:Heap} {L C:Addr} {m mg mb:Str→Option Value} {scope:Scope} {cl:List (Str×Addr)} {env:Env} {p:Program} {loose:List Str} {x:Str} {pos:Pos} {v:Value} {Q:Value→Shared→Prop}
theorem ldg_R(F:Fr h₀ L s.heap m)(X:K.In h₀)(T:TopRead p loose mg mb h₀)(e:nsIn K mainGlobals x=some (some v))(h:Q v s)(hg:env.globals=mainGlobals)
  (hk:(compEnvC scope cl C env).scope.kind= .function)(hx:(compEnvC scope cl C env).kindOf x=some .globalImplicit)(hd:(x==("__debug__" :Str))=false):wpAny M A (eval (.Name x pos) (compEnvC scope cl C env)) Q E s:=
 Calls.Name_function_global hk hx (Calls.loadGlobal_global (env:=compEnvC scope cl C env) (show s.heap.Ns env.globals mg from hg▸(T.keeps F.keep).g) (mg_of X T.g e) h) hd
theorem ldb_R(F:Fr h₀ L s.heap m)(X:K.In h₀)(T:TopRead p loose mg mb h₀)(e:nsIn K mainGlobals x=some none)(hv:bootBuiltins x=some v)(hn:x≠ "__name__") (h:Q v s) (hg:env.globals=mainGlobals) (hb:env.builtins=builtinsNs)
  (hk:(compEnvC scope cl C env).scope.kind= .function)(hx:(compEnvC scope cl C env).kindOf x=some .globalImplicit)(hd:(x==("__debug__" :Str))=false):wpAny M A (eval (.Name x pos) (compEnvC scope cl C env)) Q E s:=
 Calls.Name_function_global hk hx (Calls.loadGlobal_builtin (env:=compEnvC scope cl C env) (show s.heap.Ns env.globals mg from hg▸(T.keeps F.keep).g) (mg_none_of X T.g e) (show s.heap.Ns env.builtins mb from hb▸(T.keeps F.keep).b) ((T.builtins x hn).trans hv) h) hd
end
theorem bits_rounded{a0 a1:Int}{n0 n1:Nat}(i0:intBits a0≤n0)(i1:intBits a1≤n1):intBits (roundedF (a0,a1))≤max (2+n0) n1+1:=
 bits_fdiv (bits_add (bits_mul (by decide) i0) i1)
theorem rf1_start{n:Int}{k:Nat}(hn:0<n):(1:Int)≤1∧(1:Int)*1≤4*n∧intBits 1≤k+3:=by
 refine⟨by decide,by exact lI 0x4e90884184112404e1212a1 hn,?_⟩
 have:intBits 1=1:=by decide
 exact lN 0x4e8478413e10493ce8c10a12a2 this (Nat.zero_le _)
theorem bits_mono{a b:Int}{k:Nat}(h0:0≤a)(h:a≤b)(hb:intBits b≤k):intBits a≤k:=bits_of_natAbs_le (nat_abs_le h0 h) hb
theorem le_sq{f:Int}(h:1≤f):f≤f*f:=by
 have:=Int.mul_le_mul_of_nonneg_left h (show 0≤f from lI 0x8413a11c13a12a1 h)
 exact lI 0x3a104438e1211ce38e1212a1 this
theorem rf1_step{n f:Int}{k:Nat}(h:1≤f)(h2:f*f≤n)(hk:intBits n≤k):1≤f*2∧f*2*(f*2)≤4*n∧intBits (f*2)≤k+3:=by
 refine⟨by exact lI 0x8413a21e104e8811212a1 h,?_,?_⟩
 ·have:f*2*(f*2)=4*(f*f):=lI 0x3a20443a204412404e384121321
  exact lI 0x3cf10e9073e20443e204412404e1212a2 h2
 ·have h3:=bits_mono (by exact lI 0x8413a11c13a12a1 h) (Int.le_trans (le_sq h) h2) hk
  have h4:=bits_mul (b:=2) h3 (Nat.le_refl _)
  have:intBits 2=2:=by decide
  exact lN 0x8413a204940f38284740f8c10a12a3 h4 this
theorem rf1_meas{n f:Int}(h:1≤f)(h2:f*f≤n):(n+1-f*2*(f*2)).toNat<(n+1-f*f).toNat:=by
 have h3:f*2*(f*2)=4*(f*f):=lI 0x3a20443a204412404e384121321
 have h4:=le_sq h
 exact toNat_lt (by exact lI 0x3cf3c48c78413e31ce84108f88110f8811040ce84108f3c40e12e2 h h4) (by exact lI 0x3cf10e84704e84108f3c40e12e2 h2)
theorem newton{n f:Int}(hn:0≤n)(hf:0<f):n<((f+n.fdiv f).fdiv 2+1)*((f+n.fdiv f).fdiv 2+1):=by
 have h1:=(fdiv_fmod_facts n f).1
 have h2:=(fdiv_fmod_facts n f).2.2.1 hf
 generalize n.fdiv f=q at *
 generalize n.fmod f=r at *
 have h3:=(fdiv_fmod_facts (f+q) 2).1
 have h4:=(fdiv_fmod_facts (f+q) 2).2.2.1 (by decide)
 generalize (f+q).fdiv 2=l at *
 generalize (f+q).fmod 2=o at *
 have h5:f+(q+1)≤2*(l+1):=lI 0x84115088111108f3822518818483ce8410828814210421212a4 h4.2 h3
 have h6:n<f*(q+1):=by
  have:f*(q+1)=q*f+f:=lI 0x3ce84108438f10f0a1322
  exact lI 0x84114f4044423894508483903e10421212e4 h2.2 h1
 have hq:0≤q:=by
  rcases Int.lt_or_le q 0 with hq |hq
  ·have:=Int.mul_le_mul_of_nonneg_left (show q+1≤0 from lI 0x3818483a10420612a1 hq) (show 0≤f from lI 0x13a12013a12a1 hf)
   exact lI 0xf3a104210f04484784114e3c440244940f84805184704e2a4 hn h2.2 h1 this
  ·exact hq
 have h7:(f+(q+1))*(f+(q+1))≤(2*(l+1))*(2*(l+1)):=Int.mul_le_mul h5 h5 (by exact lI 0x4e84704f84804f3a10420a12a2 hf hq) (by exact lI 0x13a11e10453e204440244e0894220612014612018813e10421212a4 hf h4.2 h3 hq)
 have h8:(f+(q+1))*(f+(q+1))=4*(f*(q+1))+(f-(q+1))*(f-(q+1)):=lI 0xf3a104208f3a10420849013ce84108410f3a10420cf3a10420c40a1322
 have h9:0≤(f-(q+1))*(f-(q+1)):=by
  rcases Int.le_total 0 (f-(q+1)) with h |h
  ·exact Int.mul_nonneg h h
  ·exact Int.mul_nonneg_of_nonpos_of_nonpos h h
 have h10:(2*(l+1))*(2*(l+1))=4*((l+1)*(l+1)):=lI 0x8813a104212204e84108412404e84108e841084121321
 exact lI 0x14508410834508410831211d14210420914210420848813a104212204e8410841211e404541111208f25246420f3a10423a10421242e5 h2.2 h1 h7 h9
theorem fdiv2_nonneg{n f:Int}(hn:0≤n)(hf:0<f):0≤(f+n.fdiv f).fdiv 2:=
 Int.fdiv_nonneg (Int.add_nonneg (by exact lI 0x13a12013a12a1 hf) (Int.fdiv_nonneg hn (by exact lI 0x13a12013a12a1 hf))) (by decide)
theorem newton_pos{n f:Int}(hn:0<n)(hf:0<f):0<(f+n.fdiv f).fdiv 2:=by
 have h1:=newton (Int.le_of_lt hn) hf
 have h2:=fdiv2_nonneg (Int.le_of_lt hn) hf
 generalize (f+n.fdiv f).fdiv 2=l at *
 rcases Int.lt_or_le 0 l with h |h
 ·exact h
 ·have:l=0:=Int.le_antisymm (lI 0xe0611ce0612a1 h) (lI 0x13a11c13a12a1 h2)
  subst this
  exact lI 0x38184108184108484804e8480412e1 hn h1
theorem rf2_bits{n f:Int}{k:Nat}(hf:intBits f≤k+3)(hk:intBits n≤k):intBits ((f+n.fdiv f).fdiv 2)≤k+4:=by
 have:=bits_fdiv (b:=2) (bits_add hf (bits_fdiv (b:=f) hk))
 exact Nat.le_trans this (Nat.succ_le_succ (Nat.max_le.mpr ⟨Nat.le_refl _,Nat.le_add_right _ _⟩))
theorem rf2_start{n f:Int}{k:Nat}(hn:0<n)(hf:1≤f)(h:¬f*f≤n)(hk:intBits n≤k)(hb:intBits f≤k+3):
  0<f∧0<(f+n.fdiv f).fdiv 2∧n<(f+1)*(f+1)∧(f+n.fdiv f).fdiv 2=(f+n.fdiv f).fdiv 2∧intBits f≤k+3∧intBits ((f+n.fdiv f).fdiv 2)≤k+4:=by
 refine⟨by exact lI 0x8413a11c13a12e1 hf,newton_pos hn (by exact lI 0x8413a11c13a12e1 hf),?_,rfl,hb,rf2_bits hb hk⟩
 have:(f+1)*(f+1)=f*f+2*f+1:=lI 0xe84108e84108438e12204e1028410a1321
 exact lI 0x38f3c48488413e21ce3e10423e10421212e2 hf (Int.not_le.mp h)
theorem rf2_step{n f l:Int}{k:Nat}(he:l=(f+n.fdiv f).fdiv 2)(hn:0<n)(hf:0<f)(hl:0<l)(hlt:l<f)(hk:intBits n≤k)(hb:intBits f≤k+3):
  0<l∧0<(l+n.fdiv l).fdiv 2∧n<(l+1)*(l+1)∧(l+n.fdiv l).fdiv 2=(l+n.fdiv l).fdiv 2∧intBits l≤k+3∧intBits ((l+n.fdiv l).fdiv 2)≤k+4:=by
 have hb':=bits_mono (Int.le_of_lt hl) (Int.le_of_lt hlt) hb
 exact⟨hl,newton_pos hn hl,he▸newton (Int.le_of_lt hn) hf,rfl,hb',rf2_bits hb' hk⟩
theorem rf_end{n f l:Int}(he:l=(f+n.fdiv f).fdiv 2)(hn:0<n)(hf:0<f)(h:n<(f+1)*(f+1))(hlt:¬l<f):f=rootI n:=by
 refine root_unique (Int.le_of_lt hn) (Int.le_of_lt hf) ?_ h
 have h1:=(fdiv_fmod_facts n f).1
 have h2:=(fdiv_fmod_facts n f).2.2.1 hf
 have h3:=(fdiv_fmod_facts (f+n.fdiv f) 2).1
 have h4:=(fdiv_fmod_facts (f+n.fdiv f) 2).2.2.1 (by decide)
 rw[←he] at h3
 generalize n.fdiv f=q at *
 generalize n.fmod f=r at *
 have h5:f≤q:=lI 0x13e11e105088110f0913822514221d13a12a4 (Int.not_lt.mp hlt) h3 h4.1
 have h6:=Int.mul_le_mul_of_nonneg_right h5 (Int.le_of_lt hf)
 exact lI 0x3cf1103c484784140f11108e2414611cf3c43a12a4 h2.1 h1 h6
theorem root_bits{n:Int}{k:Nat}(hn:0≤n)(hk:intBits n≤k):intBits (rootI n)≤k:=by
 obtain⟨a,b,c⟩:=rootI_spec hn
 rcases Int.lt_or_le 0 (rootI n) with h |h
 ·exact bits_mono a (Int.le_trans (le_sq h) b) hk
 ·have:rootI n=0:=Int.le_antisymm (lI 0xe0611ce0612a1 h) (lI 0xe3e10423e104212120f3c43a11c13e22a2 b c)
  rw[this]
  have:intBits 0=0:=by decide
  exact lN 0x4e8478413c124f3a12a2 this (Nat.zero_le _)
noncomputable def SerInv(r sq sc b total term step:Int):Prop:=∃k j:Nat,k+j=200∧seriesGo k sq sc total term step=some r∧step=b+2*j∧intBits term≤300+310*j
theorem ser_start{r sq sc b first:Int}(h:seriesGo 200 sq sc 0 first b=some r)(hb:0<b)(hb2:b≤2)(hf:intBits first≤300):SerInv r sq sc b 0 first b∧intBits first≤100000∧0<b∧b≤1000:=
 ⟨⟨200,0,rfl,h,by omega,by exact lN 0xea6c0611cea6c069d810440a12a1 hf⟩,by exact lN 0x3a9b018473a295d0612a1 hf,hb,by exact lI 0x3a20611cefe80612a1 hb2⟩
theorem ser_arith(j:Nat):300+310*j+300≤300+310*(j+1):=lN 0xa6c069d813840a9b010a9b01a7604e8410840a12a1
theorem ser_pos{r sq sc b total term step:Int}(h:SerInv r sq sc b total term step)(hb2:b≤2)(ht:term≠0):step≤b+398∧SerInv r sq sc b (total+term) (-(((term*sq).fdiv sc).fdiv (step*(step+1)))) (step+2)∨¬(intBits sq≤300):=by
 by_cases hq:intBits sq≤300
 ·refine Or.inl ?_
  obtain⟨k,j,hkj,hs,hst,hbt⟩:=h
  induction k using Nat.casesOn with
  |zero=>simp[seriesGo] at hs
  |succ k=>
   unfold seriesGo at hs
   rw[if_neg ht] at hs
   refine⟨by omega,k,j+1,by exact lN 0x8413e10423829a80493ce8410829a8061322 hkj,hs,by omega,?_⟩
   have:=bits_neg (bits_fdiv (b:=step*(step+1)) (bits_fdiv (b:=sc) (bits_mul hbt hq)))
   exact Nat.le_trans this (ser_arith j)
 ·exact Or.inr hq
theorem ser_step{r sq sc b total term step:Int}(h:SerInv r sq sc b total term step)(hb:0<b)(hb2:b≤2)(hq:intBits sq≤300)(ht:term≠0):
  SerInv r sq sc b (total+term) (-(((term*sq).fdiv sc).fdiv (step*(step+1)))) (step+2)∧intBits (-(((term*sq).fdiv sc).fdiv (step*(step+1))))≤100000∧0<step+2∧step+2≤1000:=by
 rcases ser_pos h hb2 ht with⟨h1,h2⟩ |h2
 ·obtain⟨k,j,hkj,hs,hst,hbt⟩:=h2
  exact⟨⟨k,j,hkj,hs,hst,hbt⟩,by exact lN 0x1429d873a9b01a7604f102847a760503c29a80493a295d0612a3 hkj hbt (Nat.zero_le _),by exact lI 0x4e88784114f88109088138408905084804f8810a12e3 hb hst (Int.natCast_nonneg _),by exact lI 0xe3ecb810a11cf8818473a2042fe80612a2 hb2 h1⟩
 ·exact absurd hq h2
theorem ser_meas{r sq sc b total term step:Int}(h:SerInv r sq sc b total term step)(hb2:b≤2)(hq:intBits sq≤300)(ht:term≠0):(b+400-(step+2)).toNat<(b+400-step).toNat:=by
 rcases ser_pos h hb2 ht with⟨h1,_⟩ |h2
 ·exact toNat_lt (by exact lI 0x3ecc0108e8810833ecc0108e0e12e2) (by exact lI 0xf3acb810a11c13acc0108f0e12e2 h1)
 ·exact absurd hq h2
theorem ser_end{r sq sc b total term step:Int}(h:SerInv r sq sc b total term step)(ht:term=0):total=r:=by
 obtain⟨k,j,hkj,hs,o1_⟩:=h
 induction k using Nat.casesOn with
 |zero=>simp[seriesGo] at hs
 |succ k=>
  simp only[seriesGo,if_pos ht,Option.some.injEq] at hs
  exact hs
theorem bits_inParts{a0 a1 pa:Int}{n0 n1 n2:Nat}(i0:intBits a0≤n0)(i1:intBits a1≤n1)(i2:intBits pa≤n2):intBits (inPartsF (a0,a1) pa)≤max (2+(n0+n2)) n1+1:=bits_rounded (bits_mul i0 i2) i1
noncomputable def ToldInv(r0 r1 told:Int):Prop:=∃k:Nat,toldGo k r0 r1 told=toldGo 64 r0 r1 TOLD∧r1*TOLD≤r0*told*2^k∧0<told∧intBits told≤21+(64-k)∧k≤64
theorem told_start{r0 r1:Int}(h:r1≤r0*2^64):ToldInv r0 r1 1048576∧(0:Int)<1048576∧intBits 1048576≤200:=by
 refine⟨⟨64,rfl,?_,by decide,by decide,by decide⟩,by decide,by decide⟩
 have:=Int.mul_le_mul_of_nonneg_right h (show 0≤TOLD by decide)
 have e:r0*1048576*2^64=r0*2^64*TOLD:=by rw[Int.mul_assoc,Int.mul_comm 1048576,←Int.mul_assoc];rfl
 rw[e];exact this
theorem told_step{a b:Pr}{r0 r1 told:Int}(e:leastF a b=(r0,r1))(h:ToldInv (leastF a b).1 (leastF a b).2 told)(hc:r0*told<r1*1048576):
  ToldInv (leastF a b).1 (leastF a b).2 (told*2)∧0<told*2∧intBits (told*2)≤200:=by
 rw[e] at h ⊢
 obtain⟨k,h1,h2,h3,h4,h5⟩:=h
 induction k using Nat.casesOn with
 |zero=>
  simp only[Int.pow_zero,Int.mul_one] at h2
  exact absurd h2 (Int.not_le.mpr hc)
 |succ k=>
  have hb:intBits (told*2)≤21+(64-k):=by
   have:=bits_mul (b:=2) h4 (show intBits 2≤2 by decide)
   have h6:=intBits_le_iff.mp h4
   refine intBits_le_iff.mpr ?_
   have e:21+(64-k)=21+(64-(k+1))+1:=lN 0x84114e3e10420a28012610503c28a0049d41402d413828410a1323 (Nat.sub_add_cancel (lN 0x3a10428a00611ce8a00612a1 h5)) (Nat.sub_add_cancel (lN 0xe8410a28018473a10428a00612a1 h5))
   rw[e,Nat.pow_succ,Int.natAbs_mul]
   exact Nat.mul_lt_mul_of_pos_right h6 (by decide)
  refine⟨⟨k,?_,?_,by exact lI 0x4e88804e8811212e1 h3,hb,by exact lN 0x3a10428a00611ce8a00612a1 h5⟩,by exact lI 0x4e88804e8811212e1 h3,by exact lN 0x13a11e104f3828a004943504f0a11d09a80612a3 hb (Nat.sub_add_cancel (lN 0x3a10428a00611ce8a00612a1 h5)) (Nat.zero_le _)⟩
  ·rw[←h1]
   simp only[toldGo]
   rw[if_pos (show r0*told<r1*TOLD from hc)]
  ·have e:r0*(told*2)*2^k=r0*told*2^(k+1):=by
    rw[Int.pow_succ,Int.mul_assoc,Int.mul_assoc,Int.mul_assoc,Int.mul_comm 2]
   simp only
   rw[e];exact h2
theorem told_meas{a b:Pr}{r0 r1 told:Int}(e:leastF a b=(r0,r1))(hr:0<r0)(ht:0<told)(hc:r0*told<r1*1048576):
  ((leastF a b).2*1048576-(leastF a b).1*(told*2)).toNat<((leastF a b).2*1048576-(leastF a b).1*told).toNat:=by
 rw[e]
 have e2:r0*(told*2)=r0*told+r0*told:=lI 0x3ce8811043ce10f3840a1322
 have h:=Int.mul_pos hr ht
 simp only
 exact toNat_lt (by exact lI 0x503c48483a2d1c04440f8811040ce8b47011103c40e12e3 h) (by exact lI 0x103c43a2d1c04484804e8b47011103c40e12e3 hc)
theorem told_end{a b:Pr}{r0 r1 told:Int}(e:leastF a b=(r0,r1))(h:ToldInv (leastF a b).1 (leastF a b).2 told)(hc:¬r0*told<r1*1048576):
  told=toldGo 64 (leastF a b).1 (leastF a b).2 TOLD∧0<told∧intBits told≤85:=by
 rw[e] at h ⊢
 obtain⟨k,h1,h2,h3,h4,h5⟩:=h
 refine⟨?_,h3,by exact lN 0x13a11e104f3828a004943504f0a11d08b50612a3 h4 (Nat.sub_add_cancel (lN 0xe8a00611ce8a00612a1 h5)) (Nat.zero_le _)⟩
 rw[←h1]
 induction k using Nat.casesOn with
 |zero=>rfl
 |succ k=>simp only[toldGo];rw[if_neg (show ¬r0*told<r1*TOLD from hc)]
theorem dot_self_nonneg(v:Pr):0≤dotI v v:=by
 have h:∀x:Int,0≤x*x:=fun x=>by
  rcases Int.le_total 0 x with h |h
  ·exact Int.mul_nonneg h h
  ·exact Int.mul_nonneg_of_nonpos_of_nonpos h h
 exact Int.add_nonneg (h _) (h _)
theorem hs_nonneg(v w:Pr):0≤(dotI w w*1152921504606846976*1152921504606846976).fdiv (4*dotI v v):=
 Int.fdiv_nonneg (Int.mul_nonneg (Int.mul_nonneg (dot_self_nonneg w) (by decide)) (by decide)) (Int.mul_nonneg (by decide) (dot_self_nonneg v))
theorem halfSine_bits{a0 a1 b0 b1:Int}(i0:intBits a0≤96)(i1:intBits a1≤96)(i2:intBits b0≤96)(i3:intBits b1≤96):intBits (halfSine (a0,a1) (b0,b1))≤330:=by
 refine root_bits (hs_nonneg (a0,a1) (b0-a0,b1-a1)) (bits_fdiv ?_)
 have h1:=bits_sub i2 i0
 have h2:=bits_sub i3 i1
 have h3:=bits_add (bits_mul h1 h1) (bits_mul h2 h2)
 exact Nat.le_trans (bits_mul (bits_mul h3 (show intBits 1152921504606846976≤61 by decide +kernel)) (show intBits 1152921504606846976≤61 by decide +kernel)) (by decide)
theorem handle_bits{a0 a1 b0 b1:Int}(i0:intBits a0≤96)(i1:intBits a1≤96)(i2:intBits b0≤96)(i3:intBits b1≤96):intBits (handleF (a0,a1) (b0,b1))≤400:=
 Nat.le_trans (bits_fdiv (bits_mul (bits_mul (show intBits 4≤3 by decide +kernel) (halfSine_bits i0 i1 i2 i3)) (show intBits PARTS≤61 by decide +kernel))) (by decide)
theorem quarter_bits{a0 a1:Int}{sw:Bool}{n:Nat}(i0:intBits a0≤n)(i1:intBits a1≤n):intBits (quarterOn (a0,a1) sw).1≤n∧intBits (quarterOn (a0,a1) sw).2≤n:=by
 have h:∀x:Int,intBits x≤n→intBits (0-x)≤n:=fun x hx=>bits_of_natAbs_le (Nat.le_of_eq (by rw[Int.zero_sub,Int.natAbs_neg])) hx
 cases sw
 ·exact⟨i1,h _ i0⟩
 ·exact⟨h _ i1,i0⟩
theorem piece_bits{a0 a1 b0 b1:Int}{sw:Bool}(i0:intBits a0≤96)(i1:intBits a1≤96)(i2:intBits b0≤96)(i3:intBits b1≤96):
  intBits (pieceF (a0,a1) (b0,b1) sw).1.1≤500∧intBits (pieceF (a0,a1) (b0,b1) sw).1.2≤500∧intBits (pieceF (a0,a1) (b0,b1) sw).2.1≤500∧intBits (pieceF (a0,a1) (b0,b1) sw).2.2≤500:=by
 have h:=handle_bits i0 i1 i2 i3
 have q1:=quarter_bits (sw:=sw) i0 i1
 have q2:=quarter_bits (sw:=sw) i2 i3
 exact⟨Nat.le_trans (bits_add i0 (bits_fdiv (bits_mul h q1.1))) (by decide),Nat.le_trans (bits_add i1 (bits_fdiv (bits_mul h q1.2))) (by decide),
  Nat.le_trans (bits_sub i2 (bits_fdiv (bits_mul h q2.1))) (by decide),Nat.le_trans (bits_sub i3 (bits_fdiv (bits_mul h q2.2))) (by decide)⟩
theorem centre_lo{q:Pr}{large sw:Bool}(h:¬sizeF q<4*PARTS*PARTS):centreF q large sw=((0+q.1).fdiv 2,(0+q.2).fdiv 2):=by unfold centreF;rw[if_neg h]
theorem centre_hi{q:Pr}{large sw:Bool}(h:sizeF q<4*PARTS*PARTS):centreF q large sw=((0+q.1).fdiv 2+(shareF q large sw*(turnedV (q.1-0,q.2-0)).1).fdiv (2*PARTS),(0+q.2).fdiv 2+(shareF q large sw*(turnedV (q.1-0,q.2-0)).2).fdiv (2*PARTS)):=by unfold centreF;rw[if_pos h]
theorem share_eq{q:Pr}{large sw:Bool}(h:large=sw):shareF q large sw=0-rootI (((4*PARTS*PARTS-sizeF q)*PARTS*PARTS).fdiv (sizeF q)):=by unfold shareF;rw[if_pos h]
theorem share_ne{q:Pr}{large sw:Bool}(h:¬large=sw):shareF q large sw=rootI (((4*PARTS*PARTS-sizeF q)*PARTS*PARTS).fdiv (sizeF q)):=by unfold shareF;rw[if_neg h]
theorem cen_nonneg{s:Int}(h0:0<s)(h:s<4*1152921504606846976*1152921504606846976):0≤((4*1152921504606846976*1152921504606846976-s)*1152921504606846976*1152921504606846976).fdiv s:=
 Int.fdiv_nonneg (Int.mul_nonneg (Int.mul_nonneg (by exact lI 0xe9018fc701123f1c044848064063f1c0448fc70110e0e12a1 h) (by decide)) (by decide)) (by exact lI 0x13a12013a12a1 h0)
noncomputable abbrev elD(P:Params)(rx ry C S:Int)(a b c e t1 t2 t3 t4:Tok):Obj:=
 dictOf [⟨PyData.keyHash P "rx",.str "rx" a,.int rx t1⟩,⟨PyData.keyHash P "ry",.str "ry" b,.int ry t2⟩,
  ⟨PyData.keyHash P "cosine",.str "cosine" c,.int C t3⟩,⟨PyData.keyHash P "sine",.str "sine" e,.int S t4⟩] 4
theorem led_bits{rx ry C S a0 a1:Int}(h1:intBits rx≤400)(h2:intBits ry≤400)(h3:intBits C≤200)(h4:intBits S≤200)(h5:intBits a0≤520)(h6:intBits a1≤520):
  intBits (ledF ⟨rx,ry,C,S⟩ (a0,a1)).1≤1200∧intBits (ledF ⟨rx,ry,C,S⟩ (a0,a1)).2≤1200:=
 ⟨Nat.le_trans (bits_fdiv (bits_sub (bits_mul h3 (bits_fdiv (bits_mul h5 h1))) (bits_mul h4 (bits_fdiv (bits_mul h6 h2))))) (by decide),
  Nat.le_trans (bits_fdiv (bits_add (bits_mul h4 (bits_fdiv (bits_mul h5 h1))) (bits_mul h3 (bits_fdiv (bits_mul h6 h2))))) (by decide)⟩
set_option genInjectivity false in
structure Cx(sc:Scope) where
 w:World
 dp:Nat
 un:Nat
 gd:Option (List Code)
 cn:Str
 L:Addr
 a:Addr
 ccd:Value
 outer:List Env
 A₀:Around
 base:Heap
 h₀:Heap
 mg:Str→Option Value
 mb:Str→Option Value
noncomputable abbrev Cx.A{sc:Scope}(c:Cx sc):Around:=ktrTop c.dp c.un c.gd c.cn sc c.L c.a c.ccd (cellsFrom (c.L+1) sc.names []) c.outer
noncomputable abbrev Cx.env{sc:Scope}(c:Cx sc):Env:=envX c.cn sc c.L c.a c.ccd (cellsFrom (c.L+1) sc.names [])
noncomputable abbrev MD(w:World):=model PySem.Challenge.rw_qz0061_01.row.prog w
structure Cok{sc:Scope}(c:Cx sc)(d:Nat):Prop where
 B:Below c.A₀ c.base c.outer c.h₀
 X:(Mine.K c.w.params).In c.h₀
 T:TopRead Mine.view LS c.mg c.mb c.h₀
 G:MgOk c.mg
 k:sc.kind= .function
 D:c.dp+d<recursionLimit
 U:c.un+8*d<cLine
noncomputable abbrev Mp:=Str→Option Value
noncomputable def upd(m:Mp)(x:Str)(v:Value):Mp:=fun y=>if y=x then some v else m y
noncomputable def Sub(l l':Led):Prop:=∀p∈l,p∈l'
theorem Sub.refl(l:Led):Sub l l:=fun o1_ h=>h
theorem Sub.trans{a b d:Led}(h:Sub a b)(k:Sub b d):Sub a d:=fun p hp=>k p (h p hp)
theorem Sub.cons{l:Led}{p:Addr×Obj}:Sub l (p::l):=fun o1_ h=> .tail _ h
noncomputable def SubX(a:Addr)(o:Obj)(l l':Led):Prop:=∀p∈l,(p.1≠a∨p.2≠o)→p∈l'
noncomputable def dropL(a:Addr)(l:Led):Led:=l.filter fun p=>decide (p.1≠a)
theorem dropL.mem{a:Addr}{l:Led}{p:Addr×Obj}:p∈dropL a l↔p∈l∧p.1≠a:=by simp[dropL]
theorem dropL.subX{h₀ h:Heap}{L a:Addr}{o o':Obj}{l:Led}(N:News h₀ L h l)(hm:(a,o)∈l):SubX a o l ((a,o')::dropL a l):=fun p hp hn=>by
 refine .tail _ (dropL.mem.mpr ⟨hp,?_⟩)
 intro e
 rcases hn with hn |hn
 ·exact hn e
 ·have h1:=(N p hp).1
  rw[e,(N _ hm).1] at h1
  exact hn (Option.some.inj h1).symm
theorem dropL.set{h₀ h h':Heap}{L a:Addr}{o o':Obj}{l:Led}(N:News h₀ L h l)(hm:(a,o)∈l)(hs:Heap.SameBut a h h')(ho:h'.get? a=some o'):News h₀ L h' ((a,o')::dropL a l):=fun p hp=>by
 rcases List.mem_cons.mp hp with e |hp
 ·subst e;exact⟨ho,(N _ hm).2⟩
 ·obtain⟨hp,hn⟩:=dropL.mem.mp hp
  exact⟨(hs.2 _ hn).trans (N p hp).1,(N p hp).2⟩
noncomputable abbrev VP:=Value→Led→Prop
noncomputable def TE{sc:Scope}(c:Cx sc)(env:Env)(m:Mp)(l:Led)(e:PySem.Expr)(P:VP):Prop:=
 ∀(s:Shared) (Q E:Value→Shared→Prop),Fr c.h₀ c.L s.heap m→News c.h₀ c.L s.heap l→
  (∀v l' h' tk',P v l'→Fr c.h₀ c.L h' m→News c.h₀ c.L h' l'→Q v ⟨h',s.gens,s.drawn,tk',s.os⟩)→wpAny (MD c.w) c.A (eval e env) Q E s
noncomputable def TEL{sc:Scope}(c:Cx sc)(env:Env)(m:Mp)(l:Led)(es:List PySem.Expr)(P:List Value→Led→Prop):Prop:=
 ∀(s:Shared) (Q:List Value→Shared→Prop) (E:Value→Shared→Prop) (pos:Pos),Fr c.h₀ c.L s.heap m→News c.h₀ c.L s.heap l→
  (∀vs l' h' tk',P vs l'→Fr c.h₀ c.L h' m→News c.h₀ c.L h' l'→Q vs ⟨h',s.gens,s.drawn,tk',s.os⟩)→wpAny (MD c.w) c.A (spliced (backTo pos (starEach es env))) Q E s
noncomputable def TC{sc:Scope}(c:Cx sc)(m:Mp)(l:Led)(f:Value)(vs:List Value)(P:VP):Prop:=
 ∀(s:Shared) (Q E:Value→Shared→Prop),Fr c.h₀ c.L s.heap m→News c.h₀ c.L s.heap l→
  (∀v l' h' tk',P v l'→Fr c.h₀ c.L h' m→News c.h₀ c.L h' l'→Q v ⟨h',s.gens,s.drawn,tk',s.os⟩)→wpAny (MD c.w) c.A (call f vs) Q E s
noncomputable def TT{sc:Scope}(c:Cx sc)(env:Env)(m:Mp)(l:Led)(e:PySem.Expr)(P:Bool→Led→Prop):Prop:=
 ∀(s:Shared) (Q:Bool→Shared→Prop) (E:Value→Shared→Prop),Fr c.h₀ c.L s.heap m→News c.h₀ c.L s.heap l→
  (∀b l' h' tk',P b l'→Fr c.h₀ c.L h' m→News c.h₀ c.L h' l'→Q b ⟨h',s.gens,s.drawn,tk',s.os⟩)→wpAny (MD c.w) c.A (isTrue e env (eval e env)) Q E s
noncomputable def TS{sc:Scope}(c:Cx sc)(env:Env)(m:Mp)(l:Led)(b:List Stmt)(N:Mp→Led→Prop)(R:VP):Prop:=
 ∀(s:Shared) (Q:Flow→Shared→Prop) (E:Value→Shared→Prop),PassesOwn (MD c.w) c.A env E→Fr c.h₀ c.L s.heap m→News c.h₀ c.L s.heap l→
  (∀v m' l' h' tk',R v l'→Fr c.h₀ c.L h' m'→News c.h₀ c.L h' l'→Q (.ret v) ⟨h',s.gens,s.drawn,tk',s.os⟩)→
  (∀m' l' h' tk',N m' l'→Fr c.h₀ c.L h' m'→News c.h₀ c.L h' l'→Q .next ⟨h',s.gens,s.drawn,tk',s.os⟩)→wpAny (MD c.w) c.A (execs b env) Q E s
section
variable {sc:Scope} {c:Cx sc} {env:Env} {m:Mp} {l:Led} {P:VP} {R:VP} {N:Mp→Led→Prop}
theorem TE.mono{e:PySem.Expr}{P':VP}(h:TE c env m l e P)(k:∀v l',P v l'→P' v l'):TE c env m l e P':=fun s Q E F N q=>h s Q E F N fun v l' h' tk' p=>q v l' h' tk' (k v l' p)
noncomputable def EV{sc:Scope}(c:Cx sc)(env:Env)(m:Mp)(l:Led)(e:PySem.Expr)(u:Value):Prop:=TE c env m l e (fun v l'=>v=u∧l'=l)
noncomputable def EI{sc:Scope}(c:Cx sc)(env:Env)(m:Mp)(l:Led)(e:PySem.Expr)(n:Int):Prop:=TE c env m l e (fun v l'=>(∃t,v= .int n t)∧l'=l)
theorem TE.ofV{e:PySem.Expr}{u:Value}(d:EV c env m l e u)(h:P u l):TE c env m l e P:=d.mono fun v l' ⟨a,b⟩=>by subst a;subst b;exact h
theorem TE.ofI{e:PySem.Expr}{n:Int}(d:EI c env m l e n)(h:∀t,P (.int n t) l):TE c env m l e P:=d.mono fun v l' ⟨⟨t,a⟩,b⟩=>by subst a;subst b;exact h t
theorem EI.const{n:Int}{k pos}:EI c env m l (.Constant (.int n) k pos) n:=fun s Q E F N q=>wpAny_Constant_int (q _ _ _ _ ⟨⟨_,rfl⟩,rfl⟩ F N)
theorem EV.loc{d:Nat}{x:Str}{pos:Pos}{u:Value}(ok:Cok c d)(hm:m x=some u)(hk:List.lookup x sc.names=some .local)(hd:(x==Str.ofString "__debug__")=false):EV c c.env m l (.Name x pos) u:=
 fun s Q E F N q=>nameX_L F hm (q _ _ _ s.toks ⟨rfl,rfl⟩ F N) ok.k hk hd
theorem EV.glob{d:Nat}{x:Str}{pos:Pos}{u:Value}(ok:Cok c d)(hm:nsIn (Mine.K c.w.params) mainGlobals x=some (some u))(hk:List.lookup x sc.names=some .globalImplicit)(hd:(x==Str.ofString "__debug__")=false):EV c c.env m l (.Name x pos) u:=
 fun s Q E F N q=>nameX_K F ok.X ok.T hm (q _ _ _ s.toks ⟨rfl,rfl⟩ F N) ok.k hk hd
theorem EV.built{d:Nat}{x:Str}{pos:Pos}{u:Value}(ok:Cok c d)(hm:nsIn (Mine.K c.w.params) mainGlobals x=some none)(hv:bootBuiltins x=some u)(hn:x≠ "__name__") (hk:List.lookup x sc.names=some .globalImplicit) (hd:(x==Str.ofString "__debug__")=false):EV c c.env m l (.Name x pos) u:=
 fun s Q E F N q=>nameX_B F ok.X ok.T hm hv hn (q _ _ _ s.toks ⟨rfl,rfl⟩ F N) ok.k hk hd
theorem EV.cell{d:Nat}{x:Str}{pos:Pos}{u:Value}{a:Addr}{o:Obj}(ok:Cok c d)(hc:(cellsFrom (c.L+1) sc.names []).lookup x=some a)(hm:(a,o)∈l)(ho:o.data= .cell (some u))(hk:List.lookup x sc.names=some .cell)(hd:(x==Str.ofString "__debug__")=false):EV c c.env m l (.Name x pos) u:=
 fun s Q E F N q=>nameX_C N hc hm ho (q _ _ _ s.toks ⟨rfl,rfl⟩ F N) ok.k hk hd
noncomputable def GetIt{sc:Scope}(c:Cx sc)(m:Mp)(l:Led)(a:Addr)(k:Int)(u:Value):Prop:=
 ∀(e ix:PySem.Expr) (t:Tok) (s:Shared) (Q E:Value→Shared→Prop),(∀(a:Addr) (k:Int) (u:Tok),subscripted ix false (Value.ref a) (Value.int k u)=operate [Value.ref a,Value.int k u] (getItem (Value.ref a) (Value.int k u)))→
  Fr c.h₀ c.L s.heap m→News c.h₀ c.L s.heap l→Q u s→wpAny (MD c.w) c.A (subscriptTail e ix (.ref a) (.int k t)) Q E s
theorem TEL.nil{P:List Value→Led→Prop}(h:P [] l):TEL c env m l [] P:=fun s Q E pos F N q=>spliced_none (q _ _ _ s.toks h F N)
theorem TEL.cons{P:List Value→Led→Prop}{e:PySem.Expr}{r:List PySem.Expr}(h:TE c env m l e (fun v l'=>TEL c env m l' r (fun vs l''=>P (v::vs) l'')))(hst:starEach (e::r) env=(false,eval e env)::starEach r env):TEL c env m l (e::r) P:=
 fun s Q E pos F N q=>spliced_more (h s _ E F N fun v l' h' tk' p F' N'=>p _ _ E pos F' N' fun vs l'' h'' tk'' p' F'' N''=>q _ _ _ _ p' F'' N'') hst
noncomputable abbrev tupO(vs:List Value):Obj:={cls:= .type "tuple",data:= .seq vs.toArray}
theorem TE.tuple{es:List PySem.Expr}{k:Nat}{pos:Pos}(h:TEL c env m l es (fun vs l'=>Nat.ble vs.length 8=true∧∀D l'',(D,tupO vs)∈l''→Sub l' l''→FreshAt D l'→P (.ref D) l'')):TE c env m l (.Tuple es k pos) P:=fun s Q E F N q=>
 Tuple_ (h s _ E pos F N fun vs l' h' tk' ⟨z,p⟩ F' N'=>kup_newTuple F' N' (fun D h'' F'' N'' lt=>q _ _ _ _ (p D _ (.head _) Sub.cons (fun p hp=>Nat.ne_of_lt (lt p hp))) F'' N'') (Nat.le_trans (Nat.le_of_ble_eq_true z) (by decide)))
theorem TE.call{d:Nat}{f:Str}{fp pos:Pos}{fa:Addr}{e:PySem.Expr}{r:List PySem.Expr}(ok:Cok c d)(df:EV c env m l (.Name f fp) (.ref fa))(hk:keepIn (Mine.K c.w.params) (.ref fa)=true)
  (h:TEL c env m l (e::r) (fun vs l'=>TC c m l' (.ref fa) vs P))
  (h1:eval (PySem.Expr.Call (.Name f fp) (e::r) [] pos) env=(do
     let v ←eval (.Name f fp) env
     callWith pos v [] (backTo pos (starEach (e::r) env)) (backToKw pos (keywordEach [] env))))
  (h2:starEach (e::r) env=(false,eval e env)::starEach r env) (h3:((backTo pos (starEach r env)).any fun x=>x.fst)=false):TE c env m l (.Call (.Name f fp) (e::r) [] pos) P:=fun s Q E F N q=>by
 refine Call_ (df s _ E F N fun v l' h' tk' ⟨e1,e2⟩ F' N'=>?_) h1
 subst e1;subst e2
 refine callWith_K ok.X hk (h _ _ E pos F' N' fun vs l'' h'' tk'' p F'' N''=>⟨ok.X.keeps F''.keep,?_⟩) h2 h3
 exact p _ Q E F'' N'' q
theorem TT.bool{e:PySem.Expr}{P:Bool→Led→Prop}(d:TE c env m l e (fun v l'=>∃b,v= .bool b∧P b l'))(he:isTrue e env (eval e env)=(do let v ←eval e env;standAt e.pos;holding [v] (truthy v))):TT c env m l e P:=fun s Q E F N q=>
 isTrue_plain (d s _ E F N fun v l' h' tk' ⟨b,e1,p⟩ F' N'=>by subst e1;exact wpAny_truthy_bool (q _ _ _ _ p F' N')) he
theorem TT.not{e:PySem.Expr}{pos:Pos}{P:Bool→Led→Prop}(d:TT c env m l e (fun b l'=>P (!b) l')):TT c env m l (.UnaryOp .Not e pos) P:=fun s Q E F N q=>
 isTrue_not (d s _ E F N fun b l' h' tk' p F' N'=>q _ _ _ _ p F' N')
theorem TT.and_nil{pos:Pos}{P:Bool→Led→Prop}(h:P true l):TT c env m l (.BoolOp .And [] pos) P:=fun s Q E F N q=>isTrue_and_nil (q _ _ _ s.toks h F N)
theorem TT.or_nil{pos:Pos}{P:Bool→Led→Prop}(h:P false l):TT c env m l (.BoolOp .Or [] pos) P:=fun s Q E F N q=>isTrue_or_nil (q _ _ _ s.toks h F N)
theorem TT.and_{x:PySem.Expr}{r:List PySem.Expr}{pos:Pos}{P:Bool→Led→Prop}(h:TT c env m l x (fun b l'=>if b then TT c env m l' (.BoolOp .And r pos) P else P false l')):TT c env m l (.BoolOp .And (x::r) pos) P:=fun s Q E F N q=>
 isTrue_and (h s _ E F N fun b l' h' tk' p F' N'=>by cases b;exact q _ _ _ _ p F' N';exact p _ Q E F' N' q)
theorem TT.or_{x:PySem.Expr}{r:List PySem.Expr}{pos:Pos}{P:Bool→Led→Prop}(h:TT c env m l x (fun b l'=>if b then P true l' else TT c env m l' (.BoolOp .Or r pos) P)):TT c env m l (.BoolOp .Or (x::r) pos) P:=fun s Q E F N q=>
 isTrue_or (h s _ E F N fun b l' h' tk' p F' N'=>by cases b;exact p _ Q E F' N' q;exact q _ _ _ _ p F' N')
theorem TE.ifexp{t a b:PySem.Expr}{pos:Pos}(h:TT c env m l t (fun b' l'=>if b' then TE c env m l' a P else TE c env m l' b P)):TE c env m l (.IfExp t a b pos) P:=fun s Q E F N q=>
 IfExp_ (h s _ E F N fun b' l' h' tk' p F' N'=>by cases b';exact p _ Q E F' N' q;exact p _ Q E F' N' q)
theorem TS.nil(h:N m l):TS c env m l [] N R:=fun s Q E pe F N' q k=>wpAny_execs_nil (k _ _ _ s.toks h F N')
theorem TS.ret{e:PySem.Expr}{pos:Pos}{r:List Stmt}(h:TE c env m l e R):TS c env m l (.Return (some e) pos::r) N R:=fun s Q E pe F N' q k=>
 wpAny_execs_cons (wpAny_Return_some (h s _ E F N' fun v l' h' tk' p F' N''=>q _ _ _ _ _ p F' N''))
theorem TS.if_{t:PySem.Expr}{b1 b2:List Stmt}{pos:Pos}{r:List Stmt}
  (h:TT c env m l t (fun b l'=>if b then TS c env m l' b1 (fun m' l''=>TS c env m' l'' r N R) R else TS c env m l' b2 (fun m' l''=>TS c env m' l'' r N R) R)):TS c env m l (.If t b1 b2 pos::r) N R:=fun s Q E pe F N' q k=>
 wpAny_execs_cons (wpAny_If (h s _ E F N' fun b l' h' tk' p F' N''=>by
  cases b
  ·exact p _ _ E pe F' N'' (fun v m' l' h' tk' a b d=>q _ _ _ _ _ a b d) fun m' l' h' tk' a b d=>a _ Q E pe b d q k
  ·exact p _ _ E pe F' N'' (fun v m' l' h' tk' a b d=>q _ _ _ _ _ a b d) fun m' l' h' tk' a b d=>a _ Q E pe b d q k))
end
section
variable {sc:Scope} {c:Cx sc} {m:Mp} {l:Led} {P:VP} {R:VP} {N:Mp→Led→Prop} {d:Nat}
noncomputable def TB{sc:Scope}(c:Cx sc)(m:Mp)(l:Led)(x:Str)(v:Value)(K:Mp→Led→Prop):Prop:=
 ∀(s:Shared) (Q:Unit→Shared→Prop) (E:Value→Shared→Prop),Fr c.h₀ c.L s.heap m→News c.h₀ c.L s.heap l→
  (∀m' l' h' tk',K m' l'→Fr c.h₀ c.L h' m'→News c.h₀ c.L h' l'→Q () ⟨h',s.gens,s.drawn,tk',s.os⟩)→wpAny (MD c.w) c.A (storeName c.env x v) Q E s
theorem TB.loc{x:Str}{v:Value}{K:Mp→Led→Prop}(ok:Cok c d)(hk:List.lookup x sc.names=some .local)(k:K (upd m x v) l):TB c m l x v K:=fun s Q E F N' q=>
 storeX_L F N' (fun h' F' N''=>q _ _ _ _ k F' N'') ok.k hk
theorem TB.cell{x:Str}{v:Value}{a:Addr}{o:Obj}{v₀:Option Value}{K:Mp→Led→Prop}(ok:Cok c d)(hc:(cellsFrom (c.L+1) sc.names []).lookup x=some a)(hm:(a,o)∈l)(ho:o.data= .cell v₀)(hk:List.lookup x sc.names=some .cell)
  (k:∀o' l',o'.data= .cell (some v)→(a,o')∈l'→SubX a o l l'→K m l'):TB c m l x v K:=fun s Q E F N' q=>by
 have hmem:=N' (a,o) hm
 refine wpAny_storeName_cell ok.k hk hc ⟨o,hmem.1,ho⟩ fun h' hv hs=>?_
 obtain⟨o',ho',hd'⟩:=hv
 refine q m _ h' s.toks (k o' ((a,o')::dropL a l) hd' (.head _) (dropL.subX N' hm)) ⟨F.ns.sameBut hs (Ne.symm hmem.2.1),fun b ob e=>(hs.2 b (fun q=>?_)).trans (F.keep b ob e),F.above⟩ (dropL.set N' hm hs ho')
 rw[q,hmem.2.2] at e;exact nomatch e
theorem TS.bind{x:Str}{px pos:Pos}{e:PySem.Expr}{r:List Stmt}(h:TE c c.env m l e (fun v l'=>TB c m l' x v (fun m' l''=>TS c c.env m' l'' r N R)))(hs:swapsWith e (some (.Name x px)) pos.line c.env=pure false):
  TS c c.env m l (.Assign [.Name x px] e pos::r) N R:=fun s Q E pe F N' q k=>
 wpAny_execs_cons (wpAny_Assign_Name (h s _ E F N' fun v l' h' tk' p F' N''=>p _ _ E F' N'' fun m' l'' h'' tk'' p' F'' N3=>p' _ Q E pe F'' N3 q k) hs)
theorem TS.expr{e:PySem.Expr}{pos:Pos}{r:List Stmt}(h:TE c c.env m l e (fun o1_ l'=>TS c c.env m l' r N R))(hi:interactive c.env=false)(hs:swapsWith e none pos.line c.env=pure false):TS c c.env m l (.Expr e pos::r) N R:=fun s Q E pe F N' q k=>
 wpAny_execs_cons (wpAny_Expr_any (h s _ E F N' fun v l' h' tk' p F' N''=>p _ Q E pe F' N'' q k) hi hs)
theorem TE.list{es:List PySem.Expr}{env:Env}{pos:Pos}(h:TEL c env m l es (fun vs l'=>Nat.ble vs.length 8=true∧∀D l'',(D,listOf vs.toArray 0)∈l''→Sub l' l''→FreshAt D l'→P (.ref D) l'')):TE c env m l (.List es pos) P:=fun s Q E F N q=>
 List_ (h s _ E pos F N fun vs l' h' tk' ⟨z,p⟩ F' N'=>newList_K F' N' (fun D h'' F'' N'' lt=>q _ _ _ _ (p D _ (.head _) Sub.cons (fun p hp=>Nat.ne_of_lt (lt p hp))) F'' N'') (Nat.le_trans (Nat.le_of_ble_eq_true z) (by decide)))
theorem TE.callB{id:String}{f:Str}{fp pos:Pos}{e:PySem.Expr}{r:List PySem.Expr}{env:Env}(df:EV c env m l (.Name f fp) (.builtin id))
  (h:TEL c env m l (e::r) (fun vs l'=>TC c m l' (.builtin id) vs P))
  (h1:eval (PySem.Expr.Call (.Name f fp) (e::r) [] pos) env=(do
     let v ←eval (.Name f fp) env
     callWith pos v [] (backTo pos (starEach (e::r) env)) (backToKw pos (keywordEach [] env))))
  (h2:starEach (e::r) env=(false,eval e env)::starEach r env) (h3:((backTo pos (starEach r env)).any fun x=>x.fst)=false):TE c env m l (.Call (.Name f fp) (e::r) [] pos) P:=fun s Q E F N q=>by
 refine Call_ (df s _ E F N fun v l' h' tk' ⟨e1,e2⟩ F' N'=>?_) h1
 subst e1;subst e2
 exact callWith_builtin1 (h _ _ E pos F' N' fun vs l'' h'' tk'' p F'' N''=>p _ Q E F'' N'' q) h2 h3
theorem TE.callT{id:String}{f:Str}{fp pos:Pos}{e:PySem.Expr}{r:List PySem.Expr}{env:Env}(df:EV c env m l (.Name f fp) (.type id))
  (h:TEL c env m l (e::r) (fun vs l'=>TC c m l' (.type id) vs P))
  (h1:eval (PySem.Expr.Call (.Name f fp) (e::r) [] pos) env=(do
     let v ←eval (.Name f fp) env
     callWith pos v [] (backTo pos (starEach (e::r) env)) (backToKw pos (keywordEach [] env))))
  (h2:starEach (e::r) env=(false,eval e env)::starEach r env) (h3:((backTo pos (starEach r env)).any fun x=>x.fst)=false):TE c env m l (.Call (.Name f fp) (e::r) [] pos) P:=fun s Q E F N q=>by
 refine Call_ (df s _ E F N fun v l' h' tk' ⟨e1,e2⟩ F' N'=>?_) h1
 subst e1;subst e2
 exact callWith_type1 (h _ _ E pos F' N' fun vs l'' h'' tk'' p F'' N''=>p _ Q E F'' N'' q) h2 h3
theorem TC.abs{a:Int}{t:Tok}(k:∀u,P (.int (if a<0 then -a else a) u) l):TC c m l (.builtin "abs") [.int a t] P:=fun s Q E F N q=>call_abs_int fun u tk=>q _ _ _ _ (k u) F N
theorem TC.bool'{b:Bool}(k:P (.bool b) l):TC c m l (.type "bool") [.bool b] P:=fun s Q E F N q=>call_bool_bool (q _ _ _ s.toks k F N)
end
section
variable {w:World} {f:Addr} {d:Nat} {news:Led} {vs:List Value} {name qual:Str} {params:Arguments} {body:List Stmt} {scope:Scope} {dV kV doc pm cdv ct oc:Value} {an od:Option Addr} {osl:Array (Option Value)} {binds:List (Str×Value)}
end
section
variable {prog:Program} {w:World} {A:Around} {E:Value→Shared→Prop} {s:Shared} {h₀:Heap} {L:Addr} {m:Str→Option Value} {env:Env}
end
theorem cells_lt:∀(ns:List (Str×NameKind)) (n L:Nat) (acc:List (Str×Addr)),L<n→(∀q∈acc,L<q.2)→∀q∈cellsFrom n ns acc,L<q.2
 |[],n,L,acc,_,h=>h
 |(x,k)::r,n,L,acc,hn,h=>by
  unfold cellsFrom
  split
  ·refine cells_lt r (n+1) L _ (Nat.lt_succ_of_lt hn) fun q hq=>?_
   rcases List.mem_cons.mp hq with e |hq
   ·rw[e];exact hn
   ·exact h q hq
  ·exact cells_lt r n L acc hn h
theorem cellsAre_mem{cm:Str→Option Value}:∀{cs:List (Str×Addr)} {cells:Led},CellsAre cm cs cells→∀p∈cells,∃q∈cs,q.2=p.1
 |_,_,Y,p,h=>by
  cases Y with
  |nil=>exact nomatch h
  |cons o1_ Y=>
  rcases List.mem_cons.mp h with e |h
  ·exact⟨_,.head _,by rw[e]⟩
  ·obtain⟨q,hq,e⟩:=cellsAre_mem Y p h
   exact⟨q,.tail _ hq,e⟩
theorem cells_above{cm:Str→Option Value}{scope:Scope}{L:Addr}{cells:Led}(Y:CellsAre cm (cellsFrom (L+1) scope.names []) cells)(p:Addr×Obj)(hp:p∈cells):L<p.1:=by
 obtain⟨q,hq,e⟩:=cellsAre_mem Y p hp
 rw[←e]
 exact cells_lt _ _ _ _ (Nat.lt_succ_self _) (fun o1_ h=>absurd h List.not_mem_nil) q hq
theorem con_enterC{w:World}{f:Addr}{d:Nat}{news:Led}{vs:List Value}{RR:VP}{R:(h₀:Heap)→(L:Addr)→(m:Str→Option Value)→(s:Shared)→(Q:Value→Shared→Prop)→Prop}
  {name qual:Str}{params:Arguments}{body:List Stmt}{scope:Scope}{dV kV doc pm cdv ct oc:Value}{an od:Option Addr}{osl:Array (Option Value)}{binds:List (Str×Value)}
  (ho:(Mine.K w.params).lookup f=some ⟨oc,od,.func (fnOf name qual params body scope dV kV doc pm an cdv ct),osl⟩)(hcd:codeIn (Mine.K w.params) cdv qual=true)
  (hbind:∀s:Shared,(Mine.K w.params).In s.heap→BindsTo s (fnOf name qual params body scope dV kV doc pm an cdv ct) ⟨vs,[]⟩ binds)
  (hkind:(binds.all fun y=>scope.names.lookup y.1==some .local||scope.names.lookup y.1==some .cell)=true)(hnd:((cellsFrom 0 scope.names []).map (·.1)).Nodup)
  (hR:∀{h₀:Heap} {L:Addr} {m:Str→Option Value} {s:Shared} {Q:Value→Shared→Prop},R h₀ L m s Q→∀v l' h' tk',RR v l'→Fr h₀ L h' m→News h₀ L h' l'→Q v ⟨h',s.gens,s.drawn,tk',s.os⟩)
  (h:∀(c:Cx scope) (cells l:Led),c.w=w→Cok c d→CellsAre (bindC (fun x=>scope.names.lookup x) binds fun o1_=>none) (cellsFrom (c.L+1) scope.names []) cells→(∀p∈cells,FreshAt p.1 news)→Sub cells l→Sub news l→
   TS c c.env (bindL (fun x=>scope.names.lookup x) binds fun o1_=>none) l body (fun o1_ l=>RR .none l) RR)
  (hco:scope.isCoroutine=false:=by rfl) (hgen:scope.isGenerator=false:=by rfl) (hk:scope.kind= .function:=by rfl):Con w f (d+1) news vs R:=by
 intro mg mb dp un gd cn cs ad ccd cl outer A₀ base h₀ L m s Q E B F X N T G9 Hk Hd Hu hret
 refine wpAny_call ?_
 refine enter_subC B F X N T rfl rfl Hk ho hcd (by show dp<_;exact lN 0x4f84740f8410823a12103a12e3 Hd (Nat.zero_le _)) (hbind _ (X.keeps F.keep)) hkind hnd (fun g L' h₁ tk cells FG F' N' Y B' X' T' hlt hgg=>?_) hco hgen hk
 have ok:Cok (sc:=scope) ⟨w,((ktrTop dp un gd cn cs L ad ccd cl outer).deeper (envOfC qual scope L' f cdv)).depth,((ktrTop dp un gd cn cs L ad ccd cl outer).deeper (envOfC qual scope L' f cdv)).units,gd,qual,L',f,cdv,envX cn cs L ad ccd cl::outer,ktrTop dp un gd cn cs L ad ccd cl outer,base,g,mg,mb⟩ d:=
  ⟨B',X',T',G9,hk,by rw[depth_deeper];show dp+1+d<_;exact lN 0x103e104208e8484210423c23a12e3 Hd,by simp only[units_deeper];show un+3+8*d<_;exact lN 0x10a013e10421023a12108c10a804f1023a12e3 Hu⟩
 have H:=h _ cells (cells++news) rfl ok Y (fun p hp q hq=>Nat.ne_of_lt (Nat.lt_trans (hlt q hq) (cells_above Y p hp))) (fun p hp=>List.mem_append.mpr (.inl hp)) (fun p hp=>List.mem_append.mpr (.inr hp))
 refine H _ _ _ PassesOwn.leaving F' N' ?_ ?_
 ·intro v m' l' h' tk' p F'' N''
  exact leaveK_ F'' N'' fun a b=>hR hret _ _ _ _ p a b
 ·intro m' l' h' tk' p F'' N''
  exact leaveK_ F'' N'' fun a b=>hR hret _ _ _ _ p a b
section
variable {w:World} {f:Addr} {d:Nat} {news:Led} {vs:List Value} {name qual:Str} {params:Arguments} {body:List Stmt} {scope:Scope} {dV kV doc pm cdv ct oc:Value} {an od:Option Addr} {osl:Array (Option Value)} {binds:List (Str×Value)}
end
section
variable {sc:Scope} {c:Cx sc} {m:Mp} {l:Led} {P:VP} {R:VP} {N:Mp→Led→Prop} {d:Nat}
end
section
variable {sc:Scope} {c:Cx sc} {m:Mp} {l:Led} {P:VP} {R:VP} {N:Mp→Led→Prop} {d:Nat}
open LCg in
end
noncomputable def BinOk{sc:Scope}(c:Cx sc)(op:Operator)(x y:Int)(K:Value→Led→Prop)(l:Led):Prop:=
 ∃z:Int,(∀(s:Shared) (t u:Tok) (Q E:Value→Shared→Prop),(∀v tk,Q (.int z v) ⟨s.heap,s.gens,s.drawn,tk,s.os⟩)→wpAny (MD c.w) c.A (binaryOp op (.int x t) (.int y u)) Q E s)∧∀t,K (.int z t) l
noncomputable def CmpOk{sc:Scope}(c:Cx sc)(op:CmpOp)(x y:Int)(K:Bool→Led→Prop)(l:Led):Prop:=
 ∃z:Bool,(∀(s:Shared) (t u:Tok) (Q E:Value→Shared→Prop),Q (.bool z) s→wpAny (MD c.w) c.A (compareOp op (.int x t) (.int y u)) Q E s)∧K z l
section
variable {sc:Scope} {c:Cx sc} {env:Env} {m:Mp} {l:Led} {P:VP} {x y:Int} {K:Value→Led→Prop} {B:Bool→Led→Prop}
theorem CmpOk.lt(h:B (decide (x<y)) l):CmpOk c .Lt x y B l:=⟨_,fun o1_ o2_ o3_ o4_ o5_ q=>lt_int q,h⟩
theorem CmpOk.gt(h:B (decide (y<x)) l):CmpOk c .Gt x y B l:=⟨_,fun o1_ o2_ o3_ o4_ o5_ q=>gt_int q,h⟩
theorem CmpOk.le(h:B (decide (x≤y)) l):CmpOk c .LtE x y B l:=⟨_,fun o1_ o2_ o3_ o4_ o5_ q=>le_int q,h⟩
theorem CmpOk.ge(h:B (decide (y≤x)) l):CmpOk c .GtE x y B l:=⟨_,fun o1_ o2_ o3_ o4_ o5_ q=>ge_int q,h⟩
theorem CmpOk.eq(h:B (x==y) l):CmpOk c .Eq x y B l:=⟨_,fun o1_ o2_ o3_ o4_ o5_ q=>eq_int q,h⟩
theorem CmpOk.ne(h:B (x != y) l):CmpOk c .NotEq x y B l:=⟨_,fun o1_ o2_ o3_ o4_ o5_ q=>ne_int q,h⟩
theorem TC.max2{a b:Int}{t u:Tok}(k:∀t,P (.int (if b>a then b else a) t) l):TC c m l (.builtin "max") [.int a t,.int b u] P:=fun s Q E F N q=>max_two_N rfl F N fun h' tk F' N'=>q _ _ _ _ (k _) F' N'
theorem TC.min2{a b:Int}{t u:Tok}(k:∀t,P (.int (if b<a then b else a) t) l):TC c m l (.builtin "min") [.int a t,.int b u] P:=fun s Q E F N q=>min_two_N rfl F N fun h' tk F' N'=>q _ _ _ _ (k _) F' N'
theorem TE.and2{a b:PySem.Expr}{pos:Pos}(h:TE c env m l a (fun v l'=>∃z:Bool,v= .bool z∧if z then TE c env m l' b P else P (.bool false) l')):TE c env m l (.BoolOp .And [a,b] pos) P:=fun s Q E F N q=>by
 refine BoolOp_and (h s _ E F N fun v l' h' tk' ⟨z,e1,p⟩ F' N'=>?_)
 subst e1
 refine wpAny_truthy_bool ?_
 cases z
 ·exact q _ _ _ _ p F' N'
 ·exact BoolOp_one (p _ Q E F' N' q)
end
section
variable {sc:Scope} {c:Cx sc} {m:Mp} {l:Led} {P:VP} {R:VP} {N:Mp→Led→Prop} {d:Nat}
end
section
variable {sc:Scope} {c:Cx sc} {m:Mp} {l:Led} {P:VP} {R:VP} {N:Mp→Led→Prop} {d:Nat}
end
theorem eqv_pr{a b e f:Int}:(PyData.tuple [.int a,.int b]).eqv (.tuple [.int e,.int f])=(a==e&&b==f):=by
 simp[PyData.eqv,PyData.eqvAll]
theorem eqv_pt{a b c d e f g h:Int}:(PyData.tuple [.tuple [.int a,.int b],.tuple [.int c,.int d]]).eqv (.tuple [.tuple [.int e,.int f],.tuple [.int g,.int h]])=(a==e&&b==f&&(c==g&&d==h)):=by
 simp[PyData.eqv,PyData.eqvAll]
noncomputable def ptEq(p q:Pt):Bool:=p.1.1==q.1.1&&p.1.2==q.1.2&&(p.2.1==q.2.1&&p.2.2==q.2.2)
section
variable {sc:Scope} {c:Cx sc} {env:Env} {m:Mp} {l:Led} {P:VP} {B:Bool→Led→Prop} {d:Nat}
end
section
variable {sc:Scope} {c:Cx sc} {env:Env} {m:Mp} {l:Led} {P:VP}
end
section
variable {sc:Scope} {c:Cx sc} {env:Env} {m:Mp} {l:Led} {P:VP} {R:VP} {N:Mp→Led→Prop}
end
noncomputable abbrev PRG:Program:=PySem.Challenge.rw_qz0061_01.row.prog
structure IterAt{sc:Scope}(c:Cx sc)(tgt:PySem.Expr)(m:Mp)(l:Led)(n:Nat)(Pv:Nat→Value→Heap→Prop)(src:List Addr)(s:Shared)(I:Addr)(fp wr:List Addr)(Md:Nat→Value→Heap→Prop)(St:Nat→Heap→Prop):Prop where
 W:PySem.W.KTurns PRG c.w c.A tgt I fp wr n Pv Md St
 self:∀i (s:Shared) (Q E:Value→Shared→Prop),St i s.heap→Q (.ref I) s→wpAny (MD c.w) c.A (pyIter (.ref I)) Q E s
 ex:∀i h,St i h→∀b∈fp,∃o,h.get? b=some o
 st:St 0 s.heap
 lt:∀b∈fp,b<s.heap.objs.size
 nL:c.L∉fp
 hid:∀b∈wr,c.h₀.get? b=none
 src:∀b∈fp,FreshAt b l∨b∈src
 F:Fr c.h₀ c.L s.heap m
 N:News c.h₀ c.L s.heap l
 off:∀p∈l,p.1∉wr
noncomputable def TIter{sc:Scope}(c:Cx sc)(tgt:PySem.Expr)(m:Mp)(l l₀:Led)(v:Value)(n:Nat)(Pv:Nat→Value→Heap→Prop)(src:List Addr):Prop:=
 ∀(s:Shared) (Q E:Value→Shared→Prop),Fr c.h₀ c.L s.heap m→News c.h₀ c.L s.heap l→
  (∀I fp wr Md St h',IterAt c tgt m l₀ n Pv src ⟨h',s.gens,s.drawn,s.toks,s.os⟩ I fp wr Md St→Q (.ref I) ⟨h',s.gens,s.drawn,s.toks,s.os⟩)→wpAny (MD c.w) c.A (pyIter v) Q E s
noncomputable def TAP{sc:Scope}(c:Cx sc)(m:Mp)(l:Led)(tgt:PySem.Expr)(v:Value)(pre:Heap→Prop)(K:Mp→Led→Prop):Prop:=
 ∀(s:Shared) (Q:Unit→Shared→Prop) (E:Value→Shared→Prop),Fr c.h₀ c.L s.heap m→News c.h₀ c.L s.heap l→pre s.heap→
  (∀m' l' h' tk',K m' l'→Fr c.h₀ c.L h' m'→News c.h₀ c.L h' l'→Q () ⟨h',s.gens,s.drawn,tk',s.os⟩)→wpAny (MD c.w) c.A (assign tgt c.env v) Q E s
section
variable {sc:Scope} {c:Cx sc} {m:Mp} {l:Led} {P:VP} {R:VP} {N:Mp→Led→Prop} {d:Nat}
end
section
variable {prog:Program} {w:World} {A:Around} {E:Value→Shared→Prop} {R:Result→Shared→Prop} {s:Shared}
theorem compLoop_K{elt tgt iter:PySem.Expr}{ifs:List PySem.Expr}{scope:Scope}{pos:Pos}{it acc:Value}{env:Env}(I:Nat→Shared→Prop)
  (turn:∀n s,I n s→wpAny (model prog w) A (pyNext it) (fun r s₁=>match r with
   |none=>R (.ok .next) s₁
   |some v=>wpAny (model prog w) A (letOwnedTupleGo tgt it v) (fun o1_ s₁'=>wpAny (model prog w) A (assign tgt env v) (fun o1_ s₂=>
     wpAny (model prog w) A (forIn ifs true fun c r=>if r=true then do let ok ←isTrue c env (eval c env);pure (ForInStep.yield ok) else pure (ForInStep.yield r)) (fun ok s₃=>
      if ok=true then wpAny (model prog w) A (eval elt env) (fun x s₄=>
       wpAny (model prog w) A (call (.builtin "list.append") [acc,x]) (fun o1_ s₅=>∃m,m<n∧I m s₅) (notedBy (model prog w) A env fun e s'=>R (.error e) s') s₄) (notedBy (model prog w) A env fun e s'=>R (.error e) s') s₃
      else ∃m,m<n∧I m s₃) (notedBy (model prog w) A env fun e s'=>R (.error e) s') s₂) (notedBy (model prog w) A env fun e s'=>R (.error e) s') s₁') (notedBy (model prog w) A env fun e s'=>R (.error e) s') s₁) (notedBy (model prog w) A env fun e s'=>R (.error e) s') s)
  (n:Nat) (h:I n s):codeAny (model prog w) A (.compLoop (.ListComp elt [⟨tgt,iter,ifs,0⟩] scope pos) 0 it acc env) R s:=by
 refine codeAny_loop rfl I (fun n s hI=>?_) n h
 show wpAny _ A ((compTurn (.ListComp elt [⟨tgt,iter,ifs,0⟩] scope pos) 0 it acc env).onRaise (fun x=>do noteFrame x env;theTreesLotGoes x)) _ _ s
 refine wpAny_noted ?_
 rw[compTurn_list]
 refine wpAny_bind (wpAny_standAt (wpAny_bind (wpAny_mono (turn n s hI) (fun r s₁ h₁=>?_) fun o1_ o2_ h'=>h')))
 induction r using Option.casesOn with
 |none=>exact wpAny_pure h₁
 |some v=>
  refine wpAny_bind (wpAny_mono h₁ (fun o1_ s₁' h₁'=>?_) fun o1_ o2_ h'=>h')
  refine wpAny_bind (wpAny_mono h₁' (fun o1_ s₂ h₂=>wpAny_bind (wpAny_mono h₂ (fun ok s₃ h₃=>?_) fun o1_ o2_ h'=>h')) fun o1_ o2_ h'=>h')
  induction ok using Bool.casesOn with
  |false=>exact wpAny_pure ⟨rfl,h₃⟩
  |true=>exact wpAny_bind (wpAny_bind (wpAny_mono h₃ (fun x s₄ h₄=>wpAny_bind (wpAny_mono h₄ (fun o1_ s₅ h₅=>wpAny_pure (wpAny_pure ⟨rfl,h₅⟩)) fun o1_ o2_ h'=>h')) fun o1_ o2_ h'=>h'))
end
noncomputable def CTest{sc:Scope}(c:Cx sc)(env:Env)(m:Mp)(l:Led)(elt:PySem.Expr)(P:VP)(N:Led→Prop):List PySem.Expr→Prop
 |[]=>TE c env m l elt P
 |[t]=>TT c env m l t (fun b l'=>if b then TE c env m l' elt P else N l')
 |_=>False
noncomputable def AsgB{sc:Scope}(c:Cx sc)(env:Env)(scope:Scope)(cl:List (Str×Addr))(tgt:PySem.Expr)(Pv:Nat→Value→Heap→Prop)(Bd:Nat→Mp→Prop):Prop:=
 ∀i v C mC (s:Shared) (Q:Unit→Shared→Prop) (E:Value→Shared→Prop),Pv i v s.heap→s.heap.Ns C mC→
  (∀h' tk' mC',(∀b o,b≠C→s.heap.get? b=some o→h'.get? b=some o)→h'.Ns C mC'→Bd i mC'→Q () ⟨h',s.gens,s.drawn,tk',s.os⟩)→wpAny (MD c.w) c.A (assign tgt (compEnvC scope cl C env) v) Q E s
section
variable {sc:Scope} {c:Cx sc} {env:Env} {m:Mp} {l:Led} {P:VP}
open LCg in
end
theorem KT.name{sc:Scope}{c:Cx sc}{x:Str}{p:Pos}{I:Addr}{fp wr:List Addr}{n:Nat}{P:Nat→Value→Prop}{St:Nat→Heap→Prop}(W:Walks PRG c.w c.A I fp wr n P St)
  (hgo:∀i v (s:Shared) (Q:Unit→Shared→Prop) (E:Value→Shared→Prop),St i s.heap→Q () s→wpAny (MD c.w) c.A (letOwnedTupleGo (.Name x p) (.ref I) v) Q E s):
  PySem.W.KTurns PRG c.w c.A (.Name x p) I fp wr n (fun i v o1_=>P i v) (fun i v h=>P i v∧St (i+1) h) St:=PySem.W.KTurns.ofWalks W hgo
section
variable {sc:Scope} {c:Cx sc} {env:Env} {m:Mp} {l:Led} {P:VP} {d:Nat}
noncomputable abbrev rangeO(a b:Int)(t u v:Tok):Obj:={cls:= .type "range",dict:=none,data:= .fields #[.int a t,.int b u,.int 1 v],slots:=#[]}
theorem TC.range1{k:Int}{t:Tok}(h:∀r t1 u1 v1 l',(r,rangeO 0 k t1 u1 v1)∈l'→Sub l l'→FreshAt r l→P (.ref r) l'):TC c m l (.type "range") [.int k t] P:=fun s Q E F N q=>by
 refine range1_rows F N fun h' tk t1 u1 v1 hr F' N' o1_=>?_
 refine q _ ((s.heap.objs.size,rangeO 0 k t1 u1 v1)::l) _ _ (h _ _ _ _ _ (.head _) Sub.cons fun p hp=>Nat.ne_of_lt (Heap.lt_size (N p hp).1)) F' fun p hp=>?_
 rcases List.mem_cons.mp hp with e |hp
 ·rw[e];exact⟨hr,fun e=>absurd F.ns.lt (e▸Nat.lt_irrefl _),next_is_new F⟩
 ·exact N' p hp
theorem AsgB.name{x:Str}{px:Pos}{scope:Scope}{cl:List (Str×Addr)}{Pv:Nat→Value→Heap→Prop}{Bd:Nat→Mp→Prop}(hkind:scope.kind= .function)(hx:scope.names.lookup x=some .local)
  (hb:∀i v h mC,Pv i v h→mC x=some v→Bd i mC):AsgB c env scope cl (.Name x px) Pv Bd:=fun i v C mC s Q E hP hn q=>by
 refine wpAny_assign_Name (wpAny_storeName_local (lookup_relabel_local hx) hn (fun h' hn' hs'=>?_) (by simp[compEnvC,relabel,hkind]))
 exact q h' _ _ (fun b o hb e=>hs'.extBut b o hb e) hn' (hb i v _ _ hP (by simp))
theorem AsgB.pair{x y:Str}{px py tp:Pos}{kk:Nat}{scope:Scope}{cl:List (Str×Addr)}{Pv:Nat→Value→Heap→Prop}{Bd:Nat→Mp→Prop}(hkind:scope.kind= .function)(hx:scope.names.lookup x=some .local)(hy:scope.names.lookup y=some .local)(hxy:x≠y)
  (hP:∀i v h,Pv i v h→∃T a b,v= .ref T∧h.IsTuple T #[a,b]∧∀mC,mC x=some a→mC y=some b→Bd i mC):AsgB c env scope cl (.Tuple [.Name x px,.Name y py] kk tp) Pv Bd:=fun i v C mC s Q E hv hn q=>by
 obtain⟨T,a,b,rfl,hT,hbd⟩:=hP i v _ hv
 refine assign_Tuple_tuple (by rfl) (show IsTup s.heap T #[a,b] from hT) rfl rfl fun h1 he=>?_
 have hC:C≠s.heap.objs.size:=by obtain⟨o,es,ep,e,o1_⟩:=hn;exact Nat.ne_of_lt (Heap.lt_size e)
 have hn1:h1.Ns C mC:=hn.at' fun o e=>he _ _ hC e
 have hk1:∀b o,b≠C→s.heap.get? b=some o→h1.get? b=some o:=fun b o o1_ e=>he _ _ (Nat.ne_of_lt (Heap.lt_size e)) e
 refine assignInOrder_cons (assign_Name ?_)
 refine wpAny_storeName_local (lookup_relabel_local hx) hn1 (fun h2 hn2 hs2=>?_) (by simp[compEnvC,relabel,hkind])
 refine assignInOrder_cons (assign_Name ?_)
 refine wpAny_storeName_local (lookup_relabel_local hy) hn2 (fun h3 hn3 hs3=>?_) (by simp[compEnvC,relabel,hkind])
 refine assignInOrder_nil ?_
 exact q h3 _ _ (fun b o hb e=>hs3.extBut b o hb (hs2.extBut b o hb (hk1 b o hb e))) hn3 (hbd _ (by simp[hxy]) (by simp))
noncomputable def TBs{sc:Scope}(c:Cx sc):List Str→List Value→Mp→Led→(Mp→Led→Prop)→Prop
 |x::xs,v::vs,m,l,K=>TB c m l x v (fun m' l'=>TBs c xs vs m' l' K)
 |_,_,m,l,K=>K m l
theorem tbs_order{K:Mp→Led→Prop}(xs:List (Str×Pos)):∀(vs:List Value) (m:Mp) (l:Led) (s:Shared) (Q:Unit→Shared→Prop) (E:Value→Shared→Prop),xs.length=vs.length→TBs c (xs.map (·.1)) vs m l K→Fr c.h₀ c.L s.heap m→News c.h₀ c.L s.heap l→
  (∀m' l' h' tk',K m' l'→Fr c.h₀ c.L h' m'→News c.h₀ c.L h' l'→Q () ⟨h',s.gens,s.drawn,tk',s.os⟩)→
  wpAny (MD c.w) c.A (assignInOrder ((assignEach (xs.map fun y=>PySem.Expr.Name y.1 y.2) c.env).map (·.2)) vs) Q E s:=by
 induction xs with
 |nil=>
  intro vs m l s Q E hl h F N q
  induction vs using List.casesOn with
  |nil=>exact assignInOrder_nil (q m l s.heap s.toks h F N)
  |cons v vs=>simp at hl
 |cons x xs ih=>
  intro vs m l s Q E hl h F N q
  induction vs using List.casesOn with
  |nil=>simp at hl
  |cons v vs=>
   refine assignInOrder_cons (assign_Name (h s _ E F N fun m' l' h' tk' h2 F' N'=>?_))
   exact ih vs m' l' _ _ E (by simpa using hl) h2 F' N' q
end
noncomputable abbrev zipO(TI TO:Addr):Obj:={cls:= .type "zip",dict:=none,data:= .fields #[.none,.bool false,.bool false,.ref TI,.ref TO],slots:=#[]}
structure ZipAt(l:Led)(z a1 a2:Addr)(TI TO i1 i2:Addr)(o1 o2:Obj):Prop where
 mz:(z,zipO TI TO)∈l
 mI:(TI,({cls:= .type "tuple",data:= .seq #[.ref i1,.ref i2]}:Obj))∈l
 mO:(TO,({cls:= .type "tuple",data:= .seq #[.none,.none]}:Obj))∈l
 m1:(i1,o1)∈l
 m2:(i2,o2)∈l
 d1:o1.cls= .type "list_iterator" ∧o1.data= .fields #[.ref a1,.int 0 0]
 d2:o2.cls= .type "list_iterator" ∧o2.data= .fields #[.ref a2,.int 0 0]
 ap:ZipApart z TI TO i1 i2 a1 a2
theorem KT.map{prog:Program}{w:World}{A:Around}{target:PySem.Expr}{I:Addr}{fp wr:List Addr}{n:Nat}{P P' Md:Nat→Value→Heap→Prop}{St:Nat→Heap→Prop}(K:PySem.W.KTurns prog w A target I fp wr n P Md St)(k:∀i v h,P i v h→P' i v h):
  PySem.W.KTurns prog w A target I fp wr n P' Md St:=
 {sub:=K.sub,frame:=K.frame,item:=K.item,done:=K.done,go:=fun i v s Q E hm hQ=>K.go i v s Q E hm fun h' hP hst hk=>hQ h' (k i v h' hP) hst hk}
section
variable {sc:Scope} {c:Cx sc} {env:Env} {m:Mp} {l:Led} {P:VP} {d:Nat}
theorem TE.call0{f:Str}{fp pos:Pos}{fa:Addr}(ok:Cok c d)(df:EV c env m l (.Name f fp) (.ref fa))(hk:keepIn (Mine.K c.w.params) (.ref fa)=true)(h:TC c m l (.ref fa) [] P)
  (h1:eval (PySem.Expr.Call (.Name f fp) [] [] pos) env=(do
     let v ←eval (.Name f fp) env
     callWith pos v [] (backTo pos (starEach [] env)) (backToKw pos (keywordEach [] env)))):TE c env m l (.Call (.Name f fp) [] [] pos) P:=fun s Q E F N q=>by
 refine Call_ (df s _ E F N fun v l' h' tk' ⟨e1,e2⟩ F' N'=>?_) h1
 subst e1;subst e2
 exact callWith_K0 (first:=[]) (ok.X.keeps F'.keep) hk (h _ Q E F' N' q)
theorem BinOk.pow{x y:Int}{K:Value→Led→Prop}(h0:0≤y)(hz:(intBits x:Int)*y≤2^27)(h:∀t,K (.int (x^y.toNat) t) l):BinOk c .Pow x y K l:=⟨_,fun o1_ o2_ o3_ o4_ o5_ q=>pow_int h0 hz (q _ _),h⟩
end
noncomputable abbrev ConG(w:World)(f:Addr)(d:Nat)(news:Led)(vs:List Value)(RR:VP):Prop:=
 Con w f d news vs fun h₀ L m s Q=>∀(v:Value) (l':Led) (h':Heap) (tk':Nat),RR v l'→Fr h₀ L h' m→News h₀ L h' l'→Q v {s with heap:=h',toks:=tk'}
theorem TC.gen{sc:Scope}{c:Cx sc}{m:Mp}{l:Led}{P:VP}{d:Nat}{f:Addr}{vs:List Value}{n:Nat}{RR:VP}(ok:Cok c d)(h:ConG c.w f n l vs RR)(hd:n≤d)(k:∀v l',RR v l'→P v l'):TC c m l (.ref f) vs P:=fun s Q E F N q=>
 h ok.B F ok.X N ok.T ok.G ok.k (by have:=ok.D;exact lN 0xf4023a12114211cf4423a12e4 hd this) (by have:=ok.U;exact lN 0xfa0140408e848450a073e80511023a12e4 hd this) fun v l' h' tk' a F' N'=>q _ _ _ _ (k v l' a) F' N'
section
variable {w:World} {f:Addr} {d:Nat} {news:Led} {vs:List Value} {name qual:Str} {params:Arguments} {body:List Stmt} {scope:Scope} {dV kV doc pm cdv ct oc:Value} {an od:Option Addr} {osl:Array (Option Value)} {binds:List (Str×Value)}
end
section
variable {sc:Scope} {c:Cx sc} {env:Env} {m:Mp} {l:Led} {P:VP} {R:VP} {N:Mp→Led→Prop} {d:Nat}
theorem TE.subT{e ix:PySem.Expr}{pos:Pos}(h:TE c env m l e (fun v l'=>∃a,v= .ref a∧TE c env m l' ix (fun w l''=>∃k t u,w= .int k t∧GetIt c m l'' a k u∧P u l'')))
  (hs:∀(a:Addr) (k:Int) (u:Tok),subscripted ix false (Value.ref a) (Value.int k u)=operate [Value.ref a,Value.int k u] (getItem (Value.ref a) (Value.int k u))):TE c env m l (.Subscript e ix pos) P:=fun s Q E F N q=>by
 refine Subscript_ (h s _ E F N fun v l' h' tk' ⟨a,e1,p⟩ F' N'=>?_)
 subst e1
 refine p _ _ E F' N' fun w l'' h'' tk'' ⟨k,t,u,e1,hg,hp⟩ F'' N''=>?_
 subst e1
 exact hg _ _ _ _ _ _ hs F'' N'' (q _ _ _ _ hp F'' N'')
theorem TT.mono{e:PySem.Expr}{B B':Bool→Led→Prop}(h:TT c env m l e B)(k:∀b l',B b l'→B' b l'):TT c env m l e B':=fun s Q E F N9 q=>h s Q E F N9 fun b l' h' tk' a F' N''=>q b l' h' tk' (k _ _ a) F' N''
theorem TC.intB{b:Bool}(h:∀t,P (.int (if b then 1 else 0) t) l):TC c m l (.type "int") [.bool b] P:=fun s Q E F N q=>by
 refine call_int_bool ?_
 exact q _ _ _ _ (h _) F N
theorem reads_ints{h:Heap}:∀{vs:List Value} {ns:List Int},IntsAre vs ns→ReadsAll h vs (ns.map .int) []
 |_,_,.nil=> .nil
 |_,_,.cons k t hh=> .cons (.int _ _) (reads_ints hh)
end
theorem wpAny_newEnvX{M:Model}{A:Around}{E:Value→Shared→Prop}{s:Shared}{scope:Scope}{globals:Addr}{cl:List (Str×Addr)}{qual:Str}{env:Env}{x:Str}{Q:Env→Shared→Prop}(hc:∀k,cellsFrom k scope.names cl=(x,k)::cl)
  (hp:∀h,pushCells h scope.names=h.push {cls:= .type "cell",data:= .cell none})
  (h:Q {scope,locals:=s.heap.objs.size,globals,cells:=(x,s.heap.objs.size+1)::cl,qual,func:=none,code:=env.code,frame:=env.frame,builtins:=env.builtins} {s with heap:=(s.heap.push {cls:= .type "dict",data:= .dict #[]}).push {cls:= .type "cell",data:= .cell none}}):
  wpAny M A (newFunctionEnv scope globals cl [] qual none .none (some env)) Q E s:=by
 simp only[newFunctionEnv,Option.isSome_some,if_true]
 refine wpAny_bind (wpAny_alloc ?_)
 refine wpAny_bind (wpAny_layCells _ (fun name kind cells=>by cases hkc:kind==NameKind.cell <;> simp[hkc]) _ _ _ _ ?_)
 rw[show({s with heap:=s.heap.push {cls:= .type "dict",data:= .dict #[]}}:Shared).heap.objs.size=s.heap.objs.size+1 from Heap.size_push ..]
 rw[hc,hp]
 exact wpAny_pure h
theorem lookup_relabel_cell{env:Env}{scope:Scope}{cl:List (Str×Addr)}{C:Addr}{x:Str}(h:scope.names.lookup x=some .cell):(compEnvC scope cl C env).kindOf x=some .cell:=by
 show(scope.names.map fun(n,k)=>if(k==NameKind.free&&env.scope.kind == .function&&env.kindOf n==some .cell) then(n,NameKind.cell) else(n,k)).lookup x=some .cell
 generalize scope.names=names at h
 induction names with
 |nil=>simp at h
 |cons a r ih=>
  obtain⟨n,k⟩:=a
  by_cases e:x=n
  ·subst e
   have hk:k= .cell:=by simpa using h
   subst hk
   simp
  ·have e':(x==n)=false:=by simpa using e
   rw[List.lookup_cons,e'] at h
   rw[List.map_cons,List.lookup_cons]
   split
   ·rename_i q;split at q <;> simp[e] at q
   ·exact ih h
section
variable {sc:Scope} {c:Cx sc} {env:Env} {m:Mp} {l:Led} {P:VP}
open LCg in
theorem EV.ownE{e0:Env}{scope:Scope}{cl:List (Str×Addr)}{C:Addr}{oC:Obj}{m₂:Mp}{x:Str}{pos:Pos}{u:Value}(hC:(C,oC)∈l)(hn:LCg.NsObj oC m₂)(hx:m₂ x=some u)(hk1:(compEnvC scope cl C e0).scope.kind= .function)
  (hk2:(compEnvC scope cl C e0).kindOf x=some .local)(hd:(x==Str.ofString "__debug__")=false):EV c (compEnvC scope cl C e0) m l (.Name x pos) u:=fun s Q E F N q=>LCgL.ld_own N hC hn hx (q _ _ _ s.toks ⟨rfl,rfl⟩ F N) hk1 hk2 hd
theorem EV.globE{d:Nat}{e0:Env}{scope:Scope}{cl:List (Str×Addr)}{C:Addr}{x:Str}{pos:Pos}{u:Value}(ok:Cok c d)(hm:nsIn (Mine.K c.w.params) mainGlobals x=some (some u))(hg:e0.globals=mainGlobals)(hk1:(compEnvC scope cl C e0).scope.kind= .function)
  (hk2:(compEnvC scope cl C e0).kindOf x=some .globalImplicit)(hd:(x==Str.ofString "__debug__")=false):EV c (compEnvC scope cl C e0) m l (.Name x pos) u:=fun s Q E F N q=>ldg_R F ok.X ok.T hm (q _ _ _ s.toks ⟨rfl,rfl⟩ F N) hg hk1 hk2 hd
theorem EV.builtE{d:Nat}{e0:Env}{scope:Scope}{cl:List (Str×Addr)}{C:Addr}{x:Str}{pos:Pos}{u:Value}(ok:Cok c d)(hm:nsIn (Mine.K c.w.params) mainGlobals x=some none)(hv:bootBuiltins x=some u)(hn:x≠Str.ofString "__name__") (hg:e0.globals=mainGlobals) (hb:e0.builtins=builtinsNs) (hk1:(compEnvC scope cl C e0).scope.kind= .function)
  (hk2:(compEnvC scope cl C e0).kindOf x=some .globalImplicit)(hd:(x==Str.ofString "__debug__")=false):EV c (compEnvC scope cl C e0) m l (.Name x pos) u:=fun s Q E F N q=>ldb_R F ok.X ok.T hm hv hn (q _ _ _ s.toks ⟨rfl,rfl⟩ F N) hg hb hk1 hk2 hd
theorem EV.freeE{e0:Env}{scope:Scope}{cl:List (Str×Addr)}{C a:Addr}{o:Obj}{x:Str}{pos:Pos}{u:Value}(hc:cl.lookup x=some a)(hm:(a,o)∈l)(ho:o.data= .cell (some u))(hk1:(compEnvC scope cl C e0).scope.kind= .function)
  (hk2:(compEnvC scope cl C e0).kindOf x=some .free)(hd:(x==Str.ofString "__debug__")=false)(hcd:(x==Str.ofString "__classdict__")=false):EV c (compEnvC scope cl C e0) m l (.Name x pos) u:=fun s Q E F N q=>lcf_free N hc hm ho (q _ _ _ s.toks ⟨rfl,rfl⟩ F N) hk1 hk2 hd hcd
theorem EV.cellE{e0:Env}{scope:Scope}{cl:List (Str×Addr)}{C a:Addr}{o:Obj}{x:Str}{pos:Pos}{u:Value}(hc:cl.lookup x=some a)(hm:(a,o)∈l)(ho:o.data= .cell (some u))(hk1:(compEnvC scope cl C e0).scope.kind= .function)
  (hk2:(compEnvC scope cl C e0).kindOf x=some .cell)(hd:(x==Str.ofString "__debug__")=false):EV c (compEnvC scope cl C e0) m l (.Name x pos) u:=fun s Q E F N q=>lcf_cell N hc hm ho (q _ _ _ s.toks ⟨rfl,rfl⟩ F N) hk1 hk2 hd
end
theorem typeCall_zip_3(a b c:Value):checkTypeCall "zip" ⟨[a,b,c],[]⟩=pure ():=by kernel_rfl
theorem newCall_zip_3(a b c:Value):checkBuiltinCall "zip.__new__" ⟨[.type "zip",a,b,c],[]⟩=pure ():=by kernel_rfl
theorem args_object_init_4(a b c d:Value):argsOk "object.__init__" ⟨[a,b,c,d],[]⟩:=by
 unfold argsOk;rw[signature?_of (id:= "object.__init__") (n:=['_','_','t','i','n','i','_','_']) (o:=['t','c','e','j','b','o']) (by kernel_rfl) F.owner_object];kernel_rfl
noncomputable abbrev IsTri(h:Heap)(T:Addr)(a b c:Value):Prop:=h.get? T=some {cls:= .type "tuple",data:= .seq #[a,b,c]}
section
variable {prog:Program} {w:World} {A:Around} {E:Value→Shared→Prop} {s:Shared}
theorem nextOf_tuple_item{it t:Addr}{i:Nat}{items:Array Value}{x:Value}{Q:Value→Shared→Prop}(hit:s.heap.IsTupleIter it t i)(ht:s.heap.IsTuple t items)(hx:items[i]?=some x)
  (hQ:∀h',h'.IsTupleIter it t (i+1)→Heap.SameBut it s.heap h'→Q x {s with heap:=h'}):wpAny (model prog w) A (Builtin.SmallTypes.nextOf (.ref it)) Q E s:=by
 obtain⟨o,ho,hc,hd⟩:=id hit
 obtain⟨ol,hol,o1_,nl,hdl⟩:=ht
 unfold Builtin.SmallTypes.nextOf
 refine wpAny_bind (wpAny_callSpecial?_slot (name:=Str.ofString "__next__") hit.typeIs F.slot_tuple_iterator_next
  (wpAny_call_entry F.slot_tuple_iterator_next hit.typeIs F.entry_tuple_iterator_next ?_ (F.args_tuple_iterator_next_1 _)))
 show wpAny _ _ (field (.ref it) 0>>=_) _ _ s
 refine wpAny_bind (wpAny_field ho hd (x:= .ref t) rfl ?_)
 show wpAny _ _ (if(Value.ref t==Value.none)=true then _ else _) _ _ s
 rw[if_neg (show ¬((Value.ref t==Value.none)=true) from Bool.false_ne_true)]
 show wpAny _ _ (field (.ref it) 1>>=_) _ _ s
 refine wpAny_bind (wpAny_field ho hd (x:= .int i 0) rfl ?_)
 show wpAny _ _ (seqItems? (.ref t)>>=_) _ _ s
 refine wpAny_bind (wpAny_seqItems hol hdl ?_)
 simp only[Int.toNat_natCast,hx]
 refine wpAny_bind (wpAny_setField ho hd (by simp) (wpAny_pure ⟨x,rfl,wpAny_pure (hQ _ ?_ (Heap.SameBut.update ..))⟩))
 exact⟨_,Heap.get?_update_self _ ho (Obj.isFreed_of_fields (Obj.data_mapFields hd _)),(Obj.cls_mapFields ..).trans hc,by rw[Obj.data_mapFields hd];simp[rawInt]⟩
theorem nextOf_tuple_end{it t:Addr}{i:Nat}{items:Array Value}{Q:Value→Shared→Prop}(hh:A.handled=none)(hit:s.heap.IsTupleIter it t i)(ht:s.heap.IsTuple t items)(hx:items[i]?=none)
  (hE:∀h' e,Heap.ExtBut it s.heap h'→(∃o,h'.get? e=some o∧o.cls= .type "StopIteration")→E (.ref e) {s with heap:=h'}):wpAny (model prog w) A (Builtin.SmallTypes.nextOf (.ref it)) Q E s:=by
 obtain⟨o,ho,hc,hd⟩:=id hit
 obtain⟨ol,hol,o1_,nl,hdl⟩:=ht
 unfold Builtin.SmallTypes.nextOf
 refine wpAny_bind (wpAny_callSpecial?_slot (name:=Str.ofString "__next__") hit.typeIs F.slot_tuple_iterator_next
  (wpAny_call_entry F.slot_tuple_iterator_next hit.typeIs F.entry_tuple_iterator_next ?_ (F.args_tuple_iterator_next_1 _)))
 show wpAny _ _ (field (.ref it) 0>>=_) _ _ s
 refine wpAny_bind (wpAny_field ho hd (x:= .ref t) rfl ?_)
 show wpAny _ _ (if(Value.ref t==Value.none)=true then _ else _) _ _ s
 rw[if_neg (show ¬((Value.ref t==Value.none)=true) from Bool.false_ne_true)]
 show wpAny _ _ (field (.ref it) 1>>=_) _ _ s
 refine wpAny_bind (wpAny_field ho hd (x:= .int i 0) rfl ?_)
 show wpAny _ _ (seqItems? (.ref t)>>=_) _ _ s
 refine wpAny_bind (wpAny_seqItems hol hdl ?_)
 simp only[Int.toNat_natCast,hx]
 refine wpAny_bind (wpAny_rule (wpAny_bind (wpAny_setField ho hd (by simp) ?_)))
 show wpAny _ _ (newExc (.type "StopIteration") []>>=_) _ _ _
 refine wpAny_bind ?_
 simp only[newExc,newTuple]
 refine wpAny_bind (wpAny_newObj_type ?_ (by size_fits))
 refine wpAny_bind (m:=firstArgMember _ _) (wpAny_of_eq (a:=Value.none) (by first |rfl |(simp only[firstArgMember];rfl)) ?_)
 refine wpAny_newObj_type ?_ (by size_fits)
 simp only[raiseNew]
 refine wpAny_bind (wpAny_handled ?_)
 first |rw[show A.in1.handled=none from hh] |rw[hh]
 refine wpAny_bind (wpAny_pure (wpAny_throw ?_))
 exact hE _ _ (((Heap.SameBut.update ..).extBut.push _).push _) ⟨_,Heap.get?_push_size _ rfl,rfl⟩
theorem updateSeq_tri{T:Addr}{a b c x:Value}{k:Nat}{Q:Unit→Shared→Prop}(hT:IsTri s.heap T a b c)
  (h:∀h',h'.get? T=some {cls:= .type "tuple",data:= .seq ((#[a,b,c]:Array Value).setIfInBounds k x)}→Heap.SameBut T s.heap h'→Q () {s with heap:=h'}):
  wpAny (model prog w) A (updateSeq T (·.setIfInBounds k x)) Q E s:=by
 refine wpAny_updateSeq hT rfl (h _ ?_ (Heap.SameBut.update ..))
 rw[Heap.get?_update_self _ hT rfl]
 simp[Obj.mapSeq]
structure Z3(z TI TO i1 i2 i3 a1 a2 a3:Addr):Prop where
 TIz:TI≠z
 TOz:TO≠z
 i1z:i1≠z
 i2z:i2≠z
 i3z:i3≠z
 TITO:TI≠TO
 TIi1:TI≠i1
 TIi2:TI≠i2
 TIi3:TI≠i3
 TOi1:TO≠i1
 TOi2:TO≠i2
 TOi3:TO≠i3
 i12:i1≠i2
 i13:i1≠i3
 i23:i2≠i3
 src:∀a,a=a1∨a=a2∨a=a3→a≠z∧a≠TO∧a≠i1∧a≠i2∧a≠i3
theorem zip3_next{z TI TO i1 i2 i3 a1 a2 a3:Addr}{k:Nat}{xs ys us:Array Value}{x y u a b d:Value}{Q:Value→Shared→Prop}(D:Z3 z TI TO i1 i2 i3 a1 a2 a3)
  (hz:IsZip s.heap z TI TO .none)(hTI:IsTri s.heap TI (.ref i1) (.ref i2) (.ref i3))(hTO:IsTri s.heap TO a b d)
  (h1:s.heap.IsTupleIter i1 a1 k)(h2:s.heap.IsTupleIter i2 a2 k)(h3:s.heap.IsTupleIter i3 a3 k)(l1:s.heap.IsTuple a1 xs)(l2:s.heap.IsTuple a2 ys)(l3:s.heap.IsTuple a3 us)(hx:xs[k]?=some x)(hy:ys[k]?=some y)(hu:us[k]?=some u)
  (hQ:∀h',IsZip h' z TI TO (rawInt s.heap.objs.size)→IsTri h' TO x y u→h'.IsTupleIter i1 a1 (k+1)→h'.IsTupleIter i2 a2 (k+1)→h'.IsTupleIter i3 a3 (k+1)→IsTri h' s.heap.objs.size x y u→
   (∀c o,c≠z→c≠TO→c≠i1→c≠i2→c≠i3→s.heap.get? c=some o→h'.get? c=some o)→Q (.ref s.heap.objs.size) {s with heap:=h'}):
  wpAny (model prog w) A (Builtin.«zip.__next__» ⟨[.ref z],[]⟩) (fun fin s'=>∃v,fin= .done (.ret v)∧Q v s') E s:=by
 obtain⟨a1z,a1O,a11,a12,a13⟩:=D.src a1 (.inl rfl)
 obtain⟨a2z,a2O,a21,a22,a23⟩:=D.src a2 (.inr (.inl rfl))
 obtain⟨a3z,a3O,a31,a32,a33⟩:=D.src a3 (.inr (.inr rfl))
 show wpAny _ _ (field (.ref z) 2>>=_) _ _ _
 refine wpAny_bind (wpAny_field hz rfl (x:= .bool false) rfl ?_)
 show wpAny _ _ (field (.ref z) 3>>=_) _ _ _
 refine wpAny_bind (wpAny_field hz rfl (x:= .ref TI) rfl ?_)
 refine wpAny_bind (wpAny_seqItems hTI rfl ?_)
 show wpAny _ _ (Builtin.SmallTypes.ownedTupleIsFree (.ref z)>>=_) _ _ _
 refine wpAny_bind ?_
 unfold Builtin.SmallTypes.ownedTupleIsFree
 refine wpAny_bind (wpAny_field hz rfl (x:= .none) rfl (wpAny_pure ?_))
 simp only[if_true]
 refine wpAny_bind (wpAny_rule ?_)
 refine wpAny_bind (wpAny_field hz rfl (x:= .ref TO) rfl ?_)
 refine wpAny_bind (wpAny_setField_rec hz (by simp) fun g1 hz1 s1=>?_)
 replace hz1:IsZip g1 z TI TO .ellipsis:=hz1
 refine wpAny_bind ?_
 simp only[List.zipIdx_cons,List.zipIdx_nil,List.forIn_cons,List.forIn_nil]
 refine wpAny_bind (wpAny_bind (wpAny_onRaise ?_))
 show wpAny _ _ (Builtin.SmallTypes.nextOf (.ref i1)>>=_) _ _ _
 refine wpAny_bind (nextOf_tuple_item (h1.extBut s1.extBut D.i1z) (l1.extBut s1.extBut a1z) hx fun g2 j1 s2=>wpAny_pure ?_)
 have O2:IsTri g2 TO a b d:=s2.extBut _ _ D.TOi1 (s1.extBut _ _ D.TOz hTO)
 refine wpAny_bind (wpAny_seqItems O2 rfl ?_)
 refine wpAny_bind (updateSeq_tri O2 fun g3 O3 s3=>?_)
 replace O3:IsTri g3 TO x b d:=O3
 refine wpAny_bind (wpAny_letGo (wpAny_pure ?_))
 refine wpAny_bind (wpAny_bind (wpAny_onRaise ?_))
 show wpAny _ _ (Builtin.SmallTypes.nextOf (.ref i2)>>=_) _ _ _
 refine wpAny_bind (nextOf_tuple_item (((h2.extBut s1.extBut D.i2z).extBut s2.extBut D.i12.symm).extBut s3.extBut D.TOi2.symm) (((l2.extBut s1.extBut a2z).extBut s2.extBut a21).extBut s3.extBut a2O) hy fun g4 j2 s4=>wpAny_pure ?_)
 have O4:IsTri g4 TO x b d:=s4.extBut _ _ D.TOi2 O3
 refine wpAny_bind (wpAny_seqItems O4 rfl ?_)
 refine wpAny_bind (updateSeq_tri O4 fun g5 O5 s5=>?_)
 replace O5:IsTri g5 TO x y d:=O5
 refine wpAny_bind (wpAny_letGo (wpAny_pure ?_))
 refine wpAny_bind (wpAny_bind (wpAny_onRaise ?_))
 show wpAny _ _ (Builtin.SmallTypes.nextOf (.ref i3)>>=_) _ _ _
 refine wpAny_bind (nextOf_tuple_item (((((h3.extBut s1.extBut D.i3z).extBut s2.extBut D.i13.symm).extBut s3.extBut D.TOi3.symm).extBut s4.extBut D.i23.symm).extBut s5.extBut D.TOi3.symm) (((((l3.extBut s1.extBut a3z).extBut s2.extBut a31).extBut s3.extBut a3O).extBut s4.extBut a32).extBut s5.extBut a3O) hu fun g6 j3 s6=>wpAny_pure ?_)
 have O6:IsTri g6 TO x y d:=s6.extBut _ _ D.TOi3 O5
 refine wpAny_bind (wpAny_seqItems O6 rfl ?_)
 refine wpAny_bind (updateSeq_tri O6 fun g7 O7 s7=>?_)
 replace O7:IsTri g7 TO x y u:=O7
 refine wpAny_bind (wpAny_letGo (wpAny_pure (wpAny_pure ?_)))
 refine wpAny_bind (wpAny_seqItems O7 rfl ?_)
 refine wpAny_bind (wpAny_newTuple ?_)
 have hsz:g7.objs.size=s.heap.objs.size:=by rw[s7.1,s6.1,s5.1,s4.1,s3.1,s2.1,s1.1]
 have Z7:IsZip g7 z TI TO .ellipsis:=s7.extBut _ _ D.TOz.symm (s6.extBut _ _ D.i3z.symm (s5.extBut _ _ D.TOz.symm (s4.extBut _ _ D.i2z.symm (s3.extBut _ _ D.TOz.symm (s2.extBut _ _ D.i1z.symm hz1)))))
 have hk7:∀c o,c≠z→c≠TO→c≠i1→c≠i2→c≠i3→s.heap.get? c=some o→g7.get? c=some o:=fun c o c1 c2 c3 c4 c5 e=>
  s7.extBut _ _ c2 (s6.extBut _ _ c5 (s5.extBut _ _ c2 (s4.extBut _ _ c4 (s3.extBut _ _ c2 (s2.extBut _ _ c3 (s1.extBut _ _ c1 e))))))
 have J1:g7.IsTupleIter i1 a1 (k+1):=((((j1.extBut s3.extBut D.TOi1.symm).extBut s4.extBut D.i12).extBut s5.extBut D.TOi1.symm).extBut s6.extBut D.i13).extBut s7.extBut D.TOi1.symm
 have J2:g7.IsTupleIter i2 a2 (k+1):=((j2.extBut s5.extBut D.TOi2.symm).extBut s6.extBut D.i23).extBut s7.extBut D.TOi2.symm
 have J3:g7.IsTupleIter i3 a3 (k+1):=j3.extBut s7.extBut D.TOi3.symm
 have hzlt:z<g7.objs.size:=Heap.lt_size Z7
 show wpAny _ _ (Builtin.SmallTypes.ownedTupleHandOut (.ref z) (.ref g7.objs.size)>>=_) _ _ _
 refine wpAny_bind ?_
 unfold Builtin.SmallTypes.ownedTupleHandOut
 have Z8:IsZip (g7.push {cls:= .type "tuple",data:= .seq #[x,y,u]}) z TI TO .ellipsis:=Heap.get?_push_of_some _ Z7
 refine wpAny_bind (wpAny_setField_rec Z8 (by simp) fun g9 Z9 s9=>?_)
 replace Z9:IsZip g9 z TI TO (rawInt g7.objs.size):=Z9
 refine wpAny_setField_rec Z9 (by simp) fun g10 Z10 s10=>?_
 replace Z10:IsZip g10 z TI TO (rawInt g7.objs.size):=Z10
 have up:∀c o,c≠z→g7.get? c=some o→g10.get? c=some o:=fun c o c1 e=>s10.extBut _ _ c1 (s9.extBut _ _ c1 (Heap.get?_push_of_some _ e))
 have T10:IsTri g10 g7.objs.size x y u:=s10.extBut _ _ (Nat.ne_of_gt hzlt) (s9.extBut _ _ (Nat.ne_of_gt hzlt) (Heap.get?_push_size _ rfl))
 rw[hsz] at Z10 T10
 refine wpAny_pure ⟨_,rfl,?_⟩
 show Q (.ref g7.objs.size) _
 rw[hsz]
 exact hQ g10 Z10 (up _ _ D.TOz O7) (J1.at fun o e=>up _ o D.i1z e) (J2.at fun o e=>up _ o D.i2z e) (J3.at fun o e=>up _ o D.i3z e) T10 fun c o c1 c2 c3 c4 c5 e=>up c o c1 (hk7 c o c1 c2 c3 c4 c5 e)
theorem zip3_end{z TI TO i1 i2 i3 a1 a2 a3:Addr}{k:Nat}{xs:Array Value}{a b d:Value}{Q:Fin→Shared→Prop}(hh:A.handled=none)(D:Z3 z TI TO i1 i2 i3 a1 a2 a3)
  (hz:IsZip s.heap z TI TO .none)(hTI:IsTri s.heap TI (.ref i1) (.ref i2) (.ref i3))(hTO:IsTri s.heap TO a b d)
  (h1:s.heap.IsTupleIter i1 a1 k)(l1:s.heap.IsTuple a1 xs)(hx:xs[k]?=none)
  (hE:∀h' e,(∀c o,c≠z→c≠TO→c≠i1→c≠i2→c≠i3→s.heap.get? c=some o→h'.get? c=some o)→(∃o,h'.get? e=some o∧o.cls= .type "StopIteration")→E (.ref e) {s with heap:=h'}):
  wpAny (model prog w) A (Builtin.«zip.__next__» ⟨[.ref z],[]⟩) Q E s:=by
 obtain⟨a1z,a1O,a11,a12,a13⟩:=D.src a1 (.inl rfl)
 show wpAny _ _ (field (.ref z) 2>>=_) _ _ _
 refine wpAny_bind (wpAny_field hz rfl (x:= .bool false) rfl ?_)
 show wpAny _ _ (field (.ref z) 3>>=_) _ _ _
 refine wpAny_bind (wpAny_field hz rfl (x:= .ref TI) rfl ?_)
 refine wpAny_bind (wpAny_seqItems hTI rfl ?_)
 show wpAny _ _ (Builtin.SmallTypes.ownedTupleIsFree (.ref z)>>=_) _ _ _
 refine wpAny_bind ?_
 unfold Builtin.SmallTypes.ownedTupleIsFree
 refine wpAny_bind (wpAny_field hz rfl (x:= .none) rfl (wpAny_pure ?_))
 simp only[if_true]
 refine wpAny_bind (wpAny_rule ?_)
 refine wpAny_bind (wpAny_field hz rfl (x:= .ref TO) rfl ?_)
 refine wpAny_bind (wpAny_setField_rec hz (by simp) fun g1 hz1 s1=>?_)
 replace hz1:IsZip g1 z TI TO .ellipsis:=hz1
 refine wpAny_bind ?_
 simp only[List.zipIdx_cons,List.zipIdx_nil,List.forIn_cons,List.forIn_nil]
 refine wpAny_bind (wpAny_bind (wpAny_onRaise ?_))
 show wpAny _ _ (Builtin.SmallTypes.nextOf (.ref i1)>>=_) _ _ _
 refine wpAny_bind (nextOf_tuple_end hh (h1.extBut s1.extBut D.i1z) (l1.extBut s1.extBut a1z) hx fun g2 e s2 he=>?_)
 obtain⟨oe,hoe,hce⟩:=he
 have Z2:IsZip g2 z TI TO .ellipsis:=s2 _ _ D.i1z.symm hz1
 have hez:e≠z:=fun x=>by subst x;rw[Z2] at hoe;cases hoe;simp at hce
 refine wpAny_setField_rec Z2 (by simp) fun g3 o1_ s3=>hE g3 e (fun c o c1 o1_ c3 o2_ o3_ x=>s3.extBut _ _ c1 (s2 _ _ c3 (s1.extBut _ _ c1 x))) ⟨oe,s3.extBut _ _ hez hoe,hce⟩
theorem apart5{c a b d e f:Addr}(h:c∉[a,b,d,e,f]):(c≠a∧c≠b)∧(c≠d∧c≠e)∧c≠f:=
 ⟨⟨fun x=>h (x▸.head _),fun x=>h (x▸.tail _ (.head _))⟩,⟨fun x=>h (x▸.tail _ (.tail _ (.head _))),fun x=>h (x▸.tail _ (.tail _ (.tail _ (.head _))))⟩,fun x=>h (x▸.tail _ (.tail _ (.tail _ (.tail _ (.head _)))))⟩
theorem mem5{c a b d e f:Addr}(h:c∈[a,b,d,e,f])(h1:c≠a)(h2:c≠b)(h3:c≠d)(h4:c≠e)(h5:c≠f):False:=
 (List.mem_cons.mp h).elim h1 fun h=>(List.mem_cons.mp h).elim h2 fun h=>(List.mem_cons.mp h).elim h3 fun h=>(List.mem_cons.mp h).elim h4 fun h=>h5 (List.mem_singleton.mp h)
theorem WalksT.zip3(hh:A.handled=none)(z TI TO i1 i2 i3 a1 a2 a3:Addr)(D:Z3 z TI TO i1 i2 i3 a1 a2 a3)(xs ys us:Array Value)(e2:ys.size=xs.size)(e3:us.size=xs.size):
  WalksT prog w A z [z,TI,TO,i1,i2,i3,a1,a2,a3] [z,TO,i1,i2,i3] xs.size
   (fun i vals=>∃x y u,xs[i]?=some x∧ys[i]?=some y∧us[i]?=some u∧vals=#[x,y,u])
   (fun i h=>IsZip h z TI TO .none∧IsTri h TI (.ref i1) (.ref i2) (.ref i3)∧(∃a b d,IsTri h TO a b d)∧(h.IsTupleIter i1 a1 i∧h.IsTupleIter i2 a2 i∧h.IsTupleIter i3 a3 i)∧h.IsTuple a1 xs∧h.IsTuple a2 ys∧h.IsTuple a3 us)
   (fun i T h=>IsZip h z TI TO (rawInt T)∧IsTri h TI (.ref i1) (.ref i2) (.ref i3)∧(∃a b d,IsTri h TO a b d)∧(h.IsTupleIter i1 a1 (i+1)∧h.IsTupleIter i2 a2 (i+1)∧h.IsTupleIter i3 a3 (i+1))∧(h.IsTuple a1 xs∧h.IsTuple a2 ys∧h.IsTuple a3 us)∧
    T≠z∧T≠TO∧T≠i1∧T≠i2∧T≠i3) where
 sub:=fun c hc=>(List.mem_cons.mp hc).elim (fun e=>e▸.head _) fun hc=> .tail _ (.tail _ (List.mem_append_left [a1,a2,a3] hc))
 frame:=fun i h h' hst hk=>by
  obtain⟨hz,hTI,⟨a,b,d,hTO⟩,⟨h1,h2,h3⟩,l1,l2,l3⟩:=hst
  exact⟨hk z (.head _) _ hz,hk TI (.tail _ (.head _)) _ hTI,⟨a,b,d,hk TO (.tail _ (.tail _ (.head _))) _ hTO⟩,⟨h1.at fun o e=>hk i1 (.tail _ (.tail _ (.tail _ (.head _)))) o e,h2.at fun o e=>hk i2 (.tail _ (.tail _ (.tail _ (.tail _ (.head _))))) o e,h3.at fun o e=>hk i3 (.tail _ (.tail _ (.tail _ (.tail _ (.tail _ (.head _)))))) o e⟩,
   l1.at fun o e=>hk a1 (.tail _ (.tail _ (.tail _ (.tail _ (.tail _ (.tail _ (.head _))))))) o e,l2.at fun o e=>hk a2 (.tail _ (.tail _ (.tail _ (.tail _ (.tail _ (.tail _ (.tail _ (.head _)))))))) o e,l3.at fun o e=>hk a3 (.tail _ (.tail _ (.tail _ (.tail _ (.tail _ (.tail _ (.tail _ (.tail _ (.head _))))))))) o e⟩
 item:=fun i s Q E hi hst hQ=>by
  obtain⟨hz,hTI,⟨a,b,d,hTO⟩,⟨h1,h2,h3⟩,l1,l2,l3⟩:=hst
  have hT:s.TypeIs (.ref z) "zip" :=⟨_,hz,rfl⟩
  have q1:=D.src a1 (.inl rfl)
  have q2:=D.src a2 (.inr (.inl rfl))
  have q3:=D.src a3 (.inr (.inr rfl))
  unfold pyNext
  refine wpAny_bind (wpAny_attempt (wpAny_callSpecial?_slot (name:=Str.ofString "__next__") hT F.slot_zip_next
   (wpAny_call_entry F.slot_zip_next hT F.entry_zip_next (zip3_next D hz hTI hTO h1 h2 h3 l1 l2 l3 (Array.getElem?_eq_getElem hi) (Array.getElem?_eq_getElem (e2▸hi)) (Array.getElem?_eq_getElem (e3▸hi)) fun h' b1 b2 b3 b4 b5 b6 hk=>wpAny_pure ?_) (F.args_zip_next_1 _))))
  have lt:∀{c o},s.heap.get? c=some o→s.heap.objs.size≠c:=fun e=>Nat.ne_of_gt (Heap.lt_size e)
  exact hQ s.heap.objs.size #[xs[i],ys[i]'(e2▸hi),us[i]'(e3▸hi)] h' s.toks ⟨_,_,_,Array.getElem?_eq_getElem hi,Array.getElem?_eq_getElem (e2▸hi),Array.getElem?_eq_getElem (e3▸hi),rfl⟩ (Nat.le_refl _) ⟨_,b6,rfl,_,rfl⟩
   ⟨b1,hk _ _ D.TIz D.TITO D.TIi1 D.TIi2 D.TIi3 hTI,⟨_,_,_,b2⟩,⟨b3,b4,b5⟩,⟨l1.at fun o e=>hk _ o q1.1 q1.2.1 q1.2.2.1 q1.2.2.2.1 q1.2.2.2.2 e,l2.at fun o e=>hk _ o q2.1 q2.2.1 q2.2.2.1 q2.2.2.2.1 q2.2.2.2.2 e,l3.at fun o e=>hk _ o q3.1 q3.2.1 q3.2.2.1 q3.2.2.2.1 q3.2.2.2.2 e⟩,
    lt hz,lt hTO,(by obtain⟨o1_,e,o2_⟩:=h1;exact lt e),(by obtain⟨o1_,e,o2_⟩:=h2;exact lt e),(by obtain⟨o1_,e,o2_⟩:=h3;exact lt e)⟩
   fun c o hc e=>have q:=apart5 hc;hk c o q.1.1 q.1.2 q.2.1.1 q.2.1.2 q.2.2 e
 go:=fun elts k pos i T s Q E hm hQ=>by
  obtain⟨hz,hTI,⟨a,b,d,hTO⟩,⟨h1,h2,h3⟩,⟨l1,l2,l3⟩,o1_⟩:=hm
  have q1:=D.src a1 (.inl rfl)
  have q2:=D.src a2 (.inr (.inl rfl))
  have q3:=D.src a3 (.inr (.inr rfl))
  refine wpAny_letOwnedTupleGo_zip hz fun h' hz' hs'=>hQ h' ⟨hz',hs'.extBut _ _ D.TIz hTI,⟨a,b,d,hs'.extBut _ _ D.TOz hTO⟩,⟨h1.extBut hs'.extBut D.i1z,h2.extBut hs'.extBut D.i2z,h3.extBut hs'.extBut D.i3z⟩,
   l1.extBut hs'.extBut q1.1,l2.extBut hs'.extBut q2.1,l3.extBut hs'.extBut q3.1⟩ fun c o hc e=>hs'.extBut _ _ (apart5 hc).1.1 e
 apart:=fun i T h hm hT=>by
  exact mem5 hT hm.2.2.2.2.2.1 hm.2.2.2.2.2.2.1 hm.2.2.2.2.2.2.2.1 hm.2.2.2.2.2.2.2.2.1 hm.2.2.2.2.2.2.2.2.2
 done:=fun s Q E hst hQ=>by
  obtain⟨hz,hTI,⟨a,b,d,hTO⟩,⟨h1,h2,h3⟩,l1,l2,l3⟩:=hst
  have hT:s.TypeIs (.ref z) "zip" :=⟨_,hz,rfl⟩
  unfold pyNext
  refine wpAny_bind (wpAny_attempt (wpAny_callSpecial?_slot (name:=Str.ofString "__next__") hT F.slot_zip_next
   (wpAny_call_entry F.slot_zip_next hT F.entry_zip_next (zip3_end hh D hz hTI hTO h1 l1 (Array.getElem?_eq_none (Nat.le_refl _)) fun h' e hk he=>?_) (F.args_zip_next_1 _))))
  obtain⟨o,ho,hc⟩:=he
  refine wpAny_bind (wpAny_isInstance (T:= "StopIteration") (b:=true) ⟨o,ho,hc⟩ isSubtype_stop ?_)
  exact wpAny_pure (hQ _ _ fun c o hc e=>have q:=apart5 hc;hk c o q.1.1 q.1.2 q.2.1.1 q.2.1.2 q.2.2 e)
 self:=fun i s Q E hst hQ=>wpAny_pyIter_zip hst.1 hQ
end
noncomputable abbrev z3i(h:Heap)(a:Addr):Heap:=h.push {cls:= .type "tuple_iterator",data:= .fields #[.ref a,.int 0 0]}
noncomputable abbrev z3t(h:Heap)(a b c:Addr):Heap:=h.push {cls:= .type "tuple",data:= .seq #[.ref a,.ref b,.ref c]}
noncomputable abbrev z3o(h:Heap):Heap:=h.push {cls:= .type "tuple",data:= .seq #[.none,.none,.none]}
set_option maxHeartbeats 4000000 in
theorem meets_zip3(a1 a2 a3:Addr)(xs ys us:Array Value):
  Meets (Builtin.«zip.__new__» ⟨[.type "zip",.ref a1,.ref a2,.ref a3],[]⟩) (fun o1_ R s=>s.heap.IsTuple a1 xs∧s.heap.IsTuple a2 ys∧s.heap.IsTuple a3 us∧
   R (.ok (.ret (.ref (z3o (z3t (z3i (z3i (z3i s.heap a1) a2) a3) s.heap.objs.size (z3i s.heap a1).objs.size (z3i (z3i s.heap a1) a2).objs.size)).objs.size)))
    {s with heap:=(z3o (z3t (z3i (z3i (z3i s.heap a1) a2) a3) s.heap.objs.size (z3i s.heap a1).objs.size (z3i (z3i s.heap a1) a2).objs.size)).push {cls:= .type "zip",data:= .fields #[.none,.bool false,.bool false,.ref (z3i (z3i (z3i s.heap a1) a2) a3).objs.size,.ref (z3t (z3i (z3i (z3i s.heap a1) a2) a3) s.heap.objs.size (z3i s.heap a1).objs.size (z3i (z3i s.heap a1) a2).objs.size).objs.size]}}):=
 .of_wp fun prog w A R s h=>by
  obtain⟨hp,g,d,tk,os⟩:=s;obtain⟨hl1,hl2,hl3,h⟩:=h
  have hsub:=sub_zip
  have L1:Heap.IsTuple (Shared.heap ⟨hp,g,d,tk,os⟩) a1 xs:=hl1
  have L2:Heap.IsTuple (Shared.heap ⟨hp.push {cls:= .type "tuple_iterator",data:= .fields #[.ref a1,.int 0 0]},g,d,tk,os⟩) a2 ys:=Heap.IsTuple.push hl2 _
  have L3:Heap.IsTuple (Shared.heap ⟨(hp.push {cls:= .type "tuple_iterator",data:= .fields #[.ref a1,.int 0 0]}).push {cls:= .type "tuple_iterator",data:= .fields #[.ref a2,.int 0 0]},g,d,tk,os⟩) a3 us:=Heap.IsTuple.push (Heap.IsTuple.push hl3 _) _
  wp_walk using wpAny_pyIter_tuple L1,wpAny_pyIter_tuple L2,wpAny_pyIter_tuple L3
  exact⟨_,rfl,h⟩
structure Zip3At(l:Led)(z a1 a2 a3:Addr)(TI TO i1 i2 i3:Addr)(o1 o2 o3:Obj):Prop where
 mz:(z,zipO TI TO)∈l
 mI:(TI,({cls:= .type "tuple",data:= .seq #[.ref i1,.ref i2,.ref i3]}:Obj))∈l
 mO:(TO,({cls:= .type "tuple",data:= .seq #[.none,.none,.none]}:Obj))∈l
 m1:(i1,o1)∈l
 m2:(i2,o2)∈l
 m3:(i3,o3)∈l
 d1:o1.cls= .type "tuple_iterator" ∧o1.data= .fields #[.ref a1,.int 0 0]
 d2:o2.cls= .type "tuple_iterator" ∧o2.data= .fields #[.ref a2,.int 0 0]
 d3:o3.cls= .type "tuple_iterator" ∧o3.data= .fields #[.ref a3,.int 0 0]
 ap:Z3 z TI TO i1 i2 i3 a1 a2 a3
theorem neA{a b:Nat}(h:a≠b):@Ne Addr a b:=h
theorem z3_apart(B:Nat){a1 a2 a3:Nat}(h1:a1<B)(h2:a2<B)(h3:a3<B):Z3 (B+5) (B+3) (B+4) B (B+1) (B+2) a1 a2 a3:=by
 constructor
 case src=>
  intro a ha
  have hb:(a:Nat)<B:=by rcases ha with e |e |e <;> (rw[e];assumption)
  exact⟨Nat.ne_of_lt (Nat.lt_of_lt_of_le hb (Nat.le_add_right _ 5)),Nat.ne_of_lt (Nat.lt_of_lt_of_le hb (Nat.le_add_right _ 4)),Nat.ne_of_lt hb,Nat.ne_of_lt (Nat.lt_of_lt_of_le hb (Nat.le_add_right _ 1)),Nat.ne_of_lt (Nat.lt_of_lt_of_le hb (Nat.le_add_right _ 2))⟩
 all_goals (refine neA ?_;omega)
section
variable {sc:Scope} {c:Cx sc} {env:Env} {m:Mp} {l:Led} {P:VP} {d:Nat}
end
section
variable {sc:Scope} {c:Cx sc} {env:Env} {m:Mp} {l:Led} {P:VP} {R:VP} {N:Mp→Led→Prop} {B:Bool→Led→Prop} {d:Nat}
theorem TAP.nameP{x:Str}{px:Pos}{v:Value}{pre:Heap→Prop}{K:Mp→Led→Prop}(h:(∃hp,pre hp)→TB c m l x v K):TAP c m l (.Name x px) v pre K:=fun s Q E F N hp q=>assign_Name (h ⟨_,hp⟩ s Q E F N q)
end
section
variable {sc:Scope} {c:Cx sc} {env:Env} {m:Mp} {l:Led} {P:VP} {R:VP} {N:Mp→Led→Prop} {B:Bool→Led→Prop} {d:Nat}
end
section
variable {sc:Scope} {c:Cx sc} {m:Mp} {l:Led} {R:VP} {N:Mp→Led→Prop} {d:Nat}
end
section
variable {sc:Scope} {c:Cx sc} {env:Env} {m:Mp} {l:Led} {P:VP}
open LCg in
end
section
variable {prog:Program} {w:World} {A:Around} {E:Value→Shared→Prop} {s:Shared}
theorem sliceApplied_13{sl:Addr}{u v:Tok}{Q:Int×Int×Nat→Shared→Prop}(hs:s.heap.IsSliceOf sl (.int 1 u) (.int 3 v) .none)(h:Q ((1:Int),1,2) s):
  wpAny (model prog w) A (Builtin.Slice.sliceApplied (.ref sl) (pure (4:Int))) Q E s:=by
 obtain⟨os,hos,hcs,hds⟩:=id hs
 unfold Builtin.Slice.sliceApplied Builtin.Slice.sliceFields
 refine wpAny_bind (wpAny_bind (wpAny_field hos hds (x:= .int 1 u) rfl (wpAny_bind (wpAny_field hos hds (x:= .int 3 v) rfl (wpAny_bind (wpAny_field hos hds (x:= .none) rfl (wpAny_pure ?_)))))))
 refine wpAny_bind (slicePart_none ?_)
 show wpAny _ _ (if((1:Int)==0)=true then _ else _) _ _ s
 rw[if_neg (by decide)]
 refine wpAny_bind (slicePart_int (wpAny_bind (slicePart_int (wpAny_bind (wpAny_pure ?_)))))
 exact wpAny_pure h
theorem getItem_tuple_13{t sl:Addr}{a b c d:Value}{u v:Tok}{Q:Value→Shared→Prop}(ht:IsTup s.heap t #[a,b,c,d])(hs:s.heap.IsSliceOf sl (.int 1 u) (.int 3 v) .none)
  (h:Q (.ref s.heap.objs.size) {s with heap:=s.heap.push {cls:= .type "tuple",data:= .seq #[b,c]}}):wpAny (model prog w) A (getItem (.ref t) (.ref sl)) Q E s:=by
 have hsz:sizeOk (.seq #[b,c]):=by show 2≤sizeLine;decide
 obtain⟨os,hos,hcs,hds⟩:=id hs
 have hTs:s.TypeIs (.ref sl) "slice" :=⟨os,hos,hcs⟩
 unfold getItem
 try with_reducible refine wpAny_holding ?_
 first |refine wpAny_bind (wpAny_pure ?_) |skip
 refine wpAny_bind (wpAny_sequenceKey ht.typeIs (by decide) ?_)
 refine wpAny_bind (wpAny_callSpecial?_slot (name:=Str.ofString "__getitem__") ht.typeIs slot_tuple_getitem
  (wpAny_call_entry slot_tuple_getitem ht.typeIs entry_tuple_getitem ?_ (args_tuple_getitem _ _)))
 show wpAny _ _ (Builtin.Tuple.tupleItemsOf (.ref t)>>=_) _ _ s
 refine wpAny_bind (tupleItemsOf_ ht ?_)
 refine wpAny_bind (wpAny_typeOf hTs ?_)
 rw[if_pos (by decide)]
 refine wpAny_bind (sliceApplied_13 hs ?_)
 show wpAny _ _ (if((1:Int)==0&&(1:Int)==1&&2==4)=true then _ else _) _ _ s
 rw[if_neg (by decide)]
 show wpAny _ _ (Builtin.Tuple.tupleExact _>>=_) _ _ s
 first
  |exact wpAny_bind (m:=Builtin.Tuple.tupleExact _) (wpAny_newObj_type (wpAny_pure ⟨_,rfl,wpAny_pure h⟩) hsz)
  |exact wpAny_bind (m:=Builtin.Tuple.tupleExact _) (wpAny_newObj_type (wpAny_bind (wpAny_pure (wpAny_pure ⟨_,rfl,wpAny_pure h⟩))) hsz)
  |exact wpAny_bind (wpAny_bind (m:=Builtin.Tuple.tupleExact _) (wpAny_newObj_type (wpAny_pure (wpAny_pure ⟨_,rfl,wpAny_pure h⟩)) hsz))
  |exact wpAny_bind (wpAny_bind (m:=Builtin.Tuple.tupleExact _) (wpAny_newObj_type (wpAny_pure ⟨_,rfl,wpAny_pure h⟩) hsz))
theorem enumT_next{e it t:Addr}{i:Nat}{items:Array Value}{x old:Value}{Q:Value→Shared→Prop}(he:IsEnum s.heap e it i old)(hit:s.heap.IsTupleIter it t i)(ht:s.heap.IsTuple t items)(hx:items[i]?=some x)(hne:e≠it)
  (hQ:∀h',IsEnumOut h' e it ((i:Int)+1) x s.heap.objs.size→h'.IsTupleIter it t (i+1)→h'.get? s.heap.objs.size=some {cls:= .type "tuple",data:= .seq #[.int i s.toks,x]}→
   (∀b o,b≠e→b≠it→s.heap.get? b=some o→h'.get? b=some o)→Q (.ref s.heap.objs.size) {s with heap:=h',toks:=s.toks+1}):
  wpAny (model prog w) A (Builtin.«enumerate.__next__» ⟨[.ref e],[]⟩) (fun fin s'=>∃v,fin= .done (.ret v)∧Q v s') E s:=by
 obtain⟨hp,g,d,tk,os⟩:=s
 show wpAny _ _ (field (.ref e) 2>>=_) _ _ _
 refine wpAny_bind (wpAny_field he rfl (x:= .ref it) rfl ?_)
 refine wpAny_bind (nextOf_tuple_item hit ht hx fun h1 hit1 s1=>?_)
 replace s1:Heap.SameBut it hp h1:=s1
 have E1:IsEnum h1 e it i old:=(s1.2 e hne).trans he
 show wpAny _ _ (field (.ref e) 3>>=_) _ _ ⟨h1,g,d,tk,os⟩
 refine wpAny_bind (wpAny_field E1 rfl (x:=rawInt i) rfl ?_)
 show wpAny _ _ (field (.ref e) 4>>=_) _ _ ⟨h1,g,d,tk,os⟩
 refine wpAny_bind (wpAny_field E1 rfl (x:= .none) rfl ?_)
 show wpAny _ _ (mkInt i>>=_) _ _ ⟨h1,g,d,tk,os⟩
 refine wpAny_bind (wpAny_mkInt ?_)
 show wpAny _ _ (setField (.ref e) 3 (rawInt ((i:Int)+1))>>=_) _ _ ⟨h1,g,d,tk+1,os⟩
 refine wpAny_bind (wpAny_setField_rec E1 (by simp) fun h2 E2 s2=>?_)
 replace s2:Heap.SameBut e h1 h2:=s2
 replace E2:IsEnum h2 e it ((i:Int)+1) old:=E2
 show wpAny _ _ (setField (.ref e) 4 .none>>=_) _ _ ⟨h2,g,d,tk+1,os⟩
 refine wpAny_bind (wpAny_setField_rec E2 (by simp) fun h3 E3 s3=>?_)
 replace s3:Heap.SameBut e h2 h3:=s3
 replace E3:IsEnum h3 e it ((i:Int)+1) old:=E3
 show wpAny _ _ (newTuple [.int i tk,x]>>=_) _ _ ⟨h3,g,d,tk+1,os⟩
 refine wpAny_bind (wpAny_newTuple ?_)
 have E4:IsEnum (h3.push {cls:= .type "tuple",data:= .seq #[.int i tk,x]}) e it ((i:Int)+1) old:=Heap.get?_push_of_some _ E3
 have hsz:h3.objs.size=hp.objs.size:=by rw[s3.1,s2.1,s1.1]
 have hel:e<hp.objs.size:=Heap.lt_size he
 have T4:(h3.push {cls:= .type "tuple",data:= .seq #[.int i tk,x]}).get? hp.objs.size=some {cls:= .type "tuple",data:= .seq #[.int i tk,x]}:=by
  have:=Heap.get?_push_size h3 (o:={cls:= .type "tuple",data:= .seq #[.int i tk,x]}) rfl
  rwa [hsz] at this
 have k4:∀b o,b≠e→b≠it→hp.get? b=some o→(h3.push {cls:= .type "tuple",data:= .seq #[.int i tk,x]}).get? b=some o:=fun b o n1 n2 hb=>
  Heap.get?_push_of_some _ (s3.extBut b o n1 (s2.extBut b o n1 (s1.extBut b o n2 hb)))
 have I4:(h3.push {cls:= .type "tuple",data:= .seq #[.int i tk,x]}).IsTupleIter it t (i+1):=by
  obtain⟨o,ho,r⟩:=(hit1.extBut s2.extBut (Ne.symm hne)).extBut s3.extBut (Ne.symm hne)
  exact⟨o,Heap.get?_push_of_some _ ho,r⟩
 rw[hsz]
 generalize h3.push {cls:= .type "tuple",data:= .seq #[.int i tk,x]}=h4 at *
 clear E3 s3 E2 s2 E1 s1 hit1 hsz
 show wpAny _ _ (Builtin.SmallTypes.ownedTupleIsFree (.ref e)>>=_) _ _ ⟨h4,g,d,tk+1,os⟩
 refine wpAny_bind ?_
 unfold Builtin.SmallTypes.ownedTupleIsFree
 refine wpAny_bind (wpAny_field E4 rfl (x:= .none) rfl (wpAny_pure ?_))
 simp only[if_true]
 refine wpAny_bind (wpAny_rule ?_)
 refine wpAny_bind (wpAny_field E4 rfl (x:=old) rfl ?_)
 refine wpAny_bind (wpAny_setField_rec E4 (by simp) fun h5 E5 s5=>?_)
 replace s5:Heap.SameBut e h4 h5:=s5
 replace E5:IsEnum h5 e it ((i:Int)+1) x:=E5
 show wpAny _ _ (Builtin.SmallTypes.ownedTupleHandOut (.ref e) (.ref hp.objs.size)>>=_) _ _ ⟨h5,g,d,tk+1,os⟩
 refine wpAny_bind ?_
 unfold Builtin.SmallTypes.ownedTupleHandOut
 refine wpAny_bind (wpAny_setField_rec E5 (by simp) fun h6 E6 s6=>?_)
 replace s6:Heap.SameBut e h5 h6:=s6
 replace E6:IsEnumOut h6 e it ((i:Int)+1) x hp.objs.size:=E6
 refine wpAny_setField_rec E6 (by simp) fun h7 E7 s7=>?_
 replace s7:Heap.SameBut e h6 h7:=s7
 replace E7:IsEnumOut h7 e it ((i:Int)+1) x hp.objs.size:=E7
 refine wpAny_bind (wpAny_letGo (wpAny_pure ⟨_,rfl,hQ h7 E7 ?_ ?_ fun b o n1 n2 hb=>s7.extBut b o n1 (s6.extBut b o n1 (s5.extBut b o n1 (k4 b o n1 n2 hb)))⟩))
 ·exact((I4.extBut s5.extBut (Ne.symm hne)).extBut s6.extBut (Ne.symm hne)).extBut s7.extBut (Ne.symm hne)
 ·exact s7.extBut _ _ (Nat.ne_of_gt hel) (s6.extBut _ _ (Nat.ne_of_gt hel) (s5.extBut _ _ (Nat.ne_of_gt hel) T4))
theorem WalksT.enumT(hh:A.handled=none)(e it l:Addr)(hei:e≠it)(hle:l≠e)(hli:l≠it)(items:Array Value):
  WalksT prog w A e [e,it,l] [e,it] items.size (fun i vals=>∃t x,items[i]?=some x∧vals=#[.int i t,x])
   (fun i h=>(∃old,IsEnum h e it i old)∧h.IsTupleIter it l i∧h.IsTuple l items)
   (fun i T h=>(∃x,IsEnumOut h e it ((i:Int)+1) x T)∧h.IsTupleIter it l (i+1)∧h.IsTuple l items∧T≠e∧T≠it) where
 sub:=fun b hb=>by simp at hb ⊢;rcases hb with rfl |rfl <;> simp
 frame:=fun i h h' hst hk=>by
  obtain⟨⟨old,he⟩,hit,hl⟩:=hst
  exact⟨⟨old,hk e (by simp) _ he⟩,hit.at fun o x=>hk it (by simp) o x,hl.at fun o x=>hk l (by simp) o x⟩
 item:=fun i s Q E hi hst hQ=>by
  obtain⟨⟨old,he⟩,hit,hl⟩:=hst
  have hx:items[i]?=some items[i]:=Array.getElem?_eq_getElem hi
  have hT:s.TypeIs (.ref e) "enumerate" :=⟨_,he,rfl⟩
  have helt:e<s.heap.objs.size:=Heap.lt_size he
  have hilt:it<s.heap.objs.size:=by obtain⟨o1_,x,o2_⟩:=hit;exact Heap.lt_size x
  unfold pyNext
  refine wpAny_bind (wpAny_attempt (wpAny_callSpecial?_slot (name:=Str.ofString "__next__") hT F.slot_enumerate_next
   (wpAny_call_entry F.slot_enumerate_next hT F.entry_enumerate_next (enumT_next he hit hl hx hei fun h' a b c k=>wpAny_pure ?_) (F.args_enumerate_next_1 _))))
  exact hQ s.heap.objs.size #[.int i s.toks,items[i]] h' (s.toks+1) ⟨_,_,hx,rfl⟩ (Nat.le_refl _) ⟨_,c,rfl,_,rfl⟩
   ⟨⟨_,a⟩,b,hl.at fun o x=>k l o hle hli x,Nat.ne_of_gt helt,Nat.ne_of_gt hilt⟩ fun b' o hb x=>k b' o (fun e'=>hb (by simp[e'])) (fun e'=>hb (by simp[e'])) x
 go:=fun elts k pos i T s Q E hm hQ=>by
  obtain⟨⟨x,ho⟩,hit,hl,hTe,hTi⟩:=hm
  refine wpAny_letOwnedTupleGo_enum ho fun h' he' hs'=>hQ h' ⟨⟨x,by simpa using he'⟩,hit.at fun o y=>(hs'.2 it hei.symm).trans y,hl.at fun o y=>(hs'.2 l hle).trans y⟩ fun b o hb y=>?_
  exact(hs'.2 b fun e'=>hb (by simp[e'])).trans y
 apart:=fun i T h hm hT=>by
  obtain⟨o1_,o2_,o3_,hTe,hTi⟩:=hm
  simp at hT
  rcases hT with rfl |rfl
  ·exact hTe rfl
  ·exact hTi rfl
 done:=fun s Q E hst hQ=>by
  obtain⟨⟨old,he⟩,hit,hl⟩:=hst
  have hT:s.TypeIs (.ref e) "enumerate" :=⟨_,he,rfl⟩
  unfold pyNext
  refine wpAny_bind (wpAny_attempt (wpAny_callSpecial?_slot (name:=Str.ofString "__next__") hT F.slot_enumerate_next
   (wpAny_call_entry F.slot_enumerate_next hT F.entry_enumerate_next ?_ (F.args_enumerate_next_1 _))))
  show wpAny _ _ (field (.ref e) 2>>=_) _ _ _
  refine wpAny_bind (wpAny_field he rfl (x:= .ref it) rfl ?_)
  refine wpAny_bind (nextOf_tuple_end hh hit hl (Array.getElem?_eq_none (Nat.le_refl _)) fun h' x k hx=>?_)
  obtain⟨o,ho,hc⟩:=hx
  refine wpAny_bind (wpAny_isInstance (T:= "StopIteration") (b:=true) ⟨o,ho,hc⟩ isSubtype_stop ?_)
  exact wpAny_pure (hQ h' _ fun b o hb y=>k b o (fun e'=>hb (by simp[e'])) y)
 self:=fun i s Q E hst hQ=>by
  obtain⟨⟨old,he⟩,o1_,o2_⟩:=hst
  exact wpAny_pyIter_enum he hQ
end
theorem any_pure{M:Model}{A:Around}{b:Bool}{Q:Bool→Shared→Prop}{E:Value→Shared→Prop}{s:Shared}(h:∀b,Q b s):wpAny M A (pure b) Q E s:=wpAny_pure (h b)
set_option maxRecDepth 100000 in
theorem meets_enumT(l:Addr)(items:Array Value):
  Meets (Builtin.«enumerate.__new__» ⟨[.type "enumerate",.ref l],[]⟩) (fun o1_ R s=>s.heap.IsTuple l items∧
   R (.ok (.ret (.ref (z3i s.heap l).objs.size))) {s with heap:=(z3i s.heap l).push {cls:= .type "enumerate",data:= .fields #[.none,.bool false,.ref s.heap.objs.size,rawInt 0,.none,.none]}}):=
 .of_wp fun prog w A R s h=>by
  obtain⟨hp,g,d,tk,os⟩:=s;obtain⟨hL,h⟩:=h
  have hsub:=sub_enumerate
  have hl:=hL
  obtain⟨ol,hl,o1_,nl,hd⟩:=hl
  wp_walk using AutoSeq1.wpAny_loadPart' hl
  refine wpAny_stack_any fun st=>any_pure fun b=>?_
  induction b using Bool.casesOn
  ·wp_walk using AutoSeq1.wpAny_loadPart' hl,wpAny_pyIter_tuple hL
   exact⟨_,rfl,h⟩
  ·wp_walk using AutoSeq1.wpAny_loadPart' hl,wpAny_pyIter_tuple hL
   exact⟨_,rfl,h⟩
noncomputable abbrev enumO(it:Addr):Obj:={cls:= .type "enumerate",dict:=none,data:= .fields #[.none,.bool false,.ref it,rawInt 0,.none,.none],slots:=#[]}
noncomputable abbrev titO(a:Addr):Obj:={cls:= .type "tuple_iterator",data:= .fields #[.ref a,.int 0 0]}
structure EnumAt(l:Led)(e it a:Addr):Prop where
 me:(e,enumO it)∈l
 mi:(it,titO a)∈l
 ei:e≠it
 ae:a≠e
 ai:a≠it
section
variable {sc:Scope} {c:Cx sc} {env:Env} {m:Mp} {l:Led} {P:VP} {d:Nat}
theorem TAP.nest{x:Str}{px:Pos}{t2:PySem.Expr}{kk:Nat}{tp:Pos}{v:Value}{pre:Heap→Prop}{K:Mp→Led→Prop}(hp:∀h,pre h→∃T a b,v= .ref T∧h.IsTuple T #[a,b]∧TB c m l x a (fun m' l'=>TAP c m' l' t2 b (fun o1_=>True) K))
  (he:(assignEach [PySem.Expr.Name x px,t2] c.env).map (·.2)=[assign (.Name x px) c.env,assign t2 c.env])(he2:(assignEach [PySem.Expr.Name x px,t2] c.env).length=2)(hst:(assignEach [PySem.Expr.Name x px,t2] c.env).findIdx? (·.1)=none):
  TAP c m l (.Tuple [.Name x px,t2] kk tp) v pre K:=fun s Q E F N hpre q=>by
 obtain⟨T,a,b,rfl,hT,hb⟩:=hp _ hpre
 refine unpackN_ F N (show IsTup s.heap T #[a,b] from hT) (by rfl) (by rw[he2];rfl) hst fun h' F' N'=>?_
 rw[he]
 refine assignInOrder_cons (assign_Name (hb _ _ E F' N' fun m' l' h' tk' h2 F' N'=>?_))
 refine assignInOrder_cons (h2 _ _ E F' N' trivial fun m' l' h' tk' h2 F' N'=>?_)
 exact assignInOrder_nil (q _ _ _ _ h2 F' N')
end
section
set_option genSizeOfSpec false in
inductive V where
 |int (n:Int) (b l:Option Nat) |bool (b:Bool) |none |tup (vs:List V) |lst (vs:List V) |ell (x y C S:Int) |ref (k:Nat)
structure In(n:Int)(b l:Option Nat):Prop where
 b:∀x,b=some x→intBits n≤x
 l:∀k,l=some k→(k:Int)≤n
theorem In.no{n:Int}:In n none none:=⟨fun o1_ h=>(nomatch h),fun o1_ h=>(nomatch h)⟩
noncomputable def BaseT(w:World)(a:Addr)(ws:List Value):Prop:=∃dd nn sl,List.lookup a (Mine.K w.params)=some {cls:= .type "tuple",dict:=dd,data:= .seq (List.toArray ws) nn,slots:=sl}
noncomputable def LO(o:Obj)(ws:List Value):Prop:=(o.cls= .type "list" ∧o.dict=none)∧∃n,o.data= .seq ws.toArray n
noncomputable def LW(o:Obj)(ws:List Value):Prop:=o.cls= .type "list" ∧∃n,o.data= .seq ws.toArray n
theorem LO.w{o:Obj}{ws:List Value}(h:LO o ws):LW o ws:=⟨h.1.1,h.2⟩
mutual
inductive Rep(w:World)(fz:Led):V→Value→Prop where
 |int {n:Int} {b l:Option Nat} {t:Tok} (h:In n b l):Rep w fz (.int n b l) (.int n t)
 |bool {b:Bool}:Rep w fz (.bool b) (.bool b)
 |none:Rep w fz .none .none
 |tup {vs:List V} {ws:List Value} {a:Addr} (m:(a,tupO ws)∈fz) (h:Reps w fz vs ws):Rep w fz (.tup vs) (.ref a)
 |lst {vs:List V} {ws:List Value} {a:Addr} {o:Obj} (m:(a,o)∈fz) (d:LW o ws) (h:Reps w fz vs ws):Rep w fz (.lst vs) (.ref a)
 |base {vs:List V} {ws:List Value} {a:Addr} (m:BaseT w a ws) (h:Reps w fz vs ws):Rep w fz (.tup vs) (.ref a)
 |ell {x y C S:Int} {a d:Addr} {t1 t2 t3 t4 t5 t6 t7 t8:Tok} (m:(a,instObj 264 d)∈fz) (k:(d,elD w.params x y C S t1 t2 t3 t4 t5 t6 t7 t8)∈fz) (h:(intBits x≤400∧intBits y≤400)∧intBits C≤200∧intBits S≤200):Rep w fz (.ell x y C S) (.ref a)
inductive Reps(w:World)(fz:Led):List V→List Value→Prop where
 |nil:Reps w fz [] []
 |cons {v:V} {u:Value} {vs:List V} {us:List Value} (h:Rep w fz v u) (t:Reps w fz vs us):Reps w fz (v::vs) (u::us)
end
theorem Rep.mono{w:World}{fz fz':Led}(s:Sub fz fz'){v:V}{u:Value}(h:Rep w fz v u):Rep w fz' v u:=
 Rep.rec (motive_1:=fun v u o1_=>Rep w fz' v u) (motive_2:=fun vs us o1_=>Reps w fz' vs us) .int .bool .none (fun m o1_ h=> .tup (s _ m) h) (fun m d o1_ h=> .lst (s _ m) d h) (fun m o1_ h=> .base m h) (fun m k h=> .ell (s _ m) (s _ k) h) .nil (fun o1_ o2_ a b=> .cons a b) h
theorem Reps.mono{w:World}{fz fz':Led}(s:Sub fz fz'){v:List V}{u:List Value}(h:Reps w fz v u):Reps w fz' v u:=
 Reps.rec (motive_1:=fun v u o1_=>Rep w fz' v u) (motive_2:=fun vs us o1_=>Reps w fz' vs us) .int .bool .none (fun m o1_ h=> .tup (s _ m) h) (fun m d o1_ h=> .lst (s _ m) d h) (fun m o1_ h=> .base m h) (fun m k h=> .ell (s _ m) (s _ k) h) .nil (fun o1_ o2_ a b=> .cons a b) h
theorem Reps.length{w:World}{fz:Led}{vs:List V}{us:List Value}(h:Reps w fz vs us):vs.length=us.length:=
 Reps.rec (motive_1:=fun o1_ o2_ o3_=>True) (motive_2:=fun vs us o1_=>vs.length=us.length) (fun o1_=>trivial) trivial trivial (fun o1_ o2_ o3_=>trivial) (fun o1_ o2_ o3_ o4_=>trivial) (fun o1_ o2_ o3_=>trivial) (fun o1_ o2_ o3_=>trivial) rfl (fun o1_ o2_ o3_ b=>congrArg (· +1) b) h
theorem Reps.at{w:World}{fz:Led}{vs:List V}{us:List Value}(h:Reps w fz vs us):∀{i:Nat} {a:V},vs[i]?=some a→∃b,us[i]?=some b∧Rep w fz a b:=by
 refine Reps.rec (motive_1:=fun o1_ o2_ o3_=>True) (motive_2:=fun vs us o1_=>∀(i:Nat) (a:V),vs[i]?=some a→∃b,us[i]?=some b∧Rep w fz a b) (fun o1_=>trivial) trivial trivial (fun o1_ o2_ o3_=>trivial) (fun o1_ o2_ o3_ o4_=>trivial) (fun o1_ o2_ o3_=>trivial) (fun o1_ o2_ o3_=>trivial) (fun i a e=>?_) (fun h t o1_ b i a e=>?_) h _ _
 ·simp at e
 ·induction i using Nat.casesOn with
  |zero=>exact⟨_,rfl,Option.some.inj e▸h⟩
  |succ i=>exact b i a e
inductive AO where
 |lst (vs:List V) |frz (vs:List V) |cell (v:Option V) |ns (bs:List (Str×V)) |cst (v:V) |obj (O:Obj) |ins (j:Nat)
noncomputable abbrev Sto:=List AO
noncomputable def AO.mu:AO→Bool
 |.frz _=>false
 |.ns _=>false
 |.cst _=>false
 |_=>true
noncomputable def Agr(N:Nat)(ι ι':Nat→Addr):Prop:=∀k,k<N→ι' k=ι k
theorem Agr.refl{N:Nat}{ι:Nat→Addr}:Agr N ι ι:=fun o1_ o2_=>rfl
theorem Agr.trans{N M:Nat}{ι ι' ι'':Nat→Addr}(h:Agr N ι ι')(k:Agr M ι' ι'')(n:N≤M):Agr N ι ι'':=fun j hj=>(k j (Nat.lt_of_lt_of_le hj n)).trans (h j hj)
inductive RepV(w:World)(fz:Led)(N:Nat)(ι:Nat→Addr):V→Value→Prop where
 |dat {a:V} {v:Value} (h:Rep w fz a v):RepV w fz N ι a v
 |ref {k:Nat} (h:k<N):RepV w fz N ι (.ref k) (.ref (ι k))
theorem RepV.grow{w:World}{fz fz':Led}{N M:Nat}{ι ι':Nat→Addr}(s:Sub fz fz')(g:Agr N ι ι')(n:N≤M){a:V}{v:Value}(h:RepV w fz N ι a v):RepV w fz' M ι' a v:=by
 cases h with
 |dat h=>exact .dat (h.mono s)
 |ref h=>rw[←g _ h];exact .ref (Nat.lt_of_lt_of_le h n)
inductive Co(w:World)(fz:Led)(N:Nat)(ι:Nat→Addr):AO→Obj→Prop where
 |lst {vs:List V} {ws:List Value} {o:Obj} (h:Reps w fz vs ws) (d:LO o ws):Co w fz N ι (.lst vs) o
 |frz {vs:List V} {o:Obj}:Co w fz N ι (.frz vs) o
 |cell0 {o:Obj} (d:o.data= .cell none):Co w fz N ι (.cell none) o
 |cell {a:V} {v:Value} {o:Obj} (h:RepV w fz N ι a v) (d:o.data= .cell (some v)):Co w fz N ι (.cell (some a)) o
 |ns {bs:List (Str×V)} {o:Obj} {m₂:Mp} (h:LCg.NsObj o m₂) (k:∀x a,List.lookup x bs=some a→∃v,RepV w fz N ι a v∧m₂ x=some v):Co w fz N ι (.ns bs) o
 |cst {a:V} {v:Value} {o:Obj} (h:RepV w fz N ι a v) (d:o.data= .cell (some v)):Co w fz N ι (.cst a) o
 |obj {O:Obj}:Co w fz N ι (.obj O) O
 |ins {j:Nat} (h:j<N):Co w fz N ι (.ins j) (instObj 264 (ι j))
theorem Co.grow{w:World}{fz fz':Led}{N M:Nat}{ι ι':Nat→Addr}(s:Sub fz fz')(g:Agr N ι ι')(n:N≤M){o:AO}{O:Obj}(h:Co w fz N ι o O):Co w fz' M ι' o O:=by
 cases h with
 |lst h d=>exact .lst (h.mono s) d
 |frz=>exact .frz
 |cell0 d=>exact .cell0 d
 |cell h d=>exact .cell (h.grow s g n) d
 |cst h d=>exact .cst (h.grow s g n) d
 |obj=>exact .obj
 |ins h=>rw[←g _ h];exact .ins (Nat.lt_of_lt_of_le h n)
 |ns h k=>exact .ns h fun x a e=>(k x a e).imp fun v p=>⟨p.1.grow s g n,p.2⟩
structure Ext(pr fz fz':Led):Prop where
 sub:Sub fz fz'
 new:∀p∈fz',p∈fz∨FreshAt p.1 pr
theorem Ext.refl{pr fz:Led}:Ext pr fz fz:=⟨Sub.refl _,fun o1_ h=> .inl h⟩
theorem Ext.trans{pr a b d:Led}(h:Ext pr a b)(k:Ext pr b d):Ext pr a d:=⟨h.sub.trans k.sub,fun p hp=>(k.new p hp).elim (h.new p) .inr⟩
structure Rel(w:World)(pr fz:Led)(σ:Sto)(ι:Nat→Addr)(l:Led):Prop where
 subp:Sub pr l
 subf:Sub fz l
 own:∀k o,σ[k]?=some o→o.mu=true→FreshAt (ι k) pr∧FreshAt (ι k) fz
 mem:∀k o,σ[k]?=some o→∃O,(ι k,O)∈l∧Co w fz σ.length ι o O
 fro:∀k vs,σ[k]?=some (.frz vs)→Rep w fz (.lst vs) (.ref (ι k))
 inj:∀j k o,σ[k]?=some o→o.mu=true→j<σ.length→j≠k→ι j≠ι k
inductive Pk(w:World)(pr fz:Led)(N:Nat)(ι:Nat→Addr)(K:V→Sto→Prop)(v:Value)(l':Led):Prop where
 |mk (ι':Nat→Addr) (fz':Led) (σ:Sto) (a:V) (k:K a σ) (hv:RepV w fz' σ.length ι' a v) (r:Rel w pr fz' σ ι' l') (g:Agr N ι ι') (n:N≤σ.length) (x:Ext pr fz fz')
inductive Reqs(w:World)(fz:Led)(N:Nat)(ι:Nat→Addr):List V→List Value→Prop where
 |nil:Reqs w fz N ι [] []
 |cons {v:V} {u:Value} {vs:List V} {us:List Value} (h:RepV w fz N ι v u) (t:Reqs w fz N ι vs us):Reqs w fz N ι (v::vs) (u::us)
inductive Pks(w:World)(pr fz:Led)(N:Nat)(ι:Nat→Addr)(K:List V→Sto→Prop)(vs:List Value)(l':Led):Prop where
 |mk (ι':Nat→Addr) (fz':Led) (σ:Sto) (as:List V) (k:K as σ) (hv:Reqs w fz' σ.length ι' as vs) (r:Rel w pr fz' σ ι' l') (g:Agr N ι ι') (n:N≤σ.length) (x:Ext pr fz fz')
inductive Pb(w:World)(pr fz:Led)(N:Nat)(ι:Nat→Addr)(K:Bool→Sto→Prop)(b:Bool)(l':Led):Prop where
 |mk (ι':Nat→Addr) (fz':Led) (σ:Sto) (k:K b σ) (r:Rel w pr fz' σ ι' l') (g:Agr N ι ι') (n:N≤σ.length) (x:Ext pr fz fz')
theorem Pk.elim{w:World}{pr fz:Led}{N:Nat}{ι:Nat→Addr}{K:V→Sto→Prop}{v:Value}{l':Led}{C:Prop}(h:Pk w pr fz N ι K v l')
  (f:∀ι' fz' σ a,K a σ→RepV w fz' σ.length ι' a v→Rel w pr fz' σ ι' l'→Agr N ι ι'→N≤σ.length→Ext pr fz fz'→C):C:=by
 cases h;apply f <;> assumption
theorem Pks.elim{w:World}{pr fz:Led}{N:Nat}{ι:Nat→Addr}{K:List V→Sto→Prop}{v:List Value}{l':Led}{C:Prop}(h:Pks w pr fz N ι K v l')
  (f:∀ι' fz' σ a,K a σ→Reqs w fz' σ.length ι' a v→Rel w pr fz' σ ι' l'→Agr N ι ι'→N≤σ.length→Ext pr fz fz'→C):C:=by
 cases h;apply f <;> assumption
theorem Pb.elim{w:World}{pr fz:Led}{N:Nat}{ι:Nat→Addr}{K:Bool→Sto→Prop}{v:Bool}{l':Led}{C:Prop}(h:Pb w pr fz N ι K v l')
  (f:∀ι' fz' σ,K v σ→Rel w pr fz' σ ι' l'→Agr N ι ι'→N≤σ.length→Ext pr fz fz'→C):C:=by
 cases h;apply f <;> assumption
section
variable {w:World} {pr fz fz':Led} {N M:Nat} {ι ι':Nat→Addr}
theorem Pk.trans{K:V→Sto→Prop}{v:Value}{l':Led}(g:Agr N ι ι')(n:N≤M)(x:Ext pr fz fz')(h:Pk w pr fz' M ι' K v l'):Pk w pr fz N ι K v l':=
 h.elim fun o1_ o2_ o3_ o4_ k hv r g' n' x'=> .mk _ _ _ _ k hv r (g.trans g' n) (Nat.le_trans n n') (x.trans x')
theorem Pb.trans{K:Bool→Sto→Prop}{v:Bool}{l':Led}(g:Agr N ι ι')(n:N≤M)(x:Ext pr fz fz')(h:Pb w pr fz' M ι' K v l'):Pb w pr fz N ι K v l':=
 h.elim fun o1_ o2_ o3_ k r g' n' x'=> .mk _ _ _ k r (g.trans g' n) (Nat.le_trans n n') (x.trans x')
theorem Reqs.grow(s:Sub fz fz')(g:Agr N ι ι')(n:N≤M){as:List V}{vs:List Value}(h:Reqs w fz N ι as vs):Reqs w fz' M ι' as vs:=by
 induction h with
 |nil=>exact .nil
 |cons h o1_ ih=>exact .cons (h.grow s g n) ih
theorem Reqs.length{as:List V}{vs:List Value}(h:Reqs w fz N ι as vs):as.length=vs.length:=by
 induction h with
 |nil=>rfl
 |cons o1_ o2_ ih=>exact congrArg (· +1) ih
noncomputable def setN(ι:Nat→Addr)(N:Nat)(D:Addr):Nat→Addr:=fun k=>if k=N then D else ι k
theorem setN.agr{D:Addr}:Agr N ι (setN ι N D):=fun k h=>if_neg (Nat.ne_of_lt h)
theorem setN.at{D:Addr}:setN ι N D N=D:=if_pos rfl
theorem Rel.new{σ:Sto}{l l':Led}(h:Rel w pr fz σ ι l){D:Addr}{O:Obj}{o:AO}(s:Sub l l')(f:FreshAt D l)(m:(D,O)∈l')(k:Co w fz σ.length ι o O)(hn:∀vs,o≠.frz vs):Rel w pr fz (σ++[o]) (setN ι σ.length D) l':=by
 have le:σ.length≤(σ++[o]).length:=by simp
 have old:∀j,j<σ.length→ι j≠D:=fun j hj=>by
  obtain⟨O',hm,o1_⟩:=h.mem j _ (List.getElem?_eq_getElem hj)
  exact f _ hm
 have cs:∀j o',(σ++[o])[j]?=some o'→(j<σ.length∧σ[j]?=some o')∨(j=σ.length∧o'=o):=fun j o' e=>by
  rcases Nat.lt_or_ge j σ.length with hj |hj
  ·exact .inl ⟨hj,by rwa [List.getElem?_append_left hj] at e⟩
  ·obtain⟨h1,o1_⟩:=List.getElem?_eq_some_iff.mp e
   have:j=σ.length:=by simp at h1;exact Nat.le_antisymm (lN 0x3ce8410a120f3a12a2 h1) (lN 0xf3a11cf3a12a2 hj)
   subst this
   simp at e
   exact .inr ⟨rfl,e.symm⟩
 refine⟨h.subp.trans s,h.subf.trans s,fun j o' e mu=>?_,fun j o' e=>?_,fun j vs e=>?_,fun i j o' e mu hi hn=>?_⟩
 ·rcases cs j o' e with⟨hj,e⟩ |⟨rfl,rfl⟩
  ·rw[setN.agr j hj];exact h.own j o' e mu
  ·rw[setN.at];exact⟨fun p hp=>f p (h.subp p hp),fun p hp=>f p (h.subf p hp)⟩
 ·rcases cs j o' e with⟨hj,e⟩ |⟨rfl,rfl⟩
  ·obtain⟨O',hm,hc⟩:=h.mem j o' e
   exact⟨O',by rw[setN.agr j hj];exact s _ hm,hc.grow (Sub.refl _) setN.agr le⟩
  ·exact⟨O,by rw[setN.at];exact m,k.grow (Sub.refl _) setN.agr le⟩
 ·rcases cs j _ e with⟨hj,e⟩ |⟨rfl,rfl⟩
  ·rw[setN.agr j hj];exact h.fro j vs e
  ·exact absurd rfl (hn vs)
 ·simp at hi
  rcases cs j o' e with⟨hj,e⟩ |⟨rfl,rfl⟩
  ·rw[setN.agr j hj]
   rcases Nat.lt_or_ge i σ.length with hi' |hi'
   ·rw[setN.agr i hi'];exact h.inj i j o' e mu hi' hn
   ·have:i=σ.length:=Nat.le_antisymm (lN 0x3ce8410a120f3a12a2 hi) (lN 0xf3a11cf3a12a2 hi')
    subst this
    rw[setN.at];exact(old j hj).symm
  ·have hi':i<σ.length:=by omega
   rw[setN.at,setN.agr i hi']
   exact old i hi'
theorem Rel.add{σ:Sto}{l l':Led}(h:Rel w pr fz σ ι l){D:Addr}{O:Obj}(s:Sub l l')(f:FreshAt D l)(m:(D,O)∈l'):Rel w pr ((D,O)::fz) σ ι l'∧Ext pr fz ((D,O)::fz):=by
 refine⟨⟨h.subp.trans s,fun p hp=>?_,fun k o e mu=>⟨(h.own k o e mu).1,fun p hp=>?_⟩,fun k o e=>?_,fun k vs e=>(h.fro k vs e).mono Sub.cons,h.inj⟩,⟨Sub.cons,fun p hp=>?_⟩⟩
 ·rcases List.mem_cons.mp hp with e |hp
  ·exact e▸m
  ·exact s _ (h.subf p hp)
 ·rcases List.mem_cons.mp hp with e' |hp
  ·obtain⟨O',hm,o1_⟩:=h.mem k o e
   rw[e'];exact(f _ hm).symm
  ·exact(h.own k o e mu).2 p hp
 ·obtain⟨O',hm,hc⟩:=h.mem k o e
  exact⟨O',s _ hm,hc.grow Sub.cons Agr.refl (Nat.le_refl _)⟩
 ·rcases List.mem_cons.mp hp with e |hp
  ·rw[e];exact .inr fun q hq=>f q (h.subp q hq)
  ·exact .inl hp
noncomputable def InA(l:Led)(a:Addr):Prop:=∃o,(a,o)∈l
theorem Rel.own_in{σ:Sto}{own l l1:Led}{src:List Addr}(h:Rel w pr fz σ ι l)(s:Sub l l1)(so:Sub own l1)(f:∀p∈own,FreshAt p.1 l∨p.1∈src)(hs:∀b∈src,InA fz b):Rel w (own++pr) fz σ ι l1:=by
 refine⟨fun p hp=>(List.mem_append.mp hp).elim (so p) fun hp=>s p (h.subp p hp),h.subf.trans s,fun k o e mu=>⟨fun p hp=>(List.mem_append.mp hp).elim (fun hp=>?_) ((h.own k o e mu).1 p),(h.own k o e mu).2⟩,fun k o e=>(h.mem k o e).imp fun O p=>⟨s _ p.1,p.2⟩,h.fro,h.inj⟩
 rcases f p hp with f |f
 ·obtain⟨O,hm,o1_⟩:=h.mem k o e
  exact(f _ hm).symm
 ·obtain⟨o',ho⟩:=hs _ f
  exact(h.own k o e mu).2 (p.1,o') ho
theorem Rel.own_out{σ σ':Sto}{own l l' l2:Led}{src:List Addr}(h:Rel w pr fz σ ι l)(h':Rel w (own++pr) fz' σ' ι' l')(g:Agr σ.length ι ι')(x:Ext (own++pr) fz fz')(n:σ'.length=σ.length)(f:∀p∈own,FreshAt p.1 l∨p.1∈src)
  (k:∀p∈l',(FreshAt p.1 own∨p.1∈src)→p∈l2):Rel w pr fz' σ' ι' l2:=by
 have key:∀p,p∈l'→InA l p.1→p∈l2:=fun p hp ⟨o,ho⟩=>k p hp (by
  by_cases hs:p.1∈src
  ·exact .inr hs
  ·refine .inl fun q hq e=>?_
   rcases f q hq with f |f
   ·exact f _ ho e.symm
   ·exact hs (e▸f))
 refine⟨fun p hp=>key p (h'.subp p (List.mem_append_right _ hp)) ⟨_,h.subp p hp⟩,fun p hp=>?_,fun k o e mu=>⟨fun p hp=>(h'.own k o e mu).1 p (List.mem_append_right _ hp),(h'.own k o e mu).2⟩,fun k o e=>(h'.mem k o e).imp fun O p=>⟨key _ p.1 ?_,p.2⟩,h'.fro,h'.inj⟩
 ·rcases x.new p hp with q |q
  ·exact key p (h'.subf p hp) ⟨_,h.subf p q⟩
  ·exact k p (h'.subf p hp) (.inl fun q' hq'=>q q' (List.mem_append_left _ hq'))
 ·have hk:k<σ.length:=n▸(List.getElem?_eq_some_iff.mp e).1
  obtain⟨O',hm,o1_⟩:=h.mem k _ (List.getElem?_eq_getElem hk)
  rw[g k hk]
  exact⟨_,hm⟩
theorem Ext.of_app{own fz fz':Led}(x:Ext (own++pr) fz fz'):Ext pr fz fz':=⟨x.sub,fun p hp=>(x.new p hp).imp id fun f q hq=>f q (List.mem_append_right _ hq)⟩
end
mutual
inductive Sh:V→V→Prop where
 |refl {a:V}:Sh a a
 |int {n:Int} {b l b' l':Option Nat} (h:In n b l→In n b' l'):Sh (.int n b l) (.int n b' l')
 |tup {vs us:List V} (h:Shs vs us):Sh (.tup vs) (.tup us)
 |lst {vs us:List V} (h:Shs vs us):Sh (.lst vs) (.lst us)
inductive Shs:List V→List V→Prop where
 |nil:Shs [] []
 |cons {a b:V} {vs us:List V} (h:Sh a b) (t:Shs vs us):Shs (a::vs) (b::us)
end
theorem Rep.sh{w:World}{fz:Led}{a b:V}(h:Sh a b):∀{v:Value},Rep w fz a v→Rep w fz b v:=by
 refine Sh.rec (motive_1:=fun a b o1_=>∀v,Rep w fz a v→Rep w fz b v) (motive_2:=fun a b o1_=>∀v,Reps w fz a v→Reps w fz b v) (fun o1_ h=>h) (fun h v k=>?_) (fun o1_ h v k=>?_) (fun o1_ h v k=>?_) (fun o1_ h=>h) (fun o1_ o2_ h t v k=>?_) h _
 ·cases k with
  |int k=>exact .int (h k)
 ·cases k with
  |tup m k=>exact .tup m (h _ k)
  |base m k=>exact .base m (h _ k)
 ·cases k with
  |lst m d k=>exact .lst m d (h _ k)
 ·cases k with
  |cons k k'=>exact .cons (h _ k) (t _ k')
theorem RepV.sh{w:World}{fz:Led}{N:Nat}{ι:Nat→Addr}{a b:V}(h:Sh a b){v:Value}(k:RepV w fz N ι a v):RepV w fz N ι b v:=by
 cases k with
 |dat k=>exact .dat (Rep.sh h k)
 |ref k=>cases h;exact .ref k
end
set_option genInjectivity false in
structure Wx where
 look:Sto→Str→Option V
 glo:Str→Bool
 κ:List (Str×Nat)
 ns:List (Str×NameKind)
structure Nm{sc:Scope}(c:Cx sc)(env:Env)(m:Mp)(fz:Led)(N:Nat)(ι:Nat→Addr)(X:Wx):Prop where
 var:∀pr ι' fz' σ l' x pos a,Sub fz fz'→Agr N ι ι'→N≤σ.length→Rel c.w pr fz' σ ι' l'→X.look σ x=some a→TE c env m l' (.Name x pos) (fun u l''=>RepV c.w fz' σ.length ι' a u∧l''=l')
 glo:∀x,X.glo x=true→∀l' pos u,(nsIn (Mine.K c.w.params) mainGlobals x=some (some u)∨nsIn (Mine.K c.w.params) mainGlobals x=some none∧bootBuiltins x=some u∧x≠ "__name__")→EV c env m l' (.Name x pos) u
 cel:∀x k,List.lookup x X.κ=some k→k<N∧env.cells.lookup x=some (ι k)
 nms:env.scope.names=X.ns
 knd:env.scope.kind= .function
 gl:env.globals=mainGlobals
 bu:env.builtins=builtinsNs
noncomputable def AE{sc:Scope}(c:Cx sc)(env:Env)(X:Wx)(e:PySem.Expr)(σ:Sto)(K:V→Sto→Prop):Prop:=
 ∀pr fz m ι l,Nm c env m fz σ.length ι X→Rel c.w pr fz σ ι l→TE c env m l e (Pk c.w pr fz σ.length ι K)
noncomputable def AL{sc:Scope}(c:Cx sc)(env:Env)(X:Wx)(es:List PySem.Expr)(σ:Sto)(K:List V→Sto→Prop):Prop:=
 ∀pr fz m ι l,Nm c env m fz σ.length ι X→Rel c.w pr fz σ ι l→TEL c env m l es (Pks c.w pr fz σ.length ι K)
noncomputable def AT{sc:Scope}(c:Cx sc)(env:Env)(X:Wx)(e:PySem.Expr)(σ:Sto)(K:Bool→Sto→Prop):Prop:=
 ∀pr fz m ι l,Nm c env m fz σ.length ι X→Rel c.w pr fz σ ι l→TT c env m l e (Pb c.w pr fz σ.length ι K)
section
variable {sc:Scope} {c:Cx sc} {env:Env} {m:Mp} {l:Led} {d:Nat} {X:Wx} {σ:Sto} {ι:Nat→Addr} {K:V→Sto→Prop} {pr fz:Led} {N:Nat}
theorem Nm.grow{M:Nat}{ι':Nat→Addr}{fz':Led}(h:Nm c env m fz N ι X)(s:Sub fz fz')(g:Agr N ι ι')(n:N≤M):Nm c env m fz' M ι' X:=
 ⟨fun pr ι'' fz'' σ l' x pos a s' g' n' r e=>h.var pr ι'' fz'' σ l' x pos a (s.trans s') (g.trans g' n) (Nat.le_trans n n') r e,h.glo,fun x k e=>⟨Nat.lt_of_lt_of_le (h.cel x k e).1 n,by rw[g k (h.cel x k e).1];exact(h.cel x k e).2⟩,h.nms,h.knd,h.gl,h.bu⟩
theorem Pk.here{a:V}{v:Value}(k:K a σ)(hv:RepV c.w fz σ.length ι a v)(r:Rel c.w pr fz σ ι l):Pk c.w pr fz σ.length ι K v l:= .mk _ _ _ _ k hv r Agr.refl (Nat.le_refl _) Ext.refl
theorem AE.name{x:Str}{pos:Pos}{a:V}(e:X.look σ x=some a)(k:K a σ):AE c env X (.Name x pos) σ K:=fun pr fz m ι l hn r=>
 (hn.var pr ι fz σ l x pos a (Sub.refl _) Agr.refl (Nat.le_refl _) r e).mono fun o1_ o2_ p=>p.2▸.here k p.1 r
theorem AL.nil{K:List V→Sto→Prop}(k:K [] σ):AL c env X [] σ K:=fun pr fz m ι l hn r=>TEL.nil (.mk _ _ _ _ k .nil r Agr.refl (Nat.le_refl _) Ext.refl)
theorem TEL.mono{es:List PySem.Expr}{P P':List Value→Led→Prop}(h:TEL c env m l es P)(k:∀v l',P v l'→P' v l'):TEL c env m l es P':=fun s Q E pos F N q=>h s Q E pos F N fun v l' h' tk' p=>q v l' h' tk' (k v l' p)
theorem AL.cons{K:List V→Sto→Prop}{e:PySem.Expr}{es:List PySem.Expr}(h:AE c env X e σ (fun a σ'=>AL c env X es σ' (fun as σ''=>K (a::as) σ'')))(hst:starEach (e::es) env=(false,eval e env)::starEach es env):AL c env X (e::es) σ K:=fun pr fz m ι l hn r=>
 TEL.cons ((h pr fz m ι l hn r).mono fun v l' p=>p.elim fun ι' fz' σ' a k hv r' g n x=>(k pr fz' m ι' l' (hn.grow x.sub g n) r').mono fun vs l'' p'=>p'.elim fun ι'' fz'' σ'' as k' hvs r'' g' n' x'=>
  .mk ι'' fz'' σ'' (a::as) k' (.cons (hv.grow x'.sub g' n') hvs) r'' (g.trans g' n) (Nat.le_trans n n') (x.trans x')) hst
end
noncomputable def frzK(σ:Sto)(K:V→Sto→Prop):V→Prop
 |.ref k=>match σ[k]? with
  |some (.lst vs)=>K (.lst vs) (σ.set k (.frz vs))
  |some (.frz vs)=>K (.lst vs) σ
  |_=>False
 |a=>K a σ
noncomputable def frzL:List V→Sto→(List V→Sto→Prop)→Prop
 |[],σ,K=>K [] σ
 |a::r,σ,K=>frzK σ (fun b σ1=>frzL r σ1 (fun bs σ2=>K (b::bs) σ2)) a
inductive Fz{α β:Type}(R:Led→α→β→Prop)(w:World)(pr fz:Led)(N:Nat)(ι:Nat→Addr)(l:Led)(K:α→Sto→Prop)(v:β):Prop where
 |mk (fz':Led) (σ':Sto) (b:α) (k:K b σ') (h:R fz' b v) (r:Rel w pr fz' σ' ι l) (n:σ'.length=N) (x:Ext pr fz fz')
theorem Fz.elim{α β:Type}{R:Led→α→β→Prop}{w:World}{pr fz:Led}{N:Nat}{ι:Nat→Addr}{l:Led}{K:α→Sto→Prop}{v:β}{C:Prop}(h:Fz R w pr fz N ι l K v)
  (f:∀fz' σ' b,K b σ'→R fz' b v→Rel w pr fz' σ' ι l→σ'.length=N→Ext pr fz fz'→C):C:=by
 cases h;apply f <;> assumption
theorem Rel.freeze{w:World}{pr fz l:Led}{σ:Sto}{ι:Nat→Addr}{k:Nat}{vs:List V}(h:Rel w pr fz σ ι l)(e:σ[k]?=some (.lst vs)):
  ∃fz',Rel w pr fz' (σ.set k (.frz vs)) ι l∧Rep w fz' (.lst vs) (.ref (ι k))∧Ext pr fz fz':=by
 obtain⟨O,hm,hc⟩:=h.mem k _ e
 cases hc with
 |lst hr hd=>
 have ow:=h.own k _ e rfl
 have cs:∀j o,(σ.set k (.frz vs))[j]?=some o→(j≠k∧σ[j]?=some o)∨(j=k∧o= .frz vs):=fun j o e'=>by
  rw[List.getElem?_set] at e'
  split at e'
  ·split at e'
   ·exact .inr ⟨(‹k=j›).symm,(Option.some.inj e').symm⟩
   ·exact nomatch e'
  ·exact .inl ⟨Ne.symm ‹_›,e'⟩
 have lt:=(List.getElem?_eq_some_iff.mp e).1
 have hr':Rep w ((ι k,O)::fz) (.lst vs) (.ref (ι k)):= .lst (.head _) hd.w (hr.mono Sub.cons)
 refine⟨(ι k,O)::fz,⟨h.subp,fun p hp=>?_,fun j o e' mu=>?_,fun j o e'=>?_,fun j us e'=>?_,fun i j o e' mu hi hn=>?_⟩,hr',Sub.cons,fun p hp=>?_⟩
 ·rcases List.mem_cons.mp hp with e |hp
  ·exact e▸hm
  ·exact h.subf p hp
 ·rcases cs j o e' with⟨hn,e'⟩ |⟨_,rfl⟩
  ·refine⟨(h.own j o e' mu).1,fun p hp=>?_⟩
   rcases List.mem_cons.mp hp with e |hp
   ·rw[e];exact h.inj k j o e' mu lt hn.symm
   ·exact(h.own j o e' mu).2 p hp
  ·exact nomatch mu
 ·rw[List.length_set]
  rcases cs j o e' with⟨hn,e'⟩ |⟨rfl,rfl⟩
  ·obtain⟨O',hm',hc'⟩:=h.mem j o e'
   exact⟨O',hm',hc'.grow Sub.cons Agr.refl (Nat.le_refl _)⟩
  ·exact⟨O,hm,.frz⟩
 ·rcases cs j _ e' with⟨hn,e2⟩ |⟨rfl,e2⟩
  ·exact(h.fro j us e2).mono Sub.cons
  ·have:us=vs:=by injection e2
   subst this;exact hr'
 ·rw[List.length_set] at hi
  rcases cs j o e' with⟨_,e'⟩ |⟨_,rfl⟩
  ·exact h.inj i j o e' mu hi hn
  ·exact nomatch mu
 ·rcases List.mem_cons.mp hp with e |hp
  ·rw[e];exact .inr fun q hq=>ow.1 q hq
  ·exact .inl hp
section
variable {w:World} {pr fz l:Led} {σ:Sto} {ι:Nat→Addr}
theorem frzK.ok{K:V→Sto→Prop}{a:V}{v:Value}(h:frzK σ K a)(r:Rel w pr fz σ ι l)(hv:RepV w fz σ.length ι a v):Fz (Rep w) w pr fz σ.length ι l K v:=by
 cases hv with
 |dat hv=>
  have h:K a σ:=by cases hv <;> exact h
  exact .mk fz σ a h hv r rfl Ext.refl
 |@ref k hk=>
  have h:(match σ[k]? with
  |some (.lst vs)=>K (.lst vs) (σ.set k (.frz vs))
  |some (.frz vs)=>K (.lst vs) σ
  |_=>False):=h
  cases e:σ[k]? with
  |none=>rw[e] at h;exact h.elim
  |some o=>
   rw[e] at h
   induction o using AO.casesOn with
   |lst vs=>obtain⟨fz',r',hr,x⟩:=r.freeze e;exact .mk fz' _ _ h hr r' (List.length_set ..) x
   |frz vs=>exact .mk fz σ _ h (r.fro k vs e) r rfl Ext.refl
   |cell o1_=>exact h.elim
   |ns o1_=>exact h.elim
   |cst o1_=>exact h.elim
   |obj o1_=>exact h.elim
   |ins o1_=>exact h.elim
theorem frzL.ok{as:List V}:∀{fz:Led} {σ:Sto} {K:List V→Sto→Prop} {vs:List Value},frzL as σ K→Rel w pr fz σ ι l→Reqs w fz σ.length ι as vs→Fz (Reps w) w pr fz σ.length ι l K vs:=by
 induction as with
 |nil=>intro fz σ K vs h r hv;cases hv;exact .mk fz σ [] h .nil r rfl Ext.refl
 |cons a as ih=>
  intro fz σ K vs h r hv
  cases hv with
  |cons h1 ht=>
   exact(frzK.ok h r h1).elim fun fz1 σ1 b k1 r1 R1 n1 x1=>(ih k1 R1 (n1▸ht.grow x1.sub Agr.refl (Nat.le_refl _))).elim fun fz2 σ2 bs k2 r2 R2 n2 x2=>
    .mk fz2 σ2 (b::bs) k2 (.cons (r1.mono x2.sub) r2) R2 (n2.trans n1) (x1.trans x2)
end
section
variable {sc:Scope} {c:Cx sc} {env:Env} {m:Mp} {l:Led} {d:Nat} {X:Wx} {σ:Sto} {ι:Nat→Addr} {K:V→Sto→Prop} {pr fz:Led} {N:Nat}
theorem AE.tuple{es:List PySem.Expr}{kd:Nat}{pos:Pos}(h:AL c env X es σ (fun as σ'=>Nat.ble as.length 8=true∧frzL as σ' (fun bs σ''=>K (.tup bs) σ''))):AE c env X (.Tuple es kd pos) σ K:=fun pr fz m ι l hn r=>
 TE.tuple (TEL.mono (h pr fz m ι l hn r) fun vs l' p=>p.elim fun ι' fz' σ' as k hv r' g n x=>⟨by rw[←hv.length];exact k.1,fun D l'' hm hs hf=>(frzL.ok k.2 r' hv).elim fun fz2 σ2 bs k2 r2 R2 n2 x2=>
  have A:=R2.add hs hf hm
  .mk ι' _ σ2 (.tup bs) k2 (.dat (.tup (.head _) (r2.mono Sub.cons))) A.1 g (n2▸n) ((x.trans x2).trans A.2)⟩)
theorem AE.list{es:List PySem.Expr}{pos:Pos}(h:AL c env X es σ (fun as σ'=>Nat.ble as.length 8=true∧frzL as σ' (fun bs σ''=>K (.ref σ''.length) (σ''++[.lst bs])))):AE c env X (.List es pos) σ K:=fun pr fz m ι l hn r=>
 TE.list (TEL.mono (h pr fz m ι l hn r) fun vs l' p=>p.elim fun ι' fz' σ' as k hv r' g n x=>⟨by rw[←hv.length];exact k.1,fun D l'' hm hs hf=>(frzL.ok k.2 r' hv).elim fun fz2 σ2 bs k2 r2 R2 n2 x2=>
  .mk (setN ι' σ2.length D) fz2 _ (.ref σ2.length) k2 (by have:=RepV.ref (w:=c.w) (fz:=fz2) (N:=(σ2++[AO.lst bs]).length) (ι:=setN ι' σ2.length D) (k:=σ2.length) (by simp);rwa [setN.at] at this) (R2.new hs hf hm (.lst r2 ⟨⟨rfl,rfl⟩,_,rfl⟩) (fun o1_ e=>by exact nomatch e)) (fun j hj=>(setN.agr j (by rw[n2];exact Nat.lt_of_lt_of_le hj n)).trans (g j hj)) (by rw[List.length_append,n2];exact Nat.le_trans n (Nat.le_add_right _ _)) (x.trans x2)⟩)
end
noncomputable def fo(n:Nat)(k:Nat→Prop):Prop:=Nat.rec (k 0) (fun m o1_=>k (m+1)) n
theorem fo.ok{n:Nat}{k:Nat→Prop}(h:fo n k):k n:=by cases n <;> exact h
noncomputable def o2(f:Nat→Nat→Nat)(k:Option Nat→Prop):Option Nat→Option Nat→Prop
 |some x,some y=>fo (f x y) fun z=>k (some z)
 |_,_=>k none
theorem o2.ok{f:Nat→Nat→Nat}{k:Option Nat→Prop}{a b:Option Nat}(h:o2 f k a b):∃c,k c∧∀z,c=some z→∃x y,a=some x∧b=some y∧z=f x y:=by
 induction a using Option.casesOn with
 |none=>exact⟨none,h,fun o1_ e=>(nomatch e)⟩
 |some x=>induction b using Option.casesOn with
  |none=>exact⟨none,h,fun o1_ e=>(nomatch e)⟩
  |some y=>exact⟨some (f x y),fo.ok (k:=fun z=>k (some z)) h,fun z e=>⟨x,y,rfl,rfl,(Option.some.inj e).symm⟩⟩
noncomputable def isP:Option Nat→Bool
 |some x=>Nat.ble 1 x
 |none=>false
noncomputable def nzK(j:Int)(l:Option Nat)(p:Prop):Prop:=cond (isP l) p (j≠0∧p)
noncomputable def fk(k:Option Nat→Prop):Option Nat→Prop
 |some x=>fo x fun z=>k (some z)
 |none=>k none
theorem fk.ok{k:Option Nat→Prop}{o:Option Nat}(h:fk k o):k o:=by
 induction o using Option.casesOn with
 |none=>exact h
 |some x=>exact fo.ok (k:=fun z=>k (some z)) h
noncomputable def lo0(z:Bool):Option Nat:=cond z (some 0) none
noncomputable def isS:Option Nat→Bool
 |some o1_=>true
 |none=>false
noncomputable abbrev IK:=Int→Option Nat→Option Nat→Prop
noncomputable def wMul(i j:Int)(li lj:Option Nat)(k:IK):Option Nat→Option Nat→Prop
 |some x,some y=>cond (Nat.ble (x+y) 134217728) (fo (x+y) fun b=>o2 (· * ·) (fun l=>k (i*j) (some b) l) li lj) False
 |_,_=>IntMulOk i j∧k (i*j) none none
noncomputable def wDiv(i j:Int)(bi li lj:Option Nat)(k:IK):Option Nat→Prop
 |some y=>cond (Nat.ble y 9000) (nzK j lj (fk (fun l=>k (i.fdiv j) bi l) (lo0 (isS li&&isP lj)))) False
 |none=>False
noncomputable def wPow(i j:Int)(li:Option Nat)(k:IK):Option Nat→Option Nat→Option Nat→Prop
 |some x,some y,some _=>cond (Nat.ble y 24) (cond (Nat.ble (x*2^y) 134217728) (fo (x*2^y+1) fun b=>k (i^j.toNat) (some b) (cond (isP li) (some 1) none)) False) False
 |_,_,_=>False
noncomputable def Bo(i:Int)(bi li:Option Nat)(j:Int)(bj lj:Option Nat)(k:IK):Operator→Prop
 |.Add=>o2 (fun x y=>x+(y-x)+1) (fun b=>o2 (· + ·) (fun l=>k (i+j) b l) li lj) bi bj
 |.Sub=>o2 (fun x y=>x+(y-x)+1) (fun b=>k (i-j) b none) bi bj
 |.Mult=>wMul i j li lj k bi bj
 |.FloorDiv=>wDiv i j bi li lj k bj
 |.Mod=>nzK j lj (fk (fun l=>k (i.fmod j) bj l) (lo0 (isP lj)))
 |.Pow=>wPow i j li k bi bj lj
 |_=>False
noncomputable def loI:Int→Option Nat
 |.ofNat m=>some m
 |.negSucc _=>none
noncomputable def wInt(n:Int)(k:IK):Prop:=fo (intBits n) fun b=>k n (some b) (loI n)
theorem loI.ok{n:Int}{k:Nat}(h:loI n=some k):(k:Int)≤n:=by
 cases n with
 |ofNat m=>cases Option.some.inj h;exact Int.le_refl _
 |negSucc o1_=>exact nomatch h
theorem wInt.ok{n:Int}{k:IK}(h:wInt n k):∃b l,In n b l∧k n b l:=⟨_,_,⟨fun x e=>by cases Option.some.inj e;exact Nat.le_refl _,fun k e=>loI.ok e⟩,fo.ok h⟩
theorem isP.ok{l:Option Nat}{j:Int}{b:Option Nat}(h:isP l=true)(hj:In j b l):0<j:=by
 induction l using Option.casesOn with
 |none=>exact nomatch h
 |some x=>
  have h1:=Nat.le_of_ble_eq_true h
  have h2:=hj.l x rfl
  omega
theorem nzK.ok{j:Int}{b l:Option Nat}{p:Prop}(h:nzK j l p)(hj:In j b l):j≠0∧p:=by
 unfold nzK at h
 cases e:isP l with
 |true=>
  rw[e] at h
  exact⟨by have:=isP.ok e hj;exact fun o_=>lI 0x8413812413a1221 this o_,h⟩
 |false=>rw[e] at h;exact h
theorem lo0.ok{z:Bool}{k:Nat}{n:Int}(h:lo0 z=some k)(q:z=true→0≤n):(k:Int)≤n:=by
 induction z using Bool.casesOn with
 |true=>cases Option.some.inj h;exact q rfl
 |false=>exact nomatch h
theorem isS.ok{l:Option Nat}{j:Int}{b:Option Nat}(h:isS l=true)(hj:In j b l):0≤j:=by
 induction l using Option.casesOn with
 |none=>exact nomatch h
 |some x=>exact Int.le_trans (Int.natCast_nonneg x) (hj.l x rfl)
theorem cond_t{b:Bool}{p:Prop}(h:cond b p False):b=true∧p:=by
 cases b
 ·exact h.elim
 ·exact⟨rfl,h⟩
theorem mx_eq(x y:Nat):x+(y-x)=max x y:=by rw[Nat.add_comm,Nat.sub_add_eq_max,Nat.max_comm]
section
variable {sc:Scope} {c:Cx sc} {m:Mp} {l:Led} {P:VP}
noncomputable def TO{sc:Scope}(c:Cx sc)(m:Mp)(l:Led)(x:Sem Value)(P:VP):Prop:=
 ∀(s:Shared) (Q E:Value→Shared→Prop),Fr c.h₀ c.L s.heap m→News c.h₀ c.L s.heap l→
  (∀v l' h' tk',P v l'→Fr c.h₀ c.L h' m→News c.h₀ c.L h' l'→Q v ⟨h',s.gens,s.drawn,tk',s.os⟩)→wpAny (MD c.w) c.A x Q E s
theorem TO.mono{x:Sem Value}{P':VP}(h:TO c m l x P)(k:∀v l',P v l'→P' v l'):TO c m l x P':=fun s Q E F N q=>h s Q E F N fun v l' h' tk' p=>q v l' h' tk' (k v l' p)
theorem Bo.ok{op:Operator}{i j:Int}{bi li bj lj:Option Nat}{k:IK}{t u:Tok}(h:Bo i bi li j bj lj k op)(hi:In i bi li)(hj:In j bj lj)(q:∀n b ll t,k n b ll→In n b ll→P (.int n t) l):TO c m l (binaryOp op (.int i t) (.int j u)) P:=by
 induction op using PySem.Operator.casesOn with
 |Add=>
  have h:o2 (fun x y=>x+(y-x)+1) (fun b=>o2 (· + ·) (fun l=>k (i+j) b l) li lj) bi bj:=h
  obtain⟨b,h,hb⟩:=o2.ok h
  obtain⟨ll,h,hl⟩:=o2.ok h
  refine fun s Q E F N k=>add_int (k _ _ _ _ (q _ _ _ _ h ⟨fun z e=>?_,fun z e=>?_⟩) F N)
  ·obtain⟨x,y,rfl,rfl,rfl⟩:=hb z e
   rw[mx_eq];exact bits_add (hi.b _ rfl) (hj.b _ rfl)
  ·obtain⟨x,y,rfl,rfl,rfl⟩:=hl z e
   exact Int.add_le_add (hi.l _ rfl) (hj.l _ rfl)
 |Sub=>
  have h:o2 (fun x y=>x+(y-x)+1) (fun b=>k (i-j) b none) bi bj:=h
  obtain⟨b,h,hb⟩:=o2.ok h
  refine fun s Q E F N k=>sub_int (k _ _ _ _ (q _ _ _ _ h ⟨fun z e=>?_,fun z e=>by cases e⟩) F N)
  obtain⟨x,y,rfl,rfl,rfl⟩:=hb z e
  rw[mx_eq];exact bits_sub (hi.b _ rfl) (hj.b _ rfl)
 |Mult=>
  have go:(IntMulOk i j∧k (i*j) none none)→TO c m l (binaryOp .Mult (.int i t) (.int j u)) P:=fun h s Q E F N k=>mul_int (k _ _ _ _ (q _ _ _ _ h.2 .no) F N) h.1
  induction bi using Option.casesOn with
  |none=>exact go h
  |some x=>induction bj using Option.casesOn with
   |none=>exact go h
   |some y=>
    obtain⟨hz,h⟩:=cond_t h
    obtain⟨ll,h,hl⟩:=o2.ok (fo.ok h)
    have bx:=hi.b _ rfl
    have by':=hj.b _ rfl
    refine fun s Q E F N k=>mul_int (k _ _ _ _ (q _ _ _ _ h ⟨fun z e=>?_,fun z e=>?_⟩) F N) (IntMulOk.of_le bx by' (Nat.le_of_ble_eq_true hz))
    ·cases Option.some.inj e;exact bits_mul bx by'
    ·obtain⟨x,y,rfl,rfl,rfl⟩:=hl z e
     rw[Int.natCast_mul]
     exact Int.mul_le_mul (hi.l _ rfl) (hj.l _ rfl) (Int.natCast_nonneg _) (Int.le_trans (Int.natCast_nonneg _) (hi.l _ rfl))
 |FloorDiv=>
  induction bj using Option.casesOn with
  |none=>exact h.elim
  |some y=>
   obtain⟨hz,h⟩:=cond_t h
   obtain⟨h0,h⟩:=nzK.ok h hj
   refine fun s Q E F N k=>floordiv_int h0 (k _ _ _ _ (q _ _ _ _ (fk.ok h) ⟨fun z e=>bits_fdiv (hi.b z e),fun z e=>lo0.ok e fun e=>?_⟩) F N) (Or.inl (np_of_bits (hj.b _ rfl) (Nat.le_of_ble_eq_true hz)))
   rw[Bool.and_eq_true] at e
   exact Int.fdiv_nonneg (isS.ok e.1 hi) (Int.le_of_lt (isP.ok e.2 hj))
 |Mod=>
  obtain⟨h0,h⟩:=nzK.ok h hj
  exact fun s Q E F N k=>mod_int' h0 (k _ _ _ _ (q _ _ _ _ (fk.ok h) ⟨fun z e=>bits_fmod_by h0 (hj.b z e),fun z e=>lo0.ok e fun e=>Int.fmod_nonneg_of_pos _ (isP.ok e hj)⟩) F N)
 |Pow=>
  induction bi using Option.casesOn with
  |none=>exact h.elim
  |some x=>induction bj using Option.casesOn with
   |none=>exact h.elim
   |some y=>induction lj using Option.casesOn with
    |none=>exact h.elim
    |some w=>
     obtain⟨o1_,h⟩:=cond_t h
     obtain⟨hz,h⟩:=cond_t h
     have h0:0≤j:=Int.le_trans (Int.natCast_nonneg w) (hj.l _ rfl)
     have hb:=hi.b _ rfl
     have hy:j.toNat≤2^y:=Nat.le_trans (Nat.le_of_eq (Int.ofNat.inj ((Int.toNat_of_nonneg h0).trans (Int.natAbs_of_nonneg h0).symm))) (Nat.le_of_lt (PySem.intBits_le_iff.mp (hj.b _ rfl)))
     have hm:intBits i*j.toNat≤x*2^y:=Nat.mul_le_mul hb hy
     have hz:=Nat.le_of_ble_eq_true hz
     refine fun s Q E F N k=>(BinOk.pow (c:=c) (K:=fun v o1_=>P v l) (l:=l) h0 ?_ fun t=>q _ _ _ t (fo.ok h) ⟨fun z e=>?_,fun z e=>?_⟩).elim fun n p=>p.1 s t u Q E fun v tk=>k _ _ _ _ (p.2 v) F N
     ·have e:(intBits i:Int)*j=((intBits i*j.toNat:Nat):Int):=by rw[Int.natCast_mul,Int.toNat_of_nonneg h0]
      rw[e];exact Int.le_trans (Int.ofNat_le.mpr (Nat.le_trans hm hz)) (by decide)
     ·cases e
      exact Nat.le_trans (PySem.intBits_pow_le hb j.toNat) (Nat.succ_le_succ (Nat.mul_le_mul (Nat.le_refl _) hy))
     ·cases e2:isP li with
      |false=>rw[e2] at e;exact nomatch e
      |true=>
       rw[e2] at e;cases e
       exact Int.pow_pos (isP.ok e2 hi)
 |_=>exact h.elim
end
noncomputable def conts(σ:Sto):V→Option (List V)
 |.tup vs=>some vs
 |.lst vs=>some vs
 |.ref k=>match σ[k]? with
  |some (.lst vs)=>some vs
  |some (.frz vs)=>some vs
  |_=>none
 |_=>none
noncomputable def nth(vs:List V):Int→Option V
 |.ofNat i=>bif Nat.ble i 999 then vs[i]? else none
 |.negSucc i=>bif Nat.ble i 999&&Nat.ble (i+1) vs.length then vs[vs.length-(i+1)]? else none
noncomputable def isTp:V→Bool
 |.tup _=>true
 |_=>false
section
variable {sc:Scope} {c:Cx sc} {env:Env} {m:Mp} {l:Led} {d:Nat} {X:Wx} {σ:Sto} {ι:Nat→Addr} {K:V→Sto→Prop} {pr fz:Led} {N:Nat}
noncomputable def SqAt{sc:Scope}(c:Cx sc)(l:Led)(t:Bool)(A:Addr)(ws:List Value):Prop:=∀m h,Fr c.h₀ c.L h m→News c.h₀ c.L h l→cond t (h.IsTuple A ws.toArray) (h.IsList A ws.toArray)
theorem SqAt.lst{A:Addr}{o:Obj}{ws:List Value}(hm:(A,o)∈l)(hd:LW o ws):SqAt c l false A ws:=fun m h F N=>⟨o,(N _ hm).1,hd.1,hd.2⟩
theorem conts_at{a:V}{v:Value}{vs:List V}(ok:Cok c d)(h:conts σ a=some vs)(r:Rel c.w pr fz σ ι l)(hv:RepV c.w fz σ.length ι a v):∃A ws,v= .ref A∧Reps c.w fz vs ws∧SqAt c l (isTp a) A ws:=by
 cases hv with
 |dat hv=>
  cases hv with
  |tup hm hr=>cases Option.some.inj h;exact⟨_,_,rfl,hr,fun m h F N=>⟨_,(N _ (r.subf _ hm)).1,rfl,_,rfl⟩⟩
  |lst hm hd hr=>cases Option.some.inj h;exact⟨_,_,rfl,hr,.lst (r.subf _ hm) hd⟩
  |base hm hr=>
   cases h
   obtain⟨dd,nn,sl,hm⟩:=hm
   exact⟨_,_,rfl,hr,fun m h F N=>⟨_,ok.X.keeps F.keep _ _ hm,rfl,_,rfl⟩⟩
  |_=>exact nomatch h
 |@ref k hk=>
  have h:(match σ[k]? with
  |some (.lst vs)=>some vs
  |some (.frz vs)=>some vs
  |_=>none)=some vs:=h
  cases e:σ[k]? with
  |none=>rw[e] at h;exact nomatch h
  |some o=>
   rw[e] at h
   induction o using AO.casesOn with
   |lst us=>
    obtain⟨O,hm,hc⟩:=r.mem k _ e
    cases hc with
    |lst hr hd=>cases Option.some.inj h;exact⟨_,_,rfl,hr,.lst hm hd.w⟩
   |frz us=>
    cases h
    cases r.fro k _ e with
    |lst m d hr=>exact⟨_,_,rfl,hr,.lst (r.subf _ m) d⟩
   |_=>exact nomatch h
theorem GetIt.at{A:Addr}{ws:List Value}{vs:List V}{t:Bool}{i:Int}{u:V}(h:SqAt c l t A ws)(hr:Reps c.w fz vs ws)(e:nth vs i=some u):∃w,GetIt c m l A i w∧Rep c.w fz u w:=by
 have hl:=hr.length
 have go:∀(j:Nat) (w:Value),(-2^63:Int)≤i→i<2^63→seqIndex? i ws.length=some j→ws[j]?=some w→(0≤i∧i.toNat=j∨i<0∧-(ws.length:Int)≤i∧(i+ws.length).toNat=j)→GetIt c m l A i w:=fun j w h1 h2 hj hw hc e ix tk s Q E hs F N q=>by
  have:=h m _ F N
  cases t with
  |true=>exact item_tupleT this h1 h2 hj hw q (hs _ _ _)
  |false=>
   rcases hc with⟨h0,e⟩ |⟨h0,h3,e⟩
   ·subst e;exact item_litK this h0 h2 hw q (hs _ _ _)
   ·exact tail_any this.typeIs slot_list_getitem.lookup (wpAny_getItem_list_neg this h0 (by simpa using h3) h1 (by simpa [e] using hw) q) (hs _ _ _)
 cases i with
 |ofNat i=>
  have e:(bif Nat.ble i 999 then vs[i]? else none)=some u:=e
  cases hb:Nat.ble i 999 with
  |false=>rw[hb] at e;exact nomatch e
  |true=>
   rw[hb] at e
   have hi:=Nat.le_of_ble_eq_true hb
   obtain⟨w,hw,hu⟩:=hr.at e
   obtain⟨lt,o1_⟩:=List.getElem?_eq_some_iff.mp hw
   exact⟨w,go i w (Int.le_trans (by decide) (Int.ofNat_nonneg i)) (Int.lt_of_le_of_lt (Int.ofNat_le.mpr hi) (by decide)) (seqIndex_of (by simp) (by simpa using lt)) hw (.inl ⟨Int.ofNat_nonneg i,rfl⟩),hu⟩
 |negSucc i=>
  have e:(bif Nat.ble i 999&&Nat.ble (i+1) vs.length then vs[vs.length-(i+1)]? else none)=some u:=e
  cases hb:(Nat.ble i 999&&Nat.ble (i+1) vs.length) with
  |false=>rw[hb] at e;exact nomatch e
  |true=>
   rw[hb] at e
   rw[Bool.and_eq_true] at hb
   have hi:=Nat.le_of_ble_eq_true hb.1
   have hi2:=Nat.le_of_ble_eq_true hb.2
   obtain⟨w,hw,hu⟩:=hr.at e
   rw[hl] at hw hi2
   have h3: -(ws.length:Int)≤Int.negSucc i:=Int.neg_le_neg (Int.ofNat_le.mpr hi2)
   have h4:(Int.negSucc i+ws.length).toNat=ws.length-(i+1):=congrArg Int.toNat (Int.subNatNat_of_le hi2)
   have h2:Int.negSucc i<0:=Int.negSucc_lt_zero i
   refine⟨w,go (ws.length-(i+1)) w (Int.le_trans (by decide) (Int.neg_le_neg (Int.ofNat_le.mpr (Nat.succ_le_succ hi)))) (Int.lt_trans h2 (by decide)) ?_ hw (.inr ⟨h2,h3,h4⟩),hu⟩
   rw[←h4];unfold seqIndex?;simp;exact⟨lI 0x3c53a11c138f0a12a2 h3,lI 0xf06120f3823a12e2 h2⟩
noncomputable def refy:V→Bool
 |.tup _=>true
 |.lst _=>true
 |.ref _=>true
 |_=>false
theorem refy_ref{w:World}{N:Nat}{a:V}{v:Value}(h:refy a=true)(hv:RepV w fz N ι a v):∃A,v= .ref A:=by
 cases hv with
 |dat hv=>cases hv <;> first |exact⟨_,rfl⟩ |cases h
 |ref o1_=>exact⟨_,rfl⟩
noncomputable def exSw{α:Type}(nm:Str→Pos→α)(tu:List PySem.Expr→Nat→Pos→α)(sl:Option PySem.Expr→Option PySem.Expr→Option PySem.Expr→Pos→α)(ca:PySem.Expr→List PySem.Expr→List Keyword→Pos→α)
  (at':PySem.Expr→Str→Pos→α)(lc:PySem.Expr→List Comprehension→Scope→Pos→α)(sb:PySem.Expr→PySem.Expr→Pos→α)(d:PySem.Expr→α):PySem.Expr→α
 |.Name x p=>nm x p
 |.Tuple ts k p=>tu ts k p
 |.Slice a b c p=>sl a b c p
 |.Call f as ks p=>ca f as ks p
 |.Attribute e a p=>at' e a p
 |.ListComp e gs s p=>lc e gs s p
 |.Subscript o i p=>sb o i p
 |e=>d e
noncomputable def ixOk(e:PySem.Expr):Bool:=Nat.beq e.ctorIdx 19||(Nat.beq e.ctorIdx 23||(Nat.beq e.ctorIdx 2||(Nat.beq e.ctorIdx 3||Nat.beq e.ctorIdx 16)))
theorem ixOk_sub{ix:PySem.Expr}(h:ixOk ix=true)(a:Addr)(k:Int)(u:Tok):subscripted ix false (Value.ref a) (Value.int k u)=operate [Value.ref a,Value.int k u] (getItem (Value.ref a) (Value.int k u)):=by
 induction ix using PySem.Expr.casesOn <;> first |rfl |exact(Bool.false_ne_true h).elim
noncomputable def optN(k:V→Prop):Option V→Prop
 |some u=>k u
 |none=>False
structure IxN(vs:List V)(i:Int)(k:V→Prop):Prop where
 intro ::
 go:optN k (nth vs i)
noncomputable def wIx(vs:List V)(k:V→Prop):Int→Prop
 |.ofNat n=>optN k (nth vs (.ofNat n))
 |.negSucc n=>IxN vs (.negSucc n) k
theorem optN.ok{k:V→Prop}{o:Option V}(h:optN k o):∃u,o=some u∧k u:=by
 induction o using Option.casesOn with
 |none=>exact h.elim
 |some u=>exact⟨u,rfl,h⟩
theorem wIx.ok{vs:List V}{k:V→Prop}{i:Int}(h:wIx vs k i):∃u,nth vs i=some u∧k u:=by
 induction i using Int.casesOn with
 |ofNat n=>exact optN.ok h
 |negSucc n=>exact optN.ok (IxN.go h)
noncomputable def wItC1(σ:Sto)(K:V→Sto→Prop)(i:Int):Option (List V)→Prop
 |some vs=>wIx vs (fun u=>K u σ) i
 |none=>False
noncomputable def wItem(σ:Sto)(K:V→Sto→Prop)(a:V):V→Prop
 |.int i _ _=>wItC1 σ K i (conts σ a)
 |_=>False
theorem wItem.ok{b a:V}{v:Value}{A:Addr}{v2:Value}(ok:Cok c d)(h:wItem σ K a b)(r:Rel c.w pr fz σ ι l)(ha:RepV c.w fz σ.length ι a (.ref A))(hb:RepV c.w fz σ.length ι b v2):
  ∃k t w,v2= .int k t∧GetIt c m l A k w∧Pk c.w pr fz σ.length ι K w l:=by
 cases hb with
 |ref o1_=>exact h.elim
 |dat hb=>
  cases hb with
  |@int i b l t hi=>
   have h:wItC1 σ K i (conts σ a):=h
   cases e:conts σ a with
   |none=>rw[e] at h;exact h.elim
   |some vs=>
    rw[e] at h
    exact(wIx.ok h).elim fun u q=>(conts_at ok e r ha).elim fun B z=>z.elim fun ws z=>(GetIt.at (m:=m) z.2.2 z.2.1 q.1).elim fun w p=>⟨i,t,w,rfl,by rw[show A=B from Value.ref.inj z.1];exact p.1,.here q.2 (.dat p.2) r⟩
  |_=>exact h.elim
theorem AE.sub{e ix:PySem.Expr}{pos:Pos}(ok:Cok c d)(hx:ixOk ix=true)(h:AE c env X e σ (fun a σ1=>refy a=true∧AE c env X ix σ1 (fun b σ2=>wItem σ2 K a b))):AE c env X (.Subscript e ix pos) σ K:=fun pr fz m ι l hn r=>
 TE.subT ((h pr fz m ι l hn r).mono fun v l' p=>p.elim fun ι' fz' σ' a k hv r' g n x=>
  have⟨A,eA⟩:=refy_ref k.1 hv
  ⟨A,eA,(k.2 pr fz' m ι' l' (hn.grow x.sub g n) r').mono fun v2 l'' p'=>p'.elim fun ι'' fz'' σ'' b k' hb r'' g' n' x'=>
   have⟨i,t,w,e1,e2,e3⟩:=wItem.ok (m:=m) (v:=v) ok k' r'' (eA▸hv.grow x'.sub g' n') hb
   ⟨i,t,w,e1,e2,(e3.trans g' n' x').trans g n x⟩⟩) (ixOk_sub hx)
end
noncomputable def Cm:CmpOp→Int→Int→Option Bool
 |.Lt,x,y=>some (decide (x<y))
 |.Gt,x,y=>some (decide (y<x))
 |.LtE,x,y=>some (decide (x≤y))
 |.GtE,x,y=>some (decide (y≤x))
 |.Eq,x,y=>some (x==y)
 |.NotEq,x,y=>some (x != y)
 |_,_,_=>none
noncomputable def asI(K:IK):V→Prop
 |.int i b l=>K i b l
 |_=>False
noncomputable def asB(K:Bool→Prop):V→Prop
 |.bool i=>K i
 |_=>False
noncomputable def optK{α:Type}(k:α→Prop):Option α→Prop
 |some a=>k a
 |none=>False
theorem optK.ok{α:Type}{k:α→Prop}{o:Option α}(h:optK k o):∃a,o=some a∧k a:=by
 cases o
 ·exact h.elim
 ·exact⟨_,rfl,h⟩
noncomputable def onName(k:Str→Pos→Prop):PySem.Expr→Prop:=exSw k (fun o1_ o2_ o3_=>False) (fun o1_ o2_ o3_ o4_=>False) (fun o1_ o2_ o3_ o4_=>False) (fun o1_ o2_ o3_=>False) (fun o1_ o2_ o3_ o4_=>False) (fun o1_ o2_ o3_=>False) fun o1_=>False
theorem onName.el{k:Str→Pos→Prop}{e:PySem.Expr}{C:PySem.Expr→Prop}(h:onName k e)(f:∀x p,k x p→C (.Name x p)):C e:=by
 induction e using PySem.Expr.casesOn with
 |Name x p=>exact f x p h
 |_=>exact h.elim
noncomputable def onTup(k:List PySem.Expr→Nat→Pos→Prop):PySem.Expr→Prop:=exSw (fun o1_ o2_=>False) k (fun o1_ o2_ o3_ o4_=>False) (fun o1_ o2_ o3_ o4_=>False) (fun o1_ o2_ o3_=>False) (fun o1_ o2_ o3_ o4_=>False) (fun o1_ o2_ o3_=>False) fun o1_=>False
theorem onTup.el{k:List PySem.Expr→Nat→Pos→Prop}{e:PySem.Expr}{C:PySem.Expr→Prop}(h:onTup k e)(f:∀ts kd p,k ts kd p→C (.Tuple ts kd p)):C e:=by
 induction e using PySem.Expr.casesOn with
 |Tuple ts kd p=>exact f ts kd p h
 |_=>exact h.elim
noncomputable def onNil{α:Type}(p:Prop):List α→Prop
 |[]=>p
 |_::_=>False
theorem onNil.el{α:Type}{p:Prop}{l:List α}{C:List α→Prop}(h:onNil p l)(f:p→C []):C l:=by
 induction l using List.casesOn with
 |nil=>exact f h
 |cons o1_ o2_=>exact h.elim
noncomputable def onCons{α:Type}(k:α→List α→Prop):List α→Prop
 |[]=>False
 |a::r=>k a r
theorem onCons.el{α:Type}{k:α→List α→Prop}{l:List α}{C:List α→Prop}(h:onCons k l)(f:∀a r,k a r→C (a::r)):C l:=by
 induction l using List.casesOn with
 |nil=>exact h.elim
 |cons a r=>exact f a r h
noncomputable def on1{α:Type}(k:α→Prop):List α→Prop:=onCons fun a r=>onNil (k a) r
theorem on1.el{α:Type}{k:α→Prop}{l:List α}{C:List α→Prop}(h:on1 k l)(f:∀a,k a→C [a]):C l:=onCons.el h fun a o1_ h=>onNil.el (C:=fun r=>C (a::r)) h (f a)
theorem cond_el{z:Bool}{p q C:Prop}(h:cond z p q)(f:z=true→p→C)(g:z=false→q→C):C:=by
 induction z using Bool.casesOn with
 |false=>exact g rfl h
 |true=>exact f rfl h
theorem cond_n{z:Bool}{q C:Prop}(h:cond z False q)(g:z=false→q→C):C:=cond_el h (fun o1_ h=>h.elim) g
theorem and2{a b:Bool}(h:(a&&b)=true):a=true∧b=true:=by
 induction a using Bool.casesOn with
 |false=>exact nomatch h
 |true=>exact⟨rfl,h⟩
noncomputable def intOf:V→Option Int
 |.int n _ _=>some n
 |_=>none
noncomputable def two:List V→Option (V×V)
 |[x,y]=>some (x,y)
 |_=>none
noncomputable def tup2:V→Option (V×V)
 |.tup vs=>two vs
 |_=>none
noncomputable def prI(v:V):Option Pr:=(tup2 v).bind fun p=>(intOf p.1).bind fun a=>(intOf p.2).map fun b=>(a,b)
noncomputable def ptI(v:V):Option Pt:=(tup2 v).bind fun p=>(prI p.1).bind fun a=>(prI p.2).map fun b=>(a,b)
noncomputable def intsOf:List V→Option (List Int)
 |[]=>some []
 |v::r=>(intOf v).bind fun a=>(intsOf r).map fun b=>a::b
noncomputable def eqB:V→V→Option Bool
 |.bool x,.bool y=>some (x==y)
 |_,_=>none
noncomputable def eqP(a b:V):Option Bool:=(prI a).bind fun p=>(prI b).map fun q=>p.1==q.1&&p.2==q.2
noncomputable def eqT(a b:V):Option Bool:=(ptI a).bind fun p=>(ptI b).map fun q=>ptEq p q
noncomputable def orO{α:Type}(a:Option α)(b:Option α):Option α:=match a with
 |some x=>some x
 |none=>b
noncomputable def eqD(a b:V):Option Bool:=orO (eqB a b) (orO (eqP a b) (eqT a b))
noncomputable def eqL:V→V→Option Bool
 |.lst (_::_),.lst []=>some false
 |_,_=>none
noncomputable def neL:V→V→Option Bool
 |.lst [],.lst []=>some false
 |_,_=>none
noncomputable def eqI:V→V→Option Bool
 |.int x _ _,.int y _ _=>some (x==y)
 |_,_=>none
noncomputable def eqV(a b:V):Option Bool:=orO (eqI a b) (orO (eqL a b) (eqD a b))
noncomputable def neV(a b:V):Option Bool:=orO ((eqI a b).map not) (orO (neL a b) ((eqD a b).map not))
noncomputable def itsOf:V→Option (List Int)
 |.tup vs=>intsOf vs
 |.lst vs=>intsOf vs
 |_=>none
noncomputable def wCmpV(x y:V)(σ:Sto)(k:Bool→Sto→Prop):CmpOp→Prop
 |.Eq=>frzL [x,y] σ fun as σ'=>optK (fun p=>optK (fun z=>k z σ') (eqV p.1 p.2)) (two as)
 |.NotEq=>frzL [x,y] σ fun as σ'=>optK (fun p=>optK (fun z=>k z σ') (neV p.1 p.2)) (two as)
 |.In=>frzL [x,y] σ fun as σ'=>optK (fun p=>asI (fun i o1_ o2_=>optK (fun ns=>k (ns.any (· == i)) σ') (itsOf p.2)) p.1) (two as)
 |.NotIn=>frzL [x,y] σ fun as σ'=>optK (fun p=>asI (fun i o1_ o2_=>optK (fun ns=>k (!ns.any (· == i)) σ') (itsOf p.2)) p.1) (two as)
 |op=>asI (fun i o1_ o2_=>asI (fun j o1_ o2_=>optK (fun z=>k z σ) (Cm op i j)) y) x
noncomputable def isLs:V→Bool
 |.lst _=>true
 |.ref _=>true
 |_=>false
noncomputable def wCat(x y:V)(σ:Sto)(K:V→Sto→Prop):Operator→Prop
 |.Add=>cond (isLs x&&isLs y) (optK (fun vs=>optK (fun us=>cond (Nat.ble (vs.length+us.length) 1000) (K (.ref σ.length) (σ++[.lst (vs++us)])) False) (conts σ y)) (conts σ x)) False
 |_=>False
structure PI where
 n:Int
 b:Option Nat
 l:Option Nat
noncomputable def toPI:V→Option PI
 |.int n b l=>some ⟨n,b,l⟩
 |_=>none
theorem toPI.ok{v:V}{p:PI}(h:toPI v=some p):v= .int p.n p.b p.l:=by
 induction v using V.casesOn with
 |int n b l=>cases Option.some.inj h;rfl
 |_=>exact nomatch h
noncomputable def wBin1(op:Operator)(σ:Sto)(K:V→Sto→Prop)(q:Prop):Option PI→Option PI→Prop
 |some ⟨n,b,l⟩,some ⟨m,c,k⟩=>Bo n b l m c k (fun n b l=>K (.int n b l) σ) op
 |_,_=>q
noncomputable def wBinV(op:Operator)(σ:Sto)(K:V→Sto→Prop)(x y:V):Prop:=wBin1 op σ K (wCat x y σ K op) (toPI x) (toPI y)
theorem wBinV.cases{op:Operator}{σ:Sto}{K:V→Sto→Prop}{x y:V}(h:wBinV op σ K x y):(∃p r:PI,x= .int p.n p.b p.l∧y= .int r.n r.b r.l∧Bo p.n p.b p.l r.n r.b r.l (fun n b l=>K (.int n b l) σ) op)∨wCat x y σ K op:=by
 unfold wBinV at h
 cases e1:toPI x with
 |none=>rw[e1] at h;exact .inr h
 |some p=>cases e2:toPI y with
  |none=>rw[e1,e2] at h;exact .inr h
  |some r=>rw[e1,e2] at h;exact .inl ⟨p,r,toPI.ok e1,toPI.ok e2,h⟩
section
variable {sc:Scope} {c:Cx sc} {env:Env} {m:Mp} {l:Led} {d:Nat} {X:Wx} {σ:Sto} {ι:Nat→Addr} {K:V→Sto→Prop} {B:Bool→Sto→Prop} {pr fz:Led} {N:Nat}
set_option genInjectivity false in
set_option genSizeOfSpec false in
inductive AsIOk(w:World)(k:IK)(a:V)(v:Value):Prop where
 |mk (i:Int) (b l:Option Nat) (t:Tok) (e:v= .int i t) (h:k i b l) (hi:In i b l)
theorem asI.ok{w:World}{k:IK}{a:V}{v:Value}(h:asI k a)(hv:RepV w fz N ι a v):AsIOk w k a v:=by
 cases hv with
 |ref o1_=>exact h.elim
 |dat hv=>cases hv with
  |int hi=>exact⟨_,_,_,_,rfl,h,hi⟩
  |_=>exact h.elim
theorem asB.ok{w:World}{k:Bool→Prop}{a:V}{v:Value}(h:asB k a)(hv:RepV w fz N ι a v):∃i,v= .bool i∧k i:=by
 cases hv with
 |ref o1_=>exact h.elim
 |dat hv=>cases hv with
  |bool=>exact⟨_,rfl,h⟩
  |_=>exact h.elim
theorem Cm.ok{op:CmpOp}{i j:Int}{z:Bool}{P:Bool→Led→Prop}(h:Cm op i j=some z)(q:P z l):CmpOk c op i j P l:=by
 induction op using PySem.CmpOp.casesOn with
 |Lt=>cases Option.some.inj h;exact .lt q
 |Gt=>cases Option.some.inj h;exact .gt q
 |LtE=>cases Option.some.inj h;exact .le q
 |GtE=>cases Option.some.inj h;exact .ge q
 |Eq=>cases Option.some.inj h;exact .eq q
 |NotEq=>cases Option.some.inj h;exact .ne q
 |_=>exact nomatch h
theorem two.ok{vs:List V}{p:V×V}(h:two vs=some p):vs=[p.1,p.2]:=by
 induction vs using List.casesOn with
 |nil=>exact nomatch h
 |cons a r=>induction r using List.casesOn with
  |nil=>exact nomatch h
  |cons b r=>induction r using List.casesOn with
   |nil=>cases Option.some.inj h;rfl
   |cons o1_ o2_=>exact nomatch h
theorem intOf.ok{v:V}{n:Int}(h:intOf v=some n):∃b l,v= .int n b l:=by
 induction v using V.casesOn with
 |int n b l=>cases Option.some.inj h;exact⟨_,_,rfl⟩
 |_=>exact nomatch h
noncomputable def Rd{sc:Scope}(c:Cx sc)(l:Led)(u:Value)(D:PyData):Prop:=∀m h,Fr c.h₀ c.L h m→News c.h₀ c.L h l→Reads h u D []
theorem Rd.tup{vs:List V}{p:V×V}{u:Value}{D D':PyData}(ok:Cok c d)(sf:Sub fz l)(e:two vs=some p)(hu:Rep c.w fz (.tup vs) u)(k:∀x,Rep c.w fz p.1 x→Rd c l x D)(k':∀x,Rep c.w fz p.2 x→Rd c l x D'):Rd c l u (.tuple [D,D']):=by
 rw[two.ok e] at hu
 have go:∀{A:Addr} {ws:List Value},Reps c.w fz [p.1,p.2] ws→SqAt c l true A ws→Rd c l (.ref A) (.tuple [D,D']):=fun hr hs=>by
  cases hr with
  |cons h1 t=>cases t with
   |cons h2 t=>cases t with
    |nil=>exact fun m h F N=>have⟨_,g,e1,_,e2⟩:=hs m h F N;reads_tuple_at g e1 e2 (.cons (k _ h1 m h F N) (.cons (k' _ h2 m h F N) .nil))
 cases hu with
 |tup hm hr=>exact go hr fun m h F N=>⟨_,(N _ (sf _ hm)).1,rfl,_,rfl⟩
 |base hm hr=>
  obtain⟨dd,nn,sl,hm⟩:=hm
  exact go hr fun m h F N=>⟨_,ok.X.keeps F.keep _ _ hm,rfl,_,rfl⟩
theorem tup2.ok{v:V}{p:V×V}(h:tup2 v=some p):∃vs,v= .tup vs∧two vs=some p:=by
 induction v using V.casesOn with
 |tup vs=>exact⟨vs,rfl,h⟩
 |_=>exact nomatch h
theorem Rd.int{v:V}{n:Int}{u:Value}(h:intOf v=some n)(hu:Rep c.w fz v u):Rd c l u (.int n):=by
 obtain⟨b,ll,rfl⟩:=intOf.ok h
 cases hu with
 |int o1_=>exact fun m h F N=> .int _ _
theorem Rd.pair{v:V}{p:Pr}{u:Value}(ok:Cok c d)(sf:Sub fz l)(h:prI v=some p)(hu:Rep c.w fz v u):Rd c l u (.tuple [.int p.1,.int p.2]):=by
 unfold prI at h
 obtain⟨q,e1,h1⟩:=Option.bind_eq_some_iff.mp h
 obtain⟨a,e2,h2⟩:=Option.bind_eq_some_iff.mp h1
 obtain⟨b,e3,h3⟩:=Option.map_eq_some_iff.mp h2
 obtain⟨vs,rfl,e4⟩:=tup2.ok e1
 subst h3
 exact Rd.tup ok sf e4 hu (fun x hx=>Rd.int e2 hx) fun x hx=>Rd.int e3 hx
theorem Rd.point{v:V}{p:Pt}{u:Value}(ok:Cok c d)(sf:Sub fz l)(h:ptI v=some p)(hu:Rep c.w fz v u):Rd c l u (.tuple [.tuple [.int p.1.1,.int p.1.2],.tuple [.int p.2.1,.int p.2.2]]):=by
 unfold ptI at h
 obtain⟨q,e1,h1⟩:=Option.bind_eq_some_iff.mp h
 obtain⟨a,e2,h2⟩:=Option.bind_eq_some_iff.mp h1
 obtain⟨b,e3,h3⟩:=Option.map_eq_some_iff.mp h2
 obtain⟨vs,rfl,e4⟩:=tup2.ok e1
 subst h3
 exact Rd.tup ok sf e4 hu (fun x hx=>Rd.pair ok sf e2 hx) fun x hx=>Rd.pair ok sf e3 hx
structure CmD{sc:Scope}(c:Cx sc)(l:Led)(v u:Value)(z:Bool):Prop where
 eq:∀m s Q E,Fr c.h₀ c.L s.heap m→News c.h₀ c.L s.heap l→Q (.bool z) s→wpAny (MD c.w) c.A (compareOp .Eq v u) Q E s
 ne:∀m s Q E,Fr c.h₀ c.L s.heap m→News c.h₀ c.L s.heap l→Q (.bool (!z)) s→wpAny (MD c.w) c.A (compareOp .NotEq v u) Q E s
theorem CmD.of{v u:Value}{D D':PyData}{z:Bool}(hU:c.un+64<cLine)(h:Rd c l v D)(h':Rd c l u D')(s:SeqAt.shaped D=true)(s':SeqAt.shaped D'=true)(e:D.eqv D'=z):CmD c l v u z:=
 ⟨fun m s Q E F N q=>eq_dataH (h m _ F N) (h' m _ F N) ‹_› ‹_› hU (e▸q),fun m s Q E F N q=>ne_dataH (h m _ F N) (h' m _ F N) ‹_› ‹_› hU (e▸q)⟩
theorem orO.ok{α:Type}{a b:Option α}{x:α}(h:orO a b=some x):a=some x∨b=some x:=by
 induction a using Option.casesOn with
 |none=>exact .inr h
 |some y=>exact .inl h
theorem eqD.ok{a b:V}{v u:Value}{z:Bool}(ok:Cok c d)(hU:c.un+64<cLine)(sf:Sub fz l)(h:eqD a b=some z)(hv:Rep c.w fz a v)(hu:Rep c.w fz b u):CmD c l v u z:=by
 rcases orO.ok h with h |h
 ·cases hv with
  |bool=>cases hu with
   |bool=>cases Option.some.inj h;exact⟨fun m s Q E F N q=>eq_bool q,fun m s Q E F N q=>ne_bool q⟩
   |_=>exact nomatch h
  |_=>exact nomatch h
 ·rcases orO.ok h with h |h
  ·obtain⟨p,e1,h⟩:=Option.bind_eq_some_iff.mp h
   obtain⟨q,e2,h⟩:=Option.map_eq_some_iff.mp h
   exact CmD.of hU (Rd.pair ok sf e1 hv) (Rd.pair ok sf e2 hu) rfl rfl (eqv_pr.trans h)
  ·obtain⟨p,e1,h⟩:=Option.bind_eq_some_iff.mp h
   obtain⟨q,e2,h⟩:=Option.map_eq_some_iff.mp h
   exact CmD.of hU (Rd.point ok sf e1 hv) (Rd.point ok sf e2 hu) rfl rfl (eqv_pt.trans h)
theorem eqI.ok{a b:V}{z:Bool}(h:eqI a b=some z):∃i j bi li bj lj,a= .int i bi li∧b= .int j bj lj∧z=(i==j):=by
 induction a using V.casesOn with
 |int i o1_ o2_=>induction b using V.casesOn with
  |int j o1_ o2_=>cases Option.some.inj h;exact⟨_,_,_,_,_,_,rfl,rfl,rfl⟩
  |_=>exact nomatch h
 |_=>exact nomatch h
theorem lst_at{vs:List V}{u:Value}(sf:Sub fz l)(h:Rep c.w fz (.lst vs) u):∃A ws,u= .ref A∧Reps c.w fz vs ws∧SqAt c l false A ws:=by
 cases h with
 |lst m d hr=>exact⟨_,_,rfl,hr,.lst (sf _ m) d⟩
theorem eqV.ok{a b:V}{v u:Value}{z:Bool}(ok:Cok c d)(hU:c.un+64<cLine)(sf:Sub fz l)(h:eqV a b=some z)(hv:Rep c.w fz a v)(hu:Rep c.w fz b u)(m:Mp)(s:Shared)(Q E:Value→Shared→Prop)(F:Fr c.h₀ c.L s.heap m)(N:News c.h₀ c.L s.heap l)(q:Q (.bool z) s):wpAny (MD c.w) c.A (compareOp .Eq v u) Q E s:=by
 rcases orO.ok h with h |h
 ·obtain⟨i,j,bi,li,bj,lj,rfl,rfl,rfl⟩:=eqI.ok h
  cases hv;cases hu;exact eq_int q
 ·rcases orO.ok h with h |h
  ·cases a with
   |lst vs=>induction vs using List.casesOn with
    |nil=>exact nomatch h
    |cons x xs=>cases b with
     |lst us=>induction us using List.casesOn with
      |nil=>
       cases h
       obtain⟨A,ws,rfl,hr,ha⟩:=lst_at sf hv
       obtain⟨A',ws',rfl,hr',ha'⟩:=lst_at sf hu
       cases hr' with
       |nil=>cases hr with
        |cons o1_ o2_=>exact PySem.SeqAt.eq_list_lengthsAt (ha m _ F N) (ha' m _ F N) (by simp) (by show c.un<_;exact lN 0xf8a00423a120f3a12e2 hU) q
      |cons o1_ o2_=>cases h
     |_=>exact nomatch h
   |_=>exact nomatch h
  ·exact(eqD.ok ok hU sf h hv hu).eq m s Q E F N q
theorem neV.ok{a b:V}{v u:Value}{z:Bool}(ok:Cok c d)(hU:c.un+64<cLine)(sf:Sub fz l)(h:neV a b=some z)(hv:Rep c.w fz a v)(hu:Rep c.w fz b u)(m:Mp)(s:Shared)(Q E:Value→Shared→Prop)(F:Fr c.h₀ c.L s.heap m)(N:News c.h₀ c.L s.heap l)(q:Q (.bool z) s):wpAny (MD c.w) c.A (compareOp .NotEq v u) Q E s:=by
 rcases orO.ok h with h |h
 ·obtain⟨y,h1,rfl⟩:=Option.map_eq_some_iff.mp h
  obtain⟨i,j,bi,li,bj,lj,rfl,rfl,rfl⟩:=eqI.ok h1
  cases hv;cases hu;exact ne_int q
 ·rcases orO.ok h with h |h
  ·cases a with
   |lst vs=>induction vs using List.casesOn with
    |cons x xs=>cases h
    |nil=>cases b with
     |lst us=>induction us using List.casesOn with
      |cons o1_ o2_=>cases h
      |nil=>
       cases h
       obtain⟨A,ws,rfl,hr,ha⟩:=lst_at sf hv
       obtain⟨A',ws',rfl,hr',ha'⟩:=lst_at sf hu
       cases hr;cases hr'
       obtain⟨o1_,g,e1,o2_,e2⟩:=ha m _ F N
       obtain⟨o1_,g',e1',o2_,e2'⟩:=ha' m _ F N
       exact ne_dataH (da:= .list []) (db:= .list []) (reads_list_at g e1 e2 .nil) (reads_list_at g' e1' e2' .nil) rfl rfl hU q
     |_=>exact nomatch h
   |_=>exact nomatch h
  ·obtain⟨y,h1,rfl⟩:=Option.map_eq_some_iff.mp h
   exact(eqD.ok ok hU sf h1 hv hu).ne m s Q E F N q
theorem intsOf.ok{w:World}:∀{vs:List V} {ns:List Int} {ws:List Value},intsOf vs=some ns→Reps w fz vs ws→IntsAre ws ns:=by
 intro vs
 induction vs with
 |nil=>intro ns ws h hr;cases h;cases hr;exact .nil
 |cons v r ih=>
  intro ns ws h hr
  obtain⟨a,e1,h⟩:=Option.bind_eq_some_iff.mp h
  obtain⟨b,e2,h⟩:=Option.map_eq_some_iff.mp h
  subst h
  obtain⟨o1_,o2_,rfl⟩:=intOf.ok e1
  cases hr with
  |cons h1 t=>cases h1;exact .cons _ _ (ih e2 t)
theorem in_ints{A:Around}{w:World}{E:Value→Shared→Prop}{s:Shared}{Q:Value→Shared→Prop}{D:Addr}{ws:List Value}{ns:List Int}{i:Int}{t:Tok}{tp:Bool}(hu:A.units+1<cLine)(hs:cond tp (s.heap.IsTuple D ws.toArray) (s.heap.IsList D ws.toArray))(hi:IntsAre ws ns):
  (Q (.bool (ns.any (· == i))) s→wpAny (MD w) A (compareOp .In (.int i t) (.ref D)) Q E s)∧(Q (.bool (!ns.any (· == i))) s→wpAny (MD w) A (compareOp .NotIn (.int i t) (.ref D)) Q E s):=by
 have e:((ns.map PyData.int).any fun y=>PyData.eqv y (.int i))=ns.any (· == i):=by
  rw[List.any_map];exact congrArg (List.any ns) (funext fun y=>by simp[PyData.eqv])
 have lay:PyData.canLayAll0 (ns.map .int)=true:=by
  clear hi e
  induction ns with
  |nil=>rfl
  |cons a r ih=>simpa [PyData.canLayAll0,PyData.canLay0] using ih
 have hu':A.units+1+min (PyData.depthAll (ns.map PyData.int)) (PyData.int i).depth<cLine:=by
  have h1:(PyData.int i).depth=0:=rfl
  rw[h1,Nat.min_zero];exact hu
 induction tp using Bool.casesOn with
 |true=>
  obtain⟨o1_,g,e1,o2_,e2⟩:=hs
  have rd:=reads_tuple_at g e1 e2 (reads_ints hi)
  exact⟨fun q=>PySem.SeqAt.in_tuple_reads rd (.int i t) lay rfl hu' (e▸q),fun q=>PySem.SeqAt.notIn_tuple_reads rd (.int i t) lay rfl hu' (e▸q)⟩
 |false=>
  exact⟨fun q=>in_list_ints hs hi q,fun q=>notin_list_ints hs hi q⟩
end
section
variable {sc:Scope} {c:Cx sc} {env:Env} {m:Mp} {l:Led} {d:Nat} {X:Wx} {σ:Sto} {ι:Nat→Addr} {K:V→Sto→Prop} {B:Bool→Sto→Prop} {pr fz:Led} {N:Nat} {P:VP}
theorem wCmpV.ok{op:CmpOp}{x y:V}{v u:Value}(ok:Cok c d)(hd:8≤d)(h:wCmpV x y σ B op)(r:Rel c.w pr fz σ ι l)(hv:RepV c.w fz σ.length ι x v)(hu:RepV c.w fz σ.length ι y u):
  TO c m l (compareOp op v u) (fun w l'=>∃z,w= .bool z∧Pb c.w pr fz σ.length ι B z l'):=by
 have hU:c.un+64<cLine:=by have:=ok.U;exact lN 0xfa0140408e848a014281cf8a00423a12e3 hd this
 have hU1:c.un+1<cLine:=lN 0x3e280108e8483e10423a12e2 hU
 have two_:∀{k:V×V→Sto→Prop},frzL [x,y] σ (fun as σ'=>optK (fun p=>k p σ') (two as))→∃fz' σ' a b,k (a,b) σ'∧Rep c.w fz' a v∧Rep c.w fz' b u∧Rel c.w pr fz' σ' ι l∧σ'.length=σ.length∧Ext pr fz fz':=fun h=>
  (frzL.ok h r (.cons hv (.cons hu .nil))).elim fun fz' σ' as k hr r' n x=>by
   obtain⟨p,e,k⟩:=k.ok
   rw[two.ok e] at hr
   cases hr with
   |cons h1 t=>cases t with
    |cons h2 t=>exact⟨fz',σ',p.1,p.2,k,h1,h2,r',n,x⟩
 have intc:asI (fun i o1_ o2_=>asI (fun j o1_ o2_=>optK (fun z=>B z σ) (Cm op i j)) y) x→TO c m l (compareOp op v u) (fun w l'=>∃z,w= .bool z∧Pb c.w pr fz σ.length ι B z l'):=fun h=>by
  obtain⟨i,o1_,o2_,t,rfl,h,o3_⟩:=h.ok hv
  obtain⟨j,o1_,o2_,t',rfl,h,o3_⟩:=h.ok hu
  obtain⟨z,e,k⟩:=h.ok
  obtain⟨z',hz,hk⟩:=Cm.ok (c:=c) (l:=l) (P:=fun b o1_=>b=z) e rfl
  subst hk
  exact fun s Q E F N q=>hz s _ _ Q E (q _ _ _ s.toks ⟨_,rfl,.mk ι fz σ k r Agr.refl (Nat.le_refl _) Ext.refl⟩ F N)
 have inn:frzL [x,y] σ (fun as σ'=>optK (fun p=>asI (fun i o1_ o2_=>optK (fun ns=>B (ns.any (· == i)) σ') (itsOf p.2)) p.1) (two as))∧op= .In∨frzL [x,y] σ (fun as σ'=>optK (fun p=>asI (fun i o1_ o2_=>optK (fun ns=>B (!ns.any (· == i)) σ') (itsOf p.2)) p.1) (two as))∧op= .NotIn→
   TO c m l (compareOp op v u) (fun w l'=>∃z,w= .bool z∧Pb c.w pr fz σ.length ι B z l'):=fun h=>by
  have its:∀{fz':Led} {σ':Sto} {b:V} {ns:List Int},itsOf b=some ns→Rep c.w fz' b u→Rel c.w pr fz' σ' ι l→∃A ws t,u= .ref A∧IntsAre ws ns∧SqAt c l t A ws:=fun{fz' σ' b ns} e hb r'=>by
   induction b using V.casesOn with
   |tup vs=>
    obtain⟨A,ws,e1,hr,hs⟩:=conts_at ok (a:= .tup vs) rfl r' (.dat hb)
    exact⟨A,ws,_,e1,intsOf.ok e hr,hs⟩
   |lst vs=>
    obtain⟨A,ws,e1,hr,hs⟩:=conts_at ok (a:= .lst vs) rfl r' (.dat hb)
    exact⟨A,ws,_,e1,intsOf.ok e hr,hs⟩
   |_=>exact nomatch e
  rcases h with⟨h,rfl⟩ |⟨h,rfl⟩
  ·obtain⟨fz',σ',a,b,k,h1,h2,r',n,x⟩:=two_ h
   obtain⟨i,o1_,o2_,t,rfl,k,o3_⟩:=asI.ok k (.dat (N:=0) (ι:=ι) h1)
   obtain⟨ns,e,k⟩:=k.ok
   obtain⟨A,ws,tt,rfl,hi,hs⟩:=its e h2 r'
   exact fun s Q E F N q=>(in_ints (A:=c.A) hU1 (hs m _ F N) hi).1 (q _ _ _ s.toks ⟨_,rfl,.mk ι fz' σ' k r' Agr.refl (Nat.le_of_eq n.symm) x⟩ F N)
  ·obtain⟨fz',σ',a,b,k,h1,h2,r',n,x⟩:=two_ h
   obtain⟨i,o1_,o2_,t,rfl,k,o3_⟩:=asI.ok k (.dat (N:=0) (ι:=ι) h1)
   obtain⟨ns,e,k⟩:=k.ok
   obtain⟨A,ws,tt,rfl,hi,hs⟩:=its e h2 r'
   exact fun s Q E F N q=>(in_ints (A:=c.A) hU1 (hs m _ F N) hi).2 (q _ _ _ s.toks ⟨_,rfl,.mk ι fz' σ' k r' Agr.refl (Nat.le_of_eq n.symm) x⟩ F N)
 induction op using PySem.CmpOp.casesOn with
 |Eq=>
  obtain⟨fz',σ',a,b,k,h1,h2,r',n,x⟩:=two_ (k:=fun p σ'=>optK (fun z=>B z σ') (eqV p.1 p.2)) h
  obtain⟨z,e,k⟩:=k.ok
  exact fun s Q E F N q=>eqV.ok ok hU r'.subf e h1 h2 m s Q E F N (q _ _ _ s.toks ⟨_,rfl,.mk ι fz' σ' k r' Agr.refl (Nat.le_of_eq n.symm) x⟩ F N)
 |NotEq=>
  obtain⟨fz',σ',a,b,k,h1,h2,r',n,x⟩:=two_ (k:=fun p σ'=>optK (fun z=>B z σ') (neV p.1 p.2)) h
  obtain⟨z,e,k⟩:=k.ok
  exact fun s Q E F N q=>neV.ok ok hU r'.subf e h1 h2 m s Q E F N (q _ _ _ s.toks ⟨_,rfl,.mk ι fz' σ' k r' Agr.refl (Nat.le_of_eq n.symm) x⟩ F N)
 |In=>exact inn (.inl ⟨h,rfl⟩)
 |NotIn=>exact inn (.inr ⟨h,rfl⟩)
 |_=>exact intc h
theorem TE.binV{a b:PySem.Expr}{op:Operator}{pos:Pos}(h:TE c env m l a (fun v l'=>TE c env m l' b (fun u l''=>TO c m l'' (binaryOp op v u) P))):TE c env m l (.BinOp a op b pos) P:=fun s Q E F N q=>
 wpAny_BinOp (h s _ E F N fun v l' h' tk' p F' N'=>p _ _ E F' N' fun u l'' h'' tk'' p' F'' N''=>p' _ _ E F'' N'' q)
theorem TE.cmpV{a b:PySem.Expr}{op:CmpOp}{pos:Pos}(h:TE c env m l a (fun v l'=>TE c env m l' b (fun u l''=>TO c m l'' (compareOp op v u) P)))(hm:behindInMarks op b=false):TE c env m l (.Compare a [op] [b] pos) P:=fun s Q E F N q=>
 wpAny_Compare1 (h s _ E F N fun v l' h' tk' p F' N'=>p _ _ E F' N' fun u l'' h'' tk'' p' F'' N''=>p' _ _ E F'' N'' q) hm
theorem TT.cmpV{a b:PySem.Expr}{op:CmpOp}{pos:Pos}{B:Bool→Led→Prop}(h:TE c env m l a (fun v l'=>TE c env m l' b (fun u l''=>TO c m l'' (compareOp op v u) (fun w l3=>∃z,w= .bool z∧B z l3))))(hm:behindInMarks op b=false):TT c env m l (.Compare a [op] [b] pos) B:=fun s Q E F N q=>
 wpAny_isTrue_Compare1 (h s _ E F N fun v l' h' tk' p F' N'=>p _ _ E F' N' fun u l'' h'' tk'' p' F'' N''=>p' _ _ E F'' N'' fun w l3 h3 tk3 ⟨z,e,hb⟩ F3 N3=>e▸wpAny_truthy_bool (q _ _ _ _ hb F3 N3)) hm
noncomputable def A2{sc:Scope}(c:Cx sc)(env:Env)(X:Wx)(a b:PySem.Expr)(σ:Sto)(K:V→V→Sto→Prop):Prop:=AE c env X a σ fun x σ1=>AE c env X b σ1 fun y σ2=>K x y σ2
theorem AE.cmpV{a b:PySem.Expr}{op:CmpOp}{pos:Pos}(ok:Cok c d)(hd:8≤d)(h:A2 c env X a b σ fun x y σ2=>wCmpV x y σ2 (fun z σ3=>K (.bool z) σ3) op)(hm:behindInMarks op b=false):AE c env X (.Compare a [op] [b] pos) σ K:=fun pr fz m ι l hn r=>
 TE.cmpV ((h pr fz m ι l hn r).mono fun v l' p=>p.elim fun ι' fz' σ1 x k hv r' g n e=>(k pr fz' m ι' l' (hn.grow e.sub g n) r').mono fun u l'' p'=>p'.elim fun ι'' fz'' σ2 y k' hu r'' g' n' e'=>
  (wCmpV.ok ok hd k' r'' (hv.grow e'.sub g' n') hu).mono fun w l3 ⟨z,e1,pb⟩=>e1▸pb.elim fun ι3 fz3 σ3 k3 r3 g3 n3 e3=> .mk ι3 fz3 σ3 (.bool z) k3 (.dat .bool) r3 ((g.trans g' n).trans g3 (Nat.le_trans n n')) (Nat.le_trans (Nat.le_trans n n') n3) ((e.trans e').trans e3)) hm
theorem AT.cmpV{a b:PySem.Expr}{op:CmpOp}{pos:Pos}(ok:Cok c d)(hd:8≤d)(h:A2 c env X a b σ fun x y σ2=>wCmpV x y σ2 B op)(hm:behindInMarks op b=false):AT c env X (.Compare a [op] [b] pos) σ B:=fun pr fz m ι l hn r=>
 TT.cmpV ((h pr fz m ι l hn r).mono fun v l' p=>p.elim fun ι' fz' σ1 x k hv r' g n e=>(k pr fz' m ι' l' (hn.grow e.sub g n) r').mono fun u l'' p'=>p'.elim fun ι'' fz'' σ2 y k' hu r'' g' n' e'=>
  (wCmpV.ok ok hd k' r'' (hv.grow e'.sub g' n') hu).mono fun w l3 ⟨z,e1,pb⟩=>⟨z,e1,pb.elim fun ι3 fz3 σ3 k3 r3 g3 n3 e3=> .mk ι3 fz3 σ3 k3 r3 ((g.trans g' n).trans g3 (Nat.le_trans n n')) (Nat.le_trans (Nat.le_trans n n') n3) ((e.trans e').trans e3)⟩) hm
theorem isLs_tp{x:V}(h:isLs x=true):isTp x=false:=by cases x <;> first |rfl |cases h
theorem wBinV.ok{op:Operator}{x y:V}{v u:Value}(ok:Cok c d)(h:wBinV op σ K x y)(r:Rel c.w pr fz σ ι l)(hv:RepV c.w fz σ.length ι x v)(hu:RepV c.w fz σ.length ι y u):TO c m l (binaryOp op v u) (Pk c.w pr fz σ.length ι K):=by
 have cat:wCat x y σ K op→TO c m l (binaryOp op v u) (Pk c.w pr fz σ.length ι K):=fun h=>by
  induction op using PySem.Operator.casesOn with
  |Add=>
   obtain⟨h0,h⟩:=cond_t h
   rw[Bool.and_eq_true] at h0
   obtain⟨vs,e1,h⟩:=h.ok
   obtain⟨us,e2,h⟩:=h.ok
   obtain⟨hz,h⟩:=cond_t h
   obtain⟨A,ws,rfl,hr,hs⟩:=conts_at ok e1 r hv
   obtain⟨A',ws',rfl,hr',hs'⟩:=conts_at ok e2 r hu
   rw[isLs_tp h0.1] at hs
   rw[isLs_tp h0.2] at hs'
   refine fun s Q E F N q=>add_lists (hsz:=?_) F N (hs m _ F N) (hs' m _ F N) fun h' F' N'=>?_
   ·have app:∀{as bs:List V} {us vs:List Value},Reps c.w fz as us→Reps c.w fz bs vs→Reps c.w fz (as++bs) (us++vs):=fun{as bs us vs} h k=>Reps.rec (motive_1:=fun o1_ o2_ o3_=>True) (motive_2:=fun as us o1_=>Reps c.w fz (as++bs) (us++vs)) (fun o1_=>trivial) trivial trivial (fun o1_ o2_ o3_=>trivial) (fun o1_ o2_ o3_ o4_=>trivial) (fun o1_ o2_ o3_=>trivial) (fun o1_ o2_ o3_=>trivial) k (fun h o1_ o2_ t=> .cons h t) h
    refine q _ _ _ s.toks (.mk (setN ι σ.length s.heap.objs.size) fz _ (.ref σ.length) h ?_ (r.new (O:={cls:= .type "list",data:= .seq (ws++ws').toArray}) Sub.cons (fun p hp=>Nat.ne_of_lt (Heap.lt_size (N p hp).1)) (.head _) (.lst (app hr hr') ⟨⟨rfl,rfl⟩,_,rfl⟩) (fun o1_ e=>by exact nomatch e)) setN.agr (by simp) Ext.refl) F' N'
    have:=RepV.ref (w:=c.w) (fz:=fz) (N:=(σ++[AO.lst (vs++us)]).length) (ι:=setN ι σ.length s.heap.objs.size) (k:=σ.length) (by simp)
    rwa [setN.at] at this
   ·rw[←hr.length,←hr'.length];exact Nat.le_trans (Nat.le_of_ble_eq_true hz) (by decide)
  |_=>exact h.elim
 rcases wBinV.cases h with⟨p,q,rfl,rfl,hb⟩ |hb
 ·cases hv with
  |dat hv=>cases hv with
   |int hi=>cases hu with
    |dat hu=>cases hu with
     |int hj=>exact Bo.ok (P:=Pk c.w pr fz σ.length ι K) hb hi hj fun n b ll t k hk=> .here k (.dat (.int hk)) r
 ·exact cat hb
theorem AE.binV{a b:PySem.Expr}{op:Operator}{pos:Pos}(ok:Cok c d)(h:A2 c env X a b σ fun x y σ2=>wBinV op σ2 K x y):AE c env X (.BinOp a op b pos) σ K:=fun pr fz m ι l hn r=>
 TE.binV ((h pr fz m ι l hn r).mono fun v l' p=>p.elim fun ι' fz' σ1 x k hv r' g n e=>(k pr fz' m ι' l' (hn.grow e.sub g n) r').mono fun u l'' p'=>p'.elim fun ι'' fz'' σ2 y k' hu r'' g' n' e'=>
  (wBinV.ok ok k' r'' (hv.grow e'.sub g' n') hu).mono fun w l3 pk=>(pk.trans g' n' e').trans g n e)
end
section
variable {sc:Scope} {c:Cx sc} {env:Env} {m:Mp} {l:Led} {d:Nat} {X:Wx} {σ:Sto} {ι:Nat→Addr} {K:V→Sto→Prop} {B:Bool→Sto→Prop} {pr fz:Led} {N:Nat} {P:VP}
theorem AE.int{n:Int}{kd pos}(k:wInt n fun n b l=>K (.int n b l) σ):AE c env X (.Constant (.int n) kd pos) σ K:=fun pr fz m ι l hn r=>
 have⟨b,ll,h,k⟩:=wInt.ok k
 TE.ofI EI.const fun o1_=> .here k (.dat (.int h)) r
theorem AE.bool{b:Bool}{kd pos}(k:K (.bool b) σ):AE c env X (.Constant (.bool b) kd pos) σ K:=fun pr fz m ι l hn r=>
 fun s Q E F N q=>wpAny_Constant_bool (q _ _ _ s.toks (.here k (.dat .bool) r) F N)
theorem TE.neg{a:PySem.Expr}{pos:Pos}{P:VP}(h:TE c env m l a (fun v l'=>∃i t,v= .int i t∧∀t',P (.int (-i) t') l')):TE c env m l (.UnaryOp .USub a pos) P:=fun s Q E F N q=>by
 refine UnaryOp_ (h s _ E F N fun v l' h' tk' ⟨i,t,e1,p⟩ F' N'=>?_)
 subst e1
 exact neg_int (q _ _ _ _ (p _) F' N')
theorem AE.neg{a:PySem.Expr}{pos:Pos}(h:AE c env X a σ (fun x σ1=>asI (fun i b o1_=>K (.int (-i) b none) σ1) x)):AE c env X (.UnaryOp .USub a pos) σ K:=fun pr fz m ι l hn r=>
 TE.neg ((h pr fz m ι l hn r).mono fun v l' p=>p.elim fun ι' fz' σ1 x k hv r' g n e=>
  have⟨i,b,_,t,e1,k1,hi⟩:=k.ok hv
  ⟨i,t,e1,fun t'=> .mk ι' fz' σ1 (.int (-i) b none) k1 (.dat (.int ⟨fun z e=>bits_neg (hi.b z e),fun o1_ e=>by cases e⟩)) r' g n e⟩)
theorem AT.mono{B':Bool→Sto→Prop}{e:PySem.Expr}(h:AT c env X e σ B)(k:∀b σ',B b σ'→B' b σ'):AT c env X e σ B':=fun pr fz m ι l hn r=>
 TT.mono (h pr fz m ι l hn r) fun b l' p=>p.elim fun ι' fz' σ' kb r' g n x=> .mk ι' fz' σ' (k _ _ kb) r' g n x
theorem AE.ifexp{t a b:PySem.Expr}{pos:Pos}(h:AT c env X t σ (fun z σ1=>cond z (AE c env X a σ1 K) (AE c env X b σ1 K))):AE c env X (.IfExp t a b pos) σ K:=fun pr fz m ι l hn r=>
 TE.ifexp (TT.mono (h pr fz m ι l hn r) fun z l' p=>p.elim fun ι' fz' σ' k r' g n x=>by
  cases z
  ·exact(k pr fz' m ι' l' (hn.grow x.sub g n) r').mono fun v l'' p'=>p'.trans g n x
  ·exact(k pr fz' m ι' l' (hn.grow x.sub g n) r').mono fun v l'' p'=>p'.trans g n x)
theorem AT.not{e:PySem.Expr}{pos:Pos}(h:AT c env X e σ (fun z σ1=>B (!z) σ1)):AT c env X (.UnaryOp .Not e pos) σ B:=fun pr fz m ι l hn r=>
 TT.not (TT.mono (h pr fz m ι l hn r) fun z l' p=>p.elim fun ι' fz' σ' k r' g n x=> .mk ι' fz' σ' k r' g n x)
theorem AT.and_nil{pos:Pos}(h:B true σ):AT c env X (.BoolOp .And [] pos) σ B:=fun pr fz m ι l hn r=>TT.and_nil (.mk ι fz σ h r Agr.refl (Nat.le_refl _) Ext.refl)
theorem AT.or_nil{pos:Pos}(h:B false σ):AT c env X (.BoolOp .Or [] pos) σ B:=fun pr fz m ι l hn r=>TT.or_nil (.mk ι fz σ h r Agr.refl (Nat.le_refl _) Ext.refl)
theorem AT.and_{x:PySem.Expr}{es:List PySem.Expr}{pos:Pos}(h:AT c env X x σ (fun z σ1=>cond z (AT c env X (.BoolOp .And es pos) σ1 B) (B false σ1))):AT c env X (.BoolOp .And (x::es) pos) σ B:=fun pr fz m ι l hn r=>
 TT.and_ (TT.mono (h pr fz m ι l hn r) fun z l' p=>p.elim fun ι' fz' σ' k r' g n x=>by
  cases z
  ·exact .mk ι' fz' σ' k r' g n x
  ·exact TT.mono (k pr fz' m ι' l' (hn.grow x.sub g n) r') fun v l'' p'=>p'.trans g n x)
theorem AT.or_{x:PySem.Expr}{es:List PySem.Expr}{pos:Pos}(h:AT c env X x σ (fun z σ1=>cond z (B true σ1) (AT c env X (.BoolOp .Or es pos) σ1 B))):AT c env X (.BoolOp .Or (x::es) pos) σ B:=fun pr fz m ι l hn r=>
 TT.or_ (TT.mono (h pr fz m ι l hn r) fun z l' p=>p.elim fun ι' fz' σ' k r' g n x=>by
  cases z
  ·exact TT.mono (k pr fz' m ι' l' (hn.grow x.sub g n) r') fun v l'' p'=>p'.trans g n x
  ·exact .mk ι' fz' σ' k r' g n x)
theorem AT.bool{e:PySem.Expr}(h:AE c env X e σ (fun a σ1=>asB (fun z=>B z σ1) a))(he:isTrue e env (eval e env)=(do let v ←eval e env;standAt e.pos;holding [v] (truthy v))):AT c env X e σ B:=fun pr fz m ι l hn r=>
 TT.bool ((h pr fz m ι l hn r).mono fun v l' p=>p.elim fun ι' fz' σ1 x k hv r' g n e=>
  have⟨z,e1,k1⟩:=k.ok hv
  ⟨z,e1,.mk ι' fz' σ1 k1 r' g n e⟩) he
theorem AE.and2{a b:PySem.Expr}{pos:Pos}(h:AE c env X a σ (fun x σ1=>asB (fun z=>cond z (AE c env X b σ1 K) (K (.bool false) σ1)) x)):AE c env X (.BoolOp .And [a,b] pos) σ K:=fun pr fz m ι l hn r=>
 TE.and2 ((h pr fz m ι l hn r).mono fun v l' p=>p.elim fun ι' fz' σ1 x k hv r' g n e=>
  have⟨z,e1,k1⟩:=k.ok hv
  ⟨z,e1,by
   cases z
   ·exact .mk ι' fz' σ1 (.bool false) k1 (.dat .bool) r' g n e
   ·exact(k1 pr fz' m ι' l' (hn.grow e.sub g n) r').mono fun v l'' p'=>p'.trans g n e⟩)
theorem AT.chain{a b b':PySem.Expr}{op op':CmpOp}{pos:Pos}(h:AE c env X a σ fun x σ1=>AE c env X b σ1 fun y σ2=>asI (fun i o1_ o2_=>asI (fun j o1_ o2_=>∃z,Cm op i j=some z∧cond z (AE c env X b' σ2 fun y' σ3=>asI (fun j' o1_ o2_=>∃z',Cm op' j j'=some z'∧B z' σ3) y') (B false σ2)) y) x)
  (hm:lastMarks [op,op'] [b,b']=false):AT c env X (.Compare a [op,op'] [b,b'] pos) σ B:=fun pr fz m ι l hn r=>fun s Q E F N q=>by
 refine isTrue_chain (h pr fz m ι l hn r s _ E F N fun v l' h' tk' p F' N'=>?_) hm
 refine test_link (p.elim fun ι1 fz1 σ1 x k hv r1 g1 n1 e1=>k pr fz1 m ι1 l' (hn.grow e1.sub g1 n1) r1 _ _ E F' N' fun u l'' h'' tk'' p' F'' N''=>p'.elim fun ι2 fz2 σ2 y k hu r2 g2 n2 e2=>?_)
 obtain⟨i,o1_,o2_,t,rfl,k,o3_⟩:=k.ok (hv.grow e2.sub g2 n2)
 obtain⟨j,bj,lj,t',rfl,⟨z,ez,k⟩,o1_⟩:=k.ok hu
 have H:=hn.grow (e1.sub.trans e2.sub) (g1.trans g2 n1) (Nat.le_trans n1 n2)
 refine(Cm.ok (c:=c) (l:=l'') (P:=fun b o1_=>b=z) ez rfl).elim fun z' hz=>hz.1 _ _ _ _ E (wpAny_truthy_bool ?_)
 have:=hz.2
 subst this
 induction z' using Bool.casesOn with
 |false=>exact q _ _ _ tk'' (.mk ι2 fz2 σ2 k r2 (g1.trans g2 n1) (Nat.le_trans n1 n2) (e1.trans e2)) F'' N''
 |true=>
  refine test_last (k pr fz2 m ι2 l'' H r2 _ _ E F'' N'' fun u2 l3 h3 tk3 p3 F3 N3=>p3.elim fun ι3 fz3 σ3 y' k hu2 r3 g3 n3 e3=>?_)
  obtain⟨j',o1_,o2_,t3,rfl,⟨z3,ez3,k⟩,o3_⟩:=k.ok hu2
  refine(Cm.ok (c:=c) (l:=l3) (P:=fun b o1_=>b=z3) ez3 rfl).elim fun z4 hz=>hz.1 _ _ _ _ E (wpAny_truthy_bool ?_)
  have:=hz.2
  subst this
  exact q _ _ _ tk3 (.mk ι3 fz3 σ3 k r3 ((g1.trans g2 n1).trans g3 (Nat.le_trans n1 n2)) (Nat.le_trans (Nat.le_trans n1 n2) n3) ((e1.trans e2).trans e3)) F3 N3
noncomputable def atEl(k:Int→Prop)(x y C S:Int)(a:Str):Prop:=cond (a==Str.ofString "rx") (k x) (cond (a==Str.ofString "ry") (k y) (cond (a==Str.ofString "cosine") (k C) (cond (a==Str.ofString "sine") (k S) False)))
noncomputable def wAttr(σ:Sto)(K:V→Sto→Prop)(a:Str):V→Prop
 |.ell x y C S=>atEl (fun n=>K (.int n (some 400) none) σ) x y C S a
 |_=>False
theorem AE.attr{x a:Str}{xp pos:Pos}(ok:Cok c d)(h:AE c env X (.Name x xp) σ fun v σ1=>wAttr σ1 K a v):AE c env X (.Attribute (.Name x xp) a pos) σ K:=fun pr fz m ι l hn r=>fun s Q E F N q=>by
 refine Attribute_name (h pr fz m ι l hn r s _ E F N fun v l' h' tk' p F' N'=>p.elim fun ι1 fz1 σ1 x k hv r1 g1 n1 e1=>?_)
 cases hv with
 |ref o1_=>exact k.elim
 |dat hv=>
  cases hv with
  |@ell x y C S A D t1 t2 t3 t4 t5 t6 t7 t8 hm hk hb=>
   have I:InstAt h' A (instObj 264 D) 264 (some (elD c.w.params x y C S t1 t2 t3 t4 t5 t6 t7 t8)):=InstAt.of_news N' (r1.subf _ hm) (r1.subf _ hk)
   have fin:∀n u,findObj (Mine.K c.w.params) 264 (some (elD c.w.params x y C S t1 t2 t3 t4 t5 t6 t7 t8)) a=some (.value (.int n u))→intBits n≤400→K (.int n (some 400) none) σ1→wpAny (MD c.w) c.A (getAttr (.ref A) a true) Q E ⟨h',s.gens,s.drawn,tk',s.os⟩:=fun n u e hn k=>
    get_value (ok.X.keeps F'.keep) I (by w_on) e rfl (q _ _ _ _ (.mk ι1 fz1 σ1 _ k (.dat (.int ⟨fun z e=>by cases Option.some.inj e;exact hn,fun o1_ e=>by cases e⟩)) r1 g1 n1 e1) F' N')
   have k:atEl (fun n=>K (.int n (some 400) none) σ1) x y C S a:=k
   unfold atEl at k
   cases h1:a==Str.ofString "rx" with
   |true=>rw[h1] at k;have e:=eq_of_beq h1;subst e;exact fin x _ (by w_on) hb.1.1 k
   |false=>
    rw[h1] at k
    cases h2:a==Str.ofString "ry" with
    |true=>rw[h2] at k;have e:=eq_of_beq h2;subst e;exact fin y _ (by w_on) hb.1.2 k
    |false=>
     rw[h2] at k
     cases h3:a==Str.ofString "cosine" with
     |true=>rw[h3] at k;have e:=eq_of_beq h3;subst e;exact fin C _ (by w_on) (Nat.le_trans hb.2.1 (by decide)) k
     |false=>
      rw[h3] at k
      obtain⟨h4,k⟩:=cond_t k
      have e:=eq_of_beq h4;subst e;exact fin S _ (by w_on) (Nat.le_trans hb.2.2 (by decide)) k
  |_=>exact k.elim
end
section
variable {w:World} {pr fz:Led} {σ:Sto} {ι:Nat→Addr} {l l':Led} {K:V→Sto→Prop} {as:List V} {ws:List Value} {D:Addr}
theorem Pk.newL{O:Obj}(r:Rel w pr fz σ ι l)(hr:Reps w fz as ws)(s:Sub l l')(f:FreshAt D l)(hm:(D,O)∈l')(o:LO O ws)(k:K (.ref σ.length) (σ++[.lst as])):Pk w pr fz σ.length ι K (.ref D) l':=by
 refine .mk (setN ι σ.length D) fz _ (.ref σ.length) k ?_ (r.new s f hm (.lst hr o) (fun o1_ e=>by exact nomatch e)) setN.agr (by simp) Ext.refl
 have:=RepV.ref (w:=w) (fz:=fz) (N:=(σ++[AO.lst as]).length) (ι:=setN ι σ.length D) (k:=σ.length) (by simp)
 rwa [setN.at] at this
theorem Pk.newT(r:Rel w pr fz σ ι l)(hr:Reps w fz as ws)(s:Sub l l')(f:FreshAt D l)(hm:(D,tupO ws)∈l')(k:K (.tup as) σ):Pk w pr fz σ.length ι K (.ref D) l':=
 have A:=r.add s f hm
 .mk ι _ σ (.tup as) k (.dat (.tup (.head _) (hr.mono Sub.cons))) A.1 Agr.refl (Nat.le_refl _) A.2
end
noncomputable def isNm:PySem.Expr→Bool
 |.Name _ _=>true
 |_=>false
noncomputable def wSl(σ:Sto)(K:V→Sto→Prop)(x:V)(i:Int):Prop:=cond (isLs x&&decide (i=1)) (optK (fun vs=>cond (Nat.ble vs.length 1000) (K (.ref σ.length) (σ++[.lst (vs.drop 1)])) False) (conts σ x)) False
noncomputable def mid4:List V→Option (List V)
 |[_,b,c,_]=>some [b,c]
 |_=>none
noncomputable def wSl2(σ:Sto)(K:V→Sto→Prop)(x:V)(i j:Int):Prop:=cond (isTp x&&(decide (i=1)&&decide (j=3))) (optK (fun vs=>optK (fun us=>K (.tup us) σ) (mid4 vs)) (conts σ x)) False
theorem pick1:∀(its:List Value),kms_pick its (some 1) none=its.drop 1
 |[]=>rfl
 |a::r=>by
  unfold kms_pick kms_lo kms_hi
  simp
theorem mid4.ok{w:World}{fz:Led}{vs us:List V}{ws:List Value}(h:mid4 vs=some us)(hr:Reps w fz vs ws):∃x0 x1 x2 x3,ws=[x0,x1,x2,x3]∧Reps w fz us [x1,x2]:=by
 cases hr with
 |nil=>exact nomatch h
 |cons h0 t=>cases t with
  |nil=>exact nomatch h
  |cons h1 t=>cases t with
   |nil=>exact nomatch h
   |cons h2 t=>cases t with
    |nil=>exact nomatch h
    |cons h3 t=>cases t with
     |nil=>cases Option.some.inj h;exact⟨_,_,_,_,rfl,.cons h1 (.cons h2 .nil)⟩
     |cons o1_ o2_=>exact nomatch h
theorem Reps.drop{w:World}{fz:Led}{vs:List V}{ws:List Value}(h:Reps w fz vs ws):Reps w fz (vs.drop 1) (ws.drop 1):=by
 cases h with
 |nil=>exact .nil
 |cons o1_ t=>exact t
section
variable {sc:Scope} {c:Cx sc} {env:Env} {m:Mp} {l:Led} {d:Nat} {X:Wx} {σ:Sto} {ι:Nat→Addr} {K:V→Sto→Prop} {B:Bool→Sto→Prop} {pr fz:Led} {N:Nat} {P:VP}
theorem AE.slice1{e lo:PySem.Expr}{sp pos:Pos}(ok:Cok c d)(he:isNm e=true)(h:AE c env X e σ fun x σ1=>AE c env X lo σ1 fun y σ2=>asI (fun i o1_ o2_=>wSl σ2 K x i) y):AE c env X (.Subscript e (.Slice (some lo) none none sp) pos) σ K:=fun pr fz m ι l hn r=>fun s Q E F N q=>by
 refine Subscript_ (h pr fz m ι l hn r s _ E F N fun v l' h' tk' p F' N'=>p.elim fun ι1 fz1 σ1 x k hv r1 g1 n1 e1=>?_)
 refine wpAny_Slice ?_
 refine k pr fz1 m ι1 l' (hn.grow e1.sub g1 n1) r1 _ _ E F' N' fun u l'' h'' tk'' p F'' N''=>p.elim fun ι2 fz2 σ2 y k hu r2 g2 n2 e2=>?_
 obtain⟨i,o1_,o2_,t,rfl,k,o3_⟩:=k.ok hu
 unfold wSl at k
 obtain⟨hz,k1⟩:=cond_t k
 rw[Bool.and_eq_true] at hz
 have hi:=of_decide_eq_true hz.2
 subst hi
 obtain⟨vs,ev,k2⟩:=optK.ok k1
 obtain⟨hl,k3⟩:=cond_t k2
 obtain⟨A,ws,rfl,hr,hs⟩:=conts_at ok ev r2 (hv.grow e2.sub g2 n2)
 rw[isLs_tp hz.1] at hs
 refine wpAny_pure (wpAny_pure ?_)
 refine kms_slice_lit (zs:=kms_pick ws (some 1) none) (its:=ws.toArray) F'' N'' (hs m _ F'' N'') (.int 1 t) .none (by simp) (fun D h3 F3 N3 hlt=>?_) rfl (fun r=>?_) (Nat.le_trans (by rw[List.size_toArray,←hr.length];exact Nat.le_of_ble_eq_true hl) (by decide:1000≤sizeLine))
 ·refine q _ _ _ _ ((Pk.trans g1 n1 e1 (Pk.trans g2 n2 e2 (Pk.newL (O:=listOf (ws.drop 1).toArray 0) r2 hr.drop Sub.cons (fun p hp=>Nat.ne_of_lt (hlt p hp)) ?_ ⟨⟨rfl,rfl⟩,_,rfl⟩ k3)))) F3 N3
  rw[pick1];exact .head _
 ·cases e <;> first |rfl |cases he
theorem AE.slice2{e lo hi:PySem.Expr}{sp pos:Pos}(ok:Cok c d)(h:AE c env X e σ fun x σ1=>AE c env X lo σ1 fun y σ2=>asI (fun i o1_ o2_=>AE c env X hi σ2 fun y' σ3=>asI (fun j o1_ o2_=>wSl2 σ3 K x i j) y') y):AE c env X (.Subscript e (.Slice (some lo) (some hi) none sp) pos) σ K:=fun pr fz m ι l hn r=>fun s Q E F N q=>by
 refine Subscript_ (h pr fz m ι l hn r s _ E F N fun v l' h' tk' p F' N'=>p.elim fun ι1 fz1 σ1 x k hv r1 g1 n1 e1=>?_)
 refine wpAny_Slice ?_
 refine k pr fz1 m ι1 l' (hn.grow e1.sub g1 n1) r1 _ _ E F' N' fun u l'' h'' tk'' p F'' N''=>p.elim fun ι2 fz2 σ2 y k hu r2 g2 n2 e2=>?_
 obtain⟨i,o1_,o2_,t,rfl,k,o3_⟩:=k.ok hu
 refine k pr fz2 m ι2 l'' ((hn.grow e1.sub g1 n1).grow e2.sub g2 n2) r2 _ _ E F'' N'' fun u3 l3 h3 tk3 p F3 N3=>p.elim fun ι3 fz3 σ3 y' k hu3 r3 g3 n3 e3=>?_
 obtain⟨j,o1_,o2_,t3,rfl,k,o3_⟩:=k.ok hu3
 unfold wSl2 at k
 obtain⟨hz,k1⟩:=cond_t k
 rw[Bool.and_eq_true,Bool.and_eq_true] at hz
 have hi:=of_decide_eq_true hz.2.1
 have hj:=of_decide_eq_true hz.2.2
 subst hi;subst hj
 obtain⟨vs,ev,k2⟩:=optK.ok k1
 obtain⟨us,em,k3⟩:=optK.ok k2
 obtain⟨A,ws,rfl,hr,hs⟩:=conts_at ok ev r3 ((hv.grow e2.sub g2 n2).grow e3.sub g3 n3)
 rw[hz.1] at hs
 obtain⟨x0,x1,x2,x3,rfl,hr1⟩:=mid4.ok em hr
 refine wpAny_pure ?_
 have ht0:IsTup h3 A #[x0,x1,x2,x3]:=hs m _ F3 N3
 have ht':IsTup (h3.push {cls:= .type "slice",data:= .fields #[.int 1 t,.int 3 t3,.none]}) A #[x0,x1,x2,x3]:=ht0.keeps fun o1_ o2_ e=>Heap.get?_push_of_some _ e
 have hlt:=fun p hp=>Heap.lt_size (N3 p hp).1
 refine tail_any (s:=⟨h3.push {cls:= .type "slice",data:= .fields #[.int 1 t,.int 3 t3,.none]},s.gens,s.drawn,tk3,s.os⟩) ht'.typeIs slot_tuple_getitem.lookup (getItem_tuple_13 ht' (Heap.IsSliceOf.new ..) ?_) rfl
 have N1:=News.push (F3.push {cls:= .type "slice",data:= .fields #[.int 1 t,.int 3 t3,.none]}) (N3.grown fun o1_ o2_ e=>Heap.get?_push_of_some _ e) {cls:= .type "tuple",data:= .seq #[x1,x2]}
 rw[Heap.size_push] at N1
 show Q (.ref (h3.push _).objs.size) _
 rw[Heap.size_push]
 exact q _ _ _ _ (Pk.trans g1 n1 e1 (Pk.trans g2 n2 e2 (Pk.trans g3 n3 e3 (Pk.newT (ws:=[x1,x2]) r3 hr1 Sub.cons (fun p hp=>Nat.ne_of_lt (Nat.lt_succ_of_lt (hlt p hp))) (.head _) k3)))) ((F3.push _).push _) N1
end
noncomputable def BI{sc:Scope}(c:Cx sc)(u:Value)(as:List V)(σ:Sto)(K:V→Sto→Prop):Prop:=∀pr fz m ι l vs,Rel c.w pr fz σ ι l→Reqs c.w fz σ.length ι as vs→TC c m l u vs (Pk c.w pr fz σ.length ι K)
noncomputable abbrev BF:=List V→Sto→(V→Sto→Prop)→Prop
noncomputable def w1(k:V→Prop):List V→Prop
 |[a]=>k a
 |_=>False
noncomputable def w2(k:V→V→Prop):List V→Prop
 |[a,b]=>k a b
 |_=>False
set_option genInjectivity false in
set_option genSizeOfSpec false in
inductive W1D(k:V→Prop)(as:List V):Prop where
 |mk (a:V) (e:as=[a]) (h:k a)
theorem w1.ok{k:V→Prop}{as:List V}(h:w1 k as):W1D k as:=by
 induction as using List.casesOn with
 |nil=>exact h.elim
 |cons a r=>induction r using List.casesOn with
  |nil=>exact⟨a,rfl,h⟩
  |cons o1_ o2_=>exact h.elim
set_option genInjectivity false in
set_option genSizeOfSpec false in
inductive W2D(k:V→V→Prop)(as:List V):Prop where
 |mk (a b:V) (e:as=[a,b]) (h:k a b)
theorem w2.ok{k:V→V→Prop}{as:List V}(h:w2 k as):W2D k as:=by
 induction as using List.casesOn with
 |nil=>exact h.elim
 |cons a r=>induction r using List.casesOn with
  |nil=>exact h.elim
  |cons b r=>induction r using List.casesOn with
   |nil=>exact⟨a,b,rfl,h⟩
   |cons o1_ o2_=>exact h.elim
noncomputable def lo1:Option Nat→Option Nat
 |some k=>some k
 |none=>some 0
noncomputable def loM:Option Nat→Option Nat→Option Nat
 |some k,_=>some k
 |none,l=>l
noncomputable def wAdd(i:Int)(bi li:Option Nat)(j:Int)(bj lj:Option Nat)(k:IK):Prop:=o2 (fun x y=>x+(y-x)+1) (fun b=>o2 (· + ·) (fun l=>k (i+j) b l) li lj) bi bj
noncomputable def wSum(k:IK):List V→Prop
 |[]=>k 0 (some 0) (some 0)
 |v::r=>asI (fun i b l=>wSum (fun s bs ls=>wAdd i b l s bs ls k) r) v
theorem wAdd.ok{i j:Int}{bi li bj lj:Option Nat}{k:IK}(h:wAdd i bi li j bj lj k)(hi:In i bi li)(hj:In j bj lj):∃b l,In (i+j) b l∧k (i+j) b l:=by
 obtain⟨b,h,hb⟩:=o2.ok h
 obtain⟨ll,h,hl⟩:=o2.ok h
 refine⟨b,ll,⟨fun z e=>?_,fun z e=>?_⟩,h⟩
 ·obtain⟨x,y,rfl,rfl,rfl⟩:=hb z e
  rw[mx_eq];exact bits_add (hi.b _ rfl) (hj.b _ rfl)
 ·obtain⟨x,y,rfl,rfl,rfl⟩:=hl z e
  exact Int.add_le_add (hi.l _ rfl) (hj.l _ rfl)
theorem wSum.ok{w:World}{fz:Led}:∀{vs:List V} {ws:List Value} {k:IK},wSum k vs→Reps w fz vs ws→∃ns b l,IntsAre ws ns∧In ns.sum b l∧k ns.sum b l:=by
 intro vs
 induction vs with
 |nil=>intro ws k h hr;cases hr;exact⟨[],_,_,.nil,⟨fun z e=>by cases e;decide,fun z e=>by cases e;decide⟩,h⟩
 |cons v r ih=>
  intro ws k h hr
  cases hr with
  |cons h1 t=>
   obtain⟨i,b,l,tk,rfl,h,hi⟩:=asI.ok (N:=0) (ι:=fun o1_=>0) h (.dat h1)
   obtain⟨ns,b2,l2,hns,hs,h⟩:=ih h t
   obtain⟨b3,l3,h3,h⟩:=wAdd.ok h hi hs
   exact⟨i::ns,b3,l3,.cons _ _ hns,h3,h⟩
theorem len_bits{n:Nat}(h:n≤1000):intBits (n:Int)≤10:=PySem.intBits_le_iff.mpr (by show n<1024;exact lN 0x3bfa018473a18200612e1 h)
noncomputable def buT:List (Str×BF):=[
 ("abs",fun as σ K=>w1 (asI fun a b l=>K (.int (if a<0 then -a else a) b (lo1 l)) σ) as),
 ("max",fun as σ K=>w2 (fun x y=>asI (fun a ba la=>asI (fun b bb lb=>o2 (fun x y=>x+(y-x)) (fun bc=>K (.int (if b>a then b else a) bc (loM la lb)) σ) ba bb) y) x) as),
 ("min",fun as σ K=>w2 (fun x y=>asI (fun a ba la=>asI (fun b bb lb=>o2 (fun x y=>x+(y-x)) (fun bc=>K (.int (if b<a then b else a) bc none) σ) ba bb) y) x) as),
 ("bool",fun as σ K=>w1 (asB fun a=>K (.bool a) σ) as),
 ("int",fun as σ K=>w1 (asB fun b=>K (.int (if b then 1 else 0) (some 1) (some 0)) σ) as),
 ("len",fun as σ K=>w1 (fun v=>optK (fun vs=>cond (Nat.ble vs.length 1000) (K (.int vs.length (some 10) (some vs.length)) σ) False) (conts σ v)) as),
 ("tuple",fun as σ K=>w1 (fun v=>cond (isLs v) (optK (fun vs=>cond (Nat.ble vs.length 1000) (K (.tup vs) σ) False) (conts σ v)) False) as),
 ("sum",fun as σ K=>w1 (fun v=>cond (isLs v) (optK (fun vs=>wSum (fun n b l=>K (.int n b l) σ) vs) (conts σ v)) False) as)]
theorem lookup_in{α:Type}{x:Str}{a:α}:∀{l:List (Str×α)},List.lookup x l=some a→(x,a)∈l
 |[],h=>by exact nomatch h
 |(y,b)::l,h=>by
  rw[List.lookup] at h
  cases hh:x==y with
  |true=>rw[hh] at h;cases Option.some.inj h;cases eq_of_beq hh;exact .head _
  |false=>rw[hh] at h;exact .tail _ (lookup_in h)
section
variable {sc:Scope} {c:Cx sc} {m:Mp} {l:Led} {d:Nat} {σ:Sto} {ι:Nat→Addr} {K:V→Sto→Prop} {pr fz:Led} {N:Nat}
theorem Reqs.one{w:World}{a:V}{vs:List Value}(h:Reqs w fz N ι [a] vs):∃v,vs=[v]∧RepV w fz N ι a v:=by
 cases h with
 |cons h t=>cases t;exact⟨_,rfl,h⟩
theorem Reqs.two{w:World}{a b:V}{vs:List Value}(h:Reqs w fz N ι [a,b] vs):∃v u,vs=[v,u]∧RepV w fz N ι a v∧RepV w fz N ι b u:=by
 cases h with
 |cons h t=>cases t with
  |cons k t=>cases t;exact⟨_,_,rfl,h,k⟩
noncomputable def BuOk{sc:Scope}(c:Cx sc)(f:Str)(F:BF):Prop:=∃u,(nsIn (Mine.K c.w.params) mainGlobals f=some none∧bootBuiltins f=some u∧f≠ "__name__")∧((∃id,u= .builtin id)∨(∃id,u= .type id))∧∀as σ K,F as σ K→BI c u as σ K
theorem bu_abs:BuOk c "abs" fun as σ K=>w1 (asI fun a b l=>K (.int (if a<0 then -a else a) b (lo1 l)) σ) as:=
 ⟨.builtin "abs",⟨rfl,rfl,by decide⟩,.inl ⟨_,rfl⟩,fun as σ K h=>by
  obtain⟨a,rfl,h⟩:=w1.ok h
  intro pr fz m ι l vs r hv
  obtain⟨v,rfl,hx⟩:=hv.one
  obtain⟨i,b,lb,t,rfl,h1,hi⟩:=asI.ok h hx
  refine TC.abs fun u=> .here h1 (.dat (.int ⟨fun z e=>Nat.le_trans (bits_ite (bits_neg (hi.b z e)) (hi.b z e)) (by omega),fun z e=>?_⟩)) r
  induction lb using Option.casesOn with
  |none=>cases Option.some.inj e;split <;> omega
  |some k=>cases Option.some.inj e;have:=hi.l _ rfl;split <;> omega⟩
theorem bu_max:BuOk c "max" fun as σ K=>w2 (fun x y=>asI (fun a ba la=>asI (fun b bb lb=>o2 (fun x y=>x+(y-x)) (fun bc=>K (.int (if b>a then b else a) bc (loM la lb)) σ) ba bb) y) x) as:=
 ⟨.builtin "max",⟨rfl,rfl,by decide⟩,.inl ⟨_,rfl⟩,fun as σ K h=>by
  obtain⟨a,b,rfl,h⟩:=w2.ok h
  intro pr fz m ι l vs r hv
  obtain⟨v,u,rfl,hx,hy⟩:=hv.two
  obtain⟨i,bi,li,t,rfl,h1,hi⟩:=asI.ok h hx
  obtain⟨j,bj,lj,t',rfl,h2,hj⟩:=asI.ok h1 hy
  obtain⟨bc,h3,hb⟩:=o2.ok h2
  refine TC.max2 fun u=> .here h3 (.dat (.int ⟨fun z e=>?_,fun z e=>?_⟩)) r
  ·obtain⟨x,y,rfl,rfl,rfl⟩:=hb z e
   rw[mx_eq,Nat.max_comm];exact bits_ite (hj.b _ rfl) (hi.b _ rfl)
  ·induction li using Option.casesOn with
   |none=>have:=hj.l z e;split <;> omega
   |some k=>cases Option.some.inj e;have:=hi.l _ rfl;split <;> omega⟩
theorem bu_min:BuOk c "min" fun as σ K=>w2 (fun x y=>asI (fun a ba la=>asI (fun b bb lb=>o2 (fun x y=>x+(y-x)) (fun bc=>K (.int (if b<a then b else a) bc none) σ) ba bb) y) x) as:=
 ⟨.builtin "min",⟨rfl,rfl,by decide⟩,.inl ⟨_,rfl⟩,fun as σ K h=>by
  obtain⟨a,b,rfl,h⟩:=w2.ok h
  intro pr fz m ι l vs r hv
  obtain⟨v,u,rfl,hx,hy⟩:=hv.two
  obtain⟨i,bi,li,t,rfl,h1,hi⟩:=asI.ok h hx
  obtain⟨j,bj,lj,t',rfl,h2,hj⟩:=asI.ok h1 hy
  obtain⟨bc,h3,hb⟩:=o2.ok h2
  refine TC.min2 fun u=> .here h3 (.dat (.int ⟨fun z e=>?_,fun z e=>by cases e⟩)) r
  obtain⟨x,y,rfl,rfl,rfl⟩:=hb z e
  rw[mx_eq,Nat.max_comm];exact bits_ite (hj.b _ rfl) (hi.b _ rfl)⟩
theorem bu_bool:BuOk c "bool" fun as σ K=>w1 (asB fun a=>K (.bool a) σ) as:=
 ⟨.type "bool",⟨rfl,rfl,by decide⟩,.inr ⟨_,rfl⟩,fun as σ K h=>by
  obtain⟨a,rfl,h⟩:=w1.ok h
  intro pr fz m ι l vs r hv
  obtain⟨v,rfl,hx⟩:=hv.one
  obtain⟨b,rfl,h1⟩:=asB.ok h hx
  exact TC.bool' (.here h1 (.dat .bool) r)⟩
theorem bu_int:BuOk c "int" fun as σ K=>w1 (asB fun b=>K (.int (if b then 1 else 0) (some 1) (some 0)) σ) as:=
 ⟨.type "int",⟨rfl,rfl,by decide⟩,.inr ⟨_,rfl⟩,fun as σ K h=>by
  obtain⟨a,rfl,h⟩:=w1.ok h
  intro pr fz m ι l vs r hv
  obtain⟨v,rfl,hx⟩:=hv.one
  obtain⟨b,rfl,h1⟩:=asB.ok h hx
  refine TC.intB fun t=> .here h1 (.dat (.int ⟨fun z e=>?_,fun z e=>?_⟩)) r
  ·cases e;cases b <;> decide
  ·cases e;cases b <;> decide⟩
theorem bu_len{d:Nat}(ok:Cok c d):BuOk c "len" fun as σ K=>w1 (fun v=>optK (fun vs=>cond (Nat.ble vs.length 1000) (K (.int vs.length (some 10) (some vs.length)) σ) False) (conts σ v)) as:=
 ⟨.builtin "len",⟨rfl,rfl,by decide⟩,.inl ⟨_,rfl⟩,fun as σ K h=>by
  obtain⟨a,rfl,h⟩:=w1.ok h
  intro pr fz m ι l vs r hv
  obtain⟨v,rfl,hx⟩:=hv.one
  obtain⟨us,e,h3⟩:=optK.ok h
  obtain⟨hz,h4⟩:=cond_t h3
  have hz':=Nat.le_of_ble_eq_true hz
  obtain⟨A,ws,rfl,hr,hs⟩:=conts_at ok e r hx
  have hl:=hr.length
  have fin:∀t,Pk c.w pr fz σ.length ι K (.int (ws.toArray.size:Int) t) l:=fun t=>by
   rw[List.size_toArray,←hl]
   exact .here h4 (.dat (.int ⟨fun z e=>by cases Option.some.inj e;exact len_bits hz',fun z e=>by cases Option.some.inj e;exact Int.le_refl _⟩)) r
  have fit:(ws.toArray.size:Int)<2^63:=by rw[List.size_toArray,←hl];omega
  refine fun s Q E F N q=>?_
  have:=hs m _ F N
  cases h1:isTp a with
  |true=>rw[h1] at this;exact len_tuple this fit (q _ _ _ _ (fin _) F N)
  |false=>rw[h1] at this;exact len_list this fit (q _ _ _ _ (fin _) F N)⟩
theorem bu_tuple{d:Nat}(ok:Cok c d):BuOk c "tuple" fun as σ K=>w1 (fun v=>cond (isLs v) (optK (fun vs=>cond (Nat.ble vs.length 1000) (K (.tup vs) σ) False) (conts σ v)) False) as:=
 ⟨.type "tuple",⟨rfl,rfl,by decide⟩,.inr ⟨_,rfl⟩,fun as σ K h=>by
  obtain⟨a,rfl,h⟩:=w1.ok h
  intro pr fz m ι l vs r hv
  obtain⟨v,rfl,hx⟩:=hv.one
  obtain⟨h1,h2⟩:=cond_t h
  obtain⟨us,e,h3⟩:=optK.ok h2
  obtain⟨hz,h4⟩:=cond_t h3
  obtain⟨A,ws,rfl,hr,hs⟩:=conts_at ok e r hx
  rw[isLs_tp h1] at hs
  refine fun s Q E F N q=>call_tuple_list (hs m _ F N) (fun h' hk=>?_) (Nat.le_trans (by rw[List.size_toArray,←hr.length];exact Nat.le_of_ble_eq_true hz) (by decide))
  have F':=F.keeps hk
  have lt:∀p∈l,p.1<h'.objs.size:=fun p hp=>Heap.lt_size (hk _ _ (N p hp).1)
  refine q _ ((h'.objs.size,tupO ws)::l) _ _ (Pk.newT r hr Sub.cons (fun p hp=>Nat.ne_of_lt (lt p hp)) (.head _) h4) (F'.keeps fun o1_ o2_ e=>Heap.get?_push_of_some _ e) fun p hp=>?_
  rcases List.mem_cons.mp hp with e |hp
  ·rw[e];exact⟨Heap.get?_push_size _ rfl,fun e=>absurd F'.ns.lt (e▸Nat.lt_irrefl _),next_is_new F'⟩
  ·exact⟨Heap.get?_push_of_some _ (hk _ _ (N p hp).1),(N p hp).2⟩⟩
theorem bu_sum{d:Nat}(ok:Cok c d):BuOk c "sum" fun as σ K=>w1 (fun v=>cond (isLs v) (optK (fun vs=>wSum (fun n b l=>K (.int n b l) σ) vs) (conts σ v)) False) as:=
 ⟨.builtin "sum",⟨rfl,rfl,by decide⟩,.inl ⟨_,rfl⟩,fun as σ K h=>by
  obtain⟨a,rfl,h⟩:=w1.ok h
  intro pr fz m ι l vs r hv
  obtain⟨v,rfl,hx⟩:=hv.one
  obtain⟨h1,h2⟩:=cond_t h
  obtain⟨us,e,h3⟩:=optK.ok h2
  obtain⟨A,ws,rfl,hr,hs⟩:=conts_at ok e r hx
  rw[isLs_tp h1] at hs
  obtain⟨ns,b,lb,hi,hn,h5⟩:=wSum.ok h3 hr
  exact fun s Q E F N q=>LSm.sum_ints F N (by rfl) (hs m _ F N) hi fun h' tk t F' N'=>q _ _ _ _ (.here h5 (.dat (.int hn)) r) F' N'⟩
theorem buT.ok{d:Nat}{f:Str}{F:BF}(ok:Cok c d)(h:List.lookup f buT=some F):BuOk c f F:=by
 have hm:=lookup_in h
 cases hm with
 |head=>exact bu_abs
 |tail o1_ hm=>cases hm with
  |head=>exact bu_max
  |tail o1_ hm=>cases hm with
   |head=>exact bu_min
   |tail o1_ hm=>cases hm with
    |head=>exact bu_bool
    |tail o1_ hm=>cases hm with
     |head=>exact bu_int
     |tail o1_ hm=>cases hm with
      |head=>exact bu_len ok
      |tail o1_ hm=>cases hm with
       |head=>exact bu_tuple ok
       |tail o1_ hm=>cases hm with
        |head=>exact bu_sum ok
        |tail o1_ hm=>exact nomatch hm
end
noncomputable abbrev PF:=List V→(V→Prop)→Prop
noncomputable abbrev SF:=List V→List V→(V→List V→Prop)→Prop
noncomputable abbrev NF:=List V→(List V→Prop)→Prop
inductive FN where
 |p (F:PF) |s (F:SF) |n (F:NF)
noncomputable def FnOk(w:World)(f:Addr)(d:Nat)(F:PF):Prop:=∀(as:List V) (K:V→Prop),F as K→∀(news fz:Led) (vs:List Value),Sub fz news→Reps w fz as vs→
 ConG w f d news vs (fun v l'=>Sub news l'∧∃r fz',K r∧Rep w fz' r v∧Sub fz' l'∧Ext news fz fz')
structure SBk(w:World)(news fz:Led)(a:Addr)(K:V→List V→Prop)(v:Value)(l':Led)(r:V)(vs':List V)(fz':Led)(O':Obj)(ws':List Value):Prop where
 k:K r vs'
 hr:Rep w fz' r v
 hm:(a,O')∈l'
 lo:LO O' ws'
 hv:Reps w fz' vs' ws'
 st:Sub (dropL a news) l'
 sf:Sub fz' l'
 fa:FreshAt a fz'
 x:Ext (dropL a news) fz fz'
noncomputable def SnOk(w:World)(f:Addr)(d:Nat)(F:SF):Prop:=∀(ss as:List V) (K:V→List V→Prop),F ss as K→∀(news fz:Led) (a:Addr) (O:Obj) (ws vs:List Value),(a,O)∈news→LO O ws→Reps w fz ss ws→FreshAt a fz→Sub fz news→Reps w fz as vs→
 ConG w f d news (.ref a::vs) (fun v l'=>∃r vs' fz' O' ws',SBk w news fz a K v l' r vs' fz' O' ws')
structure NBk(w:World)(news fz:Led)(K:List V→Prop)(v:Value)(l':Led)(vs':List V)(fz':Led)(a:Addr)(O:Obj)(ws':List Value):Prop where
 k:K vs'
 e:v= .ref a
 hm:(a,O)∈l'
 lo:LO O ws'
 hv:Reps w fz' vs' ws'
 st:Sub news l'
 sf:Sub fz' l'
 fa:FreshAt a news
 fb:FreshAt a fz'
 x:Ext news fz fz'
noncomputable def NnOk(w:World)(f:Addr)(d:Nat)(F:NF):Prop:=∀(as:List V) (K:List V→Prop),F as K→∀(news fz:Led) (vs:List Value),Sub fz news→Reps w fz as vs→
 ConG w f d news vs (fun v l'=>∃vs' fz' a O ws',NBk w news fz K v l' vs' fz' a O ws')
noncomputable def FNok(w:World)(f:Addr)(d:Nat):FN→Prop
 |.p F=>FnOk w f d F
 |.s F=>SnOk w f d F
 |.n F=>NnOk w f d F
noncomputable abbrev Gam:=List (Str×FN)
noncomputable def GamOk(w:World)(Γ:Gam)(d:Nat):Prop:=∀x F,List.lookup x Γ=some F→∃n fa,n≤d∧nsIn (Mine.K w.params) mainGlobals x=some (some (.ref fa))∧keepIn (Mine.K w.params) (.ref fa)=true∧FNok w fa n F
theorem GamOk.nil{w:World}{d:Nat}:GamOk w [] d:=fun o1_ o2_ h=>by exact nomatch h
theorem GamOk.cons{w:World}{Γ:Gam}{d d' n:Nat}{x:Str}{F:FN}{fa:Addr}(h:GamOk w Γ d)(hd:d≤d')(hn:n≤d')(h1:nsIn (Mine.K w.params) mainGlobals x=some (some (.ref fa)))(h2:keepIn (Mine.K w.params) (.ref fa)=true)(h3:FNok w fa n F):GamOk w ((x,F)::Γ) d':=fun y G e=>by
 rw[List.lookup] at e
 cases hh:y==x with
 |true=>rw[hh] at e;cases Option.some.inj e;cases eq_of_beq hh;exact⟨n,fa,hn,h1,h2,h3⟩
 |false=>
  rw[hh] at e
  exact(h y G e).imp fun n p=>p.imp fun fa q=>⟨Nat.le_trans q.1 hd,q.2⟩
theorem Rel.call{w:World}{pr fz fz' l l':Led}{σ:Sto}{ι:Nat→Addr}(h:Rel w pr fz σ ι l)(s:Sub l l')(s':Sub fz' l')(x:Ext l fz fz'):Rel w pr fz' σ ι l'∧Ext pr fz fz':=
 ⟨⟨h.subp.trans s,s',fun k o e mu=>⟨(h.own k o e mu).1,fun p hp=>(x.new p hp).elim ((h.own k o e mu).2 p) fun f=>have⟨O,hm,_⟩:=h.mem k o e;(f _ hm).symm⟩,
  fun k o e=>have⟨O,hm,hc⟩:=h.mem k o e;⟨O,s _ hm,hc.grow x.sub Agr.refl (Nat.le_refl _)⟩,fun k vs e=>(h.fro k vs e).mono x.sub,h.inj⟩,
  x.sub,fun p hp=>(x.new p hp).imp id fun f q hq=>f q (h.subp q hq)⟩
theorem SBk.rel{w:World}{pr fz l l':Led}{σ:Sto}{ι:Nat→Addr}{K:V→List V→Prop}{v:Value}{k:Nat}{ss vs':List V}{r:V}{fz':Led}{O':Obj}{ws':List Value}(h:Rel w pr fz σ ι l)(e:σ[k]?=some (.lst ss))(b:SBk w l fz (ι k) K v l' r vs' fz' O' ws'):
  Rel w pr fz' (σ.set k (.lst vs')) ι l'∧Ext pr fz fz':=by
 have ow:=h.own k _ e rfl
 have lt:=(List.getElem?_eq_some_iff.mp e).1
 have drop:∀p∈l,p.1≠ι k→p∈dropL (ι k) l:=fun p hp hn=>dropL.mem.mpr ⟨hp,hn⟩
 have cs:∀j p,(σ.set k (.lst vs'))[j]?=some p→(j≠k∧σ[j]?=some p)∨(j=k∧p= .lst vs'):=fun j p e'=>by
  rw[List.getElem?_set] at e'
  split at e'
  ·rename_i hkj
   subst hkj
   exact .inr ⟨rfl,(Option.some.inj e').symm⟩
  ·exact .inl ⟨Ne.symm ‹_›,e'⟩
 have apart:∀j,j<σ.length→j≠k→ι j≠ι k:=fun j hj hn=>h.inj j k _ e rfl hj hn
 refine⟨⟨fun p hp=>b.st p (drop p (h.subp p hp) (ow.1 p hp)),b.sf,fun j p e' mu=>?_,fun j p e'=>?_,fun j us e'=>?_,fun i j p e' mu hi hn=>?_⟩,b.x.sub,fun p hp=>(b.x.new p hp).imp id fun f q hq=>f q (drop q (h.subp q hq) (ow.1 q hq))⟩
 ·rcases cs j p e' with⟨hn,e2⟩ |⟨rfl,_⟩
  ·refine⟨(h.own j p e2 mu).1,fun q hq=>(b.x.new q hq).elim ((h.own j p e2 mu).2 q) fun f=>?_⟩
   obtain⟨O,hm,o1_⟩:=h.mem j p e2
   exact(f _ (drop _ hm (apart j (List.getElem?_eq_some_iff.mp e2).1 hn))).symm
  ·exact⟨ow.1,b.fa⟩
 ·rw[List.length_set]
  rcases cs j p e' with⟨hn,e2⟩ |⟨rfl,rfl⟩
  ·obtain⟨O,hm,hc⟩:=h.mem j p e2
   exact⟨O,b.st _ (drop _ hm (apart j (List.getElem?_eq_some_iff.mp e2).1 hn)),hc.grow b.x.sub Agr.refl (Nat.le_refl _)⟩
  ·exact⟨O',b.hm,.lst b.hv b.lo⟩
 ·rcases cs j _ e' with⟨_,e2⟩ |⟨_,e2⟩
  ·exact(h.fro j us e2).mono b.x.sub
  ·exact nomatch e2
 ·rw[List.length_set] at hi
  rcases cs j p e' with⟨_,e2⟩ |⟨rfl,_⟩
  ·exact h.inj i j p e2 mu hi hn
  ·exact h.inj i j _ e rfl hi hn
theorem NBk.rel{w:World}{pr fz l l':Led}{σ:Sto}{ι:Nat→Addr}{K:List V→Prop}{v:Value}{vs':List V}{fz':Led}{a:Addr}{O:Obj}{ws':List Value}(h:Rel w pr fz σ ι l)(b:NBk w l fz K v l' vs' fz' a O ws'):
  Rel w pr fz' (σ++[.lst vs']) (setN ι σ.length a) l'∧Ext pr fz fz':=by
 have A:=h.call b.st b.sf b.x
 have le:σ.length≤(σ++[AO.lst vs']).length:=by simp
 have old:∀j,j<σ.length→ι j≠a:=fun j hj=>by
  obtain⟨O',hm,o1_⟩:=h.mem j _ (List.getElem?_eq_getElem hj)
  exact b.fa _ hm
 have cs:∀j o',(σ++[AO.lst vs'])[j]?=some o'→(j<σ.length∧σ[j]?=some o')∨(j=σ.length∧o'=AO.lst vs'):=fun j o' e=>by
  rcases Nat.lt_or_ge j σ.length with hj |hj
  ·exact .inl ⟨hj,by rwa [List.getElem?_append_left hj] at e⟩
  ·obtain⟨h1,o1_⟩:=List.getElem?_eq_some_iff.mp e
   have:j=σ.length:=by simp at h1;exact Nat.le_antisymm (lN 0x3ce8410a120f3a12a2 h1) (lN 0xf3a11cf3a12a2 hj)
   subst this
   simp at e
   exact .inr ⟨rfl,e.symm⟩
 refine⟨⟨A.1.subp,A.1.subf,fun j o' e mu=>?_,fun j o' e=>?_,fun j vs e=>?_,fun i j o' e mu hi hn=>?_⟩,A.2⟩
 ·rcases cs j o' e with⟨hj,e⟩ |⟨rfl,rfl⟩
  ·rw[setN.agr j hj];exact A.1.own j o' e mu
  ·rw[setN.at];exact⟨fun p hp=>b.fa p (h.subp p hp),b.fb⟩
 ·rcases cs j o' e with⟨hj,e⟩ |⟨rfl,rfl⟩
  ·obtain⟨O',hm,hc⟩:=A.1.mem j o' e
   exact⟨O',by rw[setN.agr j hj];exact hm,hc.grow (Sub.refl _) setN.agr le⟩
  ·exact⟨O,by rw[setN.at];exact b.hm,.lst b.hv b.lo⟩
 ·rcases cs j _ e with⟨hj,e⟩ |⟨_,e⟩
  ·rw[setN.agr j hj];exact A.1.fro j vs e
  ·exact nomatch e
 ·have hi:i<σ.length+1:=by simpa using hi
  rcases cs j o' e with⟨hj,e⟩ |⟨rfl,rfl⟩
  ·rw[setN.agr j hj]
   rcases Nat.lt_or_ge i σ.length with h1 |h1
   ·rw[setN.agr i h1];exact A.1.inj i j o' e mu h1 hn
   ·have:i=σ.length:=Nat.le_antisymm (lN 0x3ce8410a120f3a12a2 hi) (lN 0xf3a11cf3a12a2 h1)
    subst this
    rw[setN.at];exact(old j hj).symm
  ·have h1:i<σ.length:=by omega
   rw[setN.at,setN.agr i h1];exact old i h1
section
variable {sc:Scope} {c:Cx sc} {env:Env} {m:Mp} {l:Led} {d:Nat} {X:Wx} {σ:Sto} {ι:Nat→Addr} {K:V→Sto→Prop} {B:Bool→Sto→Prop} {pr fz:Led} {N:Nat}
theorem NnOk.run{n:Nat}{fa:Addr}{F:NF}{as:List V}{vs:List Value}(ok:Cok c d)(hn:n≤d)(h:NnOk c.w fa n F)(hf:F as (fun r=>K (.ref σ.length) (σ++[.lst r])))(hv:Reps c.w fz as vs)(r:Rel c.w pr fz σ ι l):TC c m l (.ref fa) vs (Pk c.w pr fz σ.length ι K):=
 TC.gen ok (@h as _ hf l fz vs r.subf hv) hn fun v l' p=>p.elim fun vs' p=>p.elim fun fz' p=>p.elim fun a p=>p.elim fun O p=>p.elim fun ws' b=>by
  have A:=b.rel r
  have E:=b.e
  subst E
  have R:=RepV.ref (w:=c.w) (fz:=fz') (N:=(σ++[AO.lst vs']).length) (ι:=setN ι σ.length a) (k:=σ.length) (by simp)
  rw[setN.at] at R
  exact .mk _ fz' _ _ b.k R A.1 setN.agr (by simp) A.2
theorem FnOk.run{n:Nat}{fa:Addr}{F:PF}{as:List V}{vs:List Value}(ok:Cok c d)(hn:n≤d)(h:FnOk c.w fa n F)(hf:F as (fun r=>K r σ))(hv:Reps c.w fz as vs)(r:Rel c.w pr fz σ ι l):TC c m l (.ref fa) vs (Pk c.w pr fz σ.length ι K):=
 TC.gen ok (@h as _ hf l fz vs r.subf hv) hn fun v l' p=>p.2.elim fun a q=>q.elim fun fz' q=>
  have A:=r.call p.1 q.2.2.1 q.2.2.2
  .mk ι fz' σ a q.1 (.dat q.2.1) A.1 Agr.refl (Nat.le_refl _) A.2
noncomputable def lstAt(σ:Sto)(k:Nat):Option (List V):=match σ[k]? with
 |some (.lst vs)=>some vs
 |_=>none
theorem lstAt.ok{k:Nat}{vs:List V}(h:lstAt σ k=some vs):σ[k]?=some (.lst vs):=by
 unfold lstAt at h
 cases e:σ[k]? with
 |none=>rw[e] at h;exact nomatch h
 |some o=>
  rw[e] at h
  cases o with
  |lst us=>cases Option.some.inj h;rfl
  |_=>exact nomatch h
theorem SnOk.run{n:Nat}{fa:Addr}{F:SF}{k:Nat}{ss as:List V}{vs:List Value}(ok:Cok c d)(hn:n≤d)(h:SnOk c.w fa n F)(e:lstAt σ k=some ss)(hf:F ss as (fun r vs'=>K r (σ.set k (.lst vs'))))(hv:Reps c.w fz as vs)(r:Rel c.w pr fz σ ι l):TC c m l (.ref fa) (.ref (ι k)::vs) (Pk c.w pr fz σ.length ι K):=by
 have e:=lstAt.ok e
 obtain⟨O,hm,hc⟩:=r.mem k _ e
 cases hc with
 |lst hs hd=>
  exact TC.gen ok (@h ss as _ hf l fz (ι k) O _ vs hm hd hs (r.own k _ e rfl).2 r.subf hv) hn fun v l' p=>p.elim fun a p=>p.elim fun vs' p=>p.elim fun fz' p=>p.elim fun O' p=>p.elim fun ws' b=>
   have A:=b.rel r e
   .mk ι fz' _ a b.k (.dat b.hr) A.1 Agr.refl (by rw[List.length_set];exact Nat.le_refl _) A.2
theorem TC.mono{f:Value}{vs:List Value}{P P':VP}(h:TC c m l f vs P)(k:∀v l',P v l'→P' v l'):TC c m l f vs P':=fun s Q E F N q=>h s Q E F N fun v l' h' tk' p=>q v l' h' tk' (k v l' p)
noncomputable def wSrc(F:SF)(K:V→Sto→Prop)(σ:Sto):List V→Prop
 |.ref k::r=>frzL r σ fun bs σ2=>optK (fun ss=>F ss bs fun r vs'=>K r (σ2.set k (.lst vs'))) (lstAt σ2 k)
 |_=>False
noncomputable def wFN(K:V→Sto→Prop)(as:List V)(σ:Sto):FN→Prop
 |.p F=>frzL as σ fun bs σ2=>F bs fun r=>K r σ2
 |.s F=>wSrc F K σ as
 |.n F=>frzL as σ fun bs σ2=>F bs fun r=>K (.ref σ2.length) (σ2++[.lst r])
theorem wFN.ok{G:FN}{n:Nat}{fa:Addr}{as:List V}{vs:List Value}(ok:Cok c d)(hn:n≤d)(h:FNok c.w fa n G)(hf:wFN K as σ G)(r:Rel c.w pr fz σ ι l)(hv:Reqs c.w fz σ.length ι as vs):TC c m l (.ref fa) vs (Pk c.w pr fz σ.length ι K):=by
 cases G with
 |p F=>
  exact(frzL.ok hf r hv).elim fun fz2 σ2 bs k2 r2 R2 n2 x2=>(FnOk.run ok hn h k2 r2 R2).mono fun v l' p=>p.trans Agr.refl (Nat.le_of_eq n2.symm) x2
 |n F=>
  have hf:frzL as σ (fun bs σ2=>F bs fun r=>K (.ref σ2.length) (σ2++[.lst r])):=hf
  exact(frzL.ok hf r hv).elim fun fz2 σ2 bs k2 r2 R2 n2 x2=>(NnOk.run ok hn h k2 r2 R2).mono fun v l' p=>p.trans Agr.refl (Nat.le_of_eq n2.symm) x2
 |s F=>
  cases hv with
  |nil=>exact hf.elim
  |@cons a u as vs h1 ht=>
   induction a using V.casesOn with
   |ref k=>
    cases h1 with
    |dat h1=>exact nomatch h1
    |ref hk=>
     have hf:frzL as σ fun bs σ2=>optK (fun ss=>F ss bs fun r vs'=>K r (σ2.set k (.lst vs'))) (lstAt σ2 k):=hf
     exact(frzL.ok hf r ht).elim fun fz2 σ2 bs k2 r2 R2 n2 x2=>(optK.ok k2).elim fun ss q=>(SnOk.run ok hn h q.1 q.2 r2 R2).mono fun v l' p=>p.trans Agr.refl (Nat.le_of_eq n2.symm) x2
   |_=>exact hf.elim
theorem AE.call{Γ:Gam}{G:FN}{f:Str}{fp pos:Pos}{e:PySem.Expr}{es:List PySem.Expr}(ok:Cok c d)(hΓ:GamOk c.w Γ d)(hF:List.lookup f Γ=some G)(hg:X.glo f=true)
  (h:AL c env X (e::es) σ (fun as σ1=>wFN K as σ1 G))(h2:starEach (e::es) env=(false,eval e env)::starEach es env)(h3:((backTo pos (starEach es env)).any fun x=>x.fst)=false):AE c env X (.Call (.Name f fp) (e::es) [] pos) σ K:=fun pr fz m ι l hn r=>
 (hΓ f G hF).elim fun n q=>q.elim fun fa q=>
 TE.call ok (hn.glo f hg l fp _ (.inl q.2.1)) q.2.2.1 (TEL.mono (h pr fz m ι l hn r) fun vs l' p=>p.elim fun ι' fz' σ' as k hv r' g n' x=>(wFN.ok ok q.1 q.2.2.2 k r' hv).mono fun v l'' p=>p.trans g n' x) rfl h2 h3
theorem AE.call0{Γ:Gam}{G:FN}{f:Str}{fp pos:Pos}(ok:Cok c d)(hΓ:GamOk c.w Γ d)(hF:List.lookup f Γ=some G)(hg:X.glo f=true)(h:wFN K [] σ G):AE c env X (.Call (.Name f fp) [] [] pos) σ K:=fun pr fz m ι l hn r=>
 (hΓ f G hF).elim fun n q=>q.elim fun fa q=>TE.call0 ok (hn.glo f hg l fp _ (.inl q.2.1)) q.2.2.1 (wFN.ok ok q.1 q.2.2.2 h r .nil) rfl
theorem AE.callU{u:Value}{f:Str}{fp pos:Pos}{e:PySem.Expr}{es:List PySem.Expr}(hu:nsIn (Mine.K c.w.params) mainGlobals f=some none∧bootBuiltins f=some u∧f≠ "__name__") (hb:(∃id,u= .builtin id)∨(∃id,u= .type id)) (hg:X.glo f=true)
  (h:AL c env X (e::es) σ (fun as σ1=>BI c u as σ1 K))(h2:starEach (e::es) env=(false,eval e env)::starEach es env)(h3:((backTo pos (starEach es env)).any fun x=>x.fst)=false):AE c env X (.Call (.Name f fp) (e::es) [] pos) σ K:=fun pr fz m ι l hn r=>by
 have A:=TEL.mono (P':=fun vs l'=>TC c m l' u vs (Pk c.w pr fz σ.length ι K)) (h pr fz m ι l hn r) fun vs l' p=>p.elim fun ι' fz' σ' as k hv r' g n x=>(k pr fz' m ι' l' vs r' hv).mono fun v l'' p=>p.trans g n x
 have B:=hn.glo f hg l fp u (.inr hu)
 rcases hb with⟨id,rfl⟩ |⟨id,rfl⟩
 ·exact TE.callB B A rfl h2 h3
 ·exact TE.callT B A rfl h2 h3
structure MOk(w:World)(name:Str)(f:Addr):Prop where
 mp:plainGet (Mine.K w.params) 264 name=true
 mf:findIn (Mine.K w.params) (.ref 264) name=some (some (.ref f))
 mi:isFn (Mine.K w.params) (.ref f)=true
 mg:∀x y C S t1 t2 t3 t4 t5 t6 t7 t8,getL name [⟨PyData.keyHash w.params "rx",.str "rx" t1,.int x t5⟩,⟨PyData.keyHash w.params "ry",.str "ry" t2,.int y t6⟩,
  ⟨PyData.keyHash w.params "cosine",.str "cosine" t3,.int C t7⟩,⟨PyData.keyHash w.params "sine",.str "sine" t4,.int S t8⟩]=some none
 mk':keepIn (Mine.K w.params) (.ref f)=true
noncomputable def MthOk(w:World)(Μ:List (Str×PF))(d:Nat):Prop:=∀x F,List.lookup x Μ=some F→∃n fa,n≤d∧MOk w x fa∧FnOk w fa n F
noncomputable def isEl:V→Bool
 |.ell _ _ _ _=>true
 |_=>false
theorem meth_eq{x a:Str}{xp ap pos:Pos}{e:PySem.Expr}(he:starEach [e] env=[(false,eval e env)])(hp:(ap.endLine==pos.line)=true):
  eval (.Call (.Attribute (.Name x xp) a ap) [e] [] pos) env=(do
   let ov ←eval (.Name x xp) env
   standAt ap.atName
   let(f,first) ←holding [ov] (getMethod ov a (do return(←importBound (.Name x xp) env).getD true))
   callWith pos f first (backTo pos (starEach [e] env)) (backToKw pos (keywordEach [] env))):=by
 show(do
  let ov ←attributeBase (.Name x xp) a env (eval (.Name x xp) env)
  standAt ap.atName
  methodCall (.Name x xp) a ap pos env ov ([e].length+ [].length) (backTo pos (starEach [e] env)) (backToKw pos (keywordEach [] env)))=_
 have hf:methodCallForm ([e].length+([]:List Keyword).length) (backTo pos (starEach [e] env)) (backToKw pos (keywordEach [] env))=true:=by
  unfold methodCallForm
  rw[he];rfl
 unfold methodCall calleeOf methodCallPos
 rw[hf]
 simp only[hp,Bool.not_true,Bool.false_or,if_true]
 rfl
theorem AE.meth{Μ:List (Str×PF)}{F:PF}{x a:Str}{xp ap pos:Pos}{e:PySem.Expr}(ok:Cok c d)(hM:MthOk c.w Μ d)(hF:List.lookup a Μ=some F)
  (h:AE c env X (.Name x xp) σ fun v σ1=>isEl v=true∧AL c env X [e] σ1 fun as σ2=>frzL (v::as) σ2 fun bs σ3=>F bs fun r=>K r σ3)(h2:starEach [e] env=[(false,eval e env)])(hp:(ap.endLine==pos.line)=true):
  AE c env X (.Call (.Attribute (.Name x xp) a ap) [e] [] pos) σ K:=fun pr fz m ι l hn r=>fun s Q E F' N q=>by
 obtain⟨n,fa,hd,M,hok⟩:=hM a F hF
 refine methodCall_KW (kws:=[]) (h pr fz m ι l hn r s _ E F' N fun v l' h' tk' p F1 N1=>p.elim fun ι1 fz1 σ1 y k hv r1 g1 n1 e1=>?_) (meth_eq h2 hp)
 cases hv with
 |ref o1_=>exact(Bool.noConfusion k.1)
 |dat hv=>
  cases hv with
  |@ell x y C S A D t1 t2 t3 t4 t5 t6 t7 t8 hm hk hb=>
   refine method_inst F1 ok.X (InstAt.of_news N1 (r1.subf _ hm) (r1.subf _ hk)) M.mp M.mf M.mi (M.mg ..) ?_
   refine callWith_K ok.X M.mk' (k.2 pr fz1 m ι1 l' (hn.grow e1.sub g1 n1) r1 _ _ E pos F1 N1 fun vs l'' h'' tk'' p F2 N2=>⟨ok.X.keeps F2.keep,p.elim fun ι2 fz2 σ2 as k hv r2 g2 n2 e2=>?_⟩) h2 rfl
   exact(frzL.ok k r2 (.cons (.dat ((Rep.ell hm hk hb).mono e2.sub)) hv)).elim fun fz3 σ3 bs k3 r3 R3 n3 x3=>FnOk.run ok hd hok k3 r3 R3 _ Q E F2 N2 fun v l3 h3 tk3 p F3 N3=>q _ _ _ _ (((p.trans Agr.refl (Nat.le_of_eq n3.symm) x3).trans g2 n2 e2).trans g1 n1 e1) F3 N3
  |_=>exact(Bool.noConfusion k.1)
end
section
variable {prog:Program} {w:World} {A:Around} {E:Value→Shared→Prop} {s:Shared}
theorem mapSeq_dict{o:Obj}{f:Array Value→Array Value}:(Obj.mapSeq f o).dict=o.dict:=by
 obtain⟨c,d,dt,sl⟩:=o
 cases dt <;> rfl
theorem append_lo{D:Addr}{o:Obj}{ws:List Value}{x:Value}{Q:Value→Shared→Prop}(ho:s.heap.get? D=some o)(hl:LO o ws)(hz:ws.length≤1000)
  (h:∀h' o',Heap.SameBut D s.heap h'→h'.get? D=some o'→LO o' (ws++[x])→Q .none {s with heap:=h'}):wpAny (model prog w) A (call (.builtin "list.append") [.ref D,x]) Q E s:=by
 obtain⟨⟨hc,hdd⟩,n,hd⟩:=hl
 obtain⟨n',hd'⟩:=Obj.data_mapSeq hd (·.push x)
 refine wpAny_call_entry slot_list_append ⟨_,ho,hc⟩ entry_list_append ?_ (args_list_append _ _)
 show wpAny _ _ (updateSeq D (·.push x)>>=fun o1_=>ret .none) _ _ s
 refine wpAny_bind (wpAny_updateSeq ho hd (wpAny_pure ⟨.none,rfl,h _ _ (Heap.SameBut.update ..) (Heap.get?_update_self _ ho (Obj.isFreed_of_seq hd')) ⟨⟨(Obj.cls_mapSeq ..).trans hc,mapSeq_dict.trans hdd⟩,n',hd'.trans (by simp)⟩⟩) ?_ ?_)
 ·rw[List.size_toArray];exact Nat.le_trans hz (by decide)
 ·rw[Array.size_push,List.size_toArray];exact Nat.le_trans (Nat.succ_le_succ hz) (by decide)
theorem setItem_lo{D:Addr}{o:Obj}{ws:List Value}{k:Nat}{z:Int}(e:z=k){t:Tok}{v:Value}{Q:Unit→Shared→Prop}(ho:s.heap.get? D=some o)(hl:LO o ws)(hz:ws.length≤1000)(hk:k<ws.length)
  (h:∀h' o',Heap.SameBut D s.heap h'→h'.get? D=some o'→LO o' (ws.set k v)→Q () {s with heap:=h'}):wpAny (model prog w) A (setItem (.ref D) (.int z t) v) Q E s:=by
 obtain⟨⟨hc,hdd⟩,n,hd⟩:=hl
 have hT:s.TypeIs (.ref D) "list" :=⟨o,ho,hc⟩
 have h3:z<2^63:=Int.lt_trans (show z<1001 by omega) (by decide)
 have h0:0≤z:=lI 0x13a11e10453ce2413e12a2 e (Int.natCast_nonneg _)
 unfold setItem
 try with_reducible refine wpAny_holding ?_
 first |refine wpAny_bind (wpAny_pure ?_) |skip
 refine wpAny_bind (wpAny_sequenceKey hT (by decide) ?_)
 refine wpAny_bind (wpAny_callSpecial?_slot (name:=Str.ofString "__setitem__") hT slot_list_setitem
  (wpAny_call_entry slot_list_setitem hT entry_list_setitem ?_ (args_list_setitem _ _ _)))
 show wpAny _ _ (Builtin.List.listSubscript? (.int z t)>>=_) _ _ s
 refine wpAny_bind (wpAny_listSubscript_int (fitsIndex_of h0 h3) ?_)
 have hj:k<ws.toArray.size:=by simpa using hk
 clear h3
 subst e
 show wpAny _ _ ((seqItemAt D k>>=fun r=>pure (r.map (k,·)))>>=_) _ _ s
 refine wpAny_bind (wpAny_bind (wpAny_seqItemAt ho hd (wpAny_pure ?_)))
 rw[Array.getElem?_eq_getElem hj]
 show wpAny _ _ (setSeqItemAt D k v>>=_) _ _ s
 obtain⟨n',hd'⟩:=Obj.data_mapSeq hd (·.setIfInBounds k v)
 have fin:=h _ _ (Heap.SameBut.update ..) (Heap.get?_update_self (Obj.mapSeq (·.setIfInBounds k v)) ho (Obj.isFreed_of_seq hd')) ⟨⟨(Obj.cls_mapSeq ..).trans hc,mapSeq_dict.trans hdd⟩,n',hd'.trans (by simp)⟩
 refine wpAny_bind (wpAny_setSeqItemAt ho hd ?_)
 first
  |exact wpAny_bind (wpAny_pure (wpAny_pure ⟨.none,rfl,wpAny_pure fin⟩))
  |exact wpAny_pure ⟨.none,rfl,wpAny_pure fin⟩
end
noncomputable def upL(x:Str)(a:V):List (Str×V)→List (Str×V)
 |[]=>[(x,a)]
 |(y,b)::r=>cond (y==x) ((x,a)::r) ((y,b)::upL x a r)
theorem upL_nil{x:Str}{a:V}:upL x a []=[(x,a)]:=rfl
theorem upL_cons{x y:Str}{a b:V}{r:List (Str×V)}:upL x a ((y,b)::r)=cond (y==x) ((x,a)::r) ((y,b)::upL x a r):=rfl
theorem upL_look{x:Str}{a:V}:∀{ρ:List (Str×V)} {y:Str} {b:V},List.lookup y (upL x a ρ)=some b→(y=x∧b=a)∨(y≠x∧List.lookup y ρ=some b):=by
 intro ρ
 induction ρ with
 |nil=>
  intro y b h
  simp only[upL_nil,List.lookup] at h
  split at h
  ·rename_i hh;cases Option.some.inj h;exact .inl ⟨by simpa using hh,rfl⟩
  ·exact nomatch h
 |cons p r ih=>
  intro y b h
  obtain⟨z,v⟩:=p
  rw[upL_cons] at h
  cases hz:z==x with
  |true=>
   have hz:z=x:=by simpa using hz
   subst hz
   simp only[beq_self_eq_true,cond_true,List.lookup] at h
   simp only[List.lookup]
   split at h
   ·rename_i hh;cases Option.some.inj h;exact .inl ⟨by simpa using hh,rfl⟩
   ·rename_i hh
    exact .inr ⟨by simpa using hh,h⟩
  |false=>
   rw[hz] at h
   simp only[cond_false,List.lookup] at h ⊢
   split at h
   ·rename_i hh
    have:y=z:=by simpa using hh
    subst this
    exact .inr ⟨by simpa using hz,h⟩
   ·rename_i hh
    rcases ih h with h |⟨h1,h2⟩
    ·exact .inl h
    ·exact .inr ⟨h1,h2⟩
noncomputable def wBind(names:List (Str×NameKind))(κ:List (Str×Nat))(x:Str)(a:V)(ρ:List (Str×V))(σ:Sto)(K:List (Str×V)→Sto→Prop):Prop:=
 match List.lookup x names with
 |some .local=>K (upL x a ρ) σ
 |some .cell=>optK (fun k=>optK (fun o=>match o with |.cell _=>K ρ (σ.set k (.cell (some a))) |_=>False) σ[k]?) (List.lookup x κ)
 |_=>False
noncomputable def Lm(w:World)(fz:Led)(N:Nat)(ι:Nat→Addr)(ρ:List (Str×V))(m:Mp):Prop:=∀x a,List.lookup x ρ=some a→∃v,RepV w fz N ι a v∧m x=some v
noncomputable def Kp{sc:Scope}(c:Cx sc)(κ:List (Str×Nat))(N:Nat)(ι:Nat→Addr):Prop:=∀x k,List.lookup x κ=some k→k<N∧(cellsFrom (c.L+1) sc.names []).lookup x=some (ι k)
theorem Lm.grow{w:World}{fz fz':Led}{N M:Nat}{ι ι':Nat→Addr}{ρ:List (Str×V)}{m:Mp}(h:Lm w fz N ι ρ m)(s:Sub fz fz')(g:Agr N ι ι')(n:N≤M):Lm w fz' M ι' ρ m:=fun x a e=>(h x a e).imp fun v p=>⟨p.1.grow s g n,p.2⟩
theorem Kp.grow{sc:Scope}{c:Cx sc}{κ:List (Str×Nat)}{N M:Nat}{ι ι':Nat→Addr}(h:Kp c κ N ι)(g:Agr N ι ι')(n:N≤M):Kp c κ M ι':=fun x k e=>⟨Nat.lt_of_lt_of_le (h x k e).1 n,by rw[g k (h x k e).1];exact(h x k e).2⟩
theorem Lm.put{w:World}{fz:Led}{N:Nat}{ι:Nat→Addr}{ρ:List (Str×V)}{m:Mp}(h:Lm w fz N ι ρ m){x:Str}{a:V}{v:Value}(hv:RepV w fz N ι a v):Lm w fz N ι (upL x a ρ) (upd m x v):=fun y b e=>by
 unfold upd
 rcases upL_look e with⟨rfl,rfl⟩ |⟨hn,e⟩
 ·exact⟨v,hv,if_pos rfl⟩
 ·obtain⟨u,h1,h2⟩:=h y b e
  exact⟨u,h1,by rw[if_neg hn];exact h2⟩
theorem Rel.put{w:World}{pr fz l l':Led}{σ:Sto}{ι:Nat→Addr}(h:Rel w pr fz σ ι l){k:Nat}{o o':AO}{O O':Obj}(e:σ[k]?=some o)(mu:o.mu=true)(mu':o'.mu=true)(hm:(ι k,O)∈l)(s:SubX (ι k) O l l')(hm':(ι k,O')∈l')(hc:Co w fz σ.length ι o' O'):Rel w pr fz (σ.set k o') ι l':=by
 have lt:=(List.getElem?_eq_some_iff.mp e).1
 have ow:=h.own k o e mu
 have cs:∀j p,(σ.set k o')[j]?=some p→(j≠k∧σ[j]?=some p)∨(j=k∧p=o'):=fun j p e'=>by
  rw[List.getElem?_set] at e'
  split at e'
  ·rename_i hkj
   subst hkj
   exact .inr ⟨rfl,(Option.some.inj e').symm⟩
  ·exact .inl ⟨Ne.symm ‹_›,e'⟩
 refine⟨fun p hp=>s p (h.subp p hp) (.inl (ow.1 p hp)),fun p hp=>s p (h.subf p hp) (.inl (ow.2 p hp)),fun j p e' m=>?_,fun j p e'=>?_,fun j us e'=>?_,fun i j p e' m hi hn=>?_⟩
 ·rcases cs j p e' with⟨_,e2⟩ |⟨rfl,rfl⟩
  ·exact h.own j p e2 m
  ·exact ow
 ·rw[List.length_set]
  rcases cs j p e' with⟨hn,e2⟩ |⟨rfl,rfl⟩
  ·obtain⟨P,hP,hc'⟩:=h.mem j p e2
   exact⟨P,s _ hP (.inl (h.inj j k o e mu (List.getElem?_eq_some_iff.mp e2).1 hn)),hc'⟩
  ·exact⟨O',hm',hc⟩
 ·rcases cs j _ e' with⟨_,e2⟩ |⟨rfl,e2⟩
  ·exact h.fro j us e2
  ·rw[←e2] at mu';exact nomatch mu'
 ·rw[List.length_set] at hi
  rcases cs j p e' with⟨_,e2⟩ |⟨rfl,rfl⟩
  ·exact h.inj i j p e2 m hi hn
  ·exact h.inj i j o e mu hi hn
inductive Pn{sc:Scope}(c:Cx sc)(κ:List (Str×Nat))(pr fz:Led)(N:Nat)(ι:Nat→Addr)(K:List (Str×V)→Sto→Prop)(m':Mp)(l':Led):Prop where
 |mk (ι':Nat→Addr) (fz':Led) (ρ:List (Str×V)) (σ:Sto) (k:K ρ σ) (hl:Lm c.w fz' σ.length ι' ρ m') (r:Rel c.w pr fz' σ ι' l') (g:Agr N ι ι') (n:N≤σ.length) (x:Ext pr fz fz')
theorem Pn.elim{sc:Scope}{c:Cx sc}{κ:List (Str×Nat)}{pr fz:Led}{N:Nat}{ι:Nat→Addr}{K:List (Str×V)→Sto→Prop}{m':Mp}{l':Led}{C:Prop}(h:Pn c κ pr fz N ι K m' l')
  (f:∀ι' fz' ρ σ,K ρ σ→Lm c.w fz' σ.length ι' ρ m'→Rel c.w pr fz' σ ι' l'→Agr N ι ι'→N≤σ.length→Ext pr fz fz'→C):C:=by
 cases h;apply f <;> assumption
noncomputable def AS{sc:Scope}(c:Cx sc)(κ:List (Str×Nat))(ρ:List (Str×V))(σ:Sto)(b:List Stmt)(Kn:List (Str×V)→Sto→Prop)(Kr:V→Sto→Prop):Prop:=
 ∀pr fz m ι l,Lm c.w fz σ.length ι ρ m→Kp c κ σ.length ι→Rel c.w pr fz σ ι l→TS c c.env m l b (Pn c κ pr fz σ.length ι Kn) (Pk c.w pr fz σ.length ι Kr)
noncomputable def AB{sc:Scope}(c:Cx sc)(κ:List (Str×Nat))(x:Str)(a:V)(ρ:List (Str×V))(σ:Sto)(K:List (Str×V)→Sto→Prop):Prop:=
 ∀pr fz m ι l v,RepV c.w fz σ.length ι a v→Lm c.w fz σ.length ι ρ m→Kp c κ σ.length ι→Rel c.w pr fz σ ι l→TB c m l x v (Pn c κ pr fz σ.length ι K)
theorem wBind.ok{sc:Scope}{c:Cx sc}{d:Nat}{κ:List (Str×Nat)}{x:Str}{a:V}{ρ:List (Str×V)}{σ:Sto}{K:List (Str×V)→Sto→Prop}(ok:Cok c d)(h:wBind sc.names κ x a ρ σ K):AB c κ x a ρ σ K:=fun pr fz m ι l v hv hl hk r=>by
 unfold wBind at h
 split at h
 ·exact TB.loc ok ‹_› (.mk ι fz _ σ h (hl.put hv) r Agr.refl (Nat.le_refl _) Ext.refl)
 ·rename_i hx
  obtain⟨k,e1,h⟩:=h.ok
  obtain⟨o,e2,h⟩:=h.ok
  induction o using AO.casesOn with
  |cell v₀=>
   obtain⟨hlt,hcl⟩:=hk x k e1
   obtain⟨O,hm,hc⟩:=r.mem k _ e2
   have hd:∃u,O.data= .cell u:=by cases hc with
    |cell0 d=>exact⟨_,d⟩
    |cell o1_ d=>exact⟨_,d⟩
   obtain⟨u,hd⟩:=hd
   exact TB.cell ok hcl hm hd hx fun o' l' hd' hm' s=> .mk ι fz ρ _ h (by rw[List.length_set];exact hl) (r.put e2 rfl rfl hm s hm' (.cell hv hd')) Agr.refl (by rw[List.length_set];exact Nat.le_refl _) Ext.refl
  |_=>exact h.elim
 ·exact h.elim
noncomputable def glbT:List (Str×V):=[("PARTS",.int 1152921504606846976 (some 61) (some 1152921504606846976)),("TOLD",.int 1048576 (some 21) (some 1048576)),("PI_TOP",.int 314159265358979323846264338327950288419716939937510 (some 168) (some 314159265358979323846264338327950288419716939937510)),("RIGHT",.tup [.int 90 (some 7) (some 90),.int 1 (some 1) (some 1)]),("HALF_RIGHT",.tup [.int 45 (some 6) (some 45),.int 1 (some 1) (some 1)])]
noncomputable def glbM:List (Str×V):=[("PI_BOTTOM",.int 100000000000000000000000000000000000000000000000000 (some 167) (some 100000000000000000000000000000000000000000000000000)),("MORE",.int 65536 (some 17) (some 65536)),("MOST_BOTTOM",.int 10000000000000000000000000000000000000000 (some 133) (some 10000000000000000000000000000000000000000))]
noncomputable def lkCell(σ:Sto):Option Nat→Option V
 |some k=>match σ[k]? with
  |some (.cell v)=>v
  |some (.cst v)=>some v
  |_=>none
 |none=>none
noncomputable def lkName(κ:List (Str×Nat))(ρ:List (Str×V))(σ:Sto)(x:Str):Option NameKind→Option V
 |some .local=>List.lookup x ρ
 |some .cell=>lkCell σ (List.lookup x κ)
 |some .globalImplicit=>List.lookup x (glbT++glbM)
 |_=>none
noncomputable def isGl:Option NameKind→Bool
 |some .globalImplicit=>true
 |_=>false
noncomputable def noDbg(x:Str):Bool:=!(x==Str.ofString "__debug__")
noncomputable def fX(names:List (Str×NameKind))(κ:List (Str×Nat))(ρ:List (Str×V)):Wx:=⟨fun σ x=>cond (noDbg x) (lkName κ ρ σ x (List.lookup x names)) none,fun x=>noDbg x&&isGl (List.lookup x names),κ,names⟩
section
variable {sc:Scope} {c:Cx sc} {d:Nat}
theorem EV.mg{m:Mp}{l:Led}{x:Str}{pos:Pos}{u:Value}(ok:Cok c d)(hm:c.mg x=some u)(hk:List.lookup x sc.names=some .globalImplicit)(hd:(x==Str.ofString "__debug__")=false):EV c c.env m l (.Name x pos) u:=
 fun s Q E F N q=>Calls.Name_function_global (env:=c.env) ok.k hk (Calls.loadGlobal_global (env:=c.env) (ok.T.g.keeps F.keep) hm (q _ _ _ s.toks ⟨rfl,rfl⟩ F N)) hd
theorem in_lit{n:Int}{b l:Nat}(h:intBits n≤b)(k:(l:Int)≤n):In n (some b) (some l):=⟨fun o1_ e=>by cases Option.some.inj e;exact h,fun o1_ e=>by cases Option.some.inj e;exact k⟩
theorem glbT.ok{x:Str}{a:V}(w:World)(h:List.lookup x glbT=some a):∃u,nsIn (Mine.K w.params) mainGlobals x=some (some u)∧∀fz N ι,RepV w fz N ι a u:=by
 have hm:=lookup_in h
 cases hm with
 |head=>exact⟨_,rfl,fun o1_ o2_ o3_=> .dat (.int (in_lit (by decide +kernel) (by decide +kernel)))⟩
 |tail o1_ hm=>cases hm with
  |head=>exact⟨_,rfl,fun o1_ o2_ o3_=> .dat (.int (in_lit (by decide +kernel) (by decide +kernel)))⟩
  |tail o1_ hm=>cases hm with
   |head=>exact⟨_,rfl,fun o1_ o2_ o3_=> .dat (.int (in_lit (by decide +kernel) (by decide +kernel)))⟩
   |tail o1_ hm=>cases hm with
    |head=>exact⟨_,rfl,fun o1_ o2_ o3_=> .dat (.base ⟨_,_,_,rfl⟩ (.cons (.int (in_lit (by decide +kernel) (by decide +kernel))) (.cons (.int (in_lit (by decide +kernel) (by decide +kernel))) .nil)))⟩
    |tail o1_ hm=>cases hm with
     |head=>exact⟨_,rfl,fun o1_ o2_ o3_=> .dat (.base ⟨_,_,_,rfl⟩ (.cons (.int (in_lit (by decide +kernel) (by decide +kernel))) (.cons (.int (in_lit (by decide +kernel) (by decide +kernel))) .nil)))⟩
     |tail o1_ hm=>exact nomatch hm
end
section
variable {sc:Scope} {c:Cx sc} {d:Nat} {κ:List (Str×Nat)} {ρ:List (Str×V)} {σ:Sto} {Kn:List (Str×V)→Sto→Prop} {Kr:V→Sto→Prop}
theorem glbM.ok{x:Str}{a:V}(ok:Cok c d)(h:List.lookup x glbM=some a):∃u,c.mg x=some u∧∀fz N ι,RepV c.w fz N ι a u:=by
 have hm:=lookup_in h
 cases hm with
 |head=>exact ok.G.pib.elim fun t e=>⟨_,e,fun o1_ o2_ o3_=> .dat (.int (in_lit (by decide +kernel) (by decide +kernel)))⟩
 |tail o1_ hm=>cases hm with
  |head=>exact ok.G.more.elim fun t e=>⟨_,e,fun o1_ o2_ o3_=> .dat (.int (in_lit (by decide +kernel) (by decide +kernel)))⟩
  |tail o1_ hm=>cases hm with
   |head=>exact ok.G.most.elim fun t e=>⟨_,e,fun o1_ o2_ o3_=> .dat (.int (in_lit (by decide +kernel) (by decide +kernel)))⟩
   |tail o1_ hm=>exact nomatch hm
theorem lookup_append{x:Str}{a b:List (Str×V)}{v:V}(h:List.lookup x (a++b)=some v):List.lookup x a=some v∨List.lookup x b=some v:=by
 rw[List.lookup_append] at h
 cases e:List.lookup x a with
 |none=>rw[e] at h;exact .inr h
 |some u=>rw[e] at h;exact .inl h
theorem noDbg_ok{x:Str}(h:noDbg x=true):(x==Str.ofString "__debug__")=false:=by
 unfold noDbg at h
 simpa using h
theorem nm_def{m:Mp}{fz:Led}{ι:Nat→Addr}{N:Nat}(ok:Cok c d)(hl:Lm c.w fz N ι ρ m)(hk:Kp c κ N ι):Nm c c.env m fz N ι (fX sc.names κ ρ):=by
 refine⟨fun pr ι' fz' σ l' x pos a s g n r e=>?_,fun x h l' pos u hu=>?_,fun x k e=>hk x k e,rfl,ok.k,rfl,rfl⟩
 ·have e:cond (noDbg x) (lkName κ ρ σ x (List.lookup x sc.names)) none=some a:=e
  cases hd:noDbg x with
  |false=>rw[hd] at e;exact nomatch e
  |true=>
   rw[hd] at e
   have hd:=noDbg_ok hd
   have e:lkName κ ρ σ x (List.lookup x sc.names)=some a:=e
   cases hx:List.lookup x sc.names with
   |none=>rw[hx] at e;exact nomatch e
   |some k=>
    rw[hx] at e
    cases k with
    | «local»=>
     obtain⟨v,hv,hm⟩:=hl x a e
     exact TE.ofV (EV.loc ok hm hx hd) ⟨hv.grow s g n,rfl⟩
    |cell=>
     have e:lkCell σ (List.lookup x κ)=some a:=e
     cases hk':List.lookup x κ with
     |none=>rw[hk'] at e;exact nomatch e
     |some k=>
      rw[hk'] at e
      obtain⟨hlt,hcl⟩:=hk x k hk'
      have e:(match σ[k]? with
  |some (.cell v)=>v
  |some (.cst v)=>some v
  |_=>none)=some a:=e
      cases hs:σ[k]? with
      |none=>rw[hs] at e;exact nomatch e
      |some o=>
       rw[hs] at e
       induction o using AO.casesOn with
       |cell v=>
        have e:v=some a:=e
        subst e
        obtain⟨O,hm,hc⟩:=r.mem k _ hs
        cases hc with
        |cell hv hd'=>exact TE.ofV (EV.cell ok (by rw[hcl,g k hlt]) hm hd' hx hd) ⟨hv,rfl⟩
       |cst v=>
        have e:some v=some a:=e
        cases e
        obtain⟨O,hm,hc⟩:=r.mem k _ hs
        cases hc with
        |cst hv hd'=>exact TE.ofV (EV.cell ok (by rw[hcl,g k hlt]) hm hd' hx hd) ⟨hv,rfl⟩
       |_=>exact nomatch e
    |globalImplicit=>
     rcases lookup_append (show List.lookup x (glbT++glbM)=some a from e) with e |e
     ·obtain⟨u,h1,h2⟩:=glbT.ok c.w e
      exact TE.ofV (EV.glob ok h1 hx hd) ⟨h2 _ _ _,rfl⟩
     ·obtain⟨u,h1,h2⟩:=glbM.ok ok e
      exact TE.ofV (EV.mg ok h1 hx hd) ⟨h2 _ _ _,rfl⟩
    |_=>exact nomatch e
 ·have h:(noDbg x&&isGl (List.lookup x sc.names))=true:=h
  rw[Bool.and_eq_true] at h
  have hd:=noDbg_ok h.1
  have hx:List.lookup x sc.names=some .globalImplicit:=by
   have h2:=h.2
   cases hx:List.lookup x sc.names with
   |none=>rw[hx] at h2;cases h2
   |some k=>
    rw[hx] at h2
    cases k <;> first |rfl |cases h2
  rcases hu with hu |⟨h1,h2,h3⟩
  ·exact EV.glob ok hu hx hd
  ·exact EV.built ok h1 h2 h3 hx hd
theorem AS.nil(h:Kn ρ σ):AS c κ ρ σ [] Kn Kr:=fun pr fz m ι l hl hk r=>TS.nil (.mk ι fz ρ σ h hl r Agr.refl (Nat.le_refl _) Ext.refl)
theorem AS.ret(ok:Cok c d){e:PySem.Expr}{pos:Pos}{b:List Stmt}(h:AE c c.env (fX sc.names κ ρ) e σ Kr):AS c κ ρ σ (.Return (some e) pos::b) Kn Kr:=fun pr fz m ι l hl hk r=>TS.ret (h pr fz m ι l (nm_def ok hl hk) r)
theorem TB.mono{m:Mp}{l:Led}{x:Str}{v:Value}{K K':Mp→Led→Prop}(h:TB c m l x v K)(k:∀m' l',K m' l'→K' m' l'):TB c m l x v K':=fun s Q E F N q=>h s Q E F N fun m' l' h' tk' p=>q m' l' h' tk' (k m' l' p)
theorem TS.trans{pr fz fz':Led}{m:Mp}{l:Led}{N M:Nat}{ι ι':Nat→Addr}{b:List Stmt}(h:TS c c.env m l b (Pn c κ pr fz' M ι' Kn) (Pk c.w pr fz' M ι' Kr))(g:Agr N ι ι')(n:N≤M)(x:Ext pr fz fz'):TS c c.env m l b (Pn c κ pr fz N ι Kn) (Pk c.w pr fz N ι Kr):=fun s Q E pe F N' q k=>
 h s Q E pe F N' (fun v m' l' h' tk' p=>q v m' l' h' tk' (p.trans g n x)) (fun m' l' h' tk' p=>k m' l' h' tk' (p.elim fun ι'' fz'' ρ' σ' kk hl r g' n' x'=> .mk ι'' fz'' ρ' σ' kk hl r (g.trans g' n) (Nat.le_trans n n') (x.trans x')))
theorem AS.bind(ok:Cok c d){x:Str}{px pos:Pos}{e:PySem.Expr}{b:List Stmt}(h:AE c c.env (fX sc.names κ ρ) e σ (fun a σ1=>AB c κ x a ρ σ1 (fun ρ' σ'=>AS c κ ρ' σ' b Kn Kr)))(hs:swapsWith e (some (.Name x px)) pos.line c.env=pure false):AS c κ ρ σ (.Assign [.Name x px] e pos::b) Kn Kr:=fun pr fz m ι l hl hk r=>
 TS.bind ((h pr fz m ι l (nm_def ok hl hk) r).mono fun v l' p=>p.elim fun ι' fz' σ' a k hv r' g n x=>TB.mono (k pr fz' m ι' l' v hv (hl.grow x.sub g n) (hk.grow g n) r') fun m' l'' p'=>p'.elim fun ι'' fz'' ρ'' σ'' k'' hl'' r'' g'' n'' x''=>
  ((k'' pr fz'' m' ι'' l'' hl'' ((hk.grow g n).grow g'' n'') r'').trans g'' n'' x'').trans g n x) hs
theorem AS.if_(ok:Cok c d){t:PySem.Expr}{b1 b2 b:List Stmt}{pos:Pos}(h:AT c c.env (fX sc.names κ ρ) t σ (fun z σ1=>cond z (AS c κ ρ σ1 b1 (fun ρ' σ'=>AS c κ ρ' σ' b Kn Kr) Kr) (AS c κ ρ σ1 b2 (fun ρ' σ'=>AS c κ ρ' σ' b Kn Kr) Kr))):AS c κ ρ σ (.If t b1 b2 pos::b) Kn Kr:=fun pr fz m ι l hl hk r=>
 TS.if_ (TT.mono (h pr fz m ι l (nm_def ok hl hk) r) fun z l' p=>p.elim fun ι' fz' σ' k r' g n x=>by
  have go:∀b',AS c κ ρ σ' b' (fun ρ' σ'=>AS c κ ρ' σ' b Kn Kr) Kr→TS c c.env m l' b' (fun m' l''=>TS c c.env m' l'' b (Pn c κ pr fz σ.length ι Kn) (Pk c.w pr fz σ.length ι Kr)) (Pk c.w pr fz σ.length ι Kr):=fun b' hb s Q E pe F N q kk=>
   hb pr fz' m ι' l' (hl.grow x.sub g n) (hk.grow g n) r' s Q E pe F N (fun v m' l' h' tk' p=>q v m' l' h' tk' (p.trans g n x)) (fun m' l'' h' tk' p=>kk m' l'' h' tk' (p.elim fun ι'' fz'' ρ'' σ'' k'' hl'' r'' g'' n'' x''=>
    ((k'' pr fz'' m' ι'' l'' hl'' ((hk.grow g n).grow g'' n'') r'').trans g'' n'' x'').trans g n x))
  cases z
  ·exact go b2 k
  ·exact go b1 k)
theorem TS.while{m:Mp}{l:Led}{N:Mp→Led→Prop}{R:VP}{t:PySem.Expr}{b r:List Stmt}{pos:Pos}(J:Nat→Mp→Led→Prop){n₀:Nat}(hJ:J n₀ m l)
  (turn:∀n m₁ l₁,J n m₁ l₁→TT c c.env m₁ l₁ t (fun z l'=>cond z (TS c c.env m₁ l' b (fun m₂ l₂=>∃n',n'<n∧J n' m₂ l₂) (fun o1_ o2_=>False)) (TS c c.env m₁ l' r N R))):TS c c.env m l (.While t b [] pos::r) N R:=fun s Q E pe F N' q k=>by
 refine wpAny_execs_cons (While_inv J F N' hJ (fun n m₁ l₁ h₁ tk₁ F₁ N₁ hj=>turn n m₁ l₁ hj ⟨h₁,s.gens,s.drawn,tk₁,s.os⟩ _ E F₁ N₁ ?_) pe)
 intro z l' h' tk' p F' N''
 induction z using Bool.casesOn with
 |false=>exact p _ Q E pe F' N'' q k
 |true=>exact p _ _ E pe F' N'' (fun o1_ o2_ o3_ o4_ o5_ hf o6_ o7_=>hf.elim) fun m₂ l₂ h₂ tk₂ hk F₂ N₂=>hk.elim fun n' hh=>WhileStep.intro (s:=s) F₂ N₂ hh.1 hh.2
end
section
variable {sc:Scope} {c:Cx sc} {d:Nat} {κ:List (Str×Nat)} {ρ:List (Str×V)} {σ:Sto} {Kn:List (Str×V)→Sto→Prop} {Kr:V→Sto→Prop}
noncomputable abbrev nmT(xs:List (Str×Pos)):List PySem.Expr:=xs.map fun y=>PySem.Expr.Name y.1 y.2
theorem TS.unpack{m:Mp}{l:Led}{N:Mp→Led→Prop}{R:VP}{xs:List (Str×Pos)}{e:PySem.Expr}{r:List Stmt}{kk:Nat}{tpos pos:Pos}
  (h:TE c c.env m l e (fun v l'=>∃A ws t,v= .ref A∧SqAt c l' t A ws∧ws.length=xs.length∧TBs c (xs.map (·.1)) ws m l' (fun m2 l2=>TS c c.env m2 l2 r N R)))
  (hs:swapsWithSole [.Tuple (nmT xs) kk tpos] e pos.line c.env=pure false)(hw:swappedStores [.Tuple (nmT xs) kk tpos] e c.env=pure none)
  (he:(assignEach (nmT xs) c.env).length=xs.length)(hst:(assignEach (nmT xs) c.env).findIdx? (·.1)=none):
  TS c c.env m l (.Assign [.Tuple (nmT xs) kk tpos] e pos::r) N R:=fun s Q E pe F N' q k=>by
 refine wpAny_execs_cons (Assign_Tuple (h s _ E F N' fun v l' h' tk' ⟨A,ws,t,e1,hm,hl,hb⟩ F' N''=>?_) hs hw)
 subst e1
 have go:∀h2,Fr c.h₀ c.L h2 m→News c.h₀ c.L h2 l'→wpAny (MD c.w) c.A (assignInOrder ((assignEach (nmT xs) c.env).map (·.2)) ws) (fun o1_ s'=>wpAny (MD c.w) c.A (execs r c.env) Q E s') E ⟨h2,s.gens,s.drawn,tk',s.os⟩:=fun h2 F2 N2=>
  tbs_order xs ws m l' _ _ E hl.symm hb F2 N2 fun m' l'' h3 tk3 p F3 N3=>p _ Q E pe F3 N3 q k
 have hm:=hm m _ F' N''
 cases t with
 |true=>exact unpackN_ F' N'' hm (by rfl) (by rw[he,List.size_toArray,hl]) hst fun h'' F'' N3=>go h'' F'' N3
 |false=>exact kun_list F' N'' hm (by rfl) (by rw[he,List.size_toArray,hl]) hst fun h'' F'' N3=>go h'' F'' N3
theorem tbs_orderB{K:Mp→Led→Prop}(xs:List Str):∀(vs:List Value) (m:Mp) (l:Led) (s:Shared) (Q:Unit→Shared→Prop) (E:Value→Shared→Prop),xs.length=vs.length→TBs c xs vs m l K→Fr c.h₀ c.L s.heap m→News c.h₀ c.L s.heap l→
  (∀m' l' h' tk',K m' l'→Fr c.h₀ c.L h' m'→News c.h₀ c.L h' l'→Q () ⟨h',s.gens,s.drawn,tk',s.os⟩)→
  wpAny (MD c.w) c.A (assignInOrder (xs.map fun n=>bindName c.env n) vs) Q E s:=by
 induction xs with
 |nil=>
  intro vs m l s Q E hl h F N q
  induction vs using List.casesOn with
  |nil=>exact assignInOrder_nil (q m l s.heap s.toks h F N)
  |cons v vs=>simp at hl
 |cons x xs ih=>
  intro vs m l s Q E hl h F N q
  induction vs using List.casesOn with
  |nil=>simp at hl
  |cons v vs=>
   refine assignInOrder_cons (bindName_ (h s _ E F N fun m' l' h' tk' h2 F' N'=>?_))
   exact ih vs m' l' _ _ E (by simpa using hl) h2 F' N' q
theorem TS.unpackS{m:Mp}{l:Led}{N:Mp→Led→Prop}{R:VP}{xs:List (Str×Pos)}{ns:List Str}{e:PySem.Expr}{r:List Stmt}{kk:Nat}{tpos pos:Pos}
  (h:TE c c.env m l e (fun v l'=>∃A ws,v= .ref A∧((A,tupO ws)∈l')∧ws.length=ns.length∧TBs c ns.reverse ws.reverse m l' (fun m2 l2=>TS c c.env m2 l2 r N R)))
  (hs:swapsWithSole [.Tuple (nmT xs) kk tpos] e pos.line c.env=pure false)(hw:swappedStores [.Tuple (nmT xs) kk tpos] e c.env=pure (some ns)):
  TS c c.env m l (.Assign [.Tuple (nmT xs) kk tpos] e pos::r) N R:=fun s Q E pe F N' q k=>by
 refine wpAny_execs_cons (Assign_Tuple_swapped (h s _ E F N' fun v l' h' tk' ⟨A,ws,e1,hm,hl,hb⟩ F' N''=>?_) hs hw)
 subst e1
 rw[show ns.length=ws.toArray.size by simp[hl]]
 refine unpackItems_tuple (items:=ws.toArray) rfl (News.isTup N'' hm) fun h'' he=>?_
 have F'':=F'.extBut he (Nat.le_refl _)
 have N3:News c.h₀ c.L h'' l':=fun p hp=>⟨he _ _ (Nat.ne_of_lt (Heap.lt_size (N'' p hp).1)) (N'' p hp).1,(N'' p hp).2⟩
 exact tbs_orderB ns.reverse ws.reverse m l' _ _ E (by simp[hl]) hb F'' N3 fun m' l'' h3 tk3 p F3 N4=>p _ Q E pe F3 N4 q k
end
section
variable {sc:Scope} {c:Cx sc} {d:Nat} {κ:List (Str×Nat)} {ρ:List (Str×V)} {σ:Sto} {K:List (Str×V)→Sto→Prop}
noncomputable def wBinds(names:List (Str×NameKind))(κ:List (Str×Nat)):List Str→List V→List (Str×V)→Sto→(List (Str×V)→Sto→Prop)→Prop
 |[],[],ρ,σ,K=>K ρ σ
 |x::xs,a::as,ρ,σ,K=>wBind names κ x a ρ σ (fun ρ' σ'=>wBinds names κ xs as ρ' σ' K)
 |_,_,_,_,_=>False
theorem TBs.mono{xs:List Str}:∀{ws:List Value} {m:Mp} {l:Led} {P P':Mp→Led→Prop},TBs c xs ws m l P→(∀m' l',P m' l'→P' m' l')→TBs c xs ws m l P':=by
 induction xs with
 |nil=>intro ws m l P P' h k;exact k _ _ h
 |cons x xs ih=>
  intro ws m l P P' h k
  induction ws using List.casesOn with
  |nil=>exact k _ _ h
  |cons w ws=>exact TB.mono h fun m' l' h'=>ih h' k
theorem wBinds.ok(ok:Cok c d):∀{xs:List Str} {as:List V} {ρ:List (Str×V)} {σ:Sto} {K:List (Str×V)→Sto→Prop},wBinds sc.names κ xs as ρ σ K→
  ∀pr fz m ι l ws,Reqs c.w fz σ.length ι as ws→Lm c.w fz σ.length ι ρ m→Kp c κ σ.length ι→Rel c.w pr fz σ ι l→TBs c xs ws m l (Pn c κ pr fz σ.length ι K):=by
 intro xs
 induction xs with
 |nil=>
  intro as ρ σ K h pr fz m ι l ws hv hl hk r
  induction as using List.casesOn with
  |nil=>exact .mk ι fz ρ σ h hl r Agr.refl (Nat.le_refl _) Ext.refl
  |cons o1_ o2_=>exact h.elim
 |cons x xs ih=>
  intro as ρ σ K h pr fz m ι l ws hv hl hk r
  induction as using List.casesOn with
  |nil=>exact h.elim
  |cons a as=>
   cases hv with
   |cons h1 ht=>
    refine TB.mono (wBind.ok ok h pr fz m ι l _ h1 hl hk r) fun m' l' p=>p.elim fun ι' fz' ρ' σ' k hl' r' g n x=>?_
    exact TBs.mono (ih k pr fz' m' ι' l' _ (ht.grow x.sub g n) hl' (hk.grow g n) r') fun m2 l2 p=>p.elim fun ι'' fz'' ρ'' σ'' k'' hl'' r'' g'' n'' x''=> .mk ι'' fz'' ρ'' σ'' k'' hl'' r'' (g.trans g'' n) (Nat.le_trans n n'') (x.trans x'')
theorem assignEach_nm{env:Env}:∀(xs:List (Str×Pos)),(assignEach (nmT xs) env).length=xs.length∧(assignEach (nmT xs) env).findIdx? (·.1)=none
 |[]=>⟨rfl,rfl⟩
 |x::xs=>by
  have ih:=assignEach_nm (env:=env) xs
  have e:assignEach (nmT (x::xs)) env=(false,assign (.Name x.1 x.2) env)::assignEach (nmT xs) env:=rfl
  rw[e]
  refine⟨by simp[ih.1],?_⟩
  simp only[List.findIdx?_cons,ih.2]
  simp
theorem wBinds.len{names:List (Str×NameKind)}:∀{xs:List Str} {as:List V} {ρ:List (Str×V)} {σ:Sto} {K:List (Str×V)→Sto→Prop},(∀{x a ρ σ} {K:List (Str×V)→Sto→Prop},wBind names κ x a ρ σ K→∃ρ' σ',K ρ' σ')→wBinds names κ xs as ρ σ K→as.length=xs.length
 |[],[],_,_,_,_,_=>rfl
 |[],_::_,_,_,_,_,h=>h.elim
 |_::_,[],_,_,_,_,h=>h.elim
 |x::xs,a::as,ρ,σ,K,f,h=>by
  obtain⟨ρ',σ',h⟩:=f h
  exact congrArg (· +1) (wBinds.len f h)
theorem wBind.some{names:List (Str×NameKind)}{x:Str}{a:V}{ρ:List (Str×V)}{σ:Sto}{K:List (Str×V)→Sto→Prop}(h:wBind names κ x a ρ σ K):∃ρ' σ',K ρ' σ':=by
 unfold wBind at h
 split at h
 ·exact⟨_,_,h⟩
 ·obtain⟨k,o1_,h⟩:=h.ok
  obtain⟨o,o1_,h⟩:=h.ok
  induction o using AO.casesOn with
  |cell o1_=>exact⟨_,_,h⟩
  |_=>exact h.elim
 ·exact h.elim
noncomputable def PVl{sc:Scope}(c:Cx sc)(pr fz:Led)(N:Nat)(ι:Nat→Addr)(K:List V→Sto→Prop):VP:=fun v l'=>∃A ws t,v= .ref A∧SqAt c l' t A ws∧Pks c.w pr fz N ι K ws l'
noncomputable def PTp(w:World)(pr fz:Led)(N:Nat)(ι:Nat→Addr)(K:List V→Sto→Prop):VP:=fun v l'=>∃A ws,v= .ref A∧((A,tupO ws)∈l')∧Pks w pr fz N ι K ws l'
theorem AS.unpack{Kn:List (Str×V)→Sto→Prop}{Kr:V→Sto→Prop}(ok:Cok c d){xs:List (Str×Pos)}{e:PySem.Expr}{b:List Stmt}{kk:Nat}{tpos pos:Pos}
  (h:∀pr fz m ι l,Nm c c.env m fz σ.length ι (fX sc.names κ ρ)→Rel c.w pr fz σ ι l→TE c c.env m l e (PVl c pr fz σ.length ι fun as σ'=>wBinds sc.names κ (xs.map (·.1)) as ρ σ' (fun ρ' σ'=>AS c κ ρ' σ' b Kn Kr)))
  (hs:swapsWithSole [.Tuple (nmT xs) kk tpos] e pos.line c.env=pure false)(hw:swappedStores [.Tuple (nmT xs) kk tpos] e c.env=pure none):AS c κ ρ σ (.Assign [.Tuple (nmT xs) kk tpos] e pos::b) Kn Kr:=fun pr fz m ι l hl hk r=>
 TS.unpack ((h pr fz m ι l (nm_def ok hl hk) r).mono fun v l' p=>by
  obtain⟨A,ws,t,e1,hm,p⟩:=p
  refine p.elim fun ι' fz' σ' as k hv r' g n x=>⟨A,ws,t,e1,hm,?_,?_⟩
  ·rw[←hv.length,wBinds.len wBind.some k,List.length_map]
  ·exact TBs.mono (wBinds.ok ok k pr fz' m ι' l' ws hv (hl.grow x.sub g n) (hk.grow g n) r') fun m' l'' p'=>p'.elim fun ι'' fz'' ρ'' σ'' k'' hl'' r'' g'' n'' x''=>
    ((k'' pr fz'' m' ι'' l'' hl'' ((hk.grow g n).grow g'' n'') r'').trans g'' n'' x'').trans g n x) hs hw (assignEach_nm xs).1 (assignEach_nm xs).2
theorem Reqs.rev{w:World}{fz:Led}{N:Nat}{ι:Nat→Addr}{as:List V}{ws:List Value}(h:Reqs w fz N ι as ws):Reqs w fz N ι as.reverse ws.reverse:=by
 have app:∀{as bs:List V} {us vs:List Value},Reqs w fz N ι as us→Reqs w fz N ι bs vs→Reqs w fz N ι (as++bs) (us++vs):=fun h k=>by
  induction h with
  |nil=>exact k
  |cons h o1_ ih=>exact .cons h ih
 induction h with
 |nil=>exact .nil
 |cons h o1_ ih=>rw[List.reverse_cons,List.reverse_cons];exact app ih (.cons h .nil)
theorem AS.unpackS{Kn:List (Str×V)→Sto→Prop}{Kr:V→Sto→Prop}(ok:Cok c d){xs:List (Str×Pos)}{ns:List Str}{e:PySem.Expr}{b:List Stmt}{kk:Nat}{tpos pos:Pos}
  (h:∀pr fz m ι l,Nm c c.env m fz σ.length ι (fX sc.names κ ρ)→Rel c.w pr fz σ ι l→TE c c.env m l e (PTp c.w pr fz σ.length ι fun as σ'=>wBinds sc.names κ ns.reverse as.reverse ρ σ' (fun ρ' σ'=>AS c κ ρ' σ' b Kn Kr)))
  (hs:swapsWithSole [.Tuple (nmT xs) kk tpos] e pos.line c.env=pure false)(hw:swappedStores [.Tuple (nmT xs) kk tpos] e c.env=pure (some ns)):AS c κ ρ σ (.Assign [.Tuple (nmT xs) kk tpos] e pos::b) Kn Kr:=fun pr fz m ι l hl hk r=>
 TS.unpackS ((h pr fz m ι l (nm_def ok hl hk) r).mono fun v l' p=>by
  obtain⟨A,ws,e1,hm,p⟩:=p
  refine p.elim fun ι' fz' σ' as k hv r' g n x=>⟨A,ws,e1,hm,?_,?_⟩
  ·have:=wBinds.len wBind.some k
   rw[←hv.length];simpa using this
  ·exact TBs.mono (wBinds.ok ok k pr fz' m ι' l' _ hv.rev (hl.grow x.sub g n) (hk.grow g n) r') fun m' l'' p'=>p'.elim fun ι'' fz'' ρ'' σ'' k'' hl'' r'' g'' n'' x''=>
    ((k'' pr fz'' m' ι'' l'' hl'' ((hk.grow g n).grow g'' n'') r'').trans g'' n'' x'').trans g n x) hs hw
theorem TE.raw{m:Mp}{l:Led}{env:Env}{X:Wx}{pr fz:Led}{ι:Nat→Addr}{K:List V→Sto→Prop}{es:List PySem.Expr}{kd:Nat}{pos:Pos}(h:AL c env X es σ (fun as σ'=>Nat.ble as.length 8=true∧K as σ'))(hn:Nm c env m fz σ.length ι X)(r:Rel c.w pr fz σ ι l):TE c env m l (.Tuple es kd pos) (PTp c.w pr fz σ.length ι K):=
 TE.tuple (TEL.mono (h pr fz m ι l hn r) fun vs l' p=>p.elim fun ι' fz' σ' as k hv r' g n x=>⟨by rw[←hv.length];exact k.1,fun D l'' hm hs hf=>
  ⟨D,vs,rfl,hm,.mk ι' fz' σ' as k.2 hv ⟨r'.subp.trans hs,r'.subf.trans hs,r'.own,fun k o e=>have⟨O,hm,hc⟩:=r'.mem k o e;⟨O,hs _ hm,hc⟩,r'.fro,r'.inj⟩ g n x⟩⟩)
end
inductive ShR:List (Str×V)→List (Str×V)→Prop where
 |nil:ShR [] []
 |cons {x:Str} {a b:V} {ρ ρ':List (Str×V)} (h:Sh a b) (t:ShR ρ ρ'):ShR ((x,a)::ρ) ((x,b)::ρ')
theorem ShR.refl:∀{ρ:List (Str×V)},ShR ρ ρ
 |[]=> .nil
 |_::_=> .cons .refl ShR.refl
theorem ShR.look{ρ ρ':List (Str×V)}(h:ShR ρ ρ'){x:Str}{b:V}(e:List.lookup x ρ'=some b):∃a,List.lookup x ρ=some a∧Sh a b:=by
 induction h with
 |nil=>exact nomatch e
 |@cons y a b' o1_ o2_ h o3_ ih=>
  rw[List.lookup] at e ⊢
  cases hh:x==y with
  |true=>rw[hh] at e;cases Option.some.inj e;exact⟨a,rfl,h⟩
  |false=>rw[hh] at e;exact ih e
theorem Lm.sh{w:World}{fz:Led}{N:Nat}{ι:Nat→Addr}{ρ ρ':List (Str×V)}{m:Mp}(h:Lm w fz N ι ρ m)(s:ShR ρ ρ'):Lm w fz N ι ρ' m:=fun x b e=>
 (s.look e).elim fun a p=>(h x a p.1).imp fun v q=>⟨q.1.sh p.2,q.2⟩
section
variable {sc:Scope} {c:Cx sc} {env:Env} {m:Mp} {l:Led} {d:Nat} {X:Wx} {σ:Sto} {ι:Nat→Addr} {K:V→Sto→Prop} {pr fz:Led} {N:Nat}
noncomputable def wAp1(σ:Sto)(k:Nat→Prop):V→Prop
 |.ref j=>optK (fun o1_=>k j) (lstAt σ j)
 |_=>False
noncomputable def wAp2(σ:Sto)(K:V→Sto→Prop)(j:Nat)(bs:List V):Prop:=w1 (fun b=>optK (fun vs=>cond (Nat.ble vs.length 1000) (K .none (σ.set j (.lst (vs++[b])))) False) (lstAt σ j)) bs
theorem Reps.snoc{w:World}{vs:List V}{ws:List Value}{a:V}{v:Value}(h:Reps w fz vs ws)(k:Rep w fz a v):Reps w fz (vs++[a]) (ws++[v]):=
 Reps.rec (motive_1:=fun o1_ o2_ o3_=>True) (motive_2:=fun vs ws o1_=>Reps w fz (vs++[a]) (ws++[v])) (fun o1_=>trivial) trivial trivial (fun o1_ o2_ o3_=>trivial) (fun o1_ o2_ o3_ o4_=>trivial) (fun o1_ o2_ o3_=>trivial) (fun o1_ o2_ o3_=>trivial) (.cons k .nil) (fun h o1_ o2_ t=> .cons h t) h
theorem Pk.putL{h:Heap}{A:Addr}{O O':Obj}{k:Nat}{vs us:List V}{ws:List Value}{v:Value}{a:V}(r:Rel c.w pr fz σ ι l)(N:News c.h₀ c.L h l)(e:σ[k]?=some (.lst vs))(hA:ι k=A)(hm:(A,O)∈l)(hr:Reps c.w fz us ws)(hd:LO O' ws)(hv:Rep c.w fz a v)(kk:K a (σ.set k (.lst us))):
  Pk c.w pr fz σ.length ι K v ((A,O')::dropL A l):=by
 subst hA
 exact .mk ι fz _ a kk (.dat hv) (r.put e rfl rfl hm (dropL.subX N hm) (.head _) (.lst hr hd)) Agr.refl (by rw[List.length_set];exact Nat.le_refl _) Ext.refl
theorem AE.append{x:Str}{xp ap pos:Pos}{e:PySem.Expr}(ok:Cok c d)(h:AE c env X (.Name x xp) σ fun v σ1=>wAp1 σ1 (fun j=>AL c env X [e] σ1 fun as σ2=>frzL as σ2 fun bs σ3=>wAp2 σ3 K j bs) v)
  (h2:starEach [e] env=[(false,eval e env)])(hp:(ap.endLine==pos.line)=true):AE c env X (.Call (.Attribute (.Name x xp) "append" ap) [e] [] pos) σ K:=fun pr fz m ι l hn r=>fun s Q E F' N q=>by
 refine methodCall_KW (kws:=[]) (h pr fz m ι l hn r s _ E F' N fun v l' h' tk' p F1 N1=>p.elim fun ι1 fz1 σ1 y k hv r1 g1 n1 e1=>?_) (meth_eq h2 hp)
 induction y using V.casesOn with
 |ref j=>
  obtain⟨vs,ev,k⟩:=optK.ok k
  cases hv with
  |dat hv=>exact nomatch hv
  |ref hj=>
   obtain⟨O,hm,hc⟩:=r1.mem j _ (lstAt.ok ev)
   cases hc with
   |lst o1_ hd=>
    refine Calls.getMethod_list_append (N1 _ hm).1 hd.1.1 hd.1.2 ?_
    have H:=k pr fz1 m ι1 l' (hn.grow e1.sub g1 n1) r1 ⟨h',s.gens,s.drawn,tk',s.os⟩ (fun us=>wpAny (MD c.w) c.A (PySem.call (Value.builtin "list.append") (Value.ref (ι1 j)::us)) Q E) E pos F1 N1 fun us l'' h'' tk'' p F2 N2=>p.elim fun ι2 fz2 σ2 as k hv r2 g2 n2 e2=>(frzL.ok k r2 hv).elim fun fz3 σ3 bs k3 hr3 R3 n3 x3=>by
     obtain⟨b,rfl,k3⟩:=w1.ok k3
     obtain⟨vs3,ev3,k3⟩:=optK.ok k3
     obtain⟨hz,k3⟩:=cond_t k3
     cases hr3 with
     |cons hb t=>cases t with
      |nil=>
       have ej:=lstAt.ok ev3
       have hA:ι2 j=ι1 j:=g2 j hj
       obtain⟨O3,hm3,hc3⟩:=R3.mem j _ ej
       cases hc3 with
       |lst hr hd3=>
        rw[hA] at hm3
        have z:=N2 _ hm3
        exact append_lo z.1 hd3 (by rw[←hr.length];exact Nat.le_of_ble_eq_true hz) fun h3 o3 hs3 g3 hl3=>q _ _ _ tk'' (((Pk.putL (a:= .none) R3 N2 ej hA hm3 (hr.snoc hb) hl3 .none k3).trans g2 (n3▸n2) (e2.trans x3)).trans g1 n1 e1) (F2.change hs3 z.2.1 z.2.2) (dropL.set N2 hm3 hs3 g3)
    rw[h2] at H ⊢
    exact Calls.callWith_builtin (first:=[.ref (ι1 j)]) rfl (Calls.evalArgs_plain H)
 |_=>exact k.elim
end
section
variable {sc:Scope} {c:Cx sc} {d:Nat} {κ:List (Str×Nat)} {ρ:List (Str×V)} {σ:Sto} {Kn:List (Str×V)→Sto→Prop} {Kr:V→Sto→Prop}
theorem AS.expr(ok:Cok c d){e:PySem.Expr}{b:List Stmt}{pos:Pos}(h:AE c c.env (fX sc.names κ ρ) e σ fun o1_ σ1=>AS c κ ρ σ1 b Kn Kr)(hi:interactive c.env=false)(hs:swapsWith e none pos.line c.env=pure false):AS c κ ρ σ (.Expr e pos::b) Kn Kr:=fun pr fz m ι l hl hk r=>
 TS.expr ((h pr fz m ι l (nm_def ok hl hk) r).mono fun v l' p=>p.elim fun ι' fz' σ' a k hv r' g n x=>(k pr fz' m ι' l' (hl.grow x.sub g n) (hk.grow g n) r').trans g n x) hi hs
noncomputable def wSet(σ:Sto)(K:Sto→Prop)(a:V):V→V→Prop
 |.ref j,.int (.ofNat i) _ _=>frzK σ (fun b σ'=>optK (fun vs=>cond (Nat.ble vs.length 1000&&Nat.ble (i+1) vs.length) (K (σ'.set j (.lst (vs.set i b)))) False) (lstAt σ' j)) a
 |_,_=>False
theorem Reps.set{w:World}{fz:Led}{a:V}{v:Value}{vs:List V}{ws:List Value}(h:Reps w fz vs ws)(k:Rep w fz a v):∀{i:Nat},Reps w fz (vs.set i a) (ws.set i v):=by
 refine Reps.rec (motive_1:=fun o1_ o2_ o3_=>True) (motive_2:=fun vs ws o1_=>∀i,Reps w fz (vs.set i a) (ws.set i v)) (fun o1_=>trivial) trivial trivial (fun o1_ o2_ o3_=>trivial) (fun o1_ o2_ o3_ o4_=>trivial) (fun o1_ o2_ o3_=>trivial) (fun o1_ o2_ o3_=>trivial) (fun i=> .nil) (fun h t o1_ ih i=>?_) h _
 induction i using Nat.casesOn with
 |zero=>exact .cons k t
 |succ i=>exact .cons h (ih i)
theorem AS.set(ok:Cok c d){o ix e:PySem.Expr}{b:List Stmt}{sp pos:Pos}(h:AE c c.env (fX sc.names κ ρ) e σ fun a σ1=>AE c c.env (fX sc.names κ ρ) o σ1 fun x σ2=>AE c c.env (fX sc.names κ ρ) ix σ2 fun y σ3=>wSet σ3 (fun σ4=>AS c κ ρ σ4 b Kn Kr) a x y)
  (hs:swapsWith e (some (.Subscript o ix sp)) pos.line c.env=pure false):AS c κ ρ σ (.Assign [.Subscript o ix sp] e pos::b) Kn Kr:=fun pr fz m ι l hl hk r=>fun s Q E pe F N q k=>by
 have hn:=nm_def ok hl hk
 refine wpAny_execs_cons (wpAny_Assign_Subscript (h pr fz m ι l hn r s _ E F N fun v l1 h1 tk1 p F1 N1=>p.elim fun ι1 fz1 σ1 a k1 hv r1 g1 n1 e1=>?_) hs)
 refine k1 pr fz1 m ι1 l1 (hn.grow e1.sub g1 n1) r1 _ _ E F1 N1 fun v2 l2 h2 tk2 p F2 N2=>p.elim fun ι2 fz2 σ2 x k2 hx r2 g2 n2 e2=>?_
 refine k2 pr fz2 m ι2 l2 ((hn.grow e1.sub g1 n1).grow e2.sub g2 n2) r2 _ _ E F2 N2 fun v3 l3 h3 tk3 p F3 N3=>p.elim fun ι3 fz3 σ3 y k3 hy r3 g3 n3 e3=>?_
 have hx:=hx.grow e3.sub g3 n3
 have hv:=(hv.grow e2.sub g2 n2).grow e3.sub g3 n3
 have G:=(g1.trans g2 n1).trans g3 (Nat.le_trans n1 n2)
 have NN:=Nat.le_trans (Nat.le_trans n1 n2) n3
 have EE:=(e1.trans e2).trans e3
 induction x using V.casesOn with
 |ref j=>induction y using V.casesOn with
  |int z bz lz=>cases z with
   |ofNat i=>
    cases hx with
    |dat hx=>exact nomatch hx
    |ref hj=>cases hy with
     |dat hy=>cases hy with
      |int hi=>
       have k3:frzK σ3 (fun b' σ'=>optK (fun vs=>cond (Nat.ble vs.length 1000&&Nat.ble (i+1) vs.length) (AS c κ ρ (σ'.set j (.lst (vs.set i b'))) b Kn Kr) False) (lstAt σ' j)) a:=k3
       refine(frzK.ok k3 r3 hv).elim fun fz4 σ4 b' k4 hb R4 n4 x4=>?_
       obtain⟨vs,ev,k5⟩:=optK.ok k4
       obtain⟨hz,k6⟩:=cond_t k5
       rw[Bool.and_eq_true] at hz
       have ej:=lstAt.ok ev
       obtain⟨O,hm,hc⟩:=R4.mem j _ ej
       cases hc with
       |lst hr hd=>
        have z:=N3 _ hm
        refine setItem_lo rfl z.1 hd (by rw[←hr.length];exact Nat.le_of_ble_eq_true hz.1) (by rw[←hr.length];exact Nat.le_of_ble_eq_true hz.2) fun h5 o5 hs5 g5 hl5=>?_
        have R5:=R4.put ej rfl rfl hm (dropL.subX N3 hm) (.head _) (Co.lst (hr.set hb (i:=i)) hl5)
        have len:(σ4.set j (.lst (vs.set i b'))).length=σ3.length:=by rw[List.length_set,n4]
        have N':σ.length≤(σ4.set j (.lst (vs.set i b'))).length:=len▸NN
        exact((k6 pr fz4 m ι3 _ (hl.grow (EE.trans x4).sub G N') (hk.grow G N') R5).trans G N' (EE.trans x4)) ⟨h5,s.gens,s.drawn,tk3,s.os⟩ Q E pe (F3.change hs5 z.2.1 z.2.2) (dropL.set N3 hm hs5 g5) q k
   |negSucc o1_=>exact k3.elim
  |_=>exact k3.elim
 |_=>induction y using V.casesOn <;> exact k3.elim
theorem AS.aug(ok:Cok c d){x:Str}{xp pos:Pos}{e:PySem.Expr}{b:List Stmt}{a:V}(hk:List.lookup x sc.names=some .local)(hx:List.lookup x ρ=some a)(h:asI (fun i bi li=>AE c c.env (fX sc.names κ ρ) e σ fun y σ1=>asI (fun j bj lj=>wAdd i bi li j bj lj fun n bn ln=>AS c κ (upL x (.int n bn ln) ρ) σ1 b Kn Kr) y) a):AS c κ ρ σ (.AugAssign (.Name x xp) .Add e pos::b) Kn Kr:=fun pr fz m ι l hl hkp r=>fun s Q E pe F N q k=>by
 obtain⟨v,hv,hm⟩:=hl x a hx
 obtain⟨i,bi,li,t,rfl,h,hi⟩:=asI.ok h hv
 refine wpAny_execs_cons (wpAny_AugAssign_Name (wpAny_loadName_local (env:=c.env) ok.k hk F.ns hm ?_))
 refine h pr fz m ι l (nm_def ok hl hkp) r s _ E F N fun u l1 h1 tk1 p F1 N1=>p.elim fun ι1 fz1 σ1 y k1 hu r1 g1 n1 e1=>?_
 obtain⟨j,bj,lj,t',rfl,k2,hj⟩:=asI.ok k1 hu
 obtain⟨bn,ln,hn,k3⟩:=wAdd.ok k2 hi hj
 refine wpAny_iadd_int ?_
 refine TB.loc (c:=c) ok hk (K:=fun m' l'=>TS c c.env m' l' b (Pn c κ pr fz σ.length ι Kn) (Pk c.w pr fz σ.length ι Kr)) ((k3 pr fz1 _ ι1 l1 ((hl.grow e1.sub g1 n1).put (.dat (.int hn))) (hkp.grow g1 n1) r1).trans g1 n1 e1) _ _ E F1 N1 fun m' l' h' tk' p F2 N2=>p _ Q E pe F2 N2 q k
theorem AS.whileS(ok:Cok c d){t:PySem.Expr}{b r:List Stmt}{pos:Pos}(I:Nat→List (Str×V)→Sto→Prop)(h0:∃n ρ0,ShR ρ ρ0∧I n ρ0 σ)
  (turn:∀n ρ' σ',I n ρ' σ'→AT c c.env (fX sc.names κ ρ') t σ' (fun z σ1=>cond z (AS c κ ρ' σ1 b (fun ρ2 σ2=>∃n' ρ3,n'<n∧ShR ρ2 ρ3∧I n' ρ3 σ2) (fun o1_ o2_=>False)) (AS c κ ρ' σ1 r Kn Kr))):AS c κ ρ σ (.While t b [] pos::r) Kn Kr:=fun pr fz m ι l hl hk rl=>
 h0.elim fun n0 h0=>h0.elim fun ρ0 h0=>
 TS.while (fun n=>Pn c κ pr fz σ.length ι (I n)) (.mk ι fz ρ0 σ h0.2 (hl.sh h0.1) rl Agr.refl (Nat.le_refl _) Ext.refl) fun n m₁ l₁ p=>p.elim fun ι1 fz1 ρ1 σ1 hi hl1 r1 g1 n1 x1=>
  have hk1:=hk.grow g1 n1
  TT.mono (turn n ρ1 σ1 hi pr fz1 m₁ ι1 l₁ (nm_def ok hl1 hk1) r1) fun z l' p=>p.elim fun ι2 fz2 σ2 k2 r2 g2 n2 x2=>by
   cases z
   ·exact((k2 pr fz2 m₁ ι2 l' (hl1.grow x2.sub g2 n2) (hk1.grow g2 n2) r2).trans g2 n2 x2).trans g1 n1 x1
   ·exact fun s Q E pe F N' q k=>k2 pr fz2 m₁ ι2 l' (hl1.grow x2.sub g2 n2) (hk1.grow g2 n2) r2 s Q E pe F N' (fun v m' l' h' tk' p=>p.elim fun o1_ o2_ o3_ o4_ k o5_ o6_ o7_ o8_ o9_=>k.elim) fun m' l'' h' tk' p=>k m' l'' h' tk' (p.elim fun ι3 fz3 ρ3 σ3 k3 hl3 r3 g3 n3 x3=>k3.elim fun n' hh=>hh.elim fun ρ4 hh=>⟨n',hh.1,.mk ι3 fz3 ρ4 σ3 hh.2.2 (hl3.sh hh.2.1) r3 ((g1.trans g2 n1).trans g3 (Nat.le_trans n1 n2)) (Nat.le_trans (Nat.le_trans n1 n2) n3) ((x1.trans x2).trans x3)⟩)
end
section
variable {sc:Scope} {c:Cx sc} {m:Mp} {l:Led} {P:VP} {R:VP} {N B:Mp→Led→Prop} {d:Nat}
noncomputable def TSb{sc:Scope}(c:Cx sc)(m:Mp)(l:Led)(b:List Stmt)(N B:Mp→Led→Prop)(R:VP):Prop:=
 ∀(s:Shared) (Q:Flow→Shared→Prop) (E:Value→Shared→Prop),PassesOwn (MD c.w) c.A c.env E→Fr c.h₀ c.L s.heap m→News c.h₀ c.L s.heap l→
  (∀v m' l' h' tk',R v l'→Fr c.h₀ c.L h' m'→News c.h₀ c.L h' l'→Q (.ret v) ⟨h',s.gens,s.drawn,tk',s.os⟩)→
  (∀m' l' h' tk',N m' l'→Fr c.h₀ c.L h' m'→News c.h₀ c.L h' l'→Q .next ⟨h',s.gens,s.drawn,tk',s.os⟩)→
  (∀m' l' h' tk',B m' l'→Fr c.h₀ c.L h' m'→News c.h₀ c.L h' l'→Q .brk ⟨h',s.gens,s.drawn,tk',s.os⟩)→wpAny (MD c.w) c.A (execs b c.env) Q E s
theorem TSb.brk{t:PySem.Expr}{b:List Stmt}{bp ip:Pos}(h:TT c c.env m l t (fun z l'=>cond z (B m l') (TS c c.env m l' b N R))):TSb c m l (.If t [.Break bp] [] ip::b) N B R:=fun s Q E pe F N' q k kb=>
 wpAny_execs_cons (wpAny_If (h s _ E F N' fun z l' h' tk' p F' N''=>by
  cases z
  ·exact wpAny_execs_nil (p _ Q E pe F' N'' q k)
  ·exact wpAny_execs_cons (wpAny_Break (kb _ _ _ _ p F' N''))))
noncomputable def Bk(own:Led)(src:List Addr)(l' l2:Led):Prop:=∀p∈l',(FreshAt p.1 own∨p.1∈src)→p∈l2
noncomputable def FTG{sc:Scope}(c:Cx sc)(tgt:PySem.Expr)(body:List Stmt)(N:Mp→Led→Prop)(R:VP)(Pv:Nat→Value→Heap→Prop)(src:List Addr):Nat→Nat→Mp→Led→Prop
 | 0,_,m,l=>N m l
 |k+1,i,m,l=>∀v own l1,Sub own l1→Sub l l1→(∀p∈own,FreshAt p.1 l∨p.1∈src)→
   TAP c m l1 tgt v (Pv i v) (fun m' l'=>TSb c m' l' body (fun m'' l''=>Sub own l''∧∀l3,Bk own src l'' l3→FTG c tgt body N R Pv src k (i+1) m'' l3) N R)
theorem TS.forG{tgt iter:PySem.Expr}{body r:List Stmt}{pos:Pos}
  (h:TE c c.env m l iter (fun v l'=>∃n Pv src l₀,TIter c tgt m l' l₀ v n Pv src∧(∀b∈src,InA l₀ b)∧FTG c tgt body (fun m' l''=>TS c c.env m' l'' r N R) R Pv src n 0 m l₀))
  (hs:∀x,foldedSetIterable iter c.env x=pure x):TS c c.env m l (.For tgt iter body [] pos::r) N R:=fun s Q E pe F N' q k=>by
 refine wpAny_execs_cons (PySem.W.For_turns (h₀:=c.h₀) (env:=c.env) F (h _ _ _ F N' fun v lz h' tk' p F' N''=>p.elim fun n p=>p.elim fun Pv p=>p.elim fun src p=>p.elim fun l' p=>p.1 _ _ _ F' N'' fun I fp wr Md St h'' A=>?_) hs pe)
 have srcw:∀b∈src,b∉wr:=fun b hb=>(p.2.1 b hb).elim fun o ho=>A.off _ ho
 refine⟨I,fp,wr,n,Pv,Md,St,m,l',fun i m1 l1=>(∀p∈l1,p.1∈fp→p.1∈src)∧FTG c tgt body (fun m' l''=>TS c c.env m' l'' r N R) R Pv src (n-i) i m1 l1,rfl,A.W,A.nL,A.hid,A.off,A.st,A.F,A.N,⟨fun p hp hf=>(A.src _ hf).elim (fun f=>absurd rfl (f _ hp)) id,p.2.2⟩,?_,?_⟩
 ·intro i v m1 l1 h1 tk1 own hin hP hJ hoff hown hget hall hst F1 N1
  obtain⟨j,hj⟩:∃j,n-i=j+1:=⟨n-i-1,by exact lN 0x210453e104238938f8410a1322 (Nat.sub_add_cancel (lN 0x84114e4023c940f8488413a12a3 hin (Nat.sub_add_cancel (lN 0xf3a120f3a12a2 hin))))⟩
  have hF:=hJ.2
  rw[hj] at hF
  have fo:∀p∈own,FreshAt p.1 l1∨p.1∈src:=fun p hp=>by
   by_cases hs:p.1∈src
   ·exact .inr hs
   ·exact .inl fun q hq e=>hs (e▸hJ.1 q hq (e▸hown p hp))
  refine hF v own (own++l1) (fun p hp=>List.mem_append_left _ hp) (fun p hp=>List.mem_append_right _ hp) fo _ _ _ F1 N1 hP fun m2 l2 h2 tk2 ts F2 N2=>?_
  refine ts _ _ _ pe F2 N2 (fun v' m3 l3 h3 tk3 hr F3 N3=>q _ _ _ _ _ hr F3 N3) (fun m3 l3 h3 tk3 z F3 N3=>?_) (fun m3 l3 h3 tk3 z F3 N3=>z _ Q E pe F3 N3 q k)
  have inown:∀p∈l3,p.1∈fp→(FreshAt p.1 own∨p.1∈src)→p.1∈src:=fun p hp hf z=>z.elim (fun f=>by
   obtain⟨o,ho⟩:=A.ex _ _ hst _ hf
   exact absurd rfl (f (p.1,o) (hall p.1 hf (N3 p hp).2.2 o ho))) id
  refine⟨rfl,h3,tk3,m3,l3.filter (fun p=>decide ((p.1∈fp→p.1∈src))),rfl,F3,fun p hp=>?_,fun p hp hw=>?_,fun p hp=>of_decide_eq_true (List.mem_filter.mp hp).2,?_⟩
  ·rcases List.mem_append.mp hp with hp |hp
   ·exact N3 _ (z.1 _ hp)
   ·exact N3 _ (List.mem_filter.mp hp).1
  ·exact srcw _ (of_decide_eq_true (List.mem_filter.mp hp).2 (A.W.sub _ hw)) hw
  ·show FTG c tgt body _ R Pv src (n-(i+1)) (i+1) m3 _
   rw[show n-(i+1)=j from lN 0x2104548f08e2610503e104208e261052461042250461325 hj (Nat.sub_add_cancel (lN 0x3ce8483e10423a12a2 hin)) (Nat.sub_add_cancel (lN 0xf3a120f3a12a2 hin))]
   exact z.2 _ fun p hp w=>List.mem_filter.mpr ⟨hp,decide_eq_true fun hf=>inown p hp hf w⟩
 ·intro h' tk m' l1 F1 N1 _ hJ
  have hJ':=hJ.2
  rw[Nat.sub_self] at hJ'
  exact hJ' ⟨h',s.gens,s.drawn,tk,s.os⟩ Q E pe F1 N1 q k
theorem TAP.sq{xs:List (Str×Pos)}{kk:Nat}{tp:Pos}{v:Value}{pre:Heap→Prop}{K:Mp→Led→Prop}(hp:∀h,Fr c.h₀ c.L h m→News c.h₀ c.L h l→pre h→∃T ws t,v= .ref T∧cond t (h.IsTuple T (List.toArray ws)) (h.IsList T (List.toArray ws))∧xs.length=ws.length∧TBs c (xs.map (·.1)) ws m l K)
  (he:(assignEach (nmT xs) c.env).length=xs.length)(hst:(assignEach (nmT xs) c.env).findIdx? (·.1)=none):TAP c m l (.Tuple (nmT xs) kk tp) v pre K:=fun s Q E F N hpre q=>by
 obtain⟨T,ws,t,rfl,hT,hl,hb⟩:=hp _ F N hpre
 cases t with
 |true=>exact unpackN_ F N hT (by rfl) (by rw[he,hl,List.size_toArray]) hst fun h' F' N'=>tbs_order xs ws m l _ _ E hl hb F' N' q
 |false=>exact kun_list F N hT (by rfl) (by rw[he,hl,List.size_toArray]) hst fun h' F' N'=>tbs_order xs ws m l _ _ E hl hb F' N' q
end
noncomputable def ItOk(w:World)(fz:Led)(tr:Nat)(a:V)(u:Value)(h:Heap):Prop:=match tr with
 | 0=>Rep w fz a u
 |n+1=>∃T ws vs,u= .ref T∧a= .tup vs∧h.IsTuple T (List.toArray ws)∧Reps w fz vs ws∧ws.length=n+1
theorem ItOk.mono{w:World}{fz fz':Led}(s:Sub fz fz'){tr:Nat}{a:V}{u:Value}{h:Heap}(k:ItOk w fz tr a u h):ItOk w fz' tr a u h:=by
 induction tr using Nat.casesOn with
 |succ n=>exact k.elim fun T k=>k.elim fun ws k=>k.elim fun vs k=>⟨T,ws,vs,k.1,k.2.1,k.2.2.1,k.2.2.2.1.mono s,k.2.2.2.2⟩
 |zero=>exact Rep.mono s k
inductive Pi{sc:Scope}(c:Cx sc)(tgt:PySem.Expr)(m:Mp)(pr fz:Led)(N:Nat)(ι:Nat→Addr)(K:Nat→List V→Sto→Prop)(v:Value)(l':Led):Prop where
 |mk (ι':Nat→Addr) (fz':Led) (σ:Sto) (tr:Nat) (as:List V) (Pv:Nat→Value→Heap→Prop) (src:List Addr) (l₀:Led) (k:K tr as σ) (r:Rel c.w pr fz' σ ι' l₀) (g:Agr N ι ι') (n:N≤σ.length) (x:Ext pr fz fz')
  (it:TIter c tgt m l' l₀ v as.length Pv src) (hs:∀b∈src,InA fz' b) (hi:∀i u h,Pv i u h→∃a,as[i]?=some a∧ItOk c.w fz' tr a u h)
theorem Pi.elim{sc:Scope}{c:Cx sc}{tgt:PySem.Expr}{m:Mp}{pr fz:Led}{N:Nat}{ι:Nat→Addr}{K:Nat→List V→Sto→Prop}{v:Value}{l':Led}{C:Prop}(h:Pi c tgt m pr fz N ι K v l')
  (f:∀ι' fz' σ tr as Pv src l₀,K tr as σ→Rel c.w pr fz' σ ι' l₀→Agr N ι ι'→N≤σ.length→Ext pr fz fz'→TIter c tgt m l' l₀ v as.length Pv src→(∀b∈src,InA fz' b)→(∀i u h,Pv i u h→∃a,as[i]?=some a∧ItOk c.w fz' tr a u h)→C):C:=by
 cases h;apply f <;> assumption
noncomputable def AI{sc:Scope}(c:Cx sc)(env:Env)(X:Wx)(tgt iter:PySem.Expr)(σ:Sto)(K:Nat→List V→Sto→Prop):Prop:=
 ∀pr fz m ι l,Nm c env m fz σ.length ι X→Rel c.w pr fz σ ι l→TE c env m l iter (Pi c tgt m pr fz σ.length ι K)
noncomputable def refC(N k:Nat):Option AO→Option V:=fun o=>cond (Nat.ble (k+1) N) (some (.ref k)) (match o with
 |some (.frz vs)=>some (.lst vs)
 |_=>none)
noncomputable def cleanV(N:Nat)(σ:Sto):V→Option V
 |.ref k=>refC N k σ[k]?
 |a=>some a
noncomputable def cleanR(N:Nat)(σ:Sto):List (Str×V)→Option (List (Str×V))
 |[]=>some []
 |(x,a)::r=>(cleanV N σ a).bind fun b=>(cleanR N σ r).map fun t=>(x,b)::t
noncomputable def clA(N:Nat)(σ:Sto):AO→Option AO
 |.cell (some a)=>(cleanV N σ a).map fun b=> .cell (some b)
 |.cst a=>(cleanV N σ a).map fun b=> .cst b
 |.ns bs=>(cleanR N σ bs).map fun b=> .ns b
 |.ins _=>none
 |o=>some o
noncomputable def mapO{α β:Type}(f:α→Option β):List α→Option (List β)
 |[]=>some []
 |a::r=>(f a).bind fun b=>(mapO f r).map fun t=>b::t
noncomputable def clS(N:Nat)(σ:Sto):Option Sto:=cond (Nat.ble N σ.length) (mapO (clA N σ) (σ.take N)) none
theorem mapO.ok{α β:Type}{f:α→Option β}:∀{as:List α} {bs:List β},mapO f as=some bs→bs.length=as.length∧∀(i:Nat) (b:β),bs[i]?=some b→∃a,as[i]?=some a∧f a=some b:=by
 intro as
 induction as with
 |nil=>intro bs h;cases Option.some.inj h;exact⟨rfl,fun i b e=>by simp at e⟩
 |cons a r ih=>
  intro bs h
  obtain⟨b,e1,h1⟩:=Option.bind_eq_some_iff.mp h
  obtain⟨t,e2,h2⟩:=Option.map_eq_some_iff.mp h1
  subst h2
  have:=ih e2
  refine⟨congrArg (· +1) this.1,fun i x e=>?_⟩
  induction i using Nat.casesOn with
  |zero=>exact⟨a,rfl,Option.some.inj e▸e1⟩
  |succ i=>exact this.2 i x e
section
variable {w:World} {pr fz l:Led} {σ:Sto} {ι:Nat→Addr} {N:Nat}
theorem cleanV.ok{a b:V}{v:Value}(h:cleanV N σ a=some b)(r:Rel w pr fz σ ι l)(hv:RepV w fz σ.length ι a v):RepV w fz N ι b v:=by
 cases hv with
 |dat hv=>
  have:b=a:=by cases hv <;> cases h <;> rfl
  exact this▸.dat hv
 |@ref k hk=>
  have h:refC N k σ[k]?=some b:=h
  unfold refC at h
  cases e:Nat.ble (k+1) N with
  |true=>rw[e] at h;cases Option.some.inj h;exact .ref (Nat.le_of_ble_eq_true e)
  |false=>
   rw[e] at h
   cases e2:σ[k]? with
   |none=>rw[e2] at h;exact nomatch h
   |some o=>
    rw[e2] at h
    induction o using AO.casesOn with
    |frz vs=>cases Option.some.inj h;exact .dat (r.fro k vs e2)
    |_=>exact nomatch h
theorem cleanR.ok:∀{ρ ρ':List (Str×V)} {x:Str} {b:V},cleanR N σ ρ=some ρ'→List.lookup x ρ'=some b→∃a,List.lookup x ρ=some a∧cleanV N σ a=some b:=by
 intro ρ
 induction ρ with
 |nil=>intro ρ' x b h e;cases h;cases e
 |cons p ρ ih=>
  intro ρ' x b h e
  obtain⟨a',e1,h1⟩:=Option.bind_eq_some_iff.mp (show(cleanV N σ p.2).bind (fun b=>(cleanR N σ ρ).map fun t=>(p.1,b)::t)=some ρ' from h)
  obtain⟨t,e2,h2⟩:=Option.map_eq_some_iff.mp h1
  subst h2
  have e:List.lookup x ((p.1,a')::t)=some b:=e
  show ∃a,List.lookup x ((p.1,p.2)::ρ)=some a∧_
  rw[List.lookup] at e ⊢
  cases hh:x==p.1 with
  |true=>rw[hh] at e;cases Option.some.inj e;exact⟨_,rfl,e1⟩
  |false=>rw[hh] at e;exact ih e2 e
theorem Lm.clean{ρ ρ':List (Str×V)}{m:Mp}(h:Lm w fz σ.length ι ρ m)(r:Rel w pr fz σ ι l)(e:cleanR N σ ρ=some ρ'):Lm w fz N ι ρ' m:=fun x b eb=>
 (cleanR.ok e eb).elim fun a p=>(h x a p.1).imp fun v q=>⟨cleanV.ok p.2 r q.1,q.2⟩
theorem clA.ok{o o':AO}{O:Obj}(h:clA N σ o=some o')(r:Rel w pr fz σ ι l)(k:Co w fz σ.length ι o O):Co w fz N ι o' O:=by
 cases k with
 |lst hr d=>cases Option.some.inj h;exact .lst hr d
 |frz=>cases Option.some.inj h;exact .frz
 |cell0 d=>cases Option.some.inj h;exact .cell0 d
 |cell hv d=>exact(Option.map_eq_some_iff.mp h).elim fun b p=>p.2▸.cell (cleanV.ok p.1 r hv) d
 |cst hv d=>exact(Option.map_eq_some_iff.mp h).elim fun b p=>p.2▸.cst (cleanV.ok p.1 r hv) d
 |obj=>cases Option.some.inj h;exact .obj
 |ins o1_=>exact nomatch h
 |ns hn q=>exact(Option.map_eq_some_iff.mp h).elim fun b p=>p.2▸.ns hn fun x a e=>(cleanR.ok p.1 e).elim fun a' z=>(q x a' z.1).imp fun v y=>⟨cleanV.ok z.2 r y.1,y.2⟩
theorem clA.mu{o o':AO}(h:clA N σ o=some o'):o'.mu=o.mu∧∀vs,o'= .frz vs→o= .frz vs:=by
 induction o using AO.casesOn with
 |lst vs=>cases Option.some.inj h;exact⟨rfl,fun o1_ e=>e⟩
 |frz vs=>cases Option.some.inj h;exact⟨rfl,fun o1_ e=>e⟩
 |cell v=>induction v using Option.casesOn with
  |none=>cases Option.some.inj h;exact⟨rfl,fun o1_ e=>by cases e⟩
  |some a=>exact(Option.map_eq_some_iff.mp h).elim fun b p=>p.2▸⟨rfl,fun o1_ e=>by cases e⟩
 |ns bs=>exact(Option.map_eq_some_iff.mp h).elim fun b p=>p.2▸⟨rfl,fun o1_ e=>by cases e⟩
 |cst a=>exact(Option.map_eq_some_iff.mp h).elim fun b p=>p.2▸⟨rfl,fun o1_ e=>by cases e⟩
 |obj O=>cases Option.some.inj h;exact⟨rfl,fun o1_ e=>by cases e⟩
 |ins o1_=>exact nomatch h
theorem takeAt{α:Type}{l:List α}{N j:Nat}{a:α}(h:(l.take N)[j]?=some a):l[j]?=some a:=by
 rw[List.getElem?_take] at h
 split at h
 ·exact h
 ·exact nomatch h
theorem Rel.clean{τ:Sto}(r:Rel w pr fz σ ι l)(h:clS N σ=some τ):Rel w pr fz τ ι l∧τ.length=N:=by
 unfold clS at h
 cases hN:Nat.ble N σ.length with
 |false=>rw[hN] at h;exact nomatch h
 |true=>
  rw[hN] at h
  have hN:=Nat.le_of_ble_eq_true hN
  have M:=mapO.ok (show mapO (clA N σ) (σ.take N)=some τ from h)
  have len:τ.length=N:=by rw[M.1,List.length_take];exact Nat.min_eq_left hN
  have at_:∀{j:Nat} {o:AO},τ[j]?=some o→∃a,σ[j]?=some a∧clA N σ a=some o:=fun{j o} e=>(M.2 j o e).imp fun a p=>⟨takeAt p.1,p.2⟩
  refine⟨⟨r.subp,r.subf,fun j o e mu=>?_,fun j o e=>?_,fun j vs e=>?_,fun i j o e mu hi hn=>?_⟩,len⟩
  ·exact(at_ e).elim fun a p=>r.own j a p.1 ((clA.mu p.2).1▸mu)
  ·rw[len]
   exact(at_ e).elim fun a p=>(r.mem j a p.1).imp fun O q=>⟨q.1,clA.ok p.2 r q.2⟩
  ·exact(at_ e).elim fun a p=>r.fro j vs ((clA.mu p.2).2 vs rfl▸p.1)
  ·exact(at_ e).elim fun a p=>r.inj i j a p.1 ((clA.mu p.2).1▸mu) (Nat.lt_of_lt_of_le (len▸hi) hN) hn
theorem Rel.pr_of{own:Led}(h:Rel w (own++pr) fz σ ι l):Rel w pr fz σ ι l:=
 ⟨fun p hp=>h.subp p (List.mem_append_right _ hp),h.subf,fun k o e mu=>⟨fun p hp=>(h.own k o e mu).1 p (List.mem_append_right _ hp),(h.own k o e mu).2⟩,h.mem,h.fro,h.inj⟩
end
noncomputable def unN:List PySem.Expr→Option (List (Str×Pos))
 |[]=>some []
 |.Name x p::r=>(unN r).map fun xs=>(x,p)::xs
 |_=>none
theorem unN.ok:∀{ts:List PySem.Expr} {xs:List (Str×Pos)},unN ts=some xs→ts=nmT xs:=by
 intro ts
 induction ts with
 |nil=>intro xs h;cases Option.some.inj h;rfl
 |cons t ts ih=>
  intro xs h
  cases t with
  |Name x p=>
   obtain⟨ys,e,h⟩:=Option.map_eq_some_iff.mp (show(unN ts).map (fun xs=>(x,p)::xs)=some xs from h)
   subst h
   rw[ih e];rfl
  |_=>exact nomatch h
noncomputable def tupC:V→Option (List V)
 |.tup vs=>some vs
 |_=>none
theorem tupC.ok{a:V}{vs:List V}(h:tupC a=some vs):a= .tup vs:=by
 induction a using V.casesOn with
 |tup us=>cases Option.some.inj h;rfl
 |_=>exact nomatch h
noncomputable def wNest(names:List (Str×NameKind))(κ:List (Str×Nat))(ρ:List (Str×V))(σ:Sto)(K:List (Str×V)→Sto→Prop)(as:List V)(ts:List PySem.Expr):Prop:=
 onCons (fun t r=>onName (fun x o1_=>on1 (fun t2=>onTup (fun us o1_ o2_=>optK (fun p=>wBind names κ x p.1 ρ σ fun ρ1 σ1=>optK (fun ys=>optK (fun vs=>wBinds names κ (ys.map (·.1)) vs ρ1 σ1 K) (tupC p.2)) (unN us)) (two as)) t2) r) t) ts
noncomputable def wTg1(names:List (Str×NameKind))(κ:List (Str×Nat))(ρ:List (Str×V))(σ:Sto)(K:List (Str×V)→Sto→Prop)(as:List V)(ts:List PySem.Expr)(tr:Nat):Option (List (Str×Pos))→Prop
 |some xs=>wBinds names κ (xs.map (·.1)) as ρ σ K
 |none=>match tr with
  | 0=>False
  |_+1=>wNest names κ ρ σ K as ts
noncomputable def isTupE:PySem.Expr→Bool
 |.Tuple _ _ _=>true
 |_=>false
noncomputable def wTg0(names:List (Str×NameKind))(κ:List (Str×Nat))(a:V)(ρ:List (Str×V))(σ:Sto)(K:List (Str×V)→Sto→Prop)(x:Str):Nat→Prop
 | 0=>wBind names κ x a ρ σ K
 |_+1=>False
noncomputable def wTg(names:List (Str×NameKind))(κ:List (Str×Nat))(tr:Nat)(a:V)(ρ:List (Str×V))(σ:Sto)(K:List (Str×V)→Sto→Prop)(tgt:PySem.Expr):Prop:=
 cond (isTupE tgt) (onTup (fun ts o1_ o2_=>optK (fun as=>wTg1 names κ ρ σ K as ts tr (unN ts)) (tupC a)) tgt) (onName (fun x o1_=>wTg0 names κ a ρ σ K x tr) tgt)
section
variable {sc:Scope} {c:Cx sc} {d:Nat} {κ:List (Str×Nat)} {ρ:List (Str×V)} {σ:Sto} {Kn Kb:List (Str×V)→Sto→Prop} {Kr:V→Sto→Prop}
theorem Reps.q{w:World}{fz:Led}{N:Nat}{ι:Nat→Addr}{as:List V}{ws:List Value}(h:Reps w fz as ws):Reqs w fz N ι as ws:=
 Reps.rec (motive_1:=fun o1_ o2_ o3_=>True) (motive_2:=fun as ws o1_=>Reqs w fz N ι as ws) (fun o1_=>trivial) trivial trivial (fun o1_ o2_ o3_=>trivial) (fun o1_ o2_ o3_ o4_=>trivial) (fun o1_ o2_ o3_=>trivial) (fun o1_ o2_ o3_=>trivial) .nil (fun h o1_ o2_ t=> .cons (.dat h) t) h
noncomputable def ATg{sc:Scope}(c:Cx sc)(κ:List (Str×Nat))(tgt:PySem.Expr)(tr:Nat)(a:V)(ρ:List (Str×V))(σ:Sto)(K:List (Str×V)→Sto→Prop):Prop:=
 ∀pr fz m ι l u (pre:Heap→Prop),(∀h,pre h→ItOk c.w fz tr a u h)→Lm c.w fz σ.length ι ρ m→Kp c κ σ.length ι→Rel c.w pr fz σ ι l→TAP c m l tgt u pre (Pn c κ pr fz σ.length ι K)
theorem tup_sq(ok:Cok c d){fz pr l:Led}{σ:Sto}{ι:Nat→Addr}{tr:Nat}{as:List V}{u:Value}{m:Mp}{h:Heap}(r:Rel c.w pr fz σ ι l)(F:Fr c.h₀ c.L h m)(N:News c.h₀ c.L h l)(k:ItOk c.w fz tr (.tup as) u h):∃T ws,u= .ref T∧h.IsTuple T (List.toArray ws)∧Reps c.w fz as ws:=by
 induction tr using Nat.casesOn with
 |succ n=>exact k.elim fun T k=>k.elim fun ws k=>k.elim fun vs k=>⟨T,ws,k.1,k.2.2.1,(V.tup.inj k.2.1)▸k.2.2.2.1⟩
 |zero=>exact(conts_at ok (a:= .tup as) rfl r (.dat k)).elim fun T k=>k.elim fun ws k=>⟨T,ws,k.1,k.2.2 m h F N,k.2.1⟩
theorem two_r{w:World}{fz:Led}{a b:V}{ws:List Value}(h:Reps w fz [a,b] ws):∃u v,ws=[u,v]∧Rep w fz a u∧Rep w fz b v:=by
 cases h with
 |cons h1 h=>cases h with
  |cons h2 h=>cases h with
   |nil=>exact⟨_,_,rfl,h1,h2⟩
theorem wNest.ok{as:List V}{ts:List PySem.Expr}{n kk:Nat}{tp:Pos}(ok:Cok c d){pr fz:Led}{m:Mp}{ι:Nat→Addr}{l:Led}{u:Value}{pre:Heap→Prop}(h:wNest sc.names κ ρ σ Kn as ts)(hp:∀h,pre h→ItOk c.w fz (n+1) (.tup as) u h)(hl:Lm c.w fz σ.length ι ρ m)(hk:Kp c κ σ.length ι)(r:Rel c.w pr fz σ ι l):
  TAP c m l (.Tuple ts kk tp) u pre (Pn c κ pr fz σ.length ι Kn):=
 onCons.el (C:=fun ts=>TAP c m l (.Tuple ts kk tp) u pre (Pn c κ pr fz σ.length ι Kn)) h fun t rr h=>onName.el (C:=fun t=>TAP c m l (.Tuple (t::rr) kk tp) u pre (Pn c κ pr fz σ.length ι Kn)) h fun x px h=>
  on1.el (C:=fun rr=>TAP c m l (.Tuple (.Name x px::rr) kk tp) u pre (Pn c κ pr fz σ.length ι Kn)) h fun t2 h=>onTup.el (C:=fun t2=>TAP c m l (.Tuple [.Name x px,t2] kk tp) u pre (Pn c κ pr fz σ.length ι Kn)) h fun us k2 p2 h=>by
   obtain⟨p,ep,h⟩:=optK.ok h
   rw[two.ok ep] at hp
   refine TAP.nest (fun hh q=>?_) rfl rfl rfl
   refine(hp hh q).elim fun T k=>k.elim fun ws k=>k.elim fun vs k=>?_
   have hr:Reps c.w fz [p.1,p.2] ws:=(V.tup.inj k.2.1)▸k.2.2.2.1
   obtain⟨w1,w2,ew,h1,h2⟩:=two_r hr
   subst ew
   refine⟨T,_,_,k.1,k.2.2.1,TB.mono (wBind.ok ok h pr fz m ι l _ (.dat h1) hl hk r) fun m1 l1 z=>z.elim fun ι1 fz1 ρ1 σ1 k1 hl1 r1 g1 n1 x1=>?_⟩
   obtain⟨ys,e4,k2⟩:=optK.ok k1
   obtain⟨vs,e5,k3⟩:=optK.ok k2
   rw[unN.ok e4]
   have h2:=h2.mono x1.sub
   rw[tupC.ok e5] at h2
   refine TAP.sq (fun hh F N q=>(tup_sq ok r1 F N (tr:=0) h2).elim fun T k=>k.elim fun ws k=>⟨T,ws,true,k.1,k.2.1,by rw[←k.2.2.length,wBinds.len wBind.some k3,List.length_map],TBs.mono (wBinds.ok ok k3 pr fz1 m1 ι1 l1 ws k.2.2.q hl1 (hk.grow g1 n1) r1) fun m2 l2 z=>z.elim fun ι2 fz2 ρ2 σ2 k4 hl2 r2 g2 n2 x2=> .mk ι2 fz2 ρ2 σ2 k4 hl2 r2 (g1.trans g2 n1) (Nat.le_trans n1 n2) (x1.trans x2)⟩) (assignEach_nm ys).1 (assignEach_nm ys).2
theorem wTg.ok{tgt:PySem.Expr}{tr:Nat}{a:V}(ok:Cok c d)(h:wTg sc.names κ tr a ρ σ Kn tgt):ATg c κ tgt tr a ρ σ Kn:=fun pr fz m ι l u pre hp hl hk r=>
 cond_el h (fun o1_ h=>onTup.el (C:=fun tgt=>TAP c m l tgt u pre (Pn c κ pr fz σ.length ι Kn)) h fun ts kk tp h=>by
  obtain⟨as,e,h1⟩:=optK.ok h
  rw[tupC.ok e] at hp
  cases e1:unN ts with
  |some xs=>
   rw[e1] at h1
   have h:wBinds sc.names κ (xs.map (·.1)) as ρ σ Kn:=h1
   rw[unN.ok e1]
   exact TAP.sq (fun hh F N q=>(tup_sq ok r F N (hp hh q)).elim fun T k=>k.elim fun ws k=>⟨T,ws,true,k.1,k.2.1,by rw[←k.2.2.length,wBinds.len wBind.some h,List.length_map],wBinds.ok ok h pr fz m ι l ws k.2.2.q hl hk r⟩) (assignEach_nm xs).1 (assignEach_nm xs).2
  |none=>
   rw[e1] at h1
   induction tr using Nat.casesOn with
   |zero=>exact h1.elim
   |succ n=>exact wNest.ok ok h1 hp hl hk r)
  fun o1_ h=>onName.el (C:=fun tgt=>TAP c m l tgt u pre (Pn c κ pr fz σ.length ι Kn)) h fun x px h=>by
   induction tr using Nat.casesOn with
   |succ n=>exact h.elim
   |zero=>exact TAP.nameP fun z=>wBind.ok ok (show wBind sc.names κ x a ρ σ Kn from h) pr fz m ι l u (.dat (z.elim fun hh q=>hp hh q)) hl hk r
end
section
variable {sc:Scope} {c:Cx sc} {d:Nat} {κ:List (Str×Nat)} {ρ:List (Str×V)} {σ:Sto} {Kn Kb:List (Str×V)→Sto→Prop} {Kr:V→Sto→Prop}
noncomputable def ASb{sc:Scope}(c:Cx sc)(κ:List (Str×Nat))(ρ:List (Str×V))(σ:Sto)(b:List Stmt)(Kn Kb:List (Str×V)→Sto→Prop)(Kr:V→Sto→Prop):Prop:=
 ∀pr fz m ι l,Lm c.w fz σ.length ι ρ m→Kp c κ σ.length ι→Rel c.w pr fz σ ι l→TSb c m l b (Pn c κ pr fz σ.length ι Kn) (Pn c κ pr fz σ.length ι Kb) (Pk c.w pr fz σ.length ι Kr)
theorem AS.b{b:List Stmt}(h:AS c κ ρ σ b Kn Kr):ASb c κ ρ σ b Kn Kb Kr:=fun pr fz m ι l hl hk r s Q E pe F N q k kb=>h pr fz m ι l hl hk r s Q E pe F N q k
theorem ASb.brk(ok:Cok c d){t:PySem.Expr}{b:List Stmt}{bp ip:Pos}(h:AT c c.env (fX sc.names κ ρ) t σ fun z σ1=>cond z (Kb ρ σ1) (AS c κ ρ σ1 b Kn Kr)):ASb c κ ρ σ (.If t [.Break bp] [] ip::b) Kn Kb Kr:=fun pr fz m ι l hl hk r=>
 TSb.brk (TT.mono (h pr fz m ι l (nm_def ok hl hk) r) fun z l' p=>p.elim fun ι1 fz1 σ1 k r1 g1 n1 x1=>by
  cases z
  ·exact(k pr fz1 m ι1 l' (hl.grow x1.sub g1 n1) (hk.grow g1 n1) r1).trans g1 n1 x1
  ·exact .mk ι1 fz1 ρ σ1 k (hl.grow x1.sub g1 n1) r1 g1 n1 x1)
noncomputable def AF{sc:Scope}(c:Cx sc)(κ:List (Str×Nat))(tgt:PySem.Expr)(tr:Nat)(body:List Stmt)(N₀:Nat)(Kx:List (Str×V)→Sto→Prop)(Kr:V→Sto→Prop):List V→List (Str×V)→Sto→Prop
 |[],ρ,σ=>Kx ρ σ
 |a::r,ρ,σ=>ATg c κ tgt tr a ρ σ fun ρ1 σ1=>ASb c κ ρ1 σ1 body (fun ρ2 σ2=>optK (fun τ=>optK (fun ρ3=>AF c κ tgt tr body N₀ Kx Kr r ρ3 τ) (cleanR N₀ σ2 ρ2)) (clS N₀ σ2)) Kx Kr
theorem Pk.of_own{w:World}{own pr fz0 fz:Led}{N M:Nat}{ι0 ι:Nat→Addr}{v:Value}{l':Led}(h:Pk w (own++pr) fz M ι Kr v l')(g:Agr N ι0 ι)(n:N≤M)(x:Ext pr fz0 fz):Pk w pr fz0 N ι0 Kr v l':=
 h.elim fun ι' fz' σ' a k hv r g' n' x'=> .mk ι' fz' σ' a k hv r.pr_of (g.trans g' n) (Nat.le_trans n n') (x.trans x'.of_app)
theorem AF.run(ok:Cok c d){tgt:PySem.Expr}{tr:Nat}{body r:List Stmt}{pr fz0:Led}{N N₀:Nat}{ι0:Nat→Addr}{Pv:Nat→Value→Heap→Prop}{src:List Addr}{all:List V}(hN:N≤N₀):
  ∀(as:List V) (i:Nat) (m:Mp) (l fz:Led) (ι:Nat→Addr) (ρ:List (Str×V)) (σ:Sto),all.drop i=as→(∀i u h,Pv i u h→∃a,all[i]?=some a∧ItOk c.w fz tr a u h)→σ.length=N₀→Lm c.w fz N₀ ι ρ m→Kp c κ N₀ ι→Rel c.w pr fz σ ι l→Agr N ι0 ι→Ext pr fz0 fz→(∀b∈src,InA fz b)→
   AF c κ tgt tr body N₀ (fun ρ' σ'=>AS c κ ρ' σ' r Kn Kr) Kr as ρ σ→FTG c tgt body (fun m' l''=>TS c c.env m' l'' r (Pn c κ pr fz0 N ι0 Kn) (Pk c.w pr fz0 N ι0 Kr)) (Pk c.w pr fz0 N ι0 Kr) Pv src as.length i m l:=by
 intro as
 induction as with
 |nil=>
  intro i m l fz ι ρ σ ha hi hl hL hk rl g x hs h
  exact(h pr fz m ι l (hl▸hL) (hl▸hk) rl).trans g (hl▸hN) x
 |cons a as ih=>
  intro i m l fz ι ρ σ ha hi hl hL hk rl g x hs h
  subst hl
  have hat:all[i]?=some a:=by
   have:=List.getElem?_drop (xs:=all) (i:=i) (j:=0)
   rw[ha] at this
   exact this.symm
  have hdrop:all.drop (i+1)=as:=by
   rw[←List.drop_drop,ha];rfl
  intro v own l1 so sl fo s Q E F N' hpre q
  have r1:=rl.own_in sl so fo hs
  refine h (own++pr) fz m ι l1 v (Pv i v) (fun hh z=>(hi i v hh z).elim fun a' p=>Option.some.inj (p.1.symm.trans hat)▸p.2) hL hk r1 s Q E F N' hpre fun m2 l2 h2 tk2 p F2 N2=>q m2 l2 h2 tk2 (p.elim fun ι2 fz2 ρ2 σ2 k2 hl2 r2 g2 n2 x2=>?_) F2 N2
  intro s Q E pe F N' q k kb
  refine k2 (own++pr) fz2 m2 ι2 l2 hl2 (hk.grow g2 n2) r2 s Q E pe F N' (fun v' m3 l3 h3 tk3 p=>q v' m3 l3 h3 tk3 (p.of_own (g.trans g2 hN) (Nat.le_trans hN n2) (x.trans x2.of_app))) (fun m3 l3 h3 tk3 p=>k m3 l3 h3 tk3 (p.elim fun ι3 fz3 ρ3 σ3 k3 hl3 r3 g3 n3 x3=>?_)) (fun m3 l3 h3 tk3 p=>kb m3 l3 h3 tk3 (p.elim fun ι3 fz3 ρ3 σ3 k3 hl3 r3 g3 n3 x3=>?_))
  ·obtain⟨τ,e1,k4⟩:=optK.ok k3
   obtain⟨ρ4,e2,k5⟩:=optK.ok k4
   have C:=r3.clean e1
   have G:Agr σ.length ι ι3:=g2.trans g3 n2
   refine⟨fun p hp=>r3.subp p (List.mem_append_left _ hp),fun l4 bk=>?_⟩
   have X:=x2.trans x3
   have R4:=rl.own_out C.1 G X C.2 fo bk
   exact ih (i+1) m3 l4 fz3 ι3 ρ4 τ hdrop (fun i u h z=>(hi i u h z).imp fun a p=>⟨p.1,p.2.mono X.sub⟩) C.2 (hl3.clean r3 e2) (hk.grow G (Nat.le_refl _)) R4 (g.trans G hN) (x.trans X.of_app) (fun b hb=>(hs b hb).imp fun o ho=>X.sub _ ho) k5
  ·have G:Agr σ.length ι ι3:=g2.trans g3 n2
   exact(k3 pr fz3 m3 ι3 l3 hl3 (hk.grow G (Nat.le_trans n2 n3)) r3.pr_of).trans (g.trans G hN) (Nat.le_trans hN (Nat.le_trans n2 n3)) (x.trans (x2.trans x3).of_app)
theorem AS.for(ok:Cok c d){tgt iter:PySem.Expr}{body r:List Stmt}{pos:Pos}(h:AI c c.env (fX sc.names κ ρ) tgt iter σ fun tr as σ1=>AF c κ tgt tr body σ1.length (fun ρ' σ'=>AS c κ ρ' σ' r Kn Kr) Kr as ρ σ1)
  (hs:∀x,foldedSetIterable iter c.env x=pure x):AS c κ ρ σ (.For tgt iter body [] pos::r) Kn Kr:=fun pr fz m ι l hl hk rl=>
 TS.forG ((h pr fz m ι l (nm_def ok hl hk) rl).mono fun v l' p=>p.elim fun ι1 fz1 σ1 tr as Pv src l₀ k r1 g1 n1 x1 it hsrc hi=>
  ⟨as.length,Pv,src,l₀,it,fun b hb=>(hsrc b hb).imp fun o ho=>r1.subf _ ho,AF.run ok n1 as 0 m l₀ fz1 ι1 ρ σ1 rfl hi rfl (hl.grow x1.sub g1 n1) (hk.grow g1 n1) r1 g1 x1 hsrc k⟩) hs
end
noncomputable def All:List Addr→(Addr→Prop)→Prop
 |[],_=>True
 |a::r,P=>P a∧All r P
theorem All.mem{P:Addr→Prop}:∀{l:List Addr},All l P→∀b∈l,P b
 |_::_,h,b,hb=>by
  cases hb with
  |head=>exact h.1
  |tail o1_ hb=>exact All.mem h.2 b hb
section
variable {sc:Scope} {c:Cx sc} {env:Env} {m:Mp} {l:Led} {P:VP} {d:Nat} {fz:Led}
theorem IterAt.of{tgt:PySem.Expr}{n:Nat}{Pv:Nat→Value→Heap→Prop}{src:List Addr}{s:Shared}{I:Addr}{fp wr:List Addr}{Md:Nat→Value→Heap→Prop}{St:Nat→Heap→Prop}
  (W:PySem.W.KTurns PRG c.w c.A tgt I fp wr n Pv Md St)(self:∀i (s:Shared) (Q E:Value→Shared→Prop),St i s.heap→Q (.ref I) s→wpAny (MD c.w) c.A (pyIter (.ref I)) Q E s)
  (ex:∀i h,St i h→All fp fun b=>∃o,h.get? b=some o)(st:St 0 s.heap)(nL:All fp fun b=>b≠c.L)(hid:All wr fun b=>c.h₀.get? b=none)(sr:All fp fun b=>FreshAt b l∨b∈src)(F:Fr c.h₀ c.L s.heap m)(N:News c.h₀ c.L s.heap l)(off:All wr fun b=>FreshAt b l):
  IterAt c tgt m l n Pv src s I fp wr Md St:=
 ⟨W,self,fun i h hst=>(ex i h hst).mem,st,fun b hb=>((ex 0 _ st).mem b hb).elim fun o e=>Heap.lt_size e,fun hb=>nL.mem _ hb rfl,hid.mem,sr.mem,F,N,fun p hp hb=>off.mem _ hb p hp rfl⟩
structure Src{sc:Scope}(c:Cx sc)(fz l:Led)(t:Bool)(A:Addr)(ws:List Value)(src:List Addr):Prop where
 sq:SqAt c l t A ws
 in':∀m h,Fr c.h₀ c.L h m→News c.h₀ c.L h l→FreshAt A l∨A∈src
 hs:∀b∈src,InA fz b
theorem Src.get{t:Bool}{A:Addr}{ws:List Value}{src:List Addr}(S:Src c fz l t A ws src){h:Heap}(F:Fr c.h₀ c.L h m)(N:News c.h₀ c.L h l):∃o n,h.get? A=some o∧o.data= .seq ws.toArray n:=by
 have:=S.sq m h F N
 cases t with
 |true=>exact this.elim fun o p=>p.2.2.elim fun n e=>⟨o,n,p.1,e⟩
 |false=>exact this.elim fun o p=>p.2.2.elim fun n e=>⟨o,n,p.1,e⟩
theorem Src.nL{t:Bool}{A:Addr}{ws:List Value}{src:List Addr}(S:Src c fz l t A ws src){h:Heap}(F:Fr c.h₀ c.L h m)(N:News c.h₀ c.L h l):A≠c.L:=fun e=>by
 obtain⟨o,n,g,ed⟩:=S.get F N
 obtain⟨o',es,ep,g',ed',o1_⟩:=F.ns
 rw[e,g'] at g
 cases g
 rw[ed'] at ed
 exact nomatch ed
theorem Src.lt{t:Bool}{A:Addr}{ws:List Value}{src:List Addr}(S:Src c fz l t A ws src){h:Heap}(F:Fr c.h₀ c.L h m)(N:News c.h₀ c.L h l):A<h.objs.size:=(S.get F N).elim fun o p=>p.elim fun n p=>Heap.lt_size p.1
theorem src_of{σ:Sto}{ι:Nat→Addr}{pr:Led}{a:V}{u:Value}{vs:List V}(ok:Cok c d)(h:conts σ a=some vs)(r:Rel c.w pr fz σ ι l)(hu:Rep c.w fz a u):∃A ws src,u= .ref A∧Reps c.w fz vs ws∧Src c fz l (isTp a) A ws src:=by
 cases hu with
 |tup hm hr=>cases Option.some.inj h;exact⟨_,_,[_],rfl,hr,fun m h F N=>⟨_,(N _ (r.subf _ hm)).1,rfl,_,rfl⟩,fun m h F N=> .inr (.head _),fun b hb=>by cases hb with
  |head=>exact⟨_,hm⟩
  |tail o1_ hb=>cases hb⟩
 |lst hm hd hr=>cases Option.some.inj h;exact⟨_,_,[_],rfl,hr,.lst (r.subf _ hm) hd,fun m h F N=> .inr (.head _),fun b hb=>by cases hb with
  |head=>exact⟨_,hm⟩
  |tail o1_ hb=>cases hb⟩
 |base hm hr=>
  cases h
  obtain⟨dd,nn,sl,hm⟩:=hm
  exact⟨_,_,[],rfl,hr,fun m h F N=>⟨_,ok.X.keeps F.keep _ _ hm,rfl,_,rfl⟩,fun m h F N=> .inl fun p hp e=>(by have:=(N p hp).2.2;rw[e,ok.X _ _ hm] at this;exact nomatch this),fun b hb=>by cases hb⟩
 |_=>exact nomatch h
theorem TIter.sq{tgt:PySem.Expr}{t:Bool}{A:Addr}{ws:List Value}{src:List Addr}(S:Src c fz l t A ws src):TIter c tgt m l l (.ref A) ws.length (fun i v o1_=>ws[i]?=some v) src:=fun s Q E F N q=>by
 have hl:=S.sq m _ F N
 have hlt:=S.lt F N
 have hne:A≠s.heap.objs.size:=Nat.ne_of_lt hlt
 have nL:=S.nL F N
 have fI:FreshAt s.heap.objs.size l:=fun p hp=>Nat.ne_of_lt (Heap.lt_size (N p hp).1)
 have nI:s.heap.objs.size≠c.L:=Nat.ne_of_gt F.ns.lt
 cases t with
 |false=>
  refine wpAny_pyIter_list hl ?_
  have up:∀b o,s.heap.get? b=some o→(s.heap.push {cls:= .type "list_iterator",data:= .fields #[.ref A,.int 0 0]}).get? b=some o:=fun b o e=>Heap.get?_push_of_some _ e
  have W:=Walks.list (prog:=PRG) (w:=c.w) (A:=c.A) (by rfl) s.heap.objs.size A hne ws.toArray
  have K:=KT.map (P':=fun i v o1_=>ws[i]?=some v) (PySem.W.KTurns.ofWalks (target:=tgt) W fun i v s Q E st q=>letGo_listiter st.1 q) fun i v h e=>by simpa using e
  rw[List.size_toArray] at K
  exact q s.heap.objs.size [s.heap.objs.size,A] [s.heap.objs.size] _ _ _ (.of K (fun i s Q E st q=>W.self i s Q E st q) (fun i h st=>⟨st.1.elim fun o p=>⟨o,p.1⟩,st.2.elim fun o p=>⟨o,p.1⟩,trivial⟩) ⟨⟨_,Heap.get?_push_size _ rfl,rfl,rfl⟩,hl.at fun o e=>up _ o e⟩ ⟨nI,nL,trivial⟩ ⟨next_is_new F,trivial⟩ ⟨.inl fI,S.in' m _ F N,trivial⟩ (F.keeps up) (N.grown up) ⟨fI,trivial⟩)
 |true=>
  refine wpAny_pyIter_tuple hl ?_
  have up:∀b o,s.heap.get? b=some o→(s.heap.push {cls:= .type "tuple_iterator",data:= .fields #[.ref A,.int 0 0]}).get? b=some o:=fun b o e=>Heap.get?_push_of_some _ e
  have W:=Walks.tuple (prog:=PRG) (w:=c.w) (A:=c.A) (by rfl) s.heap.objs.size A hne ws.toArray
  have K:=KT.map (P':=fun i v o1_=>ws[i]?=some v) (PySem.W.KTurns.ofWalks (target:=tgt) W fun i v s Q E st q=>letGo_tupleiter st.1 q) fun i v h e=>by simpa using e
  rw[List.size_toArray] at K
  exact q s.heap.objs.size [s.heap.objs.size,A] [s.heap.objs.size] _ _ _ (.of K (fun i s Q E st q=>W.self i s Q E st q) (fun i h st=>⟨st.1.elim fun o p=>⟨o,p.1⟩,st.2.elim fun o p=>⟨o,p.1⟩,trivial⟩) ⟨⟨_,Heap.get?_push_size _ rfl,rfl,rfl⟩,hl.at fun o e=>up _ o e⟩ ⟨nI,nL,trivial⟩ ⟨next_is_new F,trivial⟩ ⟨.inl fI,S.in' m _ F N,trivial⟩ (F.keeps up) (N.grown up) ⟨fI,trivial⟩)
theorem TIter.rng{x:Str}{px:Pos}{r:Addr}{n:Nat}{t u v:Tok}(hm:(r,rangeO 0 n t u v)∈l)(hz:n≤1000):TIter c (.Name x px) m l l (.ref r) n (fun i v o1_=>i<n∧∃t,v= .int (0+(i:Int)) t) []:=fun s Q E F N q=>by
 have hr:IsRange s.heap r 0 n 1 t u v:=(N _ hm).1
 have hsm:Builtin.Range.small 0 (n:Int) 1=true:=small_one (by decide) (by decide) (by omega) (by omega)
 have hrs:Builtin.Range.rangeSize 0 (n:Int) 1=(n:Int):=by
  unfold Builtin.Range.rangeSize
  rw[if_pos (by decide)]
  split <;> omega
 refine wpAny_pyIter_range hr hsm ?_
 rw[hrs]
 have up:∀b o,s.heap.get? b=some o→(s.heap.push {cls:= .type "range_iterator",data:= .fields #[rawInt 0,rawInt (n:Int),rawInt 1]}).get? b=some o:=fun b o e=>Heap.get?_push_of_some _ e
 have fI:FreshAt s.heap.objs.size l:=fun p hp=>Nat.ne_of_lt (Heap.lt_size (N p hp).1)
 have W:=LCg.range_walks (prog:=PRG) (w:=c.w) (A:=c.A) (I:=s.heap.objs.size) (by rfl) 0 n
 have W':Walks PRG c.w c.A s.heap.objs.size [s.heap.objs.size] [s.heap.objs.size] n (fun i v=>i<n∧∃t,v= .int (0+(i:Int)) t) _:={W with item:=fun i s Q E hi st hQ=>W.item i s Q E hi st fun v h' tk hP=>hQ v h' tk ⟨hi,hP⟩}
 have K:=KT.name (c:=c) (x:=x) (p:=px) W' fun i v s Q E st q=>wpAny_pure q
 refine q s.heap.objs.size [s.heap.objs.size] [s.heap.objs.size] _ _ _ (.of K (fun i s Q E st q=>W.self i s Q E st q) (fun i h st=>⟨⟨_,st⟩,trivial⟩) ?_ ⟨Nat.ne_of_gt F.ns.lt,trivial⟩ ⟨next_is_new F,trivial⟩ ⟨.inl fI,trivial⟩ (F.keeps up) (N.grown up) ⟨fI,trivial⟩)
 have:IsRangeIter (s.heap.push {cls:= .type "range_iterator",data:= .fields #[rawInt 0,rawInt (n:Int),rawInt 1]}) s.heap.objs.size 0 (n:Int) 1:=Heap.get?_push_size _ rfl
 simpa using this
theorem new_at(F:Fr c.h₀ c.L (h:Heap) m):(∀k,c.h₀.get? (h.objs.size+k)=none)∧(∀k,h.objs.size+k≠c.L)∧(News c.h₀ c.L h l→∀k,FreshAt (h.objs.size+k) l):=
 ⟨fun k=>by
  cases e:c.h₀.get? (h.objs.size+k) with
  |none=>rfl
  |some o=>exact absurd (Heap.lt_size (F.keep _ _ e)) (Nat.not_lt.mpr (Nat.le_add_right _ _)),fun k=>Nat.ne_of_gt (Nat.lt_of_lt_of_le F.ns.lt (Nat.le_add_right _ _)),fun N k p hp=>Nat.ne_of_lt (Nat.lt_of_lt_of_le (Heap.lt_size (N p hp).1) (Nat.le_add_right _ _))⟩
theorem news_cons{h:Heap}{a:Addr}{o:Obj}(g:h.get? a=some o)(nL:a≠c.L)(nw:c.h₀.get? a=none)(N:News c.h₀ c.L h l):News c.h₀ c.L h ((a,o)::l):=fun p hp=>by
 cases hp with
 |head=>exact⟨g,nL,nw⟩
 |tail o1_ hp=>exact N p hp
theorem TC.zipL{a1 a2:Addr}{xs ys:List Value}{s1 s2:List Addr}(S1:Src c fz l false a1 xs s1)(S2:Src c fz l false a2 ys s2)
  (h:∀z TI TO i1 i2 o1 o2 l',ZipAt l' z a1 a2 TI TO i1 i2 o1 o2→Sub l l'→(FreshAt z l∧FreshAt TI l∧FreshAt TO l∧FreshAt i1 l∧FreshAt i2 l)→P (.ref z) l'):TC c m l (.type "zip") [.ref a1,.ref a2] P:=fun s Q E F N q=>by
 refine call_zip_2 (S1.sq m _ F N) (S2.sq m _ F N) fun h' hz hI hO g1 g2 hsz hk=>g1.elim fun o1 g1=>g2.elim fun o2 g2=>?_
 have nn:=new_at (l:=l) F
 have fr:=nn.2.2 N
 refine q _ ((s.heap.objs.size+4,zipO (s.heap.objs.size+2) (s.heap.objs.size+3))::(s.heap.objs.size+2,{cls:= .type "tuple",data:= .seq #[.ref s.heap.objs.size,.ref (s.heap.objs.size+1)]})::(s.heap.objs.size+3,{cls:= .type "tuple",data:= .seq #[.none,.none]})::(s.heap.objs.size,o1)::(s.heap.objs.size+1,o2)::l) h' s.toks
  (h _ _ _ _ _ o1 o2 _ ⟨.head _,.tail _ (.head _),.tail _ (.tail _ (.head _)),.tail _ (.tail _ (.tail _ (.head _))),.tail _ (.tail _ (.tail _ (.tail _ (.head _)))),g1.2,g2.2,PySem.W.ktu_apart _ _ _ (S1.lt F N) (S2.lt F N)⟩ (fun p hp=> .tail _ (.tail _ (.tail _ (.tail _ (.tail _ hp))))) ⟨fr 4,fr 2,fr 3,fr 0,fr 1⟩) (F.keeps hk)
  (news_cons hz (nn.2.1 4) (nn.1 4) (news_cons hI (nn.2.1 2) (nn.1 2) (news_cons hO (nn.2.1 3) (nn.1 3) (news_cons g1.1 (nn.2.1 0) (nn.1 0) (news_cons g2.1 (nn.2.1 1) (nn.1 1) fun p hp=>⟨hk _ _ (N p hp).1,(N p hp).2⟩)))))
theorem or_app{A:Addr}{Q:Prop}{s1 s2:List Addr}:(Q∨A∈s1→Q∨A∈s1++s2)∧(Q∨A∈s2→Q∨A∈s1++s2):=⟨fun h=>h.imp id (List.mem_append_left _),fun h=>h.imp id (List.mem_append_right _)⟩
theorem TIter.zipL{elts:List PySem.Expr}{kk:Nat}{tp:Pos}{l':Led}{z a1 a2 TI TO i1 i2:Addr}{o1 o2:Obj}{xs ys:List Value}{s1 s2:List Addr}(Z:ZipAt l' z a1 a2 TI TO i1 i2 o1 o2)(S1:Src c fz l false a1 xs s1)(S2:Src c fz l false a2 ys s2)(sl:Sub l l')
  (f:FreshAt z l∧FreshAt TI l∧FreshAt TO l∧FreshAt i1 l∧FreshAt i2 l):
  TIter c (.Tuple elts kk tp) m l' l (.ref z) (min xs.length ys.length) (fun i v h=>∃T x y,v= .ref T∧h.IsTuple T #[x,y]∧xs[i]?=some x∧ys[i]?=some y) (s1++s2):=fun s Q E F N' q=>by
 have N:News c.h₀ c.L s.heap l:=fun p hp=>N' p (sl p hp)
 have gz:=N' _ Z.mz
 have gI:=N' _ Z.mI
 have gO:=N' _ Z.mO
 have g1:=N' _ Z.m1
 have g2:=N' _ Z.m2
 refine wpAny_pyIter_zip (f0:= .none) gz.1 ?_
 have W:=WalksT.zip2 (prog:=PRG) (w:=c.w) (A:=c.A) (by rfl) z TI TO i1 i2 a1 a2 Z.ap xs.toArray ys.toArray
 have K:=KT.map (P':=fun i v h=>∃T x y,v= .ref T∧h.IsTuple T #[x,y]∧xs[i]?=some x∧ys[i]?=some y) (PySem.W.KTurns.ofWalksU (elts:=elts) (k:=kk) (pos:=tp) W.toU) fun i v h hP=>by
  obtain⟨T,vals,rfl,⟨x,y,hx,hy,rfl⟩,hT⟩:=hP
  exact⟨T,x,y,rfl,hT,by simpa using hx,by simpa using hy⟩
 rw[List.size_toArray,List.size_toArray] at K
 exact q z [z,TI,TO,i1,i2,a1,a2] [z,TO,i1,i2] _ _ s.heap (.of K (fun i s Q E st q=>W.self i s Q E st q)
  (fun i h st=>⟨⟨_,st.1⟩,⟨_,st.2.1⟩,st.2.2.1.elim fun x p=>p.elim fun y p=>⟨_,p⟩,st.2.2.2.1.elim fun o p=>⟨o,p.1⟩,st.2.2.2.2.1.elim fun o p=>⟨o,p.1⟩,st.2.2.2.2.2.1.elim fun o p=>⟨o,p.1⟩,st.2.2.2.2.2.2.elim fun o p=>⟨o,p.1⟩,trivial⟩)
  ⟨gz.1,gI.1,⟨_,_,gO.1⟩,⟨o1,g1.1,Z.d1.1,Z.d1.2⟩,⟨o2,g2.1,Z.d2.1,Z.d2.2⟩,S1.sq m _ F N,S2.sq m _ F N⟩ ⟨gz.2.1,gI.2.1,gO.2.1,g1.2.1,g2.2.1,S1.nL F N,S2.nL F N,trivial⟩ ⟨gz.2.2,gO.2.2,g1.2.2,g2.2.2,trivial⟩
  ⟨.inl f.1,.inl f.2.1,.inl f.2.2.1,.inl f.2.2.2.1,.inl f.2.2.2.2,or_app.1 (S1.in' m _ F N),or_app.2 (S2.in' m _ F N),trivial⟩ F N ⟨f.1,f.2.2.1,f.2.2.2.1,f.2.2.2.2,trivial⟩)
theorem TC.zipT{a1 a2 a3:Addr}{xs ys us:List Value}{s1 s2 s3:List Addr}(S1:Src c fz l true a1 xs s1)(S2:Src c fz l true a2 ys s2)(S3:Src c fz l true a3 us s3)
  (h:∀z TI TO i1 i2 i3 o1 o2 o3 l',Zip3At l' z a1 a2 a3 TI TO i1 i2 i3 o1 o2 o3→Sub l l'→(FreshAt z l∧FreshAt TI l∧FreshAt TO l∧FreshAt i1 l∧FreshAt i2 l∧FreshAt i3 l)→P (.ref z) l'):TC c m l (.type "zip") [.ref a1,.ref a2,.ref a3] P:=fun s Q E F N q=>by
 refine callType_new PySem.F.called_zip (by decide) (typeCall_zip_3 _ _ _) (newCall_zip_3 _ _ _) (fun obj=>args_object_init_4 obj _ _ _) PySem.F.entry_zip_new (meets_zip3 a1 a2 a3 xs.toArray ys.toArray us.toArray) ⟨S1.sq m _ F N,S2.sq m _ F N,S3.sq m _ F N,?_⟩
 have z1:(z3i s.heap a1).objs.size=s.heap.objs.size+1:=Heap.size_push ..
 have z2:(z3i (z3i s.heap a1) a2).objs.size=s.heap.objs.size+2:=by rw[Heap.size_push,z1]
 have z3:(z3i (z3i (z3i s.heap a1) a2) a3).objs.size=s.heap.objs.size+3:=by rw[Heap.size_push,z2]
 rw[z1,z2,z3]
 have k3:∀b o,s.heap.get? b=some o→(z3i (z3i (z3i s.heap a1) a2) a3).get? b=some o:=fun b o e=>Heap.get?_push_of_some _ (Heap.get?_push_of_some _ (Heap.get?_push_of_some _ e))
 have g1:(z3i (z3i (z3i s.heap a1) a2) a3).get? s.heap.objs.size=some {cls:= .type "tuple_iterator",data:= .fields #[.ref a1,.int 0 0]}:=Heap.get?_push_of_some _ (Heap.get?_push_of_some _ (Heap.get?_push_size _ rfl))
 have g2:(z3i (z3i (z3i s.heap a1) a2) a3).get? (s.heap.objs.size+1)=some {cls:= .type "tuple_iterator",data:= .fields #[.ref a2,.int 0 0]}:=by rw[←z1];exact Heap.get?_push_of_some _ (Heap.get?_push_size _ rfl)
 have g3:(z3i (z3i (z3i s.heap a1) a2) a3).get? (s.heap.objs.size+2)=some {cls:= .type "tuple_iterator",data:= .fields #[.ref a3,.int 0 0]}:=by rw[←z2];exact Heap.get?_push_size _ rfl
 generalize z3i (z3i (z3i s.heap a1) a2) a3=H3 at z3 k3 g1 g2 g3 ⊢
 have z4:(z3t H3 s.heap.objs.size (s.heap.objs.size+1) (s.heap.objs.size+2)).objs.size=s.heap.objs.size+4:=by rw[Heap.size_push,z3]
 have g4:(z3t H3 s.heap.objs.size (s.heap.objs.size+1) (s.heap.objs.size+2)).get? (s.heap.objs.size+3)=some {cls:= .type "tuple",data:= .seq #[.ref s.heap.objs.size,.ref (s.heap.objs.size+1),.ref (s.heap.objs.size+2)]}:=by rw[←z3];exact Heap.get?_push_size _ rfl
 have k4:∀b o,H3.get? b=some o→(z3t H3 s.heap.objs.size (s.heap.objs.size+1) (s.heap.objs.size+2)).get? b=some o:=fun b o e=>Heap.get?_push_of_some _ e
 rw[z4]
 generalize z3t H3 s.heap.objs.size (s.heap.objs.size+1) (s.heap.objs.size+2)=H4 at z4 g4 k4 ⊢
 have z5:(z3o H4).objs.size=s.heap.objs.size+5:=by rw[Heap.size_push,z4]
 have g5:(z3o H4).get? (s.heap.objs.size+4)=some {cls:= .type "tuple",data:= .seq #[.none,.none,.none]}:=by rw[←z4];exact Heap.get?_push_size _ rfl
 have k5:∀b o,H4.get? b=some o→(z3o H4).get? b=some o:=fun b o e=>Heap.get?_push_of_some _ e
 rw[z5]
 generalize z3o H4=H5 at z5 g5 k5 ⊢
 have g6:(H5.push (zipO (s.heap.objs.size+3) (s.heap.objs.size+4))).get? (s.heap.objs.size+5)=some (zipO (s.heap.objs.size+3) (s.heap.objs.size+4)):=by rw[←z5];exact Heap.get?_push_size _ rfl
 have k6:∀b o,H5.get? b=some o→(H5.push (zipO (s.heap.objs.size+3) (s.heap.objs.size+4))).get? b=some o:=fun b o e=>Heap.get?_push_of_some _ e
 have nn:=new_at (l:=l) F
 have fr:=nn.2.2 N
 have up:∀b o,H3.get? b=some o→(H5.push (zipO (s.heap.objs.size+3) (s.heap.objs.size+4))).get? b=some o:=fun b o e=>k6 _ _ (k5 _ _ (k4 _ _ e))
 refine⟨⟨_,g6,rfl⟩,?_⟩
 refine q _ ((s.heap.objs.size+5,zipO (s.heap.objs.size+3) (s.heap.objs.size+4))::(s.heap.objs.size+3,{cls:= .type "tuple",data:= .seq #[.ref s.heap.objs.size,.ref (s.heap.objs.size+1),.ref (s.heap.objs.size+2)]})::(s.heap.objs.size+4,{cls:= .type "tuple",data:= .seq #[.none,.none,.none]}) ::
  (s.heap.objs.size,{cls:= .type "tuple_iterator",data:= .fields #[.ref a1,.int 0 0]})::(s.heap.objs.size+1,{cls:= .type "tuple_iterator",data:= .fields #[.ref a2,.int 0 0]})::(s.heap.objs.size+2,{cls:= .type "tuple_iterator",data:= .fields #[.ref a3,.int 0 0]})::l) _ s.toks
  (h _ _ _ _ _ _ _ _ _ _ ⟨.head _,.tail _ (.head _),.tail _ (.tail _ (.head _)),.tail _ (.tail _ (.tail _ (.head _))),.tail _ (.tail _ (.tail _ (.tail _ (.head _)))),.tail _ (.tail _ (.tail _ (.tail _ (.tail _ (.head _))))),⟨rfl,rfl⟩,⟨rfl,rfl⟩,⟨rfl,rfl⟩,z3_apart _ (S1.lt F N) (S2.lt F N) (S3.lt F N)⟩
   (fun p hp=> .tail _ (.tail _ (.tail _ (.tail _ (.tail _ (.tail _ hp)))))) ⟨fr 5,fr 3,fr 4,fr 0,fr 1,fr 2⟩) (F.keeps fun b o e=>up _ _ (k3 _ _ e))
  (news_cons g6 (nn.2.1 5) (nn.1 5) (news_cons (k6 _ _ (k5 _ _ g4)) (nn.2.1 3) (nn.1 3) (news_cons (k6 _ _ g5) (nn.2.1 4) (nn.1 4) (news_cons (up _ _ g1) (nn.2.1 0) (nn.1 0) (news_cons (up _ _ g2) (nn.2.1 1) (nn.1 1) (news_cons (up _ _ g3) (nn.2.1 2) (nn.1 2) fun p hp=>⟨up _ _ (k3 _ _ (N p hp).1),(N p hp).2⟩))))))
theorem TIter.zipT{elts:List PySem.Expr}{kk:Nat}{tp:Pos}{l':Led}{z a1 a2 a3 TI TO i1 i2 i3:Addr}{o1 o2 o3:Obj}{xs ys us:List Value}{s1 s2 s3:List Addr}(Z:Zip3At l' z a1 a2 a3 TI TO i1 i2 i3 o1 o2 o3)(S1:Src c fz l true a1 xs s1)(S2:Src c fz l true a2 ys s2)(S3:Src c fz l true a3 us s3)
  (e2:ys.length=xs.length)(e3:us.length=xs.length)(sl:Sub l l')(f:FreshAt z l∧FreshAt TI l∧FreshAt TO l∧FreshAt i1 l∧FreshAt i2 l∧FreshAt i3 l):
  TIter c (.Tuple elts kk tp) m l' l (.ref z) xs.length (fun i v h=>∃T x y u,v= .ref T∧h.IsTuple T #[x,y,u]∧xs[i]?=some x∧ys[i]?=some y∧us[i]?=some u) (s1++(s2++s3)):=fun s Q E F N' q=>by
 have N:News c.h₀ c.L s.heap l:=fun p hp=>N' p (sl p hp)
 have gz:=N' _ Z.mz
 have gI:=N' _ Z.mI
 have gO:=N' _ Z.mO
 have g1:=N' _ Z.m1
 have g2:=N' _ Z.m2
 have g3:=N' _ Z.m3
 refine wpAny_pyIter_zip (f0:= .none) gz.1 ?_
 have W:=WalksT.zip3 (prog:=PRG) (w:=c.w) (A:=c.A) (by rfl) z TI TO i1 i2 i3 a1 a2 a3 Z.ap xs.toArray ys.toArray us.toArray (by simpa using e2) (by simpa using e3)
 have K:=KT.map (P':=fun i v h=>∃T x y u,v= .ref T∧h.IsTuple T #[x,y,u]∧xs[i]?=some x∧ys[i]?=some y∧us[i]?=some u) (PySem.W.KTurns.ofWalksU (elts:=elts) (k:=kk) (pos:=tp) W.toU) fun i v h hP=>by
  obtain⟨T,vals,rfl,⟨x,y,u,hx,hy,hu,rfl⟩,hT⟩:=hP
  exact⟨T,x,y,u,rfl,hT,by simpa using hx,by simpa using hy,by simpa using hu⟩
 rw[List.size_toArray] at K
 exact q z [z,TI,TO,i1,i2,i3,a1,a2,a3] [z,TO,i1,i2,i3] _ _ s.heap (.of K (fun i s Q E st q=>W.self i s Q E st q)
  (fun i h st=>⟨⟨_,st.1⟩,⟨_,st.2.1⟩,st.2.2.1.elim fun x p=>p.elim fun y p=>p.elim fun u p=>⟨_,p⟩,st.2.2.2.1.1.elim fun o p=>⟨o,p.1⟩,st.2.2.2.1.2.1.elim fun o p=>⟨o,p.1⟩,st.2.2.2.1.2.2.elim fun o p=>⟨o,p.1⟩,st.2.2.2.2.1.elim fun o p=>⟨o,p.1⟩,st.2.2.2.2.2.1.elim fun o p=>⟨o,p.1⟩,st.2.2.2.2.2.2.elim fun o p=>⟨o,p.1⟩,trivial⟩)
  ⟨gz.1,gI.1,⟨_,_,_,gO.1⟩,⟨⟨o1,g1.1,Z.d1.1,Z.d1.2⟩,⟨o2,g2.1,Z.d2.1,Z.d2.2⟩,⟨o3,g3.1,Z.d3.1,Z.d3.2⟩⟩,S1.sq m _ F N,S2.sq m _ F N,S3.sq m _ F N⟩ ⟨gz.2.1,gI.2.1,gO.2.1,g1.2.1,g2.2.1,g3.2.1,S1.nL F N,S2.nL F N,S3.nL F N,trivial⟩ ⟨gz.2.2,gO.2.2,g1.2.2,g2.2.2,g3.2.2,trivial⟩
  ⟨.inl f.1,.inl f.2.1,.inl f.2.2.1,.inl f.2.2.2.1,.inl f.2.2.2.2.1,.inl f.2.2.2.2.2,or_app.1 (S1.in' m _ F N),or_app.2 (or_app.1 (S2.in' m _ F N)),or_app.2 (or_app.2 (S3.in' m _ F N)),trivial⟩ F N ⟨f.1,f.2.2.1,f.2.2.2.1,f.2.2.2.2.1,f.2.2.2.2.2,trivial⟩)
theorem TC.enumS{a:Addr}{xs:List Value}{s1:List Addr}(S1:Src c fz l true a xs s1)
  (h:∀e it l',EnumAt l' e it a→Sub l l'→(FreshAt e l∧FreshAt it l)→P (.ref e) l'):TC c m l (.type "enumerate") [.ref a] P:=fun s Q E F N q=>by
 refine callType_new PySem.F.called_enumerate (by decide) (PySem.F.typeCall_enumerate_1 _) (PySem.F.newCall_enumerate_1 _) (fun obj=>PySem.F.args_object_init_2 obj _) PySem.F.entry_enumerate_new (meets_enumT a xs.toArray) ⟨S1.sq m _ F N,?_⟩
 have z1:(z3i s.heap a).objs.size=s.heap.objs.size+1:=Heap.size_push ..
 rw[z1]
 have g1:(z3i s.heap a).get? s.heap.objs.size=some (titO a):=Heap.get?_push_size _ rfl
 have k1:∀b o,s.heap.get? b=some o→(z3i s.heap a).get? b=some o:=fun b o e=>Heap.get?_push_of_some _ e
 generalize z3i s.heap a=H at z1 g1 k1 ⊢
 have g2:(H.push (enumO s.heap.objs.size)).get? (s.heap.objs.size+1)=some (enumO s.heap.objs.size):=by rw[←z1];exact Heap.get?_push_size _ rfl
 have k2:∀b o,H.get? b=some o→(H.push (enumO s.heap.objs.size)).get? b=some o:=fun b o e=>Heap.get?_push_of_some _ e
 have nn:=new_at (l:=l) F
 have fr:=nn.2.2 N
 have ha:(a:Nat)<s.heap.objs.size:=S1.lt F N
 exact⟨⟨_,g2,rfl⟩,q _ ((s.heap.objs.size+1,enumO s.heap.objs.size)::(s.heap.objs.size,titO a)::l) _ s.toks
  (h _ _ _ ⟨.head _,.tail _ (.head _),neA (Nat.succ_ne_self _),neA (Nat.ne_of_lt (Nat.lt_succ_of_lt ha)),neA (Nat.ne_of_lt ha)⟩ (fun p hp=> .tail _ (.tail _ hp)) ⟨fr 1,fr 0⟩) (F.keeps fun b o e=>k2 _ _ (k1 _ _ e))
  (news_cons g2 (nn.2.1 1) (nn.1 1) (news_cons (k2 _ _ g1) (nn.2.1 0) (nn.1 0) fun p hp=>⟨k2 _ _ (k1 _ _ (N p hp).1),(N p hp).2⟩))⟩
theorem TIter.enumS{elts:List PySem.Expr}{kk:Nat}{tp:Pos}{l':Led}{e it a:Addr}{xs:List Value}{s1:List Addr}(Z:EnumAt l' e it a)(S1:Src c fz l true a xs s1)(sl:Sub l l')(f:FreshAt e l∧FreshAt it l):
  TIter c (.Tuple elts kk tp) m l' l (.ref e) xs.length (fun i v h=>∃T t x,v= .ref T∧h.IsTuple T #[.int (i:Int) t,x]∧xs[i]?=some x) s1:=fun s Q E F N' q=>by
 have N:News c.h₀ c.L s.heap l:=fun p hp=>N' p (sl p hp)
 have ge:=N' _ Z.me
 have gi:=N' _ Z.mi
 have he:IsEnum s.heap e it 0 .none:=ge.1
 refine wpAny_pyIter_enum he ?_
 have W:=WalksT.enumT (prog:=PRG) (w:=c.w) (A:=c.A) (by rfl) e it a Z.ei Z.ae Z.ai xs.toArray
 have K:=KT.map (P':=fun i v h=>∃T t x,v= .ref T∧h.IsTuple T #[.int (i:Int) t,x]∧xs[i]?=some x) (PySem.W.KTurns.ofWalksU (elts:=elts) (k:=kk) (pos:=tp) W.toU) fun i v h hP=>by
  obtain⟨T,vals,rfl,⟨t,x,hx,rfl⟩,hT⟩:=hP
  exact⟨T,t,x,rfl,hT,by simpa using hx⟩
 rw[List.size_toArray] at K
 exact q e [e,it,a] [e,it] _ _ s.heap (.of K (fun i s Q E st q=>W.self i s Q E st q) (fun i h st=>⟨st.1.elim fun o p=>⟨_,p⟩,st.2.1.elim fun o p=>⟨o,p.1⟩,st.2.2.elim fun o p=>⟨o,p.1⟩,trivial⟩)
  ⟨⟨.none,he⟩,⟨_,gi.1,rfl,rfl⟩,S1.sq m _ F N⟩ ⟨ge.2.1,gi.2.1,S1.nL F N,trivial⟩ ⟨ge.2.2,gi.2.2,trivial⟩ ⟨.inl f.1,.inl f.2,S1.in' m _ F N,trivial⟩ F N ⟨f.1,f.2,trivial⟩)
end
noncomputable def rngV:Nat→Nat→List V
 | 0,_=>[]
 |k+1,i=> .int (i:Int) (some 10) (some i)::rngV k (i+1)
noncomputable def zip2V:List V→List V→List V
 |a::as,b::bs=> .tup [a,b]::zip2V as bs
 |_,_=>[]
noncomputable def zip3V:List V→List V→List V→List V
 |a::as,b::bs,c::cs=> .tup [a,b,c]::zip3V as bs cs
 |_,_,_=>[]
noncomputable def enumV:Nat→List V→List V
 |i,a::as=> .tup [.int (i:Int) (some 10) (some i),a]::enumV (i+1) as
 |_,[]=>[]
theorem rngV.ok:∀(k i:Nat),(rngV k i).length=k∧∀j,j<k→(rngV k i)[j]?=some (.int ((i+j:Nat):Int) (some 10) (some (i+j)))
 | 0,i=>⟨rfl,fun j h=>absurd h (Nat.not_lt_zero j)⟩
 |k+1,i=>⟨congrArg (· +1) (rngV.ok k (i+1)).1,fun j h=>by
   induction j using Nat.casesOn with
   |zero=>rfl
   |succ j=>
    have:=(rngV.ok k (i+1)).2 j (Nat.lt_of_succ_lt_succ h)
    rw[show i+1+j=i+(j+1) from lN 0xf84108e08f3a10420a1322] at this
    exact this⟩
theorem zip2V.ok:∀{as bs:List V},(zip2V as bs).length=min as.length bs.length∧∀(i:Nat) (a b:V),as[i]?=some a→bs[i]?=some b→(zip2V as bs)[i]?=some (.tup [a,b])
 |[],_=>⟨(Nat.zero_min _).symm,fun i a b h=>by simp at h⟩
 |_::_,[]=>⟨rfl,fun i a b o1_ h=>by simp at h⟩
 |x::as,y::bs=>⟨(congrArg (· +1) (zip2V.ok (as:=as) (bs:=bs)).1).trans (Nat.succ_min_succ _ _).symm,fun i a b h k=>by
   induction i using Nat.casesOn with
   |zero=>cases Option.some.inj h;cases Option.some.inj k;rfl
   |succ i=>exact(zip2V.ok (as:=as) (bs:=bs)).2 i a b h k⟩
theorem zip3V.ok:∀{as bs cs:List V},bs.length=as.length→cs.length=as.length→(zip3V as bs cs).length=as.length∧∀(i:Nat) (a b c:V),as[i]?=some a→bs[i]?=some b→cs[i]?=some c→(zip3V as bs cs)[i]?=some (.tup [a,b,c])
 |[],_,_,_,_=>⟨rfl,fun i a b c h=>by simp at h⟩
 |x::as,y::bs,z::cs,e,e'=>⟨congrArg (· +1) (zip3V.ok (Nat.succ.inj e) (Nat.succ.inj e')).1,fun i a b c h k q=>by
   induction i using Nat.casesOn with
   |zero=>cases Option.some.inj h;cases Option.some.inj k;cases Option.some.inj q;rfl
   |succ i=>exact(zip3V.ok (Nat.succ.inj e) (Nat.succ.inj e')).2 i a b c h k q⟩
theorem enumV.ok:∀{as:List V} {k:Nat},(enumV k as).length=as.length∧∀(i:Nat) (a:V),as[i]?=some a→(enumV k as)[i]?=some (.tup [.int ((k+i:Nat):Int) (some 10) (some (k+i)),a])
 |[],k=>⟨rfl,fun i a h=>by simp at h⟩
 |x::as,k=>⟨congrArg (· +1) (enumV.ok (as:=as) (k:=k+1)).1,fun i a h=>by
   induction i using Nat.casesOn with
   |zero=>cases Option.some.inj h;rfl
   |succ i=>
    have:=(enumV.ok (as:=as) (k:=k+1)).2 i a h
    rw[show k+1+i=k+(i+1) from lN 0xf84108e08f3a10420a1322] at this
    exact this⟩
theorem Reps.at'{w:World}{fz:Led}{vs:List V}{us:List Value}(h:Reps w fz vs us):∀{i:Nat} {b:Value},us[i]?=some b→∃a,vs[i]?=some a∧Rep w fz a b:=by
 refine Reps.rec (motive_1:=fun o1_ o2_ o3_=>True) (motive_2:=fun vs us o1_=>∀(i:Nat) (b:Value),us[i]?=some b→∃a,vs[i]?=some a∧Rep w fz a b) (fun o1_=>trivial) trivial trivial (fun o1_ o2_ o3_=>trivial) (fun o1_ o2_ o3_ o4_=>trivial) (fun o1_ o2_ o3_=>trivial) (fun o1_ o2_ o3_=>trivial) (fun i a e=>?_) (fun h t o1_ b i a e=>?_) h _ _
 ·simp at e
 ·induction i using Nat.casesOn with
  |zero=>exact⟨_,rfl,Option.some.inj e▸h⟩
  |succ i=>exact b i a e
section
variable {sc:Scope} {c:Cx sc} {env:Env} {m:Mp} {l:Led} {d:Nat} {X:Wx} {σ:Sto} {ι:Nat→Addr} {K:Nat→List V→Sto→Prop} {pr fz:Led} {N:Nat} {tgt iter:PySem.Expr}
theorem AI.plain(ok:Cok c d)(h:AE c env X iter σ fun x σ1=>frzK σ1 (fun a σ2=>optK (fun as=>K 0 as σ2) (conts σ2 a)) x):AI c env X tgt iter σ K:=fun pr fz m ι l hn r=>
 (h pr fz m ι l hn r).mono fun v l' p=>p.elim fun ι1 fz1 σ1 x k hv r1 g1 n1 x1=>(frzK.ok k r1 hv).elim fun fz2 σ2 a k2 hr R2 n2 x2=>(optK.ok k2).elim fun as q=>(src_of ok q.1 R2 hr).elim fun A z=>z.elim fun ws z=>z.elim fun src z=>
  .mk ι1 fz2 σ2 0 as _ src l' q.2 R2 g1 (n2▸n1) (x1.trans x2) (by rw[z.1,z.2.1.length];exact TIter.sq z.2.2) z.2.2.hs fun i u h e=>z.2.1.at' e
theorem len_in{n:Nat}(h:n≤1000):In (n:Int) (some 10) (some n):=⟨fun z e=>by cases Option.some.inj e;exact len_bits h,fun z e=>by cases Option.some.inj e;exact Int.le_refl _⟩
theorem glo_u{u:Value}{f:Str}{fp:Pos}(hn:Nm c env m fz N ι X)(hg:X.glo f=true)(h:nsIn (Mine.K c.w.params) mainGlobals f=some none∧bootBuiltins f=some u∧f≠ "__name__"):EV c env m l (.Name f fp) u:=hn.glo f hg l fp u (.inr h)
theorem AI.range{x:Str}{xp fp pos:Pos}{e:PySem.Expr}(hg:X.glo "range" =true) (hst:starEach [e] env=[(false,eval e env)])
  (h:AE c env X e σ fun y σ1=>asI (fun i o1_ o2_=>cond (decide (0≤i)&&Nat.ble i.toNat 1000) (K 0 (rngV i.toNat 0) σ1) False) y):AI c env X (.Name x xp) (.Call (.Name "range" fp) [e] [] pos) σ K:=fun pr fz m ι l hn r=>
 TE.callT (glo_u hn hg ⟨rfl,rfl,by decide⟩) (TEL.cons ((h pr fz m ι l hn r).mono fun v l' p=>TEL.nil (p.elim fun ι1 fz1 σ1 y k hv r1 g1 n1 x1=>by
  obtain⟨i,o1_,o2_,t,rfl,k,o3_⟩:=asI.ok k hv
  obtain⟨hz,k⟩:=cond_t k
  rw[Bool.and_eq_true] at hz
  have hz2:=Nat.le_of_ble_eq_true hz.2
  obtain⟨n,rfl⟩:=Int.eq_ofNat_of_zero_le (of_decide_eq_true hz.1)
  refine TC.range1 fun rr t1 u1 v1 l'' hm hs hf=>?_
  have R:=rngV.ok n 0
  refine .mk ι1 fz1 σ1 0 (rngV n 0) (fun i v o1_=>i<n∧∃t,v= .int (0+(i:Int)) t) [] l'' k ⟨r1.subp.trans hs,r1.subf.trans hs,r1.own,fun k o e=>(r1.mem k o e).imp fun O p=>⟨hs _ p.1,p.2⟩,r1.fro,r1.inj⟩ g1 n1 x1 (by rw[R.1];exact TIter.rng hm hz2) (fun b hb=>by exact nomatch hb) fun i u hh p=>⟨_,R.2 i p.1,?_⟩
  obtain⟨lt,tk,rfl⟩:=p
  rw[Nat.zero_add,Int.zero_add]
  exact .int (len_in (Nat.le_trans (Nat.le_of_lt lt) hz2)))) hst) rfl hst rfl
theorem AI.args{id:String}{elts:List PySem.Expr}{kk:Nat}{tp fp pos:Pos}{f:Str}{e:PySem.Expr}{es:List PySem.Expr}(hu:nsIn (Mine.K c.w.params) mainGlobals f=some none∧bootBuiltins f=some (.type id)∧f≠ "__name__") (hg:X.glo f=true) (h2:starEach (e::es) env=(false,eval e env)::starEach es env) (h3:((backTo pos (starEach es env)).any fun x=>x.fst)=false)
  {G:List V→Sto→Prop}(h:AL c env X (e::es) σ fun as σ1=>frzL as σ1 G)
  (k:∀pr fz m ι l σ as vs,G as σ→Rel c.w pr fz σ ι l→Reps c.w fz as vs→TC c m l (.type id) vs (Pi c (.Tuple elts kk tp) m pr fz σ.length ι K)):AI c env X (.Tuple elts kk tp) (.Call (.Name f fp) (e::es) [] pos) σ K:=fun pr fz m ι l hn r=>
 TE.callT (glo_u hn hg hu) (TEL.mono (h pr fz m ι l hn r) fun vs l' p=>p.elim fun ι1 fz1 σ1 as kk' hv r1 g1 n1 x1=>(frzL.ok kk' r1 hv).elim fun fz2 σ2 bs k2 hr R2 n2 x2=>(k pr fz2 m ι1 l' σ2 bs vs k2 R2 hr).mono fun v l'' p=>p.elim fun ι3 fz3 σ3 tr as3 Pv src l₀ k3 r3 g3 n3 x3 it hs hi=>
  .mk ι3 fz3 σ3 tr as3 Pv src l₀ k3 r3 (g1.trans (n2▸g3) n1) (Nat.le_trans n1 (n2▸n3)) ((x1.trans x2).trans x3) it hs hi) rfl h2 h3
noncomputable def wZip2(K:Nat→List V→Sto→Prop)(as:List V)(σ:Sto):Prop:=optK (fun p=>cond (isLs p.1&&isLs p.2) (optK (fun xs=>optK (fun ys=>K 2 (zip2V xs ys) σ) (conts σ p.2)) (conts σ p.1)) False) (two as)
theorem wZip2.ok{as:List V}{vs:List Value}{elts:List PySem.Expr}{kk:Nat}{tp:Pos}(ok:Cok c d)(h:wZip2 K as σ)(r:Rel c.w pr fz σ ι l)(hv:Reps c.w fz as vs):TC c m l (.type "zip") vs (Pi c (.Tuple elts kk tp) m pr fz σ.length ι K):=by
 obtain⟨p,ep,h1⟩:=optK.ok h
 obtain⟨hz,h2⟩:=cond_t h1
 rw[Bool.and_eq_true] at hz
 obtain⟨xs,e1,h3⟩:=optK.ok h2
 obtain⟨ys,e2,h4⟩:=optK.ok h3
 rw[two.ok ep] at hv
 cases hv with
 |cons hx t=>cases t with
  |cons hy t=>cases t with
   |nil=>
    obtain⟨A1,ws1,s1,rfl,hr1,S1⟩:=src_of ok e1 r hx
    obtain⟨A2,ws2,s2,rfl,hr2,S2⟩:=src_of ok e2 r hy
    rw[isLs_tp hz.1] at S1
    rw[isLs_tp hz.2] at S2
    refine TC.zipL S1 S2 fun z TI TO i1 i2 o1 o2 l' Z hs f=> .mk ι fz σ 2 (zip2V xs ys) _ (s1++s2) l h4 r Agr.refl (Nat.le_refl _) Ext.refl (by rw[(zip2V.ok (as:=xs) (bs:=ys)).1,hr1.length,hr2.length];exact TIter.zipL Z S1 S2 hs f) (fun b hb=>(List.mem_append.mp hb).elim (S1.hs b) (S2.hs b)) fun i u hh p=>?_
    obtain⟨T,x,y,rfl,hT,g1,g2⟩:=p
    obtain⟨a,ea,ra⟩:=hr1.at' g1
    obtain⟨b,eb,rb⟩:=hr2.at' g2
    exact⟨_,(zip2V.ok (as:=xs) (bs:=ys)).2 i a b ea eb,T,[x,y],[a,b],rfl,rfl,hT,.cons ra (.cons rb .nil),rfl⟩
noncomputable def three:List V→Option (V×V×V)
 |[a,b,c]=>some (a,b,c)
 |_=>none
theorem three.ok{vs:List V}{p:V×V×V}(h:three vs=some p):vs=[p.1,p.2.1,p.2.2]:=by
 induction vs using List.casesOn with
 |nil=>exact nomatch h
 |cons a r=>induction r using List.casesOn with
  |nil=>exact nomatch h
  |cons b r=>induction r using List.casesOn with
   |nil=>exact nomatch h
   |cons d r=>induction r using List.casesOn with
    |nil=>cases Option.some.inj h;rfl
    |cons o1_ o2_=>exact nomatch h
noncomputable def wZip3(K:Nat→List V→Sto→Prop)(as:List V)(σ:Sto):Prop:=optK (fun p=>cond (isTp p.1&&(isTp p.2.1&&isTp p.2.2)) (optK (fun xs=>optK (fun ys=>optK (fun zs=>cond (Nat.beq ys.length xs.length&&Nat.beq zs.length xs.length) (K 3 (zip3V xs ys zs) σ) False) (conts σ p.2.2)) (conts σ p.2.1)) (conts σ p.1)) False) (three as)
theorem wZip3.ok{as:List V}{vs:List Value}{elts:List PySem.Expr}{kk:Nat}{tp:Pos}(ok:Cok c d)(h:wZip3 K as σ)(r:Rel c.w pr fz σ ι l)(hv:Reps c.w fz as vs):TC c m l (.type "zip") vs (Pi c (.Tuple elts kk tp) m pr fz σ.length ι K):=by
 obtain⟨p,ep,h1⟩:=optK.ok h
 obtain⟨hz,h2⟩:=cond_t h1
 rw[Bool.and_eq_true,Bool.and_eq_true] at hz
 obtain⟨xs,e1,h3⟩:=optK.ok h2
 obtain⟨ys,e2,h4⟩:=optK.ok h3
 obtain⟨zs,e3,h5⟩:=optK.ok h4
 obtain⟨hl,h6⟩:=cond_t h5
 rw[Bool.and_eq_true] at hl
 have l1:=Nat.eq_of_beq_eq_true hl.1
 have l2:=Nat.eq_of_beq_eq_true hl.2
 rw[three.ok ep] at hv
 cases hv with
 |cons hx t=>cases t with
  |cons hy t=>cases t with
   |cons hu t=>cases t with
    |nil=>
     obtain⟨A1,ws1,s1,rfl,hr1,S1⟩:=src_of ok e1 r hx
     obtain⟨A2,ws2,s2,rfl,hr2,S2⟩:=src_of ok e2 r hy
     obtain⟨A3,ws3,s3,rfl,hr3,S3⟩:=src_of ok e3 r hu
     rw[hz.1] at S1
     rw[hz.2.1] at S2
     rw[hz.2.2] at S3
     have Z3:=zip3V.ok l1 l2
     refine TC.zipT S1 S2 S3 fun z TI TO i1 i2 i3 o1 o2 o3 l' Z hs f=> .mk ι fz σ 3 (zip3V xs ys zs) _ (s1++(s2++s3)) l h6 r Agr.refl (Nat.le_refl _) Ext.refl (by rw[Z3.1,hr1.length];exact TIter.zipT Z S1 S2 S3 (by rw[←hr1.length,←hr2.length,l1]) (by rw[←hr1.length,←hr3.length,l2]) hs f) (fun b hb=>(List.mem_append.mp hb).elim (S1.hs b) fun hb=>(List.mem_append.mp hb).elim (S2.hs b) (S3.hs b)) fun i u hh p=>?_
     obtain⟨T,x,y,q,rfl,hT,g1,g2,g3⟩:=p
     obtain⟨a,ea,ra⟩:=hr1.at' g1
     obtain⟨b,eb,rb⟩:=hr2.at' g2
     obtain⟨e,ee,re⟩:=hr3.at' g3
     exact⟨_,Z3.2 i a b e ea eb ee,T,[x,y,q],[a,b,e],rfl,rfl,hT,.cons ra (.cons rb (.cons re .nil)),rfl⟩
noncomputable def wEnum(K:Nat→List V→Sto→Prop)(as:List V)(σ:Sto):Prop:=w1 (fun v=>cond (isTp v) (optK (fun xs=>cond (Nat.ble xs.length 1000) (K 2 (enumV 0 xs) σ) False) (conts σ v)) False) as
theorem wEnum.ok{as:List V}{vs:List Value}{elts:List PySem.Expr}{kk:Nat}{tp:Pos}(ok:Cok c d)(h:wEnum K as σ)(r:Rel c.w pr fz σ ι l)(hv:Reps c.w fz as vs):TC c m l (.type "enumerate") vs (Pi c (.Tuple elts kk tp) m pr fz σ.length ι K):=by
 obtain⟨a,rfl,h1⟩:=w1.ok h
 obtain⟨hz,h2⟩:=cond_t h1
 obtain⟨xs,e1,h3⟩:=optK.ok h2
 obtain⟨hl,h4⟩:=cond_t h3
 cases hv with
 |cons hx t=>cases t with
  |nil=>
   obtain⟨A1,ws1,s1,rfl,hr1,S1⟩:=src_of ok e1 r hx
   rw[hz] at S1
   have Z:=enumV.ok (as:=xs) (k:=0)
   refine TC.enumS S1 fun e it l' En hs f=> .mk ι fz σ 2 (enumV 0 xs) _ s1 l h4 r Agr.refl (Nat.le_refl _) Ext.refl (by rw[Z.1,hr1.length];exact TIter.enumS En S1 hs f) S1.hs fun i u hh p=>?_
   obtain⟨T,t,x,rfl,hT,g1⟩:=p
   obtain⟨a',ea,ra⟩:=hr1.at' g1
   refine⟨_,Z.2 i a' ea,T,[.int (i:Int) t,x],_,rfl,rfl,hT,.cons ?_ (.cons ra .nil),rfl⟩
   rw[Nat.zero_add]
   refine .int (len_in ?_)
   obtain⟨lt,o1_⟩:=List.getElem?_eq_some_iff.mp ea
   exact Nat.le_trans (Nat.le_of_lt lt) (Nat.le_of_ble_eq_true hl)
end
set_option genInjectivity false in
structure CK(scope:Scope)(cl:List (Str×Addr))(env:Env) where
 cl':Addr→List (Str×Addr)
 ow:Addr→List Addr
 SL:Addr→Led→Prop
 le:∀C b,b∈ow C→C≤b
 me:∀C,C∈ow C
 ad:∀C e,SL C e→e.map (·.1)=ow C
 ns:∀C e (h:Heap),SL C e→(∀p∈e,h.get? p.1=some p.2)→∃m',h.Ns C m'
noncomputable def CKnew{scope:Scope}{cl:List (Str×Addr)}{env:Env}(k:CK scope cl env)(M:Model)(A:Around):Prop:=
 ∀(s:Shared) (Q:Env→Shared→Prop) (E:Value→Shared→Prop),(∀h' tk e,(∀b o,s.heap.get? b=some o→h'.get? b=some o)→k.SL s.heap.objs.size e→(∀p∈e,h'.get? p.1=some p.2)→
   Q {scope,locals:=s.heap.objs.size,globals:=env.globals,cells:=k.cl' s.heap.objs.size,qual:=env.qual,func:=none,code:=env.code,frame:=env.frame,builtins:=env.builtins} ⟨h',s.gens,s.drawn,tk,s.os⟩)→
  wpAny M A (newFunctionEnv scope env.globals cl [] env.qual none .none (some env)) Q E s
noncomputable def CKasg{sc:Scope}(c:Cx sc){scope:Scope}{cl:List (Str×Addr)}{env:Env}(k:CK scope cl env)(tgt:PySem.Expr)(Pv:Nat→Value→Heap→Prop)(BL:Addr→Nat→Led→Prop):Prop:=
 ∀i v C e (s:Shared) (Q:Unit→Shared→Prop) (E:Value→Shared→Prop),Pv i v s.heap→k.SL C e→(∀p∈e,s.heap.get? p.1=some p.2)→
  (∀h' tk' e',(∀b o,b∉k.ow C→s.heap.get? b=some o→h'.get? b=some o)→BL C i e'→k.SL C e'→(∀p∈e',h'.get? p.1=some p.2)→Q () ⟨h',s.gens,s.drawn,tk',s.os⟩)→wpAny (MD c.w) c.A (assign tgt (compEnvC scope (k.cl' C) C env) v) Q E s
noncomputable def CTG{sc:Scope}(c:Cx sc)(env:Env)(m:Mp)(scope:Scope)(cl':Addr→List (Str×Addr))(elt:PySem.Expr)(ifs:List PySem.Expr)(BL:Addr→Nat→Led→Prop)(src:List Addr)(K:List Value→Led→Prop):Nat→Nat→List Value→Led→Prop
 | 0,_,ys,l=>K ys l
 |k+1,i,ys,l=>∀C e l1 own,BL C i e→Sub e own→(∀p∈e,FreshAt p.1 l)→Sub own l1→Sub l l1→(∀p∈own,FreshAt p.1 l∨p.1∈src)→
   CTest c (compEnvC scope (cl' C) C env) m l1 elt (fun y l'=>Sub own l'∧∀l2,Bk own src l' l2→CTG c env m scope cl' elt ifs BL src K k (i+1) (ys++[y]) l2) (fun l'=>Sub own l'∧∀l2,Bk own src l' l2→CTG c env m scope cl' elt ifs BL src K k (i+1) ys l2) ifs
theorem mem_addr{e:Led}{p:Addr×Obj}(h:p∈e){as:List Addr}(q:e.map (·.1)=as):p.1∈as:=q▸List.mem_map_of_mem h
section
variable {sc:Scope} {c:Cx sc} {env:Env} {m:Mp} {l:Led} {P:VP}
structure CInv{scope:Scope}{cl:List (Str×Addr)}(c:Cx sc)(m:Mp)(ck:CK scope cl env)(C D:Addr)(fp wr src:List Addr)(n:Nat)(St:Nat→Heap→Prop)(T:Nat→Nat→List Value→Led→Prop)(h:Heap)(i:Nat)(ys:List Value)(e l:Led):Prop where
 hi:i≤n
 hy:ys.length≤i
 st:St i h
 F:Fr c.h₀ c.L h m
 sl:ck.SL C e
 ge:∀p∈e,h.get? p.1=some p.2
 N:News c.h₀ c.L h l
 gD:h.get? D=some (LCg.lst ys)
 off:∀p∈l,p.1∉wr
 offp:∀p∈l,p.1∈fp→p.1∈src
 fo:∀b∈ck.ow C,FreshAt b l
 fD:FreshAt D l
 t:T (n-i) i ys l
open LCg in
theorem block_G{elt iter tgt:PySem.Expr}{ifs:List PySem.Expr}{scope:Scope}{cl:List (Str×Addr)}{pos:Pos}{s₂:Shared}{I:Addr}{fp wr:List Addr}{n:Nat}{Pv Md:Nat→Value→Heap→Prop}{St:Nat→Heap→Prop}{src:List Addr}
  {BL:Addr→Nat→Led→Prop}{K:List Value→Led→Prop}{RR:Value→Addr→Result→Shared→Prop}{E:Value→Shared→Prop}(ck:CK scope cl env)
  (A:IterAt c tgt m l n Pv src s₂ I fp wr Md St)(srcl:∀b∈src,InA l b)(hsz:n≤sizeLine)(hnew:CKnew ck (MD c.w) c.A)(hasg:CKasg c ck tgt Pv BL)
  (R:CTG c env m scope ck.cl' elt ifs BL src K n 0 [] l)
  (hRR:∀D C h tk m' ys l',Fr c.h₀ c.L h m→News c.h₀ c.L h ((D,lst ys)::l')→FreshAt D l'→h.Ns C m'→c.h₀.get? C=none→c.h₀.get? D=none→C≠c.L→D≠c.L→C≠D→FreshAt C l'→K ys l'→RR (.ref D) C (.ok .next) ⟨h,s₂.gens,s₂.drawn,tk,s₂.os⟩):
  wpAny (MD c.w) c.A (newList []) (fun acc s₃=>wpAny (MD c.w) c.A (newFunctionEnv scope env.globals cl [] env.qual none .none (some env)) (fun cenv s₄=>
   codeAny (MD c.w) c.A (.compStart (.ListComp elt [⟨tgt,iter,ifs,0⟩] scope pos) 0 (.ref I) acc {cenv with scope:=relabel scope env}) (RR acc cenv.locals) s₄) E s₃) E s₂:=by
 refine wpAny_newObj_type (hnew _ _ _ fun h₁ tk₁ e₁ hk₁ sl₁ ge₁=>?_)
 dsimp only at hk₁ sl₁ ⊢
 have F:=A.F
 have N:=A.N
 have nn:=new_at (l:=l) F
 have fr:=nn.2.2 N
 have hC:(s₂.heap.push {cls:= .type "list",dict:=none,data:= .seq ([]:List Value).toArray}).objs.size=s₂.heap.objs.size+1:=Heap.size_push ..
 have gD₀:(s₂.heap.push {cls:= .type "list",dict:=none,data:= .seq ([]:List Value).toArray}).get? s₂.heap.objs.size=some (lst []):=Heap.get?_push_size _ rfl
 have old₀:∀b o,s₂.heap.get? b=some o→(s₂.heap.push {cls:= .type "list",dict:=none,data:= .seq ([]:List Value).toArray}).get? b=some o:=fun b o e=>Heap.get?_push_of_some _ e
 generalize s₂.heap.push {cls:= .type "list",dict:=none,data:= .seq ([]:List Value).toArray}=H2 at hk₁ sl₁ hC gD₀ old₀ ⊢
 generalize hCC:H2.objs.size=C at hC sl₁ ⊢
 have old:∀b o,s₂.heap.get? b=some o→h₁.get? b=some o:=fun b o e=>hk₁ _ _ (old₀ _ _ e)
 have gD₁:=hk₁ _ _ gD₀
 have Clt:s₂.heap.objs.size<C:=by rw[hC];exact Nat.lt_succ_self _
 have owge:∀b∈ck.ow C,s₂.heap.objs.size<b:=fun b hb=>Nat.lt_of_lt_of_le Clt (ck.le C b hb)
 have sk:∀b,s₂.heap.objs.size≤b→c.h₀.get? b=none∧b≠c.L∧FreshAt b l∧b∉fp:=fun b hb=>by
  obtain⟨k,rfl⟩:=Nat.exists_eq_add_of_le hb
  exact⟨nn.1 k,nn.2.1 k,fr k,fun hf=>Nat.not_lt.mpr hb (A.lt _ hf)⟩
 have skD:=sk _ (Nat.le_refl s₂.heap.objs.size)
 generalize s₂.heap.objs.size=D at *
 have sko:∀b∈ck.ow C,c.h₀.get? b=none∧b≠c.L∧FreshAt b l∧b∉fp:=fun b hb=>sk b (Nat.le_of_lt (owge b hb))
 have hDo:D∉ck.ow C:=fun hm=>Nat.lt_irrefl _ (owge _ hm)
 have srcw:∀b∈src,b∉wr:=fun b hb=>(srcl b hb).elim fun o ho=>A.off _ ho
 have hwr:∀b,b∉fp→b∉wr:=fun b hb hw=>hb (A.W.sub _ hw)
 have mo:∀{e:Led} {p:Addr×Obj},ck.SL C e→p∈e→p.1∈ck.ow C:=fun he hp=>mem_addr hp (ck.ad C _ he)
 have loop:∀s₃:Shared,s₃=⟨h₁,s₂.gens,s₂.drawn,tk₁,s₂.os⟩→
   codeAny (MD c.w) c.A (.compLoop (.ListComp elt [⟨tgt,iter,ifs,0⟩] scope pos) 0 (.ref I) (.ref D) (compEnvC scope (ck.cl' C) C env)) (RR (.ref D) C) s₃:=by
  rintro s₃ rfl
  refine compLoop_K (fun k s'=>∃h' tk i ys e l',s'=(⟨h',s₂.gens,s₂.drawn,tk,s₂.os⟩:Shared)∧k=n+1-i∧CInv c m ck C D fp wr src n St (CTG c env m scope ck.cl' elt ifs BL src K) h' i ys e l') ?_ (n+1)
   ⟨h₁,tk₁,0,[],e₁,l,rfl,rfl,Nat.zero_le _,Nat.le_refl _,A.W.frame _ _ _ A.st fun b o1_ o e=>old b o e,F.keeps old,sl₁,ge₁,fun p hp=>⟨old _ _ (N p hp).1,(N p hp).2⟩,gD₁,A.off,fun p hp hf=>(A.src _ hf).elim (fun f=>absurd rfl (f _ hp)) id,fun b hb=>(sko b hb).2.2.1,skD.2.2.1,R⟩
  rintro k s' ⟨h',tk,i,ys,e,l',rfl,rfl,V⟩
  have next:∀h2:Heap,(∀b o,b∉wr→h'.get? b=some o→h2.get? b=some o)→Fr c.h₀ c.L h2 m∧News c.h₀ c.L h2 l'∧h2.get? D=some (lst ys)∧∀p∈e,h2.get? p.1=some p.2:=fun h2 hk=>
   ⟨⟨V.F.ns.at' fun o e=>hk _ o (hwr _ A.nL) e,fun b o e=>hk b o (fun hb=>by rw[A.hid b hb] at e;exact nomatch e) (V.F.keep b o e),V.F.above⟩,fun p hp=>⟨hk _ _ (V.off p hp) (V.N p hp).1,(V.N p hp).2⟩,hk _ _ (hwr _ skD.2.2.2) V.gD,fun p hp=>hk _ _ (hwr _ (sko _ (mo V.sl hp)).2.2.2) (V.ge p hp)⟩
  by_cases hlt:i<n
  ·obtain⟨j,hj⟩:∃j,n-i=j+1:=⟨n-i-1,by exact lN 0x210453e104238938f8410a1322 (Nat.sub_add_cancel (lN 0x84114e4023c940f8488413a12a3 hlt (Nat.sub_add_cancel (lN 0xf3a120f3a12a2 hlt))))⟩
   have R':=V.t
   rw[hj] at R'
   refine A.W.item i _ _ _ hlt V.st fun v h2 tk2 hMd hk2=>A.W.go i v _ _ _ hMd fun h3 hP hst3 hk3=>?_
   have X3:=next h3 fun b o hb x=>hk3 b o hb (hk2 b o hb x)
   refine hasg i v C e _ _ _ hP V.sl X3.2.2.2 fun h4 tk4 e4 hk4 hBL sl4 ge4=>?_
   have hst4:St (i+1) h4:=A.W.frame _ _ _ hst3 fun b hb o e=>hk4 b o (fun q=>(sko _ q).2.2.2 hb) e
   have F4:Fr c.h₀ c.L h4 m:=⟨X3.1.ns.at' fun o e=>hk4 _ o (fun q=>(sko _ q).2.1 rfl) e,fun b o e=>hk4 b o (fun q=>by rw[(sko _ q).1] at e;exact nomatch e) (X3.1.keep b o e),X3.1.above⟩
   have Nown:News c.h₀ c.L h4 (ownOf c.h₀ fp h4):=news_ownOf A.nL
   have gD4:=hk4 _ _ hDo X3.2.2.1
   have N4:News c.h₀ c.L h4 l':=fun p hp=>⟨hk4 _ _ (fun q=>V.fo _ q p hp rfl) (X3.2.1 p hp).1,(X3.2.1 p hp).2⟩
   have Ne4:News c.h₀ c.L h4 e4:=fun p hp=>⟨ge4 p hp,(sko _ (mo sl4 hp)).2.1,(sko _ (mo sl4 hp)).1⟩
   have ND4:News c.h₀ c.L h4 [(D,lst ys)]:=news_cons gD4 skD.2.1 skD.1 fun p hp=>by exact nomatch hp
   have Nown4:=(Nown.append (Ne4.append ND4))
   have fo:∀p∈ownOf c.h₀ fp h4++(e4++[(D,lst ys)]),FreshAt p.1 l'∨p.1∈src:=fun p hp=>(List.mem_append.mp hp).elim (fun hp=>by
    by_cases hs:p.1∈src
    ·exact .inr hs
    ·exact .inl fun q hq e=>hs (e▸V.offp q hq (e▸ownOf_sub p hp))) fun hp=> .inl ((List.mem_append.mp hp).elim (fun hp=>V.fo _ (mo sl4 hp)) fun hp=>(List.mem_singleton.mp hp)▸V.fD)
   have R2:=R' C e4 ((ownOf c.h₀ fp h4++(e4++[(D,lst ys)]))++l') (ownOf c.h₀ fp h4++(e4++[(D,lst ys)])) hBL (fun p hp=>List.mem_append_right _ (List.mem_append_left _ hp)) (fun p hp=>V.fo _ (mo sl4 hp)) (fun p hp=>List.mem_append_left _ hp) (fun p hp=>List.mem_append_right _ hp) fo
   generalize hown:ownOf c.h₀ fp h4++(e4++[(D,lst ys)])=own at R2 Nown4 fo
   have mown:∀{b:Addr},b∈fp→c.h₀.get? b=none→∃o,(b,o)∈own:=fun hb hb0=>(A.ex _ _ hst4 _ hb).imp fun o ho=>hown▸List.mem_append_left _ (mem_ownOf hb hb0 ho)
   have eown:∀p∈e4,p∈own:=fun p hp=>hown▸List.mem_append_right _ (List.mem_append_left _ hp)
   have Down:(D,lst ys)∈own:=hown▸List.mem_append_right _ (List.mem_append_right _ (.head _))
   have owown:∀b∈ck.ow C,∃o,(b,o)∈own:=fun b hb=>by
    rw[←ck.ad C _ sl4] at hb
    obtain⟨p,hp,e⟩:=List.mem_map.mp hb
    exact⟨p.2,e▸eown p hp⟩
   have keep:∀(zs:List Value) l5 h5 h6 o6,Sub own l5→(∀l2,Bk own src l5 l2→CTG c env m scope ck.cl' elt ifs BL src K j (i+1) zs l2)→Fr c.h₀ c.L h5 m→News c.h₀ c.L h5 l5→(∀b o,b≠D→h5.get? b=some o→h6.get? b=some o)→Fr c.h₀ c.L h6 m→h6.get? D=some o6→o6=lst zs→zs.length≤i+1→
     CInv c m ck C D fp wr src n St (CTG c env m scope ck.cl' elt ifs BL src K) h6 (i+1) zs e4 (l5.filter fun p=>decide ((p.1∈fp→p.1∈src)∧p.1∉ck.ow C∧p.1≠D)):=fun zs l5 h5 h6 o6 s5 r5 F5 N5 hk6 F6 g6 e6 hz=>by
    have fl:∀p,p∈l5.filter (fun p=>decide ((p.1∈fp→p.1∈src)∧p.1∉ck.ow C∧p.1≠D))→p∈l5∧(p.1∈fp→p.1∈src)∧p.1∉ck.ow C∧p.1≠D:=fun p hp=>⟨(List.mem_filter.mp hp).1,of_decide_eq_true (List.mem_filter.mp hp).2⟩
    refine⟨hlt,hz,?_,F6,sl4,fun p hp=>hk6 _ _ (fun q=>hDo (q▸mo sl4 hp)) (N5 _ (s5 _ (eown p hp))).1,fun p hp=>⟨hk6 _ _ (fl p hp).2.2.2 (N5 p (fl p hp).1).1,(N5 p (fl p hp).1).2⟩,e6▸g6,fun p hp hw=>srcw _ ((fl p hp).2.1 (A.W.sub _ hw)) hw,fun p hp=>(fl p hp).2.1,fun b hb p hp q=>(fl p hp).2.2.1 (q▸hb),fun p hp=>(fl p hp).2.2.2,?_⟩
    ·refine A.W.frame _ _ _ hst4 fun b hb o e=>hk6 _ _ (fun q=>skD.2.2.2 (q▸hb)) ?_
     cases hb0:c.h₀.get? b with
     |none=>exact(N5 _ (s5 _ (hown▸List.mem_append_left _ (mem_ownOf hb hb0 e)))).1
     |some o'=>
      have:=F4.keep b o' hb0
      rw[e] at this
      rw[Option.some.inj this]
      exact F5.keep b o' hb0
    ·rw[show n-(i+1)=j from lN 0x2104548f08e2610503e104208e261052461042250461325 hj (Nat.sub_add_cancel (lN 0x3ce8483e10423a12a2 hlt)) (Nat.sub_add_cancel (lN 0xf3a120f3a12a2 hlt))]
     have no:∀p∈l5,(FreshAt p.1 own∨p.1∈src)→∀b,(∃o,(b,o)∈own)→p.1=b→p.1∈src:=fun p hp z b hb e=>z.elim (fun f=>hb.elim fun o ho=>absurd e.symm (f (b,o) ho)) id
     have sf:∀b∈src,b∉ck.ow C∧b≠D:=fun b hb=>(srcl b hb).elim fun o ho=>⟨fun q=>(sko b q).2.2.1 _ ho rfl,fun q=>skD.2.2.1 _ ho q⟩
     refine r5 _ fun p hp z=>List.mem_filter.mpr ⟨hp,decide_eq_true ⟨fun hf=>no p hp z _ (mown hf (N5 p hp).2.2) rfl,fun ho=>(sf _ (no p hp z _ (owown _ ho) rfl)).1 ho,fun e=>(sf _ (no p hp z D ⟨_,Down⟩ e)).2 e⟩⟩
   have fin1:∀y l5 h5 tk5,(Sub own l5∧∀l2,Bk own src l5 l2→CTG c env m scope ck.cl' elt ifs BL src K j (i+1) (ys++[y]) l2)→Fr c.h₀ c.L h5 m→News c.h₀ c.L h5 l5→
     wpAny (MD c.w) c.A (call (.builtin "list.append") [.ref D,y]) (fun o1_ s₅=>∃k',k'<n+1-i∧∃h' tk i ys e l',s₅=(⟨h',s₂.gens,s₂.drawn,tk,s₂.os⟩:Shared)∧k'=n+1-i∧CInv c m ck C D fp wr src n St (CTG c env m scope ck.cl' elt ifs BL src K) h' i ys e l') (notedBy (MD c.w) c.A (compEnvC scope (ck.cl' C) C env) fun e s'=>RR (.ref D) C (.error e) s') ⟨h5,s₂.gens,s₂.drawn,tk5,s₂.os⟩:=fun y l5 h5 tk5 p5 F5 N5=>by
    have hy:=V.hy
    refine append_at (hsz:=by rw[List.size_toArray];exact lN 0xe3e11cf4612114211ce4212a4 hsz hlt hy) (N5 _ (p5.1 _ Down)).1 fun h6 hs6 hD6=>?_
    exact⟨n+1-(i+1),by exact lN 0x2104539008f8410898414508410823e10422513a12e4 (Nat.sub_add_cancel (lN 0xf3a120f84108e8410a12a2 hlt)) (Nat.sub_add_cancel (lN 0x3ce8483ce8410a12a2 hlt)),h6,tk5,i+1,ys++[y],e4,_,rfl,rfl,keep (ys++[y]) l5 h5 h6 _ p5.1 p5.2 F5 N5 (fun b o hb e=>hs6.extBut b o hb e) (F5.change hs6 skD.2.1 skD.1) hD6 (lst_snoc ys y) (by rw[List.length_append,List.length_singleton];exact lN 0xf3a11cf84108e8410a12a2 hy)⟩
   induction ifs using List.casesOn with
   |nil=>
    refine wpAny_tests_nil ?_
    rw[if_pos rfl]
    exact R2 _ _ _ F4 (Nown4.append N4) fun y l5 h5 tk5 p5 F5 N5=>fin1 y l5 h5 tk5 p5 F5 N5
   |cons t ts=>
    induction ts using List.casesOn with
    |nil=>
     refine wpAny_tests_one ?_
     refine R2 _ _ _ F4 (Nown4.append N4) fun b l5 h5 tk5 p5 F5 N5=>?_
     induction b using Bool.casesOn with
     |true=>
      rw[if_pos rfl]
      exact p5 _ _ _ F5 N5 fun y l6 h6 tk6 p6 F6 N6=>fin1 y l6 h6 tk6 p6 F6 N6
     |false=>
      rw[if_neg (by decide)]
      have hy:=V.hy
      exact⟨n+1-(i+1),by exact lN 0x2104539008f8410898414508410823e10422513a12e4 (Nat.sub_add_cancel (lN 0xf3a120f84108e8410a12a2 hlt)) (Nat.sub_add_cancel (lN 0x3ce8483ce8410a12a2 hlt)),h5,tk5,i+1,ys,e4,_,rfl,rfl,keep ys l5 h5 h5 _ p5.1 p5.2 F5 N5 (fun b o o1_ e=>e) F5 (N5 _ (p5.1 _ Down)).1 rfl (by exact lN 0x3ce8473ce8410a12a2 hy)⟩
    |cons o1_ o2_=>exact R2.elim
  ·have hin:i=n:=Nat.le_antisymm V.hi (Nat.not_lt.mp hlt)
   have R':=V.t
   have hst:=V.st
   rw[hin,Nat.sub_self] at R'
   rw[hin] at hst
   refine A.W.done _ _ _ hst fun h2 tk2 hk2=>?_
   have X2:=next h2 hk2
   obtain⟨m',hn2⟩:=ck.ns C e h2 V.sl X2.2.2.2
   have skC:=sko C (ck.me C)
   exact hRR D C h2 tk2 m' ys l' X2.1 (news_cons X2.2.2.1 skD.2.1 skD.1 X2.2.1) V.fD hn2 skC.1 skD.1 skC.2.1 skD.2.1 (Nat.ne_of_gt Clt) (V.fo C (ck.me C)) R'
 have L:=loop _ rfl
 exact codeAny_compStart_list L (A.self 0 _ _ _ (A.W.frame _ _ _ A.st fun b o1_ o e=>old b o e) L)
theorem TE.compG{elt iter tgt:PySem.Expr}{ifs:List PySem.Expr}{scope:Scope}{cl:List (Str×Addr)}{pos:Pos}(ck:CK scope cl env)(hnew:CKnew ck (MD c.w) c.A)(hclos:closureFor scope env=pure cl)(hkind:scope.kind= .function)
  (hnames:∀y∈scope.names,y.2= .local→scope.names.lookup y.1=some .local)
  (h:TE c env m l iter (fun v l'=>∃n Pv src BL l₀,TIter c tgt m l' l₀ v n Pv src∧(∀b∈src,InA l₀ b)∧Nat.ble n 1000=true∧CKasg c ck tgt Pv BL∧
   CTG c env m scope ck.cl' elt ifs BL src (fun ys l''=>∀D l3,(D,LCg.lst ys)∈l3→Sub l'' l3→FreshAt D l''→P (.ref D) l3) n 0 [] l₀))
  (hs:∀x,foldedSetIterable iter env x=pure x):TE c env m l (.ListComp elt [⟨tgt,iter,ifs,0⟩] scope pos) P:=fun s Q E F N q=>by
 rw[eval_ListComp]
 refine wpAny_comprehension_free (use:=none) rfl hs hclos hkind hnames ?_
 refine h _ _ _ F N fun v lz h' tk' p F' N'=>p.elim fun n p=>p.elim fun Pv p=>p.elim fun src p=>p.elim fun BL p=>p.elim fun l' p=>?_
 refine p.1 _ _ _ F' N' fun I fp wr Md St h'' A=>?_
 refine block_G ck A p.2.1 (Nat.le_trans (Nat.le_of_ble_eq_true p.2.2.1) (by decide)) hnew p.2.2.2.1 p.2.2.2.2 ?_
 intro D C h3 tk m' ys l3 F3 N3 fD hn hC₀ hD₀ hCL hDL hCD fC fin
 refine⟨m',hn,fun h4 hs4=>q _ _ _ _ (fin D _ (.head _) Sub.cons fD) (F3.change hs4 hCL hC₀) fun p hp=>⟨hs4.extBut _ _ ?_ (N3 p hp).1,(N3 p hp).2⟩⟩
 cases hp with
 |head=>exact Ne.symm hCD
 |tail o1_ hp=>exact fC p hp
end
noncomputable def isFree:NameKind→Bool
 |.free=>true
 |_=>false
noncomputable def isCellK:NameKind→Bool
 |.cell=>true
 |_=>false
noncomputable def isLocK:NameKind→Bool
 |.local=>true
 |_=>false
noncomputable def isLoc:Option NameKind→Bool
 |some .local=>true
 |_=>false
noncomputable def isCel:Option NameKind→Bool
 |some .cell=>true
 |_=>false
theorem isLoc.ok{o:Option NameKind}(h:isLoc o=true):o=some .local:=by
 induction o using Option.casesOn with
 |none=>exact nomatch h
 |some k=>cases k <;> first |rfl |cases h
theorem isCel.ok{o:Option NameKind}(h:isCel o=true):o=some .cell:=by
 induction o using Option.casesOn with
 |none=>exact nomatch h
 |some k=>cases k <;> first |rfl |cases h
noncomputable def κof(κ:List (Str×Nat)):List (Str×NameKind)→List (Str×Nat)→Option (List (Str×Nat))
 |[],acc=>some acc
 |(x,k)::r,acc=>cond (isFree k) ((List.lookup x κ).bind fun i=>κof κ r ((x,i)::acc)) (κof κ r acc)
noncomputable def relN(ns names:List (Str×NameKind)):List (Str×NameKind):=names.map fun p=>cond (isFree p.2&&isCel (List.lookup p.1 ns)) (p.1,.cell) p
noncomputable def noCd(x:Str):Bool:=!(x==Str.ofString "__classdict__")
noncomputable def nsAt:Option AO→Str→Option V
 |some (.ns bs),x=>List.lookup x bs
 |_,_=>none
noncomputable def lkC(pl:Bool)(N:Nat)(κ':List (Str×Nat))(σ:Sto)(x:Str):Option NameKind→Option V
 |some .local=>cond pl (nsAt σ[N]? x) none
 |some .free=>lkCell σ (List.lookup x κ')
 |some .cell=>lkCell σ (List.lookup x κ')
 |some .globalImplicit=>List.lookup x glbT
 |_=>none
noncomputable def cX(pl:Bool)(N:Nat)(κ':List (Str×Nat))(names:List (Str×NameKind)):Wx:=⟨fun σ x=>cond (noDbg x&&noCd x) (lkC pl N κ' σ x (List.lookup x names)) none,fun x=>noDbg x&&isGl (List.lookup x names),κ',names⟩
noncomputable def atA(ι:Nat→Addr)(κ:List (Str×Nat)):List (Str×Addr):=κ.map fun p=>(p.1,ι p.2)
theorem atA.look{ι:Nat→Addr}{x:Str}{k:Nat}:∀{κ:List (Str×Nat)},List.lookup x κ=some k→List.lookup x (atA ι κ)=some (ι k)
 |[],h=>by exact nomatch h
 |(y,j)::r,h=>by
  rw[List.lookup] at h
  show List.lookup x ((y,ι j)::atA ι r)=_
  rw[List.lookup]
  cases hh:x==y with
  |true=>rw[hh] at h;cases Option.some.inj h;rfl
  |false=>rw[hh] at h;exact atA.look h
theorem clos_go{env:Env}{ι:Nat→Addr}{κ:List (Str×Nat)}(hc:∀x k,List.lookup x κ=some k→env.cells.lookup x=some (ι k)):∀(names:List (Str×NameKind)) (acc κ':List (Str×Nat)),κof κ names acc=some κ'→
  (forIn names (atA ι acc) fun(p:Str×NameKind) (cs:List (Str×Addr))=>(do
   if p.2 == .free then
    let a ←cellOf env p.1
    pure (ForInStep.yield ((p.1,a)::cs))
   else pure (ForInStep.yield cs):Sem (ForInStep (List (Str×Addr)))))=pure (atA ι κ'):=by
 intro names
 induction names with
 |nil=>intro acc κ' h;cases Option.some.inj h;rfl
 |cons p r ih=>
  intro acc κ' h
  have h:cond (isFree p.2) ((List.lookup p.1 κ).bind fun i=>κof κ r ((p.1,i)::acc)) (κof κ r acc)=some κ':=h
  rw[List.forIn_cons]
  cases hf:isFree p.2 with
  |true=>
   rw[hf] at h
   obtain⟨i,e,h⟩:=Option.bind_eq_some_iff.mp h
   have e1:(p.2==NameKind.free)=true:=by cases hp:p.2 <;> rw[hp] at hf <;> first |rfl |exact nomatch hf
   rw[if_pos e1]
   have e2:cellOf env p.1=pure (ι i):=by unfold cellOf;rw[hc p.1 i e]
   rw[e2,pure_bind,pure_bind]
   exact ih ((p.1,i)::acc) κ' h
  |false=>
   rw[hf] at h
   have e1:¬(p.2==NameKind.free)=true:=by cases hp:p.2 <;> rw[hp] at hf <;> first |decide |exact nomatch hf
   rw[if_neg e1,pure_bind]
   exact ih acc κ' h
section
variable {sc:Scope} {c:Cx sc} {env:Env} {m:Mp} {l:Led} {d:Nat} {X:Wx} {σ:Sto} {ι:Nat→Addr} {pr fz:Led} {N:Nat} {scope:Scope}
theorem closure_ok{κ':List (Str×Nat)}(hn:Nm c env m fz N ι X)(h:κof X.κ scope.names []=some κ'):closureFor scope env=pure (atA ι κ'):=by
 have:=clos_go (ι:=ι) (fun x k e=>(hn.cel x k e).2) scope.names [] κ' h
 unfold closureFor
 simp only[pure_bind,bind_pure] at this ⊢
 exact this
theorem κof.le{κ:List (Str×Nat)}(hc:∀x k,List.lookup x κ=some k→k<N):∀{names:List (Str×NameKind)} {acc κ':List (Str×Nat)},κof κ names acc=some κ'→(∀x k,List.lookup x acc=some k→k<N)→∀x k,List.lookup x κ'=some k→k<N:=by
 intro names
 induction names with
 |nil=>intro acc κ' h ha;cases Option.some.inj h;exact ha
 |cons p r ih=>
  intro acc κ' h ha
  have h:cond (isFree p.2) ((List.lookup p.1 κ).bind fun i=>κof κ r ((p.1,i)::acc)) (κof κ r acc)=some κ':=h
  cases hf:isFree p.2 with
  |true=>
   rw[hf] at h
   obtain⟨i,e,h⟩:=Option.bind_eq_some_iff.mp h
   refine ih h fun x k e'=>?_
   rw[List.lookup] at e'
   cases hh:x==p.1 with
   |true=>rw[hh] at e';cases Option.some.inj e';exact hc _ _ e
   |false=>rw[hh] at e';exact ha x k e'
  |false=>rw[hf] at h;exact ih h ha
theorem relN_ok{cl:List (Str×Addr)}{C:Addr}(hn:Nm c env m fz N ι X):(compEnvC scope cl C env).scope.names=relN X.ns scope.names:=by
 show(scope.names.map fun(n,k)=>if(k==NameKind.free&&env.scope.kind==ScopeKind.function&&env.kindOf n==some NameKind.cell) then(n,NameKind.cell) else(n,k))=scope.names.map _
 refine List.map_congr_left fun p o1_=>?_
 have e1:(p.2==NameKind.free)=isFree p.2:=by cases p.2 <;> rfl
 have e2:(env.scope.kind==ScopeKind.function)=true:=by rw[hn.knd];rfl
 have e3:(env.kindOf p.1==some NameKind.cell)=isCel (List.lookup p.1 X.ns):=by
  show(env.scope.names.lookup p.1==some NameKind.cell)=_
  rw[hn.nms]
  cases h:List.lookup p.1 X.ns with
  |none=>rfl
  |some k=>cases k <;> rfl
 show(if(p.2==NameKind.free&&env.scope.kind==ScopeKind.function&&env.kindOf p.1==some NameKind.cell)=true then(p.1,NameKind.cell) else(p.1,p.2))=_
 rw[e1,e2,e3,Bool.and_true]
 cases isFree p.2&&isCel (List.lookup p.1 X.ns) <;> rfl
theorem nm_comp{pl:Bool}{κ':List (Str×Nat)}{cl:List (Str×Addr)}{C:Addr}{P:Nat}(ok:Cok c d)(hn:Nm c env m fz N ι X)(hkind:scope.kind= .function)(hκ:∀x k,List.lookup x κ'=some k→k<N∧cl.lookup x=some (ι k))(hD:pl=true→P<N∧ι P=C):
  Nm c (compEnvC scope cl C env) m fz N ι (cX pl P κ' (relN X.ns scope.names)):=by
 have nms:=relN_ok (scope:=scope) (cl:=cl) (C:=C) hn
 have kof:∀x,(compEnvC scope cl C env).kindOf x=List.lookup x (relN X.ns scope.names):=fun x=>by rw[←nms];rfl
 refine⟨fun pr ι' fz' σ l' x pos a s g n r e=>?_,fun x h l' pos u hu=>?_,fun x k e=>hκ x k e,nms,hkind,hn.gl,hn.bu⟩
 ·have e:cond (noDbg x&&noCd x) (lkC pl P κ' σ x (List.lookup x (relN X.ns scope.names))) none=some a:=e
  cases hd:(noDbg x&&noCd x) with
  |false=>rw[hd] at e;exact nomatch e
  |true=>
   rw[hd] at e
   rw[Bool.and_eq_true] at hd
   have hd1:=noDbg_ok hd.1
   have hd2:(x==Str.ofString "__classdict__")=false:=by
    have:=hd.2
    unfold noCd at this
    simpa using this
   have e:lkC pl P κ' σ x (List.lookup x (relN X.ns scope.names))=some a:=e
   have cell:lkCell σ (List.lookup x κ')=some a→∃k v O,cl.lookup x=some (ι k)∧ι' k=ι k∧(ι' k,O)∈l'∧O.data= .cell (some v)∧RepV c.w fz' σ.length ι' a v:=fun e=>by
    cases hk:List.lookup x κ' with
    |none=>rw[hk] at e;exact nomatch e
    |some k=>
     rw[hk] at e
     have hc:=hκ x k hk
     have e:(match σ[k]? with
  |some (.cell v)=>v
  |some (.cst v)=>some v
  |_=>none)=some a:=e
     cases hs:σ[k]? with
     |none=>rw[hs] at e;exact nomatch e
     |some o=>
      rw[hs] at e
      obtain⟨O,hm,hco⟩:=r.mem k _ hs
      cases hco with
      |cell hv hd=>cases Option.some.inj e;exact⟨k,_,O,hc.2,g k hc.1,hm,hd,hv⟩
      |cst hv hd=>cases Option.some.inj e;exact⟨k,_,O,hc.2,g k hc.1,hm,hd,hv⟩
      |_=>exact nomatch e
   cases hx:List.lookup x (relN X.ns scope.names) with
   |none=>rw[hx] at e;exact nomatch e
   |some k=>
    rw[hx] at e
    cases k with
    | «local»=>
     induction pl using Bool.casesOn with
     |false=>exact nomatch e
     |true=>
      have e:nsAt σ[P]? x=some a:=e
      have hD:=hD rfl
      cases hs:σ[P]? with
      |none=>rw[hs] at e;exact nomatch e
      |some o=>
       rw[hs] at e
       induction o using AO.casesOn with
       |ns bs=>
        obtain⟨O,hm,hco⟩:=r.mem P _ hs
        cases hco with
        |ns hno hb=>
         obtain⟨v,hv,hmv⟩:=hb x a e
         rw[g P hD.1,hD.2] at hm
         exact TE.ofV (EV.ownE hm hno hmv hkind ((kof x).trans hx) hd1) ⟨hv,rfl⟩
       |_=>exact nomatch e
    |cell=>
     obtain⟨k,v,O,h1,h2,h3,h4,h5⟩:=cell e
     rw[h2] at h3
     exact TE.ofV (EV.cellE h1 h3 h4 hkind ((kof x).trans hx) hd1) ⟨h5,rfl⟩
    |free=>
     obtain⟨k,v,O,h1,h2,h3,h4,h5⟩:=cell e
     rw[h2] at h3
     exact TE.ofV (EV.freeE h1 h3 h4 hkind ((kof x).trans hx) hd1 hd2) ⟨h5,rfl⟩
    |globalImplicit=>
     obtain⟨u,h1,h2⟩:=glbT.ok c.w e
     exact TE.ofV (EV.globE ok h1 hn.gl hkind ((kof x).trans hx) hd1) ⟨h2 _ _ _,rfl⟩
    |_=>exact nomatch e
 ·have h:(noDbg x&&isGl (List.lookup x (relN X.ns scope.names)))=true:=h
  rw[Bool.and_eq_true] at h
  have hd:=noDbg_ok h.1
  have hx:List.lookup x (relN X.ns scope.names)=some .globalImplicit:=by
   have h2:=h.2
   cases hx:List.lookup x (relN X.ns scope.names) with
   |none=>rw[hx] at h2;cases h2
   |some k=>
    rw[hx] at h2
    cases k <;> first |rfl |cases h2
  rcases hu with hu |⟨h1,h2,h3⟩
  ·exact EV.globE ok hu hn.gl hkind ((kof x).trans hx) hd
  ·exact EV.builtE ok h1 h2 h3 hn.gl hn.bu hkind ((kof x).trans hx) hd
theorem Rel.newI{D:Addr}{O:Obj}{o:AO}(h:Rel c.w pr fz σ ι l)(mu:o.mu=false)(nf:∀vs,o≠.frz vs)(hm:(D,O)∈l)(k:Co c.w fz σ.length ι o O)(ne:∀j,j<σ.length→ι j≠D):Rel c.w pr fz (σ++[o]) (setN ι σ.length D) l:=by
 have le:σ.length≤(σ++[o]).length:=by simp
 have cs:∀j o',(σ++[o])[j]?=some o'→(j<σ.length∧σ[j]?=some o')∨(j=σ.length∧o'=o):=fun j o' e=>by
  rcases Nat.lt_or_ge j σ.length with hj |hj
  ·exact .inl ⟨hj,by rwa [List.getElem?_append_left hj] at e⟩
  ·obtain⟨h1,o1_⟩:=List.getElem?_eq_some_iff.mp e
   have:j=σ.length:=by simp at h1;exact Nat.le_antisymm (lN 0x3ce8410a120f3a12a2 h1) (lN 0xf3a11cf3a12a2 hj)
   subst this
   simp at e
   exact .inr ⟨rfl,e.symm⟩
 refine⟨h.subp,h.subf,fun j o' e m'=>?_,fun j o' e=>?_,fun j vs e=>?_,fun i j o' e m' hi hn=>?_⟩
 ·rcases cs j o' e with⟨hj,e⟩ |⟨_,e⟩
  ·rw[setN.agr j hj];exact h.own j o' e m'
  ·rw[e,mu] at m';exact nomatch m'
 ·rcases cs j o' e with⟨hj,e⟩ |⟨e1,e⟩
  ·rw[setN.agr j hj];exact(h.mem j o' e).imp fun O p=>⟨p.1,p.2.grow (Sub.refl _) setN.agr le⟩
  ·rw[e1,e];exact⟨O,by rw[setN.at];exact hm,k.grow (Sub.refl _) setN.agr le⟩
 ·rcases cs j _ e with⟨hj,e⟩ |⟨_,e⟩
  ·rw[setN.agr j hj];exact h.fro j vs e
  ·exact absurd e.symm (nf vs)
 ·rcases cs j o' e with⟨hj,e⟩ |⟨_,e⟩
  ·rw[setN.agr j hj]
   rcases Nat.lt_or_ge i σ.length with hi' |hi'
   ·rw[setN.agr i hi'];exact h.inj i j o' e m' hi' hn
   ·have:i=σ.length:=by simp at hi;exact Nat.le_antisymm (lN 0x3ce8410a120f3a12a2 hi) (lN 0xf3a11cf3a12a2 hi')
    rw[this,setN.at];exact(ne j hj).symm
  ·rw[e,mu] at m';exact nomatch m'
end
noncomputable def CTst{sc:Scope}(c:Cx sc)(env:Env)(X:Wx)(elt:PySem.Expr)(σ:Sto)(Ky:V→Sto→Prop)(Kn:Sto→Prop):List PySem.Expr→Prop
 |[]=>AE c env X elt σ Ky
 |[t]=>AT c env X t σ fun z σ1=>cond z (AE c env X elt σ1 Ky) (Kn σ1)
 |_=>False
noncomputable def CL{sc:Scope}(c:Cx sc)(env:Env)(scope:Scope)(X:Wx)(elt:PySem.Expr)(ifs:List PySem.Expr)(nw:V→Option AO)(N:Nat)(K:List V→Sto→Prop):List V→List V→Sto→Prop
 |[],ys,σ=>K ys σ
 |a::r,ys,σ=>optK (fun o=>∀cl C,CTst c (compEnvC scope cl C env) X elt (σ++[o]) (fun b σ1=>frzK σ1 (fun b' σ2=>optK (fun τ=>CL c env scope X elt ifs nw N K r (ys++[b']) τ) (clS N σ2)) b) (fun σ1=>optK (fun τ=>CL c env scope X elt ifs nw N K r ys τ) (clS N σ1)) ifs) (nw a)
structure Bnd1(w:World)(fz:Led)(nw:V→Option AO)(all:List V)(D:Addr)(i:Nat)(e:Led)(O:Obj)(a:V)(o:AO):Prop where
 hm:(D,O)∈e
 ha:all[i]?=some a
 ho:nw a=some o
 hc:∀N ι,Co w fz N ι o O
 mu:o.mu=false
 nf:∀vs,o≠.frz vs
noncomputable def BLf(w:World)(fz:Led)(nw:V→Option AO)(all:List V)(dOf:Addr→Addr)(C:Addr)(i:Nat)(e:Led):Prop:=∃O a o,Bnd1 w fz nw all (dOf C) i e O a o
section
variable {sc:Scope} {c:Cx sc} {env:Env} {m:Mp} {l:Led} {d:Nat} {X:Wx} {σ:Sto} {ι:Nat→Addr} {pr fz:Led} {N:Nat} {scope:Scope}
theorem CL.run(ok:Cok c d){elt:PySem.Expr}{ifs:List PySem.Expr}{nw:V→Option AO}{all:List V}{pl:Bool}{κ':List (Str×Nat)}{cl':Addr→List (Str×Addr)}{dOf:Addr→Addr}{src:List Addr}{pr fz0:Led}{ι0:Nat→Addr}{K:List V→Sto→Prop}{Kw:List Value→Led→Prop}
  (hn0:Nm c env m fz0 N ι0 X)(hkind:scope.kind= .function)(hD:pl=true→∀C,dOf C=C)
  (hκ:∀C x k,List.lookup x κ'=some k→(k<N∧(cl' C).lookup x=some (ι0 k))∨(k=N∧(cl' C).lookup x=some (dOf C)))
  (hK:∀ys wys l fz ι σ,K ys σ→Reps c.w fz ys wys→Rel c.w pr fz σ ι l→σ.length=N→Agr N ι0 ι→Ext pr fz0 fz→Kw wys l):
  ∀(as:List V) (i:Nat) (ys:List V) (wys:List Value) (l fz:Led) (ι:Nat→Addr) (σ:Sto),all.drop i=as→σ.length=N→Rel c.w pr fz σ ι l→Agr N ι0 ι→Ext pr fz0 fz→(∀b∈src,InA fz b)→Reps c.w fz ys wys→
   CL c env scope (cX pl N κ' (relN X.ns scope.names)) elt ifs nw N K as ys σ→CTG c env m scope cl' elt ifs (BLf c.w fz0 nw all dOf) src Kw as.length i wys l:=by
 intro as
 induction as with
 |nil=>intro i ys wys l fz ι σ ha hl rl g x hs hy h;exact hK ys wys l fz ι σ h hy rl hl g x
 |cons a as ih=>
  intro i ys wys l fz ι σ ha hl rl g x hs hy h
  subst hl
  have hat:all[i]?=some a:=by
   have:=List.getElem?_drop (xs:=all) (i:=i) (j:=0)
   rw[ha] at this
   exact this.symm
  have hdrop:all.drop (i+1)=as:=by rw[←List.drop_drop,ha];rfl
  intro C e l1 own hb heo hef so sl fo
  obtain⟨O,a',o,B⟩:=hb
  have ea:=Option.some.inj (B.ha.symm.trans hat)
  obtain⟨o',eo,h⟩:=optK.ok h
  have eoo:o=o':=Option.some.inj ((B.ho.symm.trans (congrArg nw ea)).trans eo)
  subst eoo
  have h:=h (cl' C) C
  have r2:=(rl.own_in sl so fo hs).newI B.mu B.nf (so _ (heo _ B.hm)) ((B.hc σ.length ι).grow x.sub Agr.refl (Nat.le_refl _)) fun j hj=>(rl.mem j _ (List.getElem?_eq_getElem hj)).elim fun O' p=>hef _ B.hm _ p.1
  have gN:Agr σ.length ι0 (setN ι σ.length (dOf C)):=g.trans setN.agr (Nat.le_refl _)
  have len:(σ++[o]).length=σ.length+1:=by simp
  have nm:Nm c (compEnvC scope (cl' C) C env) m fz (σ++[o]).length (setN ι σ.length (dOf C)) (cX pl σ.length κ' (relN X.ns scope.names)):=
   nm_comp ok (hn0.grow x.sub gN (by rw[len];exact Nat.le_succ _)) hkind (fun x k e=>(hκ C x k e).elim (fun p=>⟨by rw[len];exact Nat.lt_succ_of_lt p.1,by rw[gN k p.1];exact p.2⟩) fun p=>⟨by rw[len,p.1];exact Nat.lt_succ_self _,by rw[p.1,setN.at];exact p.2⟩) fun e=>⟨by rw[len];exact Nat.lt_succ_self _,by rw[setN.at];exact hD e C⟩
  have G:∀{ι3:Nat→Addr},Agr (σ++[o]).length (setN ι σ.length (dOf C)) ι3→Agr σ.length ι ι3:=fun g3 j hj=>(g3 j (by rw[len];exact Nat.lt_succ_of_lt hj)).trans (setN.agr j hj)
  have stay:∀{fz3 l3:Led} {σ3 τ:Sto} {ι3:Nat→Addr} {zs:List V} {wzs:List Value},Rel c.w (own++pr) fz3 σ3 ι3 l3→Agr (σ++[o]).length (setN ι σ.length (dOf C)) ι3→Ext (own++pr) fz fz3→clS σ.length σ3=some τ→Reps c.w fz3 zs wzs→CL c env scope (cX pl σ.length κ' (relN X.ns scope.names)) elt ifs nw σ.length K as zs τ→
    Sub own l3∧∀l2,Bk own src l3 l2→CTG c env m scope cl' elt ifs (BLf c.w fz0 nw all dOf) src Kw as.length (i+1) wzs l2:=fun{fz3 l3 σ3 τ ι3 zs wzs} r3 g3 x3 e hz k=>
   have C1:=r3.clean e
   ⟨fun p hp=>r3.subp p (List.mem_append_left _ hp),fun l2 bk=>ih (i+1) zs wzs l2 fz3 ι3 τ hdrop C1.2 (rl.own_out C1.1 (G g3) x3 C1.2 fo bk) (g.trans (G g3) (Nat.le_refl _)) (x.trans x3.of_app) (fun b hb=>(hs b hb).imp fun o ho=>x3.sub _ ho) hz k⟩
  have run:∀{fz3 l3:Led} {σ3:Sto} {ι3:Nat→Addr},Rel c.w (own++pr) fz3 σ3 ι3 l3→Agr (σ++[o]).length (setN ι σ.length (dOf C)) ι3→(σ++[o]).length≤σ3.length→Ext (own++pr) fz fz3→AE c (compEnvC scope (cl' C) C env) (cX pl σ.length κ' (relN X.ns scope.names)) elt σ3 (fun b σ1=>frzK σ1 (fun b' σ2=>optK (fun τ=>CL c env scope (cX pl σ.length κ' (relN X.ns scope.names)) elt ifs nw σ.length K as (ys++[b']) τ) (clS σ.length σ2)) b)→
    TE c (compEnvC scope (cl' C) C env) m l3 elt fun y l'=>Sub own l'∧∀l2,Bk own src l' l2→CTG c env m scope cl' elt ifs (BLf c.w fz0 nw all dOf) src Kw as.length (i+1) (wys++[y]) l2:=fun{fz3 l3 σ3 ι3} r3 g3 n3 x3 k=>
   (k (own++pr) fz3 m ι3 l3 (nm.grow x3.sub g3 n3) r3).mono fun y l' p=>p.elim fun ι4 fz4 σ4 b k4 hv r4 g4 n4 x4=>(frzK.ok k4 r4 hv).elim fun fz5 σ5 b' k5 hb R5 n5 x5=>(optK.ok k5).elim fun τ q=>
    stay R5 (g3.trans g4 n3) ((x3.trans x4).trans x5) q.1 ((hy.mono ((x3.sub.trans x4.sub).trans x5.sub)).snoc hb) q.2
  induction ifs using List.casesOn with
  |nil=>exact run r2 Agr.refl (Nat.le_refl _) Ext.refl h
  |cons t ts=>induction ts using List.casesOn with
   |nil=>
    refine TT.mono (show TT c _ m l1 t _ from h (own++pr) fz m _ l1 nm r2) fun z l' p=>p.elim fun ι3 fz3 σ3 k r3 g3 n3 x3=>?_
    induction z using Bool.casesOn with
    |true=>rw[if_pos rfl];exact run r3 g3 n3 x3 k
    |false=>rw[if_neg (by decide)];exact(optK.ok k).elim fun τ q=>stay r3 g3 x3 q.1 (hy.mono x3.sub) q.2
   |cons o1_ o2_=>exact h.elim
noncomputable def CPost{sc:Scope}(c:Cx sc)(env:Env)(m:Mp){cl:List (Str×Addr)}(scope:Scope)(ck:CK scope cl env)(tgt elt:PySem.Expr)(ifs:List PySem.Expr)(Pw:VP):VP:=fun v l'=>∃n Pv src BL l₀,TIter c tgt m l' l₀ v n Pv src∧(∀b∈src,InA l₀ b)∧Nat.ble n 1000=true∧CKasg c ck tgt Pv BL∧
 CTG c env m scope ck.cl' elt ifs BL src (fun ys l''=>∀D l3,(D,LCg.lst ys)∈l3→Sub l'' l3→FreshAt D l''→Pw (.ref D) l3) n 0 [] l₀
structure AC1{sc:Scope}(c:Cx sc)(env:Env)(elt tgt iter:PySem.Expr)(ifs:List PySem.Expr)(scope:Scope)(m:Mp)(l:Led)(P0:VP)(cl:List (Str×Addr))(ck:CK scope cl env):Prop where
 new:CKnew ck (MD c.w) c.A
 clos:closureFor scope env=pure cl
 run:∀Pw:VP,(∀v l',P0 v l'→Pw v l')→TE c env m l iter (CPost c env m scope ck tgt elt ifs Pw)
noncomputable def AC{sc:Scope}(c:Cx sc)(env:Env)(X:Wx)(elt tgt iter:PySem.Expr)(ifs:List PySem.Expr)(scope:Scope)(σ:Sto)(K:V→Sto→Prop):Prop:=∀pr fz m ι l,Nm c env m fz σ.length ι X→Rel c.w pr fz σ ι l→∃cl ck,AC1 c env elt tgt iter ifs scope m l (Pk c.w pr fz σ.length ι K) cl ck
structure CSt(scope:Scope)(iter:PySem.Expr):Prop where
 kind:scope.kind= .function
 names:∀y∈scope.names,y.2= .local→scope.names.lookup y.1=some .local
 set:∀(env:Env) x,foldedSetIterable iter env x=pure x
theorem comp_core(ok:Cok c d){elt tgt iter:PySem.Expr}{ifs:List PySem.Expr}{K:V→Sto→Prop}{κ':List (Str×Nat)}{nw:V→Option AO}{pl:Bool}{κf:Nat→List (Str×Nat)}{dOf:Addr→Addr}{Tg:Nat→Prop}(ckf:∀cl,CK scope cl env)
  (hκo:κof X.κ scope.names []=some κ')(hkind:scope.kind= .function)(hnew:∀cl,CKnew (ckf cl) (MD c.w) c.A)(hD:pl=true→∀C,dOf C=C)
  (hκf:∀cl C N x k,List.lookup x (κf N)=some k→(List.lookup x κ'=some k∧((ckf cl).cl' C).lookup x=cl.lookup x)∨(k=N∧((ckf cl).cl' C).lookup x=some (dOf C)))
  (hasg:∀cl tr as fz Pv,Tg tr→(∀i u h,Pv i u h→∃a,as[i]?=some a∧ItOk c.w fz tr a u h)→CKasg c (ckf cl) tgt Pv (BLf c.w fz nw as dOf))
  (h:AI c env X tgt iter σ fun tr as σ1=>Nat.ble as.length 1000=true∧Tg tr∧CL c env scope (cX pl σ1.length (κf σ1.length) (relN X.ns scope.names)) elt ifs nw σ1.length (fun ys σ2=>K (.ref σ2.length) (σ2++[.lst ys])) as [] σ1):
  AC c env X elt tgt iter ifs scope σ K:=fun pr fz m ι l hn r=>
 ⟨atA ι κ',ckf (atA ι κ'),hnew _,closure_ok hn hκo,fun Pw hPw=>(h pr fz m ι l hn r).mono fun v l' p=>p.elim fun ι1 fz1 σ1 tr as Pv src l₀ k r1 g1 n1 x1 it hsrc hi=>
  ⟨as.length,Pv,src,BLf c.w fz1 nw as dOf,l₀,it,fun b hb=>(hsrc b hb).imp fun o ho=>r1.subf _ ho,k.1,hasg _ tr as fz1 Pv k.2.1 hi,
   CL.run ok (hn.grow x1.sub g1 n1) hkind hD (fun C x k e=>(hκf (atA ι κ') C _ x k e).imp (fun p=>have hk:=κof.le (fun y j e=>(hn.cel y j e).1) hκo (fun y j e=>by exact nomatch e) x k p.1;⟨Nat.lt_of_lt_of_le hk n1,by rw[p.2,atA.look p.1,g1 k hk]⟩) id)
    (fun ys wys l2 fz2 ι2 σ2 kk hy r2 hl g2 x2 D l3 hm hsb hf=>hPw _ _ (Pk.trans (g1.trans g2 n1) (hl▸n1) (x1.trans x2) (Pk.newL r2 hy hsb hf hm ⟨⟨rfl,rfl⟩,_,rfl⟩ kk))) as 0 [] [] l₀ fz1 ι1 σ1 rfl rfl r1 Agr.refl Ext.refl hsrc .nil k.2.2⟩⟩
theorem AE.ofC{elt tgt iter:PySem.Expr}{ifs:List PySem.Expr}{pos:Pos}{K:V→Sto→Prop}(S:CSt scope iter)(h:AC c env X elt tgt iter ifs scope σ K):AE c env X (.ListComp elt [⟨tgt,iter,ifs,0⟩] scope pos) σ K:=fun pr fz m ι l hn r=>
 (h pr fz m ι l hn r).elim fun cl q=>q.elim fun ck q=>TE.compG ck q.new q.clos S.kind S.names (q.run _ fun o1_ o2_ p=>p) (S.set env)
theorem AS.ofC(ok:Cok c d){κ:List (Str×Nat)}{ρ:List (Str×V)}{Kn:List (Str×V)→Sto→Prop}{Kr:V→Sto→Prop}{elt tgt iter:PySem.Expr}{ifs:List PySem.Expr}{pos spos py:Pos}{y:Str}{b:List Stmt}(S:CSt scope iter)(hk:List.lookup y sc.names=some .local)(hsw:swapsWith (.ListComp elt [⟨tgt,iter,ifs,0⟩] scope pos) (some (.Name y py)) spos.line c.env=pure true)
  (h:AC c c.env (fX sc.names κ ρ) elt tgt iter ifs scope σ fun a σ1=>AS c κ (upL y a ρ) σ1 b Kn Kr):AS c κ ρ σ (.Assign [.Name y py] (.ListComp elt [⟨tgt,iter,ifs,0⟩] scope pos) spos::b) Kn Kr:=fun pr fz m ι l hl hkp r=>
 (h pr fz m ι l (nm_def ok hl hkp) r).elim fun cl q=>q.elim fun ck q=>fun s Q E pe F N qr qn=>by
  have run:=q.run (fun v l'=>TS c c.env (upd m y v) l' b (Pn c κ pr fz σ.length ι Kn) (Pk c.w pr fz σ.length ι Kr)) fun v l' p=>p.elim fun ι1 fz1 σ1 a k hv r1 g1 n1 x1=>(k pr fz1 _ ι1 l' ((hl.grow x1.sub g1 n1).put hv) (hkp.grow g1 n1) r1).trans g1 n1 x1
  refine wpAny_execs_cons ?_
  rw[exec_Assign_Name_used _ _ _ _ hsw]
  refine wpAny_bind (wpAny_standAt (wpAny_bind ?_))
  show wpAny _ c.A (do let _ ←comprehension (.ListComp elt [⟨tgt,iter,ifs,0⟩] scope pos) scope c.env _ (newList []) false (eval iter c.env) (some (assign (.Name y py) c.env))) _ _ s
  refine wpAny_bind (wpAny_mono (wpAny_comprehension_free (use:=some (assign (.Name y py) c.env)) (Q:=fun o1_ s'=>wpAny (MD c.w) c.A (execs b c.env) Q E s') rfl (S.set _) q.clos S.kind S.names
   (run s _ E F N fun v lz h' tk' p F' N'=>p.elim fun n p=>p.elim fun Pv p=>p.elim fun src p=>p.elim fun BL p=>p.elim fun l' p=>p.1 _ _ _ F' N' fun I fp wr Md St h'' A=>block_G ck A p.2.1 (Nat.le_trans (Nat.le_of_ble_eq_true p.2.2.1) (by decide)) q.new p.2.2.2.1 p.2.2.2.2 ?_)) (fun o1_ s' hq=>wpAny_pure (wpAny_pure hq)) fun o1_ o2_ e=>e)
  intro D C h3 tk m' ys l3 F3 N3 fD hn hC₀ hD₀ hCL hDL hCD fC fin
  show wpAny _ c.A (assign (.Name y py) c.env (.ref D)) _ _ _
  refine wpAny_assign_Name (wpAny_storeName_local (env:=c.env) hk F3.ns (fun h₂ hn₂ hs₂=>?_) (by show(sc.kind == .class||(sc.kind == .module&&c.L != mainGlobals))=false;rw[ok.k];rfl))
  have hL₀:c.h₀.get? c.L=none:=Heap.get?_none_of_le F3.above
  have F₂:Fr c.h₀ c.L h₂ (upd m y (.ref D)):=⟨hn₂,fun b o e=>hs₂.extBut b o (fun q=>by rw[q] at e;exact absurd (e.symm.trans hL₀) (fun z=>by exact nomatch z)) (F3.keep b o e),F3.above⟩
  have N₂:News c.h₀ c.L h₂ ((D,LCg.lst ys)::l3):=fun p hp=>⟨hs₂.extBut _ _ (N3 p hp).2.1 (N3 p hp).1,(N3 p hp).2⟩
  refine⟨m',hn.sameBut hs₂ hCL,fun h4 hs4=>fin D _ (.head _) Sub.cons fD _ Q E pe (F₂.change hs4 hCL hC₀) (fun p hp=>⟨hs4.extBut _ _ ?_ (N₂ p hp).1,(N₂ p hp).2⟩) qr qn⟩
  cases hp with
  |head=>exact Ne.symm hCD
  |tail o1_ hp=>exact fC p hp
end
noncomputable def cellNs:List (Str×NameKind)→List Str
 |[]=>[]
 |(x,k)::r=>cond (isCellK k) (x::cellNs r) (cellNs r)
theorem cellK_beq{k:NameKind}:(k==NameKind.cell)=isCellK k:=by cases k <;> rfl
theorem cellNs.nil:∀{names:List (Str×NameKind)},cellNs names=[]→(∀y∈names,y.2≠.cell)∧∀k acc h,cellsFrom k names acc=acc∧pushCells h names=h
 |[],_=>⟨fun y hy=>(by exact nomatch hy),fun k acc h=>⟨rfl,rfl⟩⟩
 |(x,k)::r,e=>by
  have e:cond (isCellK k) (x::cellNs r) (cellNs r)=[]:=e
  cases hk:isCellK k with
  |true=>rw[hk] at e;exact nomatch e
  |false=>
   rw[hk] at e
   have ih:=cellNs.nil e
   refine⟨fun y hy=>?_,fun j acc h=>?_⟩
   ·cases hy with
    |head=>intro e2;rw[show k=NameKind.cell from e2] at hk;exact nomatch hk
    |tail o1_ hy=>exact ih.1 y hy
   ·unfold cellsFrom pushCells
    rw[if_neg (by rw[cellK_beq,hk];decide),if_neg (by rw[cellK_beq,hk];decide)]
    exact ih.2 j acc h
theorem cellNs.one:∀{names:List (Str×NameKind)} {x:Str},cellNs names=[x]→∀k acc h,cellsFrom k names acc=(x,k)::acc∧pushCells h names=h.push {cls:= .type "cell",data:= .cell none}
 |(y,k)::r,x,e,j,acc,h=>by
  have e:cond (isCellK k) (y::cellNs r) (cellNs r)=[x]:=e
  unfold cellsFrom pushCells
  cases hk:isCellK k with
  |true=>
   rw[hk] at e
   have e:y::cellNs r=[x]:=e
   injection e with e1 e2
   subst e1
   rw[if_pos (by rw[cellK_beq,hk]),if_pos (by rw[cellK_beq,hk])]
   exact(cellNs.nil e2).2 (j+1) ((y,j)::acc) _
  |false=>
   rw[hk] at e
   rw[if_neg (by rw[cellK_beq,hk];decide),if_neg (by rw[cellK_beq,hk];decide)]
   exact cellNs.one e j acc h
noncomputable def ckP(scope:Scope)(env:Env)(cl:List (Str×Addr)):CK scope cl env where
 cl':=fun o1_=>cl
 ow:=fun C=>[C]
 SL:=fun C e=>∃o m',e=[(C,o)]∧LCg.NsObj o m'
 le:=fun C b h=>by cases h with
  |head=>exact Nat.le_refl _
  |tail o1_ h=>exact nomatch h
 me:=fun C=> .head _
 ad:=fun C e h=>h.elim fun o h=>h.elim fun m' h=>by rw[h.1];rfl
 ns:=fun C e h k g=>k.elim fun o k=>k.elim fun m' k=>⟨m',k.2.ns (g (C,o) (by rw[k.1];exact .head _))⟩
noncomputable def ckC(scope:Scope)(env:Env)(x:Str)(cl:List (Str×Addr)):CK scope cl env where
 cl':=fun C=>(x,C+1)::cl
 ow:=fun C=>[C,C+1]
 SL:=fun C e=>∃o m' oX u,e=[(C,o),(C+1,oX)]∧LCg.NsObj o m'∧oX.data= .cell u
 le:=fun C b h=>by cases h with
  |head=>exact Nat.le_refl _
  |tail o1_ h=>cases h with
   |head=>exact Nat.le_succ _
   |tail o1_ h=>exact nomatch h
 me:=fun C=> .head _
 ad:=fun C e h=>h.elim fun o h=>h.elim fun m' h=>h.elim fun oX h=>h.elim fun u h=>by rw[h.1];rfl
 ns:=fun C e h k g=>k.elim fun o k=>k.elim fun m' k=>k.elim fun oX k=>k.elim fun u k=>⟨m',k.2.1.ns (g (C,o) (by rw[k.1];exact .head _))⟩
section
variable {sc:Scope} {c:Cx sc} {env:Env} {m:Mp} {l:Led} {d:Nat} {X:Wx} {σ:Sto} {ι:Nat→Addr} {pr fz:Led} {N:Nat} {scope:Scope}
theorem ckP.new{M:Model}{A:Around}{cl:List (Str×Addr)}(hcell:∀y∈scope.names,y.2≠.cell)(hkind:scope.kind= .function):CKnew (ckP scope env cl) M A:=fun s Q E q=>
 wpAny_newFunctionEnv hcell (fun y hy=>by exact nomatch hy) (fun h₁ hns₁ hsb₁=>(LCg.ns_obj hns₁).elim fun o p=>q h₁ _ [(s.heap.objs.size,o)] (fun b o' e=>hsb₁.extBut b o' (Nat.ne_of_lt (Heap.lt_size e)) (Heap.get?_push_of_some _ e)) ⟨o,_,rfl,p.2⟩ fun p' hp=>by
  cases hp with
  |head=>exact p.1
  |tail o1_ hp=>exact nomatch hp) hkind
theorem ckC.new{M:Model}{A:Around}{x:Str}{cl:List (Str×Addr)}(h1:cellNs scope.names=[x]):CKnew (ckC scope env x cl) M A:=fun s Q E q=>by
 refine wpAny_newEnvX (fun k=>(cellNs.one h1 k cl s.heap).1) (fun h=>(cellNs.one h1 0 [] h).2) ?_
 have g1:((s.heap.push {cls:= .type "dict",data:= .dict #[]}).push {cls:= .type "cell",data:= .cell none}).get? s.heap.objs.size=some {cls:= .type "dict",data:= .dict #[]}:=Heap.get?_push_of_some _ (Heap.get?_push_size _ rfl)
 have g2:((s.heap.push {cls:= .type "dict",data:= .dict #[]}).push {cls:= .type "cell",data:= .cell none}).get? (s.heap.objs.size+1)=some {cls:= .type "cell",data:= .cell none}:=by
  rw[show s.heap.objs.size+1=(s.heap.push {cls:= .type "dict",data:= .dict #[]}).objs.size from(Heap.size_push ..).symm];exact Heap.get?_push_size _ rfl
 refine q _ s.toks [(s.heap.objs.size,{cls:= .type "dict",data:= .dict #[]}),(s.heap.objs.size+1,{cls:= .type "cell",data:= .cell none})] (fun b o e=>Heap.get?_push_of_some _ (Heap.get?_push_of_some _ e)) ⟨_,fun o1_=>none,_,none,rfl,⟨#[],0,rfl,fun e he=>by simp at he,fun o1_=>rfl⟩,rfl⟩ fun p hp=>?_
 cases hp with
 |head=>exact g1
 |tail o1_ hp=>cases hp with
  |head=>exact g2
  |tail o1_ hp=>exact nomatch hp
noncomputable def bsOf:List Str→V→Option (List (Str×V))
 |[x],a=>some [(x,a)]
 |[x,y],a=>(tupC a).bind fun vs=>(two vs).map fun p=>[(x,p.1),(y,p.2)]
 |_,_=>none
noncomputable def ctP:List (Str×Pos)→Option (List Str)
 |[(x,_),(y,_)]=>cond (x==y) none (some [x,y])
 |_=>none
noncomputable def ctN:PySem.Expr→Nat→Option (List Str):=exSw (fun x o1_ n=>cond (Nat.beq n 0) (some [x]) none) (fun ts o1_ o2_ n=>cond (Nat.beq n 2) ((unN ts).bind ctP) none) (fun o1_ o2_ o3_ o4_ o5_=>none) (fun o1_ o2_ o3_ o4_ o5_=>none) (fun o1_ o2_ o3_ o4_=>none) (fun o1_ o2_ o3_ o4_ o5_=>none) (fun o1_ o2_ o3_ o4_=>none) fun o1_ o2_=>none
noncomputable def nwP(ns:List Str)(a:V):Option AO:=(bsOf ns a).map .ns
theorem ctP.ok{xs:List (Str×Pos)}{ns:List Str}(h:ctP xs=some ns):∃x px y py,xs=[(x,px),(y,py)]∧x≠y∧ns=[x,y]:=by
 induction xs using List.casesOn with
 |nil=>exact nomatch h
 |cons p r=>induction r using List.casesOn with
  |nil=>exact nomatch h
  |cons q r=>induction r using List.casesOn with
   |cons o1_ o2_=>exact nomatch h
   |nil=>
    have h:cond (p.1==q.1) none (some [p.1,q.1])=some ns:=h
    cases hh:p.1==q.1 with
    |true=>rw[hh] at h;exact nomatch h
    |false=>rw[hh] at h;cases Option.some.inj h;exact⟨p.1,p.2,q.1,q.2,rfl,by simpa using hh,rfl⟩
theorem ckP.fin{cl:List (Str×Addr)}{tgt:PySem.Expr}{Pv:Nat→Value→Heap→Prop}{ns:List Str}{as:List V}(h:AsgB c env scope cl tgt Pv fun i mC=>∃a bs,as[i]?=some a∧bsOf ns a=some bs∧∀x b,List.lookup x bs=some b→∃v,Rep c.w fz b v∧mC x=some v):
  CKasg c (ckP scope env cl) tgt Pv (BLf c.w fz (nwP ns) as id):=fun i v C e s Q E hP hS hg q=>hS.elim fun o hS=>hS.elim fun m' hS=>
 h i v C m' s Q E hP (hS.2.ns (hg (C,o) (by rw[hS.1];exact .head _))) fun h' tk' mC' hk hn hb=>(LCg.ns_obj hn).elim fun o' p=>q h' tk' [(C,o')] (fun b ob hb e=>hk b ob (fun e'=>hb (e'▸.head _)) e)
  (hb.elim fun a hb=>hb.elim fun bs hb=>⟨o',a,.ns bs,.head _,hb.1,by unfold nwP;rw[hb.2.1];rfl,fun N ι=> .ns p.2 fun x b e=>(hb.2.2 x b e).imp fun v q=>⟨.dat q.1,q.2⟩,rfl,fun vs e=>by cases e⟩) ⟨o',mC',rfl,p.2⟩ fun p' hp=>by
   cases hp with
   |head=>exact p.1
   |tail o1_ hp=>exact nomatch hp
theorem lk_one{P:Str→V→Prop}{x y:Str}{a b:V}(e:List.lookup y [(x,a)]=some b)(h:P x a):P y b:=by
 have e:(match y==x with |true=>some a |false=>none)=some b:=e
 cases k:y==x with
 |true=>rw[k] at e;exact Option.some.inj e▸eq_of_beq k▸h
 |false=>rw[k] at e;exact nomatch e
theorem lk_two{P:Str→V→Prop}{x y z:Str}{a b c:V}(e:List.lookup z [(x,a),(y,b)]=some c)(h1:P x a)(h2:P y b):P z c:=by
 have e:(match z==x with |true=>some a |false=>List.lookup z [(y,b)])=some c:=e
 cases k:z==x with
 |true=>rw[k] at e;exact Option.some.inj e▸eq_of_beq k▸h1
 |false=>rw[k] at e;exact lk_one e h2
theorem ckP.asg{cl:List (Str×Addr)}{tgt:PySem.Expr}{tr:Nat}{ns:List Str}{as:List V}{Pv:Nat→Value→Heap→Prop}(hkind:scope.kind= .function)(hc:ctN tgt tr=some ns)(hl:∀x∈ns,scope.names.lookup x=some .local)(hi:∀i u h,Pv i u h→∃a,as[i]?=some a∧ItOk c.w fz tr a u h):
  CKasg c (ckP scope env cl) tgt Pv (BLf c.w fz (nwP ns) as id):=by
 refine ckP.fin ?_
 induction tgt using PySem.Expr.casesOn with
 |Name x px=>
  induction tr using Nat.casesOn with
  |succ o1_=>exact nomatch hc
  |zero=>
   cases Option.some.inj hc
   refine AsgB.name hkind (hl x (.head _)) fun i v h mC hp hm=>?_
   obtain⟨a,p⟩:=hi i v h hp
   exact⟨a,_,p.1,rfl,fun y b e=>lk_one (P:=fun y b=>∃v,Rep c.w fz b v∧mC y=some v) e ⟨v,p.2,hm⟩⟩
 |Tuple ts kk tp=>
  match tr,hc,hi with
  | 2,hc,hi=>
   obtain⟨xs,e1,e2⟩:=Option.bind_eq_some_iff.mp (show(unN ts).bind ctP=some ns from hc)
   obtain⟨x,px,y,py,rfl,hxy,rfl⟩:=ctP.ok e2
   rw[unN.ok e1]
   refine AsgB.pair hkind (hl x (.head _)) (hl y (.tail _ (.head _))) hxy fun i v h hp=>?_
   obtain⟨a,ha,T,ws,vs,rfl,rfl,hT,hr,hlen⟩:=hi i v h hp
   cases hr with
   |nil=>exact nomatch hlen
   |cons h1 t=>cases t with
    |nil=>exact nomatch hlen
    |cons h2 t=>cases t with
     |cons o1_ o2_=>exact nomatch hlen
     |nil=>
      exact⟨T,_,_,rfl,hT,fun mC hx hy=>⟨_,_,ha,rfl,fun z b e=>lk_two (P:=fun z b=>∃v,Rep c.w fz b v∧mC z=some v) e ⟨_,h1,hx⟩ ⟨_,h2,hy⟩⟩⟩
 |_=>exact nomatch hc
theorem ckC.asg{cl:List (Str×Addr)}{x:Str}{px:Pos}{as:List V}{Pv:Nat→Value→Heap→Prop}(hkind:scope.kind= .function)(hx:scope.names.lookup x=some .cell)(hi:∀i u h,Pv i u h→∃a,as[i]?=some a∧ItOk c.w fz 0 a u h):
  CKasg c (ckC scope env x cl) (.Name x px) Pv (BLf c.w fz (fun a=>some (.cst a)) as (· +1)):=fun i v C e s Q E hP hS hg q=>by
 obtain⟨o,m',oX,u,rfl,hno,hd⟩:=hS
 have gX:=hg (C+1,oX) (.tail _ (.head _))
 have gC:=hg (C,o) (.head _)
 refine wpAny_assign_Name (wpAny_storeName_cell (by simp[compEnvC,relabel,hkind]) (lookup_relabel_cell hx) (by simp[compEnvC,ckC]) ⟨oX,gX,hd⟩ fun h4 hv4 hs4=>?_)
 obtain⟨oX4,gX4,dX4⟩:=hv4
 obtain⟨a,ha,hr⟩:=hi i v _ hP
 have hCX:C≠C+1:=Nat.ne_of_lt (Nat.lt_succ_self _)
 refine q h4 _ [(C,o),(C+1,oX4)] (fun b ob hb e=>hs4.extBut b ob (fun e'=>hb (e'▸.tail _ (.head _))) e) ⟨oX4,a,.cst a,.tail _ (.head _),ha,rfl,fun N ι=> .cst (.dat hr) dX4,rfl,fun vs e=>by cases e⟩ ⟨o,m',oX4,_,rfl,hno,dX4⟩ fun p hp=>?_
 cases hp with
 |head=>exact hs4.extBut _ _ hCX gC
 |tail o1_ hp=>cases hp with
  |head=>exact gX4
  |tail o1_ hp=>exact nomatch hp
theorem AC.plain(ok:Cok c d){elt tgt iter:PySem.Expr}{ifs:List PySem.Expr}{K:V→Sto→Prop}{κ':List (Str×Nat)}{ns:List Str}{tr0:Nat}(hκo:κof X.κ scope.names []=some κ')(hkind:scope.kind= .function)(hcell:cellNs scope.names=[])(hc:ctN tgt tr0=some ns)(hl:∀x∈ns,scope.names.lookup x=some .local)
  (h:AI c env X tgt iter σ fun tr as σ1=>Nat.ble as.length 1000=true∧tr=tr0∧CL c env scope (cX true σ1.length κ' (relN X.ns scope.names)) elt ifs (nwP ns) σ1.length (fun ys σ2=>K (.ref σ2.length) (σ2++[.lst ys])) as [] σ1):
  AC c env X elt tgt iter ifs scope σ K:=
 comp_core ok (Tg:=fun tr=>tr=tr0) (κf:=fun o1_=>κ') (dOf:=id) (ckP scope env) hκo hkind (fun cl=>ckP.new (cellNs.nil hcell).1 hkind) (fun o1_ o2_=>rfl) (fun cl C N x k e=> .inl ⟨e,rfl⟩) (fun cl tr as fz Pv e hi=>by subst e;exact ckP.asg hkind hc hl hi) h
theorem AC.cell(ok:Cok c d){elt iter:PySem.Expr}{x:Str}{px:Pos}{ifs:List PySem.Expr}{K:V→Sto→Prop}{κ':List (Str×Nat)}(hκo:κof X.κ scope.names []=some κ')(hkind:scope.kind= .function)(hcell:cellNs scope.names=[x])(hx:scope.names.lookup x=some .cell)
  (h:AI c env X (.Name x px) iter σ fun tr as σ1=>Nat.ble as.length 1000=true∧tr=0∧CL c env scope (cX false σ1.length ((x,σ1.length)::κ') (relN X.ns scope.names)) elt ifs (fun a=>some (.cst a)) σ1.length (fun ys σ2=>K (.ref σ2.length) (σ2++[.lst ys])) as [] σ1):
  AC c env X elt (.Name x px) iter ifs scope σ K:=
 comp_core ok (Tg:=fun tr=>tr=0) (κf:=fun N=>(x,N)::κ') (dOf:=(· +1)) (ckC scope env x) hκo hkind (fun cl=>ckC.new hcell) (fun e=>by exact nomatch e) (fun cl C N y k e=>by
  show(List.lookup y κ'=some k∧List.lookup y ((x,C+1)::cl)=cl.lookup y)∨(k=N∧List.lookup y ((x,C+1)::cl)=some (C+1))
  rw[List.lookup] at e ⊢
  cases hh:y==x with
  |true=>rw[hh] at e;cases Option.some.inj e;exact .inr ⟨rfl,rfl⟩
  |false=>rw[hh] at e;exact .inl ⟨e,rfl⟩) (fun cl tr as fz Pv e hi=>by subst e;exact ckC.asg hkind hx hi) h
end
noncomputable def isStarE:PySem.Expr→Bool
 |.Starred _ _=>true
 |_=>false
noncomputable def swNs(kf:Str→Option NameKind)(ts:List PySem.Expr)(line:Nat):List Str:=ts.filterMap fun
  |.Name id pos=>if kf id==some .local&&pos.line==line then some id else none
  |_=>none
noncomputable def swO(kf:Str→Option NameKind)(ts vs:List PySem.Expr):Option (Option (List Str)):=
 cond (!(ts.length==2||ts.length==3)||vs.length != ts.length) (some none)
  (cond (vs.any isStarE) (some none)
   (cond ((swNs kf ts ((ts.head?.map (·.pos.line)).getD 0)).length != ts.length||(swNs kf ts ((ts.head?.map (·.pos.line)).getD 0)).eraseDups.length != (swNs kf ts ((ts.head?.map (·.pos.line)).getD 0)).length) (some none)
    (cond (vs.all (foldedForSure 8)) (some none) (cond (vs.all (constantsAlone 8)) none (some (some (swNs kf ts ((ts.head?.map (·.pos.line)).getD 0))))))))
theorem swO.ok{env:Env}{ts vs:List PySem.Expr}{kk k:Nat}{tp p:Pos}{o:Option (List Str)}(hb:env.blockKind= .function)(h:swO env.kindOf ts vs=some o):swappedStores [.Tuple ts kk tp] (.Tuple vs k p) env=pure o:=by
 have hb2:(env.blockKind != ScopeKind.function)=false:=by rw[hb];rfl
 unfold swO at h
 show(if(!(ts.length==2||ts.length==3)||vs.length != ts.length||env.blockKind != ScopeKind.function)=true then pure none else if(vs.any isStarE)=true then pure none else
  if((swNs env.kindOf ts ((ts.head?.map (·.pos.line)).getD 0)).length != ts.length||(swNs env.kindOf ts ((ts.head?.map (·.pos.line)).getD 0)).eraseDups.length != (swNs env.kindOf ts ((ts.head?.map (·.pos.line)).getD 0)).length)=true then pure none
  else if(vs.all (foldedForSure 8))=true then pure none else if(vs.all (constantsAlone 8))=true then unsupported "assign.tuple-of-constant-expressions:order-of-the-stores" else pure (some (swNs env.kindOf ts ((ts.head?.map (·.pos.line)).getD 0))):Sem (Option (List Str)))=pure o
 rw[hb2,Bool.or_false]
 cases h1:(!(ts.length==2||ts.length==3)||vs.length != ts.length) with
 |true=>rw[h1] at h;cases Option.some.inj h;rfl
 |false=>
  rw[h1] at h
  rw[if_neg (by decide)]
  cases h2:vs.any isStarE with
  |true=>rw[h2] at h;cases Option.some.inj h;rfl
  |false=>
   rw[h2] at h
   rw[if_neg (by decide)]
   generalize swNs env.kindOf ts ((ts.head?.map (·.pos.line)).getD 0)=ns at h ⊢
   cases h3:(ns.length != ts.length||ns.eraseDups.length != ns.length) with
   |true=>rw[h3] at h;cases Option.some.inj h;rfl
   |false=>
    rw[h3] at h
    rw[if_neg (by decide)]
    cases h4:vs.all (foldedForSure 8) with
    |true=>rw[h4] at h;cases Option.some.inj h;rfl
    |false=>
     rw[h4] at h
     rw[if_neg (by decide)]
     cases h5:vs.all (constantsAlone 8) with
     |true=>rw[h5] at h;exact nomatch h
     |false=>rw[h5] at h;cases Option.some.inj h;rfl
noncomputable def swW(kf:Str→Option NameKind)(scope:Scope)(t:Str)(tl vl:Nat):Bool:=isLoc (kf t)&&(tl==vl) && !(scope.names.any fun p=>p.1==t&&(isLocK p.2||isCellK p.2))
theorem swW.ok{env:Env}{elt:PySem.Expr}{gs:List Comprehension}{scope:Scope}{p tp:Pos}{t:Str}{n:Nat}(hb:env.blockKind= .function):swapsWith (.ListComp elt gs scope p) (some (.Name t tp)) n env=pure (swW env.kindOf scope t tp.line p.line):=by
 show(pure (env.blockKind==ScopeKind.function&&env.kindOf t==some NameKind.local&&tp.line==p.line && !(scope.names.any fun(n,k)=>n==t&&(k==NameKind.local||k==NameKind.cell))):Sem Bool)=_
 have e1:(env.blockKind==ScopeKind.function)=true:=by rw[hb];rfl
 have e2:(env.kindOf t==some NameKind.local)=isLoc (env.kindOf t):=by
  cases env.kindOf t with
  |none=>rfl
  |some k=>cases k <;> rfl
 have e3:(fun(q:Str×NameKind)=>q.1==t&&(q.2==NameKind.local||q.2==NameKind.cell))=fun q=>q.1==t&&(isLocK q.2||isCellK q.2):=funext fun q=>by
  have:(q.2==NameKind.local||q.2==NameKind.cell)=(isLocK q.2||isCellK q.2):=by cases q.2 <;> rfl
  rw[this]
 show(pure (env.blockKind==ScopeKind.function&&env.kindOf t==some NameKind.local&&tp.line==p.line && !(scope.names.any fun(q:Str×NameKind)=>q.1==t&&(q.2==NameKind.local||q.2==NameKind.cell))):Sem Bool)=_
 rw[e1,e2,e3]
 rfl
theorem blockKind_def{sc:Scope}{c:Cx sc}{d:Nat}(ok:Cok c d):c.env.blockKind= .function:=by
 have h:c.env.scope.kind= .function:=ok.k
 unfold Env.blockKind
 rw[h];rfl
structure Br(z:Bool)(p q:Prop):Prop where
 intro ::
 go:cond z p q
noncomputable abbrev XE:=PySem.Expr→Sto→(V→Sto→Prop)→Prop
noncomputable abbrev XT:=PySem.Expr→Sto→(Bool→Sto→Prop)→Prop
noncomputable abbrev WE:=Wx→XE
noncomputable abbrev WT:=Wx→XT
noncomputable def notStar:PySem.Expr→Bool
 |.Starred _ _=>false
 |_=>true
noncomputable def wL(E:XE):List PySem.Expr→Sto→(List V→Sto→Prop)→Prop
 |[],σ,K=>K [] σ
 |e::r,σ,K=>cond (notStar e) (E e σ (fun a σ1=>wL E r σ1 (fun as σ2=>K (a::as) σ2))) False
noncomputable def wConst(σ:Sto)(K:V→Sto→Prop):Const→Prop
 |.int n=>wInt n fun n b l=>K (.int n b l) σ
 |.bool b=>K (.bool b) σ
 |_=>False
noncomputable def wA2(E:XE)(a b:PySem.Expr)(σ:Sto)(k:V→V→Sto→Prop):Prop:=E a σ fun x σ1=>E b σ1 fun y σ2=>k x y σ2
noncomputable def wUn(E:XE)(a:PySem.Expr)(σ:Sto)(K:V→Sto→Prop):UnaryOp→Prop
 |.USub=>E a σ fun x σ1=>asI (fun i b o1_=>K (.int (-i) b none) σ1) x
 |_=>False
noncomputable def wAndE(E:XE)(σ:Sto)(K:V→Sto→Prop):BoolOp→List PySem.Expr→Prop
 |.And,[a,b]=>E a σ fun x σ1=>asB (fun z=>Br z (E b σ1 K) (K (.bool false) σ1)) x
 |_,_=>False
noncomputable def wCmp(E:XE)(a:PySem.Expr)(σ:Sto)(K:Bool→Sto→Prop)(ops:List CmpOp)(bs:List PySem.Expr):Prop:=on1 (fun op=>on1 (fun b=>cond (behindInMarks op b) False (wA2 E a b σ fun x y σ2=>wCmpV x y σ2 K op)) bs) ops
noncomputable def wCmpT(E:XE)(a:PySem.Expr)(σ:Sto)(K:Bool→Sto→Prop):List CmpOp→List PySem.Expr→Prop
 |[op,op'],[b,b']=>cond (lastMarks [op,op'] [b,b']) False (E a σ fun x σ1=>E b σ1 fun y σ2=>asI (fun i o1_ o2_=>asI (fun j o1_ o2_=>optK (fun z=>Br z (E b' σ2 fun y' σ3=>asI (fun j' o1_ o2_=>optK (fun z'=>K z' σ3) (Cm op' j j')) y') (K false σ2)) (Cm op i j)) y) x)
 |ops,bs=>wCmp E a σ K ops bs
noncomputable def wSlc(A:PySem.Expr→Prop)(B:PySem.Expr→PySem.Expr→Prop):Option PySem.Expr→Option PySem.Expr→Option PySem.Expr→Prop
 |some lo,none,none=>A lo
 |some lo,some hi,none=>B lo hi
 |_,_,_=>False
noncomputable def wIx0(E:XE)(a:PySem.Expr)(σ:Sto)(K:V→Sto→Prop)(ix:PySem.Expr):Prop:=cond (ixOk ix) (E a σ fun x σ1=>cond (refy x) (E ix σ1 fun b σ2=>wItem σ2 K x b) False) False
noncomputable def wSub(E:XE)(a:PySem.Expr)(σ:Sto)(K:V→Sto→Prop):PySem.Expr→Prop:=
 exSw (fun x p=>wIx0 E a σ K (.Name x p)) (fun o1_ o2_ o3_=>False) (fun lo hi st o1_=>wSlc (fun lo=>cond (isNm a) (E a σ fun x σ1=>E lo σ1 fun y σ2=>asI (fun i o1_ o2_=>wSl σ2 K x i) y) False) (fun lo hi=>E a σ fun x σ1=>E lo σ1 fun y σ2=>asI (fun i o1_ o2_=>E hi σ2 fun y' σ3=>asI (fun j o1_ o2_=>wSl2 σ3 K x i j) y') y) lo hi st)
  (fun f as ks p=>wIx0 E a σ K (.Call f as ks p)) (fun o1_ o2_ o3_=>False) (fun o1_ o2_ o3_ o4_=>False) (fun o1_ o2_ o3_=>False) (wIx0 E a σ K)
noncomputable def wFnU(E:XE)(as:List PySem.Expr)(σ:Sto)(K:V→Sto→Prop):Option FN→Option BF→Prop
 |some G,_=>wL E as σ fun vs σ1=>wFN K vs σ1 G
 |none,some F=>cond as.isEmpty False (wL E as σ fun vs σ1=>F vs σ1 K)
 |none,none=>False
noncomputable def wMeth(Μ:List (Str×PF))(E:XE)(σ:Sto)(K:V→Sto→Prop)(x:PySem.Expr)(a:Str)(ap pos:Pos)(as:List PySem.Expr):Prop:=on1 (fun e=>cond (notStar e&&(ap.endLine==pos.line)) (cond (a==Str.ofString "append") (E x σ fun v σ1=>wAp1 σ1 (fun j=>wL E [e] σ1 fun as σ2=>frzL as σ2 fun bs σ3=>wAp2 σ3 K j bs) v)
   (optK (fun F=>E x σ fun v σ1=>cond (isEl v) (wL E [e] σ1 fun as σ2=>frzL (v::as) σ2 fun bs σ3=>F bs fun r=>K r σ3) False) (List.lookup a Μ))) False) as
noncomputable def wCallF(Γ:Gam)(Μ:List (Str×PF))(X:Wx)(E:XE)(σ:Sto)(K:V→Sto→Prop)(as:List PySem.Expr)(pos:Pos):PySem.Expr→Prop:=
 exSw (fun f o1_=>cond (X.glo f&&as.all notStar) (wFnU E as σ K (List.lookup f Γ) (List.lookup f buT)) False) (fun o1_ o2_ o3_=>False) (fun o1_ o2_ o3_ o4_=>False) (fun o1_ o2_ o3_ o4_=>False) (fun o a ap=>onName (fun x xp=>wMeth Μ E σ K (.Name x xp) a ap pos as) o) (fun o1_ o2_ o3_ o4_=>False) (fun o1_ o2_ o3_=>False) fun o1_=>False
noncomputable def wCall(Γ:Gam)(Μ:List (Str×PF))(X:Wx)(E:XE)(σ:Sto)(K:V→Sto→Prop)(as:List PySem.Expr)(pos:Pos)(f:PySem.Expr)(kws:List Keyword):Prop:=onNil (wCallF Γ Μ X E σ K as pos f) kws
noncomputable def isSetE(e:PySem.Expr):Bool:=Nat.beq e.ctorIdx 7
noncomputable abbrev IKt:=Nat→List V→Sto→Prop
noncomputable def wPlain(E:XE)(iter:PySem.Expr)(σ:Sto)(K:IKt):Prop:=E iter σ fun x σ1=>frzK σ1 (fun a σ2=>optK (fun as=>K 0 as σ2) (conts σ2 a)) x
noncomputable def wRng(E:XE)(σ:Sto)(K:IKt)(as:List PySem.Expr)(tgt:PySem.Expr):Prop:=on1 (fun e=>onName (fun o1_ o2_=>cond (notStar e) (E e σ fun y σ1=>asI (fun i o1_ o2_=>cond (decide (0≤i)&&Nat.ble i.toNat 1000) (K 0 (rngV i.toNat 0) σ1) False) y) False) tgt) as
noncomputable def wZip(K:IKt)(σ:Sto)(bs:List V):Prop:=cond (Nat.beq bs.length 2) (wZip2 K bs σ) (wZip3 K bs σ)
noncomputable def wZT(E:XE)(f:Str)(as:List PySem.Expr)(σ:Sto)(K:IKt)(tgt:PySem.Expr):Prop:=onTup (fun o1_ o2_ o3_=>cond as.isEmpty False (cond (f==Str.ofString "zip") (wL E as σ fun vs σ1=>frzL vs σ1 fun bs σ2=>wZip K σ2 bs) (cond (f==Str.ofString "enumerate") (wL E as σ fun vs σ1=>frzL vs σ1 fun bs σ2=>wEnum K bs σ2) False))) tgt
noncomputable def wItC(E:XE)(glo:Str→Bool)(tgt:PySem.Expr)(as:List PySem.Expr)(σ:Sto)(K:IKt)(f:PySem.Expr)(kws:List Keyword):Prop:=onName (fun f o1_=>onNil (cond (glo f&&as.all notStar) (cond (f==Str.ofString "range") (wRng E σ K as tgt) (wZT E f as σ K tgt)) False) kws) f
noncomputable def wIt(E:XE)(glo:Str→Bool)(tgt:PySem.Expr)(σ:Sto)(K:IKt):PySem.Expr→Prop:=
 exSw (fun x p=>wPlain E (.Name x p) σ K) (fun ts k p=>wPlain E (.Tuple ts k p) σ K) (fun a b c p=>wPlain E (.Slice a b c p) σ K) (fun f as kws o1_=>wItC E glo tgt as σ K f kws) (fun e a p=>wPlain E (.Attribute e a p) σ K) (fun e gs s p=>wPlain E (.ListComp e gs s p) σ K) (fun o i p=>wPlain E (.Subscript o i p) σ K) fun e=>cond (isSetE e) False (wPlain E e σ K)
noncomputable def wTst(E:XE)(T:XT)(elt:PySem.Expr)(σ:Sto)(Ky:V→Sto→Prop)(Kn:Sto→Prop):List PySem.Expr→Prop
 |[]=>E elt σ Ky
 |[t]=>T t σ fun z σ1=>Br z (E elt σ1 Ky) (Kn σ1)
 |_=>False
noncomputable def wCL(E:XE)(T:XT)(elt:PySem.Expr)(ifs:List PySem.Expr)(nw:V→Option AO)(N:Nat)(K:List V→Sto→Prop):List V→List V→Sto→Prop
 |[],ys,σ=>K ys σ
 |a::r,ys,σ=>optK (fun o=>wTst E T elt (σ++[o]) (fun b σ1=>frzK σ1 (fun b' σ2=>optK (fun τ=>wCL E T elt ifs nw N K r (ys++[b']) τ) (clS N σ2)) b) (fun σ1=>optK (fun τ=>wCL E T elt ifs nw N K r ys τ) (clS N σ1)) ifs) (nw a)
structure Lc(E:XE)(T:XT)(elt:PySem.Expr)(ifs:List PySem.Expr)(nw:V→Option AO)(N:Nat)(K:List V→Sto→Prop)(as:List V)(σ:Sto):Prop where
 intro ::
 go:wCL E T elt ifs nw N K as [] σ
noncomputable def isLoopC:PySem.Expr→Bool
 |.Name x _=>x==Str.ofString "curve"
 |.Tuple (.Name x _::_) _ _=>x==Str.ofString "curve"
 |_=>false
noncomputable def wCLL(tgt:PySem.Expr)(E:XE)(T:XT)(elt:PySem.Expr)(ifs:List PySem.Expr)(nw:V→Option AO)(N:Nat)(K:List V→Sto→Prop)(as:List V)(σ:Sto):Prop:=cond (isLoopC tgt) (Lc E T elt ifs nw N K as σ) (wCL E T elt ifs nw N K as [] σ)
theorem wCLL.ok{tgt:PySem.Expr}{E:XE}{T:XT}{elt:PySem.Expr}{ifs:List PySem.Expr}{nw:V→Option AO}{N:Nat}{K:List V→Sto→Prop}{as:List V}{σ:Sto}(h:wCLL tgt E T elt ifs nw N K as σ):wCL E T elt ifs nw N K as [] σ:=cond_el h (fun o1_ h=>h.go) fun o1_ h=>h
noncomputable def isFnK:ScopeKind→Bool
 |.function=>true
 |_=>false
noncomputable def locOk(names:List (Str×NameKind))(p:Str×NameKind):Bool:=!isLocK p.2||isLoc (List.lookup p.1 names)
noncomputable def trOf:PySem.Expr→Nat
 |.Name _ _=>0
 |_=>2
noncomputable def isNmX(x:Str):PySem.Expr→Bool
 |.Name y _=>x==y
 |_=>false
noncomputable def wCK(E:WE)(T:WT)(X:Wx)(elt tgt iter:PySem.Expr)(ifs:List PySem.Expr)(scope:Scope)(σ:Sto)(K:V→Sto→Prop)(κ':List (Str×Nat)):List Str→Prop
 |[]=>optK (fun ns=>cond (ns.all fun x=>isLoc (List.lookup x scope.names)) (wIt (E X) X.glo tgt σ (fun tr as σ1=>cond (Nat.ble as.length 1000) (cond (Nat.beq tr (trOf tgt)) (wCLL tgt (E (cX true σ1.length κ' (relN X.ns scope.names))) (T (cX true σ1.length κ' (relN X.ns scope.names))) elt ifs (nwP ns) σ1.length (fun ys σ2=>K (.ref σ2.length) (σ2++[.lst ys])) as σ1) False) False) iter) False) (ctN tgt (trOf tgt))
 |[x]=>cond (isNmX x tgt&&isCel (List.lookup x scope.names)) (wIt (E X) X.glo tgt σ (fun tr as σ1=>cond (Nat.ble as.length 1000) (cond (Nat.beq tr 0) (wCL (E (cX false σ1.length ((x,σ1.length)::κ') (relN X.ns scope.names))) (T (cX false σ1.length ((x,σ1.length)::κ') (relN X.ns scope.names))) elt ifs (fun a=>some (.cst a)) σ1.length (fun ys σ2=>K (.ref σ2.length) (σ2++[.lst ys])) as [] σ1) False) False) iter) False
 |_=>False
noncomputable def wComp(E:WE)(T:WT)(X:Wx)(elt tgt iter:PySem.Expr)(ifs:List PySem.Expr)(scope:Scope)(σ:Sto)(K:V→Sto→Prop):Prop:=
 cond ((isFnK scope.kind&&scope.names.all (locOk scope.names)) && !isSetE iter) (optK (fun κ'=>wCK E T X elt tgt iter ifs scope σ K κ' (cellNs scope.names)) (κof X.κ scope.names [])) False
noncomputable def wGen(E:WE)(T:WT)(X:Wx)(elt:PySem.Expr)(scope:Scope)(σ:Sto)(K:V→Sto→Prop)(gs:List Comprehension):Prop:=on1 (fun g=>cond (decide (g.is_async=0)) (wComp E T X elt g.target g.iter g.ifs scope σ K) False) gs
noncomputable def stepE(Γ:Gam)(Μ:List (Str×PF))(E:WE)(T:WT):WE:=fun X e σ K=>match e with
 |.Name x _=>optK (fun a=>K a σ) (X.look σ x)
 |.Constant k _ _=>wConst σ K k
 |.Tuple es _ _=>wL (E X) es σ fun as σ1=>cond (Nat.ble as.length 8) (frzL as σ1 fun bs σ2=>K (.tup bs) σ2) False
 |.List es _=>wL (E X) es σ fun as σ1=>cond (Nat.ble as.length 8) (frzL as σ1 fun bs σ2=>K (.ref σ2.length) (σ2++[.lst bs])) False
 |.BinOp a op b _=>wA2 (E X) a b σ fun x y σ2=>wBinV op σ2 K x y
 |.UnaryOp op a _=>wUn (E X) a σ K op
 |.IfExp t a b _=>T X t σ fun z σ1=>Br z (E X a σ1 K) (E X b σ1 K)
 |.BoolOp op es _=>wAndE (E X) σ K op es
 |.Compare a ops bs _=>wCmp (E X) a σ (fun z σ'=>K (.bool z) σ') ops bs
 |.Subscript a ix _=>wSub (E X) a σ K ix
 |.Attribute (.Name x p) a _=>E X (.Name x p) σ fun v σ1=>wAttr σ1 K a v
 |.Call f as kws pos=>wCall Γ Μ X (E X) σ K as pos f kws
 |.ListComp elt gs scope _=>wGen E T X elt scope σ K gs
 |_=>False
noncomputable def wAnd(T:XT):List PySem.Expr→Sto→(Bool→Sto→Prop)→Prop
 |[],σ,K=>K true σ
 |e::r,σ,K=>T e σ fun z σ1=>Br z (wAnd T r σ1 K) (K false σ1)
noncomputable def wOr(T:XT):List PySem.Expr→Sto→(Bool→Sto→Prop)→Prop
 |[],σ,K=>K false σ
 |e::r,σ,K=>T e σ fun z σ1=>Br z (K true σ1) (wOr T r σ1 K)
noncomputable def wBoolOp(T:XT)(es:List PySem.Expr)(σ:Sto)(K:Bool→Sto→Prop):BoolOp→Prop
 |.And=>wAnd T es σ K
 |.Or=>wOr T es σ K
noncomputable def wUnT(T:XT)(a:PySem.Expr)(σ:Sto)(K:Bool→Sto→Prop):UnaryOp→Prop
 |.Not=>T a σ fun z σ1=>K (!z) σ1
 |_=>False
noncomputable def stepT(E:WE)(T:WT):WT:=fun X e σ K=>match e with
 |.BoolOp op es _=>wBoolOp (T X) es σ K op
 |.UnaryOp op a _=>wUnT (T X) a σ K op
 |.Compare a ops bs _=>wCmpT (E X) a σ K ops bs
 |.Name x p=>E X (.Name x p) σ fun a σ1=>asB (fun z=>K z σ1) a
 |.Call f as kws p=>E X (.Call f as kws p) σ fun a σ1=>asB (fun z=>K z σ1) a
 |_=>False
theorem asI.imp{k k':IK}{a:V}(h:asI k a)(f:∀i b l,k i b l→k' i b l):asI k' a:=by
 induction a using V.casesOn with
 |int i b l=>exact f i b l h
 |_=>exact h.elim
theorem asB.imp{k k':Bool→Prop}{a:V}(h:asB k a)(f:∀i,k i→k' i):asB k' a:=by
 cases a with
 |bool i=>exact f i h
 |_=>exact h.elim
theorem optK.imp{α:Type}{k k':α→Prop}{o:Option α}(h:optK k o)(f:∀a,k a→k' a):optK k' o:=by
 induction o using Option.casesOn with
 |none=>exact h.elim
 |some a=>exact f a h
theorem condF.imp{b:Bool}{p q:Prop}(h:cond b p False)(f:p→q):cond b q False:=by
 cases b
 ·exact h.elim
 ·exact f h
theorem Br.imp{z:Bool}{p q p' q':Prop}(h:Br z p q)(f:p→p')(g:q→q'):cond z p' q':=by
 cases z
 ·exact g h.go
 ·exact f h.go
theorem star_ok{e:PySem.Expr}{es:List PySem.Expr}{env:Env}(h:notStar e=true):starEach (e::es) env=(false,eval e env)::starEach es env:=by
 induction e using PySem.Expr.casesOn <;> first |rfl |exact(Bool.false_ne_true h).elim
theorem star_any{es:List PySem.Expr}{pos:Pos}{env:Env}(h:es.all notStar=true):((backTo pos (starEach es env)).any fun x=>x.fst)=false:=by
 induction es with
 |nil=>rfl
 |cons e es ih=>
  rw[List.all_cons,Bool.and_eq_true] at h
  rw[star_ok h.1]
  exact ih h.2
section
variable {sc:Scope} {c:Cx sc} {env:Env} {d:Nat} {X:Wx} {σ:Sto} {K:V→Sto→Prop} {B:Bool→Sto→Prop}
theorem AE.mono{e:PySem.Expr}{K':V→Sto→Prop}(h:AE c env X e σ K)(k:∀a σ',K a σ'→K' a σ'):AE c env X e σ K':=fun pr fz m ι l hn r=>
 (h pr fz m ι l hn r).mono fun v l' p=>p.elim fun ι' fz' σ' a kk hv r' g n x=> .mk ι' fz' σ' a (k _ _ kk) hv r' g n x
theorem AL.mono{es:List PySem.Expr}{K K':List V→Sto→Prop}(h:AL c env X es σ K)(k:∀a σ',K a σ'→K' a σ'):AL c env X es σ K':=fun pr fz m ι l hn r=>
 TEL.mono (h pr fz m ι l hn r) fun v l' p=>p.elim fun ι' fz' σ' a kk hv r' g n x=> .mk ι' fz' σ' a (k _ _ kk) hv r' g n x
noncomputable def SoE{sc:Scope}(c:Cx sc)(E:WE):Prop:=∀env X e σ K,E X e σ K→AE c env X e σ K
noncomputable def SoT{sc:Scope}(c:Cx sc)(T:WT):Prop:=∀env X e σ K,T X e σ K→AT c env X e σ K
theorem wL.ok{E:WE}(hE:SoE c E)(es:List PySem.Expr):∀(σ:Sto) (K:List V→Sto→Prop),wL (E X) es σ K→AL c env X es σ K:=by
 induction es with
 |nil=>exact fun σ K h=>AL.nil h
 |cons e es ih=>exact fun σ K h=>AL.cons ((hE env X e σ _ (cond_t h).2).mono fun a σ1 k=>ih σ1 _ k) (star_ok (cond_t h).1)
theorem wA2.ok{E:WE}(hE:SoE c E){a b:PySem.Expr}{k k':V→V→Sto→Prop}(h:wA2 (E X) a b σ k)(f:∀x y σ',k x y σ'→k' x y σ'):A2 c env X a b σ k':=(hE env X a σ _ h).mono fun x σ1 k=>(hE env X b σ1 _ k).mono fun y σ2 k=>f _ _ _ k
theorem wCmp.okT{E:WE}(ok:Cok c d)(hd:8≤d)(hE:SoE c E){a:PySem.Expr}{pos:Pos}{ops:List CmpOp}{bs:List PySem.Expr}(h:wCmp (E X) a σ B ops bs):AT c env X (.Compare a ops bs pos) σ B:=
 on1.el (C:=fun ops=>AT c env X (.Compare a ops bs pos) σ B) h fun op h=>on1.el (C:=fun bs=>AT c env X (.Compare a [op] bs pos) σ B) h fun b h=>cond_n h fun hb h=>AT.cmpV ok hd (wA2.ok hE h fun o1_ o2_ o3_ k=>k) hb
theorem wCmp.okE{E:WE}(ok:Cok c d)(hd:8≤d)(hE:SoE c E){a:PySem.Expr}{pos:Pos}{ops:List CmpOp}{bs:List PySem.Expr}(h:wCmp (E X) a σ (fun z σ'=>K (.bool z) σ') ops bs):AE c env X (.Compare a ops bs pos) σ K:=
 on1.el (C:=fun ops=>AE c env X (.Compare a ops bs pos) σ K) h fun op h=>on1.el (C:=fun bs=>AE c env X (.Compare a [op] bs pos) σ K) h fun b h=>cond_n h fun hb h=>AE.cmpV ok hd (wA2.ok hE h fun o1_ o2_ o3_ k=>k) hb
theorem wCmpT.ok{E:WE}(ok:Cok c d)(hd:8≤d)(hE:SoE c E){a:PySem.Expr}{pos:Pos}{ops:List CmpOp}{bs:List PySem.Expr}(h:wCmpT (E X) a σ B ops bs):AT c env X (.Compare a ops bs pos) σ B:=by
 match ops,bs,h with
 |[op,op'],[b,b'],h=>
  have h:cond (lastMarks [op,op'] [b,b']) False (E X a σ fun x σ1=>E X b σ1 fun y σ2=>asI (fun i o1_ o2_=>asI (fun j o1_ o2_=>optK (fun z=>Br z (E X b' σ2 fun y' σ3=>asI (fun j' o1_ o2_=>optK (fun z'=>B z' σ3) (Cm op' j j')) y') (B false σ2)) (Cm op i j)) y) x):=h
  cases hb:lastMarks [op,op'] [b,b'] with
  |true=>rw[hb] at h;exact h.elim
  |false=>
   rw[hb] at h
   exact AT.chain ((hE env X a σ _ h).mono fun x σ1 k=>(hE env X b σ1 _ k).mono fun y σ2 k=>k.imp fun i o1_ o2_ k=>k.imp fun j o1_ o2_ k=>(optK.ok k).imp fun z q=>⟨q.1,q.2.imp (fun k=>(hE env X b' σ2 _ k).mono fun y' σ3 k=>k.imp fun j' o1_ o2_ k=>k.ok) id⟩) hb
 |[],bs,h=>exact wCmp.okT ok hd hE h
 |[_],bs,h=>exact wCmp.okT ok hd hE h
 |_::_::_::_,bs,h=>exact wCmp.okT ok hd hE h
 |[_,_],[],h=>exact wCmp.okT ok hd hE h
 |[_,_],[_],h=>exact wCmp.okT ok hd hE h
 |[_,_],_::_::_::_,h=>exact wCmp.okT ok hd hE h
theorem wSub.ok{E:WE}(ok:Cok c d)(hE:SoE c E){a ix:PySem.Expr}{pos:Pos}(h:wSub (E X) a σ K ix):AE c env X (.Subscript a ix pos) σ K:=by
 have other:cond (ixOk ix) (E X a σ fun x σ1=>cond (refy x) (E X ix σ1 fun b σ2=>wItem σ2 K x b) False) False→AE c env X (.Subscript a ix pos) σ K:=fun h=>
  AE.sub ok (cond_t h).1 ((hE env X a σ _ (cond_t h).2).mono fun x σ1 k=>⟨(cond_t k).1,hE env X ix σ1 _ (cond_t k).2⟩)
 induction ix using PySem.Expr.casesOn with
 |Slice lo hi st p=>
  induction st using Option.casesOn with
  |some o1_=>induction lo using Option.casesOn with
   |none=>exact other h
   |some o1_=>exact nomatch hi <;> exact other h
  |none=>induction lo using Option.casesOn with
   |none=>exact other h
   |some lo=>cases hi with
    |none=>exact AE.slice1 ok (cond_t h).1 ((hE env X a σ _ (cond_t h).2).mono fun x σ1 k=>hE env X lo σ1 _ k)
    |some hi=>exact AE.slice2 ok ((hE env X a σ _ h).mono fun x σ1 k=>(hE env X lo σ1 _ k).mono fun y σ2 k=>k.imp fun i o1_ o2_ k=>hE env X hi σ2 _ k)
 |_=>exact other h
theorem all_c{e:PySem.Expr}{es:List PySem.Expr}(h:(e::es).all notStar=true):notStar e=true∧es.all notStar=true:=and2 h
theorem wMeth.ok{Μ:List (Str×PF)}{E:WE}(ok:Cok c d)(hM:MthOk c.w Μ d)(hE:SoE c E){x a:Str}{xp ap pos:Pos}{as:List PySem.Expr}(h:wMeth Μ (E X) σ K (.Name x xp) a ap pos as):AE c env X (.Call (.Attribute (.Name x xp) a ap) as [] pos) σ K:=
 on1.el (C:=fun as=>AE c env X (.Call (.Attribute (.Name x xp) a ap) as [] pos) σ K) h fun e h=>
  have h0:=and2 (cond_t h).1
  cond_el (cond_t h).2 (fun ha h9=>by
   cases eq_of_beq ha
   exact AE.append ok ((hE env X _ σ _ h9).mono fun v σ1 k=>by
    induction v using V.casesOn with
    |ref j=>exact(optK.imp (show optK (fun o1_=>wL (E X) [e] σ1 fun as σ2=>frzL as σ2 fun bs σ3=>wAp2 σ3 K j bs) (lstAt σ1 j) from k) fun o1_ k=>wL.ok hE _ σ1 _ k)
    |_=>exact k.elim) (star_ok h0.1) h0.2)
   fun o1_ h=>(optK.ok h).elim fun F q=>AE.meth ok hM q.1 ((hE env X _ σ _ q.2).mono fun v σ1 k=>⟨(cond_t k).1,wL.ok hE _ σ1 _ (cond_t k).2⟩) (star_ok h0.1) h0.2
theorem wFnU.ok{Γ:Gam}{E:WE}(ok:Cok c d)(hΓ:GamOk c.w Γ d)(hE:SoE c E){f:Str}{fp:Pos}{as:List PySem.Expr}{pos:Pos}(hg:X.glo f=true)(ha:as.all notStar=true)(h:wFnU (E X) as σ K (List.lookup f Γ) (List.lookup f buT)):AE c env X (.Call (.Name f fp) as [] pos) σ K:=by
 cases e1:List.lookup f Γ with
 |some G=>
  rw[e1] at h
  induction as using List.casesOn with
  |nil=>exact AE.call0 ok hΓ e1 hg h
  |cons e es=>exact AE.call ok hΓ e1 hg (wL.ok hE _ σ _ h) (star_ok (all_c ha).1) (star_any (all_c ha).2)
 |none=>
  rw[e1] at h
  cases e2:List.lookup f buT with
  |some F=>
   rw[e2] at h
   induction as using List.casesOn with
   |nil=>exact h.elim
   |cons e es=>exact(buT.ok ok e2).elim fun u q=>AE.callU q.1 q.2.1 hg ((wL.ok hE (e::es) σ (fun vs σ1=>F vs σ1 K) h).mono fun as σ1 k=>q.2.2 as σ1 K k) (star_ok (all_c ha).1) (star_any (all_c ha).2)
  |none=>rw[e2] at h;exact h.elim
theorem wCall.ok{Γ:Gam}{Μ:List (Str×PF)}{E:WE}(ok:Cok c d)(hΓ:GamOk c.w Γ d)(hM:MthOk c.w Μ d)(hE:SoE c E){f:PySem.Expr}{as:List PySem.Expr}{kws:List Keyword}{pos:Pos}(h:wCall Γ Μ X (E X) σ K as pos f kws):AE c env X (.Call f as kws pos) σ K:=
 onNil.el (C:=fun kws=>AE c env X (.Call f as kws pos) σ K) h fun h=>by
  induction f using PySem.Expr.casesOn with
  |Name f fp=>exact wFnU.ok ok hΓ hE (and2 (cond_t h).1).1 (and2 (cond_t h).1).2 (cond_t h).2
  |Attribute o a ap=>exact onName.el (C:=fun o=>AE c env X (.Call (.Attribute o a ap) as [] pos) σ K) h fun x xp h=>wMeth.ok ok hM hE h
  |_=>exact h.elim
end
section
variable {sc:Scope} {c:Cx sc} {env:Env} {d:Nat} {X:Wx} {σ:Sto} {K:V→Sto→Prop} {B:Bool→Sto→Prop}
theorem AI.mono{tgt iter:PySem.Expr}{K K':IKt}(h:AI c env X tgt iter σ K)(k:∀tr as σ',K tr as σ'→K' tr as σ'):AI c env X tgt iter σ K':=fun pr fz m ι l hn r=>
 (h pr fz m ι l hn r).mono fun v l' p=>p.elim fun ι' fz' σ' tr as Pv src l₀ kk r' g n x it hs hi=> .mk ι' fz' σ' tr as Pv src l₀ (k _ _ _ kk) r' g n x it hs hi
theorem wZT.ok{E:WE}(ok:Cok c d)(hE:SoE c E){tgt:PySem.Expr}{f:Str}{fp:Pos}{as:List PySem.Expr}{pos:Pos}{K:IKt}(hg:X.glo f=true)(ha:as.all notStar=true)(h:wZT (E X) f as σ K tgt):AI c env X tgt (.Call (.Name f fp) as [] pos) σ K:=
 onTup.el (C:=fun tgt=>AI c env X tgt (.Call (.Name f fp) as [] pos) σ K) h fun elts kk tp h=>by
  induction as using List.casesOn with
  |nil=>exact h.elim
  |cons e es=>
   have A:=all_c ha
   refine cond_el (show cond (f==Str.ofString "zip") _ _ from h) (fun hz h9=>?_) fun o1_ h9=>?_
   ·cases eq_of_beq hz
    exact AI.args (G:=fun bs σ2=>wZip K σ2 bs) ⟨rfl,rfl,by decide⟩ hg (star_ok A.1) (star_any A.2) (wL.ok hE _ σ _ h9) fun pr fz m ι l σ as vs k r hv=>cond_el k (fun o1_ k=>wZip2.ok ok k r hv) fun o1_ k=>wZip3.ok ok k r hv
   ·have h8:=(cond_t h9).2
    cases eq_of_beq (cond_t h9).1
    exact AI.args (G:=fun bs σ2=>wEnum K bs σ2) ⟨rfl,rfl,by decide⟩ hg (star_ok A.1) (star_any A.2) (wL.ok hE _ σ _ h8) fun pr fz m ι l σ as vs k r hv=>wEnum.ok ok k r hv
theorem wItC.ok{E:WE}(ok:Cok c d)(hE:SoE c E){tgt f:PySem.Expr}{as:List PySem.Expr}{kws:List Keyword}{pos:Pos}{K:IKt}(h:wItC (E X) X.glo tgt as σ K f kws):AI c env X tgt (.Call f as kws pos) σ K:=
 onName.el (C:=fun f=>AI c env X tgt (.Call f as kws pos) σ K) h fun f fp h=>onNil.el (C:=fun kws=>AI c env X tgt (.Call (.Name f fp) as kws pos) σ K) h fun h=>
  have h1:=and2 (cond_t h).1
  cond_el (cond_t h).2 (fun hf h9=>by
   cases eq_of_beq hf
   exact on1.el (C:=fun as=>AI c env X tgt (.Call (.Name _ fp) as [] pos) σ K) h9 fun e h=>onName.el (C:=fun tgt=>AI c env X tgt (.Call (.Name _ fp) [e] [] pos) σ K) h fun x xp h=>AI.range h1.1 (star_ok (cond_t h).1) (hE env X e σ _ (cond_t h).2))
   fun o1_ h=>wZT.ok ok hE h1.1 h1.2 h
theorem wIt.ok{E:WE}(ok:Cok c d)(hE:SoE c E){tgt iter:PySem.Expr}{K:IKt}(h:wIt (E X) X.glo tgt σ K iter):AI c env X tgt iter σ K:=by
 have plain:wPlain (E X) iter σ K→AI c env X tgt iter σ K:=fun h=>AI.plain ok (hE env X iter σ _ h)
 induction iter using PySem.Expr.casesOn with
 |Call f as kws p=>exact wItC.ok ok hE h
 |Set _ _ _=>exact h.elim
 |_=>exact plain h
theorem wTst.ok{E:WE}{T:WT}(hE:SoE c E)(hT:SoT c T){elt:PySem.Expr}{ifs:List PySem.Expr}{Ky Ky':V→Sto→Prop}{Kn Kn':Sto→Prop}(h:wTst (E X) (T X) elt σ Ky Kn ifs)(f:∀a σ',Ky a σ'→Ky' a σ')(g:∀σ',Kn σ'→Kn' σ'):CTst c env X elt σ Ky' Kn' ifs:=by
 induction ifs using List.casesOn with
 |nil=>exact(hE env X elt σ _ h).mono f
 |cons t ts=>induction ts using List.casesOn with
  |nil=>exact(hT env X t σ _ h).mono fun z σ1 k=>k.imp (fun k=>(hE env X elt σ1 _ k).mono f) (g σ1)
  |cons o1_ o2_=>exact h.elim
theorem wCL.ok{E:WE}{T:WT}(hE:SoE c E)(hT:SoT c T){X':Wx}{scope:Scope}{elt:PySem.Expr}{ifs:List PySem.Expr}{nw:V→Option AO}{N:Nat}{K:List V→Sto→Prop}:∀(as ys:List V) (σ:Sto),wCL (E X') (T X') elt ifs nw N K as ys σ→CL c env scope X' elt ifs nw N K as ys σ:=by
 intro as
 induction as with
 |nil=>exact fun ys σ h=>h
 |cons a r ih=>exact fun ys σ h=>optK.imp h fun o h cl C=>wTst.ok hE hT h (fun b σ1 k=>frzK.imp k fun b' σ2 k=>optK.imp k fun τ k=>ih _ _ k) fun σ1 k=>optK.imp k fun τ k=>ih _ _ k
where
 frzK.imp {σ:Sto} {K K':V→Sto→Prop} {a:V} (h:frzK σ K a) (k:∀b σ',K b σ'→K' b σ'):frzK σ K' a:=by
  cases a with
  |ref j=>
   have h:(match σ[j]? with
  |some (.lst vs)=>K (.lst vs) (σ.set j (.frz vs))
  |some (.frz vs)=>K (.lst vs) σ
  |_=>False):=h
   show(match σ[j]? with
  |some (.lst vs)=>K' (.lst vs) (σ.set j (.frz vs))
  |some (.frz vs)=>K' (.lst vs) σ
  |_=>False)
   cases e:σ[j]? with
   |none=>rw[e] at h;exact h.elim
   |some o=>
    rw[e] at h
    induction o using AO.casesOn with
    |lst vs=>exact k _ _ h
    |frz vs=>exact k _ _ h
    |_=>exact h.elim
  |_=>exact k _ _ h
theorem wCK.ok{E:WE}{T:WT}(ok:Cok c d)(hE:SoE c E)(hT:SoT c T){elt tgt iter:PySem.Expr}{ifs:List PySem.Expr}{scope:Scope}{κ':List (Str×Nat)}{cs:List Str}(hcs:cellNs scope.names=cs)(hκo:κof X.κ scope.names []=some κ')(hkind:scope.kind= .function)(h:wCK E T X elt tgt iter ifs scope σ K κ' cs):AC c env X elt tgt iter ifs scope σ K:=by
 induction cs using List.casesOn with
 |nil=>
  obtain⟨ns,e,h1⟩:=optK.ok h
  obtain⟨h2,h3⟩:=cond_t h1
  exact AC.plain ok hκo hkind hcs e (fun x hx=>(List.all_eq_true.mp h2 x hx |> isLoc.ok)) ((wIt.ok ok hE h3).mono fun tr as σ1 k=>⟨(cond_t k).1,Nat.eq_of_beq_eq_true (cond_t (cond_t k).2).1,wCL.ok hE hT as [] σ1 (cond_t (cond_t k).2).2.ok⟩)
 |cons x xs=>induction xs using List.casesOn with
  |nil=>
   obtain⟨h2,h3⟩:=cond_t h
   rw[Bool.and_eq_true] at h2
   induction tgt using PySem.Expr.casesOn with
   |Name y py=>
    have e:=eq_of_beq (show(x==y)=true from h2.1)
    subst e
    exact AC.cell ok hκo hkind hcs (isCel.ok h2.2) ((wIt.ok ok hE h3).mono fun tr as σ1 k=>⟨(cond_t k).1,Nat.eq_of_beq_eq_true (cond_t (cond_t k).2).1,wCL.ok hE hT as [] σ1 (cond_t (cond_t k).2).2⟩)
   |_=>exact Bool.noConfusion h2.1
  |cons o1_ o2_=>exact h.elim
theorem set_ok{iter:PySem.Expr}(h:isSetE iter=false)(env:Env)(x:Value):foldedSetIterable iter env x=pure x:=by
 induction iter using PySem.Expr.casesOn <;> first |rfl |exact(Bool.false_ne_true h.symm).elim
theorem wComp.ok{E:WE}{T:WT}(ok:Cok c d)(hE:SoE c E)(hT:SoT c T){elt tgt iter:PySem.Expr}{ifs:List PySem.Expr}{scope:Scope}(h:wComp E T X elt tgt iter ifs scope σ K):CSt scope iter∧∀env,AC c env X elt tgt iter ifs scope σ K:=by
 obtain⟨h1,h2⟩:=cond_t h
 rw[Bool.and_eq_true,Bool.and_eq_true,Bool.not_eq_true'] at h1
 obtain⟨κ',e,h3⟩:=optK.ok h2
 have hk:scope.kind= .function:=by
  have:=h1.1.1
  cases hk:scope.kind <;> rw[hk] at this <;> first |rfl |exact nomatch this
 refine⟨⟨hk,fun y hy hl=>?_,fun env x=>set_ok h1.2 env x⟩,fun env=>wCK.ok ok hE hT rfl e hk h3⟩
 have:=List.all_eq_true.mp h1.1.2 y hy
 unfold locOk at this
 rw[hl] at this
 have this:isLoc (List.lookup y.1 scope.names)=true:=this
 exact isLoc.ok this
theorem stepE.ok{Γ:Gam}{Μ:List (Str×PF)}{E:WE}{T:WT}(ok:Cok c d)(hd:8≤d)(hΓ:GamOk c.w Γ d)(hM:MthOk c.w Μ d)(hE:SoE c E)(hT:SoT c T):SoE c (stepE Γ Μ E T):=fun env X e σ K h=>by
 induction e using PySem.Expr.casesOn with
 |Name x p=>exact(optK.ok h).elim fun a q=>AE.name q.1 q.2
 |Constant k kd p=>
  cases k with
  |int n=>exact AE.int h
  |bool b=>exact AE.bool h
  |_=>exact h.elim
 |Tuple es kd p=>exact AE.tuple ((wL.ok hE es σ _ h).mono fun as σ1 k=>cond_t k)
 |List es p=>exact AE.list ((wL.ok hE es σ _ h).mono fun as σ1 k=>cond_t k)
 |BinOp a op b p=>exact AE.binV ok (wA2.ok hE h fun o1_ o2_ o3_ k=>k)
 |UnaryOp op a p=>
  induction op using PySem.UnaryOp.casesOn with
  |USub=>exact AE.neg (hE env X a σ _ h)
  |_=>exact h.elim
 |IfExp t a b p=>exact AE.ifexp ((hT env X t σ _ h).mono fun z σ1 k=>k.imp (hE env X a σ1 _) (hE env X b σ1 _))
 |BoolOp op es p=>
  induction op using PySem.BoolOp.casesOn with
  |Or=>exact h.elim
  |And=>induction es using List.casesOn with
   |nil=>exact h.elim
   |cons a es=>induction es using List.casesOn with
    |nil=>exact h.elim
    |cons b es=>induction es using List.casesOn with
     |cons o1_ o2_=>exact h.elim
     |nil=>exact AE.and2 ((hE env X a σ _ h).mono fun x σ1 k=>k.imp fun z k=>k.imp (hE env X b σ1 _) id)
 |Compare a ops bs p=>exact wCmp.okE ok hd hE h
 |Subscript a ix p=>exact wSub.ok ok hE h
 |Attribute o a p=>
  induction o using PySem.Expr.casesOn with
  |Name x xp=>exact AE.attr ok (hE env X _ σ _ h)
  |_=>exact h.elim
 |Call f as kws p=>exact wCall.ok ok hΓ hM hE h
 |ListComp elt gs scope p=>
  exact on1.el (C:=fun gs=>AE c env X (.ListComp elt gs scope p) σ K) h fun g h=>by
   obtain⟨tgt,iter,ifs,z⟩:=g
   cases of_decide_eq_true (cond_t h).1
   have W:=wComp.ok ok hE hT (cond_t h).2
   exact AE.ofC W.1 (W.2 env)
 |_=>exact h.elim
theorem wAnd.ok{T:WT}(hT:SoT c T){pos:Pos}(es:List PySem.Expr):∀(σ:Sto) (K:Bool→Sto→Prop),wAnd (T X) es σ K→AT c env X (.BoolOp .And es pos) σ K:=by
 induction es with
 |nil=>exact fun σ K h=>AT.and_nil h
 |cons e es ih=>exact fun σ K h=>AT.and_ ((hT env X e σ _ h).mono fun z σ1 k=>k.imp (ih σ1 _) id)
theorem wOr.ok{T:WT}(hT:SoT c T){pos:Pos}(es:List PySem.Expr):∀(σ:Sto) (K:Bool→Sto→Prop),wOr (T X) es σ K→AT c env X (.BoolOp .Or es pos) σ K:=by
 induction es with
 |nil=>exact fun σ K h=>AT.or_nil h
 |cons e es ih=>exact fun σ K h=>AT.or_ ((hT env X e σ _ h).mono fun z σ1 k=>k.imp id (ih σ1 _))
theorem stepT.ok{E:WE}{T:WT}(ok:Cok c d)(hd:8≤d)(hE:SoE c E)(hT:SoT c T):SoT c (stepT E T):=fun env X e σ K h=>by
 induction e using PySem.Expr.casesOn with
 |BoolOp op es p=>
  induction op using PySem.BoolOp.casesOn with
  |And=>exact wAnd.ok hT es σ K h
  |Or=>exact wOr.ok hT es σ K h
 |UnaryOp op a p=>
  induction op using PySem.UnaryOp.casesOn with
  |Not=>exact AT.not (hT env X a σ _ h)
  |_=>exact h.elim
 |Compare a ops bs p=>exact wCmpT.ok ok hd hE h
 |Name x p=>exact AT.bool (hE env X _ σ _ h) rfl
 |Call f as kws p=>exact AT.bool (hE env X _ σ _ h) rfl
 |_=>exact h.elim
end
noncomputable def wp(Γ:Gam)(Μ:List (Str×PF))(n:Nat):WE×WT:=Nat.rec (fun o1_ o2_ o3_ o4_=>False,fun o1_ o2_ o3_ o4_=>False) (fun o1_ p=>(stepE Γ Μ p.1 p.2,stepT p.1 p.2)) n
theorem wp.ok{sc:Scope}{c:Cx sc}{d:Nat}{Γ:Gam}{Μ:List (Str×PF)}(ok:Cok c d)(hd:8≤d)(hΓ:GamOk c.w Γ d)(hM:MthOk c.w Μ d)(n:Nat):SoE c (wp Γ Μ n).1∧SoT c (wp Γ Μ n).2:=by
 induction n with
 |zero=>exact⟨fun o1_ o2_ o3_ o4_ o5_ h=>h.elim,fun o1_ o2_ o3_ o4_ o5_ h=>h.elim⟩
 |succ n ih=>exact⟨stepE.ok ok hd hΓ hM ih.1 ih.2,stepT.ok ok hd ih.1 ih.2⟩
noncomputable abbrev XK:=List (Str×V)→Sto→Prop
noncomputable abbrev WS:=List (Str×V)→Sto→List Stmt→XK→(V→Sto→Prop)→Prop
noncomputable abbrev Nms:=List (Str×NameKind)
noncomputable abbrev Kap:=List (Str×Nat)
noncomputable def fL{α:Type}(f:α→(α→Prop)→Prop):List α→(List α→Prop)→Prop
 |[],k=>k []
 |a::r,k=>f a fun b=>fL f r fun t=>k (b::t)
noncomputable def fV(a:V)(k:V→Prop):Prop:=match a with
  |.int i b l=>k (.int i b l)
  |.bool b=>k (.bool b)
  |.none=>k .none
  |.tup vs=>k (.tup vs)
  |.lst vs=>k (.lst vs)
  |.ell x y C S=>k (.ell x y C S)
  |.ref j=>fo j fun j=>k (.ref j)
noncomputable def fP:Str×V→(Str×V→Prop)→Prop
 |(x,a),k=>fV a fun b=>k (x,b)
noncomputable def fA:AO→(AO→Prop)→Prop
 |.lst vs,k=>fL (fV) vs fun t=>k (.lst t)
 |.frz vs,k=>k (.frz vs)
 |.cell (some a),k=>fV a fun b=>k (.cell (some b))
 |.cell none,k=>k (.cell none)
 |.ns bs,k=>fL fP bs fun t=>k (.ns t)
 |.cst a,k=>fV a fun b=>k (.cst b)
 |.obj O,k=>k (.obj O)
 |.ins j,k=>k (.ins j)
noncomputable def fS(S:WS):WS:=fun ρ σ b Kn Kr=>fL fP ρ fun ρ'=>fL fA σ fun σ'=>S ρ' σ' b Kn Kr
noncomputable def notComp(e:PySem.Expr):Bool:=not (Nat.beq e.ctorIdx 8||(Nat.beq e.ctorIdx 9||Nat.beq e.ctorIdx 10))
noncomputable def wOrd(names:Nms)(κ:Kap)(xs:List (Str×Pos))(as:List V)(ρ:List (Str×V))(σ:Sto)(Kn:XK):Option (List Str)→Prop
 |none=>wBinds names κ (xs.map (·.1)) as ρ σ Kn
 |some ns=>wBinds names κ ns.reverse as.reverse ρ σ Kn
noncomputable def wTup(names:Nms)(κ:Kap)(E:XE)(ρ:List (Str×V))(σ:Sto)(xs:List (Str×Pos))(Kn:XK):PySem.Expr→Prop
 |.Tuple es _ _=>optK (fun o=>wL E es σ fun as σ1=>cond (Nat.ble as.length 8) (wOrd names κ xs as ρ σ1 Kn o) False) (swO (fun x=>List.lookup x names) (nmT xs) es)
 |e=>E e σ fun a σ1=>optK (fun as=>wBinds names κ (xs.map (·.1)) as ρ σ1 Kn) (conts σ1 a)
noncomputable def wAsgE(E:WE)(T:WT)(X:Wx)(names:Nms)(κ:Kap)(ρ:List (Str×V))(σ:Sto)(x:Str)(px:Pos)(Kn:XK)(e:PySem.Expr):Prop:=cond (notComp e) (E X e σ fun a σ1=>wBind names κ x a ρ σ1 Kn) False
noncomputable def wAsgN(E:WE)(T:WT)(X:Wx)(names:Nms)(κ:Kap)(ρ:List (Str×V))(σ:Sto)(x:Str)(px:Pos)(Kn:XK):PySem.Expr→Prop:=exSw (fun a p=>wAsgE E T X names κ ρ σ x px Kn (.Name a p)) (fun a b p=>wAsgE E T X names κ ρ σ x px Kn (.Tuple a b p)) (fun a b c p=>wAsgE E T X names κ ρ σ x px Kn (.Slice a b c p)) (fun a b c p=>wAsgE E T X names κ ρ σ x px Kn (.Call a b c p)) (fun a b p=>wAsgE E T X names κ ρ σ x px Kn (.Attribute a b p)) (fun elt gs scope vp=>cond (swW (fun x=>List.lookup x names) scope x px.line vp.line) (wGen E T X elt scope σ (fun a σ1=>Kn (upL x a ρ) σ1) gs) (wGen E T X elt scope σ (fun a σ1=>wBind names κ x a ρ σ1 Kn) gs)) (fun a b p=>wAsgE E T X names κ ρ σ x px Kn (.Subscript a b p)) (wAsgE E T X names κ ρ σ x px Kn)
noncomputable def wAsg1(E:WE)(T:WT)(names:Nms)(κ:Kap)(ρ:List (Str×V))(σ:Sto)(e:PySem.Expr)(Kn:XK):PySem.Expr→Prop:=exSw (fun x px=>wAsgN E T (fX names κ ρ) names κ ρ σ x px Kn e) (fun ts o1_ o2_=>optK (fun xs=>wTup names κ (E (fX names κ ρ)) ρ σ xs Kn e) (unN ts)) (fun o1_ o2_ o3_ o4_=>False) (fun o1_ o2_ o3_ o4_=>False) (fun o1_ o2_ o3_=>False) (fun o1_ o2_ o3_ o4_=>False) (fun o ix o1_=>cond (notComp e) (E (fX names κ ρ) e σ fun a σ1=>E (fX names κ ρ) o σ1 fun x σ2=>E (fX names κ ρ) ix σ2 fun y σ3=>wSet σ3 (fun σ4=>Kn ρ σ4) a x y) False) fun o1_=>False
noncomputable def wAsg(E:WE)(T:WT)(names:Nms)(κ:Kap)(ρ:List (Str×V))(σ:Sto)(e:PySem.Expr)(Kn:XK)(ts:List PySem.Expr):Prop:=on1 (wAsg1 E T names κ ρ σ e Kn) ts
noncomputable def wWhile(T:WT)(S:WS)(names:Nms)(κ:Kap)(t:PySem.Expr)(b:List Stmt)(ρ:List (Str×V))(σ:Sto)(Kx:XK):List Stmt→Prop
 |[]=>∃I:Nat→List (Str×V)→Sto→Prop,(∃n ρ0,ShR ρ ρ0∧I n ρ0 σ)∧∀n ρ' σ',I n ρ' σ'→T (fX names κ ρ') t σ' fun z σ1=>Br z (S ρ' σ1 b (fun ρ2 σ2=>∃n' ρ3,n'<n∧ShR ρ2 ρ3∧I n' ρ3 σ2) (fun o1_ o2_=>False)) (Kx ρ' σ1)
 |_=>False
noncomputable def brk1:Stmt→Option PySem.Expr
 |.If t [.Break _] [] _=>some t
 |_=>none
theorem brk1.ok{s:Stmt}{t:PySem.Expr}(h:brk1 s=some t):∃bp p,s= .If t [.Break bp] [] p:=by
 induction s using PySem.Stmt.casesOn with
 |If t b1 b2 p=>induction b1 using List.casesOn with
  |nil=>exact nomatch h
  |cons s1 b1=>induction s1 using PySem.Stmt.casesOn with
   |Break bp=>induction b1 using List.casesOn with
    |cons o1_ o2_=>exact nomatch h
    |nil=>induction b2 using List.casesOn with
     |cons o1_ o2_=>exact nomatch h
     |nil=>exact⟨bp,p,Option.some.inj h▸rfl⟩
   |_=>exact nomatch h
 |_=>exact nomatch h
noncomputable def wBk(k:PySem.Expr→Prop)(p:Prop):Option PySem.Expr→Prop
 |none=>p
 |some t=>k t
noncomputable def wBody(T:WT)(S:WS)(names:Nms)(κ:Kap)(ρ:List (Str×V))(σ:Sto)(Kn Kb:XK)(Kr:V→Sto→Prop):List Stmt→Prop
 |[]=>S ρ σ [] Kn Kr
 |s::b=>wBk (fun t=>T (fX names κ ρ) t σ fun z σ1=>Br z (Kb ρ σ1) (S ρ σ1 b Kn Kr)) (S ρ σ (s::b) Kn Kr) (brk1 s)
noncomputable def wFor(T:WT)(S:WS)(names:Nms)(κ:Kap)(tgt:PySem.Expr)(tr:Nat)(b:List Stmt)(N:Nat)(Kx:XK)(Kr:V→Sto→Prop):List V→List (Str×V)→Sto→Prop
 |[],ρ,σ=>Kx ρ σ
 |a::r,ρ,σ=>wTg names κ tr a ρ σ (fun ρ1 σ1=>wBody T S names κ ρ1 σ1 (fun ρ2 σ2=>optK (fun τ=>optK (fun ρ3=>wFor T S names κ tgt tr b N Kx Kr r ρ3 τ) (cleanR N σ2 ρ2)) (clS N σ2)) Kx Kr b) tgt
structure Lp(T:WT)(S:WS)(names:Nms)(κ:Kap)(tgt:PySem.Expr)(tr:Nat)(b:List Stmt)(N:Nat)(Kx:XK)(Kr:V→Sto→Prop)(as:List V)(ρ:List (Str×V))(σ:Sto):Prop where
 intro ::
 go:wFor T S names κ tgt tr b N Kx Kr as ρ σ
noncomputable def isLoop:PySem.Expr→Bool
 |.Name x _=>x==Str.ofString "curve"
 |_=>false
noncomputable def wForL(T:WT)(S:WS)(names:Nms)(κ:Kap)(tgt:PySem.Expr)(tr:Nat)(b:List Stmt)(N:Nat)(Kx:XK)(Kr:V→Sto→Prop)(as:List V)(ρ:List (Str×V))(σ:Sto):Prop:=
 cond (isLoop tgt) (Lp T S names κ tgt tr b N Kx Kr as ρ σ) (wFor T S names κ tgt tr b N Kx Kr as ρ σ)
noncomputable def wAug(E:XE)(names:Nms)(ρ:List (Str×V))(σ:Sto)(e:PySem.Expr)(Kn:XK)(op:Operator)(t:PySem.Expr):Prop:=
 onName (fun x o1_=>match op with
  |.Add=>cond (isLoc (List.lookup x names)) (optK (fun a=>asI (fun i bi li=>E e σ fun y σ1=>asI (fun j bj lj=>wAdd i bi li j bj lj fun n bn ln=>Kn (upL x (.int n bn ln) ρ) σ1) y) a) (List.lookup x ρ)) False
  |_=>False) t
noncomputable def stepS(E:WE)(T:WT)(S:WS)(names:Nms)(κ:Kap):WS:=fun ρ σ b Kn Kr=>match b with
 |[]=>Kn ρ σ
 |s::r=>match s with
  |.Return e _=>optK (fun e=>E (fX names κ ρ) e σ Kr) e
  |.Assign ts e _=>wAsg E T names κ ρ σ e (fun ρ' σ'=>S ρ' σ' r Kn Kr) ts
  |.AugAssign t op e _=>wAug (E (fX names κ ρ)) names ρ σ e (fun ρ' σ'=>S ρ' σ' r Kn Kr) op t
  |.While t b oe _=>wWhile T S names κ t b ρ σ (fun ρ' σ'=>S ρ' σ' r Kn Kr) oe
  |.For tgt iter b oe _=>cond (oe.isEmpty && !isSetE iter) (wIt (E (fX names κ ρ)) (fX names κ ρ).glo tgt σ (fun tr as σ1=>wForL T S names κ tgt tr b σ1.length (fun ρ' σ'=>S ρ' σ' r Kn Kr) Kr as ρ σ1) iter) False
  |.If t b1 b2 _=>T (fX names κ ρ) t σ fun z σ1=>Br z (S ρ σ1 b1 (fun ρ' σ'=>S ρ' σ' r Kn Kr) Kr) (S ρ σ1 b2 (fun ρ' σ'=>S ρ' σ' r Kn Kr) Kr)
  |.Expr e _=>cond (notComp e) (E (fX names κ ρ) e σ fun o1_ σ1=>S ρ σ1 r Kn Kr) False
  |_=>False
noncomputable def wS(Γ:Gam)(Μ:List (Str×PF))(names:Nms)(κ:Kap)(n:Nat):WS:=Nat.rec (fun o1_ o2_ o3_ o4_ o5_=>False) (fun n S=>stepS (wp Γ Μ n).1 (wp Γ Μ n).2 (fS S) names κ) n
section
variable {sc:Scope} {c:Cx sc} {d:Nat} {κ:Kap} {ρ:List (Str×V)} {σ:Sto} {Kn Kb:XK} {Kr:V→Sto→Prop}
theorem AS.mono{b:List Stmt}{Kn':XK}{Kr':V→Sto→Prop}(h:AS c κ ρ σ b Kn Kr)(f:∀ρ' σ',Kn ρ' σ'→Kn' ρ' σ')(g:∀a σ',Kr a σ'→Kr' a σ'):AS c κ ρ σ b Kn' Kr':=fun pr fz m ι l hl hk r s Q E pe F N q k=>
 h pr fz m ι l hl hk r s Q E pe F N (fun v m' l' h' tk' p=>q v m' l' h' tk' (p.elim fun ι' fz' σ' a kk hv r' g' n x=> .mk ι' fz' σ' a (g _ _ kk) hv r' g' n x)) fun m' l' h' tk' p=>k m' l' h' tk' (p.elim fun ι' fz' ρ' σ' kk hl' r' g' n x=> .mk ι' fz' ρ' σ' (f _ _ kk) hl' r' g' n x)
theorem AB.mono{x:Str}{a:V}{K K':XK}(h:AB c κ x a ρ σ K)(k:∀ρ' σ',K ρ' σ'→K' ρ' σ'):AB c κ x a ρ σ K':=fun pr fz m ι l v hv hl hk r=>
 TB.mono (h pr fz m ι l v hv hl hk r) fun m' l' p=>p.elim fun ι' fz' ρ' σ' kk hl' r' g n x=> .mk ι' fz' ρ' σ' (k _ _ kk) hl' r' g n x
theorem ATg.mono{tgt:PySem.Expr}{tr:Nat}{a:V}{K K':XK}(h:ATg c κ tgt tr a ρ σ K)(k:∀ρ' σ',K ρ' σ'→K' ρ' σ'):ATg c κ tgt tr a ρ σ K':=fun pr fz m ι l u pre hp hl hk r s Q E F N hpre q=>
 h pr fz m ι l u pre hp hl hk r s Q E F N hpre fun m' l' h' tk' p=>q m' l' h' tk' (p.elim fun ι' fz' ρ' σ' kk hl' r' g n x=> .mk ι' fz' ρ' σ' (k _ _ kk) hl' r' g n x)
theorem swap_no{e t:PySem.Expr}{n:Nat}{env:Env}(h:notComp e=true):swapsWith e (some t) n env=pure false:=by
 induction e using PySem.Expr.casesOn <;> first |rfl |exact(Bool.false_ne_true h).elim
theorem swap_none{e:PySem.Expr}{n:Nat}{env:Env}(h:notComp e=true):swapsWith e none n env=pure false:=by
 induction e using PySem.Expr.casesOn <;> first |rfl |exact(Bool.false_ne_true h).elim
theorem swap_tup{e:PySem.Expr}{ts:List PySem.Expr}{kk:Nat}{tp:Pos}{n:Nat}{env:Env}:swapsWithSole [.Tuple ts kk tp] e n env=pure false:=by
 induction e using PySem.Expr.casesOn <;> rfl
theorem swap_tno{e:PySem.Expr}{ts:List PySem.Expr}{kk:Nat}{tp:Pos}{env:Env}(h:∀es k p,e≠.Tuple es k p):swappedStores [.Tuple ts kk tp] e env=pure none:=by
 induction e using PySem.Expr.casesOn <;> first |rfl |exact absurd rfl (h _ _ _)
noncomputable def SoS{sc:Scope}(c:Cx sc)(κ:Kap)(S:WS):Prop:=∀ρ σ b Kn Kr,S ρ σ b Kn Kr→AS c κ ρ σ b Kn Kr
theorem wBind.imp{names:Nms}{x:Str}{a:V}{K K':XK}(h:wBind names κ x a ρ σ K)(f:∀ρ' σ',K ρ' σ'→K' ρ' σ'):wBind names κ x a ρ σ K':=by
 unfold wBind at h ⊢
 split at h
 ·exact f _ _ h
 ·exact optK.imp h fun j h=>optK.imp h fun o h=>by
   induction o using AO.casesOn with
   |cell o1_=>exact f _ _ h
   |_=>exact h.elim
 ·exact h.elim
theorem wBinds.imp{names:Nms}:∀{xs:List Str} {as:List V} {ρ:List (Str×V)} {σ:Sto} {K K':XK},wBinds names κ xs as ρ σ K→(∀ρ' σ',K ρ' σ'→K' ρ' σ')→wBinds names κ xs as ρ σ K':=by
 intro xs
 induction xs with
 |nil=>
  intro as ρ σ K K' h f
  induction as using List.casesOn with
  |nil=>exact f _ _ h
  |cons o1_ o2_=>exact h.elim
 |cons x xs ih=>
  intro as ρ σ K K' h f
  induction as using List.casesOn with
  |nil=>exact h.elim
  |cons a as=>exact wBind.imp (show wBind names κ x a ρ σ (fun ρ' σ'=>wBinds names κ xs as ρ' σ' K) from h) fun ρ' σ' h=>ih h f
theorem wTup.ok{E:WE}(ok:Cok c d)(hE:SoE c E){xs:List (Str×Pos)}{kk:Nat}{tp pos:Pos}{e:PySem.Expr}{b:List Stmt}{K:XK}(hb:∀ρ' σ',K ρ' σ'→AS c κ ρ' σ' b Kn Kr)
  (h:wTup sc.names κ (E (fX sc.names κ ρ)) ρ σ xs K e):AS c κ ρ σ (.Assign [.Tuple (nmT xs) kk tp] e pos::b) Kn Kr:=by
 have other:(∀es k p,e≠.Tuple es k p)→(E (fX sc.names κ ρ) e σ fun a σ1=>optK (fun as=>wBinds sc.names κ (xs.map (·.1)) as ρ σ1 K) (conts σ1 a))→AS c κ ρ σ (.Assign [.Tuple (nmT xs) kk tp] e pos::b) Kn Kr:=fun hne h=>
  AS.unpack ok (fun pr fz m ι l hn r=>(hE _ _ e σ _ h pr fz m ι l hn r).mono fun v l' p=>p.elim fun ι' fz' σ' a k hv r' g n x=>(optK.ok k).elim fun as q=>(conts_at ok q.1 r' hv).elim fun A z=>z.elim fun ws z=>
   ⟨A,ws,isTp a,z.1,z.2.2,.mk ι' fz' σ' as (wBinds.imp q.2 hb) z.2.1.q r' g n x⟩) swap_tup (swap_tno hne)
 induction e using PySem.Expr.casesOn with
 |Tuple es k p=>
  obtain⟨o,hw,h⟩:=optK.ok h
  have hw:=swO.ok (env:=c.env) (kk:=kk) (k:=k) (tp:=tp) (p:=p) (blockKind_def ok) hw
  induction o using Option.casesOn with
  |none=>exact AS.unpack ok (fun pr fz m ι l hn r=>(TE.raw ((wL.ok hE es σ _ h).mono fun as σ1 k=>⟨(cond_t k).1,wBinds.imp (cond_t k).2 hb⟩) hn r).mono fun v l' p=>p.elim fun A p=>p.elim fun ws p=>⟨A,ws,true,p.1,fun m h F N=>⟨_,(N _ p.2.1).1,rfl,_,rfl⟩,p.2.2⟩) swap_tup hw
  |some ns=>exact AS.unpackS ok (fun pr fz m ι l hn r=>TE.raw ((wL.ok hE es σ _ h).mono fun as σ1 k=>⟨(cond_t k).1,wBinds.imp (cond_t k).2 hb⟩) hn r) swap_tup hw
 |_=>exact other (fun o1_ o2_ o3_ e=>by exact nomatch e) h
theorem wGen.ok{E:WE}{T:WT}{X:Wx}(ok:Cok c d)(hE:SoE c E)(hT:SoT c T){elt:PySem.Expr}{gs:List Comprehension}{scope:Scope}{K:V→Sto→Prop}(h:wGen E T X elt scope σ K gs):∃tgt iter ifs,gs=[⟨tgt,iter,ifs,0⟩]∧CSt scope iter∧∀env,AC c env X elt tgt iter ifs scope σ K:=
 on1.el (C:=fun gs=>∃tgt iter ifs,gs=[⟨tgt,iter,ifs,0⟩]∧CSt scope iter∧∀env,AC c env X elt tgt iter ifs scope σ K) h fun g h=>by
  obtain⟨tgt,iter,ifs,z⟩:=g
  cases of_decide_eq_true (cond_t h).1
  exact⟨tgt,iter,ifs,rfl,wComp.ok ok hE hT (cond_t h).2⟩
theorem wAsgN.ok{E:WE}{T:WT}(ok:Cok c d)(hE:SoE c E)(hT:SoT c T){x:Str}{px pos:Pos}{e:PySem.Expr}{b:List Stmt}{K:XK}(hb:∀ρ' σ',K ρ' σ'→AS c κ ρ' σ' b Kn Kr)(h:wAsgN E T (fX sc.names κ ρ) sc.names κ ρ σ x px K e):AS c κ ρ σ (.Assign [.Name x px] e pos::b) Kn Kr:=by
 have other:notComp e=true→(E (fX sc.names κ ρ) e σ fun a σ1=>wBind sc.names κ x a ρ σ1 K)→AS c κ ρ σ (.Assign [.Name x px] e pos::b) Kn Kr:=fun hc h=>
  AS.bind ok ((hE _ _ e σ _ h).mono fun a σ1 k=>(wBind.ok ok k).mono fun ρ' σ' k=>hb ρ' σ' k) (swap_no hc)
 have other':cond (notComp e) (E (fX sc.names κ ρ) e σ fun a σ1=>wBind sc.names κ x a ρ σ1 K) False→AS c κ ρ σ (.Assign [.Name x px] e pos::b) Kn Kr:=fun h=>other (cond_t h).1 (cond_t h).2
 induction e using PySem.Expr.casesOn with
 |ListComp elt gs scope vp=>
  have hsw:=swW.ok (env:=c.env) (elt:=elt) (gs:=gs) (scope:=scope) (p:=vp) (tp:=px) (t:=x) (n:=pos.line) (blockKind_def ok)
  have h:cond (swW c.env.kindOf scope x px.line vp.line) (wGen E T (fX sc.names κ ρ) elt scope σ (fun a σ1=>K (upL x a ρ) σ1) gs) (wGen E T (fX sc.names κ ρ) elt scope σ (fun a σ1=>wBind sc.names κ x a ρ σ1 K) gs):=h
  cases hz:swW c.env.kindOf scope x px.line vp.line with
  |true=>
   rw[hz] at h hsw
   obtain⟨tgt,iter,ifs,rfl,S,A⟩:=wGen.ok ok hE hT h
   have hx:List.lookup x sc.names=some .local:=by
    unfold swW at hz
    rw[Bool.and_eq_true,Bool.and_eq_true] at hz
    have:=hz.1.1
    change isLoc (List.lookup x sc.names)=true at this
    exact isLoc.ok this
   exact AS.ofC ok S hx hsw fun pr fz m ι l hn r=>(A c.env pr fz m ι l hn r).imp fun cl q=>q.imp fun ck q=>⟨q.new,q.clos,fun Pw hPw=>q.run Pw fun v l' p=>hPw v l' (p.elim fun ι' fz' σ' a k hv r' g n x=> .mk ι' fz' σ' a (hb _ _ k) hv r' g n x)⟩
  |false=>
   rw[hz] at h hsw
   obtain⟨tgt,iter,ifs,rfl,S,A⟩:=wGen.ok ok hE hT h
   exact AS.bind ok ((AE.ofC S (A c.env)).mono fun a σ1 k=>(wBind.ok ok k).mono fun ρ' σ' k=>hb ρ' σ' k) hsw
 |_=>exact other' h
theorem wBody.ok{E:WE}{T:WT}{S:WS}(ok:Cok c d)(hT:SoT c T)(hS:SoS c κ S){b:List Stmt}{Kn' Kb':XK}(h:wBody T S sc.names κ ρ σ Kn Kb Kr b)(f:∀ρ' σ',Kn ρ' σ'→Kn' ρ' σ')(g:∀ρ' σ',Kb ρ' σ'→Kb' ρ' σ'):ASb c κ ρ σ b Kn' Kb' Kr:=by
 have plain:S ρ σ b Kn Kr→ASb c κ ρ σ b Kn' Kb' Kr:=fun h=>((hS ρ σ b Kn Kr h).mono f fun o1_ o2_ k=>k).b
 induction b using List.casesOn with
 |nil=>exact plain h
 |cons s r=>
  have h:wBk _ _ (brk1 s):=h
  cases e:brk1 s with
  |none=>rw[e] at h;exact plain h
  |some t=>
   rw[e] at h
   obtain⟨bp,p,e⟩:=brk1.ok e
   subst e
   exact ASb.brk ok ((hT _ _ t σ _ h).mono fun z σ1 k=>k.imp (g ρ σ1) fun k=>(hS ρ σ1 r Kn Kr k).mono f fun o1_ o2_ k=>k)
theorem wFor.ok{E:WE}{T:WT}{S:WS}(ok:Cok c d)(hT:SoT c T)(hS:SoS c κ S){tgt:PySem.Expr}{tr N:Nat}{b:List Stmt}{Kx Kx':XK}(hx:∀ρ' σ',Kx ρ' σ'→Kx' ρ' σ'):∀(as:List V) (ρ:List (Str×V)) (σ:Sto),wFor T S sc.names κ tgt tr b N Kx Kr as ρ σ→AF c κ tgt tr b N Kx' Kr as ρ σ:=by
 intro as
 induction as with
 |nil=>exact fun ρ σ h=>hx ρ σ h
 |cons a r ih=>exact fun ρ σ h=>(wTg.ok ok h).mono fun ρ1 σ1 k=>wBody.ok (E:=E) ok hT hS k (fun ρ2 σ2 k=>optK.imp k fun τ k=>optK.imp k fun ρ3 k=>ih ρ3 τ k) hx
theorem wForL.ok{T:WT}{S:WS}{names:Nms}{tgt:PySem.Expr}{tr N:Nat}{b:List Stmt}{Kx:XK}{as:List V}{ρ:List (Str×V)}{σ:Sto}(h:wForL T S names κ tgt tr b N Kx Kr as ρ σ):wFor T S names κ tgt tr b N Kx Kr as ρ σ:=by
 unfold wForL at h
 cases e:isLoop tgt with
 |true=>rw[e] at h;exact Lp.go h
 |false=>rw[e] at h;exact h
theorem wAdd.imp{i j:Int}{bi li bj lj:Option Nat}{k k':IK}(h:wAdd i bi li j bj lj k)(f:∀n b l,k n b l→k' n b l):wAdd i bi li j bj lj k':=by
 have o2i:∀{g:Nat→Nat→Nat} {a b:Option Nat} {k k':Option Nat→Prop},o2 g k a b→(∀c,k c→k' c)→o2 g k' a b:=fun{g a b k k'} h f=>by
  induction a using Option.casesOn with
  |none=>exact f _ h
  |some x=>induction b using Option.casesOn with
   |none=>exact f _ h
   |some y=>
    have h:fo (g x y) fun z=>k (some z):=h
    show fo (g x y) fun z=>k' (some z)
    cases e:g x y with
    |zero=>rw[e] at h;exact f _ h
    |succ n=>rw[e] at h;exact f _ h
 exact o2i h fun c h=>o2i h fun c2 h=>f _ _ _ h
theorem wSet.imp{K K':Sto→Prop}{a x y:V}(h:wSet σ K a x y)(f:∀σ',K σ'→K' σ'):wSet σ K' a x y:=by
 induction x using V.casesOn with
 |ref j=>induction y using V.casesOn with
  |int z o1_ o2_=>induction z using Int.casesOn with
   |ofNat i=>
    have h:frzK σ (fun b σ'=>optK (fun vs=>cond (Nat.ble vs.length 1000&&Nat.ble (i+1) vs.length) (K (σ'.set j (.lst (vs.set i b)))) False) (lstAt σ' j)) a:=h
    exact wCL.ok.frzK.imp h fun b σ' k=>optK.imp k fun vs k=>condF.imp k (f _)
   |negSucc o1_=>exact h.elim
  |_=>exact h.elim
 |_=>induction y using V.casesOn <;> exact h.elim
theorem wAsg1.ok{E:WE}{T:WT}(ok:Cok c d)(hE:SoE c E)(hT:SoT c T){t e:PySem.Expr}{pos:Pos}{r:List Stmt}{K:XK}(hr:∀ρ' σ',K ρ' σ'→AS c κ ρ' σ' r Kn Kr)(h:wAsg1 E T sc.names κ ρ σ e K t):AS c κ ρ σ (.Assign [t] e pos::r) Kn Kr:=by
 induction t using PySem.Expr.casesOn with
 |Tuple us kk tp=>
  obtain⟨xs,e1,h⟩:=optK.ok h
  rw[unN.ok e1]
  exact wTup.ok ok hE hr h
 |Name x px=>exact wAsgN.ok ok hE hT hr h
 |Subscript o ix sp=>exact AS.set ok ((hE _ _ e σ _ (cond_t h).2).mono fun a σ1 k=>(hE _ _ o σ1 _ k).mono fun x σ2 k=>(hE _ _ ix σ2 _ k).mono fun y σ3 k=>wSet.imp k (hr ρ)) (swap_no (cond_t h).1)
 |_=>exact h.elim
theorem wAug.ok{E:WE}(ok:Cok c d)(hE:SoE c E){op:Operator}{t e:PySem.Expr}{pos:Pos}{r:List Stmt}{K:XK}(hr:∀ρ' σ',K ρ' σ'→AS c κ ρ' σ' r Kn Kr)(h:wAug (E (fX sc.names κ ρ)) sc.names ρ σ e K op t):AS c κ ρ σ (.AugAssign t op e pos::r) Kn Kr:=
 onName.el (C:=fun t=>AS c κ ρ σ (.AugAssign t op e pos::r) Kn Kr) h fun x xp h=>by
  induction op using PySem.Operator.casesOn with
  |Add=>
   obtain⟨a,ea,h3⟩:=optK.ok (cond_t h).2
   exact AS.aug ok (isLoc.ok (cond_t h).1) ea (h3.imp fun i bi li h=>(hE _ _ e σ _ h).mono fun y σ1 k=>k.imp fun j bj lj k=>wAdd.imp k fun n bn ln k=>hr _ _ k)
  |_=>exact h.elim
theorem stepS.ok{E:WE}{T:WT}{S:WS}(ok:Cok c d)(hE:SoE c E)(hT:SoT c T)(hS:SoS c κ S):SoS c κ (stepS E T S sc.names κ):=fun ρ σ b Kn Kr h=>by
 induction b using List.casesOn with
 |nil=>exact AS.nil h
 |cons s r=>
  have hr:∀ρ' σ',S ρ' σ' r Kn Kr→AS c κ ρ' σ' r Kn Kr:=fun ρ' σ' k=>hS ρ' σ' r Kn Kr k
  induction s using PySem.Stmt.casesOn with
  |Return e p=>
   induction e using Option.casesOn with
   |none=>exact h.elim
   |some e=>exact AS.ret ok (hE _ _ e σ _ h)
  |Assign ts e p=>exact on1.el (C:=fun ts=>AS c κ ρ σ (.Assign ts e p::r) Kn Kr) h fun t h=>wAsg1.ok ok hE hT hr h
  |AugAssign t op e p=>exact wAug.ok ok hE hr h
  |While t b oe p=>induction oe using List.casesOn with
   |nil=>
    exact h.elim fun I hI=>AS.whileS ok I hI.1 fun n ρ' σ' hi=>(hT _ _ t σ' _ (hI.2 n ρ' σ' hi)).mono fun z σ1 k=>k.imp (fun k=>hS _ _ b _ _ k) (hr _ _)
   |cons o1_ o2_=>exact h.elim
  |For tgt iter b oe p=>
   obtain⟨h1,h2⟩:=cond_t h
   rw[Bool.and_eq_true,Bool.not_eq_true'] at h1
   induction oe using List.casesOn with
   |cons o1_ o2_=>exact Bool.noConfusion h1.1
   |nil=>exact AS.for ok ((wIt.ok ok hE h2).mono fun tr as σ1 k=>wFor.ok (E:=E) ok hT hS hr as ρ σ1 k.ok) (set_ok h1.2 c.env)
  |If t b1 b2 p=>exact AS.if_ ok ((hT _ _ t σ _ h).mono fun z σ1 k=>k.imp (fun k=>(hS _ _ b1 _ _ k).mono hr fun o1_ o2_ k=>k) fun k=>(hS _ _ b2 _ _ k).mono hr fun o1_ o2_ k=>k)
  |Expr e p=>
   obtain⟨h1,h2⟩:=cond_t h
   exact AS.expr ok ((hE _ _ e σ _ h2).mono fun o1_ σ1 k=>hr ρ σ1 k) (by show(sc.kind == .module&&_)=false;rw[ok.k];rfl) (swap_none h1)
  |_=>exact h.elim
theorem fL.ok{α:Type}{f:α→(α→Prop)→Prop}(hf:∀a k,f a k→k a):∀{l:List α} {k:List α→Prop},fL f l k→k l
 |[],_,h=>h
 |_::r,_,h=>fL.ok hf (l:=r) (hf _ _ h)
theorem fV.ok(a:V)(k:V→Prop)(h:fV a k):k a:=by
 induction a using V.casesOn with
 |ref j=>exact fo.ok (k:=fun j=>k (.ref j)) h
 |_=>exact h
theorem fP.ok(p:Str×V)(k:Str×V→Prop)(h:fP p k):k p:=fV.ok p.2 (fun b=>k (p.1,b)) h
theorem fA.ok(o:AO)(k:AO→Prop)(h:fA o k):k o:=by
 induction o using AO.casesOn with
 |lst vs=>exact fL.ok fV.ok (k:=fun t=>k (.lst t)) h
 |frz vs=>exact h
 |cell v=>induction v using Option.casesOn with
  |none=>exact h
  |some a=>exact fV.ok a (fun b=>k (.cell (some b))) h
 |ns bs=>exact fL.ok fP.ok (k:=fun t=>k (.ns t)) h
 |cst a=>exact fV.ok a (fun b=>k (.cst b)) h
 |obj O=>exact h
 |ins j=>exact h
theorem fS.ok{S:WS}(hS:SoS c κ S):SoS c κ (fS S):=fun ρ σ b Kn Kr h=>hS _ _ _ _ _ (fL.ok fA.ok (fL.ok fP.ok (k:=fun ρ'=>fL fA σ fun σ'=>S ρ' σ' b Kn Kr) h))
theorem wS.ok{Γ:Gam}{Μ:List (Str×PF)}(ok:Cok c d)(hd:8≤d)(hΓ:GamOk c.w Γ d)(hM:MthOk c.w Μ d)(n:Nat):SoS c κ (wS Γ Μ sc.names κ n):=by
 induction n with
 |zero=>exact fun o1_ o2_ o3_ o4_ o5_ h=>h.elim
 |succ n ih=>exact stepS.ok ok (wp.ok ok hd hΓ hM n).1 (wp.ok ok hd hΓ hM n).2 (fS.ok ih)
end
inductive BndV(w:World)(fz:Led)(N:Nat)(ι:Nat→Addr):List (Str×V)→List (Str×Value)→Prop where
 |nil:BndV w fz N ι [] []
 |cons {x:Str} {a:V} {v:Value} {ρ:List (Str×V)} {bs:List (Str×Value)} (h:RepV w fz N ι a v) (t:BndV w fz N ι ρ bs):BndV w fz N ι ((x,a)::ρ) ((x,v)::bs)
section
variable {w:World} {fz:Led} {N:Nat} {ι:Nat→Addr}
theorem BndV.names{ρ:List (Str×V)}{bs:List (Str×Value)}(h:BndV w fz N ι ρ bs):bs.map (·.1)=ρ.map (·.1):=by
 induction h with
 |nil=>rfl
 |cons o1_ o2_ ih=>exact congrArg _ ih
theorem BndV.look{ρ:List (Str×V)}{bs:List (Str×Value)}(h:BndV w fz N ι ρ bs){x:Str}:(List.lookup x ρ=none∧List.lookup x bs=none)∨∃a v,List.lookup x ρ=some a∧List.lookup x bs=some v∧RepV w fz N ι a v:=by
 induction h with
 |nil=>exact .inl ⟨rfl,rfl⟩
 |@cons y o1_ o2_ o3_ o4_ h o5_ ih=>
  rw[List.lookup,List.lookup]
  cases x==y with
  |true=>exact .inr ⟨_,_,rfl,rfl,h⟩
  |false=>exact ih
end
section
variable {kf:Str→Option NameKind}
theorem bind_out:∀{bs:List (Str×Value)} {m:Str→Option Value} {x:Str},x∉bs.map (·.1)→bindL kf bs m x=m x∧bindC kf bs m x=m x
 |[],m,x,_=>⟨rfl,rfl⟩
 |(y,v)::r,m,x,h=>by
  have hn:x≠y:=fun e=>h (e▸.head _)
  have ih:=fun m'=>@bind_out r m' x fun h'=>h (.tail _ h')
  unfold bindL bindC
  rw[(ih _).1,(ih _).2]
  constructor <;> split <;> first |rfl |exact if_neg hn
theorem bind_in:∀{bs:List (Str×Value)} {m:Str→Option Value} {x:Str} {v:Value},(bs.map (·.1)).Nodup→List.lookup x bs=some v→(kf x=some .local→bindL kf bs m x=some v)∧(kf x≠some .local→bindC kf bs m x=some v)
 |[],m,x,v,_,h=>by exact nomatch h
 |(y,u)::r,m,x,v,hn,h=>by
  have hn:y∉r.map (·.1)∧(r.map (·.1)).Nodup:=List.nodup_cons.mp hn
  rw[List.lookup] at h
  unfold bindL bindC
  cases e:x==y with
  |true=>
   rw[e] at h
   cases h
   cases eq_of_beq e
   rw[(bind_out hn.1).1,(bind_out hn.1).2]
   exact⟨fun k=>by rw[if_pos k];exact if_pos rfl,fun k=>by rw[if_neg k];exact if_pos rfl⟩
  |false=>
   rw[e] at h
   exact⟨(bind_in hn.2 h).1,(bind_in hn.2 h).2⟩
end
noncomputable def locB(names:List (Str×NameKind)):List (Str×V)→List (Str×V)
 |[]=>[]
 |p::r=>cond (isLoc (List.lookup p.1 names)) (p::locB names r) (locB names r)
theorem locB.look{names:List (Str×NameKind)}:∀{ρ:List (Str×V)} {x:Str} {a:V},(ρ.map (·.1)).Nodup→List.lookup x (locB names ρ)=some a→List.lookup x ρ=some a∧List.lookup x names=some .local
 |[],x,a,_,h=>by exact nomatch h
 |(y,b)::r,x,a,hn,h=>by
  have hn:y∉r.map (·.1)∧(r.map (·.1)).Nodup:=List.nodup_cons.mp hn
  have h:List.lookup x (cond (isLoc (List.lookup y names)) ((y,b)::locB names r) (locB names r))=some a:=h
  have old:List.lookup x (locB names r)=some a→List.lookup x ((y,b)::r)=some a∧List.lookup x names=some .local:=fun h=>by
   have A:=locB.look hn.2 h
   rw[List.lookup]
   cases e:x==y with
   |true=>
    cases eq_of_beq e
    exact absurd (List.mem_map_of_mem (f:=(·.1)) (mem_of_look A.1)) hn.1
   |false=>exact A
  cases k:isLoc (List.lookup y names) with
  |false=>rw[k] at h;exact old h
  |true=>
   rw[k] at h
   have h:List.lookup x ((y,b)::locB names r)=some a:=h
   rw[List.lookup] at h
   cases e:x==y with
   |false=>rw[e] at h;exact old h
   |true=>
    rw[e] at h
    cases h
    cases eq_of_beq e
    refine⟨by rw[List.lookup,beq_self_eq_true],?_⟩
    revert k
    generalize List.lookup y names=z
    intro k
    induction z using Option.casesOn with
    |none=>exact nomatch k
    |some z=>cases z <;> first |rfl |cases k
where
 mem_of_look:∀{ρ:List (Str×V)} {x:Str} {a:V},List.lookup x ρ=some a→(x,a)∈ρ
 |[],x,a,h=>by exact nomatch h
 |(y,b)::r,x,a,h=>by
  rw[List.lookup] at h
  cases e:x==y with
  |true=>rw[e] at h;cases h;cases eq_of_beq e;exact .head _
  |false=>rw[e] at h;exact .tail _ (mem_of_look h)
noncomputable def celB(names:List (Str×NameKind))(ρ:List (Str×V)):Sto:=(cellNs names).map fun x=> .cell (List.lookup x ρ)
theorem cells_acc:∀{names:List (Str×NameKind)} {n:Nat} {acc:List (Str×Nat)} {p:Str×Nat},p∈acc→p∈cellsFrom n names acc
 |[],_,_,_,h=>h
 |(y,k)::r,n,acc,p,h=>by
  unfold cellsFrom
  split
  ·exact cells_acc (.tail _ h)
  ·exact cells_acc h
theorem cells_at:∀{names:List (Str×NameKind)} {n:Nat} {acc:List (Str×Nat)} {i:Nat} {x:Str},(cellNs names)[i]?=some x→(x,n+i)∈cellsFrom n names acc∧(x,NameKind.cell)∈names
 |[],n,acc,i,x,h=>by simp[cellNs] at h
 |(y,k)::r,n,acc,i,x,h=>by
  unfold cellsFrom
  have h:(cond (isCellK k) (y::cellNs r) (cellNs r))[i]?=some x:=h
  rw[cellK_beq]
  cases e:isCellK k with
  |false=>
   rw[e] at h
   exact⟨(cells_at h).1,.tail _ (cells_at (n:=n) (acc:=acc) h).2⟩
  |true=>
   rw[e] at h
   have h:(y::cellNs r)[i]?=some x:=h
   induction i using Nat.casesOn with
   |zero=>
    cases h
    have:k= .cell:=by cases k <;> first |rfl |cases e
    subst this
    exact⟨cells_acc (.head _),.head _⟩
   |succ i=>
    have A:=cells_at (n:=n+1) (acc:=(y,n)::acc) (i:=i) (x:=x) h
    exact⟨by rw[Nat.add_assoc,Nat.add_comm 1 i] at A;exact A.1,.tail _ A.2⟩
theorem cells_bd:∀{names:List (Str×NameKind)} {n:Nat} {acc:List (Str×Nat)} {p:Str×Nat},p∈cellsFrom n names acc→p∈acc∨p.2<n+(cellNs names).length
 |[],_,_,_,h=> .inl h
 |(y,k)::r,n,acc,p,h=>by
  unfold cellsFrom at h
  show p∈acc∨p.2<n+(cond (isCellK k) (y::cellNs r) (cellNs r)).length
  rw[cellK_beq] at h
  cases e:isCellK k with
  |false=>rw[e] at h;exact cells_bd h
  |true=>
   rw[e] at h
   show p∈acc∨p.2<n+((cellNs r).length+1)
   rcases cells_bd h with h |h
   ·cases h with
    |head=>exact .inr (by show n<_;exact lN 0x4f84738e3e10420a12e2 (Nat.zero_le _))
    |tail o1_ h=>exact .inl h
   ·exact .inr (by exact lN 0x103e104238284840f3a10420a12e3 h)
theorem cells_shift{a:Nat}:∀{names:List (Str×NameKind)} {n:Nat} {acc:List (Str×Nat)},cellsFrom (a+n) names (atA (a+ ·) acc)=atA (a+ ·) (cellsFrom n names acc)
 |[],_,_=>rfl
 |(y,k)::r,n,acc=>by
  unfold cellsFrom
  split
  ·exact cells_shift (n:=n+1) (acc:=(y,n)::acc)
  ·exact cells_shift
theorem atA.back{f:Nat→Addr}{x:Str}{a:Addr}:∀{κ:List (Str×Nat)},List.lookup x (atA f κ)=some a→∃k,List.lookup x κ=some k∧a=f k
 |[],h=>by exact nomatch h
 |(y,j)::r,h=>by
  have h:List.lookup x ((y,f j)::atA f r)=some a:=h
  rw[List.lookup] at h ⊢
  cases e:x==y with
  |true=>rw[e] at h;exact⟨j,rfl,(Option.some.inj h).symm⟩
  |false=>rw[e] at h;exact atA.back h
theorem look_mem{x:Str}{k:Nat}:∀{κ:List (Str×Nat)},List.lookup x κ=some k→(x,k)∈κ
 |[],h=>by exact nomatch h
 |(y,j)::r,h=>by
  rw[List.lookup] at h
  cases e:x==y with
  |true=>rw[e] at h;cases h;cases eq_of_beq e;exact .head _
  |false=>rw[e] at h;exact .tail _ (look_mem h)
theorem cellsAre_at{cm:Str→Option Value}{x:Str}{a:Addr}{cs:List (Str×Addr)}{cells:Led}(Y:CellsAre cm cs cells)(h:(x,a)∈cs):∃O,(a,O)∈cells∧O.data= .cell (cm x):=by
 induction Y with
 |nil=>exact(List.not_mem_nil h).elim
 |cons d Y ih=>exact(List.mem_cons.mp h).elim (fun e=>by cases e;exact⟨_,.head _,d⟩) fun h=>(ih h).imp fun O p=>⟨.tail _ p.1,p.2⟩
noncomputable def ιC(ι:Nat→Addr)(n:Nat)(L:Addr):Nat→Addr:=fun j=>if j<n then ι j else L+1+(j-n)
theorem ιC.old{ι:Nat→Addr}{n j:Nat}{L:Addr}(h:j<n):ιC ι n L j=ι j:=if_pos h
theorem ιC.new{ι:Nat→Addr}{n i:Nat}{L:Addr}:ιC ι n L (n+i)=L+1+i:=by
 unfold ιC
 rw[if_neg (by exact fun o_=>lN 0x13a11cf3823e1222 o_ (Nat.zero_le _)),Nat.add_sub_cancel_left]
theorem Rel.cells{w:World}{pr fz news l cells:Led}{σ:Sto}{ι:Nat→Addr}{names:List (Str×NameKind)}{L:Addr}{ρ:List (Str×V)}{cm:Str→Option Value}(h:Rel w pr fz σ ι news)(sl:Sub news l)(sc:Sub cells l)(fr:∀p∈cells,FreshAt p.1 news)
  (Y:CellsAre cm (cellsFrom (L+1) names []) cells)(hv:∀x,(x,NameKind.cell)∈names→(List.lookup x ρ=none∧cm x=none)∨∃a v,List.lookup x ρ=some a∧cm x=some v∧RepV w fz σ.length ι a v):Rel w pr fz (σ++celB names ρ) (ιC ι σ.length L) l:=by
 have cs:∀j o,(σ++celB names ρ)[j]?=some o→(j<σ.length∧σ[j]?=some o)∨∃i x O,j=σ.length+i∧o= .cell (List.lookup x ρ)∧(x,NameKind.cell)∈names∧(L+1+i,O)∈cells∧O.data= .cell (cm x):=fun j o e=>by
  rcases Nat.lt_or_ge j σ.length with hj |hj
  ·exact .inl ⟨hj,by rwa [List.getElem?_append_left hj] at e⟩
  ·rw[List.getElem?_append_right hj] at e
   unfold celB at e
   rw[List.getElem?_map] at e
   obtain⟨x,e1,rfl⟩:=Option.map_eq_some_iff.mp e
   have A:=cells_at (n:=L+1) (acc:=[]) e1
   obtain⟨O,h1,h2⟩:=cellsAre_at Y A.1
   exact .inr ⟨j-σ.length,x,O,by exact lN 0x2104540f08e24e3d00a1323 (Nat.sub_add_cancel (lN 0xf3a11cf3a12a2 hj)),rfl,A.2,h1,h2⟩
 have le:σ.length≤(σ++celB names ρ).length:=by rw[List.length_append];exact lN 0x13e11ce38f0a12a2 (Nat.zero_le _)
 refine⟨h.subp.trans sl,h.subf.trans sl,fun j o e mu=>?_,fun j o e=>?_,fun j vs e=>?_,fun i j o e mu hi hn=>?_⟩
 ·rcases cs j o e with⟨hj,e⟩ |⟨i,x,O,rfl,rfl,_,h1,_⟩
  ·rw[ιC.old hj];exact h.own j o e mu
  ·rw[ιC.new];exact⟨fun p hp=>fr _ h1 p (h.subp p hp),fun p hp=>fr _ h1 p (h.subf p hp)⟩
 ·rcases cs j o e with⟨hj,e⟩ |⟨i,x,O,rfl,rfl,h0,h1,h2⟩
  ·rw[ιC.old hj]
   exact(h.mem j o e).imp fun O p=>⟨sl _ p.1,p.2.grow (Sub.refl _) (fun k hk=>ιC.old hk) le⟩
  ·rw[ιC.new]
   refine⟨O,sc _ h1,?_⟩
   rcases hv x h0 with⟨e1,e2⟩ |⟨a,v,e1,e2,hr⟩
   ·rw[e1];rw[e2] at h2;exact .cell0 h2
   ·rw[e1];rw[e2] at h2;exact .cell (hr.grow (Sub.refl _) (fun k hk=>ιC.old hk) le) h2
 ·rcases cs j _ e with⟨hj,e⟩ |⟨i,x,O,_,e,_⟩
  ·rw[ιC.old hj];exact h.fro j vs e
  ·exact nomatch e
 ·have fo:∀a b,a<σ.length→∀O,(L+1+b,O)∈cells→ι a≠L+1+b:=fun a b ha O hO=>by
   obtain⟨P,hP,o1_⟩:=h.mem a _ (List.getElem?_eq_getElem ha)
   exact fr _ hO _ hP
  have old:∀a,a<(σ++celB names ρ).length→σ.length≤a→∃b O,a=σ.length+b∧(L+1+b,O)∈cells:=fun a ha hb=>by
   rcases cs a _ (List.getElem?_eq_getElem ha) with⟨h1,_⟩ |⟨b,x,O,e1,_,_,h1,_⟩
   ·omega
   ·exact⟨b,O,e1,h1⟩
  rcases cs j o e with⟨hj,e⟩ |⟨b,x,O,rfl,rfl,_,h1,_⟩
  ·rw[ιC.old hj]
   rcases Nat.lt_or_ge i σ.length with h2 |h2
   ·rw[ιC.old h2];exact h.inj i j o e mu h2 hn
   ·obtain⟨b,O,rfl,h3⟩:=old i hi h2
    rw[ιC.new];exact(fo j b hj O h3).symm
  ·rw[ιC.new]
   rcases Nat.lt_or_ge i σ.length with h2 |h2
   ·rw[ιC.old h2];exact fo i b h2 O h1
   ·obtain⟨b',O',rfl,o1_⟩:=old i hi h2
    rw[ιC.new]
    intro e
    exact hn (congrArg (σ.length+ ·) (Nat.add_left_cancel e))
noncomputable def fin(K:V→Prop)(a:V)(σ:Sto):Prop:=frzK σ (fun b o1_=>K b) a
noncomputable def finS(K:V→List V→Prop)(a:V)(σ:Sto):Prop:=frzK σ (fun b σ'=>optK (fun vs=>K b vs) (lstAt σ' 0)) a
noncomputable def finN(K:List V→Prop)(a:V)(σ:Sto):Prop:=match a with
 |.ref k=>optK K (lstAt σ k)
 |_=>False
theorem Pk.fin{w:World}{news fz:Led}{N:Nat}{ι:Nat→Addr}{K:V→Prop}{v:Value}{l':Led}(h:Pk w news fz N ι (fin K) v l'):Sub news l'∧∃r fz',K r∧Rep w fz' r v∧Sub fz' l'∧Ext news fz fz':=
 h.elim fun o1_ o2_ o3_ o4_ k hv r o5_ o6_ x=>(frzK.ok k r hv).elim fun fz2 o1_ b k2 h2 R2 o2_ x2=>⟨R2.subp,b,fz2,k2,h2,R2.subf,x.trans x2⟩
theorem Pk.finS{w:World}{news fz:Led}{N:Nat}{ι:Nat→Addr}{K:V→List V→Prop}{v:Value}{l':Led}(h:Pk w (dropL (ι 0) news) fz N ι (finS K) v l')(h0:0<N):∃r vs' fz' O' ws',SBk w news fz (ι 0) K v l' r vs' fz' O' ws':=
 h.elim fun ι1 fz1 σ1 a k hv r g n x=>(frzK.ok k r hv).elim fun fz2 σ2 b k2 h2 R2 o1_ x2=>(optK.ok k2).elim fun vs q=>by
  have e:=lstAt.ok q.1
  obtain⟨O,hm,hc⟩:=R2.mem 0 _ e
  have ow:=R2.own 0 _ e rfl
  rw[g 0 h0] at hm ow
  cases hc with
  |lst hs hd=>exact⟨b,vs,fz2,O,_,q.2,h2,hm,hd,hs,R2.subp,R2.subf,ow.2,x.trans x2⟩
theorem Pk.finN{w:World}{news fz:Led}{N:Nat}{ι:Nat→Addr}{K:List V→Prop}{v:Value}{l':Led}(h:Pk w news fz N ι (finN K) v l'):∃vs' fz' a O ws',NBk w news fz K v l' vs' fz' a O ws':=
 h.elim fun ι1 fz1 σ1 a k hv r g n x=>by
  induction a using V.casesOn with
  |ref j=>
   obtain⟨vs,q1,q2⟩:=optK.ok (show optK K (lstAt σ1 j) from k)
   have e:=lstAt.ok q1
   obtain⟨O,hm,hc⟩:=r.mem j _ e
   have ow:=r.own j _ e rfl
   cases hv with
   |dat hv=>exact nomatch hv
   |ref hj=>
    cases hc with
    |lst hs hd=>exact⟨vs,fz1,_,O,_,q2,rfl,hm,hd,hs,r.subp,r.subf,ow.1,ow.2,x⟩
  |_=>exact k.elim
section
variable {w:World} {f:Addr} {d:Nat} {name qual:Str} {params:Arguments} {body:List Stmt} {scope:Scope} {dV kV doc pm cdv ct oc:Value} {an od:Option Addr} {osl:Array (Option Value)} {Γ:Gam} {Μ:List (Str×PF)}
noncomputable def BndOk(w:World)(xs:List Str)(bnd:List V→Option (List (Str×V)))(fd:FuncData):Prop:=
 ∀N ι fz as vs ρ,bnd as=some ρ→Reqs w fz N ι as vs→ρ.map (·.1)=xs∧∃binds,BndV w fz N ι ρ binds∧∀s:Shared,(Mine.K w.params).In s.heap→BindsTo s fd ⟨vs,[]⟩ binds
noncomputable def chkB(names:List (Str×NameKind))(xs:List Str):Bool:=xs.all fun x=>List.lookup x names==some .local||List.lookup x names==some .cell
theorem look_none{bs:List (Str×Value)}{q:Str×Value}(h:List.lookup q.1 bs=none)(hq:q∈bs):False:=by
 induction bs with
 |nil=>exact absurd hq List.not_mem_nil
 |cons p r ih=>
  obtain⟨y,u⟩:=p
  rw[List.lookup] at h
  refine(List.mem_cons.mp hq).elim (fun e=>?_) fun hq=>?_
  ·rw[show q.1=y from congrArg (·.1) e,beq_self_eq_true] at h
   exact nomatch h
  ·cases e:q.1==y with
   |true=>rw[e] at h;exact nomatch h
   |false=>rw[e] at h;exact ih h hq
theorem enter_core{c:Cx scope}{pr fz news cells l:Led}{σ:Sto}{ι:Nat→Addr}{ρ:List (Str×V)}{binds:List (Str×Value)}{xs:List Str}{n:Nat}{Kn:XK}{Kr:V→Sto→Prop}(ok:Cok c d)(hd:8≤d)(hΓ:GamOk c.w Γ d)(hM:MthOk c.w Μ d)(hc:chkB scope.names xs=true)(hnd:xs.Nodup)(hnn:(scope.names.map (·.1)).Nodup)(hxs:ρ.map (·.1)=xs)
  (hB:BndV c.w fz σ.length ι ρ binds)(r:Rel c.w pr fz σ ι news)(Y:CellsAre (bindC (fun x=>scope.names.lookup x) binds fun o1_=>none) (cellsFrom (c.L+1) scope.names []) cells)(fr:∀p∈cells,FreshAt p.1 news)(s1:Sub cells l)(s2:Sub news l)
  (h:wS Γ Μ scope.names (atA (σ.length+ ·) (cellsFrom 0 scope.names [])) n (locB scope.names ρ) (σ++celB scope.names ρ) body Kn Kr):
  TS c c.env (bindL (fun x=>scope.names.lookup x) binds fun o1_=>none) l body (Pn c (atA (σ.length+ ·) (cellsFrom 0 scope.names [])) pr fz (σ++celB scope.names ρ).length (ιC ι σ.length c.L) Kn) (Pk c.w pr fz (σ++celB scope.names ρ).length (ιC ι σ.length c.L) Kr):=by
 have hb:(binds.map (·.1)).Nodup:=by rw[hB.names,hxs];exact hnd
 have le:σ.length≤(σ++celB scope.names ρ).length:=by rw[List.length_append];exact lN 0x13e11ce38f0a12a2 (Nat.zero_le _)
 have gr:∀{a v},RepV c.w fz σ.length ι a v→RepV c.w fz (σ++celB scope.names ρ).length (ιC ι σ.length c.L) a v:=fun k=>k.grow (Sub.refl _) (fun j hj=>ιC.old hj) le
 refine wS.ok ok hd hΓ hM n _ _ body Kn Kr h pr fz _ _ l ?_ ?_ (r.cells s2 s1 fr Y ?_)
 ·intro x a e
  obtain⟨e1,e2⟩:=locB.look (by rw[hxs];exact hnd) e
  rcases hB.look (x:=x) with⟨e3,_⟩ |⟨a',v,e3,e4,hr⟩
  ·rw[e3] at e1;cases e1
  ·rw[e3] at e1;cases e1
   exact⟨v,gr hr,(bind_in hb e4).1 e2⟩
 ·intro x k e
  obtain⟨j,e1,rfl⟩:=atA.back e
  have A:=cells_shift (a:=c.L+1) (names:=scope.names) (n:=0) (acc:=[])
  rcases cells_bd (look_mem e1) with h |h
  ·exact nomatch h
  ·refine⟨by unfold celB;rw[List.length_append,List.length_map];exact lN 0x1004f0a120e40238f0a12e3 h,?_⟩
   rw[ιC.new]
   have A:cellsFrom (c.L+1) scope.names []=atA (c.L+1+ ·) (cellsFrom 0 scope.names []):=A
   rw[A]
   exact atA.look (ι:=(c.L+1+ ·)) e1
 ·intro x hx
  have hk:List.lookup x scope.names=some .cell:=nd_look hnn hx
  rcases hB.look (x:=x) with⟨e3,e4⟩ |⟨a,v,e3,e4,hr⟩
  ·refine .inl ⟨e3,(bind_out ?_).2⟩
   intro hin
   obtain⟨q,hq,rfl⟩:=List.mem_map.mp hin
   exact look_none e4 hq
  ·exact .inr ⟨a,v,e3,(bind_in hb e4).2 (by rw[hk];intro e;exact nomatch e),hr⟩
where
 nd_look:∀{names:List (Str×NameKind)} {x:Str},(names.map (·.1)).Nodup→(x,NameKind.cell)∈names→List.lookup x names=some .cell
 |(y,k)::r,x,hn,h=>by
  have hn:y∉r.map (·.1)∧(r.map (·.1)).Nodup:=List.nodup_cons.mp hn
  rw[List.lookup]
  cases h with
  |head=>rw[beq_self_eq_true]
  |tail o1_ h=>
   have:(x==y)=false:=by
    cases e:x==y with
    |false=>rfl
    |true=>cases eq_of_beq e;exact absurd (List.mem_map_of_mem (f:=(·.1)) h) hn.1
   rw[this]
   exact nd_look hn.2 h
noncomputable def autoF(Γ:Gam)(Μ:List (Str×PF))(names:Nms)(bnd:List V→Option (List (Str×V)))(body:List Stmt)(n:Nat):PF:=fun as K=>
 optK (fun ρ=>wS Γ Μ names (atA (0+ ·) (cellsFrom 0 names [])) n (locB names ρ) (celB names ρ) body (fun o1_ o2_=>K .none) (fin K)) (bnd as)
noncomputable def autoS(Γ:Gam)(Μ:List (Str×PF))(names:Nms)(bnd:List V→Option (List (Str×V)))(body:List Stmt)(n:Nat):SF:=fun ss as K=>
 optK (fun ρ=>wS Γ Μ names (atA (1+ ·) (cellsFrom 0 names [])) n (locB names ρ) (.lst ss::celB names ρ) body (fun o1_ o2_=>False) (finS K)) (bnd (.ref 0::as))
noncomputable def autoN(Γ:Gam)(Μ:List (Str×PF))(names:Nms)(bnd:List V→Option (List (Str×V)))(body:List Stmt)(n:Nat):NF:=fun as K=>
 optK (fun ρ=>wS Γ Μ names (atA (0+ ·) (cellsFrom 0 names [])) n (locB names ρ) (celB names ρ) body (fun o1_ o2_=>False) (finN K)) (bnd as)
theorem Rel.start{w:World}{news fz:Led}{ι:Nat→Addr}(s:Sub fz news):Rel w news fz [] ι news:=⟨Sub.refl _,s,fun o1_ o2_ e=>by simp at e,fun o1_ o2_ e=>by simp at e,fun o1_ o2_ e=>by simp at e,fun o1_ o2_ o3_ e=>by simp at e⟩
theorem Rel.startS{w:World}{news fz:Led}{a:Addr}{O:Obj}{ss:List V}{ws:List Value}(hm:(a,O)∈news)(lo:LO O ws)(hs:Reps w fz ss ws)(hf:FreshAt a fz)(s:Sub fz news):Rel w (dropL a news) fz [.lst ss] (fun o1_=>a) news:=by
 have one:∀{k:Nat} {o:AO},[AO.lst ss][k]?=some o→k=0∧o= .lst ss:=fun{k o} e=>by
  induction k using Nat.casesOn with
  |zero=>cases Option.some.inj e;exact⟨rfl,rfl⟩
  |succ k=>simp at e
 refine⟨fun p hp=>(dropL.mem.mp hp).1,s,fun k o e o1_=>⟨fun p hp=>(dropL.mem.mp hp).2,hf⟩,fun k o e=>?_,fun k vs e=>?_,fun j k o e o1_ hj hn=>?_⟩
 ·obtain⟨rfl,rfl⟩:=one e
  exact⟨O,hm,.lst hs lo⟩
 ·cases (one e).2
 ·have:=(one e).1
  have hj:j<1:=hj
  omega
theorem Reps.reqs{w:World}{fz:Led}{N:Nat}{ι:Nat→Addr}{as:List V}{vs:List Value}(h:Reps w fz as vs):Reqs w fz N ι as vs:=by
 refine Reps.rec (motive_1:=fun o1_ o2_ o3_=>True) (motive_2:=fun vs us o1_=>Reqs w fz N ι vs us) (fun o1_=>trivial) trivial trivial (fun o1_ o2_ o3_=>trivial) (fun o1_ o2_ o3_ o4_=>trivial) (fun o1_ o2_ o3_=>trivial) (fun o1_ o2_ o3_=>trivial) .nil (fun h o1_ o2_ t=> .cons (.dat h) t) h
variable {bnd:List V→Option (List (Str×V))} {xs:List Str}
theorem enterF(n:Nat)(hd:8≤d)(hΓ:GamOk w Γ d)(hM:MthOk w Μ d)(ho:(Mine.K w.params).lookup f=some ⟨oc,od,.func (fnOf name qual params body scope dV kV doc pm an cdv ct),osl⟩)(hcd:codeIn (Mine.K w.params) cdv qual=true)
  (hs:(scope.isCoroutine=false∧scope.isGenerator=false)∧scope.kind= .function)(hB:BndOk w xs bnd (fnOf name qual params body scope dV kV doc pm an cdv ct))(hc:chkB scope.names xs=true)(hnd:xs.Nodup)(hnn:(scope.names.map (·.1)).Nodup)(hnc:((cellsFrom 0 scope.names []).map (·.1)).Nodup):
  FnOk w f (d+1) (autoF Γ Μ scope.names bnd body n):=fun as K hF news fz vs hsub hr=>
 (optK.ok hF).elim fun ρ q=>(hB 0 (fun o1_=>0) fz as vs ρ q.1 hr.reqs).elim fun hxs p=>p.elim fun binds b=>by
  refine con_enterC (RR:=fun v l'=>Sub news l'∧∃r fz',K r∧Rep w fz' r v∧Sub fz' l'∧Ext news fz fz') (R:=fun h₀ L m s Q=>∀(v:Value) (l':Led) (h':Heap) (tk':Nat),(Sub news l'∧∃r fz',K r∧Rep w fz' r v∧Sub fz' l'∧Ext news fz fz')→Fr h₀ L h' m→News h₀ L h' l'→Q v {s with heap:=h',toks:=tk'}) ho hcd b.2 ?_ hnc (fun h=>h) (fun c cells l hw ok Y fr s1 s2=>?_) hs.1.1 hs.1.2 hs.2
  ·rw[List.all_eq_true]
   intro y hy
   have:y.1∈xs:=by rw[←hxs,←b.1.names];exact List.mem_map_of_mem (f:=(·.1)) hy
   exact List.all_eq_true.mp hc _ this
  ·subst hw
   have T:=enter_core (σ:=[]) ok hd hΓ hM hc hnd hnn hxs b.1 (Rel.start hsub) Y fr s1 s2 q.2
   exact fun s Q E pe F N q1 q2=>T s Q E pe F N (fun v m' l' h' tk' p=>q1 v m' l' h' tk' p.fin) (fun m' l' h' tk' p=>q2 m' l' h' tk' (p.elim fun o1_ fz' o2_ o3_ k o4_ r o5_ o6_ x=>⟨r.subp,.none,fz',k,.none,r.subf,x⟩))
theorem enterS(n:Nat)(hd:8≤d)(hΓ:GamOk w Γ d)(hM:MthOk w Μ d)(ho:(Mine.K w.params).lookup f=some ⟨oc,od,.func (fnOf name qual params body scope dV kV doc pm an cdv ct),osl⟩)(hcd:codeIn (Mine.K w.params) cdv qual=true)
  (hs:(scope.isCoroutine=false∧scope.isGenerator=false)∧scope.kind= .function)(hB:BndOk w xs bnd (fnOf name qual params body scope dV kV doc pm an cdv ct))(hc:chkB scope.names xs=true)(hnd:xs.Nodup)(hnn:(scope.names.map (·.1)).Nodup)(hnc:((cellsFrom 0 scope.names []).map (·.1)).Nodup):
  SnOk w f (d+1) (autoS Γ Μ scope.names bnd body n):=fun ss as K hF news fz a O ws vs hm lo hss hfa hsub hr=>
 (optK.ok hF).elim fun ρ q=>(hB 1 (fun o1_=>a) fz (.ref 0::as) (.ref a::vs) ρ q.1 (.cons (.ref (k:=0) Nat.one_pos) hr.reqs)).elim fun hxs p=>p.elim fun binds b=>by
  refine con_enterC (RR:=fun v l'=>∃r vs' fz' O' ws',SBk w news fz a K v l' r vs' fz' O' ws') (R:=fun h₀ L m s Q=>∀(v:Value) (l':Led) (h':Heap) (tk':Nat),(∃r vs' fz' O' ws',SBk w news fz a K v l' r vs' fz' O' ws')→Fr h₀ L h' m→News h₀ L h' l'→Q v {s with heap:=h',toks:=tk'}) ho hcd b.2 ?_ hnc (fun h=>h) (fun c cells l hw ok Y fr s1 s2=>?_) hs.1.1 hs.1.2 hs.2
  ·rw[List.all_eq_true]
   intro y hy
   have:y.1∈xs:=by rw[←hxs,←b.1.names];exact List.mem_map_of_mem (f:=(·.1)) hy
   exact List.all_eq_true.mp hc _ this
  ·subst hw
   have T:=enter_core (σ:=[.lst ss]) ok hd hΓ hM hc hnd hnn hxs b.1 (Rel.startS hm lo hss hfa hsub) Y fr s1 s2 q.2
   have h0:0<([AO.lst ss]++celB scope.names ρ).length:=Nat.succ_pos _
   exact fun s Q E pe F N q1 q2=>T s Q E pe F N (fun v m' l' h' tk' p=>q1 v m' l' h' tk' (Pk.finS (ι:=ιC (fun o1_=>a) 1 c.L) p h0)) (fun m' l' h' tk' p=>p.elim fun o1_ o2_ o3_ o4_ k o5_ o6_ o7_ o8_ o9_=>k.elim)
theorem enterN(n:Nat)(hd:8≤d)(hΓ:GamOk w Γ d)(hM:MthOk w Μ d)(ho:(Mine.K w.params).lookup f=some ⟨oc,od,.func (fnOf name qual params body scope dV kV doc pm an cdv ct),osl⟩)(hcd:codeIn (Mine.K w.params) cdv qual=true)
  (hs:(scope.isCoroutine=false∧scope.isGenerator=false)∧scope.kind= .function)(hB:BndOk w xs bnd (fnOf name qual params body scope dV kV doc pm an cdv ct))(hc:chkB scope.names xs=true)(hnd:xs.Nodup)(hnn:(scope.names.map (·.1)).Nodup)(hnc:((cellsFrom 0 scope.names []).map (·.1)).Nodup):
  NnOk w f (d+1) (autoN Γ Μ scope.names bnd body n):=fun as K hF news fz vs hsub hr=>
 (optK.ok hF).elim fun ρ q=>(hB 0 (fun o1_=>0) fz as vs ρ q.1 hr.reqs).elim fun hxs p=>p.elim fun binds b=>by
  refine con_enterC (RR:=fun v l'=>∃vs' fz' a O ws',NBk w news fz K v l' vs' fz' a O ws') (R:=fun h₀ L m s Q=>∀(v:Value) (l':Led) (h':Heap) (tk':Nat),(∃vs' fz' a O ws',NBk w news fz K v l' vs' fz' a O ws')→Fr h₀ L h' m→News h₀ L h' l'→Q v {s with heap:=h',toks:=tk'}) ho hcd b.2 ?_ hnc (fun h=>h) (fun c cells l hw ok Y fr s1 s2=>?_) hs.1.1 hs.1.2 hs.2
  ·rw[List.all_eq_true]
   intro y hy
   have:y.1∈xs:=by rw[←hxs,←b.1.names];exact List.mem_map_of_mem (f:=(·.1)) hy
   exact List.all_eq_true.mp hc _ this
  ·subst hw
   have T:=enter_core (σ:=[]) ok hd hΓ hM hc hnd hnn hxs b.1 (Rel.start hsub) Y fr s1 s2 q.2
   exact fun s Q E pe F N q1 q2=>T s Q E pe F N (fun v m' l' h' tk' p=>q1 v m' l' h' tk' p.finN) (fun m' l' h' tk' p=>p.elim fun o1_ o2_ o3_ o4_ k o5_ o6_ o7_ o8_ o9_=>k.elim)
end
noncomputable def fdB(o:Obj):List Stmt:=match o.data with
 |.func fd=>(match fd.body with
  |.stmts b=>b
  |_=>[])
 |_=>[]
noncomputable def fdS(o:Obj):Scope:=match o.data with
 |.func fd=>fd.scope
 |_=>default
noncomputable def fdX(o:Obj):List Str:=match o.data with
 |.func fd=>fd.params.args.map (·.arg)
 |_=>[]
noncomputable def zipB:List Str→List V→Option (List (Str×V))
 |[],[]=>some []
 |x::xs,a::as=>(zipB xs as).map ((x,a) :: ·)
 |_,_=>none
noncomputable def zipD(dv:V):List Str→List V→Option (List (Str×V))
 |[],[]=>some []
 |x::xs,[]=>cond xs.isEmpty (some [(x,dv)]) none
 |x::xs,a::as=>(zipD dv xs as).map ((x,a) :: ·)
 |[],_::_=>none
noncomputable def FdOk(o:Obj):Bool:=chkB (fdS o).names (fdX o)&&decide (fdX o).Nodup&&decide ((fdS o).names.map (·.1)).Nodup&&decide ((cellsFrom 0 (fdS o).names []).map (·.1)).Nodup&&(!(fdS o).isCoroutine && !(fdS o).isGenerator)
section
variable {w:World} {d:Nat} {f:Addr} {o:Obj} {name qual:Str} {params:Arguments} {dV kV doc pm cdv ct oc:Value} {an od:Option Addr} {osl:Array (Option Value)} {Γ:Gam} {Μ:List (Str×PF)}
theorem zipB.ok{fz:Led}{N:Nat}{ι:Nat→Addr}:∀{xs:List Str} {as:List V} {vs:List Value} {ρ:List (Str×V)},zipB xs as=some ρ→Reqs w fz N ι as vs→vs.length=xs.length∧ρ.map (·.1)=xs∧BndV w fz N ι ρ (xs.zip vs)
 |[],[],vs,ρ,h,r=>by cases r;cases h;exact⟨rfl,rfl,.nil⟩
 |[],_::_,vs,ρ,h,r=>by exact nomatch h
 |_::_,[],vs,ρ,h,r=>by exact nomatch h
 |x::xs,a::as,vs,ρ,h,r=>by
  obtain⟨ρ',e0,rfl⟩:=Option.map_eq_some_iff.mp (show(zipB xs as).map ((x,a) :: ·)=some ρ from h)
  cases r with
  |cons h1 t=>
   obtain⟨e1,e2,b⟩:=zipB.ok e0 t
   exact⟨congrArg (· +1) e1,congrArg (x :: ·) e2,.cons h1 b⟩
theorem zipD.ok{fz:Led}{N:Nat}{ι:Nat→Addr}{dv:V}{v:Value}(hv:Rep w [] dv v):∀{xs:List Str} {as:List V} {vs:List Value} {ρ:List (Str×V)},zipD dv xs as=some ρ→Reqs w fz N ι as vs→ρ.map (·.1)=xs∧((vs.length=xs.length∧BndV w fz N ι ρ (xs.zip vs))∨(vs.length+1=xs.length∧BndV w fz N ι ρ (xs.zip (vs++[v])))):=by
 intro xs
 induction xs with
 |nil=>
  intro as vs ρ h r
  induction as using List.casesOn with
  |nil=>cases r;cases h;exact⟨rfl,.inl ⟨rfl,.nil⟩⟩
  |cons o1_ o2_=>exact nomatch h
 |cons x xs ih=>
  intro as vs ρ h r
  induction as using List.casesOn with
  |nil=>
   cases r
   induction xs using List.casesOn with
   |nil=>cases Option.some.inj h;exact⟨rfl,.inr ⟨rfl,.cons (.dat (hv.mono fun o1_ h=>absurd h List.not_mem_nil)) .nil⟩⟩
   |cons o1_ o2_=>exact nomatch h
  |cons a as=>
   obtain⟨ρ',e0,rfl⟩:=Option.map_eq_some_iff.mp (show(Mine.zipD dv xs as).map ((x,a) :: ·)=some ρ from h)
   cases r with
   |cons h1 t=>
    obtain⟨e2,b⟩:=ih e0 t
    exact⟨congrArg (x :: ·) e2,b.imp (fun b=>⟨congrArg (· +1) b.1,.cons h1 b.2⟩) fun b=>⟨congrArg (· +1) b.1,.cons h1 b.2⟩⟩
theorem BndOk.zip{fd:FuncData}{xs:List Str}(h:∀vs:List Value,vs.length=xs.length→bindArgs fd ⟨vs,[]⟩=pure (xs.zip vs)):BndOk w xs (zipB xs) fd:=fun N ι fz as vs ρ e r=>
 have A:=zipB.ok e r
 ⟨A.2.1,_,A.2.2,fun s X=>BindsTo.of_eq (h vs A.1)⟩
theorem BndOk.zipD{fd:FuncData}{xs:List Str}{dv:V}{v:Value}(hv:Rep w [] dv v)(h:∀vs:List Value,vs.length=xs.length→∀s:Shared,(Mine.K w.params).In s.heap→BindsTo s fd ⟨vs,[]⟩ (xs.zip vs))(h2:∀vs:List Value,vs.length+1=xs.length→∀s:Shared,(Mine.K w.params).In s.heap→BindsTo s fd ⟨vs,[]⟩ (xs.zip (vs++[v]))):BndOk w xs (Mine.zipD dv xs) fd:=fun N ι fz as vs ρ e r=>
 have A:=zipD.ok hv e r
 ⟨A.1,A.2.elim (fun A=>⟨_,A.2,fun s X=>h vs A.1 s X⟩) fun A=>⟨_,A.2,fun s X=>h2 vs A.1 s X⟩⟩
theorem len0{P:List Value→Prop}(h:P [])(vs:List Value)(e:vs.length=0):P vs:=by
 induction vs using List.casesOn with
 |nil=>exact h
 |cons a vs=>exact(Nat.succ_ne_zero _ e).elim
theorem len1{P:List Value→Prop}(h:∀a,P [a])(vs:List Value)(e:vs.length=1):P vs:=by
 induction vs using List.casesOn with
 |nil=>exact absurd e (by decide)
 |cons a vs=>exact len0 (P:=fun vs=>P (a::vs)) (h a) vs (Nat.succ.inj e)
theorem len2{P:List Value→Prop}(h:∀a b,P [a,b])(vs:List Value)(e:vs.length=2):P vs:=by
 induction vs using List.casesOn with
 |nil=>exact absurd e (by decide)
 |cons a vs=>exact len1 (P:=fun vs=>P (a::vs)) (h a) vs (Nat.succ.inj e)
theorem len3{P:List Value→Prop}(h:∀a b c,P [a,b,c])(vs:List Value)(e:vs.length=3):P vs:=by
 induction vs using List.casesOn with
 |nil=>exact absurd e (by decide)
 |cons a vs=>exact len2 (P:=fun vs=>P (a::vs)) (h a) vs (Nat.succ.inj e)
theorem len4{P:List Value→Prop}(h:∀a b c d,P [a,b,c,d])(vs:List Value)(e:vs.length=4):P vs:=by
 induction vs using List.casesOn with
 |nil=>exact absurd e (by decide)
 |cons a vs=>exact len3 (P:=fun vs=>P (a::vs)) (h a) vs (Nat.succ.inj e)
theorem len5{P:List Value→Prop}(h:∀a b c d e,P [a,b,c,d,e])(vs:List Value)(e:vs.length=5):P vs:=by
 induction vs using List.casesOn with
 |nil=>exact absurd e (by decide)
 |cons a vs=>exact len4 (P:=fun vs=>P (a::vs)) (h a) vs (Nat.succ.inj e)
theorem len6{P:List Value→Prop}(h:∀a b c d e f,P [a,b,c,d,e,f])(vs:List Value)(e:vs.length=6):P vs:=by
 induction vs using List.casesOn with
 |nil=>exact absurd e (by decide)
 |cons a vs=>exact len5 (P:=fun vs=>P (a::vs)) (h a) vs (Nat.succ.inj e)
theorem len7{P:List Value→Prop}(h:∀a b c d e f g,P [a,b,c,d,e,f,g])(vs:List Value)(e:vs.length=7):P vs:=by
 induction vs using List.casesOn with
 |nil=>exact absurd e (by decide)
 |cons a vs=>exact len6 (P:=fun vs=>P (a::vs)) (h a) vs (Nat.succ.inj e)
theorem FdOk.s(h:FdOk o=true):(((chkB (fdS o).names (fdX o)=true∧(fdX o).Nodup)∧((fdS o).names.map (·.1)).Nodup)∧((cellsFrom 0 (fdS o).names []).map (·.1)).Nodup)∧(fdS o).isCoroutine=false∧(fdS o).isGenerator=false:=by
 unfold FdOk at h
 simp only[Bool.and_eq_true,decide_eq_true_eq,Bool.not_eq_true'] at h
 exact h
noncomputable def aF(Γ:Gam)(Μ:List (Str×PF))(bnd:List Str→List V→Option (List (Str×V)))(o:Obj)(n:Nat):PF:=autoF Γ Μ (fdS o).names (bnd (fdX o)) (fdB o) n
noncomputable def aS(Γ:Gam)(Μ:List (Str×PF))(bnd:List Str→List V→Option (List (Str×V)))(o:Obj)(n:Nat):SF:=autoS Γ Μ (fdS o).names (bnd (fdX o)) (fdB o) n
noncomputable def aN(Γ:Gam)(Μ:List (Str×PF))(bnd:List Str→List V→Option (List (Str×V)))(o:Obj)(n:Nat):NF:=autoN Γ Μ (fdS o).names (bnd (fdX o)) (fdB o) n
variable {bnd:List Str→List V→Option (List (Str×V))} {n:Nat}
theorem aF.ok(hd:8≤d)(hΓ:GamOk w Γ d)(hM:MthOk w Μ d)(ho:(Mine.K w.params).lookup f=some o)(hof:o=⟨oc,od,.func (fnOf name qual params (fdB o) (fdS o) dV kV doc pm an cdv ct),osl⟩)(hcd:codeIn (Mine.K w.params) cdv qual=true)(hk:(fdS o).kind= .function)(hc:FdOk o=true)
  (hB:BndOk w (fdX o) (bnd (fdX o)) (fnOf name qual params (fdB o) (fdS o) dV kV doc pm an cdv ct)):FnOk w f (d+1) (aF Γ Μ bnd o n):=
 have A:=FdOk.s hc
 enterF n hd hΓ hM (ho.trans (congrArg some hof)) hcd ⟨A.2,hk⟩ hB A.1.1.1.1 A.1.1.1.2 A.1.1.2 A.1.2
theorem aS.ok(hd:8≤d)(hΓ:GamOk w Γ d)(hM:MthOk w Μ d)(ho:(Mine.K w.params).lookup f=some o)(hof:o=⟨oc,od,.func (fnOf name qual params (fdB o) (fdS o) dV kV doc pm an cdv ct),osl⟩)(hcd:codeIn (Mine.K w.params) cdv qual=true)(hk:(fdS o).kind= .function)(hc:FdOk o=true)
  (hB:BndOk w (fdX o) (bnd (fdX o)) (fnOf name qual params (fdB o) (fdS o) dV kV doc pm an cdv ct)):SnOk w f (d+1) (aS Γ Μ bnd o n):=
 have A:=FdOk.s hc
 enterS n hd hΓ hM (ho.trans (congrArg some hof)) hcd ⟨A.2,hk⟩ hB A.1.1.1.1 A.1.1.1.2 A.1.1.2 A.1.2
theorem aN.ok(hd:8≤d)(hΓ:GamOk w Γ d)(hM:MthOk w Μ d)(ho:(Mine.K w.params).lookup f=some o)(hof:o=⟨oc,od,.func (fnOf name qual params (fdB o) (fdS o) dV kV doc pm an cdv ct),osl⟩)(hcd:codeIn (Mine.K w.params) cdv qual=true)(hk:(fdS o).kind= .function)(hc:FdOk o=true)
  (hB:BndOk w (fdX o) (bnd (fdX o)) (fnOf name qual params (fdB o) (fdS o) dV kV doc pm an cdv ct)):NnOk w f (d+1) (aN Γ Μ bnd o n):=
 have A:=FdOk.s hc
 enterN n hd hΓ hM (ho.trans (congrArg some hof)) hcd ⟨A.2,hk⟩ hB A.1.1.1.1 A.1.1.1.2 A.1.1.2 A.1.2
end
theorem byC{G:Prop}(h:∀C:Prop,(G→C)→C):G:=h G id
noncomputable def Imp(a b:V):Prop:=∀w fz v,Rep w fz a v→Rep w fz b v
noncomputable def Kws(as:List V):Prop:=∃w fz vs,Reps w fz as vs
noncomputable def Kw(a:V):Prop:=∃w fz v,Rep w fz a v
theorem Imp.refl{a:V}:Imp a a:=fun o1_ o2_ o3_ h=>h
theorem Imp.int{n:Int}{b l b' l':Option Nat}(h:In n b' l'):Imp (.int n b l) (.int n b' l'):=fun o1_ o2_ o3_ h'=>by cases h' with |int o1_=>exact .int h
inductive Imps:List V→List V→Prop where
 |nil:Imps [] []
 |cons {a b:V} {as bs:List V} (h:Imp a b) (t:Imps as bs):Imps (a::as) (b::bs)
theorem Imps.ok{w:World}{fz:Led}{as bs:List V}(h:Imps as bs):∀{vs:List Value},Reps w fz as vs→Reps w fz bs vs:=by
 induction h with
 |nil=>exact fun h=>h
 |cons h o1_ ih=>exact fun k=>by cases k with |cons k t=>exact .cons (h _ _ _ k) (ih t)
theorem Imp.tup{as bs:List V}(h:Imps as bs):Imp (.tup as) (.tup bs):=fun o1_ o2_ o3_ k=>by
 cases k with
 |tup m k=>exact .tup m (h.ok k)
 |base m k=>exact .base m (h.ok k)
theorem Imp.lst{as bs:List V}(h:Imps as bs):Imp (.lst as) (.lst bs):=fun o1_ o2_ o3_ k=>by
 cases k with
 |lst m d k=>exact .lst m d (h.ok k)
theorem Imps.refl:∀{as:List V},Imps as as
 |[]=> .nil
 |_::_=> .cons Imp.refl Imps.refl
theorem Kws.cons{a:V}{as:List V}(h:Kws (a::as)):Kw a∧Kws as:=by
 obtain⟨w,fz,vs,h⟩:=h
 cases h with
 |cons h t=>exact⟨⟨w,fz,_,h⟩,w,fz,_,t⟩
theorem Kw.int{n:Int}{b l:Option Nat}(h:Kw (.int n b l)):In n b l:=by
 obtain⟨w,fz,v,h⟩:=h
 cases h with
 |int h=>exact h
theorem Kw.tup{vs:List V}(h:Kw (.tup vs)):Kws vs:=by
 obtain⟨w,fz,v,h⟩:=h
 cases h with
 |tup o1_ h=>exact⟨w,fz,_,h⟩
 |base o1_ h=>exact⟨w,fz,_,h⟩
theorem Kw.lst{vs:List V}(h:Kw (.lst vs)):Kws vs:=by
 obtain⟨w,fz,v,h⟩:=h
 cases h with
 |lst o1_ o2_ h=>exact⟨w,fz,_,h⟩
theorem FnOk.of{w:World}{f:Addr}{d:Nat}{F G:PF}(h:FnOk w f d G)(k:∀as K,Kws as→F as K→∃as',Imps as as'∧G as' fun r=>∃r',Imp r r'∧K r'):FnOk w f d F:=fun as K hF news fz vs hs hr=>
 (k as K ⟨w,fz,vs,hr⟩ hF).elim fun as' q=>by
  exact fun B F' X N T G9 Hk Hd Hu hret=>h as' _ q.2 news fz vs hs (q.1.ok hr) B F' X N T G9 Hk Hd Hu fun v l' h' tk' p a b=>hret v l' h' tk' ⟨p.1,p.2.elim fun r p=>p.elim fun fz' p=>p.1.elim fun r' z=>⟨r',fz',z.2,z.1 _ _ _ p.2.1,p.2.2⟩⟩ a b
theorem MthOk.nil{w:World}{d:Nat}:MthOk w [] d:=fun o1_ o2_ h=>by exact nomatch h
noncomputable def psK(j:Int)(l:Option Nat)(p:Prop):Prop:=cond (isP l) p (0<j∧p)
theorem psK.ok{j:Int}{b l:Option Nat}{p:Prop}(h:psK j l p)(hj:In j b l):0<j∧p:=by
 unfold psK at h
 cases e:isP l with
 |true=>rw[e] at h;exact⟨isP.ok e hj,h⟩
 |false=>rw[e] at h;exact h
noncomputable def leB(b:Option Nat)(n:Nat):Bool:=match b with
 |some x=>Nat.ble x n
 |none=>false
theorem leB.ok{b l:Option Nat}{n:Nat}{i:Int}(h:leB b n=true)(k:In i b l):intBits i≤n:=by
 induction b using Option.casesOn with
 |none=>exact nomatch h
 |some x=>exact Nat.le_trans (k.b x rfl) (Nat.le_of_ble_eq_true h)
noncomputable def lowN(l:Option Nat):Option Nat:=cond (isP l) (some 1) (lo0 (isS l))
theorem In.b1{n:Int}{x:Nat}(h:intBits n≤x):In n (some x) none:=⟨fun y e=>by cases Option.some.inj e;exact h,fun o1_ e=>by cases e⟩
theorem In.bl{n:Int}{b l:Option Nat}(h:∀x,b=some x→intBits n≤x)(k:∀y,l=some y→(y:Int)≤n):In n b l:=⟨h,k⟩
theorem br_both{b:Bool}{p q:Prop}(h:b=true→p)(k:b=false→q):Br b p q:=⟨by cases b;exact k rfl;exact h rfl⟩
theorem br_t{b:Bool}{p q:Prop}(h:b=true)(k:p):Br b p q:=⟨by rw[h];exact k⟩
theorem br_f{b:Bool}{p q:Prop}(h:b=false)(k:q):Br b p q:=⟨by rw[h];exact k⟩
set_option genInjectivity false in
set_option genSizeOfSpec false in
inductive AsID(k:IK)(v:V):Prop where
 |mk (i:Int) (b l:Option Nat) (e:v= .int i b l) (hi:In i b l) (h:k i b l)
theorem asI.kw{k:IK}{v:V}(h:asI k v)(hk:Kw v):AsID k v:=by
 induction v using V.casesOn with
 |int i b l=>exact⟨i,b,l,rfl,hk.int,h⟩
 |_=>exact h.elim
noncomputable def nnK(n:Int)(l:Option Nat)(p:Prop):Prop:=cond (isS l) p (0≤n∧p)
theorem nnK.ok{j:Int}{b l:Option Nat}{p:Prop}(h:nnK j l p)(hj:In j b l):0≤j∧p:=by
 unfold nnK at h
 cases e:isS l with
 |true=>rw[e] at h;exact⟨isS.ok e hj,h⟩
 |false=>rw[e] at h;exact h
noncomputable def asP(k:Int→Option Nat→Option Nat→Int→Option Nat→Option Nat→Prop):V→Prop
 |.tup [u,v]=>asI (fun i bi li=>asI (fun j bj lj=>k i bi li j bj lj) v) u
 |_=>False
set_option genInjectivity false in
set_option genSizeOfSpec false in
inductive AsPD(k:Int→Option Nat→Option Nat→Int→Option Nat→Option Nat→Prop)(v:V):Prop where
 |mk (i:Int) (bi li:Option Nat) (j:Int) (bj lj:Option Nat) (e:v= .tup [.int i bi li,.int j bj lj]) (hi:In i bi li) (hj:In j bj lj) (h:k i bi li j bj lj)
theorem asP.kw{k:Int→Option Nat→Option Nat→Int→Option Nat→Option Nat→Prop}{v:V}(h:asP k v)(hk:Kw v):AsPD k v:=by
 induction v using V.casesOn with
 |tup vs=>induction vs using List.casesOn with
  |nil=>exact h.elim
  |cons u r=>induction r using List.casesOn with
   |nil=>exact h.elim
   |cons v r=>induction r using List.casesOn with
    |cons o1_ o2_=>exact h.elim
    |nil=>
     have hk:=hk.tup
     obtain⟨i,bi,li,rfl,k1,h⟩:=asI.kw (show asI (fun i bi li=>asI (fun j bj lj=>k i bi li j bj lj) v) u from h) hk.cons.1
     obtain⟨j,bj,lj,rfl,k2,h⟩:=asI.kw h hk.cons.2.cons.1
     exact⟨i,bi,li,j,bj,lj,rfl,k1,k2,h⟩
 |_=>exact h.elim
theorem Imp.to{n m:Int}{b l b' l':Option Nat}(e:n=m)(h:In m b' l'):Imp (.int n b l) (.int m b' l'):=by subst e;exact Imp.int h
theorem Sh.to{n:Int}{b l b' l':Option Nat}(h:In n b' l'):Sh (.int n b l) (.int n b' l'):= .int fun o1_=>h
theorem Imp.pr{n m:Int}{b l b' l' b2 l2 b2' l2':Option Nat}(h:In n b' l')(k:In m b2' l2'):Imp (.tup [.int n b l,.int m b2 l2]) (.tup [.int n b' l',.int m b2' l2']):= .tup (.cons (.int h) (.cons (.int k) .nil))
theorem In.bn{n:Int}{x y:Nat}(h:intBits n≤x)(k:(y:Int)≤n):In n (some x) (some y):=⟨fun z e=>by cases Option.some.inj e;exact h,fun z e=>by cases Option.some.inj e;exact k⟩
section
variable {sc:Scope} {c:Cx sc} {d:Nat} {κ:Kap} {ρ:List (Str×V)} {σ:Sto} {Kn:XK} {Kr:V→Sto→Prop}
noncomputable abbrev attD(w:World)(name:Str)(n:Int)(t t':Tok)(es:List DictEntry)(N:Nat):Obj:=dictOf (putL name (PyData.keyHash w.params name) (.str name t) (.int n t') es) (putN name es N)
noncomputable def wAttS{sc:Scope}(c:Cx sc)(name:Str)(a y:V)(σ:Sto)(K:Sto→Prop):Prop:=∃n bn ln k j es N,a= .int n bn ln∧y= .ref k∧σ[k]?=some (.ins j)∧σ[j]?=some (.obj (dictOf es N))∧(getL name es).isSome=true∧Nat.ble es.length 900=true∧(In n bn ln→∀t t',K (σ.set j (.obj (attD c.w name n t t' es N))))
theorem putL_len{name:Str}{hash:Int}{k v:Value}:∀{es:List DictEntry},(putL name hash k v es).length≤es.length+1:=by
 intro es
 induction es with
 |nil=>exact Nat.le_refl _
 |cons e es ih=>
  show(if e.key.isStr name then _::es else e::putL name hash k v es).length≤_
  split
  ·exact Nat.le_succ _
  ·exact Nat.succ_le_succ ih
theorem AS.attr(ok:Cok c d){o e:PySem.Expr}{name:Str}{b:List Stmt}{ap pos:Pos}(ht:takerIn (Mine.K c.w.params) 264 name=some none)
  (h:AE c c.env (fX sc.names κ ρ) e σ fun a σ1=>AE c c.env (fX sc.names κ ρ) o σ1 fun y σ2=>wAttS c name a y σ2 fun σ3=>AS c κ ρ σ3 b Kn Kr)
  (hs:swapsWith e (some (.Attribute o name ap)) pos.line c.env=pure false):AS c κ ρ σ (.Assign [.Attribute o name ap] e pos::b) Kn Kr:=fun pr fz m ι l hl hk r=>fun s Q E pe F N q k=>by
 have hn:=nm_def ok hl hk
 refine wpAny_execs_cons (plainObj_wpAny_Assign_Attribute (h pr fz m ι l hn r s _ E F N fun v l1 h1 tk1 p F1 N1=>p.elim fun ι1 fz1 σ1 a k1 hv r1 g1 n1 e1=>?_) hs)
 refine k1 pr fz1 m ι1 l1 (hn.grow e1.sub g1 n1) r1 _ _ E F1 N1 fun v2 l2 h2 tk2 p F2 N2=>p.elim fun ι2 fz2 σ2 y k2 hy r2 g2 n2 e2=>?_
 obtain⟨n,bn,ln,kk,j,es,M,rfl,rfl,e3,e4,hg,hz,k3⟩:=k2
 cases hv with
 |dat hv=>
  cases hv with
  |int hi=>
   cases hy with
   |dat hy=>exact nomatch hy
   |ref hkk=>
    obtain⟨Oi,hmi,hci⟩:=r2.mem kk _ e3
    cases hci with
    |ins hj=>
     obtain⟨Od,hmd,hcd⟩:=r2.mem j _ e4
     cases hcd with
     |obj=>
      have G:=g1.trans g2 n1
      have NN:=Nat.le_trans n1 n2
      have EE:=e1.trans e2
      refine set_dict (news:=(ι2 j,dictOf es M)::dropL (ι2 j) l2) F2 ok.X (fun p hp=>(List.mem_cons.mp hp).elim (fun e=>e▸N2 _ hmd) fun hp=>N2 p (dropL.mem.mp hp).1) (InstAt.of_news N2 hmi hmd) rfl (by w_on) (by w_on) ht (by w_on) hg rfl (.head fun p hp=>(dropL.mem.mp hp).2) (Nat.le_trans putL_len (Nat.le_trans (Nat.succ_le_succ (Nat.le_of_ble_eq_true hz)) (by decide))) fun h3 F3 N3=>?_
      exact((k3 hi _ _ pr fz2 m ι2 _ (hl.grow EE.sub G (by rw[List.length_set];exact NN)) (hk.grow G (by rw[List.length_set];exact NN)) (r2.put e4 rfl rfl hmd (dropL.subX N2 hmd) (.head _) .obj)).trans G (by rw[List.length_set];exact NN) EE) ⟨h3,s.gens,s.drawn,_,s.os⟩ Q E pe F3 N3 q k
end
theorem con_init{w:World}{fI:Addr}{d:Nat}{news:Led}{vs:List Value}{RR:Addr→Led→Prop}{name qual:Str}{params:Arguments}{body:List Stmt}{scope:Scope}{dV kV doc pm cdv ct oc:Value}{an od:Option Addr}{osl:Array (Option Value)}{binds:Addr→List (Str×Value)}
  (hmk:makesIn (Mine.K w.params) 264=true)(hfi:findIn (Mine.K w.params) (.ref 264) "__init__" =some (some (.ref fI)))(hff:isFn (Mine.K w.params) (.ref fI)=true)
  (ho:(Mine.K w.params).lookup fI=some ⟨oc,od,.func (fnOf name qual params body scope dV kV doc pm an cdv ct),osl⟩)(hcd:codeIn (Mine.K w.params) cdv qual=true)
  (hbind:∀x (s:Shared),(Mine.K w.params).In s.heap→BindsTo s (fnOf name qual params body scope dV kV doc pm an cdv ct) ⟨.ref x::vs,[]⟩ (binds x))
  (hkind:∀x,((binds x).all fun y=>scope.names.lookup y.1==some .local||scope.names.lookup y.1==some .cell)=true)(hnd:((cellsFrom 0 scope.names []).map (·.1)).Nodup)
  (h:∀x dx,FreshAt x news→FreshAt dx news→x≠dx→∀(c:Cx scope) (cells l:Led),c.w=w→Cok c d→CellsAre (bindC (fun x=>scope.names.lookup x) (binds x) fun o1_=>none) (cellsFrom (c.L+1) scope.names []) cells→(∀p∈cells,FreshAt p.1 ((x,instObj 264 dx)::(dx,dictOf [] 0)::news))→Sub cells l→Sub ((x,instObj 264 dx)::(dx,dictOf [] 0)::news) l→
   TS c c.env (bindL (fun x=>scope.names.lookup x) (binds x) fun o1_=>none) l body (fun o1_ l=>RR x l) (fun o1_ o2_=>False))
  (hco:scope.isCoroutine=false) (hgen:scope.isGenerator=false) (hk:scope.kind= .function):ConG w 264 (d+2) news vs (fun v l'=>∃x,v= .ref x∧RR x l'):=by
 intro mg mb dp un gd cn cs ad ccd cl outer A₀ base h₀ L m s Q E B F X N T G9 Hk Hd Hu hret
 refine call_cls F X N hmk hfi hff fun x dx h8 F8 N8 l1 l2=>?_
 have fx:FreshAt x news:=fun p hp=>Nat.ne_of_lt (Nat.lt_trans (l1 p hp) l2)
 have fd:FreshAt dx news:=fun p hp=>Nat.ne_of_lt (l1 p hp)
 show codeAny _ (ktrTop (dp+1) (un+1) gd cn cs L ad ccd cl outer) _ _ _
 refine enter_subC B F8 X N8 T rfl rfl Hk ho hcd (by show dp+1<_;exact lN 0x13e11d03e204208e8484210423a12e3 Hd (Nat.zero_le _)) (hbind x _ (X.keeps F8.keep)) (hkind x) hnd (fun g L' h₁ tk cells FG F' N' Y B' X' T' hlt hgg=>?_) hco hgen hk
 have ok:Cok (sc:=scope) ⟨w,((ktrTop (dp+1) (un+1) gd cn cs L ad ccd cl outer).deeper (envOfC qual scope L' fI cdv)).depth,((ktrTop (dp+1) (un+1) gd cn cs L ad ccd cl outer).deeper (envOfC qual scope L' fI cdv)).units,gd,qual,L',fI,cdv,envX cn cs L ad ccd cl::outer,ktrTop (dp+1) (un+1) gd cn cs L ad ccd cl outer,base,g,mg,mb⟩ d:=
  ⟨B',X',T',G9,hk,by rw[depth_deeper];show dp+1+1+d<_;exact lN 0x40f8810823a12108410a10423c23a12e3 Hd,by simp only[units_deeper];show un+1+3+8*d<_;exact lN 0x42804f88108408e8484210428c10a804f1023a12e3 Hu⟩
 have H:=h x dx fx fd (Nat.ne_of_gt l2) _ cells (cells++((x,instObj 264 dx)::(dx,dictOf [] 0)::news)) rfl ok Y (fun p hp q hq=>Nat.ne_of_lt (Nat.lt_trans (hlt q hq) (cells_above Y p hp))) (fun p hp=>List.mem_append.mpr (.inl hp)) (fun p hp=>List.mem_append.mpr (.inr hp))
 refine H _ _ _ PassesOwn.leaving F' N' ?_ ?_
 ·intro v m' l' h' tk' p F'' N''
  exact p.elim
 ·intro m' l' h' tk' p F'' N''
  exact leaveK_ F'' N'' fun a b=>⟨rfl,hret _ _ _ _ ⟨x,rfl,p⟩ a b⟩
noncomputable def F_gcd0:PF:=aF [] [] zipB f53 20
theorem ok_gcd0{w:World}:FnOk w 53 9 F_gcd0:=aF.ok (by decide) GamOk.nil MthOk.nil (by w_on) (by w_on) (by w_on) rfl (by with_unfolding_all decide) (BndOk.zip (len2 fun o1_ o2_=>rfl))
noncomputable def F_gcd:PF:=fun as K=>w2 (fun u v=>asI (fun i bi li=>asI (fun j bj lj=>psK j lj (K (.int (gcdI i j) bj (some 1)))) v) u) as
inductive gcdInv(σ0:Sto)(a b:Int):Nat→List (Str×V)→Sto→Prop
 |mk (x y:Int) (h:0≤x∧0≤y∧Int.gcd x y=Int.gcd a b):gcdInv σ0 a b y.toNat [("one",.int a none none),("other",.int b none none),("second",.int y none none),("first",.int x none none)] σ0
theorem ok_gcd{w:World}:FnOk w 53 9 F_gcd:=FnOk.of ok_gcd0 fun as K hk hF=>by
 refine byC fun C9 k9=>?_
 obtain⟨u,v,rfl,hFz1⟩:=w2.ok hF
 obtain⟨a,ba,la,rfl,ka,hF⟩:=asI.kw hFz1 hk.cons.1
 obtain⟨b,bb,lb,rfl,kb,hFz2⟩:=asI.kw hF hk.cons.2.cons.1
 obtain⟨h0,hF⟩:=psK.ok hFz2 kb
 refine k9 ?_
 refine⟨[.int a none none,.int b none none],.cons (.int .no) (.cons (.int .no) .nil),?_⟩
 refine⟨gcdInv _ a b,⟨b.toNat,_,.cons .refl (.cons .refl (.cons .refl (.cons (.int fun o1_=> .no) .nil))),.mk (absI a) b ⟨(g_start (Int.le_of_lt h0)).1,Int.le_of_lt h0,(g_start (Int.le_of_lt h0)).2.2⟩⟩,?_⟩
 intro n ρ' σ' H
 obtain⟨x,y,hx,hy,hg⟩:=H
 refine br_both (fun h=>?_) (fun h=>?_)
 ·have h:=of_decide_eq_true h
  have hs:=g_step hg h
  have hlt:=Int.fmod_lt_of_pos x h
  refine⟨Int.ne_of_gt h,_,_,g_meas h,.refl,.mk y (x.fmod y) ⟨hy,hs.2.1,hs.2.2⟩⟩
 ·have h:=of_decide_eq_false h
  obtain rfl:=g_end hg hx hy h
  exact⟨_,Imp.int (In.bl (fun z e=>gcdI_bits h0 (kb.b z e)) fun z e=>by cases e;exact gcdI_pos h0),hF⟩
noncomputable def G1:Gam:=("common_divisor",.p F_gcd)::[]
theorem G1.ok{w:World}:GamOk w G1 9:=((GamOk.nil (d:=9))).cons (F:= .p F_gcd) (d':=9) (by decide) (by decide) rfl (by w_on) ok_gcd
noncomputable def F_frac0:PF:=aF G1 [] (zipD (.int 1 (some 1) (some 1))) f61 20
theorem ok_frac0{w:World}:FnOk w 61 10 F_frac0:=aF.ok (by decide) G1.ok MthOk.nil (by w_on) (by w_on) (by w_on) rfl (by with_unfolding_all decide) (BndOk.zipD (.int ⟨fun x e=>by cases e;decide,fun x e=>by cases e;decide⟩) (len2 (P:=fun vs=>∀s:Shared,(Mine.K w.params).In s.heap→BindsTo s _ ⟨vs,[]⟩ ((fdX f61).zip vs)) (fun o1_ o2_ s X=>binds_K X rfl (by w_on) rfl rfl rfl)) fun vs h=>len1 (P:=fun vs=>∀s:Shared,(Mine.K w.params).In s.heap→BindsTo s _ ⟨vs,[]⟩ ((fdX f61).zip (vs++[_]))) (fun o1_ s X=>binds_K X rfl (by w_on) rfl rfl rfl) vs (Nat.succ.inj h))
theorem frac_low{a b:Int}{ba la:Option Nat}(h0:0<b)(k:In a ba la):In (frac a b).1 ba (lowN la):=by
 have hg:=gcdI_pos (a:=a) h0
 refine In.bl (fun x e=>bits_fdiv (k.b x e)) fun y e=>?_
 induction la using Option.casesOn with
 |none=>cases e
 |some x=>
  have hx:=k.l x rfl
  induction x using Nat.casesOn with
  |zero=>cases e;exact Int.fdiv_nonneg hx (Int.le_of_lt hg)
  |succ x=>
   cases e
   have hd:gcdI a b∣a:=Int.gcd_dvd_left ..
   obtain⟨z,hz⟩:=hd
   show 0<a.fdiv (gcdI a b)
   generalize gcdI a b=g at *
   subst hz
   rw[Int.mul_fdiv_cancel_left _ (by omega)]
   exact Int.pos_of_mul_pos_right (show 0<g*z by omega) (by omega)
theorem frac_In{a b:Int}{ba la bb lb:Option Nat}(h0:0<b)(k:In a ba la)(k2:In b bb lb)  {b1 l1 b2 l2:Option Nat}:Imps [.int (frac a b).1 b1 l1,.int (frac a b).2 b2 l2] [.int (frac a b).1 ba (lowN la),.int (frac a b).2 bb (some 1)]:=
 .cons (.int (frac_low h0 k)) (.cons (.int (In.bl (fun x e=>bits_fdiv (k2.b x e)) fun y e=>by cases e;exact frac_pos h0)) .nil)
theorem In.one:In 1 (some 1) (some 1):=⟨fun x e=>by cases e;decide,fun x e=>by cases e;decide⟩
noncomputable def fracK(K:V→Prop)(u v:V):Prop:=asI (fun i bi li=>asI (fun j bj lj=>psK j lj (cond (leB bj 9000) (K (.tup [.int (frac i j).1 bi (lowN li),.int (frac i j).2 bj (some 1)])) False)) v) u
noncomputable def F_frac:PF:=fun as K=>match as with
 |[u]=>fracK K u (.int 1 (some 1) (some 1))
 |[u,v]=>fracK K u v
 |_=>False
theorem frac_walk{K:V→Prop}{u v:V}(h:fracK K u v)(hu:Kw u)(hv:Kw v):∃a b,(∃ba la bb lb,u= .int a ba la∧v= .int b bb lb∧intBits b≤9000)∧F_frac0 [.int a none none,.int b (some 9000) none] fun r=>∃r',Imp r r'∧K r':=by
 obtain⟨a,ba,la,rfl,ka,hz3⟩:=asI.kw h hu
 obtain⟨b,bb,lb,rfl,kb,h⟩:=asI.kw hz3 hv
 obtain⟨h0,hz4⟩:=psK.ok h kb
 obtain⟨h1,h⟩:=cond_t hz4
 refine⟨a,b,⟨_,_,_,_,rfl,rfl,leB.ok h1 kb⟩,?_⟩
 refine br_f (decide_eq_false (Int.ne_of_gt h0)) ?_
 refine br_f (decide_eq_false (Int.not_lt.mpr (Int.le_of_lt h0))) ?_
 refine⟨h0,?_⟩
 exact⟨_,.tup (frac_In h0 ka kb),h⟩
theorem ok_frac{w:World}:FnOk w 61 10 F_frac:=FnOk.of ok_frac0 fun as K hk hF=>by
 induction as using List.casesOn with
 |nil=>exact hF.elim
 |cons u r=>
  have hu:=hk.cons.1
  cases r with
  |nil=>
   obtain⟨a,ba,la,rfl,ka,hFz5⟩:=asI.kw (k:=fun i bi li=>asI (fun j bj lj=>psK j lj (cond (leB bj 9000) (K (.tup [.int (frac i j).1 bi (lowN li),.int (frac i j).2 bj (some 1)])) False)) (.int 1 (some 1) (some 1))) hF hu
   refine⟨[.int a none none],.cons (.int .no) .nil,?_⟩
   refine br_f (decide_eq_false (by decide)) ?_
   refine br_f (decide_eq_false (by decide)) ?_
   exact⟨_,.tup (frac_In (bb:=some 1) (lb:=some 1) (by decide) ka In.one),hFz5⟩
  |cons v r=>
   have hv:=hk.cons.2.cons.1
   cases r with
   |nil=>
    obtain⟨a,b,⟨ba,la,bb,lb,rfl,rfl,h⟩,W⟩:=frac_walk hF hu hv
    exact⟨[.int a none none,.int b (some 9000) none],.cons (.int .no) (.cons (.int (.b1 h)) .nil),W⟩
   |cons o1_ o2_=>exact hF.elim
noncomputable def G2:Gam:=("fraction",.p F_frac)::G1
theorem G2.ok{w:World}:GamOk w G2 10:=(G1.ok).cons (F:= .p F_frac) (d':=10) (by decide) (by decide) rfl (by w_on) ok_frac
noncomputable def F_plus:PF:=aF G2 [] zipB f68 30
theorem ok_plus{w:World}:FnOk w 68 11 F_plus:=aF.ok (by decide) G2.ok MthOk.nil (by w_on) (by w_on) (by w_on) rfl (by with_unfolding_all decide) (BndOk.zip (len2 fun o1_ o2_=>rfl))
noncomputable def F_minus:PF:=aF G2 [] zipB f75 30
theorem ok_minus{w:World}:FnOk w 75 11 F_minus:=aF.ok (by decide) G2.ok MthOk.nil (by w_on) (by w_on) (by w_on) rfl (by with_unfolding_all decide) (BndOk.zip (len2 fun o1_ o2_=>rfl))
noncomputable def F_times:PF:=aF G2 [] zipB f82 30
theorem ok_times{w:World}:FnOk w 82 11 F_times:=aF.ok (by decide) G2.ok MthOk.nil (by w_on) (by w_on) (by w_on) rfl (by with_unfolding_all decide) (BndOk.zip (len2 fun o1_ o2_=>rfl))
noncomputable def F_divided:PF:=aF G2 [] zipB f89 30
theorem ok_divided{w:World}:FnOk w 89 11 F_divided:=aF.ok (by decide) G2.ok MthOk.nil (by w_on) (by w_on) (by w_on) rfl (by with_unfolding_all decide) (BndOk.zip (len2 fun o1_ o2_=>rfl))
noncomputable def F_negated:PF:=aF G2 [] zipB f96 30
theorem ok_negated{w:World}:FnOk w 96 11 F_negated:=aF.ok (by decide) G2.ok MthOk.nil (by w_on) (by w_on) (by w_on) rfl (by with_unfolding_all decide) (BndOk.zip (len1 fun o1_=>rfl))
noncomputable def F_absolute:PF:=aF G2 [] zipB f103 30
theorem ok_absolute{w:World}:FnOk w 103 11 F_absolute:=aF.ok (by decide) G2.ok MthOk.nil (by w_on) (by w_on) (by w_on) rfl (by with_unfolding_all decide) (BndOk.zip (len1 fun o1_=>rfl))
noncomputable def F_sign_of:PF:=aF G2 [] zipB f110 30
theorem ok_sign_of{w:World}:FnOk w 110 11 F_sign_of:=aF.ok (by decide) G2.ok MthOk.nil (by w_on) (by w_on) (by w_on) rfl (by with_unfolding_all decide) (BndOk.zip (len1 fun o1_=>rfl))
noncomputable def F_floor_of:PF:=aF G2 [] zipB f131 30
theorem ok_floor_of{w:World}:FnOk w 131 11 F_floor_of:=aF.ok (by decide) G2.ok MthOk.nil (by w_on) (by w_on) (by w_on) rfl (by with_unfolding_all decide) (BndOk.zip (len1 fun o1_=>rfl))
noncomputable def F_rounded:PF:=aF G2 [] zipB f138 30
theorem ok_rounded{w:World}:FnOk w 138 11 F_rounded:=aF.ok (by decide) G2.ok MthOk.nil (by w_on) (by w_on) (by w_on) rfl (by with_unfolding_all decide) (BndOk.zip (len1 fun o1_=>rfl))
noncomputable def F_turned:PF:=aF G2 [] zipB f219 30
theorem ok_turned{w:World}:FnOk w 219 11 F_turned:=aF.ok (by decide) G2.ok MthOk.nil (by w_on) (by w_on) (by w_on) rfl (by with_unfolding_all decide) (BndOk.zip (len1 fun o1_=>rfl))
noncomputable def F_dot:PF:=aF G2 [] zipB f226 30
theorem ok_dot{w:World}:FnOk w 226 11 F_dot:=aF.ok (by decide) G2.ok MthOk.nil (by w_on) (by w_on) (by w_on) rfl (by with_unfolding_all decide) (BndOk.zip (len2 fun o1_ o2_=>rfl))
noncomputable def F_cross:PF:=aF G2 [] zipB f233 30
theorem ok_cross{w:World}:FnOk w 233 11 F_cross:=aF.ok (by decide) G2.ok MthOk.nil (by w_on) (by w_on) (by w_on) rfl (by with_unfolding_all decide) (BndOk.zip (len2 fun o1_ o2_=>rfl))
noncomputable def G3:Gam:=("cross",.p F_cross)::("dot",.p F_dot)::("turned",.p F_turned)::("rounded",.p F_rounded)::("floor_of",.p F_floor_of)::("sign_of",.p F_sign_of)::("absolute",.p F_absolute)::("negated",.p F_negated)::("divided",.p F_divided)::("times",.p F_times)::("minus",.p F_minus)::("plus",.p F_plus)::G2
theorem G3.ok{w:World}:GamOk w G3 11:=((((((((((((G2.ok).cons (F:= .p F_plus) (d':=11) (by decide) (by decide) rfl (by w_on) ok_plus).cons (F:= .p F_minus) (d':=11) (by decide) (by decide) rfl (by w_on) ok_minus).cons (F:= .p F_times) (d':=11) (by decide) (by decide) rfl (by w_on) ok_times).cons (F:= .p F_divided) (d':=11) (by decide) (by decide) rfl (by w_on) ok_divided).cons (F:= .p F_negated) (d':=11) (by decide) (by decide) rfl (by w_on) ok_negated).cons (F:= .p F_absolute) (d':=11) (by decide) (by decide) rfl (by w_on) ok_absolute).cons (F:= .p F_sign_of) (d':=11) (by decide) (by decide) rfl (by w_on) ok_sign_of).cons (F:= .p F_floor_of) (d':=11) (by decide) (by decide) rfl (by w_on) ok_floor_of).cons (F:= .p F_rounded) (d':=11) (by decide) (by decide) rfl (by w_on) ok_rounded).cons (F:= .p F_turned) (d':=11) (by decide) (by decide) rfl (by w_on) ok_turned).cons (F:= .p F_dot) (d':=11) (by decide) (by decide) rfl (by w_on) ok_dot).cons (F:= .p F_cross) (d':=11) (by decide) (by decide) rfl (by w_on) ok_cross
noncomputable def F_compare:PF:=aF G3 [] zipB f117 30
theorem ok_compare{w:World}:FnOk w 117 12 F_compare:=aF.ok (by decide) G3.ok MthOk.nil (by w_on) (by w_on) (by w_on) rfl (by with_unfolding_all decide) (BndOk.zip (len2 fun o1_ o2_=>rfl))
noncomputable def G4:Gam:=("compare",.p F_compare)::G3
theorem G4.ok{w:World}:GamOk w G4 12:=(G3.ok).cons (F:= .p F_compare) (d':=12) (by decide) (by decide) rfl (by w_on) ok_compare
noncomputable def F_root0:PF:=aF G4 [] zipB f145 30
theorem ok_root0{w:World}:FnOk w 145 13 F_root0:=aF.ok (by decide) G4.ok MthOk.nil (by w_on) (by w_on) (by w_on) rfl (by with_unfolding_all decide) (BndOk.zip (len1 fun o1_=>rfl))
noncomputable def F_want_bottom:PF:=aF G4 [] zipB f154 30
theorem ok_want_bottom{w:World}:FnOk w 154 13 F_want_bottom:=aF.ok (by decide) G4.ok MthOk.nil (by w_on) (by w_on) (by w_on) rfl (by with_unfolding_all decide) (BndOk.zip (len1 fun o1_=>rfl))
noncomputable def F_scaled_radians:PF:=aF G4 [] zipB f161 30
theorem ok_scaled_radians{w:World}:FnOk w 161 13 F_scaled_radians:=aF.ok (by decide) G4.ok MthOk.nil (by w_on) (by w_on) (by w_on) rfl (by with_unfolding_all decide) (BndOk.zip (len2 fun o1_ o2_=>rfl))
noncomputable def F_series0:PF:=aF G4 [] zipB f168 30
theorem ok_series0{w:World}:FnOk w 168 13 F_series0:=aF.ok (by decide) G4.ok MthOk.nil (by w_on) (by w_on) (by w_on) rfl (by with_unfolding_all decide) (BndOk.zip (len4 fun o1_ o2_ o3_ o4_=>rfl))
noncomputable def F_root:PF:=fun as K=>w1 (fun u=>asI (fun n b l=>nnK n l (cond (leB b 8000) (K (.int (rootI n) b (some 0))) False)) u) as
inductive rt1(σ0:Sto)(n:Int):Nat→List (Str×V)→Sto→Prop
 |mk (f:Int) (h:1≤f∧f*f≤4*n∧intBits f≤8003):rt1 σ0 n (n+1-f*f).toNat [("n",.int n (some 8000) (some 0)),("found",.int f (some 8003) (some 1))] σ0
inductive rt2(σ0:Sto)(n:Int):Nat→List (Str×V)→Sto→Prop
 |mk (f l:Int) (h:0<f∧0<l∧n<(f+1)*(f+1)∧l=(f+n.fdiv f).fdiv 2∧intBits f≤8003∧intBits l≤8004):rt2 σ0 n f.toNat [("n",.int n (some 8000) (some 0)),("found",.int f (some 8003) (some 1)),("lower",.int l (some 8004) (some 1))] σ0
theorem ok_root{w:World}:FnOk w 145 13 F_root:=FnOk.of ok_root0 fun as K hk hF=>by
 refine byC fun C9 k9=>?_
 obtain⟨u,rfl,hFz1⟩:=w1.ok hF
 obtain⟨n,b,l,rfl,kn,hF⟩:=asI.kw hFz1 hk.cons.1
 obtain⟨h0,hFz2⟩:=nnK.ok hF kn
 obtain⟨h1,hF⟩:=cond_t hFz2
 have hb:=leB.ok h1 kn
 refine k9 ?_
 refine⟨[.int n (some 8000) (some 0)],.cons (.int (.bn hb h0)) .nil,?_⟩
 refine br_f (decide_eq_false (Int.not_lt.mpr h0)) ?_
 refine br_both (fun h=>?_) (fun h=>?_)
 ·have hz:n=0:=of_decide_eq_true h
  subst hz
  exact⟨_,Imp.to (show(0:Int)=rootI 0 by decide) (In.bl (fun x e=>Nat.zero_le _) fun y e=>by cases Option.some.inj e;decide),hF⟩
 have hz:n≠0:=of_decide_eq_false h
 have hn:0<n:=by omega
 have s1:=rf1_start (k:=8000) hn
 refine⟨rt1 _ n,⟨_,_,.cons .refl (.cons (.to (.bn s1.2.2 (by decide))) .nil),.mk 1 s1⟩,?_⟩
 intro m ρ' σ' H
 obtain⟨f,h1,h2,h3⟩:=H
 refine br_both (fun h=>?_) (fun h=>?_)
 ·have h:=of_decide_eq_true h
  have s:=rf1_step h1 h hb
  exact⟨_,_,rf1_meas h1 h,.cons .refl (.cons (.to (.bn s.2.2 s.1)) .nil),.mk (f*2) s⟩
 have h:=of_decide_eq_false h
 have s2:=rf2_start hn h1 h hb h3
 refine⟨rt2 _ n,⟨_,_,.cons .refl (.cons .refl (.cons (.to (.bn s2.2.2.2.2.2 s2.2.1)) .nil)),.mk f _ s2⟩,?_⟩
 intro m ρ' σ' H
 obtain⟨f,l,h1,h2,h3,h4,h5,h6⟩:=H
 refine br_both (fun h=>?_) (fun h=>?_)
 ·have h:=of_decide_eq_true h
  have s:=rf2_step h4 hn h1 h2 h hb h5
  exact⟨_,_,(Int.toNat_lt_toNat h1).mpr h,.cons .refl (.cons (.to (.bn s.2.2.2.2.1 h2)) (.cons (.to (.bn s.2.2.2.2.2 s.2.1)) .nil)),.mk l _ s⟩
 have h:=of_decide_eq_false h
 exact⟨_,Imp.to (rf_end h4 hn h1 h3 h) (In.bl (fun x e=>root_bits h0 (kn.b x e)) fun y e=>by cases Option.some.inj e;exact(rootI_spec h0).1),hF⟩
noncomputable def asL2(k:V→V→Prop):V→Prop
 |.lst [u,v]=>k u v
 |_=>False
theorem asL2.kw{k:V→V→Prop}{a:V}(h:asL2 k a)(hk:Kw a):∃u v,a= .lst [u,v]∧Kw u∧Kw v∧k u v:=by
 cases a with
 |lst vs=>induction vs using List.casesOn with
  |nil=>exact h.elim
  |cons u r=>induction r using List.casesOn with
   |nil=>exact h.elim
   |cons v r=>induction r using List.casesOn with
    |cons o1_ o2_=>exact h.elim
    |nil=>exact⟨u,v,rfl,hk.lst.cons.1,hk.lst.cons.2.cons.1,h⟩
 |_=>exact h.elim
theorem and_t{a b:Bool}(h:(a&&b)=true):a=true∧b=true:=by
 cases a
 ·cases h
 ·exact⟨rfl,h⟩
noncomputable def asPP(n:Nat)(k:Int→Int→Int→Int→Prop)(u v:V):Prop:=asP (fun a0 b0 l0 a1 b1 l1=>asP (fun c0 d0 m0 c1 d1 m1=>cond ((leB b0 n&&leB b1 n)&&(leB d0 n&&leB d1 n)) (k a0 a1 c0 c1) False) v) u
noncomputable abbrev pV(n:Nat)(a b:Int):V:= .tup [.int a (some n) none,.int b (some n) none]
theorem Imp.pV{n:Nat}{a b:Int}{b0 l0 b1 l1:Option Nat}(h:intBits a≤n)(k:intBits b≤n):Imp (.tup [.int a b0 l0,.int b b1 l1]) (Mine.pV n a b):=Imp.pr (.b1 h) (.b1 k)
set_option genInjectivity false in
set_option genSizeOfSpec false in
inductive AsPPD(n:Nat)(k:Int→Int→Int→Int→Prop)(u v:V):Prop where
 |mk (a0 a1 c0 c1:Int) (i:Imp u (pV n a0 a1)) (j:Imp v (pV n c0 c1)) (b:intBits a0≤n∧intBits a1≤n) (c:intBits c0≤n∧intBits c1≤n) (h:k a0 a1 c0 c1)
theorem asPP.kw{n:Nat}{k:Int→Int→Int→Int→Prop}{u v:V}(h:asPP n k u v)(hu:Kw u)(hv:Kw v):AsPPD n k u v:=by
 obtain⟨a0,b0,l0,a1,b1,l1,rfl,k0,k1,hz1⟩:=asP.kw h hu
 obtain⟨c0,d0,m0,c1,d1,m1,rfl,k2,k3,h⟩:=asP.kw hz1 hv
 obtain⟨z,hz2⟩:=cond_t h
 have z1:=and_t z
 have z2:=and_t z1.1
 have z3:=and_t z1.2
 exact⟨a0,a1,c0,c1,.pV (leB.ok z2.1 k0) (leB.ok z2.2 k1),.pV (leB.ok z3.1 k2) (leB.ok z3.2 k3),⟨leB.ok z2.1 k0,leB.ok z2.2 k1⟩,⟨leB.ok z3.1 k2,leB.ok z3.2 k3⟩,hz2⟩
noncomputable def F_cmp:PF:=fun as K=>w2 (asPP 4000 fun a0 a1 c0 c1=>K (.int (compareF (a0,a1) (c0,c1)) (some 1) none)) as
theorem sign_b(x:Int):intBits (signI x)≤1:=by
 unfold signI
 split
 ·decide
 ·split <;> decide
theorem ok_cmp{w:World}:FnOk w 117 12 F_cmp:=FnOk.of ok_compare fun as K hk hF=>by
 refine byC fun C9 k9=>?_
 obtain⟨u,v,rfl,hFz3⟩:=w2.ok hF
 obtain⟨a0,a1,c0,c1,i1,i2,o1_,o2_,hF⟩:=asPP.kw hFz3 hk.cons.1 hk.cons.2.cons.1
 refine k9 ?_
 refine⟨_,.cons i1 (.cons i2 .nil),?_⟩
 refine br_both (fun h=>?_) (fun h=>?_)
 ·exact⟨_,Imp.to (if_pos (of_decide_eq_true h)).symm (.b1 (sign_b _)),hF⟩
 refine br_both (fun k=>?_) (fun k=>?_)
 ·exact⟨_,Imp.to ((if_neg (of_decide_eq_false h)).trans (if_pos (of_decide_eq_true k))).symm (.b1 (sign_b _)),hF⟩
 ·exact⟨_,Imp.to ((if_neg (of_decide_eq_false h)).trans (if_neg (of_decide_eq_false k))).symm (.b1 (sign_b _)),hF⟩
noncomputable def G5:Gam:=("scaled_radians",.p F_scaled_radians)::("want_bottom",.p F_want_bottom)::("root_floor",.p F_root)::("compare",.p F_cmp)::G3
theorem G5.ok{w:World}:GamOk w G5 13:=((((G3.ok).cons (F:= .p F_cmp) (d':=13) (by decide) (by decide) rfl (by w_on) ok_cmp).cons (F:= .p F_root) (d':=13) (by decide) (by decide) rfl (by w_on) ok_root).cons (F:= .p F_want_bottom) (d':=13) (by decide) (by decide) rfl (by w_on) ok_want_bottom).cons (F:= .p F_scaled_radians) (d':=13) (by decide) (by decide) rfl (by w_on) ok_scaled_radians
noncomputable def F_least1:PF:=aF G5 [] zipB f124 30
theorem ok_least1{w:World}:FnOk w 124 14 F_least1:=aF.ok (by decide) G5.ok MthOk.nil (by w_on) (by w_on) (by w_on) rfl (by with_unfolding_all decide) (BndOk.zip (len1 fun o1_=>rfl))
noncomputable def F_least:PF:=fun as K=>w1 (asL2 (asPP 2000 fun a0 a1 c0 c1=>K (pV 2000 (leastF (a0,a1) (c0,c1)).1 (leastF (a0,a1) (c0,c1)).2))) as
theorem cmp_self(a:Pr):compareF a a=0:=by
 unfold compareF
 rw[Int.sub_self];rfl
theorem ok_least{w:World}:FnOk w 124 14 F_least:=FnOk.of ok_least1 fun as K hk hF=>by
 refine byC fun C9 k9=>?_
 obtain⟨u,rfl,hFz4⟩:=w1.ok hF
 obtain⟨x,y,rfl,kx,ky,hF⟩:=asL2.kw hFz4 hk.cons.1
 obtain⟨a0,a1,c0,c1,i1,i2,j1,j2,hFz5⟩:=asPP.kw hF kx ky
 refine k9 ?_
 refine⟨_,.cons (.lst (.cons i1 (.cons i2 .nil))) .nil,?_⟩
 refine br_f (decide_eq_false (by rw[cmp_self];decide)) ?_
 refine br_both (fun h=>?_) (fun h=>?_)
 ·have e:leastF (a0,a1) (c0,c1)=(c0,c1):=if_pos (of_decide_eq_true h)
  rw[e] at hFz5
  exact⟨_,Imp.refl,hFz5⟩
 ·have e:leastF (a0,a1) (c0,c1)=(a0,a1):=if_neg (of_decide_eq_false h)
  rw[e] at hFz5
  exact⟨_,Imp.refl,hFz5⟩
noncomputable def G6:Gam:=("least",.p F_least)::G5
theorem G6.ok{w:World}:GamOk w G6 14:=(G5.ok).cons (F:= .p F_least) (d':=14) (by decide) (by decide) rfl (by w_on) ok_least
noncomputable def F_told0:PF:=aF G6 [] zipB f212 30
theorem ok_told0{w:World}:FnOk w 212 15 F_told0:=aF.ok (by decide) G6.ok MthOk.nil (by w_on) (by w_on) (by w_on) rfl (by with_unfolding_all decide) (BndOk.zip (len2 fun o1_ o2_=>rfl))
noncomputable def F_told:PF:=fun as K=>w2 (asPP 2000 fun a0 a1 c0 c1=>(0<absI a0∧0<absI c0∧(leastF (absI a0,a1) (absI c0,c1)).2≤(leastF (absI a0,a1) (absI c0,c1)).1*2^64)∧∃t,t=toldF (a0,a1) (c0,c1)∧K (.int t (some 85) (some 1))) as
inductive tdI(σ0:Sto)(A C:V)(a b:Pr):Nat→List (Str×V)→Sto→Prop
 |mk (t:Int) (h:ToldInv (leastF a b).1 (leastF a b).2 t∧0<t∧intBits t≤200):tdI σ0 A C a b ((leastF a b).2*1048576-(leastF a b).1*t).toNat [("rx",A),("ry",C),("told",.int t (some 200) (some 1)),("radius",pV 2000 (leastF a b).1 (leastF a b).2)] σ0
theorem ok_told{w:World}:FnOk w 212 15 F_told:=FnOk.of ok_told0 fun as K hk hF=>by
 refine byC fun C9 k9=>?_
 obtain⟨u,v,rfl,hFz6⟩:=w2.ok hF
 obtain⟨a0,a1,c0,c1,i1,i2,o1_,o2_,⟨p1,p2,p3⟩,t0,et,hG⟩:=asPP.kw hFz6 hk.cons.1 hk.cons.2.cons.1
 subst et
 refine k9 ?_
 refine⟨_,.cons i1 (.cons i2 .nil),?_⟩
 have s:=told_start p3
 have pos:0<(leastF (absI a0,a1) (absI c0,c1)).1:=by
  unfold leastF
  split
  ·exact p2
  ·exact p1
 refine⟨tdI _ (pV 2000 a0 a1) (pV 2000 c0 c1) (absI a0,a1) (absI c0,c1),⟨_,_,.cons .refl (.cons .refl (.cons (.to (.bn s.2.2 s.2.1)) .refl)),.mk _ s⟩,?_⟩
 intro m ρ' σ' H
 obtain⟨t,h1,h2,h3⟩:=H
 refine br_both (fun h=>?_) (fun h=>?_)
 ·have h:=of_decide_eq_true h
  have q:=told_step rfl h1 h
  exact⟨_,_,told_meas rfl pos h2 h,.cons .refl (.cons .refl (.cons (.to (.bn q.2.2 q.2.1)) .refl)),.mk _ q⟩
 ·have q:=told_end rfl h1 (of_decide_eq_false h)
  exact⟨_,Imp.to q.1 (q.1▸.bn q.2.2 q.2.1),hG⟩
theorem nb_t{n m:Int}(h:(!(n==m))=true):n≠m:=by simpa using h
theorem nb_f{n m:Int}(h:(!(n==m))=false):n=m:=by simpa using h
noncomputable def F_series:PF:=fun as K=>∃a ba la q bq lq s bs ls b bb lb r,as=[.int a ba la,.int q bq lq,.int s bs ls,.int b bb lb]∧(((leB ba 300&&leB bq 300)&&(leB bs 300&&isP ls))=true∧decide (0<b∧b≤2)=true)∧seriesGo 200 q s 0 a b=some r∧intBits r≤200∧K (.int r (some 200) none)
inductive srI(σ0:Sto)(r a q s b:Int):Nat→List (Str×V)→Sto→Prop
 |mk (total term step:Int) (h:SerInv r q s b total term step∧intBits term≤100000∧0<step∧step≤1000):srI σ0 r a q s b (b+400-step).toNat [("first",.int a (some 300) none),("square",.int q (some 300) none),("scale",.int s (some 300) (some 1)),("begin",.int b none none),("step",.int step (some 10) (some 1)),("term",.int term (some 100000) none),("total",.int total none none)] σ0
theorem bits10{n:Int}(h:0<n)(k:n≤1000):intBits n≤10:=PySem.intBits_le_iff.mpr (by omega)
theorem ok_series{w:World}:FnOk w 168 13 F_series:=FnOk.of ok_series0 fun as K hk hF=>by
 refine byC fun C9 k9=>?_
 obtain⟨a,ba,la,q,bq,lq,s,bs,ls,b,bb,lb,r,rfl,⟨z1,z2⟩,hs,hr,hFz1⟩:=hF
 have z3:=and_t z1
 have z4:=and_t z3.1
 have z5:=and_t z3.2
 obtain⟨b1,b2⟩:=of_decide_eq_true z2
 have ka:=hk.cons.1.int
 have kq:=hk.cons.2.cons.1.int
 have ks:=hk.cons.2.cons.2.cons.1.int
 have i0:=leB.ok z4.1 ka
 have i1:=leB.ok z4.2 kq
 have i2:=leB.ok z5.1 ks
 have p:=isP.ok z5.2 ks
 refine k9 ?_
 refine⟨[.int a (some 300) none,.int q (some 300) none,.int s (some 300) (some 1),.int b none none],.cons (.int (.b1 i0)) (.cons (.int (.b1 i1)) (.cons (.int (.bn i2 p)) (.cons (.int .no) .nil))),?_⟩
 have st:=ser_start hs b1 b2 i0
 refine⟨srI _ r a q s b,⟨_,_,.cons .refl (.cons .refl (.cons .refl (.cons .refl (.cons (.to (.bn (bits10 st.2.2.1 st.2.2.2) st.2.2.1)) (.cons (.to (.b1 st.2.1)) (.cons (.to .no) .nil)))))),.mk _ _ _ st⟩,?_⟩
 intro m ρ' σ' H
 obtain⟨total,term,step,h1,h2,h3,h4⟩:=H
 refine br_both (fun h=>?_) (fun h=>?_)
 ·have h:=nb_t h
  have x:=ser_step h1 b1 b2 i1 h
  exact⟨_,_,ser_meas h1 b2 i1 h,.cons .refl (.cons .refl (.cons .refl (.cons .refl (.cons (.to (.bn (bits10 x.2.2.1 x.2.2.2) x.2.2.1)) (.cons (.to (.b1 x.2.1)) (.cons (.to .no) .nil)))))),.mk _ _ _ x⟩
 ·exact⟨_,Imp.to (ser_end h1 (nb_f h)) (.b1 hr),hFz1⟩
noncomputable def F_rad:PF:=fun as K=>w2 (fun u v=>asP (fun a0 b0 l0 a1 b1 l1=>asI (fun sc b l=>cond ((leB b0 2000&&leB b1 2000)&&(leB b 2000&&isP l1)) (intBits (radiansF (a0,a1) sc)≤100∧K (.int (radiansF (a0,a1) sc) (some 100) none)) False) v) u) as
theorem ok_rad{w:World}:FnOk w 161 13 F_rad:=FnOk.of ok_scaled_radians fun as K hk hF=>by
 refine byC fun C9 k9=>?_
 obtain⟨u,v,rfl,hFz2⟩:=w2.ok hF
 obtain⟨a0,b0,l0,a1,b1,l1,rfl,k0,k1,hF⟩:=asP.kw hFz2 hk.cons.1
 obtain⟨sc,b,l,rfl,k2,hFz3⟩:=asI.kw hF hk.cons.2.cons.1
 obtain⟨z1,hF⟩:=cond_t hFz3
 have z3:=and_t z1
 have z4:=and_t z3.1
 have z5:=and_t z3.2
 refine k9 ?_
 refine⟨[.tup [.int a0 (some 2000) none,.int a1 (some 2000) (some 1)],.int sc (some 2000) none],.cons (.pr (.b1 (leB.ok z4.1 k0)) (.bn (leB.ok z4.2 k1) (isP.ok z5.2 k1))) (.cons (.int (.b1 (leB.ok z5.1 k2))) .nil),?_⟩
 exact⟨_,Imp.int (.b1 hF.1),hF.2⟩
noncomputable def G7:Gam:=("scaled_radians",.p F_rad)::("series",.p F_series)::G6
theorem G7.ok{w:World}:GamOk w G7 14:=((G6.ok).cons (F:= .p F_series) (d':=14) (by decide) (by decide) rfl (by w_on) ok_series).cons (F:= .p F_rad) (d':=14) (by decide) (by decide) rfl (by w_on) ok_rad
noncomputable def F_near:PF:=aF G7 [] zipB f182 30
theorem ok_near{w:World}:FnOk w 182 15 F_near:=aF.ok (by decide) G7.ok MthOk.nil (by w_on) (by w_on) (by w_on) rfl (by with_unfolding_all decide) (BndOk.zip (len3 fun o1_ o2_ o3_=>rfl))
noncomputable def G8:Gam:=("near",.p F_near)::G7
theorem G8.ok{w:World}:GamOk w G8 15:=(G7.ok).cons (F:= .p F_near) (d':=15) (by decide) (by decide) rfl (by w_on) ok_near
noncomputable def F_small0:PF:=aF G8 [] zipB f175 30
theorem ok_small0{w:World}:FnOk w 175 16 F_small0:=aF.ok (by decide) G8.ok MthOk.nil (by w_on) (by w_on) (by w_on) rfl (by with_unfolding_all decide) (BndOk.zip (len2 fun o1_ o2_=>rfl))
noncomputable abbrev PQ:Int:=1152921504606846976
noncomputable def F_small:PF:=fun as K=>w2 (fun u v=>asP (fun a0 b0 l0 a1 b1 l1=>asI (fun p b l=>cond (((leB b0 2000&&leB b1 2000)&&isP l1)&&decide (p=PQ)) (∃c s,(smallF (a0,a1) PQ=some (c,s)∧intBits (radiansF (a0,a1) (PQ*65536))≤100)∧(intBits c≤200∧intBits s≤200)∧
 K (.tup [.tup [.int (nearF c (PQ*65536) PQ).1 (some 400) none,.int (nearF c (PQ*65536) PQ).2 (some 61) (some 1)],.tup [.int (nearF s (PQ*65536) PQ).1 (some 400) none,.int (nearF s (PQ*65536) PQ).2 (some 61) (some 1)]])) False) v) u) as
set_option tactic.hygienic true in
theorem small_eq{d:Pr}{P c s:Int}(h:smallF d P=some (c,s)):seriesGo 200 ((radiansF d (P*65536)*radiansF d (P*65536)).fdiv (P*65536)) (P*65536) 0 (P*65536) 1=some c∧seriesGo 200 ((radiansF d (P*65536)*radiansF d (P*65536)).fdiv (P*65536)) (P*65536) 0 (radiansF d (P*65536)) 2=some s:=by
 unfold smallF at h
 split at h
 ·rename_i c' s' h1 h2
  cases h
  exact⟨h1,h2⟩
 ·exact nomatch h
theorem frac_b2{t b:Int}{x:Nat}(h:intBits b≤x):intBits (frac t b).2≤x:=bits_fdiv h
theorem frac_p2{t b:Int}(h:0<b):0<(frac t b).2:=frac_pos h
theorem near_b{n:Int}(h:intBits n≤200):intBits (nearF n (PQ*65536) PQ).1≤400:=by
 have b1:intBits (n*PQ)≤200+61:=bits_mul h (by decide +kernel)
 have b2:intBits (frac (n*PQ) (PQ*65536)).1≤200+61:=bits_fdiv b1
 have b3:intBits (frac (n*PQ) (PQ*65536)).2≤100:=frac_b2 (show intBits (PQ*65536)≤100 by decide +kernel)
 have b4:intBits (roundedF (frac (n*PQ) (PQ*65536)))≤_:=bits_fdiv (bits_add (bits_mul (show intBits 2≤2 by decide) b2) b3)
 exact Nat.le_trans (bits_fdiv b4) (by decide)
theorem near_p{n:Int}:In (nearF n (PQ*65536) PQ).2 (some 61) (some 1):= .bn (frac_b2 (show intBits PQ≤61 by decide +kernel)) (frac_p2 (b:=PQ) (by decide +kernel))
theorem ok_small{w:World}:FnOk w 175 16 F_small:=FnOk.of ok_small0 fun as K hk hF=>by
 refine byC fun C9 k9=>?_
 obtain⟨u,v,rfl,hFz4⟩:=w2.ok hF
 obtain⟨a0,b0,l0,a1,b1,l1,rfl,k0,k1,hF⟩:=asP.kw hFz4 hk.cons.1
 obtain⟨p,b,l,rfl,k2,hFz5⟩:=asI.kw hF hk.cons.2.cons.1
 obtain⟨z1,c,s,⟨hs,hr⟩,⟨hc,h2⟩,hG⟩:=cond_t hFz5
 have z3:=and_t z1
 have z4:=and_t z3.1
 have z5:=and_t z4.1
 have e:=of_decide_eq_true z3.2
 subst e
 obtain⟨e1,e2⟩:=small_eq hs
 refine k9 ?_
 refine⟨[.tup [.int a0 (some 2000) none,.int a1 (some 2000) (some 1)],.int PQ (some 61) (some 1)],.cons (.pr (.b1 (leB.ok z5.1 k0)) (.bn (leB.ok z5.2 k1) (isP.ok z4.2 k1))) (.cons (.int (.bn (by decide +kernel) (by decide +kernel))) .nil),?_⟩
 refine⟨hr,?_⟩
 refine⟨_,_,_,_,_,_,_,_,_,_,_,_,c,rfl,⟨rfl,rfl⟩,e1,hc,?_⟩
 refine⟨_,_,_,_,_,_,_,_,_,_,_,_,s,rfl,⟨rfl,rfl⟩,e2,h2,?_⟩
 exact⟨_,Imp.tup (.cons (.pr (.b1 (near_b hc)) (near_p)) (.cons (.pr (.b1 (near_b h2)) (near_p)) .nil)),hG⟩
noncomputable def G9:Gam:=("small_turn",.p F_small)::G8
theorem G9.ok{w:World}:GamOk w G9 16:=(G8.ok).cons (F:= .p F_small) (d':=16) (by decide) (by decide) rfl (by w_on) ok_small
noncomputable def F_quarter:PF:=aF G9 [] zipB f189 30
theorem ok_quarter{w:World}:FnOk w 189 17 F_quarter:=aF.ok (by decide) G9.ok MthOk.nil (by w_on) (by w_on) (by w_on) rfl (by with_unfolding_all decide) (BndOk.zip (len2 fun o1_ o2_=>rfl))
noncomputable def G10:Gam:=("quarter_turn",.p F_quarter)::G9
theorem G10.ok{w:World}:GamOk w G10 17:=(G9.ok).cons (F:= .p F_quarter) (d':=17) (by decide) (by decide) rfl (by w_on) ok_quarter
noncomputable def F_turn0:PF:=aF G10 [] (zipD (.int 65536 (some 17) (some 1))) f197 30
theorem ok_turn0{w:World}:FnOk w 197 18 F_turn0:=aF.ok (by decide) G10.ok MthOk.nil (by w_on) (by w_on) (by w_on) rfl (by with_unfolding_all decide) (BndOk.zipD (.int ⟨fun x e=>by cases e;decide +kernel,fun x e=>by cases e;decide⟩) (len2 (P:=fun vs=>∀s:Shared,(Mine.K w.params).In s.heap→BindsTo s _ ⟨vs,[]⟩ ((fdX f197).zip vs)) (fun o1_ o2_ s X=>binds_K X rfl (by w_on) rfl rfl rfl)) fun vs h=>len1 (P:=fun vs=>∀s:Shared,(Mine.K w.params).In s.heap→BindsTo s _ ⟨vs,[]⟩ ((fdX f197).zip (vs++[_]))) (fun o1_ s X=>binds_K X rfl (by w_on) rfl rfl rfl) vs (Nat.succ.inj h))
noncomputable def F_in_parts:PF:=aF G10 [] (zipD (.int PQ (some 61) (some 1))) f205 30
theorem ok_in_parts{w:World}:FnOk w 205 18 F_in_parts:=aF.ok (by decide) G10.ok MthOk.nil (by w_on) (by w_on) (by w_on) rfl (by with_unfolding_all decide) (BndOk.zipD (.int ⟨fun x e=>by cases e;decide +kernel,fun x e=>by cases e;decide⟩) (len2 (P:=fun vs=>∀s:Shared,(Mine.K w.params).In s.heap→BindsTo s _ ⟨vs,[]⟩ ((fdX f205).zip vs)) (fun o1_ o2_ s X=>binds_K X rfl (by w_on) rfl rfl rfl)) fun vs h=>len1 (P:=fun vs=>∀s:Shared,(Mine.K w.params).In s.heap→BindsTo s _ ⟨vs,[]⟩ ((fdX f205).zip (vs++[_]))) (fun o1_ s X=>binds_K X rfl (by w_on) rfl rfl rfl) vs (Nat.succ.inj h))
noncomputable abbrev eV(a b:Int):V:= .tup [.int a none none,.int b none none]
theorem Imp.ee{n m n' m':Int}{b l b2 l2 b' l' b2' l2':Option Nat}(e:n=m)(e2:n'=m')(h:In m b' l')(k:In m' b2' l2'):Imp (.tup [.int n b l,.int n' b2 l2]) (.tup [.int m b' l',.int m' b2' l2']):= .tup (.cons (.to e h) (.cons (.to e2 k) .nil))
noncomputable def turnT(d:Int):Option (Pr×Pr):=if d=0 then some ((1,1),(0,1)) else if d=30 then some ((499229655779453597,576460752303423488),(1,2)) else if d=77 then some ((129675454018512717,576460752303423488),(280843050284016091,288230376151711744))
 else if d= -200 then some ((-1083391830224440781,1152921504606846976),(394322378248879447,1152921504606846976)) else none
noncomputable def tuV(t:Pr×Pr):V:= .tup [.tup [.int t.1.1 (some 61) none,.int t.1.2 (some 61) (some 1)],.tup [.int t.2.1 (some 61) none,.int t.2.2 (some 61) (some 1)]]
theorem turn_0{K:V→Prop}(hF:K (tuV ((1,1),(0,1)))):F_turn0 [.tup [.int 0 (some 8) none,.int 1 (some 8) (some 1)],.int PQ (some 61) (some 1)] fun r=>∃r',Imp r r'∧K r':=by
 exact⟨_,Imp.tup (.cons (.pr (.b1 (by decide)) (.bn (by decide) (by decide))) (.cons (.pr (.b1 (by decide)) (.bn (by decide) (by decide))) .nil)),hF⟩
noncomputable def cs_30:Int×Int:=(smallF (30,1) PQ).getD (0,0)
theorem turn_30{K:V→Prop}(hF:K (tuV ((499229655779453597,576460752303423488),(1,2)))):F_turn0 [.tup [.int (30) (some 8) none,.int 1 (some 8) (some 1)],.int PQ (some 61) (some 1)] fun r=>∃r',Imp r r'∧K r':=by
 refine⟨cs_30.1,cs_30.2,⟨by decide +kernel,by decide +kernel⟩,⟨by decide +kernel,by decide +kernel⟩,?_⟩
 refine⟨_,Imp.tup (.cons (.ee ?_ ?_ (.b1 (by decide +kernel)) (.bn (by decide +kernel) (by decide +kernel))) (.cons (.ee ?_ ?_ (.b1 (by decide +kernel)) (.bn (by decide +kernel) (by decide +kernel))) .nil)),hF⟩
 all_goals decide +kernel
noncomputable def cs_77:Int×Int:=(smallF (13,1) PQ).getD (0,0)
theorem turn_77{K:V→Prop}(hF:K (tuV ((129675454018512717,576460752303423488),(280843050284016091,288230376151711744)))):F_turn0 [.tup [.int (77) (some 8) none,.int 1 (some 8) (some 1)],.int PQ (some 61) (some 1)] fun r=>∃r',Imp r r'∧K r':=by
 refine⟨cs_77.1,cs_77.2,⟨by decide +kernel,by decide +kernel⟩,⟨by decide +kernel,by decide +kernel⟩,?_⟩
 refine⟨_,Imp.tup (.cons (.ee ?_ ?_ (.b1 (by decide +kernel)) (.bn (by decide +kernel) (by decide +kernel))) (.cons (.ee ?_ ?_ (.b1 (by decide +kernel)) (.bn (by decide +kernel) (by decide +kernel))) .nil)),hF⟩
 all_goals decide +kernel
noncomputable def cs_m200:Int×Int:=(smallF (20,1) PQ).getD (0,0)
theorem turn_m200{K:V→Prop}(hF:K (tuV ((-1083391830224440781,1152921504606846976),(394322378248879447,1152921504606846976)))):F_turn0 [.tup [.int (-200) (some 8) none,.int 1 (some 8) (some 1)],.int PQ (some 61) (some 1)] fun r=>∃r',Imp r r'∧K r':=by
 refine⟨cs_m200.1,cs_m200.2,⟨by decide +kernel,by decide +kernel⟩,⟨by decide +kernel,by decide +kernel⟩,?_⟩
 refine⟨_,Imp.tup (.cons (.ee ?_ ?_ (.b1 (by decide +kernel)) (.bn (by decide +kernel) (by decide +kernel))) (.cons (.ee ?_ ?_ (.b1 (by decide +kernel)) (.bn (by decide +kernel) (by decide +kernel))) .nil)),hF⟩
 all_goals decide +kernel
noncomputable def F_turn:PF:=fun as K=>w2 (fun u v=>asP (fun d b0 l0 e b1 l1=>asI (fun p b l=>cond (decide (e=1)&&decide (p=PQ)) (∃t,turnT d=some t∧K (tuV t)) False) v) u) as
set_option tactic.hygienic true in
theorem ok_turn{w:World}:FnOk w 197 18 F_turn:=FnOk.of ok_turn0 fun as K hk hF=>by
 obtain⟨u,v,rfl,hFz1⟩:=w2.ok hF
 obtain⟨d,b0,l0,e,b1,l1,rfl,k0,k1,hF⟩:=asP.kw hFz1 hk.cons.1
 obtain⟨p,b,l,rfl,k2,hFz2⟩:=asI.kw hF hk.cons.2.cons.1
 obtain⟨z,hG⟩:=cond_t hFz2
 have z1:=of_decide_eq_true (and_t z).1
 have z2:=of_decide_eq_true (and_t z).2
 subst z1 z2
 obtain⟨t,e1,hH⟩:=hG
 have args:∀d:Int,intBits d≤8→Imps [.tup [.int d b0 l0,.int 1 b1 l1],.int PQ b l] [.tup [.int d (some 8) none,.int 1 (some 8) (some 1)],.int PQ (some 61) (some 1)]:=fun d hd=> .cons (.pr (.b1 hd) (.bn (by decide) (by decide))) (.cons (.int (.bn (by decide +kernel) (by decide +kernel))) .nil)
 unfold turnT at e1
 split at e1
 ·rename_i h;subst h;cases e1;exact⟨_,args 0 (by decide),turn_0 hH⟩
 split at e1
 ·rename_i h;subst h;cases e1;exact⟨_,args 30 (by decide),turn_30 hH⟩
 split at e1
 ·rename_i h;subst h;cases e1;exact⟨_,args 77 (by decide),turn_77 hH⟩
 split at e1
 ·rename_i h;subst h;cases e1;exact⟨_,args (-200) (by decide),turn_m200 hH⟩
 ·cases e1
noncomputable def G11:Gam:=("in_parts",.p F_in_parts)::("turn_of",.p F_turn)::G10
theorem G11.ok{w:World}:GamOk w G11 18:=((G10.ok).cons (F:= .p F_turn) (d':=18) (by decide) (by decide) rfl (by w_on) ok_turn).cons (F:= .p F_in_parts) (d':=18) (by decide) (by decide) rfl (by w_on) ok_in_parts
noncomputable def F_is_within_quarter0:PF:=aF G11 [] zipB f282 30
theorem ok_is_within_quarter0{w:World}:FnOk w 282 19 F_is_within_quarter0:=aF.ok (by decide) G11.ok MthOk.nil (by w_on) (by w_on) (by w_on) rfl (by with_unfolding_all decide) (BndOk.zip (len3 fun o1_ o2_ o3_=>rfl))
noncomputable def F_quarter_on0:PF:=aF G11 [] zipB f289 30
theorem ok_quarter_on0{w:World}:FnOk w 289 19 F_quarter_on0:=aF.ok (by decide) G11.ok MthOk.nil (by w_on) (by w_on) (by w_on) rfl (by with_unfolding_all decide) (BndOk.zip (len2 fun o1_ o2_=>rfl))
noncomputable def F_handle_share0:PF:=aF G11 [] zipB f296 30
theorem ok_handle_share0{w:World}:FnOk w 296 19 F_handle_share0:=aF.ok (by decide) G11.ok MthOk.nil (by w_on) (by w_on) (by w_on) rfl (by with_unfolding_all decide) (BndOk.zip (len2 fun o1_ o2_=>rfl))
noncomputable def F_centre_of0:PF:=aF G11 [] zipB f275 30
theorem ok_centre_of0{w:World}:FnOk w 275 19 F_centre_of0:=aF.ok (by decide) G11.ok MthOk.nil (by w_on) (by w_on) (by w_on) rfl (by with_unfolding_all decide) (BndOk.zip (len4 fun o1_ o2_ o3_ o4_=>rfl))
noncomputable def w3(k:V→V→V→Prop):List V→Prop:=onCons fun a r=>onCons (fun b r=>on1 (fun c=>k a b c) r) r
noncomputable def w4(k:V→V→V→V→Prop):List V→Prop:=onCons fun a r=>onCons (fun b r=>onCons (fun c r=>on1 (fun d=>k a b c d) r) r) r
set_option genInjectivity false in
set_option genSizeOfSpec false in
inductive W3D(k:V→V→V→Prop)(as:List V):Prop where
 |mk (a b c:V) (e:as=[a,b,c]) (h:k a b c)
theorem w3.ok{k:V→V→V→Prop}{as:List V}(h:w3 k as):W3D k as:=
 onCons.el (C:=fun as=>W3D k as) h fun a r h=>onCons.el (C:=fun r=>W3D k (a::r)) h fun b r h=>on1.el (C:=fun r=>W3D k (a::b::r)) h fun c h=>⟨a,b,c,rfl,h⟩
set_option genInjectivity false in
set_option genSizeOfSpec false in
inductive W4D(k:V→V→V→V→Prop)(as:List V):Prop where
 |mk (a b c d:V) (e:as=[a,b,c,d]) (h:k a b c d)
theorem w4.ok{k:V→V→V→V→Prop}{as:List V}(h:w4 k as):W4D k as:=
 onCons.el (C:=fun as=>W4D k as) h fun a r h=>onCons.el (C:=fun r=>W4D k (a::r)) h fun b r h=>onCons.el (C:=fun r=>W4D k (a::b::r)) h fun c r h=>on1.el (C:=fun r=>W4D k (a::b::c::r)) h fun d h=>⟨a,b,c,d,rfl,h⟩
set_option genInjectivity false in
set_option genSizeOfSpec false in
inductive AsBD(k:Bool→Prop)(v:V):Prop where
 |mk (b:Bool) (e:v= .bool b) (h:k b)
theorem asB.e{k:Bool→Prop}{v:V}(h:asB k v):AsBD k v:=by
 cases v with
 |bool b=>exact⟨b,rfl,h⟩
 |_=>exact h.elim
noncomputable def F_within:PF:=fun as K=>w3 (fun u v s=>asPP 96 (fun a0 a1 c0 c1=>asB (fun sw=>K (.bool (withinF (a0,a1) (c0,c1) sw))) s) u v) as
theorem ok_within{w:World}:FnOk w 282 19 F_within:=FnOk.of ok_is_within_quarter0 fun as K hk hF=>by
 refine byC fun C9 k9=>?_
 obtain⟨u,v,s,rfl,hFz1⟩:=w3.ok hF
 obtain⟨a0,a1,c0,c1,i1,i2,o1_,o2_,hG⟩:=asPP.kw hFz1 hk.cons.1 hk.cons.2.cons.1
 obtain⟨sw,rfl,hH⟩:=asB.e hG
 refine k9 ?_
 refine⟨_,.cons i1 (.cons i2 (.cons Imp.refl .nil)),?_⟩
 have b:∀t:Int,t=(if sw=true then crossI (a0,a1) (c0,c1) else crossI (c0,c1) (a0,a1))→(decide (0≤t)=true→∃r',Imp (.bool (decide (0≤dotI (a0,a1) (c0,c1)))) r'∧K r')∧(decide (0≤t)=false→∃r',Imp (.bool false) r'∧K r'):=fun t e=>by
  have e2:withinF (a0,a1) (c0,c1) sw=(decide (0≤t)&&decide (0≤dotI (a0,a1) (c0,c1))):=by rw[e];rfl
  rw[e2] at hH
  exact⟨fun h=>⟨_,Imp.refl,by rw[h] at hH;exact hH⟩,fun h=>⟨_,Imp.refl,by rw[h] at hH;exact hH⟩⟩
 cases sw
 ·refine br_f rfl ?_
  exact br_both (b _ rfl).1 (b _ rfl).2
 ·refine br_t rfl ?_
  exact br_both (b _ rfl).1 (b _ rfl).2
noncomputable def F_handle:PF:=fun as K=>w2 (asPP 96 fun a0 a1 c0 c1=>0<dotI (a0,a1) (a0,a1)∧K (.int (handleF (a0,a1) (c0,c1)) (some 400) none)) as
theorem ok_handle{w:World}:FnOk w 296 19 F_handle:=FnOk.of ok_handle_share0 fun as K hk hF=>by
 refine byC fun C9 k9=>?_
 obtain⟨u,v,rfl,hFz2⟩:=w2.ok hF
 obtain⟨a0,a1,c0,c1,i1,i2,⟨j1,j2⟩,⟨j3,j4⟩,zd,hG⟩:=asPP.kw hFz2 hk.cons.1 hk.cons.2.cons.1
 refine k9 ?_
 refine⟨_,.cons i1 (.cons i2 .nil),?_⟩
 refine⟨Int.ne_of_gt (Int.mul_pos (by decide) zd),hs_nonneg (a0,a1) (c0-a0,c1-a1),?_⟩
 exact⟨_,Imp.int (.b1 (handle_bits j1 j2 j3 j4)),hG⟩
noncomputable def F_centre:PF:=fun as K=>w4 (fun z u lg s=>asPP 96 (fun z0 z1 a0 a1=>asB (fun large=>asB (fun sw=>((z0=0∧z1=0)∧0<sizeF (a0,a1))∧K (eV (centreF (a0,a1) large sw).1 (centreF (a0,a1) large sw).2)) s) lg) z u) as
theorem ok_centre{w:World}:FnOk w 275 19 F_centre:=FnOk.of ok_centre_of0 fun as K hk hF=>by
 refine byC fun C9 k9=>?_
 obtain⟨z,u,lg,s,rfl,hFz3⟩:=w4.ok hF
 obtain⟨z0,z1,a0,a1,i1,i2,o1_,o2_,hG⟩:=asPP.kw hFz3 hk.cons.1 hk.cons.2.cons.1
 obtain⟨large,rfl,hH⟩:=asB.e hG
 obtain⟨sw,rfl,⟨⟨e1,e2⟩,zd⟩,hI⟩:=asB.e hH
 subst e1 e2
 refine k9 ?_
 refine⟨_,.cons i1 (.cons i2 (.cons Imp.refl (.cons Imp.refl .nil))),?_⟩
 have zd2:0<dotI (a0-0,a1-0) (a0-0,a1-0):=zd
 refine br_both (fun h=>?_) (fun h=>?_)
 ·have h:=of_decide_eq_true h
  rw[centre_lo (show ¬sizeF (a0,a1)<4*PARTS*PARTS from Int.not_lt.mpr h)] at hI
  exact⟨_,.pr .no .no,hI⟩
 ·have h:=of_decide_eq_false h
  have h':sizeF (a0,a1)<4*PARTS*PARTS:=Int.not_le.mp h
  rw[centre_hi h'] at hI
  refine⟨Int.ne_of_gt zd2,cen_nonneg zd2 h',?_⟩
  cases large
  ·cases sw
   ·have e:=share_eq (q:=(a0,a1)) (large:=false) (sw:=false) rfl
    rw[e] at hI
    refine br_t rfl ?_
    exact⟨_,.pr .no .no,hI⟩
   ·have e:=share_ne (q:=(a0,a1)) (large:=false) (sw:=true) (by decide)
    rw[e] at hI
    refine br_f rfl ?_
    exact⟨_,.pr .no .no,hI⟩
  ·cases sw
   ·have e:=share_ne (q:=(a0,a1)) (large:=true) (sw:=false) (by decide)
    rw[e] at hI
    refine br_f rfl ?_
    exact⟨_,.pr .no .no,hI⟩
   ·have e:=share_eq (q:=(a0,a1)) (large:=true) (sw:=true) rfl
    rw[e] at hI
    refine br_t rfl ?_
    exact⟨_,.pr .no .no,hI⟩
noncomputable def G12:Gam:=("quarter_on",.p F_quarter_on0)::("centre_of",.p F_centre)::("handle_share",.p F_handle)::("is_within_quarter",.p F_within)::G11
theorem G12.ok{w:World}:GamOk w G12 19:=((((G11.ok).cons (F:= .p F_within) (d':=19) (by decide) (by decide) rfl (by w_on) ok_within).cons (F:= .p F_handle) (d':=19) (by decide) (by decide) rfl (by w_on) ok_handle).cons (F:= .p F_centre) (d':=19) (by decide) (by decide) rfl (by w_on) ok_centre).cons (F:= .p F_quarter_on0) (d':=19) (by decide) (by decide) rfl (by w_on) ok_quarter_on0
noncomputable def F_piece_of0:PF:=aF G12 [] zipB f303 30
theorem ok_piece_of0{w:World}:FnOk w 303 20 F_piece_of0:=aF.ok (by decide) G12.ok MthOk.nil (by w_on) (by w_on) (by w_on) rfl (by with_unfolding_all decide) (BndOk.zip (len3 fun o1_ o2_ o3_=>rfl))
noncomputable abbrev qV(n:Nat)(v:Pr):V:=pV n v.1 v.2
noncomputable def F_piece:PF:=fun as K=>w3 (fun u v s=>asPP 96 (fun a0 a1 c0 c1=>asB (fun sw=>0<dotI (a0,a1) (a0,a1)∧∃a b:Pr,(a=(pieceF (a0,a1) (c0,c1) sw).1∧b=(pieceF (a0,a1) (c0,c1) sw).2)∧K (.tup [qV 500 a,qV 500 b])) s) u v) as
theorem ok_piece{w:World}:FnOk w 303 20 F_piece:=FnOk.of ok_piece_of0 fun as K hk hF=>by
 refine byC fun C9 k9=>?_
 obtain⟨u,v,s,rfl,hFz4⟩:=w3.ok hF
 obtain⟨a0,a1,c0,c1,i1,i2,⟨j1,j2⟩,⟨j3,j4⟩,hG⟩:=asPP.kw hFz4 hk.cons.1 hk.cons.2.cons.1
 obtain⟨sw,rfl,zd,a,b,⟨ea,eb⟩,hH⟩:=asB.e hG
 subst ea eb
 refine k9 ?_
 refine⟨_,.cons i1 (.cons i2 (.cons Imp.refl .nil)),?_⟩
 refine⟨zd,?_⟩
 obtain⟨b1,b2,b3,b4⟩:=piece_bits (sw:=sw) j1 j2 j3 j4
 have I:∀{x1 y1 x2 y2 x3 y3 x4 y4:Option Nat},Imp (.tup [.tup [.int (pieceF (a0,a1) (c0,c1) sw).1.1 x1 y1,.int (pieceF (a0,a1) (c0,c1) sw).1.2 x2 y2],.tup [.int (pieceF (a0,a1) (c0,c1) sw).2.1 x3 y3,.int (pieceF (a0,a1) (c0,c1) sw).2.2 x4 y4]]) (.tup [qV 500 (pieceF (a0,a1) (c0,c1) sw).1,qV 500 (pieceF (a0,a1) (c0,c1) sw).2]):=
  .tup (.cons (.pr (.b1 b1) (.b1 b2)) (.cons (.pr (.b1 b3) (.b1 b4)) .nil))
 cases sw
 ·refine br_f rfl (br_f rfl ?_)
  exact⟨_,I,hH⟩
 ·refine br_t rfl (br_t rfl ?_)
  exact⟨_,I,hH⟩
noncomputable def F_ell:PF:=fun as K=>w3 (fun u v t=>asI (fun rx bx o1_=>asI (fun ry b2 o1_=>asP (fun d o1_ o2_ e o3_ o4_=>cond ((leB bx 400&&leB b2 400)&&decide (e=1)) (∃T A B C S,(turnT d=some T∧A=rx∧B=ry)∧(C=inPartsF T.1 PQ∧S=inPartsF T.2 PQ)∧K (.ell A B C S)) False) t) v) u) as
theorem Rel.init{w:World}{news fz l:Led}{x dx:Addr}(sf:Sub fz news)(fx:FreshAt x news)(fd:FreshAt dx news)(hn:x≠dx)(hl:Sub ((x,instObj 264 dx)::(dx,dictOf [] 0)::news) l):Rel w news fz [.ins 1,.obj (dictOf [] 0)] (fun k=>if k=0 then x else dx) l:=by
 have cs:∀{k:Nat} {o:AO},([AO.ins 1,AO.obj (dictOf [] 0)]:Sto)[k]?=some o→(k=0∧o= .ins 1)∨(k=1∧o= .obj (dictOf [] 0)):=fun{k o} e=>by
  induction k using Nat.casesOn with
  |zero=>cases e;exact .inl ⟨rfl,rfl⟩
  |succ k=>induction k using Nat.casesOn with
   |zero=>cases e;exact .inr ⟨rfl,rfl⟩
   |succ k=>simp at e
 refine⟨fun p hp=>hl p (.tail _ (.tail _ hp)),fun p hp=>hl p (.tail _ (.tail _ (sf p hp))),fun k o e o1_=>?_,fun k o e=>?_,fun k vs e=>?_,fun i j o e o1_ hi hne=>?_⟩
 ·rcases cs e with⟨rfl,_⟩ |⟨rfl,_⟩
  ·exact⟨fx,fun p hp=>fx p (sf p hp)⟩
  ·exact⟨fd,fun p hp=>fd p (sf p hp)⟩
 ·rcases cs e with⟨rfl,rfl⟩ |⟨rfl,rfl⟩
  ·exact⟨_,hl _ (.head _),.ins (by decide)⟩
  ·exact⟨_,hl _ (.tail _ (.head _)),.obj⟩
 ·rcases cs e with⟨_,e⟩ |⟨_,e⟩ <;> cases e
 ·have hi:i<2:=hi
  rcases cs e with⟨rfl,_⟩ |⟨rfl,_⟩
  ·have:i=1:=Nat.le_antisymm (Nat.le_of_lt_succ hi) (Nat.pos_of_ne_zero hne)
   subst this
   exact hn.symm
  ·have:i=0:=by omega
   subst this
   exact hn
noncomputable def elK(w:World)(rx ry:Int)(K:V→Prop)(ρ:List (Str×V))(σ:Sto):Prop:=∃C S t1 t2 t3 t4 t5 t6 t7 t8,σ=[.ins 1,.obj (elD w.params rx ry C S t1 t2 t3 t4 t5 t6 t7 t8)]∧(intBits C≤200∧intBits S≤200)∧K (.ell rx ry C S)
theorem attr_int{sc:Scope}{c:Cx sc}{E:WE}{d:Nat}{κ:Kap}{ρ:List (Str×V)}{σ:Sto}{Kn:XK}{Kr:V→Sto→Prop}(ok:Cok c d)(hE:SoE c E){o e:PySem.Expr}{name:Str}{b:List Stmt}{ap pos:Pos}(ht:takerIn (Mine.K c.w.params) 264 name=some none)
  (h:E (fX sc.names κ ρ) e σ fun a σ1=>E (fX sc.names κ ρ) o σ1 fun y σ2=>wAttS c name a y σ2 fun σ3=>AS c κ ρ σ3 b Kn Kr)
  (hs:swapsWith e (some (.Attribute o name ap)) pos.line c.env=pure false):AS c κ ρ σ (.Assign [.Attribute o name ap] e pos::b) Kn Kr:=
 AS.attr ok ht ((hE _ _ e σ _ h).mono fun a σ1 k=>hE _ _ o σ1 _ k) hs
noncomputable abbrev ellV(rx ry:Int)(T:Pr×Pr):V:= .ell rx ry (inPartsF T.1 PQ) (inPartsF T.2 PQ)
noncomputable abbrev ellR(rx ry d:Int):List (Str×V):=[("self",.ref 0),("rx",.int rx (some 400) none),("ry",.int ry (some 400) none),("turn",.tup [.int d none none,.int 1 none none])]
theorem ell_loc{y:Str}(h:y∈[Str.ofString "self",Str.ofString "rx",Str.ofString "ry",Str.ofString "turn"]):List.lookup y (fdS f247).names=some .local:=by
 cases h with
 |head=>rfl
 |tail o1_ h=>cases h with
  |head=>rfl
  |tail o1_ h=>cases h with
   |head=>rfl
   |tail o1_ h=>cases h with
    |head=>rfl
    |tail o1_ h=>cases h
theorem Co.obj_e{w:World}{fz:Led}{N:Nat}{ι:Nat→Addr}{O O':Obj}(h:Co w fz N ι (.obj O) O'):O'=O:=by
 cases h
 rfl
theorem Co.ins_e{w:World}{fz:Led}{N j:Nat}{ι:Nat→Addr}{O':Obj}(h:Co w fz N ι (.ins j) O'):O'=instObj 264 (ι j):=by
 cases h
 rfl
theorem ell_fin{w:World}{news fz fz' l:Led}{ι:Nat→Addr}{x:Addr}{rx ry C S:Int}{t1 t2 t3 t4 t5 t6 t7 t8:Tok}(r:Rel w news fz' [.ins 1,.obj (elD w.params rx ry C S t1 t2 t3 t4 t5 t6 t7 t8)] ι l)(g0:ι 0=x)(x1:Ext news fz fz')(kx:intBits rx≤400)(ky:intBits ry≤400)(hb:intBits C≤200∧intBits S≤200):
  ∃fz',Rep w fz' (.ell rx ry C S) (.ref x)∧Sub fz' l∧Ext news fz fz'∧Sub news l:=by
 have ow:=r.own 0 _ rfl rfl
 have ow2:=r.own 1 _ rfl rfl
 have hm:(ι 0,instObj 264 (ι 1))∈l:=(r.mem 0 _ rfl).elim fun O q=>Co.ins_e q.2▸q.1
 have hm2:(ι 1,elD w.params rx ry C S t1 t2 t3 t4 t5 t6 t7 t8)∈l:=(r.mem 1 _ rfl).elim fun O q=>Co.obj_e q.2▸q.1
 subst g0
 exact⟨(ι 0,instObj 264 (ι 1))::(ι 1,elD w.params rx ry C S t1 t2 t3 t4 t5 t6 t7 t8)::fz',.ell (.head _) (.tail _ (.head _)) ⟨⟨kx,ky⟩,hb⟩,
  fun p hp=>(List.mem_cons.mp hp).elim (fun e=>e▸hm) fun hp=>(List.mem_cons.mp hp).elim (fun e=>e▸hm2) (r.subf p),
  ⟨fun p hp=> .tail _ (.tail _ (x1.sub p hp)),fun p hp=>(List.mem_cons.mp hp).elim (fun e=>e▸.inr ow.1) fun hp=>(List.mem_cons.mp hp).elim (fun e=>e▸.inr ow2.1) (x1.new p)⟩,r.subp⟩
theorem ell_core{w:World}{news fz:Led}{rx ry d:Int}{t1 t2:Tok}{vt:Value}{b3 l3 b4 l4:Option Nat}{T:Pr×Pr}(hsub:Sub fz news)(kx:intBits rx≤400)(ky:intBits ry≤400)(hT:turnT d=some T)(r3:Rep w fz (.tup [.int d b3 l3,.int 1 b4 l4]) vt):
  ConG w 264 20 news [.int rx t1,.int ry t2,vt] (fun v l'=>∃x,v= .ref x∧∃fz',Rep w fz' (ellV rx ry T) (.ref x)∧Sub fz' l'∧Ext news fz fz'∧Sub news l'):=by
 refine con_init (RR:=fun x l'=>∃fz',Rep w fz' (ellV rx ry T) (.ref x)∧Sub fz' l'∧Ext news fz fz'∧Sub news l') (binds:=fun x=>[("self",.ref x),("rx",.int rx t1),("ry",.int ry t2),("turn",vt)]) (by w_on) (by w_on) (by w_on) (by w_on) (by w_on) (fun x s X=>BindsTo.of_eq rfl) (fun x=>rfl) (by decide) ?_ rfl rfl rfl
 intro x dx fx fd hn c cells l hw ok Y fr s1 s2
 subst hw
 have hB:BndV c.w fz 2 (fun k=>if k=0 then x else dx) (ellR rx ry d) [("self",.ref x),("rx",.int rx t1),("ry",.int ry t2),("turn",vt)]:=
  .cons (.ref (k:=0) (by decide)) (.cons (.dat (.int (.b1 kx))) (.cons (.dat (.int (.b1 ky))) (.cons (.dat (Imp.pr .no .no _ _ _ r3)) .nil)))
 have hn2:(([("self",Value.ref x),("rx",.int rx t1),("ry",.int ry t2),("turn",vt)]:List (Str×Value)).map (·.1)).Nodup:=(show[Str.ofString "self",Str.ofString "rx",Str.ofString "ry",Str.ofString "turn"].Nodup by decide)
 have A:AS c [] (ellR rx ry d) [.ins 1,.obj (dictOf [] 0)] (fdB f247) (elK c.w rx ry fun r=>r=ellV rx ry T) (fun o1_ o2_=>False):=by
  have hE:=(wp.ok ok (by decide) G11.ok MthOk.nil 20).1
  show AS c _ _ _ (.Assign [.Tuple (nmT [("cosine",_),("sine",_)]) _ _] _ _::_) _ _
  refine wTup.ok ok hE (fun ρ' σ' k=>k) ?_
  refine⟨T,hT,?_⟩
  refine attr_int ok hE (by w_on) ?_ rfl
  refine⟨_,_,_,_,_,_,_,rfl,rfl,rfl,rfl,rfl,rfl,fun o1_ t5 t6=>?_⟩
  refine attr_int ok hE (by w_on) ?_ rfl
  refine⟨_,_,_,_,_,_,_,rfl,rfl,rfl,rfl,rfl,rfl,fun o1_ t7 t8=>?_⟩
  refine attr_int ok hE (by w_on) ?_ rfl
  refine⟨_,_,_,_,_,_,_,rfl,rfl,rfl,rfl,rfl,rfl,fun iC t9 t10=>?_⟩
  refine attr_int ok hE (by w_on) ?_ rfl
  refine⟨_,_,_,_,_,_,_,rfl,rfl,rfl,rfl,rfl,rfl,fun iS t11 t12=>?_⟩
  refine AS.nil ?_
  exact⟨_,_,_,_,_,_,_,_,_,_,rfl,⟨Nat.le_trans (iC.b _ rfl) (by decide),Nat.le_trans (iS.b _ rfl) (by decide)⟩,rfl⟩
 intro s Q E pe F N q1 q2
 refine A news fz _ (fun k=>if k=0 then x else dx) l (fun y a e=>?_) (fun y a e=>by cases e) (Rel.init hsub fx fd hn s2) s Q E pe F N (fun v m' l' h' tk' p=>p.elim fun o1_ o2_ o3_ o4_ k o5_ o6_ o7_ o8_ o9_=>k.elim) (fun m' l' h' tk' p=>q2 m' l' h' tk' (p.elim fun ι' fz' ρ' σ' k hl r g n x_1=>?_))
 ·rcases hB.look (x:=y) with⟨e3,_⟩ |⟨a',v,e3,e4,hr⟩
  ·rw[e3] at e;cases e
  ·rw[e3] at e;cases e
   exact⟨v,hr,(bind_in hn2 e4).1 (ell_loc (List.mem_map_of_mem (f:=(·.1)) (locB.look.mem_of_look e3)))⟩
 ·obtain⟨C,S,t1,t2,t3,t4,t5,t6,t7,t8,rfl,hb,e⟩:=k
  rw[←e]
  exact ell_fin r (g 0 (by decide)) x_1 kx ky hb
set_option genInjectivity false in
set_option genSizeOfSpec false in
inductive R3D(w:World)(fz:Led)(a b c:V)(vs:List Value):Prop where
 |mk (u v t:Value) (e:vs=[u,v,t]) (h1:Rep w fz a u) (h2:Rep w fz b v) (h3:Rep w fz c t)
theorem reps3{w:World}{fz:Led}{a b c:V}{vs:List Value}(h:Reps w fz [a,b,c] vs):R3D w fz a b c vs:=by
 cases h with
 |cons h1 h=>cases h with
  |cons h2 h=>cases h with
   |cons h3 h=>cases h with
    |nil=>exact⟨_,_,_,rfl,h1,h2,h3⟩
theorem rep_int{w:World}{fz:Led}{n:Int}{b l:Option Nat}{v:Value}(h:Rep w fz (.int n b l) v):∃t,v= .int n t:=by
 cases h
 exact⟨_,rfl⟩
theorem ok_ell{w:World}:FnOk w 264 20 F_ell:=fun as K hF news fz vs hsub hr=>by
 have hkw:Kws as:=⟨w,fz,vs,hr⟩
 obtain⟨u,v,t,rfl,hFz1⟩:=w3.ok hF
 obtain⟨rx,bx,lx,rfl,kx,hF⟩:=asI.kw hFz1 hkw.cons.1
 obtain⟨ry,b2,l2,rfl,ky,hFz2⟩:=asI.kw hF hkw.cons.2.cons.1
 obtain⟨d,b3,l3,e,b4,l4,rfl,k3,k4,hF⟩:=asP.kw hFz2 hkw.cons.2.cons.2.cons.1
 obtain⟨z,T,A,B,C,S,⟨hT,eA,eB⟩,⟨eC,eS⟩,hK⟩:=cond_t hF
 obtain⟨u1,u2,u3,ev,r1,r2,r3⟩:=reps3 hr
 obtain⟨t1,ea⟩:=rep_int r1
 obtain⟨t2,eb⟩:=rep_int r2
 clear hr hkw hF hFz1 hFz2 r1 r2
 subst eA eB eC eS
 have z1:=and_t z
 have z2:=and_t z1.1
 have e1:=of_decide_eq_true z1.2
 subst e1
 subst ev
 subst ea eb
 intro mg mb dp un gd cn cs a ccd cl outer A₀ base h₀ L m s Q E B F X N T9 G9 Hk Hd Hu hret
 exact ell_core hsub (leB.ok z2.1 kx) (leB.ok z2.2 ky) hT r3 B F X N T9 G9 Hk Hd Hu fun v l' h' tk' p a b=>hret v l' h' tk' (p.elim fun x p=>p.1▸p.2.elim fun fz' q=>⟨q.2.2.2,_,fz',hK,q.1,q.2.1,q.2.2.1⟩) a b
noncomputable def F_led:PF:=aF G11 [] zipB f254 30
theorem ok_led{w:World}:FnOk w 254 19 F_led:=aF.ok (by decide) G11.ok MthOk.nil (by w_on) (by w_on) (by w_on) rfl (by with_unfolding_all decide) (BndOk.zip (len2 fun o1_ o2_=>rfl))
noncomputable def F_back:PF:=aF G11 [] zipB f261 30
theorem ok_back{w:World}:FnOk w 261 19 F_back:=aF.ok (by decide) G11.ok MthOk.nil (by w_on) (by w_on) (by w_on) rfl (by with_unfolding_all decide) (BndOk.zip (len2 fun o1_ o2_=>rfl))
theorem MthOk.cons{w:World}{Μ:List (Str×PF)}{d n:Nat}{x:Str}{F:PF}{fa:Addr}(h:MthOk w Μ d)(hn:n≤d)(m:MOk w x fa)(k:FnOk w fa n F):MthOk w ((x,F)::Μ) d:=fun y G e=>by
 rw[List.lookup] at e
 cases hh:y==x with
 |true=>rw[hh] at e;cases e;cases eq_of_beq hh;exact⟨n,fa,hn,m,k⟩
 |false=>rw[hh] at e;exact h y G e
noncomputable def MT:List (Str×PF):=[("led",F_led),("back",F_back)]
theorem MT.ok{w:World}{d:Nat}(hd:19≤d):MthOk w MT d:=(MthOk.nil.cons hd ⟨by w_on,by w_on,by w_on,fun o1_ o2_ o3_ o4_ o5_ o6_ o7_ o8_ o9_ o10_ o11_ o12_=>rfl,by w_on⟩ ok_back).cons hd ⟨by w_on,by w_on,by w_on,fun o1_ o2_ o3_ o4_ o5_ o6_ o7_ o8_ o9_ o10_ o11_ o12_=>rfl,by w_on⟩ ok_led
noncomputable def F_quarter96:PF:=fun as K=>w2 (fun u s=>asP (fun a0 b0 l0 a1 b1 l1=>cond (leB b0 96&&leB b1 96) (asB (fun sw=>K (qV 96 (quarterOn (a0,a1) sw))) s) False) u) as
theorem ok_quarter96{w:World}:FnOk w 289 19 F_quarter96:=FnOk.of ok_quarter_on0 fun as K hk hF=>by
 refine byC fun C9 k9=>?_
 obtain⟨u,s,rfl,hFz1⟩:=w2.ok hF
 obtain⟨a0,b0,l0,a1,b1,l1,rfl,k0,k1,hF⟩:=asP.kw hFz1 hk.cons.1
 obtain⟨z,hG⟩:=cond_t hF
 obtain⟨sw,rfl,hH⟩:=asB.e hG
 have i0:=leB.ok (and_t z).1 k0
 have i1:=leB.ok (and_t z).2 k1
 have q:=quarter_bits (sw:=sw) i0 i1
 refine k9 ?_
 refine⟨_,.cons (.pV i0 i1) (.cons Imp.refl .nil),?_⟩
 cases sw
 ·refine br_f rfl ?_
  exact⟨_,.pV q.1 q.2,hH⟩
 ·refine br_t rfl ?_
  exact⟨_,.pV q.1 q.2,hH⟩
noncomputable def G13:Gam:=("Ellipse",.p F_ell)::("piece_of",.p F_piece)::("quarter_on",.p F_quarter96)::G12
theorem G13.ok{w:World}:GamOk w G13 20:=(((G12.ok).cons (F:= .p F_quarter96) (d':=20) (by decide) (by decide) rfl (by w_on) ok_quarter96).cons (F:= .p F_piece) (d':=20) (by decide) (by decide) rfl (by w_on) ok_piece).cons (F:= .p F_ell) (d':=20) (by decide) (by decide) rfl (by w_on) ok_ell
noncomputable def F_vectors0:PF:=aF G13 [] zipB f310 30
theorem ok_vectors0{w:World}:FnOk w 310 21 F_vectors0:=aF.ok (by decide) G13.ok MthOk.nil (by w_on) (by w_on) (by w_on) rfl (by with_unfolding_all decide) (BndOk.zip (len3 fun o1_ o2_ o3_=>rfl))
noncomputable def vecK(v w:Pr)(sw:Bool)(K:List Pr→Prop):Prop:=
 ((vectorsF v w sw=[v,w]→K [v,w])∧(vectorsF v w sw=[v,quarterOn v sw,w]→K [v,quarterOn v sw,w]))∧
 ((vectorsF v w sw=[v,quarterOn v sw,quarterOn (quarterOn v sw) sw,w]→K [v,quarterOn v sw,quarterOn (quarterOn v sw) sw,w])∧
  (vectorsF v w sw=[v,quarterOn v sw,quarterOn (quarterOn v sw) sw,quarterOn (quarterOn (quarterOn v sw) sw) sw,w]→K [v,quarterOn v sw,quarterOn (quarterOn v sw) sw,quarterOn (quarterOn (quarterOn v sw) sw) sw,w]))
noncomputable def F_vectors:PF:=fun as K=>w3 (fun u v s=>asPP 96 (fun a0 a1 c0 c1=>asB (fun sw=>vecK (a0,a1) (c0,c1) sw fun l=>K (.lst (l.map (qV 96)))) s) u v) as
theorem ok_vectors{w:World}:FnOk w 310 21 F_vectors:=FnOk.of ok_vectors0 fun as K hk hF=>by
 refine byC fun C9 k9=>?_
 obtain⟨u,v,s,rfl,hFz2⟩:=w3.ok hF
 obtain⟨a0,a1,c0,c1,i1,i2,⟨j1,j2⟩,⟨j3,j4⟩,hG⟩:=asPP.kw hFz2 hk.cons.1 hk.cons.2.cons.1
 obtain⟨sw,rfl,⟨k1,k2⟩,k3,k4⟩:=asB.e hG
 refine k9 ?_
 refine⟨_,.cons i1 (.cons i2 (.cons Imp.refl .nil)),?_⟩
 refine⟨br_both (fun h=>?_) (fun h=>?_)⟩
 ·exact⟨_,Imp.refl,k1 (by simp only[vectorsF,vecGo,h,if_true];rfl)⟩
 refine⟨⟨br_both (fun h2=>?_) (fun h2=>?_)⟩⟩
 ·exact⟨_,Imp.refl,k2 (by simp only[vectorsF,vecGo,h,h2,if_true,if_false,Bool.false_eq_true];rfl)⟩
 refine⟨⟨br_both (fun h3=>?_) (fun h3=>?_)⟩⟩
 ·exact⟨_,Imp.refl,k3 (by simp only[vectorsF,vecGo,h,h2,h3,if_true,if_false,Bool.false_eq_true];rfl)⟩
 ·exact⟨_,Imp.refl,k4 (by simp only[vectorsF,vecGo,h,h2,h3,if_true,if_false,Bool.false_eq_true];rfl)⟩
noncomputable def G14:Gam:=("vectors_of",.p F_vectors)::G13
theorem G14.ok{w:World}:GamOk w G14 21:=(G13.ok).cons (F:= .p F_vectors) (d':=21) (by decide) (by decide) rfl (by w_on) ok_vectors
noncomputable def F_point0:PF:=aF G14 MT zipB f322 30
theorem ok_point0{w:World}:FnOk w 322 22 F_point0:=aF.ok (by decide) G14.ok (MT.ok (by decide)) (by w_on) (by w_on) (by w_on) rfl (by with_unfolding_all decide) (BndOk.zip (len5 fun o1_ o2_ o3_ o4_ o5_=>rfl))
theorem Imp.w{n:Int}{x y:Nat}{l:Option Nat}(h:Nat.ble x y=true):Imp (.int n (some x) l) (.int n (some y) none):=fun w fz v k=>by
 cases k with
 |int k=>exact .int (.b1 (Nat.le_trans (k.b _ rfl) (Nat.le_of_ble_eq_true h)))
theorem Imp.wp{n:Int}{x y a:Nat}(h:Nat.ble x y=true):Imp (.int n (some x) (some (a+1))) (.int n (some y) (some 1)):=fun w fz v k=>by
 cases k with
 |int k=>exact .int (.bn (Nat.le_trans (k.b _ rfl) (Nat.le_of_ble_eq_true h)) (by have:=k.l _ rfl;omega))
noncomputable def asEl(k:Int→Int→Int→Int→Prop):V→Prop
 |.ell x y C S=>k x y C S
 |_=>False
set_option genInjectivity false in
set_option genSizeOfSpec false in
inductive AsElD(k:Int→Int→Int→Int→Prop)(v:V):Prop where
 |mk (x y C S:Int) (e:v= .ell x y C S) (h:k x y C S)
theorem asEl.e{k:Int→Int→Int→Int→Prop}{v:V}(h:asEl k v):AsElD k v:=by
 induction v using V.casesOn with
 |ell x y C S=>exact⟨x,y,C,S,rfl,h⟩
 |_=>exact h.elim
noncomputable def asPt(n:Nat)(k:Pt→Prop):V→Prop
 |.tup [u,v]=>asP (fun a b o1_ c d lc=>asP (fun e f o1_ g h lg=>cond ((leB b n&&(leB d n&&isP lc))&&(leB f n&&(leB h n&&isP lg))) (k ((a,c),(e,g))) False) v) u
 |_=>False
noncomputable abbrev prV(n:Nat)(v:Pr):V:= .tup [.int v.1 (some n) none,.int v.2 (some n) (some 1)]
noncomputable abbrev ptV(n:Nat)(t:Pt):V:= .tup [prV n t.1,prV n t.2]
set_option genInjectivity false in
set_option genSizeOfSpec false in
inductive AsPtD(n:Nat)(k:Pt→Prop)(v:V):Prop where
 |mk (t:Pt) (i:Imp v (ptV n t)) (z:0<t.1.2∧0<t.2.2) (h:k t)
theorem asPt.kw{n:Nat}{k:Pt→Prop}{v:V}(h:asPt n k v)(hk:Kw v):AsPtD n k v:=by
 induction v using V.casesOn with
 |tup vs=>induction vs using List.casesOn with
  |nil=>exact h.elim
  |cons u r=>induction r using List.casesOn with
   |nil=>exact h.elim
   |cons v r=>induction r using List.casesOn with
    |cons o1_ o2_=>exact h.elim
    |nil=>
     have hk:=hk.tup
     obtain⟨az1,bz2,la,cz3,dz4,lcz5,rfl,k1,k2,hz6⟩:=asP.kw (show asP (fun a b o1_ c d lc=>asP (fun e f o1_ g h lg=>cond ((leB b n&&(leB d n&&isP lc))&&(leB f n&&(leB h n&&isP lg))) (k ((a,c),(e,g))) False) v) u from h) hk.cons.1
     obtain⟨e,f,le,g,hh,lg,rfl,k3,k4,h⟩:=asP.kw hz6 hk.cons.2.cons.1
     obtain⟨z,hz7⟩:=cond_t h
     have z1:=and_t z
     have z2:=and_t z1.1
     have z3:=and_t z2.2
     have z4:=and_t z1.2
     have z5:=and_t z4.2
     exact⟨((az1,cz3),(e,g)),.tup (.cons (.pr (.b1 (leB.ok z2.1 k1)) (.bn (leB.ok z3.1 k2) (isP.ok z3.2 k2))) (.cons (.pr (.b1 (leB.ok z4.1 k3)) (.bn (leB.ok z5.1 k4) (isP.ok z5.2 k4))) .nil)),⟨isP.ok z3.2 k2,isP.ok z5.2 k4⟩,hz7⟩
 |_=>exact h.elim
noncomputable def w5(k:V→V→V→V→V→Prop):List V→Prop:=onCons fun a r=>onCons (fun b r=>onCons (fun c r=>onCons (fun d r=>on1 (fun e=>k a b c d e) r) r) r) r
noncomputable def w7(k:V→V→V→V→V→V→V→Prop):List V→Prop:=onCons fun a r=>onCons (fun b r=>onCons (fun c r=>onCons (fun d r=>onCons (fun e r=>onCons (fun f r=>on1 (fun g=>k a b c d e f g) r) r) r) r) r) r
set_option genInjectivity false in
set_option genSizeOfSpec false in
inductive W5D(k:V→V→V→V→V→Prop)(as:List V):Prop where
 |mk (a b c d e:V) (e0:as=[a,b,c,d,e]) (h:k a b c d e)
theorem w5.ok{k:V→V→V→V→V→Prop}{as:List V}(h:w5 k as):W5D k as:=
 onCons.el (C:=fun as=>W5D k as) h fun a r h=>onCons.el (C:=fun r=>W5D k (a::r)) h fun b r h=>onCons.el (C:=fun r=>W5D k (a::b::r)) h fun c r h=>onCons.el (C:=fun r=>W5D k (a::b::c::r)) h fun d r h=>on1.el (C:=fun r=>W5D k (a::b::c::d::r)) h fun e h=>⟨a,b,c,d,e,rfl,h⟩
set_option genInjectivity false in
set_option genSizeOfSpec false in
inductive W7D(k:V→V→V→V→V→V→V→Prop)(as:List V):Prop where
 |mk (a b c d e f g:V) (e0:as=[a,b,c,d,e,f,g]) (h:k a b c d e f g)
theorem w7.ok{k:V→V→V→V→V→V→V→Prop}{as:List V}(h:w7 k as):W7D k as:=
 onCons.el (C:=fun as=>W7D k as) h fun a r h=>onCons.el (C:=fun r=>W7D k (a::r)) h fun b r h=>onCons.el (C:=fun r=>W7D k (a::b::r)) h fun c r h=>onCons.el (C:=fun r=>W7D k (a::b::c::r)) h fun d r h=>onCons.el (C:=fun r=>W7D k (a::b::c::d::r)) h fun e r h=>onCons.el (C:=fun r=>W7D k (a::b::c::d::e::r)) h fun f r h=>on1.el (C:=fun r=>W7D k (a::b::c::d::e::f::r)) h fun g h=>⟨a,b,c,d,e,f,g,rfl,h⟩
noncomputable def F_backS:PF:=fun as K=>w2 (fun e v=>asEl (fun x y C S=>asP (fun a b0 o1_ b b1 o2_=>cond (leB b0 1600&&leB b1 1600) (∃O:Pr,O=backF ⟨x,y,C,S⟩ (a,b)∧((x≠0∧y≠0)∧(intBits O.1≤95∧intBits O.2≤95))∧K (qV 95 O)) False) v) e) as
theorem ok_backS{w:World}:FnOk w 261 19 F_backS:=FnOk.of ok_back fun as K hk hF=>by
 refine byC fun C9 k9=>?_
 obtain⟨e,v,rfl,hFz8⟩:=w2.ok hF
 obtain⟨x,y,C,S,rfl,hF⟩:=asEl.e hFz8
 obtain⟨a,b0,l0,b,b1,l1,rfl,k0,k1,hFz9⟩:=asP.kw hF hk.cons.2.cons.1
 obtain⟨z,O,eO,⟨⟨n1,n2⟩,h1,h2⟩,hG⟩:=cond_t hFz9
 subst eO
 refine k9 ?_
 refine⟨_,.cons Imp.refl (.cons (.pV (leB.ok (and_t z).1 k0) (leB.ok (and_t z).2 k1)) .nil),?_⟩
 refine⟨n1,n2,?_⟩
 exact⟨_,.pV h1 h2,hG⟩
noncomputable def F_centreS:PF:=fun as K=>w4 (fun z u lg s=>asPP 96 (fun z0 z1 a0 a1=>asB (fun large=>asB (fun sw=>∃c:Pr,c=centreF (a0,a1) large sw∧(((z0=0∧z1=0)∧0<sizeF (a0,a1))∧(intBits c.1≤95∧intBits c.2≤95))∧K (qV 95 c)) s) lg) z u) as
theorem ok_centreS{w:World}:FnOk w 275 19 F_centreS:=FnOk.of ok_centre fun as K hk hF=>by
 refine byC fun C9 k9=>?_
 obtain⟨z,u,lg,s,rfl,hFz10⟩:=w4.ok hF
 obtain⟨z0,z1,a0,a1,i1,i2,o1_,o2_,hG⟩:=asPP.kw hFz10 hk.cons.1 hk.cons.2.cons.1
 obtain⟨large,rfl,hH⟩:=asB.e hG
 obtain⟨sw,rfl,c,ec,⟨h,h1,h2⟩,hI⟩:=asB.e hH
 subst ec
 refine k9 ?_
 refine⟨_,.cons i1 (.cons i2 (.cons Imp.refl (.cons Imp.refl .nil))),?_⟩
 exact⟨h,_,.pV h1 h2,hI⟩
noncomputable def MS:List (Str×PF):=[("led",F_led),("back",F_backS)]
theorem MS.ok{w:World}{d:Nat}(hd:19≤d):MthOk w MS d:=(MthOk.nil.cons hd ⟨by w_on,by w_on,by w_on,fun o1_ o2_ o3_ o4_ o5_ o6_ o7_ o8_ o9_ o10_ o11_ o12_=>rfl,by w_on⟩ ok_backS).cons hd ⟨by w_on,by w_on,by w_on,fun o1_ o2_ o3_ o4_ o5_ o6_ o7_ o8_ o9_ o10_ o11_ o12_=>rfl,by w_on⟩ ok_led
noncomputable def F_point:PF:=fun as K=>w5 (fun e c v p t=>asEl (fun x y C S=>asPP 500 (fun c0 c1 v0 v1=>asPt 500 (fun p=>asI (fun T b l=>cond (leB b 100&&isP l) (∃r:Pt,r=pointF ⟨x,y,C,S⟩ (c0,c1) (v0,v1) p T∧K (ptV 2500 r)) False) t) p) c v) e) as
theorem ok_point{w:World}:FnOk w 322 22 F_point:=FnOk.of ok_point0 fun as K hk hF=>by
 refine byC fun C9 k9=>?_
 obtain⟨e,c,v,p,t,rfl,hFz11⟩:=w5.ok hF
 obtain⟨x,y,C,S,rfl,hF⟩:=asEl.e hFz11
 obtain⟨c0,c1,v0,v1,i1,i2,o1_,o2_,hFz12⟩:=asPP.kw hF hk.cons.2.cons.1 hk.cons.2.cons.2.cons.1
 obtain⟨P,i3,o1_,hF⟩:=asPt.kw hFz12 hk.cons.2.cons.2.cons.2.cons.1
 obtain⟨T,b,l,rfl,kt,hFz13⟩:=asI.kw hF hk.cons.2.cons.2.cons.2.cons.2.cons.1
 obtain⟨z,r,er,hG⟩:=cond_t hFz13
 subst er
 have z1:=and_t z
 refine k9 ?_
 refine⟨_,.cons Imp.refl (.cons i1 (.cons i2 (.cons i3 (.cons (.int (.bn (x:=100) (y:=1) (leB.ok z1.1 kt) (isP.ok z1.2 kt))) .nil)))),?_⟩
 refine⟨by decide +kernel,by decide +kernel,?_⟩
 exact⟨_,.tup (.cons (.tup (.cons (.w rfl) (.cons (.wp rfl) .nil))) (.cons (.tup (.cons (.w rfl) (.cons (.wp rfl) .nil))) .nil)),hG⟩
noncomputable def G15:Gam:=("point_told",.p F_point)::("centre_of",.p F_centreS)::("told_parts",.p F_told)::G14
theorem G15.ok{w:World}:GamOk w G15 22:=(((G14.ok).cons (F:= .p F_told) (d':=22) (by decide) (by decide) rfl (by w_on) ok_told).cons (F:= .p F_centreS) (d':=22) (by decide) (by decide) rfl (by w_on) ok_centreS).cons (F:= .p F_point) (d':=22) (by decide) (by decide) rfl (by w_on) ok_point
noncomputable def F_arc0:PF:=aF G15 MS zipB f327 40
theorem ok_arc0{w:World}:FnOk w 327 23 F_arc0:=aF.ok (by decide) G15.ok (MS.ok (by decide)) (by w_on) (by w_on) (by w_on) rfl (by with_unfolding_all decide) (BndOk.zip (len7 fun o1_ o2_ o3_ o4_ o5_ o6_ o7_=>rfl))
set_option genInjectivity false in
structure AQ where
 T:Pr×Pr
 t:Int
 A:Int
 B:Int
 C:Int
 S:Int
 O:Pr
 c:Pr
structure ArcQ(p:Pt)(rx ry:Pr)(large sw:Bool)(q:Pt)(x:AQ):Prop where
 k1:0<absI rx.1
 k2:0<absI ry.1
 hl:(leastF (absI rx.1,rx.2) (absI ry.1,ry.2)).2≤(leastF (absI rx.1,rx.2) (absI ry.1,ry.2)).1*2^64
 et:x.t=toldF rx ry
 eA:x.A=absI (inPartsF rx (x.t*MANY))
 eB:x.B=absI (inPartsF ry (x.t*MANY))
 eC:x.C=inPartsF x.T.1 PQ
 eS:x.S=inPartsF x.T.2 PQ
 zA:x.A≠0
 zB:x.B≠0
 eO:x.O=backF ⟨x.A,x.B,x.C,x.S⟩ (inPartsF (minusF q.1 p.1) (x.t*MANY),inPartsF (minusF q.2 p.2) (x.t*MANY))
 hO:(x.O.1==0&&x.O.2==0)=false
 b1:intBits x.O.1≤95
 b2:intBits x.O.2≤95
 zO:0<sizeF x.O
 ec:x.c=centreF x.O large sw
 b3:intBits x.c.1≤95
 b4:intBits x.c.2≤95
 zV:0<dotI (0-x.c.1,0-x.c.2) (0-x.c.1,0-x.c.2)
 hne:ptEq p q=false
noncomputable abbrev arcC(p:Pt)(sw:Bool)(q:Pt)(x:AQ):List Cv:=curvesGo ⟨x.A,x.B,x.C,x.S⟩ x.c p q x.t sw p (vectorsF (0-x.c.1,0-x.c.2) (x.O.1-x.c.1,x.O.2-x.c.2) sw)
noncomputable def asPr(n:Nat)(k:Pr→Prop):V→Prop:=asP fun a b o1_ c d l=>cond (leB b n&&(leB d n&&isP l)) (k (a,c)) False
set_option genInjectivity false in
set_option genSizeOfSpec false in
inductive AsPrD(n:Nat)(k:Pr→Prop)(v:V):Prop where
 |mk (t:Pr) (i:Imp v (prV n t)) (z:0<t.2) (h:k t)
theorem asPr.kw{n:Nat}{k:Pr→Prop}{v:V}(h:asPr n k v)(hk:Kw v):AsPrD n k v:=by
 obtain⟨a,b,la,c,d,lc,rfl,k1,k2,h⟩:=asP.kw h hk
 obtain⟨z,h⟩:=cond_t h
 have z1:=and_t z
 have z2:=and_t z1.2
 exact⟨(a,c),.pr (.b1 (leB.ok z1.1 k1)) (.bn (leB.ok z2.1 k2) (isP.ok z2.2 k2)),isP.ok z2.2 k2,h⟩
noncomputable abbrev cvV(c:Cv):V:= .tup [ptV 2500 c.1,ptV 2500 c.2.1,ptV 2500 c.2.2.1,ptV 2500 c.2.2.2]
noncomputable def tkK(X:List Cv)(K:List Cv→Prop):Prop:=K X
noncomputable def Q11(P:Pt)(RX RY:Pr)(d e:Int)(large sw:Bool)(Q:Pt)(K:List Cv→Prop):Prop:=∃x:AQ,(turnT d=some x.T∧e=1)∧ArcQ P RX RY large sw Q x∧tkK (arcC P sw Q x) K
theorem tkK.fin{X Y:List Cv}{K:List Cv→Prop}(e:X=Y)(h:tkK X K):K Y:=by subst e;exact h
noncomputable def F_arc:PF:=fun as K=>w7 (fun p rx ry t lg s q=>asPt 300 (fun P=>asPr 100 (fun RX=>asPr 100 (fun RY=>asP (fun d o1_ o2_ e o3_ o4_=>asB (fun large=>asB (fun sw=>asPt 300 (fun Q=>Q11 P RX RY d e large sw Q fun Y=>K (.lst (Y.map cvV))) q) s) lg) t) ry) rx) p) as
theorem nz_f{a:Int}(h:0<absI a):(a==0)=false:=by
 rw[beq_eq_false_iff_ne]
 intro e
 subst e
 exact absurd h (by decide)
theorem Imp.pt3{t:Pt}:Imp (ptV 300 t) (ptV 2500 t):= .tup (.cons (.tup (.cons (.w rfl) (.cons (.wp rfl) .nil))) (.cons (.tup (.cons (.w rfl) (.cons (.wp rfl) .nil))) .nil))
theorem dotq{v:Pr}{sw:Bool}(h:0<dotI v v):0<dotI (quarterOn v sw) (quarterOn v sw):=by
 have e:dotI (quarterOn v sw) (quarterOn v sw)=dotI v v:=by
  unfold quarterOn turnedV dotI
  cases sw
  ·simp only[Bool.false_eq_true,if_false];exact lI 0xf3c404e0c138310238e10f3c40a1322
  ·simp only[if_true];exact lI 0x13c304f0c438e10238e10f3c40a1322
 rw[e];exact h
theorem ok_arc{w:World}:FnOk w 327 23 F_arc:=FnOk.of ok_arc0 fun as K hk hF=>by
 refine byC fun C9 k9=>?_
 obtain⟨p,rx,ry,t,lg,s,q,e0,g1⟩:=w7.ok hF
 subst e0
 obtain⟨P,i1,o1_,g2⟩:=asPt.kw g1 hk.cons.1
 obtain⟨RX,i2,o1_,g3⟩:=asPr.kw g2 hk.cons.2.cons.1
 obtain⟨RY,i3,o1_,g4⟩:=asPr.kw g3 hk.cons.2.cons.2.cons.1
 obtain⟨d,o1_,o2_,e,o3_,o4_,e0,o5_,o6_,g5⟩:=asP.kw g4 hk.cons.2.cons.2.cons.2.cons.1
 subst e0
 obtain⟨large,e0,g6⟩:=asB.e g5
 subst e0
 obtain⟨sw,e0,g7⟩:=asB.e g6
 subst e0
 obtain⟨Q,i7,o1_,g8⟩:=asPt.kw g7 hk.cons.2.cons.2.cons.2.cons.2.cons.2.cons.2.cons.1
 refine k9 ?_
 refine⟨_,.cons i1 (.cons i2 (.cons i3 (.cons (Imp.pr .no .no) (.cons Imp.refl (.cons Imp.refl (.cons i7 .nil)))))),?_⟩
 clear hF hk g1 g2 g3 g4 g5 g6 g7 i1 i2 i3 i7
 obtain⟨⟨T,t,A,B,C,S,O,c⟩,⟨hT,e1⟩,hA,hG⟩:=g8
 subst e1
 refine br_f hA.hne ?_
 refine br_f (nz_f hA.k1) (br_f (nz_f hA.k2) (br_f rfl ?_))
 refine⟨⟨hA.k1,hA.k2,hA.hl⟩,t,hA.et,?_⟩
 refine⟨T,A,B,C,S,⟨hT,hA.eA,hA.eB⟩,⟨hA.eC,hA.eS⟩,?_⟩
 refine⟨O,hA.eO,⟨⟨hA.zA,hA.zB⟩,hA.b1,hA.b2⟩,?_⟩
 refine br_f hA.hO ?_
 refine⟨c,hA.ec,⟨⟨⟨rfl,rfl⟩,hA.zO⟩,hA.b3,hA.b4⟩,?_⟩
 have zV:=hA.zV
 clear hA hT
 refine⟨⟨fun h=>?_,fun h=>?_⟩,fun h=>?_,fun h=>?_⟩
 ·refine⟨zV,_,_,⟨rfl,rfl⟩,?_⟩
  refine⟨_,rfl,_,rfl,?_⟩
  refine br_t rfl ?_
  refine⟨_,Imp.lst (.cons (.tup (.cons Imp.pt3 (.cons Imp.refl (.cons Imp.refl (.cons Imp.pt3 .nil))))) .nil),?_⟩
  exact tkK.fin (congrArg (curvesGo ⟨A,B,C,S⟩ c P Q t sw P) h) hG
 ·refine⟨zV,_,_,⟨rfl,rfl⟩,?_⟩
  refine⟨_,rfl,_,rfl,?_⟩
  refine br_f rfl ⟨_,rfl,?_⟩
  refine⟨(dotq zV),_,_,⟨rfl,rfl⟩,?_⟩
  refine⟨_,rfl,_,rfl,?_⟩
  refine br_t rfl ?_
  refine⟨_,Imp.lst (.cons (.tup (.cons Imp.pt3 (.cons Imp.refl (.cons Imp.refl (.cons Imp.refl .nil))))) (.cons (.tup (.cons Imp.refl (.cons Imp.refl (.cons Imp.refl (.cons Imp.pt3 .nil))))) .nil)),?_⟩
  exact tkK.fin (congrArg (curvesGo ⟨A,B,C,S⟩ c P Q t sw P) h) hG
 ·refine⟨zV,_,_,⟨rfl,rfl⟩,?_⟩
  refine⟨_,rfl,_,rfl,?_⟩
  refine br_f rfl ⟨_,rfl,?_⟩
  refine⟨(dotq zV),_,_,⟨rfl,rfl⟩,?_⟩
  refine⟨_,rfl,_,rfl,?_⟩
  refine br_f rfl ⟨_,rfl,?_⟩
  refine⟨(dotq (dotq zV)),_,_,⟨rfl,rfl⟩,?_⟩
  refine⟨_,rfl,_,rfl,?_⟩
  refine br_t rfl ?_
  refine⟨_,Imp.lst (.cons (.tup (.cons Imp.pt3 (.cons Imp.refl (.cons Imp.refl (.cons Imp.refl .nil))))) (.cons (.tup (.cons Imp.refl (.cons Imp.refl (.cons Imp.refl (.cons Imp.refl .nil))))) (.cons (.tup (.cons Imp.refl (.cons Imp.refl (.cons Imp.refl (.cons Imp.pt3 .nil))))) .nil))),?_⟩
  exact tkK.fin (congrArg (curvesGo ⟨A,B,C,S⟩ c P Q t sw P) h) hG
 ·refine⟨zV,_,_,⟨rfl,rfl⟩,?_⟩
  refine⟨_,rfl,_,rfl,?_⟩
  refine br_f rfl ⟨_,rfl,?_⟩
  refine⟨(dotq zV),_,_,⟨rfl,rfl⟩,?_⟩
  refine⟨_,rfl,_,rfl,?_⟩
  refine br_f rfl ⟨_,rfl,?_⟩
  refine⟨(dotq (dotq zV)),_,_,⟨rfl,rfl⟩,?_⟩
  refine⟨_,rfl,_,rfl,?_⟩
  refine br_f rfl ⟨_,rfl,?_⟩
  refine⟨(dotq (dotq (dotq zV))),_,_,⟨rfl,rfl⟩,?_⟩
  refine⟨_,rfl,_,rfl,?_⟩
  refine br_t rfl ?_
  refine⟨_,Imp.lst (.cons (.tup (.cons Imp.pt3 (.cons Imp.refl (.cons Imp.refl (.cons Imp.refl .nil))))) (.cons (.tup (.cons Imp.refl (.cons Imp.refl (.cons Imp.refl (.cons Imp.refl .nil))))) (.cons (.tup (.cons Imp.refl (.cons Imp.refl (.cons Imp.refl (.cons Imp.refl .nil))))) (.cons (.tup (.cons Imp.refl (.cons Imp.refl (.cons Imp.refl (.cons Imp.pt3 .nil))))) .nil)))),?_⟩
  exact tkK.fin (congrArg (curvesGo ⟨A,B,C,S⟩ c P Q t sw P) h) hG
noncomputable def F_law_parts:PF:=aF G3 [] zipB f334 30
theorem ok_law_parts{w:World}:FnOk w 334 12 F_law_parts:=aF.ok (by decide) G3.ok MthOk.nil (by w_on) (by w_on) (by w_on) rfl (by with_unfolding_all decide) (BndOk.zip (len0  rfl))
noncomputable def F_law_way:PF:=aF G3 [] zipB f362 30
theorem ok_law_way{w:World}:FnOk w 362 12 F_law_way:=aF.ok (by decide) G3.ok MthOk.nil (by w_on) (by w_on) (by w_on) rfl (by with_unfolding_all decide) (BndOk.zip (len2 fun o1_ o2_=>rfl))
noncomputable def F_law_turned:PF:=aF G3 [] zipB f369 30
theorem ok_law_turned{w:World}:FnOk w 369 12 F_law_turned:=aF.ok (by decide) G3.ok MthOk.nil (by w_on) (by w_on) (by w_on) rfl (by with_unfolding_all decide) (BndOk.zip (len2 fun o1_ o2_=>rfl))
noncomputable def F_law_dot:PF:=aF G3 [] zipB f388 30
theorem ok_law_dot{w:World}:FnOk w 388 12 F_law_dot:=aF.ok (by decide) G3.ok MthOk.nil (by w_on) (by w_on) (by w_on) rfl (by with_unfolding_all decide) (BndOk.zip (len2 fun o1_ o2_=>rfl))
noncomputable def F_law_cross:PF:=aF G3 [] zipB f395 30
theorem ok_law_cross{w:World}:FnOk w 395 12 F_law_cross:=aF.ok (by decide) G3.ok MthOk.nil (by w_on) (by w_on) (by w_on) rfl (by with_unfolding_all decide) (BndOk.zip (len2 fun o1_ o2_=>rfl))
noncomputable def F_law_point:PF:=aF G3 [] zipB f429 30
theorem ok_law_point{w:World}:FnOk w 429 12 F_law_point:=aF.ok (by decide) G3.ok MthOk.nil (by w_on) (by w_on) (by w_on) rfl (by with_unfolding_all decide) (BndOk.zip (len2 fun o1_ o2_=>rfl))
noncomputable def F_law_led:PF:=aF G3 [] zipB f374 30
theorem ok_law_led{w:World}:FnOk w 374 12 F_law_led:=aF.ok (by decide) G3.ok MthOk.nil (by w_on) (by w_on) (by w_on) rfl (by with_unfolding_all decide) (BndOk.zip (len3 fun o1_ o2_ o3_=>rfl))
noncomputable def F_law_take:SF:=aS G3 [] zipB f348 30
theorem ok_law_take{w:World}:SnOk w 348 12 F_law_take:=aS.ok (by decide) G3.ok MthOk.nil (by w_on) (by w_on) (by w_on) rfl (by with_unfolding_all decide) (BndOk.zip (len2 fun o1_ o2_=>rfl))
noncomputable def G16:Gam:=("_law_take",.s F_law_take)::("_law_led",.p F_law_led)::("_law_point",.p F_law_point)::("_law_cross",.p F_law_cross)::("_law_dot",.p F_law_dot)::("_law_turned",.p F_law_turned)::("_law_way",.p F_law_way)::("_law_parts",.p F_law_parts)::("arc_cubics",.p F_arc)::G15
theorem G16.ok{w:World}:GamOk w G16 23:=(((((((((G15.ok).cons (F:= .p F_arc) (d':=23) (by decide) (by decide) rfl (by w_on) ok_arc).cons (F:= .p F_law_parts) (d':=23) (by decide) (by decide) rfl (by w_on) ok_law_parts).cons (F:= .p F_law_way) (d':=23) (by decide) (by decide) rfl (by w_on) ok_law_way).cons (F:= .p F_law_turned) (d':=23) (by decide) (by decide) rfl (by w_on) ok_law_turned).cons (F:= .p F_law_dot) (d':=23) (by decide) (by decide) rfl (by w_on) ok_law_dot).cons (F:= .p F_law_cross) (d':=23) (by decide) (by decide) rfl (by w_on) ok_law_cross).cons (F:= .p F_law_point) (d':=23) (by decide) (by decide) rfl (by w_on) ok_law_point).cons (F:= .p F_law_led) (d':=23) (by decide) (by decide) rfl (by w_on) ok_law_led).cons (F:= .s F_law_take) (d':=23) (by decide) (by decide) rfl (by w_on) ok_law_take
noncomputable def F_law_one:SF:=aS G16 [] zipB f355 30
theorem ok_law_one{w:World}:SnOk w 355 24 F_law_one:=aS.ok (by decide) G16.ok MthOk.nil (by w_on) (by w_on) (by w_on) rfl (by with_unfolding_all decide) (BndOk.zip (len2 fun o1_ o2_=>rfl))
noncomputable def F_law_pool:NF:=aN G16 [] zipB f341 30
theorem ok_law_pool{w:World}:NnOk w 341 24 F_law_pool:=aN.ok (by decide) G16.ok MthOk.nil (by w_on) (by w_on) (by w_on) rfl (by with_unfolding_all decide) (BndOk.zip (len2 fun o1_ o2_=>rfl))
noncomputable def F_law_back:PF:=aF G16 [] zipB f381 30
theorem ok_law_back{w:World}:FnOk w 381 24 F_law_back:=aF.ok (by decide) G16.ok MthOk.nil (by w_on) (by w_on) (by w_on) rfl (by with_unfolding_all decide) (BndOk.zip (len3 fun o1_ o2_ o3_=>rfl))
theorem Imp.trans{a b c:V}(h:Imp a b)(k:Imp b c):Imp a c:=fun w fz v r=>k w fz v (h w fz v r)
theorem Imp.pos{n:Int}{x:Nat}{l:Option Nat}(h:0<n):Imp (.int n (some x) l) (.int n (some x) (some 1)):=fun w fz v k=>by
 cases k with
 |int k=>exact .int (.bn (k.b _ rfl) h)
noncomputable abbrev rpV(n:Nat)(v:Pr):V:= .tup [.int v.1 (some n) (some 1),.int v.2 (some n) (some 1)]
noncomputable abbrev rtV(n:Nat)(t:Pt):V:= .tup [rpV n t.1,rpV n t.2]
theorem Imp.rt{n:Nat}{t:Pt}(h:0<t.1.1)(k:0<t.2.1):Imp (ptV n t) (rtV n t):= .tup (.cons (.tup (.cons (.pos h) (.cons Imp.refl .nil))) (.cons (.tup (.cons (.pos k) (.cons Imp.refl .nil))) .nil))
noncomputable def F_lback:PF:=fun as K=>w3 (fun p r c=>asPt 2500 (fun P=>asPt 100 (fun R=>asPt 100 (fun C=>(0<R.1.1∧0<R.2.1)∧∃v:Pr,v=backL P R C∧K (qV 3000 v)) c) r) p) as
theorem ok_lback{w:World}:FnOk w 381 24 F_lback:=FnOk.of ok_law_back fun as K hk hF=>by
 refine byC fun C9 k9=>?_
 obtain⟨p,r,c,e0,g0⟩:=w3.ok hF
 subst e0
 obtain⟨P,i1,o1_,g1⟩:=asPt.kw g0 hk.cons.1
 obtain⟨R,i2,o1_,g2⟩:=asPt.kw g1 hk.cons.2.cons.1
 obtain⟨C,i3,o1_,⟨h1,h2⟩,v,ev,hG⟩:=asPt.kw g2 hk.cons.2.cons.2.cons.1
 refine k9 ?_
 refine⟨_,.cons i1 (.cons (i2.trans (.rt h1 h2)) (.cons i3 .nil)),?_⟩
 clear hF hk g0 g1 g2 i1 i2 i3
 subst ev
 exact⟨_,.tup (.cons (.w rfl) (.cons (.w rfl) .nil)),hG⟩
noncomputable def G17:Gam:=("_law_back",.p F_lback)::("_law_pool",.n F_law_pool)::("_law_one",.s F_law_one)::G16
theorem G17.ok{w:World}:GamOk w G17 24:=(((G16.ok).cons (F:= .s F_law_one) (d':=24) (by decide) (by decide) rfl (by w_on) ok_law_one).cons (F:= .n F_law_pool) (d':=24) (by decide) (by decide) rfl (by w_on) ok_law_pool).cons (F:= .p F_lback) (d':=24) (by decide) (by decide) rfl (by w_on) ok_lback
noncomputable def F_circle0:PF:=aF G17 [] zipB f400 30
theorem ok_circle0{w:World}:FnOk w 400 25 F_circle0:=aF.ok (by decide) G17.ok MthOk.nil (by w_on) (by w_on) (by w_on) rfl (by with_unfolding_all decide) (BndOk.zip (len1 fun o1_=>rfl))
noncomputable def F_begins0:PF:=aF G17 [] zipB f405 30
theorem ok_begins0{w:World}:FnOk w 405 25 F_begins0:=aF.ok (by decide) G17.ok MthOk.nil (by w_on) (by w_on) (by w_on) rfl (by with_unfolding_all decide) (BndOk.zip (len4 fun o1_ o2_ o3_ o4_=>rfl))
noncomputable def F_many0:PF:=aF G17 [] zipB f412 30
theorem ok_many0{w:World}:FnOk w 412 25 F_many0:=aF.ok (by decide) G17.ok MthOk.nil (by w_on) (by w_on) (by w_on) rfl (by with_unfolding_all decide) (BndOk.zip (len3 fun o1_ o2_ o3_=>rfl))
noncomputable def asL4(k:V→V→V→V→Prop):V→Prop
 |.lst vs=>w4 k vs
 |_=>False
set_option genInjectivity false in
set_option genSizeOfSpec false in
inductive L4D(k:V→V→V→V→Prop)(a:V):Prop where
 |mk (u v x y:V) (e:a= .lst [u,v,x,y]) (q:Kw u∧Kw v) (r:Kw x∧Kw y) (h:k u v x y)
theorem asL4.kw{k:V→V→V→V→Prop}{a:V}(h:asL4 k a)(hk:Kw a):L4D k a:=by
 induction a using V.casesOn with
 |lst vs=>
  obtain⟨u,v,x,y,e,h⟩:=w4.ok h
  subst e
  have q:=hk.lst
  exact⟨_,_,_,_,rfl,⟨q.cons.1,q.cons.2.cons.1⟩,⟨q.cons.2.cons.2.cons.1,q.cons.2.cons.2.cons.2.cons.1⟩,h⟩
 |_=>exact h.elim
noncomputable def F_circle:PF:=fun as K=>w1 (asL4 (fun u v x y=>asPP 3000 (fun a0 a1 b0 b1=>asPP 3000 (fun c0 c1 d0 d1=>OnCircle (a0,a1) (b0,b1) (c0,c1) (d0,d1)∧K (.bool true)) x y) u v)) as
theorem circ_f{w0 w1 w2 w3 off x y:Int}{a b c d:Pr}(h:circOk w0 w1 w2 w3 off a b c d)(hx:x=wsum w0 w1 w2 w3 a.1 b.1 c.1 d.1)(hy:y=wsum w0 w1 w2 w3 a.2 b.2 c.2 d.2){z o2:Int}(hz:z=BIG)(ho:o2=off):decide (z<(if x*x+y*y-z<0 then -(x*x+y*y-z) else x*x+y*y-z)*o2)=false:=by
 subst hx hy hz ho
 exact decide_eq_false (Int.not_lt.mpr h)
theorem wsum_eq{u0 u1 u2 u3 w0 w1 w2 w3 a b c d:Int}(e0:u0=w0)(e1:u1=w1)(e2:u2=w2)(e3:u3=w3):u0*a+(u1*b+(u2*c+(u3*d+0)))=wsum w0 w1 w2 w3 a b c d:=by
 subst e0 e1 e2 e3
 unfold wsum
 omega
theorem ok_circle{w:World}:FnOk w 400 25 F_circle:=FnOk.of ok_circle0 fun as K hk hF=>by
 refine byC fun C9 k9=>?_
 obtain⟨l,e0,g0⟩:=w1.ok hF
 subst e0
 obtain⟨u,v,x,y,e0,⟨q1,q2⟩,⟨q3,q4⟩,g1⟩:=asL4.kw g0 hk.cons.1
 subst e0
 obtain⟨a0,a1,b0,b1,i1,i2,o1_,o2_,g2⟩:=asPP.kw g1 q1 q2
 obtain⟨c0,c1,d0,d1,i3,i4,o1_,o2_,h,hG⟩:=asPP.kw g2 q3 q4
 refine k9 ?_
 refine⟨_,.cons (.lst (.cons i1 (.cons i2 (.cons i3 (.cons i4 .nil))))) .nil,?_⟩
 clear hF hk g0 g1 g2 i1 i2 i3 i4
 refine br_f rfl ?_
 refine br_f (circ_f h.k0 (wsum_eq (by decide) (by decide) (by decide) (by decide)) (wsum_eq (by decide) (by decide) (by decide) (by decide)) (by decide +kernel) rfl) ?_
 refine br_t rfl ?_
 refine br_f (circ_f h.k1 (wsum_eq (by decide) (by decide) (by decide) (by decide)) (wsum_eq (by decide) (by decide) (by decide) (by decide)) (by decide +kernel) rfl) ?_
 refine br_t rfl ?_
 refine br_f (circ_f h.k2 (wsum_eq (by decide) (by decide) (by decide) (by decide)) (wsum_eq (by decide) (by decide) (by decide) (by decide)) (by decide +kernel) rfl) ?_
 refine br_t rfl ?_
 refine br_f (circ_f h.k3 (wsum_eq (by decide) (by decide) (by decide) (by decide)) (wsum_eq (by decide) (by decide) (by decide) (by decide)) (by decide +kernel) rfl) ?_
 refine br_f rfl ?_
 refine br_f (circ_f h.k4 (wsum_eq (by decide) (by decide) (by decide) (by decide)) (wsum_eq (by decide) (by decide) (by decide) (by decide)) (by decide +kernel) rfl) ?_
 exact⟨_,Imp.refl,hG⟩
noncomputable def F_begins:PF:=fun as K=>w4 (fun h i t s=>asPP 3000 (fun h0 h1 i0 i1=>asPP 3000 (fun t0 t1 o1_ o2_=>asI (fun sn b l=>cond (leB b 10) (Begins (h0,h1) (i0,i1) (t0,t1) sn∧K (.bool true)) False) s) t t) h i) as
theorem ok_begins{w:World}:FnOk w 405 25 F_begins:=FnOk.of ok_begins0 fun as K hk hF=>by
 refine byC fun C9 k9=>?_
 obtain⟨x,y,z,s,e0,g0⟩:=w4.ok hF
 subst e0
 obtain⟨h0,h1,i0,i1,m1,m2,o1_,o2_,g1⟩:=asPP.kw g0 hk.cons.1 hk.cons.2.cons.1
 obtain⟨t0,t1,o1_,o2_,m3,o3_,o4_,o5_,g2⟩:=asPP.kw g1 hk.cons.2.cons.2.cons.1 hk.cons.2.cons.2.cons.1
 obtain⟨sn,b,l,e0,ks,g3⟩:=asI.kw g2 hk.cons.2.cons.2.cons.2.cons.1
 subst e0
 obtain⟨z1,hB,hG⟩:=cond_t g3
 refine k9 ?_
 refine⟨_,.cons m1 (.cons m2 (.cons m3 (.cons (.int (.b1 (leB.ok z1 ks))) .nil))),?_⟩
 clear hF hk g0 g1 g2 g3 m1 m2 m3
 refine br_f (decide_eq_false (Int.not_lt.mpr hB.dot)) (br_f (decide_eq_false (Int.not_lt.mpr hB.cross)) ?_)
 exact⟨_,Imp.refl,Eq.mpr (congrArg (fun z=>K (.bool z)) (decide_eq_true hB.far)) hG⟩
noncomputable def F_many:PF:=fun as K=>w3 (fun u v s=>asPP 3000 (fun a0 a1 c0 c1=>asB (fun large=>(∀r0 r1:Int,manyF (a0,a1) (c0,c1) large=[r0,r1]→K (.lst [.int r0 (some 3) none,.int r1 (some 3) none]))∧∀r:Int,manyF (a0,a1) (c0,c1) large=[r]→K (.lst [.int r (some 3) none])) s) u v) as
theorem ok_many{w:World}:FnOk w 412 25 F_many:=FnOk.of ok_many0 fun as K hk hF=>by
 refine byC fun C9 k9=>?_
 obtain⟨u,v,s,e0,g0⟩:=w3.ok hF
 subst e0
 obtain⟨a0,a1,c0,c1,m1,m2,o1_,o2_,g1⟩:=asPP.kw g0 hk.cons.1 hk.cons.2.cons.1
 obtain⟨large,e0,hG⟩:=asB.e g1
 subst e0
 refine k9 ?_
 refine⟨_,.cons m1 (.cons m2 (.cons Imp.refl .nil)),?_⟩
 clear hF hk g0 g1 m1 m2
 refine br_both (fun h1=>?_) (fun h1=>?_)
 ·refine br_both (fun h2=>?_) (fun h2=>?_)
  ·refine br_t rfl ?_
   exact⟨_,Imp.lst (.cons (.int (.b1 (by decide))) (.cons (.int (.b1 (by decide))) .nil)),hG.1 2 3 (if_pos ⟨of_decide_eq_true h1,of_decide_eq_true h2⟩)⟩
  ·refine br_f rfl ?_
   have nn:=fun z:absI (crossI (a0,a1) (c0,c1))≤8000000000∧dotI (a0,a1) (c0,c1)<0=>of_decide_eq_false h2 z.2
   refine br_both (fun h3=>?_) (fun h3=>?_)
   ·have h3:=of_decide_eq_true h3
    have e:manyF (a0,a1) (c0,c1) large=if large then[3,4] else[1,2]:=(if_neg nn).trans (if_pos h3)
    cases large
    ·exact br_f rfl ⟨_,Imp.lst (.cons (.int (.b1 (by decide))) (.cons (.int (.b1 (by decide))) .nil)),hG.1 1 2 e⟩
    ·exact br_t rfl ⟨_,Imp.lst (.cons (.int (.b1 (by decide))) (.cons (.int (.b1 (by decide))) .nil)),hG.1 3 4 e⟩
   ·have h3:=of_decide_eq_false h3
    have e:manyF (a0,a1) (c0,c1) large=[if large then(if dotI (a0,a1) (c0,c1)<0 then 3 else 4) else if dotI (a0,a1) (c0,c1)<0 then 2 else 1]:=(if_neg nn).trans (if_neg h3)
    cases large
    ·refine br_f rfl (br_both (fun h4=>?_) (fun h4=>?_))
     ·exact⟨_,Imp.lst (.cons (.int (.b1 (by decide))) .nil),hG.2 2 (e.trans (congrArg (fun z=>[z]) (if_pos (of_decide_eq_true h4))))⟩
     ·exact⟨_,Imp.lst (.cons (.int (.b1 (by decide))) .nil),hG.2 1 (e.trans (congrArg (fun z=>[z]) (if_neg (of_decide_eq_false h4))))⟩
    ·refine br_t rfl (br_both (fun h4=>?_) (fun h4=>?_))
     ·exact⟨_,Imp.lst (.cons (.int (.b1 (by decide))) .nil),hG.2 3 (e.trans (congrArg (fun z=>[z]) (if_pos (of_decide_eq_true h4))))⟩
     ·exact⟨_,Imp.lst (.cons (.int (.b1 (by decide))) .nil),hG.2 4 (e.trans (congrArg (fun z=>[z]) (if_neg (of_decide_eq_false h4))))⟩
 ·refine br_f rfl ?_
  have nn:=fun z:absI (crossI (a0,a1) (c0,c1))≤8000000000∧dotI (a0,a1) (c0,c1)<0=>of_decide_eq_false h1 z.1
  refine br_both (fun h3=>?_) (fun h3=>?_)
  ·have h3:=of_decide_eq_true h3
   have e:manyF (a0,a1) (c0,c1) large=if large then[3,4] else[1,2]:=(if_neg nn).trans (if_pos h3)
   cases large
   ·exact br_f rfl ⟨_,Imp.lst (.cons (.int (.b1 (by decide))) (.cons (.int (.b1 (by decide))) .nil)),hG.1 1 2 e⟩
   ·exact br_t rfl ⟨_,Imp.lst (.cons (.int (.b1 (by decide))) (.cons (.int (.b1 (by decide))) .nil)),hG.1 3 4 e⟩
  ·have h3:=of_decide_eq_false h3
   have e:manyF (a0,a1) (c0,c1) large=[if large then(if dotI (a0,a1) (c0,c1)<0 then 3 else 4) else if dotI (a0,a1) (c0,c1)<0 then 2 else 1]:=(if_neg nn).trans (if_neg h3)
   cases large
   ·refine br_f rfl (br_both (fun h4=>?_) (fun h4=>?_))
    ·exact⟨_,Imp.lst (.cons (.int (.b1 (by decide))) .nil),hG.2 2 (e.trans (congrArg (fun z=>[z]) (if_pos (of_decide_eq_true h4))))⟩
    ·exact⟨_,Imp.lst (.cons (.int (.b1 (by decide))) .nil),hG.2 1 (e.trans (congrArg (fun z=>[z]) (if_neg (of_decide_eq_false h4))))⟩
   ·refine br_t rfl (br_both (fun h4=>?_) (fun h4=>?_))
    ·exact⟨_,Imp.lst (.cons (.int (.b1 (by decide))) .nil),hG.2 3 (e.trans (congrArg (fun z=>[z]) (if_pos (of_decide_eq_true h4))))⟩
    ·exact⟨_,Imp.lst (.cons (.int (.b1 (by decide))) .nil),hG.2 4 (e.trans (congrArg (fun z=>[z]) (if_neg (of_decide_eq_false h4))))⟩
noncomputable def G18:Gam:=("_law_many",.p F_many)::("_law_begins_right",.p F_begins)::("_law_on_circle",.p F_circle)::G17
theorem G18.ok{w:World}:GamOk w G18 25:=(((G17.ok).cons (F:= .p F_circle) (d':=25) (by decide) (by decide) rfl (by w_on) ok_circle).cons (F:= .p F_begins) (d':=25) (by decide) (by decide) rfl (by w_on) ok_begins).cons (F:= .p F_many) (d':=25) (by decide) (by decide) rfl (by w_on) ok_many
noncomputable def PtSz(pt:Pt):Prop:=(0<pt.1.2∧0<pt.2.2)∧(intBits pt.1.1≤2500∧intBits pt.1.2≤2500)∧(intBits pt.2.1≤2500∧intBits pt.2.2≤2500)
structure CvSz(cv:Cv):Prop where
 s0:PtSz cv.1
 s1:PtSz cv.2.1
 s2:PtSz cv.2.2.1
 s3:PtSz cv.2.2.2
structure ToldOk(radii centre p q:Pt)(sense:Int)(large:Bool)(X:List Cv):Prop where
 ne:0<X.length
 len:X.length≤4
 first:∀cv:Cv,X[0]?=some cv→cv.1=p
 last:∀cv:Cv,X[X.length-1]?=some cv→cv.2.2.2=q
 chain:∀(i:Nat) (cv cw:Cv),X[i]?=some cv→X[i+1]?=some cw→cv.2.2.2=cw.1
 many:(X.length:Int)∈manyF (backL p radii centre) (backL q radii centre) large
 ok:∀(i:Nat) (cv:Cv),X[i]?=some cv→CvOk radii centre sense cv
 sz:∀(i:Nat) (cv:Cv),X[i]?=some cv→CvSz cv
noncomputable def F_lled:PF:=fun as K=>w3 (fun v r c=>asPt 202 (fun V0=>asPt 40 (fun R=>asPt 40 (fun C=>∃x:Pt,x=ledL V0 R C∧K (ptV 300 x)) c) r) v) as
theorem ok_lled{w:World}:FnOk w 374 12 F_lled:=FnOk.of ok_law_led fun as K hk hF=>by
 refine byC fun C9 k9=>?_
 obtain⟨v,r,c,e0,g0⟩:=w3.ok hF
 subst e0
 obtain⟨V0,i1,o1_,g1⟩:=asPt.kw g0 hk.cons.1
 obtain⟨R,i2,o1_,g2⟩:=asPt.kw g1 hk.cons.2.cons.1
 obtain⟨C,i3,o1_,x,ex,hG⟩:=asPt.kw g2 hk.cons.2.cons.2.cons.1
 refine k9 ?_
 refine⟨_,.cons i1 (.cons i2 (.cons i3 .nil)),?_⟩
 clear hF hk g0 g1 g2 i1 i2 i3
 subst ex
 exact⟨_,.tup (.cons (.tup (.cons (.w rfl) (.cons (.wp rfl) .nil))) (.cons (.tup (.cons (.w rfl) (.cons (.wp rfl) .nil))) .nil)),hG⟩
theorem curves_first{e:El}{K:Pr}{p q:Pt}{T:Int}{sw:Bool}:∀(l:List Pr) (here:Pt) (cv:Cv),(curvesGo e K p q T sw here l)[0]?=some cv→cv.1=here
 |[],here,cv,h=>by simp[cg0,cg1] at h
 |[_],here,cv,h=>by simp[cg0,cg1] at h
 |v::w::r,here,cv,h=>by
  rw[cg2] at h
  simp only[List.getElem?_cons_zero,Option.some.injEq] at h
  rw[←h]
theorem curves_last{e:El}{K:Pr}{p q:Pt}{T:Int}{sw:Bool}:∀(l:List Pr) (here:Pt) (cv:Cv),(curvesGo e K p q T sw here l).getLast?=some cv→cv.2.2.2=q
 |[],here,cv,h=>by simp[cg0,cg1] at h
 |[_],here,cv,h=>by simp[cg0,cg1] at h
 |[v,w],here,cv,h=>by
  simp only[cg2,cg1,if_true,List.getLast?_singleton,Option.some.injEq] at h
  rw[←h]
 |v::w::x::r,here,cv,h=>by
  rw[cg2,List.getLast?_cons] at h
  have hne:curvesGo e K p q T sw (if x::r=[] then q else pointF e K w p T) (w::x::r)≠[]:=by rw[cg2];simp
  have hs:(curvesGo e K p q T sw (if x::r=[] then q else pointF e K w p T) (w::x::r)).getLast?=some cv:=by
   rcases List.getLast?_isSome.mpr hne |> Option.isSome_iff_exists.mp with⟨y,hy⟩
   rw[hy] at h ⊢
   simpa using h
  exact curves_last _ _ _ hs
theorem curves_chain{e:El}{K:Pr}{p q:Pt}{T:Int}{sw:Bool}:∀(l:List Pr) (here:Pt) (i:Nat) (cv cw:Cv),(curvesGo e K p q T sw here l)[i]?=some cv→(curvesGo e K p q T sw here l)[i+1]?=some cw→cv.2.2.2=cw.1
 |[],here,i,cv,cw,h,_=>by simp[cg0,cg1] at h
 |[_],here,i,cv,cw,h,_=>by simp[cg0,cg1] at h
 |v::w::r,here,i,cv,cw,h,k=>by
  rw[cg2] at h k
  simp only[List.getElem?_cons_succ] at k
  induction i using Nat.casesOn with
  |zero=>
   simp only[List.getElem?_cons_zero,Option.some.injEq] at h
   rw[←h,curves_first _ _ _ k]
  |succ i=>
   simp only[List.getElem?_cons_succ] at h
   exact curves_chain _ _ _ _ _ h k
theorem curves_all{e:El}{K:Pr}{p q:Pt}{T:Int}{sw:Bool}{P:Pt→Prop}(hq:P q):∀(l:List Pr) (here:Pt),P here→(∀v∈l,P (pointF e K v p T))→
  (∀v∈l,∀w∈l,P (pointF e K (pieceF v w sw).1 p T)∧P (pointF e K (pieceF v w sw).2 p T))→∀cv∈curvesGo e K p q T sw here l,P cv.1∧P cv.2.1∧P cv.2.2.1∧P cv.2.2.2
 |[],here,_,_,_,cv,h=>by simp[cg0,cg1] at h
 |[_],here,_,_,_,cv,h=>by simp[cg0,cg1] at h
 |v::w::r,here,h0,h1,h2,cv,h=>by
  rw[cg2] at h
  have ht:P (if r=[] then q else pointF e K w p T):=by split;exact hq;exact h1 w (by simp)
  rcases List.mem_cons.mp h with rfl |h
  ·have:=h2 v (by simp) w (by simp)
   exact⟨h0,this.1,this.2,ht⟩
  ·exact curves_all hq (w::r) _ ht (fun x hx=>h1 x (List.mem_cons_of_mem _ hx)) (fun x hx y hy=>h2 x (List.mem_cons_of_mem _ hx) y (List.mem_cons_of_mem _ hy)) cv h
noncomputable def PrB(n:Nat)(v:Pr):Prop:=intBits v.1≤n∧intBits v.2≤n
theorem vecGo_bits{w:Pr}{sw:Bool}{n:Nat}:∀(k:Nat) (v:Pr),PrB n v→∀x∈vecGo k v w sw,PrB n x
 | 0,v,h,x,hx=>by
  simp only[vecGo,List.mem_singleton] at hx
  exact hx▸h
 |k+1,v,h,x,hx=>by
  unfold vecGo at hx
  split at hx
  ·simp only[List.mem_singleton] at hx
   exact hx▸h
  ·rcases List.mem_cons.mp hx with e |hx
   ·exact e▸h
   ·exact vecGo_bits k (quarterOn v sw) (quarter_bits h.1 h.2) x hx
theorem vectors_bits{v w:Pr}{sw:Bool}{n:Nat}(hv:PrB n v)(hw:PrB n w):∀x∈vectorsF v w sw,PrB n x:=fun x hx=>by
 unfold vectorsF at hx
 rcases List.mem_append.mp hx with h |h
 ·exact vecGo_bits 3 v hv x h
 ·rw[List.mem_singleton.mp h];exact hw
theorem frac_bits{t b:Int}{n k:Nat}(ht:intBits t≤n)(hb:intBits b≤k):PrB (max n k) (frac t b):=
 ⟨Nat.le_trans (bits_fdiv ht) (Nat.le_max_left ..),Nat.le_trans (bits_fdiv hb) (Nat.le_max_right ..)⟩
theorem plus_bits{a b:Pr}{n0 n1 k0 k1:Nat}(h0:intBits a.1≤n0)(h1:intBits a.2≤n1)(h2:intBits b.1≤k0)(h3:intBits b.2≤k1):intBits (plusF a b).1≤max (n0+k1) (k0+n1)+1∧intBits (plusF a b).2≤n1+k1:=
 ⟨bits_fdiv (bits_add (bits_mul h0 h3) (bits_mul h2 h1)),bits_fdiv (bits_mul h1 h3)⟩
theorem minus_bits{a b:Pr}{n0 n1 k0 k1:Nat}(h0:intBits a.1≤n0)(h1:intBits a.2≤n1)(h2:intBits b.1≤k0)(h3:intBits b.2≤k1):intBits (minusF a b).1≤max (n0+k1) (k0+n1)+1∧intBits (minusF a b).2≤n1+k1:=
 ⟨bits_fdiv (bits_sub (bits_mul h0 h3) (bits_mul h2 h1)),bits_fdiv (bits_mul h1 h3)⟩
theorem times_bits{a b:Pr}{n0 n1 k0 k1:Nat}(h0:intBits a.1≤n0)(h1:intBits a.2≤n1)(h2:intBits b.1≤k0)(h3:intBits b.2≤k1):intBits (timesF a b).1≤n0+k0∧intBits (timesF a b).2≤n1+k1:=
 ⟨bits_fdiv (bits_mul h0 h2),bits_fdiv (bits_mul h1 h3)⟩
theorem point_bits{A B C S K0 K1 T:Int}{v:Pr}{p:Pt}(hA:intBits A≤400)(hB:intBits B≤400)(hC:intBits C≤200)(hS:intBits S≤200)(hK0:intBits K0≤95)(hK1:intBits K1≤95)(hv:PrB 500 v)(hT:intBits T≤100)(h0:PrB 300 p.1)(h1:PrB 300 p.2):
  PrB 2500 (pointF ⟨A,B,C,S⟩ (K0,K1) v p T).1∧PrB 2500 (pointF ⟨A,B,C,S⟩ (K0,K1) v p T).2:=by
 obtain⟨l1,l2⟩:=led_bits (a0:=K0+v.1) (a1:=K1+v.2) hA hB hC hS (Nat.le_trans (bits_add hK0 hv.1) (by decide)) (Nat.le_trans (bits_add hK1 hv.2) (by decide))
 have hM:intBits MANY≤41:=by decide +kernel
 have r1:=frac_bits (bits_rounded l1 hM) hT
 have r2:=frac_bits (bits_rounded l2 hM) hT
 have q1:=plus_bits h0.1 h0.2 r1.1 r1.2
 have q2:=plus_bits h1.1 h1.2 r2.1 r2.2
 exact⟨⟨Nat.le_trans q1.1 (by decide),Nat.le_trans q1.2 (by decide)⟩,⟨Nat.le_trans q2.1 (by decide),Nat.le_trans q2.2 (by decide)⟩⟩
theorem point_pos{e:El}{K v:Pr}{p:Pt}{T:Int}(hT:0<T)(h0:0<p.1.2)(h1:0<p.2.2):0<(pointF e K v p T).1.2∧0<(pointF e K v p T).2.2:=
 ⟨(val_plus h0 (val_frac hT).2).2,(val_plus h1 (val_frac hT).2).2⟩
theorem bits_bd{z:Int}{r:Rat}{n:Nat}(h:Bd ((z:Rat)/1152921504606846976) r)(hr:r*1152921504606846976<((2^n:Int):Rat)):intBits z≤n:=by
 obtain⟨h1,h2⟩:=h
 rw[intBits_le_iff]
 have a1:z<2^n:=Rat.intCast_lt_intCast.mp (by exact li 0x3a3f1c1908fc707423f1c0443e120e3e12e3 hr h2)
 have a2: -(2^n)<z:=Rat.intCast_lt_intCast.mp (by
  rw[Rat.intCast_neg]
  exact li 0x4053a3f1c1a3f1c1d08fc70110f8483c53a12e3 hr h1)
 have e:((2^n:Nat):Int)=2^n:=by push_cast;rfl
 omega
theorem bits_lt{z:Int}{n:Nat}(h0:0≤z)(h:z<((2^n:Nat):Int)):intBits z≤n:=by
 rw[intBits_le_iff];omega
noncomputable def G19:Gam:=("_law_led",.p F_lled)::G18
theorem G19.ok{w:World}:GamOk w G19 25:=(G18.ok).cons (F:= .p F_lled) (d':=25) (by decide) (by decide) rfl (by w_on) ok_lled
noncomputable def F_arcR1:PF:=aF G19 [] zipB f417 40
theorem ok_arcR1{w:World}:FnOk w 417 26 F_arcR1:=aF.ok (by decide) G19.ok MthOk.nil (by w_on) (by w_on) (by w_on) rfl (by with_unfolding_all decide) (BndOk.zip (len7 fun o1_ o2_ o3_ o4_ o5_ o6_ o7_=>rfl))
theorem cnd_t{b:Bool}{p q:Prop}(h:b=true)(k:p):cond b p q:=by subst h;exact k
theorem ex_eq{α:Type}{a:α}{p:α→Prop}(h:∀x,x=a→p x):∃x,x=a∧p x:=⟨a,rfl,h a rfl⟩
theorem ne_f{p q:Pt}(h:p=q):(!(p.1.1==q.1.1&&p.1.2==q.1.2&&(p.2.1==q.2.1&&p.2.2==q.2.2)))=false:=by
 subst h
 simp
theorem mem_g{m l:List Int}{n n':Int}(e:m=l)(h:n∈m)(hn:n=n'):(!(l.any fun x=>x==n'))=false:=by
 subst e hn
 rw[Bool.not_eq_false',List.any_eq_true]
 exact⟨n,h,by simp⟩
theorem Lp.all{T:WT}{S:WS}{names:Nms}{κ:Kap}{tgt:PySem.Expr}{tr:Nat}{b:List Stmt}{N:Nat}{Kx:XK}{Kr:V→Sto→Prop}{σ:Sto}{P:V→Prop}{I:List (Str×V)→Prop}
  (ht:∀ρ a (Kn:XK),I ρ→P a→(∀ρ2 σ2 ρ3,clS N σ2=some σ→cleanR N σ2 ρ2=some ρ3→I ρ3→Kn ρ2 σ2)→wTg names κ tr a ρ σ (fun ρ1 σ1=>wBody T S names κ ρ1 σ1 Kn Kx Kr b) tgt)
  (hx:∀ρ,I ρ→Kx ρ σ){as:List V}:∀{ρ:List (Str×V)},(∀a∈as,P a)→I ρ→Lp T S names κ tgt tr b N Kx Kr as ρ σ:=by
 induction as with
 |nil=>exact fun o1_ hI=>⟨hx _ hI⟩
 |cons a r ih=>
  refine fun{ρ} hl hI=>⟨ht ρ a _ hI (hl a (.head _)) fun ρ2 σ2 ρ3 e1 e2 i3=>?_⟩
  rw[e1]
  show optK _ (cleanR N σ2 ρ2)
  rw[e2]
  exact(ih (fun b hb=>hl b (.tail _ hb)) i3).go
noncomputable def forT:Stmt→PySem.Expr
 |.For t _ _ _ _=>t
 |_=> .Name "" pos0
noncomputable def forB:Stmt→List Stmt
 |.For _ _ b _ _=>b
 |_=>[]
noncomputable abbrev for17:Stmt:=((fdB f417).drop 6).headD (.Pass pos0)
noncomputable abbrev k17:Kap:=atA (0+ ·) (cellsFrom 0 (fdS f417).names [])
noncomputable abbrev S17:WS:=fS (wS G19 [] (fdS f417).names k17 33)
noncomputable abbrev r17(d:Int)(V0 W0:Pt)(sw large:Bool)(Q P:Pt)(tv:List V)(sn:Int)(l:Option Nat)(v2 v1:Pr)(t:List (Str×V)):List (Str×V):=
 ("turn",.tup [.int d none none,.int 1 none none])::("one",ptV 202 V0)::("other",ptV 202 W0)::("is_sweep",.bool sw)::("is_large",.bool large)::("q",ptV 300 Q)::("p",ptV 300 P)::("told",.lst tv) ::
  ("sense",.int sn (some 1) l)::("end",qV 3000 v2)::("begin",qV 3000 v1)::t
noncomputable abbrev s17(R Ce:Pt)(g:List V):Sto:=[.cell (some (rtV 40 R)),.cell (some (ptV 40 Ce)),.frz [],.frz [],.frz [],.frz g,.frz [],.frz []]
noncomputable abbrev t17(c:Cv)(w:List V):List (Str×V):=[("curve",cvV c),("places",.lst w)]
theorem turn17{d:Int}{V0 W0 Q P R Ce:Pt}{sw large:Bool}{tv g:List V}{sn:Int}{l:Option Nat}{v2 v1:Pr}{t:List (Str×V)}{c:Cv}{Kn Kx:XK}{Kr:V→Sto→Prop}(z1:0<R.1.1)(z2:0<R.2.1)(hc:CvOk R Ce sn c)(ht:t=[]∨∃c' w,t=t17 c' w)
  (hk:∀ρ2 σ2 w,clS 8 σ2=some (s17 R Ce g)→cleanR 8 σ2 ρ2=some (r17 d V0 W0 sw large Q P tv sn l v2 v1 (t17 c w))→Kn ρ2 σ2):
  wTg (fdS f417).names k17 0 (cvV c) (r17 d V0 W0 sw large Q P tv sn l v2 v1 t) (s17 R Ce g) (fun ρ1 σ1=>wBody (wp G19 [] 33).2 S17 (fdS f417).names k17 ρ1 σ1 Kn Kx Kr (forB for17)) (forT for17):=by
 rcases ht with e |⟨c',w,e⟩
 all_goals
  subst e
  refine⟨⟨z1,z2⟩,_,rfl,⟨z1,z2⟩,_,rfl,⟨z1,z2⟩,_,rfl,⟨z1,z2⟩,_,rfl,hc.circ,br_f rfl ⟨hc.beg,br_f rfl (br_f rfl ⟨hc.fin,br_f rfl ?_⟩)⟩⟩
  exact hk _ _ _ rfl rfl
theorem loop17{d:Int}{V0 W0 Q P R Ce:Pt}{sw large:Bool}{g:List V}{sn:Int}{l:Option Nat}{v2 v1:Pr}{X:List Cv}{Kn:XK}{K:V→Prop}(z1:0<R.1.1)(z2:0<R.2.1)(hok:∀(i:Nat) (cv:Cv),X[i]?=some cv→CvOk R Ce sn cv)(hG:K (.bool true)):
  Lp (wp G19 [] 33).2 S17 (fdS f417).names k17 (forT for17) 0 (forB for17) 8 (fun ρ' σ'=>S17 ρ' σ' ((fdB f417).drop 7) Kn (fin K)) (fin K) (X.map cvV) (r17 d V0 W0 sw large Q P (X.map cvV) sn l v2 v1 []) (s17 R Ce g):=by
 refine Lp.all (P:=fun a=>∃c,a=cvV c∧CvOk R Ce sn c) (I:=fun ρ=>∃t,(t=[]∨∃c' w,t=t17 c' w)∧ρ=r17 d V0 W0 sw large Q P (X.map cvV) sn l v2 v1 t) (fun ρ a Kn hI hP hk=>?_) (fun ρ hI=>?_) (fun a ha=>?_) ⟨_,.inl rfl,rfl⟩
 ·obtain⟨t,ht,e⟩:=hI
  obtain⟨c,e',hc⟩:=hP
  subst e e'
  exact turn17 z1 z2 hc ht fun ρ2 σ2 w e1 e2=>hk _ _ _ e1 e2 ⟨_,.inr ⟨_,_,rfl⟩,rfl⟩
 ·obtain⟨t,ht,e⟩:=hI
  subst e
  rcases ht with e |⟨c',w,e⟩
  all_goals
   subst e
   exact hG
 ·obtain⟨c,hc,e⟩:=List.mem_map.mp ha
  obtain⟨i,hi,h2⟩:=List.getElem_of_mem hc
  exact⟨c,e.symm,hok i c (by rw[List.getElem?_eq_getElem hi,h2])⟩
theorem fo.mk{n:Nat}{k:Nat→Prop}(h:k n):fo n k:=by
 induction n using Nat.casesOn with
 |zero=>exact h
 |succ n=>exact h
theorem fV.mk(a:V)(k:V→Prop)(h:k a):fV a k:=by
 induction a using V.casesOn with
 |ref j=>exact fo.mk (k:=fun j=>k (.ref j)) h
 |_=>exact h
theorem fL.mk{α:Type}{f:α→(α→Prop)→Prop}(hf:∀a k,k a→f a k){l:List α}:∀{k:List α→Prop},k l→fL f l k:=by
 induction l with
 |nil=>exact fun h=>h
 |cons a r ih=>exact fun h=>hf _ _ (ih h)
theorem fA.mk(o:AO)(k:AO→Prop)(h:k o):fA o k:=by
 induction o using AO.casesOn with
 |lst vs=>exact fL.mk fV.mk (k:=fun t=>k (.lst t)) h
 |cell v=>induction v using Option.casesOn with
  |none=>exact h
  |some a=>exact fV.mk a (fun b=>k (.cell (some b))) h
 |ns bs=>exact fL.mk (fun p k h=>fV.mk p.2 (fun b=>k (p.1,b)) h) (k:=fun t=>k (.ns t)) h
 |cst a=>exact fV.mk a (fun b=>k (.cst b)) h
 |_=>exact h
theorem nilS{Γ:Gam}{Μ:List (Str×PF)}{names:Nms}{κ:Kap}{n:Nat}{ρ:List (Str×V)}{σ:Sto}{Kn:XK}{Kr:V→Sto→Prop}(h:Kn ρ σ):fS (wS Γ Μ names κ (n+1)) ρ σ [] Kn Kr:=
 fL.mk (fun p k h=>fV.mk p.2 (fun b=>k (p.1,b)) h) (k:=fun ρ'=>fL fA σ fun σ'=>wS Γ Μ names κ (n+1) ρ' σ' [] Kn Kr) (fL.mk fA.mk (k:=fun σ'=>wS Γ Μ names κ (n+1) ρ σ' [] Kn Kr) h)
theorem map_le{X:List Cv}(h:X.length≤4):Nat.ble (X.map cvV).length 1000=true:=Nat.ble_eq_true_of_le (by rw[List.length_map];omega)
theorem tail17{d:Int}{V0 W0 Q P R Ce:Pt}{sw large:Bool}{g:List V}{X:List Cv}{Kn:XK}{K:V→Prop}(z1:0<R.1.1)(z2:0<R.2.1)(hO:ToldOk R Ce P Q (if sw then 1 else -1) large X)(hG:K (.bool true)):
  fS (wS G19 [] (fdS f417).names k17 36) [("turn",.tup [.int d none none,.int 1 none none]),("one",ptV 202 V0),("other",ptV 202 W0),("is_sweep",.bool sw),("is_large",.bool large),("q",ptV 300 Q),("p",ptV 300 P),("told",.lst (X.map cvV))] (s17 R Ce g) ((fdB f417).drop 4) Kn (fin K):=by
 have hm:=hO.many
 have hn:(X.length:Int)=((X.map cvV).length:Int):=by rw[List.length_map]
 have ok:=hO.ok
 have le:=map_le hO.len
 clear hO
 cases sw
 ·exact⟨⟨z1,z2⟩,_,rfl,⟨z1,z2⟩,_,rfl,br_f rfl (cnd_t le ⟨fun r0 r1 em=>br_f (mem_g em hm hn) (loop17 z1 z2 ok hG),fun r em=>br_f (mem_g em hm hn) (loop17 z1 z2 ok hG)⟩)⟩
 ·exact⟨⟨z1,z2⟩,_,rfl,⟨z1,z2⟩,_,rfl,br_t rfl (cnd_t le ⟨fun r0 r1 em=>br_f (mem_g em hm hn) (loop17 z1 z2 ok hG),fun r em=>br_f (mem_g em hm hn) (loop17 z1 z2 ok hG)⟩)⟩
theorem Lc.none{E:XE}{T:XT}{elt:PySem.Expr}{ifs:List PySem.Expr}{nw:V→Option AO}{N:Nat}{K:List V→Sto→Prop}{σ:Sto}{as:List V}(hK:K [] σ)(h:∀a∈as,∃o,nw a=some o∧∀(Ky:V→Sto→Prop) (Kn:Sto→Prop),(∀σ1,clS N σ1=some σ→Kn σ1)→wTst E T elt (σ++[o]) Ky Kn ifs):Lc E T elt ifs nw N K as σ:=by
 refine⟨?_⟩
 induction as with
 |nil=>exact hK
 |cons a r ih=>
  obtain⟨o,e,ht⟩:=h a (.head _)
  show optK _ (nw a)
  rw[e]
  refine ht _ _ fun σ1 e1=>?_
  show optK _ (clS N σ1)
  rw[e1]
  exact ih fun b hb=>h b (.tail _ hb)
theorem zip_mem{a:V}:∀{X Y:List Cv},a∈zip2V (X.map cvV) (Y.map cvV)→∃(i:Nat) (c d:Cv),X[i]?=some c∧Y[i]?=some d∧a= .tup [cvV c,cvV d]:=by
 intro X
 induction X with
 |nil=>exact fun h=>absurd h List.not_mem_nil
 |cons c X ih=>
  intro Y
  induction Y using List.casesOn with
  |nil=>exact fun h=>absurd h List.not_mem_nil
  |cons d Y=>
   exact fun h=>(List.mem_cons.mp h).elim (fun e=>⟨0,c,d,rfl,rfl,e⟩) fun h=>(ih h).elim fun i q=>⟨i+1,q⟩
theorem zip_len:∀(as bs:List V),(zip2V as bs).length≤as.length
 |[],_=>Nat.le_refl _
 |_::_,[]=>Nat.zero_le _
 |_::as,_::bs=>Nat.succ_le_succ (zip_len as bs)
theorem zip_mem2{a:V}{X:List Cv}(h:a∈zip2V (X.map cvV) ((X.map cvV).drop 1)):∃(i:Nat) (c d:Cv),X[i]?=some c∧X[i+1]?=some d∧a= .tup [cvV c,cvV d]:=by
 rw[←List.map_drop] at h
 obtain⟨i,c,d,h1,h2,e⟩:=zip_mem h
 rw[List.getElem?_drop,Nat.add_comm] at h2
 exact⟨i,c,d,h1,h2,e⟩
theorem IxN.of{vs:List V}{u:V}{k:V→Prop}(h:vs[vs.length-1]?=some u)(hk:k u):IxN vs (.negSucc 0) k:=by
 have h0:Nat.ble (0+1) vs.length=true:=by
  induction vs using List.casesOn with
  |nil=>cases h
  |cons o1_ o2_=>rfl
 have e:nth vs (.negSucc 0)=some u:=by
  show(bif Nat.ble 0 999&&Nat.ble (0+1) vs.length then vs[vs.length-(0+1)]? else none)=some u
  rw[h0]
  exact h
 exact⟨by rw[e];exact hk⟩
structure ArcD(R Ce V0 W0:Pt)(d:Int)(sw large:Bool):Prop where
 r:(PrB 40 R.1∧PrB 40 R.2)∧(0<R.1.1∧0<R.2.1)∧0<R.1.2∧0<R.2.2
 c:(PrB 40 Ce.1∧PrB 40 Ce.2)∧0<Ce.1.2∧0<Ce.2.2
 v:(PrB 202 V0.1∧PrB 202 V0.2)∧0<V0.1.2∧0<V0.2.2
 w:(PrB 202 W0.1∧PrB 202 W0.2)∧0<W0.1.2∧0<W0.2.2
 all:∃x:AQ,turnT d=some x.T∧ArcQ (ledL V0 R Ce) R.1 R.2 large sw (ledL W0 R Ce) x∧ToldOk R Ce (ledL V0 R Ce) (ledL W0 R Ce) (if sw then 1 else -1) large (arcC (ledL V0 R Ce) sw (ledL W0 R Ce) x)
noncomputable def ptK(k:Pt→Prop):V→Prop
 |.tup [u,v]=>asP (fun a o1_ o2_ b o3_ o4_=>asP (fun c o1_ o2_ d o3_ o4_=>k ((a,b),(c,d))) v) u
 |_=>False
set_option genInjectivity false in
set_option genSizeOfSpec false in
inductive PtKD(k:Pt→Prop)(v:V):Prop where
 |mk (t:Pt) (i:∀n,(PrB n t.1∧PrB n t.2)∧0<t.1.2∧0<t.2.2→Imp v (ptV n t)) (h:k t)
theorem ptK.kw{k:Pt→Prop}{v:V}(h:ptK k v)(hk:Kw v):PtKD k v:=by
 induction v using V.casesOn with
 |tup vs=>induction vs using List.casesOn with
  |nil=>exact h.elim
  |cons u r=>induction r using List.casesOn with
   |nil=>exact h.elim
   |cons v r=>induction r using List.casesOn with
    |cons o1_ o2_=>exact h.elim
    |nil=>
     have hk:=hk.tup
     obtain⟨a,o1_,o2_,b,o3_,o4_,e0,k1,k2,g_1⟩:=asP.kw (k:=fun a o1_ o2_ b o3_ o4_=>asP (fun c o1_ o2_ d o3_ o4_=>k ((a,b),(c,d))) v) h hk.cons.1
     subst e0
     obtain⟨c,o1_,o2_,d,o3_,o4_,e0,k3,k4,g_2⟩:=asP.kw g_1 hk.cons.2.cons.1
     subst e0
     exact⟨((a,b),(c,d)),fun n q=> .tup (.cons (.pr (.b1 q.1.1.1) (.bn q.1.1.2 q.2.1)) (.cons (.pr (.b1 q.1.2.1) (.bn q.1.2.2 q.2.2)) .nil)),g_2⟩
 |_=>exact h.elim
noncomputable def Q17(R Ce:Pt)(d e:Int)(V0 W0:Pt)(sw large:Bool)(p:Prop):Prop:=(e=1∧ArcD R Ce V0 W0 d sw large)∧p
noncomputable def F_arcD:PF:=fun as K=>w7 (fun r c t o h s l=>ptK (fun R=>ptK (fun Ce=>asP (fun d o1_ o2_ e o3_ o4_=>ptK (fun V0=>ptK (fun W0=>asB (fun sw=>asB (fun large=>Q17 R Ce d e V0 W0 sw large (K (.bool true))) l) s) h) o) t) c) r) as
theorem walk17{K:V→Prop}{R Ce:Pt}{d e:Int}{V0 W0:Pt}{sw large:Bool}(he:e=1)(hA:ArcD R Ce V0 W0 d sw large)(hG:K (.bool true)):
  F_arcR1 [rtV 40 R,ptV 40 Ce,.tup [.int d none none,.int e none none],ptV 202 V0,ptV 202 W0,.bool sw,.bool large] K:=by
 subst he
 have z1:=hA.r.2.1.1
 have z2:=hA.r.2.1.2
 obtain⟨x,hT,hQ,hO⟩:=hA.all
 clear hA
 refine⟨_,rfl,_,rfl,x,⟨hT,rfl⟩,hQ,(?_:∀X,ToldOk R Ce (ledL V0 R Ce) (ledL W0 R Ce) (if sw then 1 else -1) large X→tkK X _) _ hO⟩
 clear hT hQ hO
 intro X hO
 have le:=map_le hO.len
 obtain⟨cl,hl⟩:∃cl,X[X.length-1]?=some cl:=⟨_,List.getElem?_eq_getElem (Nat.sub_lt hO.ne Nat.one_pos)⟩
 have hv:(X.map cvV)[(X.map cvV).length-1]?=some (cvV cl):=by rw[List.length_map,List.getElem?_map,hl];rfl
 have e2:=hO.last cl hl
 clear hl
 induction X using List.casesOn with
 |nil=>exact absurd hO.ne (by decide)
 |cons c1 r=>
  have e1:=hO.first c1 rfl
  refine br_f rfl (br_f (ne_f e1) (.of hv (br_f (ne_f e2) ?_)))
  refine cnd_t le (Lc.none ?_ fun a ha=>?_)
  ·refine br_f rfl (br_f rfl ?_)
   refine cnd_t le (cnd_t ?_ (Lc.none ?_ fun a ha=>?_))
   ·exact Nat.ble_eq_true_of_le (Nat.le_trans (zip_len _ _) (Nat.le_of_ble_eq_true le))
   ·exact br_f rfl (nilS (tail17 z1 z2 hO hG))
   ·exact(zip_mem2 ha).elim fun i q=>q.elim fun c q=>q.elim fun d q=>q.2.2▸⟨_,rfl,fun Ky Kn hk=>br_f (ne_f (hO.chain i c d q.1 q.2.1)) (hk _ rfl)⟩
  ·exact(List.mem_map.mp ha).elim fun c q=>q.2▸⟨_,rfl,fun Ky Kn hk=>br_f rfl (hk _ rfl)⟩
theorem ok_arcD{w:World}:FnOk w 417 26 F_arcD:=FnOk.of ok_arcR1 fun as K hk hF=>by
 refine byC fun C9 k9=>?_
 obtain⟨r,ce,t,o,h,s,l,e0,g1⟩:=w7.ok hF
 subst e0
 obtain⟨R,i1,g2⟩:=ptK.kw g1 hk.cons.1
 obtain⟨Ce,i2,g3⟩:=ptK.kw g2 hk.cons.2.cons.1
 obtain⟨d,o1_,o2_,e,o3_,o4_,e0,o5_,o6_,g4⟩:=asP.kw g3 hk.cons.2.cons.2.cons.1
 obtain⟨V0,i4,g5⟩:=ptK.kw g4 hk.cons.2.cons.2.cons.2.cons.1
 obtain⟨W0,i5,g6⟩:=ptK.kw g5 hk.cons.2.cons.2.cons.2.cons.2.cons.1
 clear hk hF g1 g2 g3 g4 g5
 subst e0
 obtain⟨sw,e0,g7⟩:=asB.e g6
 obtain⟨large,e1,⟨he,hA⟩,hG⟩:=asB.e g7
 clear g6 g7
 subst e0 e1
 have B:=hA.r
 refine k9 ?_
 exact⟨_,.cons ((i1 40 ⟨B.1,B.2.2⟩).trans (.rt B.2.1.1 B.2.1.2)) (.cons (i2 40 hA.c) (.cons (Imp.pr .no .no) (.cons (i4 202 hA.v) (.cons (i5 202 hA.w) (.cons Imp.refl (.cons Imp.refl .nil)))))),walk17 he hA ⟨_,Imp.refl,hG⟩⟩
theorem SnOk.of{w:World}{f:Addr}{d:Nat}{F G:SF}(h:SnOk w f d G)(k:∀ss as K,Kws ss→Kws as→F ss as K→∃ss' as',(Imps ss ss'∧Imps as as')∧G ss' as' fun r vs=>∃r' vs',(Imp r r'∧Imps vs vs')∧K r' vs'):SnOk w f d F:=fun ss as K hF news fz a O ws vs hm lo hs ff sf hr=>
 (k ss as K ⟨w,fz,ws,hs⟩ ⟨w,fz,vs,hr⟩ hF).elim fun ss' q=>q.elim fun as' q=>by
  exact fun B F' X N T G9 Hk Hd Hu hret=>h ss' as' _ q.2 news fz a O ws vs hm lo (q.1.1.ok hs) ff sf (q.1.2.ok hr) B F' X N T G9 Hk Hd Hu fun v l' h' tk' p a b=>
   hret v l' h' tk' (p.elim fun r p=>p.elim fun us p=>p.elim fun fz' p=>p.elim fun O' p=>p.elim fun ws' p=>p.k.elim fun r' z=>z.elim fun us' z=>⟨r',us',fz',O',ws',⟨z.2,z.1.1 _ _ _ p.hr,p.hm,p.lo,z.1.2.ok p.hv,p.st,p.sf,p.fa,p.x⟩⟩) a b
theorem NnOk.of{w:World}{f:Addr}{d:Nat}{F G:NF}(h:NnOk w f d G)(k:∀as K,Kws as→F as K→∃as',Imps as as'∧G as' fun vs=>∃vs',Imps vs vs'∧K vs'):NnOk w f d F:=fun as K hF news fz vs hs hr=>
 (k as K ⟨w,fz,vs,hr⟩ hF).elim fun as' q=>by
  exact fun B F' X N T G9 Hk Hd Hu hret=>h as' _ q.2 news fz vs hs (q.1.ok hr) B F' X N T G9 Hk Hd Hu fun v l' h' tk' p a b=>
   hret v l' h' tk' (p.elim fun us p=>p.elim fun fz' p=>p.elim fun a p=>p.elim fun O p=>p.elim fun ws' p=>p.k.elim fun us' z=>⟨us',fz',a,O,ws',⟨z.2,p.e,p.hm,p.lo,z.1.ok p.hv,p.st,p.sf,p.fa,p.fb,p.x⟩⟩) a b
noncomputable def pool2(k:Prop):List V→Prop
 |[a,b]=>asI (fun o1_ o2_ o3_=>asI (fun o1_ bb o2_=>cond (leB bb 31) k False) b) a
 |_=>False
noncomputable abbrev plV(a b:Int):List V:=[.int a none none,.int b (some 31) none]
theorem pool2.kw{k:Prop}{ss:List V}(h:pool2 k ss)(hk:Kws ss):∃a b,Imps ss (plV a b)∧k:=by
 induction ss using List.casesOn with
 |nil=>exact h.elim
 |cons u r=>induction r using List.casesOn with
  |nil=>exact h.elim
  |cons v r=>induction r using List.casesOn with
   |cons o1_ o2_=>exact h.elim
   |nil=>
    obtain⟨a,o1_,o2_,rfl,k1,hz1⟩:=asI.kw (k:=fun o1_ o2_ o3_=>asI (fun o1_ bb o2_=>cond (leB bb 31) k False) v) h hk.cons.1
    obtain⟨b,o1_,o2_,rfl,k2,h⟩:=asI.kw hz1 hk.cons.2.cons.1
    obtain⟨z,hz2⟩:=cond_t h
    exact⟨a,b,.cons (.int .no) (.cons (.int (.b1 (leB.ok z k2))) .nil),hz2⟩
noncomputable def F_take:SF:=fun ss as K=>pool2 (w1 (asI fun n bn ln=>cond (leB bn 31&&isP ln) (∀v a' b':Int,0≤v∧v<n→K (.int v bn (some 0)) (plV a' b')) False) as) ss
theorem ok_take{w:World}:SnOk w 348 12 F_take:=SnOk.of ok_law_take fun ss as K hs hk hF=>by
 refine byC fun C9 k9=>?_
 obtain⟨a,b,i1,g⟩:=pool2.kw hF hs
 obtain⟨u,e0,gz3⟩:=w1.ok g
 subst e0
 obtain⟨n,bn,ln,e0,kn,g⟩:=asI.kw gz3 hk.cons.1
 subst e0
 obtain⟨z,hG⟩:=cond_t g
 have z':=and_t z
 have n0:=isP.ok z'.2 kn
 refine k9 ?_
 refine⟨_,_,⟨i1,.cons (.int (.bn (y:=1) (leB.ok z'.1 kn) n0)) .nil⟩,?_⟩
 have fin:∀{x:Int} {b' l':Option Nat},Imp (.int (x.fmod n) b' l') (.int (x.fmod n) bn (some 0)):=fun{x}=> .int (.bl (fun y e=>bits_fmod_by (Int.ne_of_gt n0) (kn.b y e)) fun y e=>by cases e;exact Int.fmod_nonneg_of_pos _ n0)
 refine br_both (fun h=>?_) (fun h=>?_)
 ·exact⟨_,_,⟨fin,.cons (.int .no) (.cons Imp.refl .nil)⟩,hG _ _ _ ⟨Int.fmod_nonneg_of_pos _ n0,Int.fmod_lt_of_pos _ n0⟩⟩
 ·exact⟨_,_,⟨fin,.cons (.int .no) (.cons (.w rfl) .nil)⟩,hG _ _ _ ⟨Int.fmod_nonneg_of_pos _ n0,Int.fmod_lt_of_pos _ n0⟩⟩
noncomputable def G20:Gam:=("_law_take",.s F_take)::G19
theorem G20.ok{w:World}:GamOk w G20 26:=(G19.ok).cons (F:= .s F_take) (d':=26) (by decide) (by decide) rfl (by w_on) ok_take
noncomputable def F_one0:SF:=aS G20 [] zipB f355 30
theorem ok_one0{w:World}:SnOk w 355 27 F_one0:=aS.ok (by decide) G20.ok MthOk.nil (by w_on) (by w_on) (by w_on) rfl (by with_unfolding_all decide) (BndOk.zip (len2 fun o1_ o2_=>rfl))
noncomputable def oneK(K:V→List V→Prop):List V→Prop
 |[u,v]=>asP (fun a ba o1_ b bb lb=>asP (fun c bc o1_ d bd ld=>cond ((leB ba 80&&(leB bb 80&&isP lb))&&(leB bc 80&&(leB bd 80&&isP ld))) (∀(r:Pr) (a' b':Int),r=(a,b)∨r=(c,d)→K (prV 80 r) (plV a' b')) False) v) u
 |[u,v,x,y]=>asI (fun i o1_ o2_=>asI (fun j o1_ o2_=>asI (fun k o1_ o2_=>asI (fun l o1_ o2_=>∀(r a' b':Int),(r=i∨r=j)∨r=k∨r=l→K (.int r none none) (plV a' b')) y) x) v) u
 |_=>False
noncomputable def F_one:SF:=fun ss as K=>pool2 (w1 (fun v=>match v with
 |.lst vs=>oneK K vs
 |_=>False) as) ss
theorem two_of{v:Int}(h:0≤v∧v<2):v=0∨v=1:=(Int.lt_or_le v 1).elim (fun k=> .inl (by exact Int.le_antisymm (lI 0x3a106120e0612a1 k) (lI 0x13a11c13a12a1 h.1))) fun k=> .inr (by exact Int.le_antisymm (lI 0xe8818483a10612a1 h.2) (lI 0x2104e8478413a12a1 k))
theorem four_of{v:Int}(h:0≤v∧v<4):(v=0∨v=1)∨v=2∨v=3:=(Int.lt_or_le v 2).elim (fun k=> .inl (two_of ⟨h.1,k⟩)) fun k=> .inr ((Int.lt_or_le v 3).elim (fun k=> .inl (by omega)) fun k=> .inr (by exact Int.le_antisymm (lI 0xe9018483a30612a1 h.2) (lI 0x2304e8478c13a12a1 k)))
theorem Imp.prv{n:Nat}{a b:Int}{b1 b2 l1 l2:Option Nat}(h1:In a b1 l1)(h2:In b b2 l2)(z1:leB b1 n=true)(z2:leB b2 n=true)(z3:isP l2=true):Imp (.tup [.int a b1 l1,.int b b2 l2]) (prV n (a,b)):= .pr (.b1 (leB.ok z1 h1)) (.bn (leB.ok z2 h2) (isP.ok z3 h2))
theorem ok_one{w:World}:SnOk w 355 27 F_one:=SnOk.of ok_one0 fun ss as K hs hk hF=>by
 obtain⟨a,b,i1,g_1⟩:=pool2.kw hF hs
 obtain⟨u,e0,g_2⟩:=w1.ok g_1
 subst e0
 cases u with
 |lst vs=>
  have gg:oneK K vs:=g_2
  have hv:=hk.cons.1.lst
  induction vs using List.casesOn with
  |nil=>exact gg.elim
  |cons u vs=>induction vs using List.casesOn with
   |nil=>exact gg.elim
   |cons v vs=>induction vs using List.casesOn with
    |nil=>
     obtain⟨x,bx,lx,y,by',ly,e0,k1,k2,g_3⟩:=asP.kw gg hv.cons.1
     subst e0
     obtain⟨z,bz,lz,t,bt,lt,e0,k3,k4,g_4⟩:=asP.kw g_3 hv.cons.2.cons.1
     subst e0
     obtain⟨q,hG⟩:=cond_t g_4
     have q0:=and_t q
     have q1:=and_t q0.1
     have q2:=and_t q1.2
     have q3:=and_t q0.2
     have q4:=and_t q3.2
     refine⟨_,_,⟨i1,.cons (.lst (.cons (.prv k1 k2 q1.1 q2.1 q2.2) (.cons (.prv k3 k4 q3.1 q4.1 q4.2) .nil))) .nil⟩,?_⟩
     refine fun v a' b' hv=>(two_of hv).elim (fun e=>?_) fun e=>?_
     ·subst e;exact⟨_,_,⟨Imp.refl,Imps.refl⟩,hG _ _ _ (.inl rfl)⟩
     ·subst e;exact⟨_,_,⟨Imp.refl,Imps.refl⟩,hG _ _ _ (.inr rfl)⟩
    |cons x vs=>induction vs using List.casesOn with
     |nil=>exact gg.elim
     |cons y vs=>induction vs using List.casesOn with
      |cons o1_ o2_=>exact gg.elim
      |nil=>
       obtain⟨i,o1_,o2_,e0,k1,g_5⟩:=asI.kw gg hv.cons.1
       subst e0
       obtain⟨j,o1_,o2_,e0,k1,g_6⟩:=asI.kw g_5 hv.cons.2.cons.1
       subst e0
       obtain⟨k,o1_,o2_,e0,k1,g_7⟩:=asI.kw g_6 hv.cons.2.cons.2.cons.1
       subst e0
       obtain⟨l,o1_,o2_,e0,k1,hG⟩:=asI.kw g_7 hv.cons.2.cons.2.cons.2.cons.1
       subst e0
       refine⟨_,_,⟨i1,.cons (.lst (.cons (.int .no) (.cons (.int .no) (.cons (.int .no) (.cons (.int .no) .nil))))) .nil⟩,?_⟩
       refine fun v a' b' hv=>(four_of hv).elim (fun h=>h.elim (fun e=>?_) fun e=>?_) fun h=>h.elim (fun e=>?_) fun e=>?_
       ·subst e;exact⟨_,_,⟨Imp.refl,Imps.refl⟩,hG _ _ _ (.inl (.inl rfl))⟩
       ·subst e;exact⟨_,_,⟨Imp.refl,Imps.refl⟩,hG _ _ _ (.inl (.inr rfl))⟩
       ·subst e;exact⟨_,_,⟨Imp.refl,Imps.refl⟩,hG _ _ _ (.inr (.inl rfl))⟩
       ·subst e;exact⟨_,_,⟨Imp.refl,Imps.refl⟩,hG _ _ _ (.inr (.inr rfl))⟩
 |_=>exact g_2.elim
noncomputable def F_way:PF:=fun as K=>w2 (fun u v=>asI (fun m bm o1_=>asI (fun n bn o1_=>cond (leB bm 80&&leB bn 80) (0<n*n+m*m∧∃x:Pt,x=wayF m n∧K (ptV 200 x)) False) v) u) as
theorem ok_way{w:World}:FnOk w 362 12 F_way:=FnOk.of ok_law_way fun as K hk hF=>by
 refine byC fun C9 k9=>?_
 obtain⟨u,v,e0,g_1⟩:=w2.ok hF
 subst e0
 obtain⟨m,bm,lm,e0,km,g_2⟩:=asI.kw g_1 hk.cons.1
 subst e0
 obtain⟨n,bn,ln,e0,kn,g_3⟩:=asI.kw g_2 hk.cons.2.cons.1
 subst e0
 obtain⟨z,hz,x,ex,hG⟩:=cond_t g_3
 have z':=and_t z
 refine k9 ?_
 refine⟨_,.cons (.int (.b1 (leB.ok z'.1 km))) (.cons (.int (.b1 (leB.ok z'.2 kn))) .nil),?_⟩
 subst ex
 refine⟨hz,hz,?_⟩
 exact⟨_,.tup (.cons (.tup (.cons (.w rfl) (.cons (.wp rfl) .nil))) (.cons (.tup (.cons (.w rfl) (.cons (.wp rfl) .nil))) .nil)),hG⟩
noncomputable def F_turnL:PF:=fun as K=>w2 (fun u v=>asPt 200 (fun a=>asPt 200 (fun b=>∃x:Pt,x=turnF a b∧K (ptV 2000 x)) v) u) as
theorem ok_turnL{w:World}:FnOk w 369 12 F_turnL:=FnOk.of ok_law_turned fun as K hk hF=>by
 refine byC fun C9 k9=>?_
 obtain⟨u,v,e0,g_1⟩:=w2.ok hF
 subst e0
 obtain⟨a,i1,o1_,g_2⟩:=asPt.kw g_1 hk.cons.1
 obtain⟨b,i2,o1_,x,ex,hG⟩:=asPt.kw g_2 hk.cons.2.cons.1
 refine k9 ?_
 refine⟨_,.cons i1 (.cons i2 .nil),?_⟩
 subst ex
 exact⟨_,.tup (.cons (.tup (.cons (.w rfl) (.cons (.wp rfl) .nil))) (.cons (.tup (.cons (.w rfl) (.cons (.wp rfl) .nil))) .nil)),hG⟩
noncomputable def G21:Gam:=("_law_arc_right",.p F_arcD)::("_law_turned",.p F_turnL)::("_law_way",.p F_way)::("_law_one",.s F_one)::G20
theorem G21.ok{w:World}:GamOk w G21 27:=((((G20.ok).cons (F:= .s F_one) (d':=27) (by decide) (by decide) rfl (by w_on) ok_one).cons (F:= .p F_way) (d':=27) (by decide) (by decide) rfl (by w_on) ok_way).cons (F:= .p F_turnL) (d':=27) (by decide) (by decide) rfl (by w_on) ok_turnL).cons (F:= .p F_arcD) (d':=27) (by decide) (by decide) rfl (by w_on) ok_arcD
noncomputable def turnC(d:Int):(Int×Int)×(Int×Int):=
 if d=30 then((499229655779453597,576460752303423488),(1,2)) else if d=77 then((129675454018512717,576460752303423488),(280843050284016091,288230376151711744))
 else if d= -200 then((-1083391830224440781,1152921504606846976),(394322378248879447,1152921504606846976)) else((1,1),(0,1))
noncomputable def TurnD(d:Int):Prop:=d=0∨d=30∨d=77∨d= -200
theorem turnT_of{d:Int}(h:TurnD d):turnT d=some (turnC d):=by
 rcases h with e |e |e |e <;> subst e <;> decide
noncomputable def RadOk(r:Pr):Prop:=∃s e:Int,(1≤s∧s≤9)∧((0≤e∧e≤7∧r=frac s (10^e.toNat))∨(0≤e∧e≤9∧r=frac (s*10^e.toNat) 1))
noncomputable def ShapeOk(rx ry:Pr)(d:Int):Prop:=RadOk rx∧((ry=rx∧TurnD d)∨(d=0∧∃t:Int,1≤t∧t≤9∧ry=timesF rx (frac t 4)))
noncomputable def CenOk(c:Pr):Prop:=∃e t u:Int,(0≤e∧e≤6)∧(-9≤t∧t≤9)∧(1≤u∧u≤7)∧c=frac (10^e.toNat*t) u
noncomputable def WayOk(m n:Int):Prop:=((1≤m∧m≤9)∧(1≤n∧n≤9))∨(m=1∧∃t:Int,1≤t∧t≤6∧n=10^t.toNat)∨(m=1∧n=0)
noncomputable def DrawAll:Prop:=∀(rx ry cx cy:Pr) (m0 n0 m n d:Int) (sw large:Bool),ShapeOk rx ry d→CenOk cx→CenOk cy→(0≤m0∧m0≤8)→(1≤n0∧n0≤9)→WayOk m n→
 ArcD (rx,ry) (cx,cy) (wayF m0 n0) (turnF (wayF m0 n0) (wayF (if sw != large then m else 0-m) n)) d sw large
theorem pow10_pos(k:Nat):(0:Int)<10^k:=Int.pow_pos (by decide)
theorem pow10_bits{k:Int}(h0:0≤k)(h:k≤9):intBits (10^k.toNat)≤30:=by
 obtain⟨j,rfl⟩:=Int.eq_ofNat_of_zero_le h0
 have hj:j≤9:=by omega
 exact(by decide +kernel:∀j,j<10→intBits (10^(Int.toNat (Int.ofNat j)))≤30) j (Nat.lt_succ_of_le hj)
theorem pow10_bits6{k:Int}(h0:0≤k)(h:k≤6):intBits (10^k.toNat)≤20:=by
 obtain⟨j,rfl⟩:=Int.eq_ofNat_of_zero_le h0
 have hj:j≤6:=by omega
 exact(by decide +kernel:∀j,j<7→intBits (10^(Int.toNat (Int.ofNat j)))≤20) j (Nat.lt_succ_of_le hj)
theorem bits_s4{x:Int}(h1: -16<x)(h2:x<16):intBits x≤4:=intBits_le_iff.mpr (by have:(2:Nat)^4=16:=(by decide);omega)
theorem sp_bits{s k:Int}(h1: -16<s)(h2:s<16)(h0:0≤k)(h:k≤9):intBits (s*10^k.toNat)≤34:=bits_mul (bits_s4 h1 h2) (pow10_bits h0 h)
theorem ps_bits{s k:Int}(h1: -16<s)(h2:s<16)(h0:0≤k)(h:k≤9):intBits (10^k.toNat*s)≤34:=bits_mul (pow10_bits h0 h) (bits_s4 h1 h2)
theorem frac_top_pos{a b:Int}(ha:0<a)(hb:0<b):0<(frac a b).1:=by
 have hg:=gcdI_pos (a:=a) hb
 have hd:gcdI a b∣a:=Int.gcd_dvd_left ..
 show 0<a.fdiv (gcdI a b)
 obtain⟨k,hk⟩:=hd
 generalize gcdI a b=g at *
 subst hk
 rw[Int.mul_fdiv_cancel_left _ (by exact fun o_=>lI 0x8413812413a1221 hg o_)]
 exact Int.pos_of_mul_pos_right ha (by exact lI 0x13a12013a12e1 hg)
theorem times_top_pos{a0 a1 b0 b1:Int}(h0:0<a0)(h1:0<a1)(h2:0<b0)(h3:0<b1):0<(timesF (a0,a1) (b0,b1)).1:=frac_top_pos (Int.mul_pos h0 h2) (Int.mul_pos h1 h3)
theorem way_bits{m n:Int}(h:WayOk m n):intBits m≤20∧intBits n≤20:=by
 rcases h with⟨h,k⟩ |⟨h,t,h1,h2,e⟩ |⟨h,e⟩
 ·exact⟨Nat.le_trans (bits_s4 (by exact lI 0x8413a11f00453a12e1 h.1) (by exact lI 0xea418473b00612e1 h.2)) (by decide),Nat.le_trans (bits_s4 (by exact lI 0x8413a11f00453a12e1 k.1) (by exact lI 0xea418473b00612e1 k.2)) (by decide)⟩
 ·exact⟨Nat.le_trans (bits_s4 (by exact lI 0x84114e8412700453a12e1 h) (by exact lI 0x8413a10493b00612e1 h)) (by decide),e▸pow10_bits6 (by exact lI 0x8413a11c13a12a1 h1) h2⟩
 ·exact⟨Nat.le_trans (bits_s4 (by exact lI 0x84114e8412700453a12e1 h) (by exact lI 0x8413a10493b00612e1 h)) (by decide),e▸(by decide)⟩
theorem neg_bits{m:Int}(h:intBits m≤20):intBits (0-m)≤21:=Nat.le_trans (bits_sub (show intBits 0≤1 by decide) h) (by decide)
theorem turn_cs{d:Int}(hd:TurnD d):((0<(turnC d).1.2)∧(0<(turnC d).2.2))∧((intBits (turnC d).1.1≤70)∧(intBits (turnC d).1.2≤70)∧(intBits (turnC d).2.1≤70)∧(intBits (turnC d).2.2≤70))∧
  ∃C S:Int,inPartsF ((turnC d).1.1,(turnC d).1.2) 1152921504606846976=C∧inPartsF ((turnC d).2.1,(turnC d).2.2) 1152921504606846976=S∧(intBits C≤200∧intBits S≤200)∧(d=0→S=0)∧
   Bd ((C:Rat)/1152921504606846976) (101/100)∧Bd ((S:Rat)/1152921504606846976) (101/100)∧
   Bd ((C:Rat)/1152921504606846976*(C/1152921504606846976)+(S:Rat)/1152921504606846976*(S/1152921504606846976)-1) (1/1000000000000000000):=by
 rcases hd with e |e |e |e <;> subst e
 ·refine⟨by decide,⟨by decide +kernel,by decide +kernel,by decide +kernel,by decide +kernel⟩,1152921504606846976,0,by decide +kernel,by decide +kernel,⟨by decide +kernel,by decide +kernel⟩,by decide,⟨?_,?_⟩,⟨?_,?_⟩,⟨?_,?_⟩⟩ <;> push_cast;exact li 0x239418e41858fc7018fc70684a;exact li 0x8fc7018fc7068e506390684a;exact li 0x8e50639061418fc70684a;exact li 0x18fc7068e506390684a;exact li 0x21062c9d1858fc7018fc7068fc7018fc7061018fc706063f1c1840a104384a;exact li 0x8fc7018fc7068fc7018fc7061018fc706063f1c1840a10438418b274684a
 ·refine⟨by decide,⟨by decide +kernel,by decide +kernel,by decide +kernel,by decide +kernel⟩,998459311558907194,576460752303423488,by decide +kernel,by decide +kernel,⟨by decide +kernel,by decide +kernel⟩,by decide,⟨?_,?_⟩,⟨?_,?_⟩,⟨?_,?_⟩⟩ <;> push_cast;exact li 0x8e506390617bdb9f6ec368acd69e818fc70684a;exact li 0x3bdb9f6ec368acd69e818fc7068e506390684a;exact li 0x239418e41858fb7018fc70684a;exact li 0x8fb7018fc7068e506390684a;exact li 0x21062c9d185ef6e7dbb0da2b35a7a063f1c1bbdb9f6ec368acd69e818fc706123edc063f1c1a3edc063f1c1840a104384a;exact li 0xef6e7dbb0da2b35a7a063f1c1bbdb9f6ec368acd69e818fc706123edc063f1c1a3edc063f1c1840a10438418b274684a
 ·refine⟨by decide,⟨by decide +kernel,by decide +kernel,by decide +kernel,by decide +kernel⟩,259350908037025434,1123372201136064364,by decide +kernel,by decide +kernel,⟨by decide +kernel,by decide +kernel⟩,by decide,⟨?_,?_⟩,⟨?_,?_⟩,⟨?_,?_⟩⟩ <;> push_cast;exact li 0x8e50639061679ab9a8eecef1cf4e818fc70684a;exact li 0x279ab9a8eecef1cf4e818fc7068e506390684a;exact li 0x8e506390617f9789628b3d2787bb018fc70684a;exact li 0x3f9789628b3d2787bb018fc7068e506390684a;exact li 0x21062c9d1859e6ae6a3bb3bc73d3a063f1c1a79ab9a8eecef1cf4e818fc70613f9789628b3d2787bb018fc706fe5e258a2cf49e1eec063f1c1840a104384a;exact li 0x9e6ae6a3bb3bc73d3a063f1c1a79ab9a8eecef1cf4e818fc70613f9789628b3d2787bb018fc706fe5e258a2cf49e1eec063f1c1840a10438418b274684a
 ·refine⟨by decide,⟨by decide +kernel,by decide +kernel,by decide +kernel,by decide +kernel⟩,-1083391830224440781,394322378248879447,by decide +kernel,by decide +kernel,⟨by decide +kernel,by decide +kernel⟩,by decide,⟨?_,?_⟩,⟨?_,?_⟩,⟨?_,?_⟩⟩ <;> push_cast;exact li 0x239418e4185fa29fb924d31b63bad0458fc70684a;exact li 0xfa29fb924d31b63bad0458fc7068e506390684a;exact li 0x8e506390616afa7aa3d31a25feadc18fc70684a;exact li 0x2afa7aa3d31a25feadc18fc7068e506390684a;exact li 0x21062c9d185fa29fb924d31b63bad0458fc706fa29fb924d31b63bad0458fc70612afa7aa3d31a25feadc18fc706abe9ea8f4c6897fab7063f1c1840a104384a;exact li 0xfa29fb924d31b63bad0458fc706fa29fb924d31b63bad0458fc70612afa7aa3d31a25feadc18fc706abe9ea8f4c6897fab7063f1c1840a10438418b274684a
theorem prb_mono{n k:Nat}{v:Pr}(h:PrB n v)(hk:n≤k):PrB k v:=⟨Nat.le_trans h.1 hk,Nat.le_trans h.2 hk⟩
theorem ptsz_of{n:Nat}{p:Pt}(h1:0<p.1.2)(h2:0<p.2.2)(k1:PrB n p.1)(k2:PrB n p.2)(hn:n≤2500):PtSz p:=
 ⟨⟨h1,h2⟩,prb_mono k1 hn,prb_mono k2 hn⟩
theorem len_facts{a b:Nat}(h1:a=b-1)(h2:1≤(b:Int)-1∧(b:Int)-1≤4):(0<a∧a≤4)∧(a:Int)=(b:Int)-1:=by
 subst h1
 induction b using Nat.casesOn with
 |zero=>exact absurd h2.1 (by decide)
 |succ k=>
  have e:((k+1:Nat):Int)-1=k:=Int.add_sub_cancel (k:Int) 1
  exact⟨⟨Int.ofNat_le.mp (e▸h2.1),Int.ofNat_le.mp (e▸h2.2)⟩,e.symm⟩
theorem told_ok{C S A B T X Y O0 O1 K0 K1:Int}{rx ry:Pr}{centre p q:Pt}{o1 o2 w1 w2 τ k t σ:Rat}{large sw:Bool}
  (h:InAB C S A B T X Y O0 O1 K0 K1 rx ry centre p q o1 o2 w1 w2 τ k t σ large sw)(hk:k=0∨1/10≤k∨k≤-(1/10)){cs:List Cv}(hcs:curvesGo ⟨A,B,C,S⟩ (K0,K1) p q T sw p (vectorsF (0-K0,0-K1) (O0-K0,O1-K1) sw)=cs)
  (bA:intBits A≤400)(bB:intBits B≤400)(bC:intBits C≤200)(bS:intBits S≤200)(bT:intBits T≤100)(bO0:intBits O0≤95)(bO1:intBits O1≤95)(bK0:intBits K0≤95)(bK1:intBits K1≤95)
  (bp1:PrB 300 p.1)(bp2:PrB 300 p.2)(bq1:PrB 300 q.1)(bq2:PrB 300 q.2):ToldOk (rx,ry) centre p q (if sw then 1 else -1) large cs:=by
 subst hcs
 have hlen:=curves_len (e:=⟨A,B,C,S⟩) (K:=(K0,K1)) (p:=p) (q:=q) (T:=T) (sw:=sw) (vectorsF (0-K0,0-K1) (O0-K0,O1-K1) sw) p
 have hv:=vec_len (0-K0,0-K1) (O0-K0,O1-K1) sw
 have hv4:1≤(((vectorsF (0-K0,0-K1) (O0-K0,O1-K1) sw).length:Nat):Int)-1∧(((vectorsF (0-K0,0-K1) (O0-K0,O1-K1) sw).length:Nat):Int)-1≤4:=by
  rw[hv]
  repeat' split
  all_goals decide
 have lf:=len_facts hlen hv4
 clear hlen hv hv4
 have hz:(0:Int)<T:=h.geo.T0
 have b96:∀v∈vectorsF (0-K0,0-K1) (O0-K0,O1-K1) sw,PrB 96 v:=vectors_bits
  ⟨Nat.le_trans (bits_sub (show intBits 0≤1 by decide) bK0) (by decide),Nat.le_trans (bits_sub (show intBits 0≤1 by decide) bK1) (by decide)⟩
  ⟨Nat.le_trans (bits_sub bO0 bK0) (by decide),Nat.le_trans (bits_sub bO1 bK1) (by decide)⟩
 have hpt:∀v:Pr,PrB 500 v→PtSz (pointF ⟨A,B,C,S⟩ (K0,K1) v p T):=fun v hv=>by
  have hp:=point_pos (e:=⟨A,B,C,S⟩) (K:=(K0,K1)) (v:=v) hz h.p1 h.p2
  have hb:=point_bits (K0:=K0) (K1:=K1) bA bB bC bS bK0 bK1 hv bT bp1 bp2
  exact⟨hp,hb.1,hb.2⟩
 have hall:=curves_all (e:=⟨A,B,C,S⟩) (K:=(K0,K1)) (p:=p) (q:=q) (T:=T) (sw:=sw) (P:=PtSz) (ptsz_of h.q1 h.q2 bq1 bq2 (by decide)) (vectorsF (0-K0,0-K1) (O0-K0,O1-K1) sw) p (ptsz_of h.p1 h.p2 bp1 bp2 (by decide))
  (fun v hv=>hpt v (prb_mono (b96 v hv) (by decide)))
  (fun v hv w hw=>by
   obtain⟨v0,v1⟩:=v
   obtain⟨w0,w1⟩:=w
   have a:=b96 _ hv
   have b:=b96 _ hw
   have:=piece_bits (sw:=sw) a.1 a.2 b.1 b.2
   exact⟨hpt _ ⟨this.1,this.2.1⟩,hpt _ ⟨this.2.2.1,this.2.2.2⟩⟩)
 refine⟨lf.1.1,lf.1.2,fun cv hc=>curves_first _ _ _ hc,fun cv hc=>curves_last _ _ _ (by rw[List.getLast?_eq_getElem?];exact hc),fun i cv cw hc hw=>curves_chain _ _ i _ _ hc hw,?_,fun i cv hc=>h.checks cv (List.mem_of_getElem? hc),fun i cv hc=>?_⟩
 ·have:=h.count hk
  rw[lf.2]
  exact this
 ·have:=hall cv (List.mem_of_getElem? hc)
  exact⟨this.1,this.2.1,this.2.2.1,this.2.2.2⟩
theorem ptEq_eq{p q:Pt}(h:ptEq p q=true):p=q:=by
 obtain⟨⟨a,b⟩,c,d⟩:=p
 obtain⟨⟨a',b'⟩,c',d'⟩:=q
 simp[ptEq] at h
 simp[h]
theorem arcAll_of{rx ry:Pr}{centre one other:Pt}{d:Int}{sw large:Bool}{τ k t σ:Rat}(x0:0<rx.1)(x1:0<rx.2)(y0:0<ry.1)(y1:0<ry.2)(bx:PrB 40 rx)(by':PrB 40 ry)
  (c1:0<centre.1.2)(c2:0<centre.2.2)(bc1:PrB 40 centre.1)(bc2:PrB 40 centre.2)(hd:TurnD d)(hs:d=0∨ry=rx)(v1:0<one.1.2)(v2:0<one.2.2)(w1:0<other.1.2)(w2:0<other.2.2)
  (bv1:PrB 202 one.1)(bv2:PrB 202 one.2)(bw1:PrB 202 other.1)(bw2:PrB 202 other.2)(arc:Arc (val one.1) (val one.2) (val other.1) (val other.2) τ k t σ)(hσ:σ=if large=sw then -1 else 1)(hk:k=0∨1/10≤k∨k≤-(1/10)):
  ArcD (rx,ry) centre one other d sw large:=by
 obtain⟨⟨zc,zt⟩,⟨j1,j2,j3,j4⟩,C,S,hC,hS,⟨bC,bS⟩,h0,cc,ss,nn⟩:=turn_cs hd
 have hp:=led_val (r:=(rx,ry)) v1 v2 x1 y1 c1 c2
 have hq:=led_val (r:=(rx,ry)) w1 w2 x1 y1 c1 c2
 have lb:∀v:Pt,PrB 202 v.1→PrB 202 v.2→PrB 300 (ledL v (rx,ry) centre).1∧PrB 300 (ledL v (rx,ry) centre).2:=fun v k1 k2=>by
  have m1:=times_bits (b:=rx) k1.1 k1.2 bx.1 bx.2
  have m2:=times_bits (b:=ry) k2.1 k2.2 by'.1 by'.2
  have m3:=plus_bits bc1.1 bc1.2 m1.1 m1.2
  have m4:=plus_bits bc2.1 bc2.2 m2.1 m2.2
  exact⟨⟨Nat.le_trans m3.1 (by decide),Nat.le_trans m3.2 (by decide)⟩,⟨Nat.le_trans m4.1 (by decide),Nat.le_trans m4.2 (by decide)⟩⟩
 have bp:=lb one bv1 bv2
 have bq:=lb other bw1 bw2
 generalize ep:ledL one (rx,ry) centre=p at hp bp
 generalize eq':ledL other (rx,ry) centre=q at hq bq
 have le64:∀{r:Pr},PrB 40 r→r.2≤2^64:=fun h=>Int.le_trans Int.le_natAbs (Int.ofNat_le.mpr (Nat.le_trans (Nat.le_of_lt (intBits_le_iff.mp h.2)) (by decide)))
 have hl:(leastF (absI rx.1,rx.2) (absI ry.1,ry.2)).2≤(leastF (absI rx.1,rx.2) (absI ry.1,ry.2)).1*2^64:=least_le64 ⟨by rw[absI_pos x0];exact x0,(show rx.2≤2^64 from le64 bx)⟩ ⟨by rw[absI_pos y0];exact y0,(show ry.2≤2^64 from le64 by')⟩
 have hT3:=toldF_spec hl
 generalize hT:toldF rx ry=T at hT3
 generalize hA:inPartsF rx (T*MANY)=A
 generalize hB:inPartsF ry (T*MANY)=B
 have geo:Geo C S A B T rx ry:=geo_mk x0 x1 y0 y1 hl cc ss (hs.elim (fun h=> .inl (h0 h)) .inr) hT hA hB
 generalize hX:inPartsF (minusF q.1 p.1) (T*MANY)=X
 generalize hY:inPartsF (minusF q.2 p.2) (T*MANY)=Y
 generalize hO0:(backF ⟨A,B,C,S⟩ (X,Y)).1=O0
 generalize hO1:(backF ⟨A,B,C,S⟩ (X,Y)).2=O1
 generalize hK0:(centreF (O0,O1) large sw).1=K0
 generalize hK1:(centreF (O0,O1) large sw).2=K1
 have H:InAB C S A B T X Y O0 O1 K0 K1 rx ry centre p q (val one.1) (val one.2) (val other.1) (val other.2) τ k t σ large sw:=
  ⟨geo,hp.2.2.1,hp.2.2.2,hq.2.2.1,hq.2.2.2,c1,c2,hp.1,hp.2.1,hq.1,hq.2.1,arc,hσ,nn,hX,hY,hO0,hO1,hK0,hK1⟩
 have A0:=A_pos geo.hA geo.hx
 have B0:=A_pos geo.hB geo.hy
 have bT:intBits T≤85:=bits_lt (by exact lI 0x13a12013a12a1 hT3.2.1) (by
  have e:TOLD*2^64=19342813113834066795298816:=by decide
  have e2:(((2^85:Nat)):Int)=38685626227668133590597632:=by decide +kernel
  exact lI 0x84114ea2082087f7012610503c492082087f70125140f1211d13a12e4 hT3.2.2 e e2)
 have bM:intBits MANY≤41:=by decide +kernel
 have bTM:=bits_mul bT bM
 have bA:intBits A≤400:=by rw[←hA];exact Nat.le_trans (bits_inParts bx.1 bx.2 bTM) (by decide)
 have bB:intBits B≤400:=by rw[←hB];exact Nat.le_trans (bits_inParts by'.1 by'.2 bTM) (by decide)
 have m1:=minus_bits bq.1.1 bq.1.2 bp.1.1 bp.1.2
 have m2:=minus_bits bq.2.1 bq.2.2 bp.2.1 bp.2.2
 have bX:intBits X≤1500:=by rw[←hX];exact Nat.le_trans (bits_inParts m1.1 m1.2 bTM) (by decide)
 have bY:intBits Y≤1500:=by rw[←hY];exact Nat.le_trans (bits_inParts m2.1 m2.2 bTM) (by decide)
 obtain⟨d1,d2⟩:=H.chord
 obtain⟨g1,-,u1,u2,-⟩:=H.arc.whole rfl H.nn rfl rfl d1 d2
 have e95:(((2^95:Int)):Rat)=39614081257132168796771975168:=by
  rw[show(2^95:Int)=39614081257132168796771975168 by decide];rfl
 have bO0:intBits O0≤95:=bits_bd u1 (by rw[e95];exact li 0x23063f1c044a2082082087f70184b)
 have bO1:intBits O1≤95:=bits_bd u2 (by rw[e95];exact li 0x23063f1c044a2082082087f70184b)
 have bK0:intBits K0≤95:=bits_bd H.set.k0 (by rw[e95];exact li 0x2b06a1a3f1c044a2082082087f70184b)
 have bK1:intBits K1≤95:=bits_bd H.set.k1 (by rw[e95];exact li 0x2b06a1a3f1c044a2082082087f70184b)
 have hsz:=H.size
 have hO:(O0==0&&O1==0)=false:=by
  rcases Classical.em (O0=0∧O1=0) with⟨e,e'⟩ |h
  ·exfalso
   rw[e,e'] at hsz
   exact absurd hsz (by decide)
  ·rw[Bool.and_eq_false_iff]
   simp only[beq_eq_false_iff_ne,ne_eq]
   rcases Classical.em (O0=0) with e |e
   ·exact .inr fun e'=>h ⟨e,e'⟩
   ·exact .inl e
 have hne:ptEq p q=false:=by
  rcases Bool.eq_false_or_eq_true (ptEq p q) with e |e
  ·exfalso
   have e':=ptEq_eq e
   have px:=pos_val x0 x1
   have py:=pos_val y0 y1
   have f1:=hp.1;have f2:=hp.2.1;have f3:=hq.1;have f4:=hq.2.1
   rw[e'] at f1 f2
   have k1:(val other.1-val one.1)*val rx=0:=by simp only at f1 f3;exact li 0x84149138f10226104549140f1022503833c4061325 hq.1 f1
   have k2:(val other.2-val one.2)*val ry=0:=by simp only at f2 f4;exact li 0x84149138f10226104549140f1022503833c4061325 hq.2.1 f2
   have k3:val other.1=val one.1:=by rcases Rat.mul_eq_zero.mp k1 with h |h;exact li 0x8413ce0c124f3a1322 h;exact Rat.le_antisymm (li 0x210500490508483ce2a3 px h) (li 0x210500490508483ce2a3 px h)
   have k4:val other.2=val one.2:=by rcases Rat.mul_eq_zero.mp k2 with h |h;exact li 0x8413ce0c124f3a1322 h;exact Rat.le_antisymm (li 0x210500490508483ce2a3 py h) (li 0x210500490508483ce2a3 py h)
   rw[k3,k4] at g1
   exact li 0x219c18ad746463f1c19040310f8fc70638e0c40918fc7064100c43e3f1c18e3831021118fc70638e0c43e3f1c190403103463f1c18e38310f8fc7064100c40c40a11e4 g1
  ·exact e
 have em:(1152921504606846976:Int).fdiv 1048576=MANY:=by decide +kernel
 have tok:=told_ok H hk (cs:=arcC p sw q ⟨turnC d,T,A,B,C,S,(O0,O1),(K0,K1)⟩) rfl bA bB bC bS (Nat.le_trans bT (by decide)) bO0 bO1 bK0 bK1 bp.1 bp.2 bq.1 bq.2
 refine⟨⟨⟨bx,by'⟩,⟨x0,y0⟩,x1,y1⟩,⟨⟨bc1,bc2⟩,c1,c2⟩,⟨⟨bv1,bv2⟩,v1,v2⟩,⟨⟨bw1,bw2⟩,w1,w2⟩,⟨turnC d,T,A,B,C,S,(O0,O1),(K0,K1)⟩,turnT_of hd,?_,by rw[ep,eq'];exact tok⟩
 rw[ep,eq']
 exact{
  k1:=by rw[absI_pos x0];exact x0
  k2:=by rw[absI_pos y0];exact y0
  hl:=hl
  et:=hT.symm
  eA:=by rw[hA,absI_pos A0]
  eB:=by rw[hB,absI_pos B0]
  eC:=hC.symm
  eS:=hS.symm
  zA:=Int.ne_of_gt A0
  zB:=Int.ne_of_gt B0
  eO:=by rw[hX,hY,←hO0,←hO1]
  hO:=hO
  b1:=bO0
  b2:=bO1
  zO:=hsz
  ec:=by rw[←hK0,←hK1]
  b3:=bK0
  b4:=bK1
  zV:=dot_pos H.begin.1
  hne:=hne}
theorem rad_ok{r:Pr}(h:RadOk r):0<r.1∧0<r.2∧PrB 34 r:=by
 obtain⟨s,e,hs,⟨h1,h2,h3⟩ |⟨h1,h2,h3⟩⟩:=h
 ·have:=frac_bits (bits_s4 (x:=s) (by exact lI 0x8413a11f00453a12e1 hs.1) (by exact lI 0xea418473b00612e1 hs.2)) (pow10_bits h1 (by exact lI 0xe9c18473a90612a1 h2))
  exact h3▸⟨frac_top_pos (by exact lI 0x8413a11c13a12e1 hs.1) (pow10_pos _),(val_frac (pow10_pos _)).2,prb_mono this (by decide)⟩
 ·have:=frac_bits (sp_bits (s:=s) (by exact lI 0x8413a11f00453a12e1 hs.1) (by exact lI 0xea418473b00612e1 hs.2) h1 h2) (show intBits 1≤1 by decide)
  exact h3▸⟨frac_top_pos (Int.mul_pos (by exact lI 0x8413a11c13a12e1 hs.1) (pow10_pos _)) (by decide),(val_frac (by decide)).2,prb_mono this (by decide)⟩
theorem cen_bits{c:Pr}(h:CenOk c):0<c.2∧PrB 40 c:=by
 obtain⟨e,t,u,h1,h2,h3,h4⟩:=h
 have:=frac_bits (ps_bits (s:=t) (by exact lI 0x290453a11f00453a12e1 h2.1) (by exact lI 0xea418473b00612e1 h2.2) h1.1 (by exact lI 0xe9818473a90612a1 h1.2)) (bits_s4 (x:=u) (by exact lI 0x8413a11f00453a12e1 h3.1) (by exact lI 0xe9c18473b00612e1 h3.2))
 exact h4▸⟨(val_frac (by exact lI 0x8413a11c13a12e1 h3.1)).2,prb_mono this (by decide)⟩
theorem way_prb{m n:Int}{a b:Nat}(hm:intBits m≤a)(hn:intBits n≤b):PrB (max (max (b+b) (a+a)+1) (2+a+b)) (wayF m n).1∧PrB (max (max (b+b) (a+a)+1) (2+a+b)) (wayF m n).2:=by
 have h1:=bits_add (bits_mul hn hn) (bits_mul hm hm)
 have h2:=bits_sub (bits_mul hn hn) (bits_mul hm hm)
 have h3:=bits_mul (bits_mul (show intBits 2≤2 by decide) hm) hn
 exact⟨prb_mono (frac_bits h2 h1) (by rw[Nat.max_self];exact Nat.le_max_left ..),prb_mono (frac_bits h3 h1) (Nat.le_of_eq (Nat.max_comm ..))⟩
theorem turn_prb{v w:Pt}{a b:Nat}(v1:PrB a v.1)(v2:PrB a v.2)(w1:PrB b w.1)(w2:PrB b w.2):PrB (a+b+(a+b)+1) (turnF v w).1∧PrB (a+b+(a+b)+1) (turnF v w).2:=by
 have h1:=times_bits v1.1 v1.2 w1.1 w1.2
 have h2:=times_bits v2.1 v2.2 w2.1 w2.2
 have h3:=times_bits v1.1 v1.2 w2.1 w2.2
 have h4:=times_bits v2.1 v2.2 w1.1 w1.2
 have h5:=minus_bits h1.1 h1.2 h2.1 h2.2
 have h6:=plus_bits h3.1 h3.2 h4.1 h4.2
 rw[Nat.max_self] at h5 h6
 exact⟨⟨h5.1,Nat.le_succ_of_le h5.2⟩,⟨h6.1,Nat.le_succ_of_le h6.2⟩⟩
theorem pow10_le{t:Int}(h0:1≤t)(h:t≤6):10≤(10:Int)^t.toNat∧(10:Int)^t.toNat≤1000000:=by
 obtain⟨j,rfl⟩:=Int.eq_ofNat_of_zero_le (show 0≤t from lI 0x8413a11c13a12a1 h0)
 have hj:j≤6:=by omega
 match j,hj with
 | 0,_=>omega
 | 1,_ | 2,_ | 3,_ | 4,_ | 5,_ | 6,_=>decide
theorem way_kind{m n:Int}(h:WayOk m n):(1≤m∧0≤n)∧(n=0∨(m≤9*n∧n≤1000000*m))∧(n*n=m*m∨n*n+m*m≤10*(n*n-m*m)∨n*n+m*m≤10*(m*m-n*n)):=by
 rcases h with⟨⟨h1,h2⟩,h3,h4⟩ |⟨h,t,h1,h2,e⟩ |⟨h,e⟩
 ·refine⟨⟨h1,by exact lI 0x8413a11c13a12a1 h3⟩,.inr ⟨by exact lI 0x8413a91cfa418473e904e1212a2 h2 h3,by exact lI 0x3a90611e104f8a67473a299d04f1212a2 h1 h4⟩,?_⟩
  have key:∀a b:Int,1≤a→a≤9→a+1≤b→a*a+b*b≤10*(b*b-a*a):=by
   intro a b ha ha9 hb
   have e1:=Int.mul_le_mul hb hb (by exact lI 0x2104e84704e8410a12a1 ha) (by exact lI 0xf84108e8478413e11c13a12a2 ha hb)
   have e2:=Int.mul_le_mul_of_nonneg_left ha9 (show 0≤a from lI 0x8413a11c13a12a1 ha)
   have e3:(a+1)*(a+1)=a*a+2*a+1:=lI 0xe84108e84108438e12204e1028410a1321
   exact lI 0xf3c43e90448873e10423e104210e384a473cf10e3840aa04e3843cf1031212a2 e1 e2
  rcases Int.lt_trichotomy m n with h |h |h
  ·right;left;have:=key m n h1 h2 (by exact lI 0x3ce8483e10423a12a2 h);exact lI 0xf3c438e102a8138e10f3c40c484738e10f3c40aa04e3843cf1031212a2 this
  ·left;rw[h]
  ·right;right;have:=key n m h3 h4 (by exact lI 0x3ce8483e10423a12a2 h);exact lI 0xf3c438e102a8138e10f3c40c48473cf10e3840aa04e3843cf1031212a2 this
 ·obtain⟨a,b⟩:=pow10_le h1 h2
  rw[←e] at a b
  subst h
  refine⟨⟨by exact lI 0x84184184a,by exact lI 0xa813a11c13a12a1 a⟩,.inr ⟨by exact lI 0xa813a91e106904e1212a1 a,by exact lI 0x3a299d0611ce8a67418411212a1 b⟩,.inr (.inl ?_)⟩
  have:=Int.mul_le_mul a a (by exact lI 0x1a8184a) (by exact lI 0xa813a11c13a12a1 a)
  exact lI 0xa81a8110e384a4738e1210610440aa04e3848418411031212a1 this
 ·subst h;subst e
  exact⟨⟨by exact lI 0x84184184a,by exact lI 0x4184a⟩,.inl rfl,.inr (.inr (by decide))⟩
theorem k_kind{m n:Int}(hm:1≤m)(h:n*n=m*m∨n*n+m*m≤10*(n*n-m*m)∨n*n+m*m≤10*(m*m-n*n)):
  ((n:Rat)*n-m*m)/(n*n+m*m)=0∨1/10≤((n:Rat)*n-m*m)/(n*n+m*m)∨((n:Rat)*n-m*m)/(n*n+m*m)≤-(1/10):=by
 have p1:=icast_pos (sq_pos (n:=n) (m:=m) (.inr (by exact lI 0x8413a11c13a12e1 hm)))
 push_cast at p1
 have e:((n:Rat)*n-m*m)/(n*n+m*m)*(n*n+m*m)=(n:Rat)*n-m*m:=by
  have:(n:Rat)*n+m*m≠0:=fun o_=>li 0x8413cf10e3840812413cf10e3840a1222 p1 o_
  exact li 0x84140f3c438e10210f3c438e1032503cf10e3840843cf10e3840e1323 (Rat.div_mul_cancel (Rat.ne_of_gt (li 0x13cf10e3840a12013cf10e3840a12e2 p1)))
 generalize ((n:Rat)*n-m*m)/(n*n+m*m)=k at *
 rcases h with h |h |h
 ·left
  have:=congrArg (fun z:Int=>(z:Rat)) h
  push_cast at this
  have:k*((n:Rat)*n+m*m)=0:=li 0x2104f3c438e10984140f3c438e10210f3c438e1032503cf10e384084061323 e this
  rcases Rat.mul_eq_zero.mp this with h |h;exact li 0x84138124e061321 h;exact Rat.le_antisymm (li 0x210504043cf1020490504043cf1028483812a3 p1 h) (li 0x210504043cf1020490504043cf10284804e2a3 p1 h)
 ·right;left
  have:=cast_le h
  push_cast at this
  rcases rt (1/10) k with h |h
  ·exact h
  ·rcases Classical.em (k=1/10) with h' |h'
   ·exact li 0x210453a106a189841a863a12a1 h'
   ·have:=Rat.mul_pos p1 (show 0<1/10-k by grind)
    grind
 ·right;right
  have:=cast_le h
  push_cast at this
  rcases rt k (-(1/10)) with h |h
  ·exact h
  ·rcases Classical.em (k= -(1/10)) with h' |h'
   ·exact li 0x8413a106a18524e841a861612a1 h'
   ·have:=Rat.mul_pos p1 (show 0<k+1/10 by grind)
    grind
theorem way_arc{rx ry:Pr}{centre:Pt}{m0 n0 m n m' d:Int}{sw large:Bool}{σ:Int}(hσ2:σ*σ=1)(hm':m'=σ*m)(hσ:(σ:Rat)=if large=sw then -1 else 1)(x0:0<rx.1)(x1:0<rx.2)(y0:0<ry.1)(y1:0<ry.2)(bx:PrB 40 rx)(by':PrB 40 ry)
  (c1:0<centre.1.2)(c2:0<centre.2.2)(bc1:PrB 40 centre.1)(bc2:PrB 40 centre.2)(hd:TurnD d)(hs:d=0∨ry=rx)(p0:0<n0*n0+m0*m0)(b0:intBits m0≤4)(b1:intBits n0≤4)(b2:intBits m'≤21)(b3:intBits n≤20)
  (k1:1≤m∧0≤n)(k2:n=0∨(m≤9*n∧n≤1000000*m))(k3:n*n=m*m∨n*n+m*m≤10*(n*n-m*m)∨n*n+m*m≤10*(m*m-n*n)):
  ArcD (rx,ry) centre (wayF m0 n0) (turnF (wayF m0 n0) (wayF m' n)) d sw large:=by
 have e':m'*m'=m*m:=by rw[hm'];exact lI 0x3cf10e38484124e3c438f1043cf121322 hσ2
 have p1:0<n*n+m'*m':=by rw[e'];exact sq_pos (.inr (by exact lI 0x8413a11c13a12e1 k1.1))
 have a:=way_val p0
 have b:=way_val p1
 have t:=turn_val a.2.2.1 a.2.2.2 b.2.2.1 b.2.2.2
 have q0:=way_prb b0 b1
 have q1:=way_prb b2 b3
 have q2:=turn_prb q0.1 q0.2 q1.1 q1.2
 exact arcAll_of x0 x1 y0 y1 bx by' c1 c2 bc1 bc2 hd hs a.2.2.1 a.2.2.2 t.2.2.1 t.2.2.2 (prb_mono q0.1 (by decide)) (prb_mono q0.2 (by decide)) (prb_mono q2.1 (by decide)) (prb_mono q2.2 (by decide))
  (arc_mk p0 k1.1 k1.2 k2 hσ2 hm') hσ (k_kind k1.1 k3)
theorem draw_all:DrawAll:=by
 intro rx ry cx cy m0 n0 m n d sw large hS hcx hcy hm0 hn0 hW
 obtain⟨hR,hsh⟩:=hS
 obtain⟨x0,x1,bx⟩:=rad_ok hR
 obtain⟨c1,bc1⟩:=cen_bits hcx
 obtain⟨c2,bc2⟩:=cen_bits hcy
 obtain⟨k1,k2,k3⟩:=way_kind hW
 obtain⟨bm,bn⟩:=way_bits hW
 have hy:(0<ry.1∧0<ry.2∧PrB 40 ry)∧TurnD d∧(d=0∨ry=rx):=by
  rcases hsh with⟨e,hd⟩ |⟨e,t,h1,h2,e2⟩
  ·subst e;exact⟨⟨x0,x1,prb_mono bx (by decide)⟩,hd,.inr rfl⟩
  ·have f:=frac_bits (bits_s4 (x:=t) (by exact lI 0x8413a11f00453a12e1 h1) (by exact lI 0xea418473b00612e1 h2)) (show intBits 4≤3 by decide)
   have f2:=times_bits (a:=rx) (b:=frac t 4) bx.1 bx.2 f.1 f.2
   have z:=(val_frac (t:=t) (b:=4) (by decide)).2
   exact⟨⟨e2▸times_top_pos x0 x1 (frac_top_pos (by exact lI 0x8413a11c13a12e1 h1) (by decide)) z,e2▸(val_times x1 z).2,e2▸⟨Nat.le_trans f2.1 (by decide),Nat.le_trans f2.2 (by decide)⟩⟩,.inl e,.inl e⟩
 obtain⟨⟨y0,y1,by'⟩,hd,hs⟩:=hy
 have nb:=neg_bits bm
 have bm':intBits m≤21:=Nat.le_trans bm (by decide)
 have g0:=bits_s4 (x:=m0) (by exact lI 0x13a11f00453a12e1 hm0.1) (by exact lI 0xea018473b00612e1 hm0.2)
 have g1:=bits_s4 (x:=n0) (by exact lI 0x8413a11f00453a12e1 hn0.1) (by exact lI 0xea418473b00612e1 hn0.2)
 cases sw <;> cases large
 ·exact way_arc (σ:= -1) (by decide) (by simp) (by simp) x0 x1 y0 y1 (prb_mono bx (by decide)) by' c1 c2 bc1 bc2 hd hs (sq_pos (.inl (by exact lI 0x8413a11c13a12e1 hn0.1))) g0 g1 nb bn k1 k2 k3
 ·exact way_arc (σ:=1) (by decide) (by simp) (by simp) x0 x1 y0 y1 (prb_mono bx (by decide)) by' c1 c2 bc1 bc2 hd hs (sq_pos (.inl (by exact lI 0x8413a11c13a12e1 hn0.1))) g0 g1 bm' bn k1 k2 k3
 ·exact way_arc (σ:=1) (by decide) (by simp) (by simp) x0 x1 y0 y1 (prb_mono bx (by decide)) by' c1 c2 bc1 bc2 hd hs (sq_pos (.inl (by exact lI 0x8413a11c13a12e1 hn0.1))) g0 g1 bm' bn k1 k2 k3
 ·exact way_arc (σ:= -1) (by decide) (by simp) (by simp) x0 x1 y0 y1 (prb_mono bx (by decide)) by' c1 c2 bc1 bc2 hd hs (sq_pos (.inl (by exact lI 0x8413a11c13a12e1 hn0.1))) g0 g1 nb bn k1 k2 k3
noncomputable def F_drawn0:SF:=aS G21 [] zipB f422 40
theorem ok_drawn0{w:World}:SnOk w 422 28 F_drawn0:=aS.ok (by decide) G21.ok MthOk.nil (by w_on) (by w_on) (by w_on) rfl (by with_unfolding_all decide) (BndOk.zip (len1 fun o1_=>rfl))
theorem mul_self_nn(m:Int):0≤m*m:=(Int.le_total 0 m).elim (fun h=>Int.mul_nonneg h h) fun h=>Int.mul_nonneg_of_nonpos_of_nonpos h h
theorem sq_p{n m:Int}(h:n≠0):0<n*n+m*m:=by
 have h1:0<n*n:=(Int.lt_or_gt_of_ne h).elim (fun h=>Int.mul_pos_of_neg_of_neg h h) fun h=>Int.mul_pos h h
 have h2:=mul_self_nn m
 exact lI 0x138e1211c13cf1212013cf10e3840a12e2 h1 h2
theorem nn_ok{n m:Int}(h:0≤n∧n<9):0<(1+n)*(1+n)+m*m:=sq_p (by exact fun o_=>lI 0x2106104e0812413a11e1 h.1 o_)
theorem way_n{m n:Int}(h:WayOk m n):0<n*n+m*m:=by
 rw[Int.add_comm]
 exact sq_p (by rcases h with⟨h,_⟩ |⟨h,_⟩ |⟨h,_⟩;exact fun o_=>lI 0x2104e0498413a11e1 h.1 o_;exact fun o_=>lI 0x2104e04984114e841261 h o_;exact fun o_=>lI 0x2104e04984114e841261 h o_)
theorem way_n0{m n:Int}(h:WayOk m n):0<n*n+(0-m)*(0-m):=by
 rw[Int.add_comm]
 exact sq_p (by rcases h with⟨h,_⟩ |⟨h,_⟩ |⟨h,_⟩;exact fun o_=>lI 0x8411413830498413a11e1 h.1 o_;exact fun o_=>lI 0x84114138304984114e841261 h o_;exact fun o_=>lI 0x84114138304984114e841261 h o_)
theorem three_of{v:Int}(h:0≤v∧v<3):v=0∨v=1∨v=2:=(Int.lt_or_le v 1).elim (fun k=> .inl (by exact Int.le_antisymm (lI 0x3a106120e0612a1 k) (lI 0x13a11c13a12a1 h.1))) fun k=> .inr ((Int.lt_or_le v 2).elim (fun k=> .inl (by omega)) fun k=> .inr (by exact Int.le_antisymm (lI 0xe8c18483a20612a1 h.2) (lI 0x2204e8478813a12a1 k)))
theorem way_a{m n:Int}(h:0≤m∧m<9)(k:0≤n∧n<9):WayOk (1+m) (1+n):= .inl (by exact⟨⟨lI 0x13a11e106104e0a12a1 h.1,lI 0x3a906122104e0a90612a1 h.2⟩,⟨lI 0x13a11e106104e0a12a1 k.1,lI 0x3a906122104e0a90612a1 k.2⟩⟩)
theorem way_b{t:Int}(h:0≤t∧t<6):WayOk 1 (10^(1+t).toNat):= .inr (.inl ⟨rfl,1+t,by exact lI 0x13a11e106104e0a12a1 h.1,by exact lI 0x3a606122104e0a60612a1 h.2,rfl⟩)
theorem way_c:WayOk 1 0:= .inr (.inr ⟨rfl,rfl⟩)
theorem ite_t{b:Bool}(h:b=true)(m:Int):m=if b then m else 0-m:=(if_pos h).symm
theorem ite_f{b:Bool}(h:b=false)(m:Int):0-m=if b then m else 0-m:=by rw[h];rfl
theorem cen_ok{e t u:Int}(h1:0≤e∧e<7)(h2:0≤t∧t<19)(h3:0≤u∧u<7):CenOk ((frac (10^e.toNat*(t-9)) (1+u)).1,(frac (10^e.toNat*(t-9)) (1+u)).2):=⟨e,t-9,1+u,by exact⟨lI 0x13a11c13a12a1 h1.1,lI 0xe9c18483a60612a1 h1.2⟩,by exact⟨lI 0x4e847a4114ea410e12a1 h2.1,lI 0x3b306120ea410e90612a1 h2.2⟩,by exact⟨lI 0x13a11e106104e0a12a1 h3.1,lI 0x3a706122104e0a70612a1 h3.2⟩,rfl⟩
theorem rad_of{s e f:Int}{r:Pr}(h1:0≤s∧s<9)(h2:0≤e∧e<8)(h3:0≤f∧f<10)(h:r=frac (1+s) (10^e.toNat)∨r=frac ((1+s)*10^f.toNat) 1):RadOk r:=
 h.elim (fun h=>⟨1+s,e,by exact⟨lI 0x13a11e106104e0a12a1 h1.1,lI 0x3a906122104e0a90612a1 h1.2⟩,.inl ⟨h2.1,by exact lI 0xea018483a70612a1 h2.2,h⟩⟩) fun h=>⟨1+s,f,by exact⟨lI 0x13a11e106104e0a12a1 h1.1,lI 0x3a906122104e0a90612a1 h1.2⟩,.inr ⟨h3.1,by exact lI 0xea818483a90612a1 h3.2,h⟩⟩
theorem turnD_of{d:Int}(h:(d=0∨d=30)∨d=77∨d= -200):TurnD d:=h.elim (fun h=>h.elim .inl fun e=> .inr (.inl e)) fun h=> .inr (.inr h)
theorem frac_d{d:Int}(h:TurnD d):(frac d 1).2=1∧(frac d 1).1=d:=by
 rcases h with e |e |e |e <;> subst e <;> decide
theorem shape_a{r:Pr}{t:Int}(hR:RadOk r)(h:0≤t∧t<9):ShapeOk r (timesF r (frac (1+t) 4)) 0:=⟨hR,.inr ⟨rfl,1+t,by exact lI 0x13a11e106104e0a12a1 h.1,by exact lI 0x3a906122104e0a90612a1 h.2,rfl⟩⟩
theorem shape_b{r:Pr}{d:Int}(hR:RadOk r)(h:TurnD d):ShapeOk r r d:=⟨hR,.inl ⟨rfl,h⟩⟩
theorem draw_use(hD:DrawAll){rx ry cx cy:Pr}{V0 W0 X:Pt}{m0 n0 m n m' d:Int}{sw large:Bool}(hd:TurnD d)(h1:ShapeOk rx ry d)(h2:CenOk cx)(h3:CenOk cy)(h4:0≤m0∧m0<9)(h5:0≤n0∧n0<9)(h6:WayOk m n)
  (eV:V0=wayF m0 (1+n0))(eX:X=wayF m' n)(eW:W0=turnF V0 X)(em:m'=if sw != large then m else 0-m):(frac d 1).2=1∧ArcD (rx,ry) (cx,cy) V0 W0 (frac d 1).1 sw large:=by
 have e:=frac_d hd
 refine⟨e.1,?_⟩
 rw[e.2,eW,eX,eV,em]
 exact hD _ _ _ _ _ _ _ _ _ _ _ h1 h2 h3 (by exact⟨lI 0x13a11c13a12a1 h4.1,lI 0xea418483a80612a1 h4.2⟩) (by exact⟨lI 0x13a11e106104e0a12a1 h5.1,lI 0x3a906122104e0a90612a1 h5.2⟩) h6
noncomputable def F_drawn:SF:=fun ss as K=>pool2 ((as=[]∧DrawAll)∧∀a' b':Int,K (.bool true) (plV a' b')) ss
theorem ok_drawn{w:World}:SnOk w 422 28 F_drawn:=SnOk.of ok_drawn0 fun ss as K hs hk hF=>by
 obtain⟨a,b,i1,⟨e0,hD⟩,hG⟩:=pool2.kw hF hs
 subst e0
 refine⟨_,_,⟨i1,.nil⟩,?_⟩
 clear i1 hs hk hF
 refine fun v1 a1 b1 h1=>?_
 refine fun v2 a2 b2 h2=>?_
 refine fun v3 a3 b3 h3=>?_
 refine fun R a4 b4 hR=>?_
 have hR:=rad_of h1 h2 h3 hR
 refine fun d a5 b5 hd=>?_
 have hd:=turnD_of hd
 refine fun v4 a6 b6 h4=>?_
 refine br_both (fun h=>?_) (fun h=>?_)
 ·refine fun v5 a7 b7 h5=>?_
  refine fun v6 a8 b8 h6=>?_
  refine fun t1 a9 b9 k1=>?_
  refine fun u1 a10 b10 k2=>?_
  refine fun t2 a11 b11 k3=>?_
  refine fun u2 a12 b12 k4=>?_
  refine fun m0 a13 b13 l1=>?_
  refine fun n0 a14 b14 l2=>?_
  refine⟨nn_ok l2,?_⟩
  refine ex_eq fun V0 eV=>?_
  refine fun wy a15 b15 l3=>?_
  refine fun m a16 b16 l4=>?_
  refine fun n a17 b17 l5=>?_
  refine fun nh a18 b18 l6=>?_
  refine(three_of l3).elim (fun e=>?_) fun l3=>l3.elim (fun e=>?_) fun e=>?_
  ·subst e
   have hW:=way_a l4 l5
   refine fun s1 a19 b19 o1_=>?_
   refine fun s2 a20 b20 o1_=>?_
   refine br_both (fun z=>?_) (fun z=>?_)
   ·refine⟨way_n hW,?_⟩
    refine ex_eq fun X eX=>?_
    refine ex_eq fun W0 eW=>?_
    exact⟨draw_use hD (.inl rfl) (shape_a hR h5) (cen_ok h6 k1 k2) (cen_ok h6 k3 k4) l1 l2 hW eV eX eW (ite_t z _),_,_,⟨Imp.refl,Imps.refl⟩,hG _ _⟩
   ·refine⟨way_n0 hW,?_⟩
    refine ex_eq fun X eX=>?_
    refine ex_eq fun W0 eW=>?_
    exact⟨draw_use hD (.inl rfl) (shape_a hR h5) (cen_ok h6 k1 k2) (cen_ok h6 k3 k4) l1 l2 hW eV eX eW (ite_f z _),_,_,⟨Imp.refl,Imps.refl⟩,hG _ _⟩
  ·subst e
   have hW:=way_b l6
   refine fun s1 a19 b19 o1_=>?_
   refine fun s2 a20 b20 o1_=>?_
   refine br_both (fun z=>?_) (fun z=>?_)
   ·refine⟨way_n hW,?_⟩
    refine ex_eq fun X eX=>?_
    refine ex_eq fun W0 eW=>?_
    exact⟨draw_use hD (.inl rfl) (shape_a hR h5) (cen_ok h6 k1 k2) (cen_ok h6 k3 k4) l1 l2 hW eV eX eW (ite_t z _),_,_,⟨Imp.refl,Imps.refl⟩,hG _ _⟩
   ·refine⟨way_n0 hW,?_⟩
    refine ex_eq fun X eX=>?_
    refine ex_eq fun W0 eW=>?_
    exact⟨draw_use hD (.inl rfl) (shape_a hR h5) (cen_ok h6 k1 k2) (cen_ok h6 k3 k4) l1 l2 hW eV eX eW (ite_f z _),_,_,⟨Imp.refl,Imps.refl⟩,hG _ _⟩
  ·subst e
   have hW:=way_c
   refine fun s1 a19 b19 o1_=>?_
   refine fun s2 a20 b20 o1_=>?_
   refine br_both (fun z=>?_) (fun z=>?_)
   ·refine⟨way_n hW,?_⟩
    refine ex_eq fun X eX=>?_
    refine ex_eq fun W0 eW=>?_
    exact⟨draw_use hD (.inl rfl) (shape_a hR h5) (cen_ok h6 k1 k2) (cen_ok h6 k3 k4) l1 l2 hW eV eX eW (ite_t z _),_,_,⟨Imp.refl,Imps.refl⟩,hG _ _⟩
   ·refine⟨way_n0 hW,?_⟩
    refine ex_eq fun X eX=>?_
    refine ex_eq fun W0 eW=>?_
    exact⟨draw_use hD (.inl rfl) (shape_a hR h5) (cen_ok h6 k1 k2) (cen_ok h6 k3 k4) l1 l2 hW eV eX eW (ite_f z _),_,_,⟨Imp.refl,Imps.refl⟩,hG _ _⟩
 ·skip
  refine fun v6 a8 b8 h6=>?_
  refine fun t1 a9 b9 k1=>?_
  refine fun u1 a10 b10 k2=>?_
  refine fun t2 a11 b11 k3=>?_
  refine fun u2 a12 b12 k4=>?_
  refine fun m0 a13 b13 l1=>?_
  refine fun n0 a14 b14 l2=>?_
  refine⟨nn_ok l2,?_⟩
  refine ex_eq fun V0 eV=>?_
  refine fun wy a15 b15 l3=>?_
  refine fun m a16 b16 l4=>?_
  refine fun n a17 b17 l5=>?_
  refine fun nh a18 b18 l6=>?_
  refine(three_of l3).elim (fun e=>?_) fun l3=>l3.elim (fun e=>?_) fun e=>?_
  ·subst e
   have hW:=way_a l4 l5
   refine fun s1 a19 b19 o1_=>?_
   refine fun s2 a20 b20 o1_=>?_
   refine br_both (fun z=>?_) (fun z=>?_)
   ·refine⟨way_n hW,?_⟩
    refine ex_eq fun X eX=>?_
    refine ex_eq fun W0 eW=>?_
    exact⟨draw_use hD hd (shape_b hR hd) (cen_ok h6 k1 k2) (cen_ok h6 k3 k4) l1 l2 hW eV eX eW (ite_t z _),_,_,⟨Imp.refl,Imps.refl⟩,hG _ _⟩
   ·refine⟨way_n0 hW,?_⟩
    refine ex_eq fun X eX=>?_
    refine ex_eq fun W0 eW=>?_
    exact⟨draw_use hD hd (shape_b hR hd) (cen_ok h6 k1 k2) (cen_ok h6 k3 k4) l1 l2 hW eV eX eW (ite_f z _),_,_,⟨Imp.refl,Imps.refl⟩,hG _ _⟩
  ·subst e
   have hW:=way_b l6
   refine fun s1 a19 b19 o1_=>?_
   refine fun s2 a20 b20 o1_=>?_
   refine br_both (fun z=>?_) (fun z=>?_)
   ·refine⟨way_n hW,?_⟩
    refine ex_eq fun X eX=>?_
    refine ex_eq fun W0 eW=>?_
    exact⟨draw_use hD hd (shape_b hR hd) (cen_ok h6 k1 k2) (cen_ok h6 k3 k4) l1 l2 hW eV eX eW (ite_t z _),_,_,⟨Imp.refl,Imps.refl⟩,hG _ _⟩
   ·refine⟨way_n0 hW,?_⟩
    refine ex_eq fun X eX=>?_
    refine ex_eq fun W0 eW=>?_
    exact⟨draw_use hD hd (shape_b hR hd) (cen_ok h6 k1 k2) (cen_ok h6 k3 k4) l1 l2 hW eV eX eW (ite_f z _),_,_,⟨Imp.refl,Imps.refl⟩,hG _ _⟩
  ·subst e
   have hW:=way_c
   refine fun s1 a19 b19 o1_=>?_
   refine fun s2 a20 b20 o1_=>?_
   refine br_both (fun z=>?_) (fun z=>?_)
   ·refine⟨way_n hW,?_⟩
    refine ex_eq fun X eX=>?_
    refine ex_eq fun W0 eW=>?_
    exact⟨draw_use hD hd (shape_b hR hd) (cen_ok h6 k1 k2) (cen_ok h6 k3 k4) l1 l2 hW eV eX eW (ite_t z _),_,_,⟨Imp.refl,Imps.refl⟩,hG _ _⟩
   ·refine⟨way_n0 hW,?_⟩
    refine ex_eq fun X eX=>?_
    refine ex_eq fun W0 eW=>?_
    exact⟨draw_use hD hd (shape_b hR hd) (cen_ok h6 k1 k2) (cen_ok h6 k3 k4) l1 l2 hW eV eX eW (ite_f z _),_,_,⟨Imp.refl,Imps.refl⟩,hG _ _⟩
theorem root_eq{n r:Int}(h0:0≤r)(h1:r*r≤n)(h2:n<(r+1)*(r+1)):rootI n=r:=by
 have hn:0≤n:=Int.le_trans (Int.mul_nonneg h0 h0) h1
 exact(root_unique hn h0 h1 h2).symm
noncomputable abbrev fxV:Pr:=(-1729382256910,-1152921504605549939)
noncomputable abbrev fxW:Pr:=(1729382256910,-1152921504605549939)
theorem fx_hs:halfSine fxV fxW=1729382256910:=by
 unfold halfSine
 rw[show(dotI (fxW.1-fxV.1,fxW.2-fxV.2) (fxW.1-fxV.1,fxW.2-fxV.2)*PARTS*PARTS).fdiv (4*dotI fxV fxV)=2990762990515125244342505 by decide +kernel]
 exact root_eq (by decide) (by decide) (by decide)
theorem fx_hc:halfCosine fxV fxW=1152921504605549939:=by
 unfold halfCosine
 rw[fx_hs,show(if PARTS*PARTS-1729382256910*1729382256910>0 then PARTS*PARTS-1729382256910*1729382256910 else 0)=(1329227995781925109913291935037596476:Int) by decide +kernel]
 exact root_eq (by decide) (by decide) (by decide)
theorem fx_h:handleF fxV fxW=1152921504607:=by
 unfold handleF
 rw[fx_hs,fx_hc]
 decide +kernel
theorem fx_piece:pieceF fxV fxW true=((-576460752305,-1152921504607279322),(576460752305,-1152921504607279321)):=by
 unfold pieceF
 rw[fx_h]
 decide +kernel
theorem fx_cen:centreF (3458764513820,0) false true=(1729382256910,1152921504605549939):=by
 unfold centreF shareF
 rw[show((4*PARTS*PARTS-sizeF (3458764513820,0))*PARTS*PARTS).fdiv (sizeF (3458764513820,0))=590767998125484833301801664643570617837647793447 by decide +kernel,
  root_eq (r:=768614336403820165760433) (by decide) (by decide) (by decide)]
 decide +kernel
noncomputable abbrev fxE:El:=⟨1152921504606846976000000,1152921504606846976000000,1152921504606846976,0⟩
noncomputable abbrev fxC:Pr:=(1729382256910,1152921504605549939)
noncomputable abbrev fxO:Pr:=(3458764513820,0)
noncomputable abbrev fxA:AQ:=⟨((1,1),(0,1)),1048576,1152921504606846976000000,1152921504606846976000000,1152921504606846976,0,fxO,fxC⟩
theorem fx_q:ArcQ ((0,1),(0,1)) (1000000,1) (1000000,1) false true ((3,1),(0,1)) fxA:=
 ⟨by decide,by decide,by decide +kernel,by decide +kernel,by decide +kernel,by decide +kernel,by decide +kernel,by decide +kernel,by decide,by decide,by decide +kernel,by decide +kernel,by decide +kernel,by decide +kernel,by decide +kernel,fx_cen.symm,by decide +kernel,by decide +kernel,by decide +kernel,by decide +kernel⟩
noncomputable abbrev fxX:Cv:=(((0,1),(0,1)),((1,1),(-1,524288)),((2,1),(-1,524288)),((3,1),(0,1)))
theorem fx_arc:arcC ((0,1),(0,1)) true ((3,1),(0,1)) fxA=[fxX]:=by
 show curvesGo fxE fxC ((0,1),(0,1)) ((3,1),(0,1)) 1048576 true ((0,1),(0,1)) (vectorsF (0-fxC.1,0-fxC.2) (fxO.1-fxC.1,fxO.2-fxC.2) true)=_
 rw[show vectorsF (0-fxC.1,0-fxC.2) (fxO.1-fxC.1,fxO.2-fxC.2) true=[fxV,fxW] by decide +kernel]
 show[((((0:Int),(1:Int)),((0:Int),(1:Int))),pointF fxE fxC (pieceF fxV fxW true).1 ((0,1),(0,1)) 1048576,pointF fxE fxC (pieceF fxV fxW true).2 ((0,1),(0,1)) 1048576,(((3:Int),(1:Int)),((0:Int),(1:Int))))]=_
 rw[fx_piece,show pointF fxE fxC ((-576460752305,-1152921504607279322),(576460752305,-1152921504607279321)).1 ((0,1),(0,1)) 1048576=((1,1),(-1,524288)) by decide +kernel,
  show pointF fxE fxC ((-576460752305,-1152921504607279322),((576460752305:Int),(-1152921504607279321:Int))).2 ((0,1),(0,1)) 1048576=((2,1),(-1,524288)) by decide +kernel]
noncomputable abbrev fyE:El:=⟨1934281311383406680,1934281311383406680,1152921504606846976,0⟩
noncomputable abbrev fyV:Pr:=(-57646075230342348785989379,0)
noncomputable abbrev fyU:Pr:=(0,-57646075230342348785989379)
noncomputable abbrev fyW:Pr:=(57646075230342348785989380,0)
noncomputable abbrev fyK:Pr:=(57646075230342348785989379,0)
noncomputable abbrev fyO:Pr:=(115292150460684697571978759,0)
noncomputable abbrev fyX1:Cv:=(((0,1),(0,1)),pointF fyE fyK (pieceF fyV fyU true).1 ((0,1),(0,1)) 17592186044416,pointF fyE fyK (pieceF fyV fyU true).2 ((0,1),(0,1)) 17592186044416,((5,1),(-5,1)))
noncomputable abbrev fyX2:Cv:=(((5,1),(-5,1)),pointF fyE fyK (pieceF fyU fyW true).1 ((0,1),(0,1)) 17592186044416,pointF fyE fyK (pieceF fyU fyW true).2 ((0,1),(0,1)) 17592186044416,((10,1),(0,1)))
noncomputable abbrev fyA:AQ:=⟨((1,1),(0,1)),17592186044416,1934281311383406680,1934281311383406680,1152921504606846976,0,fyO,fyK⟩
theorem fy_q:ArcQ ((0,1),(0,1)) (1,10000000) (1,10000000) false true ((10,1),(0,1)) fyA:=
 ⟨by decide,by decide,by decide +kernel,by decide +kernel,by decide +kernel,by decide +kernel,by decide +kernel,by decide +kernel,by decide,by decide,by decide +kernel,by decide +kernel,by decide +kernel,by decide +kernel,by decide +kernel,by decide +kernel,by decide +kernel,by decide +kernel,by decide +kernel,by decide +kernel⟩
theorem fy_arc:arcC ((0,1),(0,1)) true ((10,1),(0,1)) fyA=[fyX1,fyX2]:=by
 show curvesGo fyE fyK ((0,1),(0,1)) ((10,1),(0,1)) 17592186044416 true ((0,1),(0,1)) (vectorsF (0-fyK.1,0-fyK.2) (fyO.1-fyK.1,fyO.2-fyK.2) true)=_
 rw[show vectorsF (0-fyK.1,0-fyK.2) (fyO.1-fyK.1,fyO.2-fyK.2) true=[fyV,fyU,fyW] by decide +kernel]
 have e:pointF fyE fyK fyU ((0,1),(0,1)) 17592186044416=((5,1),(-5,1)):=by decide +kernel
 show[((((0:Int),(1:Int)),((0:Int),(1:Int))),pointF fyE fyK (pieceF fyV fyU true).1 ((0,1),(0,1)) 17592186044416,pointF fyE fyK (pieceF fyV fyU true).2 ((0,1),(0,1)) 17592186044416,pointF fyE fyK fyU ((0,1),(0,1)) 17592186044416),
  (pointF fyE fyK fyU ((0,1),(0,1)) 17592186044416,pointF fyE fyK (pieceF fyU fyW true).1 ((0,1),(0,1)) 17592186044416,pointF fyE fyK (pieceF fyU fyW true).2 ((0,1),(0,1)) 17592186044416,(((10:Int),(1:Int)),((0:Int),(1:Int))))]=[fyX1,fyX2]
 rw[e]
theorem fx_use{P Q:Pt}{RX RY:Pr}{d e:Int}{K:List Cv→Prop}(h1:P=((0,1),(0,1)))(h2:RX=(1000000,1))(h3:RY=(1000000,1))(h4:(d,e)=(0,1))(h5:Q=((3,1),(0,1)))(h:K [fxX]):Q11 P RX RY d e false true Q K:=by
 cases h4
 subst h1 h2 h3 h5
 rw[←fx_arc] at h
 exact⟨fxA,⟨rfl,rfl⟩,fx_q,h⟩
theorem fy_use{P Q:Pt}{RX RY:Pr}{d e:Int}{K:List Cv→Prop}(h1:P=((0,1),(0,1)))(h2:RX=(1,10000000))(h3:RY=(1,10000000))(h4:(d,e)=(0,1))(h5:Q=((10,1),(0,1)))(h:K [fyX1,fyX2]):Q11 P RX RY d e false true Q K:=by
 cases h4
 subst h1 h2 h3 h5
 rw[←fy_arc] at h
 exact⟨fyA,⟨rfl,rfl⟩,fy_q,h⟩
noncomputable def F_fixed0:PF:=aF G21 [] zipB f436 40
theorem ok_fixed0{w:World}:FnOk w 436 28 F_fixed0:=aF.ok (by decide) G21.ok MthOk.nil (by w_on) (by w_on) (by w_on) rfl (by with_unfolding_all decide) (BndOk.zip (len0  rfl))
theorem bool_fin{K:V→Prop}{z:Bool}(e:z=true)(h:K (.bool true)):∃r',Imp (.bool z) r'∧K r':=by
 subst e
 exact⟨_,Imp.refl,h⟩
noncomputable def F_fixed:PF:=fun as K=>as=[]∧K (.bool true)
theorem ok_fixed{w:World}:FnOk w 436 28 F_fixed:=FnOk.of ok_fixed0 fun as K hk ⟨e0,hG⟩=>by
 subst e0
 refine⟨_,.nil,?_⟩
 refine fx_use (by decide +kernel) (by decide +kernel) (by decide +kernel) (by decide +kernel) (by decide +kernel) ?_
 refine br_f (by decide +kernel) (br_f (by decide +kernel) (br_f rfl ?_))
 refine br_f (by decide +kernel) (br_f (by decide +kernel) (br_f rfl ?_))
 refine fy_use (by decide +kernel) (by decide +kernel) (by decide +kernel) (by decide +kernel) (by decide +kernel) ?_
 refine br_t rfl ?_
 exact bool_fin (by decide +kernel) hG
noncomputable abbrev itV(n:Int):V:= .int n none none
noncomputable def F_pool:NF:=fun as K=>w2 (fun u v=>match u with
 |.lst vs=>asI (fun k o1_ o2_=>(∃ns:List Int,vs=ns.map itV∧Nat.ble ns.length 1000=true∧(k=0∨k=1))∧∀a b:Int,K (plV a b)) v
 |_=>False) as
theorem map_len{ns:List Int}(h:Nat.ble ns.length 1000=true):Nat.ble (ns.map itV).length 1000=true:=by rw[List.length_map];exact h
theorem pool_mul{b:Int}{z:Bool}:IntMulOk b (if z then 1 else 0):=IntMulOk.of_right (by split <;> decide)
theorem ok_pool{w:World}:NnOk w 341 24 F_pool:=NnOk.of ok_law_pool fun as K hk hF=>by
 obtain⟨u,v,e0,g⟩:=w2.ok hF
 subst e0
 cases u with
 |lst vs=>
  obtain⟨kz1,bk,lk,e0,kk,⟨nsz2,e1,hn,h01⟩,hG⟩:=asI.kw (k:=fun k o1_ o2_=>(∃ns:List Int,vs=ns.map itV∧Nat.ble ns.length 1000=true∧(k=0∨k=1))∧∀a b:Int,K (plV a b)) g hk.cons.2.cons.1
  subst e0 e1
  refine⟨[.lst (nsz2.map itV),.int kz1 (some 1) (some 0)],.cons Imp.refl (.cons (.int (by rcases h01 with e |e <;> subst e <;> exact .bn (by decide) (by decide))) .nil),?_⟩
  have fin:∀{x y:Int} {b1 l1 l2:Option Nat},∃vs':List V,Imps [.int x b1 l1,.int y (some 31) l2] vs'∧K vs':=fun{x y _ _ _}=>⟨_,.cons (.int .no) (.cons (.w rfl) .nil),hG x y⟩
  rcases h01 with e |e
  ·subst e
   induction nsz2 using List.casesOn with
   |nil=>
    refine br_f rfl ?_
    exact fin
   |cons x r=>
    refine cnd_t (map_len hn) ?_
    refine br_t (decide_eq_true (by simp only[List.map_cons,List.length_cons];omega)) ?_
    refine⟨pool_mul,?_⟩
    exact fin
  ·subst e
   induction nsz2 using List.casesOn with
   |nil=>
    refine br_f rfl ?_
    exact fin
   |cons x r=>
    induction r using List.casesOn with
    |nil=>
     refine br_f rfl ?_
     exact fin
    |cons y r=>
     refine cnd_t (map_len hn) ?_
     refine br_t (decide_eq_true (by simp only[List.map_cons,List.length_cons];omega)) ?_
     refine⟨pool_mul,?_⟩
     exact fin
 |_=>exact g.elim
noncomputable def G22:Gam:=("_law_fixed_right",.p F_fixed)::("_law_drawn_right",.s F_drawn)::("_law_pool",.n F_pool)::G21
theorem G22.ok{w:World}:GamOk w G22 28:=(((G21.ok).cons (F:= .n F_pool) (d':=28) (by decide) (by decide) rfl (by w_on) ok_pool).cons (F:= .s F_drawn) (d':=28) (by decide) (by decide) rfl (by w_on) ok_drawn).cons (F:= .p F_fixed) (d':=28) (by decide) (by decide) rfl (by w_on) ok_fixed
noncomputable def lawScope:Scope:=(show{x:Scope // x=fdS f443} by refine' ⟨_,?h⟩;case h=>(conv=>rhs;whnf)).1
noncomputable def lawR1:List Stmt:=(show{x:List Stmt // x=fdB f443} by refine' ⟨_,?h⟩;case h=>(conv=>rhs;whnf)).1
noncomputable def RowOk(cx cy:Pr)(m0 n0 m n d:Int)(large:Bool):Prop:=ArcD ((5,1),(5,1)) (cx,cy) (wayF m0 n0) (turnF (wayF m0 n0) (wayF m n)) d true large
theorem row1:RowOk (100005,1) (0,1) 1 0 1 0 30 false:=way_arc (m:=1) (σ:=1) (by decide) (by decide) (by simp) (by decide) (by decide) (by decide) (by decide) ⟨by decide +kernel,by decide +kernel⟩ ⟨by decide +kernel,by decide +kernel⟩ (by decide) (by decide) ⟨by decide +kernel,by decide +kernel⟩ ⟨by decide +kernel,by decide +kernel⟩ (.inr (.inl rfl)) (.inr rfl) (by decide) (by decide) (by decide) (by decide) (by decide) (by decide) (by decide) (by decide)
theorem row2:RowOk (3,1) (4,1) (-2) 1 1 0 0 false:=way_arc (m:=1) (σ:=1) (by decide) (by decide) (by simp) (by decide) (by decide) (by decide) (by decide) ⟨by decide +kernel,by decide +kernel⟩ ⟨by decide +kernel,by decide +kernel⟩ (by decide) (by decide) ⟨by decide +kernel,by decide +kernel⟩ ⟨by decide +kernel,by decide +kernel⟩ (.inl rfl) (.inr rfl) (by decide) (by decide) (by decide) (by decide) (by decide) (by decide) (by decide) (by decide)
theorem row3:RowOk (100005,1) (0,1) 0 1 (-1) 100000 0 true:=way_arc (m:=1) (σ:= -1) (by decide) (by decide) (by simp) (by decide) (by decide) (by decide) (by decide) ⟨by decide +kernel,by decide +kernel⟩ ⟨by decide +kernel,by decide +kernel⟩ (by decide) (by decide) ⟨by decide +kernel,by decide +kernel⟩ ⟨by decide +kernel,by decide +kernel⟩ (.inl rfl) (.inr rfl) (by decide) (by decide) (by decide) (by decide) (by decide +kernel) (by decide) (by decide) (by decide)
theorem row_use{R C V0 W0 X:Pt}{d e m' n':Int}{large:Bool}{cx cy:Pr}{m0 n0 m n d0:Int}(eV:V0=wayF m0 n0)(eX:X=wayF m' n')(eW:W0=turnF V0 X)(h:RowOk cx cy m0 n0 m n d0 large)(hm:(m',n')=(m,n))(hR:R=((5,1),(5,1)))(hC:C=(cx,cy))(hd:(d,e)=(d0,1)):e=1∧ArcD R C V0 W0 d true large:=by
 cases hd
 cases hm
 subst eV eX eW hR hC
 exact⟨rfl,h⟩
theorem law_walk(hD:DrawAll){ns:List Int}(hn:Nat.ble ns.length 1000=true):wS G22 [] lawScope.names [] 40 [("script",.lst (ns.map itV))] [] lawR1 (fun o1_ o2_=>False) (fun v o1_=>v= .bool true):=by
 refine⟨rfl,?_⟩
 refine br_f rfl ?_
 refine⟨by decide +kernel,ex_eq fun V1 eV=>⟨by decide +kernel,ex_eq fun X1 eX=>ex_eq fun W1 eW=>⟨row_use eV eX eW row1 (by decide +kernel) (by decide +kernel) (by decide +kernel) (by decide +kernel),?_⟩⟩⟩
 refine br_f rfl ?_
 refine⟨by decide +kernel,ex_eq fun V2 eV=>⟨by decide +kernel,ex_eq fun X2 eX=>ex_eq fun W2 eW=>⟨row_use eV eX eW row2 (by decide +kernel) (by decide +kernel) (by decide +kernel) (by decide +kernel),?_⟩⟩⟩
 refine br_f rfl ?_
 refine⟨by decide +kernel,ex_eq fun V3 eV=>⟨by decide +kernel,ex_eq fun X3 eX=>ex_eq fun W3 eW=>⟨row_use eV eX eW row3 (by decide +kernel) (by decide +kernel) (by decide +kernel) (by decide +kernel),?_⟩⟩⟩
 refine br_f rfl ?_
 induction ns using List.casesOn with
 |nil=>
  refine⟨⟨[],rfl,rfl,.inl rfl⟩,fun a b=>?_⟩
  refine⟨⟨rfl,hD⟩,fun a' b'=>?_⟩
  refine br_f rfl ?_
  exact rfl
 |cons x r=>
  cases r with
  |nil=>
   refine⟨⟨[x],rfl,rfl,.inl rfl⟩,fun a b=>?_⟩
   refine⟨⟨rfl,hD⟩,fun a' b'=>?_⟩
   refine br_f rfl ?_
   exact rfl
  |cons y r=>
   refine cnd_t (map_len hn) ?_
   refine⟨⟨x::y::r,rfl,hn,.inl rfl⟩,fun a b=>?_⟩
   refine⟨⟨rfl,hD⟩,fun a' b'=>?_⟩
   refine br_f rfl ?_
   refine⟨⟨x::y::r,rfl,hn,.inr rfl⟩,fun a2 b2=>?_⟩
   refine⟨⟨rfl,hD⟩,fun a3 b3=>?_⟩
   refine br_f rfl ?_
   exact rfl
theorem lit_int{h:Heap}{v:Value}{n:Int}(r:ReadsLit h v (WData.int n) []):∃t,v= .int n t:=by
 cases r
 exact⟨_,rfl⟩
theorem mg_ok{mg:Str→Option Value}{h:Heap}(V:LooseAre lits mg h):MgOk mg:=
 have g:∀{x:Str} {n:Int},(x,WData.int n)∈lits→∃t,mg x=some (.int n t):=fun hm=>(V.val _ hm).elim fun v q=>(lit_int q.2).elim fun t e=>⟨t,e▸q.1⟩
 ⟨g (.head _),g (.tail _ (.head _)),g (.tail _ (.tail _ (.head _)))⟩
theorem post1(args ds:List WData):PySem.Challenge.rw_qz0061_01.row.claim.post args (WData.bool true) ds=true:=by
 show(WShape.has PySem.Challenge.rw_qz0061_01.row.records (WData.bool true) .bool&&(WTm.eq .res (.lit (.bool true))).holds PySem.Challenge.rw_qz0061_01.row.records {args:=args,res:=some (WData.bool true),after:=ds})=true
 refine Bool.and_eq_true_iff.mpr ⟨?_,?_⟩
 ·first |rfl |(simp[WShape.has];done) |(unfold WShape.has;rfl)
 ·unfold WTm.holds
  first |rfl |w_on |(simp[WTm.value];done) |(unfold WTm.value;rfl)
noncomputable def noL:Value→Bool
 |.type s=>!(s == "list")
 |_=>true
theorem K_noL(P:Params):((Mine.K P).all fun p=>noL p.2.cls)=true:=by w_on
theorem look_all{p:Addr×Obj→Bool}{a:Addr}{o:Obj}:∀{l:List (Addr×Obj)},l.all p=true→List.lookup a l=some o→p (a,o)=true
 |[],_,h=>by cases h
 |(b,q)::r,h,e=>by
  rw[List.all_cons,Bool.and_eq_true] at h
  rw[List.lookup] at e
  cases hh:a==b with
  |true=>rw[hh] at e;cases e;cases eq_of_beq hh;exact h.1
  |false=>rw[hh] at e;exact look_all h.2 e
theorem reps_ints{w:World}{fz:Led}{svs:List Value}{sns:List Int}(h:IntsAre svs sns):Reps w fz (sns.map itV) svs:=by
 induction h with
 |nil=>exact .nil
 |cons o1_ o2_ o3_ ih=>exact .cons (.int .no) ih
theorem law_end{w:World}{mean:ExcName→Option Value}{mg mb:Str→Option Value}{g:Heap}{L f:Addr}{cdv:Value}{qual:Str}{sl:Addr}{svs:List Value}{sns:List Int}{m:Mp}{s:Shared}{Q:Flow→Shared→Prop}{E:Value→Shared→Prop}
  (T:Top view LS mean mg mb g)(X:(K w.params).In g)(V:LooseAre lits mg g)(hL:g.IsList sl svs.toArray)(hI:IntsAre svs sns)(hn:¬((63:Nat):Int)<(sns.length:Int))(F:Fr g L s.heap m)(N:News g L s.heap [])(hm:m "script" =some (.ref sl))
  (pe:PassesOwn (MD w) (callerA.deeper (envOf qual lawScope L f cdv)) (envOf qual lawScope L f cdv) E)
  (q:∀m' l' h' tk',Fr g L h' m'→News g L h' l'→Q (.ret (.bool true)) ⟨h',s.gens,s.drawn,tk',s.os⟩):
  wpAny (MD w) (callerA.deeper (envOf qual lawScope L f cdv)) (execs lawR1 (envOf qual lawScope L f cdv)) Q E s:=by
 obtain⟨O,hO,hc,hd⟩:=hL
 have old:∀b o,(hideAll g [sl]).get? b=some o→g.get? b=some o:=fun b o e=>of_hideAll [sl] e
 have new:∀b o,g.get? b=some o→b≠sl→(hideAll g [sl]).get? b=some o:=fun b o e h=>hideAll_get [sl] e fun hm=>h (List.mem_singleton.mp hm)
 have ns:∀{a:Addr} {m:Str→Option Value},g.Ns a m→(hideAll g [sl]).Ns a m:=fun{a m} h=>by
  obtain⟨o,es,ep,h1,h2,h3⟩:=h
  refine⟨o,es,ep,new _ _ h1 fun e=>?_,h2,h3⟩
  subst e
  rw[hO] at h1
  cases h1
  obtain⟨n,hd⟩:=hd
  rw[hd] at h2
  cases h2
 have T0:=topRead_of T
 have T':TopRead view LS mg mb (hideAll g [sl]):=⟨ns T0.g,ns T0.b,T0.nolimit.imp fun mc h=>⟨ns h.1,h.2⟩,T0.builtins,T0.free⟩
 have X':(K w.params).In (hideAll g [sl]):=fun a o e=>new _ _ (X a o e) fun h=>by
  subst h
  have h1:=X _ _ e
  rw[hO] at h1
  cases h1
  have:=look_all (K_noL w.params) e
  rw[hc] at this
  cases this
 have F':Fr (hideAll g [sl]) L s.heap m:=⟨F.ns,fun b o e=>F.keep _ _ (old _ _ e),Nat.le_trans (Nat.le_of_eq (hideAll_size _ _)) F.above⟩
 have N':News (hideAll g [sl]) L s.heap [(sl,O)]:=fun p hp=>by
  cases List.mem_singleton.mp hp
  exact⟨F.keep _ _ hO,Nat.ne_of_lt (Nat.lt_of_lt_of_le (Heap.lt_size hO) F.above),hideAll_none _ (.head _)⟩
 have ok:Cok (sc:=lawScope) ⟨w,(callerA.deeper (envOf qual lawScope L f cdv)).depth,(callerA.deeper (envOf qual lawScope L f cdv)).units,some [],qual,L,f,cdv,[],callerA,hideAll g [sl],hideAll g [sl],mg,mb⟩ 28:=
  ⟨below_caller _,X',T',mg_ok V,rfl,by rw[depth_deeper];show callerA.depth+1+28<recursionLimit;decide +kernel,by simp only[units_deeper];show callerA.units+3+8*28<cLine;decide +kernel⟩
 have hl:Nat.ble sns.length 1000=true:=Nat.ble_eq_true_of_le (by omega)
 have H:=wS.ok ok (by decide) G22.ok MthOk.nil 40 _ _ _ _ _ (law_walk draw_all hl) [(sl,O)] [(sl,O)] m (fun o1_=>0) [(sl,O)] (fun x a e=>?_) (fun x k e=>by cases e) (Rel.start (Sub.refl _))
 ·unfold TS Cx.env Cx.A at H
  have hcn:∀n,cellsFrom n lawScope.names []=[]:=fun n=>by w_on
  simp only[hcn] at H
  refine H s Q E pe F' N' ?_ ?_
  ·intro v m' l' h' tk' hv F'' N''
   refine hv.elim fun ι' fz' σ' a k hr r o1_ o2_ o3_=>?_
   subst k
   have e:v= .bool true:=by
    cases hr with
    |dat hr=>cases hr;rfl
   subst e
   have h1:=(N'' _ (r.subp _ (.head _))).1
   refine q m' [] h' tk' ⟨F''.ns,fun b o e=>?_,Nat.le_trans (Nat.le_of_eq (hideAll_size _ _).symm) F''.above⟩ News.nil
   rcases Nat.decEq b sl with h |h
   ·exact F''.keep _ _ (new _ _ e h)
   ·subst h
    rw[hO] at e
    cases e
    exact h1
  ·intro m' l' h' tk' p F'' N''
   exact p.elim fun o1_ o2_ o3_ o4_ k o5_ o6_ o7_ o8_ o9_=>k.elim
 ·rw[List.lookup] at e
  cases hh:x==Str.ofString "script" with
  |true=>
   rw[hh] at e
   cases e
   cases eq_of_beq hh
   exact⟨_,.dat (.lst (.head _) ⟨hc,hd⟩ (reps_ints hI)),hm⟩
  |false=>rw[hh] at e;cases e
section
set_option maxHeartbeats 8000000
theorem wellSaid:PySem.Challenge.rw_qz0061_01.wellSaid=true:=by
 rw[Fast.te9446332074065402090]
 delta Fast.tw9446332074065402090 Fast.tw17960256430627541270 Fast.tw2436336058641802641 Fast.tw12908688711261696721
 repeat' (with_reducible refine look_both ?_ ?_)
 rotate_left 4
 as_aux_lemma=>kernel_rfl
 all_goals kernel_rfl
theorem qd1:namesOk view (looseW view loos) (namesW view loos)=true:=by
 rw[Fast.te17448422675489707002,Fast.te821141287760084731];decide +kernel
theorem qd2:importsNone view=true:=by
 rw[Fast.te2458874890965802552];decide +kernel
local macro_rules | `(tactic|k_qdec)=>`(tactic|first |exact qd1 |exact qd2)
theorem hdT:PySem.Challenge.rw_qz0061_01.Holds:=by
 refine holds_law wellSaid fun said=>?_
 refine holds_open (q:=view) (loose:=loos) (Xt:=fun s=>xlAt view lits s&&recOk (RowW.records (OpenRow.toRowW PySem.Challenge.rw_qz0061_01.row)) s) (XP:=XL view lits) (Yf:=Hook.obs hook) (Ya:=Hook.val hook) (YP:=Hook.says hook) (N:=5166) ?hl (Hook.of hook) (Hook.keeps hook) (fun s e=>xl_of s (Bool.and_eq_true_iff.mp e).1) XL.keeps (by rfl) (by rfl) (by rfl) (fun s e=>recFacts_of (Bool.and_eq_true_iff.mp e).2) (by rfl) (by first |assumption |decide +kernel) (by decide +kernel) ⟨rfl,rfl,rfl,rfl,rfl,by decide +kernel⟩ ?hw ?hc
 case hl=>exact leftO
 case hw=>w_witness2
 w_strict (k_go0;(refine' law_end ?T ?X ?V ?hL ?hI ?hn ?F ?N ?hm ?pe ?q);(case T=>assumption);(case X=>assumption);(case V=>assumption);(case hL=>assumption);(case hI=>assumption);(case hn=>assumption);(case F=>assumption);(case N=>assumption);(case hm=>rfl);(case pe=>exact PassesOwn.leaving);(case q=>(intro m' l' h' tk' Fh Nh;(refine' ⟨.inl ⟨.bool true,WData.bool true,[],rfl,?g1,?g2,?g3,?g4⟩,fun b o e=>Fh.keep b o e,rfl,?g5⟩);(case g1=>(intro cls;rfl));(case g2=>constructor);(case g3=>exact post1 _ _);(case g4=>(intro hu;exact⟨List.nodup_nil,fun a ha=>nomatch ha⟩));(case g5=>assumption))))
end
end Mine
theorem PySem.Challenge.cw_qz0061_01_holds : PySem.Challenge.rw_qz0061_01.Holds :=
 Mine.hdT
