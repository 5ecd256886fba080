import PyProof.Rows.All
import Wide.All
import OpenK.AllK
import Wide.FinOn
import KE.KIsAll
import KE.KItem
import KE.KRevSl
import KE.KDictList
import PyProof.CompFree
import PyProof.CompUse
import PyProof.WalksMore
import PyProof.FString5
import PyProof.SliceList
import PyProof.ExcInit
import PyProof.ExcClass3
import PyProof.InstStoreFacts
import PyProof.ExcBaseAll.ValueError
import PyProof.ExcArgsOwn
import KE.KLam
import OpenK.KMore
import Lean
import PySem.Challenge.RW_tn0027_01
section
set_option Elab.async false
set_option linter.all false
set_option genInjectivity false
set_option genSizeOf false
set_option backward.match.sparseCases false
set_option bootstrap.genMatcherCode false
set_option maxRecDepth 100000
set_option maxHeartbeats 4000000
set_option tactic.hygienic false
section
open Option renaming none -> js,some -> oC
open Bool renaming false -> j',and_eq_true -> vd,true -> vi
open Int renaming add_zero -> vk,zero_add -> yd,natCast_nonneg -> Fk,le_refl -> FF,nonpos_of_neg_nonneg -> Hj,sub_nonneg_of_le -> Lf,le_sub_one_of_lt -> Nj,not_lt -> N6,sub_pos_of_lt -> N8,mul_add -> Ou,one_mul -> Q1,neg_mul -> R6,le_antisymm -> TU,not_le -> Um,mul_nonneg -> Xq,add_assoc -> YL,ofNat -> YM,mul_zero -> Zh,zero_mul -> Zq,le_of_eq -> Zs
open Nat renaming le_of_not_lt -> vo,lt_of_not_le -> Oq,le_of_eq -> Zr
open PySem.Str renaming ofString -> IQ
open Option.some renaming inj -> Ul
open PySem renaming Str -> Xr
open PySem PySem.PyData
namespace Mine.Internal
noncomputable section
section
set_option genInjectivity false
section
namespace Y
set_option genCtorIdx false
inductive E where | v (i:Nat) | n (k:Nat) | a (x y:E) | s (x y:E) | g (x:E) | c (x:E) | m (k:Nat) (x:E)
inductive P where | l (x y:E) | t (x y:E) | e (x y:E) | L (x y:E) | T (x y:E) | Q (x y:E) | o (p:P) | r (p:P) | f | k (n:Nat) (p:P)
set_option genCtorIdx true
noncomputable def ga:List Nat->Nat->Nat
 | []=>λo_=>0
 | a::l=>λn=>match n with
  | 0=>a
  | n+1=>ga l n
noncomputable def gi:List Int->Nat->Int
 | []=>λo_=>0
 | a::l=>λn=>match n with
  | 0=>a
  | n+1=>gi l n
noncomputable def E.N (c:List Nat):E->Nat
 | .v i=>ga c i
 | .n k=>k
 | .a x y=>x.N c+y.N c
 | .m k x=>k*x.N c
 | .s .. | .g .. | .c ..=>0
noncomputable def E.Z (c:List Nat) (z:List Int):E->Int
 | .v i=>gi z i
 | .n k=>(k:Int)
 | .a x y=>x.Z c z+y.Z c z
 | .s x y=>x.Z c z - y.Z c z
 | .g x=>- x.Z c z
 | .c x=>(x.N c:Int)
 | .m k x=>(k:Int)*x.Z c z
noncomputable def P.D (c:List Nat) (z:List Int):P->Prop
 | .l x y=>x.N c<=y.N c
 | .t x y=>x.N c < y.N c
 | .e x y=>x.N c=y.N c
 | .L x y=>x.Z c z<=y.Z c z
 | .T x y=>x.Z c z < y.Z c z
 | .Q x y=>x.Z c z=y.Z c z
 | .o p=>¬p.D c z
 | .r p=>p.D c z
 | .f=>False
 | .k _ p=>p.D c z
abbrev LF:=Int×List Int×List Int
noncomputable def dot:List Int->List Int->Int
 | []=>λo_=>0
 | a::l=>λm=>match m with
  | []=>0
  | b::m=>a*b+dot l m
noncomputable def IV:List Int->List Int->List Int
 | []=>λm=>m
 | a::l=>λm=>match m with
  | []=>a::l
  | b::m=>(a+b)::IV l m
noncomputable def un:Nat->List Int
 | 0=> [1]
 | n+1=>0::un n
noncomputable def HD (k:Int):List Int->List Int
 | []=> []
 | a::l=>(k*a)::HD k l
noncomputable def LF.ad (f g:LF):LF:=(f.1+g.1,IV f.2.1 g.2.1,IV f.2.2 g.2.2)
noncomputable def LF.mu (k:Int) (f:LF):LF:=(k*f.1,HD k f.2.1,HD k f.2.2)
noncomputable def LF.sb (f g:LF):LF:=f.ad (g.mu (-1))
noncomputable def E.FN:E->LF
 | .v i=>(0,un i,[])
 | .n k=>((k:Int),[],[])
 | .a x y=>x.FN.ad y.FN
 | .m k x=>x.FN.mu (k:Int)
 | .s .. | .g .. | .c ..=>(0,[],[])
noncomputable def E.FZ:E->LF
 | .v i=>(0,[],un i)
 | .n k=>((k:Int),[],[])
 | .a x y=>x.FZ.ad y.FZ
 | .s x y=>x.FZ.sb y.FZ
 | .g x=>x.FZ.mu (-1)
 | .c x=>x.FN
 | .m k x=>x.FZ.mu (k:Int)
noncomputable def ge (x y:LF):LF:=y.sb x
noncomputable def gt (x y:LF):LF:=(y.sb x).ad (-1,[],[])
noncomputable def GX:LF:=(0,[],[])
noncomputable def P.B (s:Bool):P->LF
 | .l x y=>ge x.FN y.FN
 | .t x y=>gt x.FN y.FN
 | .e x y=>s.rec (ge x.FN y.FN) (ge y.FN x.FN)
 | .L x y=>ge x.FZ y.FZ
 | .T x y=>gt x.FZ y.FZ
 | .Q x y=>s.rec (ge x.FZ y.FZ) (ge y.FZ x.FZ)
 | .r p=>p.B (!s)
 | .o p=>p.rec (λx y=>gt y.FN x.FN) (λx y=>ge y.FN x.FN) (λo_ o_=>GX) (λx y=>gt y.FZ x.FZ) (λx y=>ge y.FZ x.FZ) (λo_ o_=>GX) (λo_ o_=>GX) (λo_ o_=>GX) GX (λo_ o_ o_=>GX)
 | .f=>GX
 | .k n p=>(p.B s).mu n
noncomputable def ng:Int->Bool
 | .ofNat _=>j'
 | .negSucc _=>vi
noncomputable def np:List Int->Bool
 | []=>vi
 | a::l=> !(ng (- a))&& np l
noncomputable def nz:List Int->Bool
 | []=>vi
 | a::l=> !(ng a)&& !(ng (- a))&& nz l
noncomputable def ct (f:LF):Bool:=ng f.1 && np f.2.1 && nz f.2.2
noncomputable def sm (s:Bool):List P->LF->LF
 | []=>λf=>f
 | p::l=>λf=>sm s l (f.ad (p.B s))
def ck (h:List P):P->Bool
 | .l x y=>ct (sm j' h (gt y.FN x.FN))
 | .t x y=>ct (sm j' h (ge y.FN x.FN))
 | .e x y=>ct (sm j' h (gt y.FN x.FN))&& ct (sm vi h (gt x.FN y.FN))
 | .L x y=>ct (sm j' h (gt y.FZ x.FZ))
 | .T x y=>ct (sm j' h (ge y.FZ x.FZ))
 | .Q x y=>ct (sm j' h (gt y.FZ x.FZ))&& ct (sm vi h (gt x.FZ y.FZ))
 | .o p=>ct (sm j' h (p.B j'))
 | .r _ | .k _ _=>j'
 | .f=>ct (sm j' h GX)
noncomputable def ev (c:List Nat) (z:List Int) (f:LF):Int:=f.1+dot f.2.1 (c.map YM)+dot f.2.2 z
theorem N9 l:dot l []=0:=by cases l <;> rfl
theorem IU (a b c d:Int):a+b+(c+d)=a+c+(b+d):=by rw [YL,Int.add_left_comm b,<-YL]
theorem Ci (l m x):dot (IV l m) x=dot l x+dot m x:=by
 induction l generalizing m x with
 | nil=>exact (yd _).symm
 | cons a l ih=>
  cases m with
  | nil=>exact (vk _).symm
  | cons b m=>
   cases x with
   | nil=>rfl
   | cons d x=>
    show (a+b)*d+dot (IV l m) x=a*d+dot l x+(b*d+dot m x)
    rw [ih,Int.add_mul]; exact IU ..
theorem Ch (k:Int) (l x:List Int):dot (HD k l) x=k*dot l x:=by
 induction l generalizing x with
 | nil=>exact (Zh _).symm
 | cons a l ih=>
  cases x with
  | nil=>exact (Zh _).symm
  | cons d x=>
   show k*a*d+dot (HD k l) x=k*(a*d+dot l x)
   rw [ih,Ou,Int.mul_assoc]
theorem Cg (i:Nat) (x:List Int):dot (un i) x=gi x i:=by
 induction i generalizing x with
 | zero=>
  cases x with
  | nil=>rfl
  | cons d x=>exact (vk _).trans (Q1 d)
 | succ i ih=>
  cases x with
  | nil=>rfl
  | cons d x=>show 0*d+dot (un i) x=gi x i; rw [ih,Zq,yd]
theorem L7 (c:List Nat) (i:Nat):gi (c.map YM) i=(ga c i:Int):=by
 induction c generalizing i with
 | nil=>rfl
 | cons a c ih=>cases i with
  | zero=>rfl
  | succ i=>exact ih i
theorem qV c z (f g):ev c z (f.ad g)=ev c z f+ev c z g:=by
 show f.1+g.1+dot (IV _ _) _+dot (IV _ _) _=(f.1+_+_)+(g.1+_+_)
 rw [Ci,Ci,IU f.1,IU]
theorem ut (c:List Nat) (z:List Int) (k:Int) (f:LF):ev c z (f.mu k)=k*ev c z f:=by
 show k*f.1+dot (HD _ _) _+dot (HD _ _) _=k*(f.1+_+_)
 rw [Ch,Ch,Ou,Ou]
theorem ur c z (f g):ev c z (f.sb g)=ev c z f - ev c z g:=by
 show ev c z (f.ad (g.mu (-1)))=_
 rw [qV,ut,R6,Q1]; rfl
theorem E.fn c z (x:E):ev c z x.FN=(x.N c:Int):=by
 induction x with
 | v i=>
  show 0+dot (un i) _+0=(ga c i)
  rw [Cg,L7,yd,vk]
 | n k=>show (k:Int)+0+0=_; exact vk _
 | a x y ih jh=>show ev c z (x.FN.ad y.FN)=((x.N c+y.N c:Nat):Int); rw [qV,ih,jh]; exact (Int.natCast_add _ _).symm
 | s | g | c=>rfl
 | m k x ih=>show ev c z (x.FN.mu k)=((k*x.N c:Nat):Int); rw [ut,ih]; exact (Int.natCast_mul _ _).symm
theorem E.fz c z (x:E):ev c z x.FZ=x.Z c z:=by
 induction x with
 | v i=>
  show 0+0+dot (un i) _=gi z i
  rw [Cg,yd,yd]
 | n k=>show (k:Int)+0+0=_; exact vk _
 | a x y ih jh=>show ev c z (x.FZ.ad y.FZ)=x.Z c z+y.Z c z; rw [qV,ih,jh]
 | s x y ih jh=>show ev c z (x.FZ.sb y.FZ)=x.Z c z - y.Z c z; rw [ur,ih,jh]
 | g x ih=>show ev c z (x.FZ.mu (-1))= - x.Z c z; rw [ut,ih,R6,Q1]
 | c x ih=>exact E.fn c z x
 | m k x ih=>show ev c z (x.FZ.mu k)=k*x.Z c z; rw [ut,ih]
theorem L6 {x y:E} (h:x.N c<=y.N c):0<=ev c z (ge x.FN y.FN):=by
 show 0<=ev c z (LF.sb _ _); rw [ur,E.fn,E.fn]; exact Lf (Int.ofNat_le.mpr h)
theorem LZ {x y:E} (h:x.N c < y.N c):0<=ev c z (gt x.FN y.FN):=by
 show 0<=ev c z (LF.ad _ _); rw [qV,ur,E.fn,E.fn]; exact Nj (N8 (Int.ofNat_lt.mpr h))
theorem L5 {x y:E} (h:x.Z c z<=y.Z c z):0<=ev c z (ge x.FZ y.FZ):=by
 show 0<=ev c z (LF.sb _ _); rw [ur,E.fz,E.fz]; exact Lf h
theorem LY {x y:E} (h:x.Z c z < y.Z c z):0<=ev c z (gt x.FZ y.FZ):=by
 show 0<=ev c z (LF.ad _ _); rw [qV,ur,E.fz,E.fz]; exact Nj (N8 h)
theorem P.b (p:P) s (h:p.D c z):0<=ev c z (p.B s):=by
 induction p generalizing s with
 | l x y=>exact L6 h
 | t x y=>exact LZ h
 | e x y=>cases s with
  | false=>exact L6 (Zr h)
  | true=>exact L6 (Zr h.symm)
 | L x y=>exact L5 h
 | T x y=>exact LY h
 | Q x y=>cases s with
  | false=>exact L5 (Zs h)
  | true=>exact L5 (Zs h.symm)
 | r p ih=>exact ih _ h
 | f=>exact FF _
 | o p _=>cases p with
  | l x y=>exact LZ (Oq h)
  | t x y=>exact L6 (vo h)
  | L x y=>exact LY (Um.mp h)
  | T x y=>exact L5 (N6.mp h)
  | e | Q | o | r | f | k=>exact FF _
 | k n p ih=>show 0<=ev c z (LF.mu _ _); rw [ut]; exact Xq (Fk n) (ih _ h)
theorem O0 {a:Int} (h:ng a=vi):a < 0:=by
 cases a with
 | ofNat=>cases h
 | negSucc n=>exact Int.negSucc_lt_zero n
theorem HC {a:Int} (h:(!ng a)=vi):0<=a:=by
 cases a with
 | ofNat n=>exact Fk n
 | negSucc n=>cases h
theorem OZ {c:List Nat} (h:np l=vi):dot l (c.map YM)<=0:=by
 induction l generalizing c with
 | nil=>exact FF _
 | cons a l ih=>
  cases c with
  | nil=>exact FF _
  | cons d c=>
   have h:=(vd _ _).mp h
   have h1:=HC h.1
   have h2:=ih (c:=c) h.2
   have:0<=-a*d:=Xq h1 (Fk d)
   rw [R6] at this
   exact Int.add_nonpos (Hj this) h2
theorem OX (h:nz l=vi):dot l z=0:=by
 induction l generalizing z with
 | nil=>rfl
 | cons a l ih=>
  cases z with
  | nil=>rfl
  | cons d z=>
   have h:=(vd _ _).mp h
   have k:=(vd _ _).mp h.1
   have h1:=HC k.1
   have h3:=HC k.2
   have:a=0:=TU (Hj h3) h1
   show a*d+dot l z=0
   rw [ih h.2,this,Zq]; rfl
theorem qg (h:ct f=vi):¬0<=ev c z f:=by
 have h:=(vd _ _).mp h
 have k:=(vd _ _).mp h.1
 have h1:=O0 k.1
 have h2:=OZ (c:=c) k.2
 have h3:=OX (z:=z) h.2
 show ¬0<=f.1+_+_
 rw [h3,vk]; exact Um.mpr (Int.add_neg_of_neg_of_nonpos h1 h2)
theorem pV s {l} {f} (hf:0<=ev c z f) (h:∀p∈l,p.D c z):0<=ev c z (sm s l f):=by
 induction l generalizing f with
 | nil=>exact hf
 | cons p l ih=>
  refine ih ?_ λq hq=>h q (.tail _ hq)
  rw [qV]
  exact Int.add_nonneg hf (p.b s (h p (.head _)))
theorem Jv g (h:∀p∈l,p.D c z) (e:ck l g=vi):g.D c z:=by
 cases g with
 | l x y=>exact vo λk=>qg e (pV _ (LZ k) h)
 | t x y=>exact Oq λk=>qg e (pV _ (L6 k) h)
 | L x y=>exact N6.mp λk=>qg e (pV _ (LY k) h)
 | T x y=>exact Um.mp λk=>qg e (pV _ (L5 k) h)
 | e x y=>
  have e:=(vd _ _).mp e
  exact Nat.le_antisymm (vo λk=>qg e.1 (pV _ (LZ k) h)) (vo λk=>qg e.2 (pV _ (LZ k) h))
 | Q x y=>
  have e:=(vd _ _).mp e
  exact TU (N6.mp λk=>qg e.1 (pV _ (LY k) h)) (N6.mp λk=>qg e.2 (pV _ (LY k) h))
 | o p=>exact λk=>qg e (pV _ (p.b _ k) h)
 | r=>cases e
 | k=>cases e
 | f=>exact qg e (pV _ (FF _) h)
theorem Jq:∀p∈([]:List P),p.D c z:=λo_ h=>nomatch h
theorem wy {l:List P} (h:p.D c z) (k:∀p∈l,p.D c z):∀q∈p::l,q.D c z:=λq hq=>by
 cases hq with
 | head=>exact h
 | tail _ hq=>exact k q hq
end Y
noncomputable abbrev V0:Y.E:=.v 0
noncomputable abbrev V1:Y.E:=.v 1
noncomputable abbrev V2:Y.E:=.v 2
noncomputable abbrev V3:Y.E:=.v 3
noncomputable abbrev V4:Y.E:=.v 4
noncomputable abbrev V5:Y.E:=.v 5
noncomputable abbrev V6:Y.E:=.v 6
theorem Y0 c z g (e:Y.ck [] g=vi):g.D c z:=Y.Jv g Y.Jq e
theorem Y1 c z (g a) (h:a.D c z) (e:Y.ck [a] g=vi):g.D c z:=Y.Jv g (Y.wy h Y.Jq) e
theorem Y2 c z (g a b) (h:a.D c z) (i:b.D c z) (e:Y.ck [a,b] g=vi):g.D c z:=Y.Jv g (Y.wy h (Y.wy i Y.Jq)) e
theorem Y3 c z (g a b d) (h:a.D c z) (i:b.D c z) (j:d.D c z) (e:Y.ck [a,b,d] g=vi):g.D c z:=Y.Jv g (Y.wy h (Y.wy i (Y.wy j Y.Jq))) e
theorem Y4 c z (g a b d f) (h:a.D c z) (i:b.D c z) (j:d.D c z) (k:f.D c z) (e:Y.ck [a,b,d,f] g=vi):g.D c z:=Y.Jv g (Y.wy h (Y.wy i (Y.wy j (Y.wy k Y.Jq)))) e
theorem Y5 c z (g a b d f a') (h:a.D c z) (i:b.D c z) (j:d.D c z) (k:f.D c z) (h':a'.D c z) (e:Y.ck [a,b,d,f,a'] g=vi):g.D c z:=Y.Jv g (Y.wy h (Y.wy i (Y.wy j (Y.wy k (Y.wy h' Y.Jq))))) e
theorem Yc {b:Nat}:a<=a - b+b:=Nat.sub_le_iff_le_add.mp (Nat.le_refl _)
theorem Yt {e:Int} {n:Nat} (a:0<=e) (b:e < n):e.toNat < n:=(Int.toNat_lt a).mpr b
theorem Ya {a b:Nat} (h:0=a - b):a<=b:=Nat.le_of_sub_eq_zero h.symm
theorem Yb {x a b:Nat} (h:x+1=a - b):x+1+b=a:=h▸Nat.sub_add_cancel (Nat.le_of_lt (Nat.lt_of_sub_pos (h▸Nat.succ_pos x)))
end
universe u0 u1 u2 u3 u4 u5 u6
theorem dP {G:Prop} (h:p/\q) (k:p->q->G):G:=k h.1 h.2
theorem iz {G:Prop} (h:p/\q/\r) (k:p->q->r->G):G:=k h.1 h.2.1 h.2.2
theorem cW (h0:p) (h1:q) (h2:r):p/\q/\r:=⟨h0,h1,h2⟩
theorem si {G:Prop} (h:p/\q/\r/\s) (k:p->q->r->s->G):G:=k h.1 h.2.1 h.2.2.1 h.2.2.2
theorem mz (h0:p) (h1:q) (h2:r) (h3:s):p/\q/\r/\s:=⟨h0,h1,h2,h3⟩
theorem ES {G:Prop} (h:p/\q/\r/\s/\t) (k:p->q->r->s->t->G):G:=k h.1 h.2.1 h.2.2.1 h.2.2.2.1 h.2.2.2.2
theorem dJ {p:jP->Prop} {G:Prop} (h:∃a,p a) (k:∀a,p a->G):G:=h.elim λa z=>k a z
theorem ag {p q:jP->Prop} {G:Prop} (h:∃a,p a/\q a) (k:∀a,p a->q a->G):G:=h.elim λa z=>k a z.1 z.2
theorem az {p q:jP->Prop} a (h0:p a) (h1:q a):∃a,p a/\q a:=⟨a,h0,h1⟩
theorem bZ {p q r:jP->Prop} {G:Prop} (h:∃a,p a/\q a/\r a) (k:∀a,p a->q a->r a->G):G:=h.elim λa z=>k a z.1 z.2.1 z.2.2
theorem dH {p q r:jP->Prop} a (h0:p a) (h1:q a) (h2:r a):∃a,p a/\q a/\r a:=⟨a,h0,h1,h2⟩
theorem BX {p q r s:jP->Prop} {G:Prop} (h:∃a,p a/\q a/\r a/\s a) (k:∀a,p a->q a->r a->s a->G):G:=h.elim λa z=>k a z.1 z.2.1 z.2.2.1 z.2.2.2
theorem HY {p q r s:jP->Prop} a (h0:p a) (h1:q a) (h2:r a) (h3:s a):∃a,p a/\q a/\r a/\s a:=⟨a,h0,h1,h2,h3⟩
theorem Vp {p q r s t v w:jP->Prop} a (h0:p a) (h1:q a) (h2:r a) (h3:s a) (h4:t a) (h5:v a) (h6:w a):∃a,p a/\q a/\r a/\s a/\t a/\v a/\w a:=⟨a,h0,h1,h2,h3,h4,h5,h6⟩
theorem rU {p:jP->nZ->Prop} a b (h0:p a b):∃a b,p a b:=⟨a,b,h0⟩
theorem bV {p q:jP->nZ->Prop} {G:Prop} (h:∃a b,p a b/\q a b) (k:∀a b,p a b->q a b->G):G:=h.elim λa z=>z.elim λb z=>k a b z.1 z.2
theorem dh {p q:jP->nZ->Prop} a b (h0:p a b) (h1:q a b):∃a b,p a b/\q a b:=⟨a,b,h0,h1⟩
theorem bp {p q r:jP->nZ->Prop} {G:Prop} (h:∃a b,p a b/\q a b/\r a b) (k:∀a b,p a b->q a b->r a b->G):G:=h.elim λa z=>z.elim λb z=>k a b z.1 z.2.1 z.2.2
theorem bP {p q r:jP->nZ->Prop} a b (h0:p a b) (h1:q a b) (h2:r a b):∃a b,p a b/\q a b/\r a b:=⟨a,b,h0,h1,h2⟩
theorem nS {p q r s:jP->nZ->Prop} {G:Prop} (h:∃a b,p a b/\q a b/\r a b/\s a b) (k:∀a b,p a b->q a b->r a b->s a b->G):G:=h.elim λa z=>z.elim λb z=>k a b z.1 z.2.1 z.2.2.1 z.2.2.2
theorem qb {p q r s:jP->nZ->Prop} a b (h0:p a b) (h1:q a b) (h2:r a b) (h3:s a b):∃a b,p a b/\q a b/\r a b/\s a b:=⟨a,b,h0,h1,h2,h3⟩
theorem uy {p q r s t:jP->nZ->Prop} {G:Prop} (h:∃a b,p a b/\q a b/\r a b/\s a b/\t a b) (k:∀a b,p a b->q a b->r a b->s a b->t a b->G):G:=h.elim λa z=>z.elim λb z=>k a b z.1 z.2.1 z.2.2.1 z.2.2.2.1 z.2.2.2.2
theorem Em {p q r s t:jP->nZ->Prop} a b (h0:p a b) (h1:q a b) (h2:r a b) (h3:s a b) (h4:t a b):∃a b,p a b/\q a b/\r a b/\s a b/\t a b:=⟨a,b,h0,h1,h2,h3,h4⟩
theorem ER {p:jP->nZ->vg->Prop} {G:Prop} (h:∃a b c,p a b c) (k:∀a b c,p a b c->G):G:=h.elim λa z=>z.elim λb z=>z.elim λc z=>k a b c z
theorem El {p:jP->nZ->vg->Prop} a b c (h0:p a b c):∃a b c,p a b c:=⟨a,b,c,h0⟩
theorem mE {p q:jP->nZ->vg->Prop} {G:Prop} (h:∃a b c,p a b c/\q a b c) (k:∀a b c,p a b c->q a b c->G):G:=h.elim λa z=>z.elim λb z=>z.elim λc z=>k a b c z.1 z.2
theorem wa {p q:jP->nZ->vg->Prop} a b c (h0:p a b c) (h1:q a b c):∃a b c,p a b c/\q a b c:=⟨a,b,c,h0,h1⟩
theorem lx {p q r:jP->nZ->vg->Prop} {G:Prop} (h:∃a b c,p a b c/\q a b c/\r a b c) (k:∀a b c,p a b c->q a b c->r a b c->G):G:=h.elim λa z=>z.elim λb z=>z.elim λc z=>k a b c z.1 z.2.1 z.2.2
theorem v9 {p q r:jP->nZ->vg->Prop} a b c (h0:p a b c) (h1:q a b c) (h2:r a b c):∃a b c,p a b c/\q a b c/\r a b c:=⟨a,b,c,h0,h1,h2⟩
theorem BW {p q r s:jP->nZ->vg->Prop} {G:Prop} (h:∃a b c,p a b c/\q a b c/\r a b c/\s a b c) (k:∀a b c,p a b c->q a b c->r a b c->s a b c->G):G:=h.elim λa z=>z.elim λb z=>z.elim λc z=>k a b c z.1 z.2.1 z.2.2.1 z.2.2.2
theorem yO {p q r s:jP->nZ->vg->Prop} a b c (h0:p a b c) (h1:q a b c) (h2:r a b c) (h3:s a b c):∃a b c,p a b c/\q a b c/\r a b c/\s a b c:=⟨a,b,c,h0,h1,h2,h3⟩
theorem jj {p q r s t:jP->nZ->vg->Prop} {G:Prop} (h:∃a b c,p a b c/\q a b c/\r a b c/\s a b c/\t a b c) (k:∀a b c,p a b c->q a b c->r a b c->s a b c->t a b c->G):G:=h.elim λa z=>z.elim λb z=>z.elim λc z=>k a b c z.1 z.2.1 z.2.2.1 z.2.2.2.1 z.2.2.2.2
theorem qa {p q r s t:jP->nZ->vg->Prop} a b c (h0:p a b c) (h1:q a b c) (h2:r a b c) (h3:s a b c) (h4:t a b c):∃a b c,p a b c/\q a b c/\r a b c/\s a b c/\t a b c:=⟨a,b,c,h0,h1,h2,h3,h4⟩
theorem Ek {p q r s t v:jP->nZ->vg->Prop} a b c (h0:p a b c) (h1:q a b c) (h2:r a b c) (h3:s a b c) (h4:t a b c) (h5:v a b c):∃a b c,p a b c/\q a b c/\r a b c/\s a b c/\t a b c/\v a b c:=⟨a,b,c,h0,h1,h2,h3,h4,h5⟩
theorem EQ {p q r s:jP->nZ->vg->Na->Prop} {G:Prop} (h:∃a b c d,p a b c d/\q a b c d/\r a b c d/\s a b c d) (k:∀a b c d,p a b c d->q a b c d->r a b c d->s a b c d->G):G:=h.elim λa z=>z.elim λb z=>z.elim λc z=>z.elim λd z=>k a b c d z.1 z.2.1 z.2.2.1 z.2.2.2
theorem tU {p q r s:jP->nZ->vg->Na->Prop} a b c d (h0:p a b c d) (h1:q a b c d) (h2:r a b c d) (h3:s a b c d):∃a b c d,p a b c d/\q a b c d/\r a b c d/\s a b c d:=⟨a,b,c,d,h0,h1,h2,h3⟩
theorem Vn {p q r s t v:jP->nZ->vg->Na->Prop} a b c d (h0:p a b c d) (h1:q a b c d) (h2:r a b c d) (h3:s a b c d) (h4:t a b c d) (h5:v a b c d):∃a b c d,p a b c d/\q a b c d/\r a b c d/\s a b c d/\t a b c d/\v a b c d:=⟨a,b,c,d,h0,h1,h2,h3,h4,h5⟩
theorem hG {p:jP->nZ->vg->Na->Un->Prop} {G:Prop} (h:∃a b c d e,p a b c d e) (k:∀a b c d e,p a b c d e->G):G:=h.elim λa z=>z.elim λb z=>z.elim λc z=>z.elim λd z=>z.elim λe z=>k a b c d e z
theorem as8 {p:jP->nZ->vg->Na->Un->Prop} a b c d e (h0:p a b c d e):∃a b c d e,p a b c d e:=⟨a,b,c,d,e,h0⟩
theorem fy {α:Type u0} {x:Option α} {a:α} {G:Prop} (e:x=js) (q:x=oC a):G:=nomatch e.symm.trans q
theorem aI {α:Type u0} {a:α} {G:Prop} (e:js=oC a):G:=nomatch e
theorem J9 {G:Prop} (e:oC a=js):G:=nomatch e
theorem se {α:Type u0} {x:Option α} {a b:α} (e:x=oC a) (q:x=oC b):a=b:=Ul (e.symm.trans q)
theorem RZ {G:Prop} (e:x=vi) (q:x=j'):G:=nomatch e.symm.trans q
theorem dy {G:Prop} (e:j'=vi):G:=nomatch e
theorem nz {a b:Nat} (h:Nat.beq a b=j'):a ≠ b:=Nat.ne_of_beq_eq_false h
theorem qJ {P:Prop} (h:P):P:=h
@[elab_as_elim] theorem mh {α:Sort u0} {a b:α} {p:Prop} {G:α->Prop} (h:a=b∨p) (x:G b) (y:p->G a):G a:=h.elim (λe=>e▸x) y
@[elab_as_elim] theorem af {α:Sort u0} {a b:α} {G:α->Prop} (h:a=b) (x:G b):G a:=h▸x
@[elab_as_elim] theorem bD {α:Sort u0} {a b:α} {G:α->Prop} (h:b=a) (x:G b):G a:=h▸x
theorem vY {α β:Type} [BEq α] [LawfulBEq α] {a} {b} {l:List (α×β)} (h:l.lookup a=oC b):(a,b)∈l:=by
 induction l with
 | nil=>exact aI h
 | cons y l ih=>
  obtain ⟨c,d⟩:=y
  rw [List.lookup_cons] at h
  cases e:a==c with
  | true=>
   rw [e] at h
   rw [eq_of_beq e,<-Ul h]
   exact .head _
  | false=>rw [e] at h; exact .tail _ (ih h)
theorem ax {P:Prop} (k:∀G:Prop,(P->G)->G):P:=k P id
set_option genInjectivity true
inductive V where
 | none
 | bool (b:Bool)
 | int (i:Int)
 | str (s:Xr)
 | tup (l:List V)
 | lst (l:List V)
 | iy
 | ref (n:Nat)
inductive O where
 | list (t:Nat) (l:List V)
 | bM (t:Nat) (kvs:List (Int×V))
 | bg (t:Nat) (kvs:List (Xr×V))
 | d6 (t:Nat) (kvs:List (V×V))
 | inst (c:Nat) (fs:List (Nat×V))
abbrev St:=List O
abbrev En:=Nat->Option V
noncomputable def En.set (en:En) (x:Nat) (v:V):En:=λy=>bif y==x then oC v else en y
theorem j6 (en:En) (x:Nat) (v:V) (y:Nat):En.set en x v y=if y=x then oC v else en y:=by
 unfold En.set
 by_cases h:y=x
 ·subst h; rw [beq_self_eq_true,if_pos rfl]; rfl
 ·rw [show (y==x)=j' from by simpa using h,if_neg h]; rfl
noncomputable def En.clear (en:En) (xs:List Nat):En:=λy=>if y∈xs then js else en y
noncomputable def En.none:En:=λo_=>js
set_option genInjectivity false
inductive zC | add | sub | mul | mod | fdiv | pow
inductive Cm | eq | ne | lt | le | gt | ge | qE | wb | Bj | FI
set_option genCtorIdx false
mutual
inductive Ex where
 | bad | none | bool (b:Bool) | int (i:Int) | str (s:String)
 | var (x:Nat) | glob (k:Nat)
 | neg (e:Ex) | not (e:Ex)
 | bin (op:zC) (a b:Ex)
 | and (es:gR) | or (es:gR)
 | ite (t a b:Ex)
 | cmp (op:Cm) (a b:Ex)
 | nX (op tE:Cm) (a b c:Ex)
 | list (m:Option Nat) (es:gR)
 | tup (es:gR)
 | gm (k:Nat) (t:Nat)
 | uz (t:Nat) (k v:Ex)
 | attr (e:Ex) (c:Nat)
 | idx (e i:Ex)
 | i6 (e lo:Ex) | i5 (e hi:Ex) | slice (e lo hi:Ex) | rev (e:Ex)
 | call (f:Nat) (es:gR)
 | aD (e:Ex) (m:Nat) (es:gR)
 | new (c:Nat) (es:gR)
 | gL (c:Nat) (es:gR)
 | len (e:Ex) | max2 (a b:Ex) | min2 (a b:Ex) | repr (e:Ex) | toStr (e:Ex) | abs (e:Ex) | toInt (e:Ex)
 | copy (m:Option Nat) (e:Ex) | keys (e:Ex)
 | bt (e:Ex) (k:Nat)
 | append (e x:Ex) | extend (e x:Ex) | pop (e:Ex) | yA (e k:Ex) | BG (e k:Ex) | BH (e k:Ex) | index (e x:Ex)
 | f' (g:Nat) (e:Ex) | fq (g:Nat) (e:Ex)
 | cV (e:Ex)
 | qe (es:gR)
 | comp (m:Option Nat) (own:List Nat) (gs:fu) (elt:Ex)
inductive gR where
 | nil | cons (e:Ex) (es:gR)
inductive fu where
 | nil
 | each (x:Nat) (src:Ex) (ifs:gR) (rest:fu)
 | rB (x:Nat) (lo hi:Ex) (mL:Bool) (ifs:gR) (rest:fu)
end
inductive Tg where
 | nm (x:Nat) | at (e:Ex) (c:Nat) | ix (e i:Ex)
mutual
inductive S where
 | bad | expr (e:Ex)
 | asg (x:Nat) (e:Ex) | av (e:Ex) (c:Nat) (v:Ex) | ed (e i v:Ex) | pK (e v:Ex)
 | aN (ts:List Tg) (e:Ex)
 | sA (x:Nat) (op:zC) (e:Ex) | eD (e:Ex) (c:Nat) (op:zC) (v:Ex)
 | bS (t:Ex) (a b:Ss) | i7 (t:Ex) (b:Ss)
 | lu (x:Nat) (src:Ex) (b:Ss) | BM (xs:List Nat) (src:Ex) (b:Ss) | forR (x:Nat) (lo hi:Ex) (mL:Bool) (b:Ss)
 | ret (e:Ex) | og | brk | cont | oK (e:Ex)
inductive Ss where
 | nil | cons (s:S) (r:Ss)
end
inductive Fl where
 | next | brk | cont | ret (v:V)
def eO {α:Type} (o:Option α) (k:α->Prop):Prop:=match o with | some a=>k a | Option.none=>False
@[simp] theorem J2 a (k:α->Prop):eO (oC a) k=k a:=rfl
@[simp] theorem J3 (k:α->Prop):eO js k=False:=rfl
theorem gh:eO o k↔∃a,o=oC a/\k a:=by
 cases o <;> simp [eO]
def sF (v:V) (k:Bool->Prop):Prop:=V.casesOn (motive_1:=λo_=>Prop) v False k (λo_=>False) (λo_=>False) (λo_=>False) (λo_=>False) False (λo_=>False)
def jb (v:V) (k:Int->Prop):Prop:=V.casesOn (motive_1:=λo_=>Prop) v False (λo_=>False) k (λo_=>False) (λo_=>False) (λo_=>False) False (λo_=>False)
def uX (v:V) (k:Xr->Prop):Prop:=V.casesOn (motive_1:=λo_=>Prop) v False (λo_=>False) (λo_=>False) k (λo_=>False) (λo_=>False) False (λo_=>False)
def FH (v:V) (k:List V->Prop):Prop:=V.casesOn (motive_1:=λo_=>Prop) v False (λo_=>False) (λo_=>False) (λo_=>False) (λo_=>False) k False (λo_=>False)
def Sd (σ:St) (v:V) (k:Nat->O->Prop):Prop:=V.casesOn (motive_1:=λo_=>Prop) v False (λo_=>False) (λo_=>False) (λo_=>False) (λo_=>False) (λo_=>False) False λn=>eO σ[n]? (k n)
def tF (o:O) (k:Nat->List V->Prop):Prop:=O.casesOn (motive:=λo_=>Prop) o k (λo_ o_=>False) (λo_ o_=>False) (λo_ o_=>False) (λo_ o_=>False)
noncomputable def D7 (o:O):Option (List V):=O.casesOn (motive:=λo_=>Option (List V)) o (λo_ l=>oC l) (λo_ o_=>js) (λo_ o_=>js) (λo_ o_=>js) (λo_ o_=>js)
noncomputable def D6 (σ:St) (n:Nat):Option (List V):=σ[n]?.bind D7
noncomputable def xA (σ:St) (v:V):Bool:=V.casesOn (motive_1:=λo_=>Bool) v j' (λo_=>j') (λo_=>j') (λo_=>j') (λo_=>j') (λo_=>j') j' λn=>(D6 σ n).isSome
noncomputable def Fa (o:O):Bool:=O.casesOn (motive:=λo_=>Bool) o (λo_ o_=>j') (λo_ o_=>vi) (λo_ o_=>vi) (λo_ o_=>vi) (λo_ o_=>j')
noncomputable def mR (σ:St) (v:V):Bool:=V.casesOn (motive_1:=λo_=>Bool) v j' (λo_=>j') (λo_=>j') (λo_=>j') (λo_=>j') (λo_=>j') j' λn=>σ[n]?.any Fa
def AR (o:O) (k:Nat->List (Nat×V)->Prop):Prop:=O.casesOn (motive:=λo_=>Prop) o (λo_ o_=>False) (λo_ o_=>False) (λo_ o_=>False) (λo_ o_=>False) k
noncomputable def bf:Nat:=100000
noncomputable def EO (c:Nat) (o:O):Option V:=O.casesOn (motive:=λo_=>Option V) o (λo_ o_=>js) (λo_ o_=>js) (λo_ o_=>js) (λo_ o_=>js) λo_ fs=>fs.lookup c
noncomputable def fld (σ:St) (v:V) (c:Nat):Option V:=V.casesOn (motive_1:=λo_=>Option V) v js (λo_=>js) (λo_=>js) (λo_=>js) (λo_=>js) (λo_=>js) js λn=>σ[n]?.bind (EO c)
noncomputable def gB (c:Nat) (v:V):List (Nat×V)->List (Nat×V)
 | []=> [(c,v)]
 | (d,u)::r=>bif d==c then (d,v)::r else (d,u)::gB c v r
theorem rq (c d:Nat) (v u:V) (r:List (Nat×V)):gB c v ((d,u)::r)=if d=c then (d,v)::r else (d,u)::gB c v r:=by
 show (bif d==c then _ else _)=_
 by_cases h:d=c
 ·subst h; rw [beq_self_eq_true,if_pos rfl]; rfl
 ·rw [show (d==c)=j' from by simpa using h,if_neg h]; rfl
noncomputable def lV {κ:Type} [DecidableEq κ] (k:κ) (v:V) (kvs:List (κ×V)):List (κ×V):=
 if kvs.any (λp=>decide (p.1=k)) then kvs.map (λp=>if p.1=k then (p.1,v) else p) else kvs++ [(k,v)]
noncomputable def sp {κ:Type} [DecidableEq κ] (k:κ) (kvs:List (κ×V)):List (κ×V):=kvs.filter λp=>decide (p.1 ≠ k)
noncomputable def eI {κ:Type} [DecidableEq κ] (k:κ) (kvs:List (κ×V)):Option V:=(kvs.find? λp=>decide (p.1=k)).map (·.2)
noncomputable def aQ (σ:St) (v:V):Option (List V):=V.casesOn (motive_1:=λo_=>Option (List V)) v js (λo_=>js) (λo_=>js) (λo_=>js) oC oC js (D6 σ)
noncomputable def ez (σ:St) (v:V):Option (List V):=V.casesOn (motive_1:=λo_=>Option (List V)) v js (λo_=>js) (λo_=>js) (λo_=>js) (λo_=>js) oC js (D6 σ)
@[irreducible] noncomputable def place (k:Int) (n:Nat):Option Nat:=
 if 0<=k then (if k < 1000000 then oC k.toNat else js) else (if -(n:Int)<=k/\-1000000<=k then oC (k+n).toNat else js)
noncomputable def mc (k:Int) (n:Nat):Option Nat:=
 if k=0 then oC 0 else if k=1 then oC 1 else if k=2 then oC 2 else if k=3 then oC 3 else if k=4 then oC 4 else place k n
theorem l8 (k:Int) (n:Nat):mc k n=place k n:=by
 unfold mc
 repeat' split
 all_goals (try subst_vars); first | rfl | (unfold place; rfl)
noncomputable def H9 (v:V):Option Int:=V.casesOn (motive_1:=λo_=>Option Int) v js (λo_=>js) oC (λo_=>js) (λo_=>js) (λo_=>js) js (λo_=>js)
noncomputable def Ew (σ:St) (v i:V):Option V:=(H9 i).bind λk=>(aQ σ v).bind λl=>(mc k l.length).bind (l[·]?)
mutual
noncomputable def vP:V->PyData
 | .int i=> .int i
 | .str s=> .str s
 | .lst l=> .list (tz l)
 | _=> .none
noncomputable def tz:List V->List PyData
 | []=> []
 | v::l=>vP v::tz l
end
noncomputable def plain1 (p:List V->Bool) (v:V):Bool:=match v with
 | .none=>vi
 | .int _=>vi
 | .str s=>strOk s
 | .lst l=>p l
 | _=>j'
noncomputable def cw:Nat->V->Bool
 | 0=>plain1 λo_=>j'
 | n+1=>plain1 λl=>l.all (cw n)
noncomputable def qu {α:Type} (v:V) (f:Int->Option α) (g:Xr->Option α) (h:List V->Option α) (r:Nat->Option α):Option α:=V.casesOn (motive_1:=λo_=>Option α) v js (λo_=>js) f g (λo_=>js) h js r
noncomputable def fh {α β:Type} (_:β):Option α:=js
noncomputable def w' {α:Type} (o:Option O) (f:List V->Option α):Option α:=(o.bind D7).bind f
noncomputable def Xk (x y:List V):Option Bool:=match y with
 | []=>oC x.isEmpty
 | _=>if cw 4 (.lst x)&& cw 4 (.lst y) then oC (PyData.eqv (vP (.lst x)) (vP (.lst y))) else js
noncomputable def pA (σ:St) (a b:V):Option Bool:=
 qu a (λi=>qu b (λj=>oC (decide (i=j))) (λo_=>oC j') fh fh) (λi=>qu b (λo_=>oC j') (λj=>oC (decide (i=j))) fh fh)
  (λx=>qu b fh fh (λy=>Xk x y) fh) (λn=>qu b fh fh (λy=>if y.isEmpty then w' σ[n]? λl=>oC l.isEmpty else js) fh)
noncomputable def fO:List V->Option (List Int)
 | []=>oC []
 | v::r=>(H9 v).bind λi=>(fO r).map (i::·)
noncomputable def OA (v:V):Option Xr:=V.casesOn (motive_1:=λo_=>Option Xr) v js (λo_=>js) (λo_=>js) oC (λo_=>js) (λo_=>js) js (λo_=>js)
noncomputable def vp:List V->Option (List Xr)
 | []=>oC []
 | v::r=>(OA v).bind λi=>(vp r).map (i::·)
@[simp] theorem pb l:fO (l.map V.int)=oC l:=by
 induction l with
 | nil=>rfl
 | cons a l ih=>exact congrArg (Option.map (a::·)) ih
noncomputable def HG (k:Int) (o:Option O):Option Bool:=match o with
 | some (.list _ l)=>(fO l).map λis=>decide (k∈is)
 | some (.bM _ kvs)=>oC (decide (k∈kvs.map (·.1)))
 | _=>js
noncomputable def O7 (s:Xr) (b:V):Option Bool:=match b with
 | .tup l=>(vp l).map λis=>decide (s∈is)
 | .iy=>oC j'
 | _=>js
noncomputable def yG (σ:St) (a b:V):Option Bool:=qu a (λk=>qu b fh fh (λl=>(fO l).map λis=>decide (k∈is)) λn=>HG k σ[n]?) (λs=>O7 s b) fh fh
noncomputable def H6 (a:V):Bool:=match a with
 | .none=>vi
 | _=>j'
noncomputable def HZ (b:V) (r:Bool):Option Bool:=match b with
 | .none=>oC r
 | _=>js
noncomputable def AQ (a b:V) (f:Int->Int->Bool):Option Bool:=qu a (λi=>qu b (λj=>oC (f i j)) fh fh fh) fh fh fh
noncomputable def uE (σ:St) (op:Cm) (a b:V):Option Bool:=match op with
 | .eq=>pA σ a b
 | .ne=>(pA σ a b).map (!·)
 | .lt=>AQ a b λi j=>decide (i < j)
 | .le=>AQ a b λi j=>decide (i<=j)
 | .gt=>AQ a b λi j=>decide (j < i)
 | .ge=>AQ a b λi j=>decide (j<=i)
 | .qE=>HZ b (H6 a)
 | .wb=>HZ b (!H6 a)
 | .Bj=>yG σ a b
 | .FI=>(yG σ a b).map (!·)
def OR (v:V) (f:Int->Prop) (g:Xr->Prop) (h:List V->Prop):Prop:=match v with
 | .int i=>f i
 | .str i=>g i
 | .lst i=>h i
 | _=>False
def Fy (op:zC) (a b:V) (Q:V->Prop):Prop:=match op with
 | .add=>OR a (λx=>jb b λy=>Q (.int (x+y))) (λx=>uX b λy=>x.length+y.length<=1000/\Q (.str (x++y))) λx=>FH b λy=>x.length+y.length<=bf/\Q (.lst (x++y))
 | .sub=>jb a λx=>jb b λy=>Q (.int (x - y))
 | .mul=>OR a (λx=>jb b λy=>(x.natAbs < 2^64∨y.natAbs < 2^64)/\Q (.int (x*y))) (λo_=>False) λx=>jb b λk=>x.length*k.toNat<=bf/\k < 1000000/\-1000000 < k/\Q (.lst (List.replicate k.toNat x).flatten)
 | .mod=>jb a λx=>jb b λy=>y ≠ 0/\y.natAbs < 2^62/\Q (.int (x.fmod y))
 | .fdiv=>jb a λx=>jb b λy=>y ≠ 0/\y.natAbs < 2^62/\Q (.int (x.fdiv y))
 | .pow=>jb a λx=>jb b λy=>1 < x/\x < 2^100/\0 < y/\y < 100/\Q (.int (x^y.toNat))
noncomputable def Ki (σ:St) (v:V):Option Nat:=(ez σ v).map List.length
noncomputable def AD (v:V):Option Xr:=V.casesOn (motive_1:=λo_=>Option Xr) v (oC "None") (λb=>oC (if b then "True" else "False":String)) (λi=>if i.natAbs < 1000000 then oC (IQ (toString i)) else js) (λs=>if s= "a" then oC "'a'" else js) (λo_=>js) (λo_=>js) js (λo_=>js)
noncomputable def Dl (v:V):Option Xr:=V.casesOn (motive_1:=λo_=>Option Xr) v js (λo_=>js) (λi=>if i.natAbs < 1000000 then oC (IQ (toString i)) else js) oC (λo_=>js) (λo_=>js) js (λo_=>js)
def instO {α:Type} (o:Option O) (f:Nat->Option α):Option α:=o.bind λo=>O.casesOn (motive:=λo_=>Option α) o (λo_ o_=>js) (λo_ o_=>js) (λo_ o_=>js) (λo_ o_=>js) λc o_=>f c
theorem instO_e {α:Type} {o:Option O} {f:Nat->Option α} {x:α} {G:Prop} (w:instO o f=oC x) (k:∀c fs,o=oC (.inst c fs)->f c=oC x->G):G:=by
 cases o with
 | none=>exact aI w
 | some o=>
  cases o with
  | inst c fs=>exact k c fs rfl w
  | _=>exact aI w
noncomputable def jd (σ:St) (v:V) (k:Nat):Option Bool:=V.casesOn (motive_1:=λo_=>Option Bool) v (oC j') (λo_=>oC (k==0 || k==1)) (λo_=>oC (k==0)) (λo_=>oC (k==2)) (λo_=>js) (λo_=>js) js λn=>instO σ[n]? λc=>oC (k==10+c || (k==3 && c !=0))
noncomputable def qI (k:Int) (l:List V):Option Nat:=(fO l).bind λis=>is.findIdx? (λx=>decide (x=k))
noncomputable def aM (lo hi:Int):List V:=(List.range (hi - lo).toNat).map λ(i:Nat)=>V.int (lo+(i:Int))
structure Cc where
 field:Nat->Nat->Bool
 aD:Nat->Nat->Option Nat
 init:Nat->Nat
 glob:Nat->Option V
 f':Nat->Xr->Option V
 fq:Nat->Xr->Option V
 call:Nat->List V->(V->St->Prop)->(V->St->Prop)->St->Prop
 nName:Nat
 cF:Nat
 bl:Nat
 dO:Nat
noncomputable def A0 (c:Cc) (σ:St) (v:V) (m:Nat):Option Nat:=V.casesOn (motive_1:=λo_=>Option Nat) v js (λo_=>js) (λo_=>js) (λo_=>js) (λo_=>js) (λo_=>js) js λn=>instO σ[n]? λk=>c.aD k m
noncomputable def Fj:List V->Option (List Bool)
 | []=>oC []
 | .bool b::r=>(Fj r).map (b::·)
 | _=>js
noncomputable def Mp (src:V) (l:List V) (turn:V->(St->Prop)->St->Prop):List V->(St->Prop)->St->Prop
 | []=>λK σ=>aQ σ src=oC l/\K σ
 | v::r=>λK σ=>aQ σ src=oC l/\turn v (λaa=>Mp src l turn r K aa) σ
def Ve (R:List V->(List V->St->Prop)->St->Prop) (N:List V->St->Prop) (acc:List V) (σ:St):Prop:=R acc N σ
noncomputable def d7 (src:V) (l:List V) (turn:V->List V->(List V->St->Prop)->St->Prop):List V->List V->(List V->St->Prop)->St->Prop
 | []=>λacc N σ=>aQ σ src=oC l/\N acc σ
 | v::r=>λacc N σ=>aQ σ src=oC l/\turn v acc (Ve (d7 src l turn r) N) σ
def Pt (R:(Fl->En->St->Prop)->En->St->Prop) (N:Fl->En->St->Prop) (fl:Fl) (en:En) (σ:St):Prop:=match fl with
 | .next=>R N en σ
 | .cont=>R N en σ
 | .brk=>N .next en σ
 | .ret x=>N (.ret x) en σ
noncomputable def hH (src:V) (l:List V) (turn:V->(Fl->En->St->Prop)->En->St->Prop):List V->(Fl->En->St->Prop)->En->St->Prop
 | []=>λN en σ=>aQ σ src=oC l/\N .next en σ
 | v::r=>λN en σ=>aQ σ src=oC l/\turn v (Pt (hH src l turn r) N) en σ
def Ph (body:(Fl->En->St->Prop)->En->St->Prop) (R:(Fl->En->St->Prop)->En->St->Prop) (N:Fl->En->St->Prop) (en:En) (b:Bool) (σ:St):Prop:=
 if b then body (Pt R N) en σ else N .next en σ
noncomputable def lQ (test:(Bool->St->Prop)->En->St->Prop) (body:(Fl->En->St->Prop)->En->St->Prop):Nat->(Fl->En->St->Prop)->En->St->Prop
 | 0=>λo_ o_ o_=>False
 | n+1=>λN en σ=>test (Ph body (lQ test body n) N en) en σ
noncomputable def JS (l:List V) (lo hi:Nat):List V:=(l.drop lo).take (hi - lo)
noncomputable def cg (i:Int):Bool:=decide (0<=i)&& decide (i < 1000000)
abbrev K:=V->St->Prop
abbrev KL:=List V->St->Prop
abbrev KN:=Fl->En->St->Prop
abbrev EM:=K->K->En->St->Prop
abbrev EL:=KL->K->En->St->Prop
abbrev SM:=KN->K->En->St->Prop
def Pq (Q:K) (v:V) (σ:St):Prop:=jb v λi=>Q (.int (-i)) σ
def Ku (Q:K) (v:V) (σ:St):Prop:=sF v λb=>Q (.bool (!b)) σ
def jU (op:zC) (va:V) (Q:K) (vb:V) (σ:St):Prop:=Fy op va vb λv=>Q v σ
def PE (op:zC) (B:EM) (Q X:K) (en:En) (va:V) (σ:St):Prop:=B (jU op va Q) X en σ
def HP (A B:EM) (Q X:K) (en:En) (v:V) (σ:St):Prop:=sF v λr=>if r then A Q X en σ else B Q X en σ
def kh {α:Type} (o:Option α) (N:α->St->Prop) (σ:St):Prop:=eO o λa=>N a σ
def rG {α:Type} (o:Option α) (f:α->V) (Q:K) (σ:St):Prop:=eO o λa=>Q (f a) σ
def tS (op:Cm) (va:V) (Q:K) (vb:V) (σ:St):Prop:=rG (uE σ op va vb) .bool Q σ
def HU (op:Cm) (B:EM) (Q X:K) (en:En) (va:V) (σ:St):Prop:=B (tS op va Q) X en σ
def HV (op:Cm) (D:EM) (vb:V) (Q X:K) (en:En) (r:Bool) (σ:St):Prop:=if r then D (tS op vb Q) X en σ else Q (.bool j') σ
def PD (op tE:Cm) (D:EM) (va:V) (Q X:K) (en:En) (vb:V) (σ:St):Prop:=kh (uE σ op va vb) (HV tE D vb Q X en) σ
def So (op tE:Cm) (B D:EM) (Q X:K) (en:En) (va:V) (σ:St):Prop:=B (PD op tE D va Q X en) X en σ
def mQ (m:Option Nat) (Q:K) (vs:List V) (σ:St):Prop:=match m with
 | Option.none=>Q (.lst vs) σ
 | some t=>Q (.ref σ.length) (σ++ [.list t vs])
def Km (Q:K) (vs:List V) (σ:St):Prop:=Q (.tup vs) σ
def Vf (t:Nat) (kv:V) (Q:K) (vv:V) (σ:St):Prop:=jb kv λi=>Q (.ref σ.length) (σ++ [.bM t [(i,vv)]])
def Vg (t:Nat) (B:EM) (Q X:K) (en:En) (kv:V) (σ:St):Prop:=B (Vf t kv Q) X en σ
def Gc (a:Nat) (Q:K) (v:V) (σ:St):Prop:=kh (fld σ v a) Q σ
def tR (v:V) (Q:K) (k:V) (σ:St):Prop:=kh (Ew σ v k) Q σ
def Px (B:EM) (Q X:K) (en:En) (v:V) (σ:St):Prop:=B (tR v Q) X en σ
def FM (v:V) (Q:K) (a:V) (σ:St):Prop:=jb a λi=>cg i=vi/\rG (ez σ v) (λl=> .lst (l.drop i.toNat)) Q σ
def Pn (B:EM) (Q X:K) (en:En) (v:V) (σ:St):Prop:=B (FM v Q) X en σ
def FL (v:V) (Q:K) (b:V) (σ:St):Prop:=jb b λj=>cg j=vi/\rG (ez σ v) (λl=> .lst (l.take j.toNat)) Q σ
def Pm (B:EM) (Q X:K) (en:En) (v:V) (σ:St):Prop:=B (FL v Q) X en σ
def Kq (v a:V) (Q:K) (b:V) (σ:St):Prop:=jb a λi=>jb b λj=>cg i=vi/\cg j=vi/\rG (ez σ v) (λl=> .lst (JS l i.toNat j.toNat)) Q σ
def Po (B:EM) (v:V) (Q X:K) (en:En) (a:V) (σ:St):Prop:=B (Kq v a Q) X en σ
def Sk (A B:EM) (Q X:K) (en:En) (v:V) (σ:St):Prop:=A (Po B v Q X en) X en σ
def HK (Q:K) (v:V) (σ:St):Prop:=rG (ez σ v) (λl=> .lst l.reverse) Q σ
def FX (c:Cc) (f:Nat) (Q X:K) (vs:List V) (σ:St):Prop:=c.call f vs Q X σ
def A' (c:Cc) (f:Nat) (v:V) (Q X:K) (vs:List V) (σ:St):Prop:=c.call f (v::vs) Q X σ
def OS (o:Option Nat) (c:Cc) (v:V) (B:EL) (Q X:K) (en:En) (σ:St):Prop:=eO o λf=>B (A' c f v Q X) X en σ
def FT (c:Cc) (m:Nat) (B:EL) (Q X:K) (en:En) (v:V) (σ:St):Prop:=OS (A0 c σ v m) c v B Q X en σ
def Kv (n:Nat) (Q:K) (v:V) (σ:St):Prop:=match v with
 | .none=>Q (.ref n) σ
 | _=>False
def Kw (c:Cc) (k:Nat) (Q X:K) (vs:List V) (σ:St):Prop:=c.call (c.init k) (.ref σ.length::vs) (Kv σ.length Q) X (σ++ [.inst k []])
def HM (Q:K) (v:V) (σ:St):Prop:=rG (Ki σ v) (λn=> .int n) Q σ
def Kx (va:V) (Q:K) (vb:V) (σ:St):Prop:=jb va λi=>jb vb λj=>Q (.int (max i j)) σ
def Ps (B:EM) (Q X:K) (en:En) (va:V) (σ:St):Prop:=B (Kx va Q) X en σ
def FQ (va:V) (Q:K) (vb:V) (σ:St):Prop:=jb va λi=>jb vb λj=>Q (.int (min i j)) σ
def Pr (B:EM) (Q X:K) (en:En) (va:V) (σ:St):Prop:=B (FQ va Q) X en σ
def xq (Q:K) (v:V) (σ:St):Prop:=rG (AD v) .str Q σ
def Kp (Q:K) (v:V) (σ:St):Prop:=jb v λi=>i.natAbs < 1000000/\Q (.str (IQ (toString i))) σ
def PG (Q:K) (v:V) (σ:St):Prop:=jb v λi=>Q (.int i.natAbs) σ
def Pu (Q:K) (v:V) (σ:St):Prop:=sF v λb=>Q (.int (if b then 1 else 0)) σ
def xt (m:Option Nat) (Q:K) (v:V) (σ:St):Prop:=kh (ez σ v) (mQ m Q) σ
def HN (Q:K) (_:Nat) (o:O) (σ:St):Prop:=match o with
 | .bg _ kvs=>kvs.length<=bf/\Q (.lst (kvs.map λp=> .str p.1)) σ
 | _=>False
def zp (N:Nat->O->St->Prop) (v:V) (σ:St):Prop:=Sd σ v λn o=>N n o σ
def FU (Q:K) (v:V) (σ:St):Prop:=zp (HN Q) v σ
def Ba (k:Nat) (Q:K) (v:V) (σ:St):Prop:=rG (jd σ v k) .bool Q σ
def KH (Q:K) (u:V) (n:Nat) (o:O) (σ:St):Prop:=tF o λt l=>l.length < bf/\Q .none (σ.set n (.list t (l++ [u])))
def xu (v:V) (Q:K) (u:V) (σ:St):Prop:=zp (KH Q u) v σ
def KI (B:EM) (Q X:K) (en:En) (v:V) (σ:St):Prop:=xA σ v=vi/\B (xu v Q) X en σ
def Kz (Q:K) (u:V) (n:Nat) (o:O) (σ:St):Prop:=tF o λt l=>FH u λk=>l.length+k.length<=bf/\Q .none (σ.set n (.list t (l++k)))
def Bc (v:V) (Q:K) (u:V) (σ:St):Prop:=zp (Kz Q u) v σ
def KA (B:EM) (Q X:K) (en:En) (v:V) (σ:St):Prop:=xA σ v=vi/\B (Bc v Q) X en σ
def Kr (Q:K) (n:Nat) (o:O) (σ:St):Prop:=tF o λt l=>kh l.getLast? Q (σ.set n (.list t l.dropLast))
def Kt (Q:K) (v:V) (σ:St):Prop:=zp (Kr Q) v σ
def HL (Q:K) (u:V) (n:Nat) (o:O) (σ:St):Prop:=jb u λi=>match o with
 | .bM t kvs=>kvs.length<=bf/\kh (eI i kvs) Q (σ.set n (.bM t (sp i kvs)))
 | _=>False
def v4 (v:V) (Q:K) (u:V) (σ:St):Prop:=zp (HL Q u) v σ
def FP (B:EM) (Q X:K) (en:En) (v:V) (σ:St):Prop:=mR σ v=vi/\B (v4 v Q) X en σ
def HS (Q:K) (z:Xr) (_:Nat) (o:O) (σ:St):Prop:=match o with
 | .bg _ kvs=>Q ((eI z kvs).getD .none) σ
 | _=>False
def v5 (v:V) (Q:K) (u:V) (σ:St):Prop:=uX u λz=>zp (HS Q z) v σ
def FV (B:EM) (Q X:K) (en:En) (v:V) (σ:St):Prop:=mR σ v=vi/\B (v5 v Q) X en σ
noncomputable def JP (l:List V):Option (Xr×Int):=match l with
 | []=>js
 | a::r=>match r with
  | []=>js
  | b::r=>if r.isEmpty then qu a fh (λz=>qu b (λi=>oC (z,i)) fh fh fh) fh fh else js
noncomputable def G' (k:V):Option (Xr×Int):=match k with
 | .tup l=>JP l
 | _=>js
def J1 (o:O) (P:Prop):Prop:=match o with
 | .d6 _ kvs=>kvs.isEmpty=vi/\P
 | _=>False
def HT (Q:K) (u:V) (_:Nat) (o:O) (σ:St):Prop:=J1 o (eO (G' u) λo_=>Q .none σ)
def v6 (v:V) (Q:K) (u:V) (σ:St):Prop:=zp (HT Q u) v σ
def FW (B:EM) (Q X:K) (en:En) (v:V) (σ:St):Prop:=mR σ v=vi/\B (v6 v Q) X en σ
def xr (l:List V) (Q:K) (u:V) (σ:St):Prop:=jb u λi=>rG (qI i l) (λk=> .int k) Q σ
def HQ (B:EM) (Q X:K) (en:En) (v:V) (σ:St):Prop:=FH v λl=>B (xr l Q) X en σ
def FY (c:Cc) (g:Nat) (Q:K) (v:V) (σ:St):Prop:=uX v λs=>kh (c.f' g s) Q σ
def FR (c:Cc) (g:Nat) (Q:K) (v:V) (σ:St):Prop:=uX v λs=>kh (c.fq g s) Q σ
def U' (Q:K) (nm tx:V) (σ:St):Prop:=uX nm λa=>uX tx λb=>a.length+b.length<=900/\Q (.str (a++ ": "++b)) σ
def Va (c:Cc) (Q:K) (nm ms:V) (σ:St):Prop:=kh (fld σ ms c.dO) (U' Q nm) σ
def Vb (c:Cc) (Q:K) (th nm:V) (σ:St):Prop:=kh (fld σ th c.bl) (Va c Q nm) σ
def Vc (c:Cc) (Q:K) (th ow:V) (σ:St):Prop:=kh (fld σ ow c.nName) (Vb c Q th) σ
def oZ (c:Cc) (Q:K) (th:V) (σ:St):Prop:=kh (fld σ th c.cF) (Vc c Q th) σ
def Bd (acc:List V) (N:KL) (v:V) (σ:St):Prop:=acc.length < bf/\N (acc++ [v]) σ
def gE (B:EM) (X:K) (acc:List V) (N:KL) (en:En) (σ:St):Prop:=B (Bd acc N) X en σ
def Pz (v:V) (Q:KL) (vs:List V) (σ:St):Prop:=Q (v::vs) σ
def Vd (B:EL) (Q:KL) (X:K) (en:En) (v:V) (σ:St):Prop:=B (Pz v Q) X en σ
def Ei (B:EM) (Q X:K) (en:En) (v:V) (σ:St):Prop:=sF v λr=>if r then B Q X en σ else Q (.bool j') σ
def Np (B:EM) (Q X:K) (en:En) (v:V) (σ:St):Prop:=sF v λr=>if r then Q (.bool vi) σ else B Q X en σ
def Sn (B:Xr->EM) (out:Xr) (Q X:K) (en:En) (s:Xr) (σ:St):Prop:=out.length+s.length<=1000/\B (out++s) Q X en σ
def kF (B:Xr->EM) (out:Xr) (Q X:K) (en:En) (v:V) (σ:St):Prop:=kh (Dl v) (Sn B out Q X en) σ
def HR (B:(Bool->St->Prop)->K->En->St->Prop) (Q:Bool->St->Prop) (X:K) (en:En) (v:V) (σ:St):Prop:=sF v λr=>if r then B Q X en σ else Q j' σ
abbrev GM:=List V->KL->K->En->St->Prop
def Py (R:GM) (acc:List V) (N:KL) (X:K) (en:En) (b:Bool) (σ:St):Prop:=if b then R acc N X en σ else N acc σ
def tG (x:Nat) (F:(Bool->St->Prop)->K->En->St->Prop) (R:GM) (X:K) (en:En) (v:V) (acc:List V) (N:KL) (σ:St):Prop:=F (Py R acc N X (en.set x v)) X (en.set x v) σ
def J4 (o:Option (List V)) (sv:V) (T:V->List V->KL->St->Prop) (acc:List V) (N:KL) (σ:St):Prop:=eO o λl=>d7 sv l T l acc N σ
def Nq (x:Nat) (F:(Bool->St->Prop)->K->En->St->Prop) (R:GM) (acc:List V) (N:KL) (X:K) (en:En) (sv:V) (σ:St):Prop:=J4 (aQ σ sv) sv (tG x F R X en) acc N σ
def Eh (x:Nat) (a:V) (F:(Bool->St->Prop)->K->En->St->Prop) (R:GM) (acc:List V) (N:KL) (X:K) (en:En) (b:V) (σ:St):Prop:=jb a λi=>jb b λj=>(-1000000 < i/\i < 1000000/\-1000000 < j/\j < 1000000)/\
 d7 (.lst (aM i j)) (aM i j) (tG x F R X en) (aM i j) acc N σ
def Sm (x:Nat) (H:EM) (F:(Bool->St->Prop)->K->En->St->Prop) (R:GM) (acc:List V) (N:KL) (X:K) (en:En) (a:V) (σ:St):Prop:=H (Eh x a F R acc N X en) X en σ
mutual
noncomputable def ba (c:Cc):Ex->K->K->En->St->Prop
 | .bad=>λo_ o_ o_ o_=>False
 | .none=>λQ o_ o_ σ=>Q .none σ
 | .bool b=>λQ o_ o_ σ=>Q (.bool b) σ
 | .int i=>λQ o_ o_ σ=>Q (.int i) σ
 | .str s=>λQ o_ o_ σ=>Q (.str (IQ s)) σ
 | .var x=>λQ o_ en σ=>kh (en x) Q σ
 | .glob k=>λQ o_ o_ σ=>kh (c.glob k) Q σ
 | .neg e=>λQ X en σ=>ba c e (Pq Q) X en σ
 | .not e=>λQ X en σ=>ba c e (Ku Q) X en σ
 | .bin op a b=>λQ X en σ=>ba c a (PE op (ba c b) Q X en) X en σ
 | .and es=>λQ X en σ=>sN c es Q X en σ
 | .or es=>λQ X en σ=>zE c es Q X en σ
 | .ite t a b=>λQ X en σ=>ba c t (HP (ba c a) (ba c b) Q X en) X en σ
 | .cmp op a b=>λQ X en σ=>ba c a (HU op (ba c b) Q X en) X en σ
 | .nX op tE a b d=>λQ X en σ=>ba c a (So op tE (ba c b) (ba c d) Q X en) X en σ
 | .list m es=>λQ X en σ=>kL c es (mQ m Q) X en σ
 | .tup es=>λQ X en σ=>kL c es (Km Q) X en σ
 | .gm k t=>λQ o_ o_ σ=>match k with
   | 0=>Q .iy σ
   | 1=>Q (.ref σ.length) (σ++ [.bM t []])
   | 2=>Q (.ref σ.length) (σ++ [.bg t []])
   | _=>Q (.ref σ.length) (σ++ [.d6 t []])
 | .uz t k v=>λQ X en σ=>ba c k (Vg t (ba c v) Q X en) X en σ
 | .attr e a=>λQ X en σ=>ba c e (Gc a Q) X en σ
 | .idx e i=>λQ X en σ=>ba c e (Px (ba c i) Q X en) X en σ
 | .i6 e lo=>λQ X en σ=>ba c e (Pn (ba c lo) Q X en) X en σ
 | .i5 e hi=>λQ X en σ=>ba c e (Pm (ba c hi) Q X en) X en σ
 | .slice e lo hi=>λQ X en σ=>ba c e (Sk (ba c lo) (ba c hi) Q X en) X en σ
 | .rev e=>λQ X en σ=>ba c e (HK Q) X en σ
 | .call f es=>λQ X en σ=>kL c es (FX c f Q X) X en σ
 | .aD e m es=>λQ X en σ=>ba c e (FT c m (kL c es) Q X en) X en σ
 | .new k es=>λQ X en σ=>kL c es (Kw c k Q X) X en σ
 | .gL k es=>λQ X en σ=>kL c es (FX c (c.init k) Q X) X en σ
 | .len e=>λQ X en σ=>ba c e (HM Q) X en σ
 | .max2 a b=>λQ X en σ=>ba c a (Ps (ba c b) Q X en) X en σ
 | .min2 a b=>λQ X en σ=>ba c a (Pr (ba c b) Q X en) X en σ
 | .repr e=>λQ X en σ=>ba c e (xq Q) X en σ
 | .toStr e=>λQ X en σ=>ba c e (Kp Q) X en σ
 | .abs e=>λQ X en σ=>ba c e (PG Q) X en σ
 | .toInt e=>λQ X en σ=>ba c e (Pu Q) X en σ
 | .copy m e=>λQ X en σ=>ba c e (xt m Q) X en σ
 | .keys e=>λQ X en σ=>ba c e (FU Q) X en σ
 | .bt e k=>λQ X en σ=>ba c e (Ba k Q) X en σ
 | .append e x=>λQ X en σ=>ba c e (KI (ba c x) Q X en) X en σ
 | .extend e x=>λQ X en σ=>ba c e (KA (ba c x) Q X en) X en σ
 | .pop e=>λQ X en σ=>ba c e (Kt Q) X en σ
 | .yA e k=>λQ X en σ=>ba c e (FP (ba c k) Q X en) X en σ
 | .BG e k=>λQ X en σ=>ba c e (FV (ba c k) Q X en) X en σ
 | .BH e k=>λQ X en σ=>ba c e (FW (ba c k) Q X en) X en σ
 | .index e x=>λQ X en σ=>ba c e (HQ (ba c x) Q X en) X en σ
 | .f' g e=>λQ X en σ=>ba c e (FY c g Q) X en σ
 | .fq g e=>λQ X en σ=>ba c e (FR c g Q) X en σ
 | .cV e=>λQ o_ en σ=>ba c e Q (oZ c Q) en σ
 | .qe es=>λQ X en σ=>JK c es Str.empty Q X en σ
 | .comp m own gs elt=>λQ X en σ=>zn c gs (gE (ba c elt) X) [] (mQ m Q) X (en.clear own) σ
noncomputable def kL (c:Cc):gR->KL->K->En->St->Prop
 | .nil=>λQ o_ o_ σ=>Q [] σ
 | .cons e es=>λQ X en σ=>ba c e (Vd (kL c es) Q X en) X en σ
noncomputable def sN (c:Cc):gR->K->K->En->St->Prop
 | .nil=>λQ o_ o_ σ=>Q (.bool vi) σ
 | .cons e es=>λQ X en σ=>ba c e (Ei (sN c es) Q X en) X en σ
noncomputable def zE (c:Cc):gR->K->K->En->St->Prop
 | .nil=>λQ o_ o_ σ=>Q (.bool j') σ
 | .cons e es=>λQ X en σ=>ba c e (Np (zE c es) Q X en) X en σ
noncomputable def JK (c:Cc):gR->Xr->K->K->En->St->Prop
 | .nil=>λout Q o_ o_ σ=>Q (.str out) σ
 | .cons e es=>λout Q X en σ=>ba c e (kF (JK c es) out Q X en) X en σ
noncomputable def iG (c:Cc):gR->(Bool->St->Prop)->K->En->St->Prop
 | .nil=>λQ o_ o_ σ=>Q vi σ
 | .cons e es=>λQ X en σ=>ba c e (HR (iG c es) Q X en) X en σ
noncomputable def zn (c:Cc):fu->(List V->KL->En->St->Prop)->List V->KL->K->En->St->Prop
 | .nil=>λemit acc N o_ en σ=>emit acc N en σ
 | .each x src ifs rest=>λemit acc N X en σ=>ba c src (Nq x (iG c ifs) (zn c rest emit) acc N X en) X en σ
 | .rB x lo hi _ ifs rest=>λemit acc N X en σ=>ba c lo (Sm x (ba c hi) (iG c ifs) (zn c rest emit) acc N X en) X en σ
end
noncomputable def nC (o:O) (k v:V):Option O:=match o with
 | .list t l=>qu k (λj=>(place j l.length).bind λp=>if p < l.length then oC (.list t (l.set p v)) else js) fh fh fh
 | .bM t kvs=>qu k (λj=>if kvs.length<=bf then oC (.bM t (lV j v kvs)) else js) fh fh fh
 | .bg t kvs=>qu k fh (λz=>if kvs.length<=bf then oC (.bg t (lV z v kvs)) else js) fh fh
 | .d6 t kvs=>if kvs.isEmpty then (G' k).map λp=> .d6 t [(.tup [.str p.1,.int p.2],v)] else js
 | .inst _ _=>js
def Pl (c:Cc) (a:Nat) (v:V) (Q:En->St->Prop) (en:En) (n:Nat) (o:O) (σ:St):Prop:=AR o λk fs=>c.field k a=vi/\fs.length<=50/\Q en (σ.set n (.inst k (gB a v fs)))
def Jb (c:Cc) (a:Nat) (v:V) (Q:En->St->Prop) (en:En) (o:V) (σ:St):Prop:=zp (Pl c a v Q en) o σ
def Pj (n:Nat) (Q:En->St->Prop) (en:En) (o:O) (σ:St):Prop:=Q en (σ.set n o)
def Pk (v k:V) (Q:En->St->Prop) (en:En) (n:Nat) (o:O) (σ:St):Prop:=kh (nC o k v) (Pj n Q en) σ
def HJ (v o:V) (Q:En->St->Prop) (en:En) (k:V) (σ:St):Prop:=zp (Pk v k Q en) o σ
def U9 (B:EM) (v:V) (Q:En->St->Prop) (X:K) (en:En) (o:V) (σ:St):Prop:=B (HJ v o Q en) X en σ
def I4 (c:Cc) (t:Tg) (v:V) (Q:En->St->Prop) (X:K) (en:En) (σ:St):Prop:=match t with
 | .nm x=>Q (en.set x v) σ
 | .at e a=>ba c e (Jb c a v Q en) X en σ
 | .ix e i=>ba c e (U9 (ba c i) v Q X en) X en σ
def Sj (R:(En->St->Prop)->K->En->St->Prop) (Q:En->St->Prop) (X:K) (en:En) (σ:St):Prop:=R Q X en σ
noncomputable def rm (c:Cc):List Tg->List V->(En->St->Prop)->K->En->St->Prop
 | [],[]=>λQ o_ en σ=>Q en σ
 | t::ts,v::vs=>λQ X en σ=>I4 c t v (Sj (rm c ts vs) Q X) X en σ
 | _,_=>λo_ o_ o_ o_=>False
def nQ (N:KN) (en:En) (σ:St):Prop:=N .next en σ
def KC (N:KN) (en:En) (_:V) (σ:St):Prop:=N .next en σ
def yN (x:Nat) (N:KN) (en:En) (v:V) (σ:St):Prop:=N .next (en.set x v) σ
def KG (c:Cc) (e:Ex) (a:Nat) (N:KN) (X:K) (en:En) (u:V) (σ:St):Prop:=I4 c (.at e a) u (nQ N) X en σ
def KE (c:Cc) (e i:Ex) (N:KN) (X:K) (en:En) (u:V) (σ:St):Prop:=I4 c (.ix e i) u (nQ N) X en σ
def KJ (u:V) (N:KN) (en:En) (n:Nat) (o:O) (σ:St):Prop:=tF o λt o_=>FH u λk=>N .next en (σ.set n (.list t k))
def Gd (u:V) (N:KN) (en:En) (o:V) (σ:St):Prop:=zp (KJ u N en) o σ
def PF (B:EM) (N:KN) (X:K) (en:En) (u:V) (σ:St):Prop:=B (Gd u N en) X en σ
def HW (c:Cc) (ts:List Tg) (N:KN) (X:K) (en:En) (vs:List V) (σ:St):Prop:=ts.length=vs.length/\rm c ts vs (nQ N) X en σ
def qD (c:Cc) (ts:List Tg) (N:KN) (X:K) (en:En) (v:V) (σ:St):Prop:=kh (aQ σ v) (HW c ts N X en) σ
def Ga (c:Cc) (a:Nat) (op:zC) (o old:V) (N:KN) (en:En) (u:V) (σ:St):Prop:=jb old λi=>jb u λj=>op=.add/\Jb c a (.int (i+j)) (nQ N) en o σ
def Gb (c:Cc) (a:Nat) (op:zC) (B:EM) (o:V) (N:KN) (X:K) (en:En) (old:V) (σ:St):Prop:=B (Ga c a op o old N en) X en σ
def KD (c:Cc) (a:Nat) (op:zC) (B:EM) (N:KN) (X:K) (en:En) (o:V) (σ:St):Prop:=kh (fld σ o a) (Gb c a op B o N X en) σ
def Pw (A B:SM) (N:KN) (X:K) (en:En) (v:V) (σ:St):Prop:=sF v λr=>if r then A N X en σ else B N X en σ
def Ko (N:Bool->St->Prop) (v:V) (σ:St):Prop:=sF v λr=>N r σ
def sR (B:EM) (X:K) (N:Bool->St->Prop) (en:En) (σ:St):Prop:=B (Ko N) X en σ
def sS (B:SM) (X:K) (N:KN) (en:En) (σ:St):Prop:=B N X en σ
def zP (x:Nat) (B:SM) (X:K) (v:V) (N:KN) (en:En) (σ:St):Prop:=B N X (en.set x v) σ
def DV (o:Option (List V)) (sv:V) (T:V->KN->En->St->Prop) (N:KN) (en:En) (σ:St):Prop:=eO o λl=>hH sv l T l N en σ
def kFor (x:Nat) (B:SM) (N:KN) (X:K) (en:En) (sv:V) (σ:St):Prop:=DV (aQ σ sv) sv (zP x B X) N en σ
def nB (B:SM) (N:KN) (X:K) (en:En) (σ:St):Prop:=B N X en σ
def Ox (c:Cc) (xs:List Nat) (B:SM) (X:K) (N:KN) (en:En) (vs:List V) (σ:St):Prop:=xs.length=vs.length/\rm c (xs.map .nm) vs (nB B N X) X en σ
def zO (c:Cc) (xs:List Nat) (B:SM) (X:K) (v:V) (N:KN) (en:En) (σ:St):Prop:=kh (aQ σ v) (Ox c xs B X N en) σ
def Bb (c:Cc) (xs:List Nat) (B:SM) (N:KN) (X:K) (en:En) (sv:V) (σ:St):Prop:=DV (aQ σ sv) sv (zO c xs B X) N en σ
def v7 (x:Nat) (p:V) (B:SM) (N:KN) (X:K) (en:En) (q:V) (σ:St):Prop:=jb p λi=>jb q λj=>(-1000000 < i/\i < 1000000/\-1000000 < j/\j < 1000000)/\
 hH (.lst (aM i j)) (aM i j) (zP x B X) (aM i j) N en σ
def Ky (x:Nat) (H:EM) (B:SM) (N:KN) (X:K) (en:En) (p:V) (σ:St):Prop:=H (v7 x p B N X en) X en σ
def Pp (N:KN) (en:En) (v:V) (σ:St):Prop:=N (.ret v) en σ
def DY (R:SM) (N:KN) (X:K) (fl:Fl) (en:En) (σ:St):Prop:=match fl with
 | .next=>R N X en σ
 | .brk=>N .brk en σ
 | .cont=>N .cont en σ
 | .ret v=>N (.ret v) en σ
mutual
noncomputable def wpS (c:Cc):S->KN->K->En->St->Prop
 | .bad=>λo_ o_ o_ o_=>False
 | .expr e=>λQ X en σ=>ba c e (KC Q en) X en σ
 | .asg x e=>λQ X en σ=>ba c e (yN x Q en) X en σ
 | .av e a v=>λQ X en σ=>ba c v (KG c e a Q X en) X en σ
 | .ed e i v=>λQ X en σ=>ba c v (KE c e i Q X en) X en σ
 | .pK e v=>λQ X en σ=>ba c v (PF (ba c e) Q X en) X en σ
 | .aN ts e=>λQ X en σ=>ba c e (qD c ts Q X en) X en σ
 | .sA _ _ _=>λo_ o_ o_ o_=>False
 | .eD e a op v=>λQ X en σ=>ba c e (KD c a op (ba c v) Q X en) X en σ
 | .bS t a b=>λQ X en σ=>ba c t (Pw (bX c a) (bX c b) Q X en) X en σ
 | .i7 t b=>λQ X en σ=>∃n,lQ (sR (ba c t) X) (sS (bX c b) X) n Q en σ
 | .lu x src b=>λQ X en σ=>ba c src (kFor x (bX c b) Q X en) X en σ
 | .BM xs src b=>λQ X en σ=>ba c src (Bb c xs (bX c b) Q X en) X en σ
 | .forR x lo hi _ b=>λQ X en σ=>ba c lo (Ky x (ba c hi) (bX c b) Q X en) X en σ
 | .ret e=>λQ X en σ=>ba c e (Pp Q en) X en σ
 | .og=>λQ o_ en σ=>Q (.ret .none) en σ
 | .brk=>λQ o_ en σ=>Q .brk en σ
 | .cont=>λQ o_ en σ=>Q .cont en σ
 | .oK e=>λo_ X en σ=>ba c e X X en σ
noncomputable def bX (c:Cc):Ss->KN->K->En->St->Prop
 | .nil=>λQ o_ en σ=>Q .next en σ
 | .cons s r=>λQ X en σ=>wpS c s (DY (bX c r) Q X) X en σ
end
structure gQ where
 cls:Option Nat:=js
 name:Nat
 params:List Nat
 hO:List V
 body:Ss
end
end
end Mine.Internal
end
section
set_option genCtorIdx false
open Option renaming some -> js,none -> vd,map_eq_some_iff -> Ou,bind_eq_some_iff -> Zt,isNone_iff_eq_none -> ad2,isSome_iff_exists -> ae1,map_some -> ay3,elim -> aD9
open PySem renaming wpAny_bind -> j',Value -> vi,wpAny_pure -> yd,Shared -> FF,model -> Hj,wpAny -> IQ,Addr -> Nj,wpAny_holding -> N6,Expr -> Xq,wpAny_standAt -> Zq,sizeLine_eq -> Zs,Str -> Zu,cellsFrom -> Zx,mainGlobals -> Zy,evalPart_none_step -> ZF,sysModules -> ZI,wpAny_mono -> ZJ,wpAny_loadName_local -> ZK,Comprehension -> ZM,builtinsNs -> ZO,wpAny_loadPart_at -> ZR,wpAny_truthy_bool -> ZX,codeAny -> Z0,NameKind -> Z2,Heap -> Z4,relabel -> Z9,starEach -> Z',rawInt -> aa1,wpAny_items_cons -> aa3,recursionLimit -> aa5,excClassObj -> aa9,swapsWithSole -> ab1,wpAny_field -> ab9,eval -> ac2,getMethod_builtin -> ac4,newFunctionEnv -> ac8,DictEntry -> ad0,Stmt -> ad3,wpAny_Assign_stores -> ad7,wpAny_isSubtype_exc -> ad8,FuncData -> ad9,wpAny_comprehension_free -> ae2,wpAny_items_nil -> ae3,Around -> ae4,wpAny_Name -> ae5,wpAny_call -> ae6,cameBackBy -> ae7,wpAny_assign_Name -> af2,swappedStores -> ag7,notedBy -> ag8,wpAny_of_eq -> ah3,codeAny_call_builtin -> ah4,backTo -> ah5,assign -> ah7,letOwnedTupleGo -> ah8,codeAmong -> ai4,storeName -> ai5,noteFrame -> ai6,Scope -> ai7,wpAny_Constant_str -> ai9,strKind_is -> aj0,wpAny_setField -> aj4,assignEach -> aj5,wpAny_Slice -> ak6,wpAny_newObj_type -> ak7,wpAny_Return_some -> al0,attributeBase -> al1,pyIter -> al2,wpAny_release -> al3,frameOf -> al4,strLen_append -> al5,ClassData -> al6,sizeLine -> al9,compareOp -> am0,wpAny_call_entry -> am3,checkBuiltinCall -> am4,standAt -> am5,holding -> am6,intKind_is -> am8,wpAny_pyIter_rangeiter -> an2,cLine -> an6,wpAny_specialOf -> an9,wpAny_loadPart -> ap1,fresh -> ap4,wpAny_listPart -> ap5,pushCells -> ap9,wpAny_Constant_none -> aq1,wpAny_isTrue_BoolOp -> aq2,Flow -> aq4,wpAny_setItem_pairs -> aq5,wpAt_of_wpAny -> aq7,wpAny_UnaryOp -> aq8,isTrue -> aq9,wpAny_Constant_int -> ar0,pyNext -> ar3,firstAsync -> ar6,Program -> as0,intKind -> as1,setItem -> at4,codeAny_mono -> at7,call_range_1 -> at9,codeAny_func -> au0,wpAny_runOwn -> au1,wpAny_typeOf -> au3,ExcBaseFacts -> au6,setFlight -> aw1,firstIter -> aw5,wpAny_BinOp -> ax3,wpAny_alloc -> ax6,valueAt -> ay9,binaryOp -> az1,compPost -> aA2,evalEach -> aA3,passOn -> aD0
open PySem.Str renaming ofString -> oC
open Bool renaming true -> vk,false -> Fk,noConfusion -> TU,false_eq_true -> ZE,and_eq_true -> ZV,or_true -> am9,and_false -> ap0,true_and -> aA6
open Option.some renaming inj -> vo
open List renaming getElem?_eq_some_iff -> Lf,getElem?_append_left -> N8,mem_of_getElem? -> Oq,getElem?_eq_getElem -> Um,lookup_cons -> Zh,mem_cons -> Zr,getElem?_append_right -> Zw,contains_iff_mem -> Zz,mem_append_left -> ZC,mem_append_right -> ZS,isEmpty_iff -> ZW,drop_of_length_le -> ZY,forIn_cons -> ZZ,drop_eq_getElem_cons -> Z1,getElem?_map -> Z7,all_eq_true -> aa4,mem_append -> aa7,append_nil -> aa8,all_cons -> ab0,replicate -> ab4,getElem?_drop -> ac0,contains_cons -> ac1,length_map -> ac3,getElem?_of_mem -> ac6,lookup_append -> ae8,length_eq_zero_iff -> af1,findIdx?_eq_some_iff_getElem -> af3,take_of_length_le -> af7,take_append_drop -> ag1,map_cons -> ag6,find?_cons -> ah6,nodup_cons -> ah9,getElem?_take -> ai8,mem_filterMap -> aj3,getElem?_zip_eq_some -> aj9,isEmpty_eq_false_iff -> ak0,mem_of_find?_eq_some -> ak1,append_assoc -> ak2,lookup -> ak4,cons_ne_nil -> al8,mem_map -> an1,nil_append -> an7,getElem?_reverse -> ao0,getElem?_eq_none -> ao3,drop -> ap8,replicate_succ -> aq3,mem_map_of_mem -> aq6,mem_singleton -> ar2,length_append -> ar5,zip_cons_cons -> ar8,length_take -> av7,length_drop -> av8,filter_cons -> av9,cons_append -> aw8,getElem_mem -> ax0,mem_filter -> ay4,find?_some -> ay8,drop_zero -> az8,drop_drop -> aA4,any_cons -> aA8
open PySem.Heap renaming get?_push_size -> Q1,get?_push_of_some -> Xr,get?_update_self -> YM,get?_none_of_le -> ZD,get?_update_other -> ZN,lt_size -> ZU,SameBut -> aa0,size_push -> ac7,get?_some_iff -> ae9,ExtBut -> ak9,SlotsOnly -> az9
open Nat renaming sub_add_cancel -> R6,le_of_ble_eq_true -> Ul,not_lt -> ZP,le_trans -> ZT,zero_le -> Z5,le_of_succ_le -> Z8,le_refl -> af0,le_of_lt_succ -> af4,ne_of_gt -> af5,lt_irrefl -> ag9,ne_of_lt -> ai2,lt_or_ge -> an3,ne_of_beq_eq_false -> an4,min_eq_left -> an8,log2_lt -> ao5,ble -> aq0,lt_trans -> as2,succ_pos -> at3,succ_le_succ -> av2,min_eq_right -> av5,min_le_right -> av6,lt_succ_self -> aw2,le_add_right -> aw6,le_antisymm -> ax8,le_add_left -> ay0,not_lt_zero -> ay1
open PySem.NameKind renaming free -> YL,cell -> ZA
open ForInStep renaming yield -> Zv
open PySem.Value renaming ref -> ZG,isStrOf_shape -> ad6,isInt_shape -> af8,none -> ag3,builtin -> ah0,isStr -> ao8,isStrOf -> aA7
open PySem.Obj renaming mapFields -> ZH,putName -> ab8,mapSeq -> an0,isFreed_of_fields -> ao2,data_mapFields -> ar4,cls_mapFields -> at5
open Array renaming getElem?_eq_some_iff -> ZL,replicate -> ai0,toList_append -> ai1,mem_toList_iff -> ao7,toList_push -> at1,size_append -> au5
open PySem.Heap.SameBut renaming update -> ZQ
open PySem.W renaming findIn -> Z3,emptyDict -> Z6,Frag -> ac9,dictOf -> ad4,looks_findIn -> af6,instObj -> ak3,callWith_of -> ak5,takerIn -> ak8,specialIn -> al7,mroIn -> an5,plainGet -> ao4,looks_clsIn -> ap2,findCls -> ap7,keeps_K -> at0,clsIn -> au7,ghostOf -> au8,hasDictIn -> av0,keepIn -> av1,plainGet_of -> ax4,lookIn_dict -> ax5,looks_mroIn -> ax7,Looks -> ay7,kia_one -> az0
open PyProof.Rows renaming MethodCall_ -> aa2,Call_Name -> ag4,Subscript_ -> aj1,add_str -> ao6,Assign_Tuple_swapped -> ap3,triples_no_str -> ap6,tail_any -> az4
open PUnit renaming unit -> aa6
open PySem.Env renaming kindOf -> ab2
open Int renaming toNat_of_nonneg -> ab3,le_of_lt -> ad1,natAbs_of_nonneg -> ah1,ofNat_natAbs_of_nonpos -> aj2,max_eq_right -> am2,lt_trans -> am7,ne_of_gt -> as3,not_lt -> az6
open PySem.F renaming plainAttrs_list -> ab5,plainAttrs_dict -> ab6,slot_dict_get -> af9,type_dict_get -> ag0,slot_tuple_iterator_iter -> aj6,excBase_ValueError -> aj7,slot_dict_pop -> ao1
open PySem.Builtin.Range renaming rangeSize -> ab7
open PySem.Builtin.Int renaming intBits -> ad5
open PySem.Builtin.List renaming listTooLong -> ae0,listSubscript? -> ai3
open False renaming elim -> ag2
open Ne renaming symm -> ag5
open PySem.IsRange renaming new -> ah2
open PySem.ScopeKind renaming function -> aj8
open PySem.Calls renaming callWith_builtin -> am1,Name_function_global -> ao9
open PySem.Heap.IsSliceOf renaming new -> ar1
open PySem.Code renaming quiet_builtin -> ar7
open PySem.Builtin.ObjectAttr renaming storeInOwnDict -> ar9,storeTaker? -> aw9
open Or renaming elim -> as4
open PySem.MeetsSeq renaming EqGives -> av3
open PySem.DictEntry renaming refKey -> av4
open And renaming intro -> aw3
open PySem.W.Looks renaming of_pure -> aB0
open PySem.Expr renaming Name -> aB9
open PySem.SeqAt renaming shaped -> aC3
open PySem.MeetsSeq.EqGives renaming int -> aD7
open PySem PySem.Calls PyProof.Rows PySem.W
namespace Mine.Internal
noncomputable section
variable {ρ am c9 aU:aO} {h h' h₀ hB:Z4} {l dv acc cp:List V} {vs xs:Array vi} {s s₁ s' s0 s1:FF} {a me hi mo lo bo m':Ex} {o e value slice target iter elt:Xq} {r Os:List (Nj×Nj)} {T:Cx} {W W':Nj->Prop} {p p' pos apos sP px pz pos' p1 p2 p3 p4 p5 p6 p7 p8 p9:Pos} {n f k x d kk nn cF nName bl dO xerr:Nat} {v th sv:V} {σ aa sK aT:St} {P':List Nj} {L I0 C fa:Nj} {A:ae4} {outer:List Env} {m:Zu->Option vi} {env ah:Env} {en aH GB:En} {raw G:Prop} {e' u ua ub uv it om cv:vi} {Q X:V->St->Prop} {Q' E' Er:vi->FF->Prop} {prog:as0} {w:World} {M:Model} {c:Cc} {i j:Int} {es ts ifs:List Xq} {cy ms mi:gR} {y name z qual:Zu} {op:Cm} {a2 expr a1 a3 a4 a5 a6:Bool} {fs:List (Nat×V)} {us bm:List vi} {ob:Obj} {fl:vi->Prop} {mb:Ss} {R:Result->FF->Prop} {body:List ad3} {Sr:aO->Z4->Prop} {J:Nat->Z4->Prop} {scope sc:ai7} {gens gs:List ZM} {rest:fu} {fd:ad9} {od:Option Nj} {cd:al6} {ks:Ks} {F:gQ}
structure aO where
 o:List (Nj×Nj)
 p:List Nj
def f9 (ρ:aO) (a:Nj):Prop:=∃p∈ρ.o,a=p.1∨a=p.2
def aO.jJ (ρ:aO) (a:Nj):Prop:=¬f9 ρ a/\a∉ρ.p
noncomputable def aO.add (ρ:aO) (p:Nj×Nj):aO:=⟨ρ.o++ [p],ρ.p⟩
noncomputable def aO.own (ρ:aO) (l:List Nj):aO:=⟨ρ.o,l++ρ.p⟩
structure Cx where
 prog:as0
 w:World
 hB:Z4
 K:ac9
 s₁:FF
 nm:Nat->Zu
 tabs:List (Nj×Nj)
 yg:Nj->Zu
 cY:Nat->Nj
 gX:Nat->Bool
 fieldOf:Nat->Nat->Bool
 cR:Nj
 gJ:Nat
 sI:Nat->Nj
 WZ:Nat->gQ
 isFn:Nat->Bool
 names:List (Zu×vi)
 aD:Nat->Nat->Option Nat
 init:Nat->Nat
 kinds:List (Nat×vi)
 mX:Nat->Nj
 pa:Nat->Bool
 y9:Nat->Zu->Option (Option V)
def Cx.tab (T:Cx) (b:Nj):Prop:=∃q∈T.tabs,b=q.2
mutual
noncomputable def aq (ρ:aO) (h:Z4):V->vi->Prop
 | .none=>λv=>v=.none
 | .bool b=>λv=>v=.bool b
 | .int i=>λv=>∃t,v=.int i t
 | .str s=>λv=>∃t,v=.str s t
 | .tup l=>λv=>∃a xs n,v=.ref a/\h.get? a=js {cls:=.type "tuple",data:=.seq xs n}/\ρ.jJ a/\l.length<=bf/\ai ρ h l xs.toList
 | .lst l=>λv=>∃a xs n,v=.ref a/\h.get? a=js {cls:=.type "list",data:=.seq xs n}/\ρ.jJ a/\l.length<=bf/\ai ρ h l xs.toList
 | .iy=>λv=>∃a n,v=.ref a/\h.get? a=js (ad4 [] n)/\ρ.jJ a/\a ≠ ZI
 | .ref n=>λv=>∃p,ρ.o[n]? =js p/\v=.ref p.1
noncomputable def ai (ρ:aO) (h:Z4):List V->List vi->Prop
 | []=>λvs=>vs=[]
 | v::l=>λvs=>∃u us,vs=u::us/\aq ρ h v u/\ai ρ h l us
end
theorem ai.length:∀{l} {vs},ai ρ h l vs->vs.length=l.length
 | [],vs,x=>by obtain rfl:_=[]:=x; rfl
 | v::l,vs,x=>by
  obtain ⟨u,us,rfl,o_,x⟩:=x
  simp [ai.length x]
theorem ai.get:∀{l} {vs},ai ρ h l vs->∀(i:Nat) v,l[i]? =js v->∃u,vs[i]? =js u/\aq ρ h v u
 | [],vs,x,i,v,e=>by simp at e
 | w::l,vs,x,i,v,e=>by
  obtain ⟨u,us,rfl,x1,x⟩:=x
  cases i with
  | zero=>simp at e; subst e; exact az u rfl x1
  | succ i=>simp at e; simpa using x.get i v e
theorem ai.append:∀{l} {vs} {l'} {ql},ai ρ h l vs->ai ρ h l' ql->ai ρ h (l++l') (vs++ql)
 | [],vs,l',ql,x,y=>by obtain rfl:_=[]:=x; exact y
 | v::l,vs,l',ql,x,y=>by
  obtain ⟨u,us,rfl,x1,x⟩:=x
  exact bP u (us++ql) rfl x1 (x.append y)
theorem ai.mk:∀{l} {vs},l.length=vs.length->(∀(i:Nat) v u,l[i]? =js v->vs[i]? =js u->aq ρ h v u)->ai ρ h l vs
 | [],[],_,_=>(rfl: []=[])
 | [],_::_,e,_=>by simp at e
 | _::_,[],e,_=>by simp at e
 | v::l,u::us,e,k=>bP u us rfl (k 0 v u rfl rfl) (ai.mk (by simpa using e) λi v' u' a b=>k (i+1) v' u' a b)
theorem ai.drop {vs:List vi} (x:ai ρ h l vs) (n:Nat):ai ρ h (l.drop n) (vs.drop n):=by
 refine ai.mk (by simp [x.length]) λi v u a b=> ?_
 rw [ac0] at a b
 refine ag (x.get _ _ a) λu' e r=>bD (se e b) ?_; exact r
theorem ai.take {vs:List vi} (x:ai ρ h l vs) (n:Nat):ai ρ h (l.take n) (vs.take n):=by
 refine ai.mk (by simp [x.length]) λi v u a b=> ?_
 rw [ai8] at a b
 split at a
 ·rename_i q; replace b:=(if_pos q).symm.trans b
  refine ag (x.get _ _ a) λu' e r=>bD (se e b) ?_; exact r
 ·exact aI a
theorem ai.reverse {vs:List vi} (x:ai ρ h l vs):ai ρ h l.reverse vs.reverse:=by
 refine ai.mk (by simp [x.length]) λi v u a b=> ?_
 have hi:i < l.length:=by have:=(Lf.mp a).1; simpa using this
 rw [ao0 hi] at a
 rw [ao0 (by rw [x.length]; exact hi),x.length] at b
 refine ag (x.get _ _ a) λu' e r=>bD (se e b) ?_; exact r
noncomputable def cG:vi:=.type "frame"
structure dZ (T:Cx) (W:Nj->Prop) (ρ:aO) (h:Z4) (am:aO) (h':Z4):Prop where
 pre:∃r s,am=⟨ρ.o++r,s++ρ.p⟩/\(∀p∈r,h.get? p.1=vd/\h.get? p.2=vd)/\∀b∈s,h.get? b=vd
 keep:∀b o,h.get? b=js o->¬f9 ρ b->¬T.tab b->¬W b->∃sl,h'.get? b=js {o with slots:=sl}/\(o.cls ≠ cG∨T.hB.get? b ≠ vd->sl=o.slots)
 all:∀b o,h.get? b=js o->∃o',h'.get? b=js o'
def W0:Nj->Prop:=λo_=>False
theorem f9.append {s:List Nj} {a:Nj} {o:List (Nj×Nj)}:f9 ⟨o++r,s⟩ a↔f9 ⟨o,t⟩ a∨∃p∈r,a=p.1∨a=p.2:=by
 constructor
 ·refine λDM=>ag DM λp hp e=> ?_
  rcases aa7.mp hp with hp | hp
  ·exact .inl (az p hp e)
  ·exact .inr (az p hp e)
 ·rintro (⟨p,hp,e⟩ | ⟨p,hp,e⟩)
  ·exact ⟨p,ZC _ hp,e⟩
  ·exact ⟨p,ZS _ hp,e⟩
section
variable {qk qj:aO} {bQ nL:Z4}
theorem dZ.foot {o:Obj} (x:dZ T W ρ h am h') (e:h.get? b=js o) (n:¬f9 ρ b):¬f9 am b:=by
 refine bp x.pre λr s q1 hr o_=>af q1 ?_
 intro y
 rcases f9.append.mp y with y | ⟨p,hp,y⟩
 ·exact n y
 ·rcases y with rfl | rfl
  ·exact fy ((hr p hp).1) e
  ·exact fy ((hr p hp).2) e
theorem dZ.jJ {o:Obj} (x:dZ T W ρ h am h') (e:h.get? b=js o) (n:ρ.jJ b):am.jJ b:=by
 refine ⟨x.foot e n.1,?_⟩
 refine bp x.pre λr s q1 o_ hs=>af q1 ?_
 intro y
 rcases aa7.mp y with y | y
 ·exact fy (hs b y) e
 ·exact n.2 y
theorem dZ.get {p:Nj×Nj} (x:dZ T W ρ h am h') (e:ρ.o[n]? =js p):am.o[n]? =js p:=bV x.pre λr s q1 o_=>af q1 <| (N8 (Lf.mp e).1)▸e
theorem dZ.aX (x:dZ T W ρ h am h') (e:b∈ρ.p):b∈am.p:=bV x.pre λr s q1 o_=>af q1 <| List.mem_append_right _ e
theorem dZ.refl T W ρ h:dZ T W ρ h ρ h:=
 ⟨(bP ([]) ([]) (by simp) (of_decide_eq_true rfl) (of_decide_eq_true rfl)),λb o e o_ o_ o_=>(az o.slots e (λo_=>rfl)),λb o e=>⟨o,e⟩⟩
theorem dZ.fresh (x:dZ T W ρ h am h') (e:h'.get? b=vd):h.get? b=vd:=by
 cases q:h.get? b with
 | none=>rfl
 | some o=>refine dJ (x.all b o q) λo' q'=> ?_; exact fy e q'
theorem dZ.mono (x:dZ T W ρ h am h') (k:∀b,W b->W' b):dZ T W' ρ h am h':=
 ⟨x.pre,λb o e f t n=>x.keep b o e f t λy=>n (k b y),x.all⟩
theorem dZ.drop (x:dZ T W ρ h qk bQ) (y:dZ T W' qk bQ qj nL) (k:∀b,W' b->W b∨h.get? b=vd):dZ T W ρ h qj nL:=by
 refine ⟨?_,λb o e f t n=> ?_,λb o e=> ?_⟩
 ·refine bp x.pre λr s e1 hr hs=>bp y.pre λr' s' e2 ca tY=>bP (r++r') (s'++s) (by simp only [e2,e1,ak2,ak2]) (λp hp=> ?_) (λb hb=> ?_)
  ·rcases aa7.mp hp with hp | hp
   ·exact hr p hp
   ·exact ⟨x.fresh (ca p hp).1,x.fresh (ca p hp).2⟩
  ·rcases aa7.mp hb with hb | hb
   ·exact x.fresh (tY b hb)
   ·exact hs b hb
 ·refine ag (x.keep b o e f t n) λsl e1 s1=> ?_
  obtain ⟨R5,e2,s2⟩:=y.keep b _ e1 (x.foot e f) t λq=>by
   rcases k b q with q | q
   ·exact n q
   ·exact fy q e
  exact az R5 e2 (λq=>(s2 q).trans (s1 q))
 ·obtain ⟨o',e'⟩:=x.all b o e
  exact y.all b o' e'
theorem dZ.trans (x:dZ T W ρ h qk bQ) (y:dZ T W qk bQ qj nL):dZ T W ρ h qj nL:=x.drop y λo_ w=> .inl w
def iE (T:Cx) (h:Z4):Prop:=∀b o,T.tab b->h.get? b=js o->o.cls=.none
def d4 (W:Nj->Prop) (ρ:aO):Prop:=∀b,W b->b∈ρ.p
theorem d4.zero ρ:d4 W0 ρ:=λo_ x=>x.elim
theorem dZ.exact {o:Obj} (x:dZ T W ρ h am h') (t:iE T h) (wl:d4 W ρ) (e:h.get? b=js o) (f:ρ.jJ b) (n:o.cls ≠ .none) (n':o.cls ≠ cG):h'.get? b=js o:=by
 refine ag (x.keep b o e f.1 (λq=>n (t b o q e)) (λw=>f.2 (wl b w))) λsl e' s=> ?_
 rw [s (.inl n')] at e'; exact e'
end
mutual
theorem aq.ext (x:dZ T W ρ h am h') (t:iE T h) (wl:d4 W ρ):
  ∀(v:V) {u:vi},aq ρ h v u->aq am h' v u
 | .none,_,r=>r
 | .bool _,_,r=>r
 | .int _,_,r=>r
 | .str _,_,r=>r
 | .ref n,u,r=>by
  obtain ⟨p,e,rfl⟩:=r
  exact ⟨p,x.get e,rfl⟩
 | .iy,u,r=>by
  obtain ⟨a,n,rfl,e,f,z⟩:=r
  exact ⟨a,n,rfl,x.exact t wl e f (by simp) (by simp [cG]),x.jJ e f,z⟩
 | .tup l,u,r=>by
  obtain ⟨a,xs,n,rfl,e,f,z,r⟩:=r
  exact ⟨a,xs,n,rfl,x.exact t wl e f (by simp) (by simp [cG]),x.jJ e f,z,ai.ext x t wl l r⟩
 | .lst l,u,r=>by
  obtain ⟨a,xs,n,rfl,e,f,z,r⟩:=r
  exact ⟨a,xs,n,rfl,x.exact t wl e f (by simp) (by simp [cG]),x.jJ e f,z,ai.ext x t wl l r⟩
theorem ai.ext (x:dZ T W ρ h am h') (t:iE T h) (wl:d4 W ρ):
  ∀(l:List V) {us:List vi},ai ρ h l us->ai am h' l us
 | [],_,r=>r
 | v::l,us,r=>by
  obtain ⟨u,I5,rfl,r1,r⟩:=r
  exact ⟨u,I5,rfl,aq.ext x t wl v r1,ai.ext x t wl l r⟩
end
def b8 {κ:Type} (ρ:aO) (h:Z4) (kvs:List (κ×V)) (bB:List (κ×vi)):Prop:=bB.map (·.1)=kvs.map (·.1)/\ai ρ h (kvs.map (·.2)) (bB.map (·.2))
noncomputable def fe (T:Cx) (ρ:aO) (h:Z4):List (Nat×V)->List ad0->Prop
 | []=>λes=>es=[]
 | (c,v)::fs=>λes=>∃e sf,es=e::sf/\(∃t,e.key=.str (T.nm c) t)/\aq ρ h v e.val/\fe T ρ h fs sf
def kG (T:Cx) (ρ:aO) (h:Z4) (o:O) (p:Nj×Nj):Prop:=match o with
 | .list _ l=>p.2=p.1/\∃xs n,h.get? p.1=js {cls:=.type "list",data:=.seq xs n}/\ai ρ h l xs.toList/\l.length<=bf
 | .bM _ kvs=>p.2=p.1/\∃bB,h.DictOf (as1 T.prog T.w) p.1 bB/\b8 ρ h kvs bB
 | .bg _ kvs=>p.2=p.1/\∃bB,h.DictOf (strKind T.prog T.w) p.1 bB/\b8 ρ h kvs bB
 | .d6 _ kvs=>p.2=p.1/\∃ob,h.get? p.1=js ob/\ob.ExactDict/\(∃es n,ob.data=.dict es n)/\(kvs=[]->∃n,ob=ad4 [] n)
 | .inst c fs=>p.1 ≠ p.2/\T.gX c=vk/\(∀q∈fs,T.fieldOf c q.1=vk)/\h.get? p.1=js (ak3 (T.cY c) p.2)/\∃es n,h.get? p.2=js (ad4 es n)/\fe T ρ h fs es
def iD (T:Cx) (p:List Nj) (h:Z4):Prop:=∀q∈T.tabs,∃ps,h.get? q.2=js (tabObj ps)/\TriplesOk ps.toList/\∀pos cv,ai4 pos ps.toList=js cv->h.CodeRec cv (T.yg q.1)/\∀c,cv=.ref c->c∉p
noncomputable def eX (K:ac9) (t:vi) (l:List (Nat×vi)) (f:Nat->Bool):Bool:=l.all λq=>kitOne K t q.2==js (f q.1)
theorem gV {K:ac9} {t:vi} {l:List (Nat×vi)} {f:Nat->Bool} (h:eX K t l f=vk) {v:vi} (e:l.lookup k=js v):kitOne K t v=js (f k):=by
 unfold eX at h
 induction l with
 | nil=>simp at e
 | cons q l ih=>
  obtain ⟨a,b⟩:=q
  rw [ab0,ZV] at h
  by_cases z:k=a
  ·subst z
   rw [Zh,beq_self_eq_true] at e
   exact bD (vo e) <| beq_iff_eq.mp h.1
  ·rw [Zh,show (k==a)=Fk from by simpa using z] at e
   exact ih h.2 e
structure Ue (T:Cx):Prop where
 lim:T.hB.NoLimit
 sys:∃b o,ZI < b/\T.hB.get? b=js o
 jS:∀a b,T.nm a=T.nm b->a=b
 PM:T.K.In T.hB
 fld:∀c a,T.fieldOf c a=vk->Z3 T.K (.ref (T.cY c)) (T.nm a)=js vd
 cls:∀c,T.gX c=vk->ao4 T.K (T.cY c) ""=vk/\av0 T.K (T.cY c)=vk/\plainOver T.K (T.cY c)=vk/\Z3 T.K (.ref (T.cY c)) "__setattr__"=js (js (.builtin "object.__setattr__"))
 glob:∀x v,T.names.lookup x=js v->∀{M:Model} {A:ae4} {Q:vi->FF->Prop} {E:vi->FF->Prop} {s:FF} {env:Env},(∀b o,T.hB.get? b=js o->s.heap.get? b=js o)->env.globals=Zy->env.builtins=ZO->Q v s->IQ M A (loadGlobal env x) Q E s
 keep:∀f,T.isFn f=vk->av1 T.K (.ref (T.sI f))=vk
 meths:∀c m f,T.gX c=vk->T.aD c m=js f->ao4 T.K (T.cY c) (T.nm m)=vk/\Z3 T.K (.ref (T.cY c)) (T.nm m)=js (js (.ref (T.sI f)))/\isFn T.K (.ref (T.sI f))=vk/\T.fieldOf c m=Fk/\T.isFn f=vk
 make:∀c,T.gX c=vk->makesIn T.K (T.cY c)=vk/\Z3 T.K (.ref (T.cY c)) "__init__"=js (js (.ref (T.sI (T.init c))))/\typeIn T.K (.ref (T.sI (T.init c)))=js (.type "function")/\av1 T.K (.ref (T.cY c))=vk/\T.isFn (T.init c)=vk
 MI:∀c,T.gX c=vk->al7 T.K (.ref (T.cY c)) "__getattribute__"=js (js (.builtin "type.__getattribute__"))/\readsIn T.K (T.cY c) (.type "type")=vk/\ap7 T.K (.ref (T.cY c)) (.type "type") "__init__"=js (.val (.ref (T.sI (T.init c))))
 Cj:∀g,T.pa g=vk->T.mX g ≠ ZI/\∃es n,T.K.lookup (T.mX g)=js ⟨.type "dict",vd,.dict es n,#[]⟩/\KeysLit T.w.params es.toList
 qY:∀g x r,T.y9 g x=js r->match r with
  | none=>nsIn T.K (T.mX g) x=js vd
  | some v=>∃val,nsIn T.K (T.mX g) x=js (js val)/\∀(ρ:aO) (h:Z4),(∀b o,T.hB.get? b=js o->h.get? b=js o)->(∀b o,T.hB.get? b=js o->ρ.jJ b)->aq ρ h v val
 KW:eX T.K (.type "int") T.kinds (·==0)=vk
 KZ:eX T.K (.type "bool") T.kinds (λk=>k==0 || k==1)=vk
 KR:eX T.K (.type "str") T.kinds (·==2)=vk
 KV:eX T.K (.type "NoneType") T.kinds (λo_=>Fk)=vk
 KY:∀c,T.gX c=vk->eX T.K (.ref (T.cY c)) T.kinds (λk=>k==10+c || (k==3 && c !=0))=vk
 KP:∀c,T.gX c=vk->ao4 T.K (T.cY c) "__class__"=vk/\av0 T.K (T.cY c)=vk/\Z3 T.K (.ref (T.cY c)) "__class__"=js (js (.builtin "object.__class__"))/\al7 T.K (.builtin "object.__class__") "__get__"=js (js (.builtin "getset_descriptor.__get__"))/\takesIn T.K (.builtin "object.__class__")=js vk/\an5 T.K (T.cY c) (.type "object")=js vk
structure bc (T:Cx) (ρ:aO) (σ:St) (h:Z4):Prop where
 ok:Ue T
 len:ρ.o.length=σ.length
 obj:∀(n:Nat) (o:O) (p:Nj×Nj),σ[n]? =js o->ρ.o[n]? =js p->kG T ρ h o p
 sep:∀(n m:Nat) (p q:Nj×Nj),n ≠ m->ρ.o[n]? =js p->ρ.o[m]? =js q->p.1 ≠ q.1/\p.1 ≠ q.2/\p.2 ≠ q.1/\p.2 ≠ q.2
 base:∀b o,T.hB.get? b=js o->h.get? b=js o
 fN:∀b,f9 ρ b->T.hB.get? b=vd
 low:∀b,f9 ρ b->b ≠ ZI
 tabs:iD T ρ.p h
 fj:∀b,T.tab b->¬f9 ρ b
 ei:∀b,T.tab b->T.hB.get? b=vd
 aX:∀b,b∈ρ.p->¬f9 ρ b/\T.hB.get? b=vd/\¬T.tab b/\∃o,h.get? b=js o
theorem bc.aF (R:bc T ρ σ h):iE T h:=by
 rintro b o ⟨q,hq,rfl⟩ e
 refine ag (R.tabs q hq) λps e' o_=>bD (se e' e) ?_; rfl
theorem bc.back {p:Nj×Nj} (R:bc T ρ σ h) (e:ρ.o[n]? =js p):∃o,σ[n]? =js o/\kG T ρ h o p:=by
 haveI hn:=R.len▸((Lf.mp e).1)
 exact az (σ[n]) (Um hn) (R.obj n _ p (Um hn) e)
theorem kG.alive {o:O} {p:Nj×Nj} (x:kG T ρ h o p):
  (∃a,h.get? p.1=js a/\a.cls ≠ .none/\∀vs,a.data ≠ .fields vs)/\(∃b,h.get? p.2=js b/\b.cls ≠ .none/\∀vs,b.data ≠ .fields vs):=by
 cases o with
 | list t l=>obtain ⟨e,xs,n,g,o_⟩:=x; refine af e ?_; exact ⟨⟨_,g,by simp,by simp⟩,⟨_,g,by simp,by simp⟩⟩
 | bM t l=>obtain ⟨e,k,⟨o,es,ep,g,c,d,o_⟩,o_⟩:=x; rw [e]; exact ⟨⟨_,g,by rw [c.1]; simp,by rw [d]; simp⟩,⟨_,g,by rw [c.1]; simp,by rw [d]; simp⟩⟩
 | bg t l=>obtain ⟨e,k,⟨o,es,ep,g,c,d,o_⟩,o_⟩:=x; rw [e]; exact ⟨⟨_,g,by rw [c.1]; simp,by rw [d]; simp⟩,⟨_,g,by rw [c.1]; simp,by rw [d]; simp⟩⟩
 | d6 t l=>obtain ⟨e,ob,g,c,⟨es,n,d⟩,o_⟩:=x; refine af e ?_; exact ⟨⟨_,g,by rw [c.1]; simp,by rw [d]; simp⟩,⟨_,g,by rw [c.1]; simp,by rw [d]; simp⟩⟩
 | inst c fs=>obtain ⟨o_,o_,o_,g,es,n,g',o_⟩:=x; exact ⟨(dH _ g (of_decide_eq_true rfl) (by simp)),(dH _ g' (by simp) (by simp))⟩
theorem bc.ci (R:bc T ρ σ h) (f:f9 ρ b):∃o,h.get? b=js o/\o.cls ≠ .none/\∀vs,o.data ≠ .fields vs:=by
 refine ag f λp hp e=>dJ (ac6 hp) λn hn=> ?_
 refine ag (R.back hn) λo o_ x=> ?_
 refine mh e ?_ λq=>af q ?_
 ·exact x.alive.1
 ·exact x.alive.2
theorem fe.ext (x:dZ T W ρ h am h') (t:iE T h) (wl:d4 W ρ):∀{fs:List (Nat×V)} {es},fe T ρ h fs es->fe T am h' fs es
 | [],_,r=>r
 | (c,v)::fs,es,r=>by
  obtain ⟨e,sf,rfl,k,r1,r⟩:=r
  exact qb e sf rfl k (r1.ext x t wl) (r.ext x t wl)
theorem kG.ext {o:O} {p:Nj×Nj} (x:dZ T W ρ h am h') (t:iE T h) (wl:d4 W ρ) (r:kG T ρ h o p)
  (h1:h'.get? p.1=h.get? p.1) (h2:h'.get? p.2=h.get? p.2):kG T am h' o p:=by
 cases o with
 | list t' l=>obtain ⟨e,xs,n,g,r,z⟩:=r; exact ⟨e,xs,n,h1.trans g,ai.ext x t wl l r,z⟩
 | bM t' l=>
  obtain ⟨e,k,⟨o,es,ep,g,c⟩,k1,k2⟩:=r
  exact ⟨e,k,(wa o es ep (h1.trans g) c),k1,ai.ext x t wl _ k2⟩
 | bg t' l=>
  obtain ⟨e,k,⟨o,es,ep,g,c⟩,k1,k2⟩:=r
  exact ⟨e,k,(wa o es ep (h1.trans g) c),k1,ai.ext x t wl _ k2⟩
 | d6 t' l=>obtain ⟨e,ob,g,c⟩:=r; exact ⟨e,ob,h1.trans g,c⟩
 | inst c fs=>obtain ⟨e,k1,k2,g,es,n,g',f⟩:=r; exact ⟨e,k1,k2,h1.trans g,es,n,h2.trans g',f.ext x t wl⟩
theorem dZ.base (x:dZ T W ρ h am h') (R:bc T ρ σ h) (wl:d4 W ρ):∀b o,T.hB.get? b=js o->h'.get? b=js o:=λb o e=>by
 obtain ⟨sl,e',s⟩:=x.keep b o (R.base b o e) (λf=>fy (R.fN b f) e) (λt=>fy (R.ei b t) e) (λw=>fy ((R.aX b (wl b w)).2.1) e)
 simp only [s (.inr (by refine af e ?_; simp))] at e'; exact e'
theorem bc.sV (R:bc T ρ σ h) (x:dZ T W ρ h ρ h') (wl:d4 W ρ) (hf:∀b,f9 ρ b->h'.get? b=h.get? b) (ht:iD T ρ.p h'):bc T ρ σ h' where
 ok:=R.ok
 len:=R.len
 obj:=λn o p e1 e2=>(R.obj n o p e1 e2).ext x R.aF wl (hf _ (az p (Oq e2) (.inl rfl))) (hf _ (az p (Oq e2) (.inr rfl)))
 sep:=R.sep
 base:=x.base R wl
 fN:=R.fN
 low:=R.low
 tabs:=ht
 fj:=R.fj
 ei:=R.ei
 aX:=λb hb=>(mz ((R.aX b hb).1) ((R.aX b hb).2.1) ((R.aX b hb).2.2.1) (by refine dJ ((R.aX b hb).2.2.2) λo e=> ?_; exact x.all b o e))
theorem iD.tQ {p:List Nj} {p':List Nj} (H:iD T p h) (kt:∀q∈T.tabs,∀ps,h.get? q.2=js (tabObj ps)->h'.get? q.2=js (tabObj ps)) (kc:∀b o vs,h.get? b=js o->o.data=.fields vs->b∉p->h'.get? b=js o/\b∉p'):iD T p' h':=λq hq=>by
 refine bZ (H q hq) λps e t c=>dH ps (kt q hq ps e) t (λpos cv e=> ?_)
 refine ax λG_ ae=> ?_
 obtain ⟨⟨c',oc,vs,tk,e1,e2,e3,e4⟩,n⟩:=c pos cv e
 obtain ⟨k1,k2⟩:=kc c' oc vs e2 e3 (n c' e1)
 exact ae <| ⟨(tU c' oc vs tk e1 k1 e3 e4),λc hc=>by replace hc:=e1.symm.trans hc; cases hc; exact k2⟩
theorem iD.keep {p:List Nj} (H:iD T p h) (k:∀b o,h.get? b=js o->(o.cls=.none∨∃vs,o.data=.fields vs)->h'.get? b=js o):iD T p h':=
 H.tQ (λq hq ps e=>k _ _ e (.inl rfl)) λb o vs e d n=>⟨k b o e (.inr ⟨vs,d⟩),n⟩
def Grows (h h':Z4):Prop:=∀b o,h.get? b=js o->h'.get? b=js o
theorem Grows.push h o:Grows h (h.push o):=λo_ o_ e=>Xr _ e
theorem Grows.ext (x:Grows h h') T W ρ:dZ T W ρ h ρ h':=
 ⟨(bP ([]) ([]) (by simp) (of_decide_eq_true rfl) (of_decide_eq_true rfl)),λb o e o_ o_ o_=>(az o.slots (x b o e) (λo_=>rfl)),λb o e=>⟨o,x b o e⟩⟩
theorem bc.grows (R:bc T ρ σ h) (x:Grows h h'):bc T ρ σ h':=by
 refine R.sV (x.ext T W0 ρ) (d4.zero _) (λb f=> ?_) (R.tabs.keep λb o e o_=>x b o e)
 exact ag (R.ci f) λo e o_=>e▸(x b o e)
theorem bc.new {o:O} (R:bc T ρ σ h) (x:Grows h h') {p} (n1:h.get? p.1=vd) (n2:h.get? p.2=vd) (lo:p.1 ≠ ZI/\p.2 ≠ ZI) (r:kG T (ρ.add p) h' o p):
  bc T (ρ.add p) (σ++ [o]) h'/\dZ T W0 ρ h (ρ.add p) h':=by
 have X:dZ T W0 ρ h (ρ.add p) h':=⟨(bP ([p]) ([]) rfl (λq hq=>by simp at hq; obtain rfl:=hq.symm; exact ⟨n1,n2⟩) (of_decide_eq_true rfl)),λb o e o_ o_ o_=>(az o.slots (x b o e) (λo_=>rfl)),λb o e=>⟨o,x b o e⟩⟩
 haveI hf:=λb f=>ag (R.ci f) λo e o_=>e▸(x b o e)
 have ne:∀n (q:Nj×Nj),ρ.o[n]? =js q->q.1 ≠ p.1/\q.1 ≠ p.2/\q.2 ≠ p.1/\q.2 ≠ p.2:=λn q e=>by
  refine ag (R.ci (az q (Oq e) (.inl rfl))) λo1 e1 o_=>ag (R.ci (az q (Oq e) (.inr rfl))) λo2 e2 o_=>mz (λz=> ?_) (λz=> ?_) (λz=> ?_) (λz=> ?_)
  ·rw [z,n1] at e1; exact aI e1
  ·rw [z,n2] at e1; exact aI e1
  ·rw [z,n1] at e2; exact aI e2
  ·rw [z,n2] at e2; exact aI e2
 have split:∀b,f9 (ρ.add p) b->f9 ρ b∨b=p.1∨b=p.2:=λb f=>by
  rcases f9.append.mp f with f | ⟨q,hq,e⟩
  ·exact .inl f
  ·simp at hq; refine af hq.symm ?_; exact .inr e
 refine ⟨⟨R.ok,by simp [aO.add,R.len],λn o' q e1 e2=> ?_,λn m q q' Qj e1 e2=> ?_,X.base R (d4.zero _),λb f=> ?_,λb f=> ?_,R.tabs.keep λb o e o_=>x b o e,λb t f=> ?_,R.ei,λb hb=> ?_⟩,X⟩
 ·replace e2:(ρ.o++ [p])[n]? =js q:=e2
  by_cases hn:n < ρ.o.length
  ·replace e2:=(N8 hn).symm.trans e2
   rw [N8 (R.len▸hn)] at e1
   exact (R.obj n o' q e1 e2).ext X R.aF (d4.zero _) (hf _ (az q (Oq e2) (.inl rfl))) (hf _ (az q (Oq e2) (.inr rfl)))
  ·rw [Zw (ZP.mp hn)] at e2
   rw [Zw (R.len▸ZP.mp hn)] at e1
   haveI hz:n - ρ.o.length=0:=by
    have:=(Lf.mp e2).1
    simp at this; exact this
   rw [hz] at e2; simp at e2; subst e2
   rw [<-R.len,hz] at e1; simp at e1; subst e1
   exact r
 ·replace e1:(ρ.o++ [p])[n]? =js q:=e1
  replace e2:(ρ.o++ [p])[m]? =js q':=e2
  by_cases hn:n < ρ.o.length <;> by_cases hm:m < ρ.o.length
  ·replace e1:=(N8 hn).symm.trans e1
   rw [N8 hm] at e2
   exact R.sep n m q q' Qj e1 e2
  ·rw [N8 hn] at e1
   rw [Zw (ZP.mp hm)] at e2
   have hz:m - ρ.o.length=0:=by
    have:=(Lf.mp e2).1
    simp at this; exact this
   rw [hz] at e2; simp at e2; subst e2
   exact ne n q e1
  ·rw [N8 hm] at e2
   rw [Zw (ZP.mp hn)] at e1
   have hz:n - ρ.o.length=0:=by
    have:=(Lf.mp e1).1
    simp at this; exact this
   rw [hz] at e1; simp at e1; subst e1
   exact si (ne m q' e2) λa b c d=>mz a.symm c.symm b.symm d.symm
  ·exfalso
   haveI h1:=(Lf.mp e1).1
   haveI h2:=(Lf.mp e2).1
   simp at h1 h2
   exact absurd (ax8 (ZT (af4 h1) (ZP.mp hm)) (ZT (af4 h2) (ZP.mp hn))) (by assumption)
 ·rcases split b f with f | e
  ·exact R.fN b f
  ·cases z:T.hB.get? b with
   | none=>rfl
   | some o=>
    have:=R.base b o z
    rcases e with rfl | rfl
    ·exact fy n1 this
    ·exact fy n2 this
 ·rcases split b f with f | e
  ·exact R.low b f
  ·refine mh e ?_ λq=>af q ?_
   ·exact lo.1
   ·exact lo.2
 ·rcases split b f with f | e
  ·exact R.fj b t f
  ·obtain ⟨q',NB,rfl⟩:=t
   refine ag (R.tabs q' NB) λps g o_=> ?_
   rcases e with e | e
   ·rw [e,n1] at g; exact aI g
   ·rw [e,n2] at g; exact aI g
 ·obtain ⟨k1,k2,k3,vQ,k4⟩:=R.aX b hb
  refine ⟨λf=> ?_,k2,k3,vQ,x b vQ k4⟩
  rcases split b f with f | rfl | rfl
  ·exact k1 f
  ·exact fy n1 k4
  ·exact fy n2 k4
theorem bc.upd (R:bc T ρ σ h) {p:Nj×Nj} (hn:ρ.o[n]? =js p) {a:Nj} (ha:a=p.1∨a=p.2) (x:aa0 a h h') {o:O}
  (al:∃ob,h'.get? a=js ob) (r:dZ T W0 ρ h ρ h'->kG T ρ h' o p):bc T ρ (σ.set n o) h'/\dZ T W0 ρ h ρ h':=by
 have fa:f9 ρ a:=(az p (Oq hn) ha)
 have X:dZ T W0 ρ h ρ h':=⟨(bP ([]) ([]) (by simp) (of_decide_eq_true rfl) (of_decide_eq_true rfl)),λb o e f o_ o_=>(az o.slots ((x.2 b λq=>f (q▸fa)).trans e) (λo_=>rfl)),λb o e=>by
  by_cases q:b=a
  ·refine bD q.symm ?_; exact al
  ·exact ⟨o,(x.2 b q).trans e⟩⟩
 refine ⟨⟨R.ok,by simp [R.len],λm o' q e1 e2=> ?_,R.sep,X.base R (d4.zero _),R.fN,R.low,?_,R.fj,R.ei,λb hb=> ?_⟩,X⟩
 ·by_cases hm:n=m
  ·subst hm
   refine bD (se hn e2) ?_
   haveI hl:=R.len▸((Lf.mp hn).1)
   refine bD (se (List.getElem?_set_self hl) e1) ?_; exact r X
  ·replace e1:=(List.getElem?_set_ne hm).symm.trans e1
   refine si (R.sep n m p q hm hn e2) λz1 z2 z3 z4=>(R.obj m o' q e1 e2).ext X R.aF (d4.zero _) (x.2 _ ?_) (x.2 _ ?_)
   ·refine mh ha ?_ λq=>af q ?_
    ·exact λe=>z1 e.symm
    ·exact λe=>z3 e.symm
   ·refine mh ha ?_ λq=>af q ?_
    ·exact λe=>z2 e.symm
    ·exact λe=>z4 e.symm
 ·refine R.tabs.keep λb o' e c=>(x.2 b λz=> ?_).trans e
  obtain rfl:=z.symm
  refine bZ (R.ci fa) λob xD c1 c2=> ?_
  obtain rfl:=(se xD e).symm
  rcases c with c | ⟨vs,c⟩
  ·exact c1 c
  ·exact c2 vs c
 ·refine ax λG_ ae=> ?_
  obtain ⟨k1,k2,k3,vQ,k4⟩:=R.aX b hb
  exact ae <| mz k1 k2 k3 (X.all b vQ k4)
theorem bc.own (R:bc T ρ σ h) (x:Grows h h') {l} (n:∀a∈l,h.get? a=vd) (n':∀a∈l,∃o,h'.get? a=js o):
  bc T (ρ.own l) σ h'/\dZ T W0 ρ h (ρ.own l) h':=by
 have X:dZ T W0 ρ h (ρ.own l) h':=⟨(bP ([]) l (by simp [aO.own]) (of_decide_eq_true rfl) n),λb o e o_ o_ o_=>(az o.slots (x b o e) (λo_=>rfl)),λb o e=>⟨o,x b o e⟩⟩
 haveI hf:=λb f=>ag (R.ci f) λo e o_=>e▸(x b o e)
 refine ⟨⟨R.ok,R.len,λn o p e1 e2=>(R.obj n o p e1 e2).ext X R.aF (d4.zero _) (hf _ (az p (Oq e2) (.inl rfl))) (hf _ (az p (Oq e2) (.inr rfl))),R.sep,X.base R (d4.zero _),R.fN,R.low,
  R.tabs.tQ (λq o_ ps e=>x _ _ e) (λb o o_ e o_ nb=>⟨x b o e,λm=>by
   rcases aa7.mp m with m | m
   ·exact fy (n b m) e
   ·exact nb m⟩),R.fj,R.ei,λb hb=> ?_⟩,X⟩
 rcases aa7.mp hb with hb | hb
 ·obtain ⟨o,e⟩:=n' b hb
  refine ⟨λf=> ?_,?_,λt=> ?_,o,e⟩
  ·exact ag (R.ci f) λo' e' o_=>fy (n b hb) e'
  ·cases z:T.hB.get? b with
   | none=>rfl
   | some o'=>exact fy (n b hb) (R.base b o' z)
  ·refine ag t λq hq q1=> ?_
   clear t hf e X o
   subst q1
   exact ag (R.tabs q hq) λps g o_=>fy (n _ hb) g
 ·refine ax λG_ ae=> ?_
  obtain ⟨k1,k2,k3,vQ,k4⟩:=R.aX b hb
  exact ae <| ⟨k1,k2,k3,vQ,x b vQ k4⟩
structure jL (Os r:List (Nj×Nj)) (P P':List Nj) (h h':Z4):Prop where
 sub:∀b∈P',b∈P
 new:∀p∈r,p.1∈P/\p.2∈P
 same:∀b o,b∉P->h.get? b=js o->h'.get? b=js o
theorem jL.jJ {a:Nj} (S:jL Os r P P' h h') (f:aO.jJ ⟨Os,P⟩ a):aO.jJ ⟨Os++r,P'⟩ a:=by
 refine ⟨λq=> ?_,λm=>f.2 (S.sub a m)⟩
 rcases (f9.append).mp q with q | ⟨p,hp,e⟩
 ·exact f.1 q
 ·clear q
  rcases e with rfl | rfl
  ·exact f.2 (S.new p hp).1
  ·exact f.2 (S.new p hp).2
mutual
theorem aq.eR {P:List Nj} (S:jL Os r P P' h h'):
  ∀(v:V) {u:vi},aq ⟨Os,P⟩ h v u->aq ⟨Os++r,P'⟩ h' v u
 | .none,_,q=>q
 | .bool _,_,q=>q
 | .int _,_,q=>q
 | .str _,_,q=>q
 | .ref n,u,q=>by
  obtain ⟨p,e,rfl⟩:=q
  exact ⟨p,by rw [N8 (Lf.mp e).1]; exact e,rfl⟩
 | .iy,u,q=>by
  obtain ⟨a,n,rfl,e,f,z⟩:=q
  exact ⟨a,n,rfl,S.same a _ f.2 e,S.jJ f,z⟩
 | .tup l,u,q=>by
  obtain ⟨a,xs,n,rfl,e,f,z,q⟩:=q
  exact ⟨a,xs,n,rfl,S.same a _ f.2 e,S.jJ f,z,ai.eR S l q⟩
 | .lst l,u,q=>by
  obtain ⟨a,xs,n,rfl,e,f,z,q⟩:=q
  exact ⟨a,xs,n,rfl,S.same a _ f.2 e,S.jJ f,z,ai.eR S l q⟩
theorem ai.eR {P:List Nj} (S:jL Os r P P' h h'):
  ∀(l:List V) {us:List vi},ai ⟨Os,P⟩ h l us->ai ⟨Os++r,P'⟩ h' l us
 | [],_,q=>q
 | v::l,us,q=>by
  obtain ⟨u,I5,rfl,q1,q⟩:=q
  exact ⟨u,I5,rfl,aq.eR S v q1,ai.eR S l q⟩
end
theorem fe.eR {P'} {h'} (S:jL Os r P P' h h'):∀{fs:List (Nat×V)} {es},fe T ⟨Os,P⟩ h fs es->fe T ⟨Os++r,P'⟩ h' fs es
 | [],_,q=>q
 | (c,v)::fs,es,q=>by
  obtain ⟨e,sf,rfl,k,r1,q⟩:=q
  exact qb e sf rfl k (r1.eR S) (q.eR S)
theorem kG.eR {o:O} {p:Nj×Nj} (S:jL Os r P P' h h') (n1:p.1∉P) (n2:p.2∉P) (q:kG T ⟨Os,P⟩ h o p):kG T ⟨Os++r,P'⟩ h' o p:=by
 cases o with
 | list t' l=>obtain ⟨e,xs,n,g,q,z⟩:=q; exact ⟨e,xs,n,S.same _ _ n1 g,ai.eR S l q,z⟩
 | bM t' l=>
  obtain ⟨e,k,⟨o,es,ep,g,c⟩,k1,k2⟩:=q
  exact ⟨e,k,(wa o es ep (S.same _ _ n1 g) c),k1,ai.eR S _ k2⟩
 | bg t' l=>
  obtain ⟨e,k,⟨o,es,ep,g,c⟩,k1,k2⟩:=q
  exact ⟨e,k,(wa o es ep (S.same _ _ n1 g) c),k1,ai.eR S _ k2⟩
 | d6 t' l=>obtain ⟨e,ob,g,c⟩:=q; exact ⟨e,ob,S.same _ _ n1 g,c⟩
 | inst c fs=>obtain ⟨e,k1,k2,g,es,n,g',f⟩:=q; exact ⟨e,k1,k2,S.same _ _ n1 g,es,n,S.same _ _ n2 g',f.eR S⟩
theorem bc.eR (R:bc T ⟨Os,P⟩ σ h) (hp:∀b∈P',b∈P) (hs:∀b o,b∉P->h.get? b=js o->h'.get? b=js o) (ha:∀b∈P',∃o,h'.get? b=js o):bc T ⟨Os,P'⟩ σ h':=by
 haveI S:jL Os [] P P' h h':=⟨hp,by simp,hs⟩
 refine ⟨R.ok,R.len,λn o p e1 e2=> ?_,R.sep,λb o e=>hs b o (λm=>fy ((R.aX b m).2.1) e) (R.base b o e),R.fN,R.low,
  R.tabs.tQ (λq hq ps e=>hs _ _ (λm=>(R.aX _ m).2.2.1 (az q hq rfl)) e) (λb o vs e d n=>⟨hs b o n e,λm=>n (hp b m)⟩),R.fj,R.ei,
  λb hb=>(mz ((R.aX b (hp b hb)).1) ((R.aX b (hp b hb)).2.1) ((R.aX b (hp b hb)).2.2.1) (ha b hb))⟩
 have:=(R.obj n o p e1 e2).eR S (λm=>(R.aX _ m).1 (az p (Oq e2) (.inl rfl))) (λm=>(R.aX _ m).1 (az p (Oq e2) (.inr rfl)))
 rwa [aa8] at this
theorem bc.adopt {o:O} {h h'} (R:bc T ⟨Os,P⟩ σ h) (hp:∀b∈P',b∈P) (hs:∀b o,b∉P->h.get? b=js o->h'.get? b=js o) (ha:∀b∈P',∃o,h'.get? b=js o)
  {D} (hD:D∈P) (QS:D ≠ ZI) (WN:D∉P') (r:kG T ⟨Os++ [(D,D)],P'⟩ h' o (D,D)):bc T ⟨Os++ [(D,D)],P'⟩ (σ++ [o]) h':=by
 haveI R0:=R.eR hp hs ha
 have split:∀b,f9 ⟨Os++ [(D,D)],P'⟩ b->f9 ⟨Os,P⟩ b∨b=D:=λb f=>by
  rcases (f9.append).mp f with f | ⟨q,hq,e⟩
  ·exact .inl f
  ·simp at hq; subst hq; exact .inr (e.elim id id)
 haveI nD:=R.aX D hD
 have lt:∀n (q:Nj×Nj),Os[n]? =js q->q.1 ≠ D/\q.2 ≠ D:=λn q e=>⟨λz=>nD.1 ⟨q,Oq e,.inl z.symm⟩,λz=>nD.1 ⟨q,Oq e,.inr z.symm⟩⟩
 haveI len:Os.length=σ.length:=R.len
 refine ⟨R.ok,by simp [len],λn o' q e1 e2=> ?_,λn m q q' Qj e1 e2=> ?_,R0.base,λb f=> ?_,λb f=> ?_,R0.tabs,λb t f=> ?_,R.ei,λb hb=> ?_⟩
 ·replace e2:(Os++ [(D,D)])[n]? =js q:=e2
  by_cases hn:n < Os.length
  ·replace e2:=(N8 hn).symm.trans e2
   rw [N8 (len▸hn)] at e1
   exact (R.obj n o' q e1 e2).eR ⟨hp,by simp [hD],hs⟩ (λm=>(R.aX _ m).1 (az q (Oq e2) (.inl rfl))) (λm=>(R.aX _ m).1 (az q (Oq e2) (.inr rfl)))
  ·rw [Zw (ZP.mp hn)] at e2
   rw [Zw (len▸ZP.mp hn)] at e1
   haveI hz:n - Os.length=0:=by
    have:=(Lf.mp e2).1
    simp at this; exact this
   rw [hz] at e2; simp at e2; subst e2
   rw [<-len,hz] at e1; simp at e1; subst e1
   exact r
 ·replace e1:(Os++ [(D,D)])[n]? =js q:=e1
  replace e2:(Os++ [(D,D)])[m]? =js q':=e2
  by_cases hn:n < Os.length <;> by_cases hm:m < Os.length
  ·replace e1:=(N8 hn).symm.trans e1
   rw [N8 hm] at e2
   exact R.sep n m q q' Qj e1 e2
  ·rw [N8 hn] at e1
   rw [Zw (ZP.mp hm)] at e2
   have hz:m - Os.length=0:=by
    have:=(Lf.mp e2).1
    simp at this; exact this
   rw [hz] at e2; simp at e2; subst e2
   obtain ⟨a,b⟩:=lt n q e1
   exact mz a a b b
  ·rw [N8 hm] at e2
   rw [Zw (ZP.mp hn)] at e1
   have hz:n - Os.length=0:=by
    have:=(Lf.mp e1).1
    simp at this; exact this
   rw [hz] at e1; simp at e1; subst e1
   obtain ⟨a,b⟩:=lt m q' e2
   exact mz a.symm b.symm a.symm b.symm
  ·exfalso
   haveI h1:=(Lf.mp e1).1
   haveI h2:=(Lf.mp e2).1
   simp at h1 h2
   exact absurd (ax8 (ZT (af4 h1) (ZP.mp hm)) (ZT (af4 h2) (ZP.mp hn))) (by assumption)
 ·rcases split b f with f | rfl
  ·exact R.fN b f
  ·exact nD.2.1
 ·rcases split b f with f | rfl
  ·exact R.low b f
  ·exact QS
 ·rcases split b f with f | rfl
  ·exact R.fj b t f
  ·exact nD.2.2.1 t
 ·refine si (R0.aX b hb) λk1 k2 k3 k4=>mz (λf=> ?_) k2 k3 k4
  rcases split b f with f | rfl
  ·exact (R.aX b (hp b hb)).1 f
  ·exact WN hb
theorem bc.Jx (R:bc T ρ σ h):ZI < h.objs.size:=bV R.ok.sys λb o lt e=>as2 lt (ZU (R.base _ _ e))
theorem bc.zh (R:bc T ρ σ h):h.objs.size ≠ ZI/\h.objs.size ≠ ZI:=⟨af5 R.Jx,af5 R.Jx⟩
def bC (h:Z4) (L:Nj):Prop:=∃o es n,h.get? L=js o/\o.cls=cG/\o.data=.dict es n
def au (ρ:aO) (h:Z4) (l:List Env):Prop:=∀env∈l,env.scope.kind ≠ .module/\∃L,env.frame=js L/\L∈ρ.p/\bC h L
structure I3 (n:Nat) (ρ:aO) (h:Z4) (A:ae4) (outer:List Env):Prop where
 hd:A.handled=vd
 fr:A.frames=js outer
 sH:au ρ h outer
 lB:A.depth+5*n+10<=aa5
 lO:A.units+60*n+60<=an6
structure d8 (ρ:aO) (h:Z4) (env:Env) (m:Zu->Option vi):Prop where
 kind:env.scope.kind=.function
 globals:env.globals=Zy
 builtins:env.builtins=ZO
 ns:h.Ns env.locals m
 lp:env.locals∈ρ.p
 fr:∃L,env.frame=js L/\L∈ρ.p/\bC h L
 cells:∀x c,env.cells.lookup x=js c->c∈ρ.p/\c ≠ env.locals/\∃v,h.IsCell c v
 apart:∀x y c,env.cells.lookup x=js c->env.cells.lookup y=js c->x=y
 has:∀x,env.kindOf x=js .cell∨env.kindOf x=js .free->∃c,env.cells.lookup x=js c
def pO (T:Cx) (ρ:aO) (h:Z4) (env:Env) (m:Zu->Option vi) (en:En):Prop:=∀x v,en x=js v->
 (env.kindOf (T.nm x)=js .local->∃u,m (T.nm x)=js u/\aq ρ h v u)/\
 ((env.kindOf (T.nm x)=js .cell∨env.kindOf (T.nm x)=js .free)->∃c u,env.cells.lookup (T.nm x)=js c/\h.IsCell c (js u)/\aq ρ h v u)
def dD (T:Cx) (ρ:aO) (h:Z4) (env:Env) (en:En):Prop:=∃m,d8 ρ h env m/\pO T ρ h env m en
section
theorem dZ.own {o:Obj} (x:dZ T W ρ h am h') (R:bc T ρ σ h) (hb:b∈ρ.p) (w:¬W b) (e:h.get? b=js o):∃sl,h'.get? b=js {o with slots:=sl}/\(o.cls ≠ cG->sl=o.slots):=ag (x.keep b o e (R.aX b hb).1 (R.aX b hb).2.2.1 w) λsl e' s=>az sl e' (λq=>s (.inl q))
theorem bC.ext (x:dZ T W ρ h am h') (R:bc T ρ σ h) (hb:L∈ρ.p) (w:¬W L) (f:bC h L):bC h' L:=lx f λo es n e c d=>ag (x.own R hb w e) λsl e' o_=>v9 _ es n e' c d
theorem au.ext {l:List Env} (x:dZ T W ρ h am h') (R:bc T ρ σ h) (w:∀env∈l,∀L,env.frame=js L->¬W L) (f:au ρ h l):au am h' l:=λenv he=>by
 obtain ⟨k,L,e,hp,f⟩:=f env he
 exact ⟨k,L,e,x.aX hp,f.ext x R hp (w env he L e)⟩
theorem I3.ext (x:dZ T W0 ρ h am h') (R:bc T ρ σ h) (a:I3 n ρ h A outer):I3 n am h' A outer:=
 ⟨a.hd,a.fr,a.sH.ext x R λo_ o_ o_ o_ w=>w,a.lB,a.lO⟩
theorem k6 {a:Nj} {o:Obj} {sl:Array (Option vi)} (hn:h.Ns a m) (e:h.get? a=js o) (e':h'.get? a=js {o with slots:=sl}):h'.Ns a m:=by
 refine mE hn λo' es ep g r=> ?_
 obtain rfl:=se g e
 exact wa _ es ep e' r
set_option tactic.hygienic true in
theorem d8.ext (x:dZ T W ρ h am h') (R:bc T ρ σ h) {m} (E:d8 ρ h env m) (w:¬W env.locals) (wf:∀L,env.frame=js L->¬W L) (wc:∀y c,env.cells.lookup y=js c->¬W c):d8 am h' env m:=by
 obtain ⟨o,eo⟩:∃o,h.get? env.locals=js o:=mE E.ns λo _ _ e _=>⟨o,e⟩
 refine ag (x.own R E.lp w eo) λsl e' _=>⟨E.kind,E.globals,E.builtins,k6 E.ns eo e',x.aX E.lp,?_,λy c hc=> ?_,E.apart,E.has⟩
 ·exact bZ E.fr λL e hp f=>dH L e (x.aX hp) (f.ext x R hp (wf L e))
 ·refine ax λG_ ae=> ?_
  obtain ⟨hp,ne,v,o,e,d⟩:=E.cells y c hc
  exact ag (x.own R hp (wc y c hc) e) λsl e' _=>ae <| ⟨x.aX hp,ne,v,_,e',d⟩
theorem pO.ext (x:dZ T W ρ h am h') (R:bc T ρ σ h) (wl:d4 W ρ) (E:d8 ρ h env m) (r:pO T ρ h env m en) (wc:∀y c,env.cells.lookup y=js c->¬W c):pO T am h' env m en:=λy v e=>by
 obtain ⟨r1,r2⟩:=r y v e
 refine ⟨λk=> ?_,λk=> ?_⟩
 ·exact ag (r1 k) λu e1 q=>az u e1 (q.ext x R.aF wl)
 ·exact ax λG_ ae=>bp (r2 k) λc u e1 y1 q=>ag y1 λo e2 d=>iz (E.cells _ c e1) λhp ne o_=>ag (x.own R hp (wc _ c e1) e2) λsl e' o_=>ae <| bP c u e1 (az _ e' d) (q.ext x R.aF wl)
theorem dD.ext (x:dZ T W0 ρ h am h') (R:bc T ρ σ h) (r:dD T ρ h env en):dD T am h' env en:=ag r λm E r=>az m (E.ext x R (λw=>w) (λo_ o_ w=>w) (λo_ o_ o_ w=>w)) (r.ext x R (d4.zero _) E λo_ o_ o_ w=>w)
end
structure JC (T:Cx) (h₀:Z4) (ρ:aO) (h:Z4) (raw:Prop) (fl:vi->Prop) (e':vi) (th:V) (e d:Nj) (oe:Obj) (vs:Array vi) (es:List ad0) (n:Nat) (u:vi):Prop where
 eq:e'=.ref e
 at_:h.get? e=js oe
 cls:oe.cls=.ref T.cR
 dict:oe.dict=js d
 data:oe.data=.fields vs
 size:vs.size=6
 dat:h.get? d=js (ad4 es n)
 has:getL (T.nm T.gJ) es=js (js u)
 rel:aq ρ h th u
 e0:h₀.get? e=vd
 d0:h₀.get? d=vd
 ef:e∈ρ.p
 df:d∈ρ.p
 de:d ≠ e
 tb:(raw/\vs[1]? =js .none)∨∃t ot ts,vs[1]? =js (.ref t)/\t ≠ e/\h₀.get? t=vd/\t∈ρ.p/\h.get? t=js ot/\ot.data=.fields ts/\ot.cls=.type "traceback"/\∃x,ts[3]? =js x/\fl x
def kI (T:Cx) (h₀:Z4) (ρ:aO) (h:Z4) (raw:Prop) (fl:vi->Prop) (e':vi) (th:V):Prop:=∃e d oe vs es n u,JC T h₀ ρ h raw fl e' th e d oe vs es n u
abbrev CI (T:Cx) (h₀:Z4) (ρ:aO) (h:Z4) (e':vi) (th:V):Prop:=kI T h₀ ρ h False (·=.none) e' th
abbrev Oe (T:Cx) (h₀:Z4) (ρ:aO) (h:Z4) (L:Nj) (e':vi) (th:V):Prop:=kI T h₀ ρ h True (λo_=>True) e' th
abbrev Zm (T:Cx) (h₀:Z4) (ρ:aO) (h:Z4) (L:Nj) (e':vi) (th:V):Prop:=kI T h₀ ρ h False (λv=>v=.none∨v=aa1 L) e' th
theorem kI.mono {fl TS} (x:kI T h₀ ρ h raw fl e' th) (k:raw->OH) (k':∀v,fl v->TS v):kI T h₀ ρ h OH TS e' th:=by
 refine ax λG_ ae=> ?_
 obtain ⟨e,d,oe,vs,es,n,u,X⟩:=x
 refine ae <| ⟨e,d,oe,vs,es,n,u,{X with tb:=?_}⟩
 rcases X.tb with ⟨r,e1⟩ | ⟨t,ot,ts,a1,a2,a3,a4,a5,a6,a7,y,a8,a9⟩
 ·exact .inl ⟨k r,e1⟩
 ·exact .inr ⟨t,ot,ts,a1,a2,a3,a4,a5,a6,a7,y,a8,k' y a9⟩
theorem kI.later {ρ} {fl} {e'} {th} (x:kI T bQ ρ h raw fl e' th) (k:∀b,bQ.get? b=vd->h₀.get? b=vd):kI T h₀ ρ h raw fl e' th:=by
 refine ax λG_ ae=> ?_
 obtain ⟨e,d,oe,vs,es,n,u,X⟩:=x
 refine ae <| ⟨e,d,oe,vs,es,n,u,{X with e0:=k _ X.e0,d0:=k _ X.d0,tb:=?_}⟩
 rcases X.tb with ⟨r,e1⟩ | ⟨t,ot,ts,a1,a2,a3,a4⟩
 ·exact .inl ⟨r,e1⟩
 ·exact .inr (yO t ot ts a1 a2 (k _ a3) a4)
structure aj (T:Cx) (W:Nj->Prop) (ρ:aO) (s:FF) (am:aO) (aa:St) (s':FF):Prop where
 rel:bc T am aa s'.heap
 ext:dZ T W ρ s.heap am s'.heap
 gens:s'.gens=s.gens
 os:s'.os=s.os
theorem aj.refl (R:bc T ρ σ s.heap):aj T W ρ s ρ σ s:=⟨R,.refl ..,rfl,rfl⟩
theorem aj.trans (x:aj T W ρ s qk RR s₁) (y:aj T W qk s₁ qj JF jG):aj T W ρ s qj JF jG:=
 ⟨y.rel,x.ext.trans y.ext,y.gens.trans x.gens,y.os.trans x.os⟩
def IZ (T:Cx) (n:Nat) (f:Nat) (vs:List V) (Q:V->St->Prop) (X:V->St->Prop) (σ:St):Prop:=
 ∀(ρ:aO) (s:FF) (A:ae4) (outer:List Env) (args:List vi) (R:Result->FF->Prop),
  bc T ρ σ s.heap->I3 n ρ s.heap A outer->ai ρ s.heap vs args->
  (∀v u am aa s',aj T W0 ρ s am aa s'->aq am s'.heap v u->Q v aa->R (.ok (.ret u)) s')->
  (∀th e am aa s',aj T W0 ρ s am aa s'->CI T s.heap am s'.heap e th->X th aa->R (.error e) s')->
  Z0 (Hj T.prog T.w) A (.call (.ref (T.sI f)) ⟨args,[]⟩) R s
structure dm (T:Cx) (n:Nat) (ρ:aO) (σ:St) (s:FF) (A:ae4) (env:Env) (en:En) (L:Nj):Prop where
 rel:bc T ρ σ s.heap
 mK:∃bh outer,I3 n ρ s.heap A (bh::outer)/\bh.frame=js L
 lB:A.depth+5*n+12<=aa5
 lO:A.units+60*n+90<=an6
 fr:env.frame=js L
 env:dD T ρ s.heap env en
abbrev KQ (T:Cx) (W:Nj->Prop) (ρ:aO) (s:FF) (Q:V->St->Prop) (Q':vi->FF->Prop):Prop:=
 ∀v u am aa s',aj T W ρ s am aa s'->aq am s'.heap v u->Q v aa->Q' u s'
abbrev KX (T:Cx) (W:Nj->Prop) (ρ:aO) (s:FF) (L:Nj) (X:V->St->Prop) (E':vi->FF->Prop):Prop:=
 ∀th e am aa s',aj T W ρ s am aa s'->bC s'.heap L->Oe T s.heap am s'.heap L e th->X th aa->E' e s'
section
variable {JG:aO} {cz:St} {Yz:FF}
theorem I8 {α:Type} {m:Sem α} {Q:α->FF->Prop} {E:vi->FF->Prop} (h:IQ (Hj prog w) A m Q (λo_ o_=>False) s):IQ (Hj prog w) A m Q E s:=ZJ h (λo_ o_ h=>h) λo_ o_ h=>h.elim
theorem nameQ {α:Type} {m:Sem α} {Q:α->FF->Prop} {E:vi->FF->Prop} (k:∀Q2:α->FF->Prop,(∀v s,Q v s->Q2 v s)->IQ M A m Q2 E s):IQ M A m Q E s:=k Q λo_ o_ h=>h
theorem SV {α:Type} {m:Sem α} {Q:α->FF->Prop} {E:vi->FF->Prop} (k:∀Q':α->FF->Prop,(∀v s,Q v s->Q' v s)->IQ (Hj prog w) A m Q' (λo_ o_=>False) s):IQ (Hj prog w) A m Q E s:=I8 (k Q λo_ o_ h=>h)
theorem KQ.step (k:KQ T W ρ s Q Q') (p:aj T W ρ s am aa s'):KQ T W am s' Q Q':=λv u o_ o_ o_ p' r q=>k v u _ _ _ (p.trans p') r q
theorem KX.step (k:KX T W ρ s L X E') (p:aj T W ρ s am aa s'):KX T W am s' L X E':=λth e o_ o_ o_ p' f x q=>k th e _ _ _ (p.trans p') f (x.later λo_ z=>p.ext.fresh z) q
theorem aj.tok (p:aj T W ρ s am aa s') (t:Nat):aj T W ρ s am aa {s' with toks:=t}:=⟨p.rel,p.ext,p.gens,p.os⟩
theorem aj.grow (p:aj T W ρ s am aa s') (g:Grows s'.heap h) (t:Nat):aj T W ρ s am aa {s' with heap:=h,toks:=t}:=⟨p.rel.grows g,p.ext.trans (Grows.ext g _ _ _),p.gens,p.os⟩
theorem aj.rH (R:bc T ρ σ s.heap) (g:Grows s.heap h) (t:Nat):aj T W ρ s ρ σ {s with heap:=h,toks:=t}:=(aj.refl R).grow g t
theorem dm.step (H:dm T n ρ σ s A env en L) (p:aj T W0 ρ s am aa s'):dm T n am aa s' A env en L:=bV H.mK λbh outer a e=>⟨p.rel,(dh bh outer (a.ext p.ext H.rel) e),H.lB,H.lO,H.fr,H.env.ext p.ext H.rel⟩
theorem aj.val (p:aj T W0 ρ s am aa s') (R:bc T ρ σ s.heap) (r:aq ρ s.heap v u):aq am s'.heap v u:=r.ext p.ext R.aF (d4.zero _)
theorem aj.vals {v:List V} {u:List vi} (p:aj T W0 ρ s am aa s') (R:bc T ρ σ s.heap) (r:ai ρ s.heap v u):ai am s'.heap v u:=ai.ext p.ext R.aF (d4.zero _) _ r
theorem ai.grows {v:List V} {u:List vi} (g:Grows h h') (R:bc T ρ σ h) (r:ai ρ h v u):ai ρ h' v u:=ai.ext (g.ext T W0 ρ) R.aF (d4.zero _) _ r
theorem aK (h:Z4):h.get? h.objs.size=vd:=ZD (af0 _)
theorem bc.pi {a:Nj} (R:bc T ρ σ s.heap) (e:s.heap.get? a=vd):ρ.jJ a:=by
 refine ⟨λf=> ?_,λf=> ?_⟩
 ·refine ag (R.ci f) λo q o_=> ?_; exact fy e q
 ·obtain ⟨o_,o_,o_,o,q⟩:=R.aX a f; exact fy e q
theorem lg (R:bc T ρ σ s.heap) (r:ai ρ s.heap l xs.toList) (z:l.length<=bf):
  aq ρ (s.heap.push {cls:=.type "list",data:=.seq xs k}) (.lst l) (.ref s.heap.objs.size):=qa _ xs k rfl (Q1 _ rfl) (R.pi (aK _)) z (r.grows (Grows.push _ _) R)
theorem A3 (R:bc T ρ σ s.heap) (r:ai ρ s.heap l xs.toList) (z:l.length<=bf):
  aq ρ (s.heap.push {cls:=.type "tuple",data:=.seq xs k}) (.tup l) (.ref s.heap.objs.size):=qa _ xs k rfl (Q1 _ rfl) (R.pi (aK _)) z (r.grows (Grows.push _ _) R)
theorem yI (R:bc T ρ σ s.heap) (t:Nat) (r:ai ρ s.heap l xs.toList) (z:l.length<=bf):
  aj T W0 ρ s (ρ.add (s.heap.objs.size,s.heap.objs.size)) (σ++ [.list t l]) {s with heap:=s.heap.push {cls:=.type "list",data:=.seq xs k}}/\
   aq (ρ.add (s.heap.objs.size,s.heap.objs.size)) (s.heap.push {cls:=.type "list",data:=.seq xs k}) (.ref σ.length) (.ref s.heap.objs.size):=by
 haveI n1:=aK s.heap
 haveI X:dZ T W0 ρ s.heap (ρ.add (s.heap.objs.size,s.heap.objs.size)) (s.heap.push {cls:=.type "list",data:=.seq xs k}):=
  ⟨(bP ([_]) ([]) rfl (λq hq=>by simp at hq; refine af hq ?_; exact ⟨n1,n1⟩) (of_decide_eq_true rfl)),λb o e o_ o_ o_=>(az o.slots (Xr _ e) (λo_=>rfl)),λb o e=>⟨o,Xr _ e⟩⟩
 haveI N:=R.new (Grows.push s.heap {cls:=.type "list",data:=.seq xs k}) (o:=.list t l) n1 n1 R.zh
  ⟨rfl,xs,k,Q1 _ rfl,ai.ext X R.aF (d4.zero _) _ r,z⟩
 refine ⟨⟨N.1,N.2,rfl,rfl⟩,?_⟩
 refine az (s.heap.objs.size,s.heap.objs.size) ?_ rfl
 refine (?_:(ρ.o++ [_])[σ.length]? =_)
 refine bD R.len ?_; simp
end
def aw (T:Cx) (c:Cc) (n:Nat) (env:Env) (e:Xq) (me:Ex):Prop:=
 ∀⦃ρ σ s A en L⦄ ⦃Q X:V->St->Prop⦄ ⦃Q' E':vi->FF->Prop⦄,dm T n ρ σ s A env en L->ba c me Q X en σ->KQ T W0 ρ s Q Q'->KX T W0 ρ s L X E'->
  IQ (Hj T.prog T.w) A (ac2 e env) Q' E' s
def iR (T:Cx) (c:Cc) (n:Nat) (env:Env) (e:Xq) (me:Ex):Prop:=
 ∀⦃ρ σ s A en L⦄ ⦃Q:Bool->St->Prop⦄ ⦃X:V->St->Prop⦄ ⦃Q':Bool->FF->Prop⦄ ⦃E':vi->FF->Prop⦄,dm T n ρ σ s A env en L->ba c me (λv σ=>sF v λb=>Q b σ) X en σ->
  (∀b am aa s',aj T W0 ρ s am aa s'->Q b aa->Q' b s')->KX T W0 ρ s L X E'->IQ (Hj T.prog T.w) A (aq9 e env (ac2 e env)) Q' E' s
def bN (T:Cx) (c:Cc) (n:Nat) (env:Env) (es:List Xq) (cy:gR):Prop:=
 ∀⦃ρ σ s A en L⦄ ⦃Q:List V->St->Prop⦄ ⦃X:V->St->Prop⦄ ⦃Q':List vi->FF->Prop⦄ ⦃E':vi->FF->Prop⦄ ⦃pos:Pos⦄,dm T n ρ σ s A env en L->kL c cy Q X en σ->
  (∀vs us am aa s',aj T W0 ρ s am aa s'->ai am s'.heap vs us->vs.length=es.length->Q vs aa->Q' us s')->KX T W0 ρ s L X E'->IQ (Hj T.prog T.w) A (spliced (ah5 pos (Z' es env))) Q' E' s
section
theorem tH {k:Bool->Prop} (w:sF v k) (f:∀i,v=.bool i->k i->G):G:=by
 cases v <;> first | exact f _ rfl w | exact ag2 w
theorem Nh {k:Bool->Prop}:sF v k↔∃b,v=.bool b/\k b:=⟨λw=>tH w λi e h=>⟨i,e,h⟩,λw=>ag w λo_ e h=>e▸h⟩
theorem jR {k:Int->Prop} (w:jb v k) (f:∀i,v=.int i->k i->G):G:=by
 cases v <;> first | exact f _ rfl w | exact ag2 w
theorem dM {k:Int->Prop}:jb v k↔∃b,v=.int b/\k b:=⟨λw=>jR w λi e h=>⟨i,e,h⟩,λw=>ag w λo_ e h=>e▸h⟩
theorem qw {k:Zu->Prop} (w:uX v k) (f:∀i,v=.str i->k i->G):G:=by
 cases v <;> first | exact f _ rfl w | exact ag2 w
theorem DU {k:Zu->Prop}:uX v k↔∃b,v=.str b/\k b:=⟨λw=>qw w λi e h=>⟨i,e,h⟩,λw=>ag w λo_ e h=>e▸h⟩
theorem xd {k:List V->Prop} (w:FH v k) (f:∀i,v=.lst i->k i->G):G:=by
 cases v <;> first | exact f _ rfl w | exact ag2 w
theorem xc {k:List V->Prop}:FH v k↔∃b,v=.lst b/\k b:=⟨λw=>xd w λi e h=>⟨i,e,h⟩,λw=>ag w λo_ e h=>e▸h⟩
theorem xb {o:Option α}:kh o N σ↔∃a,o=js a/\N a σ:=gh
theorem dL {N:Nat->O->St->Prop}:zp N v σ↔∃n o,v=.ref n/\σ[n]? =js o/\N n o σ:=by
 cases v <;> simp [zp,Sd,gh]
set_option tactic.hygienic true in
theorem jz {o:O} {k:Nat->List V->Prop}:tF o k↔∃t l,o=.list t l/\k t l:=by
 refine ⟨λw=> ?_,λw=>bV w λ_ _ e h=>e▸h⟩
 cases o <;> first | exact ⟨_,_,rfl,w⟩ | exact ag2 w
set_option tactic.hygienic true in
theorem oP {o:O} {k:Nat->List (Nat×V)->Prop}:AR o k↔∃t l,o=.inst t l/\k t l:=by
 refine ⟨λw=> ?_,λw=>bV w λ_ _ e h=>e▸h⟩
 cases o <;> first | exact ⟨_,_,rfl,w⟩ | exact ag2 w
theorem vW (e:D6 σ n=js l) (k:∀t,σ[n]? =js (.list t l)->G):G:=by
 refine ag (Zt.mp e) λo h e=> ?_
 cases o with
 | list t l'=>exact k t (h.trans (congrArg (λl=>js (O.list t l)) (vo e)))
 | _=>exact aI e
@[elab_as_elim] theorem HH {G:V->Prop} (e:ez σ v=js l) (a:G (.lst l)) (b:∀n t,σ[n]? =js (.list t l)->G (.ref n)):G v:=by
 cases v with
 | lst k=>exact vo e▸a
 | ref n=>exact vW e (b n)
 | _=>exact aI e
@[elab_as_elim] theorem xv {G:V->Prop} (e:aQ σ v=js l) (c:G (.tup l)) (a:G (.lst l)) (b:∀n t,σ[n]? =js (.list t l)->G (.ref n)):G v:=by
 cases v with
 | tup k=>exact vo e▸c
 | lst k=>exact vo e▸a
 | ref n=>exact vW e (b n)
 | _=>exact aI e
@[elab_as_elim] theorem Md {u:V} {c:Nat} {G:V->Prop} (e:fld σ v c=js u) (k:∀n t fs,σ[n]? =js (.inst t fs)->fs.lookup c=js u->G (.ref n)):G v:=by
 cases v with
 | ref n=>
  refine ag (Zt.mp e) λo h e=> ?_
  cases o with
  | inst t fs=>exact k n t fs h e
  | _=>exact aI e
 | _=>exact aI e
theorem Dd:aq ρ h (.bool b) u↔u=.bool b:=.rfl
theorem gA {b:Int}:aq ρ h (.int b) u↔∃t,u=.int b t:=.rfl
theorem iU:aq ρ h (.str b) u↔∃t,u=.str b t:=.rfl
theorem Dc:aq ρ h .none u↔u=.none:=.rfl
theorem G5:aq ρ h (.ref n) u↔∃p,ρ.o[n]? =js p/\u=.ref p.1:=.rfl
theorem G7 {v:vi}:aq ρ h (.lst l) v↔∃a xs n,v=.ref a/\h.get? a=js {cls:=.type "list",data:=.seq xs n}/\ρ.jJ a/\l.length<=bf/\ai ρ h l xs.toList:=.rfl
theorem G4 {v:vi}:aq ρ h (.tup l) v↔∃a xs n,v=.ref a/\h.get? a=js {cls:=.type "tuple",data:=.seq xs n}/\ρ.jJ a/\l.length<=bf/\ai ρ h l xs.toList:=.rfl
theorem G8 {v:vi}:aq ρ h .iy v↔∃a n,v=.ref a/\h.get? a=js (ad4 [] n)/\ρ.jJ a/\a ≠ ZI:=.rfl
@[elab_as_elim] theorem jI {P:vi->Prop} (r:aq ρ h (.int i) u) (k:∀t,P (.int i t)):P u:=by
 obtain ⟨t,rfl⟩:=gA.mp r; exact k t
@[elab_as_elim] theorem rn {i:Zu} {P:vi->Prop} (r:aq ρ h (.str i) u) (k:∀t,P (.str i t)):P u:=by
 obtain ⟨t,rfl⟩:=iU.mp r; exact k t
@[elab_as_elim] theorem GO {i:Bool} {P:vi->Prop} (r:aq ρ h (.bool i) u) (k:P (.bool i)):P u:=by
 have:=Dd.mp r; clear r; subst this; exact k
@[elab_as_elim] theorem xh {P:vi->Prop} (r:aq ρ h .none u) (k:P .none):P u:=by
 have:=Dc.mp r; clear r; subst this; exact k
@[elab_as_elim] theorem Hg {P:vi->Prop} (r:aq ρ h (.ref n) u) (k:∀p,ρ.o[n]? =js p->P (.ref p.1)):P u:=by
 obtain ⟨p,e,rfl⟩:=G5.mp r; exact k p e
@[elab_as_elim] theorem yJ {P:vi->Prop} (r:aq ρ h (.lst l) u) (k:∀a xs n,h.get? a=js {cls:=.type "list",data:=.seq xs n}->ρ.jJ a->l.length<=bf->ai ρ h l xs.toList->P (.ref a)):P u:=by
 obtain ⟨a,xs,n,rfl,e,f,z,q⟩:=G7.mp r; exact k a xs n e f z q
@[elab_as_elim] theorem JO {P:vi->Prop} (r:aq ρ h (.tup l) u) (k:∀a xs n,h.get? a=js {cls:=.type "tuple",data:=.seq xs n}->ρ.jJ a->l.length<=bf->ai ρ h l xs.toList->P (.ref a)):P u:=by
 obtain ⟨a,xs,n,rfl,e,f,z,q⟩:=G4.mp r; exact k a xs n e f z q
@[elab_as_elim] theorem Ml {P:vi->Prop} (r:aq ρ h .iy u) (k:∀a n,h.get? a=js (ad4 [] n)->ρ.jJ a->a ≠ ZI->P (.ref a)):P u:=by
 obtain ⟨a,n,rfl,e,f,z⟩:=G8.mp r; exact k a n e f z
@[elab_as_elim] theorem gK {N:Int->Prop} {P:vi->Prop} (w:jb v N) (r:aq ρ h v u) (k:∀i t,N i->P (.int i t)):P u:=by
 obtain ⟨i,rfl,w⟩:=dM.mp w
 obtain ⟨t,rfl⟩:=gA.mp r; exact k i t w
@[elab_as_elim] theorem JQ {N:Zu->Prop} {P:vi->Prop} (w:uX v N) (r:aq ρ h v u) (k:∀i t,N i->P (.str i t)):P u:=by
 obtain ⟨i,rfl,w⟩:=DU.mp w
 obtain ⟨t,rfl⟩:=iU.mp r; exact k i t w
@[elab_as_elim] theorem Pd {N:List V->Prop} {P:vi->Prop} (w:FH v N) (r:aq ρ h v u) (k:∀l a xs n,N l->h.get? a=js {cls:=.type "list",data:=.seq xs n}->ρ.jJ a->l.length<=bf->ai ρ h l xs.toList->P (.ref a)):P u:=by
 obtain ⟨l,rfl,w⟩:=xc.mp w
 exact yJ r λa xs n=>k l a xs n w
theorem bI {α:Type} {o:Option α} {N:α->Prop} (w:eO o N) (k:∀a,o=js a->N a->G):G:=by
 obtain ⟨a,e,w⟩:=gh.mp w; exact k a e w
@[elab_as_elim] theorem Sf {k:Int->Prop} {G:V->Prop} (w:jb v k) (f:∀i,k i->G (.int i)):G v:=jR w λi e h=>e▸f i h
@[elab_as_elim] theorem Sc {k:Zu->Prop} {G:V->Prop} (w:uX v k) (f:∀i,k i->G (.str i)):G v:=qw w λi e h=>e▸f i h
@[elab_as_elim] theorem Sg {k:Bool->Prop} {G:V->Prop} (w:sF v k) (f:∀i,k i->G (.bool i)):G v:=tH w λi e h=>e▸f i h
@[elab_as_elim] theorem Se {k:List V->Prop} {G:V->Prop} (w:FH v k) (f:∀i,k i->G (.lst i)):G v:=xd w λi e h=>e▸f i h
@[elab_as_elim] theorem uI {N:Bool->Prop} {P:vi->Prop} (w:sF v N) (r:aq ρ h v u) (k:∀i,N i->P (.bool i)):P u:=by
 refine tH w λi e w=> ?_
 subst e
 exact GO r (k i w)
theorem j9:bN T c n env [] .nil:=λρ σ s A en L Q X Q' E' pos H wp kq o_=>ae3 (kq [] [] _ _ _ (.refl H.rel) rfl rfl wp)
theorem iZ (h1:aw T c n env e me) (h2:bN T c n env es cy) (he:Z' (e::es) env=(Fk,ac2 e env)::Z' es env):bN T c n env (e::es) (.cons me cy):=by
 intro ρ σ s A en L Q X Q' E' pos H wp kq kx
 refine aa3 (h1 H wp (λv u aU aT s1 P1 r1 w1=>h2 (H.step P1) w1 (λvs us lN aV s2 P2 r2 z2 w2=>kq _ _ _ _ _ (P1.trans P2) ?_ (by simp [z2]) w2) (kx.step P1)) kx) he
 exact bP u us rfl (P2.val P1.rel r1) r2
theorem Aa {k pos}:aw T c n env (.Constant .none k pos) .none:=λρ σ s A en L Q X Q' E' H wp kq o_=>aq1 (kq _ _ _ _ _ (.refl H.rel) (by rfl) wp)
theorem Au {k pos b}:aw T c n env (.Constant (.bool b) k pos) (.bool b):=λρ σ s A en L Q X Q' E' H wp kq o_=>wpAny_Constant_bool (kq _ _ _ _ _ (.refl H.rel) (by rfl) wp)
theorem Dy {k pos i}:aw T c n env (.Constant (.int i) k pos) (.int i):=λρ σ s A en L Q X Q' E' H wp kq o_=>ar0 (kq _ _ _ _ _ ((aj.refl H.rel).tok _) (gA.mpr ⟨_,rfl⟩) wp)
theorem Dn {x:String} {k pos}:aw T c n env (.Constant (.str (oC x)) k pos) (.str x):=λρ σ s A en L Q X Q' E' H wp kq o_=>ai9 (kq _ _ _ _ _ ((aj.refl H.rel).tok _) (iU.mpr ⟨_,rfl⟩) wp)
theorem Dm {pos} (hy:T.nm x=y) (hk:env.kindOf y=js .local∨env.kindOf y=js .cell∨env.kindOf y=js .free) (hd:(y==("__debug__":Zu))=Fk) (QF:(y==("__classdict__":Zu))=Fk):
  aw T c n env (.Name y pos) (.var x):=λρ σ s A en L Q X Q' E' H wp kq o_=>by
 refine bI wp λv hv wp=>ag H.env λm E r=> ?_
 obtain ⟨r1,r2⟩:=r x v hv
 rw [hy] at r1 r2
 refine ae5 ?_ hd
 rcases hk with hk | hk | hk
 ·exact ag (r1 hk) λu e q=>ZK E.kind hk E.ns e (kq _ _ _ _ _ (.refl H.rel) q wp)
 ·obtain ⟨cc,u,e,hc,q⟩:=r2 (.inl hk)
  exact wpAny_loadName_cell E.kind hk e hc (kq _ _ _ _ _ (.refl H.rel) q wp)
 ·obtain ⟨cc,u,e,hc,q⟩:=r2 (.inr hk)
  exact wpAny_loadName_free E.kind hk e hc (kq _ _ _ _ _ (.refl H.rel) q wp) QF
theorem Ad {m:Option Nat} {pos} (h:bN T c n env es cy) (hz:es.length<=bf):aw T c n env (.List es pos) (.list m cy):=by
 intro ρ σ s A en L Q X Q' E' H wp kq kx
 change kL c cy (mQ m Q) X en σ at wp
 refine wpAny_List (h H wp (λvs us aU aT s1 P1 r1 z1 w1=>⟨?_,?_⟩) kx)
 ·simp only [r1.length,z1,Zs]; unfold bf at hz; exact Y1 [_] [] (.l V0 (.n 16777216)) (.l V0 (.n 100000)) hz rfl
 ·clear kx wp H
  cases m with
  | none=>
   refine kq _ _ _ _ _ (P1.grow (Grows.push _ _) _) ?_ w1
   exact lg P1.rel r1 (z1▸hz)
  | some t=>
   exact dP (yI P1.rel t (xs:=us.toArray) r1 (z1▸hz)) λP2 r2=>kq _ _ _ _ _ (P1.trans P2) r2 w1
theorem wU {pos} (h:bN T c n env es cy) (hz:es.length<=bf):aw T c n env (.Tuple es k pos) (.tup cy):=by
 intro ρ σ s A en L Q X Q' E' H wp kq kx
 change kL c cy (Km Q) X en σ at wp
 refine wpAny_Tuple (h H wp (λvs us aU aT s1 P1 r1 z1 w1=>⟨?_,?_⟩) kx)
 ·simp only [r1.length,z1,Zs]; unfold bf at hz; exact Y1 [_] [] (.l V0 (.n 16777216)) (.l V0 (.n 100000)) hz rfl
 ·refine kq _ _ _ _ _ (P1.grow (Grows.push _ _) _) ?_ w1
  exact A3 P1.rel r1 (z1▸hz)
theorem Dr {x:Xq} {pos} (h':aw T c n env x me):aw T c n env (.UnaryOp .Not x pos) (.not me):=by
 intro ρ σ s A en L Q X Q' E' H wp kq kx
 refine aq8 (h' H wp (λv u aU aT s1 P1 r1 w1=> ?_) kx)
 exact uI w1 r1 λb w1=>not_value (ZX (kq _ _ _ _ _ P1 (by rfl) w1))
theorem ym {x:Xq} {pos} (h:iR T c n env x me):iR T c n env (.UnaryOp .Not x pos) (.not me):=by
 intro ρ σ s A en L Q X Q' E' H wp kq kx
 change ba c me (Ku λv σ=>sF v λb=>Q b σ) X en σ at wp
 exact wpAny_isTrue_Not (h H wp (λb am aa s' P q=>kq _ _ _ _ P q) kx)
theorem Dt {x:Xq} {pos} (h':aw T c n env x me):aw T c n env (.UnaryOp .USub x pos) (.neg me):=by
 intro ρ σ s A en L Q X Q' E' H wp kq kx
 refine aq8 (h' H wp (λv u aU aT s1 P1 r1 w1=> ?_) kx)
 exact gK w1 r1 λb t w1=>P.neg_int (kq _ _ _ _ _ (P1.tok _) (gA.mpr ⟨_,rfl⟩) w1)
theorem Dx {a:Xq} {pos} {mt ma mb} (ht:iR T c n env t mt) (ha:aw T c n env a ma) (hb:aw T c n env b mb):aw T c n env (.IfExp t a b pos) (.ite mt ma mb):=by
 intro ρ σ s A en L Q X Q' E' H wp kq kx
 refine wpAny_IfExp (ht H wp (λr aU aT s1 P1 w1=> ?_) kx)
 cases r with
 | true=>exact ha (H.step P1) w1 (kq.step P1) (kx.step P1)
 | false=>exact hb (H.step P1) w1 (kq.step P1) (kx.step P1)
theorem yn {a:Xq} {pos} {mt ma mb} (ht:iR T c n env t mt) (ha:iR T c n env a ma) (hb:iR T c n env b mb):iR T c n env (.IfExp t a b pos) (.ite mt ma mb):=by
 intro ρ σ s A en L Q X Q' E' H wp kq kx
 refine j' (ht H wp (λr aU aT s1 P1 w1=> ?_) kx)
 cases r with
 | true=>exact ha (H.step P1) w1 (λb o_ o_ o_ P q=>kq b _ _ _ (P1.trans P) q) (kx.step P1)
 | false=>exact hb (H.step P1) w1 (λb o_ o_ o_ P q=>kq b _ _ _ (P1.trans P) q) (kx.step P1)
theorem zW (h:aw T c n env e me) (he:aq9 e env (ac2 e env)=(do let v<-ac2 e env; am5 e.pos; am6 [v] (truthy v))):iR T c n env e me:=by
 intro ρ σ s A en L Q X Q' E' H wp kq kx
 refine wpAny_isTrue_value (h H wp (λv u aU aT s1 P1 r1 w1=> ?_) kx) he
 exact uI w1 r1 λb w1=>ZX (kq _ _ _ _ P1 w1)
noncomputable def jt (T:Cx) (c:Cc) (n:Nat) (env:Env):List Xq->gR->Prop
 | [],.nil=>True
 | e::es,.cons me cy=>aw T c n env e me/\iR T c n env e me/\jt T c n env es cy
 | _,_=>False
theorem yv:∀{cy} {pos},jt T c n env es cy->iR T c n env (.BoolOp .And es pos) (.and cy):=by
 intro cy pos h ρ σ s A en L Q X Q' E' H wp kq kx
 change sN c cy (λv σ=>sF v λb=>Q b σ) X en σ at wp
 refine aq2 ?_
 induction es generalizing cy ρ σ s with
 | nil=>
  cases cy with
  | nil=>exact wpAny_allTrue_And_nil (kq _ _ _ _ (.refl H.rel) wp)
  | cons _ _=>exact h.elim
 | cons e es ih=>
  cases cy with
  | nil=>exact h.elim
  | cons me cy=>
   refine iz h λo_ h1 h2=>wpAny_allTrue_And_cons (h1 H wp (λr aU aT s1 P1 w1=> ?_) kx)
   cases r with
   | true=>exact ih h2 (H.step P1) (λb o_ o_ o_ P q=>kq b _ _ _ (P1.trans P) q) (kx.step P1) w1
   | false=>exact kq _ _ _ _ P1 w1
theorem z9:∀{cy} {pos},jt T c n env es cy->iR T c n env (.BoolOp .Or es pos) (.or cy):=by
 intro cy pos h ρ σ s A en L Q X Q' E' H wp kq kx
 change zE c cy (λv σ=>sF v λb=>Q b σ) X en σ at wp
 refine aq2 ?_
 induction es generalizing cy ρ σ s with
 | nil=>
  cases cy with
  | nil=>exact wpAny_allTrue_Or_nil (kq _ _ _ _ (.refl H.rel) wp)
  | cons _ _=>exact h.elim
 | cons e es ih=>
  cases cy with
  | nil=>exact h.elim
  | cons me cy=>
   refine iz h λo_ h1 h2=>wpAny_allTrue_Or_cons (h1 H wp (λr aU aT s1 P1 w1=> ?_) kx)
   cases r with
   | true=>exact kq _ _ _ _ P1 w1
   | false=>exact ih h2 (H.step P1) (λb o_ o_ o_ P q=>kq b _ _ _ (P1.trans P) q) (kx.step P1) w1
theorem DE (lq:es ≠ []):∀{cy} {pos},jt T c n env es cy->aw T c n env (.BoolOp .And es pos) (.and cy):=by
 intro cy pos h ρ σ s A en L Q X Q' E' H wp kq kx
 change sN c cy Q X en σ at wp
 induction es generalizing cy ρ σ s with
 | nil=>exact (lq rfl).elim
 | cons e es ih=>
  cases cy with
  | nil=>exact h.elim
  | cons me cy=>
   obtain ⟨h0,o_,h2⟩:=h
   cases es with
   | nil=>
    cases cy with
    | cons _ _=>exact h2.elim
    | nil=>
     refine h0 H wp (λv u aU aT s1 P1 r1 w1=> ?_) kx
     refine tH w1 λb q2 w2=> ?_
     subst q2
     refine kq _ _ _ _ _ P1 r1 ?_
     cases b <;> exact w2
   | cons e' sf=>
    refine j' (h0 H wp (λv u aU aT s1 P1 r1 w1=> ?_) kx)
    refine uI w1 r1 λb w1=>j' (Zq (j' (N6 (ZX ?_))))
    cases b with
    | true=>exact ih (al8 _ _) h2 (H.step P1) (kq.step P1) (kx.step P1) w1
    | false=>exact yd (kq _ _ _ _ _ P1 (by rfl) w1)
theorem Hc (lq:es ≠ []):∀{cy} {pos},jt T c n env es cy->aw T c n env (.BoolOp .Or es pos) (.or cy):=by
 intro cy pos h ρ σ s A en L Q X Q' E' H wp kq kx
 change zE c cy Q X en σ at wp
 induction es generalizing cy ρ σ s with
 | nil=>exact (lq rfl).elim
 | cons e es ih=>
  cases cy with
  | nil=>exact h.elim
  | cons me cy=>
   obtain ⟨h0,o_,h2⟩:=h
   cases es with
   | nil=>
    cases cy with
    | cons _ _=>exact h2.elim
    | nil=>
     refine h0 H wp (λv u aU aT s1 P1 r1 w1=> ?_) kx
     refine tH w1 λb q2 w2=> ?_
     subst q2
     refine kq _ _ _ _ _ P1 r1 ?_
     cases b <;> exact w2
   | cons e' sf=>
    refine j' (h0 H wp (λv u aU aT s1 P1 r1 w1=> ?_) kx)
    refine uI w1 r1 λb w1=>j' (Zq (j' (N6 (ZX ?_))))
    cases b with
    | false=>exact ih (al8 _ _) h2 (H.step P1) (kq.step P1) (kx.step P1) w1
    | true=>exact yd (kq _ _ _ _ _ P1 (by rfl) w1)
end
noncomputable def Cy:zC->Operator
 | .add=> .Add | .sub=> .Sub | .mul=> .Mult | .mod=> .Mod | .fdiv=> .FloorDiv | .pow=> .Pow
noncomputable def iC:Cm->CmpOp
 | .eq=> .Eq | .ne=> .NotEq | .lt=> .Lt | .le=> .LtE | .gt=> .Gt | .ge=> .GtE | .qE=> .Is | .wb=> .IsNot | .Bj=> .In | .FI=> .NotIn
theorem pD {x:Int} (h:x.natAbs < 2^64):ad5 x<=64:=by
 unfold ad5
 split
 ·exact Y0 [] [] (.l (.n 0) (.n 64)) rfl
 ·rename_i hx
  haveI yR:x.natAbs ≠ 0:=by simpa using hx
  exact ((ao5 yR).mpr h)
theorem Cu {x:Int} (h0:0<=x) (h:x < 2^100):ad5 x<=100:=by
 unfold ad5
 split
 ·exact Y0 [] [] (.l (.n 0) (.n 100)) rfl
 ·rename_i hx
  have yR:x.natAbs ≠ 0:=by simpa using hx
  have:x.natAbs < 2^100:=Y2 [_] [_] (.t V0 (.n 1267650600228229401496703205376)) (.T V0 (.n 1267650600228229401496703205376)) (.Q (.c V0) V0) h (ah1 h0) rfl
  exact ((ao5 yR).mpr this)
theorem k7 {x y:Int} (h:y.natAbs.log2 < 9000):Builtin.divisionGoesByPylong x y=Fk:=PyProof.noPylong_of_log2 h
section
theorem ai.flat {vs:List vi} (r:ai ρ h l vs):∀k:Nat,ai ρ h (ab4 k l).flatten (ab4 k vs).flatten
 | 0=>(rfl: []=[])
 | k+1=>r.append (ai.flat r k)
theorem pj (vs:Array vi):∀(k:Nat) (acc:Array vi),((ab4 k vs).foldl (λx1 x2=>x1++x2) acc).toList=acc.toList++(ab4 k vs.toList).flatten
 | 0=>λacc=>by simp
 | k+1=>λacc=>by
  simp only [aq3,List.foldl_cons,pj vs k,aq3,List.flatten_cons]
  simp
theorem yE {l:Nj} {items:Array vi} {x:Int} {u:Tok}
  (hl:s.heap.get? l=js {cls:=.type "list",dict:=vd,data:=.seq items k,slots:=#[]})
  (Lq:-(2^63:Int)<=x) (CX:x < 2^63) (c8:items.size*x.toNat<=2^24)
  (h:Q' (.ref s.heap.objs.size) {s with heap:=s.heap.push {cls:=.type "list",data:=.seq (List.foldl (λx1 x2=>x1++x2) #[] (ab4 (if items.isEmpty=vk then 0 else x.toNat) items))}}):
  IQ (Hj prog w) A (az1 .Mult (.ref l) (.int x u)) Q' E' s:=
 wpAny_binaryOp_repeat_ref (by decide) ⟨_,hl,rfl⟩ (λs'=>typeIs_int s' x u) noFill_list_mul F.fills_int_mul F.slot_int_rmul repeat_list F.slot_int_index.lookup
  (call_meets F.slot_int_rmul (typeIs_int s x u) F.entry_int_rmul (F.args_int_rmul_2 _ _) (int___rmul___int_list x u l items k)
   (mz hl rfl ⟨_,hl,rfl⟩ (call_meets F.slot_list_mul ⟨_,hl,rfl⟩ F.entry_list_mul (F.args_list_mul_2 _ _)
    (AutoListH.list___mul___list_int_3 l items k x u (by simp [Builtin.List.listFitsIndex]; exact ⟨Lq,CX⟩) (ZP.mpr (ZT c8 (Ul rfl))) (by simp [ae0,al9]; exact c8))
    ⟨hl,h⟩)))
theorem KO {f:Int->Prop} {g:Zu->Prop} {l:List V->Prop} {P:vi->Prop} (w:OR v f g l) (r:aq ρ h v u) (k1:∀i t,f i->P (.int i t)) (k2:∀i t,g i->P (.str i t))
  (k3:∀x a xs n,l x->h.get? a=js {cls:=.type "list",data:=.seq xs n}->ρ.jJ a->x.length<=bf->ai ρ h x xs.toList->P (.ref a)):P u:=by
 cases v with
 | int i=>exact jI r λt=>k1 i t w
 | str i=>exact rn r λt=>k2 i t w
 | lst x=>exact yJ r λa xs n=>k3 x a xs n w
 | _=>exact w.elim
theorem tD {α:Type} {x:α} {f:Int->Option α} {g:Zu->Option α} {l:List V->Option α} {r:Nat->Option α} {P:vi->Prop} (w:qu v f g l r=js x) (rv:aq ρ h v u) (k1:∀i t,f i=js x->P (.int i t)) (k2:∀i t,g i=js x->P (.str i t))
  (k3:∀y a xs n,l y=js x->h.get? a=js {cls:=.type "list",data:=.seq xs n}->ρ.jJ a->y.length<=bf->ai ρ h y xs.toList->P (.ref a)) (k4:∀n,r n=js x->aq ρ h (.ref n) u->P u):P u:=by
 cases v with
 | int i=>exact jI rv λt=>k1 i t w
 | str i=>exact rn rv λt=>k2 i t w
 | lst y=>exact yJ rv λa xs n=>k3 y a xs n w
 | ref n=>exact k4 n w rv
 | _=>exact aI w
theorem DT {α:Type} {x:α} {f:Int->Option α} {P:vi->Prop} (w:qu v f fh fh fh=js x) (rv:aq ρ h v u) (k:∀i t,f i=js x->P (.int i t)):P u:=
 tD w rv k (λo_ o_ w=>aI w) (λo_ o_ o_ o_ w=>aI w) λo_ w=>aI w
theorem OQ {x:α} {f:Zu->Option α} {P:vi->Prop} (w:qu v fh f fh fh=js x) (rv:aq ρ h v u) (k:∀i t,f i=js x->P (.str i t)):P u:=
 tD w rv (λo_ o_ w=>aI w) k (λo_ o_ o_ o_ w=>aI w) λo_ w=>aI w
theorem J0 {x:α} {l:List V->Option α} {P:vi->Prop} (w:qu v fh fh l fh=js x) (rv:aq ρ h v u) (k:∀y a xs n,l y=js x->h.get? a=js {cls:=.type "list",data:=.seq xs n}->ρ.jJ a->y.length<=bf->ai ρ h y xs.toList->P (.ref a)):P u:=
 tD w rv (λo_ o_ w=>aI w) (λo_ o_ w=>aI w) k λo_ w=>aI w
theorem xa {a b:V} {r:Bool} {f:Int->Int->Bool} {P:Bool->vi->vi->Prop} (w:AQ a b f=js r) (ra:aq ρ h a ua) (rb:aq ρ h b ub) (k:∀i t j u,P (f i j) (.int i t) (.int j u)):P r ua ub:=
 DT (P:=λua=>P r ua ub) w ra λi t w=>DT w rb λj u w=>vo w▸k i t j u
theorem JZ {α:Type} {f:Int->Option α} {x:α} (w:qu v f fh fh fh=js x) (k:∀i,v=.int i->f i=js x->G):G:=by
 cases v with
 | int i=>exact k i rfl w
 | _=>exact aI w
theorem JY {f:Zu->Option α} {x:α} (w:qu v fh f fh fh=js x) (k:∀i,v=.str i->f i=js x->G):G:=by
 cases v with
 | str i=>exact k i rfl w
 | _=>exact aI w
theorem v8 {c:Prop} {o:Option α} {x:α} [Decidable c] (w:(if c then o else vd)=js x) (k:c->o=js x->G):G:=by
 by_cases hc:c
 ·rw [if_pos hc] at w; exact k hc w
 ·rw [if_neg hc] at w; exact aI w
theorem Hv {op:zC} {a:V} (R:bc T ρ σ s.heap) (ra:aq ρ s.heap a ua) (rb:aq ρ s.heap b ub) (wp:Fy op a b (λv=>Q v σ)) (kq:KQ T W ρ s Q Q'):
  IQ (Hj T.prog T.w) A (az1 (Cy op) ua ub) Q' E' s:=by
 cases op with
 | add=>
  refine KO (P:=λua=>IQ _ A (az1 _ ua ub) Q' E' s) wp ra (λx t w=> ?_) (λx t w=> ?_) (λx a1 xs n w e1 f1 z1 r1=> ?_)
  ·exact gK w rb λy u w=>P.add_int (kq _ _ _ _ _ ((aj.refl R).tok _) (gA.mpr ⟨_,rfl⟩) w)
  ·exact JQ w rb λy u w=>ao6 (λt' tk=>kq _ _ _ _ _ ((aj.refl R).tok _) (iU.mpr ⟨_,rfl⟩) w.2) (by refine af Zs ?_; have:=w.1; exact Y1 [_,_] [] (.l (.a V0 V1) (.n 16777216)) (.l (.a V0 V1) (.n 1000)) w.1 rfl)
  refine Pd w rb λy a2 ys m w e2 f2 z2 r2=> ?_
  haveI s1:=r1.length
  haveI s2:=r2.length
  rw [Array.length_toList] at s1 s2
  refine P.add_list e1 e2 (kq _ _ _ _ _ ((aj.refl R).grow (Grows.push _ _) _) (lg R (by simpa using r1.append r2) (by simpa using w.1)) w.2) ?_
  simp only [s1,s2,Zs]; have:=w.1; unfold bf at this; exact Y1 [_,_] [] (.l (.a V0 V1) (.n 16777216)) (.l (.a V0 V1) (.n 100000)) this rfl
 | sub=>
  exact gK wp ra λx t w=>gK w rb λy u w=>P.sub_int (kq _ _ _ _ _ ((aj.refl R).tok _) (gA.mpr ⟨_,rfl⟩) w)
 | mul=>
  refine KO (P:=λua=>IQ _ A (az1 _ ua ub) Q' E' s) wp ra (λx t w=> ?_) (λo_ o_ w=>w.elim) (λx a1 xs n w e1 f1 z1 r1=> ?_)
  ·exact gK w rb λy u w=>P.mul_int (kq _ _ _ _ _ ((aj.refl R).tok _) (gA.mpr ⟨_,rfl⟩) w.2) (w.1.elim (λh=>IntMulOk.of_left (pD h)) λh=>IntMulOk.of_right (pD h))
  refine gK w rb λk u w=>si w λw1 w2 w3 w4=> ?_
  haveI s1:xs.size=x.length:=by have:=r1.length; simpa using this
  refine yE e1 (Y1 [] [_] (.L (.g (.n 9223372036854775808)) V0) (.T (.g (.n 1000000)) V0) w.2.2.1 rfl) (Y1 [] [_] (.T V0 (.n 9223372036854775808)) (.T V0 (.n 1000000)) w.2.1 rfl) (by refine af s1 ?_; unfold bf at w1; exact Y1 [_] [] (.l V0 (.n 16777216)) (.l V0 (.n 100000)) w1 rfl) (kq _ _ _ _ _ ((aj.refl R).grow (Grows.push _ _) _) (lg R ?_ ?_) w4)
  ·simp only [pj]
   simp only [an7]
   by_cases he:xs.isEmpty=vk
   ·refine af (if_pos he) ?_
    have:xs.toList=[]:=by simpa using he
    haveI hx:=af1.mp (by refine bD s1 ?_; simpa using he)
    refine af hx ?_
    have:(ab4 k.toNat ([]:List V)).flatten=[]:=by simp
    refine af this ?_; show _=[]; simp
   ·refine af (if_neg he) ?_; exact r1.flat _
  ·simp; rw [Nat.mul_comm]; exact w1
 | mod=>
  exact gK wp ra λx t w=>gK w rb λy u w=>AutoIntOps.mod_1 (by simpa using w.1) (kq _ _ _ _ _ ((aj.refl R).tok _) (gA.mpr ⟨_,rfl⟩) w.2.2)
 | fdiv=>
  refine gK wp ra λx t w=>gK w rb λy u w=>AutoIntOps.floordiv_1 (by simpa using w.1) ?_ (kq _ _ _ _ _ ((aj.refl R).tok _) (gA.mpr ⟨_,rfl⟩) w.2.2)
  have:y.natAbs.log2 < 9000:=Y1 [_] [] (.t V0 (.n 9000)) (.t V0 (.n 62)) ((ao5 (Int.natAbs_ne_zero.mpr w.1)).mpr w.2.1) rfl
  refine af (k7 this) ?_; simp
 | pow=>
  refine gK wp ra λx t w=>gK w rb λy u w=>ax λG_ ae=>ES w λw1 w2 w3 w4 w5=>ae <| AutoIntOps.pow_4 (Y1 [] [_] (.L (.n 0) V0) (.T (.n 0) V0) w3 rfl) (by simp; exact Y1 [] [_] (.o (.Q V0 (.n 0))) (.T (.n 0) V0) w3 rfl) (λh=>((Bool.or_eq_true _ _).mp h).elim (λe=>absurd (beq_iff_eq.mp e) (as3 (am7 (by decide) w1))) λe=>absurd (beq_iff_eq.mp e) (as3 w1)) (λh=>absurd (beq_iff_eq.mp h) (as3 (am7 (by decide) w1))) ?_ (kq _ _ _ _ _ ((aj.refl R).tok _) (gA.mpr ⟨_,rfl⟩) w5)
  unfold Builtin.Int.intTooBig
  have h2:(bitsLine:Int)=134217728:=by decide
  refine af decide_eq_true_eq ?_
  simp only [h2]
  exact Y1 [] [_] (.o (.T (.n 134217728) V0)) (.L V0 (.m 100 (.n 100))) (Int.mul_le_mul (Int.ofNat_le.mpr (Cu (Y1 [] [_] (.L (.n 0) V0) (.T (.n 1) V0) w.1 rfl) w2)) (ad1 w4) (ad1 w3) (by decide)) rfl
theorem DC {op:zC} {l r:Xq} {pos} {b:Ex} (h1:aw T c n env l a) (h2:aw T c n env r b):aw T c n env (.BinOp l (Cy op) r pos) (.bin op a b):=by
 intro ρ σ s A en L Q X Q' E' H wp kq kx
 exact ax3 (h1 H wp (λva ua aU aT s1 P1 r1 w1=>h2 (H.step P1) w1 (λvb ub lN aV s2 P2 r2 w2=>Hv P2.rel (P2.val P1.rel r1) r2 w2 (kq.step (P1.trans P2))) (kx.step P1)) kx)
end
def sB (n:Nat) (v:V):Prop:=(∀{ρ:aO} {h:Z4} {u:vi},aq ρ h v u->∃as,Reads h u (vP v) as)/\(vP v).canLay0=vk/\(vP v).depth<=n
def uO (n:Nat) (l:List V):Prop:=(∀{ρ:aO} {h:Z4} {us:List vi},ai ρ h l us->∃as,ReadsAll h us (tz l) as)/\PyData.canLayAll0 (tz l)=vk/\PyData.depthAll (tz l)+1<=n
theorem qt {p:List V->Bool} (hp:∀l,p l=vk->uO n l) (v:V) (e:plain1 p v=vk):sB n v:=by
 cases v with
 | none=>exact cW (λr=>xh r ⟨_,.none⟩) rfl (Z5 _)
 | int i=>exact cW (λr=>jI r λt=>⟨_,.int i t⟩) rfl (Z5 _)
 | str i=>exact cW (λr=>rn r λt=>⟨_,.str i t⟩) e (Z5 _)
 | lst l=>exact cW (λr=>yJ r λa xs k g o_ o_ rs=>((hp l e).1 rs).elim λas x=>⟨_,.list g rfl rfl x⟩) ((hp l e).2.1) ((hp l e).2.2)
 | _=>exact dy e
theorem qs (hn:∀v,cw n v=vk->sB n v):∀l:List V,l.all (cw n)=vk->uO (n+1) l
 | []=>λo_=>(cW (λr=>by obtain rfl:_=[]:=r; exact ⟨_,.nil⟩) rfl (ay0 _ _))
 | v::l=>λe=>by
  have e:=(ZV _ _).mp e
  refine iz (hn v e.1) λa1 a2 a3=>iz (qs hn l e.2) λb1 b2 b3=>(cW (λr=> ?_) ((ZV _ _).mpr ⟨a2,b2⟩) (av2 (Nat.max_le.mpr ⟨a3,Nat.le_of_succ_le_succ b3⟩)))
  obtain ⟨u,us,rfl,r1,r⟩:=r
  exact (a1 r1).elim λas x=>(b1 r).elim λbs y=>⟨_,.cons x y⟩
theorem ja:∀n v,cw n v=vk->sB n v
 | 0=>qt λo_ e=>dy e
 | n+1=>qt (qs (ja n))
theorem fk (p:cw 4 v=vk):aC3 (vP v)=vk:=by
 have:=(ja 4 v p).2
 simp only [aC3,this.1,aA6,decide_eq_true_eq]
 exact ZT this.2 (Ul rfl)
theorem qH:∀{is},fO l=js is->l=is.map V.int:=by
 induction l with
 | nil=>intro is h; obtain rfl:=vo h; rfl
 | cons v r ih=>
  intro is h
  refine ag (Zt.mp h) λi h1 h=>ag (Ou.mp h) λjs h2 e=> ?_
  cases v with
  | int j=>rw [<-e,ih h2,vo h1]; rfl
  | _=>exact aI h1
theorem yh:∀{is},vp l=js is->l=is.map V.str:=by
 induction l with
 | nil=>intro is h; obtain rfl:=vo h; rfl
 | cons v r ih=>
  intro is h
  refine ag (Zt.mp h) λi h1 h=>ag (Ou.mp h) λjs h2 e=> ?_
  cases v with
  | str j=>rw [<-e,ih h2,vo h1]; rfl
  | _=>exact aI h1
noncomputable abbrev Nt:=Value.isInt
noncomputable abbrev PK:=aA7
theorem xU [DecidableEq α] (i k) (l:List α):(i==k || decide (k∈l))=decide (k∈i::l):=by
 by_cases e:k=i
 ·subst e; simp
 ·simp [e,ag5 e]
theorem xV (k:Int) {is:List Int}:∀{us:List vi},ai ρ h (is.map V.int) us->us.any (Nt k)=decide (k∈is)/\∀t,∀y∈us,av3 y (.int k t) (Nt k y):=by
 induction is with
 | nil=>exact λr=>af (show _=[] from r) ⟨rfl,λo_ o_ h=>nomatch h⟩
 | cons i is ih=>
  refine λr=>bp r λu us q1 r1 r2=> ?_
  subst q1
  refine jI r1 λt=>dP (ih r2) λh1 h2=>⟨(congrArg (i==k || ·) h1).trans (xU i k is),λt' y hy=>mh (Zr.mp hy) (aD7 _ _ _ _) (h2 t' y)⟩
theorem Fi k {is:List Zu}:∀{us},ai ρ h (is.map V.str) us->us.any (PK k)=decide (k∈is)/\∀t,∀y∈us,av3 y (.str k t) (PK k y):=by
 induction is with
 | nil=>exact λr=>af (show _=[] from r) ⟨rfl,λo_ o_ h=>nomatch h⟩
 | cons i is ih=>
  refine λr=>bp r λu us q1 r1 r2=> ?_
  subst q1
  refine rn r1 λt=>dP (ih r2) λh1 h2=>⟨(congrArg (i==k || ·) h1).trans (xU i k is),λt' y hy=>mh (Zr.mp hy) (eqGives_str _ _ _ _) (h2 t' y)⟩
section
theorem bc.list (R:bc T ρ σ s.heap) {t:Nat} (e:σ[n]? =js (.list t l)) (r:aq ρ s.heap (.ref n) u):
  ∃a xs k,u=.ref a/\ρ.o[n]? =js (a,a)/\s.heap.get? a=js {cls:=.type "list",data:=.seq xs k}/\ai ρ s.heap l xs.toList/\l.length<=bf:=by
 refine ag r λp hp q1=>af q1 ?_
 obtain ⟨z,xs,k,g,r,l⟩:=R.obj n _ p e hp
 exact qa p.1 xs k rfl (by refine af hp ?_; obtain ⟨a,b⟩:=p; dsimp only at z; exact af z rfl) g r l
theorem uu {a b:Nj} {ys:Array vi} {m:Nat} {x y:List V} (ha:s.heap.get? a=js {cls:=.type "list",data:=.seq xs k}) (hb:s.heap.get? b=js {cls:=.type "list",data:=.seq ys m})
  (rx:ai ρ s.heap x xs.toList) (ry:ai ρ s.heap y ys.toList) (hy:y=[]) (hu:A.units+64 < an6):
  (Q' (.bool x.isEmpty) s->IQ (Hj T.prog T.w) A (am0 .Eq (.ref a) (.ref b)) Q' E' s)/\(Q' (.bool (!x.isEmpty)) s->IQ (Hj T.prog T.w) A (am0 .NotEq (.ref a) (.ref b)) Q' E' s):=by
 subst hy
 have sy:ys.size=0:=ry.length
 have sx:xs.size=x.length:=by have:=rx.length; simpa using this
 have la:s.heap.IsList a xs:=⟨_,ha,rfl,k,rfl⟩
 have lb:s.heap.IsList b ys:=⟨_,hb,rfl,m,rfl⟩
 clear ry rx hb ha m
 cases x with
 | nil=>
  refine ⟨λq=> ?_,λq=> ?_⟩
  ·refine SeqAt.RcAt.lists (e:=λo_=>vk) la lb (by simp [sx,sy]) (Y1 [_,_] [] (.t V0 V1) (.t (.a V0 (.n 64)) V1) hu rfl) (λj h1 o_=>by simp at sx; rw [sx] at h1; exact absurd h1 (ay1 _)) _ _ _ _ (by simpa [sx] using q)
  ·refine SeqAt.RcNeAt.lists (e:=λo_=>vk) la lb (by simp [sx,sy]) (Y1 [_,_] [] (.t V0 V1) (.t (.a V0 (.n 64)) V1) hu rfl) (λj h1 o_=>by simp at sx; rw [sx] at h1; exact absurd h1 (ay1 _)) _ _ _ _ (by simpa [sx] using q)
 | cons v x=>
  refine ⟨λq=> ?_,λq=> ?_⟩
  ·exact SeqAt.RcAt.lists_lengths la lb (by simp [sx,sy]) (Y1 [_,_] [] (.t V0 V1) (.t (.a V0 (.n 64)) V1) hu rfl) _ _ _ _ q
  ·exact SeqAt.RcNeAt.lists_lengths la lb (by simp [sx,sy]) (Y1 [_,_] [] (.t V0 V1) (.t (.a V0 (.n 64)) V1) hu rfl) _ _ _ _ q
theorem DS {o:Option O} {f:List V->Option α} {x:α} (w:w' o f=js x) (k:∀t l,o=js (.list t l)->f l=js x->G):G:=by
 cases o with
 | none=>exact aI w
 | some o=>
  cases o with
  | list t l=>exact k t l rfl w
  | _=>exact aI w
def zl (T:Cx) (A:ae4) (s:FF) (Q':vi->FF->Prop) (E':vi->FF->Prop) (op:CmpOp) (ua ub:vi) (r:Bool):Prop:=Q' (.bool r) s->IQ (Hj T.prog T.w) A (am0 op ua ub) Q' E' s
def JD (T:Cx) (A:ae4) (s:FF) (Q':vi->FF->Prop) (E':vi->FF->Prop) (ua ub:vi) (r:Bool):Prop:=zl T A s Q' E' .Eq ua ub r/\zl T A s Q' E' .NotEq ua ub (!r)
theorem FG {a:V} {r:Bool} (R:bc T ρ σ s.heap) (ra:aq ρ s.heap a ua) (rb:aq ρ s.heap b ub) (wp:pA σ a b=js r) (hu:A.units+64 < an6):JD T A s Q' E' ua ub r:=by
 refine tD (P:=λua=>JD T A s Q' E' ua ub r) wp ra (λi t w=> ?_) (λi t w=> ?_) (λx a1 xs n w e1 f1 z1 r1=> ?_) (λn w ra=> ?_)
 ·exact tD (P:=λub=>JD T A s Q' E' _ ub r) w rb (λj u w=>vo w▸⟨λq=>P.eq_int q,λq=>P.ne_int q⟩) (λj u w=>vo w▸⟨λq=>EqMixed.eq_int_str q,λq=>EqMixed.ne_int_str q⟩) (λo_ o_ o_ o_ w=>aI w) λo_ w=>aI w
 ·exact tD (P:=λub=>JD T A s Q' E' _ ub r) w rb (λj u w=>vo w▸⟨λq=>EqMixed.eq_str_int q,λq=>EqMixed.ne_str_int q⟩) (λj u w=>vo w▸⟨λq=>PyProof.Rows.eq_str q,λq=>PyProof.Rows.ne_str q⟩) (λo_ o_ o_ o_ w=>aI w) λo_ w=>aI w
 ·refine J0 (P:=λub=>JD T A s Q' E' _ ub r) w rb λy a2 ys m w e2 f2 z2 r2=> ?_
  cases y with
  | nil=>exact vo w▸uu e1 e2 r1 r2 rfl hu
  | cons v y=>
   refine v8 w λp w=> ?_
   have p:=(ZV _ _).mp p
   exact dJ ((ja _ _ p.1).1 (qa a1 xs n rfl e1 f1 z1 r1)) λas x1=>dJ ((ja _ _ p.2).1 (qa a2 ys m rfl e2 f2 z2 r2)) λbs x2=>vo w▸⟨λq=>eq_dataH x1 x2 (fk p.1) (fk p.2) hu q,λq=>ne_dataH x1 x2 (fk p.1) (fk p.2) hu q⟩
 ·exact J0 (P:=λub=>JD T A s Q' E' _ ub r) w rb λy a2 ys m w e2 f2 z2 r2=>v8 w λhy w=>DS w λt l e w=>jj (R.list e ra) λa1 xs n q3 o_ e1 r1 z1=>af q3 <| Option.some.inj w▸uu e1 e2 r1 r2 (ZW.mp hy) hu
theorem b8.any [DecidableEq κ] {kvs:List (κ×V)} {bB:List (κ×vi)} (x:b8 ρ h kvs bB) k:(ay9 bB k).isSome=decide (k∈kvs.map (·.1)):=by
 refine bD x.1 ?_
 unfold ay9
 rw [Option.isSome_map,Bool.eq_iff_iff,List.find?_isSome]
 simp
theorem uw {κ:Type} [DecidableEq κ] {knd:KeyKind prog w κ} {a:Nat} (e:h.get? a=js (ad4 [] n)):h.DictOf knd a []:=
 (Ek _ _ n e (cW rfl rfl rfl) rfl (λe he=>by simp at he) (Pairs.nil) (of_decide_eq_true rfl))
theorem bc.rJ {p:Nj×Nj} (R:bc T ρ σ s.heap) (hp:ρ.o[n]? =js p):(p.1==ZI)=Fk:=by
 rw [beq_eq_false_iff_ne]
 exact R.low p.1 (az p (Oq hp) (.inl rfl))
def Fo (T:Cx) (A:ae4) (s:FF) (Q':vi->FF->Prop) (E':vi->FF->Prop) (ua ub:vi) (r:Bool):Prop:=
 ((∀tk,Q' (.bool r) {s with toks:=tk})->IQ (Hj T.prog T.w) A (am0 .In ua ub) Q' E' s)/\((∀tk,Q' (.bool (!r)) {s with toks:=tk})->IQ (Hj T.prog T.w) A (am0 .NotIn ua ub) Q' E' s)
theorem Ge {k:Int} {t:Tok} {a2:Nj} {ys:Array vi} {m:Nat} {r:Bool} (w:((fO l).map λis=>decide (k∈is))=js r) (e2:s.heap.get? a2=js {cls:=.type "list",data:=.seq ys m}) (r2:ai ρ s.heap l ys.toList):Fo T A s Q' E' (.int k t) (.ref a2) r:=by
 refine ag (Ou.mp w) λis e w=>bD w ?_
 replace r2:=(qH e)▸r2
 refine dP (xV k r2) λh1 h2=> ?_
 haveI BD:=λy hy=>h2 t y (ao7.mpr hy)
 haveI IC:ys.any (Nt k)=decide (k∈is):=by refine bD h1 ?_; simp
 exact ⟨λq=>SeqRoads2.in_list _ BD e2 (by refine af IC ?_; exact q s.toks),λq=>SeqRoads2.notIn_list _ BD e2 (by refine af IC ?_; exact q s.toks)⟩
set_option tactic.hygienic true in
theorem AP {a:V} {r:Bool} (R:bc T ρ σ s.heap) (ra:aq ρ s.heap a ua) (rb:aq ρ s.heap b ub) (wp:yG σ a b=js r):Fo T A s Q' E' ua ub r:=by
 refine tD (P:=λua=>Fo T A s Q' E' ua ub r) wp ra (λk t w=> ?_) (λst t w=> ?_) (λ_ _ _ _ w=>aI w) (λ_ w=>aI w)
 ·refine tD (P:=λub=>Fo T A s Q' E' _ ub r) w rb (λ_ _ w=>aI w) (λ_ _ w=>aI w) (λl a2 ys m w e2 f2 z2 r2=>Ge w e2 r2) (λn w rb=> ?_)
  cases e0:σ[n]? with
  | none=>rw [e0] at w; exact aI w
  | some ob=>
  rw [e0] at w
  cases ob with
  | list tt l=>
   exact jj (R.list e0 rb) λa2 ys m q4 _ e2 r2 z2=>af q4 <| Ge w e2 r2
  | bM tt kvs=>
   refine bD (vo w) <| Hg rb λp hp=>dP (R.obj n _ p e0 hp) λz d=>ag d λbB d kr=> ?_
   haveI hs:=R.rJ hp
   haveI hv:=kr.any k
   exact ⟨λq=>wpAny_in_of (am8 T.prog T.w k t) hs d.mapOf (by refine af hv ?_; exact q _),λq=>wpAny_notIn_of (am8 T.prog T.w k t) hs d.mapOf (by refine af hv ?_; exact q _)⟩
  | _=>exact aI w
 ·clear wp ra R a
  cases b with
  | tup l=>
   refine ag (Ou.mp w) λis e w=>bD w <| JO rb λa2 ys m e2 f2 z2 r2=> ?_
   rw [yh e] at r2
   refine dP (Fi st r2) λh1 h2=> ?_
   haveI BD:=λy hy=>h2 t y (ao7.mpr hy)
   haveI IC:ys.any (PK st)=decide (st∈is):=by refine bD h1 ?_; simp
   exact ⟨λq=>SeqRoads2.in_tuple _ BD e2 (by refine af IC ?_; exact q s.toks),λq=>SeqRoads2.notIn_tuple _ BD e2 (by refine af IC ?_; exact q s.toks)⟩
  | iy=>
   refine bD (vo w) <| Ml rb λa2 n e2 f2 z2=> ?_
   haveI d:=uw (knd:=strKind T.prog T.w) e2
   haveI hs:(a2==ZI)=Fk:=by simpa using z2
   exact ⟨λq=>wpAny_in_of (aj0 T.prog T.w st t) hs d.mapOf (q _),λq=>wpAny_notIn_of (aj0 T.prog T.w st t) hs d.mapOf (q _)⟩
  | _=>exact aI w
end
section
theorem fM (h:u ≠ .none):(u==ag3)=Fk:=beq_eq_false_iff_ne.mpr h
theorem x9:(ag3==ag3)=vk:=beq_self_eq_true _
theorem Bf {a:V} (ra:aq ρ h a ua):(ua==ag3)=H6 a:=by
 cases a with
 | none=>exact xh ra x9
 | bool b=>exact GO ra (fM nofun)
 | int b=>exact jI ra λo_=>fM nofun
 | str b=>exact rn ra λo_=>fM nofun
 | tup l=>exact JO ra λo_ o_ o_ o_ o_ o_ o_=>fM nofun
 | lst l=>exact yJ ra λo_ o_ o_ o_ o_ o_ o_=>fM nofun
 | iy=>exact Ml ra λo_ o_ o_ o_ o_=>fM nofun
 | ref n=>exact Hg ra λo_ o_=>fM nofun
theorem Be {r:Bool} (w:HZ b r=js r') (k:b=.none->r=r'->G):G:=by
 cases b with
 | none=>exact k rfl (vo w)
 | _=>exact aI w
theorem mj {a:V} {r:Bool} (R:bc T ρ σ s.heap) (ra:aq ρ s.heap a ua) (rb:aq ρ s.heap b ub) (wp:uE σ op a b=js r) (hu:A.units+64 < an6)
  (q:∀tk,Q' (.bool r) {s with toks:=tk}):IQ (Hj T.prog T.w) A (am0 (iC op) ua ub) Q' E' s:=by
 cases op with
 | eq=>exact (FG R ra rb wp hu).1 (q s.toks)
 | ne=>
  refine ag (Ou.mp wp) λr' w1 e=> ?_
  subst e
  exact (FG R ra rb w1 hu).2 (q s.toks)
 | lt=>exact xa (P:=λr ua ub=>zl T A s Q' E' .Lt ua ub r) wp ra rb (λi t j u q=>P.lt_int q) (q s.toks)
 | le=>exact xa (P:=λr ua ub=>zl T A s Q' E' .LtE ua ub r) wp ra rb (λi t j u q=>P.le_int q) (q s.toks)
 | gt=>exact xa (P:=λr ua ub=>zl T A s Q' E' .Gt ua ub r) wp ra rb (λi t j u q=>P.gt_int q) (q s.toks)
 | ge=>exact xa (P:=λr ua ub=>zl T A s Q' E' .GtE ua ub r) wp ra rb (λi t j u q=>P.ge_int q) (q s.toks)
 | qE=>
  refine Be wp λe er=> ?_
  subst e; subst er
  refine xh rb (is_none ?_)
  exact (Bf ra)▸(q s.toks)
 | wb=>
  refine Be wp λe er=> ?_
  subst e; subst er
  refine xh rb (isNot_none ?_)
  exact (Bf ra)▸(q s.toks)
 | Bj=>exact (AP R ra rb wp).1 q
 | FI=>
  refine ag (Ou.mp wp) λr' w1 e=> ?_
  subst e
  exact (AP R ra rb w1).2 q
section
theorem dm.qm {ρ σ s A en L} (H:dm T n ρ σ s A env en L):A.units+64 < an6:=Y1 [_,_,_] [] (.t (.a V0 (.n 64)) V1) (.l (.a (.a V0 (.m 60 V2)) (.n 90)) V1) H.lO rfl
theorem DA {l:Xq} {r:Xq} {pos} (h1:aw T c n env l a) (h2:aw T c n env r b) (hm:behindInMarks (iC op) r=Fk):aw T c n env (.Compare l [iC op] [r] pos) (.cmp op a b):=by
 intro ρ σ s A en L Q X Q' E' H wp kq kx
 refine wpAny_Compare1 (h1 H wp (λva ua aU aT s1 P1 r1 w1=>h2 (H.step P1) w1 (λvb ub lN aV s2 P2 r2 w2=> ?_) (kx.step P1)) kx) hm
 exact bI w2 λr e w2=>mj P2.rel (P2.val P1.rel r1) r2 e H.qm λtk=>kq _ _ _ _ _ ((P1.trans P2).tok tk) (by rfl) w2
theorem yu {l:Xq} {r:Xq} {pos} (h1:aw T c n env l a) (h2:aw T c n env r b) (hm:behindInMarks (iC op) r=Fk):iR T c n env (.Compare l [iC op] [r] pos) (.cmp op a b):=by
 intro ρ σ s A en L Q X Q' E' H wp kq kx
 change ba c a (HU op (ba c b) (λv σ=>sF v λr=>Q r σ) X en) X en σ at wp
 refine wpAny_isTrue_Compare1 (h1 H wp (λva ua aU aT s1 P1 r1 w1=>h2 (H.step P1) w1 (λvb ub lN aV s2 P2 r2 w2=> ?_) (kx.step P1)) kx) hm
 exact bI w2 λr e w2=>mj P2.rel (P2.val P1.rel r1) r2 e H.qm λtk=>ZX (kq _ _ _ _ ((P1.trans P2).tok tk) w2)
theorem As {l:Xq} {m:Xq} {r:Xq} {d:Ex} {pos} (h1:aw T c n env l a) (h2:aw T c n env m b) (h3:aw T c n env r d) (hm:lastMarks [iC op,iC tE] [m,r]=Fk):
  aw T c n env (.Compare l [iC op,iC tE] [m,r] pos) (.nX op tE a b d):=by
 intro ρ σ s A en L Q X Q' E' H wp kq kx
 refine Compare_chain (h1 H wp (λva ua aU aT s1 P1 r1 w1=>chain_link (h2 (H.step P1) w1 (λvb ub lN aV s2 P2 r2 w2=> ?_) (kx.step P1))) kx) hm
 haveI eP:=P1.trans P2
 refine bI w2 λq e w2=>mj P2.rel (P2.val P1.rel r1) r2 e H.qm λtk=>ZX ?_
 clear e P2 w1 r1 P1 s1 aT
 cases q with
 | true=>
  simp only [if_true] at w2 ⊢
  have sD:=eP.tok tk
  refine chain_last (h3 (H.step sD) w2 (λvd ud sL dq s3 P3 r3 w3=> ?_) (kx.step sD))
  exact bI w3 λq' e' w3=>mj P3.rel (P3.val sD.rel r2) r3 e' H.qm λtk=>kq _ _ _ _ _ ((sD.trans P3).tok tk) (by rfl) w3
 | false=>
  simp only [ZE,if_false] at w2 ⊢
  exact kq _ _ _ _ _ (eP.tok tk) (by rfl) w2
theorem vA {l:Xq} {m:Xq} {r:Xq} {d:Ex} {pos} (h1:aw T c n env l a) (h2:aw T c n env m b) (h3:aw T c n env r d) (hm:lastMarks [iC op,iC tE] [m,r]=Fk):
  iR T c n env (.Compare l [iC op,iC tE] [m,r] pos) (.nX op tE a b d):=by
 intro ρ σ s A en L Q X Q' E' H wp kq kx
 change ba c a (So op tE (ba c b) (ba c d) (λv σ=>sF v λr=>Q r σ) X en) X en σ at wp
 refine isTrue_chain (h1 H wp (λva ua aU aT s1 P1 r1 w1=>test_link (h2 (H.step P1) w1 (λvb ub lN aV s2 P2 r2 w2=> ?_) (kx.step P1))) kx) hm
 haveI eP:=P1.trans P2
 refine bI w2 λq e w2=>mj P2.rel (P2.val P1.rel r1) r2 e H.qm λtk=>ZX ?_
 clear e P2 w1 r1 P1 s1 aT
 cases q with
 | true=>
  simp only [if_true] at w2 ⊢
  have sD:=eP.tok tk
  refine test_last (h3 (H.step sD) w2 (λvd ud sL dq s3 P3 r3 w3=> ?_) (kx.step sD))
  exact bI w3 λq' e' w3=>mj P3.rel (P3.val sD.rel r2) r3 e' H.qm λtk=>ZX (kq _ _ _ _ ((sD.trans P3).tok tk) w3)
 | false=>
  simp only [ZE,if_false] at w2 ⊢
  exact kq _ _ _ _ (eP.tok tk) w2
end
set_option tactic.hygienic true in
theorem bc.items (R:bc T ρ σ s.heap) (e:aQ σ v=js l) (r:aq ρ s.heap v u):
  ∃a xs k t,u=.ref a/\(t= "list"∨t= "tuple")/\s.heap.get? a=js {cls:=.type t,data:=.seq xs k}/\ai ρ s.heap l xs.toList/\l.length<=bf:=by
 revert r
 refine xv e (λr=> ?_) (λr=> ?_) λm t e r=> ?_
 ·exact jj r λa xs n q e f z r=>⟨a,xs,n,_,q,.inr rfl,e,r,z⟩
 ·exact jj r λa xs n q e f z r=>⟨a,xs,n,_,q,.inl rfl,e,r,z⟩
 ·exact jj (R.list e r) λa xs k q1 _ g r z=>⟨a,xs,k,_,q1,.inl rfl,g,r,z⟩
noncomputable def H7 (k:Nat) (e:Xq):Bool:=Nat.beq e.ctorIdx k
noncomputable def dc (e:Xq):Bool:=!H7 26 e
set_option tactic.hygienic true in
theorem bc.lists (R:bc T ρ σ s.heap) (e:ez σ v=js l) (r:aq ρ s.heap v u):
  ∃a xs k,u=.ref a/\s.heap.get? a=js {cls:=.type "list",data:=.seq xs k}/\ai ρ s.heap l xs.toList/\l.length<=bf:=by
 revert r
 refine HH e (λr=> ?_) λm t e r=> ?_
 ·exact jj r λa xs n q e f z r=>yO a xs n q e r z
 ·exact jj (R.list e r) λa xs k q1 _ g r z=>yO a xs k q1 g r z
theorem eQ {i:Xq} (h:dc i=vk) (o k):subscripted i Fk o k=operate [o,k] (getItem o k):=by
 cases i <;> first | rfl | exact dy h
theorem rE {k:Int} {p:Nat} (h:place k n=js p) (a:0<=k->k < 2^63->p=k.toNat->G) (b:k < 0->-(n:Int)<=k->-(2^63)<=k->p=(k+n).toNat->G):G:=by
 unfold place at h
 split at h
 ·split at h
  ·exact a ‹_› (am7 ‹_› (by decide)) (vo h).symm
  ·exact aI h
 ·split at h
  ·rename_i h0 h1; exact b (Int.not_le.mp h0) h1.1 (Int.le_trans (by decide) h1.2) (vo h).symm
  ·exact aI h
@[elab_as_elim] theorem H8 {G:V->Prop} (e:H9 v=js i) (a:G (.int i)):G v:=by
 cases v with
 | int k=>exact vo e▸a
 | _=>exact aI e
set_option tactic.hygienic true in
theorem Hu {i:V} {u:V} (R:bc T ρ σ s.heap) (ra:aq ρ s.heap v uv) (rb:aq ρ s.heap i ui) (wp:Ew σ v i=js u) (hs:dc slice=vk)
  (q:∀x,aq ρ s.heap u x->Q' x s):IQ (Hj T.prog T.w) A (subscriptTail value slice uv ui) Q' E' s:=by
 refine ag (Zt.mp wp) λk ek w2=> ?_
 revert rb
 refine H8 ek λrb=>jI rb λt=>ag (Zt.mp w2) λl e w3=>ag (Zt.mp w3) λp hp hl=> ?_
 obtain ⟨a,xs,kk,ty,q1,ht,g,r,z⟩:=(R.items e ra)
 subst q1
 refine ag (r.get p u hl) λx hx rx=> ?_
 have yR:=(Array.getElem?_toList ..).symm.trans hx
 have c8:xs.size=l.length:=r.length
 rw [l8,<-c8] at hp
 refine as4 ht (λht=> ?_) λht=> ?_
 ·subst ht
  have hL:s.heap.IsList a xs:=⟨_,g,rfl,kk,rfl⟩
  refine az4 hL.typeIs slot_list_getitem.lookup ?_ (eQ hs _ _)
  exact rE hp (λh0 h1 e=>wpAny_getItem_list hL h0 h1 (e▸yR) (q x rx)) λh0 h1 h2 e=>wpAny_getItem_list_neg hL h0 h1 h2 (e▸yR) (q x rx)
 ·subst ht
  refine az4 (az _ g rfl) F.slot_tuple_getitem.lookup ?_ (eQ hs _ _)
  exact rE hp (λh0 h1 e=>P.getItem_tuple g (Int.le_trans (by decide) h0) h1 (seqIndex_of h0 ((Int.toNat_lt h0).mp (e▸(ZL.mp yR).1))) (e▸yR) (q x rx)) λh0 h1 h2 e=>P.getItem_tuple g h2 (am7 h0 (by decide)) (seqIndex_neg h0 h1) (e▸yR) (q x rx)
theorem Dz {pos} {b:Ex} (h1:aw T c n env value a) (h2:aw T c n env slice b) (hs:dc slice=vk):aw T c n env (.Subscript value slice pos) (.idx a b):=by
 intro ρ σ s A en L Q X Q' E' H wp kq kx
 refine aj1 (h1 H wp (λva ua aU aT s1 P1 r1 w1=>h2 (H.step P1) w1 (λvb ub lN aV s2 P2 r2 w2=> ?_) (kx.step P1)) kx)
 exact bI w2 λu e w2=>Hu P2.rel (P2.val P1.rel r1) r2 e hs λx rx=>kq _ _ _ _ _ (P1.trans P2) rx w2
theorem fe.find (T:Cx) (inj:∀a b,T.nm a=T.nm b->a=b) (a:Nat):∀{fs:List (Nat×V)} {es:List ad0},fe T ρ h fs es->
  (match fs.lookup a with | some v=>∃u,getL (T.nm a) es=js (js u)/\aq ρ h v u | none=>getL (T.nm a) es=js vd)
 | [],es,r=>by obtain rfl:=r.symm; rfl
 | (c,v)::fs,es,r=>by
  refine ax λG_ ae=> ?_
  obtain ⟨e,es,q1,⟨t,k⟩,rv,r⟩:=r
  subst q1
  refine ae ?_
  by_cases hc:a=c
  ·subst hc
   have:ak4 a ((a,v)::fs)=js v:=by simp
   refine af this <| az e.val ?_ rv
   unfold getL
   rw [ah6,k]
   simp [ao8]
  ·have h1:ak4 a ((c,v)::fs)=fs.lookup a:=by simp only [Zh,show (a==c)=Fk from by simpa using hc]
   have h2:e.key.isStr (T.nm a)=Fk:=by
    refine af k ?_
    unfold ao8
    rw [beq_eq_false_iff_ne]
    exact λz=>hc (inj _ _ z.symm)
   have h3:e.refKey=Fk:=by unfold av4; exact af k rfl
   haveI h4:getL (T.nm a) (e::es)=getL (T.nm a) es:=by
    unfold getL
    rw [ah6,h2,aA8,h3,Bool.false_or]
   exact af h1 <| af h4 <| (fe.find T inj a r)
theorem bc.inst (R:bc T ρ σ s.heap) (e:σ[n]? =js (.inst k fs)) {p:Nj×Nj} (hp:ρ.o[n]? =js p):
  ∃es m,InstAt s.heap p.1 (ak3 (T.cY k) p.2) (T.cY k) (js (ad4 es m))/\fe T ρ s.heap fs es/\T.gX k=vk/\(∀q∈fs,T.fieldOf k q.1=vk)/\p.1 ≠ p.2:=by
 refine ax λG_ ae=> ?_
 obtain ⟨z,k1,k2,g,es,m,g',f⟩:=R.obj n _ p e hp
 exact ae <| Em es m ⟨g,rfl,rfl,g'⟩ f k1 k2 z
set_option tactic.hygienic true in
theorem jy {u:V} {a:Nat} (R:bc T ρ σ s.heap) (ra:aq ρ s.heap v uv) (wp:fld σ v a=js u)
  (q:∀x tk,aq ρ s.heap u x->Q' x {s with toks:=tk}):IQ (Hj T.prog T.w) A (getAttr uv (T.nm a) expr) Q' E' s:=by
 revert ra
 refine Md wp λn k fs e wp ra=>Hg ra λp hp=>ax λG_ ae=>uy (R.inst e hp) λes m I f k1 k2 _=> ?_
 haveI hf:=f.find T R.ok.jS a
 rw [wp] at hf
 obtain ⟨x,hx,rx⟩:=hf
 haveI X:=R.ok.PM.keeps R.base
 haveI ha:=R.ok.fld k a (k2 (a,u) (vY wp))
 refine ae <| si (R.ok.cls k k1) λc1 c2 c3 c4=>get_value X I (ax4 c1).1 (findObj_own c2 ha rfl (by simp only [ax5]; exact hx)) ?_ (q x _ rx)
 clear c4 c3 c2 c1 ha X hx k2 k1 f I m es ae G_ hp q
 cases u with
 | none=>subst rx; rfl
 | bool b=>subst rx; rfl
 | int b=>obtain ⟨t,rfl⟩:=rx; rfl
 | str b=>obtain ⟨t,rfl⟩:=rx; rfl
 | tup l=>refine mE rx λa xs n q2 _=> ?_; subst q2; rfl
 | lst l=>refine mE rx λa xs n q3 _=> ?_; subst q3; rfl
 | iy=>refine bV rx λa n q4 _=> ?_; subst q4; rfl
 | ref n=>refine ag rx λp _ q5=> ?_; subst q5; rfl
noncomputable def cP:Xq->Bool
 | .Call (.Name _ _) [] [] _=>Fk
 | _=>vk
theorem cZ (h:cP value=vk) attr env whole:al1 value attr env whole=whole:=by
 cases value with
 | Call f as ks pos=>
  cases f with
  | Name x p=>
   cases as with
   | nil=>
    cases ks with
    | nil=>exact dy h
    | cons=>rfl
   | cons=>rfl
  | _=>rfl
 | _=>rfl
theorem Aw {a:Nat} {pos} {e:Ex} (h1:aw T c n env value e) (hb:cP value=vk) (hy:T.nm a=y):aw T c n env (.Attribute value y pos) (.attr e a):=by
 intro ρ σ s A en L Q X Q' E' H wp kq kx
 refine Attribute_any_ (h1 H wp (λva ua aU aT s1 P1 r1 w1=> ?_) kx) ?_
 ·exact bI w1 λu e w1=>hy▸(jy P1.rel r1 e λx tk rx=>kq _ _ _ _ _ (P1.tok tk) rx w1)
 ·refine (?_:(do let o<-al1 value y env (ac2 value env); _)=_)
  rw [cZ hb]
end
noncomputable def ay (e:Xq):Bool:=!H7 22 e
theorem bE (h:ay e=vk):Z' (e::es) env=(Fk,ac2 e env)::Z' es env:=by
 cases e <;> first | rfl | exact dy h
theorem bv:∀{es},es.all ay=vk->(ah5 pos (Z' es env)).any (·.1)=Fk
 | [],_=>rfl
 | e::es,h=>by
  rw [ab0,ZV] at h
  refine af (bE h.1) ?_
  show (Fk || (ah5 pos (Z' es env)).any (·.1))=Fk
  refine af (bv h.2) ?_; rfl
section
variable {E:vi->FF->Prop}
theorem dY {f:vi} {Q:Args->FF->Prop}:∀{es},es.all ay=vk->IQ M A (spliced (ah5 pos (Z' es env))) (λvs s'=>Q ⟨vs,[]⟩ s') E s->IQ M A (evalArgs f vk (ah5 pos (Z' es env)) []) Q E s
 | [],_,h=>by
  refine j' (ZJ h (λvs s' h'=> ?_) λo_ o_ x=>x)
  refine j' (yd ?_)
  exact N6 <| wpAny_bind (yd (j' (yd (yd h'))))
 | e::es,hs,h=>by
  rw [ab0,ZV] at hs
  rw [bE hs.1] at h ⊢
  exact evalArgs_plain h
end
section
theorem bc.K (R:bc T ρ σ h):T.K.In h:=R.ok.PM.keeps R.base
theorem cS {x:Zu} {v:vi} (H:dm T n ρ σ s A env en L) (hx:env.kindOf x=js .globalImplicit) (hv:T.names.lookup x=js v) (hd:(x==("__debug__":Zu))=Fk) (q:Q' v s):
  IQ (Hj T.prog T.w) A (ac2 (.Name x pos) env) Q' E' s:=ag H.env λm E o_=>ao9 E.kind hx (H.rel.ok.glob x v hv H.rel.base E.globals E.builtins q) hd
structure ce (T:Cx) (env:Env) (x:Zu) (v:vi) (es:List Xq):Prop where
 kind:env.kindOf x=js .globalImplicit
 val:T.names.lookup x=js v
 qZ:(x==("__debug__":Zu))=Fk
 plain:es.all ay=vk
theorem lH {x:Zu} {Q:List V->St->Prop} {id} (g:ce T env x (.builtin id) es) (h:bN T c n env es cy) (H:dm T n ρ σ s A env en L) (wp:kL c cy Q X en σ)
  (k:∀vs us am aa s',aj T W0 ρ s am aa s'->ai am s'.heap vs us->Q vs aa->IQ (Hj T.prog T.w) A (call (.builtin id) us) Q' E' s') (kx:KX T W0 ρ s L X E'):
  IQ (Hj T.prog T.w) A (ac2 (.Call (.Name x p) es [] pos) env) Q' E' s:=by
 refine ag4 rfl (cS H g.kind g.val g.qZ ?_)
 refine am1 (bv g.plain) (dY g.plain (h H wp (λvs us am aa s' P r o_ q=> ?_) kx))
 exact k vs us am aa s' P r q
theorem eC {x:Zu} {Q:List V->St->Prop} {id} (g:ce T env x (.type id) es) (h:bN T c n env es cy) (H:dm T n ρ σ s A env en L) (wp:kL c cy Q X en σ)
  (k:∀vs us am aa s',aj T W0 ρ s am aa s'->ai am s'.heap vs us->Q vs aa->IQ (Hj T.prog T.w) A (call (.type id) us) Q' E' s') (kx:KX T W0 ρ s L X E'):
  IQ (Hj T.prog T.w) A (ac2 (.Call (.Name x p) es [] pos) env) Q' E' s:=by
 refine ag4 rfl (cS H g.kind g.val g.qZ ?_)
 refine PyProof.Rows.callWith_type (bv g.plain) (dY g.plain (h H wp (λvs us am aa s' P r o_ q=> ?_) kx))
 exact k vs us am aa s' P r q
theorem G6 (r:ai ρ h [v] us):∃u,us=[u]/\aq ρ h v u:=by
 obtain ⟨u,us,rfl,r,rfl⟩:=r
 exact az u rfl r
theorem lR (r:ai ρ h [v,v'] us):∃u u',us=[u,u']/\aq ρ h v u/\aq ρ h v' u':=by
 obtain ⟨u,us,rfl,r,u',I5,rfl,r',rfl⟩:=r
 exact bP u u' rfl r r'
def mL (Q:V->V->St->Prop):List V->St->Prop
 | [a,b]=>λσ=>Q a b σ
 | _=>λo_=>False
def one (Q:V->St->Prop):List V->St->Prop
 | [a]=>λσ=>Q a σ
 | _=>λo_=>False
theorem gH {e:Ex}:kL c (.cons e .nil) (one Q) X en σ↔ba c e Q X en σ:=Iff.rfl
theorem oA {Q:V->V->St->Prop}:kL c (.cons a (.cons b .nil)) (mL Q) X en σ↔ba c a (λva σ=>ba c b (λvb σ=>Q va vb σ) X en σ) X en σ:=Iff.rfl
theorem Hw {vs:List V} (h:one Q vs σ):∃v,vs=[v]/\Q v σ:=by
 match vs,h with
 | [v],h=>exact az v rfl h
@[elab_as_elim] theorem pW {vs:List V} {G:List vi->Prop} (w:one Q vs σ) (r:ai ρ h vs us) (f:∀v u,Q v σ->aq ρ h v u->G [u]):G us:=by
 obtain ⟨v,rfl,q⟩:=Hw w
 obtain ⟨u,rfl,r2⟩:=G6 r
 exact f v u q r2
theorem oz {Q:V->V->St->Prop} {vs:List V} (h:mL Q vs σ):∃v v',vs=[v,v']/\Q v v' σ:=by
 match vs,h with
 | [v,v'],h=>exact dh v v' rfl h
theorem km (h:i.natAbs < 1000000):i.natAbs.log2 < 1920:=by
 by_cases z:i.natAbs=0
 ·refine af z ?_; decide
 ·rw [ao5 z]
  exact as2 h <| Nat.lt_of_lt_of_le (show 1000000 < 2^20 by decide) (Nat.pow_le_pow_right (by decide) (by decide))
variable {x:Zu}
theorem Dw {e:Ex} (g:ce T env x (.builtin "len") es) (h:bN T c n env es (.cons e .nil)):aw T c n env (.Call (.Name x p) es [] pos) (.len e):=by
 intro ρ σ s A en L Q X Q' E' H wp kq kx
 refine lH g h H (gH.mpr wp) (λvs us aU aT s1 P1 r1 w1=> ?_) kx
 refine pW w1 r1 λv u w2 q1=>bI w2 λk e w3=>ag (Ou.mp e) λl e' q4=> ?_
 subst q4
 refine BW (P1.rel.lists e' q1) λa xs kk q5 g r z=>af q5 ?_
 haveI c8:xs.size=l.length:=r.length
 unfold bf at z
 exact call_len_list ⟨_,g,rfl,kk,rfl⟩ (Y2 [_,_] [] (.T (.c V0) (.n 9223372036854775808)) (.l V1 (.n 100000)) (.e V0 V1) z c8 rfl) <| c8▸(kq _ _ _ _ _ (P1.tok _) (gA.mpr ⟨_,rfl⟩) w3)
theorem Dv (g:ce T env x (.builtin "max") es) (h:bN T c n env es (.cons a (.cons b .nil))):aw T c n env (.Call (.Name x p) es [] pos) (.max2 a b):=by
 intro ρ σ s A en L Q X Q' E' H wp kq kx
 refine lH g h H (oA.mpr wp) (λvs us aU aT s1 P1 r1 w1=> ?_) kx
 refine bV (oz w1) λv v' q3 w2=> ?_
 subst q3
 refine bp (lR r1) λu u' q4 q1 q2=>af q4 <| gK w2 q1 λi t w3=>gK w3 q2 λj t' w4=>bV H.mK λo_ o_ ao o_=>max_two_ints ao.hd λh' tk hk=>kq _ _ _ _ _ (P1.grow hk tk) ?_ w4
 by_cases z:j > i
 ·rw [if_pos z,am2 (ad1 ‹_›)]; exact ⟨_,rfl⟩
 ·rw [if_neg z,Int.max_eq_left (by exact Y1 [] [_,_] (.L V0 V1) (.o (.T V1 V0)) z rfl)]; exact ⟨_,rfl⟩
theorem Du (g:ce T env x (.builtin "min") es) (h:bN T c n env es (.cons a (.cons b .nil))):aw T c n env (.Call (.Name x p) es [] pos) (.min2 a b):=by
 intro ρ σ s A en L Q X Q' E' H wp kq kx
 refine lH g h H (oA.mpr wp) (λvs us aU aT s1 P1 r1 w1=> ?_) kx
 refine bV (oz w1) λv v' q3 w2=> ?_
 subst q3
 refine bp (lR r1) λu u' q4 q1 q2=>af q4 <| gK w2 q1 λi t w3=>gK w3 q2 λj t' w4=>bV H.mK λo_ o_ ao o_=>min_two_ints ao.hd λh' tk hk=>kq _ _ _ _ _ (P1.grow hk tk) ?_ w4
 by_cases z:j < i
 ·rw [if_pos z,Int.min_eq_right (ad1 ‹_›)]; exact ⟨_,rfl⟩
 ·rw [if_neg z,Int.min_eq_left (by exact Y1 [] [_,_] (.L V0 V1) (.o (.T V1 V0)) z rfl)]; exact ⟨_,rfl⟩
theorem DF (g:ce T env x (.builtin "abs") es) (h:bN T c n env es (.cons a .nil)):aw T c n env (.Call (.Name x p) es [] pos) (.abs a):=by
 intro ρ σ s A en L Q X Q' E' H wp kq kx
 refine lH g h H (gH.mpr wp) (λvs us aU aT s1 P1 r1 w1=> ?_) kx
 refine pW w1 r1 λv u w2 q1=>gK w2 q1 λi t w3=>call_abs_int λu tk=>kq _ _ _ _ _ (P1.tok tk) ?_ w3
 refine ⟨u,?_⟩
 congr 1
 split
 ·first | exact aj2 (ad1 ‹_›) | exact (aj2 (ad1 ‹_›)).symm | grind
 ·first | exact ah1 (az6.mp ‹_›) | exact (ah1 (az6.mp ‹_›)).symm | grind
theorem zZ (g:ce T env x (.builtin "repr") es) (h:bN T c n env es (.cons a .nil)):aw T c n env (.Call (.Name x p) es [] pos) (.repr a):=by
 intro ρ σ s A en L Q X Q' E' H wp kq kx
 change ba c a (xq Q) X en σ at wp
 refine lH g h H (gH.mpr wp) (λvs us aU aT s1 P1 r1 w1=> ?_) kx
 refine pW w1 r1 λv u w2 q1=>bI w2 λy e w3=> ?_
 cases v with
 | none=>obtain rfl:=vo e; obtain rfl:=q1.symm; exact P.repr_of_none (kq _ _ _ _ _ (P1.tok _) (iU.mpr ⟨_,rfl⟩) w3)
 | bool b=>
  subst q1
  obtain rfl:=vo e
  refine P.repr_of_bool (kq _ _ _ _ _ (P1.tok _) (iU.mpr ⟨s1.toks,?_⟩) w3)
  cases b <;> rfl
 | int i=>
  refine jI q1 λt=> ?_
  by_cases z:i.natAbs < 1000000
  ·obtain rfl:=se (if_pos z) e
   exact P.repr_of_int (km z) (kq _ _ _ _ _ (P1.tok _) (iU.mpr ⟨_,rfl⟩) w3)
  ·exact fy (if_neg z) e
 | str y=>
  refine rn q1 λt=> ?_
  by_cases z:y= "a"
  ·obtain rfl:=se (if_pos z) e
   exact af z <| P.repr_of_str (kq _ _ _ _ _ (P1.tok _) (iU.mpr ⟨s1.toks,congrArg (Value.str · s1.toks) (by decide+kernel)⟩) w3) (by decide+kernel)
  ·exact fy (if_neg z) e
 | tup l=>exact aI e
 | lst l=>exact aI e
 | iy=>exact aI e
 | ref n=>exact aI e
theorem yj (g:ce T env x (.type "str") es) (h:bN T c n env es (.cons a .nil)):aw T c n env (.Call (.Name x p) es [] pos) (.toStr a):=by
 intro ρ σ s A en L Q X Q' E' H wp kq kx
 refine eC g h H (gH.mpr wp) (λvs us aU aT s1 P1 r1 w1=> ?_) kx
 exact pW w1 r1 λv u w2 q1=>gK w2 q1 λi t w3=>P.str_of_int (km w3.1) (kq _ _ _ _ _ (P1.tok _) (iU.mpr ⟨_,rfl⟩) w3.2)
theorem yk (g:ce T env x (.type "int") es) (h:bN T c n env es (.cons a .nil)):aw T c n env (.Call (.Name x p) es [] pos) (.toInt a):=by
 intro ρ σ s A en L Q X Q' E' H wp kq kx
 refine eC g h H (gH.mpr wp) (λvs us aU aT s1 P1 r1 w1=> ?_) kx
 exact pW w1 r1 λv u w2 q1=>uI w2 q1 λi w3=>call_int_bool (kq _ _ _ _ _ (P1.tok _) (gA.mpr ⟨_,rfl⟩) w3)
theorem aj.qB (R:bc T ρ σ s.heap) (g:Grows s.heap h') (e:h'.get? s.heap.objs.size=js {cls:=.type "list",data:=.seq xs k}) (r:ai ρ s.heap l xs.toList) (z:l.length<=bf):
  (aj T W0 ρ s ρ σ {s with heap:=h'}/\aq ρ h' (.lst l) (.ref s.heap.objs.size))/\
  ∀t,aj T W0 ρ s (ρ.add (s.heap.objs.size,s.heap.objs.size)) (σ++ [.list t l]) {s with heap:=h'}/\aq (ρ.add (s.heap.objs.size,s.heap.objs.size)) h' (.ref σ.length) (.ref s.heap.objs.size):=by
 refine ⟨⟨(aj.refl R).grow g s.toks,?_⟩,λt=> ?_⟩
 ·exact qa _ xs k rfl e (R.pi (aK _)) z (r.grows g R)
 ·haveI n1:=aK s.heap
  haveI X:dZ T W0 ρ s.heap (ρ.add (s.heap.objs.size,s.heap.objs.size)) h':=
   ⟨(bP ([_]) ([]) rfl (λq hq=>by simp at hq; refine af hq ?_; exact ⟨n1,n1⟩) (of_decide_eq_true rfl)),λb o e o_ o_ o_=>(az o.slots (g b o e) (λo_=>rfl)),λb o e=>⟨o,g b o e⟩⟩
  haveI N:=R.new g (o:=.list t l) (p:=(s.heap.objs.size,s.heap.objs.size)) n1 n1 R.zh ⟨rfl,xs,k,e,ai.ext X R.aF (d4.zero _) _ r,z⟩
  refine ⟨⟨N.1,N.2,rfl,rfl⟩,?_⟩
  refine az (s.heap.objs.size,s.heap.objs.size) (?_) rfl
  refine (?_:(ρ.o++ [_])[σ.length]? =_)
  refine bD R.len ?_; simp
theorem Ao {m:Option Nat} (g:ce T env x (.type "list") es) (h:bN T c n env es (.cons a .nil)):aw T c n env (.Call (.Name x p) es [] pos) (.copy m a):=by
 intro ρ σ s A en L Q X Q' E' H wp kq kx
 change ba c a (xt m Q) X en σ at wp
 refine eC g h H (gH.mpr wp) (λvs us aU aT s1 P1 r1 w1=> ?_) kx
 refine pW w1 r1 λv u w2 q1=> ?_
 refine bI w2 λl e w3=> ?_
 refine BW (P1.rel.lists e q1) λb xs kk q4 g r z=> ?_
 refine af q4 ?_
 haveI c8:xs.size=l.length:=r.length
 refine call_list_seq b (.inl rfl) g rfl rfl (λh' c' hk hD=> ?_) (by simp only [c8,Zs]; unfold bf at z; exact Y1 [_] [] (.l V0 (.n 16777216)) (.l V0 (.n 100000)) z rfl)
 obtain ⟨⟨p1,p2⟩,p3⟩:=aj.qB P1.rel (l:=l) hk hD r z
 cases m with
 | none=>exact kq _ _ _ _ _ (P1.trans p1) p2 w3
 | some t=>exact kq _ _ _ _ _ (P1.trans (p3 t).1) (p3 t).2 w3
set_option tactic.hygienic true in
theorem Hs {kv:vi} {b:Bool} (R:bc T ρ σ s.heap) (r:aq ρ s.heap v u) (hk:T.kinds.lookup k=js kv) (e:jd σ v k=js b) (q:∀tk,Q' (.bool b) {s with toks:=tk}):
  IQ (Hj T.prog T.w) A (call (.builtin "isinstance") [u,kv]) Q' E' s:=by
 cases v with
 | none=>
  obtain rfl:=r.symm
  obtain rfl:=vo e
  exact az0 kitx_none R.K trivial (gV R.ok.KV hk) (by decide) q
 | bool b=>
  subst r
  obtain rfl:=vo e
  exact az0 kitx_bool R.K trivial (gV R.ok.KZ hk) (of_decide_eq_true rfl) q
 | int i=>
  refine jI r λt=> ?_
  obtain rfl:=vo e
  exact az0 kitx_int R.K trivial (gV R.ok.KW hk) (of_decide_eq_true rfl) q
 | str i=>
  refine rn r λt=> ?_
  obtain rfl:=vo e
  exact az0 kitx_str R.K trivial (gV R.ok.KR hk) (of_decide_eq_true rfl) q
 | tup l=>exact aI e
 | lst l=>exact aI e
 | iy=>exact aI e
 | ref m=>
  refine instO_e e λcc fs e0 e=> ?_
  obtain rfl:=vo e
  refine ag r λp hp q1=> ?_
  clear r
  subst q1
  refine nS (R.inst e0 hp) λes k' I _ k1 _=> ?_
  obtain ⟨c1,c2,c3,c4,c5,c6⟩:=(R.ok.KP cc k1)
  exact az0 (kitx_own c1 c2 c3 c4 c5 c6) R.K I (gV (R.ok.KY cc k1) hk) (of_decide_eq_true rfl) q
theorem vx {kv:vi} (g:ce T env x (.builtin "isinstance") [e,.Name y p']) (g':ce T env y kv []) (hk:T.kinds.lookup k=js kv) (h:aw T c n env e a):
  aw T c n env (.Call (.Name x p) [e,.Name y p'] [] pos) (.bt a k):=by
 intro ρ σ s A en L Q X Q' E' H wp kq kx
 refine ag4 rfl (cS H g.kind g.val g.qZ ?_)
 refine am1 (bv g.plain) (dY g.plain ?_)
 haveI hp:=g.plain
 rw [ab0,ZV] at hp
 refine aa3 (h H wp (λv u aU aT s1 P1 r1 w1=> ?_) kx) (bE hp.1)
 refine aa3 (cS (H.step P1) g'.kind g'.val g'.qZ ?_) (bE rfl)
 exact ae3 <| bI w1 λb e w2=>Hs P1.rel r1 hk e λtk=>kq _ _ _ _ _ (P1.tok tk) (by rfl) w2
end
structure fv (T:Cx) (c:Cc) (n:Nat):Prop where
 call:∀{f:Nat} {vs:List V} {Q X:V->St->Prop} {σ:St},c.call f vs Q X σ->IZ T n f vs Q X σ
 aD:c.aD=T.aD
 init:c.init=T.init
 field:c.field=T.fieldOf
 f':∀{g:Nat} {x:Zu} {v:V},c.f' g x=js v->T.y9 g x=js (js v)
 fq:∀{g:Nat} {x:Zu} {v:V},c.fq g x=js v->∃r,T.y9 g x=js r/\v=r.getD (.tup [])
section
theorem dm.xJ (H:dm T n ρ σ s A env en L):bC s.heap L:=by
 refine bV H.mK λbh outer a Gp=> ?_
 obtain ⟨o_,L',e,o_,f⟩:=a.sH bh (.head _)
 refine af (se Gp e) ?_; exact f
theorem oy {vs:List V} (hc:IZ T n f vs Q X σ) (H:dm T n ρ σ s A env en L) (r:ai ρ s.heap vs us) (kq:KQ T W0 ρ s Q Q') (kx:KX T W0 ρ s L X E'):
  IQ (Hj T.prog T.w) A (call (.ref (T.sI f)) us) Q' E' s:=by
 refine bV H.mK λbh outer a Gp=>ae6 (hc ρ s A (bh::outer) us _ H.rel a r (λv u am aa s' P r q=>kq v u am aa s' P r q) (λth e am aa s' P x q=>kx th e am aa s' P (dm.xJ (H.step P)) ?_ q))
 exact x.mono (λh=>h.elim) (λv h=>trivial)
theorem At {x:Zu} (C:fv T c n) (g:ce T env x (.ref (T.sI f)) es) (hf:T.isFn f=vk) (h:bN T c n env es cy):aw T c n env (.Call (.Name x p) es [] pos) (.call f cy):=by
 intro ρ σ s A en L Q X Q' E' H wp kq kx
 refine ag4 rfl (cS H g.kind g.val g.qZ ?_)
 refine ak5 (by refine af (bv g.plain) ?_; rfl) (at0 (H.rel.ok.keep f hf)) (dY g.plain (h H wp (λvs us am aa s' P r o_ q=>⟨P.rel.K,?_⟩) kx))
 exact oy (C.call q) (H.step P) r (kq.step P) (kx.step P)
theorem mcp {few:Bool} (hl:(apos.endLine==pos.line)=vk):methodCallPos few o env apos pos=pure pos:=if_pos (by rw [hl,am9])
theorem aR (hl:(apos.endLine==pos.line)=vk) (hp:args.all ay=vk) (hn:args.length < 30) (hb:cP o=vk):
  ac2 (.Call (.Attribute o name apos) args [] pos) env=(do
   let ov<-ac2 o env
   am5 apos.atName
   let (f,first)<-am6 [ov] (getMethod ov name (do return (<-importBound o env).getD vk))
   callWith pos f first (ah5 pos (Z' args env)) []):=by
 show (do
  let ov<-al1 o name env (ac2 o env)
  am5 apos.atName
  methodCall o name apos pos env ov (args.length+0) (ah5 pos (Z' args env)) [])=_
 simp only [cZ hb]
 haveI hf:methodCallForm (args.length+0) (ah5 pos (Z' args env)) []=vk:=by
  unfold methodCallForm
  haveI h1:(ah5 pos (Z' args env)).all (!·.1)=vk:=by
   have:=bv (pos:=pos) (env:=env) hp
   rw [List.any_eq_false] at this
   rw [aa4]
   intro x hx
   have:=this x hx
   simpa using this
  refine af h1 ?_
  simp only [List.all_nil,aA6,List.isEmpty_nil,if_true,Nat.add_zero,decide_eq_true_eq]
  exact hn
 unfold methodCall calleeOf
 refine af hf ?_
 simp only [mcp hl,if_true,pure_bind]
set_option tactic.hygienic true in
theorem Ac {x:Zu} {m:Nat} (C:fv T c n) (ho:aw T c n env o me) (hx:T.nm m=x) (hp:es.all ay=vk) (h:bN T c n env es cy)
  (hl:(apos.endLine==pos.line)=vk) (hn:es.length < 30) (hb:cP o=vk):aw T c n env (.Call (.Attribute o x apos) es [] pos) (.aD me m cy):=by
 intro ρ σ s A en L Q X Q' E' H wp kq kx
 refine aa2 (ho H wp (λv u aU aT s1 P1 r1 w1=> ?_) kx) (aR hl hp hn hb)
 refine bI w1 λf e w1=> ?_
 cases v with
 | ref k=>
  refine instO_e e λcc fs e0 e=> ?_
  rw [C.aD] at e
  refine ax λG_ ae=>ag r1 λq hq q1=> ?_
  subst q1
  refine uy (P1.rel.inst e0 hq) λsf m' I fr k1 k2 _=>ES (P1.rel.ok.meths cc m f k1 e) λg1 g2 g3 g4 g5=>ae ?_
  haveI at8:fs.lookup m=vd:=by
   cases z:fs.lookup m with
   | none=>rfl
   | some y=>
    have:∀{l:List (Nat×V)},l.lookup m=js y->(m,y)∈l:=by
     intro l
     induction l with
     | nil=>intro h; simp at h
     | cons y' l ih=>
      intro h
      obtain ⟨y1,y2⟩:=y'
      rw [Zh] at h
      by_cases hy:m=y1
      ·subst hy; simp at h; refine bD h.symm ?_; exact .head _
      ·rw [show (m==y1)=Fk from by simpa using hy] at h; exact .tail _ (ih h)
    exact RZ (k2 _ (this z)) g4
  haveI hf:=fr.find T P1.rel.ok.jS m
  rw [at8] at hf
  refine (hx▸?_)
  refine method_fn P1.rel.K I (ax4 g1).1 (ax4 g1).2 g2 (beq_iff_eq.mp g3) (by show (lookIn _ (ad4 sf m')).map _=_; simp only [ax5,hf]; rfl) <| callWith_of (by refine af (bv hp) ?_; rfl) (at0 (P1.rel.ok.keep f g5)) (dY hp (h (H.step P1) w1 (λvs us lN aV s2 P2 r2 _ w2=>⟨P2.rel.K,?_⟩) (kx.step P1)))
  refine oy (C.call w2) (H.step (P1.trans P2)) ?_ (kq.step (P1.trans P2)) (kx.step (P1.trans P2))
  exact bP _ _ rfl (P2.val P1.rel r1) r2
 | _=>exact aI e
theorem yH (R:bc T ρ σ s.heap) (hk:T.gX k=vk):aj T W0 ρ s (ρ.add (s.heap.objs.size+1,s.heap.objs.size)) (σ++ [.inst k []]) {s with heap:=(s.heap.push Z6).push (ak3 (T.cY k) s.heap.objs.size)}/\
  aq (ρ.add (s.heap.objs.size+1,s.heap.objs.size)) ((s.heap.push Z6).push (ak3 (T.cY k) s.heap.objs.size)) (.ref σ.length) (.ref (s.heap.objs.size+1)):=by
 haveI n2:s.heap.get? (s.heap.objs.size+1)=vd:=ZD (Nat.le_succ _)
 haveI g:Grows s.heap ((s.heap.push Z6).push (ak3 (T.cY k) s.heap.objs.size)):=λo_ o_ e=>Xr _ (Xr _ e)
 haveI e1:((s.heap.push Z6).push (ak3 (T.cY k) s.heap.objs.size)).get? (s.heap.objs.size+1)=js (ak3 (T.cY k) s.heap.objs.size):=by
  have:=Q1 (o:=ak3 (T.cY k) s.heap.objs.size) (s.heap.push Z6) rfl
  rwa [ac7] at this
 haveI e2:((s.heap.push Z6).push (ak3 (T.cY k) s.heap.objs.size)).get? s.heap.objs.size=js Z6:=Xr _ (Q1 _ rfl)
 haveI N:=R.new g (o:=.inst k []) (p:=(s.heap.objs.size+1,s.heap.objs.size)) n2 (aK s.heap) ⟨af5 (Nat.lt_succ_of_lt R.Jx),af5 R.Jx⟩ ⟨by simp,hk,by simp,e1,[],0,e2,rfl⟩
 refine ⟨⟨N.1,N.2,rfl,rfl⟩,?_⟩
 refine az (s.heap.objs.size+1,s.heap.objs.size) ?_ rfl
 refine (?_:(ρ.o++ [_])[σ.length]? =_)
 refine bD R.len ?_; simp
theorem Ds {x:Zu} (C:fv T c n) (g:ce T env x (.ref (T.cY k)) es) (hk:T.gX k=vk) (h:bN T c n env es cy):aw T c n env (.Call (.Name x p) es [] pos) (.new k cy):=by
 intro ρ σ s A en L Q X Q' E' H wp kq kx
 refine ES (H.rel.ok.make k hk) λm1 m2 m3 m4 m5=>ag4 rfl (cS H g.kind g.val g.qZ ?_)
 refine ak5 (by refine af (bv g.plain) ?_; rfl) (at0 m4) (dY g.plain (h H wp (λvs us aU aT s1 P1 r1 o_ w1=>⟨P1.rel.K,?_⟩) kx))
 refine dP (yH P1.rel hk) λP2 r2=> ?_
 unfold Kw at w1; rw [C.init] at w1
 have H2:=H.step (P1.trans P2)
 refine bV H2.mK λbh outer a o_=>ae6 <| make_core (makes_of P1.rel.K m1) (af6 P1.rel.K m2) (λself=>bind_fn P1.rel.K self m3) (.inl rfl) <| C.call w1 _ _ _ (bh::outer) _ _ P2.rel ⟨a.hd,a.fr,a.sH,?_,?_⟩ ?_ (λv u am aa s' P r q=> ?_) (λth e am aa s' P y q=> ?_)
 ·have:=H.lB; show A.depth+1+5*n+10<=_; exact Y1 [_,_,_] [] (.l (.a (.a (.a V0 (.n 1)) (.m 5 V1)) (.n 10)) V2) (.l (.a (.a V0 (.m 5 V1)) (.n 12)) V2) this rfl
 ·have:=H.lO; show A.units+1+60*n+60<=_; exact Y1 [_,_,_] [] (.l (.a (.a (.a V0 (.n 1)) (.m 60 V1)) (.n 60)) V2) (.l (.a (.a V0 (.m 60 V1)) (.n 90)) V2) this rfl
 ·exact bP _ _ rfl r2 (P2.vals P1.rel r1)
 ·cases v with
  | none=>
   exact af r <| ⟨rfl,kq _ _ _ _ _ ((P1.trans P2).trans P) (P.val P2.rel r2) q⟩
  | _=>exact q.elim
 ·exact (kx.step (P1.trans P2)) _ _ _ _ _ P (dm.xJ (H2.step P)) (y.mono (λh=>h.elim) (λv h=>trivial)) q
theorem vy {x:Zu} (C:fv T c n) (g:ce T env x (.ref (T.cY k)) es) (hk:T.gX k=vk) (h:bN T c n env es cy) (hl:(apos.endLine==pos.line)=vk) (hn:es.length < 30):
  aw T c n env (.Call (.Attribute (.Name x p) "__init__" apos) es [] pos) (.gL k cy):=by
 intro ρ σ s A en L Q X Q' E' H wp kq kx
 refine iz (H.rel.ok.MI k hk) λi1 i2 i3=>ES (H.rel.ok.make k hk) λo_ o_ o_ o_ m5=>aa2 (cS H g.kind g.val g.qZ ?_) (aR hl g.plain hn rfl)
 refine method_cls H.rel.K i1 (cls_value H.rel.K i2 i3 rfl ?_)
 haveI P0:=(aj.refl (W:=W0) H.rel).tok (s.toks+1)
 refine ak5 (by refine af (bv g.plain) ?_; rfl) (at0 (H.rel.ok.keep _ m5)) (dY g.plain (h (H.step P0) wp (λvs us lN aV s2 P2 r2 o_ w2=>⟨P2.rel.K,?_⟩) (kx.step P0)))
 rw [C.init] at w2
 exact oy (C.call w2) (H.step (P0.trans P2)) r2 (kq.step (P0.trans P2)) (kx.step (P0.trans P2))
end
section
theorem jv (h:cg i=vk):∃k:Nat,i=k/\i.toNat=k:=by
 unfold cg at h
 rw [ZV,decide_eq_true_eq,decide_eq_true_eq] at h
 exact dJ (Int.eq_ofNat_of_zero_le h.1) λk q1=>af q1 <| az k rfl rfl
theorem zd (xs:Array vi) (a b:Nat):slicePick xs (js (a:Int)) (js (b:Int)) vd=((xs.toList.drop a).take (b - a)).toArray:=by
 simp only [slicePick_plain]
 simp only [aD9,clipAt_nat]
 congr 1
 rcases Nat.le_total a xs.size with h | h
 ·refine af (an8 h) ?_
  rcases Nat.le_total b xs.size with h' | h'
  ·exact af (an8 h') rfl
  ·rw [av5 h',af7 (by simp),af7 (by simp; exact Y2 [_,_,_,_] [] (.l V0 (.a V1 V2)) (.l V0 V3) (.r (.e (.a V1 V2) V3)) h' (R6 (Y2 [_,_,_] [] (.l V0 V1) (.l V0 V2) (.l V2 V1) h h' rfl)) rfl)]
 ·rw [av5 h,ZY (by simp),ZY (h)]; simp
theorem kY {vs:vi} {k:List V} {lo hi st} (R:bc T ρ σ s.heap) (e:ez σ v=js l) (ra:aq ρ s.heap v uv)
  (pl:IsPart vl lo) (pu:IsPart vu hi) (ps:IsPart vs st) (h0:st ≠ js 0) (hv:∀o i,∃ops,subscripted slice Fk o i=operate ops (getItem o i))
  (hk:∀xs,ai ρ s.heap l xs.toList->ai ρ s.heap k (slicePick xs lo hi st).toList) (hz:k.length<=l.length) (wp:Q (.lst k) σ) (kq:KQ T W ρ s Q Q'):
  IQ (Hj T.prog T.w) A (subscriptTail value slice uv (.ref s.heap.objs.size)) Q' E' {s with heap:=s.heap.push {cls:=.type "slice",data:=.fields #[vl,vu,vs]}}:=by
 refine BW (R.lists e ra) λa xs kk q1 g r z=>af q1 ?_
 haveI g0:=Grows.push s.heap {cls:=.type "slice",data:=.fields #[vl,vu,vs]}
 haveI hL:(s.heap.push {cls:=.type "slice",data:=.fields #[vl,vu,vs]}).IsList a xs:=⟨_,g0 _ _ g,rfl,kk,rfl⟩
 haveI c8:xs.size=l.length:=r.length
 refine dJ (hv (.ref a) (.ref s.heap.objs.size)) λops ho=>az4 hL.typeIs slot_list_getitem.lookup (wpAny_getItem_list_slice hL (ar1 ..) pl pu ps h0 ?_ (by simp only [c8,Zs]; unfold bf at z; exact Y1 [_] [] (.l V0 (.n 16777216)) (.l V0 (.n 100000)) z rfl)) ho
 haveI P0:aj T W ρ s ρ σ {s with heap:=s.heap.push {cls:=.type "slice",data:=.fields #[vl,vu,vs]}}:=aj.rH R g0 s.toks
 refine kq _ _ _ _ _ (P0.grow (Grows.push _ _) s.toks) (lg P0.rel ?_ (ZT ‹_› ‹_›)) wp
 exact (hk xs r).grows g0 R
theorem vt {value lo} (h1:aw T c n env value a) (h2:aw T c n env lo b):aw T c n env (.Subscript value (.Slice (js lo) vd vd p) pos) (.i6 a b):=by
 intro ρ σ s A en L Q X Q' E' H wp kq kx
 refine aj1 (h1 H wp (λva ua aU aT s1 P1 r1 w1=>ak6 (h2 (H.step P1) w1 (λvb ub lN aV s2 P2 r2 w2=>ZF (ZF ?_)) (kx.step P1))) kx)
 refine bZ (dM.mp w2) λi q1 hi w3=> ?_
 clear w2 w1 kx wp H
 subst q1
 refine bI w3 λl e w4=>jI r2 λt=>kY P2.rel e (P2.val P1.rel r1) (.int i t) .none .none (λh=>aI h) (λo i=>⟨_,rfl⟩) (λxs r=> ?_) (by simp) w4 (kq.step (P1.trans P2))
 refine ag (jv hi) λk q2 o_=>af q2 ?_
 rw [slicePick_from']
 exact r.drop k
theorem vr {hi:Xq} (h1:aw T c n env value a) (h2:aw T c n env hi b):aw T c n env (.Subscript value (.Slice vd (js hi) vd p) pos) (.i5 a b):=by
 intro ρ σ s A en L Q X Q' E' H wp kq kx
 refine aj1 (h1 H wp (λva ua aU aT s1 P1 r1 w1=>ak6 (ZF (h2 (H.step P1) w1 (λvb ub lN aV s2 P2 r2 w2=>ZF ?_) (kx.step P1)))) kx)
 refine bZ (dM.mp w2) λi q1 hi w3=> ?_
 clear w2 w1 kx wp H
 subst q1
 refine bI w3 λl e w4=>jI r2 λt=>kY P2.rel e (P2.val P1.rel r1) .none (.int i t) .none (λh=>aI h) (λo i=>⟨_,rfl⟩) (λxs r=> ?_) (by simp; exact (av6 _ _)) w4 (kq.step (P1.trans P2))
 refine ag (jv hi) λk q2 o_=>af q2 ?_
 rw [slicePick_upto']
 exact r.take k
theorem yl {d:Ex} {value lo hi} {p} (h1:aw T c n env value a) (h2:aw T c n env lo b) (h3:aw T c n env hi d):aw T c n env (.Subscript value (.Slice (js lo) (js hi) vd p) pos) (.slice a b d):=by
 intro ρ σ s A en L Q X Q' E' H wp kq kx
 change ba c a (Sk (ba c b) (ba c d) Q X en) X en σ at wp
 refine aj1 (h1 H wp (λva ua aU aT s1 P1 r1 w1=>ak6 (h2 (H.step P1) w1 (λvb ub lN aV s2 P2 r2 w2=>h3 (H.step (P1.trans P2)) w2 (λvd ud sL dq s3 P3 r3 w3=>ZF ?_) (kx.step (P1.trans P2))) (kx.step P1))) kx)
 refine gK w3 r2 λi t w4=>BX (dM.mp w4) λj q2 hi hj w5=> ?_
 subst q2
 refine bI w5 λl e w6=>jI r3 λt'=> ?_
 haveI JB:=P2.trans P3
 refine kY P3.rel e (JB.val P1.rel r1) (.int i t) (.int j t') .none (λh=>aI h) (λo i=>⟨_,rfl⟩) (λxs r=> ?_) (by unfold JS; rw [av7,av8]; exact ZT (av6 _ _) (Nat.sub_le _ _)) w6 (kq.step (P1.trans JB))
 refine ag (jv hi) λk q3 hk=>af q3 <| ag (jv hj) λk' q4 t9=>af q4 ?_
 rw [zd]
 exact (r.drop k).take (k' - k)
theorem Do {UP:Pos} (h1:aw T c n env value a):aw T c n env (.Subscript value (.Slice vd vd (js (.UnaryOp .USub (.Constant (.int 1) kk p) p')) UP) pos) (.rev a):=by
 intro ρ σ s A en L Q X Q' E' H wp kq kx
 refine aj1 (h1 H wp (λva ua aU aT s1 P1 r1 w1=>ak6 (ZF (ZF (evalPart_some_step (aq8 (ar0 (P.neg_int ?_))))))) kx)
 refine bI w1 λl e w2=> ?_
 haveI P2:=(aj.refl (W:=W0) P1.rel).tok (s1.toks+1+1)
 refine kY (s:={s1 with toks:=s1.toks+1+1}) P2.rel e r1 .none .none (.int (-1) _) (by decide) (λo i=>⟨_,rfl⟩) (λxs r=> ?_) (by simp) w2 (kq.step (P1.trans P2))
 simp only [krv_pick]
 exact r.reverse
theorem bc.cu (R:bc T ρ σ s.heap) {t:Nat} {l':List V} (e:σ[n]? =js (.list t l)) {p:Nj×Nj} (hp:ρ.o[n]? =js p) (f:Array vi->Array vi)
  (hf:∀xs:Array vi,ai ρ s.heap l xs.toList->ai ρ s.heap l' (f xs).toList) (hz:l'.length<=bf):
  aj T W0 ρ s ρ (σ.set n (.list t l')) {s with heap:=s.heap.update p.1 (an0 f)}:=by
 refine ax λG_ ae=> ?_
 obtain ⟨e1,xs,k,g,r,z⟩:=R.obj n _ p e hp
 refine ae ?_
 haveI u:=(show IsL s.heap p.1 xs k from g).update f
 exact dP (R.upd hp (.inl rfl) (ZQ ..) (o:=.list t l') ⟨_,u⟩ (λx=>⟨e1,f xs,_,u,ai.ext x R.aF (d4.zero _) _ (hf xs r),hz⟩)) λr1 r2=>⟨r1,r2,rfl,rfl⟩
set_option tactic.hygienic true in
theorem tV (h:xA σ v=vk):∃n t l,v=.ref n/\σ[n]? =js (.list t l):=by
 cases v with
 | ref m=>exact dJ (ae1.mp h) λl e=>vW e λt e=>wa m t l rfl e
 | _=>exact dy h
set_option tactic.hygienic true in
theorem lj (h:mR σ v=vk):∃n o,v=.ref n/\σ[n]? =js o/\((∃t k,o=.bM t k)∨(∃t k,o=.bg t k)∨(∃t k,o=.d6 t k)):=by
 cases v with
 | ref m=>
  refine ag ((Option.any_eq_true _ _).mp h) λo e h=>bP m o rfl e ?_
  cases o with
  | bM=>exact .inl (rU _ _ rfl)
  | bg=>exact .inr (.inl (rU _ _ rfl))
  | d6=>exact .inr (.inr (rU _ _ rfl))
  | _=>exact dy h
 | _=>exact dy h
theorem bc.Eo (R:bc T ρ σ s.heap) {t:Nat} (e:σ[n]? =js (.list t l)) {p:Nj×Nj} (hp:ρ.o[n]? =js p):∃xs k,IsL s.heap p.1 xs k/\ai ρ s.heap l xs.toList/\l.length<=bf/\xs.size=l.length:=by
 refine ax λG_ ae=> ?_
 obtain ⟨e1,xs,k,g,r,z⟩:=R.obj n _ p e hp
 exact ae <| qb xs k g r z (by have:=r.length; simpa using this)
theorem iV (h:ay e=vk):ah5 pos (Z' [e] env)=[(Fk,ac2 e env)]:=by
 refine af (bE h) ?_; rfl
variable {x:Zu}
theorem vI (h1:aw T c n env o a) (h2:aw T c n env e b) (hs:ay e=vk) (hl:(apos.endLine==pos.line)=vk) (hb:cP o=vk):
  aw T c n env (.Call (.Attribute o "append" apos) [e] [] pos) (.append a b):=by
 intro ρ σ s A en L Q X Q' E' H wp kq kx
 refine aa2 (h1 H wp (λv u aU aT s1 P1 r1 w1=> ?_) kx) (aR hl (by simp [hs]) (of_decide_eq_true rfl) hb)
 refine ax λG_ ae=> ?_
 obtain ⟨CW,w2⟩:=w1
 refine mE (tV CW) λm t l q1 e1=> ?_
 clear CW wp
 subst q1
 refine ag r1 λq hq q2=> ?_
 subst q2
 refine bV (P1.rel.Eo e1 hq) λxs k g o_=>ae <| getMethod_builtin (az _ g rfl) ab5 PySem.F.slot_list_append PySem.F.type_list_append (λa ha=>by cases ha; exact az _ g rfl) <| af (iV hs) <| P.append_list (h2 (H.step P1) w2 (λvb ub lN aV s2 P2 r2 w3=> ?_) (kx.step P1))
 refine bp (dL.mp w3) λm' o' e' e2 w4=> ?_
 cases e'
 refine bp (jz.mp w4) λt' l' q3 z' w5=> ?_
 subst q3
 have Gm:=P2.ext.get hq
 refine nS (P2.rel.Eo e2 Gm) λys k' g' r' z c8=> ?_
 unfold bf at z'
 refine bP ys k' (by simp only [c8,Zs]; exact Y1 [_] [] (.l V0 (.n 16777216)) (.t V0 (.n 100000)) z' rfl) g' ?_
 haveI P3:=P2.rel.cu e2 Gm (l':=l'++ [vb]) (λxs=>xs.push ub) (λxs r=>by
  simp only [at1]; exact r.append (bP _ _ rfl r2 rfl)) (by simp; unfold bf; exact z')
 exact kq _ _ _ _ _ ((P1.trans P2).trans P3) (by rfl) w5
theorem vz (h1:aw T c n env o a) (h2:aw T c n env e b) (hs:ay e=vk) (hl:(apos.endLine==pos.line)=vk) (hb:cP o=vk):
  aw T c n env (.Call (.Attribute o "extend" apos) [e] [] pos) (.extend a b):=by
 intro ρ σ s A en L Q X Q' E' H wp kq kx
 refine aa2 (h1 H wp (λv u aU aT s1 P1 r1 w1=> ?_) kx) (aR hl (by simp [hs]) (of_decide_eq_true rfl) hb)
 refine ax λG_ ae=> ?_
 obtain ⟨CW,w2⟩:=w1
 refine mE (tV CW) λm t l q1 e1=> ?_
 clear CW wp
 subst q1
 refine ag r1 λq hq q2=> ?_
 subst q2
 refine bV (P1.rel.Eo e1 hq) λxs k g o_=>ae <| getMethod_builtin (az _ g rfl) ab5 PySem.F.slot_list_extend PySem.F.type_list_extend (λa ha=>by cases ha; exact az _ g rfl) <| af (iV hs) <| P.extend_list (h2 (H.step P1) w2 (λvb ub lN aV s2 P2 r2 w3=> ?_) (kx.step P1))
 refine bp (dL.mp w3) λm' o' e' e2 w4=> ?_
 cases e'
 refine ax λG_ ae=>bV (jz.mp w4) λt' l' q3 Up=> ?_
 subst q3
 refine bZ (xc.mp Up) λk2 q4 z' w5=> ?_
 subst q4
 have Gm:=P2.ext.get hq
 refine nS (P2.rel.Eo e2 Gm) λys k' g' r' z c8=>jj r2 λb2 zs kz q5 gz fz zz rz=> ?_
 subst q5
 haveI Ld:zs.size=k2.length:=by have:=rz.length; simpa using this
 refine ae ?_
 unfold bf at z'
 refine ⟨b2,ys,zs,k',kz,by simp only [c8,Zs]; exact Y1 [_,_] [] (.l V0 (.n 16777216)) (.l (.a V0 V1) (.n 100000)) z' rfl,by simp only [c8,Ld,Zs]; exact Y1 [_,_] [] (.l (.a V0 V1) (.a (.n 16777216) (.n 1))) (.l (.a V0 V1) (.n 100000)) z' rfl,?_,rfl,g',gz,?_⟩
 ·simp only [ae0,c8,Ld,Zs]
  simp; exact λo_=>ZT z' (Ul rfl)
 haveI P3:=P2.rel.cu e2 Gm (λxs=>xs++zs) (λxs r=>by
  simp only [ai1]; exact r.append rz) (by simp; unfold bf; exact z')
 exact kq _ _ _ _ _ ((P1.trans P2).trans P3) (by rfl) w5
theorem Dq (h1:aw T c n env o a) (hl:(apos.endLine==pos.line)=vk) (hb:cP o=vk):
  aw T c n env (.Call (.Attribute o "pop" apos) [] [] pos) (.pop a):=by
 intro ρ σ s A en L Q X Q' E' H wp kq kx
 refine aa2 (h1 H wp (λv u aU aT s1 P1 r1 w1=> ?_) kx) (aR hl rfl (by decide) hb)
 refine ax λG_ ae=>bp (dL.mp w1) λm o' q1 e1 w2=> ?_
 subst q1
 refine bV (jz.mp w2) λt l q2 w3=> ?_
 clear w2
 subst q2
 refine bI w3 λy hy w4=>ag r1 λq hq q3=> ?_
 subst q3
 refine nS (P1.rel.Eo e1 hq) λxs k g r z c8=>ae <| getMethod_builtin (az _ g rfl) ab5 PySem.F.slot_list_pop PySem.F.type_list_pop (λa ha=>by cases ha; exact az _ g rfl) ?_
 haveI Vx:=(List.getLast?_eq_getElem?)▸hy
 refine ag (r.get _ _ Vx) λu hu ru=>P.pop_list g (by refine af c8 ?_; simpa using hu) ?_ (by simp only [c8,Zs]; unfold bf at z; exact Y1 [_] [] (.l V0 (.n 16777216)) (.l V0 (.n 100000)) z rfl)
 haveI P3:=P1.rel.cu e1 hq (l':=l.dropLast) (λys=>ys.eraseIdxIfInBounds (xs.size - 1)) (λys r=>by
  haveI hs:ys.size=l.length:=by have:=r.length; simpa using this
  haveI e:(ys.eraseIdxIfInBounds (xs.size - 1)).toList=ys.toList.take (l.length - 1):=by
   rw [Array.toList_eraseIdxIfInBounds,List.eraseIdx_eq_take_drop_succ,c8,ZY (by simp; exact Y2 [_,_,_] [] (.l V0 (.a V1 (.n 1))) (.e V0 V2) (.l V2 (.a V1 (.n 1))) hs Yc rfl),aa8]
  simp only [e,List.dropLast_eq_take]
  exact r.take _) (by simp; exact Y1 [_,_] [] (.l V0 (.a V1 (.n 1))) (.l V0 V1) z rfl)
 exact kq _ _ _ _ _ (P1.trans P3) (P3.val P1.rel ru) w4
end
def mixIs (k:Int ⊕ Zu) (v:vi):Bool:=match k with | .inl i=>Value.isInt i v | .inr s=>aA7 s v
def mixH (w:World) (k:Int ⊕ Zu):Int:=match k with | .inl i=>hashInt i | .inr s=>hashStr w s
noncomputable def xi (prog:as0) (w:World):KeyKind prog w (Int ⊕ Zu) where
 is:=mixIs
 hash:=mixH w
 inj:=λv a b ha hb=>by
  cases a <;> cases b
  ·exact congrArg _ (Value.isInt_inj _ _ _ ha hb)
  ·obtain ⟨t,rfl⟩:=af8 ha; cases hb
  ·obtain ⟨t,rfl⟩:=ad6 ha; cases hb
  ·exact congrArg _ (Value.isStrOf_inj _ _ _ ha hb)
 byValue:=λk v h=>by
  cases k
  ·exact (as1 prog w).byValue _ _ h
  ·exact (strKind prog w).byValue _ _ h
 pyHash:=λ{_ _ _ k _ _} hv h=>by
  cases k
  ·exact (as1 prog w).pyHash hv h
  ·exact (strKind prog w).pyHash hv h
 eqBool:=λ{A E s a b u v Q} hu hv h=>by
  cases a <;> cases b
  ·exact (as1 prog w).eqBool hu hv (by simpa using h)
  ·obtain ⟨t,rfl⟩:=af8 hu
   obtain ⟨t',rfl⟩:=ad6 hv
   exact SeqAt.EqAt.int_str (A:=A) (s:=s) _ t _ t' prog w E Q (h)
  ·obtain ⟨t,rfl⟩:=ad6 hu
   obtain ⟨t',rfl⟩:=af8 hv
   exact SeqAt.EqAt.str_int (A:=A) (s:=s) _ t _ t' prog w E Q (h)
  ·exact (strKind prog w).eqBool hu hv (by simpa using h)
 «strs»:=λk x t v h=>by
  cases k
  ·cases h
  ·exact (strKind prog w).strs _ x t v h
section
section
variable {κ:Type} [DecidableEq κ]
theorem b8.cons {k:κ} {kvs:List (κ×V)} {bB:List (κ×vi)} (x:b8 ρ h ((k,v)::kvs) bB):∃u r,bB=(k,u)::r/\aq ρ h v u/\b8 ρ h kvs r:=by
 obtain ⟨e,r⟩:=x
 cases bB with
 | nil=>simp at e
 | cons p q=>
  obtain ⟨k',u⟩:=p
  simp only [ag6,List.cons.injEq] at e
  refine bp r λu' us e' r1 r2=> ?_
  cases e'
  exact qb u q (bD e.1 rfl) r1 e.2 r2
theorem b8.jB {k:κ} {kvs:List (κ×V)} {bB:List (κ×vi)} (r:aq ρ h v u) (x:b8 ρ h kvs bB):b8 ρ h ((k,v)::kvs) ((k,u)::bB):=
 ⟨by simp [x.1],(bP _ _ rfl r x.2:ai ρ h (_::_) (_::_))⟩
theorem b8.nil:b8 (κ:=κ) ρ h [] []:=⟨rfl,(rfl: []=[])⟩
theorem b8.isNil {bB:List (κ×vi)} (x:b8 ρ h [] bB):bB=[]:=by
 have:=x.1; simpa using this
theorem b8.get k:∀{kvs:List (κ×V)} {bB:List (κ×vi)},b8 ρ h kvs bB->match eI k kvs with
  | some v=>∃u,ay9 bB k=js u/\aq ρ h v u
  | none=>ay9 bB k=vd
 | [],_,x=>by refine (x.isNil▸?_); rfl
 | (k',v)::kvs,_,x=>by
  refine bp x.cons λu r q1 r1 r2=>af q1 ?_
  haveI ih:=b8.get k r2
  unfold eI ay9 at ih ⊢
  by_cases e:k'=k
  ·simp only [ah6,e,decide_true,ay3]
   exact az u rfl r1
  ·simp only [ah6,e,decide_false]
   exact ih
theorem b8.del k:∀{kvs:List (κ×V)} {bB:List (κ×vi)},b8 ρ h kvs bB->b8 ρ h (sp k kvs) (without bB k)
 | [],_,x=>x.isNil▸.nil
 | (k',v)::kvs,_,x=>by
  refine bp x.cons λu r q1 r1 r2=>af q1 ?_
  haveI ih:=b8.del k r2
  unfold sp without at ih ⊢
  by_cases e:k'=k
  ·simp only [av9,e,ne_eq,not_true_eq_false,decide_false,ZE,if_false]
   exact ih
  ·simp only [av9,ne_eq,e,not_false_eq_true,decide_true,if_true]
   exact .jB r1 ih
theorem b8.A2 k (r0:aq ρ h v u):∀{kvs:List (κ×V)} {bB:List (κ×vi)},b8 ρ h kvs bB->
  b8 ρ h (kvs.map λp=>if p.1=k then (p.1,v) else p) (bB.map λp=>if p.1=k then (p.1,u) else p)
 | [],_,x=>x.isNil▸.nil
 | (k',v')::kvs,_,x=>by
  refine bp x.cons λu' r q1 r1 r2=>af q1 ?_
  haveI ih:=b8.A2 k r0 r2
  simp only [ag6]
  by_cases e:k'=k
  ·simp only [e,if_true]
   exact .jB r0 ih
  ·simp only [e,if_false]
   exact .jB r1 ih
theorem b8.snoc {k:κ} (r0:aq ρ h v u):∀{kvs:List (κ×V)} {bB:List (κ×vi)},b8 ρ h kvs bB->b8 ρ h (kvs++ [(k,v)]) (bB++ [(k,u)])
 | [],_,x=>x.isNil.symm▸(.jB r0 .nil)
 | (k',v')::kvs,_,x=>bp x.cons λu' r q1 r1 r2=>af q1 <| .jB r1 (b8.snoc r0 r2)
theorem b8.MO k:∀{kvs:List (κ×V)} {bB:List (κ×vi)},b8 ρ h kvs bB->(bB.any λp=>decide (p.1=k))=kvs.any λp=>decide (p.1=k)
 | [],_,x=>by refine af x.isNil ?_; rfl
 | (k',v')::kvs,_,x=>by
  refine bp x.cons λu' r q1 r1 r2=>af q1 ?_
  simp only [aA8,b8.MO k r2]
theorem b8.put k (r0:aq ρ h v u) {kvs:List (κ×V)} {bB:List (κ×vi)} (x:b8 ρ h kvs bB):b8 ρ h (lV k v kvs) (stored bB k u):=by
 unfold lV stored
 refine af (x.MO k) ?_
 split
 ·exact x.A2 k r0
 ·exact x.snoc r0
theorem b8.length {kvs:List (κ×V)} {bB:List (κ×vi)} (x:b8 ρ h kvs bB):bB.length=kvs.length:=by
 have:=congrArg List.length x.1
 simpa using this
theorem b8.ext (x:dZ T W ρ h am h') (t:iE T h) (wl:d4 W ρ) {kvs:List (κ×V)} {bB:List (κ×vi)} (r:b8 ρ h kvs bB):b8 am h' kvs bB:=
 ⟨r.1,ai.ext x t wl _ r.2⟩
end
theorem bc.so (R:bc T ρ σ s.heap) (e:mR σ v=vk) (r:aq ρ s.heap v u):s.TypeIs u "dict"/\∀a,u=.ref a->∃ob,s.heap.get? a=js ob/\ob.dict=vd:=by
 refine bp (lj e) λn o q1 e1 k=> ?_
 clear e
 subst q1
 refine ag r λq hq q2=>af q2 ?_
 haveI ob:=R.obj n o q e1 hq
 clear hq e1 R
 rcases k with ⟨t,kvs,rfl⟩ | ⟨t,kvs,rfl⟩ | ⟨t,kvs,rfl⟩
 ·refine ax λG_ ae=> ?_
  obtain ⟨o_,o_,⟨o,es,ep,g,c,d,o_⟩,o_⟩:=ob
  exact ae <| ⟨(az o g c.1),λa ha=>by cases ha; exact az o g c.2.1⟩
 ·refine ax λG_ ae=> ?_
  obtain ⟨o_,o_,⟨o,es,ep,g,c,d,o_⟩,o_⟩:=ob
  exact ae <| ⟨(az o g c.1),λa ha=>by cases ha; exact az o g c.2.1⟩
 ·refine ax λG_ ae=> ?_
  obtain ⟨o_,o,g,c,⟨es,n,d⟩,o_⟩:=ob
  exact ae <| ⟨(az o g c.1),λa ha=>by cases ha; exact az o g c.2.1⟩
theorem sU {e':Xq} (h:ay e=vk) (h':ay e'=vk):ah5 pos (Z' [e,e'] env)=[(Fk,ac2 e env),(Fk,ac2 e' env)]:=by
 rw [bE h,bE h']; rfl
theorem zK {k:V} {p:Zu×Int} (h:G' k=js p):k=.tup [.str p.1,.int p.2]:=by
 cases k with
 | tup l=>
  cases l with
  | nil=>exact aI h
  | cons a r=>
   cases r with
   | nil=>exact aI h
   | cons b r=>
    refine v8 h λhe h=>JY h λz ea h=>JZ h λi eb h=>bD (vo h) ?_
    simp only [ea,eb,ZW.mp he]
 | _=>exact aI h
theorem Hx {o:O} (w:J1 o P) (k:∀t kvs,o=.d6 t kvs->kvs.isEmpty=vk->P->G):G:=by
 cases o with
 | d6 t kvs=>exact k t kvs rfl w.1 w.2
 | _=>exact w.elim
theorem wQ {st:Zu} (r:aq ρ h (.tup [.str st,.int i]) u):∃a,u=.ref a/\(tupleKind (xi T.prog T.w)).is h [.inr st,.inl i] a:=by
 refine ax λG_ ae=> ?_
 obtain ⟨a,xs,n,q1,g,o_,o_,r⟩:=r
 subst q1
 refine ae <| ax λG_ ae=> ?_
 obtain ⟨u1,us,e,r1,u2,I5,q2,r2,rfl⟩:=r
 subst q2
 obtain ⟨t1,rfl⟩:=r1
 obtain ⟨t2,rfl⟩:=r2
 refine ae <| ⟨a,rfl,_,xs,n,g,rfl,rfl,?_⟩
 exact af e <| .cons (decide_eq_true rfl) (.cons (decide_eq_true rfl) .nil)
variable {x:Zu}
theorem Ag (h1:aw T c n env o a) (h2:aw T c n env e b) (hs:ay e=vk) (hl:(apos.endLine==pos.line)=vk) (hb:cP o=vk):
  aw T c n env (.Call (.Attribute o "get" apos) [e] [] pos) (.BG a b):=by
 intro ρ σ s A en L Q X Q' E' H wp kq kx
 refine aa2 (h1 H wp (λv u aU aT s1 P1 r1 w1=> ?_) kx) (aR hl (by simp [hs]) (of_decide_eq_true rfl) hb)
 obtain ⟨hd,w2⟩:=w1
 refine dP (P1.rel.so hd r1) λd1 d2=>ac4 d1 ab6 af9 ag0 d2 <| af (iV hs) <| bp (lj hd) λn1 o1 q1 e1 o_=> ?_
 clear e1 d2 d1 hd wp
 subst q1
 refine ag r1 λq hq q2=>af q2 <| wpAny_dict_get1 (knd:=strKind T.prog T.w) (P1.rel.rJ hq) (h2 (H.step P1) w2 (λvb ub lN aV s2 P2 r2 w3=> ?_) (kx.step P1))
 refine JQ w3 r2 λz tk w4=>bp (dL.mp w4) λm' o' e' e2 w5=> ?_
 cases e'
 cases o' with
 | bg t kvs=>
  refine ax λG_ ae=> ?_
  obtain ⟨o_,bB,D,kr⟩:=P2.rel.obj _ _ q e2 (P2.ext.get hq)
  refine ae <| bP z _ (aj0 _ _ _ _) D.mapOf ?_
  haveI g:=kr.get z
  replace w5:Q ((eI z kvs).getD .none) aV:=w5
  cases hg:eI z kvs with
  | some v=>
   rw [hg] at g w5
   exact ag g λu hu ru=>hu▸(kq _ _ _ _ _ ((P1.trans P2).tok _) ru w5)
  | none=>
   rw [hg] at g w5
   exact g▸(kq _ _ _ _ _ ((P1.trans P2).tok _) (by rfl) w5)
 | _=>exact w5.elim
theorem Ah (h1:aw T c n env o a) (h2:aw T c n env e b) (hs:ay e=vk) (hl:(apos.endLine==pos.line)=vk) (hb:cP o=vk):
  aw T c n env (.Call (.Attribute o "get" apos) [e] [] pos) (.BH a b):=by
 intro ρ σ s A en L Q X Q' E' H wp kq kx
 refine aa2 (h1 H wp (λv u aU aT s1 P1 r1 w1=> ?_) kx) (aR hl (by simp [hs]) (of_decide_eq_true rfl) hb)
 obtain ⟨hd,w2⟩:=w1
 refine dP (P1.rel.so hd r1) λd1 d2=>ac4 d1 ab6 af9 ag0 d2 <| af (iV hs) <| bp (lj hd) λn1 o1 q1 e1 o_=> ?_
 clear e1 d2 d1 hd wp
 subst q1
 refine ag r1 λq hq q2=>af q2 <| wpAny_dict_get1_heap (knd:=tupleKind (xi T.prog T.w)) (by have:=H.lO; show A.units+1 < an6; exact Y1 [_,_,_] [] (.t (.a V0 (.n 1)) V1) (.l (.a (.a V0 (.m 60 V2)) (.n 90)) V1) this rfl) (P1.rel.rJ hq) (h2 (H.step P1) w2 (λvb ub lN aV s2 P2 r2 w3=> ?_) (kx.step P1))
 refine bp (dL.mp w3) λm' o' e' e2 w5=> ?_
 cases e'
 refine Hx w5 λt kvs eo hk w6=> ?_
 subst eo
 refine bI w6 λzi ek w7=> ?_
 replace r2:=(zK ek)▸r2
 obtain rfl:=ZW.mp hk
 refine ax λG_ ae=> ?_
 obtain ⟨o_,ob,g,o_,o_,Iv⟩:=P2.rel.obj _ _ q e2 (P2.ext.get hq)
 obtain ⟨nn,rfl⟩:=Iv rfl
 refine ag (wQ (T:=T) r2) λka q3 hk=> ?_
 subst q3
 exact ae <| yO ka _ ([]) rfl hk (Ek _ _ nn g (cW rfl rfl rfl) rfl rfl (by simp) (by decide)) <| kq _ _ _ _ _ ((P1.trans P2).tok _) (by rfl) w7
set_option tactic.hygienic true in
theorem z8 {b:Ex} (h1:aw T c n env o a) (h2:aw T c n env e b) (hs:ay e=vk) (hl:(apos.endLine==pos.line)=vk) (hb:cP o=vk):
  aw T c n env (.Call (.Attribute o "pop" apos) [e,.Constant .none kk p'] [] pos) (.yA a b):=by
 intro ρ σ s A en L Q X Q' E' H wp kq kx
 refine aa2 (h1 H wp (λv u aU aT s1 P1 r1 w1=> ?_) kx) (aR hl (by simp only [ab0,hs]; rfl) (of_decide_eq_true rfl) hb)
 obtain ⟨hd,w2⟩:=w1
 refine dP (P1.rel.so hd r1) λd1 d2=>ac4 d1 ab6 ao1 PySem.F.type_dict_pop d2 <| af (sU hs rfl) <| bp (lj hd) λn1 o1 q1 e1 _=> ?_
 subst q1
 refine ag r1 λq hq q2=>af q2 <| method2_meetsIn ao1 PySem.F.entry_dict_pop (h2 (H.step P1) w2 (λvb ub lN aV s2 P2 r2 w3=>aq1 ?_) (kx.step P1))
 refine bp (dL.mp w3) λm' o' e' e2 w4=> ?_
 cases e'
 refine gK w4 r2 λi tk w5=> ?_
 have Gm:=P2.ext.get hq
 cases o' with
 | bM t kvs=>
  refine ax λG_ ae=>dP w5 λhz w6=>bI w6 λv' hv w7=> ?_
  obtain ⟨e3,bB,D,kr⟩:=P2.rel.obj _ _ q e2 Gm
  refine ae ?_
  haveI g:=kr.get i
  rw [hv] at g
  refine ag g λu' hu ru=>⟨D.typeIs,PySem.F.args_dict_pop_3 _ _ _,_,meets_dict_pop_there (as1 T.prog T.w) q.1 (am8 _ _ _ _) [.none] (.inr ⟨_,rfl⟩) rfl,bB,u',D,?_,hu,λh' D' S=> ?_⟩
  ·simp only [kr.length,Zs]; unfold bf at hz; exact Y1 [_] [] (.l V0 (.n 16777216)) (.l V0 (.n 100000)) hz rfl
  ·refine dP (P2.rel.upd Gm (.inl rfl) S (o:=.bM t (sp i kvs)) (mE D' λo _ _ g _=>⟨o,g⟩) (λx=>⟨e3,_,D',(kr.del i).ext x P2.rel.aF (d4.zero _)⟩)) λR3 X3=> ?_
   haveI P3:aj T W0 lN s2 lN _ {s2 with heap:=h',toks:=s2.toks+1}:=⟨R3,X3,rfl,rfl⟩
   exact kq _ _ _ _ _ ((P1.trans P2).trans P3) (P3.val P2.rel ru) w7
 | _=>exact w5.elim
theorem bc.xT {o:Obj} (R:bc T ρ σ h) (e:T.hB.get? b=js o):ρ.jJ b:=by
 refine ⟨λf=> ?_,λf=> ?_⟩
 ·exact fy (R.fN b f) e
 ·exact fy ((R.aX b f).2.1) e
theorem Av {b:Ex} {g:Nat} (C:fv T c n) (h2:aw T c n env e b) (gn:ce T env x (.ref (T.mX g)) []) (hg:T.pa g=vk) (hs:dc e=vk):aw T c n env (.Subscript (.Name x p) e pos) (.f' g b):=by
 intro ρ σ s A en L Q X Q' E' H wp kq kx
 refine aj1 (cS H gn.kind gn.val gn.qZ (h2 H wp (λvb ub lN aV s2 P2 r2 w3=> ?_) kx))
 refine ax λG_ ae=>qw w3 λz q1 w4=> ?_
 clear w3 kx wp H
 subst q1
 refine bI w4 λv hv w5=> ?_
 obtain ⟨ns,es,nn,hl,hk⟩:=P2.rel.ok.Cj g hg
 refine ag (P2.rel.ok.qY g z _ (C.f' hv)) λval hn hr=> ?_
 obtain ⟨tk,rfl⟩:=r2
 refine ae ?_
 haveI hm:=mapOf_K (prog:=T.prog) P2.rel.K hl hk
 refine az4 hm.typeIs slot_dict_getitem.lookup (wpAny_getItem_of (aj0 T.prog T.w z tk) hm (find_K hl hn) ?_) (eQ hs _ _)
 exact kq _ _ _ _ _ (P2.tok _) (hr _ _ P2.rel.base λb o e=>P2.rel.xT e) w5
theorem Ab {y:Xq} {b:Ex} {g:Nat} (C:fv T c n) (h2:aw T c n env e b) (h3:aw T c n env y (.tup .nil)) (gn:ce T env x (.ref (T.mX g)) []) (hg:T.pa g=vk) (hs:ay e=vk) (tY:ay y=vk) (hl:(apos.endLine==pos.line)=vk):
  aw T c n env (.Call (.Attribute (.Name x p) "get" apos) [e,y] [] pos) (.fq g b):=by
 intro ρ σ s A en L Q X Q' E' H wp kq kx
 refine aa2 (cS H gn.kind gn.val gn.qZ ?_) (aR hl (by simp [hs,tY]) (of_decide_eq_true rfl) rfl)
 refine ax λG_ ae=> ?_
 obtain ⟨ns,es,nn,uY,hk⟩:=H.rel.ok.Cj g hg
 refine ae ?_
 haveI wm:=mapOf_K (prog:=T.prog) H.rel.K uY hk
 refine ac4 wm.typeIs ab6 af9 ag0 (λa ha=>by cases ha; exact az _ (H.rel.K _ _ uY) rfl) <| af (sU hs tY) <| wpAny_dict_get2 (knd:=strKind T.prog T.w) (by simpa using ns) (h2 H wp (λvb ub lN aV s2 P2 r2 w3=> ?_) kx)
 refine ax λG_ ae=>qw w3 λz q1 w4=> ?_
 clear w3 wm
 subst q1
 refine bI w4 λv hv w5=> ?_
 obtain ⟨tk,rfl⟩:=r2
 refine ae <| nameQ λFk iv=>h3 (Q:=λv' aa=>v'=.tup []/\Q v aa) (H.step P2) ⟨rfl,w5⟩ (λvd ud sL dq s3 P3 r3 w6=> ?_) (kx.step P2)
 refine ax λG_ ae=> ?_
 obtain ⟨rfl,w7⟩:=w6
 refine ag (C.fq hv) λr hr q2=> ?_
 subst q2
 refine ae <| iv _ _ <| ⟨z,_,aj0 _ _ _ _,(mapOf_K P3.rel.K uY hk),?_⟩
 haveI hd:=P3.rel.ok.qY g z r hr
 cases r with
 | none=>
  exact (find_K uY hd)▸(kq _ _ _ _ _ ((P2.trans P3).tok _) r3 w7)
 | some v=>
  exact ag hd λval hn hr=>(find_K uY hn)▸(kq _ _ _ _ _ ((P2.trans P3).tok _) (hr _ _ P3.rel.base λb o e=>P3.rel.xT e) w7)
end
section
noncomputable def aO.drop (ρ:aO) (D:List Nj):aO:=⟨ρ.o,ρ.p.filter λb=>decide (b∉D)⟩
theorem aO.ch:b∈(ρ.drop D).p↔b∈ρ.p/\b∉D:=by simp [aO.drop,ay4]
theorem Ce (e:am=⟨ρ.o++r,sx++ρ.p⟩) (h:∀b∈D,b∉ρ.p):(am.drop D).p=(sx.filter λb=>decide (b∉D))++ρ.p:=by
 refine af e ?_
 unfold aO.drop
 simp only [List.filter_append]
 congr 1
 rw [List.filter_eq_self]
 intro a ha
 simpa using λm=>h a m ha
theorem aj.drop (p:aj T W ρ s am aa s') (R:bc T ρ σ s.heap) (hD:∀b∈D,b∈am.p/\s.heap.get? b=vd) (hs:∀b o,b∉D->s'.heap.get? b=js o->h'.get? b=js o):
  aj T W ρ s (am.drop D) aa {s' with heap:=h'}/\jL am.o [] am.p (am.drop D).p s'.heap h':=by
 refine bp p.ext.pre λr sx e1 hr Qa=> ?_
 haveI nD:∀b∈D,b∉ρ.p:=λb hb m=>by obtain ⟨o_,o_,o_,o,e⟩:=R.aX b m; exact fy ((hD b hb).2) e
 haveI S:jL am.o [] am.p (am.drop D).p s'.heap h':=⟨λb hb=>(aO.ch.mp hb).1,by simp,λb o hb e=>hs b o (λm=>hb (hD b m).1) e⟩
 refine ⟨⟨p.rel.eR S.sub S.same λb hb=> ?_,⟨(bP r (sx.filter λb=>decide (b∉D)) ?_ hr (λb hb=>Qa b (ay4.mp hb).1)),λb o e f t w=> ?_,λb o e=> ?_⟩,p.gens,p.os⟩,S⟩
 ·obtain ⟨m,nm⟩:=aO.ch.mp hb
  obtain ⟨o_,o_,o_,o,e⟩:=p.rel.aX b m
  exact ⟨o,hs b o nm e⟩
 ·have:(am.drop D).o=am.o:=rfl
  refine bD (Ce e1 nD) <| bD (af e1 rfl:am.o=ρ.o++r) ?_
  rfl
 ·exact ag (p.ext.keep b o e f t w) λsl e' k=>az sl (hs b _ (λm=>fy ((hD b m).2) e) e') k
 ·exact dJ (p.ext.all b o e) λo' e'=>⟨o',hs b _ (λm=>fy ((hD b m).2) e) e'⟩
theorem jL.val (S:jL ρ.o [] ρ.p P' h h') (r:aq ρ h v u):aq ⟨ρ.o,P'⟩ h' v u:=by
 have:=r.eR S
 rwa [aa8] at this
theorem jL.vals {v:List V} {u:List vi} (S:jL ρ.o [] ρ.p P' h h') (r:ai ρ h v u):ai ⟨ρ.o,P'⟩ h' v u:=by
 have:=ai.eR S v r
 rwa [aa8] at this
theorem aj.adopt (p:aj T W ρ s am aa s') (R:bc T ρ σ s.heap) (hD:∀b∈D,b∈am.p/\s.heap.get? b=vd) {h'} (hs:∀b o,b∉D->s'.heap.get? b=js o->h'.get? b=js o) {a} (ha:a∈D) (has:a ≠ ZI) {o}
  (r:(∀v u,aq am s'.heap v u->aq ((am.drop D).add (a,a)) h' v u)->kG T ((am.drop D).add (a,a)) h' o (a,a)):
  aj T W ρ s ((am.drop D).add (a,a)) (aa++ [o]) {s' with heap:=h'}/\(∀v u,aq am s'.heap v u->aq ((am.drop D).add (a,a)) h' v u)/\aq ((am.drop D).add (a,a)) h' (.ref aa.length) (.ref a):=by
 refine dP (p.drop R hD hs) λP0 S0=> ?_
 haveI hv:∀v u,aq am s'.heap v u->aq ((am.drop D).add (a,a)) h' v u:=λv u q=>q.eR ⟨S0.sub,by intro q hq; simp at hq; refine af hq ?_; exact ⟨(hD a ha).1,(hD a ha).1⟩,S0.same⟩
 refine cW ⟨(p.rel.adopt S0.sub S0.same (λb hb=>(P0.rel.aX b hb).2.2.2) (hD a ha).1 has (λm=>(aO.ch.mp m).2 ha) (r hv)),?_,p.gens,p.os⟩ hv ?_
 ·refine bp P0.ext.pre λrr sx e1 hr Qa=>⟨(bP (rr++ [(a,a)]) sx ?_ ?_ Qa),P0.ext.keep,P0.ext.all⟩
  ·refine (?_:aO.mk ((am.drop D).o++ [(a,a)]) (am.drop D).p=_)
   refine af e1 ?_; simp
  ·intro q hq
   rcases aa7.mp hq with hq | hq
   ·exact hr q hq
   ·simp at hq; refine af hq ?_; exact ⟨(hD a ha).2,(hD a ha).2⟩
 ·refine az (a,a) ?_ rfl
  refine (?_:(am.o++ [(a,a)])[aa.length]? =_)
  refine af p.rel.len.symm ?_; simp
variable {x:Zu}
theorem Bl (h:qI i l=js k):∃is:List Int,l=is.map V.int/\is[k]? =js i/\∀m,m < k->is[m]? ≠ js i:=by
 refine ag (Zt.mp h) λis e f=>dH is (qH e) ?_ ?_
 ·refine ag (af3.mp f) λiT hp o_=> ?_
  refine af (Um iT) ?_
  simpa using hp
 ·intro m hm q
  refine ag (af3.mp f) λiT hp hb=> ?_
  have:=hb m hm
  haveI qc:m < is.length:=Y2 [_,_,_] [] (.t V0 V1) (.t V0 V2) (.t V2 V1) hm iT rfl
  rw [Um qc] at q
  simp at this q
  exact this q
set_option tactic.hygienic true in
theorem yo (h1:aw T c n env o a) (h2:aw T c n env e b) (hs:ay e=vk) (hl:(apos.endLine==pos.line)=vk) (hb:cP o=vk):
  aw T c n env (.Call (.Attribute o "index" apos) [e] [] pos) (.index a b):=by
 intro ρ σ s A en L Q X Q' E' H wp kq kx
 refine aa2 (h1 H wp (λv u aU aT s1 P1 r1 w1=> ?_) kx) (aR hl (by simp [hs]) (by simp) hb)
 refine xd w1 λl q2 w2=> ?_
 clear w1 wp
 subst q2
 refine jj r1 λa1 xs k1 q3 g1 f1 z1 q1=> ?_
 clear r1
 subst q3
 refine ac4 (az _ g1 rfl) ab5 PySem.F.slot_list_index PySem.F.type_list_index (λa ha=>by cases ha; exact az _ g1 rfl) <| ((iV hs)▸?_)
 refine P.index_list (h2 (H.step P1) w2 (λvb ub lN aV s2 P2 r2 w3=> ?_) (kx.step P1))
 refine jR w3 λi q4 w4=> ?_
 subst q4
 refine bI w4 λk hk w5=>bZ (Bl hk) λis q5 hi VR=> ?_
 subst q5
 obtain ⟨t,rfl⟩:=r2
 haveI g2:=P2.ext.exact P1.rel.aF (d4.zero _) g1 f1 (by simp) (by simp [cG])
 obtain ⟨_,he⟩:=xV i q1
 have c8:xs.size=is.length:=by have:=q1.length; simpa using this
 have iT:=(Lf.mp hi).1
 have at_:∀m,m < is.length->∃y t',is[m]? =js y/\xs[m]? =js (.int y t'):=λm hm=>by
  haveI e0:(is.map V.int)[m]? =js (.int is[m]):=by simp only [Z7,Um hm]; rfl
  refine ag (q1.get m _ e0) λu hu ru=> ?_
  obtain ⟨t',rfl⟩:=ru
  exact dh (is[m]) t' (Um hm) (by simpa using hu)
 refine ⟨xs,k1,Nt i,k,c8.symm▸iT,g2,λy hy=>he t y (by simpa using hy),?_,?_,?_,kq _ _ _ _ _ ((P1.trans P2).tok _) (gA.mpr ⟨_,rfl⟩) w5⟩
 ·simp at z1; exact Y2 [_,_] [] (.T (.c V0) (.n 9223372036854775807)) (.t V0 V1) (.l V1 (.n 100000)) iT z1 rfl
 ·refine bV (at_ k iT) λy t' h1 h2=> ?_
  obtain rfl:=se hi h1
  have:xs[k]=.int i t':=by have:=ZL.mp h2; exact this.2
  rw [this]; exact beq_self_eq_true i
 ·intro m hm VX
  obtain ⟨y,t',h1,h2⟩:=at_ m (Y2 [_,_,_] [] (.t V0 V1) (.e V2 V1) (.t V0 V2) c8 hm rfl)
  have:xs[m]=.int y t':=by have:=ZL.mp h2; exact this.2
  rw [this]
  refine beq_eq_false_iff_ne.mpr ?_
  intro z
  obtain rfl:=z.symm
  exact VR m VX h1
theorem Ae (g:ce T env x (.type "list") es) (h:bN T c n env es (.cons a .nil)):aw T c n env (.Call (.Name x p) es [] pos) (.keys a):=by
 intro ρ σ s A en L Q X Q' E' H wp kq kx
 refine eC g h H (gH.mpr wp) (λvs us aU aT s1 P1 r1 w1=> ?_) kx
 refine pW w1 r1 λv u w2 q1=> ?_
 refine bp (dL.mp w2) λm o q4 e1 w3=> ?_
 clear w2
 subst q4
 cases o with
 | bg t kvs=>
  refine ax λG_ ae=> ?_
  refine dP w3 λhz w4=> ?_
  refine ag q1 λq hq q5=> ?_
  subst q5
  obtain ⟨o_,bB,D,kr⟩:=P1.rel.obj _ _ q e1 hq
  obtain ⟨ep,NS⟩:=D.dictAt
  refine bV H.mK λo_ o_ ao o_=> ?_
  refine ae ?_
  have hlen:=kr.length
  refine kdl_call (kdl_dict (P1.rel.rJ hq)) ao.hd NS (by simp only [hlen,Zs]; unfold bf at hz; exact Y1 [_] [] (.l V0 (.n 16777216)) (.l V0 (.n 100000)) hz rfl) λh' tk acc c' hk hD LJ=> ?_
  haveI tY:ai aU s1.heap (kvs.map λp=>V.str p.1) acc.toList:=by
   refine ai.mk (by simp; simp only [LJ.1,hlen]) λi v u hv hu=> ?_
   obtain ⟨k',x',au4,Wa⟩:=LJ.2 i u (by simpa using hu)
   obtain ⟨t',rfl⟩:=ad6 Wa
   replace hv:=(Z7).symm.trans hv
   refine ag (Ou.mp hv) λpp zr q6=> ?_
   refine bD q6 ?_
   have:(bB.map (·.1))[i]? =(kvs.map (·.1))[i]?:=bD kr.1 rfl
   rw [Z7,Z7,au4,zr] at this
   simp at this
   refine bD this ?_
   exact ⟨_,rfl⟩
  obtain ⟨⟨p1,p2⟩,o_⟩:=aj.qB P1.rel hk hD tY (by simpa using hz)
  exact kq _ _ _ _ _ ((P1.trans p1).tok tk) p2 w4
 | _=>exact w3.elim
theorem bc.newDict {o:O} (R:bc T ρ σ s.heap) (ho:∀am h',h'.get? s.heap.objs.size=js {cls:=.type "dict",data:=.dict #[]}->kG T am h' o (s.heap.objs.size,s.heap.objs.size)):
  aj T W0 ρ s (ρ.add (s.heap.objs.size,s.heap.objs.size)) (σ++ [o]) {s with heap:=s.heap.push {cls:=.type "dict",data:=.dict #[]}}/\
  aq (ρ.add (s.heap.objs.size,s.heap.objs.size)) (s.heap.push {cls:=.type "dict",data:=.dict #[]}) (.ref σ.length) (.ref s.heap.objs.size):=by
 haveI n1:=aK s.heap
 haveI N:=R.new (Grows.push s.heap {cls:=.type "dict",data:=.dict #[]}) n1 n1 R.zh (ho _ _ (Q1 _ rfl))
 refine ⟨⟨N.1,N.2,rfl,rfl⟩,?_⟩
 refine az (s.heap.objs.size,s.heap.objs.size) ?_ rfl
 refine (?_:(ρ.o++ [_])[σ.length]? =_)
 refine bD R.len ?_; simp
theorem kD {a:Nj} [DecidableEq knd] {k:KeyKind T.prog T.w knd} (e:h.get? a=js {cls:=.type "dict",data:=.dict #[]}):h.DictOf k a []:=uw e
theorem yt {t:Nat}:aw T c n env (.Dict [] [] pos) (.gm k t):=by
 intro ρ σ s A en L Q X Q' E' H wp kq kx
 simp only [eval_Dict_empty]
 refine j' (Zq ?_)
 refine ak7 ?_
 match k,wp with
 | 0,wp=>
  refine kq _ _ _ _ _ (aj.rH H.rel (Grows.push _ _) _) ?_ wp
  exact qb _ 0 rfl (Q1 _ rfl) (H.rel.pi (aK _)) H.rel.zh.1
 | 1,wp=>
  obtain ⟨p1,p2⟩:=H.rel.newDict (o:=.bM t []) λam h' e=>⟨rfl,[],kD e,b8.nil⟩
  exact kq _ _ _ _ _ p1 p2 wp
 | 2,wp=>
  obtain ⟨p1,p2⟩:=H.rel.newDict (o:=.bg t []) λam h' e=>⟨rfl,[],kD e,b8.nil⟩
  exact kq _ _ _ _ _ p1 p2 wp
 | k+3,wp=>
  exact dP (H.rel.newDict (o:=.d6 t []) λam h' e=>⟨rfl,_,e,(cW rfl rfl rfl),(rU _ _ rfl),λo_=>⟨0,rfl⟩⟩) λp1 p2=>kq _ _ _ _ _ p1 p2 wp
set_option tactic.hygienic true in
theorem yr {k v:Xq} {mk mv:Ex} {t:Nat} (h1:aw T c n env k mk) (h2:aw T c n env v mv):aw T c n env (.Dict [js k] [v] pos) (.uz t mk mv):=by
 intro ρ σ s A en L Q X Q' E' H wp kq kx
 refine wpAny_Dict_pairs (knd:=as1 T.prog T.w) (pairs:=[(ac2 k env,do let x<-ac2 v env; am5 pos; pure x)]) rfl (al8 _ _) (at3 _) ?_
 haveI gD:(s.heap.push {cls:=.type "dict",data:=.dict #[]}).get? s.heap.objs.size=js {cls:=.type "dict",data:=.dict #[]}:=Q1 _ rfl
 obtain ⟨R0,X0⟩:=H.rel.own (Grows.push s.heap {cls:=.type "dict",data:=.dict #[]}) (l:=[s.heap.objs.size]) (λa ha=>by simp at ha; subst ha; exact aK _) (λa ha=>by simp at ha; subst ha; exact ⟨_,gD⟩)
 have P0:aj T W0 ρ s (ρ.own [s.heap.objs.size]) σ {s with heap:=s.heap.push {cls:=.type "dict",data:=.dict #[]}}:=⟨R0,X0,rfl,rfl⟩
 refine nameQ λFk iv=>evalPairs_cons (h1 (H.step P0) wp (λvk uk aU aT s1 P1 r1 w1=>j' (h2 (H.step (P0.trans P1)) w1 (λvv uv lN aV s2 P2 r2 w2=>j' (Zq (yd (evalPairs_nil ?_)))) (kx.step (P0.trans P1)))) (kx.step P0))
 refine gK w2 r1 λi tk w3=> ?_
 haveI WT:s1.heap.get? s.heap.objs.size=js {cls:=.type "dict",data:=.dict #[]}:=by
  obtain ⟨sl,e,k⟩:=P1.ext.own P0.rel (by simp [aO.own]) (λw=>w) gD
  rw [k (by simp [cG])] at e; exact e
 haveI L9:s2.heap.get? s.heap.objs.size=js {cls:=.type "dict",data:=.dict #[]}:=by
  obtain ⟨sl,e,k⟩:=P2.ext.own P1.rel (P1.ext.aX (by simp [aO.own])) (λw=>w) WT
  rw [k (by simp [cG])] at e; exact e
 refine iv _ _ <| dH ([(i,uv)]) (cW (am8 _ _ _ _) rfl trivial) (kD L9) (λh' hm VG=> ?_)
 obtain ⟨p1,p2,p3⟩:=((P0.trans P1).trans P2).adopt H.rel (D:=[s.heap.objs.size]) (λb hb=>by simp at hb; subst hb; exact ⟨(P2.ext.aX (P1.ext.aX (by simp [aO.own]))),aK _⟩) (λb o hb e=>(VG.2 b (by simpa using hb)).trans e) (.head _) H.rel.zh.1 (o:=.bM t [(i,vv)]) λhv=>⟨rfl,_,hm,b8.jB (hv _ _ r2) b8.nil⟩
 exact kq _ _ _ _ _ (p1.tok _) p3 w3
end
theorem kK {a:Nj} (hn:s.heap.Ns a m) name v:∃h,∀Q:Unit->Pos->FF->Prop,
  Sem.wp M Γ (nsSet a name v) Q E p s↔Q () p {s with heap:=s.heap.update a (ab8 name h (.str name s.toks) v),toks:=s.toks+1}:=by
 refine BW hn λo es ep ho hd hk hm=> ?_
 haveI QK:es.any (·.refKey)=Fk:=by
  rw [Array.any_eq_false']; intro e he; obtain ⟨n,t,h⟩:=(hk e he); simp [av4,h]
 refine ⟨if name.cps.isEmpty=vk then 0 else reduceHash (M.w.params.strHash name.cps),λQ=> ?q⟩
 case q=>
  simp only [nsSet,strHash,Sem.wp_bind',Sem.wp_cmd_ask,Sem.wp_pure',Sem.wp_cmd_mkText]
  rw [Sem.wp_loadPart_of M Γ E p {s with toks:=s.toks+1} _ ho]
  simp only [hd,aRefKeyMayBeTheName_eq,aRefKeyMayBeTheNameByArray,QK,ap0,ZE,if_false,Sem.wp_cmd_updatePart]
  exact ⟨λq=>q.2,λq=>⟨by refine af ho ?_; rfl,q⟩⟩
theorem tA (name:Zu) (h:Int) (k v:vi) (o:Obj):(ab8 name h k v o).cls=o.cls:=by
 obtain ⟨c,d,w,sl⟩:=o
 cases w with
 | dict es n=>
  unfold ab8
  dsimp only
  generalize nsPutIn _ _ _ _=r
  obtain ⟨sf,b⟩:=r
  cases b <;> rfl
 | _=>rfl
theorem zV {v:vi} {s} {Q} (hl:env.kindOf name=js .local) (hk:env.scope.kind=.function) (hn:s.heap.Ns env.locals m)
  (h:∀h',h'.Ns env.locals (λx=>if x=name then js v else m x)->aa0 env.locals s.heap h'->(∀o,s.heap.get? env.locals=js o->∃o',h'.get? env.locals=js o'/\o'.cls=o.cls)->Q () {s with heap:=h',toks:=s.toks+1}):
  IQ M A (ai5 env name v) Q E s:=by
 rw [storeName_local hl (by rw [hk]; rfl)]
 intro Γ p Sq
 refine dJ (kK (M:=M) (Γ:=Γ) (E:=λv o_ s=>E v s) (p:=p) hn name v) λhh iff=> ?_
 have key:(s.heap.update env.locals (ab8 name hh (.str name s.toks) v)).Ns env.locals (λx=>if x=name then js v else m x):=
  (iff λo_ o_ s'=>s'.heap.Ns env.locals (λx=>if x=name then js v else m x)).mp (Sem.wp_nsSet M Γ _ p s hn name v _ λh' a o_=>a)
 refine (iff _).mpr (h _ key (ZQ ..) λo e=> ?_)
 refine mE key λo' es ep e' r=>az o' e' ?_
 have:s.heap.get? env.locals=js o:=e
 haveI e2:=YM (ab8 name hh (.str name s.toks) v) e (by
  refine lx hn λo1 Jr YY g1 d1 o_=> ?_
  obtain rfl:=se e g1
  obtain ⟨c,d,dt,sl⟩:=o
  clear g1 r
  subst d1
  unfold ab8
  dsimp only
  generalize nsPutIn _ _ _ _=r
  obtain ⟨sf,b⟩:=r
  cases b <;> rfl)
 exact bD (se e2 e') <| tA ..
section
theorem aj.turn (R:bc T ρ σ s.heap) (wl:d4 W ρ) {a:Nj} (ha:W a) (hs:aa0 a s.heap h') (al:∃o,h'.get? a=js o) (tk:Nat):
  aj T W ρ s ρ σ {s with heap:=h',toks:=tk}:=by
 haveI X:dZ T W ρ s.heap ρ h':=⟨(bP ([]) ([]) (by simp) (of_decide_eq_true rfl) (of_decide_eq_true rfl)),λb o e o_ o_ w=>(az o.slots ((hs.2 b λz=>w (z▸ha)).trans e) (λo_=>rfl)),λb o e=>by
  by_cases z:b=a
  ·refine bD z.symm ?_; exact al
  ·exact ⟨o,(hs.2 b z).trans e⟩⟩
 haveI hp:=R.aX a (wl a ha)
 refine ⟨R.sV X wl (λb f=>hs.2 b λz=>hp.1 (z▸f)) (R.tabs.tQ (λq hq ps e=>(hs.2 _ λz=>hp.2.2.1 (z▸(az q hq rfl))).trans e) λb o vs e d m=>⟨(hs.2 b λz=>m (z▸wl a ha)).trans e,m⟩),X,rfl,rfl⟩
theorem bC.turn {a:Nj} (f:bC h L) (hs:aa0 a h h') (hn:h'.Ns a m) (k:∀o,h.get? a=js o->∃o',h'.get? a=js o'/\o'.cls=o.cls):bC h' L:=by
 refine lx f λo es nn e c d=> ?_
 by_cases z:L=a
 ·clear f
  obtain rfl:=z.symm
  refine ag (k o e) λo' e' c'=>lx hn λo2 zu Ra e2 d2 o_=> ?_
  obtain rfl:=se e' e2
  exact v9 o' zu Ra e' (c'.trans c) d2
 ·exact v9 o es nn ((hs.2 L z).trans e) c d
set_option tactic.hygienic true in
theorem sT {Q':Unit->FF->Prop} (R:bc T ρ σ s.heap) (E:d8 ρ s.heap env m) (r:pO T ρ s.heap env m en) (wl:d4 W ρ) (hk:env.kindOf (T.nm x)=js .local∨env.kindOf (T.nm x)=js .cell)
  (hW:(env.kindOf (T.nm x)=js .local->W env.locals)/\(env.kindOf (T.nm x)=js .cell->∀c,env.cells.lookup (T.nm x)=js c->W c)) (rv:aq ρ s.heap v u)
  (k:∀h' tk,aj T W ρ s ρ σ {s with heap:=h',toks:=tk}->dD T ρ h' env (en.set x v)->Q' () {s with heap:=h',toks:=tk}):IQ (Hj T.prog T.w) A (ai5 env (T.nm x) u) Q' E' s:=by
 rcases hk with hk | hk
 ·refine zV hk E.kind E.ns λh' hn hs hc=> ?_
  obtain ⟨o0,e0⟩:∃o,s.heap.get? env.locals=js o:=mE E.ns λo _ _ e _=>⟨o,e⟩
  have P:=aj.turn R wl (hW.1 hk) hs (ag (hc o0 e0) λo' e' _=>⟨o',e'⟩) (s.toks+1)
  refine k _ _ P (az _ ⟨E.kind,E.globals,E.builtins,hn,E.lp,?_,λy c jC=> ?_,E.apart,E.has⟩ (λy w hy=> ?_))
  ·exact bZ E.fr λL e hp f=>dH L e hp (f.turn hs hn hc)
  ·obtain ⟨hp,ne,v,hv⟩:=E.cells y c jC
   exact ⟨hp,ne,v,hv.sameBut hs ne⟩
  ·have hex:=λq (z:aq ρ s.heap w q)=>z.ext P.ext R.aF wl
   rw [j6] at hy
   by_cases z:y=x
   ·obtain rfl:=z.symm
    obtain rfl:=se (if_pos rfl) hy
    refine ⟨λ_=>(az u (if_pos rfl) (hex _ rv)),λq=> ?_⟩
    rw [hk] at q
    rcases q with q | q <;> exact nomatch q
   ·rw [if_neg z] at hy
    refine dP (r y w hy) λr1 r2=>⟨λq=> ?_,λq=> ?_⟩
    ·exact ag (r1 q) λu' e1 e2=>az u' ((if_neg λe=>z (R.ok.jS _ _ e)).trans e1) (hex _ e2)
    ·exact bp (r2 q) λc u' e1 e2 e3=>bP c u' e1 (e2.sameBut hs (E.cells _ _ e1).2.1) (hex _ e3)
 ·refine dJ (E.has _ (.inl hk)) λc hc=> ?_
  obtain ⟨hp,ne,v0,CU⟩:=E.cells _ _ hc
  refine wpAny_storeName_cell E.kind hk hc CU λh' jC hs=> ?_
  have P:=aj.turn R wl (hW.2 hk c hc) hs (ag jC λo' e' _=>⟨o',e'⟩) s.toks
  haveI fy:=E.ns.sameBut hs (ag5 ne)
  refine k _ _ P (az _ ⟨E.kind,E.globals,E.builtins,fy,E.lp,?_,λy c2 Iz=> ?_,E.apart,E.has⟩ (λy w hy=> ?_))
  ·refine bZ E.fr λL e fP f=>dH L e fP <| lx f λo es nn e1 c1 d1=>v9 o es nn ((hs.2 L λz=> ?_).trans e1) c1 d1
   clear c1 fP fy ne f hp
   subst z
   refine ag CU λo2 e2 d2=> ?_
   obtain rfl:=se e2 e1
   replace d2:=d1.symm.trans d2; cases d2
  ·obtain ⟨Jg,ne2,v2,Vz⟩:=E.cells y c2 Iz
   by_cases z:c2=c
   ·obtain rfl:=z.symm; exact ⟨Jg,ne2,_,jC⟩
   ·exact ⟨Jg,ne2,v2,Vz.sameBut hs z⟩
  ·have hex:=λq (z:aq ρ s.heap w q)=>z.ext P.ext R.aF wl
   rw [j6] at hy
   by_cases z:y=x
   ·obtain rfl:=z.symm
    obtain rfl:=se (if_pos rfl) hy
    exact ⟨λq=>(by replace q:=hk.symm.trans q; exact nomatch q),λ_=>(bP c u hc jC (hex _ rv))⟩
   ·rw [if_neg z] at hy
    refine dP (r y w hy) λr1 r2=>⟨λq=> ?_,λq=> ?_⟩
    ·exact ag (r1 q) λu' e1 e2=>az u' e1 (hex _ e2)
    ·refine bp (r2 q) λc2 u' e1 e2 e3=>bP c2 u' e1 (e2.sameBut hs λzz=> ?_) (hex _ e3)
     obtain rfl:=zz.symm
     exact z (R.ok.jS _ _ (E.apart _ _ _ e1 hc))
theorem fe.length:∀{fs:List (Nat×V)} {es},fe T ρ h fs es->es.length=fs.length
 | [],_,r=>by subst r; rfl
 | (c,v)::fs,_,r=>by
  obtain ⟨e,es,rfl,o_,o_,r⟩:=r
  simp [fe.length r]
theorem fe.put (inj:∀a b,T.nm a=T.nm b->a=b) (a:Nat) (rv:aq ρ h v u) (Gh:Int) (t:Tok):∀{fs:List (Nat×V)} {es:List ad0},fe T ρ h fs es->
  fe T ρ h (gB a v fs) (putL (T.nm a) Gh (.str (T.nm a) t) u es)
 | [],_,r=>by subst r; exact qb _ ([]) rfl ⟨t,rfl⟩ rv rfl
 | (c,v')::fs,_,r=>by
  obtain ⟨e,es,q1,⟨t',hk⟩,UE,r⟩:=r
  subst q1
  rw [rq]; unfold putL
  by_cases hc:c=a
  ·refine af hc.symm ?_
   rw [if_pos rfl,if_pos (by refine af hk ?_; simp [ao8])]
   exact qb _ es rfl ⟨t',hk⟩ rv r
  ·rw [if_neg hc,if_neg (by refine af hk ?_; rw [ao8,beq_iff_eq]; exact λz=>hc (inj _ _ z))]
   exact qb _ _ rfl ⟨t',hk⟩ UE (fe.put inj a rv Gh t r)
theorem tj (a:Nat) (v:V):∀fs:List (Nat×V),(gB a v fs).length<=fs.length+1
 | []=>af0 1
 | (c,u)::fs=>by
  rw [rq]
  split
  ·simp
  ·simp only [List.length_cons]; exact Y1 [_,_] [] (.l (.a V0 (.n 1)) (.a (.a V1 (.n 1)) (.n 1))) (.l V0 (.a V1 (.n 1))) (tj a v fs) rfl
theorem ti (a:Nat) (v:V):∀(fs:List (Nat×V)),∀q∈gB a v fs,q.1=a∨∃p∈fs,p.1=q.1
 | []=>λq h=>by refine af (ar2.mp h) ?_; exact .inl rfl
 | (c,u)::fs=>λq h=>by
  rw [rq] at h
  split at h
  ·rename_i z
   refine mh (Zr.mp h) ?_ λh=> ?_
   ·exact .inl z
   ·exact .inr ⟨q,.tail _ h,rfl⟩
  ·refine mh (Zr.mp h) ?_ λh=> ?_
   ·exact .inr ⟨_,.head _,rfl⟩
   ·rcases ti a v fs q h with z | ⟨p,hp,z⟩
    ·exact .inl z
    ·exact .inr ⟨p,.tail _ hp,z⟩
theorem EJ {es:List ad0} {dx:Nj} (fr:fe T ρ h fs es) (D:h.get? dx=js (ad4 es nn)):h.Ns dx (nsFind es.toArray):=by
 refine yO _ es.toArray nn D rfl (λe he=> ?_) (λo_=>rfl)
 have:∀{fs:List (Nat×V)} {es},fe T ρ h fs es->∀e∈es,∃n t,e.key=.str n t:=by
  intro fs
  induction fs with
  | nil=>intro es r e he; subst r; cases he
  | cons q fs ih=>
   intro es r e he
   refine ax λG_ ae=> ?_
   obtain ⟨e0,es,rfl,⟨t,k⟩,o_,r⟩:=r
   refine ae <| mh (Zr.mp he) ?_ λhe=> ?_
   ·exact rU _ _ k
   ·exact ih r e he
 exact this fr e (by simpa using he)
theorem kg {es:List ad0} {dx:Nj} {a:Nat} {Q:Fin->FF->Prop} (inj:∀a b,T.nm a=T.nm b->a=b) (fr:fe T ρ s.heap fs es) (D:s.heap.get? dx=js (ad4 es nn)) (hz:fs.length<=50)
  (rv:aq ρ s.heap v u)
  (q:∀h' sf n',aa0 dx s.heap h'->h'.get? dx=js (ad4 sf n')->fe T ρ s.heap (gB a v fs) sf->Q (.done (.ret .none)) {s with heap:=h',toks:=s.toks+1}):IQ M A (do nsSet dx (T.nm a) u; lookBehind dx (js (.str (T.nm a) 0)); ret .none) Q E' s:=by
 intro Γ pp Sq
 refine dJ (kK (M:=M) (Γ:=Γ) (E:=λv o_ s=>E' v s) (p:=pp) (EJ fr D) (T.nm a) u) λGh iff=> ?_
 haveI D':(s.heap.update dx (ab8 (T.nm a) Gh (.str (T.nm a) s.toks) u)).get? dx=js (ad4 (putL (T.nm a) Gh (.str (T.nm a) s.toks) u es) (putN (T.nm a) es nn)):=by
  have:=YM (ab8 (T.nm a) Gh (.str (T.nm a) s.toks) u) D (by rw [putName_dict]; rfl)
  rw [putName_dict] at this
  exact this
 haveI fp:=fr.put inj a rv Gh s.toks
 haveI WY:=fp.length
 have:=tj a v fs
 haveI go:Sem.wp M Γ (do nsSet dx (T.nm a) u; lookBehind dx (js (.str (T.nm a) 0)); ret .none) (λr o_ s'=>Q r s') (λv o_ s=>E' v s) pp s:=by
  rw [Sem.wp_bind']
  refine (iff _).mpr ?_
  haveI z:IQ M A (do lookBehind dx (js (.str (T.nm a) 0)); ret .none) Q E' {s with heap:=s.heap.update dx (ab8 (T.nm a) Gh (.str (T.nm a) s.toks) u),toks:=s.toks+1}:=
   j' (wpAny_lookBehind D' (pastItsLine_dict (by rw [List.size_toArray,Zs]; exact Y3 [_,_,_] [] (.l V0 (.a (.n 16777216) (.n 1))) (.l V1 (.n 50)) (.e V0 V2) (.l V2 (.a V1 (.n 1))) hz WY this rfl)) (yd (q _ _ _ (ZQ ..) D' fp)))
  exact z Γ pp Sq
 exact go
theorem oO {m a:Nat} {p:Nj×Nj} {Q':Unit->FF->Prop} (R:bc T ρ σ s.heap) (e:σ[m]? =js (.inst k fs)) (hp:ρ.o[m]? =js p) (rv:aq ρ s.heap v u) (hf:T.fieldOf k a=vk) (hz:fs.length<=50)
  (q:∀h' tk,aj T W0 ρ s ρ (σ.set m (.inst k (gB a v fs))) {s with heap:=h',toks:=tk}->Q' () {s with heap:=h',toks:=tk}):IQ (Hj T.prog T.w) A (setAttr (.ref p.1) (T.nm a) u) Q' E' s:=by
 refine uy (R.inst e hp) λes nn I fr k1 k2 lq=>si (R.ok.cls k k1) λc1 c2 c3 c4=> ?_
 haveI X:=R.K
 haveI ht:ak8 T.K (T.cY k) (T.nm a)=js vd:=by unfold ak8; refine af (R.ok.fld k a hf) ?_; rfl
 refine ag (any_some c2) λcd hc CY=> ?_
 haveI I':=I
 obtain ⟨hx,pg,hn,-⟩:=I'
 obtain ⟨hh,gg,dd,tt,os⟩:=s
 replace X:T.K.In hh:=X
 refine set_plain X I c4 (osa_open X I c3 ht λb=> ?_)
 refine j' (yd (j' (j' (ap1 hx (j' ((ap2 X hc).here ?_))))))
 refine (CY.symm▸?_)
 refine yd (j' (yd ?_))
 refine kg (s:=⟨hh,gg,dd,tt+1,os⟩) R.ok.jS fr I.dict hz rv λh' sf n' sb D' Gx=> ?_
 obtain ⟨R3,X3⟩:=R.upd hp (.inr rfl) sb (o:=.inst k (gB a v fs)) ⟨_,D'⟩ λx=>⟨lq,k1,λqq hq=>by
  rcases ti a v fs qq hq with z | ⟨p0,VO,z⟩
  ·exact z▸hf
  ·refine bD z ?_; exact k2 p0 VO,(sb.2 _ lq).trans hx,sf,n',D',Gx.ext x R.aF (d4.zero _)⟩
 exact q h' _ ⟨R3,X3,rfl,rfl⟩
end
def kE (k:Bool) (h:Z4) (a:Nj) (xs:Array vi):Prop:=match k with | true=>h.IsList a xs | false=>IsTup h a xs
def nv (k:Bool) (h:Z4) (it a:Nj) (i:Nat):Prop:=match k with | true=>h.IsListIter it a i | false=>IsTupIter h it a i
section
variable {E:vi->FF->Prop} {k:Bool} {a it:Nj} {i:Nat}
theorem kS {Q:vi->FF->Prop} (hl:kE k s.heap a xs) (hQ:∀h',Grows s.heap h'->nv k h' s.heap.objs.size a 0->Q (.ref s.heap.objs.size) {s with heap:=h'}):IQ (Hj prog w) A (al2 (.ref a)) Q E s:=by
 cases k with
 | true=>exact wpAny_pyIter_list hl (hQ _ (Grows.push _ _) (dH _ (Q1 _ rfl) rfl rfl))
 | false=>exact iter_tuple hl (hQ _ (Grows.push _ _) (dH _ (Q1 _ rfl) rfl rfl))
theorem tq {x:vi} {Q:Option vi->FF->Prop} (hit:nv k s.heap it a i) (hl:kE k s.heap a xs) (hx:xs[i]? =js x) (hQ:∀h',nv k h' it a (i+1)->aa0 it s.heap h'->Q (js x) {s with heap:=h'}):
  IQ (Hj prog w) A (ar3 (.ref it)) Q E s:=by
 cases k with
 | true=>exact wpAny_pyNext_list_item hit hl hx hQ
 | false=>exact next_tuple_item hit hl hx hQ
theorem wW {Q:Option vi->FF->Prop} (hh:A.handled=vd) (hit:nv k s.heap it a i) (hl:kE k s.heap a xs) (hx:xs[i]? =vd) (hQ:∀h',ak9 it s.heap h'->Q vd {s with heap:=h'}):
  IQ (Hj prog w) A (ar3 (.ref it)) Q E s:=by
 cases k with
 | true=>exact wpAny_pyNext_list_end hh hit hl hx hQ
 | false=>exact next_tuple_end hh hit hl hx hQ
theorem kE.but (x:kE k h a xs) (hs:ak9 b h h') (NT:a ≠ b):kE k h' a xs:=by
 cases k with
 | true=>exact Heap.IsList.extBut x hs NT
 | false=>exact IsTup.extBut x hs NT
theorem kE.alive (x:kE k h a xs):∃o,h.get? a=js o:=by
 cases k with
 | true=>refine ag x λo e o_=> ?_; exact ⟨o,e⟩
 | false=>refine ag x λo e o_=> ?_; exact ⟨o,e⟩
theorem kE.grows (x:kE k h a xs) (g:Grows h h'):kE k h' a xs:=by
 cases k with
 | true=>refine ag x λo e r=> ?_; exact az o (g _ _ e) r
 | false=>refine ag x λo e r=> ?_; exact az o (g _ _ e) r
theorem tr (lq:a ≠ it):∀(n i:Nat) (s:FF) (Q:List vi->FF->Prop),nv k s.heap it a i->kE k s.heap a xs->i+n<=xs.size->
  (∀h',nv k h' it a (i+n)->aa0 it s.heap h'->Q ((xs.toList.drop i).take n) {s with heap:=h'})->IQ (Hj prog w) A (draw (.ref it) n) Q E s
 | 0=>λi s Q hit o_ o_ hQ=>yd (hQ s.heap hit (Heap.SameBut.refl ..))
 | n+1=>λi s Q hit ht hle hQ=>by
  have iT:i < xs.size:=Y1 [_,_,_] [] (.t V0 V1) (.l (.a V0 (.a V2 (.n 1))) V1) hle rfl
  refine j' (tq hit ht (x:=xs[i]) (by simp [iT]) λbQ Ir pe=> ?_)
  refine j' (N6 (tr lq n (i+1) _ _ Ir (ht.but pe.extBut lq) (Y1 [_,_,_] [] (.l (.a (.a V0 (.n 1)) V1) V2) (.l (.a V0 (.a V1 (.n 1))) V2) hle rfl) λnL Iq Lc=>yd ?_))
  haveI hd:xs.toList.drop i=xs[i]::xs.toList.drop (i+1):=by simp [Z1,iT]
  have:=hQ nL (by simp only [show i+(n+1)=i+1+n by exact Y0 [_,_] [] (.e (.a V0 (.a V1 (.n 1))) (.a (.a V0 (.n 1)) V1)) rfl]; exact Iq) (pe.trans Lc)
  rw [hd,List.take_succ_cons] at this
  exact this
theorem il {Q:List vi->FF->Prop} (hh:A.handled=vd) (ht:kE k s.heap a xs) (hQ:∀h',Grows s.heap h'->Q xs.toList {s with heap:=h'}):IQ (Hj prog w) A (unpackItems (.ref a) xs.size vd) Q E s:=by
 refine dJ ht.alive λo0 e0=> ?_
 haveI iT:=ai2 (ZU e0)
 haveI tail:IQ (Hj prog w) A (do
   let it<-am6 [.ref a] (al2 (.ref a))
   let items<-am6 [it] (draw it xs.size)
   if items.length < xs.size then
    rule "unpack.too-few"; raiseError "ValueError" s!"not enough values to unpack (expected {xs.size}, got {items.length})"
   if (<-am6 items (ar3 it)).isSome then
    rule "unpack.too-many"; raiseError "ValueError" s!"too many values to unpack (expected {xs.size})"
   return items) Q E s:=by
  refine j' (N6 (kS ht λh1 g1 Vq=> ?_))
  refine j' (N6 (tr iT xs.size 0 _ _ Vq (ht.grows g1) (Y0 [_] [] (.l (.a (.n 0) V0) V0) rfl) λh2 Jd Ij=> ?_))
  refine ((az8▸(af7 (af0 _)):List.take xs.size (ap8 0 xs.toList)=xs.toList).symm▸?_)
  refine af (if_neg (by simp)) <| wpAny_bind (N6 (wW hh Jd ((ht.grows g1).but Ij.extBut iT) (by simp) λh3 NO=> ?_))
  refine yd (hQ h3 λb o e=> ?_)
  haveI hb:=ai2 (ZU e)
  exact NO b o hb (Ij.extBut b o hb (g1 b o e))
 cases k with
 | true=>
  refine j' <| wpAny_bind (an9 (Heap.IsList.typeIs ht) slot_list_iter.lookup ?_)
  exact yd <| tail
 | false=>
  refine j' <| wpAny_bind (an9 (IsTup.typeIs ht) slot_tuple_iter.lookup ?_)
  exact yd <| tail
end
section
noncomputable def vV:V->Bool
 | .tup _=>Fk
 | _=>vk
set_option tactic.hygienic true in
theorem bc.seq' (R:bc T ρ σ s.heap) (e:aQ σ v=js l) (r:aq ρ s.heap v u):
  ∃a xs,u=.ref a/\kE (vV v) s.heap a xs/\ai ρ s.heap l xs.toList/\l.length<=bf/\xs.size=l.length:=by
 revert r
 refine xv e (λr=> ?_) (λr=> ?_) λm t e r=> ?_
 ·exact jj r λa xs n q e f z r=>Em a xs q ⟨_,e,rfl,n,rfl⟩ r z r.length
 ·exact jj r λa xs n q e f z r=>Em a xs q ⟨_,e,rfl,n,rfl⟩ r z r.length
 ·exact jj (R.list e r) λa xs k q _ g r z=>Em a xs q ⟨_,g,rfl,k,rfl⟩ r z r.length
theorem bc.seq (R:bc T ρ σ s.heap) (e:aQ σ v=js l) (r:aq ρ s.heap v u):
  ∃k a xs,u=.ref a/\kE k s.heap a xs/\ai ρ s.heap l xs.toList/\l.length<=bf/\xs.size=l.length:=by
 obtain ⟨a,xs,h⟩:=(R.seq' e r)
 exact El _ a xs h
def WF (env:Env):Nj->Prop:=λb=>b=env.locals∨∃x,env.cells.lookup x=js b
theorem d8.n8 (E:d8 ρ h env m):d4 (WF env) ρ:=λb hb=>by
 rcases hb with rfl | ⟨x,hx⟩
 ·exact E.lp
 ·exact (E.cells x b hx).1
structure bO (T:Cx) (n:Nat) (ρ:aO) (σ:St) (s:FF) (A:ae4) (env:Env) (en:En) (L:Nj):Prop where
 rel:bc T ρ σ s.heap
 hd:A.handled=vd
 out:∃outer,A.frames=js (env::outer)/\au ρ s.heap outer/\∀e∈outer,∀L,e.frame=js L->¬WF env L
 lB:A.depth+5*n+14<=aa5
 lO:A.units+60*n+100<=an6
 fr:env.frame=js L
 env:dD T ρ s.heap env en
set_option tactic.hygienic true in
theorem bO.here (H:bO T n ρ σ s A env en L):dm T n ρ σ s A env en L:=by
 refine bZ H.out λouter e1 f _=>ag H.env λm E _=>⟨H.rel,(dh env outer ⟨H.hd,e1,λe he=> ?_,Y1 [_,_,_] [] (.l (.a (.a V0 (.m 5 V1)) (.n 10)) V2) (.l (.a (.a V0 (.m 5 V1)) (.n 14)) V2) H.lB rfl,Y1 [_,_,_] [] (.l (.a (.a V0 (.m 60 V1)) (.n 60)) V2) (.l (.a (.a V0 (.m 60 V1)) (.n 100)) V2) H.lO rfl⟩ H.fr),Y1 [_,_,_] [] (.l (.a (.a V0 (.m 5 V1)) (.n 12)) V2) (.l (.a (.a V0 (.m 5 V1)) (.n 14)) V2) H.lB rfl,Y1 [_,_,_] [] (.l (.a (.a V0 (.m 60 V1)) (.n 90)) V2) (.l (.a (.a V0 (.m 60 V1)) (.n 100)) V2) H.lO rfl,H.fr,H.env⟩
 refine mh (Zr.mp he) ?_ λhe=> ?_
 ·exact ⟨by refine af E.kind ?_; simp,E.fr⟩
 ·exact f e he
theorem bO.n8 (H:bO T n ρ σ s A env en L):d4 (WF env) ρ:=by refine ag H.env λm E o_=> ?_; exact E.n8
theorem bO.step (H:bO T n ρ σ s A env en L) (p:aj T (WF env) ρ s am aa s') (e:dD T am s'.heap env aH):bO T n am aa s' A env aH L:=bZ H.out λouter e1 f ap=>⟨p.rel,H.hd,(dH outer e1 (f.ext p.ext H.rel ap) ap),H.lB,H.lO,H.fr,e⟩
theorem aj.mono (p:aj T W ρ s am aa s') (k:∀b,W b->W' b):aj T W' ρ s am aa s':=⟨p.rel,p.ext.mono k,p.gens,p.os⟩
theorem aj.up (p:aj T W0 ρ s am aa s'):aj T W ρ s am aa s':=p.mono λo_ w=>w.elim
theorem bO.cU (H:bO T n ρ σ s A env en L) (p:aj T W0 ρ s am aa s'):bO T n am aa s' A env en L:=H.step p.up (H.env.ext p.ext H.rel)
theorem KX.up (k:KX T W ρ s L X E'):KX T W0 ρ s L X E':=λth e am aa s' p f x q=>k th e am aa s' p.up f x q
abbrev KS (T:Cx) (env:Env) (ρ:aO) (s:FF) (Q:En->St->Prop) (Q':Unit->FF->Prop):Prop:=
 ∀aH am aa s',aj T (WF env) ρ s am aa s'->dD T am s'.heap env aH->Q aH aa->Q' () s'
def MY (ρ:aO) (h:Z4):Fl->aq4->Prop
 | .next=>λf=>f=.next
 | .brk=>λf=>f=.brk
 | .cont=>λf=>f=.cont
 | .ret v=>λf=>∃u,f=.ret u/\aq ρ h v u
abbrev KF (T:Cx) (env:Env) (ρ:aO) (s:FF) (Q:Fl->En->St->Prop) (Q':aq4->FF->Prop):Prop:=
 ∀fl f aH am aa s',aj T (WF env) ρ s am aa s'->dD T am s'.heap env aH->MY am s'.heap fl f->Q fl aH aa->Q' f s'
theorem KS.step {Q} {Q'} (k:KS T env ρ s Q Q') (p:aj T (WF env) ρ s am aa s'):KS T env am s' Q Q':=λaH o_ o_ o_ p' e q=>k aH _ _ _ (p.trans p') e q
theorem KF.step {Q} {Q'} (k:KF T env ρ s Q Q') (p:aj T (WF env) ρ s am aa s'):KF T env am s' Q Q':=λfl f aH o_ o_ o_ p' e r q=>k fl f aH _ _ _ (p.trans p') e r q
def rg (T:Cx) (c:Cc) (n:Nat) (env:Env) (t:Xq) (mt:Tg):Prop:=
 ∀⦃ρ σ s A en L v u⦄ ⦃Q:En->St->Prop⦄ ⦃X:V->St->Prop⦄ ⦃Q':Unit->FF->Prop⦄ ⦃E':vi->FF->Prop⦄,bO T n ρ σ s A env en L->aq ρ s.heap v u->I4 c mt v Q X en σ->KS T env ρ s Q Q'->KX T (WF env) ρ s L X E'->
  IQ (Hj T.prog T.w) A (ah7 t env u) Q' E' s
def dk (T:Cx) (c:Cc) (n:Nat) (env:Env) (st:ad3) (ms:S):Prop:=
 ∀⦃ρ σ s A en L⦄ ⦃Q:Fl->En->St->Prop⦄ ⦃X:V->St->Prop⦄ ⦃Q':aq4->FF->Prop⦄ ⦃E':vi->FF->Prop⦄,bO T n ρ σ s A env en L->wpS c ms Q X en σ->KF T env ρ s Q Q'->KX T (WF env) ρ s L X E'->
  IQ (Hj T.prog T.w) A (exec st env) Q' E' s
def f7 (T:Cx) (c:Cc) (n:Nat) (env:Env) (st:List ad3) (ms:Ss):Prop:=
 ∀⦃ρ σ s A en L⦄ ⦃Q:Fl->En->St->Prop⦄ ⦃X:V->St->Prop⦄ ⦃Q':aq4->FF->Prop⦄ ⦃E':vi->FF->Prop⦄,bO T n ρ σ s A env en L->bX c ms Q X en σ->KF T env ρ s Q Q'->KX T (WF env) ρ s L X E'->
  IQ (Hj T.prog T.w) A (execs st env) Q' E' s
theorem vq:f7 T c n env [] .nil:=λρ σ s A en L Q X Q' E' H wp kf o_=>yd (kf .next _ _ _ _ _ (.refl H.rel) H.env rfl wp)
theorem sY {ms:S} {st} {r} (h1:dk T c n env st ms) (h2:f7 T c n env r mr):f7 T c n env (st::r) (.cons ms mr):=by
 intro ρ σ s A en L Q X Q' E' H wp kf kx
 refine j' (h1 H wp (λfl f zv aU aT s1 P1 e1 r1 w1=> ?_) kx)
 cases fl with
 | next=>
  subst r1
  exact h2 (H.step P1 e1) w1 (kf.step P1) (kx.step P1)
 | brk=>subst r1; exact yd (kf .brk _ _ _ _ _ P1 e1 rfl w1)
 | cont=>subst r1; exact yd (kf .cont _ _ _ _ _ P1 e1 rfl w1)
 | ret v=>
  obtain ⟨u,rfl,r1⟩:=r1
  exact yd (kf (.ret v) _ _ _ _ _ P1 e1 (az u rfl r1) w1)
theorem iX (hy:T.nm x=y) (hk:env.kindOf y=js .local∨env.kindOf y=js .cell):rg T c n env (.Name y pos) (.nm x):=by
 intro ρ σ s A en L v u Q X Q' E' H rv wp ks kx
 refine ag H.env λm E r=> ?_
 subst hy
 refine af2 (sT H.rel E r E.n8 hk ⟨λo_=> .inl rfl,λo_ c hc=> .inr ⟨_,hc⟩⟩ rv λh' tk P e=>ks _ _ _ _ P e wp)
theorem sX {a:Nat} (C:fv T c n) (h:aw T c n env e me) (hy:T.nm a=y):rg T c n env (.Attribute e y pos) (.at me a):=by
 intro ρ σ s A en L v u Q X Q' E' H rv wp ks kx
 subst hy
 refine j' (N6 (h H.here wp (λvo uo aU aT s1 P1 r1 w1=> ?_) kx.up))
 refine ax λG_ ae=>bp (dL.mp w1) λm ob q1 e1 w2=> ?_
 clear w1 kx
 subst q1
 refine nS (oP.mp w2) λk fs q2 hf hz w3=> ?_
 subst q2
 refine ag r1 λp hp q3=> ?_
 subst q3
 refine ae ?_
 rw [C.field] at hf
 refine j' (Zq (j' (N6 (oO P1.rel e1 hp (P1.val H.rel rv) hf hz λh' tk P2=>al3 (ks _ _ _ _ (P1.trans P2).up ?_ w3)))))
 exact H.env.ext (P1.trans P2).ext H.rel
theorem ai.setAt (r:ai ρ h l us) (p:Nat) (rv:aq ρ h v u):ai ρ h (l.set p v) (us.set p u):=by
 refine ai.mk (by simp [r.length]) λi w y a b=> ?_
 rw [List.getElem?_set] at a b
 split at a
 ·rename_i q
  replace b:=(if_pos q).symm.trans b
  split at a
  ·rename_i z; rw [if_pos (by rw [r.length]; exact z)] at b; refine bD (vo a) ?_; refine bD (vo b) ?_; exact rv
  ·exact aI a
 ·rename_i q
  replace b:=(if_neg q).symm.trans b
  refine ag (r.get _ _ a) λy' e r'=>bD (se e b) ?_; exact r'
theorem vR {m:Nat} {ob OW:O} {p:Nj×Nj} {k:V} {uk:vi} {Q':Unit->FF->Prop} (R:bc T ρ σ s.heap) (hu:A.units+1 < an6) (e:σ[m]? =js ob) (hp:ρ.o[m]? =js p) (rk:aq ρ s.heap k uk) (rv:aq ρ s.heap v u) (wp:nC ob k v=js OW)
  (q:∀h' tk,aj T W0 ρ s ρ (σ.set m OW) {s with heap:=h',toks:=tk}->Q' () {s with heap:=h',toks:=tk}):IQ (Hj T.prog T.w) A (at4 (.ref p.1) uk u) Q' E' s:=by
 cases ob with
 | list t l=>
  refine DT (P:=λuk=>IQ (Hj T.prog T.w) A (at4 (.ref p.1) uk u) Q' E' s) wp rk λj tk wp=>ag (Zt.mp wp) λpl sG h2=>v8 h2 λiT h2=> ?_
  obtain rfl:=vo h2
  refine nS (R.Eo e hp) λxs kk g r z c8=> ?_
  haveI P2:=R.cu e hp (λys=>ys.setIfInBounds pl u) (λys r=>by
   simp only [Array.toList_setIfInBounds]; exact r.setAt pl rv) (by simpa using z)
  rw [<-c8] at sG iT
  exact rE sG (λh0 h1 ep=>ki_setAt g h0 h1 ((Int.toNat_lt h0).mp (ep▸iT)) (ep▸q _ s.toks P2)) λh0 h1 h2 ep=>ki_setBack g h0 h1 h2 (ep▸q _ s.toks P2)
 | bM t kvs=>
  refine DT (P:=λuk=>IQ (Hj T.prog T.w) A (at4 (.ref p.1) uk u) Q' E' s) wp rk λj tk wp=>v8 wp λhz wp=> ?_
  obtain rfl:=vo wp
  obtain ⟨e3,bB,D,kr⟩:=R.obj _ _ p e hp
  refine aq5 (am8 _ _ j tk) D (λh' D' S=> ?_) (by simp only [kr.length,Zs]; unfold bf at hz; exact Y1 [_] [] (.l V0 (.n 16777216)) (.l V0 (.n 100000)) hz rfl)
  obtain ⟨R3,X3⟩:=R.upd hp (.inl rfl) S (o:=.bM t (lV j v kvs)) (mE D' λo o_ o_ g o_=>⟨o,g⟩) (λx=>⟨e3,_,D',(kr.put j rv).ext x R.aF (d4.zero _)⟩)
  exact q _ _ ⟨R3,X3,rfl,rfl⟩
 | bg t kvs=>
  refine OQ (P:=λuk=>IQ (Hj T.prog T.w) A (at4 (.ref p.1) uk u) Q' E' s) wp rk λj tk wp=>v8 wp λhz wp=> ?_
  obtain rfl:=vo wp
  obtain ⟨e3,bB,D,kr⟩:=R.obj _ _ p e hp
  refine aq5 (aj0 _ _ j tk) D (λh' D' S=> ?_) (by simp only [kr.length,Zs]; unfold bf at hz; exact Y1 [_] [] (.l V0 (.n 16777216)) (.l V0 (.n 100000)) hz rfl)
  obtain ⟨R3,X3⟩:=R.upd hp (.inl rfl) S (o:=.bg t (lV j v kvs)) (mE D' λo o_ o_ g o_=>⟨o,g⟩) (λx=>⟨e3,_,D',(kr.put j rv).ext x R.aF (d4.zero _)⟩)
  exact q _ _ ⟨R3,X3,rfl,rfl⟩
 | d6 t kvs=>
  refine v8 wp λhk wp=>ag (Ou.mp wp) λzi ek eo=> ?_
  subst eo
  obtain rfl:=ZW.mp hk
  rw [zK ek] at rk
  obtain ⟨z,i⟩:=zi
  refine ax λG_ ae=> ?_
  obtain ⟨e3,ob,g,o_,o_,Iv⟩:=R.obj _ _ p e hp
  obtain ⟨nn,rfl⟩:=Iv rfl
  refine ag (wQ (T:=T) rk) λka q1 hk=> ?_
  subst q1
  refine ae <| wpAny_setItem_heap (xs:=[]) hu hk (Ek _ _ nn g (cW rfl rfl rfl) rfl rfl (by simp) (by decide)) (λh' D' S=> ?_) (by simp)
  refine BW D' λo2 zu Ra g2 x2 d2 o_=> ?_
  obtain ⟨R3,X3⟩:=R.upd hp (.inl rfl) S (o:=.d6 t [(.tup [.str z,.int i],v)]) ⟨_,g2⟩ (λx=>⟨e3,o2,g2,x2,(rU zu Ra d2),by simp⟩)
  exact q _ _ ⟨R3,X3,rfl,rfl⟩
 | inst=>exact aI wp
theorem sW {i:Xq} {mi:Ex} (h:aw T c n env e me) (h2:aw T c n env i mi) (hs:dc i=vk):rg T c n env (.Subscript e i pos) (.ix me mi):=by
 intro ρ σ s A en L v u Q X Q' E' H rv wp ks kx
 refine j' (N6 (h H.here wp (λvo uo aU aT s1 P1 r1 w1=>j' (N6 (h2 (H.here.step P1) w1 (λvi ui lN aV s2 P2 r2 w2=> ?_) (kx.up.step P1)))) kx.up))
 refine ax λG_ ae=>bp (dL.mp w2) λm ob q1 e1 w3=> ?_
 subst q1
 refine bI w3 λOW xD w4=>ag (P2.val P1.rel r1) λp hp q2=> ?_
 subst q2
 refine ae ?_
 haveI eP:=P1.trans P2
 refine j' (Zq (j' (N6 (vR P2.rel (Y1 [_,_,_] [] (.t (.a V0 (.n 1)) V1) (.l (.a (.a V0 (.m 60 V2)) (.n 100)) V1) H.lO rfl) e1 hp r2 (eP.val H.rel rv) xD λh' tk P3=>al3 (ks _ _ _ _ (eP.trans P3).up ?_ w4)))))
 exact H.env.ext (eP.trans P3).ext H.rel
end
section
variable {bh:Env}
noncomputable def vS:Z4:={objs:=#[]}
theorem tI b:vS.get? b=vd:=ZD (Z5 _)
theorem au.fun:∀{l},au ρ h l->h.FunFrames vS l
 | [],_=>trivial
 | env::l,f=>by
  refine ax λG_ ae=> ?_
  obtain ⟨k,L,e,o_,o,es,nn,g,o_,d⟩:=f env (.head _)
  exact ae <| cW k (qb L o e (tI _) g (λvs=>by refine af d ?_; simp)) (au.fun λe he=>f e (.tail _ he))
theorem au.mem {l:List Env} (f:au ρ h l) (hb:b∈l.filterMap (·.frame)):b∈ρ.p/\bC h b:=by
 refine ag (aj3.mp hb) λe he hf=> ?_
 obtain ⟨o_,L,hL,hp,fa⟩:=f e he
 refine bD ((se hf hL).symm) ?_; exact ⟨hp,fa⟩
theorem bC.slots {S} (f:bC h L) (x:az9 S h h'):bC h' L:=by
 refine lx f λo es nn g c d=> ?_
 obtain ⟨sl,g'⟩:=x.2.2 L o g
 exact v9 _ es nn g' c d
theorem aj.slots {l:List Env} (R:bc T ρ σ s.heap) (f:au ρ s.heap l) (x:az9 (l.filterMap (·.frame)) s.heap h'):aj T W0 ρ s ρ σ {s with heap:=h'}:=by
 have ns:∀b o,s.heap.get? b=js o->(o.cls ≠ cG∨b∉ρ.p)->h'.get? b=js o:=λb o e k=>by
  refine (x.2.1 b λm=> ?_).trans e
  obtain ⟨hp,o2,o_,o_,g,c,o_⟩:=f.mem m
  obtain rfl:=se g e
  rcases k with k | k
  ·exact k c
  ·exact k hp
 haveI X:dZ T W0 ρ s.heap ρ h':=⟨(bP ([]) ([]) (by simp) (of_decide_eq_true rfl) (of_decide_eq_true rfl)),λb o e o_ o_ o_=>by
  obtain ⟨sl,g⟩:=x.2.2 b o e
  refine az sl g (λk=> ?_)
  have:h'.get? b=js o:=ns b o e (k.imp id λk m=>k (af ((R.aX b m).2.1) rfl))
  rw [this] at g
  exact congrArg Obj.slots (vo g).symm,λb o e=>by obtain ⟨sl,g⟩:=x.2.2 b o e; exact ⟨_,g⟩⟩
 refine ⟨R.sV X (d4.zero _) (λb fb=> ?_) (R.tabs.tQ (λq hq ps e=>ns _ _ e (.inr λm=>(R.aX _ m).2.2.1 (az q hq rfl))) λb o vs e d m=>⟨ns b o e (.inr m),m⟩),X,rfl,rfl⟩
 exact ag (R.ci fb) λo e o_=>af e <| ns b o e (.inr λm=>(R.aX b m).1 fb)
theorem wu (h:env.frame=bh.frame):al4 env=al4 bh:=by unfold al4; rw [h]
theorem rI e (h:env.frame=bh.frame):ai6 e env=ai6 e bh:=by
 unfold ai6
 rw [h,wu h]
structure CO (T:Cx) (A:ae4) (l:List Env) (L:Nj) (s0:FF):Prop where
 fr:A.frames=js l
 hd:∃bh outer,l=bh::outer/\bh.frame=js L
 al:∀b∈l.filterMap (·.frame),∃o,s0.heap.get? b=js o
theorem JC.yY {e d:Nj} {oe:Obj} {es:List ad0} (X:JC T h₀ ρ h raw fl e' th e d oe vs es nn u) {l:List Env} (f:au ρ h l) (al:∀b∈l.filterMap (·.frame),∃o,h₀.get? b=js o):
  e∉l.filterMap (·.frame)/\d∉l.filterMap (·.frame):=by
 refine ⟨λm=> ?_,λm=> ?_⟩
 ·obtain ⟨o,q⟩:=al _ m; exact fy X.e0 q
 ·obtain ⟨o,q⟩:=al _ m; exact fy X.d0 q
theorem Obj.oX (o:Obj) f:(o.mapFields f).dict=o.dict:=by
 obtain ⟨c,d,dt,sl⟩:=o; cases dt <;> rfl
set_option tactic.hygienic true in
theorem qU {e d:Nj} {oe:Obj} {es:List ad0} {head:vi} {hn:Bool} {E:vi->FF->Prop} {Q:Unit->FF->Prop}
  (P:aj T W c9 s0 ρ σ s) (X:JC T s0.heap ρ s.heap raw fl e' th e d oe vs es nn u) (F:CO T A (bh::outer) L s0) (hf:bh.frame=js L) (f:au ρ s.heap (bh::outer))
  (k:∀am h',aj T W c9 s0 am σ {s with heap:=h'}->au am h' (bh::outer)->kI T s0.heap am h' False (·=aa1 L) e' th->Q () {s with heap:=h'}):
  IQ (Hj T.prog T.w) A (do let a<-al4 bh; let pl<-entryPlaceOf L hn; let b<-EntryCells.newEntry head a .none (aa1 L) .none pl; setField (.ref e) 1 b) Q E s:=by
 refine dP (X.yY f F.al) λSh UY=>j' (wpAny_frameOf_fun F.fr f.fun hf λbQ pe=> ?_)
 have P1:=aj.slots P.rel f pe
 haveI f1:au ρ bQ (bh::outer):=λe he=>by
  refine ax λG_ ae=> ?_
  obtain ⟨k,L,hL,hp,fa⟩:=f e he
  exact ae <| ⟨k,L,hL,hp,fa.slots pe⟩
 have e1:=(pe.2.1 e Sh).trans X.at_
 refine j' (wpAny_entryPlaceOf λpl sG=> ?_)
 refine j' (ak7 ?_ (sG.sizeOk5 _ _ _ _ _))
 generalize xD:({cls:=.type "traceback",dict:=vd,data:=.fields ([head,.ref L,.none,aa1 L,.none]++(if pl.isEmpty then ab4 6 ag3 else pl)).toArray}:Obj)=ob
 revert ob; refine qJ ?_; set_option tactic.hygienic false in intros
 have VB:∃ts,ob.data=.fields ts/\ts[3]? =js (aa1 L)/\ob.cls=.type "traceback":=by
  subst xD
  exact dH _ rfl (by first | (simp; done) | (rcases sG with rfl | ⟨_,_,_,_,_,_,_,rfl⟩ <;> simp)) rfl
 have Go:ob.isFreed=Fk:=by refine bD xD ?_; rfl
 haveI g2:=Grows.push bQ ob
 haveI nT:=aK bQ
 haveI eT:(bQ.push ob).get? bQ.objs.size=js ob:=Q1 _ Go
 obtain ⟨R2,X2⟩:=P1.rel.own g2 (l:=[bQ.objs.size]) (λa ha=>by simp at ha; subst ha; exact nT) (λa ha=>by simp at ha; subst ha; exact ⟨_,eT⟩)
 have P2:aj T W0 ρ {s with heap:=bQ} (ρ.own [bQ.objs.size]) σ {s with heap:=bQ.push ob}:=⟨R2,X2,rfl,rfl⟩
 haveI c8:1 < vs.size:=by refine af X.size ?_; decide
 refine aj4 (g2 _ _ e1) X.data c8 ?_
 have Tm:=P2.ext.aX X.ef
 have Gr:=ar4 X.data (·.setIfInBounds 1 (ZG bQ.objs.size))
 have NO:=YM (ZH (·.setIfInBounds 1 (ZG bQ.objs.size))) (g2 _ _ e1) (ao2 Gr)
 have CK:aj T (λb=>b=e) ρ s (ρ.own [bQ.objs.size]) σ {s with heap:=(bQ.push ob).update e (ZH (·.setIfInBounds 1 (ZG bQ.objs.size)))}:=(P1.trans P2).up.trans (aj.turn (W:=λb=>b=e) R2 (λb hb=>hb▸Tm) rfl (ZQ (bQ.push ob) e (ZH (·.setIfInBounds 1 (ZG bQ.objs.size)))) ⟨_,NO⟩ s.toks)
 have PA:aj T W c9 s0 (ρ.own [bQ.objs.size]) σ {s with heap:=(bQ.push ob).update e (ZH (·.setIfInBounds 1 (ZG bQ.objs.size)))}:=
  ⟨CK.rel,P.ext.drop CK.ext λb hb=> .inr (hb▸X.e0),CK.gens.trans P.gens,CK.os.trans P.os⟩
 have Hr:∀b o,b ≠ e->(bQ.push ob).get? b=js o->((bQ.push ob).update e (ZH (·.setIfInBounds 1 (ZG bQ.objs.size)))).get? b=js o:=λb o hb q=>(ZN _ _ (ag5 hb)).trans q
 have Tr:=af5 (ZU e1)
 refine k _ _ PA (λe2 Bz=> ?_) ?_
 ·refine ax λG_ ae=> ?_
  obtain ⟨kk,L2,LP,Jg,o2,zu,n2,g3,c3,d3⟩:=f1 e2 Bz
  refine ae <| ⟨kk,L2,LP,P2.ext.aX Jg,o2,zu,n2,Hr _ _ ?_ (g2 _ _ g3),c3,d3⟩
  rintro rfl
  exact Sh (aj3.mpr (az e2 Bz LP))
 ·refine bZ VB λts t1 t2 t3=>⟨e,d,_,_,es,nn,u,{eq:=X.eq,at_:=NO,cls:=(at5 _ _).trans X.cls,dict:=(Obj.oX _ _).trans X.dict,data:=Gr,size:=by simp [X.size],dat:=Hr _ _ X.de (g2 _ _ ((pe.2.1 d UY).trans X.dat)),has:=X.has,rel:=?_,e0:=X.e0,d0:=X.d0,ef:=Tm,df:=(P2.ext.aX X.df),de:=X.de,tb:=.inr ?_}⟩
  ·exact X.rel.ext CK.ext P.rel.aF (λb hb=>hb▸X.ef)
  ·refine ⟨bQ.objs.size,ob,ts,by simp [c8],Tr,?_,by simp [aO.own],Hr _ _ Tr eT,t1,t3,_,t2,rfl⟩
   cases z:s0.heap.get? bQ.objs.size with
   | none=>rfl
   | some o0=>
    obtain ⟨o1,z1⟩:=(P.ext.trans (P1.ext.mono λ_ w=>w.elim)).all _ _ z
    exact fy nT z1
theorem uj {e d:Nj} {oe:Obj} {es:List ad0} {v:vi} {t:Nj} {ot:Obj} {ts:Array vi} {y:vi} {l:List Env}
  (P:aj T W c9 s0 ρ σ s) (X:JC T s0.heap ρ s.heap raw fl e' th e d oe vs es nn u) (f:au ρ s.heap l) (al:∀b∈l.filterMap (·.frame),∃o,s0.heap.get? b=js o)
  (h1:vs[1]? =js (.ref t)) (ne:t ≠ e) (t0:s0.heap.get? t=vd) (tp:t∈ρ.p) (gt:s.heap.get? t=js ot) (dt:ot.data=.fields ts) (ct:ot.cls=.type "traceback") (h3:ts[3]? =js y):
  aj T W c9 s0 ρ σ {s with heap:=s.heap.update t (ZH (·.setIfInBounds 3 v))}/\au ρ (s.heap.update t (ZH (·.setIfInBounds 3 v))) l/\
   JC T s0.heap ρ (s.heap.update t (ZH (·.setIfInBounds 3 v))) False (·=v) e' th e d oe vs es nn u/\(s.heap.update t (ZH (·.setIfInBounds 3 v))).get? e=js oe:=by
 haveI P8:=(ZL.mp h3).1
 haveI Gr:=ar4 dt (·.setIfInBounds 3 v)
 have Sx:=YM (ZH (·.setIfInBounds 3 v)) gt (ao2 Gr)
 have Hr:∀b o,b ≠ t->s.heap.get? b=js o->(s.heap.update t (ZH (·.setIfInBounds 3 v))).get? b=js o:=λb o hb q=>(ZN _ _ (ag5 hb)).trans q
 have P3:=aj.turn (W:=λb=>b=t) P.rel (λb hb=>hb▸tp) rfl (ZQ s.heap t (ZH (·.setIfInBounds 3 v))) ⟨_,Sx⟩ s.toks
 have nd:d ≠ t:=by rintro rfl; obtain rfl:=se X.dat gt; cases dt
 have he:=Hr _ _ (ag5 ne) X.at_
 refine mz ⟨P3.rel,P.ext.drop P3.ext λb hb=> .inr (hb▸t0),P3.gens.trans P.gens,P3.os.trans P.os⟩ (λe2 Bz=> ?_) ({X with at_:=he,dat:=Hr _ _ nd X.dat,rel:=X.rel.ext P3.ext P.rel.aF (λb hb=>hb▸tp),tb:=.inr ⟨t,_,_,h1,ne,t0,tp,Sx,Gr,(at5 _ _).trans ct,v,by simp [P8],rfl⟩}) he
 refine ax λG_ ae=> ?_
 obtain ⟨kk,L2,LP,Jg,o2,zu,n2,g3,c3,d3⟩:=f e2 Bz
 refine ae <| ⟨kk,L2,LP,Jg,o2,zu,n2,Hr _ _ ?_ g3,c3,d3⟩
 rintro rfl
 obtain ⟨o,q⟩:=al _ (aj3.mpr (az e2 Bz LP))
 exact fy t0 q
theorem lw {l:List Env} {Q:Unit->FF->Prop} (P:aj T W c9 s0 ρ σ s) (x:Oe T s0.heap ρ s.heap L e' th) (F:CO T A l L s0) (hf:env.frame=js L) (f:au ρ s.heap l)
  (k:∀am h',aj T W c9 s0 am σ {s with heap:=h'}->au am h' l->kI T s0.heap am h' False (·=aa1 L) e' th->Q () {s with heap:=h'}):IQ (Hj T.prog T.w) A (ai6 e' env) Q E s:=by
 refine ax λG_ ae=>bV F.hd λbh outer q1 Gp=> ?_
 subst q1
 obtain ⟨e,d,oe,vs,es,nn,u,X⟩:=x
 haveI eq:=X.eq
 subst eq
 refine ae <| af (rI _ (hf.trans Gp.symm)) ?_
 unfold ai6
 refine af Gp ?_
 rcases X.tb with ⟨o_,h1⟩ | ⟨t,ot,ts,h1,ne,t0,tp,gt,dt,ct,y,h3,hy⟩
 ·refine j' (ab9 X.at_ X.data h1 ?_)
  exact qU P X F Gp f k
 ·refine j' (ab9 X.at_ X.data h1 ?_)
  refine j' (ab9 gt dt h3 ?_)
  by_cases PV:(y==aa1 L)=vk
  ·exact af (if_pos PV) <| wpAny_pure (k ρ s.heap P f ⟨e,d,oe,vs,es,nn,u,{X with tb:=.inr ⟨t,ot,ts,h1,ne,t0,tp,gt,dt,ct,_,h3,beq_iff_eq.mp PV⟩}⟩)
  ·refine af (if_neg PV) <| wpAny_bind (aj4 gt dt (ZL.mp h3).1 ?_)
   exact si (uj P X f F.al h1 ne t0 tp gt dt ct h3) λP1 f1 X1 o_=>qU P1 X1 F Gp f1 k
theorem fQ {l:List Env} {Q:Unit->FF->Prop} (P:aj T W c9 s0 ρ σ s) (x:kI T s0.heap ρ s.heap False fl e' th) (f:au ρ s.heap l) (al:∀b∈l.filterMap (·.frame),∃o,s0.heap.get? b=js o)
  (k:∀h',aj T W c9 s0 ρ σ {s with heap:=h'}->au ρ h' l->kI T s0.heap ρ h' False (·=fr.elim ag3 λf=>aa1 f) e' th->Q () {s with heap:=h'}):IQ (Hj T.prog T.w) A (aw1 e' fr) Q E s:=by
 obtain ⟨e,d,oe,vs,es,nn,u,X⟩:=x
 refine af X.eq ?_
 rcases X.tb with ⟨z,o_⟩ | ⟨t,ot,ts,h1,ne,t0,tp,gt,dt,ct,y,h3,hy⟩
 ·exact z.elim
 ·unfold aw1
  refine j' (ab9 X.at_ X.data h1 ?_)
  refine aj4 gt dt (ZL.mp h3).1 ?_
  refine si (uj (v:=fr.elim ag3 λf=>aa1 f) P X f al h1 ne t0 tp gt dt ct h3) λP1 f1 X1 o_=> ?_
  exact k _ P1 f1 ⟨e,d,oe,vs,es,nn,u,X1⟩
theorem pn {Q:vi->FF->Prop} (x:kI T h₀ ρ s.heap False fl e' th) (k:∀t,Q (.ref t) s):IQ (Hj T.prog T.w) A (field e' 1) Q E s:=by
 refine ax λG_ ae=> ?_
 obtain ⟨e,d,oe,vs,es,nn,u,X⟩:=x
 refine ae <| af X.eq ?_
 rcases X.tb with ⟨z,o_⟩ | ⟨t,ot,ts,h1,o_⟩
 ·exact z.elim
 ·exact ab9 X.at_ X.data h1 (k t)
theorem mW {l:List Env} {Q:Unit->FF->Prop} (P:aj T W c9 s0 ρ σ s) (x:Oe T s0.heap ρ s.heap L e' th) (F:CO T A l L s0) (hf:env.frame=js L) (f:au ρ s.heap l)
  (k:∀am h',aj T W c9 s0 am σ {s with heap:=h'}->au am h' l->CI T s0.heap am h' e' th->Q () {s with heap:=h'}):IQ (Hj T.prog T.w) A (leaving env e') Q E s:=by
 refine j' (lw P x F hf f λaU h1 P1 f1 x1=> ?_)
 exact fQ P1 x1 f1 F.al λh2 P2 f2 x2=>k _ _ P2 f2 x2
theorem um {l:List Env} (P:aj T W c9 s0 ρ σ s) (x:kI T s0.heap ρ s.heap False fl e' th) (F:CO T A l L s0) (hf:env.frame=js L) (f:au ρ s.heap l)
  (k:∀h',aj T W c9 s0 ρ σ {s with heap:=h'}->au ρ h' l->kI T s0.heap ρ h' False (·=aa1 L) e' th->E e' {s with heap:=h'}):ae7 (Hj T.prog T.w) A env E e' s:=by
 refine j' (pn x λt=> ?_)
 exact hf▸(fQ P x f F.al λh2 P2 f2 x2=>k _ P2 f2 x2)
theorem wA {l:List Env} {Q:α->FF->Prop} (P:aj T W c9 s0 ρ σ s) (x:kI T s0.heap ρ s.heap False fl e' th) (F:CO T A l L s0) (f:au ρ s.heap l)
  (k:∀h',aj T W c9 s0 ρ σ {s with heap:=h'}->au ρ h' l->kI T s0.heap ρ h' False (λo_=>True) e' th->E e' {s with heap:=h'}):IQ (Hj T.prog T.w) A (aD0 Ol e' ah:Sem α) Q E s:=by
 refine j' (pn x λt=> ?_)
 exact j' (fQ P x f F.al λh2 P2 f2 x2=>wpAny_throw (k _ P2 f2 (x2.mono id λo_ o_=>trivial)))
end
section
theorem bO.Kl (H:bO T n ρ σ s A env en L):env.scope.kind=.function:=by refine ag H.env λm E o_=> ?_; exact E.kind
noncomputable def ej (e:Xq):Bool:=!(H7 8 e || (H7 9 e || H7 10 e))
theorem j8 (h:ej value=vk) (t:Option Xq) (line:Nat):swapsWith value t line env=pure Fk:=by
 cases value <;> first | rfl | exact dy h
theorem fJ (h:ej value=vk) (t:Xq) (line:Nat):ab1 [t] value line env=pure Fk:=j8 h (js t) line
theorem Al (h:aw T c n env e me) (hn:ej e=vk):dk T c n env (.Expr e pos) (.expr me):=by
 intro ρ σ s A en L Q X Q' E' H wp kf kx
 refine wpAny_Expr_any (h H.here wp (λv u aU aT s1 P1 r1 w1=>kf .next .next _ _ _ _ P1.up (H.env.ext P1.ext H.rel) rfl w1) kx.up) ?_ (j8 hn _ _)
 unfold interactive
 refine af H.Kl ?_; rfl
theorem ij {Q:En->St->Prop} {Q':aq4->FF->Prop} {mt} (h:aw T c n env value me) (ht:rg T c n env t mt) (hs:ab1 [t] value pos.line env=pure Fk) (hw:ag7 [t] value env=pure vd)
  (he:(aj5 [t] env).map (·.2)=[ah7 t env]) (H:bO T n ρ σ s A env en L) (wp:ba c me (λv σ=>I4 c mt v Q X en σ) X en σ) (k:KS T env ρ s Q (λo_=>Q' .next)) (kx:KX T (WF env) ρ s L X E'):IQ (Hj T.prog T.w) A (exec (.Assign [t] value pos) env) Q' E' s:=by
 refine ad7 (h H.here wp (λv u aU aT s1 P1 r1 w1=> ?_) kx.up) hs hw
 exact he▸(ht (H.cU P1) r1 w1 (k.step P1.up) (kx.step P1.up))
theorem DD (h:aw T c n env value me) (hy:T.nm x=y) (hk:env.kindOf y=js .local∨env.kindOf y=js .cell) (hn:ej value=vk):dk T c n env (.Assign [.Name y p] value pos) (.asg x me):=by
 intro ρ σ s A en L Q X Q' E' H wp kf kx
 exact ij h (iX hy hk) (fJ hn _ _) rfl rfl H wp (λaH am aa s' P e q=>kf .next .next _ _ _ _ P e rfl q) kx
theorem te {a:Nat} (C:fv T c n) (h:aw T c n env value me) (ho:aw T c n env o mo) (hy:T.nm a=y) (hs:ab1 [.Attribute o y p] value pos.line env=pure Fk):dk T c n env (.Assign [.Attribute o y p] value pos) (.av mo a me):=by
 intro ρ σ s A en L Q X Q' E' H wp kf kx
 exact ij h (sX C ho hy) hs rfl rfl H wp (λaH am aa s' P e q=>kf .next .next _ _ _ _ P e rfl q) kx
theorem vG {i:Xq} {mi:Ex} (h:aw T c n env value me) (ho:aw T c n env o mo) (hi:aw T c n env i mi) (VF:dc i=vk) (hs:ab1 [.Subscript o i p] value pos.line env=pure Fk):dk T c n env (.Assign [.Subscript o i p] value pos) (.ed mo mi me):=by
 intro ρ σ s A en L Q X Q' E' H wp kf kx
 exact ij h (sW ho hi VF) hs rfl rfl H wp (λaH am aa s' P e q=>kf .next .next _ _ _ _ P e rfl q) kx
theorem zT {line:Nat}:ab1 [.Attribute o y p] value line env=pure Fk:=by cases value <;> rfl
theorem zS {i:Xq} {line:Nat}:ab1 [.Subscript o i p] value line env=pure Fk:=by cases value <;> rfl
theorem Dp (h:aw T c n env e me):dk T c n env (.Return (js e) pos) (.ret me):=by
 intro ρ σ s A en L Q X Q' E' H wp kf kx
 exact al0 (h H.here wp (λv u aU aT s1 P1 r1 w1=>kf (.ret v) (.ret u) _ _ _ _ P1.up (H.env.ext P1.ext H.rel) (az u rfl r1) w1) kx.up)
theorem sZ:dk T c n env (.Return vd pos) .og:=by
 intro ρ σ s A en L Q X Q' E' H wp kf kx
 exact wpAny_Return_none (kf (.ret .none) (.ret .none) _ _ _ _ (.refl H.rel) H.env (az .none rfl rfl) wp)
theorem DB:dk T c n env (.Break pos) .brk:=by
 intro ρ σ s A en L Q X Q' E' H wp kf kx
 exact wpAny_Break (kf .brk .brk _ _ _ _ (.refl H.rel) H.env rfl wp)
theorem Ap:dk T c n env (.Continue pos) .cont:=by
 intro ρ σ s A en L Q X Q' E' H wp kf kx
 exact wpAny_Continue (kf .cont .cont _ _ _ _ (.refl H.rel) H.env rfl wp)
theorem Hd {o:List ad3} {mo:Ss} {mt} (ht:iR T c n env t mt) (hb:f7 T c n env b mb) (ho:f7 T c n env o mo):dk T c n env (.If t b o pos) (.bS mt mb mo):=by
 intro ρ σ s A en L Q X Q' E' H wp kf kx
 refine wpAny_If (ht H.here wp (λr aU aT s1 P1 w1=> ?_) kx.up)
 cases r with
 | true=>exact hb (H.cU P1) w1 (kf.step P1.up) (kx.step P1.up)
 | false=>exact ho (H.cU P1) w1 (kf.step P1.up) (kx.step P1.up)
theorem s8 {a:Nat} (C:fv T c n) (ho:aw T c n env o mo) (h:aw T c n env value me) (hy:T.nm a=y):dk T c n env (.AugAssign (.Attribute o y p) .Add value pos) (.eD mo a .add me):=by
 intro ρ σ s A en L Q X Q' E' H wp kf kx
 subst hy
 refine wpAny_AugAssign_AttributeAny (ho H.here wp (λvo uo aU aT s1 P1 r1 w1=> ?_) kx.up)
 refine bI w1 λold e1 w2=>jy P1.rel r1 e1 λx tk rx=> ?_
 have Og:=P1.tok tk
 refine h (H.here.step Og) w2 (λvv uv lN aV s2 P2 r2 w3=> ?_) (kx.up.step Og)
 refine ax λG_ ae=>jR w3 λi q1 w4=> ?_
 subst q1
 refine bZ (dM.mp w4) λj q2 o_ w5=> ?_
 subst q2
 refine bp (dL.mp w5) λm ob q3 e2 w6=> ?_
 subst q3
 refine nS (oP.mp w6) λk fs q4 hf hz w7=> ?_
 subst q4
 obtain ⟨t1,rfl⟩:=rx
 obtain ⟨t2,rfl⟩:=r2
 refine ae ?_
 rw [C.field] at hf
 refine ag (P2.val Og.rel r1) λq hq q5=>af q5 <| PyProof.Rows.iadd_int ?_
 have P3:=(Og.trans P2).tok (s2.toks+1)
 exact oO P3.rel e2 hq (v:=.int (i+j)) ⟨_,rfl⟩ hf hz λh' Yy P4=>kf .next .next _ _ _ _ (P3.trans P4).up (H.env.ext (P3.trans P4).ext H.rel) rfl w7
noncomputable def fZ (T:Cx) (c:Cc) (n:Nat) (env:Env):List Xq->List Tg->Prop
 | [],[]=>True
 | t::ts,m::ms=>ay t=vk/\rg T c n env t m/\fZ T c n env ts ms
 | _,_=>False
theorem fZ.each:∀{ts} {ms},fZ T c n env ts ms->((aj5 ts env).map (·.2)=ts.map λt=>ah7 t env)/\(aj5 ts env).findIdx? (·.1)=vd/\(aj5 ts env).length=ts.length
 | [],[],_=>(cW rfl rfl rfl)
 | t::ts,m::ms,h=>by
  obtain ⟨h1,o_,h3⟩:=h
  refine iz h3.each λa b d=> ?_
  haveI e:aj5 (t::ts) env=(Fk,ah7 t env)::aj5 ts env:=by cases t <;> first | rfl | exact dy h1
  refine af e <| cW (by simp only [ag6,ag6,a]) ?_ (by simp [d])
  rw [List.findIdx?_cons,b]; rfl
 | [],_::_,h=>h.elim
 | _::_,[],h=>h.elim
theorem iY:∀{ts} {ms} {vs} (us ρ σ s en Q X Q' E'),fZ T c n env ts ms->bO T n ρ σ s A env en L->ai ρ s.heap vs us->
  rm c ms vs Q X en σ->KS T env ρ s Q Q'->KX T (WF env) ρ s L X E'->IQ (Hj T.prog T.w) A (assignInOrder (ts.map λt=>ah7 t env) us) Q' E' s
 | [],[],[]=>λus ρ σ s en Q X Q' E' o_ H r wp k o_=>by
  refine af (show us=[] from r) ?_
  exact yd (k _ _ _ _ (.refl H.rel) H.env wp)
 | t::ts,m::ms,v::vs=>λus ρ σ s en Q X Q' E' h H r wp k kx=>by
  refine bp r λu us q1 r1 r2=>af q1 ?_
  change I4 c m v (Sj (rm c ms vs) Q X) X en σ at wp
  refine iz h λo_ h2 h3=>j' (N6 (h2 H r1 wp (λzv aU aT s1 P1 e1 w1=> ?_) kx))
  exact iY _ _ _ _ _ _ _ _ _ h3 (H.step P1 e1) (ai.ext P1.ext H.rel.aF H.n8 _ r2) w1 (k.step P1) (kx.step P1)
 | [],[],_::_=>λo_ o_ o_ o_ o_ o_ o_ o_ o_ o_ o_ o_ wp o_ o_=>wp.elim
 | _::_,_::_,[]=>λo_ o_ o_ o_ o_ o_ o_ o_ o_ o_ o_ o_ wp o_ o_=>wp.elim
 | [],_::_,_=>λo_ o_ o_ o_ o_ o_ o_ o_ o_ h o_ o_ o_ o_ o_=>h.elim
 | _::_,[],_=>λo_ o_ o_ o_ o_ o_ o_ o_ o_ h o_ o_ o_ o_ o_=>h.elim
theorem vF {ms:List Tg} (h:aw T c n env value me) (ht:fZ T c n env ts ms) (hn:ej value=vk) (hw:ag7 [.Tuple ts k sP] value env=pure vd):dk T c n env (.Assign [.Tuple ts k sP] value pos) (.aN ms me):=by
 intro ρ σ s A en L Q X Q' E' H wp kf kx
 refine Assign_Tuple (h H.here wp (λv u aU aT s1 P1 r1 w1=> ?_) kx.up) (fJ hn _ _) hw
 refine bZ (gh.mp w1) λvs e1 hlen w2=>jj (P1.rel.seq e1 r1) λkk a xs q1 sq rr z c8=>af q1 <| wpAny_bind (Zq ?_)
 unfold unpack
 refine iz ht.each λe2 e3 e4=> ?_
 haveI hl:ts.length=xs.size:=by
  rw [c8,<-hlen]
  have:∀{ts} {ms},fZ T c n env ts ms->ts.length=ms.length:=by
   intro ts
   induction ts with
   | nil=>intro ms h; cases ms with | nil=>rfl | cons=>exact h.elim
   | cons t ts ih=>intro ms h; cases ms with | nil=>exact h.elim | cons m ms=>simp [ih h.2.2]
  exact this ht
 simp only [e2,e3,e4,hl]
 refine j' (N6 (il H.hd sq λh' g=> ?_))
 haveI P2:=P1.grow g s1.toks
 exact iY _ _ _ _ _ _ _ _ _ ht (H.cU P2) (rr.grows g P1.rel) w2 (λaH am aa s' P e q=>kf .next .next _ _ _ _ (P2.up.trans P) e rfl q) (kx.step P2.up)
end
theorem En.set_comm {a b:Nat} {w:V} (h:a ≠ b):(en.set a v).set b w=(en.set b w).set a v:=by
 funext y
 simp only [j6,j6,j6,j6]
 by_cases h1:y=b <;> by_cases h2:y=a <;> simp_all
section
theorem kP {Q':Unit->FF->Prop} (H:bO T n ρ σ s A env en L) (hk:env.kindOf (T.nm x)=js .local) (rv:aq ρ s.heap v u)
  (k:∀s',aj T (WF env) ρ s ρ σ s'->bO T n ρ σ s' A env (en.set x v) L->Q' () s'):IQ (Hj T.prog T.w) A (bindName env (T.nm x) u) Q' E' s:=by
 refine ag H.env λm E r=>wpAny_bindName (sT H.rel E r E.n8 (.inl hk) ⟨λo_=> .inl rfl,λo_ c hc=> .inr ⟨_,hc⟩⟩ rv λh' tk P e=>k _ P (H.step P e))
theorem lenS {α:Type} {l:List α} (h:l.length=n+1) (k:∀a r,r.length=n->l=a::r->G):G:=by
 cases l with
 | nil=>exact Nat.noConfusion h
 | cons a r=>exact k a r (Nat.succ.inj h) rfl
theorem td {x1 x2:Nat} (h:aw T c n env value me) (lq:x1 ≠ x2) (Qy:env.kindOf (T.nm x1)=js .local) (Qx:env.kindOf (T.nm x2)=js .local) (hn:ej value=vk)
  (hw:ag7 [.Tuple ts k sP] value env=pure (js [T.nm x1,T.nm x2])):dk T c n env (.Assign [.Tuple ts k sP] value pos) (.aN [.nm x1,.nm x2] me):=by
 intro ρ σ s A en L Q X Q' E' H wp kf kx
 change ba c me (qD c [.nm x1,.nm x2] Q X en) X en σ at wp
 refine ap3 (h H.here wp (λv u aU aT s1 P1 r1 w1=> ?_) kx.up) (fJ hn _ _) hw
 refine nameQ λFk iv=>bZ (gh.mp w1) λvs e1 hlen w2=>jj (P1.rel.seq e1 r1) λkk a xs q3 sq rr z c8=> ?_
 clear z e1 w1 r1 v kx
 refine af q3 ?_
 haveI hl:([T.nm x1,T.nm x2]:List Zu).length=xs.size:=by rw [c8,<-hlen]; rfl
 refine af hl <| il H.hd sq λh' g=> ?_
 haveI P2:=P1.grow g s1.toks
 refine iv _ _ <| ax λG_ ae=> ?_
 refine lenS hlen.symm λv1 l1 h1 q1=> ?_
 refine lenS h1 λv2 l2 h2 q2=> ?_
 obtain rfl:=af1.mp h2
 subst q2
 subst q1
 refine ae <| bp (lR (rr.grows g P1.rel)) λu1 u2 hu q1 q2=>af hu ?_
 change Q .next ((en.set x1 v1).set x2 v2) aT at w2
 refine j' (N6 (kP (H.cU P2) Qx q2 λs3 P3 H3=> ?_))
 refine j' (N6 (kP H3 Qy (q1.ext P3.ext P2.rel.aF (H.cU P2).n8) λs4 P4 H4=>yd ?_))
 rw [En.set_comm lq] at w2
 exact kf .next .next _ _ _ _ ((P2.up.trans P3).trans P4) H4.env rfl w2
theorem tc {x1 x2 x3:Nat} (h:aw T c n env value me) (lq:x1 ≠ x2) (Ql:x1 ≠ x3) (Qk:x2 ≠ x3) (Qy:env.kindOf (T.nm x1)=js .local) (Qx:env.kindOf (T.nm x2)=js .local) (V9:env.kindOf (T.nm x3)=js .local) (hn:ej value=vk)
  (hw:ag7 [.Tuple ts k sP] value env=pure (js [T.nm x1,T.nm x2,T.nm x3])):dk T c n env (.Assign [.Tuple ts k sP] value pos) (.aN [.nm x1,.nm x2,.nm x3] me):=by
 intro ρ σ s A en L Q X Q' E' H wp kf kx
 change ba c me (qD c [.nm x1,.nm x2,.nm x3] Q X en) X en σ at wp
 refine ap3 (h H.here wp (λv u aU aT s1 P1 r1 w1=> ?_) kx.up) (fJ hn _ _) hw
 refine bZ (gh.mp w1) λvs e1 hlen w2=>jj (P1.rel.seq e1 r1) λkk a xs q4 sq rr z c8=> ?_
 clear z e1 w1 r1 v kx
 refine nameQ λFk iv=>af q4 ?_
 haveI hl:([T.nm x1,T.nm x2,T.nm x3]:List Zu).length=xs.size:=by rw [c8,<-hlen]; rfl
 refine af hl <| il H.hd sq λh' g=> ?_
 haveI P2:=P1.grow g s1.toks
 refine ax λG_ ae=> ?_
 refine lenS hlen.symm λv1 l1 h1 q1=> ?_
 refine lenS h1 λv2 l2 h2 q2=> ?_
 refine lenS h2 λv3 l3 h3 q3=> ?_
 obtain rfl:=af1.mp h3
 subst q3
 subst q2
 subst q1
 refine ae <| iv _ _ <| ax λG_ ae=> ?_
 obtain ⟨u1,us,hu,q1,u2,I5,q5,q2,u3,Yr,q6,q3,rfl⟩:=(rr.grows g P1.rel)
 subst q6
 subst q5
 refine ae <| af hu ?_
 change Q .next (((en.set x1 v1).set x2 v2).set x3 v3) aT at w2
 refine j' (N6 (kP (H.cU P2) V9 q3 λs3 P3 H3=> ?_))
 refine j' (N6 (kP H3 Qx (q2.ext P3.ext P2.rel.aF (H.cU P2).n8) λs4 P4 H4=> ?_))
 haveI JA:=P3.trans P4
 refine j' (N6 (kP H4 Qy (q1.ext JA.ext P2.rel.aF (H.cU P2).n8) λs5 P5 H5=>yd ?_))
 haveI e:((en.set x1 v1).set x2 v2).set x3 v3=((en.set x3 v3).set x2 v2).set x1 v1:=by
  rw [En.set_comm Qk,En.set_comm Ql,En.set_comm lq]
 rw [e] at w2
 exact kf .next .next _ _ _ _ ((P2.up.trans JA).trans P5) H5.env rfl w2
theorem dD.eR {P'} (e:dD T ρ h env en) (S:jL ρ.o [] ρ.p P' h h') (hk:∀b o,b∈P'->h.get? b=js o->h'.get? b=js o) (hl:env.locals∈P') (hf:∀L,env.frame=js L->L∈P') (hc:∀x c,env.cells.lookup x=js c->c∈P'):dD T ⟨ρ.o,P'⟩ h' env en:=by
 refine ag e λm E r=> ?_
 haveI ns:h'.Ns env.locals m:=mE E.ns λo es ep g x=>wa o es ep (hk _ _ hl g) x
 refine az m ⟨E.kind,E.globals,E.builtins,ns,hl,?_,λx c hx=> ?_,E.apart,E.has⟩ (λy v hy=> ?_)
 ·refine ax λG_ ae=> ?_
  obtain ⟨L,e,o_,o,es,nn,g,x⟩:=E.fr
  exact ae <| ⟨L,e,hf L e,o,es,nn,hk _ _ (hf L e) g,x⟩
 ·refine ax λG_ ae=> ?_
  obtain ⟨o_,ne,v,o,g,x'⟩:=E.cells x c hx
  exact ae <| ⟨hc x c hx,ne,v,o,hk _ _ (hc x c hx) g,x'⟩
 ·obtain ⟨r1,r2⟩:=r y v hy
  refine ⟨λq=> ?_,λq=> ?_⟩
  ·exact ag (r1 q) λu e1 e2=>az u e1 (S.val e2)
  ·exact bp (r2 q) λc u e1 y1 e3=>ag y1 λo g x'=>bP c u e1 (az o (hk _ _ (hc _ c e1) g) x') (S.val e3)
def TurnOk (T:Cx) (c:Cc) (n:Nat) (env:Env) (target:Xq) (body:List ad3) (X:V->St->Prop) (turn:V->(Fl->En->St->Prop)->En->St->Prop):Prop:=
 ∀⦃ρ σ s A en L v u⦄ ⦃I0:Nj⦄ ⦃oI:Obj⦄ ⦃nI:String⦄ ⦃Q:Fl->En->St->Prop⦄ ⦃Q':aq4->FF->Prop⦄ ⦃E':vi->FF->Prop⦄,bO T n ρ σ s A env en L->aq ρ s.heap v u->turn v Q en σ->
  s.heap.get? I0=js oI->oI.cls=.type nI->(["enumerate", "zip", "dict_itemiterator", "dict_reverseitemiterator", "odict_iterator", "itertools.zip_longest", "itertools.pairwise"].contains nI)=Fk->
  KF T env ρ s Q Q'->KX T (WF env) ρ s L X E'->
  IQ (Hj T.prog T.w) A (ah8 target (.ref I0) u) (λo_ s1=>IQ (Hj T.prog T.w) A (ah7 target env u) (λo_ s2=>IQ (Hj T.prog T.w) A (execs body env) Q' E' s2) E' s1) E' s
structure CM (T:Cx) (I0:Nj) (sv:V) (l:List V) (Sr:aO->Z4->Prop) (J:Nat->Z4->Prop):Prop where
 src:∀{W ρ h am h'},Sr ρ h->dZ T W ρ h am h'->iE T h->d4 W ρ->Sr am h'
 cls:∀{i h},J i h->∃o n,h.get? I0=js o/\o.cls=.type n/\(["enumerate", "zip", "dict_itemiterator", "dict_reverseitemiterator", "odict_iterator", "itertools.zip_longest", "itertools.pairwise"].contains n)=Fk
 keep:∀{i h h'},J i h->(∀o,h.get? I0=js o->∃sl,h'.get? I0=js {o with slots:=sl}/\(o.cls ≠ cG->sl=o.slots))->J i h'
 item:∀{i v ρ σ s A} {E:vi->FF->Prop} {Q:Option vi->FF->Prop},bc T ρ σ s.heap->I0∈ρ.p->Sr ρ s.heap->J i s.heap->aQ σ sv=js l->l[i]? =js v->(∀h' tk u,J (i+1) h'->aa0 I0 s.heap h'->aq ρ s.heap v u->Q (js u) {s with heap:=h',toks:=tk})->IQ (Hj T.prog T.w) A (ar3 (.ref I0)) Q E s
 stop:∀{i ρ σ s A} {E:vi->FF->Prop} {Q:Option vi->FF->Prop},A.handled=vd->bc T ρ σ s.heap->I0∈ρ.p->Sr ρ s.heap->J i s.heap->aQ σ sv=js l->l[i]? =vd->(∀h' tk,ak9 I0 s.heap h'->Q vd {s with heap:=h',toks:=tk})->IQ (Hj T.prog T.w) A (ar3 (.ref I0)) Q E s
set_option tactic.hygienic true in
theorem bO.alive (H:bO T n ρ σ s A env en L):(∃o,s.heap.get? env.locals=js o)/\(∀L,env.frame=js L->∃o,s.heap.get? L=js o)/\∀x c,env.cells.lookup x=js c->∃o,s.heap.get? c=js o:=by
 refine ag H.env λm E _=>cW (mE E.ns λo _ _ e _=>⟨o,e⟩) (λL e=> ?_) (λx c hc=>let ⟨_,_,_,o,e,_⟩:=E.cells x c hc;⟨o,e⟩)
 obtain ⟨L',e',_,o,_,_,g,_⟩:=E.fr
 refine bD (se e' e) ?_; exact ⟨o,g⟩
theorem bO.TR (H:bO T n ρ σ s A env en L):∃outer,CO T A (env::outer) L s/\au ρ s.heap (env::outer)/\∀e∈outer,∀L,e.frame=js L->¬WF env L:=by
 refine bZ H.out λouter e1 f ap=>ag H.env λm E o_=> ?_
 have ff:au ρ s.heap (env::outer):=λe he=>by
  refine mh (Zr.mp he) ?_ λhe=> ?_
  ·exact ⟨by refine af E.kind ?_; simp,E.fr⟩
  ·exact f e he
 refine dH outer ⟨e1,(dh env outer rfl H.fr),λb hb=> ?_⟩ ff ap
 obtain ⟨o_,o,o_,o_,g,o_⟩:=ff.mem hb
 exact ⟨o,g⟩
theorem bO.frames (H:bO T n ρ σ s A env en L) (ff:au ρ s.heap (env::outer)) (ap:∀e∈outer,∀L,e.frame=js L->¬WF env L) (P:aj T (WF env) ρ s am aa s') (fa:bC s'.heap L):au am s'.heap (env::outer):=λe he=>by
 rcases Zr.mp he with rfl | he
 ·refine ax λG_ ae=> ?_
  obtain ⟨k,L',hL,hp,o_⟩:=ff e (.head _)
  have:L'=L:=by have:=H.fr; rw [hL] at this; exact vo this
  subst this
  exact ae <| ⟨k,L',hL,P.ext.aX hp,fa⟩
 ·exact (au.ext P.ext H.rel ap λe he=>ff e (.tail _ he)) e he
def uQ (T:Cx) (A:ae4) (env:Env) (Q':aq4->FF->Prop) (E':vi->FF->Prop) (r:Result) (s':FF):Prop:=match r with | .ok f=>Q' f s' | .error e=>ae7 (Hj T.prog T.w) A env E' e s'
theorem tO {Q':aq4->FF->Prop} (H:bO T n c9 sK s0 A env GB L) (kx:KX T (WF env) c9 s0 L X E') (P:aj T (WF env) c9 s0 ρ σ s):KX T (WF env) ρ s L X (ag8 (Hj T.prog T.w) A env λe s'=>uQ T A env Q' E' (.error e) s'):=by
 intro th e am aa s' P' fa x q
 refine bZ H.TR λouter F ff ap=> ?_
 haveI PP:=P.trans P'
 haveI f2:=H.frames ff ap PP fa
 haveI x':=x.later λo_ z=>P.ext.fresh z
 refine lw PP x' F H.fr f2 λaU h1 P1 f1 x1=>um P1 x1 F H.fr f1 λh2 P2 f3 x2=>ax λG_ ae=> ?_
 obtain ⟨o_,L',hL,o_,Xf⟩:=f3 env (.head _)
 refine ae ?_
 have:L'=L:=by have:=H.fr; rw [hL] at this; exact vo this
 clear hL
 obtain rfl:=this.symm
 exact kx th e _ _ _ P2 Xf (x2.mono (λz=>z.elim) λv hv=>trivial) q
theorem Q3 (hE:ag8 (Hj prog w) A env (λe s'=>R (.error e) s')=Er) (I:Nat->FF->Prop)
  (turn:∀n s,I n s->∀(Q:Option vi->FF->Prop) (F:aq4->FF->Prop),(∀s₁,R (.ok .next) s₁->Q vd s₁)->
   (∀v s₁,IQ (Hj prog w) A (ah8 target it v) (λo_ s=>IQ (Hj prog w) A (ah7 target env v) (λo_ jG=>IQ (Hj prog w) A (execs body env) F Er jG) Er s) Er s₁->Q (js v) s₁)->
   (∀m s,m < n->I m s->F .next s/\F .cont s)->(∀s,R (.ok .next) s->F .brk s)->(∀v s,R (.ok (.ret v)) s->F (.ret v) s)->IQ (Hj prog w) A (ar3 it) Q Er s)
  (n:Nat) (h:I n s):Z0 (Hj prog w) A (.forLoop target it body [] env) R s:=by
 subst hE
 refine codeAny_forLoop_any I (λn s hI=>turn n s hI _ _ (λs₁ bQ=>yd bQ) (λv s₁ bQ=>bQ) (λm s hm hI=>⟨⟨m,hm,hI⟩,⟨m,hm,hI⟩⟩) (λs h=>h) λv s h=>h) n h
theorem G3 {test:Xq} (hE:ag8 (Hj prog w) A env (λe s'=>R (.error e) s')=Er) (I:Nat->FF->Prop)
  (turn:∀n s,I n s->∀(Q:Bool->FF->Prop) (F:aq4->FF->Prop),(∀s₁,R (.ok .next) s₁->Q Fk s₁)->(∀s₁,IQ (Hj prog w) A (execs body env) F Er s₁->Q vk s₁)->
   (∀m s,m < n->I m s->F .next s/\F .cont s)->(∀s,R (.ok .next) s->F .brk s)->(∀v s,R (.ok (.ret v)) s->F (.ret v) s)->IQ (Hj prog w) A (aq9 test env (ac2 test env)) Q Er s)
  (n:Nat) (h:I n s):Z0 (Hj prog w) A (.whileLoop test body [] env) R s:=by
 subst hE
 refine codeAny_whileLoop I (λn s hI=>turn n s hI _ _ (λs₁ bQ=>yd bQ) (λs₁ bQ=>bQ) (λm s hm hI=>⟨⟨m,hm,hI⟩,⟨m,hm,hI⟩⟩) (λs h=>h) λv s h=>h) n h
set_option tactic.hygienic true in
theorem tN {turn:V->(Fl->En->St->Prop)->En->St->Prop} {Q:Fl->En->St->Prop} {Q':aq4->FF->Prop}
  (It:CM T I0 sv l Sr J) (ht:TurnOk T c n env target body X turn) (H:bO T n c9 sK s0 A env GB L) (P:aj T (WF env) c9 s0 ρ σ s) (e:dD T ρ s.heap env en) (hI:I0∈ρ.p) (yW:s0.heap.get? I0=vd) (hS:Sr ρ s.heap) (hJ:J 0 s.heap)
  (wp:hH sv l turn l Q en σ) (kf:KF T env c9 s0 Q Q') (kx:KX T (WF env) c9 s0 L X E'):
  Z0 (Hj T.prog T.w) A (.forLoop target (.ref I0) body [] env) (uQ T A env Q' E') s:=by
 refine iz H.alive λMQ Od MP=> ?_
 have nW:¬WF env I0:=by
  rintro (z | ⟨x,hx⟩)
  ·obtain ⟨o,g⟩:=MQ; rw [<-z,yW] at g; exact aI g
  ·obtain ⟨o,g⟩:=MP x I0 hx; exact fy yW g
 obtain ⟨Er,hE⟩:∃Er,ag8 (Hj T.prog T.w) A env (λe s'=>uQ T A env Q' E' (.error e) s')=Er:=⟨_,rfl⟩
 have No:∀{ρ} {σ} {s},aj T (WF env) c9 s0 ρ σ s->KX T (WF env) ρ s L X Er:=λP=>hE▸tO H kx P
 refine Q3 hE (λk s'=>∀G,(∀am aa aH i,k+i=l.length+1->aj T (WF env) c9 s0 am aa s'->dD T am s'.heap env aH->I0∈am.p->Sr am s'.heap->J i s'.heap->hH sv l turn (l.drop i) Q aH aa->G)->G) ?_ (l.length+1)
  λ_ z=>z ρ σ en 0 (Y0 [_] [] (.e (.a (.a V0 (.n 1)) (.n 0)) (.a V0 (.n 1))) rfl) P e hI hS hJ wp
 refine λk s1 hh QQ F qN qS qF fB fR=>hh _ λaU aT zv i hk P1 e1 xH IA LQ w1=> ?_
 cases hv:l[i]? with
 | none=>
  haveI hlen:l.length<=i:=by simpa using hv
  replace w1:=(ZY hlen)▸w1
  refine It.stop H.hd P1.rel xH IA LQ w1.1 hv λh' tk hb=>qN _ ?_
  obtain ⟨P2,S⟩:=P1.drop H.rel (D:=[I0]) (λb hb=>by simp at hb; refine bD hb.symm ?_; exact ⟨xH,yW⟩) (λb o yT q=>hb b o (by simpa using yT) q)
  have mem:∀b,b∈aU.p->(∃o,s0.heap.get? b=js o)->b∈(aU.drop [I0]).p:=λb hb ⟨o,q⟩=>aO.ch.mpr ⟨hb,λm=>by simp at m; exact fy yW (m▸q)⟩
  refine ag (id e1) λm1 E1 _=> ?_
  haveI e2:=e1.eR S (λb o yT q=>hb b o (λz=>by obtain rfl:=z.symm; exact (aO.ch.mp yT).2 (by simp)) q) (mem _ E1.lp MQ) (λL hL=>mem _ (by refine bZ E1.fr λL' q hp _=> ?_; refine bD (se q hL) ?_; exact hp) (Od L hL)) (λx c hc=>mem _ (E1.cells x c hc).1 (MP x c hc))
  exact kf .next .next _ _ _ _ (P2.tok tk) e2 rfl w1.2
 | some v=>
  haveI iT:=(Lf.mp hv).1
  haveI hd:l.drop i=v::l.drop (i+1):=af (Z1 iT) <| af ((Lf.mp hv).2) rfl
  rw [hd] at w1
  obtain ⟨h0,w2⟩:=w1
  refine It.item P1.rel xH IA LQ h0 hv λh' tk u LR sb rv=>bp (It.cls LR) λoI nI gI cI Kb=> ?_
  have P2:=aj.turn (W:=λb=>b=I0) P1.rel (λb hb=>hb▸xH) rfl sb ⟨_,gI⟩ tk
  have eP:aj T (WF env) c9 s0 aU aT {s1 with heap:=h',toks:=tk}:=⟨P2.rel,P1.ext.drop P2.ext λb hb=> .inr (hb▸yW),P2.gens.trans P1.gens,P2.os.trans P1.os⟩
  have wk:d4 (λb=>b=I0) aU:=λb hb=>hb▸xH
  haveI e2:dD T aU h' env zv:=by
   refine ag e1 λm E r=> ?_
   haveI n1:¬(λb=>b=I0) env.locals:=λz=>nW (.inl z.symm)
   haveI n2:∀L,env.frame=js L->¬(λb=>b=I0) L:=λL hL z=>by
    obtain ⟨o,q⟩:=Od L hL
    rw [z,yW] at q; exact aI q
   haveI n3:=λy c hc z=>nW (.inr ⟨y,(show c=I0 from z)▸hc⟩)
   exact az m (E.ext P2.ext P1.rel n1 n2 n3) (r.ext P2.ext P1.rel wk E n3)
  have H2:=H.step eP e2
  refine qS _ _ <| ht H2 (rv.ext P2.ext P1.rel.aF wk) w2 gI cI Kb (λfl f IF sL dq s3 P3 e3 fr w3=> ?_) (No eP)
  have uP:=eP.trans P3
  have step:=λw3=>qF (k - 1) _ (Y1 [_,_] [] (.t V0 V1) (.e (.a V0 (.n 1)) V1) (R6 (Y2 [_,_,_] [] (.l (.n 1) V0) (.r (.e (.a V0 V1) (.a V2 (.n 1)))) (.t V1 V2) hk iT rfl)) rfl) λ_ z=>z sL dq IF (i+1) (Y2 [_,_,_,_] [] (.e (.a V0 (.a V1 (.n 1))) (.a V2 (.n 1))) (.e (.a V3 V1) (.a V2 (.n 1))) (.e (.a V0 (.n 1)) V3) hk (R6 (Y2 [_,_,_] [] (.l (.n 1) V0) (.r (.e (.a V0 V1) (.a V2 (.n 1)))) (.t V1 V2) hk iT rfl)) rfl) uP e3 (P3.ext.aX xH) (It.src (It.src IA P2.ext P1.rel.aF wk) P3.ext P2.rel.aF H2.n8) (It.keep LR λo q=>P3.ext.own P2.rel xH nW q) w3
  cases fl with
  | next=>refine af fr ?_; exact (step w3).1
  | cont=>refine af fr ?_; exact (step w3).2
  | brk=>refine af fr ?_; exact fB _ (kf .next .next _ _ _ _ uP e3 rfl w3)
  | ret v=>
   exact ag fr λu' q1 r'=>af q1 <| fR _ _ (kf (.ret v) (.ret u') _ _ _ _ uP e3 (az u' rfl r') w3)
end
section
theorem o7 {a:Nj} (lq:a ≠ I0):CM T I0 sv l (λρ h=>aq ρ h sv (.ref a)) (λi h=>nv (vV sv) h I0 a i) where
 src:=λr x t w=>r.ext x t w
 cls:=λ{i h} j=>by
  cases hk:vV sv with
  | true=>
   rw [hk] at j
   obtain ⟨o,g,c,o_⟩:=j
   exact ⟨o,_,g,c,by decide⟩
  | false=>
   rw [hk] at j
   obtain ⟨o,g,c,o_⟩:=j
   exact ⟨o,_,g,c,by decide⟩
 keep:=λ{i h h'} j k=>by
  cases hk:vV sv with
  | true=>
   rw [hk] at j
   obtain ⟨o,g,c,d⟩:=j
   obtain ⟨sl,g',o_⟩:=k o g
   exact dH _ g' c d
  | false=>
   rw [hk] at j
   obtain ⟨o,g,c,d⟩:=j
   obtain ⟨sl,g',o_⟩:=k o g
   exact dH _ g' c d
 item:=λ{i v ρ σ s A E Q} R hI hS hJ h0 hv k=>by
  refine uy (R.seq' h0 hS) λa' xs e sq rr z c8=>ax λG_ ae=> ?_
  cases e
  exact ag (rr.get i v hv) λu hu ru=>ae <| tq hJ sq (by simpa using hu) λh' hit hs=>k h' s.toks u hit hs ru
 stop:=λ{i ρ σ s A E Q} hh R hI hS hJ h0 hv k=>by
  refine uy (R.seq' h0 hS) λa' xs e sq rr z c8=>ax λG_ ae=> ?_
  cases e
  have:l.length<=i:=by simpa using hv
  exact ae <| wW hh hJ sq (Array.getElem?_eq_none (ZT (Nat.le_of_eq c8) this)) λh' hb=>k h' s.toks hb
theorem AG (i j:Int) (k:Nat):(aM i j)[k]? =if (k:Int) < j - i then js (V.int (i+(k:Int))) else vd:=by
 unfold aM
 refine af (Z7) ?_
 by_cases h:(k:Int) < j - i
 ·rw [if_pos h,List.getElem?_range (by exact Y2 [_,_] [_,_] (.t V0 V1) (.T (.c V0) (.s V0 V1)) (.r (.Q (.c V1) (.s V0 V1))) h (ab3 (Y1 [_] [_,_] (.L (.n 0) (.s V0 V1)) (.T (.c V0) (.s V0 V1)) h rfl)) rfl)]; rfl
 ·rw [if_neg h,ao3 (by simp; exact Y1 [_] [_,_] (.L (.s V0 V1) (.c V0)) (.o (.T (.c V0) (.s V0 V1))) h rfl)]; rfl
theorem oJ (i j:Int):(aM i j).length=(j - i).toNat:=by simp [aM]
set_option tactic.hygienic true in
theorem ky:CM T I0 (.lst (aM i j)) (aM i j) (λ_ _=>True) (λk h=>k<=(aM i j).length/\IsRangeIter h I0 (i+(k:Int)) (((j - i).toNat:Int)-(k:Int)) 1) where
 src:=λ_ _ _ _=>trivial
 cls:=λ{k h} x=>(bP _ _ x.2 rfl (by decide))
 keep:=λ{k h h'} x kk=>by
  refine ag (kk _ x.2) λsl g e=> ?_
  have:=e (of_decide_eq_true rfl)
  clear e
  subst this
  exact ⟨x.1,g⟩
 item:=λ{k v ρ σ s A E Q} R hI hS hJ h0 hv kk=>by
  rw [AG] at hv
  split at hv
  ·rename_i iT
   obtain rfl:=vo hv
   refine wpAny_pyNext_range_item hJ.2 (Y2 [_,_] [_,_] (.T (.n 0) (.s (.c V0) (.c V1))) (.T (.c V1) (.s V0 V1)) (.r (.Q (.c V0) (.s V0 V1))) iT (ab3 (Y1 [_] [_,_] (.L (.n 0) (.s V0 V1)) (.T (.c V0) (.s V0 V1)) iT rfl)) rfl) λh' hit hs=>kk h' _ _ ⟨by simp only [oJ]; exact Y2 [_,_] [_,_] (.l (.a V0 (.n 1)) V1) (.T (.c V0) (.s V0 V1)) (.r (.Q (.c V1) (.s V0 V1))) iT (ab3 (Y1 [_] [_,_] (.L (.n 0) (.s V0 V1)) (.T (.c V0) (.s V0 V1)) iT rfl)) rfl,?_⟩ hs ⟨_,rfl⟩
   haveI e1:i+k+1=i+((k+1:Nat):Int):=by push_cast; exact Y0 [_] [_] (.Q (.a (.a V0 (.c V0)) (.n 1)) (.a V0 (.a (.c V0) (.n 1)))) rfl
   haveI e2:(((j - i).toNat:Int)- k)- 1=((j - i).toNat:Int)-((k+1:Nat):Int):=by push_cast; exact Y0 [_,_] [] (.Q (.s (.s (.c V0) (.c V1)) (.n 1)) (.s (.c V0) (.a (.c V1) (.n 1)))) rfl
   rw [e1,e2] at hit
   exact hit
  ·exact aI hv
 stop:=λ{k ρ σ s A E Q} hh R hI hS hJ h0 hv kk=>by
  have:(aM i j).length<=k:=by simpa using hv
  rw [oJ] at this
  exact wpAny_pyNext_range_end hh hJ.2 (Y1 [_,_] [] (.L (.s (.c V0) (.c V1)) (.n 0)) (.l V0 V1) this rfl) λh' hb=>kk h' s.toks hb
theorem lS (hy:T.nm x=y) (hk:env.kindOf y=js .local∨env.kindOf y=js .cell) (hb:f7 T c n env body mb):
  TurnOk T c n env (.Name y px) body X (λv K en σ=>bX c mb K X (en.set x v) σ):=by
 intro ρ σ s A en L v u I0 oI nI Q Q' E' H rv wp gI cI Kb kf kx
 refine yd <| iX (c:=c) hy hk H rv wp (λzv aU aT s1 P1 e1 w1=> ?_) kx
 exact hb (H.step P1 e1) w1 (kf.step P1) (kx.step P1)
noncomputable def ip (e:Xq):Bool:=!H7 7 e
theorem mq (h:ip iter=vk) x:foldedSetIterable iter env x=pure x:=by
 cases iter <;> first | rfl | exact dy h
theorem s7 {Q:Fl->En->St->Prop} {Q':aq4->FF->Prop} {turn:V->(Fl->En->St->Prop)->En->St->Prop} (h:aw T c n env iter me) (hs:ip iter=vk) (ht:TurnOk T c n env target body X turn)
  (H:bO T n ρ σ s A env en L) (wp:ba c me (λsv σ=>eO (aQ σ sv) λl=>hH sv l turn l Q en σ) X en σ) (kf:KF T env ρ s Q Q') (kx:KX T (WF env) ρ s L X E'):
  IQ (Hj T.prog T.w) A (exec (.For target iter body [] pos) env) Q' E' s:=by
 refine wpAny_For (h H.here wp (λv u aU aT s1 P1 r1 w1=> ?_) kx.up) (mq hs)
 refine bI w1 λl e1 w2=>uy (P1.rel.seq' e1 r1) λa xs q1 sq rr z c8=> ?_
 subst q1
 obtain ⟨o0,g0⟩:=sq.alive
 refine kS sq λh' g hit=> ?_
 haveI nI:=aK s1.heap
 obtain ⟨o1,g1⟩:∃o,h'.get? s1.heap.objs.size=js o:=by
  cases hk:vV v with
  | true=>rw [hk] at hit; refine ag hit λo g o_=> ?_; exact ⟨o,g⟩
  | false=>rw [hk] at hit; refine ag hit λo g o_=> ?_; exact ⟨o,g⟩
 obtain ⟨R2,X2⟩:=P1.rel.own g (l:=[s1.heap.objs.size]) (λb hb=>by simp at hb; subst hb; exact nI) (λb hb=>by simp at hb; subst hb; exact ⟨o1,g1⟩)
 haveI P2:aj T W0 aU s1 (aU.own [s1.heap.objs.size]) aT {s1 with heap:=h'}:=⟨R2,X2,rfl,rfl⟩
 haveI eP:=P1.trans P2
 have:=tN (o7 (λe=>ag9 _ (by have:=ZU g0; rw [e] at this; exact this))) ht H eP.up (H.env.ext eP.ext H.rel) (by simp [aO.own]) (P1.ext.fresh nI) (P2.val P1.rel r1) hit w2 kf kx
 refine at7 this λr s' hr=> ?_
 cases r with
 | ok f=>exact hr
 | error e=>exact hr
theorem Ak (h:aw T c n env iter me) (hs:ip iter=vk) (hy:T.nm x=y) (hk:env.kindOf y=js .local∨env.kindOf y=js .cell) (hb:f7 T c n env body mb):
  dk T c n env (.For (.Name y px) iter body [] pos) (.lu x me mb):=by
 intro ρ σ s A en L Q X Q' E' H wp kf kx
 exact s7 h hs (lS hy hk hb) H wp kf kx
theorem vh {xs:List Nat} {tp:Pos} (ht:fZ T c n env ts (xs.map .nm)) (hb:f7 T c n env body mb):
  TurnOk T c n env (.Tuple ts k tp) body X (λv K en σ=>eO (aQ σ v) λvs=>xs.length=vs.length/\rm c (xs.map .nm) vs (λen σ=>bX c mb K X en σ) X en σ):=by
 intro ρ σ s A en L v u I0 oI nI Q Q' E' H rv wp gI cI Kb kf kx
 refine bZ (gh.mp wp) λvs e1 hlen w2=>jj (H.rel.seq e1 rv) λkk a ys q1 sq rr z c8=>af q1 ?_
 have tail:IQ (Hj T.prog T.w) A (ah7 (.Tuple ts k tp) env (.ref a)) (λo_ s2=>IQ (Hj T.prog T.w) A (execs body env) Q' E' s2) E' s:=by
  refine j' (Zq ?_)
  unfold unpack
  refine iz ht.each λe2 e3 e4=> ?_
  haveI hl:ts.length=ys.size:=by
   rw [c8,<-hlen]
   have:∀{ts} {ms},fZ T c n env ts ms->ts.length=ms.length:=by
    intro ts
    induction ts with
    | nil=>intro ms h; cases ms with | nil=>rfl | cons=>exact h.elim
    | cons t ts ih=>intro ms h; cases ms with | nil=>exact h.elim | cons m ms=>simp [ih h.2.2]
   refine af (this ht) ?_; simp
  simp only [e2,e3,e4,hl]
  refine j' (N6 (il H.hd sq λh' g=> ?_))
  have P2:=(aj.refl (W:=W0) H.rel).grow g s.toks
  refine iY _ _ _ _ _ _ _ _ _ ht (H.cU P2) (rr.grows g H.rel) w2 (λzv aU aT s1 P1 e1 q=> ?_) (kx.step P2.up)
  haveI eP:=P2.up.trans P1
  exact hb (H.step eP e1) q (kf.step eP) (kx.step eP)
 refine j' (wpAny_load gI ?_)
 refine af cI ?_
 cases oI.data <;> first | exact yd tail | (dsimp only; rw [Kb,Bool.false_and]; exact yd tail)
theorem Aj {xs:List Nat} {tp:Pos} (h:aw T c n env iter me) (hs:ip iter=vk) (ht:fZ T c n env ts (xs.map .nm)) (hb:f7 T c n env body mb):
  dk T c n env (.For (.Tuple ts k tp) iter body [] pos) (.BM xs me mb):=by
 intro ρ σ s A en L Q X Q' E' H wp kf kx
 exact s7 h hs (vh ht hb) H wp kf kx
theorem kU (i j:Int):ab7 i j 1=(((j - i).toNat:Nat):Int):=by
 rw [rangeSize_one]; split
 ·first | exact (ab3 (Int.sub_nonneg_of_le (ad1 ‹_›))).symm | grind
 ·first | (refine af (Int.toNat_of_nonpos (Int.sub_nonpos_of_le (az6.mp ‹_›))) ?_; rfl) | grind
theorem i' {t u v:Tok} (R:bc T ρ σ s.heap) (hb:-1000000 < i/\i < 1000000/\-1000000 < j/\j < 1000000) {a:Nj} (hr:IsRange s.heap a i j 1 t u v)
  (k:∀h',aj T W0 ρ s (ρ.own [s.heap.objs.size]) σ {s with heap:=h'}->IsRangeIter h' s.heap.objs.size (i+((0:Nat):Int)) (((j - i).toNat:Int)-((0:Nat):Int)) 1->Q' (.ref s.heap.objs.size) {s with heap:=h'}):
  IQ (Hj T.prog T.w) A (al2 (.ref a)) Q' E' s:=by
 refine wpAny_pyIter_range hr (small_one (by exact Y1 [] [_] (.L (.g (.n 4611686018427387904)) V0) (.T (.g (.n 1000000)) V0) hb.1 rfl) (by exact Y1 [] [_] (.T V0 (.n 4611686018427387904)) (.T V0 (.n 1000000)) hb.2.1 rfl) (by exact Y1 [] [_] (.L (.g (.n 4611686018427387904)) V0) (.T (.g (.n 1000000)) V0) hb.2.2.1 rfl) (by exact Y1 [] [_] (.T V0 (.n 4611686018427387904)) (.T V0 (.n 1000000)) hb.2.2.2 rfl)) ?_
 haveI g:=Grows.push s.heap {cls:=.type "range_iterator",data:=.fields #[aa1 i,aa1 (ab7 i j 1),aa1 1]}
 haveI gI:(s.heap.push {cls:=.type "range_iterator",data:=.fields #[aa1 i,aa1 (ab7 i j 1),aa1 1]}).get? s.heap.objs.size=js {cls:=.type "range_iterator",data:=.fields #[aa1 i,aa1 (ab7 i j 1),aa1 1]}:=Q1 _ rfl
 obtain ⟨R2,X2⟩:=R.own g (l:=[s.heap.objs.size]) (λb hb=>by simp at hb; subst hb; exact aK _) (λb hb=>by simp at hb; subst hb; exact ⟨_,gI⟩)
 refine k _ ⟨R2,X2,rfl,rfl⟩ ?_
 rw [kU] at gI
 rw [kU]
 simpa using gI
theorem jQ {turn:V->(Fl->En->St->Prop)->En->St->Prop} {Q:Fl->En->St->Prop} {Q':aq4->FF->Prop} {a:Nj} {t u v:Tok} (ht:TurnOk T c n env target body X turn)
  (H:bO T n ρ σ s A env en L) (P1:aj T W0 ρ s aU aT s1) (hb:-1000000 < i/\i < 1000000/\-1000000 < j/\j < 1000000) (hr:IsRange s1.heap a i j 1 t u v) (w:hH (.lst (aM i j)) (aM i j) turn (aM i j) Q en aT) (kf:KF T env ρ s Q Q') (kx:KX T (WF env) ρ s L X E'):
  IQ (Hj T.prog T.w) A (al2 (.ref a)) (λit s2=>Z0 (Hj T.prog T.w) A (.forLoop target it body [] env) (λr s'=>match r with | .ok f=>Q' f s' | .error e=>ae7 (Hj T.prog T.w) A env E' e s') s2) E' s1:=by
 refine i' P1.rel hb hr λh' P2 hit=> ?_
 haveI eP:=P1.trans P2
 refine at7 (tN (c:=c) (s:={s1 with heap:=h'}) (ky (T:=T) (I0:=s1.heap.objs.size) (i:=i) (j:=j)) ht H eP.up (H.env.ext eP.ext H.rel) (by simp [aO.own]) (P1.ext.fresh (aK _)) trivial ⟨Z5 _,hit⟩ w kf kx) λr s' hr=> ?_
 cases r with
 | ok f=>exact hr
 | error e=>exact hr
theorem yp (g:ce T env z (.type "range") es) (h:bN T c n env es (.cons lo (.cons hi .nil))) (hy:T.nm x=y) (hk:env.kindOf y=js .local∨env.kindOf y=js .cell) (hb:f7 T c n env body mb):
  dk T c n env (.For (.Name y px) (.Call (.Name z pz) es [] pos') body [] pos) (.forR x lo hi vk mb):=by
 intro ρ σ s A en L Q X Q' E' H wp kf kx
 refine wpAny_For (eC g h H.here (oA.mpr wp) (λvs us aU aT s1 P1 r1 w1=> ?_) kx.up) (λo_=>rfl)
 refine ax λG_ ae=> ?_
 refine bV (oz w1) λv1 v2 q3 w2=> ?_
 clear w1 wp
 subst q3
 refine bp (lR r1) λu1 u2 q4 q1 q2=> ?_
 subst q4
 refine jR w2 λi q5 w3=> ?_
 subst q5
 refine bZ (dM.mp w3) λj q6 bd w4=> ?_
 subst q6
 obtain ⟨t1,rfl⟩:=q1
 obtain ⟨t2,rfl⟩:=q2
 refine ae ?_
 refine call_range_2 ?_
 haveI P2:=P1.grow (Grows.push s1.heap {cls:=.type "range",data:=.fields #[.int i t1,.int j t2,.int 1 s1.toks]}) (s1.toks+1)
 exact jQ (c:=c) (lS hy hk hb) H P2 bd (ah2 ..) w4 kf kx
theorem yq (g:ce T env z (.type "range") es) (h:bN T c n env es (.cons hi .nil)) (hy:T.nm x=y) (hk:env.kindOf y=js .local∨env.kindOf y=js .cell) (hb:f7 T c n env body mb):
  dk T c n env (.For (.Name y px) (.Call (.Name z pz) es [] pos') body [] pos) (.forR x (.int 0) hi Fk mb):=by
 intro ρ σ s A en L Q X Q' E' H wp kf kx
 change ba c hi (v7 x (.int 0) (bX c mb) Q X en) X en σ at wp
 refine wpAny_For (eC g h H.here (gH.mpr wp) (λvs us aU aT s1 P1 r1 w1=> ?_) kx.up) (λo_=>rfl)
 refine nameQ λFk iv=> ?_
 refine pW w1 r1 λv1 u1 w2 q1=> ?_
 refine jR w2 λi e0 w3=> ?_
 cases e0
 refine bZ (dM.mp w3) λj q4 bd w4=> ?_
 subst q4
 refine jI q1 λt1=> ?_
 refine at9 ?_
 refine iv _ _ ?_
 exact jQ (c:=c) (lS hy hk hb) H (P1.grow (Grows.push s1.heap {cls:=.type "range",data:=.fields #[.int 0 s1.toks,.int j t1,.int 1 (s1.toks+1)]}) (s1.toks+1+1)) bd (ah2 ..) w4 kf kx
set_option tactic.hygienic true in
theorem yi {mt} (ht:iR T c n env t mt) (hb:f7 T c n env b mb):dk T c n env (.While t b [] pos) (.i7 mt mb):=by
 intro ρ σ s A en L Q X Q' E' H wp kf kx
 refine dJ (wp:∃n,lQ (sR (ba c mt) X) (sS (bX c mb) X) n Q en σ) λN wp=>wpAny_While ?_
 have:Z0 (Hj T.prog T.w) A (.whileLoop t b [] env) (uQ T A env Q' E') s:=by
  obtain ⟨Er,hE⟩:∃Er,ag8 (Hj T.prog T.w) A env (λe s'=>uQ T A env Q' E' (.error e) s')=Er:=⟨_,rfl⟩
  have No:∀{aU} {aT} {s1},aj T (WF env) ρ s aU aT s1->KX T (WF env) aU s1 L X Er:=λP=>hE▸tO H kx P
  refine G3 hE (λk s'=>∀G,(∀am aa aH,aj T (WF env) ρ s am aa s'->dD T am s'.heap env aH->lQ (sR (ba c mt) X) (sS (bX c mb) X) k Q aH aa->G)->G) ?_ N λ_ z=>z ρ σ en (.refl H.rel) H.env wp
  refine λk s1 hh QQ F qN qS qF fB fR=>hh _ λaU aT zv P1 e1 w1=> ?_
  have H1:=H.step P1 e1
  clear e1 hh hE kx
  cases k with
  | zero=>exact w1.elim
  | succ k=>
   refine ht H1.here w1 (λr lN aV s2 P2 w2=> ?_) (KX.up (No P1))
   have eP:=P1.trans P2.up
   haveI H2:=H1.cU P2
   cases r with
   | true=>
    refine qS _ (hb H2 w2 (λfl f IF sL dq s3 P3 e3 fr w3=> ?_) (No eP))
    have uP:=eP.trans P3
    cases fl with
    | next=>cases fr; exact (qF k _ (aw2 k) λ_ z=>z sL dq IF uP e3 w3).1
    | cont=>cases fr; exact (qF k _ (aw2 k) λ_ z=>z sL dq IF uP e3 w3).2
    | brk=>refine af fr ?_; exact fB _ (kf .next .next _ _ _ _ uP e3 rfl w3)
    | ret v=>
     exact ag fr λu' q1 r'=>af q1 <| fR _ _ (kf (.ret v) (.ret u') _ _ _ _ uP e3 (az u' rfl r') w3)
   | false=>exact qN _ (kf .next .next _ _ _ _ eP H2.env rfl w2)
 refine at7 this λr s' hr=> ?_
 cases r with
 | ok f=>exact hr
 | error e=>exact hr
end
theorem fE:∀(names:List (Zu×Z2)) (k:Nat) (acc:List (Zu×Nj)),Zx k names acc=Zx k names []++acc
 | []=>λo_ o_=>rfl
 | (x,kind)::r=>λk acc=>by
  unfold Zx
  split
  ·rw [fE r (k+1) ((x,k)::acc),fE r (k+1) [(x,k)]]; simp
  ·exact fE r k acc
theorem mI:∀(names:List (Zu×Z2)) (k:Nat) (acc:List (Zu×Nj)) (x:Zu),(x,ZA)∈names->∃c,(x,c)∈Zx k names acc
 | []=>λo_ o_ o_ h=>nomatch h
 | (y,kind)::r=>λk acc x h=>by
  unfold Zx
  refine as4 (Zr.mp h) (λe=> ?_) λh=> ?_
  ·cases e
   rw [if_pos (by rfl),fE]
   exact ⟨k,ZS _ (.head _)⟩
  ·split
   ·exact mI r _ _ x h
   ·exact mI r _ _ x h
theorem dg {α:Type}:∀{l:List (Zu×α)} {x} {c},(x,c)∈l->∃c',l.lookup x=js c'
 | (y,d)::r,x,c,h=>by
  refine af Zh ?_
  cases hb:x==y with
  | true=>exact ⟨d,rfl⟩
  | false=>
   rcases Zr.mp h with e | h
   ·cases e; simp at hb
   ·exact dg h
section
variable {E:vi->FF->Prop}
theorem qA {Q:Env->FF->Prop} {closure:List (Zu×Nj)} {binds:List (Zu×vi)} {code}
  (h:∀env,env=newEnv scope s.heap.objs.size globals (Zx (s.heap.objs.size+1) scope.names closure) qual func code vd builtins->
   IQ M A (forIn binds aa6 λx o_=>do ai5 env x.1 x.2; pure (Zv aa6)) (λo_ s'=>Q env s') E {s with heap:=ap9 (s.heap.push {cls:=.type "frame",data:=.dict #[]}) scope.names}):
  IQ M A (ac8 scope globals closure binds qual func code vd builtins) Q E s:=by
 simp only [ac8,Option.isSome_none,ZE,if_false]
 refine j' (ax6 ?_)
 refine j' (wpAny_layCells _ (λname kind cells=>by cases Qw:kind==ZA <;> dsimp only [Qw]) _ _ _ _ ?_)
 rw [show ({s with heap:=s.heap.push {cls:=.type "frame",data:=.dict #[]}}:FF).heap.objs.size=s.heap.objs.size+1 from ac7 ..]
 refine j' (ZJ (h _ rfl) (λo_ s' q=>yd q) λo_ o_ e=>e)
theorem vU {outer:Env} {Q:Env->FF->Prop} {closure:List (Zu×Nj)}
  (h:Q (newEnv scope s.heap.objs.size globals (Zx (s.heap.objs.size+1) scope.names closure) qual vd .none (js outer) ZO) {s with heap:=ap9 (s.heap.push {cls:=.type "dict",data:=.dict #[]}) scope.names}):
  IQ M A (ac8 scope globals closure [] qual vd .none (js outer)) Q E s:=by
 simp only [ac8,Option.isSome_some,if_true]
 refine j' (ax6 ?_)
 refine j' (wpAny_layCells _ (λname kind cells=>by cases Qw:kind==ZA <;> dsimp only [Qw]) _ _ _ _ ?_)
 rw [show ({s with heap:=s.heap.push {cls:=.type "dict",data:=.dict #[]}}:FF).heap.objs.size=s.heap.objs.size+1 from ac7 ..]
 exact j' (yd (yd h))
end
section
noncomputable def bb (k:Nj) (names:List (Zu×Z2)):List Nj:=k::(Zx (k+1) names []).map (·.2)
structure Laid (h:Z4) (ob:Obj) (names:List (Zu×Z2)) (h':Z4):Prop where
 grows:Grows h h'
 loc:h'.get? h.objs.size=js ob
 cell:∀x c,(x,c)∈Zx (h.objs.size+1) names []->h'.IsCell c vd/\h.objs.size+1<=c
 apart:(Zx (h.objs.size+1) names []).Pairwise λx y=>x.2 ≠ y.2
theorem laid h (hf:ob.isFreed=Fk) (names:List (Zu×Z2)):Laid h ob names (ap9 (h.push ob) names):=by
 have ok:=cellsFrom_ok names (h.push ob) (h.objs.size+1) [] ⟨λo_ o_ hm=>(nomatch hm),List.Pairwise.nil⟩ (by simp only [ac7]; exact af0 _)
 rw [ac7] at ok
 exact ⟨λb o e=>pushCells_keeps _ _ b o (Xr _ e),pushCells_keeps _ _ _ _ (Q1 _ hf),λx c hm=>ok.empty x c hm,ok.apart⟩
theorem Laid.own {names:List (Zu×Z2)} (x:Laid s.heap ob names h') (R:bc T ρ σ s.heap):aj T W0 ρ s (ρ.own (bb s.heap.objs.size names)) σ {s with heap:=h'}:=by
 haveI h1:∀a∈bb s.heap.objs.size names,s.heap.get? a=vd:=λa ha=>by
  refine mh (Zr.mp ha) ?_ λha=> ?_
  ·exact aK _
  ·refine ag (an1.mp ha) λy1 hm q1=> ?_
   obtain ⟨y,c⟩:=y1
   subst q1
   exact ZD (Z8 (x.cell y c hm).2)
 haveI h2:∀a∈bb s.heap.objs.size names,∃o,h'.get? a=js o:=λa ha=>by
  refine mh (Zr.mp ha) ?_ λha=> ?_
  ·exact ⟨_,x.loc⟩
  ·refine ag (an1.mp ha) λy2 hm q2=> ?_
   obtain ⟨y,c⟩:=y2
   subst q2
   obtain ⟨⟨o,e,o_⟩,o_⟩:=x.cell y c hm
   exact ⟨o,e⟩
 exact dP (R.own x.grows h1 h2) λR2 X2=>⟨R2,X2,rfl,rfl⟩
theorem Laid.BV {names:List (Zu×Z2)} (x:Laid s.heap ob names h') (xD:ob.data=.dict #[] nn) (R:bc T ρ σ s.heap) {cl:List (Zu×Nj)} (hk:env.scope.kind=.function) (hg:env.globals=Zy) (hb:env.builtins=ZO) (hl:env.locals=s.heap.objs.size)
  (hc:env.cells=Zx (s.heap.objs.size+1) names []++cl) (pg:∀y c,cl.lookup y=js c->c∈ρ.p/\∃v,s.heap.IsCell c v) (WG:∀y z c,cl.lookup y=js c->cl.lookup z=js c->y=z)
  (hf:∃L,env.frame=js L/\L∈(ρ.own (bb s.heap.objs.size names)).p/\bC h' L)
  (has:∀y,env.kindOf y=js .cell∨env.kindOf y=js .free->(y,ZA)∈names∨∃c,cl.lookup y=js c):d8 (ρ.own (bb s.heap.objs.size names)) h' env (λo_=>vd):=by
 haveI P:=x.own R
 have look:∀y c,env.cells.lookup y=js c->(y,c)∈Zx (s.heap.objs.size+1) names []∨((Zx (s.heap.objs.size+1) names []).lookup y=vd/\cl.lookup y=js c):=λy c e=>by
  rw [hc,ae8] at e
  cases z:(Zx (s.heap.objs.size+1) names []).lookup y with
  | some c'=>replace e:=z▸e; refine bD (vo e) ?_; exact .inl (mem_of_lookup z)
  | none=>rw [z] at e; exact .inr ⟨rfl,e⟩
 have alive:∀y c,cl.lookup y=js c->c < s.heap.objs.size:=λy c e=>by
  obtain ⟨o_,v,o,g,o_⟩:=pg y c e
  exact ZU g
 refine ⟨hk,hg,hb,?_,by simp only [hl]; exact ZC _ (.head _),hf,λy c e=> ?_,λy z c e1 e2=> ?_,λy hy=> ?_⟩
 ·exact hl▸(yO ob (#[]) nn x.loc xD (λe he=>by simp at he) (λo_=>rfl))
 ·rcases look y c e with m | ⟨o_,m⟩
  ·obtain ⟨g,lo⟩:=x.cell y c m
   exact ⟨ZC _ (.tail _ (aq6 (f:=(·.2)) m)),by refine af hl ?_; exact af5 (Nat.lt_of_succ_le lo),vd,g⟩
  ·refine ax λG_ ae=> ?_
   obtain ⟨hp,v,o,g,d⟩:=pg y c m
   exact ae <| ⟨ZS _ hp,by simp only [hl]; exact ai2 (alive y c m),v,o,x.grows _ _ g,d⟩
 ·rcases look y c e1 with m1 | ⟨o_,m1⟩ <;> rcases look z c e2 with m2 | ⟨o_,m2⟩
  ·exact name_of_addr x.apart m1 m2
  ·exact absurd (alive z c m2) (ZP.mpr (Z8 (x.cell y c m1).2))
  ·exact absurd (alive y c m1) (ZP.mpr (Z8 (x.cell z c m2).2))
  ·exact WG y z c m1 m2
 ·rw [hc,ae8]
  cases z:(Zx (s.heap.objs.size+1) names []).lookup y with
  | some c'=>exact ⟨c',rfl⟩
  | none=>
   rcases has y hy with m | ⟨c,m⟩
   ·obtain ⟨c,hm⟩:=mI names (s.heap.objs.size+1) [] y m
    exact dJ (dg hm) λc' e=>fy z e
   ·exact ⟨c,by refine bD m ?_; rfl⟩
noncomputable def ik:En->List (Nat×V)->En
 | en,[]=>en
 | en,(x,v)::r=>ik (en.set x v) r
inductive eM (T:Cx) (ρ:aO) (h:Z4):List (Zu×vi)->List (Nat×V)->Prop
 | nil:eM T ρ h [] []
 | cons {x v u bs xs}:aq ρ h v u->eM T ρ h bs xs->eM T ρ h ((T.nm x,u)::bs) ((x,v)::xs)
theorem eM.ext {bs:List (Zu×vi)} {xs:List (Nat×V)} (b:eM T ρ h bs xs) (x:dZ T W ρ h am h') (t:iE T h) (wl:d4 W ρ):eM T am h' bs xs:=by
 induction b with
 | nil=>exact .nil
 | cons r _ ih=>exact .cons (r.ext x t wl) ih
theorem Cv {Q':PUnit->FF->Prop} {bs:List (Zu×vi)}:∀{xs:List (Nat×V)} {ρ} {σ} {s} {en},eM T ρ s.heap bs xs->(∀p∈xs,env.kindOf (T.nm p.1)=js .local∨env.kindOf (T.nm p.1)=js .cell)->bc T ρ σ s.heap->dD T ρ s.heap env en->
  (∀s',aj T (WF env) ρ s ρ σ s'->dD T ρ s'.heap env (ik en xs)->Q' aa6 s')->
  IQ (Hj T.prog T.w) A (forIn bs aa6 λx o_=>do ai5 env x.1 x.2; pure (Zv aa6)) Q' E' s:=by
 induction bs with
 | nil=>
  intro xs ρ σ s en b hk R e k
  cases b
  exact yd (k s (.refl R) e)
 | cons p bs ih=>
  intro xs ρ σ s en b hk R e k
  cases b with
  | cons r b=>
   rw [ZZ]
   refine ag e λm E er=>j' (j' (sT R E er E.n8 (hk _ (.head _)) ⟨λo_=> .inl rfl,λo_ c hc=> .inr ⟨_,hc⟩⟩ r λh' tk P e1=>yd ?_))
   exact ih (b.ext P.ext R.aF E.n8) (λp hp=>hk p (.tail _ hp)) P.rel e1 λs' P' e'=>k s' (P.trans P') e'
end
structure lM (T:Cx) (f:Nat) (scope:ai7) (body:List ad3) (params:List Nat) (dv:List V) (qual:Zu) (om:vi):Prop where
 at_:∀G:Prop,(∀(o:Obj) (fd:ad9) (ds:List vi),T.K.lookup (T.sI f)=js o->o.data=.func fd->fd.scope=scope->fd.body=.stmts body->fd.globals=Zy->fd.closure=[]->fd.builtins=ZO->fd.qualname=qual->fd.code=om->
  codeIn T.K om qual=vk->ds.length=dv.length->(∀ρ h,ai ρ h dv ds)->(∀{s:FF} {us:List vi},T.K.In s.heap->params.length - dv.length<=us.length->us.length<=params.length->
   BindsTo s fd ⟨us,[]⟩ ((params.map T.nm).zip (us++ds.drop (dv.length -(params.length - us.length)))))->G)->G
 co:scope.isCoroutine=Fk
 gen:scope.isGenerator=Fk
 kind:scope.kind=.function
 kinds:∀x∈params,scope.names.lookup (T.nm x)=js .local∨scope.names.lookup (T.nm x)=js .cell
 HA:∀y,scope.names.lookup y ≠ js .free
section
theorem uJ:∀{xs:List Nat} {vs} {us},ai ρ h vs us->eM T ρ h ((xs.map T.nm).zip us) (xs.zip vs)
 | [],vs,us,_=>by simp; exact .nil
 | x::xs,[],us,r=>by refine af (show us=[] from r) ?_; simp; exact .nil
 | x::xs,v::vs,us,r=>bp r λu us q1 r1 r2=>af q1 <| .cons r1 (uJ r2)
theorem po {params:List Nat} (F:lM T f scope body params dv qual om)
  (hR:bc T ρ σ s.heap) (hd:A.depth < aa5) (l1:params.length - dv.length<=us.length) (l2:us.length<=params.length)
  (k:∀env aU s1 L ds,aj T W0 ρ s aU σ s1->d8 aU s1.heap env (λo_=>vd)->env.scope=scope->env.qual=qual++ ".<locals>."->env.code=om->env.locals=L->env.frame=js L->(∀b,WF env b->s.heap.get? b=vd)->(∀ρ h,ai ρ h dv ds)->ds.length=dv.length->∀E:vi->FF->Prop,
   IQ (Hj T.prog T.w) A.in1 (forIn ((params.map T.nm).zip (us++ds.drop (dv.length -(params.length - us.length)))) aa6 λ(x:Zu×vi) (_:PUnit)=>do ai5 env x.1 x.2; pure (Zv aa6)) (λo_ jG=>jG.heap.NoLimit/\Z0 (Hj T.prog T.w) A (.func body env) R jG) E s1):
  Z0 (Hj T.prog T.w) A (.call (.ref (T.sI f)) ⟨us,[]⟩) R s:=by
 refine F.at_ _ λo fd ds ho Wj q1 q2 q3 q4 q5 q6 q7 QF qd NQ LG=> ?_
 subst q6; subst q7; subst q1
 refine codeAny_call_function hd (hR.K _ _ ho) Wj F.co F.gen q2 (codeRec_of hR.K QF) (LG hR.K l1 l2 _ _ _ _ ?_)
 rw [q3,q4,q5]
 refine qA λenv kC=> ?_
 have L0:=laid s.heap (ob:={cls:=.type "frame",data:=.dict #[]}) rfl fd.scope.names
 have pR:env.scope=fd.scope:=by refine af kC ?_; rfl
 have pS:env.frame=js s.heap.objs.size:=by refine af kC ?_; rfl
 have sg:env.locals=s.heap.objs.size:=by refine af kC ?_; rfl
 have vc:env.cells=Zx (s.heap.objs.size+1) fd.scope.names []++ []:=by simp only [kC,aa8]; rfl
 refine k env _ _ _ ds (L0.own hR) (L0.BV (R:=hR) rfl (pR▸F.kind) (by refine af kC ?_; rfl) (by refine af kC ?_; rfl) sg vc (λy c e=>aI e) (λy z c e=>aI e)
   ⟨_,pS,ZC _ (.head _),_,#[],0,L0.loc,rfl,rfl⟩ (λy hy=> ?_)) pR (by refine af kC ?_; rfl) (by refine af kC ?_; rfl) sg pS (λb hb=> ?_) NQ qd _
 ·unfold ab2 at hy
  rw [pR] at hy
  exact hy.elim (λh=> .inl (mem_of_lookup h)) λh=>(F.HA y h).elim
 ·rcases hb with rfl | ⟨y,hy⟩
  ·exact sg▸aK _
  ·rw [vc,aa8] at hy
   exact ZD (Z8 (L0.cell y b (mem_of_lookup hy)).2)
theorem wP {params:List Nat} (F:lM T f scope body params dv qual om) (hb:∀env,env.scope=scope->env.qual=qual++ ".<locals>."->env.code=om->f7 T c n env body mb) {vs:List V}
  (hl:params.length - dv.length<=vs.length) (uY:vs.length<=params.length)
  (wp:bX c mb (λfl o_ σ=>match fl with | .ret v=>Q v σ | .next=>Q .none σ | _=>False) X (ik En.none (params.zip (vs++dv.drop (dv.length -(params.length - vs.length))))) σ):IZ T (n+1) f vs Q X σ:=by
 intro ρ s A outer args R hR hA hv kq kx
 haveI hlen:=hv.length
 refine po F hR (Y1 [_,_,_] [] (.t V0 V1) (.l (.a (.a V0 (.m 5 (.a V2 (.n 1)))) (.n 10)) V1) hA.lB rfl) (Y2 [_,_,_] [] (.l V0 V1) (.l V0 V2) (.r (.e V1 V2)) hl hlen rfl) (Y2 [_,_,_] [] (.l V0 V1) (.l V2 V1) (.e V0 V2) uY hlen rfl) λenv aU s1 L ds P0 E0 pR Xi Xu sg pS ap4 NQ qd E=>Cv (uJ (hlen.symm▸((P0.vals hR hv).append ((NQ _ _).drop _)):ai aU s1.heap (vs++dv.drop (dv.length -(params.length - vs.length))) (args++ds.drop (dv.length -(params.length - args.length))))) (λp hp=> ?_) P0.rel (az _ E0 (λy v e=>aI e)) λs2 P2 e2=> ?_
 ·have:=F.kinds p.1 (List.of_mem_zip (show (p.1,p.2)∈_ from hp)).1
  unfold ab2; exact pR▸this
 refine ⟨(P2.rel.ok.lim).keeps P2.rel.base,au0 ?_⟩
 have H:bO T n aU σ s2 (A.deeper env) env (ik En.none (params.zip (vs++dv.drop (dv.length -(params.length - vs.length))))) L:=by
  refine ⟨P2.rel,hA.hd,(dH outer ?_ ?_ (λe he L' BC w=> ?_)),?_,?_,pS,e2⟩
  ·refine (?_:A.frames.map (env::·)=_)
   refine af hA.fr ?_; rfl
  ·refine au.ext P2.ext P0.rel (λe he L' BC w=> ?_) (au.ext P0.ext hR (λo_ o_ o_ o_ w=>w) hA.sH)
   obtain ⟨o_,L2,Cb,o_,o,o_,o_,g,o_⟩:=hA.sH e he
   rw [BC] at Cb; cases Cb
   rw [ap4 L' w] at g; cases g
  ·obtain ⟨o_,L2,Cb,o_,o,o_,o_,g,o_⟩:=hA.sH e he
   rw [BC] at Cb; cases Cb
   rw [ap4 L' w] at g; cases g
  ·have:=hA.lB; show A.depth+1+5*n+14<=_; exact Y1 [_,_,_] [] (.l (.a (.a (.a V0 (.n 1)) (.m 5 V1)) (.n 14)) V2) (.l (.a (.a V0 (.m 5 (.a V1 (.n 1)))) (.n 10)) V2) this rfl
  ·have:=hA.lO; show A.units+3+60*n+100<=_; exact Y1 [_,_,_] [] (.l (.a (.a (.a V0 (.n 3)) (.m 60 V1)) (.n 100)) V2) (.l (.a (.a V0 (.m 60 (.a V1 (.n 1)))) (.n 60)) V2) this rfl
 have Ot:∀{sL} {dq} {s3},aj T (WF env) aU s2 sL dq s3->aj T W0 ρ s sL dq s3:=λP3=>by
  haveI JB:=P2.trans P3
  exact ⟨P3.rel,P0.ext.drop JB.ext λb hb=> .inr (ap4 b hb),JB.gens.trans P0.gens,JB.os.trans P0.os⟩
 refine hb env pR Xi Xu H wp (λfl f IF sL dq s3 P3 e3 fr w3=> ?_) (λth e sL dq s3 P3 fa x q=> ?_)
 ·cases fl with
  | next=>refine af fr ?_; exact kq .none .none _ _ _ (Ot P3) rfl w3
  | brk=>exact w3.elim
  | cont=>exact w3.elim
  | ret v=>
   exact ag fr λu q1 r'=>af q1 <| kq v u _ _ _ (Ot P3) r' w3
 ·exact bZ H.TR λHp Fl ff ap=>mW P3 x Fl pS (H.frames ff ap P3 fa) λvf h4 P4 f4 x4=>kx th e _ _ _ (Ot P4) (x4.later λb z=>P0.ext.fresh (P2.ext.fresh z)) q
end
noncomputable def inner (elt:Xq) (gens:List ZM) (scope:ai7) (pos:Pos) (d:Nat) (acc:vi) (env:Env) (k:Sem Fin):Sem Fin:=match gens[d]? with
 | some g'=>do
  let x<-ac2 g'.iter env
  am5 g'.iter.pos
  if (g'.is_async !=0)=vk then do
   let x<-foldedIterable g'.iter x
   let l<-am6 [x] (if (g'.is_async !=0)=vk then asyncIter x else al2 x)
   let _<-runOwn (.compStart (.ListComp elt gens scope pos) d l acc env) env
   k
  else do
   let x<-foldedSetIterable g'.iter env x
   let l<-am6 [x] (if (g'.is_async !=0)=vk then asyncIter x else al2 x)
   let _<-runOwn (.compStart (.ListComp elt gens scope pos) d l acc env) env
   k
 | none=>do
  (do
   let l<-ac2 elt env
   let _<-call (.builtin "list.append") [acc,l]
   pure ())
  k
theorem uB {acc:vi} (hg:gens[d]? =js ⟨target,iter,ifs,0⟩):
  compTurn (.ListComp elt gens scope pos) d it acc env=(do
   am5 iter.pos
   match<-ar3 it with
   | none=>pure (.done .next)
   | some v=>
    ah8 target it v
    ah7 target env v
    let mut ok:=vk
    for c in ifs do
     if ok then ok<-aq9 c env (ac2 c env)
    if ok then inner elt gens scope pos (d+1) acc env (again (.compLoop (.ListComp elt gens scope pos) d it acc env))
    else again (.compLoop (.ListComp elt gens scope pos) d it acc env)):=by
 unfold compTurn inner
 simp only [hg,bne_self_eq_false,ZE,if_false]
 rfl
section
theorem cO {acc:vi} (hg:gens[d]? =js ⟨target,iter,ifs,0⟩)
  (h0:Z0 (Hj prog w) A (.compLoop (.ListComp elt gens scope pos) d it acc env) R s)
  (h:IQ (Hj prog w) A (al2 it) (λNr s'=>Z0 (Hj prog w) A (.compLoop (.ListComp elt gens scope pos) d Nr acc env) R s')
   (ag8 (Hj prog w) A env λx s'=>R (.error x) s') s):
  Z0 (Hj prog w) A (.compStart (.ListComp elt gens scope pos) d it acc env) R s:=by
 refine codeAny_of_tree <| wpAny_notedAt ?_
 unfold compStart
 refine af hg ?_
 dsimp only [aD9,bne_self_eq_false,ZE,if_false]
 refine j' (wpAny_askSetting (wpAny_ite ?_))
 split
 ·first
   | exact j' (yd (yd (aw3 rfl h0)))
   | exact yd (aw3 rfl h0)
 ·first
   | exact j' (wpAny_rule (j' (Zq (j' (ZJ h (λNr s' h'=>yd (aw3 rfl h')) λo_ o_ x=>x)))))
   | (refine j' (wpAny_rule ?_); show IQ _ _ (am5 iter.pos >>=_) _ _ s; exact j' (Zq (j' (ZJ h (λNr s' h'=>yd (aw3 rfl h')) λo_ o_ x=>x))))
theorem jK {acc:vi} (hg:gens[d]? =js ⟨target,iter,ifs,0⟩) (hE:ag8 (Hj prog w) A env (λe s'=>R (.error e) s')=Er) (I:Nat->FF->Prop)
  (turn:∀n s,I n s->∀(Q:Option vi->FF->Prop) (J:FF->Prop),(∀m s,m < n->I m s->J s)->(∀s₁,R (.ok .next) s₁->Q vd s₁)->
   (∀v s₁,(∀F:Bool->FF->Prop,(∀s,J s->F Fk s)->(∀s,(∀(k:Sem Fin) (Q:Fin->FF->Prop),(∀zQ,J zQ->IQ (Hj prog w) A k Q Er zQ)->IQ (Hj prog w) A (inner elt gens scope pos (d+1) acc env k) Q Er s)->F vk s)->
    IQ (Hj prog w) A (ah7 target env v) (λo_ jG=>IQ (Hj prog w) A (forIn ifs vk λc r=>if r=vk then do let ok<-aq9 c env (ac2 c env); pure (Zv ok) else pure (Zv r)) F Er jG) Er s₁)->Q (js v) s₁)->
   IQ (Hj prog w) A (ar3 it) Q Er s)
  (n:Nat) (h:I n s) (ht:∀v,ah8 target it v=pure ()):
  Z0 (Hj prog w) A (.compLoop (.ListComp elt gens scope pos) d it acc env) R s:=by
 refine codeAny_loop rfl I (λn s hI=> ?_) n h
 refine (?_:IQ _ A ((compTurn (.ListComp elt gens scope pos) d it acc env).onRaise (λx=>do ai6 x env; theTreesLotGoes x)) _ _ s)
 refine wpAny_noted <| af (uB hg) <| af hE <| wpAny_bind (Zq (j' (turn n s hI _ (λs=>∃m,m < n/\I m s) (λm s a b=>⟨m,a,b⟩) (λs₁ bQ=>yd bQ) (λv s₁ bQ=> ?_))))
 refine j' (ah3 (ht v) ?_)
 refine j' (ZJ (bQ _ (λoB wi=> ?_) λoB wi=> ?_) (λo_ jG nL=>j' nL) λo_ o_ h'=>h')
 ·exact yd ⟨rfl,wi⟩
 ·exact wi _ _ λvn Ia=>yd ⟨rfl,Ia⟩
end
section
variable {D:Nj} {own:List Nat}
def WC (T:Cx) (ah:Env) (D:Nj) (own:List Nat):Nj->Prop:=λb=>b=ah.locals∨b=D∨∃x∈own,ah.cells.lookup (T.nm x)=js b
def zm (T:Cx) (n:Nat) (ρ:aO) (h:Z4) (A:ae4) (L:Nj) (W:Nj->Prop):Prop:=
 ∃bh outer,I3 n ρ h A (bh::outer)/\bh.frame=js L/\∀e∈bh::outer,∀L',e.frame=js L'->¬W L'
structure bn (T:Cx) (n:Nat) (A:ae4) (ah:Env) (L D:Nj) (own:List Nat) (ρ:aO) (σ:St) (s:FF) (acc:List V) (en:En):Prop where
 rel:bc T ρ σ s.heap
 mK:zm T n ρ s.heap A L (WC T ah D own)
 lB:A.depth+5*n+12<=aa5
 lO:A.units+60*n+90<=an6
 fr:ah.frame=js L
 env:dD T ρ s.heap ah en
 dp:D∈ρ.p
 ac:∃xs k,s.heap.get? D=js {cls:=.type "list",data:=.seq xs k}/\ai ρ s.heap acc xs.toList
 len:acc.length<=bf
 dn:¬WF ah D
abbrev C6 (T:Cx) (W:Nj->Prop) (ρ:aO) (s:FF) (L C:Nj) (X:V->St->Prop) (E':vi->FF->Prop):Prop:=
 ∀th e am aa s',aj T W ρ s am aa s'->(∃m,s'.heap.Ns C m)->bC s'.heap L->Oe T s.heap am s'.heap L e th->X th aa->E' e s'
theorem aj.iJ (x:aj T W ρ s aU aT s1) (y:aj T W' aU s1 lN aV s2) (k:∀b,W' b->W b∨s.heap.get? b=vd):aj T W ρ s lN aV s2:=
 ⟨y.rel,x.ext.drop y.ext k,y.gens.trans x.gens,y.os.trans x.os⟩
theorem C6.base (k:C6 T W c9 s0 L C X E') (P:aj T W c9 s0 ρ σ s) (hW:∀b,W' b->W b∨s0.heap.get? b=vd):C6 T W' ρ s L C X E':=
 λth e am aa s' p ns f x q=>k th e am aa s' (P.iJ p hW) ns f (x.later λo_ z=>P.ext.fresh z) q
theorem zm.ext (a:zm T n ρ h A L W) (x:dZ T W ρ h am h') (R:bc T ρ σ h):zm T n am h' A L W:=bp a λbh outer o e w=>bP bh outer ⟨o.hd,o.fr,o.sH.ext x R w,o.lB,o.lO⟩ e w
theorem bn.n8 (H:bn T n A ah L D own ρ σ s acc en):d4 (WC T ah D own) ρ:=λb hb=>by
 refine ag H.env λm E o_=> ?_
 rcases hb with rfl | rfl | ⟨x,o_,hx⟩
 ·exact E.lp
 ·exact H.dp
 ·exact (E.cells _ _ hx).1
theorem bn.here (H:bn T n A ah L D own ρ σ s acc en):dm T n ρ σ s A ah en L:=bp H.mK λbh outer o e w=>⟨H.rel,(dh bh outer o e),H.lB,H.lO,H.fr,H.env⟩
theorem bn.hd (H:bn T n A ah L D own ρ σ s acc en):A.handled=vd:=bp H.mK λbh outer o e w=>o.hd
theorem bn.step (H:bn T n A ah L D own ρ σ s acc en) (P:aj T (WC T ah D own) ρ s am aa s') (e:dD T am s'.heap ah aH) (ha:∃xs k,s'.heap.get? D=js {cls:=.type "list",data:=.seq xs k}/\ai am s'.heap cp xs.toList) (hl:cp.length<=bf):
  bn T n A ah L D own am aa s' cp aH:=
 ⟨P.rel,H.mK.ext P.ext H.rel,H.lB,H.lO,H.fr,e,P.ext.aX H.dp,ha,hl,H.dn⟩
theorem bn.cU (H:bn T n A ah L D own ρ σ s acc en) (P:aj T W0 ρ s am aa s'):bn T n A ah L D own am aa s' acc en:=by
 refine bV H.ac λxs k g r=>ag (P.ext.own H.rel H.dp (λw=>w) g) λsl g' q=> ?_
 simp only [q (of_decide_eq_true rfl)] at g'
 exact H.step P.up (H.env.ext P.ext H.rel) (dh xs k g' (P.vals H.rel r)) H.len
theorem dD.weaken (e:dD T ρ h env en) (k:∀x v,aH x=js v->en x=js v):dD T ρ h env aH:=ag e λm E r=>az m E (λx v hv=>r x v (k x v hv))
theorem bn.ns (H:bn T n A ah L D own ρ σ s acc en):∃m,s.heap.Ns ah.locals m:=ag H.env λm E o_=>⟨m,E.ns⟩
theorem bn.kx (H:bn T n A ah L D own ρ σ s acc en) (k:C6 T W ρ s L ah.locals X E'):KX T W0 ρ s L X E':=λth e am aa s' P f x q=>ag (H.env.ext P.ext H.rel) λm E o_=>k th e am aa s' P.up ⟨m,E.ns⟩ f x q
set_option tactic.hygienic true in
theorem aj.JV {o:Obj} (P:aj T W ρ s am aa s') (hC:s.heap.get? C=js o) (QT:s'.heap.get? C=js o'):
  aj T (λb=>W b/\b ≠ C) ρ {s with heap:=s.heap.update C (λ_=>o')} am aa s':=by
 haveI hf:=(ae9.mp QT).2
 have self:=YM (λ_=>o') hC hf
 have other:∀b,b ≠ C->(s.heap.update C (λ_=>o')).get? b=s.heap.get? b:=λb hb=>ZN _ _ (ag5 hb)
 refine bp P.ext.pre λr sx e1 hr hs=> ?_
 have nn:∀b,s.heap.get? b=vd->(s.heap.update C (λ_=>o')).get? b=vd:=λb hb=>by
  rw [other b (λz=>by obtain rfl:=z.symm; rw [hC] at hb; exact J9 hb)]; exact hb
 refine ⟨P.rel,⟨(bP r sx e1 (λp hp=>⟨nn _ (hr p hp).1,nn _ (hr p hp).2⟩) (λb hb=>nn _ (hs b hb))),λb ob e f t w=> ?_,λb ob e=> ?_⟩,P.gens,P.os⟩
 ·by_cases z:b=C
  ·clear nn hs hr e1 sx r hf hC o
   subst z
   rw [show ({s with heap:=s.heap.update b (λ_=>o')}:FF).heap=s.heap.update b (λ_=>o') from rfl,self] at e
   exact bD (vo e) <| az _ QT (λ_=>rfl)
  ·rw [show ({s with heap:=s.heap.update C (λ_=>o')}:FF).heap=s.heap.update C (λ_=>o') from rfl,other b z] at e
   exact P.ext.keep b ob e f t λy=>w ⟨y,z⟩
 ·by_cases z:b=C
  ·refine bD z.symm ?_; exact ⟨_,QT⟩
  ·rw [show ({s with heap:=s.heap.update C (λ_=>o')}:FF).heap=s.heap.update C (λ_=>o') from rfl,other b z] at e
   exact P.ext.all b ob e
theorem aj.JM {o o'} (P:aj T (λb=>W b/\b ≠ C) ρ {s with heap:=s.heap.update C (λo_=>o')} am aa s') (hC:s.heap.get? C=js o) (hf:o'.isFreed=Fk) (hw:W C):aj T W ρ s am aa s':=by
 haveI self:=YM (λo_=>o') hC hf
 have other:∀b,b ≠ C->(s.heap.update C (λo_=>o')).get? b=s.heap.get? b:=λb hb=>ZN _ _ (ag5 hb)
 have nn:∀b,(s.heap.update C (λo_=>o')).get? b=vd->s.heap.get? b=vd:=λb hb=>by
  by_cases z:b=C
  ·obtain rfl:=z.symm; exact fy hb self
  ·replace hb:=(other b z).symm.trans hb; exact hb
 refine bp P.ext.pre λr sx e1 hr hs=>⟨P.rel,⟨(bP r sx e1 (λp hp=>⟨nn _ (hr p hp).1,nn _ (hr p hp).2⟩) (λb hb=>nn _ (hs b hb))),λb ob e f t w=> ?_,λb ob e=> ?_⟩,P.gens,P.os⟩
 ·haveI z:b ≠ C:=λz=>w (z▸hw)
  exact P.ext.keep b ob ((other b z).trans e) f t λy=>w y.1
 ·by_cases z:b=C
  ·clear hs hr e1 sx r nn hw
   subst z; exact P.ext.all b o' self
  ·exact P.ext.all b ob ((other b z).trans e)
theorem qT (H:bn T n A ah L D own ρ σ s acc en) (P:aj T (WC T ah D own) ρ s am aa s') (ns:∃m,s'.heap.Ns ah.locals m):
  ∃l o o',CO T A l L {s with heap:=s.heap.update ah.locals (λo_=>o')}/\au am s'.heap l/\s.heap.get? ah.locals=js o/\s'.heap.get? ah.locals=js o'/\(∃k:Nat,∃bh outer,l=bh::outer/\bh.frame=js L):=by
 refine ax λG_ ae=> ?_
 obtain ⟨m,o',es,ep,g',o_⟩:=id ns
 obtain ⟨m0,o,YV,YZ,g0,o_⟩:=H.ns
 refine bp (H.mK.ext P.ext H.rel) λbh outer a e w=>bp H.mK λTU OP a0 e0 w0=>ae ?_
 have hl:=vo (a.fr.symm.trans a0.fr)
 refine ax λG_ ae=> ?_
 clear w0 e0 w ns P H
 cases hl
 refine ae <| ⟨bh::outer,o,o',⟨a.fr,⟨bh,outer,rfl,e⟩,λb hb=> ?_⟩,a.sH,g0,g',0,bh,outer,rfl,e⟩
 refine ax λG_ ae=> ?_
 obtain ⟨o_,ob,o_,o_,g,o_⟩:=a0.sH.mem hb
 refine ae ?_
 by_cases z:b=ah.locals
 ·exact af z <| ⟨_,YM _ g0 (ae9.mp g').2⟩
 ·exact ⟨ob,(ZN _ _ (ag5 z)).trans g⟩
theorem au.at {l:List Env} (f:au ρ h l) (e:l=bh::outer) (hf:bh.frame=js L):bC h L:=by
 subst e
 obtain ⟨o_,L',hL,o_,fa⟩:=f bh (.head _)
 refine bD (se hL hf) ?_; exact fa
theorem kM {o:Obj} (hC:h.get? C=js o) (hf:o'.isFreed=Fk):(h.update C (λo_=>o')).get? b=vd↔h.get? b=vd:=by
 by_cases z:b=C
 ·refine af z ?_; rw [YM _ hC hf,hC]; simp
 ·rw [ZN _ _ (ag5 z)]
theorem xg (H:bn T n A ah L D own ρ σ s acc en)
  (k:∀th e am aa s',aj T (WC T ah D own) ρ s am aa s'->(∃m,s'.heap.Ns ah.locals m)->bC s'.heap L->kI T s.heap am s'.heap False (·=aa1 L) e th->X th aa->Rr e s'):
  C6 T (WC T ah D own) ρ s L ah.locals X (ag8 (Hj T.prog T.w) A ah Rr):=by
 intro th e am aa s' P ns fa x q
 refine ax λG_ ae=> ?_
 obtain ⟨l,o,o',F,ff,g0,g',o_,bh,outer,hl,he⟩:=qT H P ns
 have hf:=(ae9.mp g').2
 haveI P1:=P.JV g0 g'
 refine ae <| lw P1 (x.later λb z=>(kM g0 hf).mpr z) F H.fr ff λaU h1 P2 f2 x2=> ?_
 obtain ⟨m,OY⟩:=ns
 refine ag H.env λm0 E o_=> ?_
 haveI self:(s.heap.update ah.locals (λo_=>o')).get? ah.locals=js o':=YM _ g0 hf
 exact ag (P2.ext.keep ah.locals o' self (H.rel.aX _ E.lp).1 (H.rel.aX _ E.lp).2.2.1 (λw=>w.2 rfl)) λsl g2 o_=>k th e aU aa _ (P2.JM g0 hf (.inl rfl)) ⟨m,k6 OY g' g2⟩ (f2.at hl he) (x2.later λb z=>(kM g0 hf).mp z) q
theorem IN {E'} (H:bn T n A ah L D own ρ σ s acc en)
  (k:∀th e am aa s',aj T (WC T ah D own) ρ s am aa s'->(∃m,s'.heap.Ns ah.locals m)->bC s'.heap L->kI T s.heap am s'.heap False (·=aa1 L) e th->X th aa->E' e s'):
  ∀th e am aa s',aj T (WC T ah D own) ρ s am aa s'->(∃m,s'.heap.Ns ah.locals m)->bC s'.heap L->kI T s.heap am s'.heap False (·=aa1 L) e th->X th aa->ae7 (Hj T.prog T.w) A ah E' e s':=by
 intro th e am aa s' P ns fa x q
 refine ax λG_ ae=> ?_
 obtain ⟨l,o,o',F,ff,g0,g',o_,bh,outer,hl,he⟩:=qT H P ns
 have hf:=(ae9.mp g').2
 haveI P1:=P.JV g0 g'
 refine ae <| um P1 (x.later λb z=>(kM g0 hf).mpr z) F H.fr ff λh1 P2 f2 x2=> ?_
 obtain ⟨m,OY⟩:=ns
 refine ag H.env λm0 E o_=> ?_
 haveI self:(s.heap.update ah.locals (λo_=>o')).get? ah.locals=js o':=YM _ g0 hf
 exact ag (P2.ext.keep ah.locals o' self (H.rel.aX _ E.lp).1 (H.rel.aX _ E.lp).2.2.1 (λw=>w.2 rfl)) λsl g2 o_=>k th e am aa _ (P2.JM g0 hf (.inl rfl)) ⟨m,k6 OY g' g2⟩ (f2.at hl he) (x2.later λb z=>(kM g0 hf).mp z) q
noncomputable def gP (T:Cx) (c:Cc) (n:Nat) (env:Env):List Xq->gR->Prop
 | [],.nil=>True
 | e::es,.cons m ms=>iR T c n env e m/\gP T c n env es ms
 | _,_=>False
theorem yQ {Q':Bool->FF->Prop} (h:Q' Fk s):
  IQ (Hj T.prog T.w) A (forIn ifs Fk λc r=>if r=vk then do let ok<-aq9 c env (ac2 c env); pure (Zv ok) else pure (Zv r)) Q' E' s:=by
 induction ifs with
 | nil=>exact yd h
 | cons e es ih=>
  rw [ZZ]
  exact j' (yd ih)
theorem Bk:∀{ifs} {mi} (ρ σ s Q X Q' E'),gP T c n env ifs mi->dm T n ρ σ s A env en L->iG c mi Q X en σ->
  (∀b am aa s',aj T W0 ρ s am aa s'->Q b aa->Q' b s')->KX T W0 ρ s L X E'->
  IQ (Hj T.prog T.w) A (forIn ifs vk λc r=>if r=vk then do let ok<-aq9 c env (ac2 c env); pure (Zv ok) else pure (Zv r)) Q' E' s
 | [],.nil=>λρ σ s Q X Q' E' o_ H wp k kx=>yd (k vk ρ σ s (.refl H.rel) wp)
 | e::es,.cons m ms=>λρ σ s Q X Q' E' h H wp k kx=>by
  rw [ZZ]
  refine j' (j' (h.1 H wp (λb aU aT s1 P1 w1=>yd ?_) kx))
  cases b with
  | true=>exact Bk _ _ _ _ _ _ _ h.2 (H.step P1) w1 (λb am aa s' P q=>k b _ _ _ (P1.trans P) q) (kx.step P1)
  | false=>exact yQ (k Fk _ _ _ P1 w1)
 | [],.cons _ _=>λo_ o_ o_ o_ o_ o_ o_ h o_ o_ o_ o_=>h.elim
 | _::_,.nil=>λo_ o_ o_ o_ o_ o_ o_ h o_ o_ o_ o_=>h.elim
end
noncomputable def lU:fu->List Nat
 | .nil=> []
 | .each x _ _ rest=>x::lU rest
 | .rB x _ _ _ _ rest=>x::lU rest
def ux (c:Cc) (bo:Ex) (X:V->St->Prop):List V->(List V->St->Prop)->En->St->Prop:=gE (ba c bo) X
def nY (T:Cx) (c:Cc) (n:Nat) (ah:Env) (D:Nj) (own:List Nat) (elt:Xq) (gens:List ZM) (scope:ai7) (pos:Pos) (bo:Ex) (d:Nat) (mg:fu):Prop:=
 ∀⦃ρ σ s A en L acc⦄ ⦃K:List V->St->Prop⦄ ⦃X:V->St->Prop⦄ ⦃kf:Sem Fin⦄ ⦃Q':Fin->FF->Prop⦄ ⦃E':vi->FF->Prop⦄,
  bn T n A ah L D own ρ σ s acc en->(∀y∈lU mg,en y=vd)->zn c mg (ux c bo X) acc K X en σ->
  (∀am aa s' cp,aj T (WC T ah D own) ρ s am aa s'->bn T n A ah L D own am aa s' cp en->K cp aa->IQ (Hj T.prog T.w) A kf Q' E' s')->C6 T (WC T ah D own) ρ s L ah.locals X E'->
  IQ (Hj T.prog T.w) A (inner elt gens scope pos d (.ref D) ah kf) Q' E' s
section
variable {D:Nj} {own:List Nat}
theorem nK {E:vi->FF->Prop} {l:Nj} {PJ:Array vi} {x:vi} {Q:vi->FF->Prop}
  (hl:s.heap.get? l=js {cls:=.type "list",data:=.seq PJ k}) (hQ:Q .none {s with heap:=s.heap.update l (an0 (·.push x))}) (c8:PJ.size<=al9):
  IQ (Hj prog w) A (call (.builtin "list.append") [.ref l,x]) Q E s:=by
 haveI hL:s.heap.IsList l PJ:=⟨_,hl,rfl,k,rfl⟩
 refine am3 slot_list_append hL.typeIs entry_list_append ?_ (args_list_append _ _)
 refine (?_:IQ _ _ (updateSeq l (·.push x)>>=λo_=>ret .none) _ _ s)
 exact j' <| wpAny_updateSeq hl rfl (yd (az .none rfl hQ)) c8 (Array.size_push _▸av2 c8)
theorem dD.Mh (e:dD T ρ h env en) (x:dZ T W ρ h am h') (R:bc T ρ σ h) (wl:d4 W ρ) (nw:∀b,WF env b->¬W b) (nf:∀L,env.frame=js L->¬W L):dD T am h' env en:=ag e λm E r=>az m (E.ext x R (nw _ (.inl rfl)) nf (λy c hc=>nw c (.inr ⟨y,hc⟩))) (r.ext x R wl E λy c hc=>nw c (.inr ⟨y,hc⟩))
theorem bn.WX (H:bn T n A ah L D own ρ σ s acc en):¬WC T ah D own L:=bp H.mK λbh outer o e w=>w bh (.head _) L e
theorem Am (h:aw T c n ah elt bo) (hd:gens[d]? =vd):nY T c n ah D own elt gens scope pos bo d .nil:=by
 intro ρ σ s A en L acc K X kf Q' E' H u8 wp k kx
 change ba c bo (Bd acc K) X en σ at wp
 unfold inner
 refine af hd <| wpAny_bind (j' (h H.here wp (λv u aU aT s1 P1 r1 w1=> ?_) (H.kx kx)))
 have H1:=H.cU P1
 refine bV H1.ac λxs kk g r=> ?_
 haveI c8:xs.size=acc.length:=r.length
 refine j' (nK g (yd ?_) (by simp only [c8,Zs]; have:=w1.1; unfold bf at this; exact Y1 [_] [] (.l V0 (.n 16777216)) (.t V0 (.n 100000)) this rfl))
 haveI u2:=(show IsL s1.heap D xs kk from g).update (·.push u)
 haveI wk:d4 (λb=>b=D) aU:=λb hb=>hb▸H1.dp
 haveI P2:=aj.turn H1.rel wk rfl (ZQ s1.heap D (an0 (·.push u))) ⟨_,u2⟩ s1.toks
 haveI eP:aj T (WC T ah D own) ρ s aU aT {s1 with heap:=s1.heap.update D (an0 (·.push u))}:=(P1.up).trans (P2.mono λb hb=> .inr (.inl hb))
 haveI e2:=H1.env.Mh P2.ext H1.rel wk (λb hb z=>H1.dn (z▸hb)) (λL' hL z=>by
  have:L'=L:=by have:=H1.fr; rw [hL] at this; exact vo this
  obtain rfl:=this.symm
  exact H1.WX (.inr (.inl z)))
 refine k aU aT _ (acc++ [v]) eP (H.step eP e2 (dh _ _ u2 ?_) (by refine af ar5 ?_; exact w1.1)) w1.2
 simp only [at1]
 exact ai.append (ai.ext P2.ext H1.rel.aF wk _ r) <| bP u ([]) rfl (r1.ext P2.ext H1.rel.aF wk) rfl
theorem vX {K:List V->St->Prop} {B:V->List V->(List V->St->Prop)->St->Prop}
  (hB:∀{v acc K σ},B v acc K σ->iG c mi (λb σ=>if b then zn c rest (ux c bo X) acc K X (en.set x v) σ else K acc σ) X (en.set x v) σ)
  (It:CM T I0 sv l Sr J) (hg:gens[d]? =js ⟨.Name y px,iter,ifs,0⟩) (hy:T.nm x=y) (hx:x∈own) (hk:ah.kindOf y=js .local∨ah.kindOf y=js .cell) (hi:gP T c n ah ifs mi) (hr:nY T c n ah D own elt gens scope pos bo (d+1) rest) (iS:x∉lU rest)
  (hW:∀b,WC T ah D own b->W b∨s0.heap.get? b=vd) (P:aj T W c9 s0 ρ σ s) (R0:bc T c9 sK s0.heap) (H:bn T n A ah L D own ρ σ s acc en) (u8:en x=vd) (Iu:∀y∈lU rest,en y=vd)
  (hI:I0∈ρ.p) (yW:s0.heap.get? I0=vd) (NY:¬WC T ah D own I0) (IB:¬WF ah I0) (QR:I0 ≠ L) (hS:Sr ρ s.heap) (hJ:J 0 s.heap)
  (CF:∀{am:aO} {aa:St} {s':FF},aj T W c9 s0 am aa s'->zm T n am s'.heap A L (WC T ah D own))
  (wp:d7 sv l B l acc K σ)
  (k:∀am aa s' cp,aj T W c9 s0 am aa s'->bn T n A ah L D own am aa s' cp en->K cp aa->R (.ok .next) s')
  (kx:∀aU aT s1 wI zv,aj T W c9 s0 aU aT s1->bn T n A ah L D own aU aT s1 wI zv->C6 T (WC T ah D own) aU s1 L ah.locals X (ag8 (Hj T.prog T.w) A ah λe s'=>R (.error e) s')):
  Z0 (Hj T.prog T.w) A (.compLoop (.ListComp elt gens scope pos) d (.ref I0) (.ref D) ah) R s:=by
 subst hy
 generalize hE:(ag8 (Hj T.prog T.w) A ah λe s'=>R (.error e) s')=Er at kx
 refine jK hg hE (λk s'=>∀G,(∀am aa cp i,k+i=l.length+1->aj T W c9 s0 am aa s'->bn T n A ah L D own am aa s' cp en->I0∈am.p->Sr am s'.heap->J i s'.heap->
   d7 sv l B (l.drop i) cp K aa->G)->G) ?_ (l.length+1)
  (λo_ z=>z ρ σ acc 0 (Y0 [_] [] (.e (.a (.a V0 (.n 1)) (.n 0)) (.a V0 (.n 1))) rfl) P H hI hS hJ wp) (λv=>rfl)
 refine λkk s1 hh Q JJ WJ hN hT=>hh _ λaU aT wI i Qv P1 H1 xH IA LQ w1=> ?_
 have TN:∀L',ah.frame=js L'->¬(L'=I0):=λL' hL z=>by
  have:L'=L:=by have:=H1.fr; rw [hL] at this; exact vo this
  exact QR (by rw [<-z,this])
 have dI:D ≠ I0:=λz=>NY (.inr (.inl z.symm))
 have weak:∀v,∀y w,en y=js w->(en.set x v) y=js w:=λv y w hy=>by
  rw [j6]
  refine af (if_neg (λz=>fy u8 (z▸hy))) ?_; exact hy
 cases hv:l[i]? with
 | none=>
  haveI hlen:l.length<=i:=by simpa using hv
  rw [ZY hlen] at w1
  refine It.stop H1.hd P1.rel xH IA LQ w1.1 hv λh' tk hb=> ?_
  obtain ⟨P2,S⟩:=P1.drop R0 (λb hb=>ar2.mp hb▸⟨xH,yW⟩) (λb o yT q=>hb b o (by simpa using yT) q)
  have mem:∀b,b∈aU.p->b ≠ I0->b∈(aU.drop [I0]).p:=λb hb hn=>aO.ch.mpr ⟨hb,by simpa using hn⟩
  refine ag (id H1.env) λm1 E1 o_=> ?_
  have e2:=H1.env.eR S (λb o yT q=>hb b o (λz=>(aO.ch.mp yT).2 (by simp [z])) q) (mem _ E1.lp λz=>IB (.inl z.symm)) (λL hL=>mem _ (by refine bZ E1.fr λL' q hp o_=> ?_; exact se q hL▸hp) (TN L hL)) (λy c hc=>mem _ (E1.cells y c hc).1 λz=>IB (.inr ⟨y,z▸hc⟩))
  refine bV H1.ac λxs k2 g r=>hN _ (k _ _ _ wI (P2.tok tk) ⟨P2.rel,CF (P2.tok tk),H1.lB,H1.lO,H1.fr,e2,mem _ H1.dp dI,(dh xs k2 (hb _ _ dI g) (S.vals r)),H1.len,H1.dn⟩ w1.2)
 | some v=>
  haveI iT:=(Lf.mp hv).1
  have hd:l.drop i=v::l.drop (i+1):=af (Z1 iT) <| af ((Lf.mp hv).2) rfl
  rw [hd] at w1
  refine dP w1 λh0 w2=>It.item P1.rel xH IA LQ h0 hv λh' tk u LR sb rv=>bp (It.cls LR) λoI nI gI cI Kb=> ?_
  have wk:d4 (λb=>b=I0) aU:=λb hb=>hb▸xH
  have P2:=aj.turn P1.rel wk rfl sb ⟨_,gI⟩ tk
  have eP:aj T W c9 s0 aU aT {s1 with heap:=h',toks:=tk}:=P1.iJ P2 λb hb=> .inr (hb▸yW)
  have H2:bn T n A ah L D own aU aT {s1 with heap:=h',toks:=tk} wI en:=bV H1.ac λxs k2 g r=>⟨P2.rel,CF eP,H1.lB,H1.lO,H1.fr,H1.env.Mh P2.ext P1.rel wk (λb hb z=>IB (z▸hb)) TN,H1.dp,(dh xs k2 ((sb.2 _ dI).trans g) (ai.ext P2.ext P1.rel.aF wk _ r)),H1.len,H1.dn⟩
  refine ag (id H2.env) λm2 E2 r2=> ?_
  have RX:d4 (λb=>b=ah.locals∨∃x∈own,ah.cells.lookup (T.nm x)=js b) aU:=λb hb=>H2.n8 b (hb.imp id .inr)
  refine hT _ _ λFF fF fT=>af2 (sT P2.rel E2 r2 RX hk ⟨λo_=> .inl rfl,λo_ c hc=> .inr (az x hx hc)⟩ (rv.ext P2.ext P1.rel.aF wk) λh3 FC P3 e3=> ?_)
  haveI RB:aj T (WC T ah D own) aU {s1 with heap:=h',toks:=tk} aU aT {s1 with heap:=h3,toks:=FC}:=P3.mono λb hb=>hb.imp id .inr
  have H3:bn T n A ah L D own aU aT {s1 with heap:=h3,toks:=FC} wI (en.set x v):=by
   refine bV H2.ac λxs k2 g r=>ax λG_ ae=> ?_
   obtain ⟨sl,g',q⟩:=P3.ext.own P2.rel H2.dp (λw=>H2.dn (by
    rcases w with w | ⟨z,o_,hz⟩
    ·exact .inl w
    ·exact .inr ⟨_,hz⟩)) g
   refine ae ?_
   simp only [q (of_decide_eq_true rfl)] at g'
   exact H2.step RB e3 (dh xs k2 g' (ai.ext P3.ext P2.rel.aF RX _ r)) H2.len
  have CK:=eP.iJ RB hW
  have Yj:=kx _ _ _ _ _ CK H3
  refine Bk _ _ _ _ _ _ _ hi H3.here (hB w2) (λb vf jO s4 P4 w4=> ?_) (H3.kx Yj)
  have H4:=H3.cU P4
  have JA:aj T (WC T ah D own) aU {s1 with heap:=h',toks:=tk} vf jO s4:=RB.trans P4.up
  have fin:∀{G2} {kJ} {s5} {CG},aj T (WC T ah D own) aU {s1 with heap:=h',toks:=tk} G2 kJ s5->bn T n A ah L D own G2 kJ s5 CG (en.set x v)->
    d7 sv l B (l.drop (i+1)) CG K kJ->
    JJ s5:=λ{G2 kJ s5 CG} P5 H5 w5=>by
   refine WJ (kk - 1) _ (Y1 [_,_] [] (.t V0 V1) (.e (.a V0 (.n 1)) V1) (R6 (Y2 [_,_,_] [] (.l (.n 1) V0) (.r (.e (.a V0 V1) (.a V2 (.n 1)))) (.t V1 V2) Qv iT rfl)) rfl) λo_ z=>z G2 kJ CG (i+1) (Y2 [_,_,_,_] [] (.e (.a V0 (.a V1 (.n 1))) (.a V2 (.n 1))) (.e (.a V3 V1) (.a V2 (.n 1))) (.e (.a V0 (.n 1)) V3) Qv (R6 (Y2 [_,_,_] [] (.l (.n 1) V0) (.r (.e (.a V0 V1) (.a V2 (.n 1)))) (.t V1 V2) Qv iT rfl)) rfl) (eP.iJ P5 hW) {H5 with env:=H5.env.weaken (weak v)} (P5.ext.aX xH) ?_ ?_ w5
   ·exact It.src (It.src IA P2.ext P1.rel.aF wk) P5.ext P2.rel.aF H2.n8
   ·exact It.keep LR λo q=>P5.ext.own P2.rel xH NY q
  cases b with
  | false=>exact fF _ (fin JA H4 w4)
  | true=>
   refine fT _ λkf Q ax1=>hr H4 (λy hy=> ?_) w4 (λG2 kJ s5 CG P5 H5 w5=>ax1 s5 (fin (JA.trans P5) H5 w5)) (kx _ _ _ _ _ (eP.iJ JA hW) H4)
   rw [j6]
   exact af (if_neg (λz:_=x=>iS (z▸hy))) <| Iu y hy
end
section
variable {D:Nj} {own:List Nat}
theorem tm {E:vi->FF->Prop} {Q:vi->FF->Prop} {k:Bool} {it a:Nj} {i:Nat} (h:nv k s.heap it a i) (hQ:Q (.ref it) s):IQ (Hj prog w) A (al2 (.ref it)) Q E s:=by
 cases k with
 | true=>exact wpAny_pyIter_listiter h hQ
 | false=>
  refine ag h λo e r=>wpAny_pyIter_slot ⟨o,e,r.1⟩ aj6 (am3 aj6 ⟨o,e,r.1⟩ F.entry_tuple_iterator_iter ?_ (F.args_tuple_iterator_iter_1 _))
  exact yd ⟨_,rfl, "tuple_iterator",_,⟨o,e,r.1⟩,F.slot_tuple_iterator_next.lookup,hQ⟩
theorem FK (kx:C6 T (WC T ah D own) ρ s L ah.locals X E') (P1:aj T (WC T ah D own) ρ s aU aT s1) (H1:bn T n A ah L D own aU aT s1 wI zv):
  C6 T (WC T ah D own) aU s1 L ah.locals X (ag8 (Hj T.prog T.w) A ah λe s'=>ae7 (Hj T.prog T.w) A ah E' e s'):=
 xg H1 (IN H1 λth e am aa s' P ns fa x q=>kx.base P1 (λb hb=> .inl hb) th e am aa s' P ns fa (x.mono (λz=>z.elim) λo_ o_=>trivial) q)
set_option tactic.hygienic true in
theorem bn.al (H:bn T n A ah L D own ρ σ s acc en):(∃o,s.heap.get? D=js o)/\(∃o,s.heap.get? L=js o)/\∀b,WF ah b->∃o,s.heap.get? b=js o:=by
 refine ag H.env λm E _=>cW (bV H.ac λ_ _ g _=>⟨_,g⟩) ?_ (λb hb=> ?_)
 ·refine ax λG_ ae=> ?_
  obtain ⟨L',hL,_,o,_,_,g,_⟩:=E.fr
  have:=H.fr
  obtain rfl:=se this hL
  exact ae <| ⟨o,g⟩
 ·rcases hb with rfl | ⟨y,hy⟩
  ·refine mE E.ns λo _ _ g _=> ?_; exact ⟨o,g⟩
  ·obtain ⟨_,_,_,o,g,_⟩:=E.cells y b hy; exact ⟨o,g⟩
theorem eJ {a:Nj} (e:h.get? a=vd) (f:∃o,h.get? b=js o):a ≠ b:=λz=>by
 obtain ⟨o,q⟩:=f; subst z; exact fy e q
theorem bn.xI (H:bn T n A ah L D own ρ σ s acc en) (e:s.heap.get? I0=vd):¬WC T ah D own I0/\¬WF ah I0/\I0 ≠ L:=by
 refine iz H.al λa1 a2 a3=> ?_
 have nf:=λhb=>eJ e (a3 _ hb) rfl
 refine cW (λhb=> ?_) nf (eJ e a2)
 rcases hb with z | z | ⟨x,o_,hx⟩
 ·exact nf (.inl z)
 ·exact eJ e a1 z
 ·exact nf (.inr ⟨_,hx⟩)
theorem An {src:Ex} (hg:gens[d]? =js ⟨.Name y px,iter,ifs,0⟩) (hy:T.nm x=y) (hx:x∈own) (hk:ah.kindOf y=js .local∨ah.kindOf y=js .cell)
  (hs:ip iter=vk) (h:aw T c n ah iter src) (hi:gP T c n ah ifs mi) (hr:nY T c n ah D own elt gens scope pos bo (d+1) rest) (iS:x∉lU rest):
  nY T c n ah D own elt gens scope pos bo d (.each x src mi rest):=by
 intro ρ σ s A en L acc K X kf Q' E' H u8 wp k kx
 unfold inner
 refine af hg <| wpAny_bind (h H.here wp (λv u aU aT s1 P1 r1 w1=>j' (Zq (j' (ah3 (mq hs u) ?_)))) (H.kx kx))
 refine bI w1 λl e1 w2=>uy (P1.rel.seq' e1 r1) λa xs q1 sq rr z c8=> ?_
 subst q1
 obtain ⟨o0,g0⟩:=sq.alive
 refine j' (N6 (kS sq λh' g hit=> ?_))
 haveI nI:=aK s1.heap
 refine ax λG_ ae=> ?_
 obtain ⟨o1,g1⟩:∃o,h'.get? s1.heap.objs.size=js o:=by
  cases hk:vV v with
  | true=>rw [hk] at hit; refine ag hit λo g o_=> ?_; exact ⟨o,g⟩
  | false=>rw [hk] at hit; refine ag hit λo g o_=> ?_; exact ⟨o,g⟩
 obtain ⟨R2,X2⟩:=P1.rel.own g (l:=[s1.heap.objs.size]) (λb hb=>by simp at hb; subst hb; exact nI) (λb hb=>by simp at hb; subst hb; exact ⟨o1,g1⟩)
 haveI P2:aj T W0 aU s1 (aU.own [s1.heap.objs.size]) aT {s1 with heap:=h'}:=⟨R2,X2,rfl,rfl⟩
 haveI eP:=P1.trans P2
 refine iz ((H.cU P1).xI nI) λf1 f2 f3=>ae <| wpAny_bind (au1 ?_)
 haveI loop:=vX (hB:=λh=>h) (R:=λr s'=>match r with | .ok f=>IQ (Hj T.prog T.w) A kf Q' E' s' | .error e=>ae7 (Hj T.prog T.w) A ah E' e s')
  (o7 (λe=>ag9 _ (by have:=ZU g0; rw [e] at this; exact this))) hg hy hx hk hi hr iS (λb hb=> .inl hb) eP.up H.rel (H.cU eP) (u8 x (.head _)) (λy hy=>u8 y (.tail _ hy))
  (by simp [aO.own]) (P1.ext.fresh nI) f1 f2 f3 (P2.val P1.rel r1) hit (λP=>H.mK.ext P.ext H.rel) w2 (λam aa s' cp P' H' q=>k am aa s' cp P' H' q) (λsL dq s3 Ry IF P3 H3=>FK kx P3 H3)
 exact cO hg loop (tm hit loop)
theorem kR {K:List V->St->Prop} {Q':aq4->FF->Prop} {a:Nj} {t u v:Tok}
  (hg:gens[d]? =js ⟨.Name y px,iter,ifs,0⟩) (hy:T.nm x=y) (hx:x∈own) (hk:ah.kindOf y=js .local∨ah.kindOf y=js .cell) (hi:gP T c n ah ifs mi) (hr:nY T c n ah D own elt gens scope pos bo (d+1) rest) (iS:x∉lU rest)
  (H:bn T n A ah L D own ρ σ s acc en) (u8:en x=vd) (Iu:∀y∈lU rest,en y=vd) (P1:aj T W0 ρ s aU aT s1) (bd:-1000000 < i/\i < 1000000/\-1000000 < j/\j < 1000000) (Qf:IsRange s1.heap a i j 1 t u v)
  (w:d7 (.lst (aM i j)) (aM i j) (λv acc K σ=>iG c mi (λb σ=>if b then zn c rest (ux c bo X) acc K X (en.set x v) σ else K acc σ) X (en.set x v) σ) (aM i j) acc K aT)
  (k:∀f am aa s' cp,aj T (WC T ah D own) ρ s am aa s'->bn T n A ah L D own am aa s' cp en->K cp aa->Q' f s') (kx:C6 T (WC T ah D own) ρ s L ah.locals X E'):
  IQ (Hj T.prog T.w) A (al2 (.ref a)) (λit s2=>Z0 (Hj T.prog T.w) A (.compStart (.ListComp elt gens scope pos) d it (.ref D) ah) (λr s'=>match r with | .ok f=>Q' f s' | .error e=>ae7 (Hj T.prog T.w) A ah E' e s') s2) E' s1:=by
 refine i' P1.rel bd Qf λh' P2 hit=> ?_
 haveI eP:=P1.trans P2
 haveI H2:=H.cU eP
 haveI nI:=aK s1.heap
 haveI U0:=P1.ext.fresh nI
 refine iz ((H.cU P1).xI nI) λf1 f2 f3=> ?_
 haveI loop:=vX (hB:=λh=>h) (R:=λr s'=>match r with | .ok f=>Q' f s' | .error e=>ae7 (Hj T.prog T.w) A ah E' e s')
  ky hg hy hx hk hi hr iS (λb hb=> .inl hb) eP.up H.rel H2 u8 Iu
  (by simp [aO.own]) U0 f1 f2 f3 trivial ⟨Z5 _,hit⟩ (λP=>H.mK.ext P.ext H.rel) w (λam aa s' cp P' H' q=>k _ am aa s' cp P' H' q) (λsL dq s3 Ry IF P3 H3=>FK kx P3 H3)
 exact cO hg loop (an2 hit loop)
theorem zX (hg:gens[d]? =js ⟨.Name y px,.Call (.Name z pz) es [] pos',ifs,0⟩) (g:ce T ah z (.type "range") es) (h:bN T c n ah es (.cons lo (.cons hi .nil))) (hy:T.nm x=y) (hx:x∈own)
  (hk:ah.kindOf y=js .local∨ah.kindOf y=js .cell) (jf:gP T c n ah ifs mi) (hr:nY T c n ah D own elt gens scope pos bo (d+1) rest) (iS:x∉lU rest):
  nY T c n ah D own elt gens scope pos bo d (.rB x lo hi vk mi rest):=by
 intro ρ σ s A en L acc K X kf Q' E' H u8 wp k kx
 unfold inner
 refine af hg ?_
 simp only [bne_self_eq_false,ZE,if_false]
 refine j' (nameQ λQ1 BB=>eC g h H.here (oA.mpr wp) (λvs us aU aT s1 P1 r1 w1=> ?_) (H.kx kx))
 refine ax λG_ ae=>bV (oz w1) λv1 v2 q3 w2=> ?_
 subst q3
 refine bp (lR r1) λu1 u2 q4 q1 q2=> ?_
 subst q4
 refine jR w2 λi q5 w3=> ?_
 subst q5
 refine bZ (dM.mp w3) λj q6 bd w4=> ?_
 subst q6
 obtain ⟨t1,rfl⟩:=q1
 obtain ⟨t2,rfl⟩:=q2
 refine ae <| call_range_2 <| BB _ _ <| wpAny_bind (Zq (j' (ah3 (by rfl) (j' (N6 ?_)))))
 refine ZJ (kR hg hy hx hk jf hr iS H (u8 x (.head _)) (λy hy=>u8 y (.tail _ hy)) (P1.grow (Grows.push s1.heap {cls:=.type "range",data:=.fields #[.int i t1,.int j t2,.int 1 s1.toks]}) (s1.toks+1)) bd (ah2 ..) w4 (λf am aa s' cp P' H' q=>k am aa s' cp P' H' q) kx) (λit s2 q=> ?_) λo_ o_ e=>e
 exact j' (au1 q)
theorem zY (hg:gens[d]? =js ⟨.Name y px,.Call (.Name z pz) es [] pos',ifs,0⟩) (g:ce T ah z (.type "range") es) (h:bN T c n ah es (.cons hi .nil)) (hy:T.nm x=y) (hx:x∈own)
  (hk:ah.kindOf y=js .local∨ah.kindOf y=js .cell) (jf:gP T c n ah ifs mi) (hr:nY T c n ah D own elt gens scope pos bo (d+1) rest) (iS:x∉lU rest):
  nY T c n ah D own elt gens scope pos bo d (.rB x (.int 0) hi Fk mi rest):=by
 intro ρ σ s A en L acc K X kf Q' E' H u8 wp k kx
 change ba c hi (Eh x (.int 0) (iG c mi) (zn c rest (gE (ba c bo) X)) acc K X en) X en σ at wp
 unfold inner
 refine af hg ?_
 simp only [bne_self_eq_false,ZE,if_false]
 refine j' (nameQ λQ1 BB=>eC g h H.here (gH.mpr wp) (λvs us aU aT s1 P1 r1 w1=> ?_) (H.kx kx))
 refine pW w1 r1 λv1 u1 w2 q1=>jR w2 λi e0 w3=> ?_
 cases e0
 refine bZ (dM.mp w3) λj q4 bd w4=> ?_
 subst q4
 refine jI q1 λt1=>at9 <| BB _ _ <| wpAny_bind (Zq (j' (ah3 (by rfl) (j' (N6 ?_)))))
 refine ZJ (kR hg hy hx hk jf hr iS H (u8 x (.head _)) (λy hy=>u8 y (.tail _ hy)) (P1.grow (Grows.push s1.heap {cls:=.type "range",data:=.fields #[.int 0 s1.toks,.int j t1,.int 1 (s1.toks+1)]}) (s1.toks+1+1)) bd (ah2 ..) w4 (λf am aa s' cp P' H' q=>k am aa s' cp P' H' q) kx) (λit s2 q=> ?_) λo_ o_ e=>e
 exact j' (au1 q)
end
noncomputable def gM (cells:List (Zu×Nj)):List (Zu×Z2)->List (Zu×Nj)->List (Zu×Nj)
 | []=>λacc=>acc
 | (y,k)::r=>λacc=>if k==.free then gM cells r ((y,(cells.lookup y).getD 0)::acc) else gM cells r acc
theorem clOf_c {cells:List (Zu×Nj)} {k:Z2} {r:List (Zu×Z2)} {acc:List (Zu×Nj)}:gM cells ((y,k)::r) acc=if k==.free then gM cells r ((y,(cells.lookup y).getD 0)::acc) else gM cells r acc:=rfl
theorem dr (h:∀y,(y,YL)∈scope.names->∃c,env.cells.lookup y=js c):closureFor scope env=pure (gM env.cells scope.names []):=by
 unfold closureFor
 have:∀(l:List (Zu×Z2)) (acc:List (Zu×Nj)),(∀y,(y,YL)∈l->∃c,env.cells.lookup y=js c)->
   (forIn l acc λx (r:List (Zu×Nj))=>(if (x.2==YL)=vk then (do let a<-cellOf env x.1; pure (Zv ((x.1,a)::r))) else pure (Zv r):Sem _))=pure (gM env.cells l acc):=by
  intro l
  induction l with
  | nil=>intro acc _; rfl
  | cons p r ih=>
   intro acc h
   obtain ⟨y,k⟩:=p
   simp only [ZZ]
   rw [clOf_c]
   by_cases hk:(k==YL)=vk
   ·have:k=.free:=by simpa using hk
    subst this
    obtain ⟨c,hc⟩:=h y (.head _)
    refine af hc ?_
    dsimp only [hk,if_true,Option.getD_some]
    haveI e:cellOf env y=pure c:=by unfold cellOf; exact af hc rfl
    exact af e <| ih _ λz hz=>h z (.tail _ hz)
   ·simp only [hk,if_false,ZE]
    exact ih _ λz hz=>h z (.tail _ hz)
 haveI e:=this scope.names [] h
 simp only [bind_pure_comp,bind_pure] at e ⊢
 exact e
theorem lE (cells:List (Zu×Nj)):∀(l:List (Zu×Z2)) (acc:List (Zu×Nj)) y c,(y,c)∈gM cells l acc->(y,c)∈acc∨(y,YL)∈l/\c=(cells.lookup y).getD 0
 | []=>λacc y c h=> .inl h
 | (z,k)::r=>λacc y c h=>by
  rw [clOf_c] at h
  split at h
  ·rename_i hk
   have:k=.free:=by simpa using hk
   refine af this ?_
   rcases lE cells r _ y c h with h | ⟨h,e⟩
   ·rcases Zr.mp h with e | h
    ·cases e; exact .inr ⟨.head _,rfl⟩
    ·exact .inl h
   ·exact .inr ⟨.tail _ h,e⟩
  ·rcases lE cells r _ y c h with h | ⟨h,e⟩
   ·exact .inl h
   ·exact .inr ⟨.tail _ h,e⟩
theorem mH (cells:List (Zu×Nj)):∀(l:List (Zu×Z2)) (acc:List (Zu×Nj)) p,p∈acc->p∈gM cells l acc
 | []=>λacc p h=>h
 | (z,k)::r=>λacc p h=>by
  rw [clOf_c]
  split
  ·exact mH cells r _ p (.tail _ h)
  ·exact mH cells r _ p h
theorem jl (cells:List (Zu×Nj)):∀(l:List (Zu×Z2)) (acc:List (Zu×Nj)) y,(y,YL)∈l->∃c,(y,c)∈gM cells l acc
 | []=>λo_ o_ h=>nomatch h
 | (z,k)::r=>λacc y h=>by
  rw [clOf_c]
  refine as4 (Zr.mp h) (λe=> ?_) λh=> ?_
  ·cases e
   exact ⟨_,mH cells r _ _ (.head _)⟩
  ·split
   ·exact jl cells r _ y h
   ·exact jl cells r _ y h
structure pP (T:Cx) (env:Env) (scope:ai7) (own:List Nat):Prop where
 kind:scope.kind=.function
 names:∀x∈scope.names,scope.names.lookup x.1=js x.2
 free:∀y,(y,YL)∈scope.names->env.kindOf y=js .cell∨env.kindOf y=js .free
 cover:∀x,x∉own->scope.names.lookup (T.nm x) ≠ js .local/\scope.names.lookup (T.nm x) ≠ js .cell
 DZ:∀x∈own,(T.nm x,YL)∉scope.names
theorem i9:∀{names:List (Zu×Z2)} {y} {k},(names.map λ(n,k)=>if (k==YL && env.scope.kind==.function && env.kindOf n==js .cell) then (n,ZA) else (n,k)).lookup y=js k->
  names.lookup y=js k∨(k=.cell/\names.lookup y=js .free)
 | [],_,_,h=>by simp at h
 | (z,k0)::r,y,k,h=>by
  haveI e:(((z,k0)::r).map λ(n,k)=>if (k==YL && env.scope.kind==.function && env.kindOf n==js .cell) then (n,ZA) else (n,k))=
   (if (k0==YL && env.scope.kind==.function && env.kindOf z==js .cell) then (z,ZA) else (z,k0))::(r.map λ(n,k)=>if (k==YL && env.scope.kind==.function && env.kindOf n==js .cell) then (n,ZA) else (n,k)):=rfl
  rw [e] at h
  cases hx:y==z with
  | true=>
   by_cases hc:(k0==YL && env.scope.kind==.function && env.kindOf z==js .cell)=vk
   ·rw [if_pos hc,Zh,hx] at h
    refine af (vo h) ?_
    simp only [ZV] at hc
    have:k0=.free:=by simpa using hc.1.1
    exact bD this <| .inr ⟨rfl,by rw [Zh,hx]⟩
   ·rw [if_neg hc,Zh,hx] at h
    exact bD (vo h) <| .inl (by simp only [Zh,hx])
  | false=>
   haveI h2:(r.map λ(n,k)=>if (k==YL && env.scope.kind==.function && env.kindOf n==js .cell) then (n,ZA) else (n,k)).lookup y=js k:=by
    by_cases hc:(k0==YL && env.scope.kind==.function && env.kindOf z==js .cell)=vk
    ·rw [if_pos hc,Zh,hx] at h; exact h
    ·rw [if_neg hc,Zh,hx] at h; exact h
   rcases i9 h2 with q | ⟨q,q'⟩
   ·exact .inl (by simp only [Zh,hx]; exact q)
   ·exact .inr ⟨q,by simp only [Zh,hx]; exact q'⟩
section
variable {D:Nj} {own:List Nat}
theorem kI.JT {raw} {fl} {e'} {th} {C} (x:kI T h₀ ρ h raw fl e' th) (S:jL ρ.o [] ρ.p (ρ.drop [C]).p h h') (hC:∃o,h₀.get? C=js o) (hs:∀b o,b ≠ C->h.get? b=js o->h'.get? b=js o):
  kI T h₀ (ρ.drop [C]) h' raw fl e' th:=by
 refine ax λG_ ae=> ?_
 obtain ⟨e,d,oe,vs,es,nn,u,X⟩:=x
 refine ae ?_
 have ne:∀b,h₀.get? b=vd->b ≠ C:=λb hb=>eJ hb hC
 have mem:∀b,b∈ρ.p->b ≠ C->b∈(ρ.drop [C]).p:=λb hb hn=>aO.ch.mpr ⟨hb,by simpa using hn⟩
 refine ⟨e,d,oe,vs,es,nn,u,{X with at_:=hs _ _ (ne _ X.e0) X.at_,dat:=hs _ _ (ne _ X.d0) X.dat,rel:=S.val X.rel,ef:=mem _ X.ef (ne _ X.e0),df:=mem _ X.df (ne _ X.d0),tb:=?_}⟩
 rcases X.tb with q | ⟨t,ot,ts,h1,n1,t0,tp,gt,r⟩
 ·exact .inl q
 ·exact .inr (Ek t ot ts h1 n1 t0 (mem _ tp (ne _ t0)) (hs _ _ (ne _ t0) gt) r)
def ID (m:Option Nat) (Q:V->St->Prop):List V->St->Prop:=λvs σ=>match m with
 | Option.none=>Q (.lst vs) σ
 | some t=>Q (.ref σ.length) (σ++ [.list t vs])
theorem dm.sH (H:dm T n ρ σ s A env en L):∃l,CO T A l L s/\au ρ s.heap l/\∃bh outer,l=bh::outer/\bh.frame=js L:=by
 refine bV H.mK λbh outer a e=>⟨bh::outer,⟨a.fr,⟨bh,outer,rfl,e⟩,λb hb=> ?_⟩,a.sH,bh,outer,rfl,e⟩
 obtain ⟨o_,ob,o_,o_,g,o_⟩:=a.sH.mem hb
 exact ⟨ob,g⟩
theorem finish {m:Option Nat} (H0:dm T n c9 sK s0 A env GB L) (P:aj T W0 c9 s0 ρ σ s) (H:bn T n A ah L D own ρ σ s acc en) (ED:s0.heap.get? ah.locals=vd) (WM:s0.heap.get? D=vd) (QS:D ≠ ZI) (q:ID m Q acc σ) {R:Prop}
  (k:∀v am aa,aj T W0 c9 s0 am aa s->aq am s.heap v (.ref D)->Q v aa->ah.locals∈am.p->R):R:=by
 refine ag (id H.env) λm1 E o_=>bV H.ac λxs k2 g r=> ?_
 have TC:ah.locals ≠ D:=λz=>H.dn (.inl z.symm)
 have hD:∀b∈[D],b∈ρ.p/\s0.heap.get? b=vd:=λb hb=>by simp at hb; refine bD hb.symm ?_; exact ⟨H.dp,WM⟩
 cases m with
 | none=>
  obtain ⟨P2,S⟩:=P.drop H0.rel hD (λb o o_ e=>e)
  refine k (.lst acc) _ _ P2 (qa D xs k2 rfl g ⟨(H.rel.aX D H.dp).1,λz=>(aO.ch.mp z).2 (.head _)⟩ H.len (S.vals r)) q (aO.ch.mpr ⟨E.lp,by simpa using TC⟩)
 | some t=>
  obtain ⟨P2,hv,hr⟩:=P.adopt H0.rel hD (λb o o_ e=>e) (.head _) QS (o:=.list t acc) (λhv=>⟨rfl,xs,k2,g,ai.mk (Y1 [_,_] [] (.e V0 V1) (.r (.e V1 V0)) r.length rfl) (λi v u h1 h2=>by
   refine ag (r.get i v h1) λu' e q'=>bD (se e h2) ?_; exact hv _ _ q'),H.len⟩)
  exact k _ _ _ P2 hr q (aO.ch.mpr ⟨E.lp,by simpa using TC⟩)
theorem uA {m:Option Nat} {use:Option (vi->Sem Unit)}
  (S:pP T env scope own) (It:CM T I0 sv l Sr J) (self:∀{s:FF} {E:vi->FF->Prop} {Q:vi->FF->Prop},J 0 s.heap->Q (.ref I0) s->IQ (Hj T.prog T.w) A (al2 (.ref I0)) Q E s)
  (hg:gens=⟨.Name y px,iter,ifs,0⟩::gs) (hy:T.nm x=y) (hx:x∈own)
  (body:∀ah D,ah.scope=Z9 scope env->(ah.kindOf y=js .local∨ah.kindOf y=js .cell)/\gP T c n ah ifs mi/\nY T c n ah D own elt gens scope pos bo 1 rest) (iS:x∉lU rest) (rY:∀y∈lU rest,y∈own)
  (H0:dm T n c9 sK s0 A env en L) (P:aj T W0 c9 s0 ρ σ s) (hI:I0∈ρ.p) (yW:s0.heap.get? I0=vd) (hS:Sr ρ s.heap) (hJ:J 0 s.heap)
  (wp:d7 sv l (λv acc K σ=>iG c mi (λb σ=>if b then zn c rest (ux c bo X) acc K X ((en.clear own).set x v) σ else K acc σ) X ((en.clear own).set x v) σ) l [] (ID m Q) σ)
  (ku:∀v u am aa s' C,aj T W0 c9 s0 am aa s'->aq am s'.heap v u->Q v aa->s0.heap.get? C=vd->C∈am.p->(∃m,s'.heap.Ns C m)->aA2 (Hj T.prog T.w) A E' use Q' u C (.ok .next) s')
  (kx:KX T W0 c9 s0 L X E'):
  IQ (Hj T.prog T.w) A (newList []) (λacc oB=>IQ (Hj T.prog T.w) A (ac8 scope env.globals (gM env.cells scope.names []) [] env.qual vd .none (js env)) (λah vn=>
    Z0 (Hj T.prog T.w) A (.compStart (.ListComp elt gens scope pos) 0 (.ref I0) acc {ah with scope:=Z9 scope env}) (aA2 (Hj T.prog T.w) A E' use Q' acc ah.locals) vn) E' oB) E' s:=by
 have Te:gens[0]? =js ⟨.Name y px,iter,ifs,0⟩:=by refine af hg ?_; rfl
 refine ag (id (H0.step P).env) λm0 E er=>ak7 ?_
 generalize SX:s.heap.push {cls:=.type "list",dict:=vd,data:=.seq ([]:List vi).toArray}=h2
 revert h2; refine qJ ?_; set_option tactic.hygienic false in intros
 have nD:=aK s.heap
 have g2:=SX▸Grows.push _ _
 have gD:h2.get? s.heap.objs.size=js {cls:=.type "list",data:=.seq #[] 0}:=SX▸Q1 _ rfl
 obtain ⟨R2,X2⟩:=P.rel.own g2 (l:=[s.heap.objs.size]) (λb hb=>by simp at hb; subst hb; exact nD) (λb hb=>by simp at hb; subst hb; exact ⟨_,gD⟩)
 have LW:=P.rel.zh.1
 generalize hD:s.heap.objs.size=D at*
 revert D; refine qJ ?_; set_option tactic.hygienic false in intros
 have P2:aj T W0 ρ s (ρ.own [D]) σ {s with heap:=h2}:=⟨R2,X2,rfl,rfl⟩
 have Oh:=P.trans P2
 have H2:=H0.step Oh
 refine ag (id H2.env) λm2 E2 YW=>vU ?_
 haveI L0:=laid h2 (ob:={cls:=.type "dict",data:=.dict #[]}) rfl scope.names
 generalize hp:ap9 (h2.push {cls:=.type "dict",data:=.dict #[]}) scope.names=h3 at L0
 revert h3; refine qJ ?_; set_option tactic.hygienic false in intros
 haveI P3:aj T W0 (ρ.own [D]) {s with heap:=h2} ((ρ.own [D]).own (bb h2.objs.size scope.names)) σ {s with heap:=h3}:=L0.own P2.rel
 haveI Ug:=Oh.trans P3
 generalize LA:(newEnv scope h2.objs.size env.globals (Zx (h2.objs.size+1) scope.names (gM env.cells scope.names [])) env.qual vd .none (js env) ZO)=zA
 revert zA; refine qJ ?_; set_option tactic.hygienic false in intros
 haveI sj:({zA with scope:=Z9 scope env}:Env).scope=Z9 scope env:=rfl
 haveI N7:({zA with scope:=Z9 scope env}:Env).locals=h2.objs.size:=by refine (LA▸?_); rfl
 haveI vc:({zA with scope:=Z9 scope env}:Env).cells=Zx (h2.objs.size+1) scope.names []++gM env.cells scope.names []:=LA▸(fE _ _ _)
 haveI pS:({zA with scope:=Z9 scope env}:Env).frame=js L:=LA▸H0.fr
 haveI eg:({zA with scope:=Z9 scope env}:Env).globals=Zy:=LA▸E.globals
 haveI eb:({zA with scope:=Z9 scope env}:Env).builtins=ZO:=LA▸E.builtins
 haveI Xt:zA.locals=({zA with scope:=Z9 scope env}:Env).locals:=rfl
 simp only [show ({zA with scope:=Z9 scope env}:Env)={zA with scope:=Z9 scope env} from rfl]
 generalize To:({zA with scope:=Z9 scope env}:Env)=ah at*
 revert ah; refine qJ ?_; set_option tactic.hygienic false in intros
 refine af Xt <| ax λG_ ae=>iz (body ah D sj) λbk bi br=> ?_
 haveI free:=λy hy=>E.has y (S.free y hy)
 have zB:∀y c,(gM env.cells scope.names []).lookup y=js c->(y,YL)∈scope.names/\env.cells.lookup y=js c:=λy c hc=>by
  rcases lE _ _ _ y c (mem_of_lookup hc) with z | ⟨z,e⟩
  ·cases z
  ·obtain ⟨c',jC⟩:=free y z
   rw [jC] at e
   exact ⟨z,by refine af e ?_; exact jC⟩
 refine bZ E2.fr λLf TA Tz Xe=> ?_
 obtain rfl:=se H0.fr TA
 have A8:∀y k,ah.kindOf y=js k->scope.names.lookup y=js k∨(k=.cell/\scope.names.lookup y=js .free):=λy k hk=>by
  unfold ab2 at hk
  rw [sj] at hk
  exact i9 hk
 have E3:d8 ((ρ.own [D]).own (bb h2.objs.size scope.names)) h3 ah (λo_=>vd):=
  L0.BV (R:=P2.rel) rfl (sj▸S.kind) eg eb N7 vc (λy c hc=>by
    obtain ⟨o_,jC⟩:=zB y c hc
    obtain ⟨hp,o_,v,hv⟩:=E2.cells y c jC
    exact ⟨hp,v,hv⟩) (λy z c h1 h2=>E2.apart y z c (zB y c h1).2 (zB z c h2).2)
   (dH L pS (ZS _ Tz) (Xe.ext P3.ext P2.rel Tz (λw=>w))) (λy hy=>by
    rcases hy with hy | hy
    ·rcases A8 y _ hy with z | ⟨o_,z⟩
     ·exact .inl (mem_of_lookup z)
     ·obtain ⟨c,hc⟩:=jl env.cells scope.names [] y (mem_of_lookup z)
      exact dJ (dg hc) λc' jC=> .inr ⟨c',jC⟩
    ·rcases A8 y _ hy with z | ⟨z,o_⟩
     ·refine ax λG_ ae=> ?_
      obtain ⟨c,hc⟩:=jl env.cells scope.names [] y (mem_of_lookup z)
      obtain ⟨c',jC⟩:=dg hc
      exact ae <| .inr ⟨c',jC⟩
     ·cases z)
 refine ag ((H2.step P3).env) λm3 Zp Q8=> ?_
 have look:∀y c,ah.cells.lookup y=js c->(y,c)∈Zx (h2.objs.size+1) scope.names []∨((Zx (h2.objs.size+1) scope.names []).lookup y=vd/\(gM env.cells scope.names []).lookup y=js c):=λy c e=>by
  rw [vc,ae8] at e
  cases z:(Zx (h2.objs.size+1) scope.names []).lookup y with
  | some c'=>replace e:=z▸e; refine bD (vo e) ?_; exact .inl (mem_of_lookup z)
  | none=>rw [z] at e; exact .inr ⟨rfl,e⟩
 have Rc:dD T ((ρ.own [D]).own (bb h2.objs.size scope.names)) h3 ah (en.clear own):=by
  refine az _ E3 (λz v hz=> ?_)
  unfold En.clear at hz
  split at hz
  ·exact aI hz
  ·rename_i Vu
   refine dP (S.cover z Vu) λXI XH=> ?_
   obtain ⟨o_,r2⟩:=Q8 z v hz
   refine ⟨λhk=> ?_,λhk=> ?_⟩
   ·rcases A8 _ _ hk with q | ⟨q,o_⟩
    ·exact absurd q XI
    ·cases q
   ·have Go:scope.names.lookup (T.nm z)=js .free:=by
     rcases hk with hk | hk
     ·rcases A8 _ _ hk with q | ⟨o_,q⟩
      ·exact absurd q XH
      ·exact q
     ·rcases A8 _ _ hk with q | ⟨q,o_⟩
      ·exact q
      ·cases q
    refine ax λG_ ae=>bp (r2 (S.free _ (mem_of_lookup Go))) λc0 u QG BA rv=>dJ (E3.has _ hk) λc1 Jm=> ?_
    have:c1=c0:=by
     rcases look _ _ Jm with q | ⟨o_,q⟩
     ·exfalso
      have:∀(names:List (Zu×Z2)) k (acc:List (Zu×Nj)) y c,(y,c)∈Zx k names acc->(y,c)∈acc∨(y,ZA)∈names:=by
       intro names
       induction names with
       | nil=>intro k acc y c h; exact .inl h
       | cons p r ih=>
        intro k acc y c h
        obtain ⟨w,kd⟩:=p
        dsimp only [Zx] at h
        split at h
        ·rename_i V7
         have:kd=.cell:=by simpa using V7
         refine af this ?_
         rcases ih _ _ y c h with h | h
         ·rcases Zr.mp h with e | h
          ·cases e; exact .inr (.head _)
          ·exact .inl h
         ·exact .inr (.tail _ h)
        ·rcases ih _ _ y c h with h | h
         ·exact .inl h
         ·exact .inr (.tail _ h)
      rcases this _ _ _ _ _ q with q | q
      ·cases q
      ·have:=S.names _ q
       replace this:=Go.symm.trans this; cases this
     ·have:=(zB _ _ q).2
      rw [QG] at this; exact (vo this).symm
    subst this
    exact ae <| bP c1 u Jm BA rv
 have fw:∀b,WC T ah D own b->s0.heap.get? b=vd:=λb hb=>by
  rcases hb with rfl | rfl | ⟨z,hz,hc⟩
  ·exact N7▸(Oh.ext.fresh (aK h2))
  ·exact P.ext.fresh nD
  ·rcases look _ _ hc with q | ⟨o_,q⟩
   ·exact Oh.ext.fresh (ZD (Z8 (L0.cell _ _ q).2))
   ·exact absurd (zB _ _ q).1 (S.DZ z hz)
 have CF:∀{am} {aa} {s'},aj T W0 c9 s0 am aa s'->zm T n am s'.heap A L (WC T ah D own):=λ{am aa s'} P'=>by
  refine bV H0.mK λbh outer a e=>bP bh outer (a.ext P'.ext H0.rel) e (λe he L' BC w=> ?_)
  obtain ⟨o_,L2,BD,o_,ob,o_,o_,g,o_⟩:=a.sH e he
  obtain rfl:=(se BC BD).symm
  exact fy (fw _ w) g
 haveI LX:=ZU gD
 haveI H3:bn T n A ah L D own ((ρ.own [D]).own (bb h2.objs.size scope.names)) σ {s with heap:=h3} [] (en.clear own):=by
  refine ⟨P3.rel,CF Ug,H0.lB,H0.lO,pS,Rc,P3.ext.aX (ZC _ (.head _)),(dh (#[]) 0 (L0.grows _ _ gD) rfl),Z5 _,?_⟩
  rintro (z | ⟨y,hy⟩)
  ·rw [N7] at z; exact ai2 LX z
  ·rcases look _ _ hy with q | ⟨o_,q⟩
   ·exact absurd LX (ZP.mpr (Z8 (L0.cell _ _ q).2))
   ·obtain ⟨o_,o_,v,o,g,o_⟩:=E.cells y D (zB _ _ q).2
    exact fy nD g
 obtain ⟨oI,gI⟩:∃o,s.heap.get? I0=js o:=by obtain ⟨o_,o_,o_,o,g⟩:=P.rel.aX I0 hI; exact ⟨o,g⟩
 have IB:¬WF ah I0:=by
  rintro (z | ⟨y,hy⟩)
  ·rw [N7] at z
   have:=ZU (g2 _ _ gI)
   rw [z] at this; exact ag9 _ this
  ·rcases look _ _ hy with q | ⟨o_,q⟩
   ·exact absurd (ZU (g2 _ _ gI)) (ZP.mpr (Z8 (L0.cell _ _ q).2))
   ·refine ag H0.env λmb Eb o_=> ?_
    obtain ⟨o_,o_,v,o,g,o_⟩:=Eb.cells y I0 (zB _ _ q).2
    exact fy yW g
 haveI NY:¬WC T ah D own I0:=by
  rintro (z | z | ⟨y,_,hy⟩)
  ·exact IB (.inl z)
  ·rw [z,nD] at gI; exact aI gI
  ·exact IB (.inr ⟨_,hy⟩)
 haveI QR:I0 ≠ L:=by
  refine ag H0.env λmb Eb o_=> ?_
  obtain ⟨L',BC,o_,o,o_,o_,g,o_⟩:=Eb.fr
  exact af (se TA BC) <| eJ yW ⟨o,g⟩
 haveI PP:aj T W0 ρ s ((ρ.own [D]).own (bb h2.objs.size scope.names)) σ {s with heap:=h3}:=P2.trans P3
 haveI TB:=It.keep hJ λo q=>(az o.slots (L0.grows _ _ (g2 _ _ q)) (λo_=>rfl))
 haveI Ua:∀y∈own,(en.clear own) y=vd:=λy hy=>by unfold En.clear; exact af (if_pos hy) rfl
 haveI loop:=vX (hB:=λh=>h) It Te hy hx bk bi br iS (λb hb=> .inr (fw b hb)) Ug H0.rel H3 (Ua x hx) (λy hy=>Ua y (rY y hy))
  (P3.ext.aX (ZS _ hI)) yW NY IB QR (It.src hS PP.ext P.rel.aF (d4.zero _)) TB CF wp
  (λam aa s' cp P' H' q=>finish H0 P' H' (fw _ (.inl rfl)) (fw _ (.inr (.inl rfl))) LW q λv JG cz Yh rv qv hc=>ku v (.ref D) JG cz s' ah.locals Yh rv qv (fw _ (.inl rfl)) hc H'.ns)
  (λaU aT s1 wI zv P1 H1=>xg H1 λth e am aa s' Pe ns fa x q=>by
   have key:∃m,s'.heap.Ns ah.locals m/\∀h',aa0 ah.locals s'.heap h'->∀Cr,Cr.locals=ah.locals->IQ (Hj T.prog T.w) A (aD0 "comprehension.variables-let-go" e Cr:Sem vi) (λo_ o_=>False) E' {s' with heap:=h'}:=by
    refine dJ ns λmm ns=>az mm ns (λh' hs Cr o_=> ?_)
    refine ag (id H1.env) λm1 E1 o_=> ?_
    obtain ⟨P5,S5⟩:=(P1.iJ Pe λb hb=> .inr (fw b hb)).drop H0.rel (D:=[ah.locals]) (λb hb=>by simp at hb; subst hb; exact ⟨Pe.ext.aX E1.lp,fw _ (.inl rfl)⟩) (λb o hb e=>(hs.2 b (by simpa using hb)).trans e)
    refine ax λG_ ae=> ?_
    obtain ⟨l,F,f0,bh,outer,hl,he⟩:=H0.sH
    exact ae <| wA P5 ((x.JT S5 (let ⟨_,o,_,_,g,_⟩:=H1.ns;⟨o,g⟩) (λb o hb e=>(hs.2 b hb).trans e)).later (λb z=>P1.ext.fresh z)) F (f0.ext P5.ext H0.rel λo_ o_ o_ o_ w=>w) λh2 P6 f6 x6=>kx th e _ _ _ P6 (f6.at hl he) (x6.mono (λz=>z.elim) λo_ o_=>trivial) q
   cases use with
   | none=>exact key
   | some u=>exact key)
 exact ae <| cO Te loop (self TB loop)
end
section
variable {D:Nj} {own:List Nat}
def uU (T:Cx) (c:Cc) (n:Nat) (env:Env) (own:List Nat) (elt:Xq) (gens:List ZM) (scope:ai7) (pos:Pos) (bo:Ex) (y:Zu) (ifs:List Xq) (mi:gR) (rest:fu):Prop:=
 ∀ah D,ah.scope=Z9 scope env->(ah.kindOf y=js .local∨ah.kindOf y=js .cell)/\gP T c n ah ifs mi/\nY T c n ah D own elt gens scope pos bo 1 rest
abbrev KU (T:Cx) (A:ae4) (c9:aO) (s0:FF) (Q:V->St->Prop) (use:Option (vi->Sem Unit)) (Q' E':vi->FF->Prop):Prop:=
 ∀v u am aa s' C,aj T W0 c9 s0 am aa s'->aq am s'.heap v u->Q v aa->s0.heap.get? C=vd->C∈am.p->(∃m,s'.heap.Ns C m)->aA2 (Hj T.prog T.w) A E' use Q' u C (.ok .next) s'
def wJ (T:Cx) (c:Cc) (n:Nat) (env:Env) (elt:Xq) (gens:List ZM) (scope:ai7) (pos:Pos) (me:Ex):Prop:=
 ∀⦃ρ σ s A en L⦄ ⦃Q X:V->St->Prop⦄ ⦃use:Option (vi->Sem Unit)⦄ ⦃Q' E':vi->FF->Prop⦄ ⦃pp:Pos⦄,dm T n ρ σ s A env en L->ba c me Q X en σ->KU T A ρ s Q use Q' E'->KX T W0 ρ s L X E'->
  IQ (Hj T.prog T.w) A (comprehension (.ListComp elt gens scope pos) scope env pp (newList []) (ar6 gens) (aw5 gens env) use) Q' E' s
theorem dm.less (H:dm T n ρ σ s A env en L) own:dm T n ρ σ s A env (en.clear own) L:=
 ⟨H.rel,H.mK,H.lB,H.lO,H.fr,H.env.weaken λx v h=>by
  unfold En.clear at h
  split at h
  ·exact aI h
  ·exact h⟩
theorem vE {m:Option Nat} {src:Ex} (S:pP T env scope own) (hg:gens=⟨.Name y px,iter,ifs,0⟩::gs) (hy:T.nm x=y) (hx:x∈own)
  (hs:ip iter=vk) (h:aw T c n env iter src) (body:uU T c n env own elt gens scope pos bo y ifs mi rest) (iS:x∉lU rest) (rY:∀y∈lU rest,y∈own):wJ T c n env elt gens scope pos (.comp m own (.each x src mi rest) bo):=by
 intro ρ σ s A en L Q X use Q' E' pp H wp ku kx
 change ba c src (Nq x (iG c mi) (zn c rest (gE (ba c bo) X)) [] (mQ m Q) X (en.clear own)) X (en.clear own) σ at wp
 refine ag (id H.env) λm0 E o_=> ?_
 haveI e1:ar6 gens=Fk:=by refine af hg ?_; rfl
 haveI e2:aw5 gens env=ac2 iter env:=by refine af hg ?_; rfl
 simp only [e1,e2]
 refine ae2 hg (mq hs) (dr λy hy=>E.has y (S.free y hy)) S.kind (λx hx e=>by simp only [S.names x hx,e]) <| nameQ λQ1 BB=>h (H.less own) wp (λv u aU aT s1 P1 r1 w1=> ?_) kx
 refine bI w1 λl e1 w2=>uy (P1.rel.seq' e1 r1) λa xs q1 sq rr z c8=> ?_
 subst q1
 obtain ⟨o0,g0⟩:=sq.alive
 refine BB _ _ <| nameQ λFk iv=>kS sq λh' g hit=> ?_
 haveI nI:=aK s1.heap
 obtain ⟨o1,g1⟩:∃o,h'.get? s1.heap.objs.size=js o:=by
  cases hk:vV v with
  | true=>rw [hk] at hit; refine ag hit λo g o_=> ?_; exact ⟨o,g⟩
  | false=>rw [hk] at hit; refine ag hit λo g o_=> ?_; exact ⟨o,g⟩
 obtain ⟨R2,X2⟩:=P1.rel.own g (l:=[s1.heap.objs.size]) (λb hb=>by simp at hb; subst hb; exact nI) (λb hb=>by simp at hb; subst hb; exact ⟨o1,g1⟩)
 haveI P2:aj T W0 aU s1 (aU.own [s1.heap.objs.size]) aT {s1 with heap:=h'}:=⟨R2,X2,rfl,rfl⟩
 exact iv _ _ <| uA S (o7 (λe=>ag9 _ (by have:=ZU g0; rw [e] at this; exact this)))
  (λhj q=>tm hj q) hg hy hx body iS rY H (P1.trans P2) (by simp [aO.own]) (P1.ext.fresh nI) (P2.val P1.rel r1) hit w2 ku kx
theorem i4 {m:Option Nat} {use:Option (vi->Sem Unit)} {a:Nj} {t u v:Tok}
  (S:pP T env scope own) (hg:gens=⟨.Name y px,iter,ifs,0⟩::gs) (hy:T.nm x=y) (hx:x∈own) (body:uU T c n env own elt gens scope pos bo y ifs mi rest) (iS:x∉lU rest) (rY:∀y∈lU rest,y∈own)
  (H:dm T n ρ σ s A env en L) (P1:aj T W0 ρ s aU aT s1) (bd:-1000000 < i/\i < 1000000/\-1000000 < j/\j < 1000000) (Qf:IsRange s1.heap a i j 1 t u v)
  (w:d7 (.lst (aM i j)) (aM i j) (λv acc K σ=>iG c mi (λb σ=>if b then zn c rest (ux c bo X) acc K X ((en.clear own).set x v) σ else K acc σ) X ((en.clear own).set x v) σ) (aM i j) [] (ID m Q) aT) (ku:KU T A ρ s Q use Q' E') (kx:KX T W0 ρ s L X E'):
  IQ (Hj T.prog T.w) A (al2 (.ref a)) (λit jG=>IQ (Hj T.prog T.w) A (newList []) (λacc oB=>IQ (Hj T.prog T.w) A (ac8 scope env.globals (gM env.cells scope.names []) [] env.qual vd .none (js env)) (λah vn=>
    Z0 (Hj T.prog T.w) A (.compStart (.ListComp elt gens scope pos) 0 it acc {ah with scope:=Z9 scope env}) (aA2 (Hj T.prog T.w) A E' use Q' acc ah.locals) vn) E' oB) E' jG) E' s1:=i' P1.rel bd Qf λh' P2 hit=>uA S ky (λhj q=>an2 hj.2 q)
  hg hy hx body iS rY H (P1.trans P2) (by simp [aO.own]) (P1.ext.fresh (aK _)) trivial ⟨Z5 _,hit⟩ w ku kx
theorem vC {m:Option Nat} (S:pP T env scope own) (hg:gens=⟨.Name y px,.Call (.Name z pz) es [] pos',ifs,0⟩::gs) (hy:T.nm x=y) (hx:x∈own)
  (g:ce T env z (.type "range") es) (h:bN T c n env es (.cons lo (.cons hi .nil))) (body:uU T c n env own elt gens scope pos bo y ifs mi rest) (iS:x∉lU rest) (rY:∀y∈lU rest,y∈own):wJ T c n env elt gens scope pos (.comp m own (.rB x lo hi vk mi rest) bo):=by
 intro ρ σ s A en L Q X use Q' E' pp H wp ku kx
 change ba c lo (Sm x (ba c hi) (iG c mi) (zn c rest (gE (ba c bo) X)) [] (mQ m Q) X (en.clear own)) X (en.clear own) σ at wp
 refine ag (id H.env) λm0 E o_=> ?_
 haveI e1:ar6 gens=Fk:=by refine af hg ?_; rfl
 haveI e2:aw5 gens env=ac2 (.Call (.Name z pz) es [] pos') env:=by refine af hg ?_; rfl
 simp only [e1,e2]
 refine ae2 hg (λo_=>rfl) (dr λy hy=>E.has y (S.free y hy)) S.kind (λx hx e=>by rw [S.names x hx,e]) <| nameQ λQ1 BB=>eC g h (H.less own) (oA.mpr wp) (λvs us aU aT s1 P1 r1 w1=> ?_) kx
 refine ax λG_ ae=>bV (oz w1) λv1 v2 q3 w2=> ?_
 clear w1 e2 e1
 subst q3
 refine bp (lR r1) λu1 u2 q4 q1 q2=> ?_
 subst q4
 refine jR w2 λi q5 w3=> ?_
 subst q5
 refine bZ (dM.mp w3) λj q6 bd w4=> ?_
 subst q6
 obtain ⟨t1,rfl⟩:=q1
 obtain ⟨t2,rfl⟩:=q2
 exact ae <| call_range_2 <| BB _ _ <| i4 S hg hy hx body iS rY H (P1.grow (Grows.push s1.heap {cls:=.type "range",data:=.fields #[.int i t1,.int j t2,.int 1 s1.toks]}) (s1.toks+1)) bd (ah2 ..) w4 ku kx
theorem vD {m:Option Nat} (S:pP T env scope own) (hg:gens=⟨.Name y px,.Call (.Name z pz) es [] pos',ifs,0⟩::gs) (hy:T.nm x=y) (hx:x∈own)
  (g:ce T env z (.type "range") es) (h:bN T c n env es (.cons hi .nil)) (body:uU T c n env own elt gens scope pos bo y ifs mi rest) (iS:x∉lU rest) (rY:∀y∈lU rest,y∈own):wJ T c n env elt gens scope pos (.comp m own (.rB x (.int 0) hi Fk mi rest) bo):=by
 intro ρ σ s A en L Q X use Q' E' pp H wp ku kx
 change ba c hi (Eh x (.int 0) (iG c mi) (zn c rest (gE (ba c bo) X)) [] (mQ m Q) X (en.clear own)) X (en.clear own) σ at wp
 refine ag (id H.env) λm0 E o_=> ?_
 haveI e1:ar6 gens=Fk:=by refine af hg ?_; rfl
 haveI e2:aw5 gens env=ac2 (.Call (.Name z pz) es [] pos') env:=by refine af hg ?_; rfl
 simp only [e1,e2]
 refine ae2 hg (λo_=>rfl) (dr λy hy=>E.has y (S.free y hy)) S.kind (λx hx e=>by rw [S.names x hx,e]) <| nameQ λQ1 BB=>eC g h (H.less own) (gH.mpr wp) (λvs us aU aT s1 P1 r1 w1=> ?_) kx
 refine pW w1 r1 λv1 u1 w2 q1=>jR w2 λi e0 w3=> ?_
 cases e0
 refine bZ (dM.mp w3) λj q4 bd w4=> ?_
 subst q4
 exact jI q1 λt1=>at9 <| BB _ _ <| i4 S hg hy hx body iS rY H (P1.grow (Grows.push s1.heap {cls:=.type "range",data:=.fields #[.int 0 s1.toks,.int j t1,.int 1 (s1.toks+1)]}) (s1.toks+1+1)) bd (ah2 ..) w4 ku kx
theorem aj.Kg (P:aj T W c9 s0 ρ σ s) (R0:bc T c9 sK s0.heap) (hC:C∈ρ.p) (ED:s0.heap.get? C=vd) (hs:aa0 C s.heap h'):aj T W c9 s0 (ρ.drop [C]) σ {s with heap:=h'}/\jL ρ.o [] ρ.p (ρ.drop [C]).p s.heap h':=
 P.drop R0 (λb hb=>by simp at hb; refine bD hb.symm ?_; exact ⟨hC,ED⟩) (λb o hb e=>(hs.2 b (by simpa using hb)).trans e)
theorem Aq (h:wJ T c n env elt gens scope pos me):aw T c n env (.ListComp elt gens scope pos) me:=by
 intro ρ σ s A en L Q X Q' E' H wp kq kx
 refine h H wp (λv u am aa s' C P r q ED hC ns=> ?_) kx
 refine dJ ns λm ns=>az m ns (λh' hs=> ?_)
 exact dP (P.Kg H.rel hC ED hs) λP2 S2=>kq v u _ _ _ P2 (S2.val r) q
theorem Ay (h:aw T c n env value me) (hy:T.nm x=y) (hk:env.kindOf y=js .local∨env.kindOf y=js .cell) (hs:ab1 [.Name y p] value pos.line env=pure Fk):dk T c n env (.Assign [.Name y p] value pos) (.asg x me):=by
 intro ρ σ s A en L Q X Q' E' H wp kf kx
 exact ij h (iX hy hk) hs rfl rfl H wp (λaH am aa s' P e q=>kf .next .next _ _ _ _ P e rfl q) kx
theorem Ax {JR:Pos} (h:wJ T c n env elt gens scope pos me) (hy:T.nm x=y) (hk:env.kindOf y=js .local) (hs:swapsWith (.ListComp elt gens scope pos) (js (.Name y p)) JR.line env=pure vk):dk T c n env (.Assign [.Name y p] (.ListComp elt gens scope pos) JR) (.asg x me):=by
 intro ρ σ s A en L Q X Q' E' H wp kf kx
 subst hy
 refine af (exec_Assign_Name_used _ _ _ _ hs) <| wpAny_bind (Zq (j' ?_))
 refine j' (ZJ (h (use:=js (ah7 (.Name (T.nm x) p) env)) H.here wp (λv u am aa s' C P r q ED hC ns=> ?_) kx.up) (λo_ s' hq=>yd (yd hq)) λo_ o_ e=>e)
 obtain ⟨m,ns⟩:=ns
 have H1:=H.cU P
 refine nameQ λFk iv=>ag (id H1.env) λm1 E1 Q9=>iz H.alive λMQ Od MP=> ?_
 have nW:¬WF env C:=by
  rintro (z | ⟨y,hy⟩)
  ·exact eJ ED MQ z
  ·exact eJ ED (MP y C hy) rfl
 refine af2 (sT P.rel E1 Q9 H1.n8 (.inl hk) ⟨λo_=> .inl rfl,λo_ c hc=> .inr ⟨_,hc⟩⟩ r λh2 tk P2 e2=> ?_)
 refine mE (id ns) λoC YU YX gC o_=>ag (P2.ext.own P.rel hC nW gC) λsl WU o_=>iv _ _ <| az m (k6 ns gC WU) (λh' tY=> ?_)
 haveI eP:aj T (WF env) ρ s am aa {s' with heap:=h2,toks:=tk}:=P.up.trans P2
 obtain ⟨P3,S3⟩:=eP.Kg H.rel hC ED tY
 have mem:∀b,b∈am.p->(∃o,s.heap.get? b=js o)->b∈(am.drop [C]).p:=λb hb f=>aO.ch.mpr ⟨hb,by simpa using (eJ ED f).symm⟩
 haveI e3:=e2.eR S3 (λb o hb q=>(tY.2 b λz=>by obtain rfl:=z.symm; exact (aO.ch.mp hb).2 (.head _)).trans q) (mem _ E1.lp MQ) (λL hL=>mem _ (by refine bZ E1.fr λL' q hp o_=> ?_; refine bD (se q hL) ?_; exact hp) (Od L hL)) (λy c hc=>mem _ (E1.cells y c hc).1 (MP y c hc))
 exact kf .next .next _ _ _ _ P3 e3 rfl q
end
section
def MS (T:Cx) (c:Cc) (n:Nat) (env:Env) (e:Xq) (m:Ex):Prop:=
 (∃x k p,e=.Constant (.str (oC x)) k p/\m=.str x)∨∃v p,e=.FormattedValue v (-1) vd p/\aw T c n env v m
noncomputable def rh (T:Cx) (c:Cc) (n:Nat) (env:Env):List Xq->gR->Prop
 | [],.nil=>True
 | e::es,.cons m ms=>MS T c n env e m/\rh T c n env es ms
 | _,_=>False
set_option tactic.hygienic true in
theorem BL:∀{es} {ms} (ρ σ s out Q X Q' E'),rh T c n env es ms->dm T n ρ σ s A env en L->JK c ms out Q X en σ->out.length<=1000->
  (∀z am aa s',aj T W0 ρ s am aa s'->z.length<=1000->Q (.str z) aa->Q' z s')->KX T W0 ρ s L X E'->Joins (Hj T.prog T.w) A E' (aA3 es env) out Q' s
 | [],.nil=>λρ σ s out Q X Q' E' _ H wp ho k kx=>k out ρ σ s (.refl H.rel) ho wp
 | e::es,.cons m ms=>λρ σ s out Q X Q' E' h H wp ho k kx=>by
  change ba c m (kF (JK c ms) out Q X en) X en σ at wp
  have e1:aA3 (e::es) env=ac2 e env::aA3 es env:=by
   rcases h.1 with ⟨x,kk,p,rfl,rfl⟩ | ⟨v,p,rfl,hv⟩ <;> rfl
  clear e1
  rcases h.1 with ⟨x,kk,p,rfl,rfl⟩ | ⟨v,p,rfl,hv⟩
  ·change kh (Dl (.str (oC x))) (Sn (JK c ms) out Q X en) σ at wp
   refine ax λG_ ae=>bZ (xb.mp wp) λz hz hl w2=>ae ?_
   haveI Vw:=(vo hz).symm
   subst Vw
   refine ai9 ?_
   have P1:=(aj.refl (W:=W0) H.rel).tok (s.toks+1)
   refine bP _ _ rfl (by simp only [al5,Zs]; exact Y1 [_,_] [] (.l (.a V0 V1) (.n 16777216)) (.l (.a V0 V1) (.n 1000)) hl rfl) (BL _ _ _ _ _ _ _ _ h.2 (H.step P1) w2 (by rw [al5]; exact hl) (λz am aa s' P hz q=>k z _ _ _ (P1.trans P) hz q) (kx.step P1))
  ·refine wpAny_FormattedValue_plain (hv H wp (λvv u aU aT s1 P1 r1 w1=> ?_) kx)
   refine bZ (xb.mp w1) λz hz hl w2=> ?_
   have go:∀tk t,∃y t',Value.str z t=.str y t'/\(out++y).length<=al9/\Joins (Hj T.prog T.w) A E' (aA3 es env) (out++y) Q' {s1 with toks:=tk}:=λtk t=>by
    have P2:=P1.tok tk
    exact bP z t rfl (by simp only [al5,Zs]; exact Y1 [_,_] [] (.l (.a V0 V1) (.n 16777216)) (.l (.a V0 V1) (.n 1000)) hl rfl) (BL _ _ _ _ _ _ _ _ h.2 (H.step P2) w2 (by rw [al5]; exact hl) (λz am aa s' P hz q=>k z _ _ _ (P2.trans P) hz q) (kx.step P2))
   cases vv with
   | int i=>
    by_cases hi:i.natAbs < 1000000
    ·obtain rfl:=se (if_pos hi) hz
     exact jI r1 λt=>wpAny_formatField_int (km hi) (go _ _)
    ·exact fy (if_neg hi) hz
   | str x=>
    obtain rfl:=(vo hz).symm
    exact rn r1 λt=>wpAny_formatField_str (go _ _) (go _ _) (by simp only [Zs]; exact Y1 [_,_] [] (.l V0 (.n 16777216)) (.l (.a V1 V0) (.n 1000)) hl rfl)
   | _=>exact aI hz
 | [],.cons _ _=>λ_ _ _ _ _ _ _ _ h _ _ _ _ _=>h.elim
 | _::_,.nil=>λ_ _ _ _ _ _ _ _ h _ _ _ _ _=>h.elim
theorem Ai (h:rh T c n env (e1::e2::es) ms):aw T c n env (.JoinedStr (e1::e2::es) pos) (.qe ms):=by
 intro ρ σ s A en L Q X Q' E' H wp kq kx
 refine wpAny_JoinedStr (BL _ _ _ _ _ _ _ _ h H wp (by decide) (λz am aa s' P hz q=>⟨by simp only [Zs]; exact Y1 [_] [] (.l V0 (.n 16777216)) (.l V0 (.n 1000)) hz rfl,kq _ _ _ _ _ (P.tok _) (iU.mpr ⟨_,rfl⟩) q⟩) kx)
end
section
theorem tg {E:vi->FF->Prop} {l sl b:Nj} {items my:Array vi} {k2:Nat} {Q:Unit->FF->Prop} (ho:s.heap.get? l=js {cls:=.type "list",data:=.seq items k}) (hs:s.heap.IsSliceOf sl .none .none .none)
  (hb:s.heap.get? b=js {cls:=.type "list",data:=.seq my k2}) (hz:items.size+my.size<=al9)
  (hQ:Q () {s with heap:=s.heap.update l (an0 λxs=>xs.extract 0 0++my++xs.extract items.size xs.size)}):IQ (Hj prog w) A (at4 (.ref l) (.ref sl) (.ref b)) Q E s:=by
 have hl:s.heap.IsList l items:=⟨_,ho,rfl,k,rfl⟩
 have Wv:s.heap.IsList b my:=⟨_,hb,rfl,k2,rfl⟩
 refine bZ (id hs) λos NC Gs qd=> ?_
 haveI Tq:s.TypeIs (.ref sl) "slice":=(az os NC Gs)
 have it:∀{a} {xs} {kk} {Q} {E} {A},s.heap.get? a=js {cls:=.type "list",data:=.seq xs kk}->Q xs s->IQ (Hj prog w) A (Builtin.List.listItems (.ref a)) Q E s:=λ{a xs kk Q E A} ha q=>j' (wpAny_seqItems ha rfl (yd q))
 unfold at4
 try with_reducible refine N6 ?_
 first | refine j' (yd ?_) | skip
 refine j' (wpAny_sequenceKey hl.typeIs (by decide) ?_)
 refine j' (wpAny_callSpecial?_slot hl.typeIs slot_list_setitem
  (am3 slot_list_setitem hl.typeIs entry_list_setitem ?_ (args_list_setitem _ _ _)))
 refine (?_:IQ _ _ (ai3 (.ref sl)>>=_) _ _ s)
 refine j' ?_
 unfold ai3
 refine nameQ λFk iv=>j' (an9 Tq slice_no_index ?_)
 refine yd <| iv _ _ <| wpAny_bind (au3 Tq ?_)
 haveI Sy:=Bool.false_ne_true
 refine j' (j' (ab9 NC qd (x:=.none) rfl (j' (ap5 .none ?_))))
 refine j' (ab9 NC qd (x:=.none) rfl (j' (ap5 .none ?_)))
 refine j' (ab9 NC qd (x:=.none) rfl (j' (ap5 .none (yd ?_))))
 haveI all:∀{m} {Q} {E} {A},Q my s->IQ (Hj prog w) A (Builtin.List.listAllItems (.ref b) m) Q E s:=λ{m Q E A} q=>by
  refine j' (au3 Wv.typeIs ?_)
  exact it hb q
 refine wpAny_ite ?_
 have tail:=trivial
 split
 all_goals (
  first | refine j' (it hb ?_) | refine j' (all ?_)
  refine j' (it ho ?_)
  refine j' (ah3 (sliceIndices_raw vd vd vd items.size (by decide)) ?_)
  have QI:sliceBounds vd vd vd items.size=(0,(items.size:Int),1):=rfl
  refine af QI ?_
  dsimp only
  refine j' (wpAny_rule ?_)
  refine af (if_neg (by unfold ae0; simpa using hz)) <| af (Y2 [_,_] [_] (.e V0 V1) (.Q (.c V0) V0) (.Q V0 (.c V1)) (ab3 (Y1 [_] [_] (.L (.n 0) V0) (.r (.Q V0 (.c V0))) (am2 (Y0 [_] [] (.L (.n 0) (.c V0)) rfl)) rfl)) (am2 (Y0 [_] [] (.L (.n 0) (.c V0)) rfl)) rfl:(max 0 (items.size:Int)).toNat=items.size) <| wpAny_bind (wpAny_updateSeq ho rfl ?_ (ZT (aw6 _ _) hz) (show (items.extract 0 0++my++items.extract items.size items.size).size<=al9+1 by simp only [au5,Array.size_extract,Nat.sub_zero,Nat.min_self,Nat.sub_self,Nat.zero_min,Nat.min_zero,Nat.zero_add,Nat.add_zero]; exact Nat.le_succ_of_le (ZT (ay0 _ _) hz)))
  refine j' (wpAny_letGo ?_)
  first
   | exact j' (yd (yd (rU .none rfl (yd hQ))))
   | exact yd (az .none rfl (yd hQ)))
theorem vH (h:aw T c n env value me) (ho:aw T c n env o mo) (hs:ab1 [.Subscript o (.Slice vd vd vd p') p] value pos.line env=pure Fk):
  dk T c n env (.Assign [.Subscript o (.Slice vd vd vd p') p] value pos) (.pK mo me):=by
 intro ρ σ s A en L Q X Q' E' H wp kf kx
 refine ad7 (h H.here wp (λv u aU aT s1 P1 r1 w1=> ?_) kx.up) hs rfl
 refine (?_:IQ _ _ (ah7 (.Subscript o (.Slice vd vd vd p') p) env u) _ _ _)
 simp only [assign_Subscript]
 refine j' (N6 (ho (H.here.step P1) w1 (λvo uo lN aV s2 P2 r2 w2=> ?_) (kx.up.step P1)))
 refine ax λG_ ae=>bp (dL.mp w2) λm ob q1 e1 w3=> ?_
 subst q1
 refine bV (jz.mp w3) λt l q2 w4=> ?_
 subst q2
 refine xd w4 λk q3 w5=> ?_
 subst q3
 refine ag r2 λq hq q4=> ?_
 subst q4
 refine ae <| wpAny_bind (N6 (ak6 (ZF (ZF (ZF ?_)))))
 haveI P3:=P2.grow (Grows.push s2.heap {cls:=.type "slice",data:=.fields #[.none,.none,.none]}) s2.toks
 refine nS (P3.rel.Eo e1 hq) λxs kk gx rx zx hx=>yJ (P3.val P1.rel r1) λb ys k2 gb fb zb rb=> ?_
 haveI hy:ys.size=k.length:=by have:=rb.length; simpa using this
 refine j' (Zq (j' (N6 (tg gx (ar1 ..) gb (by simp only [hx,hy,Zs]; unfold bf at zx zb; exact Y2 [_,_] [] (.l (.a V0 V1) (.n 16777216)) (.l V0 (.n 100000)) (.l V1 (.n 100000)) zx zb rfl) (al3 ?_)))))
 haveI P4:=P3.rel.cu e1 hq (λJI=>JI.extract 0 0++ys++JI.extract xs.size JI.size) (λJI r=>by
  have:JI.size=xs.size:=by have:=r.length; simp only [hx]; simpa using this
  refine bD this ?_
  simpa using rb) zb
 haveI PT:=(P1.trans P3).trans P4
 exact kf .next .next _ _ _ _ PT.up (H.env.ext PT.ext H.rel) rfl w5
end
structure sE (B:String) (bm:List vi):Prop where
 hasB:bm.contains (.type B)=vk
 noAttr:bm.contains (.type "AttributeError")=Fk
 noName:bm.contains (.type "NameError")=Fk
section
variable {E:vi->FF->Prop} {g:Array GenState} {d:Drawn} {t:Nat} {os:OsState}
variable {nm q:Zu} {N:Nj} {bs Ob:List vi} {hdct:Bool} {sn:List Zu} {sub:List vi} {ab:Bool} {col:Option Bool} {dd:Option Nj} {k0 k1 k2 k3 k5:Option vi} {B newId wg:String}
theorem qf {rest:List vi} {Q:Unit->FF->Prop} (F:au6 B newId wg Ob) (I:sE B bm) (hC:h.get? C=js (aa9 nm q C N bs bm hdct sn sub ab col dd k0 k1 k2 k3 k5 newId)) (hq:Q () ⟨h,g,d,t,os⟩):
  IQ (Hj prog w) A (am4 newId ⟨.ref C::rest,[]⟩) Q E ⟨h,g,d,t,os⟩:=by
 haveI pf:(ZG C::bm).contains (.type B)=vk:=by simp only [ac1,I.hasB,am9]
 have:=F.noStar
 unfold am4
 rw [F.newKind,F.newSplit,F.newRow]
 repeat (first | refine ZR hC ?_ | (refine ad8 hC ?_; refine af pf ?_) | refine wpAny_staticBase_exc hC ?_ | refine wpAny_madeBy_exc hC ?_ | refine wpAny_ite ((if_neg (by simp)).symm▸?_) | wp_step)
 exact hq
noncomputable def fS (h:Z4) (C:Nj) (rest:List vi):Z4:=(h.push {cls:=.type "tuple",data:=.seq rest.toArray}).push {cls:=.ref C,data:=.fields #[.ref h.objs.size,.none,.none,.none,.bool Fk,.none]}
theorem EP {rest:List vi} (F:au6 B newId wg Ob) (I:sE B bm) (hC:h.get? C=js (aa9 nm q C N bs bm hdct sn sub ab col dd k0 k1 k2 k3 k5 newId))
  (hq:R (.ok (.ret (.ref (h.objs.size+1)))) ⟨fS h C rest,g,d,t,os⟩) (Gk:rest.length<=al9):Z0 (Hj prog w) A (.builtin newId ⟨.ref C::rest,[]⟩) R ⟨h,g,d,t,os⟩:=by
 have:=F.ends
 haveI i1:(ZG C::bm).contains (.type B)=vk:=by simp only [ac1,I.hasB,am9]
 haveI i2:(ZG C::bm).contains (.type "AttributeError")=Fk:=by simp only [ac1,I.noAttr]; rfl
 haveI i3:(ZG C::bm).contains (.type "NameError")=Fk:=by simp only [ac1,I.noName]; rfl
 refine codeAny_builtinAt F.entry ?_
 unfold Builtin.«BaseException.__new__»
 refine PySem.wpAt_bind <| PySem.wpAt_bind (PySem.wpAt_stack λp below=>aq7 ?_)
 wp_walk
 refine aq7 <| af F.owner ?_
 repeat (first | with_reducible refine wpAny_madeHere_exc F.canon hC ?_ | with_reducible refine ZR hC ?_ | (with_reducible refine ad8 hC ?_; first | rw [i1] | rw [i2] | refine af i3 ?_) | wp_step)
 refine (?_:R _ _)
 rw [ac7]
 exact hq
theorem BQ {rest:List vi} {Q:vi->FF->Prop} (F:au6 B newId wg Ob) (I:sE B bm)
  (hC:h.get? C=js (aa9 nm q C N bs bm hdct sn sub ab col dd k0 k1 k2 k3 k5 newId)) (hi:∀h',(∀b o,h.get? b=js o->h'.get? b=js o)->ay7 (Hj prog w) h' (typeLookup (.ref C) "__init__") (js (.ref fI))) (Wk:h.get? fI=js oI) (NK:oI.cls=.type "function") (Gk:rest.length<=al9)
  (hq:IQ (Hj prog w) (A.under (.builtin "type.__call__" ⟨.ref C::rest,[]⟩)) (call (.ref fI) (.ref (h.objs.size+1)::rest)) (λr s'=>r=.none/\Q (.ref (h.objs.size+1)) s') E ⟨fS h C rest,g,d,t,os⟩):
  IQ (Hj prog w) A (call (.ref C) rest) Q E ⟨h,g,d,t,os⟩:=by
 haveI f1:=tc_lookup
 haveI f2:=tc_bind (.ref C)
 haveI hT:(⟨h,g,d,t,os⟩:FF).TypeIs (.ref C) "type":=(az _ hC rfl)
 refine ae6 (codeAny_of_tree ?_)
 refine (?_:IQ _ _ (callAny (.ref C) _) _ _ _)
 repeat (any_goals (first | assumption | with_reducible refine ZR hC ?_ | wp_step))
 refine ⟨rfl,?_⟩
 refine codeAny_call_builtin_at (ar7 _ (by decide+kernel)) entry_typeCall (wpAny_check_type_call_sub hC ?_)
 repeat (first | with_reducible refine ZR hC ?_ | with_reducible refine wpAny_madeBy_exc hC ?_ | wp_step)
 refine codeAny_call_builtin_code (ar7 _ F.quiet) (qf F I hC ?_)
 refine EP F I hC ?_ Gk
 refine (?_:IQ _ _ _ _ _ ⟨fS h C rest,g,d,t,os⟩)
 haveI k:∀b o,h.get? b=js o->(fS h C rest).get? b=js o:=λb o e=>Xr _ (Xr _ e)
 haveI Bx:(fS h C rest).get? (h.objs.size+1)=js {cls:=.ref C,data:=.fields #[.ref h.objs.size,.none,.none,.none,.bool Fk,.none]}:=by unfold fS; heap_get
 haveI Wr:(ZG C::bm).contains (.ref C)=vk:=by simp
 haveI WO:=k _ _ hC
 repeat (first | with_reducible refine ZR Bx ?_ | (with_reducible refine ad8 WO ?_; refine (Wr.symm▸?_)) | wp_step)
 refine (hi _ k).here <| wpAny_holding (j' ?_)
 refine j' (au3 (az _ (k _ _ Wk) NK) ?_)
 refine yd (j' (ZJ hq (λr s' hr=> ?_) λo_ o_ x=>x))
 obtain ⟨rfl,hQ⟩:=hr
 wp_walk
 exact hQ
end
theorem dK {P:List Zu} (iS:P.Nodup):∀(i:Nat) x,P[i]? =js x->((P.zip us).lookup x)=us[i]?:=by
 induction P generalizing us with
 | nil=>intro i x h; simp at h
 | cons p P ih=>
  intro i x h
  cases us with
  | nil=>simp
  | cons u us=>
   dsimp only [ar8,Zh]
   cases i with
   | zero=>simp at h; refine af h ?_; simp
   | succ i=>
    simp at h
    haveI lq:(x==p)=Fk:=by
     rw [beq_eq_false_iff_ne]
     rintro rfl
     exact (ah9.mp iS).1 (Oq h)
    exact af lq <| ih (ah9.mp iS).2 i x h
theorem mx {x:Zu} {v:vi} {l:List (Zu×vi)} (h:l.lookup x=vd) (n:x ≠ y):(l++ [(y,v)]).lookup x=vd:=by
 simp only [ae8,h]
 have:(x==y)=Fk:=by simpa using n
 simp [Zh,this]
theorem Cw {l:List (Zu×vi)}:∀{sl:List (Zu×vi)},(l.map (·.1)).Nodup->(∀p∈l,sl.lookup p.1=vd)->
  (forIn l sl λx (r:List (Zu×vi))=>(if (ak4 x.1 r).isNone=vk then pure (Zv (r++ [(x.1,x.2)])) else pure (Zv r):Sem _))=pure (sl++l):=by
 induction l with
 | nil=>intro sl _ _; simp
 | cons p l ih=>
  intro sl hn h
  rw [ZZ]
  refine ((h p (.head _))▸?_)
  rw [ag6,ah9] at hn
  have:=ih (sl:=sl++ [(p.1,p.2)]) hn.2 λq hq=>mx (h q (.tail _ hq)) λe=>hn.1 (an1.mpr (az q hq e))
  rw [ak2] at this
  exact this
theorem zg {l2:List (Zu×vi)} {sl:List (Zu×vi)} (hn:(l2.map (·.1)).Nodup) (h2:∀p∈l2,sl.lookup p.1=vd):∀{l1:List (Zu×vi)},(∀p∈l1,(sl.lookup p.1).isNone=Fk)->
  (forIn (l1++l2) sl λx (r:List (Zu×vi))=>(if (ak4 x.1 r).isNone=vk then pure (Zv (r++ [(x.1,x.2)])) else pure (Zv r):Sem _))=pure (sl++l2):=by
 intro l1
 induction l1 with
 | nil=>intro _; exact Cw hn h2
 | cons p l ih=>
  intro h
  rw [aw8,ZZ]
  refine ((h p (.head _))▸?_)
  exact ih λq hq=>h q (.tail _ hq)
theorem pT {P:List Zu} {vs:List vi} (iS:P.Nodup) (hl:P.length=vs.length):P.filterMap (λn=>((P.zip vs).lookup n).map (n,·))=P.zip vs:=by
 have:∀P2 v2 k,P.drop k=P2->vs.drop k=v2->P2.filterMap (λn=>((P.zip vs).lookup n).map (n,·))=P2.zip v2:=by
  intro P2
  induction P2 with
  | nil=>intro v2 k _ _; simp
  | cons p P2 ih=>
   intro v2 k h1 h2
   have hk:k < P.length:=by
    refine as4 (an3 k P.length) (λh=> ?_) λh=> ?_
    ·exact h
    ·replace h1:=(ZY h).symm.trans h1; cases h1
   replace h1:=(Z1 hk).symm.trans h1
   rw [Z1 (by exact Y2 [_,_,_] [] (.t V0 V1) (.e V2 V1) (.t V0 V2) hl hk rfl:k < vs.length)] at h2
   cases h1
   subst h2
   haveI e:=dK (us:=vs) iS k P[k] (by simp [hk])
   rw [Um (by exact Y2 [_,_,_] [] (.t V0 V1) (.e V2 V1) (.t V0 V2) hl hk rfl:k < vs.length)] at e
   rw [List.filterMap_cons,e,ar8]
   simp only [ay3]
   exact af (ih _ (k+1) rfl rfl) rfl
 exact this P vs 0 rfl rfl
theorem ze {as} {P} (ha:as.map (·.arg)=P) (iS:P.Nodup)
  (hd:∀{M} {A} {E} {Q:Option (Array vi)->FF->Prop},(∀r,(r.getD #[]).toList=ds->Q r s)->IQ M A (seqItems? fd.defaults) Q E s)
  (h1:ds.length<=P.length) (h2:P.length - ds.length<=us.length) (h3:us.length<=P.length):
  BindsTo s {fd with params:={fd.params with posonlyargs:=[],args:=as,kwonlyargs:=[],vararg:=vd,kwarg:=vd}} ⟨us,[]⟩ (P.zip (us++ds.drop (ds.length -(P.length - us.length)))):=by
 intro M A E Q hq
 refine j' (yd ?_)
 refine j' (hd λr hr=> ?_)
 rw [show List.map (λx:Arg=>x.arg) []++List.map (λx:Arg=>x.arg) as=P from ha,hr]
 dsimp only [List.map_nil,List.forIn_nil]
 rw [(Nat.sub_eq_zero_of_le h1),az8,if_neg (by simp; exact h3)]
 haveI e1:((List.filter (λn=>(ak4 n (P.zip us,([]:List (Zu×vi))).fst).isNone) (List.take (P.length - ds.length) P)).isEmpty)=vk:=by
  rw [ZW,List.filter_eq_nil_iff]
  intro x hx
  refine dJ (ac6 hx) λi hi=> ?_
  replace hi:=(ai8).symm.trans hi
  split at hi
  ·rename_i iT
   rw [dK iS i x hi,Um (Nat.lt_of_lt_of_le ‹_› ‹_›)]
   simp
  ·exact aI hi
 rw [if_neg (by rw [e1]; simp)]
 haveI hm:us.length -(P.length - ds.length)=ds.length -(P.length - us.length):=Y4 [_,_,_,_,_,_,_] [] (.e V0 V1) (.e (.a V0 V2) V3) (.r (.e (.a V2 V4) V5)) (.r (.e (.a V1 V6) V4)) (.e (.a V6 V3) V5) (R6 h2) (R6 h1) (R6 (Y3 [_,_,_,_,_] [] (.l V0 V1) (.l V2 V3) (.e (.a V0 V3) V4) (.r (.e (.a V2 V1) V4)) h2 (R6 h3) (R6 h1) rfl)) (R6 h3) rfl
 haveI UA:(ap8 (P.length - ds.length) P).zip ds=((ap8 (P.length - ds.length) P).zip ds).take (us.length -(P.length - ds.length))++(P.drop us.length).zip (ds.drop (ds.length -(P.length - us.length))):=by
  conv=>lhs; rw [<-ag1 (us.length -(P.length - ds.length)) ((ap8 (P.length - ds.length) P).zip ds)]
  congr 1
  haveI dz:∀k (a:List Zu) (b:List vi),(a.zip b).drop k=(a.drop k).zip (b.drop k):=by
   intro k
   induction k with
   | zero=>intro a b; rfl
   | succ k ih=>intro a b; cases a <;> cases b <;> simp [ih]
  simp only [dz,aA4,hm]
  congr 2
  exact Y2 [_,_,_,_] [] (.e (.a V0 V1) V2) (.r (.e V3 V1)) (.e (.a V3 V0) V2) hm (R6 h2) rfl
 haveI look:∀{i} {x},P[i]? =js x->(P.zip us).lookup x=us[i]?:=λh=>dK iS _ _ h
 haveI O6:∀{a:List Zu} {b} {p:Zu×vi},p∈a.zip b->∃j,a[j]? =js p.1/\b[j]? =js p.2:=λ{a b p} h=>by
  obtain ⟨j,hj⟩:=ac6 h
  rw [aj9] at hj
  exact ⟨j,hj⟩
 haveI l2:∀p∈(P.drop us.length).zip (ds.drop (ds.length -(P.length - us.length))),(P.zip us).lookup p.1=vd:=λp hp=>by
  refine ag (O6 hp) λj h o_=> ?_
  rw [ac0] at h
  exact af (look h) <| List.getElem?_eq_none (Y0 [_,_] [] (.l V0 (.a V0 V1)) rfl)
 haveI l1:∀p∈((ap8 (P.length - ds.length) P).zip ds).take (us.length -(P.length - ds.length)),((P.zip us).lookup p.1).isNone=Fk:=λp hp=>by
  refine dJ (ac6 hp) λj hj=> ?_
  rw [ai8] at hj
  split at hj
  ·rename_i iT
   rw [aj9,ac0] at hj
   rw [look hj.1,Um (by exact Y2 [_,_,_,_] [] (.t (.a V0 V1) V2) (.t V1 V3) (.e (.a V3 V0) V2) iT (R6 h2) rfl)]
   rfl
  ·exact aI hj
 haveI UZ:(((P.drop us.length).zip (ds.drop (ds.length -(P.length - us.length)))).map (·.1)).Nodup:=by
  have:((P.drop us.length).zip (ds.drop (ds.length -(P.length - us.length)))).map (·.1)=P.drop us.length:=List.map_fst_zip (by simp; exact Y3 [_,_,_,_,_,_] [] (.l V0 (.a V1 V2)) (.r (.e (.a V1 V3) V4)) (.e (.a V3 V5) V4) (.r (.e (.a V5 V2) V0)) (R6 ((Nat.sub_le _ _))) (R6 (Y3 [_,_,_,_,_] [] (.l V0 V1) (.l V2 V3) (.e (.a V0 V3) V4) (.r (.e (.a V2 V1) V4)) h2 (R6 h3) (R6 h1) rfl)) (R6 h3) rfl)
  exact this.symm▸(iS.sublist (List.drop_sublist _ _))
 haveI loop:=zg UZ l2 l1
 rw [<-UA] at loop
 refine j' (ah3 loop (j' (yd ?_)))
 haveI e2:P.zip us++(P.drop us.length).zip (ds.drop (ds.length -(P.length - us.length)))=P.zip (us++ds.drop (ds.length -(P.length - us.length))):=by
  conv=>rhs; rw [<-ag1 us.length P]
  rw [List.zip_append (by rw [av7,an8 h3])]
  rw [ag1]
  congr 1
  have:∀(a:List Zu) (b:List vi),a.zip b=(a.take b.length).zip b:=by
   intro a
   induction a with
   | nil=>intro b; simp
   | cons x a ih=>intro b; cases b with
    | nil=>simp
    | cons y b=>simpa using ih b
  exact this P us
 exact af e2 <| wpAny_of_eq (congrArg pure ((aa8 P).symm▸pT iS (by rw [ar5,av8,Nat.sub_sub_self (Nat.sub_le_of_le_add (Nat.add_comm _ _▸Nat.le_add_of_sub_le h2)),Nat.add_sub_of_le h3]))) hq
theorem CD {p:Arguments} (h1:p.posonlyargs=[]) (h2:p.kwonlyargs=[]) (h3:p.vararg=vd) (h4:p.kwarg=vd):({p with posonlyargs:=[],args:=p.args,kwonlyargs:=[],vararg:=vd,kwarg:=vd}:Arguments)=p:=by
 obtain ⟨o_,o_,o_,o_,o_,o_,o_⟩:=p
 subst h1; subst h2; subst h3; subst h4; rfl
theorem zf (hp:fd.params.posonlyargs=[]) (ha:fd.params.args.map (·.arg)=P) (hk:fd.params.kwonlyargs=[]) (hv:fd.params.vararg=vd) (Qt:fd.params.kwarg=vd) (iS:P.Nodup)
  (hd:∀{M} {A} {E} {Q:Option (Array vi)->FF->Prop},(∀r,(r.getD #[]).toList=ds->Q r s)->IQ M A (seqItems? fd.defaults) Q E s)
  (h1:ds.length<=P.length) (h2:P.length - ds.length<=us.length) (h3:us.length<=P.length):
  BindsTo s fd ⟨us,[]⟩ (P.zip (us++ds.drop (ds.length -(P.length - us.length)))):=by
 have e:({fd with params:={fd.params with posonlyargs:=[],args:=fd.params.args,kwonlyargs:=[],vararg:=vd,kwarg:=vd}}:ad9)=fd:=congrArg (λp=>({fd with params:=p}:ad9)) (CD hp hk hv Qt)
 exact e▸ze ha iS hd h1 h2 h3
structure jr (T:Cx) (bm:List vi) (cd:al6):Prop where
 cls:au7 T.K T.cR=js cd
 mro:cd.mro=.ref T.cR::bm
 dict:cd.hasDict=vk
 pass:∀self:vi,refuseLoop self "__setattr__" cd.mro=pure ()
 obj:an5 T.K T.cR (.type "object")=js vk
 DH:Z3 T.K (.ref T.cR) "__setattr__"=js (js (.builtin "object.__setattr__"))
section
def RA (T:Cx) (ρ:aO) (h:Z4) (e:Nj) (fs:List (Nat×V)):Option Nj->Prop
 | none=>fs=[]
 | some d=>∃es n,h.get? d=js (ad4 es n)/\d∈ρ.p/\d ≠ e/\fe T ρ h fs es
structure uN (T:Cx) (ρ:aO) (s:FF) (e:Nj) (od:Option Nj) (vs:Array vi) (fs:List (Nat×V)):Prop where
 at_:s.heap.get? e=js {cls:=.ref T.cR,dict:=od,data:=.fields vs}
 size:vs.size=6
 v0:∃t,vs[0]? =js (.ref t)
 v1:vs[1]? =js .none
 ef:e∈ρ.p
 dict:RA T ρ s.heap e fs od
def WE (e:Nj) (od:Option Nj):Nj->Prop:=λb=>b=e∨od=js b
theorem uN.n8 {e:Nj} (x:uN T ρ s e od vs fs):d4 (WE e od) ρ:=λb hb=>by
 refine mh hb ?_ λhb=> ?_
 ·exact x.ef
 ·have:=x.dict
  clear x
  subst hb
  exact bp this λo_ o_ o_ h o_=>h
theorem sM {x:Nj} {od:Option Obj} {v:vi} (C:jr T bm cd) (X:T.K.In s.heap) (I:InstAt s.heap x ox T.cR od) (ht:ak8 T.K T.cR name=js vd)
  (h:∀b,IQ (Hj prog w) A.in1 (ar9 (.ref x) (.ref T.cR) (.str name tk) name v b)
   (λfin s'=>match fin with | .done f=>R (.ok f) s' | .again c'=>c'.quiet=vk/\Z0 (Hj prog w) A c' R s') (λe s'=>R (.error e) s') s):
  Z0 (Hj prog w) A (.call (.builtin "object.__setattr__") ⟨[.ref x,.str name tk,v],[]⟩) R s:=by
 haveI SF:=PySem.F.store_object
 haveI sub:ay7 (Hj prog w) s.heap (isInstance (.ref x) (.type "object")) vk:=I.type.andThen (ax7 X C.obj)
 refine ah4 SF.slot.plain SF.entry (@check_slot (Hj prog w) _ _ s "object.__setattr__" "object" "__setattr__" (.ref x) [.str name tk,v] [] _ SF.kind SF.split sub (SF.args (.ref x) (.str name tk) v) ?_)
 refine ag (Zt.mp ht) λattr ha hr=> ?_
 haveI hm:ay7 (Hj prog w) s.heap (mroOf (.ref T.cR)) cd.mro:=(ap2 X C.cls).andThen .now
 haveI L3:ay7 (Hj prog w) s.heap (aw9 attr) vd:=by
  cases attr with
  | none=>exact .now
  | some a=>
   refine ag (Ou.mp hr) λb hb hz=>(looks_takesIn X hb).andThen ?_
   cases b with
   | true=>exact J9 hz
   | false=>exact .now
 rw [osa_eq,refuse_eq]
 refine j' (j' (I.type.here (j' (hm.here ?_))))
 rw [C.pass]
 refine yd (j' (I.type.here (j' ((af6 X ha).here (j' (L3.here ?_))))))
 exact h _
theorem uh {e:Nj} {a:Nat} {Q':Unit->FF->Prop} (C:jr T bm cd) (R:bc T ρ σ s.heap) (x:uN T ρ s e od vs fs) (ht:ak8 T.K T.cR (T.nm a)=js vd)
  (rv:aq ρ s.heap v u) (hz:fs.length<=50)
  (q:∀am h' tk d',aj T (WE e od) ρ s am σ {s with heap:=h',toks:=tk}->uN T am {s with heap:=h',toks:=tk} e (js d') vs (gB a v fs)->(od=js d'∨od=vd/\s.heap.get? d'=vd)->Q' () {s with heap:=h',toks:=tk}):
  IQ (Hj T.prog T.w) A (setAttr (.ref e) (T.nm a) u) Q' E' s:=by
 haveI X:=R.K
 obtain ⟨hh,gg,dd,tt,os⟩:=s
 replace X:T.K.In hh:=X
 obtain ⟨he,c8,CU,Ie,ef,hd⟩:=x
 dsimp only at he
 cases od with
 | none=>
  refine ax λG_ ae=> ?_
  cases hd
  have I:InstAt hh e {cls:=.ref T.cR,dict:=vd,data:=.fields vs} T.cR vd:=⟨he,rfl,rfl,trivial⟩
  refine ae <| set_plain X I C.DH (sM C X I ht λb=> ?_)
  refine j' (yd (j' (j' (ap1 he (j' ((ap2 X C.cls).here ?_))))))
  refine (C.dict.symm▸?_)
  haveI g1:Grows hh (hh.push Z6):=Grows.push _ _
  haveI Ly:=g1 _ _ he
  have lq:=ai2 (ZU he)
  have nD:=aK hh
  refine j' (ax6 ?_)
  refine j' (wpAny_update Ly ?_)
  refine yd (a:=js hh.objs.size) (j' (yd ?_))
  haveI Bz:=YM (λo=>{o with dict:=js hh.objs.size}) Ly rfl
  haveI Tn:(hh.push Z6).get? hh.objs.size=js Z6:=Q1 _ rfl
  obtain ⟨R2,X2⟩:=R.own g1 (l:=[hh.objs.size]) (λa ha=>by simp at ha; subst ha; exact nD) (λa ha=>by simp at ha; subst ha; exact ⟨_,Tn⟩)
  haveI P2:aj T (WE e vd) ρ ⟨hh,gg,dd,tt,os⟩ (ρ.own [hh.objs.size]) σ ⟨hh.push Z6,gg,dd,tt,os⟩:=⟨R2,X2.mono λo_ w=>w.elim,rfl,rfl⟩
  have wl:d4 (WE e (js hh.objs.size)) (ρ.own [hh.objs.size]):=λb hb=>by
   refine mh hb ?_ λhb=> ?_
   ·exact ZS _ ef
   ·refine af (vo hb) ?_; exact ZC _ (.head _)
  have Pa:=aj.turn (s:=⟨hh.push Z6,gg,dd,tt,os⟩) R2 wl (.inl rfl) (ZQ (hh.push Z6) e (λo=>{o with dict:=js hh.objs.size})) ⟨_,Bz⟩ tt
  haveI hd2:((hh.push Z6).update e (λo=>{o with dict:=js hh.objs.size})).get? hh.objs.size=js (ad4 [] 0):=(ZN _ _ lq).trans Tn
  haveI UD:=((rv.ext X2 R.aF (d4.zero _)).ext Pa.ext R2.aF wl)
  refine kg (s:=⟨(hh.push Z6).update e (λo=>{o with dict:=js hh.objs.size}),gg,dd,tt+1,os⟩) R.ok.jS (show fe T _ _ [] [] from rfl) hd2 (Z5 _) UD λh' sf n' sb D' Gx=> ?_
  haveI Pb:=aj.turn Pa.rel wl (.inr rfl) sb ⟨_,D'⟩ (tt+1+1)
  haveI P:=P2.iJ (Pa.trans Pb) λb hb=>by
   refine mh hb ?_ λhb=> ?_
   ·exact .inl (.inl rfl)
   ·refine bD (vo hb) ?_; exact .inr nD
  exact q (ρ.own [hh.objs.size]) h' _ hh.objs.size P ⟨(sb.2 _ lq).trans Bz,c8,CU,Ie,ZS _ ef,sf,n',D',ZC _ (.head _),ag5 lq,Gx.ext Pb.ext Pa.rel.aF wl⟩ (.inr ⟨rfl,nD⟩)
 | some d=>
  refine nS hd λes nn gd df lq fr=> ?_
  have I:InstAt hh e {cls:=.ref T.cR,dict:=js d,data:=.fields vs} T.cR (js (ad4 es nn)):=⟨he,rfl,rfl,gd⟩
  refine set_plain X I C.DH (sM C X I ht λb=> ?_)
  refine j' (yd (j' (j' (ap1 he (j' ((ap2 X C.cls).here ?_))))))
  refine (C.dict.symm▸?_)
  refine yd (j' (yd ?_))
  refine kg (s:=⟨hh,gg,dd,tt+1,os⟩) R.ok.jS fr gd hz rv λh' sf n' sb D' Gx=> ?_
  haveI wl:d4 (WE e (js d)) ρ:=λb hb=>by
   refine mh hb ?_ λhb=> ?_
   ·exact ef
   ·refine bD (vo hb) ?_; exact df
  haveI P:=aj.turn R wl (.inr rfl) sb ⟨_,D'⟩ (tt+1+1)
  exact q ρ h' _ d P ⟨(sb.2 _ (ag5 lq)).trans he,c8,CU,Ie,ef,sf,n',D',df,lq,Gx.ext P.ext R.aF wl⟩ (.inl rfl)
end
section
set_option tactic.hygienic true in
theorem jr.get (C:jr T bm cd) (X:T.K.In h):∃oc od sl,h.get? T.cR=js ⟨oc,od,.cls cd,sl⟩:=by
 have:=C.cls
 cases e:T.K.lookup T.cR with
 | none=>exact aI ((show au7 T.K T.cR=vd by unfold au7; rw [e]).symm.trans this)
 | some o=>
  obtain ⟨oc,od,w,sl⟩:=o
  cases w with
  | cls Zj=>exact bD (vo ((show au7 T.K T.cR=js Zj by unfold au7; rw [e]).symm.trans this)) <| El oc od sl (X _ _ e)
  | _=>exact aI ((show au7 T.K T.cR=vd by unfold au7; rw [e]).symm.trans this)
theorem De {e:Nj} (C:jr T bm cd) (hm:an5 T.K T.cR (.type "ValueError")=js vk) (R:bc T ρ σ s.heap) (x:uN T ρ s e vd vs [])
  (q:∀h' ql,aj T (WE e vd) ρ s ρ σ {s with heap:=h'}->uN T ρ {s with heap:=h'} e vd ql []->Q' .none {s with heap:=h'}):
  IQ (Hj T.prog T.w) A (call (.builtin "ValueError.__init__") [.ref e,u]) Q' E' s:=by
 haveI F:=aj7
 haveI X:=R.K
 obtain ⟨hh,gg,dd,tt,os⟩:=s
 replace X:T.K.In hh:=X
 obtain ⟨he,c8,⟨t0,CU⟩,Ie,ef,hd⟩:=x
 refine ae6 (ah4 F.init.plain F.initEntry ?_)
 unfold am4
 rw [F.initKind,F.initSplit,F.initRow]
 haveI hs:ay7 (Hj T.prog T.w) hh (isSubtype (.ref T.cR) (.type "ValueError")) vk:=ax7 X hm
 haveI tY:∀{A} {Q} {E},Q vk ⟨hh,gg,dd,tt,os⟩->IQ (Hj T.prog T.w) A (isSubtype (.ref T.cR) (.type "ValueError")) Q E ⟨hh,gg,dd,tt,os⟩:=λq=>hs.here q
 refine ER (C.get X) λoc odd zo hC=> ?_
 repeat (first | with_reducible refine ZR hC ?_ | with_reducible refine wpAny_load hC ?_ | with_reducible refine ZR he ?_ | with_reducible refine tY ?_ | wp_step)
 refine (CU▸?_)
 refine yd ?_
 haveI g1:Grows hh (hh.push {cls:=.type "tuple",data:=.seq #[u]}):=Grows.push _ _
 haveI Ly:=g1 _ _ he
 refine j' (aj4 Ly rfl (by refine af c8 ?_; decide) ?_)
 haveI Bz:=YM (ZH (·.setIfInBounds 0 (ZG hh.objs.size))) Ly rfl
 have wl:d4 (WE e vd) ρ:=λb hb=>by
  refine mh hb ?_ λhb=> ?_
  ·exact ef
  ·exact aI hb
 have P1:aj T (WE e vd) ρ ⟨hh,gg,dd,tt,os⟩ ρ σ ⟨hh.push {cls:=.type "tuple",data:=.seq #[u]},gg,dd,tt,os⟩:=(aj.rH R g1 tt)
 have P2:=aj.turn P1.rel wl (.inl rfl) (ZQ (hh.push {cls:=.type "tuple",data:=.seq #[u]}) e (ZH (·.setIfInBounds 0 (ZG hh.objs.size)))) ⟨_,Bz⟩ tt
 have z:=q _ (vs.setIfInBounds 0 (ZG hh.objs.size)) (P1.trans P2) ⟨Bz,by simp [c8],⟨hh.objs.size,by simp [c8]⟩,by simpa [Array.getElem?_setIfInBounds] using Ie,ef,rfl⟩
 wp_walk
 exact z
end
section
theorem uN.ext {e:Nj} (x:uN T ρ s e od vs fs) (P:aj T W ρ s am aa s') (R:bc T ρ σ s.heap) (wl:d4 W ρ) (we:¬W e) (wd:∀d,od=js d->¬W d):uN T am s' e od vs fs:=by
 obtain ⟨he,c8,CU,Ie,ef,hd⟩:=x
 refine ag (P.ext.own R ef we he) λsl e1 k1=> ?_
 simp only [k1 (of_decide_eq_true rfl)] at e1
 refine ⟨e1,c8,CU,Ie,P.ext.aX ef,?_⟩
 clear k1 e1 ef Ie CU c8 he we
 cases od with
 | none=>exact hd
 | some d=>
  refine nS hd λes nn gd df lq fr=>ag (P.ext.own R df (wd d rfl) gd) λsl e2 k2=> ?_
  rw [k2 (of_decide_eq_true rfl)] at e2
  exact qb es nn e2 (P.ext.aX df) lq (fr.ext P.ext R.aF wl)
theorem uN.tok {e:Nj} (x:uN T ρ s e od vs fs) (t:Nat):uN T ρ {s with toks:=t} e od vs fs:=⟨x.at_,x.size,x.v0,x.v1,x.ef,x.dict⟩
set_option tactic.hygienic true in
theorem kQ {Q':Unit->FF->Prop} (R:bc T ρ σ s.heap) (E:d8 ρ s.heap env m) (hk:env.kindOf y=js .local)
  (k:∀h' tk,aj T (WF env) ρ s ρ σ {s with heap:=h',toks:=tk}->d8 ρ h' env (λz=>if z=y then js u else m z)->Q' () {s with heap:=h',toks:=tk}):IQ (Hj T.prog T.w) A (ai5 env y u) Q' E' s:=by
 refine zV hk E.kind E.ns λh' hn hs hc=> ?_
 obtain ⟨o0,e0⟩:∃o,s.heap.get? env.locals=js o:=mE E.ns λo _ _ e _=>⟨o,e⟩
 haveI P:=aj.turn R E.n8 (.inl rfl) hs (ag (hc o0 e0) λo' e' _=>⟨o',e'⟩) (s.toks+1)
 refine k _ _ P ⟨E.kind,E.globals,E.builtins,hn,E.lp,?_,λy c jC=> ?_,E.apart,E.has⟩
 ·exact bZ E.fr λL e hp f=>dH L e hp (f.turn hs hn hc)
 ·obtain ⟨hp,ne,v,hv⟩:=E.cells y c jC
  exact ⟨hp,ne,v,hv.sameBut hs ne⟩
def zk (T:Cx) (n:Nat) (g:vi) (k:V->List (Nat×V)):Prop:=
 ∀⦃ρ σ s A outer e vs va ua⦄ ⦃Q' E':vi->FF->Prop⦄,bc T ρ σ s.heap->I3 n ρ s.heap A outer->uN T ρ s e vd vs []->aq ρ s.heap va ua->
  (∀am s' DX ql,aj T (WE e vd) ρ s am σ s'->uN T am s' e DX ql (k va)->(∀d,DX=js d->s.heap.get? d=vd)->Q' .none s')->IQ (Hj T.prog T.w) A (call g [.ref e,ua]) Q' E' s
theorem Df (C:jr T bm cd) (hm:an5 T.K T.cR (.type "ValueError")=js vk):zk T n (.builtin "ValueError.__init__") (λo_=> []):=λρ σ s A outer e vs va ua Q' E' R o_ x o_ q=>
 De C hm R x λh' ql P x'=>q _ _ vd ql P x' λo_ h=>aI h
theorem pc {xs xx sa:Nat} {B:Zu} {a:Xq} {g vB:vi} {kB:V->List (Nat×V)} {arg:V->V} (C:jr T bm cd)
  (F:lM T f sc [.Expr (.Call (.Attribute (.Name B p1) "__init__" p2) [.Name (T.nm xs) p3,a] [] p4) p5,.Assign [.Attribute (.Name (T.nm xs) p6) (T.nm sa) p7] (.Name (T.nm xx) p8) p9] [xs,xx] dv qual om) (NQ:dv.length<=1) (lq:xx ≠ xs)
  (k1:sc.names.lookup (T.nm xs)=js .local) (k2:sc.names.lookup (T.nm xx)=js .local) (Vh:sc.names.lookup B=js .globalImplicit) (hB:T.names.lookup B=js vB) (dB:(B==("__debug__":Zu))=Fk) (d1:(T.nm xs==("__debug__":Zu))=Fk) (d2:(T.nm xx==("__debug__":Zu))=Fk)
  (hl:(p2.endLine==p4.line)=vk) (SI:ay a=vk)
  (Bx:∀{A s pl} {Q:vi×List vi->FF->Prop} {E:vi->FF->Prop},T.K.In s.heap->Q (g,[]) {s with toks:=s.toks+1}->IQ (Hj T.prog T.w) A (getMethod vB "__init__" pl) Q E s)
  (aw0:av1 T.K g=vk∨∃id,g=.builtin id) (hI:zk T n g kB)
  (QJ:∀{env ρ σ s A en L va} {Q' E':vi->FF->Prop},env.scope=sc->dm T n ρ σ s A env en L->en xx=js va->(∀u tk,aq ρ s.heap (arg va) u->Q' u {s with toks:=tk})->IQ (Hj T.prog T.w) A (ac2 a env) Q' E' s)
  (ht:ak8 T.K T.cR (T.nm sa)=js vd) (hz:∀v,(kB v).length<=50):
  zk T (n+1) (.ref (T.sI f)) (λva=>gB sa va (kB (arg va))):=by
 intro ρ σ s A outer e vs va ua Q' E' hR hA hx hv kq
 refine ae6 (po F hR (Y1 [_,_,_] [] (.t V0 V1) (.l (.a (.a V0 (.m 5 (.a V2 (.n 1)))) (.n 10)) V1) hA.lB rfl) (by simp) (af0 _) λenv c9 s1 L ds P0 E0 pR o_ o_ sg pS ap4 o_ o_ E=> ?_)
 have ka:env.kindOf (T.nm xs)=js .local:=by unfold ab2; exact pR▸k1
 have kb:env.kindOf (T.nm xx)=js .local:=by unfold ab2; exact pR▸k2
 haveI kc:env.kindOf B=js .globalImplicit:=by unfold ab2; exact pR▸Vh
 refine nameQ λFk iv=>(?_:IQ _ _ (forIn [(T.nm xs,ZG e),(T.nm xx,ua)] aa6 _) _ _ _)
 rw [ZZ]
 refine j' (j' (kQ P0.rel E0 ka λh2 JP P1 E1=>yd ?_))
 refine (?_:IQ _ _ (forIn [(T.nm xx,ua)] aa6 _) _ _ _)
 rw [ZZ]
 refine j' (j' (kQ P1.rel E1 kb λh3 FC P2 E2=>yd ?_))
 refine (?_:IQ _ _ (forIn [] aa6 _) _ _ _)
 refine yd ?_
 haveI eP:=P1.trans P2
 refine iv _ _ <| ⟨(P2.rel.ok.lim).keeps P2.rel.base,au0 ?_⟩
 haveI EN:dD T c9 h3 env (En.none.set xx va):=by
  refine az _ E2 (λy v hy=> ?_)
  rw [j6] at hy
  by_cases z:y=xx
  ·obtain rfl:=z.symm
   refine bD (se (if_pos rfl) hy) <| ⟨λo_=>(az ua (if_pos rfl) ?_),λq=>by rw [kb] at q; rcases q with q | q <;> exact nomatch q⟩
   exact (hv.ext P0.ext hR.aF (d4.zero _)).ext eP.ext P0.rel.aF E0.n8
  ·exact fy (if_neg z) hy
 have H:bO T n c9 σ {s1 with heap:=h3,toks:=FC} (A.deeper env) env (En.none.set xx va) L:=by
  refine ⟨P2.rel,hA.hd,(dH outer ?_ ?_ (λe he L' BC w=> ?_)),?_,?_,pS,EN⟩
  ·refine (?_:A.frames.map (env::·)=_)
   refine af hA.fr ?_; rfl
  ·refine au.ext eP.ext P0.rel (λe he L' BC w=> ?_) (au.ext P0.ext hR (λo_ o_ o_ o_ w=>w) hA.sH)
   obtain ⟨o_,L2,Cb,o_,o,o_,o_,g,o_⟩:=hA.sH e he
   rw [BC] at Cb; cases Cb
   rw [ap4 L' w] at g; cases g
  ·obtain ⟨o_,L2,Cb,o_,o,o_,o_,g,o_⟩:=hA.sH e he
   rw [BC] at Cb; cases Cb
   rw [ap4 L' w] at g; cases g
  ·have:=hA.lB; show A.depth+1+5*n+14<=_; exact Y1 [_,_,_] [] (.l (.a (.a (.a V0 (.n 1)) (.m 5 V1)) (.n 14)) V2) (.l (.a (.a V0 (.m 5 (.a V1 (.n 1)))) (.n 10)) V2) this rfl
  ·have:=hA.lO; show A.units+3+60*n+100<=_; exact Y1 [_,_,_] [] (.l (.a (.a (.a V0 (.n 3)) (.m 60 V1)) (.n 100)) V2) (.l (.a (.a V0 (.m 60 (.a V1 (.n 1)))) (.n 60)) V2) this rfl
 have we:¬WF env e:=λw=>fy (ap4 e w) hx.at_
 have x3:uN T c9 {s1 with heap:=h3,toks:=FC} e vd vs []:=(hx.ext P0 hR (d4.zero _) (λw=>w) (λo_ o_ w=>w)).ext eP P0.rel E0.n8 we (λo_ h=>aI h)
 have ms:(λz=>if z=T.nm xx then js ua else if z=T.nm xs then js (ZG e) else vd) (T.nm xs)=js (.ref e):=by
  have:T.nm xs ≠ T.nm xx:=λz=>lq (hR.ok.jS _ _ z).symm
  simp [this]
 have je:([aB9 (T.nm xs) p3,a]:List Xq).all ay=vk:=by simp only [ab0,ab0,SI]; rfl
 refine j' (wpAny_Expr_any ?_ (by unfold interactive; refine af E2.kind ?_; rfl) (j8 rfl _ _))
 refine aa2 (cS H.here kc hB dB ?_) (aR hl je (of_decide_eq_true rfl) rfl)
 refine Bx H.here.rel.K ?_
 have Gv:∀{Q2} {Yo},(∀u tk,aq c9 h3 (arg va) u->Q2 [.ref e,u] {s1 with heap:=h3,toks:=tk})->
   IQ (Hj T.prog T.w) (A.deeper env) (spliced (ah5 p4 (Z' [aB9 (T.nm xs) p3,a] env))) Q2 Yo {s1 with heap:=h3,toks:=FC+1}:=λq=>by
  haveI Ht:dm T n c9 σ {s1 with heap:=h3,toks:=FC+1} (A.deeper env) env (En.none.set xx va) L:=H.here.step ((aj.refl H.rel).tok _)
  refine aa3 (ae5 (ZK E2.kind ka E2.ns ms ?_) d1) (bE rfl)
  refine aa3 (QJ pR Ht (by rw [j6,if_pos rfl]) λu tk ru=> ?_) (bE SI)
  exact ae3 (q u tk ru)
 have LD:∀{Q2} {RM},(∀vf s4 DX ql tk,aj T (WE e vd) c9 {s1 with heap:=h3,toks:=tk} vf σ s4->uN T vf s4 e DX ql (kB (arg va))->(∀d,DX=js d->h3.get? d=vd)->Q2 .none s4)->
   IQ (Hj T.prog T.w) (A.deeper env) (callWith p4 g [] (ah5 p4 (Z' [aB9 (T.nm xs) p3,a] env)) []) Q2 RM {s1 with heap:=h3,toks:=FC+1}:=λ{Q2 RM} q=>by
  refine bV H.here.mK λbh Hp mK o_=> ?_
  have go:∀u tk,aq c9 h3 (arg va) u->IQ (Hj T.prog T.w) (A.deeper env) (call g [.ref e,u]) Q2 RM {s1 with heap:=h3,toks:=tk}:=λu tk ru=>
   hI P2.rel mK (x3.tok tk) ru λvf s4 DX ql P4 x4 hd=>q vf s4 DX ql tk P4 x4 hd
  rcases aw0 with hk | ⟨id,rfl⟩
  ·exact ak5 (by refine af (bv je) ?_; rfl) (at0 hk) (dY je (Gv λu tk ru=>⟨P2.rel.K,go u tk ru⟩))
  ·exact am1 (bv je) (dY je (Gv λu tk ru=>go u tk ru))
 refine LD λvf s4 DX ql tk P4 x4 ND=> ?_
 have ne1:∀b,WF env b->¬WE e vd b:=λb hb w=>by
  rcases w with rfl | w
  ·exact we hb
  ·exact aI w
 have E4:=E2.ext P4.ext P2.rel (ne1 _ (.inl rfl)) (λL hL=>ne1 _ (.inl (by refine bD (se pS hL) ?_; exact sg.symm))) (λy c hc=>ne1 _ (.inr ⟨y,hc⟩))
 refine j' (ad7 (ae5 (ZK E4.kind kb E4.ns (if_pos rfl) ?_) d2) zT rfl)
 refine (?_:IQ _ _ (ah7 (.Attribute (.Name (T.nm xs) p6) (T.nm sa) p7) env ua) _ _ _)
 refine j' (N6 (ae5 (ZK E4.kind ka E4.ns ms ?_) d1))
 refine j' (Zq (j' (N6 (uh C P4.rel x4 ht (((hv.ext P0.ext hR.aF (d4.zero _)).ext eP.ext P0.rel.aF E0.n8).ext P4.ext P2.rel.aF x3.n8) (hz _) λG2 h5 Yx d5 P5 x5 Wn=>al3 ?_))))
 refine yd ?_
 have PA:=(P0.up (W:=WE e vd)).iJ eP λb hb=> .inr (ap4 b hb)
 have PB:=(PA.tok tk).trans P4
 haveI PC:=PB.iJ P5 λb hb=>by
  refine as4 hb (λrfl=> ?_) λhb=> ?_
  ·exact .inl (.inl rfl)
  ·exact .inr (PA.ext.fresh (ND b hb))
 refine kq G2 _ (js d5) ql PC x5 λd hd=>bD (vo hd) ?_
 rcases Wn with h | ⟨o_,h⟩
 ·exact PA.ext.fresh (ND _ h)
 ·exact PB.ext.fresh h
end
section
variable {E:vi->FF->Prop} {g:Array GenState} {d:Drawn} {t:Nat} {os:OsState}
variable {nm q:Zu} {N:Nj} {bs Ob:List vi} {hdct:Bool} {sn:List Zu} {sub:List vi} {ab:Bool} {col:Option Bool} {dd:Option Nj} {k0 k1 k2 k3 k5:Option vi} {newId:String}
theorem yz {x:Sem vi} {Q:aq4->FF->Prop} (ue:bm.contains (.type "BaseException")=vk) (hh:A.handled=vd)
  (h:IQ M A x (λv s₁=>∃e od vs,v=.ref e/\s₁.heap.get? C=js (aa9 nm q C N bs bm hdct sn sub ab col dd k0 k1 k2 k3 k5 newId)/\
   s₁.heap.get? e=js {cls:=.ref C,dict:=od,data:=.fields vs}/\vs[1]? =js .none/\E (.ref e) s₁) E s):
  IQ M A (raiseStmt env (js x) vd) Q E s:=by
 haveI Wt:(ZG C::bm).contains (.type "BaseException")=vk:=by simp only [ac1,ue,am9]
 refine j' (ZJ h (λv s₁ bQ=> ?_) λo_ o_ x=>x)
 refine jj bQ λe od vs q1 hC he hv hE=>af q1 ?_
 repeat (first | with_reducible refine ZR he ?_ | with_reducible refine ZR hC ?_ | (with_reducible refine ad8 hC ?_; refine (Wt.symm▸?_)) | with_reducible refine ab9 he rfl hv ?_ | wp_step)
 exact wpAny_raiseNew_none hh hE
end
structure oo (T:Cx) (n:Nat) (X:Zu):Prop where
 ex:∃(nm q:Zu) (N:Nj) (bs bm:List vi) (hdct:Bool) (sn:List Zu) (sub:List vi) (ab:Bool) (col:Option Bool) (dd:Option Nj) (k0 k1 k2 k3 k5:Option vi),
  T.K.lookup T.cR=js (aa9 nm q T.cR N bs bm hdct sn sub ab col dd k0 k1 k2 k3 k5 "ValueError.__new__")/\sE "ValueError" bm/\bm.contains (.type "BaseException")=vk
 name:T.names.lookup X=js (.ref T.cR)
 PL:∃fI k,Z3 T.K (.ref T.cR) "__init__"=js (js (.ref fI))/\(∃oI,T.K.lookup fI=js oI/\oI.cls=.type "function")/\zk T n (.ref fI) k/\∀v,(k v).lookup T.gJ=js v
section
theorem vw {X:Zu} {x:Xq} {np Rp} (RO:oo T n X) (h:aw T c n env x me) (hk:env.kindOf X=js .globalImplicit) (hd:(X==("__debug__":Zu))=Fk) (hx:ay x=vk):
  dk T c n env (.Raise (js (.Call (.Name X np) [x] [] Rp)) vd pos) (.oK me):=by
 intro ρ σ s A en L Q Xp Q' E' H wp kf kx
 refine ax λG_ ae=> ?_
 obtain ⟨nm,q,N,bs,bm,hdct,sn,sub,ab,col,dd,k0,k1,k2,k3,k5,NZ,BI,ue⟩:=RO.ex
 refine nS RO.PL λfI k Wh y1 hI Sw=>ag y1 λoI VP Wq=>ae ?_
 have je:([x]:List Xq).all ay=vk:=by simp only [ab0,hx]; rfl
 refine j' (Zq (yz (C:=T.cR) (nm:=nm) (q:=q) (N:=N) (bs:=bs) (hdct:=hdct) (sn:=sn) (sub:=sub) (ab:=ab) (col:=col) (dd:=dd) (k0:=k0) (k1:=k1) (k2:=k2) (k3:=k3) (k5:=k5) (newId:= "ValueError.__new__") ue H.hd (j' (ZJ (nameQ λQ1 BB=>ag4 rfl (cS H.here hk RO.name hd ?_)) (λv oB wi=>j' (Zq (yd wi))) λo_ o_ x=>x))))
 refine j' (N6 (dY je (aa3 (h H.here wp (λva ua aU aT s1 P1 r1 w1=>ae3 (j' (Zq ?_))) kx.up) (bE hx))))
 have KX:=P1.rel.K
 have hC:=KX _ _ NZ
 have CN:=H.cU P1
 obtain ⟨hh,gg,Ro,tt,os⟩:=s1
 refine af (bv je) <| wpAny_bind (wpAny_keeperOf_exc hC ?_)
 haveI g1:Grows hh (fS hh T.cR [ua]):=λb o e=>Xr _ (Xr _ e)
 haveI nE:hh.get? (hh.objs.size+1)=vd:=ZD (Nat.le_succ _)
 have gE:(fS hh T.cR [ua]).get? (hh.objs.size+1)=js {cls:=.ref T.cR,data:=.fields #[.ref hh.objs.size,.none,.none,.none,.bool Fk,.none]}:=by unfold fS; heap_get
 obtain ⟨R2,X2⟩:=P1.rel.own g1 (l:=[hh.objs.size+1]) (λa ha=>by simp at ha; subst ha; exact nE) (λa ha=>by simp at ha; subst ha; exact ⟨_,gE⟩)
 haveI P2:aj T W0 aU ⟨hh,gg,Ro,tt,os⟩ (aU.own [hh.objs.size+1]) aT ⟨fS hh T.cR [ua],gg,Ro,tt,os⟩:=⟨R2,X2,rfl,rfl⟩
 have uS:=CN.here.step P2
 refine bV uS.mK λbh outer mK Gp=> ?_
 haveI x2:uN T (aU.own [hh.objs.size+1]) ⟨fS hh T.cR [ua],gg,Ro,tt,os⟩ (hh.objs.size+1) vd #[.ref hh.objs.size,.none,.none,.none,.bool Fk,.none] []:=
  ⟨gE,rfl,⟨_,rfl⟩,rfl,ZC _ (.head _),rfl⟩
 refine j' (BQ aj7 BI hC (λh' k=>af6 (KX.keeps k) Wh) (KX _ _ VP) Wq (at3 _) ?_)
 refine hI R2 ⟨mK.hd,mK.fr,mK.sH,?_,?_⟩ x2 (P2.val P1.rel r1) λsL s3 od vs P3 x3 ND=> ?_
 ·have:=uS.lB; show A.depth+1+5*n+10<=_; exact Y1 [_,_,_] [] (.l (.a (.a (.a V0 (.n 1)) (.m 5 V1)) (.n 10)) V2) (.l (.a (.a V0 (.m 5 V1)) (.n 12)) V2) this rfl
 ·have:=uS.lO; show A.units+1+60*n+60<=_; exact Y1 [_,_,_] [] (.l (.a (.a (.a V0 (.n 1)) (.m 60 V1)) (.n 60)) V2) (.l (.a (.a V0 (.m 60 V1)) (.n 90)) V2) this rfl
 refine ⟨rfl,?_⟩
 refine j' (N6 (wpAny_point (yd ?_)))
 haveI eP:=P1.trans P2
 haveI PT:=(eP.up (W:=WF env)).iJ P3 λb hb=>by
  refine mh hb ?_ λhb=> ?_
  ·exact .inr (P1.ext.fresh nE)
  ·exact aI hb
 refine BB _ _ <| qa _ od vs rfl (P3.rel.K _ _ NZ) x3.at_ x3.v1 <| kx va _ sL aT s3 PT ?_ ?_ w1
 ·refine ag uS.env λm EE o_=>bZ EE.fr λL' e1 hp f=> ?_
  obtain rfl:=se uS.fr e1
  refine f.ext P3.ext R2 hp λw=> ?_
  rcases w with w | w
  ·refine ag CN.env λm1 Yn o_=> ?_
   obtain ⟨L',e1,hp,o1,o_,o_,f1,o_⟩:=Yn.fr
   obtain rfl:=se CN.fr e1
   rw [w,nE] at f1; exact aI f1
  ·exact aI w
 ·cases od with
  | none=>
   have:=Sw va
   replace this:=x3.dict▸this; exact aI this
  | some dx=>
   refine nS x3.dict λes nn gd df lq fr=> ?_
   haveI hf:=fr.find T P3.rel.ok.jS T.gJ
   rw [Sw] at hf
   exact ag hf λu hu ru=>⟨_,dx,_,vs,es,nn,u,{eq:=rfl,at_:=x3.at_,cls:=rfl,dict:=rfl,data:=rfl,size:=x3.size,dat:=gd,has:=hu,rel:=ru,e0:=P1.ext.fresh nE,d0:=eP.ext.fresh (ND _ rfl),ef:=x3.ef,df:=df,de:=lq,tb:=.inl ⟨trivial,x3.v1⟩}⟩
end
section
variable {E:vi->FF->Prop} {K:ac9} {x:Nj} {ox:Obj} {od:Option Obj} {name:Zu} {Q:vi->FF->Prop}
theorem ul {v:vi} (X:K.In s.heap) (I:InstAt s.heap x ox C od) (We:Z3 K (.ref C) "__getattribute__"=js (js (.builtin "BaseException.__getattribute__"))) (hk:Z3 K (.ref C) "__getattr__"=js vd)
  (hm:an5 K C (.type "BaseException")=js vk) (hf:findObj K C od name=js (.value v)) (hh:handedIn v=vk) (h:Q v {s with toks:=s.toks+1}):IQ (Hj prog w) A (getAttr (.ref x) name expr) Q E s:=by
 haveI L0:=I.type (M:=Hj prog w)
 haveI L2:=af6 (M:=Hj prog w) X hk
 haveI t9:builtinKind "BaseException.__getattribute__"=js .slot:=by decide+kernel
 haveI Ii:splitId "BaseException.__getattribute__"=js ("BaseException", "__getattribute__"):=by decide+kernel
 refine j' (wpAny_mkText (N6 (j' (L0 _ _ _ _ (λo_ o_ e=>e) (j' ((af6 X We) _ _ _ _ (λo_ o_ e=>e) ?_))))))
 dsimp only
 rw [show (onTheHeap (ZG C)&& ah0 "BaseException.__getattribute__"==ah0 "object.__getattribute__")=Fk from by rw [show (ah0 "BaseException.__getattribute__"==ah0 "object.__getattribute__")=Fk from by decide+kernel,ap0],if_neg (by decide)]
 refine j' ((looks_hook X (by refine af (if_pos (show onTheHeap (ZG C)=vk from rfl)) ?_; exact hk)) _ _ _ _ (λo_ o_ e=>e) (j' (wpAny_attempt (N6 ?_))))
 unfold callGetattribute
 rw [show (expr && onTheHeap (ah0 "BaseException.__getattribute__"))=Fk from ap0 _,if_neg (by decide)]
 refine j' (yd ?_)
 refine ae6 (ah4 PySem.F.excAttr_ValueError.ga.plain PySem.F.entry_bexc_ga (@check_slot (Hj prog w) _ _ {s with toks:=s.toks+1} "BaseException.__getattribute__" "BaseException" "__getattribute__" (.ref x) [.str name s.toks] [] _ t9 Ii (I.type.andThen (ax7 X hm)) (PySem.F.args_bexc_ga _ _) ?_))
 refine j' (yd (j' (yd (j' (L0 _ _ _ _ (λo_ o_ e=>e) (j' ((looks_find X I hf) _ _ _ _ (λo_ o_ e=>e) ?_)))))))
 refine yd <| (?_:IQ _ _ (handedOut v) _ _ _)
 refine af (handedOut_of hh) ?_; exact yd h
end
structure uR (T:Cx) (c P:Nj):Prop where
 mem:(c,P)∈T.tabs
 one:∀q∈T.tabs,q.2=P->q=(c,P)
 code:CodeHd T.hB c P
 main:∃mg bm ob,T.hB.Ns Zy mg/\mg "__builtins__"=js (.ref bm)/\bm ≠ ZO/\bm ≠ Zy/\T.hB.get? bm=js ob/\ob.cls=.type "module"/\ob.dict=js ZO/\ob.data=.plain
theorem wH {c cv}:∀l,TriplesOk l->ai4 pos (l++ [aa1 pos'.line,aa1 pos'.col,c])=js cv->ai4 pos l=js cv∨cv=c:=by
 intro l h
 fun_induction TriplesOk l with
 | case1=>
  intro e
  dsimp only [an7,ai4,aa1] at e
  split at e
  ·refine af (vo e) ?_; exact .inr rfl
  ·exact aI e
 | case2 a t b u x rest ih=>
  intro e
  simp only [aw8,ai4] at e ⊢
  split at e
  ·rename_i hc; refine af (if_pos hc) ?_; refine af ((vo e).symm) ?_; exact .inl rfl
  ·rename_i hc; refine af (if_neg hc) ?_; exact ih h e
 | case3 l h1 h2=>exact h.elim
section
theorem A5 {body:Xq} (LO:uR T C P) {Fe:List (Zu×Nj)} (R:bc T ρ σ s.heap) (xG:env.code=.ref C) (hg:env.globals=Zy) (hq:T.yg C=env.qual++ "<lambda>")
  (pg:closureFor scope env=pure Fe) (QE:defaultsOf params env=([],[]))
  (k:∀fa h' tk pm cv ctv,aj T W0 ρ s ρ σ {s with heap:=h',toks:=tk}->h'.get? fa=js {cls:=.type "function",data:=.func (kla_fn "<lambda>" (env.qual++ "<lambda>") params body scope Fe pm cv ctv)}->s.heap.get? fa=vd->h'.CodeRec cv (env.qual++ "<lambda>")->Q' (.ref fa) {s with heap:=h',toks:=tk}):
  IQ (Hj T.prog T.w) A (ac2 (.Lambda params body scope pos) env) Q' E' s:=by
 obtain ⟨mg,bm,ob,SN,WD,WB,QI,QH,WA,y1⟩:=LO.main
 refine dP y1 λWz Wx=>bZ (R.tabs _ LO.mem) λps hP ht hc=> ?_
 have Tw:=R.ei P (az _ LO.mem rfl)
 have Wf:Zy ≠ P:=λz=>by refine mE SN λo o_ o_ e o_=> ?_; rw [z,Tw] at e; exact aI e
 have Ww:bm ≠ P:=λz=>by rw [z,Tw] at QH; exact aI QH
 have Tf:=SN.keeps R.base
 have TD:s.heap.BuiltinsAt mg P:=⟨bm,ob,WD,WB,QI,Ww,R.base _ _ QH,WA,Wz,Wx⟩
 have C':=LO.code.keeps R.base
 have QU:∀{h'},ak9 P s.heap h'->(∃o,h'.get? P=js o)->dZ T W0 ρ s.heap ρ h':=λ{h'} hx ho=>
  ⟨(bP ([]) ([]) (by simp) (of_decide_eq_true rfl) (of_decide_eq_true rfl)),λb o e o_ nt o_=>(az o.slots (hx b o (λz=>nt ⟨_,LO.mem,z⟩) e) (λo_=>rfl)),λb o e=>by
   by_cases z:b=P
   ·refine bD z.symm ?_; exact ho
   ·exact ⟨o,hx b o z e⟩⟩
 have LU:∀{h'},ak9 P s.heap h'->∀b,f9 ρ b->h'.get? b=s.heap.get? b:=λ{h'} hx b f=>by
  obtain ⟨o,e,o_⟩:=R.ci f
  simp only [e]; exact hx b o (λz=>R.fj b ⟨_,LO.mem,z⟩ f) e
 refine kla_eval QE ?_
 cases hf:ai4 pos ps.toList with
 | none=>
  refine kla_makeFunction pg hg Tf xG C' hP ht hf Wf TD λc' ctv h' tk hx NJ iT Bv Lb=> ?_
  generalize xD:kla_obj "<lambda>" (env.qual++ "<lambda>") params body scope Fe ((mg "__name__").getD .none) c' ctv=fo
  revert fo; refine qJ ?_; set_option tactic.hygienic false in intros
  haveI g2:=Grows.push h' fo
  haveI eF:(h'.push fo).get? h'.objs.size=js fo:=Q1 _ (by refine bD xD ?_; rfl)
  have Ib:=λb o hb e=>g2 _ _ (hx b o hb e)
  have La:=g2 _ _ Lb
  haveI Gq:=ZD (Nat.le_of_lt (Nat.lt_of_le_of_lt NJ iT))
  have Gl:=EQ Bv λc2 oc vs t e1 e2 e3 e4=>tU c2 oc vs t e1 (g2 _ _ e2) e3 e4
  have VC:iD T ρ.p (h'.push fo):=λq NB=>by
   by_cases hz:q.2=P
   ·have VJ:=LO.one q NB hz
    subst VJ
    refine dH _ La ?_ (λpos' cv e=> ?_)
    ·simp only [ai1]; exact TriplesOk_snoc _ _ _ _ ht
    ·rw [ai1] at e
     rcases wH _ ht e with e | rfl
     ·refine ax λG_ ae=> ?_
      obtain ⟨⟨c2,oc,vs,t,e1,e2,e3,e4⟩,nm⟩:=hc pos' cv e
      refine ae <| ⟨(tU c2 oc vs t e1 (Ib c2 oc (λz=> ?_) e2) e3 e4),nm⟩
      obtain rfl:=z.symm
      obtain rfl:=se hP e2
      cases e3
      exact ap6 ht _ _ (by simpa using e4)
     ·refine ⟨by simp only [hq]; exact Gl,λc2 Iz hp=> ?_⟩
      cases Iz
      obtain ⟨o_,o_,o_,o,eo⟩:=R.aX _ hp
      exact absurd NJ (Nat.not_le.mpr (ZU eo))
   ·obtain ⟨UL,QP,VE,jC⟩:=R.tabs q NB
    refine dH UL (Ib _ _ hz QP) VE (λpos' cv e=> ?_)
    obtain ⟨⟨c2,oc,vs,t,e1,e2,e3,e4⟩,nm⟩:=jC pos' cv e
    refine ⟨(tU c2 oc vs t e1 (Ib c2 oc (λz=> ?_) e2) e3 e4),nm⟩
    obtain rfl:=z.symm
    obtain rfl:=se hP e2
    cases e3
    exact ap6 ht _ _ (by simpa using e4)
  have X:=QU Ib ⟨_,La⟩
  refine k h'.objs.size _ tk ((mg "__name__").getD .none) (.ref c') ctv ⟨R.sV X (d4.zero _) (LU Ib) VC,X,rfl,rfl⟩ (xD▸eF) Gq Gl
 | some cv=>
  refine kla_makeFunctionHit pg hg Tf xG C' hP ht hf TD λctv h' tk hx NJ=> ?_
  generalize xD:({cls:=.type "function",data:=.func (kla_fn "<lambda>" (env.qual++ "<lambda>") params body scope Fe ((mg "__name__").getD .none) cv ctv)}:Obj)=fo
  revert fo; refine qJ ?_; set_option tactic.hygienic false in intros
  haveI g2:Grows s.heap (h'.push fo):=λb o e=>Xr _ (hx b o e)
  haveI eF:(h'.push fo).get? h'.objs.size=js fo:=Q1 _ (by refine bD xD ?_; rfl)
  haveI Gq:=ZD NJ
  refine ax λG_ ae=> ?_
  obtain ⟨⟨c2,oc,vs,t,e1,e2,e3,e4⟩,nm⟩:=hc pos cv hf
  exact ae <| k h'.objs.size _ tk ((mg "__name__").getD .none) cv ctv (aj.rH R g2 tk) (xD.symm▸eF) Gq (tU c2 oc vs t e1 (g2 _ _ e2) e3 (hq▸e4))
end
structure Fq (T:Cx) (env:Env) (scope:ai7):Prop where
 kind:scope.kind=.function
 co:scope.isCoroutine=Fk
 gen:scope.isGenerator=Fk
 names:∀x∈scope.names,scope.names.lookup x.1=js x.2
 free:∀y,(y,YL)∈scope.names->env.kindOf y=js .cell∨env.kindOf y=js .free
 nonF:∀x∈scope.names,x.2 ≠ .cell/\x.2 ≠ .local
theorem jX:∀(names:List (Zu×Z2)) (k:Nat),(∀x∈names,x.2 ≠ .cell)->Zx k names []=[]
 | []=>λo_ o_=>rfl
 | (y,kd)::r=>λk h=>by
  unfold Zx
  exact af (if_neg (by simpa using h _ (.head _))) <| jX r k λx hx=>h x (.tail _ hx)
section
theorem A6 {body:Xq} {l:List Env} (S:Fq T env bF) (hb:∀eH,eH.scope=bF->aw T c n eH body me)
  (hp:bindArgs (kla_fn nm qual params body bF (gM env.cells bF.names []) pm cv ctv) ⟨[],[]⟩=pure [])
  (hR:bc T ρ σ s.heap) (hE:dD T ρ s.heap env en) (hd:A.handled=vd) (hf:A.frames=js l) (hF:au ρ s.heap l) (lB:A.depth+5*n+13<=aa5) (lO:A.units+60*n+93<=an6)
  (ho:s.heap.get? fa=js {cls:=.type "function",data:=.func (kla_fn nm qual params body bF (gM env.cells bF.names []) pm cv ctv)}) (Bv:s.heap.CodeRec cv qual)
  (wp:ba c me Q X en σ) (kq:∀v u am aa s',aj T W0 ρ s am aa s'->aq am s'.heap v u->Q v aa->R (.ok (.ret u)) s')
  (kx:∀th e am aa s',aj T W0 ρ s am aa s'->CI T s.heap am s'.heap e th->X th aa->R (.error e) s'):
  Z0 (Hj T.prog T.w) A (.call (.ref fa) ⟨[],[]⟩) R s:=by
 refine kla_callFunE (Y1 [_,_,_] [] (.t V0 V1) (.l (.a (.a V0 (.m 5 V2)) (.n 13)) V1) lB rfl) ho rfl S.co S.gen rfl Bv ?_
 simp only [hp]
 refine yd (qA λeH kC=> ?_)
 haveI Io:=λx hx=>(S.nonF x hx).1
 haveI L0:=laid s.heap (ob:={cls:=.type "frame",data:=.dict #[]}) rfl bF.names
 generalize YT:ap9 (s.heap.push {cls:=.type "frame",data:=.dict #[]}) bF.names=h1 at L0
 revert h1; refine qJ ?_; set_option tactic.hygienic false in intros
 have P0:aj T W0 ρ s (ρ.own (bb s.heap.objs.size bF.names)) σ {s with heap:=h1}:=L0.own hR
 haveI sg:eH.locals=s.heap.objs.size:=by refine af kC ?_; rfl
 have pS:eH.frame=js s.heap.objs.size:=by refine af kC ?_; rfl
 have pR:eH.scope=bF:=by refine af kC ?_; rfl
 have vc:eH.cells=Zx (s.heap.objs.size+1) bF.names []++gM env.cells bF.names []:=by simp only [kC]; exact fE _ _ _
 refine ag (id hE) λm0 E er=> ?_
 haveI free:=λy hy=>E.has y (S.free y hy)
 have zB:∀y c,(gM env.cells bF.names []).lookup y=js c->(y,YL)∈bF.names/\env.cells.lookup y=js c:=λy c hc=>by
  rcases lE _ _ _ y c (mem_of_lookup hc) with z | ⟨z,e⟩
  ·cases z
  ·obtain ⟨c',jC⟩:=free y z
   rw [jC] at e
   exact ⟨z,by refine af e ?_; exact jC⟩
 have A8:∀y k,eH.kindOf y=js k->bF.names.lookup y=js k:=λy k hk=>by
  unfold ab2 at hk
  rwa [pR] at hk
 have E1:d8 (ρ.own (bb s.heap.objs.size bF.names)) h1 eH (λo_=>vd):=
  L0.BV (R:=hR) rfl (pR▸S.kind) (by refine af kC ?_; rfl) (by refine af kC ?_; rfl) sg vc (λy c hc=>by
    obtain ⟨o_,jC⟩:=zB y c hc
    obtain ⟨hp,o_,v,hv⟩:=E.cells y c jC
    exact ⟨hp,v,hv⟩) (λy z c h1 h2=>E.apart y z c (zB y c h1).2 (zB z c h2).2)
   ⟨_,pS,ZC _ (.head _),_,#[],0,L0.loc,rfl,rfl⟩ (λy hy=>by
    rcases hy with hy | hy
    ·exact .inl (mem_of_lookup (A8 y _ hy))
    ·exact dJ (jl env.cells bF.names [] y (mem_of_lookup (A8 y _ hy))) λc hc=>dJ (dg hc) λc' jC=> .inr ⟨c',jC⟩)
 refine ag (dD.ext P0.ext hR hE) λm1 JE Q9=> ?_
 have Rb:dD T (ρ.own (bb s.heap.objs.size bF.names)) h1 eH en:=by
  refine az _ E1 (λz v hz=>⟨λhk=> ?_,λhk=> ?_⟩)
  ·exact absurd rfl (S.nonF _ (mem_of_lookup (A8 _ _ hk))).2
  ·haveI Go:(T.nm z,YL)∈bF.names:=by
    rcases hk with hk | hk
    ·exact absurd rfl (S.nonF _ (mem_of_lookup (A8 _ _ hk))).1
    ·exact mem_of_lookup (A8 _ _ hk)
   refine ax λG_ ae=>bp ((Q9 z v hz).2 (S.free _ Go)) λc0 u QG BA rv=>dJ (E1.has _ hk) λc1 Jm=> ?_
   have:c1=c0:=by
    rw [vc,jX _ _ Io,an7] at Jm
    have:=(zB _ _ Jm).2
    rw [QG] at this; exact (vo this).symm
   subst this
   exact ae <| bP c1 u Jm BA rv
 refine yd ⟨(P0.rel.ok.lim).keeps P0.rel.base,kla_codeExpr ?_⟩
 have ff:au (ρ.own (bb s.heap.objs.size bF.names)) h1 (eH::l):=λe he=>by
  refine mh (Zr.mp he) ?_ λhe=> ?_
  ·exact ⟨by refine af E1.kind ?_; simp,E1.fr⟩
  ·exact (au.ext P0.ext hR (λo_ o_ o_ o_ w=>w) hF) e he
 have MR:(A.deeper eH).frames=js (eH::l):=by show A.frames.map (eH::·)=_; refine af hf ?_; rfl
 haveI H:dm T n (ρ.own (bb s.heap.objs.size bF.names)) σ {s with heap:=h1} (A.deeper eH) eH en s.heap.objs.size:=by
  refine ⟨P0.rel,(dh eH l ⟨hd,MR,ff,?_,?_⟩ pS),?_,?_,pS,Rb⟩
  ·show A.depth+1+5*n+10<=_; exact Y1 [_,_,_] [] (.l (.a (.a (.a V0 (.n 1)) (.m 5 V1)) (.n 10)) V2) (.l (.a (.a V0 (.m 5 V1)) (.n 13)) V2) lB rfl
  ·show A.units+3+60*n+60<=_; exact Y1 [_,_,_] [] (.l (.a (.a (.a V0 (.n 3)) (.m 60 V1)) (.n 60)) V2) (.l (.a (.a V0 (.m 60 V1)) (.n 93)) V2) lO rfl
  ·show A.depth+1+5*n+12<=_; exact Y1 [_,_,_] [] (.l (.a (.a (.a V0 (.n 1)) (.m 5 V1)) (.n 12)) V2) (.l (.a (.a V0 (.m 5 V1)) (.n 13)) V2) lB rfl
  ·show A.units+3+60*n+90<=_; exact Y1 [_,_,_] [] (.l (.a (.a (.a V0 (.n 3)) (.m 60 V1)) (.n 90)) V2) (.l (.a (.a V0 (.m 60 V1)) (.n 93)) V2) lO rfl
 refine hb eH pR H wp (λv u am aa s' P r q=>kq v u am aa s' (P0.trans P) r q) (λth e am aa s' P fa x q=> ?_)
 haveI Fl:CO T (A.deeper eH) (eH::l) s.heap.objs.size {s with heap:=h1}:=⟨MR,(dh eH l rfl pS),λb hb=>by
  refine ax λG_ ae=> ?_
  obtain ⟨o_,o,o_,o_,g,o_⟩:=ff.mem hb
  exact ae <| ⟨o,g⟩⟩
 exact mW P x Fl pS (ff.ext P.ext P0.rel (λo_ o_ o_ o_ w=>w)) λvf h4 P4 f4 x4=>kx th e _ _ _ (P0.trans P4) (x4.later λb z=>P0.ext.fresh z) q
end
structure xW (T:Cx) (cd:al6):Prop where
 cls:au7 T.K T.cR=js cd
 dict:cd.hasDict=vk
 ga:Z3 T.K (.ref T.cR) "__getattribute__"=js (js (.builtin "BaseException.__getattribute__"))
 QW:Z3 T.K (.ref T.cR) "__getattr__"=js vd
 base:an5 T.K T.cR (.type "BaseException")=js vk
 wS:Z3 T.K (.ref T.cR) (T.nm T.gJ)=js vd
section
theorem yV {x:vi} (rx:aq ρ h v x):handedIn x=vk:=by
 cases v with
 | none=>refine af rx ?_; rfl
 | bool b=>refine af rx ?_; rfl
 | int b=>refine jI rx λt=> ?_; rfl
 | str b=>refine rn rx λt=> ?_; rfl
 | tup l=>refine mE rx λa xs n q1 o_=> ?_; refine af q1 ?_; rfl
 | lst l=>refine mE rx λa xs n q2 o_=> ?_; refine af q2 ?_; rfl
 | iy=>refine bV rx λa n q3 o_=> ?_; refine af q3 ?_; rfl
 | ref n=>refine ag rx λp o_ q4=> ?_; refine af q4 ?_; rfl
theorem rj {Q:vi->FF->Prop} (hb:cP value=vk)
  (h:IQ (Hj prog w) A (ac2 value env) (λo s₁=>IQ (Hj prog w) A (getAttr o attr vk) Q E s₁) E s):IQ (Hj prog w) A (ac2 (.Attribute value attr pos) env) Q E s:=by
 refine Attribute_any_ h <| (?_:(do let o<-al1 value attr env (ac2 value env); _)=_)
 rw [cZ hb]
theorem Fx (XR:xW T cd) (R:bc T ρ σ s.heap) (x:kI T h₀ ρ s.heap raw fl e' th)
  (q:∀u tk,aq ρ s.heap th u->Q' u {s with toks:=tk}):IQ (Hj T.prog T.w) A (getAttr e' (T.nm T.gJ) expr) Q' E' s:=by
 refine ax λG_ ae=> ?_
 obtain ⟨e,d,oe,vs,es,nn,u,X⟩:=x
 refine ae <| af X.eq <| ul R.K (⟨X.at_,X.cls,by unfold notCls; rw [X.data],by exact X.dict▸X.dat⟩:InstAt s.heap e oe T.cR (js (ad4 es nn))) XR.ga XR.QW XR.base ?_ (yV X.rel) (q u _ X.rel)
 unfold findObj
 rw [XR.wS,XR.cls]
 dsimp only [Option.bind_some]
 unfold PySem.W.ownOf
 refine af (if_pos XR.dict) ?_
 dsimp only [ax5]
 refine af X.has ?_
 rfl
theorem wr (XR:xW T cd) {ow ms:V} {a b:Zu} {err:Zu} {OO ON:Pos}
  (R:bc T ρ σ s.heap) (x:kI T h₀ ρ s.heap raw fl e' th) (E:d8 ρ s.heap env m) (hk:env.kindOf err=js .local) (he:m err=js e') (hd:(err==("__debug__":Zu))=Fk)
  (f1:fld σ th cF=js ow) (f2:fld σ ow nName=js (.str a)) (f3:fld σ th bl=js ms) (f4:fld σ ms dO=js (.str b)) (hz:a.length+b.length<=900)
  (q:∀t tk,Q' (.str (a++ ": "++b) t) {s with toks:=tk}):
  IQ (Hj T.prog T.w) A (ac2 (.BinOp (.BinOp (.Attribute (.Attribute (.Attribute (.Name err p1) (T.nm T.gJ) p2) (T.nm cF) p3) (T.nm nName) p4) .Add (.Constant (.str (oC ": ")) kk p5) p6) .Add (.Attribute (.Attribute (.Attribute (.Name err p7) (T.nm T.gJ) p8) (T.nm bl) p9) (T.nm dO) OO) ON) env) Q' E' s:=by
 refine ax3 (ax3 (rj rfl (rj rfl (rj rfl (ae5 (ZK E.kind hk E.ns he ?_) hd)))))
 refine Fx XR R x λu1 t1 r1=>jy (s:={s with toks:=t1}) R r1 f1 λu2 t2 r2=>jy (s:={s with toks:=t2}) R r2 f2 λu3 t3 r3=> ?_
 obtain ⟨ta,q2⟩:=r3
 obtain rfl:=q2.symm
 refine Constant_str <| PyProof.Rows.add_str (λt4 RY=> ?_) (by simp only [Zs]; show a.length+2<=_; exact Y1 [_,_] [] (.l (.a V0 (.n 2)) (.n 16777216)) (.l (.a V0 V1) (.n 900)) hz rfl)
 refine rj rfl (rj rfl (rj rfl (ae5 (ZK E.kind hk E.ns he ?_) hd)))
 refine Fx (s:={s with toks:=RY}) XR R x λu5 t5 r5=>jy (s:={s with toks:=t5}) R r5 f3 λu6 t6 r6=>jy (s:={s with toks:=t6}) R r6 f4 λu7 t7 r7=>dJ r7 λtb q1=> ?_
 clear r7 r6 u6 r5 t5 u5 RY q2 ta t3 r2 t2 u2 r1 t1
 subst q1
 refine ao6 (λt8 Us=>q t8 Us) ?_
 have:(a++(": ":Zu)).length=a.length+2:=by
  show (a.cps++_).size=a.cps.size+2
  refine af au5 ?_; rfl
 simp only [Zs,this]; exact Y1 [_,_] [] (.l (.a (.a V0 (.n 2)) V1) (.n 16777216)) (.l (.a V0 V1) (.n 900)) hz rfl
def ou (T:Cx) (ex:Xq) (xerr cF nName bl dO:Nat):Prop:=∀{ρ:aO} {σ:St} {s:FF} {env:Env} {A:ae4} {h₀:Z4} {raw:Prop} {fl:vi->Prop} {e':vi} {th ow ms:V} {a b:Zu} {m:Zu->Option vi} {Q' E':vi->FF->Prop},
 bc T ρ σ s.heap->kI T h₀ ρ s.heap raw fl e' th->d8 ρ s.heap env m->env.kindOf (T.nm xerr)=js .local->m (T.nm xerr)=js e'->fld σ th cF=js ow->fld σ ow nName=js (.str a)->fld σ th bl=js ms->fld σ ms dO=js (.str b)->a.length+b.length<=900->
 (∀t tk,Q' (.str (a++ ": "++b) t) {s with toks:=tk})->IQ (Hj T.prog T.w) A (ac2 ex env) Q' E' s
theorem EC (XR:xW T cd) {OO ON:Pos} (hd:(T.nm xerr==("__debug__":Zu))=Fk):ou T (.BinOp (.BinOp (.Attribute (.Attribute (.Attribute (.Name (T.nm xerr) p1) (T.nm T.gJ) p2) (T.nm cF) p3) (T.nm nName) p4) .Add (.Constant (.str (oC ": ")) kk p5) p6) .Add (.Attribute (.Attribute (.Attribute (.Name (T.nm xerr) p7) (T.nm T.gJ) p8) (T.nm bl) p9) (T.nm dO) OO) ON) xerr cF nName bl dO:=
 λR x E hk he f1 f2 f3 f4 hz q=>wr XR R x E hk he hd f1 f2 f3 f4 hz q
end
section
theorem kI.ext (x:kI T h₀ ρ s.heap raw fl e' th) (P:aj T W ρ s am aa s') (R:bc T ρ σ s.heap) (wl:d4 W ρ) (al:∀b,W b->∃o,h₀.get? b=js o):kI T h₀ am s'.heap raw fl e' th:=by
 refine ax λG_ ae=> ?_
 obtain ⟨e,d,oe,vs,es,nn,u,X⟩:=x
 refine ae ?_
 haveI nw:∀b,h₀.get? b=vd->¬W b:=λb hb w=>by obtain ⟨o,q⟩:=al b w; exact fy hb q
 have own:∀b o,b∈ρ.p->h₀.get? b=vd->s.heap.get? b=js o->o.cls ≠ cG->s'.heap.get? b=js o:=λb o hb h0 g hc=>by
  refine ag (P.ext.own R hb (nw b h0) g) λsl e1 k1=> ?_
  rw [k1 hc] at e1; exact e1
 refine ⟨e,d,oe,vs,es,nn,u,{X with at_:=own _ _ X.ef X.e0 X.at_ (by refine af X.cls ?_; simp [cG]),dat:=own _ _ X.df X.d0 X.dat (of_decide_eq_true rfl),rel:=X.rel.ext P.ext R.aF wl,ef:=P.ext.aX X.ef,df:=P.ext.aX X.df,tb:=?_}⟩
 rcases X.tb with q | ⟨t,ot,ts,h1,n1,t0,tp,gt,dt,ct,r⟩
 ·exact .inl q
 ·exact .inr ⟨t,ot,ts,h1,n1,t0,P.ext.aX tp,own _ _ tp t0 gt (by refine af ct ?_; simp [cG]),dt,ct,r⟩
theorem yU {e:vi} {r:ad3} {Q:aq4->FF->Prop} {n} (VS:e ≠ byPass)
  (h:IQ (Hj prog w) (A.mark (js e)) (ac2 t env) (λc s₁=>IQ (Hj prog w) (A.mark (js e)) (excMatches e c) (λb jG=>b=vk/\IQ (Hj prog w) (A.mark (js e)) (aw1 e vd) (λo_ oB=>IQ (Hj prog w) (A.mark (js e)) (ai5 env n e) (λo_ vn=>
   IQ (Hj prog w) (A.mark (js e)) (execs [r] env) (λf zQ=>IQ (Hj prog w) A (do bindName env n .none; unbindBehindTheSuite env n p) (λo_ Oy=>Q f Oy) (λo_ o_=>False) zQ) (λo_ o_=>False) vn) (λo_ o_=>False) oB) (λo_ o_=>False) jG) (λo_ o_=>False) s₁) (λo_ o_=>False) s):
  IQ (Hj prog w) A (handleBy e env [.ExceptHandler (js t) (js n) [r] p]) Q E s:=by
 refine wpAny_handleBy_cons (codeAny_handlers_test (I8 (ZJ h (λc s₁ bQ=>I8 (ZJ bQ (λb jG nL=> ?_) λo_ o_ h=>h)) λo_ o_ h=>h))) VS
 obtain ⟨rfl,nL⟩:=nL
 exact codeAny_handlers_suite_as (I8 (ZJ nL (λo_ oB wi=>I8 (ZJ wi (λo_ vn Ia=>ZJ Ia (λf zQ PU=>I8 PU) λo_ o_ h=>h.elim) λo_ o_ h=>h)) λo_ o_ h=>h))
theorem Iy {nO nN nM nT:Nat} {P:Zu->Zu->Prop} (q:eO (fld σ th nO) λow=>eO (fld σ ow nN) λnm=>eO (fld σ th nM) λms=>eO (fld σ ms nT) λtx=>uX nm λa=>uX tx λb=>P a b)
  (k:∀ow ms a b,fld σ th nO=js ow->fld σ ow nN=js (.str a)->fld σ th nM=js ms->fld σ ms nT=js (.str b)->P a b->G):G:=bI q λow g1 q=>bI q λnm g2 q=>bI q λms g3 q=>bI q λtx g4 q=>qw q λa e1 q=>qw q λb e2 q=>k ow ms a b g1 (e1▸g2) g3 (e2▸g4) q
theorem wq {j7:Nat} {Xn:Zu} {ex:Xq} {q4 q5 q6:Pos} {Qm:V->St->Prop} {Q:aq4->FF->Prop} {E:vi->FF->Prop} {e:vi}
  (kb:env.kindOf (T.nm xerr)=js .local) (kc:env.kindOf Xn=js .globalImplicit) (hX:T.names.lookup Xn=js (.ref T.cR)) (dX:(Xn==("__debug__":Zu))=Fk)
  (hb:∀G:Prop,(∀(nm q:Zu) (N:Nj) (bs bm:List vi) (hdct:Bool) (sn:List Zu) (sub:List vi) (ab:Bool) (col:Option Bool) (dd:Option Nj) (k0 k1 k2 k3 k5:Option vi),
   T.K.lookup T.cR=js (aa9 nm q T.cR N bs bm hdct sn sub ab col dd k0 k1 k2 k3 k5 "ValueError.__new__")->bm.contains (.type "BaseException")=vk->G)->G)
  (hE:ou T ex xerr cF nName bl dO) (R:bc T ρ σ s.heap) (Fl:CO T A (env::outer) L s) (pS:env.frame=js L) (ff:au ρ s.heap (env::outer)) (E1:d8 ρ s.heap env (λz=>if z=T.nm j7 then js (ZG fa) else vd))
  (P:aj T W0 ρ s am aa s') (x:CI T s.heap am s'.heap e th)
  (qx:eO (fld aa th cF) λow=>eO (fld aa ow nName) λnm=>eO (fld aa th bl) λms=>eO (fld aa ms dO) λtx=>uX nm λa=>uX tx λb=>a.length+b.length<=900/\Qm (.str (a++ ": "++b)) aa)
  (k:∀v t vf s4,aj T (WF env) ρ s vf aa s4->Qm (.str v) aa->Q (.ret (.str v t)) s4):
  IQ (Hj T.prog T.w) A (ai6 e env) (λo_ jG=>IQ (Hj T.prog T.w) A (aw1 e vd) (λo_ oB=>IQ (Hj T.prog T.w) A (handleBy e env [.ExceptHandler (js (.Name Xn q4)) (js (T.nm xerr)) [.Return (js ex) q5] q6]) Q E oB) E jG) E s':=by
 refine hb _ λnm q N bs bm hdct sn sub ab col dd YR YQ YP YO YN NZ ue=>lw P (x.mono (λh=>h.elim) λo_ o_=>trivial) Fl pS (ff.ext P.ext R (λo_ o_ o_ o_ w=>w)) λvf h4 P4 f4 x4=>nameQ λFk iv=>fQ P4 x4 f4 Fl.al λh5 P5 f5 x5=> ?_
 haveI X4:∀b,WF env b->∃o,s.heap.get? b=js o:=λb hb=>by
  obtain ⟨o_,o_,o_,o,g⟩:=R.aX b (E1.n8 b hb)
  exact ⟨o,g⟩
 refine ax λG_ ae=> ?_
 obtain ⟨ea,d,oe,vs,es,nn,u,X5⟩:=id x5
 refine ae ?_
 haveI eq:=X5.eq
 subst eq
 haveI E5:=E1.ext P5.ext R (λw=>w) (λo_ o_ w=>w) (λo_ o_ o_ w=>w)
 refine iv _ _ <| yU (by intro q; cases q) (ao9 E5.kind kc (P5.rel.ok.glob Xn _ hX P5.rel.base E5.globals E5.builtins ?_) dX)
 refine wpAny_excMatches_sub_self (P5.rel.K _ _ NZ) X5.at_ X5.cls ue ⟨rfl,?_⟩
 refine fQ (s:={s' with heap:=h5}) P5 x5 f5 Fl.al λh6 P6 f6 x6=> ?_
 haveI E6:=E1.ext P6.ext R (λw=>w) (λo_ o_ w=>w) (λo_ o_ o_ w=>w)
 refine kQ P6.rel E6 kb λh7 Ut P7 E7=>Iy qx λow ms a b g1 g2 g3 g4 w=>j' (al0 (hE (s:={s' with heap:=h7,toks:=Ut}) P7.rel (x6.ext P7 P6.rel E6.n8 X4) E7 kb (if_pos rfl) g1 g2 g3 g4 w.1 λt tk=> ?_))
 refine yd <| wpAny_nameGoes kb E7.ns (by refine af E7.kind ?_; rfl) λh8 m8 VU VH=> ?_
 haveI PB:=P6.up.trans P7
 exact k _ t vf _ (PB.trans (aj.turn PB.rel E7.n8 (.inl rfl) VH (mE VU λo o_ o_ e o_=>⟨o,e⟩) (tk+1))) w.2
theorem wt {fH j7:Nat} {Xn:Zu} {ex:Xq} {q1 q2 q3 q4 q5 q6 q7:Pos}
  (F:lM T fH sc [.Try [.Return (js (.Call (.Name (T.nm j7) q1) [] [] q2)) q3] [.ExceptHandler (js (.Name Xn q4)) (js (T.nm xerr)) [.Return (js ex) q5] q6] [] [] q7] [j7] [] qual om)
  (k1:sc.names.lookup (T.nm j7)=js .local) (k2:sc.names.lookup (T.nm xerr)=js .local) (k3:sc.names.lookup Xn=js .globalImplicit) (hX:T.names.lookup Xn=js (.ref T.cR)) (dX:(Xn==("__debug__":Zu))=Fk) (d1:(T.nm j7==("__debug__":Zu))=Fk)
  (hb:∀G:Prop,(∀(nm q:Zu) (N:Nj) (bs bm:List vi) (hdct:Bool) (sn:List Zu) (sub:List vi) (ab:Bool) (col:Option Bool) (dd:Option Nj) (k0 k1 k2 k3 k5:Option vi),
   T.K.lookup T.cR=js (aa9 nm q T.cR N bs bm hdct sn sub ab col dd k0 k1 k2 k3 k5 "ValueError.__new__")->bm.contains (.type "BaseException")=vk->G)->G)
  (hE:ou T ex xerr cF nName bl dO) (hR:bc T ρ σ s.heap) (hd:A.handled=vd) (hf:A.frames=js outer) (hF:au ρ s.heap outer) (lB:A.depth+5*n+14<=aa5) (lO:A.units+60*n+96<=an6)
  (Gq:∃oc od fd sl,s.heap.get? fa=js ⟨oc,od,.func fd,sl⟩/\oc ≠ .none/\oc ≠ cG) (Wi:ρ.jJ fa)
  (Qd:∀aU s1 (A1:ae4) l1 (R1:Result->FF->Prop),aj T W0 ρ s aU σ s1->A1.handled=vd->A1.frames=js l1->au aU s1.heap l1->A1.depth+5*n+13<=aa5->A1.units+60*n+93<=an6->
   (∀v u am aa s',aj T W0 aU s1 am aa s'->aq am s'.heap v u->Q v aa->R1 (.ok (.ret u)) s')->
   (∀th e am aa s',aj T W0 aU s1 am aa s'->CI T s1.heap am s'.heap e th->(eO (fld aa th cF) λow=>eO (fld aa ow nName) λnm=>eO (fld aa th bl) λms=>eO (fld aa ms dO) λtx=>
    uX nm λa=>uX tx λb=>a.length+b.length<=900/\Q (.str (a++ ": "++b)) aa)->R1 (.error e) s')->Z0 (Hj T.prog T.w) A1 (.call (.ref fa) ⟨[],[]⟩) R1 s1)
  (kq:∀v u am aa s',aj T W0 ρ s am aa s'->aq am s'.heap v u->Q v aa->R (.ok (.ret u)) s'):
  Z0 (Hj T.prog T.w) A (.call (.ref (T.sI fH)) ⟨[.ref fa],[]⟩) R s:=by
 refine po F hR (Y1 [_,_,_] [] (.t V0 V1) (.l (.a (.a V0 (.m 5 V2)) (.n 14)) V1) lB rfl) (at3 _) (af0 _) λenv c9 s1 L ds P0 E0 pR o_ o_ sg pS ap4 o_ o_ E=> ?_
 have ka:env.kindOf (T.nm j7)=js .local:=by unfold ab2; exact pR▸k1
 have kb:env.kindOf (T.nm xerr)=js .local:=by unfold ab2; exact pR▸k2
 have kc:env.kindOf Xn=js .globalImplicit:=by unfold ab2; exact pR▸k3
 refine (?_:IQ _ _ (forIn [(T.nm j7,ZG fa)] aa6 _) _ _ _)
 simp only [ZZ]
 refine j' (j' (kQ P0.rel E0 ka λh2 JP P1 E1=>yd ?_))
 refine (?_:IQ _ _ (forIn [] aa6 _) _ _ _)
 refine yd ⟨(P1.rel.ok.lim).keeps P1.rel.base,au0 ?_⟩
 have PA:aj T W0 ρ s c9 σ {s1 with heap:=h2,toks:=JP}:=P0.iJ P1 λb hb=> .inr (ap4 b hb)
 generalize Ij:({s1 with heap:=h2,toks:=JP}:FF)=s2 at*
 have JE:d8 c9 s2.heap env (λz=>if z=T.nm j7 then js (ZG fa) else vd):=Ij▸E1
 have MR:(A.deeper env).frames=js (env::outer):=by show A.frames.map (env::·)=_; refine af hf ?_; rfl
 have ff:au c9 s2.heap (env::outer):=λe he=>by
  refine mh (Zr.mp he) ?_ λhe=> ?_
  ·exact ⟨by refine af JE.kind ?_; simp,JE.fr⟩
  ·exact (au.ext PA.ext hR (λo_ o_ o_ o_ w=>w) hF) e he
 have Fl:CO T (A.deeper env) (env::outer) L s2:=⟨MR,(dh env outer rfl pS),λb hb=>by
  obtain ⟨o_,o,o_,o_,g,o_⟩:=ff.mem hb
  exact ⟨o,g⟩⟩
 haveI Xa:FnAt fa s2.heap:=by
  obtain ⟨YB,DX,Xd,R5,g,IC,BD⟩:=Gq
  exact ⟨_,_,_,_,(PA.ext.exact hR.aF (d4.zero _) g Wi IC BD)⟩
 refine j' (wpAny_Try_except ?_)
 refine j' (al0 (ag4 rfl (ae5 (ZK JE.kind ka JE.ns (if_pos rfl) ?_) d1)))
 refine callWith_F0 Xa (ae6 ?_)
 refine Qd _ s2 (A.deeper env) (env::outer) _ PA hd MR ff (by show A.depth+1+5*n+13<=_; exact Y1 [_,_,_] [] (.l (.a (.a (.a V0 (.n 1)) (.m 5 V1)) (.n 13)) V2) (.l (.a (.a V0 (.m 5 V1)) (.n 14)) V2) lB rfl) (by show A.units+3+60*n+93<=_; exact Y1 [_,_,_] [] (.l (.a (.a (.a V0 (.n 3)) (.m 60 V1)) (.n 93)) V2) (.l (.a (.a V0 (.m 60 V1)) (.n 96)) V2) lO rfl) (λv u am aa s' P r qv=> ?_) (λth e am aa s' P x qx=> ?_)
 ·exact yd (yd (kq v u am aa s' (PA.trans P) r qv))
 ·exact wq kb kc hX dX hb hE PA.rel Fl pS ff JE P x qx λv t vf s4 P4 w6=>yd (kq (.str v) _ vf aa _ (PA.iJ P4 λb hb=> .inr (ap4 b hb)) ⟨t,rfl⟩ w6)
end
noncomputable abbrev k8:Arguments:=⟨[],[],vd,[],[],vd,[]⟩
theorem yL {body:Xq} {cl:List (Zu×Nj)}:bindArgs (kla_fn nm qual k8 body scope cl pm cv ctv) ⟨[],[]⟩=pure []:=by rfl
section
theorem uD (R:bc T ρ σ s.heap) (P:aj T W0 ρ s am aa s') (h:s.heap.CodeRec cv q):s'.heap.CodeRec cv q:=by
 refine EQ h λc2 oc vs t e1 e2 e3 e4=> ?_
 obtain ⟨sl,e5,o_⟩:=P.ext.keep c2 oc e2 (λf=>by
  refine bZ (R.ci f) λo g o_ k=> ?_
  obtain rfl:=se g e2
  exact k vs e3) (λ⟨p,hp,z⟩=>by
  refine bZ (R.tabs p hp) λps hP ht o_=> ?_
  subst z
  obtain rfl:=se hP e2
  clear hP hp e2 h P R
  cases e3
  exact ap6 ht _ _ (by simpa using e4)) (λw=>w)
 exact tU c2 _ vs t e1 e5 e3 e4
structure jF (T:Cx) (c:Cc) (Hn:Zu):Prop where
 ex:∀G:Prop,(∀(fH j7 xerr:Nat) (sc:ai7) (Xn:Zu) (ex:Xq) (q1 q2 q3 q4 q5 q6 q7:Pos) (qual:Zu) (om:vi),
  lM T fH sc [.Try [.Return (js (.Call (.Name (T.nm j7) q1) [] [] q2)) q3] [.ExceptHandler (js (.Name Xn q4)) (js (T.nm xerr)) [.Return (js ex) q5] q6] [] [] q7] [j7] [] qual om->
  sc.names.lookup (T.nm j7)=js .local->sc.names.lookup (T.nm xerr)=js .local->sc.names.lookup Xn=js .globalImplicit->T.names.lookup Xn=js (.ref T.cR)->(Xn==("__debug__":Zu))=Fk->(T.nm j7==("__debug__":Zu))=Fk->
  ou T ex xerr c.cF c.nName c.bl c.dO->T.isFn fH=vk->T.names.lookup Hn=js (.ref (T.sI fH))->G)->G
 cls:∀G:Prop,(∀(nm q:Zu) (N:Nj) (bs bm:List vi) (hdct:Bool) (sn:List Zu) (sub:List vi) (ab:Bool) (col:Option Bool) (dd:Option Nj) (k0 k1 k2 k3 k5:Option vi),
   T.K.lookup T.cR=js (aa9 nm q T.cR N bs bm hdct sn sub ab col dd k0 k1 k2 k3 k5 "ValueError.__new__")->bm.contains (.type "BaseException")=vk->G)->G
theorem ro {P:Nj} {Hn:Zu} {bF:ai7} {body:Xq} {Ke:Pos} (HO:jF T c Hn) (LO:uR T C P) (S:Fq T env bF) (hb:∀eH,eH.scope=bF->aw T c n eH body me)
  (xG:env.code=.ref C) (hq:T.yg C=env.qual++ "<lambda>") (V8:env.kindOf Hn=js .globalImplicit) (Wm:(Hn==("__debug__":Zu))=Fk) (hy:T.nm x=y) (hk:env.kindOf y=js .local∨env.kindOf y=js .cell):
  dk T c n env (.Assign [.Name y p] (.Call (.Name Hn p') [.Lambda k8 body bF Ke] [] pos') pos) (.asg x (.cV me)):=by
 intro ρ σ s A en L Q X Q' E' H wp kf kx
 change ba c me (yN x Q en) (oZ c (yN x Q en)) en σ at wp
 refine HO.ex _ λfH j7 xerr sc Xn ex q1 q2 q3 q4 q5 q6 q7 qual om F k1 k2 k3 hX dX d1 WL xF VT=> ?_
 haveI je:([.Lambda k8 body bF Ke]:List Xq).all ay=vk:=rfl
 refine ag (id H.env) λm E er=> ?_
 have free:=λy hy=>E.has y (S.free y hy)
 refine ad7 (ag4 rfl (cS H.here V8 VT Wm ?_)) (fJ rfl _ _) rfl
 refine ak5 (by refine af (bv je) ?_; rfl) (at0 (H.rel.ok.keep _ xF)) (dY je (aa3 (A5 LO H.rel xG E.globals hq (dr free) rfl λfa h' tk pm cv ctv P1 Gq QA Bv=> ?_) (bE rfl)))
 refine ae3 ⟨P1.rel.K,?_⟩
 haveI H1:=H.cU P1
 refine bZ H1.out λouter e1 ff o_=>ag (id H1.env) λm1 E1 o_=> ?_
 haveI Xc:au ρ h' (env::outer):=λe he=>by
  refine mh (Zr.mp he) ?_ λhe=> ?_
  ·exact ⟨by refine af E1.kind ?_; simp,E1.fr⟩
  ·exact ff e he
 have Lx:=H.rel.pi QA
 refine ae6 (wt (Q:=λv σ=>Q .next (en.set x v) σ) F k1 k2 k3 hX dX d1 HO.cls WL P1.rel H1.hd e1 Xc (H1.lB) (Y1 [_,_,_] [] (.l (.a (.a V0 (.m 60 V1)) (.n 96)) V2) (.l (.a (.a V0 (.m 60 V1)) (.n 100)) V2) H1.lO rfl) ⟨_,_,_,_,Gq,(by simp),(by simp [cG])⟩ Lx (λaU s1 A1 l1 R1 P2 hd2 QC WK Rn Oo U8 U6=> ?_) (λv u am aa s' P3 rv qv=> ?_))
 ·refine A6 (nm:= "<lambda>") (pm:=pm) (ctv:=ctv) S hb yL P2.rel (H1.env.ext P2.ext P1.rel) hd2 QC WK Rn Oo ?_ (uD P1.rel P2 Bv) wp U8 U6
  exact P2.ext.exact P1.rel.aF (d4.zero _) Gq Lx (by simp) (by simp [cG])
 ·have CK:=P1.trans P3
  exact iX (c:=c) hy hk (H.cU CK) rv qv (λaH am aa s' P e q=>kf .next .next _ _ _ _ (CK.up.trans P) e rfl q) (kx.step CK.up)
end
structure nx where
 nm:Nat->Zu
 fn:Nat->Option Nat
 cls:Nat->Option Nat
 qY:Nat->Option Nat
 Eg:Nat->Option Nat
 glob:Nat->Option Nat
 hn:Zu
 xn:Zu
structure cJ (N:nx) (T:Cx) (c:Cc):Prop where
 nm:∀x,T.nm x=N.nm x
 fn:∀f x,N.fn f=js x->T.names.lookup (N.nm x)=js (.ref (T.sI f))/\T.isFn f=vk
 cls:∀f x,N.cls f=js x->T.names.lookup (N.nm x)=js (.ref (T.cY f))/\T.gX f=vk
 qY:∀f x,N.qY f=js x->T.names.lookup (N.nm x)=js (.ref (T.mX f))/\T.pa f=vk
 Eg:∀f x,N.Eg f=js x->∃kv,T.names.lookup (N.nm x)=js kv/\T.kinds.lookup f=js kv
 glob:∀k x v,N.glob k=js x->c.glob k=js v->∃val,T.names.lookup (N.nm x)=js val/\∀(ρ:aO) (h:Z4),(∀b o,T.hB.get? b=js o->h.get? b=js o)->(∀b o,T.hB.get? b=js o->ρ.jJ b)->aq ρ h v val
 inj:∀a b,N.nm a=N.nm b->a=b
 qZ:∀x,(N.nm x==("__debug__":Zu))=Fk/\(N.nm x==("__classdict__":Zu))=Fk
 dot:∀x,(N.nm x==(".0":Zu))=Fk
 bi:∀z∈["len", "max", "min", "abs", "repr", "isinstance"],T.names.lookup (oC z)=js (.builtin z)
 ty:∀z∈["str", "int", "list", "range"],T.names.lookup (oC z)=js (.type z)
 iS:(N.hn==("__debug__":Zu))=Fk
 RU:(N.xn==("__debug__":Zu))=Fk
theorem bc.EI (R:bc T ρ σ h) b o (e:T.hB.get? b=js o):ρ.jJ b:=
 ⟨λf=>(fy (R.fN b f) e),λm=>fy ((R.aX b m).2.1) e⟩
section
theorem Af {N:nx} (O:cJ N T c) (hx:N.glob k=js x) (hk:env.kindOf (N.nm x)=js .globalImplicit):aw T c n env (.Name (N.nm x) pos) (.glob k):=by
 intro ρ σ s A en L Q X Q' E' H wp kq kx
 exact ag (gh.mp (wp:kh (c.glob k) Q σ)) λv hv wp=>ag (O.glob k x v hx hv) λval h1 h2=>cS H hk h1 (O.qZ x).1 (kq _ _ _ _ _ (.refl H.rel) (h2 ρ s.heap H.rel.base λb o e=>H.rel.EI b o e) wp)
end
abbrev Ks:=List (Zu×Z2)
theorem oe {a:Bool} (h:(a || b)=vk):a=vk∨b=vk:=by
 cases a with
 | true=>exact .inl rfl
 | false=>exact .inr h
theorem bq {a:α} [BEq α] [LawfulBEq α] {b:α} (h:(a==b)=vk):a=b:=eq_of_beq h
noncomputable def mA (ks:Ks) (y:Zu):Bool:=ks.lookup y==js .local || ks.lookup y==js .cell
noncomputable def Bh (ks:Ks) (y:Zu):Bool:=ks.lookup y==js .local || (ks.lookup y==js .cell || ks.lookup y==js .free)
noncomputable def kA (ks:Ks) (y:Zu):Bool:=ks.lookup y==js .globalImplicit
theorem xy (h:mA ks y=vk):ks.lookup y=js .local∨ks.lookup y=js .cell:=(oe h).imp bq bq
theorem Bg (h:Bh ks y=vk):ks.lookup y=js .local∨ks.lookup y=js .cell∨ks.lookup y=js .free:=(oe h).imp bq λh=>(oe h).imp bq bq
theorem Ep (h:kA ks y=vk):ks.lookup y=js .globalImplicit:=bq h
theorem an {a:Bool} (h:(a && b)=vk):a=vk/\b=vk:=by
 cases a with
 | true=>exact ⟨rfl,h⟩
 | false=>exact dy h
theorem XZ (h:(a1 &&(a2 && a3))=vk) (k:a1=vk->a2=vk->a3=vk->G):G:=
 k (an h).1 (an (an h).2).1 (an (an h).2).2
theorem XY (h:(a1 &&(a2 &&(a3 && a4)))=vk) (k:a1=vk->a2=vk->a3=vk->a4=vk->G):G:=
 XZ h λh1 h2 q=>k h1 h2 (an q).1 (an q).2
theorem XX (h:(a1 &&(a2 &&(a3 &&(a4 && a5))))=vk) (k:a1=vk->a2=vk->a3=vk->a4=vk->a5=vk->G):G:=
 XY h λh1 h2 h3 q=>k h1 h2 h3 (an q).1 (an q).2
theorem XW (h:(a1 &&(a2 &&(a3 &&(a4 &&(a5 && a6)))))=vk) (k:a1=vk->a2=vk->a3=vk->a4=vk->a5=vk->a6=vk->G):G:=
 XX h λh1 h2 h3 h4 q=>k h1 h2 h3 h4 (an q).1 (an q).2
theorem Uc (h:(a1 &&(a2 &&(a3 &&(a4 &&(a5 &&(a6 && a7))))))=vk) (k:a1=vk->a2=vk->a3=vk->a4=vk->a5=vk->a6=vk->a7=vk->G):G:=
 XW h λh1 h2 h3 h4 h5 q=>k h1 h2 h3 h4 h5 (an q).1 (an q).2
theorem XV (h:(a1 &&(a2 &&(a3 &&(a4 &&(a5 &&(a6 &&(a7 && a8)))))))=vk) (k:a1=vk->a2=vk->a3=vk->a4=vk->a5=vk->a6=vk->a7=vk->a8=vk->G):G:=
 Uc h λh1 h2 h3 h4 h5 h6 q=>k h1 h2 h3 h4 h5 h6 (an q).1 (an q).2
theorem nt {a:Bool} (h:(!a)=vk):a=Fk:=by
 cases a with
 | true=>exact dy h
 | false=>rfl
structure LK where
 kids:List Xq
 kN:Nat
 gens:List ZM
 sc:ai7
 fm:Bool
noncomputable def tP:Xq->LK
 | .BoolOp _ vs _=>⟨vs,0,[],⟨.function,[],Fk,Fk,[]⟩,Fk⟩
 | .BinOp l _ r _=>⟨[l,r],0,[],⟨.function,[],Fk,Fk,[]⟩,Fk⟩
 | .UnaryOp _ x _=>⟨[x],0,[],⟨.function,[],Fk,Fk,[]⟩,Fk⟩
 | .Lambda _ b s _=>⟨[b],0,[],s,Fk⟩
 | .IfExp t a b _=>⟨[t,a,b],0,[],⟨.function,[],Fk,Fk,[]⟩,Fk⟩
 | .Dict ks vs _=>⟨ks.filterMap id++vs,0,[],⟨.function,[],Fk,Fk,[]⟩,Fk⟩
 | .ListComp e g s _=>⟨[e],0,g,s,Fk⟩
 | .Compare l _ r _=>⟨l::r,0,[],⟨.function,[],Fk,Fk,[]⟩,Fk⟩
 | .Call f as _ _=>⟨f::as,0,[],⟨.function,[],Fk,Fk,[]⟩,Fk⟩
 | .FormattedValue v _ _ _=>⟨[v],0,[],⟨.function,[],Fk,Fk,[]⟩,vk⟩
 | .JoinedStr vs _=>⟨vs,0,[],⟨.function,[],Fk,Fk,[]⟩,Fk⟩
 | .Constant _ k _=>⟨[],k,[],⟨.function,[],Fk,Fk,[]⟩,Fk⟩
 | .Attribute v _ _=>⟨[v],0,[],⟨.function,[],Fk,Fk,[]⟩,Fk⟩
 | .Subscript v s _=>⟨[v,s],0,[],⟨.function,[],Fk,Fk,[]⟩,Fk⟩
 | .List es _=>⟨es,0,[],⟨.function,[],Fk,Fk,[]⟩,Fk⟩
 | .Tuple es k _=>⟨es,k,[],⟨.function,[],Fk,Fk,[]⟩,Fk⟩
 | .Slice a b c _=>⟨[a,b,c].filterMap id,0,[],⟨.function,[],Fk,Fk,[]⟩,Fk⟩
 | _=>⟨[],0,[],⟨.function,[],Fk,Fk,[]⟩,Fk⟩
noncomputable def kids (e:Xq):List Xq:=(tP e).kids
noncomputable def kd (e:Xq) (i:Nat):Xq:=(kids e).getD i e
noncomputable def kN (e:Xq):Nat:=(tP e).kN
noncomputable def BJ (e:Xq):List ZM:=(tP e).gens
noncomputable def cH (e:Xq):ai7:=(tP e).sc
noncomputable def tW (e:Xq):Bool:=(tP e).fm
noncomputable def ey:Xq:=.Name "" ⟨0,0,0,0⟩
inductive EV where
 | s (z:String) | i (k:Int) | h (e:Ex) | c (m:Option Nat) (own:List Nat) (gs:fu) (elt:Ex) | o
noncomputable def xK:Ex->EV
 | .str z=> .s z
 | .int k=> .i k
 | .cV e=> .h e
 | .comp m own gs elt=> .c m own gs elt
 | _=> .o
def RP:EV->Ex->Prop
 | .s z=>λe=>e=.str z
 | .i k=>λe=>e=.int k
 | .h x=>λe=>e=.cV x
 | .c m own gs elt=>λe=>e=.comp m own gs elt
 | .o=>λo_=>True
theorem wz e:RP (xK e) e:=by cases e <;> first | exact trivial | exact rfl
noncomputable def tv (ks:Ks) (names:Ks):Ks:=names.map λp=>if p.2==YL && ks.lookup p.1==js ZA then (p.1,ZA) else p
abbrev CT (N:nx) (own:List Nat) (ks:Ks) (scope:ai7):Prop:=
 scope.kind=.function/\(∀p∈scope.names,scope.names.lookup p.1=js p.2)/\(∀p∈scope.names,p.2=.free->ks.lookup p.1=js .cell∨ks.lookup p.1=js .free)/\
 (∀p∈scope.names,p.2=.local∨p.2=.cell->p.1=(".0":Zu)∨∃x∈own,N.nm x=p.1)/\∀x∈own,∀p∈scope.names,¬(p.2=.free/\p.1=N.nm x)
abbrev BE:=Bool×Xq
noncomputable def oU (o:UnaryOp) (e:Xq) (a:BE):BE:=(a.1,.UnaryOp o a.2 e.pos)
noncomputable def io (z:Zu) (ks:Ks) (e:Xq) (a:BE):BE:=(kA ks z &&(ay a.2 && a.1),.Call (.Name z (kd e 0).pos) [a.2] [] e.pos)
noncomputable def oQ (z:Zu) (ks:Ks) (e:Xq) (a b:BE):BE:=(kA ks z &&((ay a.2 && a.1)&&(ay b.2 && b.1)),.Call (.Name z (kd e 0).pos) [a.2,b.2] [] e.pos)
noncomputable def jc (z:Zu) (e:Xq) (a b:BE):BE:=((kd e 0).pos.endLine==e.pos.line &&(ay b.2 &&(cP a.2 &&(a.1 && b.1))),.Call (.Attribute a.2 z (kd e 0).pos) [b.2] [] e.pos)
noncomputable def Ni (z:Zu) (ok:Bool) (ks:Ks) (e:Xq) (l:Bool×List Xq):BE:=(ok &&(kA ks z &&(l.2.all ay && l.1)),.Call (.Name z (kd e 0).pos) l.2 [] e.pos)
noncomputable def ml (ks:Ks) (e:Xq) (mL:Bool) (lo:Ex) (p q:BE):BE:=match mL with
 | true=>(kA ks "range" &&((ay p.2 && p.1)&&(ay q.2 && q.1)),.Call (.Name "range" (kd e 0).pos) [p.2,q.2] [] e.pos)
 | false=>((match xK lo with | .i 0=>vk | _=>Fk)&&(kA ks "range" &&(ay q.2 && q.1)),.Call (.Name "range" (kd e 0).pos) [q.2] [] e.pos)
noncomputable def AU:fu->Bool
 | .nil=>Fk
 | _=>vk
mutual
noncomputable def RE (N:nx):Ex->Ks->Xq->BE
 | .bad=>λo_ e=>(vk,e)
 | .none=>λo_ e=>(vk,.Constant .none (kN e) e.pos)
 | .bool b=>λo_ e=>(vk,.Constant (.bool b) (kN e) e.pos)
 | .int i=>λo_ e=>(vk,.Constant (.int i) (kN e) e.pos)
 | .str s=>λo_ e=>(vk,.Constant (.str (oC s)) (kN e) e.pos)
 | .var x=>λks e=>(Bh ks (N.nm x),.Name (N.nm x) e.pos)
 | .glob k=>λks e=>(N.glob k==js ((N.glob k).getD 0)&& kA ks (N.nm ((N.glob k).getD 0)),.Name (N.nm ((N.glob k).getD 0)) e.pos)
 | .neg a=>λks e=>oU .USub e (RE N a ks (kd e 0))
 | .not a=>λks e=>oU .Not e (RE N a ks (kd e 0))
 | .bin op a b=>λks e=>((RE N a ks (kd e 0)).1 &&(RE N b ks (kd e 1)).1,.BinOp (RE N a ks (kd e 0)).2 (Cy op) (RE N b ks (kd e 1)).2 e.pos)
 | .and es=>λks e=>(!(jM N es ks (kids e)).2.isEmpty &&(jM N es ks (kids e)).1,.BoolOp .And (jM N es ks (kids e)).2 e.pos)
 | .or es=>λks e=>(!(jM N es ks (kids e)).2.isEmpty &&(jM N es ks (kids e)).1,.BoolOp .Or (jM N es ks (kids e)).2 e.pos)
 | .ite t a b=>λks e=>((RE N t ks (kd e 0)).1 &&((RE N a ks (kd e 1)).1 &&(RE N b ks (kd e 2)).1),.IfExp (RE N t ks (kd e 0)).2 (RE N a ks (kd e 1)).2 (RE N b ks (kd e 2)).2 e.pos)
 | .cmp op a b=>λks e=>(!behindInMarks (iC op) (RE N b ks (kd e 1)).2 &&((RE N a ks (kd e 0)).1 &&(RE N b ks (kd e 1)).1),.Compare (RE N a ks (kd e 0)).2 [iC op] [(RE N b ks (kd e 1)).2] e.pos)
 | .nX op tE a b d=>λks e=>(!lastMarks [iC op,iC tE] [(RE N b ks (kd e 1)).2,(RE N d ks (kd e 2)).2]&&((RE N a ks (kd e 0)).1 &&((RE N b ks (kd e 1)).1 &&(RE N d ks (kd e 2)).1)),.Compare (RE N a ks (kd e 0)).2 [iC op,iC tE] [(RE N b ks (kd e 1)).2,(RE N d ks (kd e 2)).2] e.pos)
 | .list _ es=>λks e=>(aq0 (jM N es ks (kids e)).2.length bf &&((jM N es ks (kids e)).2.all ay &&(jM N es ks (kids e)).1),.List (jM N es ks (kids e)).2 e.pos)
 | .tup es=>λks e=>(aq0 (jM N es ks (kids e)).2.length bf &&((jM N es ks (kids e)).2.all ay &&(jM N es ks (kids e)).1),.Tuple (jM N es ks (kids e)).2 (kN e) e.pos)
 | .gm _ _=>λo_ e=>(vk,.Dict [] [] e.pos)
 | .uz _ k v=>λks e=>((RE N k ks (kd e 0)).1 &&(RE N v ks (kd e 1)).1,.Dict [js (RE N k ks (kd e 0)).2] [(RE N v ks (kd e 1)).2] e.pos)
 | .attr a c=>λks e=>(cP (RE N a ks (kd e 0)).2 &&(RE N a ks (kd e 0)).1,.Attribute (RE N a ks (kd e 0)).2 (N.nm c) e.pos)
 | .idx a i=>λks e=>(dc (RE N i ks (kd e 1)).2 &&((RE N a ks (kd e 0)).1 &&(RE N i ks (kd e 1)).1),.Subscript (RE N a ks (kd e 0)).2 (RE N i ks (kd e 1)).2 e.pos)
 | .i6 a i=>λks e=>((RE N a ks (kd e 0)).1 &&(RE N i ks (kd (kd e 1) 0)).1,.Subscript (RE N a ks (kd e 0)).2 (.Slice (js (RE N i ks (kd (kd e 1) 0)).2) vd vd (kd e 1).pos) e.pos)
 | .i5 a i=>λks e=>((RE N a ks (kd e 0)).1 &&(RE N i ks (kd (kd e 1) 0)).1,.Subscript (RE N a ks (kd e 0)).2 (.Slice vd (js (RE N i ks (kd (kd e 1) 0)).2) vd (kd e 1).pos) e.pos)
 | .slice a i d=>λks e=>((RE N a ks (kd e 0)).1 &&((RE N i ks (kd (kd e 1) 0)).1 &&(RE N d ks (kd (kd e 1) 1)).1),.Subscript (RE N a ks (kd e 0)).2 (.Slice (js (RE N i ks (kd (kd e 1) 0)).2) (js (RE N d ks (kd (kd e 1) 1)).2) vd (kd e 1).pos) e.pos)
 | .rev a=>λks e=>((RE N a ks (kd e 0)).1,.Subscript (RE N a ks (kd e 0)).2 (.Slice vd vd (js (.UnaryOp .USub (.Constant (.int 1) (kN (kd (kd (kd e 1) 0) 0)) (kd (kd (kd e 1) 0) 0).pos) (kd (kd e 1) 0).pos)) (kd e 1).pos) e.pos)
 | .call f es=>λks e=>Ni (N.nm ((N.fn f).getD 0)) (N.fn f==js ((N.fn f).getD 0)) ks e (jM N es ks (kids e).tail)
 | .aD a m es=>λks e=>((kd e 0).pos.endLine==e.pos.line &&(Nat.blt (jM N es ks (kids e).tail).2.length 30 &&(cP (RE N a ks (kd (kd e 0) 0)).2 &&((jM N es ks (kids e).tail).2.all ay &&((RE N a ks (kd (kd e 0) 0)).1 &&(jM N es ks (kids e).tail).1)))),
   .Call (.Attribute (RE N a ks (kd (kd e 0) 0)).2 (N.nm m) (kd e 0).pos) (jM N es ks (kids e).tail).2 [] e.pos)
 | .new f es=>λks e=>Ni (N.nm ((N.cls f).getD 0)) (N.cls f==js ((N.cls f).getD 0)) ks e (jM N es ks (kids e).tail)
 | .gL f es=>λks e=>((kd e 0).pos.endLine==e.pos.line &&(Nat.blt (jM N es ks (kids e).tail).2.length 30 &&(N.cls f==js ((N.cls f).getD 0)&&(kA ks (N.nm ((N.cls f).getD 0))&&((jM N es ks (kids e).tail).2.all ay &&(jM N es ks (kids e).tail).1)))),
   .Call (.Attribute (.Name (N.nm ((N.cls f).getD 0)) (kd (kd e 0) 0).pos) "__init__" (kd e 0).pos) (jM N es ks (kids e).tail).2 [] e.pos)
 | .len a=>λks e=>io "len" ks e (RE N a ks (kd e 1))
 | .max2 a b=>λks e=>oQ "max" ks e (RE N a ks (kd e 1)) (RE N b ks (kd e 2))
 | .min2 a b=>λks e=>oQ "min" ks e (RE N a ks (kd e 1)) (RE N b ks (kd e 2))
 | .repr a=>λks e=>io "repr" ks e (RE N a ks (kd e 1))
 | .toStr a=>λks e=>io "str" ks e (RE N a ks (kd e 1))
 | .abs a=>λks e=>io "abs" ks e (RE N a ks (kd e 1))
 | .toInt a=>λks e=>io "int" ks e (RE N a ks (kd e 1))
 | .copy _ a=>λks e=>io "list" ks e (RE N a ks (kd e 1))
 | .keys a=>λks e=>io "list" ks e (RE N a ks (kd e 1))
 | .bt a k=>λks e=>oQ "isinstance" ks e (RE N a ks (kd e 1)) (N.Eg k==js ((N.Eg k).getD 0)&& kA ks (N.nm ((N.Eg k).getD 0)),.Name (N.nm ((N.Eg k).getD 0)) (kd e 2).pos)
 | .append a b=>λks e=>jc "append" e (RE N a ks (kd (kd e 0) 0)) (RE N b ks (kd e 1))
 | .extend a b=>λks e=>jc "extend" e (RE N a ks (kd (kd e 0) 0)) (RE N b ks (kd e 1))
 | .pop a=>λks e=>((kd e 0).pos.endLine==e.pos.line &&(cP (RE N a ks (kd (kd e 0) 0)).2 &&(RE N a ks (kd (kd e 0) 0)).1),.Call (.Attribute (RE N a ks (kd (kd e 0) 0)).2 "pop" (kd e 0).pos) [] [] e.pos)
 | .yA a b=>λks e=>((jc "pop" e (RE N a ks (kd (kd e 0) 0)) (RE N b ks (kd e 1))).1,.Call (.Attribute (RE N a ks (kd (kd e 0) 0)).2 "pop" (kd e 0).pos) [(RE N b ks (kd e 1)).2,.Constant .none (kN (kd e 2)) (kd e 2).pos] [] e.pos)
 | .BG a b=>λks e=>jc "get" e (RE N a ks (kd (kd e 0) 0)) (RE N b ks (kd e 1))
 | .BH a b=>λks e=>jc "get" e (RE N a ks (kd (kd e 0) 0)) (RE N b ks (kd e 1))
 | .index a b=>λks e=>jc "index" e (RE N a ks (kd (kd e 0) 0)) (RE N b ks (kd e 1))
 | .f' g b=>λks e=>(N.qY g==js ((N.qY g).getD 0)&&(kA ks (N.nm ((N.qY g).getD 0))&&(dc (RE N b ks (kd e 1)).2 &&(RE N b ks (kd e 1)).1)),.Subscript (.Name (N.nm ((N.qY g).getD 0)) (kd e 0).pos) (RE N b ks (kd e 1)).2 e.pos)
 | .fq g b=>λks e=>(N.qY g==js ((N.qY g).getD 0)&&(kA ks (N.nm ((N.qY g).getD 0))&&(ay (RE N b ks (kd e 1)).2 &&((RE N b ks (kd e 1)).1 &&(kd e 0).pos.endLine==e.pos.line))),
   .Call (.Attribute (.Name (N.nm ((N.qY g).getD 0)) (kd (kd e 0) 0).pos) "get" (kd e 0).pos) [(RE N b ks (kd e 1)).2,.Tuple [] (kN (kd e 2)) (kd e 2).pos] [] e.pos)
 | .cV _=>λo_ e=>(Fk,e)
 | .qe es=>λks e=>(aq0 2 (C5 N es ks (kids e)).2.length &&(C5 N es ks (kids e)).1,.JoinedStr (C5 N es ks (kids e)).2 e.pos)
 | .comp _ own gs elt=>λks e=>(decide (CT N own ks (cH e))&&(AU gs &&((RG N gs ks (tv ks (cH e).names) own (BJ e)).1 &&(RE N elt (tv ks (cH e).names) (kd e 0)).1)),
   .ListComp (RE N elt (tv ks (cH e).names) (kd e 0)).2 (RG N gs ks (tv ks (cH e).names) own (BJ e)).2 (cH e) e.pos)
noncomputable def jM (N:nx):gR->Ks->List Xq->Bool×List Xq
 | .nil=>λo_ o_=>(vk,[])
 | .cons m ms=>λks l=>((RE N m ks (l.headD ey)).1 &&(jM N ms ks l.tail).1,(RE N m ks (l.headD ey)).2::(jM N ms ks l.tail).2)
noncomputable def C5 (N:nx):gR->Ks->List Xq->Bool×List Xq
 | .nil=>λo_ o_=>(vk,[])
 | .cons m ms=>λks l=>(bif tW (l.headD ey) then (RE N m ks (kd (l.headD ey) 0)).1 &&(C5 N ms ks l.tail).1 else (match xK m with | .s _=>vk | _=>Fk)&&(C5 N ms ks l.tail).1,
   (bif tW (l.headD ey) then .FormattedValue (RE N m ks (kd (l.headD ey) 0)).2 (-1) vd (l.headD ey).pos else .Constant (.str (match xK m with | .s z=>oC z | _=> "")) (kN (l.headD ey)) (l.headD ey).pos)::(C5 N ms ks l.tail).2)
noncomputable def RG (N:nx):fu->Ks->Ks->List Nat->List ZM->Bool×List ZM
 | .nil=>λo_ o_ o_ o_=>(vk,[])
 | .each x src ifs rest=>λk0 ks own l=>(own.contains x &&(mA ks (N.nm x)&&(!(lU rest).contains x &&((lU rest).all own.contains &&((jM N ifs ks (l.headD ⟨ey,ey,[],0⟩).ifs).1 &&((RG N rest ks ks own l.tail).1 &&(ip (RE N src k0 (l.headD ⟨ey,ey,[],0⟩).iter).2 &&(RE N src k0 (l.headD ⟨ey,ey,[],0⟩).iter).1)))))),
   ⟨.Name (N.nm x) (l.headD ⟨ey,ey,[],0⟩).target.pos,(RE N src k0 (l.headD ⟨ey,ey,[],0⟩).iter).2,(jM N ifs ks (l.headD ⟨ey,ey,[],0⟩).ifs).2,0⟩::(RG N rest ks ks own l.tail).2)
 | .rB x lo hi mL ifs rest=>λk0 ks own l=>(own.contains x &&(mA ks (N.nm x)&&(!(lU rest).contains x &&((lU rest).all own.contains &&((jM N ifs ks (l.headD ⟨ey,ey,[],0⟩).ifs).1 &&((RG N rest ks ks own l.tail).1 &&(ml k0 (l.headD ⟨ey,ey,[],0⟩).iter mL lo (RE N lo k0 (kd (l.headD ⟨ey,ey,[],0⟩).iter 1)) (RE N hi k0 (kd (l.headD ⟨ey,ey,[],0⟩).iter (bif mL then 2 else 1)))).1))))),
   ⟨.Name (N.nm x) (l.headD ⟨ey,ey,[],0⟩).target.pos,(ml k0 (l.headD ⟨ey,ey,[],0⟩).iter mL lo (RE N lo k0 (kd (l.headD ⟨ey,ey,[],0⟩).iter 1)) (RE N hi k0 (kd (l.headD ⟨ey,ey,[],0⟩).iter (bif mL then 2 else 1)))).2,(jM N ifs ks (l.headD ⟨ey,ey,[],0⟩).ifs).2,0⟩::(RG N rest ks ks own l.tail).2)
end
theorem Sl {k:Z2} (hk:env.scope.names=ks) (h:ks.lookup y=js k):env.kindOf y=js k:=by subst hk; exact h
theorem Kf (hk:env.scope.names=ks) (h:Bh ks y=vk):env.kindOf y=js .local∨env.kindOf y=js .cell∨env.kindOf y=js .free:=by subst hk; exact Bg h
theorem nA (hk:env.scope.names=ks) (h:mA ks y=vk):env.kindOf y=js .local∨env.kindOf y=js .cell:=by subst hk; exact xy h
theorem EH (hk:env.scope.names=ks) (h:kA ks y=vk):env.kindOf y=js .globalImplicit:=Sl hk (Ep h)
section
variable {N:nx}
theorem qW:∀{es} {cy},jt T c n env es cy->es.all ay=vk->bN T c n env es cy
 | [],.nil,_,_=>j9
 | e::es,.cons m ms,h,hs=>iZ h.1 (qW h.2.2 (an hs).2) (bE (an hs).1)
 | [],.cons _ _,h,_=>h.elim
 | _::_,.nil,h,_=>h.elim
theorem mB:∀{es} {cy},jt T c n env es cy->gP T c n env es cy
 | [],.nil,_=>trivial
 | e::es,.cons m ms,h=>⟨h.2.1,mB h.2.2⟩
 | [],.cons _ _,h=>h.elim
 | _::_,.nil,h=>h.elim
theorem gN {v:vi} (O:cJ N T c) (hk:env.scope.names=ks) (h:kA ks y=vk) (hv:T.names.lookup y=js v) (hd:(y==("__debug__":Zu))=Fk) (hs:es.all ay=vk):ce T env y v es:=⟨EH hk h,hv,hd,hs⟩
theorem Jr {m:Ex} (h:aw T c n env e m) (hs:ay e=vk):bN T c n env [e] (.cons m .nil):=iZ h j9 (bE hs)
theorem zu {e':Xq} {m:Ex} (h:aw T c n env e m) (hs:ay e=vk) (h':aw T c n env e' m') (tY:ay e'=vk):bN T c n env [e,e'] (.cons m (.cons m' .nil)):=iZ h (Jr h' tY) (bE hs)
theorem Nk (h:ay e=vk): [e].all ay=vk:=by show (ay e && vk)=vk; refine af h ?_; rfl
theorem J8 {e':Xq} (h:ay e=vk) (h':ay e'=vk): [e,e'].all ay=vk:=by show (ay e &&(ay e' && vk))=vk; rw [h,h']; rfl
def CL (T:Cx) (c:Cc) (n:Nat) (ks:Ks) (e:Xq) (me:Ex):Prop:=∀env:Env,env.scope.kind=.function->env.scope.names=ks->aw T c n env e me/\iR T c n env e me
def MW (T:Cx) (c:Cc) (n:Nat) (ks:Ks) (e:List Xq) (me:gR):Prop:=∀env:Env,env.scope.kind=.function->env.scope.names=ks->jt T c n env e me
def RF (T:Cx) (c:Cc) (n:Nat) (ks:Ks) (e:List Xq) (me:gR):Prop:=∀env:Env,env.scope.kind=.function->env.scope.names=ks->rh T c n env e me
def Yi (T:Cx) (c:Cc) (n:Nat) (ks:Ks) (own:List Nat) (gl:List ZM) (mg:fu):Prop:=
 ∀(el:Xq) (bo:Ex) (ah:Env) (D:Nj) (gens:List ZM) (scope:ai7) (pos:Pos) (d:Nat),ah.scope.kind=.function->ah.scope.names=ks->gens.drop d=gl->aw T c n ah el bo->nY T c n ah D own el gens scope pos bo d mg
def RD (T:Cx) (c:Cc) (n:Nat) (k0 ks:Ks) (own:List Nat) (gens:List ZM) (mg:fu):Prop:=
 ∀(el:Xq) (bo:Ex) (env:Env) (scope:ai7) (pos:Pos) (m:Option Nat),env.scope.kind=.function->env.scope.names=k0->pP T env scope own->(Z9 scope env).kind=.function->(Z9 scope env).names=ks->
  (∀ah:Env,ah.scope.kind=.function->ah.scope.names=ks->aw T c n ah el bo)->wJ T c n env el gens scope pos (.comp m own mg bo)
theorem ki (h:∀env:Env,env.scope.kind=.function->env.scope.names=ks->aw T c n env e me) (he:∀env,aq9 e env (ac2 e env)=(do let v<-ac2 e env; am5 e.pos; am6 [v] (truthy v))):CL T c n ks e me:=λenv hf hk=>⟨h env hf hk,zW (h env hf hk) (he env)⟩
theorem hM {α:Type} {l:List α} {a:α} {r:List α} (h:l.drop d=a::r):l[d]? =js a/\l.drop (d+1)=r:=by
 haveI h1:(l.drop d)[0]? =js a:=by refine af h ?_; rfl
 rw [ac0] at h1
 refine ⟨h1,?_⟩
 rw [<-aA4,h]; rfl
theorem Cf {α:Type} {l:List α} (h:l.drop d=[]):l[d]? =vd:=by
 haveI h1:(l.drop d)[0]? =vd:=by refine af h ?_; rfl
 rw [ac0] at h1
 exact h1
theorem uC (O:cJ N T c) (h:CT N own ks scope) (hf:env.scope.kind=.function) (hk:env.scope.names=ks):pP T env scope own/\(Z9 scope env).kind=.function/\(Z9 scope env).names=tv ks scope.names:=by
 subst hk
 have T':∀x,x∉own->∀k,k=NameKind.local∨k=ZA->scope.names.lookup (T.nm x) ≠ js k:=λx hx k t9 e=>by
  rw [O.nm] at e
  rcases h.2.2.2.1 _ (mem_of_lookup e) t9 with q | ⟨y,hy,q⟩
  ·exact TU (((O.dot x).symm.trans (congrArg (·==(".0":Zu)) q)).trans (beq_self_eq_true _))
  ·exact hx (O.inj _ _ q▸hy)
 refine cW ⟨h.1,h.2.1,λy hy=>h.2.2.1 _ hy rfl,λx hx=>⟨T' x hx _ (.inl rfl),T' x hx _ (.inr rfl)⟩,λx hx hm=>h.2.2.2.2 x hx _ hm ⟨rfl,O.nm x⟩⟩ h.1 <| List.map_congr_left λp hp=>(?_:(if (p.2==YL && env.scope.kind==aj8 && env.kindOf p.1==js ZA)=vk then (p.1,ZA) else (p.1,p.2))=_)
 simp only [hf,show (aj8==aj8)=vk from rfl,Bool.and_true]
 rfl
theorem Mb (hz:aq0 2 es.length=vk) (h:rh T c n env es ms):aw T c n env (.JoinedStr es pos) (.qe ms):=by
 rcases es with _ | ⟨a,_ | ⟨b,es⟩⟩
 ·cases hz
 ·cases hz
 ·exact Ai h
theorem pC {a:BE} {m:Ex} {v:vi} (O:cJ N T c) (h:(io z ks e a).1=vk) (hv:T.names.lookup z=js v) (hd:(z==("__debug__":Zu))=Fk) (ih:a.1=vk->CL T c n ks a.2 m)
  (s:∀env es p pos,ce T env z v es->bN T c n env es (.cons m .nil)->aw T c n env (.Call (.Name z p) es [] pos) me):CL T c n ks (io z ks e a).2 me:=by
 have h2:=(an h).2
 exact ki (λenv hf hk=>s _ _ _ _ (gN O hk (an h).1 hv hd (Nk (an h2).1)) (Jr (ih (an h2).2 env hf hk).1 (an h2).1)) λo_=>rfl
theorem GN {a:BE} {m:Ex} {v:vi} (O:cJ N T c) (h:(oQ z ks e a b).1=vk) (hv:T.names.lookup z=js v) (hd:(z==("__debug__":Zu))=Fk) (ih:a.1=vk->CL T c n ks a.2 m) (PN:b.1=vk->CL T c n ks b.2 m')
  (s:∀env es p pos,ce T env z v es->bN T c n env es (.cons m (.cons m' .nil))->aw T c n env (.Call (.Name z p) es [] pos) me):CL T c n ks (oQ z ks e a b).2 me:=by
 have h2:=(an h).2
 have h3:=an (an h2).1
 have h4:=an (an h2).2
 exact ki (λenv hf hk=>s _ _ _ _ (gN O hk (an h).1 hv hd (J8 h3.1 h4.1)) (zu (ih h3.2 env hf hk).1 h3.1 (PN h4.2 env hf hk).1 h4.1)) λo_=>rfl
theorem tK {a:BE} {m:Ex} (h:(jc z e a b).1=vk) (ih:a.1=vk->CL T c n ks a.2 m) (PN:b.1=vk->CL T c n ks b.2 m')
  (s:∀env o x p pos,aw T c n env o m->aw T c n env x m'->ay x=vk->(p.endLine==pos.line)=vk->cP o=vk->aw T c n env (.Call (.Attribute o z p) [x] [] pos) me):CL T c n ks (jc z e a b).2 me:=by
 haveI h2:=an (an h).2
 haveI h3:=an h2.2
 exact ki (λenv hf hk=>s _ _ _ _ _ (ih (an h3.2).1 env hf hk).1 (PN (an h3.2).2 env hf hk).1 h2.1 (an h).1 h3.1) λo_=>rfl
theorem TO {l:Bool×List Xq} {v:vi} (O:cJ N T c) (h:(Ni z ok ks e l).1=vk) (hv:ok=vk->T.names.lookup z=js v) (hd:(z==("__debug__":Zu))=Fk) (ih:l.1=vk->MW T c n ks l.2 ms)
  (s:ok=vk->∀env es p pos,ce T env z v es->bN T c n env es ms->aw T c n env (.Call (.Name z p) es [] pos) me):CL T c n ks (Ni z ok ks e l).2 me:=by
 haveI h2:=an (an h).2
 haveI h3:=an h2.2
 exact ki (λenv hf hk=>s (an h).1 _ _ _ _ (gN O hk h2.1 (hv (an h).1) hd h3.1) (qW (ih h3.2 env hf hk) h3.1)) λo_=>rfl
theorem Si {lo} (h:(match xK lo with | .i 0=>vk | _=>Fk)=vk):lo=.int 0:=by
 have:=wz lo
 revert h this
 generalize xK lo=w
 intro h this
 cases w with
 | i k=>
  haveI hk:k=0:=by
   cases k with
   | ofNat k=>cases k with
    | zero=>rfl
    | succ k=>exact dy h
   | negSucc k=>exact dy h
  refine bD hk ?_; exact this
 | _=>exact dy h
theorem OB {m:Ex} (h:(match xK m with | .s _=>vk | _=>Fk)=vk):∃z,m=.str z/\(match xK m with | .s z=>oC z | _=> "")=oC z:=by
 have:=wz m
 revert h this
 generalize xK m=w
 intro h this
 cases w with
 | s z=>exact az z this rfl
 | _=>exact dy h
end
section
variable {N:nx}
set_option tactic.hygienic true in
mutual
theorem aC (O:cJ N T c) (C:fv T c n):∀(me:Ex) (ks:Ks) (e:Xq),(RE N me ks e).1=vk->CL T c n ks (RE N me ks e).2 me
 | .bad=>λks e _=>λenv _ _=>⟨λ_ _ _ _ _ _ _ _ _ _ _ wp _ _=>wp.elim,λ_ _ _ _ _ _ _ _ _ _ _ wp _ _=>wp.elim⟩
 | .cV _=>λks e h=>TU h
 | .none=>λks e h=>ki (λenv _ _=>Aa) λ_=>rfl
 | .bool b=>λks e h=>ki (λenv _ _=>Au) λ_=>rfl
 | .int i=>λks e h=>ki (λenv _ _=>Dy) λ_=>rfl
 | .str s=>λks e h=>ki (λenv _ _=>Dn) λ_=>rfl
 | .var x=>λks e h=>ki (λenv hf hk=>Dm (O.nm x) (Kf hk h) (O.qZ x).1 (O.qZ x).2) λ_=>rfl
 | .glob k=>λks e h=>ki (λenv hf hk=>Af O (bq (an h).1) (EH hk (an h).2)) λ_=>rfl
 | .neg a=>λks e h=>ki (λenv hf hk=>Dt (aC O C a ks _ h env hf hk).1) λ_=>rfl
 | .not a=>λks e h=>λenv hf hk=>⟨Dr (aC O C a ks _ h env hf hk).1,ym (aC O C a ks _ h env hf hk).2⟩
 | .bin op a b=>λks e h=>ki (λenv hf hk=>DC (aC O C a ks _ (an h).1 env hf hk).1 (aC O C b ks _ (an h).2 env hf hk).1) λ_=>rfl
 | .and es=>λks e h=>λenv hf hk=>⟨DE (ak0.mp (nt (an h).1)) (ee O C es ks _ (an h).2 env hf hk),yv (ee O C es ks _ (an h).2 env hf hk)⟩
 | .or es=>λks e h=>λenv hf hk=>⟨Hc (ak0.mp (nt (an h).1)) (ee O C es ks _ (an h).2 env hf hk),z9 (ee O C es ks _ (an h).2 env hf hk)⟩
 | .ite t a b=>λks e h=>λenv hf hk=>⟨Dx (aC O C t ks _ (an h).1 env hf hk).2 (aC O C a ks _ (an (an h).2).1 env hf hk).1 (aC O C b ks _ (an (an h).2).2 env hf hk).1,yn (aC O C t ks _ (an h).1 env hf hk).2 (aC O C a ks _ (an (an h).2).1 env hf hk).2 (aC O C b ks _ (an (an h).2).2 env hf hk).2⟩
 | .cmp op a b=>λks e h=>λenv hf hk=>⟨DA (aC O C a ks _ (an (an h).2).1 env hf hk).1 (aC O C b ks _ (an (an h).2).2 env hf hk).1 (nt (an h).1),yu (aC O C a ks _ (an (an h).2).1 env hf hk).1 (aC O C b ks _ (an (an h).2).2 env hf hk).1 (nt (an h).1)⟩
 | .nX op tE a b d=>λks e h=>λenv hf hk=>⟨As (aC O C a ks _ (an (an h).2).1 env hf hk).1 (aC O C b ks _ (an (an (an h).2).2).1 env hf hk).1 (aC O C d ks _ (an (an (an h).2).2).2 env hf hk).1 (nt (an h).1),vA (aC O C a ks _ (an (an h).2).1 env hf hk).1 (aC O C b ks _ (an (an (an h).2).2).1 env hf hk).1 (aC O C d ks _ (an (an (an h).2).2).2 env hf hk).1 (nt (an h).1)⟩
 | .list m es=>λks e h=>ki (λenv hf hk=>Ad (qW (ee O C es ks _ (an (an h).2).2 env hf hk) (an (an h).2).1) (Ul (an h).1)) λ_=>rfl
 | .tup es=>λks e h=>ki (λenv hf hk=>wU (qW (ee O C es ks _ (an (an h).2).2 env hf hk) (an (an h).2).1) (Ul (an h).1)) λ_=>rfl
 | .gm k t=>λks e h=>ki (λenv _ _=>yt) λ_=>rfl
 | .uz t k v=>λks e h=>ki (λenv hf hk=>yr (aC O C k ks _ (an h).1 env hf hk).1 (aC O C v ks _ (an h).2 env hf hk).1) λ_=>rfl
 | .attr a x=>λks e h=>ki (λenv hf hk=>Aw (aC O C a ks _ (an h).2 env hf hk).1 (an h).1 (O.nm x)) λ_=>rfl
 | .idx a i=>λks e h=>ki (λenv hf hk=>Dz (aC O C a ks _ (an (an h).2).1 env hf hk).1 (aC O C i ks _ (an (an h).2).2 env hf hk).1 (an h).1) λ_=>rfl
 | .i6 a i=>λks e h=>ki (λenv hf hk=>vt (aC O C a ks _ (an h).1 env hf hk).1 (aC O C i ks _ (an h).2 env hf hk).1) λ_=>rfl
 | .i5 a i=>λks e h=>ki (λenv hf hk=>vr (aC O C a ks _ (an h).1 env hf hk).1 (aC O C i ks _ (an h).2 env hf hk).1) λ_=>rfl
 | .slice a i d=>λks e h=>ki (λenv hf hk=>yl (aC O C a ks _ (an h).1 env hf hk).1 (aC O C i ks _ (an (an h).2).1 env hf hk).1 (aC O C d ks _ (an (an h).2).2 env hf hk).1) λ_=>rfl
 | .rev a=>λks e h=>ki (λenv hf hk=>Do (aC O C a ks _ h env hf hk).1) λ_=>rfl
 | .call f es=>λks e h=>TO O h (λq=>(O.fn f _ (bq q)).1) (O.qZ _).1 (ee O C es ks _) λq env es p pos g s=>At C g (O.fn f _ (bq q)).2 s
 | .new f es=>λks e h=>TO O h (λq=>(O.cls f _ (bq q)).1) (O.qZ _).1 (ee O C es ks _) λq env es p pos g s=>Ds C g (O.cls f _ (bq q)).2 s
 | .aD a m es=>λks e h=>by
  have h1:=an h
  have h2:=an h1.2
  have h3:=an h2.2
  have h4:=an h3.2
  exact ki (λenv hf hk=>Ac C (aC O C a ks _ (an h4.2).1 env hf hk).1 (O.nm m) h4.1 (qW (ee O C es ks _ (an h4.2).2 env hf hk) h4.1) h1.1 (Ul h2.1) h3.1) λ_=>rfl
 | .gL f es=>λks e h=>by
  have h1:=an h
  have h2:=an h1.2
  have h3:=an h2.2
  have h4:=an h3.2
  have h5:=an h4.2
  have q:=O.cls f _ (bq h3.1)
  exact ki (λenv hf hk=>vy C (gN O hk h4.1 q.1 (O.qZ _).1 h5.1) q.2 (qW (ee O C es ks _ h5.2 env hf hk) h5.1) h1.1 (Ul h2.1)) λ_=>rfl
 | .len a=>λks e h=>pC O h (O.bi "len" (by decide)) rfl (aC O C a ks _) λ_ _ _ _=>Dw
 | .max2 a b=>λks e h=>GN O h (O.bi "max" (by decide)) rfl (aC O C a ks _) (aC O C b ks _) λ_ _ _ _=>Dv
 | .min2 a b=>λks e h=>GN O h (O.bi "min" (by decide)) rfl (aC O C a ks _) (aC O C b ks _) λ_ _ _ _=>Du
 | .repr a=>λks e h=>pC O h (O.bi "repr" (by decide)) rfl (aC O C a ks _) λ_ _ _ _=>zZ
 | .toStr a=>λks e h=>pC O h (O.ty "str" (by decide)) rfl (aC O C a ks _) λ_ _ _ _=>yj
 | .abs a=>λks e h=>pC O h (O.bi "abs" (by decide)) rfl (aC O C a ks _) λ_ _ _ _=>DF
 | .toInt a=>λks e h=>pC O h (O.ty "int" (by decide)) rfl (aC O C a ks _) λ_ _ _ _=>yk
 | .copy m a=>λks e h=>pC O h (O.ty "list" (by decide)) rfl (aC O C a ks _) λ_ _ _ _=>Ao
 | .keys a=>λks e h=>pC O h (O.ty "list" (by decide)) rfl (aC O C a ks _) λ_ _ _ _=>Ae
 | .bt a k=>λks e h=>by
  have h1:=an h
  have h2:=an h1.2
  have h3:=an h2.1
  have h4:=an (an h2.2).2
  obtain ⟨kv,q1,q2⟩:=O.Eg k _ (bq h4.1)
  exact ki (λenv hf hk=>vx (gN O hk h1.1 (O.bi "isinstance" (by decide)) rfl (J8 h3.1 rfl)) (gN O hk h4.2 q1 (O.qZ _).1 rfl) q2 (aC O C a ks _ h3.2 env hf hk).1) λ_=>rfl
 | .append a b=>λks e h=>tK h (aC O C a ks _) (aC O C b ks _) λ_ _ _ _ _=>vI
 | .extend a b=>λks e h=>tK h (aC O C a ks _) (aC O C b ks _) λ_ _ _ _ _=>vz
 | .pop a=>λks e h=>ki (λenv hf hk=>Dq (aC O C a ks _ (an (an h).2).2 env hf hk).1 (an h).1 (an (an h).2).1) λ_=>rfl
 | .yA a b=>λks e h=>by
  have h1:=an h
  have h2:=an h1.2
  have h3:=an h2.2
  exact ki (λenv hf hk=>z8 (aC O C a ks _ (an h3.2).1 env hf hk).1 (aC O C b ks _ (an h3.2).2 env hf hk).1 h2.1 h1.1 h3.1) λ_=>rfl
 | .BG a b=>λks e h=>tK h (aC O C a ks _) (aC O C b ks _) λ_ _ _ _ _=>Ag
 | .BH a b=>λks e h=>tK h (aC O C a ks _) (aC O C b ks _) λ_ _ _ _ _=>Ah
 | .index a b=>λks e h=>tK h (aC O C a ks _) (aC O C b ks _) λ_ _ _ _ _=>yo
 | .f' g b=>λks e h=>by
  have h1:=an h
  have h2:=an h1.2
  have h3:=an h2.2
  have q:=O.qY g _ (bq h1.1)
  exact ki (λenv hf hk=>Av C (aC O C b ks _ h3.2 env hf hk).1 (gN O hk h2.1 q.1 (O.qZ _).1 rfl) q.2 h3.1) λ_=>rfl
 | .fq g b=>λks e h=>by
  have h1:=an h
  have h2:=an h1.2
  have h3:=an h2.2
  have h4:=an h3.2
  have q:=O.qY g _ (bq h1.1)
  exact ki (λenv hf hk=>Ab C (aC O C b ks _ h4.1 env hf hk).1 (wU j9 (Z5 _)) (gN O hk h2.1 q.1 (O.qZ _).1 rfl) q.2 h3.1 rfl h4.2) λ_=>rfl
 | .qe es=>λks e h=>ki (λenv hf hk=>Mb (an h).1 (wL O C es ks _ (an h).2 env hf hk)) λ_=>rfl
 | .comp m own gs elt=>λks e h=>by
  have h1:=an h
  have h2:=an h1.2
  have h3:=an h2.2
  exact ki (λenv hf hk=>Aq (by
   obtain ⟨r1,r2,r3⟩:=uC O (of_decide_eq_true h1.1) hf hk
   exact (xY O C gs ks _ own _ h3.1).2 h2.1 _ _ env _ _ m hf hk r1 r2 r3 λah a b=>(aC O C elt _ _ h3.2 ah a b).1)) λ_=>rfl
theorem ee (O:cJ N T c) (C:fv T c n):∀(cy:gR) (ks:Ks) (es:List Xq),(jM N cy ks es).1=vk->MW T c n ks (jM N cy ks es).2 cy
 | .nil=>λks es h=>λenv _ _=>trivial
 | .cons m ms=>λks es h=>λenv hf hk=>⟨(aC O C m ks _ (an h).1 env hf hk).1,(aC O C m ks _ (an h).1 env hf hk).2,ee O C ms ks _ (an h).2 env hf hk⟩
theorem wL (O:cJ N T c) (C:fv T c n):∀(cy:gR) (ks:Ks) (es:List Xq),(C5 N cy ks es).1=vk->RF T c n ks (C5 N cy ks es).2 cy
 | .nil=>λks es h=>λenv _ _=>trivial
 | .cons m ms=>λks es h=>by
  intro env hf hk
  have h':(bif tW (es.headD ey) then (RE N m ks (kd (es.headD ey) 0)).1 &&(C5 N ms ks es.tail).1 else (match xK m with | .s _=>vk | _=>Fk)&&(C5 N ms ks es.tail).1)=vk:=h
  show rh T c n env ((bif tW (es.headD ey) then _ else _)::_) _
  revert h'
  cases tW (es.headD ey) with
  | true=>exact λh'=>⟨.inr ⟨_,_,rfl,(aC O C m ks _ (an h').1 env hf hk).1⟩,wL O C ms ks _ (an h').2 env hf hk⟩
  | false=>
   intro h'
   obtain ⟨z,e1,e2⟩:=OB (an h').1
   refine ⟨.inl ⟨z,kN (es.headD ey),(es.headD ey).pos,?_,e1⟩,wL O C ms ks _ (an h').2 env hf hk⟩
   exact congrArg (λy=>Expr.Constant (.str y) _ _) e2
theorem xY (O:cJ N T c) (C:fv T c n):∀(mg:fu) (k0 ks:Ks) (own:List Nat) (gl:List ZM),(RG N mg k0 ks own gl).1=vk->(k0=ks->Yi T c n ks own (RG N mg k0 ks own gl).2 mg)/\(AU mg=vk->RD T c n k0 ks own (RG N mg k0 ks own gl).2 mg)
 | .nil=>λk0 ks own gl h=>⟨λ_ el bo ah D gens scope pos d hf hk hd he=>Am he (Cf hd),λh=>TU h⟩
 | .each x src ifs rest=>λk0 ks own gl h=>by
  refine XV h λh1 h2 h3 h4 h5 h6 h7 h8=> ?_
  have o1:x∈own:=Zz.mp h1
  have o2:x∉lU rest:=λm=>TU ((nt h3).symm.trans (Zz.mpr m))
  have r:=(xY O C rest ks ks own _ h6).1 rfl
  have i:=ee O C ifs ks _ h5
  have s:=aC O C src k0 _ h8
  refine ⟨λe el bo ah D gens scope pos d hf hk hd he=> ?_,λ_ el bo env scope pos m hf hk S r1 r2 he=> ?_⟩
  ·subst e
   exact An (hM hd).1 (O.nm x) o1 (nA hk h2) h7 (s ah hf hk).1 (mB (i ah hf hk)) (r el bo ah D gens scope pos (d+1) hf hk (hM hd).2 he) o2
  ·refine vE S rfl (O.nm x) o1 h7 (s env hf hk).1 (λah D hc=> ?_) o2 λy hy=>Zz.mp (aa4.mp h4 y hy)
   rw [<-hc] at r1 r2
   exact ⟨nA r2 h2,mB (i ah r1 r2),r el bo ah D _ scope pos 1 r1 r2 rfl (he ah r1 r2)⟩
 | .rB x lo hi mL ifs rest=>λk0 ks own gl h=>by
  refine Uc h λh1 h2 h3 h4 h5 h6 h7=> ?_
  have o1:x∈own:=Zz.mp h1
  have o2:x∉lU rest:=λm=>TU ((nt h3).symm.trans (Zz.mpr m))
  have o3:∀y∈lU rest,y∈own:=λy hy=>Zz.mp (aa4.mp h4 y hy)
  have r:=(xY O C rest ks ks own _ h6).1 rfl
  have i:=ee O C ifs ks _ h5
  have b:∀{el bo env scope pos gens},(Z9 scope env).kind=.function->(Z9 scope env).names=ks->(∀ah:Env,ah.scope.kind=.function->ah.scope.names=ks->aw T c n ah el bo)->gens.drop 1=(RG N rest ks ks own gl.tail).2->uU T c n env own el gens scope pos bo (N.nm x) (jM N ifs ks (gl.headD ⟨ey,ey,[],0⟩).ifs).2 ifs rest:=λ{el bo env scope pos gens} r1 r2 he hg ah D hc=>by
   rw [<-hc] at r1 r2
   exact ⟨nA r2 h2,mB (i ah r1 r2),r el bo ah D _ scope pos 1 r1 r2 hg (he ah r1 r2)⟩
  have sl:=aC O C lo k0 (kd (gl.headD ⟨ey,ey,[],0⟩).iter 1)
  cases mL with
  | true=>
   have k9:=an h7
   have k2:=an (an k9.2).1
   have k3:=an (an k9.2).2
   have k1:=k9.1
   have sh:=aC O C hi k0 _ k3.2
   refine ⟨λe el bo ah D gens scope pos d hf hk hd he=> ?_,λ_ el bo env scope pos m hf hk S r1 r2 he=> ?_⟩
   ·subst e
    exact zX (hM hd).1 (gN O hk k1 (O.ty "range" (by decide)) rfl (J8 k2.1 k3.1)) (zu (sl k2.2 ah hf hk).1 k2.1 (sh ah hf hk).1 k3.1) (O.nm x) o1 (nA hk h2) (mB (i ah hf hk)) (r el bo ah D gens scope pos (d+1) hf hk (hM hd).2 he) o2
   ·exact vC S rfl (O.nm x) o1 (gN O hk k1 (O.ty "range" (by decide)) rfl (J8 k2.1 k3.1)) (zu (sl k2.2 env hf hk).1 k2.1 (sh env hf hk).1 k3.1) (b r1 r2 he rfl) o2 o3
  | false=>
   have k0:=an h7
   have k1:=an k0.2
   have k3:=an k1.2
   have sh:=aC O C hi _ _ k3.2
   have Lq:=Si k0.1
   clear sl
   subst Lq
   refine ⟨λe el bo ah D gens scope pos d hf hk hd he=> ?_,λ_ el bo env scope pos m hf hk S r1 r2 he=> ?_⟩
   ·subst e
    exact zY (hM hd).1 (gN O hk k1.1 (O.ty "range" (by decide)) rfl (Nk k3.1)) (Jr (sh ah hf hk).1 k3.1) (O.nm x) o1 (nA hk h2) (mB (i ah hf hk)) (r el bo ah D gens scope pos (d+1) hf hk (hM hd).2 he) o2
   ·exact vD S rfl (O.nm x) o1 (gN O hk k1.1 (O.ty "range" (by decide)) rfl (Nk k3.1)) (Jr (sh env hf hk).1 k3.1) (b r1 r2 he rfl) o2 o3
end
end
noncomputable def RT (N:nx):Tg->Ks->Xq->BE
 | .nm x=>λks e=>(mA ks (N.nm x),.Name (N.nm x) e.pos)
 | .at m c=>λks e=>((RE N m ks (kd e 0)).1,.Attribute (RE N m ks (kd e 0)).2 (N.nm c) e.pos)
 | .ix m i=>λks e=>(dc (RE N i ks (kd e 1)).2 &&((RE N m ks (kd e 0)).1 &&(RE N i ks (kd e 1)).1),.Subscript (RE N m ks (kd e 0)).2 (RE N i ks (kd e 1)).2 e.pos)
noncomputable def GV (N:nx):List Tg->Ks->List Xq->Bool×List Xq
 | []=>λo_ o_=>(vk,[])
 | t::ts=>λks l=>(ay (RT N t ks (l.headD ey)).2 &&((RT N t ks (l.headD ey)).1 &&(GV N ts ks l.tail).1),(RT N t ks (l.headD ey)).2::(GV N ts ks l.tail).2)
set_option backward.match.sparseCases true in
noncomputable def Nb (ks:Ks) (ts:List Xq):List Zu:=ts.filterMap λe=>match e with
  | .Name id pos=>if ks.lookup id==js .local && pos.line==(ts.head?.map (·.pos.line)).getD 0 then js id else vd
  | _=>vd
set_option backward.match.sparseCases true in
noncomputable def Nc {α:Type} (f:Option (List Zu)->α) (bad:α) (bk:ScopeKind) (ks:Ks) (ts vs:List Xq):α:=
 if (!(ts.length==2 || ts.length==3) || vs.length !=ts.length || bk !=.function)=vk then f vd
 else if (vs.any λ | .Starred ..=>vk | _=>Fk)=vk then f vd
 else if ((Nb ks ts).length !=ts.length || (Nb ks ts).eraseDups.length !=(Nb ks ts).length)=vk then f vd
 else if vs.all (foldedForSure 8)=vk then f vd
 else if vs.all (constantsAlone 8)=vk then bad
 else f (js (Nb ks ts))
theorem o8 {c:Prop} {α:Type} [Decidable c] {a b:Option (Option (List Zu))} {A B} {f:Option (List Zu)->α} {r:Option (List Zu)} (h:(if c then a else b)=js r) (h1:a=js r->A=f r) (h2:b=js r->B=f r):(if c then A else B)=f r:=by
 by_cases e:c
 ·rw [if_pos e] at h ⊢; exact h1 h
 ·rw [if_neg e] at h ⊢; exact h2 h
theorem Hb {vs:List Xq} {f:Option (List Zu)->α} {r:Option (List Zu)} (h:Nc js vd bk ks ts vs=js r):Nc f bad bk ks ts vs=f r:=by
 have e:∀{x:Option (List Zu)},js x=js r->f x=f r:=λh=>congrArg f (vo h)
 exact o8 h e λh=>o8 h e λh=>o8 h e λh=>o8 h e λh=>o8 h (λh=>aI h) e
noncomputable def Oz (ks:Ks) (ts:List Xq) (value:Xq):Option (Option (List Zu)):=bif H7 25 value then Nc js vd .function ks ts (kids value) else js vd
theorem Ha (hf:env.scope.kind=.function) (hk:env.scope.names=ks) {r:Option (List Zu)} (h:Oz ks ts value=js r):ag7 [.Tuple ts k p] value env=pure r:=by
 haveI bk:env.blockKind=.function:=by unfold Env.blockKind; refine af hf ?_; rfl
 cases value with
 | Tuple vs k2 p2=>
  haveI h:Nc js vd .function ks ts vs=js r:=h
  rw [<-hk,<-bk] at h
  exact Hb h
 | _=>exact congrArg pure (vo h)
abbrev GW (ks:Ks) (sc:ai7):Prop:=sc.kind=.function/\sc.isCoroutine=Fk/\sc.isGenerator=Fk/\(∀p∈sc.names,sc.names.lookup p.1=js p.2)/\
 (∀p∈sc.names,p.2=.free->ks.lookup p.1=js .cell∨ks.lookup p.1=js .free)/\∀p∈sc.names,p.2 ≠ .cell/\p.2 ≠ .local
theorem D9 (h:GW ks sc) (hk:env.scope.names=ks):Fq T env sc:=by
 subst hk
 exact ⟨h.1,h.2.1,h.2.2.1,h.2.2.2.1,λy hy=>h.2.2.2.2.1 _ hy rfl,h.2.2.2.2.2⟩
structure LS where
 ex:List Xq
 bd:List ad3
 el:List ad3
noncomputable def gU:ad3->LS
 | .Expr v _=>⟨[v],[],[]⟩
 | .Assign ts v _=>⟨v::ts,[],[]⟩
 | .AugAssign t _ v _=>⟨[v,t],[],[]⟩
 | .If t a b _=>⟨[t],a,b⟩
 | .While t a _ _=>⟨[t],a,[]⟩
 | .For t it a _ _=>⟨[it,t],a,[]⟩
 | .Return (js x) _=>⟨[x],[],[]⟩
 | .Raise (js x) _ _=>⟨[x],[],[]⟩
 | _=>⟨[],[],[]⟩
noncomputable def ex (s:ad3) (i:Nat):Xq:=(gU s).ex.getD i ey
abbrev BS:=Bool×ad3
noncomputable def Hy (N:nx) (lam:Bool) (ks:Ks) (s:ad3) (x:Nat) (r:BE):EV->BS
 | .h me=>(mA ks (N.nm x)&&(lam &&(kA ks N.hn &&(decide (GW ks (cH (kd (ex s 0) 1)))&&(RE N me (cH (kd (ex s 0) 1)).names (kd (kd (ex s 0) 1) 0)).1))),
   .Assign [.Name (N.nm x) (ex s 1).pos] (.Call (.Name N.hn (kd (ex s 0) 0).pos) [.Lambda k8 (RE N me (cH (kd (ex s 0) 1)).names (kd (kd (ex s 0) 1) 0)).2 (cH (kd (ex s 0) 1)) (kd (ex s 0) 1).pos] [] (ex s 0).pos) s.pos)
 | .c _ _ _ _=>(mA ks (N.nm x)&& r.1,.Assign [.Name (N.nm x) (ex s 1).pos] r.2 s.pos)
 | _=>(mA ks (N.nm x)&&(ej r.2 && r.1),.Assign [.Name (N.nm x) (ex s 1).pos] r.2 s.pos)
noncomputable def yP:Tg->Bool
 | .nm _=>vk
 | .at _ _=>Fk
 | .ix _ _=>Fk
noncomputable def iq:Tg->Nat
 | .nm x=>x
 | .at _ _=>0
 | .ix _ _=>0
theorem li (h:yP t=vk):t=.nm (iq t):=by
 cases t with
 | nm x=>rfl
 | «at» _ _=>exact dy h
 | ix _ _=>exact dy h
noncomputable def Ux (N:nx) (ks:Ks) (ys:List Zu):List Tg->Bool
 | [t1,t2]=>yP t1 &&(yP t2 && decide (ys=[N.nm (iq t1),N.nm (iq t2)]/\iq t1 ≠ iq t2/\ks.lookup (N.nm (iq t1))=js .local/\ks.lookup (N.nm (iq t2))=js .local))
 | [t1,t2,t3]=>yP t1 &&(yP t2 &&(yP t3 && decide (ys=[N.nm (iq t1),N.nm (iq t2),N.nm (iq t3)]/\iq t1 ≠ iq t2/\iq t1 ≠ iq t3/\iq t2 ≠ iq t3/\ks.lookup (N.nm (iq t1))=js .local/\ks.lookup (N.nm (iq t2))=js .local/\ks.lookup (N.nm (iq t3))=js .local)))
 | _=>Fk
noncomputable def J5 (N:nx) (ks:Ks) (ts:List Tg) (tl:Bool×List Xq) (r:BE):Bool:=ej r.2 &&(r.1 &&(match Oz ks tl.2 r.2 with
 | some vd=>tl.1
 | some (js ys)=>Ux N ks ys ts
 | none=>Fk))
mutual
noncomputable def RS (N:nx) (lam rs:Bool):S->Ks->ad3->BS
 | .bad=>λo_ s=>(vk,s)
 | .expr e=>λks s=>(ej (RE N e ks (ex s 0)).2 &&(RE N e ks (ex s 0)).1,.Expr (RE N e ks (ex s 0)).2 s.pos)
 | .asg x e=>λks s=>Hy N lam ks s x (RE N e ks (ex s 0)) (xK e)
 | .av e c v=>λks s=>((RE N v ks (ex s 0)).1 &&(RE N e ks (kd (ex s 1) 0)).1,.Assign [.Attribute (RE N e ks (kd (ex s 1) 0)).2 (N.nm c) (ex s 1).pos] (RE N v ks (ex s 0)).2 s.pos)
 | .ed e i v=>λks s=>(dc (RE N i ks (kd (ex s 1) 1)).2 &&((RE N v ks (ex s 0)).1 &&((RE N e ks (kd (ex s 1) 0)).1 &&(RE N i ks (kd (ex s 1) 1)).1)),.Assign [.Subscript (RE N e ks (kd (ex s 1) 0)).2 (RE N i ks (kd (ex s 1) 1)).2 (ex s 1).pos] (RE N v ks (ex s 0)).2 s.pos)
 | .pK e v=>λks s=>((RE N v ks (ex s 0)).1 &&(RE N e ks (kd (ex s 1) 0)).1,.Assign [.Subscript (RE N e ks (kd (ex s 1) 0)).2 (.Slice vd vd vd (kd (ex s 1) 1).pos) (ex s 1).pos] (RE N v ks (ex s 0)).2 s.pos)
 | .aN ts e=>λks s=>(J5 N ks ts (GV N ts ks (kids (ex s 1))) (RE N e ks (ex s 0)),.Assign [.Tuple (GV N ts ks (kids (ex s 1))).2 (kN (ex s 1)) (ex s 1).pos] (RE N e ks (ex s 0)).2 s.pos)
 | .sA _ _ _=>λo_ s=>(Fk,s)
 | .eD e c op v=>λks s=>((match op with | .add=>vk | _=>Fk)&&((RE N v ks (ex s 0)).1 &&(RE N e ks (kd (ex s 1) 0)).1),.AugAssign (.Attribute (RE N e ks (kd (ex s 1) 0)).2 (N.nm c) (ex s 1).pos) .Add (RE N v ks (ex s 0)).2 s.pos)
 | .bS t a b=>λks s=>((RE N t ks (ex s 0)).1 &&((pM N lam rs a ks (gU s).bd).1 &&(pM N lam rs b ks (gU s).el).1),.If (RE N t ks (ex s 0)).2 (pM N lam rs a ks (gU s).bd).2 (pM N lam rs b ks (gU s).el).2 s.pos)
 | .i7 t b=>λks s=>((RE N t ks (ex s 0)).1 &&(pM N lam rs b ks (gU s).bd).1,.While (RE N t ks (ex s 0)).2 (pM N lam rs b ks (gU s).bd).2 [] s.pos)
 | .lu x e b=>λks s=>(mA ks (N.nm x)&&(ip (RE N e ks (ex s 0)).2 &&((RE N e ks (ex s 0)).1 &&(pM N lam rs b ks (gU s).bd).1)),.For (.Name (N.nm x) (ex s 1).pos) (RE N e ks (ex s 0)).2 (pM N lam rs b ks (gU s).bd).2 [] s.pos)
 | .BM xs e b=>λks s=>(ip (RE N e ks (ex s 0)).2 &&((RE N e ks (ex s 0)).1 &&((GV N (xs.map .nm) ks (kids (ex s 1))).1 &&(pM N lam rs b ks (gU s).bd).1)),.For (.Tuple (GV N (xs.map .nm) ks (kids (ex s 1))).2 (kN (ex s 1)) (ex s 1).pos) (RE N e ks (ex s 0)).2 (pM N lam rs b ks (gU s).bd).2 [] s.pos)
 | .forR x lo hi mL b=>λks s=>(mA ks (N.nm x)&&((pM N lam rs b ks (gU s).bd).1 &&(ml ks (ex s 0) mL lo (RE N lo ks (kd (ex s 0) 1)) (RE N hi ks (kd (ex s 0) (bif mL then 2 else 1)))).1),
   .For (.Name (N.nm x) (ex s 1).pos) (ml ks (ex s 0) mL lo (RE N lo ks (kd (ex s 0) 1)) (RE N hi ks (kd (ex s 0) (bif mL then 2 else 1)))).2 (pM N lam rs b ks (gU s).bd).2 [] s.pos)
 | .ret e=>λks s=>((RE N e ks (ex s 0)).1,.Return (js (RE N e ks (ex s 0)).2) s.pos)
 | .og=>λo_ s=>(vk,.Return vd s.pos)
 | .brk=>λo_ s=>(vk,.Break s.pos)
 | .cont=>λo_ s=>(vk,.Continue s.pos)
 | .oK e=>λks s=>(rs &&(kA ks N.xn &&(ay (RE N e ks (kd (ex s 0) 1)).2 &&(RE N e ks (kd (ex s 0) 1)).1)),.Raise (js (.Call (.Name N.xn (kd (ex s 0) 0).pos) [(RE N e ks (kd (ex s 0) 1)).2] [] (ex s 0).pos)) vd s.pos)
noncomputable def pM (N:nx) (lam rs:Bool):Ss->Ks->List ad3->Bool×List ad3
 | .nil=>λo_ o_=>(vk,[])
 | .cons m ms=>λks l=>((RS N lam rs m ks (l.headD (.Pass ⟨0,0,0,0⟩))).1 &&(pM N lam rs ms ks l.tail).1,(RS N lam rs m ks (l.headD (.Pass ⟨0,0,0,0⟩))).2::(pM N lam rs ms ks l.tail).2)
end
structure Fs (T:Cx) (c:Cc) (n:Nat) (N:nx) (lam rs:Bool) (env:Env):Prop where
 lm:lam=vk->jF T c N.hn/\∃C P,uR T C P/\env.code=.ref C/\T.yg C=env.qual++ "<lambda>"
 rz:rs=vk->oo T n N.xn
section
variable {N:nx} {lam rs:Bool}
theorem f8 (O:cJ N T c) (C:fv T c n) (hf:env.scope.kind=.function) (hk:env.scope.names=ks) (h:(RE N me ks e).1=vk):aw T c n env (RE N me ks e).2 me:=(aC O C me ks e h env hf hk).1
theorem MV (O:cJ N T c) (C:fv T c n) (hf:env.scope.kind=.function) (hk:env.scope.names=ks) (h:(RE N me ks e).1=vk):iR T c n env (RE N me ks e).2 me:=(aC O C me ks e h env hf hk).2
theorem MT (O:cJ N T c) (C:fv T c n) (hf:env.scope.kind=.function) (hk:env.scope.names=ks):∀{m} {e},(RT N m ks e).1=vk->rg T c n env (RT N m ks e).2 m
 | .nm x,e,h=>iX (O.nm x) (nA hk h)
 | .at m a,e,h=>sX C (f8 O C hf hk h) (O.nm a)
 | .ix m i,e,h=>sW (f8 O C hf hk (an (an h).2).1) (f8 O C hf hk (an (an h).2).2) (an h).1
theorem wK (O:cJ N T c) (C:fv T c n) (hf:env.scope.kind=.function) (hk:env.scope.names=ks):∀{ms} {es},(GV N ms ks es).1=vk->fZ T c n env (GV N ms ks es).2 ms
 | [],es,h=>trivial
 | m::ms,es,h=>(cW ((an h).1) (MT O C hf hk (an (an h).2).1) (wK O C hf hk (an (an h).2).2))
theorem Rv (O:cJ N T c) (C:fv T c n) {m:Option Nat} {own:List Nat} {gs:fu} {elt:Ex} (h1:mA ks (N.nm x)=vk) (h2:(RE N (.comp m own gs elt) ks e).1=vk) (hf:env.scope.kind=.function) (hk:env.scope.names=ks):
  dk T c n env (.Assign [.Name (N.nm x) p] (RE N (.comp m own gs elt) ks e).2 pos) (.asg x (.comp m own gs elt)):=by
 haveI bk:env.blockKind=.function:=by unfold Env.blockKind; refine af hf ?_; rfl
 haveI sw:swapsWith (RE N (.comp m own gs elt) ks e).2 (js (.Name (N.nm x) p)) pos.line env=pure (env.kindOf (N.nm x)==js .local && p.line==e.pos.line && !((cH e).names.any λ(n,k)=>n==N.nm x &&(k==.local || k==.cell))):=by
  show pure (env.blockKind==.function && env.kindOf (N.nm x)==js .local && p.line==e.pos.line && !((cH e).names.any λ(n,k)=>n==N.nm x &&(k==.local || k==.cell)))=_
  refine af bk ?_; rfl
 revert sw
 cases hb:(env.kindOf (N.nm x)==js .local && p.line==e.pos.line && !((cH e).names.any λ(n,k)=>n==N.nm x &&(k==.local || k==.cell))) with
 | true=>
  intro sw
  haveI h3:=an (an (an h2).2).2
  have z:wJ T c n env _ _ (cH e) e.pos _:=(by
   obtain ⟨r1,r2,r3⟩:=uC O (of_decide_eq_true (an h2).1) hf hk
   exact (xY O C gs ks _ own _ h3.1).2 (an (an h2).2).1 _ _ env _ _ m hf hk r1 r2 r3 λah a b=>(aC O C elt _ _ h3.2 ah a b).1)
  exact @(Ax z (O.nm x) (bq (an (an hb).1).1) sw)
 | false=>
  intro sw
  exact @(Ay (f8 O C hf hk h2) (O.nm x) (nA hk h1) sw)
theorem Ru (O:cJ N T c) (C:fv T c n) {ts:List Tg} {tl:Bool×List Xq} {r:BE} (ht:tl.1=vk->fZ T c n env tl.2 ts) (hr:r.1=vk->aw T c n env r.2 me) (h:J5 N ks ts tl r=vk) (hf:env.scope.kind=.function) (hk:env.scope.names=ks):
  dk T c n env (.Assign [.Tuple tl.2 k p] r.2 pos) (.aN ts me):=by
 have h2:=an (an h).2
 haveI h3:=h2.2
 revert h3
 cases e:Oz ks tl.2 r.2 with
 | none=>intro h3; cases h3
 | some w=>
  have sw:=Ha (k:=k) (p:=p) hf hk e
  cases w with
  | none=>
   intro h3
   haveI y:dk T c n env (.Assign [.Tuple tl.2 k p] r.2 pos) (.aN ts me):=vF (hr h2.1) (ht h3) (an h).1 sw
   exact @y
  | some ys=>
   intro h3
   have nk:∀{y},ks.lookup (N.nm y)=js .local->env.kindOf (T.nm y)=js .local:=λh=>by rw [O.nm]; exact Sl hk h
   clear hk hf ht C
   rcases ts with _ | ⟨t1,_ | ⟨t2,_ | ⟨t3,_ | o_⟩⟩⟩
   ·cases h3
   ·cases h3
   ·have q:=of_decide_eq_true (an (an h3).2).2
    rw [li (an h3).1,li (an (an h3).2).1]
    haveI y:dk T c n env (.Assign [.Tuple tl.2 k p] r.2 pos) _:=td (hr h2.1) q.2.1 (nk q.2.2.1) (nk q.2.2.2) (an h).1 (by rw [O.nm,O.nm,<-q.1]; exact sw)
    exact @y
   ·have q:=of_decide_eq_true (an (an (an h3).2).2).2
    rw [li (an h3).1,li (an (an h3).2).1,li (an (an (an h3).2).2).1]
    haveI y:dk T c n env (.Assign [.Tuple tl.2 k p] r.2 pos) _:=tc (hr h2.1) q.2.1 q.2.2.1 q.2.2.2.1 (nk q.2.2.2.2.1) (nk q.2.2.2.2.2.1) (nk q.2.2.2.2.2.2) (an h).1 (by rw [O.nm,O.nm,O.nm,<-q.1]; exact sw)
    exact @y
   ·cases h3
theorem IP (O:cJ N T c) (C:fv T c n) (F:Fs T c n N lam rs env) (hf:env.scope.kind=.function) (hk:env.scope.names=ks) (x:Nat) (e:Ex) (s:ad3) (h:(Hy N lam ks s x (RE N e ks (ex s 0)) (xK e)).1=vk):dk T c n env (Hy N lam ks s x (RE N e ks (ex s 0)) (xK e)).2 (.asg x e):=by
 haveI hv:=wz e
 revert h hv
 generalize xK e=w
 intro h hv
 cases w with
 | h me=>
  refine af hv ?_
  haveI h2:=an (an h).2
  haveI h3:=an h2.2
  haveI h4:=an h3.2
  obtain ⟨HO,CC,P,LO,e1,e2⟩:=F.lm h2.1
  haveI L:Fq T env _:=D9 (of_decide_eq_true h4.1) hk
  exact @(ro HO LO L (λeH hl=>(aC O C me _ _ h4.2 eH (by refine af hl ?_; exact L.kind) (af hl rfl)).1) e1 e2 (EH hk h3.1) O.iS (O.nm x) (nA hk (an h).1))
 | c m own gs elt=>
  subst hv
  exact @(Rv O C (an h).1 (an h).2 hf hk)
 | _=>
  exact @(DD (f8 O C hf hk (an (an h).2).2) (O.nm x) (nA hk (an h).1) (an (an h).2).1)
theorem EK (O:cJ N T c) (C:fv T c n) {mL:Bool} {bd:List ad3} {b:Ss} (h:(ml ks e mL lo (RE N lo ks (kd e 1)) (RE N hi ks (kd e (bif mL then 2 else 1)))).1=vk) (hx:mA ks (N.nm x)=vk) (hb:f7 T c n env bd b) (hf:env.scope.kind=.function) (hk:env.scope.names=ks):
  dk T c n env (.For (.Name (N.nm x) p) (ml ks e mL lo (RE N lo ks (kd e 1)) (RE N hi ks (kd e (bif mL then 2 else 1)))).2 bd [] pos) (.forR x lo hi mL b):=by
 cases mL with
 | true=>
  haveI k1:=an h
  have k2:=an (an k1.2).1
  have k3:=an (an k1.2).2
  exact @(yp (gN O hk k1.1 (O.ty "range" (by decide)) rfl (J8 k2.1 k3.1)) (zu (f8 O C hf hk k2.2) k2.1 (f8 O C hf hk k3.2) k3.1) (O.nm x) (nA hk hx) hb)
 | false=>
  haveI k1:=an (an h).2
  haveI k3:=an k1.2
  have Lq:=Si (an h).1
  subst Lq
  exact @(yq (gN O hk k1.1 (O.ty "range" (by decide)) rfl (Nk k3.1)) (Jr (f8 O C hf hk k3.2) k3.1) (O.nm x) (nA hk hx) hb)
mutual
theorem MU (O:cJ N T c) (C:fv T c n) (F:Fs T c n N lam rs env) (hf:env.scope.kind=.function) (hk:env.scope.names=ks):∀(m:S) (s:ad3),(RS N lam rs m ks s).1=vk->dk T c n env (RS N lam rs m ks s).2 m
 | .bad=>λs o_=>λo_ o_ o_ o_ o_ o_ o_ o_ o_ o_ o_ wp o_ o_=>wp.elim
 | .expr e=>λs h=>Al (f8 O C hf hk (an h).2) (an h).1
 | .asg x e=>λs h=>IP O C F hf hk x e s h
 | .av e a v=>λs h=>te C (f8 O C hf hk (an h).1) (f8 O C hf hk (an h).2) (O.nm a) zT
 | .ed e i v=>λs h=>vG (f8 O C hf hk (an (an h).2).1) (f8 O C hf hk (an (an (an h).2).2).1) (f8 O C hf hk (an (an (an h).2).2).2) (an h).1 zS
 | .pK e v=>λs h=>vH (f8 O C hf hk (an h).1) (f8 O C hf hk (an h).2) zS
 | .aN ts e=>λs h=>Ru O C (wK O C hf hk) (f8 O C hf hk) h hf hk
 | .sA _ _ _=>λs h=>TU h
 | .eD e a .add v=>λs h=>s8 C (f8 O C hf hk (an h).2) (f8 O C hf hk (an h).1) (O.nm a)
 | .eD e a .sub v=>λs h=>TU h
 | .eD e a .mul v=>λs h=>TU h
 | .eD e a .mod v=>λs h=>TU h
 | .eD e a .fdiv v=>λs h=>TU h
 | .eD e a .pow v=>λs h=>TU h
 | .bS t a b=>λs h=>Hd (MV O C hf hk (an h).1) (ju O C F hf hk a _ (an (an h).2).1) (ju O C F hf hk b _ (an (an h).2).2)
 | .i7 t b=>λs h=>yi (MV O C hf hk (an h).1) (ju O C F hf hk b _ (an h).2)
 | .lu x e b=>λs h=>Ak (f8 O C hf hk (an (an (an h).2).2).1) (an (an h).2).1 (O.nm x) (nA hk (an h).1) (ju O C F hf hk b _ (an (an (an h).2).2).2)
 | .BM xs e b=>λs h=>Aj (f8 O C hf hk (an (an h).2).1) (an h).1 (wK O C hf hk (an (an (an h).2).2).1) (ju O C F hf hk b _ (an (an (an h).2).2).2)
 | .forR x lo hi mL b=>λs h=>EK O C (an (an h).2).2 (an h).1 (ju O C F hf hk b _ (an (an h).2).1) hf hk
 | .ret e=>λs h=>Dp (f8 O C hf hk h)
 | .og=>λs h=>sZ
 | .brk=>λs h=>DB
 | .cont=>λs h=>Ap
 | .oK e=>λs h=>vw (F.rz (an h).1) (f8 O C hf hk (an (an (an h).2).2).2) (EH hk (an (an h).2).1) O.RU (an (an (an h).2).2).1
theorem ju (O:cJ N T c) (C:fv T c n) (F:Fs T c n N lam rs env) (hf:env.scope.kind=.function) (hk:env.scope.names=ks):∀(ms:Ss) (ss:List ad3),(pM N lam rs ms ks ss).1=vk->f7 T c n env (pM N lam rs ms ks ss).2 ms
 | .nil=>λss h=>vq
 | .cons m ms=>λss h=>sY (MU O C F hf hk m _ (an h).1) (ju O C F hf hk ms _ (an h).2)
end
end
noncomputable def Nl:List String:=["j", "k", "at", "by", "act", "box", "due", "far", "gap", "int", "key", "law", "low", "met", "one", "out", "own", "put", "row", "str", "Text", "args", "bare", "bool", "cell", "code", "deep", "fail", "flat", "grid", "held", "here", "high", "item", "kept", "laid", "last", "left", "made", "main", "many", "mark", "mate", "most", "name", "open", "pair", "pick", "pool", "read", "room", "root", "rows", "same", "seed", "self", "show", "size", "sort", "span", "spot", "step", "text", "turn", "ways", "wide", "MIXED", "Thing", "World", "_wall", "again", "ahead", "array", "cause", "count", "depth", "digit", "error", "first", "found", "great", "heard", "ident", "items", "known", "marks", "mates", "mixed", "moved", "other", "outer", "owner", "pairs", "picks", "piece", "place", "range", "sides", "sizes", "spare", "table", "taken", "thing", "value", "world", "UNMADE", "answer", "around", "arrays", "behind", "column", "fields", "frozen", "is_int", "is_odd", "is_own", "key_of", "module", "native", "number", "others", "parent", "reason", "script", "stands", "things", "twenty", "MODULES", "_law_by", "builtin", "code_of", "columns", "globals", "is_open", "is_word", "list_at", "list_of", "message", "methods", "natives", "prelude", "root_of", "rotated", "sort_of", "span_in", "strange", "version", "BUILTINS", "_law_box", "ahead_of", "attached", "class_of", "give_own", "is_class", "is_label", "is_ready", "make_own", "need_int", "place_of", "range_of", "table_of", "takes_in", "ListThing", "MOST_SEEN", "_law_grid", "_law_mark", "_law_pool", "_law_take", "constants", "flattened", "full_name", "kind_word", "limits_of", "list_item", "list_push", "need_list", "need_open", "need_size", "show_held", "show_pair", "show_text", "ErrorThing", "MOST_ITEMS", "RangeThing", "TableThing", "_law_array", "_law_fresh", "_law_heard", "_law_marks", "is_figures", "is_lacking", "last_ident", "new_module", "own_module", "show_range", "show_thing", "ModuleThing", "_law_column", "class_above", "last_number", "show_letter", "show_symbol", "list_product", "list_rotated", "make_builtin", "message_text", "_law_is_table", "const_version", "raise_version", "symbol_idents", "is_error_class", "list_flattened", "list_values_at", "_law_laid_right", "is_plain_symbol", "list_transposed", "_law_apart_right", "_law_moved_right", "_law_table_right", "list_rotate_here", "_law_picked_right", "_law_refused_right"]
noncomputable def GP:Ss:=(.cons (.aN [(.nm 5),(.nm 104)] (.tup (.cons (.call 853 (.cons (.var 123) .nil)) (.cons (.new 0 (.cons (.gm 0 0) .nil)) .nil)))) (.cons (.forR 63 (.int 0) (.ite (.or (.cons (.idx (.var 5) (.int 3)) (.cons (.cmp .lt (.len (.var 123)) (.int 2)) .nil))) (.int 1) (.int 2)) Fk (.cons (.bS (.not (.call 952 (.cons (.var 104) (.cons (.var 5) .nil)))) (.cons (.ret (.bool Fk)) .nil) .nil) .nil)) (.cons (.ret (.bool vk)) .nil)))
noncomputable def rd:Ss:=(.cons (.aN [(.nm 80),(.nm 54),(.nm 22)] (.tup (.cons (.int 0) (.cons (.int 71) (.cons (.bool vk) .nil))))) (.cons (.lu 24 (.i5 (.var 123) (.int 63)) (.cons (.asg 22 (.and (.cons (.var 22) (.cons (.cmp .eq (.var 24) (.int 0)) .nil)))) (.cons (.asg 54 (.bin .mod (.bin .add (.bin .add (.bin .mul (.var 54) (.int 48271)) (.bin .mul (.var 24) (.int 69621))) (.int 31)) (.int 2147483629))) (.cons (.bS (.and (.cons (.cmp .eq (.var 80) (.int 0)) (.cons (.cmp .ge (.abs (.var 24)) (.bin .pow (.int 10) (.int 18))) .nil))) (.cons (.asg 80 (.abs (.var 24))) .nil) .nil) .nil)))) (.cons (.ret (.list (js 4) (.cons (.var 80) (.cons (.var 54) (.cons (.int 0) (.cons (.var 22) (.cons (.ite (.cmp .gt (.len (.var 123)) (.int 0)) (.idx (.var 123) (.neg (.int 1))) (.int 0)) .nil))))))) .nil)))
noncomputable def pG:Ss:=(.cons (.bS (.cmp .gt (.idx (.var 5) (.int 0)) (.int 0)) (.cons (.aN [(.nm 76),(.ix (.var 5) (.int 0))] (.tup (.cons (.bin .mod (.idx (.var 5) (.int 0)) (.var 40)) (.cons (.bin .fdiv (.idx (.var 5) (.int 0)) (.var 40)) .nil)))) (.cons (.ret (.var 76)) .nil)) .nil) (.cons (.ed (.var 5) (.int 2) (.bin .add (.idx (.var 5) (.int 2)) (.int 1))) (.cons (.bS (.idx (.var 5) (.int 3)) (.cons (.ret (.bin .mod (.bin .mod (.bin .add (.bin .add (.bin .mul (.bin .mul (.int 2) (.idx (.var 5) (.int 2))) (.idx (.var 5) (.int 2))) (.bin .mul (.int 5) (.idx (.var 5) (.int 2)))) (.int 4)) (.int 89)) (.var 40))) .nil) .nil) (.cons (.asg 87 (.bin .mod (.bin .pow (.bin .add (.bin .add (.idx (.var 5) (.int 1)) (.bin .mul (.int 15485857) (.idx (.var 5) (.int 2)))) (.int 43)) (.int 5)) (.int 2147483647))) (.cons (.ret (.bin .mod (.bin .fdiv (.bin .mod (.bin .pow (.bin .add (.bin .mul (.var 87) (.int 48271)) (.bin .mul (.int 7883) (.idx (.var 5) (.int 2)))) (.int 3)) (.int 2147483587)) (.int 64)) (.var 40))) .nil)))))
noncomputable def pH:Ss:=(.cons (.aN [(.nm 14),(.nm 42)] (.tup (.cons (.aD (.var 104) 62 (.cons (.str "a") .nil)) (.cons (.aD (.var 104) 62 (.cons (.str "a") .nil)) .nil)))) (.cons (.ret (.list vd (.cons (.var 14) (.cons (.int 1) (.cons (.var 42) (.cons .none (.cons (.aD (.var 104) 136 (.cons (.list vd (.cons (.int 1) (.cons (.var 14) .nil))) .nil)) (.cons (.str "a") (.cons (.aD (.var 104) 136 (.cons (.list vd .nil) .nil)) (.cons (.bool vk) .nil)))))))))) .nil))
noncomputable def nh:Ss:=(.cons (.bS (.and (.cons (.cmp .ne (.var 108) (.list vd .nil)) (.cons (.cmp .eq (.call 860 (.cons (.var 5) (.cons (.int 5) .nil))) (.int 0)) .nil))) (.cons (.asg 42 (.idx (.var 108) (.call 860 (.cons (.var 5) (.cons (.len (.var 108)) .nil))))) (.cons (.bS (.cmp .le (.len (.attr (.var 42) 83)) (.var 43)) (.cons (.ret (.var 42)) .nil) .nil) .nil)) .nil) (.cons (.asg 57 (.min2 (.var 43) (.idx (.list vd (.cons (.int 3) (.cons (.int 2) (.cons (.int 1) (.cons (.int 3) (.cons (.int 4) (.cons (.int 2) (.cons (.int 0) (.cons (.int 2) (.cons (.int 3) (.cons (.int 1) .nil))))))))))) (.call 860 (.cons (.var 5) (.cons (.int 10) .nil)))))) (.cons (.asg 83 (.comp vd [1] (.rB 1 (.int 0) (.var 57) Fk .nil .nil) (.idx (.var 48) (.call 860 (.cons (.var 5) (.cons (.len (.var 48)) .nil)))))) (.cons (.asg 102 (.aD (.var 104) 136 (.cons (.var 83) .nil))) (.cons (.bS (.cmp .eq (.call 860 (.cons (.var 5) (.cons (.int 5) .nil))) (.int 0)) (.cons (.asg 102 (.call 428 (.cons (.var 104) (.cons (.aD (.var 104) 102 (.cons (.aD (.var 104) 192 (.cons (.str "Row") (.cons (.bool vk) (.cons (.aD (.var 104) 129 (.cons (.str "Array") .nil)) .nil)))) .nil)) (.cons (.var 83) .nil))))) .nil) .nil) (.cons (.av (.var 102) 112 (.cmp .eq (.call 860 (.cons (.var 5) (.cons (.int 4) .nil))) (.int 0))) (.cons (.ret (.var 102)) .nil)))))))
noncomputable def pI:Ss:=(.cons (.ret (.ite (.bt (.var 103) 3) (.attr (.var 103) 119) (.repr (.var 103)))) .nil)
noncomputable def na:Ss:=(.cons (.ret (.comp vd [33] (.each 33 (.attr (.var 102) 83) .nil .nil) (.call 879 (.cons (.var 33) .nil)))) .nil)
noncomputable def pJ:Ss:=(.cons (.aN [(.nm 40),(.nm 29)] (.tup (.cons (.int 1) (.cons (.list (js 5) .nil) .nil)))) (.cons (.lu 57 (.var 98) (.cons (.asg 40 (.bin .mul (.var 40) (.var 57))) .nil)) (.cons (.forR 60 (.int 0) (.var 40) Fk (.cons (.aN [(.nm 37),(.nm 18)] (.tup (.cons (.var 60) (.cons (.list vd .nil) .nil)))) (.cons (.lu 57 (.rev (.var 98)) (.cons (.asg 18 (.bin .add (.list vd (.cons (.bin .mod (.var 37) (.var 57)) .nil)) (.var 18))) (.cons (.asg 37 (.bin .fdiv (.var 37) (.var 57))) .nil))) (.cons (.expr (.append (.var 29) (.var 18))) .nil)))) (.cons (.ret (.var 29)) .nil))))
noncomputable def lI:Ss:=(.cons (.aN [(.nm 12),(.nm 32)] (.tup (.cons (.int 1) (.cons (.int 1) .nil)))) (.cons (.forR 1 (.int 0) (.len (.var 30)) Fk (.cons (.asg 12 (.ite (.cmp .gt (.var 1) (.var 0)) (.bin .mul (.var 12) (.len (.idx (.var 30) (.var 1)))) (.var 12))) (.cons (.asg 32 (.ite (.cmp .lt (.var 1) (.var 0)) (.bin .mul (.var 32) (.len (.idx (.var 30) (.var 1)))) (.var 32))) .nil))) (.cons (.ret (.comp vd [63,41,70] (.rB 63 (.int 0) (.var 32) Fk .nil (.each 41 (.idx (.var 30) (.var 0)) .nil (.rB 70 (.int 0) (.var 12) Fk .nil .nil))) (.var 41))) .nil)))
noncomputable def nc:Ss:=(.cons (.lu 102 (.var 125) (.cons (.bS (.or (.cons (.not (.bt (.var 102) 13)) (.cons (.cmp .ne (.attr (.attr (.var 102) 91) 44) (.str "Array")) (.cons (.attr (.var 102) 112) (.cons (.cmp .Bj (.attr (.var 102) 119) (.var 84)) .nil))))) (.cons (.ret (.bool Fk)) .nil) .nil) (.cons (.expr (.append (.var 84) (.attr (.var 102) 119))) .nil))) (.cons (.ret (.bool vk)) .nil))
noncomputable def jo:Ss:=(.cons (.bS (.or (.cons (.not (.call 903 (.cons (.list vd (.cons (.var 102) .nil)) (.cons (.var 84) .nil)))) (.cons (.not (.call 903 (.cons (.attr (.var 102) 83) (.cons (.var 84) .nil)))) .nil))) (.cons (.ret (.bool Fk)) .nil) .nil) (.cons (.ret (.cmp .eq (.comp vd [18] (.each 18 (.attr (.var 102) 83) .nil .nil) (.call 884 (.cons (.var 18) .nil))) (.var 6))) .nil))
noncomputable def uK:Ss:=(.cons (.bS (.cmp .gt (.call 860 (.cons (.var 5) (.cons (.int 3) .nil))) (.int 0)) (.cons (.ret (.bin .sub (.bin .sub (.call 860 (.cons (.var 5) (.cons (.bin .add (.bin .mul (.int 2) (.var 40)) (.int 5)) .nil))) (.var 40)) (.int 2))) .nil) .nil) (.cons (.asg 7 (.bin .add (.idx (.list vd (.cons (.bin .pow (.int 2) (.int 63)) (.cons (.bin .pow (.int 2) (.int 64)) (.cons (.bin .pow (.int 10) (.int 30)) (.cons (.idx (.var 5) (.int 4)) .nil))))) (.call 860 (.cons (.var 5) (.cons (.int 4) .nil)))) (.call 860 (.cons (.var 5) (.cons (.int 9) .nil))))) (.cons (.ret (.ite (.cmp .eq (.call 860 (.cons (.var 5) (.cons (.int 2) .nil))) (.int 0)) (.var 7) (.bin .sub (.int 0) (.var 7)))) .nil)))
noncomputable def gr:Ss:=(.cons (.asg 52 (.call 884 (.cons (.var 100) .nil))) (.cons (.asg 40 (.len (.var 52))) (.cons (.asg 3 (.call 922 (.cons (.var 5) (.cons (.var 40) .nil)))) (.cons (.asg 88 (.call 442 (.cons (.var 104) (.cons (.var 100) (.cons (.list vd (.cons (.var 3) .nil)) .nil))))) (.cons (.bS (.or (.cons (.not (.call 903 (.cons (.list vd (.cons (.var 88) .nil)) (.cons (.var 84) .nil)))) (.cons (.cmp .ne (.call 884 (.cons (.var 88) .nil)) (.comp vd [1] (.rB 1 (.int 0) (.var 40) Fk .nil .nil) (.idx (.var 52) (.bin .mod (.bin .add (.var 1) (.var 3)) (.var 40))))) .nil))) (.cons (.ret (.bool Fk)) .nil) .nil) (.cons (.asg 70 (.call 442 (.cons (.var 104) (.cons (.var 88) (.cons (.list vd (.cons (.bin .sub (.int 0) (.var 3)) .nil)) .nil))))) (.cons (.bS (.or (.cons (.not (.call 903 (.cons (.list vd (.cons (.var 70) .nil)) (.cons (.var 84) .nil)))) (.cons (.cmp .ne (.call 884 (.cons (.var 70) .nil)) (.var 52)) .nil))) (.cons (.ret (.bool Fk)) .nil) .nil) (.cons (.asg 97 (.comp vd [110] (.each 110 (.attr (.var 131) 83) .nil .nil) (.call 884 (.cons (.call 442 (.cons (.var 104) (.cons (.var 110) (.cons (.list vd (.cons (.var 3) .nil)) .nil)))) .nil)))) (.cons (.bS (.not (.call 908 (.cons (.call 485 (.cons (.var 104) (.cons (.var 88) (.cons (.list vd .nil) .nil)))) (.cons (.var 84) (.cons (.var 97) .nil))))) (.cons (.ret (.bool Fk)) .nil) .nil) (.cons (.asg 79 (.call 475 (.cons (.var 104) (.cons (.var 100) (.cons (.list vd (.cons (.var 3) (.cons (.bin .sub (.int 0) (.var 3)) .nil))) .nil))))) (.cons (.bS (.cmp .ne (.call 884 (.cons (.var 79) .nil)) (.comp vd [2] (.each 2 (.list vd (.cons (.var 3) (.cons (.bin .sub (.int 0) (.var 3)) .nil))) .nil .nil) (.ite (.nX .le .lt (.bin .sub (.int 0) (.var 40)) (.var 2) (.var 40)) (.idx (.var 52) (.bin .mod (.var 2) (.var 40))) (.str "None")))) (.cons (.ret (.bool Fk)) .nil) .nil) (.cons (.ret (.and (.cons (.cmp .eq (.attr (.call 470 (.cons (.var 104) (.cons (.var 88) (.cons (.list vd (.cons (.bin .sub (.int 0) (.var 3)) .nil)) .nil)))) 119) (.attr (.var 88) 119)) (.cons (.cmp .eq (.call 884 (.cons (.var 88) .nil)) (.var 52)) .nil)))) .nil))))))))))))
noncomputable def hY:Ss:=(.cons (.asg 35 (.call 463 (.cons (.var 104) (.cons (.var 100) (.cons (.list vd (.cons (.int 1) .nil)) .nil))))) (.cons (.bS (.or (.cons (.not (.call 903 (.cons (.list vd (.cons (.var 35) .nil)) (.cons (.var 84) .nil)))) (.cons (.cmp .ne (.call 884 (.cons (.var 35) .nil)) (.comp vd [18,41] (.each 18 (.var 6) .nil (.each 41 (.var 18) .nil .nil)) (.var 41))) .nil))) (.cons (.ret (.bool Fk)) .nil) .nil) (.cons (.bS (.cmp .eq (.var 6) (.list vd .nil)) (.cons (.ret (.cmp .eq (.attr (.call 421 (.cons (.var 104) (.cons (.var 100) (.cons (.list vd (.cons (.int 0) (.cons (.int 2) .nil))) .nil)))) 83) (.list vd .nil))) .nil) .nil) (.cons (.aN [(.nm 60),(.nm 65)] (.tup (.cons (.call 860 (.cons (.var 5) (.cons (.len (.var 6)) .nil))) (.cons (.len (.idx (.var 6) (.int 0))) .nil)))) (.cons (.aN [(.nm 94),(.nm 46)] (.tup (.cons (.call 421 (.cons (.var 104) (.cons (.var 35) (.cons (.list vd (.cons (.bin .mul (.var 60) (.var 65)) (.cons (.var 65) .nil))) .nil)))) (.cons (.call 421 (.cons (.var 104) (.cons (.var 100) (.cons (.list vd (.cons (.var 60) (.cons (.int 2) .nil))) .nil)))) .nil)))) (.cons (.bS (.or (.cons (.not (.call 903 (.cons (.list vd (.cons (.var 94) (.cons (.var 46) .nil))) (.cons (.var 84) .nil)))) (.cons (.cmp .ne (.call 884 (.cons (.var 94) .nil)) (.idx (.var 6) (.var 60))) .nil))) (.cons (.ret (.bool Fk)) .nil) .nil) (.cons (.ret (.cmp .eq (.call 884 (.cons (.var 46) .nil)) (.comp vd [1] (.rB 1 (.var 60) (.min2 (.bin .add (.var 60) (.int 2)) (.len (.var 6))) vk .nil .nil) (.attr (.idx (.attr (.var 100) 83) (.var 1)) 119)))) .nil)))))))
noncomputable def fX:Ss:=(.cons (.asg 65 (.len (.attr (.var 131) 83))) (.cons (.asg 93 (.comp vd [1] (.rB 1 (.int 0) (.call 860 (.cons (.var 5) (.cons (.int 4) .nil))) Fk .nil .nil) (.bin .sub (.bin .sub (.call 860 (.cons (.var 5) (.cons (.bin .add (.bin .mul (.int 2) (.var 65)) (.int 2)) .nil))) (.var 65)) (.int 1)))) (.cons (.asg 190 (.cmp .ne (.comp vd [47] (.each 47 (.var 93) (.cons (.not (.nX .le .lt (.bin .sub (.int 0) (.var 65)) (.var 47) (.var 65))) .nil) .nil) (.var 47)) (.list vd .nil))) (.cons (.asg 81 (.cV (.call 485 (.cons (.var 104) (.cons (.call 475 (.cons (.var 104) (.cons (.var 131) (.cons (.var 93) .nil)))) (.cons (.list vd .nil) .nil)))))) (.cons (.bS (.and (.cons (.var 190) (.cons (.cmp .ne (.var 81) (.str "TypeError: no implicit conversion of nil into Array")) .nil))) (.cons (.ret (.bool Fk)) .nil) .nil) (.cons (.bS (.and (.cons (.not (.var 190)) (.cons (.not (.call 908 (.cons (.var 81) (.cons (.var 84) (.cons (.ite (.cmp .ne (.var 93) (.list vd .nil)) (.comp vd [18] (.each 18 (.var 6) .nil .nil) (.comp vd [47] (.each 47 (.var 93) .nil .nil) (.idx (.var 18) (.bin .mod (.var 47) (.var 65))))) (.list vd .nil)) .nil))))) .nil))) (.cons (.ret (.bool Fk)) .nil) .nil) (.cons (.bS (.cmp .eq (.var 6) (.list vd .nil)) (.cons (.ret (.bool vk)) .nil) .nil) (.cons (.asg 60 (.call 860 (.cons (.var 5) (.cons (.len (.var 6)) .nil)))) (.cons (.asg 79 (.call 475 (.cons (.var 104) (.cons (.idx (.attr (.var 100) 83) (.var 60)) (.cons (.var 93) .nil))))) (.cons (.asg 85 (.comp vd [47] (.each 47 (.var 93) .nil .nil) (.ite (.nX .le .lt (.bin .sub (.int 0) (.var 65)) (.var 47) (.var 65)) (.idx (.idx (.var 6) (.var 60)) (.bin .mod (.var 47) (.var 65))) (.str "None")))) (.cons (.ret (.and (.cons (.call 903 (.cons (.list vd (.cons (.var 79) .nil)) (.cons (.var 84) .nil))) (.cons (.cmp .eq (.call 884 (.cons (.var 79) .nil)) (.var 85)) .nil)))) .nil)))))))))))
noncomputable def fi:Ss:=(.cons (.asg 60 (.call 860 (.cons (.var 5) (.cons (.int 7) .nil)))) (.cons (.asg 44 (.idx (.list vd (.cons (.str "nil") (.cons (.str "true") (.cons (.str "Integer") (.cons (.str "Symbol") (.cons (.str "String") (.cons (.str "Range") (.cons (.str "Hash") .nil)))))))) (.var 60))) (.cons (.asg 145 (.idx (.list vd (.cons .none (.cons (.bool vk) (.cons (.int 5) (.cons (.str "a") (.cons (.aD (.var 104) 62 (.cons (.str "a") .nil)) (.cons (.aD (.var 104) 159 (.cons (.int 0) (.cons (.int 1) (.cons (.bool Fk) .nil)))) (.cons (.aD (.var 104) 160 (.cons (.list vd (.cons (.tup (.cons (.int 1) (.cons (.int 2) .nil))) .nil)) .nil)) .nil)))))))) (.var 60))) (.cons (.asg 86 (.bin .add (.i6 (.var 108) (.int 1)) (.bin .mul (.list vd (.cons (.idx (.var 108) (.int 0)) .nil)) (.int 20)))) (.cons (.asg 2 (.call 860 (.cons (.var 5) (.cons (.bin .add (.len (.var 86)) (.int 1)) .nil)))) (.cons (.asg 81 (.cV (.call 480 (.cons (.var 104) (.cons (.idx (.var 108) (.int 0)) (.cons (.bin .add (.bin .add (.i5 (.var 86) (.var 2)) (.list vd (.cons (.var 145) .nil))) (.i6 (.var 86) (.var 2))) .nil)))))) (.cons (.bS (.cmp .ne (.var 81) (.bin .add (.bin .add (.str "TypeError: no implicit conversion of ") (.var 44)) (.str " into Array"))) (.cons (.ret (.bool Fk)) .nil) .nil) (.cons (.aN [(.nm 42),(.nm 8)] (.tup (.cons (.idx (.var 108) (.call 860 (.cons (.var 5) (.cons (.len (.var 108)) .nil)))) (.cons (.call 860 (.cons (.var 5) (.cons (.int 40) .nil))) .nil)))) (.cons (.asg 126 (.ite (.cmp .gt (.var 8) (.int 20)) (.bin .mul (.list vd (.cons (.var 42) .nil)) (.int 20)) (.bin .add (.bin .add (.bin .mul (.list vd (.cons (.var 42) .nil)) (.var 8)) (.list vd (.cons (.aD (.var 104) 136 (.cons (.list vd .nil) .nil)) .nil))) (.bin .mul (.list vd (.cons (.var 42) .nil)) (.bin .sub (.int 20) (.var 8)))))) (.cons (.aN [(.nm 98),(.nm 40)] (.tup (.cons (.bin .add (.list vd (.cons (.len (.attr (.var 42) 83)) .nil)) (.comp vd [14] (.each 14 (.var 126) .nil .nil) (.len (.attr (.var 14) 83)))) (.cons (.int 1) .nil)))) (.cons (.lu 57 (.ite (.cmp .Bj (.int 0) (.var 98)) (.i5 (.var 98) (.index (.var 98) (.int 0))) (.var 98)) (.cons (.asg 40 (.bin .mul (.var 40) (.var 57))) .nil)) (.cons (.asg 149 (.aD (.var 104) 119 .nil)) (.cons (.asg 106 (.cV (.call 480 (.cons (.var 104) (.cons (.var 42) (.cons (.var 126) .nil)))))) (.cons (.bS (.cmp .gt (.var 40) (.int 20000)) (.cons (.ret (.and (.cons (.cmp .eq (.var 106) (.str "ArgumentError: argument too big")) (.cons (.cmp .lt (.bin .sub (.aD (.var 104) 119 .nil) (.var 149)) (.int 50)) .nil)))) .nil) .nil) (.cons (.ret (.and (.cons (.bt (.var 106) 13) (.cons (.cmp .eq (.len (.attr (.var 106) 83)) (.toInt (.cmp .FI (.int 0) (.var 98)))) .nil)))) .nil)))))))))))))))
noncomputable def gu:Ss:=(.cons (.aN [(.nm 40),(.nm 65),(.nm 60)] (.tup (.cons (.len (.var 6)) (.cons (.len (.var 108)) (.cons (.int 0) .nil))))) (.cons (.asg 97 (.comp vd [110] (.each 110 (.attr (.var 131) 83) .nil .nil) (.call 884 (.cons (.var 110) .nil)))) (.cons (.bS (.cmp .gt (.var 40) (.int 0)) (.cons (.asg 60 (.call 860 (.cons (.var 5) (.cons (.var 40) .nil)))) (.cons (.asg 18 (.idx (.attr (.var 100) 83) (.var 60))) (.cons (.bS (.cmp .ne (.attr (.call 428 (.cons (.var 104) (.cons (.var 18) (.cons (.list vd (.cons .none .nil)) .nil)))) 119) (.attr (.var 18) 119)) (.cons (.ret (.bool Fk)) .nil) .nil) (.cons (.asg 6 (.comp vd [1] (.rB 1 (.int 0) (.var 40) Fk .nil .nil) (.bin .add (.idx (.var 6) (.var 1)) (.bin .mul (.list vd (.cons (.str "None") .nil)) (.toInt (.cmp .eq (.var 1) (.var 60))))))) .nil)))) .nil) (.cons (.asg 42 (.idx (.var 108) (.call 860 (.cons (.var 5) (.cons (.var 65) .nil))))) (.cons (.bS (.not (.attr (.var 42) 112)) (.cons (.expr (.call 428 (.cons (.var 104) (.cons (.var 42) (.cons (.list vd (.cons (.str "z") .nil)) .nil))))) .nil) .nil) (.cons (.bS (.or (.cons (.cmp .ne (.comp vd [18] (.each 18 (.attr (.var 100) 83) .nil .nil) (.call 884 (.cons (.var 18) .nil))) (.var 6)) (.cons (.cmp .ne (.comp vd [110] (.each 110 (.attr (.var 131) 83) .nil .nil) (.call 884 (.cons (.var 110) .nil))) (.var 97)) .nil))) (.cons (.ret (.bool Fk)) .nil) .nil) (.cons (.asg 81 (.cV (.call 485 (.cons (.var 104) (.cons (.var 100) (.cons (.list vd .nil) .nil)))))) (.cons (.bS (.cmp .lt (.var 40) (.int 2)) (.cons (.ret (.call 908 (.cons (.var 81) (.cons (.var 84) (.cons (.comp vd [18,41] (.each 18 (.var 6) .nil (.each 41 (.var 18) .nil .nil)) (.list vd (.cons (.var 41) .nil))) .nil))))) .nil) .nil) (.cons (.asg 46 (.ite (.cmp .eq (.var 60) (.int 0)) (.list vd (.cons (.var 65) (.cons (.bin .add (.var 65) (.int 1)) .nil))) (.list vd (.cons (.bin .add (.var 65) (.int 1)) (.cons (.var 65) .nil))))) (.cons (.ret (.cmp .eq (.var 81) (.bin .add (.bin .add (.bin .add (.bin .add (.str "IndexError: element size differs (") (.toStr (.idx (.var 46) (.int 0)))) (.str " should be ")) (.toStr (.idx (.var 46) (.int 1)))) (.str ")")))) .nil))))))))))
noncomputable def gq:Ss:=(.cons (.aN [(.nm 48),(.nm 108),(.nm 40)] (.tup (.cons (.call 867 (.cons (.var 104) .nil)) (.cons (.list vd .nil) (.cons (.int 1) .nil))))) (.cons (.forR 1 (.int 0) (.ite (.idx (.var 5) (.int 3)) (.int 2) (.bin .add (.int 1) (.call 860 (.cons (.var 5) (.cons (.int 4) .nil))))) Fk (.cons (.asg 102 (.call 872 (.cons (.var 104) (.cons (.var 5) (.cons (.var 48) (.cons (.var 108) (.cons (.min2 (.int 4) (.bin .fdiv (.int 24) (.max2 (.var 40) (.int 1)))) .nil))))))) (.cons (.aN [(.nm 108),(.nm 48),(.nm 40)] (.tup (.cons (.bin .add (.var 108) (.list vd (.cons (.var 102) .nil))) (.cons (.bin .add (.var 48) (.list vd (.cons (.var 102) .nil))) (.cons (.bin .mul (.var 40) (.len (.attr (.var 102) 83))) .nil))))) .nil))) (.cons (.aN [(.nm 30),(.nm 84)] (.tup (.cons (.comp vd [102] (.each 102 (.var 108) .nil .nil) (.call 884 (.cons (.var 102) .nil))) (.cons (.comp (js 2) [33] (.each 33 (.var 48) (.cons (.bt (.var 33) 3) .nil) .nil) (.attr (.var 33) 119)) .nil)))) (.cons (.asg 6 (.comp vd [18] (.each 18 (.call 891 (.cons (.comp vd [85] (.each 85 (.var 30) .nil .nil) (.len (.var 85))) .nil)) .nil .nil) (.comp vd [0] (.rB 0 (.int 0) (.len (.var 30)) Fk .nil .nil) (.idx (.idx (.var 30) (.var 0)) (.idx (.var 18) (.var 0)))))) (.cons (.asg 100 (.call 480 (.cons (.var 104) (.cons (.idx (.var 108) (.int 0)) (.cons (.i6 (.var 108) (.int 1)) .nil))))) (.cons (.bS (.not (.call 908 (.cons (.var 100) (.cons (.var 84) (.cons (.var 6) .nil))))) (.cons (.ret (.bool Fk)) .nil) .nil) (.cons (.asg 131 (.call 485 (.cons (.var 104) (.cons (.var 100) (.cons (.list vd .nil) .nil))))) (.cons (.bS (.not (.call 908 (.cons (.var 131) (.cons (.var 84) (.cons (.comp vd [0] (.rB 0 (.int 0) (.ite (.cmp .gt (.var 40) (.int 0)) (.len (.var 30)) (.int 0)) Fk .nil .nil) (.call 896 (.cons (.var 30) (.cons (.var 0) .nil)))) .nil))))) (.cons (.ret (.bool Fk)) .nil) .nil) (.cons (.bS (.not (.call 908 (.cons (.call 485 (.cons (.var 104) (.cons (.var 131) (.cons (.list vd .nil) .nil)))) (.cons (.var 84) (.cons (.var 6) .nil))))) (.cons (.ret (.bool Fk)) .nil) .nil) (.cons (.bS (.or (.cons (.not (.call 927 (.cons (.var 104) (.cons (.var 5) (.cons (.var 100) (.cons (.var 131) (.cons (.var 84) .nil))))))) (.cons (.not (.call 932 (.cons (.var 104) (.cons (.var 5) (.cons (.var 100) (.cons (.var 84) (.cons (.var 6) .nil))))))) .nil))) (.cons (.ret (.bool Fk)) .nil) .nil) (.cons (.bS (.or (.cons (.not (.call 937 (.cons (.var 104) (.cons (.var 5) (.cons (.var 100) (.cons (.var 131) (.cons (.var 84) (.cons (.var 6) .nil)))))))) (.cons (.not (.call 942 (.cons (.var 104) (.cons (.var 5) (.cons (.var 108) .nil))))) .nil))) (.cons (.ret (.bool Fk)) .nil) .nil) (.cons (.bS (.cmp .ne (.comp vd [102] (.each 102 (.var 108) .nil .nil) (.call 884 (.cons (.var 102) .nil))) (.var 30)) (.cons (.ret (.bool Fk)) .nil) .nil) (.cons (.ret (.call 947 (.cons (.var 104) (.cons (.var 5) (.cons (.var 108) (.cons (.var 100) (.cons (.var 131) (.cons (.var 84) (.cons (.var 6) .nil))))))))) .nil)))))))))))))
noncomputable def m9:Ss:=(.cons (.asg 95 (.call 407 (.cons (.var 104) (.cons (.idx (.var 21) (.int 0)) (.cons (.len (.attr (.var 55) 83)) .nil))))) (.cons (.ret (.ite (.nX .le .lt (.int 0) (.var 95) (.len (.attr (.var 55) 83))) (.idx (.attr (.var 55) 83) (.var 95)) .none)) .nil))
noncomputable def rc:Ss:=(.cons (.bS (.and (.cons (.cmp .eq (.len (.var 21)) (.int 1)) (.cons (.not (.bt (.idx (.var 21) (.int 0)) 15)) .nil))) (.cons (.ret (.call 414 (.cons (.var 104) (.cons (.var 55) (.cons (.var 21) .nil))))) .nil) .nil) (.cons (.asg 59 (.call 400 (.cons (.var 104) (.cons (.var 21) (.cons (.len (.attr (.var 55) 83)) .nil))))) (.cons (.ret (.ite (.cmp .qE (.var 59) .none) .none (.aD (.var 104) 136 (.cons (.slice (.attr (.var 55) 83) (.idx (.var 59) (.int 0)) (.bin .add (.idx (.var 59) (.int 0)) (.idx (.var 59) (.int 1)))) .nil)))) .nil)))
noncomputable def mZ:Ss:=(.cons (.expr (.call 386 (.cons (.var 104) (.cons (.var 55) .nil)))) (.cons (.expr (.aD (.var 104) 177 (.cons (.bin .add (.len (.attr (.var 55) 83)) (.len (.var 21))) .nil))) (.cons (.expr (.extend (.attr (.var 55) 83) (.var 21))) (.cons (.ret (.var 55)) .nil))))
noncomputable def q9:Ss:=(.cons (.asg 61 (.ite (.cmp .eq (.var 21) (.list vd .nil)) (.int 1) (.call 372 (.cons (.var 104) (.cons (.idx (.var 21) (.int 0)) .nil))))) (.cons (.bS (.cmp .eq (.var 83) (.list vd .nil)) (.cons (.ret (.list vd .nil)) .nil) .nil) (.cons (.asg 95 (.bin .mod (.var 61) (.len (.var 83)))) (.cons (.ret (.bin .add (.i6 (.var 83) (.var 95)) (.i5 (.var 83) (.var 95)))) .nil))))
noncomputable def jn:Ss:=(.cons (.ret (.aD (.var 104) 136 (.cons (.call 435 (.cons (.var 104) (.cons (.attr (.var 55) 83) (.cons (.var 21) .nil)))) .nil))) .nil)
noncomputable def CA:Ss:=(.cons (.aN [(.nm 79),(.nm 64),(.nm 107),(.nm 40)] (.tup (.cons (.list (js 5) .nil) (.cons (.list (js 6) (.cons (.list (js 7) (.cons (.var 72) (.cons (.int 0) .nil))) .nil)) (.cons (.uz 8 (.attr (.var 72) 119) (.bool vk)) (.cons (.int 0) .nil)))))) (.cons (.i7 (.cmp .ne (.var 64) (.list vd .nil)) (.cons (.aN [(.nm 31),(.nm 95)] (.idx (.var 64) (.neg (.int 1)))) (.cons (.bS (.cmp .eq (.var 95) (.len (.attr (.var 31) 83))) (.cons (.expr (.pop (.var 64))) (.cons (.expr (.yA (.var 107) (.attr (.var 31) 119))) (.cons .cont .nil))) .nil) (.cons (.ed (.idx (.var 64) (.neg (.int 1))) (.int 1) (.bin .add (.var 95) (.int 1))) (.cons (.aN [(.nm 33),(.nm 40)] (.tup (.cons (.idx (.attr (.var 31) 83) (.var 95)) (.cons (.bin .add (.var 40) (.int 1)) .nil)))) (.cons (.expr (.aD (.var 104) 177 (.cons (.var 40) .nil))) (.cons (.bS (.or (.cons (.not (.bt (.var 33) 13)) (.cons (.nX .le .lt (.int 0) (.var 75) (.len (.var 64))) .nil))) (.cons (.expr (.append (.var 79) (.var 33))) .nil) (.cons (.bS (.and (.cons (.cmp .lt (.var 75) (.int 0)) (.cons (.cmp .Bj (.attr (.var 33) 119) (.var 107)) .nil))) (.cons (.expr (.aD (.var 104) 27 (.cons (.str "ArgumentError") (.cons (.str "tried to flatten recursive array") .nil)))) .nil) (.cons (.expr (.append (.var 64) (.list (js 7) (.cons (.var 33) (.cons (.int 0) .nil))))) (.cons (.ed (.var 107) (.attr (.var 33) 119) (.bool vk)) .nil))) .nil)) .nil))))))) (.cons (.ret (.var 79)) .nil)))
noncomputable def nl:Ss:=(.cons (.ret (.call 449 (.cons (.var 104) (.cons (.var 55) (.cons (.ite (.or (.cons (.cmp .eq (.var 21) (.list vd .nil)) (.cons (.cmp .qE (.idx (.var 21) (.int 0)) .none) .nil))) (.neg (.int 1)) (.call 372 (.cons (.var 104) (.cons (.idx (.var 21) (.int 0)) .nil)))) .nil))))) .nil)
noncomputable def hV:Ss:=(.cons (.ret (.aD (.var 104) 136 (.cons (.call 456 (.cons (.var 104) (.cons (.var 55) (.cons (.var 21) .nil)))) .nil))) .nil)
noncomputable def fW:Ss:=(.cons (.expr (.call 386 (.cons (.var 104) (.cons (.var 55) .nil)))) (.cons (.pK (.attr (.var 55) 83) (.call 435 (.cons (.var 104) (.cons (.attr (.var 55) 83) (.cons (.var 21) .nil))))) (.cons (.ret (.var 55)) .nil)))
noncomputable def hU:Ss:=(.cons (.aN [(.nm 79),(.nm 57)] (.tup (.cons (.list (js 5) .nil) (.cons (.len (.attr (.var 55) 83)) .nil)))) (.cons (.lu 103 (.var 21) (.cons (.bS (.bt (.var 103) 15) (.cons (.aN [(.nm 78),(.nm 36)] (.call 393 (.cons (.var 104) (.cons (.var 103) (.cons (.var 57) .nil))))) (.cons (.bS (.cmp .lt (.var 78) (.int 0)) (.cons (.expr (.aD (.var 104) 27 (.cons (.str "RangeError") (.cons (.qe (.cons (.call 358 (.cons (.var 103) .nil)) (.cons (.str " out of range") .nil))) .nil)))) .nil) .nil) (.cons (.expr (.aD (.var 104) 177 (.cons (.bin .add (.len (.var 79)) (.max2 (.int 0) (.bin .sub (.var 36) (.var 78)))) .nil))) (.cons (.expr (.extend (.var 79) (.comp vd [95] (.rB 95 (.var 78) (.var 36) vk .nil .nil) (.ite (.cmp .lt (.var 95) (.var 57)) (.idx (.attr (.var 55) 83) (.var 95)) .none)))) .nil)))) (.cons (.expr (.append (.var 79) (.call 414 (.cons (.var 104) (.cons (.var 55) (.cons (.list vd (.cons (.var 103) .nil)) .nil)))))) .nil)) .nil)) (.cons (.ret (.aD (.var 104) 136 (.cons (.var 79) .nil))) .nil)))
noncomputable def dU:Ss:=(.cons (.aN [(.nm 120),(.nm 40),(.nm 52)] (.tup (.cons (.comp vd [103] (.each 103 (.var 21) .nil .nil) (.call 379 (.cons (.var 104) (.cons (.var 103) .nil)))) (.cons (.len (.attr (.var 55) 83)) (.cons (.comp vd [33] (.each 33 (.attr (.var 55) 83) .nil .nil) (.list vd (.cons (.var 33) .nil))) .nil))))) (.cons (.lu 83 (.var 120) (.cons (.asg 40 (.bin .mul (.var 40) (.len (.var 83)))) (.cons (.expr (.aD (.var 104) 177 (.cons (.var 40) .nil))) .nil))) (.cons (.lu 83 (.ite (.cmp .gt (.var 40) (.int 0)) (.var 120) (.list vd .nil)) (.cons (.asg 52 (.comp vd [18,33] (.each 18 (.var 52) .nil (.each 33 (.var 83) .nil .nil)) (.bin .add (.var 18) (.list vd (.cons (.var 33) .nil))))) .nil)) (.cons (.ret (.aD (.var 104) 136 (.cons (.ite (.cmp .gt (.var 40) (.int 0)) (.comp vd [18] (.each 18 (.var 52) .nil .nil) (.aD (.var 104) 136 (.cons (.var 18) .nil))) (.list vd .nil)) .nil))) .nil))))
noncomputable def gp:Ss:=(.cons (.asg 52 (.list (js 5) .nil)) (.cons (.lu 103 (.attr (.var 55) 83) (.cons (.asg 18 (.call 379 (.cons (.var 104) (.cons (.var 103) .nil)))) (.cons (.bS (.and (.cons (.cmp .ne (.var 52) (.list vd .nil)) (.cons (.cmp .ne (.len (.var 18)) (.len (.idx (.var 52) (.int 0)))) .nil))) (.cons (.expr (.aD (.var 104) 27 (.cons (.str "IndexError") (.cons (.qe (.cons (.str "element size differs (") (.cons (.len (.var 18)) (.cons (.str " should be ") (.cons (.len (.idx (.var 52) (.int 0))) (.cons (.str ")") .nil)))))) .nil)))) .nil) .nil) (.cons (.expr (.append (.var 52) (.var 18))) (.cons (.expr (.aD (.var 104) 177 (.cons (.bin .mul (.len (.var 52)) (.len (.var 18))) .nil))) .nil))))) (.cons (.ret (.aD (.var 104) 136 (.cons (.comp vd [1] (.rB 1 (.int 0) (.ite (.cmp .ne (.var 52) (.list vd .nil)) (.len (.idx (.var 52) (.int 0))) (.int 0)) Fk .nil .nil) (.aD (.var 104) 136 (.cons (.comp vd [18] (.each 18 (.var 52) .nil .nil) (.idx (.var 18) (.var 1))) .nil))) .nil))) .nil)))
noncomputable def pF:Ss:=(.cons (.bS (.cmp .qE (.var 103) .none) (.cons (.expr (.aD (.var 104) 27 (.cons (.str "TypeError") (.cons (.str "no implicit conversion from nil to integer") .nil)))) .nil) .nil) (.cons (.bS (.not (.call 237 (.cons (.var 103) .nil))) (.cons (.expr (.aD (.var 104) 27 (.cons (.str "TypeError") (.cons (.qe (.cons (.str "no implicit conversion of ") (.cons (.call 365 (.cons (.var 104) (.cons (.var 103) .nil))) (.cons (.str " into Integer") .nil)))) .nil)))) .nil) .nil) (.cons (.ret (.var 103)) .nil)))
noncomputable def jm:Ss:=(.cons (.bS (.not (.bt (.var 103) 13)) (.cons (.expr (.aD (.var 104) 27 (.cons (.str "TypeError") (.cons (.qe (.cons (.str "no implicit conversion of ") (.cons (.call 365 (.cons (.var 104) (.cons (.var 103) .nil))) (.cons (.str " into Array") .nil)))) .nil)))) .nil) .nil) (.cons (.ret (.attr (.var 103) 83)) .nil))
noncomputable def mY:Ss:=(.cons (.bS (.attr (.var 102) 112) (.cons (.expr (.aD (.var 104) 27 (.cons (.str "FrozenError") (.cons (.qe (.cons (.str "can't modify frozen ") (.cons (.call 297 (.cons (.aD (.var 104) 151 (.cons (.var 102) .nil)) .nil)) (.cons (.str ": ") (.cons (.call 358 (.cons (.var 102) .nil)) .nil))))) .nil)))) .nil) .nil) .nil)
noncomputable def q8:Ss:=(.cons (.bS (.cmp .eq (.len (.var 21)) (.int 1)) (.cons (.aN [(.nm 78),(.nm 36)] (.call 393 (.cons (.var 104) (.cons (.idx (.var 21) (.int 0)) (.cons (.var 57) .nil))))) (.cons (.asg 74 (.max2 (.int 0) (.bin .sub (.var 36) (.var 78)))) .nil)) (.cons (.aN [(.nm 78),(.nm 74)] (.tup (.cons (.call 372 (.cons (.var 104) (.cons (.idx (.var 21) (.int 0)) .nil))) (.cons (.call 372 (.cons (.var 104) (.cons (.idx (.var 21) (.int 1)) .nil))) .nil)))) (.cons (.bS (.cmp .lt (.var 78) (.int 0)) (.cons .bad .nil) .nil) .nil))) (.cons (.bS (.or (.cons (.cmp .lt (.var 78) (.int 0)) (.cons (.cmp .gt (.var 78) (.var 57)) (.cons (.cmp .lt (.var 74) (.int 0)) .nil)))) (.cons (.ret .none) .nil) .nil) (.cons (.ret (.tup (.cons (.var 78) (.cons (.min2 (.var 74) (.bin .sub (.var 57) (.var 78))) .nil)))) .nil)))
noncomputable def pE:Ss:=(.cons (.asg 95 (.call 372 (.cons (.var 104) (.cons (.var 103) .nil)))) (.cons (.ret (.ite (.cmp .lt (.var 95) (.int 0)) (.bin .add (.var 95) (.var 57)) (.var 95))) .nil))
noncomputable def ni:Ss:=(.cons (.bS (.cmp .qE (.var 103) .none) (.cons (.ret (.str "nil")) .nil) .nil) (.cons (.bS (.bt (.var 103) 1) (.cons (.ret (.ite (.var 103) (.str "true") (.str "false"))) .nil) .nil) (.cons (.ret (.call 297 (.cons (.aD (.var 104) 151 (.cons (.var 103) .nil)) .nil))) .nil)))
noncomputable def uL:Ss:=(.cons (.ret (.and (.cons (.bt (.var 103) 0) (.cons (.not (.bt (.var 103) 1)) .nil)))) .nil)
noncomputable def nj:Ss:=(.cons (.aN [(.nm 71),(.nm 109),(.nm 13)] (.tup (.cons (.str "") (.cons (.str "") (.cons (.gm 1 8) .nil))))) (.cons (.i7 (.cmp .FI (.attr (.var 117) 119) (.var 13)) (.cons (.ed (.var 13) (.attr (.var 117) 119) (.bool vk)) (.cons (.bS (.cmp .wb (.attr (.var 117) 150) .none) (.cons (.aN [(.nm 71),(.nm 109),(.nm 117)] (.tup (.cons (.bin .add (.var 71) (.str "#<Class:")) (.cons (.bin .add (.str ">") (.var 109)) (.cons (.attr (.var 117) 150) .nil))))) (.cons (.bS (.not (.bt (.var 117) 17)) (.cons (.aN [(.nm 71),(.nm 109),(.nm 117)] (.tup (.cons (.bin .add (.var 71) (.str "#<")) (.cons (.bin .add (.str ">") (.var 109)) (.cons (.attr (.var 117) 91) .nil))))) .nil) .nil) (.cons .cont .nil))) .nil) (.cons (.bS (.cmp .qE (.attr (.var 117) 44) .none) (.cons .brk .nil) .nil) (.cons (.bS (.cmp .qE (.attr (.var 117) 90) .none) (.cons (.ret (.bin .add (.bin .add (.var 71) (.attr (.var 117) 44)) (.var 109))) .nil) .nil) (.cons (.aN [(.nm 109),(.nm 117)] (.tup (.cons (.bin .add (.bin .add (.str "::") (.attr (.var 117) 44)) (.var 109)) (.cons (.attr (.var 117) 90) .nil)))) .nil)))))) (.cons (.ret (.bin .add (.bin .add (.var 71) (.ite (.attr (.var 117) 153) (.str "#<Class>") (.str "#<Module>"))) (.var 109))) .nil)))
noncomputable def mJ:Ss:=(.cons (.bS (.cmp .qE (.var 103) .none) (.cons (.ret (.str "nil")) .nil) .nil) (.cons (.bS (.bt (.var 103) 1) (.cons (.ret (.str "bool")) .nil) .nil) (.cons (.bS (.bt (.var 103) 0) (.cons (.ret (.str "int")) .nil) .nil) (.cons (.ret (.ite (.bt (.var 103) 2) (.str "sym") (.str "thing"))) .nil))))
noncomputable def Cz:Ss:=(.cons (.asg 58 (.call 244 (.cons (.var 14) .nil))) (.cons (.bS (.cmp .ne (.var 58) (.call 244 (.cons (.var 89) .nil))) (.cons (.ret (.bool Fk)) .nil) .nil) (.cons (.ret (.ite (.cmp .eq (.var 58) (.str "thing")) (.cmp .eq (.attr (.var 14) 119) (.attr (.var 89) 119)) (.cmp .eq (.var 14) (.var 89)))) .nil)))
noncomputable def re:Ss:=(.cons (.asg 58 (.call 244 (.cons (.var 103) .nil))) (.cons (.bS (.cmp .ne (.var 58) (.str "thing")) (.cons (.ret (.tup (.cons (.var 58) (.cons (.var 103) .nil)))) .nil) .nil) (.cons (.bS (.bt (.var 103) 12) (.cons (.ret (.tup (.cons (.str "text") (.cons (.attr (.var 103) 62) .nil)))) .nil) .nil) (.cons (.asg 50 (.ite (.cmp .qE (.var 50) .none) (.list vd (.cons (.glob 3) .nil)) (.var 50))) (.cons (.bS (.and (.cons (.cmp .gt (.var 26) (.int 0)) (.cons (.bt (.var 103) 13) (.cons (.call 258 (.cons (.var 50) (.cons (.len (.attr (.var 103) 83)) .nil))) .nil)))) (.cons .bad .nil) .nil) (.cons (.bS (.and (.cons (.cmp .gt (.var 26) (.int 0)) (.cons (.bt (.var 103) 14) (.cons (.call 258 (.cons (.var 50) (.cons (.bin .mul (.int 2) (.len (.attr (.var 103) 52))) .nil))) .nil)))) (.cons .bad (.cons .bad .nil)) .nil) (.cons (.bS (.and (.cons (.cmp .gt (.var 26) (.int 0)) (.cons (.bt (.var 103) 15) (.cons (.call 258 (.cons (.var 50) (.cons (.int 2) .nil))) .nil)))) (.cons (.ret (.tup (.cons (.str "range") (.cons (.call 264 (.cons (.attr (.var 103) 78) (.cons (.bin .sub (.var 26) (.int 1)) (.cons (.var 50) .nil)))) (.cons (.call 264 (.cons (.attr (.var 103) 36) (.cons (.bin .sub (.var 26) (.int 1)) (.cons (.var 50) .nil)))) (.cons (.attr (.var 103) 45) .nil)))))) .nil) .nil) (.cons (.ret (.tup (.cons (.str "thing") (.cons (.attr (.var 103) 119) .nil)))) .nil))))))))
noncomputable def ft:Ss:=(.cons (.av (.var 55) 139 (.var 139)) (.cons (.av (.var 55) 140 (.ite (.cmp .qE (.var 140) .none) (.gm 0 0) (.var 140))) (.cons (.av (.var 55) 49 (.var 49)) (.cons (.av (.var 55) 43 (.var 43)) (.cons (.av (.var 55) 101 (.int 0)) (.cons (.av (.var 55) 199 (.int 0)) (.cons (.av (.var 55) 191 (.int 8)) (.cons (.av (.var 55) 209 (.gm 0 0)) (.cons (.av (.var 55) 38 (.gm 2 9)) (.cons (.av (.var 55) 146 (.int 0)) (.cons (.av (.var 55) 207 (.int 0)) (.cons (.av (.var 55) 132 (.gm 0 0)) (.cons (.av (.var 55) 15 (.list vd .nil)) (.cons (.av (.var 55) 31 .none) (.cons (.av (.var 55) 155 (.bool Fk)) (.cons (.av (.var 55) 39 (.new 1 (.cons (.aD (.var 55) 119 .nil) (.cons (.aD (.var 55) 129 (.cons (.str "Object") .nil)) .nil)))) (.cons (.av (.var 55) 155 (.bool vk)) (.cons (.lu 44 (.keys (.attr (.var 55) 38)) (.cons (.expr (.aD (.var 55) 152 (.cons (.var 44) .nil))) .nil)) .nil))))))))))))))))))
noncomputable def jp:Ss:=(.cons (.eD (.var 55) 199 .add (.int 1)) (.cons (.ret (.attr (.var 55) 199)) .nil))
noncomputable def iM:Ss:=(.cons (.asg 79 (.BG (.attr (.var 55) 38) (.var 44))) (.cons (.ret (.ite (.cmp .qE (.var 79) .none) (.aD (.var 55) 204 (.cons (.var 44) .nil)) (.var 79))) .nil))
noncomputable def b0:Ss:=(.cons (.asg 153 (.cmp .FI (.var 44) (.glob 1))) (.cons (.asg 79 (.new 7 (.cons (.aD (.var 55) 119 .nil) (.cons .none (.cons (.var 44) (.cons (.var 153) .nil)))))) (.cons (.ed (.attr (.var 55) 38) (.var 44) (.var 79)) (.cons (.av (.var 79) 118 (.var 44)) (.cons (.asg 121 (.f' 0 (.var 44))) (.cons (.av (.var 79) 121 (.ite (.cmp .qE (.var 121) .none) .none (.aD (.var 55) 129 (.cons (.var 121) .nil)))) (.cons (.av (.var 79) 91 (.aD (.var 55) 129 (.cons (.ite (.var 153) (.str "Class") (.str "Module")) .nil))) (.cons (.av (.var 79) 87 (.comp vd [89] (.each 89 (.fq 1 (.var 44)) .nil .nil) (.aD (.var 55) 129 (.cons (.var 89) .nil)))) (.cons (.bS (.attr (.var 55) 155) (.cons (.expr (.aD (.var 55) 152 (.cons (.var 44) .nil))) .nil) .nil) (.cons (.ret (.var 79)) .nil))))))))))
noncomputable def ib:Ss:=(.cons (.bS (.or (.cons (.cmp .Bj (.bin .add (.var 44) (.str ".")) (.attr (.var 55) 139)) (.cons (.cmp .Bj (.bin .add (.var 44) (.str ".")) (.attr (.var 55) 140)) .nil))) (.cons (.expr (.call 539 (.cons (.var 55) (.cons (.idx (.attr (.var 55) 38) (.var 44)) .nil)))) .nil) .nil) .nil)
noncomputable def fY:Ss:=(.cons (.asg 91 (.aD (.var 55) 129 (.cons (.ite (.var 153) (.str "Class") (.str "Module")) .nil))) (.cons (.bS (.and (.cons (.var 153) (.cons (.cmp .qE (.var 121) .none) .nil))) (.cons (.asg 121 (.aD (.var 55) 129 (.cons (.str "Object") .nil))) .nil) .nil) (.cons (.asg 124 (.ite (.or (.cons (.cmp .qE (.var 90) .none) (.cons (.call 251 (.cons (.var 90) (.cons (.aD (.var 55) 129 (.cons (.str "Object") .nil)) .nil))) .nil))) .none (.var 90))) (.cons (.asg 79 (.new 7 (.cons (.aD (.var 55) 119 .nil) (.cons (.var 91) (.cons (.var 44) (.cons (.var 153) (.cons (.var 121) (.cons (.var 124) .nil)))))))) (.cons (.av (.var 79) 150 (.var 150)) (.cons (.ret (.var 79)) .nil))))))
noncomputable def cj:Ss:=(.cons (.bS (.cmp .qE (.var 103) .none) (.cons (.ret (.aD (.var 55) 129 (.cons (.str "NilClass") .nil))) .nil) .nil) (.cons (.bS (.bt (.var 103) 1) (.cons (.ret (.aD (.var 55) 129 (.cons (.ite (.var 103) (.str "TrueClass") (.str "FalseClass")) .nil))) .nil) .nil) (.cons (.bS (.bt (.var 103) 0) (.cons (.ret (.aD (.var 55) 129 (.cons (.str "Integer") .nil))) .nil) .nil) (.cons (.ret (.ite (.bt (.var 103) 2) (.aD (.var 55) 129 (.cons (.str "Symbol") .nil)) (.attr (.var 103) 91))) .nil))))
noncomputable def iK:Ss:=(.cons (.i7 (.or (.cons (.cmp .qE (.attr (.var 117) 118) .none) (.cons (.aD (.var 117) 115 .nil) .nil))) (.cons (.asg 117 (.attr (.var 117) 121)) .nil)) (.cons (.ret (.attr (.var 117) 118)) .nil))
noncomputable def lJ:Ss:=(.cons (.ret (.new 2 (.cons (.aD (.var 55) 119 .nil) (.cons (.aD (.var 55) 129 (.cons (.str "String") .nil)) (.cons (.var 62) .nil))))) .nil)
noncomputable def iL:Ss:=(.cons (.ret (.new 3 (.cons (.aD (.var 55) 119 .nil) (.cons (.aD (.var 55) 129 (.cons (.str "Array") .nil)) (.cons (.copy (js 1) (.var 83)) .nil))))) .nil)
noncomputable def hZ:Ss:=(.cons (.asg 79 (.new 4 (.cons (.aD (.var 55) 119 .nil) (.cons (.aD (.var 55) 129 (.cons (.str "Hash") .nil)) .nil)))) (.cons (.BM [10,103] (.var 92) (.cons (.expr (.aD (.var 79) 17 (.cons (.aD (.var 55) 116 (.cons (.var 10) .nil)) (.cons (.var 103) .nil)))) .nil)) (.cons (.ret (.var 79)) .nil)))
noncomputable def jq:Ss:=(.cons (.bS (.or (.cons (.not (.bt (.var 10) 12)) (.cons (.attr (.var 10) 112) .nil))) (.cons (.ret (.var 10)) .nil) .nil) (.cons (.asg 79 (.aD (.var 55) 62 (.cons (.attr (.var 10) 62) .nil))) (.cons (.av (.var 79) 112 (.bool vk)) (.cons (.ret (.var 79)) .nil))))
noncomputable def ia:Ss:=(.cons (.bS (.and (.cons (.cmp .wb (.var 78) .none) (.cons (.cmp .wb (.var 36) .none) .nil))) (.cons (.asg 114 (.or (.cons (.cmp .eq (.call 244 (.cons (.var 78) .nil)) (.str "bool")) (.cons (.cmp .eq (.call 244 (.cons (.var 36) .nil)) (.str "bool")) .nil)))) (.cons (.bS (.or (.cons (.var 114) (.cons (.not (.call 251 (.cons (.aD (.var 55) 151 (.cons (.var 78) .nil)) (.cons (.aD (.var 55) 151 (.cons (.var 36) .nil)) .nil)))) .nil))) (.cons (.expr (.aD (.var 55) 27 (.cons (.str "ArgumentError") (.cons (.str "bad value for range") .nil)))) .nil) .nil) .nil)) .nil) (.cons (.asg 79 (.new 5 (.cons (.aD (.var 55) 119 .nil) (.cons (.aD (.var 55) 129 (.cons (.str "Range") .nil)) (.cons (.var 78) (.cons (.var 36) (.cons (.var 133) .nil))))))) (.cons (.av (.var 79) 112 (.bool vk)) (.cons (.ret (.var 79)) .nil))))
noncomputable def jY:Ss:=(.cons (.bS (.aD (.var 117) 115 .nil) (.cons (.expr (.aD (.var 55) 27 (.cons (.str "TypeError") (.cons (.str "can't create instance of singleton class") .nil)))) .nil) .nil) (.cons (.aN [(.nm 51),(.nm 119)] (.tup (.cons (.aD (.var 55) 141 (.cons (.var 117) .nil)) (.cons (.aD (.var 55) 119 .nil) .nil)))) (.cons (.bS (.cmp .Bj (.var 51) (.glob 2)) (.cons (.expr (.aD (.var 55) 27 (.cons (.str "NoMethodError") (.cons (.bin .add (.str "undefined method 'new' for class ") (.call 297 (.cons (.var 117) .nil))) .nil)))) .nil) .nil) (.cons (.bS (.cmp .eq (.var 51) (.str "String")) (.cons (.ret (.new 2 (.cons (.var 119) (.cons (.var 117) (.cons (.str "") .nil))))) .nil) .nil) (.cons (.bS (.cmp .eq (.var 51) (.str "Array")) (.cons (.ret (.new 3 (.cons (.var 119) (.cons (.var 117) (.cons (.list (js 1) .nil) .nil))))) .nil) .nil) (.cons (.bS (.cmp .eq (.var 51) (.str "Hash")) (.cons (.ret (.new 4 (.cons (.var 119) (.cons (.var 117) .nil)))) .nil) .nil) (.cons (.bS (.cmp .eq (.var 51) (.str "Range")) (.cons (.ret (.new 5 (.cons (.var 119) (.cons (.var 117) .nil)))) .nil) .nil) (.cons (.bS (.cmp .eq (.var 51) (.str "Fiber")) (.cons .bad .nil) .nil) (.cons (.bS (.cmp .eq (.var 51) (.str "Proc")) (.cons .bad .nil) .nil) (.cons (.bS (.cmp .eq (.var 51) (.str "Class")) (.cons (.ret (.new 7 (.cons (.var 119) (.cons (.var 117) (.cons .none (.cons (.bool vk) (.cons (.aD (.var 55) 129 (.cons (.str "Object") .nil)) .nil))))))) .nil) .nil) (.cons (.bS (.cmp .eq (.var 51) (.str "Module")) (.cons (.ret (.new 7 (.cons (.var 119) (.cons (.var 117) (.cons .none (.cons (.bool Fk) .nil)))))) .nil) .nil) (.cons (.bS (.aD (.var 55) 210 (.cons (.var 117) .nil)) (.cons (.ret (.new 6 (.cons (.var 119) (.cons (.var 117) .nil)))) .nil) .nil) (.cons (.ret (.new 1 (.cons (.var 119) (.cons (.var 117) .nil)))) .nil)))))))))))))
noncomputable def dW:Ss:=(.cons (.bS (.cmp .gt (.var 74) (.glob 0)) (.cons (.expr (.aD (.var 55) 27 (.cons (.str "ArgumentError") (.cons (.str "argument too big") .nil)))) .nil) .nil) .nil)
noncomputable def jZ:Ss:=(.cons (.ret (.new 6 (.cons (.aD (.var 55) 119 .nil) (.cons (.aD (.var 55) 129 (.cons (.var 44) .nil)) (.cons (.aD (.var 55) 62 (.cons (.var 137) .nil)) .nil))))) .nil)
noncomputable def lK:Ss:=(.cons (.oK (.aD (.var 55) 77 (.cons (.var 44) (.cons (.var 137) .nil)))) .nil)
noncomputable def lL:Ss:=(.cons (.av (.var 55) 119 (.var 119)) (.cons (.av (.var 55) 91 (.var 91)) (.cons (.av (.var 55) 111 (.gm 0 0)) (.cons (.av (.var 55) 16 .none) (.cons (.av (.var 55) 112 (.bool Fk)) (.cons (.av (.var 55) 82 .none) .nil))))))
noncomputable def no:Ss:=(.cons (.expr (.gL 1 (.cons (.var 55) (.cons (.var 119) (.cons (.var 91) .nil))))) (.cons (.av (.var 55) 62 (.var 62)) .nil))
noncomputable def ie:Ss:=(.cons (.expr (.gL 1 (.cons (.var 55) (.cons (.var 119) (.cons (.var 91) .nil))))) (.cons (.av (.var 55) 83 (.ite (.cmp .qE (.var 83) .none) (.list vd .nil) (.var 83))) .nil))
noncomputable def gv:Ss:=(.cons (.expr (.gL 1 (.cons (.var 55) (.cons (.var 119) (.cons (.var 91) .nil))))) (.cons (.av (.var 55) 52 (.gm 3 10)) (.cons (.av (.var 55) 99 .none) .nil)))
noncomputable def ic:Ss:=(.cons (.asg 25 (.call 264 (.cons (.var 10) .nil))) (.cons (.asg 18 (.BH (.attr (.var 55) 52) (.var 25))) (.cons (.bS (.cmp .qE (.var 18) .none) (.cons (.ed (.attr (.var 55) 52) (.var 25) (.list vd (.cons (.var 10) (.cons (.var 103) .nil)))) .nil) (.cons (.ed (.var 18) (.int 1) (.var 103)) .nil)) .nil)))
noncomputable def gw:Ss:=(.cons (.expr (.gL 1 (.cons (.var 55) (.cons (.var 119) (.cons (.var 91) .nil))))) (.cons (.av (.var 55) 78 (.var 78)) (.cons (.av (.var 55) 36 (.var 36)) (.cons (.av (.var 55) 45 (.var 133)) .nil))))
noncomputable def gy:Ss:=(.cons (.expr (.gL 1 (.cons (.var 55) (.cons (.var 119) (.cons (.var 91) .nil))))) (.cons (.av (.var 55) 137 (.var 137)) (.cons (.av (.var 55) 73 .none) .nil)))
noncomputable def dC:Ss:=(.cons (.expr (.gL 1 (.cons (.var 55) (.cons (.var 119) (.cons (.var 91) .nil))))) (.cons (.av (.var 55) 44 (.var 44)) (.cons (.av (.var 55) 153 (.var 153)) (.cons (.av (.var 55) 121 (.var 121)) (.cons (.av (.var 55) 90 (.var 90)) (.cons (.av (.var 55) 138 (.gm 0 0)) (.cons (.av (.var 55) 168 (.gm 0 0)) (.cons (.av (.var 55) 87 (.list vd .nil)) (.cons (.av (.var 55) 71 (.list vd .nil)) (.cons (.av (.var 55) 150 .none) (.cons (.av (.var 55) 118 .none) (.cons (.av (.var 55) 34 .none) .nil))))))))))))
noncomputable def eK:Ss:=(.cons (.ret (.cmp .wb (.attr (.var 55) 150) .none)) .nil)
noncomputable def BK:Nat->Option gQ
 | 959=>js ⟨vd,11,[123],[],GP⟩
 | 853=>js ⟨vd,148,[123],[],rd⟩
 | 860=>js ⟨vd,167,[5,40],[],pG⟩
 | 867=>js ⟨vd,166,[104],[],pH⟩
 | 872=>js ⟨vd,185,[104,5,48,108,43],[],nh⟩
 | 879=>js ⟨vd,165,[103],[],pI⟩
 | 884=>js ⟨vd,188,[102],[],na⟩
 | 891=>js ⟨vd,164,[98],[],pJ⟩
 | 896=>js ⟨vd,197,[30,0],[],lI⟩
 | 903=>js ⟨vd,186,[125,84],[],nc⟩
 | 908=>js ⟨vd,206,[102,84,6],[],jo⟩
 | 922=>js ⟨vd,128,[5,40],[],uK⟩
 | 927=>js ⟨vd,217,[104,5,100,131,84],[],gr⟩
 | 932=>js ⟨vd,213,[104,5,100,84,6],[],hY⟩
 | 937=>js ⟨vd,220,[104,5,100,131,84,6],[],fX⟩
 | 942=>js ⟨vd,221,[104,5,108],[],fi⟩
 | 947=>js ⟨vd,216,[104,5,108,100,131,84,6],[],gu⟩
 | 952=>js ⟨vd,218,[104,5],[],gq⟩
 | 414=>js ⟨vd,173,[104,55,21],[],m9⟩
 | 421=>js ⟨vd,135,[104,55,21],[],rc⟩
 | 428=>js ⟨vd,174,[104,55,21],[],mZ⟩
 | 435=>js ⟨vd,142,[104,83,21],[],q9⟩
 | 442=>js ⟨vd,203,[104,55,21],[],jn⟩
 | 449=>js ⟨vd,28,[104,72,75],[],CA⟩
 | 456=>js ⟨vd,169,[104,55,21],[],nl⟩
 | 463=>js ⟨vd,211,[104,55,21],[],hV⟩
 | 470=>js ⟨vd,219,[104,55,21],[],fW⟩
 | 475=>js ⟨vd,212,[104,55,21],[],hU⟩
 | 480=>js ⟨vd,202,[104,55,21],[],dU⟩
 | 485=>js ⟨vd,215,[104,55,21],[],gp⟩
 | 372=>js ⟨vd,157,[104,103],[],pF⟩
 | 379=>js ⟨vd,175,[104,103],[],jm⟩
 | 386=>js ⟨vd,176,[104,102],[],mY⟩
 | 400=>js ⟨vd,144,[104,21,57],[],q8⟩
 | 407=>js ⟨vd,158,[104,103,57],[],pE⟩
 | 365=>js ⟨vd,171,[104,103],[],ni⟩
 | 237=>js ⟨vd,113,[103],[],uL⟩
 | 297=>js ⟨vd,170,[117],[],nj⟩
 | 244=>js ⟨vd,143,[103],[],mJ⟩
 | 251=>js ⟨vd,53,[14,89],[],Cz⟩
 | 264=>js ⟨vd,130,[103,26,50],[.int 12,.none],re⟩
 | 581=>js ⟨vd,0,[55,139,140,49,43],[.none,.none,.int 20000],ft⟩
 | 602=>js ⟨vd,119,[55],[],jp⟩
 | 623=>js ⟨vd,129,[55,44],[],iM⟩
 | 628=>js ⟨vd,204,[55,44],[],b0⟩
 | 635=>js ⟨vd,152,[55,44],[],ib⟩
 | 643=>js ⟨vd,192,[55,44,153,121,90,150],[.none,.none,.none],fY⟩
 | 650=>js ⟨vd,151,[55,103],[],cj⟩
 | 671=>js ⟨vd,141,[55,117],[],iK⟩
 | 685=>js ⟨vd,62,[55,62],[],lJ⟩
 | 692=>js ⟨vd,136,[55,83],[],iL⟩
 | 699=>js ⟨vd,160,[55,92],[],hZ⟩
 | 706=>js ⟨vd,116,[55,10],[],jq⟩
 | 713=>js ⟨vd,159,[55,78,36,133],[],ia⟩
 | 727=>js ⟨vd,102,[55,117],[],jY⟩
 | 755=>js ⟨vd,177,[55,74],[],dW⟩
 | 769=>js ⟨vd,77,[55,44,137],[],jZ⟩
 | 776=>js ⟨vd,27,[55,44,137],[],lK⟩
 | 37=>js ⟨vd,0,[55,119,91],[],lL⟩
 | 59=>js ⟨vd,0,[55,119,91,62],[.str (oC "")],no⟩
 | 79=>js ⟨vd,0,[55,119,91,83],[.none],ie⟩
 | 98=>js ⟨vd,0,[55,119,91],[],gv⟩
 | 105=>js ⟨vd,17,[55,10,103],[],ic⟩
 | 137=>js ⟨vd,0,[55,119,91,78,36,133],[.none,.none,.bool Fk],gw⟩
 | 178=>js ⟨vd,0,[55,119,91,137],[.none],gy⟩
 | 218=>js ⟨vd,0,[55,119,91,44,153,121,90],[.none,.bool Fk,.none,.none],dC⟩
 | 225=>js ⟨vd,115,[55],[],eK⟩
 | _=>vd
noncomputable def Gy:List Nat:=[959,853,860,867,872,879,884,891,896,903,908,922,927,932,937,942,947,952,414,421,428,435,442,449,456,463,470,475,480,485,372,379,386,400,407,365,237,297,244,251,264,581,602,623,628,635,643,650,671,685,692,699,706,713,727,755,769,776,37,59,79,98,105,137,178,218,225]
noncomputable def look (l:List (Nat×Nat)) (k:Nat):Option Nat:=l.lookup k
noncomputable def BN:List (Nat×Nat):=[(21,69),(237,113),(244,143),(251,53),(258,161),(264,130),(271,134),(276,189),(283,154),(290,214),(297,170),(304,200),(309,180),(316,201),(323,179),(330,194),(335,178),(342,195),(350,205),(358,56),(365,171),(372,157),(379,175),(386,176),(393,172),(400,144),(407,158),(414,173),(421,135),(428,174),(435,142),(442,203),(449,28),(456,169),(463,211),(470,219),(475,212),(480,202),(485,215),(532,208),(539,193),(546,198),(553,156),(853,148),(860,167),(867,166),(872,185),(879,165),(884,188),(891,164),(896,197),(903,186),(908,206),(915,187),(922,128),(927,217),(932,213),(937,220),(942,221),(947,216),(952,218),(959,11)]
noncomputable def U1 (f:Nat):Option Nat:=BN.lookup f
noncomputable def dS:List (Nat×Nat×Nat×Nat):=[(0,68,842,581),(1,67,40,37),(2,20,62,59),(3,162,82,79),(4,184,120,98),(5,183,140,137),(6,181,181,178),(7,196,228,218)]
noncomputable def O5 (c:Nat):Option Nat:=(dS.lookup c).map (·.1)
noncomputable def ig (c:Nat):Nat:=((dS.lookup c).map (·.2.1)).getD 0
noncomputable def rf (c:Nat):Nat:=((dS.lookup c).map (·.2.2)).getD 0
noncomputable def jk:List (Nat×Nat×Nat):=[(0,147,555),(1,66,558)]
noncomputable def O2 (c:Nat):Option Nat:=(jk.lookup c).map (·.1)
noncomputable def CH (c:Nat):Nat:=((jk.lookup c).map (·.2)).getD 0
noncomputable def ol:List (Nat×String×Option V):=[(0, "BasicObject",js (.none)),(0, "Object",js (.str (oC "BasicObject"))),(0, "Module",js (.str (oC "Object"))),(0, "Class",js (.str (oC "Module"))),(0, "Kernel",js (.none)),(0, "Comparable",js (.none)),(0, "Enumerable",js (.none)),(0, "NilClass",js (.str (oC "Object"))),(0, "TrueClass",js (.str (oC "Object"))),(0, "FalseClass",js (.str (oC "Object"))),(0, "Numeric",js (.str (oC "Object"))),(0, "Integer",js (.str (oC "Numeric"))),(0, "String",js (.str (oC "Object"))),(0, "Symbol",js (.str (oC "Object"))),(0, "Array",js (.str (oC "Object"))),(0, "Hash",js (.str (oC "Object"))),(0, "Range",js (.str (oC "Object"))),(0, "Proc",js (.str (oC "Object"))),(0, "Fiber",js (.str (oC "Object"))),(0, "Exception",js (.str (oC "Object"))),(0, "ScriptError",js (.str (oC "Exception"))),(0, "NotImplementedError",js (.str (oC "ScriptError"))),(0, "SystemStackError",js (.str (oC "Exception"))),(0, "StandardError",js (.str (oC "Exception"))),(0, "ArgumentError",js (.str (oC "StandardError"))),(0, "UncaughtThrowError",js (.str (oC "ArgumentError"))),(0, "FiberError",js (.str (oC "StandardError"))),(0, "IndexError",js (.str (oC "StandardError"))),(0, "KeyError",js (.str (oC "IndexError"))),(0, "StopIteration",js (.str (oC "IndexError"))),(0, "LocalJumpError",js (.str (oC "StandardError"))),(0, "NameError",js (.str (oC "StandardError"))),(0, "NoMethodError",js (.str (oC "NameError"))),(0, "NoMatchingPatternError",js (.str (oC "StandardError"))),(0, "NoMatchingPatternKeyError",js (.str (oC "NoMatchingPatternError"))),(0, "RangeError",js (.str (oC "StandardError"))),(0, "RuntimeError",js (.str (oC "StandardError"))),(0, "FrozenError",js (.str (oC "RuntimeError"))),(0, "TypeError",js (.str (oC "StandardError"))),(0, "ZeroDivisionError",js (.str (oC "StandardError"))),(1, "BasicObject",vd),(1, "Object",js (.tup [.str (oC "Kernel")])),(1, "Module",vd),(1, "Class",vd),(1, "Kernel",vd),(1, "Comparable",vd),(1, "Enumerable",vd),(1, "NilClass",vd),(1, "TrueClass",vd),(1, "FalseClass",vd),(1, "Numeric",js (.tup [.str (oC "Comparable")])),(1, "Integer",vd),(1, "String",js (.tup [.str (oC "Comparable")])),(1, "Symbol",js (.tup [.str (oC "Comparable")])),(1, "Array",js (.tup [.str (oC "Enumerable")])),(1, "Hash",js (.tup [.str (oC "Enumerable")])),(1, "Range",js (.tup [.str (oC "Enumerable")])),(1, "Proc",vd),(1, "Fiber",vd),(1, "Exception",vd),(1, "ScriptError",vd),(1, "NotImplementedError",vd),(1, "SystemStackError",vd),(1, "StandardError",vd),(1, "ArgumentError",vd),(1, "UncaughtThrowError",vd),(1, "FiberError",vd),(1, "IndexError",vd),(1, "KeyError",vd),(1, "StopIteration",vd),(1, "LocalJumpError",vd),(1, "NameError",vd),(1, "NoMethodError",vd),(1, "NoMatchingPatternError",vd),(1, "NoMatchingPatternKeyError",vd),(1, "RangeError",vd),(1, "RuntimeError",vd),(1, "FrozenError",vd),(1, "TypeError",vd),(1, "ZeroDivisionError",vd)]
noncomputable def oV:List (String×vi):=[("_wall",.ref 21),("is_int",.ref 237),("sort_of",.ref 244),("same",.ref 251),("takes_in",.ref 258),("code_of",.ref 264),("is_word",.ref 271),("is_figures",.ref 276),("is_label",.ref 283),("is_plain_symbol",.ref 290),("full_name",.ref 297),("show_letter",.ref 304),("show_text",.ref 309),("show_symbol",.ref 316),("show_pair",.ref 323),("show_range",.ref 330),("show_held",.ref 335),("show_thing",.ref 342),("message_text",.ref 350),("show",.ref 358),("kind_word",.ref 365),("need_int",.ref 372),("need_list",.ref 379),("need_open",.ref 386),("limits_of",.ref 393),("span_in",.ref 400),("place_of",.ref 407),("list_item",.ref 414),("list_at",.ref 421),("list_push",.ref 428),("rotated",.ref 435),("list_rotated",.ref 442),("flat",.ref 449),("flattened",.ref 456),("list_flattened",.ref 463),("list_rotate_here",.ref 470),("list_values_at",.ref 475),("list_product",.ref 480),("list_transposed",.ref 485),("raise_version",.ref 532),("own_module",.ref 539),("class_above",.ref 546),("make_own",.ref 553),("_law_box",.ref 853),("_law_take",.ref 860),("_law_pool",.ref 867),("_law_array",.ref 872),("_law_mark",.ref 879),("_law_marks",.ref 884),("_law_grid",.ref 891),("_law_column",.ref 896),("_law_fresh",.ref 903),("_law_is_table",.ref 908),("_law_heard",.ref 915),("_law_by",.ref 922),("_law_moved_right",.ref 927),("_law_laid_right",.ref 932),("_law_picked_right",.ref 937),("_law_refused_right",.ref 942),("_law_apart_right",.ref 947),("_law_table_right",.ref 952),("law",.ref 959),("World",.ref 842),("Thing",.ref 40),("Text",.ref 62),("ListThing",.ref 82),("TableThing",.ref 120),("RangeThing",.ref 140),("ErrorThing",.ref 181),("ModuleThing",.ref 228),("Raised",.ref 523),("GemError",.ref 503),("MOST_ITEMS",.int 20000 1165),("MODULES",.ref 554),("UNMADE",.ref 566),("MOST_SEEN",.int 20000 262),("BUILTINS",.ref 555),("MIXED",.ref 558),("len",.builtin "len"),("max",.builtin "max"),("min",.builtin "min"),("abs",.builtin "abs"),("repr",.builtin "repr"),("isinstance",.builtin "isinstance"),("str",.type "str"),("int",.type "int"),("list",.type "list"),("range",.type "range"),("bool",.type "bool"),("ValueError",.type "ValueError")]
noncomputable def oj:List (Nat×Nat×V):=[(0,182,.int 20000),(1,127,.tup [.str (oC "Kernel"),.str (oC "Comparable"),.str (oC "Enumerable")]),(2,105,.tup [.str (oC "NilClass"),.str (oC "TrueClass"),.str (oC "FalseClass"),.str (oC "Integer"),.str (oC "Symbol")]),(3,163,.int 20000)]
noncomputable def Kc (c:Nat):Option Nat:=(oj.lookup c).map (·.1)
noncomputable def JL (c:Nat):Option V:=(oj.lookup c).map (·.2)
noncomputable def rT:List (Nat×Nat×vi):=[(0,9,.type "int"),(1,23,.type "bool"),(2,19,.type "str"),(3,67,.ref 40),(10,68,.ref 842),(12,20,.ref 62),(13,162,.ref 82),(14,184,.ref 120),(15,183,.ref 140),(16,181,.ref 181),(17,196,.ref 228)]
noncomputable def O1 (c:Nat):Option Nat:=(rT.lookup c).map (·.1)
noncomputable def rN:List (Nat×Nat×Nat):=[(0,129,623),(0,151,650),(0,77,769),(0,27,776),(0,152,635),(0,116,706),(0,136,692),(0,204,628),(0,177,755),(0,192,643),(0,119,602),(0,159,713),(0,141,671),(0,160,699),(0,62,685),(0,102,727),(4,17,105),(7,115,225)]
noncomputable def FJ (c m:Nat):Option Nat:=(rN.find? λr=>r.1==c && r.2.1==m).map (·.2.2)
noncomputable def rO:Nat->List Nat
 | 0=> [139,140,49,43,101,199,191,209,38,146,207,132,15,31,155,39]
 | 1=> [119,91,111,16,112,82]
 | 2=> [119,91,111,16,112,82,62]
 | 3=> [119,91,111,16,112,82,83]
 | 4=> [119,91,111,16,112,82,52,99]
 | 5=> [119,91,111,16,112,82,78,36,45]
 | 6=> [119,91,111,16,112,82,137,73]
 | 7=> [119,91,111,16,112,82,44,153,121,90,138,168,87,71,150,118,34]
 | _=> []
noncomputable def aW:Nat:=523
noncomputable def qh:Nat:=503
noncomputable def cx:Nat:=520
noncomputable def lv:Nat:=500
noncomputable def eY:Nat:=915
noncomputable def IE:Nat:=959
noncomputable def Bn:Nat:=44
noncomputable def xC:Nat:=91
noncomputable def qK:Nat:=137
noncomputable def Bm:Nat:=62
noncomputable def bL:Nat:=102
noncomputable def bu:Nat:=122
noncomputable def cX:Nat:=55
noncomputable def tX:Nat:=4
noncomputable def iu:Nat:=77
noncomputable def Xm:List (String×Nat×vi):=[("BasicObject",1020,.none),("Object",1022,.str (oC "BasicObject") 1023),("Module",1025,.str (oC "Object") 1026),("Class",1028,.str (oC "Module") 1029),("Kernel",1031,.none),("Comparable",1033,.none),("Enumerable",1035,.none),("NilClass",1037,.str (oC "Object") 1038),("TrueClass",1040,.str (oC "Object") 1041),("FalseClass",1043,.str (oC "Object") 1044),("Numeric",1046,.str (oC "Object") 1047),("Integer",1049,.str (oC "Numeric") 1050),("String",1052,.str (oC "Object") 1053),("Symbol",1055,.str (oC "Object") 1056),("Array",1058,.str (oC "Object") 1059),("Hash",1061,.str (oC "Object") 1062),("Range",1064,.str (oC "Object") 1065),("Proc",1067,.str (oC "Object") 1068),("Fiber",1070,.str (oC "Object") 1071),("Exception",1073,.str (oC "Object") 1074),("ScriptError",1076,.str (oC "Exception") 1077),("NotImplementedError",1079,.str (oC "ScriptError") 1080),("SystemStackError",1082,.str (oC "Exception") 1083),("StandardError",1085,.str (oC "Exception") 1086),("ArgumentError",1088,.str (oC "StandardError") 1089),("UncaughtThrowError",1091,.str (oC "ArgumentError") 1092),("FiberError",1094,.str (oC "StandardError") 1095),("IndexError",1097,.str (oC "StandardError") 1098),("KeyError",1100,.str (oC "IndexError") 1101),("StopIteration",1103,.str (oC "IndexError") 1104),("LocalJumpError",1106,.str (oC "StandardError") 1107),("NameError",1109,.str (oC "StandardError") 1110),("NoMethodError",1112,.str (oC "NameError") 1113),("NoMatchingPatternError",1115,.str (oC "StandardError") 1116),("NoMatchingPatternKeyError",1118,.str (oC "NoMatchingPatternError") 1119),("RangeError",1120,.str (oC "StandardError") 1121),("RuntimeError",1122,.str (oC "StandardError") 1123),("FrozenError",1124,.str (oC "RuntimeError") 1125),("TypeError",1126,.str (oC "StandardError") 1127),("ZeroDivisionError",1128,.str (oC "StandardError") 1129)]
noncomputable def Xl:List (String×Nat×vi):=[("Object",1137,.ref 559),("Numeric",1139,.ref 560),("String",1141,.ref 561),("Symbol",1143,.ref 562),("Array",1145,.ref 563),("Hash",1147,.ref 564),("Range",1149,.ref 565)]
noncomputable def rK (L:List String) (i:Nat):Zu:=(L[i]?.map oC).getD ⟨ai0 (60+i) 97⟩
noncomputable def xQ (s:Zu):Nat:=s.cps.toList.foldl (λa c=>a*2097152+c) 1
noncomputable def Ev:List Nat->Bool
 | []=>vk
 | a::r=>Nat.blt a (r.headD (a+1))&& Ev r
theorem xB:∀{l:List Nat} {a:Nat},Ev (a::l)=vk->∀b∈l,a < b
 | [],_,_,_,hb=>nomatch hb
 | c::r,a,h,b,hb=>by
  haveI q:=Ul (an h).1
  refine mh (Zr.mp hb) ?_ λhb=> ?_
  ·exact q
  ·exact as2 q (xB (an h).2 b hb)
theorem pd:∀{l},Ev l=vk->l.Nodup
 | [],_=>List.nodup_nil
 | a::r,h=>ah9.mpr ⟨λm=>ag9 _ (xB h a m),pd (an h).2⟩
theorem oh {L:List String} {a:Nat} (h:a < L.length):rK L a=oC L[a]:=by
 unfold rK; refine af (Um h) ?_; rfl
theorem lc {L:List String} {a:Nat} (h:L.length<=a):rK L a=⟨ai0 (60+a) 97⟩:=by
 unfold rK; refine af (ao3 h) ?_; rfl
theorem oH (a:Nat):(⟨ai0 (60+a) 97⟩:Zu).cps.size=60+a:=Array.size_replicate
theorem oS {L:List String} (h2:L.all (λs=>aq0 (oC s).cps.size 50)=vk) {a:Nat} (h:a < L.length):(rK L a).cps.size<=50:=by
 refine af (oh h) ?_; exact Ul (aa4.mp h2 _ (ax0 h))
theorem oD {x:Zu} {a:Nat} (h:x=⟨ai0 (60+a) 97⟩) (hz:x.cps.size<=50):False:=by
 rw [h,oH] at hz
 exact absurd (ZT (aw6 60 a) hz) (by decide)
theorem AV {L:List String} (h1:Ev (L.map λs=>xQ (oC s))=vk) (h2:L.all (λs=>aq0 (oC s).cps.size 50)=vk):∀a b,rK L a=rK L b->a=b:=by
 intro a b h
 rcases an3 a L.length with ha | ha <;> rcases an3 b L.length with hb | hb
 ·haveI e:(L.map λs=>xQ (oC s))[a]? =(L.map λs=>xQ (oC s))[b]?:=by
   rw [oh ha,oh hb] at h
   simp only [Z7,Z7,Um ha,Um hb]
   exact congrArg (λz=>js (xQ z)) h
  exact (List.getElem?_inj (by simp only [ac3]; exact ha) (pd h1)).mp e
 ·exact (oD (h.trans (lc hb)) (oS h2 ha)).elim
 ·exact (oD (h.symm.trans (lc ha)) (oS h2 hb)).elim
 ·rw [lc ha,lc hb] at h
  have:=congrArg (λs:Zu=>s.cps.size) h
  rw [oH,oH] at this
  exact Nat.add_left_cancel this
noncomputable def tokOf:vi->Nat
 | .int _ t=>t
 | .str _ t=>t
 | _=>0
noncomputable def y8:V->vi->Bool
 | .none=>λu=>u==.none
 | .bool b=>λu=>u==.bool b
 | .int i=>λu=>u==.int i (tokOf u)
 | .str s=>λu=>u==.str s (tokOf u)
 | .tup _=>λo_=>Fk
 | .lst _=>λo_=>Fk
 | .iy=>λo_=>Fk
 | .ref _=>λo_=>Fk
noncomputable def xP:List V->List vi->Bool
 | [],us=>us.isEmpty
 | v::vs,us=> !us.isEmpty &&(y8 v (us.headD .none)&& xP vs us.tail)
theorem lz (h:y8 v u=vk) ρ g:aq ρ g v u:=by
 cases v with
 | none=>exact (bq h)
 | bool b=>exact (bq h)
 | int i=>exact ⟨_,bq h⟩
 | str s=>exact ⟨_,bq h⟩
 | _=>exact TU h
theorem ly:∀{vs} {us},xP vs us=vk->∀ρ g,ai ρ g vs us
 | [],us,h,ρ,g=>ZW.mp h
 | v::vs,us,h,ρ,g=>by
  have h2:=an (an h).2
  cases us with
  | nil=>cases (an h).1
  | cons u us=>exact bP u us rfl (lz h2.1 ρ g) (ly h2.2 ρ g)
inductive OV where
 | f (fd:ad9) | s (xs:Array vi) | o
noncomputable def JX:Option Obj->OV
 | some ⟨_,_,.func fd,_⟩=> .f fd
 | some ⟨_,_,.seq xs _,_⟩=> .s xs
 | _=> .o
def RC:OV->Option Obj->Prop
 | .f fd=>λo=>∃oc od zo,o=js ⟨oc,od,.func fd,zo⟩
 | .s xs=>λo=>∃c d n sl,o=js ⟨c,d,.seq xs n,sl⟩
 | .o=>λo_=>True
theorem AN:∀o,RC (JX o) o
 | none=>trivial
 | some ⟨oc,od,d,zo⟩=>by
  cases d with
  | func f=>exact El _ _ _ rfl
  | seq xs n=>exact ⟨_,_,_,_,rfl⟩
  | _=>exact trivial
noncomputable def C2 (o:Option Obj):Option ad9:=match JX o with
 | .f fd=>js fd
 | .s _=>vd
 | .o=>vd
theorem ww {o:Option Obj} (h:C2 o=js fd):∃oc od zo,o=js ⟨oc,od,.func fd,zo⟩:=by
 haveI q:=AN o
 unfold C2 at h
 revert h q
 cases JX o with
 | f f=>exact λh q=>by refine bD (vo h) ?_; exact q
 | _=>exact λh o_=>aI h
noncomputable def vL (o:Option Obj):Option (List vi):=match JX o with
 | .s xs=>js xs.toList
 | .f _=>vd
 | .o=>vd
theorem wX {o:Option Obj} {l:List vi} (h:vL o=js l):∃c d xs n sl,o=js ⟨c,d,.seq xs n,sl⟩/\l=xs.toList:=by
 haveI q:=AN o
 unfold vL at h
 revert h q
 cases JX o with
 | s xs=>exact λh ⟨c,d,n,sl,q⟩=>⟨c,d,xs,n,sl,q,((vo h).symm)⟩
 | _=>exact λh o_=>aI h
noncomputable def refOf:vi->Nj
 | .ref a=>a
 | _=>0
noncomputable def GK (K:ac9) (v:vi) (ds:List V):Bool:=(v==.none && ds.isEmpty) || (v==.ref (refOf v)&&(match vL (K.lookup (refOf v)) with
 | some l=>xP ds l
 | none=>Fk))
noncomputable def dT (fd:ad9):List ad3:=match fd.body with
 | .stmts b=>b
 | .expr _=> []
noncomputable def rV (fd:ad9):Bool:=match fd.body with
 | .stmts _=>vk
 | .expr _=>Fk
theorem Fg (h:rV fd=vk):fd.body=.stmts (dT fd):=by
 unfold rV at h
 unfold dT
 revert h
 generalize fd.body=b
 intro h
 cases b with
 | stmts b=>rfl
 | expr _=>exact dy h
abbrev Oi (N:nx) (K:ac9) (F:gQ) (fd:ad9):Prop:=
 fd.globals=Zy/\fd.closure=[]/\fd.builtins=ZO/\codeIn K fd.code fd.qualname=vk/\
  fd.params.posonlyargs.isEmpty=vk/\fd.params.args.map (·.arg)=F.params.map N.nm/\fd.params.kwonlyargs.isEmpty=vk/\fd.params.vararg.isNone=vk/\fd.params.kwarg.isNone=vk/\F.params.Nodup/\
  fd.scope.isCoroutine=Fk/\fd.scope.isGenerator=Fk/\fd.scope.kind=.function/\(∀x∈F.params,mA fd.scope.names (N.nm x)=vk)/\(∀p∈fd.scope.names,p.2 ≠ .free)/\F.hO.length<=F.params.length/\GK K fd.defaults F.hO=vk/\rV fd=vk
theorem Db {v:vi} {ds} (h:GK T.K v ds=vk):∃us,us.length=ds.length/\(∀ρ g,ai ρ g ds us)/\
  ∀{s},T.K.In s.heap->∀{M} {A} {E} {Q:Option (Array vi)->FF->Prop},(∀r,(r.getD #[]).toList=us->Q r s)->IQ M A (seqItems? v) Q E s:=by
 refine as4 (oe h) (λh=> ?_) λh=> ?_
 ·refine af (bq (an h).1) <| ((ZW.mp (an h).2)▸?_)
  exact dH ([]) rfl (λo_ o_=>rfl) (λo_ o_ o_ o_ o_ q=>yd (q vd rfl))
 ·refine af (bq (an h).1) ?_
  haveI h2:=(an h).2
  revert h2
  cases e:vL (T.K.lookup (refOf v)) with
  | none=>exact λh=>TU h
  | some l=>
   intro h2
   refine ax λG_ ae=> ?_
   obtain ⟨c,d,xs,n,sl,e1,q1⟩:=(wX e)
   subst q1
   exact ae <| dH xs.toList ((ly h2 ⟨[],[]⟩ vS).length) (ly h2) (λX o_ o_ o_ o_ q=>wpAny_seqItems (X _ _ e1) rfl (q (js xs) rfl))
theorem wx {N:nx} (hN:∀x,T.nm x=N.nm x) (inj:∀a b,N.nm a=N.nm b->a=b) (hA:T.sI f=f) {oc:vi} {zo:Array (Option vi)} (e:T.K.lookup f=js ⟨oc,od,.func fd,zo⟩) (h:Oi N T.K F fd):
  lM T f fd.scope (dT fd) F.params F.hO fd.qualname fd.code:=by
 haveI g4:=h.2.2.2
 haveI g5:=g4.2
 haveI g9:=g5.2
 haveI g6:=g9.2
 have g8:=g6.2.2
 haveI TK:=g8.2
 haveI N1:=TK.2
 have QZ:=N1.2.2.2
 haveI QY:=QZ.2.2
 refine bZ (Db QY.2.1) λds l1 l2 l3=>⟨λo_ z=>z _ fd ds (hA.symm▸e) rfl rfl (Fg QY.2.2) h.1 h.2.1 h.2.2.1 rfl rfl g4.1 l1 l2 λ{s us} X k1 k2=> ?_,N1.1,N1.2.1,N1.2.2.1,λx hx=>(hN x).symm▸xy (QZ.1 x hx),λy hy=>QZ.2.1 _ (mem_of_lookup hy) rfl⟩
 ·refine af (List.map_congr_left λx o_=>hN x) ?_
  haveI b:=zf (us:=us) (ZW.mp g5.1) g9.1 (ZW.mp g6.1) (ad2.mp g6.2.1) (ad2.mp g8.1) (TK.1.map _ (λa b n e=>n (inj a b e))) (l3 X) (by simp only [l1,ac3]; exact QY.1) (by rw [l1,ac3]; exact k1) (by simp only [ac3]; exact k2)
  rw [l1,ac3] at b
  exact b
noncomputable def Cp (N:nx) (K:ac9) (f:Nat) (F:gQ) (lam rs:Bool) (yM:vi->Zu->Bool):Bool:=match C2 (K.lookup f) with
 | some fd=>decide (Oi N K F fd)&&((!lam || yM fd.code (fd.qualname++ ".<locals>."++ "<lambda>"))&&(pM N lam rs F.body fd.scope.names (dT fd)).1)
 | none=>Fk
noncomputable def Hq (N:nx) (K:ac9) (f:Nat) (F:gQ) (lam rs:Bool):List ad3:=match C2 (K.lookup f) with
 | some fd=>(pM N lam rs F.body fd.scope.names (dT fd)).2
 | none=> []
noncomputable def nF (K:ac9) (f:Nat):List ad3:=match C2 (K.lookup f) with
 | some fd=>dT fd
 | none=> []
theorem Co {N:nx} {lam rs:Bool} {yM:vi->Zu->Bool} (hN:∀x,T.nm x=N.nm x) (inj:∀a b,N.nm a=N.nm b->a=b) (hA:T.sI f=f) (h:Cp N T.K f F lam rs yM=vk) (hb:Hq N T.K f F lam rs=nF T.K f):
  ∃scope body qual om,lM T f scope (pM N lam rs F.body scope.names body).2 F.params F.hO qual om/\(pM N lam rs F.body scope.names body).1=vk/\(lam=vk->yM om (qual++ ".<locals>."++ "<lambda>")=vk)/\F.hO.length<=F.params.length:=by
 unfold Cp at h
 unfold Hq nF at hb
 revert h hb
 cases e:C2 (T.K.lookup f) with
 | none=>exact λh=>TU h
 | some fd=>
  intro h hb
  have h2:=an (an h).2
  haveI h3:=of_decide_eq_true (an h).1
  refine ER (ww e) λoc od zo e1=> ?_
  haveI q:=wx hN inj hA e1 h3
  haveI hb:(pM N lam rs F.body fd.scope.names (dT fd)).2=dT fd:=hb
  refine tU fd.scope (dT fd) fd.qualname fd.code (hb.symm▸q) h2.2 (λhl=> ?_) h3.2.2.2.2.2.2.2.2.2.2.2.2.2.2.2.1
  clear q e1 zo od oc h3 hb h hA inj hN
  subst hl
  exact h2.1
def pk (Q:V->St->Prop):Fl->En->St->Prop:=λfl o_ σ=>match fl with
 | .ret v=>Q v σ
 | .next=>Q .none σ
 | _=>False
noncomputable def wG (F:gQ) (vs:List V):List V:=vs++F.hO.drop (F.hO.length -(F.params.length - vs.length))
def xS (P:Nat->Option gQ) (c:Cc) (f:Nat) (vs:List V) (Q X:V->St->Prop) (σ:St):Prop:=match P f with
 | none=>False
 | some F=>(F.params.length - F.hO.length<=vs.length/\vs.length<=F.params.length)/\bX c F.body (pk Q) X (ik En.none (F.params.zip (wG F vs))) σ
noncomputable def uF (P:Nat->Option gQ) (b:Cc):Nat->Cc
 | 0=>{b with call:=λo_ o_ o_ o_ o_=>False}
 | k+1=>{b with call:=xS P (uF P b k)}
structure CJ (T:Cx) (N:nx) (b:Cc) (P:Nat->Option gQ) (pZ DI:Nat->Bool):Prop where
 names:cJ N T b
 fns:∀f F,P f=js F->∃scope body qual om,lM T f scope (pM N (pZ f) (DI f) F.body scope.names body).2 F.params F.hO qual om/\(pM N (pZ f) (DI f) F.body scope.names body).1=vk/\
  (pZ f=vk->∃C Pa,uR T C Pa/\om=.ref C/\T.yg C=qual++ ".<locals>."++ "<lambda>")/\F.hO.length<=F.params.length
 cV:jF T b N.hn
 raise:∀n,oo T (n+2) N.xn
 aD:b.aD=T.aD
 init:b.init=T.init
 field:b.field=T.fieldOf
 f':∀{g:Nat} {x:Zu} {v:V},b.f' g x=js v->T.y9 g x=js (js v)
 fq:∀{g:Nat} {x:Zu} {v:V},b.fq g x=js v->∃r,T.y9 g x=js r/\v=r.getD (.tup [])
section
variable {N:nx} {b:Cc} {P:Nat->Option gQ} {pZ DI:Nat->Bool}
theorem AW (O:cJ N T b):∀k,cJ N T (uF P b k)
 | 0=>{O with}
 | k+1=>{O with}
theorem By (H:jF T b N.hn):∀k,jF T (uF P b k) N.hn
 | 0=>⟨H.ex,H.cls⟩
 | k+1=>⟨H.ex,H.cls⟩
theorem ML (O:CJ T N b P pZ DI):∀k,fv T (uF P b k) (k+2)
 | 0=>⟨λh=>h.elim,O.aD,O.init,O.field,O.f',O.fq⟩
 | k+1=>by
  refine ⟨λ{f vs Q X σ} h=> ?_,O.aD,O.init,O.field,O.f',O.fq⟩
  change xS P (uF P b k) f vs Q X σ at h
  revert h
  refine (?_:(match P f with
   | none=>False
   | some F=>(F.params.length - F.hO.length<=vs.length/\vs.length<=F.params.length)/\bX (uF P b k) F.body (pk Q) X (ik En.none (F.params.zip (wG F vs))) σ)->_)
  cases hF:P f with
  | none=>exact ag2
  | some F=>
   intro h
   refine EQ (O.fns f F hF) λscope body qual om FO hc hl hd=>wP FO (λenv e1 e2 e3=> ?_) h.1.1 h.1.2 h.2
   haveI fr:Fs T (uF P b k) (k+2) N (pZ f) (DI f) env:=⟨λhz=>bp (hl hz) λCC Pa LO q1 q2=>⟨By O.cV k,CC,Pa,LO,by rw [e3,q1],by rw [q2,e2]⟩,λo_=>O.raise k⟩
   exact @(ju (AW O.names k) (ML O k) fr (e1▸FO.kind) (af e1 rfl) F.body body hc)
end
noncomputable def bj (i:Nat):Zu:=rK Nl i
theorem oR:∀a b,bj a=bj b->a=b:=AV (by decide+kernel) (by decide+kernel)
noncomputable def yc:nx where
 nm:=bj
 fn:=U1
 cls:=O5
 qY:=O2
 Eg:=O1
 glob:=Kc
 hn:= "_law_heard"
 xn:= "Raised"
noncomputable def iP:List (Nj×Nj):=[(946,944),(941,939),(936,934)]
noncomputable def FD:Nat->String
 | 946=> "_law_apart_right.<locals>.<lambda>"
 | 941=> "_law_refused_right.<locals>.<lambda>"
 | 936=> "_law_picked_right.<locals>.<lambda>"
 | _=> ""
noncomputable def yM (v:vi) (q:Zu):Bool:=v==.ref (refOf v)&&((iP.any λp=>p.1==refOf v)&& oC (FD (refOf v))==q)
noncomputable def pZ (f:Nat):Bool:=f==947 || f==942 || f==937
noncomputable def DI (f:Nat):Bool:=f==776
noncomputable def D1 (f:Nat):gQ:=(BK f).getD ⟨vd,0,[],[],.nil⟩
noncomputable def Cq (K:ac9):Bool:=Gy.all λf=>(BK f).isSome && Cp yc K f (D1 f) (pZ f) (DI f) yM
noncomputable def AO (K:ac9):List (List ad3):=Gy.map λf=>Hq yc K f (D1 f) (pZ f) (DI f)
noncomputable def Gf (K:ac9):List (List ad3):=Gy.map λf=>nF K f
noncomputable def qQ:List Nat:=BN.map (·.1)++rN.map (·.2.2)++dS.map (·.2.2.2)++Gy++ [eY,cx,lv]
noncomputable def Ck (g:Nat) (x:Zu):Option (Option V):=(ol.find? λr=>r.1==g && oC r.2.1==x).map (·.2.2)
noncomputable def kO (prog:as0) (w:World) (hB:Z4) (K:ac9) (s₁:FF):Cx where
 prog:=prog
 w:=w
 hB:=hB
 K:=K
 s₁:=s₁
 nm:=bj
 tabs:=iP
 yg:=λc=>oC (FD c)
 cY:=ig
 gX:=λc=>(dS.lookup c).isSome
 fieldOf:=λc a=>(dS.lookup c).isSome &&(rO c).contains a
 cR:=aW
 gJ:=bL
 sI:=λf=>f
 WZ:=λo_=>⟨vd,0,[],[],.nil⟩
 isFn:=λf=>qQ.contains f
 names:=oV.map λp=>(oC p.1,p.2)
 aD:=FJ
 init:=rf
 kinds:=rT.map λr=>(r.1,r.2.2)
 mX:=CH
 pa:=λg=>(jk.lookup g).isSome
 y9:=Ck
noncomputable def iO:Cc where
 field:=λc a=>(dS.lookup c).isSome &&(rO c).contains a
 aD:=FJ
 init:=rf
 glob:=JL
 f':=λg x=>(Ck g x).join
 fq:=λg x=>(Ck g x).map λr=>r.getD (.tup [])
 call:=λo_ o_ o_ o_ o_=>False
 nName:=Bn
 cF:=xC
 bl:=qK
 dO:=Bm
noncomputable def xw (r:Option CFound) (v:vi):Bool:=match r with
 | some (.val u)=>u==v
 | _=>Fk
theorem o9 {r:Option CFound} {v:vi} (h:xw r v=vk):r=js (.val v):=by
 rcases r with _ | r
 ·exact dy h
 ·cases r with
  | val u=>exact congrArg (λu=>js (CFound.val u)) (bq h)
  | _=>exact dy h
noncomputable def FA:Option Obj->Bool
 | none=>Fk
 | some o=>o.cls==.type "tuple" &&(o.dict.isNone && o.slots.isEmpty)
theorem Dj {o:Option Obj} {l:List vi} (h:FA o=vk) (e:vL o=js l):∃xs n,o=js ⟨.type "tuple",vd,.seq xs n,#[]⟩/\l=xs.toList:=by
 obtain ⟨c,d,xs,n,sl,q1,q2⟩:=(wX e)
 clear e
 subst q1
 refine af q2 ?_
 haveI h1:=bq (an h).1
 haveI h2:=ad2.mp (an (an h).2).1
 haveI h3:=Array.isEmpty_iff.mp (an (an h).2).2
 clear h
 subst h1 h2 h3
 exact dh xs n rfl rfl
noncomputable def Uu (K:ac9) (l:List V) (u:vi):Bool:=u==.ref (refOf u)&&(FA (K.lookup (refOf u))&&(aq0 l.length bf &&(match vL (K.lookup (refOf u)) with
 | some xs=>xP l xs
 | none=>Fk)))
noncomputable def zI (K:ac9) (v:V) (u:vi):Bool:=match v with
 | .tup l=>Uu K l u
 | .none=>y8 .none u
 | .bool b=>y8 (.bool b) u
 | .int i=>y8 (.int i) u
 | .str s=>y8 (.str s) u
 | .lst _=>Fk
 | .iy=>Fk
 | .ref _=>Fk
noncomputable abbrev kinds:List (Nat×vi):=rT.map λr=>(r.1,r.2.2)
abbrev M' (K:ac9) (c:Nat):Prop:=
 (∀a∈rO c,Z3 K (.ref (ig c)) (bj a)=js vd)/\(ao4 K (ig c) ""=vk/\av0 K (ig c)=vk/\plainOver K (ig c)=vk/\Z3 K (.ref (ig c)) "__setattr__"=js (js (.builtin "object.__setattr__")))/\
  (makesIn K (ig c)=vk/\Z3 K (.ref (ig c)) "__init__"=js (js (.ref (rf c)))/\typeIn K (.ref (rf c))=js (.type "function")/\av1 K (.ref (ig c))=vk/\qQ.contains (rf c)=vk)/\
  (al7 K (.ref (ig c)) "__getattribute__"=js (js (.builtin "type.__getattribute__"))/\readsIn K (ig c) (.type "type")=vk/\xw (ap7 K (.ref (ig c)) (.type "type") "__init__") (.ref (rf c))=vk)/\
  eX K (.ref (ig c)) kinds (λk=>k==10+c || (k==3 && c !=0))=vk/\
  (ao4 K (ig c) "__class__"=vk/\av0 K (ig c)=vk/\Z3 K (.ref (ig c)) "__class__"=js (js (.builtin "object.__class__"))/\al7 K (.builtin "object.__class__") "__get__"=js (js (.builtin "getset_descriptor.__get__"))/\takesIn K (.builtin "object.__class__")=js vk/\an5 K (ig c) (.type "object")=js vk)
abbrev MethP (K:ac9) (c m f:Nat):Prop:=
 ao4 K (ig c) (bj m)=vk/\Z3 K (.ref (ig c)) (bj m)=js (js (.ref f))/\isFn K (.ref f)=vk/\((dS.lookup c).isSome &&(rO c).contains m)=Fk/\qQ.contains f=vk
abbrev MX (K:ac9) (r:String×vi):Prop:=
 nsIn K Zy (oC r.1)=js (js r.2)∨(nsIn K Zy (oC r.1)=js vd/\bootBuiltins (oC r.1)=js r.2/\oC r.1 ≠("__name__":Zu))
noncomputable def XG (K:ac9) (f:Option (Option vi)):Option V->Bool
 | none=>f==js vd
 | some v=>f==js (js (f.join.getD .none))&& zI K v (f.join.getD .none)
abbrev TP (K:ac9):Prop:=
 (∀r∈dS,M' K r.1)/\(∀r∈rN,MethP K r.1 r.2.1 r.2.2)/\(∀r∈oV,MX K r)/\(∀r∈ol,XG K (nsIn K (CH r.1) (oC r.2.1)) r.2.2=vk)/\(∀f∈qQ,av1 K (.ref f)=vk)/\
  eX K (.type "int") kinds (·==0)=vk/\eX K (.type "bool") kinds (λk=>k==0 || k==1)=vk/\eX K (.type "str") kinds (·==2)=vk/\eX K (.type "NoneType") kinds (λo_=>Fk)=vk
noncomputable def MK (K:ac9):Bool:=decide (TP K)
theorem cM {α β:Type} [BEq α] [LawfulBEq α] {l:List (α×β)} {k} {v} (h:l.lookup k=js v):(k,v)∈l:=by
 induction l with
 | nil=>exact aI h
 | cons p l ih=>
  rw [Zh] at h
  revert h
  cases e:k==p.1 with
  | true=>
   intro h
   exact bD (vo h) <| af (bq e) <| .head _
  | false=>exact λh=> .tail _ (ih h)
theorem sO {K} (X:K.In h₀) {u} (h:zI K v u=vk) ρ g (k1:∀b o,h₀.get? b=js o->g.get? b=js o) (k2:∀b o,h₀.get? b=js o->ρ.jJ b):aq ρ g v u:=by
 cases v with
 | tup l=>
  haveI h1:=an h
  haveI h2:=an h1.2
  haveI h3:=an h2.2
  haveI h4:=h3.2
  revert h4
  cases e:vL (K.lookup (refOf u)) with
  | none=>exact λh=>TU h
  | some xs=>
   intro h4
   refine bV (Dj h2.1 e) λys n e1 q1=> ?_
   subst q1
   exact (qa _ ys n (bq h1.1) (k1 _ _ (X _ _ e1)) (k2 _ _ (X _ _ e1)) (Ul h3.1) (ly h4 ρ g))
 | none=>exact lz (v:=.none) h ρ g
 | bool b=>exact lz (v:=.bool b) h ρ g
 | int i=>exact lz (v:=.int i) h ρ g
 | str s=>exact lz (v:=.str s) h ρ g
 | _=>exact TU h
structure GR (hB:Z4):Prop where
 lim:hB.NoLimit
 MN:∃mb,hB.Ns ZO mb/\∀x:Zu,x ≠ "__name__"->mb x=bootBuiltins x
 Jx:∃b o,ZI < b/\hB.get? b=js o
section
variable {K:ac9}
theorem Fc {c:Nat} (h:(dS.lookup c).isSome=vk):∃r∈dS,r.1=c:=dJ (ae1.mp h) λv e=>az (c,v) (cM e) rfl
theorem tok (X:K.In hB) (TT:GR hB) (hc:MK K=vk) (hd:∀r∈jk,r.2.2 ≠ ZI/\∃es n,K.lookup r.2.2=js ⟨.type "dict",vd,.dict es n,#[]⟩/\KeysLit w.params es.toList):Ue (kO prog w hB K s₁):=by
 have C:=of_decide_eq_true hc
 have tu:∀c,(dS.lookup c).isSome=vk->M' K c:=λc h=>ag (Fc h) λr m e=>e▸C.1 r m
 have D:=C.2.2
 have E:=D.2.2
 exact {
  lim:=TT.lim,sys:=TT.Jx,jS:=oR,PM:=X,
  fld:=λc a h=>(tu c (an h).1).1 a (Zz.mp (an h).2),cls:=λc h=>(tu c h).2.1,
  glob:=λx v h {M A Q E s env} hk hg hb hq=>by
   refine ag (an1.mp (cM h)) λr hr e=> ?_
   cases e
   have XK:=X.keeps hk
   unfold loadGlobal
   refine af hg <| af hb ?_
   rcases D.1 r hr with e | ⟨e,e2,e3⟩
   ·exact j' ((looks_nsIn XK e).here (yd hq))
   ·refine ag TT.MN λmb n1 n2=>j' ((looks_nsIn XK e).here (j' (wpAny_nsGet (n1.keeps hk) ?_)))
    rw [n2 _ e3,e2]
    exact yd hq,
  keep:=λf h=>E.1 f (Zz.mp h),
  meths:=λc m f h e=>by
   refine ag (Ou.mp e) λr er e2=> ?_
   haveI hp:=ay8 er
   haveI hp:=an hp
   haveI q:=C.2.1 r (ak1 er)
   rw [bq hp.1,bq hp.2,show r.2.2=f from e2] at q
   exact q,
  make:=λc h=>(tu c h).2.2.1,MI:=λc h=>(cW ((tu c h).2.2.2.1.1) ((tu c h).2.2.2.1.2.1) (o9 (tu c h).2.2.2.1.2.2)),
  Cj:=λg h=>by
   obtain ⟨⟨i,a⟩,e⟩:=ae1.mp (show (jk.lookup g).isSome=vk from h)
   have:=hd _ (cM e)
   rw [show a=CH g from by unfold CH; rw [e]; rfl] at this
   exact this,
  qY:=λg x r e=>by
   refine ag (Ou.mp (show (ol.find? λr=>r.1==g && oC r.2.1==x).map (·.2.2)=js r from e)) λt et e2=> ?_
   haveI hp:=ay8 et
   have hp:=an hp
   have q:=D.2.1 t (ak1 et)
   rw [bq hp.1,bq hp.2,show t.2.2=r from e2] at q
   cases r with
   | none=>exact bq q
   | some v=>exact az _ (bq (an q).1) (λρ h k1 k2=>sO X (an q).2 ρ h k1 k2),
  KW:=E.2.1,KZ:=E.2.2.1,KR:=E.2.2.2.1,KV:=E.2.2.2.2,KY:=λc h=>(tu c h).2.2.2.2.1,KP:=λc h=>(tu c h).2.2.2.2.2}
end
noncomputable def IK:Option Obj->Option (vi×al6×Array (Option vi))
 | some ⟨c,_,.cls cd,sl⟩=>js (c,cd,sl)
 | _=>vd
set_option tactic.hygienic true in
theorem Fd {o:Option Obj} {r:vi×al6×Array (Option vi)} (h:IK o=js r):∃dd,o=js ⟨r.1,dd,.cls r.2.1,r.2.2⟩:=by
 rcases o with _ | ⟨oc,od,d,zo⟩
 ·exact aI h
 ·cases d with
  | cls f=>refine bD (vo h) ?_; exact ⟨_,rfl⟩
  | _=>exact aI h
abbrev RL (C G:Nj) (r:vi×al6×Array (Option vi)):Prop:=
 r.1=.type "type"/\r.2.1.mro=[.ref C,.ref G,.type "ValueError",.type "Exception",.type "BaseException",.type "object"]/\r.2.1.hasDict=vk/\r.2.1.hasDel=Fk/\
  r.2.2=#[r.2.2.getD 0 vd,r.2.2.getD 1 vd,r.2.2.getD 2 vd,r.2.2.getD 3 vd,js (.builtin "ValueError.__new__"),r.2.2.getD 5 vd]
noncomputable def excIn (K:ac9) (C G:Nj):Bool:=match IK (K.lookup C) with
 | some r=>decide (RL C G r)
 | none=>Fk
structure G1 (K:ac9) (C G:Nj):Prop where
 ex:∃(nm q:Zu) (N:Nj) (bs bm:List vi) (sn:List Zu) (sub:List vi) (ab:Bool) (col:Option Bool) (dd:Option Nj) (k0 k1 k2 k3 k5:Option vi),
  K.lookup C=js (aa9 nm q C N bs bm vk sn sub ab col dd k0 k1 k2 k3 k5 "ValueError.__new__")/\bm=[.ref G,.type "ValueError",.type "Exception",.type "BaseException",.type "object"]
theorem BR {G:Nj} {K} (h:excIn K C G=vk):G1 K C G:=by
 unfold excIn at h
 revert h
 cases e:IK (K.lookup C) with
 | none=>exact λh=>TU h
 | some r=>
  intro h
  haveI P:=of_decide_eq_true h
  obtain ⟨dd,e1⟩:=Fd e
  refine ⟨r.2.1.name,r.2.1.qualname,r.2.1.ns,r.2.1.bases,_,r.2.1.slotNames,r.2.1.subclasses,r.2.1.abstract,r.2.1.collection,dd,r.2.2.getD 0 vd,r.2.2.getD 1 vd,r.2.2.getD 2 vd,r.2.2.getD 3 vd,r.2.2.getD 5 vd,e1.trans ?_,rfl⟩
  refine (?_:js ⟨r.1,dd,.cls ⟨r.2.1.name,r.2.1.bases,r.2.1.mro,r.2.1.ns,r.2.1.qualname,r.2.1.hasDict,r.2.1.slotNames,r.2.1.subclasses,r.2.1.abstract,r.2.1.collection,r.2.1.hasDel⟩,r.2.2⟩=js (aa9 _ _ _ _ _ _ _ _ _ _ _ _ _ _ _ _ _ _))
  simp only [P.1,P.2.1,P.2.2.1,P.2.2.2.1]
  exact congrArg (λz=>js (Obj.mk (.type "type") dd (.cls _) z)) P.2.2.2.2
noncomputable def st (g:List ad3) (i:Nat):ad3:=g.getD i (.Pass ⟨0,0,0,0⟩)
noncomputable def mS (B:String) (xs xx sa:Nat) (arg:Xq->Xq) (g:List ad3):List ad3:=
 [.Expr (.Call (.Attribute (.Name (oC B) (kd (kd (ex (st g 0) 0) 0) 0).pos) "__init__" (kd (ex (st g 0) 0) 0).pos) [.Name (bj xs) (kd (ex (st g 0) 0) 1).pos,arg (kd (ex (st g 0) 0) 2)] [] (ex (st g 0) 0).pos) (st g 0).pos,
  .Assign [.Attribute (.Name (bj xs) (kd (ex (st g 1) 1) 0).pos) (bj sa) (ex (st g 1) 1).pos] (.Name (bj xx) (ex (st g 1) 0).pos) (st g 1).pos]
abbrev GY (K:ac9) (F:gQ) (xs xx:Nat) (B:String) (fd:ad9):Prop:=
 Oi yc K F fd/\((kd (ex (st (dT fd) 0) 0) 0).pos.endLine==(ex (st (dT fd) 0) 0).pos.line)=vk/\fd.scope.names.lookup (bj xs)=js .local/\fd.scope.names.lookup (bj xx)=js .local/\fd.scope.names.lookup (oC B)=js .globalImplicit
noncomputable def jD (K:ac9) (f:Nat) (F:gQ) (xs xx:Nat) (B:String):Bool:=match C2 (K.lookup f) with
 | some fd=>decide (GY K F xs xx B fd)
 | none=>Fk
noncomputable def IT (e:Xq):Xq:=.Name (bj bu) e.pos
noncomputable def IS (e:Xq):Xq:=.Constant (.str (oC "a Ruby error")) (kN e) e.pos
theorem mw:∀x,(bj x==("__debug__":Zu))=Fk/\(bj x==("__classdict__":Zu))=Fk/\(bj x==(".0":Zu))=Fk:=by
 haveI h:(Nl.all λs=> !(oC s==("__debug__":Zu))&&(!(oC s==("__classdict__":Zu))&& !(oC s==(".0":Zu))))=vk:=by decide+kernel
 intro x
 unfold bj
 rcases an3 x Nl.length with hx | hx
 ·refine af (oh hx) ?_
  have:=an (aa4.mp h _ (ax0 hx))
  exact cW (nt this.1) (nt (an this.2).1) (nt (an this.2).2)
 ·haveI key:∀z:Zu,z.cps.size<=50->(rK Nl x==z)=Fk:=λz hz=>beq_eq_false_iff_ne.mpr λe=>oD (e.symm.trans (lc hx)) hz
  exact cW (key _ (Ul rfl)) (key _ (Ul rfl)) (key _ (Ul rfl))
section
variable {K:ac9}
theorem rM {T:String} {v:vi} {Q:vi×List vi->FF->Prop} (X:K.In s.heap) (ht:typeOf (.type T)=pure (.type "type")) (hs:Manifest.isStub T=Fk)
  (e:ap7 K (.type T) (.type "type") name=js (.val v)) (hh:handedIn v=vk) (h:Q (v,[]) {s with toks:=s.toks+1}):IQ (Hj prog w) A (getMethod (.type T) name pl) Q E s:=by
 haveI Le:opaqueClassAbove (.type T)=pure vd:=by unfold opaqueClassAbove; dsimp only; refine af hs ?_; rfl
 haveI L0:ay7 (Hj prog w) s.heap (typeOf (.type T)) (.type "type"):=aB0 ht
 haveI hg:Z3 K (.type "type") "__getattribute__"=js (js (.builtin "type.__getattribute__")):=type_tga
 refine j' (j' (L0.here ((af6 X hg).here ?_)))
 refine j' (ZJ ?_ (λo_ o_ z=>yd z) λo_ o_ z=>z)
 refine cls_open X (aB0 Le) L0 hg (looks_hook X (by rfl)) (by show subIn K _ _=_; rfl) e
  (yd (by show IQ _ _ (handedOut v) _ _ _; refine af (handedOut_of hh) ?_; exact yd h))
noncomputable def L4:gQ:=⟨vd,0,[cX,bu],[.str ""],.nil⟩
noncomputable def wY:gQ:=⟨vd,0,[cX,bL],[],.nil⟩
abbrev XP (K:ac9):Prop:=
 excIn K aW qh=vk/\jD K lv L4 cX bu "ValueError"=vk/\jD K cx wY cX bL "GemError"=vk/\
  an5 K aW (.type "object")=js vk/\an5 K aW (.type "ValueError")=js vk/\an5 K aW (.type "BaseException")=js vk/\Z3 K (.ref aW) "__setattr__"=js (js (.builtin "object.__setattr__"))/\
  ak8 K aW (bj bu)=js vd/\ak8 K aW (bj bL)=js vd/\Z3 K (.ref aW) "__init__"=js (js (.ref cx))/\isFn K (.ref cx)=vk/\
  al7 K (.ref qh) "__getattribute__"=js (js (.builtin "type.__getattribute__"))/\readsIn K qh (.type "type")=vk/\xw (ap7 K (.ref qh) (.type "type") "__init__") (.ref lv)=vk/\av1 K (.ref lv)=vk/\
  xw (ap7 K (.type "ValueError") (.type "type") "__init__") (.builtin "ValueError.__init__")=vk/\
  Z3 K (.ref aW) "__getattribute__"=js (js (.builtin "BaseException.__getattribute__"))/\Z3 K (.ref aW) "__getattr__"=js vd/\Z3 K (.ref aW) (bj bL)=js vd
noncomputable def MJ (K:ac9):Bool:=decide (XP K)
structure pL (K:ac9):Prop where
 ex:G1 K aW qh
 WR:jD K lv L4 cX bu "ValueError"=vk
 UF:jD K cx wY cX bL "GemError"=vk
 obj:an5 K aW (.type "object")=js vk
 ve:an5 K aW (.type "ValueError")=js vk
 be:an5 K aW (.type "BaseException")=js vk
 DH:Z3 K (.ref aW) "__setattr__"=js (js (.builtin "object.__setattr__"))
 t1:ak8 K aW (bj bu)=js vd
 t2:ak8 K aW (bj bL)=js vd
 PL:Z3 K (.ref aW) "__init__"=js (js (.ref cx))
 fn:isFn K (.ref cx)=vk
 g1:al7 K (.ref qh) "__getattribute__"=js (js (.builtin "type.__getattribute__"))
 g2:readsIn K qh (.type "type")=vk
 g3:ap7 K (.ref qh) (.type "type") "__init__"=js (.val (.ref lv))
 g4:av1 K (.ref lv)=vk
 v1:ap7 K (.type "ValueError") (.type "type") "__init__"=js (.val (.builtin "ValueError.__init__"))
 ga:Z3 K (.ref aW) "__getattribute__"=js (js (.builtin "BaseException.__getattribute__"))
 QW:Z3 K (.ref aW) "__getattr__"=js vd
 wS:Z3 K (.ref aW) (bj bL)=js vd
 bG:mS "ValueError" cX bu bu IT (nF K lv)=nF K lv
 bR:mS "GemError" cX bL bL IS (nF K cx)=nF K cx
theorem Ff (h:MJ K=vk) (bG:mS "ValueError" cX bu bu IT (nF K lv)=nF K lv) (bR:mS "GemError" cX bL bL IS (nF K cx)=nF K cx):pL K:=by
 haveI a:=of_decide_eq_true h
 haveI b:=a.2.2.2
 haveI c:=b.2.2.2.2
 haveI d:=c.2.2.2.2
 haveI e:=d.2.2.2
 exact ⟨BR a.1,a.2.1,a.2.2.1,b.1,b.2.1,b.2.2.1,b.2.2.2.1,c.1,c.2.1,c.2.2.1,c.2.2.2.1,d.1,d.2.1,o9 d.2.2.1,e.1,o9 e.2.1,e.2.2.1,e.2.2.2.1,e.2.2.2.2,bG,bR⟩
theorem zD (XF:pL K):∃bm cd,jr (kO prog w hB K s₁) bm cd/\xW (kO prog w hB K s₁) cd:=by
 refine ax λG_ ae=> ?_
 obtain ⟨nm,q,N,bs,bm,sn,sub,ab,col,dd,k0,k1,k2,k3,k5,e,rfl⟩:=XF.ex.ex
 haveI hc:au7 K aW=js {name:=nm,bases:=bs,mro:=[.ref aW,.ref qh,.type "ValueError",.type "Exception",.type "BaseException",.type "object"],ns:=N,qualname:=q,hasDict:=vk,slotNames:=sn,subclasses:=sub,abstract:=ab,collection:=col,hasDel:=Fk}:=by
  unfold au7
  exact af e rfl
 refine ae <| dh _ _ ⟨hc,rfl,rfl,λself=> ?_,XF.obj,XF.DH⟩ ⟨hc,rfl,XF.ga,XF.QW,XF.be,XF.wS⟩
 rw [refuseLoop_ref,refuseLoop_ref]
 exact PySem.F.store_ValueError.passes self
theorem pB {xs xx sa:Nat} {B:String} {arg:Xq->Xq} (h:jD K f F xs xx B=vk) (hb:mS B xs xx sa arg (nF K f)=nF K f):
  ∃fd,lM (kO prog w hB K s₁) f fd.scope (mS B xs xx sa arg (dT fd)) F.params F.hO fd.qualname fd.code/\GY K F xs xx B fd:=by
 unfold jD at h
 unfold nF at hb
 revert h hb
 cases e:C2 (K.lookup f) with
 | none=>exact λh=>TU h
 | some fd=>
  intro h hb
  haveI P:=of_decide_eq_true h
  refine ER (ww e) λoc od zo e1=> ?_
  haveI q:=wx (T:=kO prog w hB K s₁) (λo_=>rfl) oR rfl e1 P.1
  haveI hb:=hb
  exact az fd (hb▸q) P
noncomputable def eV:List (Zu×vi):=oV.map λp=>(oC p.1,p.2)
theorem nV:eV.lookup (oC "ValueError")=js (.type "ValueError"):=by decide+kernel
theorem nG:eV.lookup (oC "GemError")=js (.ref qh):=by decide+kernel
theorem nR:eV.lookup (oC "Raised")=js (.ref aW):=by decide+kernel
theorem nH:eV.lookup (oC "_law_heard")=js (.ref eY):=by decide+kernel
theorem DL (XF:pL K):oo (kO prog w hB K s₁) (n+2) "Raised":=by
 refine ax λG_ ae=>bV (zD (prog:=prog) (w:=w) (hB:=hB) (s₁:=s₁) XF) λbm cd XC XR=>ag (pB (prog:=prog) (w:=w) (hB:=hB) (s₁:=s₁) XF.WR XF.bG) λfd F1 P1=>ag (pB (prog:=prog) (w:=w) (hB:=hB) (s₁:=s₁) XF.UF XF.bR) λXd F2 P2=> ?_
 haveI d:=mw
 haveI I1:zk (kO prog w hB K s₁) (n+1) (.ref lv) (λva=>gB bu va []):=
  pc (xs:=cX) (xx:=bu) XC F1 (af0 _) (an4 rfl) P1.2.2.1 P1.2.2.2.1 P1.2.2.2.2 nV rfl (d cX).1 (d bu).1 P1.2.1 rfl
   (λ{A s pl Q E} X q=>rM (T:= "ValueError") X rfl (by decide+kernel) XF.v1 rfl q) (.inr ⟨_,rfl⟩) (Df XC XF.ve)
   (λ{env ρ σ s A en L va Q' E'} pR H u8 q=>by
    have kl:env.kindOf (bj bu)=js .local:=by unfold ab2; exact pR▸P1.2.2.2.1
    exact ag H.env λm E r=>ag ((r bu va u8).1 kl) λu e1 e2=>ae5 (ZK E.kind kl E.ns e1 (q u s.toks e2)) (d _).1) XF.t1 (λo_=>Z5 _)
 have I2:zk (kO prog w hB K s₁) (n+2) (.ref cx) (λva=>gB bL va (gB bu (.str "a Ruby error") [])):=
  pc (xs:=cX) (xx:=bL) XC F2 (Z5 _) (an4 rfl) P2.2.2.1 P2.2.2.2.1 P2.2.2.2.2 nG rfl (d cX).1 (d bL).1 P2.2.1 rfl
   (λ{A s pl Q E} X q=>method_cls X XF.g1 (cls_value X XF.g2 XF.g3 rfl q)) (.inl XF.g4) I1
   (λ{env ρ σ s A en L va Q' E'} pR H u8 q=>ai9 (q _ _ ⟨_,rfl⟩)) XF.t2 (λo_=>Ul rfl)
 obtain ⟨nm,q,N,bs,XO,sn,sub,ab,col,dd,j0,j1,j2,j3,j5,e,rfl⟩:=XF.ex.ex
 exact ae <| ⟨⟨nm,q,N,bs,_,vk,sn,sub,ab,col,dd,j0,j1,j2,j3,j5,e,⟨by decide+kernel,by decide+kernel,by decide+kernel⟩,rfl⟩,nR,cx,_,XF.PL,Ou.mp (bq XF.fn),I2,λv=>rfl⟩
end
structure TG where
 a:List ad3
 t:Xq
 b:List ad3
 p:Pos
noncomputable def vj:ad3->TG
 | .Try a [.ExceptHandler (js t) _ b p] _ _ _=>⟨a,t,b,p⟩
 | _=>⟨[],ey,[],⟨0,0,0,0⟩⟩
noncomputable def Ub (a b c d:Nat) (e:Xq):Xq:=.Attribute (.Attribute (.Attribute (.Name (bj a) (kd (kd (kd e 0) 0) 0).pos) (bj b) (kd (kd e 0) 0).pos) (bj c) (kd e 0).pos) (bj d) e.pos
noncomputable def Ix (e:Xq):Xq:=.BinOp (.BinOp (Ub iu bL xC Bn (kd (kd e 0) 0)) .Add (.Constant (.str (oC ": ")) (kN (kd (kd e 0) 1)) (kd (kd e 0) 1).pos) (kd e 0).pos) .Add (Ub iu bL qK Bm (kd e 1)) e.pos
noncomputable def rZ (g:List ad3):List ad3:=
 [.Try [.Return (js (.Call (.Name (bj tX) (kd (ex (st (vj (st g 0)).a 0) 0) 0).pos) [] [] (ex (st (vj (st g 0)).a 0) 0).pos)) (st (vj (st g 0)).a 0).pos]
  [.ExceptHandler (js (.Name "Raised" (vj (st g 0)).t.pos)) (js (bj iu)) [.Return (js (Ix (ex (st (vj (st g 0)).b 0) 0))) (st (vj (st g 0)).b 0).pos] (vj (st g 0)).p] [] [] (st g 0).pos]
noncomputable def Iw:gQ:=⟨vd,0,[tX],[],.nil⟩
abbrev IY (K:ac9) (fd:ad9):Prop:=Oi yc K Iw fd/\fd.scope.names.lookup (bj tX)=js .local/\fd.scope.names.lookup (bj iu)=js .local/\fd.scope.names.lookup (oC "Raised")=js .globalImplicit
noncomputable def lG (K:ac9):Bool:=match C2 (K.lookup eY) with
 | some fd=>decide (IY K fd)
 | none=>Fk
section
variable {K:ac9}
theorem EB (XF:pL K) (h:lG K=vk) (hb:rZ (nF K eY)=nF K eY):jF (kO prog w hB K s₁) iO "_law_heard":=by
 refine ax λG_ ae=>bV (zD (prog:=prog) (w:=w) (hB:=hB) (s₁:=s₁) XF) λbm cd XC XR=> ?_
 obtain ⟨UX,q',N,bs,XO,sn,sub,ab,col,dd,j0,j1,j2,j3,j5,ec,rfl⟩:=XF.ex.ex
 refine ae ?_
 unfold lG at h
 unfold nF at hb
 revert h hb
 cases e:C2 (K.lookup eY) with
 | none=>exact λh=>TU h
 | some fd=>
  intro h hb
  haveI P:=of_decide_eq_true h
  refine ER (ww e) λoc od zo e1=> ?_
  haveI F:=wx (T:=kO prog w hB K s₁) (λo_=>rfl) oR rfl e1 P.1
  haveI hb:rZ (dT fd)=dT fd:=hb
  rw [<-hb] at F
  exact ⟨λo_ z=>z eY tX iu fd.scope "Raised" _ _ _ _ _ _ _ _ fd.qualname fd.code F P.2.1 P.2.2.1 P.2.2.2 nR rfl (mw tX).1 (EC XR (xerr:=iu) (mw iu).1) (by decide+kernel:qQ.contains eY=vk) nH,λo_ z=>z UX q' N bs _ vk sn sub ab col dd j0 j1 j2 j3 j5 ec rfl⟩
theorem Kk (hC:iP.any (λp=>p.1==C)=vk) (code:∀q∈iP,CodeHd hB q.1 q.2) (main:∃mg bm ob,hB.Ns Zy mg/\mg "__builtins__"=js (.ref bm)/\bm ≠ ZO/\bm ≠ Zy/\hB.get? bm=js ob/\ob.cls=.type "module"/\ob.dict=js ZO/\ob.data=.plain):
  ∃P,uR (kO prog w hB K s₁) C P:=by
 refine ag (List.any_eq_true.mp hC) λy1 hm hc=> ?_
 obtain ⟨c,P⟩:=y1
 haveI jC:c=C:=by simpa using hc
 clear hc hC
 subst jC
 refine ⟨P,hm,λq hq e=> ?_,code _ hm,main⟩
 haveI key:∀q∈iP,∀r∈iP,q.2=r.2->q=r:=by decide+kernel
 exact key q hq _ hm e
noncomputable def su (K:ac9):Bool:=oj.all λr=>match eV.lookup (bj r.2.1) with
 | some u=>zI K r.2.2 u
 | none=>Fk
abbrev NP:Prop:=(∀r∈BN,eV.lookup (bj r.2)=js (.ref r.1)/\qQ.contains r.1=vk)/\(∀r∈dS,eV.lookup (bj r.2.1)=js (.ref (ig r.1)))/\(∀r∈jk,eV.lookup (bj r.2.1)=js (.ref (CH r.1)))/\
 (∀r∈rT,eV.lookup (bj r.2.1)=js r.2.2/\kinds.lookup r.1=js r.2.2)/\(∀z∈["len", "max", "min", "abs", "repr", "isinstance"],eV.lookup (oC z)=js (.builtin z))/\(∀z∈["str", "int", "list", "range"],eV.lookup (oC z)=js (.type z))
theorem np:NP:=by decide+kernel
theorem D4 {α:Type} {l:List (Nat×Nat×α)} (h:(l.lookup f).map (·.1)=js x):∃v,(f,x,v)∈l/\l.lookup f=js (x,v):=by
 refine ag (Ou.mp h) λy1 e q1=> ?_
 obtain ⟨i,C⟩:=y1
 clear h
 subst q1
 exact az C (cM e) e
theorem J' (X:K.In hB) (hg:su K=vk):cJ yc (kO prog w hB K s₁) iO:=by
 haveI n:=np
 exact {
  nm:=λo_=>rfl,fn:=λf x h=>n.1 _ (cM h),
  cls:=λf x h=>ag (D4 h) λv m e=>⟨n.2.1 _ m,show (dS.lookup f).isSome=vk by refine af e ?_; rfl⟩,
  qY:=λf x h=>ag (D4 h) λv m e=>⟨n.2.2.1 _ m,show (jk.lookup f).isSome=vk by refine af e ?_; rfl⟩,
  Eg:=λf x h=>ag (D4 h) λv m e=>⟨v,n.2.2.2.1 _ m⟩,
  glob:=λk x v h1 h2=>by
   refine ag (D4 h1) λu m e=> ?_
   haveI h2:(oj.lookup k).map (·.2)=js v:=h2
   rw [e] at h2
   haveI q:=aa4.mp hg _ m
   revert q
   cases eu:eV.lookup (bj x) with
   | none=>exact λh=>TU h
   | some u'=>exact λq=>(az u' eu (λρ h k1 k2=>sO X (vo h2▸q) ρ h k1 k2)),
  inj:=oR,qZ:=λx=>⟨(mw x).1,(mw x).2.1⟩,dot:=λx=>(mw x).2.2,bi:=n.2.2.2.2.1,ty:=n.2.2.2.2.2,iS:=rfl,RU:=rfl}
theorem Hk (X:K.In hB) (XF:pL K) (hg:su K=vk) (hh:lG K=vk) (Wb:rZ (nF K eY)=nF K eY) (ha:Cq K=vk) (NT:AO K=Gf K) (code:∀q∈iP,CodeHd hB q.1 q.2) (main:∃mg bm ob,hB.Ns Zy mg/\mg "__builtins__"=js (.ref bm)/\bm ≠ ZO/\bm ≠ Zy/\hB.get? bm=js ob/\ob.cls=.type "module"/\ob.dict=js ZO/\ob.data=.plain):
  CJ (kO prog w hB K s₁) yc iO (λf=>if Gy.contains f then BK f else vd) pZ DI:=by
 refine {names:=J' X hg,fns:=λf F e=> ?_,cV:=EB XF hh Wb,raise:=λn=>DL XF,aD:=rfl,init:=rfl,field:=rfl,f':=λ{g x v} h=>Option.join_eq_some_iff.mp h,fq:=λ{g x v} h=>(Ou.mp h).imp λr e=>⟨e.1,e.2.symm⟩}
 have hm:Gy.contains f=vk:=by
  cases q:Gy.contains f with
  | true=>rfl
  | false=>replace e:=q▸e; exact aI e
 haveI e:BK f=js F:=by replace e:=hm▸e; exact e
 have hm:=Zz.mp hm
 haveI q:=(an (aa4.mp ha f hm)).2
 haveI b:=List.map_inj_left.mp NT f hm
 haveI em:D1 f=F:=by unfold D1; refine af e ?_; rfl
 rw [em] at q b
 refine EQ (Co (λo_=>rfl) oR rfl q b) λsc body qual om FO c1 c2 c3=>tU sc body qual om FO c1 (λhl=> ?_) c3
 haveI l:=an (c2 hl)
 exact dJ (Kk (an l.2).1 code main) λP LO=>bP _ P LO (bq l.1) (bq (an l.2).2)
end
noncomputable def PP:Nat->Option gQ:=λf=>if Gy.contains f then BK f else vd
noncomputable def CC (k:Nat):Cc:=uF PP iO k
structure IX (p:Params) (K:ac9):Prop where
 all:Cq K=vk
 T:MK K=vk
 X:MJ K=vk
 glob:su K=vk
 cV:lG K=vk
 Rs:AO K=Gf K
 bG:mS "ValueError" cX bu bu IT (nF K lv)=nF K lv
 bR:mS "GemError" cX bL bL IS (nF K cx)=nF K cx
 bH:rZ (nF K eY)=nF K eY
 tabs:noTabs K=vk
 qY:∀r∈jk,r.2.2 ≠ ZI/\∃es n,K.lookup r.2.2=js ⟨.type "dict",vd,.dict es n,#[]⟩/\KeysLit p es.toList
noncomputable def D8 (p:Params) (l:List (String×Nat×vi)):List ad0:=l.map λr=>⟨PyData.keyHash p (oC r.1),.str (oC r.1) r.2.1,r.2.2⟩
theorem rP p:∀l,KeysLit p (D8 p l)
 | []=>trivial
 | r::l=>⟨(dh _ _ rfl rfl),rP p l⟩
theorem zG (prog:as0) {ρ} {h} (l:List Int):∀vs,WellAll w.params h vs (ofPys (l.map PyData.int))->ai ρ h (l.map V.int) vs:=by
 induction l with
 | nil=>exact λvs x=>by cases x; rfl
 | cons i l ih=>exact λvs x=>bp (wellAll_cons_inv x) λv ql e a b=>bP v ql e (af8 ((encInt prog w).is a).1) (ih ql b)
def Eo (P:Params) (h:Z4) (v:vi):WData->Prop
 | .list l=>∃a vs,v=.ref a/\h.get? a=js {cls:=.type "list",data:=.seq vs.toArray}/\WellAll P h vs l
 | _=>True
theorem zH {v:vi} {d:WData} (x:Well P h v d):Eo P h v d:=by
 cases x with
 | list e r=>exact bP _ _ rfl e r
 | _=>trivial
theorem Nd {p:as0} {mb:Zu->Option vi} {a:Nj} {K} (KF:IX w.params K) (KX:K.In s₁.heap) (hT:TabsAt iP s₁.heap) (T:Top p loose O' mg mb s₁.heap) (hg:s₁.gens=#[])
  {l:List Int} (hw:Well w.params s₁.heap (.ref a) (ofPy (PyData.list (l.map PyData.int)))) (hl:l.length<=63)
  (U4:(CC 120).call IE [.lst (l.map .int)] (λv o_=>v=.bool vk) (λo_ o_=>False) []):
  Z0 (Hj prog w) callerA (.call (.ref IE) ⟨[.ref a],[]⟩) (λr s'=>r=.ok (.ret (.bool vk))/\(∀b o,(au8 s₁.heap iP).get? b=js o->s'.heap.get? b=js o)/\s'.os=s₁.os/\s'.gens=#[]/\GrownAll iP s'.heap) s₁:=by
 haveI KB:=ghost_K hT KX KF.tabs
 haveI TG:=ghost_top hT T
 haveI TT:GR (au8 s₁.heap iP):=⟨TG.nolimit,(az mb TG.b T.builtins),by
  exact mE TG.g λo o_ o_ e o_=>dh Zy o (by decide) e⟩
 haveI main:∃mg bm ob,(au8 s₁.heap iP).Ns Zy mg/\mg "__builtins__"=js (.ref bm)/\bm ≠ ZO/\bm ≠ Zy/\(au8 s₁.heap iP).get? bm=js ob/\ob.cls=.type "module"/\ob.dict=js ZO/\ob.data=.plain:=by
  obtain ⟨bm,ob,b1,b2,b3,b4,b5,b6⟩:=TG.bmain
  refine ⟨mg,bm,ob,TG.g,b1,b2,λq=> ?_,b3,b4,b5,b6⟩
  refine lx TG.g λo es ep e hd o_=> ?_
  rw [q,e] at b3; clear b5 b4 b2 b1 TT TG T KX mb O' loose; obtain rfl:=vo b3; replace b6:=hd.symm.trans b6; cases b6
 haveI code:∀q∈iP,CodeHd (au8 s₁.heap iP) q.1 q.2:=by
  have:=ghost_code hT
  haveI get:∀{l:List (Nj×Nj)} {h},CodeAll l h->∀q∈l,CodeHd h q.1 q.2:=by
   intro l
   induction l with
   | nil=>intro h _ q hq; cases hq
   | cons r l ih=>
    intro h c q hq
    refine mh (Zr.mp hq) ?_ λhq=> ?_
    ·exact c.1
    ·exact ih c.2 q hq
  exact get this
 haveI PO:=Hk (prog:=prog) (w:=w) (s₁:=s₁) KB (Ff KF.X KF.bG KF.bR) KF.glob KF.cV KF.bH KF.all KF.Rs code main
 haveI R:bc (kO prog w (au8 s₁.heap iP) K s₁) ⟨[],[]⟩ [] s₁.heap:=by
  refine {ok:=(tok KB TT KF.T KF.qY),len:=rfl,obj:=λn o p e=>by simp at e,sep:=λn m p q o_ e=>by simp at e,base:=λb o e=>of_hideAll _ e,fN:=λb f=> ?_,low:=λb f=> ?_,tabs:=λq hq=> ?_,fj:=λb o_ f=> ?_,ei:=λb t=> ?_,aX:=λb hb=>by simp at hb}
  ·refine ag f λp hp o_=> ?_; simp at hp
  ·refine ag f λp hp o_=> ?_; simp at hp
  ·refine dH (#[]) ((hT q hq).2) trivial (λpos cv e=> ?_)
   simp [ai4] at e
  ·refine ag f λp hp o_=> ?_; simp at hp
  ·exact ag t λq hq q1=>af q1 <| hideAll_none _ (aq6 hq)
 refine bp (zH hw) λa' vs e Bx QL=> ?_
 obtain rfl:=Value.ref.inj e
 haveI rv:ai ⟨[],[]⟩ s₁.heap [.lst (l.map V.int)] [.ref a]:=by
  refine bP _ _ rfl (qa a vs.toArray _ rfl Bx ⟨λ⟨p,hp,o_⟩=>by simp at hp,by simp⟩ (by rw [ac3]; unfold bf; exact Y1 [_] [] (.l V0 (.n 100000)) (.l V0 (.n 63)) hl rfl) (zG prog l vs QL)) rfl
 refine (ML PO 120).call U4 ⟨[],[]⟩ s₁ callerA [] [.ref a] _ R ⟨rfl,rfl,λe he=>by simp at he,by decide+kernel,by decide+kernel⟩ rv (λv u am aa s' P r q=> ?_) (λo_ o_ o_ o_ o_ o_ o_ q=>q.elim)
 subst q
 refine af r <| ⟨rfl,P.rel.base,P.os,(P.gens.trans hg),?_⟩
 haveI grown:∀l,(∀q∈l,q∈iP)->GrownAll l s'.heap:=by
  intro l
  induction l with
  | nil=>intro _; trivial
  | cons q l ih=>
   intro hq
   exact ag (P.rel.tabs q (hq q (.head _))) λps e o_=>⟨⟨ps,e⟩,ih λq h=>hq q (.tail _ h)⟩
 exact grown iP λq h=>h
end
end Mine.Internal
end
section
open List renaming getD_eq_getElem?_getD -> js,getElem?_eq_getElem -> oC,length_map -> vk,mem_map -> vo,getElem_mem -> yd,map_map -> Fk,range -> Hj,length_append -> IQ,length -> N8,map_append -> Oq,getElem?_map -> Ou,replicate -> R6,flatMap_cons -> Ul,map_congr_left -> Um,getElem?_append_left -> Xq,getElem?_set_ne -> Xr,getElem?_append_right -> Zh,mem_singleton -> Zq,mem_append -> Zr,mem_map_of_mem -> Zs,mem_of_getElem? -> Zv,length_singleton -> Zx,length_replicate -> Zy,flatMap_map -> Zz,forall_mem_cons -> ZA,length_pos_iff -> ZC,length_cons -> ZD,length_take -> ZE,map_flatMap -> ZF,map_singleton -> ZG,drop_eq_getElem_cons -> ZH,take_succ_eq_append_getElem -> ZK,map_cons -> ZL,eq_of_mem_replicate -> ZM,mem_flatMap -> ZN,ext_getElem -> ZO,map_replicate -> ZT,append_nil -> ZU,mem_cons -> ZV,getElem?_eq_none -> ZW,mem_of_mem_take -> Z0,getElem?_eq_some_iff -> Z2,getElem_range -> Z5,length_eq_zero_iff -> Z9,all_eq_true -> aa0,take_length -> aa1,length_drop -> aa3,map_take -> aa4,replicate_succ -> aa5,append_assoc -> ab3,foldl_append -> ab4,length_range -> ab5,flatMap_eq_nil_iff -> ab6,getElem_map -> ab7,getElem_set -> ab8,getElem?_set_self -> ac1,find?_cons -> ac4,range_succ -> ac5,mem_of_mem_drop -> ac9,takeWhile_cons -> ad3,flatMap_assoc -> ad7,ext_getElem? -> ae4,filter_cons -> ae6,cons_ne_nil -> ae7,nodup_cons -> af2,length_nil -> af4,length_set -> af6,nil_append -> af7,drop -> ag0,map -> ag6
open PySem.Str renaming ofString -> j',ofString_eq_toList -> ac0,mk -> ag3
open Nat renaming le_of_ble_eq_true -> vd,le_refl -> FF,sub_add_cancel -> N6,min_eq_left -> ZI,le_antisymm -> ZJ,le_trans -> ZR,mul_le_mul -> ZY,pow_le_pow_right -> ZZ,succ_pos -> Z1,min_le_left -> Z4,lt_of_le_of_lt -> Z6,zero_le -> Z8,add_comm -> Z',min_le_right -> aa2,succ_mul -> aa6,pos_of_ne_zero -> ab0,zero_mul -> ac3,eq_of_beq_eq_true -> ac6,add_lt_of_lt_sub' -> ac7,mul_le_mul_right -> ad0,mul_le_mul_left -> ad4,ble_eq -> ad5,lt_of_lt_of_le -> ad8,eq_zero_or_pos -> ad9,ble -> ae0,le_succ_of_le -> ae1,lt_or_ge -> ae3,succ_le_succ -> ae5,succ_ne_self -> ae8,le_succ -> ae9,max_eq_left -> af0,beq -> af8
open Option renaming some -> vi,none -> YL,getD_some -> ZP,map -> aa8,map_eq_some_iff -> ac2,any -> af9
open Int renaming le_refl -> Lf,toNat_of_nonneg -> Nj,fmod_eq_emod_of_nonneg -> YM,le_trans -> Zt,ofNat_le -> ZQ,natCast_nonneg -> ZS,emod_eq_of_lt -> ZX,eq_ofNat_of_zero_le -> Z7,lt_of_le_of_lt -> aa7,fdiv_eq_ediv_of_nonneg -> aa9,lt_of_lt_of_le -> ab1,ofNat_lt -> ab9,toNat -> ad2,natAbs_natCast -> ad6,min_le_left -> af3,natCast_mul -> af5
open Bool renaming false -> Q1,true -> TU,and_eq_true -> Zu,eq_false_iff -> ae2
open Function renaming comp_def -> Zw
open Option.some renaming inj -> Z3
open Ne renaming symm -> ab2
open And renaming intro -> ad1
open List.cons renaming injEq -> af1
open PySem
namespace Mine.Internal
noncomputable section
variable {k x w m a u j g it u' s0 s1 bx C L:Nat} {f:V->V} {Q X:V->St->Prop} {σ aa:St} {c:Cc} {r eB:Bool} {en:En} {v name isc par xj src:V} {p o q:O} {n i n' n0 n1 m0:Int} {fs:List (Nat×V)} {l acc:List V} {op:Cm} {T:En->St->Prop} {M:KL} {kvs:List (Str×V)} {R:GM} {s:Str} {ts as:List Nat} {I:WI} {ls held:List (List V)} {rs cs ars:List Ar} {tb cb:Ar} {ps:List Int}
theorem C1 {f:Nat} {vs:List V} {Q X:K} (F:gQ) (hF:PP f=vi F) (h1:(ae0 (F.params.length - F.hO.length) vs.length && ae0 vs.length F.params.length)=TU)
  (wp:bX (CC k) F.body (pk Q) X (ik En.none (F.params.zip (wG F vs))) σ):(CC (k+1)).call f vs Q X σ:=by
 show xS PP (CC k) f vs Q X σ
 unfold xS
 refine af hF ?_
 rw [Zu,ad5,ad5] at h1
 exact ⟨h1,wp⟩
theorem dR {r:Ss} {Q:KN} {X:K} (q:let e:=En.set en x v; bX c r Q X e σ):yN x (DY (bX c r) Q X) en v σ:=q
theorem Mw {r:Ss} {Q:KN} {X:K} (v':V) (h:v=v') (q:let e:=En.set en x v'; bX c r Q X e σ):yN x (DY (bX c r) Q X) en v σ:=h▸q
theorem dG {r:Ss} {Q:KN} {X:K} (q:let e:=en; bX c r Q X e σ):bX c r Q X en σ:=q
theorem T2 {r:Ss} {Q:KN} {X:K} (q:let s:=σ; bX c r Q X en s):bX c r Q X en σ:=q
theorem HF (a b:Nat):min (a:Int) (b:Int)=((min a b:Nat):Int):=by
 rcases Nat.le_total a b with h | h
 ·rw [ZI h,Int.min_eq_left (ZQ.mpr h)]
 ·rw [Nat.min_eq_right h,Int.min_eq_right (ZQ.mpr h)]
theorem Pc (a b:Nat):max (a:Int) (b:Int)=((max a b:Nat):Int):=by
 rcases Nat.le_total a b with h | h
 ·rw [Nat.max_eq_right h,Int.max_eq_right (ZQ.mpr h)]
 ·rw [af0 h,Int.max_eq_left (ZQ.mpr h)]
theorem rD {w p:Int} (h1:-w<=p) (h2:p < w):0 < w:=Int.lt_of_not_ge λh=>absurd (aa7 (Zt (Int.neg_nonneg_of_nonpos h) h1) h2) (Int.not_lt.mpr h)
theorem rC {w:Int} {p:Int} (h1:0 - w<=p) (h2:p < w):0 < w:=rD (Int.zero_sub w▸h1) h2
theorem PS {p:Prop} [Decidable p] (h:w<=4):(if p then w+1 else w)<=5:=by
 split
 ·exact ae5 h
 ·exact ae1 h
theorem PQ {p:Prop} [Decidable p] (h:w<=4):(if p then w else w+1)<=5:=by
 split
 ·exact ae1 h
 ·exact ae5 h
theorem Ka {m:Int} (h:0<=m) (h2:m <(k:Int)):m.natAbs < k:=by
 obtain ⟨k,rfl⟩:=Z7 h
 exact ab9.mp h2
noncomputable def iN:Ss->Ss
 | .cons _ r=>r
 | .nil=> .nil
theorem DW {a}:j' a=j' b↔a=b:=by
 constructor
 ·intro h
  rw [ac0,ac0] at h
  exact String.toList_inj.mp ((List.map_inj_right (λx y e=>Char.ext (UInt32.toNat_inj.mp e))).mp (congrArg (λs:Str=>s.cps.toList) h))
 ·rintro rfl; rfl
@[simp] theorem OU (a b):(j' a=j' b)=(a=b):=propext DW
section
variable {Q X:K} {N:KN} {n:Nat}
theorem aB (h:σ[n]? =vi (.inst k fs)) (e:fs.lookup a=vi v) (q:Q v σ):Gc a Q (.ref n) σ:=by
 show eO (σ[n]?.bind (EO a)) _
 refine af h ?_; show eO (fs.lookup a) _; refine af e ?_; exact q
theorem Rk {op:zC} {B:EM} (h:σ[n]? =vi (.inst k fs)) (e:fs.lookup a=vi v) (q:Gb c a op B (.ref n) N X en v σ):KD c a op B N X en (.ref n) σ:=by
 show eO (σ[n]?.bind (EO a)) _
 refine af h ?_; show eO (fs.lookup a) _; refine af e ?_; exact q
theorem zw (h:σ[n]? =vi (.inst k fs)) (e1:c.field k a=TU) (e2:fs.length<=50)
  (q:T en (σ.set n (.inst k (gB a v fs)))):Jb c a v T en (.ref n) σ:=by
 show eO σ[n]? _
 exact h▸(cW e1 e2 q)
theorem mV {α:Type} l (a:α):(l++ [a])[l.length]? =vi a:=by simp
theorem JU {α:Type} l (a b:α):(l++ [a]).set l.length b=l++ [b]:=by simp
theorem N0 {α:Type} {l:List α} {a:α} {i:Nat} (h:i=l.length):(l++ [a])[i]? =vi a:=by refine af h ?_; exact mV _ _
theorem UB {α:Type} {l:List α} {a b:α} {i:Nat} (h:i=l.length):(l++ [a]).set i b=l++ [b]:=by refine af h ?_; exact JU _ _ _
theorem wC (e1:c.field k a=TU) (e2:fs.length<=50)
  (q:T en (σ++ [.inst k (gB a v fs)])):Jb c a v T en (.ref σ.length) (σ++ [.inst k fs]):=
 zw (mV _ _) e1 e2 (by simp only [JU]; exact q)
theorem Rf {l:List O} (e1:c.field k a=TU) (e2:fs.length<=50)
  (q:T en ((σ++ [.inst k (gB a v fs)])++l)):Jb c a v T en (.ref σ.length) ((σ++ [.inst k fs])++l):=
 zw (by refine af (Xq (by simp)) ?_; exact mV _ _) e1 e2 (by rw [List.set_append_left _ _ (by simp),JU]; exact q)
theorem Rg {u:V} {o} (hn:n=σ.length) (e:nC o u v=vi o') (q:T en (σ++ [o'])):HJ v (.ref n) T en u (σ++ [o]):=by
 show eO (σ++ [o])[n]? _
 refine af (N0 hn) ?_; show eO (nC o u v) _; refine af e ?_; show T en ((σ++ [o]).set n o'); refine af (UB hn) ?_; exact q
theorem eN {o:Option α} {a:α} {M:α->St->Prop} (h:o=vi a) (q:M a σ):kh o M σ:=by refine af h ?_; exact q
theorem ME {j:Int} {o:V} (q:Jb c a (.int (i+j)) (nQ N) en o σ):Ga c a .add o (.int i) N en (.int j) σ:=⟨rfl,q⟩
theorem aE {f:Nat} {B:EL} (h:σ[n]? =vi (.inst k fs)) (e:c.aD k m=vi f) (q:B (A' c f (.ref n) Q X) X en σ):FT c m B Q X en (.ref n) σ:=by
 show eO (instO σ[n]? _) _
 refine af h ?_; show eO (c.aD k m) _; refine af e ?_; exact q
noncomputable def LV (σ:St) (v:V) (l:List V):Prop:=v=.lst l∨∃i t,v=.ref i/\σ[i]? =vi (.list t l)
theorem fC:LV σ (.lst l) l:=.inl rfl
theorem bT {t:Nat} (h:σ[n]? =vi (.list t l)):LV σ (.ref n) l:=.inr (dh n t rfl h)
theorem LV.get (h:LV σ v l):ez σ v=vi l:=by
 rcases h with rfl | ⟨i,t,rfl,e⟩
 ·rfl
 ·show σ[i]?.bind D7=_
  refine af e ?_; rfl
theorem LV.items (h:LV σ v l):aQ σ v=vi l:=by
 rcases h with rfl | ⟨i,t,rfl,e⟩
 ·rfl
 ·show σ[i]?.bind D7=_
  refine af e ?_; rfl
theorem dj (h:LV σ v l) (q:Q (.int l.length) σ):HM Q v σ:=by
 unfold HM rG Ki; exact h.get▸q
theorem Vt {u:V} (h:LV σ v l) (e:(place i l.length).bind (l[·]?)=vi u):Ew σ v (.int i)=vi u:=by
 show (aQ σ v).bind (λl=>(mc i l.length).bind (l[·]?))=_
 refine af h.items ?_; show (mc i l.length).bind (l[·]?)=_; rw [l8]; exact e
theorem bA {u:V} (h:LV σ v l) (e:(place i l.length).bind (l[·]?)=vi u) (q:Q u σ):tR v Q (.int i) σ:=by
 unfold tR kh
 exact (Vt h e)▸q
theorem T3 {u:V} (e:(place i l.length).bind (l[·]?)=vi u) (q:Q u σ):tR (.tup l) Q (.int i) σ:=by
 have z:Ew σ (.tup l) (.int i)=(mc i l.length).bind (l[·]?):=rfl
 unfold tR kh
 simp only [z,l8,e]; exact q
theorem EW (h:LV σ v l) (s:cg i=TU) (q:Q (.lst (l.drop i.toNat)) σ):FM v Q (.int i) σ:=⟨s,by simp only [rG,h.get]; exact q⟩
theorem EU (h:LV σ v l) (s:cg i=TU) (q:Q (.lst (l.take i.toNat)) σ):FL v Q (.int i) σ:=⟨s,by simp only [rG,h.get]; exact q⟩
theorem Xx {j:Int} (h:LV σ v l) (s:cg i=TU) (s2:cg j=TU) (q:Q (.lst (JS l i.toNat j.toNat)) σ):Kq v (.int i) Q (.int j) σ:=(cW s s2 (by simp only [rG,h.get]; exact q))
theorem Xy (h:LV σ v l) (q:Q (.lst l.reverse) σ):HK Q v σ:=by
 unfold HK rG; exact h.get▸q
theorem MD {m:Option Nat} (h:LV σ v l) (q:mQ m Q l σ):xt m Q v σ:=by
 unfold xt kh; exact h.get▸q
theorem Mx {t:Nat} (h:σ[n]? =vi (.bg t kvs)) (z:kvs.length<=bf) (q:Q (.lst (kvs.map λp=> .str p.1)) σ):FU Q (.ref n) σ:=by
 show eO σ[n]? _
 exact h▸⟨z,q⟩
theorem pt (h:σ[n]? =vi (.inst k fs)) (q:Q (.bool (j==10+k || (j==3 && k !=0))) σ):Ba j Q (.ref n) σ:=by
 show eO (instO σ[n]? _) _
 exact h▸q
theorem Bi (h:σ[n]? =vi (.inst k fs)):jd σ (.ref n) j=vi (j==10+k || (j==3 && k !=0)):=
 congrArg (λo=>instO o λc=>vi (j==10+c || (j==3 && c !=0))) h
theorem qR (h:σ[n]? =vi (.inst k fs)):fld σ (.ref n) a=fs.lookup a:=congrArg (λo:Option O=>o.bind (EO a)) h
theorem xz {t:Nat} (h:σ[n]? =vi (.list t l)):xA σ (.ref n)=TU:=congrArg (λo:Option O=>(o.bind D7).isSome) h
theorem y0 {B:EM} {t:Nat} (h:σ[n]? =vi (.list t l)) (q:B (xu (.ref n) Q) X en σ):KI B Q X en (.ref n) σ:=⟨xz h,q⟩
theorem xM {t:Nat} {u:V} (h:σ[n]? =vi (.list t l)) (z:l.length < bf) (q:Q .none (σ.set n (.list t (l++ [u])))):xu (.ref n) Q u σ:=by
 show eO σ[n]? _
 exact h▸⟨z,q⟩
theorem Ca {t:Nat} {l':List V} {u:V} (e:l++ [u]=l') (z:l.length < bf) (q:Q .none (σ++ [.list t l'])):xu (.ref σ.length) Q u (σ++ [.list t l]):=
 xM (mV _ _) z (by simp only [JU,e]; exact q)
theorem Rj {B:EM} {t:Nat} (h:σ[n]? =vi (.list t l)) (q:B (Bc (.ref n) Q) X en σ):KA B Q X en (.ref n) σ:=⟨xz h,q⟩
theorem MC {t:Nat} {u:List V} (h:σ[n]? =vi (.list t l)) (z:l.length+u.length<=bf) (q:Q .none (σ.set n (.list t (l++u)))):Bc (.ref n) Q (.lst u) σ:=by
 show eO σ[n]? _
 exact h▸⟨z,q⟩
theorem Ms {t:Nat} {u:V} (h:σ[n]? =vi (.list t l)) (e:l.getLast? =vi u) (q:Q u (σ.set n (.list t l.dropLast))):Kt Q (.ref n) σ:=by
 show eO σ[n]? _
 refine af h ?_; show eO l.getLast? _; exact e▸q
theorem MF {t:Nat} {u:List V} (h:σ[n]? =vi (.list t l)) (q:N .next en (σ.set n (.list t u))):Gd (.lst u) N en (.ref n) σ:=by
 show eO σ[n]? _
 exact h▸q
theorem wD {u:V} (h:σ[n]? =vi o) (e:nC o u v=vi o') (q:T en (σ.set n o')):HJ v (.ref n) T en u σ:=by
 show eO σ[n]? _
 refine af h ?_; show eO (nC o u v) _; exact e▸q
theorem Et {t:Nat} (h:σ[n]? =vi (.bg t kvs)):mR σ (.ref n)=TU:=congrArg (af9 Fa) h
theorem Eu {t:Nat} {kvs:List (Int×V)} (h:σ[n]? =vi (.bM t kvs)):mR σ (.ref n)=TU:=congrArg (af9 Fa) h
theorem Es {t:Nat} {kvs:List (V×V)} (h:σ[n]? =vi (.d6 t kvs)):mR σ (.ref n)=TU:=congrArg (af9 Fa) h
theorem MA {B:EM} {t:Nat} (h:σ[n]? =vi (.bg t kvs)) (q:B (v5 (.ref n) Q) X en σ):FV B Q X en (.ref n) σ:=⟨Et h,q⟩
theorem B0 {t:Nat} {z:Str} (h:σ[n]? =vi (.bg t kvs)) (e:(eI z kvs).getD .none=v) (q:Q v σ):v5 (.ref n) Q (.str z) σ:=by
 show eO σ[n]? _
 refine af h ?_; show Q ((eI z kvs).getD .none) σ; exact e▸q
theorem MB {B:EM} {t:Nat} {kvs:List (V×V)} (h:σ[n]? =vi (.d6 t kvs)) (q:B (v6 (.ref n) Q) X en σ):FW B Q X en (.ref n) σ:=⟨Es h,q⟩
theorem IH {t:Nat} {a:Str} {b:Int} (h:σ[n]? =vi (.d6 t [])) (q:Q .none σ):v6 (.ref n) Q (.tup [.str a,.int b]) σ:=by
 show eO σ[n]? _
 refine af h ?_; exact ⟨rfl,q⟩
theorem GC {B:EM} {t:Nat} {kvs:List (Int×V)} (h:σ[n]? =vi (.bM t kvs)) (q:B (v4 (.ref n) Q) X en σ):FP B Q X en (.ref n) σ:=⟨Eu h,q⟩
theorem BZ {t:Nat} {kvs:List (Int×V)} (h:σ[n]? =vi (.bM t kvs)) (z:kvs.length<=bf) (e:eI i kvs=vi v) (q:Q v (σ.set n (.bM t (sp i kvs)))):v4 (.ref n) Q (.int i) σ:=by
 show eO σ[n]? _
 refine af h ?_; refine ⟨z,?_⟩; exact e▸q
theorem O8 {is:List Int} (h:fO l=vi is) {t:Nat} (g:σ[n]? =vi (.list t l)):yG σ (.int i) (.ref n)=vi (decide (i∈is)):=by
 show HG i σ[n]? =_
 refine af g ?_; show aa8 _ _=_; refine af h ?_; rfl
theorem O9 {t:Nat} {kvs:List (Int×V)} (g:σ[n]? =vi (.bM t kvs)):yG σ (.int i) (.ref n)=vi (decide (i∈kvs.map Prod.fst)):=by
 show HG i σ[n]? =_
 refine af g ?_; rfl
theorem fU {t:Nat} (g:σ[n]? =vi (.list t l)):pA σ (.ref n) (.lst [])=vi l.isEmpty:=by
 show w' σ[n]? _=_
 refine af g ?_; rfl
theorem cT {a:V} (e:uE σ op a b=vi r) (q:Q (.bool r) σ):tS op a Q b σ:=by
 unfold tS rG; exact e▸q
theorem Rq {a:V} (e:yG σ a b=vi r):uE σ .FI a b=vi (!r):=congrArg (aa8 (!·)) e
theorem uH {a:V} (e:pA σ a b=vi r):uE σ .ne a b=vi (!r):=congrArg (aa8 (!·)) e
theorem pv (h:r=TU) (q:A N X en σ):Pw A B N X en (.bool r) σ:=by refine af h ?_; exact q
theorem iB (h:r=Q1) (q:B N X en σ):Pw A B N X en (.bool r) σ:=by refine af h ?_; exact q
theorem fV (h:r=TU) (q:A Q X en σ):HP A B Q X en (.bool r) σ:=by refine af h ?_; exact q
theorem gk (h:r=Q1) (q:B Q X en σ):HP A B Q X en (.bool r) σ:=by refine af h ?_; exact q
theorem xN (h:r=TU) (q:B Q X en σ):Ei B Q X en (.bool r) σ:=by refine af h ?_; exact q
theorem GI (h:r=Q1) (q:Q (.bool Q1) σ):Ei B Q X en (.bool r) σ:=by refine af h ?_; exact q
theorem xO (q:Q (.bool r) σ):Ei (sN c .nil) Q X en (.bool r) σ:=by cases r <;> exact q
theorem Mt (q:Q (.bool r) σ):Np (zE c .nil) Q X en (.bool r) σ:=by cases r <;> exact q
theorem Xz (h:r=TU) (q:Q (.bool TU) σ):Np B Q X en (.bool r) σ:=by refine af h ?_; exact q
theorem Rh (h:r=Q1) (q:B Q X en σ):Np B Q X en (.bool r) σ:=by refine af h ?_; exact q
theorem yZ (h:r=TU) (q:D (tS op v Q) X en σ):HV op D v Q X en r σ:=by refine af h ?_; exact q
theorem E8 (h:r=Q1) (q:Q (.bool Q1) σ):HV op D v Q X en r σ:=by refine af h ?_; exact q
theorem XA (h:r=TU) (q:R acc M X en σ):Py R acc M X en r σ:=by refine af h ?_; exact q
theorem XB (h:r=Q1) (q:M acc σ):Py R acc M X en r σ:=by refine af h ?_; exact q
theorem My {B:(Bool->St->Prop)->K->En->St->Prop} (h:r=TU) (q:B P X en σ):HR B P X en (.bool r) σ:=by refine af h ?_; exact q
theorem Mz {B:(Bool->St->Prop)->K->En->St->Prop} (h:r=Q1) (q:P Q1 σ):HR B P X en (.bool r) σ:=by refine af h ?_; exact q
theorem Xv {R:KN->En->St->Prop} (h:r=TU) (q:B (Pt R N) en σ):Ph B R N en r σ:=by refine af h ?_; exact q
theorem Xw {R:KN->En->St->Prop} (h:r=Q1) (q:N .next en σ):Ph B R N en r σ:=by refine af h ?_; exact q
theorem Mu {x:List V} (z:x.length*i.toNat<=bf) (z1:i < 1000000) (z2:-1000000 < i) (q:Q (.lst (R6 i.toNat x).flatten) σ):jU .mul (.lst x) Q (.int i) σ:=(mz z z1 z2 q)
theorem iA {j:Int} (z:i.natAbs < 18446744073709551616∨j.natAbs < 18446744073709551616) (q:Q (.int (i*j)) σ):jU .mul (.int i) Q (.int j) σ:=⟨z,q⟩
theorem mG {j:Int} (z:j ≠ 0) (z2:j.natAbs < 4611686018427387904) (q:Q (.int (i.fmod j)) σ):jU .mod (.int i) Q (.int j) σ:=(cW z z2 q)
theorem EZ {j:Int} (z:j ≠ 0) (z2:j.natAbs < 4611686018427387904) (q:Q (.int (i.fdiv j)) σ):jU .fdiv (.int i) Q (.int j) σ:=(cW z z2 q)
theorem EX {j:Int} (z1:1 < i) (z2:i < 1267650600228229401496703205376) (z3:0 < j) (z4:j < 100) (q:Q (.int (i^j.toNat)) σ):jU .pow (.int i) Q (.int j) σ:=⟨z1,z2,z3,z4,q⟩
theorem jW {i:Str} {j:Str} (z:i.length+j.length<=1000) (q:Q (.str (i++j)) σ):jU .add (.str i) Q (.str j) σ:=⟨z,q⟩
theorem iI {i:List V} {j:List V} (z:i.length+j.length<=bf) (q:Q (.lst (i++j)) σ):jU .add (.lst i) Q (.lst j) σ:=⟨z,q⟩
theorem Mq (z:i.natAbs < 1000000) (q:Q (.str (j' (toString i))) σ):Kp Q (.int i) σ:=⟨z,q⟩
theorem Mr (e:AD v=vi s) (q:Q (.str s) σ):xq Q v σ:=by
 unfold xq rG; exact e▸q
theorem eF (e:Dl v=vi s) (z:out.length+s.length<=1000) (q:B (out++s) Q X en σ):kF B out Q X en v σ:=by
 unfold kF kh; exact e▸⟨z,q⟩
theorem GF (e:c.fq g s=vi v) (q:Q v σ):FR c g Q (.str s) σ:=by
 show eO (c.fq g s) _
 exact e▸q
theorem GH (e:c.f' g s=vi v) (q:Q v σ):FY c g Q (.str s) σ:=by
 show eO (c.f' g s) _
 exact e▸q
theorem wB {t:Ex} {b:Ss} (n:Nat) (q:lQ (sR (ba c t) X) (sS (bX c b) X) n N en σ):wpS c (.i7 t b) N X en σ:=⟨n,q⟩
theorem B9 (z:acc.length < bf) (q:M (acc++ [v]) σ):Bd acc M v σ:=⟨z,q⟩
theorem II {B:SM} (h:LV σ v l) (q:hH v l (zP x B X) l N en σ):kFor x B N X en v σ:=by
 unfold kFor DV; exact h.items▸q
theorem T6 (h:LV σ v l) (q:hH v l (zO c xs B X) l N en σ):Bb c xs B N X en v σ:=by
 unfold Bb DV; exact h.items▸q
theorem pw {B:SM} {j:Int} (z:-1000000 < i/\i < 1000000/\-1000000 < j/\j < 1000000) (q:hH (.lst (aM i j)) (aM i j) (zP x B X) (aM i j) N en σ):v7 x (.int i) B N X en (.int j) σ:=⟨z,q⟩
theorem sJ {F:(Bool->St->Prop)->K->En->St->Prop} (h:LV σ v l) (q:d7 v l (tG x F R X en) l acc M σ):Nq x F R acc M X en v σ:=by
 unfold Nq J4; exact h.items▸q
theorem zy {F:(Bool->St->Prop)->K->En->St->Prop} {j:Int} (z:-1000000 < i/\i < 1000000/\-1000000 < j/\j < 1000000)
  (q:d7 (.lst (aM i j)) (aM i j) (tG x F R X en) (aM i j) acc M σ):Eh x (.int i) F R acc M X en (.int j) σ:=⟨z,q⟩
theorem ET {ts:List Tg} (h:LV σ v l) (z:ts.length=l.length) (q:rm c ts l (nQ N) X en σ):qD c ts N X en v σ:=by
 unfold qD kh; exact h.items▸⟨z,q⟩
theorem dQ {ts:List Tg} (z:ts.length=l.length) (q:rm c ts l (nQ N) X en σ):qD c ts N X en (.tup l) σ:=⟨z,q⟩
theorem Ow (z:xs.length=l.length) (q:rm c (xs.map .nm) l (nB B N X) X en σ):zO c xs B X (.tup l) N en σ:=⟨z,q⟩
theorem IG {o:Nat} {k2 k3:Nat} {TM TL:List (Nat×V)} {a b:Str} (h:σ[n]? =vi (.inst k fs)) (e:fs.lookup c.cF=vi (.ref o)) (h2:σ[o]? =vi (.inst k2 TM)) (e2:TM.lookup c.nName=vi (.str a))
  (e3:fs.lookup c.bl=vi (.ref m)) (h3:σ[m]? =vi (.inst k3 TL)) (e4:TL.lookup c.dO=vi (.str b)) (z:a.length+b.length<=900) (q:Q (.str (a++ ": "++b)) σ):oZ c Q (.ref n) σ:=by
 unfold oZ kh; refine af ((qR h).trans e) ?_
 show eO (fld σ (.ref o) c.nName) _
 refine af ((qR h2).trans e2) ?_
 show eO (fld σ (.ref n) c.bl) _
 refine af ((qR h).trans e3) ?_
 show eO (fld σ (.ref m) c.dO) _
 exact ((qR h3).trans e4)▸⟨z,q⟩
end
theorem zU {i:Nat} (h:i < 1000000):Dl (.int (i:Int))=vi (j' (toString (i:Int))):=if_pos (by simp only [ad6]; exact h)
theorem yB (n:Nat) (m:Nat) (h:n < 1000000):place (n:Int) m=vi n:=by
 unfold place
 rw [if_pos (by exact Y0 [_] [] (.L (.n 0) (.c V0)) rfl),if_pos (by exact Y1 [_] [] (.T (.c V0) (.n 1000000)) (.t V0 (.n 1000000)) h rfl)]; simp
theorem place_lt {k:Int} (h:0<=k) (h2:k < 1000000):place k m=vi k.toNat:=by
 unfold place
 rw [if_pos h,if_pos h2]
theorem w9 (m:Nat):place 0 m=vi 0:=by unfold place; rfl
theorem w8 (m:Nat):place 1 m=vi 1:=by unfold place; rfl
theorem wZ (m:Nat):place 2 m=vi 2:=by unfold place; rfl
theorem DQ (m:Nat):place 3 m=vi 3:=by unfold place; rfl
theorem DP (m:Nat):place 4 m=vi 4:=by unfold place; rfl
theorem AJ (m:Nat) (h:0 < m):place (-1) m=vi (m - 1):=by
 unfold place
 rw [if_neg (by exact Y0 [] [] (.o (.L (.n 0) (.g (.n 1)))) rfl),if_pos (⟨Y1 [_] [] (.L (.g (.c V0)) (.g (.n 1))) (.t (.n 0) V0) h rfl,Y0 [] [] (.L (.g (.n 1000000)) (.g (.n 1))) rfl⟩)]; congr 1; exact Y2 [_,_,_] [] (.e V0 V1) (.Q (.c V0) (.a (.g (.n 1)) (.c V2))) (.r (.e (.a V1 (.n 1)) V2)) (Nj (Y1 [_] [] (.L (.n 0) (.a (.g (.n 1)) (.c V0))) (.t (.n 0) V0) h rfl)) (N6 (Y1 [_] [] (.l (.n 1) V0) (.t (.n 0) V0) h rfl)) rfl
theorem Ej {u:V} (h:l[0]? =vi u):(place 0 l.length).bind (l[·]?)=vi u:=by rw [w9]; exact h
theorem Vj {u:V} (h:l[1]? =vi u):(place 1 l.length).bind (l[·]?)=vi u:=by rw [w8]; exact h
theorem Jc {u:V} (h:l[2]? =vi u):(place 2 l.length).bind (l[·]?)=vi u:=by rw [wZ]; exact h
theorem PH {u:V} (h:l[3]? =vi u):(place 3 l.length).bind (l[·]?)=vi u:=by rw [DQ]; exact h
theorem Vi {u:V} (h:l[4]? =vi u):(place 4 l.length).bind (l[·]?)=vi u:=by rw [DP]; exact h
theorem o6 {u:V} {n:Nat} (z:n < 1000000) (h:l[n]? =vi u):(place (n:Int) l.length).bind (l[·]?)=vi u:=by exact (yB _ _ z)▸h
theorem HX {u:V} (z:0 < l.length) (h:l[l.length - 1]? =vi u):(place (-1) l.length).bind (l[·]?)=vi u:=(AJ _ z)▸h
theorem vJ (t:Nat) (l:List V) (j:Int) (v:V):nC (.list t l) (.int j) v=(place j l.length).bind λp=>if p < l.length then vi (.list t (l.set p v)) else YL:=rfl
theorem AB (t:Nat) (l:List (Int×V)) (j:Int) (v:V) (h:l.length<=bf):nC (.bM t l) (.int j) v=vi (.bM t (lV j v l)):=if_pos h
theorem He (t:Nat) (l:List (Str×V)) (j:Str) (v:V) (h:l.length<=bf):nC (.bg t l) (.str j) v=vi (.bg t (lV j v l)):=if_pos h
theorem Uz {t:Nat} {a:V}:nC (.list t (a::l)) (.int 0) v=vi (.list t (v::l)):=by
 simp only [vJ,w9]; simp
theorem Uy {t:Nat} {a b c:V}:nC (.list t (a::b::c::l)) (.int 2) v=vi (.list t (a::b::v::l)):=by
 simp only [vJ,wZ]; simp
theorem cD {x} (hx:cw 4 (.lst x)=TU) (h:x=y):pA σ (.lst x) (.lst y)=vi TU:=by
 subst h
 cases x with
 | nil=>rfl
 | cons a l=>
  show (if cw 4 (.lst (a::l))&& cw 4 (.lst (a::l)) then vi (PyData.eqv _ _) else YL)=_
  refine af hx ?_; exact congrArg vi (PySem.SeqAt.eqv_refl _ (ja _ _ hx).2.1)
theorem gG {s:S} {r:Ss} {Q:KN} {X:K} (R:En->St->Prop)
  (h1:∀N,(∀aH aa,R aH aa->N .next aH aa)->(∀v aH aa,N (.ret v) aH aa=Q (.ret v) aH aa)->(∀aH aa,N .brk aH aa=Q .brk aH aa)->(∀aH aa,N .cont aH aa=Q .cont aH aa)->wpS c s N X en σ)
  (h2:∀aH aa,R aH aa->bX c r Q X aH aa):bX c (.cons s r) Q X en σ:=
 h1 (DY (bX c r) Q X) h2 (λo_ o_ o_=>rfl) (λo_ o_=>rfl) (λo_ o_=>rfl)
noncomputable def Vr (ts:List Nat):O->Bool
 | .list t _=>ts.contains t
 | _=>Q1
noncomputable def kp (ts:List Nat):O->Bool
 | .list t _=> !(ts.contains t)
 | .inst c _=> !(af8 c 0)&& !(af8 c 7)
 | _=>Q1
noncomputable abbrev bK (n:Int) (d:Nat) (b:Bool) (tl:List (Nat×V)):O:=.inst 0 ((139,.iy)::(140,.iy)::(49,.none)::(43,.int 20000)::(101,.int 0)::(199,.int n)::(191,.int 8)::(209,.iy)::(38,.ref d)::(146,.int 0)::(207,.int 0)::(132,.iy)::(15,.lst [])::(31,.none)::(155,.bool b)::tl)
noncomputable abbrev fL (num own name isc par xj nat:V):O:=.inst 7 [(119,num),(91,own),(111,.iy),(16,.none),(112,.bool Q1),(82,.none),(44,name),(153,isc),(121,par),(90,.none),(138,.iy),(168,.iy),(87,xj),(71,.lst []),(150,.none),(118,nat),(34,.none)]
noncomputable abbrev cB (num:Int) (own:Nat) (eB:Bool) (it:Nat):O:=.inst 3 [(119,.int num),(91,.ref own),(111,.iy),(16,.none),(112,.bool eB),(82,.none),(83,.ref it)]
noncomputable abbrev AS (num:Int) (own:Nat) (s:Str):O:=.inst 2 [(119,.int num),(91,.ref own),(111,.iy),(16,.none),(112,.bool Q1),(82,.none),(62,.str s)]
noncomputable abbrev J6 (num:Int) (own msg:Nat):O:=.inst 6 [(119,.int num),(91,.ref own),(111,.iy),(16,.none),(112,.bool Q1),(82,.none),(137,.ref msg),(73,.none)]
noncomputable def Mod (σ:St) (m:Nat) (s:Str):Prop:=∃(num:Int) (own isc par xj:V),σ[m]? =vi (fL (.int num) own (.str s) isc par xj (.str s))
structure Fr (ts:List Nat) (σ aa:St):Prop where
 len:σ.length<=aa.length
 same:∀(i:Nat) (o:O),σ[i]? =vi o->kp ts o=TU->aa[i]? =vi o
 mod:∀m s,Mod σ m s->Mod aa m s
theorem Fr.refl ts σ:Fr ts σ σ:=⟨FF _,λo_ o_ h o_=>h,λo_ o_ h=>h⟩
theorem Fr.trans {a:St} {c:St} (x:Fr ts a b) (y:Fr ts b c):Fr ts a c:=⟨ZR x.len y.len,λi o h k=>y.same i o (x.same i o h k) k,λm s h=>y.mod m s (x.mod m s h)⟩
theorem Fr.get {a:St} (x:Fr ts a b) {i:Nat} (h:a[i]? =vi o) (n:kp ts o=TU):b[i]? =vi o:=x.same i o h n
theorem dE {i:Nat} (h:σ[i]? =vi o):i < σ.length:=(Z2.mp h).1
theorem aA {i:Nat} (h:σ[i]? =vi o) (l:List O):(σ++l)[i]? =vi o:=(Xq (dE h))▸h
theorem Fr.push ts σ l:Fr ts σ (σ++l):=⟨by simp,λi o h o_=>aA h l,λm s h=>hG h λa b c d e h=>as8 a b c d e (aA h l)⟩
theorem ak {i:Nat} (h:σ[i]? =vi o) (hj:σ[j]? =vi p) (n:o ≠ p):(σ.set j q)[i]? =vi o:=by
 rw [Xr]
 ·exact h
 ·rintro rfl; obtain rfl:=se h hj; exact n rfl
theorem aP (hj:σ[j]? =vi p) (q:O):(σ.set j q)[j]? =vi q:=ac1 (dE hj)
theorem Fr.set (hj:σ[j]? =vi p) (hk:kp ts p=Q1) (hm:∀fs,p ≠ .inst 7 fs):Fr ts σ (σ.set j q):=⟨by simp,λi o h k=>ak h hj (by rintro rfl; exact RZ k hk),λm s h=>hG h λa b c d e h=>as8 a b c d e (ak h hj (ab2 (hm _)))⟩
theorem Fr.du {qi:St} (f:Fr ts qi σ) (hj:qi.length<=j):Fr ts qi (σ.set j q):=by
 refine ⟨by simpa using f.len,λi o h k=> ?_,λm s h=> ?_⟩
 ·rw [Xr (by exact Y2 [_,_,_] [] (.o (.e V0 V1)) (.l V2 V0) (.t V1 V2) hj (dE h) rfl)]; exact f.same i o h k
 ·exact hG (f.mod m s h) λa b c d e h'=>hG h λo_ o_ o_ o_ o_ h0=>as8 a b c d e (by rw [Xr (by exact Y2 [_,_,_] [] (.o (.e V0 V1)) (.l V2 V0) (.t V1 V2) hj (dE h0) rfl)]; exact h')
set_option tactic.hygienic true in
theorem Ee (h:∀t∈ts,t∈us) (k:kp us o=TU):kp ts o=TU:=by
 cases o with
 | list t l=>
  have k:(!us.contains t)=TU:=k
  show (!ts.contains t)=TU
  simp at k ⊢
  exact λm=>k (h t m)
 | inst=>exact k
 | _=>exact dy k
theorem Fr.mono {a:St} (x:Fr ts a b) (h:∀t∈ts,t∈us):Fr us a b:=⟨x.len,λi o g k=>x.same i o g (Ee h k),x.mod⟩
theorem qy {d:Nat} {b:Bool} {tl:List (Nat×V)} (hw:σ[w]? =vi (bK n d b tl)) (hz:tl.length<=5)
  (q:Q (.int (n+1)) (σ.set w (bK (n+1) d b tl))):(CC (k+2)).call 602 [.ref w] Q X σ:=C1 ⟨YL,119,[55],[],jp⟩ rfl rfl <| Rk hw rfl <| ME <| zw hw rfl (Y1 [_] [] (.l (.a V0 (.n 15)) (.n 50)) (.l V0 (.n 5)) hz rfl) <| aB (aP hw (bK (n+1) d b tl)) rfl <| q
theorem eA σ (o:O):(σ++ [o])[σ.length]? =vi o:=mV _ _
theorem cK {c:Nat} {num own:V}
  (f1:iO.field c 119=TU) (f2:iO.field c 91=TU) (f3:iO.field c 111=TU) (f4:iO.field c 16=TU) (f5:iO.field c 112=TU) (f6:iO.field c 82=TU)
  (q:Q .none (σ++ [.inst c [(119,num),(91,own),(111,.iy),(16,.none),(112,.bool Q1),(82,.none)]])):
  (CC (k+2)).call 37 [.ref σ.length,num,own] Q X (σ++ [.inst c []]):=C1 ⟨YL,0,[55,119,91],[],lL⟩ rfl rfl <| wC f1 (vd rfl) <| wC f2 (vd rfl) <| wC f3 (vd rfl) <| wC f4 (vd rfl) <| wC f5 (vd rfl) <| wC f6 (vd rfl) <| q
theorem ye {num:Int} {own:Nat} (q:Q .none (σ++ [AS num own s])):
  (CC (k+3)).call 59 [.ref σ.length,.int num,.ref own,.str s] Q X (σ++ [.inst 2 []]):=C1 ⟨YL,0,[55,119,91,62],[.str (j' "")],no⟩ rfl rfl <| cK rfl rfl rfl rfl rfl rfl <| wC rfl (vd rfl) <| q
theorem qC {num:Int} {own:Nat} (q:Q .none (σ++ [cB num own Q1 it])):
  (CC (k+3)).call 79 [.ref σ.length,.int num,.ref own,.ref it] Q X (σ++ [.inst 3 []]):=C1 ⟨YL,0,[55,119,91,83],[.none],ie⟩ rfl rfl <| cK rfl rfl rfl rfl rfl rfl <| wC rfl (vd rfl) <| q
theorem BU {num:Int} {own msg:Nat} (q:Q .none (σ++ [J6 num own msg])):
  (CC (k+3)).call 178 [.ref σ.length,.int num,.ref own,.ref msg] Q X (σ++ [.inst 6 []]):=by
 refine C1 ⟨YL,0,[55,119,91,137],[.none],gy⟩ rfl rfl <| cK rfl rfl rfl rfl rfl rfl ?_
 iterate 2 refine wC rfl (vd rfl) ?_
 exact q
theorem vO {num:Int} {own:Nat} {a b c:V} (q:Q .none (σ++ [.inst 5 [(119,.int num),(91,.ref own),(111,.iy),(16,.none),(112,.bool Q1),(82,.none),(78,a),(36,b),(45,c)]])):
  (CC (k+3)).call 137 [.ref σ.length,.int num,.ref own,a,b,c] Q X (σ++ [.inst 5 []]):=by
 refine C1 ⟨YL,0,[55,119,91,78,36,133],[.none,.none,.bool Q1],gw⟩ rfl rfl <| cK rfl rfl rfl rfl rfl rfl ?_
 iterate 3 refine wC rfl (vd rfl) ?_
 exact q
theorem AZ {num:Int} {own:V} (q:Q .none (σ++ [fL (.int num) own name isc par (.lst []) .none])):
  (CC (k+3)).call 218 [.ref σ.length,.int num,own,name,isc,par,.none] Q X (σ++ [.inst 7 []]):=by
 refine C1 ⟨YL,0,[55,119,91,44,153,121,90],[.none,.bool Q1,.none,.none],dC⟩ rfl rfl <| cK rfl rfl rfl rfl rfl rfl ?_
 iterate 11 refine wC rfl (vd rfl) ?_
 exact q
theorem yF {num:Int} {own:V} (q:Q .none (σ++ [fL (.int num) own name isc .none (.lst []) .none])):
  (CC (k+3)).call 218 [.ref σ.length,.int num,own,name,isc] Q X (σ++ [.inst 7 []]):=by
 refine C1 ⟨YL,0,[55,119,91,44,153,121,90],[.none,.bool Q1,.none,.none],dC⟩ rfl rfl <| cK rfl rfl rfl rfl rfl rfl ?_
 iterate 11 refine wC rfl (vd rfl) ?_
 exact q
theorem qG {num own nat:V} (h:σ[m]? =vi (fL num own name isc par xj nat)) (q:Q (.bool Q1) σ):(CC (k+1)).call 225 [.ref m] Q X σ:=C1 ⟨YL,115,[55],[],eK⟩ rfl rfl <| aB h rfl <| q
noncomputable def eU:List Str:=(ol.filter (λr=>r.1==0)).map λr=>j' r.2.1
noncomputable def US:V->Bool
 | .str p=>eU.contains p
 | _=>Q1
noncomputable def UT:V->Bool
 | .none=>TU
 | .str p=>eU.contains p
 | _=>Q1
noncomputable def UU:List V->Bool
 | []=>TU
 | v::r=>US v && r.isEmpty
noncomputable def OT:V->Bool
 | .tup l=>UU l
 | _=>Q1
noncomputable def UV (s:Str):Bool:=(iO.f' 0 s).elim Q1 UT &&((iO.fq 1 s).elim Q1 OT && ae0 s.length 40)
theorem allB:eU.all UV=TU:=by decide+kernel
theorem vT:eU.Nodup:=by decide+kernel
theorem Sp (h:eU.contains s=TU):s∈eU:=by simpa using h
theorem Fh (h:s∈eU):iO.f' 0 s=vi .none∨∃p∈eU,iO.f' 0 s=vi (.str p):=by
 have:=aa0.mp allB s h
 have:=((Zu _ _).mp this).1
 cases e:iO.f' 0 s with
 | none=>rw [e] at this; exact dy this
 | some v=>
  rw [e] at this
  cases v with
  | none=>exact .inl rfl
  | str p=>exact .inr (az p (Sp this) rfl)
  | _=>exact dy this
theorem D0 (h:s∈eU):iO.fq 1 s=vi (.tup [])∨∃p∈eU,iO.fq 1 s=vi (.tup [.str p]):=by
 have:=aa0.mp allB s h
 have:=((Zu _ _).mp ((Zu _ _).mp this).2).1
 cases e:iO.fq 1 s with
 | none=>rw [e] at this; exact dy this
 | some v=>
  rw [e] at this
  cases v with
  | tup l=>
   cases l with
   | nil=>exact .inl rfl
   | cons v r=>
    have this:=(Zu _ _).mp this
    cases r with
    | cons=>exact dy this.2
    | nil=>
     cases v with
     | str p=>exact .inr (az p (Sp this.1) rfl)
     | _=>exact dy this.1
  | _=>exact dy this
theorem Kh (h:s∈eU):s.length<=40:=vd ((Zu _ _).mp ((Zu _ _).mp (aa0.mp allB s h)).2).2
structure WI where
 w:Nat
 d:Nat
 b:Bool
 tl:List (Nat×V)
 h:tl.length<=5
noncomputable def RN (σ:St) (q:Str×V):Prop:=q.1∈eU/\∃m,q.2=.ref m/\Mod σ m q.1
noncomputable def I6 (kvs:List (Str×V)):Nat:=(eU.filter λs=>(eI s kvs).isNone).length
structure Wd (I:WI) (σ:St) (n:Int) (u:Nat):Prop where
 wo:σ[I.w]? =vi (bK n I.d I.b I.tl)
 di:∃kvs,σ[I.d]? =vi (.bg 9 kvs)/\(∀q∈kvs,RN σ q)/\kvs.length+u=40/\I6 kvs=u
theorem Wd.frame (W:Wd I σ n u) (h1:∀(i:Nat) (o:O),σ[i]? =vi o->(∀t l,o ≠ .list t l)->(∀c fs,o=.inst c fs->c=0∨c=7)->aa[i]? =vi o):Wd I aa n u:=by
 obtain ⟨wo,kvs,e,a,b,c⟩:=W
 refine ⟨h1 _ _ wo (by simp) (λo_ o_ e=>by cases e; simp),kvs,h1 _ _ e (by simp) (λo_ o_ e=>by cases e),λq hq=> ?_,b,c⟩
 obtain ⟨x,m,y,z1,z2,z3,z4,z5,z6⟩:=a q hq
 exact ⟨x,m,y,z1,z2,z3,z4,z5,h1 _ _ z6 (by simp) (λo_ o_ e=>by cases e; simp)⟩
theorem Wd.push (W:Wd I σ n u) (l:List O):Wd I (σ++l) n u:=W.frame λi o h o_ o_=>aA h l
theorem Wd.cu (W:Wd I σ n u) {t:Nat} (h:σ[j]? =vi (.list t l)) (q:O):Wd I (σ.set j q) n u:=W.frame λi o g a b=>ak g h (a _ _)
theorem Wd.setThing (W:Wd I σ n u) {c:Nat} (h:σ[j]? =vi (.inst c fs)) (h0:c ≠ 0) (h7:c ≠ 7) (q:O):Wd I (σ.set j q) n u:=W.frame λi o g a b=>ak g h (λe=>by rcases b _ _ e with r | r <;> contradiction)
theorem Mod.set (h:Mod σ m s) {m':Nat} {s':Str} (h':Mod σ m' s') {num:Int} {own:V}:Mod (σ.set m (fL (.int num) own (.str s) isc par xj (.str s))) m' s':=by
 refine hG h λa1 a2 a3 a4 a5 a6=>hG h' λb1 b2 b3 b4 b5 b6=> ?_
 by_cases e:m=m'
 ·subst e
  rw [a6] at b6
  injection b6 with b6
  injection b6 with _ b6
  injection b6 with b7 b6
  have:s=s':=by
   simp only [af1,Prod.mk.injEq,V.str.injEq] at b6
   exact b6.2.2.2.2.2.1.2
  exact af this <| as8 _ _ _ _ _ (aP a6 _)
 ·exact as8 _ _ _ _ _ ((Xr e)▸b6)
theorem Wd.vK (W:Wd I σ n u) (h:Mod σ m s) {num:Int} {own:V}:Wd I (σ.set m (fL (.int num) own (.str s) isc par xj (.str s))) n u:=by
 obtain ⟨wo,kvs,e,a,b,c⟩:=W
 refine hG h λo_ o_ o_ o_ o_ h6=>⟨ak wo h6 nofun,kvs,ak e h6 (by simp),λq hq=> ?_,b,c⟩
 obtain ⟨x,m,y,z⟩:=a q hq
 exact ⟨x,m,y,h.set z⟩
theorem Fr.vK {qi:St} (F:Fr ts qi σ) (h:Mod σ m s) {num:Int} {own:V}:Fr ts qi (σ.set m (fL (.int num) own (.str s) isc par xj (.str s))):=by
 refine hG h λo_ o_ o_ o_ o_ h6=>F.trans ⟨by simp,λi o g k=>ak g h6 ?_,λm s g=>h.set g⟩
 rintro rfl; exact dy k
theorem Wd.rp (W:Wd I σ n u) (n':Int):Wd I (σ.set I.w (bK n' I.d I.b I.tl)) n' u:=by
 obtain ⟨wo,kvs,e,a,b,c⟩:=W
 refine ⟨aP wo _,kvs,ak e wo (by simp),λq hq=> ?_,b,c⟩
 obtain ⟨x,m,y,z1,z2,z3,z4,z5,z6⟩:=a q hq
 exact ⟨x,m,y,z1,z2,z3,z4,z5,ak z6 wo nofun⟩
theorem Fr.rp (W:Wd I σ n u) (o:O):Fr ts σ (σ.set I.w o):=Fr.set W.wo rfl (by simp)
theorem cE (W:Wd I σ n u)
  (q:∀aa,Wd I aa (n+1) u->Fr [] σ aa->aa.length=σ.length->Q (.int (n+1)) aa):(CC (k+2)).call 602 [.ref I.w] Q X σ:=
 qy W.wo I.h (q _ (W.rp _) (Fr.rp W _) (by simp))
section
variable {κ:Type} [DecidableEq κ]
theorem qO {k:κ}:∀{kvs:List (κ×V)},eI k kvs=YL->∀q∈kvs,q.1 ≠ k
 | [],_,q,h=>by cases h
 | r::l,h,q,hq=>by
  unfold eI at h
  rw [ac4] at h
  split at h
  ·cases h
  ·rename_i e
   rcases ZV.mp hq with rfl | hq
   ·simpa using e
   ·exact qO (kvs:=l) h q hq
theorem yX {k:κ} {kvs:List (κ×V)} (h:eI k kvs=vi v):(k,v)∈kvs:=by
 unfold eI at h
 obtain ⟨r,e,rfl⟩:=ac2.mp h
 have:=List.mem_of_find?_eq_some e
 have e2:=List.find?_some e
 simp at e2
 subst e2
 exact this
theorem AH {k:κ} {kvs:List (κ×V)} (h:eI k kvs=YL):lV k v kvs=kvs++ [(k,v)]:=by
 unfold lV
 rw [if_neg]
 simp only [List.any_eq_true,decide_eq_true_eq,not_exists,not_and]
 exact λq hq=>qO h q hq
theorem lr {k j:κ} {kvs:List (κ×V)}:eI j (kvs++ [(k,v)])=(eI j kvs).or (if k=j then vi v else YL):=by
 unfold eI
 rw [List.find?_append]
 cases h:kvs.find? (λp=>decide (p.1=j)) with
 | some r=>simp
 | none=>
  by_cases e:k=j
  ·simp [ac4,e]
  ·simp [ac4,e]
end
theorem wv {l:List Str} (hn:l.Nodup) {f g:Str->Bool} (hs:s∈l) (h1:f s=TU) (h2:g s=Q1) (h3:∀x,x ≠ s->g x=f x):(l.filter f).length=(l.filter g).length+1:=by
 induction l with
 | nil=>cases hs
 | cons a l ih=>
  rw [af2] at hn
  by_cases e:a=s
  ·subst e
   rw [List.filter_cons_of_pos h1,List.filter_cons_of_neg (by simp [h2]),ZD]
   congr 2
   refine List.filter_congr λx hx=>(h3 x ?_).symm
   rintro rfl; exact hn.1 hx
  ·have tY:s∈l:=by rcases ZV.mp hs with r | r; exact absurd r.symm e; exact r
   have:=ih hn.2 tY
   rw [ae6,ae6,h3 a e]
   split <;> simp [this]
theorem Di (hs:s∈eU) (h:eI s kvs=YL):I6 kvs=I6 (kvs++ [(s,v)])+1:=by
 unfold I6
 refine wv vT hs (by simp [h]) (by simp [lr,h]) λx hx=> ?_
 rw [lr,if_neg (ab2 hx)]; simp
noncomputable def pN (I:WI) (σ:St) (s:Str) (m:Nat):Prop:=∃kvs,σ[I.d]? =vi (.bg 9 kvs)/\eI s kvs=vi (.ref m)
noncomputable def Hm (I:WI) (σ aa:St):Prop:=∀s m,pN I σ s m->pN I aa s m
theorem pN.keep (h:pN I σ s m) (hj:σ[j]? =vi p) (n:∀k,p ≠ .bg 9 k):pN I (σ.set j q) s m:=ag h λkvs a b=>az kvs (ak a hj (ab2 (n _))) b
theorem Hm.set (h:Hm I σ aa) (hj:aa[j]? =vi p) (n:∀k,p ≠ .bg 9 k):Hm I σ (aa.set j q):=λs m x=>(h s m x).keep hj n
theorem Hm.trans {a:St} {c:St} (x:Hm I a b) (y:Hm I b c):Hm I a c:=λs m h=>y s m (x s m h)
theorem mU (W:Wd I σ n u) (hs:s∈eU) (q:Q .none σ):(CC (k+2)).call 635 [.ref I.w,.str s] Q X σ:=by
 refine C1 ⟨YL,152,[55,44],[],ib⟩ rfl rfl ?_
 have h2:s.length+(j' ".").length<=1000:=by have:=Kh hs; show s.length+1<=1000; exact Y1 [_] [] (.l (.a V0 (.n 1)) (.n 1000)) (.l V0 (.n 40)) this rfl
 exact jW h2 <| aB W.wo rfl <| jW h2 <| aB W.wo rfl <| q
theorem Mod.push (h:Mod σ m s) (l:List O):Mod (σ++l) m s:=hG h λa b c d e h=>as8 a b c d e (aA h l)
theorem Cn:j' "Class"∈eU:=by decide+kernel
theorem HE:j' "Module"∈eU:=by decide+kernel
theorem D5 (wo:σ[I.w]? =vi (bK n I.d I.b I.tl)) (e:σ[I.d]? =vi (.bg 9 kvs))
  (a:∀q∈kvs,RN σ q) (b:kvs.length+u=40) (c:I6 kvs=u) (hs:s∈eU) (hg:eI s kvs=YL):
  0 < u/\Wd I (((σ++ [fL (.int n) .none (.str s) isc .none (.lst []) .none]).set I.d (.bg 9 (kvs++ [(s,.ref σ.length)]))).set σ.length (fL (.int n) .none (.str s) isc .none (.lst []) (.str s))) n (u - 1)/\
  Fr [] σ (((σ++ [fL (.int n) .none (.str s) isc .none (.lst []) .none]).set I.d (.bg 9 (kvs++ [(s,.ref σ.length)]))).set σ.length (fL (.int n) .none (.str s) isc .none (.lst []) (.str s)))/\
  Mod (((σ++ [fL (.int n) .none (.str s) isc .none (.lst []) .none]).set I.d (.bg 9 (kvs++ [(s,.ref σ.length)]))).set σ.length (fL (.int n) .none (.str s) isc .none (.lst []) (.str s))) σ.length s:=by
 have un:=Di (v:=.ref σ.length) hs hg
 replace un:=c.symm.trans un
 have e2:(σ++ [fL (.int n) .none (.str s) isc .none (.lst []) .none])[I.d]? =vi (.bg 9 kvs):=aA e _
 have F:Fr [] σ (((σ++ [fL (.int n) .none (.str s) isc .none (.lst []) .none]).set I.d (.bg 9 (kvs++ [(s,.ref σ.length)]))).set σ.length (fL (.int n) .none (.str s) isc .none (.lst []) (.str s))):=
  Fr.du ((Fr.push [] σ _).trans (Fr.set e2 rfl (by simp))) (FF _)
 have M:Mod (((σ++ [fL (.int n) .none (.str s) isc .none (.lst []) .none]).set I.d (.bg 9 (kvs++ [(s,.ref σ.length)]))).set σ.length (fL (.int n) .none (.str s) isc .none (.lst []) (.str s))) σ.length s:=
  (as8 _ _ _ _ _ (ac1 (by simp)))
 refine mz (Y1 [_,_] [] (.t (.n 0) V0) (.r (.e V0 (.a V1 (.n 1)))) un rfl) ⟨?_,kvs++ [(s,.ref σ.length)],?_,λq hq=> ?_,by simp; exact Y2 [_,_,_] [] (.e (.a (.a V0 (.n 1)) V1) (.n 40)) (.e (.a V0 V2) (.n 40)) (.e (.a V1 (.n 1)) V2) b (N6 (Y1 [_,_] [] (.l (.n 1) V0) (.r (.e V0 (.a V1 (.n 1)))) un rfl)) rfl,by exact Y2 [_,_,_] [] (.e V0 V1) (.r (.e V2 (.a V0 (.n 1)))) (.r (.e (.a V1 (.n 1)) V2)) un (N6 (Y1 [_,_] [] (.l (.n 1) V0) (.r (.e V0 (.a V1 (.n 1)))) un rfl)) rfl⟩ F M
 ·rw [Xr (by exact Y1 [_,_] [] (.o (.e V0 V1)) (.t V1 V0) (dE wo) rfl)]
  exact ak (aA wo _) e2 (by simp)
 ·rw [Xr (by exact Y1 [_,_] [] (.o (.e V0 V1)) (.t V1 V0) (dE e) rfl)]
  exact aP e2 _
 ·rcases Zr.mp hq with h | h
  ·refine ax λG_ ae=> ?_
   obtain ⟨x,m,y,z⟩:=a q h
   exact ae <| ⟨x,m,y,F.mod _ _ z⟩
  ·rw [Zq] at h; refine af h ?_
   exact ⟨hs,_,rfl,M⟩
structure Bs (I:WI) (σ:St) (n:Int) (u:Nat) (s:Str) (m:Nat) (aa:St) (n':Int) (u':Nat):Prop where
 W:Wd I aa n' u'
 F:Fr [] σ aa
 le:n<=n'
 sum:n'+(u':Int)=n+(u:Int)
 M:Mod aa m s
 lt:u' < u
 H:Hm I σ aa
 h:pN I aa s m
section
theorem Bs.setM (B:Bs I σ n u s m aa n' u') {num:Int} {own:V}:Bs I σ n u s m (aa.set m (fL (.int num) own (.str s) isc par xj (.str s))) n' u':=hG B.M λo_ o_ o_ o_ o_ e=>⟨B.W.vK B.M,B.F.vK B.M,B.le,B.sum,B.M.set B.M,B.lt,B.H.set e (by simp),B.h.keep e (by simp)⟩
theorem Bs.call (B:Bs I σ n u s m aa n' u') {aV:St} {n2:Int} {u2:Nat} (W:Wd I aV n2 u2) (F:Fr [] aa aV) (l:n'<=n2) (z:n2+(u2:Int)=n'+(u':Int)) (H:Hm I aa aV):Bs I σ n u s m aV n2 u2:=
 ⟨W,B.F.trans F,Zt B.le l,z.trans B.sum,F.mod _ _ B.M,Y3 [_,_,_] [_,_] (.t V0 V1) (.L V0 V1) (.Q (.a V1 (.c V0)) (.a V0 (.c V2))) (.t V2 V1) l z B.lt rfl,B.H.trans H,H _ _ B.h⟩
end
noncomputable def Bu (I:WI) (k u:Nat):Prop:=∀{s:Str} {σ:St} {n:Int} {Q X:V->St->Prop},s∈eU->Wd I σ n u->
  (∀m aa n' u',Wd I aa n' u'->Fr [] σ aa->n<=n'->n'+(u':Int)=n+(u:Int)->Mod aa m s->pN I aa s m->Hm I σ aa->Q (.ref m) aa)->(CC k).call 623 [.ref I.w,.str s] Q X σ
noncomputable abbrev Mi (I:WI) (s:Str) (isc:Bool) (m:Nat) (par:V):En:=((((En.none.set 55 (.ref I.w)).set 44 (.str s)).set 153 (.bool isc)).set 79 (.ref m)).set 121 par
noncomputable abbrev r5:Ss:=(.cons (.av (.var 79) 91 (.aD (.var 55) 129 (.cons (.ite (.var 153) (.str "Class") (.str "Module")) .nil))) (.cons (.av (.var 79) 87 (.comp YL [89] (.each 89 (.fq 1 (.var 44)) .nil .nil) (.aD (.var 55) 129 (.cons (.var 89) .nil)))) (.cons (.bS (.attr (.var 55) 155) (.cons (.expr (.aD (.var 55) 152 (.cons (.var 44) .nil))) .nil) .nil) (.cons (.ret (.var 79)) .nil))))
theorem Ct {isc:Bool} (hs:s∈eU) (ih:∀v,v < u->Bu I (k+2) v) (B:Bs I σ n u s m aa n' u')
  (q:∀m aa n' u',Wd I aa n' u'->Fr [] σ aa->n<=n'->n'+(u':Int)=n+(u:Int)->Mod aa m s->pN I aa s m->Hm I σ aa->Q (.ref m) aa):bX (CC (k+2)) r5 (pk Q) X (Mi I s isc m par) aa:=by
 have h6:∀{pQ:St} {n6:Int} {u6:Nat},Bs I σ n u s m pQ n6 u6->bX (CC (k+2)) (.cons (.bS (.attr (.var 55) 155) (.cons (.expr (.aD (.var 55) 152 (.cons (.var 44) .nil))) .nil) .nil) (.cons (.ret (.var 79)) .nil)) (pk Q) X (Mi I s isc m par) pQ:=λ{pQ n6 u6} B=>by
  refine aB B.W.wo rfl ?_
  cases hb:I.b with
  | false=>exact q _ _ _ _ B.W B.F B.le B.sum B.M B.h B.H
  | true=>
   refine aE B.W.wo rfl ?_
   refine mU B.W hs ?_
   exact q _ _ _ _ B.W B.F B.le B.sum B.M B.h B.H
 have h5:∀{kJ:St} {n5:Int} {u5:Nat},Bs I σ n u s m kJ n5 u5->bX (CC (k+2)) (.cons (.av (.var 79) 87 (.comp YL [89] (.each 89 (.fq 1 (.var 44)) .nil .nil) (.aD (.var 55) 129 (.cons (.var 89) .nil)))) (.cons (.bS (.attr (.var 55) 155) (.cons (.expr (.aD (.var 55) 152 (.cons (.var 44) .nil))) .nil) .nil) (.cons (.ret (.var 79)) .nil))) (pk Q) X (Mi I s isc m par) kJ:=λ{kJ n5 u5} B=>by
  rcases D0 hs with e | ⟨p,hp,e⟩
  ·refine GF e ?_
   refine ⟨rfl,?_⟩
   refine hG B.M λo_ o_ o_ o_ o_ a=> ?_
   refine zw a rfl (vd rfl) ?_
   exact h6 B.setM
  ·refine GF e ?_
   refine ⟨rfl,?_⟩
   refine aE B.W.wo rfl ?_
   refine ih _ B.lt hp B.W λm' aa n' u' W F l z o_ o_ h=> ?_
   have B':=B.call W F l z h
   refine B9 (vd rfl) ?_
   refine ⟨rfl,?_⟩
   refine hG B'.M λo_ o_ o_ o_ o_ a=> ?_
   refine zw a rfl (vd rfl) ?_
   exact h6 B'.setM
 have hc:(if isc then j' "Class" else j' "Module")∈eU:=by
  cases isc
  ·exact HE
  ·exact Cn
 haveI h4:bX (CC (k+2)) r5 (pk Q) X (Mi I s isc m par) aa:=by
  refine aE B.W.wo rfl ?_
  haveI z:∀{P:K},P (.str (if isc then j' "Class" else j' "Module")) aa->ba (CC (k+2)) (.ite (.var 153) (.str "Class") (.str "Module")) P X (Mi I s isc m par) aa:=λ{P} h=>by
   cases isc <;> exact h
  refine z ?_
  refine ih _ B.lt hc B.W λm' aa n' u' W F l z o_ o_ h=> ?_
  have B':=B.call W F l z h
  refine hG B'.M λo_ o_ o_ o_ o_ a=> ?_
  refine zw a rfl (vd rfl) ?_
  exact h5 B'.setM
 exact h4
theorem IL {isc:Bool} (hs:s∈eU) (ih:∀v,v < u->Bu I (k+2) v) (B:Bs I σ n u s m aa n' u')
  (q:∀m aa n' u',Wd I aa n' u'->Fr [] σ aa->n<=n'->n'+(u':Int)=n+(u:Int)->Mod aa m s->pN I aa s m->Hm I σ aa->Q (.ref m) aa):bX (CC (k+2)) (iN (iN (iN (iN b0)))) (pk Q) X ((((En.none.set 55 (.ref I.w)).set 44 (.str s)).set 153 (.bool isc)).set 79 (.ref m)) aa:=by
 refine dG ?_; intro BY
 rcases Fh hs with e | ⟨p,hp,e⟩
 ·refine GH e ?_
  refine hG B.M λo_ o_ o_ o_ o_ a=> ?_
  refine zw a rfl (vd rfl) ?_
  exact Ct hs ih B.setM q
 ·refine GH e ?_
  refine aE B.W.wo rfl ?_
  refine ih _ B.lt hp B.W λm' aa n' u' W F l z o_ o_ h=> ?_
  have B':=B.call W F l z h
  refine hG B'.M λo_ o_ o_ o_ o_ a=> ?_
  refine zw a rfl (vd rfl) ?_
  exact Ct hs ih B'.setM q
theorem wF (I:WI):∀(u k:Nat),2*u+8<=k->Bu I k u:=by
 intro u
 induction u using Nat.strongRecOn with
 | _ u ih=>
 intro k hk s σ n Q X hs W q
 obtain ⟨j,rfl⟩:∃j,k=j+6:=⟨k - 6,by exact Y1 [_,_] [] (.e V0 (.a V1 (.n 6))) (.r (.e (.a V1 (.n 6)) V0)) (N6 (Y1 [_,_] [] (.l (.n 6) V0) (.l (.a (.m 2 V1) (.n 8)) V0) hk rfl)) rfl⟩
 have ih:∀v,v < u->Bu I (j+4) v:=λv hv=>ih v hv _ (Y3 [_,_,_] [] (.l (.a (.m 2 V0) (.n 8)) (.a V1 (.n 4))) (.l (.a (.m 2 V2) (.n 8)) (.a V1 (.n 6))) (.t V0 V2) (.t V0 V2) hk hv hv rfl)
 refine C1 ⟨YL,129,[55,44],[],iM⟩ rfl rfl <| dG ?_; intro BY
 refine BX W.di λkvs di en ln un=>aB W.wo rfl (MA di ?_)
 cases hg:eI s kvs with
 | some v=>
  obtain ⟨hs,m,e,M⟩:=en _ (yX hg)
  subst e
  refine B0 di (by refine af hg ?_; rfl) ?_
  exact q m σ n u W (Fr.refl _ _) (Lf _) rfl M (az kvs di hg) λo_ o_ h=>h
 | none=>
  refine B0 di (by refine af hg ?_; rfl) ?_
  refine aE W.wo rfl ?_
  refine C1 ⟨YL,204,[55,44],[],b0⟩ rfl rfl <| (λh=>h _:(∀isc,bX (CC (j+4)) (iN b0) _ X (((En.none.set 55 (.ref I.w)).set 44 (.str s)).set 153 (.bool isc)) σ)->_) λisc=>aE W.wo rfl <| qy W.wo I.h ?_
  have w1:=aP W.wo (bK (n+1) I.d I.b I.tl)
  have d1:=ak (q:=bK (n+1) I.d I.b I.tl) di W.wo (by simp)
  have F1:Fr [] σ _:=Fr.rp W (bK (n+1) I.d I.b I.tl)
  haveI zv:∀q∈kvs,RN (σ.set I.w (bK (n+1) I.d I.b I.tl)) q:=λq hq=>by
   obtain ⟨x,m,y,z⟩:=en q hq
   exact ⟨x,m,y,F1.mod _ _ z⟩
  generalize σ.set I.w (bK (n+1) I.d I.b I.tl)=aT at*
  refine yF <| si (D5 (isc:=.bool isc) w1 d1 zv ln un hs hg) λu0 W2 F2 M2=> ?_
  have d2:=aA d1 [fL (.int (n+1)) .none (.str s) (.bool isc) .none (.lst []) .none]
  have m2:=ak (q:=.bg 9 (kvs++ [(s,.ref aT.length)])) (mV aT (fL (.int (n+1)) .none (.str s) (.bool isc) .none (.lst []) .none)) d2 (by simp)
  have dA:=aP d2 (.bg 9 (kvs++ [(s,.ref aT.length)]))
  refine aB (aA w1 _) rfl <| wD d2 ((He _ _ _ _ (by unfold bf; exact Y1 [_,_] [] (.l V0 (.n 100000)) (.e (.a V0 V1) (.n 40)) ln rfl)).trans (af (AH hg) rfl)) <| zw m2 rfl (vd rfl) ?_
  haveI B:Bs I σ n u s aT.length _ _ _:=⟨W2,F1.trans F2,by exact Y0 [] [_] (.L V0 (.a V0 (.n 1))) rfl,by exact Y1 [_,_] [_] (.Q (.a (.a V0 (.n 1)) (.c V0)) (.a V0 (.c V1))) (.e (.a V0 (.n 1)) V1) (N6 (Y1 [_] [] (.l (.n 1) V0) (.t (.n 0) V0) u0 rfl)) rfl,M2,by exact Y1 [_,_] [] (.t V0 V1) (.e (.a V0 (.n 1)) V1) (N6 (Y1 [_] [] (.l (.n 1) V0) (.t (.n 0) V0) u0 rfl)) rfl,λs' m' ⟨kv,e1,e2⟩=>by
   replace e1:=di.symm.trans e1; cases e1
   exact az _ (ak dA m2 (by simp)) (by simp only [lr,e2]; rfl),(az _ (ak dA m2 (by simp)) (by rw [lr,hg]; simp))⟩
  exact IL hs ih B q
theorem Wd.HI (W:Wd I σ n u):u<=40:=by
 obtain ⟨o_,o_,o_,o_,h,o_⟩:=W; exact Y1 [_,_] [] (.l V0 (.n 40)) (.e (.a V1 V0) (.n 40)) h rfl
theorem bW (hs:s∈eU) (W:Wd I σ n u)
  (q:∀m aa n' u',Wd I aa n' u'->Fr [] σ aa->n<=n'->n'+(u':Int)=n+(u:Int)->Mod aa m s->pN I aa s m->Hm I σ aa->Q (.ref m) aa):(CC (k+88)).call 623 [.ref I.w,.str s] Q X σ:=
 wF I u _ (Y2 [_,_] [] (.l (.a (.m 2 V0) (.n 8)) (.a V1 (.n 88))) (.l V0 (.n 40)) (.l V0 (.n 40)) W.HI W.HI rfl) hs W q
theorem oa (W:Wd I σ n u)
  (q:∀a aa n' u' own,Wd I aa n' u'->Fr [] σ aa->n < n'->n'+(u':Int)=n+(u:Int)+1->Mod aa own "String"->aa[a]? =vi (AS (n+1) own s)->σ.length<=a->Q (.ref a) aa):(CC (k+92)).call 685 [.ref I.w,.str s] Q X σ:=by
 refine C1 ⟨YL,62,[55,62],[],lJ⟩ rfl rfl ?_
 refine aE (Wd.wo (by with_reducible assumption)) rfl ?_
 refine cE W λaT W1 F1 L1=> ?_
 refine aE (Wd.wo (by with_reducible assumption)) rfl ?_
 refine bW (by decide+kernel) W1 λm aV n2 u2 W2 F2 l2 s2 M2 o_ o_=> ?_
 refine ye ?_
 exact q _ _ n2 u2 m (W2.push _) (F1.trans (F2.trans (Fr.push _ _ _))) (by exact Y1 [] [_,_] (.T V0 V1) (.L (.a V0 (.n 1)) V1) l2 rfl) (by exact Y1 [_,_] [_,_] (.Q (.a V0 (.c V0)) (.a (.a V1 (.c V1)) (.n 1))) (.Q (.a V0 (.c V0)) (.a (.a V1 (.n 1)) (.c V1))) s2 rfl) (M2.push _) (eA _ _) (by exact Y2 [_,_,_] [] (.l V0 V1) (.r (.e V2 V0)) (.l V2 V1) L1 F2.len rfl)
theorem LV.fr (h:LV σ v l) (F:Fr [] σ aa):LV aa v l:=by
 rcases h with rfl | ⟨i,t,rfl,e⟩
 ·exact .inl rfl
 ·exact .inr (dh i t rfl (F.get e rfl))
inductive NL (σ:St) (n0:Int) (s0:Nat) (n1:Int) (s1:Nat) (a:Nat) (l:List V):Prop
 | mk (num:Int) (own it:Nat) (h1:σ[a]? =vi (cB num own Q1 it)) (h2:Mod σ own "Array") (h3:σ[it]? =vi (.list 1 l)) (h4:n0 < num) (h5:num<=n1) (h6:s0<=it) (h7:it < s1) (h8:s0<=a) (h9:a < s1)
theorem NL.fr (ht:(ts.contains 1)=Q1) (h:NL σ n0 s0 n1 s1 a l) (F:Fr ts σ aa):NL aa n0 s0 n1 s1 a l:=by
 obtain ⟨num,own,it,h1,h2,h3,r1,r2,r3,r4,r5,r6⟩:=h
 exact ⟨num,own,it,F.get h1 rfl,F.mod _ _ h2,F.get h3 (by show (!ts.contains 1)=TU; refine af ht ?_; rfl),r1,r2,r3,r4,r5,r6⟩
theorem NL.mono {m1:Int} {t0 t1:Nat} (h:NL σ n0 s0 n1 s1 a l) (h1:m0<=n0) (h2:n1<=m1) (h3:t0<=s0) (h4:s1<=t1):NL σ m0 t0 m1 t1 a l:=by
 obtain ⟨num,own,it,a,b,c,r1,r2,r3,r4,r5,r6⟩:=h
 exact ⟨num,own,it,a,b,c,by exact Y2 [] [_,_,_] (.T V0 V1) (.L V0 V2) (.T V2 V1) h1 r1 rfl,by exact Y2 [] [_,_,_] (.L V0 V1) (.L V2 V1) (.L V0 V2) h2 r2 rfl,by exact Y2 [_,_,_] [] (.l V0 V1) (.l V0 V2) (.l V2 V1) h3 r3 rfl,by exact Y2 [_,_,_] [] (.t V0 V1) (.l V2 V1) (.t V0 V2) h4 r4 rfl,by exact Y2 [_,_,_] [] (.l V0 V1) (.l V0 V2) (.l V2 V1) h3 r5 rfl,by exact Y2 [_,_,_] [] (.t V0 V1) (.l V2 V1) (.t V0 V2) h4 r6 rfl⟩
theorem bw (W:Wd I σ n u) (hv:LV σ v l)
  (q:∀a aa n' u',Wd I aa n' u'->Fr [] σ aa->n < n'->n'+(u':Int)=n+(u:Int)+1->NL aa n σ.length n' aa.length a l->Q (.ref a) aa):(CC (k+92)).call 692 [.ref I.w,v] Q X σ:=by
 refine C1 ⟨YL,136,[55,83],[],iL⟩ rfl rfl ?_
 refine aE (Wd.wo (by with_reducible assumption)) rfl ?_
 refine cE W λaT W1 F1 L1=> ?_
 refine aE (Wd.wo (by with_reducible assumption)) rfl ?_
 refine bW (by decide+kernel) W1 λm aV n2 u2 W2 F2 l2 s2 M2 o_ o_=> ?_
 refine MD (hv.fr (F1.trans F2)) ?_
 refine qC ?_
 have L2:=F2.len
 have A:(aV++ [O.list 1 l]).length=aV.length+1:=IQ
 have B:((aV++ [O.list 1 l])++ [cB (n+1) m Q1 aV.length]).length=aV.length+2:=by rw [IQ,A]; rfl
 exact q _ _ n2 u2 ((W2.push _).push _) (F1.trans (F2.trans ((Fr.push _ _ _).trans (Fr.push _ _ _)))) (by exact Y1 [] [_,_] (.T V0 V1) (.L (.a V0 (.n 1)) V1) l2 rfl) (by exact Y1 [_,_] [_,_] (.Q (.a V0 (.c V0)) (.a (.a V1 (.c V1)) (.n 1))) (.Q (.a V0 (.c V0)) (.a (.a V1 (.n 1)) (.c V1))) s2 rfl) ⟨n+1,m,aV.length,mV _ _,(M2.push _).push _,aA (mV _ _) _,by exact Y0 [] [_] (.T V0 (.a V0 (.n 1))) rfl,by exact l2,by exact Y2 [_,_,_] [] (.l V0 V1) (.r (.e V2 V0)) (.l V2 V1) L1 L2 rfl,by exact Y1 [_,_] [] (.t V0 V1) (.r (.e V1 (.a V0 (.n 2)))) B rfl,by exact Y3 [_,_,_,_] [] (.l V0 V1) (.r (.e V2 V0)) (.l V2 V3) (.r (.e V1 (.a V3 (.n 1)))) L1 L2 A rfl,by exact Y2 [_,_,_] [] (.t V0 V1) (.e V0 (.a V2 (.n 1))) (.r (.e V1 (.a V2 (.n 2)))) A B rfl⟩
noncomputable def Fw (σ:St) (a:Nat) (name msg:Str):Prop:=∃num own ms J7 AM,σ[a]? =vi (J6 num own ms)/\Mod σ own name/\σ[ms]? =vi (AS J7 AM msg)
theorem sd {name msg:Str} (W:Wd I σ n u) (hs:name∈eU)
  (x:∀a aa n' u',Wd I aa n' u'->Fr [] σ aa->n<=n'->n'+(u':Int)=n+(u:Int)+2->Fw aa a name msg->X (.ref a) aa):(CC (k+95)).call 776 [.ref I.w,.str name,.str msg] Q X σ:=by
 refine C1 ⟨YL,27,[55,44,137],[],lK⟩ rfl rfl ?_
 refine aE (Wd.wo (by with_reducible assumption)) rfl ?_
 refine C1 ⟨YL,77,[55,44,137],[],jZ⟩ rfl rfl ?_
 refine aE (Wd.wo (by with_reducible assumption)) rfl ?_
 refine cE W λaT W1 F1 L1=> ?_
 refine aE (Wd.wo (by with_reducible assumption)) rfl ?_
 refine bW hs W1 λm aV n2 u2 W2 F2 l2 s2 M2 o_ o_=> ?_
 refine aE (Wd.wo (by with_reducible assumption)) rfl ?_
 refine oa W2 λa dq n3 u3 own W3 F3 l3 s3 M3 e3 o_=> ?_
 refine BU ?_
 exact x _ _ n3 u3 (W3.push _) (F1.trans (F2.trans (F3.trans (Fr.push _ _ _)))) (Y2 [] [_,_,_] (.L V0 V1) (.L (.a V0 (.n 1)) V2) (.T V2 V1) l2 l3 rfl) (Y2 [_,_,_] [_,_,_] (.Q (.a V0 (.c V0)) (.a (.a V1 (.c V1)) (.n 2))) (.Q (.a V2 (.c V2)) (.a (.a V1 (.n 1)) (.c V1))) (.Q (.a V0 (.c V0)) (.a (.a V2 (.c V2)) (.n 1))) s2 s3 rfl) ⟨_,m,a,_,_,(eA _ _),((F3.mod _ _ M2).push _),(aA e3 _)⟩
theorem cQ {c:Int} (W:Wd I σ n u) (hc:c<=20000) (q:Q .none σ):(CC (k+3)).call 755 [.ref I.w,.int c] Q X σ:=C1 ⟨YL,177,[55,74],[],dW⟩ rfl rfl <| iB (decide_eq_false (Int.not_lt.mpr hc)) <| q
theorem pY {c:Int} (W:Wd I σ n u) (hc:20000 < c)
  (x:∀a aa n' u',Wd I aa n' u'->Fr [] σ aa->n<=n'->n'+(u':Int)=n+(u:Int)+2->Fw aa a "ArgumentError" "argument too big"->X (.ref a) aa):(CC (k+96)).call 755 [.ref I.w,.int c] Q X σ:=by
 refine C1 ⟨YL,177,[55,74],[],dW⟩ rfl rfl ?_
 refine pv (decide_eq_true hc) ?_
 refine aE W.wo rfl ?_
 exact sd W (by decide+kernel) x
theorem j4 (a b c:Str):a++b++c=a++(b++c):=by
 show ag3 (a.cps++b.cps++c.cps)=ag3 (a.cps++(b.cps++c.cps))
 rw [Array.append_assoc]
@[simp] theorem uM a:j' ""++a=a:=by
 show ag3 (#[]++a.cps)=a
 simp
@[simp] theorem GU a:a++j' ""=a:=by
 show ag3 (a.cps++ #[])=a
 simp
@[simp] theorem eL a:Str.empty++a=a:=by
 show ag3 (#[]++a.cps)=a
 simp
@[simp] theorem aJ (a b:Str):(a++b).length=a.length+b.length:=by
 show (a.cps++b.cps).size=_
 simp [Str.length]
@[simp] theorem nu:(j' "").length=0:=rfl
@[simp] theorem GS:(Str.empty).length=0:=rfl
theorem iw (M:Mod σ m s) (hs:s.length<=900) (q:∀o,Q (.str s) (σ++ [o])):(CC (k+3)).call 297 [.ref m] Q X σ:=by
 refine C1 ⟨YL,170,[117],[],nj⟩ rfl rfl <| hG M λnum own isc par xj e=> ?_
 have e1:=aA e [O.bM 8 []]
 refine dQ rfl <| wB 1 <| aB e1 rfl <| cT (Rq (O9 (mV _ _))) <| aB e1 rfl <| wD (mV _ _) (AB _ _ _ _ (Z8 _)) ?_
 rw [JU]
 repeat refine aB (aA e [O.bM 8 (lV num (V.bool TU) [])]) rfl ?_
 refine jW (by simp only [nu]; exact Y1 [_] [] (.l (.a (.n 0) V0) (.n 1000)) (.l V0 (.n 900)) hs rfl) ?_
 rw [uM]
 exact jW (by simp only [nu]; exact Y1 [_] [] (.l (.a V0 (.n 0)) (.n 1000)) (.l V0 (.n 900)) hs rfl) <| q _
theorem eE {w:V} (q:Q (.int i) σ):(CC (k+4)).call 372 [w,.int i] Q X σ:=C1 ⟨YL,157,[104,103],[],pF⟩ rfl rfl <| C1 ⟨YL,113,[103],[],uL⟩ rfl rfl <| q
theorem dN {w:V} (h:σ[a]? =vi (.inst 3 fs)) (h2:fs.lookup 83=vi (.ref it)) (q:Q (.ref it) σ):(CC (k+3)).call 379 [w,.ref a] Q X σ:=C1 ⟨YL,175,[104,103],[],jm⟩ rfl rfl <| pt h <| aB h h2 <| q
inductive Kind (σ:St):V->Str->Prop
 | n:Kind σ .none "nil"
 | t:Kind σ (.bool TU) "true"
 | i (i:Int):Kind σ (.int i) "Integer"
 | z (z:Str):Kind σ (.str z) "Symbol"
 | r (a c:Nat) (fs:List (Nat×V)) (own:Nat) (s:Str) (h1:σ[a]? =vi (.inst c fs)) (c0:c ≠ 0) (c3:c ≠ 3) (c7:c ≠ 7) (h3:fs.lookup 91=vi (.ref own)) (h4:Mod σ own s) (h5:s.length<=100):Kind σ (.ref a) s
theorem Ef (W:Wd I σ n u) (h:Kind σ v s)
  (q:∀aa n' u',Wd I aa n' u'->Fr [] σ aa->n<=n'->n'+(u':Int)=n+(u:Int)->Q (.str s) aa):(CC (k+92)).call 365 [.ref I.w,v] Q X σ:=by
 refine C1 ⟨YL,171,[104,103],[],ni⟩ rfl rfl ?_
 refine dG ?_; intro BY
 cases h with
 | n=>exact q _ _ _ W (Fr.refl _ _) (Lf _) rfl
 | t=>exact q _ _ _ W (Fr.refl _ _) (Lf _) rfl
 | i i=>
  refine aE W.wo rfl ?_
  refine C1 ⟨YL,151,[55,103],[],cj⟩ rfl rfl ?_
  refine dG ?_; intro Re
  refine aE W.wo rfl ?_
  refine bW (by decide+kernel) W λm aV n2 u2 W2 F2 l2 s2 M2 o_ o_=> ?_
  refine iw M2 (vd rfl) λo=> ?_
  exact q _ _ _ (W2.push _) (F2.trans (Fr.push _ _ _)) l2 s2
 | z z=>
  refine aE W.wo rfl ?_
  refine C1 ⟨YL,151,[55,103],[],cj⟩ rfl rfl ?_
  refine aE W.wo rfl ?_
  refine bW (by decide+kernel) W λm aV n2 u2 W2 F2 l2 s2 M2 o_ o_=> ?_
  refine iw M2 (vd rfl) λo=> ?_
  exact q _ _ _ (W2.push _) (F2.trans (Fr.push _ _ _)) l2 s2
 | r a c fs own s h1 c0 c3 c7 h3 h4 h5=>
  haveI e1:∀j,j < 10->j ≠ 3->(j==10+c || (j==3 && c !=0))=Q1:=λj h h3=>by
   rw [beq_eq_false_iff_ne.mpr (by exact Y1 [_,_] [] (.o (.r (.e V0 (.a (.n 10) V1)))) (.t V0 (.n 10)) h rfl),beq_eq_false_iff_ne.mpr h3]; rfl
  refine pt h1 ?_
  refine iB (e1 1 (by decide) (by decide)) ?_
  refine aE W.wo rfl ?_
  refine C1 ⟨YL,151,[55,103],[],cj⟩ rfl rfl ?_
  refine pt h1 ?_
  refine iB (e1 1 (by decide) (by decide)) ?_
  refine pt h1 ?_
  refine iB (e1 0 (by decide) (by decide)) ?_
  refine pt h1 ?_
  refine gk (e1 2 (by decide) (by decide)) ?_
  refine aB h1 h3 ?_
  refine iw h4 (ZR h5 (by decide)) λo=> ?_
  exact q _ _ _ (W.push _) (Fr.push _ _ _) (Lf _) rfl
theorem jT (W:Wd I σ n u) (h:Kind σ v s) (hs:s.length<=100)
  (x:∀a aa n' u',Wd I aa n' u'->Fr [] σ aa->n<=n'->n'+(u':Int)=n+(u:Int)+2->Fw aa a "TypeError" (j' "no implicit conversion of "++s++j' " into Array")->X (.ref a) aa):(CC (k+97)).call 379 [.ref I.w,v] Q X σ:=by
 refine C1 ⟨YL,175,[104,103],[],jm⟩ rfl rfl ?_
 haveI hi:∀{Q:K},Q (.bool Q1) σ->Ba 13 Q v σ:=λq=>by
  cases h with
  | r a c fs own s h1 c0 c3=>
   refine pt h1 ?_
   exact (beq_eq_false_iff_ne.mpr λe=>c3 (Nat.add_left_cancel (n:=10) (m:=3) e).symm)▸q
  | _=>exact q
 refine hi ?_
 refine aE W.wo rfl ?_
 refine ad1 (vd rfl) ?_
 refine Ef W h λaV n2 u2 W2 F2 a2 s2=> ?_
 refine ad1 (by rw [aJ]; show 0+26+s.length<=1000; exact Y1 [_] [] (.l (.a (.a (.n 0) (.n 26)) V0) (.n 1000)) (.l V0 (.n 100)) hs rfl) ?_
 refine ad1 (by rw [aJ,aJ]; show 0+26+s.length+11<=1000; exact Y1 [_] [] (.l (.a (.a (.a (.n 0) (.n 26)) V0) (.n 11)) (.n 1000)) (.l V0 (.n 100)) hs rfl) ?_
 refine sd W2 (by decide+kernel) λa dq n3 u3 W3 F3 a3 s3 E3=> ?_
 exact x a dq n3 u3 W3 (F2.trans F3) (Y2 [] [_,_,_] (.L V0 V1) (.L V0 V2) (.L V2 V1) a2 a3 rfl) (Y2 [_,_,_] [_,_,_] (.Q (.a V0 (.c V0)) (.a (.a V1 (.c V1)) (.n 2))) (.Q (.a V2 (.c V2)) (.a V1 (.c V1))) (.Q (.a V0 (.c V0)) (.a (.a V2 (.c V2)) (.n 2))) s2 s3 rfl) E3
theorem aS {turn:V->(Fl->En->St->Prop)->En->St->Prop} {K} (P:List V->En->St->Prop) (hs:∀r en σ,P r en σ->aQ σ src=vi l)
  (ht:∀v r en σ (N:Fl->En->St->Prop),P (v::r) en σ->(∀aH aa,P r aH aa->N .next aH aa)->(∀aH aa,P r aH aa->N .cont aH aa)->(∀x aH aa,K (.ret x) aH aa->N (.ret x) aH aa)->turn v N en σ)
  (hk:∀en σ,P [] en σ->K .next en σ):∀r en σ,P r en σ->hH src l turn r K en σ
 | []=>λen σ h=>⟨hs _ _ _ h,hk _ _ h⟩
 | v::r=>λen σ h=>⟨hs _ _ _ h,ht v r en σ _ h (λaH aa h'=>aS P hs ht hk r aH aa h') (λaH aa h'=>aS P hs ht hk r aH aa h') λx aH aa h'=>h'⟩
theorem d9 {turn:V->List V->(List V->St->Prop)->St->Prop} {K} (P:List V->List V->St->Prop) (hs:∀r acc σ,P r acc σ->aQ σ src=vi l)
  (ht:∀v r acc σ (N:List V->St->Prop),P (v::r) acc σ->(∀cp aa,P r cp aa->N cp aa)->turn v acc N σ)
  (hk:∀acc σ,P [] acc σ->K acc σ):∀r acc σ,P r acc σ->d7 src l turn r acc K σ
 | []=>λacc σ h=>⟨hs _ _ _ h,hk _ _ h⟩
 | v::r=>λacc σ h=>⟨hs _ _ _ h,ht v r acc σ _ h λcp aa h'=>d9 P hs ht hk r cp aa h'⟩
theorem bz {turn:V->List V->(List V->St->Prop)->St->Prop} {K} {σ} g (hs:aQ σ src=vi l):
  ∀(r acc),(∀v∈r,∀acc N,acc.length+(g v).length<=bf->N (acc++g v) σ->turn v acc N σ)->acc.length+(r.flatMap g).length<=bf->K (acc++r.flatMap g) σ->d7 src l turn r acc K σ
 | []=>λacc ht hl hk=>⟨hs,by simpa using hk⟩
 | v::r=>λacc ht hl hk=>by
  rw [Ul,IQ] at hl
  refine ⟨hs,ht v (.head _) acc _ (Y1 [_,_,_,_] [] (.l (.a V0 V1) V2) (.l (.a V0 (.a V1 V3)) V2) hl rfl) (bz g hs r _ (λu hu=>ht u (.tail _ hu)) (by refine af IQ ?_; exact Y1 [_,_,_,_] [] (.l (.a (.a V0 V1) V2) V3) (.l (.a V0 (.a V1 V2)) V3) hl rfl) ?_)⟩
  rw [ab3,<-Ul]; exact hk
theorem mF {r:List V} {turn:V->List V->(List V->St->Prop)->St->Prop} {K} {σ} f (hs:aQ σ src=vi l)
  (ht:∀v∈r,∀acc N,acc.length < bf->N (acc++ [f v]) σ->turn v acc N σ) (hl:r.length<=bf) (hk:K (r.map f) σ):d7 src l turn r [] K σ:=by
 haveI e:r.flatMap (λv=> [f v])=r.map f:=by
  clear ht hl hk
  induction r with
  | nil=>rfl
  | cons a r ih=>simp only [Ul,ih]; rfl
 refine bz (λv=> [f v]) hs r [] (λv hv acc N h1 h2=>ht v hv acc N (by simp at h1; exact Y1 [_,_] [] (.t V0 V1) (.l (.a V0 (.n 1)) V1) h1 rfl) h2) (by refine af e ?_; simpa using hl) (by refine af e ?_; exact hk)
theorem mN (M:Mod σ m s) (q:Q (.str "thing") σ):(CC (k+3)).call 244 [.ref m] Q X σ:=by
 refine C1 ⟨YL,143,[103],[],mJ⟩ rfl rfl <| hG M λo_ o_ o_ o_ o_ e=> ?_
 iterate 3 refine pt e ?_
 exact q
theorem iW (q:Q (.str "int") σ):(CC (k+3)).call 244 [.int i] Q X σ:=
 C1 ⟨YL,143,[103],[],mJ⟩ rfl rfl q
theorem AC (M:Mod σ m s) (q:Q (.bool TU) σ):(CC (k+4)).call 251 [.ref m,.ref m] Q X σ:=C1 ⟨YL,53,[14,89],[],Cz⟩ rfl rfl <| mN M <| mN M <| hG M λn o_ o_ o_ o_ e=>aB e rfl <| aB e rfl <| cT (congrArg vi (decide_eq_true rfl)) <| q
theorem lC (W:Wd I σ n u)
  (q:∀m aa n' u',Wd I aa n' u'->Fr [] σ aa->n<=n'->n'+(u':Int)=n+(u:Int)->Mod aa m "Integer"->pN I aa "Integer" m->Hm I σ aa->Q (.ref m) aa):(CC (k+89)).call 650 [.ref I.w,.int i] Q X σ:=by
 refine C1 ⟨YL,151,[55,103],[],cj⟩ rfl rfl ?_
 refine aE W.wo rfl ?_
 exact bW (by decide+kernel) W q
theorem AF (W:Wd I σ n u)
  (q:∀a aa n' u',Wd I aa n' u'->Fr [] σ aa->n<=n'->Kind aa (.ref a) "Range"->Q (.ref a) aa):(CC (k+92)).call 713 [.ref I.w,.int 0,.int 1,.bool Q1] Q X σ:=by
 refine C1 ⟨YL,159,[55,78,36,133],[],ia⟩ rfl rfl <| dG ?_; intro BY
 refine iW <| iW <| aE W.wo rfl <| lC W λm1 aT n1 u1 W1 F1 l1 s1 M1 H1 o_=>aE W1.wo rfl <| lC W1 λm2 aV n2 u2 W2 F2 l2 s2 M2 H2 Yl=> ?_
 haveI e:m1=m2:=by
  refine ag H2 λkv a1 a2=>ag (Yl _ _ H1) λYL b1 b2=> ?_
  replace b1:=a1.symm.trans b1; cases b1
  replace b2:=a2.symm.trans b2; cases b2; rfl
 exact af e <| AC M2 <| aE W2.wo rfl <| cE W2 λdq W3 F3 L3=>aE W3.wo rfl <| bW (by decide+kernel) W3 λm4 jO n4 u4 W4 F4 l4 s4 M4 o_ o_=>vO <| wC rfl (vd rfl) <| q _ _ n4 u4 (W4.push _) (F1.trans (F2.trans (F3.trans (F4.trans (Fr.push _ _ _))))) (Y3 [] [_,_,_,_] (.L V0 V1) (.L V0 V2) (.L V2 V3) (.L (.a V3 (.n 1)) V1) l1 l2 l4 rfl) (.r _ 5 _ m4 _ (eA _ _) (nz rfl) (nz rfl) (nz rfl) rfl (M4.push _) (by decide+kernel))
theorem sQ (W:Wd I σ n u)
  (q:∀a aa n' u',Wd I aa n' u'->Fr [] σ aa->n<=n'->Kind aa (.ref a) "Hash"->Q (.ref a) aa):(CC (k+92)).call 699 [.ref I.w,.lst [.tup [.int 1,.int 2]]] Q X σ:=by
 refine C1 ⟨YL,160,[55,92],[],hZ⟩ rfl rfl <| aE W.wo rfl <| cE W λdq W3 F3 L3=>aE W3.wo rfl <| bW (by decide+kernel) W3 λm4 jO n4 u4 W4 F4 l4 s4 M4 o_ o_=>C1 ⟨YL,0,[55,119,91],[],gv⟩ rfl rfl <| cK rfl rfl rfl rfl rfl rfl ?_
 refine Rf rfl (vd rfl) <| Rf rfl (vd rfl) <| And.intro rfl <| And.intro rfl <| aE (aA (mV _ _) _) rfl <| aE (aA (aA W4.wo _) _) rfl <| C1 ⟨YL,116,[55,10],[],jq⟩ rfl rfl <| C1 ⟨YL,17,[55,10,103],[],ic⟩ rfl rfl <| C1 ⟨YL,130,[103,26,50],[.int 12,.none],re⟩ rfl rfl <| iW ?_
 have ld:∀(o p),(jO++ [o]).length=(jO++ [p]).length:=λo p=>by simp
 exact aB (aA (mV _ _) _) rfl <| MB (N0 (ld _ _)) <| IH (N0 (ld _ _)) <| aB (aA (mV _ _) _) rfl <| Rg (ld _ _) rfl <| And.intro rfl <| q _ _ n4 u4 ((W4.push _).push _) (F3.trans (F4.trans ((Fr.push _ _ _).trans (Fr.push _ _ _)))) (Y1 [] [_,_] (.L V0 V1) (.L (.a V0 (.n 1)) V1) l4 rfl) (.r _ 4 _ m4 _ (aA (mV _ _) _) (nz rfl) (nz rfl) (nz rfl) rfl ((M4.push _).push _) (by decide+kernel))
theorem lf {c:Nat} {w:V} (h:σ[a]? =vi (.inst c fs)) (h2:fs.lookup 112=vi (.bool Q1)) (q:Q .none σ):(CC (k+3)).call 386 [w,.ref a] Q X σ:=C1 ⟨YL,176,[104,102],[],mY⟩ rfl rfl <| aB h h2 <| q
theorem ir {c t:Nat} {xs:List V} (W:Wd I σ n u) (h:σ[a]? =vi (.inst c fs)) (h2:fs.lookup 112=vi (.bool Q1)) (h3:fs.lookup 83=vi (.ref it)) (h4:σ[it]? =vi (.list t l)) (hl:l.length+xs.length<=20000)
  (q:Q (.ref a) (σ.set it (.list t (l++xs)))):(CC (k+4)).call 428 [.ref I.w,.ref a,.lst xs] Q X σ:=C1 ⟨YL,174,[104,55,21],[],mZ⟩ rfl rfl <| lf h h2 <| aE W.wo rfl <| aB h h3 <| dj (bT h4) <| cQ W (Y1 [_,_] [] (.L (.a (.c V0) (.c V1)) (.n 20000)) (.l (.a V0 V1) (.n 20000)) hl rfl) <| aB h h3 <| Rj h4 <| MC h4 (by unfold bf; exact Y1 [_,_] [] (.l (.a V0 V1) (.n 100000)) (.l (.a V0 V1) (.n 20000)) hl rfl) <| q
theorem pX (W:Wd I σ n u) (M:Mod σ m "Array")
  (q:∀a aa n' u' num own,Wd I aa n' u'->Fr [] σ aa->n<=n'->aa[a]? =vi (fL (.int num) (.ref own) (.str "Row") (.bool TU) (.ref m) (.lst []) .none)->Mod aa m "Array"->Q (.ref a) aa):(CC (k+92)).call 643 [.ref I.w,.str "Row",.bool TU,.ref m] Q X σ:=by
 refine C1 ⟨YL,192,[55,44,153,121,90,150],[.none,.none,.none],fY⟩ rfl rfl <| dG ?_; intro BY
 exact aE W.wo rfl <| bW Cn W λown aV n2 u2 W2 F2 l2 s2 M2 o_ o_=>aE W2.wo rfl <| cE W2 λdq W3 F3 L3=>AZ <| wC rfl (vd rfl) <| q _ _ _ u2 _ own (W3.push _) (F2.trans (F3.trans (Fr.push _ _ _))) (Y1 [] [_,_] (.L V0 (.a V1 (.n 1))) (.L V0 V1) l2 rfl) (eA _ _) ((F2.trans (F3.trans (Fr.push _ _ _))).mod _ _ M)
theorem zL (W:Wd I σ n u) {r own:Nat} {num:Int} (hr:σ[r]? =vi (fL (.int num) (.ref own) (.str "Row") (.bool TU) (.ref m) (.lst []) .none)) (M:Mod σ m "Array")
  (q:∀aa,Wd I aa (n+1) u->Fr [] σ aa->Q (.ref (aa++ [O.list 1 []]).length) ((aa++ [.list 1 []])++ [cB (n+1) r Q1 aa.length])):(CC (k+92)).call 727 [.ref I.w,.ref r] Q X σ:=C1 ⟨YL,102,[55,117],[],jY⟩ rfl rfl <| aE hr rfl <| qG hr <| aE W.wo rfl <| C1 ⟨YL,141,[55,117],[],iK⟩ rfl rfl <| hG M λo_ o_ o_ o_ o_ e=>wB 2 <| aB hr rfl <| aB hr rfl <| aB e rfl <| aE e rfl <| qG e <| aB e rfl <| aE W.wo rfl <| cE W λaT W1 F1 L1=>ad1 rfl <| qC <| q aT W1 F1
theorem Dh:I6 []=40:=by decide+kernel
set_option maxHeartbeats 4000000 in
theorem zF
  (q:∀(I:WI) aa n u,I.w=σ.length->Wd I aa n u->Fr [] σ aa->0<=n->Q .none aa):(CC (k+97)).call 581 [.ref σ.length,.iy] Q X (σ++ [.inst 0 []]):=by
 refine C1 ⟨YL,0,[55,139,140,49,43],[.none,.none,.int 20000],ft⟩ rfl rfl ?_
 iterate 8 refine wC rfl (vd rfl) ?_
 iterate 7 refine Rf rfl (vd rfl) ?_
 have hd:(σ++ [O.inst 0 [(139,.iy),(140,.iy),(49,.none),(43,.int 20000),(101,.int 0),(199,.int 0),(191,.int 8),(209,.iy)]]).length=σ.length+1:=by simp
 refine (λh=>h _ hd:(∀d,d=σ.length+1->bX (CC (k+96)) (iN (iN (iN (iN (iN (iN (iN (iN (iN (iN (iN (iN (iN (iN (iN ft))))))))))))))) (pk Q) X (ik En.none [(55,.ref σ.length),(139,.iy),(140,.none),(49,.none),(43,.int 20000)]) ((σ++ [bK 0 d Q1 []])++ [.bg 9 []]))->_) λd hd=> ?_
 have CY:∀o,d=(σ++ [o]).length:=λo=>by simp only [IQ]; exact hd
 have W0:Wd ⟨σ.length,d,Q1,[],Z8 _⟩ ((σ++ [bK 0 d Q1 []])++ [.bg 9 []]) 0 40:=⟨aA (mV _ _) _,(HY ([]) (N0 (CY _)) nofun rfl Dh)⟩
 have F0:Fr [] σ ((σ++ [bK 0 d Q1 []])++ [.bg 9 []]):=(Fr.push _ _ _).trans (Fr.push _ _ _)
 generalize ((σ++ [bK 0 d Q1 []])++ [O.bg 9 []])=sK at*
 refine aE W0.wo rfl <| cE W0 ?_
 intro aT W1 F1 L1
 refine aE W1.wo rfl <| bW (I:=⟨σ.length,d,Q1,[],Z8 _⟩) (by decide+kernel) W1 ?_
 intro m aV n2 u2 W2 F2 l2 s2 M2 _ _
 refine cK rfl rfl rfl rfl rfl rfl ?_
 have W3:=W2.push [O.inst 1 [(119,.int 1),(91,.ref m),(111,.iy),(16,.none),(112,.bool Q1),(82,.none)]]
 have h3:=W3.wo
 have h4:=aP h3 (bK n2 d Q1 [(39,.ref aV.length)])
 refine zw h3 rfl (vd rfl) <| zw h4 rfl (vd rfl) ?_
 have F4:Fr [] σ (((aV++ [O.inst 1 [(119,.int 1),(91,.ref m),(111,.iy),(16,.none),(112,.bool Q1),(82,.none)]]).set σ.length (bK n2 d Q1 [(39,.ref aV.length)])).set σ.length (bK n2 d TU [(39,.ref aV.length)])):=((F0.trans (F1.trans (F2.trans (Fr.push [] aV [O.inst 1 [(119,.int 1),(91,.ref m),(111,.iy),(16,.none),(112,.bool Q1),(82,.none)]])))).du (FF _)).du (FF _)
 have W4:Wd ⟨σ.length,d,TU,[(39,.ref aV.length)],vd rfl⟩ (((aV++ [O.inst 1 [(119,.int 1),(91,.ref m),(111,.iy),(16,.none),(112,.bool Q1),(82,.none)]]).set σ.length (bK n2 d Q1 [(39,.ref aV.length)])).set σ.length (bK n2 d TU [(39,.ref aV.length)])) n2 u2:=by
  obtain ⟨wo,kvs,e,a,b,c⟩:=W3
  refine ⟨aP h4 _,kvs,ak (ak e h3 (by simp)) h4 (by simp),λq hq=> ?_,b,c⟩
  obtain ⟨x,m,y,z1,z2,z3,z4,z5,z6⟩:=a q hq
  exact ⟨x,m,y,z1,z2,z3,z4,z5,ak (ak z6 h3 (λh=>nomatch h)) h4 nofun⟩
 refine (λh=>h _ rfl:(∀mn,mn=aV.length->bX (CC (k+96)) (iN (iN (iN (iN (iN (iN (iN (iN (iN (iN (iN (iN (iN (iN (iN (iN (iN ft))))))))))))))))) (pk Q) X (ik En.none [(55,.ref σ.length),(139,.iy),(140,.none),(49,.none),(43,.int 20000)]) (((aV++ [O.inst 1 [(119,.int 1),(91,.ref m),(111,.iy),(16,.none),(112,.bool Q1),(82,.none)]]).set σ.length (bK n2 d Q1 [(39,.ref mn)])).set σ.length (bK n2 d TU [(39,.ref mn)])))->_) λmn VW=> ?_
 rw [<-VW] at F4 W4
 generalize (((aV++ [O.inst 1 [(119,.int 1),(91,.ref m),(111,.iy),(16,.none),(112,.bool Q1),(82,.none)]]).set σ.length (bK n2 d Q1 [(39,.ref mn)])).set σ.length (bK n2 d TU [(39,.ref mn)]))=jO at*
 revert jO; refine qJ ?_; set_option tactic.hygienic false in intros
 refine BX W4.di λkvs e a b c=>aB W4.wo rfl <| Mx e (by unfold bf; exact Y1 [_,_] [] (.l V0 (.n 100000)) (.e (.a V0 V1) (.n 40)) b rfl) <| aS (λr aH aa=>aa=jO/\aH 55=vi (.ref σ.length)/\∀v∈r,∃s∈eU,v=.str s) (λo_ o_ o_ o_=>rfl) (λv r aH aa N hp h1 h2 h3=> ?_) (λaH aa hp=> ?_) _ _ _ (cW rfl rfl (λv hv=> ?_))
 ·obtain ⟨rfl,he,hv⟩:=hp
  exact ag (hv v (.head _)) λs hs q1=>af q1 <| eN he <| aE W4.wo rfl <| mU (I:=⟨σ.length,d,TU,[(39,.ref mn)],vd rfl⟩) W4 hs <| h1 _ _ (cW rfl he (λv Gg=>hv v (.tail _ Gg)))
 ·obtain ⟨rfl,o_⟩:=hp
  exact q ⟨σ.length,d,TU,[(39,.ref mn)],vd rfl⟩ _ n2 u2 rfl W4 F4 (Y1 [] [_] (.L (.n 0) V0) (.L (.a (.n 0) (.n 1)) V0) l2 rfl)
 ·obtain ⟨p,hp,rfl⟩:=vo.mp hv
  exact ⟨p.1,(a p hp).1,rfl⟩
structure BF (t:Nat) (σ aa:St):Prop where
 len:aa.length=σ.length
 same:∀(i:Nat) (o:O),σ[i]? =vi o->(∀l,o ≠ .list t l)->aa[i]? =vi o
theorem BF.refl (t:Nat) (σ:St):BF t σ σ:=⟨rfl,λo_ o_ h o_=>h⟩
theorem BF.trans {t:Nat} {a b c:St} (x:BF t a b) (y:BF t b c):BF t a c:=⟨y.len.trans x.len,λi o h n=>y.same i o (x.same i o h n) n⟩
theorem BF.set {t:Nat} {l':List V} (h:σ[j]? =vi (.list t l)):BF t σ (σ.set j (.list t l')):=⟨by simp,λi o g n=>ak g h (n _)⟩
theorem BF.mod {t:Nat} (x:BF t σ aa) (h:Mod σ m s):Mod aa m s:=hG h λa b c d e h=>as8 a b c d e (x.same _ _ h (by simp))
theorem BF.fr {t:Nat} (x:BF t σ aa):Fr [t] σ aa:=⟨by refine bD x.len ?_; exact FF _,λi o h k=>x.same i o h (by rintro l rfl; exact absurd k (by show ¬(!([t].contains t))=TU; simp)),λm s h=>x.mod h⟩
theorem BF.wd {t:Nat} (x:BF t σ aa) (W:Wd I σ n u):Wd I aa n u:=W.frame λi o h a b=>x.same i o h (a t)
inductive kH (b:Bool) (bx:Nat) (σ:St) (C:Nat):Prop
 | mk (g s c z:Int) (h1:σ[bx]? =vi (.list 4 [.int g,.int s,.int c,.bool b,.int z])) (h2:0<=g) (h3:0<=s) (h4:s < 2147483629) (h5:0<=c) (h6:c<=C)
theorem kH.fr {b:Bool} (ht:ts.contains 4=Q1) (B:kH b bx σ C) (F:Fr ts σ aa):kH b bx aa C:=by
 obtain ⟨g,s,c,z,h,Sa,R',R9,R8,R7⟩:=B
 exact ⟨g,s,c,z,F.get h (by show (!ts.contains 4)=TU; refine af ht ?_; rfl),Sa,R',R9,R8,R7⟩
theorem kH.mono {b:Bool} {D:Nat} (B:kH b bx σ C) (h:C<=D):kH b bx σ D:=by
 obtain ⟨g,s,c,z,h,r1,r2,r3,r4,r5⟩:=B
 exact ⟨g,s,c,z,h,r1,r2,r3,r4,Zt r5 (ZQ.mpr ‹_›)⟩
theorem aY {a b:Int} (h:0 < b):0<=a.fmod b/\a.fmod b < b:=(YM _ (Int.le_of_lt h))▸⟨Int.emod_nonneg _ (Y1 [] [_] (.o (.Q V0 (.n 0))) (.T (.n 0) V0) h rfl),Int.emod_lt_of_pos _ h⟩
theorem powB {x c:Int} (h0:0<=x) (h1:x < 2147483647) (h2:0<=c) (h3:c<=C) (h4:C<=1000000):1 < x*48271+7883*(c+1)/\x*48271+7883*(c+1) < 1267650600228229401496703205376:=by
 rw [Int.mul_comm x]
 exact ⟨Y2 [] [_,_] (.T (.n 1) (.a (.m 48271 V0) (.m 7883 (.a V1 (.n 1))))) (.k 48271 (.L (.n 0) V0)) (.k 7883 (.L (.n 0) V1)) h0 h2 rfl,Y3 [_] [_,_] (.T (.a (.m 48271 V0) (.m 7883 (.a V1 (.n 1)))) (.n 1267650600228229401496703205376)) (.k 48271 (.T V0 (.n 2147483647))) (.k 7883 (.L V1 (.c V0))) (.k 7883 (.l V0 (.n 1000000))) h1 h3 h4 rfl⟩
theorem cr {m:Int} {b:Bool} (B:kH b bx σ C) (hC:C<=1000000) (hm:0 < m) (nP:m<=1000)
  (q:∀t aa,0<=t->t < m->BF 4 σ aa->kH b bx aa (C+1)->Q (.int t) aa):(CC (k+3)).call 860 [.ref bx,.int m] Q X σ:=by
 refine C1 ⟨YL,167,[5,40],[],pG⟩ rfl rfl ?_
 obtain ⟨g,s,c,z,h,r1,r2,r3,r4,r5⟩:=B
 have m0:=Y1 [] [_] (.o (.Q V0 (.n 0))) (.T (.n 0) V0) hm rfl
 have m1:m.natAbs < 4611686018427387904:=Ka (Int.le_of_lt hm) (aa7 nP (by decide))
 have h2:=aP h (.list 4 [.int g,.int s,.int (c+1),.bool b,.int z])
 by_cases hg:0 < g
 ·refine bA (bT h) (Ej rfl) <| pv (decide_eq_true hg) <| bA (bT h) (Ej rfl) <| mG m0 m1 <| bA (bT h) (Ej rfl) <| EZ m0 m1 <| And.intro rfl <| wD h Uz <| q _ _ (aY hm).1 (aY hm).2 (BF.set h) ⟨(g.fdiv m),s,c,z,(aP h _),?_,r2,r3,r4,(Y1 [_] [_] (.L V0 (.c (.a V0 (.n 1)))) (.L V0 (.c V0)) r5 rfl)⟩
  rw [aa9 _ (by exact Y1 [] [_] (.L (.n 0) V0) (.T (.n 0) V0) hm rfl)]
  exact Int.ediv_nonneg r1 (Y1 [] [_] (.L (.n 0) V0) (.T (.n 0) V0) hm rfl)
 ·refine bA (bT h) (Ej rfl) <| iB (decide_eq_false hg) <| bA (bT h) (Jc rfl) <| wD h Uy <| bA (bT h2) (PH rfl) ?_
  have B2:kH b bx (σ.set bx (.list 4 [.int g,.int s,.int (c+1),.bool b,.int z])) (C+1):=⟨g,s,(c+1),z,h2,r1,r2,r3,(Y1 [] [_] (.L (.n 0) (.a V0 (.n 1))) (.L (.n 0) V0) r4 rfl),(Y1 [_] [_] (.L (.a V0 (.n 1)) (.c (.a V0 (.n 1)))) (.L V0 (.c V0)) r5 rfl)⟩
  have F2:BF 4 σ (σ.set bx (.list 4 [.int g,.int s,.int (c+1),.bool b,.int z])):=BF.set h
  have c1:=Ka (Y1 [] [_] (.L (.n 0) (.a V0 (.n 1))) (.L (.n 0) V0) r4 rfl) (Y2 [_] [_] (.T (.a V0 (.n 1)) (.n 18446744073709551616)) (.L V0 (.c V0)) (.l V0 (.n 1000000)) r5 hC rfl)
  cases b with
  | true=>
   exact bA (bT h2) (Jc rfl) <| iA (.inr c1) <| bA (bT h2) (Jc rfl) <| iA (.inr c1) <| bA (bT h2) (Jc rfl) <| iA (.inr c1) <| mG (by decide) (by decide) <| mG m0 m1 <| q _ _ (aY hm).1 (aY hm).2 F2 B2
  | false=>
   refine bA (bT h2) (Vj rfl) <| bA (bT h2) (Jc rfl) <| iA (.inr c1) <| EX (Y2 [] [_,_] (.T (.n 1) (.a (.a V0 (.m 15485857 (.a V1 (.n 1)))) (.n 43))) (.L (.n 0) V0) (.k 15485857 (.L (.n 0) V1)) r2 r4 rfl) (Y3 [_] [_,_] (.T (.a (.a V0 (.m 15485857 (.a V1 (.n 1)))) (.n 43)) (.n 1267650600228229401496703205376)) (.T V0 (.n 2147483629)) (.k 15485857 (.L V1 (.c V0))) (.k 15485857 (.l V0 (.n 1000000))) r3 r5 hC rfl) (by decide) (by decide) <| mG (by decide) (by decide) ?_
   have hx:=aY (a:=(s+15485857*(c+1)+43)^(ad2 5)) (b:=2147483647) (by decide)
   have hy:=powB hx.1 hx.2 r4 r5 hC
   exact iA (.inr (by decide)) <| bA (bT h2) (Jc rfl) <| iA (.inr c1) <| EX hy.1 hy.2 (by decide) (by decide) <| mG (by decide) (by decide) <| EZ (by decide) (by decide) <| mG m0 m1 <| q _ _ (aY hm).1 (aY hm).2 F2 B2
theorem mM {n:Nat} {m:Int} {b:Bool} (e:m=(n:Int)) (B:kH b bx σ C) (hC:C<=1000000) (hm:0 < m) (nP:m<=1000)
  (q:∀(j:Nat) aa,j < n->BF 4 σ aa->kH b bx aa (C+1)->Q (.int j) aa):(CC (k+3)).call 860 [.ref bx,.int m] Q X σ:=
 cr B hC hm nP λt aa t0 t1 F B'=>by
  obtain ⟨j,rfl⟩:=Z7 t0
  exact q j aa (ab9.mp (e▸t1)) F B'
theorem IM {l:List Int} (hl:l.length<=63)
  (q:∀b o,kH b σ.length (σ++ [o]) 0->kp [] o=TU->Q (.ref σ.length) (σ++ [o])):(CC (k+3)).call 853 [.lst (l.map .int)] Q X σ:=by
 refine C1 ⟨YL,148,[123],[],rd⟩ rfl rfl <| And.intro rfl <| EU fC rfl <| aS (λr en aa=>∀G_,(aa=σ->((∃r',r=r'.map .int))->en 123=vi (.lst (l.map .int))->∀g s b,en 80=vi (.int g)->en 54=vi (.int s)->en 22=vi (.bool b)->0<=g->0<=s->s < 2147483629->G_)->G_)
  (λo_ o_ o_ o_=>rfl) (λv r en aa N hp h1 h2 h3=> ?_) (λen aa hp=> ?_) _ _ _ (λG_ k_=>k_ rfl ⟨l.take 63,by refine af aa4 ?_; rfl⟩ rfl 0 71 TU rfl rfl rfl (by decide) (by decide) (by decide))
 ·refine ax λG_ ae=>hp _ λeS JH e0 g s b e1 e2 e3 g0 s0 s1=> ?_
  subst eS
  obtain ⟨r',hr⟩:=JH
  obtain ⟨i,FE,rfl,rfl,rfl⟩:∃i FE,r'=i::FE/\v=.int i/\r=FE.map .int:=by
   cases r' with
   | nil=>cases hr
   | cons i FE=>simp at hr; exact bP i FE rfl hr.1 hr.2
  haveI st:∀{N},(∀b',N .next ((en.set 24 (.int i)).set 22 (.bool b')) aa)->wpS (CC k) (.asg 22 (.and (.cons (.var 22) (.cons (.cmp .eq (.var 24) (.int 0)) .nil)))) N X (en.set 24 (.int i)) aa:=λ{N} h=>by
   refine eN e3 ?_
   cases b with
   | false=>exact h _
   | true=>refine xO ?_; exact h _
  refine ae <| st λb'=>eN e2 <| iA (.inr (by decide)) <| iA (.inr (by decide)) <| mG (by decide) (by decide) ?_
  have hx:=aY (a:=s*48271+i*69621+31) (b:=2147483629) (by decide)
  refine eN e1 ?_
  by_cases hg:g=0
  ·refine xN (decide_eq_true hg) <| EX (by decide) (by decide) (by decide) (by decide) ?_
   by_cases hi:10^(ad2 18)<=(i.natAbs:Int)
   ·exact xO <| pv (decide_eq_true hi) <| h1 _ _ λG_ k_=>k_ rfl ⟨FE,rfl⟩ e0 i.natAbs _ b' rfl rfl rfl (ZS _) hx.1 hx.2
   ·exact xO <| iB (decide_eq_false hi) <| h1 _ _ λG_ k_=>k_ rfl ⟨FE,rfl⟩ e0 g _ b' e1 rfl rfl g0 hx.1 hx.2
  ·exact GI (decide_eq_false hg) <| h1 _ _ λG_ k_=>k_ rfl ⟨FE,rfl⟩ e0 g _ b' e1 rfl rfl g0 hx.1 hx.2
 ·refine ax λG_ ae=>hp _ λeS o_ e0 g s b e1 e2 e3 g0 s0 s1=> ?_
  subst eS
  have fin:=λz=>q b _ ⟨g,s,0,z,(eA _ _),g0,s0,s1,(by decide),(Lf _)⟩ rfl
  refine ae <| eN e1 <| eN e2 <| eN e3 <| eN e0 ?_
  by_cases hz:l=[]
  ·refine af hz ?_; exact fin _
  ·have hp:=ZC.mpr hz
   exact fV (decide_eq_true (by rw [vk]; exact Y1 [_] [] (.T (.n 0) (.c V0)) (.t (.n 0) V0) hp rfl)) <| eN e0 <| bA fC (HX (by rw [vk]; exact hp) (u:=.int (l[l.length - 1]'(Nat.sub_lt hp Nat.one_pos))) (by simp)) <| fin _
set_option tactic.hygienic true in
theorem MM {m:Int} {b:Bool} (B:kH b bx σ C) (hC:C<=900000) (hm:0<=m) (nP:m<=100)
  (q:∀i aa,BF 4 σ aa->kH b bx aa (C+4)->Q (.int i) aa):(CC (k+4)).call 922 [.ref bx,.int m] Q X σ:=by
 refine C1 ⟨YL,128,[5,40],[],uK⟩ rfl rfl <| cr B (Y1 [_] [] (.l V0 (.n 1000000)) (.l V0 (.n 900000)) hC rfl) (by decide) (by decide) λt aT t0 t1 F1 B1=> ?_
 by_cases ht:0 < t
 ·exact pv (decide_eq_true ht) <| iA (.inl (by decide)) <| cr B1 (Y1 [_] [] (.l (.a V0 (.n 1)) (.n 1000000)) (.l V0 (.n 900000)) hC rfl) (Y2 [] [_] (.T (.n 0) (.a (.m 2 V0) (.n 5))) (.L (.n 0) V0) (.L (.n 0) V0) hm hm rfl) (Y2 [] [_] (.L (.a (.m 2 V0) (.n 5)) (.n 1000)) (.L V0 (.n 100)) (.L V0 (.n 100)) nP nP rfl) λt' aV _ _ F2 B2=>q _ _ (F1.trans F2) (B2.mono (Y0 [_] [] (.l (.a (.a V0 (.n 1)) (.n 1)) (.a V0 (.n 4))) rfl))
 ·refine iB (decide_eq_false ht) ?_
  iterate 3 refine EX (by decide) (by decide) (by decide) (by decide) ?_
  have RQ:=B1
  obtain ⟨g,s,c,z,h,__1,__2,__3,__4,__5⟩:=RQ
  refine bA (bT h) (Vi rfl) <| cr B1 (Y1 [_] [] (.l (.a V0 (.n 1)) (.n 1000000)) (.l V0 (.n 900000)) hC rfl) (by decide) (by decide) λt' aV a1 a2 F2 B2=> ?_
  obtain ⟨j,rfl⟩:=Z7 a1
  haveI four:∃y,[V.int (2^ad2 63),.int (2^ad2 64),.int (10^ad2 30),.int z][j]? =vi (.int y):=by
   have:=(by decide:∀j < 4,j=0∨j=1∨j=2∨j=3) j (Y1 [_] [] (.t V0 (.n 4)) (.T (.c V0) (.n 4)) a2 rfl)
   rcases this with rfl | rfl | rfl | rfl <;> exact ⟨_,rfl⟩
  obtain ⟨y,hy⟩:=four
  refine bA fC (o6 (Y1 [_] [] (.t V0 (.n 1000000)) (.T (.c V0) (.n 4)) a2 rfl) hy) <| cr B2 (Y1 [_] [] (.l (.a (.a V0 (.n 1)) (.n 1)) (.n 1000000)) (.l V0 (.n 900000)) hC rfl) (by decide) (by decide) λt3 dq _ _ F3 B3=>cr B3 (Y1 [_] [] (.l (.a (.a (.a V0 (.n 1)) (.n 1)) (.n 1)) (.n 1000000)) (.l V0 (.n 900000)) hC rfl) (by decide) (by decide) λt4 jO _ _ F4 B4=> ?_
  by_cases h0:t4=0
  ·exact fV (decide_eq_true h0) <| q _ _ (F1.trans (F2.trans (F3.trans F4))) B4
  ·exact gk (decide_eq_false h0) <| q _ _ (F1.trans (F2.trans (F3.trans F4))) B4
inductive Mk (σ:St):V->V->Prop
 | r (a c:Nat) (fs:List (Nat×V)) (i:Int) (h1:σ[a]? =vi (.inst c fs)) (h2:c ≠ 0) (h3:c ≠ 7) (h4:fs.lookup 119=vi (.int i)):Mk σ (.ref a) (.int i)
 | n:Mk σ .none (.str "None")
 | o:Mk σ (.int 1) (.str "1")
 | s:Mk σ (.str "a") (.str "'a'")
 | t:Mk σ (.bool TU) (.str "True")
set_option tactic.hygienic true in
theorem rS {c:Nat} (h0:c ≠ 0) (h7:c ≠ 7):kp ts (.inst c fs)=TU:=by
 show (!(af8 c 0)&& !(af8 c 7))=TU
 rw [ae2.mpr λe=>h0 (ac6 e),ae2.mpr λe=>h7 (ac6 e)]; rfl
theorem Mk.fr {u:V} {σ aa} (h:Mk σ v u) (F:Fr ts σ aa):Mk aa v u:=by
 cases h with
 | r a c fs i h1 h2 h3 h4=>exact .r a c fs i (F.get h1 (rS h2 h3)) h2 h3 h4
 | n=>exact .n
 | o=>exact .o
 | s=>exact .s
 | t=>exact .t
theorem DO {n:Nat} (h:PyData.strOk s=TU):cw n (.str s)=TU:=by cases n <;> exact h
theorem Mk.plain {u:V} (h:Mk σ v u) (n:Nat):cw n u=TU:=by
 cases h with
 | r=>cases n <;> rfl
 | _=>exact DO (by decide+kernel)
theorem DJ:AD (.int 1)=vi (j' "1"):=by decide+kernel
theorem D3 {u:V} (h:Mk σ v u) (q:Q u σ):(CC (k+3)).call 879 [v] Q X σ:=by
 refine C1 ⟨YL,165,[103],[],pI⟩ rfl rfl <| dG ?_; intro BY
 cases h with
 | r a c fs i h1 h2 h3 h4=>
  refine pt h1 <| fV (by refine af (by simpa using h2:(c !=0)=TU) ?_; simp) ?_
  refine aB h1 h4 ?_
  exact q
 | o=>exact Mr DJ q
 | _=>exact q
inductive AL (σ:St) (a:Nat) (l:List V):Prop
 | mk (num:Int) (own:Nat) (eB:Bool) (it:Nat) (h1:σ[a]? =vi (cB num own eB it)) (h2:σ[it]? =vi (.list 1 l))
theorem NL.al (h:NL σ n0 s0 n1 s1 a l):AL σ a l:=by
 obtain ⟨num,own,it,h1,h2,h3,Sa,R',R9,R8,R7,YA⟩:=h
 exact ⟨num,own,Q1,it,h1,h3⟩
theorem bJ (h:AL σ a l) (hl:l.length<=bf) (hf:∀v∈l,Mk σ v (f v)) (q:Q (.lst (l.map f)) σ):(CC (k+4)).call 884 [.ref a] Q X σ:=by
 refine C1 ⟨YL,188,[102],[],na⟩ rfl rfl ?_
 obtain ⟨num,own,eB,it,h1,h2⟩:=h
 refine aB h1 rfl <| sJ (bT h2) <| mF f (bT h2).items (λv hv acc N h3 h4=> ?_) hl ?_
 ·exact D3 (hf v hv) ⟨h3,h4⟩
 ·exact q
noncomputable def jN (σ:St):Int->Nat->Int->Nat->List Nat->List (List V)->Prop
 | n0,s0,n1,s1,[],[]=>n0<=n1/\s0<=s1
 | n0,s0,n1,s1,a::as,l::ls=>∃m t,NL σ n0 s0 m t a l/\jN σ m t n1 s1 as ls
 | _,_,_,_,_,_=>False
@[elab_as_elim] theorem jN.ind {P:Int->Nat->List Nat->List (List V)->Prop} (h0:∀{n s},n<=n1->s<=s1->P n s [] []) (h1:∀{n s m t a l as ls},NL σ n s m t a l->jN σ m t n1 s1 as ls->P m t as ls->P n s (a::as) (l::ls)):∀{n s as ls},jN σ n s n1 s1 as ls->P n s as ls
 | _,_,[],[],h=>h0 h.1 h.2
 | _,_,_::_,_::_,h=>bV h λo_ o_ x y=>h1 x y (jN.ind h0 h1 y)
 | _,_,[],_::_,h=>h.elim
 | _,_,_::_,[],h=>h.elim
theorem jN.fr (ht:(ts.contains 1)=Q1) (F:Fr ts σ aa) (h:jN σ n0 s0 n1 s1 as ls):jN aa n0 s0 n1 s1 as ls:=
 h.ind (λa b=>⟨a,b⟩) λx o_ y=>dh _ _ (x.fr ht F) y
theorem jN.le (h:jN σ n0 s0 n1 s1 as ls):n0<=n1/\s0<=s1:=by
 refine h.ind (λa b=>⟨a,b⟩) λx o_ y=> ?_
 obtain ⟨num,own,it,o_,o_,o_,r1,r2,r3,r4,o_,o_⟩:=x
 exact ⟨Y3 [] [_,_,_,_] (.L V0 V1) (.L V2 V1) (.T V0 V3) (.L V3 V2) y.1 r1 r2 rfl,Y3 [_,_,_,_] [] (.l V0 V1) (.l V2 V1) (.l V0 V3) (.t V3 V2) y.2 r3 r4 rfl⟩
theorem jN.len (h:jN σ n0 s0 n1 s1 as ls):as.length=ls.length:=
 h.ind (λo_ o_=>rfl) λo_ o_ y=>congrArg (·+1) y
theorem jN.snoc {m:Int} {t:Nat} (h:jN σ n0 s0 m t as ls) (x:NL σ m t n1 s1 a l):jN σ n0 s0 n1 s1 (as++ [a]) (ls++ [l]):=
 h.ind (λb c=>bP n1 s1 (x.mono b (Lf _) c (FF _)) (Lf _) (FF _)) λy o_ z=>dh _ _ y z
theorem jN.al (h:jN σ n0 s0 n1 s1 as ls):∀(i a:Nat) (l:List V),as[i]? =vi a->ls[i]? =vi l->AL σ a l:=by
 refine h.ind (λo_ o_ o_ o_ o_ e=>nomatch e) λx o_ y i=> ?_
 cases i with
 | zero=>exact λo_ o_ e1 e2=>Z3 e1▸Z3 e2▸x.al
 | succ i=>exact y i
set_option tactic.hygienic true in
theorem mD {kn:Nat} {ks:List Int} (hN:jN σ n0 s0 n1 s1 as ls) (hs:src=.lst (as.map .ref)∨∃i,src=.ref i/\σ[i]? =vi (.list 1 (as.map .ref)))
  (aw4:σ[kn]? =vi (.list 2 (ks.map .int))) (Ji:∀x∈ks,x<=n0∨n1 < x) (hl:ks.length+as.length < 50000)
  (q:∀(vZ:List Int) (aa:St),BF 2 σ aa->aa[kn]? =vi (.list 2 (vZ.map .int))->(∀x∈vZ,x∈ks∨(n0 < x/\x<=n1))->vZ.length=ks.length+as.length->Q (.bool TU) aa):(CC (k+3)).call 903 [src,.ref kn] Q X σ:=by
 refine C1 ⟨YL,186,[125,84],[],nc⟩ rfl rfl ?_
 have Bq:∀aa,BF 2 σ aa->LV aa src (as.map .ref):=λaa F=>by
  rcases hs with rfl | ⟨i,rfl,e⟩
  ·exact fC
  ·exact bT (F.same _ _ e nofun)
 refine II (Bq σ (BF.refl _ _)) <| aS (λr en aa=>∀G_,(en 84=vi (.ref kn)->BF 2 σ aa->∀m t GQ (Ja:List (List V)) vZ,r=GQ.map .ref->jN σ m t n1 s1 GQ Ja->n0<=m->m<=n1->aa[kn]? =vi (.list 2 (vZ.map .int))->((∀x∈vZ,x∈ks∨(n0 < x/\x<=m)))->vZ.length+GQ.length=ks.length+as.length->G_)->G_)
  (λr en aa h=>h _ λ_ F _ _ _ _ _ _ _ _ _ _ _ _=>(Bq _ F).items) (λv r en aa N hp h1 h2 h3=> ?_) (λen aa hp=> ?_) _ _ _ (λG_ k_=>k_ rfl (BF.refl _ _) n0 s0 as ls ks rfl hN (Lf _) hN.le.1 aw4 (λx hx=> .inl hx) rfl)
 ·refine ax λG_ ae=>hp _ λe0 F m t GQ Ja vZ hr LN l1 l2 t9 hx hlen=>ae ?_
  cases GQ with
  | nil=>cases hr
  | cons a GQ=>
   cases Ja with
   | nil=>exact LN.elim
   | cons l Ja=>
    simp at hr
    obtain ⟨rfl,rfl⟩:=hr
    refine bV LN λm' t' NW Tx=> ?_
    obtain ⟨num,own,it,g1,g2,g3,g4,g5,_,_,_,_⟩:=NW
    have Gw:=F.same _ _ g1 (by simp)
    refine hG (F.mod g2) λ_ _ _ _ _ WV=> ?_
    have Nm:=Tx.le.1
    have Qi:num∉vZ:=λhm=>by
     rcases hx num hm with h | h
     ·exact (Ji num h).elim (λh=>Y3 [] [_,_,_] .f (.L V0 V1) (.L V1 V2) (.T V2 V0) h l1 g4 rfl) λh=>Y3 [] [_,_,_] .f (.T V0 V1) (.L V1 V2) (.L V2 V0) h g5 Nm rfl
     ·exact Y2 [] [_,_] .f (.T V0 V1) (.L V1 V0) g4 h.2 rfl
    have yK:vZ.length < bf:=by unfold bf; simp at hlen; exact Y2 [_,_,_,_] [] (.t V0 (.n 100000)) (.t (.a V1 V2) (.n 50000)) (.e (.a V0 (.a V3 (.n 1))) (.a V1 V2)) hl hlen rfl
    refine pt Gw <| aB Gw rfl <| aB WV rfl <| aB Gw rfl <| aB Gw rfl <| eN e0 <| cT (O8 (pb _) t9) <| Mt <| iB (decide_eq_false Qi) <| eN e0 <| y0 t9 <| aB Gw rfl <| xM t9 (by rw [vk]; exact yK) <| h1 _ _ λG_ k_=>k_ e0 (F.trans (BF.set t9)) m' t' GQ Ja (vZ++ [num]) rfl Tx (Y3 [] [_,_,_,_] (.L V0 V1) (.L V0 V2) (.T V2 V3) (.L V3 V1) l1 g4 g5 rfl) Nm (by rw [aP t9]; simp) (λx hm=> ?_) (by simp at hlen ⊢; exact Y1 [_,_,_,_] [] (.e (.a (.a V0 (.n 1)) V1) (.a V2 V3)) (.e (.a V0 (.a V1 (.n 1))) (.a V2 V3)) hlen rfl)
    rcases Zr.mp hm with hm | hm
    ·rcases hx x hm with h | h
     ·exact .inl h
     ·exact .inr ⟨h.1,by exact Y3 [] [_,_,_,_] (.L V0 V1) (.T V2 V3) (.L V3 V1) (.L V0 V2) g4 g5 h.2 rfl⟩
    ·simp at hm; refine af hm ?_; exact .inr ⟨by exact Y2 [] [_,_,_] (.T V0 V1) (.L V0 V2) (.T V2 V1) l1 g4 rfl,by exact g5⟩
 ·refine ax λG_ ae=>hp _ λe0 F m t GQ Ja vZ hr LN l1 l2 t9 hx hlen=>ae ?_
  simp at hr; subst hr
  refine q vZ aa F t9 (λx hm=> ?_) hlen
  rcases hx x hm with h | h
  ·exact .inl h
  ·exact .inr ⟨h.1,by exact Y2 [] [_,_,_] (.L V0 V1) (.L V2 V1) (.L V0 V2) l2 h.2 rfl⟩
noncomputable def Kn (kn:Nat) (σ:St) (n:Int) (L:Nat):Prop:=∃ks:List Int,σ[kn]? =vi (.list 2 (ks.map .int))/\(∀x∈ks,x<=n)/\ks.length<=L
theorem Kn.fr (ht:ts.contains 2=Q1) {kn:Nat} (K:Kn kn σ n L) (F:Fr ts σ aa):Kn kn aa n L:=ag K λks h r=>az ks (F.get h (by show (!ts.contains 2)=TU; refine af ht ?_; rfl)) r
theorem Kn.mono {kn:Nat} {m:Int} {M:Nat} (K:Kn kn σ n L) (h:n<=m) (h2:L<=M):Kn kn σ m M:=bZ K λks h0 h1 h3=>dH ks h0 (λx hx=>Zt (h1 x hx) h) (ZR h3 h2)
theorem ji {kn:Nat} (K:Kn kn σ n0 L) (hL:L+as.length < 50000) (hN:jN σ n0 s0 n1 s1 as ls) (hs:src=.lst (as.map .ref)∨∃i,src=.ref i/\σ[i]? =vi (.list 1 (as.map .ref)))
  (q:∀aa,BF 2 σ aa->Kn kn aa n1 (L+as.length)->Q (.bool TU) aa):(CC (k+3)).call 903 [src,.ref kn] Q X σ:=by
 refine bZ K λks h0 h1 h2=>mD hN hs h0 (λx hx=> .inl (h1 x hx)) (Y2 [_,_,_] [] (.t (.a V0 V1) (.n 50000)) (.t (.a V2 V1) (.n 50000)) (.l V0 V2) hL h2 rfl) λvZ aa F e hx hl=>q aa F (dH vZ e (λx hm=> ?_) (Y2 [_,_,_,_] [] (.l V0 (.a V1 V2)) (.l V3 V1) (.e V0 (.a V3 V2)) h2 hl rfl))
 rcases hx x hm with h | h
 ·exact Zt (h1 x h) hN.le.1
 ·exact h.2
noncomputable def xX (σ:St) (n0:Int) (s0:Nat) (n1:Int) (s1:Nat) (a:Nat) (as:List Nat) (ls:List (List V)):Prop:=∃m t,jN σ n0 s0 m t as ls/\NL σ m t n1 s1 a (as.map .ref)
theorem xX.fr (ht:(ts.contains 1)=Q1) (h:xX σ n0 s0 n1 s1 a as ls) (F:Fr ts σ aa):xX aa n0 s0 n1 s1 a as ls:=bV h λm t h1 h2=>dh m t (h1.fr ht F) (h2.fr ht F)
theorem lZ {n:Nat} (h:∀v∈l,cw n v=TU):cw (n+1) (.lst l)=TU:=aa0.mpr h
noncomputable def fA (f:V->V) (ls:List (List V)):List V:=ls.map λl=>V.lst (l.map f)
theorem jA (hf:∀l∈ls,∀v∈l,Mk σ v (f v)):cw 4 (.lst (fA f ls))=TU:=lZ λv hv=>ag (vo.mp hv) λl hl q1=>bD q1 <| lZ λu hu=>ag (vo.mp hu) λx hx q2=>bD q2 <| (hf l hl x hx).plain 2
set_option tactic.hygienic true in
theorem dF {kn:Nat} (K:Kn kn σ n0 L) (hT:xX σ n0 s0 n1 s1 a as ls) (hL:L+as.length < 40000)
  (hl:∀l∈ls,l.length<=bf) (hf:∀l∈ls,∀v∈l,Mk σ v (f v))
  (q:∀aa,BF 2 σ aa->Kn kn aa n1 (L+1+as.length)->Q (.bool TU) aa):(CC (k+5)).call 908 [.ref a,.ref kn,.lst (fA f ls)] Q X σ:=by
 refine C1 ⟨YL,206,[102,84,6],[],jo⟩ rfl rfl <| bV hT λm t h1 h2=>bZ K λks h0 Ji Qu=> ?_
 have Nn:=h1.le
 have len:=h1.len
 have hA:jN σ m t n1 s1 [a] [as.map .ref]:=(bP n1 s1 h2 (Lf _) (FF _))
 refine mD hA (.inl rfl) h0 (λx hx=> .inl (Zt (Ji x hx) Nn.1)) (by simp; exact Y2 [_,_,_] [] (.t (.a V0 (.n 1)) (.n 50000)) (.t (.a V1 V2) (.n 40000)) (.l V0 V1) hL Qu rfl) λYM aT F1 e1 Su CW=> ?_
 obtain ⟨num,own,it,g1,g2,g3,_,_,_,_,_,_⟩:=h2
 have Gw:=F1.same _ _ g1 nofun
 have TJ:=F1.same _ _ g3 (by intro l e; cases e)
 refine aB Gw rfl ?_
 have NW:=h1.fr rfl F1.fr
 refine mD NW (.inr (az it rfl TJ)) e1 (λx hx=> ?_) (by simp at CW; exact Y3 [_,_,_,_] [] (.t (.a V0 V1) (.n 50000)) (.t (.a V2 V1) (.n 40000)) (.l V3 V2) (.e V0 (.a V3 (.n 1))) hL Qu CW rfl) λU7 aV F2 e2 Ib xE=> ?_
 ·rcases Su x hx with h | h
  ·exact .inl (Ji x h)
  ·exact .inr h.1
 have Q0:=F2.same _ _ Gw nofun
 have Ma:=F2.same _ _ TJ (by intro l e; cases e)
 have ri:=F1.trans F2
 refine aB Q0 rfl <| sJ (bT Ma) ?_
 have Pf:as.length<=bf:=by unfold bf; exact Y1 [_,_] [] (.l V0 (.n 100000)) (.t (.a V1 V0) (.n 40000)) hL rfl
 refine d9 (λr acc aa=>∀G_,(aa=aV->∀i,i<=as.length->r=(as.drop i).map .ref->acc=fA f (ls.take i)->G_)->G_) (λr acc aa hp=>by refine hp _ λeS _ _ _ _=> ?_; refine af eS ?_; exact (bT Ma).items) (λv r acc aa N hp h=> ?_) (λacc aa hp=> ?_) _ _ _ (λG_ k_=>k_ rfl 0 (Y0 [_] [] (.l (.n 0) V0) rfl) (by simp) rfl)
 ·refine hp _ λeS i hi hr OL=>af eS <| af OL ?_
  have jf:i < as.length:=by
   have:=congrArg N8 hr; simp at this; exact Y1 [_,_,_] [] (.t V0 V1) (.e (.a (.a V2 (.n 1)) V0) V1) (Yb this) rfl
  rw [ZH jf,ZL] at hr
  injection hr with q1 q2
  refine af q1 ?_; subst q2
  have uY:i < ls.length:=Y2 [_,_,_] [] (.t V0 V1) (.e V2 V1) (.t V0 V2) len jf rfl
  have al:=(NW.fr rfl F2.fr).al i as[i] ls[i] (oC jf) (oC uY)
  refine bJ al (hl _ (yd _)) (λv hv=>((hf _ (yd _) v hv).fr ri.fr)) <| ⟨by unfold fA; simp only [vk,ZE]; exact Y3 [_,_,_,_] [] (.t V0 V1) (.l V2 V1) (.t V3 V2) (.e V0 V3) Pf jf (ZI (Y2 [_,_,_] [] (.l V0 V1) (.e V2 V1) (.t V0 V2) len jf rfl)) rfl,?_⟩
  refine h _ _ λG_ k_=>k_ rfl (i+1) jf (by simp) ?_
  unfold fA
  simp only [ZK uY,Oq]; rfl
 ·refine hp _ λeS i hi hr OL=>af eS <| af OL ?_
  have:i=as.length:=by
   have:=congrArg N8 hr; simp at this; exact ZJ hi ((Ya this))
  refine af this ?_
  rw [len,aa1]
  refine cT (cD (jA hf) rfl) <| q _ ri (dH U7 e2 (λx hm=> ?_) (by simp at CW; exact Y3 [_,_,_,_,_] [] (.l V0 (.a (.a V1 (.n 1)) V2)) (.l V3 V1) (.e V0 (.a V4 V2)) (.e V4 (.a V3 (.n 1))) Qu xE CW rfl))
  rcases Ib x hm with h | h
  ·rcases Su x h with h | h
   ·first
    | exact Zt (Ji x h) (by assumption)
    | exact Zt (Zt (Ji x h) Nn.1) (Y2 [] [_,_,_] (.L V0 V1) (.T V0 V2) (.L V2 V1) (by assumption) (by assumption) rfl)
   ·exact h.2
  ·first
   | exact Zt h.2 (by assumption)
   | exact h.2
   | exact Zt h.2 (Y2 [] [_,_,_] (.L V0 V1) (.T V0 V2) (.L V2 V1) (by assumption) (by assumption) rfl)
theorem aL {α:Type} {turn:V->List V->(List V->St->Prop)->St->Prop} {K} (xs:List α) (g f) (e:l=xs.map g) (hs:aQ σ src=vi l)
  (ht:∀x∈xs,∀acc N,acc.length < bf->N (acc++ [f x]) σ->turn (g x) acc N σ) (hl:xs.length<=bf) (hk:K (xs.map f) σ):d7 src l turn l [] K σ:=by
 subst e
 haveI gen:∀(ys:List α) acc,(∀y∈ys,y∈xs)->acc.length+ys.length<=bf->K (acc++ys.map f) σ->d7 src (xs.map g) turn (ys.map g) acc K σ:=by
  intro ys
  induction ys with
  | nil=>intro acc _ _ h; exact ⟨hs,by simpa using h⟩
  | cons y ys ih=>
   intro acc hm hle h
   refine ⟨hs,ht y (hm y (.head _)) acc _ (Y1 [_,_,_] [] (.t V0 V1) (.l (.a V0 (.a V2 (.n 1))) V1) hle rfl) (ih _ (λz hz=>hm z (.tail _ hz)) (by simp; exact Y1 [_,_,_] [] (.l (.a (.a V0 (.n 1)) V1) V2) (.l (.a V0 (.a V1 (.n 1))) V2) hle rfl) ?_)⟩
   simpa using h
 exact gen xs [] (λo_ h=>h) (by simpa using hl) hk
theorem pr {α:Type} {turn:V->List V->(List V->St->Prop)->St->Prop} {K:List V->St->Prop} (xs:List α) (g:α->V) (row:α->List V) (e:l=xs.map g) (W:Wd I σ n u)
  (hs:∀aa,Fr [] σ aa->aQ aa src=vi l)
  (ht:∀x∈xs,∀(acc:List V) (N:List V->St->Prop) (aa:St) (n':Int) (u':Nat),Wd I aa n' u'->Fr [] σ aa->acc.length < bf->(∀a cz Kd Op,Wd I cz Kd Op->Fr [] aa cz->n' < Kd->NL cz n' aa.length Kd cz.length a (row x)->N (acc++ [.ref a]) cz)->turn (g x) acc N aa)
  (hl:xs.length<=bf)
  (hk:∀as aa n' u',Wd I aa n' u'->Fr [] σ aa->n<=n'->jN aa n σ.length n' aa.length as (xs.map row)->K (as.map .ref) aa):d7 src l turn l [] K σ:=by
 subst e
 haveI gen:∀(ys zs) as aa n' u',xs=zs++ys->Wd I aa n' u'->Fr [] σ aa->jN aa n σ.length n' aa.length as (zs.map row)->d7 src (xs.map g) turn (ys.map g) (as.map .ref) K aa:=by
  intro ys
  induction ys with
  | nil=>
   intro zs as aa n' u' e W' F' h
   simp at e; subst e
   exact ⟨hs _ F',hk as aa n' u' W' F' h.le.1 h⟩
  | cons y ys ih=>
   intro zs as aa n' u' e W' F' h
   have hlen:=h.len
   refine ⟨hs _ F',ht y (by refine af e ?_; simp) _ _ aa n' u' W' F' ?_ λa cz Kd Op W2 F2 l2 h2=> ?_⟩
   ·have:=congrArg N8 e
    simp at this hlen ⊢; exact Y3 [_,_,_,_,_] [] (.t V0 V1) (.l V2 V1) (.r (.e V2 (.a V3 (.a V4 (.n 1))))) (.e V0 V3) hl this hlen rfl
   ·have:=ih (zs++ [y]) (as++ [a]) cz Kd Op (by simp only [e]; simp) W2 (F'.trans F2) (by simp only [Oq]; exact (h.fr rfl F2).snoc h2)
    rw [Oq] at this; exact this
 exact gen xs [] [] σ n u rfl W (Fr.refl _ _) ⟨Lf _,FF _⟩
structure Ar where
 a:Nat
 it:Nat
 l:List V
inductive aZ (σ:St) (r:Ar):Prop
 | mk (num:Int) (own:Nat) (eB:Bool) (h1:σ[r.a]? =vi (cB num own eB r.it)) (h2:σ[r.it]? =vi (.list 1 r.l))
theorem aZ.g2 {r:Ar}:aZ σ r->σ[r.it]? =vi (.list 1 r.l)
 | ⟨_,_,_,_,h⟩=>h
theorem aZ.fr {r:Ar} (ht:ts.contains 1=Q1) (h:aZ σ r) (F:Fr ts σ aa):aZ aa r:=by
 obtain ⟨num,own,eB,h1,h2⟩:=h
 exact ⟨num,own,eB,(F.get h1 rfl),(F.get h2 (by show (!ts.contains 1)=TU; refine af ht ?_; rfl))⟩
theorem AL.ar (h:AL σ a l):∃it,aZ σ ⟨a,it,l⟩:=by
 obtain ⟨num,own,eB,it,h1,h2⟩:=h
 exact ⟨it,num,own,eB,h1,h2⟩
theorem aZ.al {r:Ar} (h:aZ σ r):AL σ r.a r.l:=by
 obtain ⟨num,own,eB,h1,h2⟩:=h
 exact ⟨num,own,eB,r.it,h1,h2⟩
noncomputable def fg (rows:List (List V)) (items:List V):List (List V):=rows.flatMap λrow=>items.map λit=>row++ [it]
noncomputable def sC (rows:List (List V)) (ls:List (List V)):List (List V):=ls.foldl fg rows
noncomputable def kW:Nat->List Nat->Prop
 | _,[]=>True
 | m,s::r=>m*s<=20000/\kW (m*s) r
noncomputable def AI:Nat->List Nat->Nat
 | m,[]=>m
 | m,s::r=>AI (m*s) r
theorem jx (rows:List (List V)) items:(fg rows items).length=rows.length*items.length:=by
 unfold fg
 induction rows with
 | nil=>simp
 | cons r rows ih=>simp [Ul,ih,Nat.add_mul,Z']
theorem oq:∀(ls:List (List V)) (rows:List (List V)),(sC rows ls).length=AI rows.length (ls.map N8)
 | []=>λrows=>rfl
 | l::ls=>λrows=>by
  refine (?_:(sC (fg rows l) ls).length=_)
  rw [oq ls,jx]; rfl
noncomputable def Fz:V->List V
 | .lst l=>l
 | _=> []
theorem iH {s:Ar} (W:Wd I σ n u) (hs:aZ σ s) (hr:∀r∈rs,aZ σ r) (hp:s.l.length<=20000/\kW s.l.length (rs.map (·.l.length))) (hn:rs.length<=1000)
  (q:∀a as aa n' u',Wd I aa n' u'->Fr [] σ aa->n<=n'->xX aa n σ.length n' aa.length a as (sC (s.l.map λv=> [v]) (rs.map (·.l)))->Q (.ref a) aa):(CC (k+97)).call 480 [.ref I.w,.ref s.a,.lst (rs.map λr=> .ref r.a)] Q X σ:=by
 refine C1 ⟨YL,202,[104,55,21],[],dU⟩ rfl rfl ?_
 obtain ⟨num,own,eB,h1,h2⟩:=hs
 have LL:20000<=bf:=by unfold bf; exact Y0 [] [] (.l (.n 20000) (.n 100000)) rfl
 refine aL rs (λr=> .ref r.a) (λr=> .ref r.it) rfl rfl (λr ca acc N h3 h4=> ?_) (Y2 [_,_] [] (.l V0 V1) (.l V0 (.n 1000)) (.l (.n 20000) V1) hn LL rfl) ?_
 ·obtain ⟨o_,o_,o_,g1,g2⟩:=(hr r ca)
  exact dN g1 rfl ⟨h3,h4⟩
 refine aB h1 rfl <| dj (bT h2) <| aB h1 rfl <| sJ (bT h2) <| mF (λv=> .lst [v]) (bT h2).items (λv hv acc N h3 h4=>⟨h3,h4⟩) (Y2 [_,_] [] (.l V0 V1) (.l V0 (.n 20000)) (.l (.n 20000) V1) hp.1 LL rfl) <| And.intro rfl ?_
 refine aS (λr en aa=>∀G_,(σ=aa->en 104=vi (.ref I.w)->en 120=vi (.lst (rs.map λr=> .ref r.it))->en 52=vi (.lst (s.l.map λv=> .lst [v]))->∀ke m,r=ke.map (λr=> .ref r.it)->((∀r∈ke,r∈rs))->en 40=vi (.int (m:Nat))->kW m (ke.map (·.l.length))->m<=20000->AI m (ke.map (·.l.length))=AI s.l.length (rs.map (·.l.length))->G_)->G_)
  (λo_ o_ o_ o_=>rfl) (λv r en aa N fP h3 h4 h5=> ?_) (λen aa fP=> ?_) _ _ _ (λG_ k_=>k_ rfl rfl rfl rfl rs s.l.length rfl (λo_ h=>h) rfl hp.2 hp.1 rfl)
 ·refine ax λG_ ae=>fP _ λeS e1 e2 e3 ke m ca hm e4 zr nP hN=> ?_
  subst eS
  refine ae ?_
  cases ke with
  | nil=>cases ca
  | cons x ke=>
   injection ca with q1 q2
   refine af q1 ?_; obtain rfl:=q2.symm
   obtain ⟨o_,o_,o_,g1,g2⟩:=(hr x (hm x (.head _)))
   refine eN e4 <| dj (bT g2) <| iA (.inl (Y1 [_] [] (.t V0 (.n 18446744073709551616)) (.l V0 (.n 20000)) nP rfl)) <| eN e1 <| aE W.wo rfl ?_
   have wj:=zr
   exact cQ W (by exact_mod_cast wj.1) <| h3 _ _ λG_ k_=>k_ rfl e1 e2 e3 ke (m*x.l.length) rfl (λr h=>hm r (.tail _ h)) rfl wj.2 wj.1 hN
 refine fP _ λeS e1 e2 e3 ke m ca hm e4 zr nP hN=>bD eS ?_
 have:ke=[]:=by simpa using ca.symm
 obtain rfl:=this.symm
 have LN:m=AI s.l.length (rs.map (·.l.length)):=hN
 refine gG (λaH cz=>∀G_,(σ=cz->aH 104=vi (.ref I.w)->aH 40=vi (.int m)->((0 < m->aH 52=vi (.lst ((sC (s.l.map λv=> [v]) (rs.map (·.l))).map .lst))))->G_)->G_) (λN h3 o_ o_ o_=> ?_) ?_
 ·refine eN e4 ?_
  by_cases wm:0 < m
  ·refine fV (decide_eq_true (ab9.mpr wm)) <| eN e2 <| aS (λr en cz=>∀G_,(σ=cz->en 104=vi (.ref I.w)->en 40=vi (.int m)->∀ke (rows:List (List V)) c,r=ke.map (λr=> .ref r.it)->((∀r∈ke,r∈rs))->en 52=vi (.lst (rows.map .lst))->sC rows (ke.map (·.l))=sC (s.l.map λv=> [v]) (rs.map (·.l))->rows.length<=20000->kW rows.length (ke.map (·.l.length))->((∀row∈rows,row.length<=c))->c+ke.length<=1001->G_)->G_)
    (λo_ o_ o_ o_=>rfl) (λv r N4 cz N fP h4 h5 h6=> ?_) (λN4 cz fP=> ?_) _ _ _ (λG_ k_=>k_ rfl e1 e4 rs (s.l.map λv=> [v]) 1 rfl (λo_ h=>h) (by rw [e3,Fk]; rfl) rfl (by simpa using hp.1) (by simpa using hp.2) (by simp) (Y1 [_] [] (.l (.a (.n 1) V0) (.n 1001)) (.l V0 (.n 1000)) hn rfl))
   ·refine fP _ λeS f1 f2 gc rows c NA nP f3 hP hl Ez hc Iz=>bD eS ?_
    cases gc with
    | nil=>cases NA
    | cons x gc=>
     injection NA with q1 q2
     refine af q1 ?_; subst q2
     obtain ⟨o_,o_,o_,g1,g2⟩:=(hr x (nP x (.head _)))
     have wj:=Ez
     haveI fm:(rows.map V.lst).flatMap (λv=>x.l.map λit=>V.lst (Fz v++ [it]))=(fg rows x.l).map .lst:=by
      unfold fg
      simp only [Zz,ZF]
      simp [show ∀l,Fz (.lst l)=l from λo_=>rfl,Zw]
     refine eN f3 <| bz (λv=>x.l.map λit=>V.lst (Fz v++ [it])) rfl _ _ (λv hv acc N' a1 a2=> ?_) (by simp only [fm,vk,jx]; simp; exact Y2 [_,_] [] (.l V0 V1) (.l (.n 20000) V1) (.l V0 (.n 20000)) LL wj.1 rfl) ?_
     ·refine ag (vo.mp hv) λrow gY q3=> ?_
      subst q3
      have TQ:x.l.flatMap (λit=> [V.lst (row++ [it])])=x.l.map λit=> .lst (row++ [it]):=by
       generalize x.l=l
       induction l with
       | nil=>rfl
       | cons a l ih=>simp only [Ul,ih]; rfl
      refine sJ (bT g2) <| bz (λit=> [V.lst (row++ [it])]) (bT g2).items _ _ (λit hit cp N2 b1 b2=> ?_) (TQ▸a1) (TQ▸a2)
      exact cW (by simp; exact Y3 [_,_,_,_] [] (.l (.a V0 (.n 1)) V1) (.l (.n 20000) V1) (.l (.a V2 (.a V3 (.n 1))) (.n 1001)) (.l V0 V2) LL Iz (hc row gY) rfl) (Y1 [_,_] [] (.t V0 V1) (.l (.a V0 (.n 1)) V1) b1 rfl) b2
     ·refine af fm <| h4 _ _ λG_ k_=>k_ rfl f1 f2 gc (fg rows x.l) (c+1) rfl (λr h=>nP r (.tail _ h)) rfl hP (by rw [jx]; exact wj.1) (by rw [jx]; exact wj.2) (λrow gY=> ?_) (Y1 [_,_] [] (.l (.a (.a V0 (.n 1)) V1) (.n 1001)) (.l (.a V0 (.a V1 (.n 1))) (.n 1001)) Iz rfl)
      refine ag (ZN.mp gY) λr0 Ik gY=>ag (vo.mp gY) λit o_ q4=>bD q4 ?_
      have:=hc r0 Ik
      simp; exact this
   ·refine ax λG_ ae=>fP _ λeS f1 f2 gc rows c NA nP f3 hP hl Ez hc Iz=> ?_
    subst eS
    have:gc=[]:=by simpa using NA.symm
    subst this
    have QP:rows=_:=hP
    exact ae <| h3 _ _ λG_ k_=>k_ rfl f1 f2 (λo_=>by rw [f3,QP])
  ·exact gk (decide_eq_false (Y1 [_] [] (.o (.T (.n 0) (.c V0))) (.o (.t (.n 0) V0)) wm rfl)) <| And.intro rfl <| h3 _ _ λG_ k_=>k_ rfl e1 e4 (λh=>absurd h wm)
 refine λN4 o_ DM=>DM _ λq5 f1 f2 f3=>bD q5 ?_
 have fin:∀as aV n2 u2,Wd I aV n2 u2->Fr [] σ aV->n<=n2->jN aV n σ.length n2 aV.length as (sC (s.l.map λv=> [v]) (rs.map (·.l)))->(CC (k+96)).call 692 [.ref I.w,.lst (as.map .ref)] Q X aV:=λas aV n2 u2 W2 F2 l2 h=>bw W2 fC λa dq n3 u3 W3 F3 l3 s3 h3=>q a as dq n3 u3 W3 (F2.trans F3) (Y2 [] [_,_,_] (.L V0 V1) (.L V0 V2) (.T V2 V1) l2 l3 rfl) (dh n2 aV.length (h.fr rfl F3) h3)
 haveI hL:(sC (s.l.map λv=> [v]) (rs.map (·.l))).length=m:=by
  simp only [oq,Fk,LN]; simp [Zw]
 refine eN f1 <| aE W.wo rfl <| eN f2 ?_
 by_cases wm:0 < m
 ·refine fV (decide_eq_true (ab9.mpr wm)) <| eN (f3 wm) <| pr (sC (s.l.map λv=> [v]) (rs.map (·.l))) .lst id rfl W (λo_ o_=>rfl) (λrow gY acc N aV n2 u2 W2 F2 a1 a2=> ?_) (by exact Y3 [_,_,_] [] (.l V0 V1) (.l (.n 20000) V1) (.l V2 (.n 20000)) (.e V0 V2) LL nP hL rfl) λas aV n2 u2 W2 F2 l2 h=> ?_
  ·exact eN f1 <| aE W2.wo rfl <| bw W2 fC λa dq n3 u3 W3 F3 l3 s3 h3=>⟨a1,a2 a dq n3 u3 W3 F3 l3 h3⟩
  ·rw [List.map_id] at h
   exact fin as aV n2 u2 W2 F2 l2 h
 ·exact gk (decide_eq_false (Y1 [_] [] (.o (.T (.n 0) (.c V0))) (.o (.t (.n 0) V0)) wm rfl)) <| fin [] σ n u W (Fr.refl _ _) (Lf _) (by simp only [(Z9.mp (Y2 [_,_] [] (.e V0 (.n 0)) (.e V0 V1) (.o (.t (.n 0) V1)) hL wm rfl))]; exact ⟨Lf _,FF _⟩)
noncomputable def aG (ls:List (List V)) (w:Nat):List (List V):=if ls=[] then [] else (Hj w).map λk=>ls.map λl=>l.getD k .none
noncomputable def wT (a b:Nat):Str:=j' "element size differs ("++j' (toString (a:Int))++j' " should be "++j' (toString (b:Int))++j' ")"
theorem fD:∀i:Nat,i < 30->(j' (toString (i:Int))).length<=2:=by decide+kernel
noncomputable def HB:Str:=j' "no implicit conversion of "++j' "nil"++j' " into Array"
@[simp] theorem db (w:Nat):aM 0 (w:Int)=(Hj w).map λ(i:Nat)=>V.int (i:Int):=by
 unfold aM; simp
@[simp] theorem yy:aM 0 0=[]:=rfl
theorem NL.low {t0:Nat} (h:NL σ n0 s0 n1 s1 a l) (h1:m0<=n0) (h2:t0<=s0):NL σ m0 t0 n1 s1 a l:=h.mono h1 (Lf _) h2 (FF _)
theorem jN.low {t0:Nat} (h:jN σ n0 s0 n1 s1 as ls):m0<=n0->t0<=s0->jN σ m0 t0 n1 s1 as ls:=
 h.ind (λa b c d=>⟨Zt c a,ZR d b⟩) λx y o_ c d=>dh _ _ (x.low c d) y
theorem A9 σ:Kind σ .none "nil":=.n
set_option tactic.hygienic true in
theorem da {s:Ar} (W:Wd I σ n u) (hs:aZ σ s) (hw:w < 30) (hn:s.l.length < 30)
  (hv:∀i v,s.l[i]? =vi v->(∃r:Ar,v=.ref r.a/\aZ σ r/\r.l.length=w)∨
   (v=.none/\∀e aa n' u',Wd I aa n' u'->Fr [] σ aa->n<=n'->Fw aa e "TypeError" HB->X (.ref e) aa)∨
   (∃r:Ar,0 < i/\v=.ref r.a/\aZ σ r/\r.l.length ≠ w/\r.l.length < 30/\∀e aa n' u',Wd I aa n' u'->Fr [] σ aa->n<=n'->Fw aa e "IndexError" (wT r.l.length w)->X (.ref e) aa))
  (q:∀(rs:List Ar) a as aa n' u',s.l=rs.map (λr=> .ref r.a)->(∀r∈rs,aZ σ r/\r.l.length=w)->Wd I aa n' u'->Fr [] σ aa->n<=n'->xX aa n σ.length n' aa.length a as (aG (rs.map (·.l)) w)->Q (.ref a) aa):(CC (k+99)).call 485 [.ref I.w,.ref s.a,.lst []] Q X σ:=by
 refine C1 ⟨YL,215,[104,55,21],[],gp⟩ rfl rfl ?_
 obtain ⟨num,own,eB,h1,h2⟩:=hs
 have LL:20000<=bf:=by unfold bf; exact Y0 [] [] (.l (.n 20000) (.n 100000)) rfl
 refine aB (aA h1 [O.list 5 []]) rfl <| II (bT (aA h2 [O.list 5 []])) <| aS (λr en aa=>en 104=vi (.ref I.w)/\en 52=vi (.ref σ.length)/\∃ds,s.l=ds.map (λr=> .ref r.a)++r/\(∀d∈ds,aZ σ d/\d.l.length=w)/\aa=σ++ [.list 5 (ds.map λr=> .ref r.it)])
  (λr en aa h=>by obtain ⟨_,_,ds,_,_,rfl⟩:=h; exact (bT (aA h2 _)).items) (λv r en aa N hp h3 h4 h5=> ?_) (λen aa hp=> ?_) _ _ _ ⟨rfl,rfl,[],rfl,λd h=>(List.not_mem_nil h).elim,rfl⟩
 ·obtain ⟨e1,e2,ds,qd,hg,rfl⟩:=hp
  have Wp:=W.push [O.list 5 (ds.map λr=> .ref r.it)]
  have Fp:=Fr.push [] σ [O.list 5 (ds.map λr=> .ref r.it)]
  have hlen:ds.length < 30:=by have:=congrArg N8 qd; simp at this; exact Y2 [_,_,_] [] (.t V0 (.n 30)) (.t V1 (.n 30)) (.r (.e V1 (.a V0 (.a V2 (.n 1))))) hn this rfl
  have ge:=mV σ (O.list 5 (ds.map λr=> .ref r.it))
  rcases hv ds.length v (by rw [qd,Zh (by simp)]; simp) with ⟨x,rfl,hx,Nu⟩ | ⟨rfl,hX⟩ | ⟨x,hi,rfl,hx,Nu,K4,hX⟩
  ·have yR:=hx.fr rfl Fp
   obtain ⟨_,_,_,g1,g2⟩:=yR
   refine eN e1 <| dN g1 rfl <| gG (λaH cz=>aH=(en.set 103 (.ref x.a)).set 18 (.ref x.it)/\cz=σ++ [.list 5 (ds.map λr=> .ref r.it)]) (λN' k1 _ _ _=> ?_) ?_
   ·refine eN e2 <| cT (uH (fU ge)) ?_
    cases ds with
    | nil=>
     exact k1 _ _ ⟨rfl,rfl⟩
    | cons d ds=>
     obtain ⟨_,_,_,_,d2⟩:=((hg d (.head _)).1.fr rfl Fp)
     exact dj (bT g2) <| eN e2 <| bA (bT ge) (Ej rfl) <| dj (bT d2) <| cT (congrArg (λb=>vi (!b)) (decide_eq_true (by simp only [Nu,(hg d (.head _)).2]))) <| k1 _ _ ⟨rfl,rfl⟩
   rintro _ _ ⟨rfl,rfl⟩
   refine eN e2 <| y0 ge <| Ca (l':=(ds++ [x]).map λr=> .ref r.it) (by simp only [Oq]; rfl) (by rw [vk]; exact Y2 [_,_] [] (.t V0 V1) (.l (.n 20000) V1) (.t V0 (.n 30)) LL hlen rfl) ?_
   have Ud:=W.push [O.list 5 ((ds++ [x]).map λr=> .ref r.it)]
   refine eN e1 <| aE Ud.wo rfl <| eN e2 <| dj (bT (mV _ _)) <| dj (bT (aA hx.g2 [O.list 5 ((ds++ [x]).map λr=> .ref r.it)])) <| iA (.inl (by simp; exact Y2 [_,_] [] (.t V0 (.n 18446744073709551616)) (.t V1 (.n 30)) (.Q (.c V0) (.a (.c V1) (.n 1))) hlen (Int.natAbs_of_nonneg (Y0 [_] [] (.L (.n 0) (.a (.c V0) (.n 1))) rfl)) rfl)) <| cQ Ud ?_ ?_
   ·have:(ds.length+1)*w<=30*30:=ZY hlen (Y1 [_] [] (.l V0 (.n 30)) (.t V0 (.n 30)) hw rfl)
    simpa [Nu] using (ZQ.mpr (ZR this (by decide)):(((ds.length+1)*w:Nat):Int)<=20000)
   exact h3 _ _ ⟨e1,e2,ds++ [x],by refine af qd ?_; simp,λd hd=>by
    rcases Zr.mp hd with h | h
    ·exact hg d h
    ·rw [Zq] at h; refine af h ?_; exact ⟨hx,Nu⟩,rfl⟩
  ·exact eN e1 <| jT Wp (A9 _) (by decide+kernel) λa aV n2 u2 W2 F2 l2 s2 E2=>hX _ _ _ _ W2 (Fp.trans F2) l2 E2
  ·haveI yR:=hx.fr rfl Fp
   obtain ⟨_,_,_,g1,g2⟩:=yR
   refine eN e1 <| dN g1 rfl ?_
   cases ds with
   | nil=>exact absurd hi (Nat.lt_irrefl 0)
   | cons d ds=>
    obtain ⟨_,_,_,_,d2⟩:=((hg d (.head _)).1.fr rfl Fp)
    have Nw:=(hg d (.head _)).2
    have s1:=fD x.l.length K4
    have s2:=fD w hw
    have a1:=Y1 [_] [] (.t V0 (.n 1000000)) (.t V0 (.n 30)) K4 rfl
    have a2:d.l.length < 1000000:=Y2 [_,_] [] (.t V0 (.n 1000000)) (.t V1 (.n 30)) (.e V0 V1) hw Nw rfl
    refine eN e2 <| cT (uH (fU ge)) <| dj (bT g2) <| eN e2 <| bA (bT ge) (Ej rfl) <| dj (bT d2) <| cT (congrArg (λb=>vi (!b)) (decide_eq_false (by lia))) <| eN e1 <| aE Wp.wo rfl <| And.intro (vd rfl) <| dj (bT g2) <| eF (zU a1) (by rw [eL]; show 22+_<=1000; exact Y1 [_] [] (.l (.a (.n 22) V0) (.n 1000)) (.l V0 (.n 2)) s1 rfl) <| And.intro (by rw [aJ,eL]; show 22+_+11<=1000; exact Y1 [_] [] (.l (.a (.a (.n 22) V0) (.n 11)) (.n 1000)) (.l V0 (.n 2)) s1 rfl) <| eN e2 <| bA (bT ge) (Ej rfl) <| dj (bT d2) <| eF (zU a2) (by rw [aJ,aJ,eL,Nw]; show 22+_+11+_<=1000; exact Y2 [_,_] [] (.l (.a (.a (.a (.n 22) V0) (.n 11)) V1) (.n 1000)) (.l V0 (.n 2)) (.l V1 (.n 2)) s1 s2 rfl) <| And.intro (by rw [aJ,aJ,aJ,eL,Nw]; show 22+_+11+_+1<=1000; exact Y2 [_,_] [] (.l (.a (.a (.a (.a (.n 22) V0) (.n 11)) V1) (.n 1)) (.n 1000)) (.l V0 (.n 2)) (.l V1 (.n 2)) s1 s2 rfl) ?_
    rw [eL,Nw]
    exact sd Wp (by decide+kernel) λa aV n2 u2 W2 F2 l2 s2 E2=>hX _ _ _ _ W2 (Fp.trans F2) l2 E2
 ·obtain ⟨e1,e2,ds,qd,hg,rfl⟩:=hp
  rw [ZU] at qd
  have Wp:=W.push [O.list 5 (ds.map λr=> .ref r.it)]
  have Fp:=Fr.push [] σ [O.list 5 (ds.map λr=> .ref r.it)]
  have gf:(σ++ [O.list 5 (ds.map λr=>V.ref r.it)])[σ.length]? =vi (.list 5 (ds.map λr=>V.ref r.it)):=mV _ _
  have hlen:ds.length < 30:=by have:=congrArg N8 qd; simp at this; exact Y2 [_,_] [] (.t V0 (.n 30)) (.t V1 (.n 30)) (.r (.e V1 V0)) hn this rfl
  have gd:∀d∈ds,(σ++ [O.list 5 (ds.map λr=>V.ref r.it)])[d.it]? =vi (.list 1 d.l):=λd hd=>by
   obtain ⟨_,_,_,_,d2⟩:=((hg d hd).1.fr rfl Fp)
   exact d2
  have SP:=Fp.len
  generalize YS:σ++ [O.list 5 (ds.map λr=>V.ref r.it)]=aT at*
  refine eN e1 <| aE Wp.wo rfl <| eN e2 <| cT (uH (fU gf)) ?_
  cases ds with
  | nil=>
   exact zy (by decide) <| And.intro rfl <| bw Wp fC λa dq n3 u3 W3 F3 l3 s3 h3=>q [] a [] dq n3 u3 qd (λr hr=>by cases hr) W3 (Fp.trans F3) (Y1 [] [_,_] (.L V0 V1) (.T V0 V1) l3 rfl) ⟨n,aT.length,⟨Lf _,SP⟩,h3⟩
  | cons d ds=>
   have NR:=(hg d (.head _)).2
   refine eN e2 <| bA (bT gf) (Ej rfl) <| dj (bT (gd d (.head _))) <| zy (⟨Y0 [] [] (.T (.g (.n 1000000)) (.n 0)) rfl,⟨Y0 [] [] (.T (.n 0) (.n 1000000)) rfl,⟨Y0 [_] [] (.T (.g (.n 1000000)) (.c V0)) rfl,Y2 [_,_] [] (.T (.c V0) (.n 1000000)) (.t V1 (.n 30)) (.e V0 V1) hw NR rfl⟩⟩⟩) ?_
   rw [NR,db]
   refine pr (Hj w) (λi=>V.int i) (λi=>(d::ds).map λd=>d.l.getD i .none) rfl Wp (λ_ _=>rfl) (λi hi acc N aV n2 u2 W2 F2 b1 b2=> ?_) (by simp; exact Y2 [_,_] [] (.l V0 V1) (.t V0 (.n 30)) (.l (.n 20000) V1) hw LL rfl) λas aV n2 u2 W2 F2 l2 h=> ?_
   ·have jf:i < w:=by simpa using hi
    have TH:=F2.get gf rfl
    refine eN e1 <| aE W2.wo rfl <| eN e2 <| sJ (bT TH) <| aL (d::ds) (λd=> .ref d.it) (λd=>d.l.getD i .none) rfl (bT TH).items (λd' CY cp N' c1 c2=> ?_) (ZR (Nat.le_of_lt hlen) (by unfold bf; exact Y0 [] [] (.l (.n 30) (.n 100000)) rfl)) ?_
    ·have NR:=(hg d' CY).2
     refine bA (bT (F2.get (gd d' CY) rfl)) (o6 (Y2 [_,_] [] (.t V0 (.n 1000000)) (.t V1 (.n 30)) (.t V0 V1) hw jf rfl) ?_) ⟨c1,c2⟩
     rw [js,oC (by exact Y2 [_,_,_] [] (.t V0 V1) (.t V0 V2) (.r (.e V1 V2)) jf NR rfl)]; rfl
    ·exact bw W2 fC λa dq n3 u3 W3 F3 l3 s3 h3=>⟨b1,b2 a dq n3 u3 W3 F3 l3 h3⟩
   ·refine bw W2 fC λa dq n3 u3 W3 F3 l3 s3 h3=>q (d::ds) a as dq n3 u3 qd (λr hr=>⟨?_,(hg r hr).2⟩) W3 (Fp.trans (F2.trans F3)) (Y2 [] [_,_,_] (.L V0 V1) (.L V0 V2) (.T V2 V1) l2 l3 rfl) ⟨n2,aV.length,?_,h3⟩
    ·exact (hg r hr).1
    ·have et:aG ((d::ds).map (·.l)) w=(Hj w).map (λi=>(d::ds).map λd=>d.l.getD i .none):=by
      unfold aG
      refine af (if_neg (ae7 _ _)) ?_
      simp [Zw]
     exact af et <| (h.low (Lf _) SP).fr rfl F3
noncomputable def bU (l:List V) (i:Int):V:=if 0<=(if i < 0 then i+l.length else i)/\(if i < 0 then i+l.length else i) < l.length then l.getD (if i < 0 then i+l.length else i).toNat .none else .none
theorem rQ {w:V} {s:Ar} (hs:aZ σ s) (hl:s.l.length < 1000) (q:Q (bU s.l i) σ):(CC (k+7)).call 414 [w,.ref s.a,.lst [.int i]] Q X σ:=by
 refine C1 ⟨YL,173,[104,55,21],[],m9⟩ rfl rfl ?_
 obtain ⟨num,own,eB,h1,h2⟩:=hs
 refine aB (by with_reducible assumption) rfl <| dj (bT (by with_reducible assumption)) <| C1 ⟨YL,158,[104,103,57],[],pE⟩ rfl rfl <| eE ?_
 haveI fin:∀j:Int,(Q (if 0<=j/\j < s.l.length then s.l.getD j.toNat .none else .none) σ)->bX (CC (k+6)) (.cons (.ret (.ite (.nX .le .lt (.int 0) (.var 95) (.len (.attr (.var 55) 83))) (.idx (.attr (.var 55) 83) (.var 95)) .none)) .nil) (pk Q) X (((((En.none.set 104 w).set 55 (.ref s.a)).set 21 (.lst [.int i]))).set 95 (.int j)) σ:=λj hq=>by
  by_cases hj:0<=j
  ·by_cases uZ:j < s.l.length
   ·refine yZ (decide_eq_true hj) <| aB (by with_reducible assumption) rfl <| dj (bT (by with_reducible assumption)) <| fV (decide_eq_true uZ) <| aB (by with_reducible assumption) rfl ?_
    rw [if_pos ⟨hj,uZ⟩] at hq
    refine bA (bT h2) ?_ hq
    rw [place_lt hj (Y2 [_] [_] (.T V0 (.n 1000000)) (.t V0 (.n 1000)) (.T V0 (.c V0)) hl uZ rfl)]
    show s.l[j.toNat]? =_
    rw [js,oC (Yt hj uZ)]; rfl
   ·refine yZ (decide_eq_true hj) <| aB (by with_reducible assumption) rfl <| dj (bT (by with_reducible assumption)) <| gk (decide_eq_false uZ) ?_
    rw [if_neg (λxx=>Y2 [_] [_] .f (.o (.T V0 (.c V0))) (.T V0 (.c V0)) uZ xx.2 rfl)] at hq
    exact hq
  ·refine E8 (decide_eq_false hj) ?_
   rw [if_neg (λxx=>Y2 [] [_] .f (.o (.L (.n 0) V0)) (.L (.n 0) V0) hj xx.1 rfl)] at hq
   exact hq
 by_cases h:i < 0
 ·refine fV (decide_eq_true h) <| fin (i+s.l.length) ?_
  unfold bU at q
  rw [if_pos h] at q
  exact q
 ·refine gk (decide_eq_false h) <| fin i ?_
  unfold bU at q
  rw [if_neg h] at q
  exact q
theorem ii {s:Ar} {is:List Int} (W:Wd I σ n u) (hs:aZ σ s) (hl:s.l.length < 1000) (hi:is.length < 1000)
  (q:∀a aa n' u',Wd I aa n' u'->Fr [] σ aa->n < n'->NL aa n σ.length n' aa.length a (is.map (bU s.l))->Q (.ref a) aa):(CC (k+97)).call 475 [.ref I.w,.ref s.a,.lst (is.map .int)] Q X σ:=by
 refine C1 ⟨YL,212,[104,55,21],[],hU⟩ rfl rfl ?_
 have tY:=hs
 obtain ⟨num,own,eB,h1,h2⟩:=tY
 refine aB (aA (by with_reducible assumption) _) rfl <| dj (bT (aA (by with_reducible assumption) _)) <| dQ rfl <| aS (λr en aa=>∀G_,(en 104=vi (.ref I.w)->en 55=vi (.ref s.a)->en 79=vi (.ref σ.length)->∀(ds es),is=ds++es->r=es.map .int->aa=σ++ [.list 5 (ds.map (bU s.l))]->G_)->G_)
  (λr en aa h=>rfl) (λv r en aa N hp h3 h4 h5=> ?_) (λen aa hp=> ?_) _ _ _ (λG_ k_=>k_ rfl rfl rfl ([]) is rfl rfl rfl)
 ·refine hp _ λe1 e2 e3 ds es qd hr OK=>af OK ?_
  cases es with
  | nil=>cases hr
  | cons i es=>
   injection hr with q1 q2
   refine af q1 ?_; subst q2
   have LL:ds.length < bf:=by have:=congrArg N8 qd; simp at this; unfold bf; exact Y2 [_,_,_] [] (.t V0 (.n 100000)) (.t V1 (.n 1000)) (.r (.e V1 (.a V0 (.a V2 (.n 1))))) hi this rfl
   exact eN e3 <| y0 (mV _ _) <| eN e1 <| eN e2 <| rQ (hs.fr rfl (Fr.push [] σ [O.list 5 (ds.map (bU s.l))])) hl <| Ca (by simp only [Oq]; rfl) (by rw [vk]; exact LL) <| h3 _ _ λG_ k_=>k_ e1 e2 e3 (ds++ [i]) es (by refine af qd ?_; simp) rfl rfl
 ·refine hp _ λe1 e2 e3 ds es qd hr OK=>af OK ?_
  have:es=[]:=by simpa using hr.symm
  subst this
  simp at qd
  refine bD qd ?_
  have Wp:=W.push [O.list 5 (is.map (bU s.l))]
  exact eN e1 <| aE (Wd.wo (by with_reducible assumption)) rfl <| eN e3 <| bw Wp (.inr (dh _ 5 rfl (eA _ _))) λa dq n3 u3 W3 F3 l3 s3 h3=>q a dq n3 u3 W3 ((Fr.push [] σ _).trans F3) l3 (h3.low (Lf _) (by simp))
theorem kw {s:Ar} {i c:Nat} (W:Wd I σ n u) (hs:aZ σ s) (hl:s.l.length < 1000) (hi:i<=s.l.length) (hc:c < 1000)
  (q:∀a aa n' u',Wd I aa n' u'->Fr [] σ aa->n < n'->NL aa n σ.length n' aa.length a ((s.l.drop i).take c)->Q (.ref a) aa):(CC (k+97)).call 421 [.ref I.w,.ref s.a,.lst [.int i,.int c]] Q X σ:=by
 refine C1 ⟨YL,135,[104,55,21],[],rc⟩ rfl rfl ?_
 obtain ⟨num,own,eB,h1,h2⟩:=hs
 refine aB (by with_reducible assumption) rfl <| dj (bT (by with_reducible assumption)) <| C1 ⟨YL,144,[104,21,57],[],q8⟩ rfl rfl <| gG (λaH cz=>∀G_,(σ=cz->aH 57=vi (.int s.l.length)->aH 78=vi (.int i)->aH 74=vi (.int c)->G_)->G_) (λN k1 o_ o_ o_=> ?_) ?_
 ·exact eE <| eE <| dQ rfl <| k1 _ _ λG_ k_=>k_ rfl rfl rfl rfl
 refine λen o_ DM=>DM _ λq1 f1 f2 f3=>bD q1 <| eN f2 <| eN f2 <| eN f1 <| Rh (decide_eq_false ((Y1 [_,_] [] (.o (.T (.c V0) (.c V1))) (.l V1 V0) hi rfl))) <| eN f3 <| eN f2 <| eN f3 <| eN f1 <| eN f2 <| aE (Wd.wo (by with_reducible assumption)) rfl <| aB (by with_reducible assumption) rfl ?_
 have e0:i+min (c:Int) ((s.l.length:Int)- i)=((i+min c (s.l.length - i):Nat):Int):=by
  rw [<-Int.ofNat_sub hi,HF]; rfl
 have e1:(i+min (c:Int) ((s.l.length:Int)- i)).toNat=i+min c (s.l.length - i):=by refine af e0 ?_; rfl
 refine Xx (bT h2) (by simp [cg]; exact Y2 [_,_] [] (.T (.c V0) (.n 1000000)) (.t V1 (.n 1000)) (.l V0 V1) hl hi rfl) (by refine af e0 ?_; simp [cg]; exact ⟨Int.add_nonneg (ZS _) (ZS _),Y3 [_,_,_,_] [] (.T (.a (.c V0) (.c V1)) (.n 1000000)) (.l V1 V2) (.e (.a V2 V0) V3) (.t V3 (.n 1000)) (aa2 _ _) (N6 hi) hl rfl⟩) ?_
 simp only [Int.toNat_natCast,e1]
 haveI e2:JS s.l i (i+min c (s.l.length - i))=(s.l.drop i).take c:=by
  unfold JS
  rw [show i+min c (s.l.length - i)- i=min c (s.l.length - i) by exact Y1 [_,_,_] [] (.e V0 V1) (.e (.a V0 V2) (.a V2 V1)) (N6 (Y0 [_,_] [] (.l V0 (.a V0 V1)) rfl)) rfl]
  exact af (show s.l.length - i=(s.l.drop i).length by simp) <| (List.take_eq_take_min.symm)
 simp only [e2]
 exact bw W (.inl rfl) λa dq n3 u3 W3 F3 l3 s3 h3=>q a dq n3 u3 W3 F3 l3 h3
noncomputable def I7 (l:List V) (i:Int):List V:=if l=[] then [] else l.drop (i.fmod l.length).toNat++l.take (i.fmod l.length).toNat
theorem oE {t:Nat} {w:V} (h:σ[it]? =vi (.list t l)) (hl:l.length < 1000) (q:Q (.lst (I7 l i)) σ):(CC (k+5)).call 435 [w,.ref it,.lst [.int i]] Q X σ:=by
 refine C1 ⟨YL,142,[104,83,21],[],q9⟩ rfl rfl <| eE <| dR ?_; intro BY
 by_cases hz:l=[]
 ·obtain rfl:=hz.symm
  refine cT (fU (by with_reducible assumption)) ?_
  exact q
 ·have hp:=ZC.mpr hz
  have fP:¬(l.length:Int)=0:=Y1 [_] [] (.o (.Q (.c V0) (.n 0))) (.t (.n 0) V0) hp rfl
  have m:=aY (a:=i) (b:=(l.length:Int)) (Y1 [_] [] (.T (.n 0) (.c V0)) (.t (.n 0) V0) hp rfl)
  have hs:cg (i.fmod l.length)=TU:=by simp [cg]; exact ⟨m.1,Y2 [_] [_] (.T V0 (.n 1000000)) (.t V0 (.n 1000)) (.T V0 (.c V0)) hl m.2 rfl⟩
  refine cT (fU (by with_reducible assumption)) <| iB (by cases l with | nil=>exact absurd rfl hz | cons=>rfl) <| dj (bT (by with_reducible assumption)) <| mG (by omega) (Y1 [_] [] (.t V0 (.n 4611686018427387904)) (.t V0 (.n 1000)) hl rfl) <| EW (bT (by with_reducible assumption)) (by assumption) <| EU (bT (by with_reducible assumption)) (by assumption) <| iI (by simp; unfold bf; exact Y3 [_,_,_,_] [] (.l (.a V0 V1) (.n 100000)) (.t V2 (.n 1000)) (.e (.a V0 V3) V2) (.e V1 V3) hl (N6 (Y2 [_,_] [_] (.l V0 V1) (.T V0 (.c V1)) (.Q (.c V0) V0) m.2 (Nj m.1) rfl)) (ZI (Y2 [_,_] [_] (.l V0 V1) (.T V0 (.c V1)) (.Q (.c V0) V0) m.2 (Nj m.1) rfl)) rfl) ?_
  unfold I7 at q
  rw [if_neg hz] at q
  exact q
theorem eW {s:Ar} (W:Wd I σ n u) (hs:aZ σ s) (hl:s.l.length < 1000)
  (q:∀a aa n' u',Wd I aa n' u'->Fr [] σ aa->n < n'->NL aa n σ.length n' aa.length a (I7 s.l i)->Q (.ref a) aa):(CC (k+97)).call 442 [.ref I.w,.ref s.a,.lst [.int i]] Q X σ:=by
 refine C1 ⟨YL,203,[104,55,21],[],jn⟩ rfl rfl ?_
 obtain ⟨num,own,eB,h1,h2⟩:=hs
 exact aE (Wd.wo (by with_reducible assumption)) rfl <| aB (by with_reducible assumption) rfl <| oE h2 hl <| bw W (.inl rfl) λa dq n3 u3 W3 F3 l3 s3 h3=>q a dq n3 u3 W3 F3 l3 h3
theorem oF {own:Nat} {num:Int} (h1:σ[a]? =vi (cB num own Q1 it)) (h2:σ[it]? =vi (.list 1 l)) (hl:l.length < 1000)
  (q:Q (.ref a) (σ.set it (.list 1 (I7 l i)))):(CC (k+97)).call 470 [.ref I.w,.ref a,.lst [.int i]] Q X σ:=C1 ⟨YL,219,[104,55,21],[],fW⟩ rfl rfl <| lf h1 rfl <| aB (by with_reducible assumption) rfl <| oE h2 hl <| aB (by with_reducible assumption) rfl <| MF (by with_reducible assumption) <| q
noncomputable def BP:Ss:=(.cons (.aN [(.nm 31),(.nm 95)] (.idx (.var 64) (.neg (.int 1)))) (.cons (.bS (.cmp .eq (.var 95) (.len (.attr (.var 31) 83))) (.cons (.expr (.pop (.var 64))) (.cons (.expr (.yA (.var 107) (.attr (.var 31) 119))) (.cons .cont .nil))) .nil) (.cons (.ed (.idx (.var 64) (.neg (.int 1))) (.int 1) (.bin .add (.var 95) (.int 1))) (.cons (.aN [(.nm 33),(.nm 40)] (.tup (.cons (.idx (.attr (.var 31) 83) (.var 95)) (.cons (.bin .add (.var 40) (.int 1)) .nil)))) (.cons (.expr (.aD (.var 104) 177 (.cons (.var 40) .nil))) (.cons (.bS (.or (.cons (.not (.bt (.var 33) 13)) (.cons (.nX .le .lt (.int 0) (.var 75) (.len (.var 64))) .nil))) (.cons (.expr (.append (.var 79) (.var 33))) .nil) (.cons (.bS (.and (.cons (.cmp .lt (.var 75) (.int 0)) (.cons (.cmp .Bj (.attr (.var 33) 119) (.var 107)) .nil))) (.cons (.expr (.aD (.var 104) 27 (.cons (.str "ArgumentError") (.cons (.str "tried to flatten recursive array") .nil)))) .nil) (.cons (.expr (.append (.var 64) (.list (vi 7) (.cons (.var 33) (.cons (.int 0) .nil))))) (.cons (.ed (.var 107) (.attr (.var 33) 119) (.bool TU)) .nil))) .nil)) .nil))))))
theorem Wd.Hf (W:Wd I σ n u) {t:Nat} {kvs:List (Int×V)} (h:σ[j]? =vi (.bM t kvs)) (q:O):Wd I (σ.set j q) n u:=by
 obtain ⟨wo,kv,e,a,b,c⟩:=W
 refine ⟨ak wo h (by simp),kv,ak e h (by simp),λq hq=> ?_,b,c⟩
 obtain ⟨x,m,y,z1,z2,z3,z4,z5,z6⟩:=a q hq
 exact ⟨x,m,y,z1,z2,z3,z4,z5,ak z6 h (by simp)⟩
theorem Mk.inst {u:V} (h:Mk σ v u):∃b,jd σ v 13=vi b:=by
 cases h with
 | r a c fs i h2=>
  exact ⟨_,Bi h2⟩
 | _=>exact ⟨_,rfl⟩
theorem R4 {t:Nat} {a b:V}:nC (.list t (a::b::l)) (.int 1) v=vi (.list t (a::v::l)):=by
 simp only [vJ,w8]; simp
structure FS (I:WI) (σ:St) (n:Int) (u F T0 Wy D:Nat) (en:En) (aa:St) (acc:List V) (a i:Nat) (ws:List V) (kvs:List (Int×V)) (c:Nat):Prop where
 eZ:en 104=vi (.ref I.w)
 Ju:en 75=vi (.int 1)
 IJ:en 79=vi (.ref F)
 sk:en 64=vi (.ref Wy)
 y7:en 107=vi (.ref D)
 C4:en 40=vi (.int c)
 W:Wd I aa n u
 fr:Fr [] σ aa
 gF:aa[F]? =vi (.list 5 acc)
 gT:aa[T0]? =vi (.list 7 [.ref a,.int i])
 gW:aa[Wy]? =vi (.list 6 ws)
 gD:aa[D]? =vi (.bM 8 kvs)
 lF:σ.length<=F
 lT:σ.length<=T0
 lW:σ.length<=Wy
 lD:σ.length<=D
noncomputable def Jp (k:Nat) (X:K):Nat->KN->En->St->Prop:=lQ (sR (ba (CC k) (.cmp .ne (.var 64) (.list YL .nil))) X) (sS (bX (CC k) BP) X)
theorem Me {F T0 Wy D i T1 own:Nat} {N M:Int} {r:Ar} (LM:N ≠ M)
  (hr:σ[r.a]? =vi (cB M own eB r.it)) (hi:σ[r.it]? =vi (.list 1 r.l)) (hf:∀v∈r.l,Mk σ v (f v)) (Tt:T1 ≠ T0) (QO:σ.length<=T1) (hlen:r.l.length < 1000) {K:Fl->En->St->Prop}:
  ∀(rs done acc:List V) (en:En) (aa:St) (c:Nat),r.l=done++rs->acc.length+rs.length < 10000->c+rs.length < 10000->FS I σ n u F T0 Wy D en aa acc a i [.ref T0,.ref T1] [(N,.bool TU),(M,.bool TU)] c->aa[T1]? =vi (.list 7 [.ref r.a,.int done.length])->
  (∀aH cz,FS I σ n u F T0 Wy D aH cz (acc++rs) a i [.ref T0] [(N,.bool TU)] (c+rs.length)->Jp (k+92) X m K aH cz)->
  Jp (k+92) X (m+rs.length+1) K en aa:=by
 intro rs
 induction rs with
 | nil=>
  intro done acc en aa c hd ha hc S g1 DY
  simp at hd
  have r1:=S.fr.get hr rfl
  have r2:=S.fr.get hi rfl
  refine eN S.sk <| cT (uH (fU S.gW)) <| eN S.sk <| bA (bT S.gW) (HX (Z1 _) rfl) <| ET (bT g1) rfl <| aB r1 rfl <| dj (bT r2) <| pv (decide_eq_true (af hd rfl)) <| eN S.sk <| Ms S.gW rfl ?_
  have w2:=aP S.gW (.list 6 [.ref T0])
  have D2:=ak (q:=.list 6 [.ref T0]) S.gD S.gW (by simp)
  have UI:=ak (q:=.list 6 [.ref T0]) r1 S.gW (by simp)
  have k1:eI M [(N,V.bool TU),(M,V.bool TU)]=vi (.bool TU):=by simp [eI,LM]
  have k2:sp M [(N,V.bool TU),(M,V.bool TU)]=[(N,V.bool TU)]:=by simp [sp,LM]
  refine eN S.y7 <| GC D2 <| aB UI rfl <| BZ D2 (vd rfl) k1 ?_
  simp only [k2]
  refine DY _ _ ?_
  simp only [ZU]
  exact ⟨S.eZ,S.Ju,S.IJ,S.sk,S.y7,S.C4,(S.W.cu S.gW _).Hf D2 _,(S.fr.du S.lW).du S.lD,
   ak (ak S.gF S.gW (by simp)) D2 (by simp),ak (ak S.gT S.gW nofun) D2 (by simp),ak w2 D2 (by simp),aP D2 _,S.lF,S.lT,S.lW,S.lD⟩
 | cons v rs ih=>
  intro done acc en aa c hd ha hc S g1 DY
  have r1:=S.fr.get hr rfl
  have r2:=S.fr.get hi rfl
  have ll:=congrArg N8 hd
  simp at ll ha hc
  have hv:r.l[done.length]? =vi v:=by rw [hd,Zh (FF _)]; simp
  refine eN S.sk <| cT (uH (fU S.gW)) <| eN S.sk <| bA (bT S.gW) (HX (Z1 _) rfl) <| ET (bT g1) rfl <| aB r1 rfl <| dj (bT r2) <| iB (decide_eq_false (Y1 [_,_,_] [] (.o (.r (.Q (.c V0) (.c V1)))) (.r (.e V1 (.a V0 (.a V2 (.n 1))))) ll rfl)) <| eN S.sk <| bA (bT S.gW) (HX (Z1 _) rfl) <| wD g1 R4 ?_
  have t1:=aP g1 (.list 7 [.ref r.a,.int (done.length+1)])
  have q1:=ak (q:=.list 7 [.ref r.a,.int (done.length+1)]) r1 g1 (by simp)
  have q2:=ak (q:=.list 7 [.ref r.a,.int (done.length+1)]) r2 g1 (by simp)
  have W2:=S.W.cu g1 (.list 7 [.ref r.a,.int (done.length+1)])
  have F2:Fr [] σ (aa.set T1 (.list 7 [.ref r.a,.int (done.length+1)])):=S.fr.du QO
  have C0:=ak (q:=.list 7 [.ref r.a,.int (done.length+1)]) S.gF g1 (by simp)
  have QX:=ak (q:=.list 7 [.ref r.a,.int (done.length+1)]) S.gW g1 nofun
  have L9:=ak (q:=.list 7 [.ref r.a,.int (done.length+1)]) S.gD g1 (by simp)
  have WS:(aa.set T1 (.list 7 [.ref r.a,.int (done.length+1)]))[T0]? =_:=(Xr Tt).trans S.gT
  obtain ⟨b,hb⟩:=((hf v (by refine af hd ?_; simp)).fr F2).inst
  generalize aa.set T1 (.list 7 [.ref r.a,.int (done.length+1)])=aV at*
  refine aB q1 rfl <| bA (bT q2) (o6 (Y2 [_,_,_] [] (.t V0 (.n 1000000)) (.t V1 (.n 1000)) (.r (.e V1 (.a V0 (.a V2 (.n 1))))) hlen ll rfl) hv) <| eN S.C4 <| dQ rfl <| eN S.eZ <| aE W2.wo rfl <| cQ W2 (Y1 [_,_] [] (.L (.a (.c V0) (.n 1)) (.n 20000)) (.t (.a V0 (.a V1 (.n 1))) (.n 10000)) hc rfl) <| dR ?_; intro BY
  have fin:∀{K2},(∀Mj cz,Jp (k+92) X (m+rs.length+1) K Mj cz->K2 .next Mj cz)->bX (CC (k+92)) (.cons (.expr (.append (.var 79) (.var 33))) .nil) K2 X ((((en.set 31 (.ref r.a)).set 95 (.int done.length)).set 33 v).set 40 (.int (c+1))) aV:=λhK=>by
   refine dG ?_; intro Re
   refine eN S.IJ <| y0 C0 <| xM C0 (by unfold bf; exact Y1 [_,_] [] (.t V0 (.n 100000)) (.t (.a V0 (.a V1 (.n 1))) (.n 10000)) ha rfl) <| hK _ _ (ih (done++ [v]) (acc++ [v]) _ _ (c+1) (by refine af hd ?_; simp) (by simp; exact Y1 [_,_] [] (.t (.a (.a V0 (.n 1)) V1) (.n 10000)) (.t (.a V0 (.a V1 (.n 1))) (.n 10000)) ha rfl) (Y1 [_,_] [] (.t (.a (.a V0 (.n 1)) V1) (.n 10000)) (.t (.a V0 (.a V1 (.n 1))) (.n 10000)) hc rfl) ?_ ?_ λaH cz S'=>DY aH cz ?_)
   ·exact ⟨S.eZ,S.Ju,S.IJ,S.sk,S.y7,rfl,W2.cu C0 _,F2.du S.lF,aP C0 _,ak WS C0 (by simp),ak QX C0 (by simp),ak L9 C0 (by simp),S.lF,S.lT,S.lW,S.lD⟩
   ·refine af (ak t1 C0 (by simp)) ?_; simp
   ·have:acc++v::rs=acc++ [v]++rs:=by simp
    rw [this,show c+(v::rs).length=c+1+rs.length by simp; exact Y0 [_,_] [] (.e (.a V0 (.a V1 (.n 1))) (.a (.a V0 (.n 1)) V1)) rfl]
    exact S'
  refine eN hb ?_
  cases b with
  | false=>
   exact fin <| λo_ o_ h=>h
  | true=>
   refine eN S.Ju <| eN rfl <| eN S.sk <| dj (bT (by with_reducible assumption)) ?_
   refine fin ?_
   exact λo_ o_ h=>h
noncomputable def qP:List Ar->Nat
 | []=>2
 | r::rs=>qP rs+r.l.length+2
noncomputable def gO (rs:List Ar):List V:=rs.flatMap (·.l)
noncomputable def wE:List Ar->Nat
 | []=>0
 | r::rs=>wE rs+r.l.length+1
theorem Mf {F T0 Wy D own:Nat} {N:Int} {al:List Ar}
  (ha:σ[a]? =vi (cB N own eB it)) (hi:σ[it]? =vi (.list 1 (al.map λr=> .ref r.a)))
  (hr:∀r∈al,r.l.length < 1000/\(∃M own eB,N ≠ M/\σ[r.a]? =vi (cB M own eB r.it)/\σ[r.it]? =vi (.list 1 r.l))/\∀v∈r.l,Mk σ v (f v)) (hlen:al.length < 1000) {K:Fl->En->St->Prop}
  (hK:∀aH cz,Wd I cz n u->Fr [] σ cz->aH 79=vi (.ref F)->cz[F]? =vi (.list 5 (gO al))->K .next aH cz):
  ∀(rs done:List Ar) (en:En) (aa:St) (c:Nat),al=done++rs->(gO done).length+wE rs < 9000->c+wE rs < 9000->FS I σ n u F T0 Wy D en aa (gO done) a done.length [.ref T0] [(N,.bool TU)] c->
  Jp (k+92) X (qP rs) K en aa:=by
 intro rs
 induction rs with
 | nil=>
  intro done en aa c hd h1 h2 S
  simp at hd
  subst hd
  have r1:=S.fr.get ha rfl
  refine eN S.sk <| cT (uH (fU S.gW)) <| eN S.sk <| bA (bT S.gW) (HX (Z1 _) rfl) <| ET (bT S.gT) rfl <| aB r1 rfl <| dj (bT (S.fr.get hi rfl)) <| pv (decide_eq_true (by rw [vk])) <| eN S.sk <| Ms S.gW rfl ?_
  have D2:=ak (q:=.list 6 []) S.gD S.gW (by simp)
  have k1:eI N [(N,V.bool TU)]=vi (.bool TU):=by simp [eI]
  have k2:sp N [(N,V.bool TU)]=[]:=by simp [sp]
  exact eN S.y7 <| GC D2 <| aB (ak r1 S.gW (by simp)) rfl <| BZ D2 (vd rfl) k1 <| af k2 <| eN S.sk <| cT (uH (fU (ak (aP S.gW (.list 6 [])) D2 (by simp)))) <| hK _ _ ((S.W.cu S.gW _).Hf D2 _) ((S.fr.du S.lW).du S.lD) S.IJ (ak (ak S.gF S.gW (by simp)) D2 (by simp))
 | cons r rs ih=>
  intro done en aa c hd h1 h2 S
  have hm:r∈al:=by refine af hd ?_; simp
  refine iz (hr r hm) λhl y1 hf=>lx y1 λM md Mc LM g1 g2=> ?_
  have r1:=S.fr.get ha rfl
  have r2:=S.fr.get hi rfl
  have ll:=congrArg N8 hd
  simp at ll
  have ll:=ll
  have hv:(al.map λr=>V.ref r.a)[done.length]? =vi (.ref r.a):=by refine af hd ?_; simp
  have e1:Jp (k+92) X (qP (r::rs)) K en aa=Jp (k+92) X (qP rs+r.l.length+1+1) K en aa:=rfl
  refine eN S.sk <| cT (uH (fU S.gW)) <| eN S.sk <| bA (bT S.gW) (HX (Z1 _) rfl) <| ET (bT S.gT) rfl <| aB r1 rfl <| dj (bT r2) <| iB (decide_eq_false (by rw [vk]; exact Y1 [_,_,_] [] (.o (.r (.Q (.c V0) (.c V1)))) (.r (.e V1 (.a V0 (.a V2 (.n 1))))) ll rfl)) <| eN S.sk <| bA (bT S.gW) (HX (Z1 _) rfl) <| wD S.gT R4 ?_
  have t1:=aP S.gT (.list 7 [.ref a,.int (done.length+1)])
  have q1:=ak (q:=.list 7 [.ref a,.int (done.length+1)]) r1 S.gT (by simp)
  have q2:=ak (q:=.list 7 [.ref a,.int (done.length+1)]) r2 S.gT (by simp)
  have W2:=S.W.cu S.gT (.list 7 [.ref a,.int (done.length+1)])
  have F2:Fr [] σ (aa.set T0 (.list 7 [.ref a,.int (done.length+1)])):=S.fr.du S.lT
  have C0:=ak (q:=.list 7 [.ref a,.int (done.length+1)]) S.gF S.gT (by simp)
  have QX:=ak (q:=.list 7 [.ref a,.int (done.length+1)]) S.gW S.gT (by simp)
  have L9:=ak (q:=.list 7 [.ref a,.int (done.length+1)]) S.gD S.gT (by simp)
  generalize aa.set T0 (.list 7 [.ref a,.int (done.length+1)])=aV at*
  refine aB q1 rfl <| bA (bT q2) (o6 (Y2 [_,_,_] [] (.t V0 (.n 1000000)) (.t V1 (.n 1000)) (.r (.e V1 (.a V0 (.a V2 (.n 1))))) hlen ll rfl) hv) <| eN S.C4 <| dQ rfl <| eN S.eZ <| aE W2.wo rfl <| cQ W2 (Y1 [_,_,_] [] (.L (.a (.c V0) (.n 1)) (.n 20000)) (.t (.a V0 (.a (.a V1 V2) (.n 1))) (.n 9000)) h2 rfl) <| pt (F2.get g1 rfl) <| eN S.Ju <| eN rfl <| eN S.sk <| dj (bT (by with_reducible assumption)) <| eN rfl ?_
  refine eN S.Ju ?_
  refine eN S.sk <| y0 (by with_reducible assumption) ?_
  have Hl:=aA QX [O.list 7 [.ref r.a,.int 0]]
  refine xM Hl (vd rfl) ?_
  have z0:=ak (eA aV (O.list 7 [.ref r.a,.int 0])) Hl (q:=.list 6 ([.ref T0]++ [.ref aV.length])) (by simp)
  have z1:=ak (q:=.list 6 ([.ref T0]++ [.ref aV.length])) (aA t1 [O.list 7 [.ref r.a,.int 0]]) Hl (by simp)
  have z2:=ak (q:=.list 6 ([.ref T0]++ [.ref aV.length])) (aA C0 [O.list 7 [.ref r.a,.int 0]]) Hl (by simp)
  have z3:=ak (q:=.list 6 ([.ref T0]++ [.ref aV.length])) (aA L9 [O.list 7 [.ref r.a,.int 0]]) Hl (by simp)
  have z4:=aP Hl (.list 6 ([.ref T0]++ [.ref aV.length]))
  have z5:=(W2.push [O.list 7 [.ref r.a,.int 0]]).cu Hl (.list 6 ([.ref T0]++ [.ref aV.length]))
  have z6:Fr [] σ ((aV++ [O.list 7 [.ref r.a,.int 0]]).set Wy (.list 6 ([.ref T0]++ [.ref aV.length]))):=(F2.trans (Fr.push _ _ _)).du S.lW
  have z7:=z6.get g1 rfl
  have VD:=dE t1
  have QC:=F2.len
  generalize (aV++ [O.list 7 [.ref r.a,.int 0]]).set Wy (.list 6 ([.ref T0]++ [.ref aV.length]))=dq at*
  have kp:lV M (V.bool TU) [(N,V.bool TU)]=[(N,.bool TU),(M,.bool TU)]:=by simp [lV,LM]
  refine eN S.y7 <| aB z7 rfl <| wD z3 (AB _ _ _ _ (vd rfl)) ?_
  simp only [kp]
  refine Me (I:=I) (n:=n) (u:=u) (a:=a) (T0:=T0) (F:=F) (Wy:=Wy) (D:=D) (T1:=aV.length) (i:=done.length+1) LM g1 g2 hf (Y1 [_,_] [] (.o (.e V0 V1)) (.t V1 V0) VD rfl) QC hl r.l [] (gO done) _ _ (c+1) rfl (Y1 [_,_,_] [] (.t (.a V0 V1) (.n 10000)) (.t (.a V0 (.a (.a V2 V1) (.n 1))) (.n 9000)) h1 rfl) (Y1 [_,_,_] [] (.t (.a (.a V0 (.n 1)) V1) (.n 10000)) (.t (.a V0 (.a (.a V2 V1) (.n 1))) (.n 9000)) h2 rfl) ?_ ?_ λaH cz S'=> ?_
  ·exact ⟨S.eZ,S.Ju,S.IJ,S.sk,S.y7,rfl,z5.Hf z3 _,z6.du S.lD,ak z2 z3 (by simp),ak z1 z3 (by simp),ak z4 z3 (by simp),aP z3 _,S.lF,S.lT,S.lW,S.lD⟩
  ·exact ak z0 z3 (by simp)
  ·have e:gO (done++ [r])=gO done++r.l:=by simp [gO]
   refine ih (done++ [r]) aH cz (c+1+r.l.length) (by rw [hd]; simp) (by rw [e,IQ]; exact Y1 [_,_,_] [] (.t (.a (.a V0 V1) V2) (.n 9000)) (.t (.a V0 (.a (.a V2 V1) (.n 1))) (.n 9000)) h1 rfl) (Y1 [_,_,_] [] (.t (.a (.a (.a V0 (.n 1)) V1) V2) (.n 9000)) (.t (.a V0 (.a (.a V2 V1) (.n 1))) (.n 9000)) h2 rfl) ?_
   rw [e,IQ]
   exact S'
set_option tactic.hygienic true in
theorem lh {own:Nat} {N:Int} {al:List Ar} (W:Wd I σ n u)
  (ha:σ[a]? =vi (cB N own eB it)) (hi:σ[it]? =vi (.list 1 (al.map λr=> .ref r.a)))
  (hr:∀r∈al,r.l.length < 1000/\(∃M own eB,N ≠ M/\σ[r.a]? =vi (cB M own eB r.it)/\σ[r.it]? =vi (.list 1 r.l))/\∀v∈r.l,Mk σ v (f v)) (hlen:al.length < 1000) (hc:wE al < 9000)
  (q:∀b aa n' u',Wd I aa n' u'->Fr [] σ aa->n < n'->NL aa n σ.length n' aa.length b (gO al)->Q (.ref b) aa):(CC (k+99)).call 463 [.ref I.w,.ref a,.lst [.int 1]] Q X σ:=by
 refine C1 ⟨YL,211,[104,55,21],[],hV⟩ rfl rfl <| aE (Wd.wo (by with_reducible assumption)) rfl <| C1 ⟨YL,169,[104,55,21],[],nl⟩ rfl rfl <| eE <| C1 ⟨YL,28,[104,72,75],[],CA⟩ rfl rfl <| aB (aA (aA (aA ha _) _) _) rfl <| dQ rfl <| wB (qP al) <| Mf ha hi hr hlen (λaH cz W2 F2 IJ g2=> ?_) al [] _ _ 0 rfl (by simp [gO]; exact hc) (Y1 [_] [] (.t (.a (.n 0) V0) (.n 9000)) (.t V0 (.n 9000)) hc rfl) ⟨rfl,rfl,rfl,rfl,rfl,rfl,(((W.push _).push _).push _).push _,(((Fr.push _ _ _).trans (Fr.push _ _ _)).trans (Fr.push _ _ _)).trans (Fr.push _ _ _),aA (aA (aA (mV _ _) _) _) _,aA (aA (mV _ _) _) _,aA (mV _ _) _,mV _ _,FF _,by simp,by simp,by simp⟩
 exact eN IJ <| bw W2 (.inr (dh _ 5 rfl g2)) λb dq n3 u3 W3 F3 l3 s3 h3=>q b dq n3 u3 W3 (F2.trans F3) l3 (h3.low (Lf _) F2.len)
inductive It (σ:St) (n:Int):V->Prop
 | r (a c:Nat) (fs:List (Nat×V)) (i:Int) (h1:σ[a]? =vi (.inst c fs)) (h2:c ≠ 0) (h3:c ≠ 7) (h4:fs.lookup 119=vi (.int i)) (h5:i<=n):It σ n (.ref a)
 | n:It σ n .none
 | o:It σ n (.int 1)
 | s:It σ n (.str "a")
 | t:It σ n (.bool TU)
theorem It.fr (h:It σ n v) (F:Fr ts σ aa) (l:n<=n'):It aa n' v:=by
 cases h with
 | r a c fs i h1 h2 h3 h4 h5=>exact .r a c fs i (F.get h1 (rS h2 h3)) h2 h3 h4 (Zt h5 l)
 | n=>exact .n
 | o=>exact .o
 | s=>exact .s
 | t=>exact .t
theorem It.mk (h:It σ n v):∃u,Mk σ v u:=by
 cases h with
 | r a c fs i h1 h2 h3 h4=>exact ⟨_,.r a c fs i h1 h2 h3 h4⟩
 | n=>exact ⟨_,.n⟩
 | o=>exact ⟨_,.o⟩
 | s=>exact ⟨_,.s⟩
 | t=>exact ⟨_,.t⟩
noncomputable def mf (σ:St) (v:V):V:=@Classical.epsilon V ⟨.none⟩ (λu=>Mk σ v u)
theorem xk (h:∃u,Mk σ v u):Mk σ v (mf σ v):=Classical.epsilon_spec h
theorem DN (W:Wd I σ n u)
  (q:∀im aa n' u',Wd I aa n' u'->Fr [] σ aa->n<=n'->im.length=8->(∀v∈im,It aa n' v)->Q (.lst im) aa):(CC (k+94)).call 867 [.ref I.w] Q X σ:=by
 refine C1 ⟨YL,166,[104],[],pH⟩ rfl rfl <| aE (Wd.wo (by with_reducible assumption)) rfl <| oa W λa aT n1 u1 UR W1 F1 l1 s1 M1 g1 o_=>aE (Wd.wo (by with_reducible assumption)) rfl <| oa W1 λb aV n2 u2 AM W2 F2 l2 s2 M2 g2 o_=>dQ rfl <| aE (Wd.wo (by with_reducible assumption)) rfl <| bw W2 fC λc dq n3 u3 W3 F3 l3 s3 h3=>aE (Wd.wo (by with_reducible assumption)) rfl <| bw W3 fC λd jO n4 u4 W4 F4 l4 s4 h4=> ?_
 have it:∀{σ} {n0 n1 m} {s0 s1 a} {l},NL σ n0 s0 n1 s1 a l->n1<=m->It σ m (.ref a):=λh' h=>by obtain ⟨num,own,it,a1,a2,a3,a4,a5,o_,o_,o_,o_⟩:=h'; exact .r _ 3 _ num a1 (nz rfl) (nz rfl) rfl (Y2 [] [_,_,_] (.L V0 V1) (.L V2 V1) (.L V0 V2) h a5 rfl)
 refine q _ jO n4 u4 W4 (F1.trans (F2.trans (F3.trans F4))) (Y4 [] [_,_,_,_,_] (.L V0 V1) (.T V0 V2) (.T V2 V3) (.T V3 V4) (.T V4 V1) l1 l2 l3 l4 rfl) rfl λv hv=> ?_
 simp at hv
 rcases hv with rfl | rfl | rfl | rfl | rfl | rfl | rfl | rfl
 ·exact .r _ 2 _ _ (F4.get (F3.get (F2.get g1 rfl) rfl) rfl) (nz rfl) (nz rfl) rfl (Y4 [] [_,_,_,_,_] (.L (.a V0 (.n 1)) V1) (.T V0 V2) (.T V2 V3) (.T V3 V4) (.T V4 V1) l1 l2 l3 l4 rfl)
 ·exact .o
 ·exact .r _ 2 _ _ (F4.get (F3.get g2 rfl) rfl) (nz rfl) (nz rfl) rfl (Y3 [] [_,_,_,_] (.L (.a V0 (.n 1)) V1) (.T V0 V2) (.T V2 V3) (.T V3 V1) l2 l3 l4 rfl)
 ·exact .n
 ·exact it (h3.fr rfl F4) (Y1 [] [_,_] (.L V0 V1) (.T V0 V1) l4 rfl)
 ·exact .s
 ·exact it h4 (Y0 [] [_] (.L V0 V0) rfl)
 ·exact .t
theorem DG (h:j < 10):∃s:Nat,s<=4/\[V.int 3,.int 2,.int 1,.int 3,.int 4,.int 2,.int 0,.int 2,.int 3,.int 1][j]? =vi (.int s):=by
 let P:Nat->Prop:=λj=>∃s:Nat,s<=4/\[V.int 3,.int 2,.int 1,.int 3,.int 4,.int 2,.int 0,.int 2,.int 3,.int 1][j]? =vi (.int s)
 have e:∀i s:Nat,s<=4->[V.int 3,.int 2,.int 1,.int 3,.int 4,.int 2,.int 0,.int 2,.int 3,.int 1][i]? =vi (.int s)->P i:=λi s a b=>az s a b
 have c:∀{m},(∀j,j < m->P j)->P m->∀j,j < m+1->P j:=λh p j l=>(Nat.lt_succ_iff_lt_or_eq.mp l).elim (h j) λq=>q▸p
 exact c (c (c (c (c (c (c (c (c (c (λj l=>absurd l (Nat.not_lt_zero j)) (e 0 3 (by decide) rfl)) (e 1 2 (by decide) rfl)) (e 2 1 (by decide) rfl)) (e 3 3 (by decide) rfl)) (e 4 4 (by decide) rfl)) (e 5 2 (by decide) rfl)) (e 6 0 (by decide) rfl)) (e 7 2 (by decide) rfl)) (e 8 3 (by decide) rfl)) (e 9 1 (by decide) rfl) j h
theorem aZ.Mm {r:Ar} {P:Prop} (h:aZ σ r) (k:∀num own eB,σ[r.a]? =vi (cB num own eB r.it)->σ[r.it]? =vi (.list 1 r.l)->P):P:=by
 obtain ⟨a,b,c,d,e⟩:=h
 exact k a b c d e
theorem oT {t:Int} (h0:0<=t) (h1:t < m):∃j:Nat,t=j/\j < m:=(az t.toNat (Y1 [_] [_] (.Q V0 (.c V0)) (.r (.Q (.c V0) V0)) (Nj h0) rfl) (Yt h0 h1))
theorem CB {b:Bool} {im:List V} {most:Nat} (W:Wd I σ n u) (B:kH b bx σ C) (hC:C<=900000)
  (hp:0 < im.length/\im.length<=100) (Im:∀v∈im,It σ n v) (Ny:∀r∈rs,aZ σ r/\It σ n (.ref r.a)/\∀v∈r.l,It σ n v) (zq:rs.length<=100) (hm:most<=4) (hlen:∀r∈rs,r.l.length<=4)
  (q:∀(r:Ar) aa n' u',Wd I aa n' u'->Fr [4] σ aa->kH b bx aa (C+10)->n<=n'->aZ aa r->It aa n' (.ref r.a)->r.l.length<=most->(∀v∈r.l,It aa n' v)->Q (.ref r.a) aa):(CC (k+98)).call 872 [.ref I.w,.ref bx,.lst im,.lst (rs.map λr=> .ref r.a),.int most] Q X σ:=by
 refine C1 ⟨YL,185,[104,5,48,108,43],[],nh⟩ rfl rfl ?_
 refine gG (λaH aa=>∀G_,(∀u',aH 104=vi (.ref I.w)->aH 5=vi (.ref bx)->aH 48=vi (.lst im)->aH 43=vi (.int most)->Wd I aa n u'->Fr [4] σ aa->kH b bx aa (C+2)->G_)->G_) (λN k1 k2 o_ o_=> ?_) ?_
 ·skip
  by_cases hz:rs=[]
  ·exact af hz <| k1 _ _ λG_ k_=>k_ u rfl rfl rfl rfl W (Fr.refl _ _) (B.mono (Y0 [_] [] (.l V0 (.a V0 (.n 2))) rfl))
  ·haveI rX:=ZC.mpr hz
   refine xN (by simp [hz]) <| cr B (Y1 [_] [] (.l V0 (.n 1000000)) (.l V0 (.n 900000)) hC rfl) (Y0 [] [] (.T (.n 0) (.n 5)) rfl) (Y0 [] [] (.L (.n 5) (.n 1000)) rfl) λt aT t0 t1 F1 B1=> ?_
   by_cases ht:t=0
   ·refine xN (decide_eq_true ht) <| cr B1 (Y1 [_] [] (.l (.a V0 (.n 1)) (.n 1000000)) (.l V0 (.n 900000)) hC rfl) (by simp; exact rX) (by simp; exact Y1 [_] [] (.L (.c V0) (.n 1000)) (.l V0 (.n 100)) zq rfl) λt' aV Uw Uv F2 B2=> ?_
    obtain ⟨j,NH,hj⟩:=oT Uw (by simpa using Uv)
    refine af NH ?_
    have Lv:=oC hj
    have ri:=F1.trans F2
    have SG:=((Ny rs[j] (yd _)).1).fr rfl ri.fr
    refine SG.Mm λnum own eB g1 g2=>bA fC (o6 (Y2 [_,_] [] (.t V0 (.n 1000000)) (.l V1 (.n 100)) (.t V0 V1) zq hj rfl) (by simp only [Ou,Lv]; rfl)) ?_
    refine aB (by with_reducible assumption) rfl ?_
    refine dj (bT (by with_reducible assumption)) ?_
    by_cases hle:rs[j].l.length<=most
    ·exact pv (decide_eq_true (Y1 [_,_] [] (.L (.c V0) (.c V1)) (.l V0 V1) hle rfl)) <| (k2 _ _ _).mpr (q rs[j] aV n u (ri.wd W) ri.fr (B2.mono (Y0 [_] [] (.l (.a (.a V0 (.n 1)) (.n 1)) (.a V0 (.n 10))) rfl)) (Lf _) SG (((Ny rs[j] (yd _)).2.1).fr ri.fr (Lf _)) hle λv Gg=>(((Ny rs[j] (yd _)).2.2) v Gg).fr ri.fr (Lf _))
    ·exact iB (decide_eq_false (Y1 [_,_] [] (.o (.L (.c V0) (.c V1))) (.o (.l V0 V1)) hle rfl)) <| k1 _ _ λG_ k_=>k_ u rfl rfl rfl rfl (ri.wd W) ri.fr (B2.mono (Y0 [_] [] (.l (.a (.a V0 (.n 1)) (.n 1)) (.a V0 (.n 2))) rfl))
   ·exact GI (decide_eq_false ht) <| k1 _ _ λG_ k_=>k_ u rfl rfl rfl rfl (F1.wd W) F1.fr (B1.mono (Y0 [_] [] (.l (.a V0 (.n 1)) (.a V0 (.n 2))) rfl))
 refine λen aT DM=>DM _ λu1 e1 e2 e3 e4 W1 F1 B1=>eN e4 <| eN e2 <| cr B1 (Y1 [_] [] (.l (.a V0 (.n 2)) (.n 1000000)) (.l V0 (.n 900000)) hC rfl) (Y0 [] [] (.T (.n 0) (.n 10)) rfl) (Y0 [] [] (.L (.n 10) (.n 1000)) rfl) λt aV t0 t1 F2 B2=>ag (oT (m:=10) t0 t1) λj NH hj=>af NH <| ag (DG hj) λsz c8 P9=>bA fC (o6 (Y2 [_] [_] (.t V0 (.n 1000000)) (.T V0 (.n 10)) (.r (.Q V0 (.c V0))) t1 NH rfl) P9) <| zy (⟨Y0 [] [] (.T (.g (.n 1000000)) (.n 0)) rfl,⟨Y0 [] [] (.T (.n 0) (.n 1000000)) rfl,⟨Int.lt_min.mpr ⟨Y0 [_] [] (.T (.g (.n 1000000)) (.c V0)) rfl,Y0 [_] [] (.T (.g (.n 1000000)) (.c V0)) rfl⟩,Y2 [_] [_] (.T V0 (.n 1000000)) (.l V0 (.n 4)) (.L V0 (.c V0)) hm (af3 _ _) rfl⟩⟩⟩) ?_
 have Lh:min (most:Int) sz=((min most sz:Nat):Int):=HF _ _
 have Gi:min most sz<=most:=(Z4 _ _)
 have W2:=F2.wd W1
 have ri:=F1.trans F2.fr
 refine af Lh ?_
 generalize min most sz=size at*
 revert size; refine qJ ?_; set_option tactic.hygienic false in intros
 refine d9 (λr acc aa=>∀G_,(BF 4 aV aa->r.length+acc.length=size->kH b bx aa (C+3+acc.length)->((∀v∈acc,v∈im))->G_)->G_) (λo_ o_ o_ o_=>rfl) (λv r acc aa N fP h=> ?_) (λacc dq fP=> ?_) _ _ _ (λG_ k_=>k_ (BF.refl _ _) (by simp) (B2.mono (FF _)) (by simp))
 ·refine fP _ λF3 h2 B3 h3=> ?_
  refine eN e3 <| eN e2 <| eN e3 <| cr B3 (Y4 [_,_,_,_,_] [] (.l (.a (.a V0 (.n 3)) V1) (.n 1000000)) (.l V0 (.n 900000)) (.l V2 (.n 4)) (.l V3 V2) (.e (.a (.a V4 (.n 1)) V1) V3) hC hm Gi h2 rfl) (Y1 [_] [] (.T (.n 0) (.c V0)) (.t (.n 0) V0) hp.1 rfl) (Y1 [_] [] (.L (.c V0) (.n 1000)) (.l V0 (.n 100)) hp.2 rfl) λt jO t0 t1 F4 B4=>ag (oT t0 t1) λj' Lu iQ=>af Lu ?_
  have Lv:=oC iQ
  refine bA fC (o6 (Y3 [_,_] [_] (.t V0 (.n 1000000)) (.l V1 (.n 100)) (.T V0 (.c V1)) (.r (.Q V0 (.c V0))) hp.2 t1 Lu rfl) Lv) <| ⟨by unfold bf; exact Y3 [_,_,_,_] [] (.t V0 (.n 100000)) (.l V1 (.n 4)) (.l V2 V1) (.e (.a (.a V3 (.n 1)) V0) V2) hm Gi h2 rfl,h _ _ λG_ k_=>k_ (F3.trans F4) (by simp; exact Y1 [_,_,_] [] (.e (.a V0 (.a V1 (.n 1))) V2) (.e (.a (.a V0 (.n 1)) V1) V2) h2 rfl) (B4.mono (by simp; exact Y0 [_,_] [] (.l (.a (.a (.a V0 (.n 3)) V1) (.n 1)) (.a (.a V0 (.n 3)) (.a V1 (.n 1)))) rfl)) (λv hv=> ?_)⟩
  rcases Zr.mp hv with h | h
  ·exact h3 v h
  ·rw [Zq] at h; refine af h ?_; exact yd _
 ·refine fP _ λF3 h2 B3 h3=> ?_
  simp at h2
  have h2:=h2
  have W3:=F3.wd W2
  have M9:=ri.trans F3.fr
  refine eN e1 <| aE (Wd.wo (by with_reducible assumption)) rfl <| bw W3 fC λa jO n4 u4 W4 F4 l4 s4 h4=> ?_
  have x0:=M9.trans (F4.mono (by simp))
  refine gG (λaH aa=>∀G_,(∀a' num own eB it n' u',aH 5=vi (.ref bx)->aH 102=vi (.ref a')->Wd I aa n' u'->Fr [4] σ aa->n<=n'->num<=n'->kH b bx aa (C+8)->aa[a']? =vi (cB num own eB it)->aa[it]? =vi (.list 1 acc)->σ.length<=a'->G_)->G_) (λN k1 o_ o_ o_=> ?_) ?_
  ·refine eN e2 <| cr ((B3.mono (by exact Y3 [_,_,_,_] [] (.l (.a (.a V0 (.n 3)) V1) (.a V0 (.n 7))) (.l V2 (.n 4)) (.l V3 V2) (.e V1 V3) hm Gi h2 rfl)).fr rfl F4) (Y1 [_] [] (.l (.a V0 (.n 7)) (.n 1000000)) (.l V0 (.n 900000)) hC rfl) (Y0 [] [] (.T (.n 0) (.n 5)) rfl) (Y0 [] [] (.L (.n 5) (.n 1000)) rfl) λt kJ t0 t1 F5 B5=> ?_
   by_cases ht:t=0
   ·refine pv (decide_eq_true ht) <| eN (by assumption) <| eN (by assumption) ?_
    have W5:=F5.wd W4
    refine aE (Wd.wo (by with_reducible assumption)) rfl <| eN e1 <| aE (Wd.wo (by with_reducible assumption)) rfl <| eN e1 <| aE (Wd.wo (by with_reducible assumption)) rfl <| bW (by decide+kernel) W5 λm pQ n6 u6 W6 F6 l6 s6 M6 o_ o_=>pX W6 M6 λr C8 n7 u7 num own W7 F7 l7 g7 M7=>zL W7 g7 M7 λrl W8 F8=> ?_
    have W9:=(W8.push [.list 1 []]).push [cB (n7+1) r Q1 rl.length]
    have F9:=(Fr.push [] rl [O.list 1 []]).trans (Fr.push [] _ [cB (n7+1) r Q1 rl.length])
    have z1:=aA (mV rl (O.list 1 [])) [cB (n7+1) r Q1 rl.length]
    have z2:=mV (rl++ [O.list 1 []]) (cB (n7+1) r Q1 rl.length)
    have L8:σ.length<=rl.length:=by
     have q1:=x0.len; have q2:=F5.len; have q3:=F6.len; have q4:=F7.len; have q5:=F8.len; exact Y5 [_,_,_,_,_,_] [] (.l V0 V1) (.l V0 V2) (.r (.e V3 V2)) (.l V3 V4) (.l V4 V5) (.l V5 V1) q1 q2 q3 q4 q5 rfl
    refine ir W9 z2 rfl rfl z1 (by simp; exact Y3 [_,_,_] [] (.l V0 (.n 20000)) (.l V1 (.n 4)) (.l V2 V1) (.e V0 V2) hm Gi h2 rfl) <| k1 _ _ λG_ k_=>k_ _ (n7+1) r Q1 rl.length (n7+1) u7 e2 rfl (W9.cu z1 _) ((x0.trans (F5.fr.trans ((F6.trans (F7.trans (F8.trans F9))).mono (by simp)))).du L8) (Y3 [] [_,_,_,_] (.L V0 (.a V1 (.n 1))) (.T V0 V2) (.L V2 V3) (.L V3 V1) l4 l6 l7 rfl) (Y0 [] [_] (.L (.a V0 (.n 1)) (.a V0 (.n 1))) rfl) ?_ (ak z2 z1 (by simp)) (aP z1 _) (by simp; exact Y1 [_,_] [] (.l V0 (.a V1 (.n 1))) (.l V0 V1) L8 rfl)
    obtain ⟨g,s,c,z,h,OG,OF,OE,OD,OC⟩:=(B5.fr rfl (F6.trans (F7.trans (F8.trans F9))))
    exact ⟨g,s,c,z,(ak h z1 (by simp)),OG,OF,OE,OD,OC⟩
   ·refine iB (decide_eq_false ht) ?_
    obtain ⟨num,own,it,a1,a2,a3,a4,a5,a6,a7,a8,a9⟩:=h4
    exact k1 _ _ λG_ k_=>k_ a num own Q1 it n4 u4 e2 rfl (F5.wd W4) (x0.trans F5.fr) (Y1 [] [_,_] (.L V0 V1) (.T V0 V1) l4 rfl) a5 B5 (F5.same _ _ a1 (by simp)) (F5.same _ _ a3 (by simp)) (Y2 [_,_,_] [] (.l V0 V1) (.l V0 V2) (.l V2 V1) M9.len a8 rfl)
  refine λaH kJ ph=>ph _ λa' num own eB it n5 u5 f1 f2 W5 F5 l5 U5 B5 g5 g6 la=>eN f1 <| cr B5 (Y1 [_] [] (.l (.a V0 (.n 8)) (.n 1000000)) (.l V0 (.n 900000)) hC rfl) (Y0 [] [] (.T (.n 0) (.n 4)) rfl) (Y0 [] [] (.L (.n 4) (.n 1000)) rfl) λt pQ t0 t1 F6 B6=> ?_
  have g7:=F6.same _ _ g5 (by simp)
  refine eN (by with_reducible assumption) <| zw (by with_reducible assumption) rfl (vd rfl) <| eN (by with_reducible assumption) ?_
  have F7:Fr [4] σ (pQ.set a' (cB num own (decide (t=0)) it)):=(F5.trans F6.fr).du la
  refine q ⟨a',it,acc⟩ _ n5 u5 ((F6.wd W5).setThing g7 (of_decide_eq_true rfl) (of_decide_eq_true rfl) _) F7 ?_ l5 ⟨num,own,_,(aP g7 _),(ak (F6.same _ _ g6 (by simp)) g7 (by simp))⟩ (.r a' 3 _ num (aP g7 _) (nz rfl) (nz rfl) rfl U5) (by simp; exact Y2 [_,_,_] [] (.l V0 V1) (.l V2 V1) (.e V0 V2) Gi h2 rfl) λv hv=>(Im v (h3 v hv)).fr F7 l5
  obtain ⟨g,s,c,z,h,b1,b2,b3,b4,b5⟩:=B6.mono (show C+9<=C+10 by exact Y0 [_] [] (.l (.a V0 (.n 9)) (.a V0 (.n 10))) rfl)
  exact ⟨g,s,c,z,(ak h g7 (by simp)),b1,b2,b3,b4,b5⟩
noncomputable def PR (ls:List (List V)):List (List V):=sC [[]] ls
theorem Fm (rows:List (List V)) (ls:List (List V)) l:sC rows (ls++ [l])=fg (sC rows ls) l:=by
 unfold sC; refine af ab4 ?_; rfl
theorem iF (ls:List (List V)) l:PR (ls++ [l])=fg (PR ls) l:=Fm _ _ _
theorem Fn l (ls:List (List V)):PR (l::ls)=sC (l.map λv=> [v]) ls:=by
 have:fg [[]] l=l.map λv=> [v]:=by simp [fg]
 refine (?_:sC (fg [[]] l) ls=_)
 rw [this]
theorem fK {P:List α->Prop} (h0:P []) (h1:∀l a,P l->P (l++ [a])):∀l,P l:=by
 intro l
 have:∀r:List α,P r.reverse:=by
  intro r
  induction r with
  | nil=>exact h0
  | cons a r ih=>refine af List.reverse_cons ?_; exact h1 _ _ ih
 have:=this l.reverse
 rwa [List.reverse_reverse] at this
theorem eh (ls:List (List V)):∀row∈PR ls,row.length=ls.length:=by
 induction ls using fK with
 | h0=>simp [PR,sC]
 | h1 ls l ih=>
  rw [iF]
  intro row h
  refine ag (ZN.mp h) λr hr h=>ag (vo.mp h) λv o_ q1=>bD q1 ?_
  simp only [IQ,IQ,ih r hr]; rfl
theorem wM (ls:List (List V)):∀row∈PR ls,∀v∈row,∃l∈ls,v∈l:=by
 induction ls using fK with
 | h0=>simp [PR,sC]
 | h1 ls l ih=>
  rw [iF]
  intro row h v hv
  refine ag (ZN.mp h) λr hr h=>ag (vo.mp h) λw hw q1=> ?_
  subst q1
  rcases Zr.mp hv with hv | hv
  ·exact ag (ih r hr v hv) λl' h1 h2=>az l' (by simp [h1]) h2
  ·rw [Zq] at hv; refine af hv ?_
   exact az l (by simp) hw
theorem IW f (ls:List (List V)):(PR ls).map (ag6 f)=PR (ls.map (ag6 f)):=by
 induction ls using fK with
 | h0=>rfl
 | h1 ls l ih=>
  rw [iF,Oq,ZG,iF,<-ih]
  unfold fg
  simp only [ZF,Zz]
  simp [Zw]
theorem wN (ls:List (List V)):(PR ls).length=AI 1 (ls.map N8):=by
 unfold PR; rw [oq]; rfl
theorem cN {α β:Type} {l:List α} {f g:α->List β} (h:∀x∈l,f x=g x):l.flatMap f=l.flatMap g:=by
 induction l with
 | nil=>rfl
 | cons a l ih=>rw [Ul,Ul,h a (.head _),ih λx hx=>h x (.tail _ hx)]
theorem r9 {α:Type} {l r:List α} {d:α} (h:j < l.length):(l++r).getD j d=l.getD j d:=by
 rw [js,Xq h,<-js]
theorem r8 {α:Type} {l:List α} {x d:α} (h:l.length=j):(l++ [x]).getD j d=x:=by
 subst h
 rw [js,Zh (FF _)]; simp
noncomputable def wh (n:Nat):List V:=(Hj n).map λ(i:Nat)=>V.int (i:Int)
noncomputable def lA:List Nat->Nat->List V->List V
 | []=>λo_ row=>row
 | s::r=>λleft row=>lA r (left / s) (.int (left % s:Nat)::row)
theorem py:∀(r:List Nat) (left:Nat) (row:List V),lA r left row=lA r left []++row
 | []=>λo_ row=>rfl
 | s::r=>λleft row=>by
  refine (?_:lA r (left / s) (.int (left % s:Nat)::row)=lA r (left / s) (.int (left % s:Nat):: [])++row)
  rw [py r _ (_::row),py r _ [_],ab3]; rfl
theorem yx {β:Type} (g:Nat->β) (m n:Nat):(Hj (m*n)).map g=(Hj m).flatMap λa=>(Hj n).map λb=>g (a*n+b):=by
 induction m with
 | zero=>simp
 | succ m ih=>
  simp only [aa6,List.range_add,Oq,ih,ac5,List.flatMap_append]
  simp [Zw]
noncomputable def cL (l:List Nat):Nat:=l.foldl (·*·) 1
theorem oM:∀(l:List Nat) (m:Nat),AI m l=l.foldl (·*·) m
 | []=>λo_=>rfl
 | s::r=>λm=>oM r _
theorem lX (l:List Nat) (n:Nat):cL (l++ [n])=cL l*n:=by
 unfold cL; refine af ab4 ?_; rfl
theorem EG b9:(Hj (cL b9)).map (λs=>lA b9.reverse s [])=PR (b9.map wh):=by
 induction b9 using fK with
 | h0=>rfl
 | h1 l n ih=>
  rw [lX,yx,Oq,ZG,iF,<-ih]
  unfold fg
  rw [Zz]
  refine cN λa ha=> ?_
  unfold wh
  simp only [Fk]
  refine Um λb hb=> ?_
  have yT:b < n:=by simpa using hb
  refine af List.reverse_append ?_
  show lA l.reverse ((a*n+b)/ n) (.int ((a*n+b)% n:Nat):: [])=_
  rw [py]
  haveI h1:(a*n+b)/ n=a:=by
   rw [Z',Nat.add_mul_div_right _ _ (by exact Y1 [_,_] [] (.t (.n 0) V0) (.t V1 V0) yT rfl),Nat.div_eq_of_lt yT]; simp
  haveI h2:(a*n+b)% n=b:=by
   simp only [Z',Nat.add_mul_mod_self_right,Nat.mod_eq_of_lt yT]
  rw [h1,h2]; rfl
noncomputable def Ov:V->Nat
 | .int i=>i.toNat
 | _=>0
noncomputable def yf (held:List (List V)) (row:List V):List V:=(Hj held.length).map λj=>(held.getD j []).getD (Ov (row.getD j .none)) .none
theorem Dk (held:List (List V)):(PR (held.map λh=>wh h.length)).map (yf held)=PR held:=by
 induction held using fK with
 | h0=>rfl
 | h1 hs h ih=>
  rw [Oq,ZG,iF,iF,<-ih]
  unfold fg
  simp only [ZF,Zz]
  refine cN λrow gY=> ?_
  have hl:row.length=hs.length:=by simp only [eh _ row gY,vk]
  unfold wh
  simp only [Fk,Fk]
  have:h=(Hj h.length).map λi=>h.getD i .none:=by
   refine ZO (by simp) λi h1 h2=> ?_
   simp [js,h1]
  conv=>rhs; rw [this,Fk]
  refine Um λi hi=>(?_:yf (hs++ [h]) (row++ [V.int i])=yf hs row++ [h.getD i .none])
  unfold yf
  simp only [IQ,Zx,ac5,Oq]
  congr 1
  ·refine Um λj hj=> ?_
   have iQ:j < hs.length:=by simpa using hj
   rw [r9 iQ,r9 (show j < row.length by exact Y2 [_,_,_] [] (.t V0 V1) (.r (.e V1 V2)) (.t V0 V2) hl iQ rfl)]
  ·rw [ZG,r8 rfl,r8 hl]; simp [show ∀i,Ov (.int i)=i.toNat from λo_=>rfl]
noncomputable def eG (held:List (List V)) (j:Nat):Nat->Nat
 | 0=>1
 | k+1=>if j < k then eG held j k*(held.getD k []).length else eG held j k
noncomputable def cC (held:List (List V)) (j:Nat):Nat->Nat
 | 0=>1
 | k+1=>if k < j then cC held j k*(held.getD k []).length else cC held j k
noncomputable def sr (held:List (List V)) (j:Nat):List V:=(Hj (cC held j held.length)).flatMap λo_=>(held.getD j []).flatMap λm=>(Hj (eG held j held.length)).map λo_=>m
theorem lowN_s (held:List (List V)) (j k:Nat):eG held j (k+1)=if j < k then eG held j k*(held.getD k []).length else eG held j k:=rfl
theorem highN_s (held:List (List V)) (j k:Nat):cC held j (k+1)=if k < j then cC held j k*(held.getD k []).length else cC held j k:=rfl
theorem tM (held:List (List V)) (h:List V) (j:Nat):∀k,k<=held.length->eG (held++ [h]) j k=eG held j k
 | 0=>λo_=>rfl
 | k+1=>λhk=>by
  rw [lowN_s,lowN_s,tM held h j k (Y1 [_,_] [] (.l V0 V1) (.l (.a V0 (.n 1)) V1) hk rfl),js,Xq (by exact Y1 [_,_] [] (.t V0 V1) (.l (.a V0 (.n 1)) V1) hk rfl),<-js]
theorem mC (held:List (List V)) (h:List V) (j:Nat):∀k,k<=held.length->cC (held++ [h]) j k=cC held j k
 | 0=>λo_=>rfl
 | k+1=>λhk=>by
  rw [highN_s,highN_s,mC held h j k (Y1 [_,_] [] (.l V0 V1) (.l (.a V0 (.n 1)) V1) hk rfl),js,Xq (by exact Y1 [_,_] [] (.t V0 V1) (.l (.a V0 (.n 1)) V1) hk rfl),<-js]
theorem qM (held:List (List V)):∀k,k<=held.length->∀j,k<=j->cC held j k=AI 1 ((held.take k).map N8)
 | 0=>λo_ o_ o_=>rfl
 | k+1=>λhk j hj=>by
  rw [highN_s,if_pos (by exact Y1 [_,_] [] (.t V0 V1) (.l (.a V0 (.n 1)) V1) hj rfl),qM held k (Y1 [_,_] [] (.l V0 V1) (.l (.a V0 (.n 1)) V1) hk rfl) j (Y1 [_,_] [] (.l V0 V1) (.l (.a V0 (.n 1)) V1) hj rfl),ZK ‹_›,Oq,oM,oM,ab4]
  simp [js,oC (show k < held.length by exact Y1 [_,_] [] (.t V0 V1) (.l (.a V0 (.n 1)) V1) hk rfl)]
theorem tL (held:List (List V)) (j:Nat):∀k,k<=j+1->eG held j k=1
 | 0=>λo_=>rfl
 | k+1=>λhk=>by
  rw [lowN_s,if_neg (by exact Y1 [_,_] [] (.o (.t V0 V1)) (.l (.a V1 (.n 1)) (.a V0 (.n 1))) hk rfl),tL held j k (Y1 [_,_] [] (.l V0 (.a V1 (.n 1))) (.l (.a V0 (.n 1)) (.a V1 (.n 1))) hk rfl)]
theorem za {β:Type} (b:β) (l:List V):l.map (λo_=>b)=R6 l.length b:=by
 induction l with
 | nil=>rfl
 | cons a l ih=>simp [aa5,ih]
theorem qp {β:Type} (b:β) (n:Nat):(Hj n).map (λo_=>b)=R6 n b:=by
 refine ZO (by simp) λi h1 h2=>by simp
theorem DK {β:Type} (b:β) (m n:Nat):(R6 m b).flatMap (λx=>R6 n x)=R6 (m*n) b:=by
 induction m with
 | zero=>simp
 | succ m ih=>rw [aa5,Ul,ih,aa6,List.replicate_append_replicate,Z']
theorem Fb (held:List (List V)):∀j,j < held.length->(PR held).map (λrow=>row.getD j .none)=sr held j:=by
 induction held using fK with
 | h0=>intro j hj; simp at hj
 | h1 hs h ih=>
  intro j hj
  rw [IQ,Zx] at hj
  rw [iF]
  unfold fg
  refine af ZF ?_
  unfold sr
  simp only [IQ,Zx]
  rcases ae3 j hs.length with iQ | iQ
  ·haveI e1:cC (hs++ [h]) j (hs.length+1)=cC hs j hs.length:=by
    refine (?_:(if hs.length < j then _ else cC (hs++ [h]) j hs.length)=_)
    rw [if_neg (by exact Y1 [_,_] [] (.o (.t V0 V1)) (.t V1 V0) iQ rfl),mC _ _ _ _ (FF _)]
   haveI e2:eG (hs++ [h]) j (hs.length+1)=eG hs j hs.length*h.length:=by
    refine (?_:(if j < hs.length then eG (hs++ [h]) j hs.length*((hs++ [h]).getD hs.length []).length else _)=_)
    rw [if_pos iQ,tM _ _ _ _ (FF _),js,Zh (FF _)]; simp
   haveI e3:(hs++ [h]).getD j []=hs.getD j []:=by
    rw [js,Xq iQ,<-js]
   simp only [e1,e2,e3]
   haveI lhs:(PR hs).flatMap (λrow=>(h.map λit=>row++ [it]).map λrow=>row.getD j .none)=((PR hs).map λrow=>row.getD j .none).flatMap λm=>R6 h.length m:=by
    simp only [Zz]
    refine cN λrow gY=> ?_
    rw [Fk,<-za]
    refine Um λit o_=>(?_:(row++ [it]).getD j .none=_)
    rw [js,Xq (by exact Y2 [_,_,_] [] (.t V0 V1) (.t V0 V2) (.r (.e V1 V2)) iQ (eh _ row gY) rfl),<-js]
   simp only [lhs,ih j iQ]
   unfold sr
   refine af ad7 <| cN λo_ o_=> ?_
   simp only [ad7]
   refine cN λm o_=> ?_
   simp only [qp,qp,DK]
  ·haveI uZ:j=hs.length:=ZJ (Y1 [_,_] [] (.l V0 V1) (.t V0 (.a V1 (.n 1))) hj rfl) iQ
   refine af uZ ?_
   haveI e1:cC (hs++ [h]) hs.length (hs.length+1)=(PR hs).length:=by
    refine (?_:(if hs.length < hs.length then _ else cC (hs++ [h]) hs.length hs.length)=_)
    rw [if_neg (by exact Y0 [_] [] (.o (.t V0 V0)) rfl),mC _ _ _ _ (FF _),qM _ _ (FF _) _ (FF _),aa1,wN]
   have e2:eG (hs++ [h]) hs.length (hs.length+1)=1:=tL _ _ _ (FF _)
   haveI e3:(hs++ [h]).getD hs.length []=h:=by
    rw [js,Zh (FF _)]; simp
   simp only [e1,e2,e3]
   have:∀rows:List (List V),(∀row∈rows,row.length=hs.length)->rows.flatMap (λrow=>(h.map λit=>row++ [it]).map λrow=>row.getD hs.length .none)=(Hj rows.length).flatMap λo_=>h.flatMap λm=>(Hj 1).map λo_=>m:=by
    intro rows
    induction rows with
    | nil=>intro _; rfl
    | cons r rows Vs=>
     intro hr
     simp only [Ul,Vs λx hx=>hr x (.tail _ hx),ZD,show Hj (rows.length+1)=0::(Hj rows.length).map Nat.succ from List.range_succ_eq_map,Ul,Zz]
     congr 1
     have hl:=hr r (.head _)
     refine af Fk ?_
     have:∀l:List V,l.flatMap (λm=>(Hj 1).map λo_=>m)=l:=λl=>by
      induction l with
      | nil=>rfl
      | cons a l ih=>simp only [Ul,ih]; rfl
     simp only [this]
     conv=>rhs; rw [<-List.map_id h]
     refine Um λit o_=>(?_:(r++ [it]).getD hs.length .none=it)
     rw [js,Zh (by exact Y1 [_,_] [] (.l V0 V1) (.e V0 V1) hl rfl),hl]; simp
   exact this (PR hs) (eh hs)
theorem BO (a b:Nat):(a:Int).fmod b=((a % b:Nat):Int):=by
 rw [YM _ (by exact Y0 [_] [] (.L (.n 0) (.c V0)) rfl)]; rfl
theorem ug (a b:Nat):(a:Int).fdiv b=((a / b:Nat):Int):=by
 rw [aa9 _ (by exact Y0 [_] [] (.L (.n 0) (.c V0)) rfl)]; rfl
theorem jV:∀(l:List Nat) (m:Nat),0 < l.foldl (·*·) m->0 < m/\∀s∈l,0 < s
 | []=>λm h=>⟨h,λo_ h=>by cases h⟩
 | a::l=>λm h=>by
  refine dP (jV l (m*a) h) λh1 h2=> ?_
  have ha:0 < a:=ab0 λe=>by subst e; simp at h1
  exact ⟨(ab0 λe=>by subst e; simp at h1),λs hs=>by
   refine mh (ZV.mp hs) ?_ λhs=> ?_
   ·exact ha
   ·exact h2 s hs⟩
set_option tactic.hygienic true in
theorem EF {b9:List Nat} (hz:∀s∈b9,s<=100) (hl:b9.length<=100) (hp:cL b9<=20000)
  (q:Q (.ref σ.length) (σ++ [.list 5 ((PR (b9.map wh)).map .lst)])):(CC (k+3)).call 891 [.lst (b9.map λ(s:Nat)=> .int (s:Int))] Q X σ:=by
 refine C1 ⟨YL,164,[98],[],pJ⟩ rfl rfl <| dQ rfl <| aS (λr en aa=>∀G_,(aa=σ++ [.list 5 []]->en 98=vi (.lst (b9.map λ(s:Nat)=> .int s))->en 29=vi (.ref σ.length)->∀ss (m:Nat),r=(ss.map λ(s:Nat)=>V.int s)->((∀s∈ss,s∈b9))->en 40=vi (.int m)->ss.foldl (·*·) m=cL b9->G_)->G_)
  (λ_ _ _ _=>rfl) (λv r en aa N fP h3 h4 h5=> ?_) (λen aa fP=> ?_) _ _ _ (λG_ k_=>k_ rfl rfl rfl b9 1 rfl (λ_ h=>h) rfl rfl)
 ·refine fP _ λeS e1 e2 ss m hr hm e3 hf=>af eS ?_
  cases ss with
  | nil=>cases hr
  | cons s ss=>
   injection hr with q1 q2
   refine af q1 ?_; subst q2
   have:=hz s (hm s (.head _))
   refine eN e3 <| iA (.inr (Y1 [_] [] (.t V0 (.n 18446744073709551616)) (.l V0 (.n 100)) this rfl)) <| dR ?_; intro BY
   exact h3 _ _ λG_ k_=>k_ rfl e1 e2 ss (m*s) rfl (λx h=>hm x (.tail _ h)) rfl hf
 refine fP _ λeS e1 e2 ss m hr hm e3 hf=>af eS ?_
 have:ss=[]:=by simpa using hr.symm
 subst this
 have Jj:=hf
 refine eN e3 <| pw (⟨Y0 [] [] (.T (.g (.n 1000000)) (.n 0)) rfl,⟨Y0 [] [] (.T (.n 0) (.n 1000000)) rfl,⟨Y0 [_] [] (.T (.g (.n 1000000)) (.c V0)) rfl,Y2 [_,_] [] (.T (.c V0) (.n 1000000)) (.l V1 (.n 20000)) (.e V0 V1) hp Jj rfl⟩⟩⟩) ?_
 rw [db]
 refine aS (λr en aa=>∀G_,(en 98=vi (.lst (b9.map λ(s:Nat)=> .int s))->en 29=vi (.ref σ.length)->∀i,i<=m->r=((Hj m).drop i).map (λ(s:Nat)=>V.int s)->aa=σ++ [.list 5 ((Hj i).map λs=> .lst (lA b9.reverse s []))]->G_)->G_)
  (λ_ _ _ _=>rfl) (λv r N4 aa N fP h3 h4 h5=> ?_) (λN4 aa fP=> ?_) _ _ _ (λG_ k_=>k_ e1 e2 0 (Z8 _) rfl rfl)
 ·refine fP _ λf1 f2 i hi ca Hi=>af Hi ?_
  have jf:i < m:=by
   have:=congrArg N8 ca; simp at this; exact Y1 [_,_,_] [] (.t V0 V1) (.e (.a (.a V2 (.n 1)) V0) V1) (Yb this) rfl
  rw [ZH (by simpa using jf),ZL] at ca
  injection ca with q1 q2
  simp only [Z5] at q1
  refine af q1 ?_; subst q2
  refine dQ rfl <| eN f1 <| aS (λr en aa=>∀G_,(aa=σ++ [.list 5 ((Hj i).map λs=> .lst (lA b9.reverse s []))]->en 98=vi (.lst (b9.map λ(s:Nat)=> .int s))->en 29=vi (.ref σ.length)->∀ss (left:Nat) row,r=(ss.map λ(s:Nat)=>V.int s)->((∀s∈ss,s∈b9))->en 37=vi (.int left)->en 18=vi (.lst row)->lA ss left row=lA b9.reverse i []->row.length+ss.length<=100->G_)->G_)
   (λ_ _ _ _=>rfl) (λv r en aa N' fP k3 k4 k5=> ?_) (λen aa fP=> ?_) _ _ _ (λG_ k_=>k_ rfl f1 f2 b9.reverse i ([]) List.map_reverse.symm (λs h=>by simpa using h) rfl rfl rfl (by simpa using hl))
  ·refine ax λG_ ae=>fP _ λeS g1 g2 ss left row hr hm g3 g4 hd hlen=> ?_
   subst eS
   refine ae ?_
   cases ss with
   | nil=>cases hr
   | cons s ss=>
    injection hr with q1 q2
    refine af q1 ?_; subst q2
    have Gi:=((jV b9 1 (by show 0 < cL b9; exact Y2 [_,_,_] [] (.t (.n 0) V0) (.e V1 V0) (.t V2 V1) Jj jf rfl)).2) s (hm s (.head _))
    have Ij:=hz s (hm s (.head _))
    refine eN g3 <| mG (Y1 [_] [] (.o (.Q (.c V0) (.n 0))) (.t (.n 0) V0) Gi rfl) (Y1 [_] [] (.t V0 (.n 4611686018427387904)) (.l V0 (.n 100)) Ij rfl) <| eN g4 <| iI (by simp; unfold bf; exact Y1 [_,_] [] (.l (.a (.n 1) V0) (.n 100000)) (.l (.a V0 (.a V1 (.n 1))) (.n 100)) hlen rfl) <| eN g3 <| EZ (Y1 [_] [] (.o (.Q (.c V0) (.n 0))) (.t (.n 0) V0) Gi rfl) (Y1 [_] [] (.t V0 (.n 4611686018427387904)) (.l V0 (.n 100)) Ij rfl) <| dR ?_; intro Re
    refine k3 _ _ λG_ k_=>k_ rfl g1 g2 ss (left / s) (.int (left % s:Nat)::row) rfl (λx h=>hm x (.tail _ h)) (congrArg (λi=>vi (V.int i)) (ug _ _)) (by rw [<-BO]; rfl) hd (by simp; exact Y1 [_,_] [] (.l (.a (.a V0 (.n 1)) V1) (.n 100)) (.l (.a V0 (.a V1 (.n 1))) (.n 100)) hlen rfl)
  ·refine ax λG_ ae=>fP _ λeS g1 g2 ss left row hr hm g3 g4 hd hlen=> ?_
   subst eS
   have:ss=[]:=by simpa using hr.symm
   subst this
   have CY:row=lA b9.reverse i []:=hd
   exact ae <| eN g2 <| y0 (mV _ _) <| eN g4 <| Ca (by simp only [ac5,Oq,CY]; rfl) (by simp; unfold bf; exact Y3 [_,_,_] [] (.t V0 (.n 100000)) (.l V1 (.n 20000)) (.e V2 V1) (.t V0 V2) hp Jj jf rfl) <| h3 _ _ λG_ k_=>k_ g1 g2 (i+1) jf rfl rfl
 ·refine fP _ λf1 f2 i hi ca Hi=>af Hi ?_
  haveI jf:i=m:=by
   have:=congrArg N8 ca; simp at this; exact ZJ hi ((Ya this))
  refine af jf <| eN f2 ?_
  rw [<-EG,<-Jj,Fk] at q
  exact q
theorem xm (h:∀l∈held,l.length<=4) (j:Nat):∀k,k<=held.length->eG held j k<=4^k
 | 0=>λo_=>FF 1
 | k+1=>λhk=>by
  rw [lowN_s]
  have ih:=xm h j k (Y1 [_,_] [] (.l V0 V1) (.l (.a V0 (.n 1)) V1) hk rfl)
  haveI hh:(held.getD k []).length<=4:=by
   rw [js,oC (by exact Y1 [_,_] [] (.t V0 V1) (.l (.a V0 (.n 1)) V1) hk rfl)]
   exact h _ (yd _)
  have:eG held j k*(held.getD k []).length<=4^k*4:=ZY ih hh
  split
  ·exact this
  ·exact ZR ih (ZZ (by decide) (ae9 k))
theorem uc (h:∀l∈held,l.length<=4) (j:Nat):∀k,k<=held.length->cC held j k<=4^k
 | 0=>λo_=>FF 1
 | k+1=>λhk=>by
  rw [highN_s]
  have ih:=uc h j k (Y1 [_,_] [] (.l V0 V1) (.l (.a V0 (.n 1)) V1) hk rfl)
  haveI hh:(held.getD k []).length<=4:=by
   rw [js,oC (by exact Y1 [_,_] [] (.t V0 V1) (.l (.a V0 (.n 1)) V1) hk rfl)]
   exact h _ (yd _)
  have:cC held j k*(held.getD k []).length<=4^k*4:=ZY ih hh
  split
  ·exact this
  ·exact ZR ih (ZZ (by decide) (ae9 k))
set_option tactic.hygienic true in
theorem zc (hj:j < held.length) (hl:held.length<=4) (h4:∀l∈held,l.length<=4) (hc:(sr held j).length<=20000)
  (q:Q (.lst (sr held j)) σ):(CC (k+3)).call 896 [.lst (held.map .lst),.int j] Q X σ:=by
 refine C1 ⟨YL,197,[30,0],[],lI⟩ rfl rfl <| dQ rfl <| dR ?_; intro BY
 refine pw (by rw [vk]; exact ⟨Y0 [] [] (.T (.g (.n 1000000)) (.n 0)) rfl,⟨Y0 [] [] (.T (.n 0) (.n 1000000)) rfl,⟨Y0 [_] [] (.T (.g (.n 1000000)) (.c V0)) rfl,Y1 [_] [] (.T (.c V0) (.n 1000000)) (.l V0 (.n 4)) hl rfl⟩⟩⟩) ?_
 have hh:∀i,i < held.length->held[i]? =vi (held.getD i []):=λi hi=>by
  rw [js,oC hi]; rfl
 haveI WP:∀i,i < held.length->(held.getD i []).length<=4:=λi hi=>by
  rw [js,oC hi]
  exact h4 _ (yd _)
 rw [vk,db]
 refine aS (λr en aa=>∀G_,(σ=aa->en 30=vi (.lst (held.map .lst))->en 0=vi (.int j)->∀i,i<=held.length->r=((Hj held.length).drop i).map (λ(s:Nat)=>V.int s)->en 12=vi (.int (eG held j i))->en 32=vi (.int (cC held j i))->G_)->G_)
  (λ_ _ _ _=>rfl) (λv r en aa N fP h3 h5 h6=> ?_) (λen aa fP=> ?_) _ _ _ (λG_ k_=>k_ rfl rfl rfl 0 (Z8 _) rfl rfl rfl)
 ·refine fP _ λeS e1 e2 i hi ca e3 e4=>bD eS ?_
  have jf:i < held.length:=by
   have:=congrArg N8 ca; simp at this; exact Y1 [_,_,_] [] (.t V0 V1) (.e (.a (.a V2 (.n 1)) V0) V1) (Yb this) rfl
  rw [ZH (by simpa using jf),ZL] at ca
  injection ca with q1 q2
  simp only [Z5] at q1
  refine af q1 ?_; subst q2
  have QV:=WP i jf
  have CX:=hh i jf
  generalize hL:held.getD i []=L at CX QV
  refine gG (λaH cz=>σ=cz/\aH=(en.set 1 (.int i)).set 12 (.int (eG held j (i+1):Nat))) (λN' k1 _ _ _=> ?_) ?_
  ·by_cases hc:j < i
   ·refine eN e2 <| fV (decide_eq_true (Y1 [_,_] [] (.T (.c V0) (.c V1)) (.t V0 V1) hc rfl)) <| eN e3 <| eN e1 <| bA fC (o6 (Y2 [_,_] [] (.t V0 (.n 1000000)) (.l V1 (.n 4)) (.t V0 V1) hl jf rfl) (by rw [Ou,CX]; rfl)) ?_
    refine iA (.inr (Y1 [_] [] (.t V0 (.n 18446744073709551616)) (.l V0 (.n 4)) QV rfl)) ?_
    refine k1 _ _ ⟨rfl,?_⟩
    rw [show eG held j (i+1)=eG held j i*L.length from by rw [<-hL]; exact if_pos hc]; rfl
   ·refine eN e2 <| gk (decide_eq_false (Y1 [_,_] [] (.o (.T (.c V0) (.c V1))) (.o (.t V0 V1)) hc rfl)) <| eN e3 <| k1 _ _ ⟨rfl,?_⟩
    exact af (show eG held j (i+1)=eG held j i from if_neg hc) rfl
  rintro _ _ ⟨rfl,rfl⟩
  by_cases hc:i < j
  ·refine eN e2 <| fV (decide_eq_true (Y1 [_,_] [] (.T (.c V0) (.c V1)) (.t V0 V1) hc rfl)) <| eN e4 <| eN e1 <| bA fC (o6 (Y3 [_,_,_] [] (.t V0 (.n 1000000)) (.t V1 V2) (.l V2 (.n 4)) (.t V0 V1) hj hl hc rfl) (by rw [Ou,CX]; rfl)) ?_
   refine iA (.inr (Y1 [_] [] (.t V0 (.n 18446744073709551616)) (.l V0 (.n 4)) QV rfl)) ?_
   refine h3 _ _ λG_ k_=>k_ rfl e1 e2 (i+1) jf rfl rfl ?_
   rw [show cC held j (i+1)=cC held j i*L.length from by rw [<-hL]; exact if_pos hc]; rfl
  ·refine eN e2 <| gk (decide_eq_false (Y1 [_,_] [] (.o (.T (.c V0) (.c V1))) (.o (.t V0 V1)) hc rfl)) <| eN e4 <| h3 _ _ λG_ k_=>k_ rfl e1 e2 (i+1) jf rfl rfl <| af (show cC held j (i+1)=cC held j i from if_neg hc) ?_; rfl
 ·refine ax λG_ ae=>fP _ λeS e1 e2 i hi ca e3 e4=> ?_
  subst eS
  haveI jf:i=held.length:=by
   have:=congrArg N8 ca; simp at this; exact ZJ hi ((Ya this))
  subst jf
  have p4:=ZZ (Y0 [] [] (.t (.n 0) (.n 4)) rfl) hl
  have b1:=xm h4 j held.length (FF _)
  have b2:=uc h4 j held.length (FF _)
  have SW:=hh j hj
  refine ae <| eN e4 <| zy (⟨Y0 [] [] (.T (.g (.n 1000000)) (.n 0)) rfl,⟨Y0 [] [] (.T (.n 0) (.n 1000000)) rfl,⟨Y0 [_] [] (.T (.g (.n 1000000)) (.c V0)) rfl,Y2 [_,_] [] (.T (.c V0) (.n 1000000)) (.l V1 (.n 256)) (.l V0 V1) p4 b2 rfl⟩⟩⟩) ?_
  rw [db]
  have LL:20000<=bf:=by unfold bf; exact Y0 [] [] (.l (.n 20000) (.n 100000)) rfl
  generalize hL:held.getD j []=L at SW
  have Xj:sr held j=(Hj (cC held j held.length)).flatMap λ_=>L.flatMap λm=>(Hj (eG held j held.length)).map λ_=>m:=by refine bD hL ?_; rfl
  haveI eq:((Hj (cC held j held.length)).map λ(i:Nat)=>V.int i).flatMap (λ_=>L.flatMap λm=>(Hj (eG held j held.length)).map λ_=>m)=sr held j:=by
   simp only [Zz,Xj]
  refine bz (λ_=>L.flatMap λm=>(Hj (eG held j held.length)).map λ_=>m) rfl _ _ (λv hv acc N a1 a2=> ?_) (by refine (eq▸?_); simp; exact Y2 [_,_] [] (.l V0 V1) (.l V0 (.n 20000)) (.l (.n 20000) V1) hc LL rfl) (eq▸q)
  generalize eG held j held.length=lo at*
  refine eN e1 <| eN e2 <| bA fC (o6 (Y2 [_,_] [] (.t V0 (.n 1000000)) (.t V0 V1) (.l V1 (.n 4)) hj hl rfl) (by rw [Ou,SW]; rfl)) ?_
  refine bz (λm=>(Hj lo).map λ_=>m) rfl _ _ (λv hv cp N' Oc Rt=> ?_) a1 a2
  refine eN e3 <| zy (⟨Y0 [] [] (.T (.g (.n 1000000)) (.n 0)) rfl,⟨Y0 [] [] (.T (.n 0) (.n 1000000)) rfl,⟨Y0 [_] [] (.T (.g (.n 1000000)) (.c V0)) rfl,Y2 [_,_] [] (.T (.c V0) (.n 1000000)) (.l V1 (.n 256)) (.l V0 V1) p4 b1 rfl⟩⟩⟩) ?_
  rw [db]
  haveI eq2:((Hj lo).map λ(i:Nat)=>V.int i).flatMap (λ_=> [v])=(Hj lo).map λ_=>v:=by
   generalize Hj lo=l
   induction l with
   | nil=>rfl
   | cons a l ih=>simp only [ZL,Ul,ih]; rfl
  refine bz (λ_=> [v]) rfl _ _ (λw hw X6 N2 c1 c2=>⟨by simp at c1; exact Y1 [_,_] [] (.t V0 V1) (.l (.a V0 (.n 1)) V1) c1 rfl,c2⟩) (eq2▸Oc) (eq2▸Rt)
noncomputable def dw {α:Type} (l:List α) (i:Int):List α:=l.drop (i.fmod l.length).toNat++l.take (i.fmod l.length).toNat
theorem rA (l:List V) (i:Int):I7 l i=dw l i:=by
 unfold I7 dw
 split
 ·rename_i h; refine af h ?_; simp
 ·rfl
theorem kT {α β:Type} (f:α->β) (l:List α) (i:Int):(dw l i).map f=dw (l.map f) i:=by
 simp [dw,List.map_drop,aa4]
theorem cA {α:Type} (l:List α) (i:Int):(dw l i).length=l.length:=by
 unfold dw
 simp only [IQ,aa3,ZE]
 rw [Nat.min_comm]; exact Nat.sub_add_min_cancel _ _
theorem i8 {α:Type} {l:List α} {x:α} (h:x∈dw l i):x∈l:=by
 unfold dw at h
 refine Or.elim (Zr.mp h) (λh=> ?_) λh=> ?_
 ·exact ac9 h
 ·exact Z0 h
theorem oG {α:Type} (l:List α) (i:Int) (k:Nat) (h:k < l.length):(dw l i)[k]? =l[((k+i).fmod l.length).toNat]?:=by
 have m:=aY (a:=i) (b:=(l.length:Int)) (Y1 [_,_] [] (.T (.n 0) (.c V0)) (.t V1 V0) h rfl)
 haveI e:(k+i).fmod l.length=(k+i.fmod l.length)% l.length:=by
  rw [YM _ (by exact Y0 [_] [] (.L (.n 0) (.c V0)) rfl),YM _ (by exact Y0 [_] [] (.L (.n 0) (.c V0)) rfl),Int.add_emod_emod]
 refine af e ?_
 unfold dw
 generalize i.fmod l.length=p at*
 by_cases hk:k < l.length - p.toNat
 ·rw [Xq (by simpa using hk),List.getElem?_drop,ZX (by exact Y1 [_] [_] (.L (.n 0) (.a (.c V0) V0)) (.L (.n 0) V0) m.1 rfl) (by exact Y3 [_,_,_,_] [_] (.T (.a (.c V0) V0) (.c V1)) (.t V0 V2) (.e (.a V2 V3) V1) (.r (.Q (.c V3) V0)) hk (N6 (Y2 [_,_] [_] (.l V0 V1) (.T V0 (.c V1)) (.Q (.c V0) V0) m.2 (Nj m.1) rfl)) (Nj m.1) rfl)]
  congr 1; exact Y2 [_,_,_] [_] (.e (.a V0 V1) V2) (.Q (.c V0) V0) (.r (.Q (.c V2) (.a (.c V1) V0))) (Nj m.1) (Nj (Y1 [_] [_] (.L (.n 0) (.a (.c V0) V0)) (.L (.n 0) V0) m.1 rfl)) rfl
 ·rw [Zh (by rw [aa3]; exact Nat.not_lt.mp hk),List.getElem?_take_of_lt (by simp; exact Y4 [_,_,_,_,_] [_] (.T (.c V0) V0) (.t V1 V2) (.e (.a V0 V3) V1) (.r (.e (.a V3 V4) V2)) (.Q (.c V4) V0) h (N6 (Y1 [_,_] [] (.l V0 V1) (.o (.t V1 V0)) hk rfl)) (N6 (Y2 [_,_] [_] (.l V0 V1) (.T V0 (.c V1)) (.Q (.c V0) V0) m.2 (Nj m.1) rfl)) (Nj m.1) rfl)]
  have:(k+p)% l.length=k+p - l.length:=by
   rw [<-Int.sub_emod_right,ZX (by exact Y3 [_,_,_,_] [_] (.L (.n 0) (.s (.a (.c V0) V0) (.c V1))) (.o (.t V0 V2)) (.r (.e (.a V2 V3) V1)) (.Q (.c V3) V0) hk (N6 (Y2 [_,_] [_] (.l V0 V1) (.T V0 (.c V1)) (.Q (.c V0) V0) m.2 (Nj m.1) rfl)) (Nj m.1) rfl) (by exact Y2 [_,_] [_] (.T (.s (.a (.c V0) V0) (.c V1)) (.c V1)) (.t V0 V1) (.T V0 (.c V1)) h m.2 rfl)]
  simp only [this,aa3]
  congr 1; exact Y4 [_,_,_,_,_,_] [_] (.e V0 V1) (.e (.a V0 V2) V3) (.r (.e (.a V2 V4) V5)) (.Q (.c V4) V0) (.r (.Q (.c V1) (.s (.a (.c V3) V0) (.c V5)))) (N6 (Y1 [_,_] [] (.l V0 V1) (.o (.t V1 V0)) hk rfl)) (N6 (Y2 [_,_] [_] (.l V0 V1) (.T V0 (.c V1)) (.Q (.c V0) V0) m.2 (Nj m.1) rfl)) (Nj m.1) (Nj (Y3 [_,_,_,_] [_] (.L (.n 0) (.s (.a (.c V0) V0) (.c V1))) (.o (.t V0 V2)) (.l V1 (.a V2 V3)) (.Q (.c V3) V0) hk Yc (Nj m.1) rfl)) rfl
theorem qo {α:Type} (l:List α) (i:Int):dw (dw l i) (0 - i)=l:=by
 refine ae4 λk=> ?_
 by_cases h:k < l.length
 ·haveI m:=aY (a:=k+(0 - i)) (b:=(l.length:Int)) (Y1 [_,_] [] (.T (.n 0) (.c V0)) (.t V1 V0) h rfl)
  rw [oG _ _ _ (by rw [cA]; exact h),cA,oG _ _ _ (Yt m.1 m.2)]
  congr 1
  have:(((k+(0 - i)).fmod l.length).toNat:Int)=(k+(0 - i))% l.length:=by
   rw [Nj m.1,YM _ (by exact Y0 [_] [] (.L (.n 0) (.c V0)) rfl)]
  rw [this,YM _ (by exact Y0 [_] [] (.L (.n 0) (.c V0)) rfl),Int.emod_add_emod,show k+(0 - i)+i=k by exact Y0 [_] [_] (.Q (.a (.a (.c V0) (.s (.n 0) V0)) V0) (.c V0)) rfl,ZX (by exact Y0 [_] [] (.L (.n 0) (.c V0)) rfl) (by exact Y1 [_,_] [] (.T (.c V0) (.c V1)) (.t V0 V1) h rfl)]
  exact Y1 [_,_] [] (.e V0 V1) (.Q (.c V0) (.c V1)) (Nj (Y0 [_] [] (.L (.n 0) (.c V0)) rfl)) rfl
 ·rw [ZW (by rw [cA,cA]; exact Y1 [_,_] [] (.l V0 V1) (.o (.t V1 V0)) h rfl),ZW (by exact Y1 [_,_] [] (.l V0 V1) (.o (.t V1 V0)) h rfl)]
theorem vM (l:List V) (i:Int):dw l i=(Hj l.length).map λ(k:Nat)=>l.getD (((k:Int)+i).fmod l.length).toNat .none:=by
 refine ae4 λk=> ?_
 by_cases h:k < l.length
 ·haveI m:=aY (a:=k+i) (b:=(l.length:Int)) (Y1 [_,_] [] (.T (.n 0) (.c V0)) (.t V1 V0) h rfl)
  simp only [oG _ _ _ h,Ou,List.getElem?_range h]
  simp only [Option.map_some]
  simp only [js,oC (Yt m.1 m.2)]; rfl
 ·rw [ZW (by rw [cA]; exact Y1 [_,_] [] (.l V0 V1) (.o (.t V1 V0)) h rfl),ZW (by simp; exact Y1 [_,_] [] (.l V0 V1) (.o (.t V1 V0)) h rfl)]
theorem vm (ls:List (List V)) (w:Nat) (i:Int):aG (dw ls i) w=(aG ls w).map λl=>dw l i:=by
 unfold aG
 by_cases h:ls=[]
 ·refine af h ?_; simp [dw]
 ·have:dw ls i ≠ []:=λe=>h (Z9.mp (by rw [<-cA ls i,e]; rfl))
  rw [if_neg h,if_neg this,Fk]
  refine Um λk o_=> ?_
  simp only [kT]; rfl
theorem aZ.mk' {r:Ar} (h:aZ σ r):∃u,Mk σ (.ref r.a) u:=by
 obtain ⟨num,own,eB,h1,h2⟩:=h
 exact ⟨_,.r _ 3 _ num h1 (nz rfl) (nz rfl) rfl⟩
noncomputable def U3 (σ:St):V->Option V
 | .ref a=>fld σ (.ref a) 119
 | .none=>vi (.str "None")
 | .int _=>vi (.str "1")
 | .str _=>vi (.str "'a'")
 | _=>vi (.str "True")
theorem Mk.uq {u:V} (h:Mk σ v u):U3 σ v=vi u:=by
 cases h with
 | r a c fs i h1 h2 h3 h4=>
  exact (qR h1).trans h4
 | _=>rfl
theorem Mk.uniq {u:V} {u':V} (h:Mk σ v u) (h':Mk σ v u'):u=u':=Z3 (h.uq.symm.trans h'.uq)
set_option tactic.hygienic true in
theorem xl σ:mf σ .none=.str "None":=(xk ⟨_,.n⟩).uniq .n
theorem aZ.inj {r:Ar} {s:Ar} (h:aZ σ r) (h':aZ σ s) (e:r.a=s.a):r=s:=by
 obtain ⟨o_,o_,o_,h1,h2⟩:=h
 obtain ⟨o_,o_,o_,h3,h4⟩:=h'
 obtain ⟨a',Nr,l'⟩:=s
 subst e
 have q:vi (V.ref r.it)=vi (V.ref Nr):=congrArg (EO 83) (se h1 h3)
 obtain rfl:=V.ref.inj (Z3 q)
 obtain rfl:r.l=l':=Z3 (congrArg D7 (se h2 h4))
 rfl
theorem jE:∀{rs ss:List Ar},(∀r∈rs,aZ σ r)->(∀r∈ss,aZ σ r)->(rs.map λr=>V.ref r.a)=(ss.map λr=>V.ref r.a)->rs=ss
 | [],[],_,_,_=>rfl
 | r::rs,s::ss,h1,h2,e=>by
  simp only [ZL,af1,V.ref.injEq] at e
  simp only [(h1 r (.head _)).inj (h2 s (.head _)) e.1,jE (λx h=>h1 x (.tail _ h)) (λx h=>h2 x (.tail _ h)) e.2]
 | [],_::_,_,_,e=>by cases e
 | _::_,[],_,_,e=>by cases e
theorem cq (h:∀v∈l,Mk σ v (f v)):cw 4 (.lst (l.map f))=TU:=lZ λv hv=>ag (vo.mp hv) λx hx q1=>bD q1 <| (h x hx).plain 3
structure Ws (I:WI) (b:Bool) (bx kn:Nat) (σ:St) (n:Int) (u C L:Nat):Prop where
 W:Wd I σ n u
 B:kH b bx σ C
 K:Kn kn σ n L
theorem Ws.step {b:Bool} {kn:Nat} (S:Ws I b bx kn σ n u C L) (W:Wd I aa n' u') (F:Fr [] σ aa) (l:n<=n'):Ws I b bx kn aa n' u' C L:=
 ⟨W,S.B.fr rfl F,(S.K.fr rfl F).mono l (FF _)⟩
theorem Ws.box {b:Bool} {kn:Nat} {C':Nat} (S:Ws I b bx kn σ n u C L) (F:BF 4 σ aa) (B:kH b bx aa C'):Ws I b bx kn aa n u C' L:=
 ⟨F.wd S.W,B,S.K.fr rfl F.fr⟩
theorem Ws.kn {b:Bool} {kn:Nat} {L':Nat} (S:Ws I b bx kn σ n u C L) (F:BF 2 σ aa) (K:Kn kn aa n' L') (l:n'<=n):Ws I b bx kn aa n u C L':=
 ⟨F.wd S.W,S.B.fr rfl F.fr,K.mono l (FF _)⟩
theorem Ws.mono {b:Bool} {kn:Nat} {C' L':Nat} (S:Ws I b bx kn σ n u C L) (h:C<=C') (h':L<=L'):Ws I b bx kn σ n u C' L':=⟨S.W,S.B.mono h,S.K.mono (Lf _) h'⟩
noncomputable abbrev nr:List Nat:=[2,4]
theorem Fr.t0 {a:St} (x:Fr [] a b):Fr nr a b:=x.mono (by decide)
theorem BF.t2 {a:St} (x:BF 2 a b):Fr nr a b:=x.fr.mono (by decide)
theorem BF.t4 {a:St} (x:BF 4 a b):Fr nr a b:=x.fr.mono (by decide)
theorem aZ.t {a:St} {r:Ar} (h:aZ a r) (x:Fr nr a b):aZ b r:=h.fr rfl x
theorem NL.one (h:NL σ n0 s0 n1 s1 a l):jN σ n0 s0 n1 s1 [a] [l]:=(bP _ _ h (Lf _) (FF _))
theorem oN (l:List V) (a:Int):bU l a=.none∨bU l a∈l:=by
 unfold bU
 generalize (if a < 0 then a+(l.length:Int) else a)=j
 split
 ·right
  rename_i h
  rw [js,oC ((Int.toNat_lt h.1).mpr h.2)]
  exact yd _
 ·left; rfl
theorem kX {a:Int} (h1:0 -(l.length:Int)<=a) (h2:a < l.length):bU l a=l.getD (a.fmod l.length).toNat .none:=by
 unfold bU
 rw [YM _ (by exact Y0 [_] [] (.L (.n 0) (.c V0)) rfl)]
 by_cases h:a < 0
 ·rw [if_pos h,if_pos (⟨Y1 [_] [_] (.L (.n 0) (.a V0 (.c V0))) (.L (.s (.n 0) (.c V0)) V0) h1 rfl,Y1 [_] [_] (.T (.a V0 (.c V0)) (.c V0)) (.T V0 (.n 0)) h rfl⟩),<-Int.add_emod_right,ZX (by exact Y1 [_] [_] (.L (.n 0) (.a V0 (.c V0))) (.L (.s (.n 0) (.c V0)) V0) h1 rfl) (by exact Y1 [_] [_] (.T (.a V0 (.c V0)) (.c V0)) (.T V0 (.n 0)) h rfl)]
 ·rw [if_neg h,if_pos (⟨Y1 [] [_] (.L (.n 0) V0) (.o (.T V0 (.n 0))) h rfl,h2⟩),ZX (by exact Y1 [] [_] (.L (.n 0) V0) (.o (.T V0 (.n 0))) h rfl) h2]
theorem fx {a:Int} (h:¬(0 -(l.length:Int)<=a/\a < l.length)):bU l a=.none:=by
 unfold bU
 by_cases h0:a < 0
 ·rw [if_pos h0,if_neg (λz=>h ⟨Int.sub_left_le_of_le_add (Int.add_comm a _▸z.1),ab1 h0 (ZS _)⟩)]
 ·rw [if_neg h0,if_neg (λz=>h ⟨Zt (Int.zero_sub _▸Int.neg_nonpos_of_nonneg (ZS _)) z.1,z.2⟩)]
theorem fG:(aG ls w).length<=w/\∀l∈aG ls w,l.length=ls.length:=by
 unfold aG
 split
 ·exact ⟨by simp,λl h=>by cases h⟩
 ·exact ⟨by simp,λl h=>by refine ag (vo.mp h) λk o_ q1=> ?_; refine bD q1 ?_; simp⟩
theorem xX.len (h:xX σ n0 s0 n1 s1 a as ls):as.length=ls.length:=bV h λo_ o_ h1 o_=>h1.len
theorem xX.le (h:xX σ n0 s0 n1 s1 a as ls):n0<=n1/\s0<=s1:=by
 refine bV h λo_ o_ h1 h2=> ?_
 have a:=h1.le
 have b:=h2.one.le
 exact ⟨Y2 [] [_,_,_] (.L V0 V1) (.L V0 V2) (.L V2 V1) a.1 b.1 rfl,Y2 [_,_,_] [] (.l V0 V1) (.l V0 V2) (.l V2 V1) a.2 b.2 rfl⟩
set_option tactic.hygienic true in
theorem AY {kn:Nat} {b:Bool} (S:Ws I b bx kn σ n u C L) (hC:C<=800000) (hL:L<=20000)
  (ht:aZ σ tb) (hc:aZ σ cb) (N3:tb.l=rs.map λr=> .ref r.a) (vc:cb.l=cs.map λr=> .ref r.a) (hr:∀r∈rs,aZ σ r/\r.l.length=w) (Gs:∀r∈cs,aZ σ r) (sj:cs.map (·.l)=aG (rs.map (·.l)) w) (hw:w < 30) (hn:rs.length < 30) (hf:∀r∈rs,∀v∈r.l,Mk σ v (f v))
  (q:∀aa n' u',Ws I b bx kn aa n' u' (C+10) (L+100)->Fr nr σ aa->n<=n'->Q (.bool TU) aa):(CC (k+102)).call 927 [.ref I.w,.ref bx,.ref tb.a,.ref cb.a,.ref kn] Q X σ:=by
 refine C1 ⟨YL,217,[104,5,100,131,84],[],gr⟩ rfl rfl <| dG ?_; intro e0
 have hlen:tb.l.length=rs.length:=by simp only [N3,vk]
 have zJ:tb.l.length<=bf:=by unfold bf; exact Y2 [_,_] [] (.l V0 (.n 100000)) (.t V1 (.n 30)) (.e V0 V1) hn hlen rfl
 have hg:∀v∈tb.l,Mk σ v (mf σ v):=λv hv=>by
  replace hv:=N3▸hv
  exact ag (vo.mp hv) λr ca q3=>bD q3 <| xk (hr r ca).1.mk'
 have NI:=xl σ
 generalize mf σ=g at hg NI
 refine bJ ht.al zJ hg <| dR ?_; intro e1
 refine Mw (.int tb.l.length) (by rw [vk]) ?_; intro e2
 refine MM S.B (Y1 [_] [] (.l V0 (.n 900000)) (.l V0 (.n 800000)) hC rfl) (by simp) (Y2 [_,_] [] (.L (.c V0) (.n 100)) (.t V1 (.n 30)) (.e V0 V1) hn hlen rfl) λi aT F1 B1=>dR ?_; intro e3
 have S1:=S.box F1 B1
 have Uh:=F1.t4
 refine eW S1.W (ht.t Uh) (Y2 [_,_] [] (.t V0 (.n 1000)) (.t V1 (.n 30)) (.e V0 V1) hn hlen rfl) λa2 aV n2 u2 W2 F2 l2 h2=>dR ?_; intro e4
 have S2:=S1.step W2 F2 (Y1 [] [_,_] (.L V0 V1) (.T V0 V1) l2 rfl)
 have Fu:=Uh.trans F2.t0
 rw [rA] at h2
 refine ji (S1.K.fr rfl F2) (by simp; exact Y1 [_] [] (.t (.a V0 (.n 1)) (.n 50000)) (.l V0 (.n 20000)) hL rfl) h2.one (.inl rfl) λdq F3 K3=> ?_
 have S3:=S2.kn F3 K3 (Y0 [] [_] (.L V0 V0) rfl)
 have CR:=Fu.trans F3.t2
 have h3:=h2.fr rfl F3.fr
 have Tc:∀v∈dw tb.l i,Mk dq v (g v):=λv hv=>(hg v (i8 hv)).fr CR
 refine bJ h3.al (by rw [cA]; exact zJ) Tc <| zy (⟨Y0 [] [] (.T (.g (.n 1000000)) (.n 0)) rfl,⟨Y0 [] [] (.T (.n 0) (.n 1000000)) rfl,⟨Y0 [_] [] (.T (.g (.n 1000000)) (.c V0)) rfl,Y2 [_,_] [] (.T (.c V0) (.n 1000000)) (.t V1 (.n 30)) (.e V0 V1) hn hlen rfl⟩⟩⟩) ?_
 rw [db]
 refine aL (Hj tb.l.length) (λk=> .int k) (λk=>(tb.l.map g).getD ((k+i).fmod tb.l.length).toNat .none) rfl rfl (λk hk acc N a1 a2=> ?_) (by simp; exact zJ) ?_
 ·haveI t9:k < tb.l.length:=by simpa using hk
  have m:=aY (a:=k+i) (b:=(tb.l.length:Int)) (Y1 [_,_] [] (.T (.n 0) (.c V0)) (.t V1 V0) t9 rfl)
  refine mG (Y2 [_] [_] (.o (.Q (.c V0) (.n 0))) (.L (.n 0) V0) (.T V0 (.c V0)) m.1 m.2 rfl) (Y2 [_,_] [] (.t V0 (.n 4611686018427387904)) (.t V1 (.n 30)) (.e V0 V1) hn hlen rfl) <| bA fC (u:=(tb.l.map g).getD ((k+i).fmod tb.l.length).toNat .none) ?_ ?_
  ·rw [place_lt m.1 (Y3 [_,_] [_] (.T V0 (.n 1000000)) (.t V0 (.n 30)) (.e V1 V0) (.T V0 (.c V1)) hn hlen m.2 rfl)]
   show (tb.l.map g)[_]? =_
   rw [js,oC (by rw [vk]; exact (Yt m.1 m.2))]; rfl
  ·exact ⟨a1,a2⟩
 haveI e1:(dw tb.l i).map g=(Hj tb.l.length).map λ(k:Nat)=>(tb.l.map g).getD ((k+i).fmod tb.l.length).toNat .none:=by
  rw [kT,vM,vk]
 refine cT (uH (cD (cq Tc) e1)) ?_
 have Rx:∀{σ},Fr [] dq σ->∃it,aZ σ ⟨a2,it,dw tb.l i⟩:=λF=>(h3.fr rfl F).al.ar
 refine dJ (Rx (Fr.refl _ _)) λJd XU=> ?_
 have xE:(dw tb.l i).length < 1000:=by rw [cA]; exact Y2 [_,_] [] (.t V0 (.n 1000)) (.t V1 (.n 30)) (.e V0 V1) hn hlen rfl
 refine eW (s:=⟨a2,Jd,dw tb.l i⟩) S3.W XU xE λa4 jO n4 u4 W4 F4 l4 h4=>dR ?_; intro e5
 have S4:=S3.step W4 F4 (Y1 [] [_,_] (.L V0 V1) (.T V0 V1) l4 rfl)
 have Ft:=CR.trans F4.t0
 rw [rA] at h4
 rw [qo] at h4
 refine ji (S3.K.fr rfl F4) (by simp; exact Y1 [_] [] (.t (.a (.a V0 (.n 1)) (.n 1)) (.n 50000)) (.l V0 (.n 20000)) hL rfl) h4.one (.inl rfl) λkJ F5 K5=> ?_
 have CQ:=Ft.trans F5.t2
 have Ta:=λv hv=>(hg v hv).fr CQ
 refine bJ (h4.fr rfl F5.fr).al zJ Ta <| cT (uH (cD (cq Ta) rfl)) ?_
 obtain ⟨cn,co,cf,c1,c2⟩:=(hc.t CQ)
 refine aB c1 rfl <| sJ (bT c2) ?_
 haveI lcs:cs.length<=30:=by
  have:=congrArg N8 sj
  rw [vk] at this
  refine af this ?_; unfold aG
  split <;> simp; exact Y1 [_] [] (.l V0 (.n 30)) (.t V0 (.n 30)) hw rfl
 have NK:∀c∈cs,∀v∈c.l,Mk σ v (f v):=λc jC v hv=>by
  have:c.l∈aG (rs.map (·.l)) w:=sj▸(Zs jC)
  unfold aG at this
  split at this
  ·exact nomatch this
  ·refine ag (vo.mp this) λk' t9 e=> ?_
   replace hv:=e▸hv
   refine ag (vo.mp hv) λl' uY q4=>bD q4 <| ag (vo.mp uY) λr ca q5=>bD q5 ?_
   have Qt:k' < r.l.length:=by refine af ((hr r ca).2) ?_; simpa using t9
   rw [js,oC Qt]
   exact hf r ca _ (yd _)
 refine d9 (λr acc aa=>∀G_,(∀j n' u',j<=cs.length->r=(cs.drop j).map (λc=> .ref c.a)->acc=fA f ((cs.take j).map λc=>dw c.l i)->Ws I b bx kn aa n' u' (C+4) (L+2)->Fr [] kJ aa->n<=n'->G_)->G_) (λr acc aa hp=> ?_) (λv r acc aa N hp h=> ?_) (λacc pQ hp=> ?_) _ _ _ (λG_ k_=>k_ 0 _ _ (Y0 [_] [] (.l (.n 0) V0) rfl) (by refine bD vc ?_; rfl) rfl (S4.kn F5 K5 (Y0 [] [_] (.L V0 V0) rfl)) (Fr.refl _ _) (Y2 [] [_,_,_] (.L V0 V1) (.T V0 V2) (.T V2 V1) l2 l4 rfl))
 ·exact hp _ λ_ _ _ _ _ _ _ F _=>(bT (F.get c2 rfl)).items
 ·refine hp _ λj n' u' hj ca Hi S' F ln=>af Hi ?_
  have iQ:j < cs.length:=by
   have:=congrArg N8 ca; simp at this; exact Y1 [_,_,_] [] (.t V0 V1) (.e (.a (.a V2 (.n 1)) V0) V1) (Yb this) rfl
  rw [ZH iQ,ZL] at ca
  injection ca with q1 q2
  refine af q1 ?_; subst q2
  have SQ:cs[j].l.length<=30:=by
   have:cs[j].l∈aG (rs.map (·.l)) w:=sj▸(Zs (yd _))
   unfold aG at this
   split at this
   ·exact nomatch this
   ·refine ag (vo.mp this) λk' t9 e=>bD e ?_; simp; exact Y1 [_] [] (.l V0 (.n 30)) (.t V0 (.n 30)) hn rfl
  refine eW S'.W ((Gs cs[j] (yd _)).t (CQ.trans F.t0)) (Y1 [_] [] (.t V0 (.n 1000)) (.l V0 (.n 30)) SQ rfl) λa7 C8 n7 u7 W7 F7 l7 h7=> ?_
  rw [rA] at h7
  refine bJ h7.al (by rw [cA]; unfold bf; exact Y1 [_] [] (.l V0 (.n 100000)) (.l V0 (.n 30)) SQ rfl) (λv hv=>(NK _ (yd _) v (i8 hv)).fr ((CQ.trans F.t0).trans F7.t0)) <| ⟨by unfold fA; simp only [vk,vk,ZE]; unfold bf; exact Y3 [_,_,_] [] (.t V0 (.n 100000)) (.l V1 (.n 30)) (.t V2 V1) (.e V0 V2) lcs iQ (ZI (Y1 [_,_] [] (.l V0 V1) (.t V0 V1) iQ rfl)) rfl,?_⟩
  refine h _ _ λG_ k_=>k_ (j+1) n7 u7 iQ rfl ?_ (S'.step W7 F7 (Y1 [] [_,_] (.L V0 V1) (.T V0 V1) l7 rfl)) (F.trans F7) (Y2 [] [_,_,_] (.L V0 V1) (.L V0 V2) (.T V2 V1) ln l7 rfl)
  simp only [ZK iQ,Oq]
  unfold fA
  simp only [Oq]; rfl
 refine hp _ λj n6 u6 hj ca Hi S6 F6 l6=>af Hi ?_
 have:j=cs.length:=by
  have:=congrArg N8 ca; simp at this; exact ZJ hj ((Ya this))
 refine af this <| af aa1 ?_
 have xZ:=CQ.trans F6.t0
 have e6:cs.map (λc=>dw c.l i)=aG ((dw rs i).map (·.l)) w:=by
  rw [kT,vm,<-sj,Fk]; rfl
 refine af e6 <| dR ?_; intro Zg
 have g6:=((h3.fr rfl F4).fr rfl F5.fr).fr rfl F6
 obtain ⟨Vm,XT⟩:=g6.al.ar
 refine da (s:=⟨a2,Vm,dw tb.l i⟩) S6.W XT hw (by show (dw tb.l i).length < 30; rw [cA]; exact Y2 [_,_] [] (.t V0 (.n 30)) (.t V1 (.n 30)) (.e V0 V1) hn hlen rfl) (λj v hv=> ?_) λke a7 as C8 n7 u7 Qe CV W7 F7 l7 T7=> ?_
 ·have hm:=i8 (Zv hv)
  replace hm:=N3▸hm
  obtain ⟨r,ca,rfl⟩:=vo.mp hm
  exact .inl ⟨r,rfl,(hr r ca).1.t xZ,(hr r ca).2⟩
 have CP:=xZ.trans F7.t0
 have Q7:dw rs i=ke:=by
  refine jE (λr ca=>(hr r (i8 ca)).1.t xZ) (λr ca=>(CV r ca).1) ?_
  rw [kT,<-N3]; exact Qe
 subst Q7
 have Go:∀l∈aG ((dw rs i).map (·.l)) w,∀v∈l,Mk σ v (f v):=λl hl v hv=>by
  rw [<-e6] at hl
  obtain ⟨c,jC,rfl⟩:=vo.mp hl
  exact NK c jC v (i8 hv)
 have hT:=T7.len
 have Jn:=fG (ls:=(dw rs i).map (·.l)) (w:=w)
 refine dF (S6.K.fr rfl F7) T7 (Y4 [_,_,_,_] [] (.t (.a (.a V0 (.n 2)) V1) (.n 40000)) (.l V0 (.n 20000)) (.t V2 (.n 30)) (.e V1 V3) (.l V3 V2) hL hw hT Jn.1 rfl) (λl hl=> ?_) (λl hl v hv=>(Go l hl v hv).fr CP) λrl F8 K8=> ?_
 ·rw [Jn.2 l hl,vk,cA]; unfold bf; exact Y1 [_] [] (.l V0 (.n 100000)) (.t V0 (.n 30)) hn rfl
 have S8:=(S6.step W7 F7 l7).kn F8 K8 (Lf _)
 have C7:=CP.trans F8.t2
 refine ii (is:=[i,0 - i]) S8.W (ht.t C7) (Y2 [_,_] [] (.t V0 (.n 1000)) (.t V1 (.n 30)) (.e V0 V1) hn hlen rfl) (of_decide_eq_true rfl) λa9 x7 n9 u9 W9 F9 l9 h9=>dR ?_; intro e7
 have MZ:=C7.trans F9.t0
 have SY:∀v,Mk x7 (bU tb.l v) (g (bU tb.l v)):=λv=>by
  rcases oN tb.l v with e | e
  ·rw [e,NI]; exact .n
  ·exact (hg _ e).fr MZ
 refine bJ (f:=g) h9.al (of_decide_eq_true rfl) (λv hv=> ?_) ?_
 ·obtain ⟨j,_,rfl⟩:=vo.mp hv
  exact SY j
 refine aL [i,0 - i] V.int (λj=>g (bU tb.l j)) rfl rfl (λj hj acc N a1 a2=> ?_) (of_decide_eq_true rfl) ?_
 ·by_cases b1:-(tb.l.length:Int)<=j
  ·refine yZ (decide_eq_true (Y1 [_] [_] (.L (.s (.n 0) (.c V0)) V0) (.L (.g (.c V0)) V0) b1 rfl)) ?_
   by_cases b2:j < tb.l.length
   ·have e:=kX (by exact Y1 [_] [_] (.L (.s (.n 0) (.c V0)) V0) (.L (.g (.c V0)) V0) b1 rfl) b2
    have m:=aY (a:=j) (rD b1 b2)
    rw [e] at a2
    have m2:=Yt m.1 m.2
    refine fV (decide_eq_true b2) <| mG (Y2 [_] [_] (.o (.Q (.c V0) (.n 0))) (.L (.n 0) V0) (.T V0 (.c V0)) m.1 m.2 rfl) (Y2 [_,_] [] (.t V0 (.n 4611686018427387904)) (.t V1 (.n 30)) (.e V0 V1) hn hlen rfl) <| bA fC ?_ ⟨a1,a2⟩
    rw [place_lt m.1 (Y3 [_,_] [_] (.T V0 (.n 1000000)) (.t V0 (.n 30)) (.e V1 V0) (.T V0 (.c V1)) hn hlen m.2 rfl)]
    show (tb.l.map g)[_]? =_
    rw [Ou,js,oC m2]; rfl
   ·rw [fx (by exact λxx=>Y2 [_] [_] .f (.o (.T V0 (.c V0))) (.T V0 (.c V0)) b2 xx.2 rfl),NI] at a2
    exact gk (decide_eq_false b2) <| ⟨a1,a2⟩
  ·rw [fx (by exact λxx=>Y2 [_] [_] .f (.o (.L (.g (.c V0)) V0)) (.L (.s (.n 0) (.c V0)) V0) b1 xx.1 rfl),NI] at a2
   exact E8 (decide_eq_false (Y1 [_] [_] (.o (.L (.s (.n 0) (.c V0)) V0)) (.o (.L (.g (.c V0)) V0)) b1 rfl)) <| ⟨a1,a2⟩
 have e9: [i,0 - i].map (λj=>g (bU tb.l j))=([i,0 - i].map (bU tb.l)).map g:=by simp
 have VM:∀v∈[i,0 - i].map (bU tb.l),Mk x7 v (g v):=λv hv=>by
  obtain ⟨j,_,rfl⟩:=vo.mp hv
  exact SY j
 refine cT (uH (cD (cq VM) e9.symm)) ?_
 obtain ⟨num,own,it,m1,m2,m3,m4,m5,m6,m7,m8,YG⟩:=(((g6.fr rfl F7).fr rfl F8.fr).fr rfl F9)
 refine oF m1 m3 (by rw [cA]; exact Y2 [_,_] [] (.t V0 (.n 1000)) (.t V1 (.n 30)) (.e V0 V1) hn hlen rfl) ?_
 rw [rA,qo]
 have z1:=ak (q:=.list 1 tb.l) m1 m3 (by simp)
 refine aB z1 rfl <| aB z1 rfl <| xN (decide_eq_true (Y0 [] [_] (.Q V0 V0) rfl)) ?_
 have uT:Fr nr σ (x7.set it (.list 1 tb.l)):=MZ.du (Y2 [_,_,_] [] (.l V0 V1) (.l V2 V1) (.r (.e V2 V0)) m6 F1.len rfl)
 refine bJ ⟨num,own,Q1,it,z1,(aP m3 (.list 1 tb.l))⟩ zJ (λv hv=>(hg v hv).fr uT) <| cT (cD (cq hg) rfl) ?_
 have Jz:Ws I b bx kn (x7.set it (.list 1 tb.l)) n9 u9 (C+10) (L+100):=by
  obtain ⟨W,⟨g,s,c,z,B,b1,b2,b3,b4,b5⟩,ks,K1,K2⟩:=((S8.step W9 F9 (Y1 [] [_,_] (.L V0 V1) (.T V0 V1) l9 rfl)).mono (C':=C+10) (L':=L+100) (Y0 [_] [] (.l (.a V0 (.n 4)) (.a V0 (.n 10))) rfl) (Y3 [_,_,_,_] [] (.l (.a (.a (.a V0 (.n 2)) (.n 1)) V1) (.a V0 (.n 100))) (.t V2 (.n 30)) (.e V1 V3) (.l V3 V2) hw hT Jn.1 rfl))
  exact ⟨W.cu m3 _,⟨g,s,c,z,ak B m3 (by simp),b1,b2,b3,b4,b5⟩,ks,ak K1 m3 (by simp),K2⟩
 exact q _ n9 u9 Jz uT (Y3 [] [_,_,_,_] (.L V0 V1) (.L V0 V2) (.L V2 V3) (.T V3 V1) l6 l7 l9 rfl)
structure Tb (σ:St) (f:V->V) (tb:Ar) (rs:List Ar) (w:Nat):Prop where
 l:tb.l=rs.map λr=> .ref r.a
 r:∀r∈rs,aZ σ r/\r.l.length=w
 ne:∃N own eB,σ[tb.a]? =vi (cB N own eB tb.it)/\σ[tb.it]? =vi (.list 1 tb.l)/\∀r∈rs,∃M own eB,N ≠ M/\σ[r.a]? =vi (cB M own eB r.it)/\σ[r.it]? =vi (.list 1 r.l)
 f:∀r∈rs,∀v∈r.l,Mk σ v (f v)
theorem Tb.t (T:Tb σ f tb rs w):aZ σ tb:=lx T.ne λN own eB h1 h2 o_=>⟨N,own,eB,h1,h2⟩
theorem Tb.fr (T:Tb σ f tb rs w) (F:Fr nr σ aa):Tb aa f tb rs w:=by
 refine lx T.ne λN own eB h1 h2 h3=>⟨T.l,λr hr=>⟨(T.r r hr).1.t F,(T.r r hr).2⟩,(v9 N own eB (F.get h1 rfl) (F.get h2 rfl) (λr hr=> ?_)),λr hr v hv=>(T.f r hr v hv).fr F⟩
 exact lx (h3 r hr) λM md Mc g0 g1 g2=>v9 M md Mc g0 (F.get g1 rfl) (F.get g2 rfl)
theorem Cs f rs:(fA f (rs.map (·.l))).flatMap Fz=(gO rs).map f:=by
 unfold fA gO
 simp only [Fk,Zz,ZF]
 rfl
theorem xR:∀(rs:List Ar) (j:Nat) (r:Ar),(∀r∈rs,r.l.length=w)->rs[j]? =vi r->((gO rs).drop (j*w)).take w=r.l
 | [],j=>λr o_ e=>by simp at e
 | s::rs,0=>λr h e=>by
  simp at e; subst e
  have:=h s (.head _)
  refine (?_:List.take w (ag0 (0*w) (s.l++gO rs))=_)
  rw [ac3,List.drop_zero,List.take_append_of_le_length (by exact Y1 [_,_] [] (.l V0 V1) (.r (.e V1 V0)) this rfl),<-this,aa1]
 | s::rs,j+1=>λr h e=>by
  have:=h s (.head _)
  refine (?_:List.take w (ag0 ((j+1)*w) (s.l++gO rs))=_)
  rw [aa6,Z',<-List.drop_drop,<-this,List.drop_left,this]
  exact xR rs j r (λx hx=>h x (.tail _ hx)) e
theorem uG:∀(rs:List Ar),(∀r∈rs,r.l.length=w)->(gO rs).length=rs.length*w/\wE rs=rs.length*(w+1)
 | []=>λo_=>by rw [af4,ac3,ac3]; exact ⟨rfl,rfl⟩
 | s::rs=>λh=>by
  have:=h s (.head _)
  refine dP (uG rs λx hx=>h x (.tail _ hx)) λh1 h2=> ?_
  constructor
  ·show (s.l++gO rs).length=_
   simp only [IQ,h1,this,ZD,aa6,Z']
  ·show wE rs+s.l.length+1=_
   simp only [h2,this,ZD,aa6]; exact Y0 [_,_] [] (.e (.a (.a V0 V1) (.n 1)) (.a V0 (.a V1 (.n 1)))) rfl
theorem oi f (ls:List (List V)):(fA f ls).length=ls.length:=vk ..
theorem rL {r:Ar} (h:rs[j]? =vi r):(fA f (rs.map (·.l)))[j]? =vi (.lst (r.l.map f)):=by
 unfold fA
 simp only [Ou,Ou,h]; rfl
theorem Gz (l:List V):l.flatMap (λm=> [m])=l:=by
 induction l with
 | nil=>rfl
 | cons a l ih=>simp only [Ul,ih]; rfl
theorem Mk.num {num:Int} {own:Nat} {u:V} (h:Mk σ (.ref a) u) (e:σ[a]? =vi (cB num own eB it)):u=.int num:=
 h.uniq (.r a 3 _ num e (nz rfl) (nz rfl) rfl)
theorem Ea {kn:Nat} {b:Bool} (S:Ws I b bx kn σ n u C L) (hC:C<=800000) (hL:L<=20000)
  (T:Tb σ f tb rs w) (hw:w < 30) (hn:rs.length < 30)
  (q:∀aa n' u',Ws I b bx kn aa n' u' (C+10) (L+100)->Fr nr σ aa->n<=n'->Q (.bool TU) aa):(CC (k+102)).call 932 [.ref I.w,.ref bx,.ref tb.a,.ref kn,.lst (fA f (rs.map (·.l)))] Q X σ:=by
 refine C1 ⟨YL,213,[104,5,100,84,6],[],hY⟩ rfl rfl <| lx T.ne λN own eB t1 t2 t3=> ?_
 obtain ⟨Oa,XN⟩:=uG rs λr hr=>(T.r r hr).2
 have b1:rs.length*w<=30*30:=ZY (Y1 [_] [] (.l V0 (.n 30)) (.t V0 (.n 30)) hn rfl) (Y1 [_] [] (.l V0 (.n 30)) (.t V0 (.n 30)) hw rfl)
 have LL:20000<=bf:=by unfold bf; exact Y0 [] [] (.l (.n 20000) (.n 100000)) rfl
 have hlen:tb.l.length=rs.length:=by simp only [T.l,vk]
 refine lh S.W t1 (by simp only [t2,T.l]) (λr hr=>(cW (Y2 [_,_] [] (.t V0 (.n 1000)) (.t V1 (.n 30)) (.e V0 V1) hw ((T.r r hr).2) rfl) (t3 r hr) (T.f r hr))) (Y1 [_] [] (.t V0 (.n 1000)) (.t V0 (.n 30)) hn rfl) (Y2 [_,_] [] (.t V0 (.n 9000)) (.e V0 V1) (.l V1 (.m 30 (.n 30))) XN (ZY (Y1 [_] [] (.l V0 (.n 30)) (.t V0 (.n 30)) hn rfl) hw) rfl) λa1 aT n1 u1 W1 F1 l1 h1=>ji (S.K.fr rfl F1) (by simp; exact Y1 [_] [] (.t (.a V0 (.n 1)) (.n 50000)) (.l V0 (.n 20000)) hL rfl) h1.one (.inl rfl) λaV F2 K2=> ?_
 have S2:=(S.step W1 F1 (Y1 [] [_,_] (.L V0 V1) (.T V0 V1) l1 rfl)).kn F2 K2 (Y0 [] [_] (.L V0 V0) rfl)
 have Fu:=F1.t0.trans F2.t2
 have h2:=h1.fr rfl F2.fr
 have LC:=λv hv=>ag (ZN.mp hv) λr hr hv=>T.f r hr v hv
 refine bJ h2.al (Y3 [_,_,_] [] (.l V0 V1) (.e V0 V2) (.l V2 (.m 30 (.n 30))) (.l (.n 20000) V1) Oa b1 LL rfl) (λv hv=>(LC v hv).fr Fu) ?_
 have e1:=Cs f rs
 refine bz Fz (by rfl) _ _ (λv hv acc N' X8 X7=> ?_) (by refine af e1 ?_; simp; exact Y3 [_,_,_] [] (.l V0 V1) (.e V0 V2) (.l V2 (.m 30 (.n 30))) (.l (.n 20000) V1) Oa b1 LL rfl) ?_
 ·refine ag (vo.mp hv) λl hl q4=> ?_
  subst q4
  refine bz (λm=> [m]) (by rfl) _ _ (λv hv cp N2 Oc Rt=>⟨by simp at Oc; exact Y1 [_,_] [] (.t V0 V1) (.l (.a V0 (.n 1)) V1) Oc rfl,Rt⟩) (by rw [Gz]; exact X8) (by rw [Gz]; exact X7)
 simp only [e1]
 refine cT (uH (cD (cq LC) rfl)) ?_
 by_cases hz:rs=[]
 ·subst hz
  refine kw S2.W (T.t.t Fu) (Y2 [_,_] [] (.t V0 (.n 1000)) (.t V1 (.n 30)) (.e V0 V1) hn hlen rfl) (Y0 [_] [] (.l (.n 0) V0) rfl) (Y0 [] [] (.t (.n 2) (.n 1000)) rfl) λa3 dq n3 u3 W3 F3 l3 h3=> ?_
  obtain ⟨num,md,it,g1,g2,g3,o_,o_,o_,o_,o_,o_⟩:=h3
  rw [T.l] at g3
  exact aB g1 rfl <| cT (fU g3) <| q _ n3 u3 ((S2.step W3 F3 (Y1 [] [_,_] (.L V0 V1) (.T V0 V1) l3 rfl)).mono (Y0 [_] [] (.l V0 (.a V0 (.n 10))) rfl) (by simp)) (Fu.trans F3.t0) (Y2 [] [_,_,_] (.L V0 V1) (.T V0 V2) (.T V2 V1) l1 l3 rfl)
 have rX:=ZC.mpr hz
 have qc:=oi f (rs.map (·.l))
 rw [vk] at qc
 have Ik:=oC rX
 have Qp:(fA f (rs.map (·.l))).isEmpty=Q1:=by
  cases rs with
  | nil=>exact absurd rfl hz
  | cons=>rfl
 refine iB Qp <| mM (congrArg Nat.cast qc) S2.B (Y1 [_] [] (.l V0 (.n 1000000)) (.l V0 (.n 800000)) hC rfl) (Y2 [_,_] [] (.T (.n 0) (.c V0)) (.t (.n 0) V1) (.r (.e V0 V1)) rX qc rfl) (Y2 [_,_] [] (.L (.c V0) (.n 1000)) (.t V1 (.n 30)) (.e V0 V1) hn qc rfl) λj dq hj F3 B3=> ?_
 have S3:=S2.box F3 B3
 have Bt:=oC hj
 have Qo:=rL (f:=f) Bt
 have Nv:=(T.r rs[j] (yd _)).2
 refine bA fC (Ej (rL Ik)) <| dQ rfl <| iA (.inl (Y2 [_,_] [] (.t V0 (.n 18446744073709551616)) (.t V1 (.n 30)) (.t V0 V1) hn hj rfl)) ?_
 have jw:j*w=((j*w:Nat):Int):=by simp
 rw [vk,((T.r rs[0] (yd _)).2),jw]
 refine dJ (h2.fr rfl F3.fr).al.ar λVk XQ=>kw (s:=⟨a1,Vk,gO rs⟩) S3.W XQ (by show (gO rs).length < 1000; exact Y2 [_,_] [] (.t V0 (.n 1000)) (.e V0 V1) (.l V1 (.m 30 (.n 30))) Oa b1 rfl) (by show j*w<=(gO rs).length; exact Y2 [_,_,_] [] (.l V0 V1) (.r (.e V1 V2)) (.l V0 V2) Oa (ad0 _ (Y1 [_,_] [] (.l V0 V1) (.t V0 V1) hj rfl)) rfl) (Y1 [_] [] (.t V0 (.n 1000)) (.t V0 (.n 30)) hw rfl) λa4 jO n4 u4 W4 F4 l4 h4=> ?_
 have S4:=S3.step W4 F4 (Y1 [] [_,_] (.L V0 V1) (.T V0 V1) l4 rfl)
 have Ft:=(Fu.trans F3.t4).trans F4.t0
 rw [xR rs j rs[j] (λr hr=>(T.r r hr).2) Bt] at h4
 refine kw (c:=2) S4.W (T.t.t Ft) (Y2 [_,_] [] (.t V0 (.n 1000)) (.t V1 (.n 30)) (.e V0 V1) hn hlen rfl) (Y2 [_,_,_] [] (.l V0 V1) (.r (.e V1 V2)) (.t V0 V2) hlen hj rfl) (Y0 [] [] (.t (.n 2) (.n 1000)) rfl) λa5 kJ n5 u5 W5 F5 l5 h5=> ?_
 have TF:=h4.fr rfl F5
 refine dQ rfl <| ji (as:=[a4,a5]) (ls:=[rs[j].l,(tb.l.drop j).take 2]) ((S3.K.fr rfl F4).fr rfl F5) (by simp; exact Y1 [_] [] (.t (.a (.a V0 (.n 1)) (.n 2)) (.n 50000)) (.l V0 (.n 20000)) hL rfl) ⟨_,_,TF,_,_,h5,Lf _,FF _⟩ (.inl rfl) λpQ F6 K6=> ?_
 have xZ:=(Ft.trans F5.t0).trans F6.t2
 have Ti:=T.f rs[j] (yd _)
 refine bJ (TF.fr rfl F6.fr).al (Y3 [_,_,_] [] (.l V0 V1) (.t V2 (.n 30)) (.l (.n 20000) V1) (.e V0 V2) hw LL Nv rfl) (λv hv=>(Ti v hv).fr xZ) <| bA fC (o6 (Y2 [_,_] [] (.t V0 (.n 1000000)) (.t V1 (.n 30)) (.t V0 V1) hn hj rfl) Qo) <| cT (uH (cD (cq Ti) rfl)) ?_
 have hg:∀v∈tb.l,Mk pQ v (mf pQ v):=λv hv=>by
  replace hv:=T.l▸hv
  exact ag (vo.mp hv) λr ca q6=>bD q6 <| xk ((T.r r ca).1.t xZ).mk'
 generalize mf pQ=g at hg
 have Td:∀v∈(tb.l.drop j).take 2,Mk pQ v (g v):=λv hv=>hg v (ac9 (Z0 hv))
 refine bJ (h5.fr rfl F6.fr).al (by refine af ZE ?_; exact Y2 [_,_] [] (.l V0 V1) (.l (.n 20000) V1) (.l V0 (.n 2)) LL (Z4 _ _) rfl) Td ?_
 refine lx ((T.fr xZ).ne) λN6 UQ WW q1 q2 q3=> ?_
 refine zy (⟨Y0 [_] [] (.T (.g (.n 1000000)) (.c V0)) rfl,⟨Y2 [_,_] [] (.T (.c V0) (.n 1000000)) (.t V1 (.n 30)) (.t V0 V1) hn hj rfl,⟨Int.lt_min.mpr ⟨Y0 [_] [] (.T (.g (.n 1000000)) (.a (.c V0) (.n 2))) rfl,Y0 [_] [] (.T (.g (.n 1000000)) (.c V0)) rfl⟩,Y3 [_,_] [_] (.T V0 (.n 1000000)) (.t V0 (.n 30)) (.t V1 V0) (.L V0 (.a (.c V1) (.n 2))) hn hj (af3 _ _) rfl⟩⟩⟩) <| af qc <| ((HF (j+2) rs.length)▸?_)
 generalize CX:min (j+2) rs.length=hi
 have e6:aM j hi=(Hj (hi - j)).map λd=>V.int ((j+d:Nat):Int):=by
  unfold aM
  simp
 refine aL (Hj (hi - j)) (λd=>V.int ((j+d:Nat):Int)) (λd=>g (tb.l.getD (j+d) .none)) e6 (by rfl) (λd hd acc N' b1 b2=> ?_) (by simp; exact Y3 [_,_,_,_] [] (.l V0 (.a V1 V2)) (.l (.n 20000) V1) (.r (.e V3 V0)) (.l V3 (.a V2 (.n 2))) LL CX (Z4 _ _) rfl) ?_
 ·have CY:d < hi - j:=by simpa using hd
  have SU:=ad8 (ac7 CY) (CX▸aa2 _ _)
  have hv:tb.l[j+d]? =vi (.ref rs[j+d].a):=by simp only [T.l,Ou,oC SU]; rfl
  refine lx (q3 rs[j+d] (yd _)) λM o2 f2 o_ w1 w2=> ?_
  rw [js,hv,ZP] at b2
  rw [((hg _ (Zv hv)).num w1)] at b2
  exact aB q1 rfl <| bA (bT q2) (o6 (Y2 [_,_,_] [] (.t (.a V0 V1) (.n 1000000)) (.t V2 (.n 30)) (.t (.a V0 V1) V2) hn SU rfl) hv) <| aB w1 rfl <| ⟨b1,b2⟩
 haveI e7:((tb.l.drop j).take 2).map g=(Hj (hi - j)).map (λd=>g (tb.l.getD (j+d) .none)):=by
  refine ZO (by simp only [vk,ZE,aa3,ab5,<-CX,hlen]; rw [<-Nat.sub_min_sub_right,Nat.add_sub_cancel_left]) λi h1 h2=> ?_
  have BD:i < hi - j:=by simpa using h2
  have:j+i < tb.l.length:=by refine af hlen ?_; exact ad8 (ac7 BD) (CX▸aa2 _ _)
  simp [js,this]
 exact cT (cD (cq Td) e7) <| q _ n5 u5 (((S4.step W5 F5 (Y1 [] [_,_] (.L V0 V1) (.T V0 V1) l5 rfl)).kn F6 K6 (Y0 [] [_] (.L V0 V0) rfl)).mono (Y0 [_] [] (.l (.a V0 (.n 1)) (.a V0 (.n 10))) rfl) (by simp)) xZ (Y3 [] [_,_,_,_] (.L V0 V1) (.T V0 V2) (.T V2 V3) (.T V3 V1) l1 l4 l5 rfl)
theorem Fw.cV {name msg:Str} {Q:K} (E:Fw σ a name msg) (z:name.length+msg.length<=900) (q:Q (.str (name++ ": "++msg)) σ):oZ (CC (k+1)) Q (.ref a) σ:=by
 obtain ⟨num,own,ms,J7,AM,h1,y1,h3⟩:=E
 refine hG y1 λo_ o_ o_ o_ o_ h2=> ?_
 exact IG h1 rfl h2 rfl rfl h3 rfl z q
noncomputable def mP (wide:Nat) (v:V):List V:=match v with
 | .int p=>if 0 -(wide:Int)<=p/\p < wide then [] else [v]
 | _=> []
noncomputable def oY (wide:Nat) (ps:List Int):Bool:=!((ps.map V.int).flatMap (mP wide)).isEmpty
set_option tactic.hygienic true in
theorem rR {wide:Nat} (h:oY wide ps=Q1):∀p∈ps,0 -(wide:Int)<=p/\p < wide:=by
 intro p hp
 simp only [oY,Bool.not_eq_false',List.isEmpty_iff,ab6] at h
 have:=h (.int p) (Zs hp)
 unfold mP at this
 split at this
 ·rename_i e; cases e
  split at this
  ·assumption
  ·exact nomatch this
 ·rename_i e; exact absurd rfl (e p)
theorem Ec {wide:Nat} {p:Int} (hp:p∈ps) (h:¬(0 -(wide:Int)<=p/\p < wide)):oY wide ps=TU:=by
 cases e:oY wide ps with
 | true=>rfl
 | false=>exact absurd (rR e p hp) h
noncomputable def ny (ls:List (List V)) (ps:List Int) (w:Nat):List (List V):=ls.map λl=>ps.map λp=>l.getD (p.fmod w).toNat .none
theorem AK {ss:List Ar} (sj:cs.map (·.l)=aG (rs.map (·.l)) w) (Gs:∀r∈cs,aZ σ r) (Jf:∀r∈ss,aZ σ r) (hw:∀p∈ps,0 -(cs.length:Int)<=p/\p < cs.length)
  (e:ps.map (bU (cs.map λr=> .ref r.a))=ss.map λr=> .ref r.a):aG (ss.map (·.l)) rs.length=if ps=[] then [] else ny (rs.map (·.l)) ps w:=by
 by_cases hp:ps=[]
 ·subst hp
  have:ss=[]:=by simpa using e.symm
  refine af this <| af (if_pos rfl) ?_; rfl
 refine af (if_neg hp) ?_
 by_cases hz:rs=[]
 ·refine af hz ?_
  unfold aG ny; simp
 have pg:cs.length=w:=by
  have:=congrArg N8 sj
  unfold aG at this
  rw [if_neg (by simpa using hz)] at this
  simpa using this
 haveI PX:0 < cs.length:=by
  refine dJ (List.exists_mem_of_ne_nil _ hp) λp hp=> ?_
  have:=hw p hp
  exact ab0 λe=>absurd (aa7 this.1 this.2) (by rw [e]; decide)
 have hs:ss=ps.map λp=>cs.getD (p.fmod w).toNat ⟨0,0,[]⟩:=by
  refine jE Jf (λr hr=> ?_) ?_
  ·refine ag (vo.mp hr) λp hp q1=>bD q1 ?_
   have m:=aY (a:=p) (b:=w) (Y2 [_,_] [] (.T (.n 0) (.c V0)) (.e V1 V0) (.t (.n 0) V1) pg PX rfl)
   rw [js,oC (Yt m.1 (Y2 [_,_] [_] (.T V0 (.c V0)) (.r (.e V0 V1)) (.T V0 (.c V1)) pg m.2 rfl))]
   exact Gs _ (yd _)
  ·rw [<-e,Fk]
   refine Um λp hp=> ?_
   have m:=aY (a:=p) (b:=w) (Y2 [_,_] [] (.T (.n 0) (.c V0)) (.e V1 V0) (.t (.n 0) V1) pg PX rfl)
   rw [kX (by simpa using (hw p hp).1) (by simpa using (hw p hp).2),vk,pg]
   simp [js,(Yt m.1 (Y2 [_,_] [_] (.T V0 (.c V0)) (.r (.e V0 V1)) (.T V0 (.c V1)) pg m.2 rfl):(p.fmod w).toNat < cs.length)]
 have Qb:ss ≠ []:=λh=>by rw [h] at hs; exact hp (by simpa using hs.symm)
 unfold aG
 refine af (if_neg (by simpa using Qb)) ?_
 unfold ny
 refine ZO (by simp) λk h1 h2=> ?_
 have hk:k < rs.length:=by simpa using h1
 simp only [ab7,Z5,Fk]
 simp only [hs,Fk]
 refine Um λp hp=> ?_
 have m:=aY (a:=p) (b:=w) (Y2 [_,_] [] (.T (.n 0) (.c V0)) (.e V1 V0) (.t (.n 0) V1) pg PX rfl)
 have hm:(p.fmod w).toNat < cs.length:=Yt m.1 (Y2 [_,_] [_] (.T V0 (.c V0)) (.r (.e V0 V1)) (.T V0 (.c V1)) pg m.2 rfl)
 have e1:(cs.getD (p.fmod w).toNat ⟨0,0,[]⟩).l=rs.map λr=>r.l.getD (p.fmod w).toNat .none:=by
  rw [js,oC hm]
  have:=congrArg (λl=>l[(p.fmod w).toNat]?) sj
  unfold aG at this
  rw [if_neg (by simpa using hz)] at this
  simp [hm,show (p.fmod w).toNat < w by exact Y2 [_,_,_] [] (.t V0 V1) (.e V2 V1) (.t V0 V2) pg hm rfl] at this
  simp only [ZP,this]
  simp [Zw,js]
 refine (?_:(cs.getD (p.fmod w).toNat ⟨0,0,[]⟩).l.getD k .none=_)
 simp only [e1]
 simp [js,hk]
theorem xp (wide:Nat) (p:Int):mP wide (.int p)=if 0 -(wide:Int)<=p/\p < wide then [] else [.int p]:=rfl
theorem Ri {wide:Nat} {Q X:K} (q:Q (.bool (oY wide ps)) σ):HU .ne (ba c (.list YL .nil)) Q X en (.lst ([]++(ps.map V.int).flatMap (mP wide))) σ:=q
theorem xL {r:Ss} {Q:KN} {X:K} (q:bX c r Q X (en.set x v) σ):yN x (DY (bX c r) Q X) en v σ:=q
theorem Om {s:String} {Q X:K} (h:en x=vi (.str (j' s))) (q:Q (.bool Q1) σ):ba c (.cmp .ne (.var x) (.str s)) Q X en σ:=by
 show kh (en x) _ σ
 refine af h ?_
 show rG (vi (!decide (j' s=j' s))) V.bool Q σ
 refine af (decide_eq_true rfl) ?_; exact q
set_option maxHeartbeats 1000000 in
set_option tactic.hygienic true in
theorem yC {kn:Nat} {b:Bool} (S:Ws I b bx kn σ n u C L) (hC:C<=800000) (hL:L<=20000)
  (T:Tb σ f tb rs w) (hw:w < 30) (hn:rs.length < 30) (xF:f .none=.str "None") (hc:aZ σ cb) (vc:cb.l=cs.map λr=> .ref r.a) (Gs:∀r∈cs,aZ σ r) (sj:cs.map (·.l)=aG (rs.map (·.l)) w)
  (q:∀aa n' u',Ws I b bx kn aa n' u' (C+10) (L+100)->Fr nr σ aa->n<=n'->Q (.bool TU) aa):(CC (k+107)).call 937 [.ref I.w,.ref bx,.ref tb.a,.ref cb.a,.ref kn,.lst (fA f (rs.map (·.l)))] Q X σ:=by
 refine C1 ⟨YL,220,[104,5,100,131,84,6],[],fX⟩ rfl rfl <| dG ?_; intro e0
 obtain ⟨cn,co,cf,c1,c2⟩:=id hc
 have LL:20000<=bf:=by unfold bf; exact Y0 [] [] (.l (.n 20000) (.n 100000)) rfl
 have jg:cb.l.length=cs.length:=by simp only [vc,vk]
 have CZ:cs.length<=w:=by
  have:=congrArg N8 sj
  rw [vk] at this
  exact this▸fG.1
 refine aB c1 rfl <| dj (bT c2) <| af jg ?_
 have Bo:(∃r,r∈rs)->cs.length=w:=λh=>dJ h λr hr=>by
  have:=congrArg N8 sj
  unfold aG at this
  rw [if_neg (by intro e; simp at e; subst e; cases hr)] at this
  simpa using this
 generalize K9:cs.length=wide at*
 refine dR ?_; intro e1
 refine mM rfl S.B (Y1 [_] [] (.l V0 (.n 1000000)) (.l V0 (.n 800000)) hC rfl) (Y0 [] [] (.T (.n 0) (.n 4)) rfl) (Y0 [] [] (.L (.n 4) (.n 1000)) rfl) λm aT hm F1 B1=>zy (⟨Y0 [] [] (.T (.g (.n 1000000)) (.n 0)) rfl,⟨Y0 [] [] (.T (.n 0) (.n 1000000)) rfl,⟨Y0 [_] [] (.T (.g (.n 1000000)) (.c V0)) rfl,Y1 [_] [] (.T (.c V0) (.n 1000000)) (.t V0 (.n 4)) hm rfl⟩⟩⟩) <| d9 (λr acc aa=>∀G_,(∀ps,acc=ps.map .int->ps.length+r.length=m->BF 4 aT aa->kH b bx aa (C+1+ps.length)->G_)->G_) (λ_ _ _ _=>rfl) (λv r acc aa N hp h=> ?_) (λacc aV hp=> ?_) _ _ _ (λG_ k_=>k_ ([]) rfl (by simp) (BF.refl _ _) B1)
 ·refine hp _ λps q2 hl F B=>af q2 <| iA (.inl (by decide)) <| cr B (Y3 [_,_,_,_] [] (.l (.a (.a V0 (.n 1)) V1) (.n 1000000)) (.l V0 (.n 800000)) (.t V2 (.n 4)) (.e (.a V1 (.a V3 (.n 1))) V2) hC hm hl rfl) (Y0 [_] [] (.T (.n 0) (.a (.m 2 (.c V0)) (.n 2))) rfl) (Y4 [_,_] [] (.L (.a (.m 2 (.c V0)) (.n 2)) (.n 1000)) (.t V1 (.n 30)) (.t V1 (.n 30)) (.l V0 V1) (.l V0 V1) hw hw CZ CZ rfl) λt aV _ _ F2 B2=>⟨by rw [vk]; unfold bf; exact Y2 [_,_,_] [] (.t V0 (.n 100000)) (.t V1 (.n 4)) (.e (.a V0 (.a V2 (.n 1))) V1) hm hl rfl,h _ _ λG_ k_=>k_ (ps++ [_]) (by refine af Oq ?_; rfl) (by simp; exact Y1 [_,_,_] [] (.e (.a (.a V0 (.n 1)) V1) V2) (.e (.a V0 (.a V1 (.n 1))) V2) hl rfl) (F.trans F2) (B2.mono (by simp; exact Y0 [_,_] [] (.l (.a (.a (.a V0 (.n 1)) V1) (.n 1)) (.a (.a V0 (.n 1)) (.a V1 (.n 1)))) rfl))⟩
 refine hp _ λps UK hl Ui Uj=>af UK ?_
 have F2:=F1.trans Ui
 have S2:=S.box F2 (Uj.mono (show C+1+ps.length<=C+4 by exact Y2 [_,_,_] [] (.l (.a (.a V0 (.n 1)) V1) (.a V0 (.n 4))) (.t V2 (.n 4)) (.e V1 V2) hm hl rfl))
 have Fu:=F2.t4
 have pl:ps.length<=3:=Y2 [_,_] [] (.l V0 (.n 3)) (.t V1 (.n 4)) (.e V0 V1) hm hl rfl
 haveI Xb:∀l:List V,(l.flatMap (mP wide)).length<=l.length:=λl=>by
  induction l with
  | nil=>simp
  | cons a l ih=>
   simp only [Ul,IQ,ZD]
   have:(mP wide a).length<=1:=by unfold mP; split <;>(try split) <;> simp
   exact Y2 [_,_,_] [] (.l (.a V0 V1) (.a V2 (.n 1))) (.l V1 V2) (.l V0 (.n 1)) ih this rfl
 refine dR ?_; intro e2
 refine bz (mP wide) rfl _ _ (λv hv acc N' a1 a2=> ?_) (by have:=Xb (ps.map .int); simp at this ⊢; exact Y4 [_,_,_,_] [] (.l V0 V1) (.l (.n 20000) V1) (.t V2 (.n 4)) (.e V3 V2) (.l V0 V3) LL hm hl this rfl) ?_
 ·refine ag (vo.mp hv) λp _ q3=> ?_
  subst q3
  rw [xp] at a1 a2
  by_cases b1:-wide<=p
  ·by_cases b2:p < wide
   ·rw [if_pos (⟨Y1 [_] [_] (.L (.s (.n 0) (.c V0)) V0) (.L (.g (.c V0)) V0) b1 rfl,b2⟩)] at a2
    refine yZ (decide_eq_true (Y1 [_] [_] (.L (.s (.n 0) (.c V0)) V0) (.L (.g (.c V0)) V0) b1 rfl)) <| Mz (by simp [b1,b2]) ?_
    rw [ZU] at a2
    exact a2
   ·rw [if_neg (λxx=>Y2 [_] [_] .f (.o (.T V0 (.c V0))) (.T V0 (.c V0)) b2 xx.2 rfl)] at a1 a2
    exact yZ (decide_eq_true (Y1 [_] [_] (.L (.s (.n 0) (.c V0)) V0) (.L (.g (.c V0)) V0) b1 rfl)) <| My (by simp [b1,b2]) <| B9 (Y1 [_,_] [] (.t V0 V1) (.l (.a V0 (.n 1)) V1) a1 rfl) <| a2
  ·rw [if_neg (λxx=>Y2 [_] [_] .f (.o (.L (.g (.c V0)) V0)) (.L (.s (.n 0) (.c V0)) V0) b1 xx.1 rfl)] at a1 a2
   have a1:=a1
   exact E8 (decide_eq_false (Y1 [_] [_] (.o (.L (.s (.n 0) (.c V0)) V0)) (.o (.L (.g (.c V0)) V0)) b1 rfl)) <| B9 (Y1 [_,_] [] (.t V0 V1) (.l (.a V0 (.n 1)) V1) a1 rfl) <| a2
 refine Ri ?_
 generalize NG:oY wide ps=A7 at*
 refine dR ?_; intro e3
 refine gG (λaH aa=>∀G_,(∀v n' u',aH 104=vi (.ref I.w)->aH 5=vi (.ref bx)->aH 100=vi (.ref tb.a)->aH 84=vi (.ref kn)->aH 6=vi (.lst (fA f (rs.map (·.l))))->aH 65=vi (.int wide)->aH 93=vi (.lst (ps.map .int))->aH 190=vi (.bool A7)->aH 81=vi v->Ws I b bx kn aa n' u' (C+4) L->Fr nr σ aa->n<=n'->(((A7=TU/\v=.str (j' "TypeError: no implicit conversion of nil into Array"))∨(A7=Q1/\∃a as n0 s0,v=.ref a/\Kn kn aa n0 L/\xX aa n0 s0 n' aa.length a as (if ps=[] then [] else ny (rs.map (·.l)) ps w))))->G_)->G_) (λN h1 _ _ _=> ?_) ?_
 ·have Wu:=hc.t Fu
  refine ii S2.W Wu (Y3 [_,_,_] [] (.t V0 (.n 1000)) (.t V1 (.n 30)) (.e V0 V2) (.l V2 V1) hw jg CZ rfl) (Y2 [_,_] [] (.t V0 (.n 1000)) (.t V1 (.n 4)) (.e V0 V1) hm hl rfl) λa3 dq n3 u3 W3 F3 l3 h3=> ?_
  have S3:=S2.step W3 F3 (Y1 [] [_,_] (.L V0 V1) (.T V0 V1) l3 rfl)
  have CR:=Fu.trans F3.t0
  obtain ⟨Vo,Rx⟩:=h3.al.ar
  refine da S3.W Rx hn (by simp; exact Y2 [_,_] [] (.t V0 (.n 30)) (.t V1 (.n 4)) (.e V0 V1) hm hl rfl) (λi v hv=> ?_) λss a4 as jO n4 u4 Jf CV W4 F4 l4 T4=> ?_
  ·haveI Gg:v∈ps.map (bU cb.l):=Zv hv
   refine ag (vo.mp Gg) λp hp q4=> ?_
   subst q4
   by_cases pf:0 - wide<=p/\p < wide
   ·left
    haveI hm:bU cb.l p∈cb.l:=by
     rcases oN cb.l p with e | e
     ·exfalso
      rw [kX (by rw [jg]; exact pf.1) (by refine af jg ?_; exact pf.2)] at e
      have m:=aY (a:=p) (rC pf.1 pf.2)
      have hm:=Yt m.1 (Y2 [_,_] [_] (.T V0 (.c V0)) (.r (.e V0 V1)) (.T V0 (.c V1)) jg m.2 rfl)
      rw [jg,js,oC hm,ZP] at e
      have:=yd hm
      rw [e,vc] at this
      obtain ⟨_,_,h⟩:=vo.mp this
      cases h
     ·exact e
    rw [vc] at hm
    obtain ⟨c,jC,e⟩:=vo.mp hm
    refine ⟨c,by refine af vc ?_; exact e.symm,(Gs c jC).t CR,?_⟩
    have:c.l∈aG (rs.map (·.l)) w:=by refine bD sj ?_; exact Zs jC
    rw [fG.2 _ this,vk]
   ·right; left
    refine ⟨fx (by refine af jg ?_; exact pf),λe kJ n5 u5 W5 F5 l5 E5=> ?_⟩
    refine E5.cV (by decide+kernel) <| h1 _ _ λG_ k_=>k_ _ n5 u5 rfl rfl rfl rfl rfl rfl rfl rfl rfl (S3.step W5 F5 l5) (CR.trans F5.t0) (Y2 [] [_,_,_] (.L V0 V1) (.T V0 V2) (.L V2 V1) l3 l5 rfl) (.inl ⟨?_,congrArg V.str (by decide+kernel)⟩)
    refine bD NG ?_; exact Ec hp pf
  ·have Ft:=CR.trans F4.t0
   have pf:=λp hp=>by
    by_cases pf:0 -(wide:Int)<=p/\p < wide
    ·exact pf
    ·have:=fx (by refine af jg ?_; exact pf)
     have hm:V.none∈ss.map (λr=>V.ref r.a):=by rw [<-Jf,<-this]; exact Zs hp
     obtain ⟨_,_,h⟩:=vo.mp hm
     cases h
   have as6:A7=Q1:=by
    cases e:A7 with
    | false=>rfl
    | true=>
     rw [<-NG] at e
     simp only [oY,Bool.not_eq_true',List.isEmpty_eq_false_iff,ne_eq,ab6] at e
     refine absurd (λv hv=> ?_) e
     obtain ⟨p,hp,rfl⟩:=vo.mp hv
     rw [xp,if_pos (pf p hp)]
   have e:=AK sj (λr hr=>(Gs r hr).t CR) (λr hr=>(CV r hr).1) (by refine af K9 ?_; exact pf) (by refine bD vc ?_; exact Jf)
   rw [e] at T4
   have T4:=T4
   refine h1 _ _ λG_ k_=>k_ _ n4 u4 rfl rfl rfl rfl rfl rfl rfl rfl rfl (S3.step W4 F4 l4) Ft (Y2 [] [_,_,_] (.L V0 V1) (.T V0 V2) (.L V2 V1) l3 l4 rfl) (.inr ⟨as6,a4,as,n3,_,rfl,?_,T4⟩)
   exact S3.K.fr rfl F4
 refine λen dq ph=>ph _ λv n3 u3 eZ e5 E9 MH e6 C3 MG Cd Jt S3 CR l3 hv=> ?_
 refine gG (λaH aa=>aH=en/\aa=dq) (λN h1 _ _ _=> ?_) ?_
 ·rcases hv with ⟨rfl,rfl⟩ | ⟨rfl,_⟩
  ·exact eN Cd <| Om Jt <| h1 _ _ ⟨rfl,rfl⟩
  ·exact eN Cd <| h1 _ _ ⟨rfl,rfl⟩
 rintro en dq ⟨rfl,rfl⟩
 refine gG (λaH aa=>aH=en/\Ws I b bx kn aa n3 u3 (C+4) (L+50)/\Fr nr σ aa) (λN h1 _ _ _=> ?_) ?_
 ·rcases hv with ⟨rfl,rfl⟩ | ⟨rfl,a,as,n0,s0,rfl,K0,T0⟩
  ·exact eN Cd <| h1 _ _ ⟨rfl,S3.mono (FF _) (Y0 [_] [] (.l V0 (.a V0 (.n 50))) rfl),CR⟩
  ·have Tu:=T0.len
   have Tt:=T0.le
   have Wg:∀l∈(if ps=[] then [] else ny (rs.map (·.l)) ps w),∀v∈l,Mk dq v (f v):=λl hl v hv=>by
    split at hl
    ·cases hl
    ·rename_i Lk
     unfold ny at hl
     rw [Fk] at hl
     obtain ⟨r,hr,rfl⟩:=vo.mp hl
     obtain ⟨p,hp,rfl⟩:=vo.mp hv
     have pf:=rR NG p hp
     have m:=aY (a:=p) (ab1 (rC pf.1 pf.2) (ZQ.mpr CZ))
     have hm:(p.fmod w).toNat < r.l.length:=by refine af ((T.r r hr).2) ?_; exact Yt m.1 m.2
     rw [js,oC hm]
     exact (T.f r hr _ (yd _)).fr CR
   have Qr:(if ps=[] then [] else ny (rs.map (·.l)) ps w).length<=rs.length/\∀l∈(if ps=[] then [] else ny (rs.map (·.l)) ps w),l.length<=bf:=by
    split
    ·exact ⟨by simp,λl hl=>by cases hl⟩
    ·unfold ny
     refine ⟨by simp,λl hl=> ?_⟩
     obtain ⟨_,_,rfl⟩:=vo.mp hl
     rw [vk]; exact Y2 [_,_] [] (.l V0 V1) (.l (.n 20000) V1) (.l V0 (.n 3)) LL pl rfl
   have fin:∀N:En->St->Prop,(∀aH aa,aH=en/\Ws I b bx kn aa n3 u3 (C+4) (L+50)/\Fr nr σ aa->N aH aa)->∀Q' X',(∀aa,N en aa->Q' (.bool TU) aa)->(CC (k+106)).call 908 [.ref a,.ref kn,.lst (fA f (if ps=[] then [] else ny (rs.map (·.l)) ps w))] Q' X' dq:=λN h1 Q' X' h2=>
    dF K0 T0 (by exact Y4 [_,_,_,_] [] (.t (.a V0 V1) (.n 40000)) (.l V0 (.n 20000)) (.t V2 (.n 30)) (.e V1 V3) (.l V3 V2) hL hn Tu Qr.1 rfl) Qr.2 Wg λkJ F5 K5=>h2 _ (h1 _ _ ⟨rfl,(S3.kn F5 K5 (Lf _)).mono (FF _) (by exact Y3 [_,_,_,_] [] (.l (.a (.a V0 (.n 1)) V1) (.a V0 (.n 50))) (.t V2 (.n 30)) (.e V1 V3) (.l V3 V2) hn Tu Qr.1 rfl),CR.trans F5.t2⟩)
   by_cases Lk:ps=[]
   ·rw [if_pos Lk] at fin
    have fin:=fin
    subst Lk
    refine eN Cd ?_
    refine eN Jt ?_
    refine eN MH ?_
    refine eN MG ?_
    refine fin (N .next) h1 _ _ λaa h=> ?_
    exact h
   ·rw [if_neg Lk] at fin
    have VL:(!(ps.map V.int).isEmpty)=TU:=by
     cases ps with
     | nil=>exact absurd rfl Lk
     | cons=>rfl
    refine eN Cd ?_
    refine eN Jt ?_
    refine eN MH ?_
    refine eN MG ?_
    refine fV VL ?_
    refine eN e6 ?_
    refine sJ fC ?_
    refine aL rs (λr=> .lst (r.l.map f)) (λr=> .lst (ps.map λp=>f (r.l.getD (p.fmod w).toNat .none))) (by unfold fA; refine af Fk ?_; rfl) rfl (λr hr acc N' a1 a2=> ?_) (by exact Y2 [_,_] [] (.l V0 V1) (.t V0 (.n 30)) (.l (.n 20000) V1) hn LL rfl) ?_
    ·have PW:=Bo ⟨r,hr⟩
     refine eN MG ?_
     refine sJ fC ?_
     refine aL ps V.int (λp=>f (r.l.getD (p.fmod w).toNat .none)) rfl rfl (λp hp cp N2 b1 b2=> ?_) (by exact Y3 [_,_,_] [] (.l V0 V1) (.l (.n 20000) V1) (.t V2 (.n 4)) (.e V0 V2) LL hm hl rfl) ⟨a1,a2⟩
     have pf:=rR NG p hp
     have m:=aY (a:=p) (b:=(w:Int)) (ab1 (rC pf.1 pf.2) (ZQ.mpr CZ))
     have hm:(p.fmod w).toNat < r.l.length:=by refine af ((T.r r hr).2) ?_; exact Yt m.1 m.2
     rw [js,oC hm,ZP] at b2
     refine eN C3 ?_
     refine af PW ?_
     refine mG (by exact Y2 [_] [_] (.o (.Q (.c V0) (.n 0))) (.L (.n 0) V0) (.T V0 (.c V0)) m.1 m.2 rfl) (by exact Y1 [_] [] (.t V0 (.n 4611686018427387904)) (.t V0 (.n 30)) hw rfl) ?_
     refine bA fC (u:=f r.l[(p.fmod w).toNat]) ?_ ⟨b1,b2⟩
     rw [place_lt m.1 (by exact Y2 [_] [_] (.T V0 (.n 1000000)) (.t V0 (.n 30)) (.T V0 (.c V0)) hw m.2 rfl)]
     show (r.l.map f)[_]? =_
     rw [Ou,oC hm]; rfl
    ·have e:(rs.map λr=>V.lst (ps.map λp=>f (r.l.getD (p.fmod w).toNat .none)))=fA f (ny (rs.map (·.l)) ps w):=by
      unfold fA ny
      rw [Fk,Fk]
      refine Um λr _=> ?_
      simp [Zw]
     refine af e ?_
     refine fin (N .next) h1 _ _ λaa h=> ?_
     exact h
 rintro en jO ⟨rfl,S4,Ft⟩
 by_cases hz:rs=[]
 ·subst hz
  refine eN e6 ?_
  exact q _ n3 u3 (S4.mono (by exact Y0 [_] [] (.l (.a V0 (.n 4)) (.a V0 (.n 10))) rfl) (by exact Y0 [_] [] (.l (.a V0 (.n 50)) (.a V0 (.n 100))) rfl)) Ft l3
 have rX:0 < rs.length:=ZC.mpr hz
 have PW:=Bo ⟨rs[0],yd _⟩
 subst PW
 have qc:=oi f (rs.map (·.l))
 rw [vk] at qc
 have Qp:(fA f (rs.map (·.l))).isEmpty=Q1:=by
  cases rs with
  | nil=>exact absurd rfl hz
  | cons=>rfl
 refine eN e6 ?_
 refine iB Qp ?_
 refine eN e5 ?_
 refine eN e6 ?_
 refine mM (n:=rs.length) (congrArg Nat.cast qc) S4.B (by exact Y1 [_] [] (.l (.a V0 (.n 4)) (.n 1000000)) (.l V0 (.n 800000)) hC rfl) (by exact Y2 [_,_] [] (.T (.n 0) (.c V0)) (.t (.n 0) V1) (.r (.e V0 V1)) rX qc rfl) (by exact Y2 [_,_] [] (.L (.c V0) (.n 1000)) (.t V1 (.n 30)) (.e V0 V1) hn qc rfl) λj kJ hj F5 B5=> ?_
 have S5:=S4.box F5 B5
 have CQ:=Ft.trans F5.t4
 have T5:=T.fr CQ
 obtain ⟨N5,o5,f5,g1,g2,_⟩:=T5.ne
 have hv:tb.l[j]? =vi (.ref rs[j].a):=by rw [T.l,Ou,oC hj]; rfl
 have Bt:=T5.r rs[j] (yd _)
 have Qo:=rL (f:=f) (oC hj)
 have Wc:∀p,∀{aa:St},Fr nr σ aa->Mk aa (bU rs[j].l p) (f (bU rs[j].l p)):=λp aa F=>by
  rcases oN rs[j].l p with e | e
  ·rw [e,xF]; exact .n
  ·exact ((T.f rs[j] (yd _)) _ e).fr F
 refine eN eZ ?_
 refine eN E9 ?_
 refine aB g1 rfl ?_
 refine bA (bT g2) (o6 (by exact Y2 [_,_] [] (.t V0 (.n 1000000)) (.t V1 (.n 30)) (.t V0 V1) hn hj rfl) hv) ?_
 refine eN MG ?_
 refine ii (is:=ps) (s:=rs[j]) S5.W Bt.1 (by exact Y2 [_,_] [] (.t V0 (.n 1000)) (.t V1 (.n 30)) (.e V0 V1) hw Bt.2 rfl) (by exact Y2 [_,_] [] (.t V0 (.n 1000)) (.t V1 (.n 4)) (.e V0 V1) hm hl rfl) λa6 pQ n6 u6 W6 F6 l6 h6=> ?_
 refine eN MG ?_
 refine sJ fC ?_
 refine aL ps V.int (λp=>f (bU rs[j].l p)) rfl rfl (λp hp acc N' b1 b2=> ?_) (by exact Y3 [_,_,_] [] (.l V0 V1) (.l (.n 20000) V1) (.t V2 (.n 4)) (.e V0 V2) LL hm hl rfl) ?_
 ·refine eN C3 ?_
  by_cases c1:-(wide:Int)<=p
  ·refine yZ (decide_eq_true (by exact Y1 [_] [_] (.L (.s (.n 0) (.c V0)) V0) (.L (.g (.c V0)) V0) c1 rfl)) ?_
   refine eN C3 ?_
   by_cases c2:p < wide
   ·have m:=aY (a:=p) (b:=(wide:Int)) (rD c1 c2)
    have hm:(p.fmod wide).toNat < rs[j].l.length:=by refine af Bt.2 ?_; exact Yt m.1 m.2
    rw [kX (by rw [Bt.2]; exact Y1 [_] [_] (.L (.s (.n 0) (.c V0)) V0) (.L (.g (.c V0)) V0) c1 rfl) (by refine af Bt.2 ?_; exact c2),Bt.2,js,oC hm,ZP] at b2
    refine fV (decide_eq_true c2) ?_
    refine eN e6 ?_
    refine bA fC (o6 (by exact Y2 [_,_] [] (.t V0 (.n 1000000)) (.t V1 (.n 30)) (.t V0 V1) hn hj rfl) Qo) ?_
    refine eN C3 ?_
    refine mG (Int.ne_of_gt (rD c1 c2)) (by exact Y1 [_] [] (.t V0 (.n 4611686018427387904)) (.t V0 (.n 30)) hw rfl) ?_
    refine bA fC (u:=f rs[j].l[(p.fmod wide).toNat]) ?_ ⟨b1,b2⟩
    rw [place_lt m.1 (by exact Y2 [_] [_] (.T V0 (.n 1000000)) (.t V0 (.n 30)) (.T V0 (.c V0)) hw m.2 rfl)]
    show (rs[j].l.map f)[_]? =_
    rw [Ou,oC hm]; rfl
   ·rw [fx (by rw [Bt.2]; exact λxx=>Y2 [_] [_] .f (.o (.T V0 (.c V0))) (.T V0 (.c V0)) c2 xx.2 rfl),xF] at b2
    refine gk (decide_eq_false c2) ?_
    exact ⟨b1,b2⟩
  ·rw [fx (by rw [Bt.2]; exact λxx=>Y2 [_] [_] .f (.o (.L (.g (.c V0)) V0)) (.L (.s (.n 0) (.c V0)) V0) c1 xx.1 rfl),xF] at b2
   refine E8 (decide_eq_false (by exact Y1 [_] [_] (.o (.L (.s (.n 0) (.c V0)) V0)) (.o (.L (.g (.c V0)) V0)) c1 rfl)) ?_
   exact ⟨b1,b2⟩
 refine eN MH ?_
 refine ji (S5.K.fr (ts:=[]) rfl F6) (by simp; exact Y1 [_] [] (.t (.a (.a V0 (.n 50)) (.n 1)) (.n 50000)) (.l V0 (.n 20000)) hL rfl) h6.one (.inl rfl) λC8 F7 K7=> ?_
 have S7:=(S5.step W6 F6 (by exact Y1 [] [_,_] (.L V0 V1) (.T V0 V1) l6 rfl)).kn F7 K7 (by exact Y0 [] [_] (.L V0 V0) rfl)
 have CP:=(CQ.trans F6.t0).trans F7.t2
 have SE:∀v∈ps.map (bU rs[j].l),Mk C8 v (f v):=λv hv=>by
  obtain ⟨p,_,rfl⟩:=vo.mp hv
  exact Wc p CP
 refine bJ (f:=f) (h6.fr (ts:=[2]) rfl F7.fr).al (by simp; exact Y3 [_,_,_] [] (.l V0 V1) (.l (.n 20000) V1) (.t V2 (.n 4)) (.e V0 V2) LL hm hl rfl) SE ?_
 have e8:ps.map (λp=>f (bU rs[j].l p))=(ps.map (bU rs[j].l)).map f:=by rw [Fk]; rfl
 refine cT (cD (cq SE) e8.symm) ?_
 exact q _ n6 u6 (S7.mono (by exact Y0 [_] [] (.l (.a (.a V0 (.n 4)) (.n 1)) (.a V0 (.n 10))) rfl) (by simp)) CP (by exact Y2 [] [_,_,_] (.L V0 V1) (.L V0 V2) (.T V2 V1) l3 l6 rfl)
theorem Kind.fr {σ aa} (h:Kind σ v s) (F:Fr ts σ aa):Kind aa v s:=by
 cases h with
 | n=>exact .n
 | t=>exact .t
 | i i=>exact .i i
 | z z=>exact .z z
 | r a c fs own s h1 c0 c3 c7 h3 h4 h5=>exact .r a c fs own s (F.get h1 (rS c0 c7)) c0 c3 c7 h3 (F.mod _ _ h4) h5
theorem tB {s:Ar} {pre:List Ar} {post:List V} {z:Str} (W:Wd I σ n u) (hr:∀r∈pre,aZ σ r) (hv:Kind σ v z) (hz:z.length<=100) (hl:pre.length<=1000)
  (x:∀a aa n' u',Wd I aa n' u'->Fr [] σ aa->n<=n'->Fw aa a "TypeError" (j' "no implicit conversion of "++z++j' " into Array")->X (.ref a) aa):(CC (k+99)).call 480 [.ref I.w,.ref s.a,.lst ((pre.map λr=> .ref r.a)++v::post)] Q X σ:=by
 refine C1 ⟨YL,202,[104,55,21],[],dU⟩ rfl rfl <| dG ?_; intro BY
 refine d9 (λr acc aa=>∀G_,(σ=aa->∀(ds es),pre=ds++es->r=(es.map λr=> .ref r.a)++v::post->acc.length=ds.length->G_)->G_) (λo_ o_ o_ o_=>rfl) (λv' r acc aa N hp h=> ?_) (λacc aa hp=> ?_) _ _ _ (λG_ k_=>k_ rfl ([]) pre rfl rfl rfl)
 ·refine hp _ λeS ds es hd ca uY=>bD eS ?_
  cases es with
  | nil=>
   simp at ca
   obtain ⟨rfl,rfl⟩:=ca
   exact jT W hv hz λa aV n2 u2 W2 F2 l2 s2 E2=>x a aV n2 u2 W2 F2 l2 E2
  | cons r0 es=>
   simp at ca
   obtain ⟨rfl,rfl⟩:=ca
   obtain ⟨o_,o_,o_,g1,g2⟩:=hr r0 (by refine af hd ?_; simp)
   have:=congrArg N8 hd
   simp at this
   refine dN g1 rfl ⟨by unfold bf; exact Y3 [_,_,_,_] [] (.t V0 (.n 100000)) (.l V1 (.n 1000)) (.e V0 V2) (.r (.e V1 (.a V2 (.a V3 (.n 1))))) hl uY this rfl,h _ _ λG_ k_=>k_ rfl (ds++ [r0]) es (by refine af hd ?_; simp) rfl (by simp [uY])⟩
 ·exact hp _ λeS ds es hd ca uY=>bD eS <| absurd ca.symm (by simp)
theorem tC {s:Ar} (W:Wd I σ n u) (hs:aZ σ s) (hr:∀r∈rs,aZ σ r/\r.l.length<=100) (hp:s.l.length<=20000/\¬kW s.l.length (rs.map (·.l.length))) (hn:rs.length<=1000)
  (x:∀a aa n' u',Wd I aa n' u'->Fr [] σ aa->n<=n'->n'+(u':Int)=n+(u:Int)+2->Fw aa a "ArgumentError" "argument too big"->X (.ref a) aa):(CC (k+99)).call 480 [.ref I.w,.ref s.a,.lst (rs.map λr=> .ref r.a)] Q X σ:=by
 refine C1 ⟨YL,202,[104,55,21],[],dU⟩ rfl rfl ?_
 obtain ⟨num,own,eB,h1,h2⟩:=hs
 have LL:(20000:Nat)<=bf:=by unfold bf; exact Y0 [] [] (.l (.n 20000) (.n 100000)) rfl
 refine aL rs (λr=> .ref r.a) (λr=> .ref r.it) rfl rfl (λr ca acc N h3 h4=> ?_) (Y2 [_,_] [] (.l V0 V1) (.l V0 (.n 1000)) (.l (.n 20000) V1) hn LL rfl) ?_
 ·obtain ⟨o_,o_,o_,g1,g2⟩:=((hr r ca).1)
  exact dN g1 rfl ⟨h3,h4⟩
 refine aB h1 rfl ?_
 refine dj (bT h2) ?_
 refine aB h1 rfl ?_
 refine sJ (bT h2) ?_
 refine mF (λv=> .lst [v]) (bT h2).items (λv hv acc N h3 h4=>⟨h3,h4⟩) (Y2 [_,_] [] (.l V0 V1) (.l V0 (.n 20000)) (.l (.n 20000) V1) hp.1 LL rfl) ?_
 refine ad1 rfl ?_
 refine aS (λr en aa=>∀G_:Prop,(σ=aa->en 104=vi (.ref I.w)->∀ke m,r=ke.map (λr=> .ref r.it)->((∀r∈ke,r∈rs))->en 40=vi (.int (m:Nat))->(¬kW m (ke.map (·.l.length)))->m<=20000->G_)->G_)
  (λo_ o_ o_ o_=>rfl) (λv r en aa N fP h3 h4 h5=> ?_) (λen aa fP=> ?_) _ _ _ (λG_ k_=>k_ rfl rfl rs s.l.length rfl (λo_ h=>h) rfl hp.2 hp.1)
 ·refine fP _ λeS e1 ke m ca hm e4 zr nP=> ?_
  refine bD eS ?_
  cases ke with
  | nil=>cases ca
  | cons r0 ke=>
   injection ca with q1 q2
   refine af q1 ?_; subst q2
   obtain ⟨o_,o_,o_,g1,g2⟩:=((hr r0 (hm r0 (.head _))).1)
   refine eN e4 ?_
   refine dj (bT g2) ?_
   refine iA (.inl (Y1 [_] [] (.t V0 (.n 18446744073709551616)) (.l V0 (.n 20000)) nP rfl)) ?_
   refine eN e1 ?_
   refine aE W.wo rfl ?_
   by_cases hb:m*r0.l.length<=20000
   ·refine cQ W (by exact_mod_cast hb) ?_
    exact h3 _ _ λG_ k_=>k_ rfl e1 ke (m*r0.l.length) rfl (λr h=>hm r (.tail _ h)) rfl (λh=>zr ⟨hb,h⟩) hb
   ·haveI yT:(20000:Int) <(m:Int)*(r0.l.length:Int):=by
     have:(20000:Int) <((m*r0.l.length:Nat):Int):=Y1 [_] [] (.T (.n 20000) (.c V0)) (.o (.l V0 (.n 20000))) hb rfl
     exact this
    exact pY W yT x
 ·refine ax λG_ ae=> ?_
  refine fP _ λeS e1 ke m ca hm e4 zr nP=> ?_
  refine bD eS ?_
  have:ke=[]:=by simpa using ca.symm
  subst this
  refine ae ?_
  exact absurd trivial zr
noncomputable def qr:Nat->List Nat->Bool
 | _,[]=>TU
 | m,s::r=>ae0 (m*s) 20000 && qr (m*s) r
theorem lY:∀(l:List Nat) (m:Nat),qr m l=TU↔kW m l
 | []=>λm=>⟨λo_=>trivial,λo_=>rfl⟩
 | s::r=>λm=>by
  show (ae0 (m*s) 20000 && qr (m*s) r)=TU↔m*s<=20000/\kW (m*s) r
  rw [Zu,ad5,lY r]
noncomputable def uV (s g:Nat):List Nat:=if g<=20 then R6 g s++ [0]++R6 (20 - g) s else R6 20 s
noncomputable def gS (s g:Nat):Nat:=cL ((s::uV s g).takeWhile (λx=>decide (x ≠ 0)))
noncomputable def Kj (s g:Nat):Bool:=if ae0 (gS s g) 20000 then qr s (uV s g)&& af8 (AI s (uV s g)) (if (s::uV s g).contains 0 then 0 else 1) else !(qr s (uV s g))
theorem A4:∀s < 5,∀g < 40,Kj s g=TU:=by decide+kernel
theorem yw {s:Nat} (hs:s<=4) (hg:g < 40):(gS s g<=20000/\kW s (uV s g)/\AI s (uV s g)=if 0∈s::uV s g then 0 else 1)∨(20000 < gS s g/\¬kW s (uV s g)):=by
 have h:=A4 s (Y1 [_] [] (.t V0 (.n 5)) (.l V0 (.n 4)) hs rfl) g hg
 unfold Kj at h
 split at h
 ·rename_i h1
  rw [Zu,lY,Nat.beq_eq] at h
  refine .inl ⟨vd h1,h.1,h.2.trans ?_⟩
  simp only [List.contains_iff_mem]
 ·rename_i h1
  refine .inr ⟨?_,?_⟩
  ·rw [ad5] at h1; exact Y1 [_] [] (.t (.n 20000) V0) (.o (.l V0 (.n 20000))) h1 rfl
  ·intro hp
   replace h:=((lY _ _).mpr hp)▸h
   exact dy h
theorem GA:∀(l:List Nat),0∈l->∃i,(l.map λ(x:Nat)=>(x:Int)).findIdx? (λx=>decide (x=0))=vi i/\l.take i=l.takeWhile (λx=>decide (x ≠ 0))/\i < l.length
 | []=>λh=>by cases h
 | a::l=>λh=>by
  by_cases ha:a=0
  ·exact af ha <| dH 0 (by rfl) (by rfl) (Z1 _)
  ·haveI h':0∈l:=by
    rcases ZV.mp h with e | e
    ·exact absurd e.symm ha
    ·exact e
   refine bZ (GA l h') λi h1 h2 h3=>dH (i+1) ?_ ?_ (by simp; exact h3)
   ·simp only [ZL,List.findIdx?_cons,h1]
    simp; exact ha
   ·simp only [List.take_succ_cons,h2,ad3]; simp [ha]
theorem zM {l:List Nat} (h:0∉l):l.takeWhile (λx=>decide (x ≠ 0))=l:=by
 induction l with
 | nil=>rfl
 | cons a l ih=>
  rw [ZV,not_or] at h
  simp only [ad3,ih h.2]
  have:¬a=0:=λe=>h.1 e.symm
  simp [this]
noncomputable def mO:Nat->Str
 | 0=> "nil"
 | 1=> "true"
 | 2=> "Integer"
 | 3=> "Symbol"
 | 4=> "String"
 | 5=> "Range"
 | _=> "Hash"
noncomputable def yb (a b c:Nat):Nat->V
 | 0=> .none
 | 1=> .bool TU
 | 2=> .int 5
 | 3=> .str "a"
 | 4=> .ref a
 | 5=> .ref b
 | _=> .ref c
theorem wV {P:Nat->Prop} (h0:P 0) (h1:P 1) (h2:P 2) (h3:P 3) (h4:P 4) (h5:P 5) (h6:P 6) (h:j < 7):P j:=
 ZA.mpr ⟨h0,ZA.mpr ⟨h1,ZA.mpr ⟨h2,ZA.mpr ⟨h3,ZA.mpr ⟨h4,ZA.mpr ⟨h5,List.forall_mem_singleton.mpr h6⟩⟩⟩⟩⟩⟩ j (List.mem_range.mpr h:j∈Hj 7)
theorem AX (h:j < 7): [V.str (j' "nil"),.str (j' "true"),.str (j' "Integer"),.str (j' "Symbol"),.str (j' "String"),.str (j' "Range"),.str (j' "Hash")][j]? =vi (.str (mO j)):=wV (P:=λj=> [V.str (j' "nil"),.str (j' "true"),.str (j' "Integer"),.str (j' "Symbol"),.str (j' "String"),.str (j' "Range"),.str (j' "Hash")][j]? =vi (.str (mO j))) rfl rfl rfl rfl rfl rfl rfl h
theorem Dg {b c:Nat} (h:j < 7): [V.none,.bool TU,.int 5,.str (j' "a"),.ref a,.ref b,.ref c][j]? =vi (yb a b c j):=wV (P:=λj=> [V.none,.bool TU,.int 5,.str (j' "a"),.ref a,.ref b,.ref c][j]? =vi (yb a b c j)) rfl rfl rfl rfl rfl rfl rfl h
theorem yD (h:j < 7):(mO j).length<=100:=by
 refine wV (P:=λj=>(mO j).length<=100) ?_ ?_ ?_ ?_ ?_ ?_ ?_ h <;> decide+kernel
theorem ya {b c:Nat} (h:j < 7) (ha:Kind σ (.ref a) "String") (hb:Kind σ (.ref b) "Range") (hc:Kind σ (.ref c) "Hash"):Kind σ (yb a b c j) (mO j):=
 wV (P:=λj=>Kind σ (yb a b c j) (mO j)) .n .t (.i 5) (.z _) ha hb hc h
theorem wn s:(j' "TypeError"++j' ": "++(j' "no implicit conversion of "++s++j' " into Array"))=j' "TypeError: no implicit conversion of "++s++j' " into Array":=by
 have e:j' "TypeError: no implicit conversion of "=j' "TypeError"++j' ": "++j' "no implicit conversion of ":=by decide+kernel
 refine af e ?_
 simp only [j4]
theorem AE {α:Type} (x:α) (n:Nat):(R6 n [x]).flatten=R6 n x:=by
 induction n with
 | zero=>rfl
 | succ n ih=>simp only [aa5,List.flatten_cons,ih]; rfl
theorem qX {Q:K} (e:i.toNat=m) (z:m<=bf) (z1:i < 1000000) (z2:-1000000 < i) (q:Q (.lst (R6 m v)) σ):jU .mul (.lst [v]) Q (.int i) σ:=by
 subst e
 refine Mu (by simpa using z) z1 z2 ?_
 rw [AE]; exact q
theorem EY {k:Int} {i:Nat} {Q:K} (h:qI k l=vi i) (q:Q (.int i) σ):xr l Q (.int k) σ:=by
 show rG (qI k l) _ _ _
 exact h▸q
theorem TX {x:Str}:pA σ (.str x) (.str x)=vi TU:=congrArg vi (decide_eq_true rfl)
theorem Az (h:j < 1000000):cg (j:Int)=TU:=by simp [cg]; exact Y1 [_] [] (.T (.c V0) (.n 1000000)) (.t V0 (.n 1000000)) h rfl
theorem On {s:String} {Q X:K} (h:en x=vi (.str (j' s))) (q:Q (.bool TU) σ):ba c (.cmp .eq (.var x) (.str s)) Q X en σ:=by
 show kh (en x) _ σ
 refine af h ?_
 show rG (vi (decide (j' s=j' s))) V.bool Q σ
 refine af (decide_eq_true rfl) ?_; exact q
set_option maxHeartbeats 1000000 in
set_option tactic.hygienic true in
theorem vN {kn:Nat} {b:Bool} (S:Ws I b bx kn σ n u C L) (hC:C<=800000)
  (hr:∀r∈rs,aZ σ r/\r.l.length<=4) (hn:0 < rs.length/\rs.length<=4)
  (q:∀aa n' u',Ws I b bx kn aa n' u' (C+10) L->Fr nr σ aa->n<=n'->Q (.bool TU) aa):(CC (k+107)).call 942 [.ref I.w,.ref bx,.lst (rs.map λr=> .ref r.a)] Q X σ:=by
 refine C1 ⟨YL,221,[104,5,108],[],fi⟩ rfl rfl <| dG ?_; intro BY
 have LL:20000<=bf:=by unfold bf; exact Y0 [] [] (.l (.n 20000) (.n 100000)) rfl
 obtain ⟨r0,rt,rfl⟩:∃r0 rt,rs=r0::rt:=by
  cases rs with
  | nil=>simp at hn
  | cons r0 rt=>exact rU r0 rt rfl
 refine mM rfl S.B (Y1 [_] [] (.l V0 (.n 1000000)) (.l V0 (.n 800000)) hC rfl) (Y0 [] [] (.T (.n 0) (.n 7)) rfl) (Y0 [] [] (.L (.n 7) (.n 1000)) rfl) λj aT hj F1 B1=>dR ?_; intro Re
 have S1:=S.box F1 B1
 refine bA fC (o6 (Y1 [_] [] (.t V0 (.n 1000000)) (.t V0 (.n 7)) hj rfl) (AX hj)) <| aE S1.W.wo rfl <| oa S1.W λa2 aV n2 u2 AM W2 F2 l2 s2 M2 g2 _=>aE W2.wo rfl <| AF W2 λa3 dq n3 u3 W3 F3 l3 O3=>aE W3.wo rfl <| sQ W3 λa4 jO n4 u4 W4 F4 l4 O4=>bA fC (o6 (Y1 [_] [] (.t V0 (.n 1000000)) (.t V0 (.n 7)) hj rfl) (Dg hj)) ?_
 have Ls:=ya hj (((.r a2 2 _ AM _ g2 (nz rfl) (nz rfl) (nz rfl) rfl M2 (by decide+kernel):Kind aV (.ref a2) "String").fr F3).fr F4) (O3.fr F4) O4
 have NE:=yD hj
 have x0:=F2.trans (F3.trans F4)
 have S4:=S1.step W4 x0 (Y3 [] [_,_,_,_] (.L V0 V1) (.T V0 V2) (.L V2 V3) (.L V3 V1) l2 l3 l4 rfl)
 generalize yb a2 a3 a4 j=v at*
 generalize mO j=z at*
 have SH:=Y1 [_] [] (.l V0 (.n 3)) (.l (.a V0 (.n 1)) (.n 4)) hn.2 rfl
 refine dR ?_; intro Zc
 refine EW fC rfl <| qX (m:=20) rfl (vd rfl) (by decide) (by decide) ?_
 haveI Lo:ag0 (1:Int).toNat ((r0::rt).map λr=>V.ref r.a)++R6 20 (V.ref r0.a)=(rt++R6 20 r0).map λr=> .ref r.a:=by
  simp only [Oq,ZT]; rfl
 refine iI (by rw [<-IQ,Lo,vk,IQ,Zy]; exact Y2 [_,_] [] (.l (.a V0 (.n 20)) V1) (.l (.n 20000) V1) (.l V0 (.n 3)) LL SH rfl) ?_
 simp only [Lo]
 haveI VV:∀r∈rt++R6 20 r0,aZ σ r:=λr ca=>by
  rcases Zr.mp ca with h | h
  ·exact (hr r (.tail _ h)).1
  ·simp only [ZM h]; exact (hr r0 (.head _)).1
 have qc:(rt++R6 20 r0).length<=24:=by rw [IQ,Zy]; exact Y1 [_] [] (.l (.a V0 (.n 20)) (.n 24)) (.l V0 (.n 3)) SH rfl
 generalize rt++R6 20 r0=oW at*
 have Jh:(oW.map λr=>V.ref r.a).length=oW.length:=vk ..
 refine cr S4.B (Y1 [_] [] (.l (.a V0 (.n 1)) (.n 1000000)) (.l V0 (.n 800000)) hC rfl) (Y0 [_] [] (.T (.n 0) (.a (.c V0) (.n 1))) rfl) (Y2 [_,_] [] (.L (.a (.c V0) (.n 1)) (.n 1000)) (.l V1 (.n 24)) (.e V0 V1) qc Jh rfl) λt kJ t0 t1 F5 B5=> ?_
 obtain ⟨j2,rfl,uZ⟩:=oT (m:=oW.length+1) t0 (Y2 [_,_] [_] (.T V0 (.c (.a V0 (.n 1)))) (.e V1 V0) (.T V0 (.a (.c V1) (.n 1))) Jh t1 rfl)
 have S5:=S4.box F5 B5
 have CQ:=(F1.t4.trans x0.t0).trans F5.t4
 have Sz:=Az (show j2 < 1000000 by exact Y2 [_,_] [] (.t V0 (.n 1000000)) (.l V1 (.n 24)) (.t V0 (.a V1 (.n 1))) qc uZ rfl)
 refine xL <| dG ?_; intro Zb
 refine gG (λaH aa=>∀G_,(∀n' u',aH 104=vi (.ref I.w)->aH 5=vi (.ref bx)->aH 108=vi (.lst ((r0::rt).map λr=>V.ref r.a))->aH 44=vi (.str z)->aH 81=vi (.str (j' "TypeError: no implicit conversion of "++z++j' " into Array"))->Ws I b bx kn aa n' u' (C+2) L->Fr nr σ aa->n<=n'->G_)->G_) (λN h1 _ _ _=> ?_) ?_
 ·refine EU fC Sz <| iI (by refine af ZE ?_; simp; exact Y4 [_,_,_,_] [] (.l (.a V0 (.n 1)) V1) (.l (.n 20000) V1) (.l V2 (.n 24)) (.t V3 (.a V2 (.n 1))) (.e V0 V3) LL qc uZ (ZI (Y1 [_,_] [] (.l V0 V1) (.t V0 (.a V1 (.n 1))) uZ rfl)) rfl) ?_
  refine EW fC Sz ?_
  refine iI (by simp; exact Y4 [_,_,_,_,_] [] (.l (.a (.a V0 (.n 1)) V1) V2) (.l (.n 20000) V2) (.l V3 (.n 24)) (.e V0 V4) (.e (.a V1 V4) V3) LL qc (ZI (Y1 [_,_] [] (.l V0 V1) (.t V0 (.a V1 (.n 1))) uZ rfl)) (N6 (Y1 [_,_] [] (.l V0 V1) (.t V0 (.a V1 (.n 1))) uZ rfl)) rfl) ?_
  have Mo:(oW.map λr=>V.ref r.a).take ((j2:Int).toNat)++ [v]++(oW.map λr=>V.ref r.a).drop ((j2:Int).toNat)=((oW.take j2).map λr=>V.ref r.a)++v::(oW.map λr=>V.ref r.a).drop j2:=by simp only [aa4,ab3]; rfl
  simp only [Mo]
  refine tB S5.W (λr ca=>(VV r (Z0 ca)).t CQ) (Ls.fr F5.fr) NE (by refine af ZE ?_; exact Y3 [_,_,_] [] (.l V0 (.n 1000)) (.l V1 (.n 24)) (.t V2 (.a V1 (.n 1))) (.e V0 V2) qc uZ (ZI (Y1 [_,_] [] (.l V0 V1) (.t V0 (.a V1 (.n 1))) uZ rfl)) rfl) λa6 pQ n6 u6 W6 F6 l6 E6=> ?_
  have q1:(j' "TypeError").length=9:=by decide+kernel
  have q2:(j' "no implicit conversion of ").length=26:=by decide+kernel
  have q3:(j' " into Array").length=11:=by decide+kernel
  refine E6.cV (by simp only [aJ,q1,q2,q3]; exact Y1 [_] [] (.l (.a (.n 9) (.a (.a (.n 26) V0) (.n 11))) (.n 900)) (.l V0 (.n 100)) NE rfl) ?_
  rw [wn]
  exact h1 _ _ λG_ k_=>k_ n6 u6 rfl rfl rfl rfl rfl ((S5.step W6 F6 l6).mono (Y0 [_] [] (.l (.a (.a V0 (.n 1)) (.n 1)) (.a V0 (.n 2))) rfl) (FF _)) (CQ.trans F6.t0) (Y4 [] [_,_,_,_,_] (.L V0 V1) (.T V0 V2) (.L V2 V3) (.L V3 V4) (.L V4 V1) l2 l3 l4 l6 rfl)
 refine λen pQ DM=>DM _ λn6 u6 eZ e5 nU XE Jt S6 xZ l6=> ?_
 have q2:(j' "TypeError: no implicit conversion of ").length=37:=by decide+kernel
 have q3:(j' " into Array").length=11:=by decide+kernel
 refine eN Jt <| eN XE <| jW (by refine af q2 ?_; exact Y1 [_] [] (.l (.a (.n 37) V0) (.n 1000)) (.l V0 (.n 100)) NE rfl) ?_
 refine jW (by simp only [aJ,q2,q3]; exact Y1 [_] [] (.l (.a (.a (.n 37) V0) (.n 11)) (.n 1000)) (.l V0 (.n 100)) NE rfl) ?_
 refine cT (uH TX) ?_
 have SJ:=hn.2
 generalize Ny:r0::rt=rs at*
 have Jh:(rs.map λr=>V.ref r.a).length=rs.length:=vk ..
 refine eN nU <| eN e5 <| eN nU <| cr S6.B (Y1 [_] [] (.l (.a V0 (.n 2)) (.n 1000000)) (.l V0 (.n 800000)) hC rfl) (Y2 [_,_] [] (.T (.n 0) (.c V0)) (.t (.n 0) V1) (.r (.e V0 V1)) hn.1 Jh rfl) (Y2 [_,_] [] (.L (.c V0) (.n 1000)) (.l V1 (.n 4)) (.e V0 V1) SJ Jh rfl) λt C8 t0 t1 F7 B7=> ?_
 obtain ⟨i,rfl,hi⟩:=oT (m:=rs.length) t0 (Y2 [_,_] [_] (.T V0 (.c V0)) (.e V1 V0) (.T V0 (.c V1)) Jh t1 rfl)
 have S7:=S6.box F7 B7
 have CP:=xZ.trans F7.t4
 have Gj:=hr rs[i] (yd _)
 have hv:(rs.map λr=>V.ref r.a)[i]? =vi (.ref rs[i].a):=by simp only [Ou,oC hi]; rfl
 generalize rs[i]=nJ at*
 revert nJ; refine qJ ?_; set_option tactic.hygienic false in intros
 refine bA fC (o6 (Y2 [_,_] [] (.t V0 (.n 1000000)) (.l V1 (.n 4)) (.t V0 V1) SJ hi rfl) hv) <| eN e5 <| mM rfl S7.B (Y1 [_] [] (.l (.a (.a V0 (.n 2)) (.n 1)) (.n 1000000)) (.l V0 (.n 800000)) hC rfl) (Y0 [] [] (.T (.n 0) (.n 40)) rfl) (Y0 [] [] (.L (.n 40) (.n 1000)) rfl) λg rl hg F8 B8=> ?_
 have S8:=S7.box F8 B8
 have C7:=CP.trans F8.t4
 refine dQ rfl <| dR ?_; intro Za
 refine gG (λaH aa=>∀G_,(∀(tw:List Ar) n' u',aH 104=vi (.ref I.w)->aH 42=vi (.ref nJ.a)->aH 126=vi (.lst (tw.map λr=>V.ref r.a))->((∀r∈tw,aZ aa r/\r.l.length<=4))->tw.map (·.l.length)=uV nJ.l.length g->Ws I b bx kn aa n' u' (C+4) L->Fr nr σ aa->n<=n'->G_)->G_) (λN h1 _ _ _=> ?_) ?_
 ·have mT:=Gj.1.t C7
  by_cases Gn:20 <(g:Int)
  ·refine fV (decide_eq_true Gn) <| qX (m:=20) rfl (vd rfl) (by decide) (by decide) <| h1 _ _ λG_ k_=>k_ (R6 20 nJ) n6 u6 eZ rfl (by refine af ZT ?_; rfl) (λr ca=> ?_) ?_ S8 C7 l6
   ·refine af (ZM ca) ?_; exact ⟨mT,Gj.2⟩
   ·unfold uV
    rw [if_neg (by exact Y1 [_] [] (.o (.l V0 (.n 20))) (.T (.n 20) (.c V0)) Gn rfl),ZT]
  ·refine gk (decide_eq_false Gn) <| qX (m:=g) rfl (Y2 [_,_] [] (.l V0 V1) (.l (.n 20000) V1) (.t V0 (.n 40)) LL hg rfl) (Y1 [_] [] (.T (.c V0) (.n 1000000)) (.t V0 (.n 40)) hg rfl) (Y0 [_] [] (.T (.g (.n 1000000)) (.c V0)) rfl) <| eN eZ <| aE S8.W.wo rfl <| bw S8.W fC λa9 x7 n9 u9 W9 F9 l9 s9 h9=> ?_
   obtain ⟨Vl,XS⟩:=h9.al.ar
   refine iI (by refine af Zy ?_; simp; exact Y2 [_,_] [] (.l (.a V0 (.n 1)) V1) (.l (.n 20000) V1) (.t V0 (.n 40)) LL hg rfl) ?_
   refine qX (m:=20 - g) (Y2 [_,_,_] [] (.e V0 V1) (.Q (.c V0) (.s (.n 20) (.c V2))) (.r (.e (.a V1 V2) (.n 20))) (Nj (Y1 [_] [] (.L (.n 0) (.s (.n 20) (.c V0))) (.o (.T (.n 20) (.c V0))) Gn rfl)) (N6 (Y1 [_] [] (.l V0 (.n 20)) (.o (.T (.n 20) (.c V0))) Gn rfl)) rfl) (Y2 [_,_,_] [] (.l V0 V1) (.l (.n 20000) V1) (.e (.a V0 V2) (.n 20)) LL (N6 (Y1 [_] [] (.l V0 (.n 20)) (.o (.T (.n 20) (.c V0))) Gn rfl)) rfl) (Y0 [_] [] (.T (.s (.n 20) (.c V0)) (.n 1000000)) rfl) (Y1 [_] [] (.T (.g (.n 1000000)) (.s (.n 20) (.c V0))) (.t V0 (.n 40)) hg rfl) ?_
   refine iI (by rw [IQ,Zy,Zy]; simp; exact Y2 [_,_,_] [] (.l (.a (.a V0 (.n 1)) V1) V2) (.l (.n 20000) V2) (.e (.a V1 V0) (.n 20)) LL (N6 (Y1 [_] [] (.l V0 (.n 20)) (.o (.T (.n 20) (.c V0))) Gn rfl)) rfl) <| h1 _ _ λG_ k_=>k_ (R6 g nJ++ [⟨a9,Vl,[]⟩]++R6 (20 - g) nJ) n9 u9 eZ rfl (by rw [Oq,Oq,ZT,ZT]; rfl) (λr ca=> ?_) ?_ (S8.step W9 F9 (Y1 [] [_,_] (.L V0 V1) (.T V0 V1) l9 rfl)) (C7.trans F9.t0) (Y2 [] [_,_,_] (.L V0 V1) (.L V0 V2) (.T V2 V1) l6 l9 rfl)
   ·rcases Zr.mp ca with h | h
    ·rcases Zr.mp h with h | h
     ·refine af (ZM h) ?_; exact ⟨mT.t F9.t0,Gj.2⟩
     ·rw [Zq] at h; refine af h ?_; exact ⟨XS,by simp⟩
    ·refine af (ZM h) ?_; exact ⟨mT.t F9.t0,Gj.2⟩
   ·unfold uV
    rw [if_pos (by exact Y1 [_] [] (.l V0 (.n 20)) (.o (.T (.n 20) (.c V0))) Gn rfl)]
    simp [-List.reduceReplicate]
 refine λXo x7 ph=>ph _ λtw n9 u9 Q4 TV Mg Nx c8 S9 MZ l9=> ?_
 have mT:=Gj.1.t MZ
 obtain ⟨num,own,eB,g1,g2⟩:=mT
 have mT:aZ x7 nJ:=⟨num,own,eB,g1,g2⟩
 have SA:=Gj.2
 have JN:tw.length<=21:=by
  have:=congrArg N8 c8
  rw [vk] at this
  refine af this ?_; unfold uV
  split
  ·rename_i WQ
   simp only [IQ,Zy,ZD,af4]
   rw [Nat.add_right_comm,Nat.add_sub_of_le WQ]; exact FF _
  ·simp
 generalize hs:nJ.l.length=s at*
 revert s; refine qJ ?_; set_option tactic.hygienic false in intros
 refine eN TV <| aB g1 rfl <| dj (bT g2) <| af hs <| eN Mg <| sJ fC <| aL tw (λr=> .ref r.a) (λr=> .int r.l.length) rfl rfl (λr ca acc N' a1 a2=> ?_) (Y2 [_,_] [] (.l V0 V1) (.l (.n 20000) V1) (.l V0 (.n 21)) LL JN rfl) ?_
 ·obtain ⟨_,_,_,x1,x2⟩:=(Nx r ca).1
  exact aB x1 rfl <| dj (bT x2) <| ⟨a1,a2⟩
 refine iI (by rw [vk]; simp; exact Y2 [_,_] [] (.l (.a (.n 1) V0) V1) (.l (.n 20000) V1) (.l V0 (.n 21)) LL JN rfl) ?_
 have Lr:=yw SA hg
 have Lp:∃uW,([V.int s]++tw.map λr=>V.int r.l.length)=(uW.map λ(x:Nat)=>(x:Int)).map V.int/\uW=s::uV s g:=by
  refine ⟨_,?_,rfl⟩
  refine bD c8 ?_; simp [Zw]
 obtain ⟨uW,Q5,Ey⟩:=Lp
 have Li:∀x∈uW,x<=4:=λx hx=>by
  rw [Ey] at hx
  refine mh (ZV.mp hx) ?_ λhx=> ?_
  ·exact SA
  ·rw [<-c8] at hx
   obtain ⟨r,ca,rfl⟩:=vo.mp hx
   exact (Nx r ca).2
 have Lg:uW.length<=22:=by rw [Ey,<-c8]; simp; exact JN
 rw [<-Ey] at Lr
 have SO:gS s g=cL (uW.takeWhile (λx=>decide (x ≠ 0))):=by refine af Ey ?_; rfl
 obtain ⟨Lz,NX⟩:∃Lz,(uW.map λ(x:Nat)=>(x:Int)).map V.int=Lz:=⟨_,rfl⟩
 have hI:fO Lz=vi (uW.map λ(x:Nat)=>(x:Int)):=by rw [<-NX,pb]
 rw [Q5,NX]
 refine dQ rfl <| gG (λaH aa=>∀G_,(x7=aa->aH 104=vi (.ref I.w)->aH 42=vi (.ref nJ.a)->aH 126=vi (.lst (tw.map λr=>V.ref r.a))->aH 98=vi (.lst Lz)->aH 40=vi (.int (gS s g))->G_)->G_) (λN h1 _ _ _=> ?_) ?_
 ·have loop:∀pre,(∀x∈pre,x<=4)->cL pre=gS s g->∀src,LV x7 src ((pre.map λ(x:Nat)=>(x:Int)).map V.int)->
    kFor 57 (bX (CC (k+106)) (.cons (.asg 40 (.bin .mul (.var 40) (.var 57))) .nil)) N X ((Xo.set 98 (.lst Lz)).set 40 (.int 1)) src x7:=by
   intro pre VN VK src Bq
   refine II Bq <| aS (λr en aa=>∀G_,(x7=aa->en 104=vi (.ref I.w)->en 42=vi (.ref nJ.a)->en 126=vi (.lst (tw.map λr=>V.ref r.a))->en 98=vi (.lst Lz)->∀ss (m:Nat),r=(ss.map λ(x:Nat)=>(x:Int)).map V.int->((∀x∈ss,x<=4))->en 40=vi (.int m)->ss.foldl (·*·) m=gS s g->G_)->G_)
    (λ_ _ _ h=>by refine bD (h _ λe _ _ _ _ _ _ _ _ _ _=>e) ?_; exact Bq.items) (λv r en aa N' fP h3 h4 h5=> ?_) (λen aa fP=> ?_) _ _ _ (λG_ k_=>k_ rfl Q4 TV Mg rfl pre 1 rfl VN rfl VK)
   ·refine fP _ λeS p1 p2 p3 p4 ss m ca hm e3 hf=>bD eS ?_
    cases ss with
    | nil=>cases ca
    | cons x ss=>
     injection ca with q1 q2
     refine af q1 ?_; subst q2
     have:=hm x (.head _)
     refine eN e3 <| iA (.inr (Y1 [_] [] (.t V0 (.n 18446744073709551616)) (.l V0 (.n 4)) this rfl)) <| dR ?_; intro Y'
     exact h3 _ _ λG_ k_=>k_ rfl p1 p2 p3 p4 ss (m*x) rfl (λy h=>hm y (.tail _ h)) (congrArg (λi=>vi (V.int i)) (af5 m x).symm) hf
   ·refine fP _ λeS p1 p2 p3 p4 ss m ca hm e3 hf=>bD eS ?_
    have:ss=[]:=by simpa using ca.symm
    subst this
    have Jj:m=gS s g:=hf
    exact h1 _ _ λG_ k_=>k_ rfl p1 p2 p3 p4 (by rw [e3,Jj])
  have Ln:∀b,decide (0∈uW.map λ(x:Nat)=>(x:Int))=b->uE x7 .Bj (.int 0) (.lst Lz)=vi b:=λb h=>by
   show aa8 _ (fO Lz)=_
   refine af hI ?_; exact congrArg vi h
  by_cases hz:0∈uW
  ·obtain ⟨i0,f1,f2,f3⟩:=GA uW hz
   have Qz:qI 0 Lz=vi i0:=by unfold qI; refine af hI ?_; exact f1
   refine cT (Ln TU (decide_eq_true (vo.mpr ⟨0,hz,rfl⟩))) <| EY Qz <| EU fC (Az (Y2 [_,_] [] (.t V0 (.n 1000000)) (.l V1 (.n 22)) (.t V0 V1) Lg f3 rfl)) ?_
   have:=loop (uW.take i0) (λx hx=>Li x (Z0 hx)) (by rw [f2,SO]) (.lst (Lz.take i0)) (by rw [<-NX,aa4,aa4]; exact fC)
   exact this
  ·refine cT (Ln Q1 (decide_eq_false λh=>by
    obtain ⟨x,hx,e⟩:=vo.mp h
    exact hz (by rw [show x=0 by exact Y1 [_] [] (.e V0 (.n 0)) (.Q (.c V0) (.n 0)) e rfl] at hx; exact hx))) ?_
   exact loop uW Li (by rw [SO,zM hz]) (.lst Lz) (by refine af NX ?_; exact fC)
 refine λXr _ ph=>ph _ λeS rF UO OM Sb Ho=>bD eS <| eN rF <| aE S9.W.wo rfl <| cE S9.W λx8 Of G0 Zo=> ?_
 have Jz:=S9.step Of G0 (Y0 [] [_] (.L V0 (.a V0 (.n 1))) rfl)
 have uT:=MZ.trans G0.t0
 have Uq:=Of.HI
 have Ig:∀r∈tw,aZ x8 r/\r.l.length<=4:=λr ca=>⟨(Nx r ca).1.t G0.t0,(Nx r ca).2⟩
 have zr:=c8
 refine xL <| dG ?_; intro Y9
 refine gG (λaH aa=>∀G_,(∀v n' u',aH 104=vi (.ref I.w)->aH 149=vi (.int (n9+1))->aH 98=vi (.lst Lz)->aH 40=vi (.int (gS s g:Nat))->aH 106=vi v->Ws I b bx kn aa n' u' (C+4) L->Fr nr σ aa->n<=n'->(((20000 < gS s g/\v=.str (j' "ArgumentError: argument too big")/\n'<=n9+43)∨(gS s g<=20000/\∃a as num own it,v=.ref a/\aa[a]? =vi (cB num own Q1 it)/\aa[it]? =vi (.list 1 as)/\as.length=if 0∈uW then 0 else 1)))->G_)->G_) (λN h1 _ _ _=> ?_) ?_
 ·refine eN rF ?_
  refine eN UO ?_
  refine eN OM ?_
  rcases Lr with ⟨Ip,nP,VZ⟩ | ⟨Ip,nP⟩
  ·refine iH (s:=nJ) Of (mT.t G0.t0) (λr ca=>(Ig r ca).1) ⟨by exact Y2 [_,_] [] (.l V0 (.n 20000)) (.e V0 V1) (.l V1 (.n 4)) hs Gj.2 rfl,by rw [zr,hs]; exact nP⟩ (by exact Y1 [_] [] (.l V0 (.n 1000)) (.l V0 (.n 21)) JN rfl) λa as C9 I9 G9 Rz GZ Ed Uf=> ?_
   have hT:=Uf.len
   rw [oq,vk,Fk,hs] at hT
   have Ez:tw.map (N8∘λr=>r.l)=uV s g:=zr
   rw [Ez,VZ] at hT
   obtain ⟨m,t,_,num,own,it,x1,_,x2,_⟩:=Uf
   exact h1 _ _ λG_ k_=>k_ _ I9 G9 rF rfl Sb Ho rfl (Jz.step Rz GZ Ed) (uT.trans GZ.t0) (by exact Y2 [] [_,_,_] (.L V0 V1) (.L V0 V2) (.L (.a V2 (.n 1)) V1) l9 Ed rfl) (.inr ⟨Ip,a,_,num,own,it,rfl,x1,x2,by simpa using hT⟩)
  ·refine tC (s:=nJ) Of (mT.t G0.t0) (λr ca=>⟨(Ig r ca).1,by have:=(Ig r ca).2; exact Y1 [_] [] (.l V0 (.n 100)) (.l V0 (.n 4)) this rfl⟩) ⟨by exact Y2 [_,_] [] (.l V0 (.n 20000)) (.e V0 V1) (.l V1 (.n 4)) hs Gj.2 rfl,by rw [zr,hs]; exact nP⟩ (by exact Y1 [_] [] (.l V0 (.n 1000)) (.l V0 (.n 21)) JN rfl) λa C9 I9 G9 Rz GZ Ed UC Yp=> ?_
   refine Yp.cV (by decide+kernel) ?_
   exact h1 _ _ λG_ k_=>k_ _ I9 G9 rF rfl Sb Ho rfl (Jz.step Rz GZ Ed) (uT.trans GZ.t0) (by exact Y2 [] [_,_,_] (.L V0 V1) (.L V0 V2) (.L (.a V2 (.n 1)) V1) l9 Ed rfl) (.inl ⟨Ip,congrArg V.str (by decide+kernel),by exact Y2 [_,_] [_,_] (.L V0 (.a V1 (.n 43))) (.l V0 (.n 40)) (.Q (.a V0 (.c V1)) (.a (.a (.a V1 (.n 1)) (.c V0)) (.n 2))) Uq UC rfl⟩)
 refine λXq C9 ph=>ph _ λv I9 G9 OJ OI UG UH Hh Jy M0 Ed hv=> ?_
 refine eN UH ?_
 rcases hv with ⟨Ip,rfl,Qn⟩ | ⟨Ip,a,as,num,own,it,rfl,x1,x2,EA⟩
 ·have nP:(20000:Int) <(gS s g:Int):=by exact Y1 [_] [] (.T (.n 20000) (.c V0)) (.t (.n 20000) V0) Ip rfl
  refine pv (decide_eq_true nP) ?_
  refine dG ?_; intro Y8
  refine On Hh ?_
  refine eN OJ ?_
  refine aE Jy.W.wo rfl ?_
  refine cE Jy.W λOk Yd ri Zn=> ?_
  refine eN OI ?_
  have:I9+1 -(n9+1) < 50:=by exact Y1 [] [_,_] (.T (.s (.a V0 (.n 1)) (.a V1 (.n 1))) (.n 50)) (.L V0 (.a V1 (.n 43))) Qn rfl
  have qq:=q _ _ G9 ((Jy.step Yd ri (by exact Y0 [] [_] (.L V0 (.a V0 (.n 1))) rfl)).mono (by exact Y0 [_] [] (.l (.a V0 (.n 4)) (.a V0 (.n 10))) rfl) (FF _)) (M0.trans ri.t0) (by exact Y1 [] [_,_] (.L V0 (.a V1 (.n 1))) (.L V0 V1) Ed rfl)
  rw [<-decide_eq_true this] at qq
  refine xO ?_
  exact qq
 ·have nP:¬(20000:Int) <(gS s g:Int):=by exact Y1 [_] [] (.o (.T (.n 20000) (.c V0))) (.l V0 (.n 20000)) Ip rfl
  refine iB (decide_eq_false nP) ?_
  refine eN Hh ?_
  refine pt x1 ?_
  refine eN Hh ?_
  refine aB x1 rfl ?_
  refine dj (bT x2) ?_
  refine eN UG ?_
  have Ll:∀b,decide ((0:Int)∈uW.map λ(x:Nat)=>(x:Int))=b->uE C9 .FI (.int 0) (.lst Lz)=vi (!b):=λb h=>by
   show aa8 _ (aa8 _ (fO Lz))=_
   rw [hI]; exact congrArg (λb=>vi (!b)) h
  have qq:=q _ _ G9 (Jy.mono (by exact Y0 [_] [] (.l (.a V0 (.n 4)) (.a V0 (.n 10))) rfl) (FF _)) M0 Ed
  by_cases hz:0∈uW
  ·rw [if_pos hz] at EA
   refine cT (Ll TU (decide_eq_true (vo.mpr ⟨0,hz,rfl⟩))) ?_
   rw [EA]
   exact qq
  ·rw [if_neg hz] at EA
   refine cT (Ll Q1 (decide_eq_false λh=>by
    obtain ⟨x,hx,e⟩:=vo.mp h
    exact hz (by rw [show x=0 by exact Y1 [_] [] (.e V0 (.n 0)) (.Q (.c V0) (.n 0)) e rfl] at hx; exact hx))) ?_
   rw [EA]
   exact qq
theorem aZ.jH {r:Ar} (h:aZ σ r) (hj:σ[j]? =vi (.list 1 l)) (ne:r.it ≠ j):aZ (σ.set j o) r:=by
 obtain ⟨num,own,eB,h1,h2⟩:=h
 exact ⟨num,own,eB,ak h1 hj (by simp),(Xr (ab2 ne)).symm▸h2⟩
theorem Mk.jH {u:V} (h:Mk σ v u) (hj:σ[j]? =vi (.list 1 l)):Mk (σ.set j o) v u:=by
 cases h with
 | r a c fs i h1 h2 h3 h4=>exact .r a c fs i (ak h1 hj (by simp)) h2 h3 h4
 | n=>exact .n
 | o=>exact .o
 | s=>exact .s
 | t=>exact .t
theorem Ws.jH {b:Bool} {kn:Nat} (S:Ws I b bx kn σ n u C L) (hj:σ[j]? =vi (.list 1 l)):Ws I b bx kn (σ.set j o) n u C L:=by
 obtain ⟨W,⟨g,s,c,z,B,b1,b2,b3,b4,b5⟩,ks,K1,K2⟩:=S
 exact ⟨W.cu hj _,⟨g,s,c,z,(ak B hj (by simp)),b1,b2,b3,b4,b5⟩,ks,ak K1 hj (by simp),K2⟩
structure wO (σ:St) (f:V->V) (ars rs cs:List Ar) (tb cb:Ar) (p q:Nat):Prop where
 pq:p<=q
 ar:∀r∈ars,aZ σ r/\r.it < p
 rw:∀r∈rs,(∃num own,σ[r.a]? =vi (cB num own Q1 r.it)/\σ[r.it]? =vi (.list 1 r.l))/\p<=r.it/\r.it < q
 cl:∀r∈cs,aZ σ r/\q<=r.it
 t:aZ σ tb/\q<=tb.it
 c:aZ σ cb/\q<=cb.it
 tl:tb.l=rs.map λr=> .ref r.a
 Jw:cb.l=cs.map λr=> .ref r.a
 fr:∀r∈rs,∀v∈r.l,Mk σ v (f v)
 fc:∀r∈cs,∀v∈r.l,Mk σ v (f v)
theorem wO.Nf {p q:Nat} (H:wO σ f ars rs cs tb cb p q):∀r∈rs,aZ σ r:=λr hr=>by
 obtain ⟨⟨num,own,h1,h2⟩,o_⟩:=H.rw r hr
 exact ⟨num,own,Q1,h1,h2⟩
theorem wO.Gx {p q:Nat} (H:wO σ f ars rs cs tb cb p q) (F:Fr nr σ aa):wO aa f ars rs cs tb cb p q:=
 ⟨H.pq,λr h=>⟨(H.ar r h).1.t F,(H.ar r h).2⟩,λr h=>⟨by refine dP (H.rw r h) λy1 o_=> ?_; refine bV y1 λnum own h1 h2=> ?_; exact dh num own (F.get h1 rfl) (F.get h2 rfl),(H.rw r h).2⟩,λr h=>⟨(H.cl r h).1.t F,(H.cl r h).2⟩,⟨H.t.1.t F,H.t.2⟩,⟨H.c.1.t F,H.c.2⟩,H.tl,H.Jw,λr h v hv=>(H.fr r h v hv).fr F,λr h v hv=>(H.fc r h v hv).fr F⟩
set_option tactic.hygienic true in
theorem wO.push {p q:Nat} (H:wO σ f ars rs cs tb cb p q) (nd:(rs.map (·.it)).Nodup) (hj:j < rs.length) (xF:f .none=.str "None"):
  wO (σ.set rs[j].it (.list 1 (rs[j].l++ [.none]))) f ars (rs.set j ⟨rs[j].a,rs[j].it,rs[j].l++ [.none]⟩) cs tb cb p q:=by
 have hm:rs[j]∈rs:=yd _
 refine iz (H.rw _ hm) λy1 b1 b2=>bV y1 λnum own g1 g2=> ?_
 have pf:∀r∈rs.set j ⟨rs[j].a,rs[j].it,rs[j].l++ [.none]⟩,r=⟨rs[j].a,rs[j].it,rs[j].l++ [.none]⟩∨(r∈rs/\r.it ≠ rs[j].it):=λr hr=>by
  obtain ⟨i,hi,rfl⟩:=List.getElem_of_mem hr
  replace hi:=af6▸hi
  rw [ab8]
  split
  ·exact .inl rfl
  ·rename_i e
   refine .inr ⟨yd _,λh=>e ?_⟩
   have hn:=List.pairwise_iff_getElem.mp nd
   rcases Nat.lt_trichotomy i j with h' | h' | h'
   ·have:=hn i j (by simpa using hi) (by simpa using hj) h'
    simp at this; exact absurd h this
   ·exact h'.symm
   ·have:=hn j i (by simpa using hj) (by simpa using hi) h'
    simp at this; exact absurd h.symm this
 refine ⟨H.pq,λr h=>⟨(H.ar r h).1.jH g2 (Y2 [_,_,_] [] (.o (.r (.e V0 V1))) (.l V2 V1) (.t V0 V2) b1 ((H.ar r h).2) rfl),(H.ar r h).2⟩,λr h=> ?_,λr h=>⟨(H.cl r h).1.jH g2 (Y2 [_,_,_] [] (.o (.e V0 V1)) (.t V1 V2) (.l V2 V0) b2 ((H.cl r h).2) rfl),(H.cl r h).2⟩,⟨H.t.1.jH g2 (Y2 [_,_,_] [] (.o (.e V0 V1)) (.t V1 V2) (.l V2 V0) b2 H.t.2 rfl),H.t.2⟩,⟨H.c.1.jH g2 (Y2 [_,_,_] [] (.o (.e V0 V1)) (.t V1 V2) (.l V2 V0) b2 H.c.2 rfl),H.c.2⟩,?_,H.Jw,λr h v hv=> ?_,λr h v hv=>(H.fc r h v hv).jH g2⟩
 ·rcases pf r h with rfl | ⟨h1,h2⟩
  ·exact cW (dh num own (ak g1 g2 (by simp)) (aP g2 _)) b1 b2
  ·exact dP (H.rw r h1) λy2 k3=>bV y2 λHz md k1 k2=>⟨(dh Hz md (ak k1 g2 (by simp)) ((Xr (ab2 h2)).symm▸k2)),k3⟩
 ·refine af H.tl <| List.ext_getElem (by simp) λi h1 h2=> ?_
  simp only [ab7,ab8]
  split
  ·rename_i e; subst e; rfl
  ·rfl
 ·rcases pf r h with rfl | ⟨h1,h2⟩
  ·rcases Zr.mp hv with h | h
   ·exact (H.fr _ hm v h).jH g2
   ·rw [Zq] at h; refine af h ?_
    exact xF▸.n
  ·exact (H.fr r h1 v hv).jH g2
set_option tactic.hygienic true in
theorem wO.JW {p q:Nat} (H:wO σ f ars rs cs tb cb p q) {a:Ar} (ha:a∈ars) (o:O):
  wO (σ.set a.it o) f [] rs cs tb cb p q/\σ[a.it]? =vi (.list 1 a.l):=by
 refine dP (H.ar a ha) λy1 b1=> ?_
 obtain ⟨num,own,eB,g1,g2⟩:=y1
 have Qg:=H.pq
 refine ⟨⟨H.pq,λr h=>(nomatch h),λr h=> ?_,λr h=>⟨(H.cl r h).1.jH g2 (Y3 [_,_,_,_] [] (.o (.e V0 V1)) (.t V1 V2) (.l V2 V3) (.l V3 V0) b1 Qg ((H.cl r h).2) rfl),(H.cl r h).2⟩,⟨H.t.1.jH g2 (Y3 [_,_,_,_] [] (.o (.e V0 V1)) (.t V1 V2) (.l V2 V3) (.l V3 V0) b1 Qg H.t.2 rfl),H.t.2⟩,⟨H.c.1.jH g2 (Y3 [_,_,_,_] [] (.o (.e V0 V1)) (.t V1 V2) (.l V2 V3) (.l V3 V0) b1 Qg H.c.2 rfl),H.c.2⟩,H.tl,H.Jw,λr h v hv=>(H.fr r h v hv).jH g2,λr h v hv=>(H.fc r h v hv).jH g2⟩,g2⟩
 exact iz (H.rw r h) λy2 k3 k4=>bV y2 λHz md k1 k2=>cW (dh Hz md (ak k1 g2 (by simp)) (by rw [Xr (by exact Y2 [_,_,_] [] (.o (.r (.e V0 V1))) (.t V0 V2) (.l V2 V1) b1 k3 rfl)]; exact k2)) k3 k4
theorem zR (a b:Nat):j' "IndexError"++j' ": "++wT a b=j' "IndexError: element size differs ("++j' (toString (a:Int))++j' " should be "++j' (toString (b:Int))++j' ")":=by
 have e:j' "IndexError: element size differs ("=j' "IndexError"++j' ": "++j' "element size differs (":=by decide+kernel
 refine af e ?_
 unfold wT
 simp only [j4]
theorem wR l:aG [l] l.length=l.map λv=> [v]:=by
 unfold aG
 refine af (if_neg (ae7 _ _)) <| List.ext_getElem (by grind) λi h1 h2=> ?_
 have:i < l.length:=by simpa using h1
 simp [js,this]
theorem TY {α:Type} (j:Nat) (a b:α):(if 0=j then a else b)=if j=0 then a else b:=by
 by_cases e:j=0
 ·refine af e ?_; rfl
 ·rw [if_neg e,if_neg (ab2 e)]
theorem GD {Q:K} (h:b=r) (q:Q (.lst (bif r then [v] else [])) σ):jU .mul (.lst [v]) Q (.int (if b=TU then 1 else 0)) σ:=by
 subst h; cases b
 ·exact qX rfl (Z8 _) (by decide) (by decide) q
 ·exact qX rfl (vd rfl) (by decide) (by decide) q
theorem tJ f (rs:List Ar):(rs.map λr=>V.lst (r.l.map f))=fA f (rs.map (·.l)):=by
 unfold fA
 simp only [Fk]; rfl
set_option maxHeartbeats 1000000 in
set_option tactic.hygienic true in
theorem CE {kn:Nat} {b:Bool} {p0 q0:Nat} (S:Ws I b bx kn σ n u C L) (hC:C<=800000) (hL:L<=20000)
  (H:wO σ f ars rs cs tb cb p0 q0) (nd:(rs.map (·.it)).Nodup) (hw:∀r∈rs,r.l.length=ars.length) (ha:0 < ars.length/\ars.length<=4) (lP:∀r∈ars,r.l.length<=4) (hn:rs.length < 30) (xF:f .none=.str "None") (pg:cs.length < 30/\∀c∈cs,c.l.length < 30)
  (q:∀aa n' u',Wd I aa n' u'->kH b bx aa (C+10)->n<=n'->Q (.bool TU) aa):(CC (k+107)).call 947 [.ref I.w,.ref bx,.lst (ars.map λr=> .ref r.a),.ref tb.a,.ref cb.a,.ref kn,.lst (fA f (rs.map (·.l)))] Q X σ:=by
 refine C1 ⟨YL,216,[104,5,108,100,131,84,6],[],gu⟩ rfl rfl ?_
 have LL:20000<=bf:=by unfold bf; exact Y0 [] [] (.l (.n 20000) (.n 100000)) rfl
 have qc:=oi f (rs.map (·.l))
 rw [vk] at qc
 have Qq:(ars.map λr=>V.ref r.a).length=ars.length:=vk ..
 generalize Vy:ars.length=wd at*
 refine dQ rfl ?_
 rw [qc,Qq]
 refine dG ?_; intro e0
 obtain ⟨cn,co,cf,c1,c2⟩:=H.c.1
 refine aB c1 rfl <| sJ (bT c2) <| aL cs (λr=> .ref r.a) (λr=> .lst (r.l.map f)) H.Jw (bT c2).items (λr hr acc N a1 a2=> ?_) (Y2 [_,_] [] (.l V0 V1) (.t V0 (.n 30)) (.l (.n 20000) V1) pg.1 LL rfl) ?_
 ·exact bJ (H.cl r hr).1.al (by have:=pg.2 r hr; exact Y2 [_,_] [] (.l V0 V1) (.l (.n 20000) V1) (.t V0 (.n 30)) LL this rfl) (H.fc r hr) ⟨a1,a2⟩
 simp only [tJ]
 refine dR ?_; intro e1
 refine gG (λaH aa=>∀G_,(∀(j:Nat) gc,aH 104=vi (.ref I.w)->aH 5=vi (.ref bx)->aH 108=vi (.lst (ars.map λr=> .ref r.a))->aH 100=vi (.ref tb.a)->aH 131=vi (.ref cb.a)->aH 84=vi (.ref kn)->aH 40=vi (.int rs.length)->aH 65=vi (.int wd)->aH 97=vi (.lst (fA f (cs.map (·.l))))->aH 60=vi (.int j)->aH 6=vi (.lst (fA f (gc.map (·.l))))->gc.length=rs.length->((0 < rs.length->j < rs.length))->((∀i r,gc[i]? =vi r->r.l.length=if i=j then wd+1 else wd))->Ws I b bx kn aa n u (C+2) L->wO aa f ars gc cs tb cb p0 q0->G_)->G_) (λN h1 _ _ _=> ?_) ?_
 ·by_cases hz:rs=[]
  ·have Vv:rs.length=0:=by refine af hz ?_; rfl
   exact iB (decide_eq_false (Y1 [_] [] (.o (.T (.n 0) (.c V0))) (.e V0 (.n 0)) Vv rfl)) <| h1 _ _ λG_ k_=>k_ 0 rs rfl rfl rfl rfl rfl rfl rfl rfl rfl rfl rfl rfl (λh=>h) (λi r h=>by replace h:=hz▸h; exact aI h) (S.mono (Y0 [_] [] (.l V0 (.a V0 (.n 2))) rfl) (FF _)) H
  ·have rX:=ZC.mpr hz
   refine pv (decide_eq_true (Y1 [_] [] (.T (.n 0) (.c V0)) (.t (.n 0) V0) rX rfl)) <| mM rfl S.B (Y1 [_] [] (.l V0 (.n 1000000)) (.l V0 (.n 800000)) hC rfl) (Y1 [_] [] (.T (.n 0) (.c V0)) (.t (.n 0) V0) rX rfl) (Y1 [_] [] (.L (.c V0) (.n 1000)) (.t V0 (.n 30)) hn rfl) λj aT hj F1 B1=> ?_
   have S1:=S.box F1 B1
   have H1:=H.Gx F1.t4
   obtain ⟨tn,to,tf,t1,t2⟩:=H1.t.1
   have hv:tb.l[j]? =vi (.ref rs[j].a):=by simp only [H.tl,Ou,oC hj]; rfl
   obtain ⟨⟨num,own,g1,g2⟩,_⟩:=H1.rw rs[j] (yd _)
   refine aB t1 rfl <| bA (bT t2) (o6 (Y2 [_,_] [] (.t V0 (.n 1000000)) (.t V1 (.n 30)) (.t V0 V1) hn hj rfl) hv) ?_
   have Nv:=hw rs[j] (yd _)
   refine ir S1.W g1 rfl rfl g2 (by simp only [Zx]; exact Y2 [_,_] [] (.l (.a V0 (.n 1)) (.n 20000)) (.l V1 (.n 4)) (.e V0 V1) ha.2 Nv rfl) ?_
   have g3:=ak (q:=.list 1 (rs[j].l++ [.none])) g1 g2 (by simp)
   refine aB g3 rfl <| aB g3 rfl <| iB (by simp) ?_
   have H2:=H1.push nd hj xF
   generalize Lj:rs.set j ⟨rs[j].a,rs[j].it,rs[j].l++ [.none]⟩=gc at*
   have xE:gc.length=rs.length:=by rw [<-Lj,af6]
   have NS:∀i hi,gc[i]? =vi (if j=i then ⟨rs[j].a,rs[j].it,rs[j].l++ [.none]⟩ else rs[i]):=λi hi=>by
    rw [<-Lj,oC (by simpa using hi),ab8]
   have gZ:∀i r,gc[i]? =vi r->r.l.length=if i=j then wd+1 else wd:=λi r h=>by
    have hi:i < rs.length:=Y2 [_,_,_] [] (.t V0 V1) (.e V2 V1) (.t V0 V2) xE ((Z2.mp h).1) rfl
    refine bD (se (NS i hi) h) ?_
    by_cases e:j=i
    ·subst e; simp [Nv]
    ·rw [if_neg e,if_neg (ab2 e)]; exact hw _ (yd _)
   refine zy (⟨Y0 [] [] (.T (.g (.n 1000000)) (.n 0)) rfl,⟨Y0 [] [] (.T (.n 0) (.n 1000000)) rfl,⟨Y0 [_] [] (.T (.g (.n 1000000)) (.c V0)) rfl,Y1 [_] [] (.T (.c V0) (.n 1000000)) (.t V0 (.n 30)) hn rfl⟩⟩⟩) ?_
   rw [db]
   refine aL (Hj rs.length) (λi=> .int i) (λi=> .lst ((gc.getD i ⟨0,0,[]⟩).l.map f)) rfl rfl (λi hi acc N' a1 a2=> ?_) (by refine af ab5 ?_; exact Y2 [_,_] [] (.l V0 V1) (.t V0 (.n 30)) (.l (.n 20000) V1) hn LL rfl) ?_
   ·have jf:i < rs.length:=by simpa using hi
    have VY:=rL (f:=f) (oC jf)
    rw [js,NS i jf,ZP] at a2
    refine bA fC (o6 (Y2 [_,_] [] (.t V0 (.n 1000000)) (.t V1 (.n 30)) (.t V0 V1) hn jf rfl) VY) ?_
    have Sv:=hw rs[i] (yd _)
    by_cases e:j=i
    ·subst e
     simp [xF] at a2
     exact GD (decide_eq_true rfl) <| iI (by rw [vk]; show _+1<=_; exact Y3 [_,_,_] [] (.l (.a V0 (.n 1)) V1) (.l (.n 20000) V1) (.l V2 (.n 4)) (.e V0 V2) LL ha.2 Sv rfl) <| ⟨a1,a2⟩
    ·rw [if_neg e] at a2
     refine GD (r:=Q1) (by simp; exact λh=>e (Int.ofNat.inj h).symm) <| iI (by rw [vk]; show _+0<=_; exact Y3 [_,_,_] [] (.l (.a V0 (.n 0)) V1) (.l (.n 20000) V1) (.l V2 (.n 4)) (.e V0 V2) LL ha.2 Sv rfl) ?_
     rw [cond_false,ZU]
     exact ⟨a1,a2⟩
   ·have e:(Hj rs.length).map (λi=>V.lst ((gc.getD i ⟨0,0,[]⟩).l.map f))=fA f (gc.map (·.l)):=by
     unfold fA
     refine af Fk <| List.ext_getElem (by simp [xE]) λi h1 h2=> ?_
     have:i < gc.length:=by simpa using h2
     simp [js,this]
    exact af e <| h1 _ _ λG_ k_=>k_ j gc rfl rfl rfl rfl rfl rfl rfl rfl rfl rfl rfl xE (λ_=>hj) gZ ((S1.jH g2).mono (Y0 [_] [] (.l (.a V0 (.n 1)) (.a V0 (.n 2))) rfl) (FF _)) H2
 refine λen aV ph=>ph _ λj gc eZ e5 nU E9 Rm MH C4 C3 XD T8 e6 xE hj gZ S2 H2=> ?_
 clear H hw
 refine eN nU <| eN e5 <| eN C3 <| mM rfl S2.B (Y1 [_] [] (.l (.a V0 (.n 2)) (.n 1000000)) (.l V0 (.n 800000)) hC rfl) (Y1 [_] [] (.T (.n 0) (.c V0)) (.t (.n 0) V0) ha.1 rfl) (Y1 [_] [] (.L (.c V0) (.n 1000)) (.l V0 (.n 4)) ha.2 rfl) λi dq hi F3 B3=> ?_
 have S3:=S2.box F3 B3
 have H3:=H2.Gx F3.t4
 have jf:i < ars.length:=Y2 [_,_,_] [] (.t V0 V1) (.r (.e V1 V2)) (.t V0 V2) Vy hi rfl
 have hv:(ars.map λr=>V.ref r.a)[i]? =vi (.ref ars[i].a):=by rw [Ou,oC jf]; rfl
 have NF:ars[i]∈ars:=yd _
 have SR:=lP _ NF
 generalize ars[i]=mt at*
 revert mt; refine qJ ?_; intro mt hv NF SR
 refine bA fC (o6 (Y2 [_,_] [] (.t V0 (.n 1000000)) (.l V1 (.n 4)) (.t V0 V1) ha.2 hi rfl) hv) <| xL <| gG (λaH aa=>∀G_,(aH=en.set 42 (.ref mt.a)->Ws I b bx kn aa n u (C+3) L->wO aa f [] gc cs tb cb p0 q0->G_)->G_) (λN h1 _ _ _=> ?_) ?_
 ·obtain ⟨⟨num,own,eB,g1,g2⟩,_⟩:=H3.ar _ NF
  refine aB g1 rfl ?_
  cases eB with
  | true=>
   exact h1 _ _ λG_ k_=>k_ rfl S3 ⟨H3.pq,λr h=>(nomatch h),H3.rw,H3.cl,H3.t,H3.c,H3.tl,H3.Jw,H3.fr,H3.fc⟩
  | false=>
   refine eN eZ <| ir S3.W g1 rfl rfl g2 (by refine af Zx ?_; exact Y1 [_] [] (.l (.a V0 (.n 1)) (.n 20000)) (.l V0 (.n 4)) SR rfl) ?_
   exact h1 _ _ λG_ k_=>k_ rfl (S3.jH g2) ((H3.JW NF _).1)
 refine λ_ jO ph=>ph _ λeS S4 H4=>af eS <| dG ?_; intro e4
 obtain ⟨tn,to,tf,t1,t2⟩:=H4.t.1
 obtain ⟨cn,co,cf,c1,c2⟩:=H4.c.1
 have PY:∀r∈gc,r.l.length<=wd+1:=λr hr=>by
  obtain ⟨i,h⟩:=List.getElem?_of_mem hr
  refine af (gZ i r h) ?_; split
  ·exact FF _
  ·exact ae9 _
 have UN:cw 4 (.lst (fA f (gc.map (·.l))))=TU:=jA λl hl v hv=>by
  obtain ⟨r,hr,rfl⟩:=vo.mp hl
  exact H4.fr r hr v hv
 have UM:=jA λl hl v hv=>by
  obtain ⟨r,hr,rfl⟩:=vo.mp hl
  exact H4.fc r hr v hv
 refine eN E9 <| aB t1 rfl <| sJ (bT t2) <| aL gc (λr=> .ref r.a) (λr=> .lst (r.l.map f)) H4.tl (bT t2).items (λr hr acc N a1 a2=> ?_) (Y3 [_,_,_] [] (.l V0 V1) (.t V2 (.n 30)) (.l (.n 20000) V1) (.e V0 V2) hn LL xE rfl) ?_
 ·exact bJ (H4.Nf r hr).al (Y3 [_,_,_] [] (.l V0 V1) (.l (.n 20000) V1) (.l V2 (.n 4)) (.l V0 (.a V2 (.n 1))) LL ha.2 (PY r hr) rfl) (H4.fr r hr) ⟨a1,a2⟩
 rw [tJ]
 refine eN e6 <| cT (uH (cD UN rfl)) <| eN Rm <| aB c1 rfl <| sJ (bT c2) <| aL cs (λr=> .ref r.a) (λr=> .lst (r.l.map f)) H4.Jw (bT c2).items (λr hr acc N a1 a2=> ?_) (Y2 [_,_] [] (.l V0 V1) (.t V0 (.n 30)) (.l (.n 20000) V1) pg.1 LL rfl) ?_
 ·exact bJ (H4.cl r hr).1.al (Y2 [_,_] [] (.l V0 V1) (.l (.n 20000) V1) (.t V0 (.n 30)) LL (pg.2 r hr) rfl) (H4.fc r hr) ⟨a1,a2⟩
 rw [tJ]
 refine eN XD <| cT (uH (cD UM rfl)) ?_
 obtain ⟨w0,Bp⟩:∃w0,w0=if j=0 then wd+1 else wd:=⟨_,rfl⟩
 obtain ⟨w1,Je⟩:∃w1,w1=if j=0 then wd else wd+1:=⟨_,rfl⟩
 refine gG (λaH aa=>∀G_,(∀v n' u',aH=(en.set 42 (.ref mt.a)).set 81 v->Ws I b bx kn aa n' u' (C+3) L->n<=n'->(((gc.length < 2/\∃a as s0,v=.ref a/\Kn kn aa n L/\xX aa n s0 n' aa.length a as (aG (gc.map (·.l)) w0)/\Fr nr jO aa)∨(2<=gc.length/\v=.str (j' "IndexError: element size differs ("++j' (toString (w1:Int))++j' " should be "++j' (toString (w0:Int))++j' ")"))))->G_)->G_) (λN h1 _ _ _=> ?_) ?_
 ·refine eN eZ <| eN E9 ?_
  have rW:w0 < 30:=Z6 (Bp▸PS ha.2) (by decide)
  refine da S4.W H4.t.1 rW (by rw [H4.tl,vk]; exact Y2 [_,_] [] (.t V0 (.n 30)) (.t V1 (.n 30)) (.e V0 V1) hn xE rfl) (λm v hv=> ?_) λss a as kJ n5 u5 Jf CV W5 F5 l5 T5=> ?_
  ·rw [H4.tl,Ou] at hv
   obtain ⟨r,hr,rfl⟩:=ac2.mp hv
   have Nz:=Zv hr
   have zq:=gZ m r hr
   have hm:=(Z2.mp hr).1
   by_cases he:r.l.length=w0
   ·exact .inl ⟨r,rfl,H4.Nf r Nz,he⟩
   ·have Lv:=hj (Y2 [_,_,_] [] (.t (.n 0) V0) (.e V1 V0) (.t V2 V1) xE hm rfl)
    have wm:0 < m:=by
     rcases ad9 m with rfl | h
     ·exfalso
      rw [Bp,zq] at he
      by_cases yS:j=0
      ·subst yS; simp at he
      ·simp [yS,ab2 yS] at he
     ·exact h
    have VI:r.l.length=w1:=by
     rw [zq,Bp] at he
     rw [zq,Je]
     by_cases yS:j=0
     ·subst yS
      have:m ≠ 0:=Y1 [_] [] (.o (.e V0 (.n 0))) (.t (.n 0) V0) wm rfl
      simp [this]
     ·simp [yS] at he ⊢
      exact he
    refine .inr (.inr ⟨r,wm,rfl,H4.Nf r Nz,he,by have:=PY r Nz; exact Y2 [_,_] [] (.t V0 (.n 30)) (.l V1 (.n 4)) (.l V0 (.a V1 (.n 1))) ha.2 this rfl,λe kJ n5 u5 W5 F5 l5 E5=> ?_⟩)
    have s1:=fD r.l.length (by have:=PY r Nz; exact Y2 [_,_] [] (.t V0 (.n 30)) (.l V1 (.n 4)) (.l V0 (.a V1 (.n 1))) ha.2 this rfl)
    have s2:=fD w0 rW
    have q1:(j' "IndexError").length=10:=by decide+kernel
    have q2:(j' "element size differs (").length=22:=by decide+kernel
    have q3:(j' " should be ").length=11:=by decide+kernel
    have q4:(j' ")").length=1:=by decide+kernel
    refine E5.cV (by unfold wT; simp only [aJ,q1,q2,q3,q4]; exact Y2 [_,_] [] (.l (.a (.n 10) (.a (.a (.a (.a (.n 22) V0) (.n 11)) V1) (.n 1))) (.n 900)) (.l V0 (.n 2)) (.l V1 (.n 2)) s1 s2 rfl) ?_
    rw [zR,VI]
    exact h1 _ _ λG_ k_=>k_ _ n5 u5 rfl (S4.step W5 F5 l5) l5 (.inr ⟨by exact Y2 [_,_] [] (.l (.n 2) V0) (.t V1 V0) (.t (.n 0) V1) hm wm rfl,rfl⟩)
  ·have Xh:=jE H4.Nf (λr hr=>(CV r hr).1) (by rw [<-H4.tl]; exact Jf)
   subst Xh
   refine h1 _ _ λG_ k_=>k_ _ n5 u5 rfl (S4.step W5 F5 l5) l5 (.inl ⟨?_,a,as,_,rfl,S4.K.fr rfl F5,T5,F5.t0⟩)
   rcases ae3 gc.length 2 with h | h
   ·exact h
   ·exfalso
    have Lv:=hj (Y2 [_,_] [] (.t (.n 0) V0) (.e V1 V0) (.l (.n 2) V1) xE h rfl)
    have Vv:0 < gc.length:=Nat.lt_of_succ_lt h
    have hz1:1 < gc.length:=h
    have hzj:j < gc.length:=xE.symm▸Lv
    have g0:=(CV gc[0] (yd _)).2
    have gj:=(CV gc[j] (yd _)).2
    have g1:=(CV gc[1] (yd _)).2
    have k0:=gZ 0 gc[0] (oC _)
    have k1:=gZ 1 gc[1] (oC _)
    have kj:=gZ j gc[j] (oC _)
    rw [if_pos rfl] at kj
    by_cases yS:j=0
    ·subst yS
     rw [if_neg (by decide)] at k1
     exact absurd (kj.symm.trans (gj.trans (g1.symm.trans k1))) (ae8 wd)
    ·rw [if_neg (ab2 yS)] at k0
     exact absurd (kj.symm.trans (gj.trans (g0.symm.trans k0))) (ae8 wd)
 refine λ_ kJ ph=>ph _ λv n5 u5 UJ S5 l5 hv=> ?_
 subst UJ
 refine eN C4 ?_
 rcases hv with ⟨h2,a,as,s0,rfl,K5,T5,F5⟩ | ⟨h2,rfl⟩
 ·have iT:(rs.length:Int) < 2:=Y2 [_,_] [] (.T (.c V0) (.n 2)) (.r (.e V1 V0)) (.t V1 (.n 2)) xE h2 rfl
  refine pv (decide_eq_true iT) <| eN MH <| eN e6 <| sJ fC ?_
  have TZ:(fA f (gc.map (·.l))).flatMap (λv=>(Fz v).map λm=>V.lst [m])=fA f (aG (gc.map (·.l)) w0):=by
   match gc,h2,gZ with
   | [],_,_=>rfl
   | [r],_,gZ=>
    have hr:=gZ 0 r rfl
    have:r.l.length=w0:=by rw [hr,Bp]; exact TY j _ _
    show (Fz (V.lst (r.l.map f))).map (λm=>V.lst [m])++ []=_
    rw [ZU]
    show ((r.l.map f).map λm=>V.lst [m])=fA f (aG [r.l] w0)
    rw [<-this,wR]
    unfold fA
    rw [Fk,Fk]; rfl
   | _::_::_,h,_=>exact absurd h (by simp)
  have Th:∀l∈aG (gc.map (·.l)) w0,l.length<=1/\∀v∈l,Mk kJ v (f v):=by
   match gc,h2,gZ,H4 with
   | [],_,_,_=>exact λl h=>by cases h
   | [r],_,gZ,H4=>
    have hr:=gZ 0 r rfl
    have:r.l.length=w0:=by rw [hr,Bp]; exact TY j _ _
    intro l h
    rw [show aG ([r].map (·.l)) w0=aG [r.l] r.l.length by rw [this]; rfl,wR] at h
    obtain ⟨v,hv,rfl⟩:=vo.mp h
    exact ⟨by simp,λv' Gg=>by rw [Zq] at Gg; subst Gg; exact (H4.fr r (.head _) _ hv).fr F5⟩
   | _::_::_,h,_,_=>exact absurd h (by simp)
  have hT:=T5.len
  have Jn:=fG (ls:=gc.map (·.l)) (w:=w0)
  have rW:=Bp▸PS ha.2
  have Rd:(fA f (aG (gc.map (·.l)) w0)).length<=5:=by rw [oi]; exact Y2 [_,_] [] (.l V0 (.n 5)) (.l V0 V1) (.l V1 (.n 5)) Jn.1 rW rfl
  refine bz (λv=>(Fz v).map λm=>V.lst [m]) rfl _ _ (λv hv acc N' a1 a2=> ?_) (by rw [TZ]; simp; exact Y2 [_,_] [] (.l V0 V1) (.l (.n 20000) V1) (.l V0 (.n 5)) LL Rd rfl) ?_
  ·unfold fA at hv
   obtain ⟨l,hl,rfl⟩:=vo.mp hv
   refine sJ fC ?_
   have e2:(l.map f).flatMap (λm=> [V.lst [m]])=(l.map f).map λm=>V.lst [m]:=by
    generalize l.map f=l
    induction l with
    | nil=>rfl
    | cons a l ih=>rw [Ul,ih]; rfl
   refine bz (λm=> [V.lst [m]]) rfl _ _ (λv hv cp N2 b1 b2=>⟨by simp at b1; exact Y1 [_,_] [] (.t V0 V1) (.l (.a V0 (.n 1)) V1) b1 rfl,b2⟩) (by rw [e2]; exact a1) (by rw [e2]; exact a2)
  rw [TZ]
  simp only [af7]
  exact dF K5 T5 (Y4 [_,_,_,_] [] (.t (.a V0 V1) (.n 40000)) (.l V0 (.n 20000)) (.e V1 V2) (.l V2 V3) (.l V3 (.n 5)) hL hT Jn.1 rW rfl) (λl hl=>by have:=(Th l hl).1; exact Y2 [_,_] [] (.l V0 V1) (.l (.n 20000) V1) (.l V0 (.n 1)) LL this rfl) (λl hl=>(Th l hl).2) λpQ F6 K6=>q _ n5 u5 (F6.wd S5.W) ((S5.B.fr rfl F6.fr).mono (Y0 [_] [] (.l (.a V0 (.n 3)) (.a V0 (.n 10))) rfl)) l5
 ·have iT:¬(rs.length:Int) < 2:=Y2 [_,_] [] (.o (.T (.c V0) (.n 2))) (.e V1 V0) (.l (.n 2) V1) xE h2 rfl
  refine iB (decide_eq_false iT) ?_
  have rW:w0 < 30:=Z6 (Bp▸PS ha.2) (by decide)
  have Ic:w1 < 30:=Z6 (Je▸PQ ha.2) (by decide)
  refine gG (λaH aa=>aH=((en.set 42 (.ref mt.a)).set 81 (.str (j' "IndexError: element size differs ("++j' (toString (w1:Int))++j' " should be "++j' (toString (w0:Int))++j' ")"))).set 46 (.lst [.int w1,.int w0])/\aa=kJ) (λN h1 _ _ _=> ?_) ?_
  ·by_cases yS:j=0
   ·subst yS
    simp at Bp Je
    subst Bp; subst Je
    exact eN T8 <| eN C3 <| eN C3 <| h1 _ _ ⟨rfl,rfl⟩
   ·simp [yS] at Bp Je
    subst Bp; subst Je
    have V':=λe=>yS (Int.natCast_eq_zero.mp e)
    exact eN T8 <| gk (decide_eq_false V') <| eN C3 <| eN C3 <| h1 _ _ ⟨rfl,rfl⟩
  rintro _ kJ ⟨rfl,rfl⟩
  have s1:=fD w1 Ic
  have s2:=fD w0 rW
  have q1:(j' "IndexError: element size differs (").length=34:=by decide+kernel
  have q3:(j' " should be ").length=11:=by decide+kernel
  have q4:(j' ")").length=1:=by decide+kernel
  have n1:w1 < 1000000:=Y1 [_] [] (.t V0 (.n 1000000)) (.t V0 (.n 30)) Ic rfl
  have n2:w0 < 1000000:=Y1 [_] [] (.t V0 (.n 1000000)) (.t V0 (.n 30)) rW rfl
  exact Mq (Y1 [_] [] (.t V0 (.n 1000000)) (.t V0 (.n 30)) Ic rfl) <| jW (by rw [q1]; exact Y1 [_] [] (.l (.a (.n 34) V0) (.n 1000)) (.l V0 (.n 2)) s1 rfl) <| jW (by rw [aJ,q1,q3]; exact Y1 [_] [] (.l (.a (.a (.n 34) V0) (.n 11)) (.n 1000)) (.l V0 (.n 2)) s1 rfl) <| Mq (Y1 [_] [] (.t V0 (.n 1000000)) (.t V0 (.n 30)) rW rfl) <| jW (by rw [aJ,aJ,q1,q3]; exact Y2 [_,_] [] (.l (.a (.a (.a (.n 34) V0) (.n 11)) V1) (.n 1000)) (.l V0 (.n 2)) (.l V1 (.n 2)) s1 s2 rfl) <| jW (by rw [aJ,aJ,aJ,q1,q3,q4]; exact Y2 [_,_] [] (.l (.a (.a (.a (.a (.n 34) V0) (.n 11)) V1) (.n 1)) (.n 1000)) (.l V0 (.n 2)) (.l V1 (.n 2)) s1 s2 rfl) <| cT (TX) <| q _ n5 u5 S5.W (S5.B.mono (Y0 [_] [] (.l (.a V0 (.n 3)) (.a V0 (.n 10))) rfl)) l5
theorem zj (ls:List (List V)):∀row∈PR ls,∀j,j < ls.length->row.getD j .none∈ls.getD j []:=by
 induction ls using fK with
 | h0=>intro row _ j hj; simp at hj
 | h1 ls l ih=>
  rw [iF]
  intro row h j hj
  refine ag (ZN.mp h) λr hr h=>ag (vo.mp h) λv hv q1=>bD q1 ?_
  have hl:=eh _ r hr
  rw [IQ,Zx] at hj
  rcases ae3 j ls.length with iQ | iQ
  ·rw [r9 iQ,r9 (show j < r.length by exact Y2 [_,_,_] [] (.t V0 V1) (.r (.e V1 V2)) (.t V0 V2) hl iQ rfl)]
   exact ih r hr j iQ
  ·rw [r8 (show r.length=j by exact ZJ (Y2 [_,_,_] [] (.l V0 V1) (.e V0 V2) (.l V2 V1) hl iQ rfl) (Y2 [_,_,_] [] (.l V0 V1) (.t V0 (.a V2 (.n 1))) (.r (.e V1 V2)) hj hl rfl)),r8 (show ls.length=j by exact ZJ iQ (Y1 [_,_] [] (.l V0 V1) (.t V0 (.a V1 (.n 1))) hj rfl))]; exact hv
theorem oL:∀(l:List Nat) (m:Nat),(∀s∈l,s<=4)->m*4^l.length<=20000->kW m l
 | []=>λo_ o_ o_=>trivial
 | s::r=>λm h hm=>by
  haveI h1:m*s*4^r.length<=m*(4^r.length*4):=by
   have:m*s*4^r.length<=m*4*4^r.length:=ad0 _ (ad4 _ (h s (.head _)))
   rw [Nat.mul_comm (4^r.length) 4,<-Nat.mul_assoc]; exact this
  exact ⟨by exact Y3 [_,_,_] [] (.l V0 (.n 20000)) (.l V1 (.n 20000)) (.l V2 V1) (.l V0 V2) hm h1 (Nat.le_mul_of_pos_right _ (Nat.pow_pos (Y0 [] [] (.t (.n 0) (.n 4)) rfl))) rfl,oL r _ (λx hx=>h x (.tail _ hx)) (Y2 [_,_] [] (.l V0 (.n 20000)) (.l V1 (.n 20000)) (.l V0 V1) hm h1 rfl)⟩
theorem qn (h:ls ≠ []):aG ls w=(Hj w).map λk=>ls.map λl=>l.getD k .none:=by unfold aG; rw [if_neg h]
theorem pU (hw:0 < w) (h:∀l∈ls,l.length=w):aG (aG ls w) ls.length=ls:=by
 by_cases hz:ls=[]
 ·refine af hz ?_; rfl
 have e:aG ls w=(Hj w).map λk=>ls.map λl=>l.getD k .none:=by unfold aG; exact af (if_neg hz) rfl
 have ne:aG ls w ≠ []:=λh=>by
  have:=congrArg N8 h
  rw [e] at this; simp at this; exact Y2 [_] [] .f (.t (.n 0) V0) (.e V0 (.n 0)) hw this rfl
 rw [qn ne,e]
 refine ZO (by simp) λi h1 h2=> ?_
 simp only [ab7,Z5,Fk]
 refine ZO (by simp [(h ls[i] (yd _))]) λj h3 h4=> ?_
 simp [js,h2,h4]
inductive Rw (σ:St) (n0:Int) (s0:Nat) (n1:Int) (s1:Nat) (r:Ar):Prop
 | mk (num:Int) (own:Nat) (h1:σ[r.a]? =vi (cB num own Q1 r.it)) (h2:σ[r.it]? =vi (.list 1 r.l)) (h3:n0 < num) (h4:num<=n1) (h5:s0<=r.it) (h6:r.it < s1)
theorem NL.rw (h:NL σ n0 s0 n1 s1 a l):∃it,Rw σ n0 s0 n1 s1 ⟨a,it,l⟩:=by
 obtain ⟨num,own,it,h1,h2,h3,h4,h5,h6,h7,o_,o_⟩:=h
 exact ⟨it,num,own,h1,h3,h4,h5,h6,h7⟩
theorem Rw.wide {m1:Int} {t0 t1:Nat} {r:Ar} (h:Rw σ n0 s0 n1 s1 r) (h1:m0<=n0) (h2:n1<=m1) (h3:t0<=s0) (h4:s1<=t1):Rw σ m0 t0 m1 t1 r:=by
 obtain ⟨num,own,a,b,c,d,e,f⟩:=h
 exact ⟨num,own,a,b,(Y2 [] [_,_,_] (.T V0 V1) (.L V0 V2) (.T V2 V1) h1 c rfl),(Y2 [] [_,_,_] (.L V0 V1) (.L V2 V1) (.L V0 V2) h2 d rfl),(Y2 [_,_,_] [] (.l V0 V1) (.l V0 V2) (.l V2 V1) h3 e rfl),(Y2 [_,_,_] [] (.t V0 V1) (.l V2 V1) (.t V0 V2) h4 f rfl)⟩
theorem Rw.ok {r:Ar} (h:Rw σ n0 s0 n1 s1 r):aZ σ r:=by
 obtain ⟨num,own,a,b,o_,o_,o_,o_⟩:=h
 exact ⟨num,own,Q1,a,b⟩
theorem jN.rws (h:jN σ n0 s0 n1 s1 as ls):∃rs:List Ar,rs.map (·.a)=as/\rs.map (·.l)=ls/\(∀r∈rs,Rw σ n0 s0 n1 s1 r)/\(rs.map (·.it)).Nodup:=by
 refine h.ind (λo_ o_=>HY ([]) rfl rfl nofun .nil) λ{_ _ _ _ a l _ _} h1 h2 y=> ?_
 refine BX y λrs e1 e2 h3 h4=> ?_
 have Nm:=h2.le
 have Nn:=h1.one.le
 obtain ⟨it,hr⟩:=h1.rw
 refine HY (⟨a,it,l⟩::rs) (by simp [e1]) (by simp [e2]) (λr ca=> ?_) ?_
 ·refine mh (ZV.mp ca) ?_ λca=> ?_
  ·exact hr.wide (Lf _) Nm.1 (FF _) Nm.2
  ·exact (h3 r ca).wide Nn.1 (Lf _) Nn.2 (FF _)
 ·rw [ZL,af2]
  refine ⟨λhm=> ?_,h4⟩
  refine ag (vo.mp hm) λr ca e=> ?_
  obtain ⟨o_,o_,o_,o_,o_,o_,b1,o_⟩:=(h3 r ca)
  obtain ⟨o_,o_,o_,o_,o_,o_,o_,b2⟩:=hr
  simp at e b2; exact Y3 [_,_,_] [] .f (.e V0 V1) (.l V2 V0) (.t V1 V2) e b1 b2 rfl
theorem xX.rws (h:xX σ n0 s0 n1 s1 a as ls):∃(rs:List Ar) (it:Nat) (m:Int) (t:Nat),as=rs.map (·.a)/\ls=rs.map (·.l)/\(∀r∈rs,Rw σ n0 s0 m t r)/\(rs.map (·.it)).Nodup/\Rw σ m t n1 s1 ⟨a,it,rs.map λr=> .ref r.a⟩/\n0<=m/\s0<=t:=by
 refine bV h λm t h1 h2=>BX h1.rws λrs q1 q2 h3 h4=> ?_
 subst q1
 refine bD q2 ?_
 obtain ⟨it,h5⟩:=h2.rw
 rw [Fk] at h5
 exact ⟨rs,it,m,t,rfl,rfl,h3,h4,h5,h1.le.1,h1.le.2⟩
noncomputable def Drawn (σ:St) (n:Int) (r:Ar):Prop:=aZ σ r/\It σ n (.ref r.a)/\r.l.length<=4/\∀v∈r.l,It σ n v
theorem Drawn.fr (ht:ts.contains 1=Q1) {r:Ar} (h:Drawn σ n r) (F:Fr ts σ aa) (l:n<=n'):Drawn aa n' r:=
 (mz (h.1.fr ht F) (h.2.1.fr F l) h.2.2.1 (λv hv=>(h.2.2.2 v hv).fr F l))
noncomputable def kZ (σ:St) (v:V):List Int:=match fld σ v 119 with
 | some (.int i)=> [i]
 | _=> []
theorem GG {b:Bool} {Q:K} (h:jd σ v k=vi b) (q:Q (.bool b) σ):Ba k Q v σ:=by
 unfold Ba; exact h▸q
theorem xe {G:Prop} (h:It σ n v) (k1:∀a c fs i,v=.ref a->σ[a]? =vi (.inst c fs)->jd σ v 3=vi TU->fs.lookup 119=vi (.int i)->kZ σ v=[i]->i<=n->G) (k2:jd σ v 3=vi Q1->kZ σ v=[]->G):G:=by
 cases h with
 | r a c fs i h2 h3 h4 h5 h6=>
  refine k1 a c fs i rfl h2 ?_ h5 ?_ h6
  ·rw [Bi h2,beq_eq_false_iff_ne.mpr (show 3 ≠ 10+c from Y0 [_] [] (.o (.r (.e (.n 3) (.a (.n 10) V0)))) rfl),bne_iff_ne.mpr h3]; rfl
  ·unfold kZ; exact af ((qR h2).trans h5) rfl
 | _=>exact k2 rfl rfl
theorem Mv {j m:Int} {Q:K} (h:min i j=m) (q:Q (.int m) σ):FQ (.int i) Q (.int j) σ:=by
 subst h; exact q
set_option tactic.hygienic true in
theorem nq {b:Bool} {im:List V} {sK:St} {N:Fl->En->St->Prop} (W:Wd I σ n u) (B:kH b bx σ C) (hC:C<=800000) (hm:m<=4) (F0:Fr [4] sK σ)
  (hp:im.length=8) (Im:∀v∈im,It σ n v) (eZ:en 104=vi (.ref I.w)) (e5:en 5=vi (.ref bx)) (Rl:en 48=vi (.lst im)) (nU:en 108=vi (.lst [])) (C4:en 40=vi (.int 1))
  (q:∀(ars:List Ar) (bY:List V) (aH:En) (aa:St) (n':Int) (u':Nat),ars.length=m->aH 104=vi (.ref I.w)->aH 5=vi (.ref bx)->aH 48=vi (.lst bY)->aH 108=vi (.lst (ars.map λr=> .ref r.a))->aH 40=vi (.int (cL (ars.map (·.l.length)):Nat))->bY.length<=12->(∀v∈bY,It aa n' v)->(∀r∈ars,Drawn aa n' r)->cL (ars.map (·.l.length))<=24->Wd I aa n' u'->Fr [4] sK aa->kH b bx aa (C+40)->n<=n'->N .next aH aa):
  hH (.lst (aM 0 m)) (aM 0 m) (λv K en σ=>bX (CC (k+102)) (.cons (.asg 102 (.call 872 (.cons (.var 104) (.cons (.var 5) (.cons (.var 48) (.cons (.var 108) (.cons (.min2 (.int 4) (.bin .fdiv (.int 24) (.max2 (.var 40) (.int 1)))) .nil))))))) (.cons (.aN [(.nm 108),(.nm 48),(.nm 40)] (.tup (.cons (.bin .add (.var 108) (.list YL (.cons (.var 102) .nil))) (.cons (.bin .add (.var 48) (.list YL (.cons (.var 102) .nil))) (.cons (.bin .mul (.var 40) (.len (.attr (.var 102) 83))) .nil))))) .nil)) K X (en.set 1 v) σ) (aM 0 m) N en σ:=by
 refine aS (λr en aa=>∀G_,(∀ars bY n' u',ars.length+r.length=m->en 104=vi (.ref I.w)->en 5=vi (.ref bx)->en 48=vi (.lst bY)->en 108=vi (.lst (ars.map λr=> .ref r.a))->en 40=vi (.int (cL (ars.map (·.l.length)):Nat))->bY.length=8+ars.length->((∀v∈bY,It aa n' v))->((∀r∈ars,Drawn aa n' r))->cL (ars.map (·.l.length))<=24->Wd I aa n' u'->Fr [4] sK aa->kH b bx aa (C+10*ars.length)->n<=n'->G_)->G_)
  (λ_ _ _ _=>rfl) (λv r en aa N' fP h3 h4 h5=> ?_) (λen aa fP=> ?_) _ _ _ (λG_ k_=>k_ ([]) im n u (by simp) eZ e5 Rl nU (by refine bD C4 ?_; rfl) (by simp [hp]) Im (by simp) (by decide) W F0 (B.mono (Y0 [_,_] [] (.l V0 (.a V0 (.m 10 V1))) rfl)) (Lf _))
 ·refine ax λG_ ae=>fP _ λars bY n' u' hl rF p5 Ng DR Ho sG tZ hd qL W' F' B' ln=>ae ?_
  generalize hP:cL (ars.map (·.l.length))=P at*
  have SK:(max (P:Int) 1)=((max P 1:Nat):Int):=Pc P 1
  haveI Lm:min 4 ((24:Int).fdiv (max P 1))=((min 4 (24 / max P 1):Nat):Int):=by
   simp only [SK,show 24=24 from rfl,ug]; exact HF 4 _
  refine eN rF <| eN p5 <| eN Ng <| eN DR <| eN Ho <| EZ (Y1 [] [_] (.o (.Q V0 (.n 0))) (.L (.n 1) V0) (Int.le_max_right _ _) rfl) (by rw [SK,ad6]; exact Nat.max_lt.mpr ⟨Z6 qL (by decide),by decide⟩) <| Mv Lm <| CB W' B' (Y3 [_,_,_,_] [] (.l (.a V0 (.m 10 V1)) (.n 900000)) (.l V0 (.n 800000)) (.k 10 (.l V2 (.n 4))) (.k 10 (.e (.a V1 V3) V2)) hC hm hl rfl) (⟨Y1 [_,_] [] (.t (.n 0) V0) (.r (.e V0 (.a (.n 8) V1))) sG rfl,Y3 [_,_,_,_] [] (.l V0 (.n 100)) (.l V1 (.n 4)) (.e (.a V2 (.a V3 (.n 1))) V1) (.e V0 (.a (.n 8) V2)) hm hl sG rfl⟩) tZ (λr hr=>⟨(hd r hr).1,(hd r hr).2.1,(hd r hr).2.2.2⟩) (Y2 [_,_,_] [] (.l V0 (.n 100)) (.l V1 (.n 4)) (.e (.a V0 (.a V2 (.n 1))) V1) hm hl rfl) ((Z4 _ _)) (λr hr=>(hd r hr).2.2.1) λx aV n2 u2 W2 F2 B2 l2 UW Jd yK PI=> ?_
  obtain ⟨xn,xo,xf,g1,g2⟩:=UW
  have LL:20000<=bf:=by unfold bf; exact Y0 [] [] (.l (.n 20000) (.n 100000)) rfl
  refine eN DR <| iI (by simp; exact Y3 [_,_,_,_] [] (.l (.a V0 (.n 1)) V1) (.l V2 (.n 4)) (.e (.a V0 (.a V3 (.n 1))) V2) (.l (.n 20000) V1) hm hl LL rfl) <| eN Ng <| iI (by simp; exact Y4 [_,_,_,_,_] [] (.l (.a V0 (.n 1)) V1) (.l V2 (.n 4)) (.e (.a V3 (.a V4 (.n 1))) V2) (.e V0 (.a (.n 8) V3)) (.l (.n 20000) V1) hm hl sG LL rfl) <| eN Ho <| aB g1 rfl <| dj (bT g2) <| iA (.inl (Y1 [_] [] (.t V0 (.n 18446744073709551616)) (.l V0 (.n 24)) qL rfl)) <| dQ rfl <| h3 _ _ λG_ k_=>k_ (ars++ [x]) (bY++ [.ref x.a]) n2 u2 (by simp; exact Y1 [_,_,_] [] (.e (.a (.a V0 (.n 1)) V1) V2) (.e (.a V0 (.a V1 (.n 1))) V2) hl rfl) rF p5 rfl (by refine af Oq ?_; rfl) ?_ (by simp [sG]; exact Y0 [_] [] (.e (.a (.a (.n 8) V0) (.n 1)) (.a (.n 8) (.a V0 (.n 1)))) rfl) (λv hv=> ?_) (λr hr=> ?_) ?_ W2 (F'.trans F2) (B2.mono (by simp; exact Y0 [_,_] [] (.l (.a (.a V0 (.m 10 V1)) (.n 10)) (.a V0 (.m 10 (.a V1 (.n 1))))) rfl)) (Y2 [] [_,_,_] (.L V0 V1) (.L V0 V2) (.L V2 V1) ln l2 rfl)
  ·simp only [Oq,ZG,lX,hP,af5]; rfl
  ·rcases Zr.mp hv with h | h
   ·exact (tZ v h).fr F2 l2
   ·rw [Zq] at h; refine af h ?_; exact Jd
  ·rcases Zr.mp hr with h | h
   ·exact (hd r h).fr rfl F2 l2
   ·rw [Zq] at h; refine af h ?_
    exact ⟨⟨xn,xo,xf,g1,g2⟩,Jd,(Y2 [_,_] [] (.l V0 (.n 4)) (.l V0 V1) (.l V1 (.n 4)) yK (Z4 _ _) rfl),PI⟩
  ·simp only [Oq,ZG,lX,hP]
   rcases ad9 P with e | e
   ·simp only [e,ac3]; exact Y0 [] [] (.l (.n 0) (.n 24)) rfl
   ·haveI e1:max P 1=P:=(af0 (Y1 [_] [] (.l (.n 1) V0) (.t (.n 0) V0) e rfl))
    replace yK:=e1▸yK
    calc P*x.l.length<=P*(24 / P):=ad4 _ (Y2 [_,_,_] [] (.l V0 V1) (.l V0 V2) (.l V2 V1) yK (aa2 _ _) rfl)
     _<=24:=Nat.mul_div_le 24 P
 ·refine ax λG_ ae=>fP _ λars bY n' u' hl rF p5 Ng DR Ho sG tZ hd qL W' F' B' ln=>ae ?_
  simp at hl
  exact q ars bY en aa n' u' hl rF p5 Ng DR Ho (Y3 [_,_,_] [] (.l V0 (.n 12)) (.l V1 (.n 4)) (.e V2 V1) (.e V0 (.a (.n 8) V2)) hm hl sG rfl) tZ hd qL W' F' (B'.mono (Y2 [_,_,_] [] (.l (.a V0 (.m 10 V1)) (.a V0 (.n 40))) (.k 10 (.l V2 (.n 4))) (.k 10 (.e V1 V2)) hm hl rfl)) ln
theorem AT σ v:(kZ σ v).length<=1:=by
 show (match fld σ v 119 with | some (.int i)=> [i] | _=> []).length<=1
 cases fld σ v 119 with
 | none=>exact Z8 _
 | some u=>cases u <;> exact vd rfl
theorem qz σ (l:List V):(l.flatMap (kZ σ)).length<=l.length:=by
 induction l with
 | nil=>simp
 | cons a l ih=>
  have:=AT σ a
  simp only [Ul,IQ,ZD]; exact Y2 [_,_,_] [] (.l (.a V0 V1) (.a V2 (.n 1))) (.l V1 V2) (.l V0 (.n 1)) ih this rfl
theorem AA (f:V->V) (h4:∀l∈held,l.length<=4) (row:List V) (gY:row∈PR (held.map λl=>wh l.length)) (j:Nat) (hj:j < held.length):∃d:Nat,row[j]? =vi (.int (d:Nat))/\d <(held.getD j []).length:=by
 have h1:=zj _ row gY j (by simpa using hj)
 have hl:=eh _ row gY
 rw [vk] at hl
 have e:row[j]? =vi (row.getD j .none):=by rw [js,oC (by exact Y2 [_,_,_] [] (.t V0 V1) (.t V0 V2) (.r (.e V1 V2)) hj hl rfl)]; rfl
 haveI e2:(held.map λl=>wh l.length).getD j []=wh (held.getD j []).length:=by
  simp only [js,Ou,oC hj,js,oC hj]; rfl
 rw [e2] at h1
 exact ag (vo.mp h1) λd h2 h3=>az d (by rw [e,<-h3]) (by simpa using h2)
set_option maxHeartbeats 2000000 in
set_option tactic.hygienic true in
theorem zN {b:Bool} (W:Wd I σ n u) (B:kH b bx σ C) (hC:C<=700000)
  (q:∀aa n' u',Wd I aa n' u'->kH b bx aa (C+200)->Q (.bool TU) aa):(CC (k+112)).call 952 [.ref I.w,.ref bx] Q X σ:=by
 refine C1 ⟨YL,218,[104,5],[],gq⟩ rfl rfl ?_
 have LL:20000<=bf:=by unfold bf; exact Y0 [] [] (.l (.n 20000) (.n 100000)) rfl
 refine DN W λim aT n1 u1 W1 F1 l1 sG Im=> ?_
 have B1:=B.fr rfl F1
 refine dQ rfl <| gG (λaH aa=>∀G_,(∀(ars:List Ar) bY n' u',((0 < ars.length/\ars.length<=4))->aH 104=vi (.ref I.w)->aH 5=vi (.ref bx)->aH 48=vi (.lst bY)->aH 108=vi (.lst (ars.map λr=> .ref r.a))->aH 40=vi (.int (cL (ars.map (·.l.length)):Nat))->bY.length<=12->((∀v∈bY,It aa n' v))->((∀r∈ars,Drawn aa n' r))->cL (ars.map (·.l.length))<=24->Wd I aa n' u'->kH b bx aa (C+50)->n<=n'->G_)->G_) (λN h1 _ _ _=> ?_) ?_
 ·haveI RQ:=B1
  obtain ⟨g,s,c,z,hb,_,_,_,_,_⟩:=RQ
  refine bA (bT hb) (PH rfl) ?_
  cases b with
  | true=>
   exact pw (⟨Y0 [] [] (.T (.g (.n 1000000)) (.n 0)) rfl,⟨Y0 [] [] (.T (.n 0) (.n 1000000)) rfl,⟨Y0 [] [] (.T (.g (.n 1000000)) (.n 2)) rfl,Y0 [] [] (.T (.n 2) (.n 1000000)) rfl⟩⟩⟩) <| nq W1 B1 (Y1 [_] [] (.l V0 (.n 800000)) (.l V0 (.n 700000)) hC rfl) (Y0 [] [] (.l (.n 2) (.n 4)) rfl) (Fr.refl _ aT) sG Im rfl rfl rfl rfl rfl λars bY aH aa n' u' hl e1 e2 e3 e4 e5 p1 p2 p3 p4 W' F' B' l'=>h1 _ _ λG_ k_=>k_ ars bY n' u' (⟨Y1 [_] [] (.t (.n 0) V0) (.r (.e V0 (.n 2))) hl rfl,Y1 [_] [] (.l V0 (.n 4)) (.e V0 (.n 2)) hl rfl⟩) e1 e2 e3 e4 e5 p1 p2 p3 p4 W' (B'.mono (Y0 [_] [] (.l (.a V0 (.n 40)) (.a V0 (.n 50))) rfl)) (Y2 [] [_,_,_] (.L V0 V1) (.L V0 V2) (.L V2 V1) l1 l' rfl)
  | false=>
   refine mM rfl B1 (Y1 [_] [] (.l V0 (.n 1000000)) (.l V0 (.n 700000)) hC rfl) (Y0 [] [] (.T (.n 0) (.n 4)) rfl) (Y0 [] [] (.L (.n 4) (.n 1000)) rfl) λj aV hj F2 B2=> ?_
   have e1:1+j=((1+j:Nat):Int):=Y0 [_] [] (.Q (.a (.n 1) (.c V0)) (.c (.a (.n 1) V0))) rfl
   exact pw (⟨Y0 [] [] (.T (.g (.n 1000000)) (.n 0)) rfl,⟨Y0 [] [] (.T (.n 0) (.n 1000000)) rfl,⟨Y0 [_] [] (.T (.g (.n 1000000)) (.a (.n 1) (.c V0))) rfl,Y1 [_] [] (.T (.a (.n 1) (.c V0)) (.n 1000000)) (.t V0 (.n 4)) hj rfl⟩⟩⟩) <| nq (F2.wd W1) B2 (Y1 [_] [] (.l (.a V0 (.n 1)) (.n 800000)) (.l V0 (.n 700000)) hC rfl) (Y1 [_] [] (.l (.a (.n 1) V0) (.n 4)) (.t V0 (.n 4)) hj rfl) (Fr.refl _ aV) sG (λv hv=>(Im v hv).fr F2.fr (Lf _)) rfl rfl rfl rfl rfl λars bY aH aa n' u' hl e1 e2 e3 e4 e5 p1 p2 p3 p4 W' F' B' l'=>h1 _ _ λG_ k_=>k_ ars bY n' u' (⟨Y1 [_,_] [] (.t (.n 0) V0) (.r (.e V0 (.a (.n 1) V1))) hl rfl,Y2 [_,_] [] (.l V0 (.n 4)) (.t V1 (.n 4)) (.e V0 (.a (.n 1) V1)) hj hl rfl⟩) e1 e2 e3 e4 e5 p1 p2 p3 p4 W' (B'.mono (Y0 [_] [] (.l (.a (.a V0 (.n 1)) (.n 40)) (.a V0 (.n 50))) rfl)) (Y2 [] [_,_,_] (.L V0 V1) (.L V0 V2) (.L V2 V1) l1 l' rfl)
 refine λen aV ph=>ph _ λars bY n2 u2 lP eZ e5 Rl nU C4 Il tZ hd qL W2 B2 l2=> ?_
 have xF:=xl aV
 have NM:=λr hr v hv=>xk ((hd r hr).2.2.2 v hv).mk
 generalize mf aV=f at xF NM
 revert f; refine qJ ?_; set_option tactic.hygienic false in intros
 refine eN nU <| aL ars (λr=> .ref r.a) (λr=> .lst (r.l.map f)) rfl rfl (λr hr acc N a1 a2=> ?_) (Y2 [_,_] [] (.l V0 V1) (.l (.n 20000) V1) (.l V0 (.n 4)) LL lP.2 rfl) ?_
 ·exact bJ (hd r hr).1.al (by have:=(hd r hr).2.2.1; exact Y2 [_,_] [] (.l V0 V1) (.l (.n 20000) V1) (.l V0 (.n 4)) LL this rfl) (NM r hr) ⟨a1,a2⟩
 rw [tJ]
 refine eN Rl <| bz (λv=>(kZ aV v).map V.int) rfl _ _ (λv hv acc N a1 a2=> ?_) ?_ ?_
 ·refine xe (tZ v hv) (λa c fs i q g2 g1 g5 g3 g4=> ?_) (λg1 g3=> ?_)
  ·subst q
   rw [g3] at a1 a2
   exact GG g1 <| aB g2 g5 <| ⟨by simp at a1; exact Y1 [_,_] [] (.t V0 V1) (.l (.a V0 (.n 1)) V1) a1 rfl,a2⟩
  ·rw [g3] at a1 a2
   refine GG g1 ?_
   rw [List.map_nil,ZU] at a2
   exact a2
 ·have:=qz aV bY
  rw [show bY.flatMap (λv=>(kZ aV v).map V.int)=(bY.flatMap (kZ aV)).map V.int by rw [ZF]]
  rw [vk]; exact Y3 [_,_,_] [] (.l (.a (.n 0) V0) V1) (.l (.n 20000) V1) (.l V2 (.n 12)) (.l V0 V2) LL Il this rfl
 rw [af7,show bY.flatMap (λv=>(kZ aV v).map V.int)=(bY.flatMap (kZ aV)).map V.int by rw [ZF]]
 refine dQ rfl ?_
 have K3:Kn aV.length (aV++ [.list 2 ((bY.flatMap (kZ aV)).map V.int)]) n2 12:=by
  refine dH _ (eA _ _) (λx hx=> ?_) (Y2 [_,_] [] (.l V0 (.n 12)) (.l V1 (.n 12)) (.l V0 V1) Il (qz aV bY) rfl)
  obtain ⟨v,hv,hx⟩:=ZN.mp hx
  refine xe (tZ v hv) (λa c fs i q g2 g1 g5 g3 g4=> ?_) (λg1 g3=> ?_)
  ·rw [g3,Zq] at hx; exact Y2 [] [_,_,_] (.L V0 V1) (.Q V0 V2) (.L V2 V1) hx g4 rfl
  ·replace hx:=g3▸hx; cases hx
 have F3:Fr [] aV (aV++ [.list 2 ((bY.flatMap (kZ aV)).map V.int)]):=Fr.push _ _ _
 have S3:Ws I b bx aV.length _ n2 u2 (C+50) 12:=⟨W2.push _,B2.fr rfl F3,K3⟩
 have Gr:=λr hr=>(hd r hr).fr rfl F3 (Lf _)
 have Tk:=λr hr v hv=>(NM r hr v hv).fr F3
 have h4:=λr hr=>(hd r hr).2.2.1
 generalize aV++ [.list 2 ((bY.flatMap (kZ aV)).map V.int)]=dq at*
 revert dq; refine qJ ?_; set_option tactic.hygienic false in intros
 generalize aV.length=kn at*
 revert kn; refine qJ ?_; set_option tactic.hygienic false in intros
 clear W2 B2 hd NM K3 F3 tZ Il
 generalize Lw:ars.map (λr=>r.l.map f)=held
 revert held; refine qJ ?_; set_option tactic.hygienic false in intros
 have Iv:(fA f (ars.map (·.l)))=held.map V.lst:=by refine bD Lw ?_; unfold fA; simp only [Fk,Fk]; rfl
 have zt:held.length=ars.length:=by rw [<-Lw,vk]
 have NN:∀l∈held,l.length<=4:=λl hl=>by
  rw [<-Lw] at hl
  refine ag (vo.mp hl) λr hr q2=>bD q2 ?_
  rw [vk]; exact h4 r hr
 have Tl:held.map N8=ars.map (·.l.length):=by rw [<-Lw,Fk]; refine Um λr _=>by simp
 have Tv:PR held=(PR (ars.map (·.l))).map (ag6 f):=by rw [IW,Fk,<-Lw]; rfl
 have QD:(PR held).map V.lst=fA f (PR (ars.map (·.l))):=by simp only [Tv,Fk]; rfl
 refine gG (λaH aa=>∀G_,(aH=((en.set 30 (.lst (held.map .lst))).set 84 (.ref kn)).set 6 (.lst (fA f (PR (ars.map (·.l)))))->(∃o,aa=dq++ [o]/\kp [] o=TU)->G_)->G_) (λN h1 _ _ _=> ?_) ?_
 ·refine af Iv <| aL held .lst (λl=> .int l.length) rfl rfl (λl hl acc N' a1 a2=> ?_) (Y3 [_,_,_] [] (.l V0 V1) (.l (.n 20000) V1) (.l V2 (.n 4)) (.e V0 V2) LL lP.2 zt rfl) ?_
  ·exact ⟨a1,a2⟩
  have e1:held.map (λl=>V.int l.length)=(held.map N8).map λ(s:Nat)=>V.int s:=by simp only [Fk]; rfl
  refine af e1 <| EF (λs hs=> ?_) (by simp; exact Y2 [_,_] [] (.l V0 (.n 100)) (.l V1 (.n 4)) (.e V0 V1) lP.2 zt rfl) (Tl▸(Y1 [_] [] (.l V0 (.n 20000)) (.l V0 (.n 24)) qL rfl)) ?_
  ·exact ag (vo.mp hs) λl hl q3=>bD q3 <| Y1 [_] [] (.l V0 (.n 100)) (.l V0 (.n 4)) (NN l hl) rfl
  have VA:(held.map N8).map wh=held.map λl=>wh l.length:=by refine af Fk ?_; rfl
  refine (VA▸?_)
  have as5:((held.map λl=>wh l.length).map N8)=held.map N8:=by refine af Fk ?_; refine Um λl _=>by simp [wh]
  have PZ:(PR (held.map λl=>wh l.length)).length<=24:=by
   simp only [wN,as5,oM,Tl]; exact qL
  refine sJ (bT (eA _ _)) <| aL (PR (held.map λl=>wh l.length)) .lst (λrow=> .lst (yf held row)) rfl (bT (eA _ _)).items (λrow gY acc N' a1 a2=> ?_) (by exact Y2 [_,_] [] (.l V0 V1) (.l (.n 20000) V1) (.l V0 (.n 24)) LL PZ rfl) ?_
  ·refine zy (by rw [vk]; exact ⟨Y0 [] [] (.T (.g (.n 1000000)) (.n 0)) rfl,⟨Y0 [] [] (.T (.n 0) (.n 1000000)) rfl,⟨Y0 [_] [] (.T (.g (.n 1000000)) (.c V0)) rfl,Y2 [_,_] [] (.T (.c V0) (.n 1000000)) (.l V1 (.n 4)) (.e V0 V1) lP.2 zt rfl⟩⟩⟩) ?_
   simp only [vk,db]
   refine aL (Hj held.length) (λi=> .int i) (λj=>(held.getD j []).getD (Ov (row.getD j .none)) .none) rfl rfl (λj hj cp N2 b1 b2=> ?_) (by simp; exact Y3 [_,_,_] [] (.l V0 V1) (.l (.n 20000) V1) (.l V2 (.n 4)) (.e V0 V2) LL lP.2 zt rfl) ?_
   ·have iQ:j < held.length:=by simpa using hj
    refine ag (AA f NN row gY j iQ) λd h1 h2=> ?_
    have SS:held[j]? =vi (held.getD j []):=by rw [js,oC iQ]; rfl
    generalize held.getD j []=hd at*
    have e3:row.getD j .none=.int d:=by simp only [js,h1]; rfl
    have Wl:hd[d]? =vi (hd.getD d .none):=by rw [js,oC h2]; rfl
    rw [e3] at b2
    refine bA fC (o6 (Y3 [_,_,_] [] (.t V0 (.n 1000000)) (.l V1 (.n 4)) (.e V2 V1) (.t V0 V2) lP.2 zt iQ rfl) (show (held.map V.lst)[j]? =vi (.lst hd) by rw [Ou,SS]; rfl)) ?_
    refine bA fC (o6 (Y3 [_,_,_] [] (.t V0 (.n 1000000)) (.l V1 (.n 4)) (.e V2 V1) (.t V0 V2) lP.2 zt iQ rfl) h1) ?_
    exact bA fC (o6 (Y2 [_,_] [] (.t V0 (.n 1000000)) (.t V0 V1) (.l V1 (.n 4)) h2 (NN _ (Zv SS)) rfl) Wl) <| ⟨b1,b2⟩
   ·exact ⟨a1,a2⟩
  ·have e4:(PR (held.map λl=>wh l.length)).map (λrow=>V.lst (yf held row))=fA f (PR (ars.map (·.l))):=by
    refine bD QD ?_
    conv=>rhs; rw [<-Dk held]
    refine af Fk ?_; rfl
   exact af e4 <| h1 _ _ λG_ k_=>k_ rfl ⟨_,rfl,rfl⟩
 refine λ_ Uk ph=>ph _ λeS JH=> ?_
 subst eS
 obtain ⟨o4,rfl,VQ⟩:=JH
 have F4:Fr [] dq (dq++ [o4]):=Fr.push _ _ _
 have S4:=S3.step (S3.W.push [o4]) F4 (Lf _)
 have Jk:=λr hr=>(Gr r hr).fr rfl F4 (Lf _)
 have QB:=λr hr v hv=>(Tk r hr v hv).fr F4
 generalize dq++ [o4]=jO at*
 revert jO; refine qJ ?_; set_option tactic.hygienic false in intros
 clear Gr Tk S3 F4 VQ
 obtain ⟨r0,rt,LH⟩:∃r0 rt,ars=r0::rt:=by
  cases ars with
  | nil=>simp at lP
  | cons r0 rt=>exact ⟨r0,rt,rfl⟩
 have GJ:en 108=vi (.lst (.ref r0.a::rt.map λr=> .ref r.a)):=by rw [nU,LH]; rfl
 have Ik:r0∈ars:=by refine af LH ?_; exact .head _
 have SD:∀r∈rt,r∈ars:=λr h=>by refine af LH ?_; exact .tail _ h
 have LI:rt.length+1=ars.length:=by refine af LH ?_; rfl
 generalize NV:PR (ars.map (·.l))=P at*
 revert P; refine qJ ?_; set_option tactic.hygienic false in intros
 have uf:P.length=cL (ars.map (·.l.length)):=by
  rw [<-NV,wN,Fk,oM]; rfl
 have Jo:∀row∈P,row.length=ars.length:=λrow h=>by
  rw [<-NV] at h
  rw [eh _ row h,vk]
 have NU:∀row∈P,∀v∈row,Mk jO v (f v):=λrow h v hv=>by
  rw [<-NV] at h
  obtain ⟨l,hl,hv⟩:=wM _ row h v hv
  obtain ⟨r,hr,rfl⟩:=vo.mp hl
  exact QB r hr v hv
 refine dG ?_; intro Zf
 refine eN eZ <| eN GJ <| eN GJ <| EW fC rfl <| iH S4.W (Jk r0 Ik).1 (λr hr=>(Jk r (SD r hr)).1) ⟨Y1 [_] [] (.l V0 (.n 20000)) (.l V0 (.n 4)) (h4 r0 Ik) rfl,?_⟩ (Y2 [_,_] [] (.l V0 (.n 1000)) (.l V1 (.n 4)) (.e (.a V0 (.n 1)) V1) lP.2 LI rfl) λa as kJ n5 u5 W5 F5 l5 T5=> ?_
 ·refine oL _ _ (λs hs=> ?_) ?_
  ·obtain ⟨r,hr,rfl⟩:=vo.mp hs
   exact h4 r (SD r hr)
  ·rw [vk]
   exact Y1 [_] [] (.l V0 (.n 20000)) (.l V0 (.m 4 (.n 64))) (ZY (h4 r0 Ik) (ZZ (by exact Y0 [] [] (.t (.n 0) (.n 4)) rfl) (Y2 [_,_] [] (.l V0 (.n 3)) (.l V1 (.n 4)) (.e (.a V0 (.n 1)) V1) lP.2 LI rfl):4^rt.length<=4^3)) rfl
 rw [show sC (r0.l.map λv=> [v]) (rt.map (·.l))=P by rw [<-NV,LH]; exact (Fn _ _).symm] at T5
 have T5:=T5
 have S5:=S4.step W5 F5 l5
 have QN:=T5.len
 refine dF (S4.K.fr rfl F5) T5 (Y3 [_,_,_] [] (.t (.a (.n 12) V0) (.n 40000)) (.l V1 (.n 24)) (.e V2 V1) (.e V0 V2) qL uf QN rfl) (λl hl=>Y3 [_,_,_] [] (.l V0 V1) (.l (.n 20000) V1) (.l V2 (.n 4)) (.e V0 V2) LL lP.2 (Jo l hl) rfl) (λl hl v hv=>(NU l hl v hv).fr F5) λpQ F6 K6=> ?_
 have S6:=(S5.kn F6 K6 (Lf _)).mono (C':=C+50) (L':=40) (Y0 [_] [] (.l (.a V0 (.n 50)) (.a V0 (.n 50))) rfl) (Y3 [_,_,_] [] (.l (.a (.a (.n 12) (.n 1)) V0) (.n 40)) (.l V1 (.n 24)) (.e V2 V1) (.e V0 V2) qL uf QN rfl)
 have xZ:=F5.t0.trans F6.t2
 obtain ⟨rs,it,m,tt,Y6,Js,Qc,iS,Lb,m1,t1⟩:=(T5.fr rfl F6.fr).rws
 have zq:rs.length=P.length:=by rw [Js,vk]
 have Br:∀r∈rs,aZ pQ r/\r.l.length=ars.length:=λr hr=>⟨(Qc r hr).ok,Jo _ (by refine af Js ?_; exact Zs hr)⟩
 have Bw:=F6.len
 refine eN eZ <| da (w:=ars.length) S6.W Lb.ok (Y1 [_] [] (.t V0 (.n 30)) (.l V0 (.n 4)) lP.2 rfl) (by simp; exact Y3 [_,_,_] [] (.t V0 (.n 30)) (.l V1 (.n 24)) (.e V2 V1) (.e V0 V2) qL uf zq rfl) (λi v hv=> ?_) λke a7 Zl C8 n7 u7 Q7 CV W7 F7 l7 T7=> ?_
 ·obtain ⟨r,hr,rfl⟩:=vo.mp (Zv hv)
  exact .inl ⟨r,rfl,Br r hr⟩
 have:rs=ke:=jE (λr hr=>(Br r hr).1) (λr hr=>(CV r hr).1) Q7
 subst this
 rw [<-Js] at T7
 have T7:=T7
 have S7:=S6.step W7 F7 l7
 have CP:=xZ.trans F7.t0
 have QM:=T7.len
 have K':=fG (ls:=P) (w:=ars.length)
 have Tj:∀l∈aG P ars.length,∀v∈l,Mk jO v (f v):=λl hl v hv=>by
  unfold aG at hl
  split at hl
  ·cases hl
  ·obtain ⟨j,hj,rfl⟩:=vo.mp hl
   obtain ⟨row,gY,rfl⟩:=vo.mp hv
   have iQ:j < row.length:=by refine af (Jo row gY) ?_; simpa using hj
   rw [js,oC iQ]
   exact NU row gY _ (yd _)
 have Gu:∀j,j < held.length->V.lst (sr held j)=V.lst ((P.map λrow=>row.getD j .none).map f):=λj hj=>by
  rw [<-Fb held j hj,Tv,Fk,Fk]
  refine congrArg V.lst (Um λrow gY=> ?_)
  have iQ:j < row.length:=by refine af (Jo row gY) ?_; exact Y2 [_,_,_] [] (.t V0 V1) (.e V2 V1) (.t V0 V2) zt hj rfl
  simp [js,iQ]
 refine xL <| gG (λaH aa=>∀G_,(aH=((((en.set 30 (.lst (held.map .lst))).set 84 (.ref kn)).set 6 (.lst (fA f P))).set 100 (.ref a)).set 131 (.ref a7)->BF 2 C8 aa->Kn kn aa n7 60->G_)->G_) (λN h1 _ _ _=> ?_) ?_
 ·have fin:∀vs (Q' X'),vs=fA f (aG P ars.length)->(∀aa,BF 2 C8 aa->Kn kn aa n7 60->Q' (.bool TU) aa)->(CC (k+111)).call 908 [.ref a7,.ref kn,.lst vs] Q' X' C8:=λvs Q' X' e h=>by
   refine af e <| dF (S6.K.fr rfl F7) T7 (Y3 [_,_,_] [] (.t (.a (.n 40) V0) (.n 40000)) (.l V1 (.n 4)) (.e V0 V2) (.l V2 V1) lP.2 QM K'.1 rfl) (λl hl=>by refine af (K'.2 l hl) ?_; exact Y3 [_,_,_] [] (.l V0 V1) (.l (.n 20000) V1) (.l V2 (.n 24)) (.e V0 V2) LL qL uf rfl) (λl hl v hv=>(Tj l hl v hv).fr CP) λrl F8 K8=>h rl F8 (K8.mono (Lf _) (Y3 [_,_,_] [] (.l (.a (.a (.n 40) (.n 1)) V0) (.n 60)) (.l V1 (.n 4)) (.e V0 V2) (.l V2 V1) lP.2 QM K'.1 rfl))
  by_cases hp:0 < cL (ars.map (·.l.length))
  ·have fP:=Y1 [_] [] (.T (.n 0) (.c V0)) (.t (.n 0) V0) hp rfl
   refine eN C4 ?_
   refine fV (decide_eq_true fP) ?_
   refine zy (by rw [vk]; exact ⟨Y0 [] [] (.T (.g (.n 1000000)) (.n 0)) rfl,⟨Y0 [] [] (.T (.n 0) (.n 1000000)) rfl,⟨Y0 [_] [] (.T (.g (.n 1000000)) (.c V0)) rfl,Y2 [_,_] [] (.T (.c V0) (.n 1000000)) (.l V1 (.n 4)) (.e V0 V1) lP.2 zt rfl⟩⟩⟩) ?_
   rw [vk,db]
   refine aL (Hj held.length) (λ(i:Nat)=> .int i) (λj=> .lst (sr held j)) rfl rfl (λj hj acc N' a1 a2=> ?_) (by simp; exact Y3 [_,_,_] [] (.l V0 V1) (.l (.n 20000) V1) (.l V2 (.n 4)) (.e V0 V2) LL lP.2 zt rfl) ?_
   ·have iQ:j < held.length:=by simpa using hj
    refine zc iQ (by exact Y2 [_,_] [] (.l V0 (.n 4)) (.l V1 (.n 4)) (.e V0 V1) lP.2 zt rfl) NN ?_ ⟨a1,a2⟩
    have e:=Gu j iQ
    injection e with e
    refine af e ?_; simp; exact Y2 [_,_] [] (.l V0 (.n 20000)) (.l V1 (.n 24)) (.e V0 V1) qL uf rfl
   ·refine fin _ _ _ ?_ λrl F8 K8=> ?_
    ·have WH:P ≠ []:=λh=>by rw [h] at uf; simp at uf; exact Y2 [_] [] .f (.r (.e (.n 0) V0)) (.t (.n 0) V0) uf hp rfl
     refine af (qn WH) ?_
     unfold fA
     rw [Fk,zt]
     exact Um λj hj=>Gu j (by refine af zt ?_; simpa using hj)
    ·exact h1 _ _ λG_ k_=>k_ rfl F8 K8
  ·have fP:¬(0:Int) <(cL (ars.map (·.l.length)):Int):=Y1 [_] [] (.o (.T (.n 0) (.c V0))) (.o (.t (.n 0) V0)) hp rfl
   refine eN C4 ?_
   refine gk (decide_eq_false fP) ?_
   refine zy (by decide) ?_
   refine af yy ?_
   refine ⟨rfl,?_⟩
   refine fin _ _ _ ?_ λrl F8 K8=> ?_
   ·have:P=[]:=Z9.mp (by exact Y2 [_,_] [] (.e V0 (.n 0)) (.e V0 V1) (.o (.t (.n 0) V1)) uf hp rfl)
    refine af this ?_; rfl
   ·exact h1 _ _ λG_ k_=>k_ rfl F8 K8
 refine λ_ rl ph=>ph _ λeS F8 K8=> ?_
 refine af eS ?_
 refine dG ?_; intro Ze
 have S8:=(S7.kn F8 K8 (Lf _))
 have C7:=CP.trans F8.t2
 obtain ⟨cs,GL,cm,ct,Y7,Mn,CZ,Wo,Tp,Zi,XJ⟩:=(T7.fr (ts:=[2]) rfl F8.fr).rws
 have jg:cs.length<=4:=by
  have:=congrArg N8 Mn
  rw [vk] at this; exact Y3 [_,_,_] [] (.l V0 (.n 4)) (.l V1 (.n 4)) (.l V2 V1) (.r (.e V2 V0)) lP.2 K'.1 this rfl
 have pg:∀c∈cs,c.l.length=P.length:=λc hc=>K'.2 _ (by refine af Mn ?_; exact Zs hc)
 have Qs:=F7.len
 clear T7 K8 S7 S6 QM
 have LB:=Tp.ok
 refine gG (λaH aa=>∀G_:Prop,(aH=((((en.set 30 (.lst (held.map .lst))).set 84 (.ref kn)).set 6 (.lst (fA f P))).set 100 (.ref a)).set 131 (.ref a7)->(∃n' u',Ws I b bx kn aa n' u' (C+50) 100/\Fr nr rl aa)->G_)->G_) (λN h1 _ _ _=> ?_) ?_
 ·refine eN eZ ?_
  refine da (s:=⟨a7,GL,cs.map λr=> .ref r.a⟩) (w:=P.length) S8.W LB (by exact Y2 [_,_] [] (.t V0 (.n 30)) (.l V1 (.n 24)) (.e V0 V1) qL uf rfl) (by simp; exact Y1 [_] [] (.t V0 (.n 30)) (.l V0 (.n 4)) jg rfl) (λi v hv=> ?_) λXM a9 Zk x7 n9 u9 Q6 Qh W9 F9 l9 T9=> ?_
  ·obtain ⟨r,hr,rfl⟩:=vo.mp (Zv hv)
   exact .inl ⟨r,rfl,(CZ r hr).ok,pg r hr⟩
  have:cs=XM:=jE (σ:=rl) (λr hr=>(CZ r hr).ok) (λr hr=>(Qh r hr).1) Q6
  subst this
  rw [<-Mn] at T9
  rw [show aG (aG P ars.length) P.length=P by
   by_cases hz:P=[]
   ·refine af hz ?_; rfl
   ·exact pU lP.1 Jo] at T9
  have Ts:=T9.len
  refine dF (f:=f) (S8.K.fr (ts:=[]) rfl F9) T9 (by exact Y3 [_,_,_] [] (.t (.a (.n 60) V0) (.n 40000)) (.l V1 (.n 24)) (.e V2 V1) (.e V0 V2) qL uf Ts rfl) (λl hl=>by have:=Jo l hl; exact Y3 [_,_,_] [] (.l V0 V1) (.l (.n 20000) V1) (.l V2 (.n 4)) (.e V0 V2) LL lP.2 this rfl) (λl hl v hv=>(NU l hl v hv).fr (C7.trans F9.t0)) λx8 G0 Yk=> ?_
  exact h1 _ _ λG_ k_=>k_ rfl ⟨n9,u9,((S8.step W9 F9 l9).kn G0 Yk (Lf _)).mono (FF _) (by exact Y3 [_,_,_] [] (.l (.a (.a (.n 60) (.n 1)) V0) (.n 100)) (.l V1 (.n 24)) (.e V2 V1) (.e V0 V2) qL uf Ts rfl),F9.t0.trans G0.t2⟩
 refine λ_ x8 ph=>ph _ λeS JH=> ?_
 refine af eS ?_
 obtain ⟨YF,Yw,Jz,CS⟩:=JH
 have uT:=C7.trans CS
 have M8:Fr nr pQ x8:=(F7.t0.trans F8.t2).trans CS
 have Ih:∀{aa:St},Fr nr x8 aa->Tb aa f ⟨a,it,rs.map λr=> .ref r.a⟩ rs ars.length:=λ{aa} F=>by
  have F':=M8.trans F
  obtain ⟨N,own,x1,x2,x3,x4,x5,x6⟩:=Lb
  refine ⟨rfl,λr hr=>⟨(Br r hr).1.t F',(Br r hr).2⟩,⟨N,own,Q1,F'.get x1 rfl,F'.get x2 rfl,λr hr=> ?_⟩,λr hr v hv=>(NU _ (by refine af Js ?_; exact Zs hr) v hv).fr (xZ.trans F')⟩
  obtain ⟨M,md,y1,y2,y3,y4,_⟩:=Qc r hr
  exact ⟨M,md,Q1,by exact Y2 [] [_,_,_] (.o (.Q V0 V1)) (.T V2 V0) (.L V1 V2) x3 y4 rfl,F'.get y1 rfl,F'.get y2 rfl⟩
 have Jl:∀{aa:St},Fr nr x8 aa->aZ aa ⟨a7,GL,cs.map λr=> .ref r.a⟩/\∀c∈cs,aZ aa c:=λ{aa} F=>⟨LB.t (CS.trans F),λc hc=>(CZ c hc).ok.t (CS.trans F)⟩
 have Xs:fA f P=fA f (rs.map (·.l)):=by exact af Js rfl
 refine af Xs ?_
 refine dG ?_; intro Zd
 have sj:cs.map (·.l)=aG (rs.map (·.l)) ars.length:=by rw [<-Mn,<-Js]
 refine eN eZ ?_
 refine eN e5 ?_
 refine AY (tb:=⟨a,it,rs.map λr=> .ref r.a⟩) (cb:=⟨a7,GL,cs.map λr=> .ref r.a⟩) (rs:=rs) (cs:=cs) (w:=ars.length) (f:=f) Jz (by exact Y1 [_] [] (.l (.a V0 (.n 50)) (.n 800000)) (.l V0 (.n 700000)) hC rfl) (by exact Y0 [] [] (.l (.n 100) (.n 20000)) rfl) (Ih (Fr.refl _ _)).t (Jl (Fr.refl _ _)).1 rfl rfl (Ih (Fr.refl _ _)).r (Jl (Fr.refl _ _)).2 sj (by exact Y1 [_] [] (.t V0 (.n 30)) (.l V0 (.n 4)) lP.2 rfl) (by exact Y3 [_,_,_] [] (.t V0 (.n 30)) (.l V1 (.n 24)) (.e V2 V1) (.e V0 V2) qL uf zq rfl) (Ih (Fr.refl _ _)).f λC9 I9 G9 Jy GZ Ed=> ?_
 refine eN eZ ?_
 refine eN e5 ?_
 refine Ea (tb:=⟨a,it,rs.map λr=> .ref r.a⟩) (rs:=rs) (w:=ars.length) (f:=f) Jy (by exact Y1 [_] [] (.l (.a (.a V0 (.n 50)) (.n 10)) (.n 800000)) (.l V0 (.n 700000)) hC rfl) (by exact Y0 [] [] (.l (.a (.n 100) (.n 100)) (.n 20000)) rfl) (Ih GZ) (by exact Y1 [_] [] (.t V0 (.n 30)) (.l V0 (.n 4)) lP.2 rfl) (by exact Y3 [_,_,_] [] (.t V0 (.n 30)) (.l V1 (.n 24)) (.e V2 V1) (.e V0 V2) qL uf zq rfl) λOk YE Yv Yg RK YK=> ?_
 have ri:=GZ.trans RK
 refine eN eZ ?_
 refine eN e5 ?_
 refine yC (tb:=⟨a,it,rs.map λr=> .ref r.a⟩) (cb:=⟨a7,GL,cs.map λr=> .ref r.a⟩) (rs:=rs) (cs:=cs) (w:=ars.length) (f:=f) Yg (by exact Y1 [_] [] (.l (.a (.a (.a V0 (.n 50)) (.n 10)) (.n 10)) (.n 800000)) (.l V0 (.n 700000)) hC rfl) (by exact Y0 [] [] (.l (.a (.a (.n 100) (.n 100)) (.n 100)) (.n 20000)) rfl) (Ih ri) (by exact Y1 [_] [] (.t V0 (.n 30)) (.l V0 (.n 4)) lP.2 rfl) (by exact Y3 [_,_,_] [] (.t V0 (.n 30)) (.l V1 (.n 24)) (.e V2 V1) (.e V0 V2) qL uf zq rfl) xF (Jl ri).1 rfl (Jl ri).2 sj λUm YD Yu Yf RJ YJ=> ?_
 have M9:=ri.trans RJ
 have RH:=uT.trans M9
 refine eN eZ ?_
 refine eN e5 ?_
 refine eN nU ?_
 refine vN (rs:=ars) Yf (by exact Y1 [_] [] (.l (.a (.a (.a (.a V0 (.n 50)) (.n 10)) (.n 10)) (.n 10)) (.n 800000)) (.l V0 (.n 700000)) hC rfl) (λr hr=>⟨(Jk r hr).1.t RH,h4 r hr⟩) lP λOj YC Ys Ye RI YI=> ?_
 have x0:=M9.trans RI
 have Fv:=uT.trans x0
 refine eN nU ?_
 refine sJ fC ?_
 refine aL ars (λr=> .ref r.a) (λr=> .lst (r.l.map f)) rfl rfl (λr hr acc N a1 a2=> ?_) (by exact Y2 [_,_] [] (.l V0 V1) (.l (.n 20000) V1) (.l V0 (.n 4)) LL lP.2 rfl) ?_
 ·exact bJ ((Jk r hr).1.t Fv).al (by have:=h4 r hr; exact Y2 [_,_] [] (.l V0 V1) (.l (.n 20000) V1) (.l V0 (.n 4)) LL this rfl) (λv hv=>(QB r hr v hv).fr Fv) ⟨a1,a2⟩
 rw [tJ]
 have sG:cw 4 (.lst (held.map V.lst))=TU:=by
  rw [<-Iv]
  refine jA (σ:=jO) λl hl v hv=> ?_
  obtain ⟨r,hr,rfl⟩:=vo.mp hl
  exact QB r hr v hv
 rw [Iv]
 refine cT (uH (cD sG rfl)) ?_
 refine eN eZ ?_
 refine eN e5 ?_
 refine eN nU ?_
 have M5:=M8.trans x0
 have Ym:=CS.trans x0
 obtain ⟨N,own,x1,x2,x3,x4,x5,x6⟩:=Lb
 have RW:tt<=it:=x5
 have RV:it < kJ.length:=x6
 have hL:wO Oj f ars rs cs ⟨a,it,rs.map λr=> .ref r.a⟩ ⟨a7,GL,cs.map λr=> .ref r.a⟩ jO.length tt:=by
  refine ⟨t1,λr hr=>⟨(Jk r hr).1.t Fv,?_⟩,λr hr=> ?_,λc hc=>⟨(Jl x0).2 c hc,?_⟩,⟨(Ih x0).t,x5⟩,⟨(Jl x0).1,?_⟩,rfl,rfl,(Ih x0).f,λc hc v hv=> ?_⟩
  ·obtain ⟨_,_,_,_,g⟩:=(Jk r hr).1
   exact dE g
  ·obtain ⟨M,md,y1,y2,y3,y4,y5,y6⟩:=Qc r hr
   exact ⟨⟨M,md,M5.get y1 rfl,M5.get y2 rfl⟩,y5,y6⟩
  ·obtain ⟨M,md,y1,y2,y3,y4,y5,y6⟩:=CZ c hc
   exact Y4 [_,_,_,_,_] [] (.l V0 V1) (.r (.e V2 V3)) (.l V0 V4) (.t V4 V3) (.l V2 V1) Bw RW RV y5 rfl
  ·obtain ⟨M,md,y1,y2,y3,y4,y5,y6⟩:=Tp
   have Uo:ct<=GL:=y5
   show tt<=GL
   exact Y5 [_,_,_,_,_,_] [] (.l V0 V1) (.r (.e V2 V3)) (.l V2 V4) (.l V0 V5) (.t V5 V3) (.l V4 V1) Bw XJ RW RV Uo rfl
  ·exact (Tj _ (by rw [Mn]; exact Zs hc) v hv).fr Fv
 refine CE (ars:=ars) (tb:=⟨a,it,rs.map λr=> .ref r.a⟩) (cb:=⟨a7,GL,cs.map λr=> .ref r.a⟩) (rs:=rs) (cs:=cs) (f:=f) Ye (by exact Y1 [_] [] (.l (.a (.a (.a (.a (.a V0 (.n 50)) (.n 10)) (.n 10)) (.n 10)) (.n 10)) (.n 800000)) (.l V0 (.n 700000)) hC rfl) (by exact Y0 [] [] (.l (.a (.a (.a (.n 100) (.n 100)) (.n 100)) (.n 100)) (.n 20000)) rfl) hL iS (λr hr=>(Br r hr).2) lP h4 (by exact Y3 [_,_,_] [] (.t V0 (.n 30)) (.l V1 (.n 24)) (.e V2 V1) (.e V0 V2) qL uf zq rfl) xF ⟨by exact Y1 [_] [] (.t V0 (.n 30)) (.l V0 (.n 4)) jg rfl,λc hc=>by have:=pg c hc; exact Y3 [_,_,_] [] (.t V0 (.n 30)) (.l V1 (.n 24)) (.e V2 V1) (.e V0 V2) qL uf this rfl⟩ λUl U2 Ur X9 Yq YH=> ?_
 exact q _ U2 Ur X9 (Yq.mono (by exact Y0 [_] [] (.l (.a (.a (.a (.a (.a (.a V0 (.n 50)) (.n 10)) (.n 10)) (.n 10)) (.n 10)) (.n 10)) (.a V0 (.n 200))) rfl))
theorem Pg {l:List Int} (hl:l.length<=63):(CC (k+117)).call IE [.lst (l.map .int)] (λv o_=>v=.bool TU) (λo_ o_=>False) []:=by
 refine C1 ⟨YL,11,[123],[],GP⟩ rfl rfl <| IM hl λb o B ko=>zF λI aT n u ew W F n0=> ?_
 have B1:=B.fr rfl F
 refine dQ rfl ?_
 have loop:∀(m:Nat),m<=2->∀N,(∀en aa,N .next en aa)->∀en,en 104=vi (.ref 1)->en 5=vi (.ref 0)->
   hH (.lst (aM 0 m)) (aM 0 m) (zP 63 (bX (CC (k+116)) (.cons (.bS (.not (.call 952 (.cons (.var 104) (.cons (.var 5) .nil)))) (.cons (.ret (.bool Q1)) .nil) .nil) .nil)) (λo_ o_=>False)) (aM 0 m) N en aT:=by
  intro m hm N hN en e1 e2
  refine aS (λr en aa=>∀G_,(∀n' u' C,en 104=vi (.ref 1)->en 5=vi (.ref 0)->Wd I aa n' u'->kH b 0 aa C->C+200*r.length<=400->G_)->G_) (λo_ o_ o_ o_=>rfl) (λv r en aa N' hp h3 h4 h5=> ?_) (λen aa hp=>hN en aa) _ _ _ (λG_ k_=>k_ n u 0 e1 e2 W B1 (by simp only [db,vk,ab5]; exact Y1 [_] [] (.l (.a (.n 0) (.m 200 V0)) (.n 400)) (.k 200 (.l V0 (.n 2))) hm rfl))
  refine hp _ λn' u' C p1 p2 W' B' hC=> ?_
  have Xg:I.w=1:=ew
  exact eN p1 <| eN p2 <| bD Xg <| zN W' B' (Y1 [_,_] [] (.l V0 (.n 700000)) (.l (.a V0 (.m 200 (.a V1 (.n 1)))) (.n 400)) hC rfl) λaV n2 u2 W2 B2=>h3 _ _ (λG_ k_=>k_ n2 u2 (C+200) p1 p2 W2 B2 (Y1 [_,_] [] (.l (.a (.a V0 (.n 200)) (.m 200 V1)) (.n 400)) (.l (.a V0 (.m 200 (.a V1 (.n 1)))) (.n 400)) hC rfl))
 obtain ⟨g,s,c,zz,hb,o_,o_,o_,o_,o_⟩:=B1
 refine bA (bT hb) (PH rfl) ?_
 cases b with
 | true=>
  exact pw (by decide) <| loop 1 (Y0 [] [] (.l (.n 1) (.n 2)) rfl) _ (λo_ o_=>rfl) _ rfl rfl
 | false=>
  refine Mt ?_
  by_cases h2:(((l.map V.int).length:Nat):Int) < 2
  ·exact fV (decide_eq_true h2) <| pw (by decide) <| loop 1 (Y0 [] [] (.l (.n 1) (.n 2)) rfl) _ (λo_ o_=>rfl) _ rfl rfl
  ·exact gk (decide_eq_false h2) <| pw (by decide) <| loop 2 (Y0 [] [] (.l (.n 2) (.n 2)) rfl) _ (λo_ o_=>rfl) _ rfl rfl
end
end Mine.Internal
end
end
section
open PySem PySem.W PyProof.Rows
set_option linter.all false
set_option maxRecDepth 100000
set_option maxHeartbeats 8000000
namespace Mine.Internal
abbrev tT:Prop:=True
theorem tt:tT:=trivial
namespace hd
def tw6816647734673517018:=tt
def tw17631733924889304326:=tt
def tw4666280033733451440:=tt
def tw5257284115718746984:=tt
def tw3058765270845314565:=tt
def tw9417033243287817803:=tt
def tw13721701085657304472:=tt
def tw11066038104728849246:=tt
def tw4139280733346450165:=tt
def tw4068178545649160379:=tt
def tw5197284449146708579:=tt
def tw16045600132092593285:=tt
def tw803298182361166000:=tt
def tw13423386743651976425:=tt
def tw6435613555943814401:=tt
def tw17186467315314896858:=tt
def tw10554151724961605560:=tt
def tw9205932166849929317:=tt
def tw8151924304054899687:=tt
def tw2359158310299208099:=tt
def tw12652299772924304202:=tt
def tw14479959197142875710:=tt
def tw7231647588127744845:=tt
def tw16821842716671950988:=tt
def tw14851662188348016525:=tt
def tw7430934849479919532:=tt
def tw13784644807815321581:=tt
def tw10998584579097939537:=tt
def tw17777096316016710046:=tt
def tw18285952895504482214:=tt
def tw12235683188849618921:=tt
def tw11745692727488381282:=tt
def tw15127604789221709464:=tt
def tw12343268692668775817:=tt
def tw10624226597165476215:=tt
def tw14679928423975458991:=tt
def tw7535887658832202149:=tt
def tw8574351653490815970:=tt
def tw15210470473946732509:=tt
def tw11857948033157852604:=tt
def tw6034331834246549318:=tt
def tw8549678576505192021:=tt
def tw5165858259965997201:=tt
def tw2873107717996512030:=tt
def tw580301670077480640:=tt
def tw13702962655247883447:=tt
def tw18059793885086720939:=tt
def tw13565630665325419216:=tt
def tw11080624332738626378:=tt
def tw16973133056051306746:=tt
def tw7691761758460047838:=tt
def tw10812026482400934424:=tt
def tw5371229575969440175:=tt
def tw11122842944015723790:=tt
def tw3009570038974986837:=tt
def tw808681233213301776:=tt
def tw2389079507042779699:=tt
def tw4572055151466897615:=tt
def tw9826395005243518002:=tt
def tw3003183182289327622:=tt
def tw5357363121441987727:=tt
def tw16413547821465148756:=tt
def tw1066297216363992635:=tt
def tw6795091964090089501:=tt
def tw17051707027893714694:=tt
def tw7273997582074884960:=tt
def tw15831449180804048182:=tt
def tw933989680590058838:=tt
def tw11790099413888845297:=tt
def tw3692403537964248751:=tt
def tw15039365748200984442:=tt
def tw29851341024097229:=tt
def tw4932915121498799041:=tt
def tw9324410711738953788:=tt
def tw8637924245605089610:=tt
def tw4293566933973591676:=tt
def tw6128699546485818623:=tt
def tw9503991325330020860:=tt
def tw18212267438146297484:=tt
def tw5976037514866842435:=tt
def tw13029036752043021494:=tt
def tw15446708149075816471:=tt
def tw5293970474611253079:=tt
def tw12822435600720695279:=tt
def tw6825992141876648016:=tt
def tw15990409148406401000:=tt
def tw6103308179388321402:=tt
def tw8549650921257051890:=tt
def tw4901217085786567169:=tt
def tw5765981979616339262:=tt
def tw6809180150348452684:=tt
def tw9677542627691614064:=tt
def tw6156775387982992289:=tt
def tw14438868419966217030:=tt
def tw17748941975480150062:=tt
def tw799876701966566609:=tt
def tw2277299923939199616:=tt
def tw2116293081078497426:=tt
def tw4455062051430825911:=tt
def tw4949857960039595651:=tt
def tw17570658257265286729:=tt
def tw5910955368310942365:=tt
def tw14117766483522153913:=tt
def tw18205726932040692184:=tt
def tw1874159405358719183:=tt
def tw633232665802296342:=tt
def tw10671393477618117455:=tt
def tw5063007335932810957:=tt
def tw6721296464632655532:=tt
def tw15419413099817759249:=tt
def tw9687556985513317663:=tt
def tw4887793233202170652:=tt
def tw5479632107175813453:=tt
def tw7928477069593319606:=tt
def tw6778391522916555698:=tt
def tw14084754144043732904:=tt
def tw8998826512192558392:=tt
def tw7524951473946329476:=tt
def tw7966823312900173658:=tt
def tw16655954734093074254:=tt
def tw14791417324727343718:=tt
def tw15516504957378829982:=tt
def tw6264115543738340563:=tt
def tw12543959594621226614:=tt
def tw17052650310773991273:=tt
def tw14831906022683161478:=tt
def tw10913585522690886933:=tt
def tw226073816358300282:=tt
def tw10261226752179379232:=tt
def tw14520819711834966260:=tt
def tw9452872987620912765:=tt
def tw15149605427897886594:=tt
def tw17090953203297710942:=tt
def tw1555437378128666086:=tt
def tw9870564867049460845:=tt
def tw17510691922017120571:=tt
def tw6493439458051767224:=tt
def tw9669889567957919948:=tt
def tw18061153546308781385:=tt
def tw16874358794406088996:=tt
def tw15208779795234195778:=tt
def tw12402786825793880664:=tt
def tw9412117496694199405:=tt
def tw6383293400628747032:=tt
def tw10718497935973042336:=tt
def tw4144914912218024235:=tt
def tw15954617418576163654:=tt
def tw12398722771655946143:=tt
def tw14675040844991300425:=tt
def tw13988012559056256269:=tt
def tw1378153343294550077:=tt
def tw8138335841240258086:=tt
def tw5216735753287636777:=tt
def tw16159750873741389634:=tt
def tw6442102004362931456:=tt
def tw18315960055377521309:=tt
def tw12179782168187316902:=tt
def tw17565952048672411161:=tt
def tw10935814377348622260:=tt
def tw8980041911258296626:=tt
def tw6350475880396880301:=tt
def tw13238961998321641863:=tt
def tw17746410852422831316:=tt
def tw7562163892257148404:=tt
def tw9810849677208565135:=tt
def tw15197724251249667508:=tt
def tw4217311925018217667:=tt
def tw4195166080166848607:=tt
def tw5411588774181628338:=tt
def tw9821591817271157005:=tt
def tw1243817115420203540:=tt
def tw6584964919600876763:=tt
def tw13894294492759856728:=tt
def tw9221647939110133654:=tt
def tw1899478393449861924:=tt
def tw15161326946880079398:=tt
def tw4451072393086977611:=tt
def tw16203475035833160808:=tt
def tw4413494717353474276:=tt
def tw2364733319659085324:=tt
def tw3703956732320662906:=tt
def tw8978102704660224085:=tt
def tw7569833724000825925:=tt
def tw5969322656178467665:=tt
def tw8620915925392604993:=tt
def tw6064361311239337953:=tt
def tw10315466174217670915:=tt
def tw8759374071611058102:=tt
def tw11243312107713688672:=tt
def tw10954896027920521500:=tt
def tw8119415023574550399:=tt
def tw16490958093706603973:=tt
def tw477729914001885993:=tt
def tw17860502405603952497:=tt
def tw3989794210015794800:=tt
def tw7046368057735379631:=tt
def tw6196946367736269074:=tt
def tw8053185651649180646:=tt
def tw14846430730451215336:=tt
def tw15722214150439884324:=tt
def tw2130250830938240763:=tt
def tw13308291806819139472:=tt
def tw5130662557875759442:=tt
def tw10792643332837311246:=tt
def tw6178929325686578268:=tt
def tw2253076609543119693:=tt
def tw2582875464695293758:=tt
def tw455996952264472808:=tt
def tw11082318014727886095:=tt
def tw6760662844775422206:=tt
def tw11026102214843661311:=tt
def tw13814786413287485596:=tt
def tw15662535594664088486:=tt
def tw5654540503010958517:=tt
def tw6567288245983111171:=tt
def tw865256926295866735:=tt
def tw14246127934150904186:=tt
def tw1479959440485337153:=tt
def tw15170166819509798712:=tt
def tw6324595852799433117:=tt
def tw13331704739837112769:=tt
def tw9522278419015659552:=tt
def tw15423576325063506524:=tt
def tw5496281456561401086:=tt
def tw4790182246096814837:=tt
def tw1995303238660393591:=tt
def tw12382532101624025837:=tt
def tw8382594148505853963:=tt
def tw14393407716614491320:=tt
def tw2620797684545610549:=tt
def tw12386524454841638718:=tt
def tw8667539529067879:=tt
def tw15413546389474711556:=tt
def tw8225072435852268347:=tt
def tw11812990402858981387:=tt
def tw3219386304998410691:=tt
def tw9285060498679892708:=tt
def tw7098796662738865718:=tt
def tw3227706676992921592:=tt
def tw2395360589981782600:=tt
def tw6236048102885228246:=tt
def tw7873400313799303876:=tt
def tw5109750279720785074:=tt
def tw13152900647210115318:=tt
def tw2796045569192068878:=tt
def tw5487493568022846362:=tt
def tw2234841607322767675:=tt
def tw14987213230683893226:=tt
def tw8913407344586987475:=tt
def tw5597022631086240730:=tt
def tw2557189256652083335:=tt
def tw13637684649295473127:=tt
def tw18264486928267264063:=tt
def tw17706894499715753786:=tt
def tw4853578551445522630:=tt
def tw14323767728887713897:=tt
def tw7306873896866421051:=tt
def tw15500987786846045838:=tt
def tw18045105196089033547:=tt
def tw7943434605978140569:=tt
def tw10942831735398218583:=tt
def tw3278898641362494929:=tt
def tw9464389324830640952:=tt
def tw168201424540246993:=tt
def tw4136307361423647539:=tt
def tw16874378897286668274:=tt
def tw1523212933880916979:=tt
def tw11145164175221040675:=tt
def tw10287841801749109433:=tt
def tw17438882437580071154:=tt
def tw13624718180627220446:=tt
def tw15459919231471728178:=tt
def tw13862642468083079315:=tt
def tw10290247671117069052:=tt
def tw2601553834287326237:=tt
def tw14669425496545353893:=tt
def tw18150562674833509941:=tt
def tw17662925508944244659:=tt
def tw15590289154827916315:=tt
def tw2161470769050845104:=tt
def tw11314117055357068600:=tt
def tw7339385377263174568:=tt
def tw11423366701579904857:=tt
def tw7011742071773796823:=tt
def tw4292124644429209710:=tt
def tw432312013788014763:=tt
def tw17059487216203745038:=tt
def tw17015435336251040360:=tt
def tw10257909930514227660:=tt
def tw5667273915815168098:=tt
def tw11094289645390684026:=tt
def tw16555405951933438768:=tt
def tw5469443151430644227:=tt
def tw9365843419700471067:=tt
def tw16570042753281566528:=tt
def tw7547125785247578940:=tt
def tw13819635886744424586:=tt
def tw7230039626435586406:=tt
def tw2241180450144564393:=tt
def tw3825937853902108583:=tt
def tw603594558354810906:=tt
def tw15157931247601712807:=tt
def tw18260245816743181511:=tt
def tw17156858200166860814:=tt
def tw12785757555996779899:=tt
def tw13043773894940636711:=tt
def tw7181557272237157618:=tt
def tw546453376004863633:=tt
def tw14030315677740452054:=tt
def tw4669232988116832430:=tt
def tw13661864377559211056:=tt
def tw5071737660975045499:=tt
def tw4890884112262022893:=tt
def tw13162475630746883375:=tt
def tw17745206419663925312:=tt
def tw17587535071971633485:=tt
def tw7333407450560187677:=tt
def tw9334336573746576752:=tt
def tw3477474463364644245:=tt
def tw6249278510742976355:=tt
def tw42479039228130786:=tt
def tw2075781144131075437:=tt
def tw16669484289434262652:=tt
def tw9035368302765726918:=tt
def tw12883188296171978019:=tt
def tw17523582860893176437:=tt
def tw10266834256667246075:=tt
def tw9156451550823312209:=tt
def tw12186285151874977731:=tt
def tw2483435636183940808:=tt
def tw1166830999486302671:=tt
def tw15473961653952966477:=tt
def tw2540508547489348831:=tt
def tw1532897608927182526:=tt
def tw9704951684194552943:=tt
def tw3595355477287675206:=tt
def tw13411596345087251410:=tt
def tw12392441046977651542:=tt
def tw18066081243835392563:=tt
def tw7086048481527543654:=tt
def tw80207222412747470:=tt
def tw1298781202104834068:=tt
def tw4854229051247803819:=tt
def tw13566373518162323693:=tt
def tw17992777665364332788:=tt
def tw1992405202823017090:=tt
def tw13309457129844289811:=tt
def tw11406844259604597016:=tt
def tw8986037579572391120:=tt
def tw1479833339227408067:=tt
def tw73932630633417052:=tt
def tw17573272137492337276:=tt
def tw2848176756851099411:=tt
def tw12387470312852788890:=tt
def tw8881279393935526575:=tt
def tw5246501284691441710:=tt
def tw16568257914760601096:=tt
def tw7913717863462653910:=tt
def tw10804168806679319379:=tt
def tw8150992774993933158:=tt
def tw14357048138563382964:=tt
def tw3530395735491656021:=tt
def tw16479881564531537609:=tt
def tw10223230911338949651:=tt
def tw6299529512197398807:=tt
def tw3571091832294409272:=tt
def tw4458026342584188919:=tt
def tw15265042437909298333:=tt
def tw3692537525332797038:=tt
def tw14295902748450531312:=tt
def tw5462893749543862879:=tt
def tw14260483616928936680:=tt
def tw7192714274489868344:=tt
def tw2310416840173604703:=tt
def tw17148754175671867601:=tt
def tw16698072605275554026:=tt
def tw1838016361993159935:=tt
def tw15687488332400067832:=tt
def tw580786715081773033:=tt
def tw15163363291558411915:=tt
def tw13675884382191442351:=tt
def tw3416535462228283139:=tt
def tw9003164874222133143:=tt
def tw11307048654218664222:=tt
def tw17133045824648328273:=tt
def tw10763837439906050012:=tt
def tw10850427885867537041:=tt
def tw2417802982746472137:=tt
def tw7107885837275350853:=tt
def tw2487633121026635805:=tt
def tw11959612452944106126:=tt
def tw6269251234911203764:=tt
def tw2678143867751452360:=tt
def tw13585729697985622802:=tt
def tw9764821556886614387:=tt
def tw11912248818721715553:=tt
def tw17413402906406384846:=tt
def tw17213202801741711188:=tt
def tw18001230695176581838:=tt
def tw1847498129718734126:=tt
def tw3228372226667921670:=tt
def tw4184917019135499818:=tt
def tw9257564877634915833:=tt
def tw15725300006707927175:=tt
def tw15080681613647853314:=tt
def tw16349847624731819066:=tt
def tw15614994299816657964:=tt
def tw1322599901344629079:=tt
def tw6341908896634534438:=tt
def tw6425283475488350215:=tt
def tw69890677706110351:=tt
def tw7690266627064258982:=tt
def tw9366875484532515407:=tt
def tw15709432073139065983:=tt
def tw14497964095726069059:=tt
def tw3877861454377741623:=tt
def tw4935679993663727648:=tt
def tw16912601836600679760:=tt
def tw10980597926105621645:=tt
def tw6734474459372280481:=tt
def tw9259770788124725997:=tt
def tw4287501998611880655:=tt
def tw17825077915755302112:=tt
def tw12481797993636667465:=tt
def tw10142378343001408303:=tt
def tw2680338956159875683:=tt
def tw8619976211229556983:=tt
def tw2140662293383983925:=tt
def tw1487619136494144620:=tt
def tw4248678407315378616:=tt
def tw9673087150982176410:=tt
def tw6671535061982701834:=tt
def tw16116582832771544909:=tt
def tw14170626163746665929:=tt
def tw61191686967583403:=tt
def tw5662764230424782651:=tt
def tw11798513794507384182:=tt
def tw11155353856842241703:=tt
def tw12927277143433365694:=tt
def tw7352393279153081721:=tt
def tw3093505475390664035:=tt
def tw7504022934668878425:=tt
def tw1041734066939551766:=tt
def tw8882255173952614290:=tt
def tw6351979084779308449:=tt
def tw13704628199583507327:=tt
def tw4577393864431605276:=tt
def tw3312639428575888987:=tt
def tw3562850618612545023:=tt
def tw1527838690883220852:=tt
def tw16632024033765633173:=tt
def tw17714025838733488182:=tt
def tw8993227998240613506:=tt
def tw5930415463011625340:=tt
def tw3517015006915437578:=tt
def tw2138341982008666649:=tt
def tw231678842138440352:=tt
def tw14076141398139754965:=tt
def tw7600283742025370008:=tt
def tw16629463414486148354:=tt
def tw5498244211294084031:=tt
def tw6767105285010031935:=tt
def tw8620653264166131082:=tt
def tw3609619317189211081:=tt
def tw17438610683811369668:=tt
def tw15232813378086664489:=tt
def tw12073835226634816525:=tt
def tw10592794516085672850:=tt
def tw17417785148129514321:=tt
def tw10980925986996206302:=tt
def tw14585109114721359362:=tt
def tw7178817707606537756:=tt
def tw10392334341150296681:=tt
def tw13522595751371437881:=tt
def tw362031258118614000:=tt
def tw8252906717003651694:=tt
def tw4239049415839531936:=tt
def tw2223425423447361994:=tt
def tw2908595245633717595:=tt
def tw4324768590502034390:=tt
def tw4229197034057890473:=tt
def tw18352704746069975241:=tt
def tw6355020355175173681:=tt
def tw4484312828943147451:=tt
def tw9625954409417532054:=tt
def tw15945647015417289575:=tt
def tw17877473435196805177:=tt
def tw309218987962994604:=tt
def tw12655525799616151746:=tt
def tw2173964782534647824:=tt
def tw16987089875077307720:=tt
def tw12822537139662283243:=tt
def tw6276673660110437445:=tt
def tw14864250025649883108:=tt
def tw9193979096431994668:=tt
def tw14154010076438239110:=tt
def tw10672128014418070558:=tt
def tw17349416649520247852:=tt
def tw1861754713845661025:=tt
def tw1209259664397189692:=tt
def tw8974285638726340953:=tt
def tw5638876793312847841:=tt
def tw270159884227141191:=tt
def tw9789424005658652060:=tt
def tw2267546703583191381:=tt
def tw2938735568688020788:=tt
def tw17245169477016047229:=tt
def tw3244765175273431187:=tt
def tw10200059711980206030:=tt
def tw11934350699983728027:=tt
def tw18254621711343407291:=tt
def tw4950615714455853267:=tt
def tw3284363174483386244:=tt
def tw428484052712917160:=tt
def tw3916285193714390168:=tt
def tw15015567032572629849:=tt
def tw1523658836675050804:=tt
def tw1760938099516911481:=tt
def tw17682009817383010814:=tt
def tw5848525411004977341:=tt
def tw7230765955390993930:=tt
def tw287947231083746679:=tt
def tw15020613511045927018:=tt
def tw8455509636433690358:=tt
def tw8513013380502322827:=tt
def tw4427974247585970236:=tt
def tw9424071236715195469:=tt
def tw3434568106166762924:=tt
def tw7802997680879719141:=tt
def tw11099452710044507866:=tt
def tw5246941504419573690:=tt
def tw14964370614067952720:=tt
def tw11226056209096007788:=tt
def tw7363439029260755892:=tt
def tw2177979273374649106:=tt
def tw16531839799347345522:=tt
def tw8191383141383413902:=tt
def tw13016227033810113515:=tt
def tw16808911903280404894:=tt
def tw9807025249006525022:=tt
def tw7155325772150460729:=tt
def tw9959168783939394535:=tt
def tw13707482908480027769:=tt
def tw870252485276807420:=tt
def tw7828148429267724845:=tt
def tw16064010049021166651:=tt
def tw12548654655308641768:=tt
def tw10754876068304953247:=tt
def tw4568231203091369911:=tt
def tw15360700911483270650:=tt
def tw4440999696410609039:=tt
def tw10098858484532871584:=tt
def tw9368504840272485767:=tt
def tw7793654075249205795:=tt
def tw14199497947161861042:=tt
def tw14304563500966998132:=tt
def tw17581694313120579900:=tt
def tw13695510738193669181:=tt
def tw126899189614909607:=tt
def tw10200596682531068870:=tt
def tw6211407954914241527:=tt
def tw16732195475098059574:=tt
def tw4210854329550417504:=tt
def tw6467283406827068179:=tt
def tw9357691260618757973:=tt
def tw15834621417332309486:=tt
def tw5533284921534288411:=tt
def tw11043565332798135927:=tt
def tw11746251328225360489:=tt
def tw2366270029833321311:=tt
def tw10656659554895740067:=tt
def tw2386032343275876092:=tt
def tw15573792974875501539:=tt
def tw5558443091381482111:=tt
def tw12203266531451400970:=tt
def tw12849525874377588401:=tt
def tw1480571949376996046:=tt
def tw15373592851439433439:=tt
def tw15768255177571059533:=tt
def tw6384089640036988262:=tt
def tw7694040772201074070:=tt
def tw1425572920642684092:=tt
def tw8715333617671011236:=tt
def tw15362009611261821448:=tt
def tw378977806655794909:=tt
def tw10797655095234933175:=tt
def tw15722331224553798755:=tt
def tw675554889913544426:=tt
def tw10953358419278093953:=tt
def tw17309730176458506095:=tt
def tw1895951369120612711:=tt
def tw2634524516542322496:=tt
def tw6888037770979986429:=tt
def tw17451717533980511810:=tt
def tw18438121853782319176:=tt
def tw1371220727996659393:=tt
def tw4925474479639805574:=tt
def tw13875821200728361853:=tt
def tw1737164910517545198:=tt
def tw1794401647697937491:=tt
def tw16655361398738801047:=tt
def tw11170986363074059871:=tt
def tw8670876273566594210:=tt
def tw15850850952774717093:=tt
def tw12961144429417063065:=tt
def tw7903667746670248309:=tt
def tw8385787481351294364:=tt
def tw14473985656389049187:=tt
def tw3415153176103795331:=tt
def tw10604818783366450682:=tt
def tw1979913288306733268:=tt
def tw15237705394332104762:=tt
def tw6038658630603023450:=tt
def tw5048557933796377899:=tt
def tw5875580373042446662:=tt
def tw15972887241109575105:=tt
def tw15101716383203956559:=tt
def tw1603383138076344820:=tt
def tw10237519161082142411:=tt
def tw4971707271873142875:=tt
def tw7931173958741972122:=tt
def tw16923775255107783495:=tt
def tw18123177586359814133:=tt
def tw16834843177216533021:=tt
def tw11980236560753437918:=tt
def tw1086749501690163283:=tt
def tw896392117091262416:=tt
def tw11875649815601129772:=tt
def tw8855148851239498441:=tt
def tw16300260667763138969:=tt
def tw2857093527191813627:=tt
def tw13295757670020842875:=tt
def tw7258508106976716996:=tt
def tw5598066291311507204:=tt
def tw15144907421984986667:=tt
def tw10898578532549830312:=tt
def tw16558604503322718569:=tt
def tw17510342927460740847:=tt
def tw10379133185000867636:=tt
def tw9666658338934384728:=tt
def tw6409171298767135804:=tt
def tw18183398384106905503:=tt
def tw7119652698235046276:=tt
def tw11574777934848296746:=tt
def tw628478076801646101:=tt
def tw9886747476611742599:=tt
def tw7955698833483038738:=tt
def tw13397267326918798082:=tt
def tw6827767141150073894:=tt
def tw6320518386173553733:=tt
def tw7882751426655431386:=tt
def tw11835290161127952913:=tt
def tw1006474142936029432:=tt
def tw781112392691160112:=tt
def tw12093608987786060565:=tt
def tw11973842944795041657:=tt
def tw11056149785067698321:=tt
def tw8715868543458076471:=tt
def tw7167780255434881355:=tt
def tw7116993658995107447:=tt
def tw5777426239950281674:=tt
def tw5725608563912678902:=tt
def tw4572914132581569009:=tt
def tw4027570223873491336:=tt
def tw1728196956790604047:=tt
def tw17232693881448610366:=tt
def tw1672987069340362256:=tt
def tw16538304330064555565:=tt
def tw16148404707657748683:=tt
def tw1541199775450033235:=tt
def tw14263468659301548020:=tt
def tw14185234552157331069:=tt
def tw13894634725453916923:=tt
def tw13433236359130419834:=tt
def tw11321808089211409890:=tt
def tw1131009196008226358:=tt
def tw9844633441911778520:=tt
def tw6679102955309959600:=tt
def tw6219950571994921479:=tt
def tw16221998681652435002:=tt
def tw10503033235834121926:=tt
def tw8363449657656907623:=tt
def tw3619886497775549814:=tt
def tw2766661427924329419:=tt
def tw16210493721406562244:=tt
def tw11255963409840364469:=tt
def tw41017763157688102:=tt
def tw16633321846759511662:=tt
def tw8631647698044649071:=tt
def tw6770055932767112551:=tt
def tw11570111164570437037:=tt
def tw8494178379519767217:=tt
def tw11680542252808841068:=tt
def tw10498207760515217633:=tt
def tw690909109011163107:=tt
def tw9240168550403210075:=tt
def tw12752725365382290980:=tt
def tw8867138011813171871:=tt
def tw8434754763198761545:=tt
def tw6254241358121603344:=tt
def tw5695148799593641189:=tt
def tw4445787948887339598:=tt
def tw15082021408330104867:=tt
def tw15027813657048799489:=tt
def tw14662617371843658649:=tt
def tw4096336611382216148:=tt
def tw6902259678686825763:=tt
def tw1525885583670464380:=tt
def tw6619486752054971423:=tt
def tw14601715465040589972:=tt
def tw2245258775325047736:=tt
def tw740585118569290451:=tt
def tw4947095375946911149:=tt
def tw3604189019820491887:=tt
def tw2926546973763661384:=tt
def tw16953484572288141156:=tt
def tw6597962789093873526:=tt
def tw13677020842628307333:=tt
def tw16009306857160682382:=tt
def tw738775025143659625:=tt
def tw15808516280766499198:=tt
def tw13953861978323313743:=tt
def tw17734745681671571602:=tt
def tw17110113439582799386:=tt
def tw6362447207671622590:=tt
def tw13710774639955215449:=tt
def tw9691164852092459200:=tt
def tw7669143873086936922:=tt
def tw8149274712835364755:=tt
def tw3992577438768274325:=tt
def tw2560931123470285748:=tt
def tw11815352881546339388:=tt
def tw2414695876002994979:=tt
def tw4996283469597685290:=tt
def tw4535849701284284645:=tt
def tw18280231356768202928:=tt
def tw1665519426611977725:=tt
def tw12289785986931056098:=tt
def tw11360155759697910294:=tt
def tw10010880442989136664:=tt
def tw880765996842172355:=tt
def tw8418850081465071547:=tt
def tw8376689464294639256:=tt
def tw8293519452102458304:=tt
def tw791894052214622578:=tt
def tw5594199804548315133:=tt
def tw3732530698148308345:=tt
def tw2686811819572748776:=tt
def tw12899943327723670910:=tt
def tw1070806864712125225:=tt
def tw9729328000736971776:=tt
def tw7863745022479089229:=tt
def tw4736157901138370405:=tt
def tw1697823684261348857:=tt
def tw11656587275550533016:=tt
def tw4794295470348331434:=tt
def tw16331016480089262388:=tt
def tw15544853520655005638:=tt
def tw8673760779264423547:=tt
def tw754995371310844855:=tt
def tw15610926135251115398:=tt
def tw13694777250737953920:=tt
def tw10981247840145607329:=tt
def tw18416071368914092631:=tt
def tw17562630884545722471:=tt
def tw16876290765625790874:=tt
def tw9027985886240724871:=tt
def tw2155373148024153087:=tt
def tw17873168446024335648:=tt
def tw17204449605386721941:=tt
def tw10418821070498059912:=tt
def tw8673665949694871306:=tt
def tw13291438424144138419:=tt
def tw3434591014449323440:=tt
def tw15681598297672941335:=tt
def tw12280789728482893115:=tt
def tw9372208762206411727:=tt
def tw5585562161386960571:=tt
def tw16671430358935201974:=tt
end hd
theorem hd:PySem.Challenge.rw_tn0027_01.Holds:=by
 w_on; o_law; k_head;(case hw=>w_witness2)
 have kf1:∀p,Cq (Mine.Internal.hd.heap_1_39 p)=true:=fun p=>by kernel_rfl
 have kf2:∀p,MK (Mine.Internal.hd.heap_1_39 p)=true:=fun p=>by kernel_rfl
 have kf3:∀p,MJ (Mine.Internal.hd.heap_1_39 p)=true:=fun p=>by kernel_rfl
 have kf4:∀p,su (Mine.Internal.hd.heap_1_39 p)=true:=fun p=>by kernel_rfl
 have kf5:∀p,lG (Mine.Internal.hd.heap_1_39 p)=true:=fun p=>by kernel_rfl
 have kf6:∀p,noTabs (Mine.Internal.hd.heap_1_39 p)=true:=fun p=>by kernel_rfl
 have kf7:∀p,(Mine.Internal.hd.heap_1_39 p).lookup 555=some ⟨.type "dict",none,.dict (D8 p Xm).toArray 40,#[]⟩:=fun p=>by kernel_rfl
 have kf8:∀p,(Mine.Internal.hd.heap_1_39 p).lookup 558=some ⟨.type "dict",none,.dict (D8 p Xl).toArray 7,#[]⟩:=fun p=>by kernel_rfl
 have kf9:∀p,nsIn (Mine.Internal.hd.heap_1_39 p) mainGlobals "law"=some (some (.ref IE)):=fun p=>by kernel_rfl
 have kb1:∀p,AO (Mine.Internal.hd.heap_1_39 p)=Gf (Mine.Internal.hd.heap_1_39 p):=fun p=>by kernel_rfl
 have kb2:∀p,mS "ValueError" cX bu bu IT (nF (Mine.Internal.hd.heap_1_39 p) lv)=nF (Mine.Internal.hd.heap_1_39 p) lv:=fun p=>by kernel_rfl
 have kb3:∀p,mS "GemError" cX bL bL IS (nF (Mine.Internal.hd.heap_1_39 p) cx)=nF (Mine.Internal.hd.heap_1_39 p) cx:=fun p=>by kernel_rfl
 have kb4:∀p,rZ (nF (Mine.Internal.hd.heap_1_39 p) eY)=nF (Mine.Internal.hd.heap_1_39 p) eY:=fun p=>by kernel_rfl
 have kf:∀p,IX p (Mine.Internal.hd.heap_1_39 p):=fun p=>by
  refine ⟨kf1 p,kf2 p,kf3 p,kf4 p,kf5 p,kb1 p,kb2 p,kb3 p,kb4 p,kf6 p,fun r hr=> ?_⟩
  have:r=(0,147,555)∨r=(1,66,558):=by simpa [jk] using hr
  rcases this with rfl | rfl
  ·exact ⟨by decide,_,_,kf7 p,by simpa using rP p Xm⟩
  ·exact ⟨by decide,_,_,kf8 p,by simpa using rP p Xl⟩
 clear kf1 kf2 kf3 kf4 kf5 kf6 kf7 kf8 kb1 kb2 kb3 kb4
 k_fill
 intro w s₀ s₁ mg mb G Y fa o pm cd doc dV kV ho hd hcd hD hmg hg args vals as hpre hlay hrd hwl hlo
 have KX:=km_in_of Y
 km_tabs Y
 have X:=(Ground.X G).1
 have V:=(Ground.X G).2
 refine Ground.open G ?_
 intro T B D TE TW
 try (refine guard_noD D (by decide+kernel) ?_; clear D)
 km_lay T hmg ho hd cd
 have hfa:fa=IE:=Value.ref.inj (Option.some.inj (Eq.trans (Eq.symm hmg) (mg_of KX T.g (kf9 w.params))))
 clear hmg
 wrow_args hpre hlay hrd hwl hlo
 all_goals (
  first | refine callC_kw (enter_call ?_) | refine enter_call ?_
  w_top on
  kn_posts)
 rename_i l0 h1 h2 h3 h4 h5 l1 l2 a0 v0 l3 hL ra W1 r0 hI hr hc1 hc2
 rw [hfa]
 refine codeAny_mono (Nd (kf w.params) KX hT9 T hg W1 (by omega) (Pg (by omega))) fun r s' q=> ?_
 obtain ⟨rfl,q1,q2,q3,q4⟩:=q
 refine ⟨⟨.inl ⟨.bool true,.bool true,[],rfl,fun cls=>rfl,.bool true,?_,unshared_nil⟩,q1,q2,q3⟩,q4⟩
 exact postW_of (X:=true) rfl (by first | rfl | kernel_rfl) rfl
end Mine.Internal

end
theorem PySem.Challenge.cw_tn0027_01_holds : PySem.Challenge.rw_tn0027_01.Holds :=
 Mine.Internal.hd
