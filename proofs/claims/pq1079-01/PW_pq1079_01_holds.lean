import PyProof.Rows.All
import Wide.All
import OpenK.AllK
import Wide.FinOn
import PySem.Challenge.RW_pq1079_01
set_option genSizeOf false
set_option backward.match.sparseCases false
set_option Elab.async false
set_option linter.unusedVariables false
set_option linter.unusedSimpArgs false
set_option linter.unusedSectionVars false
open PySem PySem.W
namespace Mine
section
namespace Ar
inductive N where
 |v (i:Nat)|k (n:Nat)|p (a b:N)|s (a b:N)|m (n:Nat) (a:N)|r (a:N) (n:Nat)|mn (a b:N)|mx (a b:N)
inductive Z where
 |v (i:Nat)|k (n:Int)|c (a:N)|p (a b:Z)|s (a b:Z)|g (a:Z)|m (n:Int) (a:Z)|r (a:Z) (n:Int)
inductive F where
 |l (a b:N)|t (a b:N)|e (a b:N)|L (a b:Z)|T (a b:Z)|E (a b:Z)|no (f:F)|an (f g:F)|or (f g:F)|im (f g:F)|ff|tt
noncomputable def nth{α:Type}(d:α):List α→Nat→α
 |[],_=>d
 |x::_,0=>x
 |_::l,i+1=>nth d l i
noncomputable section
variable(c:List Nat)(z:List Int)
noncomputable def N.d:N→Nat
 | .v i=>nth 0 c i
 | .k n=>n
 | .p a b=>a.d+b.d
 | .s a b=>a.d - b.d
 | .m n a=>n*a.d
 | .r a n=>a.d*n
 | .mn a b=>min a.d b.d
 | .mx a b=>max a.d b.d
noncomputable def Z.d:Z→Int
 | .v i=>nth 0 z i
 | .k n=>n
 | .c a=>(a.d c:Nat)
 | .p a b=>a.d+b.d
 | .s a b=>a.d - b.d
 | .g a=> - a.d
 | .m n a=>n*a.d
 | .r a n=>a.d*n
noncomputable def F.d:F→Prop
 | .l a b=>a.d c≤b.d c
 | .t a b=>a.d c<b.d c
 | .e a b=>a.d c=b.d c
 | .L a b=>a.d c z≤b.d c z
 | .T a b=>a.d c z<b.d c z
 | .E a b=>a.d c z=b.d c z
 | .no f=>¬f.d
 | .an f g=>f.d∧g.d
 | .or f g=>f.d∨g.d
 | .im f g=>f.d→g.d
 | .ff=>False
 | .tt=>True
noncomputable abbrev Rw:=List Int
noncomputable def dot(X:Nat→Int):Nat→Rw→Int
 |_,[]=>0
 |i,a::r=>a*X i+dot X (i+1) r
noncomputable def add:Rw→Rw→Rw
 |a::r,b::s=>(a+b)::add r s
 |[],s=>s
 |r,[]=>r
noncomputable def mul(k:Int):Rw→Rw
 |[]=>[]
 |a::r=>k*a::mul k r
noncomputable def one:Nat→Rw
 |0=>[1]
 |i+1=>0::one i
noncomputable def sb(a b:Rw):Rw:=add a (mul (-1) b)
section
variable{X:Nat→Int}
theorem ZaE:∀{a b:Rw} {i:Nat},dot X i (add a b)=dot X i a+dot X i b
 |a::r,b::s,i=>by simp only[add,dot,ZaE,Int.add_mul,Int.add_assoc,Int.add_left_comm]
 |[],s,i=>by simp only[add,dot,Int.zero_add]
 |_::_,[],i=>by simp only[add,dot,Int.add_zero]
theorem XN{k:Int}:∀{a:Rw} {i:Nat},dot X i (mul k a)=k*dot X i a
 |[],i=>by simp only[mul,dot,Int.mul_zero]
 |a::r,i=>by simp only[mul,dot,XN,Int.mul_add,Int.mul_assoc]
theorem Zcy:∀{j i:Nat},dot X i (one j)=X (i+j)
 |0,i=>by simp only[one,dot,Int.one_mul,Int.add_zero,Nat.add_zero]
 |j+1,i=>by simp only[one,dot,Zcy,Int.zero_mul,Int.zero_add,Nat.add_assoc,Nat.add_comm 1]
theorem Zd5{a b:Rw}{i:Nat}:dot X i (sb a b)=dot X i a - dot X i b:=by
 simp only[sb,ZaE,XN,Int.neg_mul,Int.one_mul,Int.sub_eq_add_neg]
end
noncomputable abbrev Al:=List Rw×Rw
noncomputable def two{α β γ:Type}(f:α→β→List γ)(p:List α)(q:List β):List γ:=p.flatMap fun a=>q.flatMap fun b=>f a b
noncomputable def N.q:N→List Al
 | .v i=>[([one (2*i+1)],one (2*i+1))]
 | .k n=>[([],[(n:Int)])]
 | .p a b=>two (fun x y=>[(x.1++y.1,add x.2 y.2)]) a.q b.q
 | .s a b=>two (fun x y=>[(sb x.2 y.2::(x.1++y.1),sb x.2 y.2),(sb y.2 x.2::(x.1++y.1),[])]) a.q b.q
 | .m n a=>a.q.map fun x=>(x.1,mul n x.2)
 | .r a n=>a.q.map fun x=>(x.1,mul n x.2)
 | .mn a b=>two (fun x y=>[(sb y.2 x.2::(x.1++y.1),x.2),(sb x.2 y.2::(x.1++y.1),y.2)]) a.q b.q
 | .mx a b=>two (fun x y=>[(sb y.2 x.2::(x.1++y.1),y.2),(sb x.2 y.2::(x.1++y.1),x.2)]) a.q b.q
noncomputable def Z.q:Z→List Al
 | .v i=>[([],one (2*i+2))]
 | .k n=>[([],[n])]
 | .c a=>a.q
 | .p a b=>two (fun x y=>[(x.1++y.1,add x.2 y.2)]) a.q b.q
 | .s a b=>two (fun x y=>[(x.1++y.1,sb x.2 y.2)]) a.q b.q
 | .g a=>a.q.map fun x=>(x.1,mul (-1) x.2)
 | .m n a=>a.q.map fun x=>(x.1,mul n x.2)
 | .r a n=>a.q.map fun x=>(x.1,mul n x.2)
noncomputable def rel(g:Rw→Rw→List (List Rw))(p q:List Al):List (List Rw):=two (fun x y=>(g x.2 y.2).map fun r=>r++(x.1++y.1)) p q
noncomputable def lt(x y:Rw):Rw:=sb (sb y x) [1]
noncomputable def F.q:F→Bool→List (List Rw)
 | .l a b,true=>rel (fun x y=>[[sb y x]]) a.q b.q
 | .l a b,false=>rel (fun x y=>[[lt y x]]) a.q b.q
 | .t a b,true=>rel (fun x y=>[[lt x y]]) a.q b.q
 | .t a b,false=>rel (fun x y=>[[sb x y]]) a.q b.q
 | .e a b,true=>rel (fun x y=>[[sb x y,sb y x]]) a.q b.q
 | .e a b,false=>rel (fun x y=>[[lt x y],[lt y x]]) a.q b.q
 | .L a b,true=>rel (fun x y=>[[sb y x]]) a.q b.q
 | .L a b,false=>rel (fun x y=>[[lt y x]]) a.q b.q
 | .T a b,true=>rel (fun x y=>[[lt x y]]) a.q b.q
 | .T a b,false=>rel (fun x y=>[[sb x y]]) a.q b.q
 | .E a b,true=>rel (fun x y=>[[sb x y,sb y x]]) a.q b.q
 | .E a b,false=>rel (fun x y=>[[lt x y],[lt y x]]) a.q b.q
 | .no f,s=>f.q (!s)
 | .an f g,true=>two (fun x y=>[x++y]) (f.q true) (g.q true)
 | .an f g,false=>f.q false++g.q false
 | .or f g,true=>f.q true++g.q true
 | .or f g,false=>two (fun x y=>[x++y]) (f.q false) (g.q false)
 | .im f g,true=>f.q false++g.q true
 | .im f g,false=>two (fun x y=>[x++y]) (f.q true) (g.q false)
 | .ff,s=>if s then[]else[[]]
 | .tt,s=>if s then[[]]else[]
noncomputable def elim(i:Nat)(rs:List Rw):List Rw:=
 rs.filter (fun r=>nth 0 r i==0)++two (fun a b=>[add (mul (-nth 0 b i) a) (mul (nth 0 a i) b)]) (rs.filter fun r=>decide (0<nth 0 r i)) (rs.filter fun r=>decide (nth 0 r i<0))
noncomputable def ZkC:Nat→List Rw→Bool
 |0,rs=>rs.any fun r=>decide (nth 0 r 0<0)&&r.tail.all (·==0)
 |i+1,rs=>ZkC i (elim (i+1) rs)
noncomputable def F.ok(f:F):Bool:=(f.q false).all fun rs=>ZkC (rs.foldl (fun n r=>max n r.length) 0) rs
noncomputable def XX(j:Nat):Int:=if j=0 then 1 else if j % 2=1 then(nth 0 c (j/2):Nat)else nth 0 z (j/2 - 1)
noncomputable def Has(X:Nat→Int)(l:List Al)(v:Int):Prop:=∃x∈l,(∀r∈x.1,0≤dot X 0 r)∧dot X 0 x.2=v
noncomputable def Nn(X:Nat→Int)(l:List (List Rw)):Prop:=∃x∈l,∀r∈x,0≤dot X 0 r
section
variable{X:Nat→Int}
theorem Zef{α β γ:Type}{f:α→β→List γ}{p:List α}{q:List β}{a:α}{b:β}{y:γ}(ha:a∈p)(hb:b∈q)(h:y∈f a b):y∈two f p q:=
 List.mem_flatMap.mpr ⟨a,ha,List.mem_flatMap.mpr ⟨b,hb,h⟩⟩
theorem Zax{p q:List Rw}(hp:∀r∈p,0≤dot X 0 r)(hq:∀r∈q,0≤dot X 0 r):∀r∈p++q,0≤dot X 0 r:=fun r h=>(List.mem_append.mp h).elim (hp r) (hq r)
theorem Yl{p:Rw}{q:List Rw}(hp:0≤dot X 0 p)(hq:∀r∈q,0≤dot X 0 r):∀r∈p::q,0≤dot X 0 r:=fun r h=>(List.mem_cons.mp h).elim (fun e=>e▸hp) (hq r)
theorem Has.two{p q:List Al}{f:Al→Al→List Al}{u v w:Int}(hp:Has X p u)(hq:Has X q v)(h:∀x y:Al,(∀r∈x.1++y.1,0≤dot X 0 r)→dot X 0 x.2=u→dot X 0 y.2=v→Has X (f x y) w):Has X (two f p q) w:=by
 obtain⟨x,h1,h2,h3⟩:=hp
 obtain⟨y,g1,g2,g3⟩:=hq
 obtain⟨t,k1,k2⟩:=h x y (Zax h2 g2) h3 g3
 exact⟨t,Zef h1 g1 k1,k2⟩
theorem Has.map{p:List Al}{f:Rw→Rw}{u w:Int}(hp:Has X p u)(h:∀r,dot X 0 r=u→dot X 0 (f r)=w):Has X (p.map fun x=>(x.1,f x.2)) w:=by
 obtain⟨x,h1,h2,h3⟩:=hp
 exact⟨_,List.mem_map.mpr ⟨x,h1,rfl⟩,h2,h _ h3⟩
theorem has1{a:List Rw}{b:Rw}{v:Int}(h:∀r∈a,0≤dot X 0 r)(e:dot X 0 b=v):Has X [(a,b)] v:=⟨_,List.mem_cons_self,h,e⟩
theorem has2{x:Al}{l:List Al}{v:Int}(h:Has X l v):Has X (x::l) v:=by
 obtain⟨y,h1,h2⟩:=h
 exact⟨y,List.mem_cons_of_mem _ h1,h2⟩
theorem has3{a:List Rw}{b:Rw}{l:List Al}{v:Int}(h:∀r∈a,0≤dot X 0 r)(e:dot X 0 b=v):Has X ((a,b)::l) v:=⟨_,List.mem_cons_self,h,e⟩
theorem Q9:∀r∈([]:List Rw),0≤dot X 0 r:=fun _ h=>nomatch h
theorem ZaU{x y:Rw}{u v:Int}(hx:dot X 0 x=u)(hy:dot X 0 y=v)(h:u≤v):0≤dot X 0 (sb y x):=by
 rw[Zd5,hx,hy];exact Int.sub_nonneg.mpr h
theorem Zjv(X0:X 0=1){x y:Rw}{u v:Int}(hx:dot X 0 x=u)(hy:dot X 0 y=v)(h:u<v):0≤dot X 0 (lt x y):=by
 rw[lt,Zd5,Zd5,hx,hy,dot,dot,X0,Int.add_zero]
 exact Int.sub_nonneg.mpr (Int.le_sub_left_of_add_le h)
theorem Nn.rel{p q:List Al}{g:Rw→Rw→List (List Rw)}{u v:Int}(hp:Has X p u)(hq:Has X q v)(h:∀x y,dot X 0 x=u→dot X 0 y=v→Nn X (g x y)):Nn X (rel g p q):=by
 obtain⟨x,h1,h2,h3⟩:=hp
 obtain⟨y,g1,g2,g3⟩:=hq
 obtain⟨t,k1,k2⟩:=h _ _ h3 g3
 exact⟨_,Zef h1 g1 (List.mem_map.mpr ⟨t,k1,rfl⟩),Zax k2 (Zax h2 g2)⟩
theorem Nn.two{p q:List (List Rw)}(hp:Nn X p)(hq:Nn X q):Nn X (two (fun x y=>[x++y]) p q):=by
 obtain⟨x,h1,h2⟩:=hp
 obtain⟨y,g1,g2⟩:=hq
 exact⟨_,Zef h1 g1 List.mem_cons_self,Zax h2 g2⟩
theorem Nn.l{p q:List (List Rw)}(hp:Nn X p):Nn X (p++q):=by
 obtain⟨x,h1,h2⟩:=hp
 exact⟨x,List.mem_append_left _ h1,h2⟩
theorem Nn.r{p q:List (List Rw)}(hp:Nn X q):Nn X (p++q):=by
 obtain⟨x,h1,h2⟩:=hp
 exact⟨x,List.mem_append_right _ h1,h2⟩
theorem nn1{r:Rw}{l:List (List Rw)}(h:0≤dot X 0 r):Nn X ([r]::l):=⟨_,List.mem_cons_self,Yl h Q9⟩
theorem nn2{r s:Rw}(h:0≤dot X 0 r)(h':0≤dot X 0 s):Nn X [[r,s]]:=⟨_,List.mem_cons_self,Yl h (Yl h' Q9)⟩
theorem Zfx:∀{t:Rw} {i:Nat},t.all (·==0)=true→dot X i t=0
 |[],_,_=>rfl
 |a::t,i,h=>by
  obtain⟨h1,h2⟩:=(Bool.and_eq_true _ _).mp h
  rw[dot,beq_iff_eq.mp h1,Zfx h2,Int.zero_mul];rfl
theorem ZlL{i:Nat}{rs:List Rw}(h:∀r∈rs,0≤dot X 0 r):∀r∈elim i rs,0≤dot X 0 r:=Zax (fun r hr=>h r (List.mem_filter.mp hr).1) fun r hr=>by
 obtain⟨a,ha,hr⟩:=List.mem_flatMap.mp hr
 obtain⟨b,hb,hr⟩:=List.mem_flatMap.mp hr
 obtain⟨ha,ha'⟩:=List.mem_filter.mp ha
 obtain⟨hb,hb'⟩:=List.mem_filter.mp hb
 rw[List.mem_singleton.mp hr,ZaE,XN,XN]
 exact Int.add_nonneg (Int.mul_nonneg (Int.neg_nonneg_of_nonpos (Int.le_of_lt (of_decide_eq_true hb'))) (h a ha)) (Int.mul_nonneg (Int.le_of_lt (of_decide_eq_true ha')) (h b hb))
theorem ZeK(X0:X 0=1):∀{n:Nat} {rs:List Rw},ZkC n rs=true→(∀r∈rs,0≤dot X 0 r)→False
 |n+1,rs,u,h=>ZeK X0 (n:=n) (rs:=elim (n+1) rs) u (ZlL h)
 |0,rs,u,h=>by
  obtain⟨r,hr,e⟩:=List.any_eq_true.mp u
  obtain⟨e1,e2⟩:=(Bool.and_eq_true _ _).mp e
  have e1:=of_decide_eq_true e1
  have k:=h r hr
  cases r with
  |nil=>exact absurd e1 (Int.lt_irrefl 0)
  |cons a t=>
   rw[dot,Zfx (show t.all (·==0)=true from e2),X0,Int.mul_one,Int.add_zero]at k
   exact Int.not_le.mpr e1 k
end
theorem XX_n{i:Nat}:XX c z (0+(2*i+1))=(nth 0 c i:Nat):=by
 have e:(2*i+1)/2=i:=by omega
 rw[Nat.zero_add,XX,if_neg (Nat.succ_ne_zero _),Nat.mul_add_mod,e];rfl
theorem XX_z{i:Nat}:XX c z (0+(2*i+2))=nth 0 z i:=by
 have e:(2*i+2)/2 - 1=i:=by omega
 rw[Nat.zero_add,XX,if_neg (Nat.succ_ne_zero _),Nat.mul_add_mod,e];rfl
theorem Zne{X:Nat→Int}{n:Int}(X0:X 0=1):dot X 0 [n]=n:=by rw[dot,dot,X0,Int.mul_one,Int.add_zero]
variable{c z}
theorem N.sound:∀t:N,Has (XX c z) t.q (t.d c:Nat)
 | .v i=>has1 (Yl (by rw[Zcy,XX_n];exact Int.natCast_nonneg _) Q9) (by rw[Zcy,XX_n];rfl)
 | .k n=>has1 Q9 (Zne rfl)
 | .p a b=>a.sound.two b.sound fun x y h hx hy=>has1 h (by rw[ZaE,hx,hy];rfl)
 | .s a b=>a.sound.two b.sound fun x y h hx hy=>by
  rcases Nat.le_total (b.d c) (a.d c)with k|k
  ·exact has3 (Yl (ZaU hy hx (Int.ofNat_le.mpr k)) h) (by rw[Zd5,hx,hy];exact(Int.ofNat_sub k).symm)
  ·exact has2 (has1 (Yl (ZaU hx hy (Int.ofNat_le.mpr k)) h) (by rw[N.d,Nat.sub_eq_zero_of_le k];rfl))
 | .m n a=>a.sound.map fun r h=>by rw[XN,h];rfl
 | .r a n=>a.sound.map fun r h=>by rw[XN,h,N.d,Nat.mul_comm];rfl
 | .mn a b=>a.sound.two b.sound fun x y h hx hy=>by
  rcases Nat.le_total (a.d c) (b.d c)with k|k
  ·exact has3 (Yl (ZaU hx hy (Int.ofNat_le.mpr k)) h) (by rw[hx,N.d,Nat.min_eq_left k])
  ·exact has2 (has1 (Yl (ZaU hy hx (Int.ofNat_le.mpr k)) h) (by rw[hy,N.d,Nat.min_eq_right k]))
 | .mx a b=>a.sound.two b.sound fun x y h hx hy=>by
  rcases Nat.le_total (a.d c) (b.d c)with k|k
  ·exact has3 (Yl (ZaU hx hy (Int.ofNat_le.mpr k)) h) (by rw[hy,N.d,Nat.max_eq_right k])
  ·exact has2 (has1 (Yl (ZaU hy hx (Int.ofNat_le.mpr k)) h) (by rw[hx,N.d,Nat.max_eq_left k]))
theorem Z.sound:∀t:Z,Has (XX c z) t.q (t.d c z)
 | .v i=>has1 Q9 (by rw[Zcy,XX_z];rfl)
 | .k n=>has1 Q9 (Zne rfl)
 | .c a=>a.sound
 | .p a b=>a.sound.two b.sound fun x y h hx hy=>has1 h (by rw[ZaE,hx,hy];rfl)
 | .s a b=>a.sound.two b.sound fun x y h hx hy=>has1 h (by rw[Zd5,hx,hy];rfl)
 | .g a=>a.sound.map fun r h=>by rw[XN,h,Int.neg_one_mul];rfl
 | .m n a=>a.sound.map fun r h=>by rw[XN,h];rfl
 | .r a n=>a.sound.map fun r h=>by rw[XN,h,Int.mul_comm];rfl
theorem Zkd{p q:List Al}{u v:Int}(hp:Has (XX c z) p u)(hq:Has (XX c z) q v)(h:u≤v):Nn (XX c z) (rel (fun x y=>[[sb y x]]) p q):=.rel hp hq fun x y hx hy=>nn1 (ZaU hx hy h)
theorem Zkf{p q:List Al}{u v:Int}(hp:Has (XX c z) p u)(hq:Has (XX c z) q v)(h:v≤u):Nn (XX c z) (rel (fun x y=>[[sb x y]]) p q):=.rel hp hq fun x y hx hy=>nn1 (ZaU hy hx h)
theorem Zkc{p q:List Al}{u v:Int}(hp:Has (XX c z) p u)(hq:Has (XX c z) q v)(h:u<v):Nn (XX c z) (rel (fun x y=>[[lt x y]]) p q):=.rel hp hq fun x y hx hy=>nn1 (Zjv rfl hx hy h)
theorem Zke{p q:List Al}{u v:Int}(hp:Has (XX c z) p u)(hq:Has (XX c z) q v)(h:v<u):Nn (XX c z) (rel (fun x y=>[[lt y x]]) p q):=.rel hp hq fun x y hx hy=>nn1 (Zjv rfl hy hx h)
theorem Zkg{p q:List Al}{u v:Int}(hp:Has (XX c z) p u)(hq:Has (XX c z) q v)(h:u=v):Nn (XX c z) (rel (fun x y=>[[sb x y,sb y x]]) p q):=.rel hp hq fun x y hx hy=>nn2 (ZaU hy hx (Int.le_of_eq h.symm)) (ZaU hx hy (Int.le_of_eq h))
theorem Zkb{p q:List Al}{u v:Int}(hp:Has (XX c z) p u)(hq:Has (XX c z) q v)(h:u≠v):Nn (XX c z) (rel (fun x y=>[[lt x y],[lt y x]]) p q):=.rel hp hq fun x y hx hy=>(Int.lt_or_gt_of_ne h).elim (fun h=>nn1 (Zjv rfl hx hy h)) fun h=>Nn.r (p:=[[lt x y]]) (nn1 (Zjv rfl hy hx h))
theorem F.sound:∀f:F,(f.d c z→Nn (XX c z) (f.q true))∧(¬f.d c z→Nn (XX c z) (f.q false))
 | .l a b=>⟨fun h=>Zkd a.sound b.sound (Int.ofNat_le.mpr h),fun h=>Zke a.sound b.sound (Int.ofNat_lt.mpr (Nat.lt_of_not_le h))⟩
 | .t a b=>⟨fun h=>Zkc a.sound b.sound (Int.ofNat_lt.mpr h),fun h=>Zkf a.sound b.sound (Int.ofNat_le.mpr (Nat.le_of_not_lt h))⟩
 | .e a b=>⟨fun h=>Zkg a.sound b.sound (congrArg Int.ofNat h),fun h=>Zkb a.sound b.sound fun e=>h (Int.ofNat.inj e)⟩
 | .L a b=>⟨Zkd a.sound b.sound,fun h=>Zke a.sound b.sound (Int.not_le.mp h)⟩
 | .T a b=>⟨Zkc a.sound b.sound,fun h=>Zkf a.sound b.sound (Int.not_lt.mp h)⟩
 | .E a b=>⟨Zkg a.sound b.sound,Zkb a.sound b.sound⟩
 | .no f=>⟨f.sound.2,fun h=>f.sound.1 (Classical.not_not.mp h)⟩
 | .an f g=>⟨fun h=>(f.sound.1 h.1).two (g.sound.1 h.2),fun h=>(Classical.em (f.d c z)).elim (fun k=>.r (g.sound.2 fun m=>h ⟨k,m⟩)) fun k=>.l (f.sound.2 k)⟩
 | .or f g=>⟨fun h=>h.elim (fun h=>.l (f.sound.1 h)) fun h=>.r (g.sound.1 h),fun h=>(f.sound.2 fun k=>h (.inl k)).two (g.sound.2 fun k=>h (.inr k))⟩
 | .im f g=>⟨fun h=>(Classical.em (f.d c z)).elim (fun k=>.r (g.sound.1 (h k))) fun k=>.l (f.sound.2 k),fun h=>(f.sound.1 (Classical.byContradiction fun k=>h fun m=>absurd m k)).two (g.sound.2 fun k=>h fun _=>k)⟩
 | .ff=>⟨False.elim,fun _=>⟨_,List.mem_cons_self,Q9⟩⟩
 | .tt=>⟨fun _=>⟨_,List.mem_cons_self,Q9⟩,fun h=>(h trivial).elim⟩
variable(c z)
theorem chk(f:F)(h:f.ok=true):f.d c z:=Classical.byContradiction fun k=>by
 obtain⟨x,h1,h2⟩:=f.sound.2 k
 exact ZeK rfl (List.all_eq_true.mp h x h1) h2
end
example(a b d:Nat)(h1:a<b)(h2:b≤d):a+1≤d:=chk [a,b,d] [] (.im (.t (.v 0) (.v 1)) (.im (.l (.v 1) (.v 2)) (.l (.p (.v 0) (.k 1)) (.v 2)))) (by kernel_rfl) h1 h2
example(a b d:Nat)(h1:a<b)(h2:b≤d):a+1≤d:=by exact chk [_,_,_] [] (.im (.t (.v 0) (.v 1)) (.im (.l (.v 1) (.v 2)) (.l (.p (.v 0) (.k 1)) (.v 2)))) (by kernel_rfl) h1 h2
end Ar
end
section
namespace Ar
theorem n0(f:F)(h:f.ok=true):f.d [] []:=chk _ _ _ h
theorem n0z1{z0:Int}(f:F)(h:f.ok=true):f.d [] [z0]:=chk _ _ _ h
theorem n1{x0:Nat}(f:F)(h:f.ok=true):f.d [x0] []:=chk _ _ _ h
theorem n1z1{x0:Nat}{z0:Int}(f:F)(h:f.ok=true):f.d [x0] [z0]:=chk _ _ _ h
theorem n2{x0 x1:Nat}(f:F)(h:f.ok=true):f.d [x0,x1] []:=chk _ _ _ h
theorem n2z1{x0 x1:Nat}{z0:Int}(f:F)(h:f.ok=true):f.d [x0,x1] [z0]:=chk _ _ _ h
theorem n3{x0 x1 x2:Nat}(f:F)(h:f.ok=true):f.d [x0,x1,x2] []:=chk _ _ _ h
theorem n4{x0 x1 x2 x3:Nat}(f:F)(h:f.ok=true):f.d [x0,x1,x2,x3] []:=chk _ _ _ h
theorem n5{x0 x1 x2 x3 x4:Nat}(f:F)(h:f.ok=true):f.d [x0,x1,x2,x3,x4] []:=chk _ _ _ h
theorem n6{x0 x1 x2 x3 x4 x5:Nat}(f:F)(h:f.ok=true):f.d [x0,x1,x2,x3,x4,x5] []:=chk _ _ _ h
theorem a0{x0 x1 x2 x3 x4:Nat}:F.d [x0,x1,x2,x3,x4] [] (.im (.an (.t (.v 0) (.v 2)) (.t (.v 3) (.v 4))) (.im (.t (.v 2) (.v 1)) (.t (.v 0) (.v 1)))):=chk _ _ _ (by kernel_rfl)
theorem a1{x0 x1:Nat}:((100000:Nat)≤x1)→((x0:Nat)≤64)→(x0:Nat)≤x1:=chk [x0,x1] [] (.im (.l (.k 100000) (.v 1)) (.im (.l (.v 0) (.k 64)) (.l (.v 0) (.v 1)))) (by kernel_rfl)
theorem a2{x0 x1:Nat}:F.d [x0,x1] [] (.im (.t (.v 0) (.p (.v 1) (.k 1))) (.l (.v 0) (.v 1))):=chk _ _ _ (by kernel_rfl)
theorem a3{x0 x1 x2:Nat}:F.d [x0,x1,x2] [] (.im (.l (.v 0) (.v 2)) (.im (.l (.v 2) (.v 1)) (.l (.v 0) (.v 1)))):=chk _ _ _ (by kernel_rfl)
theorem a4{x0 x1 x2:Nat}:F.d [x0,x1,x2] [] (.im (.an (.l (.v 2) (.v 1)) (.l (.v 1) (.p (.v 2) (.k 1)))) (.im (.t (.v 0) (.v 2)) (.t (.v 0) (.v 1)))):=chk _ _ _ (by kernel_rfl)
theorem a5{x0 x1:Nat}:F.d [x0,x1] [] (.im (.t (.v 0) (.v 1)) (.l (.p (.v 0) (.k 1)) (.v 1))):=chk _ _ _ (by kernel_rfl)
theorem a6{x0:Nat}:F.d [x0] [] (.l (.v 0) (.p (.v 0) (.k 1))):=chk _ _ _ (by kernel_rfl)
theorem a7{x0:Nat}:F.d [x0] [] (.t (.s (.k 2) (.v 0)) (.k 3)):=chk _ _ _ (by kernel_rfl)
theorem a8{x0 x1 x2:Nat}:((x0:Nat)=x2)→((x2:Nat)≤x1)→(x0:Nat)≤x1:=chk [x0,x1,x2] [] (.im (.e (.v 0) (.v 2)) (.im (.l (.v 2) (.v 1)) (.l (.v 0) (.v 1)))) (by kernel_rfl)
theorem a9{x0 x1:Nat}:((x0:Nat)≤x1)→(x0:Nat)≤(x1+1):=chk [x0,x1] [] (.im (.l (.v 0) (.v 1)) (.l (.v 0) (.p (.v 1) (.k 1)))) (by kernel_rfl)
theorem a10{x0 x1 x2:Nat}:F.d [x0,x1,x2] [] (.im (.l (.p (.v 2) (.k 1)) (.v 1)) (.im (.l (.v 0) (.v 2)) (.l (.v 0) (.v 1)))):=chk _ _ _ (by kernel_rfl)
theorem a11{x0 x1:Nat}:F.d [x0,x1] [] (.im (.E (.c (.v 0)) (.c (.v 1))) (.e (.v 0) (.v 1))):=chk _ _ _ (by kernel_rfl)
theorem a12{x0 x1:Nat}:F.d [x0,x1] [] (.im (.no (.e (.v 0) (.v 1))) (.no (.E (.c (.v 0)) (.c (.v 1))))):=chk _ _ _ (by kernel_rfl)
theorem a13{x0 x1:Nat}:(((x0+24):Nat)≤x1)→((x0+21):Nat)≤x1:=chk [x0,x1] [] (.im (.l (.p (.v 0) (.k 24)) (.v 1)) (.l (.p (.v 0) (.k 21)) (.v 1))) (by kernel_rfl)
theorem a14{x0 x1:Nat}:F.d [x0,x1] [] (.im (.no (.l (.v 1) (.v 0))) (.l (.p (.v 0) (.k 1)) (.v 1))):=chk _ _ _ (by kernel_rfl)
theorem a15{x0:Nat}:F.d [x0] [] (.no (.l (.p (.v 0) (.k 1)) (.v 0))):=chk _ _ _ (by kernel_rfl)
theorem a16{x0 x1 x2 x3 x4:Nat}:F.d [x0,x1,x2,x3,x4] [] (.im (.an (.t (.v 0) (.v 2)) (.t (.v 3) (.v 4))) (.im (.t (.v 2) (.p (.v 1) (.k 1))) (.t (.v 0) (.v 1)))):=chk _ _ _ (by kernel_rfl)
theorem a17{x0:Nat}:F.d [x0] [] (.E (.p (.c (.v 0)) (.k 1)) (.c (.p (.v 0) (.k 1)))):=chk _ _ _ (by kernel_rfl)
theorem a18{x0 x1:Nat}:F.d [x0,x1] [] (.im (.t (.s (.k 2) (.v 0)) (.v 1)) (.l (.s (.k 3) (.v 0)) (.v 1))):=chk _ _ _ (by kernel_rfl)
theorem a19{x0 x1 x2:Nat}:F.d [x0,x1,x2] [] (.im (.t (.v 0) (.v 2)) (.im (.t (.v 2) (.v 1)) (.t (.v 0) (.v 1)))):=chk _ _ _ (by kernel_rfl)
theorem a20{x0 x1:Nat}:F.d [x0,x1] [] (.im (.l (.v 0) (.v 1)) (.l (.v 0) (.v 1))):=chk _ _ _ (by kernel_rfl)
theorem a21{x0:Nat}:F.d [x0] [] (.im (.l (.p (.v 0) (.k 1)) (.k 3)) (.l (.v 0) (.k 3))):=chk _ _ _ (by kernel_rfl)
theorem a22{x0 x1:Nat}:F.d [x0,x1] [] (.e (.p (.v 0) (.p (.k 5) (.v 1))) (.p (.p (.v 0) (.v 1)) (.k 5))):=chk _ _ _ (by kernel_rfl)
theorem a23{x0 x1 x2:Nat}:F.d [x0,x1,x2] [] (.im (.l (.v 2) (.v 1)) (.im (.t (.v 0) (.v 2)) (.l (.p (.v 0) (.k 1)) (.v 1)))):=chk _ _ _ (by kernel_rfl)
theorem a24{x0 x1 x2:Nat}:F.d [x0,x1,x2] [] (.im (.l (.v 2) (.v 1)) (.im (.t (.v 0) (.v 2)) (.t (.v 0) (.v 1)))):=chk _ _ _ (by kernel_rfl)
theorem a25{x0 x1 x2:Nat}:F.d [x0,x1,x2] [] (.im (.l (.p (.v 0) (.k 1)) (.v 2)) (.im (.l (.v 2) (.v 1)) (.l (.p (.v 0) (.k 1)) (.v 1)))):=chk _ _ _ (by kernel_rfl)
theorem a26{x0 x1:Nat}:F.d [x0,x1] [] (.im (.e (.v 1) (.k 3)) (.im (.t (.v 0) (.k 3)) (.t (.v 0) (.v 1)))):=chk _ _ _ (by kernel_rfl)
theorem a27{x0:Nat}:F.d [x0] [] (.l (.v 0) (.p (.v 0) (.k 2))):=chk _ _ _ (by kernel_rfl)
theorem a28{x0:Nat}:F.d [x0] [] (.l (.v 0) (.p (.v 0) (.k 3))):=chk _ _ _ (by kernel_rfl)
theorem a30:F.d [] [] (.t (.k 0) (.k 5)):=chk _ _ _ (by kernel_rfl)
theorem a31{x0 x1:Nat}:F.d [x0,x1] [] (.im (.l (.v 0) (.v 1)) (.t (.v 0) (.p (.v 1) (.k 1)))):=chk _ _ _ (by kernel_rfl)
theorem a32{x0:Nat}:F.d [x0] [] (.im (.l (.s (.k 3) (.k 0)) (.v 0)) (.l (.k 3) (.v 0))):=chk _ _ _ (by kernel_rfl)
theorem a33:F.d [] [] (.t (.k 0) (.k 3)):=chk _ _ _ (by kernel_rfl)
theorem a34{x0:Nat}:F.d [x0] [] (.im (.l (.v 0) (.k 3)) (.l (.p (.v 0) (.k 1)) (.k 1000))):=chk _ _ _ (by kernel_rfl)
theorem a35{x0 x1:Nat}:F.d [x0,x1] [] (.l (.v 0) (.p (.v 0) (.v 1))):=chk _ _ _ (by kernel_rfl)
theorem a36{x0 x1:Nat}:F.d [x0,x1] [] (.im (.e (.v 0) (.p (.v 1) (.k 1))) (.l (.v 0) (.p (.v 1) (.k 1)))):=chk _ _ _ (by kernel_rfl)
theorem a37{x0 x1:Nat}:(((x0+24):Nat)≤x1)→(x0:Nat)<x1:=chk [x0,x1] [] (.im (.l (.p (.v 0) (.k 24)) (.v 1)) (.t (.v 0) (.v 1))) (by kernel_rfl)
theorem a38{x0 x1:Nat}:F.d [x0,x1] [] (.im (.l (.s (.k 3) (.p (.v 0) (.k 1))) (.v 1)) (.l (.s (.k 2) (.v 0)) (.v 1))):=chk _ _ _ (by kernel_rfl)
theorem a39{x0:Nat}:F.d [x0] [] (.im (.t (.k 0) (.v 0)) (.l (.k 1) (.v 0))):=chk _ _ _ (by kernel_rfl)
theorem a40{x0:Nat}:F.d [x0] [] (.im (.l (.v 0) (.k 3)) (.l (.p (.v 0) (.k 1)) (.k 4))):=chk _ _ _ (by kernel_rfl)
theorem a42{x0:Nat}:F.d [x0] [] (.l (.s (.k 3) (.k 3)) (.v 0)):=chk _ _ _ (by kernel_rfl)
theorem a43{x0:Nat}:F.d [x0] [] (.im (.t (.v 0) (.k 2)) (.t (.v 0) (.k 3))):=chk _ _ _ (by kernel_rfl)
theorem a44{x0 x1 x2:Nat}:F.d [x0,x1,x2] [] (.im (.e (.v 0) (.p (.v 1) (.k 1))) (.im (.l (.v 0) (.v 2)) (.im (.l (.v 2) (.v 1)) .ff))):=chk _ _ _ (by kernel_rfl)
theorem a45{x0 x1 x2 x3 x4:Nat}:((x3:Nat)=(1+(4*x4)))→(((x0+x3):Nat)≤x2)→((x1:Nat)≤(4*x4))→((x0+x1):Nat)≤x2:=chk [x0,x1,x2,x3,x4] [] (.im (.e (.v 3) (.p (.k 1) (.m 4 (.v 4)))) (.im (.l (.p (.v 0) (.v 3)) (.v 2)) (.im (.l (.v 1) (.m 4 (.v 4))) (.l (.p (.v 0) (.v 1)) (.v 2))))) (by kernel_rfl)
theorem a46{x0 x1:Nat}:F.d [x0,x1] [] (.im (.T (.c (.v 0)) (.c (.v 1))) (.E (.c (.v 0)) (.c (.mn (.v 1) (.v 0))))):=chk _ _ _ (by kernel_rfl)
theorem a47{x0 x1:Nat}:F.d [x0,x1] [] (.im (.no (.T (.c (.v 1)) (.c (.v 0)))) (.E (.c (.v 0)) (.c (.mn (.v 0) (.v 1))))):=chk _ _ _ (by kernel_rfl)
theorem a48:F.d [] [] (.t (.k 1) (.k 3)):=chk _ _ _ (by kernel_rfl)
theorem a49{x0:Nat}:(0:Nat)≤x0:=chk [x0] [] (.l (.k 0) (.v 0)) (by kernel_rfl)
theorem a50{x0 x1:Nat}:((100000:Nat)≤x1)→((x0:Nat)≤3)→((x0+1):Nat)≤x1:=chk [x0,x1] [] (.im (.l (.k 100000) (.v 1)) (.im (.l (.v 0) (.k 3)) (.l (.p (.v 0) (.k 1)) (.v 1)))) (by kernel_rfl)
theorem a51{x0:Nat}:F.d [x0] [] (.e (.s (.k 3) (.p (.v 0) (.k 1))) (.s (.k 2) (.v 0))):=chk _ _ _ (by kernel_rfl)
theorem a53:F.d [] [] (.t (.k 0) (.k 2)):=chk _ _ _ (by kernel_rfl)
theorem a55{x0 x1:Nat}:((100000:Nat)≤x1)→((x0:Nat)<100)→(x0:Nat)<x1:=chk [x0,x1] [] (.im (.l (.k 100000) (.v 1)) (.im (.t (.v 0) (.k 100)) (.t (.v 0) (.v 1)))) (by kernel_rfl)
theorem a56:F.d [] [] (.l (.k 1) (.k 1)):=chk _ _ _ (by kernel_rfl)
theorem a57{x0 x1:Nat}:F.d [x0,x1] [] (.im (.e (.v 0) (.s (.k 3) (.p (.v 1) (.k 1)))) (.im (.l (.p (.v 1) (.k 1)) (.k 3)) (.e (.p (.v 0) (.k 1)) (.s (.k 3) (.v 1))))):=chk _ _ _ (by kernel_rfl)
theorem a58{x0 x1 x2:Nat}:((x0:Nat)=x1)→((x2:Nat)=16777216)→((x1:Nat)≤x2)→(((x0:Nat):Int):Int)<(2^63):=chk [x0,x1,x2] [] (.im (.e (.v 0) (.v 1)) (.im (.e (.v 2) (.k 16777216)) (.im (.l (.v 1) (.v 2)) (.T (.c (.v 0)) (.k (2^63)))))) (by kernel_rfl)
theorem a59{x0 x1 x2:Nat}:F.d [x0,x1,x2] [] (.im (.l (.v 0) (.v 2)) (.im (.l (.v 2) (.v 1)) (.l (.v 0) (.p (.v 1) (.k 1))))):=chk _ _ _ (by kernel_rfl)
theorem a60{x0 x1 x2 x3:Nat}:F.d [x0,x1,x2,x3] [] (.im (.l (.p (.p (.v 3) (.k 1)) (.v 1)) (.p (.v 2) (.k 1))) (.im (.l (.v 0) (.v 3)) (.l (.p (.v 0) (.p (.v 1) (.k 1))) (.p (.v 2) (.k 1))))):=chk _ _ _ (by kernel_rfl)
theorem a61{x0 x1:Nat}:F.d [x0,x1] [] (.im (.e (.p (.v 0) (.k 1)) (.p (.v 1) (.k 1))) (.im (.t (.v 0) (.v 1)) .ff)):=chk _ _ _ (by kernel_rfl)
theorem a62{x0 x1:Nat}:F.d [x0,x1] [] (.im (.l (.p (.v 1) (.k 1)) (.v 0)) (.no (.l (.v 0) (.v 1)))):=chk _ _ _ (by kernel_rfl)
theorem a63{x0:Nat}:F.d [x0] [] (.im (.t (.v 0) (.k 0)) .ff):=chk _ _ _ (by kernel_rfl)
theorem a64{x0 x1:Nat}:F.d [x0,x1] [] (.im (.e (.v 0) (.p (.v 1) (.k 1))) (.im (.l (.v 0) (.v 1)) .ff)):=chk _ _ _ (by kernel_rfl)
theorem a65{x0 x1 x2:Nat}:F.d [x0,x1,x2] [] (.im (.e (.v 1) (.v 2)) (.im (.l (.v 0) (.v 2)) (.l (.v 0) (.v 1)))):=chk _ _ _ (by kernel_rfl)
theorem a66{x0 x1 x2:Nat}:F.d [x0,x1,x2] [] (.im (.t (.v 0) (.v 1)) (.t (.v 0) (.p (.v 1) (.v 2)))):=chk _ _ _ (by kernel_rfl)
theorem a67{x0 x1:Nat}:F.d [x0,x1] [] (.im (.l (.v 0) (.p (.v 1) (.k 1))) (.l (.v 0) (.p (.v 1) (.k 1)))):=chk _ _ _ (by kernel_rfl)
theorem a68{x0 x1 x2 x3:Nat}:F.d [x0,x1,x2,x3] [] (.im (.an (.l (.v 2) (.v 1)) (.l (.v 1) (.p (.v 2) (.v 3)))) (.im (.t (.v 0) (.v 2)) (.t (.v 0) (.v 1)))):=chk _ _ _ (by kernel_rfl)
theorem a69{x0 x1:Nat}:F.d [x0,x1] [] (.im (.l (.p (.k 0) (.v 0)) (.p (.v 1) (.k 1))) (.im (.l (.v 1) (.k 3)) (.l (.v 0) (.k 4)))):=chk _ _ _ (by kernel_rfl)
theorem a70{x0 x1 x2:Nat}:((x2:Nat)=90000)→((100000:Nat)≤x1)→((x0:Nat)<x2)→(x0:Nat)<x1:=chk [x0,x1,x2] [] (.im (.e (.v 2) (.k 90000)) (.im (.l (.k 100000) (.v 1)) (.im (.t (.v 0) (.v 2)) (.t (.v 0) (.v 1))))) (by kernel_rfl)
theorem a71{x0:Nat}:((100000:Nat)≤x0)→(0:Nat)<x0:=chk [x0] [] (.im (.l (.k 100000) (.v 0)) (.t (.k 0) (.v 0))) (by kernel_rfl)
theorem a72{x0 x1:Nat}:F.d [x0,x1] [] (.im (.t (.v 0) (.v 1)) (.t (.v 0) (.v 1))):=chk _ _ _ (by kernel_rfl)
theorem a73{x0 x1:Nat}:F.d [x0,x1] [] (.im (.no (.l (.v 1) (.v 0))) (.t (.v 0) (.v 1))):=chk _ _ _ (by kernel_rfl)
theorem a74{x0:Nat}:F.d [x0] [] (.l (.s (.k 3) (.v 0)) (.k 3)):=chk _ _ _ (by kernel_rfl)
theorem a76{x0 x1:Nat}:F.d [x0,x1] [] (.im (.l (.v 0) (.v 1)) (.im (.l (.v 1) (.v 0)) (.e (.v 0) (.v 1)))):=chk _ _ _ (by kernel_rfl)
theorem a77:F.d [] [] (.l (.k 3) (.k 3)):=chk _ _ _ (by kernel_rfl)
theorem a78{x0 x1 x2:Nat}:F.d [x0,x1,x2] [] (.im (.e (.p (.v 0) (.p (.v 1) (.k 1))) (.p (.v 2) (.k 1))) (.e (.p (.p (.v 0) (.k 1)) (.v 1)) (.p (.v 2) (.k 1)))):=chk _ _ _ (by kernel_rfl)
theorem a82{x0 x1:Nat}:F.d [x0,x1] [] (.im (.t (.v 0) (.v 1)) (.t (.s (.v 0) (.k 1)) (.v 1))):=chk _ _ _ (by kernel_rfl)
theorem a83:F.d [] [] (.l (.k 21) (.k 24)):=chk _ _ _ (by kernel_rfl)
theorem a85{x0 x1:Nat}:((x1:Nat)=90000)→((x0:Nat)≤(10+(24*((9+2)+3))))→(x0:Nat)<x1:=chk [x0,x1] [] (.im (.e (.v 1) (.k 90000)) (.im (.l (.v 0) (.p (.k 10) (.m 24 (.p (.p (.k 9) (.k 2)) (.k 3))))) (.t (.v 0) (.v 1)))) (by kernel_rfl)
theorem a86{x0 x1 x2:Nat}:((((x0+(40*x2))+400):Nat)<x1)→(((x0+1)+100):Nat)<x1:=chk [x0,x1,x2] [] (.im (.t (.p (.p (.v 0) (.m 40 (.v 2))) (.k 400)) (.v 1)) (.t (.p (.p (.v 0) (.k 1)) (.k 100)) (.v 1))) (by kernel_rfl)
theorem a87{z0:Int}:F.d [] [z0] (.im (.L (.v 0) (.k 1000)) (.L (.v 0) (.k 16777216))):=chk _ _ _ (by kernel_rfl)
theorem a89{x0 x1:Nat}:F.d [x0,x1] [] (.e (.p (.p (.p (.p (.p (.p (.v 0) (.v 1)) (.k 1)) (.k 1)) (.k 1)) (.k 1)) (.k 1)) (.p (.v 0) (.p (.k 5) (.v 1)))):=chk _ _ _ (by kernel_rfl)
theorem a90{x0 x1:Nat}:F.d [x0,x1] [] (.e (.s (.p (.v 0) (.v 1)) (.v 0)) (.v 1)):=chk _ _ _ (by kernel_rfl)
theorem a91{x0:Nat}:F.d [x0] [] (.e (.p (.v 0) (.p (.k 5) (.k 0))) (.p (.v 0) (.k 5))):=chk _ _ _ (by kernel_rfl)
theorem a92{x0 x1 x2:Nat}:F.d [x0,x1,x2] [] (.im (.l (.v 2) (.v 1)) (.im (.t (.v 0) (.v 2)) (.l (.v 0) (.v 1)))):=chk _ _ _ (by kernel_rfl)
theorem a93{x0 x1 x2:Nat}:F.d [x0,x1,x2] [] (.im (.l (.v 2) (.v 0)) (.im (.t (.v 1) (.v 2)) (.no (.e (.v 0) (.v 1))))):=chk _ _ _ (by kernel_rfl)
theorem a94{x0 x1:Nat}:F.d [x0,x1] [] (.im (.e (.v 0) (.k 3)) (.im (.l (.v 1) (.k 3)) (.im (.t (.v 0) (.v 1)) .ff))):=chk _ _ _ (by kernel_rfl)
theorem a95{x0 x1 x2:Nat}:F.d [x0,x1,x2] [] (.im (.e (.v 0) (.k 3)) (.im (.e (.v 0) (.v 1)) (.im (.e (.v 1) (.v 2)) (.im (.t (.v 2) (.k 3)) .ff)))):=chk _ _ _ (by kernel_rfl)
theorem a96{x0 x1 x2:Nat}:F.d [x0,x1,x2] [] (.im (.e (.v 0) (.k 3)) (.im (.e (.v 1) (.v 0)) (.im (.e (.v 1) (.v 2)) (.im (.t (.v 2) (.k 3)) .ff)))):=chk _ _ _ (by kernel_rfl)
theorem a97{x0 x1 x2 x3:Nat}:F.d [x0,x1,x2,x3] [] (.im (.e (.v 2) (.v 0)) (.im (.e (.v 2) (.v 3)) (.im (.e (.v 3) (.v 1)) (.e (.v 0) (.v 1))))):=chk _ _ _ (by kernel_rfl)
theorem a98{x0 x1:Nat}:F.d [x0,x1] [] (.t (.v 0) (.p (.p (.v 0) (.v 1)) (.k 1))):=chk _ _ _ (by kernel_rfl)
theorem a99{x0 x1:Nat}:F.d [x0,x1] [] (.t (.v 0) (.p (.p (.v 1) (.v 0)) (.k 1))):=chk _ _ _ (by kernel_rfl)
theorem a100{x0 x1 x2:Nat}:F.d [x0,x1,x2] [] (.im (.e (.v 1) (.v 2)) (.im (.l (.v 0) (.v 1)) (.im (.no (.e (.v 2) (.v 0))) (.t (.v 0) (.v 1))))):=chk _ _ _ (by kernel_rfl)
theorem a106{x0:Nat}:F.d [x0] [] (.L (.k 0) (.p (.k (-1)) (.c (.p (.v 0) (.k 1))))):=chk _ _ _ (by kernel_rfl)
theorem a107{x0 x1 x2:Nat}:F.d [x0,x1,x2] [] (.im (.e (.p (.v 0) (.k 1)) (.p (.v 1) (.k 1))) (.im (.l (.v 2) (.v 1)) (.im (.no (.l (.v 2) (.v 0))) .ff))):=chk _ _ _ (by kernel_rfl)
theorem a108{x0 x1:Nat}:F.d [x0,x1] [] (.im (.e (.s (.v 0) (.v 1)) (.k 0)) (.e (.s (.v 0) (.v 1)) (.k 0))):=chk _ _ _ (by kernel_rfl)
theorem a109{x0 x1:Nat}:F.d [x0,x1] [] (.im (.e (.s (.v 0) (.v 1)) (.k 0)) (.im (.no (.t (.v 0) (.v 1))) (.e (.v 0) (.v 1)))):=chk _ _ _ (by kernel_rfl)
theorem a110{z0 z1:Int}:F.d [] [z0,z1] (.im (.L (.v 1) (.v 0)) (.no (.T (.v 0) (.v 1)))):=chk _ _ _ (by kernel_rfl)
theorem a111{z0 z1:Int}:F.d [] [z0,z1] (.im (.L (.v 0) (.v 1)) (.im (.no (.T (.v 0) (.v 1))) (.E (.v 0) (.v 1)))):=chk _ _ _ (by kernel_rfl)
theorem a112{x0 x1:Nat}:F.d [x0,x1] [] (.im (.l (.v 0) (.v 1)) (.im (.no (.e (.v 1) (.v 0))) (.l (.p (.v 0) (.k 1)) (.v 1)))):=chk _ _ _ (by kernel_rfl)
theorem a113{x0 x1 x2:Nat}:F.d [x0,x1,x2] [] (.im (.e (.v 1) (.v 2)) (.im (.l (.p (.v 2) (.k 1)) (.v 0)) (.no (.l (.v 0) (.v 1))))):=chk _ _ _ (by kernel_rfl)
theorem a114{x0 x1:Nat}:F.d [x0,x1] [] (.e (.p (.p (.v 0) (.v 1)) (.k 5)) (.p (.v 0) (.p (.k 5) (.v 1)))):=chk _ _ _ (by kernel_rfl)
theorem a117{x0 x1:Nat}:F.d [x0,x1] [] (.l (.mn (.v 0) (.v 1)) (.v 1)):=chk _ _ _ (by kernel_rfl)
theorem a118{x0 x1 x2 x3:Nat}:(((x0+(x3+x1)):Nat)≤x2)→((x0+x1):Nat)≤x2:=chk [x0,x1,x2,x3] [] (.im (.l (.p (.v 0) (.p (.v 3) (.v 1))) (.v 2)) (.l (.p (.v 0) (.v 1)) (.v 2))) (by kernel_rfl)
theorem a119{x0 x1:Nat}:F.d [x0,x1] [] (.im (.l (.s (.k 3) (.k 0)) (.v 1)) (.im (.l (.v 1) (.v 0)) (.l (.k 3) (.v 0)))):=chk _ _ _ (by kernel_rfl)
theorem a120{x0 x1:Nat}:F.d [x0,x1] [] (.e (.p (.p (.v 0) (.p (.v 1) (.k 1))) (.k 5)) (.p (.p (.v 0) (.v 1)) (.k 6))):=chk _ _ _ (by kernel_rfl)
theorem a121{x0 x1 x2 x3:Nat}:F.d [x0,x1,x2,x3] [] (.im (.e (.v 1) (.v 0)) (.im (.e (.v 2) (.v 3)) (.im (.l (.v 1) (.v 2)) (.im (.t (.v 3) (.k 3)) (.t (.v 0) (.k 3)))))):=chk _ _ _ (by kernel_rfl)
theorem a122{x0 x1 x2:Nat}:F.d [x0,x1,x2] [] (.im (.e (.v 2) (.v 1)) (.im (.l (.s (.k 3) (.p (.v 0) (.k 1))) (.v 2)) (.l (.s (.k 3) (.v 0)) (.p (.v 1) (.k 1))))):=chk _ _ _ (by kernel_rfl)
theorem a123{x0 x1 x2:Nat}:F.d [x0,x1,x2] [] (.im (.e (.v 2) (.v 1)) (.im (.t (.v 0) (.v 2)) (.l (.p (.v 0) (.k 1)) (.v 1)))):=chk _ _ _ (by kernel_rfl)
theorem a124{x0 x1:Nat}:F.d [x0,x1] [] (.im (.l (.p (.v 0) (.k 1)) (.v 1)) (.t (.v 0) (.v 1))):=chk _ _ _ (by kernel_rfl)
theorem a125{x0 x1 x2 x3:Nat}:((x0:Nat)=x2)→((100000:Nat)≤x1)→(((0+x2):Nat)≤(x3+1))→((x3:Nat)≤3)→(x0:Nat)≤x1:=chk [x0,x1,x2,x3] [] (.im (.e (.v 0) (.v 2)) (.im (.l (.k 100000) (.v 1)) (.im (.l (.p (.k 0) (.v 2)) (.p (.v 3) (.k 1))) (.im (.l (.v 3) (.k 3)) (.l (.v 0) (.v 1)))))) (by kernel_rfl)
theorem a126{x0 x1 x2 x3 x4 x5 x6:Nat}:(((x2+x3):Nat)≤x4)→((x5:Nat)≤(4*x6))→((x3:Nat)=(1+(4*x6)))→((((x2:Nat)≤x0)∧((x0:Nat)≤(x2+x5))))→((x4:Nat)=90000)→((100000:Nat)≤x1)→(x0:Nat)<x1:=chk [x0,x1,x2,x3,x4,x5,x6] [] (.im (.l (.p (.v 2) (.v 3)) (.v 4)) (.im (.l (.v 5) (.m 4 (.v 6))) (.im (.e (.v 3) (.p (.k 1) (.m 4 (.v 6)))) (.im (.an (.l (.v 2) (.v 0)) (.l (.v 0) (.p (.v 2) (.v 5)))) (.im (.e (.v 4) (.k 90000)) (.im (.l (.k 100000) (.v 1)) (.t (.v 0) (.v 1)))))))) (by kernel_rfl)
theorem a127{x0 x1 x2:Nat}:F.d [x0,x1,x2] [] (.im (.e (.v 0) (.v 1)) (.im (.l (.p (.k 0) (.v 1)) (.p (.v 2) (.k 1))) (.im (.l (.v 2) (.k 3)) (.t (.v 0) (.k 1000))))):=chk _ _ _ (by kernel_rfl)
theorem a128{x0 x1 x2 x3 x4:Nat}:F.d [x0,x1,x2,x3,x4] [] (.im (.e (.v 2) (.p (.k 1) (.m 4 (.v 3)))) (.im (.l (.v 0) (.v 4)) (.im (.l (.v 1) (.k 1)) (.im (.l (.v 4) (.m 4 (.v 3))) (.l (.p (.v 0) (.v 1)) (.v 2)))))):=chk _ _ _ (by kernel_rfl)
theorem a129{x0 x1 x2 x3 x4 x5:Nat}:F.d [x0,x1,x2,x3,x4,x5] [] (.im (.e (.v 2) (.p (.k 1) (.m 4 (.v 3)))) (.im (.l (.v 0) (.p (.v 4) (.k 1))) (.im (.l (.v 4) (.p (.v 1) (.v 5))) (.im (.l (.v 5) (.m 4 (.v 3))) (.l (.v 0) (.p (.v 1) (.v 2))))))):=chk _ _ _ (by kernel_rfl)
theorem a130{x0 x1 x2:Nat}:((((x2:Nat)≤x0)∧((x0:Nat)≤(x2+1))))→(((x2+24):Nat)≤x1)→((x0+21):Nat)≤x1:=chk [x0,x1,x2] [] (.im (.an (.l (.v 2) (.v 0)) (.l (.v 0) (.p (.v 2) (.k 1)))) (.im (.l (.p (.v 2) (.k 24)) (.v 1)) (.l (.p (.v 0) (.k 21)) (.v 1)))) (by kernel_rfl)
theorem a131:F.d [] [] (.l (.p (.k 1) (.k 21)) (.k 24)):=chk _ _ _ (by kernel_rfl)
theorem a132{x0 x1 x2 x3:Nat}:F.d [x0,x1,x2,x3] [] (.im (.an (.l (.v 2) (.v 1)) (.l (.v 1) (.p (.v 2) (.k 1)))) (.im (.an (.l (.v 3) (.v 2)) (.l (.v 2) (.p (.v 3) (.k 1)))) (.im (.t (.v 0) (.v 3)) (.t (.v 0) (.v 1))))):=chk _ _ _ (by kernel_rfl)
theorem a133{x0:Nat}:((100000:Nat)≤x0)→(1:Nat)<x0:=chk [x0] [] (.im (.l (.k 100000) (.v 0)) (.t (.k 1) (.v 0))) (by kernel_rfl)
theorem a134{x0 x1:Nat}:F.d [x0,x1] [] (.im (.no (.t (.v 1) (.v 0))) (.l (.v 0) (.v 1))):=chk _ _ _ (by kernel_rfl)
theorem a135{x0 x1 x2:Nat}:F.d [x0,x1,x2] [] (.im (.l (.v 0) (.v 1)) (.im (.l (.v 0) (.v 2)) (.l (.v 0) (.mn (.v 1) (.v 2))))):=chk _ _ _ (by kernel_rfl)
theorem a136{x0 x1:Nat}:((x0:Nat)≤x1)→((x0 - 1):Nat)≤x1:=chk [x0,x1] [] (.im (.l (.v 0) (.v 1)) (.l (.s (.v 0) (.k 1)) (.v 1))) (by kernel_rfl)
theorem a137{x0 x1 x2:Nat}:((100000:Nat)≤x1)→(((x0+(2*(x2+1))):Nat)<1000)→(x0:Nat)<x1:=chk [x0,x1,x2] [] (.im (.l (.k 100000) (.v 1)) (.im (.t (.p (.v 0) (.m 2 (.p (.v 2) (.k 1)))) (.k 1000)) (.t (.v 0) (.v 1)))) (by kernel_rfl)
theorem a138:F.d [] [] (.T (.k (-1)) (.c (.k 0))):=chk _ _ _ (by kernel_rfl)
theorem a139{x0 x1:Nat}:F.d [x0,x1] [] (.im (.t (.v 0) (.v 1)) (.no (.E (.c (.v 0)) (.c (.v 1))))):=chk _ _ _ (by kernel_rfl)
theorem a140{x0 x1:Nat}:F.d [x0,x1] [] (.im (.t (.p (.v 0) (.p (.v 1) (.k 1))) (.k 100000)) (.t (.p (.v 0) (.v 1)) (.k 100000))):=chk _ _ _ (by kernel_rfl)
theorem a141{x0 x1:Nat}:F.d [x0,x1] [] (.im (.t (.p (.v 0) (.p (.v 1) (.k 1))) (.k 100000)) (.t (.p (.p (.v 0) (.k 1)) (.v 1)) (.k 100000))):=chk _ _ _ (by kernel_rfl)
theorem a143{x0 x1:Nat}:F.d [x0,x1] [] (.im (.l (.p (.k 0) (.v 0)) (.p (.v 1) (.k 1))) (.l (.v 0) (.p (.v 1) (.k 1)))):=chk _ _ _ (by kernel_rfl)
theorem a144{x0 x1 x2 x3:Nat}:F.d [x0,x1,x2,x3] [] (.im (.l (.v 0) (.v 3)) (.im (.l (.v 1) (.v 2)) (.l (.p (.v 0) (.v 1)) (.p (.v 2) (.v 3))))):=chk _ _ _ (by kernel_rfl)
theorem a145{x0 x1:Nat}:F.d [x0,x1] [] (.im (.l (.v 0) (.v 1)) (.e (.p (.v 0) (.s (.v 1) (.v 0))) (.v 1))):=chk _ _ _ (by kernel_rfl)
theorem a148{x0 x1:Nat}:F.d [x0,x1] [] (.im (.t (.v 0) (.v 1)) (.t (.v 0) (.p (.v 1) (.k 1)))):=chk _ _ _ (by kernel_rfl)
theorem a149{x0:Nat}:F.d [x0] [] (.t (.v 0) (.p (.v 0) (.k 1))):=chk _ _ _ (by kernel_rfl)
theorem a150{x0 x1 x2:Nat}:F.d [x0,x1,x2] [] (.im (.l (.v 0) (.v 1)) (.im (.l (.v 0) (.v 2)) (.im (.no (.e (.mn (.v 1) (.v 2)) (.v 0))) (.t (.v 0) (.v 1))))):=chk _ _ _ (by kernel_rfl)
theorem a151{x0 x1 x2:Nat}:F.d [x0,x1,x2] [] (.im (.l (.v 0) (.v 1)) (.im (.l (.v 0) (.v 2)) (.im (.no (.e (.mn (.v 2) (.v 1)) (.v 0))) (.t (.v 0) (.v 1))))):=chk _ _ _ (by kernel_rfl)
theorem a152:F.d [] [] (.t (.k 2) (.k 3)):=chk _ _ _ (by kernel_rfl)
theorem a153{x0:Nat}:F.d [x0] [] (.im (.t (.k 1) (.v 0)) (.l (.k 2) (.v 0))):=chk _ _ _ (by kernel_rfl)
theorem a154{x0:Nat}:F.d [x0] [] (.im (.t (.k 0) (.v 0)) (.T (.k 0) (.c (.v 0)))):=chk _ _ _ (by kernel_rfl)
theorem a155{x0:Nat}:F.d [x0] [] (.t (.k 0) (.p (.v 0) (.k 2))):=chk _ _ _ (by kernel_rfl)
theorem a156{x0:Nat}:F.d [x0] [] (.t (.k 0) (.p (.v 0) (.k 1))):=chk _ _ _ (by kernel_rfl)
theorem a157{x0:Nat}:F.d [x0] [] (.no (.E (.p (.c (.v 0)) (.k 1)) (.k 0))):=chk _ _ _ (by kernel_rfl)
theorem a158{x0:Nat}:F.d [x0] [] (.im (.l (.v 0) (.k 0)) (.l (.p (.v 0) (.k 1)) (.k 1))):=chk _ _ _ (by kernel_rfl)
theorem a160{x0:Nat}:F.d [x0] [] (.im (.l (.v 0) (.k 1)) (.l (.mn (.v 0) (.v 0)) (.k 60))):=chk _ _ _ (by kernel_rfl)
theorem a161{x0:Nat}:F.d [x0] [] (.im (.t (.v 0) (.k 3)) (.l (.v 0) (.k 3))):=chk _ _ _ (by kernel_rfl)
theorem a165{x0:Nat}:F.d [x0] [] (.im (.t (.k 0) (.v 0)) (.E (.s (.c (.v 0)) (.k 1)) (.c (.s (.v 0) (.k 1))))):=chk _ _ _ (by kernel_rfl)
theorem a167{x0:Nat}:F.d [x0] [] (.im (.e (.v 0) (.k 3)) (.im (.t (.v 0) (.k 3)) .ff)):=chk _ _ _ (by kernel_rfl)
theorem a168{x0 x1:Nat}:F.d [x0,x1] [] (.im (.t (.v 1) (.v 0)) (.no (.E (.c (.v 0)) (.k 0)))):=chk _ _ _ (by kernel_rfl)
theorem a169:F.d [] [] (.l (.k 1) (.k 24)):=chk _ _ _ (by kernel_rfl)
theorem a171{x0:Nat}:F.d [x0] [] (.im (.an (.l (.k 1) (.v 0)) (.l (.v 0) (.k 2))) (.or (.e (.v 0) (.k 1)) (.e (.v 0) (.k 2)))):=chk _ _ _ (by kernel_rfl)
theorem a172{x0 x1 x2:Nat}:((x1:Nat)=90000)→((x0:Nat)≤(10+(24*x2)))→((x2:Nat)≤40)→((x0+24):Nat)≤x1:=chk [x0,x1,x2] [] (.im (.e (.v 1) (.k 90000)) (.im (.l (.v 0) (.p (.k 10) (.m 24 (.v 2)))) (.im (.l (.v 2) (.k 40)) (.l (.p (.v 0) (.k 24)) (.v 1))))) (by kernel_rfl)
theorem a173{x0 x1:Nat}:F.d [x0,x1] [] (.im (.l (.v 0) (.p (.k 3) (.v 1))) (.im (.l (.v 1) (.k 40)) (.t (.v 0) (.k 100)))):=chk _ _ _ (by kernel_rfl)
theorem a174{x0 x1 x2:Nat}:F.d [x0,x1,x2] [] (.im (.l (.v 0) (.p (.v 2) (.k 1))) (.im (.l (.v 2) (.p (.k 3) (.v 1))) (.l (.v 0) (.p (.k 3) (.p (.v 1) (.k 1)))))):=chk _ _ _ (by kernel_rfl)
theorem a175{x0:Nat}:F.d [x0] [] (.im (.l (.k 3) (.v 0)) (.l (.k 2) (.v 0))):=chk _ _ _ (by kernel_rfl)
theorem a176{x0:Nat}:F.d [x0] [] (.im (.l (.k 3) (.v 0)) (.l (.k 1) (.v 0))):=chk _ _ _ (by kernel_rfl)
theorem a177:F.d [] [] (.l (.k 1) (.k 2)):=chk _ _ _ (by kernel_rfl)
theorem a178{x0 x1:Nat}:((x1:Nat)=90000)→((x0:Nat)≤(10+(24*9)))→((x0+24):Nat)≤x1:=chk [x0,x1] [] (.im (.e (.v 1) (.k 90000)) (.im (.l (.v 0) (.p (.k 10) (.m 24 (.k 9)))) (.l (.p (.v 0) (.k 24)) (.v 1)))) (by kernel_rfl)
theorem a179{x0 x1:Nat}:((x1:Nat)=90000)→((x0:Nat)≤(10+(24*(9+2))))→((x0+24):Nat)≤x1:=chk [x0,x1] [] (.im (.e (.v 1) (.k 90000)) (.im (.l (.v 0) (.p (.k 10) (.m 24 (.p (.k 9) (.k 2))))) (.l (.p (.v 0) (.k 24)) (.v 1)))) (by kernel_rfl)
theorem a180{x0:Nat}:F.d [x0] [] (.im (.e (.v 0) (.k 3)) (.l (.v 0) (.p (.k 3) (.k 0)))):=chk _ _ _ (by kernel_rfl)
theorem a182{x0 x1:Nat}:F.d [x0,x1] [] (.im (.t (.v 1) (.v 0)) (.no (.e (.v 0) (.v 1)))):=chk _ _ _ (by kernel_rfl)
theorem a184{x0 x1:Nat}{z0:Int}:(((-((x0:Nat):Int)):Int)≤z0)→((x1:Nat)=16777216)→((x0:Nat)≤x1)→((-(2^63)):Int)≤z0:=chk [x0,x1] [z0] (.im (.L (.g (.c (.v 0))) (.v 0)) (.im (.e (.v 1) (.k 16777216)) (.im (.l (.v 0) (.v 1)) (.L (.g (.k (2^63))) (.v 0))))) (by kernel_rfl)
theorem a185{z0:Int}:F.d [] [z0] (.im (.T (.k 0) (.v 0)) (.T (.k 0) (.v 0))):=chk _ _ _ (by kernel_rfl)
theorem a186{z0 z1:Int}:F.d [] [z0,z1] (.im (.T (.v 1) (.v 0)) (.L (.k 0) (.s (.s (.v 0) (.v 1)) (.k 1)))):=chk _ _ _ (by kernel_rfl)
theorem a188{x0 x1:Nat}:F.d [x0,x1] [] (.im (.no (.t (.v 0) (.v 1))) (.im (.t (.v 0) (.p (.v 1) (.k 1))) (.e (.v 0) (.v 1)))):=chk _ _ _ (by kernel_rfl)
theorem a189{x0 x1 x2:Nat}:((((x0+(3*x2))+20):Nat)<x1)→((x0+1):Nat)<x1:=chk [x0,x1,x2] [] (.im (.t (.p (.p (.v 0) (.m 3 (.v 2))) (.k 20)) (.v 1)) (.t (.p (.v 0) (.k 1)) (.v 1))) (by kernel_rfl)
theorem a191{z0:Int}:F.d [] [z0] (.im (.L (.v 0) (.k 1000)) (.L (.v 0) (.k 1152921504606846975))):=chk _ _ _ (by kernel_rfl)
theorem a193{x0 x1 x2 x3 x4:Nat}:(((min x1 x2):Nat)≤60)→((((x0+(40*x4))+400):Nat)<x3)→((x0+(min x1 x2)):Nat)<x3:=chk [x0,x1,x2,x3,x4] [] (.im (.l (.mn (.v 1) (.v 2)) (.k 60)) (.im (.t (.p (.p (.v 0) (.m 40 (.v 4))) (.k 400)) (.v 3)) (.t (.p (.v 0) (.mn (.v 1) (.v 2))) (.v 3)))) (by kernel_rfl)
theorem a194{z0:Int}:F.d [] [z0] (.im (.no (.L (.k 0) (.v 0))) (.T (.v 0) (.k 0))):=chk _ _ _ (by kernel_rfl)
theorem a195{x0:Nat}:F.d [x0] [] (.no (.T (.c (.v 0)) (.k 0))):=chk _ _ _ (by kernel_rfl)
theorem a199{x0 x1 x2:Nat}:((100000:Nat)≤x1)→(((0+x0):Nat)≤(x2+1))→((x2:Nat)≤3)→(x0:Nat)≤x1:=chk [x0,x1,x2] [] (.im (.l (.k 100000) (.v 1)) (.im (.l (.p (.k 0) (.v 0)) (.p (.v 2) (.k 1))) (.im (.l (.v 2) (.k 3)) (.l (.v 0) (.v 1))))) (by kernel_rfl)
theorem a201{x0 x1 x2:Nat}:(((x0+(4*(x2+1))):Nat)<x1)→(x0:Nat)<x1:=chk [x0,x1,x2] [] (.im (.t (.p (.v 0) (.m 4 (.p (.v 2) (.k 1)))) (.v 1)) (.t (.v 0) (.v 1))) (by kernel_rfl)
theorem a202{x0 x1 x2:Nat}:(((x0+(4*(x1+1))):Nat)<x2)→(((x0+1)+(4*x1)):Nat)<x2:=chk [x0,x1,x2] [] (.im (.t (.p (.v 0) (.m 4 (.p (.v 1) (.k 1)))) (.v 2)) (.t (.p (.p (.v 0) (.k 1)) (.m 4 (.v 1))) (.v 2))) (by kernel_rfl)
theorem a205{x0 x1:Nat}:(((x0+100):Nat)<x1)→((x0+(4*6)):Nat)<x1:=chk [x0,x1] [] (.im (.t (.p (.v 0) (.k 100)) (.v 1)) (.t (.p (.v 0) (.m 4 (.k 6))) (.v 1))) (by kernel_rfl)
theorem a217{x0 x1:Nat}:((100000:Nat)≤x1)→((x0:Nat)≤3)→(((x0+1) - 0):Nat)<x1:=chk [x0,x1] [] (.im (.l (.k 100000) (.v 1)) (.im (.l (.v 0) (.k 3)) (.t (.s (.p (.v 0) (.k 1)) (.k 0)) (.v 1)))) (by kernel_rfl)
theorem a233{x0 x1 x2 x3 x4:Nat}:((((x3:Nat)≤x0)∧((x0:Nat)≤(x3+x4))))→(((x3+(x1+x4)):Nat)≤x2)→((x0+x1):Nat)≤x2:=chk [x0,x1,x2,x3,x4] [] (.im (.an (.l (.v 3) (.v 0)) (.l (.v 0) (.p (.v 3) (.v 4)))) (.im (.l (.p (.v 3) (.p (.v 1) (.v 4))) (.v 2)) (.l (.p (.v 0) (.v 1)) (.v 2)))) (by kernel_rfl)
theorem a234{x0 x1 x2 x3 x4:Nat}:(((x3+(x1+x4)):Nat)≤x2)→((x0:Nat)≤(x3+x4))→((x0+x1):Nat)≤x2:=chk [x0,x1,x2,x3,x4] [] (.im (.l (.p (.v 3) (.p (.v 1) (.v 4))) (.v 2)) (.im (.l (.v 0) (.p (.v 3) (.v 4))) (.l (.p (.v 0) (.v 1)) (.v 2)))) (by kernel_rfl)
theorem a235{x0 x1 x2:Nat}:((((x2:Nat)≤x0)∧((x0:Nat)≤(x2+1))))→(((x2+24):Nat)≤x1)→(x0:Nat)<x1:=chk [x0,x1,x2] [] (.im (.an (.l (.v 2) (.v 0)) (.l (.v 0) (.p (.v 2) (.k 1)))) (.im (.l (.p (.v 2) (.k 24)) (.v 1)) (.t (.v 0) (.v 1)))) (by kernel_rfl)
theorem a236{x0 x1 x2 x3:Nat}:((((x2:Nat)≤x0)∧((x0:Nat)≤(x2+1))))→((((x3:Nat)≤x2)∧((x2:Nat)≤(x3+1))))→(((x3+24):Nat)≤x1)→((x0+21):Nat)≤x1:=chk [x0,x1,x2,x3] [] (.im (.an (.l (.v 2) (.v 0)) (.l (.v 0) (.p (.v 2) (.k 1)))) (.im (.an (.l (.v 3) (.v 2)) (.l (.v 2) (.p (.v 3) (.k 1)))) (.im (.l (.p (.v 3) (.k 24)) (.v 1)) (.l (.p (.v 0) (.k 21)) (.v 1))))) (by kernel_rfl)
theorem a267{x0 x1 x2:Nat}:((100000:Nat)≤x1)→(((x0+(2*(x2+1))):Nat)<1000)→((x0+1):Nat)<x1:=chk [x0,x1,x2] [] (.im (.l (.k 100000) (.v 1)) (.im (.t (.p (.v 0) (.m 2 (.p (.v 2) (.k 1)))) (.k 1000)) (.t (.p (.v 0) (.k 1)) (.v 1)))) (by kernel_rfl)
theorem a274{x0 x1 x2 x3:Nat}:((100000:Nat)≤x1)→((x0:Nat)≤x2)→((x2:Nat)≤((2*x3)+1))→((x3:Nat)≤2)→(x0:Nat)<x1:=chk [x0,x1,x2,x3] [] (.im (.l (.k 100000) (.v 1)) (.im (.l (.v 0) (.v 2)) (.im (.l (.v 2) (.p (.m 2 (.v 3)) (.k 1))) (.im (.l (.v 3) (.k 2)) (.t (.v 0) (.v 1)))))) (by kernel_rfl)
theorem a279{x0 x1 x2 x3 x4:Nat}:((x2:Nat)<x3)→((x3:Nat)=90000)→((x0:Nat)≤x2)→((x1:Nat)≤(x4+1))→((x4:Nat)≤3)→((x0+x1):Nat)<100000:=chk [x0,x1,x2,x3,x4] [] (.im (.t (.v 2) (.v 3)) (.im (.e (.v 3) (.k 90000)) (.im (.l (.v 0) (.v 2)) (.im (.l (.v 1) (.p (.v 4) (.k 1))) (.im (.l (.v 4) (.k 3)) (.t (.p (.v 0) (.v 1)) (.k 100000))))))) (by kernel_rfl)
theorem a280{x0 x1 x2 x3 x4 x5:Nat}:((x2:Nat)<x3)→((x3:Nat)=90000)→((x4:Nat)≤x2)→(((x0+(0+1)):Nat)≤x4)→((x1:Nat)≤(x5+1))→((x5:Nat)≤3)→((x0+x1):Nat)<100000:=chk [x0,x1,x2,x3,x4,x5] [] (.im (.t (.v 2) (.v 3)) (.im (.e (.v 3) (.k 90000)) (.im (.l (.v 4) (.v 2)) (.im (.l (.p (.v 0) (.p (.k 0) (.k 1))) (.v 4)) (.im (.l (.v 1) (.p (.v 5) (.k 1))) (.im (.l (.v 5) (.k 3)) (.t (.p (.v 0) (.v 1)) (.k 100000)))))))) (by kernel_rfl)
theorem a283{x0 x1 x2:Nat}:((x2:Nat)=90000)→((100000:Nat)≤x1)→((x0:Nat)<x2)→(((x0 - 1)+1):Nat)<x1:=chk [x0,x1,x2] [] (.im (.e (.v 2) (.k 90000)) (.im (.l (.k 100000) (.v 1)) (.im (.t (.v 0) (.v 2)) (.t (.p (.s (.v 0) (.k 1)) (.k 1)) (.v 1))))) (by kernel_rfl)
theorem a308{x0 x1 x2 x3 x4 x5:Nat}:((100000:Nat)≤x2)→(((x3+x4):Nat)<1000)→((x1:Nat)≤(x5+1))→((x5:Nat)≤3)→((x0:Nat)≤x3)→((x0+x1):Nat)≤x2:=chk [x0,x1,x2,x3,x4,x5] [] (.im (.l (.k 100000) (.v 2)) (.im (.t (.p (.v 3) (.v 4)) (.k 1000)) (.im (.l (.v 1) (.p (.v 5) (.k 1))) (.im (.l (.v 5) (.k 3)) (.im (.l (.v 0) (.v 3)) (.l (.p (.v 0) (.v 1)) (.v 2))))))) (by kernel_rfl)
theorem a309{x0 x1:Nat}:((100000:Nat)≤x1)→((x0:Nat)≤125)→(x0:Nat)<x1:=chk [x0,x1] [] (.im (.l (.k 100000) (.v 1)) (.im (.l (.v 0) (.k 125)) (.t (.v 0) (.v 1)))) (by kernel_rfl)
theorem a411{x0 x1:Nat}:(((x0+3):Nat)≤x1)→(x0:Nat)<x1:=chk [x0,x1] [] (.im (.l (.p (.v 0) (.k 3)) (.v 1)) (.t (.v 0) (.v 1))) (by kernel_rfl)
theorem a412{x0 x1 x2:Nat}:((((x2:Nat)≤x0)∧((x0:Nat)≤(x2+1))))→(((x2+3):Nat)≤x1)→(x0:Nat)<x1:=chk [x0,x1,x2] [] (.im (.an (.l (.v 2) (.v 0)) (.l (.v 0) (.p (.v 2) (.k 1)))) (.im (.l (.p (.v 2) (.k 3)) (.v 1)) (.t (.v 0) (.v 1)))) (by kernel_rfl)
theorem a413{x0 x1 x2 x3:Nat}:((((x2:Nat)≤x0)∧((x0:Nat)≤(x2+1))))→((((x3:Nat)≤x2)∧((x2:Nat)≤(x3+1))))→(((x3+3):Nat)≤x1)→(x0:Nat)<x1:=chk [x0,x1,x2,x3] [] (.im (.an (.l (.v 2) (.v 0)) (.l (.v 0) (.p (.v 2) (.k 1)))) (.im (.an (.l (.v 3) (.v 2)) (.l (.v 2) (.p (.v 3) (.k 1)))) (.im (.l (.p (.v 3) (.k 3)) (.v 1)) (.t (.v 0) (.v 1))))) (by kernel_rfl)
theorem a430{x0 x1 x2:Nat}:(((x0+(x2+1)):Nat)≤x1)→(x0:Nat)<x1:=chk [x0,x1,x2] [] (.im (.l (.p (.v 0) (.p (.v 2) (.k 1))) (.v 1)) (.t (.v 0) (.v 1))) (by kernel_rfl)
theorem a432{x0 x1 x2 x3:Nat}:((((x3:Nat)≤x0)∧((x0:Nat)≤(x3+1))))→(((x3+(x1+1)):Nat)≤x2)→((x0+x1):Nat)≤x2:=chk [x0,x1,x2,x3] [] (.im (.an (.l (.v 3) (.v 0)) (.l (.v 0) (.p (.v 3) (.k 1)))) (.im (.l (.p (.v 3) (.p (.v 1) (.k 1))) (.v 2)) (.l (.p (.v 0) (.v 1)) (.v 2)))) (by kernel_rfl)
theorem a445{x0 x1 x2:Nat}:((((x2:Nat)≤x0)∧((x0:Nat)≤(x2+24))))→((x1:Nat)=90000)→((x2:Nat)≤(10+(24*9)))→((x0+24):Nat)≤x1:=chk [x0,x1,x2] [] (.im (.an (.l (.v 2) (.v 0)) (.l (.v 0) (.p (.v 2) (.k 24)))) (.im (.e (.v 1) (.k 90000)) (.im (.l (.v 2) (.p (.k 10) (.m 24 (.k 9)))) (.l (.p (.v 0) (.k 24)) (.v 1))))) (by kernel_rfl)
theorem a446{x0 x1 x2:Nat}:((x1:Nat)=90000)→((x0:Nat)≤(x2+24))→((x2:Nat)≤(10+(24*9)))→((x0+24):Nat)≤x1:=chk [x0,x1,x2] [] (.im (.e (.v 1) (.k 90000)) (.im (.l (.v 0) (.p (.v 2) (.k 24))) (.im (.l (.v 2) (.p (.k 10) (.m 24 (.k 9)))) (.l (.p (.v 0) (.k 24)) (.v 1))))) (by kernel_rfl)
theorem a448{x0 x1 x2:Nat}:((((x2:Nat)≤x0)∧((x0:Nat)≤(x2+24))))→((x1:Nat)=90000)→((x2:Nat)≤(10+(24*(9+2))))→((x0+24):Nat)≤x1:=chk [x0,x1,x2] [] (.im (.an (.l (.v 2) (.v 0)) (.l (.v 0) (.p (.v 2) (.k 24)))) (.im (.e (.v 1) (.k 90000)) (.im (.l (.v 2) (.p (.k 10) (.m 24 (.p (.k 9) (.k 2))))) (.l (.p (.v 0) (.k 24)) (.v 1))))) (by kernel_rfl)
theorem a449{x0 x1 x2:Nat}:((x1:Nat)=90000)→((x0:Nat)≤(x2+24))→((x2:Nat)≤(10+(24*(9+2))))→((x0+24):Nat)≤x1:=chk [x0,x1,x2] [] (.im (.e (.v 1) (.k 90000)) (.im (.l (.v 0) (.p (.v 2) (.k 24))) (.im (.l (.v 2) (.p (.k 10) (.m 24 (.p (.k 9) (.k 2))))) (.l (.p (.v 0) (.k 24)) (.v 1))))) (by kernel_rfl)
theorem a450{x0 x1 x2 x3:Nat}:((((x2:Nat)≤x0)∧((x0:Nat)≤(x2+24))))→((((x3:Nat)≤x2)∧((x2:Nat)≤(x3+24))))→((x1:Nat)=90000)→((x3:Nat)≤(10+(24*(9+2))))→((x0+24):Nat)≤x1:=chk [x0,x1,x2,x3] [] (.im (.an (.l (.v 2) (.v 0)) (.l (.v 0) (.p (.v 2) (.k 24)))) (.im (.an (.l (.v 3) (.v 2)) (.l (.v 2) (.p (.v 3) (.k 24)))) (.im (.e (.v 1) (.k 90000)) (.im (.l (.v 3) (.p (.k 10) (.m 24 (.p (.k 9) (.k 2))))) (.l (.p (.v 0) (.k 24)) (.v 1)))))) (by kernel_rfl)
theorem a451{x0 x1 x2 x3:Nat}:((x1:Nat)=90000)→((x0:Nat)≤(x2+24))→((x2:Nat)≤(x3+24))→((x3:Nat)≤(10+(24*(9+2))))→((x0+24):Nat)≤x1:=chk [x0,x1,x2,x3] [] (.im (.e (.v 1) (.k 90000)) (.im (.l (.v 0) (.p (.v 2) (.k 24))) (.im (.l (.v 2) (.p (.v 3) (.k 24))) (.im (.l (.v 3) (.p (.k 10) (.m 24 (.p (.k 9) (.k 2))))) (.l (.p (.v 0) (.k 24)) (.v 1)))))) (by kernel_rfl)
theorem a455{x0 x1:Nat}:((100000:Nat)≤x1)→((x0:Nat)≤(3+9))→(x0:Nat)<x1:=chk [x0,x1] [] (.im (.l (.k 100000) (.v 1)) (.im (.l (.v 0) (.p (.k 3) (.k 9))) (.t (.v 0) (.v 1)))) (by kernel_rfl)
theorem a456{x0 x1:Nat}:((100000:Nat)≤x1)→((x0:Nat)≤(3+9))→((x0+1):Nat)<x1:=chk [x0,x1] [] (.im (.l (.k 100000) (.v 1)) (.im (.l (.v 0) (.p (.k 3) (.k 9))) (.t (.p (.v 0) (.k 1)) (.v 1)))) (by kernel_rfl)
theorem a457{x0 x1 x2:Nat}:((100000:Nat)≤x2)→((x0:Nat)≤(3+((9+2)+3)))→((x1:Nat)≤(3+((9+2)+3)))→((x0+x1):Nat)≤x2:=chk [x0,x1,x2] [] (.im (.l (.k 100000) (.v 2)) (.im (.l (.v 0) (.p (.k 3) (.p (.p (.k 9) (.k 2)) (.k 3)))) (.im (.l (.v 1) (.p (.k 3) (.p (.p (.k 9) (.k 2)) (.k 3)))) (.l (.p (.v 0) (.v 1)) (.v 2))))) (by kernel_rfl)
theorem a461{x0 x1:Nat}:((x1:Nat)=90000)→((x0:Nat)≤1)→(x0:Nat)<x1:=chk [x0,x1] [] (.im (.e (.v 1) (.k 90000)) (.im (.l (.v 0) (.k 1)) (.t (.v 0) (.v 1)))) (by kernel_rfl)
theorem a462{x0 x1 x2:Nat}:((((0:Nat)≤x2)∧((x2:Nat)≤(0+1))))→((((x2:Nat)≤x0)∧((x0:Nat)≤(x2+1))))→((x1:Nat)=90000)→((x0+3):Nat)≤x1:=chk [x0,x1,x2] [] (.im (.an (.l (.k 0) (.v 2)) (.l (.v 2) (.p (.k 0) (.k 1)))) (.im (.an (.l (.v 2) (.v 0)) (.l (.v 0) (.p (.v 2) (.k 1)))) (.im (.e (.v 1) (.k 90000)) (.l (.p (.v 0) (.k 3)) (.v 1))))) (by kernel_rfl)
theorem a463{x0 x1 x2 x3:Nat}:((((0:Nat)≤x2)∧((x2:Nat)≤(0+1))))→((((x2:Nat)≤x3)∧((x3:Nat)≤(x2+1))))→((((x3:Nat)≤x0)∧((x0:Nat)≤(x3+(((0+1)+1)+1)))))→((x1:Nat)=90000)→((x0+3):Nat)≤x1:=chk [x0,x1,x2,x3] [] (.im (.an (.l (.k 0) (.v 2)) (.l (.v 2) (.p (.k 0) (.k 1)))) (.im (.an (.l (.v 2) (.v 3)) (.l (.v 3) (.p (.v 2) (.k 1)))) (.im (.an (.l (.v 3) (.v 0)) (.l (.v 0) (.p (.v 3) (.p (.p (.p (.k 0) (.k 1)) (.k 1)) (.k 1))))) (.im (.e (.v 1) (.k 90000)) (.l (.p (.v 0) (.k 3)) (.v 1)))))) (by kernel_rfl)
theorem a490{x0 x1 x2 x3:Nat}:((x0:Nat)=x2)→(((x2+x3):Nat)≤x1)→(x0:Nat)≤x1:=chk [x0,x1,x2,x3] [] (.im (.e (.v 0) (.v 2)) (.im (.l (.p (.v 2) (.v 3)) (.v 1)) (.l (.v 0) (.v 1)))) (by kernel_rfl)
theorem a491{x0 x1 x2 x3 x4:Nat}:((x0:Nat)=x3)→((x1:Nat)=x4)→(((x3+x4):Nat)≤x2)→((x0+x1):Nat)≤(x2+1):=chk [x0,x1,x2,x3,x4] [] (.im (.e (.v 0) (.v 3)) (.im (.e (.v 1) (.v 4)) (.im (.l (.p (.v 3) (.v 4)) (.v 2)) (.l (.p (.v 0) (.v 1)) (.p (.v 2) (.k 1)))))) (by kernel_rfl)
theorem a506{x0 x1 x2:Nat}:((((x0+(3*(x2+1)))+20):Nat)<x1)→(x0:Nat)<x1:=chk [x0,x1,x2] [] (.im (.t (.p (.p (.v 0) (.m 3 (.p (.v 2) (.k 1)))) (.k 20)) (.v 1)) (.t (.v 0) (.v 1))) (by kernel_rfl)
theorem a507{x0 x1 x2:Nat}:((((x0+(3*(x1+1)))+20):Nat)<x2)→((((x0+1)+(3*x1))+20):Nat)<x2:=chk [x0,x1,x2] [] (.im (.t (.p (.p (.v 0) (.m 3 (.p (.v 1) (.k 1)))) (.k 20)) (.v 2)) (.t (.p (.p (.p (.v 0) (.k 1)) (.m 3 (.v 1))) (.k 20)) (.v 2))) (by kernel_rfl)
theorem a508{x0 x1 x2:Nat}:((((x0+(40*(x1+1)))+400):Nat)<x2)→((((x0+3)+(40*x1))+400):Nat)<x2:=chk [x0,x1,x2] [] (.im (.t (.p (.p (.v 0) (.m 40 (.p (.v 1) (.k 1)))) (.k 400)) (.v 2)) (.t (.p (.p (.p (.v 0) (.k 3)) (.m 40 (.v 1))) (.k 400)) (.v 2))) (by kernel_rfl)
theorem a513{x0 x1 x2:Nat}:((((x0+(40*x2))+400):Nat)<x1)→(x0:Nat)<x1:=chk [x0,x1,x2] [] (.im (.t (.p (.p (.v 0) (.m 40 (.v 2))) (.k 400)) (.v 1)) (.t (.v 0) (.v 1))) (by kernel_rfl)
theorem a527{x0 x1 x2 x3 x4:Nat}:((x2:Nat)≤60)→((((x0+(40*x4))+400):Nat)<x3)→(((x0+1)+(min x1 x2)):Nat)<x3:=chk [x0,x1,x2,x3,x4] [] (.im (.l (.v 2) (.k 60)) (.im (.t (.p (.p (.v 0) (.m 40 (.v 4))) (.k 400)) (.v 3)) (.t (.p (.p (.v 0) (.k 1)) (.mn (.v 1) (.v 2))) (.v 3)))) (by kernel_rfl)
theorem a534{x0 x1 x2 x3:Nat}:((x2:Nat)≤x3)→((min (x0 - x1) (x2 - x1)):Nat)≤x3:=chk [x0,x1,x2,x3] [] (.im (.l (.v 2) (.v 3)) (.l (.mn (.s (.v 0) (.v 1)) (.s (.v 2) (.v 1))) (.v 3))) (by kernel_rfl)
end Ar
end
section
end
section
open PySem.Calls PyProof.Rows
noncomputable abbrev IMap:=Addr→Option Obj
noncomputable abbrev P:=PyData
theorem ZC{α:Type}{P:List α→Prop}(h:P [])(ys:List α)(e:ys.length=0):P ys:=(List.length_eq_zero_iff.mp e)▸h
theorem Zl{α:Type}{n:Nat}{P:List α→Prop}(h:∀y:α,∀ys:List α,ys.length=n→P (y::ys))(ys:List α)(e:ys.length=n+1):P ys:=by
 cases ys with
 |nil=>cases e
 |cons a l=>exact h a l (Nat.succ.inj e)
mutual
inductive PIn(I:IMap):Value→P→Prop
 |none:PIn I .none .none
 |bool (b:Bool):PIn I (.bool b) (.bool b)
 |int (i:Int) (t:Tok):PIn I (.int i t) (.int i)
 |str (x:Str) (t:Tok):PyData.strOk x=true→PIn I (.str x t) (.str x)
 |tup {a:Addr} {o:Obj} {vs:Array Value} {n:Nat} {ps:List P}:I a=some o→o.cls=.type "tuple"→o.data=.seq vs n→ps.length≤sizeLine→PAll I vs.toList ps→PIn I (.ref a) (.tuple ps)
 |lst {a:Addr} {o:Obj} {vs:Array Value} {n:Nat} {ps:List P}:I a=some o→o.cls=.type "list"→o.data=.seq vs n→ps.length≤sizeLine→PAll I vs.toList ps→PIn I (.ref a) (.list ps)
inductive PAll(I:IMap):List Value→List P→Prop
 |nil:PAll I [] []
 |cons {v:Value} {vs:List Value} {p:P} {ps:List P}:PIn I v p→PAll I vs ps→PAll I (v::vs) (p::ps)
end
noncomputable def ILe(I I':IMap):Prop:=∀a o,I a=some o→I' a=some o
theorem ILe.refl(I:IMap):ILe I I:=fun _ _ e=>e
theorem ILe.trans{I J K:IMap}(x:ILe I J)(y:ILe J K):ILe I K:=fun a o e=>y a o (x a o e)
section
variable{I:IMap}
theorem PIn.ind{m1:Value→P→Prop}{m2:List Value→List P→Prop}(h1:m1 .none .none)(h2:∀b,m1 (.bool b) (.bool b))(h3:∀i t,m1 (.int i t) (.int i))(h4:∀x t,PyData.strOk x=true→m1 (.str x t) (.str x))
  (h5:∀{a o vs n ps},I a=some o→o.cls=.type "tuple"→o.data=.seq vs n→ps.length≤sizeLine→PAll I vs.toList ps→m2 vs.toList ps→m1 (.ref a) (.tuple ps)) (h6:∀{a o vs n ps},I a=some o→o.cls=.type "list"→o.data=.seq vs n→ps.length≤sizeLine→PAll I vs.toList ps→m2 vs.toList ps→m1 (.ref a) (.list ps))
  (h7:m2 [] []) (h8:∀{v vs p ps},PIn I v p→PAll I vs ps→m1 v p→m2 vs ps→m2 (v::vs) (p::ps)):(∀{v p},PIn I v p→m1 v p)∧∀{vs ps},PAll I vs ps→m2 vs ps:=
 ⟨PIn.rec (motive_1:=fun v p _=>m1 v p) (motive_2:=fun v p _=>m2 v p) h1 h2 h3 h4 h5 h6 h7 h8,PAll.rec (motive_1:=fun v p _=>m1 v p) (motive_2:=fun v p _=>m2 v p) h1 h2 h3 h4 h5 h6 h7 h8⟩
theorem PAll.ind{m2:List Value→List P→Prop}(h7:m2 [] [])(h8:∀{v vs p ps},PIn I v p→PAll I vs ps→m2 vs ps→m2 (v::vs) (p::ps)){vs:List Value}{ps:List P}(h:PAll I vs ps):m2 vs ps:=
 (PIn.ind (m1:=fun _ _=>True) trivial (fun _=>trivial) (fun _ _=>trivial) (fun _ _ _=>trivial) (fun _ _ _ _ _ _=>trivial) (fun _ _ _ _ _ _=>trivial) h7 fun a b _ d=>h8 a b d).2 h
theorem ZmD{J:IMap}(m:ILe I J):(∀{v p},PIn I v p→PIn J v p)∧∀{vs ps},PAll I vs ps→PAll J vs ps:=
 PIn.ind .none .bool .int .str (fun h1 h2 h3 h4 _ h=>.tup (m _ _ h1) h2 h3 h4 h) (fun h1 h2 h3 h4 _ h=>.lst (m _ _ h1) h2 h3 h4 h) .nil fun _ _ a b=>.cons a b
theorem PIn.mono{J:IMap}(m:ILe I J){v:Value}{p:P}(h:PIn I v p):PIn J v p:=(ZmD m).1 h
theorem PAll.mono{J:IMap}(m:ILe I J){vs:List Value}{ps:List P}(h:PAll I vs ps):PAll J vs ps:=(ZmD m).2 h
noncomputable def Keep(I:IMap)(h:Heap):Prop:=∀a o,I a=some o→h.get? a=some o
theorem Zkh{h:Heap}(k:Keep I h):(∀{v p},PIn I v p→∃as,Reads h v p as)∧∀{vs ps},PAll I vs ps→∃as,ReadsAll h vs ps as:=
 PIn.ind ⟨_,.none⟩ (fun b=>⟨_,.bool b⟩) (fun i t=>⟨_,.int i t⟩) (fun x t _=>⟨_,.str x t⟩) (fun h1 h2 h3 _ _ h=>h.elim fun as r=>⟨as,.tuple (k _ _ h1) h2 h3 r⟩) (fun h1 h2 h3 _ _ h=>h.elim fun _ r=>⟨_,.list (k _ _ h1) h2 h3 r⟩) ⟨_,.nil⟩ fun _ _ a b=>a.elim fun _ r=>b.elim fun _ q=>⟨_,.cons r q⟩
theorem PIn.reads{h:Heap}(k:Keep I h){v:Value}{p:P}(x:PIn I v p):∃as,Reads h v p as:=(Zkh k).1 x
theorem PAll.reads{h:Heap}(k:Keep I h){vs:List Value}{ps:List P}(x:PAll I vs ps):∃as,ReadsAll h vs ps as:=(Zkh k).2 x
theorem can2:(∀{v p},PIn I v p→p.canLay0=true)∧∀{vs ps},PAll I vs ps→PyData.canLayAll0 ps=true:=
 PIn.ind (m1:=fun _ p=>p.canLay0=true) (m2:=fun _ ps=>PyData.canLayAll0 ps=true) (by simp[PyData.canLay0]) (fun b=>by simp[PyData.canLay0]) (fun i t=>by simp[PyData.canLay0]) (fun x t h=>by simpa[PyData.canLay0]using h) (fun _ _ _ _ _ h=>by simpa[PyData.canLay0]using h) (fun _ _ _ _ _ h=>by simpa[PyData.canLay0]using h) (by simp[PyData.canLayAll0]) fun _ _ a b=>by simp[PyData.canLayAll0,a,b]
theorem PIn.can{v:Value}{p:P}(h:PIn I v p):p.canLay0=true:=can2.1 h
theorem PAll.can{vs:List Value}{ps:List P}(h:PAll I vs ps):PyData.canLayAll0 ps=true:=can2.2 h
theorem PAll.length{vs:List Value}{ps:List P}(h:PAll I vs ps):vs.length=ps.length:=h.ind (m2:=fun vs ps=>vs.length=ps.length) rfl fun _ _ e=>congrArg (·+1) e
theorem PAll.append{vs ws:List Value}{ps qs:List P}(h:PAll I vs ps)(k:PAll I ws qs):PAll I (vs++ws) (ps++qs):=h.ind (m2:=fun vs ps=>PAll I (vs++ws) (ps++qs)) k fun a _ e=>.cons a e
theorem PAll.get{vs:List Value}{ps:List P}(h:PAll I vs ps):∀{i:Nat} {p:P},ps[i]?=some p→∃v,vs[i]?=some v∧PIn I v p:=
 h.ind (m2:=fun vs ps=>∀{i:Nat} {p:P},ps[i]?=some p→∃v,vs[i]?=some v∧PIn I v p) (fun e=>nomatch e) fun{v _ _ _} a _ k i q e=>by
  cases i with
  |zero=>cases e;exact⟨v,rfl,a⟩
  |succ i=>exact k e
theorem PAll.drop{vs:List Value}{ps:List P}(h:PAll I vs ps):∀(k:Nat),PAll I (vs.drop k) (ps.drop k):=
 h.ind (m2:=fun vs ps=>∀k,PAll I (vs.drop k) (ps.drop k)) (fun k=>by rw[List.drop_nil,List.drop_nil];exact .nil) fun a b h k=>by
  cases k with
  |zero=>exact .cons a b
  |succ k=>exact h k
theorem PAll.take{vs:List Value}{ps:List P}(h:PAll I vs ps):∀(k:Nat),PAll I (vs.take k) (ps.take k):=
 h.ind (m2:=fun vs ps=>∀k,PAll I (vs.take k) (ps.take k)) (fun k=>by rw[List.take_nil,List.take_nil];exact .nil) fun a b h k=>by
  cases k with
  |zero=>exact .nil
  |succ k=>exact .cons a (h k)
theorem PAll.reverse{vs:List Value}{ps:List P}(h:PAll I vs ps):PAll I vs.reverse ps.reverse:=
 h.ind (m2:=fun vs ps=>PAll I vs.reverse ps.reverse) .nil fun a _ h=>by rw[List.reverse_cons,List.reverse_cons];exact h.append (.cons a .nil)
theorem PAll.set{vs:List Value}{ps:List P}(h:PAll I vs ps)(k:Nat){v:Value}{p:P}(q:PIn I v p):PAll I (vs.set k v) (ps.set k p):=
 h.ind (m2:=fun vs ps=>∀k,PAll I (vs.set k v) (ps.set k p)) (fun k=>.nil) (fun a b h k=>by
  cases k with
  |zero=>exact .cons q b
  |succ k=>exact .cons a (h k)) k
end
inductive V where
 |p (d:P)
 |ref (k:Nat)
 |dia (tops:P) (kn kb km:Nat)
inductive MObj where
 |lst (l:List P)
 |frz (l:List P)
 |tdct (l:List (P×P))
 |idct (l:List (Int×P))
noncomputable abbrev Hp:=List MObj
noncomputable abbrev Loc:=List (Option V)
inductive R(α:Type) where
 |ok (a:α)
 |exc (c:Addr) (why:Str)
end
section
open PySem.Calls PyProof.Rows
mutual
inductive KRel(h:Heap):Nat→Value→P→Prop
 |int (n:Nat) (i:Int) (t:Tok):KRel h n (.int i t) (.int i)
 |str (n:Nat) (x:Str) (t:Tok):PyData.strOk x=true→KRel h n (.str x t) (.str x)
 |tup {n:Nat} {a:Addr} {o:Obj} {vs:Array Value} {k:Nat} {ps:List P}:h.get? a=some o→o.cls=.type "tuple"→o.data=.seq vs k→KAll h n vs.toList ps→KRel h (n+1) (.ref a) (.tuple ps)
inductive KAll(h:Heap):Nat→List Value→List P→Prop
 |nil {n:Nat}:KAll h n [] []
 |cons {n:Nat} {v:Value} {vs:List Value} {p:P} {ps:List P}:KRel h n v p→KAll h n vs ps→KAll h n (v::vs) (p::ps)
end
noncomputable def isK0(p:P):Bool:=match p with
 | .int _=>true
 | .str _=>true
 |_=>false
noncomputable def isKS(r:P→Bool)(p:P):Bool:=match p with
 | .int _=>true
 | .str _=>true
 | .tuple ps=>ps.all r
 |_=>false
noncomputable def X3(n:Nat):P→Bool:=Nat.rec isK0 (fun _ r=>isKS r) n
noncomputable def Q2(n:Nat)(ps:List P):Bool:=ps.all (X3 n)
section
variable{h:Heap}
theorem KRel.ind{m1:Nat→Value→P→Prop}{m2:Nat→List Value→List P→Prop}(h1:∀n i t,m1 n (.int i t) (.int i))(h2:∀n x t,PyData.strOk x=true→m1 n (.str x t) (.str x))
  (h3:∀{n a o vs k ps},h.get? a=some o→o.cls=.type "tuple"→o.data=.seq vs k→KAll h n vs.toList ps→m2 n vs.toList ps→m1 (n+1) (.ref a) (.tuple ps)) (h7:∀{n},m2 n [] []) (h8:∀{n v vs p ps},KRel h n v p→KAll h n vs ps→m1 n v p→m2 n vs ps→m2 n (v::vs) (p::ps)):
  (∀{n v p},KRel h n v p→m1 n v p)∧∀{n vs ps},KAll h n vs ps→m2 n vs ps:=
 ⟨KRel.rec (motive_1:=fun n v p _=>m1 n v p) (motive_2:=fun n v p _=>m2 n v p) h1 h2 h3 h7 h8,KAll.rec (motive_1:=fun n v p _=>m1 n v p) (motive_2:=fun n v p _=>m2 n v p) h1 h2 h3 h7 h8⟩
theorem key2{I:IMap}(k:Keep I h):(∀{v p},PIn I v p→∀n,X3 n p=true→KRel h n v p)∧∀{vs ps},PAll I vs ps→∀n,Q2 n ps=true→KAll h n vs ps:=
 PIn.ind (m1:=fun v p=>∀n,X3 n p=true→KRel h n v p) (m2:=fun vs ps=>∀n,Q2 n ps=true→KAll h n vs ps) (fun n e=>by cases n<;>cases e) (fun b n e=>by cases n<;>cases e) (fun i t n _=>.int n i t) (fun x t hx n _=>.str n x t hx) (fun h1 h2 h3 _ _ ih n e=>by
  cases n with
  |zero=>cases e
  |succ n=>exact .tup (k _ _ h1) h2 h3 (ih n e)) (fun h1 h2 h3 _ _ ih n e=>by cases n<;>cases e) (fun _ _=>.nil) fun _ _ a b n e=>.cons (a n (Bool.and_eq_true_iff.mp e).1) (b n (Bool.and_eq_true_iff.mp e).2)
theorem PIn.key{I:IMap}(k:Keep I h){v:Value}{p:P}(n:Nat)(x:PIn I v p)(e:X3 n p=true):KRel h n v p:=(key2 k).1 x n e
theorem inj2:(∀{n v x},KRel h n v x→∀y,KRel h n v y→x=y)∧∀{n vs x},KAll h n vs x→∀y,KAll h n vs y→x=y:=
 KRel.ind (m1:=fun n v x=>∀y,KRel h n v y→x=y) (m2:=fun n vs x=>∀y,KAll h n vs y→x=y) (fun n i t y k=>by cases k;rfl) (fun n x t _ y k=>by cases k;rfl) (fun a1 a2 a3 a4 ih y k=>by
  cases k with
  |tup b1 b2 b3 b4=>
   rw[a1]at b1
   cases b1
   rw[a3]at b3
   cases b3
   rw[ih _ b4]) (fun y k=>by cases k;rfl) fun a b c d y k=>by
  cases k with
  |cons p q=>rw[c _ p,d _ q]
theorem KRel.inj{n:Nat}{v:Value}{x y:P}(a:KRel h n v x)(b:KRel h n v y):x=y:=inj2.1 a y b
theorem ZmM{h':Heap}(hk:∀a o vs k,h.get? a=some o→o.data=.seq vs k→h'.get? a=some o):(∀{n v x},KRel h n v x→KRel h' n v x)∧∀{n vs x},KAll h n vs x→KAll h' n vs x:=
 KRel.ind .int .str (fun a1 a2 a3 _ k=>.tup (hk _ _ _ _ a1 a3) a2 a3 k) .nil fun _ _ a b=>.cons a b
theorem KRel.keeps{h':Heap}(hk:∀a o vs k,h.get? a=some o→o.data=.seq vs k→h'.get? a=some o){n:Nat}{v:Value}{x:P}(a:KRel h n v x):KRel h' n v x:=(ZmM hk).1 a
theorem Zl2:(∀{n v p},KRel h n v p→∃as,Reads h v p as)∧∀{n vs ps},KAll h n vs ps→∃as,ReadsAll h vs ps as:=
 KRel.ind (fun _ i t=>⟨_,.int i t⟩) (fun _ x t _=>⟨_,.str x t⟩) (fun a1 a2 a3 _ k=>k.elim fun as r=>⟨as,.tuple a1 a2 a3 r⟩) ⟨_,.nil⟩ fun _ _ a b=>a.elim fun _ r=>b.elim fun _ q=>⟨_,.cons r q⟩
theorem KRel.reads{n:Nat}{v:Value}{p:P}(x:KRel h n v p):∃as,Reads h v p as:=Zl2.1 x
theorem Zoq:(∀{n v p},KRel h n v p→p.canLay0=true∧p.depth≤n∧X3 n p=true)∧∀{n vs ps},KAll h n vs ps→PyData.canLayAll0 ps=true∧PyData.depthAll ps≤n∧Q2 n ps=true:=
 KRel.ind (m1:=fun n _ p=>p.canLay0=true∧p.depth≤n∧X3 n p=true) (m2:=fun n _ ps=>PyData.canLayAll0 ps=true∧PyData.depthAll ps≤n∧Q2 n ps=true) (fun n i t=>⟨by simp[PyData.canLay0],by simp[PyData.depth],by cases n<;>rfl⟩) (fun n x t hx=>⟨by simp[PyData.canLay0,hx],by simp[PyData.depth],by cases n<;>rfl⟩) (fun a1 a2 a3 a4 k=>⟨by simpa[PyData.canLay0]using k.1,by simpa[PyData.depth]using k.2.1,k.2.2⟩) ⟨by simp[PyData.canLayAll0],by simp[PyData.depthAll],rfl⟩ fun _ _ a b=>
  ⟨by simp only[PyData.canLayAll0,a.1,b.1,Bool.and_self],by simp only[PyData.depthAll];exact Nat.max_le.mpr ⟨a.2.1,b.2.1⟩,Bool.and_eq_true_iff.mpr ⟨a.2.2,b.2.2⟩⟩
theorem KRel.can{n:Nat}{v:Value}{p:P}(x:KRel h n v p):p.canLay0=true∧p.depth≤n∧X3 n p=true:=Zoq.1 x
end
theorem Zgo{m:Nat}{xs:List P}:(∀x∈xs,∀y,X3 m y=true→(PyData.eqv x y=true↔x=y))→∀ys,Q2 m ys=true→(PyData.eqvAll xs ys=true↔xs=ys):=by
 induction xs with
 |nil=>exact fun _ ys _=>by cases ys<;>simp[PyData.eqvAll]
 |cons x xs ih=>
  intro h ys k
  cases ys with
  |nil=>simp[PyData.eqvAll]
  |cons y ys=>
   have k:=Bool.and_eq_true_iff.mp k
   simp only[PyData.eqvAll,Bool.and_eq_true,h x List.mem_cons_self y k.1,ih (fun z hz=>h z (List.mem_cons_of_mem _ hz)) ys k.2,List.cons.injEq]
theorem Zcw{n:Nat}:∀{m:Nat} {x y:P},X3 n x=true→X3 m y=true→(PyData.eqv x y=true↔x=y):=by
 induction n with
 |zero=>
  intro m x y a b
  cases x with
  |int i=>cases y<;>simp[PyData.eqv]<;>(cases m<;>cases b)
  |str i=>cases y<;>simp[PyData.eqv]
  |_=>cases a
 |succ n ih=>
  intro m x y a b
  cases x with
  |int i=>cases y<;>simp[PyData.eqv]<;>(cases m<;>cases b)
  |str i=>cases y<;>simp[PyData.eqv]
  |tuple xs=>
   cases y with
   |tuple ys=>
    cases m with
    |zero=>cases b
    |succ m=>simp only[PyData.eqv,PyData.tuple.injEq];exact Zgo (fun x hx y hy=>ih (List.all_eq_true.mp a x hx) hy) ys b
   |_=>simp[PyData.eqv]
  |_=>cases a
mutual
noncomputable def Zcp(w:World):P→Int
 | .int i=>hashInt i
 | .str x=>hashStr w x
 | .tuple ps=>reduceHash (Builtin.Tuple.tupleHashOf (hashPs w ps))
 |_=>0
noncomputable def hashPs(w:World):List P→List Int
 |[]=>[]
 |p::ps=>Zcp w p::hashPs w ps
end
mutual
noncomputable def WW:P→Nat
 | .int _=>1
 | .str _=>1
 | .tuple ps=>drawsPs ps+1
 |_=>0
noncomputable def drawsPs:List P→Nat
 |[]=>0
 |p::ps=>WW p+drawsPs ps
end
section
variable{prog:Program}{w:World}
theorem KRel.typeIs{s:Shared}{n:Nat}{a:Addr}{p:P}(x:KRel s.heap n (.ref a) p):s.TypeIs (.ref a) "tuple":=by
 cases x with
 |tup a1 a2 _ _=>exact⟨_,a1,a2⟩
theorem Zj6:∀(n:Nat) (p:P) (v:Value) (A:Around) (E:Value→Shared→Prop) (s:Shared) (Q:Int→Shared→Prop),A.units+4*n<cLine→KRel s.heap n v p→
  Q (Zcp w p) {s with toks:=s.toks+WW p}→wpAny (model prog w) A (pyHash v) Q E s:=by
 intro n
 induction n with
 |zero=>
  intro p v A E s Q hu hk h
  cases hk with
  |int n i t=>exact wpAny_pyHash_int (by simpa[Zcp,WW]using h)
  |str n x t hx=>exact wpAny_pyHash_str (by simpa[Zcp,WW]using h)
 |succ n ih=>
  intro p v A E s Q hu hk h
  have hk0:=hk
  cases hk with
  |int n i t=>exact wpAny_pyHash_int (by simpa[Zcp,WW]using h)
  |str n x t hx=>exact wpAny_pyHash_str (by simpa[Zcp,WW]using h)
  |@tup _ a o vs k ps ho hc hd hi=>
   have hT:=hk0.typeIs
   have hu0:A.units<cLine:=by exact Ar.a201 hu
   unfold pyHash
   first|unfold pyHashByItsType|skip
   first|refine wpAny_bind (wpAny_cRoomFor_or (.inr hu0) ?_)|skip
   refine wpAny_bind (wpAny_specialOf hT F.slot_tuple_hash.lookup ?_)
   show wpAny _ _ (if(some (Value.builtin "tuple.__hash__")==some Value.none)=true then _ else _) Q E s
   rw[if_neg (by rw[beq_builtin_none];exact Bool.false_ne_true)]
   refine wpAny_bind (wpAny_specialOf hT F.slot_tuple_hash.lookup ?_)
   show wpAny _ _ (callSpecialIfBoundUnlessNone? (.ref a) "__hash__" _>>=_) Q E s
   refine wpAny_bind (wpAny_callSpecialIfBoundUnlessNone?_slot hT F.slot_tuple_hash (wpAny_call_entry F.slot_tuple_hash hT F.entry_tuple_hash ?_ (F.args_tuple_hash_1 _)))
   show wpAny _ _ (Builtin.Tuple.tupleItemsOf (.ref a)>>=_) _ _ s
   refine wpAny_bind (wpAny_tupleItemsOf ho hd ?_)
   refine wpAny_bind ?_
   rw[← Array.forIn_toList]
   refine wpAny_forIn_list _
    (fun rest (b:Array Int) s'=>∃done left,ps=done++left∧KAll s.heap n rest left∧b.toList=hashPs w done∧s'={s with toks:=s.toks+drawsPs done})
    _ ?_ ?_ _ _ ⟨[],ps,rfl,hi,rfl,by simp[drawsPs]⟩
   ·rintro x rest b s' ⟨done,left,rfl,hl,hb,rfl⟩
    cases hl with
    |@cons _ _ _ p' ps' h1 hl'=>
     have hH:hashPs w (done++[p'])=hashPs w done++[Zcp w p']:=by
      clear hb hl' hk0 hi h;induction done with
      |nil=>rfl
      |cons d r ih=>simp[hashPs,ih]
     have hD:drawsPs (done++[p'])=drawsPs done+WW p':=by
      clear hb hl' hk0 hi h hH;induction done with
      |nil=>simp[drawsPs]
      |cons d r ih=>simp[drawsPs,ih,Nat.add_assoc]
     refine wpAny_bind (ih p' x _ _ _ _ (by simp only[Around.in1_units];exact Ar.a202 hu) h1 ?_)
     first
      |exact wpAny_pure ⟨done++[p'],ps',by simp,hl',by simp[hb,hH],by simp[hD,Nat.add_assoc]⟩
      |exact wpAny_bind (wpAny_pure (wpAny_pure ⟨done++[p'],ps',by simp,hl',by simp[hb,hH],by simp[hD,Nat.add_assoc]⟩))
   ·rintro b s' ⟨done,left,rfl,hl,hb,rfl⟩
    cases hl
    rw[List.append_nil]at h
    show wpAny _ _ (retInt (Builtin.Tuple.tupleHashOf b.toList)) _ _ _
    rw[hb]
    refine wpAny_ret_mkInt ?_
    show wpAny _ _ (if(decide (-(2:Int)^63≤Builtin.Tuple.tupleHashOf (hashPs w done))&&decide (Builtin.Tuple.tupleHashOf (hashPs w done)<2^63))=true then _ else _) Q E _
    simp only[Zcp,WW]at h
    unfold reduceHash at h
    by_cases hr:(decide (-(2:Int)^63≤Builtin.Tuple.tupleHashOf (hashPs w done))&&decide (Builtin.Tuple.tupleHashOf (hashPs w done)<2^63))=true
    ·rw[if_pos hr]
     rw[if_pos hr]at h
     exact wpAny_pure (by simpa[Nat.add_assoc]using h)
    ·rw[if_neg hr]
     rw[if_neg hr]at h
     exact wpAny_bind (wpAny_rule (wpAny_pure (by simpa[Nat.add_assoc]using h)))
theorem Zhl:∀(n:Nat) (m:Nat) (p:P) (v:Value) (A:Around) (E:Value→Shared→Prop) (s:Shared) (Q:Bool→Shared→Prop),n≤m→KRel s.heap n v p→
  Q true s→wpAny (model prog w) A (eqIsQuiet m v) Q E s:=by
 intro n
 induction n with
 |zero=>
  intro m p v A E s Q hm hk h
  cases hk with
  |int n i t=>rw[eqIsQuiet_byValue _ rfl];exact wpAny_pure h
  |str n x t hx=>rw[eqIsQuiet_byValue _ rfl];exact wpAny_pure h
 |succ n ih=>
  intro m p v A E s Q hm hk h
  have hk0:=hk
  cases hk with
  |int n i t=>rw[eqIsQuiet_byValue _ rfl];exact wpAny_pure h
  |str n x t hx=>rw[eqIsQuiet_byValue _ rfl];exact wpAny_pure h
  |@tup _ a o vs k ps ho hc hd hi=>
   have hT:=hk0.typeIs
   obtain⟨m,rfl⟩:∃m',m=m'+1:=⟨m - 1,by exact Ar.n2 (.im (.l (.p (.v 1) (.k 1)) (.v 0)) (.e (.v 0) (.p (.s (.v 0) (.k 1)) (.k 1)))) (by kernel_rfl) hm⟩
   unfold eqIsQuiet
   refine wpAny_bind (wpAny_specialOf hT F.slot_tuple_eq.lookup ?_)
   show wpAny _ _ (isInstance (.ref a) (.type "tuple")>>=_) _ _ s
   refine wpAny_bind (wpAny_isInstance hT isSubtype_tuple_tuple ?_)
   simp only[Bool.not_true,Bool.false_eq_true,if_false]
   refine wpAny_bind (wpAny_seqItems ho hd ?_)
   refine wpAny_bind ?_
   show wpAny _ _ (forIn vs _ _) _ _ s
   rw[← Array.forIn_toList]
   refine wpAny_forIn_list _ (fun rest r s'=>r.1=none∧s'=s∧∃left,KAll s.heap n rest left) _ ?_ ?_ _ _ ⟨rfl,rfl,ps,hi⟩
   ·rintro v rest r s' ⟨hr,rfl,left,hall⟩
    cases hall with
    |cons h1 h2=>
     refine wpAny_bind (ih m _ v _ _ _ _ (by exact Ar.n2 (.im (.l (.p (.v 0) (.k 1)) (.p (.v 1) (.k 1))) (.l (.v 0) (.v 1))) (by kernel_rfl) hm) h1 ?_)
     simp only[Bool.not_true,Bool.false_eq_true,if_false]
     exact wpAny_pure ⟨rfl,rfl,_,h2⟩
   ·rintro ⟨r1,r2⟩ s' ⟨hr,rfl,_⟩
    simp only at hr
    subst hr
    exact wpAny_pure h
end
open Classical in
noncomputable def pk(prog:Program)(w:World):HeapKind prog w P where
 is:=fun h k a=>KRel h 6 (.ref a) k
 hash:=Zcp w
 draws:=WW
 room:=fun A=>A.units+100<cLine
 inj:=fun hx hy=>hx.inj hy
 keeps:=fun{h h' k a d o es ep} x ho hd hs=>x.keeps fun b o' vs n hb hc=>by
  by_cases e:b=d
  ·subst e
   rw[ho]at hb;cases hb
   rw[hd]at hc;cases hc
  ·exact(hs.2 b e).trans hb
 pyHash:=fun hu hk h=>Zj6 6 _ _ _ _ _ _ (by exact Ar.a205 hu) hk h
 eqBool:=fun{A E s x y a b Q} hu hx hy h=>by
  obtain⟨as,ra⟩:=hx.reads
  obtain⟨bs,rb⟩:=hy.reads
  have ca:=hx.can
  have cb:=hy.can
  have e:PyData.eqv x y=decide (x=y):=by
   have:=Zcw ca.2.2 cb.2.2
   by_cases q:x=y
   ·rw[decide_eq_true q];exact this.mpr q
   ·rw[decide_eq_false q];exact Bool.eq_false_iff.mpr fun z=>q (this.mp z)
  refine SeqAt.eqBoolOverData _ _ _ _ _ _ _ _ _ _ _ _ ra rb ca.1 cb.1 ?_ (by rw[e];exact h)
  have:=Nat.min_le_left x.depth y.depth
  omega
 quiet:=fun hk h=>Zhl 6 8 _ _ _ _ _ _ (by exact Ar.n0 (.l (.k 6) (.k 8)) (by kernel_rfl)) hk h
end
section
open PySem.Calls PyProof.Rows
noncomputable def HM(α:Type):=Hp→Option (R α×Hp)
noncomputable def hp{α:Type}(a:α):HM α:=fun σ=>some (.ok a,σ)
noncomputable def hn{α:Type}:HM α:=fun _=>none
noncomputable def hb{α β:Type}(m:HM α)(f:α→HM β):HM β:=fun σ=>match m σ with
 |none=>none
 |some (.ok a,σ')=>f a σ'
 |some (.exc c w,σ')=>some (.exc c w,σ')
noncomputable def ho{α:Type}(o:Option α):HM α:=fun σ=>match o with
 |some a=>some (.ok a,σ)
 |none=>none
noncomputable abbrev Fn:=Loc→HM V
noncomputable abbrev Tn:=Loc→HM Bool
noncomputable abbrev CF:=Nat→List V→HM V
noncomputable def lim:Nat:=16000000
noncomputable def asP:V→HM P
 | .p d=>hp d
 | .ref k=>fun σ=>match σ[k]? with
  |some (.lst l)=>some (.ok (.list l),σ.set k (.frz l))
  |some (.frz l)=>some (.ok (.list l),σ)
  |_=>none
 | .dia ..=>hn
noncomputable def asPs:List V→HM (List P)
 |[]=>hp []
 |v::vs=>hb (asP v) fun p=>hb (asPs vs) fun ps=>hp (p::ps)
noncomputable def WB(σ:Hp):V→Option (List P)
 | .p (.list l)=>some l
 | .ref k=>match σ[k]? with
  |some (.lst l)=>some l
  |some (.frz l)=>some l
  |_=>none
 |_=>none
noncomputable def newL(l:List P):HM V:=fun σ=>if l.length≤lim then some (.ok (.ref σ.length),σ++[.lst l])else none
noncomputable def newT(l:List P):HM V:=if l.length≤lim then hp (.p (.tuple l))else hn
noncomputable def Qm{α:Type}(a:V)(fp:P→HM α)(fr:Nat→MObj→HM α):HM α:=fun σ=>match a with
 | .p d=>fp d σ
 | .ref j=>(match σ[j]? with
  |some o=>fr j o σ
  |none=>none)
 | .dia ..=>none
noncomputable def pV{α:Type}(a:V)(f:P→HM α):HM α:=Qm a f fun _ _=>hn
noncomputable def i1{α:Type}(f:Int→HM α)(v:V):HM α:=pV v fun d=>match d with
 | .int i=>f i
 |_=>hn
noncomputable def t1{α:Type}(f:List P→HM α)(v:V):HM α:=pV v fun d=>match d with
 | .tuple x=>f x
 |_=>hn
noncomputable def l1{α:Type}(f:List P→HM α)(v:V):HM α:=fun σ=>match WB σ v with
 |some l=>f l σ
 |none=>none
noncomputable def hif{α:Type}(c:Bool)(m:HM α):HM α:=fun σ=>if c then m σ else none
noncomputable def addL(a b:V):HM V:=l1 (fun x=>l1 (fun y=>newL (x++y)) b) a
noncomputable def addV(a b:V):HM V:=Qm a (fun d=>match d with
 | .int i=>i1 (fun j=>hp (.p (.int (i+j)))) b
 | .tuple x=>t1 (fun y=>newT (x++y)) b
 | .list _=>addL a b
 |_=>hn) fun j _=>addL (.ref j) b
noncomputable def ii{α:Type}(f:Int→Int→HM α)(a b:V):HM α:=i1 (fun i=>i1 (fun j=>f i j) b) a
noncomputable def subV:V→V→HM V:=ii fun a b=>hp (.p (.int (a - b)))
noncomputable def ZJ(a:Int):Bool:=decide (-1000000000≤a∧a≤1000000000)
noncomputable def one1{α:Type}(x:List P)(f:P→HM α):HM α:=match x with
 |[d]=>f d
 |_=>hn
noncomputable def mulV(a b:V):HM V:=i1 (fun n=>Qm a (fun d=>match d with
  | .int a=>hif (ZJ a&&ZJ n) (hp (.p (.int (a*n))))
  | .tuple x=>one1 x fun d=>hif (decide (2≤n∧n≤1000)) (newT (List.replicate n.toNat d))
  |_=>hn) fun _ o=>match o with
  | .lst x=>one1 x fun d=>hif (decide (0≤n∧n≤1000)) (newL (List.replicate n.toNat d))
  |_=>hn) b
noncomputable def divV:V→V→HM V:=ii fun a b=>hif (decide (b≠0)&&ZJ b) (hp (.p (.int (Int.fdiv a b))))
noncomputable def modV:V→V→HM V:=ii fun a b=>hif (decide (b≠0)) (hp (.p (.int (Int.fmod a b))))
noncomputable def ltV:V→V→HM Bool:=ii fun a b=>hp (decide (a<b))
noncomputable def leV:V→V→HM Bool:=ii fun a b=>hp (decide (a≤b))
noncomputable def gtV:V→V→HM Bool:=ii fun a b=>hp (decide (b<a))
noncomputable def eqV(a b:V):HM Bool:=hb (asP a) fun p=>hb (asP b) fun q=>hif (decide (min p.depth q.depth≤60)) (hp (PyData.eqv p q))
noncomputable def neV(a b:V):HM Bool:=hb (eqV a b) fun c=>hp (!c)
noncomputable def ZP(k:P):List (P×P)→Option P
 |[]=>none
 |x::r=>if PyData.eqv x.1 k then some x.2 else ZP k r
noncomputable def Qs(k:Int):List (Int×P)→Option P
 |[]=>none
 |x::r=>if x.1=k then some x.2 else Qs k r
noncomputable def putD(k v:P):List (P×P)→List (P×P)
 |[]=>[(k,v)]
 |x::r=>if PyData.eqv x.1 k then(x.1,v)::r else x::putD k v r
noncomputable def putI(k:Int)(v:P):List (Int×P)→List (Int×P)
 |[]=>[(k,v)]
 |x::r=>if x.1=k then(x.1,v)::r else x::putI k v r
noncomputable def ZK:P→Bool
 | .int _=>true
 | .str _=>true
 |_=>false
noncomputable def ZhH:P→Bool
 | .tuple ps=>ps.all ZK
 |p=>ZK p
noncomputable def Zb1:P→Bool
 | .tuple ps=>ps.all ZhH
 |p=>ZK p
noncomputable def Ym:P→Bool
 | .tuple ps=>ps.all Zb1
 |_=>false
noncomputable def inV(a b:V):HM Bool:=pV a fun k=>Qm b (fun _=>hn) fun _ o=>match o with
 | .tdct l=>hif (Ym k) (hp (ZP k l).isSome)
 | .idct l=>i1 (fun i=>hp (Qs i l).isSome) (.p k)
 | .lst l=>hif (decide (k.depth≤60)) (hp (l.any fun y=>PyData.eqv y k))
 |_=>hn
noncomputable def Xz(a b:V):HM Bool:=hb (inV a b) fun c=>hp (!c)
noncomputable def idx?(k:Int)(n:Nat):Option Nat:=
 if 0≤k then(if k.toNat<n then some k.toNat else none)else(if 0≤k+n then some (k+n).toNat else none)
noncomputable def Y9(l:List P)(b:V):HM V:=i1 (fun k=>fun σ=>match(idx? k l.length).bind fun j=>l[j]? with
 |some p=>some (.ok (.p p),σ)
 |none=>none) b
noncomputable def Zl5(l:List (P×P))(b:V):HM V:=pV b fun k=>hif (Ym k) fun σ=>match ZP k l with
 |some v=>some (.ok (.p v),σ)
 |none=>none
noncomputable def Zd(a b:V):HM V:=Qm a (fun d=>match d with
 | .tuple l=>Y9 l b
 | .list l=>Y9 l b
 |_=>hn) fun _ o=>match o with
 | .tdct l=>Zl5 l b
 | .lst l=>Y9 l b
 | .frz l=>Y9 l b
 |_=>hn
noncomputable def ZjY(a lo hi:V):HM V:=t1 (fun l=>ii (fun i j=>hif (decide (0≤i∧i≤j∧j≤l.length∧j - i<l.length)) (newT ((l.drop i.toNat).take (j - i).toNat))) lo hi) a
noncomputable def ZgO(a lo hi:V):HM V:=l1 (fun l=>ii (fun i j=>hif (decide (0≤i∧i≤j∧j≤l.length)) (newL ((l.drop i.toNat).take (j - i).toNat))) lo hi) a
noncomputable def ZhK(a:V):HM V:=l1 (fun l=>newL l.dropLast) a
noncomputable def put1(j:Nat)(o:MObj):HM Unit:=fun σ=>some (.ok (),σ.set j o)
noncomputable def Zms(a b:V)(p:P):HM Unit:=Qm a (fun _=>hn) fun j o=>match o with
 | .tdct l=>pV b fun k=>hif (Ym k&&decide (l.length<lim)) (put1 j (.tdct (putD k p l)))
 | .idct l=>i1 (fun i=>hif (decide (l.length<lim)) (put1 j (.idct (putI i p l)))) b
 | .lst l=>i1 (fun i=>fun σ=>match idx? i l.length with|some m=>some (.ok (),σ.set j (.lst (l.set m p)))|none=>none) b
 | .frz _=>hn
noncomputable def setV(a b v:V):HM Unit:=hb (asP v) fun p=>Zms a b p
noncomputable def lenV(a:V):HM V:=Qm a (fun d=>match d with
 | .tuple l=>hp (.p (.int l.length))
 | .list l=>hp (.p (.int l.length))
 |_=>hn) fun _ o=>match o with
 | .idct l=>hp (.p (.int l.length))
 | .lst l=>hp (.p (.int l.length))
 | .frz l=>hp (.p (.int l.length))
 |_=>hn
noncomputable def ZaZ:List P→Option (List Int)
 |[]=>some []
 | .int i::r=>(ZaZ r).map (i::·)
 |_=>none
noncomputable def minL:Int→List Int→Int
 |a,[]=>a
 |a,b::r=>minL (if b<a then b else a) r
noncomputable def minV(a:V):HM V:=l1 (fun l=>fun σ=>match ZaZ l with
 |some r=>(match r with
  |x::r=>some (.ok (.p (.int (minL x r))),σ)
  |[]=>none)
 |none=>none) a
noncomputable def ZaY:V→V→HM V:=ii fun a b=>hp (.p (.int (if b<a then b else a)))
noncomputable def ZmG:V→V→HM V:=ii fun a b=>hp (.p (.int (if b>a then b else a)))
noncomputable def YQ(a:V):HM V:=l1 newT a
noncomputable def two{α:Type}(l:List P)(f:P→P→Option α):Option α:=match l with
 |[]=>none
 |x::r=>(match r with
  |[]=>none
  |y::t=>(match t with
   |[]=>f x y
   |_::_=>none))
noncomputable def intP:P→Option Int
 | .int i=>some i
 |_=>none
noncomputable def Zhq:P→Option (Int×Int)
 | .tuple l=>two l fun x y=>(intP x).bind fun a=>(intP y).map fun b=>(a,b)
 |_=>none
noncomputable def Xa(a b c d:Int):Bool:=if a=c then decide (b<d)else decide (a<c)
noncomputable def Zas(x y:P):Option Bool:=(Zhq x).bind fun p=>(Zhq y).map fun q=>Xa p.1 p.2 q.1 q.2
noncomputable def ZdM(a:V):HM V:=l1 (fun l σ=>two l fun x y=>(Zas y x).bind fun b=>newL (if b then[y,x]else[x,y]) σ) a
noncomputable def lV{α:Type}(a:V)(f:Nat→List P→HM α):HM α:=Qm a (fun _=>hn) fun j o=>match o with
 | .lst l=>f j l
 |_=>hn
noncomputable def Wm(a v:V):HM Unit:=hb (asP v) fun p=>lV a fun j l=>hif (decide (l.length<lim)) (put1 j (.lst (l++[p])))
noncomputable def popV(a:V):HM V:=lV a fun j l=>fun σ=>match l.getLast? with
 |some p=>some (.ok (.p p),σ.set j (.lst l.dropLast))
 |none=>none
noncomputable def QT(a:V):HM Unit:=lV a fun j l=>put1 j (.lst l.reverse)
noncomputable def ZaB(a b:V):HM Unit:=lV a fun j l=>lV b fun i r=>hif (decide (i≠j)&&decide (l.length+r.length≤lim)) (put1 j (.lst (l++r)))
noncomputable def Zaf(a:V):HM Bool:=Qm a (fun d=>match d with
 | .bool b=>hp b
 |_=>hn) fun _ o=>match o with
 | .lst l=>hp (!l.isEmpty)
 |_=>hn
noncomputable def Znj(a:V)(i:Nat):HM V:=match a,i with
 | .dia T _ _ _,0=>hp (.p T)
 | .dia _ kn _ _,1=>hp (.ref kn)
 | .dia _ _ kb _,2=>hp (.ref kb)
 | .dia _ _ _ km,3=>hp (.ref km)
 |_,_=>hn
noncomputable def Zb(d:P):Fn:=fun _=>hp (.p d)
noncomputable def Za(i:Nat):Fn:=fun l=>match l[i]? with
 |some (some v)=>hp v
 |_=>hn
noncomputable def YV:List Fn→Loc→HM (List V)
 |[],_=>hp []
 |f::fs,l=>hb (f l) fun v=>hb (YV fs l) fun vs=>hp (v::vs)
noncomputable def Zm(fs:List Fn):Fn:=fun l=>hb (YV fs l) fun vs=>hb (asPs vs) fun ps=>newT ps
noncomputable def eLst(fs:List Fn):Fn:=fun l=>hb (YV fs l) fun vs=>hb (asPs vs) fun ps=>newL ps
noncomputable def eBin(op:V→V→HM V)(f g:Fn):Fn:=fun l=>hb (f l) fun a=>hb (g l) fun b=>op a b
noncomputable def eCmp(op:V→V→HM Bool)(f g:Fn):Fn:=fun l=>hb (f l) fun a=>hb (g l) fun b=>hb (op a b) fun c=>hp (.p (.bool c))
noncomputable def eAnd(f g:Fn):Fn:=fun l=>hb (f l) fun a=>match a with
 | .p (.bool false)=>hp (.p (.bool false))
 | .p (.bool true)=>g l
 |_=>hn
noncomputable def eIf(t:Tn)(f g:Fn):Fn:=fun l=>hb (t l) fun b=>if b then f l else g l
noncomputable def ZT(f:Fn)(i:Nat):Fn:=fun l=>hb (f l) fun a=>Znj a i
noncomputable def Zq(cf:CF)(id:Nat)(fs:List Fn):Fn:=fun l=>hb (YV fs l) fun vs=>cf id vs
noncomputable def eOp1(op:V→HM V)(f:Fn):Fn:=fun l=>hb (f l) op
noncomputable def ZbG(op:V→V→V→HM V)(f g h:Fn):Fn:=fun l=>hb (f l) fun a=>hb (g l) fun b=>hb (h l) fun c=>op a b c
noncomputable def tCmp(op:V→V→HM Bool)(f g:Fn):Tn:=fun l=>hb (f l) fun a=>hb (g l) fun b=>op a b
noncomputable def ZeN(op₁ op₂:V→V→HM Bool)(f g h:Fn):Tn:=fun l=>hb (f l) fun a=>hb (g l) fun b=>hb (op₁ a b) fun c=>if c then hb (h l) fun d=>op₂ b d else hp false
noncomputable def tAnd(f g:Tn):Tn:=fun l=>hb (f l) fun a=>if a then g l else hp false
noncomputable def tOr(f g:Tn):Tn:=fun l=>hb (f l) fun a=>if a then hp true else g l
noncomputable def tNot(f:Tn):Tn:=fun l=>hb (f l) fun a=>hp (!a)
noncomputable def tVal(f:Fn):Tn:=fun l=>hb (f l) Zaf
noncomputable abbrev In:=Loc→HM (List P)
noncomputable def seqP:P→HM (List P)
 | .tuple xs=>hp xs
 | .list xs=>hp xs
 |_=>hn
noncomputable def iSeq(f:Fn):In:=fun l=>hb (f l) fun v=>hb (asP v) seqP
noncomputable def Zae(a c:Int):Nat→List P
 |0=>[]
 |n+1=>.int a::Zae (a+c) c n
noncomputable def Q7(a b c:Int):HM (List P):=hif (decide (0<c)&&ZJ a&&ZJ b&&ZJ c&&decide (b - a≤1000000)) (hp (Zae a c (Builtin.Range.rangeSize a b c).toNat))
noncomputable def Z5(g:List V→HM (List P))(fs:List Fn):In:=fun l=>hb (YV fs l) g
noncomputable def v1{α:Type}(op:V→HM α):List V→HM α
 |[a]=>op a
 |_=>hn
noncomputable def v3{α:Type}(op:V→V→V→HM α):List V→HM α
 |[a,b,c]=>op a b c
 |_=>hn
noncomputable def Z2:List V→HM (List P)
 |[b]=>i1 (fun b=>Q7 0 b 1) b
 |vs=>v3 (fun a b c=>i1 (fun a=>ii (fun b c=>Q7 a b c) b c) a) vs
noncomputable def Zex:Int→List P→List P
 |_,[]=>[]
 |i,p::ps=>.tuple [.int i,p]::Zex (i+1) ps
noncomputable def Zo0:P→HM (List P)
 | .list xs=>hp (Zex 0 xs)
 |_=>hn
noncomputable def Zgh:List V→HM (List P):=v1 fun v=>hb (asP v) Zo0
noncomputable def ZbM:List P→List P→List P
 |x::xs,y::ys=>.tuple [x,y]::ZbM xs ys
 |_,_=>[]
noncomputable def ZbL:List P→List P→List P→List P
 |x::xs,y::ys,z::zs=>.tuple [x,y,z]::ZbL xs ys zs
 |_,_,_=>[]
noncomputable def gZip:List V→HM (List P)
 |[a,b]=>t1 (fun x=>t1 (fun y=>hif (decide (x.length=y.length)) (hp (ZbM x y))) b) a
 |vs=>v3 (fun a b c=>t1 (fun x=>t1 (fun y=>t1 (fun z=>hif (decide (x.length=y.length∧y.length=z.length)) (hp (ZbL x y z))) c) b) a) vs
inductive Tg where
 |one (i:Nat)
 |tup (is:List Nat)
noncomputable def Wy:List Nat→List P→Loc→Option Loc
 |[],[],l=>some l
 |i::is,p::ps,l=>Wy is ps (l.set i (some (.p p)))
 |_,_,_=>none
noncomputable def ZX(t:Tg)(p:P)(l:Loc):Option Loc:=match t with
 | .one i=>some (l.set i (some (.p p)))
 | .tup is=>match p with
  | .tuple ps=>Wy is ps l
  | .list ps=>Wy is ps l
  |_=>none
noncomputable def X7(t:Tg)(l:Loc):Loc:=match t with
 | .one i=>l.set i none
 | .tup is=>is.foldl (fun l i=>l.set i none) l
noncomputable def ne{α:Type}(m:HM α):HM α:=fun σ=>match m σ with
 |some (.ok a,σ')=>some (.ok a,σ')
 |_=>none
noncomputable def Y2(t:Tg)(c:Tn)(f:Fn)(l:Loc):List P→HM (List P)
 |[]=>hp []
 |p::ps=>match ZX t p l with
  |none=>hn
  |some l'=>hb (ne (c l')) fun b=>if b then hb (ne (hb (f l') asP)) fun q=>hb (Y2 t c f l' ps) fun qs=>hp (q::qs)else Y2 t c f l' ps
noncomputable def ZM:Tn:=fun _=>hp true
noncomputable def ZS(it:In)(t:Tg)(c:Tn)(f:Fn):Fn:=fun l=>hb (it l) fun ps=>hb (Y2 t c f (X7 t l) ps) fun qs=>newL qs
inductive Out where
 |next
 |ret (v:V)
noncomputable def SM:=Loc→Hp→Option (R Out×Loc×Hp)
noncomputable def Ze:SM:=fun l σ=>some (.ok .next,l,σ)
noncomputable def sSeq(a b:SM):SM:=fun l σ=>match a l σ with
 |some (.ok .next,l',σ')=>b l' σ'
 |r=>r
noncomputable def sLet{α:Type}(m:Loc→HM α)(k:α→SM):SM:=fun l σ=>match m l σ with
 |none=>none
 |some (.ok a,σ')=>k a l σ'
 |some (.exc c w,σ')=>some (.exc c w,l,σ')
noncomputable def Zj(i:Nat)(f:Fn):SM:=sLet f fun v=>fun l σ=>some (.ok .next,l.set i (some v),σ)
noncomputable def Zjd(t:Tg)(p:P):SM:=fun l σ=>(ZX t p l).map fun l'=>(.ok .next,l',σ)
noncomputable def Zy(is:List Nat)(f:Fn):SM:=sLet (fun l=>hb (f l) asP) fun p=>Zjd (.tup is) p
noncomputable def XU(o i v:Fn):SM:=sLet (fun l=>hb (v l) fun x=>hb (o l) fun a=>hb (i l) fun b=>setV a b x) fun _=>Ze
noncomputable def sIf(t:Tn)(a b:SM):SM:=sLet t fun c=>if c then a else b
noncomputable def sRet(f:Fn):SM:=sLet f fun v=>fun l σ=>some (.ok (.ret v),l,σ)
noncomputable def Z8{α:Type}(m:Loc→HM α):SM:=sLet m fun _=>Ze
noncomputable def Zbl(c:Addr)(w:Str):SM:=fun l σ=>some (.exc c w,l,σ)
noncomputable def Yj(t:Tg)(b:SM):List P→SM
 |[],l,σ=>some (.ok .next,l,σ)
 |p::ps,l,σ=>match ZX t p l with
  |none=>none
  |some l'=>match b l' σ with
   |some (.ok .next,l'',σ')=>Yj t b ps l'' σ'
   |some (.ok (.ret v),l'',σ')=>some (.ok (.ret v),l'',σ')
   |_=>none
noncomputable def sFor(it:In)(t:Tg)(b:SM):SM:=sLet it fun ps=>Yj t b ps
noncomputable def Z6(t:Tn)(b:SM):Nat→SM
 |0,_,_=>none
 |n+1,l,σ=>match t l σ with
  |none=>none
  |some (.exc c w,σ')=>some (.exc c w,l,σ')
  |some (.ok false,σ')=>some (.ok .next,l,σ')
  |some (.ok true,σ')=>match b l σ' with
   |some (.ok .next,l',σ'')=>Z6 t b n l' σ''
   |r=>r
noncomputable def Zal(t:Tn)(b:SM):SM:=Z6 t b lim
noncomputable def WM(n:Nat)(args:List V):Loc:=args.map some++List.replicate (n - args.length) none
noncomputable def Yb(base:Nat)(v:V)(σ:Hp):Option (V×Hp):=match v with
 | .p d=>some (.p d,σ.take base)
 | .ref k=>if k<base then none else match σ[k]? with
  |some o=>some (.ref base,σ.take base++[o])
  |none=>none
 | .dia ..=>none
structure Body where
 np:Nat
 nl:Nat
 run:CF→SM
noncomputable def Zcc(cf:CF)(b:Body)(args:List V):HM V:=fun σ=>if args.length=b.np then(match b.run cf (WM b.nl args) σ with
 |none=>none
 |some (.ok (.ret v),_,σ')=>(Yb σ.length v σ').map fun(v,σ)=>(.ok v,σ)
 |some (.ok .next,_,σ')=>some (.ok (.p .none),σ'.take σ.length)
 |some (.exc c w,_,σ')=>some (.exc c w,σ'.take σ.length))else none
@[irreducible] noncomputable def Zg (tab:Nat→Option Body):Nat→CF
 |0=>fun _ _=>hn
 |n+1=>fun id args=>match tab id with
  |some b=>Zcc (Zg tab n) b args
  |none=>hn
theorem ZlP{tb:Nat→Option Body}{id:Nat}{args:List V}:Zg tb 0 id args=hn:=by with_unfolding_all rfl
theorem Zc2{tb:Nat→Option Body}{n id:Nat}{args:List V}:Zg tb (n+1) id args=match tb id with
  |some b=>Zcc (Zg tb n) b args
  |none=>hn:=by with_unfolding_all rfl
end
section
open PySem.Calls PyProof.Rows
noncomputable section
noncomputable abbrev rl:OpenLaw:=PySem.Challenge.rw_pq1079_01
noncomputable def pw:Program:=rl.row.prog
noncomputable def adrL:List Addr:=[65,86,93,100,107,114,128,133,140,147,154,159,166,173,180,185,192,199,206,213,220,225,230,237,244,251,258,263,270,277,284,291,296,301,306,311,316,321,328,335,342,349,354]
noncomputable def adr(i:Nat):Addr:=adrL.getD i 0
noncomputable def nmL:List Str:=(["tidy","kept","leaf","make","node","level","parts_at","split","below","value_at","test","choose","both","either","negate","replace_leaf","size_of_diagram","first_unlike","parting","ways","_law_firsts","_law_cells","_law_slices","_law_level","_law_ways","_law_spans","_law_within","_law_tested","_law_refused_test","_law_refused_parts","_law_refused_value","_law_refused_ways","_law_both","_law_either","_law_negate","_law_choose","_law_by_hand","_law_step","_law_first_unlike","_law_shown","_law_compared","_law_read","law"]:List String).map Str.ofString
noncomputable def nm(i:Nat):Str:=nmL.getD i ""
noncomputable def stm(i:Nat):Option Stmt:=pw.main.body[i]?
noncomputable def ZlA(i j:Nat):Option Stmt:=match pw.main.body[i]? with
 |some (.ClassDef _ _ _ b _ _ _ _ _ _ _)=>b[j]?
 |_=>none
noncomputable def dfOf:Option Stmt→Arguments×List Stmt×Scope
 |some (.FunctionDef _ a b _ _ _ sc _ _ _)=>(a,b,sc)
 |_=>default
noncomputable def loc(i:Nat):Option Stmt:=if i=0 then stm 5 else if i<6 then ZlA 7 i else if i<20 then stm (i+2)else stm (i+3)
noncomputable def fnOf(d:Data):Option FuncData:=match d with
 | .func fd=>some fd
 |_=>none
noncomputable def clOf(d:Data):Option ClassData:=match d with
 | .cls cd=>some cd
 |_=>none
noncomputable def Zb2(K:Frag)(a:Addr):Option (FuncBody×Scope×List (Str×Addr)×Addr×Addr×Arguments×Value×Value×Bool):=(K.lookup a).bind fun o=>(fnOf o.data).map fun fd=>(fd.body,fd.scope,fd.closure,fd.globals,fd.builtins,fd.params,fd.defaults,fd.kwdefaults,codeIn K fd.code fd.qualname)
noncomputable def Zb3(s:Option Stmt):Option (FuncBody×Scope×List (Str×Addr)×Addr×Addr×Arguments×Value×Value×Bool):=some (.stmts (dfOf s).2.1,(dfOf s).2.2,[],mainGlobals,builtinsNs,(dfOf s).1,.none,.none,true)
noncomputable abbrev ExV:=Option (Value×List Value×Bool×Bool×Nat×Option (Option Value))
noncomputable def Zie(K:Frag)(a:Addr):ExV:=(K.lookup a).bind fun o=>(clOf o.data).map fun cd=>(o.cls,cd.mro,cd.hasDict,cd.hasDel,o.slots.size,o.slots[4]?)
noncomputable def idA:List Nat:=List.range 43
noncomputable def idB:List Nat:=idA.filter fun i=>i==0||Nat.ble 6 i
noncomputable def idC:List Nat:=[1,2,3,4,5]
noncomputable def idD:List Str:=["tops","nodes","book","memo"]
noncomputable def idE:List Str:=["len","min","max","sorted","tuple","range","enumerate","zip","Exception"]
noncomputable def idF:List (Str×Addr):=[("Misused",44),("LeftOut",56)]
noncomputable def Zif(K:Frag)(C:Addr):Bool:=findIn K (.ref C) "__getattribute__"==some (some (.builtin "BaseException.__getattribute__"))&&findIn K (.ref C) "__getattr__"==some none
noncomputable abbrev OO:=Option (Option Value)
noncomputable def flA(K:Frag)(i:Nat):=(Zb2 K (adr i),keepIn K (.ref (adr i)))
noncomputable def flB(K:Frag)(i:Nat):OO:=nsIn K mainGlobals (nm i)
noncomputable def flC(K:Frag)(i:Nat):OO×Bool×Bool:=(findIn K (.ref 117) (nm i),plainGet K 117 (nm i),isFn K (.ref (adr i)))
noncomputable def flD(K:Frag)(x:Str):Bool×OO×OO:=(plainGet K 117 x,findIn K (.ref 117) x,takerIn K 117 x)
noncomputable def flE(K:Frag)(x:Str):OO:=nsIn K mainGlobals x
noncomputable def flF(K:Frag)(x:Str×Addr):OO×Bool×ExV×OO×OO×OO×OO×Bool×Bool:=(nsIn K mainGlobals x.1,keepIn K (.ref x.2),Zie K x.2,findIn K (.ref x.2) "__init__",findIn K (.ref x.2) "__setattr__",findIn K (.ref x.2) "why",findIn K (.ref x.2) "at",Zif K x.2,hasDictIn K x.2)
noncomputable def flG(K:Frag):=(findCls K (.type "Exception") (.type "type") "__init__",typeIn K (.ref 28),Zb2 K 28,typeIn K (.ref 79),Zb2 K 79,hasDictIn K 117)
noncomputable def flH(K:Frag):OO×Bool×Bool×OO×OO×Bool×Bool×Bool:=(nsIn K mainGlobals "Diagrams",keepIn K (.ref 117),makesIn K 117,findIn K (.ref 117) "__init__",findIn K (.ref 117) "__setattr__",plainOver K 117,(clsIn K 117).any (·.hasDict),(K.lookup 117).isSome)
noncomputable def frA(i:Nat):=(Zb3 (loc i),true)
noncomputable def frB(i:Nat):OO:=some (some (.ref (adr i)))
noncomputable def frC(i:Nat):OO×Bool×Bool:=(some (some (.ref (adr i))),true,true)
noncomputable def frD(_:Str):Bool×OO×OO:=(true,some none,some none)
noncomputable def frE(_:Str):OO:=some none
noncomputable def frF(x:Str×Addr):OO×Bool×ExV×OO×OO×OO×OO×Bool×Bool:=(some (some (.ref x.2)),true,some (.type "type",[.ref x.2,.ref 31,.type "Exception",.type "BaseException",.type "object"],true,false,6,some (some (.builtin "Exception.__new__"))),some (some (.ref 28)),some (some (.builtin "object.__setattr__")),some none,some none,true,true)
noncomputable def frG:=(some (CFound.val (.builtin "Exception.__init__")),some (Value.type "function"),Zb3 (ZlA 1 0),some (Value.type "function"),Zb3 (ZlA 7 0),true)
noncomputable def frH:OO×Bool×Bool×OO×OO×Bool×Bool×Bool:=(some (some (.ref 117)),true,true,some (some (.ref 79)),some (some (.builtin "object.__setattr__")),true,true,true)
structure KF(K:Frag):Prop where
 a:idA.map (flA K)=idA.map frA
 b:idB.map (flB K)=idB.map frB
 c:idC.map (flC K)=idC.map frC
 d:idD.map (flD K)=idD.map frD
 e:idE.map (flE K)=idE.map frE
 f:idF.map (flF K)=idF.map frF
 g:flG K=frG
 h:flH K=frH
noncomputable def kfL(K:Frag):=(idA.map (flA K),idB.map (flB K),idC.map (flC K),idD.map (flD K),idE.map (flE K),idF.map (flF K),flG K,flH K)
noncomputable def kfR:=(idA.map frA,idB.map frB,idC.map frC,idD.map frD,idE.map frE,idF.map frF,frG,frH)
theorem Zop{K:Frag}(h:kfL K=kfR):KF K:=⟨congrArg (·.1) h,congrArg (·.2.1) h,congrArg (·.2.2.1) h,congrArg (·.2.2.2.1) h,congrArg (·.2.2.2.2.1) h,congrArg (·.2.2.2.2.2.1) h,congrArg (·.2.2.2.2.2.2.1) h,congrArg (·.2.2.2.2.2.2.2) h⟩
end
end
section
open PySem.Calls PyProof.Rows
set_option genInjectivity false
structure Zgy where
 prog:Program
 w:World
 h₀:Heap
 K:Frag
 mg:Str→Option Value
 mb:Str→Option Value
 dC:Addr
 os:OsState
 gens:Array GenState
 KX:K.In h₀
 G:h₀.Ns mainGlobals mg
 B:h₀.Ns builtinsNs mb
 lim:h₀.NoLimit
 boot:∀x:Str,x≠"__name__"→mb x=bootBuiltins x
 top:∃o,h₀.get? (h₀.objs.size - 1)=some o
 sys:sysModules<h₀.objs.size
noncomputable def dOb(es:List DictEntry):Obj:={cls:=.type "dict",data:=.dict es.toArray es.length}
noncomputable def dEs:List DictEntry:=(Manifest.builtinsNames.map fun y=>(Str.ofString y.1,bootValue y.2 y.1)).reverse.map fun p=>⟨0,.str p.1 default,p.2⟩
noncomputable def Zo6:Heap:={objs:=#[dOb dEs,dOb [],dOb [],dOb []]}
theorem dNs{h:Heap}{a:Addr}{es:List DictEntry}(e:h.get? a=some (dOb es))(k:∀e∈es,∃n t,e.key=.str n t):h.Ns a (nsFind es.toArray):=⟨_,_,_,e,rfl,fun e he=>k e (List.mem_toArray.mp he),fun _=>rfl⟩
theorem Zo7(x:Str)(l:List (Str×Value)):nsFind (l.map fun p=>(⟨0,.str p.1 default,p.2⟩:DictEntry)).toArray x=l.lookup x:=by
 unfold nsFind findBy
 rw[List.find?_toArray]
 induction l with
 |nil=>rfl
 |cons y l ih=>
  rw[List.map_cons,List.find?_cons,List.lookup]
  show Option.map _ (match y.1==x with|true=>_|false=>_)=_
  cases e:y.1==x with
  |true=>rw[beq_iff_eq.mp e,beq_self_eq_true];rfl
  |false=>
   rw[show(x==y.1)=false from beq_eq_false_iff_ne.mpr fun q=>by rw[q,beq_self_eq_true]at e;cases e]
   exact ih
theorem ZeX:Nonempty Zgy:=⟨⟨default,⟨fun _ _=>0,{strHash:=fun _=>0,shareClass:=fun _=>0,mergeTok:=id,idOf:=fun _=>0,idOfShared:=fun _ _=>0,followText:=fun _=>false,idOfImm:=fun _=>0}⟩,
 Zo6,[],nsFind (#[]:Array DictEntry),nsFind dEs.toArray,0,default,#[],(fun _ _ e=>nomatch e),dNs (es:=[]) (a:=mainGlobals) rfl (fun _ h=>nomatch h),dNs (a:=builtinsNs) rfl fun e he=>(by
  obtain⟨p,_,rfl⟩:=List.mem_map.mp he
  exact⟨_,_,rfl⟩),⟨_,dNs (es:=[]) (a:=cStatics) rfl (fun _ h=>nomatch h),rfl⟩,fun x _=>Zo7 x _,⟨_,rfl⟩,by decide⟩⟩
noncomputable def Good(S:Zgy):Prop:=KF S.K→S.dC=117→∀(s:Shared) (x:Addr) (o:Obj) (vs:Array Value) (n:Nat) (ns:List Int),s.heap.get? x=some o→o.cls=.type "list"→o.data=.seq vs n→IntsAre vs.toList ns→ns.length≤63→
 (∀a,S.h₀.get? a=s.heap.get? a)→s.os=S.os∧s.gens=S.gens→wpAny (model S.prog S.w) callerA (call (.ref 354) [.ref x]) (fun y s'=>y=.bool true∧(∀a o,S.h₀.get? a=some o→s'.heap.get? a=some o)∧s'.os=S.os∧s'.gens=S.gens) (fun _ _=>False) s
noncomputable def U:Zgy:=@Classical.epsilon Zgy ZeX fun S=>¬Good S
theorem Zj7(h:Good U)(S:Zgy):Good S:=Classical.byContradiction fun n=>@Classical.epsilon_spec_aux Zgy ZeX (fun S=>¬Good S) ⟨S,n⟩ h
noncomputable abbrev MM:Model:=model U.prog U.w
inductive DV(I:IMap):List (P×Addr×Value)→List (P×P)→Prop
 |nil:DV I [] []
 |cons {k:P} {a:Addr} {v:Value} {p:P} {xs ys}:PIn I (.ref a) k→X3 6 k=true→PIn I v p→DV I xs ys→DV I ((k,a,v)::xs) ((k,p)::ys)
inductive IV(I:IMap):List (Int×Value)→List (Int×P)→Prop
 |nil:IV I [] []
 |cons {k:Int} {v:Value} {p:P} {xs ys}:PIn I v p→IV I xs ys→IV I ((k,v)::xs) ((k,p)::ys)
open Classical in
inductive MRel(I:IMap)(h:Heap)(a:Addr):MObj→Prop
 |lst {l:List P} {vs:Array Value} {n:Nat}:I a=none→h.get? a=some (seqObj "list" vs n)→PAll I vs.toList l→l.length≤sizeLine→MRel I h a (.lst l)
 |frz {l:List P}:PIn I (.ref a) (.list l)→MRel I h a (.frz l)
 |tdct {l xs}:I a=none→(a==sysModules)=false→l.length≤sizeLine→h.DictOfH (pk U.prog U.w) a xs→DV I xs l→MRel I h a (.tdct l)
 |idct {l xs}:I a=none→(a==sysModules)=false→l.length≤sizeLine→h.DictOf (intKind U.prog U.w) a xs→IV I xs l→MRel I h a (.idct l)
structure ZaO(I:IMap)(γ:List Addr)(σ:Hp)(h:Heap):Prop where
 len:γ.length=σ.length
 nodup:γ.Nodup
 at_:∀{k:Nat} {a:Addr} {o:MObj},γ[k]?=some a→σ[k]?=some o→MRel I h a o
inductive Zno(I:IMap)(γ:List Addr)(T:P)(kn kb km:Nat)(x:Addr):Prop
 |mk (d:Addr) (es:List DictEntry) (n:Nat) (vt:Value) (an ab am:Addr):I x=some (instObj U.dC d)→I d=some (dictOf es n)→
   getL "tops" es=some (some vt)→getL "nodes" es=some (some (.ref an))→getL "book" es=some (some (.ref ab))→getL "memo" es=some (some (.ref am))→
   (∀x:Str,x≠"tops"→x≠"nodes"→x≠"book"→x≠"memo"→getL x es=some none)→
   PIn I vt T→γ[kn]?=some an→γ[kb]?=some ab→γ[km]?=some am→Zno I γ T kn kb km x
inductive VRel(I:IMap)(γ:List Addr):V→Value→Prop
 |p {d:P} {v:Value}:PIn I v d→VRel I γ (.p d) v
 |ref {k:Nat} {a:Addr}:γ[k]?=some a→VRel I γ (.ref k) (.ref a)
 |dia {T kn kb km x}:Zno I γ T kn kb km x→VRel I γ (.dia T kn kb km) (.ref x)
inductive Qd(I:IMap)(γ:List Addr):List V→List Value→Prop
 |nil:Qd I γ [] []
 |cons {v x vs xs}:VRel I γ v x→Qd I γ vs xs→Qd I γ (v::vs) (x::xs)
theorem Zaq{γ γ':List Addr}(p:γ<+:γ'){k:Nat}{a:Addr}(e:γ[k]?=some a):γ'[k]?=some a:=by
 obtain⟨t,rfl⟩:=p
 rw[List.getElem?_append_left (List.getElem?_eq_some_iff.mp e).1];exact e
theorem VRel.mono{I I':IMap}{γ γ':List Addr}(m:ILe I I')(p:γ<+:γ'){v:V}{x:Value}(h:VRel I γ v x):VRel I' γ' v x:=by
 cases h with
 |p h=>exact .p (h.mono m)
 |ref h=>exact .ref (Zaq p h)
 |dia h=>cases h with|mk d es n vt an ab am h1 h2 h3 h4 h5 h6 h7 h8 h9 h10 h11=>exact .dia (.mk d es n vt an ab am (m _ _ h1) (m _ _ h2) h3 h4 h5 h6 h7 (h8.mono m) (Zaq p h9) (Zaq p h10) (Zaq p h11))
theorem Qd.mono{I I':IMap}{γ γ':List Addr}(m:ILe I I')(p:γ<+:γ'){vs:List V}{xs:List Value}(h:Qd I γ vs xs):Qd I' γ' vs xs:=by
 induction h with
 |nil=>exact .nil
 |cons h _ t=>exact .cons (h.mono m p) t
noncomputable def fa(A:Around):List Addr:=(A.frames.getD []).filterMap (·.frame)
inductive FAt(I:IMap)(γ:List Addr)(h:Heap)(a:Addr):Prop
 |mk (o:Obj):h.get? a=some o→a∉γ→I a=none→(∀vs,o.data≠.fields vs)→FAt I γ h a
structure Base(A:Around)(I:IMap)(γ:List Addr)(σ:Hp)(s:Shared):Prop where
 keep:Keep I s.heap
 base:∀a o,U.h₀.get? a=some o→I a=some o
 bg:s.os=U.os∧s.gens=U.gens
 mem:ZaO I γ σ s.heap
 fr:∀a∈fa A,FAt I γ s.heap a
structure Wd(A:Around) where
 I:IMap
 γ:List Addr
 σ:Hp
 s:Shared
 b:Base A I γ σ s
inductive Ks(Fs:List Addr)(h:Heap)(a:Addr)(o:Obj):Prop
 |mk (sl:_):h.get? a=some {o with slots:=sl}→(a∉Fs→sl=o.slots)→Ks Fs h a o
theorem Ks.same{Fs:List Addr}{h:Heap}{a:Addr}{o:Obj}(e:h.get? a=some o):Ks Fs h a o:=⟨_,e,fun _=>rfl⟩
theorem Ks.ex{Fs:List Addr}{h:Heap}{a:Addr}{o:Obj}:Ks Fs h a o→∃sl,h.get? a=some {o with slots:=sl}
 |⟨sl,e,_⟩=>⟨sl,e⟩
theorem Ks.eq{Fs:List Addr}{h:Heap}{a:Addr}{o:Obj}(hf:a∉Fs):Ks Fs h a o→h.get? a=some o
 |⟨sl,e,c⟩=>by rw[e,c hf]
theorem Ks.trans{Fs:List Addr}{h h':Heap}{a:Addr}{o:Obj}(x:Ks Fs h a o)(y:∀o',h.get? a=some o'→Ks Fs h' a o'):Ks Fs h' a o:=by
 obtain⟨sl,e,c⟩:=x
 obtain⟨sl',e',c'⟩:=y _ e
 exact⟨sl',e',fun hf=>(c' hf).trans (c hf)⟩
variable{A:Around}
structure Kp(X:List Addr)(w w':Wd A)(a:Addr)(o:Obj):Prop where
 lv:∃o',w'.s.heap.get? a=some o'
 g:a∉w'.γ
 i:w'.I a=w.I a
 k:a∉X→Ks (fa A) w'.s.heap a o
structure St(X:List Addr)(w w':Wd A):Prop where
 mono:ILe w.I w'.I
 pre:w.γ<+:w'.γ
 old:∀a o,w.s.heap.get? a=some o→a∉w.γ→Kp X w w' a o
theorem St.refl(X:List Addr)(w:Wd A):St X w w:=⟨ILe.refl _,List.prefix_refl _,fun a o e hn=>⟨⟨_,e⟩,hn,rfl,fun _=>.same e⟩⟩
theorem St.trans{X:List Addr}{w w' w'':Wd A}(x:St X w w')(y:St X w' w''):St X w w'':=⟨x.mono.trans y.mono,x.pre.trans y.pre,fun a o e hn=>
 have p:=x.old a o e hn
 p.lv.elim fun o' e'=>have q:=y.old a o' e' p.g;⟨q.lv,q.g,q.i.trans p.i,fun hx=>(p.k hx).trans fun o₂ e₂=>(y.old a o₂ e₂ p.g).k hx⟩⟩
theorem St.weak{X Y:List Addr}{w w':Wd A}(x:St X w w')(hXY:∀a∈X,a∈Y):St Y w w':=⟨x.mono,x.pre,fun a o e hn=>have p:=x.old a o e hn;⟨p.lv,p.g,p.i,fun hx=>p.k fun h=>hx (hXY a h)⟩⟩
theorem St.wide{Y:List Addr}{w w':Wd A}(x:St [] w w'):St Y w w':=x.weak fun _ h=>nomatch h
theorem St.mix{X Y:List Addr}{w w' w'':Wd A}(x:St X w w')(y:St Y w' w'')(hY:∀b∈Y,b∈X∨w.s.heap.get? b=none):St X w w'':=⟨x.mono.trans y.mono,x.pre.trans y.pre,fun a o e hn=>
 have p:=x.old a o e hn
 p.lv.elim fun o' e'=>have q:=y.old a o' e' p.g;⟨q.lv,q.g,q.i.trans p.i,fun hx=>(p.k hx).trans fun o₂ e₂=>(y.old a o₂ e₂ p.g).k fun hy=>(hY a hy).elim hx fun z=>by rw[e]at z;cases z⟩⟩
theorem St.own{X Y:List Addr}{w w' w'':Wd A}(x:St X w w')(hY:∀b∈Y,w.s.heap.get? b=none)(y:St Y w' w''):St X w w'':=x.mix y fun b hb=>.inr (hY b hb)
theorem St.there{X:List Addr}{w w':Wd A}(st:St X w w'){γ:List Addr}(hp:w'.γ<+:γ){a:Addr}(hn:a∉γ)(h:w'.s.heap.get? a=none):w.s.heap.get? a=none:=by
 cases e:w.s.heap.get? a with
 |none=>rfl
 |some o=>
  obtain⟨o',e'⟩:=(st.old a o e fun hm=>hn (hp.subset (st.pre.subset hm))).lv
  rw[h]at e';cases e'
noncomputable def VR(w:Wd A)(v:V)(y:Value):Prop:=VRel w.I w.γ v y
noncomputable def VRs(w:Wd A)(vs:List V)(ys:List Value):Prop:=Qd w.I w.γ vs ys
theorem VR.p{w:Wd A}{d:P}{y:Value}(h:PIn w.I y d):VR w (.p d) y:=VRel.p h
theorem VR.ref{w:Wd A}{k:Nat}{a:Addr}(h:w.γ[k]?=some a):VR w (.ref k) (.ref a):=VRel.ref h
theorem VR.st{X:List Addr}{w w':Wd A}{v:V}{y:Value}(h:VR w v y)(st:St X w w'):VR w' v y:=VRel.mono st.mono st.pre h
theorem VRs.st{X:List Addr}{w w':Wd A}{vs:List V}{ys:List Value}(h:VRs w vs ys)(st:St X w w'):VRs w' vs ys:=Qd.mono st.mono st.pre h
theorem DV.mono{I I':IMap}(m:ILe I I'){xs:List (P×Addr×Value)}{l:List (P×P)}(h:DV I xs l):DV I' xs l:=by
 induction h with
 |nil=>exact .nil
 |cons a b c _ d=>exact .cons (a.mono m) b (c.mono m) d
theorem IV.mono{I I':IMap}(m:ILe I I'){xs:List (Int×Value)}{l:List (Int×P)}(h:IV I xs l):IV I' xs l:=by
 induction h with
 |nil=>exact .nil
 |cons a _ d=>exact .cons (a.mono m) d
theorem DV.keys{I:IMap}{xs:List (P×Addr×Value)}{l:List (P×P)}(h:DV I xs l):∀x∈xs,PIn I (.ref x.2.1) x.1∧X3 6 x.1=true:=by
 induction h with
 |nil=>exact fun _ h=>nomatch h
 |cons a b _ _ d=>exact fun x hx=>(List.mem_cons.mp hx).elim (fun q=>by rw[q];exact⟨a,b⟩) (d x)
theorem DV.len{I:IMap}{xs:List (P×Addr×Value)}{l:List (P×P)}(h:DV I xs l):xs.length=l.length:=by
 induction h with
 |nil=>rfl
 |cons _ _ _ _ d=>exact congrArg (·+1) d
theorem IV.len{I:IMap}{xs:List (Int×Value)}{l:List (Int×P)}(h:IV I xs l):xs.length=l.length:=by
 induction h with
 |nil=>rfl
 |cons _ _ d=>exact congrArg (·+1) d
open Classical in
theorem DictOfH.step{h h':Heap}{I':IMap}{a:Addr}{xs:List (P×Addr×Value)}{l:List (P×P)}(x:h.DictOfH (pk U.prog U.w) a xs)(keep':Keep I' h')(d:DV I' xs l)(hg:∀o,h.get? a=some o→h'.get? a=some o):h'.DictOfH (pk U.prog U.w) a xs:=by
 obtain⟨o,es,ep,k1,k2,k3,k4,k5,k6⟩:=x
 exact⟨o,es,ep,hg _ k1,k2,k3,k4,fun y hy=>(d.keys y hy).1.key keep' 6 (d.keys y hy).2,k6⟩
theorem DictOf.step{h h':Heap}{a:Addr}{xs:List (Int×Value)}(x:h.DictOf (intKind U.prog U.w) a xs)(hg:∀o,h.get? a=some o→h'.get? a=some o):h'.DictOf (intKind U.prog U.w) a xs:=by
 obtain⟨o,r⟩:=x
 obtain⟨es,ep,k1,r⟩:=r
 exact⟨o,es,ep,hg _ k1,r⟩
theorem MRel.step{I I':IMap}{h h':Heap}{a:Addr}(keep':Keep I' h')(m:ILe I I')(hi:I a=none→I' a=none)(hg:∀o,h.get? a=some o→h'.get? a=some o){o:MObj}(x:MRel I h a o):MRel I' h' a o:=by
 cases x with
 |lst h1 h2 h3 h4=>exact .lst (hi h1) (hg _ h2) (h3.mono m) h4
 |frz x=>exact .frz (x.mono m)
 |tdct h1 h2 h3 h4 h5=>exact .tdct (hi h1) h2 h3 (DictOfH.step h4 keep' (h5.mono m) hg) (h5.mono m)
 |idct h1 h2 h3 h4 h5=>exact .idct (hi h1) h2 h3 (DictOf.step h4 hg) (h5.mono m)
@[elab_as_elim] theorem PIn.lst_e {I:IMap} {x:Value} {l:List P} {G:Value→Prop} (h:PIn I x (.list l)) (k:∀{a o vs n},I a=some o→o.cls=.type "list"→o.data=.seq vs n→l.length≤sizeLine→PAll I vs.toList l→G (.ref a)):G x:=by
 cases h with|lst a b c d e=>exact k a b c d e
@[elab_as_elim] theorem PIn.tup_e {I:IMap} {x:Value} {l:List P} {G:Value→Prop} (h:PIn I x (.tuple l)) (k:∀{a o vs n},I a=some o→o.cls=.type "tuple"→o.data=.seq vs n→l.length≤sizeLine→PAll I vs.toList l→G (.ref a)):G x:=by
 cases h with|tup a b c d e=>exact k a b c d e
@[elab_as_elim] theorem PIn.tup_r {I:IMap} {x:Value} {l:List P} {G:Value→Prop} (h:PIn I x (.tuple l)) (k:∀a,PIn I (.ref a) (.tuple l)→G (.ref a)):G x:=h.tup_e fun a b c d e=>k _ (.tup a b c d e)
@[elab_as_elim] theorem PIn.int_e {I:IMap} {x:Value} {i:Int} {G:Value→Prop} (h:PIn I x (.int i)) (k:∀t,G (.int i t)):G x:=by
 cases h with|int i t=>exact k t
@[elab_as_elim] theorem PIn.bool_e {I:IMap} {x:Value} {i:Bool} {G:Value→Prop} (h:PIn I x (.bool i)) (k:G (.bool i)):G x:=by
 cases h with|bool i=>exact k
theorem MRel.there{I:IMap}{h:Heap}{a:Addr}(keep:Keep I h){o:MObj}(x:MRel I h a o):∃o,h.get? a=some o:=by
 cases x with
 |lst _ h2 _ _=>exact⟨_,h2⟩
 |frz x=>cases x with|lst a1 _ _ _ _=>exact⟨_,keep _ _ a1⟩
 |tdct _ _ _ h4 _=>exact h4.elim fun o h=>h.elim fun _ h=>h.elim fun _ h=>⟨_,h.1⟩
 |idct _ _ _ h4 _=>exact h4.elim fun o h=>h.elim fun _ h=>h.elim fun _ h=>⟨_,h.1⟩
theorem ZaO.there{I:IMap}{γ:List Addr}{σ:Hp}{h:Heap}(x:ZaO I γ σ h)(keep:Keep I h){a:Addr}(ha:a∈γ):∃o,h.get? a=some o:=by
 obtain⟨k,hk⟩:=List.mem_iff_getElem?.mp ha
 have hlt:k<σ.length:=x.len▸(List.getElem?_eq_some_iff.mp hk).1
 exact(x.at_ hk (List.getElem?_eq_getElem hlt)).there keep
theorem ZaO.step{I I':IMap}{γ:List Addr}{σ:Hp}{h h':Heap}(x:ZaO I γ σ h)(keep':Keep I' h')(m:ILe I I')(hi:∀a∈γ,I a=none→I' a=none)(hg:∀a∈γ,∀o,h.get? a=some o→h'.get? a=some o):ZaO I' γ σ h':=
 ⟨x.len,x.nodup,fun h1 h2=>have hm:=List.mem_iff_getElem?.mpr ⟨_,h1⟩;(x.at_ h1 h2).step keep' m (hi _ hm) (hg _ hm)⟩
structure Off(w:Wd A)(a:Addr):Prop where
 g:a∉w.γ
 i:w.I a=none
 f:a∉fa A
theorem Wd.off(w:Wd A){a:Addr}(h:w.s.heap.get? a=none):Off w a:=by
 refine⟨fun hm=>?_,?_,fun hm=>?_⟩
 ·obtain⟨o,e⟩:=w.b.mem.there w.b.keep hm
  rw[h]at e;cases e
 ·cases e:w.I a with
  |none=>rfl
  |some o=>have:=w.b.keep _ _ e;rw[h]at this;cases this
 ·obtain⟨o,e,_⟩:=w.b.fr a hm
  rw[h]at e;cases e
theorem Wd.new(w:Wd A):w.s.heap.get? w.s.heap.objs.size=none:=Heap.get?_none_of_le (Nat.le_refl _)
theorem Wd.K(w:Wd A):∀a o,U.h₀.get? a=some o→w.s.heap.get? a=some o:=fun a o e=>w.b.keep a o (w.b.base a o e)
structure Chg(w:Wd A)(Z:List Addr)(h':Heap):Prop where
 off:∀z∈Z,z∉w.γ∧w.I z=none
 fr:∀z∈Z,z∈fa A→∃o,h'.get? z=some o∧∀vs,o.data≠.fields vs
 out:∀a o,w.s.heap.get? a=some o→a∉Z→Ks (fa A) h' a o
 lv:∀a o,a∈Z→w.s.heap.get? a=some o→∃o',h'.get? a=some o'
structure Chg0(w:Wd A)(Z:List Addr)(h':Heap):Prop where
 off:∀z∈Z,z∉w.γ∧w.I z=none
 fr:∀z∈Z,z∈fa A→∃o,h'.get? z=some o∧∀vs,o.data≠.fields vs
 out:∀a o,w.s.heap.get? a=some o→a∉Z→Ks (fa A) h' a o
theorem Chg0.base{w:Wd A}{Z:List Addr}{h':Heap}(c:Chg0 w Z h')(t:Nat):Base A w.I w.γ w.σ {w.s with heap:=h',toks:=t}:=
 have ex:∀a o,w.s.heap.get? a=some o→a∉Z→a∉fa A→h'.get? a=some o:=fun a o e hz hf=>(c.out a o e hz).eq hf
 have keep':Keep w.I h':=fun a o e=>ex a o (w.b.keep _ _ e) (fun hz=>by have:=(c.off a hz).2;rw[e]at this;cases this) fun hf=>by
  obtain⟨_,_,_,q,_⟩:=w.b.fr a hf;rw[e]at q;cases q
 ⟨keep',w.b.base,w.b.bg,w.b.mem.step keep' (ILe.refl _) (fun _ _ h=>h) fun a hm o e=>ex a o e (fun hz=>(c.off a hz).1 hm) fun hf=>by
  obtain⟨_,_,q,_⟩:=w.b.fr a hf;exact q hm,fun a hf=>by
  obtain⟨o,e,g,i,d⟩:=w.b.fr a hf
  by_cases hz:a∈Z
  ·obtain⟨o',e',d'⟩:=c.fr a hz hf;exact⟨o',e',g,i,d'⟩
  ·obtain⟨sl,e',_⟩:=c.out a o e hz;exact⟨_,e',g,i,d⟩⟩
theorem Chg.base{w:Wd A}{Z:List Addr}{h':Heap}(c:Chg w Z h')(t:Nat):Base A w.I w.γ w.σ {w.s with heap:=h',toks:=t}:=Chg0.base ⟨c.off,c.fr,c.out⟩ t
noncomputable def Wd.chg(w:Wd A){Z:List Addr}(h':Heap)(t:Nat)(c:Chg w Z h'):Wd A:=⟨w.I,w.γ,w.σ,{w.s with heap:=h',toks:=t},c.base t⟩
theorem Chg.st{w:Wd A}{Z:List Addr}{h':Heap}(c:Chg w Z h')(t:Nat):St Z w (w.chg h' t c):=⟨ILe.refl _,List.prefix_refl _,fun a o e hn=>
 ⟨(Classical.em (a∈Z)).elim (fun hz=>c.lv a o hz e) fun hz=>(c.out a o e hz).ex.elim fun sl q=>⟨_,q⟩,hn,rfl,fun hz=>c.out a o e hz⟩⟩
theorem Chg.grow(w:Wd A){h':Heap}(k:∀a o,w.s.heap.get? a=some o→h'.get? a=some o):Chg w [] h':=⟨(fun _ h=>nomatch h),(fun _ h=>nomatch h),fun a o e _=>.same (k a o e),fun _ _ h=>nomatch h⟩
theorem Chg.refl(w:Wd A):Chg w [] w.s.heap:=.grow w fun _ _ e=>e
theorem Chg.push(w:Wd A)(o:Obj):Chg w [] (w.s.heap.push o):=.grow w fun _ _ e=>Heap.get?_push_of_some _ e
theorem Chg.priv{w:Wd A}{Z:List Addr}{h':Heap}(off:∀z∈Z,Off w z)(out:∀a o,a∉Z→w.s.heap.get? a=some o→h'.get? a=some o)(lv:∀a∈Z,∃o',h'.get? a=some o'):Chg w Z h':=
 ⟨fun z hz=>⟨(off z hz).g,(off z hz).i⟩,fun z hz hf=>absurd hf (off z hz).f,fun a o e hz=>.same (out a o hz e),fun a o hz _=>lv a hz⟩
structure Gone(fp:List Addr)(w w':Wd A):Prop where
 I:w'.I=w.I
 γ:w'.γ=w.γ
 out:∀a o,w.s.heap.get? a=some o→a∉fp→w'.s.heap.get? a=some o
noncomputable def Wd.end(w:Wd A){fp:List Addr}(h':Heap)(t:Nat)(c:Chg0 w fp h'):Wd A:=⟨w.I,w.γ,w.σ,{w.s with heap:=h',toks:=t},c.base t⟩
theorem Chg0.priv{w:Wd A}{Z:List Addr}{h':Heap}(off:∀z∈Z,Off w z)(out:∀a o,w.s.heap.get? a=some o→a∉Z→h'.get? a=some o):Chg0 w Z h':=
 ⟨fun z hz=>⟨(off z hz).g,(off z hz).i⟩,fun z hz hf=>absurd hf (off z hz).f,fun a o e hz=>.same (out a o e hz)⟩
theorem St.gone{X fp:List Addr}{w₀ w w':Wd A}(st:St X w₀ w)(fr:∀b∈fp,w₀.s.heap.get? b=none)(g:Gone fp w w'):St X w₀ w':=⟨g.I▸st.mono,g.γ▸st.pre,fun a o e hn=>
 have p:=st.old a o e hn
 have q:∀o,w.s.heap.get? a=some o→w'.s.heap.get? a=some o:=fun o h=>g.out a o h fun hm=>by have:=fr a hm;rw[e]at this;cases this
 ⟨p.lv.elim fun o' h=>⟨o',q o' h⟩,g.γ▸p.g,g.I▸p.i,fun hx=>(p.k hx).trans fun o' h=>.same (q o' h)⟩⟩
noncomputable def IMap.put(I:IMap)(a:Addr)(o:Obj):IMap:=fun b=>if b=a then some o else I b
theorem IMap.put_self(I:IMap)(a:Addr)(o:Obj):I.put a o a=some o:=if_pos rfl
theorem IMap.put_ne(I:IMap){a b:Addr}(o:Obj)(h:b≠a):I.put a o b=I b:=if_neg h
theorem ILe.put{I:IMap}{a:Addr}{o:Obj}(h:I a=none):ILe I (I.put a o):=fun b x e=>by
 rw[IMap.put_ne];exact e
 rintro rfl;rw[h]at e;cases e
theorem Keep.put{I:IMap}{a:Addr}{o:Obj}{h:Heap}(k:Keep I h)(ho:h.get? a=some o):Keep (I.put a o) h:=fun b x e=>by
 by_cases q:b=a
 ·rw[q,IMap.put_self]at e;rw[q,ho,e]
 ·rw[IMap.put_ne _ _ q]at e;exact k _ _ e
theorem Ze5(w:Wd A){D:Addr}{o:Obj}(ho:w.s.heap.get? D=some o)(x:Off w D):Base A (w.I.put D o) w.γ w.σ w.s:=
 have m:=ILe.put (o:=o) x.i
 ⟨w.b.keep.put ho,fun a x e=>m _ _ (w.b.base a x e),w.b.bg,w.b.mem.step (w.b.keep.put ho) m (fun a hm hn=>(IMap.put_ne _ _ fun e=>x.g (by rw[← e];exact hm)).trans hn) fun _ _ _ e=>e,fun a hf=>by
  obtain⟨o',e,g,i,d⟩:=w.b.fr a hf
  exact⟨o',e,g,(IMap.put_ne _ _ fun q=>x.f (by rw[← q];exact hf)).trans i,d⟩⟩
noncomputable def Wd.adoptI(w:Wd A)(D:Addr)(o:Obj)(ho:w.s.heap.get? D=some o)(x:Off w D):Wd A:=⟨w.I.put D o,w.γ,w.σ,w.s,Ze5 w ho x⟩
theorem St.adoptI{X:List Addr}{w₀ w:Wd A}(st:St X w₀ w){D:Addr}{o:Obj}(ho:w.s.heap.get? D=some o)(x:Off w D)(hn:w₀.s.heap.get? D=none):St X w₀ (w.adoptI D o ho x):=
 ⟨st.mono.trans (ILe.put x.i),st.pre,fun a o' e hg=>have p:=st.old a o' e hg;⟨p.lv,p.g,(IMap.put_ne _ _ fun q=>by rw[q,hn]at e;cases e).trans p.i,p.k⟩⟩
theorem Off.gf{w:Wd A}{a:Addr}(x:Off w a):a∉w.γ∧a∉fa A:=⟨x.g,x.f⟩
theorem Ze6(w:Wd A){D:Addr}{m:MObj}(hm:MRel w.I w.s.heap D m)(x:D∉w.γ∧D∉fa A):Base A w.I (w.γ++[D]) (w.σ++[m]) w.s:=by
 refine⟨w.b.keep,w.b.base,w.b.bg,⟨by simp[w.b.mem.len],?_,fun{k a o'} h1 h2=>?_⟩,fun a hf=>?_⟩
 ·rw[List.nodup_append]
  exact⟨w.b.mem.nodup,by simp,fun a ha c hc e=>x.1 (by rw[List.mem_singleton]at hc;subst hc;exact e▸ha)⟩
 ·by_cases hlt:k<w.γ.length
  ·rw[List.getElem?_append_left hlt]at h1
   rw[List.getElem?_append_left (by rw[← w.b.mem.len];exact hlt)]at h2
   exact w.b.mem.at_ h1 h2
  ·have hk':k=w.γ.length:=by
    have:=(List.getElem?_eq_some_iff.mp h1).1
    simp at this;exact Ar.a188 hlt this
   subst hk'
   simp at h1
   rw[w.b.mem.len]at h2
   simp at h2
   subst h1;subst h2;exact hm
 ·obtain⟨o',e,g,i,d⟩:=w.b.fr a hf
  exact⟨o',e,fun hm=>(List.mem_append.mp hm).elim g fun q=>x.2 (List.mem_singleton.mp q▸hf),i,d⟩
noncomputable def Wd.adoptG(w:Wd A)(D:Addr)(m:MObj)(hm:MRel w.I w.s.heap D m)(x:D∉w.γ∧D∉fa A):Wd A:=⟨w.I,w.γ++[D],w.σ++[m],w.s,Ze6 w hm x⟩
theorem St.adoptG{X:List Addr}{w₀ w:Wd A}(st:St X w₀ w){D:Addr}{m:MObj}(hm:MRel w.I w.s.heap D m)(x:D∉w.γ∧D∉fa A)(hn:w₀.s.heap.get? D=none):St X w₀ (w.adoptG D m hm x):=
 ⟨st.mono,st.pre.trans (List.prefix_append _ _),fun a o' e hg=>have p:=st.old a o' e hg;⟨p.lv,fun hm=>(List.mem_append.mp hm).elim p.g fun q=>(by rw[List.mem_singleton.mp q,hn]at e;cases e),p.i,p.k⟩⟩
theorem Wd.last(w:Wd A){D:Addr}{m:MObj}(hm:MRel w.I w.s.heap D m)(x:D∉w.γ∧D∉fa A):VR (w.adoptG D m hm x) (.ref w.σ.length) (.ref D):=.ref (by
 show(w.γ++[D])[w.σ.length]?=some D
 rw[← w.b.mem.len];simp)
theorem QU{w:Wd A}(o:Obj)(t:Nat):Off (w.chg _ t (.push w o)) w.s.heap.objs.size:=have x:=w.off w.new;⟨x.g,x.i,x.f⟩
noncomputable def Wd.imm(w:Wd A)(o:Obj)(ho:o.isFreed=false)(t:Nat):Wd A:=(w.chg _ t (.push w o)).adoptI w.s.heap.objs.size o (Heap.get?_push_size _ ho) (QU o t)
theorem Wd.st_imm(w:Wd A)(o:Obj)(ho:o.isFreed=false)(t:Nat):St [] w (w.imm o ho t):=((Chg.push w o).st t).adoptI _ _ w.new
noncomputable def Wd.mut(w:Wd A)(o:Obj)(m:MObj)(hm:MRel w.I (w.s.heap.push o) w.s.heap.objs.size m)(t:Nat):Wd A:=(w.chg _ t (.push w o)).adoptG w.s.heap.objs.size m hm (QU o t).gf
theorem Wd.st_mut(w:Wd A)(o:Obj)(m:MObj)(hm:MRel w.I (w.s.heap.push o) w.s.heap.objs.size m)(t:Nat):St [] w (w.mut o m hm t):=((Chg.push w o).st t).adoptG _ _ w.new
noncomputable abbrev Wd.tok(w:Wd A)(t:Nat):Wd A:=w.chg _ t (.refl w)
theorem Wd.st_tok(w:Wd A)(t:Nat):St [] w (w.tok t):=(Chg.refl w).st t
theorem ZgQ(w:Wd A){k:Nat}{a:Addr}(hk:w.γ[k]?=some a){h':Heap}{m:MObj}(hs:Heap.SameBut a w.s.heap h')(ha:w.I a=none)(hm:Keep w.I h'→MRel w.I h' a m)(t:Nat):Base A w.I w.γ (w.σ.set k m) {w.s with heap:=h',toks:=t}:=by
 have ham:a∈w.γ:=List.mem_iff_getElem?.mpr ⟨k,hk⟩
 have there:∀c x,w.s.heap.get? c=some x→c≠a→h'.get? c=some x:=fun c x e hc=>(hs.2 c hc).trans e
 have keep':Keep w.I h':=fun c x e=>there c x (w.b.keep _ _ e) (by rintro rfl;rw[ha]at e;cases e)
 refine⟨keep',w.b.base,w.b.bg,⟨by simp[w.b.mem.len],w.b.mem.nodup,fun{j c o} g1 g2=>?_⟩,fun c hf=>?_⟩
 ·by_cases hj:j=k
  ·subst hj
   rw[hk]at g1;cases g1
   have hlt:j<w.σ.length:=by
    have:=(List.getElem?_eq_some_iff.mp g2).1
    simpa using this
   rw[List.getElem?_set_self hlt]at g2;cases g2
   exact hm keep'
  ·rw[List.getElem?_set_ne (Ne.symm hj)]at g2
   have hca:c≠a:=fun e=>hj (by
    subst e
    exact(List.getElem?_inj (List.getElem?_eq_some_iff.mp g1).1 w.b.mem.nodup).mp (g1.trans hk.symm))
   exact(w.b.mem.at_ g1 g2).step keep' (ILe.refl _) id fun x e=>there _ _ e hca
 ·obtain⟨o,e,g,i,d⟩:=w.b.fr c hf
  exact⟨o,there _ _ e fun q=>g (q▸ham),g,i,d⟩
noncomputable def Wd.setM(w:Wd A){k:Nat}{a:Addr}(hk:w.γ[k]?=some a)(h':Heap)(m:MObj)(hs:Heap.SameBut a w.s.heap h')(ha:w.I a=none)(hm:Keep w.I h'→MRel w.I h' a m)(t:Nat):Wd A:=⟨w.I,w.γ,w.σ.set k m,{w.s with heap:=h',toks:=t},ZgQ w hk hs ha hm t⟩
theorem Wd.st_setM(w:Wd A){k:Nat}{a:Addr}(hk:w.γ[k]?=some a)(h':Heap)(m:MObj)(hs:Heap.SameBut a w.s.heap h')(ha:w.I a=none)(hm:Keep w.I h'→MRel w.I h' a m)(t:Nat):St [] w (w.setM hk h' m hs ha hm t):=
 ⟨ILe.refl _,List.prefix_refl _,fun c x e hn=>have q:h'.get? c=some x:=(hs.2 c fun q=>hn (q▸List.mem_iff_getElem?.mpr ⟨k,hk⟩)).trans e;⟨⟨_,q⟩,hn,rfl,fun _=>.same q⟩⟩
theorem Zhd(w:Wd A){k:Nat}{a:Addr}(hk:w.γ[k]?=some a){o:Obj}{l:List P}(ho:w.s.heap.get? a=some o)(hi:w.I a=none)(hp:PIn (w.I.put a o) (.ref a) (.list l)):Base A (w.I.put a o) w.γ (w.σ.set k (.frz l)) w.s:=by
 have ham:a∈w.γ:=List.mem_iff_getElem?.mpr ⟨k,hk⟩
 have m:=ILe.put (o:=o) hi
 have keep':=w.b.keep.put ho
 refine⟨keep',fun c x e=>m _ _ (w.b.base c x e),w.b.bg,⟨by simp[w.b.mem.len],w.b.mem.nodup,fun{j c o'} g1 g2=>?_⟩,fun c hf=>?_⟩
 ·by_cases hj:j=k
  ·subst hj
   rw[hk]at g1;cases g1
   have hlt:j<w.σ.length:=by
    have:=(List.getElem?_eq_some_iff.mp g2).1
    simpa using this
   rw[List.getElem?_set_self hlt]at g2;cases g2
   exact .frz hp
  ·rw[List.getElem?_set_ne (Ne.symm hj)]at g2
   have hca:c≠a:=fun e=>hj (by
    subst e
    exact(List.getElem?_inj (List.getElem?_eq_some_iff.mp g1).1 w.b.mem.nodup).mp (g1.trans hk.symm))
   exact(w.b.mem.at_ g1 g2).step keep' m (fun q=>(IMap.put_ne _ _ hca).trans q) fun _ e=>e
 ·obtain⟨o',e,g,i,d⟩:=w.b.fr c hf
  exact⟨o',e,g,(IMap.put_ne _ _ fun q=>g (by rw[q];exact ham)).trans i,d⟩
noncomputable def Wd.seal(w:Wd A){k:Nat}{a:Addr}(hk:w.γ[k]?=some a){o:Obj}{l:List P}(ho:w.s.heap.get? a=some o)(hi:w.I a=none)(hp:PIn (w.I.put a o) (.ref a) (.list l)):Wd A:=⟨w.I.put a o,w.γ,w.σ.set k (.frz l),w.s,Zhd w hk ho hi hp⟩
theorem Wd.st_seal(w:Wd A){k:Nat}{a:Addr}(hk:w.γ[k]?=some a){o:Obj}{l:List P}(ho:w.s.heap.get? a=some o)(hi:w.I a=none)(hp:PIn (w.I.put a o) (.ref a) (.list l)):St [] w (w.seal hk ho hi hp):=
 ⟨ILe.put hi,List.prefix_refl _,fun c x e hn=>⟨⟨_,e⟩,hn,IMap.put_ne _ _ fun q=>hn (q▸List.mem_iff_getElem?.mpr ⟨k,hk⟩),fun _=>.same e⟩⟩
end
section
open PySem.Calls PyProof.Rows
set_option genInjectivity false
theorem Zh6{n:Nat}(h:n≤lim):n≤sizeLine:=Nat.le_trans h (by decide)
theorem Zh5{n:Nat}(h:n<lim):n≤sizeLine:=Nat.le_trans (Nat.le_of_lt h) (by decide)
structure Cfg where
 n:Nat
 sc:Scope
 xs:List Str
structure AOk(A:Around)(n:Nat):Prop where
 hd:A.handled=none
 dep:A.depth+3*n+20<recursionLimit
 un:A.units+40*n+400<cLine
 fr:∃fs,A.frames=some fs∧∀env∈fs,env.scope.kind≠.module∧∃L,env.frame=some L
noncomputable def xset(env:Env):List Addr:=env.locals::env.cells.map (·.2)
structure Fx(Γ:Cfg) where
 A:Around
 env:Env
 hA:AOk A Γ.n
 scope:env.scope=Γ.sc
 kind:Γ.sc.kind=.function
 glob:env.globals=mainGlobals
 bui:env.builtins=builtinsNs
 frame:∃L,env.frame=some L
 there:∀{x:Str},env.kindOf x=some .cell→∃c,env.cells.lookup x=some c
 apart:env.cells.Pairwise fun x y=>x.2≠y.2
 above:U.h₀.objs.size≤env.locals
 ne:∀c∈env.cells.map (·.2),c≠env.locals
theorem Fx.hk{Γ:Cfg}(X:Fx Γ):X.env.scope.kind=.function:=X.scope▸X.kind
theorem Fx.ko{Γ:Cfg}(X:Fx Γ){x:Str}{k:NameKind}(h:Γ.sc.names.lookup x=some k):X.env.kindOf x=some k:=by unfold Env.kindOf;rw[X.scope];exact h
variable{Γ:Cfg}{A:Around}
structure NsV(X:Fx Γ)(l:Loc)(w:Wd X.A)(m:Str→Option Value):Prop where
 ns:w.s.heap.Ns X.env.locals m
 val:∀{i:Nat} {x:Str} {v:V},Γ.xs[i]?=some x→l[i]?=some (some v)→X.env.kindOf x=some .local→∃y,m x=some y∧VR w v y
inductive Znp(X:Fx Γ)(w:Wd X.A)(x:Str)(v:V):Prop
 |mk (c:Addr) (y:Value):X.env.cells.lookup x=some c→w.s.heap.IsCell c (some y)→VR w v y→Znp X w x v
structure FR(X:Fx Γ)(l:Loc)(w:Wd X.A):Prop where
 ns:∃m,NsV X l w m
 cell:∀{i:Nat} {x:Str} {v:V},Γ.xs[i]?=some x→l[i]?=some (some v)→X.env.kindOf x=some .cell→Znp X w x v
 cellT:∀c∈X.env.cells.map (·.2),∃v,w.s.heap.IsCell c v
 off:∀c∈xset X.env,c∉w.γ∧w.I c=none
theorem Yy{cs:List (Str×Addr)}{x:Str}{c:Addr}(e:cs.lookup x=some c):c∈cs.map (·.2):=List.mem_map.mpr ⟨_,mem_of_lookup e,rfl⟩
theorem Xb{Fs:List Addr}{h h':Heap}{c:Addr}{v:Option Value}(x:h.IsCell c v)(k:∀o,h.get? c=some o→Ks Fs h' c o):h'.IsCell c v:=by
 obtain⟨o,ho,hd⟩:=x
 obtain⟨sl,e⟩:=(k o ho).ex
 exact⟨_,e,hd⟩
theorem ZmA{Fs:List Addr}{h h':Heap}{c:Addr}{m:Str→Option Value}(x:h.Ns c m)(k:∀o,h.get? c=some o→Ks Fs h' c o):h'.Ns c m:=by
 obtain⟨o,es,ep,ho,hd,r⟩:=x
 obtain⟨sl,e⟩:=(k o ho).ex
 exact⟨_,es,ep,e,hd,r⟩
theorem ZdY{h:Heap}{c:Addr}{m:Str→Option Value}(x:h.Ns c m):∃o,h.get? c=some o∧∀vs,o.data≠.fields vs:=by
 obtain⟨o,es,ep,ho,hd,_⟩:=x
 exact⟨o,ho,fun vs q=>by rw[hd]at q;cases q⟩
theorem FR.at_{X:Fx Γ}{l:Loc}{w:Wd X.A}(f:FR X l w){c:Addr}(hc:c∈xset X.env):∃o,w.s.heap.get? c=some o∧∀vs,o.data≠.fields vs:=by
 rcases List.mem_cons.mp hc with rfl|hc
 ·obtain⟨m,hm⟩:=f.ns;exact ZdY hm.ns
 ·obtain⟨v,o,ho,hd⟩:=f.cellT c hc;exact⟨o,ho,fun vs q=>by rw[hd]at q;cases q⟩
theorem FR.loc{X:Fx Γ}{l:Loc}{w:Wd X.A}(f:FR X l w):∃m,w.s.heap.Ns X.env.locals m:=f.ns.elim fun m h=>⟨m,h.ns⟩
theorem FR.step{X:Fx Γ}{l:Loc}{w w':Wd X.A}{Y:List Addr}(f:FR X l w)(st:St Y w w')(hY:∀b∈Y,b∉xset X.env):FR X l w':=
 have ks:∀c∈xset X.env,∀o,w.s.heap.get? c=some o→Ks (fa X.A) w'.s.heap c o:=fun c hc o e=>(st.old c o e (f.off c hc).1).k fun h=>hY c h hc
 {ns:=f.ns.elim fun m hm=>⟨m,ZmA hm.ns (ks _ List.mem_cons_self),fun h1 h2 h3=>(hm.val h1 h2 h3).elim fun y h=>⟨y,h.1,h.2.st st⟩⟩
  cell:=fun h1 h2 h3=>match f.cell h1 h2 h3 with| .mk c y e hc r=>.mk c y e (Xb hc (ks _ (List.mem_cons_of_mem _ (Yy e)))) (r.st st)
  cellT:=fun c hc=>(f.cellT c hc).elim fun v hv=>⟨v,Xb hv (ks _ (List.mem_cons_of_mem _ hc))⟩
  off:=fun c hc=>(f.at_ hc).elim fun o h=>have p:=st.old c o h.1 (f.off c hc).1;⟨p.g,p.i.trans (f.off c hc).2⟩}
theorem FR.st{X:Fx Γ}{l:Loc}{w w':Wd X.A}(f:FR X l w)(st:St [] w w'):FR X l w':=f.step st fun _ h=>nomatch h
theorem FR.gone{X:Fx Γ}{l:Loc}{w w':Wd X.A}{fp:List Addr}(f:FR X l w)(g:Gone fp w w')(hX:∀b∈fp,b∉xset X.env):FR X l w':=
 have ks:∀c∈xset X.env,∀o,w.s.heap.get? c=some o→Ks (fa X.A) w'.s.heap c o:=fun c hc o e=>.same (g.out c o e fun h=>hX c h hc)
 have vr:∀{v y},VR w v y→VR w' v y:=fun h=>VRel.mono (g.I▸ILe.refl _) (g.γ▸List.prefix_refl _) h
 {ns:=f.ns.elim fun m hm=>⟨m,ZmA hm.ns (ks _ List.mem_cons_self),fun h1 h2 h3=>(hm.val h1 h2 h3).elim fun y h=>⟨y,h.1,vr h.2⟩⟩
  cell:=fun h1 h2 h3=>match f.cell h1 h2 h3 with| .mk c y e hc r=>.mk c y e (Xb hc (ks _ (List.mem_cons_of_mem _ (Yy e)))) (vr r)
  cellT:=fun c hc=>(f.cellT c hc).elim fun v hv=>⟨v,Xb hv (ks _ (List.mem_cons_of_mem _ hc))⟩
  off:=fun c hc=>g.γ▸g.I▸f.off c hc}
inductive Tb(pv:Addr→Prop)(h:Heap)(x d:Addr):Option Value→Prop
 |none:Tb pv h x d (some .none)
 |one (T:Addr) (oT:Obj) (ts:Array Value) (v:Value):T≠x→T≠d→h.get? T=some oT→oT.data=.fields ts→ts[3]?=some v→pv T→Tb pv h x d (some (.ref T))
inductive XAt(pv:Addr→Prop)(h:Heap)(c:Addr)(t:Str)(x:Addr):Prop
 |mk (oe:Obj) (vs:Array Value) (d:Addr) (es:List DictEntry) (n:Nat) (tk:Tok):h.get? x=some oe→oe.cls=.ref c→oe.dict=some d→oe.data=.fields vs→1<vs.size→d≠x→
   h.get? d=some (dictOf es n)→getL "why" es=some (some (.str t tk))→pv d→pv x→Tb pv h x d vs[1]?→XAt pv h c t x
theorem Tb.imp{pv pv':Addr→Prop}{h:Heap}{x d:Addr}{o:Option Value}(k:∀a,pv a→pv' a)(t:Tb pv h x d o):Tb pv' h x d o:=by
 cases t with
 |none=>exact .none
 |one T oT ts v h1 h2 h3 h4 h5 h6=>exact .one T oT ts v h1 h2 h3 h4 h5 (k _ h6)
theorem XAt.imp{pv pv':Addr→Prop}{h:Heap}{c x:Addr}{t:Str}(k:∀a,pv a→pv' a)(y:XAt pv h c t x):XAt pv' h c t x:=by
 cases y with|mk oe vs d es n tk h1 h2 h3 h4 h5 h6 h7 h8 h9 h10 h11=>exact .mk oe vs d es n tk h1 h2 h3 h4 h5 h6 h7 h8 (k _ h9) (k _ h10) (h11.imp k)
structure Pv(h₀:Heap)(w:Wd A)(a:Addr):Prop where
 off:Off w a
 n:h₀.get? a=none
inductive XR(w₀ w:Wd A)(c:Addr)(t:Str):Value→Prop
 |mk (x:Addr):XAt (Pv w₀.s.heap w) w.s.heap c t x→XR w₀ w c t (.ref x)
theorem XR.since{X:List Addr}{w₀ w₁ w:Wd A}{c:Addr}{t:Str}{e:Value}(x:XR w₁ w c t e)(st:St X w₀ w₁)(hp:w₁.γ<+:w.γ):XR w₀ w c t e:=by
 cases x with|mk x h=>exact .mk x (h.imp fun a p=>⟨p.off,st.there hp p.off.g p.n⟩)
noncomputable def AftR{β:Type}(w w':Wd A)(P:β→Wd A→Prop)(E:Value→Shared→Prop):R β→Prop
 | .ok b=>P b w'
 | .exc c t=>∀e,XR w w' c t e→E e w'.s
noncomputable def Aft{β:Type}(w:Wd A)(P:β→Wd A→Prop)(E:Value→Shared→Prop):Option (R β×Hp)→Prop
 |none=>False
 |some p=>∀w':Wd A,w'.σ=p.2→St [] w w'→AftR w w' P E p.1
theorem Aft.after{β:Type}{w w₁:Wd A}{P P':β→Wd A→Prop}{E:Value→Shared→Prop}{o:Option (R β×Hp)}(k:Aft w P E o)(hP:∀b w',St [] w₁ w'→P b w'→P' b w')(st:St [] w w₁):Aft w₁ P' E o:=by
 cases o with
 |none=>exact k.elim
 |some p=>
  obtain⟨r,σ'⟩:=p
  cases r with
  |ok b=>exact fun w' e st'=>hP b w' st' (k w' e (st.trans st'))
  |exc c t=>exact fun w' e st' x hx=>k w' e (st.trans st') x (hx.since st st'.pre)
theorem Aft.imp{β:Type}{w:Wd A}{P P':β→Wd A→Prop}{E:Value→Shared→Prop}{o:Option (R β×Hp)}(k:Aft w P E o)(hP:∀b w',St [] w w'→P b w'→P' b w'):Aft w P' E o:=k.after hP (.refl _ _)
theorem Aft.hb0{β δ:Type}{w:Wd A}{P:β→Wd A→Prop}{P':δ→Wd A→Prop}{E:Value→Shared→Prop}{m:HM β}{g:β→HM δ}{σ:Hp}(k:Aft w P' E (hb m g σ))(go:∀b (w₁:Wd A),St [] w w₁→Aft w P' E (g b w₁.σ)→P b w₁):Aft w P E (m σ):=by
 unfold Mine.hb at k
 cases e:m σ with
 |none=>rw[e]at k;exact k.elim
 |some p=>
  obtain⟨r,σ₁⟩:=p
  rw[e]at k
  cases r with
  |ok b=>exact fun w' e' st=>go b w' st (e'▸k)
  |exc c t=>exact k
theorem Aft.hb{β δ:Type}{w:Wd A}{P:β→Wd A→Prop}{P':δ→Wd A→Prop}{E:Value→Shared→Prop}{m:HM β}{g:β→HM δ}{σ:Hp}(k:Aft w P' E (hb m g σ))(go:∀b (w₁:Wd A),St [] w w₁→Aft w₁ P' E (g b w₁.σ)→P b w₁):Aft w P E (m σ):=k.hb0 fun b w₁ st k=>go b w₁ st (k.after (fun _ _ _ h=>h) st)
noncomputable def PV(Q:Value→Shared→Prop):V→Wd A→Prop:=fun v w=>∀y,VR w v y→Q y w.s
noncomputable def PL(Q:List Value→Shared→Prop):List V→Wd A→Prop:=fun v w=>∀y,VRs w v y→Q y w.s
noncomputable def PT{β:Type}(Q:β→Shared→Prop):β→Wd A→Prop:=fun b w=>Q b w.s
noncomputable abbrev KV(w:Wd A)(Q E:Value→Shared→Prop)(o:Option (R V×Hp)):Prop:=Aft w (PV Q) E o
noncomputable abbrev KL(w:Wd A)(Q:List Value→Shared→Prop)(E:Value→Shared→Prop)(o:Option (R (List V)×Hp)):Prop:=Aft w (PL Q) E o
noncomputable abbrev KT{β:Type}(w:Wd A)(Q:β→Shared→Prop)(E:Value→Shared→Prop)(o:Option (R β×Hp)):Prop:=Aft w (PT Q) E o
theorem KV.now{w:Wd A}{Q E:Value→Shared→Prop}{v:V}{y:Value}(k:KV w Q E (some (.ok v,w.σ)))(h:VR w v y):Q y w.s:=k w rfl (.refl _ _) y h
theorem KV.tok{w:Wd A}{Q E:Value→Shared→Prop}{v:V}{y:Value}(k:KV w Q E (some (.ok v,w.σ)))(h:VR w v y)(t:Nat):Q y {w.s with toks:=t}:=k (w.tok t) rfl (w.st_tok t) y h
theorem KV.grow{w:Wd A}{Q E:Value→Shared→Prop}{v:V}{y:Value}(k:KV w Q E (some (.ok v,w.σ)))(h:VR w v y){h':Heap}(hk:∀a o,w.s.heap.get? a=some o→h'.get? a=some o)(t:Nat):Q y {w.s with heap:=h',toks:=t}:=
 k (w.chg h' t (.grow w hk)) rfl ((Chg.grow w hk).st t) y h
theorem KV.int{w:Wd A}{Q E:Value→Shared→Prop}{i:Int}{x:Tok}(k:KV w Q E (some (.ok (.p (.int i)),w.σ)))(t:Nat):Q (.int i x) {w.s with toks:=t}:=k.tok (.p (.int i x)) t
theorem Aft.now{β:Type}{w:Wd A}{D:β→Wd A→Prop}{E:Value→Shared→Prop}{b:β}(k:Aft w D E (some (.ok b,w.σ))):D b w:=k w rfl (.refl _ _)
noncomputable def SemE(Γ:Cfg)(e:Expr)(f:Fn):Prop:=∀(X:Fx Γ) (l:Loc) (w:Wd X.A),FR X l w→∀Q E,KV w Q E (f l w.σ)→wpAny MM X.A (eval e X.env) Q E w.s
noncomputable def Ww(Γ:Cfg)(es:List Expr)(fs:List Fn):Prop:=∀(X:Fx Γ) (l:Loc) (w:Wd X.A) (pos:Pos),FR X l w→∀Q E,KL w Q E (YV fs l w.σ)→wpAny MM X.A (spliced (backTo pos (starEach es X.env))) Q E w.s
noncomputable def SemT(Γ:Cfg)(e:Expr)(t:Tn):Prop:=∀(X:Fx Γ) (l:Loc) (w:Wd X.A),FR X l w→∀Q E,KT w Q E (t l w.σ)→wpAny MM X.A (isTrue e X.env (eval e X.env)) Q E w.s
theorem SemE.bd{e:Expr}{f:Fn}(he:SemE Γ e f){X:Fx Γ}{l:Loc}{w:Wd X.A}(F:FR X l w){β:Type}{g:V→HM β}{D:β→Wd X.A→Prop}{E Q:Value→Shared→Prop}(k:Aft w D E (hb (f l) g w.σ))
  (go:∀v (w₁:Wd X.A) y,St [] w w₁→VR w₁ v y→Aft w₁ D E (g v w₁.σ)→Q y w₁.s):wpAny MM X.A (eval e X.env) Q E w.s:=he _ _ _ F _ _ (k.hb fun v w₁ st k₁ y hy=>go v w₁ y st hy k₁)
theorem Ww.bd{e:List Expr}{f:List Fn}(he:Ww Γ e f){X:Fx Γ}{l:Loc}{w:Wd X.A}(F:FR X l w){pos:Pos}{β:Type}{g:List V→HM β}{D:β→Wd X.A→Prop}{E:Value→Shared→Prop}{Q:List Value→Shared→Prop}(k:Aft w D E (hb (YV f l) g w.σ))
  (go:∀v (w₁:Wd X.A) y,St [] w w₁→VRs w₁ v y→Aft w₁ D E (g v w₁.σ)→Q y w₁.s):wpAny MM X.A (spliced (backTo pos (starEach e X.env))) Q E w.s:=he _ _ _ _ F _ _ (k.hb fun v w₁ st k₁ y hy=>go v w₁ y st hy k₁)
theorem SemT.bd{e:Expr}{f:Tn}(he:SemT Γ e f){X:Fx Γ}{l:Loc}{w:Wd X.A}(F:FR X l w){β:Type}{g:Bool→HM β}{D:β→Wd X.A→Prop}{E:Value→Shared→Prop}{Q:Bool→Shared→Prop}(k:Aft w D E (hb (f l) g w.σ))
  (go:∀v (w₁:Wd X.A),St [] w w₁→Aft w₁ D E (g v w₁.σ)→Q v w₁.s):wpAny MM X.A (isTrue e X.env (eval e X.env)) Q E w.s:=he _ _ _ F _ _ (k.hb go)
theorem ZkS{i:Int}{k:Nat}{pos:Pos}:SemE Γ (.Constant (.int i) k pos) (Zb (.int i)):=fun _ _ w _ _ _ k=>wpAny_Constant_int (KV.int k _)
theorem ZiJ{k:Nat}{pos:Pos}:SemE Γ (.Constant .none k pos) (Zb .none):=fun _ _ w _ _ _ k=>wpAny_pure (KV.now k (.p .none))
theorem ZiU{b:Bool}{k:Nat}{pos:Pos}:SemE Γ (.Constant (.bool b) k pos) (Zb (.bool b)):=fun _ _ w _ _ _ k=>wpAny_pure (KV.now k (.p (.bool b)))
theorem ZkP{x:Str}{k:Nat}{pos:Pos}(hx:PyData.strOk x=true):SemE Γ (.Constant (.str x) k pos) (Zb (.str x)):=fun _ _ w _ _ _ k=>wpAny_Constant_str (KV.tok k (.p (.str _ _ hx)) _)
theorem ZkR{i:Int}{k:Nat}{p pos:Pos}:SemE Γ (.UnaryOp .USub (.Constant (.int i) k p) pos) (Zb (.int (-i))):=fun _ _ w _ _ _ k=>UnaryOp_ (wpAny_Constant_int (neg_int (KV.int k _)))
noncomputable def Xu:NameKind→Bool
 | .local| .cell=>true
 |_=>false
theorem Zdi{X:Fx Γ}{l:Loc}{w:Wd X.A}{x:Str}{k:NameKind}{i:Nat}{v:V}{M:Model}{Q E:Value→Shared→Prop}(hF:FR X l w)
  (hx:Γ.xs[i]?=some x) (hk:Γ.sc.names.lookup x=some k) (hv:Xu k=true) (hl:l[i]?=some (some v)) (h:∀y,VR w v y→Q y w.s):wpAny M X.A (loadName X.env x) Q E w.s:=by
 have ko:=X.ko hk
 cases k with
 |«local»=>exact hF.ns.elim fun m hm=>(hm.val hx hl ko).elim fun y r=>wpAny_loadName_local X.hk ko hm.ns r.1 (h y r.2)
 |cell=>cases hF.cell hx hl ko with|mk c y e hc r=>exact wpAny_loadName_cell X.hk ko e hc (h y r)
 |_=>cases hv
theorem ZiK{x:Str}{pos:Pos}(i:Nat)(k:NameKind)(hx:Γ.xs[i]?=some x)(hk:Γ.sc.names.lookup x=some k)(hv:Xu k=true)(hd:(x==("__debug__":Str))=false):SemE Γ (.Name x pos) (Za i):=by
 intro X l w hF Q E k
 unfold Za at k
 cases hl:l[i]? with
 |none=>rw[hl]at k;exact k.elim
 |some o=>
  rw[hl]at k
  cases o with
  |none=>exact k.elim
  |some v=>exact wpAny_Name (Zdi hF hx hk hv hl fun y hy=>k.now hy) hd
end
section
open PySem.Calls PyProof.Rows
set_option genInjectivity false
variable{Γ:Cfg}{A:Around}
section
variable{α:Type}{w₀ w:Wd A}{D:α→Wd A→Prop}{E:Value→Shared→Prop}{a:V}{x:Value}{G:Value→Prop}
theorem Wc{c:Bool}{m:HM α}{σ:Hp}(k:Aft w₀ D E (hif c m σ)):c=true∧Aft w₀ D E (m σ):=by
 cases c with
 |false=>exact k.elim
 |true=>exact⟨rfl,k⟩
@[elab_as_elim] theorem XD {fp:P→HM α} {fr:Nat→MObj→HM α} (k:Aft w₀ D E (Qm a fp fr w.σ)) (hx:VR w a x) (k1:∀d,PIn w.I x d→Aft w₀ D E (fp d w.σ)→G x)
  (k2:∀j c o,w.γ[j]?=some c→MRel w.I w.s.heap c o→Aft w₀ D E (fr j o w.σ)→G (.ref c)):G x:=by
 cases hx with
 |p h=>exact k1 _ h k
 |dia=>exact k.elim
 |@ref j c h=>
  unfold Qm at k
  dsimp only at k
  cases e:w.σ[j]? with
  |none=>rw[e]at k;exact k.elim
  |some o=>rw[e]at k;exact k2 j c o h (w.b.mem.at_ h e) k
@[elab_as_elim] theorem pV_e {f:P→HM α} (k:Aft w₀ D E (pV a f w.σ)) (hx:VR w a x) (k1:∀d,PIn w.I x d→Aft w₀ D E (f d w.σ)→G x):G x:=XD k hx k1 fun _ _ _ _ _ k=>k.elim
@[elab_as_elim] theorem i1_e {f:Int→HM α} (k:Aft w₀ D E (i1 f a w.σ)) (hx:VR w a x) (k1:∀i t,Aft w₀ D E (f i w.σ)→G (.int i t)):G x:=pV_e k hx fun d hd k=>by
 cases d with
 |int i=>exact hd.int_e fun t=>k1 i t k
 |_=>exact k.elim
@[elab_as_elim] theorem t1_e {f:List P→HM α} (k:Aft w₀ D E (t1 f a w.σ)) (hx:VR w a x) (k1:∀l,PIn w.I x (.tuple l)→Aft w₀ D E (f l w.σ)→G x):G x:=pV_e k hx fun d hd k=>by
 cases d with
 |tuple l=>exact k1 l hd k
 |_=>exact k.elim
@[elab_as_elim] theorem lV_e {f:Nat→List P→HM α} (k:Aft w₀ D E (lV a f w.σ)) (hx:VR w a x) (k1:∀{j l c vs n},w.γ[j]?=some c→w.I c=none→w.s.heap.get? c=some (seqObj "list" vs n)→PAll w.I vs.toList l→l.length≤sizeLine→Aft w₀ D E (f j l w.σ)→G (.ref c)):G x:=
 XD k hx (fun _ _ k=>k.elim) fun j c o h m k=>by
  cases m with
  |lst h1 h2 h3 h4=>exact k1 h h1 h2 h3 h4 k
  |_=>exact k.elim
@[elab_as_elim] theorem l1_e {f:List P→HM α} (k:Aft w₀ D E (l1 f a w.σ)) (hx:VR w a x) (k1:∀{c o vs n l},w.s.heap.get? c=some o→o.cls=.type "list"→o.data=.seq vs n→PAll w.I vs.toList l→l.length≤sizeLine→Aft w₀ D E (f l w.σ)→G (.ref c)):G x:=by
 have lst:∀{y l},PIn w.I y (.list l)→Aft w₀ D E (f l w.σ)→G y:=fun hd k=>hd.lst_e fun a b c d e=>k1 (w.b.keep _ _ a) b c e d k
 cases hx with
 |dia=>exact k.elim
 |@p d _ h=>
  cases d with
  |list l=>exact lst h k
  |_=>exact k.elim
 |@ref j c h=>
  unfold l1 WB at k
  dsimp only at k
  cases e:w.σ[j]? with
  |none=>rw[e]at k;exact k.elim
  |some o=>
   rw[e]at k
   cases w.b.mem.at_ h e with
   |lst h1 h2 h3 h4=>exact k1 h2 rfl rfl h3 h4 k
   |frz h=>exact lst h k
   |_=>exact k.elim
end
@[elab_as_elim] theorem ii_e {α:Type} {w₀ w:Wd A} {D:α→Wd A→Prop} {E:Value→Shared→Prop} {a b:V} {x y:Value} {G:Value→Value→Prop} {f:Int→Int→HM α} (k:Aft w₀ D E (ii f a b w.σ)) (hx:VR w a x) (hy:VR w b y) (k1:∀i t j u,Aft w₀ D E (f i j w.σ)→G (.int i t) (.int j u)):G x y:=
 i1_e (G:=fun x=>G x y) k hx fun i t k=>i1_e (G:=G (.int i t)) k hy fun j u k=>k1 i t j u k
@[elab_as_elim] theorem ZlU {w:Wd A} {D:P→Wd A→Prop} {E:Value→Shared→Prop} {v:V} {y:Value} {G:Shared→Prop} (k:Aft w D E (asP v w.σ)) (hy:VR w v y) (go:∀p (w':Wd A),St [] w w'→PIn w'.I y p→D p w'→G w'.s):G w.s:=by
 cases hy with
 |p h=>exact go _ w (.refl _ _) h (k w rfl (.refl _ _))
 |dia=>exact k.elim
 |@ref j a h=>
  unfold asP at k
  dsimp only at k
  cases e:w.σ[j]? with
  |none=>rw[e]at k;exact k.elim
  |some o=>
   rw[e]at k
   cases w.b.mem.at_ h e with
   |@lst l vs n h1 h2 h3 h4=>
    have hp:=PIn.lst (IMap.put_self w.I a (seqObj "list" vs n)) rfl rfl h4 (h3.mono (ILe.put h1))
    exact go _ (w.seal h h2 h1 hp) (w.st_seal h h2 h1 hp) hp (k (w.seal h h2 h1 hp) rfl (w.st_seal h h2 h1 hp))
   |frz h=>exact go _ w (.refl _ _) h (k w rfl (.refl _ _))
   |_=>exact k.elim
@[elab_as_elim] theorem Ze3 {β:Type} {w:Wd A} {D:β→Wd A→Prop} {E:Value→Shared→Prop} {v:V} {y:Value} {G:Shared→Prop} {g:P→HM β} (k:Aft w D E (hb (asP v) g w.σ)) (hy:VR w v y) (go:∀p (w':Wd A),St [] w w'→PIn w'.I y p→Aft w' D E (g p w'.σ)→G w'.s):G w.s:=
 ZlU (k.hb fun _ _ _ k=>k) hy go
theorem Zj5{α β δ:Type}(m:HM α)(f:α→HM β)(g:β→HM δ)(σ:Hp):hb (hb m f) g σ=hb m (fun a=>hb (f a) g) σ:=by
 unfold hb
 cases m σ with
 |none=>rfl
 |some p=>obtain⟨r,σ'⟩:=p;cases r<;>rfl
theorem Aft.assoc{α β δ:Type}{w:Wd A}{D:δ→Wd A→Prop}{E:Value→Shared→Prop}{m:HM α}{f:α→HM β}{g:β→HM δ}{σ:Hp}(k:Aft w D E (Mine.hb (Mine.hb m f) g σ)):Aft w D E (Mine.hb m (fun a=>Mine.hb (f a) g) σ):=Zj5 m f g σ▸k
theorem Zkz{β:Type}{D:β→Wd A→Prop}{E:Value→Shared→Prop}{G:Shared→Prop}{vs:List V}{ys:List Value}:∀{w:Wd A} {g:List P→HM β},Aft w D E (hb (asPs vs) g w.σ)→VRs w vs ys→(∀ps (w':Wd A),St [] w w'→PAll w'.I ys ps→Aft w' D E (g ps w'.σ)→G w'.s)→G w.s:=by
 induction vs generalizing ys with
 |nil=>intro w g k hy go;cases hy;exact go [] w (.refl _ _) .nil k
 |cons v vs ih=>
  intro w g k hy go
  cases hy with
  |cons h1 h2=>exact Ze3 (Aft.assoc (m:=asP v) (f:=fun p=>hb (asPs vs) fun ps=>hp (p::ps)) k) h1 fun p w₁ st₁ hp k₁=>ih k₁.assoc (VRs.st h2 st₁) fun ps w₂ st₂ hps k₂=>go (p::ps) w₂ (st₁.trans st₂) (.cons (hp.mono st₂.mono) hps) k₂
theorem Zda{w:Wd A}{D:V→Wd A→Prop}{E:Value→Shared→Prop}{l:List P}{σ:Hp}(k:Aft w D E (newT l σ)):l.length≤sizeLine∧Aft w D E (some (.ok (.p (.tuple l)),σ)):=by
 unfold newT at k
 by_cases h:l.length≤lim
 ·rw[if_pos h]at k;exact⟨Zh6 h,k⟩
 ·rw[if_neg h]at k;exact k.elim
theorem Zbt{w:Wd A}{D:V→Wd A→Prop}{E:Value→Shared→Prop}{l:List P}{σ:Hp}(k:Aft w D E (newL l σ)):l.length≤sizeLine∧Aft w D E (some (.ok (.ref σ.length),σ++[.lst l])):=by
 unfold newL at k
 by_cases h:l.length≤lim
 ·rw[if_pos h]at k;exact⟨Zh6 h,k⟩
 ·rw[if_neg h]at k;exact k.elim
theorem KV.newT{w:Wd A}{Q E:Value→Shared→Prop}{ps:List P}{vs:List Value}(k:KV w Q E (newT ps w.σ))(h:PAll w.I vs ps)(t:Nat):Q (.ref w.s.heap.objs.size) {w.s with heap:=w.s.heap.push {cls:=.type "tuple",data:=.seq vs.toArray},toks:=t}:=
 have k':=Zda k
 k'.2 (w.imm _ rfl t) rfl (w.st_imm _ rfl t) _ (.p (.tup (IMap.put_self _ _ _) rfl rfl k'.1 (h.mono (ILe.put (w.off w.new).i))))
theorem KV.newL{w:Wd A}{Q E:Value→Shared→Prop}{ps:List P}{vs:List Value}(k:KV w Q E (newL ps w.σ))(h:PAll w.I vs ps)(t:Nat):Q (.ref w.s.heap.objs.size) {w.s with heap:=w.s.heap.push (seqObj "list" vs.toArray 0),toks:=t}:=
 have k':=Zbt k
 have m:MRel w.I (w.s.heap.push (seqObj "list" vs.toArray 0)) w.s.heap.objs.size (.lst ps):=.lst (w.off w.new).i (Heap.get?_push_size _ rfl) (by simpa using h) k'.1
 k'.2 (w.mut _ _ m t) rfl (w.st_mut _ _ m t) _ (Wd.last (w.chg _ t (.push w _)) m (QU _ t).gf)
theorem Y0{e:Expr}{es:List Expr}{env:Env}(h:isStarred e=false):starEach (e::es) env=(false,eval e env)::starEach es env:=by
 cases e<;>first|rfl|cases h
theorem Zhb:Ww Γ [] []:=fun _ _ w _ _ _ _ k=>spliced_nil (k w rfl (.refl _ _) [] .nil)
theorem ZfK{e:Expr}{es:List Expr}{f:Fn}{fs:List Fn}(he:SemE Γ e f)(hes:Ww Γ es fs)(hs:isStarred e=false):Ww Γ (e::es) (f::fs):=fun X l w pos F Q E k=>by
 rw[Y0 hs]
 exact spliced_cons (he _ _ _ F _ _ (Aft.hb (m:=f l) (g:=fun v=>hb (YV fs l) fun vs=>hp (v::vs)) k fun v w₁ st k₁ y hy=>hes _ _ _ _ (F.st st) _ _ (k₁.hb fun vs w₂ st₂ k₂ ys hys=>k₂ w₂ rfl (.refl _ _) _ (.cons (hy.st st₂) hys))))
theorem ZgT{es:List Expr}{fs:List Fn}{k:Nat}{pos:Pos}(h:Ww Γ es fs):SemE Γ (.Tuple es k pos) (Zm fs):=fun X l w F Q E k=>
 Tuple_ (h _ _ _ _ F _ _ (Aft.hb (g:=fun vs=>hb (asPs vs) fun ps=>newT ps) k fun vs w₁ st k₁ ys hys=>Zkz k₁ hys fun ps w₂ st₂ hps k₂=>wpAny_newObj_type (KV.newT k₂ hps _) (by rw[show sizeOk _=(ys.toArray.size≤sizeLine)from rfl,List.size_toArray,hps.length];exact(Zda k₂).1)))
theorem ZiN{es:List Expr}{fs:List Fn}{pos:Pos}(h:Ww Γ es fs):SemE Γ (.List es pos) (eLst fs):=fun X l w F Q E k=>
 List_ (h _ _ _ _ F _ _ (Aft.hb (g:=fun vs=>hb (asPs vs) fun ps=>newL ps) k fun vs w₁ st k₁ ys hys=>Zkz k₁ hys fun ps w₂ st₂ hps k₂=>wpAny_newObj_type (KV.newL k₂ hps _) (by rw[show sizeOk _=(ys.toArray.size≤sizeLine)from rfl,List.size_toArray,hps.length];exact(Zbt k₂).1)))
end
section
open PySem.Calls PyProof.Rows
open Sem (wp)
set_option genInjectivity false
theorem QO:fillsNumberSlot (.type "tuple") "mul"=pure false:=
 PySem.fillsNumberSlot_seq (id:="tuple.__mul__") (r:=some (.builtin "tuple.__rmul__")) F.slot_tuple_mul.lookup (by decide+kernel) F.slot_tuple_rmul.lookup (by decide+kernel)
theorem ZcS:seqRepeat? (.type "tuple")=pure (some (.builtin "tuple.__mul__")):=by
 unfold seqRepeat?
 rw[PySem.seqSlot_of (T:="tuple") (name:="__mul__") (id:="tuple.__mul__") F.slot_tuple_mul.lookup (by decide+kernel),PySem.seqSlot_of (T:="tuple") (name:="__rmul__") (id:="tuple.__rmul__") F.slot_tuple_rmul.lookup (by decide+kernel)]
 rfl
theorem Zba(a:Int)(t:Tok)(l:Addr)(o:Obj)(items:Array Value)(n:Nat)(hc:o.cls=.type "tuple")(hd:o.data=.seq items n):
  Meets (Builtin.«int.__rmul__» ⟨[.int a t,.ref l],[]⟩) (fun _ R s=>s.heap.get? l=some o∧R (.ok (.ret Value.notImplemented)) s):=
 .of_wp fun prog w A R s h=>by
  obtain⟨c,d,dt,sl⟩:=o;simp only at hc hd;subst hc hd
  obtain⟨hp,g,d,tk,os⟩:=s;obtain⟨hl,h⟩:=h;wp_walk;exact⟨_,rfl,h⟩
theorem Zdu(v:Value):∀(k:Nat) (a:Array Value),List.foldl (fun x1 x2=>x1++x2) a (List.replicate k #[v])=a++(List.replicate k v).toArray:=by
 intro k
 induction k with
 |zero=>intro a;simp
 |succ k ih=>intro a;rw[List.replicate_succ,List.foldl_cons,ih];apply Array.toList_inj.mp;simp[List.replicate_succ]
theorem ZbU(l:Addr)(o:Obj)(v:Value)(n:Nat)(x:Int)(u:Tok)(hc:o.cls=.type "tuple")(hd:o.data=.seq #[v] n)(h0:2≤x)(h1:x≤1000):
  Meets (Builtin.«tuple.__mul__» ⟨[.ref l,.int x u],[]⟩) (fun _ R s=>s.heap.get? l=some o∧R (.ok (.ret (.ref s.heap.objs.size))) {s with heap:=s.heap.push {cls:=.type "tuple",data:=.seq (List.replicate x.toNat v).toArray}}):=
 .of_wp fun prog w A R s h=>by
  obtain⟨c,d,dt,sl⟩:=o;simp only at hc hd;subst hc hd
  obtain⟨hp,g,d,tk,os⟩:=s;obtain⟨hl,h⟩:=h
  have c1:¬(decide (x< -2^63)||decide (x≥2^63))=true:=by simp;exact Ar.n0z1 (.im (.L (.k 2) (.v 0)) (.im (.L (.v 0) (.k 1000)) (.an (.L (.k (-9223372036854775808)) (.v 0)) (.T (.v 0) (.k 9223372036854775808))))) (by kernel_rfl) h0 h1
  have c2:¬((#[v]:Array Value).isEmpty||x==1)=true:=by simp;exact Ar.n0z1 (.im (.L (.k 2) (.v 0)) (.no (.E (.v 0) (.k 1)))) (by kernel_rfl) h0
  have c3:¬(decide (x≤0)||(#[v]:Array Value).isEmpty)=true:=by simp;exact Ar.n0z1 (.im (.L (.k 2) (.v 0)) (.T (.k 0) (.v 0))) (by kernel_rfl) h0
  have c4:¬(↑(#[v]:Array Value).size*x>(2^63 - 1)/8):=by simp;exact Ar.a191 h1
  have c5:¬Builtin.Tuple.tupleTooMany (↑(#[v]:Array Value).size*x)=true:=by simp[Builtin.Tuple.tupleTooMany,sizeLine];exact Ar.a87 h1
  have hF:=Zdu v
  have hsz:(List.foldl (fun x1 x2=>x1++x2) #[] (List.replicate x.toNat #[v])).size≤sizeLine:=by rw[hF];simp[sizeLine];exact Ar.a87 h1
  wp_walk
  rw[if_neg c1]
  wp_walk
  rw[if_neg c2]
  wp_walk
  rw[if_neg c3]
  wp_walk
  try rw[if_neg c4]
  try wp_walk
  try rw[if_neg c5]
  try wp_walk
  rw[if_neg (Nat.not_lt.mpr hsz)]
  wp_walk
  rw[hF]
  exact⟨_,rfl,by simpa using h⟩
theorem Zdj(l:Addr)(v:Value)(n:Nat)(x:Int)(u:Tok)(h0:0≤x)(h1:x≤1000):
  Meets (Builtin.«list.__mul__» ⟨[.ref l,.int x u],[]⟩) (fun _ R s=>s.heap.get? l=some (seqObj "list" #[v] n)∧R (.ok (.ret (.ref s.heap.objs.size))) {s with heap:=s.heap.push (seqObj "list" (List.replicate x.toNat v).toArray 0)}):=by
 have:=AutoListH.list___mul___list_int_3 l #[v] n x u (by simp[Builtin.List.listFitsIndex];exact Ar.n0z1 (.im (.L (.k 0) (.v 0)) (.im (.L (.v 0) (.k 1000)) (.an (.L (.k (-9223372036854775808)) (.v 0)) (.T (.v 0) (.k 9223372036854775808))))) (by kernel_rfl) h0 h1) (by simp;exact Ar.a191 h1) (by simp[Builtin.List.listTooLong,sizeLine];exact Ar.a87 h1)
 simp only[Zdu]at this
 simpa using this
variable{Γ:Cfg}{A:Around}{n:Nat}
noncomputable def Op2(n:Nat)(op:Value→Value→Sem Value)(g:V→V→HM V):Prop:=
 ∀⦃A:Around⦄ ⦃w:Wd A⦄ ⦃a b:V⦄ ⦃x y:Value⦄,AOk A n→VR w a x→VR w b y→∀⦃Q E⦄,KV w Q E (g a b w.σ)→wpAny MM A (op x y) Q E w.s
theorem ZkX{op:Operator}{g:V→V→HM V}{e₁ e₂:Expr}{f₁ f₂:Fn}{pos:Pos}(o:Op2 Γ.n (binaryOp op) g)(h₁:SemE Γ e₁ f₁)(h₂:SemE Γ e₂ f₂):SemE Γ (.BinOp e₁ op e₂ pos) (eBin g f₁ f₂):=fun X l w F Q E k=>
 wpAny_BinOp (h₁.bd F k fun a w₁ x st₁ hx k₁=>h₂.bd (F.st st₁) k₁ fun b w₂ y st₂ hy k₂=>o X.hA (hx.st st₂) hy k₂)
theorem ZdA{a b:V}{x y:Value}{w:Wd A}{Q E:Value→Shared→Prop}(hx:VR w a x)(hy:VR w b y)(k:KV w Q E (addL a b w.σ)):wpAny MM A (binaryOp .Add x y) Q E w.s:=
 l1_e k hx fun{c o vs n1 _} h1 h2 h3 h4 h5 k=>l1_e k hy fun{d o2 ws n2 _} g1 g2 g3 g4 g5 k=>by
  obtain⟨cls,dd,data,sl⟩:=o
  obtain⟨cls2,dd2,data2,sl2⟩:=o2
  cases h2;cases h3;cases g2;cases g3
  refine concat_meets ⟨_,h1,rfl⟩ ⟨_,g1,rfl⟩ noFill_list_add seq_list_add PySem.F.slot_list_add PySem.F.entry_list_add (PySem.F.args_list_add_2 _ _) (list_addW c d vs ws n1 n2 dd dd2 sl sl2 ?_) ⟨h1,g1,?_⟩
  ·have e:=(h4.append g4).length
   rw[List.length_append]at e
   have:=(Zbt k).1
   rw[← e]at this;exact this
  ·rw[show vs++ws=(vs.toList++ws.toList).toArray by simp]
   exact KV.newL k (h4.append g4) _
theorem Ze4{I:IMap}{vs:Array Value}{p:List P}(h:PAll I vs.toList p)(hp:p=[]):vs.isEmpty=true:=by
 subst hp;have:=h.length;simpa using this
theorem QY{I:IMap}{vs:Array Value}{p:List P}(h:PAll I vs.toList p)(hp:p≠[]):¬vs.isEmpty=true:=by
 rw[Array.isEmpty_iff];rintro rfl;exact hp (by have:=h.length;exact List.length_eq_zero_iff.mp this.symm)
theorem Zgx{p q:List P}{x y:Value}{w:Wd A}{Q E:Value→Shared→Prop}(hx:PIn w.I x (.tuple p))(hy:PIn w.I y (.tuple q))(k:KV w Q E (newT (p++q) w.σ)):wpAny MM A (binaryOp .Add x y) Q E w.s:=
 hx.tup_e fun{t o vs n1} h1 h2 h3 h4 h5=>hy.tup_e fun{u o2 ws n2} g1 g2 g3 g4 g5=>by
  obtain⟨cls,dd,data,sl⟩:=o
  obtain⟨cls2,dd2,data2,sl2⟩:=o2
  cases h2;cases h3;cases g2;cases g3
  have ho:=w.b.keep _ _ h1
  have ho2:=w.b.keep _ _ g1
  have hz:vs.size+ws.size≤sizeLine:=by
   have e:=(h5.append g5).length
   rw[List.length_append]at e
   have:=(Zda k).1
   rw[← e]at this;exact this
  by_cases hv:p=[]
  ·subst hv
   exact concat_meets ⟨_,ho,rfl⟩ ⟨_,ho2,rfl⟩ noFill_tuple_add seq_tuple_add PySem.F.slot_tuple_add PySem.F.entry_tuple_add (PySem.F.args_tuple_add_2 _ _)
    (tuple_addW0 t u vs ws n1 n2 dd dd2 sl sl2 (Ze4 h5 rfl)) ⟨ho,ho2,KV.now (Zda k).2 (.p (.tup g1 rfl rfl g4 g5))⟩
  ·by_cases hw:q=[]
   ·subst hw
    rw[List.append_nil]at k
    exact concat_meets ⟨_,ho,rfl⟩ ⟨_,ho2,rfl⟩ noFill_tuple_add seq_tuple_add PySem.F.slot_tuple_add PySem.F.entry_tuple_add (PySem.F.args_tuple_add_2 _ _)
     (tuple_addW1 t u vs ws n1 n2 dd dd2 sl sl2 (QY h5 hv) (Ze4 g5 rfl)) ⟨ho,ho2,KV.now (Zda k).2 (.p (.tup h1 rfl rfl h4 h5))⟩
   ·refine concat_meets ⟨_,ho,rfl⟩ ⟨_,ho2,rfl⟩ noFill_tuple_add seq_tuple_add PySem.F.slot_tuple_add PySem.F.entry_tuple_add (PySem.F.args_tuple_add_2 _ _)
     (tuple_addW2 t u vs ws n1 n2 dd dd2 sl sl2 (QY h5 hv) (QY g5 hw) hz) ⟨ho,ho2,?_⟩
    rw[show vs++ws=(vs.toList++ws.toList).toArray by simp]
    exact KV.newT k (h5.append g5) _
theorem Zm3:Op2 n (binaryOp .Add) addV:=fun A w a b x y hA hx hy Q E k=>
 XD k hx (fun d hd k=>by
  cases d with
  |int i=>exact hd.int_e fun t=>i1_e k hy fun j u k=>add_int (KV.int k _)
  |tuple p=>exact t1_e k hy fun q hq k=>Zgx hd hq k
  |list _=>exact ZdA hx hy k
  |_=>exact k.elim) fun j c o hj m k=>ZdA (.ref hj) hy k
theorem Zmy:Op2 n (binaryOp .Sub) subV:=fun A w a b x y hA hx hy Q E k=>ii_e k hx hy fun i t j u k=>sub_int (KV.int k _)
theorem Xx{a:Int}(h:ZJ a=true): -1000000000≤a∧a≤1000000000:=by simpa[ZJ]using h
theorem Zbx{a:Int}(h: -1000000000≤a∧a≤1000000000):a.natAbs.log2<30:=by
 by_cases h0:a.natAbs=0
 ·rw[h0];decide
 ·rw[Nat.log2_lt h0];omega
theorem Zcm{a:Int}(h: -1000000000≤a∧a≤1000000000):Builtin.Int.intBits a≤64:=by
 have:=Zbx h
 unfold Builtin.Int.intBits
 split<;>(first|exact Ar.n0 (.l (.k 0) (.k 64)) (by kernel_rfl)|exact Ar.n1 (.im (.t (.v 0) (.k 30)) (.l (.p (.v 0) (.k 1)) (.k 64))) (by kernel_rfl) this)
theorem ZeV{a b:Int}(h: -1000000000≤b∧b≤1000000000):Builtin.divisionGoesByPylong a b=false:=by
 have:=Zbx h
 unfold Builtin.divisionGoesByPylong
 dsimp only
 rw[Bool.and_eq_false_iff]
 left
 rw[decide_eq_false_iff_not]
 split<;>omega
theorem PAll.replicate{I:IMap}{v:Value}{p:P}(h:PIn I v p)(k:Nat):PAll I (List.replicate k v) (List.replicate k p):=by
 induction k with
 |zero=>exact .nil
 |succ k ih=>exact .cons h ih
theorem PAll.one_e{I:IMap}{vs:Array Value}{p:P}{G:Array Value→Prop}(h:PAll I vs.toList [p])(k:∀v,PIn I v p→G #[v]):G vs:=by
 obtain⟨vl⟩:=vs
 cases h with
 |cons a b=>cases b;exact k _ a
theorem Zkj{α:Type}{w:Wd A}{D:α→Wd A→Prop}{E:Value→Shared→Prop}{x:List P}{f:P→HM α}{σ:Hp}{G:List P→Prop}(k:Aft w D E (one1 x f σ))(go:∀d,Aft w D E (f d σ)→G [d]):G x:=by
 cases x with
 |nil=>exact k.elim
 |cons d r=>
  cases r with
  |nil=>exact go d k
  |cons=>exact k.elim
theorem Zmz:Op2 n (binaryOp .Mult) mulV:=fun A w a b x y hA hx hy Q E k=>i1_e k hy fun m u k=>XD k hx (fun d hd k=>by
  cases d with
  |int i=>
   have k:=Wc k
   rw[Bool.and_eq_true]at k
   exact hd.int_e fun t=>mul_int (KV.int k.2 _) (.of_left (Zcm (Xx k.1.1)))
  |tuple l=>
   refine Zkj (G:=fun l=>PIn w.I x (.tuple l)→wpAny MM A (binaryOp .Mult x (.int m u)) Q E w.s) k (fun d k hd=>?_) hd
   have k:=Wc k
   have hs:=of_decide_eq_true k.1
   refine hd.tup_e fun{t o vs n1} h1 h2 h3 h4 h5=>?_
   have ho:=w.b.keep _ _ h1
   refine PAll.one_e (G:=fun vs=>o.data=.seq vs n1→_) h5 (fun v hpv h3=>?_) h3
   exact wpAny_binaryOp_repeat_ref (T:="tuple") (U:="int") (by decide) ⟨_,ho,h2⟩ (fun s'=>typeIs_int s' m u) QO F.fills_int_mul F.slot_int_rmul ZcS F.slot_int_index.lookup
    (call_meets F.slot_int_rmul (typeIs_int w.s m u) F.entry_int_rmul (F.args_int_rmul_2 _ _) (Zba m u t o _ n1 h2 h3)
     ⟨ho,rfl,⟨_,ho,h2⟩,call_meets F.slot_tuple_mul ⟨_,ho,h2⟩ F.entry_tuple_mul (F.args_tuple_mul_2 _ _) (ZbU t o v n1 m u h2 h3 hs.1 hs.2) ⟨ho,KV.newT k.2 (PAll.replicate hpv _) _⟩⟩)
  |_=>exact k.elim) fun j t o hj h k=>by
  cases h with
  |@lst l vs n1 h1 h2 h3 h4=>
   refine Zkj (G:=fun l=>PAll w.I vs.toList l→wpAny MM A (binaryOp .Mult (.ref t) (.int m u)) Q E w.s) k (fun d k hd=>?_) h3
   have k:=Wc k
   have hs:=of_decide_eq_true k.1
   refine PAll.one_e (G:=fun vs=>w.s.heap.get? t=some (seqObj "list" vs n1)→_) hd (fun v hpv h2=>?_) h2
   exact wpAny_binaryOp_repeat_ref (T:="list") (U:="int") (by decide) ⟨_,h2,rfl⟩ (fun s'=>typeIs_int s' m u) noFill_list_mul F.fills_int_mul F.slot_int_rmul repeat_list F.slot_int_index.lookup
     (call_meets F.slot_int_rmul (typeIs_int w.s m u) F.entry_int_rmul (F.args_int_rmul_2 _ _) (int___rmul___int_list m u t _ n1)
      ⟨h2,rfl,⟨_,h2,rfl⟩,call_meets F.slot_list_mul ⟨_,h2,rfl⟩ F.entry_list_mul (F.args_list_mul_2 _ _) (Zdj t v n1 m u hs.1 hs.2) ⟨h2,KV.newL k.2 (PAll.replicate hpv _) _⟩⟩)
  |_=>exact k.elim
theorem Zm0:Op2 n (binaryOp .Mod) modV:=fun A w a b x y hA hx hy Q E k=>ii_e k hx hy fun i t j u k=>have k:=Wc k;mod_int' (of_decide_eq_true k.1) (KV.int k.2 _)
theorem Zm2:Op2 n (binaryOp .FloorDiv) divV:=fun A w a b x y hA hx hy Q E k=>ii_e k hx hy fun i t j u k=>by
 have k:=Wc k
 rw[Bool.and_eq_true]at k
 exact floordiv_int_or hA.hd (fun e=>absurd e (of_decide_eq_true k.1.1)) (fun _=>KV.int k.2 _) fun _=>.inl (ZeV (Xx k.1.2))
noncomputable def OpC(n:Nat)(op:CmpOp)(g:V→V→HM Bool):Prop:=
 ∀⦃A:Around⦄ ⦃w:Wd A⦄ ⦃a b:V⦄ ⦃x y:Value⦄,AOk A n→VR w a x→VR w b y→∀⦃Q E⦄,KT w (fun c s=>Q (.bool c) s) E (g a b w.σ)→wpAny MM A (compareOp op x y) Q E w.s
theorem Zn5:OpC n .Lt ltV:=fun A w a b x y hA hx hy Q E k=>ii_e k hx hy fun i t j u k=>lt_int (Aft.now k)
theorem Zn6:OpC n .LtE leV:=fun A w a b x y hA hx hy Q E k=>ii_e k hx hy fun i t j u k=>le_int (Aft.now k)
theorem Zn7:OpC n .Gt gtV:=fun A w a b x y hA hx hy Q E k=>ii_e k hx hy fun i t j u k=>gt_int (Aft.now k)
theorem Zih{w:Wd A}{a b:V}{x y:Value}(hx:VR w a x)(hy:VR w b y){D:Bool→Wd A→Prop}{E:Value→Shared→Prop}(k:Aft w D E (eqV a b w.σ)){G:Shared→Prop}
  (go:∀{p q as bs} {w':Wd A},Reads w'.s.heap x p as→Reads w'.s.heap y q bs→p.canLay0=true→q.canLay0=true→min p.depth q.depth≤60→D (PyData.eqv p q) w'→G w'.s):G w.s:=
 Ze3 k hx fun p w₁ st₁ hp k=>Ze3 k (hy.st st₁) fun q w₂ st₂ hq k=>
  have k:=Wc k
  have hp:=hp.mono st₂.mono
  (hp.reads w₂.b.keep).elim fun _ ra=>(hq.reads w₂.b.keep).elim fun _ rb=>go ra rb hp.can hq.can (of_decide_eq_true k.1) (k.2 w₂ rfl (.refl _ _))
theorem Zn8:OpC n .Eq eqV:=fun A w a b x y hA hx hy Q E k=>Zih (G:=fun s=>wpAny MM A (compareOp .Eq x y) Q E s) hx hy k fun ra rb ca cb hd k=>SeqAt.compareEq_reads ra rb ca cb (Ar.a193 hd hA.un) k
theorem Zn4:OpC n .NotEq neV:=fun A w a b x y hA hx hy Q E k=>Zih (G:=fun s=>wpAny MM A (compareOp .NotEq x y) Q E s) hx hy (D:=fun c w=>Q (.bool (!c)) w.s) (E:=E) (Aft.hb (m:=eqV a b) k fun c w₁ st k=>Aft.now k) fun ra rb ca cb hd k=>SeqAt.neOverData _ _ _ _ _ _ _ _ _ _ _ _ ra rb ca cb (Ar.a193 hd hA.un) k
theorem ZaS{α β:Type}{M:Model}{A:Around}{E:Value→Shared→Prop}{s:Shared}{m:Sem α}{f:α→Sem β}{Q:β→Shared→Prop}(h:wpAny M A (m>>=f) Q E s):
  wpAny M A m (fun a s'=>∃Γ p,wp M Γ (f a) (fun b _ s''=>Q b s'') (fun e _ s''=>E e s'') p s') E s:=fun Γ p hΓ=>by
 have:=h Γ p hΓ
 rw[Sem.wp_bind']at this
 exact Sem.wp_mono M Γ m (fun a p' s' h'=>⟨Γ,p',h'⟩) (fun _ _ _ h'=>h') p s this
theorem Zbc{M:Model}{A:Around}{E:Value→Shared→Prop}{s:Shared}{a d:Value}{Q:Bool→Shared→Prop}(h:wpAny M A (compareOp .In a d) (fun v s'=>∃b,v=.bool b∧Q b s') E s):wpAny M A (contains d a) Q E s:=by
 have h':wpAny M A (contains d a>>=fun b=>(pure (Value.bool b):Sem Value)) (fun v s'=>∃b,v=.bool b∧Q b s') E s:=h
 refine wpAny_mono (ZaS h') (fun b s' hb=>?_) fun _ _ e=>e
 obtain⟨Γ,p,hw⟩:=hb
 rw[Sem.wp_pure']at hw
 obtain⟨c,e,q⟩:=hw
 cases e;exact q
theorem Zeb{M:Model}{A:Around}{E:Value→Shared→Prop}{s:Shared}{a d:Value}{Q:Value→Shared→Prop}(h:wpAny M A (compareOp .In a d) (fun v s'=>∃b,v=.bool b∧Q (.bool (!b)) s') E s):wpAny M A (compareOp .NotIn a d) Q E s:=by
 show wpAny M A (contains d a>>=fun b=>(pure (Value.bool (!b)):Sem Value)) Q E s
 exact wpAny_bind (wpAny_mono (Zbc h) (fun b s' hb=>wpAny_pure hb) fun _ _ e=>e)
theorem Zc4{p:P}(n:Nat)(h:ZK p=true):X3 n p=true:=by
 cases p<;>first|(cases n<;>rfl)|cases h
theorem Zeo{f:P→Bool}{n:Nat}(hf:∀p,f p=true→X3 n p=true)(ps:List P)(h:ps.all f=true):Q2 n ps=true:=List.all_eq_true.mpr fun p hp=>hf p (List.all_eq_true.mp h p hp)
theorem Zj0{p:P}(n:Nat)(h:ZhH p=true):X3 (n+1) p=true:=by
 cases p with
 |tuple ps=>exact Zeo (fun p hp=>Zc4 n hp) ps h
 |_=>exact Zc4 _ h
theorem Zjz{p:P}(n:Nat)(h:Zb1 p=true):X3 (n+2) p=true:=by
 cases p with
 |tuple ps=>exact Zeo (fun p hp=>Zj0 n hp) ps h
 |_=>exact Zc4 _ h
theorem ZhC{k:P}{G:P→Prop}(h:Ym k=true)(go:∀ps,X3 6 (.tuple ps)=true→G (.tuple ps)):G k:=by
 cases k with
 |tuple ps=>exact go ps (by exact Zeo (fun p hp=>Zjz 3 hp) ps h)
 |_=>cases h
open Classical in
inductive Look(I:IMap)(xs:List (P×Addr×Value))(l:List (P×P))(k:P):Prop
 |some (p:Addr×Value) (v:P):atKey xs k=some p→ZP k l=some v→PIn I p.2 v→Look I xs l k
 |none:atKey xs k=none→ZP k l=none→Look I xs l k
inductive ZjJ(I:IMap)(xs:List (Int×Value))(l:List (Int×P))(k:Int):Prop
 |some (p:Value) (v:P):valueAt xs k=some p→Qs k l=some v→PIn I p v→ZjJ I xs l k
 |none:valueAt xs k=none→Qs k l=none→ZjJ I xs l k
open Classical in
theorem ZbI{I:IMap}{k:P}(hk:X3 6 k=true){xs:List (P×Addr×Value)}{l:List (P×P)}(h:DV I xs l):Look I xs l k:=by
 induction h with
 |nil=>exact .none rfl rfl
 |@cons k' a v p xs ys b c d e ih=>
  have q:=Zcw c hk
  by_cases h:k'=k
  ·exact .some (a,v) p (by simp[atKey,h]) (by simp[ZP,q.mpr h]) d
  ·have e1:atKey ((k',a,v)::xs) k=atKey xs k:=by simp[atKey,List.find?_cons,h]
   have e2:ZP k ((k',p)::ys)=ZP k ys:=by simp[ZP,Bool.eq_false_iff.mpr fun z=>h (q.mp z)]
   cases ih with
   |some a b c d e=>exact .some a b (e1.trans c) (e2.trans d) e
   |none a b=>exact .none (e1.trans a) (e2.trans b)
theorem ZcH{I:IMap}{k:Int}{xs:List (Int×Value)}{l:List (Int×P)}(h:IV I xs l):ZjJ I xs l k:=by
 induction h with
 |nil=>exact .none rfl rfl
 |@cons k' v p xs ys b e ih=>
  by_cases h:k'=k
  ·exact .some v p (by simp[valueAt,h]) (by simp[Qs,h]) b
  ·have e1:valueAt ((k',v)::xs) k=valueAt xs k:=by simp[valueAt,List.find?_cons,h]
   have e2:Qs k ((k',p)::ys)=Qs k ys:=by simp[Qs,h]
   cases ih with
   |some a b c d e=>exact .some a b (e1.trans c) (e2.trans d) e
   |none a b=>exact .none (e1.trans a) (e2.trans b)
open Classical in
theorem Zm1:OpC n .In inV:=fun A w a b x y hA hx hy Q E k=>pV_e k hx fun kp hkp k=>XD k hy (fun _ _ k=>k.elim) fun j c o hj m k=>by
 cases m with
 |frz=>exact k.elim
 |lst h1 h2 h3 h4=>
  have k:=Wc k
  obtain⟨as,ra⟩:=h3.reads w.b.keep
  obtain⟨bs,rb⟩:=hkp.reads w.b.keep
  exact SeqAt.in_list_reads (.list h2 rfl rfl ra) rb h3.can hkp.can (Ar.a527 (of_decide_eq_true k.1) hA.un) (Aft.now k.2)
 |@tdct l ys h1 h2 h3 h4 h5=>
  have k:=Wc k
  refine ZhC (G:=fun kp=>PIn w.I x kp→KT w (fun c s=>Q (.bool c) s) E (hp (ZP kp l).isSome w.σ)→wpAny MM A (compareOp .In x (.ref c)) Q E w.s) k.1 (fun ps hk6 hkp k=>hkp.tup_r fun a hkp=>?_) hkp k.2
  refine wpAny_in_heap (knd:=pk U.prog U.w) (k:=.tuple ps) (by show A.in1.units+100<cLine;simp only[Around.in1_units];exact Ar.a86 hA.un) (hkp.key w.b.keep 6 hk6) h2 h4 ?_
  cases ZbI hk6 h5 with
  |some p v q1 q2 _=>rw[q1];rw[q2]at k;exact k (w.tok _) rfl (w.st_tok _)
  |none q1 q2=>rw[q1];rw[q2]at k;exact k (w.tok _) rfl (w.st_tok _)
 |@idct l ys h1 h2 h3 h4 h5=>
  have hkp':VR w (.p kp) x:=.p hkp
  refine i1_e k hkp' fun i t k=>?_
  refine wpAny_in_of (knd:=intKind U.prog U.w) (k:=i) (intKind_is _ _ _ _) h2 h4.mapOf ?_
  have L:ZjJ w.I ys l i:=ZcH h5
  cases L with
  |some p v q1 q2 _=>rw[q1];rw[q2]at k;exact k (w.tok _) rfl (w.st_tok _)
  |none q1 q2=>rw[q1];rw[q2]at k;exact k (w.tok _) rfl (w.st_tok _)
theorem Zjl:OpC n .NotIn Xz:=fun A w a b x y hA hx hy Q E k=>Zeb (Zm1 hA hx hy (Aft.hb (m:=inV a b) k fun c w₁ st k=>⟨c,rfl,Aft.now k⟩))
end
section
open PySem.Calls PyProof.Rows
set_option genInjectivity false
variable{Γ:Cfg}{A:Around}{n:Nat}
theorem Zmt{t e₁ e₂:Expr}{tt:Tn}{f₁ f₂:Fn}{pos:Pos}(ht:SemT Γ t tt)(h₁:SemE Γ e₁ f₁)(h₂:SemE Γ e₂ f₂):SemE Γ (.IfExp t e₁ e₂ pos) (eIf tt f₁ f₂):=fun X l w F Q E k=>
 wpAny_IfExp (ht.bd F k fun b w₁ st k=>by
  cases b with
  |true=>exact h₁ _ _ _ (F.st st) _ _ k
  |false=>exact h₂ _ _ _ (F.st st) _ _ k)
theorem ZkW{op:CmpOp}{g:V→V→HM Bool}{e₁ e₂:Expr}{f₁ f₂:Fn}{pos:Pos}(o:OpC Γ.n op g)(h₁:SemE Γ e₁ f₁)(h₂:SemE Γ e₂ f₂)(hm:behindInMarks op e₂=false):SemE Γ (.Compare e₁ [op] [e₂] pos) (eCmp g f₁ f₂):=fun X l w F Q E k=>
 wpAny_Compare1 (h₁.bd F k fun a w₁ x st₁ hx k=>h₂.bd (F.st st₁) k fun b w₂ y st₂ hy k=>o X.hA (hx.st st₂) hy (k.hb fun c w₃ st₃ k=>KV.now k (.p (.bool c)))) hm
theorem ZiX{op:CmpOp}{g:V→V→HM Bool}{e₁ e₂:Expr}{f₁ f₂:Fn}{pos:Pos}(o:OpC Γ.n op g)(h₁:SemE Γ e₁ f₁)(h₂:SemE Γ e₂ f₂)(hm:behindInMarks op e₂=false):SemT Γ (.Compare e₁ [op] [e₂] pos) (tCmp g f₁ f₂):=fun X l w F Q E k=>
 wpAny_isTrue_Compare1 (h₁.bd F k fun a w₁ x st₁ hx k=>h₂.bd (F.st st₁) k fun b w₂ y st₂ hy k=>o X.hA (hx.st st₂) hy (k.imp fun c w₃ _ k=>wpAny_truthy_bool k)) hm
theorem ZiW{e:Expr}{t:Tn}{pos:Pos}(h:SemT Γ e t):SemT Γ (.UnaryOp .Not e pos) (tNot t):=fun X l w F Q E k=>isTrue_not (h.bd F k fun b w₁ st k=>Aft.now k)
theorem ZiY{e₁ e₂:Expr}{t₁ t₂:Tn}{pos:Pos}(h₁:SemT Γ e₁ t₁)(h₂:SemT Γ e₂ t₂):SemT Γ (.BoolOp .And [e₁,e₂] pos) (tAnd t₁ t₂):=fun X l w F Q E k=>by
 show wpAny _ X.A (isTrue e₁ X.env (eval e₁ X.env)>>=_) Q E w.s
 refine wpAny_bind (h₁.bd F k fun b w₁ st k=>?_)
 cases b with
 |false=>exact wpAny_pure (Aft.now k)
 |true=>exact wpAny_bind (m:=isTrue e₂ X.env (eval e₂ X.env)) (h₂ _ _ _ (F.st st) _ _ (Aft.imp k fun c w₂ _ k=>by cases c<;>exact wpAny_pure k))
theorem Zla{e₁ e₂:Expr}{t₁ t₂:Tn}{pos:Pos}(h₁:SemT Γ e₁ t₁)(h₂:SemT Γ e₂ t₂):SemT Γ (.BoolOp .Or [e₁,e₂] pos) (tOr t₁ t₂):=fun X l w F Q E k=>by
 show wpAny _ X.A (isTrue e₁ X.env (eval e₁ X.env)>>=_) Q E w.s
 refine wpAny_bind (h₁.bd F k fun b w₁ st k=>?_)
 cases b with
 |true=>exact wpAny_pure (Aft.now k)
 |false=>exact wpAny_bind (m:=isTrue e₂ X.env (eval e₂ X.env)) (h₂ _ _ _ (F.st st) _ _ (Aft.imp k fun c w₂ _ k=>by cases c<;>exact wpAny_pure k))
theorem ZfJ{op₁ op₂:CmpOp}{g₁ g₂:V→V→HM Bool}{e₁ e₂ e₃:Expr}{f₁ f₂ f₃:Fn}{pos:Pos}(o₁:OpC Γ.n op₁ g₁)(o₂:OpC Γ.n op₂ g₂)(h₁:SemE Γ e₁ f₁)(h₂:SemE Γ e₂ f₂)(h₃:SemE Γ e₃ f₃)
  (hm:lastMarks [op₁,op₂] [e₂,e₃]=false):SemT Γ (.Compare e₁ [op₁,op₂] [e₂,e₃] pos) (ZeN g₁ g₂ f₁ f₂ f₃):=fun X l w F Q E k=>by
 refine isTrue_chain (h₁.bd F k fun a w₁ y st₁ hy k=>?_) hm
 refine wpAny_bind (m:=holding [y] (eval e₂ X.env)) (wpAny_holding (h₂.bd (F.st st₁) k fun b w₂ z st₂ hz k=>wpAny_bind (wpAny_standAt ?_)))
 refine wpAny_bind (wpAny_holding (o₁ X.hA (hy.st st₂) hz (k.hb fun c w₃ st₃ k=>wpAny_bind (wpAny_release (wpAny_bind (wpAny_holding (wpAny_truthy_bool ?_)))))))
 cases c with
 |false=>exact wpAny_pure (Aft.now k)
 |true=>
  refine wpAny_bind (m:=holding [z] (eval e₃ X.env)) (wpAny_holding (h₃.bd (((F.st st₁).st st₂).st st₃) k fun d w₄ u st₄ hu k=>wpAny_bind (wpAny_standAt (wpAny_bind (wpAny_operate' ?_)))))
  exact o₂ X.hA (hz.st (st₃.trans st₄)) hu (k.imp fun c w₅ _ k=>wpAny_holding (wpAny_truthy_bool k))
theorem ZiE{w:Wd A}{v:V}{y:Value}(hy:VR w v y){Q:Bool→Shared→Prop}{E:Value→Shared→Prop}(k:KT w Q E (Zaf v w.σ)):wpAny MM A (truthy y) Q E w.s:=XD k hy (fun d hd k=>by
  cases d with
  |bool b=>exact hd.bool_e (wpAny_truthy_bool (Aft.now k))
  |_=>exact k.elim) fun j c o hj m k=>by
  cases m with
  |@lst l vs m h1 h2 h3 h4=>
   have he:vs.isEmpty=l.isEmpty:=by
    cases l with
    |nil=>exact Ze4 h3 rfl
    |cons=>exact Bool.eq_false_iff.mpr (QY h3 (List.cons_ne_nil _ _))
   refine wpAny_truthy_list ⟨_,h2,rfl,_,rfl⟩ (by have hz:=h3.length;have hs:=sizeLine_eq;simp at hz;omega) ?_
   rw[he]
   exact k (w.tok _) rfl (w.st_tok _)
  |_=>exact k.elim
theorem Zcb{e:Expr}{f:Fn}(h:SemE Γ e f)(hw:∀env,isTrue e env (eval e env)=(do let v ← eval e env;standAt e.pos;holding [v] (truthy v))):SemT Γ e (tVal f):=fun X l w F Q E k=>isTrue_plain (h.bd F k fun a w₁ y st hy k=>ZiE hy k) (hw _)
inductive Idx(k:Int)(m:Nat):Nat→Prop
 |front:0≤k→seqIndex? k m=some k.toNat→k.toNat<m→Idx k m k.toNat
 |back:k<0→ -(m:Int)≤k→seqIndex? k m=some (k+m).toNat→(k+m).toNat<m→Idx k m (k+m).toNat
theorem Idx.seq{k:Int}{m j:Nat}(h:Idx k m j):seqIndex? k m=some j∧j<m:=by
 cases h with
 |front a b c=>exact⟨b,c⟩
 |back a b c d=>exact⟨c,d⟩
theorem ZhN{k:Int}{m j:Nat}(h:idx? k m=some j):Idx k m j:=by
 unfold idx? at h
 by_cases h0:0≤k
 ·rw[if_pos h0]at h
  by_cases h1:k.toNat<m
  ·rw[if_pos h1]at h;cases h
   refine .front h0 ?_ h1
   unfold seqIndex?
   dsimp only
   rw[if_neg (show¬k<0 by exact Ar.n0z1 (.im (.L (.k 0) (.v 0)) (.no (.T (.v 0) (.k 0)))) (by kernel_rfl) h0),if_pos (by simp;omega)]
  ·rw[if_neg h1]at h;cases h
 ·rw[if_neg h0]at h
  by_cases h1:0≤k+m
  ·rw[if_pos h1]at h;cases h
   refine .back (Ar.a194 h0) (Ar.n1z1 (.im (.L (.k 0) (.p (.v 0) (.c (.v 0)))) (.L (.g (.c (.v 0))) (.v 0))) (by kernel_rfl) h1) ?_ (by omega)
   unfold seqIndex?
   dsimp only
   rw[if_pos (show k<0 by exact Ar.a194 h0),if_pos (by simp;exact Ar.n1z1 (.im (.L (.k 0) (.p (.v 0) (.c (.v 0)))) (.im (.no (.L (.k 0) (.v 0))) (.an (.L (.k 0) (.p (.v 0) (.c (.v 0)))) (.T (.p (.v 0) (.c (.v 0))) (.c (.v 0)))))) (by kernel_rfl) h1 h0)]
  ·rw[if_neg h1]at h;cases h
noncomputable def Zhu(e:Expr):Prop:=∀o i,subscripted e false o i=operate [o,i] (getItem o i)
noncomputable def Gets(A:Around)(s:Shared)(Q E:Value→Shared→Prop)(x y:Value):Prop:=wpAny MM A (getItem x y) Q E s∧∃T id,s.TypeIs x T∧typeLookup (.type T) "__getitem__"=pure (some (.builtin id))
theorem ZhG{w:Wd A}{D:V→Wd A→Prop}{E:Value→Shared→Prop}{l:List P}{b:V}{y:Value}{G:Value→Prop}(k:Aft w D E (Y9 l b w.σ))(hy:VR w b y)(go:∀i t j p,Idx i l.length j→l[j]?=some p→Aft w D E (some (.ok (.p p),w.σ))→G (.int i t)):G y:=by
 refine i1_e k hy fun i t k=>?_
 cases e:idx? i l.length with
 |none=>rw[e]at k;exact k.elim
 |some j=>
  cases e2:l[j]? with
  |none=>rw[e,Option.bind_some,e2]at k;exact k.elim
  |some p=>rw[e,Option.bind_some,e2]at k;exact go i t j p (ZhN e) e2 k
theorem Za3{w:Wd A}{a:Addr}{o:Obj}{vs:Array Value}{m:Nat}{l:List P}{b:V}{y:Value}{Q E:Value→Shared→Prop}(h1:w.s.heap.get? a=some o)(h2:o.cls=.type "list")(h3:o.data=.seq vs m)(h4:PAll w.I vs.toList l)(h5:l.length≤sizeLine)
  (hy:VR w b y) (k:KV w Q E (Y9 l b w.σ)):Gets A w.s Q E (.ref a) y:=by
 refine ZhG k hy fun i t j p hj hp k=>⟨?_,_,_,⟨_,h1,h2⟩,slot_list_getitem.lookup⟩
 obtain⟨v,hv,hpv⟩:=h4.get hp
 have hq:=KV.now k (.p hpv)
 have hsz:vs.size=l.length:=by rw[← h4.length];simp
 have hs:=sizeLine_eq
 cases hj with
 |front h0 _ hlt=>exact wpAny_getItem_list ⟨o,h1,h2,m,h3⟩ h0 (by omega) (by simpa using hv) hq
 |back h0 h1' _ hlt=>exact wpAny_getItem_list_neg ⟨o,h1,h2,m,h3⟩ h0 (by rw[hsz];exact h1') (Ar.a184 h1' hs h5) (by rw[hsz];simpa using hv) hq
theorem Zgd{w:Wd A}{l:List P}{b:V}{x y:Value}{Q E:Value→Shared→Prop}(hx:PIn w.I x (.tuple l))(hy:VR w b y)(k:KV w Q E (Y9 l b w.σ)):Gets A w.s Q E x y:=hx.tup_e fun{a o vs m} a1 a2 a3 a4 a5=>by
 refine ZhG k hy fun i t j p hj hp k=>?_
 obtain⟨v,hv,hpv⟩:=a5.get hp
 have ht:IsTup w.s.heap _ _:=⟨_,w.b.keep _ _ a1,a2,_,a3⟩
 have hsz:vs.size=l.length:=by rw[← a5.length];simp
 have hs:=sizeLine_eq
 refine⟨getItem_tuple ht ?_ ?_ (by rw[hsz];exact hj.seq.1) (by simpa using hv) (KV.now k (.p hpv)),_,_,ht.typeIs,slot_tuple_getitem.lookup⟩
 ·cases hj with
  |front h0=>omega
  |back h0 h1=>omega
 ·cases hj with
  |front h0 _ hlt=>omega
  |back h0 h1=>omega
open Classical in
theorem ZhF{w:Wd A}{c:Addr}{l:List (P×P)}{ys:List (P×Addr×Value)}{b:V}{y:Value}{Q E:Value→Shared→Prop}(hA:AOk A n)(h2:(c==sysModules)=false)(h4:w.s.heap.DictOfH (pk U.prog U.w) c ys)(h5:DV w.I ys l)(hy:VR w b y)(k:KV w Q E (Zl5 l b w.σ)):Gets A w.s Q E (.ref c) y:=by
 refine pV_e k hy fun kp hkp k=>?_
 have k:=Wc k
 refine ZhC (G:=fun kp=>PIn w.I y kp→KV w Q E (match ZP kp l with|some v=>some (.ok (.p v),w.σ)|none=>none)→Gets A w.s Q E (.ref c) y) k.1 (fun ps hk6 hkp k=>hkp.tup_r fun a hkp=>?_) hkp k.2
 cases ZbI hk6 h5 with
 |some p v q1 q2 q3=>
  rw[q2]at k
  exact⟨wpAny_getItem_heap (knd:=pk U.prog U.w) (k:=.tuple ps) (by show A.in1.units+100<cLine;simp only[Around.in1_units];exact Ar.a86 hA.un) (hkp.key w.b.keep 6 hk6) h4 q1 (KV.tok k (.p q3) _),_,_,h4.typeIs,slot_dict_getitem.lookup⟩
 |none q1 q2=>rw[q2]at k;exact k.elim
theorem ZhE{w:Wd A}{a b:V}{x y:Value}{Q E:Value→Shared→Prop}(hA:AOk A n)(hx:VR w a x)(hy:VR w b y)(k:KV w Q E (Zd a b w.σ)):Gets A w.s Q E x y:=XD k hx (fun d hd k=>by
  cases d with
  |tuple l=>exact Zgd hd hy k
  |list l=>exact hd.lst_e fun a1 a2 a3 a4 a5=>Za3 (w.b.keep _ _ a1) a2 a3 a5 a4 hy k
  |_=>exact k.elim) fun j c o hj m k=>by
  cases m with
  |lst h1 h2 h3 h4=>exact Za3 h2 rfl rfl h3 h4 hy k
  |frz h=>exact h.lst_e (G:=fun v=>Gets A w.s Q E v y) fun a1 a2 a3 a4 a5=>Za3 (w.b.keep _ _ a1) a2 a3 a5 a4 hy k
  |tdct h1 h2 h3 h4 h5=>exact ZhF hA h2 h4 h5 hy k
  |idct=>exact k.elim
theorem ZiP{e₁ e₂:Expr}{f₁ f₂:Fn}{pos:Pos}(h₁:SemE Γ e₁ f₁)(h₂:SemE Γ e₂ f₂)(hs:Zhu e₂):SemE Γ (.Subscript e₁ e₂ pos) (eBin Zd f₁ f₂):=fun X l w F Q E k=>
 Subscript_ (h₁.bd F k fun a w₁ x st₁ hx k=>h₂.bd (F.st st₁) k fun b w₂ y st₂ hy k=>(ZhE X.hA (hx.st st₂) hy k).elim fun w1 h=>h.elim fun T h=>h.elim fun id h=>tail_any h.1 h.2 w1 (hs _ _))
end
section
open PySem.Calls PyProof.Rows
set_option genInjectivity false
variable{Γ:Cfg}{A:Around}{n:Nat}
theorem Zgw(a b m:Nat)(hab:a≤b)(hb:b≤m):Builtin.Slice.sliceAdjust (some (a:Int)) (some (b:Int)) 1 (m:Int)=((a:Int),(b:Int)):=by
 unfold Builtin.Slice.sliceAdjust
 have h1:¬((1:Int)<0):=by decide
 have h2:∀a:Nat,¬((a:Int)<0):=fun a=>Ar.a195
 simp only[h1,h2,if_false]
 rw[Int.min_eq_left (Int.ofNat_le.mpr hb),Int.min_eq_left (Int.ofNat_le.mpr (Nat.le_trans hab hb))]
theorem ZmC(d:Nat)(a:Int):(if a<a+d then(a+d - a - 1)+1 else 0).toNat=d:=by
 cases d with
 |zero=>simp
 |succ d=>rw[if_pos (by omega),show a+(d+1:Nat) - a - 1+1=(d+1:Nat)by omega];rfl
theorem ZfR(a b:Nat)(hab:a≤b):Builtin.Slice.slicePlaces (a:Int) (b:Int) 1=b - a:=by
 obtain⟨d,rfl⟩:=Nat.le.dest hab
 unfold Builtin.Slice.slicePlaces
 rw[if_pos (by decide),Int.ediv_one,Nat.add_sub_cancel_left,Int.natCast_add]
 exact ZmC d a
theorem nat2{i j:Int}{n:Nat}{G:Int→Int→Prop}(h:0≤i∧i≤j∧j≤n)(k:∀a b:Nat,a≤b→b≤n→G a b):G i j:=by
 obtain⟨a,rfl⟩:=Int.eq_ofNat_of_zero_le h.1
 obtain⟨b,rfl⟩:=Int.eq_ofNat_of_zero_le (Int.le_trans h.1 h.2.1)
 exact k a b (Int.ofNat_le.mp h.2.1) (Int.ofNat_le.mp h.2.2)
theorem Zlh(items:Array Value)(a b:Nat):((List.range (b - a)).filterMap fun(k:Nat)=>items[((a:Int)+(k:Int)*1).toNat]?).toArray=((items.toList.drop a).take (b - a)).toArray:=by
 have e:(fun(k:Nat)=>items[((a:Int)+(k:Int)*1).toNat]?)=fun k=>items[a+k]?:=by
  funext k
  rw[Int.mul_one,← Int.natCast_add,Int.toNat_natCast]
 rw[e]
 have:=pick_run items a (b - a)
 rw[List.filterMap_map]at this
 exact congrArg _ this
theorem ZbZ{s:Shared}{sl:Addr}{a b m:Nat}{u v:Tok}{R:Int×Int×Nat→Shared→Prop}{E':Value→Shared→Prop}{A':Around}(hs:s.heap.IsSliceOf sl (.int a u) (.int b v) .none)(hab:a≤b)(hb:b≤m)(hR:R ((a:Int),1,b - a) s):
  wpAny MM A' (Builtin.Slice.sliceApplied (.ref sl) (pure (m:Int))) R E' s:=by
 obtain⟨os,hos,hcs,hds⟩:=id hs
 unfold Builtin.Slice.sliceApplied Builtin.Slice.sliceFields
 refine wpAny_bind (wpAny_bind (wpAny_field hos hds (x:=.int a u) rfl (wpAny_bind (wpAny_field hos hds (x:=.int b v) rfl (wpAny_bind (wpAny_field hos hds (x:=.none) rfl (wpAny_pure ?_)))))))
 refine wpAny_bind (slicePart_none ?_)
 show wpAny _ _ (if((1:Int)==0)=true then _ else _) _ _ s
 rw[if_neg (by decide)]
 refine wpAny_bind (slicePart_int (wpAny_bind (slicePart_int (wpAny_bind (wpAny_pure ?_)))))
 show wpAny _ _ (match Builtin.Slice.sliceAdjust (some (a:Int)) (some (b:Int)) 1 (m:Int)with|(lo,hi)=>pure (lo,(1:Int),Builtin.Slice.slicePlaces lo hi 1)) _ _ s
 rw[Zgw a b _ hab hb]
 show wpAny _ _ (pure ((a:Int),(1:Int),Builtin.Slice.slicePlaces (a:Int) (b:Int) 1)) _ _ s
 rw[ZfR a b hab]
 exact wpAny_pure hR
theorem Qv{s:Shared}{t sl:Addr}{items:Array Value}{a b:Nat}{u v:Tok}{Q E:Value→Shared→Prop}(ht:IsTup s.heap t items)(hs:s.heap.IsSliceOf sl (.int a u) (.int b v) .none)(hab:a≤b)(hb:b≤items.size)(hn:b - a<items.size)
  (h:Q (.ref s.heap.objs.size) {s with heap:=s.heap.push {cls:=.type "tuple",data:=.seq ((items.toList.drop a).take (b - a)).toArray}})
  (hsz:items.size≤sizeLine):wpAny MM A (getItem (.ref t) (.ref sl)) Q E s:=by
 have hdrop:sizeOk (.seq ((items.toList.drop a).take (b - a)).toArray):=by
  show((items.toList.drop a).take (b - a)).toArray.size≤sizeLine
  rw[List.size_toArray,List.length_take,List.length_drop,Array.length_toList]
  exact Ar.a534 hsz
 obtain⟨os,hos,hcs,hds⟩:=id hs
 have hTs:s.TypeIs (.ref sl) "slice":=⟨os,hos,hcs⟩
 unfold getItem
 try with_reducible refine wpAny_holding ?_
 first|refine wpAny_bind (wpAny_pure ?_)|skip
 refine wpAny_bind (wpAny_sequenceKey ht.typeIs (by decide) ?_)
 refine wpAny_bind (wpAny_callSpecial?_slot (name:=Str.ofString "__getitem__") ht.typeIs slot_tuple_getitem
  (wpAny_call_entry slot_tuple_getitem ht.typeIs entry_tuple_getitem ?_ (args_tuple_getitem _ _)))
 show wpAny _ _ (Builtin.Tuple.tupleItemsOf (.ref t)>>=_) _ _ s
 refine wpAny_bind (tupleItemsOf_ ht ?_)
 refine wpAny_bind (wpAny_typeOf hTs ?_)
 rw[if_pos (by decide)]
 refine wpAny_bind (ZbZ hs hab hb ?_)
 have hno:¬(((a:Int)==0&&(1:Int)==1&&(b - a)==items.size)=true):=by
  have:((b - a)==items.size)=false:=by rw[beq_eq_false_iff_ne];exact Ar.n3 (.im (.t (.s (.v 0) (.v 1)) (.v 2)) (.no (.e (.s (.v 0) (.v 1)) (.v 2)))) (by kernel_rfl) hn
  rw[this];simp
 show wpAny _ _ (if((a:Int)==0&&(1:Int)==1&&(b - a)==items.size)=true then _ else _) _ _ s
 rw[if_neg hno,Zlh]
 first
  |exact wpAny_bind (m:=Builtin.Tuple.tupleExact _) (wpAny_newObj_type (wpAny_pure ⟨_,rfl,wpAny_pure h⟩) hdrop)
  |exact wpAny_bind (m:=Builtin.Tuple.tupleExact _) (wpAny_newObj_type (wpAny_bind (wpAny_pure (wpAny_pure ⟨_,rfl,wpAny_pure h⟩))) hdrop)
  |exact wpAny_bind (wpAny_bind (m:=Builtin.Tuple.tupleExact _) (wpAny_newObj_type (wpAny_pure (wpAny_pure ⟨_,rfl,wpAny_pure h⟩)) hdrop))
  |exact wpAny_bind (wpAny_bind (m:=Builtin.Tuple.tupleExact _) (wpAny_newObj_type (wpAny_pure ⟨_,rfl,wpAny_pure h⟩) hdrop))
noncomputable def Wd.junk(w:Wd A)(o:Obj)(t:Nat):Wd A:=w.chg _ t (.push w o)
theorem Wd.st_junk(w:Wd A)(o:Obj)(t:Nat):St [] w (w.junk o t):=(Chg.push w o).st t
theorem PAll.run{I:IMap}{vs:List Value}{ps:List P}(h:PAll I vs ps)(i j:Int):PAll I ((vs.drop i.toNat).take (j - i).toNat) ((ps.drop i.toNat).take (j - i).toNat):=(h.drop _).take _
noncomputable abbrev slO(x y:Value):Obj:={cls:=.type "slice",data:=.fields #[x,y,.none]}
theorem ZmI{a b n:Nat}(hab:a≤b)(h:(b:Int) - a<n):b - a<n:=by
 rw[← Int.ofNat_sub hab]at h;exact Int.ofNat_lt.mp h
theorem ZgN{w:Wd A}{l:List P}{x:Value}{i j:Int}{t1 t2:Tok}{Q E:Value→Shared→Prop}(hx:PIn w.I x (.tuple l))(k:KV w Q E (hif (decide (0≤i∧i≤j∧j≤l.length∧j - i<l.length)) (newT ((l.drop i.toNat).take (j - i).toNat)) w.σ)):
  (w.junk (slO (.int i t1) (.int j t2)) w.s.toks).s.TypeIs x "tuple"∧wpAny MM A (getItem x (.ref w.s.heap.objs.size)) Q E (w.junk (slO (.int i t1) (.int j t2)) w.s.toks).s:=hx.tup_e fun{c o vs m} g1 g2 g3 g4 g5=>by
 have k:=Wc k
 have hij:=of_decide_eq_true k.1
 have k:=k.2
 have hsz:vs.size=l.length:=by rw[← g5.length];simp
 have hg:=w.b.keep _ _ g1
 refine nat2 (G:=fun i j=>KV w Q E (newT ((l.drop i.toNat).take (j - i).toNat) w.σ)→j - i<l.length→(w.junk (slO (.int i t1) (.int j t2)) w.s.toks).s.TypeIs (.ref c) "tuple"∧wpAny MM A (getItem (.ref c) (.ref w.s.heap.objs.size)) Q E (w.junk (slO (.int i t1) (.int j t2)) w.s.toks).s) ⟨hij.1,hij.2.1,hij.2.2.1⟩ (fun a b h1 h2 k h3=>?_) k hij.2.2.2
 rw[Int.toNat_natCast,Int.toNat_sub]at k
 refine⟨⟨o,Heap.get?_push_of_some _ hg,g2⟩,Qv ⟨o,Heap.get?_push_of_some _ hg,g2,m,g3⟩ (Heap.IsSliceOf.new ..) h1 (hsz▸h2) (hsz▸ZmI h1 h3) ?_ (by rw[hsz];exact g4)⟩
 exact KV.newT (w:=w.junk (slO (.int a t1) (.int b t2)) w.s.toks) (k.after (fun _ _ _ h=>h) (w.st_junk _ _)) ((g5.drop a).take (b - a)) _
theorem ZfG{e₁ e₂ e₃:Expr}{f₁ f₂ f₃:Fn}{p pos:Pos}(h₁:SemE Γ e₁ f₁)(h₂:SemE Γ e₂ f₂)(h₃:SemE Γ e₃ f₃)(ht:∀o r,letTemporaryGo e₁ o r=pure ()):
  SemE Γ (.Subscript e₁ (.Slice (some e₂) (some e₃) none p) pos) (ZbG ZjY f₁ f₂ f₃):=fun X l w F Q E k=>
 wpAny_Subscript_Slice (T:="tuple") slot_tuple_getitem.lookup (h₁.bd F k fun a w₁ x st₁ hx k=>wpAny_Slice (h₂.bd (F.st st₁) k fun b w₂ y st₂ hy k=>h₃.bd ((F.st st₁).st st₂) k fun c w₃ z st₃ hz k=>by
  rw[evalPart_none]
  refine wpAny_pure (t1_e k (hx.st (st₂.trans st₃)) fun l hl k=>ii_e k (hy.st st₃) hz fun i t j u k=>?_)
  exact ZgN hl k)) ht
theorem ZfD(vs:Array Value){i j:Int}{n:Nat}(h:0≤i∧i≤j∧j≤n):vs.size=n→slicePick vs (some i) (some j) none=((vs.toList.drop i.toNat).take (j - i).toNat).toArray:=
 nat2 (G:=fun i j=>vs.size=n→slicePick vs (some i) (some j) none=((vs.toList.drop i.toNat).take (j - i).toNat).toArray) h fun a b h1 h2 e=>by
  rw[Int.toNat_natCast,Int.toNat_sub]
  exact slicePick_run vs a b (by rw[e];exact h2) h1
theorem ZfH{e₁ e₂ e₃:Expr}{f₁ f₂ f₃:Fn}{p pos:Pos}(h₁:SemE Γ e₁ f₁)(h₂:SemE Γ e₂ f₂)(h₃:SemE Γ e₃ f₃)(ht:∀o r,letTemporaryGo e₁ o r=pure ()):
  SemE Γ (.Subscript e₁ (.Slice (some e₂) (some e₃) none p) pos) (ZbG ZgO f₁ f₂ f₃):=fun X l w F Q E k=>
 wpAny_Subscript_Slice (T:="list") slot_list_getitem.lookup (h₁.bd F k fun a w₁ x st₁ hx k=>wpAny_Slice (h₂.bd (F.st st₁) k fun b w₂ y st₂ hy k=>h₃.bd ((F.st st₁).st st₂) k fun c w₃ z st₃ hz k=>by
  rw[evalPart_none]
  refine wpAny_pure (l1_e k (hx.st (st₂.trans st₃)) fun{c o vs m l} g1 g2 g3 g4 g5 k=>ii_e k (hy.st st₃) hz fun i t j u k=>⟨⟨o,Heap.get?_push_of_some _ g1,g2⟩,?_⟩)
  have hsz:vs.size=l.length:=by rw[← g4.length];simp
  refine wpAny_getItem_list_slice (lo:=some i) (hi:=some j) (st:=none) ⟨o,Heap.get?_push_of_some _ g1,g2,m,g3⟩ (Heap.IsSliceOf.new ..) (.int _ _) (.int _ _) .none (by simp) ?_ (by rw[hsz];exact g5)
  have k:=Wc k
  rw[ZfD vs (of_decide_eq_true k.1) hsz]
  exact KV.newL (w:=w₃.junk (slO (.int i t) (.int j u)) w₃.s.toks) (k.2.after (fun _ _ _ h=>h) (w₃.st_junk _ _)) ((g4.drop _).take _) _)) ht
theorem ZiQ{e₁:Expr}{f₁:Fn}{q:Nat}{p1 p2 p pos:Pos}(h₁:SemE Γ e₁ f₁)(ht:∀o r,letTemporaryGo e₁ o r=pure ()):
  SemE Γ (.Subscript e₁ (.Slice none (some (.UnaryOp .USub (.Constant (.int 1) q p1) p2)) none p) pos) (eOp1 ZhK f₁):=fun X l w F Q E k=>
 wpAny_Subscript_Slice (T:="list") slot_list_getitem.lookup (h₁.bd F (g:=ZhK) k fun a w₁ x st₁ hx k=>wpAny_Slice (by
  rw[evalPart_none]
  refine wpAny_pure (UnaryOp_ (wpAny_Constant_int (neg_int (wpAny_pure ?_))))
  refine l1_e k hx fun{c o vs m l} g1 g2 g3 g4 g5 k=>⟨⟨o,Heap.get?_push_of_some _ g1,g2⟩,?_⟩
  have hsz:vs.size=l.length:=by rw[← g4.length];simp
  refine wpAny_getItem_list_slice (lo:=none) (hi:=some (-1)) (st:=none) ⟨o,Heap.get?_push_of_some _ g1,g2,m,g3⟩ (Heap.IsSliceOf.new ..) .none (.int _ _) .none (by simp) ?_ (by rw[hsz];exact g5)
  have e:slicePick vs none (some (-1)) none=(vs.toList.take (l.length - 1)).toArray:=by
   have:=slicePick_butLast vs 1 (by exact Ar.a56)
   rw[hsz]at this;exact this
  rw[e]
  rw[List.dropLast_eq_take]at k
  exact KV.newL (w:=w₁.junk (slO .none (.int (-1) (w₁.s.toks+1))) (w₁.s.toks+1+1)) (k.after (fun _ _ _ h=>h) (w₁.st_junk _ _)) (g4.take _) _)) ht
end
section
open PySem.Calls PyProof.Rows
set_option genInjectivity false
variable{Γ:Cfg}{A:Around}{n:Nat}
theorem Zlr{K:Frag}{h:Heap}{mg:Str→Option Value}{x:Str}(X:K.In h)(G:h.Ns mainGlobals mg)(e:nsIn K mainGlobals x=some none):mg x=none:=by
 obtain⟨o,es,ep,ho,hd,_,hf⟩:=G
 unfold nsIn at e
 split at e
 ·rename_i c d es' n' sl q
  have:=X _ _ q
  rw[ho]at this
  cases this
  cases hd
  split at e
  ·cases e
  ·rename_i he
   rw[← hf]
   unfold nsFind findBy
   rw[← Array.find?_toList,he]
   rfl
 ·cases e
noncomputable def Xr(x:Str)(v:Value):Prop:=nsIn U.K mainGlobals x=some (some v)∨(nsIn U.K mainGlobals x=some none∧bootBuiltins x=some v∧x≠"__name__")
theorem Qt{env:Env}{x:Str}{v:Value}{s:Shared}{M:Model}{Q E:Value→Shared→Prop}(hkind:env.scope.kind=.function)(hg:env.globals=mainGlobals)(hb:env.builtins=builtinsNs)(hK:∀a o,U.h₀.get? a=some o→s.heap.get? a=some o)
  (hko:env.kindOf x=some .globalImplicit) (hv:Xr x v) (h:Q v s):wpAny M A (loadName env x) Q E s:=by
 unfold loadName
 simp only[Env.blockKind,hkind,hko,ScopeKind.isAnnotationScope,Bool.false_and,Bool.false_eq_true,if_false]
 unfold loadGlobal
 rw[hg,hb]
 refine wpAny_bind (wpAny_nsGet (U.G.keeps hK) ?_)
 rcases hv with hv|⟨hv,hb,hx⟩
 ·rw[mg_of U.KX U.G hv];exact wpAny_pure h
 ·rw[Zlr U.KX U.G hv]
  refine wpAny_bind (wpAny_nsGet (U.B.keeps hK) ?_)
  rw[U.boot x hx,hb]
  exact wpAny_pure h
theorem Wj{X:Fx Γ}{w:Wd X.A}{x:Str}{pos:Pos}{v:Value}{M:Model}{Q E:Value→Shared→Prop}(hk:Γ.sc.names.lookup x=some .globalImplicit)(hv:Xr x v)(h:Q v w.s)(hd:(x==("__debug__":Str))=false):
  wpAny M X.A (eval (.Name x pos) X.env) Q E w.s:=wpAny_Name (Qt X.hk X.glob X.bui w.K (X.ko hk) hv h) hd
structure ZdD(x:Str):Prop where
 get:plainGet U.K U.dC x=true
 dict:hasDictIn U.K U.dC=true
 cls:findIn U.K (.ref U.dC) x=some none
theorem PIn.handed{I:IMap}{v:Value}{p:P}(h:PIn I v p):handedIn v=true:=by cases h<;>rfl
theorem FR.fr{X:Fx Γ}{l:Loc}{w:Wd X.A}(f:FR X l w):∃m,Fr U.h₀ X.env.locals w.s.heap m:=f.loc.elim fun m hm=>⟨m,hm,w.K,X.above⟩
theorem Zfy{w:Wd A}{x:Addr}{d:Addr}{es:List DictEntry}{m:Nat}(h1:w.I x=some (instObj U.dC d))(h2:w.I d=some (dictOf es m)):W.InstAt w.s.heap x (instObj U.dC d) U.dC (some (dictOf es m)):=⟨w.b.keep _ _ h1,rfl,rfl,w.b.keep _ _ h2⟩
noncomputable def Ziw:List Str:=["tops","nodes","book","memo"]
theorem ZiV{e:Expr}{f:Fn}{x:Str}{pos:Pos}(i:Nat)(h:SemE Γ e f)(a:ZdD x)(hi:Ziw[i]?=some x)
  (he:∀env,eval (.Attribute e x pos) env=(do
     let o ← eval e env
     standAt pos.atName
     let r ← holding [o] (getAttr o x true)
     letTemporaryGo e o r
     pure r)):SemE Γ (.Attribute e x pos) (ZT f i):=fun X l w F Q E k=>by
 refine Attribute_any_ (h.bd F (g:=fun a=>Znj a i) k fun v w₁ y st hy k=>?_) (he _)
 cases hy with
 |p=>exact k.elim
 |ref=>exact k.elim
 |dia hy=>
  cases hy with|mk d es nn vt an ab am h1 h2 h3 h4 h5 h6 h7 h8 h9 h10 h11=>
  obtain⟨m,hfr⟩:=(F.st st).fr
  have go:∀{v:Value},getL x es=some (some v)→handedIn v=true→_→wpAny MM X.A (getAttr (.ref _) x true) Q E w₁.s:=fun hl hh hq=>
   get_own hfr U.KX (Zfy h1 h2) a.get a.dict a.cls rfl hl hh hq
  match i,hi with
  |0,hi=>cases hi;exact go h3 h8.handed (KV.tok k (.p h8) _)
  |1,hi=>cases hi;exact go h4 rfl (KV.tok k (.ref h9) _)
  |2,hi=>cases hi;exact go h5 rfl (KV.tok k (.ref h10) _)
  |3,hi=>cases hi;exact go h6 rfl (KV.tok k (.ref h11) _)
  |n+4,hi=>cases hi
noncomputable def XS(n:Nat)(adr:Nat→Addr)(cf:CF):Prop:=
 ∀⦃A:Around⦄ ⦃w:Wd A⦄ ⦃id:Nat⦄ ⦃vs:List V⦄ ⦃ys:List Value⦄,AOk A n→VRs w vs ys→∀⦃Q E⦄,KV w Q E (cf id vs w.σ)→wpAny MM A (call (.ref (adr id)) ys) Q E w.s
structure Zk1(adr:Nat→Addr)(x:Str)(id:Nat):Prop where
 glob:nsIn U.K mainGlobals x=some (some (.ref (adr id)))
 keep:keepIn U.K (.ref (adr id))=true
structure Zi2(adr:Nat→Addr)(x:Str)(id:Nat):Prop where
 cls:findIn U.K (.ref U.dC) x=some (some (.ref (adr id)))
 get:plainGet U.K U.dC x=true
 fn:isFn U.K (.ref (adr id))=true
 keep:keepIn U.K (.ref (adr id))=true
 free:x≠"tops"∧x≠"nodes"∧x≠"book"∧x≠"memo"
theorem Xq(es:List Expr)(pos:Pos)(env:Env)(h:(es.all fun e=>!isStarred e)=true):((backTo pos (starEach es env)).any (·.1))=false:=by
 induction es with
 |nil=>rfl
 |cons e es ih=>
  rw[List.all_cons,Bool.and_eq_true]at h
  rw[Y0 (by simpa using h.1)]
  show(false||(backTo pos (starEach es env)).any (·.1))=false
  rw[ih h.2];rfl
theorem Zc1{es:List Expr}{f:Value}{first:List Value}{pos:Pos}(hs:(es.all fun e=>!isStarred e)=true)(hk:keepIn U.K f=true){env:Env}{s:Shared}{Q E:Value→Shared→Prop}
  (main:wpAny MM A (spliced (backTo pos (starEach es env))) (fun vs s₁=>U.K.In s₁.heap∧wpAny MM A (call f (first++vs)) Q E s₁) E s):wpAny MM A (callWith pos f first (backTo pos (starEach es env)) []) Q E s:=by
 refine callWith_of (P:=U.K.In) (by rw[Xq es pos env hs];rfl) (keeps_K hk) ?_
 cases es with
 |nil=>
  show wpAny _ A (spliced []>>=_) _ E s
  exact wpAny_bind (wpAny_mono (t:=spliced []) main (fun vs s₁ h₁=>wpAny_bind (wpAny_pure (wpAny_holding (wpAny_bind (wpAny_pure (wpAny_bind (wpAny_pure (wpAny_pure h₁)))))))) fun _ _ x=>x)
 |cons e es=>
  rw[List.all_cons,Bool.and_eq_true]at hs
  rw[Y0 (by simpa using hs.1)]at main ⊢
  exact evalArgs_plain main
theorem WC{es:List Expr}{fs:List Fn}{f:Value}{first:List Value}{pos:Pos}(h:Ww Γ es fs)(hs:(es.all fun e=>!isStarred e)=true)(hk:keepIn U.K f=true){X:Fx Γ}{l:Loc}{w:Wd X.A}(F:FR X l w){g:List V→HM V}{Q E:Value→Shared→Prop}(k:KV w Q E (hb (YV fs l) g w.σ))
  (go:∀vs (w₁:Wd X.A) ys,St [] w w₁→VRs w₁ vs ys→KV w₁ Q E (g vs w₁.σ)→wpAny MM X.A (call f (first++ys)) Q E w₁.s):wpAny MM X.A (callWith pos f first (backTo pos (starEach es X.env)) []) Q E w.s:=
 Zc1 hs hk (h.bd F k fun vs w₁ ys st hy k=>⟨U.KX.keeps w₁.K,go vs w₁ ys st hy k⟩)
theorem ZiT{adr:Nat→Addr}{cf:CF}(hcf:XS Γ.n adr cf){x:Str}{np pos:Pos}{es:List Expr}{fs:List Fn}{id:Nat}(hx:Zk1 adr x id)(h:Ww Γ es fs)
  (hk:Γ.sc.names.lookup x=some .globalImplicit) (hd:(x==("__debug__":Str))=false) (hs:(es.all fun e=>!isStarred e)=true):SemE Γ (.Call (.Name x np) es [] pos) (Zq cf id fs):=fun X l w F Q E k=>
 wpAny_bind (m:=eval (.Name x np) X.env) (f:=fun f=>callWith pos f [] (backTo pos (starEach es X.env)) (backToKw pos (keywordEach [] X.env))) (Wj hk (.inl hx.glob) (WC h hs hx.keep F k fun vs w₁ ys st hy k=>hcf X.hA hy k) hd)
theorem Zee{o:Expr}{x:Str}{apos pos:Pos}{es:List Expr}(hb:∀env w,attributeBase o x env w=w)(hf:∀env,methodCallForm (es.length+0) (backTo pos (starEach es env)) []=true)(hl:(apos.endLine==pos.line)=true)(env:Env):
  eval (.Call (.Attribute o x apos) es [] pos) env=(do
   let ov ← eval o env
   standAt apos.atName
   let(f,first) ← holding [ov] (getMethod ov x (do return (← importBound o env).getD true))
   callWith pos f first (backTo pos (starEach es env)) []):=by
 show(do
  let ov ← attributeBase o x env (eval o env)
  standAt apos.atName
  methodCall o x apos pos env ov (es.length+0) (backTo pos (starEach es env)) [])=_
 rw[hb]
 have h1:∀ov,methodCall o x apos pos env ov (es.length+0) (backTo pos (starEach es env)) []=(do
   let(f,first) ← holding [ov] (getMethod ov x (do return (← importBound o env).getD true))
   callWith pos f first (backTo pos (starEach es env)) []):=fun ov=>by
  unfold methodCall calleeOf methodCallPos
  rw[hf env,hl]
  rfl
 simp only[h1]
noncomputable def diaV(a:V)(m:HM V):HM V:=match a with
 | .dia ..=>m
 |_=>hn
noncomputable def eDia(cf:CF)(id:Nat)(f:Fn)(fs:List Fn):Fn:=fun l=>hb (f l) fun a=>diaV a (hb (YV fs l) fun vs=>cf id (a::vs))
theorem ZiL{adr:Nat→Addr}{cf:CF}(hcf:XS Γ.n adr cf){x:Str}{apos pos:Pos}{o:Expr}{f:Fn}{es:List Expr}{fs:List Fn}{id:Nat}(hx:Zi2 adr x id)(ho:SemE Γ o f)(h:Ww Γ es fs)
  (hs:(es.all fun e=>!isStarred e)=true)
  (hB0:∀env w,attributeBase o x env w=w) (hF0:∀env,methodCallForm (es.length+0) (backTo pos (starEach es env)) []=true) (hL0:(apos.endLine==pos.line)=true):SemE Γ (.Call (.Attribute o x apos) es [] pos) (eDia cf id f fs):=fun X l w F Q E k=>by
 refine MethodCall_ (ho.bd F k fun v w₁ y st hy k=>?_) (Zee hB0 hF0 hL0 X.env)
 cases hy with
 |p=>exact k.elim
 |ref=>exact k.elim
 |dia hd=>
  have hy:VR w₁ _ _:=.dia hd
  cases hd with|mk d es' nn vt an ab am h1 h2 h3 h4 h5 h6 h7 h8 h9 h10 h11=>
  obtain⟨m,hfr⟩:=(F.st st).fr
  exact method_inst hfr U.KX (Zfy h1 h2) hx.get hx.cls hx.fn (h7 x hx.free.1 hx.free.2.1 hx.free.2.2.1 hx.free.2.2.2) (WC h hs hx.keep (F.st st) k fun vs w₂ ys st₂ hys k=>hcf X.hA (.cons (hy.st st₂) hys) k)
noncomputable def eFn(g:List V→HM V)(fs:List Fn):Fn:=fun l=>hb (YV fs l) g
noncomputable def g0(m:HM V):List V→HM V
 |[]=>m
 |_=>hn
noncomputable def g1(op:V→HM V):List V→HM V
 |[a]=>op a
 |_=>hn
noncomputable def g2(op:V→V→HM V):List V→HM V
 |[a,b]=>op a b
 |_=>hn
noncomputable def Z7(op:V→List V→HM V)(f:Fn)(fs:List Fn):Fn:=fun l=>hb (f l) fun a=>lV a fun _ _=>hb (YV fs l) fun vs=>op a vs
noncomputable def ZkI(m:HM Unit):HM V:=hb m fun _=>hp (.p .none)
noncomputable def Zx(a:V):List V→HM V:=g1 fun v=>ZkI (Wm a v)
noncomputable def Zhz(a:V):List V→HM V:=g1 fun v=>ZkI (ZaB a v)
noncomputable def mPop(a:V):List V→HM V:=g0 (popV a)
noncomputable def Zfc(a:V):List V→HM V:=g0 (ZkI (QT a))
section
variable{w:Wd A}{D:V→Wd A→Prop}{E:Value→Shared→Prop}{vs:List V}{ys:List Value}{G:List Value→Prop}
@[elab_as_elim] theorem g0_e {m:HM V} (k:Aft w D E (g0 m vs w.σ)) (hys:VRs w vs ys) (go:Aft w D E (m w.σ)→G []):G ys:=by
 cases hys with
 |nil=>exact go k
 |cons=>exact k.elim
@[elab_as_elim] theorem g1_e {op:V→HM V} (k:Aft w D E (g1 op vs w.σ)) (hys:VRs w vs ys) (go:∀a y,VR w a y→Aft w D E (op a w.σ)→G [y]):G ys:=by
 cases hys with
 |nil=>exact k.elim
 |cons h t=>
  cases t with
  |nil=>exact go _ _ h k
  |cons=>exact k.elim
@[elab_as_elim] theorem g2_e {op:V→V→HM V} (k:Aft w D E (g2 op vs w.σ)) (hys:VRs w vs ys) (go:∀a b y z,VR w a y→VR w b z→Aft w D E (op a b w.σ)→G [y,z]):G ys:=by
 cases hys with
 |nil=>exact k.elim
 |cons h t=>
  cases t with
  |nil=>exact k.elim
  |cons h2 t=>
   cases t with
   |nil=>exact go _ _ _ _ h h2 k
   |cons=>exact k.elim
end
noncomputable def FnN(n:Nat)(fv:Value)(g:List V→HM V):Prop:=∀⦃A:Around⦄ ⦃w:Wd A⦄ ⦃vs:List V⦄ ⦃ys:List Value⦄,AOk A n→VRs w vs ys→∀⦃Q E⦄,KV w Q E (g vs w.σ)→wpAny MM A (call fv ys) Q E w.s
noncomputable def ZhI:Value→Bool
 | .builtin _=>true
 | .type _=>true
 |_=>false
theorem YE{e:Expr}{es:List Expr}{f:Value}(hb':ZhI f=true){first:List Value}{pos:Pos}(hs:((e::es).all fun e=>!isStarred e)=true){env:Env}{s:Shared}{Q E:Value→Shared→Prop}
  (main:wpAny MM A (spliced (backTo pos (starEach (e::es) env))) (fun vs s₁=>wpAny MM A (call f (first++vs)) Q E s₁) E s):
  wpAny MM A (callWith pos f first (backTo pos (starEach (e::es) env)) []) Q E s:=by
 have hp':=Xq (e::es) pos env hs
 rw[List.all_cons,Bool.and_eq_true]at hs
 have he:=Y0 (es:=es) (env:=env) (by simpa using hs.1:isStarred e=false)
 rw[he]at main hp' ⊢
 cases f with
 |builtin id=>exact Calls.callWith_builtin hp' (evalArgs_plain main)
 |type T=>exact PySem.callWith_type hp' (evalArgs_plain main)
 |_=>cases hb'
theorem Zmu{fv:Value}{g:List V→HM V}{x:Str}{np pos:Pos}{e:Expr}{es:List Expr}{fs:List Fn}(o:FnN Γ.n fv g)(hx:Xr x fv)(h:Ww Γ (e::es) fs)(hb':ZhI fv=true)
  (hk:Γ.sc.names.lookup x=some .globalImplicit) (hd:(x==("__debug__":Str))=false) (hs:((e::es).all fun e=>!isStarred e)=true):SemE Γ (.Call (.Name x np) (e::es) [] pos) (eFn g fs):=fun X l w F Q E k=>
 wpAny_bind (m:=eval (.Name x np) X.env) (f:=fun f=>callWith pos f [] (backTo pos (starEach (e::es) X.env)) (backToKw pos (keywordEach [] X.env))) (Wj hk hx (YE hb' hs (h.bd F k fun vs w₁ ys st hy k=>o X.hA hy k)) hd)
theorem Y8{I:IMap}{vs:Array Value}{l:List P}(h:PAll I vs.toList l):vs.size=l.length:=h.length
theorem ZmX:FnN n (.builtin "len") (g1 lenV):=fun A w vs ys hA hys Q E k=>g1_e k hys fun a y hy k=>by
 have hs:=sizeLine_eq
 have lst:∀{c o vs m} {l:List P},w.s.heap.get? c=some o→o.cls=.type "list"→o.data=.seq vs m→PAll w.I vs.toList l→l.length≤sizeLine→KV w Q E (hp (.p (.int l.length)) w.σ)→wpAny MM A (call (.builtin "len") [.ref c]) Q E w.s:=fun{c o vs m l} h1 h2 h3 h4 h5 k=>by
  have hz:=Y8 h4
  refine len_list ⟨o,h1,h2,m,h3⟩ (Ar.a58 hz hs h5) ?_
  rw[hz]
  exact KV.int k _
 refine XD k hy (fun d hd k=>?_) fun j c o hj m k=>?_
 ·cases d with
  |tuple l=>
   exact hd.tup_e fun{a o vs m} a1 a2 a3 a4 a5=>by
    have hz:=Y8 a5
    refine PyProof.Rows.len_tuple ⟨o,w.b.keep _ _ a1,a2,m,a3⟩ (Ar.a58 hz hs a4) ?_
    rw[hz]
    exact KV.int k _
  |list l=>exact hd.lst_e fun a1 a2 a3 a4 a5=>lst (w.b.keep _ _ a1) a2 a3 a5 a4 k
  |_=>exact k.elim
 ·cases m with
  |lst h1 h2 h3 h4=>exact lst h2 rfl rfl h3 h4 k
  |frz h=>exact h.lst_e (G:=fun v=>wpAny MM A (call (.builtin "len") [v]) Q E w.s) fun a1 a2 a3 a4 a5=>lst (w.b.keep _ _ a1) a2 a3 a5 a4 k
  |idct h1 h2 h3 h4 h5=>
   have hz:=h5.len
   refine call_len_dict h2 h4 (Ar.a58 hz hs h3) ?_
   rw[hz]
   exact KV.int k _
  |_=>exact k.elim
theorem Zgf{I:IMap}{vs:List Value}{l:List P}(h:PAll I vs l):∀{is:List Int},ZaZ l=some is→∃xs:List (Int×Tok),vs=xs.map (fun p=>Value.int p.1 p.2)∧xs.map (·.1)=is:=by
 induction l generalizing vs with
 |nil=>intro is e;cases h;cases e;exact⟨[],rfl,rfl⟩
 |cons p ps ih=>
  intro is e
  cases p with
  |int i=>
   cases h with
   |cons a b=>
   simp only[ZaZ]at e
   cases e2:ZaZ ps with
   |none=>rw[e2]at e;cases e
   |some js=>
    rw[e2]at e;cases e
    obtain⟨xs,rfl,rfl⟩:=ih b e2
    exact a.int_e (G:=fun v=>∃xs':List (Int×Tok),v::xs.map (fun p=>Value.int p.1 p.2)=xs'.map (fun p=>Value.int p.1 p.2)∧xs'.map (·.1)=i::xs.map (·.1)) fun t=>⟨(i,t)::xs,rfl,rfl⟩
  |_=>cases e
theorem Zlq(l:List Int):∀a:Int,(minL a l=a∨minL a l∈l)∧minL a l≤a∧∀b∈l,minL a l≤b:=by
 induction l with
 |nil=>intro a;simp[minL]
 |cons b r ih=>
  intro a
  simp only[minL]
  by_cases hb:b<a
  ·rw[if_pos hb]
   obtain⟨h1,h2,h3⟩:=ih b
   exact⟨.inr (h1.elim (fun h=>by rw[h];exact List.mem_cons_self) (List.mem_cons_of_mem _)),Int.le_trans h2 (Int.le_of_lt hb),fun c hc=>(List.mem_cons.mp hc).elim (fun e=>e▸h2) (h3 c)⟩
  ·rw[if_neg hb]
   obtain⟨h1,h2,h3⟩:=ih a
   exact⟨h1.imp id (List.mem_cons_of_mem _),h2,fun c hc=>(List.mem_cons.mp hc).elim (fun e=>e▸Int.le_trans h2 (Int.not_lt.mp hb)) (h3 c)⟩
theorem ZmF{xs:List (Int×Tok)}{x:Int}{r:List Int}(e2:xs.map (·.1)=x::r){j:Nat}(q1:j≤xs.toArray.size - 1)(q2:∀i≤xs.toArray.size - 1,numAt xs.toArray j≤numAt xs.toArray i):minL x r=numAt xs.toArray j:=by
 have hlen:xs.length=r.length+1:=by rw[← List.length_map (f:=(·.1)),e2];rfl
 obtain⟨p1,p2,p3⟩:=Zlq r x
 have num:∀i,numAt xs.toArray i=(x::r).getD i 0:=fun i=>by rw[numAt_eq];simp[e2]
 have hmem:(x::r).getD j 0∈x::r:=getD_mem (by simp at q1 ⊢;exact Ar.n3 (.im (.e (.v 2) (.p (.v 1) (.k 1))) (.im (.l (.v 0) (.s (.v 2) (.k 1))) (.t (.v 0) (.p (.v 1) (.k 1))))) (by kernel_rfl) hlen q1)
 refine Int.le_antisymm ?_ ?_
 ·rw[num]
  exact(List.mem_cons.mp hmem).elim (fun h=>by rw[h];exact p2) (p3 _)
 ·have go:∀i,i<(x::r).length→minL x r=(x::r).getD i 0→numAt xs.toArray j≤minL x r:=fun i hi he=>by
   rw[he,← num]
   exact q2 i (by simp at hi ⊢;exact Ar.n3 (.im (.e (.v 1) (.p (.v 2) (.k 1))) (.im (.t (.v 0) (.p (.v 2) (.k 1))) (.l (.v 0) (.s (.v 1) (.k 1))))) (by kernel_rfl) hlen hi)
  rcases p1 with h|h
  ·exact go 0 (by simp) (by simp[h])
  ·obtain⟨i,hi,he⟩:=mem_getD h
   exact go (i+1) (by simp;exact Ar.a72 hi) (by simpa using he.symm)
theorem ZmW:FnN n (.builtin "min") (g1 minV):=fun A w vs ys hA hys Q E k=>g1_e k hys fun a y hy k=>l1_e k hy fun{c o vs m l} g1 g2 g3 g4 g5 k=>by
 cases hi:ZaZ l with
 |none=>rw[hi]at k;exact k.elim
 |some is=>
 rw[hi]at k
 obtain⟨xs,e1,e2⟩:=Zgf g4 hi
 cases is with
 |nil=>exact k.elim
 |cons x r=>
 have hvs:vs=intItems xs.toArray:=by
  apply Array.toList_inj.mp
  rw[e1];simp[intItems]
 subst hvs
 have hlen:xs.length=r.length+1:=by rw[← List.length_map (f:=(·.1)),e2];rfl
 refine min_intList hA.hd ⟨o,g1,g2,m,g3⟩ (by simp;exact Ar.n2 (.im (.e (.v 0) (.p (.v 1) (.k 1))) (.t (.k 0) (.v 0))) (by kernel_rfl) hlen) fun v h' tk hv hk=>?_
 obtain⟨t,rfl⟩:=intItems_at hv
 obtain⟨q1,q2⟩:=argBest_lt (numAt xs.toArray) (xs.toArray.size - 1)
 have k':KV w Q E (some (.ok (.p (.int (minL x r))),w.σ)):=k
 rw[ZmF e2 q1 q2]at k'
 exact KV.grow k' (.p (.int _ _)) hk _
theorem ZlH:FnN n (.builtin "min") (g2 ZaY):=fun A w vs ys hA hys Q E k=>g2_e k hys fun a b y z hy hz k=>ii_e k hy hz fun i t j u k=>min_two_ints hA.hd fun h' tk hk=>by
 by_cases h:j<i
 ·rw[if_pos h]at k ⊢;exact KV.grow k (.p (.int _ _)) hk _
 ·rw[if_neg h]at k ⊢;exact KV.grow k (.p (.int _ _)) hk _
theorem ZlI:FnN n (.builtin "max") (g2 ZmG):=fun A w vs ys hA hys Q E k=>g2_e k hys fun a b y z hy hz k=>ii_e k hy hz fun i t j u k=>max_two_ints hA.hd fun h' tk hk=>by
 by_cases h:j>i
 ·rw[if_pos h]at k ⊢;exact KV.grow k (.p (.int _ _)) hk _
 ·rw[if_neg h]at k ⊢;exact KV.grow k (.p (.int _ _)) hk _
theorem Zj9:FnN n (.type "tuple") (g1 YQ):=fun A w vs ys hA hys Q E k=>g1_e k hys fun a y hy k=>l1_e k hy fun{c o vs m l} g1 g2 g3 g4 g5 k=>
 call_tuple_list ⟨o,g1,g2,m,g3⟩ (fun h' hk=>KV.newT (w:=w.chg h' w.s.toks (.grow w hk)) (vs:=vs.toList) (k.after (fun _ _ _ h=>h) ((Chg.grow w hk).st _)) g4 w.s.toks) (Y8 g4▸g5)
noncomputable def MthN(n:Nat)(id:String)(op:V→List V→HM V):Prop:=
 ∀⦃A:Around⦄ ⦃w:Wd A⦄ ⦃a:V⦄ ⦃x:Value⦄ ⦃vs:List V⦄ ⦃ys:List Value⦄,AOk A n→VR w a x→VRs w vs ys→∀⦃Q E⦄,KV w Q E (op a vs w.σ)→wpAny MM A (call (.builtin id) (x::ys)) Q E w.s
structure Wn(x:Str)(id:String):Prop where
 slot:Slot "list" x id
 ty:typeOf (.builtin id)=pure (.type "method_descriptor")
theorem ZfC:Wn "append" "list.append":=⟨PySem.F.slot_list_append,PySem.F.type_list_append⟩
theorem ZfB:Wn "extend" "list.extend":=⟨PySem.F.slot_list_extend,PySem.F.type_list_extend⟩
theorem ZdN:Wn "reverse" "list.reverse":=⟨PySem.F.slot_list_reverse,PySem.F.type_list_reverse⟩
theorem ZkL:Wn "pop" "list.pop":=⟨PySem.F.slot_list_pop,PySem.F.type_list_pop⟩
theorem Zdd{w:Wd A}{a:V}{y:Value}{id:String}{x:Str}(hx:Wn x id){m:HM V}{Q E:Value→Shared→Prop}(k:KV w Q E (lV a (fun _ _=>m) w.σ))(hy:VR w a y){pl:Sem Bool}{R:Value×List Value→Shared→Prop}(go:KV w Q E (m w.σ)→R (.builtin id,[y]) w.s):
  wpAny MM A (getMethod y x pl) R E w.s:=
 lV_e (G:=fun y=>(KV w Q E (m w.σ)→R (.builtin id,[y]) w.s)→wpAny MM A (getMethod y x pl) R E w.s) k hy (fun{j l c vs n} _ _ h2 _ _ k go=>getMethod_builtin ⟨_,h2,rfl⟩ PySem.F.plainAttrs_list hx.slot hx.ty (fun a e=>by cases e;exact⟨_,h2,rfl⟩) (go k)) go
theorem ZgW{id:String}{op:V→List V→HM V}{x:Str}{apos pos:Pos}{o:Expr}{f:Fn}{e:Expr}{es:List Expr}{fs:List Fn}(mo:MthN Γ.n id op)(hx:Wn x id)(ho:SemE Γ o f)(h:Ww Γ (e::es) fs)
  (hs:((e::es).all fun e=>!isStarred e)=true)
  (hB0:∀env w,attributeBase o x env w=w) (hF0:∀env,methodCallForm ((e::es).length+0) (backTo pos (starEach (e::es) env)) []=true) (hL0:(apos.endLine==pos.line)=true):SemE Γ (.Call (.Attribute o x apos) (e::es) [] pos) (Z7 op f fs):=fun X l w F Q E k=>
 MethodCall_ (ho.bd F k fun v w₁ y st hy k=>Zdd hx k hy fun k=>YE rfl hs (h.bd (F.st st) k fun vs w₂ ys st₂ hys k=>mo X.hA (hy.st st₂) hys k)) (Zee hB0 hF0 hL0 X.env)
theorem ZfI{id:String}{op:V→List V→HM V}{x:Str}{apos pos:Pos}{o:Expr}{f:Fn}(mo:MthN Γ.n id op)(hx:Wn x id)(ho:SemE Γ o f)
  (hB0:∀env w,attributeBase o x env w=w) (hF0:∀env,methodCallForm (([]:List Expr).length+0) (backTo pos (starEach [] env)) []=true) (hL0:(apos.endLine==pos.line)=true):SemE Γ (.Call (.Attribute o x apos) [] [] pos) (Z7 op f []):=fun X l w F Q E k=>
 MethodCall_ (ho.bd F k fun v w₁ y st hy k=>Zdd hx k hy fun k=>PyProof.Rows.callWith_method0 (mo X.hA hy .nil k)) (Zee hB0 hF0 hL0 X.env)
theorem Zcd{w:Wd A}{j:Nat}{o:MObj}{Q E:Value→Shared→Prop}(k:KV w Q E (hb (put1 j o) (fun _=>hp (.p .none)) w.σ)){w':Wd A}(e:w'.σ=w.σ.set j o)(st:St [] w w'):Q .none w'.s:=k w' e st .none (.p .none)
theorem ZbT{s:Shared}{c:Addr}{vs:Array Value}{m:Nat}(f:Array Value→Array Value)(h:s.heap.get? c=some (seqObj "list" vs m)):∃m',(s.heap.update c (Obj.mapSeq f)).get? c=some (seqObj "list" (f vs) m'):=⟨_,get?_update_seq h f⟩
theorem Zaz{I:IMap}{c:Addr}{vs:Array Value}{n:Nat}{l:List P}{h':Heap}(hi:I c=none)(ho:h'.get? c=some (seqObj "list" vs n))(hp:PAll I vs.toList l)(hl:l.length≤sizeLine):Keep I h'→MRel I h' c (.lst l):=fun _=>.lst hi ho hp hl
theorem ZmT{α β:Type}{w:Wd A}{D:β→Wd A→Prop}{E:Value→Shared→Prop}{c:Bool}{m:HM α}{g:α→HM β}{σ:Hp}(k:Aft w D E (hb (hif c m) g σ)):c=true∧Aft w D E (hb m g σ):=by
 cases c with
 |false=>exact k.elim
 |true=>exact⟨rfl,k⟩
theorem lV_b{α β:Type}{a:V}{f:Nat→List P→HM α}{g:α→HM β}{σ:Hp}:hb (lV a f) g σ=lV a (fun j l=>hb (f j l) g) σ:=by
 unfold lV Qm hb
 cases a with
 |p=>rfl
 |dia=>rfl
 |ref j=>
  dsimp only
  cases σ[j]? with
  |none=>rfl
  |some o=>cases o<;>rfl
theorem Zly{l:List P}{p:P}(h:l.length<lim):(l++[p]).length≤sizeLine:=by
 rw[List.length_append];exact Nat.le_trans (Nat.succ_le_of_lt h) (by decide)
theorem ZfV:MthN n "list.append" Zx:=fun A w a x vs ys hA hx hys Q E k=>g1_e k hys fun v y hy k=>
 Ze3 (G:=fun s=>wpAny MM A (call (.builtin "list.append") [x,y]) Q E s) (Aft.assoc (m:=asP v) (f:=fun p=>lV a fun j l=>hif (decide (l.length<lim)) (put1 j (.lst (l++[p])))) k) hy fun p w₁ st hp k=>by
  rw[lV_b]at k
  refine lV_e k (hx.st st) fun{j l c vs m} hj h1 h2 h3 h4 k=>?_
  have k:=ZmT k
  have hl:=of_decide_eq_true k.1
  refine append_at (hsz:=Nat.le_trans (Nat.le_of_eq (Y8 h3)) (Zh5 hl)) h2 fun h' hs ho=>?_
  have m:=Zaz h1 ho (by simpa using h3.append (.cons hp .nil)) (Zly hl)
  exact Zcd k.2 (w':=w₁.setM hj h' _ hs h1 m w₁.s.toks) rfl (w₁.st_setM _ _ _ _ _ _ _)
theorem ZfU:MthN n "list.extend" Zhz:=fun A w a x vs ys hA hx hys Q E k=>g1_e k hys fun v y hy k=>by
 have k:KV w Q E (hb (ZaB a v) (fun _=>hp (.p .none)) w.σ):=k
 unfold ZaB at k
 rw[lV_b]at k
 refine lV_e k hx fun{j l c vs m} hj h1 h2 h3 h4 k=>?_
 rw[lV_b]at k
 refine lV_e k hy fun{i r d ws m2} hi g1 g2 g3 g4 k=>?_
 have k:=ZmT k
 have hd:=k.1
 rw[Bool.and_eq_true]at hd
 have z3:=Zh6 (of_decide_eq_true hd.2)
 have z1:=Y8 h3
 have z2:=Y8 g3
 have z4:=sizeLine_eq
 obtain⟨m',ho⟩:=ZbT (·++ws) h2
 have M:=Zaz h1 ho (by simpa using h3.append g3) (by rw[List.length_append];exact z3)
 exact call_meets PySem.F.slot_list_extend ⟨_,h2,rfl⟩ PySem.F.entry_list_extend (PySem.F.args_list_extend_2 _ _) (PySem.AutoSeq1.list_extend_list_list_0 c vs m d ws m2 (by simp[Builtin.List.listTooLong];clear M ho hd k hi hj h1 h2 h3 h4 g1 g2 g3 g4 hys hx hy hA;omega) (Ar.a490 z1 z3) (Ar.a491 z1 z2 z3)) ⟨h2,g2,Zcd k.2 (w':=w.setM hj _ _ (Heap.SameBut.update w.s.heap c (Obj.mapSeq (·++ws))) h1 M w.s.toks) rfl (w.st_setM _ _ _ _ _ _ _)⟩
theorem Zec:MthN n "list.reverse" Zfc:=fun A w a x vs ys hA hx hys Q E k=>g0_e k hys fun k=>by
 have k:KV w Q E (hb (QT a) (fun _=>hp (.p .none)) w.σ):=k
 unfold QT at k
 rw[lV_b]at k
 refine lV_e k hx fun{j l c vs m} hj h1 h2 h3 h4 k=>?_
 obtain⟨m',ho⟩:=ZbT (·.reverse) h2
 have M:=Zaz h1 ho (by simpa using h3.reverse) (by rw[List.length_reverse];exact h4)
 exact call_meets PySem.F.slot_list_reverse ⟨_,h2,rfl⟩ PySem.F.entry_list_reverse (PySem.F.args_list_reverse_1 _) (PySem.AutoSeq1.list_reverse_list_0 c vs m (Ar.a8 (Y8 h3) h4)) ⟨h2,Zcd k (w':=w.setM hj _ _ (Heap.SameBut.update w.s.heap c (Obj.mapSeq (·.reverse))) h1 M w.s.toks) rfl (w.st_setM _ _ _ _ _ _ _)⟩
theorem PAll.dropLast{I:IMap}{vs:List Value}{ps:List P}(h:PAll I vs ps):PAll I vs.dropLast ps.dropLast:=by
 rw[List.dropLast_eq_take,List.dropLast_eq_take,h.length];exact h.take _
theorem Zlo:MthN n "list.pop" mPop:=fun A w a x vs ys hA hx hys Q E k=>g0_e k hys fun k=>by
 have k:KV w Q E (lV a (fun j l=>fun σ=>match l.getLast? with
  |some p=>some (.ok (.p p),σ.set j (.lst l.dropLast))
  |none=>none) w.σ):=k
 refine lV_e k hx fun{j l c vs m} hj h1 h2 h3 h4 k=>?_
 cases hg:l.getLast? with
 |none=>rw[hg]at k;exact k.elim
 |some p=>
  rw[hg]at k
  rw[List.getLast?_eq_getElem?]at hg
  obtain⟨v,hv,hpv⟩:=h3.get hg
  have z:=Y8 h3
  refine Copied.pop_at (hsz:=z▸h4) h2 (by rw[z];simpa using hv) fun h' hs ho=>?_
  have M:=Zaz h1 ho (by simpa using h3.dropLast) (by rw[List.length_dropLast];exact Nat.le_trans (Nat.sub_le _ _) h4)
  exact k (w.setM hj h' _ hs h1 M w.s.toks) rfl (w.st_setM _ _ _ _ _ _ _) v (.p hpv)
end
section
open PySem.Calls PyProof.Rows
set_option genInjectivity false
variable{Γ:Cfg}{A:Around}{n:Nat}
structure SOk(X:Fx Γ):Prop where
 fr:∃outer,X.A.frames=some (X.env::outer)
 loc:X.env.frame=some X.env.locals
noncomputable def AftO(w:Wd A)(Q:Flow→Shared→Prop):Out→Prop
 | .next=>Q .next w.s
 | .ret v=>∀y,VR w v y→Q (.ret y) w.s
noncomputable def AftF(w w':Wd A)(Q:Flow→Shared→Prop)(E:Value→Shared→Prop):R Out→Prop
 | .ok o=>AftO w' Q o
 | .exc c t=>∀e,XR w w' c t e→E e w'.s
noncomputable def AftS{X:Fx Γ}(w:Wd X.A)(Q:Flow→Shared→Prop)(E:Value→Shared→Prop):Option (R Out×Loc×Hp)→Prop
 |none=>False
 |some p=>∀w':Wd X.A,w'.σ=p.2.2→St (xset X.env) w w'→FR X p.2.1 w'→AftF w w' Q E p.1
section
variable{X:Fx Γ}{w w₁:Wd X.A}{Q:Flow→Shared→Prop}{E:Value→Shared→Prop}
theorem AftF.since{w':Wd X.A}{r:R Out}(k:AftF w w' Q E r)(st:St (xset X.env) w w₁)(st':St (xset X.env) w₁ w'):AftF w₁ w' Q E r:=by
 cases r with
 |ok o=>exact k
 |exc c t=>exact fun e x=>k e (x.since st st'.pre)
theorem AftS.after{o:Option (R Out×Loc×Hp)}(k:AftS w Q E o)(st:St (xset X.env) w w₁):AftS w₁ Q E o:=by
 cases o with
 |none=>exact k.elim
 |some p=>exact fun w' e st' F=>(k w' e (st.trans st') F).since st st'
theorem AftS.let0{α:Type}{m:Loc→HM α}{g:α→SM}{l:Loc}{D:α→Wd X.A→Prop}(F:FR X l w)(k:AftS w Q E (sLet m g l w.σ))(go:∀a w₁,St [] w w₁→AftS w Q E (g a l w₁.σ)→D a w₁):Aft w D E (m l w.σ):=by
 unfold sLet at k
 cases e:m l w.σ with
 |none=>rw[e]at k;exact k.elim
 |some p=>
  obtain⟨r,σ₁⟩:=p
  rw[e]at k
  cases r with
  |ok b=>exact fun w' e' st=>go b w' st (e'▸k)
  |exc c t=>exact fun w' e' st=>k w' e' st.wide (F.st st)
theorem AftS.let{α:Type}{m:Loc→HM α}{g:α→SM}{l:Loc}{D:α→Wd X.A→Prop}(F:FR X l w)(k:AftS w Q E (sLet m g l w.σ))(go:∀a w₁,St [] w w₁→AftS w₁ Q E (g a l w₁.σ)→D a w₁):Aft w D E (m l w.σ):=k.let0 F fun a w₁ st k=>go a w₁ st (k.after st.wide)
theorem AftS.seq{a b:SM}{l:Loc}{Q':Flow→Shared→Prop}{E':Value→Shared→Prop}(k:AftS w Q E (sSeq a b l w.σ))(hn:∀l' w',FR X l' w'→AftS w' Q E (b l' w'.σ)→Q' .next w'.s)(hr:∀y s,Q (.ret y) s→Q' (.ret y) s)
  (hE:∀(w':Wd X.A) c x e l',St (xset X.env) w w'→FR X l' w'→XR w w' c x e→AftS w Q E (some (.exc c x,l',w'.σ))→E' e w'.s):AftS w Q' E' (a l w.σ):=by
 unfold sSeq at k
 cases e:a l w.σ with
 |none=>rw[e]at k;exact k.elim
 |some p=>
  obtain⟨r,l',σ'⟩:=p
  rw[e]at k
  cases r with
  |exc c t=>exact fun w' e' st F x hx=>hE w' c t x l' st F hx (e'▸k)
  |ok o=>
   cases o with
   |next=>exact fun w' e' st F=>hn l' w' F (AftS.after (e'▸k) st)
   |ret v=>exact fun w' e' st F y hy=>hr _ _ (k w' e' st F y hy)
end
noncomputable def SemS(Γ:Cfg)(st:Stmt)(m:SM):Prop:=∀⦃X:Fx Γ⦄ ⦃l:Loc⦄ ⦃w:Wd X.A⦄,SOk X→FR X l w→∀⦃Q E⦄,AftS w Q E (m l w.σ)→wpAny MM X.A (exec st X.env) Q E w.s
noncomputable def SemB(Γ:Cfg)(st:List Stmt)(m:SM):Prop:=∀⦃X:Fx Γ⦄ ⦃l:Loc⦄ ⦃w:Wd X.A⦄,SOk X→FR X l w→∀⦃Q E⦄,AftS w Q E (m l w.σ)→wpAny MM X.A (execs st X.env) Q E w.s
theorem Zjc:SemB Γ [] Ze:=fun X l w hS F Q E k=>wpAny_execs_nil (k w rfl (.refl _ _) F)
theorem Zhc{st:Stmt}{rest:List Stmt}{m k:SM}(h₁:SemS Γ st m)(h₂:SemB Γ rest k):SemB Γ (st::rest) (sSeq m k):=fun X l w hS F Q E kk=>
 wpAny_execs_cons (h₁ hS F (kk.seq (fun l' w' F' k=>h₂ hS F' k) (fun y s h=>h) fun w' c x e l' st F hx k=>k w' rfl st F e hx))
theorem SemE.th{e:Expr}{f:Fn}(he:SemE Γ e f){X:Fx Γ}{l:Loc}{w:Wd X.A}(F:FR X l w){g:V→SM}{Q:Flow→Shared→Prop}{E Q':Value→Shared→Prop}(k:AftS w Q E (sLet f g l w.σ))
  (go:∀v (w₁:Wd X.A) y,St [] w w₁→VR w₁ v y→AftS w₁ Q E (g v l w₁.σ)→Q' y w₁.s):wpAny MM X.A (eval e X.env) Q' E w.s:=he _ _ _ F _ _ (k.let F fun v w₁ st k₁ y hy=>go v w₁ y st hy k₁)
theorem ZkQ{e:Expr}{f:Fn}{pos:Pos}(h:SemE Γ e f):SemS Γ (.Return (some e) pos) (sRet f):=fun X l w hS F Q E k=>wpAny_Return_some (h.th F k fun v w₁ y st hy k=>k w₁ rfl (.refl _ _) (F.st st) y hy)
theorem ZkT{t:Expr}{tt:Tn}{a c:List Stmt}{ma mc:SM}{pos:Pos}(ht:SemT Γ t tt)(h₁:SemB Γ a ma)(h₂:SemB Γ c mc):SemS Γ (.If t a c pos) (sIf tt ma mc):=fun X l w hS F Q E k=>
 wpAny_If (ht _ _ _ F _ _ (k.let F fun b w₁ st k=>by
  cases b with
  |true=>exact h₁ hS (F.st st) k
  |false=>exact h₂ hS (F.st st) k))
theorem ZiR{e:Expr}{f:Fn}{pos:Pos}(h:SemE Γ e f)(hi:∀env:Env,env.scope.kind=.function→interactive env=false)(hs:∀env,swapsWith e none pos.line env=pure false):
  SemS Γ (.Expr e pos) (Z8 f):=fun X l w hS F Q E k=>PySem.wpAny_Expr_any (h.th F k fun v w₁ y st hy k=>k w₁ rfl (.refl _ _) (F.st st)) (hi _ X.hk) (hs _)
theorem Zca{l:Loc}{i j:Nat}{v v':V}{G:Prop}(h:(l.set i (some v))[j]?=some (some v'))(k1:j=i→v'=v→G)(k2:j≠i→l[j]?=some (some v')→G):G:=by
 by_cases hj:j=i
 ·subst hj
  by_cases hlt:j<l.length
  ·rw[List.getElem?_set_self hlt]at h;exact k1 rfl (Option.some.inj (Option.some.inj h)).symm
  ·rw[List.set_eq_of_length_le (Nat.le_of_not_lt hlt),List.getElem?_eq_none (Nat.le_of_not_lt hlt)]at h;cases h
 ·rw[List.getElem?_set_ne (Ne.symm hj)]at h;exact k2 hj h
noncomputable def uniq(xs:List Str)(i:Nat)(x:Str):Bool:=(xs[i]?==some x)&&(xs.zipIdx.all fun p=>!(p.1==x)||p.2==i)
theorem ZkD{xs:List Str}{i:Nat}{x:Str}(h:uniq xs i x=true):xs[i]?=some x∧∀j,xs[j]?=some x→j=i:=by
 unfold uniq at h
 rw[Bool.and_eq_true,List.all_eq_true]at h
 refine⟨by simpa using h.1,fun j hj=>?_⟩
 have:=h.2 (x,j) (List.mem_zipIdx_iff_getElem?.mpr hj)
 simpa using this
theorem Chg.one{w:Wd A}{a:Addr}{h':Heap}{o':Obj}(off:a∉w.γ∧w.I a=none)(hs:Heap.SameBut a w.s.heap h')(ho:h'.get? a=some o')(hd:∀vs,o'.data≠.fields vs):Chg w [a] h':=
 ⟨fun z hz=>by rw[List.mem_singleton.mp hz];exact off,fun z hz _=>⟨o',by rw[List.mem_singleton.mp hz];exact ho,hd⟩,fun b o e hb=>.same ((hs.2 b fun q=>hb (by simp[q])).trans e),fun b o hb _=>⟨o',by rw[List.mem_singleton.mp hb];exact ho⟩⟩
theorem St.one{Y:List Addr}{w w':Wd A}{a:Addr}(st:St [a] w w')(ha:a∈Y):St Y w w':=st.weak fun b hb=>by rw[List.mem_singleton.mp hb];exact ha
theorem Zbh{X:Fx Γ}{Y:List Addr}{l:Loc}{w:Wd X.A}{x:Str}{k:NameKind}{i:Nat}{v:V}{y:Value}{M:Model}{Q:Unit→Shared→Prop}{E:Value→Shared→Prop}(F:FR X l w)(hx:uniq Γ.xs i x=true)(hk:Γ.sc.names.lookup x=some k)(hv:Xu k=true)(hy:VR w v y)
  (hYl:X.env.locals∈Y) (hYc:k=.cell→∀c∈X.env.cells.map (·.2),c∈Y) (h:∀w':Wd X.A,w'.σ=w.σ→St Y w w'→FR X (l.set i (some v)) w'→Q () w'.s):wpAny M X.A (storeName X.env x y) Q E w.s:=by
 have hko:=X.ko hk
 obtain⟨hx1,hx2⟩:=ZkD hx
 have xi:∀{j:Nat} {z:Str},Γ.xs[j]?=some z→z=x→j=i:=fun h e=>hx2 _ (e▸h)
 have xj:∀{j:Nat} {z:Str},Γ.xs[j]?=some z→j=i→z=x:=fun hh e=>by rw[e,hx1]at hh;cases hh;rfl
 obtain⟨m,hm⟩:=F.ns
 have hl:=F.off _ List.mem_cons_self
 cases k with
 |«local»=>
  refine wpAny_storeName_local hko hm.ns (fun h' hn hs=>?_) (by rw[X.hk];rfl)
  obtain⟨o,ho,hd⟩:=ZdY hn
  have c:=Chg.one hl hs ho hd
  refine h (w.chg h' _ c) rfl ((c.st _).one hYl) ⟨⟨_,hn,fun{j z u} h1 h2 h3=>Zca h2 (fun e q=>⟨y,if_pos (xj h1 e),q▸hy⟩) fun e h2=>(hm.val h1 h2 h3).elim fun y' r=>⟨y',(if_neg fun q=>e (xi h1 q)).trans r.1,r.2⟩⟩,
   fun{j z u} h1 h2 h3=>Zca h2 (fun e _=>?_) fun e h2=>?_,fun c hc=>(F.cellT c hc).elim fun v hv=>⟨v,hv.sameBut hs (X.ne c hc)⟩,F.off⟩
  ·rw[xj h1 e,hko]at h3;cases h3
  ·cases F.cell h1 h2 h3 with|mk c y' e1 hc r=>exact .mk c y' e1 (hc.sameBut hs (X.ne c (Yy e1))) r
 |cell=>
  obtain⟨c,hc⟩:=X.there hko
  have hcm:=Yy hc
  obtain⟨v₀,hv₀⟩:=F.cellT c hcm
  refine wpAny_storeName_cell X.hk hko hc hv₀ fun h' hc' hs=>?_
  have⟨o,ho,hd⟩:=hc'
  have ch:=Chg.one (F.off c (List.mem_cons_of_mem _ hcm)) hs ho fun vs q=>by rw[hd]at q;cases q
  refine h (w.chg h' w.s.toks ch) rfl ((ch.st _).one (hYc rfl _ hcm)) ⟨⟨m,hm.ns.sameBut hs (Ne.symm (X.ne c hcm)),fun{j z u} h1 h2 h3=>Zca h2 (fun e _=>?_) fun e h2=>hm.val h1 h2 h3⟩,
   fun{j z u} h1 h2 h3=>Zca h2 (fun e q=>.mk c y (xj h1 e▸hc) hc' (q▸hy)) fun e h2=>?_,fun c' hc2=>?_,F.off⟩
  ·rw[xj h1 e,hko]at h3;cases h3
  ·cases F.cell h1 h2 h3 with|mk c' y' e1 hc1 r=>exact .mk c' y' e1 (hc1.sameBut hs fun q=>e (xi h1 (name_of_addr X.apart (mem_of_lookup e1) (q▸mem_of_lookup hc)))) r
  ·by_cases hcc:c'=c
   ·rw[hcc];exact⟨_,hc'⟩
   ·obtain⟨v,hv⟩:=F.cellT c' hc2
    exact⟨v,hv.sameBut hs hcc⟩
 |_=>cases hv
theorem Zbk{e:Expr}{f:Fn}{x:Str}{p pos:Pos}{kd:NameKind}(i:Nat)(h:SemE Γ e f)(hx:uniq Γ.xs i x=true)(hk:Γ.sc.names.lookup x=some kd)(hv:Xu kd=true)
  (hs:∀env:Env,env.scope=Γ.sc→swapsWith e (some (.Name x p)) pos.line env=pure false):SemS Γ (.Assign [.Name x p] e pos) (Zj i f):=fun X l w hS F Q E k=>
 wpAny_Assign_Name (h.th F k fun v w₁ y st hy k=>Zbh (F.st st) hx hk hv hy List.mem_cons_self (fun _ c hc=>List.mem_cons_of_mem _ hc) k) (hs _ X.scope)
noncomputable def X2(sc:Scope)(xs:List Str)(i:Nat)(x:Str):Bool:=uniq xs i x&&(sc.names.lookup x).any Xu
noncomputable def Zem(sc:Scope)(x:Str):Bool:=sc.names.lookup x==some .local
inductive Nms(ok:Nat→Str→Bool):List Nat→List Expr→Prop
 |nil:Nms ok [] []
 |cons {i x p is es}:ok i x=true→Nms ok is es→Nms ok (i::is) (.Name x p::es)
inductive TgIs(ok:Nat→Str→Bool):Tg→Expr→Prop
 |one {i x p}:ok i x=true→TgIs ok (.one i) (.Name x p)
 |tup {is es k p}:Nms ok is es→TgIs ok (.tup is) (.Tuple es k p)
noncomputable def WA(sc:Scope)(xs:List Str)(i:Nat)(x:Str):Bool:=X2 sc xs i x&&Zem sc x
inductive SetA:List Nat→List P→Loc→Loc→Prop
 |nil {l}:SetA [] [] l l
 |cons {i is p ps l l'}:SetA is ps (l.set i (some (.p p))) l'→SetA (i::is) (p::ps) l l'
theorem ZgR{is:List Nat}:∀{ps:List P} {l l':Loc},Wy is ps l=some l'→SetA is ps l l':=by
 induction is with
 |nil=>
  intro ps l l' h
  cases ps with
  |nil=>cases h;exact .nil
  |cons=>cases h
 |cons i is ih=>
  intro ps l l' h
  cases ps with
  |nil=>cases h
  |cons p ps=>exact .cons (ih h)
noncomputable def Sto(X:Fx Γ)(Y:List Addr)(i:Nat)(x:Str):Prop:=X2 Γ.sc Γ.xs i x=true∧((∀c∈X.env.cells.map (·.2),c∈Y)∨Zem Γ.sc x=true)
theorem Sto.all{X:Fx Γ}{i:Nat}{x:Str}(h:X2 Γ.sc Γ.xs i x=true):Sto X (xset X.env) i x:=⟨h,.inl fun c hc=>List.mem_cons_of_mem _ hc⟩
theorem Sto.loc{X:Fx Γ}{Y:List Addr}{i:Nat}{x:Str}(h:WA Γ.sc Γ.xs i x=true):Sto X Y i x:=have h:=(Bool.and_eq_true _ _).mp h;⟨h.1,.inr h.2⟩
theorem ZaK{X:Fx Γ}{Y:List Addr}{l:Loc}{w:Wd X.A}{x:Str}{i:Nat}{v:V}{y:Value}{M:Model}{Q:Unit→Shared→Prop}{E:Value→Shared→Prop}(F:FR X l w)(hx:Sto X Y i x)(hy:VR w v y)
  (hYl:X.env.locals∈Y) (h:∀w':Wd X.A,w'.σ=w.σ→St Y w w'→FR X (l.set i (some v)) w'→Q () w'.s):wpAny M X.A (storeName X.env x y) Q E w.s:=by
 have hx1:=(Bool.and_eq_true _ _).mp hx.1
 cases e:Γ.sc.names.lookup x with
 |none=>rw[e]at hx1;cases hx1.2
 |some k=>
  rw[e]at hx1
  refine Zbh F hx1.1 e hx1.2 hy hYl (fun hk=>hx.2.elim id fun hX=>?_) h
  unfold Zem at hX
  rw[e,hk]at hX
  cases hX
inductive Each(X:Fx Γ)(Y:List Addr):List Nat→List (Value→Sem Unit)→Prop
 |nil:Each X Y [] []
 |cons {i x m is ms}:Sto X Y i x→(∀v Q E s,wpAny MM X.A (storeName X.env x v) Q E s→wpAny MM X.A (m v) Q E s)→Each X Y is ms→Each X Y (i::is) (m::ms)
theorem ZbJ{X:Fx Γ}{Y:List Addr}{Q:Unit→Shared→Prop}{E:Value→Shared→Prop}{is:List Nat}{ps:List P}{l l':Loc}(hYl:X.env.locals∈Y)(h:SetA is ps l l'):
  ∀{w:Wd X.A} {ms:List (Value→Sem Unit)} {vs:List Value},FR X l w→Each X Y is ms→PAll w.I vs ps→(∀w':Wd X.A,w'.σ=w.σ→St Y w w'→FR X l' w'→Q () w'.s)→wpAny MM X.A (assignInOrder ms vs) Q E w.s:=by
 induction h with
 |nil=>intro w ms vs F hm hp k;cases hm;cases hp;exact wpAny_pure (k w rfl (.refl _ _) F)
 |cons h ih=>
  intro w ms vs F hm hp k
  cases hm with
  |cons h1 h2 hm=>
  cases hp with
  |cons hq hps=>
  exact wpAny_bind (wpAny_holding (h2 _ _ _ _ (ZaK F h1 (.p hq) hYl fun w' e1 st F'=>ih F' hm (hps.mono st.mono) fun w'' e1' st' F''=>k w'' (e1'.trans e1) (st.trans st') F'')))
theorem ZlM{X:Fx Γ}{Y:List Addr}{ok:Nat→Str→Bool}{is:List Nat}{es:List Expr}(hok:∀{i x},ok i x=true→Sto X Y i x)(h:Nms ok is es):Each X Y is ((assignEach es X.env).map (·.2))∧(assignEach es X.env).length=is.length∧(assignEach es X.env).findIdx? (·.1)=none:=by
 induction h with
 |nil=>exact⟨.nil,rfl,rfl⟩
 |@cons i x p is es h _ ih=>
  refine⟨.cons (hok h) (fun _ _ _ _=>PyProof.Rows.assign_Name) ih.1,congrArg (·+1) ih.2.1,?_⟩
  show List.findIdx? (·.1) ((false,assign (.Name x p) X.env)::assignEach es X.env)=none
  rw[List.findIdx?_cons,ih.2.2];rfl
theorem Q6{w:Wd A}{y:Value}{ps:List P}{Q:List Value→Shared→Prop}{E:Value→Shared→Prop}(hA:AOk A n)(hy:PIn w.I y (.tuple ps)∨PIn w.I y (.list ps))
  (h:∀vs (w':Wd A),w'.σ=w.σ→St [] w w'→PAll w.I vs ps→Q vs w'.s):wpAny MM A (unpackItems y ps.length none) Q E w.s:=by
 have go:∀{h':Heap} {vs},Heap.ExtBut w.s.heap.objs.size w.s.heap h'→PAll w.I vs ps→Q vs {w.s with heap:=h'}:=fun{h' vs} he hp=>
  have c:=Chg.grow w fun a o e=>he a o (Nat.ne_of_lt (Heap.lt_size e)) e
  h vs (w.chg h' w.s.toks c) rfl (c.st _) hp
 rcases hy with hy|hy
 ·refine hy.tup_e fun{a o vs m} a1 a2 a3 a4 a5=>?_
  rw[← Y8 a5]
  exact PyProof.Rows.unpackItems_tuple hA.hd ⟨o,w.b.keep _ _ a1,a2,m,a3⟩ fun h' he=>go he a5
 ·refine hy.lst_e fun{a o vs m} a1 a2 a3 a4 a5=>?_
  rw[← Y8 a5]
  exact kun_itemsOf hA.hd ⟨o,w.b.keep _ _ a1,a2,m,a3⟩ fun h' he=>go he a5
theorem Zd7{is:List Nat}{p:P}{l l':Loc}{I:IMap}{y:Value}{G:Prop}(h:ZX (.tup is) p l=some l')(hy:PIn I y p)(k:∀ps,PIn I y (.tuple ps)∨PIn I y (.list ps)→SetA is ps l l'→G):G:=by
 cases p with
 |tuple ps=>exact k ps (.inl hy) (ZgR h)
 |list ps=>exact k ps (.inr hy) (ZgR h)
 |_=>cases h
theorem SetA.len{is:List Nat}{ps:List P}{l l':Loc}(h:SetA is ps l l'):is.length=ps.length:=by
 induction h with
 |nil=>rfl
 |cons _ ih=>exact congrArg (·+1) ih
theorem ZaL{X:Fx Γ}{Y:List Addr}{ok:Nat→Str→Bool}{l l':Loc}{w:Wd X.A}{t:Tg}{e:Expr}{y:Value}{p:P}{Q:Unit→Shared→Prop}{E:Value→Shared→Prop}(hok:∀{i x},ok i x=true→Sto X Y i x)(ht:TgIs ok t e)(hy:PIn w.I y p)(hb':ZX t p l=some l')(F:FR X l w)
  (hYl:X.env.locals∈Y) (k:∀w':Wd X.A,w'.σ=w.σ→St Y w w'→FR X l' w'→Q () w'.s):wpAny MM X.A (assign e X.env y) Q E w.s:=by
 cases ht with
 |one h=>cases hb';exact PyProof.Rows.assign_Name (ZaK F (hok h) (.p hy) hYl k)
 |tup hn=>
  refine Zd7 hb' hy fun ps hy hs=>?_
  obtain⟨e1,e2,e3⟩:=ZlM hok hn
  rw[PyProof.Rows.assign_Tuple]
  refine wpAny_bind (wpAny_standAt ?_)
  unfold unpack
  rw[e2,e3,hs.len]
  exact wpAny_bind (wpAny_holding (Q6 X.hA hy fun vs w₁ q1 st hp=>ZbJ hYl hs (F.st st) e1 (hp.mono st.mono) fun w₂ q1' st' F'=>k w₂ (q1'.trans q1) (st.wide.trans st') F'))
theorem AftS.bind{X:Fx Γ}{l:Loc}{w:Wd X.A}{t:Tg}{p:P}{Q:Flow→Shared→Prop}{E:Value→Shared→Prop}{G:Prop}(k:AftS w Q E (Zjd t p l w.σ))(go:∀l',ZX t p l=some l'→AftS w Q E (some (.ok .next,l',w.σ))→G):G:=by
 unfold Zjd at k
 cases e:ZX t p l with
 |none=>rw[e]at k;exact k.elim
 |some l'=>rw[e]at k;exact go l' e k
theorem SemE.up{e:Expr}{f:Fn}(he:SemE Γ e f){X:Fx Γ}{l:Loc}{w:Wd X.A}(F:FR X l w){is:List Nat}{Q:Flow→Shared→Prop}{E Q':Value→Shared→Prop}(k:AftS w Q E (Zy is f l w.σ))
  (go:∀y p l' (w₁:Wd X.A),St [] w w₁→PIn w₁.I y p→ZX (.tup is) p l=some l'→AftS w₁ Q E (some (.ok .next,l',w₁.σ))→Q' y w₁.s):wpAny MM X.A (eval e X.env) Q' E w.s:=
 he.bd F (k.let F (D:=fun p w₁=>St [] w w₁∧AftS w₁ Q E (Zjd (.tup is) p l w₁.σ)) fun p w₁ st k=>⟨st,k⟩) fun v w₁ y st hy k=>ZlU (G:=fun s=>Q' y s) k hy fun p w₂ st₂ hp k=>k.2.bind fun l' hb k'=>go y p l' w₂ k.1 hp hb k'
theorem ZfF{e:Expr}{f:Fn}{es:List Expr}{kk:Nat}{tp pos:Pos}(is:List Nat)(h:SemE Γ e f)(ht:Nms (X2 Γ.sc Γ.xs) is es)(hs:∀env,swapsWithSole [.Tuple es kk tp] e pos.line env=pure false)
  (hw:∀env,swappedStores [.Tuple es kk tp] e env=pure none):SemS Γ (.Assign [.Tuple es kk tp] e pos) (Zy is f):=fun X l w hS F Q E k=>
 Assign_Tuple (h.up F k fun y p l' w₁ st hp hb k=>ZaL .all (.tup ht) hp hb (F.st st) List.mem_cons_self k) (hs _) (hw _)
theorem SetA.app{is js:List Nat}{ps qs:List P}{l l₁ l':Loc}(h:SetA is ps l l₁)(h2:SetA js qs l₁ l'):SetA (is++js) (ps++qs) l l':=by
 induction h with
 |nil=>exact h2
 |cons _ ih=>exact .cons (ih h2)
theorem SetA.uncomm{i:Nat}{v:Option V}{is:List Nat}{ps:List P}{l l':Loc}(h:SetA is ps l l'):∀{l₀},l=l₀.set i v→i∉is→∃l₁,SetA is ps l₀ l₁∧l'=l₁.set i v:=by
 induction h with
 |nil=>exact fun e _=>⟨_,.nil,e⟩
 |@cons j is p ps l l' _ ih=>exact fun e hi=>(ih (by rw[e,List.set_comm];exact fun q=>hi (q▸List.mem_cons_self)) fun h=>hi (List.mem_cons_of_mem _ h)).elim fun l₁ h=>⟨l₁,.cons h.1,h.2⟩
theorem SetA.rev{is:List Nat}{ps:List P}{l l':Loc}(h:SetA is ps l l'):is.Nodup→SetA is.reverse ps.reverse l l':=by
 induction h with
 |nil=>exact fun _=>.nil
 |@cons i is p ps l l' _ ih=>
  intro hn
  rw[List.nodup_cons]at hn
  rw[List.reverse_cons,List.reverse_cons]
  obtain⟨l₁,h1,rfl⟩:=(ih hn.2).uncomm rfl (fun h=>hn.1 (List.mem_reverse.mp h))
  exact h1.app (.cons .nil)
theorem Zgp{X:Fx Γ}{is:List Nat}:∀{ns:List Str},is.length=ns.length→(∀p∈is.zip ns,X2 Γ.sc Γ.xs p.1 p.2=true)→Each X (xset X.env) is (ns.map fun n=>bindName X.env n):=by
 induction is with
 |nil=>intro ns hl _;cases ns with|nil=>exact .nil|cons=>cases hl
 |cons i is ih=>
  intro ns hl h
  cases ns with
  |nil=>cases hl
  |cons n ns=>exact .cons (.all (h (i,n) List.mem_cons_self)) (fun _ _ _ _=>wpAny_bindName) (ih (Nat.succ.inj hl) fun p hp=>h p (List.mem_cons_of_mem _ hp))
theorem ZdQ{e:Expr}{f:Fn}{es:List Expr}{kk:Nat}{tp pos:Pos}(is:List Nat)(ns:List Str)(h:SemE Γ e f)(hnd:is.Nodup)(hl:is.length=ns.length)
  (ht:(is.reverse.zip ns.reverse).all (fun p=>X2 Γ.sc Γ.xs p.1 p.2)=true) (hs:∀env,swapsWithSole [.Tuple es kk tp] e pos.line env=pure false)
  (hw:∀env:Env,env.scope=Γ.sc→swappedStores [.Tuple es kk tp] e env=pure (some ns)):SemS Γ (.Assign [.Tuple es kk tp] e pos) (Zy is f):=fun X l w hS F Q E k=>
 Assign_Tuple_swapped (h.up F k fun y p l' w₁ st hp hb k=>Zd7 hb hp fun ps hy hs=>by
  rw[← hl,hs.len]
  exact Q6 X.hA hy fun vs w₂ q1 st₂ hv=>ZbJ List.mem_cons_self (hs.rev hnd) ((F.st st).st st₂) (Zgp (by simp[hl]) (List.all_eq_true.mp ht)) (hv.mono st₂.mono).reverse fun w₃ e1 st₃ F₃=>k.after st₂.wide w₃ (e1.trans q1) st₃ F₃) (hs _) (hw _ X.scope)
end
section
open PySem.Calls PyProof.Rows
set_option genInjectivity false
variable{Γ:Cfg}{A:Around}{n:Nat}
open Classical in
theorem Zhm{I:IMap}{k:P}{y:Value}{v:P}{a:Addr}(hk:X3 6 k=true)(hy:PIn I y v){xs:List (P×Addr×Value)}{l:List (P×P)}(h:DV I xs l):(xs.map (·.1)).Nodup→(atKey xs k).isSome=true→DV I (xs.map (putAt k y)) (putD k v l):=by
 induction h with
 |nil=>intro _ h;simp[atKey]at h
 |@cons k' b u p xs ys b1 c1 d1 e1 ih=>
  intro hn h
  have q:=Zcw c1 hk
  rw[List.map_cons,List.nodup_cons]at hn
  by_cases hx:k'=k
  ·subst hx
   have hid:xs.map (putAt k' y)=xs:=(List.map_congr_left (g:=id) fun w hw=>if_neg fun e=>hn.1 (List.mem_map.mpr ⟨w,hw,e⟩)).trans (List.map_id _)
   rw[List.map_cons,hid]
   simp only[putD,q.mpr rfl,if_true,putAt]
   exact .cons b1 c1 hy e1
  ·have h1:PyData.eqv k' k=false:=Bool.eq_false_iff.mpr fun z=>hx (q.mp z)
   have h2:(atKey xs k).isSome=true:=by simpa[atKey,List.find?_cons,hx]using h
   rw[List.map_cons]
   simp only[putD,h1,putAt,hx,if_false,Bool.false_eq_true]
   exact .cons b1 c1 d1 (ih hn.2 h2)
open Classical in
theorem Zhn{I:IMap}{k:P}{y:Value}{v:P}{a:Addr}(hk:X3 6 k=true)(ha:PIn I (.ref a) k)(hy:PIn I y v){xs:List (P×Addr×Value)}{l:List (P×P)}(h:DV I xs l):atKey xs k=none→DV I (xs++[(k,a,y)]) (putD k v l):=by
 induction h with
 |nil=>exact fun _=>.cons ha hk hy .nil
 |@cons k' b u p xs ys b1 c1 d1 e1 ih=>
  intro h
  have q:=Zcw c1 hk
  by_cases hx:k'=k
  ·simp[atKey,List.find?_cons,hx]at h
  ·have h1:PyData.eqv k' k=false:=Bool.eq_false_iff.mpr fun z=>hx (q.mp z)
   have h2:atKey xs k=none:=by simpa[atKey,List.find?_cons,hx]using h
   simp only[putD,h1,if_false,Bool.false_eq_true]
   exact .cons b1 c1 d1 (ih h2)
theorem Zjk(k v:P)(l:List (P×P)):(putD k v l).length≤l.length+1:=by
 induction l with
 |nil=>exact Nat.le_refl _
 |cons x r ih=>
  simp only[putD]
  split
  ·exact Nat.le_succ _
  ·exact Nat.succ_le_succ ih
theorem Zjj(k:Int)(v:P)(l:List (Int×P)):(putI k v l).length≤l.length+1:=by
 induction l with
 |nil=>exact Nat.le_refl _
 |cons x r ih=>
  simp only[putI]
  split
  ·exact Nat.le_succ _
  ·exact Nat.succ_le_succ ih
theorem Zlg{I:IMap}{k:Int}{y:Value}{v:P}(hy:PIn I y v){xs:List (Int×Value)}{l:List (Int×P)}(h:IV I xs l):(xs.map (·.1)).Nodup→IV I (stored xs k y) (putI k v l):=by
 induction h with
 |nil=>intro _;simp[stored,putI];exact .cons hy .nil
 |@cons k' u p xs ys b1 c1 ih=>
  intro hn
  rw[List.map_cons,List.nodup_cons]at hn
  have ih:=ih hn.2
  by_cases hx:k'=k
  ·have hid:(xs.map fun kv=>if kv.1=k then(kv.1,y)else kv)=xs:=(List.map_congr_left (g:=id) fun w hw=>if_neg fun e=>hn.1 (List.mem_map.mpr ⟨w,hw,e.trans hx.symm⟩)).trans (List.map_id _)
   simp only[stored,List.any_cons,hx,decide_true,Bool.true_or,if_true,List.map_cons,hid,putI]
   exact .cons hy c1
  ·simp only[stored,List.any_cons,hx,decide_false,Bool.false_or,List.map_cons,if_false,putI]
   simp only[stored]at ih
   split
   ·rename_i h
    rw[if_pos h]at ih
    exact .cons b1 ih
   ·rename_i h
    rw[if_neg h]at ih
    exact .cons b1 ih
theorem ZeO{k n m:Nat}(h:n<lim)(h':m≤n+1):m≤sizeLine:=Nat.le_trans (Nat.le_trans h' (Nat.succ_le_of_lt h)) (by decide)
open Classical in
theorem ZiH{a b:V}{p:P}{x i y:Value}{w:Wd A}{D:Unit→Wd A→Prop}{E:Value→Shared→Prop}{Q:Unit→Shared→Prop}(hA:AOk A n)(hx:VR w a x)(hi:VR w b i)(hy:PIn w.I y p)(k:Aft w D E (Zms a b p w.σ))(hD:∀w',D () w'→Q () w'.s):wpAny MM A (setItem x i y) Q E w.s:=
 XD k hx (fun _ _ k=>k.elim) fun j d o hj m k=>by
  cases m with
  |frz=>exact k.elim
  |@tdct l ys h1 h2 h3 h4 h5=>
   refine pV_e k hi fun kp hkp k=>?_
   have k:=Wc k
   have hc:=(Bool.and_eq_true _ _).mp k.1
   have hlt:=of_decide_eq_true hc.2
   refine ZhC (G:=fun kp=>PIn w.I i kp→Aft w D E (put1 j (.tdct (putD kp p l)) w.σ)→wpAny MM A (setItem (.ref d) i y) Q E w.s) hc.1 (fun ps hk6 hkp k=>hkp.tup_r fun ka hkp=>?_) hkp k.2
   refine wpAny_setItem_heap (knd:=pk U.prog U.w) (k:=.tuple ps) (hsz:=by rw[h5.len];exact Zh5 hlt) (by show A.in1.units+100<cLine;simp only[Around.in1_units];exact Ar.a86 hA.un) (hkp.key w.b.keep 6 hk6) h4 fun h' hd hs=>?_
   have hdv:DV w.I (storedH ys (.tuple ps) ka y) (putD (.tuple ps) p l):=by
    have h6:=h4
    obtain⟨o,es,ep,k1,k2,k3,k4,k5,k6⟩:=h6
    unfold storedH
    split
    ·rename_i h;exact Zhm (a:=ka) hk6 hy h5 k6 h
    ·rename_i h;exact Zhn hk6 hkp hy h5 (by simpa using h)
   have M:Keep w.I h'→MRel w.I h' d (.tdct (putD (.tuple ps) p l)):=fun _=>.tdct h1 h2 (ZeO (k:=0) hlt (Zjk _ _ _)) hd hdv
   exact hD _ (k (w.setM hj h' _ hs h1 M _) rfl (w.st_setM _ _ _ _ _ _ _))
  |@idct l ys h1 h2 h3 h4 h5=>
   refine i1_e k hi fun ii t k=>?_
   have k:=Wc k
   have hlt:=of_decide_eq_true k.1
   have h6:=h4
   obtain⟨o,es,ep,k1,k2,k3,k4,k5,k6⟩:=h6
   refine wpAny_setItem_pairs (knd:=intKind U.prog U.w) (k:=ii) (hsz:=by rw[h5.len];exact Zh5 hlt) (intKind_is _ _ _ _) h4 fun h' hd hs=>?_
   have M:Keep w.I h'→MRel w.I h' d (.idct (putI ii p l)):=fun _=>.idct h1 h2 (ZeO (k:=0) hlt (Zjj _ _ _)) hd (Zlg hy h5 k6)
   exact hD _ (k.2 (w.setM hj h' _ hs h1 M _) rfl (w.st_setM _ _ _ _ _ _ _))
  |@lst l vs nn h1 h2 h3 h4=>
   refine i1_e k hi fun ii t k=>?_
   cases e:idx? ii l.length with
   |none=>rw[e]at k;exact k.elim
   |some m=>
    rw[e]at k
    have hz:=Y8 h3
    have hsl:=sizeLine_eq
    have go:Q () {w.s with heap:=w.s.heap.update d (Obj.mapSeq (·.setIfInBounds m y))}:=by
     obtain⟨m',ho⟩:=ZbT (·.setIfInBounds m y) h2
     have M:=Zaz (h':=w.s.heap.update d (Obj.mapSeq (·.setIfInBounds m y))) h1 ho (by simpa using h3.set m hy) (by rw[List.length_set];exact h4)
     exact hD _ (k (w.setM hj _ _ (Heap.SameBut.update ..) h1 M w.s.toks) rfl (w.st_setM _ _ _ _ _ _ _))
    cases ZhN e with
    |front h0 _ hlt=>exact ki_setAt h2 h0 (by clear go k;omega) (by omega) go
    |back h0 h1' _ hlt=>exact ki_setBack h2 h0 (Ar.n2z1 (.im (.L (.g (.c (.v 1))) (.v 0)) (.im (.e (.v 0) (.v 1)) (.L (.g (.c (.v 0))) (.v 0)))) (by kernel_rfl) h1' hz) (Ar.a184 h1' hsl h4) (by rw[hz];exact go)
theorem ZgP{a b v:V}{x i y:Value}{w:Wd A}{D:Unit→Wd A→Prop}{E:Value→Shared→Prop}{Q:Unit→Shared→Prop}(hA:AOk A n)(hx:VR w a x)(hi:VR w b i)(hy:VR w v y)(k:Aft w D E (setV a b v w.σ))(hD:∀w',D () w'→Q () w'.s):wpAny MM A (setItem x i y) Q E w.s:=
 Ze3 (G:=fun s=>wpAny MM A (setItem x i y) Q E s) k hy fun p w₁ st hp k=>ZiH hA (hx.st st) (hi.st st) hp k hD
theorem AftS.unit{X:Fx Γ}{l:Loc}{w:Wd X.A}{m:HM Unit}{Q:Flow→Shared→Prop}{E:Value→Shared→Prop}(F:FR X l w)(k:AftS w Q E (sLet (fun _=>m) (fun _=>Ze) l w.σ)):Aft w (fun _ w'=>Q .next w'.s) E (m w.σ):=k.let F fun _ w₁ st k=>k w₁ rfl (.refl _ _) (F.st st)
theorem ZgU{o i e:Expr}{fo fi f:Fn}{p pos:Pos}(ho:SemE Γ o fo)(hi:SemE Γ i fi)(h:SemE Γ e f)(hs:∀env,swapsWith e (some (.Subscript o i p)) pos.line env=pure false):
  SemS Γ (.Assign [.Subscript o i p] e pos) (XU fo fi f):=fun X l w hS F Q E k=>
 wpAny_Assign_Subscript (h.bd F (k.unit F) fun v w₁ y st₁ hy k=>ho.bd (F.st st₁) k fun a w₂ x st₂ hx k=>hi.bd ((F.st st₁).st st₂) k fun b w₃ z st₃ hz k=>ZgP X.hA (hx.st st₃) hz ((hy.st st₂).st st₃) k fun w' h=>h) (hs _)
noncomputable def Zlc(o i v:Fn):SM:=Z8 fun l=>hb (o l) fun a=>hb (i l) fun b=>hb (Zd a b) fun x=>hb (v l) fun y=>ii (fun p q=>setV a b (.p (.int (p+q)))) x y
theorem ZkY{o i e:Expr}{fo fi f:Fn}{p pos:Pos}(ho:SemE Γ o fo)(hi:SemE Γ i fi)(h:SemE Γ e f)(ha:∀ov iv new,augStore i ov iv new=(do holding [new,ov,iv] (setItem ov iv new);release [new,ov,iv] [];pure .next)):
  SemS Γ (.AugAssign (.Subscript o i p) .Add e pos) (Zlc fo fi f):=fun X l w hS F Q E k=>
 wpAny_AugAssign_SubscriptAny (ho.bd F (k.unit F) fun a w₁ x st₁ hx k=>hi.bd (F.st st₁) k fun b w₂ z st₂ hz k=>(ZhE X.hA (hx.st st₂) hz (Q:=fun y s=>_) (k.hb fun u w₃ st₃ k y hy=>h.bd (((F.st st₁).st st₂).st st₃) k fun v w₄ u st₄ hu k=>ii_e k (hy.st st₄) hu fun p t q t' k=>
  iadd_int (ZgP (w:=w₄.tok (w₄.s.toks+1)) X.hA (((hx.st st₂).st (st₃.trans st₄)).st (w₄.st_tok _)) ((hz.st (st₃.trans st₄)).st (w₄.st_tok _)) (.p (.int _ _)) (k.after (fun _ _ _ h=>h) (w₄.st_tok _)) fun w' h=>h))).1) ha
end
section
open PySem.Calls PyProof.Rows
set_option genInjectivity false
variable{Γ:Cfg}{A:Around}{n:Nat}
structure Prv(h₀:Heap)(w:Wd A)(z:Addr):Prop where
 pv:Pv h₀ w z
 fld:∃o vs,w.s.heap.get? z=some o∧o.data=.fields vs
theorem FR.nudge{X:Fx Γ}{l:Loc}{w w':Wd X.A}{h₀:Heap}{Z:List Addr}(F:FR X l w)(p:∀z∈Z,Prv h₀ w z)(st:St Z w w'):FR X l w':=F.step st fun z hz hx=>by
 obtain⟨o,e,d⟩:=F.at_ hx
 obtain⟨o',vs,e',d'⟩:=(p z hz).fld
 rw[e]at e';cases e';exact d vs d'
theorem St.nudge{Y Z:List Addr}{w₀ w w':Wd A}(st:St Y w₀ w)(p:∀z∈Z,Prv w₀.s.heap w z)(st':St Z w w'):St Y w₀ w':=st.own (fun z hz=>(p z hz).pv.n) st'
theorem Pv.chg{h₀:Heap}{w:Wd A}{Z:List Addr}{h':Heap}{t:Nat}{c:Chg w Z h'}{a:Addr}(p:Pv h₀ w a):Pv h₀ (w.chg h' t c) a:=⟨⟨p.off.g,p.off.i,p.off.f⟩,p.n⟩
theorem Chg.pv{w:Wd A}{h₀:Heap}{z:Addr}{f:Obj→Obj}{o:Obj}(p:Pv h₀ w z)(ho:w.s.heap.get? z=some o)(hf:(f o).isFreed=false):Chg w [z] (w.s.heap.update z f):=
 .priv (fun b hb=>by rw[List.mem_singleton.mp hb];exact p.off) (fun a o hn e=>(Heap.get?_update_other _ _ fun q=>hn (by simp[q])).trans e) fun b hb=>by rw[List.mem_singleton.mp hb];exact⟨_,Heap.get?_update_self _ ho hf⟩
inductive ZjI(h:Heap):Value→Prop
 |mk (x:Addr) (oe:Obj) (vs:Array Value) (T:Addr):h.get? x=some oe→oe.data=.fields vs→vs[1]?=some (.ref T)→ZjI h (.ref x)
theorem Zds{I:IMap}{γ:List Addr}{h:Heap}{fs:List Env}(k:∀env∈fs,env.scope.kind≠.module∧∃L,env.frame=some L∧FAt I γ h L):h.FunFrames ({}:Heap) fs:=by
 induction fs with
 |nil=>trivial
 |cons env fs ih=>
  obtain⟨k1,L,k2,o,k3,_,_,k6⟩:=k env List.mem_cons_self
  exact⟨k1,⟨L,o,k2,rfl,k3,k6⟩,ih fun e he=>k e (List.mem_cons_of_mem _ he)⟩
theorem Wd.frames(w:Wd A)(hA:AOk A n){fs:List Env}(e:A.frames=some fs):w.s.heap.FunFrames ({}:Heap) fs∧fa A=fs.filterMap (·.frame):=by
 have hfa:fa A=fs.filterMap (·.frame):=by unfold fa;rw[e];rfl
 obtain⟨fs',e',k⟩:=hA.fr
 rw[e]at e';cases e'
 refine⟨Zds (I:=w.I) (γ:=w.γ) fun env he=>?_,hfa⟩
 obtain⟨k1,L,k2⟩:=k env he
 exact⟨k1,L,k2,w.b.fr L (by rw[hfa];exact List.mem_filterMap.mpr ⟨env,he,k2⟩)⟩
theorem Zfw{w₀ w:Wd A}{c:Addr}{t:Str}{x d L:Addr}{oe:Obj}{vs:Array Value}{es:List DictEntry}{m:Nat}{tk:Tok}{env:Env}{outer:List Env}{head:Value}{had:Bool}{M:Model}{Q:Unit→Shared→Prop}{E:Value→Shared→Prop}(hA:AOk A n)
  (hfr:A.frames=some (env::outer)) (hf:env.frame=some L) (hh:∀a,a∉w.γ→w.s.heap.get? a=none→w₀.s.heap.get? a=none)
  (h1:w.s.heap.get? x=some oe) (h2:oe.cls=.ref c) (h3:oe.dict=some d) (h4:oe.data=.fields vs) (h5:1<vs.size) (h6:d≠x)
  (h7:w.s.heap.get? d=some (dictOf es m)) (hw:getL "why" es=some (some (.str t tk))) (h8:Pv w₀.s.heap w d) (h9:Pv w₀.s.heap w x)
  (h:∀w':Wd A,w'.σ=w.σ→St [x] w w'→XR w₀ w' c t (.ref x)→ZjI w'.s.heap (.ref x)→Q () w'.s):
  wpAny M A (do let a ← frameOf env;let pl ← entryPlaceOf L had;let b ← EntryCells.newEntry head a .none (rawInt L) .none pl;setField (.ref x) 1 b) Q E w.s:=by
 obtain⟨ff,hFs⟩:=w.frames hA hfr
 refine wpAny_bind (wpAny_frameOf_fun hfr ff hf fun h₁ hs₁=>?_)
 rw[← hFs]at hs₁
 refine wpAny_bind (wpAny_entryPlaceOf fun pl hpl=>?_)
 unfold EntryCells.newEntry newFields
 refine wpAny_bind (wpAny_newObj_type ?_ (hpl.sizeOk5 _ _ _ _ _))
 generalize hO:({cls:=.type "traceback",dict:=none,data:=.fields ([head,.ref L,.none,rawInt L,.none]++(if pl.isEmpty then List.replicate 6 Value.none else pl)).toArray}:Obj)=O
 have ks:∀a o,w.s.heap.get? a=some o→Ks (fa A) h₁ a o:=fun a o e=>by
  by_cases hm:a∈fa A
  ·obtain⟨sl,q⟩:=hs₁.2.2 a o e;exact⟨sl,q,fun hn=>absurd hm hn⟩
  ·exact .same ((hs₁.2.1 a hm).trans e)
 have he₁:h₁.get? x=some oe:=(ks x oe h1).eq h9.off.f
 have push:∀a o,h₁.get? a=some o→(h₁.push O).get? a=some o:=fun a o e=>Heap.get?_push_of_some _ e
 refine wpAny_setField (push _ _ he₁) h4 h5 ?_
 have hd₃:=Obj.data_mapFields h4 (·.setIfInBounds 1 (Value.ref h₁.objs.size))
 generalize hfF:Obj.mapFields (·.setIfInBounds 1 (Value.ref h₁.objs.size))=fF at hd₃ ⊢
 have he₃:=Heap.get?_update_self fF (push _ _ he₁) (Obj.isFreed_of_fields hd₃)
 have other:∀a o,a≠x→h₁.get? a=some o→((h₁.push O).update x fF).get? a=some o:=fun a o hne e=>(Heap.get?_update_other _ _ (Ne.symm hne)).trans (push _ _ e)
 have hTe:h₁.objs.size≠x:=Nat.ne_of_gt (Heap.lt_size he₁)
 have nT:w.s.heap.get? h₁.objs.size=none:=by
  cases e:w.s.heap.get? h₁.objs.size with
  |none=>rfl
  |some o=>exact(ks _ _ e).ex.elim fun sl q=>absurd (Heap.lt_size q) (Nat.lt_irrefl _)
 have hT3:((h₁.push O).update x fF).get? h₁.objs.size=some O:=(Heap.get?_update_other _ _ (Ne.symm hTe)).trans (Heap.get?_push_size _ (hO▸rfl))
 have offT:=w.off nT
 have ch:Chg w [x] ((h₁.push O).update x fF):=⟨fun z hz=>by rw[List.mem_singleton.mp hz];exact⟨h9.off.g,h9.off.i⟩,fun z hz hf=>by rw[List.mem_singleton.mp hz]at hf;exact absurd hf h9.off.f,
  fun a o e hz=>(ks a o e).trans fun o' e'=>.same (other a o' (fun q=>hz (by simp[q])) e'),fun a o hz _=>by rw[List.mem_singleton.mp hz];exact⟨_,he₃⟩⟩
 refine h (w.chg _ w.s.toks ch) rfl (ch.st _) (.mk x (.mk _ _ d es m tk he₃ (hfF▸(Obj.cls_mapFields _ _).trans h2) ?_ hd₃ (by simpa using h5) h6 (other d _ h6 ((ks d _ h7).eq h8.off.f)) hw h8.chg h9.chg ?_)) (.mk x _ _ h₁.objs.size he₃ hd₃ (by simp[h5]))
 ·rw[← hfF]
  obtain⟨cc,dd,dt,sl⟩:=oe
  simp only at h4;subst h4
  exact h3
 ·rw[show(vs.setIfInBounds 1 (Value.ref h₁.objs.size))[1]?=some (Value.ref h₁.objs.size)by simp[h5]]
  obtain⟨ts,o1,o2⟩:∃ts,O.data=.fields ts∧ts[3]?=some (rawInt L):=⟨_,by rw[← hO],by simp⟩
  exact .one _ O ts (rawInt L) hTe (fun q=>by rw[q,h7]at nT;cases nT) hT3 o1 o2 ⟨⟨offT.g,offT.i,offT.f⟩,hh _ offT.g nT⟩
noncomputable def Ndg(w₀ w:Wd A)(c:Addr)(t:Str)(e:Value)(k:Wd A→Prop):Prop:=∀Z (w':Wd A),w'.σ=w.σ→St Z w w'→(∀z∈Z,Prv w₀.s.heap w z)→XR w₀ w' c t e→k w'
theorem Zea{w₀ w:Wd A}{c:Addr}{t:Str}{e:Value}{env:Env}{outer:List Env}{L:Addr}{M:Model}{Q:Unit→Shared→Prop}{E:Value→Shared→Prop}(hA:AOk A n)
  (hfr:A.frames=some (env::outer)) (hf:env.frame=some L) (hh:∀a,a∉w.γ→w.s.heap.get? a=none→w₀.s.heap.get? a=none) (hxr:XR w₀ w c t e)
  (h:Ndg w₀ w c t e fun w'=>ZjI w'.s.heap e→Q () w'.s):wpAny M A (noteFrame e env) Q E w.s:=by
 cases hxr with|mk x hx=>
 have hxr:XR w₀ w c t (.ref x):=.mk x hx
 cases hx with|mk oe vs d es m tk h1 h2 h3 h4 h5 h6 h7 hw h8 h9 h10=>
 unfold noteFrame
 simp only[hf]
 have px:∀z∈[x],Prv w₀.s.heap w z:=fun z hz=>by rw[List.mem_singleton.mp hz];exact⟨h9,oe,vs,h1,h4⟩
 generalize hv:vs[1]?=o1 at h10
 cases h10 with
 |none=>
  refine wpAny_bind (wpAny_field h1 h4 hv ?_)
  rw[if_neg (by decide)]
  exact Zfw hA hfr hf hh h1 h2 h3 h4 h5 h6 h7 hw h8 h9 fun w' e st x' n=>h [x] w' e st px x' n
 |one T oT ts v q1 q2 q3 q4 q5 q6=>
  refine wpAny_bind (wpAny_field h1 h4 hv ?_)
  rw[if_pos (show(Value.ref T != Value.none)=true from by simp)]
  refine wpAny_bind (wpAny_field q3 q4 q5 ?_)
  split
  ·exact wpAny_pure (h [] w rfl (.refl _ _) (fun _ hz=>nomatch hz) hxr (.mk x oe vs T h1 h4 hv))
  ·refine wpAny_bind (wpAny_setField q3 q4 (Array.getElem?_eq_some_iff.mp q5).1 ?_)
   have hdT:=Obj.data_mapFields q4 (·.setIfInBounds 3 Value.none)
   have ch:=Chg.pv (f:=Obj.mapFields (·.setIfInBounds 3 Value.none)) q6 q3 (Obj.isFreed_of_fields hdT)
   have st1:=ch.st w.s.toks
   have other:∀b o,b≠T→w.s.heap.get? b=some o→(w.chg _ w.s.toks ch).s.heap.get? b=some o:=fun b o hb e=>(Heap.get?_update_other _ _ (Ne.symm hb)).trans e
   refine Zfw (w:=w.chg _ w.s.toks ch) hA hfr hf (fun a hn e=>hh a hn (st1.there (List.prefix_refl _) hn e)) (other x _ (Ne.symm q1) h1) h2 h3 h4 h5 h6 (other d _ (Ne.symm q2) h7) hw h8.chg h9.chg fun w' e st2 x' n=>?_
   exact h [x,T] w' e ((st1.weak fun b hb=>List.mem_cons_of_mem _ hb).trans (st2.weak fun b hb=>by rw[List.mem_singleton.mp hb];exact List.mem_cons_self)) (fun z hz=>(List.mem_cons.mp hz).elim (fun q=>px z (q▸List.mem_singleton.mpr rfl)) fun q=>by rw[List.mem_singleton.mp q];exact⟨q6,oT,ts,q3,q4⟩) x' n
theorem WN{w₀ w:Wd A}{c:Addr}{t:Str}{e:Value}{f:Option Addr}{M:Model}{Q:Unit→Shared→Prop}{E:Value→Shared→Prop}{A':Around}
  (hxr:XR w₀ w c t e) (h:Ndg w₀ w c t e fun w'=>Q () w'.s):wpAny M A' (setFlight e f) Q E w.s:=by
 cases hxr with|mk x hx=>
 have hxr:XR w₀ w c t (.ref x):=.mk x hx
 cases hx with|mk oe vs d es m tk h1 h2 h3 h4 h5 h6 h7 hw h8 h9 h10=>
 unfold setFlight
 generalize hv:vs[1]?=o1 at h10
 cases h10 with
 |none=>
  refine wpAny_bind (wpAny_field h1 h4 hv ?_)
  rw[if_neg (by decide)]
  exact wpAny_pure (h [] w rfl (.refl _ _) (fun _ hz=>nomatch hz) hxr)
 |one T oT ts v q1 q2 q3 q4 q5 q6=>
  refine wpAny_bind (wpAny_field h1 h4 hv ?_)
  rw[if_pos (show(Value.ref T != Value.none)=true from by simp)]
  have hsz:=(Array.getElem?_eq_some_iff.mp q5).1
  refine wpAny_setField q3 q4 hsz ?_
  generalize(f.elim Value.none fun f=>rawInt f)=u
  have hdT:=Obj.data_mapFields q4 (·.setIfInBounds 3 u)
  have ch:=Chg.pv (f:=Obj.mapFields (·.setIfInBounds 3 u)) q6 q3 (Obj.isFreed_of_fields hdT)
  have other:∀b o,b≠T→w.s.heap.get? b=some o→(w.chg _ w.s.toks ch).s.heap.get? b=some o:=fun b o hb e=>(Heap.get?_update_other _ _ (Ne.symm hb)).trans e
  exact h [T] (w.chg _ w.s.toks ch) rfl (ch.st _) (fun z hz=>by rw[List.mem_singleton.mp hz];exact⟨q6,oT,ts,q3,q4⟩)
   (.mk x (.mk oe vs d es m tk (other x _ (Ne.symm q1) h1) h2 h3 h4 h5 h6 (other d _ (Ne.symm q2) h7) hw h8.chg h9.chg (hv▸.one T _ _ u q1 q2 (Heap.get?_update_self _ q3 (Obj.isFreed_of_fields hdT)) hdT (by simp[hsz]) q6.chg)))
theorem ZdZ{s:Shared}{e:Value}(x:ZjI s.heap e){M:Model}{Q:Value→Shared→Prop}{E:Value→Shared→Prop}(h:∀T:Addr,Q (.ref T) s):wpAny M A (field e 1) Q E s:=by
 cases x with|mk x oe vs T h1 h2 h3=>exact wpAny_field h1 h2 h3 (h T)
theorem ZcU{X:Fx Γ}{w w₁:Wd X.A}{l':Loc}{c:Addr}{t:Str}{e:Value}{Q:Flow→Shared→Prop}{E:Value→Shared→Prop}(hS:SOk X)(st:St (xset X.env) w w₁)(F:FR X l' w₁)(x:XR w w₁ c t e)(k:AftS w Q E (some (.exc c t,l',w₁.σ))):
  notedBy MM X.A X.env (cameBackBy MM X.A X.env E) e w₁.s:=by
 obtain⟨outer,hfr⟩:=hS.fr
 refine Zea X.hA hfr hS.loc (fun a hn e=>st.there (List.prefix_refl _) hn e) x fun Z w₂ e₂ st₂ p₂ x₂ nt=>?_
 refine wpAny_bind (ZdZ nt fun T=>?_)
 rw[if_neg (by simp)]
 exact WN x₂ fun Z' w₃ e₃ st₃ p₃ x₃=>k w₃ (e₃.trans e₂) ((st.nudge p₂ st₂).nudge p₃ st₃) ((F.nudge p₂ st₂).nudge p₃ st₃) e x₃
end
section
open PySem.Calls PyProof.Rows
set_option genInjectivity false
variable{Γ:Cfg}{A:Around}{n:Nat}
inductive WInv(X:Fx Γ)(m:Nat→SM)(Q:Flow→Shared→Prop)(E:Value→Shared→Prop)(j:Nat):Shared→Prop
 |mk (l:Loc) (w:Wd X.A):FR X l w→AftS w Q E (m j l w.σ)→WInv X m Q E j w.s
theorem AftS.while{X:Fx Γ}{w:Wd X.A}{l:Loc}{t:Tn}{b:SM}{j:Nat}{Q:Flow→Shared→Prop}{E:Value→Shared→Prop}(F:FR X l w)(k:AftS w Q E (Z6 t b (j+1) l w.σ)){E':Value→Shared→Prop}{D:Bool→Wd X.A→Prop}
  (hE:∀(w':Wd X.A) c x e,St [] w w'→XR w w' c x e→AftS w Q E (some (.exc c x,l,w'.σ))→E' e w'.s) (hf:∀w':Wd X.A,St [] w w'→AftS w' Q E (some (.ok .next,l,w'.σ))→D false w')
  (ht:∀w':Wd X.A,St [] w w'→AftS w' Q E (sSeq b (Z6 t b j) l w'.σ)→D true w'):Aft w D E' (t l w.σ):=by
 have k:AftS w Q E (match t l w.σ with
  |none=>none
  |some (.exc c w,σ')=>some (.exc c w,l,σ')
  |some (.ok false,σ')=>some (.ok .next,l,σ')
  |some (.ok true,σ')=>sSeq b (Z6 t b j) l σ'):=k
 cases e:t l w.σ with
 |none=>rw[e]at k;exact k.elim
 |some p=>
  obtain⟨r,σ₁⟩:=p
  rw[e]at k
  cases r with
  |exc c x=>exact fun w' e' st y hy=>hE w' c x y st hy (e'▸k)
  |ok b'=>
   cases b' with
   |false=>exact fun w' e' st=>hf w' st (AftS.after (e'▸k) st.wide)
   |true=>
    exact fun w' e' st=>ht w' st (AftS.after (o:=sSeq b (Z6 t b j) l w'.σ) (e'▸k) st.wide)
theorem ZgS{t:Expr}{tt:Tn}{body:List Stmt}{mb:SM}{pos:Pos}(ht:SemT Γ t tt)(hb':SemB Γ body mb):SemS Γ (.While t body [] pos) (Zal tt mb):=fun X l w hS F Q E k=>by
 refine wpAny_While (codeAny_whileLoop (WInv X (Z6 tt mb) Q E) (fun j s h=>?_) lim (.mk l w F k))
 cases h with|mk l w F k=>
 cases j with
 |zero=>exact k.elim
 |succ j=>
  refine ht _ _ _ F _ _ (k.while F (fun w' c x e st hx k=>ZcU hS st.wide (F.st st) hx k) (fun w' st k=>wpAny_execs_nil (k w' rfl (.refl _ _) (F.st st))) fun w₁ st k=>?_)
  exact hb' hS (F.st st) (k.seq (fun l' w' F k=>⟨j,Nat.lt_succ_self _,.mk l' w' F k⟩) (fun y s h=>h) fun w' c x e l' st F hx k=>ZcU hS st F hx k)
noncomputable abbrev Src(τ:Type):=τ→Hp→Option (Option (P×τ))
noncomputable def nxtL:Src (List P):=fun st _=>match st with
 |[]=>some none
 |p::ps=>some (some (p,ps))
structure Yx(w:Wd A)(b:Addr):Prop where
 off:Off w b
 ex:∃o,w.s.heap.get? b=some o
theorem Yx.step{w w':Wd A}{b:Addr}{Y:List Addr}(o:Yx w b)(st:St Y w w'):Yx w' b:=o.ex.elim fun x e=>have p:=st.old b x e o.off.g;⟨⟨p.g,p.i.trans o.off.i,o.off.f⟩,p.lv⟩
theorem Yx.kept{w w':Wd A}{b:Addr}{Y:List Addr}(o:Yx w b)(st:St Y w w')(hb:b∉Y){x:Obj}(e:w.s.heap.get? b=some x):w'.s.heap.get? b=some x:=((st.old b x e o.off.g).k hb).eq o.off.f
theorem Wd.own_push(w:Wd A)(o:Obj)(ho:o.isFreed=false)(t:Nat):Yx (w.junk o t) w.s.heap.objs.size:=⟨QU o t,_,Heap.get?_push_size _ ho⟩
structure It(A:Around)(tg:Expr)(it:Value)(fp:List Addr){τ:Type}(nxt:Src τ)(S:τ→Wd A→Prop):Prop where
 own:∀{st:τ} {w:Wd A},S st w→∀b∈fp,Yx w b
 frame:∀{st:τ} {w w':Wd A} {Y:List Addr},S st w→St Y w w'→(∀b∈fp,b∉Y)→S st w'
 item:∀{p:P} {st st':τ} {w:Wd A} {Q:Value→Shared→Prop} {E:Value→Shared→Prop},nxt st w.σ=some (some (p,st'))→S st w→
  (∀v (w':Wd A),w'.σ=w.σ→St fp w w'→PIn w'.I v p→S st' w'→Q v w'.s)→wpAny MM A (pyNext it) (fun r s₁=>∃v,r=some v∧wpAny MM A (letOwnedTupleGo tg it v) (fun _ s₂=>Q v s₂) E s₁) E w.s
 done:∀{st:τ} {w:Wd A} {Q:Option Value→Shared→Prop} {E:Value→Shared→Prop},nxt st w.σ=some none→S st w→(∀w':Wd A,w'.σ=w.σ→Gone fp w w'→Q none w'.s)→wpAny MM A (pyNext it) Q E w.s
 self:∀{st:τ} {w:Wd A} {Q E:Value→Shared→Prop},S st w→Q it w.s→wpAny MM A (pyIter it) Q E w.s
theorem It.go{tg:Expr}{it:Value}{fp:List Addr}{τ:Type}{nxt:Src τ}{S:τ→Wd A→Prop}(I:It A tg it fp nxt S){p:P}{st st':τ}{w:Wd A}{R':Option Value→Shared→Prop}{Q:Value→Shared→Prop}{E:Value→Shared→Prop}(hn:nxt st w.σ=some (some (p,st')))(hst:S st w)
  (hR:∀v s₁,wpAny MM A (letOwnedTupleGo tg it v) (fun _ s₂=>Q v s₂) E s₁→R' (some v) s₁) (k:∀v (w':Wd A),w'.σ=w.σ→St fp w w'→PIn w'.I v p→S st' w'→Q v w'.s):wpAny MM A (pyNext it) R' E w.s:=
 wpAny_mono (I.item hn hst k) (fun r s₁ ⟨v,e,h⟩=>by subst e;exact hR v s₁ h) fun _ _ e=>e
set_option backward.match.sparseCases true in
theorem ZdX{tg:Expr}{it:Addr}{v:Value}{o:Obj}{T:String}{vs:Array Value}{M:Model}{s:Shared}{Q:Unit→Shared→Prop}{E:Value→Shared→Prop}(ho:s.heap.get? it=some o)(hc:o.cls=.type T)(hd:o.data=.fields vs)
  (hT:["enumerate","zip","dict_itemiterator","dict_reverseitemiterator","odict_iterator","itertools.zip_longest","itertools.pairwise"].contains T=false) (h:Q () s):wpAny M A (letOwnedTupleGo tg (.ref it) v) Q E s:=by
 have main:wpAny M A (do
  let(.ref r,.ref a):=((.ref it:Value),v)|return
  let o ← load r
  match o.cls,o.data with
  | .type n,.fields vs=>
   if["enumerate","zip","dict_itemiterator","dict_reverseitemiterator","odict_iterator","itertools.zip_longest","itertools.pairwise"].contains n&&vs[0]?==some (rawInt a)then
    rule "for.unpacks-the-owned-tuple"
    updateField r 0 .none
  |_,_=>pure ()) Q E s:=by
  cases v<;>first|exact wpAny_pure h|skip
  refine wpAny_bind (wpAny_load ho ?_)
  rw[hc,hd]
  dsimp only
  rw[hT]
  simp only[Bool.false_and,Bool.false_eq_true,if_false]
  exact wpAny_pure h
 cases tg<;>first|exact wpAny_pure h|exact main
theorem WV{α:Type}{l:List α}{i:Nat}{p:α}{ps:List α}(h:p::ps=l.drop i):l[i]?=some p∧ps=l.drop (i+1):=by
 have h0:(l.drop i)[0]?=some p:=by rw[← h];rfl
 rw[List.getElem?_drop]at h0
 refine⟨h0,?_⟩
 have:=congrArg List.tail h
 rw[List.tail_cons,List.tail_drop]at this
 exact this
theorem drop_nil{α:Type}{l:List α}{i:Nat}(h:[]=l.drop i):l[i]?=none:=List.getElem?_eq_none (List.drop_eq_nil_iff.mp h.symm)
theorem Zd3{I:IMap}{vs:Array Value}{all:List P}{i:Nat}(h:PAll I vs.toList all)(e:all[i]?=none):vs[i]?=none:=by
 rw[List.getElem?_eq_none_iff]at e
 rw[Array.getElem?_eq_none_iff,Y8 h];exact e
theorem Zd9{vs:Array Value}{i:Nat}{v:Value}(h:vs.toList[i]?=some v):vs[i]?=some v:=by simpa using h
theorem It.fin{fp:List Addr}{w:Wd A}(off:∀b∈fp,Yx w b){h':Heap}{t:Nat}(out:∀a o,a∉fp→w.s.heap.get? a=some o→h'.get? a=some o){Q:Option Value→Shared→Prop}(k:∀w':Wd A,w'.σ=w.σ→Gone fp w w'→Q none w'.s):Q none {w.s with heap:=h',toks:=t}:=
 k (w.end h' t (.priv (fun z hz=>(off z hz).off) fun a o e hz=>out a o hz e)) rfl ⟨rfl,rfl,fun a o e hz=>out a o hz e⟩
noncomputable def Zmx(T:String):Bool:=!["enumerate","zip","dict_itemiterator","dict_reverseitemiterator","odict_iterator","itertools.zip_longest","itertools.pairwise"].contains T
theorem It.one{τ:Type}{nxt:Src τ}{tg:Expr}{it:Addr}{F:Wd A→Prop}{T:τ→Heap→Prop}{C:String}(hC:Zmx C=true)(hF:∀{X:List Addr} {w w':Wd A},St X w w'→F w→F w')(hT:∀{st h h'},T st h→(∀o,h.get? it=some o→h'.get? it=some o)→T st h')
  (cls:∀{st h},T st h→∃o vs,h.get? it=some o∧o.cls=.type C∧o.data=.fields vs)
  (item:∀{p:P} {st st':τ} {w:Wd A} {Q:Option Value→Shared→Prop} {E:Value→Shared→Prop},nxt st w.σ=some (some (p,st'))→F w→T st w.s.heap→(∀v h' t,PIn w.I v p→T st' h'→Heap.SameBut it w.s.heap h'→Q (some v) {w.s with heap:=h',toks:=t})→wpAny MM A (pyNext (.ref it)) Q E w.s)
  (done:∀{st:τ} {w:Wd A} {Q:Option Value→Shared→Prop} {E:Value→Shared→Prop},nxt st w.σ=some none→F w→T st w.s.heap→(∀h',Heap.ExtBut it w.s.heap h'→Q none {w.s with heap:=h'})→wpAny MM A (pyNext (.ref it)) Q E w.s)
  (self:∀{st:τ} {s:Shared} {Q E:Value→Shared→Prop},T st s.heap→Q (.ref it) s→wpAny MM A (pyIter (.ref it)) Q E s):It A tg (.ref it) [it] nxt fun st w=>Yx w it∧F w∧T st w.s.heap where
 own:=fun h b hb=>by rw[List.mem_singleton.mp hb];exact h.1
 frame:=fun h st hY=>⟨h.1.step st,hF st h.2.1,hT h.2.2 fun o e=>h.1.kept st (hY _ List.mem_cons_self) e⟩
 item:=fun{p st st' w Q E} hn h k=>item hn h.2.1 h.2.2 fun v h' t hp hT' hs=>by
  obtain⟨o,vs,e1,e2,e3⟩:=cls hT'
  have c:Chg w [it] h':=.priv (fun z hz=>by rw[List.mem_singleton.mp hz];exact h.1.off) (fun a o hz e=>(hs.2 a fun q=>hz (by simp[q])).trans e) fun a ha=>by rw[List.mem_singleton.mp ha];exact⟨o,e1⟩
  exact⟨v,rfl,ZdX e1 e2 e3 ((Bool.not_eq_true' _).mp hC) (k v (w.chg h' t c) rfl (c.st t) hp ⟨h.1.step (c.st t),hF (c.st t) h.2.1,hT'⟩)⟩
 done:=fun{st w Q E} hn h k=>done hn h.2.1 h.2.2 fun h' he=>It.fin (t:=w.s.toks) (fun b hb=>by rw[List.mem_singleton.mp hb];exact h.1) (fun a o hz e=>he a o (fun q=>hz (by simp[q])) e) k
 self:=fun h k=>self h.2.2 k
inductive SeqF(T:String)(ax:Addr)(vs:Array Value)(all:List P)(w:Wd A):Prop
 |mk (o:Obj) (m:Nat):w.I ax=some o→o.cls=.type T→o.data=.seq vs m→PAll w.I vs.toList all→SeqF T ax vs all w
theorem SeqF.st{T:String}{ax:Addr}{vs:Array Value}{all:List P}{X:List Addr}{w w':Wd A}(st:St X w w')(h:SeqF T ax vs all w):SeqF T ax vs all w':=by
 cases h with|mk o m a b c d=>exact .mk o m (st.mono _ _ a) b c (d.mono st.mono)
theorem XV{ps ps':List P}{p:P}{σ:Hp}(h:nxtL ps σ=some (some (p,ps'))):ps=p::ps':=by
 cases ps with
 |nil=>cases h
 |cons=>cases h;rfl
theorem XW{ps:List P}{σ:Hp}(h:nxtL ps σ=some none):ps=[]:=by
 cases ps with
 |nil=>rfl
 |cons=>cases h
theorem Zj1(hh:A.handled=none)(tg:Expr)(it ax:Addr)(vs:Array Value)(all:List P):It A tg (.ref it) [it] nxtL fun ps w=>Yx w it∧SeqF "tuple" ax vs all w∧∃i,ps=all.drop i∧w.s.heap.IsTupleIter it ax i:=
 .one (C:="tuple_iterator") (F:=SeqF "tuple" ax vs all) (T:=fun ps h=>∃i,ps=all.drop i∧h.IsTupleIter it ax i) (by decide) SeqF.st (fun⟨i,e,h⟩ k=>⟨i,e,h.at k⟩) (fun⟨i,e,o,h⟩=>⟨o,_,h⟩)
  (fun{p st st' w Q E} hn hF ⟨i,e,h⟩ k=>by
   cases hF with|mk o m a1 a2 a3 a4=>
   have q:=WV ((XV hn).symm.trans e)
   obtain⟨v,hv,hpv⟩:=a4.get q.1
   exact wpAny_pyNext_tuple_item h ⟨o,w.b.keep _ _ a1,a2,m,a3⟩ (Zd9 hv) fun h' hit hs=>k v h' w.s.toks hpv ⟨i+1,q.2,hit⟩ hs)
  (fun{st w Q E} hn hF ⟨i,e,h⟩ k=>by
   cases hF with|mk o m a1 a2 a3 a4=>
   exact wpAny_pyNext_tuple_end hh h ⟨o,w.b.keep _ _ a1,a2,m,a3⟩ (Zd3 a4 (drop_nil ((XW hn).symm.trans e))) k)
  fun⟨i,e,h⟩ k=>wpAny_pyIter_tupleiter h k
theorem Zl8(hh:A.handled=none)(tg:Expr)(it ax:Addr)(vs:Array Value)(all:List P):It A tg (.ref it) [it] nxtL fun ps w=>Yx w it∧SeqF "list" ax vs all w∧∃i,ps=all.drop i∧w.s.heap.IsListIter it ax i:=
 .one (C:="list_iterator") (F:=SeqF "list" ax vs all) (T:=fun ps h=>∃i,ps=all.drop i∧h.IsListIter it ax i) (by decide) SeqF.st (fun⟨i,e,h⟩ k=>⟨i,e,h.at k⟩) (fun⟨i,e,o,h⟩=>⟨o,_,h⟩)
  (fun{p st st' w Q E} hn hF ⟨i,e,h⟩ k=>by
   cases hF with|mk o m a1 a2 a3 a4=>
   have q:=WV ((XV hn).symm.trans e)
   obtain⟨v,hv,hpv⟩:=a4.get q.1
   exact wpAny_pyNext_list_item h ⟨o,w.b.keep _ _ a1,a2,m,a3⟩ (Zd9 hv) fun h' hit hs=>k v h' w.s.toks hpv ⟨i+1,q.2,hit⟩ hs)
  (fun{st w Q E} hn hF ⟨i,e,h⟩ k=>by
   cases hF with|mk o m a1 a2 a3 a4=>
   exact wpAny_pyNext_list_end hh h ⟨o,w.b.keep _ _ a1,a2,m,a3⟩ (Zd3 a4 (drop_nil ((XW hn).symm.trans e))) k)
  fun⟨i,e,h⟩ k=>wpAny_pyIter_listiter h k
theorem Zj2(hh:A.handled=none)(tg:Expr)(it:Addr)(c:Int):It A tg (.ref it) [it] nxtL fun ps w=>Yx w it∧True∧∃(a:Int) (k:Nat),ps=Zae a c k∧IsRangeIter w.s.heap it a k c:=
 .one (C:="range_iterator") (F:=fun _=>True) (T:=fun ps h=>∃(a:Int) (k:Nat),ps=Zae a c k∧IsRangeIter h it a k c) (by decide) (fun _ h=>h) (fun⟨a,j,e,h⟩ k=>⟨a,j,e,k _ h⟩) (fun⟨a,j,e,h⟩=>⟨_,_,h,rfl,rfl⟩)
  (fun{p st st' w Q E} hn _ ⟨a,j,e,h⟩ k=>by
   have e:=(XV hn).symm.trans e
   cases j with
   |zero=>cases e
   |succ j=>
    cases e
    refine wpAny_pyNext_range_item h (Ar.n1 (.T (.k 0) (.c (.p (.v 0) (.k 1)))) (by kernel_rfl)) fun h' hit hs=>k _ h' _ (.int _ _) ⟨a+c,j,rfl,?_⟩ hs
    have e:((j+1:Nat):Int) - 1=j:=Ar.n1 (.E (.s (.c (.p (.v 0) (.k 1))) (.k 1)) (.c (.v 0))) (by kernel_rfl)
    rw[e]at hit
    exact hit)
  (fun{st w Q E} hn _ ⟨a,j,e,h⟩ k=>by
   have e:=(XW hn).symm.trans e
   cases j with
   |zero=>exact wpAny_pyNext_range_end hh h (by decide) k
   |succ j=>cases e)
  fun⟨a,j,e,h⟩ k=>wpAny_pyIter_rangeiter h k
inductive Iter(w₀ w:Wd A)(tg:Expr)(ps:List P)(it:Value):Prop
 |mk (fp:List Addr) (S:List P→Wd A→Prop):It A tg it fp nxtL S→S ps w→(∀b∈fp,w₀.s.heap.get? b=none)→ps.length≤sizeLine→Iter w₀ w tg ps it
theorem Iter.back{w₀ w₁ w:Wd A}{X:List Addr}{tg:Expr}{ps:List P}{v:Value}(i:Iter w₁ w tg ps v)(st:St X w₀ w₁)(hp:w₁.γ<+:w.γ):Iter w₀ w tg ps v:=by
 cases i with|mk fp S I hs fr hl=>exact .mk fp S I hs (fun b hb=>st.there hp (I.own hs b hb).off.g (fr b hb)) hl
noncomputable def PI(w₀:Wd A)(tg:Expr)(Q:Value→Shared→Prop):List P→Wd A→Prop:=fun ps w=>∀y,Iter w₀ w tg ps y→Q y w.s
noncomputable def SemI(Γ:Cfg)(tg e:Expr)(it:In):Prop:=∀⦃X:Fx Γ⦄ ⦃l:Loc⦄ ⦃w:Wd X.A⦄,FR X l w→∀⦃Q E⦄,Aft w (PI w tg Q) E (it l w.σ)→wpAny MM X.A (eval e X.env) (fun x s₁=>wpAny MM X.A (pyIter x) Q E s₁) E w.s
theorem Aft.backI{w w₁:Wd A}{tg:Expr}{Q E:Value→Shared→Prop}{o:Option (R (List P)×Hp)}(k:Aft w₁ (PI w tg Q) E o)(st:St [] w w₁):Aft w₁ (PI w₁ tg Q) E o:=k.imp fun ps w' st' k y i=>k y (i.back st st'.pre)
theorem Zep{w:Wd A}{tg:Expr}{ps:List P}{O:Obj}(hO:O.isFreed=false){S:List P→Wd A→Prop}(I:It A tg (.ref w.s.heap.objs.size) [w.s.heap.objs.size] nxtL S)(hs:S ps (w.junk O w.s.toks))(hl:ps.length≤sizeLine):Iter w (w.junk O w.s.toks) tg ps (.ref w.s.heap.objs.size):=
 .mk _ S I hs (fun b hb=>by rw[List.mem_singleton.mp hb];exact w.new) hl
theorem Zdo{w:Wd A}{y:Value}{ps:List P}(hA:AOk A n)(hy:PIn w.I y (.tuple ps)∨PIn w.I y (.list ps))(tg:Expr){Q E:Value→Shared→Prop}(k:Aft w (PI w tg Q) E (some (.ok ps,w.σ))):wpAny MM A (pyIter y) Q E w.s:=by
 rcases hy with hy|hy
 ·refine hy.tup_e fun{a o vs m} a1 a2 a3 a4 a5=>wpAny_pyIter_tuple ⟨o,w.b.keep _ _ a1,a2,m,a3⟩ ?_
  exact k (w.junk _ _) rfl (w.st_junk _ _) _ (Zep rfl (Zj1 hA.hd tg _ a vs ps) ⟨w.own_push _ rfl _,.mk o m a1 a2 a3 a5,0,rfl,_,Heap.get?_push_size _ rfl,rfl,rfl⟩ a4)
 ·refine hy.lst_e fun{a o vs m} a1 a2 a3 a4 a5=>wpAny_pyIter_list ⟨o,w.b.keep _ _ a1,a2,m,a3⟩ ?_
  exact k (w.junk _ _) rfl (w.st_junk _ _) _ (Zep rfl (Zl8 hA.hd tg _ a vs ps) ⟨w.own_push _ rfl _,.mk o m a1 a2 a3 a5,0,rfl,_,Heap.get?_push_size _ rfl,rfl,rfl⟩ a4)
theorem ZiZ{tg e:Expr}{f:Fn}(h:SemE Γ e f):SemI Γ tg e (iSeq f):=fun X l w F Q E k=>h.bd F k fun v w₁ y st hy k=>Ze3 (G:=fun s=>wpAny MM X.A (pyIter y) Q E s) (k.backI st) hy fun p w₂ st₂ hp k=>by
 cases p with
 |tuple ps=>exact Zdo X.hA (.inl hp) tg (Aft.backI k st₂)
 |list ps=>exact Zdo X.hA (.inr hp) tg (Aft.backI k st₂)
 |_=>exact k.elim
noncomputable def ItN(n:Nat)(tg:Expr)(fv:Value)(g:List V→HM (List P)):Prop:=∀⦃A:Around⦄ ⦃w:Wd A⦄ ⦃vs:List V⦄ ⦃ys:List Value⦄,AOk A n→VRs w vs ys→∀⦃Q E⦄,Aft w (PI w tg Q) E (g vs w.σ)→wpAny MM A (call fv ys) (fun x s₁=>wpAny MM A (pyIter x) Q E s₁) E w.s
theorem Zha{tg:Expr}{fv:Value}{g:List V→HM (List P)}{x:Str}{np pos:Pos}{e:Expr}{es:List Expr}{fs:List Fn}(o:ItN Γ.n tg fv g)(hx:Xr x fv)(h:Ww Γ (e::es) fs)(hb':ZhI fv=true)
  (hk:Γ.sc.names.lookup x=some .globalImplicit) (hd:(x==("__debug__":Str))=false) (hs:((e::es).all fun e=>!isStarred e)=true):SemI Γ tg (.Call (.Name x np) (e::es) [] pos) (Z5 g fs):=fun X l w F Q E k=>
 wpAny_bind (m:=eval (.Name x np) X.env) (f:=fun f=>callWith pos f [] (backTo pos (starEach (e::es) X.env)) (backToKw pos (keywordEach [] X.env))) (Wj hk hx (YE hb' hs (h.bd F k fun vs w₁ ys st hy k=>o X.hA hy (k.backI st))) hd)
section
variable{α:Type}{w:Wd A}{D:α→Wd A→Prop}{E:Value→Shared→Prop}{vs:List V}{ys:List Value}{G:List Value→Prop}
@[elab_as_elim] theorem v1_e {op:V→HM α} (k:Aft w D E (v1 op vs w.σ)) (hys:VRs w vs ys) (go:∀a y,VR w a y→Aft w D E (op a w.σ)→G [y]):G ys:=by
 cases hys with
 |nil=>exact k.elim
 |cons h t=>
  cases t with
  |nil=>exact go _ _ h k
  |cons=>exact k.elim
end
theorem Zf7(a c:Int)(n:Nat):(Zae a c n).length=n:=by
 induction n generalizing a with
 |zero=>rfl
 |succ n ih=>exact congrArg (·+1) (ih _)
theorem Zap{a b c:Int}(hc:0<c)(h:b - a≤1000000):0≤Builtin.Range.rangeSize a b c∧Builtin.Range.rangeSize a b c≤1000000:=by
 unfold Builtin.Range.rangeSize
 rw[if_pos (by exact Ar.a185 hc)]
 split
 ·have h1:(b - a - 1)/c≤b - a - 1:=by
   have:0≤b - a - 1:=by exact Ar.a186 (by assumption)
   exact Int.ediv_le_self _ this
  have h2:0≤(b - a - 1)/c:=Int.ediv_nonneg (by exact Ar.a186 (by assumption)) (Int.le_of_lt hc)
  generalize(b - a - 1)/c=q at h1 h2 ⊢
  exact⟨Int.le_trans h2 (Int.le_add_one (Int.le_refl _)),Int.le_trans (Int.add_le_add_right h1 1) (by rw[Int.sub_add_cancel];exact h)⟩
 ·exact⟨Int.le_refl _,by decide⟩
theorem ZeS{w:Wd A}{tg:Expr}{a b c:Int}{t u v:Tok}{ar:Addr}(hA:AOk A n)(hr:IsRange w.s.heap ar a b c t u v){Q E:Value→Shared→Prop}(k:Aft w (PI w tg Q) E (Q7 a b c w.σ)):wpAny MM A (pyIter (.ref ar)) Q E w.s:=by
 have k:=Wc k
 have h:=k.1
 simp only[Bool.and_eq_true,decide_eq_true_eq]at h
 obtain⟨⟨⟨⟨h0,h1⟩,h2⟩,h3⟩,h4⟩:=h
 have h1:=Xx h1
 have h2:=Xx h2
 have h3:=Xx h3
 obtain⟨q1,q2⟩:=Zap h0 h4
 have hsm:Builtin.Range.small a b c=true:=by
  unfold Builtin.Range.small
  rw[if_pos (show c>0 by exact Ar.a185 h0)]
  simp only[Builtin.Range.rangeFitsLong,Bool.and_eq_true,Bool.or_eq_true,decide_eq_true_eq,beq_iff_eq]
  clear k hr
  omega
 refine wpAny_pyIter_range hr hsm ?_
 have e:(((Builtin.Range.rangeSize a b c).toNat:Nat):Int)=Builtin.Range.rangeSize a b c:=Int.toNat_of_nonneg q1
 refine k.2 (w.junk _ _) rfl (w.st_junk _ _) _ (Zep rfl (Zj2 hA.hd tg _ c) ⟨w.own_push _ rfl _,trivial,a,_,rfl,?_⟩ ?_)
 ·rw[e];exact Heap.get?_push_size _ rfl
 ·rw[Zf7,sizeLine_eq]
  exact Nat.le_trans (m:=1000000) (Int.ofNat_le.mp (by rw[e];exact q2)) (by decide)
theorem Zeq{tg:Expr}:ItN n tg (.type "range") Z2:=fun A w vs ys hA hys Q E k=>by
 cases hys with
 |nil=>exact k.elim
 |cons h t=>
 cases t with
 |nil=>exact i1_e (G:=fun y=>wpAny MM A (call (.type "range") [y]) (fun x s₁=>wpAny MM A (pyIter x) Q E s₁) E w.s) k h fun b t k=>call_range_1 (ZeS (w:=w.junk _ _) hA (Heap.get?_push_size _ rfl) (Aft.backI (k.after (fun _ _ _ h=>h) (w.st_junk _ _)) (w.st_junk _ _)))
 |cons h2 t=>
 cases t with
 |nil=>exact k.elim
 |cons h3 t=>
 cases t with
 |cons=>exact k.elim
 |nil=>
  exact i1_e (G:=fun y=>wpAny MM A (call (.type "range") [y,_,_]) (fun x s₁=>wpAny MM A (pyIter x) Q E s₁) E w.s) k h fun a t k=>ii_e (G:=fun y z=>wpAny MM A (call (.type "range") [_,y,z]) (fun x s₁=>wpAny MM A (pyIter x) Q E s₁) E w.s) k h2 h3 fun b u c v k=>by
   have h:=(Wc k).1
   simp only[Bool.and_eq_true,decide_eq_true_eq]at h
   exact call_range_3 (Int.ne_of_gt h.1.1.1.1) (ZeS (w:=w.junk _ _) hA (Heap.get?_push_size _ rfl) (Aft.backI (k.after (fun _ _ _ h=>h) (w.st_junk _ _)) (w.st_junk _ _))) (.inl (ZeV (Xx h.1.2)))
end
section
open PySem.Calls PyProof.Rows
set_option genInjectivity false
variable{Γ:Cfg}{A:Around}{n:Nat}
theorem AftS.for{X:Fx Γ}{w:Wd X.A}{t:Tg}{b:SM}{p:P}{ps:List P}{l:Loc}{σ:Hp}{Q:Flow→Shared→Prop}{E:Value→Shared→Prop}{G:Prop}(k:AftS w Q E (Yj t b (p::ps) l σ))
  (go:∀l',ZX t p l=some l'→(∀{w₁:Wd X.A} {Q':Flow→Shared→Prop} {E':Value→Shared→Prop},w₁.σ=σ→St (xset X.env) w w₁→
   (∀l'' w',St (xset X.env) w₁ w'→FR X l'' w'→AftS w Q E (Yj t b ps l'' w'.σ)→Q' .next w'.s)→(∀y s,Q (.ret y) s→Q' (.ret y) s)→AftS w₁ Q' E' (b l' w₁.σ))→G):G:=by
 have k:AftS w Q E (match ZX t p l with
  |none=>none
  |some l'=>match b l' σ with
   |some (.ok .next,l'',σ')=>Yj t b ps l'' σ'
   |some (.ok (.ret v),l'',σ')=>some (.ok (.ret v),l'',σ')
   |_=>none):=k
 cases e:ZX t p l with
 |none=>rw[e]at k;exact k.elim
 |some l'=>
  rw[e]at k
  refine go l' e fun{w₁ Q' E'} e1 st hn hr=>?_
  subst e1
  have k:AftS w Q E (match b l' w₁.σ with
   |some (.ok .next,l'',σ')=>Yj t b ps l'' σ'
   |some (.ok (.ret v),l'',σ')=>some (.ok (.ret v),l'',σ')
   |_=>none):=k
  cases e2:b l' w₁.σ with
  |none=>rw[e2]at k;exact k.elim
  |some q=>
   obtain⟨r,l'',σ'⟩:=q
   rw[e2]at k
   cases r with
   |exc=>exact k.elim
   |ok o=>
    cases o with
    |next=>exact fun w' e' st' F=>hn l'' w' st' F (e'▸k)
    |ret v=>exact fun w' e' st' F y hy=>hr y _ (k w' e' (st.trans st') F y hy)
inductive FInv(X:Fx Γ)(w₀:Wd X.A)(S:List P→Wd X.A→Prop)(t:Tg)(b:SM)(Q:Flow→Shared→Prop)(E:Value→Shared→Prop)(j:Nat):Shared→Prop
 |mk (ps:List P) (l:Loc) (w:Wd X.A):j=ps.length→St (xset X.env) w₀ w→FR X l w→S ps w→AftS w₀ Q E (Yj t b ps l w.σ)→FInv X w₀ S t b Q E j w.s
theorem FR.xno{X:Fx Γ}{l:Loc}{w:Wd X.A}(F:FR X l w){b:Addr}(h:w.s.heap.get? b=none):b∉xset X.env:=fun hx=>(F.at_ hx).elim fun o q=>by rw[h]at q;cases q.1
theorem ZkU{tg iter:Expr}{itf:In}{t:Tg}{body:List Stmt}{mb:SM}{pos:Pos}(hi:SemI Γ tg iter itf)(hb':SemB Γ body mb)(ht:TgIs (X2 Γ.sc Γ.xs) t tg)(hs:∀env x,foldedSetIterable iter env x=pure x):
  SemS Γ (.For tg iter body [] pos) (sFor itf t mb):=fun X l w hS F Q E k=>by
 refine wpAny_For (hi F (k.let0 F fun ps w₁ st k it hit=>?_)) (hs X.env)
 cases hit with|mk fp S I hst fr hl=>
 have hX:∀b∈fp,b∉xset X.env:=fun b hb=>F.xno (fr b hb)
 refine codeAny_forLoop_any (FInv X w S t mb Q E) (fun j s h=>?_) ps.length (.mk ps l w₁ rfl st.wide (F.st st) hst k)
 cases h with|mk ps l w₂ hj st₂ F₂ hst k=>
 cases ps with
 |nil=>exact I.done rfl hst fun w' e g=>wpAny_execs_nil (k w' e (st₂.gone fr g) (F₂.gone g hX))
 |cons p ps=>
  refine k.for fun l' hbt kb=>I.go rfl hst (fun _ _ h=>h) fun v w₃ e₃ st₃ hv hst₃=>ZaL .all ht hv hbt (F₂.step st₃ hX) List.mem_cons_self fun w₄ e₄ st₄ F₄=>?_
  have st04:=(st₂.own fr st₃).trans st₄
  have hst₄:=I.frame hst₃ st₄ hX
  exact hb' hS F₄ (kb (e₄.trans e₃) st04 (fun l'' w' st' F' k=>⟨ps.length,hj▸Nat.lt_succ_self _,.mk ps l'' w' rfl (st04.trans st') F' (I.frame hst₄ st' hX) k⟩) fun y s h=>h)
theorem Zhr{w:Wd A}{fp:List Addr}{h':Heap}{T:Addr}{o:Obj}{t:Nat}(c:Chg w fp h')(hn:w.s.heap.get? T=none)(hT:T∉fp)(ho:h'.get? T=some o):
  ∃w':Wd A,w'.σ=w.σ∧w'.s={w.s with heap:=h',toks:=t}∧St fp w w'∧w'.I T=some o∧ILe w.I w'.I:=
 have x:=w.off hn
 have x':Off (w.chg h' t c) T:=⟨x.g,x.i,x.f⟩
 ⟨(w.chg h' t c).adoptI T o ho x',rfl,rfl,(c.st t).adoptI ho x' hn,IMap.put_self _ _ _,ILe.put x.i⟩
inductive Znn(e it ax:Addr)(vs:Array Value)(all:List P)(ps:List P)(w:Wd A):Prop
 |mk (i:Nat) (old:Value):Yx w e→Yx w it→SeqF "list" ax vs all w→ps=Zex i (all.drop i)→IsEnum w.s.heap e it (i:Nat) old→w.s.heap.IsListIter it ax i→Znn e it ax vs all ps w
theorem Zl9(hh:A.handled=none)(es:List Expr)(kk:Nat)(pos:Pos)(e it ax:Addr)(hei:e≠it)(vs:Array Value)(all:List P):It A (.Tuple es kk pos) (.ref e) [e,it] nxtL (Znn e it ax vs all):=by
 have two:∀{w:Wd A},Yx w e→Yx w it→∀b∈[e,it],Yx w b:=fun oe oi b hb=>(List.mem_cons.mp hb).elim (fun q=>q▸oe) fun q=>List.mem_singleton.mp q▸oi
 have me:∀{a},a∉[e,it]→a≠e∧a≠it:=fun h=>⟨fun q=>h (by simp[q]),fun q=>h (by simp[q])⟩
 refine⟨fun h=>?_,fun h st hY=>?_,fun{p ps ps' w Q E} hn h k=>?_,fun{ps w Q E} hn h k=>?_,fun h k=>?_⟩
 ·cases h with|mk i old oe oi hF e1 h6 h7=>exact two oe oi
 ·cases h with|mk i old oe oi hF e1 h6 h7=>exact .mk i old (oe.step st) (oi.step st) (hF.st st) e1 (oe.kept st (hY e List.mem_cons_self) h6) (h7.at fun o x=>oi.kept st (hY it (List.mem_cons_of_mem _ List.mem_cons_self)) x)
 ·cases h with|mk i old oe oi hF e1 h6 h7=>
  have e1:=(XV hn).symm.trans e1
  generalize hd:all.drop i=r at e1
  cases r with
  |nil=>cases e1
  |cons q qs=>
   cases e1
   have hp:=WV hd.symm
   cases hF with|mk o m a1 a2 a3 a4=>
   obtain⟨v,hv,hpv⟩:=a4.get hp.1
   refine wpAny_pyNext_enum_item h6 h7 ⟨o,w.b.keep _ _ a1,a2,m,a3⟩ (Zd9 hv) hei fun h' ho hit hT hsz hk=>⟨_,rfl,wpAny_letOwnedTupleGo_enum ho fun h'' he hs=>?_⟩
   have elt:=Nat.ne_of_gt (Heap.lt_size h6)
   have ilt:w.s.heap.objs.size≠it:=oi.ex.elim fun o q=>Nat.ne_of_gt (Heap.lt_size q)
   have hit':h''.IsListIter it ax (i+1):=hit.at fun o x=>hs.extBut _ _ (Ne.symm hei) x
   have c:Chg w [e,it] h'':=.priv (fun b hb=>(two oe oi b hb).off) (fun a o hn x=>hs.extBut _ _ (me hn).1 (hk a o (me hn).1 (me hn).2 x)) fun a ha=>
    (List.mem_cons.mp ha).elim (fun q=>⟨_,q▸he⟩) fun q=>hit'.elim fun o x=>⟨o,List.mem_singleton.mp q▸x.1⟩
   obtain⟨w',e2,e3,st,hI,m'⟩:=Zhr (t:=w.s.toks+1) c w.new (fun h=>(List.mem_cons.mp h).elim elt fun q=>ilt (List.mem_singleton.mp q)) (hs.extBut _ _ elt hT)
   rw[← e3]
   have e4:w'.s.heap=h'':=by rw[e3]
   exact k _ w' e2 st (.tup (vs:=#[.int i w.s.toks,v]) (n:=0) hI rfl rfl (show 2≤sizeLine by decide) (.cons (.int _ _) (.cons (hpv.mono m') .nil))) (.mk (i+1) v (oe.step st) (oi.step st) (.mk o m (m' _ _ a1) a2 a3 (a4.mono m')) (hp.2▸rfl) (e4▸he) (e4▸hit'))
 ·cases h with|mk i old oe oi hF e1 h6 h7=>
  have e1:=(XW hn).symm.trans e1
  cases hF with|mk o m a1 a2 a3 a4=>
  have hn:all[i]?=none:=by
   generalize hd:all.drop i=r at e1
   cases r with
   |nil=>exact drop_nil hd.symm
   |cons q qs=>cases e1
  exact wpAny_pyNext_enum_end hh h6 h7 ⟨o,w.b.keep _ _ a1,a2,m,a3⟩ (Zd3 a4 hn) fun h' he=>It.fin (t:=w.s.toks) (two oe oi) (fun a o hn x=>he a o (me hn).2 x) k
 ·cases h with|mk i old oe oi hF e1 h6 h7=>exact wpAny_pyIter_enum h6 k
theorem Zii(l:List P):∀i:Int,(Zex i l).length=l.length:=by
 induction l with
 |nil=>exact fun _=>rfl
 |cons _ _ ih=>exact fun _=>congrArg (·+1) (ih _)
theorem Zge{es:List Expr}{kk:Nat}{pos:Pos}:ItN n (.Tuple es kk pos) (.type "enumerate") Zgh:=fun A w vs ys hA hys Q E k=>v1_e k hys fun a y hy k=>Ze3 (G:=fun s=>wpAny MM A (call (.type "enumerate") [y]) (fun x s₁=>wpAny MM A (pyIter x) Q E s₁) E s) k hy fun p w₁ st hp k=>by
 cases p with
 |list all=>
  refine hp.lst_e fun{a o vs m} a1 a2 a3 a4 a5=>call_enumerate_list ⟨o,w₁.b.keep _ _ a1,a2,m,a3⟩ fun h' he hit hsz hk=>wpAny_pyIter_enum he ?_
  have c:=Chg.grow w₁ hk
  have n1:w₁.s.heap.get? (w₁.s.heap.objs.size+1)=none:=Heap.get?_none_of_le (Nat.le_succ _)
  have o1:=w₁.off n1
  have o0:=w₁.off w₁.new
  have k:=k.backI st
  refine k (w₁.chg h' w₁.s.toks c) rfl (c.st _) _ (.mk _ _ (Zl9 hA.hd es kk pos (w₁.s.heap.objs.size+1) w₁.s.heap.objs.size a (Nat.succ_ne_self _) vs all) (.mk 0 .none ⟨⟨o1.g,o1.i,o1.f⟩,_,he⟩ ⟨⟨o0.g,o0.i,o0.f⟩,hit.elim fun o x=>⟨o,x.1⟩⟩ (.mk o m a1 a2 a3 a5) rfl he hit) (fun b hb=>?_) (by rw[Zii];exact a4))
  exact(List.mem_cons.mp hb).elim (fun q=>q▸n1) fun q=>List.mem_singleton.mp q▸w₁.new
 |_=>exact k.elim
end
section
open PySem.Calls PyProof.Rows
set_option genInjectivity false
variable{Γ:Cfg}{A:Around}{n:Nat}
noncomputable def Z0(scope sc:Scope):Scope:=
 {scope with names:=scope.names.map fun(n,k)=>if(k==.free&&sc.kind==.function&&sc.names.lookup n==some .cell)then(n,.cell)else(n,k)}
theorem Zbq{scope sc:Scope}{env:Env}(h:env.scope=sc):relabel scope env=Z0 scope sc:=by
 unfold relabel Z0 Env.kindOf
 rw[h]
noncomputable def ZB(cs:List (Str×Addr)):List (Str×NameKind)→List (Str×Addr)→List (Str×Addr)
 |[],acc=>acc
 |x::r,acc=>ZB cs r (if x.2==.free then(match cs.lookup x.1 with
  |some c=>(x.1,c)::acc
  |none=>acc)else acc)
theorem Zgt(env:Env)(names:List (Str×NameKind)):∀acc:List (Str×Addr),(∀x∈names,x.2=.free→∃c,env.cells.lookup x.1=some c)→
  (forIn names acc fun(x:Str×NameKind) (cs:List (Str×Addr))=>match x with
   |(name,kind)=>if kind==.free then(do let a ← cellOf env name;pure (ForInStep.yield ((name,a)::cs)))else pure (ForInStep.yield cs))=(pure (ZB env.cells names acc):Sem (List (Str×Addr))):=by
 induction names with
 |nil=>exact fun _ _=>rfl
 |cons x r ih=>
  intro acc h
  obtain⟨n,k⟩:=x
  rw[List.forIn_cons]
  have hr:∀x∈r,x.2=.free→∃c,env.cells.lookup x.1=some c:=fun x hx=>h x (List.mem_cons_of_mem _ hx)
  unfold ZB
  by_cases hk:(k==NameKind.free)=true
  ·simp only[hk,if_true]
   obtain⟨c,hc⟩:=h (n,k) List.mem_cons_self (by simpa using hk)
   have e:cellOf env n=pure c:=by unfold cellOf;rw[hc]
   rw[e,hc]
   exact ih _ hr
  ·simp only[hk,if_false,Bool.false_eq_true]
   exact ih _ hr
theorem Zgs{scope:Scope}{env:Env}(h:∀x∈scope.names,x.2=.free→∃c,env.cells.lookup x.1=some c):closureFor scope env=pure (ZB env.cells scope.names []):=by
 have e:=Zgt env scope.names [] h
 unfold closureFor
 show((forIn scope.names ([]:List (Str×Addr)) fun(x:Str×NameKind) (cs:List (Str×Addr))=>match x with
   |(name,kind)=>if kind==.free then(do let a ← cellOf env name;pure (ForInStep.yield ((name,a)::cs)))else pure (ForInStep.yield cs))>>=fun cs=>(pure cs:Sem (List (Str×Addr))))=_
 rw[e]
 rfl
theorem XJ{cs:List (Str×Addr)}{x:Str×NameKind}{acc:List (Str×Addr)}{G:List (Str×Addr)→Prop}(h1:∀c,x.2=.free→cs.lookup x.1=some c→G ((x.1,c)::acc))(h2:(x.2=.free→cs.lookup x.1=none)→G acc):G (if x.2==.free then(match cs.lookup x.1 with
  |some c=>(x.1,c)::acc
  |none=>acc)else acc):=by
 by_cases hk:x.2=.free
 ·rw[if_pos (by simp[hk])]
  cases e:cs.lookup x.1 with
  |none=>exact h2 fun _=>e
  |some c=>exact h1 c hk e
 ·rw[if_neg (by simpa using hk)]
  exact h2 fun h=>absurd h hk
theorem Zcr{cs:List (Str×Addr)}{names:List (Str×NameKind)}:∀{acc:List (Str×Addr)} {p:Str×Addr},p∈ZB cs names acc→p∈acc∨((p.1,NameKind.free)∈names∧cs.lookup p.1=some p.2):=by
 induction names with
 |nil=>exact fun h=>.inl h
 |cons x r ih=>
  intro acc p h
  have ih:∀{acc},p∈ZB cs r acc→p∈acc∨((p.1,NameKind.free)∈x::r∧cs.lookup p.1=some p.2):=fun h=>(ih h).imp id fun h=>⟨List.mem_cons_of_mem _ h.1,h.2⟩
  have h:p∈ZB cs r _:=h
  refine XJ (cs:=cs) (x:=x) (acc:=acc) (G:=fun a=>p∈ZB cs r a→_) (fun c hk hc h=>?_) (fun _ h=>ih h) h
  rcases ih h with h|h
  ·rcases List.mem_cons.mp h with rfl|h
   ·exact .inr ⟨by rw[← hk];exact List.mem_cons_self,hc⟩
   ·exact .inl h
  ·exact .inr h
theorem Zcs{cs:List (Str×Addr)}{names:List (Str×NameKind)}{n:Str}{c:Addr}:∀{acc:List (Str×Addr)},((n,NameKind.free)∈names∧cs.lookup n=some c)∨(n,c)∈acc→(n,c)∈ZB cs names acc:=by
 induction names with
 |nil=>exact fun h=>h.elim (fun h=>nomatch h.1) id
 |cons x r ih=>
  intro acc h
  show(n,c)∈ZB cs r _
  refine XJ (cs:=cs) (x:=x) (acc:=acc) (G:=fun a=>(n,c)∈ZB cs r a) (fun d hk hd=>ih ?_) fun hk=>ih ?_
  ·rcases h with⟨h,hc⟩|h
   ·rcases List.mem_cons.mp h with h|h
    ·rw[← h]at hd ⊢;rw[hc]at hd;cases hd;exact .inr List.mem_cons_self
    ·exact .inl ⟨h,hc⟩
   ·exact .inr (List.mem_cons_of_mem _ h)
  ·rcases h with⟨h,hc⟩|h
   ·rcases List.mem_cons.mp h with h|h
    ·rw[← h]at hk;rw[hk rfl]at hc;cases hc
    ·exact .inl ⟨h,hc⟩
   ·exact .inr h
theorem Zbb{cs:List (Str×Addr)}(hp:cs.Pairwise fun x y=>x.2≠y.2){names:List (Str×NameKind)}:∀{acc:List (Str×Addr)},(names.map (·.1)).Nodup→(acc.Pairwise fun x y=>x.2≠y.2)→(∀p∈acc,cs.lookup p.1=some p.2∧p.1∉names.map (·.1))→
  (ZB cs names acc).Pairwise fun x y=>x.2≠y.2:=by
 induction names with
 |nil=>exact fun _ h _=>h
 |cons x r ih=>
  intro acc hn h ha
  rw[List.map_cons,List.nodup_cons]at hn
  have ha':∀p∈acc,cs.lookup p.1=some p.2∧p.1∉r.map (·.1):=fun p hp=>⟨(ha p hp).1,fun hm=>(ha p hp).2 (List.mem_cons_of_mem _ hm)⟩
  show(ZB cs r _).Pairwise _
  refine XJ (cs:=cs) (x:=x) (acc:=acc) (G:=fun a=>(ZB cs r a).Pairwise fun x y=>x.2≠y.2) (fun c hk hc=>ih hn.2 (List.pairwise_cons.mpr ⟨fun p hp' e=>?_,h⟩) fun p hp'=>?_) fun _=>ih hn.2 h ha'
  ·have e:c=p.2:=e
   have h2:=mem_of_lookup (ha p hp').1
   rw[← e]at h2
   exact(ha p hp').2 (by rw[← name_of_addr hp (mem_of_lookup hc) h2];exact List.mem_cons_self)
  ·exact(List.mem_cons.mp hp').elim (fun q=>q▸⟨hc,hn.1⟩) (ha' p)
theorem Yg{α:Type}{l:List (Str×α)}{n:Str}{a:α}:(l.map (·.1)).Nodup→(n,a)∈l→l.lookup n=some a:=by
 induction l with
 |nil=>exact fun _ h=>nomatch h
 |cons x l ih=>
  intro hn h
  rw[List.map_cons,List.nodup_cons]at hn
  rw[List.lookup_cons]
  rcases List.mem_cons.mp h with rfl|h
  ·simp
  ·rw[beq_eq_false_iff_ne.mpr fun e=>hn.1 (List.mem_map.mpr ⟨_,h,e⟩)]
   exact ih hn.2 h
noncomputable def Qa(scope sc:Scope)(xs:List Str)(is:List Nat):Bool:=
 (scope.kind==.function)&&(scope.names.all fun p=>p.2 != .cell)&&decide ((scope.names.map (·.1)).Nodup)&&(sc.kind==.function)&&
 (scope.names.all fun p=>p.2 != .free||sc.names.lookup p.1==some .cell)&&
 (scope.names.all fun p=>p.2 != .local||xs.zipIdx.all fun q=>q.1 != p.1||is.contains q.2)
structure ZbK(scope sc:Scope)(xs:List Str)(is:List Nat):Prop where
 kind:scope.kind=.function
 noCell:∀p∈scope.names,p.2≠.cell
 nodup:(scope.names.map (·.1)).Nodup
 skind:sc.kind=.function
 free:∀p∈scope.names,p.2=.free→sc.names.lookup p.1=some .cell
 loc:∀x i,scope.names.lookup x=some .local→xs[i]?=some x→i∈is
theorem WZ{scope sc:Scope}{xs:List Str}{is:List Nat}(h:Qa scope sc xs is=true):ZbK scope sc xs is:=by
 unfold Qa at h
 simp only[Bool.and_eq_true,List.all_eq_true,beq_iff_eq,bne_iff_ne,Bool.or_eq_true,decide_eq_true_eq]at h
 obtain⟨⟨⟨⟨⟨h1,h2⟩,h3⟩,h4⟩,h5⟩,h6⟩:=h
 exact⟨h1,h2,h3,h4,fun p hp hf=>(h5 p hp).resolve_left fun q=>q hf,fun x i hx hi=>by
  have:=((h6 _ (mem_of_lookup hx)).resolve_left fun q=>q rfl) (x,i) (List.mem_zipIdx_iff_getElem?.mpr hi)
  simpa using this.resolve_left fun q=>q rfl⟩
theorem Xv{scope sc:Scope}{xs:List Str}{is:List Nat}(c:ZbK scope sc xs is){x:Str}{k:NameKind}{G:Prop}(h:(Z0 scope sc).names.lookup x=some k)(k1:k=.cell→(x,NameKind.free)∈scope.names→sc.names.lookup x=some .cell→G)(k2:scope.names.lookup x=some k→k≠.cell→G):G:=by
 have hm:=mem_of_lookup h
 unfold Z0 at hm
 obtain⟨⟨n,k0⟩,hp,he⟩:=List.mem_map.mp hm
 dsimp only at he
 by_cases hc:(k0==NameKind.free&&sc.kind==ScopeKind.function&&List.lookup n sc.names==some NameKind.cell)=true
 ·rw[if_pos hc]at he
  cases he
  simp only[Bool.and_eq_true,beq_iff_eq]at hc
  exact k1 rfl (hc.1.1▸hp) hc.2
 ·rw[if_neg hc]at he
  cases he
  exact k2 (Yg c.nodup hp) (c.noCell _ hp)
theorem ZaG{i:Nat}{v:V}{is:List Nat}:∀{l:Loc},(is.foldl (fun l i=>l.set i none) l)[i]?=some (some v)→i∉is∧l[i]?=some (some v):=by
 induction is with
 |nil=>exact fun h=>⟨List.not_mem_nil,h⟩
 |cons j is ih=>
  intro l h
  obtain⟨h1,h2⟩:=ih h
  have h2:(l.set j none)[i]?=some (some v):=h2
  by_cases hj:i=j
  ·subst hj
   by_cases hlt:i<l.length
   ·rw[List.getElem?_set_self hlt]at h2;cases h2
   ·rw[List.set_eq_of_length_le (Nat.le_of_not_lt hlt),List.getElem?_eq_none (Nat.le_of_not_lt hlt)]at h2;cases h2
  ·rw[List.getElem?_set_ne (Ne.symm hj)]at h2
   exact⟨by simp[hj,h1],h2⟩
noncomputable def tgIs:Tg→List Nat
 | .one i=>[i]
 | .tup is=>is
theorem Q0{t:Tg}{l:Loc}{i:Nat}{v:V}(h:(X7 t l)[i]?=some (some v)):i∉tgIs t∧l[i]?=some (some v):=by
 cases t with
 |one j=>exact ZaG (is:=[j]) (l:=l) h
 |tup is=>exact ZaG (is:=is) (l:=l) h
noncomputable abbrev relΓ(scope:Scope)(Γ:Cfg):Cfg:=⟨Γ.n,Z0 scope Γ.sc,Γ.xs⟩
noncomputable abbrev fcs(scope:Scope)(X:Fx Γ):List (Str×Addr):=ZB X.env.cells scope.names []
section
variable{scope:Scope}{is:List Nat}(co:ZbK scope Γ.sc Γ.xs is){X:Fx Γ}
include co
theorem Za5{p:Str×Addr}(h:p∈fcs scope X):(p.1,NameKind.free)∈scope.names∧X.env.cells.lookup p.1=some p.2:=(Zcr h).resolve_left fun h=>nomatch h
theorem Zfn:(fcs scope X).Pairwise fun x y=>x.2≠y.2:=Zbb X.apart co.nodup (acc:=[]) List.Pairwise.nil fun _ h=>nomatch h
theorem Zfo{x:Str}{c:Addr}(h1:(x,NameKind.free)∈scope.names)(h2:X.env.cells.lookup x=some c):(fcs scope X).lookup x=some c:=by
 refine Yg ?_ (Zcs (.inl ⟨h1,h2⟩))
 rw[List.Nodup,List.pairwise_map]
 refine List.Pairwise.imp_of_mem (fun{p q} h1 h2 h3 e=>h3 ?_) (Zfn co (X:=X))
 have e1:=(Za5 co h1).2
 have e:p.1=q.1:=e
 rw[e,(Za5 co h2).2]at e1
 exact(Option.some.inj e1).symm
theorem ZaF{C:Addr}{x:Str}{k:NameKind}(h:(compEnvC scope (fcs scope X) C X.env).kindOf x=some k):(Z0 scope Γ.sc).names.lookup x=some k:=by
 unfold Env.kindOf compEnvC at h
 rw[Zbq X.scope]at h;exact h
noncomputable def Zkx(X:Fx Γ)(C:Addr)(hC:U.h₀.objs.size≤C)(hne:∀c∈X.env.cells.map (·.2),c≠C):Fx (relΓ scope Γ) where
 A:=X.A
 env:=compEnvC scope (fcs scope X) C X.env
 hA:=X.hA
 scope:=Zbq X.scope
 kind:=co.kind
 glob:=X.glob
 bui:=X.bui
 frame:=X.frame
 there:=fun h=>Xv co (ZaF co h) (fun _ h1 h2=>(X.there (X.ko h2)).elim fun c e=>⟨c,Zfo co h1 e⟩) fun _ q=>absurd rfl q
 apart:=Zfn co
 above:=hC
 ne:=fun c hc=>by
  obtain⟨p,hp,rfl⟩:=List.mem_map.mp hc
  exact hne _ (Yy (Za5 co hp).2)
theorem Zgq{C:Addr}{hC:U.h₀.objs.size≤C}{hne:∀c∈X.env.cells.map (·.2),c≠C}{l lc:Loc}{w w':Wd X.A}{Y:List Addr}{m:Str→Option Value}(F:FR X l w)(st:St Y w w')(hY:∀c∈X.env.cells.map (·.2),c∉Y)(hn:w'.s.heap.Ns C m)(off:C∉w'.γ∧w'.I C=none)(hl:∀i v,lc[i]?=some (some v)→i∉is∧l[i]?=some (some v)):FR (Zkx co X C hC hne) lc w':=
 have cm:∀c∈(fcs scope X).map (·.2),c∈X.env.cells.map (·.2):=fun c hc=>by
  obtain⟨p,hp,rfl⟩:=List.mem_map.mp hc
  exact Yy (Za5 co hp).2
 have ks:∀c∈X.env.cells.map (·.2),∀o,w.s.heap.get? c=some o→Ks (fa X.A) w'.s.heap c o:=fun c hc o e=>(st.old c o e (F.off c (List.mem_cons_of_mem _ hc)).1).k (hY c hc)
 {ns:=⟨m,hn,fun h1 h2 h3=>Xv co (ZaF co h3) (fun q=>nomatch q) fun q _=>absurd (co.loc _ _ q h1) (hl _ _ h2).1⟩
  cell:=fun h1 h2 h3=>Xv co (ZaF co h3) (fun _ q r=>match F.cell h1 (hl _ _ h2).2 (X.ko r)with| .mk c y e hc rr=>.mk c y (Zfo co q e) (Xb hc (ks c (Yy e))) (rr.st st)) fun _ q=>absurd rfl q
  cellT:=fun c hc=>(F.cellT c (cm c hc)).elim fun v hv=>⟨v,Xb hv (ks c (cm c hc))⟩
  off:=fun c hc=>(List.mem_cons.mp hc).elim (fun q=>q▸off) fun hc=>(F.cellT c (cm c hc)).elim fun v hv=>hv.elim fun o h=>have p:=st.old c o h.1 (F.off c (List.mem_cons_of_mem _ (cm c hc))).1;⟨p.g,p.i.trans (F.off c (List.mem_cons_of_mem _ (cm c hc))).2⟩}
end
end
section
open PySem.Calls PyProof.Rows
set_option genInjectivity false
set_option maxRecDepth 100000
variable{Γ:Cfg}{A:Around}{n:Nat}
noncomputable abbrev ZhM(ifs:List Expr)(env:Env):Sem Bool:=forIn ifs true fun c r=>if r=true then do let ok ← isTrue c env (eval c env);pure (ForInStep.yield ok)else pure (ForInStep.yield r)
noncomputable def SemF(Γ:Cfg)(ifs:List Expr)(t:Tn):Prop:=∀(X:Fx Γ) (l:Loc) (w:Wd X.A),FR X l w→∀Q E,KT w Q E (t l w.σ)→wpAny MM X.A (ZhM ifs X.env) Q E w.s
theorem Zjb:SemF Γ [] ZM:=fun X l w F Q E k=>wpAny_tests_nil (Aft.now k)
theorem Zja{e:Expr}{t:Tn}(h:SemT Γ e t):SemF Γ [e] t:=fun X l w F Q E k=>wpAny_tests_one (h X l w F Q E k)
noncomputable abbrev Em:=Loc→HM (List P×Loc)
noncomputable def goN{τ:Type}(nxt:Src τ)(t:Tg)(g:Em):Nat→τ→Loc→HM (List P×Loc)
 |0,_,_=>hn
 |n+1,st,l=>fun σ=>match nxt st σ with
  |none=>none
  |some none=>some (.ok ([],l),σ)
  |some (some (p,st'))=>match ZX t p l with
   |none=>none
   |some l'=>hb (g l') (fun q=>hb (goN nxt t g n st' q.2) fun r=>hp (q.1++r.1,r.2)) σ
noncomputable def nxtK(k:Nat):Src Nat:=fun i σ=>match σ[k]? with
 |some (.lst xs)=>(match xs[i]? with
  |some p=>some (some (p,i+1))
  |none=>some none)
 |_=>none
noncomputable def Wv(f:Fn):Em:=fun l=>hb (ne (hb (f l) asP)) fun q=>hp ([q],l)
noncomputable def gIf(c:Tn)(g:Em):Em:=fun l=>hb (ne (c l)) fun b=>if b then g l else hp ([],l)
noncomputable def gFor(it:In)(t:Tg)(g:Em):Em:=fun l=>hb (ne (it l)) fun ps=>goN nxtL t g (ps.length+1) ps l
theorem ok_e{α β:Type}{m:HM α}{f:α→HM β}{σ σ':Hp}{r:β}{G:Prop}(h:hb m f σ=some (.ok r,σ'))(go:∀a σ₁,m σ=some (.ok a,σ₁)→f a σ₁=some (.ok r,σ')→G):G:=by
 unfold hb at h
 cases e:m σ with
 |none=>rw[e]at h;cases h
 |some p=>
  obtain⟨x,σ₁⟩:=p
  rw[e]at h
  cases x with
  |exc=>cases h
  |ok a=>exact go a σ₁ e h
theorem Aft.ok{α β:Type}{w:Wd A}{m:HM α}{f:α→HM β}{σ':Hp}{r:β}{D:α→Wd A→Prop}{E:Value→Shared→Prop}(h:Mine.hb (ne m) f w.σ=some (.ok r,σ'))(go:∀a (w₁:Wd A),St [] w w₁→f a w₁.σ=some (.ok r,σ')→D a w₁):Aft w D E (m w.σ):=ok_e h fun a σ₁ e1 e2=>by
 unfold ne at e1
 cases e:m w.σ with
 |none=>rw[e]at e1;cases e1
 |some p=>
  obtain⟨x,σ₂⟩:=p
  rw[e]at e1
  cases x with
  |exc=>cases e1
  |ok b=>cases e1;exact fun w' e' st=>go a w' st (e'▸e2)
inductive Acc(X:Fx Γ)(D:Addr)(qs:List P)(w:Wd X.A):Prop
 |mk (vs:Array Value) (m:Nat):Yx w D→D∉xset X.env→w.s.heap.get? D=some (seqObj "list" vs m)→PAll w.I vs.toList qs→Acc X D qs w
theorem Acc.st{X:Fx Γ}{D:Addr}{qs:List P}{w w':Wd X.A}{Y:List Addr}(a:Acc X D qs w)(st:St Y w w')(hY:D∉Y):Acc X D qs w':=by
 cases a with|mk vs m o x e p=>exact .mk vs m (o.step st) x (o.kept st hY e) (p.mono st.mono)
noncomputable def Ze9(Γ:Cfg)(em:Value→Env→Sem Unit)(g:Em):Prop:=
 ∀⦃X:Fx Γ⦄ ⦃l l':Loc⦄ ⦃w:Wd X.A⦄ ⦃σ':Hp⦄ ⦃D:Addr⦄ ⦃qs₀ qs:List P⦄,FR X l w→Acc X D qs₀ w→(qs₀++qs).length≤sizeLine→g l w.σ=some (.ok (qs,l'),σ')→
  ∀⦃Q:Unit→Shared→Prop⦄ ⦃E⦄,(∀w':Wd X.A,w'.σ=σ'→St [D,X.env.locals] w w'→FR X l' w'→Acc X D (qs₀++qs) w'→Q () w'.s)→wpAny MM X.A (em (.ref D) X.env) Q E w.s
theorem Zcx{ifs:List Expr}{c:Tn}{em:Value→Env→Sem Unit}{g:Em}(hc:SemF Γ ifs c)(h:Ze9 Γ em g):Ze9 Γ (fun acc env=>do let ok ← ZhM ifs env;if ok=true then em acc env else pure ()) (gIf c g):=fun X l l' w σ' D qs₀ qs F ac hz hg Q E k=>
 wpAny_bind (hc _ _ _ F _ _ (Aft.ok hg fun b w₁ st e2=>by
  have ac₁:=ac.st st List.not_mem_nil
  cases b with
  |false=>
   have e2:(some (.ok (([],l):List P×Loc),w₁.σ):Option (R (List P×Loc)×Hp))=some (.ok (qs,l'),σ'):=e2
   cases e2
   exact wpAny_pure (k w₁ rfl st.wide (F.st st) (by rw[List.append_nil];exact ac₁))
  |true=>exact h (F.st st) ac₁ hz e2 fun w' e st' F' a=>k w' e (st.wide.trans st') F' a))
theorem Wt{elt:Expr}{f:Fn}(he:SemE Γ elt f):Ze9 Γ (fun acc env=>do let _ ← call (.builtin "list.append") [acc,← eval elt env]) (Wv f):=fun X l l' w σ' D qs₀ qs F ac hz hg Q E k=>
 wpAny_bind (m:=eval elt X.env) (he.bd (g:=asP) F (Aft.ok hg fun q w₁ st e2=>(⟨st,e2⟩:St [] w w₁∧_)) fun v w₁ y st hy k₁=>ZlU (G:=fun s=>wpAny MM X.A (do let _ ← call (.builtin "list.append") [.ref D,y]) Q E s) k₁ hy fun q w₂ _ hp k₂=>by
  have st:=k₂.1
  have e2:(some (.ok (([q],l):List P×Loc),w₂.σ):Option (R (List P×Loc)×Hp))=some (.ok (qs,l'),σ'):=k₂.2
  cases e2
  have ac₂:=ac.st st List.not_mem_nil
  cases ac₂ with|mk vs m o x e p=>
  have hz':=hz
  rw[List.length_append,← Y8 p]at hz'
  refine wpAny_bind (append_at (hsz:=Nat.le_trans (Nat.le_succ _) hz') e fun h₈ hs₈ hD₈=>wpAny_pure ?_)
  have c:Chg w₂ [D] h₈:=.one ⟨o.off.g,o.off.i⟩ hs₈ hD₈ fun vs q=>nomatch q
  refine k (w₂.chg h₈ w₂.s.toks c) rfl (st.wide.trans ((c.st _).one List.mem_cons_self)) ((F.st st).step (c.st _) fun b hb=>by rw[List.mem_singleton.mp hb];exact x) (.mk _ _ (o.step (c.st _)) x hD₈ ?_)
  rw[Array.toList_push]
  exact p.append (.cons hp .nil))
noncomputable abbrev ZaN(elt:Expr)(gens:List Comprehension)(scope:Scope)(pos:Pos)(d:Nat)(tg:Expr)(ipos:Pos)(em:Value→Env→Sem Unit):Prop:=∀it acc env,compTurn (.ListComp elt gens scope pos) d it acc env=(do
   standAt ipos
   match ← pyNext it with
   |none=>pure (.done .next)
   |some v=>do
    letOwnedTupleGo tg it v
    assign tg env v
    em acc env
    again (.compLoop (.ListComp elt gens scope pos) d it acc env))
inductive CInv(X:Fx Γ)(w₀:Wd X.A)(Z:List Addr){τ:Type}(nxt:Src τ)(S:τ→Wd X.A→Prop)(t:Tg)(g:Em)(D:Addr)(qs:List P)(l':Loc)(σ':Hp)(j:Nat):Shared→Prop
 |mk (st:τ) (l:Loc) (w:Wd X.A) (qs₁ qr:List P):St Z w₀ w→FR X l w→S st w→Acc X D qs₁ w→goN nxt t g j st l w.σ=some (.ok (qr,l'),σ')→qs₁++qr=qs→CInv X w₀ Z nxt S t g D qs l' σ' j w.s
theorem ZmK{elt:Expr}{gens:List Comprehension}{scope:Scope}{pos ipos:Pos}{d:Nat}{tg:Expr}{t:Tg}{g:Em}{em:Value→Env→Sem Unit}(hturn:ZaN elt gens scope pos d tg ipos em)(ht:TgIs (WA Γ.sc Γ.xs) t tg)(hem:Ze9 Γ em g)
  {X:Fx Γ} {l l':Loc} {w₀ w:Wd X.A} {σ':Hp} {Z:List Addr} (st0:St Z w₀ w) (F:FR X l w) {τ:Type} {nxt:Src τ} {itv:Value} {fp:List Addr} {S:τ→Wd X.A→Prop} {st₀:τ} (I:It X.A tg itv fp nxt S) (hst:S st₀ w) (hX:∀b∈fp,b∉xset X.env) (fr:∀b∈fp,w₀.s.heap.get? b=none)
  {D:Addr} {qs₀ qs:List P} (ac:Acc X D qs₀ w) (fpD:D∉fp) (hZ:∀b∈[D,X.env.locals],b∈Z∨w₀.s.heap.get? b=none) (hz:(qs₀++qs).length≤sizeLine) {fuel:Nat} (hgo:goN nxt t g fuel st₀ l w.σ=some (.ok (qs,l'),σ')) {RR:Result→Shared→Prop}
  (k:∀w':Wd X.A,w'.σ=σ'→St Z w₀ w'→FR X l' w'→Acc X D (qs₀++qs) w'→RR (.ok .next) w'.s):codeAny MM X.A (.compLoop (.ListComp elt gens scope pos) d itv (.ref D) X.env) RR w.s:=by
 refine codeAny_loop rfl (CInv X w₀ Z nxt S t g D (qs₀++qs) l' σ') (fun j s h=>?_) fuel (.mk st₀ l w qs₀ qs st0 F hst ac hgo rfl)
 clear hgo hst ac F st0
 cases h with|mk st l w qs₁ qr st0 F hst ac hg hq=>
 show wpAny _ X.A ((compTurn (.ListComp elt gens scope pos) d itv (.ref D) X.env).onRaise (fun x=>do noteFrame x X.env;theTreesLotGoes x)) _ _ w.s
 refine wpAny_noted ?_
 rw[hturn]
 refine wpAny_bind (wpAny_standAt (wpAny_bind ?_))
 cases j with
 |zero=>cases hg
 |succ j=>
 have hg:(match nxt st w.σ with
  |none=>none
  |some none=>some (.ok ([],l),w.σ)
  |some (some (p,st'))=>match ZX t p l with
   |none=>none
   |some l'=>hb (g l') (fun q=>hb (goN nxt t g j st' q.2) fun r=>hp (q.1++r.1,r.2)) w.σ)=some (.ok (qr,l'),σ'):=hg
 cases hn:nxt st w.σ with
 |none=>rw[hn]at hg;cases hg
 |some o=>
 rw[hn]at hg
 cases o with
 |none=>
  cases hg
  rw[List.append_nil]at hq
  refine I.done hn hst fun w' e gn=>wpAny_pure (k w' e (st0.gone fr gn) (F.gone gn hX) (hq▸?_))
  cases ac with|mk vs m o x e p=>exact .mk vs m ⟨⟨gn.γ▸o.off.g,gn.I▸o.off.i,o.off.f⟩,_,gn.out _ _ e fpD⟩ x (gn.out _ _ e fpD) (gn.I▸p)
 |some o=>
 obtain⟨p,st'⟩:=o
 have hg:(match ZX t p l with
   |none=>none
   |some l'=>hb (g l') (fun q=>hb (goN nxt t g j st' q.2) fun r=>hp (q.1++r.1,r.2)) w.σ)=some (.ok (qr,l'),σ'):=hg
 cases hbt:ZX t p l with
 |none=>rw[hbt]at hg;cases hg
 |some l₃=>
 rw[hbt]at hg
 refine ok_e (m:=g l₃) (f:=fun q=>hb (goN nxt t g j st' q.2) fun r=>hp (q.1++r.1,r.2)) hg fun q σ₁ g1 g2=>ok_e g2 fun r σ₂ g3 g4=>?_
 have g4:(some (.ok (q.1++r.1,r.2),σ₂):Option (R (List P×Loc)×Hp))=some (.ok (qr,l'),σ'):=g4
 cases g4
 refine I.go hn hst (fun v s₁ h=>wpAny_bind h) fun v w₃ e₃ st3 hv hst3=>wpAny_bind (ZaL (Y:=[X.env.locals]) .loc ht hv hbt (F.step st3 hX) List.mem_cons_self fun w₄ e₄ st4 F4=>?_)
 have hDl:D≠X.env.locals:=by cases ac with|mk vs m o x e p=>exact fun q=>x (q▸List.mem_cons_self)
 have fpC:X.env.locals∉fp:=fun h=>hX _ h List.mem_cons_self
 have ac4:=(ac.st st3 fpD).st st4 fun h=>hDl (List.mem_singleton.mp h)
 have hst4:=I.frame hst3 st4 fun b hb h=>fpC (List.mem_singleton.mp h▸hb)
 have sT4:=(st0.mix st3 fun b hb=>.inr (fr b hb)).mix st4 fun b hb=>hZ b (by rw[List.mem_singleton.mp hb];exact List.mem_cons_of_mem _ List.mem_cons_self)
 refine wpAny_bind (hem F4 ac4 ?_ (e₄.trans e₃▸g1) fun w₅ e₅ st5 F5 ac5=>wpAny_pure ⟨rfl,j,Nat.lt_succ_self _,.mk st' q.2 w₅ (qs₁++q.1) r.1 (sT4.mix st5 hZ) F5 (I.frame hst4 st5 fun b hb h=>?_) ac5 (e₅▸g3) (by rw[← hq,List.append_assoc])⟩)
 ·rw[← hq,← List.append_assoc,List.length_append]at hz
  exact Nat.le_trans (Nat.le_add_right _ _) hz
 ·rcases List.mem_cons.mp h with h|h
  ·exact fpD (h▸hb)
  ·exact fpC (List.mem_singleton.mp h▸hb)
end
section
open PySem.Calls PyProof.Rows
set_option genInjectivity false
set_option maxRecDepth 100000
variable{Γ:Cfg}{A:Around}{n:Nat}
theorem Zhx(A:Around):A.mark none=A:=by cases A;rfl
theorem QK{elt:Expr}{gens:List Comprehension}{scope:Scope}{pos:Pos}{d:Nat}{tg iter:Expr}{ifs:List Expr}(hd:gens[d]?=some ⟨tg,iter,ifs,0⟩){it acc:Value}{env:Env}{R:Result→Shared→Prop}{s:Shared}
  (h0:codeAny MM A (.compLoop (.ListComp elt gens scope pos) d it acc env) R s)
  (h:wpAny MM A (pyIter it) (fun it' s'=>codeAny MM A (.compLoop (.ListComp elt gens scope pos) d it' acc env) R s') (notedBy MM A env fun x s'=>R (.error x) s') s):
  codeAny MM A (.compStart (.ListComp elt gens scope pos) d it acc env) R s:=by
 refine codeAny_of_tree ?_
 show wpAny _ _ ((compStart (.ListComp elt gens scope pos) d it acc env).onRaise (fun x=>do noteFrame x env;standAt theWindowsPlace)) _ _ s
 refine wpAny_notedAt ?_
 unfold compStart
 rw[show clausesOf (.ListComp elt gens scope pos)=gens from rfl,hd]
 show wpAny _ _ (ask>>=_) _ _ s
 refine wpAny_bind (wpAny_askSetting (wpAny_ite ?_))
 split
 ·first
   |exact wpAny_bind (wpAny_pure (wpAny_pure (And.intro rfl h0)))
   |exact wpAny_pure (And.intro rfl h0)
 ·first
   |exact wpAny_bind (wpAny_rule (wpAny_bind (wpAny_standAt (wpAny_bind (wpAny_mono h (fun it' s' h'=>wpAny_pure (And.intro rfl h')) fun _ _ x=>x)))))
   |(refine wpAny_bind (wpAny_rule ?_);show wpAny _ _ (standAt iter.pos>>=_) _ _ s;exact wpAny_bind (wpAny_standAt (wpAny_bind (wpAny_mono h (fun it' s' h'=>wpAny_pure (And.intro rfl h')) fun _ _ x=>x))))
structure ZoA(w w':Wd A)(D C:Addr):Prop where
 st:St [] w w'
 σ:w'.σ=w.σ
 oD:Yx w' D
 oC:Yx w' C
 nD:w.s.heap.get? D=none
 nC:w.s.heap.get? C=none
 DC:D≠C
 above:w.s.heap.objs.size≤C
 gD:w'.s.heap.get? D=some (seqObj "list" #[] 0)
 ns:w'.s.heap.Ns C fun _=>none
theorem Zom{scope:Scope}(co1:∀p∈scope.names,p.2≠.cell)(co2:scope.kind=.function){env:Env}{cl:List (Str×Addr)}{w:Wd A}{R:Value→Env→Shared→Prop}{E:Value→Shared→Prop}
  (k:∀D C (w':Wd A),ZoA w w' D C→R (.ref D) (newEnv scope C env.globals cl env.qual none .none (some env) builtinsNs) w'.s):
  wpAny MM A (newList []) (fun acc s₃=>wpAny MM A (newFunctionEnv scope env.globals cl [] env.qual none .none (some env)) (fun cenv s₄=>R acc cenv s₄) E s₃) E w.s:=by
 refine wpAny_newObj_type (wpAny_newFunctionEnv co1 (fun y hy=>nomatch hy) (fun h₁ hns hsb=>?_) co2) (by show(0:Nat)≤sizeLine;exact Nat.zero_le _)
 dsimp only at hns hsb ⊢
 generalize hO:({cls:=.type "list",dict:=none,data:=.seq ([]:List Value).toArray}:Obj)=O at hns hsb ⊢
 have hOf:O.isFreed=false:=hO▸rfl
 have hC:(w.s.heap.push O).objs.size=w.s.heap.objs.size+1:=Heap.size_push ..
 have ne:∀b,b<w.s.heap.objs.size+1→b≠(w.s.heap.push O).objs.size:=fun b hb=>hC▸Nat.ne_of_lt hb
 have old:∀b o,w.s.heap.get? b=some o→h₁.get? b=some o:=fun b o e=>hsb.extBut b o (ne b (Nat.lt_succ_of_lt (Heap.lt_size e))) (Heap.get?_push_of_some _ (Heap.get?_push_of_some _ e))
 have gD:h₁.get? w.s.heap.objs.size=some O:=hsb.extBut _ _ (ne _ (Nat.lt_succ_self _)) (Heap.get?_push_of_some _ (Heap.get?_push_size _ hOf))
 have nC:w.s.heap.get? (w.s.heap.push O).objs.size=none:=Heap.get?_none_of_le (by rw[hC];exact Nat.le_succ _)
 have oD:=w.off w.new
 have oC:=w.off nC
 have c:=Chg.grow w old
 exact k _ _ (w.chg h₁ _ c) ⟨c.st _,rfl,⟨⟨oD.g,oD.i,oD.f⟩,_,gD⟩,⟨⟨oC.g,oC.i,oC.f⟩,(ZdY hns).elim fun o q=>⟨o,q.1⟩⟩,w.new,nC,ne _ (Nat.lt_succ_self _),hC▸Nat.le_succ _,gD.trans (by rw[← hO]),hns⟩
theorem Wd.above(w:Wd A):U.h₀.objs.size≤w.s.heap.objs.size:=by
 obtain⟨o,e⟩:=U.top
 have h1:(U.h₀.objs.size - 1:Nat)<w.s.heap.objs.size:=Heap.lt_size (w.K _ _ e)
 have h2:(U.h₀.objs.size - 1:Nat)<U.h₀.objs.size:=Heap.lt_size e
 exact Ar.n2 (.im (.t (.s (.v 0) (.k 1)) (.v 1)) (.l (.v 0) (.v 1))) (by kernel_rfl) h1
structure Got(w₀ w':Wd A)(D C:Addr)(qs:List P)(m:Str→Option Value):Prop where
 st:St [] w₀ w'
 oD:Yx w' D
 oC:Yx w' C
 nD:w₀.s.heap.get? D=none
 nC:w₀.s.heap.get? C=none
 DC:D≠C
 ls:∃vs k,w'.s.heap.get? D=some (seqObj "list" vs k)∧PAll w'.I vs.toList qs
 ns:w'.s.heap.Ns C m
noncomputable def ZjK(X:Fx Γ)(elt:Expr)(gens:List Comprehension)(scope:Scope)(pos:Pos)(itv:Value)(RR:Value→Addr→Result→Shared→Prop)(E:Value→Shared→Prop)(s:Shared):Prop:=
 wpAny MM X.A (newList []) (fun acc s₃=>wpAny MM X.A (newFunctionEnv scope X.env.globals (fcs scope X) [] X.env.qual none .none (some X.env)) (fun cenv s₄=>
   codeAny MM X.A (.compStart (.ListComp elt gens scope pos) 0 itv acc {cenv with scope:=relabel scope X.env}) (RR acc cenv.locals) s₄) E s₃) E s
theorem Zfz{elt:Expr}{gens:List Comprehension}{scope:Scope}{pos ipos:Pos}{tg iter:Expr}{ifs:List Expr}{t:Tg}{g:Em}{em:Value→Env→Sem Unit}{is:List Nat}(hd:gens[0]?=some ⟨tg,iter,ifs,0⟩)(hturn:ZaN elt gens scope pos 0 tg ipos em)
  (co:ZbK scope Γ.sc Γ.xs is) (ht:TgIs (WA (Z0 scope Γ.sc) Γ.xs) t tg) (hem:Ze9 (relΓ scope Γ) em g) {X:Fx Γ} {l lc l':Loc} {w₀ w₁:Wd X.A} {σ':Hp} (F:FR X l w₀) (st1:St [] w₀ w₁)
  {τ:Type} {nxt:Src τ} {qs:List P} {itv:Value} {fp:List Addr} {S:τ→Wd X.A→Prop} {st₀:τ} (hsz:qs.length≤sizeLine) (I:It X.A tg itv fp nxt S) (hst:S st₀ w₁) (fr:∀b∈fp,w₀.s.heap.get? b=none)
  (hlc:∀i v,lc[i]?=some (some v)→i∉is∧l[i]?=some (some v)) {fuel:Nat} (hg:goN nxt t g fuel st₀ lc w₁.σ=some (.ok (qs,l'),σ')) {RR:Value→Addr→Result→Shared→Prop} {E:Value→Shared→Prop}
  (hRR:∀D C (w':Wd X.A) m,w'.σ=σ'→Got w₀ w' D C qs m→RR (.ref D) C (.ok .next) w'.s):ZjK X elt gens scope pos itv RR E w₁.s:=by
 refine Zom co.noCell co.kind fun D C w₂ mk=>?_
 have F1:=F.st st1
 have new₀:∀{a},Yx w₂ a→w₁.s.heap.get? a=none→w₀.s.heap.get? a=none:=fun o n=>st1.there mk.st.pre o.off.g n
 have nD:=new₀ mk.oD mk.nD
 have nC:=new₀ mk.oC mk.nC
 have hne:∀c∈X.env.cells.map (·.2),c≠C:=fun c hc q=>F.xno nC (q▸List.mem_cons_of_mem _ hc)
 let X':Fx (relΓ scope Γ):=Zkx co X C (Nat.le_trans w₁.above mk.above) hne
 have F':FR X' lc w₂:=Zgq co F1 mk.st (fun _ _ h=>nomatch h) mk.ns ⟨mk.oC.off.g,mk.oC.off.i⟩ hlc
 have xs':∀{b},b∈xset X'.env→b=C∨b∈xset X.env:=fun h=>(List.mem_cons.mp h).imp id fun h=>by
  obtain⟨p,hp,rfl⟩:=List.mem_map.mp h
  exact List.mem_cons_of_mem _ (Yy (Za5 co hp).2)
 have fpN:∀b∈fp,∀{a},w₁.s.heap.get? a=none→b≠a:=fun b hb a n q=>by obtain⟨o,e⟩:=(I.own hst b hb).ex;rw[q,n]at e;cases e
 have hX:∀b∈fp,b∉xset X'.env:=fun b hb h=>(xs' h).elim (fpN b hb mk.nC) (F.xno (fr b hb))
 have hst2:=I.frame hst mk.st fun _ _ h=>nomatch h
 have hDx:D∉xset X'.env:=fun h=>(xs' h).elim mk.DC (F.xno nD)
 have loop:codeAny MM X.A (.compLoop (.ListComp elt gens scope pos) 0 itv (.ref D) X'.env) (RR (.ref D) C) w₂.s:=
  ZmK (X:=X') (w₀:=w₀) (Z:=[]) hturn ht hem (st1.trans mk.st) F' I hst2 hX fr (.mk #[] 0 mk.oD hDx mk.gD .nil) (fun h=>fpN D h mk.nD rfl) (fun b hb=>.inr ((List.mem_cons.mp hb).elim (fun q=>q▸nD) fun q=>List.mem_singleton.mp q▸nC)) (qs₀:=[]) hsz (mk.σ▸hg) fun w' e st F'' ac=>by
   cases ac with|mk vs m o x e2 p=>
   obtain⟨m',hm⟩:=F''.ns
   have oC':Yx w' C:=⟨⟨(F''.off C List.mem_cons_self).1,(F''.off C List.mem_cons_self).2,mk.oC.off.f⟩,(ZdY hm.ns).elim fun o q=>⟨o,q.1⟩⟩
   exact hRR D C w' m' e ⟨st,o,oC',nD,nC,mk.DC,⟨vs,m,e2,p⟩,hm.ns⟩
 exact QK hd loop (I.self hst2 loop)
theorem Got.give{w₀ w':Wd A}{D C:Addr}{qs:List P}{m:Str→Option Value}(g:Got w₀ w' D C qs m)(hz:qs.length≤sizeLine){h':Heap}(hs:Heap.SameBut C w'.s.heap h'){Q E:Value→Shared→Prop}(k:KV w₀ Q E (some (.ok (.ref w'.σ.length),w'.σ++[.lst qs]))):Q (.ref D) {w'.s with heap:=h'}:=by
 obtain⟨vs,kk,hD,hp⟩:=g.ls
 have out:∀a o,w'.s.heap.get? a=some o→a∉[C]→h'.get? a=some o:=fun a o e hn=>(hs.2 a fun q=>hn (by simp[q])).trans e
 let w₂:=w'.end (fp:=[C]) h' w'.s.toks (.priv (fun z hz=>by rw[List.mem_singleton.mp hz];exact g.oC.off) out)
 have gn:Gone [C] w' w₂:=⟨rfl,rfl,out⟩
 have st2:=g.st.gone (fun b hb=>by rw[List.mem_singleton.mp hb];exact g.nC) gn
 have M:MRel w₂.I w₂.s.heap D (.lst qs):=.lst g.oD.off.i (out D _ hD fun h=>g.DC (List.mem_singleton.mp h)) hp hz
 have x:Off w₂ D:=⟨g.oD.off.g,g.oD.off.i,g.oD.off.f⟩
 exact k (w₂.adoptG D _ M x.gf) rfl (st2.adoptG M x.gf g.nD) _ (w₂.last M x.gf)
theorem ZmB{α β:Type}{m:HM α}{f:α→HM β}{σ σ':Hp}{r:R β}{G:Prop}(h:hb (ne m) f σ=some (r,σ'))(go:∀a σ₁,ne m σ=some (.ok a,σ₁)→f a σ₁=some (r,σ')→G):G:=by
 unfold hb at h
 cases e:ne m σ with
 |none=>rw[e]at h;cases h
 |some p=>
  obtain⟨x,σ₁⟩:=p
  rw[e]at h
  cases x with
  |ok a=>exact go a σ₁ e h
  |exc=>
   unfold ne at e
   cases e2:m σ with
   |none=>rw[e2]at e;cases e
   |some q=>
    obtain⟨y,σ₂⟩:=q
    rw[e2]at e
    cases y<;>cases e
theorem Zdr{α β:Type}{m:HM α}{f:α→HM β}{σ σ₁:Hp}{a:α}(e:m σ=some (.ok a,σ₁)):hb m f σ=f a σ₁:=by unfold hb;rw[e]
theorem Zgr{t:Tg}{c:Tn}{f:Fn}{ps:List P}:∀{l:Loc} {σ σ':Hp} {r:R (List P)},Y2 t c f l ps σ=some (r,σ')→∃qs l',r=.ok qs∧goN nxtL t (gIf c (Wv f)) (ps.length+1) ps l σ=some (.ok (qs,l'),σ'):=by
 induction ps with
 |nil=>intro l σ σ' r h;cases h;exact⟨[],l,rfl,rfl⟩
 |cons p ps ih=>
  intro l σ σ' r h
  have h:(match ZX t p l with
   |none=>hn
   |some l'=>hb (ne (c l')) fun b=>if b then hb (ne (hb (f l') asP)) fun q=>hb (Y2 t c f l' ps) fun qs=>hp (q::qs)else Y2 t c f l' ps) σ=some (r,σ'):=h
  have e0:∀{qs l'},(match ZX t p l with
   |none=>none
   |some l'=>hb (gIf c (Wv f) l') (fun q=>hb (goN nxtL t (gIf c (Wv f)) (ps.length+1) ps q.2) fun r=>hp (q.1++r.1,r.2)) σ)=some (.ok (qs,l'),σ')→goN nxtL t (gIf c (Wv f)) ((p::ps).length+1) (p::ps) l σ=some (.ok (qs,l'),σ'):=fun h=>h
  cases hbt:ZX t p l with
  |none=>rw[hbt]at h;cases h
  |some l₁=>
   rw[hbt]at h e0
   refine ZmB (m:=c l₁) h fun b σ₁ h1 h2=>?_
   have g0:∀{q σ₂},(if b then Wv f l₁ else hp ([],l₁)) σ₁=some (.ok q,σ₂)→gIf c (Wv f) l₁ σ=some (.ok q,σ₂):=fun h=>(Zdr h1).trans h
   cases b with
   |false=>
    obtain⟨qs,l',e1,e2⟩:=ih h2
    exact⟨qs,l',e1,e0 ((Zdr (g0 rfl)).trans (Zdr e2))⟩
   |true=>
    refine ZmB (m:=hb (f l₁) asP) h2 fun q σ₂ h3 h4=>?_
    have g1:Wv f l₁ σ₁=some (.ok ([q],l₁),σ₂):=Zdr h3
    cases e5:Y2 t c f l₁ ps σ₂ with
    |none=>unfold hb at h4;rw[e5]at h4;cases h4
    |some x=>
     obtain⟨r',σ₃⟩:=x
     obtain⟨qs,l',e1,e2⟩:=ih e5
     subst e1
     rw[Zdr e5]at h4
     cases h4
     exact⟨q::qs,l',rfl,e0 ((Zdr (g0 g1)).trans (Zdr e2))⟩
theorem Aft.comp{w:Wd A}{t:Tg}{c:Tn}{f:Fn}{ps:List P}{l:Loc}{σ:Hp}{D:V→Wd A→Prop}{E:Value→Shared→Prop}{G:Prop}(k:Aft w D E (Mine.hb (Y2 t c f l ps) (fun qs=>Mine.newL qs) σ))
  (go:∀qs l' σ',goN nxtL t (gIf c (Wv f)) (ps.length+1) ps l σ=some (.ok (qs,l'),σ')→qs.length≤sizeLine→Aft w D E (some (.ok (.ref σ'.length),σ'++[.lst qs]))→G):G:=by
 cases e:Y2 t c f l ps σ with
 |none=>unfold Mine.hb at k;rw[e]at k;exact k.elim
 |some p=>
  obtain⟨r,σ'⟩:=p
  obtain⟨qs,l',rfl,h⟩:=Zgr e
  rw[Zdr e]at k
  have k':=Zbt k
  exact go qs l' σ' h k'.1 k'.2
theorem WY{scope:Scope}{is:List Nat}(co:ZbK scope Γ.sc Γ.xs is)(X:Fx Γ):closureFor scope X.env=pure (fcs scope X):=Zgs fun x hx hf=>X.there (X.ko (co.free x hx hf))
theorem Wu{scope:Scope}{is:List Nat}(co:ZbK scope Γ.sc Γ.xs is):∀x∈scope.names,x.2=.local→scope.names.lookup x.1=some .local:=fun x hx e=>e▸Yg co.nodup hx
noncomputable abbrev Zh8(elt:Expr):Value→Env→Sem Unit:=fun acc env=>do let _ ← call (.builtin "list.append") [acc,← eval elt env]
noncomputable abbrev ifEm(ifs:List Expr)(em:Value→Env→Sem Unit):Value→Env→Sem Unit:=fun acc env=>do let ok ← ZhM ifs env;if ok=true then em acc env else pure ()
theorem ZdK{tg iter elt:Expr}{ifs:List Expr}{scope:Scope}{pos:Pos}:ZaN elt [⟨tg,iter,ifs,0⟩] scope pos 0 tg iter.pos (ifEm ifs (Zh8 elt)):=fun it acc env=>by
 rw[compTurn_list]
 congr 1
 funext _
 congr 1
 funext r
 cases r with
 |none=>rfl
 |some v=>
  simp only[bind_assoc]
  congr 1
  funext _
  congr 1
  funext _
  congr 1
  funext ok
  cases ok<;>simp[Zh8]
theorem Got.chg{w₀ w w':Wd A}{D C:Addr}{qs:List P}{m:Str→Option Value}(g:Got w₀ w D C qs m)(hD:∃vs k,w'.s.heap.get? D=some (seqObj "list" vs k)∧PAll w'.I vs.toList qs)(st:St [] w₀ w')(oD:Yx w' D)(oC:Yx w' C)(ns:w'.s.heap.Ns C m):Got w₀ w' D C qs m:=⟨st,oD,oC,g.nD,g.nC,g.DC,hD,ns⟩
theorem ZiS{tg iter elt:Expr}{ifs:List Expr}{scope:Scope}{t:Tg}{c:Tn}{f:Fn}{it:In}{pos:Pos}(hi:SemI Γ tg iter it)(hc:SemF (relΓ scope Γ) ifs c)(he:SemE (relΓ scope Γ) elt f)
  (co:Qa scope Γ.sc Γ.xs (tgIs t)=true) (ht:TgIs (WA (Z0 scope Γ.sc) Γ.xs) t tg)
  (hs:∀env x,foldedSetIterable iter env x=pure x):SemE Γ (.ListComp elt [⟨tg,iter,ifs,0⟩] scope pos) (ZS it t c f):=fun X l w F Q E k=>by
 have co:=WZ co
 rw[eval_ListComp]
 refine wpAny_comprehension_free (use:=none) rfl (hs X.env) (WY co X) co.kind (Wu co) (hi F (Aft.hb0 (m:=it l) k fun ps w₁ st k y hy=>?_))
 cases hy with|mk fp S I hst fr hl=>
 exact k.comp fun qs l' σ' hg hz k=>Zfz rfl ZdK co ht (Zcx hc (Wt he)) F st hz I hst fr (fun i v h=>Q0 h) hg fun D C w' m e g=>⟨m,g.ns,fun h' hs'=>g.give hz hs' (e▸k)⟩
end
section
open PySem.Calls PyProof.Rows
set_option genInjectivity false
set_option maxRecDepth 100000
variable{Γ:Cfg}{A:Around}{n:Nat}
theorem ZdR{tg iter elt:Expr}{ifs:List Expr}{scope:Scope}{t:Tg}{c:Tn}{f:Fn}{it:In}{cpos py pos:Pos}{y:Str}(i:Nat)(hi:SemI Γ tg iter it)(hc:SemF (relΓ scope Γ) ifs c)(he:SemE (relΓ scope Γ) elt f)
  (co:Qa scope Γ.sc Γ.xs (tgIs t)=true) (ht:TgIs (WA (Z0 scope Γ.sc) Γ.xs) t tg)
  (hs:∀env x,foldedSetIterable iter env x=pure x) (hy:X2 Γ.sc Γ.xs i y=true)
  (hsw:∀env:Env,env.scope=Γ.sc→swapsWith (.ListComp elt [⟨tg,iter,ifs,0⟩] scope cpos) (some (.Name y py)) pos.line env=pure true):
  SemS Γ (.Assign [.Name y py] (.ListComp elt [⟨tg,iter,ifs,0⟩] scope cpos) pos) (Zj i (ZS it t c f)):=fun X l w hS F Q E k=>by
 have co:=WZ co
 rw[exec_Assign_Name_used _ _ _ _ (hsw X.env X.scope)]
 refine wpAny_bind (wpAny_standAt (wpAny_bind ?_))
 show wpAny _ X.A (do let _ ← comprehension (.ListComp elt [⟨tg,iter,ifs,0⟩] scope cpos) scope X.env _ (newList []) false (eval iter X.env) (some (assign (.Name y py) X.env))) _ _ w.s
 refine wpAny_bind (wpAny_mono (wpAny_comprehension_free (use:=some (assign (.Name y py) X.env)) (Q:=fun _ s'=>Q .next s') rfl (hs X.env) (WY co X) co.kind (Wu co)
  (hi F (Aft.hb0 (k.let0 F (D:=fun v w'=>∀l',l'=l.set i (some v)→AftS w Q E (some (.ok .next,l',w'.σ))) fun v w' st k l' e=>e▸k) fun ps w₁ st k itv hit=>?_))) (fun _ s' hq=>wpAny_pure (wpAny_pure hq)) fun _ _ e=>e)
 cases hit with|mk fp S I hst fr hl=>
 refine k.comp fun qs l' σ' hg hz k=>Zfz rfl ZdK co ht (Zcx hc (Wt he)) F st hz I hst fr (fun i v h=>Q0 h) hg fun D C w' m e g=>?_
 obtain⟨vs,kk,hD,hp⟩:=g.ls
 have M:MRel w'.I w'.s.heap D (.lst qs):=.lst g.oD.off.i hD hp hz
 have st3:=g.st.adoptG M g.oD.off.gf g.nD
 let w₃:=w'.adoptG D _ M g.oD.off.gf
 have k:=k w₃ (congrArg (·++[MObj.lst qs]) e) st3 _ rfl
 have oC:Yx w₃ C:=⟨⟨fun hm=>(List.mem_append.mp hm).elim g.oC.off.g fun q=>g.DC (List.mem_singleton.mp q).symm,g.oC.off.i,g.oC.off.f⟩,g.oC.ex⟩
 have hCx:C∉xset X.env:=F.xno g.nC
 show wpAny _ X.A (assign (.Name y py) X.env (.ref D)) _ _ w₃.s
 refine PyProof.Rows.assign_Name (ZaK (F.st st3) (.all hy) (v:=.ref σ'.length) (e▸w'.last M g.oD.off.gf) List.mem_cons_self fun w₄ e4 st4 F4=>?_)
 have oC4:=oC.step st4
 refine⟨m,g.ns.elim fun o h=>⟨o,h.elim fun es h=>⟨es,h.elim fun ep h=>⟨ep,oC.kept st4 hCx h.1,h.2⟩⟩⟩,fun h' hs'=>?_⟩
 have out:∀a o,w₄.s.heap.get? a=some o→a∉[C]→h'.get? a=some o:=fun a o e hn=>(hs'.2 a fun q=>hn (by simp[q])).trans e
 have gn:Gone [C] w₄ (w₄.end (fp:=[C]) h' w₄.s.toks (.priv (fun z hz=>by rw[List.mem_singleton.mp hz];exact oC4.off) out)):=⟨rfl,rfl,out⟩
 exact k (w₄.end (fp:=[C]) h' w₄.s.toks (.priv (fun z hz=>by rw[List.mem_singleton.mp hz];exact oC4.off) out)) e4 ((st3.wide.trans st4).gone (fun b hb=>by rw[List.mem_singleton.mp hb];exact g.nC) gn) (F4.gone gn fun b hb=>by rw[List.mem_singleton.mp hb];exact hCx)
theorem Zd4{elt:Expr}{gens:List Comprehension}{scope:Scope}{pos ipos:Pos}{d:Nat}{tg iter:Expr}{ifs:List Expr}{t:Tg}{it:In}{g:Em}{em:Value→Env→Sem Unit}(hi:SemI Γ tg iter it)(hd:gens[d]?=some ⟨tg,iter,ifs,0⟩)(hturn:ZaN elt gens scope pos d tg ipos em)
  (ht:TgIs (WA Γ.sc Γ.xs) t tg) (hem:Ze9 Γ em g) (hs:∀env x,foldedSetIterable iter env x=pure x):
  Ze9 Γ (fun acc env=>do
    let x ← eval iter env
    standAt iter.pos
    let x ← foldedSetIterable iter env x
    let _ ← runOwn (.compStart (.ListComp elt gens scope pos) d (← holding [x] (pyIter x)) acc env) env) (gFor it t g):=fun X l l' w σ' D qs₀ qs F ac hz hg Q E k=>by
 have main:wpAny MM X.A (eval iter X.env) (fun x s₁=>wpAny MM X.A (pyIter x) (fun itv s₂=>wpAny MM X.A (runOwn (.compStart (.ListComp elt gens scope pos) d itv (.ref D) X.env) X.env) (fun _ s₃=>Q () s₃) E s₂) E s₁) E w.s:=by
  refine hi F (Aft.ok (m:=it l) hg fun ps w₁ st e2 y hy=>?_)
  cases hy with|mk fp S I hst fr hl=>
  have fpD:D∉fp:=fun h=>by cases ac with|mk vs m o x e p=>rw[fr D h]at e;cases e
  have loop:codeAny MM X.A (.compLoop (.ListComp elt gens scope pos) d y (.ref D) X.env) (fun r s'=>match r with| .ok f=>Q () s'| .error e=>cameBackBy MM X.A X.env E e s') w₁.s:=
   ZmK (Z:=[D,X.env.locals]) hturn ht hem st.wide (F.st st) I hst (fun b hb=>F.xno (fr b hb)) fr (ac.st st List.not_mem_nil) fpD (fun b hb=>.inl hb) hz e2 k
  refine wpAny_runOwn (h:=none) ?_
  rw[Zhx]
  exact QK hd loop (I.self hst loop)
 refine wpAny_bind (wpAny_mono main (fun x s₁ h₁=>wpAny_bind (wpAny_standAt (wpAny_bind (wpAny_of_eq (hs X.env x) (wpAny_bind (wpAny_holding (wpAny_mono h₁ (fun itv s₂ h₂=>?_) fun _ _ e=>e))))))) fun _ _ e=>e)
 exact wpAny_bind (wpAny_mono h₂ (fun _ s₃ h₃=>wpAny_pure h₃) fun _ _ e=>e)
noncomputable abbrev Zj8(E:Expr)(d:Nat)(iter:Expr):Value→Env→Sem Unit:=fun acc env=>do
    let x ← eval iter env
    standAt iter.pos
    let x ← foldedSetIterable iter env x
    let _ ← runOwn (.compStart E d (← holding [x] (pyIter x)) acc env) env
noncomputable def Zng(is:List Nat)(l:Loc):Loc:=is.foldl (fun l i=>l.set i none) l
theorem ZcI{it acc:Value}{env:Env}{tg iter:Expr}{ipos:Pos}{E:Expr}{d:Nat}{c:Code}:(do
   standAt ipos
   match ← pyNext it with
   |none=>pure (.done .next)
   |some v=>do
    letOwnedTupleGo tg it v
    assign tg env v
    let x ← eval iter env
    standAt iter.pos
    let x ← foldedSetIterable iter env x
    let _ ← runOwn (.compStart E d (← holding [x] (pyIter x)) acc env) env
    again c:Sem PySem.Fin)=(do
   standAt ipos
   match ← pyNext it with
   |none=>pure (.done .next)
   |some v=>do
    letOwnedTupleGo tg it v
    assign tg env v
    Zj8 E d iter acc env
    again c):=by
 congr 1
 funext _
 congr 1
 funext r
 cases r with
 |none=>rfl
 |some v=>simp only[Zj8,bind_assoc,pure_bind]
noncomputable def Zij(is:List Nat)(i₀:In)(t₀:Tg)(i₁:In)(t₁:Tg)(i₂:In)(t₂:Tg)(f:Fn):Fn:=fun l=>hb (i₀ l) fun ps=>fun σ=>match goN nxtL t₀ (gFor i₁ t₁ (gFor i₂ t₂ (Wv f))) (ps.length+1) ps (Zng is l) σ with
 |some (.ok (qs,_),σ')=>newL qs σ'
 |_=>none
theorem Aft.goN{w:Wd A}{o:Option (R (List P×Loc)×Hp)}{D:V→Wd A→Prop}{E:Value→Shared→Prop}{G:Prop}(k:Aft w D E (match o with|some (.ok (qs,_),σ')=>Mine.newL qs σ'|_=>none))(go:∀qs l' σ',o=some (.ok (qs,l'),σ')→qs.length≤sizeLine→Aft w D E (some (.ok (.ref σ'.length),σ'++[.lst qs]))→G):G:=by
 cases o with
 |none=>exact k.elim
 |some p=>
  obtain⟨r,σ'⟩:=p
  cases r with
  |exc=>exact k.elim
  |ok q=>have k:=Zbt k;exact go q.1 q.2 σ' rfl k.1 k.2
theorem ZgZ{elt tg₀ tg₁ tg₂ e₀ e₁ e₂:Expr}{scope:Scope}{t₀ t₁ t₂:Tg}{f:Fn}{i₀ i₁ i₂:In}{pos:Pos}(is:List Nat)(h₀:SemI Γ tg₀ e₀ i₀)(h₁:SemI (relΓ scope Γ) tg₁ e₁ i₁)(h₂:SemI (relΓ scope Γ) tg₂ e₂ i₂)(he:SemE (relΓ scope Γ) elt f)
  (co:Qa scope Γ.sc Γ.xs is=true) (ht₀:TgIs (WA (Z0 scope Γ.sc) Γ.xs) t₀ tg₀) (ht₁:TgIs (WA (Z0 scope Γ.sc) Γ.xs) t₁ tg₁) (ht₂:TgIs (WA (Z0 scope Γ.sc) Γ.xs) t₂ tg₂)
  (hs₀:∀env x,foldedSetIterable e₀ env x=pure x) (hs₁:∀env x,foldedSetIterable e₁ env x=pure x) (hs₂:∀env x,foldedSetIterable e₂ env x=pure x):
  SemE Γ (.ListComp elt [⟨tg₀,e₀,[],0⟩,⟨tg₁,e₁,[],0⟩,⟨tg₂,e₂,[],0⟩] scope pos) (Zij is i₀ t₀ i₁ t₁ i₂ t₂ f):=fun X l w F Q E k=>by
 have co:=WZ co
 generalize hG:[(⟨tg₀,e₀,[],0⟩:Comprehension),⟨tg₁,e₁,[],0⟩,⟨tg₂,e₂,[],0⟩]=gens
 have T2:ZaN elt gens scope pos 2 tg₂ e₂.pos (Zh8 elt):=fun it acc env=>by subst hG;rfl
 have T1:ZaN elt gens scope pos 1 tg₁ e₁.pos (Zj8 (.ListComp elt gens scope pos) 2 e₂):=fun it acc env=>Eq.trans (by subst hG;rfl) ZcI
 have T0:ZaN elt gens scope pos 0 tg₀ e₀.pos (Zj8 (.ListComp elt gens scope pos) 1 e₁):=fun it acc env=>Eq.trans (by subst hG;rfl) ZcI
 have g0:gens[0]?=some ⟨tg₀,e₀,[],0⟩:=hG▸rfl
 have em2:=Zd4 (Γ:=relΓ scope Γ) (ifs:=[]) h₂ (hG▸rfl) T2 ht₂ (Wt he) hs₂
 have em1:=Zd4 (Γ:=relΓ scope Γ) (ifs:=[]) h₁ (hG▸rfl) T1 ht₁ em2 hs₁
 have i1:firstIter gens X.env=eval e₀ X.env:=hG▸rfl
 have i2:firstAsync gens=false:=hG▸rfl
 rw[eval_ListComp,i1,i2]
 refine wpAny_comprehension_free (use:=none) (g:=⟨tg₀,e₀,[],0⟩) (gs:=gens.drop 1) (show clausesOf (.ListComp elt gens scope pos)=_ by subst hG;rfl) (hs₀ X.env) (WY co X) co.kind (Wu co) (h₀ F (Aft.hb0 (m:=i₀ l) k fun ps w₁ st k y hy=>?_))
 cases hy with|mk fp S I hst fr hl=>
 exact Aft.goN k fun qs l' σ' hg hz k=>Zfz g0 T0 co ht₀ em1 F st hz I hst fr (fun i v h=>ZaG h) hg fun D C w' m e g=>⟨m,g.ns,fun h' hs'=>g.give hz hs' (e▸k)⟩
noncomputable def ZaD(i:Nat)(t:Tg)(c:Tn)(f:Fn):Fn:=fun l σ=>match l[i]? with
 |some (some (.ref k))=>(match σ[k]? with
  |some (.lst xs)=>(match goN (nxtK k) t (gIf c (Wv f)) (xs.length+1) 0 (X7 t l) σ with
   |some (.ok (qs,_),σ')=>newL qs σ'
   |_=>none)
  |_=>none)
 |_=>none
theorem Zkl{w:Wd A}{k:Nat}{a:Addr}{i:Nat}{o:Option (P×Nat)}{G:Prop}(hk:w.γ[k]?=some a)(h:nxtK k i w.σ=some o)(go:∀ys vs m,w.s.heap.get? a=some (seqObj "list" vs m)→PAll w.I vs.toList ys→o=ys[i]?.map (·,i+1)→G):G:=by
 unfold nxtK at h
 cases e:w.σ[k]? with
 |none=>rw[e]at h;cases h
 |some m=>
  rw[e]at h
  cases w.b.mem.at_ hk e with
  |@lst ys vs m h1 h2 h3 h4=>
   have h:(match ys[i]? with|some p=>some (some (p,i+1))|none=>some none)=some o:=h
   refine go ys vs m h2 h3 ?_
   cases e2:ys[i]? with
   |none=>rw[e2]at h;cases h;rfl
   |some p=>rw[e2]at h;cases h;rfl
  |_=>cases h
theorem Zl7(hh:A.handled=none)(tg:Expr){it a:Addr}{k:Nat}:It A tg (.ref it) [it] (nxtK k) fun i w=>Yx w it∧w.γ[k]?=some a∧w.s.heap.IsListIter it a i:=
 .one (C:="list_iterator") (F:=fun w=>w.γ[k]?=some a) (T:=fun i h=>h.IsListIter it a i) (by decide) (fun st h=>Zaq st.pre h) (fun h k=>h.at k) (fun⟨o,h⟩=>⟨o,_,h⟩)
  (fun{p st st' w Q E} hn hk h kk=>Zkl hk hn fun ys vs m e hp q=>by
   cases e2:ys[st]? with
   |none=>rw[e2]at q;cases q
   |some p'=>
    rw[e2]at q
    cases q
    obtain⟨v,hv,hpv⟩:=hp.get e2
    exact wpAny_pyNext_list_item h ⟨_,e,rfl,m,rfl⟩ (Zd9 hv) fun h' hit hs=>kk v h' w.s.toks hpv hit hs)
  (fun{st w Q E} hn hk h kk=>Zkl hk hn fun ys vs m e hp q=>by
   cases e2:ys[st]? with
   |some p'=>rw[e2]at q;cases q
   |none=>exact wpAny_pyNext_list_end hh h ⟨_,e,rfl,m,rfl⟩ (Zd3 hp e2) kk)
  fun h k=>wpAny_pyIter_listiter h k
theorem ZgY{tg elt:Expr}{x:Str}{xp:Pos}{ifs:List Expr}{scope:Scope}{t:Tg}{c:Tn}{f:Fn}{cpos:Pos}(i:Nat)(k₀:NameKind)(hx:Γ.xs[i]?=some x)(hk:Γ.sc.names.lookup x=some k₀)(hv:Xu k₀=true)(hd:(x==("__debug__":Str))=false)
  (hc:SemF (relΓ scope Γ) ifs c) (he:SemE (relΓ scope Γ) elt f) (co:Qa scope Γ.sc Γ.xs (tgIs t)=true) (ht:TgIs (WA (Z0 scope Γ.sc) Γ.xs) t tg):SemE Γ (.ListComp elt [⟨tg,.Name x xp,ifs,0⟩] scope cpos) (ZaD i t c f):=fun X l w F Q E k=>by
 have co:=WZ co
 rw[eval_ListComp]
 refine wpAny_comprehension_free (use:=none) rfl (fun _=>rfl) (WY co X) co.kind (Wu co) ?_
 have k:KV w Q E (match l[i]? with
  |some (some (.ref k))=>(match w.σ[k]? with
   |some (.lst xs)=>(match goN (nxtK k) t (gIf c (Wv f)) (xs.length+1) 0 (X7 t l) w.σ with
    |some (.ok (qs,_),σ')=>newL qs σ'
    |_=>none)
   |_=>none)
  |_=>none):=k
 cases e1:l[i]? with
 |none=>rw[e1]at k;exact k.elim
 |some o=>
 rw[e1]at k
 cases o with
 |none=>exact k.elim
 |some v=>
 refine wpAny_Name (Zdi F hx hk hv e1 fun yv hyv=>?_) hd
 cases hyv with
 |p=>exact k.elim
 |dia=>exact k.elim
 |@ref kk a hka=>
 have k:KV w Q E (match w.σ[kk]? with
   |some (.lst xs)=>(match goN (nxtK kk) t (gIf c (Wv f)) (xs.length+1) 0 (X7 t l) w.σ with
    |some (.ok (qs,_),σ')=>newL qs σ'
    |_=>none)
   |_=>none):=k
 cases e2:w.σ[kk]? with
 |none=>rw[e2]at k;exact k.elim
 |some m=>
 rw[e2]at k
 cases w.b.mem.at_ hka e2 with
 |@lst ys vs m h1 h2 h3 h4=>
  exact wpAny_pyIter_list ⟨_,h2,rfl,m,rfl⟩ (Aft.goN k fun qs l' σ' hg hz k=>Zfz (w₁:=w.junk {cls:=.type "list_iterator",data:=.fields #[.ref a,.int 0 0]} w.s.toks) rfl ZdK co ht (Zcx hc (Wt he)) F (w.st_junk _ _) hz (Zl7 X.hA.hd tg) (st₀:=0) ⟨w.own_push _ rfl _,hka,_,Heap.get?_push_size _ rfl,rfl,rfl⟩ (fun b hb=>by rw[List.mem_singleton.mp hb];exact w.new) (fun i v h=>Q0 h) hg fun D C w' m e g=>⟨m,g.ns,fun h' hs'=>g.give hz hs' (e▸k)⟩)
 |_=>exact k.elim
theorem ZkZ{e₁ e₂:Expr}{f g:Fn}{pos:Pos}(h₁:SemE Γ e₁ f)(h₂:SemE Γ e₂ g):SemE Γ (.BoolOp .And [e₁,e₂] pos) (eAnd f g):=fun X l w F Q E k=>BoolOp_and (h₁.bd F k fun v w₁ y st hy k=>by
 cases hy with
 |ref=>exact k.elim
 |dia=>exact k.elim
 |@p d _ h=>
  cases d with
  |bool b=>exact h.bool_e (by
    cases b with
    |false=>exact PySem.wpAny_truthy_bool (by rw[if_neg (by decide)];exact KV.now (v:=.p (.bool false)) k (.p (.bool false)))
    |true=>exact PySem.wpAny_truthy_bool (by rw[if_pos rfl];exact BoolOp_one (h₂ _ _ _ (F.st st) _ _ k)))
  |_=>exact k.elim)
noncomputable def newI(l:List (Int×P)):HM V:=fun σ=>some (.ok (.ref σ.length),σ++[.idct l])
noncomputable def Zkw(f:Fn)(d:P):Fn:=fun l=>hb (f l) (i1 fun n=>newI [(n,d)])
theorem ZgX{e:Expr}{f:Fn}{d:Bool}{k:Nat}{p pos:Pos}(h:SemE Γ e f):SemE Γ (.Dict [some e] [.Constant (.bool d) k p] pos) (Zkw f (.bool d)):=fun X l w F Q E kk=>by
 refine wpAny_Dict_pairs (knd:=intKind U.prog U.w) (pairs:=[(eval e X.env,do let x ← eval (.Constant (.bool d) k p) X.env;standAt pos;pure x)]) (by rfl) (by simp) (by simp) ?_
 have oD:=w.own_push {cls:=.type "dict",data:=.dict #[]} rfl w.s.toks
 have st0:=w.st_junk {cls:=.type "dict",data:=.dict #[]} w.s.toks
 unfold evalPairs
 refine wpAny_bind (h _ _ (w.junk {cls:=.type "dict",data:=.dict #[]} w.s.toks) (F.st st0) _ _ ((Aft.hb0 (P:=fun v w₁=>KV w Q E (i1 (fun n=>newI [(n,.bool d)]) v w₁.σ)) kk fun _ _ _ k=>k).after (fun v w₁ st k y hy=>?_) st0))
 have hy:VR w₁ v y:=hy
 refine i1_e k hy fun i t k=>?_
 have hD₁:=oD.kept st List.not_mem_nil (Heap.get?_push_size _ rfl)
 have oD:=oD.step st
 refine wpAny_bind (wpAny_holding (wpAny_bind (wpAny_pure (wpAny_bind (wpAny_standAt (wpAny_pure ?_))))))
 refine wpAny_bind (wpAny_holding (wpAny_pure (wpAny_pure ⟨[(i,.bool d)],⟨intKind_is _ _ _ _,rfl,trivial⟩,⟨_,#[],0,hD₁,⟨rfl,rfl,rfl⟩,rfl,fun e he=>absurd he (by simp),.nil,by simp⟩,fun h' hd hs=>?_⟩)))
 obtain⟨o',esD,epD,hoD,_,hdD,_⟩:=id hd
 have c:Chg w₁ [w.s.heap.objs.size] h':=.one ⟨oD.off.g,oD.off.i⟩ hs hoD fun vs q=>by rw[hdD]at q;cases q
 have hsys:(w.s.heap.objs.size==sysModules)=false:=beq_eq_false_iff_ne.mpr fun q=>absurd (Nat.lt_of_lt_of_le U.sys w.above) (by rw[q];exact Nat.lt_irrefl _)
 have M:MRel (w₁.chg h' (w₁.s.toks+1) c).I h' w.s.heap.objs.size (.idct [(i,.bool d)]):=.idct oD.off.i hsys (show 1≤sizeLine by rw[sizeLine_eq];decide) hd (.cons (.bool d) .nil)
 have x:Off (w₁.chg h' (w₁.s.toks+1) c) w.s.heap.objs.size:=⟨oD.off.g,oD.off.i,oD.off.f⟩
 have stT:=((st0.trans st).own (fun a ha=>by rw[List.mem_singleton.mp ha];exact w.new) (c.st (w₁.s.toks+1))).adoptG M x.gf w.new
 exact k _ rfl stT _ (Wd.last _ M x.gf)
end
section
open PySem.Calls PyProof.Rows
set_option genInjectivity false
variable{Γ:Cfg}{A:Around}{n:Nat}
theorem Qb{names:List (Str×NameKind)}{x:Str}:∀{k:Nat} {acc:List (Str×Addr)},((x,NameKind.cell)∈names∨∃c,(x,c)∈acc)→∃c,(x,c)∈cellsFrom k names acc:=by
 induction names with
 |nil=>exact fun h=>h.elim (fun h=>nomatch h) id
 |cons y r ih=>
  intro k acc h
  obtain⟨m,kd⟩:=y
  unfold cellsFrom
  by_cases hk:(kd==NameKind.cell)=true
  ·rw[if_pos hk]
   exact ih (h.elim (fun h=>(List.mem_cons.mp h).elim (fun e=>.inr ⟨k,(Prod.mk.inj e).1▸List.mem_cons_self⟩) .inl) fun h=>.inr (h.elim fun c h=>⟨c,List.mem_cons_of_mem _ h⟩))
  ·rw[if_neg hk]
   exact ih (h.imp (fun h=>(List.mem_cons.mp h).elim (fun e=>absurd (by rw[← (Prod.mk.inj e).2];rfl) hk) id) id)
theorem ZaI{names:List (Str×NameKind)}:∀{k:Nat} {acc:List (Str×Addr)},(names.map (·.1)).Nodup→(acc.map (·.1)).Nodup→(∀p∈acc,p.1∉names.map (·.1))→((cellsFrom k names acc).map (·.1)).Nodup:=by
 induction names with
 |nil=>exact fun _ h _=>h
 |cons y r ih=>
  intro k acc hn h ha
  obtain⟨m,kd⟩:=y
  rw[List.map_cons,List.nodup_cons]at hn
  have ha':∀p∈acc,p.1∉r.map (·.1):=fun p hp hm=>ha p hp (List.mem_cons_of_mem _ hm)
  unfold cellsFrom
  by_cases hk:(kd==NameKind.cell)=true
  ·rw[if_pos hk]
   refine ih hn.2 ?_ fun p hp=>(List.mem_cons.mp hp).elim (fun q=>q▸hn.1) (ha' p)
   rw[List.map_cons,List.nodup_cons]
   refine⟨fun hm=>?_,h⟩
   obtain⟨p,hp,e⟩:=List.mem_map.mp hm
   exact ha p hp (by rw[List.map_cons,e];exact List.mem_cons_self)
  ·rw[if_neg hk]
   exact ih hn.2 h ha'
theorem Ze1{ko:Str→Option NameKind}{bs:List (Str×Value)}{x:Str}:∀{m:Str→Option Value},x∉bs.map (·.1)→bindL ko bs m x=m x:=by
 induction bs with
 |nil=>exact fun _=>rfl
 |cons y bs ih=>
  intro m h
  obtain⟨y,v⟩:=y
  rw[List.map_cons,List.mem_cons,not_or]at h
  unfold bindL
  rw[ih h.2]
  by_cases q:ko y=some .local
  ·rw[if_pos q];exact if_neg h.1
  ·rw[if_neg q]
theorem ZjF{ko:Str→Option NameKind}{bs:List (Str×Value)}{x:Str}{v:Value}:∀{m:Str→Option Value},(bs.map (·.1)).Nodup→(x,v)∈bs→ko x=some .local→bindL ko bs m x=some v:=by
 induction bs with
 |nil=>exact fun _ h=>nomatch h
 |cons y bs ih=>
  intro m hn hm hk
  obtain⟨y,u⟩:=y
  rw[List.map_cons,List.nodup_cons]at hn
  unfold bindL
  rcases List.mem_cons.mp hm with h|h
  ·cases h
   rw[if_pos hk,Ze1 hn.1]
   exact if_pos rfl
  ·exact ih hn.2 h hk
theorem Ze2{ko:Str→Option NameKind}{bs:List (Str×Value)}{x:Str}:∀{m:Str→Option Value},x∉bs.map (·.1)→bindC ko bs m x=m x:=by
 induction bs with
 |nil=>exact fun _=>rfl
 |cons y bs ih=>
  intro m h
  obtain⟨y,v⟩:=y
  rw[List.map_cons,List.mem_cons,not_or]at h
  unfold bindC
  rw[ih h.2]
  by_cases q:ko y=some .local
  ·rw[if_pos q]
  ·rw[if_neg q];exact if_neg h.1
theorem ZjG{ko:Str→Option NameKind}{bs:List (Str×Value)}{x:Str}{v:Value}:∀{m:Str→Option Value},(bs.map (·.1)).Nodup→(x,v)∈bs→ko x≠some .local→bindC ko bs m x=some v:=by
 induction bs with
 |nil=>exact fun _ h=>nomatch h
 |cons y bs ih=>
  intro m hn hm hk
  obtain⟨y,u⟩:=y
  rw[List.map_cons,List.nodup_cons]at hn
  unfold bindC
  rcases List.mem_cons.mp hm with h|h
  ·cases h
   rw[if_neg hk,Ze2 hn.1]
   exact if_pos rfl
  ·exact ih hn.2 h hk
structure FnOk(adr:Nat→Addr)(id:Nat)(b:Body)(fd:FuncData)(body:List Stmt)(xs:List Str):Prop where
 look:∃oc od osl,U.K.lookup (adr id)=some ⟨oc,od,.func fd,osl⟩
 code:codeIn U.K fd.code fd.qualname=true
 hbody:fd.body=.stmts body
 clo:fd.closure=[]
 glob:fd.globals=mainGlobals
 bui:fd.builtins=builtinsNs
 kind:fd.scope.kind=.function
 gen:fd.scope.isGenerator=false
 co:fd.scope.isCoroutine=false
 bind:∀ys:List Value,ys.length=b.np→bindArgs fd ⟨ys,[]⟩=pure ((xs.take b.np).zip ys)
 params:∀x∈xs.take b.np,fd.scope.names.lookup x=some .local∨fd.scope.names.lookup x=some .cell
 nodup:xs.Nodup
 snodup:(fd.scope.names.map (·.1)).Nodup
 sem:∀n cf,XS n adr cf→SemB ⟨n,fd.scope,xs⟩ body (b.run cf)
theorem Qd.length{I:IMap}{γ:List Addr}{vs:List V}{ys:List Value}(h:Qd I γ vs ys):vs.length=ys.length:=by
 induction h with
 |nil=>rfl
 |cons _ _ ih=>exact congrArg (·+1) ih
theorem Qd.get{I:IMap}{γ:List Addr}{vs:List V}{ys:List Value}(h:Qd I γ vs ys):∀{i:Nat} {v:V},vs[i]?=some v→∃y,ys[i]?=some y∧VRel I γ v y:=by
 induction h with
 |nil=>exact fun e=>nomatch e
 |cons h _ ih=>
  intro i v e
  cases i with
  |zero=>cases e;exact⟨_,rfl,h⟩
  |succ i=>exact ih e
theorem Zj3{nl:Nat}{vs:List V}{i:Nat}{v:V}(h:(WM nl vs)[i]?=some (some v)):vs[i]?=some v:=by
 unfold WM at h
 by_cases hi:i<(vs.map some).length
 ·rw[List.getElem?_append_left hi,List.getElem?_map]at h
  cases e:vs[i]? with
  |none=>rw[e]at h;cases h
  |some w=>rw[e]at h;cases h;rfl
 ·rw[List.getElem?_append_right (Nat.le_of_not_lt hi),List.getElem?_replicate]at h
  split at h
  ·cases h
  ·cases h
theorem ZhW{env:Env}{L:Addr}(hf:env.frame=some L){fs:List Env}(h:A.frames=some fs):fa (A.deeper env)=L::fa A:=by
 unfold fa
 rw[Around.frames_deeper h,h]
 simp[hf]
noncomputable def Wd.enter(w:Wd A){A':Around}{L:Addr}(hfa:fa A'=L::fa A)(hL:FAt w.I w.γ w.s.heap L):Wd A':=⟨w.I,w.γ,w.σ,w.s,⟨w.b.keep,w.b.base,w.b.bg,w.b.mem,fun a h=>by
 rw[hfa]at h
 exact(List.mem_cons.mp h).elim (fun q=>q▸hL) (w.b.fr a)⟩⟩
theorem Zgb{A':Around}{w':Wd A'}{γ:List Addr}(hp:γ<+:w'.γ)(hfa:∀a∈fa A,a∈fa A'):Base A w'.I γ (w'.σ.take γ.length) w'.s:=by
 have hg:=w'.b.mem.nodup
 have hlen:=w'.b.mem.len
 have hm:=fun k a o=>@ZaO.at_ _ _ _ _ w'.b.mem k a o
 obtain⟨t,e⟩:=hp
 rw[← e]at hg hm hlen
 refine⟨w'.b.keep,w'.b.base,w'.b.bg,⟨?_,(List.nodup_append.mp hg).1,fun{k a o} h1 h2=>?_⟩,fun a h=>?_⟩
 ·rw[List.length_append]at hlen
  rw[List.length_take,← hlen];exact(Nat.min_eq_left (Nat.le_add_right _ _)).symm
 ·have hk:k<γ.length:=(List.getElem?_eq_some_iff.mp h1).1
  rw[List.getElem?_take_of_lt hk]at h2
  exact hm k a o (by rw[List.getElem?_append_left hk];exact h1) h2
 ·obtain⟨o,e1,g,i,d⟩:=w'.b.fr a (hfa a h)
  exact⟨o,e1,fun h=>g (e▸List.mem_append_left _ h),i,d⟩
noncomputable def Wd.leave{A':Around}(w':Wd A'){γ:List Addr}(hp:γ<+:w'.γ)(hfa:∀a∈fa A,a∈fa A'):Wd A:=⟨w'.I,γ,w'.σ.take γ.length,w'.s,Zgb hp hfa⟩
theorem Zjx{A':Around}{L:Addr}{Y:List Addr}{w:Wd A}{wc w':Wd A'}(hI:wc.I=w.I)(hγ:wc.γ=w.γ)(hk:∀a o,w.s.heap.get? a=some o→wc.s.heap.get? a=some o)(hfa:fa A'=L::fa A)(hL:w.s.heap.get? L=none)(hY:∀b∈Y,w.s.heap.get? b=none)(st:St Y wc w')
  (hp:w.γ<+:w'.γ) (hf:∀a∈fa A,a∈fa A'):St [] w (w'.leave hp hf):=⟨hI▸st.mono,List.prefix_refl _,fun a o e hn=>
 have p:=st.old a o (hk a o e) (hγ▸hn)
 have ne:∀{b},w.s.heap.get? b=none→a≠b:=fun hb q=>by rw[q,hb]at e;cases e
 ⟨p.lv,hn,p.i.trans (hI▸rfl),fun _=>match p.k (fun h=>ne (hY a h) rfl)with|⟨sl,q,r⟩=>⟨sl,q,fun hf=>r fun h=>(List.mem_cons.mp (hfa▸h)).elim (ne hL) hf⟩⟩⟩
theorem Zjw{A':Around}{w:Wd A}{wc w':Wd A'}{c:Addr}{t:Str}{e:Value}(x:XR wc w' c t e)(hk:∀a o,w.s.heap.get? a=some o→wc.s.heap.get? a=some o){γ:List Addr}(hp:γ<+:w'.γ)(hf:∀a∈fa A,a∈fa A'):XR w (w'.leave hp hf) c t e:=by
 cases x with|mk x h=>exact .mk x (h.imp fun a p=>⟨⟨fun h=>p.off.g (hp.subset h),p.off.i,fun h=>p.off.f (hf a h)⟩,by
  cases q:w.s.heap.get? a with
  |none=>rfl
  |some o=>have:=hk a o q;rw[p.n]at this;cases this⟩)
theorem Zgu{w:Wd A}{base:Nat}{v:V}{σ:Hp}{D:V→Wd A→Prop}{E:Value→Shared→Prop}{G:V→Prop}(k:Aft w D E ((Yb base v σ).map fun(v,σ)=>(.ok v,σ)))(k1:∀d,Aft w D E (some (.ok (.p d),σ.take base))→G (.p d))
  (k2:∀j o,base≤j→σ[j]?=some o→Aft w D E (some (.ok (.ref base),σ.take base++[o]))→G (.ref j)):G v:=by
 cases v with
 |p d=>exact k1 d k
 |dia=>exact k.elim
 |ref j=>
  unfold Yb at k
  dsimp only at k
  by_cases hk:j<base
  ·rw[if_pos hk]at k;exact k.elim
  ·rw[if_neg hk]at k
   cases e:σ[j]? with
   |none=>rw[e]at k;exact k.elim
   |some o=>rw[e]at k;exact k2 j o (Nat.le_of_not_lt hk) e k
theorem Zh7{A':Around}{w:Wd A}{w':Wd A'}{v:V}{y:Value}{Q E:Value→Shared→Prop}(hp:w.γ<+:w'.γ)(hf:∀a∈fa A,a∈fa A')(st:St [] w (w'.leave hp hf))(hnew:∀a∈w'.γ,a∉w.γ→w.s.heap.get? a=none)
  (k:KV w Q E ((Yb w.σ.length v w'.σ).map fun(v,σ)=>(.ok v,σ))) (hy:VR w' v y):Q y w'.s:=by
 have hlen:=w.b.mem.len
 refine Zgu (G:=fun v=>VR w' v y→Q y w'.s) k (fun d k hy=>?_) (fun j o hj ho k hy=>?_) hy
 ·cases hy with|p h=>exact k (w'.leave hp hf) (by show w'.σ.take _=_;rw[hlen]) st y (.p h)
 ·cases hy with
  |@ref _ a ha=>
  have hag:a∉w.γ:=fun hm=>by
   obtain⟨i,hi⟩:=List.mem_iff_getElem?.mp hm
   have hi':i<w.γ.length:=(List.getElem?_eq_some_iff.mp hi).1
   have:=(List.getElem?_inj (List.getElem?_eq_some_iff.mp (Zaq hp hi)).1 w'.b.mem.nodup).mp ((Zaq hp hi).trans ha.symm)
   rw[this,hlen]at hi'
   exact absurd (Nat.lt_of_lt_of_le hi' hj) (Nat.lt_irrefl _)
  have hmem:a∈w'.γ:=List.mem_iff_getElem?.mpr ⟨j,ha⟩
  have off:a∉(w'.leave hp hf).γ∧a∉fa A:=⟨hag,fun h=>by obtain⟨_,_,g,_⟩:=w'.b.fr a (hf a h);exact g hmem⟩
  have M:MRel (w'.leave hp hf).I (w'.leave hp hf).s.heap a o:=w'.b.mem.at_ ha ho
  exact k ((w'.leave hp hf).adoptG a o M off) (by show w'.σ.take _++_=_;rw[hlen]) (st.adoptG M off (hnew a hmem hag)) _ (by
   have h:=Wd.last (w'.leave hp hf) M off
   have e:(w'.leave hp hf).σ.length=w.σ.length:=by rw[← (w'.leave hp hf).b.mem.len];exact hlen
   rw[e]at h;exact h)
theorem ZfA{adr:Nat→Addr}{cf:CF}(hcf:XS n adr cf){id:Nat}{b:Body}{fd:FuncData}{body:List Stmt}{xs:List Str}(hb':FnOk adr id b fd body xs){w:Wd A}{vs:List V}{ys:List Value}
  (hA:AOk A (n+1)) (hv:VRs w vs ys) {Q E:Value→Shared→Prop} (k:KV w Q E (Zcc cf b vs w.σ)):wpAny MM A (call (.ref (adr id)) ys) Q E w.s:=by
 obtain⟨oc,od,osl,hlook⟩:=hb'.look
 unfold Zcc at k
 by_cases hlen:vs.length=b.np
 case neg=>rw[if_neg hlen]at k;exact k.elim
 rw[if_pos hlen]at k
 have X0:=U.KX.keeps w.K
 have hyl:ys.length=b.np:=(Qd.length hv).symm.trans hlen
 obtain⟨fs,hfs,hfr⟩:=hA.fr
 have cn:=ZaI (k:=w.s.heap.objs.size+1) (acc:=[]) hb'.snodup List.nodup_nil fun _ h=>nomatch h
 refine wpAny_call (codeAny_call_cells (o:=⟨oc,od,.func fd,osl⟩) (fd:=fd) (body:=body) (by have:=hA.dep;exact Ar.a506 this) (X0 _ _ hlook) rfl (U.lim.keeps w.K) (codeRec_of X0 hb'.code) hb'.hbody (hb'.bind ys hyl) hb'.clo ?_ ?_ hb'.co hb'.gen hb'.kind)
 ·intro p hp
  obtain⟨i,hi⟩:=List.mem_iff_getElem?.mp hp
  rw[List.getElem?_zip_eq_some]at hi
  refine(hb'.params p.1 (List.mem_iff_getElem?.mpr ⟨i,hi.1⟩)).imp (fun h=>h) fun h=>⟨h,?_⟩
  obtain⟨c,hc⟩:=Qb (k:=w.s.heap.objs.size+1) (acc:=[]) (.inl (mem_of_lookup h))
  rw[Yg cn hc];rfl
 intro s₁ X
 obtain⟨h₁,tk,hs₁,hk₁⟩:=X.done
 subst hs₁
 have hL:w.s.heap.get? w.s.heap.objs.size=none:=w.new
 have eF:(callEnvC fd w.s.heap.objs.size (adr id)).frame=some w.s.heap.objs.size:=rfl
 have eL:(callEnvC fd w.s.heap.objs.size (adr id)).locals=w.s.heap.objs.size:=rfl
 have eK:∀{x k},(callEnvC fd w.s.heap.objs.size (adr id)).kindOf x=some k→fd.scope.names.lookup x=some k:=fun h=>h
 have eC:(callEnvC fd w.s.heap.objs.size (adr id)).cells=cellsFrom (w.s.heap.objs.size+1) fd.scope.names []:=rfl
 have eS:(callEnvC fd w.s.heap.objs.size (adr id)).scope=fd.scope:=rfl
 have eG:(callEnvC fd w.s.heap.objs.size (adr id)).globals=mainGlobals:=hb'.glob
 have eB:(callEnvC fd w.s.heap.objs.size (adr id)).builtins=builtinsNs:=hb'.bui
 generalize callEnvC fd w.s.heap.objs.size (adr id)=env at X eF eL eK eC eS eG eB ⊢
 have hfa:fa (A.deeper env)=w.s.heap.objs.size::fa A:=ZhW eF hfs
 have c:=Chg.grow w hk₁
 have offL:=w.off hL
 obtain⟨oL,hoL,dL⟩:=ZdY (eL▸X.toInCall.ns)
 let wc:Wd (A.deeper env):=(w.chg h₁ tk c).enter hfa ⟨oL,hoL,offL.g,offL.i,dL⟩
 have newC:∀c∈env.cells.map (·.2),w.s.heap.get? c=none∧c≠env.locals∧∃v,h₁.IsCell c v:=fun c hc=>by
  obtain⟨p,hp,rfl⟩:=List.mem_map.mp hc
  have lt:=X.above p.1 p.2 hp
  exact⟨Heap.get?_none_of_le (Nat.le_trans X.toInCall.fresh (Nat.le_of_lt lt)),Nat.ne_of_gt lt,_,X.cell p.1 p.2 (Yg (eC▸cn) hp)⟩
 have newX:∀b∈xset env,w.s.heap.get? b=none:=fun b hb=>(List.mem_cons.mp hb).elim (fun q=>by rw[q,eL];exact hL) fun h=>(newC b h).1
 let X':Fx ⟨n,fd.scope,xs⟩:={
   A:=A.deeper env,env:=env,scope:=eS,kind:=hb'.kind,glob:=eG,bui:=eB,frame:=⟨_,eF⟩,apart:=X.apart,above:=eL▸w.above,ne:=fun c hc=>(newC c hc).2.1,
   hA:=⟨hA.hd,by have:=hA.dep;show A.depth+1+3*n+20<_;exact Ar.a507 this,by have:=hA.un;show A.units+3+40*n+400<_;exact Ar.a508 this,env::fs,Around.frames_deeper hfs,fun e he=>(List.mem_cons.mp he).elim (fun q=>q▸⟨by rw[eS,hb'.kind];decide,_,eF⟩) (hfr e)⟩,
   there:=fun{x} h=>(Qb (k:=w.s.heap.objs.size+1) (acc:=[]) (.inl (mem_of_lookup (eK h)))).elim fun c hc=>⟨c,Yg (eC▸cn) (eC▸hc)⟩}
 have hzn:(((xs.take b.np).zip ys).map (·.1)).Nodup:=by
  rw[List.map_fst_zip (by rw[hyl];exact List.length_take_le _ _)]
  exact hb'.nodup.sublist (List.take_sublist _ _)
 have par:∀{i:Nat} {x:Str} {v:V},xs[i]?=some x→(WM b.nl vs)[i]?=some (some v)→∃y,VR wc v y∧(x,y)∈(xs.take b.np).zip ys:=fun{i x v} h1 h2=>by
  have h3:=Zj3 h2
  obtain⟨y,hy,r⟩:=Qd.get hv h3
  have hi:i<b.np:=hlen▸(List.getElem?_eq_some_iff.mp h3).1
  refine⟨y,r,List.mem_iff_getElem?.mpr ⟨i,?_⟩⟩
  rw[List.getElem?_zip_eq_some]
  exact⟨by rw[List.getElem?_take_of_lt hi];exact h1,hy⟩
 have F:FR X' (WM b.nl vs) wc:=⟨⟨_,X.toInCall.ns,fun h1 h2 h3=>(par h1 h2).elim fun y h=>⟨y,ZjF hzn h.2 h3,h.1⟩⟩,fun{i x v} h1 h2 h3=>(par h1 h2).elim fun y h=>(X'.there h3).elim fun c hc=>.mk c y hc (by
  have:=X.cell _ c hc
  rwa [ZjG hzn h.2 (by show X'.env.kindOf _≠_;rw[h3];decide)]at this) h.1,fun c hc=>(newC c hc).2.2,fun c hc=>have o:=w.off (newX c hc);⟨o.g,o.i⟩⟩
 refine hb'.sem n cf hcf (X:=X') ⟨⟨fs,Around.frames_deeper hfs⟩,by show env.frame=some env.locals;rw[eF,eL]⟩ F ?_
 cases hrun:b.run cf (WM b.nl vs) w.σ with
 |none=>rw[hrun]at k;exact k.elim
 |some res=>
 obtain⟨rb,lb,σb⟩:=res
 rw[hrun]at k
 have hr:b.run cf (WM b.nl vs) wc.σ=some (rb,lb,σb):=hrun
 rw[hr]
 intro w' e st F'
 have e:w'.σ=σb:=e
 subst e
 have st:St (xset env) wc w':=st
 have hf:∀a∈fa A,a∈fa (A.deeper env):=fun a h=>hfa▸List.mem_cons_of_mem _ h
 have back:∀{Y:List Addr} {w'':Wd (A.deeper env)} (st:St Y wc w''),(∀b∈Y,w.s.heap.get? b=none)→St [] w (w''.leave st.pre hf):=fun st hY=>Zjx (wc:=wc) (w:=w) rfl rfl hk₁ hfa hL hY st st.pre hf
 have hlt:∀w'':Wd (A.deeper env),w''.σ.take w.γ.length=w''.σ.take w.σ.length:=fun w''=>by rw[w.b.mem.len]
 cases rb with
 |ok o=>
  cases o with
  |next=>exact k (w'.leave st.pre hf) (hlt w') (back st newX) _ (.p .none)
  |ret v=>
   refine fun y hy=>Zh7 (A:=A) (w:=w) (w':=w') st.pre hf (back st newX) (fun a hm hn=>?_) k hy
   cases q:w.s.heap.get? a with
   |none=>rfl
   |some o=>exact absurd hm (st.old a o (hk₁ a o q) hn).g
 |exc ce t=>
  intro e x
  refine wpAny_bind (Zea X'.hA (Around.frames_deeper hfs) eF (fun a hn e=>st.there (List.prefix_refl _) hn e) x fun Z w₂ e₂ st₂ p₂ x₂ nt=>WN x₂ fun Z' w₃ e₃ st₃ p₃ x₃=>?_)
  have st3:=(St.nudge st p₂ st₂).nudge p₃ st₃
  exact k (w₃.leave st3.pre hf) ((hlt w₃).trans (by rw[e₃,e₂])) (back st3 newX) e (Zjw x₃ hk₁ st3.pre hf)
theorem ZgM{adr:Nat→Addr}{tab:Nat→Option Body}(ht:∀id b,tab id=some b→∃fd body xs,FnOk adr id b fd body xs)(n:Nat):XS n adr (Zg tab n):=by
 induction n with
 |zero=>intro A w id vs ys hA hv Q E k;rw[ZlP]at k;exact k.elim
 |succ n ih=>
  intro A w id vs ys hA hv Q E k
  rw[Zc2]at k
  cases e:tab id with
  |none=>rw[e]at k;exact k.elim
  |some b=>
   rw[e]at k
   obtain⟨fd,body,xs,h⟩:=ht id b e
   exact ZfA ih h hA hv k
end
section
open PySem PySem.W PySem.Calls PyProof.Rows Builtin Builtin.ObjectAttr
set_option genInjectivity false
set_option maxRecDepth 100000
noncomputable abbrev ZQ(W:Addr):List Value:=[.ref W,.type "Exception",.type "BaseException",.type "object"]
structure XC where
 nm:Str
 q:Str
 N:Addr
 bs:List Value
 sn:List Str
 sub:List Value
 ab:Bool
 col:Option Bool
 dd:Option Addr
 k0:Option Value
 k1:Option Value
 k2:Option Value
 k3:Option Value
 k5:Option Value
noncomputable abbrev XC.obj(x:XC)(C W:Addr):Obj:=excClassObj x.nm x.q C x.N x.bs (ZQ W) true x.sn x.sub x.ab x.col x.dd x.k0 x.k1 x.k2 x.k3 x.k5 "Exception.__new__"
noncomputable abbrev WT(C t:Addr):Obj:={cls:=.ref C,data:=.fields #[.ref t,.none,.none,.none,.bool false,.none]}
structure Znm(h h':Heap)(e C:Addr)(args:List Value):Prop where
 keeps:∀b o,h.get? b=some o→h'.get? b=some o
 new:h.get? e=none
 there:∃t,h'.get? e=some (WT C t)∧h.get? t=none∧h'.get? t=some {cls:=.type "tuple",data:=.seq args.toArray}
section
variable{prog:Program}{w:World}{A:Around}{E:Value→Shared→Prop}{h:Heap}{g:Array GenState}{d:Drawn}{t:Nat}{os:OsState}
variable{xc:XC}{C W:Addr}
theorem Zd0{M:Model}{rest:List Value}{Q:Unit→Shared→Prop}(hC:h.get? C=some (xc.obj C W))
  (hq:Q () ⟨h,g,d,t,os⟩):wpAny M A (checkBuiltinCall "Exception.__new__" ⟨.ref C::rest,[]⟩) Q E ⟨h,g,d,t,os⟩:=by
 have F:=PySem.F.excBase_Exception
 have hcont:(Value.ref C::ZQ W).contains (.type "Exception")=true:=by simp[ZQ]
 have hstar:=F.noStar
 simp only[checkBuiltinCall,F.newKind,F.newSplit,F.newRow]
 repeat(first|refine wpAny_loadPart_at hC ?_|(refine wpAny_isSubtype_exc hC ?_;rw[hcont])|refine wpAny_staticBase_exc hC ?_|refine wpAny_madeBy_exc hC ?_|simp only[bne_self_eq_false,Bool.false_eq_true,if_false]|wp_step)
 exact hq
theorem ZlK{R:Result→Shared→Prop}{rest:List Value}(hC:h.get? C=some (xc.obj C W))
  (hq:R (.ok (.ret (.ref (h.objs.size+1)))) ⟨(h.push {cls:=.type "tuple",data:=.seq rest.toArray}).push (WT C h.objs.size),g,d,t,os⟩) (hrest:rest.length≤sizeLine):
  codeAny (model prog w) A (.builtin "Exception.__new__" ⟨.ref C::rest,[]⟩) R ⟨h,g,d,t,os⟩:=by
 have F:=PySem.F.excBase_Exception
 have hends:=F.ends
 have hcB:(Value.ref C::ZQ W).contains (.type "Exception")=true:=by simp[ZQ]
 have hcA:(Value.ref C::ZQ W).contains (.type "AttributeError")=false:=by simp[ZQ]
 have hcN:(Value.ref C::ZQ W).contains (.type "NameError")=false:=by simp[ZQ]
 refine codeAny_builtinAt F.entry ?_
 unfold Builtin.«BaseException.__new__»
 refine PySem.wpAt_bind ?_
 show PySem.wpAt _ _ _ (stack>>=_) _ _ _
 refine PySem.wpAt_bind (PySem.wpAt_stack fun p below=>PySem.wpAt_of_wpAny ?_)
 wp_walk
 refine PySem.wpAt_of_wpAny ?_
 rw[F.owner]
 repeat(first|with_reducible refine wpAny_madeHere_exc F.canon hC ?_|with_reducible refine wpAny_loadPart_at hC ?_|(with_reducible refine wpAny_isSubtype_exc hC ?_;first|rw[hcB]|rw[hcA]|rw[hcN])|wp_step)
 show R _ _
 rw[Heap.size_push]
 exact hq
theorem Zdz{rest:List Value}{fI:Addr}{Q:Fin→Shared→Prop}(hC:h.get? C=some (xc.obj C W))
  (hi:Looks (model prog w) h (typeLookup (.ref C) "__init__") (some (.ref fI))) (hf:Looks (model prog w) h (typeOf (.ref fI)) (.type "function"))
  (hq:∀h' e,Znm h h' e C rest→wpAny (model prog w) A (call (.ref fI) (.ref e::rest)) (fun r s'=>r=.none∧Q (.done (.ret (.ref e))) s') E ⟨h',g,d,t,os⟩) (hrest:rest.length≤sizeLine):
  wpAny (model prog w) A (Builtin.«type.__call__» ⟨.ref C::rest,[]⟩) Q E ⟨h,g,d,t,os⟩:=by
 repeat(first|with_reducible refine wpAny_loadPart_at hC ?_|with_reducible refine wpAny_madeBy_exc hC ?_|wp_step)
 refine codeAny_call_builtin_code (Code.quiet_builtin _ PySem.F.excBase_Exception.quiet) (Zd0 hC ?_)
 refine ZlK hC ?_ hrest
 show wpAny _ _ _ _ _ _
 have k:∀b o,h.get? b=some o→((h.push {cls:=.type "tuple",data:=.seq rest.toArray}).push (WT C h.objs.size)).get? b=some o:=fun b o e=>Heap.get?_push_of_some _ (Heap.get?_push_of_some _ e)
 have hC₁:=k _ _ hC
 have hget:((h.push {cls:=.type "tuple",data:=.seq rest.toArray}).push (WT C h.objs.size)).get? (h.objs.size+1)=some (WT C h.objs.size):=by heap_get
 have hcC:(Value.ref C::ZQ W).contains (.ref C)=true:=by simp
 unfold isInstance
 repeat(first|with_reducible refine wpAny_loadPart_at hget ?_|(with_reducible refine wpAny_isSubtype_exc hC₁ ?_;rw[hcC])|wp_step)
 refine hi _ _ _ _ k ?_
 refine wpAny_holding (wpAny_bind ?_)
 unfold bindSpecial
 refine wpAny_bind (hf _ _ _ _ k ?_)
 rw[if_pos (by decide)]
 refine wpAny_pure (wpAny_bind (wpAny_mono (hq _ (h.objs.size+1) ⟨k,Heap.get?_none_of_le (Nat.le_succ _),h.objs.size,hget,Heap.get?_none_of_le (Nat.le_refl _),?_⟩) (fun r s' hr=>?_) fun _ _ x=>x))
 ·exact Heap.get?_push_of_some _ (Heap.get?_push_at rfl rfl)
 ·obtain⟨rfl,hQ⟩:=hr
  wp_walk
  exact hQ
theorem ZjA{rest:List Value}{fI:Addr}{Q:Value→Shared→Prop}(hC:h.get? C=some (xc.obj C W))
  (hi:Looks (model prog w) h (typeLookup (.ref C) "__init__") (some (.ref fI))) (hf:Looks (model prog w) h (typeOf (.ref fI)) (.type "function"))
  (hq:∀h' e,Znm h h' e C rest→wpAny (model prog w) (A.under (.builtin "type.__call__" ⟨.ref C::rest,[]⟩)) (call (.ref fI) (.ref e::rest)) (fun r s'=>r=.none∧Q (.ref e) s') E ⟨h',g,d,t,os⟩) (hrest:rest.length≤sizeLine):
  wpAny (model prog w) A (call (.ref C) rest) Q E ⟨h,g,d,t,os⟩:=by
 have f1:=tc_lookup
 have f2:=tc_bind (.ref C)
 have hT:(⟨h,g,d,t,os⟩:Shared).TypeIs (.ref C) "type":=⟨_,hC,rfl⟩
 refine wpAny_call (codeAny_of_tree ?_)
 show wpAny _ _ (callAny (.ref C) _) _ _ _
 repeat(any_goals (first|assumption|with_reducible refine wpAny_loadPart_at hC ?_|wp_step))
 refine⟨rfl,?_⟩
 exact codeAny_call_builtin_at (Code.quiet_builtin _ (by decide+kernel)) entry_typeCall (wpAny_check_type_call_sub hC (Zdz hC hi hf (fun h' e hm=>hq h' e hm) hrest))
end
section
variable{prog:Program}{w:World}{A:Around}{E:Value→Shared→Prop}{s:Shared}{K:Frag}
theorem ZgI{h:Heap}{d:Addr}{o o':Obj}{f:Obj→Obj}(hd:h.get? d=some o)(e:f o=o')(hf:o'.isFreed=false):(h.update d f).get? d=some o':=by
 rw[Heap.get?_update_self _ hd (by rw[e];exact hf),e]
theorem Zeu{d:Addr}{es es':List DictEntry}{n n':Nat}{name:Str}{tk:Tok}{v:Value}{Q:Fin→Shared→Prop}(hd:s.heap.get? d=some (dictOf es n))(hr:es.any (·.refKey)=false)
  (e:Obj.putName name (PyData.keyHash w.params name) (.str name s.toks) v (dictOf es n)=dictOf es' n') (hz:es'.length≤1000)
  (h:∀h',h'.get? d=some (dictOf es' n')→(∀b,b≠d→h'.get? b=s.heap.get? b)→Q (.done (.ret .none)) {s with heap:=h',toks:=s.toks+1}):
  wpAny (model prog w) A (storeInDict d (.str name tk) name v) Q E s:=by
 unfold storeInDict newKeyGuard
 refine wpAny_bind (wpAny_pure (wpAny_bind ?_))
 unfold nsSet
 refine wpAny_bind (wpAny_bind (wpAny_askSetting (wpAny_pure (wpAny_bind (wpAny_mkText (wpAny_bind (wpAny_loadPart hd ?_)))))))
 dsimp only
 have c:(!es.toArray.any (·.key.isStr name)&&es.toArray.any (·.refKey))=false:=by
  rw[← Array.any_toList,← Array.any_toList]
  simp[hr]
 rw[aRefKeyMayBeTheName_at,c]
 refine wpAny_updatePart hd ?_
 have hd':(s.heap.update d (Obj.putName name (PyData.keyHash w.params name) (.str name s.toks) v)).get? d=some (dictOf es' n'):=ZgI hd e rfl
 refine wpAny_bind (wpAny_lookBehind hd' (by exact pastItsLine_dict (by rw[List.size_toArray,sizeLine_eq];exact Ar.n1 (.im (.l (.v 0) (.k 1000)) (.l (.v 0) (.p (.k 16777216) (.k 1)))) (by kernel_rfl) hz)) ?_)
 exact wpAny_pure (h _ hd' fun b hb=>Heap.get?_update_other _ _ (Ne.symm hb))
theorem Zic{x C W:Addr}{ox:Obj}{cd:ClassData}{name:Str}{tk:Tok}{v:Value}{R:Result→Shared→Prop}(X:K.In s.heap)(hx:s.heap.get? x=some ox)(hcl:ox.cls=.ref C)
  (hc:clsIn K C=some cd) (hm:cd.mro=.ref C::ZQ W) (ht:findIn K (.ref C) name=some none)
  (h:wpAny (model prog w) A.in1 (storeInOwnDict (.ref x) (.ref C) (.str name tk) name v false)
   (fun fin s'=>match fin with| .done f=>R (.ok f) s'| .again c'=>c'.quiet=true∧codeAny (model prog w) A c' R s') (fun e s'=>R (.error e) s') s):
  codeAny (model prog w) A (.call (.builtin "object.__setattr__") ⟨[.ref x,.str name tk,v],[]⟩) R s:=by
 have SF:=PySem.F.store_object
 have ne:cd.mro.isEmpty=false:=by rw[hm];rfl
 have ty:Looks (model prog w) s.heap (typeOf (.ref x)) (.ref C):=hcl▸(Looks.ld hx).andThen .now
 have sub:Looks (model prog w) s.heap (isInstance (.ref x) (.type "object")) true:=ty.andThen (looks_mroIn X (by unfold mroIn;rw[hc,Option.bind_some,if_neg (by rw[ne];decide),hm];simp[ZQ]))
 refine codeAny_call_builtin SF.slot.plain SF.entry (@check_slot (model prog w) _ _ s "object.__setattr__" "object" "__setattr__" (.ref x) [.str name tk,v] [] _ SF.kind SF.split sub (SF.args (.ref x) (.str name tk) v) ?_)
 have hml:Looks (model prog w) s.heap (mroOf (.ref C)) cd.mro:=(looks_clsIn X hc).andThen .now
 rw[osa_eq,refuse_eq]
 refine wpAny_bind (wpAny_bind (ty.here (wpAny_bind (hml.here ?_))))
 rw[hm,ZQ,refuseLoop_ref,refuseLoop_ref,PySem.F.store_Exception.passes]
 refine wpAny_pure (wpAny_bind (ty.here (wpAny_bind ((looks_findIn X ht).here ?_))))
 exact wpAny_bind (wpAny_pure h)
theorem ZmZ{M:Model}{x C:Addr}{ox:Obj}{h:Heap}(hx:h.get? x=some ox)(hcl:ox.cls=.ref C):Looks M h (typeOf (.ref x)) (.ref C):=hcl▸(Looks.ld hx).andThen .now
theorem Zia{x C:Addr}{ox:Obj}{name:Str}{v:Value}{Q:Unit→Shared→Prop}(X:K.In s.heap)(hx:s.heap.get? x=some ox)(hcl:ox.cls=.ref C)
  (hs:findIn K (.ref C) "__setattr__"=some (some (.builtin "object.__setattr__")))
  (h:codeAny (model prog w) A (.call (.builtin "object.__setattr__") ⟨[.ref x,.str name s.toks,v],[]⟩) (fun r s'=>match r with| .ok (.ret _)=>Q () s'| .ok _=>False| .error e=>E e s') {s with toks:=s.toks+1}):
  wpAny (model prog w) A (setAttr (.ref x) name v) Q E s:=by
 refine wpAny_bind (wpAny_mkText (wpAny_bind (wpAny_bind (wpAny_bind (ZmZ hx hcl _ _ _ _ (fun _ _ e=>e) (looks_findIn X hs _ _ _ _ (fun _ _ e=>e) (wpAny_holding ?_)))))))
 rw[PySem.F.store_object.slot.bind]
 refine wpAny_bind (wpAny_pure (wpAny_bind (wpAny_call (codeAny_mono h fun r s' z=>?_))))
 rcases r with e|(v|_|_|_)<;>first|exact z|exact wpAny_pure (wpAny_pure z)
theorem Zgn{x C W:Addr}{ox:Obj}{vs:Array Value}{cd:ClassData}{name:Str}{v:Value}{Q:Unit→Shared→Prop}{es':List DictEntry}{n':Nat}(X:K.In s.heap)(hx:s.heap.get? x=some ox)(hcl:ox.cls=.ref C)(hdt:ox.data=.fields vs)
  (hno:ox.dict=none) (hs:findIn K (.ref C) "__setattr__"=some (some (.builtin "object.__setattr__"))) (hc:clsIn K C=some cd) (hm:cd.mro=.ref C::ZQ W) (hh:cd.hasDict=true) (ht:findIn K (.ref C) name=some none)
  (e:∀t,Obj.putName name (PyData.keyHash w.params name) (.str name t) v emptyDict=dictOf (es'++[⟨PyData.keyHash w.params name,.str name t,v⟩]) n') (hz:es'.length≤999)
  (h:∀h' d t t',s.heap.get? d=none→h'.get? d=some (dictOf (es'++[⟨PyData.keyHash w.params name,.str name t,v⟩]) n')→h'.get? x=some {ox with dict:=some d}→(∀b,b≠d→b≠x→∀o,s.heap.get? b=some o→h'.get? b=some o)→Q () {s with heap:=h',toks:=t'}):
  wpAny (model prog w) A (setAttr (.ref x) name v) Q E s:=by
 refine Zia X hx hcl hs ?_
 refine Zic (s:={s with toks:=s.toks+1}) X hx hcl hc hm ht ?_
 obtain⟨hp,g,dr,tk,os⟩:=s
 dsimp only at X hx h ⊢
 obtain⟨oc,odi,oda,osl⟩:=ox
 dsimp only at hcl hno hdt
 subst hcl hno hdt
 refine wpAny_bind (wpAny_pure (wpAny_bind (wpAny_bind (wpAny_loadPart hx (wpAny_bind ((looks_clsIn X hc).here ?_))))))
 rw[hh]
 have hxs:x≠hp.objs.size:=Nat.ne_of_lt (Heap.lt_size hx)
 have hx₁:(hp.push {cls:=.type "dict",data:=.dict #[]}).get? x=some ⟨.ref C,none,.fields vs,osl⟩:=Heap.get?_push_of_some _ hx
 refine wpAny_bind (wpAny_alloc' ?_)
 refine wpAny_bind (wpAny_update' hx₁ ?_)
 refine wpAny_pure (a:=some hp.objs.size) ?_
 have hgd:((hp.push {cls:=.type "dict",data:=.dict #[]}).update x fun o=>{cls:=o.cls,dict:=some hp.objs.size,data:=o.data,slots:=o.slots}).get? hp.objs.size=some emptyDict:=
  (Heap.get?_update_ne _ _ _ _ hxs.symm).trans (Heap.get?_push_at rfl rfl)
 refine Zeu (es:=[]) (n:=0) hgd rfl (e _) (by simp;exact Ar.n1 (.im (.l (.v 0) (.k 999)) (.l (.v 0) (.k 999))) (by kernel_rfl) hz) fun h' hd' ho'=>?_
 refine h h' hp.objs.size _ _ (Heap.get?_none_of_le (Nat.le_refl _)) hd' ?_ fun b hb hbx o hbo=>?_
 ·rw[ho' x hxs]
  exact ZgI hx₁ rfl rfl
 ·rw[ho' b hb,Heap.get?_update_ne _ _ _ _ hbx]
  exact Heap.get?_push_of_some _ hbo
theorem Zgm{x C W d:Addr}{ox:Obj}{vs:Array Value}{cd:ClassData}{name:Str}{v:Value}{Q:Unit→Shared→Prop}{es:List DictEntry}{n:Nat}(X:K.In s.heap)(hx:s.heap.get? x=some ox)(hcl:ox.cls=.ref C)(hdt:ox.data=.fields vs)
  (hdi:ox.dict=some d) (hd:s.heap.get? d=some (dictOf es n)) (hr:es.any (·.refKey)=false) (hs:findIn K (.ref C) "__setattr__"=some (some (.builtin "object.__setattr__"))) (hc:clsIn K C=some cd) (hm:cd.mro=.ref C::ZQ W) (hh:cd.hasDict=true)
  (ht:findIn K (.ref C) name=some none) (e:∀t,∃es' n',es'.length≤1000∧Obj.putName name (PyData.keyHash w.params name) (.str name t) v (dictOf es n)=dictOf es' n')
  (h:∀h' es' n' t t',Obj.putName name (PyData.keyHash w.params name) (.str name t) v (dictOf es n)=dictOf es' n'→h'.get? d=some (dictOf es' n')→(∀b,b≠d→h'.get? b=s.heap.get? b)→Q () {s with heap:=h',toks:=t'}):
  wpAny (model prog w) A (setAttr (.ref x) name v) Q E s:=by
 refine Zia X hx hcl hs ?_
 refine Zic (s:={s with toks:=s.toks+1}) X hx hcl hc hm ht ?_
 obtain⟨hp,g,dr,tk,os⟩:=s
 dsimp only at X hx h hd ⊢
 obtain⟨oc,odi,oda,osl⟩:=ox
 dsimp only at hcl hdi hdt
 subst hcl hdi hdt
 refine wpAny_bind (wpAny_pure (wpAny_bind (wpAny_bind (wpAny_loadPart hx (wpAny_bind ((looks_clsIn X hc).here ?_))))))
 rw[hh]
 refine wpAny_pure (a:=some d) ?_
 obtain⟨es',n',hz,e'⟩:=e (tk+1)
 exact Zeu (n':=n') hd hr e' hz fun h' hd' ho'=>h h' es' n' _ _ e' hd' ho'
end
theorem Zev{prog:Program}{w:World}{A:Around}{E:Value→Shared→Prop}{s:Shared}{K:Frag}{x C W:Addr}{ox:Obj}{od:Option Obj}{cd:ClassData}{name:Str}{v:Value}{Q:Value→Shared→Prop}
  (X:K.In s.heap) (I:InstAt s.heap x ox C od) (hg:Zif K C=true) (hc:clsIn K C=some cd) (hm:cd.mro=.ref C::ZQ W)
  (hf:findObj K C od name=some (.value v)) (hh:handedIn v=true) (h:Q v {s with toks:=s.toks+1}):wpAny (model prog w) A (getAttr (.ref x) name true) Q E s:=by
 obtain⟨g1,g2⟩:=Bool.and_eq_true_iff.mp hg
 have g1:=beq_iff_eq.mp g1
 have g2:=beq_iff_eq.mp g2
 obtain⟨hp,g,d,t,os⟩:=s
 dsimp only at X I h
 have ne:cd.mro.isEmpty=false:=by rw[hm];rfl
 have L0:=I.type (M:=model prog w)
 have L1:=looks_findIn (M:=model prog w) X g1
 have L2:=looks_findIn (M:=model prog w) X g2
 have L3:=looks_find (M:=model prog w) X I hf
 have sub:Looks (model prog w) hp (isInstance (.ref x) (.type "BaseException")) true:=L0.andThen (looks_mroIn X (by unfold mroIn;rw[hc,Option.bind_some,if_neg (by rw[ne];decide),hm];simp[ZQ]))
 have SF:=PySem.F.excAttr_ValueError.ga
 have hx2:(Value.builtin "BaseException.__getattribute__"==Value.builtin "object.__getattribute__")=false:=by decide+kernel
 have hk:builtinKind "BaseException.__getattribute__"=some .slot:=by decide+kernel
 have hsplit:splitId "BaseException.__getattribute__"=some ("BaseException","__getattribute__"):=by decide+kernel
 unfold getAttr getAttrBy
 refine wpAny_bind (wpAny_mkText (wpAny_holding (wpAny_bind (L0.at (wpAny_bind (L1.at ?_))))))
 dsimp only
 rw[hx2,Bool.and_false,if_neg (by decide)]
 unfold getAttrByItsOwn hookBefore
 refine wpAny_bind (L2.at (wpAny_bind (wpAny_attempt (wpAny_holding ?_))))
 unfold callGetattribute
 rw[show(true&&onTheHeap (Value.builtin "BaseException.__getattribute__"))=false from rfl,if_neg (by decide)]
 unfold boundAndCalled
 rw[SF.bind]
 refine wpAny_bind (wpAny_pure (wpAny_call ?_))
 refine codeAny_call_builtin SF.plain PySem.F.entry_bexc_ga (@check_slot (model prog w) _ _ _ "BaseException.__getattribute__" "BaseException" "__getattribute__" (.ref x) _ [] _ hk hsplit sub (PySem.F.args_bexc_ga _ _) ?_)
 unfold Builtin.«object.__getattribute__»
 refine wpAny_bind (wpAny_pure (wpAny_bind (wpAny_pure (wpAny_bind (L0.at (wpAny_bind (L3.at ?_)))))))
 refine wpAny_pure ?_
 show wpAny _ _ (handedOut v) _ _ _
 rw[handedOut_of hh]
 exact wpAny_pure h
noncomputable def Zcn:List Stmt:=
 [.Expr (.Call (.Attribute (.Name "Exception" ⟨5,8,5,17⟩) "__init__" ⟨5,8,5,26⟩) [.Name "self" ⟨5,27,5,31⟩,.Name "why" ⟨5,33,5,36⟩] [] ⟨5,8,5,37⟩) ⟨5,8,5,37⟩,
  .Assign [.Attribute (.Name "self" ⟨6,8,6,12⟩) "why" ⟨6,8,6,16⟩] (.Name "why" ⟨6,19,6,22⟩) ⟨6,8,6,22⟩,
  .Assign [.Attribute (.Name "self" ⟨7,8,7,12⟩) "at" ⟨7,8,7,15⟩] (.UnaryOp .USub (.Constant (.int 1) 0 ⟨7,19,7,20⟩) ⟨7,18,7,20⟩) ⟨7,8,7,20⟩]
structure FnD(fI:Addr)(oc:Value)(od:Option Addr)(osl:_)(fd:FuncData)(body:List Stmt)(p1 p2:Str):Prop where
 look:U.K.lookup fI=some ⟨oc,od,.func fd,osl⟩
 code:codeIn U.K fd.code fd.qualname=true
 body:fd.body=.stmts body
 glob:fd.globals=mainGlobals
 bui:fd.builtins=builtinsNs
 kind:fd.scope.kind=.function
 gen:fd.scope.isGenerator=false
 co:fd.scope.isCoroutine=false
 bind:∀a b:Value,bindArgs fd ⟨[a,b],[]⟩=pure [(p1,a),(p2,b)]
 n1:fd.scope.names.lookup p1=some .local
 n2:fd.scope.names.lookup p2=some .local
 cell:∀x∈fd.scope.names,x.2≠.cell
structure ExcC(x:Str)(C W fI:Addr):Prop where
 glob:nsIn U.K mainGlobals x=some (some (.ref C))
 keep:keepIn U.K (.ref C)=true
 obj:∃xc:XC,U.K.lookup C=some (xc.obj C W)
 init:findIn U.K (.ref C) "__init__"=some (some (.ref fI))
 fn:typeIn U.K (.ref fI)=some (.type "function")
 sa:findIn U.K (.ref C) "__setattr__"=some (some (.builtin "object.__setattr__"))
 why:findIn U.K (.ref C) "why"=some none
 at_:findIn U.K (.ref C) "at"=some none
 get:Zif U.K C=true
 exc:findCls U.K (.type "Exception") (.type "type") "__init__"=some (.val (.builtin "Exception.__init__"))
 glo:nsIn U.K mainGlobals "Exception"=some none
 bui:bootBuiltins "Exception"=some (.type "Exception")
 fdat:∃oc od osl fd,FnD fI oc od osl fd Zcn "self" "why"∧fd.scope.names.lookup ("Exception":Str)=some .globalImplicit
section
theorem Zd1{prog:Program}{w:World}{A:Around}{E:Value→Shared→Prop}{s:Shared}{xc:XC}{C W e t:Addr}{v:Value}{Q:Value→Shared→Prop}
  (hC:s.heap.get? C=some (xc.obj C W)) (he:s.heap.get? e=some (WT C t))
  (h:∀h' t',h'.get? e=some (WT C t')→(∀b o,b≠e→s.heap.get? b=some o→h'.get? b=some o)→Q .none {s with heap:=h'}):
  wpAny (model prog w) A (call (.builtin "Exception.__init__") [.ref e,v]) Q E s:=by
 have F:=PySem.F.excBase_Exception
 obtain⟨hp,g,d,tk,os⟩:=s
 dsimp only at hC he h
 refine wpAny_call (codeAny_call_builtin F.init.plain F.initEntry ?_)
 have hcB:(Value.ref C::ZQ W).contains (.type "Exception")=true:=by simp[ZQ]
 have hshort:=F.noStar
 have chk:∀{A:Around} {M:Model} {Q:Unit→Shared→Prop} {E:Value→Shared→Prop},Q () ⟨hp,g,d,tk,os⟩→wpAny M A (checkBuiltinCall "Exception.__init__" ⟨[.ref e,v],[]⟩) Q E ⟨hp,g,d,tk,os⟩:=fun{A M Q E} hq=>by
  simp only[checkBuiltinCall,F.initKind,F.initSplit,F.initRow]
  repeat(first|with_reducible refine wpAny_loadPart_at he ?_|with_reducible refine wpAny_loadPart_at hC ?_|(with_reducible refine wpAny_isSubtype_exc hC ?_;rw[hcB])|wp_step)
  exact hq
 refine chk ?_
 wp_walk
 refine h _ hp.objs.size ?_ fun b o hb hbo=>?_
 ·have he':(hp.push {cls:=.type "tuple",data:=.seq #[v]}).get? e=some (WT C t):=Heap.get?_push_of_some _ he
  exact ZgI he' rfl rfl
 ·rw[Heap.get?_update_other _ _ (Ne.symm hb)]
  exact Heap.get?_push_of_some _ hbo
end
noncomputable abbrev Zei(C d t:Addr):Obj:={cls:=.ref C,dict:=some d,data:=.fields #[.ref t,.none,.none,.none,.bool false,.none]}
theorem Zau{h h':Heap}{L e:Addr}{m:Str→Option Value}(x:h.Ns L m)(hne:L≠e)(k:∀b o,b≠e→h.get? b=some o→h'.get? b=some o):h'.Ns L m:=by
 obtain⟨o,es,ep,ho,hd,r⟩:=x
 exact⟨o,es,ep,k _ _ hne ho,hd,r⟩
theorem Zki(h₀ h:Int)(t:Tok)(k v₀ v:Value):Obj.putName "at" h k v (dictOf [⟨h₀,.str "why" t,v₀⟩] 1)=dictOf [⟨h₀,.str "why" t,v₀⟩,⟨h,k,v⟩] 2:=by kernel_rfl
theorem ZlD(h₀ h:Int)(t:Tok)(t':Tok)(v₀ v:Value):getL "why" [⟨h₀,.str "why" t,v₀⟩,⟨h,.str "at" t',v⟩]=some (some v₀):=by kernel_rfl
section
set_option maxHeartbeats 4000000 in
theorem ZjB{x:Str}{C W fI:Addr}(X:ExcC x C W fI){A:Around}{E:Value→Shared→Prop}{s:Shared}(hdep:A.depth<recursionLimit)(hK:∀a o,U.h₀.get? a=some o→s.heap.get? a=some o){e t:Addr}(he:s.heap.get? e=some (WT C t))(hne:U.h₀.get? e=none)
  {wv:Str} {tk:Tok} {Q:Value→Shared→Prop}
  (hq:∀h' tk',(∀b o,b≠e→s.heap.get? b=some o→h'.get? b=some o)→(∃d t' es n t,h'.get? e=some (Zei C d t')∧h'.get? d=some (dictOf es n)∧getL "why" es=some (some (.str wv t))∧s.heap.get? d=none)→Q .none {s with heap:=h',toks:=tk'}):
  wpAny (MM) A (call (.ref fI) [.ref e,.str wv tk]) Q E s:=by
 obtain⟨oc,od,osl,fd,D,hs3⟩:=X.fdat
 obtain⟨xc,hobj⟩:=X.obj
 have X0:=U.KX.keeps hK
 refine wpAny_call (codeAny_call_def (o:=⟨oc,od,.func fd,osl⟩) (fd:=fd) hdep (X0 _ _ D.look) rfl (U.lim.keeps hK) (codeRec_of X0 D.code) D.body (BindsTo.of_eq (D.bind _ _)) D.cell ?_ ?_ D.co D.gen D.kind)
 ·intro p hp
  rcases List.mem_cons.mp hp with rfl|hp
  ·exact D.n1
  ·rcases List.mem_cons.mp hp with rfl|hp
   ·exact D.n2
   ·cases hp
 intro h₀ hns hkeep
 generalize hA':A.deeper (callEnv fd s.heap.objs.size fI)=A'
 have hLe:s.heap.objs.size≠e:=Nat.ne_of_gt (Heap.lt_size he)
 have hself:(callEnv fd s.heap.objs.size fI).kindOf ("self":Str)=some .local:=D.n1
 have hwhy:(callEnv fd s.heap.objs.size fI).kindOf ("why":Str)=some .local:=D.n2
 have m1:(([((("self":Str)),Value.ref e),("why",.str wv tk)]:List (Str×Value)).reverse.lookup ("self":Str))=some (.ref e):=rfl
 have m2:(([((("self":Str)),Value.ref e),("why",.str wv tk)]:List (Str×Value)).reverse.lookup ("why":Str))=some (.str wv tk):=rfl
 generalize hm:(fun x=>([((("self":Str)),Value.ref e),("why",.str wv tk)]:List (Str×Value)).reverse.lookup x)=m at hns
 have m1:m "self"=some (.ref e):=by rw[← hm];exact m1
 have m2:m "why"=some (.str wv tk):=by rw[← hm];exact m2
 have he₀:=hkeep _ _ he
 have hCne:C≠e:=fun q=>by rw[q]at hobj;have:=U.KX _ _ hobj;rw[hne]at this;cases this
 have K₀:∀a o,U.h₀.get? a=some o→h₀.get? a=some o:=fun a o q=>hkeep _ _ (hK _ _ q)
 unfold Zcn
 refine wpAny_execs_cons ?_
 refine PySem.wpAny_Expr_any ?_ (by simp[interactive,callEnv,newEnv,D.kind]) (by rfl)
 refine MethodCall_ (pl:=_) (wpAny_Name (Qt D.kind D.glob D.bui K₀ hs3 (.inr ⟨X.glo,X.bui,by decide⟩) ?_) (by decide)) (by rfl)
 have Fr1:Fr s.heap s.heap.objs.size h₀ m:=⟨hns,hkeep,Nat.le_refl _⟩
 refine method_type Fr1 X0 (by rfl) (by decide+kernel) X.exc (by rfl) ?_
 refine YE (by rfl) (by rfl) ?_
 refine Calls.spliced_cons (ldc D.kind hself hns m1 ?_)
 refine spliced_more (ldc D.kind hwhy hns m2 ?_)
 refine Calls.spliced_nil ?_
 refine Zd1 (U.KX.keeps K₀ _ _ hobj) he₀ fun h₁ t₁ he₁ hk₁=>?_
 have ns₁:=Zau hns hLe hk₁
 have K₁:∀a o,U.h₀.get? a=some o→h₁.get? a=some o:=fun a o q=>hk₁ _ _ (fun z=>by rw[z,hne]at q;cases q) (K₀ _ _ q)
 obtain⟨cd,cls,hmro,hhd⟩:∃cd,clsIn U.K C=some cd∧cd.mro=.ref C::ZQ W∧cd.hasDict=true:=⟨_,by unfold clsIn;rw[hobj],rfl,rfl⟩
 refine wpAny_execs_cons (plainObj_wpAny_Assign_Attribute (ldc D.kind hwhy ns₁ m2 (ldc D.kind hself ns₁ m1 ?_)) (by rfl))
 refine Zgn (es':=[]) (n':=1) (U.KX.keeps K₁) he₁ rfl rfl rfl X.sa cls hmro hhd X.why (fun _=>by rfl) (by simp) fun h₂ d t₂ tk₂ hd₁ hd₂ he₂ hk₂=>?_
 have hLd:s.heap.objs.size≠d:=fun q=>by obtain⟨o,_,_,ho,_⟩:=ns₁;rw[← q,ho]at hd₁;cases hd₁
 have ns₂:h₂.Ns s.heap.objs.size m:=by
  obtain⟨o,es,ep,ho,hd,r⟩:=ns₁
  exact⟨o,es,ep,hk₂ _ hLd hLe _ ho,hd,r⟩
 have K₂:∀a o,U.h₀.get? a=some o→h₂.get? a=some o:=fun a o q=>hk₂ _ (fun z=>by rw[z]at q;rw[K₁ _ _ q]at hd₁;cases hd₁) (fun z=>by rw[z,hne]at q;cases q) _ (K₁ _ _ q)
 refine wpAny_execs_cons (plainObj_wpAny_Assign_Attribute (UnaryOp_ (wpAny_Constant_int (neg_int (ldc D.kind hself ns₂ m1 ?_)))) (by rfl))
 have hde:d≠e:=fun q=>by rw[q,he₁]at hd₁;cases hd₁
 refine Zgm (U.KX.keeps K₂) he₂ rfl rfl rfl hd₂ rfl X.sa cls hmro hhd X.at_ (fun tt=>⟨_,_,(by simp),Zki _ _ _ _ _ _⟩) fun h₃ es₃ n₃ t₃ tk₃ e₃ hd₃ hk₃=>?_
 refine wpAny_execs_nil ?_
 refine hq _ _ (fun b o hb hbo=>?_) ⟨d,_,es₃,n₃,tk,(hk₃ _ (Ne.symm hde)).trans he₂,hd₃,?_,?_⟩
 ·have hbd:b≠d:=fun z=>by
   have:=hk₁ _ _ hb (hkeep _ _ hbo)
   rw[z,hd₁]at this;cases this
  rw[hk₃ _ hbd]
  exact hk₂ _ hbd hb _ (hk₁ _ _ hb (hkeep _ _ hbo))
 ·rw[List.nil_append,Zki]at e₃;cases e₃;exact ZlD _ _ _ _ _ _
 ·cases q:s.heap.get? d with
  |none=>rfl
  |some o=>have:=hk₁ _ _ hde (hkeep _ _ q);rw[hd₁]at this;cases this
theorem Zib{x:Str}{C W fI:Addr}(X:ExcC x C W fI){A:Around}{E:Value→Shared→Prop}{s:Shared}{env:Env}{m:Sem Value}{Q:Flow→Shared→Prop}(hh:A.handled=none)
  (h:wpAny (MM) A m (fun v s₁=>∃e d t,v=.ref e∧(∀a o,U.h₀.get? a=some o→s₁.heap.get? a=some o)∧s₁.heap.get? e=some (Zei C d t)∧E (.ref e) s₁) E s):
  wpAny (MM) A (raiseStmt env (some m) none) Q E s:=by
 obtain⟨xc,hobj⟩:=X.obj
 have hcB:(Value.ref C::ZQ W).contains (.type "BaseException")=true:=by simp[ZQ]
 unfold raiseStmt
 refine wpAny_bind (wpAny_mono h (fun v s₁ h₁=>?_) fun _ _ x=>x)
 obtain⟨e,d,t,rfl,hK,he,hE⟩:=h₁
 have hC:=U.KX.keeps hK _ _ hobj
 obtain⟨hp,g,dr,tk,os⟩:=s₁
 dsimp only at he hC
 repeat(first|with_reducible refine wpAny_loadPart_at he ?_|with_reducible refine wpAny_loadPart_at hC ?_|(with_reducible refine wpAny_isSubtype_exc hC ?_;rw[hcB])|wp_step)
 exact wpAny_raiseNew_none hh hE
end
end
section
open PySem PySem.W PySem.Calls PyProof.Rows Builtin Builtin.ObjectAttr
set_option genInjectivity false
set_option maxRecDepth 100000
variable{Γ:Cfg}{A:Around}{n:Nat}
theorem ZdI(C:Addr)(rest:List Value):(Code.builtin "type.__call__" ⟨.ref C::rest,[]⟩).weight=1:=by kernel_rfl
theorem ZfQ{x:Str}{C W fI:Addr}(X:ExcC x C W fI){txt:Str}{tk:Tok}(hx:PyData.strOk txt=true){w:Wd A}(hA:AOk A n){Q E:Value→Shared→Prop}
  (k:∀e d t (w':Wd A),w'.σ=w.σ→St [] w w'→w'.s.heap.get? e=some (Zei C d t)→XR w w' C txt (.ref e)→Q (.ref e) w'.s):wpAny MM A (call (.ref C) [.str txt tk]) Q E w.s:=by
 obtain⟨xc,hobj⟩:=X.obj
 have X0:=U.KX.keeps w.K
 refine ZjA (X0 _ _ hobj) (looks_findIn X0 X.init) (looks_typeIn X0 X.fn) (fun h₁ e hm=>?_) (by size_fits)
 obtain⟨t,he,ht,_⟩:=hm.there
 have hne:U.h₀.get? e=none:=by
  cases q:U.h₀.get? e with
  |none=>rfl
  |some o=>have:=w.K _ _ q;rw[hm.new]at this;cases this
 refine ZjB X (by have:=hA.dep;show A.depth+_<_;rw[ZdI];exact Ar.a189 this) (fun a o q=>hm.keeps _ _ (w.K _ _ q)) he hne fun h₂ tk₂ hk₂ hd=>⟨rfl,?_⟩
 obtain⟨d,t',es,n',tt,he₂,hd₂,hw,hd₁⟩:=hd
 have c:=Chg.grow w (h':=h₂) fun a o q=>hk₂ _ _ (fun z=>by rw[z,hm.new]at q;cases q) (hm.keeps _ _ q)
 have hdn:w.s.heap.get? d=none:=by
  cases q:w.s.heap.get? d with
  |none=>rfl
  |some o=>have:=hm.keeps _ _ q;rw[hd₁]at this;cases this
 have pv:∀{a},w.s.heap.get? a=none→Pv w.s.heap (w.chg h₂ tk₂ c) a:=fun h=>have x:=w.off h;⟨⟨x.g,x.i,x.f⟩,h⟩
 exact k e d t' (w.chg h₂ tk₂ c) rfl (c.st _) he₂ (.mk e (.mk _ _ d es n' tt he₂ rfl rfl rfl (by simp) (fun q=>by rw[q,he]at hd₁;cases hd₁) hd₂ hw (pv hdn) (pv hm.new) .none))
theorem ZgV{x:Str}{C W fI:Addr}(X:ExcC x C W fI){txt:Str}{k:Nat}{np cp cpos pos:Pos}(hx:PyData.strOk txt=true)(hk:Γ.sc.names.lookup x=some .globalImplicit)(hd:(x==("__debug__":Str))=false):
  SemS Γ (.Raise (some (.Call (.Name x np) [.Constant (.str txt) k cp] [] cpos)) none pos) (Zbl C txt):=fun Y l w hS F Q E kk=>by
 rw[arm_exec_Raise]
 refine wpAny_bind (wpAny_standAt (Zib (m:=do let v ← eval (.Call (.Name x np) [.Constant (.str txt) k cp] [] cpos) Y.env;standAt pos;pure v) X Y.hA.hd ?_))
 refine wpAny_bind (wpAny_bind (m:=eval (.Name x np) Y.env) (f:=fun f=>callWith cpos f [] (backTo cpos (starEach [.Constant (.str txt) k cp] Y.env)) (backToKw cpos (keywordEach [] Y.env))) (Wj hk (.inl X.glob) ?_ hd))
 refine callWith_of (P:=U.K.In) (by rw[Xq _ cpos Y.env (by rfl)];rfl) (keeps_K X.keep) ?_
 rw[Y0 (by rfl)]
 refine evalArgs_plain (Calls.spliced_cons (wpAny_Constant_str (k:=k) (pos:=cp) (Calls.spliced_nil ⟨U.KX.keeps w.K,?_⟩)))
 exact ZfQ (w:=w.tok _) X hx Y.hA fun e d t w' e1 st he xr=>wpAny_bind (wpAny_standAt (wpAny_pure ⟨e,d,t,rfl,w'.K,he,kk w' e1 ((w.st_tok _).trans st).wide (F.st ((w.st_tok _).trans st)) _ (xr.since (w.st_tok _) st.pre)⟩))
noncomputable def ZdJ(l:Loc):Loc:=l.map fun _=>none
noncomputable def sTry(c:Addr)(w:Str)(b:SM):SM:=fun l σ=>match b l σ with
 |some (.exc c' w',l',σ')=>if c'=c∧PyData.strOk w'=true then some (.ok (.ret (.p (.bool (PyData.eqv (.str w') (.str w))))),ZdJ l',σ')else none
 |r=>r
theorem Zbf{l:Loc}{i:Nat}{v:V}{G:Prop}(h:(ZdJ l)[i]?=some (some v)):G:=by
 unfold ZdJ at h
 rw[List.getElem?_map]at h
 cases e:l[i]? with
 |none=>rw[e]at h;cases h
 |some o=>rw[e]at h;cases h
theorem FR.void{X:Fx Γ}{l:Loc}{w w':Wd X.A}{m':Str→Option Value}(F:FR X l w)(st:St [X.env.locals] w w')(hn:w'.s.heap.Ns X.env.locals m'):FR X (ZdJ l) w' where
 ns:=⟨m',hn,fun _ h2 _=>Zbf h2⟩
 cell:=fun _ h2 _=>Zbf h2
 cellT:=fun c hc=>(F.cellT c hc).elim fun v hv=>⟨v,Xb hv fun o e=>(st.old c o e (F.off c (List.mem_cons_of_mem _ hc)).1).k fun h=>X.ne c hc (List.mem_singleton.mp h)⟩
 off:=fun c hc=>(F.at_ hc).elim fun o h=>have p:=st.old c o h.1 (F.off c hc).1;⟨p.g,p.i.trans (F.off c hc).2⟩
theorem AftS.try{X:Fx Γ}{w:Wd X.A}{c:Addr}{tx:Str}{b:SM}{l:Loc}{Q:Flow→Shared→Prop}{E:Value→Shared→Prop}(k:AftS w Q E (sTry c tx b l w.σ)){Q':Flow→Shared→Prop}{E':Value→Shared→Prop}(hQ:∀f s,Q f s→Q' f s)
  (hE:∀t l' (w':Wd X.A) e,St (xset X.env) w w'→FR X l' w'→XR w w' c t e→PyData.strOk t=true→AftS w Q E (some (.ok (.ret (.p (.bool (PyData.eqv (.str t) (.str tx))))),ZdJ l',w'.σ))→E' e w'.s):AftS w Q' E' (b l w.σ):=by
 unfold sTry at k
 cases e:b l w.σ with
 |none=>rw[e]at k;exact k.elim
 |some p=>
  obtain⟨r,l',σ'⟩:=p
  rw[e]at k
  cases r with
  |ok o=>
   intro w' e' st F
   have k:=k w' e' st F
   cases o with
   |next=>exact hQ _ _ k
   |ret v=>exact fun y hy=>hQ _ _ (k y hy)
  |exc c' t=>
   dsimp only at k
   by_cases h:c'=c∧PyData.strOk t=true
   ·rw[if_pos h]at k
    exact fun w' e' st F y x=>hE t l' w' y st F (h.1▸x) h.2 (e'▸k)
   ·rw[if_neg h]at k;exact k.elim
theorem Zid{x:Str}{C W fI:Addr}(X:ExcC x C W fI){E:Value→Shared→Prop}{w:Wd A}{e:Addr}{oe:Obj}{Q:Bool→Shared→Prop}{A':Around}(he:w.s.heap.get? e=some oe)(hc:oe.cls=.ref C)(h:Q true w.s):wpAny MM A' (excMatches (.ref e) (.ref C)) Q E w.s:=by
 obtain⟨xc,hobj⟩:=X.obj
 exact wpAny_excMatches_sub_self (U.KX.keeps w.K _ _ hobj) he hc (by simp[ZQ]) h
theorem Zml{x:Str}{C W fI:Addr}(X:ExcC x C W fI)(hhas:hasDictIn U.K C=true){Y:Fx Γ}{A':Around}(hun:A'.units+40*Γ.n+400<cLine){w:Wd Y.A}{t:Str}{h₅:Heap}{tk:Nat}{m:Str→Option Value}{xa:Addr}{nm txt:Str}{k:Nat}{p1 p2 p3 p4:Pos}(hm:h₅.Ns Y.env.locals m)(hx:PyData.strOk txt=true)(ht:PyData.strOk t=true)(hkf:Y.env.kindOf nm=some .local)(hmn:m nm=some (.ref xa))(hd':(nm==("__debug__":Str))=false)
  (hK:∀a o,U.h₀.get? a=some o→h₅.get? a=some o) (he:∀env,eval (.Attribute (.Name nm p1) "why" p2) env=(do
     let o ← eval (.Name nm p1) env
     standAt p2.atName
     let r ← holding [o] (getAttr o "why" true)
     letTemporaryGo (.Name nm p1) o r
     pure r)) {oe:Obj} {d:Addr} {es:List DictEntry} {n':Nat} {ttk:Tok} {vs:Array Value} (h1:h₅.get? xa=some oe) (h2:oe.cls=.ref C) (h3:oe.dict=some d) (h4:oe.data=.fields vs) (h5:h₅.get? d=some (dictOf es n')) (h6:getL "why" es=some (some (.str t ttk)))
  {Q E:Value→Shared→Prop} (go:∀tk',Q (.bool (PyData.eqv (.str t) (.str txt))) {w.s with heap:=h₅,toks:=tk'}):
  wpAny MM A' (eval (.Compare (.Attribute (.Name nm p1) "why" p2) [.Eq] [.Constant (.str txt) k p3] p4) Y.env) Q E {w.s with heap:=h₅,toks:=tk}:=by
 have inst:PySem.W.InstAt h₅ xa oe C (some (dictOf es n')):=⟨h1,h2,by unfold notCls;rw[h4],by rw[h3];exact h5⟩
 refine wpAny_Compare1 (Attribute_any_ (wpAny_Name (wpAny_loadName_local Y.hk hkf hm hmn ?_) hd') (he Y.env)) (by with_unfolding_all rfl)
 obtain⟨xc,hobj⟩:=X.obj
 obtain⟨cd,cls,hmro⟩:∃cd,clsIn U.K C=some cd∧cd.mro=.ref C::ZQ W:=⟨_,by unfold clsIn;rw[hobj],rfl⟩
 refine Zev (s:={w.s with heap:=h₅,toks:=tk}) (U.KX.keeps hK) inst X.get cls hmro (findObj_own hhas X.why rfl h6) rfl ?_
 refine wpAny_Constant_str (k:=k) (pos:=p3) ?_
 have:=hun
 exact SeqAt.compareEq_reads (Reads.str t ttk) (Reads.str txt _) (by simpa[PyData.canLay0]using ht) (by simpa[PyData.canLay0]using hx) (by simp[PyData.depth];exact Ar.a513 this) (go _)
theorem ZkO{x:Str}{C W fI:Addr}(X:ExcC x C W fI){body:List Stmt}{b:SM}(hb':SemB Γ body b){nm txt:Str}{k:Nat}{pt p1 p2 p3 p4 p5 ph pos:Pos}(hhas:hasDictIn U.K C=true)(hx:PyData.strOk txt=true)
  (hk:Γ.sc.names.lookup x=some .globalImplicit) (hd:(x==("__debug__":Str))=false) (hf':Γ.sc.names.lookup nm=some .local) (hd':(nm==("__debug__":Str))=false)
  (he:∀env,eval (.Attribute (.Name nm p1) "why" p2) env=(do
     let o ← eval (.Name nm p1) env
     standAt p2.atName
     let r ← holding [o] (getAttr o "why" true)
     letTemporaryGo (.Name nm p1) o r
     pure r)):
  SemS Γ (.Try body [.ExceptHandler (some (.Name x pt)) (some nm) [.Return (some (.Compare (.Attribute (.Name nm p1) "why" p2) [.Eq] [.Constant (.str txt) k p3] p4)) p5] ph] [] [] pos) (sTry C txt b):=fun Y l w hS F Q E kk=>by
 have hkf:=Y.ko hf'
 rw[arm_exec_Try]
 refine wpAny_bind (wpAny_standAt (wpAny_tryStmt_except (hb' hS F (kk.try (fun f s h=>?_) fun t l' w₁ e st F xr ht kk=>?_))))
 ·cases f with
  |next=>exact wpAny_execs_nil h
  |_=>exact h
 obtain⟨outer,hfr⟩:=hS.fr
 refine Zea Y.hA hfr hS.loc (fun a hn e=>st.there (List.prefix_refl _) hn e) xr fun Z₂ w₂ e₂ st₂ p₂ x₂ _=>WN x₂ fun Z₃ w₃ e₃ st₃ p₃ x₃=>?_
 have st:=(st.nudge p₂ st₂).nudge p₃ st₃
 have F:=(F.nudge p₂ st₂).nudge p₃ st₃
 cases x₃ with|mk xa xat=>
 have x₃:XR w w₃ C t (.ref xa):=.mk xa xat
 refine wpAny_handleBy_cons (codeAny_handlers_test (wpAny_Name (Qt Y.hk Y.glob Y.bui w₃.K (Y.ko hk) (.inl X.glob) ?_) hd)) (by intro q;cases q)
 have hm₃:∃oe,w₃.s.heap.get? xa=some oe∧oe.cls=.ref C:=by cases xat with|mk oe vs d es m tk h1 h2=>exact⟨oe,h1,h2⟩
 obtain⟨oe,h1,h2⟩:=hm₃
 refine Zid X h1 h2 (codeAny_handlers_suite_as (WN x₃ fun Z₄ w₄ e₄ st₄ p₄ x₄=>?_))
 clear h1 h2 oe
 have st:=st.nudge p₄ st₄
 have F:=F.nudge p₄ st₄
 obtain⟨m,hm⟩:=F.loc
 have hl:=F.off _ List.mem_cons_self
 refine wpAny_storeName_local hkf hm (fun h₅ hn₅ hs₅=>?_) (by rw[Y.hk];rfl)
 obtain⟨oL,hoL,hdL⟩:=ZdY hn₅
 have c₅:=Chg.one hl hs₅ hoL hdL
 have hLf:Y.env.locals∈fa Y.A:=by
  unfold fa
  rw[hfr]
  exact List.mem_filterMap.mpr ⟨Y.env,List.mem_cons_self,hS.loc⟩
 have ne:∀{a},Pv w.s.heap w₄ a→a≠Y.env.locals:=fun p q=>p.off.f (q▸hLf)
 cases x₄ with|mk _ x₄=>
 cases x₄ with|mk oe vs d es n' tk k1 k2 k3 k4 k5 k6 k7 kw k8 k9 k10=>
 refine wpAny_execs_cons (wpAny_Return_some (Zml X hhas (A':=Y.A.mark (some (.ref xa))) Y.hA.un (w:=w₄) hn₅ hx ht hkf (if_pos rfl) hd' (w₄.chg h₅ 0 c₅).K he ((hs₅.2 _ (ne k9)).trans k1) k2 k3 k4 ((hs₅.2 _ (ne k8)).trans k7) kw fun tk'=>?_))
 refine wpAny_nameGoes hkf (s:={w₄.s with heap:=h₅,toks:=tk'}) hn₅ (by rw[Y.hk];rfl) fun h₆ m₆ hn₆ hs₆=>?_
 obtain⟨oM,hoM,hdM⟩:=ZdY hn₆
 have c₆:Chg (w₄.chg h₅ tk' c₅) [Y.env.locals] h₆:=.one hl hs₆ hoM hdM
 have st₆:=(c₅.st tk').trans (c₆.st (tk'+1))
 exact kk ((w₄.chg h₅ tk' c₅).chg h₆ _ c₆) (e₄.trans (e₃.trans e₂)) (st.trans (st₆.one List.mem_cons_self)) (F.void st₆ hn₆) _ (.p (.bool _))
end
section
open PySem PySem.W PySem.Calls PyProof.Rows Builtin Builtin.ObjectAttr
set_option genInjectivity false
set_option maxRecDepth 100000
variable{Γ:Cfg}{A:Around}{n:Nat}
noncomputable def Zey:List Stmt:=
 [.Assign [.Attribute (.Name "self" ⟨26,8,26,12⟩) "tops" ⟨26,8,26,17⟩] (.Name "tops" ⟨26,20,26,24⟩) ⟨26,8,26,24⟩,
  .Assign [.Attribute (.Name "self" ⟨27,8,27,12⟩) "nodes" ⟨27,8,27,18⟩] (.List [] ⟨27,21,27,23⟩) ⟨27,8,27,23⟩,
  .Assign [.Attribute (.Name "self" ⟨28,8,28,12⟩) "book" ⟨28,8,28,17⟩] (.Dict [] [] ⟨28,20,28,22⟩) ⟨28,8,28,22⟩,
  .Assign [.Attribute (.Name "self" ⟨29,8,29,12⟩) "memo" ⟨29,8,29,17⟩] (.Dict [] [] ⟨29,20,29,22⟩) ⟨29,8,29,22⟩]
structure DiaC(fI:Addr):Prop where
 glob:nsIn U.K mainGlobals "Diagrams"=some (some (.ref U.dC))
 keep:keepIn U.K (.ref U.dC)=true
 make:makesIn U.K U.dC=true
 init:findIn U.K (.ref U.dC) "__init__"=some (some (.ref fI))
 fn:typeIn U.K (.ref fI)=some (.type "function")
 sa:findIn U.K (.ref U.dC) "__setattr__"=some (some (.builtin "object.__setattr__"))
 over:plainOver U.K U.dC=true
 tops:takerIn U.K U.dC "tops"=some none
 nodes:takerIn U.K U.dC "nodes"=some none
 book:takerIn U.K U.dC "book"=some none
 memo:takerIn U.K U.dC "memo"=some none
 has:(clsIn U.K U.dC).any (·.hasDict)=true
 pos:1<U.dC
 there:(U.K.lookup U.dC).isSome=true
 fdat:∃oc od osl fd,FnD fI oc od osl fd Zey "self" "tops"
theorem Zn2(h:Int)(t:Tok)(v:Value):Obj.putName "tops" h (.str "tops" t) v (dictOf [] 0)=dictOf [⟨h,.str "tops" t,v⟩] 1:=by kernel_rfl
theorem Zn1(h₁ h:Int)(t₁ t:Tok)(v₁ v:Value):Obj.putName "nodes" h (.str "nodes" t) v (dictOf [⟨h₁,.str "tops" t₁,v₁⟩] 1)=dictOf [⟨h₁,.str "tops" t₁,v₁⟩,⟨h,.str "nodes" t,v⟩] 2:=by kernel_rfl
theorem Zn0(h₁ h₂ h:Int)(t₁ t₂ t:Tok)(v₁ v₂ v:Value):Obj.putName "book" h (.str "book" t) v (dictOf [⟨h₁,.str "tops" t₁,v₁⟩,⟨h₂,.str "nodes" t₂,v₂⟩] 2)=dictOf [⟨h₁,.str "tops" t₁,v₁⟩,⟨h₂,.str "nodes" t₂,v₂⟩,⟨h,.str "book" t,v⟩] 3:=by kernel_rfl
structure DE where
 h₁:Int
 h₂:Int
 h₃:Int
 h₄:Int
 t₁:Tok
 t₂:Tok
 t₃:Tok
 t₄:Tok
noncomputable def DE.es(e:DE)(v₁ v₂ v₃ v₄:Value):List DictEntry:=[⟨e.h₁,.str "tops" e.t₁,v₁⟩,⟨e.h₂,.str "nodes" e.t₂,v₂⟩,⟨e.h₃,.str "book" e.t₃,v₃⟩,⟨e.h₄,.str "memo" e.t₄,v₄⟩]
theorem Znz(h₁ h₂ h₃ h:Int)(t₁ t₂ t₃ t:Tok)(v₁ v₂ v₃ v:Value):Obj.putName "memo" h (.str "memo" t) v (dictOf [⟨h₁,.str "tops" t₁,v₁⟩,⟨h₂,.str "nodes" t₂,v₂⟩,⟨h₃,.str "book" t₃,v₃⟩] 3)=dictOf (DE.es ⟨h₁,h₂,h₃,h,t₁,t₂,t₃,t⟩ v₁ v₂ v₃ v) 4:=by kernel_rfl
section
theorem Wr{prog:Program}{w:World}{A:Around}{E:Value→Shared→Prop}{s:Shared}{K:Frag}{x dx C:Addr}{es:List DictEntry}{n:Nat}{name:Str}{v:Value}{Q:Unit→Shared→Prop}(X:K.In s.heap)(hx:s.heap.get? x=some (instObj C dx))(hd:s.heap.get? dx=some (dictOf es n))
  (hr:es.any (·.refKey)=false) (hs:findIn K (.ref C) "__setattr__"=some (some (.builtin "object.__setattr__"))) (hp:plainOver K C=true) (ht:takerIn K C name=some none) (hh:(clsIn K C).any (·.hasDict)=true)
  (h:∀t,∃es' n',es'.length≤1000∧Obj.putName name (PyData.keyHash w.params name) (.str name t) v (dictOf es n)=dictOf es' n'∧∀h' t',h'.get? dx=some (dictOf es' n')→(∀b,b≠dx→h'.get? b=s.heap.get? b)→Q () {s with heap:=h',toks:=t'}):
  wpAny (model prog w) A (setAttr (.ref x) name v) Q E s:=by
 have I:InstAt s.heap x (instObj C dx) C (some (dictOf es n)):=⟨hx,rfl,rfl,hd⟩
 refine set_plain X I hs (osa_open (s:={s with toks:=s.toks+1}) X I hp ht fun b=>?_)
 obtain⟨cd,hc,hd'⟩:=any_some hh
 obtain⟨es',n',hz,e,h⟩:=h (s.toks+1)
 obtain⟨hp,g,dr,tk,os⟩:=s
 dsimp only at X hx hd h e ⊢
 refine wpAny_bind (wpAny_pure (wpAny_bind (wpAny_bind (wpAny_loadPart hx (wpAny_bind ((looks_clsIn X hc).here ?_))))))
 rw[hd']
 refine wpAny_pure (a:=some dx) ?_
 exact Zeu hd hr e hz fun h' hd' ho'=>h h' _ hd' ho'
theorem Zjp{M:Model}{A:Around}{E:Value→Shared→Prop}{s:Shared}{Q:Value→Shared→Prop}(h:Q (.ref s.heap.objs.size) {s with heap:=s.heap.push (seqObj "list" #[] 0)}):wpAny M A (newList []) Q E s:=
 wpAny_newObj_type h (by size_fits)
inductive ZlW(n:Nat)(h':Heap)(dx:Addr)(y:Value):Prop
 |mk (an ab am:Addr) (e:DE):h'.get? dx=some (dictOf (e.es y (.ref an) (.ref ab) (.ref am)) 4)→h'.get? an=some (seqObj "list" #[] 0)→h'.get? ab=some emptyDict→h'.get? am=some emptyDict→n≤an→an<ab→ab<am→ZlW n h' dx y
set_option maxHeartbeats 4000000 in
theorem ZjD{fI:Addr}(X:DiaC fI){A:Around}{s:Shared}(hdep:A.depth<recursionLimit)(hK:∀a o,U.h₀.get? a=some o→s.heap.get? a=some o){x dx:Addr}(hx:s.heap.get? x=some (instObj U.dC dx))(hdx:s.heap.get? dx=some emptyDict)(hne:U.h₀.get? dx=none)(hxd:x≠dx)
  {y:Value} {R:Result→Shared→Prop}
  (hq:∀h' tk',(∀b o,b≠dx→s.heap.get? b=some o→h'.get? b=some o)→ZlW s.heap.objs.size h' dx y→R (.ok (.ret .none)) {s with heap:=h',toks:=tk'}):
  codeAny (MM) A (.call (.ref fI) ⟨[.ref x,y],[]⟩) R s:=by
 obtain⟨oc,od,osl,fd,D⟩:=X.fdat
 have X0:=U.KX.keeps hK
 refine codeAny_call_def (o:=⟨oc,od,.func fd,osl⟩) (fd:=fd) hdep (X0 _ _ D.look) rfl (U.lim.keeps hK) (codeRec_of X0 D.code) D.body (BindsTo.of_eq (D.bind _ _)) D.cell ?_ ?_ D.co D.gen D.kind
 ·intro p hp
  rcases List.mem_cons.mp hp with rfl|hp
  ·exact D.n1
  ·rcases List.mem_cons.mp hp with rfl|hp
   ·exact D.n2
   ·cases hp
 intro h₀ hns hkeep
 generalize hA':A.deeper (callEnv fd s.heap.objs.size fI)=A'
 have hLd:s.heap.objs.size≠dx:=Nat.ne_of_gt (Heap.lt_size hdx)
 have hself:(callEnv fd s.heap.objs.size fI).kindOf ("self":Str)=some .local:=D.n1
 have htops:(callEnv fd s.heap.objs.size fI).kindOf ("tops":Str)=some .local:=D.n2
 have m1:(([((("self":Str)),Value.ref x),("tops",y)]:List (Str×Value)).reverse.lookup ("self":Str))=some (.ref x):=rfl
 have m2:(([((("self":Str)),Value.ref x),("tops",y)]:List (Str×Value)).reverse.lookup ("tops":Str))=some y:=rfl
 generalize hm:(fun z=>([((("self":Str)),Value.ref x),("tops",y)]:List (Str×Value)).reverse.lookup z)=m at hns
 have m1:m "self"=some (.ref x):=by rw[← hm];exact m1
 have m2:m "tops"=some y:=by rw[← hm];exact m2
 have K₀:∀a o,U.h₀.get? a=some o→h₀.get? a=some o:=fun a o q=>hkeep _ _ (hK _ _ q)
 have nk:∀{a o},U.h₀.get? a=some o→a≠dx:=fun q z=>by rw[z,hne]at q;cases q
 unfold Zey
 refine wpAny_execs_cons (plainObj_wpAny_Assign_Attribute (ldc D.kind htops hns m2 (ldc D.kind hself hns m1 ?_)) (by rfl))
 refine Wr (es:=[]) (n:=0) (U.KX.keeps K₀) (hkeep _ _ hx) (hkeep _ _ hdx) rfl X.sa X.over X.tops X.has fun t₁=>⟨_,_,(by simp),Zn2 _ _ _,fun h₁ tk₁ hd₁ ho₁=>?_⟩
 have k₁:∀b o,b≠dx→h₀.get? b=some o→h₁.get? b=some o:=fun b o hb q=>(ho₁ b hb).trans q
 have ns₁:=Zau hns hLd k₁
 refine wpAny_execs_cons (plainObj_wpAny_Assign_Attribute (List_ (Calls.spliced_nil (Zjp ?_))) (by rfl))
 generalize han:h₁.objs.size=an
 generalize hh₂:h₁.push (seqObj "list" #[] 0)=h₂
 have p₂:∀b o,h₁.get? b=some o→h₂.get? b=some o:=fun b o q=>hh₂▸Heap.get?_push_of_some _ q
 have an₂:h₂.get? an=some (seqObj "list" #[] 0):=by rw[← hh₂,← han];exact Heap.get?_push_size _ rfl
 have and:an≠dx:=by rw[← han];exact Nat.ne_of_gt (Heap.lt_size hd₁)
 have ns₂:h₂.Ns s.heap.objs.size m:=Zau ns₁ hLd fun b o _ q=>p₂ b o q
 refine ldc D.kind hself ns₂ m1 ?_
 have up₂:∀b o,b≠dx→h₀.get? b=some o→h₂.get? b=some o:=fun b o hb q=>p₂ _ _ (k₁ _ _ hb q)
 refine Wr (U.KX.keeps fun a o q=>up₂ _ _ (nk q) (K₀ _ _ q)) (up₂ _ _ hxd (hkeep _ _ hx)) (p₂ _ _ hd₁) rfl X.sa X.over X.nodes X.has fun t₂=>⟨_,_,(by simp),Zn1 _ _ _ _ _ _,fun h₃ tk₃ hd₃ ho₃=>?_⟩
 have up₃:∀b o,b≠dx→h₂.get? b=some o→h₃.get? b=some o:=fun b o hb q=>(ho₃ b hb).trans q
 have ns₃:=Zau ns₂ hLd up₃
 refine wpAny_execs_cons (plainObj_wpAny_Assign_Attribute (wpAny_Dict_empty ?_) (by rfl))
 generalize hab:h₃.objs.size=ab
 generalize hh₄:h₃.push {cls:=.type "dict",data:=.dict #[]}=h₄
 have p₄:∀b o,h₃.get? b=some o→h₄.get? b=some o:=fun b o q=>hh₄▸Heap.get?_push_of_some _ q
 have ab₄:h₄.get? ab=some emptyDict:=by rw[← hh₄,← hab];exact Heap.get?_push_size _ rfl
 have abd:ab≠dx:=by rw[← hab];exact Nat.ne_of_gt (Heap.lt_size hd₃)
 have ns₄:h₄.Ns s.heap.objs.size m:=Zau ns₃ hLd fun b o _ q=>p₄ b o q
 refine ldc D.kind hself ns₄ m1 ?_
 have up₄:∀b o,b≠dx→h₂.get? b=some o→h₄.get? b=some o:=fun b o hb q=>p₄ _ _ (up₃ _ _ hb q)
 refine Wr (U.KX.keeps fun a o q=>up₄ _ _ (nk q) (up₂ _ _ (nk q) (K₀ _ _ q))) (up₄ _ _ hxd (up₂ _ _ hxd (hkeep _ _ hx))) (p₄ _ _ hd₃) rfl X.sa X.over X.book X.has fun t₃=>⟨_,_,(by simp),Zn0 _ _ _ _ _ _ _ _ _,fun h₅ tk₅ hd₅ ho₅=>?_⟩
 have up₅:∀b o,b≠dx→h₄.get? b=some o→h₅.get? b=some o:=fun b o hb q=>(ho₅ b hb).trans q
 have ns₅:=Zau ns₄ hLd up₅
 refine wpAny_execs_cons (plainObj_wpAny_Assign_Attribute (wpAny_Dict_empty ?_) (by rfl))
 generalize ham:h₅.objs.size=am
 generalize hh₆:h₅.push {cls:=.type "dict",data:=.dict #[]}=h₆
 have p₆:∀b o,h₅.get? b=some o→h₆.get? b=some o:=fun b o q=>hh₆▸Heap.get?_push_of_some _ q
 have am₆:h₆.get? am=some emptyDict:=by rw[← hh₆,← ham];exact Heap.get?_push_size _ rfl
 have amd:am≠dx:=by rw[← ham];exact Nat.ne_of_gt (Heap.lt_size hd₅)
 have ns₆:h₆.Ns s.heap.objs.size m:=Zau ns₅ hLd fun b o _ q=>p₆ b o q
 refine ldc D.kind hself ns₆ m1 ?_
 have up₆:∀b o,b≠dx→h₂.get? b=some o→h₆.get? b=some o:=fun b o hb q=>p₆ _ _ (up₅ _ _ hb (up₄ _ _ hb q))
 refine Wr (U.KX.keeps fun a o q=>up₆ _ _ (nk q) (up₂ _ _ (nk q) (K₀ _ _ q))) (up₆ _ _ hxd (up₂ _ _ hxd (hkeep _ _ hx))) (p₆ _ _ hd₅) rfl X.sa X.over X.memo X.has fun t₄=>⟨_,_,(by show 4≤1000;decide),Znz _ _ _ _ _ _ _ _ _ _ _ _,fun h₇ tk₇ hd₇ ho₇=>?_⟩
 have up₇:∀b o,b≠dx→h₆.get? b=some o→h₇.get? b=some o:=fun b o hb q=>(ho₇ b hb).trans q
 refine wpAny_execs_nil ?_
 refine hq _ _ (fun b o hb q=>up₇ _ _ hb (up₆ _ _ hb (up₂ _ _ hb (hkeep _ _ q)))) (.mk an ab am ⟨_,_,_,_,_,_,_,_⟩ hd₇ (up₇ _ _ and (up₆ _ _ and an₂)) (up₇ _ _ abd (p₆ _ _ (up₅ _ _ abd ab₄))) (up₇ _ _ amd am₆) ?_ ?_ ?_)
 ·obtain⟨o,es,ep,ho,r⟩:=ns₁
  rw[← han];exact Nat.le_of_lt (Heap.lt_size ho)
 ·rw[← hab];exact Heap.lt_size (up₃ _ _ and an₂)
 ·rw[← ham];exact Heap.lt_size (up₅ _ _ abd ab₄)
end
noncomputable def mkV(a:V):HM V:=pV a fun T σ=>some (.ok (.dia T σ.length (σ.length+1) (σ.length+2)),((σ++[.lst []])++[.tdct []])++[.tdct []])
noncomputable def Zou:List V→HM V:=g1 mkV
noncomputable def ZlN(fs:List Fn):Fn:=fun l=>hb (YV fs l) Zou
theorem Zo4(e:DE)(v₁ v₂ v₃ v₄:Value):getL "tops" (e.es v₁ v₂ v₃ v₄)=some (some v₁):=by kernel_rfl
theorem Zo3(e:DE)(v₁ v₂ v₃ v₄:Value):getL "nodes" (e.es v₁ v₂ v₃ v₄)=some (some v₂):=by kernel_rfl
theorem Zo2(e:DE)(v₁ v₂ v₃ v₄:Value):getL "book" (e.es v₁ v₂ v₃ v₄)=some (some v₃):=by kernel_rfl
theorem Zo1(e:DE)(v₁ v₂ v₃ v₄:Value):getL "memo" (e.es v₁ v₂ v₃ v₄)=some (some v₄):=by kernel_rfl
theorem Zcq{x y:Str}{h:Int}{t:Tok}{v:Value}{es:List DictEntry}(hx:x≠y)(r:getL x es=some none):getL x (⟨h,.str y t,v⟩::es)=some none:=by
 unfold getL at r ⊢
 rw[List.find?_cons_of_neg (by simp[Value.isStr,Ne.symm hx])]
 exact r
theorem Zo5(e:DE)(v₁ v₂ v₃ v₄:Value){x:Str}(e1:x≠"tops")(e2:x≠"nodes")(e3:x≠"book")(e4:x≠"memo"):getL x (e.es v₁ v₂ v₃ v₄)=some none:=Zcq e1 (Zcq e2 (Zcq e3 (Zcq e4 rfl)))
theorem ZcG(C:Addr)(rest:List Value):(Code.builtin "type.__call__" ⟨.ref C::rest,[]⟩).weight=1:=by kernel_rfl
theorem Off.adoptI{w:Wd A}{D a:Addr}{o:Obj}(y:Off w a)(ho:w.s.heap.get? D=some o)(x:Off w D)(h:a≠D):Off (w.adoptI D o ho x) a:=⟨y.g,(IMap.put_ne _ _ h).trans y.i,y.f⟩
theorem Off.adoptG{w:Wd A}{D a:Addr}{m:MObj}(y:Off w a)(hm:MRel w.I w.s.heap D m)(x:D∉w.γ∧D∉fa A)(h:a≠D):Off (w.adoptG D m hm x) a:=⟨fun q=>(List.mem_append.mp q).elim y.g fun q=>h (List.mem_singleton.mp q),y.i,y.f⟩
theorem ZeL{I:IMap}{h:Heap}{a:Addr}(hi:I a=none)(ho:h.get? a=some emptyDict)(hs:a≠sysModules):MRel I h a (.tdct []):=
 .tdct hi (by simpa using hs) (by simp) (xs:=[]) ⟨emptyDict,#[],0,ho,⟨rfl,rfl,rfl⟩,rfl,by simp,by simp,by simp⟩ .nil
theorem Zik{w₀ w:Wd A}(st:St [] w₀ w){x d an ab am:Addr}{e:DE}{y:Value}{T:P}(hx:w.s.heap.get? x=some (instObj U.dC d))(hd:w.s.heap.get? d=some (dictOf (e.es y (.ref an) (.ref ab) (.ref am)) 4))
  (han:w.s.heap.get? an=some (seqObj "list" #[] 0)) (hab:w.s.heap.get? ab=some emptyDict) (ham:w.s.heap.get? am=some emptyDict) (hy:PIn w.I y T) (new:∀a,d≤a→Off w a∧w₀.s.heap.get? a=none∧a≠sysModules)
  (l0:d<x) (l1:x<an) (l2:an<ab) (l3:ab<am) {Q:Value→Shared→Prop} {E:Value→Shared→Prop}
  (k:KV w₀ Q E (some (.ok (.dia T w.σ.length (w.σ.length+1) (w.σ.length+2)),((w.σ++[.lst []])++[.tdct []])++[.tdct []]))):Q (.ref x) w.s:=by
 have nd:=new d (Nat.le_refl _)
 have nx:=new x (Nat.le_of_lt l0)
 have na:=new an (Nat.le_of_lt (Nat.lt_trans l0 l1))
 have nb:=new ab (Nat.le_of_lt (Nat.lt_trans l0 (Nat.lt_trans l1 l2)))
 have nm:=new am (Nat.le_of_lt (Nat.lt_trans l0 (Nat.lt_trans l1 (Nat.lt_trans l2 l3))))
 have g:∀{a b:Nat},a<b→b≠a:=Nat.ne_of_gt
 have ox:=nx.1.adoptI hd nd.1 (g l0)
 have f:∀{a:Addr},x<a→Off w a→Off ((w.adoptI d _ hd nd.1).adoptI x _ hx ox) a:=fun h o=>(o.adoptI hd nd.1 (g (Nat.lt_trans l0 h))).adoptI hx ox (g h)
 have oa:=f l1 na.1
 have ma:MRel ((w.adoptI d _ hd nd.1).adoptI x _ hx ox).I w.s.heap an (.lst []):=.lst oa.i han .nil (by simp)
 have ob:=(f (Nat.lt_trans l1 l2) nb.1).adoptG ma oa.gf (g l2)
 have mb:=ZeL ob.i hab nb.2.2
 have om:=((f (Nat.lt_trans l1 (Nat.lt_trans l2 l3)) nm.1).adoptG ma oa.gf (g (Nat.lt_trans l2 l3))).adoptG mb ob.gf (g l3)
 have mm:=ZeL om.i ham nm.2.2
 have len:((w.adoptI d _ hd nd.1).adoptI x _ hx ox).γ.length=w.σ.length:=w.b.mem.len
 refine k (((((w.adoptI d _ hd nd.1).adoptI x _ hx ox).adoptG an _ ma oa.gf).adoptG ab _ mb ob.gf).adoptG am _ mm om.gf) rfl
  (((((st.adoptI hd nd.1 nd.2.1).adoptI hx ox nx.2.1).adoptG ma oa.gf na.2.1).adoptG mb ob.gf nb.2.1).adoptG mm om.gf nm.2.1) _ (VRel.dia (.mk d (e.es y (.ref an) (.ref ab) (.ref am)) 4 y an ab am ?_ ?_ (Zo4 ..) (Zo3 ..) (Zo2 ..) (Zo1 ..) (fun _ e1 e2 e3 e4=>Zo5 _ _ _ _ _ e1 e2 e3 e4) (hy.mono ((ILe.put nd.1.i).trans (ILe.put ox.i))) ?_ ?_ ?_))
 ·exact IMap.put_self _ _ _
 ·exact(IMap.put_ne _ _ (Nat.ne_of_lt l0)).trans (IMap.put_self _ _ _)
 ·show(((((w.adoptI d _ hd nd.1).adoptI x _ hx ox).γ++[an])++[ab])++[am])[w.σ.length]?=_
  rw[← len];simp
 ·show(((((w.adoptI d _ hd nd.1).adoptI x _ hx ox).γ++[an])++[ab])++[am])[w.σ.length+1]?=_
  rw[← len];simp
 ·show(((((w.adoptI d _ hd nd.1).adoptI x _ hx ox).γ++[an])++[ab])++[am])[w.σ.length+2]?=_
  rw[← len];simp
theorem ZjC{fI:Addr}(Z:DiaC fI){s:Shared}(hA:AOk A n)(hK:∀a o,U.h₀.get? a=some o→s.heap.get? a=some o)(ab:U.h₀.objs.size≤s.heap.objs.size){y:Value}{Q E:Value→Shared→Prop}
  (hq:∀h' tk',(∀b o,s.heap.get? b=some o→h'.get? b=some o)→h'.get? (s.heap.objs.size+1)=some (instObj U.dC s.heap.objs.size)→ZlW (s.heap.objs.size+2) h' s.heap.objs.size y→Q (.ref (s.heap.objs.size+1)) {s with heap:=h',toks:=tk'}):
  wpAny MM A (call (.ref U.dC) [y]) Q E s:=by
 have X0:=U.KX.keeps hK
 obtain⟨hh,gg,dr,tk,os⟩:=s
 dsimp only at X0 ab hK hq
 refine wpAny_call (make_core (makes_of X0 Z.make) (looks_findIn X0 Z.init) (fun self=>bind_fn X0 self Z.fn) (.inl rfl) ?_)
 have hx:((hh.push emptyDict).push (instObj U.dC hh.objs.size)).get? (hh.objs.size+1)=some (instObj U.dC hh.objs.size):=by
  have:=Heap.get?_push_size (hh.push emptyDict) (o:=instObj U.dC hh.objs.size) rfl
  rwa [Heap.size_push]at this
 have kp:∀a o,hh.get? a=some o→((hh.push emptyDict).push (instObj U.dC hh.objs.size)).get? a=some o:=fun a o q=>Heap.get?_push_of_some _ (Heap.get?_push_of_some _ q)
 refine ZjD Z ?_ (fun a o q=>kp _ _ (hK _ _ q)) hx (Heap.get?_push_of_some _ (Heap.get?_push_size _ rfl)) (Heap.get?_none_of_le ab) (Nat.succ_ne_self _) fun h' tk' hk' di=>⟨rfl,hq h' tk' (fun a o q=>hk' _ _ (Nat.ne_of_lt (Heap.lt_size q)) (kp _ _ q)) (hk' _ _ (Nat.succ_ne_self _) hx) ?_⟩
 ·have:=hA.dep
  show A.depth+_<_
  rw[ZcG];exact Ar.a189 this
 ·rw[Heap.size_push,Heap.size_push]at di;exact di
theorem ZiM{fI:Addr}(Z:DiaC fI){np pos:Pos}{es:List Expr}{fs:List Fn}(h:Ww Γ es fs)
  (hk:Γ.sc.names.lookup ("Diagrams":Str)=some .globalImplicit) (hs:(es.all fun e=>!isStarred e)=true):SemE Γ (.Call (.Name "Diagrams" np) es [] pos) (ZlN fs):=fun X l w F Q E k=>by
 refine wpAny_bind (m:=eval (.Name "Diagrams" np) X.env) (f:=fun f=>callWith pos f [] (backTo pos (starEach es X.env)) (backToKw pos (keywordEach [] X.env))) (Wj hk (.inl Z.glob) (WC h hs Z.keep F k fun vs w ys st hy k=>?_) (by decide))
 refine g1_e k hy fun a y hy k=>pV_e k hy fun T hy k=>ZjC Z X.hA w.K w.above fun h' tk' hk' hx di=>?_
 cases di with
 |mk an ab am e hd han hab ham l1 l2 l3=>
  have c:=Chg.grow w hk'
  refine Zik (w:=w.chg h' tk' c) (c.st _) hx hd han hab ham hy (fun a ha=>?_) (Nat.lt_succ_self _) l1 l2 l3 k
  have nn:w.s.heap.get? a=none:=Heap.get?_none_of_le ha
  have o:=w.off nn
  exact⟨⟨o.g,o.i,o.f⟩,nn,fun q=>Nat.lt_irrefl _ (q▸Nat.lt_of_lt_of_le U.sys (Nat.le_trans w.above ha))⟩
end
section
open PySem.Calls PyProof.Rows
set_option genInjectivity false
set_option maxRecDepth 100000
variable{Γ:Cfg}{A:Around}{n:Nat}
theorem Zl3{cmp:Nat→Nat→(Bool→Shared→Prop)→Shared→Prop}{Q:Array Nat→Shared→Prop}{s:Shared}(h:cmp 1 0 (fun c s'=>Q (if c=true then #[1,0]else #[0,1]) s') s):(kas_sort 2).kasWp cmp Q s:=by
 have e:(fun(c:Bool) (s':Shared)=>Q (if c=true then #[1,0]else #[0,1]) s')=fun c s'=>((if c=true then KasT.ret 1 else kas_asc (List.toArray (List.range 2)) 0 2:KasT Nat).bind fun n=>if(n==2)=true then .ret (n,List.toArray (List.range 2))else if n>1 then .ask ((List.toArray (List.range 2)).getD 0 0) ((List.toArray (List.range 2)).getD (n - 1) 0) fun c=>if c=true then .ret (n,List.toArray (List.range 2))else kas_descPart n 2 (kas_rev (List.toArray (List.range 2)) 0 n)
  else kas_descPart n 2 (List.toArray (List.range 2))).bind (fun r=>if r.1<2 then kas_bin (2 - max r.1 1) r.2 (max r.1 1)else .ret r.2) |>.kasWp cmp Q s':=by
  funext c s'
  cases c<;>rfl
 rw[e]at h
 exact h
inductive Y3(h:Heap)(a b:Int):Value→Prop
 |mk (x:Addr) (o:Obj) (n:Nat) (t u:Tok):h.get? x=some o→o.cls=.type "tuple"→o.data=.seq #[.int a t,.int b u] n→Y3 h a b (.ref x)
theorem Y3.keeps{h h':Heap}{v:Value}{a b:Int}(p:Y3 h a b v){D:Addr}(hD:v≠.ref D)(k:∀c o,c≠D→h.get? c=some o→h'.get? c=some o):Y3 h' a b v:=by
 cases p with|mk x o n t u h1 h2 h3=>exact .mk x o n t u (k _ _ (fun q=>hD (by rw[q])) h1) h2 h3
theorem Y3.ne{h:Heap}{a b:Int}{v:Value}(p:Y3 h a b v){D:Addr}{vs:Array Value}{n:Nat}(ho:h.get? D=some (seqObj "list" vs n)):v≠.ref D:=fun q=>by
 cases p with|mk x o n t u h1 h2 h3=>
 cases q
 rw[ho]at h1;cases h1;exact absurd (Value.type.inj h2) (by decide)
theorem PIn.pair{I:IMap}{h:Heap}(k:Keep I h){v:Value}{a b:Int}(p:PIn I v (.tuple [.int a,.int b])):Y3 h a b v:=p.tup_e fun{x o vs m} h1 h2 h3 h4 h5=>by
 obtain⟨l⟩:=vs
 cases h5 with
 |cons q1 q2=>
  cases q2 with
  |cons q3 q4=>
   cases q4
   exact q1.int_e (G:=fun v₁=>o.data=.seq ⟨[v₁,_]⟩ m→Y3 h a b (.ref x)) (fun t=>q3.int_e (G:=fun v₂=>o.data=.seq ⟨[_,v₂]⟩ m→Y3 h a b (.ref x)) fun u h3=>.mk x o m t u (k _ _ h1) h2 h3) h3
section
variable{prog:Program}{w:World}{E:Value→Shared→Prop}{s:Shared}{v u:Value}{a b c d:Int}
theorem Zli{Q:Bool→Shared→Prop}(hv:Y3 s.heap a b v)(hu:Y3 s.heap c d u)(h:Q (Xa a b c d) s):wpAny (model prog w) A (keyLt' (tuples' true) v u) Q E s:=by
 cases hv with|mk x o n t r h1 h2 h3=>
 cases hu with|mk x' o' n' t' r' k1 k2 k3=>
 refine kat_lt h1 h3 k1 k3 ?_
 refine kat_cons (wpAny_eqBool_int ?_)
 unfold Xa at h
 refine kat_go (fun e=>kat_yes ?_) fun e=>kat_no (oneLt_int ?_)
 ·rw[if_pos (of_decide_eq_true e)]at h
  refine kat_cons (wpAny_eqBool_int ?_)
  refine kat_go (fun e2=>kat_yes (kat_nil ?_)) fun e2=>kat_no (kat_one _ _ (lt_int ?_))
  ·rw[of_decide_eq_true e2,decide_eq_false (Int.lt_irrefl _)]at h;exact h
  ·exact h
 ·rw[if_neg (of_decide_eq_false e)]at h;exact h
theorem Zhp{Q:SortKind→Shared→Prop}(hv:Y3 s.heap a b v)(hu:Y3 s.heap c d u)(h:Q (tuples' true) s):wpAny (model prog w) A (keyKind' [v,u].toArray) Q E s:=by
 cases hv with|mk x o n t r h1 h2 h3=>
 cases hu with|mk x' o' n' t' r' k1 k2 k3=>
 refine kat_kind (T:=.type "int") (KatTups.cons h1 h2 h3 rfl (KatTups.cons k1 k2 k3 rfl KatTups.nil)) (by simp) (fun z hz=>?_) (by rfl) h
 rcases List.mem_cons.mp hz with rfl|hz
 ·exact Looks.of_pure rfl
 ·rw[List.mem_singleton]at hz;subst hz;exact Looks.of_pure rfl
noncomputable def Zf8(z:Bool)(v u:Value):Array Value:=if z then #[u,v]else #[v,u]
noncomputable def Zmo(z:Bool):Array Nat:=if z then #[1,0]else #[0,1]
theorem ZkE(z:Bool)(v u:Value):(List.toArray ((Zmo z).toList.map fun i=>[v,u].getD i Value.none))=Zf8 z v u:=by cases z<;>rfl
theorem Zmn(z:Bool)(v u:Value):(Zf8 z v u).size≤sizeLine+1:=by cases z<;>exact(by decide:2≤sizeLine+1)
inductive TwoS(s:Shared)(v u:Value)(z:Bool)(st:SortSt)(s':Shared):Prop
 |mk:(arrOf st).map (·.2)=Zf8 z v u→failedOf st=none→s'=s→TwoS s v u z st s'
theorem ZiC{D:Addr}{n:Nat}{P:PySem.Fin→Shared→Prop}(ho:s.heap.get? D=some (seqObj "list" #[v,u] n))(hv:Y3 s.heap a b v)(hu:Y3 s.heap c d u)
  (h:∀h' e,(∀b o,b≠D→s.heap.get? b=some o→h'.get? b=some o)→h'.get? D=some (seqObj "list" (Zf8 (Xa c d a b) v u) e)→P (.done (.ret .none)) {s with heap:=h'}):
  wpAny (model prog w) A (Builtin.«list.sort» ⟨[.ref D],[]⟩) P E s:=by
 have s1:=Heap.SameBut.update s.heap D (Obj.mapSeq fun _=>(#[]:Array Value))
 obtain⟨e1,ho1⟩:∃e1,(s.heap.update D (Obj.mapSeq fun _=>(#[]:Array Value))).get? D=some (seqObj "list" #[] e1):=⟨_,get?_update_seq ho fun _=>#[]⟩
 generalize hh₂:((s.heap.update D (Obj.mapSeq fun _=>(#[]:Array Value))).push (seqObj "tuple" [v,u].toArray 0)).push (seqObj "list" #[] 0)=h₂
 have k₂:∀b o,b≠D→s.heap.get? b=some o→h₂.get? b=some o:=fun b o hb q=>by
  rw[← hh₂];exact Heap.get?_push_of_some _ (Heap.get?_push_of_some _ ((s1.2 b hb).trans q))
 have hoD:h₂.get? D=some (seqObj "list" #[] e1):=by rw[← hh₂];exact Heap.get?_push_of_some _ (Heap.get?_push_of_some _ ho1)
 have hv2:=hv.keeps (hv.ne ho) k₂
 have hu2:=hu.keeps (hu.ne ho) k₂
 rw[list_sort_plain]
 refine wpAny_bind (listItems_at ho rfl (wpAny_bind (listUpdate_at ho rfl (wpAny_bind (seqEpoch_at ho1 rfl (wpAny_bind (wpAny_newTuple (wpAny_bind (wpAny_newList (wpAny_holding ?_) (Nat.zero_le _))) (by size_fits))))) (by size_fits) (Nat.zero_le _))))
 show wpAny (model prog w) A _ P E {s with heap:=((s.heap.update D (Obj.mapSeq fun _=>(#[]:Array Value))).push (seqObj "tuple" [v,u].toArray 0)).push (seqObj "list" #[] 0)}
 rw[hh₂]
 dsimp only
 rw[if_neg (by simp),if_neg (by simp)]
 refine wpAny_bind (Zhp hv2 hu2 (wpAny_bind (wpAny_mono (kat_run (ks:=[v,u]) (vs:=[v,u]) (G:=fun p s'=>p=Zmo (Xa c d a b)∧s'={s with heap:=h₂}) (Q:=TwoS {s with heap:=h₂} v u (Xa c d a b))
  rfl (Nat.le_refl 2) (show 2<64 by decide) (fun p st' s' h1 h2 h3 h4=>.mk ((kat_snds (ks:=[v,u]) (vs:=[v,u]) rfl h2).trans (by rw[h4.1,ZkE])) h3 h4.2) (Zl3 ?_)) (fun r s' ht=>?_) fun _ _ e=>e)))
 ·exact Zli hu2 hv2 ⟨rfl,rfl⟩
 ·cases ht with|mk har hf es=>
  subst es
  rw[har]
  refine wpAny_bind (seqEpoch_at (s:={s with heap:=h₂}) hoD rfl (wpAny_bind (listUpdate_at (s:={s with heap:=h₂}) hoD rfl ?_ (Nat.zero_le _) (Zmn _ _ _))))
  rw[hf]
  simp only[bne_self_eq_false,Bool.false_eq_true,if_false]
  exact wpAny_pure (h _ _ (fun b o hb q=>((Heap.SameBut.update h₂ D _).2 b hb).trans (k₂ b o hb q)) (get?_update_seq hoD _))
theorem ZkK{l:Addr}{Q:Value→Shared→Prop}(hl:s.heap.IsList l [v,u].toArray)(hv:Y3 s.heap a b v)(hu:Y3 s.heap c d u)
  (h:∀h' D e,s.heap.get? D=none→(∀b o,s.heap.get? b=some o→h'.get? b=some o)→h'.get? D=some (seqObj "list" (Zf8 (Xa c d a b) v u) e)→Q (.ref D) {s with heap:=h'}):
  wpAny (model prog w) A (call (.builtin "sorted") [.ref l]) Q E s:=by
 refine Calls.call_function_entry kind_sorted plain_sorted entry_sorted (args_sorted1 _) ?_
 unfold Builtin.«sorted»
 refine wpAny_bind (m:=checkCount "sorted" 1 1 _) (wpAny_pure (wpAny_bind (collect_list hl (wpAny_bind (wpAny_newList ?_ (by size_fits))) (by size_fits))))
 have hsz:((s.heap.push (seqObj "list" #[] 0)).update s.heap.objs.size (Obj.mapSeq (·++[v,u].toArray))).objs.size=s.heap.objs.size+1:=by
  rw[Heap.size_update,size_push']
 generalize hh:(((s.heap.push (seqObj "list" #[] 0)).update s.heap.objs.size (Obj.mapSeq (·++[v,u].toArray))).push (seqObj "list" [v,u].toArray 0))=h₁
 have hoL:h₁.get? (s.heap.objs.size+1)=some (seqObj "list" #[v,u] 0):=by
  rw[← hh,← hsz];exact Heap.get?_push_size _ rfl
 have keep:∀b o,s.heap.get? b=some o→h₁.get? b=some o:=fun b o q=>by
  have hlt:b<s.heap.objs.size:=Heap.lt_size q
  rw[← hh,Heap.get?_push_ne _ _ _ (by rw[hsz];exact Nat.ne_of_lt (Nat.lt_succ_of_lt hlt)),Heap.get?_update_ne _ _ _ _ (Nat.ne_of_lt hlt),Heap.get?_push_ne _ _ _ (Nat.ne_of_lt hlt)]
  exact q
 have hn:s.heap.get? (s.heap.objs.size+1)=none:=Heap.get?_none_of_le (Nat.le_succ _)
 have up:∀{z:Value} {a b:Int},Y3 s.heap a b z→Y3 h₁ a b z:=fun p=>by
  cases p with|mk x o n t u h1 h2 h3=>exact .mk x o n t u (keep _ _ h1) h2 h3
 dsimp only
 rw[hsz]
 refine wpAny_bind (wpAny_holding (wpAny_call_entry slot_list_sort ⟨_,hoL,rfl⟩ entry_list_sort ?_ (args_list_sort _)))
 exact ZiC (s:={s with heap:=h₁}) hoL (up hv) (up hu) fun h' e hk hD=>⟨_,rfl,wpAny_pure ⟨_,rfl,h h' _ e hn (fun b o q=>hk b o (fun z=>by rw[z,hn]at q;cases q) (keep _ _ q)) hD⟩⟩
end
theorem Znv{β:Type}{w:Wd A}{D:β→Wd A→Prop}{E:Value→Shared→Prop}{G:List P→Prop}{l:List P}{f:P→P→Option (R β×Hp)}(k:Aft w D E (two l f))(go:∀x y,Aft w D E (f x y)→G [x,y]):G l:=by
 cases l with
 |nil=>exact k.elim
 |cons x r=>
  cases r with
  |nil=>exact k.elim
  |cons y t=>
   cases t with
   |nil=>exact go x y k
   |cons=>exact k.elim
theorem Zdp{x:P}{a:Int}(h:intP x=some a):x=.int a:=by
 cases x with
 |int=>exact congrArg _ (Option.some.inj h)
 |_=>exact nomatch h
theorem ZkF{x y:P}{p:Int×Int}(h:((intP x).bind fun a=>(intP y).map fun b=>(a,b))=some p):[x,y]=[.int p.1,.int p.2]:=by
 obtain⟨a,ha,h⟩:=Option.bind_eq_some_iff.mp h
 obtain⟨b,hb,rfl⟩:=Option.map_eq_some_iff.mp h
 rw[Zdp ha,Zdp hb]
theorem ZiD{α:Type}{l:List P}{f:P→P→Option α}{r:α}(h:two l f=some r){G:List P→Prop}(go:∀x y,f x y=some r→G [x,y]):G l:=by
 cases l with
 |nil=>cases h
 |cons x l=>
  cases l with
  |nil=>cases h
  |cons y l=>
   cases l with
   |nil=>exact go x y h
   |cons=>cases h
theorem Zbs{x:P}{p:Int×Int}(h:Zhq x=some p):x=.tuple [.int p.1,.int p.2]:=by
 cases x with
 |tuple l=>exact ZiD (G:=fun l=>PyData.tuple l=.tuple [.int p.1,.int p.2]) h fun x y h=>congrArg _ (ZkF h)
 |_=>exact nomatch h
theorem ZhS:FnN n (.builtin "sorted") (g1 ZdM):=fun A w vs ys hA hys Q E k=>g1_e k hys fun a y hy k=>l1_e k hy fun{cl o us m l} g1 g2 g3 g4 g5 k=>by
 refine Znv (G:=fun l=>PAll w.I us.toList l→wpAny MM A (call (.builtin "sorted") [.ref cl]) Q E w.s) k (fun p q k h4=>?_) g4
 obtain⟨ul⟩:=us
 cases hq:Zhq q with
 |none=>unfold Zas at k;rw[hq]at k;exact k.elim
 |some y=>
  cases hp:Zhq p with
  |none=>unfold Zas at k;rw[hq,hp]at k;exact k.elim
  |some x=>
   unfold Zas at k;rw[hq,hp]at k
   cases h4 with|@cons v _ _ _ q1 q2=>
   cases q2 with|@cons u _ _ _ q3 q4=>
   cases q4
   refine ZkK (v:=v) (u:=u) ⟨o,g1,g2,m,g3⟩ (PIn.pair w.b.keep (Zbs hp▸q1)) (PIn.pair w.b.keep (Zbs hq▸q3)) fun h' D e hn hk hD=>?_
   have c:=Chg.grow w hk
   have od:=w.off hn
   have k:=Zbt k
   have ha:PAll w.I (Zf8 (Xa y.1 y.2 x.1 x.2) v u).toList (if Xa y.1 y.2 x.1 x.2 then[q,p]else[p,q]):=by
    cases Xa y.1 y.2 x.1 x.2 with
    |true=>exact .cons q3 (.cons q1 .nil)
    |false=>exact .cons q1 (.cons q3 .nil)
   have mm:MRel w.I h' D (.lst (if Xa y.1 y.2 x.1 x.2 then[q,p]else[p,q])):=.lst od.i hD ha k.1
   exact k.2 ((w.chg h' w.s.toks c).adoptG D _ mm od.gf) rfl ((c.st _).adoptG mm od.gf hn) _ (Wd.last (w.chg h' w.s.toks c) mm od.gf)
end
section
open PySem.Calls PyProof.Rows
set_option genInjectivity false
set_option maxRecDepth 100000
variable{Γ:Cfg}{A:Around}{n:Nat}
noncomputable abbrev IsTup(h:Heap)(T:Addr)(arr:Array Value):Prop:=h.get? T=some {cls:=.type "tuple",data:=.seq arr}
structure Zs where
 it:Addr
 ax:Addr
 vs:Array Value
 all:List P
noncomputable abbrev Zs.its(zs:List Zs):List Addr:=zs.map (·.it)
noncomputable abbrev Zs.refs(zs:List Zs):List Value:=zs.map fun q=>.ref q.it
theorem Wb{h h':Heap}{ax:Addr}{vs:Array Value}(x:h.IsTuple ax vs)(k:∀o,h.get? ax=some o→h'.get? ax=some o):h'.IsTuple ax vs:=x.elim fun o r=>⟨o,k o r.1,r.2⟩
section
variable{prog:Program}{w:World}{E:Value→Shared→Prop}{s:Shared}
theorem Zav{it t:Addr}{i:Nat}{items:Array Value}{x:Value}{Q:Value→Shared→Prop}(hit:s.heap.IsTupleIter it t i)(ht:s.heap.IsTuple t items)(hx:items[i]?=some x)
  (hQ:∀h',h'.IsTupleIter it t (i+1)→Heap.SameBut it s.heap h'→Q x {s with heap:=h'}):wpAny (model prog w) A (Builtin.SmallTypes.nextOf (.ref it)) Q E s:=by
 obtain⟨o,ho,hc,hd⟩:=id hit
 obtain⟨ol,hol,_,nl,hdl⟩:=ht
 unfold Builtin.SmallTypes.nextOf
 refine wpAny_bind (wpAny_callSpecial?_slot (name:=Str.ofString "__next__") hit.typeIs F.slot_tuple_iterator_next
  (wpAny_call_entry F.slot_tuple_iterator_next hit.typeIs F.entry_tuple_iterator_next ?_ (F.args_tuple_iterator_next_1 _)))
 show wpAny _ _ (field (.ref it) 0>>=_) _ _ s
 refine wpAny_bind (wpAny_field ho hd (x:=.ref t) rfl ?_)
 show wpAny _ _ (if(Value.ref t==Value.none)=true then _ else _) _ _ s
 rw[if_neg (show¬((Value.ref t==Value.none)=true)from Bool.false_ne_true)]
 show wpAny _ _ (field (.ref it) 1>>=_) _ _ s
 refine wpAny_bind (wpAny_field ho hd (x:=.int i 0) rfl ?_)
 show wpAny _ _ (seqItems? (.ref t)>>=_) _ _ s
 refine wpAny_bind (wpAny_seqItems hol hdl ?_)
 simp only[Int.toNat_natCast,hx]
 refine wpAny_bind (wpAny_setField ho hd (by simp) (wpAny_pure ⟨x,rfl,wpAny_pure (hQ _ ?_ (Heap.SameBut.update ..))⟩))
 exact⟨_,Heap.get?_update_self _ ho (Obj.isFreed_of_fields (Obj.data_mapFields hd _)),(Obj.cls_mapFields ..).trans hc,by
  rw[Obj.data_mapFields hd];simp[rawInt]⟩
theorem ZaX{it t:Addr}{i:Nat}{items:Array Value}{Q:Value→Shared→Prop}(hh:A.handled=none)(hit:s.heap.IsTupleIter it t i)(ht:s.heap.IsTuple t items)(hx:items[i]?=none)
  (hE:∀h' e,Heap.ExtBut it s.heap h'→(∃o,h'.get? e=some o∧o.cls=.type "StopIteration")→E (.ref e) {s with heap:=h'}):wpAny (model prog w) A (Builtin.SmallTypes.nextOf (.ref it)) Q E s:=by
 obtain⟨o,ho,hc,hd⟩:=id hit
 obtain⟨ol,hol,_,nl,hdl⟩:=ht
 unfold Builtin.SmallTypes.nextOf
 refine wpAny_bind (wpAny_callSpecial?_slot (name:=Str.ofString "__next__") hit.typeIs F.slot_tuple_iterator_next
  (wpAny_call_entry F.slot_tuple_iterator_next hit.typeIs F.entry_tuple_iterator_next ?_ (F.args_tuple_iterator_next_1 _)))
 show wpAny _ _ (field (.ref it) 0>>=_) _ _ s
 refine wpAny_bind (wpAny_field ho hd (x:=.ref t) rfl ?_)
 show wpAny _ _ (if(Value.ref t==Value.none)=true then _ else _) _ _ s
 rw[if_neg (show¬((Value.ref t==Value.none)=true)from Bool.false_ne_true)]
 show wpAny _ _ (field (.ref it) 1>>=_) _ _ s
 refine wpAny_bind (wpAny_field ho hd (x:=.int i 0) rfl ?_)
 show wpAny _ _ (seqItems? (.ref t)>>=_) _ _ s
 refine wpAny_bind (wpAny_seqItems hol hdl ?_)
 simp only[Int.toNat_natCast,hx]
 refine wpAny_bind (wpAny_rule (wpAny_bind (wpAny_setField ho hd (by simp) ?_)))
 show wpAny _ _ (newExc (.type "StopIteration") []>>=_) _ _ _
 refine wpAny_bind ?_
 simp only[newExc,newTuple]
 refine wpAny_bind (wpAny_newObj_type ?_ (by size_fits))
 refine wpAny_bind (m:=firstArgMember _ _) (wpAny_of_eq (a:=Value.none) (by first|rfl|(simp only[firstArgMember];rfl)) ?_)
 refine wpAny_newObj_type ?_ (by size_fits)
 exact wpAny_raiseNew_none hh (hE _ _ (((Heap.SameBut.update ..).extBut.push _).push _) ⟨_,Heap.get?_push_size _ rfl,rfl⟩)
theorem ZkM{T:Addr}{arr:Array Value}{x:Value}{k:Nat}{Q:Unit→Shared→Prop}(hT:IsTup s.heap T arr)(hz:arr.size≤sizeLine)
  (h:∀h',IsTup h' T (arr.setIfInBounds k x)→Heap.SameBut T s.heap h'→Q () {s with heap:=h'}):wpAny (model prog w) A (updateSeq T (·.setIfInBounds k x)) Q E s:=by
 refine wpAny_updateSeq hT rfl (h _ ?_ (Heap.SameBut.update ..)) hz (by simp;exact Ar.a9 hz)
 show(s.heap.update T _).get? T=_
 rw[Heap.get?_update_self _ hT rfl]
 simp[Obj.mapSeq]
inductive ZL(h:Heap)(i:Nat):List Zs→List Value→Prop
 |nil:ZL h i [] []
 |cons {q:Zs} {v:Value} {zs vs}:h.IsTupleIter q.it q.ax i→h.IsTuple q.ax q.vs→q.vs[i]?=some v→ZL h i zs vs→ZL h i (q::zs) (v::vs)
theorem ZL.keep{h h':Heap}{i:Nat}{zs:List Zs}{vs:List Value}(x:ZL h i zs vs)(k:∀q∈zs,∀o,(h.get? q.it=some o→h'.get? q.it=some o)∧(h.get? q.ax=some o→h'.get? q.ax=some o)):ZL h' i zs vs:=by
 induction x with
 |nil=>exact .nil
 |cons a b c _ ih=>exact .cons (a.at fun o=>(k _ List.mem_cons_self o).1) (Wb b fun o=>(k _ List.mem_cons_self o).2) c (ih fun q hq=>k q (List.mem_cons_of_mem _ hq))
theorem ZL.len{h:Heap}{i:Nat}{zs:List Zs}{vs:List Value}(x:ZL h i zs vs):vs.length=zs.length:=by
 induction x with
 |nil=>rfl
 |cons _ _ _ _ ih=>exact congrArg (·+1) ih
theorem ZkN(pre rest:List Value)(y x:Value):(pre++y::rest).toArray.setIfInBounds pre.length x=((pre++[x])++rest).toArray:=by simp
theorem ZeZ{zs:List Zs}{q:Zs}(h:q∈zs):q.it∈Zs.its zs:=List.mem_map.mpr ⟨q,h,rfl⟩
theorem Zi4{TO:Addr}{σ:Type}{init:σ}{body:Value×Nat→σ→Sem (ForInStep σ)}{i:Nat}
  (hb:∀(it:Addr) (k:Nat) (s:Shared) (R:ForInStep σ→Shared→Prop),wpAny (model prog w) A (Builtin.SmallTypes.nextOf (.ref it)) (fun x s'=>∃arr,IsTup s'.heap TO arr∧arr.size≤sizeLine∧∀h',IsTup h' TO (arr.setIfInBounds k x)→Heap.SameBut TO s'.heap h'→R (.yield init) {s' with heap:=h'}) (fun _ _=>False) s→
   wpAny (model prog w) A (body (.ref it,k) init) R E s) {zs:List Zs} {vs:List Value}:
  ∀{s:Shared} {pre rest:List Value} {Q:σ→Shared→Prop},ZL s.heap i zs vs→(TO::Zs.its zs).Nodup→(∀q∈zs,q.ax∉TO::Zs.its zs)→IsTup s.heap TO (pre++rest).toArray→rest.length=zs.length→(pre++rest).length≤sizeLine→
   (∀h',IsTup h' TO (pre++vs).toArray→(∀q∈zs,h'.IsTupleIter q.it q.ax (i+1))→(∀b,b∉TO::Zs.its zs→h'.get? b=s.heap.get? b)→h'.objs.size=s.heap.objs.size→Q init {s with heap:=h'})→
   wpAny (model prog w) A (forIn ((Zs.refs zs).zipIdx pre.length) init body) Q E s:=by
 induction zs generalizing vs with
 |nil=>
  intro s pre rest Q x nd ax hT hl hz h
  cases x
  cases rest with
  |cons=>cases hl
  |nil=>
   rw[Zs.refs,List.map_nil,List.zipIdx_nil,List.forIn_nil]
   exact wpAny_pure (h s.heap hT (fun _ hj=>nomatch hj) (fun _ _=>rfl) rfl)
 |cons q zs ih=>
  intro s pre rest Q x nd ax hT hl hz h
  cases rest with
  |nil=>cases hl
  |cons y rest=>
  cases x with|@cons _ v _ vs a1 a2 a3 a4=>
  rw[Zs.refs,List.map_cons,List.zipIdx_cons,List.forIn_cons]
  have nd1:=List.nodup_cons.mp nd
  have nd2:=List.nodup_cons.mp nd1.2
  have tq:TO≠q.it:=fun e=>nd1.1 (e▸List.mem_cons_self)
  refine wpAny_bind (hb _ _ _ _ (Zav a1 a2 a3 fun h₁ b1 b2=>⟨_,(b2.2 _ tq).trans hT,by simpa using hz,fun h₂ c1 c2=>?_⟩))
  rw[ZkN]at c1
  have same:∀b,b≠TO→b≠q.it→h₂.get? b=s.heap.get? b:=fun b q1 q2=>(c2.2 b q1).trans (b2.2 b q2)
  have tail:∀{b},b∉TO::Zs.its (q::zs)→b∉TO::Zs.its zs:=fun hn hm=>hn ((List.mem_cons.mp hm).elim (fun e=>e▸List.mem_cons_self) fun e=>List.mem_cons_of_mem _ (List.mem_cons_of_mem _ e))
  have sm:∀b,b∉TO::Zs.its (q::zs)→h₂.get? b=s.heap.get? b:=fun b hn=>same b (fun e=>hn (e▸List.mem_cons_self)) fun e=>hn (e▸List.mem_cons_of_mem _ List.mem_cons_self)
  have hne:(pre++[v]).length=pre.length+1:=by simp
  have ih:=ih (s:={s with heap:=h₂}) (pre:=pre++[v]) (rest:=rest) (Q:=Q)
   (a4.keep fun j hj o=>⟨fun e=>(same _ (fun e=>nd1.1 (e▸List.mem_cons_of_mem _ (ZeZ hj))) fun e=>nd2.1 (show q.it∈Zs.its zs from e▸ZeZ hj)).trans e,fun e=>(sm _ (ax j (List.mem_cons_of_mem _ hj))).trans e⟩)
   (List.nodup_cons.mpr ⟨fun hm=>nd1.1 (List.mem_cons_of_mem _ hm),nd2.2⟩) (fun j hj=>tail (ax j (List.mem_cons_of_mem _ hj))) c1 (Nat.succ.inj hl) (by simpa using hz) fun h₃ d1 d2 d3 d4=>by
   refine h h₃ (by rw[List.append_cons];exact d1) (fun j hj=>?_) (fun b hn=>(d3 b (tail hn)).trans (sm b hn)) (d4.trans (c2.1.trans b2.1))
   rcases List.mem_cons.mp hj with rfl|hj
   ·exact(b1.at fun o e=>(c2.2 _ (Ne.symm tq)).trans e).at fun o e=>(d3 _ fun hm=>(List.mem_cons.mp hm).elim (fun e=>tq e.symm) nd2.1).trans e
   ·exact d2 j hj
  rw[hne]at ih
  exact ih
end
end
section
open PySem.Calls PyProof.Rows
set_option genInjectivity false
set_option maxRecDepth 100000
variable{Γ:Cfg}{A:Around}{n:Nat}
section
variable{prog:Program}{w:World}{E:Value→Shared→Prop}{s:Shared}{z TI TO:Addr}{zs:List Zs}{i:Nat}
structure ZOwn(z TI TO:Addr)(zs:List Zs):Prop where
 nd:(TO::Zs.its zs).Nodup
 zo:z∉TO::Zs.its zs
 ti:TI∉z::TO::Zs.its zs
 ax:∀q∈zs,q.ax∉z::TO::Zs.its zs
 len:zs.length≤sizeLine
 ne:zs.isEmpty=false
theorem ZOwn.TOz(o:ZOwn z TI TO zs):TO≠z:=fun e=>o.zo (e▸List.mem_cons_self)
theorem ZOwn.itz(o:ZOwn z TI TO zs){q:Zs}(h:q∈zs):q.it≠z:=fun e=>o.zo (List.mem_cons_of_mem _ (e▸ZeZ h))
theorem ZOwn.axz(o:ZOwn z TI TO zs){q:Zs}(h:q∈zs):q.ax≠z:=fun e=>o.ax q h (e▸List.mem_cons_self)
theorem Zi5{vs pre:List Value}{Q:Value→Shared→Prop}(o:ZOwn z TI TO zs)(hz:IsZip s.heap z TI TO .none)(hTI:IsTup s.heap TI (Zs.refs zs).toArray)(hTO:IsTup s.heap TO pre.toArray)(hl:pre.length=zs.length)(hj:ZL s.heap i zs vs)
  (hQ:∀h',IsZip h' z TI TO (rawInt s.heap.objs.size)→IsTup h' TO vs.toArray→(∀q∈zs,h'.IsTupleIter q.it q.ax (i+1))→IsTup h' s.heap.objs.size vs.toArray→
   (∀c o,c∉z::TO::Zs.its zs→s.heap.get? c=some o→h'.get? c=some o)→Q (.ref s.heap.objs.size) {s with heap:=h'}):
  wpAny (model prog w) A (Builtin.«zip.__next__» ⟨[.ref z],[]⟩) (fun fin s'=>∃v,fin=.done (.ret v)∧Q v s') E s:=by
 have hv:vs.length≤sizeLine:=hj.len▸o.len
 show wpAny _ _ (field (.ref z) 2>>=_) _ _ _
 refine wpAny_bind (wpAny_field hz rfl (x:=.bool false) rfl ?_)
 show wpAny _ _ (field (.ref z) 3>>=_) _ _ _
 refine wpAny_bind (wpAny_field hz rfl (x:=.ref TI) rfl (wpAny_bind (wpAny_seqItems hTI rfl ?_)))
 have em:(Zs.refs zs).toArray.isEmpty=false:=by
  have:=o.ne
  cases zs with
  |nil=>cases this
  |cons=>rfl
 dsimp only
 rw[em]
 show wpAny _ _ (Builtin.SmallTypes.ownedTupleIsFree (.ref z)>>=_) _ _ _
 refine wpAny_bind (wpAny_bind (wpAny_field hz rfl (x:=.none) rfl (wpAny_pure ?_)))
 show wpAny _ _ (rule _>>=_) _ _ _
 refine wpAny_bind (wpAny_rule (wpAny_bind (wpAny_field hz rfl (x:=.ref TO) rfl (wpAny_bind (wpAny_setField_rec hz (by simp) fun h₁ hz₁ hs₁=>?_)))))
 replace hz₁:IsZip h₁ z TI TO .ellipsis:=hz₁
 refine wpAny_bind (Zi4 (s:={s with heap:=h₁}) (pre:=[]) (TO:=TO) (i:=i) (fun it k s R hR=>?_) (hj.keep fun q hq o'=>⟨hs₁.extBut _ _ (o.itz hq),hs₁.extBut _ _ (o.axz hq)⟩) o.nd
  (fun q hq hm=>o.ax q hq (List.mem_cons_of_mem _ hm)) (hs₁.extBut _ _ o.TOz hTO) hl (by rw[List.nil_append,hl];exact o.len) fun h₂ hTO₂ hit₂ hs₂ hz₂=>?_)
 ·refine wpAny_bind (wpAny_onRaise ?_)
  show wpAny _ _ (Builtin.SmallTypes.nextOf (.ref it)>>=_) _ _ _
  refine wpAny_bind (wpAny_mono hR (fun x s' ⟨arr',c1,c2,c3⟩=>wpAny_pure ?_) fun _ _ hF=>hF.elim)
  exact wpAny_bind (wpAny_seqItems c1 rfl (wpAny_bind (ZkM c1 c2 fun h' d1 d2=>wpAny_bind (wpAny_letGo (wpAny_pure (c3 h' d1 d2))))))
 rw[List.nil_append]at hTO₂
 have hz₂':IsZip h₂ z TI TO .ellipsis:=(hs₂ z o.zo).trans hz₁
 have hsize:h₂.objs.size=s.heap.objs.size:=hz₂.trans hs₁.1
 refine wpAny_bind (wpAny_seqItems hTO₂ rfl (wpAny_bind (wpAny_newTuple ?_ hv)))
 show wpAny _ _ (Builtin.SmallTypes.ownedTupleHandOut (.ref z) (.ref h₂.objs.size)>>=_) _ _ _
 have hz₃:IsZip (h₂.push {cls:=.type "tuple",data:=.seq vs.toArray}) z TI TO .ellipsis:=Heap.get?_push_of_some _ hz₂'
 refine wpAny_bind (wpAny_bind (wpAny_setField_rec hz₃ (by simp) fun h₇ hz₇ hs₇=>wpAny_setField_rec hz₇ (by simp) fun h₈ hz₈ hs₈=>?_))
 replace hz₈:IsZip h₈ z TI TO (rawInt h₂.objs.size):=hz₈
 have up:∀c o,c≠z→h₂.get? c=some o→h₈.get? c=some o:=fun c o c1 e=>hs₈.extBut _ _ c1 (hs₇.extBut _ _ c1 (Heap.get?_push_of_some _ e))
 have hzlt:=Nat.ne_of_gt (Heap.lt_size hz₂')
 have hT₈:IsTup h₈ h₂.objs.size vs.toArray:=hs₈.extBut _ _ hzlt (hs₇.extBut _ _ hzlt (Heap.get?_push_size _ rfl))
 refine wpAny_pure ⟨_,rfl,?_⟩
 show Q (.ref h₂.objs.size) _
 rw[hsize]at hz₈ hT₈ ⊢
 exact hQ h₈ hz₈ (up _ _ o.TOz hTO₂) (fun q hq=>(hit₂ q hq).at fun o'=>up _ _ (o.itz hq)) hT₈ fun c o' hc e=>up c o' (fun q=>hc (q▸List.mem_cons_self)) ((hs₂ c fun hm=>hc (List.mem_cons_of_mem _ hm)).trans (hs₁.extBut _ _ (fun q=>hc (q▸List.mem_cons_self)) e))
theorem Zk6{q:Zs}{Q:PySem.Fin→Shared→Prop}(hh:A.handled=none)(o:ZOwn z TI TO (q::zs))(hz:IsZip s.heap z TI TO .none)(hTI:IsTup s.heap TI (Zs.refs (q::zs)).toArray)
  (hit:s.heap.IsTupleIter q.it q.ax i) (hax:s.heap.IsTuple q.ax q.vs) (hend:q.vs[i]?=none)
  (hE:∀h' e,(∀c o,c≠z→c≠q.it→s.heap.get? c=some o→h'.get? c=some o)→(∃o,h'.get? e=some o∧o.cls=.type "StopIteration")→E (.ref e) {s with heap:=h'}):
  wpAny (model prog w) A (Builtin.«zip.__next__» ⟨[.ref z],[]⟩) Q E s:=by
 show wpAny _ _ (field (.ref z) 2>>=_) _ _ _
 refine wpAny_bind (wpAny_field hz rfl (x:=.bool false) rfl ?_)
 show wpAny _ _ (field (.ref z) 3>>=_) _ _ _
 refine wpAny_bind (wpAny_field hz rfl (x:=.ref TI) rfl (wpAny_bind (wpAny_seqItems hTI rfl ?_)))
 show wpAny _ _ (Builtin.SmallTypes.ownedTupleIsFree (.ref z)>>=_) _ _ _
 refine wpAny_bind (wpAny_bind (wpAny_field hz rfl (x:=.none) rfl (wpAny_pure ?_)))
 show wpAny _ _ (rule _>>=_) _ _ _
 refine wpAny_bind (wpAny_rule (wpAny_bind (wpAny_field hz rfl (x:=.ref TO) rfl (wpAny_bind (wpAny_setField_rec hz (by simp) fun h₁ hz₁ hs₁=>?_)))))
 replace hz₁:IsZip h₁ z TI TO .ellipsis:=hz₁
 have nz:=o.itz List.mem_cons_self
 simp only[Zs.refs,List.map_cons,List.zipIdx_cons,List.forIn_cons]
 refine wpAny_bind (wpAny_bind (wpAny_bind (wpAny_onRaise ?_)))
 show wpAny _ _ (Builtin.SmallTypes.nextOf (.ref q.it)>>=_) _ _ _
 refine wpAny_bind (ZaX hh (hit.at fun o=>hs₁.extBut _ _ nz) (Wb hax fun o'=>hs₁.extBut _ _ (o.axz List.mem_cons_self)) hend fun h₂ e hs₂ ⟨oe,hoe,hce⟩=>?_)
 have hz₂:IsZip h₂ z TI TO .ellipsis:=hs₂ _ _ (Ne.symm nz) hz₁
 have hez:e≠z:=fun x=>by subst x;rw[hz₂]at hoe;cases hoe;exact absurd (Value.type.inj hce) (by decide)
 exact wpAny_setField_rec hz₂ (by simp) fun h₃ _ hs₃=>hE h₃ e (fun c o c1 c3 x=>hs₃.extBut _ _ c1 (hs₂ _ _ c3 (hs₁.extBut _ _ c1 x))) ⟨oe,hs₃.extBut _ _ hez hoe,hce⟩
end
end
section
open PySem.Calls PyProof.Rows
set_option genInjectivity false
set_option maxRecDepth 100000
variable{Γ:Cfg}{A:Around}{n:Nat}
structure Zf2(R:List P)(alls:List (List P)):Prop where
 row:∀(i:Nat) (p:P),R[i]?=some p→∃cs:List P,p=PyData.tuple cs∧alls.map (fun a=>a[i]?)=cs.map some
 fin:∀i:Nat,R[i]?=none→∀a r,alls=a::r→a[i]?=none
noncomputable def ZF(w:Wd A)(zs:List Zs):Prop:=∀q∈zs,SeqF "tuple" q.ax q.vs q.all w
theorem SeqF.tup{w:Wd A}{T:String}{ax:Addr}{vs:Array Value}{all:List P}(h:SeqF T ax vs all w):∃o,w.s.heap.get? ax=some o∧o.cls=.type T∧∃n,o.data=.seq vs n:=by
 cases h with|mk o m a2 a3 a4 a5=>exact⟨o,w.b.keep _ _ a2,a3,m,a4⟩
theorem SeqF.get{w:Wd A}{T:String}{ax:Addr}{vs:Array Value}{all:List P}(h:SeqF T ax vs all w){i:Nat}{p:P}(e:all[i]?=some p):∃v,vs[i]?=some v∧PIn w.I v p:=by
 cases h with|mk o m a2 a3 a4 a5=>exact(a5.get e).elim fun v h=>⟨v,Zd9 h.1,h.2⟩
theorem ZF.row{w:Wd A}{i:Nat}:∀{zs:List Zs} {cs:List P},ZF w zs→(∀q∈zs,w.s.heap.IsTupleIter q.it q.ax i)→(zs.map (·.all)).map (fun a=>a[i]?)=cs.map some→∃vs,ZL w.s.heap i zs vs∧PAll w.I vs cs:=by
 intro zs
 induction zs with
 |nil=>
  intro cs _ _ e
  cases cs with
  |nil=>exact⟨[],.nil,.nil⟩
  |cons=>cases e
 |cons q zs ih=>
  intro cs x hi e
  cases cs with
  |nil=>cases e
  |cons c cs=>
   obtain⟨vs,z,p⟩:=ih (fun q hq=>x q (List.mem_cons_of_mem _ hq)) (fun q hq=>hi q (List.mem_cons_of_mem _ hq)) (List.cons.inj e).2
   obtain⟨v,hv,hp⟩:=(x q List.mem_cons_self).get (List.cons.inj e).1
   exact⟨v::vs,.cons (hi _ List.mem_cons_self) (x q List.mem_cons_self).tup hv z,.cons hp p⟩
theorem ZeW{prog:Program}{w:World}{E:Value→Shared→Prop}{s:Shared}{z TI TO:Addr}{Q:Option Value→Shared→Prop}(hz:IsZip s.heap z TI TO .none)
  (h:wpAny (model prog w) A.in1 (Builtin.«zip.__next__» ⟨[.ref z],[]⟩) (fun fin s'=>∃v,fin=.done (.ret v)∧Q (some v) s') (fun e s'=>∃o a,e=.ref a∧s'.heap.get? a=some o∧o.cls=.type "StopIteration"∧Q none s') s):wpAny (model prog w) A (pyNext (.ref z)) Q E s:=by
 have hT:s.TypeIs (.ref z) "zip":=⟨_,hz,rfl⟩
 unfold pyNext
 refine wpAny_bind (wpAny_attempt (wpAny_callSpecial?_slot (name:=Str.ofString "__next__") hT F.slot_zip_next (wpAny_call_entry F.slot_zip_next hT F.entry_zip_next ?_ (F.args_zip_next_1 _))))
 refine wpAny_mono h (fun fin s' hf=>?_) fun e s' he=>?_
 ·obtain⟨v,rfl,hq⟩:=hf
  exact⟨v,rfl,wpAny_pure hq⟩
 ·obtain⟨o,a,rfl,ho,hc,hq⟩:=he
  refine wpAny_bind (wpAny_isInstance (T:="StopIteration") (b:=true) ⟨o,ho,hc⟩ isSubtype_stop ?_)
  exact wpAny_pure hq
inductive ZipS(z TI TO:Addr)(zs:List Zs)(R ps:List P)(w:Wd A):Prop
 |mk (i:Nat) (pre:List Value):(∀b∈z::TO::Zs.its zs,Yx w b)→w.I TI=some {cls:=.type "tuple",data:=.seq (Zs.refs zs).toArray}→IsZip w.s.heap z TI TO .none→IsTup w.s.heap TO pre.toArray→pre.length=zs.length→
   (∀q∈zs,w.s.heap.IsTupleIter q.it q.ax i)→ZF w zs→ps=R.drop i→ZipS z TI TO zs R ps w
theorem Zdk{w:Wd A}{l:List Addr}(own:∀b∈l,Yx w b){a:Addr}{o:Obj}(e:w.I a=some o):a∉l:=fun hm=>by have:=(own a hm).off.i;rw[e]at this;cases this
theorem ZF.own{w:Wd A}{z TI TO:Addr}{zs:List Zs}{o:Obj}(x:ZF w zs)(own:∀b∈z::TO::Zs.its zs,Yx w b)(hT:w.I TI=some o)(nd:(z::TO::Zs.its zs).Nodup)(hl:zs.length≤sizeLine)(ne:zs.isEmpty=false):ZOwn z TI TO zs where
 nd:=(List.nodup_cons.mp nd).2
 zo:=(List.nodup_cons.mp nd).1
 ti:=Zdk own hT
 ax:=fun q hq=>by cases x q hq with|mk _ _ a=>exact Zdk own a
 len:=hl
 ne:=ne
theorem Zl6(hh:A.handled=none)(es:List Expr)(kk:Nat)(pos:Pos){z TI TO:Addr}{q₀:Zs}{zs:List Zs}{R:List P}(nd:(z::TO::Zs.its (q₀::zs)).Nodup)(hl:(q₀::zs).length≤sizeLine)(hR:Zf2 R ((q₀::zs).map (·.all))):
  It A (.Tuple es kk pos) (.ref z) (z::TO::Zs.its (q₀::zs)) nxtL (ZipS z TI TO (q₀::zs) R) where
 own:=fun h=>by cases h with|mk i pre own=>exact own
 frame:=fun{st w w' Y} h st hY=>by
  cases h with|mk i pre own hT hz hO hp hi x e=>
  have k:∀b∈z::TO::Zs.its (q₀::zs),∀o,w.s.heap.get? b=some o→w'.s.heap.get? b=some o:=fun b hb o e=>(own b hb).kept st (hY b hb) e
  exact .mk i pre (fun b hb=>(own b hb).step st) (st.mono _ _ hT) (k z List.mem_cons_self _ hz) (k TO (List.mem_cons_of_mem _ List.mem_cons_self) _ hO) hp (fun q hq=>(hi q hq).at (k q.it (List.mem_cons_of_mem _ (List.mem_cons_of_mem _ (ZeZ hq))))) (fun q hq=>(x q hq).st st) e
 self:=fun h k=>by cases h with|mk i pre own hT hz=>exact wpAny_pyIter_zip hz k
 done:=fun{st w Q E} hn h k=>by
  cases h with|mk i pre own hT hz hO hp hi x e=>
  have o:=x.own own hT nd hl rfl
  have hq:=x q₀ List.mem_cons_self
  have e:=drop_nil ((XW hn).symm.trans e)
  have hend:q₀.vs[i]?=none:=by cases hq with|mk _ _ _ _ _ a5=>exact Zd3 a5 (hR.fin i e _ _ rfl)
  refine ZeW hz (Zk6 hh o hz (w.b.keep _ _ hT) (hi q₀ List.mem_cons_self) hq.tup hend fun h' e hk he=>he.elim fun oe ho=>⟨oe,e,rfl,ho.1,ho.2,?_⟩)
  exact It.fin (t:=w.s.toks) own (fun a o hn x=>hk a o (fun q=>hn (q▸List.mem_cons_self)) (fun q=>hn (q▸List.mem_cons_of_mem _ (List.mem_cons_of_mem _ List.mem_cons_self))) x) k
 item:=fun{p st st' w Q E} hn h k=>by
  cases h with|mk i pre own hT hz hO hp hi x e=>
  have o:=x.own own hT nd hl rfl
  obtain⟨e,es'⟩:=WV ((XV hn).symm.trans e)
  obtain⟨cs,rfl,hrow⟩:=hR.row i p e
  obtain⟨vs,zl,hv⟩:=x.row hi hrow
  refine ZeW hz (Zi5 o hz (w.b.keep _ _ hT) hO hp zl fun h' z1 z2 z3 z4 z5=>⟨_,rfl,wpAny_letOwnedTupleGo_zip z1 fun h'' w1 w2=>?_⟩)
  have up:∀b o,b≠z→h'.get? b=some o→h''.get? b=some o:=fun b o=>w2.extBut b o
  have zlt:=Nat.ne_of_gt (Heap.lt_size hz)
  have iters:∀q∈q₀::zs,h''.IsTupleIter q.it q.ax (i+1):=fun q hq=>(z3 q hq).at fun o'=>up _ _ (o.itz hq)
  have hO'':=up _ _ o.TOz z2
  have c:Chg w (z::TO::Zs.its (q₀::zs)) h'':=.priv (fun b hb=>(own b hb).off) (fun a o hn x=>up _ _ (fun q=>hn (q▸List.mem_cons_self)) (z5 a o hn x)) fun a ha=>by
   rcases List.mem_cons.mp ha with rfl|ha
   ·exact⟨_,w1⟩
   rcases List.mem_cons.mp ha with rfl|ha
   ·exact⟨_,hO''⟩
   obtain⟨q,hq,rfl⟩:=List.mem_map.mp ha
   exact(iters q hq).elim fun o h=>⟨o,h.1⟩
  obtain⟨w',e2,e3,st,hI,m'⟩:=Zhr (t:=w.s.toks) c w.new (fun hm=>(own _ hm).ex.elim fun o e=>Nat.lt_irrefl _ (Heap.lt_size e)) (up _ _ zlt z4)
  have e4:w'.s.heap=h'':=by rw[e3]
  have hcs:cs.length≤sizeLine:=by
   have:=congrArg List.length hrow
   rw[List.length_map,List.length_map,List.length_map]at this
   exact this▸hl
  have fin:=k _ w' e2 st (.tup (vs:=vs.toArray) (n:=0) hI rfl rfl hcs (hv.mono m')) (.mk (i+1) vs (fun b hb=>(own b hb).step st) (m' _ _ hT) (e4▸w1) (e4▸hO'') zl.len (fun q hq=>e4▸iters q hq) (fun q hq=>(x q hq).st st) es')
  rw[e3]at fin
  exact fin
end
section
open PySem.Calls PyProof.Rows
set_option genInjectivity false
set_option maxRecDepth 100000
variable{Γ:Cfg}{A:Around}{n:Nat}
noncomputable abbrev YU(a:Addr):Obj:={cls:=.type "tuple_iterator",data:=.fields #[.ref a,.int 0 0]}
noncomputable abbrev tupO(arr:Array Value):Obj:={cls:=.type "tuple",data:=.seq arr}
noncomputable abbrev zipO(TI TO:Addr):Obj:={cls:=.type "zip",data:=.fields #[.none,.bool false,.bool false,.ref TI,.ref TO]}
theorem Xl{h:Heap}{t:Addr}{items:Array Value}(x:h.IsTuple t items)(o:Obj):(h.push o).IsTuple t items:=Wb x fun _ e=>Heap.get?_push_of_some _ e
theorem ZfY(l1 l2:Addr)(xs ys:Array Value):
  Meets (Builtin.«zip.__new__» ⟨[.type "zip",.ref l1,.ref l2],[]⟩) (fun _ R s=>s.heap.IsTuple l1 xs∧s.heap.IsTuple l2 ys∧
   R (.ok (.ret (.ref (((((s.heap.push (YU l1)).push (YU l2)).push (tupO #[.ref s.heap.objs.size,.ref (s.heap.push (YU l1)).objs.size])).push (tupO #[.none,.none])).objs.size))))
    {s with heap:=((((s.heap.push (YU l1)).push (YU l2)).push (tupO #[.ref s.heap.objs.size,.ref (s.heap.push (YU l1)).objs.size])).push (tupO #[.none,.none])).push (zipO (((s.heap.push (YU l1)).push (YU l2)).objs.size) ((((s.heap.push (YU l1)).push (YU l2)).push (tupO #[.ref s.heap.objs.size,.ref (s.heap.push (YU l1)).objs.size])).objs.size))}):=
 .of_wp fun prog w A R s h=>by
  obtain⟨hp,g,d,tk,os⟩:=s;obtain⟨hl1,hl2,h⟩:=h
  have hsub:=sub_zip
  have hL1:Heap.IsTuple (Shared.heap ⟨hp,g,d,tk,os⟩) l1 xs:=hl1
  have hL2:Heap.IsTuple (Shared.heap ⟨hp.push (YU l1),g,d,tk,os⟩) l2 ys:=Xl hl2 _
  wp_walk using wpAny_pyIter_tuple hL1,wpAny_pyIter_tuple hL2
  exact⟨_,rfl,h⟩
noncomputable abbrev y1(h:Heap)(l1:Addr):Heap:=h.push (YU l1)
noncomputable abbrev y2(h:Heap)(l1 l2:Addr):Heap:=(y1 h l1).push (YU l2)
noncomputable abbrev y3(h:Heap)(l1 l2 l3:Addr):Heap:=(y2 h l1 l2).push (YU l3)
noncomputable abbrev y4(h:Heap)(l1 l2 l3:Addr):Heap:=(y3 h l1 l2 l3).push (tupO #[.ref h.objs.size,.ref (y1 h l1).objs.size,.ref (y2 h l1 l2).objs.size])
noncomputable abbrev y5(h:Heap)(l1 l2 l3:Addr):Heap:=(y4 h l1 l2 l3).push (tupO #[.none,.none,.none])
noncomputable abbrev y6(h:Heap)(l1 l2 l3:Addr):Heap:=(y5 h l1 l2 l3).push (zipO (y3 h l1 l2 l3).objs.size (y4 h l1 l2 l3).objs.size)
set_option maxHeartbeats 2000000 in
theorem ZfX(l1 l2 l3:Addr)(xs ys zs:Array Value):
  Meets (Builtin.«zip.__new__» ⟨[.type "zip",.ref l1,.ref l2,.ref l3],[]⟩) (fun _ R s=>s.heap.IsTuple l1 xs∧s.heap.IsTuple l2 ys∧s.heap.IsTuple l3 zs∧
   R (.ok (.ret (.ref (y5 s.heap l1 l2 l3).objs.size))) {s with heap:=y6 s.heap l1 l2 l3}):=
 .of_wp fun prog w A R s h=>by
  obtain⟨hp,g,d,tk,os⟩:=s;obtain⟨hl1,hl2,hl3,h⟩:=h
  have hsub:=sub_zip
  have hL1:Heap.IsTuple (Shared.heap ⟨hp,g,d,tk,os⟩) l1 xs:=hl1
  have hL2:Heap.IsTuple (Shared.heap ⟨hp.push (YU l1),g,d,tk,os⟩) l2 ys:=Xl hl2 _
  have hL3:Heap.IsTuple (Shared.heap ⟨(hp.push (YU l1)).push (YU l2),g,d,tk,os⟩) l3 zs:=Xl (Xl hl3 _) _
  wp_walk using wpAny_pyIter_tuple hL1,wpAny_pyIter_tuple hL2,wpAny_pyIter_tuple hL3
  exact⟨_,rfl,h⟩
theorem ZaT(a b c:Value):checkTypeCall "zip" ⟨[a,b,c],[]⟩=pure ():=by kernel_rfl
theorem Zcf(a b c:Value):checkBuiltinCall "zip.__new__" ⟨[.type "zip",a,b,c],[]⟩=pure ():=by kernel_rfl
theorem Qc(a b c d:Value):argsOk "object.__init__" ⟨[a,b,c,d],[]⟩:=by
 unfold argsOk;rw[signature?_of (id:="object.__init__") (n:=['_','_','t','i','n','i','_','_']) (o:=['t','c','e','j','b','o']) (by kernel_rfl) F.owner_object];kernel_rfl
noncomputable def Q8(h:Heap):List Obj→Heap
 |[]=>h
 |o::r=>Q8 (h.push o) r
theorem W9{a:Addr}{x:Obj}:∀{os:List Obj} {h:Heap},h.get? a=some x→(Q8 h os).get? a=some x:=by
 intro os
 induction os with
 |nil=>exact fun h=>h
 |cons o r ih=>exact fun h=>ih (Heap.get?_push_of_some _ h)
theorem ZN{h:Heap}{os:List Obj}{i:Nat}{o:Obj}(e:os[i]?=some o)(hf:o.isFreed=false):(Q8 h os).get? (h.objs.size+i)=some o:=by
 induction os generalizing h i with
 |nil=>cases e
 |cons x r ih=>
  cases i with
  |zero=>cases e;exact W9 (os:=r) (h:=h.push o) (Heap.get?_push_size _ hf)
  |succ i=>
   have:=ih (h:=h.push x) e
   rw[Heap.size_push,Nat.add_right_comm,Nat.add_assoc]at this
   exact this
structure Ze7(h h':Heap)(m:Nat)(zs:List Zs):Prop where
 keep:∀a o,h.get? a=some o→h'.get? a=some o
 ti:IsTup h' (h.objs.size+m) (Zs.refs zs).toArray
 zip:IsZip h' (h.objs.size+(m+2)) (h.objs.size+m) (h.objs.size+(m+1)) .none
 to:∃pre:List Value,pre.length=zs.length∧IsTup h' (h.objs.size+(m+1)) pre.toArray
 iter:∀q∈zs,h'.IsTupleIter q.it q.ax 0
 it:Zs.its zs=(List.range m).map (h.objs.size+·)
noncomputable abbrev zo2(N l1 l2:Addr):List Obj:=[YU l1,YU l2,tupO #[.ref N,.ref (N+1)],tupO #[.none,.none],zipO (N+2) (N+3)]
noncomputable abbrev zo3(N l1 l2 l3:Addr):List Obj:=[YU l1,YU l2,YU l3,tupO #[.ref N,.ref (N+1),.ref (N+2)],tupO #[.none,.none,.none],zipO (N+3) (N+4)]
theorem ZhD{h:Heap}{a b:Addr}(e:h.get? a=some (YU b)):h.IsTupleIter a b 0:=⟨_,e,rfl,rfl⟩
theorem Zg0(h:Heap)(l1 l2:Addr)(xs ys:Array Value)(p q:List P):Ze7 h (Q8 h (zo2 h.objs.size l1 l2)) 2 [⟨h.objs.size,l1,xs,p⟩,⟨h.objs.size+1,l2,ys,q⟩]:=
 ⟨fun _ _=>W9,ZN (i:=2) rfl rfl,ZN (i:=4) rfl rfl,⟨[.none,.none],rfl,ZN (i:=3) rfl rfl⟩,fun z hz=>(List.mem_cons.mp hz).elim (fun e=>e▸ZhD (ZN (i:=0) rfl rfl)) fun hz=>List.mem_singleton.mp hz▸ZhD (ZN (i:=1) rfl rfl),rfl⟩
theorem Zgz(h:Heap)(l1 l2 l3:Addr)(xs ys zs:Array Value)(p q r:List P):Ze7 h (Q8 h (zo3 h.objs.size l1 l2 l3)) 3 [⟨h.objs.size,l1,xs,p⟩,⟨h.objs.size+1,l2,ys,q⟩,⟨h.objs.size+2,l3,zs,r⟩]:=
 ⟨fun _ _=>W9,ZN (i:=3) rfl rfl,ZN (i:=5) rfl rfl,⟨[.none,.none,.none],rfl,ZN (i:=4) rfl rfl⟩,fun z hz=>(List.mem_cons.mp hz).elim (fun e=>e▸ZhD (ZN (i:=0) rfl rfl)) fun hz=>(List.mem_cons.mp hz).elim (fun e=>e▸ZhD (ZN (i:=1) rfl rfl)) fun hz=>List.mem_singleton.mp hz▸ZhD (ZN (i:=2) rfl rfl),rfl⟩
section
variable{prog:Program}{w:World}{E:Value→Shared→Prop}{s:Shared}
theorem Zir{l1 l2:Addr}{xs ys:Array Value}{Q:Value→Shared→Prop}(hl1:s.heap.IsTuple l1 xs)(hl2:s.heap.IsTuple l2 ys)
  (h:Q (.ref (s.heap.objs.size+4)) {s with heap:=Q8 s.heap (zo2 s.heap.objs.size l1 l2)}):wpAny (model prog w) A (call (.type "zip") [.ref l1,.ref l2]) Q E s:=by
 refine callType_new F.called_zip (by decide) (F.typeCall_zip_2 _ _) (F.newCall_zip_2 _ _) (fun obj=>F.args_object_init_3 obj _ _) F.entry_zip_new (ZfY l1 l2 xs ys) ⟨hl1,hl2,?_⟩
 simp only[Heap.size_push]
 exact⟨⟨_,ZN (os:=zo2 s.heap.objs.size l1 l2) (i:=4) rfl rfl,rfl⟩,h⟩
theorem Ziq{l1 l2 l3:Addr}{xs ys zs:Array Value}{Q:Value→Shared→Prop}(hl1:s.heap.IsTuple l1 xs)(hl2:s.heap.IsTuple l2 ys)(hl3:s.heap.IsTuple l3 zs)
  (h:Q (.ref (s.heap.objs.size+5)) {s with heap:=Q8 s.heap (zo3 s.heap.objs.size l1 l2 l3)}):wpAny (model prog w) A (call (.type "zip") [.ref l1,.ref l2,.ref l3]) Q E s:=by
 refine callType_new F.called_zip (by decide) (ZaT _ _ _) (Zcf _ _ _) (fun obj=>Qc obj _ _ _) F.entry_zip_new (ZfX l1 l2 l3 xs ys zs) ⟨hl1,hl2,hl3,?_⟩
 have e:y6 s.heap l1 l2 l3=Q8 s.heap (zo3 s.heap.objs.size l1 l2 l3):=by simp only[y6,y5,y4,y3,y2,y1,Heap.size_push];rfl
 have e5:(y5 s.heap l1 l2 l3).objs.size=s.heap.objs.size+5:=by simp only[y5,y4,y3,y2,y1,Heap.size_push]
 rw[e,e5]
 exact⟨⟨_,ZN (os:=zo3 s.heap.objs.size l1 l2 l3) (i:=5) rfl rfl,rfl⟩,h⟩
end
end
section
open PySem.Calls PyProof.Rows
set_option genInjectivity false
set_option maxRecDepth 100000
variable{Γ:Cfg}{A:Around}{n:Nat}
theorem Zg3{p:P}{x:List P}:∀{y:List P} {i:Nat},(ZbM x y)[i]?=some p→∃a b,p=PyData.tuple [a,b]∧x[i]?=some a∧y[i]?=some b:=by
 induction x with
 |nil=>exact fun h=>nomatch h
 |cons a x ih=>
  intro y i h
  cases y with
  |nil=>cases h
  |cons b y=>
   cases i with
   |zero=>cases h;exact⟨a,b,rfl,rfl,rfl⟩
   |succ i=>exact ih h
theorem Zc8{x:List P}:∀{y:List P},x.length=y.length→(ZbM x y).length=x.length:=by
 induction x with
 |nil=>exact fun _=>rfl
 |cons a x ih=>
  intro y h
  cases y with
  |nil=>cases h
  |cons b y=>exact congrArg (·+1) (ih (Nat.succ.inj h))
theorem Zg2{p:P}{x:List P}:∀{y z:List P} {i:Nat},(ZbL x y z)[i]?=some p→∃a b c,p=PyData.tuple [a,b,c]∧x[i]?=some a∧y[i]?=some b∧z[i]?=some c:=by
 induction x with
 |nil=>exact fun h=>nomatch h
 |cons a x ih=>
  intro y z i h
  cases y with
  |nil=>cases h
  |cons b y=>
   cases z with
   |nil=>cases h
   |cons c z=>
    cases i with
    |zero=>cases h;exact⟨a,b,c,rfl,rfl,rfl,rfl⟩
    |succ i=>exact ih h
theorem Zc7{x:List P}:∀{y z:List P},x.length=y.length→y.length=z.length→(ZbL x y z).length=x.length:=by
 induction x with
 |nil=>exact fun _ _=>rfl
 |cons a x ih=>
  intro y z h h2
  cases y with
  |nil=>cases h
  |cons b y=>
   cases z with
   |nil=>cases h2
   |cons c z=>exact congrArg (·+1) (ih (Nat.succ.inj h) (Nat.succ.inj h2))
theorem Zg1{R x:List P}(h:R.length=x.length)(i:Nat)(e:R[i]?=none):x[i]?=none:=List.getElem?_eq_none (h▸List.getElem?_eq_none_iff.mp e)
theorem Zk5{x y:List P}(h:x.length=y.length):Zf2 (ZbM x y) [x,y]:=
 ⟨fun i p e=>(Zg3 e).elim fun a h=>h.elim fun b h=>⟨[a,b],h.1,by rw[List.map_cons,List.map_cons,h.2.1,h.2.2];rfl⟩,fun i e a r q=>by cases q;exact Zg1 (Zc8 h) i e⟩
theorem Zk4{x y z:List P}(h:x.length=y.length)(h2:y.length=z.length):Zf2 (ZbL x y z) [x,y,z]:=
 ⟨fun i p e=>(Zg2 e).elim fun a h=>h.elim fun b h=>h.elim fun c h=>⟨[a,b,c],h.1,by rw[List.map_cons,List.map_cons,List.map_cons,h.2.1,h.2.2.1,h.2.2.2];rfl⟩,fun i e a r q=>by cases q;exact Zg1 (Zc7 h h2) i e⟩
theorem ZfT(N m:Nat):((N+(m+2))::(N+(m+1))::(List.range m).map (N+·)).Nodup:=by
 have hr:∀{k},m≤k→N+k∉(List.range m).map (N+·):=fun h hm=>by
  obtain⟨j,hj,e⟩:=List.mem_map.mp hm
  exact Nat.not_lt.mpr h (Nat.add_left_cancel e▸List.mem_range.mp hj)
 refine List.nodup_cons.mpr ⟨fun hm=>?_,List.nodup_cons.mpr ⟨hr (Nat.le_succ _),List.Pairwise.map _ (fun a b h e=>h (Nat.add_left_cancel e)) List.nodup_range⟩⟩
 exact(List.mem_cons.mp hm).elim (fun e=>Nat.succ_ne_self _ (Nat.add_left_cancel e)) (hr (Nat.le_add_right _ _))
theorem ZjL{w:Wd A}{es:List Expr}{kk:Nat}{pos:Pos}{h':Heap}{m:Nat}{q₀:Zs}{zs:List Zs}{R:List P}(hA:AOk A n)(M:Ze7 w.s.heap h' m (q₀::zs))(hl:(q₀::zs).length≤sizeLine)(x:ZF w (q₀::zs))
  (hR:Zf2 R ((q₀::zs).map (·.all))) (hRl:R.length≤sizeLine) {Q E:Value→Shared→Prop} (k:Aft w (PI w (.Tuple es kk pos) Q) E (some (.ok R,w.σ))):
  wpAny MM A (pyIter (.ref (w.s.heap.objs.size+(m+2)))) Q E {w.s with heap:=h'}:=by
 refine wpAny_pyIter_zip (s:={w.s with heap:=h'}) M.zip ?_
 have c:=Chg.grow w M.keep
 have nn:∀i,w.s.heap.get? (w.s.heap.objs.size+i)=none:=fun i=>Heap.get?_none_of_le (Nat.le_add_right _ _)
 have off:∀i,Off (w.chg h' w.s.toks c) (w.s.heap.objs.size+i):=fun i=>have o:=w.off (nn i);⟨o.g,o.i,o.f⟩
 have nd:=ZfT w.s.heap.objs.size m
 rw[← M.it]at nd
 obtain⟨pre,pl,hO⟩:=M.to
 have fp:∀b∈(w.s.heap.objs.size+(m+2))::(w.s.heap.objs.size+(m+1))::Zs.its (q₀::zs),(∃i,b=w.s.heap.objs.size+i∧i≠m)∧∃o,h'.get? b=some o:=fun b hb=>by
  rcases List.mem_cons.mp hb with rfl|hb
  ·exact⟨⟨m+2,rfl,Nat.ne_of_gt (Nat.lt_add_of_pos_right (by decide))⟩,_,M.zip⟩
  rcases List.mem_cons.mp hb with rfl|hb
  ·exact⟨⟨m+1,rfl,Nat.succ_ne_self _⟩,_,hO⟩
  obtain⟨q,hq,e⟩:=List.mem_map.mp hb
  rw[M.it]at hb
  obtain⟨j,hj,e2⟩:=List.mem_map.mp hb
  exact⟨⟨j,e2.symm,Nat.ne_of_lt (List.mem_range.mp hj)⟩,(M.iter q hq).elim fun o h=>⟨o,e▸h.1⟩⟩
 have st:=(c.st w.s.toks).adoptI M.ti (off m) (nn m)
 refine k ((w.chg h' w.s.toks c).adoptI _ _ M.ti (off m)) rfl st _ (.mk _ _ (Zl6 hA.hd es kk pos nd hl hR) (.mk 0 pre (fun b hb=>?_) (IMap.put_self _ _ _) M.zip hO pl M.iter (fun q hq=>(x q hq).st st) rfl) (fun b hb=>?_) hRl)
 ·obtain⟨⟨i,rfl,hi⟩,ex⟩:=fp b hb
  exact⟨(off i).adoptI M.ti (off m) fun e=>hi (Nat.add_left_cancel e),ex⟩
 ·obtain⟨⟨i,rfl,hi⟩,ex⟩:=fp b hb
  exact nn i
@[elab_as_elim] theorem t1_f {α:Type} {w:Wd A} {D:α→Wd A→Prop} {E:Value→Shared→Prop} {a:V} {x:Value} {G:Value→Prop} {f:List P→HM α} (k:Aft w D E (t1 f a w.σ)) (hx:VR w a x)
  (go:∀c vs l,w.s.heap.IsTuple c vs→l.length≤sizeLine→SeqF "tuple" c vs l w→Aft w D E (f l w.σ)→G (.ref c)):G x:=
 t1_e k hx fun l hl k=>hl.tup_e fun{c o vs m} a b d e f=>go c vs l ⟨o,w.b.keep _ _ a,b,m,d⟩ e (.mk o m a b d f) k
theorem ZmP{es:List Expr}{kk:Nat}{pos:Pos}:ItN n (.Tuple es kk pos) (.type "zip") gZip:=fun A w vs ys hA hys Q E k=>by
 cases hys with
 |nil=>exact k.elim
 |cons h t=>
 cases t with
 |nil=>exact k.elim
 |cons h2 t=>
 cases t with
 |nil=>
  refine t1_f (G:=fun y=>wpAny MM A (call (.type "zip") [y,_]) _ E w.s) k h fun a1 vs1 x i1 e1 F1 k=>t1_f (G:=fun z=>wpAny MM A (call (.type "zip") [_,z]) _ E w.s) k h2 fun a2 vs2 y i2 e2 F2 k=>?_
  have k:=Wc k
  have hl:=of_decide_eq_true k.1
  exact Zir i1 i2 (ZjL hA (Zg0 _ a1 a2 vs1 vs2 x y) (show 2≤sizeLine by decide) (fun q hq=>(List.mem_cons.mp hq).elim (fun e=>e▸F1) fun hq=>List.mem_singleton.mp hq▸F2) (Zk5 hl) (by rw[Zc8 hl];exact e1) k.2)
 |cons h3 t=>
 cases t with
 |cons=>exact k.elim
 |nil=>
  refine t1_f (G:=fun y=>wpAny MM A (call (.type "zip") [y,_,_]) _ E w.s) k h fun a1 vs1 x i1 e1 F1 k=>t1_f (G:=fun z=>wpAny MM A (call (.type "zip") [_,z,_]) _ E w.s) k h2 fun a2 vs2 y i2 e2 F2 k=>t1_f (G:=fun z=>wpAny MM A (call (.type "zip") [_,_,z]) _ E w.s) k h3 fun a3 vs3 z i3 e3 F3 k=>?_
  have k:=Wc k
  have hl:=of_decide_eq_true k.1
  exact Ziq i1 i2 i3 (ZjL hA (Zgz _ a1 a2 a3 vs1 vs2 vs3 x y z) (show 3≤sizeLine by decide) (fun q hq=>(List.mem_cons.mp hq).elim (fun e=>e▸F1) fun hq=>(List.mem_cons.mp hq).elim (fun e=>e▸F2) fun hq=>List.mem_singleton.mp hq▸F3) (Zk4 hl.1 hl.2) (by rw[Zc7 hl.1 hl.2];exact e1) k.2)
end
section
open PySem.Calls PyProof.Rows
noncomputable def Yc:Addr:=44
noncomputable def XQ:Addr:=56
noncomputable def YI(cf:CF):SM:=(sSeq (sIf (tAnd (tVal (Za 1)) (tCmp leV (Za 2) (eBin addV (eBin Zd (eBin Zd (Za 1) (Zb (.int (-1)))) (Zb (.int 1))) (Zb (.int 1))))) (sSeq (sIf (tCmp gtV (Za 3) (eBin Zd (eBin Zd (Za 1) (Zb (.int (-1)))) (Zb (.int 1)))) (sSeq (XU (Za 1) (Zb (.int (-1))) (Zm [(eBin Zd (eBin Zd (Za 1) (Zb (.int (-1)))) (Zb (.int 0))),(Za 3)])) Ze) Ze) Ze) (sSeq (Z8 (Z7 Zx (Za 1) [(Zm [(Za 2),(Za 3)])])) Ze)) Ze)
noncomputable def Zkq:Body:=⟨1,4,fun cf=>(sSeq (Zj 1 (eLst [])) (sSeq (sFor (iSeq (eFn (g1 ZdM) [(Za 0)])) (.tup [2,3]) (YI cf)) (sSeq (sRet (Za 1)) Ze)))⟩
noncomputable def Zku:Body:=⟨2,2,fun cf=>(sSeq (sIf (tCmp Xz (Za 1) (ZT (Za 0) 2)) (sSeq (XU (ZT (Za 0) 2) (Za 1) (eFn (g1 lenV) [(ZT (Za 0) 1)])) (sSeq (Z8 (Z7 Zx (ZT (Za 0) 1) [(Za 1)])) Ze)) Ze) (sSeq (sRet (eBin Zd (ZT (Za 0) 2) (Za 1))) Ze))⟩
noncomputable def Zkt:Body:=⟨2,2,fun cf=>(sSeq (sRet (eDia cf 1 (Za 0) [(Zm [(Zb (.str "leaf")),(Za 1)])])) Ze)⟩
noncomputable def Zdy(cf:CF):SM:=(sSeq (Zj 5 (eIf (tCmp gtV (Za 6) (Za 5)) (Za 6) (eBin addV (Za 4) (Zb (.int 1))))) (sSeq (sIf (tAnd (tCmp gtV (eFn (g1 lenV) [(Za 3)]) (Zb (.int 0))) (tCmp eqV (eBin Zd (eBin Zd (Za 3) (Zb (.int (-1)))) (Zb (.int 1))) (Za 7))) (sSeq (XU (Za 3) (Zb (.int (-1))) (Zm [(Za 6),(Za 7)])) Ze) (sSeq (Z8 (Z7 Zx (Za 3) [(Zm [(Za 6),(Za 7)])])) Ze)) Ze))
noncomputable def Zfr:Body:=⟨3,8,fun cf=>(sSeq (Zj 3 (eLst [])) (sSeq (Zj 4 (eBin Zd (ZT (Za 0) 0) (Za 1))) (sSeq (Zj 5 (Zb (.int (-1)))) (sSeq (sFor (iSeq (Za 2)) (.tup [6,7]) (Zdy cf)) (sSeq (sIf (tCmp neV (Za 5) (Za 4)) (sSeq (Zbl Yc "parts that do not rise up to the top") Ze) Ze) (sSeq (sIf (tCmp eqV (eFn (g1 lenV) [(Za 3)]) (Zb (.int 1))) (sSeq (sRet (eBin Zd (eBin Zd (Za 3) (Zb (.int 0))) (Zb (.int 1)))) Ze) Ze) (sSeq (sRet (eDia cf 1 (Za 0) [(Zm [(Za 1),(eFn (g1 YQ) [(Za 3)])])])) Ze)))))))⟩
noncomputable def Zks:Body:=⟨2,2,fun cf=>(sSeq (sRet (eBin Zd (ZT (Za 0) 1) (Za 1))) Ze)⟩
noncomputable def ZhY:Body:=⟨2,3,fun cf=>(sSeq (Zj 2 (eBin Zd (eBin Zd (ZT (Za 0) 1) (Za 1)) (Zb (.int 0)))) (sSeq (sRet (eIf (tCmp eqV (Za 2) (Zb (.str "leaf"))) (eFn (g1 lenV) [(ZT (Za 0) 0)]) (Za 2))) Ze))⟩
noncomputable def ZbB:Body:=⟨3,5,fun cf=>(sSeq (Zy [3,4] (eDia cf 4 (Za 0) [(Za 1)])) (sSeq (sIf (tCmp eqV (Za 3) (Za 2)) (sSeq (sRet (Za 4)) Ze) Ze) (sSeq (sRet (Zm [(Zm [(eBin Zd (ZT (Za 0) 0) (Za 2)),(Za 1)])])) Ze)))⟩
noncomputable def ZbA(cf:CF):SM:=(sSeq (sIf (tCmp eqV (eBin Zd (Za 10) (Zb (.int 0))) (Za 6)) (sSeq (Zlc (Za 4) (Za 9) (Zb (.int 1))) Ze) Ze) Ze)
noncomputable def Zb9(cf:CF):Fn:=(eBin Zd (Za 10) (Zb (.int 1)))
noncomputable def Zb8(cf:CF):Fn:=(eBin Zd (Za 10) (Zb (.int 0)))
noncomputable def Zb7(cf:CF):Fn:=(eBin Zd (Za 11) (eBin Zd (Za 4) (Za 9)))
noncomputable def Qx(cf:CF):SM:=(sSeq (Zj 7 (ZS (Z5 Zgh [(Za 3)]) (.tup [9,11]) ZM (Zb7 cf))) (sSeq (Zj 6 (eFn (g1 minV) [(ZS (iSeq (Za 7)) (.one 10) ZM (Zb8 cf))])) (sSeq (Z8 (Z7 Zx (Za 5) [(Zm [(Za 6),(ZS (iSeq (Za 7)) (.one 10) ZM (Zb9 cf))])])) (sSeq (sFor (Z5 Zgh [(Za 7)]) (.tup [9,10]) (ZbA cf)) Ze))))
noncomputable def Qw(cf:CF):Tn:=(tCmp ltV (Za 6) (eBin Zd (ZT (Za 0) 0) (Za 2)))
noncomputable def Zb6(cf:CF):Fn:=(Zq cf 6 [(Za 0),(Za 8),(Za 2)])
noncomputable def Zb5(cf:CF):Fn:=(eDia cf 5 (Za 0) [(Za 8)])
noncomputable def ZhX:Body:=⟨2,12,fun cf=>(sSeq (Zj 2 (eFn (g1 minV) [(ZS (iSeq (Za 1)) (.one 8) ZM (Zb5 cf))])) (sSeq (Zj 3 (ZS (iSeq (Za 1)) (.one 8) ZM (Zb6 cf))) (sSeq (Zj 4 (eBin mulV (eLst [(Zb (.int 0))]) (eFn (g1 lenV) [(Za 3)]))) (sSeq (Zj 5 (eLst [])) (sSeq (Zj 6 (Zb (.int (-1)))) (sSeq (Zal (Qw cf) (Qx cf)) (sSeq (sRet (Zm [(Za 2),(Za 5)])) Ze)))))))⟩
noncomputable def Qy(cf:CF):SM:=(sSeq (sIf (tCmp leV (Za 1) (Za 2)) (sSeq (sRet (Za 3)) Ze) Ze) Ze)
noncomputable def ZhZ:Body:=⟨2,4,fun cf=>(sSeq (sFor (iSeq (Za 0)) (.tup [2,3]) (Qy cf)) (sSeq (Zbl Yc "a value past its variable's top") Ze))⟩
noncomputable def WP(cf:CF):SM:=(sSeq (Zy [3,4] (eDia cf 4 (Za 0) [(Zq cf 8 [(Za 4),(eBin Zd (Za 2) (Za 3))])])) Ze)
noncomputable def WO(cf:CF):Tn:=(tCmp neV (Za 3) (Zb (.str "leaf")))
noncomputable def Zb4:Body:=⟨3,5,fun cf=>(sSeq (Zy [3,4] (eDia cf 4 (Za 0) [(Za 1)])) (sSeq (Zal (WO cf) (WP cf)) (sSeq (sRet (Za 4)) Ze)))⟩
noncomputable def We(cf:CF):SM:=(sSeq (sIf (tCmp leV (Za 8) (Za 5)) (sSeq (sIf (tCmp gtV (Za 8) (Za 7)) (sSeq (Z8 (Z7 Zx (Za 6) [(Zm [(eBin subV (Za 8) (Zb (.int 1))),(Za 4)])])) Ze) Ze) (sSeq (Z8 (Z7 Zx (Za 6) [(Zm [(eFn (g2 ZaY) [(Za 9),(Za 5)]),(Za 3)])])) (sSeq (Zj 7 (eBin addV (Za 9) (Zb (.int 1)))) Ze))) Ze) Ze)
noncomputable def Zkr:Body:=⟨5,10,fun cf=>(sSeq (sIf (tCmp leV (eFn (g2 ZaY) [(eDia cf 5 (Za 0) [(Za 3)]),(eDia cf 5 (Za 0) [(Za 4)])]) (Za 1)) (sSeq (Zbl Yc "a test ahead of which another stands") Ze) Ze) (sSeq (Zj 5 (eBin Zd (ZT (Za 0) 0) (Za 1))) (sSeq (Zj 6 (eLst [])) (sSeq (Zj 7 (Zb (.int 0))) (sSeq (sFor (iSeq (Zq cf 0 [(Za 2)])) (.tup [8,9]) (We cf)) (sSeq (sIf (tCmp leV (Za 7) (Za 5)) (sSeq (Z8 (Z7 Zx (Za 6) [(Zm [(Za 5),(Za 4)])])) Ze) Ze) (sSeq (sRet (eDia cf 3 (Za 0) [(Za 1),(Za 6)])) Ze)))))))⟩
noncomputable def XL(cf:CF):Fn:=(Zm [(Za 10),(Zq cf 11 [(Za 0),(eBin Zd (Za 11) (Zb (.int 0))),(eBin Zd (Za 11) (Zb (.int 1))),(eBin Zd (Za 11) (Zb (.int 2)))])])
noncomputable def Zfv:Body:=⟨4,12,fun cf=>(sSeq (sIf (tCmp eqV (Za 2) (Za 3)) (sSeq (sRet (Za 2)) Ze) Ze) (sSeq (Zy [5,6] (eDia cf 4 (Za 0) [(Za 1)])) (sSeq (sIf (tCmp eqV (Za 5) (Zb (.str "leaf"))) (sSeq (sRet (eIf (tCmp eqV (Za 6) (Zb (.int 1))) (Za 2) (Za 3))) Ze) Ze) (sSeq (Zj 4 (Zm [(Za 1),(Za 2),(Za 3)])) (sSeq (sIf (tCmp Xz (Za 4) (ZT (Za 0) 3)) (sSeq (Zy [8,9] (Zq cf 7 [(Za 0),(Za 4)])) (sSeq (Zj 7 (ZS (iSeq (Za 9)) (.tup [10,11]) ZM (XL cf))) (sSeq (XU (ZT (Za 0) 3) (Za 4) (eDia cf 3 (Za 0) [(Za 8),(Za 7)])) Ze))) Ze) (sSeq (sRet (eBin Zd (ZT (Za 0) 3) (Za 4))) Ze))))))⟩
noncomputable def Zkv:Body:=⟨3,3,fun cf=>(sSeq (sRet (Zq cf 11 [(Za 0),(Za 1),(Za 2),(eDia cf 2 (Za 0) [(Zb (.int 0))])])) Ze)⟩
noncomputable def Zfu:Body:=⟨3,3,fun cf=>(sSeq (sRet (Zq cf 11 [(Za 0),(Za 1),(eDia cf 2 (Za 0) [(Zb (.int 1))]),(Za 2)])) Ze)⟩
noncomputable def Zfq:Body:=⟨2,2,fun cf=>(sSeq (sRet (Zq cf 11 [(Za 0),(Za 1),(eDia cf 2 (Za 0) [(Zb (.int 0))]),(eDia cf 2 (Za 0) [(Zb (.int 1))])])) Ze)⟩
noncomputable def Yh(cf:CF):Fn:=(Zm [(Za 10),(Zq cf 15 [(Za 0),(eBin Zd (Za 11) (Zb (.int 0))),(Za 2),(eBin Zd (Za 11) (Zb (.int 1)))])])
noncomputable def W0:Body:=⟨4,12,fun cf=>(sSeq (Zy [5,6] (eDia cf 4 (Za 0) [(Za 1)])) (sSeq (sIf (tCmp eqV (Za 5) (Zb (.str "leaf"))) (sSeq (sRet (eIf (tCmp eqV (Za 6) (Za 2)) (Za 3) (Za 1))) Ze) Ze) (sSeq (Zj 4 (Zm [(Zb (.str "leaf")),(Za 1),(Za 2),(Za 3)])) (sSeq (sIf (tCmp Xz (Za 4) (ZT (Za 0) 3)) (sSeq (Zy [8,9] (Zq cf 7 [(Za 0),(Zm [(Za 1),(Za 3)])])) (sSeq (Zj 7 (ZS (iSeq (Za 9)) (.tup [10,11]) ZM (Yh cf))) (sSeq (XU (ZT (Za 0) 3) (Za 4) (eDia cf 3 (Za 0) [(Za 8),(Za 7)])) Ze))) Ze) (sSeq (sRet (eBin Zd (ZT (Za 0) 3) (Za 4))) Ze)))))⟩
noncomputable def YS(cf:CF):SM:=(sSeq (sIf (tCmp Xz (Za 7) (Za 2)) (sSeq (XU (Za 2) (Za 7) (Zb (.bool true))) (sSeq (Z8 (Z7 Zx (Za 3) [(Za 7)])) Ze)) Ze) Ze)
noncomputable def YR(cf:CF):SM:=(sSeq (Zy [4,5] (eDia cf 4 (Za 0) [(Z7 mPop (Za 3) [])])) (sSeq (sIf (tCmp neV (Za 4) (Zb (.str "leaf"))) (sSeq (sFor (iSeq (Za 5)) (.tup [6,7]) (YS cf)) Ze) Ze) Ze))
noncomputable def Yk(cf:CF):Tn:=(tCmp gtV (eFn (g1 lenV) [(Za 3)]) (Zb (.int 0)))
noncomputable def X4:Body:=⟨2,8,fun cf=>(sSeq (Zj 2 (Zkw (Za 1) (.bool true))) (sSeq (Zj 3 (eLst [(Za 1)])) (sSeq (Zal (Yk cf) (YR cf)) (sSeq (sRet (eFn (g1 lenV) [(Za 2)])) Ze))))⟩
noncomputable def X5(cf:CF):SM:=(sSeq (sIf (tCmp neV (eBin Zd (Za 3) (Zb (.int 0))) (eBin Zd (Za 3) (Zb (.int 1)))) (sSeq (sRet (Zm [(Za 1),(eBin Zd (Za 3) (Zb (.int 0))),(eBin Zd (Za 3) (Zb (.int 1)))])) Ze) Ze) (sSeq (Zj 1 (eBin addV (Za 2) (Zb (.int 1)))) Ze))
noncomputable def W5:Body:=⟨1,4,fun cf=>(sSeq (Zj 1 (Zb (.int 0))) (sSeq (sFor (iSeq (Za 0)) (.tup [2,3]) (X5 cf)) (sSeq (Zbl Yc "no piece that parts") Ze)))⟩
noncomputable def QB(cf:CF):SM:=(sSeq (Zj 5 (Zb (.int 0))) (sSeq (sIf (tCmp eqV (eFn (g2 ZaY) [(eDia cf 5 (Za 0) [(Za 1)]),(eDia cf 5 (Za 0) [(Za 2)])]) (Za 4)) (sSeq (Zy [5,1,2] (Zq cf 17 [(eBin Zd (Zq cf 7 [(Za 0),(Zm [(Za 1),(Za 2)])]) (Zb (.int 1)))])) Ze) Ze) (sSeq (Z8 (Z7 Zx (Za 3) [(Za 5)])) Ze)))
noncomputable def Zdx:Body:=⟨3,6,fun cf=>(sSeq (sIf (tCmp eqV (Za 1) (Za 2)) (sSeq (sRet (Zb .none)) Ze) Ze) (sSeq (Zj 3 (eLst [])) (sSeq (sFor (Z5 Z2 [(eFn (g1 lenV) [(ZT (Za 0) 0)])]) (.one 4) (QB cf)) (sSeq (sRet (eFn (g1 YQ) [(Za 3)])) Ze))))⟩
noncomputable def Zdw(cf:CF):SM:=(sSeq (Z8 (Z7 Zx (Za 9) [(Zm [(Za 12),(eBin addV (Za 6) (Zm [(Zm [(Za 7),(Zm [(Za 10),(Za 11)])])]))])])) (sSeq (Zj 10 (eBin addV (Za 11) (Zb (.int 1)))) Ze))
noncomputable def Xc(cf:CF):SM:=(sSeq (Zy [5,6] (Z7 mPop (Za 4) [])) (sSeq (Zy [7,8] (eDia cf 4 (Za 0) [(Za 5)])) (sSeq (sIf (tCmp eqV (Za 7) (Zb (.str "leaf"))) (sSeq (sIf (tCmp eqV (eFn (g1 lenV) [(Za 3)]) (Za 2)) (sSeq (Zbl XQ "more ways than were let") Ze) Ze) (sSeq (Z8 (Z7 Zx (Za 3) [(Zm [(Za 6),(Za 8)])])) Ze)) (sSeq (Zj 9 (eLst [])) (sSeq (Zj 10 (Zb (.int 0))) (sSeq (sFor (iSeq (Za 8)) (.tup [11,12]) (Zdw cf)) (sSeq (Z8 (Z7 Zfc (Za 9) [])) (sSeq (Z8 (Z7 Zhz (Za 4) [(Za 9)])) Ze)))))) Ze)))
noncomputable def YH(cf:CF):Tn:=(tCmp gtV (eFn (g1 lenV) [(Za 4)]) (Zb (.int 0)))
noncomputable def Zfp:Body:=⟨3,13,fun cf=>(sSeq (Zj 3 (eLst [])) (sSeq (Zj 4 (eLst [(Zm [(Za 1),(Zm [])])])) (sSeq (Zal (YH cf) (Xc cf)) (sSeq (sRet (Za 3)) Ze))))⟩
noncomputable def QH:Body:=⟨0,0,fun cf=>(sSeq (sRet (eLst [(Zb (.int 2)),(Zb (.int 1)),(Zb (.int 1)),(Zb (.int 3)),(Zb (.int 5)),(Zb (.int 1)),(Zb (.int 3)),(Zb (.int 1)),(Zb (.int 6)),(Zb (.int 3)),(Zb (.int 0)),(Zb (.int 1)),(Zb (.int 2)),(Zb (.int 0)),(Zb (.int 2)),(Zb (.int 3)),(Zb (.int 0)),(Zb (.int 0)),(Zb (.int 0)),(Zb (.int 1)),(Zb (.int 4)),(Zb (.int 1)),(Zb (.int 0)),(Zb (.int 0)),(Zb (.int 4)),(Zb (.int 0)),(Zb (.int 1)),(Zb (.int 2)),(Zb (.int 2)),(Zb (.int 4)),(Zb (.int 1)),(Zb (.int 1)),(Zb (.int 2)),(Zb (.int 0)),(Zb (.int 5)),(Zb (.int 0)),(Zb (.int 0)),(Zb (.int 0)),(Zb (.int 0)),(Zb (.int 6)),(Zb (.int 7)),(Zb (.int 0)),(Zb (.int 2)),(Zb (.int 0)),(Zb (.int 7)),(Zb (.int 11)),(Zb (.int 6)),(Zb (.int 0)),(Zb (.int 2)),(Zb (.int 6)),(Zb (.int 12)),(Zb (.int 1)),(Zb (.int 0)),(Zb (.int 0))])) Ze)⟩
noncomputable def ZaA:Body:=⟨1,4,fun cf=>(sSeq (sRet (Zij [1,2,3] (Z5 Z2 [(eBin addV (eBin Zd (Za 0) (Zb (.int 0))) (Zb (.int 1)))]) (.one 1) (Z5 Z2 [(eBin addV (eBin Zd (Za 0) (Zb (.int 1))) (Zb (.int 1)))]) (.one 2) (Z5 Z2 [(eBin addV (eBin Zd (Za 0) (Zb (.int 2))) (Zb (.int 1)))]) (.one 3) (Zm [(Za 1),(Za 2),(Za 3)]))) Ze)⟩
noncomputable def Y1(cf:CF):Fn:=(ZbG ZjY (Za 0) (eBin mulV (Za 2) (Za 3)) (eBin mulV (Za 2) (eBin addV (Za 3) (Zb (.int 1)))))
noncomputable def QF:Body:=⟨2,4,fun cf=>(sSeq (Zj 2 (eBin divV (eFn (g1 lenV) [(Za 0)]) (eBin addV (Za 1) (Zb (.int 1))))) (sSeq (sRet (ZS (Z5 Z2 [(eBin addV (Za 1) (Zb (.int 1)))]) (.one 3) ZM (Y1 cf))) Ze))⟩
noncomputable def Xw(cf:CF):SM:=(sSeq (Zj 3 (Zq cf 22 [(Za 0),(eBin Zd (Za 1) (Za 2))])) (sSeq (sIf (tCmp neV (Za 3) (eBin mulV (eLst [(eBin Zd (Za 3) (Zb (.int 0)))]) (eFn (g1 lenV) [(Za 3)]))) (sSeq (sRet (Za 2)) Ze) Ze) (sSeq (Zj 0 (eBin Zd (Za 3) (Zb (.int 0)))) Ze)))
noncomputable def Za9:Body:=⟨2,4,fun cf=>(sSeq (sFor (Z5 Z2 [(eFn (g1 lenV) [(Za 1)])]) (.one 2) (Xw cf)) (sSeq (sRet (eFn (g1 lenV) [(Za 1)])) Ze))⟩
noncomputable def Yi(cf:CF):SM:=(sSeq (sIf (tOr (tCmp eqV (Za 7) (eBin Zd (Za 1) (Za 2))) (tCmp neV (eBin Zd (Za 8) (eBin addV (Za 7) (Zb (.int 1)))) (eBin Zd (Za 8) (Za 7)))) (sSeq (Zj 5 (eBin addV (Za 5) (Zq cf 24 [(eBin Zd (Za 8) (Za 7)),(Za 1),(eBin addV (Za 2) (Zb (.int 1))),(eBin addV (Za 3) (Zm [(Zm [(Za 2),(Zm [(Za 6),(Za 7)])])])),(Za 4)]))) (sSeq (Zj 6 (eBin addV (Za 7) (Zb (.int 1)))) Ze)) Ze) Ze)
noncomputable def ZbC:Body:=⟨5,9,fun cf=>(sSeq (sIf (tCmp ltV (Za 2) (eFn (g1 lenV) [(Za 1)])) (sSeq (Zj 8 (Zq cf 22 [(Za 0),(eBin Zd (Za 1) (Za 2))])) (sSeq (sIf (tCmp eqV (Za 8) (eBin mulV (eLst [(eBin Zd (Za 8) (Zb (.int 0)))]) (eFn (g1 lenV) [(Za 8)]))) (sSeq (sRet (Zq cf 24 [(eBin Zd (Za 8) (Zb (.int 0))),(Za 1),(eBin addV (Za 2) (Zb (.int 1))),(Za 3),(Za 4)])) Ze) Ze) Ze)) Ze) (sSeq (sIf (tCmp Xz (Zm [(Za 2),(Za 0)]) (Za 4)) (sSeq (Z8 (Z7 Zx (Za 4) [(Zm [(Za 2),(Za 0)])])) Ze) Ze) (sSeq (sIf (tCmp eqV (Za 2) (eFn (g1 lenV) [(Za 1)])) (sSeq (sRet (eLst [(Zm [(Za 3),(eBin Zd (Za 0) (Zb (.int 0)))])])) Ze) Ze) (sSeq (Zj 5 (eLst [])) (sSeq (Zj 6 (Zb (.int 0))) (sSeq (sFor (Z5 Z2 [(eFn (g1 lenV) [(Za 8)])]) (.one 7) (Yi cf)) (sSeq (sRet (Za 5)) Ze)))))))⟩
noncomputable def W3(cf:CF):SM:=(sSeq (Zj 5 (eBin modV (Za 4) (eBin addV (Za 2) (Zb (.int 2))))) (sSeq (Z8 (Z7 Zx (Za 3) [(Zm [(Za 5),(eBin addV (Za 5) (eBin modV (eBin divV (Za 4) (eBin addV (Za 2) (Zb (.int 2)))) (eBin addV (Za 2) (Zb (.int 1)))))])])) Ze))
noncomputable def Za6:Body:=⟨3,6,fun cf=>(sSeq (Zj 3 (eLst [])) (sSeq (sFor (iSeq (Zm [(Za 0),(Za 1)])) (.one 4) (W3 cf)) (sSeq (sRet (Za 3)) Ze)))⟩
noncomputable def Wf(cf:CF):SM:=(sSeq (sIf (ZeN leV leV (Za 2) (Za 1) (Za 3)) (sSeq (sRet (Zb (.bool true))) Ze) Ze) Ze)
noncomputable def QC:Body:=⟨2,4,fun cf=>(sSeq (sFor (iSeq (Za 0)) (.tup [2,3]) (Wf cf)) (sSeq (sRet (Zb (.bool false))) Ze))⟩
noncomputable def Wg(cf:CF):Fn:=(eIf (tVal (eBin Zd (Za 6) (eBin Zd (eBin Zd (Za 1) (Za 9)) (Za 2)))) (eBin Zd (eBin Zd (Za 4) (Zb (.int 1))) (Za 9)) (eBin Zd (eBin Zd (Za 5) (Zb (.int 1))) (Za 9)))
noncomputable def Xd(cf:CF):Fn:=(Zq cf 26 [(Za 3),(Za 8)])
noncomputable def QD:Body:=⟨6,10,fun cf=>(sSeq (Zj 6 (ZS (Z5 Z2 [(eBin addV (eBin Zd (ZT (Za 0) 0) (Za 2)) (Zb (.int 1)))]) (.one 8) ZM (Xd cf))) (sSeq (Zj 7 (eFn (g1 YQ) [(ZS (Z5 Z2 [(eFn (g1 lenV) [(Za 1)])]) (.one 9) ZM (Wg cf))])) (sSeq (sRet (Zm [(Zq cf 10 [(Za 0),(Za 2),(Za 3),(eBin Zd (Za 4) (Zb (.int 0))),(eBin Zd (Za 5) (Zb (.int 0)))]),(Za 7)])) Ze)))⟩
noncomputable def Xn:Body:=⟨5,5,fun cf=>(sSeq (sTry Yc "a test ahead of which another stands" (sSeq (Z8 (Zq cf 10 [(Za 0),(Za 1),(Za 2),(eBin Zd (Za 3) (Zb (.int 0))),(eBin Zd (Za 4) (Zb (.int 0)))])) Ze)) (sSeq (sRet (Zb (.bool false))) Ze))⟩
noncomputable def Xf:Body:=⟨3,3,fun cf=>(sSeq (sTry Yc "parts that do not rise up to the top" (sSeq (Z8 (eDia cf 3 (Za 0) [(Za 1),(Za 2)])) Ze)) (sSeq (sRet (Zb (.bool false))) Ze))⟩
noncomputable def Xe:Body:=⟨3,3,fun cf=>(sSeq (sTry Yc "a value past its variable's top" (sSeq (Z8 (Zq cf 9 [(Za 0),(Za 1),(Za 2)])) Ze)) (sSeq (sRet (Zb (.bool false))) Ze))⟩
noncomputable def Xm:Body:=⟨3,3,fun cf=>(sSeq (sTry XQ "more ways than were let" (sSeq (Z8 (Zq cf 19 [(Za 0),(Za 1),(Za 2)])) Ze)) (sSeq (sRet (Zb (.bool false))) Ze))⟩
noncomputable def WS(cf:CF):Fn:=(eBin mulV (Za 3) (Za 4))
noncomputable def ZbF:Body:=⟨3,5,fun cf=>(sSeq (sRet (Zm [(Zq cf 12 [(Za 0),(eBin Zd (Za 1) (Zb (.int 0))),(eBin Zd (Za 2) (Zb (.int 0)))]),(eFn (g1 YQ) [(ZS (Z5 gZip [(eBin Zd (Za 1) (Zb (.int 1))),(eBin Zd (Za 2) (Zb (.int 1)))]) (.tup [3,4]) ZM (WS cf))])])) Ze)⟩
noncomputable def Wh(cf:CF):Fn:=(eFn (g2 ZmG) [(Za 3),(Za 4)])
noncomputable def QI:Body:=⟨3,5,fun cf=>(sSeq (sRet (Zm [(Zq cf 13 [(Za 0),(eBin Zd (Za 1) (Zb (.int 0))),(eBin Zd (Za 2) (Zb (.int 0)))]),(eFn (g1 YQ) [(ZS (Z5 gZip [(eBin Zd (Za 1) (Zb (.int 1))),(eBin Zd (Za 2) (Zb (.int 1)))]) (.tup [3,4]) ZM (Wh cf))])])) Ze)⟩
noncomputable def Za8(cf:CF):Fn:=(eBin subV (Zb (.int 1)) (Za 2))
noncomputable def QG:Body:=⟨2,3,fun cf=>(sSeq (sRet (Zm [(Zq cf 14 [(Za 0),(eBin Zd (Za 1) (Zb (.int 0)))]),(eFn (g1 YQ) [(ZS (iSeq (eBin Zd (Za 1) (Zb (.int 1)))) (.one 2) ZM (Za8 cf))])])) Ze)⟩
noncomputable def Wi(cf:CF):Fn:=(eIf (tCmp eqV (Za 5) (Zb (.int 1))) (Za 6) (Za 7))
noncomputable def QJ:Body:=⟨4,8,fun cf=>(sSeq (Zj 4 (eFn (g1 YQ) [(ZS (Z5 gZip [(eBin Zd (Za 1) (Zb (.int 1))),(eBin Zd (Za 2) (Zb (.int 1))),(eBin Zd (Za 3) (Zb (.int 1)))]) (.tup [5,6,7]) ZM (Wi cf))])) (sSeq (sRet (Zm [(Zq cf 11 [(Za 0),(eBin Zd (Za 1) (Zb (.int 0))),(eBin Zd (Za 2) (Zb (.int 0))),(eBin Zd (Za 3) (Zb (.int 0)))]),(Za 4)])) Ze))⟩
noncomputable def Yq(cf:CF):Fn:=(eBin Zd (eBin Zd (eBin Zd (Za 7) (eBin Zd (eBin Zd (Za 1) (Za 12)) (Za 2))) (Zb (.int 1))) (Za 12))
noncomputable def Yp(cf:CF):Fn:=(Zm [(Za 11),(eBin Zd (eBin Zd (Za 7) (Za 11)) (Zb (.int 0)))])
noncomputable def Yo(cf:CF):Fn:=(eBin Zd (Za 6) (eBin modV (eBin addV (Za 3) (eBin divV (Za 11) (Zb (.int 2)))) (eFn (g1 lenV) [(Za 6)])))
noncomputable def YO(cf:CF):Fn:=(Za 10)
noncomputable def Yn(cf:CF):Tn:=(tCmp gtV (Zq cf 23 [(eBin Zd (Za 10) (Zb (.int 1))),(Za 5)]) (Za 2))
noncomputable def WR:Body:=⟨5,13,fun cf=>(sSeq (Zj 5 (ZT (Za 0) 0)) (sSeq (Zj 6 (ZaD 4 (.one 10) (Yn cf) (YO cf))) (sSeq (Zj 7 (ZS (Z5 Z2 [(eBin addV (eBin Zd (Za 5) (Za 2)) (Zb (.int 1)))]) (.one 11) ZM (Yo cf))) (sSeq (Zj 8 (ZS (Z5 Z2 [(eFn (g1 lenV) [(Za 7)])]) (.one 11) ZM (Yp cf))) (sSeq (sIf (tNot (tVal (Zq cf 29 [(Za 0),(Za 2),(eOp1 ZhK (Za 8))]))) (sSeq (sRet (Zb (.bool false))) Ze) Ze) (sSeq (Zj 9 (eFn (g1 YQ) [(ZS (Z5 Z2 [(eFn (g1 lenV) [(Za 1)])]) (.one 12) ZM (Yq cf))])) (sSeq (Z8 (Z7 Zx (Za 4) [(Zm [(eDia cf 3 (Za 0) [(Za 2),(Za 8)]),(Za 9)])])) (sSeq (sRet (Zb (.bool true))) Ze))))))))⟩
noncomputable def XK(cf:CF):Fn:=(eIf (tCmp eqV (Za 21) (Za 16)) (Za 22) (Za 21))
noncomputable def ZbD:Body:=⟨5,23,fun cf=>(sSeq (Zy [5,7,8,9,10] (Za 4)) (sSeq (Zj 5 (eBin modV (Za 5) (Zb (.int 8)))) (sSeq (Zy [11,12,13] (Zm [(eBin Zd (Za 2) (eBin modV (Za 7) (eFn (g1 lenV) [(Za 2)]))),(eBin Zd (Za 2) (eBin modV (Za 8) (eFn (g1 lenV) [(Za 2)]))),(eBin Zd (Za 2) (eBin modV (Za 9) (eFn (g1 lenV) [(Za 2)])))])) (sSeq (Zj 6 (eBin addV (Za 2) (Za 3))) (sSeq (sIf (tCmp eqV (Za 5) (Zb (.int 0))) (sSeq (Z8 (Z7 Zx (Za 2) [(Zq cf 32 [(Za 0),(Za 11),(Za 12)])])) Ze) (sSeq (sIf (tCmp eqV (Za 5) (Zb (.int 1))) (sSeq (Z8 (Z7 Zx (Za 2) [(Zq cf 33 [(Za 0),(Za 11),(Za 12)])])) Ze) (sSeq (sIf (tCmp eqV (Za 5) (Zb (.int 2))) (sSeq (Z8 (Z7 Zx (Za 2) [(Zq cf 34 [(Za 0),(Za 11)])])) Ze) (sSeq (sIf (tCmp eqV (Za 5) (Zb (.int 3))) (sSeq (Z8 (Z7 Zx (Za 2) [(Zq cf 35 [(Za 0),(Za 11),(Za 12),(Za 13)])])) Ze) (sSeq (sIf (tCmp eqV (Za 5) (Zb (.int 4))) (sSeq (Zj 14 (eBin modV (Za 7) (Zb (.int 3)))) (sSeq (Zj 15 (Zq cf 25 [(Za 10),(eBin divV (Za 10) (Zb (.int 20))),(eBin Zd (ZT (Za 0) 0) (Za 14))])) (sSeq (sIf (tCmp leV (eFn (g2 ZaY) [(Zq cf 23 [(eBin Zd (Za 12) (Zb (.int 1))),(ZT (Za 0) 0)]),(Zq cf 23 [(eBin Zd (Za 13) (Zb (.int 1))),(ZT (Za 0) 0)])]) (Za 14)) (sSeq (sRet (Zq cf 28 [(Za 0),(Za 14),(Za 15),(Za 12),(Za 13)])) Ze) Ze) (sSeq (Z8 (Z7 Zx (Za 2) [(Zq cf 27 [(Za 0),(Za 1),(Za 14),(Za 15),(Za 12),(Za 13)])])) Ze)))) (sSeq (sIf (tCmp eqV (Za 5) (Zb (.int 5))) (sSeq (sRet (Zq cf 36 [(Za 0),(Za 1),(eBin modV (Za 7) (Zb (.int 2))),(Za 8),(Za 2)])) Ze) (sSeq (sIf (tCmp eqV (Za 5) (Zb (.int 6))) (sSeq (Zy [18,19] (Zm [(eBin Zd (Za 3) (eBin modV (Za 8) (eFn (g1 lenV) [(Za 3)]))),(eBin Zd (Za 3) (eBin modV (Za 9) (eFn (g1 lenV) [(Za 3)])))])) (sSeq (Z8 (Z7 Zx (Za 3) [(Zq cf 35 [(Za 0),(eBin Zd (Za 6) (eBin modV (Za 7) (eFn (g1 lenV) [(Za 6)]))),(Za 18),(Za 19)])])) Ze)) (sSeq (Zy [18,20] (Zm [(eBin Zd (Za 6) (eBin modV (Za 7) (eFn (g1 lenV) [(Za 6)]))),(eBin Zd (Za 6) (eBin modV (Za 8) (eFn (g1 lenV) [(Za 6)])))])) (sSeq (Zj 16 (eBin Zd (Zm [(Zb (.str "accept")),(Zb (.str "drop")),(Zb (.int 2)),(Zb (.int 1)),(Zb (.int 0))]) (eBin modV (Za 10) (Zb (.int 5))))) (sSeq (Zj 17 (eFn (g1 YQ) [(ZS (Z5 gZip [(eBin Zd (Za 18) (Zb (.int 1))),(eBin Zd (Za 20) (Zb (.int 1)))]) (.tup [21,22]) ZM (XK cf))])) (sSeq (Z8 (Z7 Zx (Za 3) [(Zm [(Zq cf 15 [(Za 0),(eBin Zd (Za 18) (Zb (.int 0))),(Za 16),(eBin Zd (Za 20) (Zb (.int 0)))]),(Za 17)])])) Ze))))) Ze)) Ze)) Ze)) Ze)) Ze)) Ze)) (sSeq (sRet (Zb (.bool true))) Ze))))))⟩
noncomputable def YJ(cf:CF):SM:=(sSeq (sIf (tCmp neV (eBin Zd (Za 1) (Za 3)) (eBin Zd (Za 2) (Za 3))) (sSeq (sRet (eBin Zd (Za 0) (Za 3))) Ze) Ze) Ze)
noncomputable def Xo:Body:=⟨3,4,fun cf=>(sSeq (sFor (Z5 Z2 [(eFn (g1 lenV) [(Za 0)])]) (.one 3) (YJ cf)) (sSeq (sRet (Zb .none)) Ze))⟩
noncomputable def Za7:Body:=⟨3,5,fun cf=>(sSeq (Zj 3 (eLst [])) (sSeq (Zj 4 (Zq cf 24 [(Za 2),(ZT (Za 0) 0),(Zb (.int 0)),(Zm []),(Za 3)])) (sSeq (sRet (eAnd (eCmp eqV (Zq cf 19 [(Za 0),(Za 1),(eFn (g1 lenV) [(Za 4)])]) (Za 4)) (eCmp eqV (Zq cf 16 [(Za 0),(Za 1)]) (eFn (g1 lenV) [(Za 3)])))) Ze)))⟩
noncomputable def YB(cf:CF):SM:=(sSeq (sIf (tCmp neV (eCmp eqV (eBin Zd (eBin Zd (Za 2) (Za 3)) (Zb (.int 0))) (eBin Zd (eBin Zd (Za 2) (Za 4)) (Zb (.int 0)))) (eCmp eqV (eBin Zd (eBin Zd (Za 2) (Za 3)) (Zb (.int 1))) (eBin Zd (eBin Zd (Za 2) (Za 4)) (Zb (.int 1))))) (sSeq (sRet (Zb (.bool false))) Ze) Ze) Ze)
noncomputable def YA(cf:CF):SM:=(sSeq (sFor (Z5 Z2 [(Za 3)]) (.one 4) (YB cf)) (sSeq (sIf (tCmp eqV (eBin modV (eBin subV (eFn (g1 lenV) [(Za 2)]) (Za 3)) (Zb (.int 2))) (Zb (.int 1))) (sSeq (sIf (tNot (tVal (Zq cf 39 [(Za 0),(eBin Zd (eBin Zd (Za 2) (Za 3)) (Zb (.int 0))),(eBin Zd (eBin Zd (Za 2) (Za 3)) (Zb (.int 1)))]))) (sSeq (sRet (Zb (.bool false))) Ze) Ze) (sSeq (Zj 5 (Zq cf 38 [(Za 1),(eBin Zd (eBin Zd (Za 2) (Za 3)) (Zb (.int 1))),(eBin Zd (eBin Zd (Za 2) (eBin subV (Za 3) (Zb (.int 1)))) (Zb (.int 1)))])) (sSeq (sIf (tCmp neV (Zq cf 18 [(Za 0),(eBin Zd (eBin Zd (Za 2) (Za 3)) (Zb (.int 0))),(eBin Zd (eBin Zd (Za 2) (eBin subV (Za 3) (Zb (.int 1)))) (Zb (.int 0)))]) (Za 5)) (sSeq (sRet (Zb (.bool false))) Ze) Ze) Ze))) Ze) Ze))
noncomputable def W4:Body:=⟨3,6,fun cf=>(sSeq (sFor (Z5 Z2 [(eFn (g1 lenV) [(Za 2)])]) (.one 3) (YA cf)) (sSeq (sRet (Zb (.bool true))) Ze))⟩
noncomputable def WQ(cf:CF):SM:=(sSeq (sIf (tCmp neV (Zq cf 9 [(Za 0),(Za 5),(eBin Zd (Za 1) (Za 3))]) (eBin Zd (Za 6) (Za 3))) (sSeq (sRet (Zb (.bool false))) Ze) Ze) Ze)
noncomputable def ZbE:Body:=⟨3,8,fun cf=>(sSeq (Zy [5,6] (Za 2)) (sSeq (sFor (Z5 Z2 [(eFn (g1 lenV) [(Za 1)])]) (.one 3) (WQ cf)) (sSeq (Zj 4 (Zq cf 23 [(Za 6),(ZT (Za 0) 0)])) (sSeq (sIf (tCmp ltV (Za 4) (eFn (g1 lenV) [(ZT (Za 0) 0)])) (sSeq (Zj 7 (eLst [(Zb (.int 0)),(Zb (.int 0)),(Zb (.int 0))])) (sSeq (XU (Za 7) (Za 4) (eBin addV (eBin Zd (ZT (Za 0) 0) (Za 4)) (Zb (.int 1)))) (sSeq (sIf (tNot (tVal (Zq cf 30 [(Za 0),(Za 5),(Za 7)]))) (sSeq (sRet (Zb (.bool false))) Ze) Ze) Ze))) Ze) (sSeq (sRet (Zq cf 31 [(Za 0),(Za 5),(eBin subV (eFn (g1 lenV) [(Zq cf 24 [(Za 6),(ZT (Za 0) 0),(Zb (.int 0)),(Zm []),(eLst [])])]) (Zb (.int 1)))])) Ze)))))⟩
noncomputable def Zcv(cf:CF):SM:=(sSeq (sIf (tNot (tVal (Zq cf 37 [(Za 5),(Za 4),(Za 8),(Za 10),(ZbG ZgO (Za 1) (Za 2) (eBin addV (Za 2) (Zb (.int 5))))]))) (sSeq (sRet (Zb (.bool false))) Ze) Ze) Ze)
noncomputable def Zfs(cf:CF):Fn:=(Zm [(eDia cf 2 (Za 5) [(Za 14)]),(eBin mulV (Zm [(Za 14)]) (eFn (g1 lenV) [(Za 4)]))])
noncomputable def Zcu(cf:CF):SM:=(sSeq (Zj 11 (Zq cf 25 [(eBin Zd (Za 1) (eBin addV (Zb (.int 3)) (eBin mulV (Zb (.int 2)) (Za 9)))),(eBin Zd (Za 1) (eBin addV (Zb (.int 4)) (eBin mulV (Zb (.int 2)) (Za 9)))),(eBin Zd (Za 3) (Za 9))])) (sSeq (Z8 (Z7 Zx (Za 8) [(Zq cf 27 [(Za 5),(Za 4),(Za 9),(Za 11),(Za 6),(Za 7)])])) Ze))
noncomputable def Zft(cf:CF):SM:=(sSeq (XU (Za 1) (Za 2) (eBin addV (eBin Zd (Za 1) (Za 2)) (eBin Zd (Za 0) (Za 2)))) Ze)
noncomputable def ZlJ:Body:=⟨1,15,fun cf=>(sSeq (Zj 1 (Zq cf 20 [])) (sSeq (sFor (Z5 Z2 [(eFn (g2 ZaY) [(eFn (g1 lenV) [(Za 0)]),(eFn (g1 lenV) [(Za 1)])])]) (.one 2) (Zft cf)) (sSeq (Zj 3 (Zm [(eBin addV (eBin modV (eBin Zd (Za 1) (Zb (.int 0))) (Zb (.int 3))) (Zb (.int 1))),(eBin addV (eBin modV (eBin Zd (Za 1) (Zb (.int 1))) (Zb (.int 2))) (Zb (.int 1))),(eBin addV (eBin modV (eBin Zd (Za 1) (Zb (.int 2))) (Zb (.int 2))) (Zb (.int 1)))])) (sSeq (Zj 4 (Zq cf 21 [(Za 3)])) (sSeq (Zj 5 (ZlN [(Za 3)])) (sSeq (Zj 6 (Zm [(eDia cf 2 (Za 5) [(Zb (.int 1))]),(eBin mulV (Zm [(Zb (.int 1))]) (eFn (g1 lenV) [(Za 4)]))])) (sSeq (Zj 7 (Zm [(eDia cf 2 (Za 5) [(Zb (.int 0))]),(eBin mulV (Zm [(Zb (.int 0))]) (eFn (g1 lenV) [(Za 4)]))])) (sSeq (Zj 8 (eLst [])) (sSeq (sFor (Z5 Z2 [(Zb (.int 3))]) (.one 9) (Zcu cf)) (sSeq (Zj 10 (ZS (iSeq (Zm [(Zb (.str "accept")),(Zb (.str "drop")),(Zb (.int 2))])) (.one 14) ZM (Zfs cf))) (sSeq (sFor (Z5 Z2 [(Zb (.int 9)),(eFn (g1 lenV) [(Za 1)]),(Zb (.int 5))]) (.one 2) (Zcv cf)) (sSeq (Zy [12,13] (Zm [(eBin Zd (Za 8) (Zb (.int (-1)))),(eBin Zd (Za 8) (Zb (.int (-2))))])) (sSeq (Z8 (Z7 Zx (Za 8) [(Zq cf 34 [(Za 5),(Zq cf 32 [(Za 5),(Za 12),(Za 13)])])])) (sSeq (Z8 (Z7 Zx (Za 8) [(Zq cf 33 [(Za 5),(Zq cf 34 [(Za 5),(Za 12)]),(Zq cf 34 [(Za 5),(Za 13)])])])) (sSeq (sIf (tNot (tVal (Zq cf 40 [(Za 5),(Za 4),(eBin addV (Za 8) (Za 10))]))) (sSeq (sRet (Zb (.bool false))) Ze) Ze) (sSeq (sRet (eAnd (Zq cf 41 [(Za 5),(Za 4),(eBin Zd (Za 8) (Zb (.int (-1))))]) (Zq cf 41 [(Za 5),(Za 4),(eBin Zd (Za 10) (Zb (.int (-1))))]))) Ze))))))))))))))))⟩
noncomputable def tabL:List Body:=[Zkq,Zku,Zkt,Zfr,Zks,ZhY,ZbB,ZhX,ZhZ,Zb4,Zkr,Zfv,Zkv,Zfu,Zfq,W0,X4,W5,Zdx,Zfp,QH,ZaA,QF,Za9,ZbC,Za6,QC,QD,Xn,Xf,Xe,Xm,ZbF,QI,QG,QJ,WR,ZbD,Xo,Za7,W4,ZbE,ZlJ]
noncomputable def tab(i:Nat):Option Body:=tabL[i]?
end
section
open PySem.Calls PyProof.Rows
set_option maxRecDepth 100000
set_option maxHeartbeats 2000000
structure YM:Prop where
 kf:KF U.K
 hC:U.dC=117
theorem Zfb{α β:Type}{f g:α→β}{l:List α}(h:l.map f=l.map g){i:Nat}{a:α}(ha:l[i]?=some a):f a=g a:=List.map_inj_left.mp h a (List.mem_of_getElem? ha)
structure FV(a:Addr)(s:Option Stmt)(fd:FuncData):Prop where
 look:∃oc od osl,U.K.lookup a=some ⟨oc,od,.func fd,osl⟩
 body:fd.body=.stmts (dfOf s).2.1
 scope:fd.scope=(dfOf s).2.2
 clo:fd.closure=[]
 glob:fd.globals=mainGlobals
 bui:fd.builtins=builtinsNs
 par:fd.params=(dfOf s).1
 dfl:fd.defaults=.none
 kwd:fd.kwdefaults=.none
 code:codeIn U.K fd.code fd.qualname=true
theorem ZmY{d:Data}{fd:FuncData}(h:fnOf d=some fd):d=.func fd:=by
 cases d with
 |func g=>rw[Option.some.inj h]
 |_=>cases h
theorem Znh{d:Data}{cd:ClassData}(h:clOf d=some cd):d=.cls cd:=by
 cases d with
 |cls g=>rw[Option.some.inj h]
 |_=>cases h
theorem ZmU{a:Addr}{s:Option Stmt}(h:Zb2 U.K a=Zb3 s):∃fd,FV a s fd:=by
 obtain⟨⟨oc,od,dt,osl⟩,e1,h⟩:=Option.bind_eq_some_iff.mp h
 obtain⟨fd,e2,e⟩:=Option.map_eq_some_iff.mp h
 have e2:dt=.func fd:=ZmY e2
 subst e2
 exact⟨fd,⟨oc,od,osl,e1⟩,congrArg (·.1) e,congrArg (·.2.1) e,congrArg (·.2.2.1) e,congrArg (·.2.2.2.1) e,congrArg (·.2.2.2.2.1) e,congrArg (·.2.2.2.2.2.1) e,congrArg (·.2.2.2.2.2.2.1) e,congrArg (·.2.2.2.2.2.2.2.1) e,congrArg (·.2.2.2.2.2.2.2.2) e⟩
theorem Ziv{s:Option Stmt}{a:Addr}{fd:FuncData}(v:FV a s fd){args:Args}{r:Sem (List (Str×Value))}(h:∀q:Str,bindArgs {(default:FuncData)with qualname:=q,params:=(dfOf s).1,defaults:=.none,kwdefaults:=.none} args=r):bindArgs fd args=r:=by
 have e1:=v.par
 have e2:=v.dfl
 have e3:=v.kwd
 clear v
 cases fd
 cases e1
 cases e2
 cases e3
 exact h _
section
variable(F:YM)
include F
theorem YM.view(i:Nat)(hi:i<43):Zb2 U.K (adr i)=Zb3 (loc i)∧keepIn U.K (.ref (adr i))=true:=Prod.mk.inj (Zfb F.kf.a (i:=i) (List.getElem?_range hi))
theorem YM.attr{x:Str}(i:Nat)(h:idD[i]?=some x):ZdD x∧takerIn U.K U.dC x=some none:=by
 have e:=Zfb F.kf.d h
 have g:=congrArg (·.2.2.2.2.2) F.kf.g
 rw[F.hC]
 exact⟨⟨by rw[F.hC];exact congrArg (·.1) e,by rw[F.hC];exact g,by rw[F.hC];exact congrArg (·.2.1) e⟩,congrArg (·.2.2) e⟩
theorem YM.none{x:Str}(i:Nat)(h:idE[i]?=some x):nsIn U.K mainGlobals x=some none:=Zfb F.kf.e h
theorem YM.gl_len:Xr "len" (.builtin "len"):=.inr ⟨F.none 0 rfl,by kernel_rfl,by decide⟩
theorem YM.gl_min:Xr "min" (.builtin "min"):=.inr ⟨F.none 1 rfl,by kernel_rfl,by decide⟩
theorem YM.gl_max:Xr "max" (.builtin "max"):=.inr ⟨F.none 2 rfl,by kernel_rfl,by decide⟩
theorem YM.gl_sorted:Xr "sorted" (.builtin "sorted"):=.inr ⟨F.none 3 rfl,by kernel_rfl,by decide⟩
theorem YM.gl_tuple:Xr "tuple" (.type "tuple"):=.inr ⟨F.none 4 rfl,by kernel_rfl,by decide⟩
theorem YM.gl_range:Xr "range" (.type "range"):=.inr ⟨F.none 5 rfl,by kernel_rfl,by decide⟩
theorem YM.gl_enumerate:Xr "enumerate" (.type "enumerate"):=.inr ⟨F.none 6 rfl,by kernel_rfl,by decide⟩
theorem YM.gl_zip:Xr "zip" (.type "zip"):=.inr ⟨F.none 7 rfl,by kernel_rfl,by decide⟩
omit F in
theorem six{l:List (Option Value)}{k:Option Value}(h:l.length=6)(e:l[4]?=some k):∃k0 k1 k2 k3 k5,l=[k0,k1,k2,k3,k,k5]:=
 Zl (P:=fun l=>l[4]?=some k→∃k0 k1 k2 k3 k5,l=[k0,k1,k2,k3,k,k5]) (fun k0=>Zl fun k1=>Zl fun k2=>Zl fun k3=>Zl fun k4=>Zl fun k5=>ZC fun e=>⟨k0,k1,k2,k3,k5,by cases e;rfl⟩) l h e
omit F in
theorem Zm4{oc:Value}{dd:Option Addr}{cd:ClassData}{sl:List (Option Value)}{C W:Addr}{k0 k1 k2 k3 k5:Option Value}(c1:oc=.type "type")(c2:cd.mro=.ref C::ZQ W)(c3:cd.hasDict=true)(c4:cd.hasDel=false)(c5:sl=[k0,k1,k2,k3,some (.builtin "Exception.__new__"),k5]):
  (⟨oc,dd,.cls cd,⟨sl⟩⟩:Obj)=XC.obj ⟨cd.name,cd.qualname,cd.ns,cd.bases,cd.slotNames,cd.subclasses,cd.abstract,cd.collection,dd,k0,k1,k2,k3,k5⟩ C W:=by
 cases cd
 cases c1
 cases c2
 cases c3
 cases c4
 cases c5
 rfl
omit F in
theorem Zew{K:Frag}{C W:Addr}(h:Zie K C=some (.type "type",.ref C::ZQ W,true,false,6,some (some (.builtin "Exception.__new__")))):
  ∃xc:XC,K.lookup C=some (xc.obj C W):=by
 obtain⟨⟨oc,dd,dt,⟨sl⟩⟩,e1,h⟩:=Option.bind_eq_some_iff.mp h
 obtain⟨cd,e2,e⟩:=Option.map_eq_some_iff.mp h
 cases Znh e2
 obtain⟨k0,k1,k2,k3,k5,c5⟩:=six (l:=sl) (congrArg (·.2.2.2.2.1) e) ((List.getElem?_toArray).symm.trans (congrArg (·.2.2.2.2.2) e))
 exact⟨_,e1.trans (congrArg some (Zm4 (congrArg (·.1) e) (congrArg (·.2.1) e) (congrArg (·.2.2.1) e) (congrArg (·.2.2.2.1) e) c5))⟩
abbrev DefC(s:Option Stmt)(p1 p2:Str):Prop:=(dfOf s).2.2.kind=.function∧(dfOf s).2.2.isGenerator=false∧(dfOf s).2.2.isCoroutine=false∧(dfOf s).2.2.names.lookup p1=some .local∧(dfOf s).2.2.names.lookup p2=some .local∧∀x∈(dfOf s).2.2.names,x.2≠.cell
omit F in
theorem Zkp{fI:Addr}{s:Option Stmt}{body:List Stmt}{p1 p2:Str}(h:Zb2 U.K fI=Zb3 s)(hb:(dfOf s).2.1=body)(k:decide (DefC s p1 p2)=true)
  (bind:∀(q:Str) (a b:Value),bindArgs {(default:FuncData)with qualname:=q,params:=(dfOf s).1,defaults:=.none,kwdefaults:=.none} ⟨[a,b],[]⟩=pure [(p1,a),(p2,b)]):∃oc od osl fd,FnD fI oc od osl fd body p1 p2∧fd.scope=(dfOf s).2.2:=by
 obtain⟨fd,v⟩:=ZmU h
 obtain⟨oc,od,osl,v1⟩:=v.look
 obtain⟨c1,c2,c3,c4,c5,c6⟩:=of_decide_eq_true k
 rw[← v.scope]at c1 c2 c3 c4 c5 c6
 exact⟨oc,od,osl,fd,⟨v1,v.code,v.body.trans (congrArg _ hb),v.glob,v.bui,c1,c2,c3,fun a b=>Ziv v fun q=>bind q a b,c4,c5,c6⟩,v.scope⟩
theorem YM.exc{x:Str}{C:Addr}(i:Nat)(h:idF[i]?=some (x,C)):ExcC x C 31 28∧hasDictIn U.K C=true:=by
 have e:=Zfb F.kf.f h
 have g:=F.kf.g
 obtain⟨oc,od,osl,fd,d,hs⟩:=Zkp (p1:="self") (p2:="why") (body:=Zcn) (congrArg (·.2.2.1) g) (by kernel_rfl) (by kernel_rfl) fun q a b=>by kernel_rfl
 exact⟨⟨congrArg (·.1) e,congrArg (·.2.1) e,Zew (congrArg (·.2.2.1) e),congrArg (·.2.2.2.1) e,congrArg (·.2.1) g,congrArg (·.2.2.2.2.1) e,congrArg (·.2.2.2.2.2.1) e,congrArg (·.2.2.2.2.2.2.1) e,congrArg (·.2.2.2.2.2.2.2.1) e,congrArg (·.1) g,F.none 8 rfl,by kernel_rfl,oc,od,osl,fd,d,by rw[hs];kernel_rfl⟩,congrArg (·.2.2.2.2.2.2.2.2) e⟩
theorem YM.dia:DiaC 79:=by
 have e:=F.kf.h
 have g:=F.kf.g
 obtain⟨oc,od,osl,fd,d,_⟩:=Zkp (p1:="self") (p2:="tops") (body:=Zey) (congrArg (·.2.2.2.2.1) g) (by kernel_rfl) (by kernel_rfl) fun q a b=>by kernel_rfl
 refine⟨?_,?_,?_,?_,congrArg (·.2.2.2.1) g,?_,?_,(F.attr 0 rfl).2,(F.attr 1 rfl).2,(F.attr 2 rfl).2,(F.attr 3 rfl).2,?_,?_,?_,oc,od,osl,fd,d⟩<;>rw[F.hC]
 ·exact congrArg (·.1) e
 ·exact congrArg (·.2.1) e
 ·exact congrArg (·.2.2.1) e
 ·exact congrArg (·.2.2.2.1) e
 ·exact congrArg (·.2.2.2.2.1) e
 ·exact congrArg (·.2.2.2.2.2.1) e
 ·exact congrArg (·.2.2.2.2.2.2.1) e
 ·decide
 ·exact congrArg (·.2.2.2.2.2.2.2) e
theorem YM.xMisused:ExcC "Misused" Yc 31 28:=(F.exc 0 rfl).1
theorem YM.xLeftOut:ExcC "LeftOut" XQ 31 28:=(F.exc 1 rfl).1
theorem YM.hasMisused:hasDictIn U.K Yc=true:=(F.exc 0 rfl).2
theorem YM.hasLeftOut:hasDictIn U.K XQ=true:=(F.exc 1 rfl).2
end
abbrev FnC(np:Nat)(xs:List Str)(i:Nat):Prop:=(dfOf (loc i)).2.2.kind=.function∧(dfOf (loc i)).2.2.isGenerator=false∧(dfOf (loc i)).2.2.isCoroutine=false∧(∀x∈xs.take np,(dfOf (loc i)).2.2.names.lookup x=some .local∨(dfOf (loc i)).2.2.names.lookup x=some .cell)∧xs.Nodup∧((dfOf (loc i)).2.2.names.map (·.1)).Nodup
theorem Zr(F:YM)(i:Nat){b:Body}(xs:List Str)(hi:i<43)(hc:decide (FnC b.np xs i)=true)
  (bind:∀(q:Str) (ys:List Value),ys.length=b.np→bindArgs {(default:FuncData)with qualname:=q,params:=(dfOf (loc i)).1,defaults:=.none,kwdefaults:=.none} ⟨ys,[]⟩=pure ((xs.take b.np).zip ys))
  (sem:∀n cf,XS n adr cf→SemB ⟨n,(dfOf (loc i)).2.2,xs⟩ (dfOf (loc i)).2.1 (b.run cf)):∃fd body xs,FnOk adr i b fd body xs:=by
 obtain⟨fd,v⟩:=ZmU (F.view i hi).1
 obtain⟨c1,c2,c3,c4,c5,c6⟩:=of_decide_eq_true hc
 have c7:=sem
 rw[← v.scope]at c1 c2 c3 c4 c6 c7
 exact⟨fd,_,xs,v.look,v.code,v.body,v.clo,v.glob,v.bui,c1,c2,c3,fun ys h=>Ziv v fun q=>bind q ys h,c4,c5,c6,c7⟩
end
section
open PySem.Calls PyProof.Rows
set_option genInjectivity false
noncomputable def ck(c:Bool):Option (PLift (c=true)):=match c with
 |true=>some ⟨rfl⟩
 |false=>none
noncomputable def op{α:Type}(o:Option α):Option {a//o=some a}:=match o with
 |none=>none
 |some a=>some ⟨a,rfl⟩
noncomputable def ck0(i:Int):Option (PLift (i=0)):=if h:i=0 then some ⟨h⟩else none
noncomputable def ck1(i:Int):Option (PLift (i=1)):=if h:i=1 then some ⟨h⟩else none
noncomputable def row{β:Type}{P:Str→β→Prop}(y:Str)(c:Bool)(b:β)(h:c=true→P y b)(x:Str)(r:Option {b//P x b}):Option {b//P x b}:=
 if e:x=y then(ck c).bind (fun q=>some ⟨b,e▸h q.1⟩) |>.or r else r
noncomputable def lc(e:Expr):Bool:=match e with
 | .ListComp ..=>true
 |_=>false
structure Fine(e:Expr):Prop where
 st:isStarred e=false
 sl:Zhu e
 bm:∀op,behindInMarks op e=false
 fs:∀env x,foldedSetIterable e env x=pure x
 au:∀ov iv new,augStore e ov iv new=(do holding [new,ov,iv] (setItem ov iv new);release [new,ov,iv] [];pure .next)
 sw:lc e=false→∀t l env,swapsWith e t l env=pure false
noncomputable def ndb(x:Str):Bool:=!(x==("__debug__":Str))
theorem Zll{x:Str}(h:ndb x=true):(x==("__debug__":Str))=false:=by
 unfold ndb at h
 cases e:x==("__debug__":Str)with
 |false=>rfl
 |true=>rw[e]at h;cases h
noncomputable def gl(sc:Scope)(x:Str):Option (PLift (sc.names.lookup x=some .globalImplicit∧(x==("__debug__":Str))=false)):=
 (ck (sc.names.lookup x==some .globalImplicit)).bind fun a=>(ck (ndb x)).bind fun b=>some ⟨beq_iff_eq.mp a.1,Zll b.1⟩
noncomputable def opB(n:Nat)(op:Operator):Option {g//Op2 n (binaryOp op) g}:=match op with
 | .Add=>some ⟨_,Zm3⟩
 | .Sub=>some ⟨_,Zmy⟩
 | .Mult=>some ⟨_,Zmz⟩
 | .FloorDiv=>some ⟨_,Zm2⟩
 | .Mod=>some ⟨_,Zm0⟩
 |_=>none
noncomputable def opC(n:Nat)(op:CmpOp):Option {g//OpC n op g}:=match op with
 | .Lt=>some ⟨_,Zn5⟩
 | .LtE=>some ⟨_,Zn6⟩
 | .Gt=>some ⟨_,Zn7⟩
 | .Eq=>some ⟨_,Zn8⟩
 | .NotEq=>some ⟨_,Zn4⟩
 | .In=>some ⟨_,Zm1⟩
 | .NotIn=>some ⟨_,Zjl⟩
 |_=>none
section
variable(F:YM)
theorem Zfa{α β:Type}{f g:α→β}{l:List α}(h:l.map f=l.map g){a:α}(ha:a∈l):f a=g a:=List.map_inj_left.mp h a ha
theorem ZmS{i:Nat}(h:i∈idB):i∈idA:=(List.mem_filter.mp h).1
theorem ZmR{i:Nat}(h:i∈idC):i∈idA:=List.mem_range.mpr (Nat.lt_of_le_of_lt (by
 have:∀i∈idC,i≤5:=by decide
 exact this i h) (by decide))
include F
noncomputable def fnId(x:Str):Option {i//Zk1 adr x i}:=(ck (idB.contains (nmL.idxOf x))).bind fun a=>(ck (nm (nmL.idxOf x)==x)).bind fun b=>some ⟨nmL.idxOf x,(congrArg (nsIn U.K mainGlobals) (beq_iff_eq.mp b.1)).symm.trans (Zfa F.kf.b (List.contains_iff_mem.mp a.1)),congrArg (·.2) (Zfa F.kf.a (ZmS (List.contains_iff_mem.mp a.1)))⟩
theorem meF{x:Str}{i:Nat}(m:i∈idC)(e:nm i=x)(c:(!(["tops","nodes","book","memo"]:List Str).contains x)=true):Zi2 adr x i:=by
 have q:=Zfa F.kf.c m
 have ne:∀{y:Str},y∈(["tops","nodes","book","memo"]:List Str)→x≠y:=fun hy q=>by rw[q,List.contains_iff_mem.mpr hy]at c;cases c
 exact⟨by rw[F.hC];exact(congrArg (findIn U.K (.ref 117)) e).symm.trans (congrArg (·.1) q),by rw[F.hC];exact(congrArg (plainGet U.K 117) e).symm.trans (congrArg (·.2.1) q),congrArg (·.2.2) q,congrArg (·.2) (Zfa F.kf.a (ZmR m)),ne (.head _),ne (.tail _ (.head _)),ne (.tail _ (.tail _ (.head _))),ne (.tail _ (.tail _ (.tail _ (.head _))))⟩
noncomputable def meId(x:Str):Option {i//Zi2 adr x i}:=(ck (idC.contains (nmL.idxOf x))).bind fun a=>(ck (nm (nmL.idxOf x)==x)).bind fun b=>(ck (!(["tops","nodes","book","memo"]:List Str).contains x)).bind fun c=>some ⟨nmL.idxOf x,meF F (List.contains_iff_mem.mp a.1) (beq_iff_eq.mp b.1) c.1⟩
noncomputable abbrev BP(n:Nat)(x:Str)(g:List V→HM V):Prop:=∃fv,FnN n fv g∧Xr x fv∧ZhI fv=true
noncomputable def bFn(n:Nat)(x:Str)(k:Nat):Option {g//BP n x g}:=
 row "len" (k==1) _ (fun _=>⟨_,ZmX,F.gl_len,rfl⟩) x<|row "min" (k==1) _ (fun _=>⟨_,ZmW,F.gl_min,rfl⟩) x<|row "min" (k==2) _ (fun _=>⟨_,ZlH,F.gl_min,rfl⟩) x<|
 row "max" (k==2) _ (fun _=>⟨_,ZlI,F.gl_max,rfl⟩) x<|row "tuple" (k==1) _ (fun _=>⟨_,Zj9,F.gl_tuple,rfl⟩) x<|row "sorted" (k==1) _ (fun _=>⟨_,ZhS,F.gl_sorted,rfl⟩) x none
noncomputable abbrev IP(n:Nat)(tg:Expr)(x:Str)(g:List V→HM (List P)):Prop:=∃fv,ItN n tg fv g∧Xr x fv∧ZhI fv=true
noncomputable def iFn(n:Nat)(tg:Expr)(x:Str):Option {g//IP n tg x g}:=
 row "range" true _ (fun _=>⟨_,Zeq,F.gl_range,rfl⟩) x (match tg with
  | .Tuple es k p=>row "enumerate" true _ (fun _=>⟨_,Zge,F.gl_enumerate,rfl⟩) x<|row "zip" true _ (fun _=>⟨_,ZmP,F.gl_zip,rfl⟩) x none
  |_=>none)
omit F
noncomputable abbrev ML(n:Nat)(x:Str)(op:V→List V→HM V):Prop:=∃id,MthN n id op∧Wn x id
noncomputable def mL(n:Nat)(x:Str):Option {op//ML n x op}:=
 row "append" true _ (fun _=>⟨_,ZfV,ZfC⟩) x<|row "extend" true _ (fun _=>⟨_,ZfU,ZfB⟩) x<|row "pop" true _ (fun _=>⟨_,Zlo,ZkL⟩) x<|row "reverse" true _ (fun _=>⟨_,Zec,ZdN⟩) x none
end
theorem Zet{es:List Expr}(ha:(es.all fun e=>!isStarred e)=true)(hl:decide (es.length<30)=true)(pos:Pos)(env:Env):methodCallForm (es.length+0) (backTo pos (starEach es env)) []=true:=by
 have h:=Xq es pos env ha
 unfold methodCallForm
 rw[List.any_eq_false]at h
 have:((backTo pos (starEach es env)).all fun x=>!x.1)=true:=List.all_eq_true.mpr fun x hx=>by rw[Bool.eq_false_iff.mpr (h x hx)];rfl
 rw[this]
 simp[of_decide_eq_true hl]
section
variable{n:Nat}{xs:List Str}{cf:CF}(F:YM)(hcf:XS n adr cf)(tS lv:Bool)
noncomputable abbrev QE(n:Nat)(xs:List Str)(sc:Scope)(e:Expr):=Option {f:Fn//SemE ⟨n,sc,xs⟩ e f}
noncomputable abbrev RE(n:Nat)(xs:List Str):=∀(sc:Scope) (e:Expr),Option {f:Fn//SemE ⟨n,sc,xs⟩ e f∧Fine e}
noncomputable abbrev RT(n:Nat)(xs:List Str):=∀(sc:Scope) (e:Expr),Option {t:Tn//SemT ⟨n,sc,xs⟩ e t}
variable(rE:RE n xs)(rT:RT n xs)
noncomputable def aEs{Γ:Cfg}(r:∀e,Option {f:Fn//SemE Γ e f∧Fine e})(es:List Expr):Option {fs:List Fn//Ww Γ es fs∧(es.all fun e=>!isStarred e)=true}:=
 List.rec (some ⟨[],Zhb,rfl⟩) (fun e es ih=>(r e).bind fun f=>ih.bind fun fs=>some ⟨f.1::fs.1,ZfK f.2.1 fs.2.1 f.2.2.st,by rw[List.all_cons,f.2.2.st,fs.2.2];rfl⟩) es
noncomputable def aCst(sc:Scope)(c:Const)(k:Nat)(pos:Pos):QE n xs sc (.Constant c k pos):=match c with
 | .none=>some ⟨_,ZiJ⟩
 | .bool b=>some ⟨_,ZiU⟩
 | .int i=>some ⟨_,ZkS⟩
 | .str x=>(ck (PyData.strOk x)).bind fun h=>some ⟨_,ZkP h.1⟩
 |_=>none
structure NmAt(sc:Scope)(xs:List Str)(x:Str)(i:Nat)(k:NameKind):Prop where
 hx:xs[i]?=some x
 hk:sc.names.lookup x=some k
 hv:Xu k=true
 hd:(x==("__debug__":Str))=false
noncomputable def aNm(sc:Scope)(xs:List Str)(x:Str):Option {p:Nat×NameKind//NmAt sc xs x p.1 p.2}:=
 (ck (xs[xs.idxOf x]?==some x)).bind fun a=>(op (sc.names.lookup x)).bind fun k=>(ck (Xu k.1)).bind fun b=>(ck (ndb x)).bind fun c=>some ⟨(xs.idxOf x,k.1),beq_iff_eq.mp a.1,k.2,b.1,Zll c.1⟩
include F hcf in
noncomputable def Zo9(sc:Scope)(pos:Pos)(u:Expr)(es:List Expr)(fs:{fs:List Fn//Ww ⟨n,sc,xs⟩ es fs∧(es.all fun e=>!isStarred e)=true}):QE n xs sc (.Call u es [] pos):=match u with
 | .Name x p=>(gl sc x).bind fun g=>((fnId F x).bind fun i=>some ⟨Zq cf i.1 fs.1,ZiT hcf i.2 fs.2.1 g.1.1 g.1.2 fs.2.2⟩).or
   ((if e:x="Diagrams" then some ⟨ZlN fs.1,e▸ZiM F.dia fs.2.1 (e▸g.1.1) fs.2.2⟩else none:QE n xs sc (.Call (.Name x p) es [] pos)).or (match es,fs with
    |[],_=>none
    |a::es,fs=>(bFn F n x (a::es).length).bind fun o=>some ⟨eFn o.1 fs.1,o.2.elim fun fv h=>Zmu h.1 h.2.1 fs.2.1 h.2.2 g.1.1 g.1.2 fs.2.2⟩))
 | .Attribute o x ap=>(ck (ap.endLine==pos.line)).bind fun c=>(rE sc o).bind fun f=>(match o,f with
   | .Name y p,f=>some ⟨fun _ _ _=>rfl,f.2.1⟩
   | .Attribute y z p,f=>some ⟨fun _ _ _=>rfl,f.2.1⟩
   |_,_=>none:Option (PLift ((∀x env w,attributeBase o x env w=w)∧SemE ⟨n,sc,xs⟩ o f.1))).bind fun b=>(ck (decide (es.length<30))).bind fun l=>
    ((meId F x).bind fun i=>some ⟨eDia cf i.1 f.1 fs.1,ZiL hcf i.2 b.1.2 fs.2.1 fs.2.2 (b.1.1 x) (Zet fs.2.2 l.1 pos) c.1⟩:QE n xs sc (.Call (.Attribute o x ap) es [] pos)).or ((mL n x).bind fun m=>match es,fs,l with
     |[],_,l=>some ⟨Z7 m.1 f.1 [],m.2.elim fun id h=>ZfI h.1 h.2 b.1.2 (b.1.1 x) (Zet rfl l.1 pos) c.1⟩
     |a::es,fs,l=>some ⟨Z7 m.1 f.1 fs.1,m.2.elim fun id h=>ZgW h.1 h.2 b.1.2 fs.2.1 fs.2.2 (b.1.1 x) (Zet fs.2.2 l.1 pos) c.1⟩)
 |_=>none
noncomputable def aSl(sc:Scope)(y:Str)(yp:Pos)(f:{f:Fn//SemE ⟨n,sc,xs⟩ (.Name y yp) f})(p pos:Pos)(lo up:Option Expr):QE n xs sc (.Subscript (.Name y yp) (.Slice lo up none p) pos):=match lo,up with
 |some l,some u=>(rE sc l).bind fun g=>(rE sc u).bind fun h=>match tS with
  |true=>some ⟨_,ZfG f.2 g.2.1 h.2.1 (fun _ _=>rfl)⟩
  |false=>some ⟨_,ZfH f.2 g.2.1 h.2.1 (fun _ _=>rfl)⟩
 |none,some (.UnaryOp .USub (.Constant (.int i) q p1) p2)=>(ck1 i).bind fun h=>some ⟨eOp1 ZhK f.1,h.1▸ZiQ f.2 (fun _ _=>rfl)⟩
 |_,_=>none
noncomputable def aSub(sc:Scope)(e:Expr)(f:{f:Fn//SemE ⟨n,sc,xs⟩ e f})(pos:Pos)(s:Expr):QE n xs sc (.Subscript e s pos):=match s with
 | .Slice lo up none p=>(match e,f with
  | .Name y yp,f=>aSl tS rE sc y yp f p pos lo up
  |_,_=>none)
 |s=>(rE sc s).bind fun g=>some ⟨_,ZiP f.2 g.2.1 g.2.2.sl⟩
noncomputable def aNms(ok:Nat→Str→Bool)(xs:List Str)(es:List Expr):Option {is//Nms ok is es}:=
 List.rec (some ⟨[],.nil⟩) (fun e es ih=>match e with
  | .Name x p=>(ck (ok (xs.idxOf x) x)).bind fun c=>ih.bind fun is=>some ⟨xs.idxOf x::is.1,.cons c.1 is.2⟩
  |_=>none) es
noncomputable def aTg(ok:Nat→Str→Bool)(xs:List Str)(e:Expr):Option {t//TgIs ok t e}:=match e with
 | .Name x p=>(ck (ok (xs.idxOf x) x)).bind fun c=>some ⟨_,.one c.1⟩
 | .Tuple es k p=>(aNms ok xs es).bind fun is=>some ⟨_,.tup is.2⟩
 |_=>none
include F in
noncomputable def aIt(sc:Scope)(tg e:Expr):Option {i//SemI ⟨n,sc,xs⟩ tg e i}:=(match e with
 | .Call (.Name x p) (a::es) [] pos=>(iFn F n tg x).bind fun g=>(gl sc x).bind fun h=>(aEs (rE sc) (a::es)).bind fun fs=>some ⟨Z5 g.1 fs.1,g.2.elim fun fv o=>Zha o.1 o.2.1 fs.2.1 o.2.2 h.1.1 h.1.2 fs.2.2⟩
 |_=>none:Option {i//SemI ⟨n,sc,xs⟩ tg e i}).or ((rE sc e).bind fun f=>some ⟨_,ZiZ f.2.1⟩)
noncomputable def aIfs(sc:Scope)(cs:List Expr):Option {c//SemF ⟨n,sc,xs⟩ cs c}:=match cs with
 |[]=>some ⟨_,Zjb⟩
 |[c]=>(rT sc c).bind fun t=>some ⟨_,Zja t.2⟩
 |_=>none
noncomputable def fz(e:Expr):Option (PLift (∀env x,foldedSetIterable e env x=pure x)):=match e with
 | .Name ..=>some ⟨fun _ _=>rfl⟩
 | .Call ..=>some ⟨fun _ _=>rfl⟩
 | .Subscript ..=>some ⟨fun _ _=>rfl⟩
 | .Tuple ..=>some ⟨fun _ _=>rfl⟩
 |_=>none
include F in
noncomputable def aLc(sc:Scope)(elt:Expr)(gs:List Comprehension)(s:Scope)(pos:Pos):QE n xs sc (.ListComp elt gs s pos):=match gs with
 |[⟨tg,iter,ifs,a⟩]=>(ck0 a).bind fun z=>(aIfs rT (Z0 s sc) ifs).bind fun c=>(rE (Z0 s sc) elt).bind fun f=>(aTg (WA (Z0 s sc) xs) xs tg).bind fun t=>(ck (Qa s sc xs (tgIs t.1))).bind fun co=>(match lv,iter with
   |true,.Name x xp=>(aNm sc xs x).bind fun i=>some ⟨ZaD i.1.1 t.1 c.1 f.1,z.1▸ZgY _ _ i.2.hx i.2.hk i.2.hv i.2.hd c.2 f.2.1 co.1 t.2⟩
   |_,_=>none:QE n xs sc (.ListComp elt [⟨tg,iter,ifs,a⟩] s pos)).or ((aIt F rE sc tg iter).bind fun i=>(fz iter).bind fun h=>some ⟨ZS i.1 t.1 c.1 f.1,z.1▸ZiS i.2 c.2 f.2.1 co.1 t.2 h.1⟩)
 |[⟨tg,it,[],a⟩,⟨tg1,it1,[],a1⟩,⟨tg2,it2,[],a2⟩]=>(ck0 a).bind fun z=>(ck0 a1).bind fun z1=>(ck0 a2).bind fun z2=>(aIt F rE sc tg it).bind fun i=>(aIt F rE (Z0 s sc) tg1 it1).bind fun i1=>(aIt F rE (Z0 s sc) tg2 it2).bind fun i2=>(rE (Z0 s sc) elt).bind fun f=>
   (aTg (WA (Z0 s sc) xs) xs tg).bind fun t=>(aTg (WA (Z0 s sc) xs) xs tg1).bind fun t1=>(aTg (WA (Z0 s sc) xs) xs tg2).bind fun t2=>(ck (Qa s sc xs (tgIs t.1++(tgIs t1.1++tgIs t2.1)))).bind fun co=>(fz it).bind fun h=>(fz it1).bind fun h1=>(fz it2).bind fun h2=>
    some ⟨Zij (tgIs t.1++(tgIs t1.1++tgIs t2.1)) i.1 t.1 i1.1 t1.1 i2.1 t2.1 f.1,by cases z.1;cases z1.1;cases z2.1;exact ZgZ _ i.2 i1.2 i2.2 f.2.1 co.1 t.2 t1.2 t2.2 h.1 h1.1 h2.1⟩
 |_=>none
noncomputable abbrev FE(n:Nat)(xs:List Str)(sc:Scope)(e:Expr):=Option {f:Fn//SemE ⟨n,sc,xs⟩ e f∧Fine e}
noncomputable def fn{sc:Scope}{e:Expr}(h:Fine e)(o:QE n xs sc e):FE n xs sc e:=o.bind fun f=>some ⟨f.1,f.2,h⟩
include F hcf in
noncomputable def Zny(sc:Scope)(e:Expr):FE n xs sc e:=match e with
 | .BoolOp .And [a,b] p=>fn ⟨rfl,fun _ _=>rfl,fun _=>rfl,fun _ _=>rfl,fun _ _ _=>rfl,fun _ _ _ _=>rfl⟩ ((rE sc a).bind fun f=>(rE sc b).bind fun g=>some ⟨_,ZkZ f.2.1 g.2.1⟩)
 | .BinOp a o b p=>fn ⟨rfl,fun _ _=>rfl,fun _=>rfl,fun _ _=>rfl,fun _ _ _=>rfl,fun _ _ _ _=>rfl⟩ ((opB n o).bind fun o=>(rE sc a).bind fun f=>(rE sc b).bind fun g=>some ⟨_,ZkX o.2 f.2.1 g.2.1⟩)
 | .UnaryOp .USub (.Constant (.int i) k q) p=>some ⟨_,ZkR,rfl,fun _ _=>rfl,fun _=>rfl,fun _ _=>rfl,fun _ _ _=>rfl,fun _ _ _ _=>rfl⟩
 | .IfExp t a b p=>fn ⟨rfl,fun _ _=>rfl,fun _=>rfl,fun _ _=>rfl,fun _ _ _=>rfl,fun _ _ _ _=>rfl⟩ ((rT sc t).bind fun t=>(rE sc a).bind fun f=>(rE sc b).bind fun g=>some ⟨_,Zmt t.2 f.2.1 g.2.1⟩)
 | .Dict [some k] [.Constant (.bool d) q r] p=>fn ⟨rfl,fun _ _=>rfl,fun _=>rfl,fun _ _=>rfl,fun _ _ _=>rfl,fun _ _ _ _=>rfl⟩ ((rE sc k).bind fun f=>some ⟨_,ZgX f.2.1⟩)
 | .ListComp elt gs s p=>fn ⟨rfl,fun _ _=>rfl,fun _=>rfl,fun _ _=>rfl,fun _ _ _=>rfl,fun h=>nomatch h⟩ (aLc F lv rE rT sc elt gs s p)
 | .Compare a [o] [b] p=>fn ⟨rfl,fun _ _=>rfl,fun _=>rfl,fun _ _=>rfl,fun _ _ _=>rfl,fun _ _ _ _=>rfl⟩ ((opC n o).bind fun o=>(rE sc a).bind fun f=>(rE sc b).bind fun g=>some ⟨_,ZkW o.2 f.2.1 g.2.1 (g.2.2.bm _)⟩)
 | .Call u es [] p=>fn ⟨rfl,fun _ _=>rfl,fun _=>rfl,fun _ _=>rfl,fun _ _ _=>rfl,fun _ _ _ _=>rfl⟩ ((aEs (rE sc) es).bind fun fs=>Zo9 F hcf rE sc p u es fs)
 | .Constant c k p=>fn ⟨rfl,fun _ _=>rfl,fun _=>rfl,fun _ _=>rfl,fun _ _ _=>rfl,fun _ _ _ _=>rfl⟩ (aCst sc c k p)
 | .Attribute (.Name y q) x p=>fn ⟨rfl,fun _ _=>rfl,fun _=>rfl,fun _ _=>rfl,fun _ _ _=>rfl,fun _ _ _ _=>rfl⟩ ((ck (Ziw[Ziw.idxOf x]?==some x)).bind fun c=>(rE sc (.Name y q)).bind fun f=>some ⟨_,ZiV _ f.2.1 (F.attr _ (beq_iff_eq.mp c.1)).1 (beq_iff_eq.mp c.1) (fun _=>rfl)⟩)
 | .Subscript a s p=>fn ⟨rfl,fun _ _=>rfl,fun _=>rfl,fun _ _=>rfl,fun _ _ _=>rfl,fun _ _ _ _=>rfl⟩ ((rE sc a).bind fun f=>aSub tS rE sc a ⟨f.1,f.2.1⟩ p s)
 | .Name x p=>fn ⟨rfl,fun _ _=>rfl,fun _=>rfl,fun _ _=>rfl,fun _ _ _=>rfl,fun _ _ _ _=>rfl⟩ ((aNm sc xs x).bind fun i=>some ⟨_,ZiK _ _ i.2.hx i.2.hk i.2.hv i.2.hd⟩)
 | .List es p=>fn ⟨rfl,fun _ _=>rfl,fun _=>rfl,fun _ _=>rfl,fun _ _ _=>rfl,fun _ _ _ _=>rfl⟩ ((aEs (rE sc) es).bind fun fs=>some ⟨_,ZiN fs.2.1⟩)
 | .Tuple es k p=>fn ⟨rfl,fun _ _=>rfl,fun _=>rfl,fun _ _=>rfl,fun _ _ _=>rfl,fun _ _ _ _=>rfl⟩ ((aEs (rE sc) es).bind fun fs=>some ⟨_,ZgT fs.2.1⟩)
 |_=>none
noncomputable def Znw(sc:Scope)(e:Expr):Option {t:Tn//SemT ⟨n,sc,xs⟩ e t}:=match e with
 | .Compare a [o] [b] p=>(opC n o).bind fun o=>(rE sc a).bind fun f=>(rE sc b).bind fun g=>some ⟨_,ZiX o.2 f.2.1 g.2.1 (g.2.2.bm _)⟩
 | .Compare a [o,o2] [b,c] p=>(opC n o).bind fun o=>(opC n o2).bind fun o2=>(rE sc a).bind fun f=>(rE sc b).bind fun g=>(rE sc c).bind fun h=>some ⟨_,ZfJ o.2 o2.2 f.2.1 g.2.1 h.2.1 (h.2.2.bm _)⟩
 | .BoolOp .And [a,b] p=>(rT sc a).bind fun f=>(rT sc b).bind fun g=>some ⟨_,ZiY f.2 g.2⟩
 | .BoolOp .Or [a,b] p=>(rT sc a).bind fun f=>(rT sc b).bind fun g=>some ⟨_,Zla f.2 g.2⟩
 | .UnaryOp .Not a p=>(rT sc a).bind fun f=>some ⟨_,ZiW f.2⟩
 | .Name x p=>(rE sc (.Name x p)).bind fun f=>some ⟨_,Zcb f.2.1 (fun _=>rfl)⟩
 | .Call u es ks p=>(rE sc (.Call u es ks p)).bind fun f=>some ⟨_,Zcb f.2.1 (fun _=>rfl)⟩
 | .Subscript a s p=>(rE sc (.Subscript a s p)).bind fun f=>some ⟨_,Zcb f.2.1 (fun _=>rfl)⟩
 |_=>none
include F hcf in
noncomputable def both(k:Nat):RE n xs×RT n xs:=Nat.rec (fun _ _=>none,fun _ _=>none) (fun _ r=>(Zny F hcf tS lv r.1 r.2,Znw r.1 r.2)) k
end
noncomputable def swB(sc s:Scope)(x:Str)(p q:Nat):Bool:=(sc.names.lookup x==some .local)&&(p==q)&&!(s.names.any fun(n,k)=>n==x&&(k==.local||k==.cell))
theorem ZjX{sc s:Scope}{x:Str}{p q:Pos}{elt:Expr}{gs:List Comprehension}{l:Nat}(hk:sc.kind=.function)(env:Env)(h:env.scope=sc):swapsWith (.ListComp elt gs s q) (some (.Name x p)) l env=pure (swB sc s x p.line q.line):=by
 cases env
 cases h
 unfold swapsWith swB Env.blockKind Env.kindOf
 dsimp only
 rw[hk]
 rfl
set_option backward.match.sparseCases true in
noncomputable def nsOf(sc:Scope)(es:List Expr):List Str:=es.filterMap fun
 | .Name id pos=>if sc.names.lookup id==some .local&&pos.line==(es.head?.map (·.pos.line)).getD 0 then some id else none
 |_=>none
set_option backward.match.sparseCases true in
theorem Zmr{sc:Scope}{es vs:List Expr}{k k2:Nat}{p p2:Pos}(hk:sc.kind=.function)(h1:(es.length==2||es.length==3)=true)(h2:(vs.length != es.length)=false)(h3:(vs.any isStarred)=false)(h5:((nsOf sc es).length != es.length||(nsOf sc es).eraseDups.length != (nsOf sc es).length)=false)(h6:vs.all (foldedForSure 8)=false)(h7:vs.all (constantsAlone 8)=false)
  (env:Env) (h:env.scope=sc):swappedStores [.Tuple es k p] (.Tuple vs k2 p2) env=pure (some (nsOf sc es)):=by
 cases env
 cases h
 unfold swappedStores Env.blockKind
 dsimp only
 rw[h1,h2,hk]
 show(if(vs.any isStarred)=true then _ else _)=_
 rw[h3]
 show(if((nsOf _ es).length != es.length||(nsOf _ es).eraseDups.length != (nsOf _ es).length)=true then _ else _)=_
 rw[h5,h6,h7]
 rfl
section
variable{n:Nat}{xs:List Str}(F:YM)(sc:Scope)(hk:sc.kind=.function)(rE:RE n xs)(rT:RT n xs)
noncomputable abbrev QS(n:Nat)(xs:List Str)(sc:Scope)(st:Stmt):=Option {m:SM//SemS ⟨n,sc,xs⟩ st m}
variable(rS:∀st,QS n xs sc st)
noncomputable def aB(l:List Stmt):Option {m:SM//SemB ⟨n,sc,xs⟩ l m}:=List.rec (some ⟨_,Zjc⟩) (fun st l ih=>(rS st).bind fun m=>ih.bind fun k=>some ⟨_,Zhc m.2 k.2⟩) l
noncomputable def rV(e:Expr):Option {f:Fn//SemE ⟨n,sc,xs⟩ e f∧Fine e∧∀t l env,swapsWith e t l env=pure false}:=(rE sc e).bind fun f=>(op (some (lc e))).bind fun b=>match b with
 |⟨false,h⟩=>some ⟨f.1,f.2.1,f.2.2,f.2.2.sw (Option.some.inj h)⟩
 |⟨true,_⟩=>none
structure UnAt(sc:Scope)(xs:List Str)(x:Str)(i:Nat)(k:NameKind):Prop where
 hx:uniq xs i x=true
 hk:sc.names.lookup x=some k
 hv:Xu k=true
noncomputable def aUn(x:Str):Option {k:NameKind//UnAt sc xs x (xs.idxOf x) k}:=(ck (uniq xs (xs.idxOf x) x)).bind fun a=>(op (sc.names.lookup x)).bind fun k=>(ck (Xu k.1)).bind fun b=>some ⟨k.1,a.1,k.2,b.1⟩
include F hk in
noncomputable def aAsC(x:Str)(p pos:Pos)(tg iter:Expr)(ifs:List Expr)(a:Int)(elt:Expr)(s:Scope)(q:Pos):QS n xs sc (.Assign [.Name x p] (.ListComp elt [⟨tg,iter,ifs,a⟩] s q) pos):=
 ((ck (swB sc s x p.line q.line)).bind fun w=>(ck (X2 sc xs (xs.idxOf x) x)).bind fun y=>(ck0 a).bind fun z=>(aIt F rE sc tg iter).bind fun i=>(aIfs rT (Z0 s sc) ifs).bind fun c=>(rE (Z0 s sc) elt).bind fun f=>(aTg (WA (Z0 s sc) xs) xs tg).bind fun t=>(ck (Qa s sc xs (tgIs t.1))).bind fun co=>(fz iter).bind fun h=>
  some ⟨Zj (xs.idxOf x) (ZS i.1 t.1 c.1 f.1),z.1▸ZdR _ i.2 c.2 f.2.1 co.1 t.2 h.1 y.1 (fun env e=>(ZjX hk env e).trans (congrArg pure w.1))⟩).or
 ((ck (!swB sc s x p.line q.line)).bind fun w=>(rE sc (.ListComp elt [⟨tg,iter,ifs,a⟩] s q)).bind fun f=>(aUn sc x).bind fun u=>some ⟨_,Zbk _ f.2.1 u.2.hx u.2.hk u.2.hv (fun env e=>(ZjX hk env e).trans (congrArg pure ((Bool.not_eq_true' _).mp w.1)))⟩)
noncomputable def Zoj(e:Expr):Option (PLift (∀es kk tp env,swappedStores [.Tuple es kk tp] e env=pure none)):=match e with
 | .Name ..=>some ⟨fun _ _ _ _=>rfl⟩
 | .Call ..=>some ⟨fun _ _ _ _=>rfl⟩
 |_=>none
include hk in
noncomputable def aAsg(t e:Expr)(pos:Pos):QS n xs sc (.Assign [t] e pos):=match t,e with
 | .Name x p,e=>(rV sc rE e).bind fun f=>(aUn sc x).bind fun u=>some ⟨_,Zbk _ f.2.1 u.2.hx u.2.hk u.2.hv (fun env _=>f.2.2.2 _ _ env)⟩
 | .Tuple es k p,.Tuple vs k2 p2=>(rE sc (.Tuple vs k2 p2)).bind fun f=>(aNms (X2 sc xs) xs es).bind fun is=>(ck (es.length==2||es.length==3)).bind fun h1=>(ck (!(vs.length != es.length))).bind fun h2=>(ck (!vs.any isStarred)).bind fun h3=>(ck (!((nsOf sc es).length != es.length||(nsOf sc es).eraseDups.length != (nsOf sc es).length))).bind fun h5=>(ck (!vs.all (foldedForSure 8))).bind fun h6=>(ck (!vs.all (constantsAlone 8))).bind fun h7=>
   (ck (decide is.1.Nodup)).bind fun h8=>(ck (decide (is.1.length=(nsOf sc es).length))).bind fun h9=>(ck ((is.1.reverse.zip (nsOf sc es).reverse).all fun p=>X2 sc xs p.1 p.2)).bind fun h0=>
    some ⟨Zy is.1 f.1,ZdQ is.1 (nsOf sc es) f.2.1 (of_decide_eq_true h8.1) (of_decide_eq_true h9.1) h0.1 (fun _=>rfl) (Zmr hk h1.1 ((Bool.not_eq_true' _).mp h2.1) ((Bool.not_eq_true' _).mp h3.1) ((Bool.not_eq_true' _).mp h5.1) ((Bool.not_eq_true' _).mp h6.1) ((Bool.not_eq_true' _).mp h7.1))⟩
 | .Tuple es k p,e=>(rV sc rE e).bind fun f=>(aNms (X2 sc xs) xs es).bind fun is=>(Zoj e).bind fun h=>some ⟨_,ZfF is.1 f.2.1 is.2 (fun env=>f.2.2.2 (some (.Tuple es k p)) pos.line env) (h.1 _ _ _)⟩
 | .Subscript o i p,e=>(rV sc rE e).bind fun f=>(rE sc o).bind fun fo=>(rE sc i).bind fun fi=>some ⟨_,ZgU fo.2.1 fi.2.1 f.2.1 (fun env=>f.2.2.2 _ _ env)⟩
 |_,_=>none
include F
noncomputable abbrev EP(x:Str)(C:Addr):Prop:=ExcC x C 31 28∧hasDictIn U.K C=true
noncomputable def aX(x:Str):Option {C//EP x C}:=row "Misused" true Yc (fun _=>⟨F.xMisused,F.hasMisused⟩) x<|row "LeftOut" true XQ (fun _=>⟨F.xLeftOut,F.hasLeftOut⟩) x none
noncomputable def aRs(p:Pos)(e:Expr):QS n xs sc (.Raise (some e) none p):=match e with
 | .Call (.Name x np) [.Constant (.str txt) k cp] [] q=>(aX F x).bind fun C=>(gl sc x).bind fun g=>(ck (PyData.strOk txt)).bind fun h=>some ⟨_,ZgV C.2.1 h.1 g.1.1 g.1.2⟩
 |_=>none
theorem ZiI{b:List Stmt}{m:SM}{x nm nm2 w txt:Str}{C:Addr}{k:Nat}{p ph pt p1 p2 p3 p4 p5:Pos}(X:EP x C)(hb:SemB ⟨n,sc,xs⟩ b m)(h1:sc.names.lookup x=some .globalImplicit∧(x==("__debug__":Str))=false)(h2:PyData.strOk txt=true)(h3:sc.names.lookup nm=some .local)(h4:(nm==("__debug__":Str))=false)(e:nm2=nm)(e2:w="why"):
  SemS ⟨n,sc,xs⟩ (.Try b [.ExceptHandler (some (.Name x pt)) (some nm) [.Return (some (.Compare (.Attribute (.Name nm2 p1) w p2) [.Eq] [.Constant (.str txt) k p3] p4)) p5] ph] [] [] p) (sTry C txt m):=by
 cases e
 cases e2
 exact ZkO X.1 hb X.2 h2 h1.1 h1.2 h3 h4 (fun _=>rfl)
noncomputable def aTry(b:List Stmt)(p ph:Pos)(x:Str)(pt:Pos)(nm:Str)(p4 p5:Pos)(l r:Expr):QS n xs sc (.Try b [.ExceptHandler (some (.Name x pt)) (some nm) [.Return (some (.Compare l [.Eq] [r] p4)) p5] ph] [] [] p):=match r with
 | .Constant (.str txt) k p3=>(match l with
  | .Attribute (.Name nm2 p1) w p2=>(aX F x).bind fun C=>(gl sc x).bind fun g=>(ck (PyData.strOk txt)).bind fun h=>(ck (sc.names.lookup nm==some .local)).bind fun hl=>(ck (ndb nm)).bind fun hd=>(aB sc rS b).bind fun m=>(ck (decide (nm2=nm))).bind fun e=>(ck (decide (w="why"))).bind fun e2=>
   some ⟨sTry C.1 txt m.1,ZiI F sc C.2 m.2 g.1 h.1 (beq_iff_eq.mp hl.1) (Zll hd.1) (of_decide_eq_true e.1) (of_decide_eq_true e2.1)⟩
  |_=>none)
 |_=>none
noncomputable def aTr(b:List Stmt)(p ph:Pos)(x:Str)(pt:Pos)(nm:Str)(r:Stmt):QS n xs sc (.Try b [.ExceptHandler (some (.Name x pt)) (some nm) [r] ph] [] [] p):=match r with
 | .Return (some (.Compare l [.Eq] [r] p4)) p5=>aTry F sc rS b p ph x pt nm p4 p5 l r
 |_=>none
include hk
noncomputable def aAs(ts:List Expr)(e:Expr)(pos:Pos):QS n xs sc (.Assign ts e pos):=match ts with
 |[t]=>(match t,e with
  | .Name x p,.ListComp elt [⟨tg,iter,ifs,a⟩] s q=>aAsC F sc hk rE rT x p pos tg iter ifs a elt s q
  |t,e=>aAsg sc hk rE t e pos)
 |_=>none
noncomputable def Znx(st:Stmt):QS n xs sc st:=match st with
 | .Return (some e) p=>(rE sc e).bind fun f=>some ⟨_,ZkQ f.2.1⟩
 | .Expr e p=>(rV sc rE e).bind fun f=>some ⟨_,ZiR f.2.1 (fun env h=>by simp[interactive,h]) (fun env=>f.2.2.2 _ _ env)⟩
 | .If t a b p=>(rT sc t).bind fun t=>(aB sc rS a).bind fun f=>(aB sc rS b).bind fun g=>some ⟨_,ZkT t.2 f.2 g.2⟩
 | .While t a [] p=>(rT sc t).bind fun t=>(aB sc rS a).bind fun f=>some ⟨_,ZgS t.2 f.2⟩
 | .For tg it a [] p=>(aIt F rE sc tg it).bind fun i=>(aTg (X2 sc xs) xs tg).bind fun t=>(fz it).bind fun h=>(aB sc rS a).bind fun f=>some ⟨_,ZkU i.2 f.2 t.2 h.1⟩
 | .AugAssign (.Subscript o i q) .Add e p=>(rE sc o).bind fun fo=>(rE sc i).bind fun fi=>(rE sc e).bind fun f=>some ⟨_,ZkY fo.2.1 fi.2.1 f.2.1 fi.2.2.au⟩
 | .Assign ts e p=>aAs F sc hk rE rT ts e p
 | .Raise (some e) none p=>aRs F sc p e
 | .Try b [.ExceptHandler (some (.Name x pt)) (some nm) [r] ph] [] [] p=>aTr F sc rS b p ph x pt nm r
 |_=>none
end
noncomputable def allS{n:Nat}{xs:List Str}(F:YM)(sc:Scope)(hk:sc.kind=.function)(rE:RE n xs)(rT:RT n xs)(k:Nat):∀st,QS n xs sc st:=Nat.rec (fun _=>none) (fun _ r=>Znx F sc hk rE rT r) k
noncomputable def defB{n:Nat}{cf:CF}(F:YM)(hcf:XS n adr cf)(tS lv:Bool)(xs:List Str)(sc:Scope)(l:List Stmt):Option {m:SM//SemB ⟨n,sc,xs⟩ l m}:=match op (some (decide (sc.kind=.function)))with
 |some ⟨true,h⟩=>aB sc (allS F sc (of_decide_eq_true (Option.some.inj h)) (both F hcf tS lv 12).1 (both F hcf tS lv 12).2 12) l
 |_=>none
theorem Zt{n:Nat}{cf:CF}{F:YM}{hcf:XS n adr cf}{tS lv:Bool}{xs:List Str}{sc:Scope}{l:List Stmt}{m:SM}(h:(defB F hcf tS lv xs sc l).map (·.1)=some m):SemB ⟨n,sc,xs⟩ l m:=by
 obtain⟨p,_,e⟩:=Option.map_eq_some_iff.mp h
 exact e▸p.2
end
section
open PySem.Calls PyProof.Rows
set_option maxRecDepth 100000
set_option maxHeartbeats 2000000
section
variable(F:YM)
include F
abbrev OkAt(i:Nat)(b:Body):Prop:=∃fd body xs,FnOk adr i b fd body xs
theorem ok_0:OkAt 0 Zkq:=Zr F 0 ["spans","found","low","high"] (by decide) (by kernel_rfl) (fun q=>Zl fun y0=>ZC (by kernel_rfl)) fun n cf hcf=>Zt (F:=F) (hcf:=hcf) (tS:=false) (lv:=false) (by kernel_rfl)
theorem ok_1:OkAt 1 Zku:=Zr F 1 ["self","node"] (by decide) (by kernel_rfl) (fun q=>Zl fun y0=>Zl fun y1=>ZC (by kernel_rfl)) fun n cf hcf=>Zt (F:=F) (hcf:=hcf) (tS:=false) (lv:=false) (by kernel_rfl)
theorem ok_2:OkAt 2 Zkt:=Zr F 2 ["self","value"] (by decide) (by kernel_rfl) (fun q=>Zl fun y0=>Zl fun y1=>ZC (by kernel_rfl)) fun n cf hcf=>Zt (F:=F) (hcf:=hcf) (tS:=false) (lv:=false) (by kernel_rfl)
theorem ok_3:OkAt 3 Zfr:=Zr F 3 ["self","variable","parts","joined","top","at","high","number"] (by decide) (by kernel_rfl) (fun q=>Zl fun y0=>Zl fun y1=>Zl fun y2=>ZC (by kernel_rfl)) fun n cf hcf=>Zt (F:=F) (hcf:=hcf) (tS:=false) (lv:=false) (by kernel_rfl)
theorem ok_4:OkAt 4 Zks:=Zr F 4 ["self","number"] (by decide) (by kernel_rfl) (fun q=>Zl fun y0=>Zl fun y1=>ZC (by kernel_rfl)) fun n cf hcf=>Zt (F:=F) (hcf:=hcf) (tS:=false) (lv:=false) (by kernel_rfl)
theorem ok_5:OkAt 5 ZhY:=Zr F 5 ["self","number","head"] (by decide) (by kernel_rfl) (fun q=>Zl fun y0=>Zl fun y1=>ZC (by kernel_rfl)) fun n cf hcf=>Zt (F:=F) (hcf:=hcf) (tS:=false) (lv:=false) (by kernel_rfl)
theorem ok_6:OkAt 6 ZbB:=Zr F 6 ["diagrams","number","variable","head","about"] (by decide) (by kernel_rfl) (fun q=>Zl fun y0=>Zl fun y1=>Zl fun y2=>ZC (by kernel_rfl)) fun n cf hcf=>Zt (F:=F) (hcf:=hcf) (tS:=false) (lv:=false) (by kernel_rfl)
theorem ok_7:OkAt 7 ZhX:=Zr F 7 ["diagrams","numbers","variable","sides","places","pieces","high","parts","number","index","part","side"] (by decide) (by kernel_rfl) (fun q=>Zl fun y0=>Zl fun y1=>ZC (by kernel_rfl)) fun n cf hcf=>Zt (F:=F) (hcf:=hcf) (tS:=false) (lv:=false) (by kernel_rfl)
theorem ok_8:OkAt 8 ZhZ:=Zr F 8 ["parts","value","high","number"] (by decide) (by kernel_rfl) (fun q=>Zl fun y0=>Zl fun y1=>ZC (by kernel_rfl)) fun n cf hcf=>Zt (F:=F) (hcf:=hcf) (tS:=false) (lv:=false) (by kernel_rfl)
theorem ok_9:OkAt 9 Zb4:=Zr F 9 ["diagrams","number","values","head","about"] (by decide) (by kernel_rfl) (fun q=>Zl fun y0=>Zl fun y1=>Zl fun y2=>ZC (by kernel_rfl)) fun n cf hcf=>Zt (F:=F) (hcf:=hcf) (tS:=false) (lv:=false) (by kernel_rfl)
theorem Zof:OkAt 10 Zkr:=Zr F 10 ["diagrams","variable","spans","yes","no","top","parts","at","low","high"] (by decide) (by kernel_rfl) (fun q=>Zl fun y0=>Zl fun y1=>Zl fun y2=>Zl fun y3=>Zl fun y4=>ZC (by kernel_rfl)) fun n cf hcf=>Zt (F:=F) (hcf:=hcf) (tS:=false) (lv:=false) (by kernel_rfl)
theorem Zoe:OkAt 11 Zfv:=Zr F 11 ["diagrams","cond","yes","no","key","head","about","parts","variable","pieces","high","three"] (by decide) (by kernel_rfl) (fun q=>Zl fun y0=>Zl fun y1=>Zl fun y2=>Zl fun y3=>ZC (by kernel_rfl)) fun n cf hcf=>Zt (F:=F) (hcf:=hcf) (tS:=false) (lv:=false) (by kernel_rfl)
theorem Zod:OkAt 12 Zkv:=Zr F 12 ["diagrams","a","b"] (by decide) (by kernel_rfl) (fun q=>Zl fun y0=>Zl fun y1=>Zl fun y2=>ZC (by kernel_rfl)) fun n cf hcf=>Zt (F:=F) (hcf:=hcf) (tS:=false) (lv:=false) (by kernel_rfl)
theorem Zoc:OkAt 13 Zfu:=Zr F 13 ["diagrams","a","b"] (by decide) (by kernel_rfl) (fun q=>Zl fun y0=>Zl fun y1=>Zl fun y2=>ZC (by kernel_rfl)) fun n cf hcf=>Zt (F:=F) (hcf:=hcf) (tS:=false) (lv:=false) (by kernel_rfl)
theorem Zob:OkAt 14 Zfq:=Zr F 14 ["diagrams","a"] (by decide) (by kernel_rfl) (fun q=>Zl fun y0=>Zl fun y1=>ZC (by kernel_rfl)) fun n cf hcf=>Zt (F:=F) (hcf:=hcf) (tS:=false) (lv:=false) (by kernel_rfl)
theorem Zoa:OkAt 15 W0:=Zr F 15 ["diagrams","number","value","by","key","head","about","parts","variable","pieces","high","two"] (by decide) (by kernel_rfl) (fun q=>Zl fun y0=>Zl fun y1=>Zl fun y2=>Zl fun y3=>ZC (by kernel_rfl)) fun n cf hcf=>Zt (F:=F) (hcf:=hcf) (tS:=false) (lv:=false) (by kernel_rfl)
theorem ZnZ:OkAt 16 X4:=Zr F 16 ["diagrams","number","seen","stack","head","about","high","child"] (by decide) (by kernel_rfl) (fun q=>Zl fun y0=>Zl fun y1=>ZC (by kernel_rfl)) fun n cf hcf=>Zt (F:=F) (hcf:=hcf) (tS:=false) (lv:=false) (by kernel_rfl)
theorem ZnY:OkAt 17 W5:=Zr F 17 ["pieces","low","high","two"] (by decide) (by kernel_rfl) (fun q=>Zl fun y0=>ZC (by kernel_rfl)) fun n cf hcf=>Zt (F:=F) (hcf:=hcf) (tS:=false) (lv:=false) (by kernel_rfl)
theorem ZnX:OkAt 18 Zdx:=Zr F 18 ["diagrams","a","b","values","variable","value"] (by decide) (by kernel_rfl) (fun q=>Zl fun y0=>Zl fun y1=>Zl fun y2=>ZC (by kernel_rfl)) fun n cf hcf=>Zt (F:=F) (hcf:=hcf) (tS:=false) (lv:=false) (by kernel_rfl)
theorem ZnW:OkAt 19 Zfp:=Zr F 19 ["diagrams","number","most","found","stack","at","path","head","about","later","low","high","child"] (by decide) (by kernel_rfl) (fun q=>Zl fun y0=>Zl fun y1=>Zl fun y2=>ZC (by kernel_rfl)) fun n cf hcf=>Zt (F:=F) (hcf:=hcf) (tS:=false) (lv:=false) (by kernel_rfl)
theorem ZnV:OkAt 20 QH:=Zr F 20 [] (by decide) (by kernel_rfl) (fun q=>ZC (by kernel_rfl)) fun n cf hcf=>Zt (F:=F) (hcf:=hcf) (tS:=false) (lv:=false) (by kernel_rfl)
theorem ZnU:OkAt 21 ZaA:=Zr F 21 ["tops","i","j","k"] (by decide) (by kernel_rfl) (fun q=>Zl fun y0=>ZC (by kernel_rfl)) fun n cf hcf=>Zt (F:=F) (hcf:=hcf) (tS:=false) (lv:=false) (by kernel_rfl)
theorem ZnT:OkAt 22 QF:=Zr F 22 ["table","top","width","k"] (by decide) (by kernel_rfl) (fun q=>Zl fun y0=>Zl fun y1=>ZC (by kernel_rfl)) fun n cf hcf=>Zt (F:=F) (hcf:=hcf) (tS:=true) (lv:=false) (by kernel_rfl)
theorem ZnS:OkAt 23 Za9:=Zr F 23 ["table","tops","variable","slices"] (by decide) (by kernel_rfl) (fun q=>Zl fun y0=>Zl fun y1=>ZC (by kernel_rfl)) fun n cf hcf=>Zt (F:=F) (hcf:=hcf) (tS:=false) (lv:=false) (by kernel_rfl)
theorem ZnR:OkAt 24 ZbC:=Zr F 24 ["table","tops","variable","path","met","found","low","k","slices"] (by decide) (by kernel_rfl) (fun q=>Zl fun y0=>Zl fun y1=>Zl fun y2=>Zl fun y3=>Zl fun y4=>ZC (by kernel_rfl)) fun n cf hcf=>Zt (F:=F) (hcf:=hcf) (tS:=false) (lv:=false) (by kernel_rfl)
theorem ZnQ:OkAt 25 Za6:=Zr F 25 ["x","y","top","spans","n","low"] (by decide) (by kernel_rfl) (fun q=>Zl fun y0=>Zl fun y1=>Zl fun y2=>ZC (by kernel_rfl)) fun n cf hcf=>Zt (F:=F) (hcf:=hcf) (tS:=false) (lv:=false) (by kernel_rfl)
theorem ZnP:OkAt 26 QC:=Zr F 26 ["spans","n","low","high"] (by decide) (by kernel_rfl) (fun q=>Zl fun y0=>Zl fun y1=>ZC (by kernel_rfl)) fun n cf hcf=>Zt (F:=F) (hcf:=hcf) (tS:=false) (lv:=false) (by kernel_rfl)
theorem ZnO:OkAt 27 QD:=Zr F 27 ["diagrams","cells","variable","spans","yes","no","inside","table","n","i"] (by decide) (by kernel_rfl) (fun q=>Zl fun y0=>Zl fun y1=>Zl fun y2=>Zl fun y3=>Zl fun y4=>Zl fun y5=>ZC (by kernel_rfl)) fun n cf hcf=>Zt (F:=F) (hcf:=hcf) (tS:=false) (lv:=false) (by kernel_rfl)
theorem ZnN:OkAt 28 Xn:=Zr F 28 ["diagrams","variable","spans","yes","no"] (by decide) (by kernel_rfl) (fun q=>Zl fun y0=>Zl fun y1=>Zl fun y2=>Zl fun y3=>Zl fun y4=>ZC (by kernel_rfl)) fun n cf hcf=>Zt (F:=F) (hcf:=hcf) (tS:=false) (lv:=false) (by kernel_rfl)
theorem ZnM:OkAt 29 Xf:=Zr F 29 ["diagrams","variable","parts"] (by decide) (by kernel_rfl) (fun q=>Zl fun y0=>Zl fun y1=>Zl fun y2=>ZC (by kernel_rfl)) fun n cf hcf=>Zt (F:=F) (hcf:=hcf) (tS:=false) (lv:=false) (by kernel_rfl)
theorem ZnL:OkAt 30 Xe:=Zr F 30 ["diagrams","number","values"] (by decide) (by kernel_rfl) (fun q=>Zl fun y0=>Zl fun y1=>Zl fun y2=>ZC (by kernel_rfl)) fun n cf hcf=>Zt (F:=F) (hcf:=hcf) (tS:=false) (lv:=false) (by kernel_rfl)
theorem ZnK:OkAt 31 Xm:=Zr F 31 ["diagrams","number","most"] (by decide) (by kernel_rfl) (fun q=>Zl fun y0=>Zl fun y1=>Zl fun y2=>ZC (by kernel_rfl)) fun n cf hcf=>Zt (F:=F) (hcf:=hcf) (tS:=false) (lv:=false) (by kernel_rfl)
theorem ZnJ:OkAt 32 ZbF:=Zr F 32 ["diagrams","a","b","x","y"] (by decide) (by kernel_rfl) (fun q=>Zl fun y0=>Zl fun y1=>Zl fun y2=>ZC (by kernel_rfl)) fun n cf hcf=>Zt (F:=F) (hcf:=hcf) (tS:=false) (lv:=false) (by kernel_rfl)
theorem ZnI:OkAt 33 QI:=Zr F 33 ["diagrams","a","b","x","y"] (by decide) (by kernel_rfl) (fun q=>Zl fun y0=>Zl fun y1=>Zl fun y2=>ZC (by kernel_rfl)) fun n cf hcf=>Zt (F:=F) (hcf:=hcf) (tS:=false) (lv:=false) (by kernel_rfl)
theorem ZnH:OkAt 34 QG:=Zr F 34 ["diagrams","a","x"] (by decide) (by kernel_rfl) (fun q=>Zl fun y0=>Zl fun y1=>ZC (by kernel_rfl)) fun n cf hcf=>Zt (F:=F) (hcf:=hcf) (tS:=false) (lv:=false) (by kernel_rfl)
theorem ZnG:OkAt 35 QJ:=Zr F 35 ["diagrams","a","b","c","table","x","y","z"] (by decide) (by kernel_rfl) (fun q=>Zl fun y0=>Zl fun y1=>Zl fun y2=>Zl fun y3=>ZC (by kernel_rfl)) fun n cf hcf=>Zt (F:=F) (hcf:=hcf) (tS:=false) (lv:=false) (by kernel_rfl)
theorem ZnF:OkAt 36 WR:=Zr F 36 ["diagrams","cells","variable","begin","truths","tops","later","picked","parts","table","one","k","i"] (by decide) (by kernel_rfl) (fun q=>Zl fun y0=>Zl fun y1=>Zl fun y2=>Zl fun y3=>Zl fun y4=>ZC (by kernel_rfl)) fun n cf hcf=>Zt (F:=F) (hcf:=hcf) (tS:=false) (lv:=true) (by kernel_rfl)
theorem ZnE:OkAt 37 ZbD:=Zr F 37 ["diagrams","cells","truths","values","step","kind","every","p","q","r","s","a","b","c","variable","spans","value","table","v","w","by","x","y"] (by decide) (by kernel_rfl) (fun q=>Zl fun y0=>Zl fun y1=>Zl fun y2=>Zl fun y3=>Zl fun y4=>ZC (by kernel_rfl)) fun n cf hcf=>Zt (F:=F) (hcf:=hcf) (tS:=false) (lv:=false) (by kernel_rfl)
theorem ZnD:OkAt 38 Xo:=Zr F 38 ["cells","one","other","i"] (by decide) (by kernel_rfl) (fun q=>Zl fun y0=>Zl fun y1=>Zl fun y2=>ZC (by kernel_rfl)) fun n cf hcf=>Zt (F:=F) (hcf:=hcf) (tS:=false) (lv:=false) (by kernel_rfl)
theorem ZnC:OkAt 39 Za7:=Zr F 39 ["diagrams","number","table","met","due"] (by decide) (by kernel_rfl) (fun q=>Zl fun y0=>Zl fun y1=>Zl fun y2=>ZC (by kernel_rfl)) fun n cf hcf=>Zt (F:=F) (hcf:=hcf) (tS:=false) (lv:=false) (by kernel_rfl)
theorem ZnB:OkAt 40 W4:=Zr F 40 ["diagrams","cells","made","i","j","due"] (by decide) (by kernel_rfl) (fun q=>Zl fun y0=>Zl fun y1=>Zl fun y2=>ZC (by kernel_rfl)) fun n cf hcf=>Zt (F:=F) (hcf:=hcf) (tS:=false) (lv:=false) (by kernel_rfl)
theorem ZnA:OkAt 41 ZbE:=Zr F 41 ["diagrams","cells","one","i","level","number","table","past"] (by decide) (by kernel_rfl) (fun q=>Zl fun y0=>Zl fun y1=>Zl fun y2=>ZC (by kernel_rfl)) fun n cf hcf=>Zt (F:=F) (hcf:=hcf) (tS:=false) (lv:=false) (by kernel_rfl)
theorem Zn9:OkAt 42 ZlJ:=Zr F 42 ["script","told","k","tops","cells","diagrams","yes","no","truths","variable","values","spans","a","b","value"] (by decide) (by kernel_rfl) (fun q=>Zl fun y0=>ZC (by kernel_rfl)) fun n cf hcf=>Zt (F:=F) (hcf:=hcf) (tS:=false) (lv:=false) (by kernel_rfl)
omit F in
theorem Zu{k:Nat}{b:Body}{l:List Body}(h:OkAt k b)(t:∀j b,l[j]?=some b→OkAt (j+(k+1)) b)(j:Nat)(b':Body)(e:(b::l)[j]?=some b'):OkAt (j+k) b':=by
 cases j with
 |zero=>cases e;rw[Nat.zero_add];exact h
 |succ j=>rw[Nat.succ_add];exact t j b' e
theorem Znk:∀id b,tab id=some b→OkAt id b:=Zu (ok_0 F) (Zu (ok_1 F) (Zu (ok_2 F) (Zu (ok_3 F) (Zu (ok_4 F) (Zu (ok_5 F) (Zu (ok_6 F) (Zu (ok_7 F) (Zu (ok_8 F) (Zu (ok_9 F) (Zu (Zof F) (Zu (Zoe F) (Zu (Zod F) (Zu (Zoc F) (Zu (Zob F) (Zu (Zoa F) (Zu (ZnZ F) (Zu (ZnY F) (Zu (ZnX F) (Zu (ZnW F) (Zu (ZnV F) (Zu (ZnU F) (Zu (ZnT F) (Zu (ZnS F) (Zu (ZnR F) (Zu (ZnQ F) (Zu (ZnP F) (Zu (ZnO F) (Zu (ZnN F) (Zu (ZnM F) (Zu (ZnL F) (Zu (ZnK F) (Zu (ZnJ F) (Zu (ZnI F) (Zu (ZnH F) (Zu (ZnG F) (Zu (ZnF F) (Zu (ZnE F) (Zu (ZnD F) (Zu (ZnC F) (Zu (ZnB F) (Zu (ZnA F) (Zu (Zn9 F) (fun j b h=>nomatch h)))))))))))))))))))))))))))))))))))))))))))
end
end
section
inductive Nd where
 |leaf (v:P)
 |br (j:Nat) (ps:List (Nat×Nat))
noncomputable def prt(x:Nat×Nat):P:=.tuple [.int x.1,.int x.2]
noncomputable def ndP:Nd→P
 | .leaf v=>.tuple [.str "leaf",v]
 | .br j ps=>.tuple [.int j,.tuple (ps.map prt)]
noncomputable def Y7(N:List Nd):List (P×P):=N.zipIdx.map fun x=>(ndP x.1,.int x.2)
noncomputable def HB(t c:MObj)(N:List Nd)(m:List (P×P))(B:Hp):Hp:=t::c::.lst (N.map ndP)::.tdct (Y7 N)::.tdct m::B
noncomputable def fr(B:Hp)(i:Nat):Nat:=B.length+(5+i)
noncomputable abbrev dv(T:List Nat):V:=.dia (.tuple (T.map fun(t:Nat)=>.int (t:Int))) 2 3 4
section
variable{t c:MObj}{N:List Nd}{m:List (P×P)}{B L:Hp}
theorem HB_2:(HB t c N m B)[2]?=some (.lst (N.map ndP)):=rfl
theorem HB_3:(HB t c N m B)[3]?=some (.tdct (Y7 N)):=rfl
theorem Qg:(HB t c N m B).length=fr B 0:=rfl
theorem Ze8:(HB t c N m (B++L)).length=fr B L.length:=by simp[HB,fr];exact Ar.a89
theorem Qh{o:MObj}:HB t c N m B++[o]=HB t c N m (B++[o]):=rfl
theorem ZdC{i:Nat}:(HB t c N m (B++L))[fr B i]?=L[i]?:=by
 unfold fr HB
 rw[show B.length+(5+i)=B.length+i+5 by exact Ar.a22]
 simp only[List.getElem?_cons_succ]
 rw[List.getElem?_append_right (by exact Ar.a35)]
 congr 1;exact Ar.a90
theorem X8{i:Nat}{o:MObj}:(HB t c N m (B++L)).set (fr B i) o=HB t c N m (B++L.set i o):=by
 unfold fr HB
 rw[show B.length+(5+i)=B.length+i+5 by exact Ar.a22]
 simp[List.set_append]
theorem Qe:(HB t c N m B).take (fr B 0)=HB t c N m B:=by
 rw[← Qg (t:=t) (c:=c) (N:=N) (m:=m),List.take_length]
theorem ZaP:(HB t c N m (B++L)).take (fr B 0)=HB t c N m B:=by
 unfold fr HB
 rw[show B.length+(5+0)=B.length+5 by exact Ar.a91]
 simp
theorem ZmV{i j:Nat}:(fr B i=fr B j)=(i=j):=by unfold fr;simp
theorem Zoy{i:Nat}:(fr B i<fr B 0)=False:=by unfold fr;simp
end
theorem Zco{i n:Nat}(h:i<n):idx? i n=some i:=by
 unfold idx?
 rw[if_pos (Int.natCast_nonneg i),Int.toNat_natCast,if_pos h]
theorem Zck{l:List P}{k:Int}{i:Nat}{p:P}(e:idx? k l.length=some i)(h:l[i]?=some p){σ:Hp}:Y9 l (.p (.int k)) σ=some (.ok (.p p),σ):=by
 show(match(idx? k l.length).bind fun j=>l[j]? with
  |some p=>some (R.ok (V.p p),σ)
  |none=>none)=_
 rw[e,Option.bind_some,h]
theorem Zv{l:List P}{i:Nat}{p:P}(h:l[i]?=some p){σ:Hp}:Y9 l (.p (.int i)) σ=some (.ok (.p p),σ):=Zck (Zco (List.getElem?_eq_some_iff.mp h).1) h
end
section
noncomputable def pick:List (Nat×Nat)→Nat→Nat
 |[],_=>0
 |(h,c)::r,x=>if x≤h then c else pick r x
noncomputable def lvl(N:List Nd)(n:Nat):Nat:=match N[n]? with
 |some (.br j _)=>j
 |_=>3
noncomputable def cof(N:List Nd)(i x n:Nat):Nat:=match N[n]? with
 |some (.br j ps)=>if j=i then pick ps x else n
 |_=>n
noncomputable def semK(f:Nat→Nat)(n:Nat)(r:Nat→P)(o:Option Nd):P:=match o with
 |some (.leaf v)=>v
 |some (.br j ps)=>if pick ps (f j)<n then r (pick ps (f j))else .none
 |none=>.none
noncomputable def semF(N:List Nd)(f:Nat→Nat)(k:Nat):Nat→P:=Nat.rec (fun _=>.none) (fun _ r n=>semK f n r N[n]?) k
noncomputable def sem(N:List Nd)(f:Nat→Nat)(n:Nat):P:=semF N f (n+1) n
theorem ZdS{f:Nat→Nat}{n:Nat}{r r':Nat→P}(h:∀m,m<n→r m=r' m):∀o,semK f n r o=semK f n r' o
 |none=>rfl
 |some (.leaf _)=>rfl
 |some (.br j ps)=>by
  show(if _ then _ else _)=(if _ then _ else _)
  by_cases q:pick ps (f j)<n
  ·rw[if_pos q,if_pos q,h _ q]
  ·rw[if_neg q,if_neg q]
theorem Zlb{N:List Nd}{f:Nat→Nat}(n:Nat):∀{k:Nat},n<k→semF N f k n=sem N f n:=by
 induction n using Nat.strongRecOn with
 |_ n ih=>
 intro k hk
 cases k with
 |zero=>cases hk
 |succ k=>exact ZdS (fun m hm=>(ih m hm (Nat.lt_of_lt_of_le hm (Nat.le_of_lt_succ hk))).trans (ih m hm hm).symm) _
theorem Zbj{N:List Nd}{f:Nat→Nat}{n:Nat}:sem N f n=semK f n (sem N f) N[n]?:=ZdS (fun _ hm=>Zlb _ hm) _
noncomputable def Rise:Nat→List (Nat×Nat)→Nat→Prop
 |lo,[],top=>lo=top+1
 |lo,(h,_)::r,top=>lo≤h∧h≤top∧Rise (h+1) r top
noncomputable def Adj:List (Nat×Nat)→Prop
 |(_,c)::(h',c')::r=>c≠c'∧Adj ((h',c')::r)
 |_=>True
noncomputable def tp(T:List Nat)(j:Nat):Nat:=T.getD j 0
noncomputable def NdOk(T:List Nat)(N:List Nd)(n:Nat):Nd→Prop
 | .leaf v=>ZK v=true
 | .br j ps=>j<3∧Rise 0 ps (tp T j)∧Adj ps∧2≤ps.length∧∀x∈ps,x.2<n∧j<lvl N x.2
structure WF(T:List Nat)(N:List Nd):Prop where
 nodup:N.Nodup
 ok:∀n nd,N[n]?=some nd→NdOk T N n nd
noncomputable def Fit(T:List Nat)(f:Nat→Nat):Prop:=∀j,f j≤tp T j
noncomputable def upd(f:Nat→Nat)(j x:Nat):Nat→Nat:=fun i=>if i=j then x else f i
theorem YD:∀{ps:List (Nat×Nat)} {lo x top:Nat},Rise lo ps top→lo≤x→x≤top→∃h,(h,pick ps x)∈ps
 |[],lo,x,top,r,h1,h2=>by unfold Rise at r;exact False.elim (Ar.a44 r h1 h2)
 |(h,c)::ps,lo,x,top,r,h1,h2=>by
  obtain⟨r1,r2,r3⟩:=r
  unfold pick
  split
  ·exact⟨h,List.mem_cons_self⟩
  ·obtain⟨h',m⟩:=YD r3 (show h+1≤x by exact Ar.a14 (by assumption)) h2
   exact⟨h',List.mem_cons_of_mem _ m⟩
theorem Rise.le:∀{ps:List (Nat×Nat)} {lo top:Nat},Rise lo ps top→lo≤top+1
 |[],lo,top,r=>by unfold Rise at r;exact Ar.a36 r
 |(h,c)::ps,lo,top,r=>by obtain⟨r1,r2,r3⟩:=r;exact Ar.a59 r1 r2
theorem Rise.len:∀{ps:List (Nat×Nat)} {lo top:Nat},Rise lo ps top→lo+ps.length≤top+1
 |[],lo,top,r=>by unfold Rise at r;simp;exact Ar.a36 r
 |(h,c)::ps,lo,top,r=>by obtain⟨r1,r2,r3⟩:=r;have:=r3.len;simp;exact Ar.a60 this r1
theorem ZeU:∀{ps qs:List (Nat×Nat)} {lo top:Nat},Rise lo ps top→Rise lo qs top→Adj ps→Adj qs→(∀x,lo≤x→x≤top→pick ps x=pick qs x)→ps=qs
 |[],[],_,_,_,_,_,_,_=>rfl
 |[],(h,c)::qs,lo,top,r,q,_,_,_=>by unfold Rise at r q;omega
 |(h,c)::ps,[],lo,top,r,q,_,_,_=>by unfold Rise at r q;omega
 |(h,c)::ps,(h',c')::qs,lo,top,r,q,ap,aq,e=>by
  obtain⟨r1,r2,r3⟩:=r
  obtain⟨q1,q2,q3⟩:=q
  have e0:c=c':=by have:=e lo (Nat.le_refl _) (by exact Ar.a3 q1 q2);simpa[pick,r1,q1]using this
  subst e0
  have tail:∀{h:Nat} {c:Nat} {ps:List (Nat×Nat)},Rise (h+1) ps top→Adj ((h,c)::ps)→h<top→ps≠[]∧pick ps (h+1)≠c:=fun{h c ps} r a ht=>by
   cases ps with
   |nil=>unfold Rise at r;exact False.elim (Ar.a61 r ht)
   |cons y ps=>
    obtain⟨h2,c2⟩:=y
    refine⟨by simp,?_⟩
    obtain⟨k1,k2,k3⟩:=r
    have:c≠c2:=a.1
    unfold pick
    rw[if_pos k1]
    exact this.symm
  have eh:h=h':=by
   rcases Nat.lt_trichotomy h h' with hl|hl|hl
   ·have:=e (h+1) (by exact Ar.a9 r1) (by exact Ar.a23 q2 hl)
    simp only[pick,if_neg (show¬h+1≤h by exact Ar.a15),if_pos (show h+1≤h' by exact Ar.a5 hl)]at this
    exact absurd this (tail r3 ap (by exact Ar.a24 q2 hl)).2
   ·exact hl
   ·have:=e (h'+1) (by exact Ar.a9 q1) (by exact Ar.a23 r2 hl)
    simp only[pick,if_neg (show¬h'+1≤h' by exact Ar.a15),if_pos (show h'+1≤h by exact Ar.a5 hl)]at this
    exact absurd this.symm (tail q3 aq (by exact Ar.a24 r2 hl)).2
  subst eh
  have atl:∀{x:Nat×Nat} {l:List (Nat×Nat)},Adj (x::l)→Adj l:=fun{x l} a=>by
   cases l with
   |nil=>trivial
   |cons y l=>exact a.2
  rw[ZeU r3 q3 (atl ap) (atl aq) fun x h1 h2=>?_]
  have:=e x (by exact Ar.a10 h1 q1) h2
  simpa[pick,if_neg (show¬x≤h by exact Ar.a62 h1)]using this
section
variable{T:List Nat}{N:List Nd}{f g:Nat→Nat}
theorem Zay{n j:Nat}{ps:List (Nat×Nat)}(h:N[n]?=some (.br j ps)):lvl N n=j:=by unfold lvl;rw[h]
theorem QW{n:Nat}{v:P}(h:N[n]?=some (.leaf v)):lvl N n=3:=by unfold lvl;rw[h]
theorem Zh3(W:WF T N)(n:Nat):lvl N n≤3:=by
 unfold lvl
 split
 ·rename_i j ps h;exact Nat.le_of_lt (W.ok _ _ h).1
 ·exact Nat.le_refl _
theorem Z4{n:Nat}(W:WF T N)(hn:n<N.length):(∃v,N[n]?=some (.leaf v)∧lvl N n=3∧ZK v=true)∨(∃j ps,N[n]?=some (.br j ps)∧lvl N n=j∧j<3∧Rise 0 ps (tp T j)∧Adj ps∧2≤ps.length∧∀x∈ps,x.2<n∧j<lvl N x.2):=by
 have e:N[n]?=some N[n]:=List.getElem?_eq_getElem hn
 cases h:N[n]with
 |leaf v=>rw[h]at e;exact .inl ⟨v,e,QW e,W.ok _ _ e⟩
 |br j ps=>rw[h]at e;exact .inr ⟨j,ps,e,Zay e,W.ok _ _ e⟩
theorem Z1{n:Nat}{v:P}(h:N[n]?=some (.leaf v)):sem N f n=v:=by rw[Zbj,h];rfl
theorem WH(W:WF T N){n j:Nat}{ps:List (Nat×Nat)}(h:N[n]?=some (.br j ps))(hf:f j≤tp T j):sem N f n=sem N f (pick ps (f j)):=by
 obtain⟨_,r,_,_,k⟩:=W.ok _ _ h
 obtain⟨y,hy⟩:=YD r (Nat.zero_le _) hf
 rw[Zbj,h]
 exact if_pos (k _ hy).1
theorem ZkV(W:WF T N)(hf:Fit T f):∀(n:Nat),(∀i,lvl N n≤i→f i=g i)→sem N f n=sem N g n:=by
 intro n
 induction n using Nat.strongRecOn with
 |_ n ih=>
 intro h
 cases e:N[n]? with
 |none=>rw[Zbj,Zbj,e];rfl
 |some nd=>
  cases nd with
  |leaf v=>rw[Z1 e,Z1 e]
  |br j ps=>
   obtain⟨_,r,_,_,k⟩:=W.ok _ _ e
   rw[Zay e]at h
   have hj:=h j (Nat.le_refl _)
   obtain⟨y,hy⟩:=YD r (Nat.zero_le _) (hf j)
   rw[WH W e (hf j),WH (f:=g) W e (hj▸hf j),← hj]
   exact ih _ (k _ hy).1 fun i hi=>h i (by have:=(k _ hy).2;dsimp only at this;exact Ar.a92 hi this)
theorem W7(hf:Fit T f){j x:Nat}(hx:x≤tp T j):Fit T (upd f j x):=fun i=>by
 unfold upd;split
 ·rename_i h;rw[h];exact hx
 ·exact hf i
theorem Qn(W:WF T N)(hf:Fit T f){n j x:Nat}(h:j<lvl N n):sem N (upd f j x) n=sem N f n:=
 (ZkV W hf n fun i hi=>by unfold upd;rw[if_neg (by exact Ar.a93 hi h)]).symm
theorem Zfm:Fit T fun _=>0:=fun _=>Nat.zero_le _
theorem Zni(W:WF T N):∀(K n m:Nat),n<K→m<K→n<N.length→m<N.length→(∀f,Fit T f→sem N f n=sem N f m)→n=m:=by
 intro K
 induction K with
 |zero=>intro n m h;exact False.elim (Ar.a63 h)
 |succ K ih=>
 have one:∀(n m:Nat),n<K+1→n<N.length→m<N.length→(∀f,Fit T f→sem N f n=sem N f m)→lvl N n<lvl N m→False:=by
  intro n m hK hn hm e hl
  rcases Z4 W hn with⟨v,_,h2,_⟩|⟨j,ps,h1,h2,h3,r,a,h4,k⟩
  ·have:=Zh3 W m;exact False.elim (Ar.a94 h2 this hl)
  ·rw[h2]at hl
   cases ps with
   |nil=>exact absurd h4 (by decide)
   |cons p ps=>
   cases ps with
   |nil=>exact absurd h4 (Nat.not_succ_le_self 1)
   |cons p' ps=>
   obtain⟨x,c⟩:=p
   obtain⟨x',c'⟩:=p'
   obtain⟨r1,r2,r3,r4,r5⟩:=r
   have kc:=k (x,c) (by simp)
   have kc':=k (x',c') (by simp)
   dsimp only at kc kc'
   refine a.1 (ih c c' (by exact Ar.a16 kc hK) (by exact Ar.a16 kc' hK) (by exact Ar.a0 kc hn) (by exact Ar.a0 kc' hn) fun f hf=>?_)
   have e1:=e (upd f j 0) (W7 hf (Nat.zero_le _))
   have e2:=e (upd f j (x+1)) (W7 hf (by exact Ar.a25 r3 r4))
   rw[WH W h1 (W7 hf (Nat.zero_le _) j),Qn W hf hl]at e1
   rw[WH W h1 (W7 hf (by exact Ar.a25 r3 r4) j),Qn W hf hl]at e2
   have p1:pick ((x,c)::(x',c')::ps) (upd f j 0 j)=c:=by simp[upd,pick]
   have p2:pick ((x,c)::(x',c')::ps) (upd f j (x+1) j)=c':=by simp only[upd,if_true,pick];rw[if_neg (by exact Ar.a15),if_pos r3]
   rw[p1,Qn W hf kc.2]at e1
   rw[p2,Qn W hf kc'.2]at e2
   rw[e1,e2]
 intro n m hnK hmK hn hm e
 rcases Nat.lt_trichotomy (lvl N n) (lvl N m)with hl|hl|hl
 ·exact(one n m hnK hn hm e hl).elim
 ·rcases Z4 W hn with⟨v,h1,h2,_⟩|⟨j,ps,h1,h2,h3,r,a,h4,k⟩
  ·rcases Z4 W hm with⟨v',h1',h2',_⟩|⟨j,ps,h1',h2',h3,_⟩
   ·have:=e _ Zfm
    rw[Z1 h1,Z1 h1']at this
    exact(List.getElem?_inj hn W.nodup).mp (by rw[h1,h1',this])
   ·exact False.elim (Ar.a95 h2 hl h2' h3)
  ·rcases Z4 W hm with⟨v',h1',h2',_⟩|⟨j',ps',h1',h2',h3',r',a',h4',k'⟩
   ·exact False.elim (Ar.a96 h2' hl h2 h3)
   ·obtain rfl:j=j':=by exact Ar.a97 h2 hl h2'
    have:ps=ps':=ZeU r r' a a' fun x _ hx=>by
     obtain⟨y,hy⟩:=YD r (Nat.zero_le _) hx
     obtain⟨y',hy'⟩:=YD r' (Nat.zero_le _) hx
     have ky:=k _ hy
     have ky':=k' _ hy'
     dsimp only at ky ky'
     refine ih _ _ (by exact Ar.a16 ky hnK) (by exact Ar.a16 ky' hmK) (by exact Ar.a0 ky hn) (by exact Ar.a0 ky' hm) fun f hf=>?_
     have:=e (upd f j x) (W7 hf hx)
     rw[WH W h1 (W7 hf hx j),WH W h1' (W7 hf hx j)]at this
     have ux:upd f j x j=x:=by simp[upd]
     rw[ux,Qn W hf ky.2,Qn W hf ky'.2]at this
     exact this
    exact(List.getElem?_inj hn W.nodup).mp (by rw[h1,h1',this])
 ·exact(one m n hmK hm hn (fun f hf=>(e f hf).symm) hl).elim
theorem canon(W:WF T N){n m:Nat}(hn:n<N.length)(hm:m<N.length)(e:∀f,Fit T f→sem N f n=sem N f m):n=m:=
 Zni W (n+m+1) n m (by exact Ar.a98) (by exact Ar.a99) hn hm e
theorem Za4{E:List Nd}{n:Nat}(hn:n<N.length):(N++E)[n]?=N[n]?:=List.getElem?_append_left hn
theorem Wa{E:List Nd}{n:Nat}(hn:n<N.length):lvl (N++E) n=lvl N n:=by unfold lvl;rw[Za4 hn]
theorem Zim{E:List Nd}{n i x:Nat}(hn:n<N.length):cof (N++E) i x n=cof N i x n:=by unfold cof;rw[Za4 hn]
theorem YN{E:List Nd}:∀{n:Nat},n<N.length→sem (N++E) f n=sem N f n:=by
 intro n
 induction n using Nat.strongRecOn with
 |_ n ih=>
 intro hn
 rw[Zbj,Zbj,Za4 hn]
 exact ZdS (fun m hm=>ih m hm (Nat.lt_trans hm hn)) _
theorem YK(W:WF T N){n i x:Nat}(hn:n<N.length)(hx:x≤tp T i):cof N i x n<N.length:=by
 rcases Z4 W hn with⟨v,h1,_⟩|⟨j,ps,h1,h2,h3,r,a,h4,k⟩
 ·unfold cof;rw[h1];exact hn
 ·unfold cof;rw[h1];dsimp only
  split
  ·rename_i hj
   subst hj
   obtain⟨y,hy⟩:=YD r (Nat.zero_le _) hx
   have:=(k _ hy).1
   dsimp only at this
   exact Ar.a19 this hn
  ·exact hn
theorem YC(W:WF T N){n i x:Nat}(hn:n<N.length)(hi:i≤lvl N n)(h3:i<3)(hx:x≤tp T i):i<lvl N (cof N i x n):=by
 rcases Z4 W hn with⟨v,h1,h2,_⟩|⟨j,ps,h1,h2,h3,r,a,h4,k⟩
 ·unfold cof;rw[h1];dsimp only;exact Ar.a26 h2 h3
 ·unfold cof;rw[h1];dsimp only
  split
  ·rename_i hj
   subst hj
   obtain⟨y,hy⟩:=YD r (Nat.zero_le _) hx
   exact(k _ hy).2
  ·exact Ar.a100 h2 hi (by assumption)
theorem XE(W:WF T N){n i:Nat}(hf:Fit T f):sem N f (cof N i (f i) n)=sem N f n:=by
 unfold cof
 split
 ·rename_i j ps h
  split
  ·rename_i hj;subst hj;exact(WH W h (hf _)).symm
  ·rfl
 ·rfl
end
end
section
mutual
noncomputable def good:P→Bool
 | .none=>true
 | .int _=>true
 | .str _=>true
 | .list xs=>goodAll xs
 | .tuple xs=>goodAll xs
 |_=>false
noncomputable def goodAll:List P→Bool
 |[]=>true
 |x::xs=>good x&&goodAll xs
end
mutual
theorem XM:∀(a b:P),good a=true→good b=true→(PyData.eqv a b=true↔a=b)
 | .none,b,_,hb=>by cases b<;>simp_all [PyData.eqv,good]
 | .int i,b,_,hb=>by cases b<;>simp_all [PyData.eqv,good]
 | .str i,b,_,hb=>by cases b<;>simp_all [PyData.eqv,good]
 | .bool _,b,ha,_=>by simp[good]at ha
 | .dict _,b,ha,_=>by simp[good]at ha
 | .list xs,b,ha,hb=>by
  cases b with
  |list ys=>
   simp only[good]at ha hb
   simp only[PyData.eqv,PyData.list.injEq]
   exact eqvAll_good xs ys ha hb
  |_=>simp_all [PyData.eqv,good]
 | .tuple xs,b,ha,hb=>by
  cases b with
  |tuple ys=>
   simp only[good]at ha hb
   simp only[PyData.eqv,PyData.tuple.injEq]
   exact eqvAll_good xs ys ha hb
  |_=>simp_all [PyData.eqv,good]
theorem eqvAll_good:∀(a b:List P),goodAll a=true→goodAll b=true→(PyData.eqvAll a b=true↔a=b)
 |[],[],_,_=>by simp[PyData.eqvAll]
 |[],_::_,_,_=>by simp[PyData.eqvAll]
 |_::_,[],_,_=>by simp[PyData.eqvAll]
 |x::xs,y::ys,ha,hb=>by
  simp only[goodAll,Bool.and_eq_true]at ha hb
  simp only[PyData.eqvAll,Bool.and_eq_true,List.cons.injEq]
  rw[XM x y ha.1 hb.1,eqvAll_good xs ys ha.2 hb.2]
end
theorem Yr{a:P}(h:good a=true):PyData.eqv a a=true:=(XM a a h h).mpr rfl
theorem Zd2{a b:P}(ha:good a=true)(hb:good b=true)(h:a≠b):PyData.eqv a b=false:=by
 cases e:PyData.eqv a b
 ·rfl
 ·exact absurd ((XM a b ha hb).mp e) h
theorem ZH:∀{l:List P},goodAll l=true↔∀x∈l,good x=true
 |[]=>by simp[goodAll]
 |x::l=>by simp[goodAll,ZH (l:=l)]
theorem YG{v:P}(h:ZK v=true):good v=true:=by cases v<;>simp_all [ZK,good]
theorem Q1{v:P}(h:ZK v=true):v.depth=0:=by cases v<;>simp_all [ZK,PyData.depth]
theorem Yw{k:Nat}:∀{l:List P},(∀x∈l,x.depth≤k)→PyData.depthAll l≤k
 |[],_=>Nat.zero_le _
 |x::l,h=>by
  simp only[PyData.depthAll]
  exact Nat.max_le.mpr ⟨h x (by simp),Yw fun y hy=>h y (by simp[hy])⟩
noncomputable def NdAt:Nd→Prop
 | .leaf v=>ZK v=true
 | .br _ _=>True
theorem Wo{nd:Nd}(h:NdAt nd):good (ndP nd)=true:=by
 cases nd with
 |leaf v=>simp[ndP,good,goodAll,YG h]
 |br j ps=>
  simp only[ndP,good,goodAll,Bool.and_true,Bool.true_and,ZH]
  intro x hx
  obtain⟨y,_,rfl⟩:=List.mem_map.mp hx
  simp[prt,good,goodAll]
theorem Zhv{a b:Nd}(h:ndP a=ndP b):a=b:=by
 have p:∀{l k:List (Nat×Nat)},l.map prt=k.map prt→l=k:=fun{l k} e=>by
  refine List.map_inj_right (f:=prt) (fun x y e=>?_) |>.mp e
  obtain⟨x1,x2⟩:=x;obtain⟨y1,y2⟩:=y
  simp[prt]at e
  exact Prod.ext (by have:=e.1;exact Ar.a11 this) (by have:=e.2;exact Ar.a11 this)
 cases a<;>cases b<;>simp_all [ndP]
 exact⟨by have:=h.1;exact Ar.a11 this,p h.2⟩
theorem Zln{nd:Nd}(h:NdAt nd):Ym (ndP nd)=true:=by
 cases nd with
 |leaf v=>cases v<;>simp_all [ndP,Ym,Zb1,ZK,NdAt]
 |br j ps=>simp[ndP,Ym,Zb1,ZK,ZhH,prt]
theorem ZaJ{N:List Nd}{nd:Nd}:Y7 (N++[nd])=Y7 N++[(ndP nd,.int N.length)]:=by
 simp[Y7,List.zipIdx_append]
theorem Zbw{k:P}:∀{l:List (P×P)},(∀x∈l,PyData.eqv x.1 k=false)→ZP k l=none
 |[],_=>rfl
 |x::l,h=>by unfold ZP;rw[if_neg (by simp[h x]),Zbw fun y hy=>h y (by simp[hy])]
theorem ZeT{k v:P}:∀{l:List (P×P)},(∀x∈l,PyData.eqv x.1 k=false)→putD k v l=l++[(k,v)]
 |[],_=>rfl
 |x::l,h=>by unfold putD;rw[if_neg (by simp[h x]),ZeT fun y hy=>h y (by simp[hy])];rfl
theorem Zdh{k:P}:∀{l r:List (P×P)},(∀x∈l,PyData.eqv x.1 k=false)→ZP k (l++r)=ZP k r
 |[],_,_=>rfl
 |x::l,r,h=>by rw[List.cons_append,ZP,if_neg (by simp[h x]),Zdh fun y hy=>h y (by simp[hy])]
theorem Zbv{k v:P}:∀{l:List (P×P)},ZP k l=some v→∃k',(k',v)∈l∧PyData.eqv k' k=true
 |x::l,h=>by
  unfold ZP at h
  split at h
  ·rename_i e;cases h;exact⟨x.1,by simp,e⟩
  ·obtain⟨k',m,e⟩:=Zbv h;exact⟨k',by simp[m],e⟩
theorem Zf1{N:List Nd}{x:P×P}(h:x∈Y7 N):∃(i:Nat) (nd:Nd),N[i]?=some nd∧x=(ndP nd,.int (i:Int)):=by
 unfold Y7 at h
 obtain⟨⟨nd,i⟩,hm,rfl⟩:=List.mem_map.mp h
 exact⟨i,nd,by simpa using List.mem_zipIdx_iff_getElem?.mp hm,rfl⟩
theorem Zit{N:List Nd}{nd:Nd}(hN:∀x∈N,NdAt x)(hd:NdAt nd)(h:nd∉N):∀x∈Y7 N,PyData.eqv x.1 (ndP nd)=false:=fun x hx=>by
 obtain⟨i,nd',e,rfl⟩:=Zf1 hx
 have hm:nd'∈N:=List.mem_iff_getElem?.mpr ⟨i,e⟩
 exact Zd2 (Wo (hN _ hm)) (Wo hd) fun q=>h (Zhv q▸hm)
theorem Ziu{N:List Nd}{nd:Nd}{i:Nat}(hN:∀x∈N,NdAt x)(hn:N.Nodup)(h:N[i]?=some nd):ZP (ndP nd) (Y7 N)=some (.int i):=by
 have hi:i<N.length:=(List.getElem?_eq_some_iff.mp h).1
 have hd:NdAt nd:=hN _ (List.mem_iff_getElem?.mpr ⟨i,h⟩)
 cases e:ZP (ndP nd) (Y7 N)with
 |some v=>
  obtain⟨k',hm,hk⟩:=Zbv e
  obtain⟨j,nd',hj,q⟩:=Zf1 hm
  cases q
  have hm':nd'∈N:=List.mem_iff_getElem?.mpr ⟨j,hj⟩
  have:=Zhv ((XM _ _ (Wo (hN _ hm')) (Wo hd)).mp hk)
  subst this
  rw[(List.getElem?_inj hi hn).mp (h.trans hj.symm)]
 |none=>
  exfalso
  have:∀{l:List (P×P)} {x:P×P},x∈l→PyData.eqv x.1 (ndP nd)=true→ZP (ndP nd) l≠none:=by
   intro l
   induction l with
   |nil=>intro x h;cases h
   |cons y l ih=>
    intro x hx he
    unfold ZP
    split
    ·simp
    ·rename_i hy
     rcases List.mem_cons.mp hx with rfl|hx
     ·exact absurd he hy
     ·exact ih hx he
  refine this (x:=(ndP nd,.int i)) ?_ (Yr (Wo hd)) e
  unfold Y7
  exact List.mem_map.mpr ⟨(nd,i),by simpa using List.mem_zipIdx_iff_getElem?.mpr (by simpa using h),rfl⟩
end
section
theorem Zos{α:Type}{c:Bool}{m:HM α}{σ:Hp}(h:c=true):hif c m σ=m σ:=if_pos h
theorem YT{a b:P}{σ:Hp}(h:min a.depth b.depth≤60):eqV (.p a) (.p b) σ=some (.ok (PyData.eqv a b),σ):=Zos (decide_eq_true h)
theorem ZhO{n:Nat}:idx? (-1) (n+1)=some n:=by
 unfold idx?
 rw[if_neg (by decide),if_pos (by exact Ar.a106)]
 congr 1;omega
theorem Znb{a b:Int}{σ:Hp}:eqV (.p (.int a)) (.p (.int b)) σ=some (.ok (decide (a=b)),σ):=by
 rw[YT (by simp[PyData.depth])];simp only[PyData.eqv];congr 2
theorem X6{a b:Str}{σ:Hp}:eqV (.p (.str a)) (.p (.str b)) σ=some (.ok (decide (a=b)),σ):=by
 rw[YT (by simp[PyData.depth])];simp only[PyData.eqv];congr 2
theorem WU{a:Int}{b:Str}{σ:Hp}:eqV (.p (.int a)) (.p (.str b)) σ=some (.ok false,σ):=by
 rw[YT (by simp[PyData.depth])];simp only[PyData.eqv]
theorem Zna{a:Str}{b:Int}{σ:Hp}:eqV (.p (.str a)) (.p (.int b)) σ=some (.ok false,σ):=by
 rw[YT (by simp[PyData.depth])];simp only[PyData.eqv]
theorem ZmO{a:P}{l:List P}{σ:Hp}:Y9 (a::l) (.p (.int 0)) σ=some (.ok (.p a),σ):=by
 have:=Zv (l:=a::l) (i:=0) (p:=a) (by simp) (σ:=σ);simpa using this
theorem ZmN{a b:P}{l:List P}{σ:Hp}:Y9 (a::b::l) (.p (.int 1)) σ=some (.ok (.p b),σ):=by
 have:=Zv (l:=a::b::l) (i:=1) (p:=b) (by simp) (σ:=σ);simpa using this
theorem Zor{a b c:P}{l:List P}{σ:Hp}:Y9 (a::b::c::l) (.p (.int 2)) σ=some (.ok (.p c),σ):=by
 have:=Zv (l:=a::b::c::l) (i:=2) (p:=c) (by simp) (σ:=σ);simpa using this
theorem Zcj{a:P}{l:List P}{σ:Hp}:Y9 (l++[a]) (.p (.int (-1))) σ=some (.ok (.p a),σ):=Zck (by rw[List.length_append];exact ZhO) List.getElem?_concat_length
theorem ZO:100000≤lim:=by unfold lim;decide
theorem Zkm{j:Nat}{ps:List (Nat×Nat)}:ndP (.br j ps)=.tuple [.int j,.tuple (ps.map prt)]:=rfl
theorem Zo8{d:P}:asP (.p d)=hp d:=rfl
theorem ZaM{σ:Hp}{k:Nat}{l:List P}(h:σ[k]?=some (.lst l)):asP (.ref k) σ=some (.ok (.list l),σ.set k (.frz l)):=by simp only[asP,h]
theorem Zc5{σ:Hp}{k:Nat}{l:List P}(h:σ[k]?=some (.frz l)):asP (.ref k) σ=some (.ok (.list l),σ):=by simp only[asP,h]
theorem nc0:((0:Nat):Int)=0:=rfl
end
section
theorem Y6{a:Nat}(h:Nat.ble a 99999=true):a<lim:=Nat.lt_of_le_of_lt (Nat.le_of_ble_eq_true h) (Nat.lt_of_lt_of_le (by decide) ZO)
theorem Zek{a:Nat}(h:a<99999):decide (a<lim)=true:=decide_eq_true (Nat.lt_of_lt_of_le h (Nat.le_trans (by decide) ZO))
section
variable{α β:Type}{m:HM α}{f:α→HM β}{a:α}{σ σ1:Hp}{c:Addr}{w:Str}{S:Option (R β×Hp)}
theorem h_b(h:m σ=some (.ok a,σ1))(k:f a σ1=S):hb m f σ=S:=by
 unfold hb;rw[h];exact k
theorem h_x(h:m σ=some (.exc c w,σ1)):hb m f σ=some (.exc c w,σ1):=by
 unfold hb;rw[h]
theorem h_ne(h:m σ=some (.ok a,σ1)):ne m σ=some (.ok a,σ1):=by
 unfold ne;rw[h]
theorem ZW{fp:P→HM β}{fr:Nat→MObj→HM β}{j:Nat}{o:MObj}(h:σ[j]?=some o)(k:fr j o σ=S):Qm (.ref j) fp fr σ=S:=by
 show(match σ[j]? with
  |some o=>fr j o σ
  |none=>none)=S
 rw[h];exact k
theorem h_if{c:Bool}{m:HM β}(h:c=true)(k:m σ=S):hif c m σ=S:=(if_pos h).trans k
theorem h_i1{f:Int→HM β}{i:Int}(k:f i σ=S):i1 f (.p (.int i)) σ=S:=k
theorem h_l1{f:List P→HM β}{v:V}{l:List P}(h:WB σ v=some l)(k:f l σ=S):l1 f v σ=S:=by
 show(match WB σ v with
  |some l=>f l σ
  |none=>none)=S
 rw[h];exact k
theorem l_of{j:Nat}{l:List P}(h:σ[j]?=some (.lst l)):WB σ (.ref j)=some l:=by
 show(match σ[j]? with
  |some (.lst l)=>some l
  |some (.frz l)=>some l
  |_=>none)=some l
 rw[h]
theorem h_sl{m:Loc→HM α}{k:α→SM}{l:Loc}{T:Option (R Out×Loc×Hp)}(h:m l σ=some (.ok a,σ1))(g:k a l σ1=T):sLet m k l σ=T:=by
 unfold sLet;rw[h];exact g
theorem ZhP{m:Loc→HM α}{k:α→SM}{l:Loc}(h:m l σ=some (.exc c w,σ1)):sLet m k l σ=some (.exc c w,l,σ1):=by
 unfold sLet;rw[h]
end
theorem ZcZ{l:List P}{σ:Hp}(h:l.length≤lim):newT l σ=some (.ok (.p (.tuple l)),σ):=by
 show(if l.length≤lim then hp (V.p (.tuple l))else hn) σ=_
 rw[if_pos h];rfl
theorem XY{l:List P}{σ:Hp}(h:l.length≤lim):newL l σ=some (.ok (.ref σ.length),σ++[.lst l]):=if_pos h
section
variable{a b:SM}{l l' l'':Loc}{σ σ1 σ2 σ':Hp}{f g h:Fn}{t u:Tn}{i j:Nat}{W:Option (R Out×Loc×Hp)}
theorem Zf(h:a l σ=some (.ok .next,l',σ'))(k:b l' σ'=W):sSeq a b l σ=W:=by
 unfold sSeq;rw[h];exact k
theorem Ye{v:V}(h:a l σ=some (.ok (.ret v),l',σ')):sSeq a b l σ=some (.ok (.ret v),l',σ'):=by
 unfold sSeq;rw[h]
theorem Yu{c:Addr}{w:Str}(h:a l σ=some (.exc c w,l',σ')):sSeq a b l σ=some (.exc c w,l',σ'):=by
 unfold sSeq;rw[h]
theorem x_dc{p:Prop}[Decidable p]{c:Bool}(h:decide p=c):(some (.ok (decide p),σ):Option (Mine.R Bool×Hp))=some (.ok c,σ):=h▸rfl
theorem QM{a b:V}{c:Bool}(h:eqV a b σ=some (.ok c,σ1)):neV a b σ=some (.ok (!c),σ1):=h_b h rfl
theorem x_eq{a b:Int}{c:Bool}(h:decide (a=b)=c):eqV (.p (.int a)) (.p (.int b)) σ=some (.ok c,σ):=h▸Znb
theorem x_ne{a b:Int}{c:Bool}(h:decide (a=b)=c):neV (.p (.int a)) (.p (.int b)) σ=some (.ok (!c),σ):=QM (x_eq h)
theorem Zi{v:V}(h:f l σ=some (.ok v,σ')):Zj i f l σ=some (.ok .next,l.set i (some v),σ'):=h_sl h rfl
theorem ZeE{α:Type}{m:Loc→HM α}{x:α}(h:m l σ=some (.ok x,σ')):Z8 m l σ=some (.ok .next,l,σ'):=h_sl h rfl
theorem ZG{v:V}(h:f l σ=some (.ok v,σ')):sSeq (sRet f) b l σ=some (.ok (.ret v),l,σ'):=Ye (h_sl h rfl)
theorem x_if{c:Bool}(h:t l σ=some (.ok c,σ1))(k:(if c then a else b) l σ1=W):sIf t a b l σ=W:=h_sl h k
theorem Y4(h:t l σ=some (.ok true,σ1))(k:a l σ1=W):sIf t a b l σ=W:=x_if h k
theorem ZU(h:t l σ=some (.ok false,σ1))(k:b l σ1=W):sIf t a b l σ=W:=x_if h k
theorem Y5{it:In}{tg:Tg}{ps:List P}(h:it l σ=some (.ok ps,σ1))(k:Yj tg b ps l σ1=W):sFor it tg b l σ=W:=h_sl h k
theorem x_go{tg:Tg}{p:P}{ps:List P}(h1:ZX tg p l=some l')(h2:b l' σ=some (.ok .next,l'',σ'))(h3:Yj tg b ps l'' σ'=W):Yj tg b (p::ps) l σ=W:=by
 unfold Yj;rw[h1];dsimp only;rw[h2];exact h3
theorem ZdH{tg:Tg}{p:P}{ps:List P}{v:V}(h1:ZX tg p l=some l')(h2:b l' σ=some (.ok (.ret v),l'',σ')):Yj tg b (p::ps) l σ=some (.ok (.ret v),l'',σ'):=by
 unfold Yj;rw[h1];dsimp only;rw[h2]
theorem ZcF{n:Nat}:Z6 t a (n+1) l σ=match t l σ with
  |none=>none
  |some (.exc c w,σ')=>some (.exc c w,l,σ')
  |some (.ok false,σ')=>some (.ok .next,l,σ')
  |some (.ok true,σ')=>sSeq a (Z6 t a n) l σ':=rfl
theorem x_wf{k:Nat}(h:t l σ=some (.ok false,σ')):Z6 t b (k+1) l σ=some (.ok .next,l,σ'):=by
 rw[ZcF,h]
theorem x_w1{k:Nat}(h:t l σ=some (.ok true,σ1))(hk:sSeq b (Z6 t b k) l σ1=W):Z6 t b (k+1) l σ=W:=by
 rw[ZcF,h];exact hk
theorem x_wt{k:Nat}(h:t l σ=some (.ok true,σ1))(hb:b l σ1=some (.ok .next,l',σ2))(hk:Z6 t b k l' σ2=W):Z6 t b (k+1) l σ=W:=x_w1 h (Zf hb hk)
theorem x_wx{k:Nat}{c:Addr}{w:Str}(h:t l σ=some (.ok true,σ1))(hb:b l σ1=some (.exc c w,l',σ2)):Z6 t b (k+1) l σ=some (.exc c w,l',σ2):=x_w1 h (Yu hb)
theorem Zg4(h:∀k,lim=k+1→Z6 t b (k+1) l σ=W):Zal t b l σ=W:=(show Z6 t b lim l σ=W from by
 obtain⟨k,e⟩:∃k,lim=k+1:=⟨lim - 1,(Nat.sub_add_cancel (Nat.le_trans (by decide) ZO)).symm⟩
 rw[e];exact h k e)
theorem Zg5{is:List Nat}{c:Addr}{w:Str}(h:f l σ=some (.exc c w,σ')):Zy is f l σ=some (.exc c w,l,σ'):=ZhP (h_x h)
theorem Zk8{fs:List Fn}{c:Addr}{w:Str}(h1:f l σ=some (.exc c w,σ1)):YV (f::fs) l σ=some (.exc c w,σ1):=h_x h1
theorem Zme{cf:CF}{id:Nat}{fs:List Fn}{T:P}{k1 k2 k3:Nat}{c:Addr}{w:Str}(h0:f l σ=some (.ok (.dia T k1 k2 k3),σ1))(h1:YV fs l σ1=some (.exc c w,σ2)):eDia cf id f fs l σ=some (.exc c w,σ2):=h_b h0 (h_x h1)
theorem Zmg{fo fi fv:Fn}{a b:V}{p q:Int}(h1:fo l σ=some (.ok a,σ))(h2:fi l σ=some (.ok b,σ))(h3:Zd a b σ=some (.ok (.p (.int p)),σ))(h4:fv l σ=some (.ok (.p (.int q)),σ))(h5:setV a b (.p (.int (p+q))) σ=some (.ok (),σ')):Zlc fo fi fv l σ=some (.ok .next,l,σ'):=
 ZeE (h_b h1 (h_b h2 (h_b h3 (h_b h4 h5))))
theorem Qi{fo fi fv:Fn}{o x v:V}(h1:fv l σ=some (.ok v,σ1))(h2:fo l σ1=some (.ok o,σ1))(h3:fi l σ1=some (.ok x,σ1))(h4:setV o x v σ1=some (.ok (),σ')):XU fo fi fv l σ=some (.ok .next,l,σ'):=h_sl (h_b h1 (h_b h2 (h_b h3 h4))) rfl
theorem ZD{is:List Nat}{ps:List P}(h:f l σ=some (.ok (.p (.tuple ps)),σ'))(k:Wy is ps l=some l'):Zy is f l σ=some (.ok .next,l',σ'):=
 h_sl (a:=.tuple ps) (σ1:=σ') (h_b h rfl) (by
  show(Wy is ps l).map (fun l'=>(Mine.R.ok Out.next,l',σ'))=_
  rw[k];rfl)
theorem Zh{op:V→V→HM V}{x y:V}{R:Option (Mine.R V×Hp)}(h1:f l σ=some (.ok x,σ1))(h2:g l σ1=some (.ok y,σ2))(h3:op x y σ2=R):eBin op f g l σ=R:=h_b h1 (h_b h2 h3)
theorem ZcD{c:Bool}{R:Option (Mine.R V×Hp)}(h1:t l σ=some (.ok c,σ1))(h2:(if c then f else g) l σ1=R):eIf t f g l σ=R:=h_b h1 (by cases c<;>exact h2)
theorem Ql{R:Option (Mine.R V×Hp)}(h:t l σ=some (.ok true,σ1))(k:f l σ1=R):eIf t f g l σ=R:=ZcD h k
theorem Zab{R:Option (Mine.R V×Hp)}(h:t l σ=some (.ok false,σ1))(k:g l σ1=R):eIf t f g l σ=R:=ZcD h k
theorem Zo{op:V→V→HM Bool}{x y:V}{R:Option (Mine.R Bool×Hp)}(h1:f l σ=some (.ok x,σ1))(h2:g l σ1=some (.ok y,σ2))(h3:op x y σ2=R):tCmp op f g l σ=R:=h_b h1 (h_b h2 h3)
theorem Zmh{c:Bool}{R:Option (Mine.R Bool×Hp)}(h1:t l σ=some (.ok c,σ1))(h2:(if c then u l else hp false) σ1=R):tAnd t u l σ=R:=h_b h1 h2
theorem x_or{c:Bool}{R:Option (Mine.R Bool×Hp)}(h1:t l σ=some (.ok c,σ1))(h2:(if c then hp true else u l) σ1=R):tOr t u l σ=R:=h_b h1 h2
theorem ZcE{R:Option (Mine.R Bool×Hp)}(h1:t l σ=some (.ok true,σ1))(h2:u l σ1=R):tAnd t u l σ=R:=Zmh h1 h2
theorem ZeH(h1:t l σ=some (.ok false,σ1)):tAnd t u l σ=some (.ok false,σ1):=Zmh h1 rfl
theorem Znr(h1:t l σ=some (.ok true,σ1)):tOr t u l σ=some (.ok true,σ1):=x_or h1 rfl
theorem Zns{R:Option (Mine.R Bool×Hp)}(h1:t l σ=some (.ok false,σ1))(h2:u l σ1=R):tOr t u l σ=R:=x_or h1 h2
theorem ZgA{c:Bool}(h1:t l σ=some (.ok c,σ1)):tNot t l σ=some (.ok (!c),σ1):=h_b h1 rfl
theorem QL{v:V}{R:Option (Mine.R Bool×Hp)}(h1:f l σ=some (.ok v,σ1))(h2:Zaf v σ1=R):tVal f l σ=R:=h_b h1 h2
theorem Zk:YV [] l σ=some (.ok [],σ):=rfl
theorem Zc{fs:List Fn}{v:V}{vs:List V}(h1:f l σ=some (.ok v,σ1))(h2:YV fs l σ1=some (.ok vs,σ2)):YV (f::fs) l σ=some (.ok (v::vs),σ2):=h_b h1 (h_b h2 rfl)
theorem Zp{cf:CF}{id:Nat}{fs:List Fn}{vs:List V}{R:Option (Mine.R V×Hp)}(h1:YV fs l σ=some (.ok vs,σ1))(h2:cf id vs σ1=R):Zq cf id fs l σ=R:=h_b h1 h2
theorem ZE{cf:CF}{id:Nat}{fs:List Fn}{vs:List V}{T:P}{k1 k2 k3:Nat}{R:Option (Mine.R V×Hp)}(h0:f l σ=some (.ok (.dia T k1 k2 k3),σ1))(h1:YV fs l σ1=some (.ok vs,σ2))(h2:cf id (.dia T k1 k2 k3::vs) σ2=R):eDia cf id f fs l σ=R:=h_b h0 (h_b (f:=fun vs=>cf id (.dia T k1 k2 k3::vs)) h1 h2)
theorem x_fn{op:List V→HM V}{fs:List Fn}{vs:List V}{R:Option (Mine.R V×Hp)}(h1:YV fs l σ=some (.ok vs,σ1))(h2:op vs σ1=R):eFn op fs l σ=R:=h_b h1 h2
theorem ZV{op:V→HM V}{x:V}{R:Option (Mine.R V×Hp)}(h1:f l σ=some (.ok x,σ1))(h2:op x σ1=R):eFn (g1 op) [f] l σ=R:=x_fn (Zc h1 Zk) h2
theorem ZaR{op:V→V→HM V}{x y:V}{R:Option (Mine.R V×Hp)}(h1:f l σ=some (.ok x,σ1))(h2:g l σ1=some (.ok y,σ2))(h3:op x y σ2=R):eFn (g2 op) [f,g] l σ=R:=x_fn (Zc h1 (Zc h2 Zk)) h3
theorem ZgD{v:V}{d:P}{R:Option (Mine.R (List P)×Hp)}(h:f l σ=some (.ok v,σ1))(hv:asP v σ1=some (.ok d,σ2))(k:seqP d σ2=R):iSeq f l σ=R:=h_b h (h_b hv k)
theorem Zaa{xs:List P}(h:f l σ=some (.ok (.p (.tuple xs)),σ')):iSeq f l σ=some (.ok xs,σ'):=ZgD h rfl rfl
theorem XA{v:V}{xs:List P}(h:f l σ=some (.ok v,σ1))(hv:asP v σ1=some (.ok (.list xs),σ')):iSeq f l σ=some (.ok xs,σ'):=ZgD h hv rfl
theorem Yd{gg:List V→HM (List P)}{fs:List Fn}{vs:List V}{R:Option (Mine.R (List P)×Hp)}(h1:YV fs l σ=some (.ok vs,σ1))(h2:gg vs σ1=R):Z5 gg fs l σ=R:=h_b h1 h2
theorem Wz{n:Nat}(h:Nat.ble n 9=true):n≤lim:=Nat.le_trans (Nat.le_of_ble_eq_true h) (Nat.le_trans (by decide) ZO)
theorem ZcB{fs:List Fn}{vs:List V}{ps:List P}(h1:YV fs l σ=some (.ok vs,σ1))(h2:asPs vs σ1=some (.ok ps,σ2))(h3:Nat.ble ps.length 9=true):Zm fs l σ=some (.ok (.p (.tuple ps)),σ2):=h_b h1 (h_b h2 (ZcZ (Wz h3)))
theorem ZcA{x:P}(h1:f l σ=some (.ok (.p x),σ1)):Zm [f] l σ=some (.ok (.p (.tuple [x])),σ1):=ZcB (Zc h1 Zk) rfl rfl
theorem Zz{x y:P}(h1:f l σ=some (.ok (.p x),σ1))(h2:g l σ1=some (.ok (.p y),σ2)):Zm [f,g] l σ=some (.ok (.p (.tuple [x,y])),σ2):=ZcB (Zc h1 (Zc h2 Zk)) rfl rfl
theorem Zbd{x y z:P}(h1:f l σ=some (.ok (.p x),σ))(h2:g l σ=some (.ok (.p y),σ))(h3:h l σ=some (.ok (.p z),σ)):Zm [f,g,h] l σ=some (.ok (.p (.tuple [x,y,z])),σ):=ZcB (Zc h1 (Zc h2 (Zc h3 Zk))) rfl rfl
theorem ZaQ{a b r:Int}(h:decide (b≠0)=true)(e:Int.fmod a b=r):modV (.p (.int a)) (.p (.int b)) σ=some (.ok (.p (.int r)),σ):=h_if h (e▸rfl)
theorem Zi8{a b r:Int}(h:decide (b≠0)=true)(h2:ZJ b=true)(e:Int.fdiv a b=r):divV (.p (.int a)) (.p (.int b)) σ=some (.ok (.p (.int r)),σ):=h_if (by rw[h,h2];rfl) (e▸rfl)
theorem Zi7{a b:Int}(h:f l σ=some (.ok (.p (.int a)),σ1))(e:a=b):f l σ=some (.ok (.p (.int b)),σ1):=e▸h
theorem ZcC{op:V→List V→HM V}{fs:List Fn}{vs:List V}{k:Nat}{L:List P}{R:Option (Mine.R V×Hp)}(h0:f l σ=some (.ok (.ref k),σ))(hl:σ[k]?=some (.lst L))(h1:YV fs l σ=some (.ok vs,σ1))(h2:op (.ref k) vs σ1=R):Z7 op f fs l σ=R:=h_b h0 (ZW hl (h_b h1 h2))
theorem W6{q:P}{L:List P}(h0:g l σ=some (.ok (.ref j),σ))(hl:σ[j]?=some (.lst L))(h1:f l σ=some (.ok (.p q),σ1))(h2:Wm (.ref j) (.p q) σ1=some (.ok (),σ2)):Z8 (Z7 Zx g [f]) l σ=some (.ok .next,l,σ2):=ZeE (x:=.p .none) (ZcC h0 hl (Zc h1 Zk) (h_b h2 rfl))
end
section
variable{σ:Hp}{k:Nat}{L A:List P}{a q:P}
theorem Zjn(h:σ[k]?=some (.lst L)):lenV (.ref k) σ=some (.ok (.p (.int L.length)),σ):=ZW h rfl
theorem Zat{i:V}(h:σ[k]?=some (.lst L)):Zd (.ref k) i σ=Y9 L i σ:=ZW h rfl
theorem Zht(h:σ[k]?=some (.lst (A++[a]))):Zd (.ref k) (.p (.int (-1))) σ=some (.ok (.p a),σ):=(Zat h).trans Zcj
theorem WJ(h:σ[k]?=some (.lst L))(hl:L.length<lim):Wm (.ref k) (.p q) σ=some (.ok (),σ.set k (.lst (L++[q]))):=h_b rfl (ZW h (h_if (decide_eq_true hl) rfl))
theorem Zjm{i:Int}{j:Nat}(h:σ[k]?=some (.lst L))(hi:idx? i L.length=some j):setV (.ref k) (.p (.int i)) (.p q) σ=some (.ok (),σ.set k (.lst (L.set j q))):=h_b rfl (ZW h (by
 show(match idx? i L.length with|some m=>some (R.ok (),σ.set k (.lst (L.set m q)))|none=>none)=_
 rw[hi]))
theorem ZcX(h:σ[k]?=some (.lst (A++[a]))):setV (.ref k) (.p (.int (-1))) (.p q) σ=some (.ok (),σ.set k (.lst (A++[q]))):=
 (Zjm h (by rw[List.length_append];exact ZhO)).trans (by rw[List.set_append_right _ _ (Nat.le_refl _),Nat.sub_self];rfl)
theorem Zlj(h:σ[k]?=some (.lst L))(hl:L.length≤lim):YQ (.ref k) σ=some (.ok (.p (.tuple L)),σ):=h_l1 (l_of h) (ZcZ hl)
theorem h_lV{α:Type}{j:Nat}{l:List P}{f:Nat→List P→HM α}{S:Option (R α×Hp)}(h:σ[j]?=some (.lst l))(k:f j l σ=S):lV (.ref j) f σ=S:=ZW h k
theorem Zog(h:σ[k]?=some (.lst (L++[q]))):popV (.ref k) σ=some (.ok (.p q),σ.set k (.lst L)):=h_lV h (by rw[List.getLast?_concat,List.dropLast_concat])
theorem Zlk(h:σ[k]?=some (.lst L)):Zaf (.ref k) σ=some (.ok (!L.isEmpty),σ):=ZW h rfl
end
section
variable{σ:Hp}{j:Nat}{k p v:P}{l l':List (P×P)}
theorem h_p{α:Type}{d:P}{f:P→HM α}{S:Option (R α×Hp)}(k:f d σ=S):pV (.p d) f σ=S:=k
theorem Zoi{c:Bool}(h:σ[j]?=some (.tdct l))(hk:Ym k=true)(hl:(ZP k l).isSome=c):inV (.p k) (.ref j) σ=some (.ok c,σ):=
 h_p (ZW h (h_if (m:=hp (ZP k l).isSome) hk (by rw[← hl];rfl)))
theorem o_in{c:Bool}(h:σ[j]?=some (.tdct l))(hk:Ym k=true)(hl:(ZP k l).isSome=c):Xz (.p k) (.ref j) σ=some (.ok (!c),σ):=h_b (Zoi h hk hl) rfl
theorem Zm6(h:σ[j]?=some (.tdct l))(hk:Ym k=true)(hl:ZP k l=some v):Xz (.p k) (.ref j) σ=some (.ok false,σ):=o_in (c:=true) h hk (by rw[hl];rfl)
theorem Zm8(h:σ[j]?=some (.tdct l))(hk:Ym k=true)(hl:ZP k l=none):Xz (.p k) (.ref j) σ=some (.ok true,σ):=o_in (c:=false) h hk (by rw[hl];rfl)
theorem Zl4(hk:Ym k=true)(hl:ZP k l=some v):Zl5 l (.p k) σ=some (.ok (.p v),σ):=(if_pos hk).trans (by rw[hl])
theorem ZcY(h:σ[j]?=some (.tdct l))(hk:Ym k=true)(hl:ZP k l=some v):Zd (.ref j) (.p k) σ=some (.ok (.p v),σ):=ZW h (Zl4 hk hl)
theorem Zhs(h:σ[j]?=some (.tdct l))(hk:Ym k=true)(hl:decide (l.length<lim)=true)(e:putD k p l=l'):setV (.ref j) (.p k) (.p p) σ=some (.ok (),σ.set j (.tdct l')):=h_b rfl (ZW h (h_if (by rw[hk,hl];rfl) (e▸rfl)))
end
section
variable{t c:MObj}{N:List Nd}{m:List (P×P)}{B R:Hp}{k:Nat}{L:List P}{p q:P}{o:MObj}
theorem x_at(h:R[k]?=some o):(HB t c N m (B++R))[fr B k]?=some o:=by rw[ZdC];exact h
theorem ZeB(h2:R[k]?=some (.lst L))(h3:L.length<lim):Wm (.ref (fr B k)) (.p q) (HB t c N m (B++R))=some (.ok (),HB t c N m (B++R.set k (.lst (L++[q])))):=(WJ (x_at h2) h3).trans (by rw[X8])
theorem Qj(h2:R[k]?=some (.lst L)):lenV (.ref (fr B k)) (HB t c N m (B++R))=some (.ok (.p (.int L.length)),HB t c N m (B++R)):=Zjn (x_at h2)
theorem ZgC{i:V}(h2:R[k]?=some (.lst L)):Zd (.ref (fr B k)) i (HB t c N m (B++R))=Y9 L i (HB t c N m (B++R)):=Zat (x_at h2)
theorem WD(h2:R[k]?=some (.lst L))(hl:L.length≤lim):YQ (.ref (fr B k)) (HB t c N m (B++R))=some (.ok (.p (.tuple L)),HB t c N m (B++R)):=Zlj (x_at h2) hl
theorem Zdb{l:List P}(h:l.length≤lim):newL l (HB t c N m (B++R))=some (.ok (.ref (fr B R.length)),HB t c N m (B++(R++[.lst l]))):=
 (XY h).trans (by rw[Ze8,Qh,List.append_assoc])
theorem ZeD{l:Loc}{f:Fn}{d:P}(h:f l (HB t c N m (B++R))=some (.ok (.p d),HB t c N m (B++R))):eLst [f] l (HB t c N m (B++R))=some (.ok (.ref (fr B R.length)),HB t c N m (B++(R++[.lst [d]]))):=h_b (Zc h Zk) (h_b rfl (Zdb (Wz rfl)))
theorem ZjP{d:P}{n:Nat}(h:R[k]?=some (.lst [d]))(hn:n≤1000):mulV (.ref (fr B k)) (.p (.int n)) (HB t c N m (B++R))=some (.ok (.ref (fr B R.length)),HB t c N m (B++(R++[.lst (List.replicate n d)]))):=
 h_i1 (ZW (x_at h) (h_if (decide_eq_true ⟨Int.natCast_nonneg n,Int.ofNat_le.mpr hn⟩) (Zdb (l:=List.replicate n d) (by rw[List.length_replicate];exact Nat.le_trans hn (Nat.le_trans (by decide) ZO)))))
theorem QZ{l:Loc}:eLst [] l (HB t c N m B)=some (.ok (.ref (fr B 0)),HB t c N m (B++[.lst []])):=XY (l:=[]) (σ:=HB t c N m B) (Nat.zero_le _)
theorem ZgB{l:Loc}{k:Nat}(h:fr B 0=k):eLst [] l (HB t c N m B)=some (.ok (.ref k),HB t c N m (B++[.lst []])):=h▸QZ
theorem ZjQ{l:Loc}:eLst [] l (HB t c N m (B++R))=some (.ok (.ref (fr B R.length)),HB t c N m (B++(R++[.lst []]))):=Zdb (l:=[]) (Nat.zero_le _)
theorem Z9{d:P}{N':List Nd}{m':List (P×P)}:Yb (HB t c N m B).length (.p d) (HB t c N' m' B)=some (.p d,HB t c N' m' B):=congrArg (fun x=>some (V.p d,x)) Qe
theorem Xg{d:P}:Yb (HB t c N m B).length (.p d) (HB t c N m B)=some (.p d,HB t c N m B):=Z9
theorem Zfk{B':Hp}(h:B.length=B'.length):fr B 0=fr B' 0:=congrArg (·+(5+0)) h
theorem ZI{d:P}{N':List Nd}{m':List (P×P)}{B':Hp}(h:B.length=B'.length):Yb (HB t c N m B).length (.p d) (HB t c N' m' (B'++R))=some (.p d,HB t c N' m' B'):=by
 rw[Qg,Zfk h];exact congrArg (fun x=>some (V.p d,x)) ZaP
theorem Zin{d:P}{N':List Nd}{m':List (P×P)}{B':Hp}(h:B.length=B'.length):Yb (HB t c N m B).length (.p d) (HB t c N' m' B')=some (.p d,HB t c N' m' B'):=by
 rw[Qg,Zfk h];exact congrArg (fun x=>some (V.p d,x)) Qe
theorem Wk(h:R[k]?=some o):Yb (HB t c N m B).length (.ref (fr B k)) (HB t c N m (B++R))=some (.ref (fr B 0),HB t c N m (B++[o])):=by
 show(if fr B k<fr B 0 then none else match(HB t c N m (B++R))[fr B k]? with
  |some o=>some (V.ref (fr B 0),(HB t c N m (B++R)).take (fr B 0)++[o])
  |none=>none)=_
 rw[if_neg (by rw[Zoy];exact id),x_at h];dsimp only;rw[ZaP,Qh]
end
theorem ZgE{id n:Nat}{bd:Body}{args:List V}{σ σ':Hp}{l:Loc}{r:R Out}{R':Option (R V×Hp)}(h0:tab id=some bd)(h1:args.length=bd.np)(h2:bd.run (Zg tab n) (WM bd.nl args) σ=some (r,l,σ'))(h3:(match r with
 | .ok (.ret v)=>(Yb σ.length v σ').map fun(v,σ)=>(R.ok v,σ)
 | .ok .next=>some (.ok (.p .none),σ'.take σ.length)
 | .exc c w=>some (.exc c w,σ'.take σ.length))=R'):Zg tab (n+1) id args σ=R':=by
 rw[Zc2,h0]
 show(if args.length=bd.np then _ else none)=_
 rw[if_pos h1,h2,← h3]
 cases r with
 |exc=>rfl
 |ok o=>cases o<;>rfl
theorem Zn{id n np nl:Nat}{run:CF→SM}{args:List V}{σ σ' σ'':Hp}{v w:V}{l:Loc}(h0:tab id=some ⟨np,nl,run⟩)(h1:args.length=np)(h2:run (Zg tab n) (WM nl args) σ=some (.ok (.ret v),l,σ'))(h3:Yb σ.length v σ'=some (w,σ'')):Zg tab (n+1) id args σ=some (.ok w,σ''):=ZgE h0 h1 h2 (by dsimp only;rw[h3];rfl)
theorem XT{id n np nl:Nat}{run:CF→SM}{args:List V}{σ σ' σ'':Hp}{v w:V}(h0:tab id=some ⟨np,nl,run⟩)(h1:args.length=np)(h2:∃l,run (Zg tab n) (WM nl args) σ=some (.ok (.ret v),l,σ'))(h3:Yb σ.length v σ'=some (w,σ'')):Zg tab (n+1) id args σ=some (.ok w,σ''):=h2.elim fun _ h=>Zn h0 h1 h h3
theorem ZbO{id n np nl:Nat}{run:CF→SM}{args:List V}{σ σ' σ'':Hp}{c:Addr}{w:Str}{l:Loc}(h0:tab id=some ⟨np,nl,run⟩)(h1:args.length=np)(h3:σ'.take σ.length=σ'')(h2:run (Zg tab n) (WM nl args) σ=some (.exc c w,l,σ')):Zg tab (n+1) id args σ=some (.exc c w,σ''):=ZgE h0 h1 h2 (h3▸rfl)
theorem Zbe{id n np nl:Nat}{run:CF→SM}{args:List V}{σ σ':Hp}{c:Addr}{w:Str}(h0:tab id=some ⟨np,nl,run⟩)(h1:args.length=np)(h2:∃l,run (Zg tab n) (WM nl args) σ=some (.exc c w,l,σ')):Zg tab (n+1) id args σ=some (.exc c w,σ'.take σ.length):=h2.elim fun _ h=>ZbO h0 h1 rfl h
section
variable{a b d:SM}{l l':Loc}{σ σ1 σ2 σ':Hp}{f g h:Fn}{t u:Tn}{R:Option (Mine.R Out×Loc×Hp)}
theorem Yt(k:sSeq a (sSeq b d) l σ=R):sSeq (sSeq a b) d l σ=R:=by
 rw[← k];unfold sSeq
 cases a l σ with
 |none=>rfl
 |some x=>
  obtain⟨r,l',σ'⟩:=x
  cases r with
  |exc=>rfl
  |ok o=>cases o<;>rfl
theorem ZA(k:d l σ=R):sSeq Ze d l σ=R:=k
theorem y_if{c:Bool}(h:t l σ=some (.ok c,σ1))(k:sSeq (if c then a else b) d l σ1=R):sSeq (sIf t a b) d l σ=R:=by
 rw[← k];unfold sSeq;rw[x_if h rfl]
theorem X9(h:t l σ=some (.ok true,σ1))(k:sSeq a d l σ1=R):sSeq (sIf t a b) d l σ=R:=y_if h k
theorem Xh(h:t l σ=some (.ok false,σ1))(k:sSeq b d l σ1=R):sSeq (sIf t a b) d l σ=R:=y_if h k
theorem ZR{i:Nat}{v:V}(h:f l σ=some (.ok v,σ1))(k:d (l.set i (some v)) σ1=R):sSeq (Zj i f) d l σ=R:=Zf (Zi h) k
theorem ZY{is:List Nat}{ps:List P}(h:f l σ=some (.ok (.p (.tuple ps)),σ'))(e:Wy is ps l=some l')(k:d l' σ'=R):sSeq (Zy is f) d l σ=R:=Zf (ZD h e) k
theorem Zc9{j:Nat}{q:P}{L:List P}(h0:g l σ=some (.ok (.ref j),σ))(hl:σ[j]?=some (.lst L))(h1:f l σ=some (.ok (.p q),σ1))(h2:Wm (.ref j) (.p q) σ1=some (.ok (),σ2))(k:d l σ2=R):sSeq (Z8 (Z7 Zx g [f])) d l σ=R:=Zf (W6 h0 hl h1 h2) k
theorem ZdG{fo fi fv:Fn}{o x v:V}(h1:fv l σ=some (.ok v,σ1))(h2:fo l σ1=some (.ok o,σ1))(h3:fi l σ1=some (.ok x,σ1))(h4:setV o x v σ1=some (.ok (),σ'))(k:d l σ'=R):sSeq (XU fo fi fv) d l σ=R:=Zf (Qi h1 h2 h3 h4) k
theorem Xs{v:V}(h:f l σ=some (.ok v,σ1))(k:some (.ok (.ret v),l,σ1)=R):sSeq (sRet f) d l σ=R:=(ZG h).trans k
theorem Zk7{it:In}{tg:Tg}{ps:List P}(h:it l σ=some (.ok ps,σ1))(g:Yj tg b ps l σ1=some (.ok .next,l',σ'))(k:d l' σ'=R):sSeq (sFor it tg b) d l σ=R:=Zf (Y5 h g) k
end
section
variable{t c:MObj}{N:List Nd}{m:List (P×P)}{B R:Hp}{k:Nat}{L:List P}{p q:P}{o:MObj}
theorem YW(h2:R[k]?=some (.lst L))(h3:decide (L.length<lim)=true):Wm (.ref (fr B k)) (.p q) (HB t c N m (B++R))=some (.ok (),HB t c N m (B++R.set k (.lst (L++[q])))):=ZeB h2 (of_decide_eq_true h3)
theorem Qk(h2:R[k]?=some (.lst (L++[q]))):Zd (.ref (fr B k)) (.p (.int (-1))) (HB t c N m (B++R))=some (.ok (.p q),HB t c N m (B++R)):=Zht (x_at h2)
theorem x_it{i:V}{r:Option (Mine.R V×Hp)}(h2:R[k]?=some (.lst L))(h:Y9 L i (HB t c N m (B++R))=r):Zd (.ref (fr B k)) i (HB t c N m (B++R))=r:=(ZgC h2).trans h
theorem Znt{i:V}{r:Option (Mine.R V×Hp)}(h2:R[k]?=some (.frz L))(h:Y9 L i (HB t c N m (B++R))=r):Zd (.ref (fr B k)) i (HB t c N m (B++R))=r:=ZW (x_at h2) h
theorem ZlZ{i:Int}{j:Nat}(h:R[k]?=some (.lst L))(hi:idx? i L.length=some j):setV (.ref (fr B k)) (.p (.int i)) (.p q) (HB t c N m (B++R))=some (.ok (),HB t c N m (B++R.set k (.lst (L.set j q)))):=(Zjm (x_at h) hi).trans (by rw[X8])
theorem Zf4(h:R[k]?=some (.lst (L++[p]))):setV (.ref (fr B k)) (.p (.int (-1))) (.p q) (HB t c N m (B++R))=some (.ok (),HB t c N m (B++R.set k (.lst (L++[q])))):=(ZcX (x_at h)).trans (by rw[X8])
theorem ZjO(h:R[k]?=some (.lst (L++[q]))):popV (.ref (fr B k)) (HB t c N m (B++R))=some (.ok (.p q),HB t c N m (B++R.set k (.lst L))):=(Zog (x_at h)).trans (by rw[X8])
theorem Zg8(h:R[k]?=some (.lst L)):Zaf (.ref (fr B k)) (HB t c N m (B++R))=some (.ok (!L.isEmpty),HB t c N m (B++R)):=Zlk (x_at h)
theorem ZbQ(h:R[k]?=some (.lst [])):Zaf (.ref (fr B k)) (HB t c N m (B++R))=some (.ok false,HB t c N m (B++R)):=Zg8 h
theorem ZbP{p:P}(h:R[k]?=some (.lst (L++[p]))):Zaf (.ref (fr B k)) (HB t c N m (B++R))=some (.ok true,HB t c N m (B++R)):=(Zg8 h).trans (by cases L<;>rfl)
theorem Q3(h:R[k]?=some (.lst L)):asP (.ref (fr B k)) (HB t c N m (B++R))=some (.ok (.list L),HB t c N m (B++R.set k (.frz L))):=by rw[ZaM (x_at h),X8]
end
section
variable{a b r:Int}{x y:Nat}{σ:Hp}
theorem ZjN(e:a - b=r):subV (.p (.int a)) (.p (.int b)) σ=some (.ok (.p (.int r)),σ):=e▸rfl
theorem YX(e:a+b=r):addV (.p (.int a)) (.p (.int b)) σ=some (.ok (.p (.int r)),σ):=e▸rfl
theorem Q4:ZaY (.p (.int x)) (.p (.int y)) σ=some (.ok (.p (.int (min x y:Nat))),σ):=congrArg (fun z=>some (R.ok (V.p (.int z)),σ)) (by split<;>omega)
end
section
variable{a b c:P}{l:List P}{σ:Hp}
theorem t_0:Zd (.p (.tuple (a::l))) (.p (.int 0)) σ=some (.ok (.p a),σ):=ZmO (a:=a) (l:=l)
theorem t_1:Zd (.p (.tuple (a::b::l))) (.p (.int 1)) σ=some (.ok (.p b),σ):=ZmN (a:=a) (b:=b) (l:=l)
theorem t_2:Zd (.p (.tuple (a::b::c::l))) (.p (.int 2)) σ=some (.ok (.p c),σ):=Zor (a:=a) (b:=b) (c:=c) (l:=l)
theorem l_0:Zd (.p (.list (a::l))) (.p (.int 0)) σ=some (.ok (.p a),σ):=ZmO (a:=a) (l:=l)
theorem l_1:Zd (.p (.list (a::b::l))) (.p (.int 1)) σ=some (.ok (.p b),σ):=ZmN (a:=a) (b:=b) (l:=l)
end
end
section
section
variable{t c:MObj}{N:List Nd}{m:List (P×P)}{B:Hp}{T:List Nat}{n:Nat}
noncomputable def YZ(N:List Nd)(T:List Nat)(v k:Nat):List (Nat×Nat):=match N[k]? with
 |some (.br j ps)=>if j=v then ps else[(tp T v,k)]
 |_=>[(tp T v,k)]
theorem ZcV(W:WF T N){v k:Nat}:Rise 0 (YZ N T v k) (tp T v):=by
 have h:Rise 0 [(tp T v,k)] (tp T v):=⟨Nat.zero_le _,Nat.le_refl _,rfl⟩
 unfold YZ
 split
 ·rename_i j ps e
  split
  ·rename_i hj;subst hj;exact(W.ok _ _ e).2.1
  ·exact h
 ·exact h
theorem ZcW(W:WF T N){v k x:Nat}(hx:x≤tp T v):pick (YZ N T v k) x=cof N v x k:=by
 unfold YZ cof
 cases e:N[k]? with
 |none=>simp[pick,hx]
 |some nd=>cases nd with
  |leaf v=>simp[pick,hx]
  |br j ps=>dsimp only;split<;>simp[pick,hx]
theorem Zlm{j:Nat}{nd:Nd}(h:N[j]?=some nd):Zd (.ref 2) (.p (.int j)) (HB t c N m B)=some (.ok (.p (ndP nd)),HB t c N m B):=ZW HB_2 (Zv (by rw[List.getElem?_map,h];rfl))
theorem ZZ{j:Nat}{nd:Nd}(h:N[j]?=some nd)(n:Nat):Zg tab (n+1) 4 [dv T,.p (.int j)] (HB t c N m B)=some (.ok (.p (ndP nd)),HB t c N m B):=
 XT rfl rfl ⟨_,ZG (Zh rfl rfl (Zlm h))⟩ Xg
theorem ZhL{k:P}{b:Bool}(hk:Ym k=true)(h:(ZP k (Y7 N)).isSome=b):Xz (.p k) (.ref 3) (HB t c N m B)=some (.ok (!b),HB t c N m B):=o_in HB_3 hk h
theorem Zix{k v:P}(hk:Ym k=true)(h:ZP k (Y7 N)=some v):Zd (.ref 3) (.p k) (HB t c N m B)=some (.ok (.p v),HB t c N m B):=ZcY HB_3 hk h
theorem ZeQ{nd:Nd}(hN:∀x∈N,NdAt x)(hn:N.Nodup)(hd:NdAt nd)(hl:N.length<lim):∃E r,Zg tab (n+1) 1 [dv T,.p (ndP nd)] (HB t c N m B)=some (.ok (.p (.int ((r:Nat):Int))),HB t c (N++E) m B)∧
  ((E=[]∧N[r]?=some nd)∨(E=[nd]∧r=N.length∧nd∉N)):=by
 have hk:=Zln hd
 by_cases h:nd∈N
 ·obtain⟨r,hr⟩:=List.mem_iff_getElem?.mp h
  have e:=Ziu hN hn hr
  exact⟨[],r,by rw[List.append_nil];exact XT rfl rfl ⟨_,Zf (ZU (Zo rfl rfl (ZhL (b:=true) hk (by rw[e];rfl))) rfl) (ZG (Zh rfl rfl (Zix hk e)))⟩ Xg,.inl ⟨rfl,hr⟩⟩
 ·have hb0:=Zit hN hd h
  have e:=Zbw hb0
  have e1:ZP (ndP nd) (Y7 (N++[nd]))=some (.int N.length):=by
   rw[ZaJ,Zdh hb0,ZP,Yr (Wo hd)];rfl
  have e2:(Y7 N).length=N.length:=by rw[Y7,List.length_map,List.length_zipIdx]
  have st:setV (.ref 3) (.p (ndP nd)) (.p (.int ((N.map ndP).length:Nat))) (HB t c N m B)=some (.ok (),t::c::.lst (N.map ndP)::.tdct (Y7 N++[(ndP nd,.int N.length)])::.tdct m::B):=
   Zhs HB_3 hk (decide_eq_true (by rw[e2];exact hl)) (by rw[ZeT hb0,List.length_map])
  have ap:Wm (.ref 2) (.p (ndP nd)) (t::c::.lst (N.map ndP)::.tdct (Y7 N++[(ndP nd,.int N.length)])::.tdct m::B)=some (.ok (),HB t c (N++[nd]) m B):=
   (WJ (L:=N.map ndP) rfl (by rw[List.length_map];exact hl)).trans (by unfold HB;rw[ZaJ,List.map_append];rfl)
  exact⟨[nd],N.length,XT rfl rfl ⟨_,Zf (Y4 (Zo rfl rfl (ZhL (b:=false) hk (by rw[e];rfl))) (Zf (Qi (ZV rfl rfl) rfl rfl st) (Zf (W6 rfl rfl rfl ap) rfl))) (ZG (Zh rfl rfl (Zix hk e1)))⟩ Z9,.inr ⟨rfl,rfl,h⟩⟩
theorem YY(hT:T.length=3){j:Nat}(hj:j<N.length):Zg tab (n+1) 5 [dv T,.p (.int j)] (HB t c N m B)=some (.ok (.p (.int ((lvl N j:Nat):Int))),HB t c N m B):=by
 have e:N[j]?=some N[j]:=List.getElem?_eq_getElem hj
 unfold lvl
 rw[e]
 cases h:N[j]with
 |leaf v=>
  rw[h]at e
  have h3:(((T.map fun(t:Nat)=>PyData.int (t:Int)).length:Nat):Int)=((3:Nat):Int):=by rw[List.length_map,hT]
  exact XT rfl rfl ⟨_,Zf (Zi (Zh (Zh rfl rfl (Zlm e)) rfl rfl)) (ZG (Ql (Zo rfl rfl X6) (Zi7 rfl h3)))⟩ Xg
 |br k ps=>
  rw[h]at e
  exact XT rfl rfl ⟨_,Zf (Zi (Zh (Zh rfl rfl (Zlm e)) rfl rfl)) (ZG (Zab (Zo rfl rfl WU) rfl))⟩ Xg
theorem Yv(hT:T.length=3){v:Nat}(hv:v<3){σ:Hp}:Y9 (T.map fun(t:Nat)=>.int (t:Int)) (.p (.int v)) σ=some (.ok (.p (.int ((tp T v:Nat):Int))),σ):=by
 refine Zv ?_
 unfold tp
 simp[List.getD_eq_getElem?_getD,List.getElem?_eq_getElem (hT▸hv:v<T.length)]
theorem ZcO(hT:T.length=3){v j:Nat}(hv:v<3)(hj:j<N.length):Zg tab (n+2) 6 [dv T,.p (.int j),.p (.int v)] (HB t c N m B)=some (.ok (.p (.tuple ((YZ N T v j).map prt))),HB t c N m B):=by
 have e:N[j]?=some N[j]:=List.getElem?_eq_getElem hj
 unfold YZ
 rw[e]
 cases h:N[j]with
 |leaf w=>
  rw[h]at e
  exact XT rfl rfl ⟨_,Zf (ZD (ZE rfl (Zc rfl rfl) (ZZ e n)) rfl) (Zf (ZU (Zo rfl rfl Zna) rfl) (ZG (ZcA (Zz (Zh rfl rfl (Yv hT hv)) rfl))))⟩ Xg
 |br k ps=>
  rw[h]at e
  by_cases hk:k=v
  ·simp only[if_pos hk]
   exact XT rfl rfl ⟨_,Zf (ZD (ZE rfl (Zc rfl rfl) (ZZ e n)) rfl) (Ye (Y4 (Zo rfl rfl (x_eq (decide_eq_true (congrArg Int.ofNat hk)))) (ZG rfl)))⟩ Xg
  ·simp only[if_neg hk]
   exact XT rfl rfl ⟨_,Zf (ZD (ZE rfl (Zc rfl rfl) (ZZ e n)) rfl) (Zf (ZU (Zo rfl rfl (x_eq (decide_eq_false fun e=>hk (Int.ofNat.inj e)))) rfl) (ZG (ZcA (Zz (Zh rfl rfl (Yv hT hv)) rfl))))⟩ Xg
theorem ZmQ{a b:Nat}(h:a≤b):decide ((a:Int)≤b)=true:=decide_eq_true (Int.ofNat_le.mpr h)
theorem ZhJ{a b:Nat}(h:b<a):decide ((a:Int)≤b)=false:=decide_eq_false fun e=>Nat.not_le_of_lt h (Int.ofNat_le.mp e)
theorem Zd8{cf:CF}{σ:Hp}{a:Option V}{x:Nat}:∀{ps:List (Nat×Nat)} {lo top:Nat} {y z:Option V},Rise lo ps top→x≤top→lo≤top→∃l',Yj (.tup [2,3]) (Qy cf) (ps.map prt) [a,some (.p (.int x)),y,z] σ=some (.ok (.ret (.p (.int ((pick ps x:Nat):Int)))),l',σ)
 |[],lo,top,y,z,r,hx,hl=>absurd (r:lo=top+1) (Nat.ne_of_lt (Nat.lt_succ_of_le hl))
 |(h,cc)::ps,lo,top,y,z,r,hx,hl=>by
  unfold pick
  by_cases hh:x≤h
  ·rw[if_pos hh]
   exact⟨_,ZdH rfl (Ye (Y4 (Zo rfl rfl (x_dc (ZmQ hh))) (ZG rfl)))⟩
  ·rw[if_neg hh]
   have hh:=Nat.lt_of_not_le hh
   obtain⟨l',e⟩:=Zd8 (cf:=cf) (σ:=σ) (a:=a) (x:=x) (y:=some (.p (.int h))) (z:=some (.p (.int cc))) r.2.2 hx (Nat.le_trans hh hx)
   exact⟨l',x_go rfl (Zf (ZU (Zo rfl rfl (x_dc (ZhJ hh))) rfl) rfl) e⟩
theorem ZbH{cf:CF}{σ:Hp}{a:Option V}{x:Nat}:∀{ps:List (Nat×Nat)} {lo top:Nat} {y z:Option V},Rise lo ps top→top<x→∃l',Yj (.tup [2,3]) (Qy cf) (ps.map prt) [a,some (.p (.int x)),y,z] σ=some (.ok .next,l',σ)
 |[],lo,top,y,z,r,hx=>⟨_,rfl⟩
 |(h,cc)::ps,lo,top,y,z,r,hx=>by
  obtain⟨l',e⟩:=ZbH (cf:=cf) (σ:=σ) (a:=a) (x:=x) (y:=some (.p (.int h))) (z:=some (.p (.int cc))) r.2.2 hx
  exact⟨l',x_go rfl (Zf (ZU (Zo rfl rfl (x_dc (ZhJ (Nat.lt_of_le_of_lt r.2.1 hx)))) rfl) rfl) e⟩
theorem Zhj{ps:List (Nat×Nat)}{top x:Nat}(r:Rise 0 ps top)(hx:x≤top):Zg tab (n+1) 8 [.p (.tuple (ps.map prt)),.p (.int x)] (HB t c N m B)=some (.ok (.p (.int ((pick ps x:Nat):Int))),HB t c N m B):=by
 obtain⟨l',e⟩:=Zd8 (cf:=Zg tab n) (σ:=HB t c N m B) (a:=some (.p (.tuple (ps.map prt)))) (y:=none) (z:=none) r hx (Nat.zero_le _)
 exact XT rfl rfl ⟨_,Ye (Y5 (Zaa rfl) e)⟩ Xg
theorem ZaW{ps:List (Nat×Nat)}{top x:Nat}(r:Rise 0 ps top)(hx:top<x):Zg tab (n+1) 8 [.p (.tuple (ps.map prt)),.p (.int x)] (HB t c N m B)=some (.exc Yc "a value past its variable's top",HB t c N m B):=by
 obtain⟨l',e⟩:=ZbH (cf:=Zg tab n) (σ:=HB t c N m B) (a:=some (.p (.tuple (ps.map prt)))) (y:=none) (z:=none) r hx
 exact(Zbe rfl rfl ⟨_,Zf (Y5 (Zaa rfl) e) rfl⟩).trans (by rw[Qg,Qe])
end
end
section
noncomputable def XI:List (Nat×Nat)→List (Nat×Nat)
 |[]=>[]
 |(h,c)::r=>match XI r with
  |[]=>[(h,c)]
  |(h',c')::r'=>if c=c' then(h',c')::r' else(h,c)::(h',c')::r'
theorem Zgc:∀(h c:Nat) (r:List (Nat×Nat)),∃h' r',XI ((h,c)::r)=(h',c)::r'
 |h,c,r=>by
  unfold XI
  split
  ·exact⟨_,_,rfl⟩
  ·split
   ·rename_i e;subst e;exact⟨_,_,rfl⟩
   ·exact⟨_,_,rfl⟩
theorem Qu:∀{ps:List (Nat×Nat)} {lo top:Nat},Rise lo ps top→Rise lo (XI ps) top
 |[],_,_,r=>r
 |(h,c)::ps,lo,top,r=>by
  obtain⟨r1,r2,r3⟩:=r
  have ih:=Qu r3
  unfold XI
  split
  ·rename_i e;rw[e]at ih;exact⟨r1,r2,ih⟩
  ·rename_i h' c' r' e
   rw[e]at ih
   split
   ·obtain⟨i1,i2,i3⟩:=ih;exact⟨by exact Ar.a10 i1 r1,i2,i3⟩
   ·exact⟨r1,r2,ih⟩
theorem Zdn:∀(ps:List (Nat×Nat)),Adj (XI ps)
 |[]=>trivial
 |(h,c)::ps=>by
  have ih:=Zdn ps
  unfold XI
  split
  ·trivial
  ·rename_i h' c' r' e
   rw[e]at ih
   split
   ·exact ih
   ·rename_i hne;exact⟨hne,ih⟩
theorem Zdm:∀{ps:List (Nat×Nat)} {x:Nat×Nat},x∈XI ps→∃h,(h,x.2)∈ps
 |[],x,hx=>by cases hx
 |(h,c)::ps,x,hx=>by
  unfold XI at hx
  split at hx
  ·rcases List.mem_cons.mp hx with rfl|hx
   ·exact⟨h,by simp⟩
   ·cases hx
  ·rename_i h' c' r' e
   have ih:=fun x (hx:x∈(h',c')::r')=>Zdm (ps:=ps) (x:=x) (by rw[e];exact hx)
   split at hx
   ·obtain⟨h2,m⟩:=ih _ hx;exact⟨h2,by simp[m]⟩
   ·rcases List.mem_cons.mp hx with rfl|hx
    ·exact⟨h,by simp⟩
    ·obtain⟨h2,m⟩:=ih _ hx;exact⟨h2,by simp[m]⟩
theorem Zb0:∀{ps:List (Nat×Nat)} {lo top x:Nat},Rise lo ps top→lo≤x→x≤top→pick (XI ps) x=pick ps x
 |[],_,_,_,_,_,_=>rfl
 |(h,c)::ps,lo,top,x,r,hl,hx=>by
  obtain⟨r1,r2,r3⟩:=r
  have rj:=Qu r3
  by_cases hh:x≤h
  ·have e1:pick ((h,c)::ps) x=c:=by simp[pick,hh]
   rw[e1]
   unfold XI
   split
   ·simp[pick,hh]
   ·rename_i h' c' r' e
    rw[e]at rj
    split
    ·rename_i ec
     obtain⟨i1,i2,i3⟩:=rj
     simp[pick,ec,(show x≤h' by exact Ar.a10 i1 hh)]
    ·simp[pick,hh]
  ·have e1:pick ((h,c)::ps) x=pick ps x:=by simp[pick,hh]
   rw[e1]
   have ih:=Zb0 r3 (show h+1≤x by exact Ar.a14 hh) hx
   unfold XI
   split
   ·rename_i e;rw[e]at rj;unfold Rise at rj;exact False.elim (Ar.a107 rj hx hh)
   ·rename_i h' c' r' e
    rw[e]at ih
    split
    ·exact ih
    ·rw[← ih];simp[pick,hh]
noncomputable def XH(J:List (Nat×Nat))(x:Nat×Nat):List (Nat×Nat):=match J.getLast? with
 |some y=>if y.2=x.2 then J.dropLast++[x]else J++[x]
 |none=>J++[x]
theorem WL{J:List (Nat×Nat)}{x y:Nat×Nat}:XH (J++[y]) x=if y.2=x.2 then J++[x]else J++[y]++[x]:=by
 unfold XH;simp
theorem Za2:∀(ps J:List (Nat×Nat)) (h c:Nat),ps.foldl XH (J++[(h,c)])=J++XI ((h,c)::ps)
 |[],J,h,c=>by simp[XI]
 |(h2,c2)::ps,J,h,c=>by
  rw[List.foldl_cons,WL]
  obtain⟨h',r',e⟩:=Zgc h2 c2 ps
  dsimp only
  split
  ·rename_i ec
   rw[Za2 ps J h2 c2,e,XI,e]
   simp[ec]
  ·rename_i ec
   rw[Za2 ps (J++[(h,c)]) h2 c2,e,XI,e]
   simp[ec]
theorem Zfe(ps:List (Nat×Nat)):ps.foldl XH []=XI ps:=by
 cases ps with
 |nil=>rfl
 |cons x ps=>obtain⟨h,c⟩:=x;exact Za2 ps [] h c
section
variable{t c:MObj}{N:List Nd}{m:List (P×P)}{B L:Hp}{T:List Nat}{n:Nat}
theorem Zdl{J:List (Nat×Nat)}{x:Nat×Nat}:(XH J x).length≤J.length+1:=by
 unfold XH;split
 ·split<;>simp
 ·simp
theorem Zeh{cf:CF}{a0 a1 a2 tp0:Option V}{k:Nat}:∀{ps:List (Nat×Nat)} {lo top:Nat} {J:List (Nat×Nat)} {y z:Option V} {at_:Int} {σ:Hp},Rise lo ps top→at_<lo→σ[k]?=some (.lst (J.map prt))→J.length+ps.length<1000→
  ∃l':Option V×Option V,Yj (.tup [6,7]) (Zdy cf) (ps.map prt) [a0,a1,a2,some (.ref k),tp0,some (.p (.int at_)),y,z] σ=some (.ok .next,[a0,a1,a2,some (.ref k),tp0,some (.p (.int (if ps=[]then at_ else top))),l'.1,l'.2],σ.set k (.lst ((ps.foldl XH J).map prt)))
 |[],lo,top,J,y,z,at_,σ,r,ha,hk,hl=>by
  obtain⟨h1,h2⟩:=List.getElem?_eq_some_iff.mp hk
  exact⟨(y,z),by rw[List.foldl_nil,← h2,List.set_getElem_self];rfl⟩
 |(h,cc)::ps,lo,top,J,y,z,at_,σ,r,ha,hk,hl=>by
  have hlen:=(List.getElem?_eq_some_iff.mp hk).1
  rw[List.length_cons]at hl
  have hJl:J.length<99999:=by exact Ar.n2 (.im (.t (.p (.v 0) (.p (.v 1) (.k 1))) (.k 1000)) (.t (.v 0) (.k 99999))) (by kernel_rfl) hl
  obtain⟨l',e⟩:=Zeh (cf:=cf) (a0:=a0) (a1:=a1) (a2:=a2) (tp0:=tp0) (k:=k) (y:=some (.p (.int h))) (z:=some (.p (.int cc))) (at_:=h) r.2.2 (Int.ofNat_lt.mpr (Nat.lt_succ_self h)) (List.getElem?_set_self hlen) (Nat.lt_of_le_of_lt (Nat.add_le_add_right (Zdl (J:=J) (x:=(h,cc))) _) (by rw[Nat.add_assoc,Nat.add_comm 1];exact hl))
  have hif:(if ps=[]then(h:Int)else top)=top:=by
   split
   ·rename_i e;subst e;rw[Nat.succ.inj (r.2.2:h+1=top+1)]
   ·rfl
  rw[hif,List.set_set]at e
  have up:decide (at_<(h:Int))=true:=decide_eq_true (Int.lt_of_lt_of_le ha (Int.ofNat_le.mpr r.1))
  refine⟨l',x_go rfl (Zf (Zi (Ql (Zo rfl rfl (x_dc up)) rfl)) ?_) e⟩
  rcases List.eq_nil_or_concat J with rfl|⟨J,⟨h0,c0⟩,rfl⟩
  ·exact Zf (ZU (ZeH (Zo (ZV rfl (Zjn hk)) rfl (x_dc rfl))) (Zf (W6 rfl hk (Zz rfl rfl) (WJ hk (Y6 rfl))) rfl)) rfl
  ·rw[List.concat_eq_append]at hk hJl ⊢
   rw[WL]
   rw[List.map_append]at hk
   have pos:decide ((0:Int)<(((J.map prt)++[prt (h0,c0)]).length:Nat))=true:=decide_eq_true (by rw[List.length_append];exact Int.ofNat_lt.mpr (Nat.succ_pos _))
   by_cases hc:c0=cc
   ·rw[if_pos hc,List.map_append]
    exact Zf (Y4 (ZcE (Zo (ZV rfl (Zjn hk)) rfl (x_dc pos)) (Zo (Zh (Zh rfl rfl (Zht hk)) rfl rfl) rfl (x_eq (decide_eq_true (congrArg Int.ofNat hc))))) (Zf (Qi (Zz rfl rfl) rfl rfl (ZcX hk)) rfl)) rfl
   ·rw[if_neg hc,List.map_append,List.map_append]
    exact Zf (ZU ((ZcE (Zo (ZV rfl (Zjn hk)) rfl (x_dc pos)) (Zo (Zh (Zh rfl rfl (Zht hk)) rfl rfl) rfl (x_eq (decide_eq_false fun e=>hc (Int.ofNat.inj e)))))) (Zf (W6 rfl hk (Zz rfl rfl) (WJ hk (by
     refine Nat.lt_trans ?_ (Y6 (a:=99998) rfl)
     rw[List.length_append,List.length_map];rw[List.length_append]at hJl;exact Nat.lt_of_succ_lt_succ (Nat.succ_lt_succ (by simp at *;exact Ar.n2 (.im (.t (.p (.p (.v 0) (.k 1)) (.p (.v 1) (.k 1))) (.k 1000)) (.t (.p (.v 0) (.k 1)) (.k 99998))) (by kernel_rfl) hl))))) rfl)) rfl
theorem YL{j:Nat}:(HB t c N m B)[j+5]?=B[j]?:=rfl
theorem Qf{j:Nat}{o:MObj}:(HB t c N m B).set (j+5) o=HB t c N m (B.set j o):=rfl
theorem Zoz{i:Nat}:fr B i=(B.length+i)+5:=by unfold fr;exact Ar.a22
theorem NdOk.app{E:List Nd}{k:Nat}{nd:Nd}(hk:k≤N.length)(h:NdOk T N k nd):NdOk T (N++E) k nd:=by
 cases nd with
 |leaf v=>exact h
 |br j ps=>
  obtain⟨h1,h2,h3,h4,h5⟩:=h
  refine⟨h1,h2,h3,h4,fun x hx=>⟨(h5 x hx).1,?_⟩⟩
  rw[Wa (by have:=(h5 x hx).1;exact Ar.a24 hk this)]
  exact(h5 x hx).2
theorem WF.snoc(W:WF T N){nd:Nd}(h1:nd∉N)(h2:NdOk T N N.length nd):WF T (N++[nd]) where
 nodup:=by
  rw[List.nodup_append]
  refine⟨W.nodup,by simp,fun a ha b hb q=>?_⟩
  rw[List.mem_singleton.mp hb]at q
  exact h1 (q▸ha)
 ok:=fun k x e=>by
  by_cases hk:k<N.length
  ·rw[Za4 hk]at e
   exact(W.ok _ _ e).app (Nat.le_of_lt hk)
  ·rw[List.getElem?_append_right (Nat.le_of_not_lt hk)]at e
   have:k - N.length=0:=by
    have:=(List.getElem?_eq_some_iff.mp e).1
    simp at this;exact Ar.a108 this
   rw[this]at e
   simp at e
   subst e
   have:k=N.length:=by exact Ar.a109 this hk
   subst this
   exact h2.app (Nat.le_refl _)
theorem WF.at(W:WF T N):∀x∈N,NdAt x:=fun x hx=>by
 obtain⟨k,e⟩:=List.mem_iff_getElem?.mp hx
 have:=W.ok _ _ e
 cases x with
 |leaf v=>exact this
 |br j ps=>trivial
structure Made(T:List Nat)(N:List Nd)(v:Nat)(ps:List (Nat×Nat))(N':List Nd)(r:Nat):Prop where
 ext:∃E,N'=N++E∧E.length≤1
 wf:WF T N'
 lt:r<N'.length
 lv:v≤lvl N' r
 pk:∀x,x≤tp T v→cof N' v x r=pick ps x
structure Tops(T:List Nat):Prop where
 len:T.length=3
 le:∀v,tp T v≤3
 ge:∀v,v<3→1≤tp T v
theorem QR{j v:Nat}{ps:List (Nat×Nat)}(W:WF T N)(hT:Tops T)(hv:v<3)(hr:Rise 0 ps (tp T v))(hps:∀x∈ps,x.2<N.length∧v<lvl N x.2)(hl:N.length<lim)(hlen:ps.length<1000)
  (hj:B[j]?=some (.lst (ps.map prt))∨B[j]?=some (.frz (ps.map prt))):
  ∃N' r,Zg tab (n+2) 3 [dv T,.p (.int v),.ref (j+5)] (HB t c N m B)=some (.ok (.p (.int ((r:Nat):Int))),HB t c N' m (B.set j (.frz (ps.map prt))))∧Made T N v ps N' r:=by
 have hjl:j<B.length:=by rcases hj with h|h<;>exact(List.getElem?_eq_some_iff.mp h).1
 have sl:asP (.ref (j+5)) (HB t c N m (B++[.lst []]))=some (.ok (.list (ps.map prt)),HB t c N m (B.set j (.frz (ps.map prt))++[.lst []])):=by
  rcases hj with h|h
  ·rw[ZaM (l:=ps.map prt) (by rw[YL,List.getElem?_append_left hjl];exact h),Qf,List.set_append_left _ _ hjl]
  ·rw[Zc5 (l:=ps.map prt) (by rw[YL,List.getElem?_append_left hjl];exact h)]
   obtain⟨h1,h2⟩:=List.getElem?_eq_some_iff.mp h
   rw[← h2,List.set_getElem_self]
 obtain⟨B',hB'⟩:∃B',B.set j (.frz (ps.map prt))=B':=⟨_,rfl⟩
 have hBl:B.length=B'.length:=by rw[← hB',List.length_set]
 have hfr:fr B 0=fr B' 0:=by unfold fr;rw[hBl]
 rw[hB']at sl ⊢
 have hne:ps≠[]:=by rintro rfl;cases(hr:0=tp T v+1)
 obtain⟨l',e⟩:=Zeh (cf:=Zg tab (n+1)) (a0:=some (dv T)) (a1:=some (.p (.int v))) (a2:=some (.ref (j+5))) (tp0:=some (.p (.int (tp T v)))) (k:=fr B' 0) (J:=[]) (y:=none) (z:=none) (at_:= -1) (σ:=HB t c N m (B'++[.lst []])) hr (by decide) (by rw[ZdC];rfl) (by rw[List.length_nil,Nat.zero_add];exact hlen)
 rw[if_neg hne,Zfe,X8]at e
 have jr:=Qu hr
 have ja:=Zdn ps
 have jm:=fun x hx=>Zdm (ps:=ps) (x:=x) hx
 have jp:=fun x hx=>Zb0 (x:=x) hr (Nat.zero_le _) hx
 obtain⟨J,hJ⟩:∃J,XI ps=J:=⟨_,rfl⟩
 rw[hJ]at e jr ja jm
 simp only[hJ]at jp
 have go:∀{w:V} {l'':Loc} {σ':Hp},sSeq (sIf (tCmp eqV (eFn (g1 lenV) [Za 3]) (Zb (.int 1))) (sSeq (sRet (eBin Zd (eBin Zd (Za 3) (Zb (.int 0))) (Zb (.int 1)))) Ze) Ze) (sSeq (sRet (eDia (Zg tab (n+1)) 1 (Za 0) [Zm [Za 1,eFn (g1 YQ) [Za 3]]])) Ze) [some (dv T),some (.p (.int v)),some (.ref (j+5)),some (.ref (fr B' 0)),some (.p (.int (tp T v))),some (.p (.int (tp T v))),l'.1,l'.2] (HB t c N m (B'++[.lst (J.map prt)]))=some (.ok (.ret w),l'',σ')→
   ∃l,Zfr.run (Zg tab (n+1)) (WM 8 [dv T,.p (.int v),.ref (j+5)]) (HB t c N m B)=some (.ok (.ret w),l,σ'):=fun{w l'' σ'} k=>by
  unfold Zfr;dsimp only
  exact⟨l'',Zf (Zi (ZgB hfr)) (Zf (Zi (Zh rfl rfl (Yv hT.len hv))) (Zf (Zi rfl) (Zf (Y5 (XA rfl sl) e) (Zf (ZU (Zo rfl rfl (x_ne (decide_eq_true rfl))) rfl) k))))⟩
 cases J with
 |nil=>cases(jr:0=tp T v+1)
 |cons x J=>
 cases J with
 |nil=>
  obtain⟨h0,c0⟩:=x
  obtain⟨h1,hm⟩:=jm (h0,c0) (by simp)
  have hc:=hps _ hm
  have e0:h0=tp T v:=Nat.succ.inj (jr.2.2:h0+1=tp T v+1)
  refine⟨N,c0,XT rfl rfl (go (Ye (Y4 (Zo (ZV rfl (Qj rfl)) rfl (x_eq rfl)) (ZG (Zh (Zh rfl rfl ((ZgC rfl).trans rfl)) rfl rfl))))) (ZI hBl),⟨⟨[],by simp,by simp⟩,W,hc.1,Nat.le_of_lt hc.2,fun x hx=>?_⟩⟩
  have hx':=jp x hx
  rw[← hx']
  have hc':=hc.2
  dsimp only at hc'
  unfold cof pick
  rw[if_pos (e0▸hx)]
  split
  ·rename_i k qs e1
   rw[Zay e1]at hc'
   rw[if_neg (Nat.ne_of_gt hc')]
  ·rfl
 |cons y J=>
  have h1:decide ((((x::y::J).map prt).length:Int)=1)=false:=decide_eq_false fun e=>by simp at e;exact Ar.n1 (.im (.E (.p (.p (.c (.v 0)) (.k 1)) (.k 1)) (.k 1)) .ff) (by kernel_rfl) e
  have hlJ:((x::y::J).map prt).length≤lim:=by have:=jr.len;have:=hT.le v;have:=ZO;rw[List.length_map];exact Ar.a199 this (by assumption) (by assumption)
  have hnd:NdOk T N N.length (.br v (x::y::J)):=⟨hv,jr,ja,by simp,fun z hz=>by obtain⟨h2,hm⟩:=jm z hz;exact hps (h2,z.2) hm⟩
  obtain⟨E,r,e1,e2⟩:=ZeQ (t:=t) (c:=c) (m:=m) (B:=B'++[.lst ((x::y::J).map prt)]) (T:=T) (n:=n) (nd:=.br v (x::y::J)) W.at W.nodup trivial hl
  refine⟨N++E,r,XT rfl rfl (go (Zf (ZU (Zo (ZV rfl (Qj rfl)) rfl (x_eq h1)) rfl) (ZG (ZE rfl (Zc (Zz rfl (ZV rfl (WD rfl hlJ))) Zk) e1)))) (ZI hBl),?_⟩
  have fin:∀{N':List Nd} {r:Nat},N'[r]?=some (.br v (x::y::J))→v≤lvl N' r∧∀z,z≤tp T v→cof N' v z r=pick ps z:=fun{N' r} e=>by
   refine⟨by rw[Zay e];exact Nat.le_refl _,fun z hz=>?_⟩
   unfold cof
   rw[e]
   dsimp only
   rw[if_pos rfl]
   exact jp z hz
  rcases e2 with⟨rfl,h⟩|⟨rfl,rfl,h⟩
  ·rw[List.append_nil]
   obtain⟨f1,f2⟩:=fin h
   exact⟨⟨[],by simp,by simp⟩,W,(List.getElem?_eq_some_iff.mp h).1,f1,f2⟩
  ·obtain⟨f1,f2⟩:=fin (N':=N++[.br v (x::y::J)]) (r:=N.length) (by simp)
   exact⟨⟨_,rfl,by simp⟩,W.snoc h hnd,by simp,f1,f2⟩
end
end
section
noncomputable def hdP:Nd→P
 | .leaf _=>.str "leaf"
 | .br j _=>.int j
noncomputable def abP:Nd→P
 | .leaf v=>v
 | .br _ ps=>.tuple (ps.map prt)
theorem Zhw(nd:Nd):ndP nd=.tuple [hdP nd,abP nd]:=by cases nd<;>rfl
section
variable{t c:MObj}{N:List Nd}{m:List (P×P)}{B:Hp}{T:List Nat}{n:Nat}{f:Nat→Nat}
theorem ZeJ(W:WF T N)(hf:Fit T f){a:Option V}{vs:V}(hv:∀j:Nat,j<3→Zd vs (.p (.int (j:Int))) (HB t c N m B)=some (.ok (.p (.int ((f j:Nat):Int))),HB t c N m B)):
  ∀(k:Nat) (r:Nat) (nd:Nd),N[r]?=some nd→3 - lvl N r<k→∃x,Z6 (WO (Zg tab (n+1))) (WP (Zg tab (n+1))) k [some (dv T),a,some vs,some (.p (hdP nd)),some (.p (abP nd))] (HB t c N m B)=some (.ok .next,[some (dv T),a,some vs,x,some (.p (sem N f r))],HB t c N m B)
 |0,r,nd,e,h=>absurd h (Nat.not_lt_zero _)
 |k+1,r,.leaf v,e,h=>⟨some (.p (.str "leaf")),by rw[Z1 e];exact x_wf (Zo rfl rfl (QM X6))⟩
 |k+1,r,.br j ps,e,h=>by
  obtain⟨h1,h2,h3,h4,h5⟩:=W.ok _ _ e
  obtain⟨y,hy⟩:=YD h2 (Nat.zero_le _) (hf j)
  have h6:=h5 _ hy
  have h8:pick ps (f j)<N.length:=Nat.lt_trans h6.1 (List.getElem?_eq_some_iff.mp e).1
  have e':N[pick ps (f j)]?=some N[pick ps (f j)]:=List.getElem?_eq_getElem h8
  have h7:=h6.2
  dsimp only at h7
  rw[Zay e]at h
  obtain⟨x,ih⟩:=ZeJ W hf (a:=a) hv k _ _ e' (by exact Ar.n3 (.im (.t (.s (.k 3) (.v 2)) (.p (.v 1) (.k 1))) (.im (.t (.v 2) (.k 3)) (.im (.t (.v 2) (.v 0)) (.t (.s (.k 3) (.v 0)) (.v 1))))) (by kernel_rfl) h h1 h7)
  have rn:=ZZ (t:=t) (c:=c) (m:=m) (B:=B) (T:=T) e' n
  rw[Zhw]at rn
  exact⟨x,by rw[WH W e (hf j)];exact x_wt (Zo rfl rfl (QM WU)) (Zf (ZD (ZE rfl (Zc (Zp (Zc rfl (Zc (Zh rfl rfl (hv j h1)) Zk)) (Zhj h2 (hf j))) Zk) rn) rfl) rfl) ih⟩
theorem ZcM(W:WF T N)(hf:Fit T f){vs:V}{r:Nat}(hr:r<N.length)(hv:∀j:Nat,j<3→Zd vs (.p (.int (j:Int))) (HB t c N m B)=some (.ok (.p (.int ((f j:Nat):Int))),HB t c N m B)):
  Zg tab (n+2) 9 [dv T,.p (.int r),vs] (HB t c N m B)=some (.ok (.p (sem N f r)),HB t c N m B):=by
 have e':N[r]?=some N[r]:=List.getElem?_eq_getElem hr
 have rn:=ZZ (t:=t) (c:=c) (m:=m) (B:=B) (T:=T) e' n
 obtain⟨x,go⟩:=ZeJ (n:=n) W hf (a:=some (.p (.int r))) hv lim _ _ e' (Nat.lt_of_le_of_lt (Nat.sub_le _ _) (Y6 (a:=3) rfl))
 rw[Zhw]at rn
 exact XT rfl rfl ⟨_,Zf (ZD (ZE rfl (Zc rfl Zk) rn) rfl) (Zf (Zg4 fun k e=>e▸go) (ZG rfl))⟩ Xg
theorem ZaV(W:WF T N){vs:V}{r j:Nat}{ps:List (Nat×Nat)}(hr:N[r]?=some (.br j ps)){x:Nat}(hx:tp T j<x)(hv:Zd vs (.p (.int (j:Int))) (HB t c N m B)=some (.ok (.p (.int ((x:Nat):Int))),HB t c N m B)):
  Zg tab (n+2) 9 [dv T,.p (.int r),vs] (HB t c N m B)=some (.exc Yc "a value past its variable's top",HB t c N m B):=by
 have rn:=ZZ (t:=t) (c:=c) (m:=m) (B:=B) (T:=T) hr n
 rw[Zhw]at rn
 exact(Zbe rfl rfl ⟨_,Zf (ZD (ZE rfl (Zc rfl Zk) rn) rfl) (Yu (Zg4 fun k _=>x_wx (Zo rfl rfl (QM WU)) (Yu (Zg5 (Zme rfl (Zk8 (Zp (Zc rfl (Zc (Zh rfl rfl hv) Zk)) (ZaW (W.ok _ _ hr).2.1 hx))))))))⟩).trans (by rw[Qg,Qe])
end
end
section
theorem lt0{R X:List MObj}:(R++X)[R.length]?=X[0]?:=by rw[List.getElem?_append_right (Nat.le_refl _),Nat.sub_self]
theorem lt1{R X:List MObj}:(R++X)[R.length+1]?=X[1]?:=by rw[List.getElem?_append_right (by exact Ar.a6),Nat.add_sub_cancel_left]
theorem lt2{R X:List MObj}:(R++X)[R.length+2]?=X[2]?:=by rw[List.getElem?_append_right (by exact Ar.a27),Nat.add_sub_cancel_left]
theorem lt3{R X:List MObj}:(R++X)[R.length+3]?=X[3]?:=by rw[List.getElem?_append_right (by exact Ar.a28),Nat.add_sub_cancel_left]
theorem ls0{R X:List MObj}{o:MObj}:(R++X).set R.length o=R++X.set 0 o:=by rw[List.set_append_right _ _ (Nat.le_refl _),Nat.sub_self]
theorem ls2{R X:List MObj}{o:MObj}:(R++X).set (R.length+2) o=R++X.set 2 o:=by rw[List.set_append_right _ _ (by exact Ar.a27),Nat.add_sub_cancel_left]
theorem ls3{R X:List MObj}{o:MObj}:(R++X).set (R.length+3) o=R++X.set 3 o:=by rw[List.set_append_right _ _ (by exact Ar.a28),Nat.add_sub_cancel_left]
theorem Qz{α:Type}{t:Tg}{f:Fn}{σ:Hp}{inj out:α→P}{G:α→Loc}(h1:∀a b,ZX t (inj b) (G a)=some (G b)):∀{as:List α} {l:Loc},(∀a∈as,ZX t (inj a) l=some (G a))→(∀a∈as,f (G a) σ=some (.ok (.p (out a)),σ))→Y2 t ZM f l (as.map inj) σ=some (.ok (as.map out),σ)
 |[],_,_,_=>rfl
 |a::as,l,h0,hf=>by
  have ih:=Qz h1 (as:=as) (l:=G a) (fun b _=>h1 a b) (fun b hb=>hf b (by simp[hb]))
  rw[List.map_cons,Y2,h0 a List.mem_cons_self]
  exact h_b (a:=true) (σ1:=σ) rfl (h_b (h_ne (h_b (hf a List.mem_cons_self) rfl)) (h_b ih rfl))
theorem QX{α:Type}{t:Tg}{f:Fn}{σ σ':Hp}{l:Loc}{it:In}(as:List α)(inj out:α→P)(G:α→Loc)(hi:it l σ=some (.ok (as.map inj),σ'))(hl:as.length≤lim)(h0:∀a,ZX t (inj a) (X7 t l)=some (G a))(h1:∀a b,ZX t (inj b) (G a)=some (G b))(hf:∀a∈as,f (G a) σ'=some (.ok (.p (out a)),σ')):
  ZS it t ZM f l σ=some (.ok (.ref σ'.length),σ'++[.lst (as.map out)]):=by
 exact h_b hi (h_b (Qz (f:=f) (σ:=σ') (out:=out) h1 (as:=as) (l:=X7 t l) (fun a _=>h0 a) hf) (XY (by rw[List.length_map];exact hl)))
theorem Zd6{α:Type}{tg:Tg}{f:Fn}{σ:Hp}{l:Loc}{it:In}{t c:MObj}{N:List Nd}{m:List (P×P)}{B R:Hp}(as:List α)(inj out:α→P){G:α→Loc}(hi:it l σ=some (.ok (as.map inj),HB t c N m (B++R)))(hl:as.length≤lim)(h0:∀a,ZX tg (inj a) (X7 tg l)=some (G a))(h1:∀a b,ZX tg (inj b) (G a)=some (G b))(hf:∀a∈as,f (G a) (HB t c N m (B++R))=some (.ok (.p (out a)),HB t c N m (B++R))):
  ZS it tg ZM f l σ=some (.ok (.ref (fr B R.length)),HB t c N m (B++(R++[.lst (as.map out)]))):=by
 rw[QX as inj out G hi hl h0 h1 hf,Ze8,Qh,List.append_assoc]
theorem ZjR{v:V}{σ σ':Hp}{xs:List P}(h:asP v σ=some (.ok (.list xs),σ')):Zgh [v] σ=some (.ok (Zex 0 xs),σ'):=h_b h rfl
section
variable{t c:MObj}{N:List Nd}{m:List (P×P)}{B R X:Hp}{L:List P}{ob:MObj}
theorem ZcL(h:ob=.lst L∨ob=.frz L):asP (.ref (fr B R.length)) (HB t c N m (B++(R++ob::X)))=some (.ok (.list L),HB t c N m (B++(R++.frz L::X))):=by
 rcases h with rfl|rfl
 ·rw[ZaM (x_at lt0),X8,ls0];rfl
 ·rw[Zc5 (x_at lt0)]
theorem Zok{x:Int}{r:List Int}(hi:ZaZ L=some (x::r)):minV (.ref (fr B R.length)) (HB t c N m (B++(R++.lst L::X)))=some (.ok (.p (.int (minL x r))),HB t c N m (B++(R++.lst L::X))):=by
 have e:=x_at (t:=t) (c:=c) (N:=N) (m:=m) (B:=B) (show(R++.lst L::X)[R.length]?=some (.lst L)from lt0)
 exact h_l1 (l_of e) (by rw[hi])
end
theorem Zg7{f g:Fn}{l:Loc}{σ σ1 σ2 σ3:Hp}{x y:P}{v:V}(h1:f l σ=some (.ok (.p x),σ1))(h2:g l σ1=some (.ok v,σ2))(h3:asP v σ2=some (.ok y,σ3)):Zm [f,g] l σ=some (.ok (.p (.tuple [x,y])),σ3):=ZcB (Zc h1 (Zc h2 Zk)) (h_b rfl (h_b (h_b h3 rfl) rfl)) rfl
theorem ZaC{α:Type}{g:α→P}:∀{l:List α} {k:Nat},Zex (k:Int) (l.map g)=(l.zipIdx k).map fun p=>.tuple [.int (p.2:Int),g p.1]
 |[],_=>rfl
 |x::l,k=>by
  rw[List.map_cons,Zex,List.zipIdx_cons,List.map_cons]
  rw[show((k:Int)+1)=((k+1:Nat):Int)by exact Ar.a17,ZaC]
theorem ZdF{α β:Type}{g:α→β}{l:List α}{k:Nat}:(l.zipIdx k).map (fun p=>g p.1)=l.map g:=by
 induction l generalizing k with
 |nil=>rfl
 |cons x l ih=>rw[List.zipIdx_cons,List.map_cons,List.map_cons,ih]
theorem Zcl{α:Type}{g:α→Int}:∀{l:List α},ZaZ (l.map fun a=>.int (g a))=some (l.map g)
 |[]=>rfl
 |a::l=>by simp only[List.map_cons,ZaZ,Zcl,Option.map_some]
theorem Zed:∀{l:List Int} {a v:Int},(∀x∈a::l,v≤x)→v∈a::l→minL a l=v
 |[],a,v,_,h=>by simp at h;simp[minL,h]
 |b::l,a,v,h,hm=>by
  unfold minL
  have ha:=h a (by simp)
  have hb:=h b (by simp)
  refine Zed (fun x hx=>?_) ?_
  ·rcases List.mem_cons.mp hx with rfl|hx
   ·split<;>assumption
   ·exact h x (by simp[hx])
  ·rcases List.mem_cons.mp hm with rfl|hm
   ·rw[if_neg (by exact Ar.a110 hb)];simp
   ·rcases List.mem_cons.mp hm with rfl|hm
    ·by_cases hc:v<a
     ·rw[if_pos hc];simp
     ·rw[if_neg hc];have:v=a:=by exact Ar.a111 ha hc
      simp[this]
    ·simp[hm]
noncomputable abbrev NN:=List (Nat×Nat)
noncomputable def Pcs(F:Nat→List Nat):Nat→List (Nat×List Nat)→Nat→Prop
 |lo,[],top=>lo=top+1
 |lo,(h,row)::r,top=>lo≤h∧h≤top∧(∀x,lo≤x→x≤h→F x=row)∧Pcs F (h+1) r top
noncomputable def pcP(x:Nat×List Nat):P:=.tuple [.int x.1,.list (x.2.map fun(k:Nat)=>.int (k:Int))]
noncomputable def hdN(a:NN×NN):Nat×Nat:=a.2.headD (0,0)
noncomputable def nxtA(mh:Nat)(a:NN×NN):NN×NN:=if(hdN a).1=mh then(a.1++[hdN a],a.2.tail)else a
theorem Pcs.congr{F G:Nat→List Nat}:∀{q:List (Nat×List Nat)} {lo top:Nat},Pcs F lo q top→(∀x,lo≤x→F x=G x)→Pcs G lo q top
 |[],_,_,h,_=>h
 |(hh,row)::q,lo,top,⟨h1,h2,h3,h4⟩,e=>⟨h1,h2,fun x a b=>by rw[← e x a];exact h3 x a b,h4.congr fun x a=>e x (by exact Ar.a10 a h1)⟩
theorem Zjo{A:List (NN×NN)}{lo top mh:Nat}(hA:∀a∈A,Rise lo a.2 top)(hlo:lo≤top)(hm1:∀a∈A,mh≤(hdN a).1)(hm2:∃a∈A,mh=(hdN a).1):
  lo≤mh∧mh≤top∧(∀x,lo≤x→x≤mh→A.map (fun a=>pick a.2 x)=A.map fun a=>(hdN a).2)∧(∀a∈A.map (nxtA mh),Rise (mh+1) a.2 top)∧(∀x,mh+1≤x→A.map (fun a=>pick a.2 x)=(A.map (nxtA mh)).map fun a=>pick a.2 x)∧(A.map (nxtA mh)).map (fun a=>a.1++a.2)=A.map fun a=>a.1++a.2:=by
 have one:∀a∈A,∃x r,a.2=x::r∧hdN a=x∧lo≤x.1∧x.1≤top∧Rise (x.1+1) r top:=fun a ha=>by
  have:=hA a ha
  obtain⟨d,l⟩:=a
  cases l with
  |nil=>unfold Rise at this;exact False.elim (Ar.a64 this hlo)
  |cons x r=>obtain⟨r1,r2,r3⟩:=this;exact⟨x,r,rfl,rfl,r1,r2,r3⟩
 obtain⟨a0,ha0,e0⟩:=hm2
 obtain⟨x0,r0,_,e1,l1,l2,_⟩:=one a0 ha0
 rw[e1]at e0
 refine⟨by exact Ar.a65 e0 l1,by exact Ar.a8 e0 l2,fun x h1 h2=>?_,fun a ha=>?_,fun x hx=>?_,?_⟩
 ·refine List.map_congr_left fun a ha=>?_
  obtain⟨y,r,e,e1,_⟩:=one a ha
  have:=hm1 a ha
  rw[e1]at this
  rw[e,e1];simp only[pick];rw[if_pos (by exact Ar.a3 h2 this)]
 ·obtain⟨b,hb,rfl⟩:=List.mem_map.mp ha
  obtain⟨y,r,e,e1,k1,k2,k3⟩:=one b hb
  have:=hm1 b hb
  rw[e1]at this
  unfold nxtA
  rw[e1]
  split
  ·rename_i h;dsimp only;rw[e,List.tail_cons,← h];exact k3
  ·rw[e];exact⟨by exact Ar.a112 this (by assumption),k2,k3⟩
 ·rw[List.map_map]
  refine List.map_congr_left fun a ha=>?_
  obtain⟨y,r,e,e1,k1,k2,k3⟩:=one a ha
  simp only[Function.comp_apply,nxtA]
  rw[e1]
  split
  ·rename_i h;dsimp only;rw[e,List.tail_cons];simp only[pick];rw[if_neg (by exact Ar.a113 h hx)]
  ·rfl
 ·rw[List.map_map]
  refine List.map_congr_left fun a ha=>?_
  obtain⟨y,r,e,e1,k1,k2,k3⟩:=one a ha
  simp only[Function.comp_apply,nxtA]
  rw[e1]
  split
  ·dsimp only;rw[e,List.tail_cons];simp
  ·rfl
end
section
section
variable{t c:MObj}{N:List Nd}{m:List (P×P)}{B:Hp}{T:List Nat}{n:Nat}
theorem Zaj{cf:CF}{a0 a1 a2 a3 a5 a7 a8 a11:Option V}{kp mh:Nat}:∀{A:List (NN×NN)} {pre:List P} {x9 x10:Option V} {σ:Hp},σ[kp]?=some (.lst (pre++A.map fun a=>.int (a.1.length:Nat)))→
  ∃y9 y10,Yj (.tup [9,10]) (ZbA cf) ((A.zipIdx pre.length).map fun p=>.tuple [.int (p.2:Nat),.tuple [.int ((hdN p.1).1:Nat),.int ((hdN p.1).2:Nat)]]) [a0,a1,a2,a3,some (.ref kp),a5,some (.p (.int (mh:Nat))),a7,a8,x9,x10,a11] σ=
   some (.ok .next,[a0,a1,a2,a3,some (.ref kp),a5,some (.p (.int (mh:Nat))),a7,a8,y9,y10,a11],σ.set kp (.lst (pre++(A.map (nxtA mh)).map fun a=>.int (a.1.length:Nat))))
 |[],pre,x9,x10,σ,h=>by
  obtain⟨h1,h2⟩:=List.getElem?_eq_some_iff.mp h
  have:σ.set kp (.lst (pre++[]))=σ:=by rw[← (show σ[kp]=.lst (pre++[])from h2),List.set_getElem_self]
  exact⟨x9,x10,by rw[List.map_nil,List.map_nil,this];rfl⟩
 |a::A,pre,x9,x10,σ,h=>by
  have hk:kp<σ.length:=(List.getElem?_eq_some_iff.mp h).1
  rw[List.map_cons]at h
  rw[List.zipIdx_cons,List.map_cons,List.map_cons,List.map_cons]
  have hit:=Zv (l:=pre++.int (a.1.length:Nat)::A.map fun a=>.int (a.1.length:Nat)) (i:=pre.length) (p:=.int (a.1.length:Nat)) (by simp) (σ:=σ)
  have hix:=Zco (i:=pre.length) (n:=(pre++PyData.int (a.1.length:Nat)::A.map fun a=>.int (a.1.length:Nat)).length) (by simp)
  by_cases he:(hdN a).1=mh
  ·have e1:(nxtA mh a).1.length=a.1.length+1:=by unfold nxtA;rw[if_pos he];simp
   have hd:decide (((hdN a).1:Int)=(mh:Nat))=true:=by simp[he]
   have hs:(pre++PyData.int (a.1.length:Nat)::A.map fun a=>.int (a.1.length:Nat)).set pre.length (.int ((a.1.length:Nat)+1))=(pre++[.int ((nxtA mh a).1.length:Nat)])++A.map fun a=>.int (a.1.length:Nat):=by
    rw[List.set_append_right _ _ (Nat.le_refl _),Nat.sub_self,e1];simp
   obtain⟨y9,y10,ih⟩:=Zaj (cf:=cf) (a0:=a0) (a1:=a1) (a2:=a2) (a3:=a3) (a5:=a5) (a7:=a7) (a8:=a8) (a11:=a11) (kp:=kp) (mh:=mh) (A:=A) (pre:=pre++[.int ((nxtA mh a).1.length:Nat)]) (x9:=some (.p (.int (pre.length:Nat)))) (x10:=some (.p (.tuple [.int ((hdN a).1:Nat),.int ((hdN a).2:Nat)]))) (σ:=σ.set kp (.lst ((pre++[.int ((nxtA mh a).1.length:Nat)])++A.map fun a=>.int (a.1.length:Nat)))) (by simp[hk])
   rw[List.length_append,List.length_singleton]at ih
   simp only[List.set_set,List.append_assoc,List.singleton_append]at ih hs
   rw[← hs]at ih
   exact⟨y9,y10,x_go rfl (Zf (Y4 (Zo (Zh rfl rfl rfl) rfl (x_eq hd)) (Zf (Zmg rfl rfl ((Zat h).trans hit) rfl (Zjm h hix)) rfl)) rfl) ih⟩
  ·have e1:(nxtA mh a)=a:=by unfold nxtA;rw[if_neg he]
   have hd:decide (((hdN a).1:Int)=(mh:Nat))=false:=by simp;exact Ar.a12 he
   obtain⟨y9,y10,ih⟩:=Zaj (cf:=cf) (a0:=a0) (a1:=a1) (a2:=a2) (a3:=a3) (a5:=a5) (a7:=a7) (a8:=a8) (a11:=a11) (kp:=kp) (mh:=mh) (A:=A) (pre:=pre++[.int (a.1.length:Nat)]) (x9:=some (.p (.int (pre.length:Nat)))) (x10:=some (.p (.tuple [.int ((hdN a).1:Nat),.int ((hdN a).2:Nat)]))) (σ:=σ) (by rw[h];simp)
   rw[List.length_append,List.length_singleton]at ih
   simp only[List.append_assoc,List.singleton_append]at ih
   rw[e1]
   exact⟨y9,y10,x_go rfl (Zf (ZU (Zo (Zh rfl rfl rfl) rfl (x_eq hd)) rfl) rfl) ih⟩
end
theorem Zdt{B L:Hp}:fr (B++L) 0=fr B L.length:=by unfold fr;simp;exact Ar.a114
end
section
section
variable{t c:MObj}{N:List Nd}{m:List (P×P)}{B:Hp}{T:List Nat}{n:Nat}
noncomputable def i1P(x:Nat):P:=.int (x:Int)
noncomputable def hdT(a:NN×NN):P:=.tuple [.int ((hdN a).1:Nat),.int ((hdN a).2:Nat)]
set_option maxHeartbeats 2000000 in
theorem Zf9{cf:CF}{a1 a2 x6 x7 x8 x9 x10 x11:Option V}{e0 so e2:MObj}{R:List MObj}{A:List (NN×NN)}{Q:List (Nat×List Nat)}{lo top mh:Nat}(hA:∀a∈A,Rise lo a.2 top)(hlo:lo≤top)(hm1:∀a∈A,mh≤(hdN a).1)(hm2:∃a∈A,mh=(hdN a).1)(hQ:Q.length<1000)(hAl:A.length<1000)
  (hso:so=.lst (A.map fun a=>.tuple ((a.1++a.2).map prt))∨so=.frz (A.map fun a=>.tuple ((a.1++a.2).map prt))):
  ∃y7 y9 y10 F1 F2 F3,Qx cf [some (dv T),a1,a2,some (.ref (fr B 1)),some (.ref (fr B 3)),some (.ref (fr B 4)),x6,x7,x8,x9,x10,x11] (HB t c N m (B++e0::so::e2::.lst (A.map fun a=>.int (a.1.length:Nat))::.lst (Q.map pcP)::R))=
   some (.ok .next,[some (dv T),a1,a2,some (.ref (fr B 1)),some (.ref (fr B 3)),some (.ref (fr B 4)),some (.p (.int (mh:Nat))),y7,x8,y9,y10,x11],HB t c N m (B++e0::.frz (A.map fun a=>.tuple ((a.1++a.2).map prt))::e2::.lst ((A.map (nxtA mh)).map fun a=>.int (a.1.length:Nat))::.lst ((Q++[(mh,A.map fun a=>(hdN a).2)]).map pcP)::(R++[F1,F2,F3]))):=by
 have one:∀a∈A,(a.1++a.2)[a.1.length]?=some (hdN a):=fun a ha=>by
  have:=hA a ha
  obtain⟨d,l⟩:=a
  cases l with
  |nil=>exact absurd (this:lo=top+1) (Nat.ne_of_lt (Nat.lt_succ_of_le hlo))
  |cons x r=>simp[hdN]
 have hAL:A.length≤lim:=Nat.le_of_lt (Nat.lt_trans hAl (Y6 rfl))
 obtain⟨S,hS⟩:∃S,S=A.map fun a=>PyData.tuple ((a.1++a.2).map prt):=⟨_,rfl⟩
 obtain⟨PL,hPL⟩:∃PL,PL=A.map fun a=>PyData.int (a.1.length:Nat):=⟨_,rfl⟩
 rw[← hS]at hso
 have en:=ZaC (l:=A) (g:=fun a=>PyData.tuple ((a.1++a.2).map prt)) (k:=0)
 have hc2:=Zd6 (tg:=.tup [9,11]) (f:=Zb7 cf) (it:=Z5 Zgh [Za 3]) (l:=[some (dv T),a1,a2,some (.ref (fr B 1)),some (.ref (fr B 3)),some (.ref (fr B 4)),x6,x7,x8,x9,x10,x11]) (σ:=HB t c N m (B++e0::so::e2::.lst PL::.lst (Q.map pcP)::R)) (t:=t) (c:=c) (N:=N) (m:=m) (B:=B) (R:=e0::.frz S::e2::.lst PL::.lst (Q.map pcP)::R) A.zipIdx (fun p=>.tuple [.int (p.2:Int),.tuple ((p.1.1++p.1.2).map prt)]) (fun p=>hdT p.1) (by
   rw[← en,← hS]
   exact Yd (Zc rfl Zk) (ZjR (ZcL (R:=[e0]) (X:=e2::.lst PL::.lst (Q.map pcP)::R) hso))) (by rw[List.length_zipIdx];exact hAL) (fun _=>rfl) (fun _ _=>rfl) (fun a ha=>by
  obtain⟨a,i⟩:=a
  have hai:=List.mem_zipIdx_iff_getElem?.mp ha
  exact Zh rfl (Zh rfl rfl ((ZgC (L:=PL) (k:=3) rfl).trans (Zv (p:=.int (a.1.length:Nat)) (by rw[hPL,List.getElem?_map,hai];rfl)))) (Zv (p:=prt (hdN a)) (by rw[List.getElem?_map,one a (List.mem_iff_getElem?.mpr ⟨i,hai⟩)];rfl)))
 rw[ZdF (g:=hdT)]at hc2
 have hc1:=Zd6 (tg:=.one 10) (f:=Zb8 cf) (it:=iSeq (Za 7)) (l:=[some (dv T),a1,a2,some (.ref (fr B 1)),some (.ref (fr B 3)),some (.ref (fr B 4)),x6,some (.ref (fr B (R.length+1+1+1+1+1))),x8,x9,x10,x11]) (σ:=HB t c N m (B++e0::.frz S::e2::.lst PL::.lst (Q.map pcP)::(R++[.lst (A.map hdT)]))) (t:=t) (c:=c) (N:=N) (m:=m) (B:=B) (R:=e0::.frz S::e2::.lst PL::.lst (Q.map pcP)::(R++[.frz (A.map hdT)])) A hdT (fun a=>.int ((hdN a).1:Nat)) (XA rfl (ZcL (R:=e0::.frz S::e2::.lst PL::.lst (Q.map pcP)::R) (X:=[]) (.inl rfl))) hAL (fun _=>rfl) (fun _ _=>rfl) (fun a _=>Zh rfl rfl rfl)
 have hc0:=Zd6 (tg:=.one 10) (f:=Zb9 cf) (it:=iSeq (Za 7)) (l:=[some (dv T),a1,a2,some (.ref (fr B 1)),some (.ref (fr B 3)),some (.ref (fr B 4)),some (.p (.int (mh:Nat))),some (.ref (fr B (R.length+1+1+1+1+1))),x8,x9,x10,x11]) (σ:=HB t c N m (B++e0::.frz S::e2::.lst PL::.lst (Q.map pcP)::(R++[.frz (A.map hdT),.lst (A.map fun a=>.int ((hdN a).1:Nat))]))) (t:=t) (c:=c) (N:=N) (m:=m) (B:=B) (R:=e0::.frz S::e2::.lst PL::.lst (Q.map pcP)::(R++[.frz (A.map hdT),.lst (A.map fun a=>.int ((hdN a).1:Nat))])) A hdT (fun a=>.int ((hdN a).2:Nat)) (XA rfl (ZcL (R:=e0::.frz S::e2::.lst PL::.lst (Q.map pcP)::R) (X:=[.lst (A.map fun a=>.int ((hdN a).1:Nat))]) (.inr rfl))) hAL (fun _=>rfl) (fun _ _=>rfl) (fun a _=>Zh rfl rfl rfl)
 have hmin:ZaZ (A.map fun a=>PyData.int ((hdN a).1:Nat))=some (A.map fun a=>(((hdN a).1:Nat):Int)):=Zcl
 obtain⟨z,zs,ez⟩:∃z zs,(A.map fun a=>(((hdN a).1:Nat):Int))=z::zs:=by
  obtain⟨a,ha,_⟩:=hm2
  cases A with
  |nil=>cases ha
  |cons a A=>exact⟨_,_,rfl⟩
 have hmn:minL z zs=((mh:Nat):Int):=by
  refine Zed (fun x hx=>?_) ?_
  ·rw[← ez]at hx
   obtain⟨a,ha,rfl⟩:=List.mem_map.mp hx
   exact Int.ofNat_le.mpr (hm1 a ha)
  ·rw[← ez]
   obtain⟨a,ha,e⟩:=hm2
   exact List.mem_map.mpr ⟨a,ha,by rw[e]⟩
 rw[ez]at hmin
 have s6:=ZV (op:=minV) hc1 (Zok (R:=e0::.frz S::e2::.lst PL::.lst (Q.map pcP)::(R++[.frz (A.map hdT)])) (X:=[]) hmin)
 have s5:=W6 (g:=Za 5) (j:=fr B 4) rfl (x_at (k:=4) rfl) (Zg7 (f:=Za 6) rfl hc0 (ZcL (R:=e0::.frz S::e2::.lst PL::.lst (Q.map pcP)::(R++[.frz (A.map hdT),.lst (A.map fun a=>.int ((hdN a).1:Nat))])) (X:=[]) (.inl rfl))) (ZeB (k:=4) (L:=Q.map pcP) rfl (by rw[List.length_map];exact Nat.lt_trans hQ (Y6 rfl)))
 rw[hmn]at s6
 simp only[List.cons_append,List.append_assoc,List.nil_append,List.set_cons_succ,List.set_cons_zero]at s6 s5
 have hq:(Q++[(mh,A.map fun a=>(hdN a).2)]).map pcP=Q.map pcP++[.tuple [.int (mh:Nat),.list (A.map fun a=>.int ((hdN a).2:Nat))]]:=by
  rw[List.map_append,List.map_cons,List.map_nil,pcP,List.map_map];rfl
 obtain⟨y9,y10,hfor⟩:=Zaj (cf:=cf) (a0:=some (dv T)) (a1:=a1) (a2:=a2) (a3:=some (.ref (fr B 1))) (a5:=some (.ref (fr B 4))) (a7:=some (.ref (fr B (R.length+1+1+1+1+1)))) (a8:=x8) (a11:=x11) (kp:=fr B 3) (mh:=mh) (A:=A) (pre:=[]) (x9:=x9) (x10:=x10) (σ:=HB t c N m (B++e0::.frz S::e2::.lst (A.map fun a=>.int (a.1.length:Nat))::.lst ((Q++[(mh,A.map fun a=>(hdN a).2)]).map pcP)::(R++[.frz (A.map hdT),.lst (A.map fun a=>.int ((hdN a).1:Nat)),.frz (A.map fun a=>.int ((hdN a).2:Nat))]))) (by rw[ZdC];rfl)
 rw[X8]at hfor
 have en2:=ZaC (l:=A) (g:=hdT) (k:=0)
 refine⟨some (.ref (fr B (R.length+1+1+1+1+1))),y9,y10,.frz (A.map hdT),.lst (A.map fun a=>.int ((hdN a).1:Nat)),.frz (A.map fun a=>.int ((hdN a).2:Nat)),?_⟩
 rw[← hS,← hPL]
 rw[← hPL]at hfor
 have s4:Z5 Zgh [Za 7] [some (dv T),a1,a2,some (.ref (fr B 1)),some (.ref (fr B 3)),some (.ref (fr B 4)),some (.p (.int (mh:Nat))),some (.ref (fr B (R.length+1+1+1+1+1))),x8,x9,x10,x11] (HB t c N m (B++e0::.frz S::e2::.lst PL::.lst ((Q++[(mh,A.map fun a=>(hdN a).2)]).map pcP)::(R++[.frz (A.map hdT),.lst (A.map fun a=>.int ((hdN a).1:Nat)),.frz (A.map fun a=>.int ((hdN a).2:Nat))])))=_:=Yd (Zc rfl Zk) (ZjR (ZcL (R:=e0::.frz S::e2::.lst PL::.lst ((Q++[(mh,A.map fun a=>(hdN a).2)]).map pcP)::R) (X:=[.lst (A.map fun a=>.int ((hdN a).1:Nat)),.frz (A.map fun a=>.int ((hdN a).2:Nat))]) (.inr rfl)))
 rw[nc0]at en2
 rw[en2]at s4
 rw[hq]at s4 hfor ⊢
 exact Zf (Zi hc2) (Zf (Zi s6) (Zf s5 (Zf (Y5 s4 hfor) rfl)))
end
end
section
theorem Zkn{α:Type}{g:α→Nat}:∀{A:List α},A≠[]→∃mh,(∀a∈A,mh≤g a)∧∃a∈A,mh=g a
 |[a],_=>⟨g a,by simp,a,by simp⟩
 |a::b::A,_=>by
  obtain⟨mh,h1,a',h2,h3⟩:=Zkn (g:=g) (A:=b::A) (by simp)
  by_cases h:mh≤g a
  ·refine⟨mh,fun x hx=>?_,a',by simp[h2],h3⟩
   rcases List.mem_cons.mp hx with rfl|hx
   ·exact h
   ·exact h1 x hx
  ·refine⟨g a,fun x hx=>?_,a,by simp,rfl⟩
   rcases List.mem_cons.mp hx with rfl|hx
   ·exact Nat.le_refl _
   ·have:=h1 x hx;exact Ar.n3 (.im (.l (.v 2) (.v 1)) (.im (.no (.l (.v 2) (.v 0))) (.l (.v 0) (.v 1)))) (by kernel_rfl) this h
theorem Pcs.congr'{F G:Nat→List Nat}:∀{q:List (Nat×List Nat)} {lo top:Nat},Pcs F lo q top→(∀x,x≤top→F x=G x)→Pcs G lo q top
 |[],_,_,h,_=>h
 |(hh,row)::q,lo,top,⟨h1,h2,h3,h4⟩,e=>⟨h1,h2,fun x a b=>by rw[← e x (by exact Ar.a3 b h2)];exact h3 x a b,h4.congr' e⟩
section
variable{t c:MObj}{N:List Nd}{m:List (P×P)}{B:Hp}{T:List Nat}{n:Nat}
inductive SpW(t c:MObj)(N:List Nd)(m:List (P×P))(B:Hp)(v top lo:Nat)(F:Nat→List Nat)(Q:List (Nat×List Nat))(o:Option (R Out×Loc×Hp)):Prop
 |mk (pcs:List (Nat×List Nat)) (l':Loc) (L':List MObj):o=some (.ok .next,l',HB t c N m (B++L'))→l'[2]?=some (some (.p (.int (v:Nat))))→l'[5]?=some (some (.ref (fr B 4)))→L'[4]?=some (.lst ((Q++pcs).map pcP))→Pcs F lo pcs top→SpW t c N m B v top lo F Q o
theorem Zbi{cf:CF}{v:Nat}(hT:Tops T)(hv:v<3){hh:Int}{b:Bool}(hd:decide (hh<((tp T v:Nat):Int))=b){a1 x3 x4 x5 x7 x8 x9 x10 x11:Option V}{σ:Hp}:
  Qw cf [some (dv T),a1,some (.p (.int (v:Nat))),x3,x4,x5,some (.p (.int hh)),x7,x8,x9,x10,x11] σ=some (.ok b,σ):=Zo rfl (Zh rfl rfl (Yv hT.len hv)) (x_dc hd)
theorem ZdL{cf:CF}{v:Nat}(hT:Tops T)(hv:v<3){a1 x8 x11:Option V}{e0 e2:MObj}(K:Nat):∀{A:List (NN×NN)} {Q:List (Nat×List Nat)} {R:List MObj} {lo:Nat} {x7 x9 x10:Option V} {so:MObj} {hh:Int},hh=(lo:Int) - 1→(∀a∈A,Rise lo a.2 (tp T v))→A≠[]→tp T v+1 - lo<K→Q.length≤lo→A.length<1000→
  (so=.lst (A.map fun a=>.tuple ((a.1++a.2).map prt))∨so=.frz (A.map fun a=>.tuple ((a.1++a.2).map prt)))→lo≤tp T v+1→
  SpW t c N m B v (tp T v) lo (fun x=>A.map fun a=>pick a.2 x) Q (Z6 (Qw cf) (Qx cf) K [some (dv T),a1,some (.p (.int (v:Nat))),some (.ref (fr B 1)),some (.ref (fr B 3)),some (.ref (fr B 4)),some (.p (.int hh)),x7,x8,x9,x10,x11] (HB t c N m (B++e0::so::e2::.lst (A.map fun a=>.int (a.1.length:Nat))::.lst (Q.map pcP)::R))):=by
 induction K with
 |zero=>exact fun _ _ _ h=>absurd h (Nat.not_lt_zero _)
 |succ K ih=>
  intro A Q R lo x7 x9 x10 so hh e hA hn hK hQ hl hso hlo
  rcases Nat.lt_or_ge lo (tp T v+1)with h|h
  ·obtain⟨mh,hm1,hm2⟩:=Zkn (g:=fun a=>(hdN a).1) hn
   have hle:=hT.le v
   obtain⟨y7,y9,y10,F1,F2,F3,hb1⟩:=Zf9 (t:=t) (c:=c) (N:=N) (m:=m) (B:=B) (T:=T) (cf:=cf) (a1:=a1) (a2:=some (.p (.int (v:Nat)))) (x6:=some (.p (.int hh))) (x7:=x7) (x8:=x8) (x9:=x9) (x10:=x10) (x11:=x11) (e0:=e0) (e2:=e2) (R:=R) (Q:=Q) hA (show lo≤tp T v by exact Ar.a2 h) hm1 hm2 (by exact Ar.n3 (.im (.l (.v 0) (.v 1)) (.im (.l (.v 2) (.k 3)) (.im (.t (.v 1) (.p (.v 2) (.k 1))) (.t (.v 0) (.k 1000))))) (by kernel_rfl) hQ hle h) hl hso
   obtain⟨s1,s2,s3,s4,s5,s6⟩:=Zjo hA (by exact Ar.a2 h) hm1 hm2
   have hd:decide (hh<((tp T v:Nat):Int))=true:=decide_eq_true (by omega)
   cases ih (A:=A.map (nxtA mh)) (Q:=Q++[(mh,A.map fun a=>(hdN a).2)]) (R:=R++[F1,F2,F3]) (lo:=mh+1) (x7:=y7) (x9:=y9) (x10:=y10) (so:=.frz (A.map fun a=>.tuple ((a.1++a.2).map prt))) (hh:=mh) (by exact Ar.n1 (.E (.c (.v 0)) (.s (.c (.p (.v 0) (.k 1))) (.k 1))) (by kernel_rfl)) s4 (fun q=>hn (List.map_eq_nil_iff.mp q)) (by exact Ar.n4 (.im (.l (.v 1) (.v 0)) (.im (.l (.v 3) (.v 1)) (.im (.t (.s (.p (.v 0) (.k 1)) (.v 3)) (.p (.v 2) (.k 1))) (.t (.s (.p (.v 0) (.k 1)) (.p (.v 1) (.k 1))) (.v 2))))) (by kernel_rfl) s2 s1 hK) (by rw[List.length_append];exact Nat.succ_le_succ (Nat.le_trans hQ s1)) (by rw[List.length_map];exact hl) (.inr (by
    congr 1
    have:=congrArg (List.map fun l:NN=>PyData.tuple (l.map prt)) s6
    rw[List.map_map,List.map_map]at this
    rw[List.map_map]at this ⊢
    exact this.symm)) (Nat.succ_le_succ s2)with
   |mk pcs l' L' i1 i2 i3 i4 i5=>
    exact⟨(mh,A.map fun a=>(hdN a).2)::pcs,l',L',x_wt (Zbi hT hv hd) hb1 i1,i2,i3,by rw[List.append_assoc]at i4;exact i4,s1,s2,s3,i5.congr fun x hx=>(s5 x hx).symm⟩
  ·have hd:decide (hh<((tp T v:Nat):Int))=false:=decide_eq_false (by omega)
   exact⟨[],_,_,x_wf (Zbi hT hv hd),rfl,rfl,by rw[List.append_nil];rfl,Nat.le_antisymm hlo h⟩
theorem ZmE{z v:Int}{zs l:List Int}(e:l=z::zs)(h1:∀x∈l,v≤x)(h2:v∈l):minL z zs=v:=Zed (e▸h1) (e▸h2)
noncomputable abbrev ksP(ks:List Nat):List P:=ks.map fun(k:Nat)=>.int (k:Int)
inductive SpR(t c:MObj)(N:List Nd)(m:List (P×P))(B:Hp)(v top:Nat)(F:Nat→List Nat)(o:Option (R V×Hp)):Prop
 |mk (pcs:List (Nat×List Nat)):o=some (.ok (.p (.tuple [.int (v:Nat),.list (pcs.map pcP)])),HB t c N m B)→Pcs F 0 pcs top→SpR t c N m B v top F o
theorem Zam{ks:List Nat}{v:Nat}(W:WF T N)(hT:Tops T)(hk:∀k∈ks,k<N.length)(hl:ks.length<1000)(h1:∀k∈ks,v≤lvl N k)(h2:∃k∈ks,lvl N k=v)(hv:v<3):
  SpR t c N m B v (tp T v) (fun x=>ks.map (cof N v x)) (Zg tab (n+3) 7 [dv T,.p (.tuple (ksP ks))] (HB t c N m B)):=by
 have hll:ks.length≤lim:=Nat.le_of_lt (Nat.lt_trans hl (Y6 rfl))
 have hc4:=QX (f:=Zb5 (Zg tab (n+2))) (t:=.one 8) (it:=iSeq (Za 1)) (σ:=HB t c N m B) (σ':=HB t c N m B) (l:=[some (dv T),some (.p (.tuple (ksP ks))),none,none,none,none,none,none,none,none,none,none]) ks (fun k=>.int (k:Int)) (fun k=>.int (lvl N k:Nat)) (fun k=>[some (dv T),some (.p (.tuple (ksP ks))),none,none,none,none,none,none,some (.p (.int (k:Int))),none,none,none]) rfl hll (fun _=>rfl) (fun _ _=>rfl) fun k hkm=>ZE rfl (Zc rfl Zk) (YY hT.len (hk k hkm))
 have hc3:=Zd6 (t:=t) (c:=c) (N:=N) (m:=m) (B:=B) (R:=[.lst (ks.map fun k=>.int (lvl N k:Nat))]) (f:=Zb6 (Zg tab (n+2))) (tg:=.one 8) (it:=iSeq (Za 1)) (σ:=HB t c N m (B++[.lst (ks.map fun k=>.int (lvl N k:Nat))])) (l:=[some (dv T),some (.p (.tuple (ksP ks))),some (.p (.int (v:Nat))),none,none,none,none,none,none,none,none,none]) ks (fun k=>.int (k:Int)) (fun k=>.tuple ((YZ N T v k).map prt)) (G:=fun k=>[some (dv T),some (.p (.tuple (ksP ks))),some (.p (.int (v:Nat))),none,none,none,none,none,some (.p (.int (k:Int))),none,none,none]) rfl hll (fun _=>rfl) (fun _ _=>rfl) fun k hkm=>Zp (Zc rfl (Zc rfl (Zc rfl Zk))) (ZcO hT.len hv (hk k hkm))
 obtain⟨a,ha,e⟩:=h2
 cases ks with
 |nil=>cases ha
 |cons k0 ks=>
 have hmn:minL (lvl N k0:Nat) (ks.map fun k=>((lvl N k:Nat):Int))=((v:Nat):Int):=ZmE (l:=(k0::ks).map fun k=>((lvl N k:Nat):Int)) rfl (fun x hx=>by
  obtain⟨a,ha,rfl⟩:=List.mem_map.mp hx
  exact Int.ofNat_le.mpr (h1 a ha)) (List.mem_map.mpr ⟨a,ha,congrArg Int.ofNat e⟩)
 have hrep:((k0::ks).map fun k=>(([],YZ N T v k):NN×NN)).map (fun a=>PyData.int (a.1.length:Nat))=List.replicate ((k0::ks).map fun k=>PyData.tuple ((YZ N T v k).map prt)).length (.int 0):=by
  rw[List.map_map]
  exact List.eq_replicate_iff.mpr ⟨by rw[List.length_map,List.length_map],fun b hb=>by obtain⟨k,_,rfl⟩:=List.mem_map.mp hb;rfl⟩
 have w:=ZdL (t:=t) (c:=c) (N:=N) (m:=m) (B:=B) (cf:=Zg tab (n+2)) hT hv (a1:=some (.p (.tuple (ksP (k0::ks))))) (x7:=none) (x8:=none) (x9:=none) (x10:=none) (x11:=none) (e0:=.lst ((k0::ks).map fun k=>.int (lvl N k:Nat))) (e2:=.lst [.int 0]) lim (A:=(k0::ks).map fun k=>([],YZ N T v k)) (Q:=[]) (R:=[]) (lo:=0) (hh:= -1) (so:=.lst ((k0::ks).map fun k=>.tuple ((YZ N T v k).map prt))) (by decide) (fun a ha=>by
   obtain⟨k,hk,rfl⟩:=List.mem_map.mp ha
   exact ZcV W) (fun q=>nomatch List.map_eq_nil_iff.mp q) (by have:=hT.le v;have:=ZO;exact Ar.a217 this (by assumption)) (Nat.le_refl _) (by rw[List.length_map];exact hl) (.inl (by rw[List.map_map];rfl)) (Nat.zero_le _)
 rw[hrep]at w
 cases w with|mk pcs l' L' i1 i2 i3 i4 i5=>
 have fin:Za 5 l' (HB t c N m (B++L'))=some (.ok (.ref (fr B 4)),HB t c N m (B++L')):=by unfold Za;rw[i3];rfl
 have fin2:Za 2 l' (HB t c N m (B++L'))=some (.ok (.p (.int (v:Nat))),HB t c N m (B++L')):=by unfold Za;rw[i2];rfl
 refine⟨pcs,Zn rfl rfl (Zf (Zi (ZV hc4 (h_l1 (l_of (x_at (R:=[.lst ((k0::ks).map fun k=>.int (lvl N k:Nat))]) (k:=0) rfl)) ?_))) (Zf (Zi hc3) (Zf (Zi (Zh (ZeD rfl) (ZV rfl (Qj (k:=1) rfl)) (ZjP (k:=2) rfl ?_))) (Zf (Zi ZjQ) (Zf (Zi rfl) (Zf ?_ (ZG (Zg7 fin2 fin (Q3 i4))))))))) (ZI rfl),i5.congr' fun x hx=>by
  rw[List.map_map]
  exact List.map_congr_left fun k _=>ZcW W hx⟩
 ·have e:=Zcl (l:=k0::ks) (g:=fun k=>((lvl N k:Nat):Int))
  rw[e]
  exact congrArg (fun z=>some (R.ok (V.p (.int z)),HB t c N m (B++[.lst ((k0::ks).map fun k=>.int (lvl N k:Nat))]))) hmn
 ·rw[List.length_map];exact Nat.le_of_lt hl
 ·exact i1
end
end
section
inductive Ky where
 |ch (c y e:Nat)
 |re (n:Nat) (v:P) (b:Nat)
noncomputable def kyP:Ky→P
 | .ch c y e=>.tuple [.int c,.int y,.int e]
 | .re n v b=>.tuple [.str "leaf",.int n,v,.int b]
noncomputable def kyNs:Ky→List Nat
 | .ch c y e=>[c,y,e]
 | .re n _ b=>[n,b]
noncomputable def kyAt:Ky→Prop
 | .ch ..=>True
 | .re _ v _=>ZK v=true
noncomputable def kyV(N:List Nd)(f:Nat→Nat):Ky→P
 | .ch c y e=>if PyData.eqv (sem N f c) (.int 1)then sem N f y else sem N f e
 | .re n v b=>if PyData.eqv (sem N f n) v then sem N f b else sem N f n
noncomputable def kyL(N:List Nd):Ky→Nat
 | .ch c y e=>min (lvl N c) (min (lvl N y) (lvl N e))
 | .re n _ b=>min (lvl N n) (lvl N b)
noncomputable def mapK(h:Nat→Nat):Ky→Ky
 | .ch c y e=>.ch (h c) (h y) (h e)
 | .re n v b=>.re (h n) v (h b)
noncomputable def memP(M:List (Ky×Nat)):List (P×P):=M.map fun x=>(kyP x.1,.int x.2)
theorem Qq{h:Nat→Nat}{K:Ky}:kyNs (mapK h K)=(kyNs K).map h:=by cases K<;>rfl
theorem Zhy{h h':Nat→Nat}{K:Ky}(e:kyNs (mapK h K)=kyNs (mapK h' K)):mapK h K=mapK h' K:=by
 cases K<;>simp_all [mapK,kyNs]
theorem Zbz{N:List Nd}{K:Ky}:∀k∈kyNs K,kyL N K≤lvl N k:=by
 cases K<;>simp only[kyNs,kyL,List.mem_cons,List.not_mem_nil,or_false]
 ·rintro k (rfl|rfl|rfl)<;>(first|exact Ar.n3 (.l (.mn (.v 0) (.mn (.v 1) (.v 2))) (.v 0)) (by kernel_rfl)|exact Ar.n3 (.l (.mn (.v 0) (.mn (.v 1) (.v 2))) (.v 1)) (by kernel_rfl)|exact Ar.n3 (.l (.mn (.v 0) (.mn (.v 1) (.v 2))) (.v 2)) (by kernel_rfl))
 ·rintro k (rfl|rfl)<;>(first|exact Ar.n2 (.l (.mn (.v 0) (.v 1)) (.v 0)) (by kernel_rfl)|exact Ar.a117)
theorem Zfd{N:List Nd}{K:Ky}:∃k∈kyNs K,lvl N k=kyL N K:=by
 cases K with
 |ch c y e=>
  simp only[kyNs,kyL,List.mem_cons,List.not_mem_nil,or_false]
  by_cases h1:lvl N c≤min (lvl N y) (lvl N e)
  ·exact⟨c,.inl rfl,by exact Ar.n3 (.im (.l (.v 0) (.mn (.v 1) (.v 2))) (.e (.v 0) (.mn (.v 0) (.mn (.v 1) (.v 2))))) (by kernel_rfl) h1⟩
  ·by_cases h2:lvl N y≤lvl N e
   ·exact⟨y,.inr (.inl rfl),by exact Ar.n3 (.im (.l (.v 0) (.v 2)) (.im (.no (.l (.v 1) (.mn (.v 0) (.v 2)))) (.e (.v 0) (.mn (.v 1) (.mn (.v 0) (.v 2)))))) (by kernel_rfl) h2 h1⟩
   ·exact⟨e,.inr (.inr rfl),by exact Ar.n3 (.im (.no (.l (.v 1) (.mn (.v 2) (.v 0)))) (.im (.no (.l (.v 2) (.v 0))) (.e (.v 0) (.mn (.v 1) (.mn (.v 2) (.v 0)))))) (by kernel_rfl) h1 h2⟩
 |re n v b=>
  simp only[kyNs,kyL,List.mem_cons,List.not_mem_nil,or_false]
  by_cases h2:lvl N n≤lvl N b
  ·exact⟨n,.inl rfl,by exact Ar.n2 (.im (.l (.v 0) (.v 1)) (.e (.v 0) (.mn (.v 0) (.v 1)))) (by kernel_rfl) h2⟩
  ·exact⟨b,.inr rfl,by exact Ar.n2 (.im (.no (.l (.v 1) (.v 0))) (.e (.v 0) (.mn (.v 1) (.v 0)))) (by kernel_rfl) h2⟩
theorem Zl1{N:List Nd}{f h:Nat→Nat}{K:Ky}(e:∀k∈kyNs K,sem N f (h k)=sem N f k):kyV N f (mapK h K)=kyV N f K:=by
 cases K<;>simp only[kyNs,List.mem_cons,List.not_mem_nil,or_false,forall_eq_or_imp,forall_eq]at e<;>simp only[mapK,kyV,e]
theorem Zen{N E:List Nd}{f:Nat→Nat}{K:Ky}(h:∀k∈kyNs K,k<N.length):kyV (N++E) f K=kyV N f K:=by
 cases K<;>simp only[kyNs,List.mem_cons,List.not_mem_nil,or_false,forall_eq_or_imp,forall_eq]at h
 ·simp only[kyV,YN h.1,YN h.2.1,YN h.2.2]
 ·simp only[kyV,YN h.1,YN h.2]
theorem Zci{N E:List Nd}{K:Ky}(h:∀k∈kyNs K,k<N.length):kyL (N++E) K=kyL N K:=by
 cases K<;>simp only[kyNs,List.mem_cons,List.not_mem_nil,or_false,forall_eq_or_imp,forall_eq]at h
 ·simp only[kyL,Wa h.1,Wa h.2.1,Wa h.2.2]
 ·simp only[kyL,Wa h.1,Wa h.2]
theorem Wq{K:Ky}(h:kyAt K):good (kyP K)=true:=by
 cases K with
 |ch c y e=>simp[kyP,good,goodAll]
 |re n v b=>simp[kyP,good,goodAll,YG h]
theorem ZhA{a b:Ky}(h:kyP a=kyP b):a=b:=by
 cases a<;>cases b<;>simp_all [kyP]<;>omega
theorem Zh9{K:Ky}(h:kyAt K):Ym (kyP K)=true:=by
 cases K with
 |ch c y e=>simp[kyP,Ym,Zb1,ZK]
 |re n v b=>cases v<;>simp_all [kyP,Ym,Zb1,ZK,kyAt]
structure MOk(T:List Nat)(N:List Nd)(M:List (Ky×Nat)):Prop where
 all:∀x∈M,(∀k∈kyNs x.1,k<N.length)∧kyAt x.1∧x.2<N.length∧kyL N x.1≤lvl N x.2∧∀f,Fit T f→sem N f x.2=kyV N f x.1
theorem MOk.app{T:List Nat}{N E:List Nd}{M:List (Ky×Nat)}(h:MOk T N M):MOk T (N++E) M:=⟨fun x hx=>by
 obtain⟨h1,h2,h3,h4,h5⟩:=h.all x hx
 refine⟨fun k hk=>by have:=h1 k hk;simp;exact Ar.a66 this,h2,by simp;exact Ar.a66 h3,by rw[Zci h1,Wa h3];exact h4,fun f hf=>by rw[YN h3,Zen h1];exact h5 f hf⟩⟩
theorem Zcg{K:Ky}(hK:kyAt K):∀{M:List (Ky×Nat)},(∀x∈M,kyAt x.1)→ZP (kyP K) (memP M)=none∨∃r,(K,r)∈M∧ZP (kyP K) (memP M)=some (.int (r:Nat))
 |[],_=>.inl rfl
 |x::M,h=>by
  have hx:=h x (by simp)
  rw[memP,List.map_cons,ZP]
  dsimp only
  split
  ·rename_i e
   have:=ZhA ((XM _ _ (Wq hx) (Wq hK)).mp e)
   exact .inr ⟨x.2,by rw[← this];simp,rfl⟩
  ·rcases Zcg hK (M:=M) (fun y hy=>h y (by simp[hy]))with e|⟨r,hr,e⟩
   ·exact .inl e
   ·exact .inr ⟨r,by simp[hr],e⟩
theorem Zeg{K:Ky}{r:Nat}(hK:kyAt K):∀{M:List (Ky×Nat)},(∀x∈M,kyAt x.1)→∃M',putD (kyP K) (.int (r:Nat)) (memP M)=memP M'∧(∀x∈M',x∈M∨x=(K,r))∧M'.length≤M.length+1∧ZP (kyP K) (memP M')=some (.int (r:Nat))
 |[],_=>⟨[(K,r)],rfl,by simp,by simp,by simp[memP,ZP,Yr (Wq hK)]⟩
 |x::M,h=>by
  have hx:=h x (by simp)
  rw[memP,List.map_cons,putD]
  dsimp only
  split
  ·rename_i e
   have:=ZhA ((XM _ _ (Wq hx) (Wq hK)).mp e)
   refine⟨(K,r)::M,by rw[this];rfl,fun y hy=>?_,by simp,by simp[memP,ZP,Yr (Wq hK)]⟩
   rcases List.mem_cons.mp hy with rfl|hy
   ·exact .inr rfl
   ·exact .inl (by simp[hy])
  ·rename_i e
   obtain⟨M',e1,e2,e3,e4⟩:=Zeg (r:=r) hK (M:=M) (fun y hy=>h y (by simp[hy]))
   refine⟨x::M',by rw[show List.map (fun x:Ky×Nat=>(kyP x.1,PyData.int x.2)) M=memP M from rfl,e1];rfl,fun y hy=>?_,by simp;exact Ar.a67 e3,?_⟩
   ·rcases List.mem_cons.mp hy with rfl|hy
    ·exact .inl (by simp)
    ·rcases e2 y hy with h|h
     ·exact .inl (by simp[h])
     ·exact .inr h
   ·rw[memP,List.map_cons,ZP,if_neg e];exact e4
structure Grow(T:List Nat)(N:List Nd)(M:List (Ky×Nat))(N':List Nd)(M':List (Ky×Nat))(g:Nat):Prop where
 ext:∃E,N'=N++E∧E.length≤g
 mem:M'.length≤M.length+g
 wf:WF T N'
 mok:MOk T N' M'
section
variable{T:List Nat}{N N' N2:List Nd}{M M' M2:List (Ky×Nat)}{g g':Nat}
theorem Grow.refl(W:WF T N)(O:MOk T N M)(g:Nat):Grow T N M N M g:=⟨⟨[],by simp,by simp⟩,by exact Ar.a35,W,O⟩
theorem Grow.trans(a:Grow T N M N' M' g)(b:Grow T N' M' N2 M2 g'):Grow T N M N2 M2 (g+g'):=by
 obtain⟨E,e,l⟩:=a.ext
 obtain⟨E',e',l'⟩:=b.ext
 have h1:=a.mem
 have h2:=b.mem
 exact⟨⟨E++E',by rw[e',e,List.append_assoc],by simp;exact Ar.n4 (.im (.l (.v 0) (.v 2)) (.im (.l (.v 1) (.v 3)) (.l (.p (.v 0) (.v 1)) (.p (.v 2) (.v 3))))) (by kernel_rfl) l l'⟩,by exact Ar.n5 (.im (.l (.v 0) (.p (.v 4) (.v 3))) (.im (.l (.v 4) (.p (.v 1) (.v 2))) (.l (.v 0) (.p (.v 1) (.p (.v 2) (.v 3)))))) (by kernel_rfl) h2 h1,b.wf,b.mok⟩
theorem Grow.weak(a:Grow T N M N' M' g)(h:g≤g'):Grow T N M N' M' g':=by
 obtain⟨E,e,l⟩:=a.ext
 have h1:=a.mem
 exact⟨⟨E,e,by exact Ar.a3 l h⟩,by exact Ar.n4 (.im (.l (.v 0) (.p (.v 1) (.v 3))) (.im (.l (.v 3) (.v 2)) (.l (.v 0) (.p (.v 1) (.v 2))))) (by kernel_rfl) h1 h,a.wf,a.mok⟩
theorem Grow.len(a:Grow T N M N' M' g):N.length≤N'.length∧N'.length≤N.length+g:=by
 obtain⟨E,e,l⟩:=a.ext
 rw[e,List.length_append];exact Ar.n3 (.im (.l (.v 1) (.v 2)) (.an (.l (.v 0) (.p (.v 0) (.v 1))) (.l (.p (.v 0) (.v 1)) (.p (.v 0) (.v 2))))) (by kernel_rfl) l
theorem Grow.lvl(a:Grow T N M N' M' g){k:Nat}(h:k<N.length):Mine.lvl N' k=Mine.lvl N k:=by
 obtain⟨E,e,l⟩:=a.ext
 rw[e,Wa h]
theorem Grow.sem(a:Grow T N M N' M' g){k:Nat}{f:Nat→Nat}(h:k<N.length):Mine.sem N' f k=Mine.sem N f k:=by
 obtain⟨E,e,l⟩:=a.ext
 rw[e,YN h]
theorem Grow.cof(a:Grow T N M N' M' g){k i x:Nat}(h:k<N.length):Mine.cof N' i x k=Mine.cof N i x k:=by
 obtain⟨E,e,l⟩:=a.ext
 rw[e,Zim h]
theorem Grow.kyV(a:Grow T N M N' M' g){K:Ky}{f:Nat→Nat}(h:∀k∈kyNs K,k<N.length):Mine.kyV N' f K=Mine.kyV N f K:=by
 obtain⟨E,e,l⟩:=a.ext
 rw[e,Zen h]
theorem Grow.kyL(a:Grow T N M N' M' g){K:Ky}(h:∀k∈kyNs K,k<N.length):Mine.kyL N' K=Mine.kyL N K:=by
 obtain⟨E,e,l⟩:=a.ext
 rw[e,Zci h]
end
structure Res(T:List Nat)(K:Ky)(N':List Nd)(r:Nat):Prop where
 lt:r<N'.length
 lv:kyL N' K≤lvl N' r
 sm:∀f,Fit T f→sem N' f r=kyV N' f K
noncomputable def cap:Nat:=90000
section
variable{t c:MObj}{B:Hp}{T:List Nat}
theorem Zhk{f:Fn}{tg:Tg}{G:Nat×List Nat→Loc}{F:Nat→Ky}{u g top:Nat}(hF:∀x y,kyNs (F x)=kyNs (F y)→F x=F y)(hG:∀a b,ZX tg (pcP b) (G a)=some (G b))
  (hs:∀x h N M,x≤top→WF T N→MOk T N M→(∀k∈kyNs (F x),k<N.length)→u≤kyL N (F x)→N.length+g≤cap→M.length+g≤cap→∃N' M' r,f (G (h,kyNs (F x))) (HB t c N (memP M) B)=some (.ok (.p (prt (h,r))),HB t c N' (memP M') B)∧Grow T N M N' M' g∧Res T (F x) N' r):
  ∀{pcs:List (Nat×List Nat)} {lo:Nat} {l:Loc} {N:List Nd} {M:List (Ky×Nat)},Pcs (fun x=>kyNs (F x)) lo pcs top→(∀a,ZX tg (pcP a) l=some (G a))→WF T N→MOk T N M→(∀x,x≤top→(∀k∈kyNs (F x),k<N.length)∧u≤kyL N (F x))→N.length+pcs.length*g≤cap→M.length+pcs.length*g≤cap→
  ∃ps N' M',Y2 tg ZM f l (pcs.map pcP) (HB t c N (memP M) B)=some (.ok (ps.map prt),HB t c N' (memP M') B)∧Grow T N M N' M' (pcs.length*g)∧Rise lo ps top∧ps.length=pcs.length∧(∀x,lo≤x→x≤top→∀f,Fit T f→sem N' f (pick ps x)=kyV N' f (F x))∧∀q∈ps,q.2<N'.length∧u≤lvl N' q.2
 |[],lo,l,N,M,hp,hl,W,O,hk,hN,hM=>⟨[],N,M,rfl,Grow.refl W O _,hp,rfl,fun x h1 h2=>by unfold Pcs at hp;exact False.elim (Ar.a44 hp h1 h2),by simp⟩
 |(h,row)::pcs,lo,l,N,M,hp,hl,W,O,hk,hN,hM=>by
  obtain⟨p1,p2,p3,p4⟩:=hp
  have p3:∀x,lo≤x→x≤h→kyNs (F x)=row:=p3
  simp only[List.length_cons,Nat.succ_mul]at hN hM
  obtain⟨k1,k2⟩:=hk lo (by exact Ar.a3 p1 p2)
  obtain⟨N1,M1,r,e1,g1,r1⟩:=hs lo h N M (by exact Ar.a3 p1 p2) W O k1 k2 (by exact Ar.a118 hN) (by exact Ar.a118 hM)
  have gl:=g1.len
  have gm:=g1.mem
  obtain⟨ps,N2,M2,e2,g2,s1,s2,s3,s4⟩:=Zhk hF hG hs (l:=G (h,row)) (N:=N1) (M:=M1) p4 (fun b=>hG _ b) g1.wf g1.mok (fun x hx=>⟨fun k hk'=>by have:=(hk x hx).1 k hk';exact Ar.a68 gl this,by rw[g1.kyL (hk x hx).1];exact(hk x hx).2⟩) (by exact Ar.a233 gl hN) (by exact Ar.a234 hM gm)
  refine⟨(h,r)::ps,N2,M2,?_,?_,⟨p1,p2,s1⟩,by simp[s2],?_,?_⟩
  ·rw[p3 lo (Nat.le_refl _) p1]at e1
   simp only[List.map_cons,Y2,hl,hb,ne,ZM,hp,if_true,e1,Zo8,e2]
  ·rw[List.length_cons,Nat.succ_mul,Nat.add_comm];exact g1.trans g2
  ·intro x h1 h2 f hf
   unfold pick
   split
   ·rename_i hx
    rw[g2.sem r1.lt,r1.sm f hf,← g2.kyV (fun k hk'=>by have:=k1 k hk';exact Ar.a68 gl this),hF x lo ((p3 x h1 hx).trans (p3 lo (Nat.le_refl _) p1).symm)]
   ·exact s3 x (by exact Ar.a14 (by assumption)) h2 f hf
  ·intro q hq
   rcases List.mem_cons.mp hq with rfl|hq
   ·have:=g2.len
    have r2:=r1.lt
    refine⟨by dsimp only;exact Ar.a68 this r2,?_⟩
    rw[g2.lvl r1.lt]
    have:=r1.lv
    rw[g1.kyL k1]at this
    omega
   ·exact s4 q hq
theorem ZhB{N N1 N2:List Nd}{M M1:List (Ky×Nat)}{K:Ky}{v g r:Nat}{ps:List (Nat×Nat)}(W:WF T N)(hk:∀k∈kyNs K,k<N.length)(hv:kyL N K=v)(hv3:v<3)(gr:Grow T N M N1 M1 g)
  (hp:∀x,x≤tp T v→∀f,Fit T f→sem N1 f (pick ps x)=kyV N1 f (mapK (cof N v x) K)) (hps:Rise 0 ps (tp T v)) (hps2:∀q∈ps,q.2<N1.length) (mk:Made T N1 v ps N2 r):Res T K N2 r:=by
 obtain⟨E,e,l⟩:=gr.ext
 obtain⟨E2,e2,l2⟩:=mk.ext
 subst e e2
 have hk1:∀k∈kyNs K,k<(N++E).length:=fun k h=>by have:=hk k h;simp;exact Ar.a66 this
 refine⟨mk.lt,?_,fun f hf=>?_⟩
 ·rw[Zci hk1,Zci hk,hv];exact mk.lv
 ·rw[← XE mk.wf hf (i:=v),mk.pk _ (hf v)]
  obtain⟨y,hy⟩:=YD hps (Nat.zero_le _) (hf v)
  rw[YN (hps2 _ hy),hp _ (hf v) f hf,Zen hk1]
  refine Zl1 fun k h=>?_
  rw[← Zim (E:=E) (hk k h)]
  exact XE gr.wf hf
end
end
section
noncomputable def z0:Nat→Nat:=fun _=>0
noncomputable def tblD(N:List Nd)(T:List Nat):Nat→Nat→List P
 |0,n=>[sem N z0 n]
 |d+1,n=>(List.range (tp T (2 - d)+1)).flatMap fun x=>tblD N T d (cof N (2 - d) x n)
noncomputable def wid(T:List Nat):Nat→Nat
 |0=>1
 |d+1=>wid T d*(tp T (2 - d)+1)
theorem Zct{α β:Type}{f:α→List β}{w:Nat}(h:∀x,(f x).length=w):∀(l:List α),(l.flatMap f).length=w*l.length
 |[]=>by simp
 |x::l=>by rw[List.flatMap_cons,List.length_append,h,Zct h l,List.length_cons,Nat.mul_succ];exact Ar.n2 (.e (.p (.v 0) (.v 1)) (.p (.v 1) (.v 0))) (by kernel_rfl)
theorem Zfl{α β:Type}{f:α→List β}{w:Nat}(h:∀x,(f x).length=w):∀{l:List α} {k:Nat} {a:α},l[k]?=some a→((l.flatMap f).drop (w*k)).take w=f a
 |x::l,0,a,e=>by
  simp at e;subst e
  rw[List.flatMap_cons,Nat.mul_zero,List.drop_zero,List.take_left' (h x)]
 |x::l,k+1,a,e=>by
  rw[List.flatMap_cons,Nat.mul_succ,Nat.add_comm,← List.drop_drop,List.drop_left' (h x)]
  exact Zfl h (by simpa using e)
section
variable{T:List Nat}{N:List Nd}{f g:Nat→Nat}
theorem W8:∀(d n:Nat),(tblD N T d n).length=wid T d
 |0,_=>rfl
 |d+1,n=>by rw[tblD,Zct (w:=wid T d) (fun x=>W8 d _),List.length_range,wid]
theorem ZgH:∀(d:Nat),0<wid T d
 |0=>by simp[wid]
 |d+1=>by rw[wid];exact Nat.mul_pos (ZgH d) (Nat.succ_pos _)
theorem Zah{d n k:Nat}(hk:k≤tp T (2 - d)):((tblD N T (d+1) n).drop (wid T d*k)).take (wid T d)=tblD N T d (cof N (2 - d) k n):=by
 rw[tblD]
 exact Zfl (f:=fun x=>tblD N T d (cof N (2 - d) x n)) (fun x=>W8 d _) (by rw[List.getElem?_range (by exact Ar.a31 hk)])
theorem QQ(W:WF T N)(hf:Fit T f):∀{n:Nat},n<N.length→ZK (sem N f n)=true:=by
 intro n
 induction n using Nat.strongRecOn with
 |_ n ih=>
 intro hn
 rcases Z4 W hn with⟨v,h1,h2,h3⟩|⟨j,ps,h1,h2,h3,r,a,h4,k⟩
 ·rw[Z1 h1];exact h3
 ·obtain⟨y,hy⟩:=YD r (Nat.zero_le _) (hf j)
  rw[WH W h1 (hf j)]
  have:=(k _ hy).1
  exact ih _ this (by exact Ar.a19 this hn)
theorem QP(W:WF T N):∀(d n:Nat),n<N.length→∀x∈tblD N T d n,ZK x=true
 |0,n,hn,x,hx=>by rw[List.mem_singleton.mp hx];exact QQ W Zfm hn
 |d+1,n,hn,x,hx=>by
  rw[tblD]at hx
  obtain⟨y,hy,hx⟩:=List.mem_flatMap.mp hx
  exact QP W d _ (YK W hn (by simp at hy;exact Ar.a2 hy)) x hx
theorem Xp{v x n:Nat}(h:v<lvl N n):cof N v x n=n:=by
 unfold cof
 split
 ·rename_i j ps e;rw[Zay e]at h;rw[if_neg (by exact Ar.a182 h)]
 ·rfl
theorem Zil{j x n:Nat}{ps:List (Nat×Nat)}(e:N[n]?=some (.br j ps)):cof N j x n=pick ps x:=by
 unfold cof;rw[e];simp
theorem ZjE(W:WF T N){n:Nat}(hn:n<N.length)(h:lvl N n<3):∃x,x≤tp T (lvl N n)∧cof N (lvl N n) x n≠cof N (lvl N n) 0 n:=by
 rcases Z4 W hn with⟨v,h1,h2,_⟩|⟨j,ps,h1,h2,h3,r,a,h4,k⟩
 ·exact False.elim (Ar.a167 h2 h)
 ·rw[h2]
  match ps,h1,r,a,h4,k with
  |(x,c)::(x',c')::ps,h1,r,a,h4,k=>
   obtain⟨r1,r2,r3,r4,r5⟩:=r
   refine⟨x+1,by exact Ar.a25 r3 r4,?_⟩
   rw[Zil h1,Zil h1]
   have p1:pick ((x,c)::(x',c')::ps) 0=c:=by simp[pick]
   have p2:pick ((x,c)::(x',c')::ps) (x+1)=c':=by simp only[pick];rw[if_neg (by exact Ar.a15),if_pos r3]
   rw[p1,p2]
   exact a.1.symm
theorem XG(W:WF T N){n:Nat}(hn:n<N.length)(h:3≤lvl N n):∃v,N[n]?=some (.leaf v)∧ZK v=true:=by
 rcases Z4 W hn with⟨v,h1,h2,h3⟩|⟨j,ps,h1,h2,h3,r,a,h4,k⟩
 ·exact⟨v,h1,h3⟩
 ·exact False.elim (Ar.n2 (.im (.e (.v 0) (.v 1)) (.im (.l (.k 3) (.v 0)) (.im (.t (.v 1) (.k 3)) .ff))) (by kernel_rfl) h2 h h3)
theorem Zai(W:WF T N):∀{d n m:Nat},d≤3→n<N.length→m<N.length→3 - d≤lvl N n→3 - d≤lvl N m→tblD N T d n=tblD N T d m→n=m
 |0,n,m,_,hn,hm,ln,lm,e=>by
  obtain⟨v,h1,_⟩:=XG W hn (by exact Ar.a32 ln)
  obtain⟨v',h1',_⟩:=XG W hm (by exact Ar.a32 lm)
  simp only[tblD,List.cons.injEq,and_true]at e
  refine canon W hn hm fun f hf=>?_
  rw[Z1 h1,Z1 h1']at e ⊢
  exact e
 |d+1,n,m,hd,hn,hm,ln,lm,e=>by
  refine canon W hn hm fun f hf=>?_
  rw[← XE W hf (n:=n) (i:=2 - d),← XE W hf (n:=m) (i:=2 - d)]
  have hx:=hf (2 - d)
  rw[Zai W (d:=d) (by exact Ar.a21 hd) (YK W hn hx) (YK W hm hx) ?_ ?_ ?_]
  ·have:=YC W hn (i:=2 - d) (by exact Ar.a38 ln) (by exact Ar.a7) hx;exact Ar.a18 this
  ·have:=YC W hm (i:=2 - d) (by exact Ar.a38 lm) (by exact Ar.a7) hx;exact Ar.a18 this
  ·have:=congrArg (fun l=>(l.drop (wid T d*f (2 - d))).take (wid T d)) e
   try dsimp only at this
   rwa [Zah hx,Zah hx]at this
theorem ZiF(W:WF T N){d n:Nat}(hd:d<3)(hn:n<N.length)(h:2 - d≤lvl N n):(∀x,x≤tp T (2 - d)→tblD N T d (cof N (2 - d) x n)=tblD N T d (cof N (2 - d) 0 n))↔2 - d<lvl N n:=by
 constructor
 ·intro a
  rcases Nat.lt_or_ge (2 - d) (lvl N n)with h'|h'
  ·exact h'
  ·exfalso
   have e:lvl N n=2 - d:=by exact Ar.n2 (.im (.l (.s (.k 2) (.v 1)) (.v 0)) (.im (.l (.v 0) (.s (.k 2) (.v 1))) (.e (.v 0) (.s (.k 2) (.v 1))))) (by kernel_rfl) h h'
   obtain⟨x,hx,hne⟩:=ZjE W hn (by exact Ar.n2 (.im (.e (.v 0) (.s (.k 2) (.v 1))) (.t (.v 0) (.k 3))) (by kernel_rfl) e)
   rw[e]at hx hne
   have l1:=YC W hn h (by exact Ar.a7) hx
   have l2:=YC W hn h (by exact Ar.a7) (Nat.zero_le (tp T (2 - d)))
   exact hne (Zai W (by exact Ar.a161 hd) (YK W hn hx) (YK W hn (Nat.zero_le _)) (by exact Ar.a18 l1) (by exact Ar.a18 l2) (a x hx))
 ·intro a x _
  rw[Xp a,Xp a]
noncomputable def Zw(T:List Nat):Nat→List Nat→List (List Nat)
 |0,pre=>[pre]
 |d+1,pre=>(List.range (tp T (2 - d)+1)).flatMap fun x=>Zw T d (pre++[x])
noncomputable def asg(l:List Nat):Nat→Nat:=fun i=>l.getD i 0
theorem ZiO(W:WF T N){n:Nat}(hn:n<N.length)(h:3≤lvl N n):sem N f n=sem N g n:=by
 obtain⟨v,h1,_⟩:=XG W hn h
 rw[Z1 h1,Z1 h1]
theorem ZcJ(W:WF T N):∀{d n:Nat} {pre:List Nat},d≤3→n<N.length→3 - d≤lvl N n→pre.length=3 - d→(∀i,pre.getD i 0≤tp T i)→tblD N T d n=(Zw T d pre).map fun c=>sem N (asg c) n
 |0,n,pre,_,hn,ln,hp,_=>by
  simp only[tblD,Zw,List.map_cons,List.map_nil,List.cons.injEq,and_true]
  exact ZiO W hn (by exact Ar.a32 ln)
 |d+1,n,pre,hd,hn,ln,hp,hpre=>by
  simp only[tblD,Zw,List.map_flatMap]
  have key:∀x,x∈List.range (tp T (2 - d)+1)→tblD N T d (cof N (2 - d) x n)=(Zw T d (pre++[x])).map fun c=>sem N (asg c) n:=fun x hx=>by
   have hx:x≤tp T (2 - d):=by simp at hx;exact Ar.a2 hx
   have lc:=YC W hn (i:=2 - d) (by exact Ar.a38 ln) (by exact Ar.a7) hx
   have hpre':∀i,(pre++[x]).getD i 0≤tp T i:=fun i=>by
    rcases Nat.lt_trichotomy i pre.length with h|h|h
    ·have:=hpre i
     simpa[List.getD,List.getElem?_append_left h]using this
    ·subst h;simp[List.getD];rw[hp];rw[show 3 - (d+1)=2 - d by exact Ar.a51];exact hx
    ·simp only[List.getD]
     rw[List.getElem?_eq_none (by simp;exact Ar.a5 h)]
     simp
   rw[ZcJ W (pre:=pre++[x]) (by exact Ar.a21 hd) (YK W hn hx) (by exact Ar.a18 lc) (by simp;exact Ar.a57 hp hd) hpre']
   refine List.map_congr_left fun c hc=>?_
   have sub:∀{d:Nat} {q c:List Nat} {i:Nat},i<q.length→c∈Zw T d q→c.getD i 0=q.getD i 0:=by
    intro d
    induction d with
    |zero=>intro q c i hi hc;rw[List.mem_singleton.mp hc]
    |succ d ih=>
     intro q c i hi hc
     rw[Zw]at hc
     obtain⟨y,_,hc⟩:=List.mem_flatMap.mp hc
     rw[ih (by simp;exact Ar.a148 hi) hc]
     simp[List.getD,List.getElem?_append_left hi]
   have fitc:∀{d:Nat} {q c:List Nat},d≤3→q.length=3 - d→Fit T (asg q)→c∈Zw T d q→Fit T (asg c):=by
    intro d
    induction d with
    |zero=>intro q c _ _ hq hc;rw[List.mem_singleton.mp hc];exact hq
    |succ d ih=>
     intro q c hd hl hq hc
     rw[Zw]at hc
     obtain⟨y,hy,hc⟩:=List.mem_flatMap.mp hc
     refine ih (by exact Ar.a21 hd) (by simp;exact Ar.a57 hl hd) (fun i=>?_) hc
     have hy:y≤tp T (2 - d):=by simp at hy;exact Ar.a2 hy
     unfold asg
     rcases Nat.lt_trichotomy i q.length with h|h|h
     ·have:=hq i
      unfold asg at this
      simpa[List.getD,List.getElem?_append_left h]using this
     ·subst h;simp[List.getD];rw[hl];rw[show 3 - (d+1)=2 - d by exact Ar.a51];exact hy
     ·simp only[List.getD]
      rw[List.getElem?_eq_none (by simp;exact Ar.a5 h)]
      simp
   have e:asg c (2 - d)=x:=by
    unfold asg
    rw[sub (i:=2 - d) (by simp;exact Ar.n2 (.im (.e (.v 1) (.s (.k 3) (.p (.v 0) (.k 1)))) (.t (.s (.k 2) (.v 0)) (.p (.v 1) (.k 1)))) (by kernel_rfl) hp) hc]
    simp only[List.getD]
    rw[List.getElem?_append_right (by exact Ar.n2 (.im (.e (.v 0) (.s (.k 3) (.p (.v 1) (.k 1)))) (.l (.v 0) (.s (.k 2) (.v 1)))) (by kernel_rfl) hp),show 2 - d - pre.length=0 by exact Ar.n2 (.im (.e (.v 1) (.s (.k 3) (.p (.v 0) (.k 1)))) (.e (.s (.s (.k 2) (.v 0)) (.v 1)) (.k 0))) (by kernel_rfl) hp]
    simp
   have:=XE W (f:=asg c) (n:=n) (i:=2 - d) (fitc (by exact Ar.a21 hd) (by simp;exact Ar.a57 hp hd) hpre' hc)
   rw[e]at this
   exact this
  rw[List.flatMap_def,List.flatMap_def]
  exact congrArg List.flatten (List.map_congr_left key)
theorem Zip:∀{d:Nat} {q c:List Nat},d≤3→q.length=3 - d→Fit T (asg q)→c∈Zw T d q→Fit T (asg c)∧c.length=3:=by
 intro d
 induction d with
 |zero=>intro q c _ hl hq hc;rw[List.mem_singleton.mp hc];exact⟨hq,hl⟩
 |succ d ih=>
  intro q c hd hl hq hc
  rw[Zw]at hc
  obtain⟨y,hy,hc⟩:=List.mem_flatMap.mp hc
  refine ih (by exact Ar.a21 hd) (by simp;exact Ar.a57 hl hd) (fun i=>?_) hc
  have hy:y≤tp T (2 - d):=by simp at hy;exact Ar.a2 hy
  unfold asg
  rcases Nat.lt_trichotomy i q.length with h|h|h
  ·have:=hq i
   unfold asg at this
   simpa[List.getD,List.getElem?_append_left h]using this
  ·subst h;simp[List.getD];rw[hl];rw[show 3 - (d+1)=2 - d by exact Ar.a51];exact hy
  ·simp only[List.getD]
   rw[List.getElem?_eq_none (by simp;exact Ar.a5 h)]
   simp
end
end
section
set_option maxHeartbeats 4000000
noncomputable def gr:Nat→Nat
 |0=>0
 |d+1=>1+4*gr d
theorem Pcs.len{F:Nat→List Nat}:∀{q:List (Nat×List Nat)} {lo top:Nat},Pcs F lo q top→lo+q.length≤top+1
 |[],_,_,h=>by unfold Pcs at h;simp;exact Ar.a36 h
 |(hh,row)::q,lo,top,⟨h1,h2,h3,h4⟩=>by have:=h4.len;simp;exact Ar.a60 this h1
theorem Zdc{v:P}:ndP (.leaf v)=.tuple [.str "leaf",v]:=rfl
theorem Yz{v:P}(h:ZK v=true)(w:P):min v.depth w.depth≤60:=by rw[Q1 h];simp
section
variable{t c:MObj}{T:List Nat}
theorem ZfP(hT:Tops T):∀(d n:Nat) (N:List Nd) (M:List (Ky×Nat)) (B:Hp) (a y e:Nat),WF T N→MOk T N M→a<N.length→y<N.length→e<N.length→3 - d≤kyL N (.ch a y e)→N.length+gr d≤cap→M.length+gr d≤cap→
  ∃N' M' r,Zg tab (n+d+5) 11 [dv T,.p (.int a),.p (.int y),.p (.int e)] (HB t c N (memP M) B)=some (.ok (.p (.int (r:Nat))),HB t c N' (memP M') B)∧Grow T N M N' M' (gr d)∧Res T (.ch a y e) N' r:=by
 intro d
 induction d with
 |zero=>
  intro n N M B a y e W O ha hy he hd hN hM
  rw[show n+0+5=n+5 from rfl]
  obtain⟨v,h1,h2⟩:=XG W ha (by have:=Zbz (N:=N) (K:=.ch a y e) a (by simp[kyNs]);exact Ar.a119 hd this)
  have rn:=ZZ (t:=t) (c:=c) (m:=memP M) (B:=B) (T:=T) h1 (n+3)
  rw[Zdc]at rn
  have q:=YT (σ:=HB t c N (memP M) B) (Yz h2 (.int 1))
  have hge:=Zbz (N:=N) (K:=.ch a y e)
  by_cases hye:y=e
  ·subst hye
   refine⟨N,M,y,?_,Grow.refl W O _,hy,hge _ (by simp[kyNs]),fun f hf=>by simp[kyV]⟩
   have hd:decide ((y:Int)=y)=true:=by simp
   exact Zn rfl rfl (X9 (Zo rfl rfl (x_eq hd)) (Yt (Xs rfl rfl))) Z9
  ·have hd:decide ((y:Int)=e)=false:=by simp;exact Ar.a12 hye
   have hv:∀f,kyV N f (.ch a y e)=if PyData.eqv v (.int 1)then sem N f y else sem N f e:=fun f=>by rw[kyV,Z1 h1]
   cases hx:PyData.eqv v (.int 1)
   ·refine⟨N,M,e,?_,Grow.refl W O _,he,hge _ (by simp[kyNs]),fun f hf=>by rw[hv,hx];rfl⟩
    rw[hx]at q
    exact Zn rfl rfl (Xh (Zo rfl rfl (x_eq hd)) (ZA (ZY (ZE rfl (Zc rfl Zk) rn) rfl (X9 (Zo rfl rfl X6) (Yt (Xs (Zab (Zo rfl rfl q) rfl) rfl)))))) Z9
   ·refine⟨N,M,y,?_,Grow.refl W O _,hy,hge _ (by simp[kyNs]),fun f hf=>by rw[hv,hx];rfl⟩
    rw[hx]at q
    exact Zn rfl rfl (Xh (Zo rfl rfl (x_eq hd)) (ZA (ZY (ZE rfl (Zc rfl Zk) rn) rfl (X9 (Zo rfl rfl X6) (Yt (Xs (Ql (Zo rfl rfl q) rfl) rfl)))))) Z9
 |succ d ih=>
  intro n N M B a y e W O ha hy he hd hN hM
  rw[show n+(d+1)+5=n+d+6 by exact Ar.a120]
  have hge:=Zbz (N:=N) (K:=.ch a y e)
  by_cases hye:y=e
  ·subst hye
   refine⟨N,M,y,?_,Grow.refl W O _,hy,hge _ (by simp[kyNs]),fun f hf=>by simp[kyV]⟩
   have hd:decide ((y:Int)=y)=true:=by simp
   exact Zn rfl rfl (X9 (Zo rfl rfl (x_eq hd)) (Yt (Xs rfl rfl))) Z9
  ·have hd1:decide ((y:Int)=e)=false:=by simp;exact Ar.a12 hye
   rcases Z4 W ha with⟨v,h1,_,h2⟩|⟨j,ps0,h1,h2,h3,_⟩
   ·have rn:=ZZ (t:=t) (c:=c) (m:=memP M) (B:=B) (T:=T) h1 (n+d+4)
    rw[Zdc]at rn
    have q:=YT (σ:=HB t c N (memP M) B) (Yz h2 (.int 1))
    have hv:∀f,kyV N f (.ch a y e)=if PyData.eqv v (.int 1)then sem N f y else sem N f e:=fun f=>by rw[kyV,Z1 h1]
    cases hx:PyData.eqv v (.int 1)
    ·refine⟨N,M,e,?_,Grow.refl W O _,he,hge _ (by simp[kyNs]),fun f hf=>by rw[hv,hx];rfl⟩
     rw[hx]at q
     exact Zn rfl rfl (Xh (Zo rfl rfl (x_eq hd1)) (ZA (ZY (ZE rfl (Zc rfl Zk) rn) rfl (X9 (Zo rfl rfl X6) (Yt (Xs (Zab (Zo rfl rfl q) rfl) rfl)))))) Z9
    ·refine⟨N,M,y,?_,Grow.refl W O _,hy,hge _ (by simp[kyNs]),fun f hf=>by rw[hv,hx];rfl⟩
     rw[hx]at q
     exact Zn rfl rfl (Xh (Zo rfl rfl (x_eq hd1)) (ZA (ZY (ZE rfl (Zc rfl Zk) rn) rfl (X9 (Zo rfl rfl X6) (Yt (Xs (Ql (Zo rfl rfl q) rfl) rfl)))))) Z9
   ·have rn:=ZZ (t:=t) (c:=c) (m:=memP M) (B:=B) (T:=T) h1 (n+d+4)
    rw[Zkm]at rn
    have hkk:Ym (kyP (.ch a y e))=true:=Zh9 (K:=.ch a y e) trivial
    rcases Zcg (K:=.ch a y e) trivial (fun x hx=>(O.all x hx).2.1)with hl|⟨r,hr,hl⟩
    ·obtain⟨v,hv⟩:∃v,kyL N (.ch a y e)=v:=⟨_,rfl⟩
     have hks:∀k∈kyNs (.ch a y e),k<N.length:=by
      simp only[kyNs,List.mem_cons,List.not_mem_nil,or_false,forall_eq_or_imp,forall_eq];exact⟨ha,hy,he⟩
     have hv3:v<3:=by
      have:=hge a (by simp[kyNs]);exact Ar.a121 hv h2 this h3
     obtain⟨pcs,e1,e2⟩:=Zam (t:=t) (c:=c) (m:=memP M) (B:=B) (n:=n+d+2) W hT hks (by simp[kyNs]) (fun k hk=>hv▸hge k hk) (hv▸Zfd) hv3
     have hpl:=e2.len
     have htp:=hT.le v
     have e2':Pcs (fun x=>kyNs (mapK (cof N v x) (.ch a y e))) 0 pcs (tp T v):=e2.congr fun x _=>Qq.symm
     have hgl:pcs.length*gr d≤4*gr d:=Nat.mul_le_mul_right _ (by exact Ar.a69 hpl htp)
     have hgr:gr (d+1)=1+4*gr d:=rfl
     obtain⟨ps,N1,M1,g1,g2,g3,g4,g5,g6⟩:=Zhk (t:=t) (c:=c) (B:=B) (T:=T) (f:=XL (Zg tab (n+d+5))) (tg:=.tup [10,11]) (F:=fun x=>mapK (cof N v x) (.ch a y e)) (u:=v+1) (g:=gr d) (top:=tp T v) (G:=fun x=>[some (dv T),some (.p (.int a)),some (.p (.int y)),some (.p (.int e)),some (.p (.tuple [.int a,.int y,.int e])),some (.p (.int j)),some (.p (.tuple (ps0.map prt))),none,some (.p (.int v)),some (.p (.list (pcs.map pcP))),some (.p (.int x.1)),some (.p (.list (x.2.map fun(k:Nat)=>.int (k:Int))))]) (fun _ _=>Zhy) (fun _ _=>rfl) (fun x h N M hx W O hk hd hN hM=>by
      simp only[mapK,kyNs,List.mem_cons,List.not_mem_nil,or_false,forall_eq_or_imp,forall_eq]at hk
      obtain⟨N',M',r,i1,i2,i3⟩:=ih n N M B _ _ _ W O hk.1 hk.2.1 hk.2.2 (Nat.le_trans (by exact Ar.a122 hv (by assumption)) hd) hN hM
      refine⟨N',M',r,?_,i2,i3⟩
      unfold XL
      apply Zz rfl;exact Zp (Zc rfl (Zc (Zh rfl rfl t_0) (Zc (Zh rfl rfl t_1) (Zc (Zh rfl rfl t_2) Zk)))) i1) (pcs:=pcs) (lo:=0) (l:=[some (dv T),some (.p (.int a)),some (.p (.int y)),some (.p (.int e)),some (.p (.tuple [.int a,.int y,.int e])),some (.p (.int j)),some (.p (.tuple (ps0.map prt))),none,some (.p (.int v)),some (.p (.list (pcs.map pcP))),none,none]) (N:=N) (M:=M) e2' (fun _=>rfl) W O (fun x hx=>by
       refine⟨fun k hk=>?_,?_⟩
       ·rw[Qq]at hk
        obtain⟨k',hk',rfl⟩:=List.mem_map.mp hk
        exact YK W (hks k' hk') hx
       ·obtain⟨k,hk,ek⟩:=Zfd (N:=N) (K:=mapK (cof N v x) (.ch a y e))
        rw[Qq]at hk
        obtain⟨k',hk',rfl⟩:=List.mem_map.mp hk
        have:=YC W (hks k' hk') (hv▸hge k' hk') hv3 hx
        exact Ar.a123 ek this) (by exact Ar.a45 hgr hN hgl) (by exact Ar.a45 hgr hM hgl)
     have hlt:∀x∈ps,x.2<N1.length∧v<lvl N1 x.2:=fun x hx=>⟨(g6 x hx).1,by have:=(g6 x hx).2;exact Ar.a124 this⟩
     have hplen:(ps.length≤lim)=True:=eq_true (by have:=ZO;exact Ar.a125 g4 this hpl htp)
     have g2l:=g2.len
     have g2m:=g2.mem
     have hcap:cap=90000:=rfl
     have hlim:=ZO
     obtain⟨N2,r,m1,m2⟩:=QR (t:=t) (c:=c) (m:=memP M1) (B:=B++[.lst (ps.map prt)]) (T:=T) (n:=n+d+3) (j:=B.length) (v:=v) (ps:=ps) g2.wf hT hv3 g3 hlt (by exact Ar.a126 hN hgl hgr g2l hcap hlim) (by exact Ar.a127 g4 hpl htp) (.inl (by simp))
     have hset:(B++[MObj.lst (ps.map prt)]).set B.length (.frz (ps.map prt))=B++[.frz (ps.map prt)]:=by simp
     rw[hset]at m1
     have m1:Zg tab (n+d+5) 3 [dv T,.p (.int v),.ref (fr B 0)] (HB t c N1 (memP M1) (B++[.lst (ps.map prt)]))=some (.ok (.p (.int (r:Nat))),HB t c N2 (memP M1) (B++[.frz (ps.map prt)])):=m1
     obtain⟨M2,p1,p2,p3,p4⟩:=Zeg (K:=.ch a y e) (r:=r) trivial (fun x hx=>(g2.mok.all x hx).2.1)
     have rs:=ZhB W hks hv hv3 g2 (fun x hx f hf=>g5 x (Nat.zero_le _) hx f hf) g3 (fun q hq=>(hlt q hq).1) m2
     have hst:decide ((memP M1).length<lim)=true:=by simp[memP];omega
     obtain⟨E2,x1,x2⟩:=m2.ext
     obtain⟨E1,y1,y2⟩:=g2.ext
     refine⟨N2,M2,r,?_,⟨⟨E1++E2,by rw[x1,y1,List.append_assoc],by simp;exact Ar.a128 hgr y2 x2 hgl⟩,by exact Ar.a129 hgr p3 g2m hgl,m2.wf,⟨fun x hx=>?_⟩⟩,rs⟩
     ·have hcm:ZS (iSeq (Za 9)) (.tup [10,11]) ZM (XL (Zg tab (n+d+5))) [some (dv T),some (.p (.int a)),some (.p (.int y)),some (.p (.int e)),some (.p (.tuple [.int a,.int y,.int e])),some (.p (.int j)),some (.p (.tuple (ps0.map prt))),none,some (.p (.int v)),some (.p (.list (pcs.map pcP))),none,none] (HB t c N (memP M) B)=some (.ok (.ref (fr B 0)),HB t c N1 (memP M1) (B++[.lst (ps.map prt)])):=by
       have hit:iSeq (Za 9) [some (dv T),some (.p (.int a)),some (.p (.int y)),some (.p (.int e)),some (.p (.tuple [.int a,.int y,.int e])),some (.p (.int j)),some (.p (.tuple (ps0.map prt))),none,some (.p (.int v)),some (.p (.list (pcs.map pcP))),none,none] (HB t c N (memP M) B)=some (.ok (pcs.map pcP),HB t c N (memP M) B):=rfl
       simp only[ZS,hit,hb]
       rw[show X7 (.tup [10,11]) [some (dv T),some (.p (.int a)),some (.p (.int y)),some (.p (.int e)),some (.p (.tuple [.int a,.int y,.int e])),some (.p (.int j)),some (.p (.tuple (ps0.map prt))),none,some (.p (.int v)),some (.p (.list (pcs.map pcP))),none,none]=[some (dv T),some (.p (.int a)),some (.p (.int y)),some (.p (.int e)),some (.p (.tuple [.int a,.int y,.int e])),some (.p (.int j)),some (.p (.tuple (ps0.map prt))),none,some (.p (.int v)),some (.p (.list (pcs.map pcP))),none,none]from rfl,g1]
       simp only[newL,List.length_map,hplen,if_true,Qg,Qh]
      simp only[kyNs,List.map_cons,List.map_nil]at e1
      exact Zn rfl rfl (Xh (Zo rfl rfl (x_eq hd1)) (ZA (ZY (ZE rfl (Zc rfl Zk) rn) rfl (Xh (Zo rfl rfl WU) (ZA (ZR (Zbd rfl rfl rfl) (X9 (Zo rfl rfl (Zm8 rfl hkk hl)) (Yt (ZY (Zp (Zc rfl (Zc rfl Zk)) e1) rfl (Yt (ZR hcm (Yt (ZdG (ZE rfl (Zc rfl (Zc rfl Zk)) m1) rfl rfl (Zhs rfl hkk hst p1) (ZA (Xs (Zh rfl rfl (ZcY rfl hkk p4)) rfl))))))))))))))) (ZI rfl)
     ·rcases p2 x hx with h|rfl
      ·have:=g2.mok.all x h
       rw[x1]
       exact(MOk.app (E:=E2) g2.mok).all x h
      ·refine⟨fun k hk=>?_,trivial,rs.lt,rs.lv,rs.sm⟩
       have:=hks k hk
       rw[x1,y1];simp;omega
    ·obtain⟨h4,_,h5,h6,h7⟩:=O.all _ hr
     refine⟨N,M,r,?_,Grow.refl W O _,h5,h6,h7⟩
     exact Zn rfl rfl (Xh (Zo rfl rfl (x_eq hd1)) (ZA (ZY (ZE rfl (Zc rfl Zk) rn) rfl (Xh (Zo rfl rfl WU) (ZA (ZR (Zbd rfl rfl rfl) (Xh (Zo rfl rfl (Zm6 rfl hkk hl)) (ZA (Xs (Zh rfl rfl (ZcY rfl hkk hl)) rfl))))))))) Z9
end
end
section
set_option maxHeartbeats 4000000
section
variable{t c:MObj}{T:List Nat}
theorem ZdT(hT:Tops T){w:P}(hw:ZK w=true):∀(d n:Nat) (N:List Nd) (M:List (Ky×Nat)) (B:Hp) (a e:Nat),WF T N→MOk T N M→a<N.length→e<N.length→3 - d≤kyL N (.re a w e)→N.length+gr d≤cap→M.length+gr d≤cap→
  ∃N' M' r,Zg tab (n+d+5) 15 [dv T,.p (.int a),.p w,.p (.int e)] (HB t c N (memP M) B)=some (.ok (.p (.int (r:Nat))),HB t c N' (memP M') B)∧Grow T N M N' M' (gr d)∧Res T (.re a w e) N' r:=by
 intro d
 induction d with
 |zero=>
  intro n N M B a e W O ha he hd hN hM
  rw[show n+0+5=n+5 from rfl]
  obtain⟨v,h1,h2⟩:=XG W ha (by have:=Zbz (N:=N) (K:=.re a w e) a (by simp[kyNs]);exact Ar.a119 hd this)
  have rn:=ZZ (t:=t) (c:=c) (m:=memP M) (B:=B) (T:=T) h1 (n+3)
  rw[Zdc]at rn
  have q:=YT (σ:=HB t c N (memP M) B) (Yz h2 w)
  have hge:=Zbz (N:=N) (K:=.re a w e)
  have hv:∀f,kyV N f (.re a w e)=if PyData.eqv v w then sem N f e else sem N f a:=fun f=>by rw[kyV,Z1 h1]
  cases hx:PyData.eqv v w
  ·refine⟨N,M,a,?_,Grow.refl W O _,ha,hge _ (by simp[kyNs]),fun f hf=>by rw[hv,hx];rfl⟩
   rw[hx]at q
   exact Zn rfl rfl (ZY (ZE rfl (Zc rfl Zk) rn) rfl (X9 (Zo rfl rfl X6) (Yt (Xs (Zab (Zo rfl rfl q) rfl) rfl)))) Z9
  ·refine⟨N,M,e,?_,Grow.refl W O _,he,hge _ (by simp[kyNs]),fun f hf=>by rw[hv,hx];rfl⟩
   rw[hx]at q
   exact Zn rfl rfl (ZY (ZE rfl (Zc rfl Zk) rn) rfl (X9 (Zo rfl rfl X6) (Yt (Xs (Ql (Zo rfl rfl q) rfl) rfl)))) Z9
 |succ d ih=>
  intro n N M B a e W O ha he hd hN hM
  rw[show n+(d+1)+5=n+d+6 by exact Ar.a120]
  have hge:=Zbz (N:=N) (K:=.re a w e)
  rcases Z4 W ha with⟨v,h1,_,h2⟩|⟨j,ps0,h1,h2,h3,_⟩
  ·have rn:=ZZ (t:=t) (c:=c) (m:=memP M) (B:=B) (T:=T) h1 (n+d+4)
   rw[Zdc]at rn
   have q:=YT (σ:=HB t c N (memP M) B) (Yz h2 w)
   have hv:∀f,kyV N f (.re a w e)=if PyData.eqv v w then sem N f e else sem N f a:=fun f=>by rw[kyV,Z1 h1]
   cases hx:PyData.eqv v w
   ·refine⟨N,M,a,?_,Grow.refl W O _,ha,hge _ (by simp[kyNs]),fun f hf=>by rw[hv,hx];rfl⟩
    rw[hx]at q
    exact Zn rfl rfl (ZY (ZE rfl (Zc rfl Zk) rn) rfl (X9 (Zo rfl rfl X6) (Yt (Xs (Zab (Zo rfl rfl q) rfl) rfl)))) Z9
   ·refine⟨N,M,e,?_,Grow.refl W O _,he,hge _ (by simp[kyNs]),fun f hf=>by rw[hv,hx];rfl⟩
    rw[hx]at q
    exact Zn rfl rfl (ZY (ZE rfl (Zc rfl Zk) rn) rfl (X9 (Zo rfl rfl X6) (Yt (Xs (Ql (Zo rfl rfl q) rfl) rfl)))) Z9
  ·have rn:=ZZ (t:=t) (c:=c) (m:=memP M) (B:=B) (T:=T) h1 (n+d+4)
   rw[Zkm]at rn
   have hkk:Ym (kyP (.re a w e))=true:=Zh9 (K:=.re a w e) hw
   rcases Zcg (K:=.re a w e) hw (fun x hx=>(O.all x hx).2.1)with hl|⟨r,hr,hl⟩
   ·obtain⟨v,hv⟩:∃v,kyL N (.re a w e)=v:=⟨_,rfl⟩
    have hks:∀k∈kyNs (.re a w e),k<N.length:=by
     simp only[kyNs,List.mem_cons,List.not_mem_nil,or_false,forall_eq_or_imp,forall_eq];exact⟨ha,he⟩
    have hv3:v<3:=by
     have:=hge a (by simp[kyNs]);exact Ar.a121 hv h2 this h3
    obtain⟨pcs,e1,e2⟩:=Zam (t:=t) (c:=c) (m:=memP M) (B:=B) (n:=n+d+2) W hT hks (by simp[kyNs]) (fun k hk=>hv▸hge k hk) (hv▸Zfd) hv3
    have hpl:=e2.len
    have htp:=hT.le v
    have e2':Pcs (fun x=>kyNs (mapK (cof N v x) (.re a w e))) 0 pcs (tp T v):=e2.congr fun x _=>Qq.symm
    have hgl:pcs.length*gr d≤4*gr d:=Nat.mul_le_mul_right _ (by exact Ar.a69 hpl htp)
    have hgr:gr (d+1)=1+4*gr d:=rfl
    obtain⟨ps,N1,M1,g1,g2,g3,g4,g5,g6⟩:=Zhk (t:=t) (c:=c) (B:=B) (T:=T) (f:=Yh (Zg tab (n+d+5))) (tg:=.tup [10,11]) (F:=fun x=>mapK (cof N v x) (.re a w e)) (u:=v+1) (g:=gr d) (top:=tp T v) (G:=fun x=>[some (dv T),some (.p (.int a)),some (.p w),some (.p (.int e)),some (.p (.tuple [.str "leaf",.int a,w,.int e])),some (.p (.int j)),some (.p (.tuple (ps0.map prt))),none,some (.p (.int v)),some (.p (.list (pcs.map pcP))),some (.p (.int x.1)),some (.p (.list (x.2.map fun(k:Nat)=>.int (k:Int))))]) (fun _ _=>Zhy) (fun _ _=>rfl) (fun x h N M hx W O hk hd hN hM=>by
     simp only[mapK,kyNs,List.mem_cons,List.not_mem_nil,or_false,forall_eq_or_imp,forall_eq]at hk
     obtain⟨N',M',r,i1,i2,i3⟩:=ih n N M B _ _ W O hk.1 hk.2 (Nat.le_trans (by exact Ar.a122 hv (by assumption)) hd) hN hM
     refine⟨N',M',r,?_,i2,i3⟩
     unfold Yh
     apply Zz rfl;exact Zp (Zc rfl (Zc (Zh rfl rfl t_0) (Zc rfl (Zc (Zh rfl rfl t_1) Zk)))) i1) (pcs:=pcs) (lo:=0) (l:=[some (dv T),some (.p (.int a)),some (.p w),some (.p (.int e)),some (.p (.tuple [.str "leaf",.int a,w,.int e])),some (.p (.int j)),some (.p (.tuple (ps0.map prt))),none,some (.p (.int v)),some (.p (.list (pcs.map pcP))),none,none]) (N:=N) (M:=M) e2' (fun _=>rfl) W O (fun x hx=>by
      refine⟨fun k hk=>?_,?_⟩
      ·rw[Qq]at hk
       obtain⟨k',hk',rfl⟩:=List.mem_map.mp hk
       exact YK W (hks k' hk') hx
      ·obtain⟨k,hk,ek⟩:=Zfd (N:=N) (K:=mapK (cof N v x) (.re a w e))
       rw[Qq]at hk
       obtain⟨k',hk',rfl⟩:=List.mem_map.mp hk
       have:=YC W (hks k' hk') (hv▸hge k' hk') hv3 hx
       exact Ar.a123 ek this) (by exact Ar.a45 hgr hN hgl) (by exact Ar.a45 hgr hM hgl)
    have hlt:∀x∈ps,x.2<N1.length∧v<lvl N1 x.2:=fun x hx=>⟨(g6 x hx).1,by have:=(g6 x hx).2;exact Ar.a124 this⟩
    have hplen:(ps.length≤lim)=True:=eq_true (by have:=ZO;exact Ar.a125 g4 this hpl htp)
    have g2l:=g2.len
    have g2m:=g2.mem
    have hcap:cap=90000:=rfl
    have hlim:=ZO
    obtain⟨N2,r,m1,m2⟩:=QR (t:=t) (c:=c) (m:=memP M1) (B:=B++[.lst (ps.map prt)]) (T:=T) (n:=n+d+3) (j:=B.length) (v:=v) (ps:=ps) g2.wf hT hv3 g3 hlt (by exact Ar.a126 hN hgl hgr g2l hcap hlim) (by exact Ar.a127 g4 hpl htp) (.inl (by simp))
    have hset:(B++[MObj.lst (ps.map prt)]).set B.length (.frz (ps.map prt))=B++[.frz (ps.map prt)]:=by simp
    rw[hset]at m1
    have m1:Zg tab (n+d+5) 3 [dv T,.p (.int v),.ref (fr B 0)] (HB t c N1 (memP M1) (B++[.lst (ps.map prt)]))=some (.ok (.p (.int (r:Nat))),HB t c N2 (memP M1) (B++[.frz (ps.map prt)])):=m1
    obtain⟨M2,p1,p2,p3,p4⟩:=Zeg (K:=.re a w e) (r:=r) hw (fun x hx=>(g2.mok.all x hx).2.1)
    have rs:=ZhB W hks hv hv3 g2 (fun x hx f hf=>g5 x (Nat.zero_le _) hx f hf) g3 (fun q hq=>(hlt q hq).1) m2
    have hst:decide ((memP M1).length<lim)=true:=by simp[memP];omega
    obtain⟨E2,x1,x2⟩:=m2.ext
    obtain⟨E1,y1,y2⟩:=g2.ext
    refine⟨N2,M2,r,?_,⟨⟨E1++E2,by rw[x1,y1,List.append_assoc],by simp;exact Ar.a128 hgr y2 x2 hgl⟩,by exact Ar.a129 hgr p3 g2m hgl,m2.wf,⟨fun x hx=>?_⟩⟩,rs⟩
    ·have hcm:ZS (iSeq (Za 9)) (.tup [10,11]) ZM (Yh (Zg tab (n+d+5))) [some (dv T),some (.p (.int a)),some (.p w),some (.p (.int e)),some (.p (.tuple [.str "leaf",.int a,w,.int e])),some (.p (.int j)),some (.p (.tuple (ps0.map prt))),none,some (.p (.int v)),some (.p (.list (pcs.map pcP))),none,none] (HB t c N (memP M) B)=some (.ok (.ref (fr B 0)),HB t c N1 (memP M1) (B++[.lst (ps.map prt)])):=by
      have hit:iSeq (Za 9) [some (dv T),some (.p (.int a)),some (.p w),some (.p (.int e)),some (.p (.tuple [.str "leaf",.int a,w,.int e])),some (.p (.int j)),some (.p (.tuple (ps0.map prt))),none,some (.p (.int v)),some (.p (.list (pcs.map pcP))),none,none] (HB t c N (memP M) B)=some (.ok (pcs.map pcP),HB t c N (memP M) B):=rfl
      simp only[ZS,hit,hb]
      rw[show X7 (.tup [10,11]) [some (dv T),some (.p (.int a)),some (.p w),some (.p (.int e)),some (.p (.tuple [.str "leaf",.int a,w,.int e])),some (.p (.int j)),some (.p (.tuple (ps0.map prt))),none,some (.p (.int v)),some (.p (.list (pcs.map pcP))),none,none]=[some (dv T),some (.p (.int a)),some (.p w),some (.p (.int e)),some (.p (.tuple [.str "leaf",.int a,w,.int e])),some (.p (.int j)),some (.p (.tuple (ps0.map prt))),none,some (.p (.int v)),some (.p (.list (pcs.map pcP))),none,none]from rfl,g1]
      simp only[newL,List.length_map,hplen,if_true,Qg,Qh]
     simp only[kyNs,List.map_cons,List.map_nil]at e1
     exact Zn rfl rfl (ZY (ZE rfl (Zc rfl Zk) rn) rfl (Xh (Zo rfl rfl WU) (ZA (ZR rfl (X9 (Zo rfl rfl (Zm8 rfl hkk hl)) (Yt (ZY (Zp (Zc rfl (Zc (Zz rfl rfl) Zk)) e1) rfl (Yt (ZR hcm (Yt (ZdG (ZE rfl (Zc rfl (Zc rfl Zk)) m1) rfl rfl (Zhs rfl hkk hst p1) (ZA (Xs (Zh rfl rfl (ZcY rfl hkk p4)) rfl))))))))))))) (ZI rfl)
    ·rcases p2 x hx with h|rfl
     ·have:=g2.mok.all x h
      rw[x1]
      exact(MOk.app (E:=E2) g2.mok).all x h
     ·refine⟨fun k hk=>?_,hw,rs.lt,rs.lv,rs.sm⟩
      have:=hks k hk
      rw[x1,y1];simp;omega
   ·obtain⟨h4,_,h5,h6,h7⟩:=O.all _ hr
    refine⟨N,M,r,?_,Grow.refl W O _,h5,h6,h7⟩
    exact Zn rfl rfl (ZY (ZE rfl (Zc rfl Zk) rn) rfl (Xh (Zo rfl rfl WU) (ZA (ZR rfl (Xh (Zo rfl rfl (Zm6 rfl hkk hl)) (ZA (Xs (Zh rfl rfl (ZcY rfl hkk hl)) rfl))))))) Z9
theorem WI{N:List Nd}{M:List (Ky×Nat)}{B:Hp}{w:P}{n:Nat}(hw:ZK w=true)(W:WF T N)(O:MOk T N M)(hl:N.length<cap):∃N' r,Zg tab (n+2) 2 [dv T,.p w] (HB t c N (memP M) B)=some (.ok (.p (.int (r:Nat))),HB t c N' (memP M) B)∧Grow T N M N' M 1∧N'[r]?=some (.leaf w):=by
 have hcap:cap=90000:=rfl
 have hlim:=ZO
 obtain⟨E,r,e1,e2⟩:=ZeQ (t:=t) (c:=c) (m:=memP M) (B:=B) (T:=T) (n:=n) (nd:=.leaf w) W.at W.nodup hw (by exact Ar.a70 hcap hlim hl)
 rw[Zdc]at e1
 refine⟨N++E,r,?_,?_,?_⟩
 ·exact Zn rfl rfl (Xs (ZE rfl (Zc (Zz rfl rfl) Zk) e1) rfl) Z9
 ·rcases e2 with⟨rfl,h⟩|⟨rfl,rfl,h⟩
  ·rw[List.append_nil];exact Grow.refl W O _
  ·exact⟨⟨_,rfl,by simp⟩,by exact Ar.a6,W.snoc h hw,O.app⟩
 ·rcases e2 with⟨rfl,h⟩|⟨rfl,rfl,h⟩
  ·rw[List.append_nil];exact h
  ·simp
theorem Grow.at'{N N':List Nd}{M M':List (Ky×Nat)}{g:Nat}(a:Grow T N M N' M' g){k:Nat}{nd:Nd}(h:N[k]?=some nd):N'[k]?=some nd:=by
 obtain⟨E,e,l⟩:=a.ext
 rw[e,Za4 (List.getElem?_eq_some_iff.mp h).1];exact h
theorem ZeR(hT:Tops T){N:List Nd}{M:List (Ky×Nat)}{B:Hp}{a y e n:Nat}(W:WF T N)(O:MOk T N M)(ha:a<N.length)(hy:y<N.length)(he:e<N.length)(hN:N.length+21≤cap)(hM:M.length+21≤cap):
  ∃N' M' r,Zg tab (n+8) 11 [dv T,.p (.int a),.p (.int y),.p (.int e)] (HB t c N (memP M) B)=some (.ok (.p (.int (r:Nat))),HB t c N' (memP M') B)∧Grow T N M N' M' 21∧Res T (.ch a y e) N' r:=
 ZfP hT 3 n N M B a y e W O ha hy he (Nat.zero_le _) hN hM
theorem Zmv(hT:Tops T){w:P}(hw:ZK w=true){N:List Nd}{M:List (Ky×Nat)}{B:Hp}{a e n:Nat}(W:WF T N)(O:MOk T N M)(ha:a<N.length)(he:e<N.length)(hN:N.length+21≤cap)(hM:M.length+21≤cap):
  ∃N' M' r,Zg tab (n+8) 15 [dv T,.p (.int a),.p w,.p (.int e)] (HB t c N (memP M) B)=some (.ok (.p (.int (r:Nat))),HB t c N' (memP M') B)∧Grow T N M N' M' 21∧Res T (.re a w e) N' r:=
 ZdT hT hw 3 n N M B a e W O ha he (Nat.zero_le _) hN hM
theorem Zji(hT:Tops T){N:List Nd}{M:List (Ky×Nat)}{B:Hp}{a b n:Nat}(W:WF T N)(O:MOk T N M)(ha:a<N.length)(hy:b<N.length)(hN:N.length+24≤cap)(hM:M.length+24≤cap):
  ∃N' M' r,Zg tab (n+9) 12 [dv T,.p (.int a),.p (.int b)] (HB t c N (memP M) B)=some (.ok (.p (.int (r:Nat))),HB t c N' (memP M') B)∧Grow T N M N' M' 24∧r<N'.length∧∀f,Fit T f→sem N' f r=if PyData.eqv (sem N f a) (.int 1)then sem N f b else .int 0:=by
 obtain⟨N1,z,e1,g1,z1⟩:=WI (t:=t) (c:=c) (B:=B) (w:=.int 0) (n:=n+6) rfl W O (by exact Ar.a37 hN)
 have l1:=g1.len
 obtain⟨N2,M2,r,e2,g2,r2⟩:=ZeR (t:=t) (c:=c) (B:=B) (n:=n) hT g1.wf g1.mok (a:=a) (y:=b) (e:=z) (by exact Ar.a4 l1 ha) (by exact Ar.a4 l1 hy) (List.getElem?_eq_some_iff.mp z1).1 (by exact Ar.a130 l1 hN) (by exact Ar.a13 hM)
 refine⟨N2,M2,r,?_,(g1.trans g2).weak (by exact Ar.a131),r2.lt,fun f hf=>?_⟩
 ·exact Zn rfl rfl (Xs (Zp (Zc rfl (Zc rfl (Zc rfl (Zc (ZE rfl (Zc rfl Zk) e1) Zk)))) e2) rfl) Z9
 ·rw[r2.sm f hf,g2.kyV (by simp[kyNs];exact⟨by exact Ar.a4 l1 ha,by exact Ar.a4 l1 hy,(List.getElem?_eq_some_iff.mp z1).1⟩),kyV,g1.sem ha,g1.sem hy,Z1 z1]
theorem ZfO(hT:Tops T){N:List Nd}{M:List (Ky×Nat)}{B:Hp}{a b n:Nat}(W:WF T N)(O:MOk T N M)(ha:a<N.length)(hy:b<N.length)(hN:N.length+24≤cap)(hM:M.length+24≤cap):
  ∃N' M' r,Zg tab (n+9) 13 [dv T,.p (.int a),.p (.int b)] (HB t c N (memP M) B)=some (.ok (.p (.int (r:Nat))),HB t c N' (memP M') B)∧Grow T N M N' M' 24∧r<N'.length∧∀f,Fit T f→sem N' f r=if PyData.eqv (sem N f a) (.int 1)then .int 1 else sem N f b:=by
 obtain⟨N1,z,e1,g1,z1⟩:=WI (t:=t) (c:=c) (B:=B) (w:=.int 1) (n:=n+6) rfl W O (by exact Ar.a37 hN)
 have l1:=g1.len
 obtain⟨N2,M2,r,e2,g2,r2⟩:=ZeR (t:=t) (c:=c) (B:=B) (n:=n) hT g1.wf g1.mok (a:=a) (y:=z) (e:=b) (by exact Ar.a4 l1 ha) (List.getElem?_eq_some_iff.mp z1).1 (by exact Ar.a4 l1 hy) (by exact Ar.a130 l1 hN) (by exact Ar.a13 hM)
 refine⟨N2,M2,r,?_,(g1.trans g2).weak (by exact Ar.a131),r2.lt,fun f hf=>?_⟩
 ·exact Zn rfl rfl (Xs (Zp (Zc rfl (Zc rfl (Zc (ZE rfl (Zc rfl Zk) e1) (Zc rfl Zk)))) e2) rfl) Z9
 ·rw[r2.sm f hf,g2.kyV (by simp[kyNs];exact⟨by exact Ar.a4 l1 ha,(List.getElem?_eq_some_iff.mp z1).1,by exact Ar.a4 l1 hy⟩),kyV,g1.sem ha,g1.sem hy,Z1 z1]
theorem ZfN(hT:Tops T){N:List Nd}{M:List (Ky×Nat)}{B:Hp}{a n:Nat}(W:WF T N)(O:MOk T N M)(ha:a<N.length)(hN:N.length+24≤cap)(hM:M.length+24≤cap):
  ∃N' M' r,Zg tab (n+9) 14 [dv T,.p (.int a)] (HB t c N (memP M) B)=some (.ok (.p (.int (r:Nat))),HB t c N' (memP M') B)∧Grow T N M N' M' 24∧r<N'.length∧∀f,Fit T f→sem N' f r=if PyData.eqv (sem N f a) (.int 1)then .int 0 else .int 1:=by
 obtain⟨N1,z,e1,g1,z1⟩:=WI (t:=t) (c:=c) (B:=B) (w:=.int 0) (n:=n+6) rfl W O (by exact Ar.a37 hN)
 have l1:=g1.len
 obtain⟨N2,o,e2,g2,o2⟩:=WI (t:=t) (c:=c) (B:=B) (w:=.int 1) (n:=n+6) rfl g1.wf g1.mok (by exact Ar.a235 l1 hN)
 have l2:=g2.len
 have z2:=g2.at' z1
 have z3:=(List.getElem?_eq_some_iff.mp z2).1
 have o3:=(List.getElem?_eq_some_iff.mp o2).1
 obtain⟨N3,M3,r,e3,g3,r3⟩:=ZeR (t:=t) (c:=c) (B:=B) (n:=n) hT g2.wf g2.mok (a:=a) (y:=z) (e:=o) (by exact Ar.a132 l2 l1 ha) z3 o3 (by exact Ar.a236 l2 l1 hN) (by exact Ar.a13 hM)
 refine⟨N3,M3,r,?_,((g1.trans g2).trans g3).weak (by exact Ar.n0 (.l (.p (.p (.k 1) (.k 1)) (.k 21)) (.k 24)) (by kernel_rfl)),r3.lt,fun f hf=>?_⟩
 ·exact Zn rfl rfl (Xs (Zp (Zc rfl (Zc rfl (Zc (ZE rfl (Zc rfl Zk) e1) (Zc (ZE rfl (Zc rfl Zk) e2) Zk)))) e3) rfl) Z9
 ·rw[r3.sm f hf,g3.kyV (by simp[kyNs];exact⟨by exact Ar.a132 l2 l1 ha,z3,o3⟩),kyV,g2.sem (by exact Ar.a4 l1 ha),g1.sem ha,Z1 z2,Z1 o2]
end
end
section
set_option maxHeartbeats 4000000
noncomputable def Inn(S:List (Nat×Nat))(x:Nat):Prop:=∃s∈S,s.1≤x∧x≤s.2
noncomputable def Tidy:Nat→List (Nat×Nat)→Prop
 |_,[]=>True
 |lo,(l,h)::r=>lo≤l∧l≤h∧Tidy (h+1) r
section
variable{t c:MObj}{N:List Nd}{m:List (P×P)}{B:Hp}{T:List Nat}{n:Nat}
theorem Zoo{a:P}{σ:Hp}:Y9 [a] (.p (.int (-1))) σ=some (.ok (.p a),σ):=Zcj (l:=[])
theorem ZkH{cf:CF}{X:MObj}{l1 h1 l2 h2:Nat}{a0:Option V}(a1:l1≤h1)(a2:l2≤h2)(a3:l1≤l2):∃S y z,Yj (.tup [2,3]) (YI cf) [.tuple [.int l1,.int h1],.tuple [.int l2,.int h2]] [a0,some (.ref (fr B 0)),none,none] (HB t c N m (B++[.lst [],X]))=some (.ok .next,[a0,some (.ref (fr B 0)),y,z],HB t c N m (B++[.lst (S.map prt),X]))∧Tidy 0 S∧S.length≤2∧∀x,Inn S x↔Inn [(l1,h1),(l2,h2)] x:=by
 have hl0:decide (0<lim)=true:=by have:=ZO;simp;exact Ar.a71 this
 have hl1:decide (1<lim)=true:=by have:=ZO;simp;exact Ar.a133 this
 have e3:idx? (-1) 1=some 0:=rfl
 have e4:=@Zoo
 by_cases c1:l2≤h1+1
 ·have d1:decide ((l2:Int)≤(h1:Int)+1)=true:=by simp;exact Ar.n2 (.im (.l (.v 0) (.p (.v 1) (.k 1))) (.L (.c (.v 0)) (.p (.c (.v 1)) (.k 1)))) (by kernel_rfl) c1
  by_cases c2:h1<h2
  ·have d2:decide ((h1:Int)<(h2:Int))=true:=by simp;exact Ar.a72 c2
   refine⟨[(l1,h2)],some (.p (.int l2)),some (.p (.int h2)),?_,⟨Nat.zero_le _,by exact Ar.n4 (.im (.l (.v 0) (.v 2)) (.im (.l (.v 2) (.p (.v 3) (.k 1))) (.im (.t (.v 3) (.v 1)) (.l (.v 0) (.v 1))))) (by kernel_rfl) a3 c1 c2,trivial⟩,by simp,fun x=>?_⟩
   ·apply x_go rfl
    ·unfold YI;exact Xh (ZeH (QL rfl (ZbQ rfl))) (Yt (Zc9 rfl (x_at rfl) (Zz rfl rfl) (YW rfl hl1) (ZA rfl)))
    apply x_go rfl
    ·unfold YI;exact X9 (ZcE (QL rfl (ZbP rfl)) (Zo rfl (Zh (Zh (Zh rfl rfl (Qk rfl)) rfl t_1) rfl rfl) (x_dc d1))) (Yt (X9 (Zo rfl (Zh (Zh rfl rfl (Qk rfl)) rfl t_1) (x_dc d2)) (Yt (ZdG (Zz (Zh (Zh rfl rfl (Qk rfl)) rfl t_0) rfl) rfl rfl (Zf4 rfl) (ZA (ZA rfl))))))
    exact rfl
   ·simp only[Inn,List.mem_cons,List.not_mem_nil,or_false,exists_eq_or_imp,exists_eq_left]
    omega
  ·have d2:decide ((h1:Int)<(h2:Int))=false:=by simp;exact Ar.a134 c2
   refine⟨[(l1,h1)],some (.p (.int l2)),some (.p (.int h2)),?_,⟨Nat.zero_le _,by exact Ar.n4 (.im (.l (.v 0) (.v 2)) (.im (.l (.v 2) (.v 3)) (.im (.no (.t (.v 1) (.v 3))) (.l (.v 0) (.v 1))))) (by kernel_rfl) a3 a2 c2,trivial⟩,by simp,fun x=>?_⟩
   ·apply x_go rfl
    ·unfold YI;exact Xh (ZeH (QL rfl (ZbQ rfl))) (Yt (Zc9 rfl (x_at rfl) (Zz rfl rfl) (YW rfl hl1) (ZA rfl)))
    apply x_go rfl
    ·unfold YI;exact X9 (ZcE (QL rfl (ZbP rfl)) (Zo rfl (Zh (Zh (Zh rfl rfl (Qk rfl)) rfl t_1) rfl rfl) (x_dc d1))) (Yt (Xh (Zo rfl (Zh (Zh rfl rfl (Qk rfl)) rfl t_1) (x_dc d2)) (ZA (ZA rfl))))
    exact rfl
   ·simp only[Inn,List.mem_cons,List.not_mem_nil,or_false,exists_eq_or_imp,exists_eq_left]
    omega
 ·have d1:decide ((l2:Int)≤(h1:Int)+1)=false:=by simp;exact Ar.n2 (.im (.no (.l (.v 1) (.p (.v 0) (.k 1)))) (.T (.p (.c (.v 0)) (.k 1)) (.c (.v 1)))) (by kernel_rfl) c1
  refine⟨[(l1,h1),(l2,h2)],some (.p (.int l2)),some (.p (.int h2)),?_,⟨Nat.zero_le _,by exact Ar.a20 a1,by exact Ar.n2 (.im (.no (.l (.v 1) (.p (.v 0) (.k 1)))) (.l (.p (.v 0) (.k 1)) (.v 1))) (by kernel_rfl) c1,by exact Ar.a20 a2,trivial⟩,by simp,fun x=>Iff.rfl⟩
  apply x_go rfl
  ·unfold YI;exact Xh (ZeH (QL rfl (ZbQ rfl))) (Yt (Zc9 rfl (x_at rfl) (Zz rfl rfl) (YW rfl hl1) (ZA rfl)))
  apply x_go rfl
  ·unfold YI;exact Xh (ZcE (QL rfl (ZbP rfl)) (Zo rfl (Zh (Zh (Zh rfl rfl (Qk rfl)) rfl t_1) rfl rfl) (x_dc d1))) (Yt (Zc9 rfl (x_at rfl) (Zz rfl rfl) (YW rfl hl1) (ZA rfl)))
  exact rfl
theorem Zje{j l1 h1 l2 h2:Nat}(a1:l1≤h1)(a2:l2≤h2)(hj:B[j]?=some (.lst [prt (l1,h1),prt (l2,h2)])∨B[j]?=some (.frz [prt (l1,h1),prt (l2,h2)])):
  ∃S,Zg tab (n+1) 0 [.ref (j+5)] (HB t c N m B)=some (.ok (.ref (fr B 0)),HB t c N m (B++[.lst (S.map prt)]))∧Tidy 0 S∧S.length≤2∧∀x,Inn S x↔Inn [(l1,h1),(l2,h2)] x:=by
 have hjl:j<B.length:=by rcases hj with h|h<;>exact(List.getElem?_eq_some_iff.mp h).1
 have lk:WB (HB t c N m (B++[.lst []])) (.ref (j+5))=some [prt (l1,h1),prt (l2,h2)]:=by
  unfold WB
  dsimp only
  rw[YL,List.getElem?_append_left hjl]
  rcases hj with h|h<;>rw[h]
 have ht2:∀X Y:MObj,(HB t c N m (B++[X,Y])).take (fr B 0)=HB t c N m B:=fun X Y=>ZaP
 have hgo:∀{p1 p2 q1 q2:Nat},p1≤p2→q1≤q2→p1≤q1→ZdM (.ref (j+5)) (HB t c N m (B++[.lst []]))=some (.ok (.ref (fr B 1)),HB t c N m (B++[.lst [],.lst [.tuple [.int p1,.int p2],.tuple [.int q1,.int q2]]]))→∃S,Zg tab (n+1) 0 [.ref (j+5)] (HB t c N m B)=some (.ok (.ref (fr B 0)),HB t c N m (B++[.lst (S.map prt)]))∧Tidy 0 S∧S.length≤2∧∀x,Inn S x↔Inn [(p1,p2),(q1,q2)] x:=by
  intro p1 p2 q1 q2 b1 b2 b3 hs
  obtain⟨S,y,z,e,r⟩:=ZkH (t:=t) (c:=c) (N:=N) (m:=m) (B:=B) (cf:=Zg tab n) (a0:=some (.ref (j+5))) (X:=.frz [.tuple [.int p1,.int p2],.tuple [.int q1,.int q2]]) b1 b2 b3
  refine⟨S,?_,r⟩
  exact Zn rfl rfl (ZR rfl (Zk7 (XA (ZV rfl hs) (Q3 rfl)) e (Xs rfl rfl))) (Wk rfl) -- xb15
 have pl:Zas (prt (l2,h2)) (prt (l1,h1))=some (if(l2:Int)=l1 then decide ((h2:Int)<h1)else decide ((l2:Int)<l1)):=rfl
 have nl:∀x y:P,newL [x,y] (HB t c N m (B++[.lst []]))=some (.ok (.ref (fr B 1)),HB t c N m (B++[.lst [],.lst [x,y]])):=fun x y=>Zdb (R:=[.lst []]) (Wz rfl)
 cases hq:(if(l2:Int)=l1 then decide ((h2:Int)<h1)else decide ((l2:Int)<l1))
 ·refine hgo a1 a2 ?_ ?_
  ·split at hq<;>simp at hq<;>(first|exact Ar.n2 (.im (.E (.c (.v 1)) (.c (.v 0))) (.l (.v 0) (.v 1))) (by kernel_rfl) (by assumption)|exact Ar.a20 hq)
  ·rw[hq]at pl
   exact h_l1 lk (by
    show((Zas (prt (l2,h2)) (prt (l1,h1))).bind fun b=>newL (if b then[prt (l2,h2),prt (l1,h1)]else[prt (l1,h1),prt (l2,h2)]) (HB t c N m (B++[.lst []])))=_
    rw[pl];exact nl _ _)
 ·obtain⟨S,e1,e2,e3,e4⟩:=hgo (p1:=l2) (p2:=h2) (q1:=l1) (q2:=h1) a2 a1 (by split at hq<;>simp at hq<;>(first|exact Ar.n2 (.im (.E (.c (.v 0)) (.c (.v 1))) (.l (.v 0) (.v 1))) (by kernel_rfl) (by assumption)|exact Ar.n2 (.im (.t (.v 0) (.v 1)) (.l (.v 0) (.v 1))) (by kernel_rfl) hq)) (by
   rw[hq]at pl
   exact h_l1 lk (by
    show((Zas (prt (l2,h2)) (prt (l1,h1))).bind fun b=>newL (if b then[prt (l2,h2),prt (l1,h1)]else[prt (l1,h1),prt (l2,h2)]) (HB t c N m (B++[.lst []])))=_
    rw[pl];exact nl _ _))
  refine⟨S,e1,e2,e3,fun x=>(e4 x).trans ?_⟩
  simp only[Inn,List.mem_cons,List.not_mem_nil,or_false,exists_eq_or_imp,exists_eq_left]
  omega
end
end
section
set_option maxHeartbeats 4000000
noncomputable def tl(top yes no:Nat):Nat→List (Nat×Nat)→List (Nat×Nat)×Nat
 |a,[]=>([],a)
 |a,(l,h)::r=>if l≤top then((if a<l then[(l - 1,no)]else[])++(min h top,yes)::(tl top yes no (h+1) r).1,(tl top yes no (h+1) r).2)else tl top yes no a r
noncomputable def Z3(top yes no a:Nat)(S:List (Nat×Nat)):List (Nat×Nat):=(tl top yes no a S).1++if(tl top yes no a S).2≤top then[(top,no)]else[]
theorem Tidy.low:∀{S:List (Nat×Nat)} {a b:Nat},Tidy a S→b≤a→Tidy b S
 |[],_,_,_,_=>trivial
 |(l,h)::r,a,b,⟨h1,h2,h3⟩,e=>⟨by exact Ar.a3 e h1,h2,h3⟩
theorem Tidy.past:∀{S:List (Nat×Nat)} {a top yes no:Nat},Tidy a S→top<a→tl top yes no a S=([],a)
 |[],_,_,_,_,_,_=>rfl
 |(l,h)::r,a,top,yes,no,⟨h1,h2,h3⟩,e=>by
  rw[tl,if_neg (by exact Ar.n3 (.im (.l (.v 2) (.v 0)) (.im (.t (.v 1) (.v 2)) (.no (.l (.v 0) (.v 1))))) (by kernel_rfl) h1 e)]
  exact(h3.low (by exact Ar.a59 h1 h2)).past e
theorem Zag{top yes no:Nat}:∀{S:List (Nat×Nat)} {a:Nat},Tidy a S→a≤top→Rise a (Z3 top yes no a S) top∧(∀x,a≤x→x≤top→(Inn S x→pick (Z3 top yes no a S) x=yes)∧(¬Inn S x→pick (Z3 top yes no a S) x=no))∧(∀q∈Z3 top yes no a S,q.2=yes∨q.2=no)∧(Z3 top yes no a S).length≤2*S.length+1
 |[],a,_,ha=>by
  have e:Z3 top yes no a []=[(top,no)]:=by simp[Z3,tl,ha]
  rw[e]
  exact⟨⟨ha,Nat.le_refl _,rfl⟩,fun x _ hx=>⟨fun⟨s,hs,_⟩=>by(cases hs),fun _=>by simp[pick,hx]⟩,by simp,by simp⟩
 |(l,h)::r,a,⟨h1,h2,h3⟩,ha=>by
  by_cases hl:l≤top
  ·have e:Z3 top yes no a ((l,h)::r)=(if a<l then[(l - 1,no)]else[])++(min h top,yes)::Z3 top yes no (h+1) r:=by
    simp only[Z3,tl,if_pos hl,List.append_assoc,List.cons_append]
   have rest:Rise (min h top+1) (Z3 top yes no (h+1) r) top∧(∀x,h+1≤x→x≤top→(Inn r x→pick (Z3 top yes no (h+1) r) x=yes)∧(¬Inn r x→pick (Z3 top yes no (h+1) r) x=no))∧(∀q∈Z3 top yes no (h+1) r,q.2=yes∨q.2=no)∧(Z3 top yes no (h+1) r).length≤2*r.length+1:=by
    rcases Nat.lt_or_ge top (h+1)with hh|hh
    ·have e:Z3 top yes no (h+1) r=[]:=by
      unfold Z3
      rw[h3.past hh]
      simp;exact Ar.n2 (.im (.t (.v 0) (.p (.v 1) (.k 1))) (.t (.v 0) (.p (.v 1) (.k 1)))) (by kernel_rfl) hh
     rw[e]
     exact⟨by unfold Rise;exact Ar.n2 (.im (.t (.v 1) (.p (.v 0) (.k 1))) (.e (.p (.mn (.v 0) (.v 1)) (.k 1)) (.p (.v 1) (.k 1)))) (by kernel_rfl) hh,fun x _ _=>by exact False.elim (Ar.n3 (.im (.l (.p (.v 0) (.k 1)) (.v 1)) (.im (.l (.v 1) (.v 2)) (.im (.t (.v 2) (.p (.v 0) (.k 1))) .ff))) (by kernel_rfl) (by assumption) (by assumption) hh),by simp,by simp⟩
    ·have:=Zag (top:=top) (yes:=yes) (no:=no) h3 hh
     rw[show min h top=h by exact Ar.n2 (.im (.l (.p (.v 0) (.k 1)) (.v 1)) (.e (.mn (.v 0) (.v 1)) (.v 0))) (by kernel_rfl) hh]
     exact this
   obtain⟨r1,r2,r3,r4⟩:=rest
   have inn:∀x,Inn ((l,h)::r) x↔((l≤x∧x≤h)∨Inn r x):=fun x=>by simp[Inn]
   have rlow:∀x,Inn r x→h+1≤x:=fun x ⟨s,hs,hx⟩=>by
    have low:∀{r:List (Nat×Nat)} {b:Nat},Tidy b r→s∈r→b≤s.1:=by
     intro r
     induction r with
     |nil=>intro b _ h;cases h
     |cons y r ih=>
      intro b ht hm
      obtain⟨t1,t2,t3⟩:=ht
      rcases List.mem_cons.mp hm with rfl|hm
      ·exact t1
      ·have:=ih t3 hm;exact Ar.n4 (.im (.l (.p (.v 2) (.k 1)) (.v 1)) (.im (.l (.v 0) (.v 3)) (.im (.l (.v 3) (.v 2)) (.l (.v 0) (.v 1))))) (by kernel_rfl) this t1 t2
    have:=low h3 hs
    exact Ar.n4 (.im (.an (.l (.v 2) (.v 1)) (.l (.v 1) (.v 3))) (.im (.l (.p (.v 0) (.k 1)) (.v 2)) (.l (.p (.v 0) (.k 1)) (.v 1)))) (by kernel_rfl) hx this
   have body:Rise l ((min h top,yes)::Z3 top yes no (h+1) r) top∧∀x,l≤x→x≤top→(Inn ((l,h)::r) x→pick ((min h top,yes)::Z3 top yes no (h+1) r) x=yes)∧(¬Inn ((l,h)::r) x→pick ((min h top,yes)::Z3 top yes no (h+1) r) x=no):=by
    refine⟨⟨by exact Ar.a135 h2 hl,by exact Ar.a117,r1⟩,fun x hx1 hx2=>?_⟩
    rw[inn]
    simp only[pick]
    by_cases hxh:x≤h
    ·rw[if_pos (by exact Ar.a135 hxh hx2)]
     exact⟨fun _=>rfl,fun hn=>absurd (.inl ⟨hx1,hxh⟩) hn⟩
    ·rw[if_neg (by exact Ar.n3 (.im (.no (.l (.v 0) (.v 1))) (.no (.l (.v 0) (.mn (.v 1) (.v 2))))) (by kernel_rfl) hxh)]
     have:=r2 x (by exact Ar.a14 hxh) hx2
     exact⟨fun hi=>this.1 (by rcases hi with hi|hi;exact False.elim (Ar.n3 (.im (.an (.l (.v 0) (.v 1)) (.l (.v 1) (.v 2))) (.im (.no (.l (.v 1) (.v 2))) .ff)) (by kernel_rfl) hi hxh);exact hi),fun hn=>this.2 fun hi=>hn (.inr hi)⟩
   obtain⟨b1,b2⟩:=body
   rw[e]
   split
   ·rename_i hal
    refine⟨⟨by exact Ar.n2 (.im (.t (.v 0) (.v 1)) (.l (.v 0) (.s (.v 1) (.k 1)))) (by kernel_rfl) hal,by exact Ar.a136 hl,by rw[show l - 1+1=l by exact Ar.n2 (.im (.t (.v 1) (.v 0)) (.e (.p (.s (.v 0) (.k 1)) (.k 1)) (.v 0))) (by kernel_rfl) hal];exact b1⟩,fun x hx1 hx2=>?_,fun q hq=>?_,by simp;exact Ar.n2 (.im (.l (.v 0) (.p (.m 2 (.v 1)) (.k 1))) (.l (.p (.v 0) (.k 1)) (.m 2 (.p (.v 1) (.k 1))))) (by kernel_rfl) r4⟩
    ·simp only[List.singleton_append,pick.eq_2 x (l - 1) no]
     by_cases hxl:x≤l - 1
     ·rw[if_pos hxl]
      refine⟨fun hi=>?_,fun _=>rfl⟩
      exfalso
      rcases(inn x).mp hi with hi|hi
      ·exact Ar.n4 (.im (.an (.l (.v 0) (.v 1)) (.l (.v 1) (.v 2))) (.im (.l (.v 1) (.s (.v 0) (.k 1))) (.im (.t (.v 3) (.v 0)) .ff))) (by kernel_rfl) hi hxl hal
      ·have:=rlow x hi;exact False.elim (Ar.n3 (.im (.l (.p (.v 0) (.k 1)) (.v 1)) (.im (.l (.v 1) (.s (.v 2) (.k 1))) (.im (.l (.v 2) (.v 0)) .ff))) (by kernel_rfl) this hxl h2)
     ·rw[if_neg hxl]
      exact b2 x (by exact Ar.n2 (.im (.no (.l (.v 1) (.s (.v 0) (.k 1)))) (.l (.v 0) (.v 1))) (by kernel_rfl) hxl) hx2
    ·rcases List.mem_cons.mp hq with rfl|hq
     ·exact .inr rfl
     ·rcases List.mem_cons.mp hq with rfl|hq
      ·exact .inl rfl
      ·exact r3 q hq
   ·rename_i hal
    have:a=l:=by exact Ar.n2 (.im (.l (.v 0) (.v 1)) (.im (.no (.t (.v 0) (.v 1))) (.e (.v 0) (.v 1)))) (by kernel_rfl) h1 hal
    subst this
    refine⟨b1,b2,fun q hq=>?_,by simp;exact Ar.n2 (.im (.l (.v 0) (.p (.m 2 (.v 1)) (.k 1))) (.l (.v 0) (.m 2 (.p (.v 1) (.k 1))))) (by kernel_rfl) r4⟩
    rcases List.mem_cons.mp hq with rfl|hq
    ·exact .inl rfl
    ·exact r3 q hq
  ·have e:Z3 top yes no a ((l,h)::r)=Z3 top yes no a r:=by simp only[Z3,tl,if_neg hl]
   obtain⟨i1,i2,i3,i4⟩:=Zag (top:=top) (yes:=yes) (no:=no) (h3.low (show a≤h+1 by exact Ar.n4 (.im (.l (.v 0) (.v 2)) (.im (.l (.v 3) (.v 1)) (.im (.no (.l (.v 3) (.v 2))) (.l (.v 0) (.p (.v 1) (.k 1)))))) (by kernel_rfl) ha h2 hl)) ha
   rw[e]
   have inn:∀x,x≤top→(Inn ((l,h)::r) x↔Inn r x):=fun x hx=>by
    simp only[Inn,List.mem_cons,exists_eq_or_imp]
    exact⟨fun h=>by rcases h with h|h;exact False.elim (Ar.n4 (.im (.an (.l (.v 0) (.v 1)) (.l (.v 1) (.v 2))) (.im (.l (.v 1) (.v 3)) (.im (.no (.l (.v 0) (.v 3))) .ff))) (by kernel_rfl) h hx hl);exact h,.inr⟩
   exact⟨i1,fun x h1 h2=>by rw[inn x h2];exact i2 x h1 h2,i3,by simp;exact Ar.n2 (.im (.l (.v 0) (.p (.m 2 (.v 1)) (.k 1))) (.l (.v 0) (.p (.m 2 (.p (.v 1) (.k 1))) (.k 1)))) (by kernel_rfl) i4⟩
section
variable{t c:MObj}{N:List Nd}{m:List (P×P)}{B:Hp}{T:List Nat}{n:Nat}
theorem ZbW{cf:CF}{a0 a1 a2:Option V}{top yes no:Nat}{X:List MObj}:∀{S Q:List (Nat×Nat)} {at_:Nat} {y z:Option V},Q.length+2*S.length<1000→
  ∃y' z',Yj (.tup [8,9]) (We cf) (S.map prt) [a0,a1,a2,some (.p (.int yes)),some (.p (.int no)),some (.p (.int top)),some (.ref (fr B 0)),some (.p (.int (at_:Nat))),y,z] (HB t c N m (B++.lst (Q.map prt)::X))=
   some (.ok .next,[a0,a1,a2,some (.p (.int yes)),some (.p (.int no)),some (.p (.int top)),some (.ref (fr B 0)),some (.p (.int ((tl top yes no at_ S).2:Nat))),y',z'],HB t c N m (B++.lst ((Q++(tl top yes no at_ S).1).map prt)::X))
 |[],Q,at_,y,z,_=>⟨y,z,by simp[Yj,tl]⟩
 |(l,h)::S,Q,at_,y,z,hl=>by
  simp only[List.length_cons]at hl
  have hlim:=ZO
  have hm:(if(top:Int)<(h:Int)then(top:Int)else(h:Int))=((min h top:Nat):Int):=by split<;>(first|exact Ar.a46 (by assumption)|exact Ar.a47 (by assumption))
  have h1:((h:Int)+1)=((h+1:Nat):Int):=by exact Ar.a17
  by_cases hlt:l≤top
  ·have d1:decide ((l:Int)≤(top:Int))=true:=by simp;exact Ar.a20 hlt
   by_cases hal:at_<l
   ·have d2:decide ((at_:Int)<(l:Int))=true:=by simp;exact Ar.a72 hal
    have h2:((l:Int) - 1)=((l - 1:Nat):Int):=by exact Ar.n2 (.im (.t (.v 1) (.v 0)) (.E (.s (.c (.v 0)) (.k 1)) (.c (.s (.v 0) (.k 1))))) (by kernel_rfl) hal
    have q1:decide ((Q.map prt).length<lim)=true:=by simp;exact Ar.a137 hlim hl
    have q2:decide ((Q.map prt++[prt (l - 1,no)]).length<lim)=true:=by simp;exact Ar.a267 hlim hl
    obtain⟨y',z',ih⟩:=ZbW (cf:=cf) (a0:=a0) (a1:=a1) (a2:=a2) (top:=top) (yes:=yes) (no:=no) (X:=X) (S:=S) (Q:=Q++[(l - 1,no)]++[(min h top,yes)]) (at_:=h+1) (y:=some (.p (.int l))) (z:=some (.p (.int h))) (by simp;exact Ar.n2 (.im (.t (.p (.v 0) (.m 2 (.p (.v 1) (.k 1)))) (.k 1000)) (.t (.p (.p (.v 0) (.k 2)) (.m 2 (.v 1))) (.k 1000))) (by kernel_rfl) hl)
    refine⟨y',z',?_⟩
    have e:tl top yes no at_ ((l,h)::S)=([(l - 1,no),(min h top,yes)]++(tl top yes no (h+1) S).1,(tl top yes no (h+1) S).2):=by
     rw[tl,if_pos hlt,if_pos hal];rfl
    rw[show(Q++[(l - 1,no)]++[(min h top,yes)]).map prt=Q.map prt++[prt (l - 1,no)]++[prt (min h top,yes)]by simp]at ih
    rw[e]
    dsimp only
    rw[show Q++([(l - 1,no),(min h top,yes)]++(tl top yes no (h+1) S).1)=Q++[(l - 1,no)]++[(min h top,yes)]++(tl top yes no (h+1) S).1 by simp,← ih]
    apply x_go rfl
    ·unfold We;exact X9 (Zo rfl rfl (x_dc d1)) (Yt (X9 (Zo rfl rfl (x_dc d2)) (Yt (Zc9 rfl (x_at rfl) (Zz (Zh rfl rfl (ZjN h2)) rfl) (YW rfl q1) (ZA (Yt (Zc9 rfl (x_at rfl) (Zz (ZaR rfl rfl Q4) rfl) (YW rfl q2) (Yt (ZR (Zh rfl rfl (YX h1)) (ZA rfl))))))))))
    ·exact rfl
   ·have d2:decide ((at_:Int)<(l:Int))=false:=by simp;exact Ar.a134 hal
    have q1:decide ((Q.map prt).length<lim)=true:=by simp;exact Ar.a137 hlim hl
    obtain⟨y',z',ih⟩:=ZbW (cf:=cf) (a0:=a0) (a1:=a1) (a2:=a2) (top:=top) (yes:=yes) (no:=no) (X:=X) (S:=S) (Q:=Q++[(min h top,yes)]) (at_:=h+1) (y:=some (.p (.int l))) (z:=some (.p (.int h))) (by simp;exact Ar.n2 (.im (.t (.p (.v 0) (.m 2 (.p (.v 1) (.k 1)))) (.k 1000)) (.t (.p (.p (.v 0) (.k 1)) (.m 2 (.v 1))) (.k 1000))) (by kernel_rfl) hl)
    refine⟨y',z',?_⟩
    have e:tl top yes no at_ ((l,h)::S)=([(min h top,yes)]++(tl top yes no (h+1) S).1,(tl top yes no (h+1) S).2):=by
     rw[tl,if_pos hlt,if_neg hal];rfl
    rw[show(Q++[(min h top,yes)]).map prt=Q.map prt++[prt (min h top,yes)]by simp]at ih
    rw[e]
    dsimp only
    rw[← List.append_assoc,← ih]
    apply x_go rfl
    ·unfold We;exact X9 (Zo rfl rfl (x_dc d1)) (Yt (Xh (Zo rfl rfl (x_dc d2)) (ZA (Yt (Zc9 rfl (x_at rfl) (Zz (ZaR rfl rfl Q4) rfl) (YW rfl q1) (Yt (ZR (Zh rfl rfl (YX h1)) (ZA rfl))))))))
    ·exact rfl
  ·have d1:decide ((l:Int)≤(top:Int))=false:=by simp;exact Ar.a73 hlt
   obtain⟨y',z',ih⟩:=ZbW (cf:=cf) (a0:=a0) (a1:=a1) (a2:=a2) (top:=top) (yes:=yes) (no:=no) (X:=X) (S:=S) (Q:=Q) (at_:=at_) (y:=some (.p (.int l))) (z:=some (.p (.int h))) (by exact Ar.n2 (.im (.t (.p (.v 0) (.m 2 (.p (.v 1) (.k 1)))) (.k 1000)) (.t (.p (.v 0) (.m 2 (.v 1))) (.k 1000))) (by kernel_rfl) hl)
   refine⟨y',z',?_⟩
   have e:tl top yes no at_ ((l,h)::S)=tl top yes no at_ S:=by rw[tl,if_neg hlt]
   rw[e,← ih]
   apply x_go rfl
   ·unfold We;exact Xh (Zo rfl rfl (x_dc d1)) (ZA rfl)
   ·exact rfl
end
end
section
set_option maxHeartbeats 4000000
section
variable{t c:MObj}{N:List Nd}{M:List (Ky×Nat)}{B:Hp}{T:List Nat}{n:Nat}
theorem Zjf(hT:Tops T){v j l1 h1 l2 h2 yes no:Nat}(W:WF T N)(O:MOk T N M)(hv:v<3)(hy:yes<N.length)(hn:no<N.length)(ly:v<lvl N yes)(ln:v<lvl N no)(hN:N.length<cap)(a1:l1≤h1)(a2:l2≤h2)(hj:B[j]?=some (.lst [prt (l1,h1),prt (l2,h2)])∨B[j]?=some (.frz [prt (l1,h1),prt (l2,h2)])):
  ∃N' r,Zg tab (n+3) 10 [dv T,.p (.int v),.ref (j+5),.p (.int yes),.p (.int no)] (HB t c N (memP M) B)=some (.ok (.p (.int (r:Nat))),HB t c N' (memP M) B)∧Grow T N M N' M 1∧r<N'.length∧v≤lvl N' r∧∀f,Fit T f→(Inn [(l1,h1),(l2,h2)] (f v)→sem N' f r=sem N f yes)∧(¬Inn [(l1,h1),(l2,h2)] (f v)→sem N' f r=sem N f no):=by
 have hcap:cap=90000:=rfl
 have hlim:=ZO
 have hjl:j<B.length:=by rcases hj with h|h<;>exact(List.getElem?_eq_some_iff.mp h).1
 have ta:=Yv hT.len hv (σ:=HB t c N (memP M) B)
 have l5:=YY (t:=t) (c:=c) (m:=memP M) (B:=B) (n:=n+1) hT.len hy
 have l6:=YY (t:=t) (c:=c) (m:=memP M) (B:=B) (n:=n+1) hT.len hn
 have d0:decide (((min (lvl N yes) (lvl N no):Nat):Int)≤(v:Int))=false:=by simp only[decide_eq_false_iff_not];exact Ar.n3 (.im (.t (.v 2) (.v 0)) (.im (.t (.v 2) (.v 1)) (.no (.L (.c (.mn (.v 0) (.v 1))) (.c (.v 2)))))) (by kernel_rfl) ly ln
 obtain⟨S,t1,t2,t3,t4⟩:=Zje (t:=t) (c:=c) (N:=N) (m:=memP M) (B:=B++[.lst []]) (n:=n+1) (j:=j) a1 a2 (by rw[List.getElem?_append_left hjl];exact hj)
 obtain⟨y',z',g⟩:=ZbW (t:=t) (c:=c) (N:=N) (m:=memP M) (B:=B) (cf:=Zg tab (n+2)) (a0:=some (dv T)) (a1:=some (.p (.int v))) (a2:=some (.ref (j+5))) (top:=tp T v) (yes:=yes) (no:=no) (X:=[.frz (S.map prt)]) (S:=S) (Q:=[]) (at_:=0) (y:=none) (z:=none) (by simp;exact Ar.n1 (.im (.l (.v 0) (.k 2)) (.t (.m 2 (.v 0)) (.k 1000))) (by kernel_rfl) t3)
 rw[nc0]at g
 obtain⟨p1,p2,p3,p4⟩:=Zag (top:=tp T v) (yes:=yes) (no:=no) t2 (Nat.zero_le _)
 have htp:=hT.le v
 have hps:∀x∈Z3 (tp T v) yes no 0 S,x.2<N.length∧v<lvl N x.2:=fun x hx=>by
  rcases p3 x hx with e|e<;>rw[e]
  ·exact⟨hy,ly⟩
  ·exact⟨hn,ln⟩
 obtain⟨N',r,m1,m2⟩:=QR (t:=t) (c:=c) (m:=memP M) (B:=B++[.lst ((Z3 (tp T v) yes no 0 S).map prt),.frz (S.map prt)]) (T:=T) (n:=n) (j:=B.length) (v:=v) (ps:=Z3 (tp T v) yes no 0 S) W hT hv p1 hps (by exact Ar.a70 hcap hlim hN) (by exact Ar.n2 (.im (.l (.v 0) (.p (.m 2 (.v 1)) (.k 1))) (.im (.l (.v 1) (.k 2)) (.t (.v 0) (.k 1000)))) (by kernel_rfl) p4 t3) (.inl (by simp))
 have hset:(B++[MObj.lst ((Z3 (tp T v) yes no 0 S).map prt),.frz (S.map prt)]).set B.length (.frz ((Z3 (tp T v) yes no 0 S).map prt))=B++[.frz ((Z3 (tp T v) yes no 0 S).map prt),.frz (S.map prt)]:=by simp
 rw[hset]at m1
 have m1:Zg tab (n+2) 3 [dv T,.p (.int v),.ref (fr B 0)] (HB t c N (memP M) (B++[.lst ((Z3 (tp T v) yes no 0 S).map prt),.frz (S.map prt)]))=some (.ok (.p (.int (r:Nat))),HB t c N' (memP M) (B++[.frz ((Z3 (tp T v) yes no 0 S).map prt),.frz (S.map prt)])):=m1
 obtain⟨E,x1,x2⟩:=m2.ext
 refine⟨N',r,?_,⟨⟨E,x1,x2⟩,by exact Ar.a6,m2.wf,x1▸O.app⟩,m2.lt,m2.lv,fun f hf=>?_⟩
 ·rw[List.nil_append]at g
  rw[List.map_nil]at g
  simp only[Zdt,List.append_assoc,List.cons_append,List.nil_append,List.length_cons,List.length_nil,Nat.reduceAdd]at t1
  have hq:decide (((tl (tp T v) yes no 0 S).1.map prt).length<lim)=true:=by
   rw[List.length_map]
   have:(tl (tp T v) yes no 0 S).1.length≤(Z3 (tp T v) yes no 0 S).length:=by simp[Z3]
   simp;exact Ar.a274 hlim this p4 t3
  have hlen:((tl (tp T v) yes no 0 S).1.map prt).length=(tl (tp T v) yes no 0 S).1.length:=by simp
  by_cases hle:(tl (tp T v) yes no 0 S).2≤tp T v
  ·have d1:decide ((((tl (tp T v) yes no 0 S).2:Nat):Int)≤(tp T v:Nat))=true:=by simp;exact Ar.a20 hle
   have e:(Z3 (tp T v) yes no 0 S).map prt=(tl (tp T v) yes no 0 S).1.map prt++[.tuple [.int (tp T v:Nat),.int no]]:=by
    rw[Z3,if_pos hle,List.map_append];rfl
   rw[e]at m1
   exact Zn rfl rfl (Xh (Zo (ZaR (ZE rfl (Zc rfl Zk) l5) (ZE rfl (Zc rfl Zk) l6) Q4) rfl (x_dc d0)) (ZA (ZR (Zh rfl rfl ta) (ZR rfl (ZR rfl (Zk7 (XA (Zp (Zc rfl Zk) t1) (Q3 rfl)) g (X9 (Zo rfl rfl (x_dc d1)) (Yt (Zc9 rfl (x_at rfl) (Zz rfl rfl) (YW rfl hq) (ZA (Xs (ZE rfl (Zc rfl (Zc rfl Zk)) m1) rfl))))))))))) (ZI rfl)
  ·have d1:decide ((((tl (tp T v) yes no 0 S).2:Nat):Int)≤(tp T v:Nat))=false:=by simp;exact Ar.a73 hle
   have e:(Z3 (tp T v) yes no 0 S).map prt=(tl (tp T v) yes no 0 S).1.map prt:=by
    rw[Z3,if_neg hle,List.append_nil]
   rw[e]at m1
   exact Zn rfl rfl (Xh (Zo (ZaR (ZE rfl (Zc rfl Zk) l5) (ZE rfl (Zc rfl Zk) l6) Q4) rfl (x_dc d0)) (ZA (ZR (Zh rfl rfl ta) (ZR rfl (ZR rfl (Zk7 (XA (Zp (Zc rfl Zk) t1) (Q3 rfl)) g (Xh (Zo rfl rfl (x_dc d1)) (ZA (Xs (ZE rfl (Zc rfl (Zc rfl Zk)) m1) rfl))))))))) (ZI rfl)
 ·have hpk:=m2.pk (f v) (hf v)
  have hs:sem N' f r=sem N' f (pick (Z3 (tp T v) yes no 0 S) (f v)):=by rw[← hpk];exact(XE m2.wf hf).symm
  have:=p2 (f v) (Nat.zero_le _) (hf v)
  refine⟨fun hi=>?_,fun hi=>?_⟩
  ·rw[hs,this.1 ((t4 _).mpr hi),x1,YN hy]
  ·rw[hs,this.2 fun h=>hi ((t4 _).mp h),x1,YN hn]
theorem ZcN(hT:Tops T){v yes no:Nat}{sp:V}(hy:yes<N.length)(hn:no<N.length)(h:min (lvl N yes) (lvl N no)≤v):
  Zg tab (n+3) 10 [dv T,.p (.int v),sp,.p (.int yes),.p (.int no)] (HB t c N (memP M) B)=some (.exc Yc "a test ahead of which another stands",HB t c N (memP M) B):=by
 have l5:=YY (t:=t) (c:=c) (m:=memP M) (B:=B) (n:=n+1) hT.len hy
 have l6:=YY (t:=t) (c:=c) (m:=memP M) (B:=B) (n:=n+1) hT.len hn
 have d0:decide (((min (lvl N yes) (lvl N no):Nat):Int)≤(v:Int))=true:=by simp only[decide_eq_true_eq];exact Ar.n3 (.im (.l (.mn (.v 0) (.v 1)) (.v 2)) (.L (.c (.mn (.v 0) (.v 1))) (.c (.v 2)))) (by kernel_rfl) h
 exact ZbO rfl rfl Qe (Yu (Y4 (Zo (ZaR (ZE rfl (Zc rfl Zk) l5) (ZE rfl (Zc rfl Zk) l6) Q4) rfl (x_dc d0)) (Yu rfl)))
theorem ZcP(hT:Tops T){j v:Nat}{ps:List (Nat×Nat)}{u:Nat}(hv:v<3)(hr:Rise 0 ps u)(hne:ps≠[])(hu:u<tp T v)(hlen:ps.length<1000)(hj:B[j]?=some (.lst (ps.map prt))∨B[j]?=some (.frz (ps.map prt))):
  Zg tab (n+1) 3 [dv T,.p (.int v),.ref (j+5)] (HB t c N (memP M) B)=some (.exc Yc "parts that do not rise up to the top",HB t c N (memP M) (B.set j (.frz (ps.map prt)))):=by
 have hjl:j<B.length:=by rcases hj with h|h<;>exact(List.getElem?_eq_some_iff.mp h).1
 have sl:asP (.ref (j+5)) (HB t c N (memP M) (B++[.lst []]))=some (.ok (.list (ps.map prt)),HB t c N (memP M) (B.set j (.frz (ps.map prt))++[.lst []])):=by
  rcases hj with h|h
  ·rw[ZaM (l:=ps.map prt) (by rw[YL,List.getElem?_append_left hjl];exact h),Qf,List.set_append_left _ _ hjl]
  ·rw[Zc5 (l:=ps.map prt) (by rw[YL,List.getElem?_append_left hjl];exact h)]
   have:B.set j (.frz (ps.map prt))=B:=by
    obtain⟨h1,h2⟩:=List.getElem?_eq_some_iff.mp h
    rw[← h2,List.set_getElem_self]
   rw[this]
 have hbl:B.length=(B.set j (.frz (ps.map prt))).length:=List.length_set.symm
 generalize hB':B.set j (.frz (ps.map prt))=B' at *
 obtain⟨l',e⟩:=Zeh (cf:=Zg tab n) (a0:=some (dv T)) (a1:=some (.p (.int v))) (a2:=some (.ref (j+5))) (tp0:=some (.p (.int (tp T v)))) (k:=fr B' 0) (J:=[]) (y:=none) (z:=none) (at_:= -1) (σ:=HB t c N (memP M) (B'++[.lst []])) hr (by exact Ar.a138) (by rw[ZdC];rfl) (by simpa using hlen)
 rw[if_neg hne,Zfe,X8]at e
 have d:decide ((u:Int)=(tp T v:Nat))=false:=decide_eq_false (by exact Ar.a139 hu)
 exact ZbO rfl rfl ((congrArg (fun k=>(HB t c N (memP M) (B'++[.lst ((XI ps).map prt)])).take k) (Zfk hbl)).trans ZaP) (Zf (Zi (ZgB (Zfk hbl))) (Zf (Zi (Zh rfl rfl (Yv hT.len hv))) (Zf (Zi rfl) (Zf (Y5 (XA rfl sl) e) (Yu (Y4 (Zo rfl rfl (x_ne d)) (Yu rfl)))))))
end
end
section
theorem WK:∀{S L:List Nat},S.Nodup→(∀x∈S,x∈L)→S.length≤L.length
 |[],_,_,_=>Nat.zero_le _
 |a::S,L,hn,hs=>by
  have ha:=hs a (by simp)
  rw[List.nodup_cons]at hn
  have:=WK (S:=S) (L:=L.erase a) hn.2 fun x hx=>(List.mem_erase_of_ne (fun e=>hn.1 (by rw[← e];exact hx))).mpr (hs x (by simp[hx]))
  rw[List.length_erase_of_mem ha]at this
  have:=List.length_pos_of_mem ha
  simp;exact Ar.n2 (.im (.l (.v 0) (.s (.v 1) (.k 1))) (.im (.t (.k 0) (.v 1)) (.l (.p (.v 0) (.k 1)) (.v 1)))) (by kernel_rfl) (by assumption) this
theorem ZfS{S L:List Nat}(h1:S.Nodup)(h2:L.Nodup)(h:∀x,x∈S↔x∈L):S.length=L.length:=
 Nat.le_antisymm (WK h1 fun x hx=>(h x).mp hx) (WK h2 fun x hx=>(h x).mpr hx)
theorem Zce{S:List Nat}{n:Nat}(h1:S.Nodup)(h:∀x∈S,x<n):S.length≤n:=by
 have:=WK (L:=List.range n) h1 fun x hx=>by simpa using h x hx
 simpa using this
noncomputable def idP(S:List Nat):List (Int×P):=S.map fun(k:Nat)=>((k:Int),PyData.bool true)
theorem Zfh:∀{S:List Nat} {x:Nat},x∈S→Qs (x:Int) (idP S)=some (.bool true)
 |a::S,x,h=>by
  rw[idP,List.map_cons,Qs]
  split
  ·rfl
  ·rename_i hne
   rcases List.mem_cons.mp h with rfl|h
   ·exact absurd rfl hne
   ·exact Zfh h
theorem Zfi:∀{S:List Nat} {x:Nat},x∉S→Qs (x:Int) (idP S)=none∧putI (x:Int) (.bool true) (idP S)=idP (S++[x])
 |[],x,h=>⟨rfl,rfl⟩
 |a::S,x,h=>by
  have ha:¬((a:Int)=x):=fun e=>h (by rw[show a=x by exact Ar.a11 e];simp)
  obtain⟨i1,i2⟩:=Zfi (S:=S) (x:=x) fun hh=>h (by simp[hh])
  rw[idP,List.map_cons,Qs,putI]
  dsimp only
  rw[if_neg ha,if_neg ha]
  exact⟨i1,by rw[show List.map (fun k:Nat=>((k:Int),PyData.bool true)) S=idP S from rfl,i2];rfl⟩
inductive Rch(N:List Nd):Nat→Nat→Prop where
 |refl (n:Nat):Rch N n n
 |step {n k j:Nat} {ps:List (Nat×Nat)} {q:Nat×Nat}:Rch N n k→N[k]?=some (.br j ps)→q∈ps→Rch N n q.2
theorem Rch.lt{T:List Nat}{N:List Nd}(W:WF T N){n k:Nat}(h:Rch N n k)(hn:n<N.length):k<N.length:=by
 induction h with
 |refl=>exact hn
 |step _ e hq ih=>exact Nat.lt_trans ((W.ok _ _ e).2.2.2.2 _ hq).1 ih
section
variable{t c:MObj}{N:List Nd}{m:List (P×P)}{B:Hp}{T:List Nat}{n:Nat}
theorem Zm7{σ:Hp}{j:Nat}{i:Int}{l:List (Int×P)}{b:Bool}(h:σ[j]?=some (.idct l))(hl:(Qs i l).isSome=b):Xz (.p (.int i)) (.ref j) σ=some (.ok (!b),σ):=
 h_b (a:=b) (σ1:=σ) (h_p (ZW h (hl▸rfl))) rfl
theorem Zm5{σ:Hp}{j:Nat}{i:Int}{p:P}{l l':List (Int×P)}(h:σ[j]?=some (.idct l))(hl:decide (l.length<lim)=true)(e:putI i p l=l'):setV (.ref j) (.p (.int i)) (.p p) σ=some (.ok (),σ.set j (.idct l')):=
 h_b rfl (ZW h (h_i1 (h_if hl (e▸rfl))))
noncomputable abbrev szL(B:Hp)(a0 a1 a4 a5 y z:Option V):Loc:=[a0,a1,some (.ref (fr B 0)),some (.ref (fr B 1)),a4,a5,y,z]
noncomputable abbrev szH(t c:MObj)(N:List Nd)(m:List (P×P))(B:Hp)(S K:List Nat):Hp:=HB t c N m (B++[.idct (idP S),.lst (K.map i1P)])
inductive SzF(t c:MObj)(N:List Nd)(m:List (P×P))(B:Hp)(a0 a1 a4 a5:Option V)(S K:List Nat)(ps:List (Nat×Nat))(o:Option (R Out×Loc×Hp)):Prop
 |mk (y z:Option V) (E:List Nat):o=some (.ok .next,szL B a0 a1 a4 a5 y z,szH t c N m B (S++E) (K++E))→(S++E).Nodup→(∀x∈E,∃h,(h,x)∈ps)→(∀q∈ps,q.2∈S++E)→SzF t c N m B a0 a1 a4 a5 S K ps o
theorem ZiG{cf:CF}{a0 a1 a4 a5:Option V}{ps:List (Nat×Nat)}:∀{S K:List Nat} {y z:Option V},S.Nodup→S.length+ps.length<100000→K.length+ps.length<100000→
  SzF t c N m B a0 a1 a4 a5 S K ps (Yj (.tup [6,7]) (YS cf) (ps.map prt) (szL B a0 a1 a4 a5 y z) (szH t c N m B S K)):=by
 induction ps with
 |nil=>exact fun{S K y z} hS _ _=>⟨y,z,[],by rw[List.append_nil,List.append_nil];rfl,by rw[List.append_nil];exact hS,(fun _ h=>nomatch h),fun _ h=>nomatch h⟩
 |cons q ps ih=>
  intro S K y z hS h1 h2
  obtain⟨h,x⟩:=q
  rw[List.length_cons]at h1 h2
  by_cases hx:x∈S
  ·cases ih (S:=S) (K:=K) (y:=some (.p (.int h))) (z:=some (.p (.int x))) hS (by exact Ar.a140 h1) (by exact Ar.a140 h2)with
   |mk y' z' E e1 e2 e3 e4=>
    exact⟨y',z',E,x_go rfl (Zf (ZU (Zo rfl rfl (Zm7 (b:=true) (x_at (k:=0) rfl) (by rw[Zfh hx];rfl))) rfl) rfl) e1,e2,fun x hx=>(e3 x hx).imp fun _=>List.mem_cons_of_mem _,fun q hq=>(List.mem_cons.mp hq).elim (fun e=>e▸List.mem_append_left _ hx) (e4 q)⟩
  ·obtain⟨i1,i2⟩:=Zfi hx
   cases ih (S:=S++[x]) (K:=K++[x]) (y:=some (.p (.int h))) (z:=some (.p (.int x))) (by
    rw[List.nodup_append]
    exact⟨hS,by simp,fun a ha b hb e=>hx (by rw[← List.mem_singleton.mp hb,← e];exact ha)⟩) (by simp;exact Ar.a141 h1) (by simp;exact Ar.a141 h2)with
   |mk y' z' E e1 e2 e3 e4=>
    rw[List.append_assoc,List.singleton_append]at e2
    rw[List.append_assoc,List.append_assoc,List.singleton_append]at e1
    have q1:decide ((idP S).length<lim)=true:=Zek (by rw[idP,List.length_map];exact Nat.lt_of_add_right_lt (Nat.lt_of_succ_lt_succ h1))
    have q2:decide ((K.map i1P).length<lim)=true:=Zek (by rw[List.length_map];exact Nat.lt_of_add_right_lt (Nat.lt_of_succ_lt_succ h2))
    refine⟨y',z',x::E,x_go rfl (Zf (Y4 (Zo rfl rfl (Zm7 (b:=false) (x_at (k:=0) rfl) (by rw[i1];rfl))) (Zf (Qi rfl rfl rfl ((Zm5 (x_at (k:=0) rfl) q1 i2).trans (by rw[X8]))) (Zf (W6 rfl (x_at (k:=1) rfl) rfl (YW (k:=1) rfl q2)) rfl))) rfl) (by rw[szH,List.map_append]at e1;exact e1),e2,fun x' hx'=>(List.mem_cons.mp hx').elim (fun e=>⟨h,e▸List.mem_cons_self⟩) fun hx'=>(e3 x' hx').imp fun _=>List.mem_cons_of_mem _,fun q hq=>?_⟩
    have em:∀y,y∈(S++[x])++E→y∈S++x::E:=fun y h=>by rw[List.append_assoc]at h;exact h
    rcases List.mem_cons.mp hq with rfl|hq
    ·exact em _ (List.mem_append_left _ (List.mem_append_right _ List.mem_cons_self))
    ·exact em _ (e4 q hq)
end
end
section
section
variable{t c:MObj}{N:List Nd}{m:List (P×P)}{B:Hp}{T:List Nat}{n:Nat}
structure SzI(N:List Nd)(root:Nat)(S K:List Nat):Prop where
 nd:S.Nodup
 rch:∀x∈S,Rch N root x
 sub:∀x∈K,x∈S
 cl:∀x∈S,x∉K→∀j ps,N[x]?=some (.br j ps)→∀q∈ps,q.2∈S
 le:K.length≤S.length
inductive SzW(t c:MObj)(N:List Nd)(m:List (P×P))(B:Hp)(a0 a1:Option V)(root:Nat)(S:List Nat)(o:Option (R Out×Loc×Hp)):Prop
 |mk (S':List Nat) (x4 x5 x6 x7:Option V):o=some (.ok .next,szL B a0 a1 x4 x5 x6 x7,szH t c N m B S' [])→SzI N root S' []→(∀x∈S,x∈S')→SzW t c N m B a0 a1 root S o
theorem SzI.leaf{root x:Nat}{v:P}{S K:List Nat}(I:SzI N root S (K++[x]))(e:N[x]?=some (.leaf v)):SzI N root S K where
 nd:=I.nd
 rch:=I.rch
 sub:=fun y hy=>I.sub y (List.mem_append_left _ hy)
 cl:=fun y hy hk j ps ej=>by
  by_cases hyx:y=x
  ·rw[hyx,e]at ej;cases ej
  ·exact I.cl y hy (fun h=>(List.mem_append.mp h).elim hk fun h=>hyx (List.mem_singleton.mp h)) j ps ej
 le:=Nat.le_trans (Nat.le_succ _) (by have:=I.le;rw[List.length_append]at this;exact this)
theorem SzI.br{root x j:Nat}{ps:List (Nat×Nat)}{S K E:List Nat}(I:SzI N root S (K++[x]))(e:N[x]?=some (.br j ps))(f2:(S++E).Nodup)(f3:∀x∈E,∃h,(h,x)∈ps)(f4:∀q∈ps,q.2∈S++E):SzI N root (S++E) (K++E) where
 nd:=f2
 rch:=fun y hy=>(List.mem_append.mp hy).elim (I.rch y) fun hy=>(f3 y hy).elim fun h hm=>(I.rch x (I.sub x (List.mem_append_right _ List.mem_cons_self))).step e hm
 sub:=fun y hy=>(List.mem_append.mp hy).elim (fun h=>List.mem_append_left _ (I.sub y (List.mem_append_left _ h))) (List.mem_append_right _)
 cl:=fun y hy hk j' ps' ej q hq=>by
  by_cases hyx:y=x
  ·rw[hyx,e]at ej;cases ej;exact f4 q hq
  ·rcases List.mem_append.mp hy with hy|hy
   ·exact List.mem_append_left _ (I.cl y hy (fun h=>(List.mem_append.mp h).elim (fun h=>hk (List.mem_append_left _ h)) fun h=>hyx (List.mem_singleton.mp h)) j' ps' ej q hq)
   ·exact absurd (List.mem_append_right _ hy) hk
 le:=by
  have:=I.le
  rw[List.length_append]at this
  rw[List.length_append,List.length_append];exact Nat.add_le_add_right (Nat.le_trans (Nat.le_succ _) this) _
theorem Zak{cf:CF}{a0 a1 x4 x5 x6 x7:Option V}{S K:List Nat}{b:Bool}(h:decide ((0:Int)<((K.map i1P).length:Nat))=b):Yk cf (szL B a0 a1 x4 x5 x6 x7) (szH t c N m B S K)=some (.ok b,szH t c N m B S K):=
 Zo (ZV rfl (Qj (k:=1) rfl)) rfl (x_dc h)
theorem size_pop{a0 x4 x5 x6 x7:Option V}{S K:List Nat}{x:Nat}{nd:Nd}(e:N[x]?=some nd){l':Loc}{ps:List P}(hp:ndP nd=.tuple ps)(hs:Wy [4,5] ps (szL B (some (dv T)) a0 x4 x5 x6 x7)=some l'):
  Zy [4,5] (eDia (Zg tab (n+1)) 4 (Za 0) [(Z7 mPop (Za 3) [])]) (szL B (some (dv T)) a0 x4 x5 x6 x7) (szH t c N m B S (K++[x]))=some (.ok .next,l',szH t c N m B S K):=
 ZD (ZE rfl (Zc (ZcC (k:=fr B 1) rfl (x_at (k:=1) rfl) Zk (ZjO (k:=1) (L:=K.map i1P) (q:=.int (x:Int)) (by rw[List.map_append];rfl))) Zk) ((ZZ (T:=T) (B:=B++[.idct (idP S),.lst (K.map i1P)]) e n).trans (by rw[hp]))) hs
theorem ZfE{root:Nat}(hT:Tops T)(W:WF T N)(hN:N.length<cap)(hroot:root<N.length)(fuel:Nat):∀{S K:List Nat} {x4 x5 x6 x7:Option V},SzI N root S K→(N.length - S.length)+K.length<fuel→
  SzW t c N m B (some (dv T)) (some (.p (.int root))) root S (Z6 (Yk (Zg tab (n+1))) (YR (Zg tab (n+1))) fuel (szL B (some (dv T)) (some (.p (.int root))) x4 x5 x6 x7) (szH t c N m B S K)):=by
 induction fuel with
 |zero=>exact fun _ h=>absurd h (Nat.not_lt_zero _)
 |succ fuel ih=>
  intro S K x4 x5 x6 x7 I h
  have sl:S.length≤N.length:=Zce I.nd fun x hx=>(I.rch x hx).lt W hroot
  rcases List.eq_nil_or_concat K with rfl|⟨K,x,rfl⟩
  ·exact⟨S,x4,x5,x6,x7,x_wf (Zak rfl),I,fun x hx=>hx⟩
  ·rw[List.concat_eq_append]at I h ⊢
   have hx:=I.sub x (List.mem_append_right _ List.mem_cons_self)
   have hxl:=(I.rch x hx).lt W hroot
   have e:N[x]?=some N[x]:=List.getElem?_eq_getElem hxl
   have d:decide ((0:Int)<(((K++[x]).map i1P).length:Nat))=true:=decide_eq_true (by rw[List.length_map,List.length_append];exact Int.ofNat_lt.mpr (Nat.succ_pos _))
   have h5:=I.le
   rw[List.length_append]at h h5
   cases hn:N[x]with
   |leaf v=>
    rw[hn]at e
    cases ih (x4:=some (.p (.str "leaf"))) (x5:=some (.p v)) (x6:=x6) (x7:=x7) (I.leaf e) (by exact Ar.n4 (.im (.t (.p (.s (.v 0) (.v 1)) (.p (.v 2) (.p (.k 0) (.k 1)))) (.p (.v 3) (.k 1))) (.t (.p (.s (.v 0) (.v 1)) (.v 2)) (.v 3))) (by kernel_rfl) h)with
    |mk S' y4 y5 y6 y7 i1 i2 i3=>exact⟨S',y4,y5,y6,y7,x_wt (Zak d) (Zf (size_pop (T:=T) (n:=n) e rfl rfl) (Zf (ZU (Zo rfl rfl (QM X6)) rfl) rfl)) i1,i2,i3⟩
   |br j ps=>
    rw[hn]at e
    have hpl:ps.length≤tp T j+1:=by have:=(W.ok _ _ e).2.1.len;exact Ar.a143 this
    have htp:=hT.le j
    have hcap:cap=90000:=rfl
    cases ZiG (t:=t) (c:=c) (N:=N) (m:=m) (B:=B) (cf:=Zg tab (n+1)) (a0:=some (dv T)) (a1:=some (.p (.int root))) (a4:=some (.p (.int j))) (a5:=some (.p (.tuple (ps.map prt)))) (ps:=ps) (S:=S) (K:=K) (y:=x6) (z:=x7) I.nd (by exact Ar.a279 hN hcap sl hpl htp) (by exact Ar.a280 hN hcap sl h5 hpl htp)with
    |mk y' z' E f1 f2 f3 f4=>
     have J:=I.br e f2 f3 f4
     have sl2:(S++E).length≤N.length:=Zce f2 fun x hx=>(J.rch x hx).lt W hroot
     rw[List.length_append]at sl2
     cases ih (x4:=some (.p (.int j))) (x5:=some (.p (.tuple (ps.map prt)))) (x6:=y') (x7:=z') J (by rw[List.length_append,List.length_append];exact Ar.n5 (.im (.l (.p (.v 1) (.v 2)) (.v 0)) (.im (.t (.p (.s (.v 0) (.v 1)) (.p (.v 3) (.p (.k 0) (.k 1)))) (.p (.v 4) (.k 1))) (.t (.p (.s (.v 0) (.p (.v 1) (.v 2))) (.p (.v 3) (.v 2))) (.v 4)))) (by kernel_rfl) sl2 h)with
     |mk S' y4 y5 y6 y7 i1 i2 i3=>exact⟨S',y4,y5,y6,y7,x_wt (Zak d) (Zf (size_pop (T:=T) (n:=n) e rfl rfl) (Zf (Y4 (Zo rfl rfl (QM WU)) (Zf (Y5 (Zaa rfl) f1) rfl)) rfl)) i1,i2,fun y hy=>i3 y (List.mem_append_left _ hy)⟩
inductive SzR(t c:MObj)(N:List Nd)(m:List (P×P))(B:Hp)(r:Nat)(o:Option (R V×Hp)):Prop
 |mk (S:List Nat):o=some (.ok (.p (.int (S.length:Nat))),HB t c N m B)→S.Nodup→(∀x,x∈S↔Rch N r x)→SzR t c N m B r o
theorem Zjh(hT:Tops T)(W:WF T N)(hN:N.length<cap){r:Nat}(hr:r<N.length):SzR t c N m B r (Zg tab (n+2) 16 [dv T,.p (.int r)] (HB t c N m B)):=by
 have hcap:cap=90000:=rfl
 cases ZfE (t:=t) (c:=c) (m:=m) (B:=B) (n:=n) hT W hN hr lim (S:=[r]) (K:=[r]) (x4:=none) (x5:=none) (x6:=none) (x7:=none) ⟨by simp,(fun x hx=>by rw[List.mem_singleton.mp hx];exact .refl _),(fun x hx=>hx),(fun x h1 h2=>absurd h1 h2),Nat.le_refl _⟩ (by have hlim:=ZO;simp;exact Ar.a283 hcap hlim hN)with
 |mk S x4 x5 x6 x7 e1 I e4=>
  have hl:(idP S).length=S.length:=List.length_map _
  refine⟨S,Zn rfl rfl (Zf (Zi (v:=.ref (fr B 0)) (σ':=HB t c N m (B++[.idct [((r:Int),.bool true)]])) (h_b rfl (h_i1 rfl))) (Zf (Zi (ZeD (R:=[.idct [((r:Int),.bool true)]]) rfl)) (Zf e1 (ZG (ZV rfl (ZW (x_at (k:=0) rfl) rfl)))))) ((ZI (d:=.int ((idP S).length:Nat)) rfl).trans (by rw[hl])),I.nd,fun x=>⟨I.rch x,fun h=>?_⟩⟩
  induction h with
  |refl=>exact e4 r List.mem_cons_self
  |step h e hq ih=>exact I.cl _ ih (fun h=>nomatch h) _ _ e _ hq
end
end
section
noncomputable def wyCh(j:Nat):Nat→List P→List (Nat×Nat)→List (Nat×List P)
 |_,_,[]=>[]
 |lo,path,(h,c)::r=>(c,path++[.tuple [.int j,.tuple [.int lo,.int h]]])::wyCh j (h+1) path r
noncomputable def wyD(N:List Nd):Nat→Nat→List P→List P
 |0,n,path=>[.tuple [.tuple path,sem N z0 n]]
 |d+1,n,path=>match N[n]? with
  |some (.br j ps)=>(wyCh j 0 path ps).flatMap fun x=>wyD N d x.1 x.2
  |_=>[.tuple [.tuple path,sem N z0 n]]
noncomputable def wy(N:List Nd)(n:Nat)(path:List P):List P:=wyD N 3 n path
theorem XB{j:Nat}:∀{ps:List (Nat×Nat)} {lo:Nat} {path:List P} {x:Nat×List P},x∈wyCh j lo path ps→(∃h,(h,x.1)∈ps)∧∃a b:Nat,x.2=path++[.tuple [.int j,.tuple [.int a,.int b]]]
 |[],_,_,_,h=>by cases h
 |(hh,c)::r,lo,path,x,h=>by
  rcases List.mem_cons.mp h with rfl|h
  ·exact⟨⟨hh,by simp⟩,_,_,rfl⟩
  ·obtain⟨⟨h',m⟩,e⟩:=XB h
   exact⟨⟨h',by simp[m]⟩,e⟩
theorem ZbR{j:Nat}:∀{ps:List (Nat×Nat)} {lo:Nat} {path:List P},(wyCh j lo path ps).length=ps.length
 |[],_,_=>rfl
 |(hh,c)::r,lo,path=>by simp[wyCh,ZbR]
theorem ZhU{α β:Type}{f:α→List β}{w:Nat}:∀{l:List α},(∀x∈l,(f x).length≤w)→(l.flatMap f).length≤w*l.length
 |[],_=>by simp
 |x::l,h=>by
  have h1:=h x (by simp)
  have h2:=ZhU (l:=l) fun y hy=>h y (by simp[hy])
  rw[List.flatMap_cons,List.length_append,List.length_cons,Nat.mul_succ];exact Ar.a144 h1 h2
section
variable{T:List Nat}{N:List Nd}
theorem ZiA(W:WF T N):∀(d d' n:Nat) (path:List P),n<N.length→3 - lvl N n≤d→3 - lvl N n≤d'→wyD N d n path=wyD N d' n path:=by
 have step:∀(d n:Nat) (path:List P),n<N.length→3 - lvl N n≤d→wyD N d n path=wyD N (d+1) n path:=by
  intro d
  induction d with
  |zero=>
   intro n path hn h
   obtain⟨v,e,_⟩:=XG W hn (by exact Ar.n1 (.im (.l (.s (.k 3) (.v 0)) (.k 0)) (.l (.k 3) (.v 0))) (by kernel_rfl) h)
   simp only[wyD,e]
  |succ d ih=>
   intro n path hn h
   rw[wyD,wyD]
   rcases Z4 W hn with⟨v,e,_⟩|⟨j,ps,e,h2,h3,r,a,h4,k⟩
   ·rw[e]
   ·rw[e]
    dsimp only
    rw[List.flatMap_def,List.flatMap_def]
    refine congrArg List.flatten (List.map_congr_left fun x hx=>?_)
    obtain⟨⟨hh,hm⟩,_⟩:=XB hx
    have:=k _ hm
    dsimp only at this
    exact ih x.1 x.2 (by exact Ar.a0 this hn) (by exact Ar.n6 (.im (.an (.t (.v 2) (.v 3)) (.t (.v 4) (.v 0))) (.im (.e (.v 5) (.v 4)) (.im (.l (.s (.k 3) (.v 5)) (.p (.v 1) (.k 1))) (.l (.s (.k 3) (.v 0)) (.v 1))))) (by kernel_rfl) this h2 h)
 have many:∀(k d n:Nat) (path:List P),n<N.length→3 - lvl N n≤d→wyD N d n path=wyD N (d+k) n path:=by
  intro k
  induction k with
  |zero=>intro d n path hn h;rfl
  |succ k ih=>intro d n path hn h;rw[ih d n path hn h,step (d+k) n path hn (by exact Ar.n3 (.im (.l (.s (.k 3) (.v 0)) (.v 1)) (.l (.s (.k 3) (.v 0)) (.p (.v 1) (.v 2)))) (by kernel_rfl) h)];rfl
 intro d d' n path hn h h'
 rcases Nat.le_total d d' with e|e
 ·rw[many (d' - d) d n path hn h,show d+(d' - d)=d' by exact Ar.a145 e]
 ·rw[many (d - d') d' n path hn h',show d'+(d - d')=d by exact Ar.a145 e]
theorem Zac{n:Nat}{v:P}{path:List P}(e:N[n]?=some (.leaf v)):wy N n path=[.tuple [.tuple path,v]]:=by
 simp only[wy,wyD,e,Z1 e]
theorem Zf5(W:WF T N){n j:Nat}{ps:List (Nat×Nat)}{path:List P}(e:N[n]?=some (.br j ps)):wy N n path=(wyCh j 0 path ps).flatMap fun x=>wy N x.1 x.2:=by
 have hn:=(List.getElem?_eq_some_iff.mp e).1
 rw[wy,wyD,e]
 dsimp only
 rw[List.flatMap_def,List.flatMap_def]
 refine congrArg List.flatten (List.map_congr_left fun x hx=>?_)
 obtain⟨⟨hh,hm⟩,_⟩:=XB hx
 have k:=(W.ok _ _ e).2.2.2.2 _ hm
 dsimp only at k
 exact ZiA W _ _ _ _ (by exact Ar.a0 k hn) (by exact Ar.n4 (.im (.an (.t (.v 1) (.v 2)) (.t (.v 3) (.v 0))) (.l (.s (.k 3) (.v 0)) (.k 2))) (by kernel_rfl) k) (by exact Ar.a74)
theorem ZgF(hT:Tops T)(W:WF T N):∀(d n:Nat) (path:List P),n<N.length→(wyD N d n path).length≤4^d
 |0,_,_,_=>by simp[wyD]
 |d+1,n,path,hn=>by
  have h4:1≤4^(d+1):=Nat.pow_pos (by exact Ar.n0 (.t (.k 0) (.k 4)) (by kernel_rfl))
  rw[wyD]
  rcases Z4 W hn with⟨v,e,_⟩|⟨j,ps,e,h2,h3,r,a,h4,k⟩
  ·rw[e];simpa using h4
  ·rw[e]
   dsimp only
   refine Nat.le_trans (ZhU (w:=4^d) fun x hx=>?_) ?_
   ·obtain⟨⟨hh,hm⟩,_⟩:=XB hx
    have:=k _ hm
    dsimp only at this
    exact ZgF hT W d x.1 x.2 (by exact Ar.a0 this hn)
   ·rw[ZbR,Nat.pow_succ]
    refine Nat.mul_le_mul_left _ ?_
    have:=r.len;have:=hT.le j;exact Ar.a69 (by assumption) this
theorem ZjU(hT:Tops T)(W:WF T N){n:Nat}{path:List P}(hn:n<N.length):(wy N n path).length≤64:=ZgF hT W 3 n path hn
theorem Zmi(W:WF T N):∀{n:Nat} {path:List P},n<N.length→0<(wy N n path).length:=by
 intro n
 induction n using Nat.strongRecOn with
 |_ n ih=>
 intro path hn
 rcases Z4 W hn with⟨v,e,_⟩|⟨j,ps,e,h2,h3,r,a,h4,k⟩
 ·rw[Zac e];simp
 ·rw[Zf5 W e]
  match ps,h4,k with
  |(h,c)::ps,_,k=>
   have:=k (h,c) (by simp)
   dsimp only at this
   rw[wyCh,List.flatMap_cons,List.length_append]
   have:=ih c this.1 (path:=path++[.tuple [.int j,.tuple [.int (0:Nat),.int h]]]) (by exact Ar.a0 this hn)
   dsimp only
   exact Ar.n2 (.im (.t (.k 0) (.v 0)) (.t (.k 0) (.p (.v 0) (.v 1)))) (by kernel_rfl) this
theorem ZkB(W:WF T N):∀{n:Nat} {path:List P},n<N.length→goodAll path=true→goodAll (wy N n path)=true:=by
 intro n
 induction n using Nat.strongRecOn with
 |_ n ih=>
 intro path hn hp
 rcases Z4 W hn with⟨v,e,_,hv⟩|⟨j,ps,e,h2,h3,r,a,h4,k⟩
 ·rw[Zac e];simp[good,goodAll,hp,YG hv]
 ·rw[Zf5 W e,ZH]
  intro x hx
  obtain⟨y,hy,hx⟩:=List.mem_flatMap.mp hx
  obtain⟨⟨hh,hm⟩,a',b',e2⟩:=XB hy
  have:=k _ hm
  dsimp only at this
  have hg:goodAll y.2=true:=by
   rw[e2,ZH]
   intro z hz
   rcases List.mem_append.mp hz with hz|hz
   ·exact ZH.mp hp z hz
   ·rw[List.mem_singleton.mp hz];simp[good,goodAll]
  exact ZH.mp (ih y.1 this.1 (by exact Ar.a0 this hn) hg) x hx
theorem Zi9(W:WF T N):∀{n k:Nat} {path:List P},n<N.length→2≤k→(∀x∈path,x.depth≤k)→∀x∈wy N n path,x.depth≤k+2:=by
 intro n
 induction n using Nat.strongRecOn with
 |_ n ih=>
 intro k path hn hk hp x hx
 rcases Z4 W hn with⟨v,e,_,hv⟩|⟨j,ps,e,h2,h3,r,a,h4,k'⟩
 ·rw[Zac e]at hx
  rw[List.mem_singleton.mp hx]
  have:=Yw hp
  simp only[PyData.depth,PyData.depthAll,Q1 hv]
  exact Ar.n2 (.im (.l (.v 0) (.v 1)) (.l (.p (.mx (.p (.v 0) (.k 1)) (.mx (.k 0) (.k 0))) (.k 1)) (.p (.v 1) (.k 2)))) (by kernel_rfl) this
 ·rw[Zf5 W e]at hx
  obtain⟨y,hy,hx⟩:=List.mem_flatMap.mp hx
  obtain⟨⟨hh,hm⟩,a',b',e2⟩:=XB hy
  have:=k' _ hm
  dsimp only at this
  refine ih y.1 this.1 (by exact Ar.a0 this hn) hk (fun z hz=>?_) x hx
  rw[e2]at hz
  rcases List.mem_append.mp hz with hz|hz
  ·exact hp z hz
  ·rw[List.mem_singleton.mp hz];simp[PyData.depth,PyData.depthAll];exact Ar.n1 (.im (.l (.k 2) (.v 0)) (.l (.k 2) (.v 0))) (by kernel_rfl) hk
end
end
section
noncomputable def skP(x:Nat×List P):P:=.tuple [.int x.1,.tuple x.2]
noncomputable def wt(N:List Nd):List (Nat×List P)→Nat
 |[]=>0
 |x::r=>5^(3 - lvl N x.1)+wt N r
theorem ZeI{N:List Nd}:∀{a b:List (Nat×List P)},wt N (a++b)=wt N a+wt N b
 |[],b=>by simp[wt]
 |x::a,b=>by simp only[List.cons_append,wt,ZeI];exact Ar.n3 (.e (.p (.v 0) (.p (.v 1) (.v 2))) (.p (.p (.v 0) (.v 1)) (.v 2))) (by kernel_rfl)
theorem Zmj{N:List Nd}{w:Nat}:∀{a:List (Nat×List P)},(∀x∈a,5^(3 - lvl N x.1)≤w)→wt N a≤w*a.length
 |[],_=>by simp[wt]
 |x::a,h=>by
  have h1:=h x (by simp)
  have h2:=Zmj (a:=a) fun y hy=>h y (by simp[hy])
  simp only[wt,List.length_cons,Nat.mul_succ];exact Ar.a144 h1 h2
theorem ZjV{N:List Nd}:∀{a:List (Nat×List P)},a.length≤wt N a
 |[]=>by simp[wt]
 |x::a=>by
  have h2:=ZjV (N:=N) (a:=a)
  have:1≤5^(3 - lvl N x.1):=Nat.pow_pos (by exact Ar.a30)
  simp only[wt,List.length_cons];exact Ar.n3 (.im (.l (.k 1) (.v 1)) (.im (.l (.v 0) (.v 2)) (.l (.p (.v 0) (.k 1)) (.p (.v 1) (.v 2))))) (by kernel_rfl) this h2
noncomputable def tot(N:List Nd)(K:List (Nat×List P)):List P:=K.reverse.flatMap fun x=>wy N x.1 x.2
section
variable{t c:MObj}{N:List Nd}{m:List (P×P)}{B:Hp}{T:List Nat}{n:Nat}
theorem ZjT{x y:List P}{σ:Hp}(h:(x++y).length≤lim):addV (.p (.tuple x)) (.p (.tuple y)) σ=some (.ok (.p (.tuple (x++y))),σ):=ZcZ (l:=x++y) h
theorem Zmb{R:Hp}{k:Nat}{L:List P}(h:R[k]?=some (.lst L)):QT (.ref (fr B k)) (HB t c N m (B++R))=some (.ok (),HB t c N m (B++R.set k (.lst L.reverse))):=
 (h_lV (x_at h) (S:=some (.ok (),(HB t c N m (B++R)).set (fr B k) (.lst L.reverse))) rfl).trans (by rw[X8])
theorem Zmd{R:Hp}{k i:Nat}{L L2:List P}(h:R[k]?=some (.lst L))(h2:R[i]?=some (.lst L2))(hi:i≠k)(hl:L.length+L2.length≤lim):ZaB (.ref (fr B k)) (.ref (fr B i)) (HB t c N m (B++R))=some (.ok (),HB t c N m (B++R.set k (.lst (L++L2)))):=
 (h_lV (x_at h) (h_lV (x_at h2) (h_if (S:=some (.ok (),(HB t c N m (B++R)).set (fr B k) (.lst (L++L2)))) (by rw[decide_eq_true hl,decide_eq_true (by rw[ne_eq,ZmV];exact hi)];rfl) rfl))).trans (by rw[X8])
noncomputable abbrev wfL(a0 a1 a2 a3 a4 a5 a6 a7 a8 a9 a10 a11 a12:Option V):Loc:=[a0,a1,a2,a3,a4,a5,a6,a7,a8,a9,a10,a11,a12]
inductive WyF(a0 a1 a2 a3 a4 a5 a6 a7 a8 a9:Option V)(σ':Hp)(o:Option (R Out×Loc×Hp)):Prop
 |mk (x y z:Option V):o=some (.ok .next,wfL a0 a1 a2 a3 a4 a5 a6 a7 a8 a9 x y z,σ')→WyF a0 a1 a2 a3 a4 a5 a6 a7 a8 a9 σ' o
theorem ZiB{cf:CF}{a0 a1 a2 a3 a4 a5 a8:Option V}{path:List P}{j kl:Nat}(hp:path.length<1000){ps:List (Nat×Nat)}:∀{lo:Nat} {L:List P} {σ:Hp} {y z:Option V},σ[kl]?=some (.lst L)→L.length+ps.length<1000→
  WyF a0 a1 a2 a3 a4 a5 (some (.p (.tuple path))) (some (.p (.int j))) a8 (some (.ref kl)) (σ.set kl (.lst (L++(wyCh j lo path ps).map skP))) (Yj (.tup [11,12]) (Zdw cf) (ps.map prt) (wfL a0 a1 a2 a3 a4 a5 (some (.p (.tuple path))) (some (.p (.int j))) a8 (some (.ref kl)) (some (.p (.int (lo:Nat)))) y z) σ):=by
 induction ps with
 |nil=>
  intro lo L σ y z hk hl
  obtain⟨h1,h2⟩:=List.getElem?_eq_some_iff.mp hk
  exact⟨some (.p (.int (lo:Nat))),y,z,by rw[show(wyCh j lo path []).map skP=[]from rfl,List.append_nil,← h2,List.set_getElem_self];rfl⟩
 |cons q ps ih=>
  intro lo L σ y z hk hl
  obtain⟨h,x⟩:=q
  rw[List.length_cons]at hl
  have hkl:kl<σ.length:=(List.getElem?_eq_some_iff.mp hk).1
  cases ih (lo:=h+1) (L:=L++[skP (x,path++[.tuple [.int j,.tuple [.int lo,.int h]]])]) (σ:=σ.set kl (.lst (L++[skP (x,path++[.tuple [.int j,.tuple [.int lo,.int h]]])]))) (y:=some (.p (.int h))) (z:=some (.p (.int x))) (List.getElem?_set_self hkl) (by rw[List.length_append];exact Ar.n2 (.im (.t (.p (.v 0) (.p (.v 1) (.k 1))) (.k 1000)) (.t (.p (.p (.v 0) (.k 1)) (.v 1)) (.k 1000))) (by kernel_rfl) hl)with
  |mk x' y' z' e=>
   rw[List.set_set,List.append_assoc]at e
   exact⟨x',y',z',x_go rfl (Zf (W6 rfl hk (Zz rfl (Zh rfl (ZcA (Zz rfl (Zz rfl rfl))) (ZjT (by rw[List.length_append];exact Nat.le_trans (Nat.succ_le_of_lt hp) (Nat.le_of_lt (Y6 rfl)))))) (WJ hk (Nat.lt_trans (Nat.lt_of_add_right_lt hl) (Y6 rfl)))) (Zf (Zi (Zh rfl rfl rfl)) rfl)) e⟩
inductive WyW(t c:MObj)(N:List Nd)(m:List (P×P))(B:Hp)(most:Nat)(G:List P)(o:Option (R Out×Loc×Hp)):Prop
 |ok (l':Loc) (R':Hp):G.length≤most→o=some (.ok .next,l',HB t c N m (B++.lst G::R'))→l'[3]?=some (some (.ref (fr B 0)))→WyW t c N m B most G o
 |left (l':Loc) (R':Hp):most<G.length→o=some (.exc XQ "more ways than were let",l',HB t c N m (B++R'))→WyW t c N m B most G o
noncomputable abbrev wyL(T:List Nat)(B:Hp)(most:Nat)(num x5 x6 x7 x8 x9 x10 x11 x12:Option V):Loc:=wfL (some (dv T)) num (some (.p (.int (most:Nat)))) (some (.ref (fr B 0))) (some (.ref (fr B 1))) x5 x6 x7 x8 x9 x10 x11 x12
noncomputable abbrev wyH(t c:MObj)(N:List Nd)(m:List (P×P))(B:Hp)(F:List P)(K:List (Nat×List P))(R:Hp):Hp:=HB t c N m (B++.lst F::.lst (K.map skP)::R)
section
variable{most:Nat}{num x5 x6 x7 x8 x9 x10 x11 x12:Option V}{F:List P}{K:List (Nat×List P)}{R:Hp}
theorem WE{cf:CF}{b:Bool}(h:decide ((0:Int)<((K.map skP).length:Nat))=b):YH cf (wyL T B most num x5 x6 x7 x8 x9 x10 x11 x12) (wyH t c N m B F K R)=some (.ok b,wyH t c N m B F K R):=
 Zo (ZV rfl (Qj (k:=1) rfl)) rfl (x_dc h)
theorem ZbS{x:Nat×List P}:decide ((0:Int)<(((K++[x]).map skP).length:Nat))=true:=decide_eq_true (by rw[List.length_map,List.length_append];exact Int.ofNat_lt.mpr (Nat.succ_pos _))
theorem Zad{rest:SM}{x:Nat}{path:List P}{nd:Nd}{p q:P}{l':Loc}{σ':Hp}{r:Mine.R Out}(e:N[x]?=some nd)(hp:ndP nd=.tuple [p,q])
  (h:rest (wyL T B most num (some (.p (.int x))) (some (.p (.tuple path))) (some (.p p)) (some (.p q)) x9 x10 x11 x12) (wyH t c N m B F K R)=some (r,l',σ')):
  sSeq (Zy [5,6] (Z7 mPop (Za 4) [])) (sSeq (Zy [7,8] (eDia (Zg tab (n+1)) 4 (Za 0) [(Za 5)])) rest) (wyL T B most num x5 x6 x7 x8 x9 x10 x11 x12) (wyH t c N m B F (K++[(x,path)]) R)=some (r,l',σ'):=
 Zf (ZD (ZcC (k:=fr B 1) rfl (x_at (k:=1) rfl) Zk (ZjO (k:=1) (L:=K.map skP) (q:=skP (x,path)) (by rw[List.map_append];rfl))) rfl) (Zf (ZD (ZE rfl (Zc rfl Zk) ((ZZ (T:=T) (B:=B++.lst F::.lst (K.map skP)::R) e n).trans (by rw[hp]))) rfl) h)
end
theorem Zf6(hT:Tops T)(W:WF T N){num:Option V}{most:Nat}(fuel:Nat):∀{F:List P} {K:List (Nat×List P)} {R:List MObj} {x5 x6 x7 x8 x9 x10 x11 x12:Option V},(∀x∈K,x.1<N.length∧x.2.length≤lvl N x.1)→wt N K<fuel→wt N K<1000→F.length≤most→(F++tot N K).length<1000→
  WyW t c N m B most (F++tot N K) (Z6 (YH (Zg tab (n+1))) (Xc (Zg tab (n+1))) fuel (wyL T B most num x5 x6 x7 x8 x9 x10 x11 x12) (wyH t c N m B F K R)):=by
 induction fuel with
 |zero=>exact fun _ h=>absurd h (Nat.not_lt_zero _)
 |succ fuel ih=>
  intro F K R x5 x6 x7 x8 x9 x10 x11 x12 hK hw hw2 hF htot
  rcases List.eq_nil_or_concat K with rfl|⟨K,⟨x,path⟩,rfl⟩
  ·have e0:F++tot N []=F:=List.append_nil _
   rw[e0]
   exact .ok _ _ hF (x_wf (WE rfl)) rfl
  ·rw[List.concat_eq_append]at hK hw hw2 htot ⊢
   obtain⟨hxl,hpl⟩:=hK (x,path) (List.mem_append_right _ List.mem_cons_self)
   have hK':∀y∈K,_:=fun y hy=>hK y (List.mem_append_left _ hy)
   dsimp only at hxl hpl
   have e:N[x]?=some N[x]:=List.getElem?_eq_getElem hxl
   have et:tot N (K++[(x,path)])=wy N x path++tot N K:=by simp[tot]
   rw[et]at htot ⊢
   rw[ZeI]at hw hw2
   simp only[wt,Nat.add_zero]at hw hw2
   cases hn:N[x]with
   |leaf v=>
    rw[hn]at e
    rw[Zac e]at htot ⊢
    have h1:1≤5^(3 - lvl N x):=Nat.pow_pos (by exact Ar.a30)
    by_cases hm:F.length=most
    ·exact .left _ _ (by simp;exact Ar.n3 (.im (.e (.v 1) (.v 0)) (.t (.v 0) (.p (.v 1) (.p (.v 2) (.k 1))))) (by kernel_rfl) hm)
      (x_wx (WE ZbS) (Zad e rfl (Yu (Y4 (Zo rfl rfl X6) (Yu (Y4 (Zo (ZV rfl (Qj (k:=0) rfl)) rfl (x_eq (decide_eq_true (congrArg Int.ofNat hm)))) (Yu rfl)))))))
    ·have ih:=ih (F:=F++[.tuple [.tuple path,v]]) (K:=K) (R:=R) (x5:=some (.p (.int x))) (x6:=some (.p (.tuple path))) (x7:=some (.p (.str "leaf"))) (x8:=some (.p v)) (x9:=x9) (x10:=x10) (x11:=x11) (x12:=x12) hK' (by exact Ar.n3 (.im (.l (.k 1) (.v 2)) (.im (.t (.p (.v 0) (.v 2)) (.p (.v 1) (.k 1))) (.t (.v 0) (.v 1)))) (by kernel_rfl) h1 hw) (by exact Ar.n2 (.im (.t (.p (.v 0) (.v 1)) (.k 1000)) (.t (.v 0) (.k 1000))) (by kernel_rfl) hw2) (by rw[List.length_append];exact Nat.lt_of_le_of_ne hF hm) (by rw[List.append_assoc];exact htot)
     rw[List.append_assoc]at ih
     have key:Z6 (YH (Zg tab (n+1))) (Xc (Zg tab (n+1))) (fuel+1) (wyL T B most num x5 x6 x7 x8 x9 x10 x11 x12) (wyH t c N m B F (K++[(x,path)]) R)=Z6 (YH (Zg tab (n+1))) (Xc (Zg tab (n+1))) fuel _ _:=x_wt (WE ZbS) (Zad (rest:=sSeq _ _) e rfl (Zf (Y4 (Zo rfl rfl X6) (Zf (ZU (Zo (ZV rfl (Qj (k:=0) rfl)) rfl (x_eq (decide_eq_false fun h=>hm (Int.ofNat.inj h)))) rfl) (Zf (W6 rfl (x_at (k:=0) rfl) (Zz rfl rfl) (ZeB (k:=0) rfl (Nat.lt_trans (by rw[List.length_append]at htot;exact Nat.lt_of_add_right_lt htot) (Y6 (a:=1000) rfl)))) rfl))) rfl)) rfl
     rw[key]
     exact ih
   |br j ps=>
    rw[hn]at e
    obtain⟨o1,o2,o3,o4,hps⟩:=W.ok _ _ e
    have hpsl:ps.length≤tp T j+1:=by have:=o2.len;exact Ar.a143 this
    have htp:=hT.le j
    have hlv:lvl N x=j:=Zay e
    rw[hlv]at hpl hw hw2
    have hch:∀y∈wyCh j 0 path ps,y.1<N.length∧y.2.length≤lvl N y.1∧j<lvl N y.1:=fun y hy=>by
     obtain⟨⟨hh,hm⟩,a',b',e2⟩:=XB hy
     have:=hps _ hm
     dsimp only at this
     refine⟨by exact Ar.a0 this hxl,?_,this.2⟩
     rw[e2,List.length_append];exact Nat.le_trans (Nat.succ_le_succ hpl) this.2
    have hcl:(wyCh j 0 path ps).length=ps.length:=ZbR
    have hwt:wt N (wyCh j 0 path ps).reverse≤5^(2 - j)*ps.length:=by
     have:=Zmj (N:=N) (w:=5^(2 - j)) (a:=(wyCh j 0 path ps).reverse) fun y hy=>by
      have:=(hch y (List.mem_reverse.mp hy)).2.2
      exact Nat.pow_le_pow_right (by exact Ar.a30) (by exact Ar.n2 (.im (.t (.v 1) (.v 0)) (.l (.s (.k 3) (.v 0)) (.s (.k 2) (.v 1)))) (by kernel_rfl) this)
     rwa [List.length_reverse,hcl]at this
    have hwt2:5^(2 - j)*ps.length≤5^(2 - j)*4:=Nat.mul_le_mul_left _ (by exact Ar.n2 (.im (.l (.v 0) (.p (.v 1) (.k 1))) (.im (.l (.v 1) (.k 3)) (.l (.v 0) (.k 4)))) (by kernel_rfl) hpsl htp)
    have hwt3:5^(3 - j)=5^(2 - j)*5:=by rw[show 3 - j=(2 - j)+1 by exact Ar.n1 (.im (.t (.v 0) (.k 3)) (.e (.s (.k 3) (.v 0)) (.p (.s (.k 2) (.v 0)) (.k 1)))) (by kernel_rfl) o1,Nat.pow_succ]
    have hwt4:1≤5^(2 - j):=Nat.pow_pos (by exact Ar.a30)
    have et2:tot N (K++(wyCh j 0 path ps).reverse)=wy N x path++tot N K:=by
     rw[Zf5 W e];simp[tot]
    have hmap:(K++(wyCh j 0 path ps).reverse).map skP=K.map skP++((wyCh j 0 path ps).map skP).reverse:=by rw[List.map_append,List.map_reverse]
    have hkw:=ZjV (N:=N) (a:=K)
    have hlim:=ZO
    cases ZiB (cf:=Zg tab (n+1)) (a0:=some (dv T)) (a1:=num) (a2:=some (.p (.int (most:Nat)))) (a3:=some (.ref (fr B 0))) (a4:=some (.ref (fr B 1))) (a5:=some (.p (.int x))) (a8:=some (.p (.tuple (ps.map prt)))) (path:=path) (j:=j) (kl:=fr B (R.length+1+1)) (by exact Ar.n2 (.im (.l (.v 0) (.v 1)) (.im (.t (.v 1) (.k 3)) (.t (.v 0) (.k 1000)))) (by kernel_rfl) hpl o1) (ps:=ps) (lo:=0) (L:=[]) (σ:=HB t c N m (B++.lst F::.lst (K.map skP)::(R++[.lst []]))) (y:=x11) (z:=x12) (by rw[ZdC,List.getElem?_cons_succ,List.getElem?_cons_succ,lt0];rfl) (by rw[List.length_nil];exact Ar.n2 (.im (.l (.v 0) (.p (.v 1) (.k 1))) (.im (.l (.v 1) (.k 3)) (.t (.p (.k 0) (.v 0)) (.k 1000)))) (by kernel_rfl) hpsl htp)with
    |mk lo' y' z' f1=>
     rw[X8,List.set_cons_succ,List.set_cons_succ,ls0,List.set_cons_zero,List.nil_append]at f1
     have ih:=ih (F:=F) (K:=K++(wyCh j 0 path ps).reverse) (R:=R++[.lst ((wyCh j 0 path ps).map skP).reverse]) (x5:=some (.p (.int x))) (x6:=some (.p (.tuple path))) (x7:=some (.p (.int j))) (x8:=some (.p (.tuple (ps.map prt)))) (x9:=some (.ref (fr B (R.length+1+1)))) (x10:=lo') (x11:=y') (x12:=z') (fun y hy=>by
      rcases List.mem_append.mp hy with hy|hy
      ·exact hK' y hy
      ·have:=hch y (List.mem_reverse.mp hy);exact⟨this.1,this.2.1⟩) (by rw[ZeI];exact Ar.n6 (.im (.t (.p (.v 0) (.v 3)) (.p (.v 2) (.k 1))) (.im (.l (.v 1) (.v 4)) (.im (.l (.v 4) (.r (.v 5) 4)) (.im (.e (.v 3) (.r (.v 5) 5)) (.im (.l (.k 1) (.v 5)) (.t (.p (.v 0) (.v 1)) (.v 2))))))) (by kernel_rfl) hw hwt hwt2 hwt3 hwt4) (by rw[ZeI];exact Ar.n5 (.im (.e (.v 2) (.r (.v 3) 5)) (.im (.l (.v 1) (.v 4)) (.im (.l (.v 4) (.r (.v 3) 4)) (.im (.t (.p (.v 0) (.v 2)) (.k 1000)) (.t (.p (.v 0) (.v 1)) (.k 1000)))))) (by kernel_rfl) hwt3 hwt hwt2 hw2) hF (by rw[et2];exact htot)
     rw[et2]at ih
     have rv:=(Zmb (t:=t) (c:=c) (N:=N) (m:=m) (B:=B) (R:=.lst F::.lst (K.map skP)::(R++[.lst ((wyCh j 0 path ps).map skP)])) (k:=R.length+1+1) (L:=(wyCh j 0 path ps).map skP) lt0).trans (by rw[List.set_cons_succ,List.set_cons_succ,ls0,List.set_cons_zero])
     have ex:ZaB (.ref (fr B 1)) (.ref (fr B (R.length+1+1))) _=some (.ok (),wyH t c N m B F (K++(wyCh j 0 path ps).reverse) (R++[.lst ((wyCh j 0 path ps).map skP).reverse])):=(Zmd (t:=t) (c:=c) (N:=N) (m:=m) (B:=B) (R:=.lst F::.lst (K.map skP)::(R++[.lst ((wyCh j 0 path ps).map skP).reverse])) (k:=1) (i:=R.length+1+1) (L2:=((wyCh j 0 path ps).map skP).reverse) rfl lt0 (by omega) (by rw[List.length_reverse,List.length_map,List.length_map,hcl];exact of_decide_eq_true (by simp;exact Ar.a308 hlim hw2 hpsl htp hkw))).trans (by rw[wyH,hmap];rfl)
     have key:Z6 (YH (Zg tab (n+1))) (Xc (Zg tab (n+1))) (fuel+1) (wyL T B most num x5 x6 x7 x8 x9 x10 x11 x12) (wyH t c N m B F (K++[(x,path)]) R)=Z6 (YH (Zg tab (n+1))) (Xc (Zg tab (n+1))) fuel _ _:=x_wt (WE ZbS) (Zad (rest:=sSeq _ _) e rfl (Zf (ZU (Zo rfl rfl WU) (Zf (Zi ZjQ) (Zf (Zi rfl) (Zf (Y5 (Zaa rfl) f1) (Zf (ZeE (x:=.p .none) (ZcC (k:=fr B (R.length+1+1)) (L:=(wyCh j 0 path ps).map skP) rfl (x_at lt0) Zk (h_b rv rfl))) (Zf (ZeE (x:=.p .none) (ZcC (k:=fr B 1) rfl (x_at (k:=1) rfl) (Zc rfl Zk) (h_b ex rfl))) rfl)))))) rfl)) rfl
     rw[key]
     exact ih
end
end
section
section
variable{t c:MObj}{N:List Nd}{m:List (P×P)}{B:Hp}{T:List Nat}{n:Nat}
theorem ZeP(hT:Tops T)(W:WF T N){r most:Nat}(hr:r<N.length):
  ((wy N r []).length≤most→Zg tab (n+2) 19 [dv T,.p (.int r),.p (.int most)] (HB t c N m B)=some (.ok (.ref (fr B 0)),HB t c N m (B++[.lst (wy N r [])])))∧
  (most<(wy N r []).length→Zg tab (n+2) 19 [dv T,.p (.int r),.p (.int most)] (HB t c N m B)=some (.exc XQ "more ways than were let",HB t c N m B)):=by
 have hlim:=ZO
 have hl:=ZjU hT W (path:=[]) hr
 have ht:tot N [(r,[])]=wy N r []:=by simp[tot]
 have hw:wt N [(r,[])]≤125:=by
  simp only[wt,Nat.add_zero]
  exact Nat.pow_le_pow_right (n:=5) (by exact Ar.a30) (show 3 - lvl N r≤3 by exact Ar.a74)
 have key:=Zf6 (t:=t) (c:=c) (m:=m) (B:=B) (n:=n) hT W (num:=some (.p (.int r))) (most:=most) lim (F:=[]) (K:=[(r,[])]) (R:=[]) (x5:=none) (x6:=none) (x7:=none) (x8:=none) (x9:=none) (x10:=none) (x11:=none) (x12:=none) (fun x hx=>by rw[List.mem_singleton.mp hx];exact⟨hr,Nat.zero_le _⟩) (by exact Ar.a309 hlim hw) (by exact Ar.n1 (.im (.l (.v 0) (.k 125)) (.t (.v 0) (.k 1000))) (by kernel_rfl) hw) (Nat.zero_le _) (by rw[ht];exact Ar.n1 (.im (.l (.v 0) (.k 64)) (.t (.v 0) (.k 1000))) (by kernel_rfl) hl)
 rw[ht,List.nil_append]at key
 have walk:∀{q:R Out} {l':Loc} {σ':Hp},sSeq (Zal (YH (Zg tab (n+1))) (Xc (Zg tab (n+1)))) (sSeq (sRet (Za 3)) Ze) (wyL T B most (some (.p (.int r))) none none none none none none none none) (wyH t c N m B [] [(r,[])] [])=some (q,l',σ')→Zfp.run (Zg tab (n+1)) (WM 13 [dv T,.p (.int r),.p (.int most)]) (HB t c N m B)=some (q,l',σ'):=fun h=>by
  unfold Zfp;dsimp only
  exact Zf (Zi QZ) (Zf (Zi (ZeD (R:=[.lst []]) (Zz rfl (ZcB Zk rfl rfl)))) h)
 cases key with
 |ok l' R' h' e1 e2=>exact⟨fun h=>Zn rfl rfl (walk (Zf e1 (ZG (show Za 3 l' _=some (.ok (.ref (fr B 0)),_)by unfold Za;rw[e2];rfl)))) (Wk (k:=0) rfl),fun h=>absurd (Nat.lt_of_le_of_lt h' h) (Nat.lt_irrefl _)⟩
 |left l' R' h' e1=>exact⟨fun h=>absurd (Nat.lt_of_le_of_lt h h') (Nat.lt_irrefl _),fun h=>ZbO rfl rfl ZaP (walk (Yu e1))⟩
end
noncomputable def lx(N:List Nd)(T:List Nat)(v a b:Nat):Nat:=((List.range (tp T v+1)).find? fun x=>cof N v x a != cof N v x b).getD 0
noncomputable def par(N:List Nd)(T:List Nat):Nat→Nat→Nat→List Nat
 |0,_,_=>[]
 |d+1,a,b=>lx N T (2 - d) a b::par N T d (cof N (2 - d) (lx N T (2 - d) a b) a) (cof N (2 - d) (lx N T (2 - d) a b) b)
noncomputable def Xi(l:List Nat):P:=.tuple (l.map i1P)
theorem Zgk{p:Nat→Bool}:∀{n k:Nat},k<n→p k=true→∃i,(List.range n).find? p=some i∧p i=true∧i<n∧∀j,j<i→p j=false:=by
 intro n
 induction n with
 |zero=>intro k h;exact False.elim (Ar.a63 h)
 |succ n ih=>
  intro k hk hp
  rw[List.range_succ,List.find?_append]
  by_cases h:∃k,k<n∧p k=true
  ·obtain⟨k,h1,h2⟩:=h
   obtain⟨i,e,e1,e2,e3⟩:=ih h1 h2
   exact⟨i,by rw[e];rfl,e1,by exact Ar.a148 e2,e3⟩
  ·have hk':k=n:=by
    rcases Nat.lt_or_ge k n with h'|h'
    ·exact absurd ⟨k,h',hp⟩ h
    ·exact Ar.n2 (.im (.l (.v 1) (.v 0)) (.im (.t (.v 0) (.p (.v 1) (.k 1))) (.e (.v 0) (.v 1)))) (by kernel_rfl) h' hk
   subst hk'
   have none:(List.range k).find? p=none:=by
    rw[List.find?_eq_none]
    intro x hx hpx
    exact h ⟨x,by simpa using hx,hpx⟩
   rw[none]
   refine⟨k,by simp[hp],hp,by exact Ar.a149,fun j hj=>?_⟩
   cases hq:p j
   ·rfl
   ·exact absurd ⟨j,hj,hq⟩ h
section
variable{T:List Nat}{N:List Nd}
theorem Zjr(W:WF T N){v a b:Nat}(ha:a<N.length)(hb:b<N.length)(hne:a≠b):(List.range (tp T v+1)).find? (fun x=>cof N v x a != cof N v x b)=some (lx N T v a b)∧lx N T v a b≤tp T v∧cof N v (lx N T v a b) a≠cof N v (lx N T v a b) b∧∀x,x<lx N T v a b→cof N v x a=cof N v x b:=by
 have ex:∃k,k<tp T v+1∧(cof N v k a != cof N v k b)=true:=by
  rcases Classical.em (∃k,k<tp T v+1∧(cof N v k a != cof N v k b)=true)with h|h
  ·exact h
  ·refine absurd (canon W ha hb fun f hf=>?_) hne
   rw[← XE W hf (n:=a) (i:=v),← XE W hf (n:=b) (i:=v)]
   have:cof N v (f v) a=cof N v (f v) b:=by
    rcases Classical.em (cof N v (f v) a=cof N v (f v) b)with e|e
    ·exact e
    ·exact absurd ⟨f v,by have:=hf v;exact Ar.a31 this,by simpa using e⟩ h
   rw[this]
 obtain⟨k,h1,h2⟩:=ex
 obtain⟨i,e,e1,e2,e3⟩:=Zgk (p:=fun x=>cof N v x a != cof N v x b) h1 h2
 have:lx N T v a b=i:=by unfold lx;rw[e];rfl
 rw[this]
 exact⟨e,by exact Ar.a2 e2,by simpa using e1,fun x hx=>by simpa using e3 x hx⟩
end
noncomputable def fuL:List P→List P→List P→Option P
 |c::cs,x::xs,y::ys=>if PyData.eqv x y then fuL cs xs ys else some c
 |_,_,_=>none
theorem ZhR:∀{A X Y A' X' Y':List P},A.length=X.length→X.length=Y.length→fuL (A++A') (X++X') (Y++Y')=(fuL A X Y).or (fuL A' X' Y')
 |[],[],[],_,_,_,_,_=>rfl
 |c::A,x::X,y::Y,_,_,_,h1,h2=>by
  simp only[List.cons_append,fuL]
  split
  ·exact ZhR (by simpa using h1) (by simpa using h2)
  ·rfl
section
variable{T:List Nat}{N:List Nd}
theorem ZaH:∀(d:Nat) (pre:List Nat),(Zw T d pre).length=wid T d
 |0,_=>rfl
 |d+1,pre=>by rw[Zw,Zct (w:=wid T d) (fun x=>ZaH d _),List.length_range,wid]
theorem ZhQ(W:WF T N):∀{d a b:Nat} {pre:List Nat},d≤3→a<N.length→b<N.length→3 - d≤lvl N a→3 - d≤lvl N b→fuL ((Zw T d pre).map Xi) (tblD N T d a) (tblD N T d b)=if a=b then none else some (Xi (pre++par N T d a b))
 |0,a,b,pre,_,ha,hb,la,lb=>by
  obtain⟨v,e1,h1⟩:=XG W ha (by exact Ar.a32 la)
  obtain⟨w,e2,h2⟩:=XG W hb (by exact Ar.a32 lb)
  simp only[Zw,tblD,List.map_cons,List.map_nil,fuL,Z1 e1,Z1 e2]
  by_cases h:a=b
  ·subst h
   rw[e1]at e2;cases e2
   rw[if_pos (Yr (YG h1)),if_pos rfl]
  ·have hvw:v≠w:=fun e=>h (by subst e;exact(List.getElem?_inj ha W.nodup).mp (by rw[e1,e2]))
   rw[if_neg (by simp[Zd2 (YG h1) (YG h2) hvw]),if_neg h,par,List.append_nil]
 |d+1,a,b,pre,hd,ha,hb,la,lb=>by
  have blk:∀x,x≤tp T (2 - d)→fuL ((Zw T d (pre++[x])).map Xi) (tblD N T d (cof N (2 - d) x a)) (tblD N T d (cof N (2 - d) x b))=if cof N (2 - d) x a=cof N (2 - d) x b then none else some (Xi (pre++[x]++par N T d (cof N (2 - d) x a) (cof N (2 - d) x b))):=fun x hx=>by
   have l1:=YC W ha (i:=2 - d) (by exact Ar.a38 la) (by exact Ar.a7) hx
   have l2:=YC W hb (i:=2 - d) (by exact Ar.a38 lb) (by exact Ar.a7) hx
   exact ZhQ W (by exact Ar.a21 hd) (YK W ha hx) (YK W hb hx) (by exact Ar.a18 l1) (by exact Ar.a18 l2)
  have all:∀{l:List Nat},(∀x∈l,x≤tp T (2 - d))→fuL ((l.flatMap fun x=>Zw T d (pre++[x])).map Xi) (l.flatMap fun x=>tblD N T d (cof N (2 - d) x a)) (l.flatMap fun x=>tblD N T d (cof N (2 - d) x b))=(l.find? fun x=>cof N (2 - d) x a != cof N (2 - d) x b).map fun x=>Xi (pre++[x]++par N T d (cof N (2 - d) x a) (cof N (2 - d) x b)):=by
   intro l
   induction l with
   |nil=>intro _;rfl
   |cons x l ih=>
    intro hl
    rw[List.flatMap_cons,List.flatMap_cons,List.flatMap_cons,List.map_append,ZhR (by rw[List.length_map,ZaH,W8]) (by rw[W8,W8]),blk x (hl x (by simp)),ih fun y hy=>hl y (by simp[hy]),List.find?_cons]
    by_cases h:cof N (2 - d) x a=cof N (2 - d) x b
    ·rw[if_pos h];simp[h]
    ·rw[if_neg h]
     have hb:(cof N (2 - d) x a != cof N (2 - d) x b)=true:=by simpa using h
     rw[hb];rfl
  rw[Zw,tblD,tblD,all fun x hx=>by simp at hx;exact Ar.a2 hx]
  by_cases h:a=b
  ·subst h
   rw[if_pos rfl]
   have:(List.range (tp T (2 - d)+1)).find? (fun x=>cof N (2 - d) x a != cof N (2 - d) x a)=none:=by
    rw[List.find?_eq_none];simp
   rw[this];rfl
  ·rw[if_neg h,(Zjr W ha hb h).1,Option.map_some,par,List.append_assoc,List.singleton_append]
end
end
section
set_option maxHeartbeats 4000000
section
variable{t c:MObj}{N:List Nd}{m:List (P×P)}{B:Hp}{T:List Nat}{n:Nat}
theorem Zox{cf:CF}{σ:Hp}{a0:Option V}{A D:Nat→Nat}{x0 top:Nat}(hx:x0≤top)(hne:A x0≠D x0)(heq:∀x,x<x0→A x=D x){pcs:List (Nat×List Nat)}:∀{lo:Nat} {y z:Option V},Pcs (fun x=>[A x,D x]) lo pcs top→lo≤x0→
  ∃l',Yj (.tup [2,3]) (X5 cf) (pcs.map pcP) [a0,some (.p (.int (lo:Nat))),y,z] σ=some (.ok (.ret (.p (.tuple [.int (x0:Nat),.int (A x0:Nat),.int (D x0:Nat)]))),l',σ):=by
 induction pcs with
 |nil=>exact fun{lo y z} h hl=>absurd (show lo=top+1 from h) (Nat.ne_of_lt (Nat.lt_succ_of_le (Nat.le_trans hl hx)))
 |cons q pcs ih=>
  intro lo y z p hl
  obtain⟨h,row⟩:=q
  obtain⟨p1,p2,p3,p4⟩:=p
  have p3:∀x,lo≤x→x≤h→[A x,D x]=row:=p3
  have hr:=p3 lo (Nat.le_refl _) p1
  rw[List.map_cons,show pcP (h,row)=.tuple [.int (h:Nat),.list [.int (A lo:Nat),.int (D lo:Nat)]]by rw[← hr];rfl]
  by_cases hh:x0≤h
  ·have e3:x0=lo:=by
    rcases Nat.lt_or_ge lo x0 with h'|h'
    ·have e0:=(p3 x0 hl hh).trans hr.symm
     exact absurd ((List.cons.inj e0).1.trans ((heq lo h').trans (List.cons.inj (List.cons.inj e0).2).1.symm)) hne
    ·exact Nat.le_antisymm h' hl
   subst e3
   exact⟨_,ZdH rfl (Ye (Y4 (Zo (Zh rfl rfl l_0) (Zh rfl rfl l_1) (x_ne (decide_eq_false fun e=>hne (Int.ofNat.inj e)))) (ZG (Zbd rfl (Zh rfl rfl l_0) (Zh rfl rfl l_1)))))⟩
  ·have hh:=Nat.lt_of_not_le hh
   exact(ih (y:=some (.p (.int (h:Nat)))) (z:=some (.p (.list [.int (A lo:Nat),.int (D lo:Nat)]))) p4 hh).imp fun l' e=>
    x_go rfl (Zf (ZU (Zo (Zh rfl rfl l_0) (Zh rfl rfl l_1) (x_ne (decide_eq_true (congrArg Int.ofNat (heq lo (Nat.lt_of_le_of_lt p1 hh)))))) rfl) (Zf (Zi (Zh rfl rfl rfl)) rfl)) e
theorem Zmw{A D:Nat→Nat}{x0 top:Nat}(hx:x0≤top)(hne:A x0≠D x0)(heq:∀x,x<x0→A x=D x){pcs:List (Nat×List Nat)}(h:Pcs (fun x=>[A x,D x]) 0 pcs top):
  Zg tab (n+1) 17 [.p (.list (pcs.map pcP))] (HB t c N m B)=some (.ok (.p (.tuple [.int (x0:Nat),.int (A x0:Nat),.int (D x0:Nat)])),HB t c N m B):=
 (Zox (cf:=Zg tab n) (σ:=HB t c N m B) (a0:=some (.p (.list (pcs.map pcP)))) hx hne heq (y:=none) (z:=none) h (Nat.zero_le _)).elim fun l' e=>Zn rfl rfl (Zf (Zi rfl) (Ye (Y5 (XA rfl rfl) e))) Xg
theorem Zar(hT:Tops T)(W:WF T N){v a b:Nat}{L:List P}{y:Option V}(hv:v<3)(ha:a<N.length)(hb:b<N.length)(la:v≤lvl N a)(lb:v≤lvl N b)(hne:a≠b)(hL:L.length<1000):
  QB (Zg tab (n+3)) [some (dv T),some (.p (.int a)),some (.p (.int b)),some (.ref (fr B 0)),some (.p (.int v)),y] (HB t c N m (B++[.lst L]))=some (.ok .next,[some (dv T),some (.p (.int (cof N v (lx N T v a b) a:Nat))),some (.p (.int (cof N v (lx N T v a b) b:Nat))),some (.ref (fr B 0)),some (.p (.int v)),some (.p (.int (lx N T v a b:Nat)))],HB t c N m (B++[.lst (L++[.int (lx N T v a b:Nat)])])):=by
 have q1:decide (L.length<lim)=true:=Zek (Nat.lt_trans hL (by decide))
 have l5:=YY (t:=t) (c:=c) (m:=m) (B:=B++[.lst L]) (n:=n+2) hT.len ha
 have l6:=YY (t:=t) (c:=c) (m:=m) (B:=B++[.lst L]) (n:=n+2) hT.len hb
 obtain⟨x1,x2,x3,x4⟩:=Zjr W (v:=v) ha hb hne
 by_cases hm:min (lvl N a) (lvl N b)=v
 ·have d:decide (((min (lvl N a) (lvl N b):Nat):Int)=(v:Nat))=true:=decide_eq_true (congrArg Int.ofNat hm)
  obtain⟨pcs,e1,e2⟩:=Zam (t:=t) (c:=c) (m:=m) (B:=B++[.lst L]) (n:=n) (ks:=[a,b]) (v:=v) W hT (by simp;exact⟨ha,hb⟩) (by simp) (by simp;exact⟨la,lb⟩) (by
   by_cases h:lvl N a≤lvl N b
   ·exact⟨a,by simp,by exact Ar.n3 (.im (.e (.mn (.v 0) (.v 2)) (.v 1)) (.im (.l (.v 0) (.v 2)) (.e (.v 0) (.v 1)))) (by kernel_rfl) hm h⟩
   ·exact⟨b,by simp,by exact Ar.n3 (.im (.e (.mn (.v 2) (.v 0)) (.v 1)) (.im (.no (.l (.v 2) (.v 0))) (.e (.v 0) (.v 1)))) (by kernel_rfl) hm h⟩) hv
  have e3:=Zmw (t:=t) (c:=c) (N:=N) (m:=m) (B:=B++[.lst L]) (n:=n+2) (A:=fun x=>cof N v x a) (D:=fun x=>cof N v x b) x2 x3 x4 e2
  exact Zf (Zi rfl) (Zf (Y4 (Zo (ZaR (ZE rfl (Zc rfl Zk) l5) (ZE rfl (Zc rfl Zk) l6) Q4) rfl (x_eq d)) (Zf (ZD (Zp (Zc (Zh (Zp (Zc rfl (Zc (Zz rfl rfl) Zk)) e1) rfl t_1) Zk) e3) rfl) rfl)) (Zf (W6 rfl (x_at (k:=0) rfl) rfl (YW (k:=0) rfl q1)) rfl))
 ·have d:decide (((min (lvl N a) (lvl N b):Nat):Int)=(v:Nat))=false:=decide_eq_false fun e=>hm (Int.ofNat.inj e)
  have c1:cof N v (lx N T v a b) a=a:=Xp (by exact Ar.a150 la lb hm)
  have c2:cof N v (lx N T v a b) b=b:=Xp (by exact Ar.a151 lb la hm)
  have c3:lx N T v a b=0:=by
   rcases Nat.eq_zero_or_pos (lx N T v a b)with h|h
   ·exact h
   ·have:=x4 0 h
    rw[Xp (by exact Ar.a150 la lb hm),Xp (by exact Ar.a151 lb la hm)]at this
    exact absurd this hne
  rw[c1,c2,c3]
  exact Zf (Zi rfl) (Zf (ZU (Zo (ZaR (ZE rfl (Zc rfl Zk) l5) (ZE rfl (Zc rfl Zk) l6) Q4) rfl (x_eq d)) rfl) (Zf (W6 rfl (x_at (k:=0) rfl) rfl (YW (k:=0) rfl q1)) rfl))
theorem ZdU(hT:Tops T)(W:WF T N){a b:Nat}(ha:a<N.length)(hb:b<N.length):
  Zg tab (n+4) 18 [dv T,.p (.int a),.p (.int b)] (HB t c N m B)=some (.ok (.p (if a=b then .none else Xi (par N T 3 a b))),HB t c N m B):=by
 by_cases h:a=b
 ·subst h
  rw[if_pos rfl]
  exact Zn rfl rfl (Ye (Y4 (Zo rfl rfl (x_eq (decide_eq_true rfl))) (ZG rfl))) Xg
 ·rw[if_neg h]
  obtain⟨_,x2,x3,_⟩:=Zjr W (v:=0) ha hb h
  have c1:=YK W ha x2
  have c2:=YK W hb x2
  have c3:=YC W ha (i:=0) (Nat.zero_le _) (by exact Ar.a33) x2
  have c4:=YC W hb (i:=0) (Nat.zero_le _) (by exact Ar.a33) x2
  obtain⟨_,y2,y3,_⟩:=Zjr W (v:=1) c1 c2 x3
  have d1:=YK W c1 y2
  have d2:=YK W c2 y2
  have d3:=YC W c1 (i:=1) (by exact Ar.a39 c3) (by exact Ar.a48) y2
  have d4:=YC W c2 (i:=1) (by exact Ar.a39 c4) (by exact Ar.a48) y2
  have s0:=fun y=>Zar (t:=t) (c:=c) (m:=m) (B:=B) (n:=n) hT W (v:=0) (L:=[]) (y:=y) (by exact Ar.a33) ha hb (by exact Ar.a49) (by exact Ar.a49) h (by simp)
  have s1:=fun y=>Zar (t:=t) (c:=c) (m:=m) (B:=B) (n:=n) hT W (v:=1) (L:=[.int (lx N T 0 a b:Nat)]) (y:=y) (by exact Ar.a48) c1 c2 (by exact Ar.a39 c3) (by exact Ar.a39 c4) x3 (by simp)
  have s2:=fun y=>Zar (t:=t) (c:=c) (m:=m) (B:=B) (n:=n) hT W (v:=2) (L:=[.int (lx N T 0 a b:Nat),.int (lx N T 1 (cof N 0 (lx N T 0 a b) a) (cof N 0 (lx N T 0 a b) b):Nat)]) (y:=y) (by exact Ar.a152) d1 d2 (by exact Ar.a153 d3) (by exact Ar.a153 d4) y3 (by simp)
  have tl:lenV (.p (.tuple (T.map fun(t:Nat)=>PyData.int (t:Int)))) (HB t c N m (B++[.lst []]))=some (.ok (.p (.int ((3:Nat):Int))),HB t c N m (B++[.lst []])):=by
   show some (R.ok (V.p (.int (((T.map fun(t:Nat)=>PyData.int (t:Int)).length:Nat):Int))),HB t c N m (B++[.lst []]))=_
   rw[List.length_map,hT.len]
  exact Zn rfl rfl (Zf (ZU (Zo rfl rfl (x_eq (decide_eq_false fun e=>h (Int.ofNat.inj e)))) rfl) (Zf (Zi QZ) (Zf (Y5 (Yd (Zc (ZV rfl tl) Zk) rfl) (x_go rfl (s0 _) (x_go rfl (s1 _) (x_go rfl (s2 _) rfl)))) (ZG (ZV rfl (WD (k:=0) rfl (Wz rfl))))))) (ZI rfl)
end
end
section
noncomputable def tb(N:List Nd)(T:List Nat)(n:Nat):List P:=(Zw T 3 []).map fun c=>sem N (asg c) n
noncomputable def En(N:List Nd)(T:List Nat)(n:Nat):P:=.tuple [.int n,.tuple (tb N T n)]
noncomputable def Tr(T:List Nat)(N:List Nd)(n:Nat):Prop:=∀f,Fit T f→sem N f n=.int 0∨sem N f n=.int 1
theorem En0{N:List Nd}{T:List Nat}{k:Nat}{σ:Hp}:Zd (.p (En N T k)) (.p (.int 0)) σ=some (.ok (.p (.int k)),σ):=t_0
theorem En1{N:List Nd}{T:List Nat}{k:Nat}{σ:Hp}:Zd (.p (En N T k)) (.p (.int 1)) σ=some (.ok (.p (.tuple (tb N T k))),σ):=t_1
theorem ZbN{α:Type}{f g:α→P}:∀{l:List α},ZbM (l.map f) (l.map g)=l.map fun c=>.tuple [f c,g c]
 |[]=>rfl
 |a::l=>by simp only[List.map_cons,ZbM,ZbN]
theorem ZeA{α:Type}{f g h:α→P}:∀{l:List α},ZbL (l.map f) (l.map g) (l.map h)=l.map fun c=>.tuple [f c,g c,h c]
 |[]=>rfl
 |a::l=>by simp only[List.map_cons,ZbL,ZeA]
section
variable{T:List Nat}{N:List Nd}
theorem QN(W:WF T N){n:Nat}(hn:n<N.length):tblD N T 3 n=tb N T n:=ZcJ W (by exact Ar.a77) hn (Nat.zero_le _) rfl (by simp)
theorem XO(hT:Tops T){pre:List Nat}:(Zw T 3 pre).length≤64:=by
 rw[ZaH]
 have h0:=hT.le 0
 have h1:=hT.le 1
 have h2:=hT.le 2
 simp only[wid,Nat.sub_zero,Nat.one_mul]
 calc (tp T 2+1)*(tp T 1+1)*(tp T 0+1)≤4*4*4:=Nat.mul_le_mul (Nat.mul_le_mul (by exact Ar.a40 h2) (by exact Ar.a40 h1)) (by exact Ar.a40 h0)
  _=64:=rfl
theorem Ys{c:List Nat}(h:c∈Zw T 3 []):Fit T (asg c)∧c.length=3:=Zip (by exact Ar.a77) rfl (fun i=>by simp[asg]) h
theorem Zmq{E:List Nd}{n:Nat}(hn:n<N.length):tb (N++E) T n=tb N T n:=by
 unfold tb
 exact List.map_congr_left fun c _=>YN hn
theorem Grow.tb{N':List Nd}{M M':List (Ky×Nat)}{g:Nat}(a:Grow T N M N' M' g){k:Nat}(h:k<N.length):Mine.tb N' T k=Mine.tb N T k:=by
 obtain⟨E,e,l⟩:=a.ext
 rw[e,Zmq h]
theorem Grow.En{N':List Nd}{M M':List (Ky×Nat)}{g:Nat}(a:Grow T N M N' M' g){k:Nat}(h:k<N.length):Mine.En N' T k=Mine.En N T k:=by
 unfold Mine.En;rw[a.tb h]
theorem Grow.Tr{N':List Nd}{M M':List (Ky×Nat)}{g:Nat}(a:Grow T N M N' M' g){k:Nat}(h:k<N.length)(ht:Mine.Tr T N k):Mine.Tr T N' k:=fun f hf=>by rw[a.sem h];exact ht f hf
theorem ZjW(hT:Tops T){n:Nat}:(tb N T n).length≤64:=by rw[tb,List.length_map];exact XO hT
end
section
variable{t c:MObj}{N:List Nd}{M:List (Ky×Nat)}{B:Hp}{T:List Nat}{n:Nat}
inductive EnR(t c:MObj)(B:Hp)(T:List Nat)(N:List Nd)(M:List (Ky×Nat))(g:Nat)(Q:List Nd→Nat→Prop)(o:Option (R V×Hp)):Prop
 |mk (N':List Nd) (M':List (Ky×Nat)) (r:Nat):o=some (.ok (.p (En N' T r)),HB t c N' (memP M') B)→Grow T N M N' M' g→r<N'.length→Q N' r→EnR t c B T N M g Q o
theorem ZjM{f g:Fn}{l:Loc}{σ:Hp}{x y:List P}(h1:f l σ=some (.ok (.p (.tuple x)),σ))(h2:g l σ=some (.ok (.p (.tuple y)),σ))(h:x.length=y.length):Z5 gZip [f,g] l σ=some (.ok (ZbM x y),σ):=
 Yd (Zc h1 (Zc h2 Zk)) (show hif _ (hp (ZbM x y)) σ=_ from h_if (decide_eq_true h) rfl)
theorem ZlY{f g e:Fn}{l:Loc}{σ:Hp}{x y z:List P}(h1:f l σ=some (.ok (.p (.tuple x)),σ))(h2:g l σ=some (.ok (.p (.tuple y)),σ))(h3:e l σ=some (.ok (.p (.tuple z)),σ))(h:x.length=y.length∧y.length=z.length):Z5 gZip [f,g,e] l σ=some (.ok (ZbL x y z),σ):=
 Yd (Zc h1 (Zc h2 (Zc h3 Zk))) (show hif _ (hp (ZbL x y z)) σ=_ from h_if (decide_eq_true h) rfl)
theorem ZbX{N N':List Nd}{a b:Nat}:(tb N T a).length=(tb N' T b).length:=by rw[tb,tb,List.length_map,List.length_map]
theorem Zga{k:Nat}(h:k≤64):k≤lim:=Nat.le_trans h (Nat.le_trans (by decide) ZO)
theorem ZbY(hT:Tops T){tg:Tg}{f:Fn}{it:In}{l:Loc}{N':List Nd}{m:List (P×P)}{inj out:List Nat→P}{G:List Nat→Loc}(hi:it l (HB t c N' m B)=some (.ok ((Zw T 3 []).map inj),HB t c N' m B))(h0:∀a,ZX tg (inj a) (X7 tg l)=some (G a))(h1:∀a b,ZX tg (inj b) (G a)=some (G b))
  (hf:∀a∈Zw T 3 [],f (G a) (HB t c N' m B)=some (.ok (.p (out a)),HB t c N' m B)):eFn (g1 YQ) [ZS it tg ZM f] l (HB t c N' m B)=some (.ok (.p (.tuple ((Zw T 3 []).map out))),HB t c N' m (B++[.lst ((Zw T 3 []).map out)])):=
 ZV (QX (Zw T 3 []) inj out G hi (Zga (XO hT)) h0 h1 hf) (WD (k:=0) rfl (by rw[List.length_map];exact Zga (XO hT)))
noncomputable def l2B(id2:Nat)(c0:CF→Fn):Body:=⟨3,5,fun cf=>(sSeq (sRet (Zm [(Zq cf id2 [(Za 0),(eBin Zd (Za 1) (Zb (.int 0))),(eBin Zd (Za 2) (Zb (.int 0)))]),(eFn (g1 YQ) [(ZS (Z5 gZip [(eBin Zd (Za 1) (Zb (.int 1))),(eBin Zd (Za 2) (Zb (.int 1)))]) (.tup [3,4]) ZM (c0 cf))])])) Ze)⟩
theorem Zka(hT:Tops T){id id2 a b g k:Nat}{c0:CF→Fn}{Q:List Nd→Nat→Prop}(hb:tab id=some (l2B id2 c0)){N':List Nd}{M':List (Ky×Nat)}{r:Nat}(e:Zg tab k id2 [dv T,.p (.int a),.p (.int b)] (HB t c N (memP M) B)=some (.ok (.p (.int (r:Nat))),HB t c N' (memP M') B))(gr:Grow T N M N' M' g)(hr:r<N'.length)
  (hq:Q N' r) (hc:∀x,Fit T (asg x)→∀l₀ l₁ l₂ σ,c0 (Zg tab k) [l₀,l₁,l₂,some (.p (sem N (asg x) a)),some (.p (sem N (asg x) b))] σ=some (.ok (.p (sem N' (asg x) r)),σ)):
  EnR t c B T N M g Q (Zg tab (k+1) id [dv T,.p (En N T a),.p (En N T b)] (HB t c N (memP M) B)):=
 ⟨N',M',r,Zn hb rfl (ZG (Zz (Zp (Zc rfl (Zc (Zh rfl rfl En0) (Zc (Zh rfl rfl En0) Zk))) e)
  (ZbY hT (inj:=fun c=>.tuple [sem N (asg c) a,sem N (asg c) b]) (out:=fun c=>sem N' (asg c) r) (G:=fun x=>[some (dv T),some (.p (En N T a)),some (.p (En N T b)),some (.p (sem N (asg x) a)),some (.p (sem N (asg x) b))]) ((ZjM (Zh rfl rfl En1) (Zh rfl rfl En1) ZbX).trans (congrArg (fun z=>some (R.ok z,_)) ZbN)) (fun _=>rfl) (fun _ _=>rfl) fun x hx=>hc x (Ys hx).1 _ _ _ _))) (ZI rfl),gr,hr,hq⟩
theorem ZcQ(hT:Tops T){a b:Nat}(W:WF T N)(O:MOk T N M)(ha:a<N.length)(hb:b<N.length)(ta:Tr T N a)(tb':Tr T N b)(hN:N.length+24≤cap)(hM:M.length+24≤cap):
  EnR t c B T N M 24 (Tr T) (Zg tab (n+10) 32 [dv T,.p (En N T a),.p (En N T b)] (HB t c N (memP M) B)):=by
 obtain⟨N',M',r,e,g,hr,hs⟩:=Zji (t:=t) (c:=c) (B:=B) (n:=n) hT W O ha hb hN hM
 refine Zka (c0:=WS) hT rfl e g hr (fun f hf=>?_) (fun x hf l₀ l₁ l₂ σ=>?_)
 ·rw[hs f hf]
  rcases ta f hf with h1|h1<;>rw[h1]
  ·exact .inl rfl
  ·exact tb' f hf
 ·rw[hs _ hf]
  refine Zh rfl rfl ?_
  rcases ta _ hf with h1|h1<;>rcases tb' _ hf with h2|h2<;>rw[h1,h2]<;>rfl
end
end
section
section
variable{t c:MObj}{N:List Nd}{M:List (Ky×Nat)}{B:Hp}{T:List Nat}{n:Nat}
theorem Zan(hT:Tops T){a b:Nat}(W:WF T N)(O:MOk T N M)(ha:a<N.length)(hb:b<N.length)(ta:Tr T N a)(tb':Tr T N b)(hN:N.length+24≤cap)(hM:M.length+24≤cap):
  EnR t c B T N M 24 (Tr T) (Zg tab (n+10) 33 [dv T,.p (En N T a),.p (En N T b)] (HB t c N (memP M) B)):=by
 obtain⟨N',M',r,e,g,hr,hs⟩:=ZfO (t:=t) (c:=c) (B:=B) (n:=n) hT W O ha hb hN hM
 refine Zka (c0:=Wh) hT rfl e g hr (fun f hf=>?_) (fun x hf l₀ l₁ l₂ σ=>?_)
 ·rw[hs f hf]
  rcases ta f hf with h1|h1<;>rw[h1]
  ·exact tb' f hf
  ·exact .inr rfl
 ·rw[hs _ hf]
  refine ZaR rfl rfl ?_
  rcases ta _ hf with h1|h1<;>rcases tb' _ hf with h2|h2<;>rw[h1,h2]<;>rfl
theorem XF(hT:Tops T){a:Nat}(W:WF T N)(O:MOk T N M)(ha:a<N.length)(ta:Tr T N a)(hN:N.length+24≤cap)(hM:M.length+24≤cap):
  EnR t c B T N M 24 (Tr T) (Zg tab (n+10) 34 [dv T,.p (En N T a)] (HB t c N (memP M) B)):=by
 obtain⟨N',M',r,e,g,hr,hs⟩:=ZfN (t:=t) (c:=c) (B:=B) (n:=n) hT W O ha hN hM
 refine⟨N',M',r,Zn rfl rfl (ZG (Zz (Zp (Zc rfl (Zc (Zh rfl rfl En0) Zk)) e) (ZbY hT (inj:=fun c=>sem N (asg c) a) (out:=fun c=>sem N' (asg c) r) (G:=fun x=>[some (dv T),some (.p (En N T a)),some (.p (sem N (asg x) a))]) (Zaa (Zh rfl rfl En1)) (fun _=>rfl) (fun _ _=>rfl) fun x hx=>Zh rfl rfl ?_))) (ZI rfl),g,hr,fun f hf=>?_⟩
 ·rw[hs _ (Ys hx).1]
  rcases ta _ (Ys hx).1 with h1|h1<;>rw[h1]<;>rfl
 ·rw[hs f hf]
  rcases ta f hf with h1|h1<;>rw[h1]
  ·exact .inr rfl
  ·exact .inl rfl
theorem Zao(hT:Tops T){a y z:Nat}(W:WF T N)(O:MOk T N M)(ha:a<N.length)(hy:y<N.length)(hz:z<N.length)(hN:N.length+21≤cap)(hM:M.length+21≤cap):
  EnR t c B T N M 21 (fun N' r=>Tr T N y→Tr T N z→Tr T N' r) (Zg tab (n+9) 35 [dv T,.p (En N T a),.p (En N T y),.p (En N T z)] (HB t c N (memP M) B)):=by
 obtain⟨N2,M2,r2,e,g2,hr2⟩:=ZeR (t:=t) (c:=c) (B:=B++[.lst ((Zw T 3 []).map fun c=>if PyData.eqv (sem N (asg c) a) (.int 1)then sem N (asg c) y else sem N (asg c) z)]) (n:=n) hT W O ha hy hz hN hM
 have hs2:∀f,Fit T f→sem N2 f r2=if PyData.eqv (sem N f a) (.int 1)then sem N f y else sem N f z:=fun f hf=>by rw[hr2.sm f hf,g2.kyV (by simp only[kyNs,List.mem_cons,List.not_mem_nil,or_false,forall_eq_or_imp,forall_eq];exact⟨ha,hy,hz⟩),kyV]
 have htb:((Zw T 3 []).map fun c=>if PyData.eqv (sem N (asg c) a) (.int 1)then sem N (asg c) y else sem N (asg c) z)=tb N2 T r2:=List.map_congr_left fun x hx=>(hs2 _ (Ys hx).1).symm
 have tc:=ZbY (t:=t) (c:=c) (N':=N) (m:=memP M) (B:=B) hT (tg:=.tup [5,6,7]) (f:=Wi (Zg tab (n+8))) (it:=Z5 gZip [(eBin Zd (Za 1) (Zb (.int 1))),(eBin Zd (Za 2) (Zb (.int 1))),(eBin Zd (Za 3) (Zb (.int 1)))]) (l:=[some (dv T),some (.p (En N T a)),some (.p (En N T y)),some (.p (En N T z)),none,none,none,none]) (inj:=fun c=>.tuple [sem N (asg c) a,sem N (asg c) y,sem N (asg c) z]) (out:=fun c=>if PyData.eqv (sem N (asg c) a) (.int 1)then sem N (asg c) y else sem N (asg c) z) (G:=fun x=>[some (dv T),some (.p (En N T a)),some (.p (En N T y)),some (.p (En N T z)),none,some (.p (sem N (asg x) a)),some (.p (sem N (asg x) y)),some (.p (sem N (asg x) z))])
  ((ZlY (Zh rfl rfl En1) (Zh rfl rfl En1) (Zh rfl rfl En1) ⟨ZbX,ZbX⟩).trans (congrArg (fun z=>some (R.ok z,_)) ZeA)) (fun _=>rfl) (fun _ _=>rfl) fun x hx=>by
   refine ZcD (Zo rfl rfl (YT (Yz (QQ W (Ys hx).1 ha) (.int 1)))) ?_
   cases PyData.eqv (sem N (asg x) a) (.int 1)<;>rfl
 rw[htb]at tc e
 exact⟨N2,M2,r2,Zn rfl rfl (Zf (Zi tc) (ZG (Zz (Zp (Zc rfl (Zc (Zh rfl rfl En0) (Zc (Zh rfl rfl En0) (Zc (Zh rfl rfl En0) Zk)))) e) rfl))) (ZI rfl),g2,hr2.lt,fun h1 h2 f hf=>by
  rw[hs2 f hf]
  split
  ·exact h1 f hf
  ·exact h2 f hf⟩
end
end
section
theorem Zbg:∀{k a:Nat},Zae (a:Int) 1 k=(List.range' a k).map i1P
 |0,_=>rfl
 |k+1,a=>by
  rw[Zae,List.range'_succ,List.map_cons,show((a:Int)+1)=((a+1:Nat):Int)by exact Ar.a17,Zbg]
  rfl
theorem Zj4{α:Type}{m:HM α}:hif true m=m:=funext fun _=>rfl
theorem YF{k:Nat}(hk:k≤1000):Q7 0 (k:Int) 1=hp ((List.range k).map i1P):=by
 have h1:(Builtin.Range.rangeSize 0 (k:Int) 1).toNat=k:=by
  unfold Builtin.Range.rangeSize
  rw[if_pos (by decide)]
  split<;>simp<;>exact Ar.n1 (.im (.no (.T (.k 0) (.c (.v 0)))) (.e (.k 0) (.v 0))) (by kernel_rfl) (by assumption)
 have h2:(decide ((0:Int)<1)&&ZJ 0&&ZJ (k:Int)&&ZJ 1&&decide ((k:Int) - 0≤1000000))=true:=by
  simp[ZJ];exact Ar.n1 (.im (.l (.v 0) (.k 1000)) (.an (.L (.c (.v 0)) (.k 1000000000)) (.L (.c (.v 0)) (.k 1000000)))) (by kernel_rfl) hk
 unfold Q7
 rw[h2,Zj4,h1,show(0:Int)=((0:Nat):Int)from rfl,Zbg,← List.range_eq_range']
theorem gR1{k:Int}{σ:Hp}{S:Option (R (List P)×Hp)}(h:Q7 0 k 1 σ=S):Z2 [.p (.int k)] σ=S:=by
 unfold Z2;exact h_i1 h
theorem ZdW{k:Nat}(hk:k+1≤1000){σ:Hp}:Q7 0 ((k:Int)+1) 1 σ=some (.ok ((List.range (k+1)).map i1P),σ):=by
 have h:=YF hk
 rw[Int.natCast_add]at h
 exact congrFun h σ
theorem ZdE{α:Type}{l:List α}:(List.range l.length).map i1P=l.zipIdx.map fun p=>i1P p.2:=by
 have:l.zipIdx.map Prod.snd=List.range l.length:=by rw[List.zipIdx_map_snd,List.range_eq_range']
 rw[← this,List.map_map];rfl
theorem Zez{α:Type}{t:Tg}{f:Fn}{σ σ1:Hp}{inj out:α→P}{G:α→Loc}(h1:∀a b,ZX t (inj b) (G a)=some (G b)){as:List α}{l:Loc}(hne:as≠[])(h0:∀a∈as,ZX t (inj a) l=some (G a))(hf:∀a∈as,f (G a) σ=some (.ok (.p (out a)),σ1))(hf1:∀a∈as,f (G a) σ1=some (.ok (.p (out a)),σ1)):Y2 t ZM f l (as.map inj) σ=some (.ok (as.map out),σ1):=by
 match as,hne with
 |a::as,_=>
  have ih:=Qz h1 (as:=as) (l:=G a) (fun b _=>h1 a b) (fun b hb=>hf1 b (by simp[hb]))
  rw[List.map_cons,Y2,h0 a List.mem_cons_self]
  exact h_b (a:=true) (σ1:=σ) rfl (h_b (h_ne (h_b (hf a List.mem_cons_self) rfl)) (h_b ih rfl))
noncomputable def innB(S:List (Nat×Nat))(x:Nat):Bool:=S.any fun s=>decide (s.1≤x)&&decide (x≤s.2)
theorem Zfg{S:List (Nat×Nat)}{x:Nat}:innB S x=true↔Inn S x:=by
 simp[innB,Inn]
section
variable{t c:MObj}{N:List Nd}{M:List (Ky×Nat)}{m:List (P×P)}{B:Hp}{T:List Nat}{n:Nat}
theorem XZ(a:Int)(u:Nat)(hu:0<u):∃l:Nat,Int.fmod a (u:Int)=(l:Int)∧l<u:=by
 have h1:=Int.fmod_nonneg_of_pos a (show(0:Int)<(u:Int)by exact Ar.a154 hu)
 have h2:=Int.fmod_lt_of_pos a (show(0:Int)<(u:Int)by exact Ar.a154 hu)
 exact⟨(Int.fmod a u).toNat,by omega,by omega⟩
theorem Za0{cf:CF}{a0 a1 a5:Option V}{w top U1 U2 L K:Int}{Q:List P}(h1:top+1=U1)(h2:top+2=U2)(d1:decide (U1≠0)=true)(d2:decide (U2≠0)=true)(d3:ZJ U2=true)(e1:Int.fmod w U2=L)(e3:Int.fmod (Int.fdiv w U2) U1=K)(hq:Nat.ble Q.length 9=true):
  W3 cf [a0,a1,some (.p (.int top)),some (.ref (fr B 0)),some (.p (.int w)),a5] (HB t c N m (B++[.lst Q]))=some (.ok .next,[a0,a1,some (.p (.int top)),some (.ref (fr B 0)),some (.p (.int w)),some (.p (.int L))],HB t c N m (B++[.lst (Q++[.tuple [.int L,.int (L+K)]])])):=
 Zf (Zi (Zh rfl (Zh rfl rfl (YX h2)) (ZaQ d2 e1))) (Zf (W6 rfl (x_at (k:=0) rfl) (Zz rfl (Zh rfl (Zh (Zh rfl (Zh rfl rfl (YX h2)) (Zi8 d2 d3 rfl)) (Zh rfl rfl (YX h1)) (ZaQ d1 e3)) rfl)) (ZeB (k:=0) rfl (Nat.lt_of_le_of_lt (Nat.le_of_ble_eq_true hq) (Y6 (a:=9) rfl)))) rfl)
theorem Zel{x y top U1 U2 L1 L2 K1 K2:Int}(h1:top+1=U1)(h2:top+2=U2)(d1:decide (U1≠0)=true)(d2:decide (U2≠0)=true)(d3:ZJ U2=true)(e1:Int.fmod x U2=L1)(e2:Int.fmod y U2=L2)(e3:Int.fmod (Int.fdiv x U2) U1=K1)(e4:Int.fmod (Int.fdiv y U2) U1=K2):Zg tab (n+1) 25 [.p (.int x),.p (.int y),.p (.int top)] (HB t c N m B)=some (.ok (.ref (fr B 0)),HB t c N m (B++[.lst [.tuple [.int L1,.int (L1+K1)],.tuple [.int L2,.int (L2+K2)]]])):=
 Zn rfl rfl (Zf (Zi QZ) (Zf (Y5 (Zaa (Zz rfl rfl)) (x_go rfl (Za0 h1 h2 d1 d2 d3 e1 e3 rfl) (x_go rfl (Za0 h1 h2 d1 d2 d3 e2 e4 rfl) rfl))) (ZG rfl))) (Wk (k:=0) rfl)
theorem Zbp{x y:Int}{top:Nat}(ht:top≤3):∃l1 h1 l2 h2:Nat,l1≤h1∧l2≤h2∧Zg tab (n+1) 25 [.p (.int x),.p (.int y),.p (.int top)] (HB t c N m B)=some (.ok (.ref (fr B 0)),HB t c N m (B++[.lst [prt (l1,h1),prt (l2,h2)]])):=by
 obtain⟨l1,e1,_⟩:=XZ x (top+2) (by exact Ar.a155)
 obtain⟨l2,e2,_⟩:=XZ y (top+2) (by exact Ar.a155)
 obtain⟨k1,e3,_⟩:=XZ (Int.fdiv x ((top+2:Nat):Int)) (top+1) (by exact Ar.a156)
 obtain⟨k2,e4,_⟩:=XZ (Int.fdiv y ((top+2:Nat):Int)) (top+1) (by exact Ar.a156)
 refine⟨l1,l1+k1,l2,l2+k2,by exact Ar.a35,by exact Ar.a35,?_⟩
 rw[Zel (U1:=((top+1:Nat):Int)) (U2:=((top+2:Nat):Int)) (by exact Ar.a17) (by exact Ar.n1 (.E (.p (.c (.v 0)) (.k 2)) (.c (.p (.v 0) (.k 2)))) (by kernel_rfl)) (by simp;exact Ar.a157) (by simp;exact Ar.n1 (.no (.E (.p (.c (.v 0)) (.k 2)) (.k 0))) (by kernel_rfl)) (by simp[ZJ];exact Ar.n1 (.im (.l (.v 0) (.k 3)) (.an (.L (.k (-1000000000)) (.p (.c (.v 0)) (.k 2))) (.L (.p (.c (.v 0)) (.k 2)) (.k 1000000000)))) (by kernel_rfl) ht) e1 e2 e3 e4]
 simp only[prt,Int.natCast_add]
theorem ZkA{f g h:Fn}{op₁ op₂:V→V→HM Bool}{l:Loc}{σ:Hp}{a b d:V}{c₁ c₂:Bool}(h1:f l σ=some (.ok a,σ))(h2:g l σ=some (.ok b,σ))(h3:op₁ a b σ=some (.ok c₁,σ))(h4:h l σ=some (.ok d,σ))(h5:op₂ b d σ=some (.ok c₂,σ)):ZeN op₁ op₂ f g h l σ=some (.ok (c₁&&c₂),σ):=
 h_b h1 (h_b h2 (h_b h3 (by cases c₁ with|false=>rfl|true=>exact h_b h4 h5)))
theorem Zer{a b:Nat}:decide ((a:Int)≤b)=decide (a≤b):=decide_eq_decide.mpr Int.ofNat_le
theorem ZgG{cf:CF}{a0:Option V}{x:Nat}{σ:Hp}{S:List (Nat×Nat)}:∀{y z:Option V},∃l',Yj (.tup [2,3]) (Wf cf) (S.map prt) [a0,some (.p (.int x)),y,z] σ=some (.ok (if innB S x then .ret (.p (.bool true))else .next),l',σ):=by
 induction S with
 |nil=>exact fun{y z}=>⟨_,rfl⟩
 |cons q S ih=>
  intro y z
  obtain⟨a,b⟩:=q
  have ch:ZeN leV leV (Za 2) (Za 1) (Za 3) [a0,some (.p (.int x)),some (.p (.int a)),some (.p (.int b))] σ=some (.ok (decide (a≤x)&&decide (x≤b)),σ):=ZkA rfl rfl (x_dc Zer) rfl (x_dc Zer)
  have hb:innB ((a,b)::S) x=((decide (a≤x)&&decide (x≤b))||innB S x):=rfl
  rw[hb]
  cases hd:decide (a≤x)&&decide (x≤b)with
  |true=>rw[hd]at ch;exact⟨_,ZdH rfl (Ye (Y4 ch (ZG rfl)))⟩
  |false=>rw[hd]at ch;exact ih.imp fun l' e=>x_go rfl (Zf (ZU ch rfl) rfl) e
theorem ZjZ{j:Nat}{L:List P}(hj:B[j]?=some (.lst L)∨B[j]?=some (.frz L)):asP (.ref (j+5)) (HB t c N m B)=some (.ok (.list L),HB t c N m (B.set j (.frz L))):=by
 rcases hj with h|h
 ·exact ZaM (σ:=HB t c N m B) h
 ·obtain⟨h1,h2⟩:=List.getElem?_eq_some_iff.mp h
  rw[← h2,List.set_getElem_self];exact Zc5 (σ:=HB t c N m B) h
theorem Zbm{j l1 h1 l2 h2 x:Nat}(hj:B[j]?=some (.lst [prt (l1,h1),prt (l2,h2)])∨B[j]?=some (.frz [prt (l1,h1),prt (l2,h2)])):
  Zg tab (n+1) 26 [.ref (j+5),.p (.int x)] (HB t c N m B)=some (.ok (.p (.bool (innB [(l1,h1),(l2,h2)] x))),HB t c N m (B.set j (.frz [prt (l1,h1),prt (l2,h2)]))):=by
 obtain⟨l',e⟩:=ZgG (cf:=Zg tab n) (a0:=some (.ref (j+5))) (x:=x) (σ:=HB t c N m (B.set j (.frz [prt (l1,h1),prt (l2,h2)]))) (S:=[(l1,h1),(l2,h2)]) (y:=none) (z:=none)
 have it:=XA (f:=Za 0) (l:=[some (.ref (j+5)),some (.p (.int x)),none,none]) rfl (ZjZ (t:=t) (c:=c) (N:=N) (m:=m) hj)
 refine Zn (v:=.p (.bool (innB [(l1,h1),(l2,h2)] x))) (l:=l') rfl rfl ?_ (Zin List.length_set.symm)
 cases hb:innB [(l1,h1),(l2,h2)] x with
 |true=>rw[hb]at e;exact Ye (Y5 it e)
 |false=>rw[hb]at e;exact Zf (Y5 it e) (ZG rfl)
end
end
section
section
variable{t c:MObj}{N:List Nd}{M:List (Ky×Nat)}{m:List (P×P)}{B:Hp}{T:List Nat}{n:Nat}
noncomputable def Cs(T:List Nat):MObj:=.lst ((Zw T 3 []).map Xi)
theorem Ze0{x:List Nat}{v:Nat}{σ:Hp}(h:x.length=3)(hv:v<3):Y9 (x.map i1P) (.p (.int v)) σ=some (.ok (.p (.int (asg x v:Nat))),σ):=by
 refine Zv ?_
 rw[List.getElem?_map,List.getElem?_eq_getElem (by omega)]
 simp[asg,i1P,List.getD,List.getElem?_eq_getElem (by omega:v<x.length)]
inductive TsR(t:MObj)(T:List Nat)(N:List Nd)(M:List (Ky×Nat))(B:Hp)(v y z:Nat)(o:Option (R V×Hp)):Prop
 |mk (N':List Nd) (r:Nat):o=some (.ok (.p (En N' T r)),HB t (Cs T) N' (memP M) B)→Grow T N M N' M 1→r<N'.length→v≤lvl N' r→(Tr T N y→Tr T N z→Tr T N' r)→TsR t T N M B v y z o
theorem Zc0(hT:Tops T){σ:Hp}(h:σ[1]?=some (Cs T)){l:Loc}{f:Fn}(hf:f l σ=some (.ok (.ref 1),σ)):Z5 Z2 [eFn (g1 lenV) [f]] l σ=some (.ok ((Zw T 3 []).zipIdx.map fun p=>i1P p.2),σ):=by
 have rg:=YF (k:=(Zw T 3 []).length) (Nat.le_trans (XO hT) (by decide))
 refine Yd (Zc (ZV hf (ZW h rfl)) Zk) ?_
 rw[List.length_map]
 exact gR1 ((congrFun rg σ).trans (by rw[ZdE];rfl))
theorem ZeM{i k:Nat}{x:List Nat}{σ:Hp}(h:(Zw T 3 [])[i]?=some x):Zd (.p (.tuple (tb N T k))) (.p (.int (i:Nat))) σ=some (.ok (.p (sem N (asg x) k)),σ):=
 Zv (l:=tb N T k) (by rw[tb,List.getElem?_map,h];rfl)
theorem Zbn(hT:Tops T){v j l1 h1 l2 h2 y z:Nat}(W:WF T N)(O:MOk T N M)(hv:v<3)(hy:y<N.length)(hz:z<N.length)(ly:v<lvl N y)(lz:v<lvl N z)(hN:N.length<cap)(a1:l1≤h1)(a2:l2≤h2)(hj:B[j]?=some (.lst [prt (l1,h1),prt (l2,h2)])∨B[j]?=some (.frz [prt (l1,h1),prt (l2,h2)])):
  TsR t T N M (B.set j (.frz [prt (l1,h1),prt (l2,h2)])) v y z (Zg tab (n+4) 27 [dv T,.ref 1,.p (.int v),.ref (j+5),.p (En N T y),.p (En N T z)] (HB t (Cs T) N (memP M) B)):=by
 have hjl:j<B.length:=by rcases hj with h|h<;>exact(List.getElem?_eq_some_iff.mp h).1
 have hcl:=XO (pre:=[]) hT
 have htp:=hT.le v
 obtain⟨S,hS⟩:∃S,S=[(l1,h1),(l2,h2)]:=⟨_,rfl⟩
 obtain⟨B1,hB1⟩:∃B1,B.set j (.frz [prt (l1,h1),prt (l2,h2)])=B1:=⟨_,rfl⟩
 have hB1j:B1[j]?=some (.frz [prt (l1,h1),prt (l2,h2)]):=by rw[← hB1];exact List.getElem?_set_self hjl
 have hbl:B.length=B1.length:=by rw[← hB1,List.length_set]
 have w1:∀x,Zg tab (n+3) 26 [.ref (j+5),.p (.int (x:Nat))] (HB t (Cs T) N (memP M) B)=some (.ok (.p (.bool (innB S x))),HB t (Cs T) N (memP M) B1):=fun x=>(Zbm (n:=n+2) (x:=x) hj).trans (by rw[hB1,hS])
 have w2:∀x,Zg tab (n+3) 26 [.ref (j+5),.p (.int (x:Nat))] (HB t (Cs T) N (memP M) B1)=some (.ok (.p (.bool (innB S x))),HB t (Cs T) N (memP M) B1):=fun x=>(Zbm (n:=n+2) (x:=x) (.inr hB1j)).trans (by rw[← hB1,List.set_set,hS])
 rw[hB1]
 have hc1:ZS (Z5 Z2 [eBin addV (eBin Zd (ZT (Za 0) 0) (Za 2)) (Zb (.int 1))]) (.one 8) ZM (Xd (Zg tab (n+3))) [some (dv T),some (.ref 1),some (.p (.int v)),some (.ref (j+5)),some (.p (En N T y)),some (.p (En N T z)),none,none,none,none] (HB t (Cs T) N (memP M) B)=some (.ok (.ref (fr B1 0)),HB t (Cs T) N (memP M) (B1++[.lst ((List.range (tp T v+1)).map fun x=>.bool (innB S x))])):=
  h_b (a:=(List.range (tp T v+1)).map i1P) (Yd (Zc (Zh (Zh rfl rfl (Yv hT.len hv)) rfl (YX rfl)) Zk) (gR1 (ZdW (k:=tp T v) (by exact Ar.a34 htp))))
   (h_b (Zez (f:=Xd (Zg tab (n+3))) (t:=.one 8) (inj:=i1P) (out:=fun x=>.bool (innB S x)) (G:=fun x=>[some (dv T),some (.ref 1),some (.p (.int v)),some (.ref (j+5)),some (.p (En N T y)),some (.p (En N T z)),none,none,some (.p (.int (x:Nat))),none]) (fun _ _=>rfl) (as:=List.range (tp T v+1)) (by simp) (fun _ _=>rfl) (fun x _=>Zp (Zc rfl (Zc rfl Zk)) (w1 x)) fun x _=>Zp (Zc rfl (Zc rfl Zk)) (w2 x))
    (XY (by rw[List.length_map,List.length_range];exact Nat.le_trans (Nat.succ_le_succ htp) (Wz rfl))))
 obtain⟨N',r,m1,m2,m3,m4,m5⟩:=Zjf (t:=t) (c:=Cs T) (B:=B1++[.lst ((List.range (tp T v+1)).map fun x=>.bool (innB S x)),.lst ((Zw T 3 []).map fun x=>if innB S (asg x v)then sem N (asg x) y else sem N (asg x) z)]) (n:=n) (j:=j) hT W O hv hy hz ly lz hN a1 a2 (.inr (by rw[List.getElem?_append_left (List.getElem?_eq_some_iff.mp hB1j).1];exact hB1j))
 rw[← hS]at m5
 have hs:∀f,Fit T f→sem N' f r=if innB S (f v)then sem N f y else sem N f z:=fun f hf=>by
  obtain⟨q1,q2⟩:=m5 f hf
  split
  ·rename_i h;exact q1 (Zfg.mp h)
  ·rename_i h;exact q2 fun hh=>h (Zfg.mpr hh)
 have htb:((Zw T 3 []).map fun x=>if innB S (asg x v)then sem N (asg x) y else sem N (asg x) z)=tb N' T r:=List.map_congr_left fun x hx=>(hs _ (Ys hx).1).symm
 have hc0:=Zd6 (f:=Wg (Zg tab (n+3))) (tg:=.one 9) (it:=Z5 Z2 [eFn (g1 lenV) [Za 1]]) (l:=[some (dv T),some (.ref 1),some (.p (.int v)),some (.ref (j+5)),some (.p (En N T y)),some (.p (En N T z)),some (.ref (fr B1 0)),none,none,none]) (σ:=HB t (Cs T) N (memP M) (B1++[.lst ((List.range (tp T v+1)).map fun x=>.bool (innB S x))])) (t:=t) (c:=Cs T) (N:=N) (m:=memP M) (B:=B1) (R:=[.lst ((List.range (tp T v+1)).map fun x=>.bool (innB S x))]) (Zw T 3 []).zipIdx (fun p=>i1P p.2) (fun p=>if innB S (asg p.1 v)then sem N (asg p.1) y else sem N (asg p.1) z) (G:=fun p=>[some (dv T),some (.ref 1),some (.p (.int v)),some (.ref (j+5)),some (.p (En N T y)),some (.p (En N T z)),some (.ref (fr B1 0)),none,none,some (.p (.int (p.2:Nat)))]) (Zc0 hT rfl rfl) (by rw[List.length_zipIdx];exact Zga hcl) (fun _=>rfl) (fun _ _=>rfl) fun p hp'=>by
  obtain⟨x,i⟩:=p
  have hxi:=List.mem_zipIdx_iff_getElem?.mp hp'
  obtain⟨hf,hx3⟩:=Ys (List.mem_iff_getElem?.mpr ⟨i,hxi⟩)
  refine ZcD (QL (Zh rfl (Zh (Zh rfl rfl (ZW (o:=Cs T) rfl (Zv (l:=(Zw T 3 []).map Xi) (i:=i) (p:=.tuple (x.map i1P)) (by rw[List.getElem?_map,hxi];rfl)))) rfl (Ze0 hx3 hv)) (x_it rfl (Zv (p:=.bool (innB S (asg x v))) (by rw[List.getElem?_map,List.getElem?_range (by have:=hf v;exact Ar.a31 this)];rfl)))) rfl) ?_
  dsimp only
  cases innB S (asg x v)with
  |true=>exact Zh (Zh rfl rfl En1) rfl (ZeM hxi)
  |false=>exact Zh (Zh rfl rfl En1) rfl (ZeM hxi)
 rw[ZdF (g:=fun x=>if innB S (asg x v)then sem N (asg x) y else sem N (asg x) z),htb]at hc0
 rw[htb]at m1
 exact⟨N',r,Zn rfl rfl (Zf (Zi hc1) (Zf (Zi (ZV hc0 (WD (k:=1) rfl (Zga (ZjW hT))))) (ZG (Zz (Zp (Zc rfl (Zc rfl (Zc rfl (Zc (Zh rfl rfl En0) (Zc (Zh rfl rfl En0) Zk))))) m1) rfl)))) (ZI hbl),m2,m3,m4,fun t1 t2 f hf=>by
  rw[hs f hf]
  split
  ·exact t1 f hf
  ·exact t2 f hf⟩
end
end
section
section
variable{t c:MObj}{N:List Nd}{M:List (Ky×Nat)}{m:List (P×P)}{B:Hp}{T:List Nat}{n:Nat}
theorem Zi6{c:Addr}{w:Str}{b rest:SM}{l l':Loc}{σ σ':Hp}(hw:PyData.strOk w=true)(h:b l σ=some (.exc c w,l',σ')):sSeq (sTry c w b) rest l σ=some (.ok (.ret (.p (.bool true))),ZdJ l',σ'):=Ye (by
 unfold sTry;rw[h]
 show(if c=c∧PyData.strOk w=true then some (R.ok (Out.ret (.p (.bool (PyData.eqv (.str w) (.str w))))),ZdJ l',σ')else none)=_
 rw[if_pos ⟨rfl,hw⟩,Yr rfl])
theorem Zhg(hT:Tops T){v y z:Nat}{sp:V}(hy:y<N.length)(hz:z<N.length)(h:min (lvl N y) (lvl N z)≤v):
  Zg tab (n+4) 28 [dv T,.p (.int v),sp,.p (En N T y),.p (En N T z)] (HB t c N (memP M) B)=some (.ok (.p (.bool true)),HB t c N (memP M) B):=
 Zn rfl rfl (Zi6 (by decide+kernel) (Yu (ZhP (Zp (Zc rfl (Zc rfl (Zc rfl (Zc (Zh rfl rfl En0) (Zc (Zh rfl rfl En0) Zk))))) (ZcN hT hy hz h))))) Z9
theorem ZfM(hT:Tops T){j v:Nat}{ps:List (Nat×Nat)}{u:Nat}(hv:v<3)(hr:Rise 0 ps u)(hne:ps≠[])(hu:u<tp T v)(hlen:ps.length<1000)(hj:B[j]?=some (.lst (ps.map prt))∨B[j]?=some (.frz (ps.map prt))):
  Zg tab (n+2) 29 [dv T,.p (.int v),.ref (j+5)] (HB t c N (memP M) B)=some (.ok (.p (.bool true)),HB t c N (memP M) (B.set j (.frz (ps.map prt)))):=
 Zn rfl rfl (Zi6 (by decide+kernel) (Yu (ZhP (ZE rfl (Zc rfl (Zc rfl Zk)) (ZcP hT hv hr hne hu hlen hj))))) (Zin List.length_set.symm)
theorem ZfL(W:WF T N){vs:V}{r j:Nat}{ps:List (Nat×Nat)}(hr:N[r]?=some (.br j ps)){x:Nat}(hx:tp T j<x)(hv:Zd vs (.p (.int (j:Int))) (HB t c N m B)=some (.ok (.p (.int ((x:Nat):Int))),HB t c N m B)):
  Zg tab (n+3) 30 [dv T,.p (.int r),vs] (HB t c N m B)=some (.ok (.p (.bool true)),HB t c N m B):=
 Zn rfl rfl (Zi6 (by decide+kernel) (Yu (ZhP (Zp (Zc rfl (Zc rfl (Zc rfl Zk))) (ZaV W hr hx hv))))) Z9
theorem Zhf(hT:Tops T)(W:WF T N){r most:Nat}(hr:r<N.length)(h:most<(wy N r []).length):
  Zg tab (n+3) 31 [dv T,.p (.int r),.p (.int most)] (HB t c N m B)=some (.ok (.p (.bool true)),HB t c N m B):=
 Zn rfl rfl (Zi6 (by decide+kernel) (Yu (ZhP (Zp (Zc rfl (Zc rfl (Zc rfl Zk))) ((ZeP hT W hr).2 h))))) Z9
end
end
section
noncomputable def SL(N:List Nd)(T:List Nat)(d k:Nat):List P:=(List.range (tp T (2 - d)+1)).map fun x=>.tuple (tblD N T d (cof N (2 - d) x k))
noncomputable def s0(N:List Nd)(T:List Nat)(d k:Nat):P:=.tuple (tblD N T d (cof N (2 - d) 0 k))
section
variable{T:List Nat}{N:List Nd}
theorem Xj(W:WF T N){d k:Nat}(hk:k<N.length):good (.tuple (tblD N T d k))=true:=by
 simp only[good,ZH]
 exact fun x hx=>YG (QP W d k hk x hx)
theorem WG(W:WF T N){d k:Nat}(hk:k<N.length):(PyData.tuple (tblD N T d k)).depth≤1:=by
 have:=Yw (k:=0) (l:=tblD N T d k) fun x hx=>by rw[Q1 (QP W d k hk x hx)];exact Nat.le_refl _
 simp only[PyData.depth];exact Ar.a158 this
theorem ZlV(W:WF T N){d k:Nat}(hk:k<N.length):goodAll (SL N T d k)=true:=ZH.mpr fun x hx=>by
 obtain⟨y,hy,rfl⟩:=List.mem_map.mp hx
 exact Xj W (YK W hk (by simp at hy;exact Ar.a2 hy))
theorem Zf3(W:WF T N){d k:Nat}(hk:k<N.length):(PyData.list (SL N T d k)).depth≤2:=by
 have:=Yw (k:=1) (l:=SL N T d k) fun x hx=>by
  obtain⟨y,hy,rfl⟩:=List.mem_map.mp hx
  exact WG W (YK W hk (by simp at hy;exact Ar.a2 hy))
 simp only[PyData.depth];exact Ar.n1 (.im (.l (.v 0) (.k 1)) (.l (.p (.v 0) (.k 1)) (.k 2))) (by kernel_rfl) this
theorem Zk0(W:WF T N){d k:Nat}(hd:d<3)(hk:k<N.length)(h:2 - d≤lvl N k):PyData.eqv (.list (SL N T d k)) (.list (List.replicate (tp T (2 - d)+1) (s0 N T d k)))=decide (2 - d<lvl N k):=by
 have g1:good (.list (SL N T d k))=true:=ZlV W hk
 have g2:good (.list (List.replicate (tp T (2 - d)+1) (s0 N T d k)))=true:=by
  simp only[good,ZH]
  intro x hx
  rw[List.eq_of_mem_replicate hx]
  exact Xj W (YK W hk (Nat.zero_le _))
 have key:SL N T d k=List.replicate (tp T (2 - d)+1) (s0 N T d k)↔2 - d<lvl N k:=by
  rw[← ZiF W hd hk h,List.eq_replicate_iff]
  constructor
  ·rintro ⟨_,e⟩ x hx
   have:=e (.tuple (tblD N T d (cof N (2 - d) x k))) (List.mem_map.mpr ⟨x,by simp;exact Ar.a31 hx,rfl⟩)
   unfold s0 at this
   injection this
  ·intro e
   refine⟨by simp[SL],fun x hx=>?_⟩
   obtain⟨y,hy,rfl⟩:=List.mem_map.mp hx
   rw[e y (by simp at hy;exact Ar.a2 hy)];rfl
 have e:=XM _ _ g1 g2
 by_cases hl:2 - d<lvl N k
 ·rw[decide_eq_true hl];exact e.mpr (by rw[key.mpr hl])
 ·rw[decide_eq_false hl]
  cases hq:PyData.eqv (.list (SL N T d k)) (.list (List.replicate (tp T (2 - d)+1) (s0 N T d k)))
  ·rfl
  ·have:=e.mp hq
   exact absurd (key.mp (by injection this)) hl
end
section
variable{t c:MObj}{N:List Nd}{m:List (P×P)}{B:Hp}{T:List Nat}{n:Nat}
theorem ZeC{a b r:Int}{σ:Hp}(ha:ZJ a=true)(hb:ZJ b=true)(e:a*b=r):mulV (.p (.int a)) (.p (.int b)) σ=some (.ok (.p (.int r)),σ):=h_i1 (h_if (m:=hp (V.p (.int (a*b)))) (by rw[ha,hb];rfl) (e▸rfl))
theorem Zg9{op:V→V→V→HM V}{f g h:Fn}{l:Loc}{σ:Hp}{a b d:V}{S:Option (R V×Hp)}(h1:f l σ=some (.ok a,σ))(h2:g l σ=some (.ok b,σ))(h3:h l σ=some (.ok d,σ))(h4:op a b d σ=S):ZbG op f g h l σ=S:=h_b h1 (h_b h2 (h_b h3 h4))
theorem ZdP{cf:CF}{a1:Option V}{σ:Hp}{TT TS:List P}{W X X1 WX W2:Int}(h1:X+1=X1)(h2:W*X=WX)(h3:W*X1=W2)(s1:ZJ W=true)(s2:ZJ X=true)(s3:ZJ X1=true)(d:decide (0≤WX∧WX≤W2∧W2≤(TT.length:Int)∧W2 - WX<(TT.length:Int))=true)(hs:(TT.drop WX.toNat).take (W2 - WX).toNat=TS)(hl:TS.length≤lim):
  Y1 cf [some (.p (.tuple TT)),a1,some (.p (.int W)),some (.p (.int X))] σ=some (.ok (.p (.tuple TS)),σ):=
 Zg9 rfl (Zh rfl rfl (ZeC s1 s2 h2)) (Zh rfl (Zh rfl rfl (YX h1)) (ZeC s1 s3 h3)) (show hif _ (newT ((TT.drop WX.toNat).take (W2 - WX).toNat)) σ=_ from h_if d (by rw[hs];exact ZcZ hl))
theorem ZcK{l0:P}{l2 l3:Option V}{σ:Hp}{k:Nat}(hk:k+1≤1000):Z5 Z2 [eBin addV (Za 1) (Zb (.int 1))] [some (.p l0),some (.p (.int (k:Nat))),l2,l3] σ=some (.ok ((List.range (k+1)).map i1P),σ):=Yd (Zc (Zh rfl rfl (YX rfl)) Zk) (gR1 (ZdW hk))
theorem ZdO{TT:List P}{top W N1 T1:Int}{SS:List P}(h1:(TT.length:Int)=N1)(h2:top+1=T1)(h3:Int.fdiv N1 T1=W)(d1:decide (T1≠0)=true)(d2:ZJ T1=true)(hc:ZS (Z5 Z2 [eBin addV (Za 1) (Zb (.int 1))]) (.one 3) ZM (Y1 (Zg tab n)) [some (.p (.tuple TT)),some (.p (.int top)),some (.p (.int W)),none] (HB t c N m B)=some (.ok (.ref (fr B 0)),HB t c N m (B++[.lst SS]))):
  Zg tab (n+1) 22 [.p (.tuple TT),.p (.int top)] (HB t c N m B)=some (.ok (.ref (fr B 0)),HB t c N m (B++[.lst SS])):=
 Zn rfl rfl (Zf (Zi (Zh (ZV rfl rfl) (Zh rfl rfl (YX h2)) (Zi8 d1 d2 (h1▸h3)))) (ZG hc)) (Wk (k:=0) rfl)
theorem Zmk(hT:Tops T){d:Nat}(hd:d<3):wid T d≤64:=by
 have h0:=hT.le 0
 have h1:=hT.le 1
 have h2:=hT.le 2
 match d,hd with
 |0,_=>simp[wid]
 |1,_=>simp only[wid,Nat.sub_zero];exact Ar.n1 (.im (.l (.v 0) (.k 3)) (.l (.m 1 (.p (.v 0) (.k 1))) (.k 64))) (by kernel_rfl) h2
 |2,_=>
  simp only[wid,Nat.sub_zero,Nat.one_mul,Nat.reduceSub]
  exact Nat.le_trans (Nat.mul_le_mul (show tp T 2+1≤4 by exact Ar.a40 h2) (show tp T 1+1≤4 by exact Ar.a40 h1)) (by exact Ar.n0 (.l (.m 4 (.k 4)) (.k 64)) (by kernel_rfl))
theorem Zbo(hT:Tops T){d k:Nat}(hd:d<3):Zg tab (n+1) 22 [.p (.tuple (tblD N T (d+1) k)),.p (.int (tp T (2 - d)))] (HB t c N m B)=some (.ok (.ref (fr B 0)),HB t c N m (B++[.lst (SL N T d k)])):=by
 have hlim:=ZO
 have htp:=hT.le (2 - d)
 have htp1:=hT.ge (2 - d) (by exact Ar.a7)
 have hw:=ZgH (T:=T) d
 have hw2:=Zmk hT hd
 have hlen:(tblD N T (d+1) k).length=wid T d*(tp T (2 - d)+1):=W8 (d+1) k
 have hc:=QX (f:=Y1 (Zg tab n)) (t:=.one 3) (it:=Z5 Z2 [eBin addV (Za 1) (Zb (.int 1))]) (l:=[some (.p (.tuple (tblD N T (d+1) k))),some (.p (.int (tp T (2 - d)))),some (.p (.int (wid T d:Nat))),none]) (σ:=HB t c N m B) (σ':=HB t c N m B) (List.range (tp T (2 - d)+1)) i1P (fun x=>.tuple (tblD N T d (cof N (2 - d) x k))) (fun x=>[some (.p (.tuple (tblD N T (d+1) k))),some (.p (.int (tp T (2 - d)))),some (.p (.int (wid T d:Nat))),some (.p (.int (x:Nat)))]) (ZcK (by exact Ar.a34 htp)) (by simp;exact Ar.a50 hlim htp) (fun _=>rfl) (fun _ _=>rfl) (fun x hx=>by
  have hx:x≤tp T (2 - d):=by simp at hx;exact Ar.a2 hx
  have hs:=Zah (N:=N) (n:=k) hx
  have m1:wid T d*x+wid T d≤wid T d*(tp T (2 - d)+1):=by rw[← Nat.mul_succ];exact Nat.mul_le_mul_left _ (by omega)
  have m2:wid T d*2≤wid T d*(tp T (2 - d)+1):=Nat.mul_le_mul_left _ (by exact Ar.n1 (.im (.l (.k 1) (.v 0)) (.l (.k 2) (.p (.v 0) (.k 1)))) (by kernel_rfl) htp1)
  refine ZdP (X1:=((x+1:Nat):Int)) (WX:=((wid T d*x:Nat):Int)) (W2:=((wid T d*x+wid T d:Nat):Int)) rfl (by rw[Int.natCast_mul]) (by rw[← Int.natCast_mul,Nat.mul_succ]) (by simp[ZJ];exact Ar.n1 (.im (.l (.v 0) (.k 64)) (.L (.c (.v 0)) (.k 1000000000))) (by kernel_rfl) hw2) (by simp[ZJ];exact Ar.n2 (.im (.l (.v 0) (.v 1)) (.im (.l (.v 1) (.k 3)) (.L (.c (.v 0)) (.k 1000000000)))) (by kernel_rfl) hx htp) (by simp[ZJ];exact Ar.n2 (.im (.l (.v 0) (.v 1)) (.im (.l (.v 1) (.k 3)) (.an (.L (.k (-1000000000)) (.p (.c (.v 0)) (.k 1))) (.L (.p (.c (.v 0)) (.k 1)) (.k 1000000000))))) (by kernel_rfl) hx htp) ?_ ?_ (by rw[W8];exact Ar.a1 hlim hw2)
  ·rw[hlen];simp only[decide_eq_true_eq];exact Ar.n3 (.im (.l (.p (.v 0) (.v 1)) (.v 2)) (.im (.l (.r (.v 1) 2) (.v 2)) (.im (.t (.k 0) (.v 1)) (.an (.L (.k 0) (.c (.v 0))) (.an (.L (.c (.v 0)) (.c (.p (.v 0) (.v 1)))) (.an (.L (.c (.p (.v 0) (.v 1))) (.c (.v 2))) (.T (.s (.c (.p (.v 0) (.v 1))) (.c (.v 0))) (.c (.v 2))))))))) (by kernel_rfl) m1 m2 hw
  ·rw[show((wid T d*x+wid T d:Nat):Int) - ((wid T d*x:Nat):Int)=((wid T d:Nat):Int)by exact Ar.n2 (.E (.s (.c (.p (.v 0) (.v 1))) (.c (.v 0))) (.c (.v 1))) (by kernel_rfl),Int.toNat_natCast,Int.toNat_natCast];exact hs)
 rw[Qg,Qh]at hc
 refine ZdO (N1:=((wid T d*(tp T (2 - d)+1):Nat):Int)) (T1:=((tp T (2 - d)+1:Nat):Int)) (by rw[hlen]) rfl ?_ (by simp;exact Ar.a157) (by simp[ZJ];exact Ar.n1 (.im (.l (.v 0) (.k 3)) (.an (.L (.k (-1000000000)) (.p (.c (.v 0)) (.k 1))) (.L (.p (.c (.v 0)) (.k 1)) (.k 1000000000)))) (by kernel_rfl) htp) hc
 rw[Int.natCast_mul]
 exact Int.mul_fdiv_cancel _ (by exact Ar.n1 (.no (.E (.c (.p (.v 0) (.k 1))) (.k 0))) (by kernel_rfl))
end
end
section
section
variable{t c:MObj}{N:List Nd}{m:List (P×P)}{B:Hp}{T:List Nat}{n:Nat}
theorem ZdB{d k x:Nat}(hx:x≤tp T (2 - d)):(SL N T d k)[x]?=some (.tuple (tblD N T d (cof N (2 - d) x k))):=by
 unfold SL
 rw[List.getElem?_map,List.getElem?_range (by exact Ar.a31 hx)];rfl
theorem Zi1{d k:Nat}:(SL N T d k).length=tp T (2 - d)+1:=by simp[SL]
theorem Zdv{l:Loc}{i K:Nat}{A:List P}{x:P}(hl:l[i]?=some (some (.ref (fr B 0))))(hK:A.length=K)(hK2:K≤1000)(h0:A[0]?=some x):
  Za i l (HB t c N m (B++[.lst A]))=some (.ok (.ref (fr B 0)),HB t c N m (B++[.lst A]))∧eBin mulV (eLst [eBin Zd (Za i) (Zb (.int 0))]) (eFn (g1 lenV) [Za i]) l (HB t c N m (B++[.lst A]))=some (.ok (.ref (fr B 2)),HB t c N m (B++[.lst A,.lst [x],.lst (List.replicate K x)])):=by
 have e:∀σ,Za i l σ=some (.ok (.ref (fr B 0)),σ):=fun σ=>by unfold Za;rw[hl];rfl
 exact⟨e _,Zh (ZeD (R:=[.lst A]) (Zh (e _) rfl (x_it (k:=0) rfl (Zv h0)))) (ZV (e _) ((Qj (k:=0) rfl).trans (by rw[hK]))) (ZjP (k:=1) rfl hK2)⟩
theorem ZhV{K:Nat}{A:List P}{x:P}{b:Bool}(he:PyData.eqv (.list A) (.list (List.replicate K x))=b)(hd:(PyData.list A).depth≤2):
  eqV (.ref (fr B 0)) (.ref (fr B 2)) (HB t c N m (B++[.lst A,.lst [x],.lst (List.replicate K x)]))=some (.ok b,HB t c N m (B++[.frz A,.lst [x],.frz (List.replicate K x)])):=
 h_b (Q3 (k:=0) rfl) (h_b (Q3 (R:=[.frz A,.lst [x],.lst (List.replicate K x)]) (k:=2) rfl) (h_if (decide_eq_true (Nat.le_trans (Nat.min_le_left _ _) (Nat.le_trans hd (by decide)))) (he▸rfl)))
theorem ZhT{l:Loc}{i K:Nat}{A:List P}{x:P}{b:Bool}(hl:l[i]?=some (some (.ref (fr B 0))))(hK:A.length=K)(hK2:K≤1000)(h0:A[0]?=some x)(he:PyData.eqv (.list A) (.list (List.replicate K x))=b)(hd:(PyData.list A).depth≤2):
  tCmp eqV (Za i) (eBin mulV (eLst [eBin Zd (Za i) (Zb (.int 0))]) (eFn (g1 lenV) [Za i])) l (HB t c N m (B++[.lst A]))=some (.ok b,HB t c N m (B++[.frz A,.lst [x],.frz (List.replicate K x)])):=
 have f:=Zdv (t:=t) (c:=c) (N:=N) (m:=m) hl hK hK2 h0;Zo f.1 f.2 (ZhV he hd)
theorem Zgi{l:Loc}{i K:Nat}{A:List P}{x:P}{b:Bool}(hl:l[i]?=some (some (.ref (fr B 0))))(hK:A.length=K)(hK2:K≤1000)(h0:A[0]?=some x)(he:PyData.eqv (.list A) (.list (List.replicate K x))=b)(hd:(PyData.list A).depth≤2):
  tCmp neV (Za i) (eBin mulV (eLst [eBin Zd (Za i) (Zb (.int 0))]) (eFn (g1 lenV) [Za i])) l (HB t c N m (B++[.lst A]))=some (.ok (!b),HB t c N m (B++[.frz A,.lst [x],.frz (List.replicate K x)])):=
 have f:=Zdv (t:=t) (c:=c) (N:=N) (m:=m) hl hK hK2 h0;Zo f.1 f.2 (QM (ZhV he hd))
noncomputable def LX(N:List Nd)(T:List Nat)(d k:Nat):Hp:=[.frz (SL N T d k),.lst [s0 N T d k],.frz (List.replicate (tp T (2 - d)+1) (s0 N T d k))]
noncomputable abbrev TPs(T:List Nat):List P:=T.map fun(t:Nat)=>.int (t:Int)
section
variable{d k:Nat}{y:Option V}
theorem Zby(hT:Tops T)(W:WF T N)(hd:d<3)(hk:k<N.length)(h:2 - d≤lvl N k){b:Bool}(hb:decide (2 - d<lvl N k)=b){a0 a1 a2:Option V}:tCmp neV (Za 3) (eBin mulV (eLst [eBin Zd (Za 3) (Zb (.int 0))]) (eFn (g1 lenV) [Za 3])) [a0,a1,a2,some (.ref (fr B 0))] (HB t c N m (B++[.lst (SL N T d k)]))=some (.ok (!b),HB t c N m (B++LX N T d k)):=
 Zgi rfl Zi1 (by have:=hT.le (2 - d);exact Ar.a34 this) (ZdB (Nat.zero_le _)) ((Zk0 W hd hk h).trans hb) (Zf3 W hk)
theorem QA(hT:Tops T)(hd:d<3):Zj 3 (Zq (Zg tab (n+1)) 22 [(Za 0),(eBin Zd (Za 1) (Za 2))]) [some (.p (.tuple (tblD N T (d+1) k))),some (.p (.tuple (TPs T))),some (.p (.int (2 - d:Nat))),y] (HB t c N m B)=some (.ok .next,[some (.p (.tuple (tblD N T (d+1) k))),some (.p (.tuple (TPs T))),some (.p (.int (2 - d:Nat))),some (.ref (fr B 0))],HB t c N m (B++[.lst (SL N T d k)])):=
 Zi (Zp (Zc rfl (Zc (Zh rfl rfl (Yv hT.len (show 2 - d<3 by exact Ar.a7))) Zk)) (Zbo hT hd))
theorem Zch(hT:Tops T)(W:WF T N)(hd:d<3)(hk:k<N.length)(hl:2 - d<lvl N k):Xw (Zg tab (n+1)) [some (.p (.tuple (tblD N T (d+1) k))),some (.p (.tuple (TPs T))),some (.p (.int (2 - d:Nat))),y] (HB t c N m B)=
  some (.ok .next,[some (.p (.tuple (tblD N T d k))),some (.p (.tuple (TPs T))),some (.p (.int (2 - d:Nat))),some (.ref (fr B 0))],HB t c N m (B++LX N T d k)):=
 Zf (QA hT hd) (Zf (ZU (Zby hT W hd hk (Nat.le_of_lt hl) (decide_eq_true hl)) rfl) (Zf (Zi (Zh rfl rfl (Znt (k:=0) rfl (Zv (i:=0) ((ZdB (Nat.zero_le _)).trans (by rw[Xp hl])))))) rfl))
theorem Za1(hT:Tops T)(W:WF T N)(hd:d<3)(hk:k<N.length)(h:lvl N k=2 - d):Xw (Zg tab (n+1)) [some (.p (.tuple (tblD N T (d+1) k))),some (.p (.tuple (TPs T))),some (.p (.int (2 - d:Nat))),y] (HB t c N m B)=
  some (.ok (.ret (.p (.int (2 - d:Nat)))),[some (.p (.tuple (tblD N T (d+1) k))),some (.p (.tuple (TPs T))),some (.p (.int (2 - d:Nat))),some (.ref (fr B 0))],HB t c N m (B++LX N T d k)):=
 Zf (QA hT hd) (Ye (Y4 (Zby hT W hd hk (Nat.le_of_eq h.symm) (decide_eq_false (h▸Nat.lt_irrefl _))) (ZG rfl)))
end
theorem Wp(hT:Tops T){l:Loc}{f:Fn}{σ:Hp}(h:f l σ=some (.ok (.p (.tuple (TPs T))),σ)):eFn (g1 lenV) [f] l σ=some (.ok (.p (.int (3:Nat))),σ):=ZV h (by
 show some (R.ok (V.p (.int (((TPs T).length:Nat):Int))),σ)=_
 rw[List.length_map,hT.len])
theorem Qo(hT:Tops T)(W:WF T N){k:Nat}(hk:k<N.length):Zg tab (n+2) 23 [.p (.tuple (tblD N T 3 k)),.p (.tuple (TPs T))] (HB t c N m B)=some (.ok (.p (.int (lvl N k:Nat))),HB t c N m B):=by
 have it:=Yd (gg:=Z2) (Zc (Wp (σ:=HB t c N m B) (f:=Za 1) (l:=[some (.p (.tuple (tblD N T 3 k))),some (.p (.tuple (TPs T))),none,none]) hT rfl) Zk) (gR1 (k:=3) rfl)
 have g0:=fun y=>Zch (t:=t) (c:=c) (m:=m) (B:=B) (n:=n) (y:=y) hT W (d:=2) (by decide) hk
 have g1:=fun y=>Zch (t:=t) (c:=c) (m:=m) (B:=B++LX N T 2 k) (n:=n) (y:=y) hT W (d:=1) (by decide) hk
 have hl3:=Zh3 W k
 generalize hv:lvl N k=v at hl3
 match v,hl3,hv with
 |0,_,hv=>exact Zn rfl rfl (Ye (Y5 it (ZdH rfl (Za1 hT W (d:=2) (by decide) hk hv)))) (ZI rfl)
 |1,_,hv=>exact Zn rfl rfl (Ye (Y5 it (x_go rfl (g0 _ (by rw[hv];decide)) (ZdH rfl (Za1 hT W (d:=1) (by decide) hk hv))))) (by rw[List.append_assoc];exact ZI rfl)
 |2,_,hv=>exact Zn rfl rfl (Ye (Y5 it (x_go rfl (g0 _ (by rw[hv];decide)) (x_go rfl (g1 _ (by rw[hv];decide)) (ZdH rfl (Za1 hT W (d:=0) (by decide) hk hv)))))) (by rw[List.append_assoc,List.append_assoc];exact ZI rfl)
 |3,_,hv=>exact Zn rfl rfl (Zf (Y5 it (x_go rfl (g0 _ (by rw[hv];decide)) (x_go rfl (g1 _ (by rw[hv];decide)) (x_go rfl (Zch hT W (d:=0) (by decide) hk (by rw[hv];decide)) rfl)))) (ZG (Wp hT rfl))) (by rw[List.append_assoc,List.append_assoc];exact ZI rfl)
end
end
section
noncomputable def metP(N:List Nd)(T:List Nat)(x:Nat):P:=.tuple [.int (lvl N x:Nat),.tuple (tblD N T (3 - lvl N x) x)]
section
variable{T:List Nat}{N:List Nd}
theorem Zaw(W:WF T N){x:Nat}(h:x<N.length):good (metP N T x)=true:=by
 have:=Xj W (d:=3 - lvl N x) h
 simp only[metP,good,goodAll,Bool.true_and,Bool.and_true]
 simpa only[good]using this
theorem Zjq(W:WF T N){x y:Nat}(hx:x<N.length)(hy:y<N.length)(e:metP N T x=metP N T y):x=y:=by
 simp only[metP,PyData.tuple.injEq,List.cons.injEq,PyData.int.injEq,and_true]at e
 obtain⟨e1,e2⟩:=e
 have e1:lvl N x=lvl N y:=by exact Ar.a11 e1
 rw[← e1]at e2
 have l1:=Zh3 W x
 exact Zai W (by exact Ar.a74) hx hy (by exact Ar.n1 (.l (.s (.k 3) (.s (.k 3) (.v 0))) (.v 0)) (by kernel_rfl)) (by exact Ar.n2 (.im (.e (.v 0) (.v 1)) (.l (.s (.k 3) (.s (.k 3) (.v 0))) (.v 1))) (by kernel_rfl) e1) e2
theorem ZfW(W:WF T N){x:Nat}(h:x<N.length):(metP N T x).depth≤60:=by
 have:=WG W (d:=3 - lvl N x) h
 rw[metP]
 have h2:=Yw (k:=1) (l:=[PyData.int (lvl N x:Nat),.tuple (tblD N T (3 - lvl N x) x)]) (by simp only[List.mem_cons,List.not_mem_nil,or_false,forall_eq_or_imp,forall_eq];exact⟨by simp[PyData.depth],this⟩)
 have h3:(PyData.tuple [PyData.int (lvl N x:Nat),.tuple (tblD N T (3 - lvl N x) x)]).depth=PyData.depthAll [PyData.int (lvl N x:Nat),.tuple (tblD N T (3 - lvl N x) x)]+1:=by rw[PyData.depth]
 exact Ar.n2 (.im (.e (.v 0) (.p (.v 1) (.k 1))) (.im (.l (.v 1) (.k 1)) (.l (.v 0) (.k 60)))) (by kernel_rfl) h3 h2
theorem Zls(W:WF T N){S:List Nat}{k:Nat}(hS:∀x∈S,x<N.length)(hk:k<N.length):((S.map (metP N T)).any fun y=>PyData.eqv y (metP N T k))=decide (k∈S):=by
 by_cases h:k∈S
 ·rw[decide_eq_true h,List.any_eq_true]
  exact⟨metP N T k,List.mem_map.mpr ⟨k,h,rfl⟩,Yr (Zaw W hk)⟩
 ·rw[decide_eq_false h,List.any_eq_false]
  intro y hy
  obtain⟨x,hx,rfl⟩:=List.mem_map.mp hy
  rw[Zd2 (Zaw W (hS x hx)) (Zaw W hk) fun e=>h (Zjq W (hS x hx) hk e▸hx)]
  simp
theorem Rch.cons{k j x:Nat}{ps:List (Nat×Nat)}{q:Nat×Nat}(e:N[k]?=some (.br j ps))(hq:q∈ps)(h:Rch N q.2 x):Rch N k x:=by
 induction h with
 |refl=>exact(Rch.refl k).step e hq
 |step _ e' hq' ih=>exact ih.step e' hq'
theorem Rch.head{k x:Nat}(h:Rch N k x):x=k∨∃j ps q,N[k]?=some (.br j ps)∧q∈ps∧Rch N q.2 x:=by
 induction h with
 |refl=>exact .inl rfl
 |step h1 e' hq' ih=>
  rename_i k' j' ps' q'
  rcases ih with rfl|⟨j,ps,q,e,hq,hr⟩
  ·exact .inr ⟨j',ps',q',e',hq',.refl _⟩
  ·exact .inr ⟨j,ps,q,e,hq,hr.step e' hq'⟩
end
noncomputable def TPl(T:List Nat):List P:=T.map fun(t:Nat)=>.int (t:Int)
noncomputable abbrev lyL(T:List Nat)(a0:Option V)(V:Int)(path:List P)(jj f:Nat)(lo y:Option Mine.V)(a:Nat):Loc:=[a0,some (.p (.tuple (TPl T))),some (.p (.int V)),some (.p (.tuple path)),some (.ref jj),some (.ref f),lo,y,some (.ref a)]
noncomputable abbrev lyT:Tn:=tOr (tCmp eqV (Za 7) (eBin Zd (Za 1) (Za 2))) (tCmp neV (eBin Zd (Za 8) (eBin addV (Za 7) (Zb (.int 1)))) (eBin Zd (Za 8) (Za 7)))
section
variable{T:List Nat}{a0 lo:Option V}{path:List P}{jj f a v x:Nat}{σ σ2:Hp}{cf:CF}
theorem Zlx(hT:Tops T)(hv:v<3)(h:x=tp T v):lyT (lyL T a0 (v:Nat) path jj f lo (some (.p (.int (x:Nat)))) a) σ=some (.ok true,σ):=
 Znr (Zo rfl (Zh rfl rfl (Yv hT.len hv)) (x_eq (decide_eq_true (congrArg Int.ofNat h))))
theorem Zh2(hT:Tops T)(hv:v<3)(h:x≠tp T v){p q:P}{b:Bool}(i1:Zd (.ref a) (.p (.int ((x+1:Nat):Int))) σ=some (.ok (.p p),σ))(i2:Zd (.ref a) (.p (.int (x:Nat))) σ=some (.ok (.p q),σ))(e:eqV (.p p) (.p q) σ=some (.ok b,σ)):lyT (lyL T a0 (v:Nat) path jj f lo (some (.p (.int (x:Nat)))) a) σ=some (.ok (!b),σ):=
 Zns (Zo rfl (Zh rfl rfl (Yv hT.len hv)) (x_eq (decide_eq_false fun e=>h (Int.ofNat.inj e)))) (Zo (Zh rfl (Zh rfl rfl (YX rfl)) i1) (Zh rfl rfl i2) (QM e))
theorem Ziz{i k:Nat}{F G:List P}(h1:σ[i]?=some (.lst F))(h2:σ[k]?=some (.lst G))(hl:(F++G).length≤lim):addV (.ref i) (.ref k) σ=some (.ok (.ref σ.length),σ++[.lst (F++G)]):=
 ZW h1 (h_l1 (l_of h1) (h_l1 (l_of h2) (XY hl)))
theorem ZmH{w:Nat}{lw:Int}{p:P}{F Wl:List P}(h:lyT (lyL T a0 (v:Nat) path jj f (some (.p (.int lw))) (some (.p (.int (x:Nat)))) a) σ=some (.ok true,σ))(i2:Zd (.ref a) (.p (.int (x:Nat))) σ=some (.ok (.p p),σ))(hp:path.length≤10)
  (hc:cf 24 [.p p,.p (.tuple (TPl T)),.p (.int ((v+1:Nat):Int)),.p (.tuple (path++[.tuple [.int (v:Nat),.tuple [.int lw,.int (x:Nat)]]])),.ref jj] σ=some (.ok (.ref w),σ2)) (hF:σ2[f]?=some (.lst F)) (hW:σ2[w]?=some (.lst Wl)) (hl:(F++Wl).length≤lim):
  Yi cf (lyL T a0 (v:Nat) path jj f (some (.p (.int lw))) (some (.p (.int (x:Nat)))) a) σ=some (.ok .next,lyL T a0 (v:Nat) path jj σ2.length (some (.p (.int ((x+1:Nat):Int)))) (some (.p (.int (x:Nat)))) a,σ2++[.lst (F++Wl)]):=
 Zf (Y4 h (Zf (Zi (Zh rfl (Zp (Zc (Zh rfl rfl i2) (Zc rfl (Zc (Zh rfl rfl (YX rfl)) (Zc (Zh rfl (ZcA (Zz rfl (Zz rfl rfl))) (ZjT (by rw[List.length_append];exact Nat.le_trans (Nat.succ_le_succ hp) (Nat.le_of_lt (Y6 (a:=11) rfl))))) (Zc rfl Zk))))) hc) (Ziz hF hW hl))) (Zf (Zi (Zh rfl rfl (YX rfl))) rfl))) rfl
theorem Zlu{l:Loc}(h:lyT l σ=some (.ok false,σ)):Yi cf l σ=some (.ok .next,l,σ):=Zf (ZU h rfl) rfl
end
section
variable{T:List Nat}{N:List Nd}
theorem ZgJ(W:WF T N){d c1 c2:Nat}(hd:d≤3)(h1:c1<N.length)(h2:c2<N.length)(l1:3 - d≤lvl N c1)(l2:3 - d≤lvl N c2){σ:Hp}:eqV (.p (.tuple (tblD N T d c1))) (.p (.tuple (tblD N T d c2))) σ=some (.ok (decide (c1=c2)),σ):=by
 rw[YT (Nat.le_trans (Nat.min_le_left _ _) (Nat.le_trans (WG W h1) (by decide)))]
 by_cases h:c1=c2
 ·rw[decide_eq_true h,h,Yr (Xj W h2)]
 ·rw[decide_eq_false h,Zd2 (Xj W h1) (Xj W h2) fun e=>h (Zai W hd h1 h2 l1 l2 (PyData.tuple.inj e))]
noncomputable def Bs(N:List Nd)(T:List Nat)(B:Hp)(j:Nat)(S:List Nat):Hp:=B.set j (.lst (S.map (metP N T)))
variable{B L:Hp}{j:Nat}{S S':List Nat}{t c:MObj}{m:List (P×P)}{k:Nat}{o:MObj}
theorem Zk2:(Bs N T B j S).length=B.length:=List.length_set
theorem Zk3(hj:j<B.length):Bs N T (Bs N T B j S++L) j S'=Bs N T B j S'++L:=by
 unfold Bs
 rw[List.set_append_left _ _ (by rw[List.length_set];exact hj),List.set_set]
theorem Zi3(h:B[j]?=some (.lst (S.map (metP N T)))):Bs N T B j S=B:=by
 obtain⟨h1,h2⟩:=List.getElem?_eq_some_iff.mp h
 unfold Bs;rw[← h2,List.set_getElem_self]
theorem Znq(hj:j<B.length):(Bs N T B j S++L)[j]?=some (.lst (S.map (metP N T))):=by
 rw[List.getElem?_append_left (by rw[Zk2];exact hj)];exact List.getElem?_set_self hj
theorem Zgv:fr (Bs N T B j S) k=fr B k:=congrArg (·+(5+k)) Zk2
theorem Zf0(h:L[k]?=some o):(HB t c N m (Bs N T B j S++L))[fr B k]?=some o:=Zgv (S:=S) (N:=N) (T:=T) (j:=j)▸x_at h
theorem Zky:(HB t c N m (Bs N T B j S++L)).length=fr B L.length:=Ze8.trans Zgv
end
end
section
section
variable{t c:MObj}{N:List Nd}{m:List (P×P)}{B:Hp}{T:List Nat}{n:Nat}
structure Mts(N:List Nd)(S:List Nat):Prop where
 nd:S.Nodup
 lt:∀x∈S,x<N.length
inductive LwR(t c:MObj)(N:List Nd)(m:List (P×P))(T:List Nat)(B:Hp)(j k:Nat)(path:List P)(S:List Nat)(o:Option (R V×Hp)):Prop
 |mk (S':List Nat):o=some (.ok (.ref (fr B 0)),HB t c N m (Bs N T B j S'++[.lst (wy N k path)]))→Mts N S'→(∀x,x∈S'↔x∈S∨Rch N k x)→LwR t c N m T B j k path S o
noncomputable def Zdg(t c:MObj)(N:List Nd)(m:List (P×P))(T:List Nat)(cf:CF)(d:Nat):Prop:=∀⦃B:Hp⦄ ⦃k j:Nat⦄ ⦃path:List P⦄ ⦃S:List Nat⦄,k<N.length→3 - d≤lvl N k→B[j]?=some (.lst (S.map (metP N T)))→Mts N S→path.length≤3 - d→
 LwR t c N m T B j k path S (cf 24 [.p (.tuple (tblD N T d k)),.p (.tuple (TPl T)),.p (.int (3 - d:Nat)),.p (.tuple path),.ref (j+5)] (HB t c N m B))
inductive LpR(t c:MObj)(N:List Nd)(m:List (P×P))(T:List Nat)(B:Hp)(A:MObj)(a0:Option V)(V:Int)(path:List P)(j:Nat)(Wl:List P)(S:List Nat)(Q:Nat→Prop)(o:Option (R Out×Loc×Hp)):Prop
 |mk (S':List Nat) (q:Nat) (R:List MObj) (lo y:Option Mine.V):o=some (.ok .next,lyL T a0 V path (j+5) (fr B (q+1)) lo y (fr B 0),HB t c N m (Bs N T B j S'++A::R))→R[q]?=some (.lst Wl)→Mts N S'→(∀x,x∈S'↔x∈S∨Q x)→LpR t c N m T B A a0 V path j Wl S Q o
theorem ZlB{cf:CF}{V:Int}{path:List P}{jj f a:Nat}{a0 lo:Option Mine.V}{σ:Hp}{h:Nat}{ps:List P}:∀(k:Nat) {x:Nat} {y:Option Mine.V},x+k=h→(∀y,x≤y→y<h→lyT (lyL T a0 V path jj f lo (some (.p (.int (y:Nat)))) a) σ=some (.ok false,σ))→
  ∃y',Yj (.one 7) (Yi cf) ((List.range' x k).map i1P++ps) (lyL T a0 V path jj f lo y a) σ=Yj (.one 7) (Yi cf) ps (lyL T a0 V path jj f lo y' a) σ:=by
 intro k
 induction k with
 |zero=>exact fun{x y} _ _=>⟨y,rfl⟩
 |succ k ih=>
  intro x y e hs
  obtain⟨y',e'⟩:=ih (x:=x+1) (y:=some (.p (.int (x:Nat)))) (by rw[← e,Nat.add_right_comm];rfl) (fun y h1 h2=>hs y (Nat.le_of_succ_le h1) h2)
  exact⟨y',x_go rfl (Zlu (hs x (Nat.le_refl _) (by rw[← e];exact Nat.lt_add_of_pos_right (Nat.succ_pos _)))) e'⟩
theorem Zlw{cf:CF}(hT:Tops T)(W:WF T N){d k j:Nat}{a0:Option V}{path:List P}(hd:d<3)(hk:k<N.length)(sp:Zdg t c N m T cf d)(hpath:path.length≤2 - d)(hj:j<B.length){rest:List (Nat×Nat)}:∀{low:Nat} {F:List P} {S:List Nat} {R:List MObj} {q:Nat} {y:Option V},Rise low rest (tp T (2 - d))→(∀y,low≤y→y≤tp T (2 - d)→cof N (2 - d) y k=pick rest y)→Adj rest→(∀p∈rest,p.2<N.length∧2 - d<lvl N p.2)→Mts N S→R[q]?=some (.lst F)→(F++(wyCh (2 - d) low path rest).flatMap fun x=>wy N x.1 x.2).length≤1000→
  LpR t c N m T B (.frz (SL N T d k)) a0 (2 - d:Nat) path j (F++(wyCh (2 - d) low path rest).flatMap fun x=>wy N x.1 x.2) S (fun x=>∃p∈rest,Rch N p.2 x) (Yj (.one 7) (Yi cf) ((List.range' low (tp T (2 - d)+1 - low)).map i1P) (lyL T a0 (2 - d:Nat) path (j+5) (fr B (q+1)) (some (.p (.int (low:Nat)))) y (fr B 0)) (HB t c N m (Bs N T B j S++.frz (SL N T d k)::R))):=by
 induction rest with
 |nil=>
  intro low F S R q y hr _ _ _ hS hR _
  rw[show low=tp T (2 - d)+1 from hr,Nat.sub_self]
  exact⟨S,q,R,_,y,rfl,by rw[hR];exact congrArg (fun z=>some (MObj.lst z)) (List.append_nil _).symm,hS,fun x=>⟨.inl,fun h=>h.elim id fun⟨p,hp,_⟩=>nomatch hp⟩⟩
 |cons p r ih=>
  intro low F S R q y hr hpk hadj hch hS hR hF
  obtain⟨h,c'⟩:=p
  obtain⟨r1,r2,r3⟩:=hr
  have hv:2 - d<3:=by exact Ar.a7
  have hc':c'<N.length∧2 - d<lvl N c':=hch (h,c') List.mem_cons_self
  have up:∀{c2},2 - d<lvl N c2→3 - d≤lvl N c2:=fun h=>by exact Ar.a18 h
  have get:∀{S:List Nat} {R:Hp} {x b:Nat},x≤tp T (2 - d)→cof N (2 - d) x k=b→Zd (.ref (fr B 0)) (.p (.int (x:Nat))) (HB t c N m (Bs N T B j S++.frz (SL N T d k)::R))=some (.ok (.p (.tuple (tblD N T d b))),HB t c N m (Bs N T B j S++.frz (SL N T d k)::R)):=fun hx e=>
   ZW (Zf0 (L:=.frz (SL N T d k)::_) (k:=0) rfl) (Zv ((ZdB hx).trans (by rw[e])))
  have at_:∀y,low≤y→y≤h→cof N (2 - d) y k=c':=fun y h1 h2=>(hpk y h1 (Nat.le_trans h2 r2)).trans (if_pos h2)
  have e3:3 - d=2 - d+1:=Nat.succ_sub (Nat.le_of_lt_succ hd)
  obtain⟨y',sk⟩:=ZlB (cf:=cf) (V:=(2 - d:Nat)) (path:=path) (jj:=j+5) (f:=fr B (q+1)) (a:=fr B 0) (a0:=a0) (lo:=some (.p (.int (low:Nat)))) (σ:=HB t c N m (Bs N T B j S++.frz (SL N T d k)::R)) (h:=h) (ps:=(h::List.range' (h+1) (tp T (2 - d)+1 - (h+1))).map i1P) (h - low) (x:=low) (y:=y) (Nat.add_sub_cancel' r1) fun y h1 h2=>
   Zh2 hT hv (Nat.ne_of_lt (Nat.lt_of_lt_of_le h2 r2)) (get (Nat.le_trans h2 r2) (at_ _ (Nat.le_succ_of_le h1) h2)) (get (Nat.le_trans (Nat.le_of_lt h2) r2) (at_ _ h1 (Nat.le_of_lt h2))) ((ZgJ W (Nat.le_of_lt hd) hc'.1 hc'.1 (up hc'.2) (up hc'.2)).trans (by rw[decide_eq_true rfl]))
  rw[← List.map_append]at sk
  rw[show List.range' low (tp T (2 - d)+1 - low)=List.range' low (h - low)++(h::List.range' (h+1) (tp T (2 - d)+1 - (h+1)))by
   rw[← List.range'_succ,show tp T (2 - d)+1 - (h+1)+1=tp T (2 - d)+1 - h by rw[Nat.add_sub_add_right];exact(Nat.succ_sub r2).symm,show tp T (2 - d)+1 - low=(h - low)+(tp T (2 - d)+1 - h)from(Nat.sub_add_sub_cancel (Nat.le_succ_of_le r2) r1).symm.trans (Nat.add_comm _ _),← List.range'_append_1,Nat.add_sub_cancel' r1],sk]
  have tst:lyT (lyL T a0 (2 - d:Nat) path (j+5) (fr B (q+1)) (some (.p (.int (low:Nat)))) (some (.p (.int (h:Nat)))) (fr B 0)) (HB t c N m (Bs N T B j S++.frz (SL N T d k)::R))=some (.ok true,HB t c N m (Bs N T B j S++.frz (SL N T d k)::R)):=by
   by_cases e:h=tp T (2 - d)
   ·exact Zlx hT hv e
   ·cases r with
    |nil=>exact absurd (Nat.succ.inj r3) e
    |cons p r=>
     obtain⟨h2,c2⟩:=p
     have hc2:c2<N.length∧2 - d<lvl N c2:=hch (h2,c2) (List.mem_cons_of_mem _ List.mem_cons_self)
     have hlt:=Nat.lt_of_le_of_ne r2 e
     exact Zh2 hT hv e (get hlt ((hpk _ (Nat.le_succ_of_le r1) hlt).trans ((if_neg (Nat.not_succ_le_self h)).trans (if_pos r3.1)))) (get r2 (at_ _ r1 (Nat.le_refl _))) ((ZgJ W (Nat.le_of_lt hd) hc2.1 hc'.1 (up hc2.2) (up hc'.2)).trans (by rw[decide_eq_false (Ne.symm hadj.1)]))
  have ew:(wyCh (2 - d) low path ((h,c')::r)).flatMap (fun x=>wy N x.1 x.2)=wy N c' (path++[.tuple [.int (2 - d:Nat),.tuple [.int (low:Nat),.int h]]])++(wyCh (2 - d) (h+1) path r).flatMap fun x=>wy N x.1 x.2:=List.flatMap_cons
  rw[ew,← List.append_assoc]at hF ⊢
  generalize hWl:wy N c' (path++[.tuple [.int (2 - d:Nat),.tuple [.int (low:Nat),.int h]]])=Wl at hF ⊢
  cases sp (B:=Bs N T B j S++.frz (SL N T d k)::R) (k:=c') (j:=j) (path:=path++[.tuple [.int (2 - d:Nat),.tuple [.int (low:Nat),.int h]]]) (S:=S) hc'.1 (up hc'.2) (Znq hj) hS (by rw[List.length_append,e3];exact Nat.succ_le_succ hpath)with
  |mk S1 c1 c2 c3=>
   rw[Zk3 hj,Zdt,Zgv,e3,hWl,List.append_assoc,List.cons_append]at c1
   have en:=(ZmH (a0:=a0) (x:=h) (lw:=(low:Nat)) tst (get r2 (at_ _ r1 (Nat.le_refl _))) (Nat.le_trans hpath (Nat.le_trans (Nat.sub_le _ _) (by decide))) c1 (Zf0 (L:=.frz (SL N T d k)::(R++[.lst Wl])) (k:=q+1) ((List.getElem?_append_left (List.getElem?_eq_some_iff.mp hR).1).trans hR)) (Zf0 (L:=.frz (SL N T d k)::(R++[.lst Wl])) (k:=R.length+1) lt0) (Nat.le_trans (by rw[List.length_append]at hF;exact Nat.le_of_add_right_le hF) (Nat.le_of_lt (Y6 (a:=1000) rfl)))).trans (by rw[Zky,Qh,List.append_assoc,List.cons_append,List.append_assoc,List.length_cons,List.length_append])
   cases ih (low:=h+1) (F:=F++Wl) (S:=S1) (R:=R++[.lst Wl,.lst (F++Wl)]) (q:=R.length+1) (y:=some (.p (.int (h:Nat)))) r3 (fun y h1 h2=>(hpk y (Nat.le_trans r1 (Nat.le_of_succ_le h1)) h2).trans (if_neg (Nat.not_le_of_gt h1))) (by
    cases r with
    |nil=>trivial
    |cons z r=>exact hadj.2) (fun p hp=>hch p (List.mem_cons_of_mem _ hp)) c2 lt1 hF with
   |mk S2 q' R' lo' y2 f1 f2 f3 f4=>
    refine⟨S2,q',R',lo',y2,x_go rfl en f1,f2,f3,fun z=>(f4 z).trans ?_⟩
    rw[c3,or_assoc]
    refine or_congr Iff.rfl ⟨fun h=>h.elim (fun h=>⟨_,List.mem_cons_self,h⟩) fun⟨p,h1,h2⟩=>⟨p,List.mem_cons_of_mem _ h1,h2⟩,fun⟨p,h1,h2⟩=>(List.mem_cons.mp h1).elim (fun e=>.inl (by rw[e]at h2;exact h2)) fun h1=>.inr ⟨p,h1,h2⟩⟩
end
end
section
section
variable{t c:MObj}{N:List Nd}{m:List (P×P)}{B:Hp}{T:List Nat}{n:Nat}
noncomputable def addS(S:List Nat)(k:Nat):List Nat:=if k∈S then S else S++[k]
theorem Ziy{S:List Nat}{k:Nat}(hk:k<N.length)(hS:Mts N S):Mts N (addS S k)∧∀x,x∈addS S k↔x∈S∨x=k:=by
 unfold addS
 split
 ·rename_i h;exact⟨hS,fun x=>⟨.inl,fun h'=>h'.elim id fun e=>e▸h⟩⟩
 ·rename_i h
  refine⟨⟨?_,fun x hx=>(List.mem_append.mp hx).elim (hS.lt x) fun h=>List.mem_singleton.mp h▸hk⟩,fun x=>by rw[List.mem_append,List.mem_singleton]⟩
  rw[List.nodup_append]
  exact⟨hS.nd,by simp,fun a ha b hb e=>h (by rw[← List.mem_singleton.mp hb,← e];exact ha)⟩
theorem Zoh{σ:Hp}{j:Nat}{k:P}{l:List P}{b:Bool}(h:σ[j]?=some (.lst l))(hd:k.depth≤60)(hl:(l.any fun y=>PyData.eqv y k)=b):Xz (.p k) (.ref j) σ=some (.ok (!b),σ):=
 h_b (h_p (ZW h (h_if (m:=hp (l.any fun y=>PyData.eqv y k)) (decide_eq_true hd) (by rw[hl];rfl)))) rfl
noncomputable abbrev lyM:SM:=sIf (tCmp Xz (Zm [Za 2,Za 0]) (Za 4)) (sSeq (Z8 (Z7 Zx (Za 4) [Zm [Za 2,Za 0]])) Ze) Ze
theorem ZeY(W:WF T N)(hN:N.length<cap){l:Loc}{k j v:Nat}{d:Nat}{X:Hp}{S:List Nat}(hd:3 - v=d)(hk:k<N.length)(hl:lvl N k=v)(hj:j<B.length)(hS:Mts N S)(e0:∀σ,Za 0 l σ=some (.ok (.p (.tuple (tblD N T d k))),σ))(e2:∀σ,Za 2 l σ=some (.ok (.p (.int (v:Nat))),σ))(e4:∀σ,Za 4 l σ=some (.ok (.ref (j+5)),σ)):
  lyM l (HB t c N m (Bs N T B j S++X))=some (.ok .next,l,HB t c N m (Bs N T B j (addS S k)++X)):=by
 have hm:metP N T k=.tuple [.int (v:Nat),.tuple (tblD N T d k)]:=by rw[metP,hl,hd]
 have hdep:=ZfW (T:=T) W hk
 have hany:=Zls (T:=T) W hS.lt hk
 rw[hm]at hdep hany
 have g:(HB t c N m (Bs N T B j S++X))[j+5]?=some (.lst (S.map (metP N T))):=Znq hj
 have tst:=Zo (Zz (e2 _) (e0 _)) (e4 _) (Zoh g hdep hany)
 by_cases h:k∈S
 ·rw[decide_eq_true h]at tst
  rw[addS,if_pos h];exact ZU tst rfl
 ·rw[decide_eq_false h]at tst
  refine Y4 tst (Zf (W6 (e4 _) g (Zz (e2 _) (e0 _)) (WJ g ?_)) ?_)
  ·rw[List.length_map];exact Nat.lt_trans (Nat.lt_of_le_of_lt (Zce hS.nd hS.lt) hN) (Y6 rfl)
  ·rw[addS,if_neg h]
   rw[← Zk3 (L:=X) (S:=S) (S':=S++[k]) hj]
   show _=some (R.ok Out.next,l,HB t c N m ((Bs N T B j S++X).set j (.lst ((S++[k]).map (metP N T)))))
   rw[List.map_append,List.map_cons,List.map_nil,hm];rfl
end
section
variable{t c:MObj}{N:List Nd}{m:List (P×P)}{B:Hp}{T:List Nat}{n:Nat}
theorem Zcz{S':List Nat}{j k:Nat}{R:Hp}{o:MObj}(h:R[k]?=some o):Yb (HB t c N m B).length (.ref (fr B k)) (HB t c N m (Bs N T B j S'++R))=some (.ref (fr B 0),HB t c N m (Bs N T B j S'++[o])):=by
 have:=Wk (t:=t) (c:=c) (N:=N) (m:=m) (B:=Bs N T B j S') h
 rw[Qg,Zgv,Zgv]at this
 exact this
theorem Zh4(hT:Tops T){l:Loc}{σ:Hp}{v:Nat}{b:Bool}(e1:Za 1 l σ=some (.ok (.p (.tuple (TPl T))),σ))(e2:Za 2 l σ=some (.ok (.p (.int (v:Nat))),σ))(h:decide (v<3)=b):tCmp ltV (Za 2) (eFn (g1 lenV) [Za 1]) l σ=some (.ok b,σ):=
 Zo e2 (Wp hT e1) (x_dc ((decide_eq_decide.mpr Int.ofNat_lt).trans h))
theorem Zig(hT:Tops T){l:Loc}{σ:Hp}{v:Nat}{b:Bool}(e1:Za 1 l σ=some (.ok (.p (.tuple (TPl T))),σ))(e2:Za 2 l σ=some (.ok (.p (.int (v:Nat))),σ))(h:decide (v=3)=b):tCmp eqV (Za 2) (eFn (g1 lenV) [Za 1]) l σ=some (.ok b,σ):=
 Zo e2 (Wp hT e1) (x_eq ((decide_eq_decide.mpr Int.ofNat_inj).trans h))
theorem ZfZ(hT:Tops T)(W:WF T N)(hN:N.length<cap):Zdg t c N m T (Zg tab (n+1)) 0:=fun B k j path S hk hl hj hS hp=>by
 obtain⟨v,e,hv⟩:=XG W hk hl
 have hjl:=(List.getElem?_eq_some_iff.mp hj).1
 obtain⟨a1,a2⟩:=Ziy hk hS
 have ms:=ZeY (t:=t) (c:=c) (m:=m) (X:=[]) (l:=[some (.p (.tuple (tblD N T 0 k))),some (.p (.tuple (TPl T))),some (.p (.int (3:Nat))),some (.p (.tuple path)),some (.ref (j+5)),none,none,none,none]) W hN (v:=3) (d:=0) rfl hk (QW e) hjl hS (fun _=>rfl) (fun _=>rfl) (fun _=>rfl)
 rw[List.append_nil,List.append_nil,Zi3 hj]at ms
 have et:tblD N T 0 k=[v]:=by rw[tblD,Z1 e]
 rw[et]at ms ⊢
 refine⟨addS S k,Zn rfl rfl (Zf (ZU (Zh4 hT rfl rfl rfl) rfl) (Zf ms (Ye (Y4 (Zig hT rfl rfl rfl) (ZG (h_b (Zc (Zz rfl (Zh rfl rfl t_0)) Zk) (h_b rfl (XY (Wz rfl))))))))) ?_,a1,fun x=>(a2 x).trans (or_congr Iff.rfl ⟨fun h=>h▸.refl _,fun h=>?_⟩)⟩
 ·rw[Zac e]
  show Yb _ (.ref (fr (Bs N T B j (addS S k)) 0)) (HB t c N m (Bs N T B j (addS S k)++[.lst [.tuple [.tuple path,v]]]))=_
  rw[Zgv];exact Zcz (k:=0) rfl
 ·rcases h.head with h|⟨j',ps,q,e',_⟩
  ·exact h
  ·rw[e]at e';cases e'
end
end
section
section
variable{t c:MObj}{N:List Nd}{m:List (P×P)}{B:Hp}{T:List Nat}{n:Nat}
theorem ZlX{j:Nat}{L:Hp}{S:List Nat}(hj:j<B.length):Bs N T (B++L) j S=Bs N T B j S++L:=List.set_append_left _ _ hj
theorem ZmJ{j:Nat}{L:Hp}{S:List Nat}{l:Loc}:eLst [] l (HB t c N m (Bs N T B j S++L))=some (.ok (.ref (fr B L.length)),HB t c N m (Bs N T B j S++(L++[.lst []]))):=
 (XY (l:=[]) (Nat.zero_le _)).trans (by rw[Zky,Qh,List.append_assoc])
theorem Zdf(hT:Tops T){d k:Nat}{path:List P}{j:Nat}(hd:d<3){ret:SM}{r:R Out}{l':Loc}{σ':Hp}
  (h:sSeq (sIf (tCmp eqV (Za 8) (eBin mulV (eLst [eBin Zd (Za 8) (Zb (.int 0))]) (eFn (g1 lenV) [Za 8]))) ret Ze) Ze [some (.p (.tuple (tblD N T (d+1) k))),some (.p (.tuple (TPl T))),some (.p (.int (2 - d:Nat))),some (.p (.tuple path)),some (.ref (j+5)),none,none,none,some (.ref (fr B 0))] (HB t c N m (B++[.lst (SL N T d k)]))=some (r,l',σ')):
  sIf (tCmp ltV (Za 2) (eFn (g1 lenV) [Za 1])) (sSeq (Zj 8 (Zq (Zg tab (n+1)) 22 [(Za 0),(eBin Zd (Za 1) (Za 2))])) (sSeq (sIf (tCmp eqV (Za 8) (eBin mulV (eLst [eBin Zd (Za 8) (Zb (.int 0))]) (eFn (g1 lenV) [Za 8]))) ret Ze) Ze)) Ze [some (.p (.tuple (tblD N T (d+1) k))),some (.p (.tuple (TPl T))),some (.p (.int (2 - d:Nat))),some (.p (.tuple path)),some (.ref (j+5)),none,none,none,none] (HB t c N m B)=some (r,l',σ'):=
 Y4 (Zh4 hT rfl rfl (decide_eq_true (by exact Ar.a7))) (Zf (Zi (Zp (Zc rfl (Zc (Zh rfl rfl (Yv hT.len (by exact Ar.a7))) Zk)) (Zbo hT hd))) h)
theorem Zjs{l:Loc}{j K:Nat}{S:List Nat}{A:List P}{L:Hp}(e:Za 8 l (HB t c N m (Bs N T B j S++.frz A::L))=some (.ok (.ref (fr B 0)),HB t c N m (Bs N T B j S++.frz A::L)))(hA:A.length=K)(hK:K≤1000):Z5 Z2 [eFn (g1 lenV) [Za 8]] l (HB t c N m (Bs N T B j S++.frz A::L))=some (.ok ((List.range K).map i1P),HB t c N m (Bs N T B j S++.frz A::L)):=
 Yd (Zc (ZV e (ZW (Zf0 (L:=.frz A::L) (k:=0) rfl) rfl)) Zk) (by rw[hA];exact gR1 (congrFun (YF hK) _))
theorem Zbu(hT:Tops T)(W:WF T N){d k:Nat}{l:Loc}(hl:l[8]?=some (some (.ref (fr B 0))))(hd:d<3)(hk:k<N.length)(h:2 - d≤lvl N k){b:Bool}(hb:decide (2 - d<lvl N k)=b):
  tCmp eqV (Za 8) (eBin mulV (eLst [eBin Zd (Za 8) (Zb (.int 0))]) (eFn (g1 lenV) [Za 8])) l (HB t c N m (B++[.lst (SL N T d k)]))=some (.ok b,HB t c N m (B++LX N T d k)):=
 ZhT hl Zi1 (by have:=hT.le (2 - d);exact Ar.a34 this) (ZdB (Nat.zero_le _)) ((Zk0 W hd hk h).trans hb) (Zf3 W hk)
theorem Qr(hT:Tops T)(W:WF T N)(hN:N.length<cap){d:Nat}(hd:d<3)(sp:Zdg t c N m T (Zg tab (n+1)) d):Zdg t c N m T (Zg tab (n+2)) (d+1):=fun B k j path S hk hl hj hS hp=>by
 have ev:3 - (d+1)=2 - d:=Nat.add_sub_add_right 2 1 d
 rw[ev]at hl hp ⊢
 have hjl:=(List.getElem?_eq_some_iff.mp hj).1
 have e3:3 - d=2 - d+1:=Nat.succ_sub (Nat.le_of_lt_succ hd)
 by_cases hf:2 - d<lvl N k
 ·have fl:=Zbu (t:=t) (c:=c) (m:=m) (B:=B) (l:=[some (.p (.tuple (tblD N T (d+1) k))),some (.p (.tuple (TPl T))),some (.p (.int (2 - d:Nat))),some (.p (.tuple path)),some (.ref (j+5)),none,none,none,some (.ref (fr B 0))]) hT W rfl hd hk hl (decide_eq_true hf)
  cases sp (B:=B++LX N T d k) hk (by rw[e3];exact hf) (by rw[List.getElem?_append_left hjl];exact hj) hS (by rw[e3];exact Nat.le_succ_of_le hp)with
  |mk S' c1 c2 c3=>
   rw[ZlX hjl,Zdt,e3,List.append_assoc]at c1
   exact⟨S',Zn rfl rfl (Ye (Zdf hT hd (Ye (Y4 fl (ZG (Zp (Zc (Zh rfl rfl (ZW (x_at (k:=0) rfl) (Zv (i:=0) ((ZdB (Nat.zero_le _)).trans (by rw[Xp hf]))))) (Zc rfl (Zc (Zh rfl rfl (YX rfl)) (Zc rfl (Zc rfl Zk))))) c1)))))) (Zcz (k:=3) rfl),c2,c3⟩
 ·have hlk:lvl N k=2 - d:=Nat.le_antisymm (Nat.le_of_not_lt hf) hl
  have fl:=Zbu (t:=t) (c:=c) (m:=m) (B:=B) (l:=[some (.p (.tuple (tblD N T (d+1) k))),some (.p (.tuple (TPl T))),some (.p (.int (2 - d:Nat))),some (.p (.tuple path)),some (.ref (j+5)),none,none,none,some (.ref (fr B 0))]) hT W rfl hd hk hl (decide_eq_false hf)
  rcases Z4 W hk with⟨v,e,h3,_⟩|⟨jj,ps,e,h2,h3,r,a,h4,kk⟩
  ·exact absurd (h3.symm.trans hlk) (Nat.ne_of_gt (Nat.lt_of_le_of_lt (Nat.sub_le _ _) (by decide)))
  obtain rfl:jj=2 - d:=h2.symm.trans hlk
  obtain⟨a1,a2⟩:=Ziy hk hS
  have ms:=ZeY (t:=t) (c:=c) (m:=m) (B:=B) (X:=LX N T d k) (l:=[some (.p (.tuple (tblD N T (d+1) k))),some (.p (.tuple (TPl T))),some (.p (.int (2 - d:Nat))),some (.p (.tuple path)),some (.ref (j+5)),none,none,none,some (.ref (fr B 0))]) W hN (v:=2 - d) (d:=d+1) ((Nat.succ_sub (Nat.sub_le 2 d)).trans (congrArg Nat.succ (Nat.sub_sub_self (Nat.le_of_lt_succ hd)))) hk hlk hjl hS (fun _=>rfl) (fun _=>rfl) (fun _=>rfl)
  rw[Zi3 hj]at ms
  have lp:=Zlw (t:=t) (c:=c) (m:=m) (a0:=some (.p (.tuple (tblD N T (d+1) k)))) (j:=j) (path:=path) (cf:=Zg tab (n+1)) hT W hd hk sp hp hjl (low:=0) (rest:=ps) (F:=[]) (S:=addS S k) (R:=[.lst [s0 N T d k],.frz (List.replicate (tp T (2 - d)+1) (s0 N T d k)),.lst []]) (q:=2) (y:=none) r (fun y _ _=>Zil e) a (fun p hp=>⟨Nat.lt_trans (kk p hp).1 hk,(kk p hp).2⟩) a1 rfl (by rw[← Zf5 (path:=path) W e];exact Nat.le_trans (ZjU hT W hk) (by decide))
  rw[← Zf5 (path:=path) W e,List.nil_append,Nat.sub_zero,← List.range_eq_range']at lp
  cases lp with
  |mk S' q R lo y i1 i2 i3 i4=>
   refine⟨S',Zn rfl rfl (Zf (Zdf hT hd (Zf (ZU fl rfl) rfl)) (Zf ms (Zf (ZU (Zig hT rfl rfl (decide_eq_false (Nat.ne_of_lt h3))) rfl) (Zf (Zi ZmJ) (Zf (Zi rfl) (Zf (Y5 (Zjs rfl Zi1 (by have:=hT.le (2 - d);exact Ar.a34 this)) i1) (ZG rfl))))))) (Zcz (k:=q+1) i2),i3,fun x=>?_⟩
   rw[i4,a2,or_assoc]
   refine or_congr Iff.rfl ⟨fun h=>h.elim (fun h=>h▸.refl _) fun⟨p,hp,hr⟩=>Rch.cons e hp hr,fun h=>?_⟩
   rcases h.head with h|⟨j',ps',q,e',hq,hr⟩
   ·exact .inl h
   ·rw[e]at e';cases e'
    exact .inr ⟨q,hq,hr⟩
theorem Zhh(hT:Tops T)(W:WF T N)(hN:N.length<cap):Zdg t c N m T (Zg tab (n+5)) 3:=
 Qr hT W hN (d:=2) (by decide) (Qr hT W hN (d:=1) (by decide) (Qr hT W hN (d:=0) (by decide) (ZfZ hT W hN)))
end
end
section
section
variable{t c:MObj}{N:List Nd}{m:List (P×P)}{B:Hp}{T:List Nat}{n:Nat}
theorem ZjS{f g:Fn}{l:Loc}{σ σ1:Hp}{S:Option (R V×Hp)}(h:f l σ=some (.ok (.p (.bool true)),σ1))(k:g l σ1=S):eAnd f g l σ=S:=h_b h k
theorem ZeF{op:V→V→HM Bool}{f g:Fn}{l:Loc}{σ σ1 σ2 σ3:Hp}{x y:V}{b:Bool}(h1:f l σ=some (.ok x,σ1))(h2:g l σ1=some (.ok y,σ2))(h3:op x y σ2=some (.ok b,σ3)):eCmp op f g l σ=some (.ok (.p (.bool b)),σ3):=h_b h1 (h_b h2 (h_b h3 rfl))
theorem Zde(hT:Tops T)(W:WF T N)(hN:N.length<cap){k:Nat}(hk:k<N.length):∃S:List Nat,Zg tab (n+5) 24 [.p (.tuple (tb N T k)),.p (.tuple (TPl T)),.p (.int 0),.p (.tuple []),.ref (fr B 0)] (HB t c N m (B++[.lst []]))=some (.ok (.ref (fr B 1)),HB t c N m (B++[.lst (S.map (metP N T)),.lst (wy N k [])]))∧S.Nodup∧∀x,x∈S↔Rch N k x:=by
 cases Zhh (t:=t) (c:=c) (m:=m) (n:=n) hT W hN (B:=B++[.lst []]) (k:=k) (j:=B.length) (path:=[]) (S:=[]) hk (Nat.zero_le _) lt0 ⟨List.nodup_nil,fun _ h=>nomatch h⟩ (Nat.zero_le _)with
 |mk S e1 e2 e3=>
  rw[QN W hk,Bs,ls0,Zdt,List.append_assoc]at e1
  exact⟨S,e1,e2.nd,fun x=>(e3 x).trans ⟨fun h=>h.elim (fun h=>absurd h List.not_mem_nil) id,.inr⟩⟩
theorem Znu(W:WF T N){k:Nat}(hk:k<N.length):PyData.eqv (.list (wy N k [])) (.list (wy N k []))=true∧(PyData.list (wy N k [])).depth≤60:=by
 refine⟨Yr (by simp only[good];exact ZkB W hk rfl),?_⟩
 have:=Yw (k:=4) (l:=wy N k []) fun x hx=>Zi9 W (k:=2) hk (Nat.le_refl _) (fun _ h=>absurd h List.not_mem_nil) x hx
 rw[PyData.depth]
 exact Nat.le_trans (Nat.succ_le_succ this) (by decide)
theorem Zhe(hT:Tops T)(W:WF T N)(hN:N.length<cap){k:Nat}(hk:k<N.length):Zg tab (n+6) 39 [dv T,.p (.int k),.p (.tuple (tb N T k))] (HB t c N m B)=some (.ok (.p (.bool true)),HB t c N m B):=by
 obtain⟨S,e1,e2,e3⟩:=Zde (t:=t) (c:=c) (m:=m) (B:=B) (n:=n) hT W hN hk
 have e4:=(ZeP (t:=t) (c:=c) (m:=m) (B:=B++[.lst (S.map (metP N T)),.lst (wy N k [])]) (n:=n+3) (most:=(wy N k []).length) hT W hk).1 (Nat.le_refl _)
 rw[Zdt,List.append_assoc]at e4
 cases Zjh (t:=t) (c:=c) (m:=m) (B:=B++[.lst (S.map (metP N T)),.frz (wy N k []),.frz (wy N k [])]) (n:=n+3) hT W hN hk with
 |mk S2 f1 f2 f3=>
  have hq:=Znu W hk
  have heq:eqV (.ref (fr B 2)) (.ref (fr B 1)) (HB t c N m (B++[.lst (S.map (metP N T)),.lst (wy N k []),.lst (wy N k [])]))=some (.ok true,HB t c N m (B++[.lst (S.map (metP N T)),.frz (wy N k []),.frz (wy N k [])])):=
   h_b (Q3 (k:=2) rfl) (h_b (Q3 (R:=[.lst (S.map (metP N T)),.lst (wy N k []),.frz (wy N k [])]) (k:=1) rfl) (h_if (decide_eq_true (Nat.le_trans (Nat.min_le_left _ _) hq.2)) (hq.1▸rfl)))
  exact Zn rfl rfl (Zf (Zi QZ) (Zf (Zi (Zp (Zc rfl (Zc rfl (Zc rfl (Zc (ZcB Zk rfl rfl) (Zc rfl Zk))))) e1)) (ZG (ZjS (ZeF (Zp (Zc rfl (Zc rfl (Zc (ZV rfl (Qj (k:=1) rfl)) Zk))) e4) rfl heq) (ZeF (Zp (Zc rfl (Zc rfl Zk)) f1) (ZV rfl (Qj (k:=0) rfl)) (x_eq (decide_eq_true (by rw[List.length_map,ZfS f2 e2 fun x=>by rw[f3,e3]]))))))))
   (ZI rfl)
noncomputable def fuR:Option P→R Out
 |some p=>.ok (.ret (.p p))
 |none=>.ok .next
theorem ZlF{cf:CF}{CL X Y:List P}{σ:Hp}(ha:∀(i:Nat) p,CL[i]?=some p→Zd (.ref 1) (.p (.int (i:Nat))) σ=some (.ok (.p p),σ))(hX:∀x∈X,ZK x=true)(h1:CL.length=X.length)(h2:X.length=Y.length)(cnt:Nat):∀(x:Nat) (y:Option V),x+cnt=CL.length→
  ∃l',Yj (.one 3) (YJ cf) ((List.range' x cnt).map i1P) [some (.ref 1),some (.p (.tuple X)),some (.p (.tuple Y)),y] σ=some (fuR (fuL (CL.drop x) (X.drop x) (Y.drop x)),l',σ):=by
 induction cnt with
 |zero=>
  intro x y hx
  have hx:x=CL.length:=hx
  rw[List.drop_eq_nil_of_le (Nat.le_of_eq hx.symm),List.drop_eq_nil_of_le (Nat.le_of_eq (hx.trans h1).symm),List.drop_eq_nil_of_le (Nat.le_of_eq ((hx.trans h1).trans h2).symm)]
  exact⟨_,rfl⟩
 |succ cnt ih=>
  intro x y hx
  have hc:x<CL.length:=by rw[← hx];exact Nat.lt_add_of_pos_right (Nat.succ_pos _)
  have hxx:x<X.length:=h1▸hc
  have hy:x<Y.length:=h2▸hxx
  rw[List.drop_eq_getElem_cons hc,List.drop_eq_getElem_cons hxx,List.drop_eq_getElem_cons hy,fuL]
  have tst:tCmp neV (eBin Zd (Za 1) (Za 3)) (eBin Zd (Za 2) (Za 3)) [some (.ref 1),some (.p (.tuple X)),some (.p (.tuple Y)),some (.p (.int (x:Nat)))] σ=some (.ok (!PyData.eqv X[x] Y[x]),σ):=Zo (Zh rfl rfl (Zv (List.getElem?_eq_getElem hxx))) (Zh rfl rfl (Zv (List.getElem?_eq_getElem hy))) (QM (YT (Yz (hX X[x] (List.getElem_mem hxx)) Y[x])))
  cases he:PyData.eqv X[x] Y[x]with
  |false=>rw[he]at tst;exact⟨_,ZdH rfl (Ye (Y4 tst (ZG (Zh rfl rfl (ha x CL[x] (List.getElem?_eq_getElem hc))))))⟩
  |true=>rw[he]at tst;exact(ih (x+1) (some (.p (.int (x:Nat)))) (by rw[← hx,Nat.add_right_comm];rfl)).imp fun l' e=>x_go rfl (Zf (ZU tst rfl) rfl) e
end
end
section
theorem Ws{t:Tg}{b:SM}{σ:Hp}(I:Loc→Prop):∀{items:List P},(∀p∈items,∀l,I l→∃l1,ZX t p l=some l1∧∃l2,b l1 σ=some (.ok .next,l2,σ)∧I l2)→∀l,I l→∃l',Yj t b items l σ=some (.ok .next,l',σ)∧I l'
 |[],_,l,hl=>⟨l,rfl,hl⟩
 |p::ps,h,l,hl=>by
  obtain⟨l1,e1,l2,e2,hl2⟩:=h p (by simp) l hl
  obtain⟨l',e3,h3⟩:=Ws I (items:=ps) (fun q hq=>h q (by simp[hq])) l2 hl2
  exact⟨l',x_go e1 e2 e3,h3⟩
theorem Znc{b:Bool}{σ:Hp}:eqV (.p (.bool b)) (.p (.bool b)) σ=some (.ok true,σ):=by
 rw[YT (by simp[PyData.depth])]
 cases b<;>rfl
section
variable{t c:MObj}{N:List Nd}{m:List (P×P)}{B:Hp}{T:List Nat}{n:Nat}
theorem Zld(hT:Tops T)(W:WF T N){a b:Nat}(ha:a<N.length)(hb':b<N.length):Zg tab (n+1) 38 [.ref 1,.p (.tuple (tb N T a)),.p (.tuple (tb N T b))] (HB t (Cs T) N m B)=some (.ok (.p (if a=b then .none else Xi (par N T 3 a b))),HB t (Cs T) N m B):=by
 have hl:((Zw T 3 []).map Xi).length=(Zw T 3 []).length:=List.length_map _
 obtain⟨l',e⟩:=ZlF (cf:=Zg tab n) (CL:=(Zw T 3 []).map Xi) (X:=tb N T a) (Y:=tb N T b) (σ:=HB t (Cs T) N m B) (fun i p h=>ZW (o:=Cs T) rfl (Zv h)) (by rw[← QN W ha];exact QP W 3 a ha) (by rw[tb,List.length_map,List.length_map]) (by rw[tb,tb,List.length_map,List.length_map]) (Zw T 3 []).length 0 none (by rw[hl,Nat.zero_add])
 have hf:=ZhQ W (d:=3) (a:=a) (b:=b) (pre:=[]) (Nat.le_refl _) ha hb' (Nat.zero_le _) (Nat.zero_le _)
 rw[QN W ha,QN W hb']at hf
 rw[List.drop_zero,List.drop_zero,List.drop_zero,hf,← List.range_eq_range']at e
 have it:Z5 Z2 [eFn (g1 lenV) [Za 0]] [some (.ref 1),some (.p (.tuple (tb N T a))),some (.p (.tuple (tb N T b))),none] (HB t (Cs T) N m B)=some (.ok ((List.range (Zw T 3 []).length).map i1P),HB t (Cs T) N m B):=(Zc0 hT rfl rfl).trans (by rw[ZdE])
 by_cases h:a=b
 ·rw[if_pos h]at e ⊢
  exact Zn rfl rfl (Zf (Y5 it e) (ZG rfl)) Z9
 ·rw[if_neg h,List.nil_append]at e
  rw[if_neg h]
  exact Zn rfl rfl (Ye (Y5 it e)) Z9
theorem Zmp(W:WF T N){a b:Nat}(ha:a<N.length)(hb':b<N.length):PyData.eqv (.tuple (tb N T a)) (.tuple (tb N T b))=decide (a=b):=by
 have g1:=Xj W (d:=3) ha
 have g2:=Xj W (d:=3) hb'
 rw[QN W ha]at g1
 rw[QN W hb']at g2
 by_cases h:a=b
 ·subst h;rw[Yr g1];simp
 ·rw[Zd2 g1 g2 fun e=>h (Zai W (d:=3) (by exact Ar.a77) ha hb' (by exact Ar.a42) (by exact Ar.a42) (by rw[QN W ha,QN W hb'];injection e)),decide_eq_false h]
theorem Znd{a b:Nat}{σ:Hp}:eqV (.p (if a=b then .none else Xi (par N T 3 a b))) (.p (if a=b then .none else Xi (par N T 3 a b))) σ=some (.ok true,σ):=by
 have hg:good (if a=b then .none else Xi (par N T 3 a b))=true:=by
  split
  ·rfl
  ·simp only[Xi,good,ZH]
   intro x hx
   obtain⟨y,_,rfl⟩:=List.mem_map.mp hx
   rfl
 have hd:(if a=b then PyData.none else Xi (par N T 3 a b)).depth≤1:=by
  split
  ·simp[PyData.depth]
  ·have:=Yw (k:=0) (l:=(par N T 3 a b).map i1P) fun x hx=>by
    obtain⟨y,_,rfl⟩:=List.mem_map.mp hx
    simp[i1P,PyData.depth]
   simp only[Xi,PyData.depth];exact Ar.a158 this
 rw[YT (by exact Ar.a160 hd),Yr hg]
theorem Q5{f:Fn}{l:Loc}{σ:Hp}{k:Nat}(h:f l σ=some (.ok (.p (En N T k)),σ)):eBin Zd f (Zb (.int 0)) l σ=some (.ok (.p (.int k)),σ):=Zh h rfl En0
theorem Wx{f:Fn}{l:Loc}{σ:Hp}{k:Nat}(h:f l σ=some (.ok (.p (En N T k)),σ)):eBin Zd f (Zb (.int 1)) l σ=some (.ok (.p (.tuple (tb N T k))),σ):=Zh h rfl En1
theorem Znf{cf:CF}(W:WF T N){l:Loc}{a b:Nat}{σ:Hp}(ha:a<N.length)(hb':b<N.length)(hi:eBin Zd (Za 2) (Za 3) l σ=some (.ok (.p (En N T a)),σ))(hj:eBin Zd (Za 2) (Za 4) l σ=some (.ok (.p (En N T b)),σ)):
  YB cf l σ=some (.ok .next,l,σ):=by
 have d:=WG W (d:=3) ha
 rw[QN W ha]at d
 have e2:=YT (a:=.tuple (tb N T a)) (b:=.tuple (tb N T b)) (σ:=σ) (Nat.le_trans (Nat.min_le_left _ _) (Nat.le_trans d (by decide)))
 rw[Zmp W ha hb']at e2
 exact Zf (ZU (Zo (ZeF (Q5 hi) (Q5 hj) (x_eq (decide_eq_decide.mpr Int.ofNat_inj))) (ZeF (Wx hi) (Wx hj) e2) (QM Znc)) rfl) rfl
theorem Zma{f g:Fn}{l:Loc}{σ:Hp}{d:P}(h1:f l σ=some (.ok (.p d),σ))(h2:g l σ=some (.ok (.p d),σ))(h:∀σ,eqV (.p d) (.p d) σ=some (.ok true,σ)):tCmp neV f g l σ=some (.ok false,σ):=Zo h1 h2 (QM (h σ))
noncomputable abbrev cmL(T:List Nat)(jm:Nat)(x3 x4 x5:Option V):Loc:=[some (dv T),some (.ref 1),some (.ref (jm+5)),x3,x4,x5]
inductive CmR(T:List Nat)(jm:Nat)(x3:Option V)(σ:Hp)(o:Option (R Out×Loc×Hp)):Prop
 |mk (y4 y5:Option V):o=some (.ok .next,cmL T jm x3 y4 y5,σ)→CmR T jm x3 σ o
theorem ZlO(hT:Tops T)(W:WF T N)(hN:N.length<cap){L:List Nat}{jm i:Nat}{x4 x5:Option V}(hL:∀k∈L,k<N.length)(hL2:L.length≤100)(hi:i<L.length)(hB:B[jm]?=some (.lst (L.map (En N T)))):
  CmR T jm (some (.p (.int (i:Nat)))) (HB t (Cs T) N m B) (YA (Zg tab (n+7)) (cmL T jm (some (.p (.int (i:Nat)))) x4 x5) (HB t (Cs T) N m B)):=by
 have hg:(HB t (Cs T) N m B)[jm+5]?=some (.lst (L.map (En N T))):=hB
 have at_:∀(i:Nat) (h:i<L.length),Zd (.ref (jm+5)) (.p (.int (i:Nat))) (HB t (Cs T) N m B)=some (.ok (.p (En N T L[i])),HB t (Cs T) N m B):=fun i h=>
  ZW hg (Zv (by rw[List.getElem?_map,List.getElem?_eq_getElem h];rfl))
 have hLi:L[i]<N.length:=hL _ (List.getElem_mem hi)
 obtain⟨l1,f1,x4',x5',rfl⟩:=Ws (t:=.one 4) (b:=YB (Zg tab (n+7))) (σ:=HB t (Cs T) N m B) (fun l=>∃x4 x5,l=cmL T jm (some (.p (.int (i:Nat)))) x4 x5) (items:=(List.range i).map i1P) (fun p hp l hl=>by
  obtain⟨x4,x5,rfl⟩:=hl
  obtain⟨j,hj,rfl⟩:=List.mem_map.mp hp
  have hj:j<L.length:=Nat.lt_trans (List.mem_range.mp hj) hi
  exact⟨_,rfl,_,Znf W hLi (hL _ (List.getElem_mem hj)) (Zh rfl rfl (at_ i hi)) (Zh rfl rfl (at_ j hj)),_,_,rfl⟩) (cmL T jm (some (.p (.int (i:Nat)))) x4 x5) ⟨x4,x5,rfl⟩
 have it:Z5 Z2 [Za 3] (cmL T jm (some (.p (.int (i:Nat)))) x4 x5) (HB t (Cs T) N m B)=some (.ok ((List.range i).map i1P),HB t (Cs T) N m B):=Yd (Zc rfl Zk) (gR1 (congrFun (YF (k:=i) (Nat.le_of_lt (Nat.lt_of_lt_of_le hi (Nat.le_trans hL2 (by decide))))) _))
 obtain⟨r,hr,hr2⟩:=XZ ((L.length:Int) - (i:Int)) 2 (by decide)
 have md:∀{b:Bool},decide (((r:Nat):Int)=1)=b→tCmp eqV (eBin modV (eBin subV (eFn (g1 lenV) [(Za 2)]) (Za 3)) (Zb (.int 2))) (Zb (.int 1)) (cmL T jm (some (.p (.int (i:Nat)))) x4' x5') (HB t (Cs T) N m B)=some (.ok b,HB t (Cs T) N m B):=fun h=>
  Zo (Zh (Zh (ZV rfl (ZW hg rfl)) rfl rfl) rfl (ZaQ (by decide) (by rw[List.length_map];exact hr))) rfl (x_eq h)
 by_cases h1:r=1
 ·obtain⟨b,hb',hpv⟩:∃b,b<N.length∧Zd (.ref (jm+5)) (.p (.int ((i:Int) - 1))) (HB t (Cs T) N m B)=some (.ok (.p (En N T b)),HB t (Cs T) N m B):=by
   rcases Nat.eq_zero_or_pos i with rfl|h0
   ·have hne:L≠[]:=by rintro rfl;exact absurd hi (Nat.not_lt_zero _)
    refine⟨L.getLast hne,hL _ (List.getLast_mem hne),ZW hg ?_⟩
    have:L.map (En N T)=(L.dropLast).map (En N T)++[En N T (L.getLast hne)]:=by
     conv=>lhs;rw[← List.dropLast_concat_getLast hne]
     rw[List.map_append,List.map_cons,List.map_nil]
    show Y9 (L.map (En N T)) _ _=_
    rw[this]
    exact Zcj
   ·have e:((i:Int) - 1)=((i - 1:Nat):Int):=by exact Ar.a165 h0
    rw[e]
    exact⟨L[i - 1],hL _ (List.getElem_mem (by exact Ar.a82 hi)),at_ (i - 1) (by exact Ar.a82 hi)⟩
  have ai:=fun x4 x5=>Zh (f:=Za 2) (g:=Za 3) (l:=cmL T jm (some (.p (.int (i:Nat)))) x4 x5) rfl rfl (at_ i hi)
  have pi:=fun x4 x5=>Zh (f:=Za 2) (g:=eBin subV (Za 3) (Zb (.int 1))) (l:=cmL T jm (some (.p (.int (i:Nat)))) x4 x5) rfl (Zh rfl rfl rfl) hpv
  exact⟨x4',some (.p (if L[i]=b then .none else Xi (par N T 3 L[i] b))),Zf (Y5 it f1) (Zf (Y4 (md (by rw[h1];rfl)) (Zf (ZU (ZgA (QL (Zp (Zc rfl (Zc (Q5 (ai _ _)) (Zc (Wx (ai _ _)) Zk))) (Zhe hT W hN hLi)) rfl)) rfl) (Zf (Zi (Zp (Zc rfl (Zc (Wx (ai _ _)) (Zc (Wx (pi _ _)) Zk))) (Zld hT W hLi hb')))
   (Zf (ZU (Zma (Zp (Zc rfl (Zc (Q5 (ai _ _)) (Zc (Q5 (pi _ _)) Zk))) (ZdU hT W hLi hb')) rfl fun σ=>Znd) rfl) rfl)))) rfl)⟩
 ·exact⟨x4',x5',Zf (Y5 it f1) (Zf (ZU (md (decide_eq_false fun e=>h1 (Int.ofNat.inj e))) rfl) rfl)⟩
theorem ZcR(hT:Tops T)(W:WF T N)(hN:N.length<cap){L:List Nat}{jm:Nat}(hL:∀k∈L,k<N.length)(hL2:L.length≤100)(hB:B[jm]?=some (.lst (L.map (En N T)))):
  Zg tab (n+8) 40 [dv T,.ref 1,.ref (jm+5)] (HB t (Cs T) N m B)=some (.ok (.p (.bool true)),HB t (Cs T) N m B):=by
 obtain⟨l1,f1,x3,x4,x5,rfl⟩:=Ws (t:=.one 3) (b:=YA (Zg tab (n+7))) (σ:=HB t (Cs T) N m B) (fun l=>∃x3 x4 x5,l=cmL T jm x3 x4 x5) (items:=(List.range L.length).map i1P) (fun p hp l hl=>by
  obtain⟨x3,x4,x5,rfl⟩:=hl
  obtain⟨i,hi,rfl⟩:=List.mem_map.mp hp
  cases ZlO (t:=t) (m:=m) (n:=n) (x4:=x4) (x5:=x5) hT W hN hL hL2 (List.mem_range.mp hi) hB with
  |mk y4 y5 e=>exact⟨_,rfl,_,e,_,_,_,rfl⟩) (cmL T jm none none none) ⟨none,none,none,rfl⟩
 exact Zn rfl rfl (Zf (Y5 (Yd (Zc (ZV rfl (ZW (o:=.lst (L.map (En N T))) hB rfl)) Zk) (by rw[List.length_map];exact gR1 (congrFun (YF (k:=L.length) (Nat.le_trans hL2 (by decide))) _))) f1) (ZG rfl)) Z9
end
end
section
section
variable{t c:MObj}{N:List Nd}{m:List (P×P)}{B:Hp}{T:List Nat}{n:Nat}
theorem ZcT(hT:Tops T)(W:WF T N)(hN:N.length<cap){k:Nat}(hk:k<N.length){x1 x2 x3 x4 x7:Option V}:∃X,Zq (Zg tab (n+6)) 31 [Za 0,Za 5,eBin subV (eFn (g1 lenV) [Zq (Zg tab (n+6)) 24 [Za 6,ZT (Za 0) 0,Zb (.int 0),Zm [],eLst []]]) (Zb (.int 1))] [some (dv T),x1,x2,x3,x4,some (.p (.int k)),some (.p (.tuple (tb N T k))),x7] (HB t c N m B)=some (.ok (.p (.bool true)),HB t c N m (B++X)):=by
 obtain⟨S,e1,e2,e3⟩:=Zde (t:=t) (c:=c) (m:=m) (B:=B) (n:=n+1) hT W hN hk
 have hp1:=Zmi W (path:=[]) hk
 exact⟨[.lst (S.map (metP N T)),.lst (wy N k [])],Zp (Zc rfl (Zc rfl (Zc (Zh (ZV (Zp (Zc rfl (Zc rfl (Zc rfl (Zc (ZcB Zk rfl rfl) (Zc QZ Zk))))) e1) (Qj (k:=1) rfl)) rfl (ZjN (by exact Ar.a165 hp1))) Zk))) (Zhf hT W hk (Nat.sub_lt hp1 (Nat.succ_pos 0)))⟩
theorem Zhi(hT:Tops T)(W:WF T N)(hN:N.length<cap){k:Nat}(hk:k<N.length):Zg tab (n+7) 41 [dv T,.ref 1,.p (En N T k)] (HB t (Cs T) N m B)=some (.ok (.p (.bool true)),HB t (Cs T) N m B):=by
 obtain⟨l1,f1,x3,rfl⟩:=Ws (t:=.one 3) (b:=WQ (Zg tab (n+6))) (σ:=HB t (Cs T) N m B) (fun l=>∃x3,l=[some (dv T),some (.ref 1),some (.p (En N T k)),x3,none,some (.p (.int k)),some (.p (.tuple (tb N T k))),none]) (items:=(List.range (Zw T 3 []).length).map i1P) (fun p hp l hl=>by
  obtain⟨x3,rfl⟩:=hl
  obtain⟨i,hi,rfl⟩:=List.mem_map.mp hp
  have hi:=List.mem_range.mp hi
  have hxi:(Zw T 3 [])[i]?=some (Zw T 3 [])[i]:=List.getElem?_eq_getElem hi
  obtain⟨hf,hx3⟩:=Ys (List.getElem_mem hi)
  have ha:=QQ W hf hk
  have v1:=ZcM (t:=t) (c:=Cs T) (m:=m) (B:=B) (n:=n+4) (vs:=.p (Xi (Zw T 3 [])[i])) W hf hk (fun j hj=>Ze0 hx3 hj)
  refine⟨_,rfl,_,Zf (ZU (Zo (Zp (Zc rfl (Zc rfl (Zc (Zh rfl rfl (ZW (o:=Cs T) rfl (Zv (l:=(Zw T 3 []).map Xi) (i:=i) (by rw[List.getElem?_map,hxi];rfl)))) Zk))) v1) (Zh rfl rfl (ZeM hxi)) (QM (c:=true) ((YT (Yz ha _)).trans (by rw[Yr (YG ha)])))) rfl) rfl,_,rfl⟩) [some (dv T),some (.ref 1),some (.p (En N T k)),none,none,some (.p (.int k)),some (.p (.tuple (tb N T k))),none] ⟨none,rfl⟩
 have it:Z5 Z2 [eFn (g1 lenV) [Za 1]] [some (dv T),some (.ref 1),some (.p (En N T k)),none,none,some (.p (.int k)),some (.p (.tuple (tb N T k))),none] (HB t (Cs T) N m B)=some (.ok ((List.range (Zw T 3 []).length).map i1P),HB t (Cs T) N m B):=(Zc0 hT rfl rfl).trans (by rw[ZdE])
 have lv:=Qo (t:=t) (c:=Cs T) (m:=m) (B:=B) (n:=n+4) hT W hk
 rw[QN W hk]at lv
 rcases Z4 W hk with⟨v,e,h3,_⟩|⟨j,ps,e,h2,h3,_⟩
 ·rw[h3]at lv
  obtain⟨X,tail⟩:=ZcT (t:=t) (c:=Cs T) (m:=m) (B:=B) (n:=n) (x1:=some (.ref 1)) (x2:=some (.p (En N T k))) (x3:=x3) (x4:=some (.p (.int (3:Nat)))) (x7:=none) hT W hN hk
  exact Zn rfl rfl (Zf (ZD rfl rfl) (Zf (Y5 it f1) (Zf (Zi (Zp (Zc rfl (Zc rfl Zk)) lv)) (Zf (ZU (Zo rfl (Wp hT rfl) (x_dc (decide_eq_false (Int.lt_irrefl _)))) rfl) (ZG tail))))) (ZI rfl)
 ·rw[h2]at lv
  have at3:([.int 0,.int 0,.int 0]:List P).length=3:=rfl
  have rv:=ZfL (t:=t) (c:=Cs T) (m:=m) (B:=B++[.lst (([.int 0,.int 0,.int 0]:List P).set j (.int ((tp T j+1:Nat):Int)))]) (n:=n+3) (vs:=.ref (fr B 0)) W e (x:=tp T j+1) (Nat.lt_succ_self _) (x_it (k:=0) rfl (Zv (List.getElem?_set_self h3)))
  obtain⟨X,tail⟩:=ZcT (t:=t) (c:=Cs T) (m:=m) (B:=B++[.lst (([.int 0,.int 0,.int 0]:List P).set j (.int ((tp T j+1:Nat):Int)))]) (n:=n) (x1:=some (.ref 1)) (x2:=some (.p (En N T k))) (x3:=x3) (x4:=some (.p (.int j))) (x7:=some (.ref (fr B 0))) hT W hN hk
  rw[List.append_assoc]at tail
  exact Zn rfl rfl (Zf (ZD rfl rfl) (Zf (Y5 it f1) (Zf (Zi (Zp (Zc rfl (Zc rfl Zk)) lv)) (Zf (Y4 (Zo rfl (Wp hT rfl) (x_dc (decide_eq_true (Int.ofNat_lt.mpr h3)))) (Zf (Zi (h_b (Zc rfl (Zc rfl (Zc rfl Zk))) (h_b rfl (XY (Wz rfl))))) (Zf (Qi (Zh (Zh rfl rfl (Yv hT.len h3)) rfl (YX rfl)) rfl rfl (ZlZ (k:=0) rfl (Zco h3)))
   (Zf (ZU (ZgA (QL (Zp (Zc rfl (Zc rfl (Zc rfl Zk))) rv) rfl)) rfl) rfl)))) (ZG tail))))) (ZI rfl)
end
end
section
section
variable{τ:Type}{nxt:Src τ}{t:Tg}{g:Em}{n:Nat}{st st':τ}{l l' l1 l2:Loc}{σ σ1 σ2:Hp}{p q:P}{qs qs':List P}{c:Tn}{f:Fn}{v:V}
theorem ZlC(h:nxt st σ=some none):goN nxt t g (n+1) st l σ=some (.ok ([],l),σ):=by
 unfold goN;rw[h]
theorem Zfj(h:nxt st σ=some (some (p,st')))(hb:ZX t p l=some l')(h1:g l' σ=some (.ok (qs,l1),σ1))(h2:goN nxt t g n st' l1 σ1=some (.ok (qs',l2),σ2)):goN nxt t g (n+1) st l σ=some (.ok (qs++qs',l2),σ2):=by
 unfold goN;rw[h];dsimp only;rw[hb];exact h_b h1 (h_b h2 rfl)
theorem ZlE(h:f l σ=some (.ok v,σ1))(h2:asP v σ1=some (.ok q,σ2)):Wv f l σ=some (.ok ([q],l),σ2):=h_b (h_ne (h_b h h2)) rfl
theorem Zov{S:Option (R (List P×Loc)×Hp)}(h:c l σ=some (.ok true,σ1))(k:g l σ1=S):gIf c g l σ=S:=h_b (h_ne h) k
theorem Zow(h:c l σ=some (.ok false,σ1)):gIf c g l σ=some (.ok ([],l),σ1):=h_b (h_ne h) rfl
theorem Zkk{k i:Nat}{xs:List P}(h:σ[k]?=some (.lst xs))(h2:xs[i]?=some p):nxtK k i σ=some (some (p,i+1)):=by
 unfold nxtK;rw[h];dsimp only;rw[h2]
theorem Zm9{k i:Nat}{xs:List P}(h:σ[k]?=some (.lst xs))(h2:xs[i]?=none):nxtK k i σ=some none:=by
 unfold nxtK;rw[h];dsimp only;rw[h2]
theorem Zk9{i k:Nat}{xs:List P}(h:l[i]?=some (some (.ref k)))(hk:σ[k]?=some (.lst xs))(e:goN (nxtK k) t (gIf c (Wv f)) (xs.length+1) 0 (X7 t l) σ=some (.ok (qs,l'),σ1))(hl:qs.length≤lim):ZaD i t c f l σ=some (.ok (.ref σ1.length),σ1++[.lst qs]):=by
 unfold ZaD;rw[h];dsimp only;rw[hk];dsimp only;rw[e];exact XY hl
end
theorem Zgg{α:Type}{i:Nat}{c:Tn}{σ:Hp}{kp:Nat}{g:α→P}{p:α→Bool}{G:α→Loc}{L:List α}(hk:σ[kp]?=some (.lst (L.map g)))(h1:∀a b,ZX (.one i) (g b) (G a)=some (G b))(hc:∀a∈L,c (G a) σ=some (.ok (p a),σ))(hn:∀a,Za i (G a) σ=some (.ok (.p (g a)),σ))(cnt:Nat):∀(idx:Nat) {l:Loc},idx+cnt=L.length→(∀a,ZX (.one i) (g a) l=some (G a))→∃l',goN (nxtK kp) (.one i) (gIf c (Wv (Za i))) (cnt+1) idx l σ=some (.ok (((L.drop idx).filter p).map g,l'),σ):=by
 induction cnt with
 |zero=>
  intro idx l he h0
  have he:idx=L.length:=he
  exact⟨l,by rw[List.drop_eq_nil_of_le (Nat.le_of_eq he.symm)];exact ZlC (Zm9 hk (List.getElem?_eq_none (by rw[List.length_map];exact Nat.le_of_eq he.symm)))⟩
 |succ cnt ih=>
  intro idx l he h0
  have hi:idx<L.length:=by rw[← he];exact Nat.lt_add_of_pos_right (Nat.succ_pos _)
  have hit:(L.map g)[idx]?=some (g L[idx]):=by rw[List.getElem?_map,List.getElem?_eq_getElem hi];rfl
  obtain⟨l',ih⟩:=ih (idx+1) (l:=G L[idx]) (by rw[← he,Nat.add_right_comm];rfl) (fun a=>h1 _ a)
  refine⟨l',?_⟩
  have hca:=hc L[idx] (List.getElem_mem hi)
  rw[List.drop_eq_getElem_cons hi]
  cases hp0:p L[idx]with
  |false=>rw[hp0]at hca;rw[List.filter_cons_of_neg (by rw[hp0];decide)];exact Zfj (Zkk hk hit) (h0 _) (Zow hca) ih
  |true=>rw[hp0]at hca;rw[List.filter_cons_of_pos hp0];exact Zfj (Zkk hk hit) (h0 _) (Zov hca (ZlE (hn _) rfl)) ih
theorem Qp{g:Nat→Nat}:∀(n a top:Nat),a+n=top+1→Rise a ((List.range' a n).map fun k=>(k,g k)) top
 |0,a,top,h=>by simp[Rise];exact Ar.n2 (.im (.e (.p (.v 0) (.k 0)) (.p (.v 1) (.k 1))) (.e (.v 0) (.p (.v 1) (.k 1)))) (by kernel_rfl) h
 |n+1,a,top,h=>by
  rw[List.range'_succ,List.map_cons]
  exact⟨Nat.le_refl _,by exact Ar.n3 (.im (.e (.p (.v 0) (.p (.v 2) (.k 1))) (.p (.v 1) (.k 1))) (.l (.v 0) (.v 1))) (by kernel_rfl) h,Qp n (a+1) top (by exact Ar.a78 h)⟩
theorem Zbr{g:Nat→Nat}{x:Nat}:∀(n a:Nat),a≤x→x<a+n→pick ((List.range' a n).map fun k=>(k,g k)) x=g x
 |0,a,h1,h2=>by exact False.elim (Ar.n2 (.im (.l (.v 0) (.v 1)) (.im (.t (.v 1) (.p (.v 0) (.k 0))) .ff)) (by kernel_rfl) h1 h2)
 |n+1,a,h1,h2=>by
  rw[List.range'_succ,List.map_cons]
  simp only[pick]
  by_cases h:x≤a
  ·rw[if_pos h];congr 1;exact Ar.a76 h1 h
  ·rw[if_neg h];exact Zbr n (a+1) (by exact Ar.a14 h) (by exact Ar.n3 (.im (.t (.v 0) (.p (.v 1) (.p (.v 2) (.k 1)))) (.t (.v 0) (.p (.p (.v 1) (.k 1)) (.v 2)))) (by kernel_rfl) h2)
section
variable{t c:MObj}{N:List Nd}{M:List (Ky×Nat)}{m:List (P×P)}{B:Hp}{T:List Nat}{n:Nat}
theorem ZjH(hT:Tops T)(W:WF T N){v jt:Nat}{L:List Nat}{x3:Option V}(hL:∀k∈L,k<N.length)(hL2:L.length≤1000)(hB:B[jt]?=some (.lst (L.map (En N T)))):
  ZaD 4 (.one 10) (Yn (Zg tab (n+2))) (YO (Zg tab (n+2))) [some (dv T),some (.ref 1),some (.p (.int v)),x3,some (.ref (jt+5)),some (.p (.tuple (TPl T))),none,none,none,none,none,none,none] (HB t c N m B)=some (.ok (.ref (fr B 0)),HB t c N m (B++[.lst ((L.filter fun k=>decide (v<lvl N k)).map (En N T))])):=by
 have hg:(HB t c N m B)[jt+5]?=some (.lst (L.map (En N T))):=hB
 obtain⟨l',e⟩:=Zgg (i:=10) (c:=Yn (Zg tab (n+2))) (σ:=HB t c N m B) (kp:=jt+5) (g:=En N T) (p:=fun k=>decide (v<lvl N k)) (G:=fun k=>[some (dv T),some (.ref 1),some (.p (.int v)),x3,some (.ref (jt+5)),some (.p (.tuple (TPl T))),none,none,none,none,some (.p (En N T k)),none,none]) (L:=L) hg (fun _ _=>rfl) (fun k hk=>by
  have lv:=Qo (t:=t) (c:=c) (m:=m) (B:=B) (n:=n) hT W (hL k hk)
  rw[QN W (hL k hk)]at lv
  exact Zo (Zp (Zc (Wx rfl) (Zc rfl Zk)) lv) rfl (x_dc (decide_eq_decide.mpr Int.ofNat_lt))) (fun _=>rfl) L.length 0 (l:=[some (dv T),some (.ref 1),some (.p (.int v)),x3,some (.ref (jt+5)),some (.p (.tuple (TPl T))),none,none,none,none,none,none,none]) (Nat.zero_add _) (fun _=>rfl)
 rw[List.drop_zero]at e
 refine Zk9 (σ1:=HB t c N m B) (qs:=(L.filter fun k=>decide (v<lvl N k)).map (En N T)) (l':=l') rfl hg ?_ ?_
 ·rw[List.length_map];exact e
 ·rw[List.length_map]
  exact Nat.le_trans (List.length_filter_le _ _) (Nat.le_trans hL2 (Nat.le_of_lt (Y6 (a:=1000) rfl)))
end
end
section
section
variable{t c:MObj}{N:List Nd}{M:List (Ky×Nat)}{m:List (P×P)}{B:Hp}{T:List Nat}{n:Nat}
noncomputable abbrev bhL(T:List Nat)(v jt:Nat)(bg:Int)(x6 x7 x8 x9 x10 x11 x12:Option V):Loc:=[some (dv T),some (.ref 1),some (.p (.int v)),some (.p (.int bg)),some (.ref (jt+5)),some (.p (.tuple (TPl T))),x6,x7,x8,x9,x10,x11,x12]
theorem ZlR{cf:CF}{v jt:Nat}{a7 a8 a9 a10 a12:Option V}{k bg I:Int}{LE:List P}{e:P}(h4:Int.fmod (bg+Int.fdiv k 2) LE.length=I)(d:decide ((LE.length:Int)≠0)=true)(hit:Y9 LE (.p (.int I)) (HB t c N m (B++[.lst LE]))=some (.ok (.p e),HB t c N m (B++[.lst LE]))):
  Yo cf (bhL T v jt bg (some (.ref (fr B 0))) a7 a8 a9 a10 (some (.p (.int k))) a12) (HB t c N m (B++[.lst LE]))=some (.ok (.p e),HB t c N m (B++[.lst LE])):=
 Zh rfl (Zh (Zh rfl (Zh rfl rfl (Zi8 (by decide) (by decide) rfl)) rfl) (ZV rfl (Qj (k:=0) rfl)) (ZaQ d h4)) (x_it (k:=0) rfl hit)
theorem ZlS{cf:CF}{v jt:Nat}{bg:Int}{a6 a8 a9 a10 a12:Option V}{PK:List P}{E0:MObj}{k e:Nat}(hit:Y9 PK (.p (.int (k:Nat))) (HB t c N m (B++[E0,.lst PK]))=some (.ok (.p (En N T e)),HB t c N m (B++[E0,.lst PK]))):
  Yp cf (bhL T v jt bg a6 (some (.ref (fr B 1))) a8 a9 a10 (some (.p (.int (k:Nat)))) a12) (HB t c N m (B++[E0,.lst PK]))=some (.ok (.p (prt (k,e))),HB t c N m (B++[E0,.lst PK])):=
 Zz rfl (Q5 (Zh rfl rfl (x_it (k:=1) rfl hit)))
theorem ZlT{cf:CF}{v jt i e:Nat}{bg:Int}{a6 a8 a9 a10 a11:Option V}{PK:List P}{x:List Nat}{E0 E2 E3:MObj}(hv:v<3)(hxi:(Zw T 3 [])[i]?=some x)(hx3:x.length=3)(f3:Y9 PK (.p (.int (asg x v:Nat))) (HB t (Cs T) N m (B++[E0,.lst PK,E2,E3]))=some (.ok (.p (En N T e)),HB t (Cs T) N m (B++[E0,.lst PK,E2,E3]))):
  Yq cf (bhL T v jt bg a6 (some (.ref (fr B 1))) a8 a9 a10 a11 (some (.p (.int (i:Nat))))) (HB t (Cs T) N m (B++[E0,.lst PK,E2,E3]))=some (.ok (.p (sem N (asg x) e)),HB t (Cs T) N m (B++[E0,.lst PK,E2,E3])):=
 Zh (Wx (Zh rfl (Zh (Zh rfl rfl (ZW (o:=Cs T) rfl (Zv (l:=(Zw T 3 []).map Xi) (i:=i) (p:=.tuple (x.map i1P)) (by rw[List.getElem?_map,hxi];rfl)))) rfl (Ze0 hx3 hv)) (x_it (k:=1) rfl f3))) rfl (ZeM hxi)
theorem ZlQ{N':List Nd}{v r jt:Nat}{bg:Int}{LE PK PA IN TB LT:List P}(hl1:PA.dropLast=IN)(hl2:IN.length≤lim)(hl3:TB.length≤lim)(hl4:LT.length<lim)(hB:B[jt]?=some (.lst LT))
  (hL:ZaD 4 (.one 10) (Yn (Zg tab n)) (YO (Zg tab n)) (bhL T v jt bg none none none none none none none) (HB t c N m B)=some (.ok (.ref (fr B 0)),HB t c N m (B++[.lst LE])))
  (h2:ZS (Z5 Z2 [eBin addV (eBin Zd (Za 5) (Za 2)) (Zb (.int 1))]) (.one 11) ZM (Yo (Zg tab n)) (bhL T v jt bg (some (.ref (fr B 0))) none none none none none none) (HB t c N m (B++[.lst LE]))=some (.ok (.ref (fr B 1)),HB t c N m (B++[.lst LE,.lst PK])))
  (h1:ZS (Z5 Z2 [eFn (g1 lenV) [Za 7]]) (.one 11) ZM (Yp (Zg tab n)) (bhL T v jt bg (some (.ref (fr B 0))) (some (.ref (fr B 1))) none none none none none) (HB t c N m (B++[.lst LE,.lst PK]))=some (.ok (.ref (fr B 2)),HB t c N m (B++[.lst LE,.lst PK,.lst PA])))
  (hr:Zg tab n 29 [dv T,.p (.int v),.ref (fr B 3)] (HB t c N m (B++[.lst LE,.lst PK,.lst PA,.lst IN]))=some (.ok (.p (.bool true)),HB t c N m (B++[.lst LE,.lst PK,.lst PA,.frz IN])))
  (h0:ZS (Z5 Z2 [eFn (g1 lenV) [Za 1]]) (.one 12) ZM (Yq (Zg tab n)) (bhL T v jt bg (some (.ref (fr B 0))) (some (.ref (fr B 1))) (some (.ref (fr B 2))) none none none none) (HB t c N m (B++[.lst LE,.lst PK,.lst PA,.frz IN]))=some (.ok (.ref (fr B 4)),HB t c N m (B++[.lst LE,.lst PK,.lst PA,.frz IN,.lst TB])))
  (hm:Zg tab n 3 [dv T,.p (.int v),.ref (fr B 2)] (HB t c N m (B++[.lst LE,.lst PK,.lst PA,.frz IN,.lst TB]))=some (.ok (.p (.int (r:Nat))),HB t c N' m (B++[.lst LE,.lst PK,.frz PA,.frz IN,.lst TB]))):
  Zg tab (n+1) 36 [dv T,.ref 1,.p (.int v),.p (.int bg),.ref (jt+5)] (HB t c N m B)=some (.ok (.p (.bool true)),HB t c N' m (B.set jt (.lst (LT++[.tuple [.int r,.tuple TB]])))):=by
 have hjl:jt<B.length:=(List.getElem?_eq_some_iff.mp hB).1
 have g:∀N m X,(HB t c N m (B++X))[jt+5]?=some (.lst LT):=fun N m X=>by rw[YL,List.getElem?_append_left hjl];exact hB
 have ini:eOp1 ZhK (Za 8) (bhL T v jt bg (some (.ref (fr B 0))) (some (.ref (fr B 1))) (some (.ref (fr B 2))) none none none none) (HB t c N m (B++[.lst LE,.lst PK,.lst PA]))=some (.ok (.ref (fr B 3)),HB t c N m (B++[.lst LE,.lst PK,.lst PA,.lst IN])):=h_b rfl (h_l1 (l_of (x_at (k:=2) rfl)) (by rw[hl1];exact Zdb hl2))
 have ps:Wm (.ref (jt+5)) (.p (.tuple [.int r,.tuple TB])) (HB t c N' m (B++[.lst LE,.lst PK,.frz PA,.frz IN,.lst TB]))=some (.ok (),HB t c N' m (B.set jt (.lst (LT++[.tuple [.int r,.tuple TB]]))++[.lst LE,.lst PK,.frz PA,.frz IN,.lst TB])):=(WJ (g _ _ _) hl4).trans (by rw[Qf,List.set_append_left _ _ hjl])
 exact Zn rfl rfl (Zf (Zi rfl) (Zf (Zi hL) (Zf (Zi h2) (Zf (Zi h1) (Zf (ZU (ZgA (QL (Zp (Zc rfl (Zc rfl (Zc ini Zk))) hr) rfl)) rfl) (Zf (Zi (ZV h0 (WD (k:=4) rfl hl3))) (Zf (W6 rfl (g _ _ _) (Zz (ZE rfl (Zc rfl (Zc rfl Zk)) hm) rfl) ps) (ZG rfl)))))))) (ZI List.length_set.symm)
end
end
section
section
variable{t:MObj}{N:List Nd}{M:List (Ky×Nat)}{m:List (P×P)}{B:Hp}{T:List Nat}{n:Nat}
inductive BhR(t:MObj)(T:List Nat)(N:List Nd)(M:List (Ky×Nat))(B:Hp)(jt:Nat)(L:List Nat)(o:Option (R V×Hp)):Prop
 |mk (N':List Nd) (r:Nat):o=some (.ok (.p (.bool true)),HB t (Cs T) N' (memP M) (B.set jt (.lst (L.map (En N T)++[En N' T r]))))→Grow T N M N' M 1→r<N'.length→((∀k∈L,Tr T N k)→Tr T N' r)→BhR t T N M B jt L o
theorem ZdV(hT:Tops T)(W:WF T N)(O:MOk T N M)(hN:N.length<cap){v jt:Nat}{bg:Int}{L:List Nat}(hv:v<2)(hL:∀k∈L,k<N.length)(hL2:L.length≤100)(hex:∃k∈L,v<lvl N k)(hB:B[jt]?=some (.lst (L.map (En N T)))):
  BhR t T N M B jt L (Zg tab (n+4) 36 [dv T,.ref 1,.p (.int v),.p (.int bg),.ref (jt+5)] (HB t (Cs T) N (memP M) B)):=by
 have hcap:cap=90000:=rfl
 have hcl:=XO (pre:=[]) hT
 have htp:=hT.le v
 have htp1:=hT.ge v (by exact Ar.a43 hv)
 have hv3:v<3:=by exact Ar.a43 hv
 obtain⟨Lt,hLt⟩:∃Lt,L.filter (fun k=>decide (v<lvl N k))=Lt:=⟨_,rfl⟩
 have hmem:∀k∈Lt,k∈L∧v<lvl N k:=fun k hk=>by
  rw[← hLt,List.mem_filter]at hk
  exact⟨hk.1,of_decide_eq_true hk.2⟩
 have hpos:0<Lt.length:=by
  obtain⟨k,h1,h2⟩:=hex
  refine List.length_pos_of_mem (a:=k) ?_
  rw[← hLt,List.mem_filter]
  exact⟨h1,decide_eq_true h2⟩
 have hLtl:Lt.length≤100:=by rw[← hLt];exact Nat.le_trans (List.length_filter_le _ _) hL2
 obtain⟨ix,hix⟩:∃ix:Nat→Nat,∀k:Nat,Int.fmod (bg+Int.fdiv (k:Int) 2) (Lt.length:Int)=(ix k:Nat)∧ix k<Lt.length:=⟨fun k=>(Int.fmod (bg+Int.fdiv (k:Int) 2) (Lt.length:Int)).toNat,fun k=>by
  obtain⟨l,e,h⟩:=XZ (bg+Int.fdiv (k:Int) 2) Lt.length hpos
  dsimp only;rw[e,Int.toNat_natCast];exact⟨rfl,h⟩⟩
 obtain⟨g,hg⟩:∃g:Nat→Nat,∀k,Lt[ix k]?=some (g k):=⟨fun k=>Lt[ix k]'(hix k).2,fun k=>List.getElem?_eq_getElem (hix k).2⟩
 have hgm:∀k,g k∈L∧v<lvl N (g k):=fun k=>hmem _ (List.mem_iff_getElem?.mpr ⟨_,hg k⟩)
 have hgN:∀k,g k<N.length:=fun k=>hL _ (hgm k).1
 have later:=ZjH (t:=t) (c:=Cs T) (m:=memP M) (B:=B) (n:=n+1) (v:=v) (x3:=some (.p (.int bg))) hT W hL (Nat.le_trans hL2 (by decide)) hB
 rw[hLt]at later
 have tl:tp T v+1≤lim:=Nat.le_trans (Nat.succ_le_succ htp) (Wz rfl)
 have rl:(List.range (tp T v+1)).length≤lim:=by rw[List.length_range];exact tl
 have hlen:((Lt.map (En N T)).length:Int)=Lt.length:=congrArg Int.ofNat (List.length_map _)
 have c2:=Zd6 (t:=t) (c:=Cs T) (N:=N) (m:=memP M) (B:=B) (R:=[.lst (Lt.map (En N T))]) (f:=Yo (Zg tab (n+3))) (tg:=.one 11) (it:=Z5 Z2 [eBin addV (eBin Zd (Za 5) (Za 2)) (Zb (.int 1))]) (l:=bhL T v jt bg (some (.ref (fr B 0))) none none none none none none) (σ:=HB t (Cs T) N (memP M) (B++[.lst (Lt.map (En N T))])) (List.range (tp T v+1)) i1P (fun k=>En N T (g k)) (G:=fun k=>bhL T v jt bg (some (.ref (fr B 0))) none none none none (some (.p (.int (k:Nat)))) none) (Yd (Zc (Zh (Zh rfl rfl (Yv hT.len hv3)) rfl (YX rfl)) Zk) (gR1 (ZdW (by exact Ar.a34 htp)))) rl (fun _=>rfl) (fun _ _=>rfl) fun k hk=>ZlR (I:=(ix k:Nat)) (by rw[hlen];exact(hix k).1) (by rw[hlen];exact decide_eq_true fun e=>Nat.ne_of_gt hpos (Int.ofNat.inj e)) (Zv (by rw[List.getElem?_map,hg k];rfl))
 have pk:∀x,x≤tp T v→∀σ:Hp,Y9 ((List.range (tp T v+1)).map fun k=>En N T (g k)) (.p (.int (x:Nat))) σ=some (.ok (.p (En N T (g x))),σ):=fun x hx σ=>Zv (by rw[List.getElem?_map,List.getElem?_range (by exact Ar.a31 hx)];rfl)
 have c1:=Zd6 (t:=t) (c:=Cs T) (N:=N) (m:=memP M) (B:=B) (R:=[.lst (Lt.map (En N T)),.lst ((List.range (tp T v+1)).map fun k=>En N T (g k))]) (f:=Yp (Zg tab (n+3))) (tg:=.one 11) (it:=Z5 Z2 [eFn (g1 lenV) [Za 7]]) (l:=bhL T v jt bg (some (.ref (fr B 0))) (some (.ref (fr B 1))) none none none none none) (σ:=HB t (Cs T) N (memP M) (B++[.lst (Lt.map (En N T)),.lst ((List.range (tp T v+1)).map fun k=>En N T (g k))])) (List.range (tp T v+1)) i1P (fun k=>prt (k,g k)) (G:=fun k=>bhL T v jt bg (some (.ref (fr B 0))) (some (.ref (fr B 1))) none none none (some (.p (.int (k:Nat)))) none) (Yd (Zc (ZV rfl (Qj (k:=1) rfl)) Zk) (by rw[List.length_map,List.length_range];exact gR1 (congrFun (YF (by exact Ar.a34 htp)) _))) rl (fun _=>rfl) (fun _ _=>rfl) fun k hk=>ZlS (pk k (Nat.le_of_lt_succ (List.mem_range.mp hk)) _)
 obtain⟨ps,hps⟩:∃ps:List (Nat×Nat),(List.range (tp T v+1)).map (fun k=>(k,g k))=ps:=⟨_,rfl⟩
 have hPA:((List.range (tp T v+1)).map fun k=>prt (k,g k))=ps.map prt:=by rw[← hps,List.map_map];rfl
 rw[hPA]at c1
 have rise:Rise 0 ps (tp T v):=by rw[← hps,List.range_eq_range'];exact Qp _ 0 _ (Nat.zero_add _)
 have pick':∀x,x≤tp T v→pick ps x=g x:=fun x hx=>by rw[← hps,List.range_eq_range'];exact Zbr _ 0 (Nat.zero_le _) (by rw[Nat.zero_add];exact Nat.lt_succ_of_le hx)
 have hpm:∀x∈ps,x.2<N.length∧v<lvl N x.2:=fun x hx=>by
  rw[← hps]at hx
  obtain⟨k,_,rfl⟩:=List.mem_map.mp hx
  exact⟨hgN k,(hgm k).2⟩
 have hpl:ps.length=tp T v+1:=by rw[← hps,List.length_map,List.length_range]
 have hdl:ps.dropLast=(List.range (tp T v)).map fun k=>(k,g k):=by
  rw[← hps,List.range_succ,List.map_append,List.map_cons,List.map_nil,List.dropLast_concat]
 have hdn:ps.dropLast.length=tp T v:=by rw[hdl,List.length_map,List.length_range]
 have rise2:Rise 0 ps.dropLast (tp T v - 1):=by rw[hdl,List.range_eq_range'];exact Qp _ 0 _ (by rw[Nat.zero_add,Nat.sub_add_cancel htp1])
 have t3:tp T v<1000:=Nat.lt_of_le_of_lt htp (by decide)
 have rp:=ZfM (t:=t) (c:=Cs T) (N:=N) (M:=M) (B:=B++[.lst (Lt.map (En N T)),.lst ((List.range (tp T v+1)).map fun k=>En N T (g k)),.lst (ps.map prt),.lst (ps.dropLast.map prt)]) (n:=n+1) (j:=B.length+3) (v:=v) (ps:=ps.dropLast) (u:=tp T v - 1) hT hv3 rise2 (fun e=>by rw[e]at hdn;exact Nat.ne_of_gt htp1 hdn.symm) (Nat.sub_lt htp1 (Nat.succ_pos 0)) (by rw[hdn];exact t3) (.inl lt3)
 rw[ls3]at rp
 obtain⟨N',r,m1,m2⟩:=QR (t:=t) (c:=Cs T) (m:=memP M) (B:=B++[.lst (Lt.map (En N T)),.lst ((List.range (tp T v+1)).map fun k=>En N T (g k)),.lst (ps.map prt),.frz (ps.dropLast.map prt),.lst ((Zw T 3 []).map fun x=>sem N (asg x) (g (asg x v)))]) (T:=T) (n:=n+1) (j:=B.length+2) (v:=v) (ps:=ps) W hT hv3 rise hpm (Nat.lt_trans hN (Y6 rfl)) (by rw[hpl];exact Nat.lt_of_le_of_lt (Nat.succ_le_succ htp) (by decide)) (.inl lt2)
 rw[ls2]at m1
 obtain⟨E,x1,x2⟩:=m2.ext
 have hs:∀f,Fit T f→sem N' f r=sem N f (g (f v)):=fun f hf=>by
  rw[← XE m2.wf hf (i:=v),m2.pk _ (hf v),pick' _ (hf v),x1,YN (hgN _)]
 have htb:((Zw T 3 []).map fun x=>sem N (asg x) (g (asg x v)))=tb N' T r:=List.map_congr_left fun x hx=>(hs _ (Ys hx).1).symm
 have c0:=Zd6 (t:=t) (c:=Cs T) (N:=N) (m:=memP M) (B:=B) (R:=[.lst (Lt.map (En N T)),.lst ((List.range (tp T v+1)).map fun k=>En N T (g k)),.lst (ps.map prt),.frz (ps.dropLast.map prt)]) (f:=Yq (Zg tab (n+3))) (tg:=.one 12) (it:=Z5 Z2 [eFn (g1 lenV) [Za 1]]) (l:=bhL T v jt bg (some (.ref (fr B 0))) (some (.ref (fr B 1))) (some (.ref (fr B 2))) none none none none) (σ:=HB t (Cs T) N (memP M) (B++[.lst (Lt.map (En N T)),.lst ((List.range (tp T v+1)).map fun k=>En N T (g k)),.lst (ps.map prt),.frz (ps.dropLast.map prt)])) (Zw T 3 []).zipIdx (fun p=>i1P p.2) (fun p=>sem N (asg p.1) (g (asg p.1 v))) (G:=fun p=>bhL T v jt bg (some (.ref (fr B 0))) (some (.ref (fr B 1))) (some (.ref (fr B 2))) none none none (some (.p (.int (p.2:Nat))))) (Zc0 hT rfl rfl) (by rw[List.length_zipIdx];exact Zga hcl) (fun _=>rfl) (fun _ _=>rfl) fun p hp'=>by
  obtain⟨x,i⟩:=p
  have hxi:=List.mem_zipIdx_iff_getElem?.mp hp'
  obtain⟨hf,hx3⟩:=Ys (List.mem_iff_getElem?.mpr ⟨i,hxi⟩)
  exact ZlT hv3 hxi hx3 (pk _ (hf v) _)
 rw[ZdF (g:=fun x=>sem N (asg x) (g (asg x v))),htb]at c0
 rw[htb]at m1
 exact⟨N',r,ZlQ (List.map_dropLast ..).symm (by rw[List.length_map,hdn];exact Nat.le_trans (Nat.le_succ _) tl) (Zga (ZjW hT)) (by rw[List.length_map];exact Nat.lt_of_le_of_lt hL2 (Y6 (a:=100) rfl)) hB later c2 c1 rp c0 m1,⟨⟨E,x1,x2⟩,Nat.le_succ _,m2.wf,x1▸O.app⟩,m2.lt,fun ht f hf=>by
  rw[hs f hf]
  exact ht _ (hgm _).1 f hf⟩
end
end
section
noncomputable def stB0(cf:CF):SM:=(sSeq (Z8 (Z7 Zx (Za 2) [(Zq cf 32 [(Za 0),(Za 11),(Za 12)])])) Ze)
noncomputable def stB1(cf:CF):SM:=(sSeq (Z8 (Z7 Zx (Za 2) [(Zq cf 33 [(Za 0),(Za 11),(Za 12)])])) Ze)
noncomputable def stB2(cf:CF):SM:=(sSeq (Z8 (Z7 Zx (Za 2) [(Zq cf 34 [(Za 0),(Za 11)])])) Ze)
noncomputable def stB3(cf:CF):SM:=(sSeq (Z8 (Z7 Zx (Za 2) [(Zq cf 35 [(Za 0),(Za 11),(Za 12),(Za 13)])])) Ze)
noncomputable def stB4(cf:CF):SM:=(sSeq (Zj 14 (eBin modV (Za 7) (Zb (.int 3)))) (sSeq (Zj 15 (Zq cf 25 [(Za 10),(eBin divV (Za 10) (Zb (.int 20))),(eBin Zd (ZT (Za 0) 0) (Za 14))])) (sSeq (sIf (tCmp leV (eFn (g2 ZaY) [(Zq cf 23 [(eBin Zd (Za 12) (Zb (.int 1))),(ZT (Za 0) 0)]),(Zq cf 23 [(eBin Zd (Za 13) (Zb (.int 1))),(ZT (Za 0) 0)])]) (Za 14)) (sSeq (sRet (Zq cf 28 [(Za 0),(Za 14),(Za 15),(Za 12),(Za 13)])) Ze) Ze) (sSeq (Z8 (Z7 Zx (Za 2) [(Zq cf 27 [(Za 0),(Za 1),(Za 14),(Za 15),(Za 12),(Za 13)])])) Ze))))
noncomputable def stB5(cf:CF):SM:=(sSeq (sRet (Zq cf 36 [(Za 0),(Za 1),(eBin modV (Za 7) (Zb (.int 2))),(Za 8),(Za 2)])) Ze)
noncomputable def stB6(cf:CF):SM:=(sSeq (Zy [18,19] (Zm [(eBin Zd (Za 3) (eBin modV (Za 8) (eFn (g1 lenV) [(Za 3)]))),(eBin Zd (Za 3) (eBin modV (Za 9) (eFn (g1 lenV) [(Za 3)])))])) (sSeq (Z8 (Z7 Zx (Za 3) [(Zq cf 35 [(Za 0),(eBin Zd (Za 6) (eBin modV (Za 7) (eFn (g1 lenV) [(Za 6)]))),(Za 18),(Za 19)])])) Ze))
noncomputable def stB7(cf:CF):SM:=(sSeq (Zy [18,20] (Zm [(eBin Zd (Za 6) (eBin modV (Za 7) (eFn (g1 lenV) [(Za 6)]))),(eBin Zd (Za 6) (eBin modV (Za 8) (eFn (g1 lenV) [(Za 6)])))])) (sSeq (Zj 16 (eBin Zd (Zm [(Zb (.str "accept")),(Zb (.str "drop")),(Zb (.int 2)),(Zb (.int 1)),(Zb (.int 0))]) (eBin modV (Za 10) (Zb (.int 5))))) (sSeq (Zj 17 (eFn (g1 YQ) [(ZS (Z5 gZip [(eBin Zd (Za 18) (Zb (.int 1))),(eBin Zd (Za 20) (Zb (.int 1)))]) (.tup [21,22]) ZM (XK cf))])) (sSeq (Z8 (Z7 Zx (Za 3) [(Zm [(Zq cf 15 [(Za 0),(eBin Zd (Za 18) (Zb (.int 0))),(Za 16),(eBin Zd (Za 20) (Zb (.int 0)))]),(Za 17)])])) Ze))))
noncomputable def stIC(cf:CF):SM:=(sIf (tCmp eqV (Za 5) (Zb (.int 0))) (stB0 cf) (sSeq (sIf (tCmp eqV (Za 5) (Zb (.int 1))) (stB1 cf) (sSeq (sIf (tCmp eqV (Za 5) (Zb (.int 2))) (stB2 cf) (sSeq (sIf (tCmp eqV (Za 5) (Zb (.int 3))) (stB3 cf) (sSeq (sIf (tCmp eqV (Za 5) (Zb (.int 4))) (stB4 cf) (sSeq (sIf (tCmp eqV (Za 5) (Zb (.int 5))) (stB5 cf) (sSeq (sIf (tCmp eqV (Za 5) (Zb (.int 6))) (stB6 cf) (stB7 cf)) Ze)) Ze)) Ze)) Ze)) Ze)) Ze))
theorem Zgl:tab 37=some ⟨5,23,fun cf=>(sSeq (Zy [5,7,8,9,10] (Za 4)) (sSeq (Zj 5 (eBin modV (Za 5) (Zb (.int 8)))) (sSeq (Zy [11,12,13] (Zm [(eBin Zd (Za 2) (eBin modV (Za 7) (eFn (g1 lenV) [(Za 2)]))),(eBin Zd (Za 2) (eBin modV (Za 8) (eFn (g1 lenV) [(Za 2)]))),(eBin Zd (Za 2) (eBin modV (Za 9) (eFn (g1 lenV) [(Za 2)])))])) (sSeq (Zj 6 (eBin addV (Za 2) (Za 3))) (sSeq (stIC cf) (sSeq (sRet (Zb (.bool true))) Ze))))))⟩:=rfl
theorem x_nm{l:Loc}{i:Nat}{v:V}{σ:Hp}(h:l[i]?=some (some v)):Za i l σ=some (.ok v,σ):=by unfold Za;rw[h];rfl
theorem Xy{α:Type}{l:Loc}{σ:Hp}{i k h:Nat}{L:List α}{f:α→P}{p:Int}(h1:l[i]?=some (some (.ref h)))(h2:σ[h]?=some (.lst (L.map f)))(hk:l[k]?=some (some (.p (.int p))))(hne:0<L.length):∃x∈L,eBin Zd (Za i) (eBin modV (Za k) (eFn (g1 lenV) [Za i])) l σ=some (.ok (.p (f x)),σ):=by
 obtain⟨m,e,hm⟩:=XZ p L.length hne
 exact⟨L[m],List.getElem_mem hm,Zh (x_nm h1) (Zh (x_nm hk) (ZV (x_nm h1) (ZW h2 rfl)) (ZaQ (by rw[List.length_map];exact decide_eq_true (by exact Ar.a168 hm)) (by rw[List.length_map];exact e))) (ZW h2 (Zv (by rw[List.getElem?_map,List.getElem?_eq_getElem hm];rfl)))⟩
theorem Zc6{l:Loc}{σ σ':Hp}{i j:Nat}{F:Fn}{LL L0:List P}{x:P}(h1:l[i]?=some (some (.ref j)))(h0:σ[j]?=some (.lst L0))(hF:F l σ=some (.ok (.p x),σ'))(h2:σ'[j]?=some (.lst LL))(hl:LL.length<lim):sSeq (Z8 (Z7 Zx (Za i) [F])) Ze l σ=some (.ok .next,l,σ'.set j (.lst (LL++[x]))):=
 Zf (W6 (x_nm h1) h0 hF (WJ h2 hl)) rfl
section
variable{t c:MObj}{N:List Nd}{m:List (P×P)}{B X:Hp}
theorem Znl{t' c':MObj}{N':List Nd}{m':List (P×P)}:(HB t c N m X).take (HB t' c' N' m' B).length=HB t c N m (X.take B.length):=by simp[HB]
end
end
section
section
variable{t:MObj}{N N':List Nd}{M M':List (Ky×Nat)}{L Vs L' Vs':List Nat}{B B':Hp}{T:List Nat}{n jt jv je js:Nat}
structure Sx(T:List Nat)(N:List Nd)(M:List (Ky×Nat))(L Vs:List Nat):Prop where
 wf:WF T N
 mok:MOk T N M
 ltL:∀k∈L,k<N.length
 tr:∀k∈L,Tr T N k
 ltV:∀k∈Vs,k<N.length
 ex:∃k∈L,2≤lvl N k
 nv:0<Vs.length
structure Post(T:List Nat)(N:List Nd)(M:List (Ky×Nat))(L Vs:List Nat)(jt jv:Nat)(B:Hp)(N':List Nd)(M':List (Ky×Nat))(L' Vs':List Nat)(B':Hp):Prop where
 gr:Grow T N M N' M' 24
 st:Sx T N' M' L' Vs'
 len:B.length≤B'.length
 hl:B'[jt]?=some (.lst (L'.map (En N' T)))
 hv:B'[jv]?=some (.lst (Vs'.map (En N' T)))
 lL:L'.length≤L.length+1
 lV:Vs'.length≤Vs.length+1
 gL:L.length≤L'.length
structure Hy(T:List Nat)(N:List Nd)(M:List (Ky×Nat))(L Vs:List Nat)(jt jv:Nat)(B:Hp):Prop where
 st:Sx T N M L Vs
 hN:N.length+24≤cap
 hM:M.length+24≤cap
 lL:L.length<100
 lV:Vs.length<100
 hl:B[jt]?=some (.lst (L.map (En N T)))
 hv:B[jv]?=some (.lst (Vs.map (En N T)))
 ne:jt≠jv
theorem Xk{g:Nat}(h:Grow T N M N' M' g)(hL:∀k∈L,k<N.length):L.map (En N T)=L.map (En N' T):=List.map_congr_left fun k hk=>(h.En (hL k hk)).symm
theorem Sx.grow{g:Nat}(S:Sx T N M L Vs)(h:Grow T N M N' M' g):Sx T N' M' L Vs:=⟨h.wf,h.mok,fun k hk=>Nat.lt_of_lt_of_le (S.ltL k hk) h.len.1,fun k hk=>h.Tr (S.ltL k hk) (S.tr k hk),fun k hk=>Nat.lt_of_lt_of_le (S.ltV k hk) h.len.1,(by
 obtain⟨k,h1,h2⟩:=S.ex
 exact⟨k,h1,by rw[h.lvl (S.ltL k h1)];exact h2⟩),S.nv⟩
theorem Post.same(H:Hy T N M L Vs jt jv B):Post T N M L Vs jt jv B N M L Vs B:=⟨.refl H.st.wf H.st.mok 24,H.st,Nat.le_refl _,H.hl,H.hv,by exact Ar.a6,by exact Ar.a6,Nat.le_refl _⟩
theorem Sx.push{r:Nat}(S:Sx T N M L Vs)(hr:r<N.length)(ht:Tr T N r):Sx T N M (L++[r]) Vs:=⟨S.wf,S.mok,fun k hk=>by
  rcases List.mem_append.mp hk with h|h
  ·exact S.ltL k h
  ·rw[List.mem_singleton.mp h];exact hr,fun k hk=>by
  rcases List.mem_append.mp hk with h|h
  ·exact S.tr k h
  ·rw[List.mem_singleton.mp h];exact ht,S.ltV,(by
 obtain⟨k,h1,h2⟩:=S.ex
 exact⟨k,List.mem_append_left _ h1,h2⟩),S.nv⟩
theorem Sx.pushV{r:Nat}(S:Sx T N M L Vs)(hr:r<N.length):Sx T N M L (Vs++[r]):=⟨S.wf,S.mok,S.ltL,S.tr,fun k hk=>by
  rcases List.mem_append.mp hk with h|h
  ·exact S.ltV k h
  ·rw[List.mem_singleton.mp h];exact hr,S.ex,by simp⟩
theorem Post.addL{r:Nat}(H:Hy T N M L Vs jt jv B)(g:Grow T N M N' M' 24)(hr:r<N'.length)(ht:Tr T N' r):Post T N M L Vs jt jv B N' M' (L++[r]) Vs (B.set jt (.lst (L.map (En N T)++[En N' T r]))):=by
 have hlt:jt<B.length:=(List.getElem?_eq_some_iff.mp H.hl).1
 refine⟨g,(H.st.grow g).push hr ht,by simp,?_,?_,by simp,by exact Ar.a6,by simp⟩
 ·rw[List.getElem?_set_self hlt,Xk g H.st.ltL,List.map_append];rfl
 ·rw[List.getElem?_set_ne H.ne,H.hv,Xk g H.st.ltV]
theorem Post.addV{r:Nat}(H:Hy T N M L Vs jt jv B)(g:Grow T N M N' M' 24)(hr:r<N'.length):Post T N M L Vs jt jv B N' M' L (Vs++[r]) (B.set jv (.lst (Vs.map (En N T)++[En N' T r]))):=by
 have hlt:jv<B.length:=(List.getElem?_eq_some_iff.mp H.hv).1
 refine⟨g,(H.st.grow g).pushV hr,by simp,?_,?_,by exact Ar.a6,by simp,Nat.le_refl _⟩
 ·rw[List.getElem?_set_ne (fun e=>H.ne e.symm),H.hl,Xk g H.st.ltL]
 ·rw[List.getElem?_set_self hlt,Xk g H.st.ltV,List.map_append];rfl
theorem Hy.more(H:Hy T N M L Vs jt jv B){X:Hp}:Hy T N M L Vs jt jv (B++X):=⟨H.st,H.hN,H.hM,H.lL,H.lV,by rw[List.getElem?_append_left (List.getElem?_eq_some_iff.mp H.hl).1];exact H.hl,by rw[List.getElem?_append_left (List.getElem?_eq_some_iff.mp H.hv).1];exact H.hv,H.ne⟩
theorem Post.less{X:Hp}(P:Post T N M L Vs jt jv (B++X) N' M' L' Vs' B'):Post T N M L Vs jt jv B N' M' L' Vs' B':=⟨P.gr,P.st,by have:=P.len;rw[List.length_append]at this;exact Ar.n3 (.im (.l (.p (.v 0) (.v 2)) (.v 1)) (.l (.v 0) (.v 1))) (by kernel_rfl) this,P.hl,P.hv,P.lL,P.lV,P.gL⟩
noncomputable def stL(T:List Nat)(jt jv js je:Nat)(kk p q r s:Int)(a b c:P):Loc:=[some (dv T),some (.ref 1),some (.ref (jt+5)),some (.ref (jv+5)),some (.ref (js+5)),some (.p (.int kk)),some (.ref (je+5)),some (.p (.int p)),some (.p (.int q)),some (.p (.int r)),some (.p (.int s)),some (.p a),some (.p b),some (.p c),none,none,none,none,none,none,none,none,none]
inductive Brn(T:List Nat)(t:MObj)(N:List Nd)(M:List (Ky×Nat))(L Vs:List Nat)(jt jv:Nat)(B:Hp)(m:SM)(l:Loc):Prop
 |mk (o:Out) (l':Loc) (N':List Nd) (M':List (Ky×Nat)) (L' Vs':List Nat) (B':Hp):m l (HB t (Cs T) N (memP M) B)=some (.ok o,l',HB t (Cs T) N' (memP M') B')→(o=.next∨o=.ret (.p (.bool true)))→Post T N M L Vs jt jv B N' M' L' Vs' B'→Brn T t N M L Vs jt jv B m l
theorem Zc3{l:Loc}{F:Fn}{r:Nat}(H:Hy T N M L Vs jt jv B)(g:Grow T N M N' M' 24)(hr:r<N'.length)(ht:Tr T N' r)(hl:l[2]?=some (some (.ref (jt+5))))(hF:F l (HB t (Cs T) N (memP M) B)=some (.ok (.p (En N' T r)),HB t (Cs T) N' (memP M') B)):Brn T t N M L Vs jt jv B (sSeq (Z8 (Z7 Zx (Za 2) [F])) Ze) l:=
 have hlim:=ZO
 have:=H.lL
 ⟨.next,_,N',M',L++[r],Vs,_,Zc6 hl (YL.trans H.hl) hF (YL.trans H.hl) (by simp;exact Ar.a55 hlim this),.inl rfl,.addL H g hr ht⟩
theorem Zis{l:Loc}{F:Fn}{r:Nat}(H:Hy T N M L Vs jt jv B)(g:Grow T N M N' M' 24)(hr:r<N'.length)(hl:l[3]?=some (some (.ref (jv+5))))(hF:F l (HB t (Cs T) N (memP M) B)=some (.ok (.p (En N' T r)),HB t (Cs T) N' (memP M') B)):Brn T t N M L Vs jt jv B (sSeq (Z8 (Z7 Zx (Za 3) [F])) Ze) l:=
 have hlim:=ZO
 have:=H.lV
 ⟨.next,_,N',M',L,Vs++[r],_,Zc6 hl (YL.trans H.hv) hF (YL.trans H.hv) (by simp;exact Ar.a55 hlim this),.inl rfl,.addV H g hr⟩
variable{kk p q r s:Int}{a b c:Nat}
theorem br0(hT:Tops T)(H:Hy T N M L Vs jt jv B)(ha:a∈L)(hb:b∈L):Brn T t N M L Vs jt jv B (stB0 (Zg tab (n+10))) (stL T jt jv js je kk p q r s (En N T a) (En N T b) (En N T c)):=by
 obtain⟨N',M',x,e,g,hr,ht⟩:=ZcQ (t:=t) (c:=Cs T) (B:=B) (n:=n) hT H.st.wf H.st.mok (H.st.ltL a ha) (H.st.ltL b hb) (H.st.tr a ha) (H.st.tr b hb) H.hN H.hM
 exact Zc3 H g hr ht rfl (Zp (Zc rfl (Zc rfl (Zc rfl Zk))) e)
theorem br1(hT:Tops T)(H:Hy T N M L Vs jt jv B)(ha:a∈L)(hb:b∈L):Brn T t N M L Vs jt jv B (stB1 (Zg tab (n+10))) (stL T jt jv js je kk p q r s (En N T a) (En N T b) (En N T c)):=by
 obtain⟨N',M',x,e,g,hr,ht⟩:=Zan (t:=t) (c:=Cs T) (B:=B) (n:=n) hT H.st.wf H.st.mok (H.st.ltL a ha) (H.st.ltL b hb) (H.st.tr a ha) (H.st.tr b hb) H.hN H.hM
 exact Zc3 H g hr ht rfl (Zp (Zc rfl (Zc rfl (Zc rfl Zk))) e)
theorem br2(hT:Tops T)(H:Hy T N M L Vs jt jv B)(ha:a∈L):Brn T t N M L Vs jt jv B (stB2 (Zg tab (n+10))) (stL T jt jv js je kk p q r s (En N T a) (En N T b) (En N T c)):=by
 obtain⟨N',M',x,e,g,hr,ht⟩:=XF (t:=t) (c:=Cs T) (B:=B) (n:=n) hT H.st.wf H.st.mok (H.st.ltL a ha) (H.st.tr a ha) H.hN H.hM
 exact Zc3 H g hr ht rfl (Zp (Zc rfl (Zc rfl Zk)) e)
theorem br3(hT:Tops T)(H:Hy T N M L Vs jt jv B)(ha:a∈L)(hb:b∈L)(hc:c∈L):Brn T t N M L Vs jt jv B (stB3 (Zg tab (n+10))) (stL T jt jv js je kk p q r s (En N T a) (En N T b) (En N T c)):=by
 have:=H.hN
 have:=H.hM
 obtain⟨N',M',x,e,g,hr,ht⟩:=Zao (t:=t) (c:=Cs T) (B:=B) (n:=n+1) hT H.st.wf H.st.mok (H.st.ltL a ha) (H.st.ltL b hb) (H.st.ltL c hc) (by exact Ar.a13 (by assumption)) (by exact Ar.a13 this)
 exact Zc3 H (g.weak (by exact Ar.a83)) hr (ht (H.st.tr b hb) (H.st.tr c hc)) rfl (Zp (Zc rfl (Zc rfl (Zc rfl (Zc rfl Zk)))) e)
theorem br5(hT:Tops T)(H:Hy T N M L Vs jt jv B):Brn T t N M L Vs jt jv B (stB5 (Zg tab (n+10))) (stL T jt jv js je kk p q r s (En N T a) (En N T b) (En N T c)):=by
 have:=H.hN
 have:=H.lL
 obtain⟨v,e0,hv⟩:=XZ p 2 (by exact Ar.a53)
 obtain⟨N',x,e,g,hr,ht⟩:=ZdV (t:=t) (n:=n+6) (bg:=q) hT H.st.wf H.st.mok (by exact Ar.a37 (by assumption)) hv H.st.ltL (by exact Ar.n1 (.im (.t (.v 0) (.k 100)) (.l (.v 0) (.k 100))) (by kernel_rfl) this) (by obtain⟨k,h1,h2⟩:=H.st.ex;exact⟨k,h1,by exact Ar.n2 (.im (.l (.k 2) (.v 1)) (.im (.t (.v 0) (.k 2)) (.t (.v 0) (.v 1)))) (by kernel_rfl) h2 hv⟩) H.hl
 exact⟨.ret (.p (.bool true)),_,N',M,L++[x],Vs,_,ZG (Zp (Zc rfl (Zc rfl (Zc (Zh rfl rfl (ZaQ (by decide) e0)) (Zc rfl (Zc rfl Zk))))) e),.inr rfl,.addL H (g.weak (by exact Ar.a169)) hr (ht H.st.tr)⟩
end
end
section
section
variable{t:MObj}{N N':List Nd}{M M':List (Ky×Nat)}{L Vs L' Vs':List Nat}{B B':Hp}{T:List Nat}{n jt jv je js:Nat}
variable{kk p q r s:Int}{a b c:Nat}
theorem br4(hT:Tops T)(H:Hy T N M L Vs jt jv B)(hb:b∈L)(hc:c∈L):Brn T t N M L Vs jt jv B (stB4 (Zg tab (n+10))) (stL T jt jv js je kk p q r s (En N T a) (En N T b) (En N T c)):=by
 have W:=H.st.wf
 have hbN:=H.st.ltL b hb
 have hcN:=H.st.ltL c hc
 obtain⟨v,e0,hv⟩:=XZ p 3 (by decide)
 obtain⟨l1,h1,l2,h2,a1,a2,e25⟩:=Zbp (t:=t) (c:=Cs T) (N:=N) (m:=memP M) (B:=B) (n:=n+9) (x:=s) (y:=Int.fdiv s 20) (top:=tp T v) (hT.le v)
 have H2:Hy T N M L Vs jt jv (B++[.lst [prt (l1,h1),prt (l2,h2)]]):=H.more
 have lv:∀k (l:Loc) (f g:Fn),k<N.length→f l (HB t (Cs T) N (memP M) (B++[.lst [prt (l1,h1),prt (l2,h2)]]))=some (.ok (.p (En N T k)),HB t (Cs T) N (memP M) (B++[.lst [prt (l1,h1),prt (l2,h2)]]))→g l (HB t (Cs T) N (memP M) (B++[.lst [prt (l1,h1),prt (l2,h2)]]))=some (.ok (.p (.tuple (TPs T))),HB t (Cs T) N (memP M) (B++[.lst [prt (l1,h1),prt (l2,h2)]]))→Zq (Zg tab (n+10)) 23 [eBin Zd f (Zb (.int 1)),g] l (HB t (Cs T) N (memP M) (B++[.lst [prt (l1,h1),prt (l2,h2)]]))=some (.ok (.p (.int (lvl N k:Nat))),HB t (Cs T) N (memP M) (B++[.lst [prt (l1,h1),prt (l2,h2)]])):=fun k l f g hk hf hg=>by
  have lv:=Qo (t:=t) (c:=Cs T) (m:=memP M) (B:=B++[.lst [prt (l1,h1),prt (l2,h2)]]) (n:=n+8) (k:=k) hT W hk
  rw[QN W hk]at lv
  exact Zp (Zc (Wx hf) (Zc hg Zk)) lv
 have s1:=Zi (i:=14) (Zh (f:=Za 7) (g:=Zb (.int 3)) (l:=stL T jt jv js je kk p q r s (En N T a) (En N T b) (En N T c)) (σ:=HB t (Cs T) N (memP M) B) rfl rfl (ZaQ (by decide) e0))
 have s2:=Zi (i:=15) (Zp (fs:=[Za 10,eBin divV (Za 10) (Zb (.int 20)),eBin Zd (ZT (Za 0) 0) (Za 14)]) (l:=(stL T jt jv js je kk p q r s (En N T a) (En N T b) (En N T c)).set 14 (some (.p (.int v)))) (Zc rfl (Zc (Zh rfl rfl (Zi8 (by decide) (by decide) rfl)) (Zc (Zh rfl rfl (Yv hT.len hv)) Zk))) e25)
 have s3:∀{b0:Bool},decide (min (lvl N b) (lvl N c)≤v)=b0→tCmp leV (eFn (g2 ZaY) [Zq (Zg tab (n+10)) 23 [eBin Zd (Za 12) (Zb (.int 1)),ZT (Za 0) 0],Zq (Zg tab (n+10)) 23 [eBin Zd (Za 13) (Zb (.int 1)),ZT (Za 0) 0]]) (Za 14) (((stL T jt jv js je kk p q r s (En N T a) (En N T b) (En N T c)).set 14 (some (.p (.int v)))).set 15 (some (.ref (fr B 0)))) _=some (.ok b0,_):=fun h=>Zo (ZaR (lv b _ _ _ hbN rfl rfl) (lv c _ _ _ hcN rfl rfl) Q4) rfl (x_dc (Zer.trans h))
 by_cases hm:min (lvl N b) (lvl N c)≤v
 ·exact⟨_,_,N,M,L,Vs,_,Zf s1 (Zf s2 (Ye (Y4 (s3 (decide_eq_true hm)) (ZG (Zp (Zc rfl (Zc rfl (Zc rfl (Zc rfl (Zc rfl Zk))))) (Zhg hT hbN hcN hm)))))),.inr rfl,(Post.same H2).less⟩
 ·have hm':=Nat.lt_of_not_le hm
  cases Zbn (t:=t) (B:=B++[.lst [prt (l1,h1),prt (l2,h2)]]) (n:=n+6) (j:=B.length) hT W H.st.mok hv hbN hcN (Nat.lt_of_lt_of_le hm' (Nat.min_le_left _ _)) (Nat.lt_of_lt_of_le hm' (Nat.min_le_right _ _)) (Nat.lt_of_lt_of_le (Nat.lt_add_of_pos_right (by decide)) H.hN) a1 a2 (.inl lt0)with
  |mk N' x e g hr hlv ht=>
   rw[ls0]at e
   have P0:=Post.addL (H.more (X:=[MObj.frz [prt (l1,h1),prt (l2,h2)]])) (g.weak (by exact Ar.a169)) hr (ht (H.st.tr b hb) (H.st.tr c hc))
   exact⟨_,_,N',M,L++[x],Vs,_,Zf s1 (Zf s2 (Zf (ZU (s3 (decide_eq_false hm)) rfl) (Zc6 (LL:=L.map (En N T)) (j:=jt+5) rfl (YL.trans H2.hl) (Zp (Zc rfl (Zc rfl (Zc rfl (Zc rfl (Zc rfl (Zc rfl Zk)))))) e) (YL.trans (H.more (X:=[MObj.frz [prt (l1,h1),prt (l2,h2)]])).hl) (by rw[List.length_map];exact Nat.lt_trans H.lL (Y6 (a:=100) rfl))))),.inl rfl,P0.less⟩
theorem br6(hT:Tops T)(H:Hy T N M L Vs jt jv B)(hje:B[je]?=some (.lst ((L++Vs).map (En N T)))):Brn T t N M L Vs jt jv B (stB6 (Zg tab (n+10))) (stL T jt jv js je kk p q r s (En N T a) (En N T b) (En N T c)):=by
 have hp:=H.st.nv
 obtain⟨y,y1,y2⟩:=Xy (l:=stL T jt jv js je kk p q r s (En N T a) (En N T b) (En N T c)) (σ:=HB t (Cs T) N (memP M) B) (i:=3) (k:=8) (h:=jv+5) (f:=En N T) (L:=Vs) rfl H.hv rfl hp
 obtain⟨z,z1,z2⟩:=Xy (l:=stL T jt jv js je kk p q r s (En N T a) (En N T b) (En N T c)) (σ:=HB t (Cs T) N (memP M) B) (i:=3) (k:=9) (h:=jv+5) (f:=En N T) (L:=Vs) rfl H.hv rfl hp
 obtain⟨x,x1,x2⟩:=Xy (l:=((stL T jt jv js je kk p q r s (En N T a) (En N T b) (En N T c)).set 18 (some (.p (En N T y)))).set 19 (some (.p (En N T z)))) (σ:=HB t (Cs T) N (memP M) B) (i:=6) (k:=7) (h:=je+5) (f:=En N T) (L:=L++Vs) rfl hje rfl (by rw[List.length_append];exact Nat.lt_of_lt_of_le hp (Nat.le_add_left _ _))
 have hx:x<N.length:=(List.mem_append.mp x1).elim (H.st.ltL x) (H.st.ltV x)
 cases Zao (t:=t) (c:=Cs T) (B:=B) (n:=n+1) hT H.st.wf H.st.mok hx (H.st.ltV y y1) (H.st.ltV z z1) (by have:=H.hN;exact Ar.a13 this) (by have:=H.hM;exact Ar.a13 this)with
 |mk N' M' w e g hr ht=>
  cases Zis (t:=t) H (g.weak (by exact Ar.a83)) hr (l:=((stL T jt jv js je kk p q r s (En N T a) (En N T b) (En N T c)).set 18 (some (.p (En N T y)))).set 19 (some (.p (En N T z)))) (F:=Zq (Zg tab (n+10)) 35 [Za 0,eBin Zd (Za 6) (eBin modV (Za 7) (eFn (g1 lenV) [Za 6])),Za 18,Za 19]) rfl (Zp (Zc rfl (Zc x2 (Zc rfl (Zc rfl Zk)))) e)with
  |mk o l' N' M' L' Vs' B' e ho P=>exact⟨o,l',N',M',L',Vs',B',Zf (ZD (Zz y2 z2) rfl) e,ho,P⟩
end
end
section
theorem Zn3{l:Loc}{σ:Hp}{s:Int}(h:l[10]?=some (some (.p (.int s)))):∃w:P,ZK w=true∧eBin Zd (Zm [Zb (.str "accept"),Zb (.str "drop"),Zb (.int 2),Zb (.int 1),Zb (.int 0)]) (eBin modV (Za 10) (Zb (.int 5))) l σ=some (.ok (.p w),σ):=by
 obtain⟨m,e0,hm⟩:=XZ s 5 (by decide)
 have key:∀w:P,[PyData.str "accept",.str "drop",.int 2,.int 1,.int 0][m]?=some w→eBin Zd (Zm [Zb (.str "accept"),Zb (.str "drop"),Zb (.int 2),Zb (.int 1),Zb (.int 0)]) (eBin modV (Za 10) (Zb (.int 5))) l σ=some (.ok (.p w),σ):=fun w hw=>
  Zh (ZcB (Zc rfl (Zc rfl (Zc rfl (Zc rfl (Zc rfl Zk))))) rfl rfl) (Zh (x_nm h) rfl (ZaQ (by decide) e0)) (Zv hw)
 have hm':m<[PyData.str "accept",.str "drop",.int 2,.int 1,.int 0].length:=hm
 exact⟨_,List.all_eq_true.mp (show[PyData.str "accept",.str "drop",.int 2,.int 1,.int 0].all ZK=true from rfl) _ (List.getElem_mem hm'),key _ (List.getElem?_eq_getElem hm')⟩
section
variable{t:MObj}{N N':List Nd}{M M':List (Ky×Nat)}{L Vs L' Vs':List Nat}{B B':Hp}{T:List Nat}{n jt jv je js:Nat}
variable{kk p q r s:Int}{a b c:Nat}
theorem br7(hT:Tops T)(H:Hy T N M L Vs jt jv B)(hje:B[je]?=some (.lst ((L++Vs).map (En N T)))):Brn T t N M L Vs jt jv B (stB7 (Zg tab (n+10))) (stL T jt jv js je kk p q r s (En N T a) (En N T b) (En N T c)):=by
 have hp:0<(L++Vs).length:=by rw[List.length_append];exact Nat.lt_of_lt_of_le H.st.nv (Nat.le_add_left _ _)
 obtain⟨x,x1,x2⟩:=Xy (l:=stL T jt jv js je kk p q r s (En N T a) (En N T b) (En N T c)) (σ:=HB t (Cs T) N (memP M) B) (i:=6) (k:=7) (h:=je+5) (f:=En N T) (L:=L++Vs) rfl hje rfl hp
 obtain⟨y,y1,y2⟩:=Xy (l:=stL T jt jv js je kk p q r s (En N T a) (En N T b) (En N T c)) (σ:=HB t (Cs T) N (memP M) B) (i:=6) (k:=8) (h:=je+5) (f:=En N T) (L:=L++Vs) rfl hje rfl hp
 have hx:x<N.length:=(List.mem_append.mp x1).elim (H.st.ltL x) (H.st.ltV x)
 have hy:y<N.length:=(List.mem_append.mp y1).elim (H.st.ltL y) (H.st.ltV y)
 obtain⟨w,w1,w2⟩:=Zn3 (l:=((stL T jt jv js je kk p q r s (En N T a) (En N T b) (En N T c)).set 18 (some (.p (En N T x)))).set 20 (some (.p (En N T y)))) (σ:=HB t (Cs T) N (memP M) B) (s:=s) rfl
 have W:=H.st.wf
 have s17:=ZbY (t:=t) (c:=Cs T) (N':=N) (m:=memP M) (B:=B) hT (f:=XK (Zg tab (n+10))) (tg:=.tup [21,22]) (it:=Z5 gZip [eBin Zd (Za 18) (Zb (.int 1)),eBin Zd (Za 20) (Zb (.int 1))]) (l:=(((stL T jt jv js je kk p q r s (En N T a) (En N T b) (En N T c)).set 18 (some (.p (En N T x)))).set 20 (some (.p (En N T y)))).set 16 (some (.p w))) (inj:=fun c=>.tuple [sem N (asg c) x,sem N (asg c) y]) (out:=fun c=>if PyData.eqv (sem N (asg c) x) w then sem N (asg c) y else sem N (asg c) x) (G:=fun z=>((((((stL T jt jv js je kk p q r s (En N T a) (En N T b) (En N T c)).set 18 (some (.p (En N T x)))).set 20 (some (.p (En N T y)))).set 16 (some (.p w)))).set 21 (some (.p (sem N (asg z) x)))).set 22 (some (.p (sem N (asg z) y)))) ((ZjM (Wx rfl) (Wx rfl) ZbX).trans (congrArg (fun z=>some (R.ok z,_)) ZbN)) (fun _=>rfl) (fun _ _=>rfl) fun z hz=>by
  refine ZcD (Zo rfl rfl (YT (Yz (QQ W (Ys hz).1 hx) w))) ?_
  cases PyData.eqv (sem N (asg z) x) w<;>rfl
 obtain⟨TB,hTB⟩:∃TB,(Zw T 3 []).map (fun c=>if PyData.eqv (sem N (asg c) x) w then sem N (asg c) y else sem N (asg c) x)=TB:=⟨_,rfl⟩
 rw[hTB]at s17
 obtain⟨N',M',z,e,g,hr⟩:=Zmv (t:=t) (c:=Cs T) (B:=B++[.lst TB]) (n:=n+2) hT w1 W H.st.mok hx hy (by have:=H.hN;exact Ar.a13 this) (by have:=H.hM;exact Ar.a13 this)
 have hE:En N' T z=.tuple [.int z,.tuple TB]:=by
  rw[← hTB,En,tb]
  exact congrArg (fun l=>PyData.tuple [.int z,.tuple l]) (List.map_congr_left fun c hc=>by rw[hr.sm _ (Ys hc).1];simp only[kyV,g.sem hx,g.sem hy])
 cases Zis (t:=t) (H.more (X:=[.lst TB])) (g.weak (by exact Ar.a83)) hr.lt (l:=((((stL T jt jv js je kk p q r s (En N T a) (En N T b) (En N T c)).set 18 (some (.p (En N T x)))).set 20 (some (.p (En N T y)))).set 16 (some (.p w))).set 17 (some (.p (.tuple TB)))) rfl (F:=Zm [Zq (Zg tab (n+10)) 15 [Za 0,eBin Zd (Za 18) (Zb (.int 0)),Za 16,eBin Zd (Za 20) (Zb (.int 0))],Za 17]) ((Zz (Zp (Zc rfl (Zc (Q5 rfl) (Zc rfl (Zc (Q5 rfl) Zk)))) e) rfl).trans (by rw[hE]))with
 |mk o l' N' M' L' Vs' B' e ho P=>exact⟨o,l',N',M',L',Vs',B',Zf (ZD (Zz x2 y2) rfl) (Zf (Zi w2) (Zf (Zi s17) e)),ho,P.less⟩
end
end
section
theorem Zg6{f:Fn}{l l':Loc}{σ σ1 σ':Hp}{v:V}{is:List Nat}{ps:List P}(h:f l σ=some (.ok v,σ1))(hv:asP v σ1=some (.ok (.list ps),σ'))(k:Wy is ps l=some l'):Zy is f l σ=some (.ok .next,l',σ'):=
 h_sl (a:=.list ps) (σ1:=σ') (h_b h hv) (by
  show(Wy is ps l).map (fun l'=>(Mine.R.ok Out.next,l',σ'))=_
  rw[k];rfl)
section
variable{t:MObj}{N N':List Nd}{M M':List (Ky×Nat)}{L Vs L' Vs':List Nat}{B B':Hp}{T:List Nat}{n jt jv je js:Nat}
variable{kk k0 p q r s u:Int}{a b c:Nat}{m m':SM}{l:Loc}
theorem brNx(h:Brn T t N M L Vs jt jv B m l):Brn T t N M L Vs jt jv B (sSeq m Ze) l:=by
 cases h with
 |mk o l' N' M' L' Vs' B' e ho P=>
  rcases ho with rfl|rfl
  ·exact⟨_,l',N',M',L',Vs',B',Zf e rfl,.inl rfl,P⟩
  ·exact⟨_,l',N',M',L',Vs',B',Ye e,.inr rfl,P⟩
theorem brIf(h:l[5]?=some (some (.p (.int kk))))(h1:Brn T t N M L Vs jt jv B m l)(h2:Brn T t N M L Vs jt jv B m' l):Brn T t N M L Vs jt jv B (sIf (tCmp eqV (Za 5) (Zb (.int u))) m m') l:=by
 by_cases e:kk=u
 ·cases h1 with|mk o l' N' M' L' Vs' B' e1 ho P=>exact⟨_,l',N',M',L',Vs',B',Y4 (Zo (x_nm h) rfl (x_eq (decide_eq_true e))) e1,ho,P⟩
 ·cases h2 with|mk o l' N' M' L' Vs' B' e1 ho P=>exact⟨_,l',N',M',L',Vs',B',ZU (Zo (x_nm h) rfl (x_eq (decide_eq_false e))) e1,ho,P⟩
theorem brIC(hT:Tops T)(H:Hy T N M L Vs jt jv B)(hje:B[je]?=some (.lst ((L++Vs).map (En N T))))(ha:a∈L)(hb:b∈L)(hc:c∈L):Brn T t N M L Vs jt jv B (stIC (Zg tab (n+10))) (stL T jt jv js je kk p q r s (En N T a) (En N T b) (En N T c)):=by
 unfold stIC
 exact brIf rfl (br0 hT H ha hb) (brNx (brIf rfl (br1 hT H ha hb) (brNx (brIf rfl (br2 hT H ha) (brNx (brIf rfl (br3 hT H ha hb hc) (brNx (brIf rfl (br4 hT H hb hc) (brNx (brIf rfl (br5 hT H) (brNx (brIf rfl (br6 hT H hje) (br7 hT H hje)))))))))))))
inductive StR(T:List Nat)(t:MObj)(N:List Nd)(M:List (Ky×Nat))(L Vs:List Nat)(jt jv:Nat)(B:Hp)(o:Option (R V×Hp)):Prop
 |mk (N':List Nd) (M':List (Ky×Nat)) (L' Vs':List Nat) (B':Hp):o=some (.ok (.p (.bool true)),HB t (Cs T) N' (memP M') B')→Post T N M L Vs jt jv B N' M' L' Vs' B'→StR T t N M L Vs jt jv B o
theorem Zjg(hT:Tops T)(H:Hy T N M L Vs jt jv B)(hjs:B[js]?=some (.lst [.int k0,.int p,.int q,.int r,.int s]))(n1:js≠jt)(n2:js≠jv):StR T t N M L Vs jt jv B (Zg tab (n+11) 37 [dv T,.ref 1,.ref (jt+5),.ref (jv+5),.ref (js+5)] (HB t (Cs T) N (memP M) B)):=by
 obtain⟨B1,hB1⟩:∃B1,B.set js (.frz [.int k0,.int p,.int q,.int r,.int s])=B1:=⟨_,rfl⟩
 have hlen:B1.length=B.length:=by rw[← hB1,List.length_set]
 have H1:Hy T N M L Vs jt jv B1:=⟨H.st,H.hN,H.hM,H.lL,H.lV,by rw[← hB1,List.getElem?_set_ne n1];exact H.hl,by rw[← hB1,List.getElem?_set_ne n2];exact H.hv,H.ne⟩
 have hpos:0<L.length:=H.st.ex.elim fun k h=>List.length_pos_of_mem h.1
 have sl:=ZjZ (t:=t) (c:=Cs T) (N:=N) (m:=memP M) (.inl hjs)
 rw[hB1]at sl
 have pick:=fun(l:Loc) (k:Nat) (p:Int) (h1:l[2]?=some (some (.ref (jt+5)))) (h2:l[k]?=some (some (.p (.int p))))=>Xy (l:=l) (σ:=HB t (Cs T) N (memP M) B1) (i:=2) (k:=k) (h:=jt+5) (f:=En N T) (L:=L) h1 H1.hl h2 hpos
 obtain⟨l5,hl5⟩:∃l5:Loc,l5=[some (dv T),some (.ref 1),some (.ref (jt+5)),some (.ref (jv+5)),some (.ref (js+5)),some (.p (.int (Int.fmod k0 8))),none,some (.p (.int p)),some (.p (.int q)),some (.p (.int r)),some (.p (.int s)),none,none,none,none,none,none,none,none,none,none,none,none]:=⟨_,rfl⟩
 obtain⟨x,x1,x2⟩:=pick l5 7 p (by subst hl5;rfl) (by subst hl5;rfl)
 obtain⟨y,y1,y2⟩:=pick l5 8 q (by subst hl5;rfl) (by subst hl5;rfl)
 obtain⟨z,z1,z2⟩:=pick l5 9 r (by subst hl5;rfl) (by subst hl5;rfl)
 subst hl5
 have s6:=Ziz (σ:=HB t (Cs T) N (memP M) B1) (YL.trans H1.hl) (YL.trans H1.hv) (by rw[List.length_append,List.length_map,List.length_map];exact Nat.le_trans (Nat.add_le_add (Nat.le_of_lt H.lL) (Nat.le_of_lt H.lV)) (Nat.le_of_lt (Y6 (a:=200) rfl)))
 rw[← List.map_append]at s6
 cases brIC (t:=t) (n:=n) (js:=js) (je:=B1.length) (kk:=Int.fmod k0 8) (p:=p) (q:=q) (r:=r) (s:=s) hT (H1.more (X:=[.lst ((L++Vs).map (En N T))])) lt0 x1 y1 z1 with
 |mk o l' N' M' L' Vs' B' e ho P=>
  have q5:sSeq (stIC (Zg tab (n+10))) (sSeq (sRet (Zb (.bool true))) Ze) (stL T jt jv js B1.length (Int.fmod k0 8) p q r s (En N T x) (En N T y) (En N T z)) (HB t (Cs T) N (memP M) (B1++[.lst ((L++Vs).map (En N T))]))=some (.ok (.ret (.p (.bool true))),l',HB t (Cs T) N' (memP M') B'):=by
   rcases ho with rfl|rfl
   ·exact Zf e (ZG rfl)
   ·exact Ye e
  refine⟨N',M',L',Vs',B'.take B.length,Zn Zgl rfl (Zf (Zg6 rfl sl rfl) (Zf (Zi (Zh rfl rfl (ZaQ (by decide) rfl))) (Zf (ZD (Zbd x2 y2 z2) rfl) (Zf (Zi (Zh rfl rfl s6)) q5)))) (congrArg (fun x=>some (V.p (.bool true),x)) Znl),P.gr,P.st,?_,?_,?_,P.lL,P.lV,P.gL⟩
  ·have:=P.len
   rw[List.length_append,hlen]at this
   rw[List.length_take];exact Nat.le_min.mpr ⟨Nat.le_refl _,Nat.le_trans (Nat.le_add_right _ _) this⟩
  ·rw[List.getElem?_take_of_lt (List.getElem?_eq_some_iff.mp H.hl).1];exact P.hl
  ·rw[List.getElem?_take_of_lt (List.getElem?_eq_some_iff.mp H.hv).1];exact P.hv
end
end
section
theorem ZkG{a b c:Nat}(ha:1≤a∧a≤3)(hb:1≤b∧b≤2)(hc:1≤c∧c≤2):Tops [a,b,c]:=by
 refine⟨rfl,fun v=>?_,fun v hv=>?_⟩
 ·unfold tp
  match v with
  |0=>exact ha.2
  |1=>exact Nat.le_trans hb.2 (by decide)
  |2=>exact Nat.le_trans hc.2 (by decide)
  |(n+3)=>exact Nat.zero_le _
 ·unfold tp
  match v with
  |0=>exact ha.1
  |1=>exact hb.1
  |2=>exact hc.1
  |(n+3)=>exact False.elim (Ar.n1 (.im (.t (.p (.v 0) (.k 3)) (.k 3)) .ff) (by kernel_rfl) hv)
theorem Zio{a b c:Nat}{t:MObj}{n:Nat}(ha:1≤a∧a≤3)(hb:1≤b∧b≤2)(hc:1≤c∧c≤2):Zg tab (n+1) 21 [.p (.tuple [.int a,.int b,.int c])] [t]=some (.ok (.ref 1),[t,Cs [a,b,c]])∧2≤(Zw [a,b,c] 3 []).length:=by
 have ha':a=1∨a=2∨a=3:=by exact Ar.n1 (.im (.an (.l (.k 1) (.v 0)) (.l (.v 0) (.k 3))) (.or (.e (.v 0) (.k 1)) (.or (.e (.v 0) (.k 2)) (.e (.v 0) (.k 3))))) (by kernel_rfl) ha
 have hb':b=1∨b=2:=by exact Ar.a171 hb
 have hc':c=1∨c=2:=by exact Ar.a171 hc
 rcases ha' with rfl|rfl|rfl<;>rcases hb' with rfl|rfl<;>rcases hc' with rfl|rfl<;>exact⟨(congrFun Zc2 _).trans rfl,by decide⟩
end
section
noncomputable def Dt(D:List Int):MObj:=.lst (D.map .int)
noncomputable def lwL(sc:V)(T:List Nat)(yes no:P)(x2 x8 x9 x10 x11 x12 x13:Option V):Loc:=[some sc,some (.ref 0),x2,some (.p (.tuple (TPl T))),some (.ref 1),some (dv T),some (.p yes),some (.p no),x8,x9,x10,x11,x12,x13,none]
theorem Zmc{d:P}{n:Nat}{σ:Hp}(h2:2≤n)(hn:n≤1000):mulV (.p (.tuple [d])) (.p (.int n)) σ=some (.ok (.p (.tuple (List.replicate n d))),σ):=
 h_i1 (h_if (decide_eq_true ⟨Int.ofNat_le.mpr h2,Int.ofNat_le.mpr hn⟩) (ZcZ (l:=List.replicate n d) (by rw[List.length_replicate];exact Nat.le_trans hn (Nat.le_trans (by decide) ZO))))
section
variable{t:MObj}{N N':List Nd}{M M':List (Ky×Nat)}{B B':Hp}{T:List Nat}{n:Nat}
theorem ZkJ{r:Nat}{w:P}(h:N[r]?=some (.leaf w)):tb N T r=List.replicate (Zw T 3 []).length w:=by
 unfold tb
 rw[List.eq_replicate_iff]
 exact⟨List.length_map _,fun x hx=>by obtain⟨c,_,rfl⟩:=List.mem_map.mp hx;exact Z1 h⟩
theorem Zi0{r:Nat}{w:P}(h:N[r]?=some (.leaf w))(hw:w=.int 0∨w=.int 1):Tr T N r:=fun f _=>by rw[Z1 h];exact hw
inductive LfR(t:MObj)(T:List Nat)(N:List Nd)(M:List (Ky×Nat))(B:Hp)(w:P)(o:Option (R V×Hp)):Prop
 |mk (N':List Nd) (r:Nat):o=some (.ok (.p (En N' T r)),HB t (Cs T) N' (memP M) B)→Grow T N M N' M 1→r<N'.length→N'[r]?=some (.leaf w)→LfR t T N M B w o
theorem Zej(hT:Tops T)(W:WF T N)(O:MOk T N M)(hN:N.length<cap)(hc2:2≤(Zw T 3 []).length){w:P}(hw:ZK w=true){l:Loc}{F:Fn}(h5:l[5]?=some (some (dv T)))(h4:l[4]?=some (some (.ref 1)))(hF:∀σ,F l σ=some (.ok (.p w),σ)):
  LfR t T N M B w (Zm [eDia (Zg tab (n+2)) 2 (Za 5) [F],eBin mulV (Zm [F]) (eFn (g1 lenV) [Za 4])] l (HB t (Cs T) N (memP M) B)):=by
 obtain⟨N',r,e,g,hr⟩:=WI (t:=t) (c:=Cs T) (B:=B) (n:=n) hw W O hN
 refine⟨N',r,?_,g,(List.getElem?_eq_some_iff.mp hr).1,hr⟩
 rw[En,ZkJ hr]
 exact Zz (ZE (x_nm h5) (Zc (hF _) Zk) e) (Zh (ZcA (hF _)) (ZV (x_nm h4) (Zi7 (l:=[]) (f:=fun _=>lenV (.ref 1)) (ZW (j:=1) rfl rfl) (congrArg Int.ofNat (List.length_map _)))) (Zmc hc2 (Nat.le_trans (XO hT) (by decide))))
theorem Zes{tg:Tg}{f:Fn}{l l':Loc}{p q:P}{ps qs:List P}{σ σ1 σ2:Hp}(h1:ZX tg p l=some l')(h2:f l' σ=some (.ok (.p q),σ1))(h3:Y2 tg ZM f l' ps σ1=some (.ok qs,σ2)):Y2 tg ZM f l (p::ps) σ=some (.ok (q::qs),σ2):=by
 rw[Y2,h1]
 exact h_b (a:=true) (σ1:=σ) rfl (h_b (h_ne (h_b h2 rfl)) (h_b h3 rfl))
theorem Zmf{it:In}{tg:Tg}{f:Fn}{l:Loc}{σ σ1 σ2:Hp}{ps qs:List P}(hi:it l σ=some (.ok ps,σ1))(h:Y2 tg ZM f (X7 tg l) ps σ1=some (.ok qs,σ2))(hl:qs.length≤lim):ZS it tg ZM f l σ=some (.ok (.ref σ2.length),σ2++[.lst qs]):=h_b hi (h_b h (XY hl))
inductive LvR(t:MObj)(T:List Nat)(N:List Nd)(M:List (Ky×Nat))(B:Hp)(o:Option (R V×Hp)):Prop
 |mk (N':List Nd) (Vs:List Nat):o=some (.ok (.ref (fr B 0)),HB t (Cs T) N' (memP M) (B++[.lst (Vs.map (En N' T))]))→Grow T N M N' M 3→Vs.length=3→(∀k∈Vs,k<N'.length)→LvR t T N M B o
theorem Zh0{sc:V}{yes no:P}{x2 x8 x9 x10 x11 x12 x13:Option V}(hT:Tops T)(W:WF T N)(O:MOk T N M)(hN:N.length+3≤cap)(hc2:2≤(Zw T 3 []).length):
  LvR t T N M B (ZS (iSeq (Zm [(Zb (.str "accept")),(Zb (.str "drop")),(Zb (.int 2))])) (.one 14) ZM (Zfs (Zg tab (n+2))) (lwL sc T yes no x2 x8 x9 x10 x11 x12 x13) (HB t (Cs T) N (memP M) B)):=by
 have pr:=fun(N1:List Nd) (W1:WF T N1) (O1:MOk T N1 M) (h1:N1.length<cap) (w:P) (hw:ZK w=true)=>Zej (t:=t) (B:=B) (n:=n) (l:=(lwL sc T yes no x2 x8 x9 x10 x11 x12 x13).set 14 (some (.p w))) hT W1 O1 h1 hc2 hw rfl rfl (F:=Za 14) (fun σ=>rfl)
 cases pr N W O (by exact Ar.a411 hN) (.str "accept") rfl with
 |mk N1 r1 e1 g1 k1 _=>
  have:=g1.len
  cases pr N1 g1.wf g1.mok (by exact Ar.a412 this hN) (.str "drop") rfl with
  |mk N2 r2 e2 g2 k2 _=>
   have:=g2.len
   cases pr N2 g2.wf g2.mok (by exact Ar.a413 this (by assumption) hN) (.int 2) rfl with
   |mk N3 r3 e3 g3 k3 _=>
    have g23:=g2.trans g3
    rw[← g23.En k1]at e1
    rw[← g3.En k2]at e2
    exact⟨N3,[r1,r2,r3],Zmf (Zaa (Zbd rfl rfl rfl)) (Zes rfl e1 (Zes rfl e2 (Zes rfl e3 rfl))) (Wz rfl),g1.trans g23,rfl,fun k hk=>by
     rcases List.mem_cons.mp hk with rfl|hk
     ·exact Nat.lt_of_lt_of_le k1 g23.len.1
     ·rcases List.mem_cons.mp hk with rfl|hk
      ·exact Nat.lt_of_lt_of_le k2 g3.len.1
      ·rw[List.mem_singleton.mp hk];exact k3⟩
end
end
section
section
variable{c:MObj}{N N':List Nd}{M M':List (Ky×Nat)}{m:List (P×P)}{L Vs:List Nat}{B B':Hp}{T:List Nat}{n:Nat}{D:List Int}{sc:V}{yes no:P}{x2 x8 x9 x10 x11 x12 x13:Option V}
theorem Zff{l:List Int}{k:Nat}(hk:k<l.length){σ:Hp}:Y9 (l.map .int) (.p (.int k)) σ=some (.ok (.p (.int l[k])),σ):=Zv (by rw[List.getElem?_map,List.getElem?_eq_getElem hk];rfl)
theorem ZgL{k:Nat}{i:Int}(hD:D.length=54)(hk:k<54)(e:i=(k:Nat)):∃a:Int,Zd (.ref 0) (.p (.int i)) (HB (Dt D) c N m B)=some (.ok (.p (.int a)),HB (Dt D) c N m B):=by
 subst e;exact⟨_,ZW (j:=0) rfl (Zff (hD▸hk))⟩
inductive LtR(T:List Nat)(N:List Nd)(M:List (Ky×Nat))(L:List Nat)(B:Hp)(D:List Int)(v:Nat)(l:Loc)(o:Option (R Out×Loc×Hp)):Prop
 |mk (N':List Nd) (r:Nat) (B':Hp):o=some (.ok .next,l,HB (Dt D) (Cs T) N' (memP M) B')→Grow T N M N' M 1→r<N'.length→v≤lvl N' r→Tr T N' r→B'[0]?=some (.lst ((L++[r]).map (En N' T)))→B'.length=B.length+1→LtR T N M L B D v l o
theorem Zh1(hT:Tops T)(W:WF T N)(O:MOk T N M)(hD:D.length=54){v y z:Nat}(hv:v<3)(hy:y<N.length)(hz:z<N.length)(ly:v<lvl N y)(lz:v<lvl N z)(hN:N.length<cap)(ty:Tr T N y)(tz:Tr T N z)(hB0:B[0]?=some (.lst (L.map (En N T))))(hLN:∀k∈L,k<N.length)(hL:L.length<100):
  LtR T N M L B D v (lwL sc T (En N T y) (En N T z) x2 (some (.ref 5)) (some (.p (.int v))) x10 (some (.ref (fr B 0))) x12 x13) (Zcu (Zg tab (n+4)) (lwL sc T (En N T y) (En N T z) x2 (some (.ref 5)) (some (.p (.int v))) x10 x11 x12 x13) (HB (Dt D) (Cs T) N (memP M) B)):=by
 have hlim:=ZO
 have hlt:0<B.length:=(List.getElem?_eq_some_iff.mp hB0).1
 obtain⟨a,ha⟩:=ZgL (D:=D) (c:=Cs T) (N:=N) (m:=memP M) (B:=B) (k:=3+2*v) (i:=3+2*(v:Int)) hD (by exact Ar.n1 (.im (.t (.v 0) (.k 3)) (.t (.p (.k 3) (.m 2 (.v 0))) (.k 54))) (by kernel_rfl) hv) (by exact Ar.n1 (.E (.p (.k 3) (.m 2 (.c (.v 0)))) (.c (.p (.k 3) (.m 2 (.v 0))))) (by kernel_rfl))
 obtain⟨b,hb'⟩:=ZgL (D:=D) (c:=Cs T) (N:=N) (m:=memP M) (B:=B) (k:=4+2*v) (i:=4+2*(v:Int)) hD (by exact Ar.n1 (.im (.t (.v 0) (.k 3)) (.t (.p (.k 4) (.m 2 (.v 0))) (.k 54))) (by kernel_rfl) hv) (by exact Ar.n1 (.E (.p (.k 4) (.m 2 (.c (.v 0)))) (.c (.p (.k 4) (.m 2 (.v 0))))) (by kernel_rfl))
 obtain⟨l1,h1,l2,h2,a1,a2,e25⟩:=Zbp (t:=Dt D) (c:=Cs T) (N:=N) (m:=memP M) (B:=B) (n:=n+3) (x:=a) (y:=b) (top:=tp T v) (hT.le v)
 cases Zbn (t:=Dt D) (B:=B++[.lst [prt (l1,h1),prt (l2,h2)]]) (n:=n) (j:=B.length) hT W O hv hy hz ly lz hN a1 a2 (.inl lt0)with
 |mk N' r e27 g hr hlv ht=>
  rw[ls0]at e27
  have g0:∀X,(B++X)[0]?=some (.lst (L.map (En N T))):=fun X=>by rw[List.getElem?_append_left hlt,hB0]
  have sm:ZJ (v:Int)=true:=by simp[ZJ];exact Ar.n1 (.im (.t (.v 0) (.k 3)) (.L (.c (.v 0)) (.k 1000000000))) (by kernel_rfl) hv
  exact⟨N',r,(B++[MObj.frz [prt (l1,h1),prt (l2,h2)]]).set 0 (.lst (L.map (En N T)++[En N' T r])),Zf (Zi (Zp (Zc (Zh rfl (Zh rfl (Zh rfl rfl (ZeC rfl sm rfl)) rfl) ha) (Zc (Zh rfl (Zh rfl (Zh rfl rfl (ZeC rfl sm rfl)) rfl) hb') (Zc (Zh rfl rfl (Yv hT.len hv)) Zk))) e25)) (Zc6 (LL:=L.map (En N T)) (j:=0+5) rfl (YL.trans (g0 _)) (Zp (Zc rfl (Zc rfl (Zc rfl (Zc rfl (Zc rfl (Zc rfl Zk)))))) e27) (YL.trans (g0 _)) (by rw[List.length_map];exact Ar.a55 hlim hL)),g,hr,hlv,ht ty tz,
   (by rw[List.getElem?_set_self (by rw[List.length_append];exact Nat.lt_of_lt_of_le hlt (Nat.le_add_right _ _)),Xk g hLN,List.map_append];rfl),by rw[List.length_set,List.length_append];rfl⟩
structure Inv(T:List Nat)(N:List Nd)(M:List (Ky×Nat))(L Vs:List Nat)(B:Hp)(k:Nat):Prop where
 st:Sx T N M L Vs
 h0:B[0]?=some (.lst (L.map (En N T)))
 h4:B[4]?=some (.lst (Vs.map (En N T)))
 lN:N.length≤10+24*k
 lM:M.length≤10+24*k
 lL:L.length≤3+k
 lV:Vs.length≤3+k
 gL:3≤L.length
theorem Inv.hy{k:Nat}(I:Inv T N M L Vs B k)(hk:k≤40):Hy T N M L Vs 0 4 B:=by
 have hc:cap=90000:=rfl
 exact⟨I.st,Ar.a172 hc I.lN hk,Ar.a172 hc I.lM hk,Ar.a173 I.lL hk,Ar.a173 I.lV hk,I.h0,I.h4,by decide⟩
theorem five{i:Nat}(hD:D.length=54)(hi:i≤49):∃a b c d e:Int,(D.drop i).take 5=[a,b,c,d,e]:=by
 have h:((D.drop i).take 5).length=5:=by rw[List.length_take,List.length_drop];exact Ar.n2 (.im (.e (.v 0) (.k 54)) (.im (.l (.v 1) (.k 49)) (.e (.mn (.k 5) (.s (.v 0) (.v 1))) (.k 5)))) (by kernel_rfl) hD hi
 exact Zl (P:=fun l=>∃a b c d e:Int,l=[a,b,c,d,e]) (fun a=>Zl fun b=>Zl fun c=>Zl fun d=>Zl fun e=>ZC ⟨a,b,c,d,e,rfl⟩) _ h
inductive LsR(T:List Nat)(D:List Int)(k:Nat)(Q:Loc→Prop)(o:Option (R Out×Loc×Hp)):Prop
 |mk (l:Loc) (N':List Nd) (M':List (Ky×Nat)) (L' Vs':List Nat) (B':Hp):o=some (.ok .next,l,HB (Dt D) (Cs T) N' (memP M') B')→Q l→Inv T N' M' L' Vs' B' k→LsR T D k Q o
theorem Zlt(hT:Tops T)(hD:D.length=54){i k:Nat}(hi:i≤49)(hk:k<40)(I:Inv T N M L Vs B k):LsR T D (k+1) (·=lwL sc T yes no (some (.p (i1P i))) (some (.ref 5)) x9 (some (.ref 9)) x11 x12 x13) (Zcv (Zg tab (n+11)) (lwL sc T yes no (some (.p (i1P i))) (some (.ref 5)) x9 (some (.ref 9)) x11 x12 x13) (HB (Dt D) (Cs T) N (memP M) B)):=by
 obtain⟨a,b,c',d,e,h5⟩:=five hD hi
 have S:ZbG ZgO (Za 1) (Za 2) (eBin addV (Za 2) (Zb (.int 5))) (lwL sc T yes no (some (.p (i1P i))) (some (.ref 5)) x9 (some (.ref 9)) x11 x12 x13) (HB (Dt D) (Cs T) N (memP M) B)=some (.ok (.ref (B.length+5)),HB (Dt D) (Cs T) N (memP M) (B++[.lst [.int a,.int b,.int c',.int d,.int e]])):=
  Zg9 rfl rfl (Zh rfl rfl rfl) (h_l1 (l:=D.map .int) rfl (h_if (m:=newL _) (decide_eq_true (by
   rw[List.length_map,hD];exact Ar.n1 (.im (.l (.v 0) (.k 49)) (.an (.L (.k 0) (.c (.v 0))) (.an (.L (.c (.v 0)) (.p (.c (.v 0)) (.k 5))) (.L (.p (.c (.v 0)) (.k 5)) (.c (.k 54)))))) (by kernel_rfl) hi)) (by
   rw[Int.toNat_natCast,show((i:Int)+5 - (i:Int)).toNat=5 by omega,← List.map_drop,← List.map_take,h5];exact XY (Wz rfl))))
 cases Zjg (t:=Dt D) (n:=n) (k0:=a) (p:=b) (q:=c') (r:=d) (s:=e) hT ((I.hy (Nat.le_of_lt hk)).more (X:=[.lst [.int a,.int b,.int c',.int d,.int e]])) (js:=B.length) lt0 (Nat.ne_of_gt (List.getElem?_eq_some_iff.mp I.h0).1) (Nat.ne_of_gt (List.getElem?_eq_some_iff.mp I.h4).1)with
 |mk N' M' L' Vs' B' e37 P=>
  exact⟨_,N',M',L',Vs',B',Zf (ZU (ZgA (QL (Zp (Zc rfl (Zc rfl (Zc rfl (Zc rfl (Zc S Zk))))) e37) rfl)) rfl) rfl,rfl,P.st,P.hl,P.hv,Ar.n3 (.im (.an (.l (.v 2) (.v 0)) (.l (.v 0) (.p (.v 2) (.k 24)))) (.im (.l (.v 2) (.p (.k 10) (.m 24 (.v 1)))) (.l (.v 0) (.p (.k 10) (.m 24 (.p (.v 1) (.k 1))))))) (by kernel_rfl) P.gr.len I.lN,Ar.n3 (.im (.l (.v 0) (.p (.v 2) (.k 24))) (.im (.l (.v 2) (.p (.k 10) (.m 24 (.v 1)))) (.l (.v 0) (.p (.k 10) (.m 24 (.p (.v 1) (.k 1))))))) (by kernel_rfl) P.gr.mem I.lM,Ar.a174 P.lL I.lL,Ar.a174 P.lV I.lV,Nat.le_trans I.gL P.gL⟩
theorem Zju(hT:Tops T)(hD:D.length=54)(it:List Nat):∀{N:List Nd} {M:List (Ky×Nat)} {L Vs:List Nat} {B:Hp} {k:Nat} {x2:Option V},(∀i∈it,i≤49)→k+it.length≤40→Inv T N M L Vs B k→LsR T D (k+it.length) (fun l=>∃x2',l=lwL sc T yes no x2' (some (.ref 5)) x9 (some (.ref 9)) x11 x12 x13) (Yj (.one 2) (Zcv (Zg tab (n+11))) (it.map i1P) (lwL sc T yes no x2 (some (.ref 5)) x9 (some (.ref 9)) x11 x12 x13) (HB (Dt D) (Cs T) N (memP M) B)):=by
 induction it with
 |nil=>exact fun _ _ I=>⟨_,_,_,_,_,_,rfl,⟨_,rfl⟩,I⟩
 |cons i it ih=>
  intro N M L Vs B k x2 h1 h2 I
  rw[List.length_cons]at h2
  rw[List.length_cons,Nat.add_comm it.length 1,← Nat.add_assoc]
  cases Zlt (n:=n) (sc:=sc) (yes:=yes) (no:=no) (x9:=x9) (x11:=x11) (x12:=x12) (x13:=x13) hT hD (h1 i List.mem_cons_self) (by exact Ar.n2 (.im (.l (.p (.v 0) (.p (.v 1) (.k 1))) (.k 40)) (.t (.v 0) (.k 40))) (by kernel_rfl) h2) I with
  |mk l N1 M1 L1 Vs1 B1 e hl I1=>
   subst hl
   cases ih (k:=k+1) (x2:=some (.p (i1P i))) (fun j hj=>h1 j (List.mem_cons_of_mem _ hj)) (by exact Ar.n2 (.im (.l (.p (.v 0) (.p (.v 1) (.k 1))) (.k 40)) (.l (.p (.p (.v 0) (.k 1)) (.v 1)) (.k 40))) (by kernel_rfl) h2) I1 with
   |mk l N2 M2 L2 Vs2 B2 e2 hl I2=>exact⟨l,N2,M2,L2,Vs2,B2,x_go rfl e e2,hl,I2⟩
end
end
section
theorem QV{α:Type}{f:α→P}{σ:Hp}{L:List α}{k:Int}(j:Nat)(hk:k= -(j:Int))(h1:1≤j)(h2:j≤L.length):∃a∈L,Y9 (L.map f) (.p (.int k)) σ=some (.ok (.p (f a)),σ):=by
 subst hk
 have hi:L.length - j<L.length:=by exact Ar.n2 (.im (.l (.k 1) (.v 1)) (.im (.l (.v 1) (.v 0)) (.t (.s (.v 0) (.v 1)) (.v 0)))) (by kernel_rfl) h1 h2
 refine⟨L[L.length - j],List.getElem_mem hi,Zck ?_ (by rw[List.getElem?_map,List.getElem?_eq_getElem hi];rfl)⟩
 rw[List.length_map]
 unfold idx?
 rw[if_neg (by exact Ar.n2 (.im (.t (.s (.v 1) (.v 0)) (.v 1)) (.no (.L (.k 0) (.g (.c (.v 0)))))) (by kernel_rfl) hi),if_pos (by exact Ar.n2 (.im (.l (.v 0) (.v 1)) (.L (.k 0) (.p (.g (.c (.v 0))) (.c (.v 1))))) (by kernel_rfl) h2)]
 congr 1
 omega
noncomputable def lw0(ns:List Int)(x2:Option V):Loc:=[some (.p (.list (ns.map .int))),some (.ref 0),x2,none,none,none,none,none,none,none,none,none,none,none,none]
theorem ZgK(cf:CF){ns:List Int}(it:List Nat):∀{D:List Int} {x2:Option V},D.length=54→(∀i∈it,i<54∧i<ns.length)→∃(D':List Int) (x2':Option V),Yj (.one 2) (Zft cf) (it.map i1P) (lw0 ns x2) [Dt D]=some (.ok .next,lw0 ns x2',[Dt D'])∧D'.length=54:=by
 induction it with
 |nil=>exact fun hD _=>⟨_,_,rfl,hD⟩
 |cons i it ih=>
  intro D x2 hD h
  obtain⟨h1,h2⟩:=h i List.mem_cons_self
  have h1':i<D.length:=hD▸h1
  obtain⟨D',x2',e,hD'⟩:=ih (D:=D.set i (D[i]+ns[i])) (x2:=some (.p (i1P i))) (by rw[List.length_set,hD]) (fun j hj=>h j (List.mem_cons_of_mem _ hj))
  rw[Dt,List.map_set]at e
  exact⟨D',x2',x_go rfl (Zf (Qi (Zh (Zh rfl rfl (ZW (j:=0) rfl (Zff h1'))) (Zh rfl rfl (Zff h2)) rfl) rfl rfl (Zjm (k:=0) rfl (Zco (by rw[List.length_map];exact h1')))) rfl) e,hD'⟩
section
variable{N N':List Nd}{M M':List (Ky×Nat)}{L Vs:List Nat}{B:Hp}{T:List Nat}{n:Nat}{D:List Int}{sc:V}{x2 x10 x12 x13:Option V}
structure LtI(T:List Nat)(N:List Nd)(M:List (Ky×Nat))(L:List Nat)(B:Hp)(yes no:P)(y z:Nat):Prop where
 wf:WF T N
 mok:MOk T N M
 hy:y<N.length
 hz:z<N.length
 ly:lvl N y=3
 lz:lvl N z=3
 ty:Tr T N y
 tz:Tr T N z
 ey:En N T y=yes
 ez:En N T z=no
 h0:B[0]?=some (.lst (L.map (En N T)))
 hL:∀k∈L,k<N.length
 ht:∀k∈L,Tr T N k
inductive TlR(T:List Nat)(D:List Int)(N:List Nd)(M:List (Ky×Nat))(L:List Nat)(B:Hp)(yes no:P)(y z:Nat)(it:List Nat)(Q:Loc→Prop)(o:Option (R Out×Loc×Hp)):Prop
 |mk (l:Loc) (N':List Nd) (L':List Nat) (B':Hp):o=some (.ok .next,l,HB (Dt D) (Cs T) N' (memP M) B')→Q l→Grow T N M N' M it.length→LtI T N' M L' B' yes no y z→L'.length=L.length+it.length→B'.length=B.length+it.length→(∀k∈L,k∈L')→(∀v∈it,∃k∈L',v≤lvl N' k)→TlR T D N M L B yes no y z it Q o
theorem Zjt(hT:Tops T)(hD:D.length=54){y z:Nat}{yes no:P}(it:List Nat):∀{N:List Nd} {L:List Nat} {B:Hp} {x9 x11:Option V},(∀v∈it,v<3)→LtI T N M L B yes no y z→N.length+it.length≤cap→L.length+it.length<100→
  TlR T D N M L B yes no y z it (fun l=>∃x9' x11',l=lwL sc T yes no x2 (some (.ref 5)) x9' x10 x11' x12 x13) (Yj (.one 9) (Zcu (Zg tab (n+4))) (it.map i1P) (lwL sc T yes no x2 (some (.ref 5)) x9 x10 x11 x12 x13) (HB (Dt D) (Cs T) N (memP M) B)):=by
 induction it with
 |nil=>exact fun _ I _ _=>⟨_,_,_,_,rfl,⟨_,_,rfl⟩,.refl I.wf I.mok _,I,rfl,rfl,fun _ h=>h,fun _ h=>nomatch h⟩
 |cons v it ih=>
  intro N L B x9 x11 hv I hN hl
  rw[List.length_cons]at hN hl
  have h3:=hv v List.mem_cons_self
  have mem {Q:Nat→Prop} {r:Nat} (hL:∀k∈L,Q k) (hr:Q r):∀k∈L++[r],Q k:=fun k hk=>(List.mem_append.mp hk).elim (hL k) fun h=>List.mem_singleton.mp h▸hr
  cases Zh1 (n:=n) (sc:=sc) (x2:=x2) (x10:=x10) (x11:=x11) (x12:=x12) (x13:=x13) hT I.wf I.mok hD h3 I.hy I.hz (Ar.a26 I.ly h3) (Ar.a26 I.lz h3) (Ar.a430 hN) I.ty I.tz I.h0 I.hL (by exact Ar.n2 (.im (.t (.p (.v 0) (.p (.v 1) (.k 1))) (.k 100)) (.t (.v 0) (.k 100))) (by kernel_rfl) hl)with
  |mk N1 r B1 e1 g1 r1 r2 r3 r4 r5=>
   have q:=g1.len
   rw[I.ey,I.ez]at e1
   cases ih (N:=N1) (L:=L++[r]) (B:=B1) (x9:=some (.p (.int v))) (x11:=some (.ref (fr B 0))) (fun u hu=>hv u (List.mem_cons_of_mem _ hu)) ⟨g1.wf,g1.mok,Ar.a4 q I.hy,Ar.a4 q I.hz,(g1.lvl I.hy).trans I.ly,(g1.lvl I.hz).trans I.lz,g1.Tr I.hy I.ty,g1.Tr I.hz I.tz,(g1.En I.hy).trans I.ey,(g1.En I.hz).trans I.ez,r4,mem (fun k h=>Ar.a4 q (I.hL k h)) r1,mem (fun k h=>g1.Tr (I.hL k h) (I.ht k h)) r3⟩ (Ar.a432 q hN) (by rw[List.length_append];exact Ar.n2 (.im (.t (.p (.v 0) (.p (.v 1) (.k 1))) (.k 100)) (.t (.p (.p (.v 0) (.k 1)) (.v 1)) (.k 100))) (by kernel_rfl) hl)with
   |mk l N' L' B' e2 hl2 g2 J a4 a5 a6 a7=>
    refine⟨l,N',L',B',x_go rfl e1 e2,hl2,?_,J,?_,?_,fun k hk=>a6 k (List.mem_append_left _ hk),fun u hu=>?_⟩
    ·rw[List.length_cons,Nat.add_comm];exact g1.trans g2
    ·rw[a4,List.length_append,List.length_cons,Nat.add_right_comm];rfl
    ·rw[a5,r5,List.length_cons,Nat.add_right_comm];rfl
    ·rcases List.mem_cons.mp hu with rfl|h
     ·exact⟨r,a6 r (List.mem_append_right _ (List.mem_singleton.mpr rfl)),(g2.lvl r1).symm▸r2⟩
     ·exact a7 u h
theorem Inv.push{k s g r:Nat}(I:Inv T N M L Vs B k)(gr:Grow T N M N' M' g)(hg:g≤24*s)(hs:1≤s)(hr:r<N'.length)(ht:Tr T N' r):Inv T N' M' (L++[r]) Vs (B.set 0 (.lst (L.map (En N T)++[En N' T r]))) (k+s):=
 ⟨(I.st.grow gr).push hr ht,by rw[List.getElem?_set_self (List.getElem?_eq_some_iff.mp I.h0).1,Xk gr I.st.ltL,List.map_append];rfl,by rw[List.getElem?_set_ne (by decide),I.h4,Xk gr I.st.ltV],Ar.n5 (.im (.an (.l (.v 3) (.v 0)) (.l (.v 0) (.p (.v 3) (.v 4)))) (.im (.l (.v 3) (.p (.k 10) (.m 24 (.v 1)))) (.im (.l (.v 4) (.m 24 (.v 2))) (.l (.v 0) (.p (.k 10) (.m 24 (.p (.v 1) (.v 2)))))))) (by kernel_rfl) gr.len I.lN hg,Ar.n5 (.im (.l (.v 0) (.p (.v 3) (.v 4))) (.im (.l (.v 3) (.p (.k 10) (.m 24 (.v 1)))) (.im (.l (.v 4) (.m 24 (.v 2))) (.l (.v 0) (.p (.k 10) (.m 24 (.p (.v 1) (.v 2)))))))) (by kernel_rfl) gr.mem I.lM hg,by rw[List.length_append];exact Ar.n3 (.im (.l (.k 1) (.v 2)) (.im (.l (.v 0) (.p (.k 3) (.v 1))) (.l (.p (.v 0) (.k 1)) (.p (.k 3) (.p (.v 1) (.v 2)))))) (by kernel_rfl) hs I.lL,Ar.n3 (.im (.l (.v 0) (.p (.k 3) (.v 1))) (.l (.v 0) (.p (.k 3) (.p (.v 1) (.v 2))))) (by kernel_rfl) I.lV,by rw[List.length_append];exact Nat.le_trans I.gL (Nat.le_add_right _ _)⟩
end
end
section
theorem Zmm{T:List Nat}:WF T []:=⟨List.nodup_nil,fun n nd h=>nomatch h⟩
theorem Zlp{T:List Nat}{N:List Nd}:MOk T N []:=⟨fun x hx=>nomatch hx⟩
theorem Zgj{n:Nat}:∃D:List Int,D.length=54∧Zg tab (n+1) 20 [] []=some (.ok (.ref 0),[Dt D]):=⟨[2,1,1,3,5,1,3,1,6,3,0,1,2,0,2,3,0,0,0,1,4,1,0,0,4,0,1,2,2,4,1,1,2,0,5,0,0,0,0,6,7,0,2,0,7,11,6,0,2,6,12,1,0,0],rfl,(congrFun Zc2 _).trans rfl⟩
theorem ZbV{D:List Int}{σ:Hp}{l:Loc}(h1:l[1]?=some (some (.ref 0)))(h0:σ[0]?=some (Dt D)){k u:Nat}(hk:k<D.length)(hu:0<u):∃a:Nat,1≤a∧a≤u∧eBin addV (eBin modV (eBin Zd (Za 1) (Zb (.int k))) (Zb (.int u))) (Zb (.int 1)) l σ=some (.ok (.p (.int a)),σ):=by
 obtain⟨m,e,hm⟩:=XZ D[k] u hu
 exact⟨m+1,Nat.succ_le_succ (Nat.zero_le _),Ar.a5 hm,Zh (Zh (Zh (x_nm h1) rfl (ZW h0 (Zff hk))) rfl (ZaQ (decide_eq_true (Ar.a168 hm)) e)) rfl rfl⟩
section
variable{N N':List Nd}{M M':List (Ky×Nat)}{L Vs:List Nat}{B:Hp}{T:List Nat}{n:Nat}{D:List Int}{sc:V}{x2 x9 x10 x11 x12 x13:Option V}{yes no:P}
theorem ZeG{l:Loc}{σ σ' σ'':Hp}{i j:Nat}{F:Fn}{LL L0:List P}{x:P}{K:SM}{S:Option (R Out×Loc×Hp)}(h1:l[i]?=some (some (.ref j)))(h0:σ[j]?=some (.lst L0))(hF:F l σ=some (.ok (.p x),σ'))(h2:σ'[j]?=some (.lst LL))(hl:LL.length<lim)(e:σ'.set j (.lst (LL++[x]))=σ'')(k:K l σ''=S):sSeq (Z8 (Z7 Zx (Za i) [F])) K l σ=S:=
 Zf (W6 (x_nm h1) h0 hF (WJ h2 hl)) (e▸k)
theorem Zlv(hT:Tops T)(I:Inv T N M L Vs B 9):∃l' N' M' B',sSeq (Zy [12,13] (Zm [(eBin Zd (Za 8) (Zb (.int (-1)))),(eBin Zd (Za 8) (Zb (.int (-2))))])) (sSeq (Z8 (Z7 Zx (Za 8) [(Zq (Zg tab (n+11)) 34 [(Za 5),(Zq (Zg tab (n+11)) 32 [(Za 5),(Za 12),(Za 13)])])])) (sSeq (Z8 (Z7 Zx (Za 8) [(Zq (Zg tab (n+11)) 33 [(Za 5),(Zq (Zg tab (n+11)) 34 [(Za 5),(Za 12)]),(Zq (Zg tab (n+11)) 34 [(Za 5),(Za 13)])])])) (sSeq (sIf (tNot (tVal (Zq (Zg tab (n+11)) 40 [(Za 5),(Za 4),(eBin addV (Za 8) (Za 10))]))) (sSeq (sRet (Zb (.bool false))) Ze) Ze) (sSeq (sRet (eAnd (Zq (Zg tab (n+11)) 41 [(Za 5),(Za 4),(eBin Zd (Za 8) (Zb (.int (-1))))]) (Zq (Zg tab (n+11)) 41 [(Za 5),(Za 4),(eBin Zd (Za 10) (Zb (.int (-1))))]))) Ze)))) (lwL sc T yes no x2 (some (.ref 5)) x9 (some (.ref 9)) x11 x12 x13) (HB (Dt D) (Cs T) N (memP M) B)=some (.ok (.ret (.p (.bool true))),l',HB (Dt D) (Cs T) N' (memP M') B'):=by
 have hcap:cap=90000:=rfl
 have hlim:=ZO
 have iN:=I.lN
 have iM:=I.lM
 have iL:=I.lL
 obtain⟨a,ha,ea⟩:=QV (f:=En N T) (σ:=HB (Dt D) (Cs T) N (memP M) B) (L:=L) (k:= -1) 1 rfl (by exact Ar.a56) (by exact Ar.a176 I.gL)
 obtain⟨b,hb',eb⟩:=QV (f:=En N T) (σ:=HB (Dt D) (Cs T) N (memP M) B) (L:=L) (k:= -2) 2 rfl (by exact Ar.a177) (by exact Ar.a175 I.gL)
 cases ZcQ (t:=Dt D) (c:=Cs T) (B:=B) (n:=n+1) hT I.st.wf I.st.mok (I.st.ltL a ha) (I.st.ltL b hb') (I.st.tr a ha) (I.st.tr b hb') (by exact Ar.a178 hcap iN) (by exact Ar.a178 hcap iM)with
 |mk N1 M1 p1 q1 k1 c1 t1=>
 have z1:=k1.len
 have y1:=k1.mem
 cases XF (t:=Dt D) (c:=Cs T) (B:=B) (n:=n+1) hT k1.wf k1.mok c1 t1 (by exact Ar.a445 z1 hcap iN) (by exact Ar.a446 hcap y1 iM)with
 |mk N2 M2 p2 q2 k2 c2 t2=>
 have j2:=k1.trans k2
 have I2:=I.push (s:=2) j2 (by exact Ar.n0 (.l (.p (.k 24) (.k 24)) (.m 24 (.k 2))) (by kernel_rfl)) (by exact Ar.a177) c2 t2
 obtain⟨B2,hB2⟩:∃B2,B.set 0 (.lst (L.map (En N T)++[En N2 T p2]))=B2:=⟨_,rfl⟩
 rw[hB2]at I2
 have a2:=Nat.lt_of_lt_of_le (I.st.ltL a ha) j2.len.1
 have b2:=Nat.lt_of_lt_of_le (I.st.ltL b hb') j2.len.1
 have lN2:=I2.lN
 have lM2:=I2.lM
 cases XF (t:=Dt D) (c:=Cs T) (B:=B2) (n:=n+1) hT k2.wf k2.mok a2 (j2.Tr (I.st.ltL a ha) (I.st.tr a ha)) (by exact Ar.a179 hcap lN2) (by exact Ar.a179 hcap lM2)with
 |mk N3 M3 p3 q3 k3 c3 t3=>
 have z3:=k3.len
 have y3:=k3.mem
 cases XF (t:=Dt D) (c:=Cs T) (B:=B2) (n:=n+1) hT k3.wf k3.mok (Nat.lt_of_lt_of_le b2 z3.1) (k3.Tr b2 (j2.Tr (I.st.ltL b hb') (I.st.tr b hb'))) (by exact Ar.a448 z3 hcap lN2) (by exact Ar.a449 hcap y3 lM2)with
 |mk N4 M4 p4 q4 k4 c4 t4=>
 have z4:=k4.len
 have y4:=k4.mem
 cases Zan (t:=Dt D) (c:=Cs T) (B:=B2) (n:=n+1) hT k4.wf k4.mok (Nat.lt_of_lt_of_le c3 z4.1) c4 (k4.Tr c3 t3) t4 (by exact Ar.a450 z4 z3 hcap lN2) (by exact Ar.a451 hcap y4 y3 lM2)with
 |mk N5 M5 p5 q5 k5 c5 t5=>
 have I5:=I2.push (s:=3) ((k3.trans k4).trans k5) (by exact Ar.n0 (.l (.p (.p (.k 24) (.k 24)) (.k 24)) (.m 24 (.k 3))) (by kernel_rfl)) (by exact Ar.n0 (.l (.k 1) (.k 3)) (by kernel_rfl)) c5 t5
 obtain⟨B5,hB5⟩:∃B5,B2.set 0 (.lst ((L++[p2]).map (En N2 T)++[En N5 T p5]))=B5:=⟨_,rfl⟩
 rw[hB5]at I5
 rw[j2.En (I.st.ltL a ha)]at q3
 rw[k3.En b2,j2.En (I.st.ltL b hb')]at q4
 rw[k4.En c3]at q5
 obtain⟨L5,hL5⟩:∃L5,L++[p2]++[p5]=L5:=⟨_,rfl⟩
 rw[hL5]at I5
 obtain⟨G5,hG⟩:∃G5,B5++[.lst ((L5++Vs).map (En N5 T))]=G5:=⟨_,rfl⟩
 have g0:G5[0]?=some (.lst (L5.map (En N5 T))):=by rw[← hG,List.getElem?_append_left (List.getElem?_eq_some_iff.mp I5.h0).1,I5.h0]
 have g4:G5[4]?=some (.lst (Vs.map (En N5 T))):=by rw[← hG,List.getElem?_append_left (List.getElem?_eq_some_iff.mp I5.h4).1,I5.h4]
 have cN:=Ar.a85 hcap I5.lN
 have cmp:=ZcR (t:=Dt D) (m:=memP M5) (n:=n+3) (B:=G5) (jm:=B5.length) hT I5.st.wf cN (L:=L5++Vs) (fun k hk=>(List.mem_append.mp hk).elim (I5.st.ltL k) (I5.st.ltV k)) (by rw[List.length_append];exact Ar.n2 (.im (.l (.v 0) (.p (.k 3) (.p (.p (.k 9) (.k 2)) (.k 3)))) (.im (.l (.v 1) (.p (.k 3) (.p (.p (.k 9) (.k 2)) (.k 3)))) (.l (.p (.v 0) (.v 1)) (.k 100)))) (by kernel_rfl) I5.lL I5.lV) (by rw[← hG];exact lt0)
 obtain⟨s,hs,es⟩:=QV (f:=En N5 T) (σ:=HB (Dt D) (Cs T) N5 (memP M5) G5) (L:=L5) (k:= -1) 1 rfl (by exact Ar.a56) (by exact Ar.a176 I5.gL)
 obtain⟨v,hv,ev⟩:=QV (f:=En N5 T) (σ:=HB (Dt D) (Cs T) N5 (memP M5) G5) (L:=Vs) (k:= -1) 1 rfl (by exact Ar.a56) (by exact Ar.a39 I5.st.nv)
 have rd:=fun k hk=>Zhi (t:=Dt D) (m:=memP M5) (n:=n+4) (B:=G5) (k:=k) hT I5.st.wf cN hk
 have sum:=Ziz (σ:=HB (Dt D) (Cs T) N5 (memP M5) B5) (YL.trans I5.h0) (YL.trans I5.h4) (by rw[List.length_append,List.length_map,List.length_map];exact Ar.a457 hlim I5.lL I5.lV)
 rw[← List.map_append,Qh,hG]at sum
 exact⟨_,N5,M5,G5,Zf (ZD (Zz (Zh rfl rfl ((Zat (YL.trans I.h0)).trans ea)) (Zh rfl rfl ((Zat (YL.trans I.h0)).trans eb))) rfl)
  (ZeG (j:=0+5) rfl (YL.trans I.h0) (Zp (Zc rfl (Zc (Zp (Zc rfl (Zc rfl (Zc rfl Zk))) q1) Zk)) q2) (YL.trans I.h0) (by rw[List.length_map];exact Ar.a455 hlim iL) (Qf.trans (congrArg _ hB2))
  (ZeG (j:=0+5) rfl (YL.trans I2.h0) (Zp (Zc rfl (Zc (Zp (Zc rfl (Zc rfl Zk)) q3) (Zc (Zp (Zc rfl (Zc rfl Zk)) q4) Zk))) q5) (YL.trans I2.h0) (by rw[List.length_map,List.length_append];exact Ar.a456 hlim iL) (Qf.trans (congrArg _ hB5))
  (Zf (ZU (ZgA (QL (Zp (Zc rfl (Zc rfl (Zc (Zh rfl rfl sum) Zk))) cmp) rfl)) rfl)
  (ZG (ZjS (Zp (Zc rfl (Zc rfl (Zc (Zh rfl rfl ((Zat (YL.trans g0)).trans es)) Zk))) (rd s (I5.st.ltL s hs))) (Zp (Zc rfl (Zc rfl (Zc (Zh rfl rfl ((Zat (YL.trans g4)).trans ev)) Zk))) (rd v (I5.st.ltV v hv))))))))⟩
end
end
section
theorem Zlf{σ:Hp}{x y z:Int}{ps:List P}(e:Q7 x y z=hp ps):Z2 [.p (.int x),.p (.int y),.p (.int z)] σ=some (.ok ps,σ):=congrFun e σ
theorem ZmL{i:Nat}{D:List Int}{l:Loc}{σ:Hp}{k:Int}(h1:l[1]?=some (some (.ref 0)))(h0:σ[0]?=some (Dt D))(e:(D.length:Int)=k):eFn (g1 lenV) [Za 1] l σ=some (.ok (.p (.int k)),σ):=
 ZV (x_nm h1) (Zi7 (l:=[]) (f:=fun _=>lenV (.ref 0)) (ZW h0 rfl) ((congrArg Int.ofNat (List.length_map _)).trans e))
theorem Zol{ns:List Int}:(if(54:Int)<(ns.length:Int)then(54:Int)else(ns.length:Int))=((min ns.length 54:Nat):Int):=by
 split<;>(first|exact Ar.n1 (.im (.T (.k 54) (.c (.v 0))) (.E (.k 54) (.c (.mn (.v 0) (.k 54))))) (by kernel_rfl) (by assumption)|exact Ar.n1 (.im (.no (.T (.k 54) (.c (.v 0)))) (.E (.c (.v 0)) (.c (.mn (.v 0) (.k 54))))) (by kernel_rfl) (by assumption))
theorem Zlz{n:Nat}(ns:List Int):Zg tab (n+12) 42 [.p (.list (ns.map .int))] []=some (.ok (.p (.bool true)),[]):=by
 have hlim:=ZO
 have hcap:cap=90000:=rfl
 obtain⟨D0,hD0,e20⟩:=Zgj (n:=n+10)
 obtain⟨D,x2,e2,hD⟩:=ZgK (Zg tab (n+11)) (ns:=ns) (List.range (min ns.length 54)) (D:=D0) (x2:=none) hD0 (fun i hi=>by have:=List.mem_range.mp hi;omega)
 obtain⟨a,ha1,ha2,ea⟩:=ZbV (l:=lw0 ns x2) (σ:=[Dt D]) rfl rfl (k:=0) (u:=3) (by exact Ar.n1 (.im (.e (.v 0) (.k 54)) (.t (.k 0) (.v 0))) (by kernel_rfl) hD) (by exact Ar.a33)
 obtain⟨b,hb1,hb2,eb⟩:=ZbV (l:=lw0 ns x2) (σ:=[Dt D]) rfl rfl (k:=1) (u:=2) (by exact Ar.n1 (.im (.e (.v 0) (.k 54)) (.t (.k 1) (.v 0))) (by kernel_rfl) hD) (by exact Ar.a53)
 obtain⟨c,hc1,hc2,ec⟩:=ZbV (l:=lw0 ns x2) (σ:=[Dt D]) rfl rfl (k:=2) (u:=2) (by exact Ar.n1 (.im (.e (.v 0) (.k 54)) (.t (.k 2) (.v 0))) (by kernel_rfl) hD) (by exact Ar.a53)
 obtain⟨e21,hcells⟩:=Zio (n:=n+10) (t:=Dt D) ⟨ha1,ha2⟩ ⟨hb1,hb2⟩ ⟨hc1,hc2⟩
 have hT:=ZkG ⟨ha1,ha2⟩ ⟨hb1,hb2⟩ ⟨hc1,hc2⟩
 obtain⟨T,hTe⟩:∃T,[a,b,c]=T:=⟨_,rfl⟩
 have s3:=Zbd ea eb ec
 have hTP:[PyData.int (a:Int),.int (b:Int),.int (c:Int)]=TPl T:=by rw[← hTe];rfl
 rw[hTP]at e21 s3
 rw[hTe]at e21 hcells hT
 obtain⟨sc,hsc⟩:∃sc:V,.p (.list (ns.map .int))=sc:=⟨_,rfl⟩
 cases Zej (t:=Dt D) (B:=[]) (n:=n+9) (M:=[]) (l:=(([some sc,some (.ref 0),x2,some (.p (.tuple (TPl T))),some (.ref 1),some (dv T),none,none,none,none,none,none,none,none,none]:Loc))) (F:=Zb (.int 1)) hT Zmm Zlp (by rw[hcap];exact Nat.zero_lt_succ _) hcells (w:=.int 1) rfl rfl rfl (fun _=>rfl)with
 |mk N1 y ey g1 hy ny=>
 have q1:=g1.len
 rw[List.length_nil]at q1
 cases Zej (t:=Dt D) (B:=[]) (n:=n+9) (M:=[]) (l:=(([some sc,some (.ref 0),x2,some (.p (.tuple (TPl T))),some (.ref 1),some (dv T),some (.p (En N1 T y)),none,none,none,none,none,none,none,none]:Loc))) (F:=Zb (.int 0)) hT g1.wf g1.mok (by exact Ar.a461 hcap (Ar.n1 (.im (.an (.l (.k 0) (.v 0)) (.l (.v 0) (.p (.k 0) (.k 1)))) (.l (.v 0) (.k 1))) (by kernel_rfl) q1)) hcells (w:=.int 0) rfl rfl rfl (fun _=>rfl)with
 |mk N2 z ez g2 hz nz=>
 have q2:=g2.len
 have ny2:=g2.at' ny
 cases Zjt (n:=n+7) (sc:=sc) (x2:=x2) (x10:=none) (x12:=none) (x13:=none) (M:=[]) hT hD [0,1,2] (L:=[]) (B:=[.lst []]) (x9:=none) (x11:=none) (by decide) ⟨g2.wf,g2.mok,Nat.lt_of_lt_of_le hy q2.1,hz,QW ny2,QW nz,Zi0 ny2 (.inr rfl),Zi0 nz (.inl rfl),g2.En hy,rfl,rfl,(fun _ h=>nomatch h),(fun _ h=>nomatch h)⟩ (by exact Ar.a462 q1 q2 hcap) (by decide)with
 |mk l3 N3 L B3 e3 hl3 g3 J a4 a5 a6 a7=>
 obtain⟨x9,x11,hl3⟩:=hl3
 subst hl3
 have q3:=g3.len
 rw[List.length_cons,List.length_cons,List.length_cons,List.length_nil]at q3
 have b3:B3.length=4:=a5
 cases Zh0 (t:=Dt D) (n:=n+9) (sc:=sc) (yes:=En N1 T y) (no:=En N2 T z) (x2:=x2) (x8:=some (.ref 5)) (x9:=x9) (x10:=none) (x11:=x11) (x12:=none) (x13:=none) (B:=B3) hT J.wf J.mok (by exact Ar.a463 q1 q2 q3 hcap) hcells with
 |mk N4 Vs e4 g4 v1 v2=>
 have q4:=g4.len
 have f9:fr B3 0=9:=by rw[Zoz,b3]
 rw[f9]at e4
 have a4':L.length=3:=a4
 have I:Inv T N4 [] L Vs (B3++[.lst (Vs.map (En N4 T))]) 0:=by
  refine⟨⟨g4.wf,g4.mok,fun k hk=>Nat.lt_of_lt_of_le (J.hL k hk) q4.1,fun k hk=>g4.Tr (J.hL k hk) (J.ht k hk),v2,?_,by exact Ar.n1 (.im (.e (.v 0) (.k 3)) (.t (.k 0) (.v 0))) (by kernel_rfl) v1⟩,?_,?_,by exact Ar.n4 (.im (.an (.l (.k 0) (.v 1)) (.l (.v 1) (.p (.k 0) (.k 1)))) (.im (.an (.l (.v 1) (.v 2)) (.l (.v 2) (.p (.v 1) (.k 1)))) (.im (.an (.l (.v 2) (.v 3)) (.l (.v 3) (.p (.v 2) (.p (.p (.p (.k 0) (.k 1)) (.k 1)) (.k 1))))) (.im (.an (.l (.v 3) (.v 0)) (.l (.v 0) (.p (.v 3) (.k 3)))) (.l (.v 0) (.p (.k 10) (.m 24 (.k 0)))))))) (by kernel_rfl) q1 q2 q3 q4,Nat.zero_le _,by exact Ar.a180 a4',by exact Ar.a180 v1,by exact Ar.n1 (.im (.e (.v 0) (.k 3)) (.l (.k 3) (.v 0))) (by kernel_rfl) a4'⟩
  ·obtain⟨k,k1,k2⟩:=a7 2 (.tail _ (.tail _ (.head _)))
   exact⟨k,k1,by rw[g4.lvl (J.hL k k1)];exact k2⟩
  ·rw[List.getElem?_append_left (by exact Ar.n1 (.im (.e (.v 0) (.k 4)) (.t (.k 0) (.v 0))) (by kernel_rfl) b3),J.h0,Xk g4 J.hL]
  ·rw[← b3];exact lt0
 cases Zju (n:=n) (sc:=sc) (yes:=En N1 T y) (no:=En N2 T z) (x9:=x9) (x11:=x11) (x12:=none) (x13:=none) hT hD [9,14,19,24,29,34,39,44,49] (k:=0) (x2:=x2) (by decide) (by decide) I with
 |mk l5 N5 M5 L5 Vs5 B5 e5 hl5 I5=>
 obtain⟨x2',hl5⟩:=hl5
 subst hl5
 obtain⟨l6,N6,M6,B6,e6⟩:=Zlv (n:=n) (D:=D) (sc:=sc) (x2:=x2') (x9:=x9) (x11:=x11) (x12:=none) (x13:=none) (yes:=En N1 T y) (no:=En N2 T z) hT I5
 subst hsc
 exact Zn (l:=l6) (show tab 42=some ZlJ from rfl) rfl
  (Zf (Zi e20)
  (Zf (Y5 (Yd (Zc (ZaR (ZV rfl rfl) (ZmL (i:=1) (D:=D0) rfl rfl (congrArg Int.ofNat hD0)) (Zi7 (l:=[]) (f:=fun _=>ZaY _ _) rfl ((congrArg (fun x:Nat=>if(54:Int)<(x:Int)then(54:Int)else(x:Int)) (List.length_map _)).trans Zol))) Zk) (gR1 (congrFun (YF (Nat.le_trans (Nat.min_le_right _ _) (by decide))) _))) e2)
  (Zf (Zi s3)
  (Zf (Zi (Zp (Zc rfl Zk) e21))
  (Zf (Zi (v:=dv T) (σ':=HB (Dt D) (Cs T) [] (memP []) []) rfl)
  (Zf (Zi ey)
  (Zf (Zi ez)
  (Zf (Zi QZ)
  (Zf (Y5 (Yd (Zc rfl Zk) (gR1 (congrFun (YF (k:=3) (by decide)) _))) e3)
  (Zf (Zi e4)
  (Zf (Y5 (Yd (Zc rfl (Zc (ZmL (i:=1) (D:=D) rfl rfl (congrArg Int.ofNat hD)) (Zc rfl Zk))) (Zlf (ps:=[9,14,19,24,29,34,39,44,49].map i1P) rfl)) e5)
  e6)))))))))))
  rfl
theorem Zjy(ns:List Int)(_:ns.length≤63):Zg tab 60 42 [.p (.list (ns.map .int))] []=some (.ok (.p (.bool true)),[]):=Zlz (n:=48) ns
end
section
open PySem.Calls PyProof.Rows
set_option maxRecDepth 100000
set_option maxHeartbeats 8000000
noncomputable section
noncomputable def qv:Program:=view pw [45]
noncomputable def loo:List Str:=(pw.main.body.take 45).flatMap bindsAtTop
noncomputable def Rn(w:World)(os:OsState):Option Shared:=topRun treeTable pw w 11 (some (.ref 6)) 5000 ⟨boot_heap w.params,Array.mk [],boot_drawn,boot_toks,os⟩ (topStub pw)
noncomputable def chk(w:World)(s:Shared):Bool:=staticsOk (importedModules pw.main.body) (boot_heap w.params) s.heap&&namesBound pw s.heap&&gensDone s&&laidKept (boot_heap w.params) s.heap
theorem left{α:Type}{F:Shared→α}{V:α}(big:∀w os,(Rn w os).map (fun s=>(chk w s,openSeen qv loo (importedModules pw.main.body) (fun _=>true) true s,F s))=some (true,openGood qv loo,V)):
  LeftO rl.row.prog qv loo (fun _=>true) F (fun _=>V) 5000:=fun w=>by
 have e0:opening pw=plainProg pw.main.scope.names:=by kernel_rfl
 have f0:∀s,fenceModules? pw s=some s:=fun s=>by kernel_rfl
 obtain⟨⟨h,gs,d,k,os⟩,e,e'⟩:=Option.map_eq_some_iff.mp (boot_open (p:=pw) (N:=5000) e0 rfl f0 w)
 obtain⟨rfl,rfl,rfl,rfl⟩:h=boot_heap w.params∧gs=Array.mk []∧d=boot_drawn∧k=boot_toks:=by simpa using e'
 have size:((boot_heap w.params).isNs mainGlobals&&(Array.mk []:Array GenState).size==0,(boot_heap w.params).objs.size,(boot_heap w.params).nsMap mainGlobals "__annotations__")=(true,11,some (.ref 6)):=by kernel_rfl
 obtain⟨z1,z2,z3⟩:_∧_∧_:=by simpa only[Prod.mk.injEq]using size
 obtain⟨s,hs,hb⟩:=Option.map_eq_some_iff.mp (big w os)
 obtain⟨b1,b2⟩:=Prod.mk.inj hb
 show(openEnds treeTable pw w 5000).map _=_
 unfold openEnds
 rw[e,Option.bind_some]
 have t:topFrom treeTable pw w 5000 ⟨boot_heap w.params,Array.mk [],boot_drawn,boot_toks,os⟩=some s:=by
  unfold topFrom
  dsimp only
  rw[z1,z2,z3]
  have hs':topRun treeTable pw w 11 (some (.ref 6)) 5000 ⟨boot_heap w.params,Array.mk [],boot_drawn,boot_toks,os⟩ (topStub pw)=some s:=hs
  rw[hs']
  show(match chk w s with|true=>some s|false=>none)=some s
  rw[b1]
 rw[t]
 exact congrArg some b2
noncomputable def frag(h:Heap):Frag:=(List.range h.objs.size).filterMap fun a=>(h.get? a).map fun o=>(a,o)
theorem Zko{h:Heap}:∀{K:Frag},(∀p∈K,h.get? p.1=some p.2)→K.In h
 |[],_,a,o,e=>by cases e
 |(b,x)::r,k,a,o,e=>by
  simp only[List.lookup]at e
  split at e
  ·rename_i q;cases e;rw[beq_iff_eq.mp q];exact k _ List.mem_cons_self
  ·exact Zko (fun p hp=>k p (List.mem_cons_of_mem _ hp)) a o e
theorem ZlG(h:Heap):(frag h).In h:=Zko fun p hp=>by
 obtain⟨a,_,e⟩:=List.mem_filterMap.mp hp
 obtain⟨o,ho,rfl⟩:=Option.map_eq_some_iff.mp e
 exact ho
theorem big(w:World)(os:OsState):(Rn w os).map (fun s=>(chk w s,openSeen qv loo (importedModules pw.main.body) (fun _=>true) true s,kfL (frag s.heap)))=some (true,openGood qv loo,kfR):=by
 kernel_rfl
end
end
section
open PySem.Calls PyProof.Rows
set_option maxRecDepth 100000
set_option maxHeartbeats 8000000
theorem Zho(I:IMap){vs:List Value}{ns:List Int}(h:IntsAre vs ns):PAll I vs (ns.map .int):=by
 induction h with
 |nil=>exact .nil
 |cons _ _ _ ih=>exact .cons (.int _ _) ih
theorem Zot:Good U:=fun hK hC s x o vs n ns ho hc hd hi hl hs hos=>by
 let w:Wd callerA:=⟨s.heap.get?,[],[],s,⟨fun a o e=>e,fun a o e=>(hs a).symm.trans e,hos,⟨rfl,List.nodup_nil,fun e=>nomatch e⟩,fun a h=>nomatch h⟩⟩
 have V0:VRs w [.p (.list (ns.map .int))] [.ref x]:=.cons (.p (.lst ho hc hd (by rw[sizeLine_eq,List.length_map];exact Nat.le_trans hl (by decide)) (Zho _ hi))) .nil
 refine ZgM (adr:=adr) (Znk ⟨hK,hC⟩) 60 (w:=w) (id:=42) ⟨rfl,by rw[depth_caller];decide,by rw[units_caller];decide,[],rfl,fun _ h=>nomatch h⟩ V0 ?_
 show KV w _ _ (Zg tab 60 42 [.p (.list (ns.map .int))] [])
 rw[Zjy ns hl]
 exact fun w' e st y hy=>⟨by cases hy with|p h=>cases h;rfl,w'.K,w'.b.bg⟩
theorem Zdq:∀(n:Nat) (h:Heap),h.objs.size=n→(∃a o,h.get? a=some o)→∃h':Heap,(∀a,h'.get? a=h.get? a)∧∃o,h'.get? (h'.objs.size - 1)=some o
 |0,h,e,⟨a,o,ha⟩=>by have:=Heap.lt_size ha;rw[e]at this;exact absurd this (Nat.not_lt_zero _)
 |n+1,h,e,x=>by
  cases hl:h.get? (h.objs.size - 1)with
  |some o=>exact⟨h,fun _=>rfl,o,hl⟩
  |none=>
   have k:∀a,({h with objs:=h.objs.pop}:Heap).get? a=h.get? a:=fun(a:Nat)=>by
    by_cases ha:a<h.objs.size - 1
    ·unfold Heap.get?
     dsimp only
     rw[Array.getElem?_pop,if_pos ha]
    ·have h1:({h with objs:=h.objs.pop}:Heap).get? a=none:=Heap.get?_none_of_le (show h.objs.pop.size≤a by rw[Array.size_pop];exact Nat.le_of_not_lt ha)
     rw[h1]
     by_cases hb:a=h.objs.size - 1
     ·rw[hb,hl]
     ·exact(Heap.get?_none_of_le (show h.objs.size≤a by omega)).symm
   obtain⟨a,o,ha⟩:=x
   obtain⟨h',k',l⟩:=Zdq n {h with objs:=h.objs.pop} (by show h.objs.pop.size=n;rw[Array.size_pop,e];rfl) ⟨a,o,(k a).trans ha⟩
   exact⟨h',fun a=>(k' a).trans (k a),l⟩
theorem and2{a b:Bool}(h:a=true)(k:b=true):(a&&b)=true:=by rw[h,k];rfl
theorem lf{a:Bool}(h:(a&&true)=true):a=true:=(Bool.and_true a).symm.trans h
theorem Zon:looksOpen rl.row.prog=true:=by
 unfold looksOpen
 exact and2 (and2 (and2 (and2 (and2 (lf (by kernel_rfl)) (lf (by kernel_rfl))) (lf (by kernel_rfl))) (lf (by kernel_rfl))) (lf (by kernel_rfl))) (lf (by kernel_rfl))
theorem Zle:rl.row.wellSaid=true:=by
 unfold OpenRow.wellSaid OpenRow.partSaid
 exact and2 (and2 (and2 (and2 (and2 (and2 (and2 (and2 (and2 (and2 (and2 (and2 (and2 (and2 (and2 Zon (lf (by kernel_rfl))) (lf (by kernel_rfl))) (lf (by kernel_rfl))) (lf (by kernel_rfl))) (lf (by kernel_rfl))) (lf (by kernel_rfl))) (lf (by kernel_rfl))) (lf (by kernel_rfl))) (lf (by kernel_rfl))) (lf (by kernel_rfl))) (lf (by kernel_rfl))) (lf (by kernel_rfl))) (lf (by kernel_rfl))) (lf (by kernel_rfl))) (lf (by kernel_rfl))
theorem said:rl.wellSaid=true:=by
 unfold OpenLaw.wellSaid
 exact and2 (and2 (and2 (and2 (and2 (and2 (and2 (and2 (and2 (and2 (and2 (and2 (and2 (and2 (and2 (and2 (and2 (and2 Zle (lf (by kernel_rfl))) (lf (by kernel_rfl))) (lf (by kernel_rfl))) (lf (by kernel_rfl))) (lf (by kernel_rfl))) (lf (by kernel_rfl))) (lf (by kernel_rfl))) (lf (by kernel_rfl))) (lf (by kernel_rfl))) (lf (by kernel_rfl))) (lf (by kernel_rfl))) (lf (by kernel_rfl))) (lf (by kernel_rfl))) (lf (by kernel_rfl))) (lf (by kernel_rfl))) (lf (by kernel_rfl))) (lf (by kernel_rfl))) (lf (by kernel_rfl))
theorem lawS:(defOf qv "law").isSome=true:=by kernel_rfl
noncomputable def lawD:DefRec×List (Str×Expr):=(defOf qv "law").get lawS
theorem Zl0:defOf qv "law"=some (lawD.1,lawD.2):=(Option.some_get lawS).symm
theorem whole:PySem.Challenge.rw_pq1079_01.Holds:=by
 w_on
 refine holds_law said fun said=>?_
 refine holds_open (q:=qv) (loose:=loo) (d:=lawD.1) (kwd:=lawD.2) (Xt:=fun _=>true) (XP:=fun _ _=>True) (Yf:=fun s=>kfL (frag s.heap)) (Ya:=fun _=>kfR) (YP:=fun _ h=>∃K:Frag,KF K∧K.In h) (N:=5000) (left big) (fun w s e=>⟨_,Zop e,ZlG _⟩) (fun w h h' e k=>e.imp fun K x=>⟨x.1,x.2.keeps k⟩) (fun _ _=>trivial) (fun _ _ _ x _=>x) Zl0 (by kernel_rfl) (by kernel_rfl) (fun s e=>recFacts_of (by rfl)) (by rfl) (by assumption) (by decide+kernel) ⟨rfl,rfl,rfl,rfl,rfl,by decide+kernel⟩ ?hw ?_
 case hw=>w_witness2
 intro w s₀ s₁ mg mb G Y fa o pm cd doc dV kV ho hd' hcd hD hmg hg args vals as hpre hlay hrd hwl hlo
 obtain⟨K,hK,KX⟩:=Y
 have hn:lawD.1.name="law":=by kernel_rfl
 rw[hn]at hmg
 clear hd' hcd hD hn
 refine Ground.open G ?_
 intro T B D TE TW
 clear B D TE TW
 wrow_args hpre hlay hrd hwl hlo
 rename_i ns hsh hlay0 hL1 hrW hl2 as4 as3 x vs as1 hL ra w1 r0 hI hrR hcond ht
 have hlen:ns.length≤63:=by simp at hcond;omega
 obtain⟨h₀,hsame,hlast⟩:=Zdq _ s₁.heap rfl ⟨_,_,ho⟩
 have kk:∀a o,s₁.heap.get? a=some o→h₀.get? a=some o:=fun a o e=>(hsame a).trans e
 have hfa:fa=354:=by
  have e:=mg_of KX T.g ((congrArg (nsIn K mainGlobals) (show nm 42="law" by kernel_rfl)).symm.trans (List.map_inj_left.mp hK.b 42 (List.contains_iff_mem.mp (by kernel_rfl))))
  rw[hmg]at e
  exact Value.ref.inj (Option.some.inj e)
 subst hfa
 obtain⟨ol,hol,hcl,n,hdat⟩:=hL
 have R:=Zj7 Zot ⟨PySem.Challenge.rw_pq1079_01.row.prog,w,h₀,K,mg,mb,117,s₁.os,s₁.gens,KX.keeps kk,T.g.keeps kk,T.b.keeps kk,T.nolimit.keeps kk,T.builtins,hlast,Nat.lt_of_lt_of_le (by decide) (Nat.le_of_lt (T.g.keeps kk).lt)⟩ hK rfl s₁ x ol vs.toArray n ns hol hcl hdat hI hlen hsame ⟨rfl,rfl⟩
 refine wpAny_mono R (fun y s' h=>?_) fun _ _ h=>h.elim
 obtain⟨hy,hk,ho',hg'⟩:=h
 cases hy
 refine GoodW.toG ⟨.inl ?_,fun a o e=>hk a o (kk a o e),ho',hg'.trans hg⟩
 refine⟨_,ofPy (.bool true),[],rfl,fun _=>rfl,ReadsW.bool true,?_,fun _=>⟨List.nodup_nil,fun _ h=>nomatch h⟩⟩
 wrow_post
end
end Mine
set_option maxRecDepth 100000 in
set_option maxHeartbeats 8000000 in
theorem PySem.Challenge.cw_pq1079_01_holds : PySem.Challenge.rw_pq1079_01.Holds := by
 exact Mine.whole
