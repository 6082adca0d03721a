import PyProof.Rows.All
import Wide.All
import OpenK.AllK
import Wide.FinOn
import PySem.Challenge.RW_nm0136_01
set_option Elab.async false
set_option maxRecDepth 100000
set_option autoImplicit true
set_option linter.all false
set_option maxHeartbeats 0
set_option genInjectivity false
set_option genSizeOf false
set_option compiler.extract_closed false
set_option bootstrap.genMatcherCode false
set_option tactic.hygienic false
noncomputable section
section
namespace Mine.Internal.L
noncomputable abbrev Fi:=Fin
noncomputable abbrev V:=List Int×List Int
noncomputable abbrev En:=List Nat×List Int
noncomputable def dot(l m:List Int):Int:=(List.zipWith (λa b=>a*b) l m).sum
noncomputable def rC(l:List Int):List Int->List Int:=l.rec (λm=>m) λa l ih m=>m.rec (a::l) λb m _=>(a+b)::ih m
noncomputable def mulL(k:Int)(l:List Int):List Int:=l.map λa=>k*a
noncomputable def unit(i:Nat):List Int:=i.rec [1] λ_ l=>0::l
noncomputable def get{α:Type}(d:α)(l:List α):Nat->α:=l.rec (λ_=>d) λa _ ih i=>i.rec a λi _=>ih i
noncomputable def BH(l:List Nat):List Int:=l.map Int.ofNat
theorem a4(a b c d:Int):(a+b)+(c+d)=(a+c)+(b+d):=by rw[Int.add_assoc,Int.add_assoc,Int.add_left_comm b c d]
theorem JK(l m n:List Int):dot (rC l m) n=dot l n+dot m n:=by
 induction l generalizing m n with
 |nil=>exact(Int.zero_add _).symm
 |cons a l ih=>
  cases m with
  |nil=>exact(Int.add_zero _).symm
  |cons b m=>
   cases n with
   |nil=>rfl
   |cons c n=>show(a+b)*c+dot (rC l m) n=(a*c+dot l n)+(b*c+dot m n);rw[ih,Int.add_mul];exact a4 _ _ _ _
theorem JL(k:Int)(l n:List Int):dot (mulL k l) n=k*dot l n:=by
 induction l generalizing n with
 |nil=>exact(Int.mul_zero k).symm
 |cons a l ih=>
  cases n with
  |nil=>exact(Int.mul_zero k).symm
  |cons c n=>show k*a*c+dot (mulL k l) n=k*(a*c+dot l n);rw[ih,Int.mul_add,Int.mul_assoc]
theorem I0(i:Nat):∀n:List Int,dot (unit i) n=get 0 n i:=by
 induction i with
 |zero=>
  intro n;cases n with
  |nil=>rfl
  |cons a n=>show 1*a+dot [] n=a;rw[Int.one_mul];exact Int.add_zero a
 |succ i ih=>
  intro n;cases n with
  |nil=>rfl
  |cons a n=>show 0*a+dot (unit i) n=get 0 n i;rw[Int.zero_mul,Int.zero_add];exact ih n
theorem Tf(n:List Nat):∀i:Nat,get 0 (BH n) i=Int.ofNat (get 0 n i):=by
 induction n with
 |nil=>exactλi=>rfl
 |cons a n ih=>intro i;cases i with|zero=>rfl|succ i=>exact ih i
noncomputable def ev(v:V)(e:En):Int:=dot v.1 (1::e.2)+dot v.2 (BH e.1)
noncomputable def vC(v w:V):V:=(rC v.1 w.1,rC v.2 w.2)
noncomputable def r8(k:Int)(v:V):V:=(mulL k v.1,mulL k v.2)
noncomputable def vk(k:Int):V:=([k],[])
theorem wQ(v w:V)(e:En):ev (vC v w) e=ev v e+ev w e:=by show dot (rC v.1 w.1) _+dot (rC v.2 w.2) _=(_+_)+(_+_);rw[JK,JK];exact a4 _ _ _ _
theorem sP(k:Int)(v:V)(e:En):ev (r8 k v) e=k*ev v e:=by show dot (mulL k v.1) _+dot (mulL k v.2) _=k*(_+_);rw[JL,JL,Int.mul_add]
theorem r9(k:Int)(e:En):ev (vk k) e=k:=by show k*1+dot [] e.2+dot [] _=k;rw[Int.mul_one];exact(Int.add_zero _).trans (Int.add_zero _)
noncomputable def oN(v w:V):V:=vC v (r8 (-1) w)
theorem Aw(v w:V)(e:En):ev (oN v w) e=ev v e-ev w e:=by rw[oN,wQ,sP,Int.neg_one_mul];rfl
noncomputable def om(v:V):V:=(v.1,0::v.2)
noncomputable def vU(v:V):V:=(v.1.rec [] λc r _=>c::0::r,v.2)
theorem qF(v:V)(a:Nat)(e:En):ev (om v) (a::e.1,e.2)=ev v e:=by show dot v.1 _+(0*Int.ofNat a+dot v.2 _)=_;rw[Int.zero_mul,Int.zero_add];rfl
theorem wR(v:V)(a:Int)(e:En):ev (vU v) (e.1,a::e.2)=ev v e:=by
 obtain⟨l,m⟩:=v;cases l with
 |nil=>rfl
 |cons c r=>show c*1+(0*a+dot r _)+dot m _=_;rw[Int.zero_mul,Int.zero_add];rfl
noncomputable abbrev Al(c:List V)(e:En):Prop:=∀v∈c,0<=ev v e
noncomputable abbrev pf(k:List (List V))(e:En):Prop:=∃c∈k,Al c e
noncomputable def prod(a b:List (List V)):List (List V):=a.flatMap λx=>b.map λy=>x++y
theorem tK{a b:List (List V)}{e:En}(h:pf a e)(g:pf b e):pf (prod a b) e:=
 h.elim λx hx=>g.elim λy hy=>⟨x++y,List.mem_flatMap.mpr ⟨x,hx.1,List.mem_map.mpr ⟨y,hy.1,rfl⟩⟩,λv hv=>(List.mem_append.mp hv).elim (hx.2 v) (hy.2 v)⟩
theorem sl{a:List (List V)}(b:List (List V)){e:En}:pf a e->pf (a++b) e:=λh=>h.elim λc h=>⟨c,List.mem_append_left _ h.1,h.2⟩
theorem sr(a:List (List V)){b:List (List V)}{e:En}:pf b e->pf (a++b) e:=λh=>h.elim λc h=>⟨c,List.mem_append_right _ h.1,h.2⟩
theorem uO{v:V}{e:En}(h:0<=ev v e):Al [v] e:=λw hw=>by rw[List.mem_singleton.mp hw];exact h
theorem vV{v:V}{c:List V}{e:En}(h:0<=ev v e)(g:Al c e):Al (v::c) e:=λw hw=>(List.mem_cons.mp hw).elim (λq=>q▸h) (g w)
theorem s1{c:List V}{k:List (List V)}{e:En}(h:Al c e):pf (c::k) e:=⟨c,.head _,h⟩
theorem s2{c c':List V}{e:En}(h:Al c e):pf [c',c] e:=⟨c,.tail _ (.head _),h⟩
noncomputable abbrev It:={x:(En->Int)×V // ∀e,ev x.2 e=x.1 e}
noncomputable abbrev Nt:={x:(En->Nat)×V // ∀e,ev x.2 e=Int.ofNat (x.1 e)}
noncomputable abbrev Fm:={x:(En->Prop)×(Bool->List (List V)) // (∀e,x.1 e->pf (x.2 true) e)/\∀e,¬x.1 e->pf (x.2 false) e}
noncomputable def nv(i:Nat):Nt:=⟨(λe=>get 0 e.1 i,([],unit i)),λe=>(Int.zero_add _).trans ((I0 i _).trans (Tf _ i))⟩
noncomputable def nk(n:Nat):Nt:=⟨(λ_=>n,vk n),λe=>r9 n e⟩
noncomputable def na(x y:Nt):Nt:=⟨(λe=>x.1.1 e+y.1.1 e,vC x.1.2 y.1.2),λe=>by rw[wQ,x.2,y.2];rfl⟩
noncomputable def nm(k:Nat)(x:Nt):Nt:=⟨(λe=>k*x.1.1 e,r8 k x.1.2),λe=>by rw[sP,x.2];rfl⟩
noncomputable def nr(k:Nat)(x:Nt):Nt:=⟨(λe=>x.1.1 e*k,r8 k x.1.2),λe=>by rw[sP,x.2];exact congrArg Int.ofNat (Nat.mul_comm k _)⟩
noncomputable def iv(i:Nat):It:=⟨(λe=>get 0 e.2 i,(0::unit i,[])),λe=>by
 show 0*1+dot (unit i) e.2+dot [] _=_
 rw[I0,Int.zero_mul,Int.zero_add];exact Int.add_zero _⟩
noncomputable def ik(n:Nat):It:=⟨(λ_=>Int.ofNat n,vk n),λe=>r9 n e⟩
noncomputable def ia(x y:It):It:=⟨(λe=>x.1.1 e+y.1.1 e,vC x.1.2 y.1.2),λe=>by rw[wQ,x.2,y.2]⟩
noncomputable def is(x y:It):It:=⟨(λe=>x.1.1 e-y.1.1 e,oN x.1.2 y.1.2),λe=>by rw[Aw,x.2,y.2]⟩
noncomputable def im(k:Nat)(x:It):It:=⟨(λe=>Int.ofNat k*x.1.1 e,r8 k x.1.2),λe=>by rw[sP,x.2];rfl⟩
noncomputable def ir(k:Nat)(x:It):It:=⟨(λe=>x.1.1 e*Int.ofNat k,r8 k x.1.2),λe=>by rw[sP,x.2,Int.mul_comm];rfl⟩
noncomputable def ig(x:It):It:=⟨(λe=>-x.1.1 e,r8 (-1) x.1.2),λe=>by rw[sP,x.2,Int.neg_one_mul]⟩
noncomputable def ic(x:Nt):It:=⟨(λe=>Int.ofNat (x.1.1 e),x.1.2),x.2⟩
theorem rZ{x y:V}{e:En}{a b:Int}(hx:ev x e=a)(hy:ev y e=b)(h:a<=b):0<=ev (oN y x) e:=by rw[Aw,hx,hy];exact Int.sub_nonneg_of_le h
theorem DI{x y:V}{e:En}{a b:Int}(hx:ev x e=a)(hy:ev y e=b)(h:a<b):0<=ev (oN (oN y x) (vk 1)) e:=by rw[Aw,r9,Aw,hx,hy];exact Int.sub_nonneg_of_le (Int.le_sub_left_of_add_le h)
noncomputable def xl(x y:V)(b:Bool):List (List V):=cond b [[oN y x]] [[oN (oN x y) (vk 1)]]
noncomputable def BI(x y:V)(b:Bool):List (List V):=cond b [[oN y x,oN x y]] [[oN (oN x y) (vk 1)],[oN (oN y x) (vk 1)]]
theorem AQ{x y:V}{e:En}{a b:Int}(hx:ev x e=a)(hy:ev y e=b)(h:a<=b):pf (xl x y true) e:=s1 (uO (rZ hx hy h))
theorem AR{x y:V}{e:En}{a b:Int}(hx:ev x e=a)(hy:ev y e=b)(h:¬a<=b):pf (xl x y false) e:=s1 (uO (DI hy hx (Int.not_le.mp h)))
theorem La{x y:V}{e:En}{a b:Int}(hx:ev x e=a)(hy:ev y e=b)(h:a=b):pf (BI x y true) e:=s1 (vV (rZ hx hy (Int.le_of_eq h)) (uO (rZ hy hx (Int.le_of_eq h.symm))))
theorem Lb{x y:V}{e:En}{a b:Int}(hx:ev x e=a)(hy:ev y e=b)(h:¬a=b):pf (BI x y false) e:=
 (Int.lt_or_gt_of_ne h).elim (λq=>s2 (uO (DI hx hy q))) (λq=>s1 (uO (DI hy hx q)))
noncomputable def fle(x y:It):Fm:=⟨(λe=>x.1.1 e<=y.1.1 e,xl x.1.2 y.1.2),λe=>AQ (x.2 e) (y.2 e),λe=>AR (x.2 e) (y.2 e)⟩
noncomputable def BJ(x y:It):Fm:=⟨(λe=>x.1.1 e<y.1.1 e,λb=>xl y.1.2 x.1.2 (!b)),λe h=>AR (y.2 e) (x.2 e) (Int.not_le.mpr h),λe h=>AQ (y.2 e) (x.2 e) (Int.not_lt.mp h)⟩
noncomputable def feq(x y:It):Fm:=⟨(λe=>x.1.1 e=y.1.1 e,BI x.1.2 y.1.2),λe=>La (x.2 e) (y.2 e),λe=>Lb (x.2 e) (y.2 e)⟩
noncomputable def gle(x y:Nt):Fm:=⟨(λe=>x.1.1 e<=y.1.1 e,xl x.1.2 y.1.2),λe h=>AQ (x.2 e) (y.2 e) (Int.ofNat_le.mpr h),λe h=>AR (x.2 e) (y.2 e) λq=>h (Int.ofNat_le.mp q)⟩
noncomputable def glt(x y:Nt):Fm:=⟨(λe=>x.1.1 e<y.1.1 e,λb=>xl y.1.2 x.1.2 (!b)),λe h=>AR (y.2 e) (x.2 e) λq=>Nat.not_le.mpr h (Int.ofNat_le.mp q),λe h=>AQ (y.2 e) (x.2 e) (Int.ofNat_le.mpr (Nat.not_lt.mp h))⟩
noncomputable def geq(x y:Nt):Fm:=⟨(λe=>x.1.1 e=y.1.1 e,BI x.1.2 y.1.2),λe h=>La (x.2 e) (y.2 e) (congrArg Int.ofNat h),λe h=>Lb (x.2 e) (y.2 e) λq=>h (Int.ofNat.inj q)⟩
noncomputable def fno(x:Fm):Fm:=⟨(λe=>¬x.1.1 e,λb=>x.1.2 (!b)),λe h=>x.2.2 e h,λe h=>x.2.1 e (Classical.not_not.mp h)⟩
noncomputable def BK(x y:Fm):Fm:=⟨(λe=>x.1.1 e/\y.1.1 e,λb=>cond b (prod (x.1.2 true) (y.1.2 true)) (x.1.2 false++y.1.2 false)),λe h=>tK (x.2.1 e h.1) (y.2.1 e h.2),λe h=>(Classical.em (x.1.1 e)).elim (λa=>sr _ (y.2.2 e λq=>h ⟨a,q⟩)) (λa=>sl _ (x.2.2 e a))⟩
noncomputable def VD(x y:Fm):Fm:=⟨(λe=>x.1.1 e\/y.1.1 e,λb=>cond b (x.1.2 true++y.1.2 true) (prod (x.1.2 false) (y.1.2 false))),λe h=>h.elim (λa=>sl _ (x.2.1 e a)) (λa=>sr _ (y.2.1 e a)),λe h=>tK (x.2.2 e λa=>h (.inl a)) (y.2.2 e λa=>h (.inr a))⟩
noncomputable def vW(x y:Fm):Fm:=⟨(λe=>x.1.1 e->y.1.1 e,λb=>cond b (x.1.2 false++y.1.2 true) (prod (x.1.2 true) (y.1.2 false))),λe h=>(Classical.em (x.1.1 e)).elim (λa=>sr _ (y.2.1 e (h a))) (λa=>sl _ (x.2.2 e a)),
 λe h=>tK (x.2.1 e (Classical.byContradiction λa=>h λq=>(a q).elim)) (y.2.2 e λa=>h λ_=>a)⟩
noncomputable def fif(x y:Fm):Fm:=⟨(λe=>x.1.1 e↔y.1.1 e,(BK (vW x y) (vW y x)).1.2),λe h=>(BK (vW x y) (vW y x)).2.1 e ⟨h.1,h.2⟩,λe h=>(BK (vW x y) (vW y x)).2.2 e λq=>h ⟨q.1,q.2⟩⟩
noncomputable def ES:Fm:=⟨(λ_=>False,λb=>cond b [] [[]]),λ_ h=>h.elim,λ_ _=>s1 λ_ h=>nomatch h⟩
noncomputable def num(f:Nat):Nat->Nat×Nat:=f.rec (λs=>(0,s)) λ_ num s=>cond (Nat.ble 8 (s%16)) ((λr:Nat×Nat=>(s%16-8+8*r.1,r.2)) (num (s/16))) (s%16,s/16)
noncomputable def w4(c:List V):V->Nat->V×Nat:=c.rec (λa s=>(a,s)) λv _ w4 a s=>(λn:Nat×Nat=>w4 (vC a (r8 n.1 v)) n.2) (num 40 s)
noncomputable def Bh(l:List Int):Bool:=l.rec true λa _ h=>cond (Nat.beq a.natAbs 0) h false
noncomputable def yA(l:List Int):Bool:=l.rec true λa _ h=>cond (Nat.beq a.toNat 0) h false
noncomputable def bad(v:V):Bool:=v.1.rec false λa r _=>cond (Nat.ble 1 (-a).toNat) (cond (Bh r) (yA v.2) false) false
noncomputable def xm(k:List (List V)):Nat->Bool:=k.rec (λ_=>true) λc _ h s=>(λr:V×Nat=>cond (bad r.1) (h r.2) false) (w4 c ([],[]) s)
theorem Tg{e:En}(c:List V):∀(a:V) (s:Nat),0<=ev a e->Al c e->0<=ev (w4 c a s).1 e:=by
 induction c with
 |nil=>exactλa s h k=>h
 |cons v c ih=>exactλa s h k=>ih _ _ (by rw[wQ,sP];exact Int.add_nonneg h (Int.mul_nonneg (Int.natCast_nonneg _) (k v (.head _)))) λw hw=>k w (.tail _ hw)
theorem x_{a b:Bool}(h:cond a b false=true):a=true/\b=true:=by
 cases a with
 |true=>exact⟨rfl,h⟩
 |false=>cases h
theorem Th(l:List Int):∀n:List Int,Bh l=true->dot l n=0:=by
 induction l with
 |nil=>exactλn h=>rfl
 |cons a l ih=>
  intro n h;cases n with
  |nil=>rfl
  |cons b n=>have h:=x_ (b:=Bh l) h;show a*b+dot l n=0;rw[ih n h.2,Int.natAbs_eq_zero.mp (Nat.eq_of_beq_eq_true h.1),Int.zero_mul];rfl
theorem Ti(l:List Int):∀n:List Nat,yA l=true->dot l (BH n)<=0:=by
 induction l with
 |nil=>exactλn h=>Int.le_refl 0
 |cons a l ih=>
  intro n h;cases n with
  |nil=>exact Int.le_refl 0
  |cons b n=>have h:=x_ (b:=yA l) h;exact Int.add_nonpos (Int.mul_nonpos_of_nonpos_of_nonneg (Int.toNat_eq_zero.mp (Nat.eq_of_beq_eq_true h.1)) (Int.natCast_nonneg b)) (ih n h.2)
theorem Uc{v:V}{e:En}(h:bad v=true):ev v e<0:=by
 obtain⟨l,m⟩:=v;cases l with
 |nil=>cases h
 |cons a r=>have h:=x_ (b:=cond (Bh r) (yA m) false) h;have g:=x_ (b:=yA m) h.2;show a*1+dot r e.2+dot m (BH e.1)<0;rw[Th r _ g.1,Int.mul_one,Int.add_zero];exact Int.lt_of_le_of_lt (Int.add_le_add_left (Ti m e.1 g.2) _) ((Int.add_zero a).symm▸Int.lt_of_neg_lt_neg (Int.lt_of_not_ge λq=>Nat.lt_irrefl 0 (Nat.lt_of_lt_of_le (Nat.le_of_ble_eq_true h.1) (Nat.le_of_eq (Int.toNat_eq_zero.mpr q)))))
theorem Ud{e:En}(k:List (List V)):∀s:Nat,xm k s=true->¬pf k e:=by
 induction k with
 |nil=>exactλs h q=>q.elim λx q=>nomatch q.1
 |cons c k ih=>intro s h q;have h:=x_ (a:=bad (w4 c ([],[]) s).1) (b:=xm k (w4 c ([],[]) s).2) h;exact q.elim λx q=>(List.mem_cons.mp q.1).elim (λm=>Int.not_le.mpr (Uc h.1) (Tg c ([],[]) s (Int.le_of_eq ((sP 0 ([],[]) e).trans (Int.zero_mul _)).symm) (m▸q.2))) λm=>ih _ h.2 ⟨x,m,q.2⟩
noncomputable abbrev G(K:List (List V)):={x:(En->Prop)×Bool // x.2=true->∀e,pf K e->x.1 e}
noncomputable def smap(f:V->V)(K:List (List V)):List (List V):=K.map λc=>c.map f
theorem ur{f:V->V}{K:List (List V)}{e e':En}(h:∀v,ev (f v) e'=ev v e):pf K e->pf (smap f K) e':=λk=>k.elim λc k=>⟨c.map f,List.mem_map.mpr ⟨c,k.1,rfl⟩,λv hv=>(List.mem_map.mp hv).elim λw hw=>by rw[<-hw.2,h];exact k.2 w hw.1⟩
noncomputable def LN{K:List (List V)}(f:Fm)(s:Nat):G K:=⟨(f.1.1,xm (prod K (f.1.2 false)) s),λh e k=>Classical.byContradiction λq=>Ud _ s h (tK k (f.2.2 e q))⟩
noncomputable def gbn{K:List (List V)}(g:G (smap om K)):G K:=⟨(λe=>∀a:Nat,g.1.1 (a::e.1,e.2),g.1.2),λh e k a=>g.2 h _ (ur (λv=>qF v a e) k)⟩
noncomputable def gbi{K:List (List V)}(g:G (smap vU K)):G K:=⟨(λe=>∀a:Int,g.1.1 (e.1,a::e.2),g.1.2),λh e k a=>g.2 h _ (ur (λv=>wR v a e) k)⟩
noncomputable def yW{K:List (List V)}(f:En->Nat)(q:List (List V))(hq:∀e,pf q (f e::e.1,e.2))(g:G (prod (smap om K) q)):G K:=⟨(λe=>g.1.1 (f e::e.1,e.2),g.1.2),λh e k=>g.2 h _ (tK (ur (λv=>qF v _ e) k) (hq e))⟩
noncomputable def gdi{K:List (List V)}(f:En->Int)(q:List (List V))(hq:∀e,pf q (e.1,f e::e.2))(g:G (prod (smap vU K) q)):G K:=⟨(λe=>g.1.1 (e.1,f e::e.2),g.1.2),λh e k=>g.2 h _ (tK (ur (λv=>wR v _ e) k) (hq e))⟩
noncomputable def z0:V:=([],[1])
noncomputable def y0:V:=([0,1],[])
theorem vD(a:Nat)(e:En):ev z0 (a::e.1,e.2)=Int.ofNat a:=(nv 0).2 (a::e.1,e.2)
theorem VE(a:Int)(e:En):ev y0 (e.1,a::e.2)=a:=(iv 0).2 (e.1,a::e.2)
noncomputable def eq2(x y:V):List V:=[oN y x,oN x y]
theorem Ax{x y:V}{e:En}{a b:Int}(hx:ev x e=a)(hy:ev y e=b)(h:a=b):Al (eq2 x y) e:=vV (rZ hx hy (Int.le_of_eq h)) (uO (rZ hy hx (Int.le_of_eq h.symm)))
section
variable {K:List (List V)}
noncomputable abbrev Kn(K q:List (List V)):=prod (smap om K) q
noncomputable def two(x y u v w:V):List (List V):=[oN x y::eq2 z0 u,oN y x::eq2 v w]
theorem ye{x y u v w:V}{a:Nat}{e:En}{i j k:Int}(hx:ev x e=i)(hy:ev y e=j)(hu:ev u e=k)(hv:j<=i->Int.ofNat a=k){m n:Int}(hm:ev v (a::e.1,e.2)=m)(J:ev w (a::e.1,e.2)=n)(hw:i<=j->m=n):pf (two (om x) (om y) (om u) v w) (a::e.1,e.2):=
 (Int.le_total j i).elim (λh=>s1 (vV (rZ ((qF y a e).trans hy) ((qF x a e).trans hx) h) (Ax (vD a e) ((qF u a e).trans hu) (hv h))))
  (λh=>s2 (vV (rZ ((qF x a e).trans hx) ((qF y a e).trans hy) h) (Ax hm J (hw h))))
noncomputable def VF(x y:Nt):=two (om x.1.2) (om y.1.2) (om (oN x.1.2 y.1.2)) z0 (vk 0)
noncomputable def VG(x y:Nt)(g:G (Kn K (VF x y))):G K:=yW (λe=>x.1.1 e-y.1.1 e) _ (λe=>ye (x.2 e) (y.2 e) ((is (ic x) (ic y)).2 e)
 (λh=>Int.ofNat_sub (Int.ofNat_le.mp h)) (vD _ e) (r9 0 _) (λh=>congrArg Int.ofNat (Nat.sub_eq_zero_of_le (Int.ofNat_le.mp h)))) g
noncomputable def VH(x y:Nt):=two (om y.1.2) (om x.1.2) (om x.1.2) z0 (om y.1.2)
noncomputable def VI(x y:Nt)(g:G (Kn K (VH x y))):G K:=yW (λe=>Min.min (x.1.1 e) (y.1.1 e)) _ (λe=>ye (y.2 e) (x.2 e) (x.2 e)
 (λh=>congrArg Int.ofNat (Nat.min_eq_left (Int.ofNat_le.mp h))) (vD _ e) ((qF _ _ e).trans (y.2 e)) (λh=>congrArg Int.ofNat (Nat.min_eq_right (Int.ofNat_le.mp h)))) g
noncomputable def VJ(x y:Nt):=two (om x.1.2) (om y.1.2) (om x.1.2) z0 (om y.1.2)
noncomputable def VK(x y:Nt)(g:G (Kn K (VJ x y))):G K:=yW (λe=>Max.max (x.1.1 e) (y.1.1 e)) _ (λe=>ye (x.2 e) (y.2 e) (x.2 e)
 (λh=>congrArg Int.ofNat (Nat.max_eq_left (Int.ofNat_le.mp h))) (vD _ e) ((qF _ _ e).trans (y.2 e)) (λh=>congrArg Int.ofNat (Nat.max_eq_right (Int.ofNat_le.mp h)))) g
noncomputable def VL(x:It):=two (om x.1.2) (om (vk 0)) (om x.1.2) z0 (vk 0)
noncomputable def VM(x:It)(g:G (Kn K (VL x))):G K:=yW (λe=>(x.1.1 e).toNat) _ (λe=>ye (x.2 e) (r9 0 e) (x.2 e)
 (λh=>Int.toNat_of_nonneg h) (vD _ e) (r9 0 _) (λh=>congrArg Int.ofNat (Int.toNat_eq_zero.mpr h))) g
noncomputable def VN(x:It):=two (om x.1.2) (om (vk 0)) (om x.1.2) z0 (om (r8 (-1) x.1.2))
noncomputable def VO(x:It)(g:G (Kn K (VN x))):G K:=yW (λe=>(x.1.1 e).natAbs) _ (λe=>ye (x.2 e) (r9 0 e) (x.2 e)
 (λh=>Int.natAbs_of_nonneg h) (vD _ e) ((qF _ _ e).trans ((ig x).2 e)) (λh=>Int.ofNat_natAbs_of_nonpos h)) g
noncomputable def z1:V:=([],[0,1])
noncomputable def ddm(x:V)(k:Nat):List (List V):=[oN (vk k) z0::eq2 (om (om x)) (vC (r8 (Int.ofNat (k+1)) z1) z0)]
noncomputable def gdm(x:Nt)(k:Nat)(g:G (Kn (smap om K) (ddm x.1.2 k))):G K:=⟨(λe=>g.1.1 (x.1.1 e%(k+1)::x.1.1 e/(k+1)::e.1,e.2),g.1.2),λh e s=>g.2 h _ (tK (ur (λv=>qF v _ (_::e.1,e.2)) (ur (λv=>qF v _ e) s)) (by
 have hz:=vD (x.1.1 e%(k+1)) (x.1.1 e/(k+1)::e.1,e.2);refine s1 (vV (rZ hz (r9 k _) (Int.ofNat_le.mpr (Nat.le_of_lt_succ (Nat.mod_lt _ (Nat.succ_pos k))))) (Ax (((qF _ _ (_::e.1,e.2)).trans (qF _ _ e)).trans (x.2 e)) (b:=Int.ofNat ((k+1)*(x.1.1 e/(k+1))+x.1.1 e%(k+1))) ?_ (congrArg Int.ofNat (Nat.div_add_mod _ _).symm)))
 rw[wQ,sP,hz,show ev z1 (x.1.1 e%(k+1)::x.1.1 e/(k+1)::e.1,e.2)=_ from(nv 1).2 _];rfl))⟩
noncomputable def y1:V:=([0,0,1],[])
noncomputable def dim(x:V)(k:Nat):List (List V):=[y0::oN (vk k) y0::eq2 (vU (vU x)) (vC (r8 (Int.ofNat (k+1)) y1) y0)]
noncomputable def gim(x:It)(k:Nat)(g:G (prod (smap vU (smap vU K)) (dim x.1.2 k))):G K:=⟨(λe=>g.1.1 (e.1,x.1.1 e%Int.ofNat (k+1)::x.1.1 e/Int.ofNat (k+1)::e.2),g.1.2),λh e s=>g.2 h _ (tK (ur (λv=>wR v _ (e.1,_::e.2)) (ur (λv=>wR v _ e) s)) (by
 have hz:=VE (x.1.1 e%Int.ofNat (k+1)) (e.1,x.1.1 e/Int.ofNat (k+1)::e.2);have hp:0<Int.ofNat (k+1):=Int.ofNat_lt.mpr (Nat.succ_pos k);refine s1 (vV (Int.le_trans (Int.emod_nonneg _ (Int.ne_of_gt hp)) (Int.le_of_eq hz.symm)) (vV (rZ hz (r9 k _) (Int.lt_add_one_iff.mp (Int.emod_lt_of_pos _ hp))) (Ax (((wR _ _ (e.1,_::e.2)).trans (wR _ _ e)).trans (x.2 e)) (b:=Int.ofNat (k+1)*(x.1.1 e/Int.ofNat (k+1))+x.1.1 e%Int.ofNat (k+1)) ?_ (Int.mul_ediv_add_emod _ _).symm)))
 rw[wQ,sP,hz,show ev y1 (e.1,x.1.1 e%Int.ofNat (k+1)::x.1.1 e/Int.ofNat (k+1)::e.2)=_ from(iv 1).2 _];rfl))⟩
noncomputable def dsp(x:V)(n:Nat):List (List V):=[[oN (vk n) x],[oN x (vk (Int.ofNat (n+1)))]]
noncomputable def gsp(x:It)(n:Nat)(g:G (prod K (dsp x.1.2 n))):G K:=⟨(g.1.1,g.1.2),λh e s=>g.2 h e (tK s ((Int.lt_or_le (Int.ofNat n) (x.1.1 e)).elim (λq=>s2 (uO (rZ (r9 _ e) (x.2 e) q))) (λq=>s1 (uO (rZ (x.2 e) (r9 _ e) q)))))⟩
end
noncomputable def rn(f:Nat):Nat->Nt×Nat:=f.rec (λs=>(nk 0,s)) λ_ rn s=>
  let o:=s%16;let s:=s/16
  cond (Nat.beq o 0) (let n:=num 40 s;(nv n.1,n.2))
  (cond (Nat.beq o 1) (let n:=num 40 s;(nk n.1,n.2))
  (cond (Nat.beq o 2) (let x:=rn s;let y:=rn x.2;(na x.1 y.1,y.2))
  (cond (Nat.beq o 3) (let n:=num 40 s;let x:=rn n.2;(nm n.1 x.1,x.2))
  (let n:=num 40 s;let x:=rn n.2;(nr n.1 x.1,x.2)))))
noncomputable def ri(f:Nat):Nat->It×Nat:=f.rec (λs=>(ik 0,s)) λ_ ri s=>
  let o:=s%16;let s:=s/16
  cond (Nat.beq o 0) (let n:=num 40 s;(iv n.1,n.2))
  (cond (Nat.beq o 1) (let n:=num 40 s;(ik n.1,n.2))
  (cond (Nat.beq o 2) (let x:=ri s;let y:=ri x.2;(ia x.1 y.1,y.2))
  (cond (Nat.beq o 3) (let n:=num 40 s;let x:=ri n.2;(im n.1 x.1,x.2))
  (cond (Nat.beq o 4) (let n:=num 40 s;let x:=ri n.2;(ir n.1 x.1,x.2))
  (cond (Nat.beq o 5) (let x:=ri s;let y:=ri x.2;(is x.1 y.1,y.2))
  (cond (Nat.beq o 6) (let x:=ri s;(ig x.1,x.2))
  (let x:=rn f s;(ic x.1,x.2))))))))
noncomputable def rf(f:Nat):Nat->Fm×Nat:=f.rec (λs=>(ES,s)) λ_ rf s=>
  let o:=s%16;let s:=s/16
  cond (Nat.ble o 2) (let x:=rn 30 s;let y:=rn 30 x.2;(cond (Nat.beq o 0) gle (cond (Nat.beq o 1) glt geq) x.1 y.1,y.2))
  (cond (Nat.ble o 5) (let x:=ri 30 s;let y:=ri 30 x.2;(cond (Nat.beq o 3) fle (cond (Nat.beq o 4) BJ feq) x.1 y.1,y.2))
  (cond (Nat.ble o 9) (let x:=rf s;let y:=rf x.2;(cond (Nat.beq o 6) vW (cond (Nat.beq o 7) BK (cond (Nat.beq o 8) VD fif)) x.1 y.1,y.2))
  (cond (Nat.beq o 10) (let x:=rf s;(fno x.1,x.2)) (ES,s))))
noncomputable def rg(f:Nat):(K:List (List V))->Nat->G K:=f.rec (λK s=>LN ES 0) λ_ rg K s=>
  let o:=s%16;let s:=s/16
  cond (Nat.beq o 0) (gbn (rg _ s))
  (cond (Nat.beq o 1) (gbi (rg _ s))
  (cond (Nat.ble o 4) (let x:=rn 30 s;let y:=rn 30 x.2;cond (Nat.beq o 2) (VG x.1 y.1 (rg _ y.2)) (cond (Nat.beq o 3) (VI x.1 y.1 (rg _ y.2)) (VK x.1 y.1 (rg _ y.2))))
  (cond (Nat.ble o 6) (let x:=ri 30 s;cond (Nat.beq o 5) (VM x.1 (rg _ x.2)) (VO x.1 (rg _ x.2)))
  (cond (Nat.beq o 7) (let x:=rn 30 s;let n:=num 40 x.2;gdm x.1 n.1 (rg _ n.2))
  (cond (Nat.beq o 8) (let x:=ri 30 s;let n:=num 40 x.2;gim x.1 n.1 (rg _ n.2))
  (cond (Nat.beq o 9) (let x:=rf 30 s;LN x.1 x.2)
  (let x:=ri 30 s;let n:=num 40 x.2;gsp x.1 n.1 (rg _ n.2))))))))
noncomputable def Q(s:Nat):Prop:=cond (rg 30 [[]] s).1.2 ((rg 30 [[]] s).1.1 ([],[])) True
theorem Tj{b:Bool}{p:Prop}(h:b=true->p):cond b p True:=by
 cases b with
 |true=>exact h rfl
 |false=>trivial
theorem P(s:Nat):Q s:=Tj λq=>(rg 30 [[]] s).2 q _ (s1 λ_ h=>nomatch h)
end Mine.Internal.L
end
theorem Mine.Internal.la{T:Prop}(c:Nat)(h:Mine.Internal.L.Q c=T):T:=h▸Mine.Internal.L.P c
namespace Mine.Internal
@[elab_as_elim] theorem rwP{α:Sort _}{a:α}{P:α->Prop}{b:α}(h:P b)(e:a=b):P a:=e▸h
@[elab_as_elim] theorem rwN{α:Sort _}{a:α}{P:α->Prop}{b:α}(h:P b)(e:b=a):P a:=e▸h
theorem cps{G:Prop}(h:∀K:Prop,(G->K)->K):G:=h G id
def nd(k:Lean.Name)(l:Array Lean.Syntax):Lean.Syntax:=.node .none k l
def yB(l:Array Lean.Syntax):Lean.Syntax:=nd ``Lean.Parser.Tactic.tacticSeq #[nd ``Lean.Parser.Tactic.tacticSeq1Indented #[nd `null l]]
def tR:Lean.Syntax:=nd ``Lean.Parser.Tactic.tacticRfl #[Lean.mkAtom "rfl"]
def tI:Lean.Syntax:=nd ``Lean.Parser.Tactic.intro #[Lean.mkAtom "intro",nd `null #[nd ``Lean.Parser.Term.hole #[Lean.mkAtom "_"]]]
def aR:Lean.Syntax:=yB #[tR]
def aI:Lean.Syntax:=yB #[tI,Lean.mkAtom ";",tR]
def tQ:Lean.Syntax:=nd `PyProof.Rows.tacticKernel_rfl! #[Lean.mkAtom "kernel_rfl!"]
def aQ:Lean.Syntax:=yB #[tQ]
def aP:Lean.Syntax:=yB #[tI,Lean.mkAtom ";",tQ]
def tD(l:Array Lean.Syntax):Lean.Syntax:=yB #[nd ``Lean.Parser.Tactic.decide #[Lean.mkAtom "decide",nd ``Lean.Parser.Tactic.optConfig #[nd `null l]]]
def aD:Lean.Syntax:=tD #[]
def aK:Lean.Syntax:=tD #[nd ``Lean.Parser.Tactic.configItem #[nd ``Lean.Parser.Tactic.posConfigItem #[Lean.mkAtom "+",Lean.mkIdent `kernel]]]
end Mine.Internal
end
section
namespace Mine.Internal
theorem o1:∀{a:Nat},a+3<=a+30:=@L.P 0x13e100231002090
theorem o2:∀{a:Nat},a+1<=a+3:=@L.P 0x13100211002090
theorem o3:∀{a b c d:Nat},a+1<=b->c<=d+30->d+40*b<=9000->c+40*a<=9000:=@L.P 0x1115829cd8130583102029cd8120583002063e1002100620113020690000
theorem o4:∀{a b c d:Nat},a+1<=b->c<=d+3->d+4*b<=900->c+4*a<=900:=@L.P 0x11141e8c1304310201e8c120430020631002100620113020690000
theorem o5:∀{a b:Nat},Min.min a b<=a:=@L.P 0x101110102000090010300
theorem o6:∀{a b:Nat},a+4*b<=900->a<1000:=@L.P 0x111fd811011e8c1004310206900
theorem o7:∀{a b:Nat},a<=900->b<=a+1->b<=16777216+1:=@L.P 0x11111188888888120001110200061e8c11006900
theorem o8:∀{a:Nat},a+1<=900->a<=900:=@L.P 0x111e8c10001e8c1110020690
theorem o9:1<=16777216:=@L.P 0x118888888811109
theorem ET:∀{a:Nat},a+3+1<=a+30:=@L.P 0x13e100211310022090
theorem o11:∀{a b:Nat},a<=900->b=a->a<=16777216:=@L.P 0x100118888888811001000261e8c11006900
theorem o12:∀{a b:Nat},a+b<=16000000->a+b<=16777216:=@L.P 0x1118888888810010207d8aa88810010206900
theorem Ny:∀{a:Nat},a<=16000000->a<=1099511627776:=@L.P 0x112888888888888810007d8aa8881000690
theorem Nz:∀{a:Nat},a<=16000000->a<=16777216:=@L.P 0x1118888888810007d8aa8881000690
theorem NA:∀{a b:Nat},a=b->b<=900->b<=16777216:=@L.P 0x110018888888810001e8c10006001026900
theorem o16:∀{a:Nat},a<=1000000->a+a*0<=16777216:=@L.P 0x111888888881000400203ec99881000690
theorem o17:∀{a:Nat},1+a=a+1:=@L.P 0x111100200112290
theorem xn:∀{a:Nat},a<=900000->a<=16777216:=@L.P 0x1118888888810003bbdec81000690
theorem BL:∀{a:Int},0<=a->a=(↑a.toNat:Int):=@L.P 0x1101010001100101010000700500013690051
theorem o20:∀{a b:Nat},¬a<b->b<=a:=@L.P 0x111000000101a6900
theorem o21:∀{a b:Int},a<b->¬a=b:=@L.P 0x10100105a001046911
theorem o22:∀{a:Nat},a<=900000->a<=15999999:=@L.P 0x117d8a9fff10003bbdec81000690
theorem o23:∀{a:Int},0<=a->a<256->¬a<0/\¬a>=256:=@L.P 0x1101010048813a01004a74881004600013691
theorem o24:∀{a:Nat},a<=16000000->¬a>16777216:=@L.P 0x110018888888811a7d8aa8881000690
theorem o25:∀{a b c d:Nat},a=b->b-c=d+1->c<b->b-(c+1)=d:=@la _ 0x10100000001010000001000010100000001010000001000110100000101010000001000010100010001010010001010020002403016112021026405026911202302102020000 (by kernel_rfl!)
theorem o26:∀{a b c d:Nat},a+b<=900000->c=b->d<b->Min.min (d+1) b<=16000000:=@L.P 0x10001010100010117d8aa88810003010163020263bbdec8130402069201100230000
theorem yX:∀{a b c:Nat},a=b->c<b->c<a:=@L.P 0x1110200011000161020269000
theorem o28:∀{a b c d:Nat},a=b->b-c=d+1->c<=b->c<b:=@L.P 0x1000010101000010302013020061110200263040269102020000
theorem o29:∀{a b c:Nat},a+b<=900000->c=b->a+b<=900000:=@L.P 0x10013bbdec811020201000263bbdec8110202069000
theorem o30:∀{a b c:Nat},a=b->b-c=0->c<=b->c=b:=@L.P 0x10000000111000000010010010010000000120102201006010026203026900102000
theorem o31:∀{a b:Nat},a+b<=900000->a+b<=16000000:=@L.P 0x117d8aa88810010203bbdec810010206900
theorem o32:∀{a b:Nat},a<=16000000->(↑b:Int)=(↑a:Int)->¬(↑a:Int)<0:=@L.P 0x1000011074a107007567d8aa88811006900
theorem o33:∀{a b:Nat},a<=900000->¬a<64->b=a->a<=16777216+1:=@L.P 0x1000111188888888121001000261881101a63bbdec811006900
theorem NB:∀{a:Nat},a<=900000->¬a<64->a<=16777216:=@L.P 0x10118888888810001881001a63bbdec81000690
theorem o36:∀{a b c d:Nat},a<=b->b<c->c=d->b<d:=@L.P 0x101100020100102610201620300690000
theorem ND:∀{a b c d:Nat},a<=b->b<c->c=d->a<d:=@L.P 0x101110030100102610201620300690000
theorem NF:∀{a b:Nat},a<=b->¬a=b->a<b:=@L.P 0x1100110010100102a6001006900
theorem o39:∀{a b c:Nat},a<b->b=c->a<c:=@L.P 0x1011002010010261020169000
theorem o40:∀{a b c d:Nat},a<=b->b<c->c=d->a<c:=@L.P 0x100111030100102610201620300690000
theorem o41:1<=1:=@L.P 0x1111109
theorem o42:∀{a b:Nat},a<=b+0->¬b<a:=@L.P 0x1110001a010021006900
theorem o43:∀{a:Nat},2<=a->1<=a:=@L.P 0x110011000210690
theorem o44:∀{a:Nat},2<=a->¬0>=a:=@L.P 0x1101000a00210690
theorem o45:∀{a:Nat},2<=a->Max.max 0 a=0->False:=@L.P 0x11100001001b0100261021069000140
theorem o46:∀{a b:Int}{c d:Nat},a<b->b<=a->c=d:=@L.P 0x110110010210003600104690011
theorem o47:∀{a:Nat},1<=a->a-1<=a:=@L.P 0x1101010010100001011069110020
theorem o48:∀{a b:Nat},a<=b->b<1->a=b:=@L.P 0x11010100102110016001006900
theorem o49:∀{a b c:Nat},¬a<64->b<=a/2+Max.max c (a%2)->b<=a+c:=@L.P 0x221020101221020100305024000020240061881501a69002041207000
theorem o50:∀{a b c:Nat},a=b->a<=c->b<=c:=@L.P 0x1110001000020061020269000
theorem o51:∀{a b:Int},a<=b\/b<=a:=@L.P 0x1110003001038911
theorem NG:∀{a b c:Int},a<=b->b<=c->a<=c:=@L.P 0x111002030010361020369111
theorem BM:∀{a b:Nat},a=b->a<=b:=@L.P 0x10100100001026900
theorem o54:∀{a b c d:Nat},a=b->c<a->d=b->d<=c->False:=@L.P 0x110101b10000620002630101620302690000
theorem o55:∀{a b c d:Nat},a+b<=900000->c=b->d=a->a+b<=16777216:=@L.P 0x10000118888888812030203000262010263bbdec81203020690000
theorem o56:∀{a:Nat},a<=900000->a<=16777215:=@L.P 0x117fffffff10003bbdec81000690
theorem o57:∀{a:Nat},a<64->a+1<=64:=@L.P 0x1118811100201881001690
theorem o58:∀{a b:Int},0<=a->a<b->¬a=0->a.natAbs≠0:=@la _ 0x10100000100010001000100110010001002a01105a6001046100136910611 (by kernel_rfl!)
theorem o59:0<=64:=@L.P 0x118810109
theorem o60:∀{a:Int},0<a->a<1000000000->a.natAbs<1073741824:=@L.P 0x1010101100101888888888810017bcedcd8881004600014690061
theorem o61:∀{a:Int},0<a->a<1000000000->a≠0:=@L.P 0x10101005a7bcedcd8881004600014691
theorem o62:∀{a b:Int}{c d:Nat},0<=a->a<b->c=d->a.toNat<d->a<(↑c:Int):=@la _ 0x11100000111100010020710410001610202600104610013691050011 (by kernel_rfl!)
theorem o63:∀{a b:Int},0<=a->a<b->-b<=a:=@L.P 0x112100063001046100136911
theorem o64:∀{a b:Nat}{c:Int},a=b->c.toNat<b->c.toNat<a:=@L.P 0x11100001110000200011000161020269005100
theorem o65:∀{a:Nat},(-1+(↑(a+1):Int)).toNat=a:=@L.P 0x1001101011001010100029110027116250
theorem o66:∀{a:Nat},-(↑(a+1):Int)<=-1:=@L.P 0x11161100276390
theorem NH:∀{a b:Nat},a+64<b->a<b:=@L.P 0x110010100188110216900
theorem o68:∀{a:Int},0<=a->a<=1000->a<=16777216:=@L.P 0x11018888888810031fd81003600013691
theorem o69:∀{a:Int},0<=a->a<=1000->a<=1152921504606846975:=@L.P 0x1107fffffffffffffffffff10031fd81003600013691
theorem o70:∀{a:Int},0<=a->a<=1000->-9223372036854775808<=a/\a<9223372036854775808:=@L.P 0x1101011888888888888888888888100400188888888888888888888816371fd81003600013691
theorem o71:∀{a b:Nat},a+40*b<=9000->a+3+64<9900:=@L.P 0x112badc11881311022129cd810058310206900
theorem NI:∀{a b c:Nat},a=b->b<=c->a<=c:=@L.P 0x1101002000010061020269000
theorem NJ:∀{a b:Nat},a<=900000->b=a->a<=16777216:=@L.P 0x100118888888811001000263bbdec811006900
theorem o74:∀{a b c d:Nat},a+b<=900000->c=b->a=d->d+c<=16777216+1:=@L.P 0x11001111188888888121000200030262010263bbdec81203020690000
theorem o75:∀{a b c d:Nat},a+b<=900000->c=b->a=d->d<=16777216:=@L.P 0x11000118888888810000030262010263bbdec81203020690000
theorem o76:∀{a b c d:Nat},a+b<=900000->c=b->a=d->a+b<=16777216:=@L.P 0x10000118888888812030200030262010263bbdec81203020690000
theorem o77:∀{a b c:Nat},a+b+c=a+(b+c):=@L.P 0x11001022020010202229000
theorem o78:∀{a b c:Nat},a+(b+1)=c->a+1+b=c:=@L.P 0x110101001011202220011102202269000
theorem o79:∀{a b c:Nat},a+(b+1)=c->a<c:=@L.P 0x101002010011102202269000
theorem o80:∀{a b:Nat},a+0=b->b<=a:=@L.P 0x11010000000110226900
theorem o81:∀{a b c:Nat},a<=3->b<=4->c<=1->Max.max c (Max.max a (Max.max (b+1) (Max.max 0 0)))+1<=64:=@la _ 0x10000100100100101100010000000000100101001000000011000100000000001010010010010000110001000000000010010100100000001100010000000000100001001001001011000100000000001001010010000000110001000000000010100100100100001100010000000000100101001000000011000100000000001881110020114006415006316006900304004040011202401014000 (by kernel_rfl!)
theorem o82:∀{a:Nat},a<=3->Max.max 0 (Max.max a 0)+1<=4:=@L.P 0x1001001010010000110100101001000041110020312006900014010040
theorem o83:∀{a:Nat},a<=2->a+1<=3:=@L.P 0x113111002021000690
theorem o84:∀{a b c:Nat},a<=b->c<=b->Max.max c a<=b:=@L.P 0x10101011001020000201006203006920004000
theorem o85:∀{a:Nat},(-1+((↑a:Int)+1)).toNat=a:=@L.P 0x1001101011001010100029110072116250
theorem o86:∀{a:Nat},1<=(↑a:Int)+1:=@L.P 0x111007211390
theorem rJ:∀{a b c:Nat},a+1+b=c->b<c:=@L.P 0x101001010010112022269000
theorem o88:∀{a:Int}{b:Nat}{c d:Int},a<=(↑b:Int)->¬a-c<d->c+d<=(↑b:Int):=@L.P 0x11100700102300102054a6007203691101
theorem NK:∀{a b c:Int},¬a-b<c->b+c<=a:=@L.P 0x112000102300102054a69111
theorem EU:∀{a b c:Int},a-b<c->a<b+c:=@L.P 0x11001022040010205469111
theorem o91:∀{a b:Int},¬a<=b->b<a:=@L.P 0x111000400103a6911
theorem o92:∀{a:Int}{b:Nat}{c:Int},a<=(↑b:Int)->¬a<=c->c<(↑b:Int):=@L.P 0x11100700400103a600710369101
theorem o93:∀{a b:Nat}{c d:Int},a+7*(b+1)=35->c<256->0<=c->d=c%128->¬(25<=a/\128<=c)->¬c<128->1<=b:=@la _ 0x1100000000007010000100000001102881304a630288131039107a6002056300136488130464b111002731022691ff1081100 (by kernel_rfl!)
theorem o94:∀{a b:Nat},a+7*(b+1)=35->a+7+7*b=35:=@L.P 0x1101014b1007371102224b1110027310226900
theorem o95:∀{a:Int}{b:Nat},a=(↑b:Int)->a+7=(↑(b+7):Int):=@L.P 0x1101017100277100250070056901
theorem yY:∀{a:Int},0<=a->0<=a+1:=@L.P 0x111100201300013691
theorem pg:∀{a:Nat},a<a+1:=@L.P 0x11100200190
theorem o98:∀{a:Int}{b c:Nat},a=(↑b:Int)->b+7*(c+1)=35->a<=1000000:=@L.P 0x101013ec998810034b111002731022610700569001
theorem o99:∀{a:Int}{b c:Nat},a=(↑b:Int)->b+7*(c+1)=35->0<=a:=@L.P 0x10010000134b111002731022610700569001
theorem VP:∀{a:Int}{b c:Nat}{d:Int},a=(↑b:Int)->b+7*(c+1)=35->25<=b/\128<=d->¬32-a<=7->32-a<=7:=@la _ 0x1010010711048153711048153a60028813103910764b1110027310226107105691001 (by kernel_rfl!)
theorem VQ:∀{a:Int}{b c:Nat}{d:Int},a=(↑b:Int)->b+7*(c+1)=35->32-a<=7/\128<=d->25<=b:=@la _ 0x10100011039100028813711048153764b1110027310226107105691001 (by kernel_rfl!)
theorem VR:∀{a:Int}{b c:Nat}{d:Int},a=(↑b:Int)->b+7*(c+1)=35->25<b/\d≠0->¬32-a<7->32-a<7:=@la _ 0x101001001010010711048154711048154a601005a103911764b1110027310226107105691001 (by kernel_rfl!)
theorem VS:∀{a:Int}{b c:Nat}{d:Int},a=(↑b:Int)->b+7*(c+1)=35->32-a<7/\d≠0->25<b:=@la _ 0x1010001101000110391101005a711048154764b1110027310226107105691001 (by kernel_rfl!)
theorem VT:∀{a:Int}{b c:Nat},a=(↑b:Int)->b+7*(c+1)=35->0<=32-a:=@L.P 0x101010048150134b111002731022610700569001
theorem VU:∀{a:Int}{b c:Nat},a=(↑b:Int)->b+7*(c+1)=35->a.toNat=b:=@L.P 0x10010001100000101001010010001010200024b111102732022620700569005001
theorem VV:∀{a:Int}{b c:Nat},a=(↑b:Int)->b+7*(c+1)=35->(32-a).toNat=32-b:=@la _ 0x10000100000100001000001010000010010100000100100001000001000010001000101010010010100010001024b1112027330226307005692048120048155001 (by kernel_rfl!)
theorem LO:∀{a:Nat},a<256->(↑a:Int)<256:=@L.P 0x11488100744881001690
theorem LP:∀{a:Nat},a<256->0<=(↑a:Int):=@L.P 0x100070134881001690
theorem LQ:∀{a b:Int},a<b->¬b<=a:=@L.P 0x1110003a001046911
theorem VW:∀{a:Nat}{b c:Int},(↑a:Int)<=b->0<=c->c<=3->(↑a:Int)+1<=b+1+c:=@L.P 0x101100111022110072331003600013610007369110
theorem VX:∀{a b:Nat}{c d:Int},(↑a:Int)+1<=(↑(b+1):Int)+c->0<=d->d<=3->(↑a:Int)+1<=(↑b:Int)+(c+1+d):=@L.P 0x101100111022007211107233100360001361011002721110723691100
theorem LR:∀{a:Nat}{b c:Int},¬(↑a:Int)<=b+c->b+1+c<=(↑a:Int):=@L.P 0x11007001110223001020073a69110
theorem VY:∀{a:Nat}{b c:Int},a<=16000->0<=b->b<(↑a:Int)->0<=c->c<=3->0<=b+1+c:=@la _ 0x1010100011102201331003600013600710461001363fa88100069110 (by kernel_rfl!)
theorem VZ:∀{a b:Nat}{c d:Int},a<=16000->(↑b:Int)<=c->0<=d->d<=3->¬(↑a:Int)<=c+d->b<=900000:=@la _ 0x1101113bbdec81000001021073a631003600013610007363fa881100691100 (by kernel_rfl!)
theorem V1:∀{a b:Int}{c d e:Nat},a<128*b->c<d->a*64+(↑e:Int)%64<128*(b*64):=@L.P 0x10188001020188428830030188424102016202883304697f007800011
theorem V2:∀{a:Int}{b c:Nat}{d:Int}{e:Nat},0<=a->b<c->a<128*d->0<=a*64+(↑e:Int)%64:=@L.P 0x1001880001003018842013202883304610201630013697f007801001
theorem V3:∀{a:Nat}{b:Int}{c:Nat},a=b.toNat->c<a->c+1<=a:=@L.P 0x11000001100000201110202010160020269005010
theorem V4:∀{a:Nat}{b:Int}{c:Nat},a=b.toNat->c<a->a-(c+1)<a-c:=@la _ 0x10000100000001010000000100000001010000000100001001001000010000001100100010000000000101000010001000100000010140301620402692030211102202005010 (by kernel_rfl!)
theorem V5:∀{a b c:Nat},a<b->0<=(↑c:Int)%64:=@L.P 0x1000010001310201697f0078000
theorem V6:∀{a:Int}{b c:Nat},0<=a->a<=3->b=a.toNat->c<b->c<=3:=@la _ 0x110100010110110010311002010160020263100360001369005001 (by kernel_rfl!)
theorem oO:∀{a:Nat},a<=16000->a<=16000000:=@L.P 0x117d8aa88810003fa881000690
theorem V7:∀{a:Int}{b:Nat}{c:Int},0<=a->a<(↑b:Int)->¬(↑b:Int)<=a+c->Min.min c.toNat (b-(a+1).toNat)=c.toNat:=@la _ 0x1000000000000010000100000000100010000000000000100001000000001000000100000000100000010000000010000001000000001000000100000000100010000000000000101000010010000000100000000000001010000100000000001000000000000010100001100000000010001000000000001000010000000000000100000000100000010000000010000001000000001000000100000000100000010000000010000001000000001000000100000000100000010000000010001100000001010010100001100000000010001000000000001000010000000000110010010001001010000110000000001000100000000000100001000000000030002001024073a6407104610013690020300202111025005101 (by kernel_rfl!)
theorem LS:∀{a:Int}{b:Nat},a<(↑b:Int)->¬(↑b:Int)<=a:=@L.P 0x11000073a0070046901
theorem uz:∀{a:Nat},0<=(↑a:Int):=@L.P 0x100701390
theorem V8:∀{a:Nat}{b:Int}{c:Nat},a<=16000->b<=(↑a:Int)->(↑c:Int)<=b->¬b<(↑a:Int)->c<=1000000:=@la _ 0x101113ec99881000107004a6000073610700363fa88110069010 (by kernel_rfl!)
theorem LU:∀{a:Int}{b:Nat},a<=(↑b:Int)->¬a<(↑b:Int)->(↑b:Int)<=a:=@L.P 0x110000073007004a60070036901
theorem LV:∀{a:Int}{b c:Nat},a<=(↑b:Int)->(↑b:Int)+1<=(↑c:Int)+a->c=c-1+1:=@L.P 0x11101010000110001010010011002102001072112072362070036911002001
theorem D_:∀{a:Nat},(↑a:Int)+1<=(↑(a+1):Int)+0:=@L.P 0x1011100272110072390
theorem Ea:∀{a:Nat},a<=16000->0<=(↑a:Int):=@L.P 0x100070133fa881000690
theorem V9:∀{a:Int},(0:Int)<=3/\(3:Int)<=3/\0<=a%8/\a%8<128/\(0:Int)<=65536:=@L.P 0x1000010010100011000010000288888101328810047000137313137310137970081
theorem V_:∀{a:Int},(0:Int)<=2/\(2:Int)<=3/\0<=a%16/\a%16<128/\(0:Int)<=2048:=@L.P 0x1000010010100011000010000488810132881004700013731213721013791f0081
theorem Wa:∀{a:Int},(0:Int)<=1/\(1:Int)<=3/\0<=a%32/\a%32<128/\(0:Int)<=128:=@L.P 0x100001001010001100001000028810132881004700013731113711013793f0081
theorem Wb:∀{a:Int},0<=a->a<128->(0:Int)<=0/\(0:Int)<=3/\0<=a/\a<128/\(0:Int)<=0:=@L.P 0x10011010110010001013288100470001373101370101372881004600013691
theorem Wc:∀{a:Nat}{b c d e:Int},a<=16000->0<=b->c<=(↑a:Int)->b<d->d<=c->¬c-d<e->Min.min e.toNat (a-d.toNat)<=16000:=@la _ 0x10000000100100000001000000010000000010100000001100000001010000000100000000101000000010010000000100000001000000001010000000110000000101000000010000000010100000001001000000010000000110100000000001010000000001000000101000000000100010000000100100000001000000011010000000100101101001010000011011110100000000103fa88100000102054a620103610304640720363001363fa88140069002030020210500511110 (by kernel_rfl!)
theorem Wd:∀{a b c:Int},¬a-b<c->a<b+c->False:=@L.P 0x11b00102204600102054a69111
theorem r_:∀{a b:Int},0<=a->a<b->0<=b:=@L.P 0x11100013001046100136911
theorem We:∀{a b c:Int},¬a-b<c->¬a<b+c:=@L.P 0x1100102204a00102054a69111
theorem Wf:∀{a b c d:Int},0<=a/\b+1<c/\c<=d->0<=a/\b<c/\c<=d:=@L.P 0x1100101010010010310204730013700103101120247300137691111
theorem Wg:∀{a b:Int},0<=a->0<=b->0<=a+b:=@L.P 0x11100102013000136100136911
theorem Wh:∀{a b c d:Int},0<=a->¬b<=c->0<=d->0<=a+d/\c<c+1/\c+1<=b:=@la _ 0x1010100011012011102311102104700302013700013610203a630013691111 (by kernel_rfl!)
theorem Wi:∀{a:Int},0<=a%128:=@L.P 0x100010001391ff0081
theorem uA:∀{a:Nat},(↑(a+1):Int)-1=(↑a:Int):=@L.P 0x11007111100275590
theorem LW:∀{a b c:Int},¬a<=b->c<=b->c<a:=@L.P 0x1112000410003610203a69111
theorem LX:∀{a b c:Int},¬a<=b->c<=b->c<=a:=@L.P 0x1112000310003610203a69111
theorem Eb:∀{a:Int},0<=a->-1<=a:=@L.P 0x1100116300013691
theorem Bj:∀{a:Nat}{b c d:Int},(↑a:Int)<=b->b<c->c<d->(↑a:Int)+1<=d:=@L.P 0x1111001100723001046102046200073691110
theorem Bk:∀{a b:Int},a<=b->a<=b:=@L.P 0x1100103001036911
theorem LY:∀{a:Nat}{b c d:Int},(↑a:Int)<=b->b<c->c<d->0<=d:=@L.P 0x111100013001046102046200073691110
theorem LZ:∀{a:Nat}{b:Int}{c:Nat}{d e f:Int},a<=16000->b<=(↑a:Int)->(↑c:Int)<=d->d<e->e<f->f<=b->c<=900000:=@la _ 0x11111113bbdec81000300036001046102046200073610730363fa88110069111010 (by kernel_rfl!)
theorem L7:∀{a:Nat}{b c:Int},(↑a:Int)<=b->b<c->0<=c:=@L.P 0x1110001300104610007369110
theorem tS:∀{a:Nat},0<(↑(a+1):Int):=@L.P 0x111002701490
theorem tT:(↑0:Int)<=0:=@L.P 0x10101739
theorem L8:∀{a:Int}{b:Nat},0<=a->a.toNat=b->a=(↑b:Int):=@L.P 0x1101010100000111000101010100107005100026000136900501
theorem Wj:∀{a b:Int},a=b->a<b->False:=@L.P 0x110b001046001056911
theorem Wk:∀{a b:Nat},a+7+7*b=a+7*(b+1):=@L.P 0x11110027310200737110222900
theorem Wl:∀{a b:Nat},a+7<=a+7*(b+1):=@L.P 0x11100273102711020900
theorem Wm:∀{a b c d:Int},a<b->c=128*b->d<=127*b->a+d<c:=@L.P 0x1110110003024201ff30036202883105620304691111
theorem Ec:∀{a:Int},a%128<128->a%128<=127:=@L.P 0x1000101ff10032881004691ff0081
theorem Wn:∀{a b c d:Int},0<=a->b<c->¬d<c+a->b<c+a/\c+a<=d:=@L.P 0x110010110030102330102204730102004a610204630013691111
theorem Wo:∀{a:Nat}{b:Int}{c:Nat}{d e:Int},a<=16000->b<=(↑a:Int)->(↑c:Int)<=d->d<e->e<=b->c<=900000:=@la _ 0x1111113bbdec81000200036001046100073610720363fa8811006911010 (by kernel_rfl!)
theorem L9:∀{a b c d:Int},a<b->b<=c->b<=d/\(b<=c->d<=c)->a<d/\d<=c:=@la _ 0x110001010101010010101000300304710003102036002037610203620304691111 (by kernel_rfl!)
theorem L_:∀{a b c d e:Int},a<b->b<c->c<=d->c<=e->(c<=d->e<=d)->a<=e/\(a<=d->e<=d):=@la _ 0x1010000101011001010010101110003104036004037100031020366002036102036203046304046911111 (by kernel_rfl!)
theorem Wq:∀{a b:Int},a<b+(a-b)->False:=@L.P 0x1b001050021046911
theorem Wr:∀{a b:Int},a<=b+(a-b):=@L.P 0x100105002103911
theorem Ws:∀{a b:Int},a<=b->0<=b-a:=@L.P 0x1110005013001036911
theorem Ma:∀{a b:Int},0<=a->¬a<=b->a<2->b<2:=@L.P 0x11102100421104600103a6100136911
theorem Mb:∀{a b:Int},0<=a->¬a<=b->a<1->b<1:=@L.P 0x11101100411104600103a6100136911
theorem Wt:∀{a b:Nat}{c d e:Int},(↑a:Int)+1<=(↑(b+1):Int)+c->0<=d->c+1<e->(↑a:Int)+1<=(↑b:Int)+(e+d):=@L.P 0x1111100020072111072300112024610013620110027211107236911100
theorem Wu:∀{a b:Int}{c:Nat},a+b<=(↑c:Int)->a+b<=(↑c:Int):=@L.P 0x1100700102300700102369011
theorem Wv:∀{a b c:Int},0<=a->0<=b->a+1<c->0<=c+b:=@L.P 0x1111100020130011202461001362001369111
theorem Ed:∀{a b:Int},¬a<=b->a=2->b<2:=@L.P 0x10112100421105600103a6911
theorem Ee:∀{a b:Int},¬a<=b->a=1->b<1:=@L.P 0x10111100411105600103a6911
theorem Ww:∀{a b:Int},0<=a->b<=b+a:=@L.P 0x1110002003100136911
theorem Ef:∀{a b:Int},0<=a->a+1<b->0<=b:=@L.P 0x11100013001110246100136911
theorem Wx:∀{a b:Int}{c:Nat},a+b<=(↑c:Int)->¬(↑c:Int)<a+b:=@L.P 0x11001020074a00700102369011
theorem Mc:∀{a:Int},a=2->a<2->False:=@L.P 0x110b21004621005691
theorem Md:∀{a:Int},a=1->a<1->False:=@L.P 0x110b11004611005691
theorem Me:∀{a:Int},¬a<0->0<=a:=@L.P 0x110001301004a691
theorem Wy:∀{a b c:Nat},a+b<=900000->c+1=a+b->c<=900000:=@L.P 0x10113bbdec810001020211002263bbdec8110202069000
theorem Wz:∀{a:Nat},¬128<=(↑a:Int)->(↑a:Int)<256:=@L.P 0x114881007400728813a690
theorem WB:∀{a:Nat},¬128<=(↑a:Int)->0<=(↑a:Int):=@L.P 0x1000701300728813a690
theorem Mf:∀{a:Nat},¬128<=(↑a:Int)->a<128:=@L.P 0x11288100100728813a690
theorem WD:∀{a:Nat}{b:Int},128<=(↑a:Int)->b=(↑(a%128+128):Int)->a/128<a:=@L.P 0x288001ff1002010128810027005620728813691ff00710
theorem WG:∀{a b c d:Nat},a+b<=900000->c+(d+1)=a+b->c<=900000:=@L.P 0x10113bbdec811002030211002102263bbdec81203020690000
theorem WH:∀{a:Int}{b:Nat},a=(↑(b%128+128):Int)->(↑(b%128+128):Int)<256:=@L.P 0x100001488128810027428810027005691ff00701
theorem WI:∀{a:Int}{b:Nat},a=(↑(b%128+128):Int)->0<=(↑(b%128+128):Int):=@L.P 0x1000002881002701328810027005691ff00701
theorem WJ:∀{a:Nat},0<=(↑a:Int)%128:=@L.P 0x100010001391ff00780
theorem Mg:∀{a:Nat},128<=(↑a:Int)->128<=a:=@L.P 0x11002881000728813690
theorem WL:∀{a:Nat},128<=a->¬a<128:=@L.P 0x112881001a0028810690
theorem WM:∀{a:Nat},¬a<128->a/128<a:=@L.P 0x2881ff100201012881201a691ff0070
theorem Mh:∀{a b c:Nat},a+b+c<=900000->a+b+c<=900000:=@L.P 0x113bbdec810010202203bbdec8100102022069000
theorem Mi:∀{a:Nat},(↑a:Int)<0->False:=@L.P 0x1b010074690
theorem WN:∀{a b c:Nat},a+b+c<=900000->a+b<=900000:=@L.P 0x113bbdec811020203bbdec8100102022069000
theorem Mj:∀{a b c:Nat},a+b+c<=900000->c<=16000000:=@L.P 0x117d8aa88810003bbdec8100102022069000
theorem WO:∀{a b c d:Nat},a<=200000->b+c+d<=900000->d<=4*a->b+c<=900000:=@L.P 0x10103bbdec81102020304300063bbdec81001020220668ed881300690000
theorem WQ:∀{a:Nat},¬(↑a:Int)<65536->¬a<65536:=@L.P 0x112888881001a28888810074a690
theorem WR:∀{a:Nat},¬(↑a:Int)<65536->¬a<2048:=@L.P 0x1148881001a28888810074a690
theorem WU:∀{a:Nat},¬(↑a:Int)<65536->¬a<128:=@L.P 0x112881001a28888810074a690
theorem WV:∀{a:Nat}{b:Int},a<55296\/57344<=a/\a<1114112->¬(↑a:Int)<65536->b=(↑(240+a/262144):Int)\/b=(↑(128+a/4096%64):Int)\/b=(↑(128+a/64%64):Int)\/b=(↑(128+a%64):Int)->0<=b/\b<256:=@la _ 0x10100000000100000000011000000000000000000010100000100000000000011000000000000000000010100000000000100000011000000000000000000018888880188888801000000000000010011000000000000000000000011000000000000000000110000000000000000001100000000000000000011000000000000000000110000000000000000001100000000000000000011000000000000000000110000000000000004881004000137202881270050028812700584028812700581903e81270058628888811a074a64a8888811a011a01e88881071dc88811a018697f1077f6077f1077fff2077fffff00710 (by kernel_rfl!)
theorem WW:∀{a b:Nat},a<b->a+1<=b:=@L.P 0x1100111020001016900
theorem Mk:∀{a b:Nat},a<b->b-(a+1)<b-a:=@L.P 0x1001000111000100000101010100010001012030169201021110200200
theorem WX:∀{a b c d:Nat},a<=200000->b<=4*Min.min c a->c<a->d<55296\/57344<=d/\d<1114112->¬(↑d:Int)<65536->b+(0+1+1+1+1)<=900000:=@la _ 0x100001404010001404010004140401004140403bbdec8111111111012222302028888811074a64a888881101101e88881071dc8881101864020160043300668ed88140069301030000 (by kernel_rfl!)
theorem WY:∀{a:Nat},¬(↑a:Int)<2048->(↑a:Int)<65536->a<65536:=@L.P 0x1102888881001288888100746488810074a690
theorem WZ:∀{a:Nat},¬(↑a:Int)<2048->(↑a:Int)<65536->¬a<2048:=@L.P 0x10148881001a288888100746488810074a690
theorem W0:∀{a:Nat},¬(↑a:Int)<2048->(↑a:Int)<65536->¬a<128:=@L.P 0x1012881001a288888100746488810074a690
theorem W3:∀{a:Nat}{b:Int},¬(↑a:Int)<2048->(↑a:Int)<65536->b=(↑(224+a/4096):Int)\/b=(↑(128+a/64%64):Int)\/b=(↑(128+a%64):Int)->0<=b/\b<256:=@la _ 0x10100000001000110000000000001010000100000011000000000000188880188881000000010011000000000000488100400013720288127005002881270058503c812700586288888160746488816074a697f1077f2077fff00710 (by kernel_rfl!)
theorem W4:∀{a b c d:Nat},a<=200000->b<=4*Min.min c a->c<a->d<55296\/57344<=d/\d<1114112->b+(0+1+1+1)<=900000:=@la _ 0x10001404010014040100414040104140403bbdec811111110122230204a888881101101e88881071dc8881101864020160043300668ed88140069301030000 (by kernel_rfl!)
theorem W5:∀{a:Nat},¬(↑a:Int)<128->(↑a:Int)<2048->a<2048:=@L.P 0x11048881001488810074628810074a690
theorem W6:∀{a:Nat},¬(↑a:Int)<128->(↑a:Int)<2048->¬a<128:=@L.P 0x1012881001a488810074628810074a690
theorem W7:∀{a:Nat}{b:Int},¬(↑a:Int)<128->(↑a:Int)<2048->b=(↑(192+a/64):Int)\/b=(↑(128+a%64):Int)->0<=b/\b<256:=@la _ 0x1010000111000000188018810100110000004881004000137002881270051038812700586488812074628812074a697f00710 (by kernel_rfl!)
theorem W8:∀{a b c d:Nat},a<=200000->b<=4*Min.min c a->c<a->d<55296\/57344<=d/\d<1114112->¬(↑d:Int)<128->(↑d:Int)<2048->b+(0+1+1)<=900000:=@la _ 0x100100000010000140400100100000010004140403bbdec81111101223020488811074628811074a64a888881101101e88881071dc8881101864020160043300668ed88140069301030000 (by kernel_rfl!)
theorem W9:∀{a:Nat},(↑a:Int)<128->a<128:=@L.P 0x11288100128810074690
theorem W_:∀{a b c d:Nat},a<=200000->b<=4*Min.min c a->c<a->d<55296\/57344<=d/\d<1114112->(↑d:Int)<128->b<=900000:=@la _ 0x10100000010001404001010000001004140403bbdec813002881107464a888881101101e88881071dc8881101864020160043300668ed88140069301030000 (by kernel_rfl!)
theorem Xa:∀{a:Nat},(↑a:Int)<128->(↑a:Int)<256:=@L.P 0x114881007428810074690
theorem Xc:∀{a:Nat},(↑a:Int)<128->0<=(↑a:Int):=@L.P 0x1000701328810074690
theorem Xd:∀{a:Nat},a<55296\/57344<=a/\a<1114112->55296<=(↑a:Int)/\(↑a:Int)<57344->False:=@L.P 0x1001011b1e8888100740071dc88813764a888881001001e88881071dc88810018690
theorem Xe:∀{a:Nat},0<=(↑a:Int)%64:=@L.P 0x100010001397f00780
theorem adw:∀{a b c:Nat},a<=4->b<=4*c->a+b<=4*(c+1):=@L.P 0x1111100243102020004310064120069000
theorem Xf:∀{a b c d:Nat},a+b<=900000->b=1+c+d->a+(0+1)+c+d<=900000:=@L.P 0x11013bbdec810010110123022200010112220263bbdec81203020690000
theorem Xg:∀{a b c d:Nat},a+b<=900000->b=1+c+d->a<=900000:=@L.P 0x11013bbdec813000010112220263bbdec81203020690000
theorem Bl:∀{a b:Nat},a+b+1=1+a+b:=@L.P 0x1100101122110010222900
theorem Xh:∀{a b c:Nat},a=b->c<b->b-(c+1)<b-c:=@L.P 0x1000010001100100010000000101010001000100010130201630402691020211002102000
theorem Xi:∀{a b c d e f g h i j:Nat},a+b<=900000->b=c+d->d=e+f+g->f=h+i+j->a+c+e+h+i+j<=900000:=@la _ 0x110101013bbdec81001020507019022222000102022402630405022602660702180263bbdec8118019020690000000000 (by kernel_rfl!)
theorem Ml:∀{a:Nat},a<=16000->a<=200000:=@L.P 0x1168ed8810003fa881000690
theorem Xj:∀{a b c d e f g h i j:Nat},a+b<=900000->b=c+d->d=e+f+g->f=h+i+j->a+c+e+h<=900000:=@la _ 0x110101013bbdec81205070190222000102022402630405022602660702180263bbdec8118019020690000000000 (by kernel_rfl!)
theorem Xl:∀{a b c d e:Nat},a<b->c+(d+e)=c+d+e:=@L.P 0x101000102022001022022304016900000
theorem Xm:∀{a b:Nat},a<=16000->b=a->b<=900000:=@L.P 0x10113bbdec810001000263fa8811006900
theorem Xn:∀{a b:Nat},a<=16000->b=a->(↑b:Int)<0->False:=@L.P 0x1000b01007461000263fa8811006900
theorem Xo:∀{a b c d:Nat},a+b<=900000->b=c+d->a+c<=900000:=@L.P 0x11013bbdec811030200010220263bbdec81203020690000
theorem Xp:∀{a b:Nat},a<=16000->b=a->b<=16000000:=@L.P 0x10117d8aa88810001000263fa8811006900
theorem Xq:∀{a b c d e f g:Nat},a+b+c<=400000->c=1+d+e->e=f+g->a+b+c<=900000:=@L.P 0x1000013bbdec814050602200010220262030112240261c9da881405060220690000000
theorem Xr:∀{a:Int},a<0->0<=a->False:=@L.P 0x11b00013601004691
theorem Xs:∀{a b c d e f g h i j k l:Nat},a+b+c<=400000->c=1+d+e->e=f+g->g=h+i+j->i=k+l->f+h+k+l<=900000:=@la _ 0x11010101013bbdec81001040602220001023026203040225026506027026701801122190261c9da8811901a01b022069000000000000 (by kernel_rfl!)
theorem Xt:∀{a b:Int},a=b->b<0->0<=a->False:=@L.P 0x1101b100136010046001056911
theorem Xu:∀{a b c d e f g h i j k l:Nat},a+b+c<=400000->c=1+d+e->e=f+g->g=h+i+j->i=k+l->f+h+k<=900000:=@la _ 0x11010101013bbdec81104060220001023026203040225026506027026701801122190261c9da8811901a01b022069000000000000 (by kernel_rfl!)
theorem Xv:∀{a b:Nat},a=b->b<=16000->0<(↑a:Int)->a<=900000:=@L.P 0x101013bbdec8110010701463fa8810006001026900
theorem Xw:∀{a b:Nat},a=b->b<=16000->0<(↑a:Int)->(↑a:Int)<0->False:=@la _ 0x10000b011074610701463fa8810006001026900 (by kernel_rfl!)
theorem Xx:∀{a b c d e f g:Nat},a+b+c<=400000->c=1+d+e->e=f+g->0+f<=900000:=@L.P 0x1101013bbdec811001200010220262030112240261c9da881405060220690000000
theorem Xy:∀{a b:Nat},a=b->b<=16000->0<(↑a:Int)->a<=16000000:=@L.P 0x101017d8aa888110010701463fa8810006001026900
theorem Mm:∀{a b:Nat},a=b->b<=16000->a<=16000000:=@L.P 0x11017d8aa88811003fa8810006001026900
theorem Xz:∀{a:Nat},a<=400000->a<=16000000:=@L.P 0x117d8aa88810001c9da881000690
theorem XA:∀{a b c d e:Nat},a+b+c<=400000->b=1+d+e->a+b<=900000:=@L.P 0x10013bbdec813040200010112230261c9da8812030402206900000
theorem XB:∀{a b c d e:Nat},a+b+c<=400000->b=1+d+e->0+e<=900000:=@L.P 0x11013bbdec810001200010112230261c9da8812030402206900000
theorem Mn:∀{a b:Nat},a=b->b<=16000->¬0<(↑a:Int)->b=0:=@L.P 0x100001101001002107014a63fa8810006001026900
theorem XC:∀{a b c d e f g:Nat},a+b+c<=400000->a=1+d+e->e=f+g->0+a<=900000:=@L.P 0x1000013bbdec816001200010220262030112260261c9da881405060220690000000
theorem XD:∀{a b c d e f g:Nat},a+b+c<=400000->a=1+d+e->e=f+g->0+f+g<=900000:=@L.P 0x1101013bbdec810010012200010220262030112260261c9da881405060220690000000
theorem XE:∀{a:Nat},a+1<=63->a<=63:=@L.P 0x117f10007f1110020690
theorem XF:∀{a:Nat},a+1<=63->a<=900000:=@L.P 0x113bbdec810007f1110020690
theorem XG:∀{a:Int},0<=a->a<1112064->¬a<55296->0<=a+2048:=@L.P 0x1100488810020131dc8881004a649fc8881004600013691
theorem XH:∀{a:Int},0<=a->a<1112064->¬a<55296->57344<=(a+2048).toNat/\(a+2048).toNat<1114112:=@la _ 0x10000100100001101001011001004a888881001001e88881071dc8881004a649fc8881004600013694888100251 (by kernel_rfl!)
theorem XI:∀{a:Int},0<=a->a<1112064->a<55296->a.toNat<55296:=@L.P 0x100001011000101dc88810011dc8881004649fc8881004600013690051
theorem Mo:∀{a:Int},0<=a->a<16->a<12->a.toNat<12:=@L.P 0x100001011000101c10011c10046281004600013690051
theorem Mp:∀{a b:Nat},a+(b+1)<=2->a+1+b<=2:=@L.P 0x1121001110220211100210206900
theorem Mq:∀{a b:Nat},a+1<=b->a<b:=@L.P 0x1100101001110206900
theorem Mr:∀{a b:Nat},a+(b+1)<=2->a<=900000:=@L.P 0x113bbdec81100211100210206900
theorem XJ:∀{a:Nat},a<55296\/57344<=a/\a<1114112->(↑a:Int)<=1114111:=@L.P 0x1101149fffff100734a888881001001e88881071dc88810018690
theorem Ms:∀{a:Nat},a+0<=2->a<=2:=@L.P 0x112100021010020690
theorem XK:∀{a:Nat},a+0<=2->a<=1000000:=@L.P 0x113ec9988100021010020690
theorem Mt:∀{a:Nat},0<=(↑a:Int)->(↑a:Int)<3->a<=2:=@L.P 0x110210003100746007013690
theorem XM:∀{a:Nat},0<=(↑a:Int)->(↑a:Int)<3->(↑a:Int)<=1000000000000:=@L.P 0x1101ecbacd9a98888100733100746007013690
theorem XN:∀{a:Nat},0<=(↑a:Int)->(↑a:Int)<3->-1000000000000<=(↑a:Int):=@L.P 0x1000071ecbacd9a988881633100746007013690
theorem XO:∀{a b:Nat},a+(b+1)<=3->a+1+b<=3:=@L.P 0x1131001110220311100210206900
theorem XP:∀{a b:Nat},a+(b+1)<=3->a<=900000:=@L.P 0x113bbdec81100311100210206900
theorem XQ:∀{a:Nat},a+0<=3->a<=3:=@L.P 0x113100031010020690
theorem XR:∀{a:Nat},0<=(↑a:Int)->(↑a:Int)<=3->a<=3:=@L.P 0x110310003100736007013690
theorem XS:∀{a:Nat},0<=(↑a:Int)->(↑a:Int)<=3->(↑a:Int)<=1000000000000:=@L.P 0x1101ecbacd9a98888100733100736007013690
theorem XT:∀{a:Nat},0<=(↑a:Int)->(↑a:Int)<=3->-1000000000000<=(↑a:Int):=@L.P 0x1000071ecbacd9a988881633100736007013690
theorem XU:∀{a:Int}{b:Nat},-300<=a->a<=34359738371->-300<=a/\a<=34359738371+200*(↑(b+1):Int):=@L.P 0x110101110027398348888888888b12003004dc163748888888888b10036004dc1636901
theorem XW:∀{a:Int},0<=a->a<8->a.toNat<8:=@L.P 0x100010110010181001181004600013690051
theorem XY:∀{a:Int}{b:Nat},0<=a->a<300->-300<=a/\a<=34359738371+200*(↑(b+1):Int):=@L.P 0x110101110027398348888888888b12003004dc16374dc10046000136901
theorem XZ:∀{a:Int}{b:Nat}{c:Int},-300<=a/\a<=34359738371+200*(↑b:Int)->0<=c->c<200->-300<=a+1+c/\a+1+c<=34359738371+200*(↑(b+1):Int):=@L.P 0x1101010101110027398348888888888b12001110223001110224dc163739810046000136007398348888888888b12103104dc163769101
theorem X0:∀{a b c d:Nat},a=b->c+1+d=b->c+(d+1)=b:=@L.P 0x11000101002011002102220001110222620302690000
theorem X1:∀{a b c d:Nat},a<=16000->b=a->c+1+d=a->Min.min d b<=900000:=@L.P 0x1000110101010010103bbdec810004010112022264030263fa88140069200030000
theorem X2:∀{a b c d:Nat},a=b->c+1+d=b->d<a:=@L.P 0x101103000120001110222620302690000
theorem Mu:∀{a b c:Nat},a=b->0+c=b->a<=c:=@L.P 0x11001002001000012261020269000
theorem X3:∀{a b:Nat},a<=16000->b=a->a<=900000:=@L.P 0x10013bbdec811001000263fa8811006900
theorem sZ:∀{a b c:Nat},a+1+b=c->a+(b+1)=c:=@L.P 0x110101001110220220010112022269000
theorem X4:∀{a b c d:Nat},a<=1000->b+1+c=a->d<=Min.min c a->d<=900000:=@L.P 0x11001010110110103bbdec811000010064020113022261fd8140069301030000
theorem sd:∀{a b:Nat},0+a=b->b<=a:=@L.P 0x11010000001001226900
theorem X5:∀{a b c d:Nat},a<=b+c->b<=d+1->a<=d+(c+1):=@L.P 0x1111110200230011002200610202300690000
theorem X6:∀{a:Int}{b c:Nat},0<=a->a<=2->b+1=c->b+(a.toNat-1+1+1)<=c+2:=@la _ 0x1010001000010100010010101000100001011001001021202111100223020201130226210036000136911002005001 (by kernel_rfl!)
theorem X7:∀{a:Nat},¬128<=(↑a:Int)->(0:Int)<=128+(↑a:Int)/\128+(↑a:Int)<256:=@L.P 0x1110488100728812400728812013700728813a690
theorem X8:∀{a:Nat}{b:Int}{c:Nat},a<=900->0<=b->b<=2->c+1=a->c+(b.toNat-1+1+1)<=900000:=@la _ 0x1010010100001010010100101010010100001011010100103bbdec811111002220203011202262100360001361e8c13006911002005010 (by kernel_rfl!)
theorem X9:∀{a:Nat}{b:Int}{c:Nat},a<=900->0<=b->b<=2->c+1=a->c+(b.toNat-1+1)<=899999:=@la _ 0x1010010100001010010100101010010100001011010100103bbdebf11100220203011202262100360001361e8c13006911002005010 (by kernel_rfl!)
theorem X_:∀{a:Nat}{b:Int}{c:Nat},a<=900->0<=b->b<=2->c+1=a->c+1+(b.toNat-1)<=900000:=@la _ 0x1010010100001010010100101010010100001011010100103bbdec810011202203011202262100360001361e8c13006911002005010 (by kernel_rfl!)
theorem Ya:∀{a:Int},0<=a->a<=2->a-1<=1000:=@L.P 0x1101fd8111005321003600013691
theorem Yb:∀{a:Int},0<=a->a<=2->¬a=0->0<=a-1:=@L.P 0x10111001100501301005a621003600013691
theorem Eg:∀{a b:Nat},a<=900->b+1=a->b<=899999:=@L.P 0x10113bbdebf10001011002261e8c11006900
theorem Yc:∀{a b:Nat},a+1=b->a<=b+1:=@L.P 0x10111002100001110226900
theorem Yd:∀{a:Nat},¬128<=(↑a:Int)->0<=(↑a:Int)/\(↑a:Int)<256:=@L.P 0x111048810074007013700728813a690
theorem Ye:∀{a:Nat},0<=(↑(128+a%128):Int)/\(↑(128+a%128):Int)<256:=@L.P 0x10011000488100288127400288127013791ff0070
theorem Yf:∀{a:Nat},128<=(↑a:Int)->a/128<a:=@L.P 0x2881ff1002010120728813691ff0070
theorem Yg:∀{a:Nat},(↑128:Int)+(↑(a%128):Int)=(↑(128+a%128):Int):=@L.P 0x1000100000288127007288172591ff0070
theorem Yh:∀{a b c:Nat},a<=900->b+(c+1)=a->b<=900000:=@L.P 0x10113bbdec811002011002102261e8c120069000
theorem Yi:∀{a b:Nat},a<=b+1->a+1<=b+1+1:=@L.P 0x1111110022111020110021006900
theorem Yj:∀{a b:Nat},a<b*128->a/128<b:=@L.P 0x288110020101202884301691ff10700
theorem Eh:∀{a:Nat},1<=a+1:=@L.P 0x11100211090
theorem Yk:∀{a b:Nat},¬a<128->a<128->b<=0+1:=@L.P 0x1111012000288110162881101a6900
theorem Bm:∀{a:Nat},¬a<128->128<=a:=@L.P 0x1100288102881001a690
theorem Yl:∀{a:Nat},1<=0->a<=0:=@L.P 0x10100001110690
theorem Ym:∀{a:Nat},(↑a:Int)-1- -1-1+1=(↑a:Int):=@L.P 0x110071111116110075552590
theorem Yn:∀{a:Nat},a<1114112->(↑a:Int)<128->(↑a:Int)<256:=@L.P 0x110488100742881007464a888881001690
theorem Yo:∀{a:Nat},0<a/\a<=262144->(↑a:Int)<1000000000:=@L.P 0x1107bcedcd8881007418888881000000117690
theorem Yp:∀{a:Nat},0<a/\a<=262144->0<(↑a:Int):=@L.P 0x10100701418888881000000117690
theorem Yq:∀{a:Nat},a<=3->0<=(↑a:Int):=@L.P 0x1000701331000690
theorem Yr:∀{a:Nat},0<=(↑(128+a%64):Int)/\(↑(128+a%64):Int)<256:=@L.P 0x10011000488100288127400288127013797f0070
theorem Ys:∀{a b:Nat},a<b->b-1-(b-(a+1))=a:=@la _ 0x1100000000110010000000110000000011001000001010000010001100100000001000001000110010000010110010101001001000000011100010100100100010101000101010010010000000101000101001001010001040002304016900102112021021100200 (by kernel_rfl!)
theorem Yt:∀{a b:Nat},a<b->b-a=b-(a+1)+1:=@L.P 0x100000110000010000100011000001011010100100010101001010010100010110021022030169112021021000200
theorem Yu:∀{a b c:Nat},a<=16000->b+1+c=a->Min.min c a<=900000:=@L.P 0x100101010110103bbdec810003010112022263fa8813006920003000
theorem Ei:∀{a:Nat},a<55296\/57344<=a/\a<1114112->a<1114112:=@L.P 0x110114a8888810014a888881001001e88881071dc88810018690
theorem Yv:∀{a b c:Nat},a<=16000->b<=4*a->0+c=a->b<=900000:=@L.P 0x100143bbdec81100200001226204310063fa88120069000
theorem Yw:∀{a b c d e f g h:Nat},a<=3*b->c<=3*d->e<=3*(f+g)->e+a+c+h<=3*(f+(g+(b+d+h))):=@L.P 0x11110040602210220233005070302220102023330064033500660337006900000000
theorem Yx:∀{a b c d e f g h i:Nat},a<=200000->b<=3*c->c<=a->0<=(↑d:Int)/\e<=900->e<=a/\f<=a/\g<=a->h<=3*e->i<=3*f->b+h+i+g<=16000000:=@la _ 0x111130303177d8aa888120001070222030330006403310061802001803007180400761e8c14005070137618060066033700668ed881180069000000000 (by kernel_rfl!)
theorem Yy:∀{a b c d e f g h i:Nat},a<=200000->b<=3*c->c<=a->0<=(↑d:Int)/\e<=900->e<=a/\f<=a/\g<=a->h<=3*e->i<=3*f->b+h+i<=16000000:=@la _ 0x111030303167d8aa888100107022030330006403310061802001803007180400761e8c14005070137618060066033700668ed881180069000000000 (by kernel_rfl!)
theorem Yz:∀{a b c d:Nat},a<=200000->b<=a/\c<=a/\d<=a->d<=1000000:=@L.P 0x110013ec9988100030000301007302007668ed881300690000
theorem YA:∀{a b c d:Nat},a<=200000->b<=a/\c<=a/\d<=a->d<=16000000:=@L.P 0x110017d8aa888100030000301007302007668ed881300690000
theorem YB:∀{a b c d e f:Nat},a<=200000->b<=3*c->c<=a->0<=(↑d:Int)/\e<=900->f<=3*e->b+f<=16000000:=@la _ 0x11303137d8aa8881004020103300061e8c1100207013765030063033400668ed88150069000000 (by kernel_rfl!)
theorem YC:∀{a:Nat},a<=16000->a<=1000000:=@L.P 0x113ec998810003fa881000690
theorem YD:∀{a b c d e f:Nat},a<=b+(c+(a+d+e+f))/\d<=b+(c+(a+d+e+f))/\e<=b+(c+(a+d+e+f)):=@L.P 0x111001020502223024021000010205022230240220070010205022230240250079000000
theorem YE:∀{a b c:Nat},a+b<=a+(b+c):=@L.P 0x1001022021020209000
theorem YF:∀{a b:Nat},a<=900->b<=a+2->1<=a->b<=3*a:=@L.P 0x121010330001011062110200061e8c11006900
theorem YG:∀{a b c:Nat},a<=b->b=c+1->a<=c+1:=@L.P 0x1011110022001100210261020069000
theorem YH:∀{a:Nat},128*a/128=a:=@L.P 0x2880112881002010291ff00288370
theorem YI:∀{a:Nat},1<=a->128<=128*a:=@L.P 0x12880028832881000110690
theorem YJ:∀{a b:Nat},a<=4*b->a<=128*b:=@L.P 0x1100288310000431006900
theorem YK:∀{a b:Nat},a<=b->a+1<=b+1:=@L.P 0x1111002111020001006900
theorem YL:∀{a b:Nat},a<=b->a/128<=b/128:=@L.P 0x28810111001030040500691ff2071ff10700
theorem YM:∀{a b:Nat},a<=b->¬a<128->b/128<b:=@L.P 0x2881ff1ff100201012881301a620300691ff00700
theorem YN:∀{a b:Nat},a<=b->¬a<128->128<=b:=@L.P 0x11100288102881101a6001006900
theorem YO:∀{a b c:Nat},a+1+b=c->c<=16000->Min.min b c<=900000:=@L.P 0x110001011010103bbdec810003fa8811006102011302226900103000
theorem YP:∀{a b c d:Nat},a<=3->b=c->d+1+c=a->b<=900000:=@L.P 0x1010113bbdec8120030101100222610202631300690000
theorem YQ:∀{a b c d:Nat},a<=3*b->b<=200000->1<=b->c<=900->d<=3*c->1+d+a<=16000000:=@la _ 0x1130317d8aa8881300011220103300061e8c1100620110668ed88120062033300690000 (by kernel_rfl!)
theorem YR:∀{a b:Nat},a<=900->b<=3*a->1+b<=16000000:=@L.P 0x1137d8aa8881001120103300061e8c11006900
theorem YS:∀{a b:Nat},a<=3*b->b<=200000->1<=b->a<=16000000:=@L.P 0x10317d8aa888110000110668ed881000600331006900
theorem YT:∀{a:Int},0<=a->a<=2->0<=a/\a<256:=@L.P 0x110101488100400013721003600013691
theorem YU:∀{a b:Nat},a<=3*b->b<=200000->1<=b->a<=1000000:=@L.P 0x10313ec9988110000110668ed881000600331006900
theorem YV:∀{a b:Nat},a<=3*b->a<=4*b:=@L.P 0x11004310000331006900
theorem YW:∀{a b c:Nat},a<=200000->b<=4*c->c<=a->b<=900000:=@L.P 0x14143bbdec811002000060043100668ed88120069000
theorem YX:∀{a b c d e f:Nat},a<=200000->b+1<=a->c+1<=b->d=e->f+1+e=c->d<=900000:=@la _ 0x101011113bbdec8120030101100222610202640113020650114020668ed88150069000000 (by kernel_rfl!)
theorem YY:∀{a b c d e f:Nat},a<=200000->b+1<=a->c+d<=b->e<=3*c->f<=3*d->e+f<=16000000:=@la _ 0x1113337d8aa8881001020203300063033100640203020650114020668ed88150069000000 (by kernel_rfl!)
theorem YZ:∀{a b c d e:Nat},a<=200000->b+1<=a->c+d<=b->e<=3*c->d<=200000:=@L.P 0x1011168ed8811002033000630102020640113020668ed8814006900000
theorem Y0:∀{a b c d:Nat},a<=3*b->c<=3*d->c+a<=3*(d+b):=@L.P 0x1112000233301020003310062033300690000
theorem Bn:∀{a b:Nat},a<=200000->b+1<=a->b<=200000:=@L.P 0x11168ed88100010110020668ed8811006900
theorem Y1:∀{a b c d e:Nat},a<=200000->b+1<=a->c<=3*b->d<=3*e->e<=900->d+c<=16000000:=@la _ 0x1311337d8aa88812010201e8c10006003310063033200640113020668ed8814006900000 (by kernel_rfl!)
theorem Y2:∀{a b c:Nat},a<=200000->b+1<=a->c<=3*b->c<=900000:=@L.P 0x11333bbdec810001033000620111020668ed88120069000
theorem Y3:∀{a b c:Nat},a<=3*b->a<=3*(c+b):=@L.P 0x111000233200103320069000
theorem Y4:∀{a b c:Nat},a<=200000->b+c+1<=a->b+c<=200000:=@L.P 0x11168ed88100102020110010220668ed88120069000
theorem Mv:∀{a b:Nat},1<=a->1<=a+b:=@L.P 0x1100102110101106900
theorem Y5:∀{a b c d:Nat},a<=200000->b+c+1<=a->d<=3*b->1<=b->d+c<=3*(b+c):=@L.P 0x1010010202331000202011062033000630111020220668ed881300690000
theorem Y6:∀{a b c d:Nat},a<=200000->b+c+1<=a->d<=3*b->d+c<=16000000:=@L.P 0x11337d8aa88811000202033000630111020220668ed881300690000
theorem Y7:∀{a b c:Nat},a<=200000->b+c+1<=a->c<=1000000:=@L.P 0x1113ec9988100020110010220668ed88120069000
theorem Y8:∀{a b c:Nat},a<=200000->b+c+1<=a->c<=16000000:=@L.P 0x1117d8aa888100020110010220668ed88120069000
theorem Mw:∀{a b c:Nat},a<=b->1<=c->a+1<=c+b:=@L.P 0x111100021120200011061020069000
theorem Y9:∀{a b c:Nat},1<=a->1<=a+b+c:=@L.P 0x11001020221102011069000
theorem Y_:∀{a b c:Nat},1<=a->b<=c->b+1<=a+c:=@L.P 0x111002021110200010062011069000
theorem Za:∀{a b c d:Nat},a+1<=b+(c+a+1+d):=@L.P 0x10011301022220211302090000
theorem Bo:∀{a b:Nat},a+1+b=5->a+(b+1)=5:=@L.P 0x11010151110021022510011102226900
theorem Zb:∀{a b c:Nat},a+1+b=c+1->a+(b+1)=c+1:=@L.P 0x110101110021110220221100210112022269000
theorem Zc:∀{a b c d:Nat},a+1+b=5->c+1+d=b+1->d<=900000:=@L.P 0x101013bbdec8100011202001110222651201130222690000
theorem Zd:∀{a b c d:Nat},a+1+b=5->c+1+d=b+1->d<5:=@L.P 0x101015100111202001110222651201130222690000
theorem Ze:∀{a:Int}{b:Nat}{c:Int}{d e f:Nat},a<=(↑b:Int)->¬a<=c+(↑d:Int)->e+1+f=d+1->c+(↑f:Int)<(↑b:Int):=@L.P 0x101113070070024112020011102226207002103a630710369000101
theorem Zf:∀{a:Int}{b:Nat},0<=a->0<=a+(↑b:Int):=@L.P 0x11007002013000136901
theorem Zg:∀{a b c:Nat},a+1+b=5->c<b+1->c<5:=@L.P 0x1101510011110200165110112022269000
theorem Zh:∀{a b:Nat},a+1+b=5->(↑b:Int)+1<=1000000000000:=@L.P 0x1011ecbacd9a9888811100723510011102226900
theorem Zi:∀{a b:Nat},a+1+b=5->-1000000000000<=(↑b:Int)+1:=@L.P 0x1001100721ecbacd9a98888163510011102226900
theorem Zj:∀{a:Int}{b:Nat}{c:Int}{d:Nat},a<=(↑b:Int)->¬a<=c+(↑d:Int)->c+(↑d:Int)<(↑b:Int):=@L.P 0x1111070070024007002103a6107103690101
theorem Zk:∀{a:Int}{b c:Nat},0<=a->b+1+c=5->0<=a+(↑c:Int):=@L.P 0x10010070020135100111022260001369001
theorem adx:∀{a b:Nat},a+1+b=5->0<(↑(a+1):Int):=@L.P 0x100111027014510011102226900
theorem Zl:∀{a:Nat},a<5->0<=(↑a:Int):=@L.P 0x1000701351001690
theorem Zm:∀{a:Nat},a<5->a=0\/a=1\/a=2\/a=3\/a=4:=@la _ 0x101000100100101000100010101000100100101000100001101000100100101000100010101000100100101000100001101001000101001001000011001001000101001001000011001010000110001010000110001100001100001000014100231002821002811002801002851001690 (by kernel_rfl!)
theorem Zn:∀{a b:Nat},a<=5->b<a->Min.min (b+1) a<=5:=@L.P 0x1010101010115100020101651200691011002300
theorem Zo:∀{a b c d:Int},0<=a/\a<=b->0<=c/\c<=d->0<=a+c/\a+c<=d+b:=@L.P 0x11010101012000210302310302013700103100137620303300137691111
theorem Zp:∀{a:Nat},a<1114112->(↑a:Int)<=1114111:=@L.P 0x1149fffff100734a888881001690
theorem Zq:∀{a:Nat},a<1114112->0<=(↑a:Int):=@L.P 0x100070134a888881001690
theorem Zr:∀{a:Nat},(↑a:Int)<1114112↔a<1114112:=@L.P 0x11114a8888810014a8888810074990
theorem Zs:∀{a:Nat},57344<=(↑a:Int)↔57344<=a:=@L.P 0x1111001e8888100071e888813990
theorem Zt:∀{a:Nat},(↑a:Int)<55296↔a<55296:=@L.P 0x11111dc88810011dc88810074990
theorem Zu:∀{a b:Nat},1<=a->b+1+a=5->a<=7:=@L.P 0x101071100511011002226101106900
theorem Zv:∀{a:Int}{b c d e:Nat},a<=(↑b:Int)->1<=c->d+1+c=5->(↑e:Int)+(↑c:Int)<=a->(↑e:Int)<(↑b:Int):=@la _ 0x1100113070074002070072365120111022262011063070036900001 (by kernel_rfl!)
theorem Zw:∀{a b:Nat},a+1+b=5->¬b=1->¬(↑b:Int)=1:=@L.P 0x1010001100110075a11002a6510011102226900
theorem Zx:∀{a:Int}{b c d e:Nat},a<=(↑b:Int)->c+1+d=5->(↑e:Int)+(↑d:Int)<=a->d=1->(↑e:Int)<(↑b:Int):=@la _ 0x11010013070074111026001070072365110112022263070036900001 (by kernel_rfl!)
theorem Zy:∀{a b:Nat},a+1+b=5->b=1->(↑b:Int)=1:=@L.P 0x1100010100110075110026510011102226900
theorem Zz:∀{a b:Nat},1<=a->b+1+a=5->1<=a+1:=@L.P 0x100011102110511011002226101106900
theorem ZA:∀{a b:Nat},((↑a:Int)+(↑b:Int)).toNat=a+b:=@L.P 0x10011010110010101020200290071072500
theorem ZC:∀{a b c:Nat},a<=b->(↑c:Int)+(↑a:Int)+(↑(b-a):Int)=(↑c:Int)+(↑b:Int):=@L.P 0x100011101010100100102071072007307107225203006920102000
theorem ZD:∀{a b:Nat}{c:Int}{d e:Nat},(↑a:Int)+(↑b:Int)<=c->c<=(↑d:Int)->e<=b->(↑a:Int)+(↑e:Int)+(↑(b-e):Int)<=(↑d:Int):=@L.P 0x1111010101101020700710740722330100620700360030740723690020200100
theorem ZE:∀{a b:Nat},0<=(↑(a-b):Int):=@L.P 0x1000100000701390010200
theorem ZF:∀{a b:Nat},0<=(↑a:Int)+(↑b:Int):=@L.P 0x10071072013900
theorem Mx:∀{a:Nat},0<a->(↑a:Int)≠0:=@L.P 0x11010075a00011690
theorem ZG:∀{a:Nat},a<=7->(7-(↑a:Int)).toNat=7-a:=@L.P 0x10010000100000101001000110000010100100001000101010010100101000100010271200691071200771550
theorem ZH:∀{a:Nat},a<=7->(0:Int)<=7-(↑a:Int):=@L.P 0x1100771501371000690
theorem ZI:∀{a b c:Nat},a<=b+c->¬(↑a:Int)<(↑b:Int)+(↑c:Int)->(↑b:Int)+(↑c:Int)<=(↑a:Int):=@L.P 0x1102070071072300710722074a60010220069000
theorem ZJ:∀{a:Nat}{b c:Int}{d e f g:Nat},a<=16000->0<=b->c<=(↑a:Int)->b<(↑d:Int)->(↑d:Int)<=c->0<=(↑e:Int)->(↑e:Int)<4294967296->¬c<(↑d:Int)+(↑e:Int)->f<=d+e->g<=f->¬(↑f:Int)<(↑d:Int)+(↑e:Int)->g<=1000000:=@la _ 0x1011100001013ec9988100020730721074a61000062030210062073072004a64888888888812074620701360030736307104640700361001363fa881400690000110 (by kernel_rfl!)
theorem ZK:∀{a b c:Nat},a<=b->(↑b:Int)<(↑c:Int)->a+1<=c:=@L.P 0x11100112020007107461020069000
theorem ZL:∀{a b c:Nat},(↑a:Int)<=(↑b:Int)+(↑c:Int)->a<=b+c:=@L.P 0x11001022000071072207369000
theorem ZM:∀{a b c d e:Nat},(↑a:Int)+(↑(b+1):Int)>=(↑c:Int)+(↑d:Int)->(↑a:Int)<(↑e:Int)->(↑e:Int)+(↑b:Int)>=(↑c:Int)+(↑d:Int):=@L.P 0x111307007210720723007407461130274072107207236900000
theorem ZN:∀{a:Nat}{b:Int}{c d e f g:Nat},a<=16000->b<=(↑a:Int)->¬b<(↑c:Int)+(↑d:Int)->e<=f->(↑f:Int)<(↑g:Int)->(↑g:Int)<=(↑c:Int)+(↑d:Int)->e<=900000:=@la _ 0x11111113bbdec81200307407200736007107461020063074072004a650700363fa881500690000010 (by kernel_rfl!)
theorem ZO:∀{a:Nat}{b:Int}{c d e:Nat}{f:Int},a<=16000->b<=(↑a:Int)->¬b<(↑c:Int)+(↑d:Int)->(↑e:Int)<(↑c:Int)+(↑d:Int)->(↑e:Int)<f->0<=f:=@la _ 0x1100000001300007461072072007461072072104a630710363fa88130069100010 (by kernel_rfl!)
theorem ZP:∀{a b c:Nat},(↑a:Int)<(↑b:Int)+(↑c:Int)->¬(↑b:Int)+(↑c:Int)<=(↑a:Int):=@L.P 0x1120700710723a0071072207469000
theorem My:∀{a:Int}{b c d:Nat},a<=(↑b:Int)->¬a<(↑c:Int)+(↑d:Int)->(↑c:Int)+(↑d:Int)<=(↑b:Int):=@L.P 0x111207007107230071072004a6207003690001
theorem ZQ:∀{a b c d:Nat},(↑a:Int)+(↑b:Int)>=(↑c:Int)+(↑d:Int)->(↑a:Int)<(↑c:Int)+(↑d:Int)->b=b-1+1:=@L.P 0x1110101000011000101001001100230210720724074630740721072072369112020000
theorem ZR:∀{a b:Nat},0<=(↑a:Int)->(↑a:Int)<4294967296->b<=b+a:=@L.P 0x10010002000488888888881107461070136900
theorem ZS:∀{a b:Nat},(↑a:Int)+(↑b:Int)>=(↑a:Int)+(↑b:Int):=@L.P 0x1007107200710723900
theorem ZT:∀{a:Nat},1<=a->1<=a+1:=@L.P 0x111100211000110690
theorem ZU:∀{a b:Nat},1<=a->(↑b:Int)<(↑b:Int)+(↑a:Int):=@L.P 0x1110700720074101106900
theorem ZV:∀{a b:Int}{c:Nat},¬a<=b+(↑c:Int)->b+(↑c:Int)+1<=a:=@L.P 0x11101100700223007002103a69011
theorem ZW:∀{a:Int}{b:Nat},a<a+(↑b:Int)+1:=@L.P 0x1110070022004901
theorem ZX:∀{a b:Int},0<=a->0<=b->0<=b+a:=@L.P 0x11110002013000136100136911
theorem ZY:∀{a:Nat},7*(a+1)=7*a+7:=@L.P 0x1171007321100273290
theorem ZZ:∀{a:Int}{b:Nat},a+(↑(b+1):Int)=a+(↑b:Int)+1:=@L.P 0x111100700221100270025901
theorem Z0:∀{a b c:Int},a<b->c<=127*b->a+c<b*128:=@L.P 0x111102884002024101ff300361020469111
theorem vE:∀{a:Nat},128+a%64<256:=@L.P 0x100148810028812197f0070
theorem Mz:∀{a:Nat},¬a<2048->a<65536->224+a/4096<256:=@L.P 0x18888101004881103c81212888881201648881201a697fff0070
theorem MA:∀{a:Nat},¬a<128->a<2048->192+a/64<256:=@L.P 0x398849049004881103881214888120162881201a697f0070
theorem MB:∀{a:Nat},a<128->a<256:=@L.P 0x1148810012881001690
theorem Z1:∀{a:Nat}{b:Int}{c:Nat},¬a<=(b-(↑c:Int)).toNat->¬(↑c:Int)+(↑a:Int)<=b:=@L.P 0x11001111000020710723a00200a690070055010
theorem Z2:∀{a:Nat}{b:Int}{c:Nat},1<=a->a<=(b-(↑c:Int)).toNat->(↑c:Int)+(↑a:Int)<=b:=@L.P 0x11010110010002071072300200620110690070055010
theorem MC:∀{a:Int}{b c d:Nat},a<=(↑b:Int)->1<=c->c<=(a-(↑d:Int)).toNat->d+(a-(↑d:Int)).toNat<=b:=@L.P 0x1100101001010300010200020062011063070036900700550001
theorem MD:∀{a:Int}{b c:Nat},a<=(↑b:Int)->Min.min (a-(↑c:Int)).toNat (b-c)=(a-(↑c:Int)).toNat:=@la _ 0x10000000010100100100001000000001010010000000100000000101001100000010100000000100100000001100000101010011000000101000000001001000000011100100010100110000001010000000010010000000200024070036900103102020070055001 (by kernel_rfl!)
theorem Z3:∀{a b:Nat},a<=b->a=Min.min a b:=@L.P 0x100111110010010101000020210200690010300
theorem ME:∀{a b c:Nat},a+(b+1)<=c->a<c:=@L.P 0x11002010011102202069000
theorem Z4:∀{a b:Nat},1<=a->a<=b->b=b-1+1:=@L.P 0x1110101000011000101001001100210210200620110691100200
theorem Z5:∀{a b:Nat},1<=a->a<=b->Min.min (a-1) (b-1)=a-1:=@la _ 0x10000000001010001001000010010000000010001000000010000000001010001100000010000000001010001000000011000000101010001100000010010000000010001000000011010010001010001100000010010000000010001000000020002304006401106900103111021110200 (by kernel_rfl!)
theorem Z6:∀{a:Nat},¬(↑(a+1+1+1):Int)<3:=@L.P 0x1311111110022274a90
theorem Z7:∀{a:Nat},¬(↑(a+1+1):Int)<2:=@L.P 0x1211111002274a90
theorem Z8:∀{a:Nat},¬(↑(a+1):Int)<1:=@L.P 0x1111100274a90
theorem Z9:∀{a b c:Nat},(a%16*64+b%64)*64+c%64<65536:=@la _ 0x100100188001888828888810020401884218842197f4077f3071f207000 (by kernel_rfl!)
theorem Z_:∀{a b:Nat},a%32*64+b%64<2048:=@L.P 0x10010018848881002018842197f2073f10700
theorem aaa:∀{a b:Nat},0<=(↑a:Int)->(↑a:Int)<4294967296->((↑b:Int)+(↑a:Int)-(↑b:Int)).toNat=a:=@L.P 0x10000110001010010010001020002488888888881207462070136900710700725500
theorem aab:∀{a:Int}{b c d:Nat},a<=(↑b:Int)->(↑c:Int)<=a->¬a<(↑c:Int)+(↑d:Int)->(↑c:Int)+(↑d:Int)<(↑c:Int)+(↑0:Int)+(↑(Min.min d (b-c)+1):Int):=@la _ 0x110100000110001000001101100100100010000011002701730722207307242073072004a600307364070036900103102020001 (by kernel_rfl!)
theorem aac:∀{a b:Nat},(↑a:Int)+(↑b:Int)<=(↑a:Int)+(↑0:Int)+(↑b:Int):=@L.P 0x10070171072200710723900
theorem aad:∀{a b:Nat},0<=(↑a:Int)->(↑a:Int)<4294967296->(↑b:Int)<=(↑b:Int)+(↑a:Int):=@L.P 0x10010700720073488888888881107461070136900
theorem aae:∀{a:Nat}{b:Int}{c d e:Nat},1<=a->b<(↑c:Int)+(↑d:Int)+(↑(e+1+1):Int)->b<(↑c:Int)+(↑(d+a):Int)+(↑(e+1):Int):=@L.P 0x11111002730102720722004111100227107207220046301106900010
theorem aaf:∀{a:Int}{b c d e:Nat},a<=(↑b:Int)+(↑c:Int)+(↑(d+1):Int)->1<=e->a<=(↑b:Int)+(↑(c+e):Int)+(↑d:Int):=@L.P 0x11110700202730722003001106111027207307220036900001
theorem aag:∀{a:Int}{b c:Nat},¬a<=(↑b:Int)+(↑c:Int)->a<(↑b:Int)+(↑c:Int)+(↑(0+1):Int)->False:=@L.P 0x11b1101270071072200460071072003a69001
theorem aah:∀{a b c:Nat},1<=a->((↑(b+c):Int)+(↑a:Int)).toNat=b+(c+a):=@L.P 0x1000111010101001001030102202002301106920700102725000
theorem aai:∀{a:Nat}{b:Int}{c d:Nat},(↑a:Int)<=b->c=(b-(↑a:Int)).toNat->¬b<=(↑a:Int)+(↑d:Int)->c-d≠0:=@la _ 0x100000000100100000000100110000110001110010010001002a2074072003a6103026004073691020220700550010 (by kernel_rfl!)
theorem aaj:∀{a:Nat}{b:Int}{c d:Nat},(↑a:Int)<=b->c=(b-(↑a:Int)).toNat->¬b<=(↑a:Int)+(↑d:Int)->(b-(↑(a+d):Int)).toNat=(b-(↑a:Int)).toNat-d:=@la _ 0x1000000000001010000000000010100000000100010000000010000100000100000000100000000000101000000000001010000000000011000001000000010000000010000010000000010001000000001000010000010000000010000010001001000001010001010000100010100001023075072003a62040260050736920102103027005520700550010 (by kernel_rfl!)
theorem MF:∀{a:Int}{b c:Nat},¬a<=(↑b:Int)+(↑c:Int)->¬a<=(↑(b+c):Int):=@L.P 0x11001027003a0071072003a69001
theorem aak:∀{a:Nat}{b:Int}{c d:Nat},a=(b-(↑c:Int)).toNat->b<=(↑c:Int)+(↑d:Int)->a<=d:=@L.P 0x100101011010101030010720720036003026910700550010
theorem aal:∀{a:Int}{b c:Nat},a<=(↑b:Int)+(↑c:Int)->a<=(↑(b+c):Int):=@L.P 0x11001027003007107200369001
theorem aam:∀{a:Int}{b c:Nat},a<=(↑b:Int)->(↑c:Int)<=a->Min.min (a-(↑c:Int)).toNat (b-c)=(a-(↑c:Int)).toNat:=@la _ 0x1000000000101000100100001000000000101000100000001000000000101000110000001001000000001000100000001010000010101000110000001001000000001000100000001011001000101000110000001001000000001000100000002000200307364070036900103102020070055001 (by kernel_rfl!)
theorem aan:∀{a:Int}{b:Nat},0<=a->(↑(b+(a.toNat+1)):Int)=(↑b:Int)+1+a:=@L.P 0x100011101010100100100011107221100210275000136900501
theorem aao:∀{a b:Nat}{c:Int},¬a<=b->¬(↑a:Int)<=(↑b:Int)+c->¬(↑(a-(b+1)):Int)<c:=@L.P 0x110001110100000074a0010722073a610200a6911002102100
theorem aap:∀{a b:Nat}{c:Int},¬a<=b->(↑a:Int)<=(↑b:Int)+c->(↑(a-(b+1)):Int)<c:=@L.P 0x1110101100100000740010722073610200a6911002102100
theorem aaq:∀{a b:Nat},a<=b->(↑a:Int)<=(↑b:Int):=@L.P 0x110071073001006900
theorem MG:∀{a:Nat}{b c d e:Int},a<=16000->b<=(↑a:Int)->0<=c->c<=b->c<d->d<e->0<=e:=@la _ 0x11101000001300104610204630203620013600730363fa8810006911110 (by kernel_rfl!)
theorem MH:∀{a:Nat}{b:Int}{c:Nat},(↑(a+1):Int)+b=(↑c:Int)->(↑a:Int)+(b+1)=(↑c:Int):=@L.P 0x1101010071100210725007001110272569010
theorem MI:∀{a:Nat}{b c d:Int},a<=16000->b<=(↑a:Int)->0<=c->c<=b->c<d->0<=d:=@la _ 0x1101000001300104620103610013600720363fa881000691110 (by kernel_rfl!)
theorem MJ:∀{a:Nat}{b:Int}{c:Nat},(↑(a+1):Int)+b=(↑c:Int)->b<(↑c:Int):=@L.P 0x101007004007001110272569010
theorem MK:∀{a:Int}{b:Nat},(↑0:Int)+a=(↑b:Int)->¬a<(↑b:Int):=@L.P 0x110007004a00700017256901
theorem ML:∀{a:Nat},(↑a:Int)+0=(↑a:Int):=@L.P 0x11007010072590
theorem aar:∀{a:Nat}{b c:Int}{d:Nat},a<=16000->b<=(↑a:Int)->0<=c->c<=b->(↑d:Int)<=c->d<=900000:=@la _ 0x1110113bbdec81000000073610003600013610710363fa881100690110 (by kernel_rfl!)
theorem aas:∀{a:Int},0<=a->a<0->False:=@L.P 0x11b01004600013691
theorem aat:∀{a b:Nat}{c d e f:Int},(↑a:Int)+1<=(↑(b+1):Int)+c->0<=d->d<4294967296->c+1<e->e+d=f->(↑a:Int)+1<=(↑b:Int)+f:=@la _ 0x101101100007211107230020102561011302464888888888812046200136301100272111072369111100 (by kernel_rfl!)
theorem aau:∀{a:Nat}{b:Int},¬(↑a:Int)<b->b<=(↑a:Int):=@L.P 0x11007003000074a6910
theorem aav:∀{a b c d:Int},0<=a->0<=b->b<4294967296->a+1<c->c+b=d->0<=d:=@la _ 0x101101100013002010256101130246488888888881204620013630013691111 (by kernel_rfl!)
theorem MM:∀{a b:Int},¬a<=b->a=0->b<0:=@L.P 0x10110100401105600103a6911
theorem aaw:∀{a:Nat},(↑a:Int)<=(↑a:Int):=@L.P 0x1007007390
theorem aax:∀{a:Int},0<=a->a<3->a<=3:=@L.P 0x1103100331004600013691
theorem MO:∀{a:Nat},(↑a:Int)<3->a<=2:=@L.P 0x1121000310074690
theorem aay:∀{a:Nat},(↑a:Int)<3->(↑a:Int)<=1000000000000:=@L.P 0x111ecbacd9a9888810073310074690
theorem aaz:∀{a:Nat},(↑a:Int)<3->-1000000000000<=(↑a:Int):=@L.P 0x100071ecbacd9a98888163310074690
theorem aaA:∀{a:Nat},a<=63->a<=900000:=@L.P 0x113bbdec810007f1000690
theorem aaB:∀{a b c:Nat},a=b+c->b<=a:=@L.P 0x110201000010220269000
theorem aaC:∀{a:Nat},a<=2->a<=1000:=@L.P 0x111fd8100021000690
theorem aaD:∀{a b c:Nat},a+1+b=c->c<=2->b<=900000:=@L.P 0x11013bbdec811002100060010112022269000
theorem aaE:∀{a:Nat},a<=3->a<=1000:=@L.P 0x111fd8100031000690
theorem aaF:∀{a b:Nat},0+a=b->b<=2->a<=2:=@L.P 0x110121100210006001001226900
theorem aaG:∀{a b:Nat},a<=b->b<=3->a<=1000:=@L.P 0x1111fd81100310006001006900
theorem MP:∀{a:Nat},a<=1000->a<=900000:=@L.P 0x113bbdec810001fd81000690
theorem aaH:∀{a b c d e f g:Nat},a<=2->b<=3->c+1+d=a->e<=3*f->f<=d->g<=3->b+a+e+g<=900000:=@la _ 0x113103143bbdec810020605022203100063010061033200660301140222631500621600690000000 (by kernel_rfl!)
theorem aaI:∀{a b c:Nat},a+1+b=c->Min.min b c<=b:=@L.P 0x100110001020000102011302226900103000
theorem MQ:∀{a b:Nat},0+a=b->a=b:=@L.P 0x11010100102001001226900
theorem aaJ:∀{a b:Nat},a<=2->b<=3->b+a<=900000:=@L.P 0x1113bbdec81100020310006211006900
theorem aaK:∀{a b c:Nat},a<=3->b<=2->c<=3*b->a+b+c<=1000:=@L.P 0x11411fd81001020220103300062110063120069000
theorem ady:∀{a b c d:Nat},a<=b->c<=d->a+c<=d+b*1:=@L.P 0x111201400210302000100620300690000
theorem aaL:∀{a b c d e:Nat},a<=b->1+b<=c->d+e+c<=16000->a<=16000:=@L.P 0x11113fa8814003fa8812000102206203011206304006900000
theorem aaM:∀{a b c d:Nat},a<=b->c+b+d<=16000->a<=16000:=@L.P 0x1113fa8813003fa881002010220620300690000
theorem aaN:∀{a b:Nat},a<=30+9*b->b<=16000->a<=200000:=@L.P 0x119168ed8811003fa8810006001933e121006900
theorem aaO:∀{a b c d e f:Nat},a<=7+4*b->c<=7+9*d->e<=7+9*f->a+c+e<=30+9*(b+d+f):=@L.P 0x1111002040221933e12103050220001937121006201937123006404371250069000000
theorem MR:∀{a b c:Nat},a<=3+9*b->c<=4+a->c<=7+9*b:=@L.P 0x111101937120002041200061019331220069000
theorem aaP:∀{a b c d e:Nat},a+b+c<=16000->d<=7+4*a->e<=3+9*c->e<=1000000:=@L.P 0x110193ec99881000201933120006404371210063fa8812030402206900000
theorem aaQ:∀{a b c:Nat},a+b+c<=16000->c<=16000:=@L.P 0x113fa8810003fa88100102022069000
theorem aaR:∀{a b c d e:Nat},a+b+c<=16000->d<=7+4*a->e<=3+9*b->e<=1000000:=@L.P 0x110193ec99881000301933120006404371210063fa8812030402206900000
theorem aaS:∀{a b c:Nat},a+b+c<=16000->b<=16000:=@L.P 0x113fa8811003fa88100102022069000
theorem aaT:∀{a b c d e:Nat},a<=4*b->c=b->d<=3->e<=4+(d+a)->e<=7+4*c:=@L.P 0x111401204371200040102412000631100630202630434006900000
theorem aaU:∀{a b c d e f:Nat},a+b+c<=16000->d<=4*e->a=e->f<=3->f+d<=1000000:=@la _ 0x1140143ec99881200020310006105026104320063fa88130405022069000000 (by kernel_rfl!)
theorem aaV:∀{a b c d e:Nat},a+b+c<=16000->d<=4*e->a=e->d<=1000000:=@L.P 0x140143ec99881100004026004310063fa8812030402206900000
theorem aaW:∀{a b:Nat},a<=3->a+b+1<=4+b:=@L.P 0x1100412110010220311006900
theorem MS:∀{a b c:Nat},a<=3->b<=9*c->a+b<=3+9*c:=@L.P 0x111001933121020200019310063120069000
theorem aaX:∀{a b c:Nat},a<=6->b<=3+9*c->a+b<=9*(1+c):=@L.P 0x111001121931020200019331210066120069000
theorem MT:∀{a b:Nat},a<=16000->1+b<=a->b<=16000:=@L.P 0x1113fa8810001000112063fa8811006900
theorem MU:∀{a b:Nat},a<=16000->b<=a->b<=1000000:=@L.P 0x1113ec998810001000063fa8811006900
theorem aaY:∀{a b c d:Nat},a<=6->b<=4*c->d<=3->a+d+b<=9*(1+c):=@L.P 0x1111101121932000302203100061043200661300690000
theorem aaZ:∀{a b c:Nat},a<=16000->b<=4*c->1+c<=a->b<=1000000:=@L.P 0x14143ec99881100200011206004310063fa88120069000
theorem adz:∀{a b c d:Nat},a<=b->c<=d->a+c<=b+d:=@L.P 0x1110020210302000100620300690000
theorem aa0:∀{a b c:Nat},a<=b->a<=c+b:=@L.P 0x11100022001020069000
theorem MV:∀{a:Int},0<=a->-1<a:=@L.P 0x1100116400013691
theorem aa1:∀{a:Int},0<=a->a<4294967296->(↑a.toNat:Int)=a:=@L.P 0x100001101010100100100010000075488888888881004600013690051
theorem aa2:∀{a:Int},0<=a->a<4294967296->a.toNat<4294967296:=@L.P 0x100010110010488888888881001488888888881004600013690051
theorem aa3:∀{a b c:Nat},a+b+1<=c+1->1<=a->b+1<=c:=@L.P 0x111001110202011061100211102022069000
theorem aa4:∀{a b:Nat},a+1<=b->b=b-1+1:=@L.P 0x110101000110010101001100210210112020691100200
theorem aa5:∀{a:Nat},a<55296\/57344<=a/\a<1114112->¬a<65536->240+a/262144<256:=@L.P 0x18888880101000110004881103e81212888881201a64a888881201201e88881071dc88812018697fffff0070
theorem aa6:∀{a b:Nat},a+1+b=5->b<=3->b+1<=4:=@L.P 0x110041110020310006510011102226900
theorem aa7:∀{a:Nat},(a%128+128)%256=a%128+128:=@L.P 0x4881000011488100000148801000010100000288120200290107a3ff288100271ff0070
theorem aa8:∀{a:Nat},0+a=5->a<=4->False:=@L.P 0x110b41000651000122690
theorem aa9:∀{a:Int}{b:Nat},a<=16000->(↑b:Int)<=a->b<=16000:=@L.P 0x1113fa88100000007363fa8810036901
theorem MW:∀{a:Int},a<4294967296->a<68719476736:=@L.P 0x1118888888888881004488888888881004691
theorem aba:∀{a:Nat}{b:Int},(↑a:Int)=b->b<0->False:=@L.P 0x101b0100460000756910
theorem MX:∀{a:Nat}{b c:Int},¬(↑a:Int)<b+c->b+c<=(↑a:Int):=@L.P 0x11007001023001020074a69110
theorem abb:∀{a b:Int},0<=a->a<4294967296->b<=b+a:=@L.P 0x101100020034888888888811046100136911
theorem abc:∀{a b:Int},a+1<b->a<=b:=@L.P 0x1100103001110246911
theorem abd:∀{a b:Int}{c:Nat}{d:Int}{e f:Nat},a<=b->b+(↑c:Int)<=d->(↑(e+f+0):Int)<=a->(↑(e+f+c):Int)<=d:=@L.P 0x1111002000102273200100102273600207102361020369001011
theorem abe:∀{a b:Int}{c:Nat}{d:Int}{e f:Nat},a<=b->b+(↑c:Int)<=d->(↑(e+0+f):Int)<=a->(↑(e+c+f):Int)<=d:=@L.P 0x1111000020102273200001102273600207102361020369001011
theorem abf:∀{a b:Int}{c d e:Nat}{f g:Int},a<=b->(↑(0+c+d):Int)<=a->b+(↑(1+e):Int)<=f->f<=g->(↑(e+c+d):Int)<=g:=@la _ 0x111110010200022730010361000112720236301020012273620303691100011 (by kernel_rfl!)
theorem abg:∀{a b:Int}{c:Nat},a<=b->(↑c:Int)<=a->(↑c:Int)<=b:=@L.P 0x11100007310007360010369011
theorem abh:∀{a b:Int}{c:Nat}{d:Int},a<b->b+(↑c:Int)<=d->a+(↑c:Int)<=d:=@L.P 0x111000072023000071023610204691011
theorem abi:∀{a b:Int}{c:Nat}{d e:Int},a<=b->b+(↑c:Int)<=d/\d<=e->a+(↑c:Int)<=d/\d<=e:=@L.P 0x110010110010310007302370010310007202376203036911011
theorem abj:∀{a b:Int}{c:Nat}{d:Int},a<=b->b+(↑c:Int)<=d->a+(↑c:Int)<=d:=@L.P 0x111000072023000071023610203691011
theorem abk:∀{a b c d:Int}{e f:Nat},0<=a->a<4294967296->b<c->b<c+a/\c+a<=d->e<=Min.min a.toNat f-0->b+(↑(1+e):Int)<=c+a:=@la _ 0x11010000100000001101000010011010110100001000000011010000100100101101000010000000110010001001101011010000100000001100100010010010301024011272023004006003010233010220476102046488888888881304630013690100210003305001111 (by kernel_rfl!)
theorem abl:∀{a b c d:Nat},a<b->1<=c->d<=b-(a+c)->d+1<=b-a:=@la _ 0x100100011011000100001001000111010001000112020102006301106405016940302103022020000 (by kernel_rfl!)
theorem abm:∀{a:Int}{b c d e f g:Nat},a<=16000->(↑(b+c+d):Int)<=a->e<=c->f<=g->1+g<=d->f<=16000:=@la _ 0x1110113fa88110030001120600100640200600304050227363fa881003690000001 (by kernel_rfl!)
theorem MY:∀{a:Int}{b c d e f:Nat},a<=16000->(↑(b+c+d):Int)<=a->e<=c->f<=d->f<=16000:=@L.P 0x110113fa88100020000630100600203040227363fa88100369000001
theorem abn:∀{a:Int}{b c d e:Nat},a<=16000->(↑(b+c+d):Int)<=a->e<=c->e<=16000:=@L.P 0x11113fa88100020000600102030227363fa8810036900001
theorem abo:∀{a b:Nat},a<=30+9*b->b<=16000->a<4294967296:=@L.P 0x11914888888888811013fa8810006001933e121006900
theorem abp:∀{a b:Nat},a<=2->b<=4*a->b<4294967296:=@L.P 0x11448888888888100110430006211006900
theorem abq:∀{a:Int},¬0<=a->a<0:=@L.P 0x110100400013a691
theorem abr:∀{a b:Nat},a<=30+9*b->b<=40->a<=400:=@L.P 0x11916a811005810006001933e121006900
theorem abt:∀{a b c d:Nat},a<=2->b<=9->c<=10*d->d<=2->a+b+c<=40:=@L.P 0x11a111581102030220210006001a31006191200621300690000
theorem abu:∀{a:Nat},a<=9->1+a<=10:=@L.P 0x111a1001120191000690
theorem abv:∀{a:Int}{b:Nat},-300<=a/\a<=34359738371+200*(↑b:Int)->b<=3->a<68719476736:=@L.P 0x13981018888888888881004310006007398348888888888b12003004dc16376901
theorem abw:∀{a b:Nat},a<=3*b->b<=3->a<=9:=@L.P 0x13119110031000600331006900
theorem abx:∀{a:Nat},a<=2->1+a<=3:=@L.P 0x113100112021000690
theorem MZ:∀{a:Nat},a<=16000->(↑a:Int)<=16000:=@L.P 0x113fa88100733fa881000690
theorem aby:∀{a b:Nat},a<=3->b<=144*a->b<=600:=@L.P 0x112a819b81000102a830006311006900
theorem abz:∀{a b:Nat},a<=140->b<=4+a->b<=144:=@L.P 0x1112a8100010412000629c11006900
theorem abA:∀{a:Nat},a<=140->a<=1000000:=@L.P 0x113ec9988100029c1000690
theorem abB:∀{a:Nat},a<=60->a<=140:=@L.P 0x1129c10007c1000690
theorem abC:∀{a b:Nat},a<=8->b<=3->b+a<=140:=@L.P 0x11129c11000203100061811006900
theorem abD:∀{a:Nat},a<=8->a<=1000000:=@L.P 0x113ec99881000181000690
theorem abE:∀{a b c:Nat},a<=1->b<=1->c<=1->a+b+c<=3:=@L.P 0x1111310010202201100061110061120069000
theorem abF:∀{a b c:Nat},a<=2->b<=3->c<=66*a->b+c<=140:=@L.P 0x11118a29c10010202018a300063110062120069000
theorem abG:∀{a b:Nat},a<=6->b<=60->a+b<=66:=@L.P 0x11118a10010207c10006611006900
theorem abH:∀{a:Nat},a<=2->a<=1000000:=@L.P 0x113ec9988100021000690
theorem abI:∀{a b c:Nat},a<=3->b<=3->c<=17*a->b+c<=60:=@L.P 0x111297c10010202029300063110063120069000
theorem abJ:∀{a:Nat},a<=3->a<=1000000:=@L.P 0x113ec9988100031000690
theorem abK:∀{a:Int},-300<=a/\a<=34359738371+200*(↑2:Int)->-300<=a/\a<=34359738371+200*(↑3:Int):=@L.P 0x110101317398348888888888b12003004dc1637217398348888888888b12003004dc1637691
theorem M0:∀{a:Int},0<=a->a<8->2<=a->0<=a-2:=@L.P 0x110021005013002136181004600013691
theorem abL:∀{a:Int},0<=a->a<8->2<=a->a-2<6:=@L.P 0x101061210054002136181004600013691
theorem M1:∀{a b:Nat},a<=2->b<=4*a->b<=8:=@L.P 0x11418100010430006211006900
theorem abM:∀{a b c:Nat},a+1+b=c->c<=2->Min.min b c<=900000:=@L.P 0x110001011010103bbdec81000211006102011302226900103000
theorem abN:∀{a:Int},0<=a->a<6->a.toNat<6:=@L.P 0x1000101100106100161004600013690051
theorem abO:∀{a b:Nat}{c:Int}{d e f:Nat},a+(b+1)<=5000->0<=c->c+1<=(↑a:Int)->d<=1->e<=a-c.toNat->f<=c.toNat->f+d+e+b<=5000:=@la _ 0x11000101011110010100000000100001010111100101000019e981503040202220102006003006114006607110023600013619e9811150260206900502005000100 (by kernel_rfl!)
theorem abP:∀{a b c:Nat}{d:Int}{e f g:Nat},a+(b+1)<=5000->c+1<=b+1->0<a->d+1<=(↑a:Int)->e<=1->f<=a-d.toNat->g<=d.toNat->g+e+f<=16000000:=@la _ 0x111100000100101111000101000011111001010010111100010100007d8aa8881304020220102006003006114006707110023670011611602115020619e98111602702069006020050001000 (by kernel_rfl!)
theorem abQ:∀{a b c:Nat}{d:Int}{e f:Nat},a+(b+1)<=5000->c+1<=b+1->d+1<=(↑a:Int)->e<=1->f<=d.toNat->f+e<=16000000:=@la _ 0x1110000101111010107d8aa8881201020001006112006507110023611402113020619e98111402502069005001000 (by kernel_rfl!)
theorem Bp:∀{a b:Nat},a+(b+1)<=5000->a<=16000000:=@L.P 0x117d8aa888110019e9811100210206900
theorem abR:∀{a:Int}{b c:Nat},0<=a->a+1<=(↑b:Int)->c+(a+1).toNat<=b->c<=b-a.toNat:=@la _ 0x10000000010001000000001000000001000100000000010011101001010100110110001010011000010101001100100010100003004020302064071100236000136900302005110025001 (by kernel_rfl!)
theorem abS:∀{a:Int}{b:Nat},a+1<=(↑b:Int)->a+1<=(↑b:Int):=@L.P 0x110071100230071100236901
theorem abT:∀{a:Nat}{b:Int}{c:Nat},a+b.toNat<=c->a<=c-b.toNat:=@L.P 0x1100100011100000110010001110000000300201030206900102005010
theorem abU:∀{a:Int}{b:Nat},a+1<=(↑b:Int)->a<=(↑b:Int):=@L.P 0x110070030071100236901
theorem abV:∀{a b:Int}{c:Nat},0<=a->b=(↑c:Int)-1-a->b+1<=(↑c:Int):=@L.P 0x101100711002310110075500561001369011
theorem abW:∀{a:Int}{b:Nat}{c:Int},a<(↑b:Int)->c=(↑b:Int)-1-a->0<=c:=@L.P 0x110100013101100755005600710469101
theorem abX:∀{a:Nat},0<a->0<(↑a:Int):=@L.P 0x1100701400011690
theorem abY:∀{a b:Nat},a+(b+1)<=5000->a+b<=5000:=@L.P 0x1119e98100102019e9811100210206900
theorem abZ:∀{a b:Nat},a+b<=5000->a<=5000:=@L.P 0x1119e98110019e9810010206900
theorem ab0:∀{a:Nat},a<=4900->a+3<=5000:=@L.P 0x1119e98131002019ccc1000690
theorem ab1:∀{a:Nat},(↑a:Int)<4->a<=3:=@L.P 0x1131000410074690
theorem ab2:∀{a:Nat},(↑a:Int)<4->(↑a:Int)<=1000000000000:=@L.P 0x111ecbacd9a9888810073410074690
theorem ab3:∀{a:Nat},(↑a:Int)<4->-1000000000000<=(↑a:Int):=@L.P 0x100071ecbacd9a98888163410074690
theorem ab4:∀{a:Nat},a<=2400->a<=4900:=@L.P 0x1119ccc10004dc81000690
theorem ab5:∀{a b:Nat},a<=2400->b<=2400->a+4+b<=16000000:=@L.P 0x1117d8aa88810041102204dc8100064dc811006900
theorem ab6:∀{a b:Nat},a<=4*b->b<=600->a<=2400:=@L.P 0x1414dc8110019b81000600431006900
theorem ab7:∀{a:Int},a<3->a<=2:=@L.P 0x112100331004691
theorem ab8:∀{a:Nat},a<=5000->(↑a:Int)<=16000:=@L.P 0x113fa881007319e981000690
theorem ab9:∀{a:Int}{b c d e:Nat},a<=16000->(↑(b+c+d):Int)<=a->e<=30+9*(b+c+d)->e<=400000:=@L.P 0x1119191c9da881000102030221933e12000600102030227363fa8810036900001
theorem aca:∀{a:Int}{b c d e f g:Nat},a<=16000->(↑(b+c+d):Int)<=a->e<=c->1+f<=g->d=g->f<=16000:=@la _ 0x11010113fa88110000302600101120640200600304050227363fa881003690000001 (by kernel_rfl!)
theorem acb:∀{a:Int}{b c d:Nat},a<=16000->(↑(b+c+d):Int)<=a->c<=16000:=@L.P 0x1113fa88110000001020227363fa881003690001
theorem acd:∀{a:Int}{b c d e:Nat},a<=16000->b<=c->(↑(d+e+c):Int)<=a->d<=16000:=@L.P 0x11013fa88110000200010227362030063fa8810036900001
theorem ace:∀{a b:Nat},a<=63->b=a->b<=63:=@L.P 0x10117f10001000267f11006900
theorem acf:∀{a:Nat},¬63<(↑a:Int)->a<=63:=@L.P 0x117f10000077f14a690
theorem x1:∀{a:Nat},(128+a%64)%64=a%64:=@la _ 0x188010000149398804900000118800100001018810000001100000001100000010188010000001880110002000292107a1107a7f002881277f0070 (by kernel_rfl!)
theorem x2:∀{a:Nat},a<65536->(224+a/4096)%16=a/4096:=@la _ 0x128888801888800100102801000001028001000010028100000001100000000110000001002801000000028011000300022888881401691e107a1d107a1f103c81277fff0070 (by kernel_rfl!)
theorem x3:∀{a:Nat},a<1114112->(240+a/262144)%8=a/262144:=@la _ 0x1188888880188888800100101801000001018001000010018100000001100000000110000001001801000000018011000300024a888881401693e107a3d107a7103e81277fffff0070 (by kernel_rfl!)
theorem x4:∀{a:Nat},(a/4096*64+a/64%64)*64+a%64=a:=@la _ 0x11000000000011000000000101888801880010000001888801881880111000188880188001000111188880188001000001188880018800100001018888188001000006020005018842188422905071075a01075075a7f1077f2077fff0070 (by kernel_rfl!)
theorem x5:∀{a:Nat},((a/4096/64*64+a/4096%64)*64+a/64%64)*64+a%64=a:=@la _ 0x11000000000000011000000000000101888801880010018888000000188880188188011000100018888018800100000011118888018800100188880000011888800188001001888800001018888188001001888800000180200040501884218842188422907071075a01077075a7f1077f4077f1077fff0070 (by kernel_rfl!)
theorem x6:∀{a:Nat},a<55296\/57344<=a/\a<1114112->a<1114112:=@L.P 0x110114a8888810014a888881001001e88881071dc88810018690
theorem x7:∀{a b:Nat},(a%32*64+b%64)/64=a%32:=@la _ 0x1880110000001881000010004010297f00201884277f2073f10700 (by kernel_rfl!)
theorem x8:∀{c:Nat},c<256->(128+c%64=c↔128<=c/\c<192):=@la _ 0x1001880100490003988049000490039880490049000398804900100018800101000018810011000000110100000000001100000001100000001100000001100010000188010001001880111000018801100100188010388120120288107200028812294881201692107a1107a7f0070 (by kernel_rfl!)
theorem x9:∀{c:Nat},c<256->(224+c%16=c↔224<=c/\c<240):=@la _ 0x1002801001000280100010028010010002801001000280010100002810011000000110100000000001100000001100000001100000001100010000280100010028011100002801100100280103e81201203c810720003c812294881201691e107a1d107a1f0070 (by kernel_rfl!)
theorem x10:∀{c:Nat},c<256->(240+c%8=c↔240<=c/\c<248):=@la _ 0x1001801001000180100010018010010001801001000180010100001810011000000110100000000001100000001100000001100000001100010000180100010018011100001801100100180103f81201203e810720003e812294881201693e107a3d107a70070 (by kernel_rfl!)
theorem x11:∀{c:Nat},c<256->(192+c%32=c↔192<=c/\c<224):=@la _ 0x1004801001000480100010048010010004801001000480010100004810011000000110100000000001100000001100000001100000001100010000480100010048011100004801100100480103c8120120388107200038812294881201696107a5107a3f0070 (by kernel_rfl!)
theorem xo:∀{a b:Nat},(a*64+b%64)%64=b%64:=@la _ 0x1100000001100000010188010000001880110000188010000111880100000118800100001018810000020002905071075a01075075a7f00301884277f00700 (by kernel_rfl!)
theorem yZ:∀{a b:Nat},(a*64+b%64)/64=a:=@L.P 0x1880110001881000015010297f00301884277f00700
theorem BN:∀{a:Nat},a<128->(↑a:Int)<128:=@L.P 0x11288100742881001690
theorem x20:∀{a b:Int},0<=a->0<=b->(a+b).toNat-a.toNat=b.toNat:=@la _ 0x1000100000000001000000100000001010100000000011000000100000001000100000000001000000100000101010100000000011000000100000101000100000000001000000100000001000100000100011000000100000001000100000000001000000100000101000100000010011000000100000101000100000000001000000100000001010100010101001000000100000001000100000000001000010100010101010101000101001001000100010101000100000000001000000100000001000100010101001000000100000001000100000000001000010101000101000101000101001001000101000100010200013610013690050010210500102511 (by kernel_rfl!)
theorem x21:∀{a b c:Int},0<=a->0<=b->a+b<=c->a<=c:=@L.P 0x1110002030010202361001362001369111
theorem x22:∀{a b:Int},0<=a->0<=b->0<=a+b:=@L.P 0x11100102013000136100136911
theorem x23:∀{a b c:Nat},b<=c->a<=c-b->a+b<=c:=@L.P 0x11101011001010203020003006102006910002000
theorem x24:∀{a:Int}{b:Nat},0<=a->a<=(↑b:Int)->a.toNat<=b:=@L.P 0x100010110010100001070036000136900501
theorem x25:∀{a b:Int},a=b%128->(b%128).natAbs<18446744073709551616:=@L.P 0x100010000110001000102888888888888888888888100100305690061ff00811
theorem x26:∀{a b c:Nat},a<b->(↑c:Int)%64<64:=@L.P 0x100010188100410201697f0078000
theorem x27:∀{a:Int}{b c:Nat},0<=a->b<c->a<128*262144->a.natAbs<18446744073709551616:=@L.P 0x100101011000102888888888888888888888100118888881288300461020160001369006001
theorem x28:∀{a:Int},0<=a->a<128->a<128*1:=@L.P 0x1101128830042881004600013691
theorem x29:∀{a:Nat},(↑a:Int)%128<128:=@L.P 0x10010288100491ff00780
theorem x30:∀{a:Nat},2*64+(↑a:Int)%64=(↑(128+a%64):Int):=@la _ 0x110000000011000000010188100010000188100011001880011100111880010100011880100010010188010100000288127001881232590107105a0101075a7f0077f00780 (by kernel_rfl!)
theorem x31:∀{a:Nat},(↑a:Int)%64<64:=@L.P 0x10010188100497f00780
theorem x32:∀{a:Int},0<=a->a<16->a<12->a<9223372036854775808:=@L.P 0x1100188888888888888888888810041c10046281004600013691
theorem x33:∀{a:Int},0<=a->a<8->a<9223372036854775808:=@L.P 0x11018888888888888888888881004181004600013691
theorem x35:∀{a:Nat},a<=3->7*(↑a:Int)<=134217728:=@L.P 0x171888888888100773331000690
theorem EV:∀{a:Nat},a<=1000000->a<2097152:=@L.P 0x111888888810013ec99881000690
theorem x37:∀{a:Nat},a<5->8*(↑a:Int)<=134217728:=@L.P 0x11818888888881007183351001690
theorem x39:∀{a:Nat},a<=7->2*(7-(↑a:Int))<=134217728:=@L.P 0x101888888888100771523371000690
theorem x40:∀{a:Int},a<68719476736->a.toNat<4398046511104:=@L.P 0x1001011010188888888888888100118888888888881004690051
theorem x41:∀{a:Int},0<=a->a<8->2<=a->a-2<9223372036854775808:=@L.P 0x101018888888888888888888881210054002136181004600013691
theorem x42:∀{a b:Int},a<b->-2000000000000<=b-a:=@L.P 0x11100053d8ed9aaca8888163001046911
theorem x43:∀{a b:Int},-1000000000000<=a->b<=1000000000000->b-a<=2000000000000:=@L.P 0x1113d8ed9aaca888811000531ecbacd9a9888810036101ecbacd9a988881636911
theorem EW:∀{a:Int},-1000000000000<=a->-2000000000000<=a:=@L.P 0x11003d8ed9aaca8888163001ecbacd9a98888163691
theorem EX:∀{a:Int},a<=1000000000000->a<=2000000000000:=@L.P 0x113d8ed9aaca888810031ecbacd9a988881003691
theorem x46:∀{a b:Nat},a<=b+1->a+1<=b+1+1:=@L.P 0x1111110022111020110021006900
theorem x50:∀{a:Nat},¬((0:Int)<(↑a:Int))->0=(↑a:Int):=@L.P 0x1110007015007014a690
theorem EY:∀{a:Nat},a<=16000000->(↑a:Int)<9223372036854775808:=@L.P 0x111888888888888888888888100747d8aa8881000690
end Mine.Internal
end
section
namespace Mine.Internal
theorem y1:∀{a b c d e:Nat},a<=3*b->b<=c+1->d<=3*e->1+a+d<=4*(c+e+1):=@L.P 0x113111002022431040112200033100611202300630334006900000
theorem y2:∀{a:Nat},-1000000000000<=(↑a:Int):=@L.P 0x10071ecbacd9a9888816390
theorem y3:∀{a:Nat},(↑a:Int)<34359738368->(↑a:Int)<=1000000000000:=@L.P 0x111ecbacd9a988881007348888888888810074690
theorem y4:∀{a:Nat},(↑a:Int)<2048->(↑(a/64):Int)<64:=@L.P 0x398849490018811074488812074697f0070
theorem y5:∀{a:Nat},(↑a:Int)<65536->(↑(a/4096):Int)<32:=@L.P 0x188881100481107428888812074697fff0070
theorem y6:∀{a:Nat},a<55296\/57344<=a/\a<1114112->(↑(a/262144):Int)<16:=@L.P 0x1888888101001888888110028110744a888881201201e88881071dc88812018697fffff0070
theorem y7:∀{a b:Nat},a+(b+1)<=3->a+1<=3:=@L.P 0x1131111020311100210206900
theorem y8:∀{a b c:Nat},a+b=c->0<a->a-1+(b+1)=c:=@L.P 0x101000111010101010100100101010112020022300116102030226911202000
theorem y9:∀{a:Int},192<=a/\a<224->¬a<128:=@L.P 0x1012881004a3c8100400388137691
theorem vX:∀{a:Int},224<=a/\a<240->¬a<128:=@L.P 0x1012881004a3e81004003c8137691
theorem y11:∀{a:Int},224<=a/\a<240->¬(192<=a/\a<224):=@L.P 0x10013c8100400388137a3e81004003c8137691
theorem y12:∀{a:Int},240<=a/\a<248->¬a<128:=@L.P 0x1012881004a3f81004003e8137691
theorem y13:∀{a:Int},240<=a/\a<248->¬(192<=a/\a<224):=@L.P 0x10013c8100400388137a3f81004003e8137691
theorem y14:∀{a:Int},240<=a/\a<248->¬(224<=a/\a<240):=@L.P 0x10013e81004003c8137a3f81004003e8137691
theorem y15:∀{a:Int}{b:Nat},a<=(↑b:Int)->(↑b:Int)+1<=(↑(0:Nat):Int)+a->False:=@L.P 0x11b000172110072360070036901
theorem y16:∀{a b:Int},¬(a<b\/1114111<a\/55296<=a/\a<57344)->a<=1114111:=@L.P 0x1010110049fffff11031e88881104101dc8881371049fffff148001048a6911
theorem US:∀{a b:Nat},a+1+b=5->b+1<=5:=@L.P 0x10151110020510011102226900
end Mine.Internal
end
section
namespace Mine.Internal
theorem z1:∀{a:Nat}{b:Int},¬((↑a:Int)<b\/1114111<(↑a:Int)\/55296<=(↑a:Int)/\(↑a:Int)<57344)->a<55296\/57344<=a/\a<1114112:=@L.P 0x100101010010100011004a888881001001e88881071dc888100181e8888100740071dc88813700749fffff1480000748a6910
theorem z2:∀{a:Nat},¬((↑a:Int)<128\/1114111<(↑a:Int)\/55296<=(↑a:Int)/\(↑a:Int)<57344)->¬a<128:=@L.P 0x110010012881001a1e8888100740071dc88813700749fffff148288100748a690
theorem z3:∀{a:Nat},¬((↑a:Int)<2048\/1114111<(↑a:Int)\/55296<=(↑a:Int)/\(↑a:Int)<57344)->¬a<2048:=@L.P 0x1100100148881001a1e8888100740071dc88813700749fffff1484888100748a690
theorem z4:∀{a:Nat},¬((↑a:Int)<65536\/1114111<(↑a:Int)\/55296<=(↑a:Int)/\(↑a:Int)<57344)->¬a<65536:=@L.P 0x100101012888881001a1e8888100740071dc88813700749fffff148288888100748a690
theorem z5:∀{a:Nat},¬a<2048->¬a<128:=@L.P 0x112881001a48881001a690
theorem z6:∀{a:Nat},¬a<65536->¬a<2048:=@L.P 0x1148881001a2888881001a690
theorem z8:∀{a b:Nat},a<55296\/57344<=a/\a<1114112->¬a<b->¬((↑a:Int)<(↑b:Int)\/1114111<(↑a:Int)\/55296<=(↑a:Int)/\(↑a:Int)<57344):=@L.P 0x100011010110001011011101e8888110741071dc88813710749fffff14800710748a00101a64a888881101101e88881071dc888110186900
theorem z9:∀{a:Nat},¬a<128->a<2048->192<=(↑(192+a/64):Int)/\(↑(192+a/64):Int)<224:=@L.P 0x18810100188010113c81103881274103881273881374888120162881201a697f0070
theorem z10:∀{a:Nat},¬a<2048->a<65536->224<=(↑(224+a/4096):Int)/\(↑(224+a/4096):Int)<240:=@L.P 0x18888101001000003e81103c81274103c81273c81372888881201648881201a697fff0070
theorem z11:∀{a:Nat},a<55296\/57344<=a/\a<1114112->¬a<65536->240<=(↑(240+a/262144):Int)/\(↑(240+a/262144):Int)<248:=@L.P 0x188888801010010000000110000110003f81103e81274103e81273e81372888881201a64a888881201201e88881071dc88812018697fffff0070
theorem z12:∀{a:Nat},a<2048->(192+a/64)%32*64+a%64=a:=@L.P 0x14888018800100104888018800100104888001880010100488818800100001100000000110000001004888018800100004801100040200018842248881401696107a5107a3f103881277f0070
theorem z13:∀{a:Nat},128<=128+a%64/\128+a%64<192:=@L.P 0x10011000388100288121002881228810797f0070
theorem z14:∀{a:Nat},192<=(↑a:Int)/\(↑a:Int)<224->192<=a/\a<224:=@L.P 0x1101013c81001003881073c810074007388137690
theorem z15:∀{a:Nat},224<=(↑a:Int)/\(↑a:Int)<240->224<=a/\a<240:=@L.P 0x1101013e81001003c81073e8100740073c8137690
theorem z16:∀{a:Nat},240<=(↑a:Int)/\(↑a:Int)<248->240<=a/\a<248:=@L.P 0x1101013f81001003e81073f8100740073e8137690
theorem EZ:∀{a:Nat},(↑a:Int)<128->a<128:=@L.P 0x11288100128810074690
theorem z18:∀{a:Nat},a<128->a<55296\/57344<=a/\a<1114112:=@L.P 0x1010114a888881001001e88881071dc888100182881001690
theorem z19:∀{a b:Nat},a<=b->b<a+0->False:=@L.P 0x11b011020016001006900
theorem z20:∀{a b c:Nat},a<=b/\b<a+(c+1)->¬b=a->a+1<=b/\b<a+1+c:=@L.P 0x11000101101011000011202210110112020720102a61100220210110200769000
theorem z22:∀{a:Nat},a<=3->¬25<7*a:=@L.P 0x1700733911a31000690
theorem z23:∀{a:Nat},a<=3->¬25<=7*a:=@L.P 0x1700733910a31000690
theorem z24:∀{a b:Int},0<=a->a+b%128*268435456<4294967296->b%128/16=0:=@L.P 0x2800011000014888888888811288888888800288888888800000110548888888888120288888888845024650013691f0081ff00811
theorem z25:∀{a b:Int},a<268435456->¬a+b%128*268435456<4294967296->b%128/16≠0:=@L.P 0x48888888888110288888888828888888880000001105a48888888888120288888888845024a628888888881504691f0081ff00811
theorem E0:∀{a b:Nat},a+1+b=5->¬b<=3->b=4/\a=0:=@L.P 0x10001101110010010110241002731000a6510011102226900
theorem z27:∀{a:Nat},a<=3->a+1<=4:=@L.P 0x114111002031000690
theorem z32:∀{a:Nat},(↑(a%128+128):Int)%128+(↑(a/128):Int)*128=(↑a:Int):=@L.P 0x2880100100112880100010012880010001010288100010001100000000110000000102880100010002880110000207107288400259110a010a1ff2881002781ff0070
theorem z33:∀{a:Nat},¬(↑(a%128+128):Int)<128:=@L.P 0x10002881288100274a91ff0070
theorem NL:∀{a:Nat},a<=4->¬a<=3->a=4:=@L.P 0x1101014100231000a641000690
theorem z40:∀{a b c d:Nat},a+b+c<=d->a+(b+(c+0))<=d+1:=@L.P 0x111100201102202302000102030220690000
theorem z41:∀{a b:Nat},1+a<=b+1->a<=b:=@L.P 0x1100100110021011206900
theorem z42:∀{a b:Nat},1+a<=b->1<=b:=@L.P 0x1100110001011206900
theorem z43:∀{a:Int}{b:Nat}{c:Int}{d:Nat}{e:Int},a+(↑b:Int)<=c->c+(↑d:Int)<=e->a+(↑(b+d):Int)<=e:=@L.P 0x11100001027202300007102361010720236910101
theorem z44:∀{a:Int}{b:Nat}{c:Int}{d:Nat}{e f:Int},a+(↑b:Int)<=c->c+(↑d:Int)<=e/\e<=f->a+(↑(b+d):Int)<=e/\e<=f:=@L.P 0x11001011001031000102730237001031000720237620107302369110101
theorem NM:∀{a b:Int}{c:Nat}{d:Int},a<b->b+(↑c:Int)<=d->a+(↑(1+c):Int)<=d:=@L.P 0x111000011272023000071023610204691011
theorem z47:∀{a b:Int},¬a<=b->a<1->b<1:=@L.P 0x1111100411104600103a6911
theorem z48:∀{a b:Int},¬a<=b->a<2->b<2:=@L.P 0x1112100421104600103a6911
theorem z49:∀{a:Nat},¬a<65536->a<1114112->240+a/262144<256:=@L.P 0x1888888101004881103e81214a88888120162888881201a697fffff0070
theorem z50:∀{a:Nat},1<=a->-1<(↑a:Int)-1:=@L.P 0x11110075116400110690
theorem z52:∀{a:Nat},a<=3->(↑a:Int)<9223372036854775808:=@L.P 0x1118888888888888888888881007431000690
theorem z53:∀{a:Nat},a<=3->a-0+1<=900000:=@L.P 0x10010110103bbdec811100203110069010020
theorem z54:∀{a b:Nat},a<=3->b+1<=a->b<=3:=@L.P 0x11131000101100206311006900
theorem z55:∀{a b:Nat},a<=3->a-(b+1)+1<=900000:=@L.P 0x10010110103bbdec8111002031200691100210200
theorem z56:∀{a:Nat},1<=a->a<=3->a=1\/a=2\/a=3:=@L.P 0x101101000110010100011001100011000100103100221002811002831000600110690
theorem z57:∀{a:Nat},a<=2400->a+4<=16000000:=@L.P 0x117d8aa88814100204dc81000690
theorem z58:∀{a:Nat},a<=2400->a+3<=16000000:=@L.P 0x117d8aa88813100204dc81000690
theorem z59:∀{a b:Nat},a<=2400->b<=2400->a+4+b<=4900:=@L.P 0x11119ccc10041102204dc8100064dc811006900
theorem z60:∀{a:Nat},a<=2400->a+3<=4900:=@L.P 0x1119ccc13100204dc81000690
theorem z61:∀{a:Int},0<=a->a<253->0<=3+a/\3+a<256:=@L.P 0x11010148810031240031201373fd1004600013691
theorem z62:∀{a:Int},0<=a->a<253->0<=a/\a<256:=@L.P 0x11010148810040001373fd1004600013691
theorem z63:∀{a b:Nat}{c:Int},a+(b+1)<=2->-300<=c/\c<=34359738371+200*(↑(a+1):Int)->-300<=c/\c<=34359738371+200*(↑2:Int):=@L.P 0x1103981010217398348888888888b12003004dc1637111027398348888888888b12003004dc163762111002102069100
theorem z64:∀{a:Int},-300<=a/\a<=34359738371+200*(↑3:Int)->0<=a->0<=a/\a<68719476736:=@L.P 0x1010110018888888888881004000137000136317398348888888888b12003004dc1637691
theorem z65:∀{a:Int},-300<=a/\a<=34359738371+200*(↑3:Int)->a<0->0<=-a/\-a<68719476736:=@L.P 0x100111001888888888888100640060137010046317398348888888888b12003004dc1637691
theorem z66:∀{a b c:Nat},a<=6->b<=3->c<=8->a+b+c<=17:=@L.P 0x111129100102022018100063110066120069000
end Mine.Internal
end
open List renaming length_append → aa, length_map → ah, append_assoc → aj, mem_singleton → ao, map_append → au, getElem?_eq_getElem → aw, mem_append_left → ax, mem_map → aG, mem_append → aH, mem_cons → aL, map_map → aN, mem_append_right → aS, append_nil → aW, mem_map_of_mem → aZ, getElem?_map → bc, nodup_cons → bj, flatMap_append → bu, perm_append_comm → bw, flatMap_cons → bx, not_mem_nil → bA, take_add_one → bD, map_cons → bE, mem_filterMap → bH, size_toArray → bK, getElem_mem → bL, length_take → bS, Perm → bX, length_cons → bZ, take_of_length_le → b6, getElem?_eq_none → b7, map_congr_left → b8, getD_eq_getElem?_getD → cw, all_eq_true → cy, replicate → cB, flatMap_nil → cD, nodup_append → cG, contains_cons → cJ, take_length → cT, length_drop → cU, map_eq_nil_iff → dj, mem_reverse → dm, length_eq_zero_iff → dp, flatMap_map → dq, concat_eq_append → dK, mem_of_getElem? → dX, any_eq_true → dZ, Sublist → d0, getElem?_eq_none_iff → d7, append_of_mem → ef, map_nil → ew, length_singleton → eG, perm_middle → eH, map_fst_zip → eI, mem_of_mem_take → eQ, eq_nil_of_length_eq_zero → eS, length_reverse → eX, nodup_nil → fi, sublist_append_right → fB, getElem?_eq_some_iff → fD, drop_eq_getElem_cons → fE, map_reverse → fP, lookup_eq_none_iff → fQ, cons_append → fR, toArray → fV, find?_cons_of_neg → fW, foldl_cons → f9, map_id → gg, forall_mem_cons → gh, pairwise_cons → gG, Nodup → gH, findIdx?_eq_some_iff_getElem → gV, reverse_cons → g5, length → iw, range_succ → iC, of_mem_zip → iD, length_nil → iE, perm_append_comm_assoc → iU, range → iX, find? → iY, sum_cons → jl, sublist_append_left → jm, getElem?_cons_zero → js, find?_cons_of_pos → jv, take_append_drop → jH, eq_nil_or_concat → jI, replicate_succ → jU, length_take_le → jV, flatten_append → jW, filter_append → j5, reverse_perm → kc, pairwise_map → ke, length_range → kh, isEmpty_cons → ki, flatten_cons → kj, any_eq_false → km, flatMap_def → kD, nil_append → kS, filter_nil → kT, take_zero → k7, take_take → k8, map → k_, drop_take → lb, drop_left → lg, drop_drop → lh
open PySem.Str renaming ofString → af
open PySem renaming wpAny_bind → ag, Shared → ai, wpAny_pure → ak, mainGlobals → az, Addr → aA, Builtin → aB, call → aF, wpAny → aJ, Params → aM, execs → aO, eval → aT, starEach → aU, model → aX, wpAny_mono → aY, Heap → bb, BindsTo → bk, wpAny_specialOf → bp, builtinLookup_eq_fast → bq, foldedSetIterable → bJ, wpAny_holding → bN, typeLookup_type → bP, wpAny_of_eq → bV, compareOp → bY, Spec → b9, checkBuiltinCall → cc, intKind → cf, bm_if_false → ck, swapsWith → cn, wpAny_loadPart_at → cu, sizeLine_eq → cz, callWith → cA, cellsFrom → cC, holding → cE, keywordEach → cF, wpAny_newObj_type → cH, Expr → cI, World → cL, backTo → cM, typeLookup → cO, letOwnedTupleGo → cP, binaryOp → cV, isTrue → cY, noteFrame → dg, wpAny_truthy_bool → dh, wpAny_load → du, plainId_quiet → dv, cameBackBy → dw, wpAny_isSubtype_exc → dA, isSubtype_type → dB, entryFor_of_tree → dD, entryFor → dE, backToKw → dF, standAt → dN, closureFor → dP, compEnvC → dT, behindInMarks → dU, assignInOrder → dW, wpAny_rule → d_, excClassObj → ea, wpAny_isInstance → ec, getMethod → ed, ExceptHandler → et, sysModules → eA, wpAny_point → eD, wpAny_field → eE, refuseLoop → eF, richCompare_meets_room → eJ, wpAny_storeName_local → eT, wpAny_call_entry → eU, comprehension → eY, sizeLine → e0, wpAny_execs_nil → fk, theTreesLotGoes → fm, table → fy, list_getitem_lookup → fA, wpAny_typeOf → fF, bootBuiltins → fG, Sem → fH, spliced → fJ, builtinsNs → fM, wpAny_pyIter_list → fU, swapsWithSole → fX, swappedStores → fY, rawInt → f5, Flow → gd, wpAny_pyNext_list_item → gm, typeOf → gp, argsOk → gu, Result → gv, codeAny_of_tree → gx, codeAny_builtin → gy, wpAny_pyNext_list_end → gA, wpAny_setField → gJ, wpAny_seqItems → gK, wpAny_loadName_local → gL, letTemporaryGo → gM, codeAny_call_builtin → gO, assign → gP, Reads → gQ, setFlight → gY, leaving → gZ, PassesOwn → g4, builtinType_eq_fast → g7, Fin → g8, wpAny_standAt → hJ, wpAny_onRaise → hU, truthy → h_, clipAt → ib, bm_if_true → ij, assignEach → ip, Pos → iA, notedBy → iJ, handleBy → iL, codeAny → iM, callSpecial? → iN, callFunction → iO, callAny → iP, bindName → iQ, wpAny_enterFrame → i7, storeName → i8, pyIter → i9, wpAny_letGo → je, subscripted → jf, interactive → jh, leftWithCleanup → jq, getAttr → jt, OsState → ju, wpAny_newFunctionEnv_cells → jy, wpAny_loadPart → jz, wpAny_call → jA, wpAny_bindName → jB, wpAny_Name → jC, call_meets → jE, ItemOn → jJ, wpAny_excMatches_sub_self → jL, wpAt_of_wpAny → jM, exec → jQ, wpAny_callSpecial?_slot → jX, markedBehindIn_of_false → jY, relabel → j6, plainId → j7, operate → j8, codeAny_handlers_test → kr, wpAt_bind → kz, wpAny_storeName_cell → kG, wpAny_newFunctionEnv → kH, wpAny_letTemporaryGo → kI, unsupported → kJ, unbindBehindTheSuite → kK, evalPart → kN, evalArgs → kO, builtinType → kP, wpAny_handleBy_cons → kU, wpAny_getItem_list → lp, wpAny_Constant_int → lq, slot_listiter_iter → lr, pyNext → lu, denote → ly, Slot → lA, IsPart → lB, wpAny_pyIter_dict → lC, spliced → lD, slot_list_setitem → lE, slot_dict_getitem → lF, setItem → lG, setAttr → lH, object_init_meets → lI, getMethod_builtin → lK, fastTable_eq_tree → lM, wpAny_madeBy_exc → lO, wpAny_lookBehind → lP, wpAny_getItem_of → lQ, wpAny_comp_letGo → lR, wpAny_askSetting → lS, isSubtype → lU, wpAny_updateSeq → lW, wpAny_tryCatch → lY, recursionLimit → lZ, newFunctionEnv → l_, keeperOf → ma, entry_typeCall → md, callType_codes → mf, call → mh, bindC → mi, ReadsAll → mm, GenState → mn, wpAny_newList → mr, wpAny_mkBytes → mu, table_eq_tree → mv, table_eq_fast → mw, rangeSize_one → my, fenceModules? → mA, codeAny_block → mB, checkTypeCall → mC, bltViewBooted → mD, IsL → mE
open Decidable renaming em → aq
open Nat renaming le_trans → ar, le_refl → bz, zero_le → bB, ne_of_lt → bC, le_add_left → bU, lt_of_lt_of_le → bW, lt_succ_self → b_, lt_irrefl → cb, lt_of_le_of_lt → cj, add_le_add → cK, pow_le_pow_right → cZ, lt_succ_of_lt → c_, le_of_eq → da, le_add_right → dz, zero_add → dH, div_div_eq_div_mul → eC, ne_of_gt → fa, le_of_lt → fb, add_comm → fc, succ → fu, eq_zero_or_pos → fv, le_succ → fL, lt_add_of_pos_left → f7, sub_add_cancel → gS, lt_of_lt_of_eq → gT, pow_zero → g9, lt_or_ge → g_, div_one → iB, not_lt_zero → iT, not_le → ja, lt_of_mul_lt_mul_right → jb, add_zero → jG, mul_le_mul_right → jR, mul_add → jS, mul_le_mul_left → j3, add_left_cancel → j4, not_lt → ka, le_of_succ_le → kB, succ_le_succ → kR, strongRecOn → kZ
open PySem.Heap renaming get?_push_of_some → ay, lt_size → a_
open PySem.BindsTo renaming of_eq → aC
open Option renaming some → aE, map_eq_some_iff → ek, map → fO, toList → iW, bind_some → j2, map_map → kA, map_id → kQ
open Bool renaming and_eq_true_iff → aV, false_ne_true → bI, and_eq_true → b5, or_false → cS, not_eq_true' → dQ, or_eq_true_iff → d9, eq_false_iff → ey, and_false → ez, or_true → eZ, and_self → gE, false_eq_true → gI, noConfusion → hZ, or_eq_true → iH, false_and → iZ, not_true → jo, or_eq_false_iff → jO
open Int renaming toNat_natCast → bg, eq_ofNat_of_zero_le → bF, natCast_nonneg → bM, le_refl → bO, add_assoc → cp, ofNat_le → cR, add_zero → dc, not_le → df, ofNat_lt → dI, le_of_lt → dJ, toNat → dM, fdiv_eq_ediv_of_nonneg → dY, le_trans → d8, lt_of_le_of_lt → ei, not_lt → eM, ne_of_lt → fg, lt_of_lt_of_le → fw, pow_nonneg → gw, toNat_of_nonneg → gB, emod_lt_of_pos → gW, mul_le_mul_of_nonneg_right → ix, mul_le_mul_of_nonneg_left → iG, mul_nonneg → jc, fmod_eq_emod_of_nonneg → jd, zero_add → jK, emod_eq_of_lt → kE, le_antisymm → lj, emod_nonneg → ll
open PySem.Spec renaming same → bG
open Pure renaming pure → bQ
open Function renaming comp_def → bR, comp_apply → eN
open PySem.W renaming typeIs_bytes → bT, findIn → cg, nsIn → cN, InstAt → cQ, dictOf → cX, emptyDict → eg, instObj → eK, boot_heap → eV, sub → fq, Looks → fN, keepIn → f6, looks_findIn → gr, envX → g6, WShape → iq, hideAll_none → iK, looks_clsIn → jg, of_hideAll → jD, hasDictIn → jZ, makesIn → j9, putL → kL, plainGet → kM, getL → lx, codeRec_of → lz, findCls → lL, putN → lT, emptyDict → lV, handedIn → mc
open PySem.PyData renaming keyHash → cq, canLayAll0 → ej, depthAll → hY, canLay0 → iz, depth → jk
open PyProof.Rows renaming assign_Name → cx, IntsAre → d6, cellsFrom_names → eu, seqObj → fZ, wpS_bind → gc, pairsOf → gq, assign_Tuple_tuple → il, SumFits → iy, pairsOf_size → iI, SortedTo → iR, CellsAre → iV, wpS_pure → jw, wpAny_release' → jx, arrOf → jF, News → j_, lookup_of_mem_nodup → kW, SortSt → mj, Below → mq, subscriptTail → mx, listUpdate_at → mz
open Array renaming getElem?_eq_some_iff → cW, length_toList → jP, any_toList → kq
open PySem.Value renaming ref → di, type → e7, none → e_, isInt → hV, builtin → kX
open Classical renaming byContradiction → dR, em → eO
open PySem.Around renaming frames_deeper → dS
open PySem.Obj renaming mapSeq → eL, mapBytearray → fT, mapFields → gF, data_mapFields → gR, isFreed_of_fields → jN
open PySem.W.WShape renaming hasItems → eP
open Ne renaming symm → fh
open PySem.Code renaming quiet_builtin → fj
open Prod renaming mk → fK
open PySem.F renaming bm_called → fS, args_list_ne_2 → f_, entry_list_ne → gk, slot_list_ne → gD, slot_list_extend → iS, slot_list_pop → jj, bm_sub → kn, attrBase_TypeError → ko, args_object_init_2 → kp, entry_object_init → kF, slot_int_rmul → lN, bm_typeCall → lX
open List.Nodup renaming sublist → gb
open PySem.Manifest renaming canonical → gf, isStub → jT
open PySem.W.FB renaming slot_bytes_getitem → gj
open And renaming intro → gz
open PySem.Calls renaming Name_function_global → gU, loadGlobal_global → lJ
open ForInStep renaming yield → gX
open PySem.IsL renaming new → iu
open PySem.Keeper renaming machine → iF, frame → jn
open PyProof renaming noPylong_small → i_
open PySem.SeqAt renaming list_ne_lengthsAt → ji, list_neAt → ku
open PySem.ScopeKind renaming function → jr
open PySem.Pin renaming globalOf_eq → kY
namespace Mine.Internal
local macro_rules | `(tactic| show $t:term) => `(tactic| refine (?_ : $t))
local macro_rules | `(tactic| intro $a:ident $b:ident*) => if b.all (·.raw.isIdent) then `(tactic| with_unfolding_all intros $a:ident $b:ident*) else Lean.Macro.throwUnsupported
local macro_rules
  | `(tactic| rw [$e:term]) => `(tactic| ((first | refine rwP ?_ $e | rewrite [$e:term]); try (with_reducible rfl)))
  | `(tactic| rw [← $e:term]) => `(tactic| ((first | refine rwN ?_ $e | rewrite [← $e]); try (with_reducible rfl)))
  | `(tactic| rw [$e:term, $rs,*]) => `(tactic| ((first | refine rwP ?_ $e | rewrite [$e:term]); rw [$rs,*]))
  | `(tactic| rw [← $e:term, $rs,*]) => `(tactic| ((first | refine rwN ?_ $e | rewrite [← $e]); rw [$rs,*]))
open PySem PySem.W PySem.Calls PyProof.Rows
noncomputable abbrev PW:Program:=PySem.Challenge.pw_nm0136_01
noncomputable def oz:List Stmt×Arguments×Scope:=([],⟨[],[],none,[],[],none,[]⟩,{kind:=.function,names:=[],isGenerator:=false,isCoroutine:=false,more:=[]})
noncomputable def DJ(s:Stmt):List Stmt×Arguments×Scope:=@Stmt.casesOn (λ_=>List Stmt×Arguments×Scope) s (λ_ a b _ _ _ s _ _ _=>(b,a,s)) (λ_ _ _ _ _ _ _ _ _ _=>oz) (λ_ _ _ _ _ _ _ _ _ _ _=>oz) (λ_ _=>oz) (λ_ _=>oz) (λ_ _ _=>oz) (λ_ _ _ _ _ _ _=>oz) (λ_ _ _ _=>oz) (λ_ _ _ _ _=>oz) (λ_ _ _ _ _=>oz) (λ_ _ _ _ _=>oz) (λ_ _ _ _=>oz) (λ_ _ _ _=>oz) (λ_ _ _=>oz) (λ_ _ _=>oz) (λ_ _ _=>oz) (λ_ _ _=>oz) (λ_ _ _ _ _=>oz) (λ_ _ _ _ _=>oz) (λ_ _ _=>oz) (λ_ _=>oz) (λ_ _ _ _=>oz) (λ_ _=>oz) (λ_ _=>oz) (λ_ _=>oz) (λ_=>oz) (λ_=>oz) (λ_=>oz)
noncomputable def sQ(s:Stmt):List Stmt:=(DJ s).1
noncomputable def CU(s:Stmt):Arguments:=(DJ s).2.1
noncomputable def nD(s:Stmt):Scope:=(DJ s).2.2
noncomputable def oF(s:Stmt):List Stmt:=@Stmt.casesOn (λ_=>List Stmt) s (λ_ _ _ _ _ _ _ _ _ _=>[]) (λ_ _ _ _ _ _ _ _ _ _=>[]) (λ_ _ _ b _ _ _ _ _ _ _=>b) (λ_ _=>[]) (λ_ _=>[]) (λ_ _ _=>[]) (λ_ _ _ _ _ _ _=>[]) (λ_ _ _ _=>[]) (λ_ _ _ _ _=>[]) (λ_ _ _ _ _=>[]) (λ_ _ _ _ _=>[]) (λ_ _ _ _=>[]) (λ_ _ _ _=>[]) (λ_ _ _=>[]) (λ_ _ _=>[]) (λ_ _ _=>[]) (λ_ _ _=>[]) (λ_ _ _ _ _=>[]) (λ_ _ _ _ _=>[]) (λ_ _ _=>[]) (λ_ _=>[]) (λ_ _ _ _=>[]) (λ_ _=>[]) (λ_ _=>[]) (λ_ _=>[]) (λ_=>[]) (λ_=>[]) (λ_=>[])
noncomputable def mS(l:List Stmt)(n:Nat):Stmt:=l.getD n (.Pass ⟨0,0,0,0⟩)
noncomputable def mo0:Str:=⟨#[95,95,109,97,105,110,95,95]⟩
noncomputable def NN:Str:=⟨#[119,97,115,109,99,111,114,101,46,102,97,117,108,116,115]⟩
noncomputable def mo2:Str:=⟨#[119,97,115,109,99,111,114,101,46,98,105,110,115,101,99,116,105,111,110,115]⟩
noncomputable def oJ:Str:=⟨#[119,97,115,109,99,111,114,101,46,111,99,116,101,116,115]⟩
noncomputable def uP:Str:=⟨#[119,97,115,109,99,111,114,101,46,110,97,109,101,115,101,99,116]⟩
noncomputable def pB:Str:=⟨#[108,97,119,95,110,109,48,49,51,54,95,48,49]⟩
structure mR where
 f:aA
 name:Str
 qual:Str
 st:Stmt
 dV:Value
 pm:Value
 ns:List Str
noncomputable abbrev mR.cd(i:mR):Value:=.ref (i.f-1)
noncomputable abbrev mR.fd(i:mR):FuncData:=fnOf i.name i.qual (CU i.st) (sQ i.st) (nD i.st) i.dV .none .none i.pm none i.cd .none
noncomputable abbrev mR.env(i:mR)(L:aA):Env:=g6 i.qual (nD i.st) L i.f i.cd []
noncomputable def Tn:mR:=⟨21,"_wall","_wall",mS PW.main.body 0,.none,.str mo0 164,["k"]⟩
noncomputable def FW:mR:=⟨35,"__init__","WasmFault.__init__",mS (oF (mS PW.main.body 2)) 0,.none,.str NN 194,["self","why"]⟩
noncomputable def FY:mR:=⟨55,"__init__","Malformed.__init__",mS (oF (mS PW.main.body 3)) 0,.none,.str NN 194,["self","why","at"]⟩
noncomputable def Hb:mR:=⟨79,"want_just","want_just",mS PW.main.body 6,.none,.str mo2 267,["part"]⟩
noncomputable def Gu:mR:=⟨94,"__init__","Cursor.__init__",mS (oF (mS PW.main.body 8)) 0,.ref 87,.str oJ 276,["self","octets","at","end"]⟩
noncomputable def Gv:mR:=⟨101,"left","Cursor.left",mS (oF (mS PW.main.body 8)) 1,.none,.str oJ 276,["self"]⟩
noncomputable def FZ:mR:=⟨108,"is_done","Cursor.is_done",mS (oF (mS PW.main.body 8)) 2,.none,.str oJ 276,["self"]⟩
noncomputable def Gw:mR:=⟨115,"peek","Cursor.peek",mS (oF (mS PW.main.body 8)) 3,.none,.str oJ 276,["self"]⟩
noncomputable def Gd:mR:=⟨122,"octet","Cursor.octet",mS (oF (mS PW.main.body 8)) 4,.none,.str oJ 276,["self","found"]⟩
noncomputable def Gx:mR:=⟨129,"take","Cursor.take",mS (oF (mS PW.main.body 8)) 5,.none,.str oJ 276,["self","many","found"]⟩
noncomputable def Gy:mR:=⟨136,"part","Cursor.part",mS (oF (mS PW.main.body 8)) 6,.none,.str oJ 276,["self","many","found"]⟩
noncomputable def FU:mR:=⟨143,"unsigned","Cursor.unsigned",mS (oF (mS PW.main.body 8)) 7,.none,.str oJ 276,["self","bits","found","shift","begin","octet","left"]⟩
noncomputable def Pb:mR:=⟨150,"signed","Cursor.signed",mS (oF (mS PW.main.body 8)) 8,.none,.str oJ 276,["self","bits"]⟩
noncomputable def GP:mR:=⟨157,"u32","Cursor.u32",mS (oF (mS PW.main.body 8)) 9,.none,.str oJ 276,["self"]⟩
noncomputable def P2:mR:=⟨164,"s7","Cursor.s7",mS (oF (mS PW.main.body 8)) 10,.none,.str oJ 276,["self"]⟩
noncomputable def PA:mR:=⟨171,"s32","Cursor.s32",mS (oF (mS PW.main.body 8)) 11,.none,.str oJ 276,["self"]⟩
noncomputable def PB:mR:=⟨178,"s33","Cursor.s33",mS (oF (mS PW.main.body 8)) 12,.none,.str oJ 276,["self"]⟩
noncomputable def PC:mR:=⟨185,"s64","Cursor.s64",mS (oF (mS PW.main.body 8)) 13,.none,.str oJ 276,["self"]⟩
noncomputable def Gz:mR:=⟨192,"name","Cursor.name",mS (oF (mS PW.main.body 8)) 14,.none,.str oJ 276,["self","many","begin"]⟩
noncomputable def Hc:mR:=⟨213,"__init__","Sink.__init__",mS (oF (mS PW.main.body 9)) 0,.none,.str oJ 276,["self"]⟩
noncomputable def GQ:mR:=⟨220,"octet","Sink.octet",mS (oF (mS PW.main.body 9)) 1,.none,.str oJ 276,["self","number"]⟩
noncomputable def Qr:mR:=⟨227,"put","Sink.put",mS (oF (mS PW.main.body 9)) 2,.none,.str oJ 276,["self","octets"]⟩
noncomputable def F6:mR:=⟨234,"unsigned","Sink.unsigned",mS (oF (mS PW.main.body 9)) 3,.none,.str oJ 276,["self","number"]⟩
noncomputable def Pq:mR:=⟨241,"signed","Sink.signed",mS (oF (mS PW.main.body 9)) 4,.none,.str oJ 276,["self","number"]⟩
noncomputable def Hd:mR:=⟨248,"many","Sink.many",mS (oF (mS PW.main.body 9)) 5,.none,.str oJ 276,["self","number"]⟩
noncomputable def He:mR:=⟨255,"name","Sink.name",mS (oF (mS PW.main.body 9)) 6,.none,.str oJ 276,["self","text","octets"]⟩
noncomputable def GR:mR:=⟨262,"sized","Sink.sized",mS (oF (mS PW.main.body 9)) 7,.none,.str oJ 276,["self","sink"]⟩
noncomputable def Ii:mR:=⟨276,"utf8_of","utf8_of",mS PW.main.body 10,.none,.str oJ 276,["text","found","sign","point"]⟩
noncomputable def Ij:mR:=⟨283,"head_of","head_of",mS PW.main.body 11,.none,.str oJ 276,["octet","at"]⟩
noncomputable def Ik:mR:=⟨291,"text_of","text_of",mS PW.main.body 12,.ref 284,.str oJ 276,["octets","begin","signs","at","follow","point","least","octet"]⟩
noncomputable def GS:mR:=⟨305,"__init__","Names.__init__",mS (oF (mS PW.main.body 17)) 0,.none,.str uP 542,["self"]⟩
noncomputable def HL:mR:=⟨319,"read_map","read_map",mS PW.main.body 18,.none,.str uP 542,["part","found","last","turn","at","index"]⟩
noncomputable def GA:mR:=⟨326,"read_locals","read_locals",mS PW.main.body 19,.none,.str uP 542,["part","found","last","turn","at","func"]⟩
noncomputable def Hf:mR:=⟨333,"read_part","read_part",mS PW.main.body 20,.none,.str uP 542,["names","sort","part"]⟩
noncomputable def Ge:mR:=⟨340,"read_section","read_section",mS PW.main.body 21,.none,.str uP 542,["octets","names","cursor","last","at","sort","many"]⟩
noncomputable def Hg:mR:=⟨347,"write_map","write_map",mS PW.main.body 22,.none,.str uP 542,["sink","some","index"]⟩
noncomputable def GU:mR:=⟨354,"write_part","write_part",mS PW.main.body 23,.none,.str uP 542,["sink","sort","part"]⟩
noncomputable def GV:mR:=⟨361,"section_of","section_of",mS PW.main.body 24,.none,.str uP 542,["names","sink","part","func"]⟩
noncomputable def Hh:mR:=⟨368,"_law_next","_law_next",mS PW.main.body 26,.none,.str pB 655,["tape"]⟩
noncomputable def GW:mR:=⟨375,"_law_point","_law_point",mS PW.main.body 27,.none,.str pB 655,["number","edges","point"]⟩
noncomputable def Hi:mR:=⟨382,"_law_text","_law_text",mS PW.main.body 28,.none,.str pB 655,["tape","signs","k"]⟩
noncomputable def GX:mR:=⟨389,"_law_index","_law_index",mS PW.main.body 29,.none,.str pB 655,["tape","last","number"]⟩
noncomputable def Hj:mR:=⟨396,"_law_some","_law_some",mS PW.main.body 30,.none,.str pB 655,["tape","many","some","last","k"]⟩
noncomputable def Hk:mR:=⟨403,"_law_dict","_law_dict",mS PW.main.body 31,.none,.str pB 655,["some","found","index","about"]⟩
noncomputable def GB:mR:=⟨408,"_law_sorted","_law_sorted",mS PW.main.body 32,.none,.str pB 655,[]⟩
noncomputable def Hl:mR:=⟨415,"_law_long","_law_long",mS PW.main.body 33,.none,.str pB 655,["number","pad","out"]⟩
noncomputable def Hm:mR:=⟨422,"_law_sign","_law_sign",mS PW.main.body 34,.none,.str pB 655,["point","many","out","k"]⟩
noncomputable def GC:mR:=⟨427,"_law_octets","_law_octets",mS PW.main.body 35,.none,.str pB 655,["text"]⟩
noncomputable def GY:mR:=⟨432,"_law_coded","_law_coded",mS PW.main.body 36,.none,.str pB 655,["some"]⟩
noncomputable def HM:mR:=⟨439,"_law_map","_law_map",mS PW.main.body 37,.none,.str pB 655,["some","pad","out","index","octets"]⟩
noncomputable def Gf:mR:=⟨444,"_law_written","_law_written",mS PW.main.body 38,.none,.str pB 655,["title","funcs","rows","parts","inner"]⟩
noncomputable def GD:mR:=⟨449,"_law_number","_law_number",mS PW.main.body 39,.none,.str pB 655,["end","k","number"]⟩
noncomputable def GZ:mR:=⟨456,"_law_found","_law_found",mS PW.main.body 40,.none,.str pB 655,["octets","at","end","many","point","octet"]⟩
noncomputable def Hn:mR:=⟨463,"_law_name","_law_name",mS PW.main.body 41,.none,.str pB 655,["octets","at","end","got","stop","signs"]⟩
noncomputable def G0:mR:=⟨470,"_law_pairs","_law_pairs",mS PW.main.body 42,.none,.str pB 655,["octets","at","end","some","got","turn","last","index","name"]⟩
noncomputable def Ho:mR:=⟨477,"_law_rows","_law_rows",mS PW.main.body 43,.none,.str pB 655,["octets","at","end","rows","got","turn","last","func","behind"]⟩
noncomputable def Hp:mR:=⟨484,"_law_read","_law_read",mS PW.main.body 44,.none,.str pB 655,["octets","title","funcs","rows","at","last","sort","size","begin","behind","name"]⟩
noncomputable def Hq:mR:=⟨489,"_law_told","_law_told",mS PW.main.body 45,.none,.str pB 655,["funcs","rows"]⟩
noncomputable def pZ:mR:=⟨494,af "law",af "law",mS PW.main.body 46,.none,.str pB 655,[af "script",af "tape",af "title",af "funcs",af "rows",af "last",af "k",af "bad",af "pad",af "turned",af "extra",af "strange",af "func",af "some",af "before",af "just",af "lists",af "indices",af "is_low",af "coded",af "octets",af "is_great",af "fault",af "told",af "inner",af "bads",af "how",af "place",af "octet",af "at",af "put",af "rest",af "is_whole",af "short"]⟩
noncomputable def vs(x:String)(t:Nat):Value:=.str (af x) t
noncomputable def vi(i:Int)(t:Nat):Value:=.int i t
noncomputable def vr(a:Nat):Value:=.ref a
noncomputable def de(P:aM)(k:String)(t:Nat)(v:Value):DictEntry:=⟨cq P (af k),.str (af k) t,v⟩
noncomputable def co(a:Nat)(n q:String)(t:Nat)(l k x:Int):aA×Obj:=(a+5,{cls:=(.type "code"),data:=.fields #[(vs n t),(vs q (t+1)),(vs "/claim/cut.py" (t+2)),(vi l 0),(vi k 0),(vi 0 0),(vi 0 0),(vi 3 0),(vr a),.bool true,(vi 181 0),(vr (a+1)),.none,(vr (a+2)),(vr (a+3)),(vr (a+4)),(vi x 0),(vi l 0),(vs "/claim/cut.py" (x.toNat+1))]})
noncomputable def kf(i:mR):aA×Obj:=(i.f,⟨.type "function",none,.func i.fd,#[]⟩)
noncomputable def KK(P:aM):Frag:=[(2,{cls:=.none,data:=.dict #[(de P "type.__subclasses__.Exception.0" 221 (vi 38 0)),(de P "type.__subclasses__.Exception.n" 222 (vi 1 0))] 2}),
 (3,{cls:=(.type "dict"),data:=.dict #[(de P "__name__" 165 (vs "law_nm0136_01" 655)),(de P "__doc__" 166 .none),(de P "__package__" 167 .none),(de P "__loader__" 168 (.builtin "__main__.__loader__#opaque")),(de P "__spec__" 169 .none),(de P "__annotations__" 170 (vr 6)),(de P "__builtins__" 171 (vr 4)),(de P "__file__" 173 (vs "/claim/cut.py" 172)),(de P "__cached__" 174 .none),(de P "_wall" 193 (vr 21)),(de P "WasmFault" 224 (vr 38)),(de P "Malformed" 250 (vr 58)),(de P "Misused" 266 (vr 70)),(de P "want_just" 275 (vr 79)),(de P "Cursor" 423 (vr 195)),(de P "Sink" 508 (vr 265)),(de P "utf8_of" 518 (vr 276)),(de P "head_of" 526 (vr 283)),(de P "text_of" 541 (vr 291)),(de P "MODULE_PART" 545 (vi 0 544)),(de P "FUNCS_PART" 547 (vi 1 546)),(de P "LOCALS_PART" 549 (vi 2 548)),(de P "Names" 580 (vr 308)),(de P "read_map" 592 (vr 319)),(de P "read_locals" 604 (vr 326)),(de P "read_part" 613 (vr 333)),(de P "read_section" 626 (vr 340)),(de P "write_map" 635 (vr 347)),(de P "write_part" 644 (vr 354)),(de P "section_of" 654 (vr 361)),(de P "_law_next" 663 (vr 368)),(de P "_law_point" 672 (vr 375)),(de P "_law_text" 681 (vr 382)),(de P "_law_index" 690 (vr 389)),(de P "_law_some" 701 (vr 396)),(de P "_law_dict" 711 (vr 403)),(de P "_law_sorted" 717 (vr 408)),(de P "_law_long" 726 (vr 415)),(de P "_law_sign" 736 (vr 422)),(de P "_law_octets" 742 (vr 427)),(de P "_law_coded" 748 (vr 432)),(de P "_law_map" 759 (vr 439)),(de P "_law_written" 765 (vr 444)),(de P "_law_number" 771 (vr 449)),(de P "_law_found" 783 (vr 456)),(de P "_law_name" 795 (vr 463)),(de P "_law_pairs" 810 (vr 470)),(de P "_law_rows" 825 (vr 477)),(de P "_law_read" 842 (vr 484)),(de P "_law_told" 848 (vr 489)),(de P "law" 854 (vr 494))] 51}),
 co 15 "_wall" "_wall" 187 1 1 191,
 kf Tn,
 co 29 "__init__" "WasmFault.__init__" 208 7 2 213,
 kf FW,
 (37,{cls:=(.type "dict"),data:=.dict #[(de P "__module__" 203 (vs "wasmcore.faults" 194)),(de P "__firstlineno__" 207 (vi 5 206)),(de P "__init__" 215 (vr 35)),(de P "__static_attributes__" 217 (vr 36)),(de P "__weakref__" 219 (vr 39)),(de P "__doc__" 220 .none)] 3}),
 (38,{cls:=(.type "type"),data:=.cls {name:="WasmFault",bases:=[(.type "Exception")],mro:=[(vr 38),(.type "Exception"),(.type "BaseException"),(.type "object")],ns:=37,qualname:="WasmFault",subclasses:=[(vr 58),(vr 70)]},slots:=#[aE (vr 22),Option.none,aE (vs "WasmFault" 196),aE (vs "WasmFault" 204),aE ((.builtin "Exception.__new__")),aE (.bool true)]}),
 (39,{cls:=(.type "getset_descriptor"),data:=.fields #[(vs "__weakref__" 218),(vr 38),(.builtin "ExceptionGroup.__weakref__"),.none]}),
 co 49 "__init__" "Malformed.__init__" 237 12 3 243,
 kf FY,
 (57,{cls:=(.type "dict"),data:=.dict #[(de P "__module__" 232 (vs "wasmcore.faults" 194)),(de P "__firstlineno__" 236 (vi 10 235)),(de P "__init__" 245 (vr 55)),(de P "__static_attributes__" 247 (vr 56)),(de P "__doc__" 248 .none)] 2}),
 (58,{cls:=(.type "type"),data:=.cls {name:="Malformed",bases:=[(vr 38)],mro:=[(vr 58),(vr 38),(.type "Exception"),(.type "BaseException"),(.type "object")],ns:=57,qualname:="Malformed"},slots:=#[aE (vr 42),Option.none,aE (vs "Malformed" 225),aE (vs "Malformed" 233),aE ((.builtin "Exception.__new__")),aE (.bool true)]}),
 (69,{cls:=(.type "dict"),data:=.dict #[(de P "__module__" 258 (vs "wasmcore.faults" 194)),(de P "__firstlineno__" 262 (vi 15 261)),(de P "__static_attributes__" 263 (vr 68)),(de P "__doc__" 264 .none)] 2}),
 (70,{cls:=(.type "type"),data:=.cls {name:="Misused",bases:=[(vr 38)],mro:=[(vr 70),(vr 38),(.type "Exception"),(.type "BaseException"),(.type "object")],ns:=69,qualname:="Misused"},slots:=#[aE (vr 61),Option.none,aE (vs "Misused" 251),aE (vs "Misused" 259),aE ((.builtin "Exception.__new__")),aE (.bool true)]}),
 co 73 "want_just" "want_just" 269 18 1 273,
 kf Hb,
 (87,{cls:=(.type "tuple"),data:=.seq #[(vi 0 290),.none]}),
 co 88 "__init__" "Cursor.__init__" 291 24 4 298,
 kf Gu,
 co 95 "left" "Cursor.left" 301 29 1 305,
 kf Gv,
 co 102 "is_done" "Cursor.is_done" 308 32 1 312,
 kf FZ,
 co 109 "peek" "Cursor.peek" 315 35 1 319,
 kf Gw,
 co 116 "octet" "Cursor.octet" 322 40 1 327,
 kf Gd,
 co 123 "take" "Cursor.take" 330 45 2 336,
 kf Gx,
 co 130 "part" "Cursor.part" 339 52 2 345,
 kf Gy,
 co 137 "unsigned" "Cursor.unsigned" 348 59 2 358,
 kf FU,
 co 144 "signed" "Cursor.signed" 361 73 2 366,
 kf Pb,
 co 151 "u32" "Cursor.u32" 369 76 1 373,
 kf GP,
 co 158 "s7" "Cursor.s7" 376 79 1 380,
 kf P2,
 co 165 "s32" "Cursor.s32" 383 82 1 387,
 kf PA,
 co 172 "s33" "Cursor.s33" 390 85 1 394,
 kf PB,
 co 179 "s64" "Cursor.s64" 397 88 1 401,
 kf PC,
 co 186 "name" "Cursor.name" 404 91 1 410,
 kf Gz,
 (194,{cls:=(.type "dict"),data:=.dict #[(de P "__module__" 285 (vs "wasmcore.octets" 276)),(de P "__firstlineno__" 289 (vi 22 288)),(de P "__init__" 300 (vr 94)),(de P "left" 307 (vr 101)),(de P "is_done" 314 (vr 108)),(de P "peek" 321 (vr 115)),(de P "octet" 329 (vr 122)),(de P "take" 338 (vr 129)),(de P "part" 347 (vr 136)),(de P "unsigned" 360 (vr 143)),(de P "signed" 368 (vr 150)),(de P "u32" 375 (vr 157)),(de P "s7" 382 (vr 164)),(de P "s32" 389 (vr 171)),(de P "s33" 396 (vr 178)),(de P "s64" 403 (vr 185)),(de P "name" 412 (vr 192)),(de P "__static_attributes__" 416 (vr 193)),(de P "__dict__" 418 (vr 196)),(de P "__weakref__" 420 (vr 197)),(de P "__doc__" 421 .none)] 4}),
 (195,{cls:=(.type "type"),data:=.cls {name:="Cursor",bases:=[(.type "object")],mro:=[(vr 195),(.type "object")],ns:=194,qualname:="Cursor"},slots:=#[Option.none,Option.none,aE (vs "Cursor" 278),aE (vs "Cursor" 286),aE ((.builtin "object.__new__")),aE (.bool true)]}),
 (196,{cls:=(.type "getset_descriptor"),data:=.fields #[(vs "__dict__" 417),(vr 195),(.builtin "function.__dict__"),(.builtin "function.__dict__#set")]}),
 (197,{cls:=(.type "getset_descriptor"),data:=.fields #[(vs "__weakref__" 419),(vr 195),(.builtin "ExceptionGroup.__weakref__"),.none]}),
 co 207 "__init__" "Sink.__init__" 436 99 1 440,
 kf Hc,
 co 214 "octet" "Sink.octet" 443 102 2 448,
 kf GQ,
 co 221 "put" "Sink.put" 451 105 2 456,
 kf Qr,
 co 228 "unsigned" "Sink.unsigned" 459 108 2 464,
 kf F6,
 co 235 "signed" "Sink.signed" 467 116 2 472,
 kf Pq,
 co 242 "many" "Sink.many" 475 119 2 480,
 kf Hd,
 co 249 "name" "Sink.name" 483 122 2 489,
 kf He,
 co 256 "sized" "Sink.sized" 492 127 2 497,
 kf GR,
 (264,{cls:=(.type "dict"),data:=.dict #[(de P "__module__" 431 (vs "wasmcore.octets" 276)),(de P "__firstlineno__" 435 (vi 97 434)),(de P "__init__" 442 (vr 213)),(de P "octet" 450 (vr 220)),(de P "put" 458 (vr 227)),(de P "unsigned" 466 (vr 234)),(de P "signed" 474 (vr 241)),(de P "many" 482 (vr 248)),(de P "name" 491 (vr 255)),(de P "sized" 499 (vr 262)),(de P "__static_attributes__" 501 (vr 263)),(de P "__dict__" 503 (vr 266)),(de P "__weakref__" 505 (vr 267)),(de P "__doc__" 506 .none)] 4}),
 (265,{cls:=(.type "type"),data:=.cls {name:="Sink",bases:=[(.type "object")],mro:=[(vr 265),(.type "object")],ns:=264,qualname:="Sink"},slots:=#[Option.none,Option.none,aE (vs "Sink" 424),aE (vs "Sink" 432),aE ((.builtin "object.__new__")),aE (.bool true)]}),
 (266,{cls:=(.type "getset_descriptor"),data:=.fields #[(vs "__dict__" 502),(vr 265),(.builtin "function.__dict__"),(.builtin "function.__dict__#set")]}),
 (267,{cls:=(.type "getset_descriptor"),data:=.fields #[(vs "__weakref__" 504),(vr 265),(.builtin "ExceptionGroup.__weakref__"),.none]}),
 co 270 "utf8_of" "utf8_of" 509 130 1 516,
 kf Ii,
 co 277 "head_of" "head_of" 519 145 2 524,
 kf Ij,
 (284,{cls:=(.type "tuple"),data:=.seq #[(vi 0 527)]}),
 co 285 "text_of" "text_of" 528 155 2 539,
 kf Ik,
 co 299 "__init__" "Names.__init__" 562 176 1 566,
 kf GS,
 (307,{cls:=(.type "dict"),data:=.dict #[(de P "__module__" 557 (vs "wasmcore.namesect" 542)),(de P "__firstlineno__" 561 (vi 174 560)),(de P "__init__" 568 (vr 305)),(de P "__static_attributes__" 573 (vr 306)),(de P "__dict__" 575 (vr 309)),(de P "__weakref__" 577 (vr 310)),(de P "__doc__" 578 .none)] 4}),
 (308,{cls:=(.type "type"),data:=.cls {name:="Names",bases:=[(.type "object")],mro:=[(vr 308),(.type "object")],ns:=307,qualname:="Names"},slots:=#[Option.none,Option.none,aE (vs "Names" 550),aE (vs "Names" 558),aE ((.builtin "object.__new__")),aE (.bool true)]}),
 (309,{cls:=(.type "getset_descriptor"),data:=.fields #[(vs "__dict__" 574),(vr 308),(.builtin "function.__dict__"),(.builtin "function.__dict__#set")]}),
 (310,{cls:=(.type "getset_descriptor"),data:=.fields #[(vs "__weakref__" 576),(vr 308),(.builtin "ExceptionGroup.__weakref__"),.none]}),
 co 313 "read_map" "read_map" 581 181 2 590,
 kf HL,
 co 320 "read_locals" "read_locals" 593 190 2 602,
 kf GA,
 co 327 "read_part" "read_part" 605 200 3 611,
 kf Hf,
 co 334 "read_section" "read_section" 614 210 1 624,
 kf Ge,
 co 341 "write_map" "write_map" 627 226 2 633,
 kf Hg,
 co 348 "write_part" "write_part" 636 231 3 642,
 kf GU,
 co 355 "section_of" "section_of" 645 234 1 652,
 kf GV,
 co 362 "_law_next" "_law_next" 657 253 1 661,
 kf Hh,
 co 369 "_law_point" "_law_point" 664 255 1 670,
 kf GW,
 co 376 "_law_text" "_law_text" 673 261 1 679,
 kf Hi,
 co 383 "_law_index" "_law_index" 682 266 2 688,
 kf GX,
 co 390 "_law_some" "_law_some" 691 275 2 699,
 kf Hj,
 co 397 "_law_dict" "_law_dict" 702 281 1 709,
 kf Hk,
 (407,{cls:=(.type "code"),data:=.fields #[(vs "_law_sorted" 712),(vs "_law_sorted" 713),(vs "/claim/cut.py" 714),(vi 286 0),(vi 1 0),(vi 0 0),(vi 0 0),(vi 3 0),(vr 404),.bool true,(vi 181 0),(vr 405),.none,.none,.none,(vr 406),(vi 715 0),(vi 286 0),(vs "/claim/cut.py" 716)]}),
 kf GB,
 co 409 "_law_long" "_law_long" 718 288 2 724,
 kf Hl,
 co 416 "_law_sign" "_law_sign" 727 296 1 734,
 kf Hm,
 (426,{cls:=(.type "code"),data:=.fields #[(vs "_law_octets" 737),(vs "_law_octets" 738),(vs "/claim/cut.py" 739),(vi 304 0),(vi 1 0),(vi 0 0),(vi 0 0),(vi 3 0),(vr 423),.bool true,(vi 181 0),(vr 424),.none,.none,.none,(vr 425),(vi 740 0),(vi 304 0),(vs "/claim/cut.py" 741)]}),
 kf GC,
 (431,{cls:=(.type "code"),data:=.fields #[(vs "_law_coded" 743),(vs "_law_coded" 744),(vs "/claim/cut.py" 745),(vi 306 0),(vi 1 0),(vi 0 0),(vi 0 0),(vi 3 0),(vr 428),.bool true,(vi 181 0),(vr 429),.none,.none,.none,(vr 430),(vi 746 0),(vi 306 0),(vs "/claim/cut.py" 747)]}),
 kf GY,
 co 433 "_law_map" "_law_map" 749 308 2 757,
 kf HM,
 (443,{cls:=(.type "code"),data:=.fields #[(vs "_law_written" 760),(vs "_law_written" 761),(vs "/claim/cut.py" 762),(vi 313 0),(vi 4 0),(vi 0 0),(vi 0 0),(vi 3 0),(vr 440),.bool true,(vi 181 0),(vr 441),.none,.none,.none,(vr 442),(vi 763 0),(vi 313 0),(vs "/claim/cut.py" 764)]}),
 kf Gf,
 (448,{cls:=(.type "code"),data:=.fields #[(vs "_law_number" 766),(vs "_law_number" 767),(vs "/claim/cut.py" 768),(vi 323 0),(vi 3 0),(vi 0 0),(vi 0 0),(vi 3 0),(vr 445),.bool true,(vi 181 0),(vr 446),.none,.none,.none,(vr 447),(vi 769 0),(vi 323 0),(vs "/claim/cut.py" 770)]}),
 kf GD,
 co 450 "_law_found" "_law_found" 772 331 3 781,
 kf GZ,
 co 457 "_law_name" "_law_name" 784 341 3 793,
 kf Hn,
 co 464 "_law_pairs" "_law_pairs" 796 353 4 808,
 kf G0,
 co 471 "_law_rows" "_law_rows" 811 366 4 823,
 kf Ho,
 co 478 "_law_read" "_law_read" 826 379 1 840,
 kf Hp,
 (488,{cls:=(.type "code"),data:=.fields #[(vs "_law_told" 843),(vs "_law_told" 844),(vs "/claim/cut.py" 845),(vi 398 0),(vi 1 0),(vi 0 0),(vi 0 0),(vi 3 0),(vr 485),.bool true,(vi 181 0),(vr 486),.none,.none,.none,(vr 487),(vi 846 0),(vi 398 0),(vs "/claim/cut.py" 847)]}),
 kf Hq,
 (493,{cls:=(.type "code"),data:=.fields #[(vs "law" 849),(vs "law" 850),(vs "/claim/cut.py" 851),(vi 404 0),(vi 1 0),(vi 0 0),(vi 0 0),(vi 3 0),(vr 490),.bool true,(vi 181 0),(vr 491),.none,.none,.none,(vr 492),(vi 852 0),(vi 404 0),(vs "/claim/cut.py" 853)]}),
 kf pZ]
noncomputable def C0(tb:String->Option aB)(p:Program)(w:cL)(vF:Nat)(ann:Option Value)(n:Nat):SharedT->Thread->Option SharedT:=
 n.rec (λ_ _=>none) λ_ ih s t=>cond (through t) (some s) (cond (stepOk vF ann t) ((stepT (ly tb) p w s t).bind λx=>ih x.1 x.2) none)
theorem QT{tb:String->Option aB}{p:Program}{w:cL}{vF:Nat}{ann:Option Value}:∀{n:Nat}{s r:SharedT}{t:Thread},C0 tb p w vF ann n s t=some r->topRun tb p w vF ann n s.abs t=some r.abs:=by
 intro n;induction n with
 |zero=>intro s r t h;cases h
 |succ n ih=>
  intro s r t h;have h:cond (through t) (some s) (cond (stepOk vF ann t) ((stepT (ly tb) p w s t).bind λx=>C0 tb p w vF ann n x.1 x.2) none)=some r:=h;unfold topRun;cases ht:through t with
  |true=>rw[ht]at h;cases h;rfl
  |false=>
   rw[ht]at h;cases hk:stepOk vF ann t with
   |false=>rw[hk]at h;cases h
   |true=>
    rw[hk]at h;cases hs:stepT (ly tb) p w s t with
    |none=>rw[hs]at h;cases h
    |some x=>obtain⟨s',t'⟩:=x;rw[hs]at h;rw[stepT_spec hs];exact ih h
noncomputable def tr(l:List Obj):Nat->BT->BT:=l.rec (λ_ t=>t) λo _ ih n t=>ih (n+1) (t.ins n o)
noncomputable def Lc(w:cL)(os:ju):SharedT:=⟨tr (eV w.params).objs.toList 0 .nil,(eV w.params).objs.size,(eV w.params).life,#[],boot_drawn,boot_toks,os⟩
noncomputable def Ej(r:SharedT)(a:aA):Option Obj:=cond (Nat.blt a r.n) (alive ((r.tree.get a).getD default)) none
noncomputable abbrev mods:List Str:=importedModules PW.main.body
noncomputable def xm(w:cL)(r:SharedT):Bool:=
 (staticsOk mods (eV w.params) r.abs.heap&&namesBound PW r.abs.heap&&gensDone r.abs&&laidKept (eV w.params) r.abs.heap)&&(r.abs.heap.isNs az&&(r.abs.heap.isNs fM&&(r.abs.heap.accountedOkI mods&&(r.abs.heap.bmainOk&&r.abs.heap.noLimitOk))))
theorem evl(w:cL)(os:ju):(C0 treeTable PW w 11 (some (.ref 6)) 100000 (Lc w os) (topStub PW)).map (λr=>(xm w r,r.gens.size,r.abs.heap.bltView,((KK w.params).map (λO=>O.1)).map (Ej r)))=some (true,0,mD,(KK w.params).map λp=>some p.2):=by kernel_rfl!
theorem QU(w:cL)(os:ju):(Lc w os).abs=⟨eV w.params,#[],boot_drawn,boot_toks,os⟩:=by kernel_rfl!
theorem RT(r:SharedT)(a:aA):r.abs.heap.get? a=Ej r a:=by
 unfold Ej;show(absHeap r.tree r.n r.life).get? a=_;cases h:Nat.blt a r.n with
 |false=>exact abs_get_none λq=>by rw[Nat.blt_eq.mpr q]at h;cases h
 |true=>have h:=Nat.blt_eq.mp h;unfold bb.get?;rw[absHeap_at,if_pos h];generalize(r.tree.get a).getD default=o;obtain⟨c,d,dt,sl⟩:=o;cases dt<;>rfl
structure Left(w:cL)(s:ai):Prop where
 gens:s.gens=#[]
 mg:s.heap.isNs az=true
 mb:s.heap.isNs fM=true
 blt:s.heap.bltView=mD
 lim:s.heap.noLimitOk=true
 K:(KK w.params).In s.heap
theorem opens:opening PW=plainProg PW.main.scope.names:=by kernel_rfl!
theorem Ue(s:ai):mA PW s=some s:=by kernel_rfl!
theorem behind(w:cL):(∃s,AfterRun (opening PW) w s)/\∀s,AfterRun (opening PW) w s->∃uB,mA PW s=some uB/\uB.gens=#[]/\∃mN,TopRan PW w uB mN/\mN.asleep/\Left w mN:=by
 have h:=boot_open (p:=PW) (N:=600) opens (by decide) Ue w;rw[<-mv]at h;obtain⟨uB,h2,h3⟩:=ek.mp h;obtain⟨s,h4,h5⟩:=Option.bind_eq_some_iff.mp h2;have A:=AfterImport.of_importEnds h4;refine⟨⟨s,A⟩,λs' vY=>?_⟩;obtain rfl:s'=s:=AfterImport.unique vY A;have z:uB.asleep:=ai.asleep_of_life (fence_lifeW h5) A.life;obtain⟨hh,hg,hd,ht,os⟩:=uB;simp only[fK.injEq]at h3;obtain⟨rfl,rfl,rfl,rfl⟩:=h3;have e:=evl w os;obtain⟨r,er,e⟩:=ek.mp e;simp only[fK.injEq]at e;obtain⟨e1,e2,e3,e4⟩:=e;have er:=QT er;rw[QU,<-mv]at er;obtain⟨a,l,os',fr⟩:=topRun_spec _ _ _ _ z er;simp only[xm,b5]at e1;obtain⟨⟨⟨⟨c1,c2⟩,c3⟩,c4⟩,c5,c6,c7,c8,c9⟩:=e1;have NO:(eV w.params).isNs az=true:=by kernel_rfl!
 have acg:globalOf (eV w.params) "__annotations__"=some (.ref 6):=by kernel_rfl!
 have hsz:(eV w.params).objs.size=11:=by kernel_rfl!
 have hK:(KK w.params).In r.abs.heap:=Frag.in_of rfl (by rw[<-e4];exact b8 λa O=>RT r a);refine⟨_,h5,rfl,r.abs,⟨a,l,ai.rest_eq os',λb o hb J=>fr b o ?_ (λq=>J (.inl q)) (λq=>J (.inr (.inl q))) (λq=>J (.inr (.inr (acg.trans q)))) hb,bb.accountedI_of_ok c7,statics_of_ok c1,Pin.keysAreStrs_of c5,λx hx=>(Pin.builtinOf_eq c6 x).trans (bb.of_bltView c6 e3 x hx),?_,gens_of_done c3,names_of_bound c2,laid_of_kept c4⟩,ai.asleep_of_life l z,⟨Array.eq_empty_of_size_eq_zero e2,c5,c6,e3,c9,hK⟩⟩
 ·have:=a_ hb;rw[hsz]at this;exact this
 ·obtain⟨bm,ob,a,_,c,d,f,_⟩:=bb.bmainOk_spec c8;exact⟨bm,ob,(kY c5 _).trans a,c,d,f⟩
section
noncomputable def holders:List String:=["bytearray.__contains__","bytearray.__mod__","bytearray.__rmod__","_struct.pack_into.held","bytearray.find.held"]++aB.Bytes.decodersThatHold
noncomputable def uv:Code->Bool
 |.builtin id _=>!holders.contains id
 |_=>true
noncomputable def vG(l:List (Code×iA)):Prop:=∀q∈l,uv q.1=true
noncomputable def W(nd:Bool)(M:Model)(A:Around)(t:fH α)(Q:α->ai->Prop)(E:Value->ai->Prop)(s:ai):Prop:=
 ∀Γ p,Γ.In A->(nd=true->uv Γ.code=true/\vG Γ.below)->fH.wp M Γ t (λa O s'=>Q a s') (λe O s'=>E e s') p s
noncomputable def WC(nd:Bool)(M:Model)(A:Around)(c:Code)(R:gv->ai->Prop)(s:ai):Prop:=
 ∀Γ p,Γ.code=c->Γ.Below A->(nd=true->vG Γ.below)->wpCode M Γ R p s
section
variable {α β:Type}{nd:Bool}{M:Model}{A:Around}{E E':Value->ai->Prop}{s:ai}{Q Q':α->ai->Prop}{R R':gv->ai->Prop}{env:Env}
theorem W.of(h:aJ M A t Q E s):W nd M A t Q E s:=λΓ p i O=>h Γ p i
theorem W.any(h:W false M A t Q E s):aJ M A t Q E s:=λΓ p i=>h Γ p i (λe=>nomatch e)
theorem WC.of(h:iM M A c R s):WC nd M A c R s:=λΓ p e b O=>h Γ p e b
theorem WC.any(h:WC false M A c R s):iM M A c R s:=λΓ p e b=>h Γ p e b (λe=>nomatch e)
theorem W.mono(h:W nd M A t Q E s)(q:∀a s,Q a s->Q' a s)(e:∀v s,E v s->E' v s):W nd M A t Q' E' s:=
 λΓ p i n=>fH.wp_mono M Γ t (λa O s=>q a s) (λv O s=>e v s) p s (h Γ p i n)
theorem WC.mono(h:WC nd M A c R s)(r:∀a s,R a s->R' a s):WC nd M A c R' s:=λΓ p e b n=>wpCode_mono r (h Γ p e b n)
theorem W.pure(h:Q a s):W nd M A (pure a) Q E s:=.of (ak h)
theorem W.bind{f:β->fH α}(h:W nd M A m (λa s'=>W nd M A (f a) Q E s') E s):W nd M A (m>>=f) Q E s:=λΓ p i n=>by rw[fH.wp_bind'];exact fH.wp_mono M Γ m (λa p' s' k=>k Γ p' i n) (λO O O k=>k) p s (h Γ p i n)
theorem W.step{f:β->fH α}(h:aJ M A m (λa s'=>W nd M A (f a) Q E s') E s):W nd M A (m>>=f) Q E s:=.bind (.of h)
theorem W.then{P:β->ai->Prop}(h:W nd M A m P E s)(k:∀a s',P a s'->W nd M A (f a) Q E s'):W nd M A (m>>=f) Q E s:=.bind (h.mono k λO O e=>e)
theorem W.hold{vs:List Value}(h:W nd M A m Q E s):W nd M A (cE vs m) Q E s:=λΓ p i n=>by rw[fH.wp_holding];exact h Γ p i n
theorem W.Bq{vs:List Value}{Q:Value->ai->Prop}(h:W nd M A m Q E s):W nd M A (j8 vs m) Q E s:=λΓ p i n=>by rw[fH.wp_operate];exact h Γ p i n
theorem W.onRaise(h:W nd M A m Q (λe s'=>W nd M A (k e) (λO ph=>E e ph) E s') s):W nd M A (m.onRaise k) Q E s:=λΓ p i n=>by rw[fH.wp_onRaise];exact fH.wp_mono M Γ m (λO O O k=>k) (λe p' s' k=>k Γ p' i n) p s (h Γ p i n)
theorem W.at_(h:W nd M A (f ()) Q E s):W nd M A (dN pos>>=f) Q E s:=.step (hJ h)
theorem vG.enter{Γ:Ctx}(h:uv Γ.code=true/\vG Γ.below):vG (Γ.enter c hd p).below:=λq hq=>by
 rcases aL.mp hq with rfl|hq
 ·exact h.1
 ·exact h.2 q hq
theorem W.runC{Q:gd->ai->Prop}(hc:WC nd M (A.mark h) c (λr s'=>match r with|.ok f=>Q f s'|.error e=>E e s') s)(hb:h≠some byPass):W nd M A (run c h) Q E s:=
 λΓ p i n=>by rw[fH.wp_run];exact hc _ p rfl (i.enter c h p hb) λe=>vG.enter (n e)
theorem W.ach{Q:Value->ai->Prop}(hc:WC nd M A c (λr s'=>match r with|.ok (.ret v)=>Q v s'|.ok _=>False|.error e=>E e s') s):W nd M A (runValue c) Q E s:=
 λΓ p i n=>by rw[fH.wp_runValue];exact hc _ p rfl (i.enter c none p (by intro x;cases x)) λe=>vG.enter (n e)
theorem W.vo{Q:Value->ai->Prop}(hc:WC nd M A (.call f ⟨pos,kw⟩) (λr s'=>match r with|.ok (.ret v)=>Q v s'|.ok _=>False|.error e=>E e s') s):W nd M A (aF f pos kw) Q E s:=W.ach hc
theorem WC.tree(ho:uv c=true)(h:W nd M (A.under c) (M.den c) (λfin s'=>match fin with|.done f=>R (.ok f) s'|.again c'=>c'.quiet=true/\WC nd M A c' R s') (λe s'=>R (.error e) s') s):WC nd M A c R s:=λΓ p hc NP n=>by
 rw[wpCode_iff_wp,hc];refine fH.wp_mono M Γ _ (λfin p' s' k=>?_) (λO O O k=>k) p s (h Γ p (hc▸NP.in) λe=>⟨by rw[hc];exact ho,n e⟩);cases fin with
 |done f=>exact k
 |again c'=>exact⟨k.1,k.2 (Γ.goto c') p' rfl (NP.goto c') n⟩
theorem WC.loop(ho:uv c=true)(hq:c.quiet=true)(I:Nat->ai->Prop)
  (turn:∀n s,I n s->W nd M (A.under c) (M.den c) (λfin s'=>match fin with|.done f=>R (.ok f) s'|.again c'=>(c'=c/\∃m,m<n/\I m s')\/(c'.quiet=true/\WC nd M A c' R s')) (λe s'=>R (.error e) s') s)
  (n:Nat)(h:I n s):WC nd M A c R s:=by
 induction n using kZ generalizing s with
 |ind n ih=>
  refine .tree ho ((turn n s h).mono (λfin s' hf=>?_) λO O k=>k);cases fin with
  |done f=>exact hf
  |again c'=>
   rcases hf with⟨rfl,m,hm,hI⟩|hf
   ·exact⟨hq,ih m hm hI⟩
   ·exact hf
theorem W.BinOp{Q:Value->ai->Prop}(h:W nd M A (aT l env) (λa mN=>W nd M A (aT r env) (λb m8=>W nd M A (cV op a b) Q E m8) E mN) E s):W nd M A (aT (.BinOp l op r pos) env) Q E s:=by exact h.then λa s1 h1=>.then (.hold h1) λb s2 h2=>.at_ (.Bq h2)
theorem W.I1{Q:Value->ai->Prop}(h:W nd M A (aT l env) (λa mN=>W nd M A (aT r env) (λb m8=>W nd M A (bY op a b) Q E m8) E mN) E s)(hm:dU op r=false):W nd M A (aT (.Compare l [op] [r] pos) env) Q E s:=by rw[eval_Compare1,jY hm];exact h.then λa s1 h1=>.then (.hold h1) λb s2 h2=>.at_ (.Bq h2)
theorem W.CN{Q:Bool->ai->Prop}(h:W nd M A (aT l env) (λa mN=>W nd M A (aT r env) (λb m8=>W nd M A (bY op a b) (λc nK=>W nd M A (h_ c) Q E nK) E m8) E mN) E s)(hm:dU op r=false):W nd M A (cY (.Compare l [op] [r] pos) env whole) Q E s:=by rw[isTrue_Compare1,jY hm];exact h.then λa s1 h1=>.then (.hold h1) λb s2 h2=>.at_ (.then (.Bq h2) λc s3 h3=>.hold h3)
theorem W.M3{Q:Bool->ai->Prop}(h:W nd M A (cY x env (aT x env)) (λc s'=>Q (!c) s') E s):W nd M A (cY (.UnaryOp .Not x pos) env whole) Q E s:=by show W nd M A (do return !(<-cY x env (aT x env))) Q E s;exact h.then λc s' k=>.pure k
theorem W.M4{Q:Bool->ai->Prop}(h:W nd M A (cY x env (aT x env)) (λc s'=>if c then W nd M A (cY (.BoolOp .And rest pos) env whole) Q E s' else Q false s') E s):W nd M A (cY (.BoolOp .And (x::rest) pos) env whole) Q E s:=by
 show W nd M A (do
  match BoolOp.And,<-cY x env (aT x env)with
  |.And,false=>(bQ false:fH Bool)
  |.Or,true=>(bQ true:fH Bool)
  |_,_=>allTrue .And rest env) Q E s
 refine h.then λc s' k=>?_;cases c with
 |false=>exact .pure k
 |true=>exact k
theorem W.tOr{Q:Bool->ai->Prop}(h:W nd M A (cY x env (aT x env)) (λc s'=>if c then Q true s' else W nd M A (cY (.BoolOp .Or rest pos) env whole) Q E s') E s):W nd M A (cY (.BoolOp .Or (x::rest) pos) env whole) Q E s:=by
 show W nd M A (do
  match BoolOp.Or,<-cY x env (aT x env)with
  |.And,false=>(bQ false:fH Bool)
  |.Or,true=>(bQ true:fH Bool)
  |_,_=>allTrue .Or rest env) Q E s
 refine h.then λc s' k=>?_;cases c with
 |false=>exact k
 |true=>exact .pure k
theorem W.Kl{Q:Bool->ai->Prop}(h:W nd M A whole (λv mN=>W nd M A (h_ v) Q E mN) E s)(he:cY e env whole=(do let v <-whole;dN e.pos;cE [v] (h_ v))):W nd M A (cY e env whole) Q E s:=by rw[he];exact h.then λv s1 k=>.at_ (.hold k)
theorem W.IfExp{Q:Value->ai->Prop}(h:W nd M A (cY test env (aT test env)) (λb mN=>if b then W nd M A (aT body env) Q E mN else W nd M A (aT orelse env) Q E mN) E s):W nd M A (aT (.IfExp test body orelse pos) env) Q E s:=by refine h.then λb s1 k=>?_;cases b<;>exact k
theorem W.If{Q:gd->ai->Prop}(h:W nd M A (cY test env (aT test env)) (λb m8=>if b then W nd M A (aO body env) Q E m8 else W nd M A (aO orelse env) Q E m8) E s):W nd M A (jQ (.If test body orelse pos) env) Q E s:=by refine .at_ (h.then λb s1 k=>?_);cases b<;>exact k
theorem W.stmts{st:Stmt}{Q:gd->ai->Prop}(h:W nd M A (jQ st env) (λf s'=>match f with|.next=>W nd M A (aO rest env) Q E s'|f=>Q f s') E s):W nd M A (aO (st::rest) env) Q E s:=by refine h.then λf s1 k=>?_;cases f<;>first|exact k|exact .pure k
theorem W.Return{Q:gd->ai->Prop}(h:W nd M A (aT e env) (λv=>Q (.ret v)) E s):W nd M A (jQ (.Return (some e) pos) env) Q E s:=by exact .at_ (h.then λv s1 k=>.pure k)
theorem W.HN{Q:gd->ai->Prop}(h:W nd M A (aT value env) (λv mN=>aJ M A (i8 env x v) (λO=>Q .next) E mN) E s)(hs:cn value (some (.Name x p')) pos.line env=bQ false):W nd M A (jQ (.Assign [.Name x p'] value pos) env) Q E s:=by rw[exec_Assign_Name env x p' value pos hs];exact .at_ (h.then λv s1 k=>.at_ (.step (jB (aY k (λO O q=>.pure q) λO O e=>e))))
theorem W.P5{Q:gd->ai->Prop}(h:W nd M A (aT value env) (λv mN=>aJ M A (gP (.Tuple es k tp) env v) (λO=>Q .next) E mN) E s)
  (hs:fX [.Tuple es k tp] value pos.line env=bQ false)(hw:fY [.Tuple es k tp] value env=bQ none):W nd M A (jQ (.Assign [.Tuple es k tp] value pos) env) Q E s:=by
 rw[exec_Assign,hs];refine .at_ (.step (ak ?_));refine h.then λv s1 q=>?_;rw[hw];refine .step (ak ?_);exact .step (aY q (λO O x=>W.pure x) λO O e=>e)
theorem W.CH{o value:cI}{Q:gd->ai->Prop}(h:W nd M A (aT value env) (λv mN=>W nd M A (aT o env) (λov m8=>W nd M A (lH ov x v) (λO=>Q .next) E m8) E mN) E s)(hs:cn value (some (.Attribute o x p')) pos.line env=bQ false):W nd M A (jQ (.Assign [.Attribute o x p'] value pos) env) Q E s:=by rw[plainObj_exec_Assign_Attribute o x p' value pos hs];refine .at_ (h.then λv s1 h1=>?_);refine .then (P:=λO s=>Q .next s) (.then (.hold h1) λov s2 h2=>?_) λO s3 q=>.pure q;exact .at_ (.then (.hold h2) λO s3 q=>.of (jx q))
theorem W.Il{Q:gd->ai->Prop}(h:W nd M A (aT value env) (λv mN=>W nd M A (aT o env) (λov m8=>W nd M A (aT i env) (λiv nK=>W nd M A (lG ov iv v) (λO=>Q .next) E nK) E m8) E mN) E s)(hs:cn value (some (.Subscript o i p')) pos.line env=bQ false):W nd M A (jQ (.Assign [.Subscript o i p'] value pos) env) Q E s:=by rw[exec_Assign_Subscript o i p' value pos hs];refine .at_ (h.then λv s1 h1=>?_);refine .then (P:=λO s=>Q .next s) (.then (.hold h1) λov s2 h2=>.then (.hold h2) λiv s3 h3=>?_) λO s3 q=>.pure q;exact .at_ (.then (.hold h3) λO s4 q=>.of (jx q))
theorem W.Ld{Q:gd->ai->Prop}(h:W nd M A (aT e env) (λv s'=>match v with|.ref _=>False|_=>Q .next s') E s)(hi:jh env=false)(hs:cn e none pos.line env=bQ false):W nd M A (jQ (.Expr e pos) env) Q E s:=by
 rw[exec_Expr env e pos hi hs];refine .at_ (h.then λv s1 k=>?_);cases v with
 |ref a=>exact k.elim
 |_=>rw[dropValue_plain (λa=>by intro e;cases e)];exact .pure k
theorem W.Km{Q:List Value->ai->Prop}(h:W nd M A x (λv mN=>W nd M A (fJ rest) (λvs m8=>Q (v::vs) m8) E mN) E s):W nd M A (fJ ((false,x)::rest)) Q E s:=by refine h.then λv s1 h1=>?_;exact .step (ak (.then (.hold h1) λvs s2 q=>.pure q))
theorem W.args{Q:Args->ai->Prop}(h:W nd M A (fJ trees) (λvs s'=>Q ⟨vs,[]⟩ s') E s)(ht:trees=[]\/∃x r,trees=(false,x)::r):W nd M A (kO f true trees []) Q E s:=by
 rcases ht with rfl|⟨x,r,rfl⟩
 ·unfold kO;show W nd M A (fJ []>>=_) Q E s;exact h.then λvs s1 q=>.step (ak (.hold (.step (ak (.step (ak (.pure q)))))))
 ·unfold kO;show W nd M A (fJ ((false,x)::r)>>=_) Q E s;exact h.then λvs s1 q=>.hold (.step (ak (.step (ak (.pure q)))))
theorem W.Call{args:List cI}{Q:Value->ai->Prop}(h:W nd M A (aT func env) (λf mN=>W nd M A (cA pos f [] (cM pos (aU args env)) []) Q E mN) E s)
  (he:aT (.Call func args [] pos) env=(do cA pos (<-aT func env) [] (cM pos (aU args env)) (dF pos (cF [] env)))):W nd M A (aT (.Call func args [] pos) env) Q E s:=by
 rw[he];exact .bind h
theorem W.I3{args:List cI}{Q:Value->ai->Prop}(h:W nd M A (aT o env) (λov mN=>aJ M A (ed ov name pl) (λfx m8=>W nd M A (cA pos fx.1 fx.2 (cM pos (aU args env)) []) Q E m8) E mN) E s)
  (he:aT (.Call (.Attribute o name apos) args [] pos) env=(do
   let ov <-aT o env
   dN apos.atName
   let(f,first) <-cE [ov] (ed ov name pl)
   cA pos f first (cM pos (aU args env)) [])):W nd M A (aT (.Call (.Attribute o name apos) args [] pos) env) Q E s:=by
 rw[he];exact h.then λov s1 h1=>.at_ (.then (.hold (.of h1)) λfx s2 h2=>h2)
theorem W.keep{vs:List Value}(h:W nd M A m Q E s):W nd M A (m.keep vs) Q E s:=λΓ p i n=>by rw[fH.wp_keep];exact h Γ p i n
theorem W.callWith{P:bb->Prop}{args:List (Bool×fH Value)}{Q:Value->ai->Prop}(hp:args.any (λO=>O.1)=false)(hk:∀h,P h->∃k,(k=jn\/k=iF)/\fN M h (ma f) k)
  (h:W nd M A (kO f true args []) (λa mN=>P mN.heap/\W nd M A (aF f (first++a.pos) a.kw) Q E mN) E s):W nd M A (cA pos f first args []) Q E s:=by
 refine .then (.hold h) λa s1 h1=>.at_ ?_;obtain⟨k,hk',L⟩:=hk _ h1.1;rw[hp,List.any_nil,cS];refine .step (L.here ?_);have tail:∀{t:fH Value},W nd M A t Q E s1->W nd M A (t>>=λr=>cE [r] point>>=λO=>bQ r) Q E s1:=λht=>ht.then λr s2 q=>.step (bN (eD (.pure q)));rcases hk' with rfl|rfl
 ·dsimp only;split
  ·exact tail h1.2
  ·refine tail ?_;exact .keep h1.2
 ·exact tail h1.2
theorem W.Subscript{Q:Value->ai->Prop}(h:W nd M A (aT value env) (λo mN=>W nd M A (aT slice env) (λi m8=>W nd M A (mx value slice o i) Q E m8) E mN) E s):W nd M A (aT (.Subscript value slice pos) env) Q E s:=by exact h.then λo s1 h1=>.then (.hold h1) λi s2 h2=>.at_ h2
theorem W.Slice{lower upper step:Option cI}{Q:Value->ai->Prop}(h:W nd M A (kN lower env) (λl mN=>W nd M A (kN upper env) (λu m8=>W nd M A (kN step env) (λst nK=>Q (.ref nK.heap.objs.size) {nK with heap:=nK.heap.push {cls:=.type "slice",data:=.fields #[l,u,st]}}) E m8) E mN) E s):W nd M A (aT (.Slice lower upper step p) env) Q E s:=by exact h.then λl s1 h1=>.then (.hold h1) λu s2 h2=>.then (.hold h2) λst s3 q=>.of (cH q)
theorem W.chain{o1 o2:CmpOp}{Q:Bool->ai->Prop}
  (h:W nd M A (aT l env) (λa mN=>W nd M A (aT r1 env) (λb m8=>W nd M A (bY o1 a b) (λc nK=>aJ M A (h_ c) (λt uC=>if t then W nd M A (aT r2 env) (λb' Bs=>W nd M A (bY o2 b b') (λc' aci=>aJ M A (h_ c') Q E aci) E Bs) E uC else Q false uC) E nK) E m8) E mN) E s)
  (hm:lastMarks [o1,o2] [r1,r2]=false):W nd M A (cY (.Compare l [o1,o2] [r1,r2] pos) env whole) Q E s:=by
 show W nd M A (do testChain pos (<-aT l env) [o1,o2] (markedEach [o1,o2] [r1,r2] (evalEach [r1,r2] env))) Q E s;rw[markedEach_of_false _ _ _ hm];refine h.then λa s1 h1=>?_;show W nd M A (do
  let rv <-cE [a] (aT r1 env)
  dN pos
  let c <-cE [a,rv] (bY o1 a rv)
  release [a,rv] [c]
  if <-cE [c,rv] (h_ c)then testChain pos rv [o2] [aT r2 env]else bQ false) Q E s1
 refine .then (.hold h1) λb s2 h2=>.at_ (.then (.hold h2) λc s3 h3=>.step (jx (.then (.hold (.of h3)) λt s4 h4=>?_)));cases t with
 |false=>exact .pure h4
 |true=>
  show W nd M A (do
   let rv <-cE [b] (aT r2 env)
   dN pos
   let c <-j8 [b,rv] (bY o2 b rv)
   cE [c] (h_ c)) Q E s4
  exact .then (.hold h4) λb' s5 h5=>.at_ (.then (.Bq h5) λc' s6 h6=>.hold (.of h6))
theorem W.DK(h:W nd M A m Q (iJ M A env E) s):W nd M A (m.onRaise λx=>do dg x env;fm x) Q E s:=
 .onRaise (h.mono (λO O q=>q) λe s' hx=>.of (ag (aY hx (λO O q=>wpAny_theTreesLotGoes q) λO O q=>q)))
theorem W.own{Q:gd->ai->Prop}(hc:WC nd M A c (λr s'=>match r with|.ok f=>Q f s'|.error e=>dw M A env E e s') s):W nd M A (runOwn c env) Q E s:=by exact .onRaise ((W.runC (h:=none) hc (by intro x;cases x)).mono (λO O q=>q) λO O k=>.of k)
end
section
variable {nd:Bool}{prog:Program}{w:cL}{A:Around}{E:Value->ai->Prop}{R:gv->ai->Prop}{s:ai}{env:Env}
theorem W.Attribute(h:W nd (aX prog w) A (aT value env) (λo mN=>aJ (aX prog w) A (jt o x true) Q E mN) E s)
  (he:aT (.Attribute value x pos) env=(do
   let o <-aT value env
   dN pos.atName
   let r <-cE [o] (jt o x true)
   gM value o r
   bQ r)):W nd (aX prog w) A (aT (.Attribute value x pos) env) Q E s:=by
 rw[he];exact h.then λo s1 h1=>.at_ (.then (.hold (.of h1)) λr s2 q=>.step (kI (.pure q)))
theorem W.While(I:Nat->ai->Prop)
  (turn:∀n s,I n s->W nd (aX prog w) A (cY test env (aT test env)) (λb m8=>if b then W nd (aX prog w) A (aO body env) (λf nK=>match f with
    |.next|.cont=>∃m,m<n/\I m nK
    |.brk=>Q .next nK
    |.ret v=>Q (.ret v) nK) (iJ (aX prog w) A env (dw (aX prog w) A env E)) m8 else Q .next m8) (iJ (aX prog w) A env (dw (aX prog w) A env E)) s)
  (n:Nat) (h:I n s):W nd (aX prog w) A (jQ (.While test body [] pos) env) Q E s:=by
 refine .at_ (.own (.loop rfl rfl I (λn s hI=>?_) n h));show W nd _ A ((whileTurn test body [] env).onRaise (λx=>do dg x env;fm x)) _ _ s;refine .DK ?_;delta whileTurn;dsimp only;refine(turn n s hI).then λb s2 h2=>?_;cases b with
 |false=>exact .step (fk (.pure h2))
 |true=>
  refine h2.then λf s3 h3=>?_;cases f with
  |next=>exact .pure (.inl ⟨rfl,h3⟩)
  |cont=>exact .pure (.inl ⟨rfl,h3⟩)
  |brk=>exact .pure h3
  |ret v=>exact .pure h3
theorem W.To{Q:gd->ai->Prop}(I:Nat->ai->Prop)
  (turn:∀n s,I n s->aJ (aX prog w) A (lu it) (λr mN=>match r with
   |none=>Q .next mN
   |some v=>aJ (aX prog w) A (gP target env v) (λO m8=>W nd (aX prog w) A (aO body env) (λf nK=>match f with
     |.next|.cont=>∃m,m<n/\I m nK
     |.brk=>Q .next nK
     |.ret v=>Q (.ret v) nK) (iJ (aX prog w) A env (dw (aX prog w) A env E)) m8) (iJ (aX prog w) A env (dw (aX prog w) A env E)) mN) (iJ (aX prog w) A env (dw (aX prog w) A env E)) s)
  (n:Nat) (h:I n s) (ht:∀v,cP target it v=bQ ()):WC nd (aX prog w) A (.forLoop target it body [] env) (λr s'=>match r with|.ok f=>Q f s'|.error e=>dw (aX prog w) A env E e s') s:=by
 refine .loop rfl rfl I (λn s hI=>?_) n h;show W nd _ A ((forTurn target it body [] env).onRaise (λx=>do dg x env;fm x)) _ _ s;refine .DK ?_;delta forTurn;dsimp only;refine .at_ (.then (.of (hU (aY (turn n s hI) (λr s1 k=>k) λO O k=>hJ k))) λr s1 h1=>?_);cases r with
 |none=>exact .pure (.inr ⟨rfl,.of (mB (fk h1))⟩)
 |some v=>
  dsimp only;rw[ht v];refine .step (ak (.then (.of h1) λO s2 h2=>h2.then λf s3 h3=>?_));cases f with
  |next=>exact .pure (.inl ⟨rfl,h3⟩)
  |cont=>exact .pure (.inl ⟨rfl,h3⟩)
  |brk=>exact .pure h3
  |ret v=>exact .pure h3
theorem W.For(h:W nd (aX prog w) A (aT iter env) (λx mN=>aJ (aX prog w) A (i9 x) (λit m8=>
   WC nd (aX prog w) A (.forLoop target it body [] env) (λr s'=>match r with|.ok f=>Q f s'|.error e=>dw (aX prog w) A env E e s') m8) E mN) E s) (hs:∀x,bJ iter env x=bQ x):W nd (aX prog w) A (jQ (.For target iter body [] pos) env) Q E s:=by
 refine .at_ (h.then λx s1 h1=>?_);rw[hs x];exact .step (ak (.at_ (.then (.hold (.of h1)) λit s2 h2=>.own h2)))
end
end
section
noncomputable abbrev Cells:=List (aA×Obj)
inductive AV where
 |none|bool (b:Bool)|int (i:Int)|str (s:List Nat)|bytes (b:List UInt8)|ref (a:aA)|val (v:Value)|tup (xs:List AV)|lst (xs:List AV)
mutual
inductive Of(fz:Cells):AV->Value->Prop
 |none:Of fz .none .none
 |bool (b):Of fz (.bool b) (.bool b)
 |int (i t):Of fz (.int i) (.int i t)
 |str (s t):Of fz (.str s) (.str ⟨s.toArray⟩ t)
 |bytes (b t):Of fz (.bytes b) (.bytes b.toArray t)
 |ref (a):Of fz (.ref a) (.ref a)
 |val (v):Of fz (.val v) v
 |tup {xs vs a o n}:(a,o)∈fz->o.cls=.type "tuple"->o.data=.seq vs.toArray n->mL fz xs vs->Of fz (.tup xs) (.ref a)
 |lst {xs vs a o n}:(a,o)∈fz->o.cls=.type "list"->o.data=.seq vs.toArray n->mL fz xs vs->Of fz (.lst xs) (.ref a)
inductive mL(fz:Cells):List AV->List Value->Prop
 |nil:mL fz [] []
 |cons {x v xs vs}:Of fz x v->mL fz xs vs->mL fz (x::xs) (v::vs)
end
inductive NQ(fz:Cells)(x:AV)(xs:List AV):List Value->Prop
 |mk (v vs) (h:Of fz x v) (t:mL fz xs vs):NQ fz x xs (v::vs)
theorem mL.un{fz x xs vs}(h:mL fz (x::xs) vs):NQ fz x xs vs:=by cases h with|cons a b=>exact⟨_,_,a,b⟩
theorem mL.hd{fz x v xs vs}(h:mL fz (x::xs) (v::vs)):Of fz x v:=by obtain⟨_,_,h,t⟩:=h.un;exact h
theorem mL.tl{fz x v xs vs}(h:mL fz (x::xs) (v::vs)):mL fz xs vs:=by obtain⟨_,_,h,t⟩:=h.un;exact t
inductive NR{α:Type}:List α->Prop
 |mk (a):NR [a]
inductive NS{α:Type}:List α->Prop
 |mk (a b):NS [a,b]
inductive NT{α:Type}:List α->Prop
 |mk (a b c):NT [a,b,c]
inductive NU{α:Type}:List α->Prop
 |mk (a b c d):NU [a,b,c,d]
theorem q8{l:List α}(h:l.length=1):NR l:=by obtain⟨a,e⟩:=List.length_eq_one_iff.mp h;exact e▸⟨a⟩
theorem qn{l:List α}(h:l.length=2):NS l:=by
 cases l with
 |nil=>cases h
 |cons a l=>obtain⟨b⟩:=q8 (fu.inj h);exact⟨a,b⟩
theorem BO{l:List α}(h:l.length=3):NT l:=by
 cases l with
 |nil=>cases h
 |cons a l=>obtain⟨b,c⟩:=qn (fu.inj h);exact⟨a,b,c⟩
theorem E1{l:List α}(h:l.length=4):NU l:=by
 cases l with
 |nil=>cases h
 |cons a l=>obtain⟨b,c,d⟩:=BO (fu.inj h);exact⟨a,b,c,d⟩
theorem Of.mono(h:∀p∈fz,p∈m5){x v}(o:Of fz x v):Of m5 x v:=
 Of.rec (motive_1:=λx v _=>Of m5 x v) (motive_2:=λxs vs _=>mL m5 xs vs) .none .bool .int .str .bytes .ref .val (λm c d _ o=>.tup (h _ m) c d o) (λm c d _ o=>.lst (h _ m) c d o) .nil (λ_ _ a b=>.cons a b) o
theorem mL.ind{P:List AV->List Value->Prop}(n:P [] [])(c:∀{x v xs vs},Of fz x v->mL fz xs vs->P xs vs->P (x::xs) (v::vs)){xs vs}(o:mL fz xs vs):P xs vs:=
 mL.rec (motive_1:=λ_ _ _=>True) (motive_2:=λxs vs _=>P xs vs) trivial (λ_=>trivial) (λ_ _=>trivial) (λ_ _=>trivial) (λ_ _=>trivial) (λ_=>trivial) (λ_=>trivial) (λ_ _ _ _ _=>trivial) (λ_ _ _ _ _=>trivial) n (λa b _ p=>c a b p) o
theorem mL.mono(h:∀p∈fz,p∈m5){xs vs}(o:mL fz xs vs):mL m5 xs vs:=o.ind .nil λa _ b=>.cons (a.mono h) b
theorem mL.length{xs vs}(o:mL fz xs vs):xs.length=vs.length:=o.ind (P:=λxs vs=>xs.length=vs.length) rfl λ_ _ h=>congrArg fu h
theorem mL.get{xs vs}(o:mL fz xs vs):∀(i:Nat) x,xs[i]?=some x->∃v,vs[i]?=some v/\Of fz x v:=
 o.ind (P:=λxs vs=>∀(i:Nat) x,xs[i]?=some x->∃v,vs[i]?=some v/\Of fz x v) (λi x e=>nomatch i,e) λ{x v xs vs} a _ h i y e=>match i,e with
  |0,e=>⟨v,rfl,aE.inj e▸a⟩
  |i+1,e=>h i y e
theorem mL.acj{xs vs}(o:mL fz xs vs):∀(i:Nat) v,vs[i]?=some v->∃x,xs[i]?=some x/\Of fz x v:=
 o.ind (P:=λxs vs=>∀(i:Nat) v,vs[i]?=some v->∃x,xs[i]?=some x/\Of fz x v) (λi x e=>nomatch i,e) λ{x v xs vs} a _ h i y e=>match i,e with
  |0,e=>⟨x,rfl,aE.inj e▸a⟩
  |i+1,e=>h i y e
theorem mL.append{xs vs ys us}(o:mL fz xs vs)(p:mL fz ys us):mL fz (xs++ys) (vs++us):=o.ind (P:=λxs vs=>mL fz (xs++ys) (vs++us)) p λa _ b=>.cons a b
theorem mL.reverse{xs vs}(o:mL fz xs vs):mL fz xs.reverse vs.reverse:=o.ind (P:=λxs vs=>mL fz xs.reverse vs.reverse) .nil λa _ b=>by rw[g5,g5];exact b.append (.cons a .nil)
inductive Bt(fz:Cells)(xs ys:List AV):List Value->Prop
 |mk (v1 v2) (h:mL fz xs v1) (t:mL fz ys v2):Bt fz xs ys (v1++v2)
theorem mL.Ug{xs ys vs}(o:mL fz (xs++ys) vs):Bt fz xs ys vs:=by
 induction xs generalizing vs with
 |nil=>exact Bt.mk [] _ .nil o
 |cons x xs ih=>obtain⟨v,vs,a,b⟩:=mL.un o;obtain⟨v1,v2,h,t⟩:=ih b;exact Bt.mk (v::v1) v2 (.cons a h) t
theorem mL.split{xs ys vs}(o:mL fz (xs++ys) vs):∃v1 v2,vs=v1++v2/\mL fz xs v1/\mL fz ys v2:=by obtain⟨v1,v2,h,t⟩:=o.Ug;exact⟨v1,v2,rfl,h,t⟩
inductive At{α:Type}:List Str->List α->Str->α->Prop
 |here {x ns a l}:At (x::ns) (a::l) x a
 |there {x y ns a b l}:At ns l x a->At (y::ns) (b::l) x a
inductive oA{α:Type}:List Str->List α->Str->α->List α->Prop
 |here {x ns a l v}:oA (x::ns) (a::l) x v (v::l)
 |there {x y ns b l v l'}:oA ns l x v l'->oA (y::ns) (b::l) x v (b::l')
theorem At.t1{b0 a:α}{l:List α}:At (ya::x::ns) (b0::a::l) x a:=.there .here
theorem At.t2{b0 b1 a:α}{l:List α}:At (ya::yb::x::ns) (b0::b1::a::l) x a:=.there .t1
theorem At.t3{b0 b1 b2 a:α}{l:List α}:At (ya::yb::yc::x::ns) (b0::b1::b2::a::l) x a:=.there .t2
theorem At.t4{b0 b1 b2 b3 a:α}{l:List α}:At (ya::yb::yc::yd::x::ns) (b0::b1::b2::b3::a::l) x a:=.there .t3
theorem oA.t1{b0 a v:α}{l:List α}:oA (ya::x::ns) (b0::a::l) x v (b0::v::l):=.there .here
theorem oA.t2{b0 b1 a v:α}{l:List α}:oA (ya::yb::x::ns) (b0::b1::a::l) x v (b0::b1::v::l):=.there .t1
theorem oA.t3{b0 b1 b2 a v:α}{l:List α}:oA (ya::yb::yc::x::ns) (b0::b1::b2::a::l) x v (b0::b1::b2::v::l):=.there .t2
theorem oA.t4{b0 b1 b2 b3 a v:α}{l:List α}:oA (ya::yb::yc::yd::x::ns) (b0::b1::b2::b3::a::l) x v (b0::b1::b2::b3::v::l):=.there .t3
theorem m1{α:Type}{b0 a:α}{l:List α}:a∈b0::a::l:=.tail _ (.head _)
theorem m2{α:Type}{b0 b1 a:α}{l:List α}:a∈b0::b1::a::l:=.tail _ m1
theorem m3{α:Type}{b0 b1 b2 a:α}{l:List α}:a∈b0::b1::b2::a::l:=.tail _ m2
theorem At.mem{l:List α}{x a}(h:At ns l x a):x∈ns:=by
 induction h with
 |here=>exact .head _
 |there _ ih=>exact .tail _ ih
theorem oA.mem{l l':List α}{x a}(h:oA ns l x a l'):x∈ns:=by
 induction h with
 |here=>exact .head _
 |there _ ih=>exact .tail _ ih
inductive AtC{α:Type}(x:Str)(a:α)(ns:List Str)(l:List α)(y:Str)(b:α):Prop
 |here (e:x=y) (q:a=b)
 |there (h:At ns l y b)
theorem At.un{x a ns y b}{l:List α}(h:At (x::ns) (a::l) y b):AtC x a ns l y b:=by cases h with|here=>exact .here rfl rfl|there h=>exact .there h
theorem oA.at{l l':List α}{x v}(h:oA ns l x v l')(J:ns.Nodup):∀{y u},At ns l' y u->(y=x/\u=v)\/(y≠x/\At ns l y u):=by
 induction h with
 |here=>exactλk=>match k.un with
  |.here e q=>.inl ⟨e.symm,q.symm⟩
  |.there k=>.inr ⟨λe=>(bj.mp J).1 (e▸k.mem),.there k⟩
 |there p ih=>exactλk=>match k.un with
  |.here e q=>.inr ⟨λe'=>(bj.mp J).1 (e.trans e'▸p.mem),e▸q▸.here⟩
  |.there k=>(ih (bj.mp J).2 k).imp id λh=>⟨h.1,.there h.2⟩
inductive mH where
 |lst (a:aA) (xs:List AV)
 |ba (a:aA) (b:List UInt8)
 |ins (a:aA) (C:aA) (f:List (Str×AV))
 |mO (a:aA) (es:List (Int×AV))
 |nq (a:aA) (v:AV)
 |qU (a:aA)
 |nf (a:aA) (f:List (Str×AV))
 |fit (a:aA) (l:AV) (i:Nat)
 |oP (a:aA) (es:List (Int×AV)) (ep:Nat)
 |xd (a:aA) (f:List (Str×AV))
 |raw (a:aA) (o:Obj)
 |exc (a C:aA) (f:Option (List (Str×AV)))
 |is (a:aA) (P:Obj->Prop)
inductive ot(P:aM)(fz:Cells):List (Str×AV)->List DictEntry->Prop
 |nil:ot P fz [] []
 |cons {x av t v f es}:Of fz av v->ot P fz f es->ot P fz ((x,av)::f) (⟨cq P x,.str x t,v⟩::es)
inductive nS(fz:Cells):List (Int×AV)->List (Int×Value)->Prop
 |nil:nS fz [] []
 |cons {i av v f es}:Of fz av v->nS fz f es->nS fz ((i,av)::f) ((i,v)::es)
theorem ot.mono(h:∀p∈fz,p∈m5){f es}(e:ot P fz f es):ot P m5 f es:=e.rec .nil λa _ b=>.cons (a.mono h) b
theorem nS.mono(h:∀p∈fz,p∈m5){f es}(e:nS fz f es):nS m5 f es:=e.rec .nil λa _ b=>.cons (a.mono h) b
inductive te(fz:Cells)(m:Str->Option Value):List (Str×AV)->Prop
 |nil:te fz m []
 |cons {x av v f}:m x=some v->Of fz av v->te fz m f->te fz m ((x,av)::f)
theorem te.mono(h:∀p∈fz,p∈m5){f}(k:te fz m f):te m5 m f:=k.rec .nil λe a _ b=>.cons e (a.mono h) b
noncomputable def M5(o:Obj)(m:Str->Option Value):Prop:=∃es ep,o.data=.dict es ep/\StrKeys es/\∀x,nsFind es x=m x
inductive DL(fz:Cells)(a:aA)(xs:List AV):Cells->Prop
 |mk (vs n) (o:mL fz xs vs):DL fz a xs [(a,⟨.type "list",Option.none,.seq vs.toArray n,#[]⟩)]
inductive Ek(a:aA)(b:List UInt8):Cells->Prop
 |mk (sl):Ek a b [(a,⟨.type "bytearray",none,.bytearray b.toArray 0,sl⟩)]
inductive DM(P:aM)(fz:Cells)(a C:aA)(f:List (Str×AV)):Cells->Prop
 |mk (d es n) (e:ot P fz f es) (nd:(f.map (λO=>O.1)).Nodup):DM P fz a C f [(a,eK C d),(d,cX es n)]
inductive DN(fz:Cells)(a:aA)(f:List (Int×AV)):Cells->Prop
 |mk (kvs o) (i:nS fz f kvs) (h:∀(prog:Program) (w:cL),o.IsDictOf (cf prog w) kvs) (q:(a==eA)=false):DN fz a f [(a,o)]
inductive DO(fz:Cells)(a:aA)(x:AV):Cells->Prop
 |mk (o v) (h:o.data=.cell (some v)) (k:Of fz x v):DO fz a x [(a,o)]
inductive DP(fz:Cells)(a:aA)(f:List (Str×AV)):Cells->Prop
 |mk (o m) (h:M5 o m) (k:te fz m f):DP fz a f [(a,o)]
inductive DQ(fz:Cells)(a:aA)(l:AV)(i:Nat):Cells->Prop
 |mk (o v) (h:o.cls=.type "list_iterator") (d:o.data=.fields #[v,.int i 0]) (k:Of fz l v):DQ fz a l i [(a,o)]
inductive Dj(fz:Cells)(a:aA)(f:List (Int×AV))(ep:Nat):Cells->Prop
 |mk (kvs o es) (i:nS fz f kvs) (h:∀(prog:Program) (w:cL),o.IsDictOf (cf prog w) kvs) (q:(a==eA)=false) (d:o.data=.dict es ep):Dj fz a f ep [(a,o)]
inductive El(P:aM)(fz:Cells)(a:aA)(f:List (Str×AV)):Cells->Prop
 |mk (es n) (e:ot P fz f es) (nd:(f.map (λO=>O.1)).Nodup):El P fz a f [(a,cX es n)]
inductive yC(a:aA)(p:Obj->Prop):Cells->Prop
 |mk (o) (h:p o):yC a p [(a,o)]
inductive Dk(a C:aA):Cells->Prop
 |mk (t):Dk a C [(a,⟨.ref C,Option.none,.fields #[.ref t,.none,.none,.none,.bool false,.none],#[]⟩)]
inductive Dm(P:aM)(fz:Cells)(a C:aA)(f:List (Str×AV)):Cells->Prop
 |mk (d t es n) (e:ot P fz f es) (nd:(f.map (λO=>O.1)).Nodup):Dm P fz a C f [(a,⟨.ref C,some d,.fields #[.ref t,.none,.none,.none,.bool false,.none],#[]⟩),(d,cX es n)]
def Cl(P:aM)(fz:Cells)(x:mH):Cells->Prop:=
 x.casesOn (DL fz) Ek (DM P fz) (DN fz) (DO fz) (λa=>yC a λo=>o.data=.cell Option.none) (DP fz) (DQ fz) (Dj fz) (El P fz) (λa o c=>c=[(a,o)])
  (λa C f=>f.casesOn (Dk a C) (Dm P fz a C)) yC
section
variable {P:aM}{fz:Cells}{a C d t:aA}
theorem Cl.lst{xs vs n}(o:mL fz xs vs):Cl P fz (.lst a xs) [(a,⟨.type "list",Option.none,.seq vs.toArray n,#[]⟩)]:=DL.mk _ _ o
theorem Cl.ba{b sl}:Cl P fz (.ba a b) [(a,⟨.type "bytearray",none,.bytearray b.toArray 0,sl⟩)]:=Ek.mk _
theorem Cl.ins{f es n}(e:ot P fz f es)(h:(f.map (λO=>O.1)).Nodup):Cl P fz (.ins a C f) [(a,eK C d),(d,cX es n)]:=DM.mk _ _ _ e h
theorem Cl.mO{f kvs o}(e:nS fz f kvs)(h:∀(prog:Program) (w:cL),o.IsDictOf (cf prog w) kvs)(q:(a==eA)=false):Cl P fz (.mO a f) [(a,o)]:=DN.mk _ _ e h q
theorem Cl.nq{o x v}(h:o.data=.cell (some v))(k:Of fz x v):Cl P fz (.nq a x) [(a,o)]:=DO.mk _ _ h k
theorem Cl.qU{o}(h:o.data=.cell Option.none):Cl P fz (.qU a) [(a,o)]:=yC.mk _ h
theorem Cl.nf{o m f}(h:M5 o m)(k:te fz m f):Cl P fz (.nf a f) [(a,o)]:=DP.mk _ _ h k
theorem Cl.fit{o v l}{i:Nat}(h:o.cls=.type "list_iterator")(q:o.data=.fields #[v,.int i 0])(k:Of fz l v):Cl P fz (.fit a l i) [(a,o)]:=DQ.mk _ _ h q k
theorem Cl.oP{f kvs o es ep}(e:nS fz f kvs)(h:∀(prog:Program) (w:cL),o.IsDictOf (cf prog w) kvs)(q:(a==eA)=false)(k:o.data=.dict es ep):Cl P fz (.oP a f ep) [(a,o)]:=Dj.mk _ _ _ e h q k
theorem Cl.xd{f es n}(e:ot P fz f es)(h:(f.map (λO=>O.1)).Nodup):Cl P fz (.xd a f) [(a,cX es n)]:=El.mk _ _ e h
theorem Cl.is{o}{p:Obj->Prop}(h:p o):Cl P fz (.is a p) [(a,o)]:=yC.mk _ h
theorem Cl.M6:Cl P fz (.exc a C Option.none) [(a,⟨.ref C,Option.none,.fields #[.ref t,.none,.none,.none,.bool false,.none],#[]⟩)]:=Dk.mk _
theorem Cl.Em{f es n}(e:ot P fz f es)(h:(f.map (λO=>O.1)).Nodup):Cl P fz (.exc a C (some f)) [(a,⟨.ref C,some d,.fields #[.ref t,.none,.none,.none,.bool false,.none],#[]⟩),(d,cX es n)]:=Dm.mk _ _ _ _ e h
end
theorem Cl.mono(h:∀p∈fz,p∈m5){x c}:Cl P fz x c->Cl P m5 x c:=
 x.casesOn (λ_ _ k9=>by obtain⟨_,_,o⟩:=k9;exact⟨_,_,o.mono h⟩) (λ_ _ k=>k) (λ_ _ _ k9=>by obtain⟨_,_,_,e,n⟩:=k9;exact⟨_,_,_,e.mono h,n⟩) (λ_ _ k9=>by obtain⟨_,_,e,n,q⟩:=k9;exact⟨_,_,e.mono h,n,q⟩) (λ_ _ k9=>by obtain⟨_,_,a,o⟩:=k9;exact⟨_,_,a,o.mono h⟩) (λ_ k=>k)
  (λ_ _ k9=>by obtain⟨_,_,a,o⟩:=k9;exact⟨_,_,a,o.mono h⟩) (λ_ _ _ k9=>by obtain⟨_,_,a,b,o⟩:=k9;exact⟨_,_,a,b,o.mono h⟩) (λ_ _ _ k9=>by obtain⟨_,_,_,e,n,q,d⟩:=k9;exact⟨_,_,_,e.mono h,n,q,d⟩) (λ_ _ k9=>by obtain⟨_,_,e,n⟩:=k9;exact⟨_,_,e.mono h,n⟩) (λ_ _ k=>k)
  (λ_ _ f=>f.casesOn (λk=>k) (λ_ k9=>by obtain⟨_,_,_,_,e,n⟩:=k9;exact⟨_,_,_,_,e.mono h,n⟩)) (λ_ _ k=>k)
inductive Sat(P:aM)(fz:Cells):List mH->Cells->Prop
 |nil {o}:Sat P fz [] o
 |cons {x l c o}:Cl P fz x c->Sat P fz l o->Sat P fz (x::l) (c++o)
theorem Sat.mono(h:∀p∈fz,p∈m5){x c}(k:Sat P fz x c):Sat P m5 x c:=k.rec .nil λa _ b=>.cons (a.mono h) b
inductive Rep(x y:mH):List mH->List mH->Prop
 |head {l}:Rep x y (x::l) (y::l)
 |tail {z l l'}:Rep x y l l'->Rep x y (z::l) (z::l')
inductive nt(x:mH):List mH->List mH->Prop
 |head {l}:nt x (x::l) l
 |tail {z l l'}:nt x l l'->nt x (z::l) (z::l')
theorem nt.t1:nt a (b0::a::l) (b0::l):=.tail .head
theorem nt.t2:nt a (b0::b1::a::l) (b0::b1::l):=.tail .t1
inductive yD(P:aM)(fz:Cells)(x y:mH)(l':List mH):Cells->Prop
 |mk (pre c post) (k:Cl P fz x c) (r:∀m5 c',(∀p∈fz,p∈m5)->Cl P m5 y c'->Sat P m5 l' (pre++(c'++post))):yD P fz x y l' (pre++(c++post))
inductive yE(P:aM)(fz:Cells)(x:mH)(l':List mH):Cells->Prop
 |mk (pre c post) (k:Cl P fz x c) (r:∀m5,(∀p∈fz,p∈m5)->Sat P m5 l' (pre++post)):yE P fz x l' (pre++(c++post))
inductive M7(P:aM)(fz:Cells)(x:mH)(l:List mH):Cells->Prop
 |mk (c o) (k:Cl P fz x c) (r:Sat P fz l o):M7 P fz x l (c++o)
theorem Sat.un{o}(S:Sat P fz (x::l) o):M7 P fz x l o:=by cases S with|cons a b=>exact⟨_,_,a,b⟩
theorem Sat.rep(R:Rep x y l l'){o}(S:Sat P fz l o):yD P fz x y l' o:=
 R.rec (motive:=λl l' _=>∀{o},Sat P fz l o->yD P fz x y l' o) (λS=>let⟨_,_,a,b⟩:=S.un;yD.mk [] _ _ a λ_ c' h k=>(Sat.cons k (b.mono h):Sat P _ _ (c'++_)))
  (λ_ ih _ S=>let⟨c0,_,a,b⟩:=S.un;by obtain⟨pre,c,post,k,r⟩:=ih b;exact(aj c0 pre (c++post))▸yD.mk (c0++pre) c post k λm5 c' h k'=>(aj c0 pre (c'++post)).symm▸.cons (a.mono h) (r m5 c' h k')) S
theorem Sat.del(R:nt x l l'){o}(S:Sat P fz l o):yE P fz x l' o:=
 R.rec (motive:=λl l' _=>∀{o},Sat P fz l o->yE P fz x l' o) (λS=>let⟨_,_,a,b⟩:=S.un;yE.mk [] _ _ a λ_ h=>b.mono h)
  (λ_ ih _ S=>let⟨c0,_,a,b⟩:=S.un;by obtain⟨pre,c,post,k,r⟩:=ih b;exact(aj c0 pre (c++post))▸yE.mk (c0++pre) c post k λm5 h=>(aj c0 pre post).symm▸.cons (a.mono h) (r m5 h)) S
theorem Sat.ack(R:Rep x y l l'){o}(S:Sat P fz l o):∃pre c post,o=pre++(c++post)/\Cl P fz x c/\
  ∀m5 c',(∀p∈fz,p∈m5)->Cl P m5 y c'->Sat P m5 l' (pre++(c'++post)):=by obtain⟨pre,c,post,k,r⟩:=S.rep R;exact⟨pre,c,post,rfl,k,r⟩
theorem Rep.refl:∀{l:List mH},x∈l->Rep x x l l:=λ{l} h=>h.rec (motive:=λl _=>Rep x x l l) (λ_=>.head) (λ_ {_} _ ih=>.tail ih)
structure Sg where
 lo:List (Option AV)
 as:List mH
noncomputable abbrev Sg.on(σ:Sg)(fr:List mH):Sg:=⟨σ.lo,σ.as++fr⟩
theorem Rep.on(R:Rep x y l l')(fr:List mH):Rep x y (l++fr) (l'++fr):=by
 induction R with
 |head=>exact .head
 |tail _ ih=>exact .tail ih
theorem nt.on(R:nt x l l')(fr:List mH):nt x (l++fr) (l'++fr):=by
 induction R with
 |head=>exact .head
 |tail _ ih=>exact .tail ih
structure Cx where
 nd:Bool
 w:cL
 A₀:Around
 base:bb
 outer:List Env
 h₀:bb
 L:aA
 env:Env
 ns:List Str
 r:ai
 fe:Env
 cm:Bool
noncomputable abbrev Cx.M(c:Cx):Model:=aX PW c.w
noncomputable abbrev Cx.A(c:Cx):Around:=c.A₀.deeper c.fe
noncomputable def p8(r s:ai):Prop:=s.gens=r.gens/\s.drawn=r.drawn/\s.os=r.os
noncomputable def uD(fz:Cells)(ns:List Str)(lo:List (Option AV))(m:Str->Option Value):Prop:=∀x av,At ns lo x (some av)->∃v,m x=some v/\Of fz av v
structure sk(c:Cx)(σ:Sg)(xs:List AV)(vs:List Value)(s:ai)(m:Str->Option Value)(own fz:Cells):Prop where
 F:Fr c.h₀ c.L s.heap m
 lo:uD fz c.ns σ.lo m
 N:j_ c.h₀ c.L s.heap (own++fz)
 nd:((own++fz).map (λO=>O.1)).Nodup
 sat:Sat c.w.params fz σ.as own
 st:mL fz xs vs
 same:p8 c.r s
noncomputable def nN(c:Cx)(σ:Sg)(xs:List AV)(vs:List Value)(s:ai):Prop:=∃m own fz,sk c σ xs vs s m own fz
theorem nN.tok{vs:List Value}{s:ai}(S:nN c σ xs vs s)(t:Nat):nN c σ xs vs {s with toks:=t}:=
 by obtain⟨m,own,fz,I⟩:=S;exact⟨m,own,fz,I.F,I.lo,I.N,I.nd,I.sat,I.st,I.same⟩
theorem nN.push{xs vs}{s:ai}{x:AV}{v:Value}(S:nN c σ xs vs s)(h:∀fz,Of fz x v):nN c σ (x::xs) (v::vs) s:=
 let⟨m,own,fz,I⟩:=S;⟨m,own,fz,I.F,I.lo,I.N,I.nd,I.sat,.cons (h fz) I.st,I.same⟩
theorem nN.hand{xs vs xs' vs'}{s:ai}(S:nN c σ xs vs s)(h:∀fz,mL fz xs vs->mL fz xs' vs'):nN c σ xs' vs' s:=
 let⟨m,own,fz,I⟩:=S;⟨m,own,fz,I.F,I.lo,I.N,I.nd,I.sat,h fz I.st,I.same⟩
theorem nN.pop{xs vs}{s:ai}{x:AV}{v:Value}(S:nN c σ (x::xs) (v::vs) s):nN c σ xs vs s:=S.hand λO h=>h.tl
theorem nN.of{xs vs}{s:ai}{x:AV}{v:Value}(S:nN c σ (x::xs) (v::vs) s):∃fz,Of fz x v:=by obtain⟨_,_,fz,I⟩:=S;exact⟨fz,I.st.hd⟩
theorem RU{α:Type}(a b c d:List α):((a++(b++c))++d).Perm (b++(a++(c++d))):=by rw[aj,aj];exact iU _ _ _
theorem nN.at{lo as as' xs vs}{s:ai}{x y:mH}(S:nN c ⟨lo,as⟩ xs vs s)(R:Rep x y as as'):
  ∃m fz cl,Fr c.h₀ c.L s.heap m/\Cl c.w.params fz x cl/\(∀p∈cl,s.heap.get? p.1=some p.2)/\mL fz xs vs/\(cl.map (λO=>O.1)).Nodup/\(∀p∈cl,p.1≠c.L/\c.h₀.get? p.1=none)/\(∀p∈fz,s.heap.get? p.1=some p.2)/\
   ∀s' nZ xs' vs',Cl c.w.params fz y nZ->nZ.map (λO=>O.1)=cl.map (λO=>O.1)->(∀p∈nZ,s'.heap.get? p.1=some p.2)->(∀b,b∉cl.map (λO=>O.1)->∀o,s.heap.get? b=some o->s'.heap.get? b=some o)->p8 s s'->mL fz xs' vs'->
    nN c ⟨lo,as'⟩ xs' vs' s':=by
 refine cps λV V'=>?_;obtain⟨m,own,fz,I⟩:=S;refine V' ?_;refine cps λV V'=>?_;obtain⟨pre,cl,post,e,k,r⟩:=I.sat.ack R;refine V' ?_;subst e;have P:=λcl:Cells=>RU pre cl post fz;have N:=λp hp=>I.N p ((P cl).mem_iff.mpr hp);have NV:=((P cl).map λO=>O.1).nodup I.nd;have nd:=cG.mp (au (l₁:=cl)▸NV);have nj:∀b∈cl.map (λO=>O.1),b≠c.L/\c.h₀.get? b=none:=λb hb=>by obtain⟨p,hp,q⟩:=aG.mp hb;exact q▸(N p (ax _ hp)).2
 refine⟨m,fz,cl,I.F,k,λp hp=>(N p (ax _ hp)).1,I.st,nd.1,λp hp=>(N p (ax _ hp)).2,λp hp=>(N p (aS _ (aS _ (aS _ hp)))).1,λs' nZ xs' vs' k' e' h' ho hs mI=>?_⟩;refine⟨m,pre++(nZ++post),fz,⟨I.F.ns.at' λo q=>ho _ (λhm=>(nj _ hm).1 rfl) o q,λb o q=>ho b (λhm=>nomatch (nj b hm).2.symm.trans q) o (I.F.keep b o q),I.F.above⟩,I.lo,λp hp=>?_,
  ((P nZ).map λO=>O.1).nodup_iff.mpr ?_,r fz nZ (λO h=>h) k',mI,⟨hs.1.trans I.same.1,hs.2.1.trans I.same.2.1,hs.2.2.trans I.same.2.2⟩⟩
 ·exact(aH.mp ((P nZ).mem_iff.mp hp)).elim (λhp=>⟨h' p hp,nj _ (e'▸aZ hp)⟩)
   λhp=>have z:=N p (aS _ hp);⟨ho _ (λhm=>nd.2.2 _ hm _ (aZ hp) rfl) _ z.1,z.2⟩
 ·rw[au,e',<-au];exact NV
theorem sk.grow{lo as xs vs}{s:ai}{m own fz}(I:sk c ⟨lo,as⟩ xs vs s m own fz){y:mH}{new:Cells}{h':bb}{tk:Nat}{xs' vs'}(F':Fr c.h₀ c.L h' m)(N':j_ c.h₀ c.L h' (new++(own++fz)))
  (nd:(new.map (λO=>O.1)).Nodup)(ap:∀p∈new,∀q∈own++fz,p.1≠q.1)(k:Cl c.w.params fz y new)(st:mL fz xs' vs'):nN c ⟨lo,y::as⟩ xs' vs' {s with heap:=h',toks:=tk}:=by
 refine⟨m,new++own,fz,F',I.lo,by rw[aj];exact N',?_,.cons k I.sat,st,I.same⟩;rw[aj,au,cG];refine⟨nd,I.nd,λa ha b hb e=>?_⟩;obtain⟨p,hp,rfl⟩:=aG.mp ha;obtain⟨q,hq,rfl⟩:=aG.mp hb;exact ap p hp q hq e
theorem sk.UT{σ xs vs}{s:ai}{m own fz}(I:sk c σ xs vs s m own fz){new:Cells}{h':bb}{tk:Nat}{xs' vs'}(F':Fr c.h₀ c.L h' m)(N':j_ c.h₀ c.L h' (new++(own++fz)))
  (nd:(new.map (λO=>O.1)).Nodup)(ap:∀p∈new,∀q∈own++fz,p.1≠q.1)(st:mL (new++fz) xs' vs'):nN c σ xs' vs' {s with heap:=h',toks:=tk}:=by
 have fq:∀p∈fz,p∈new++fz:=λp hp=>aS _ hp;refine⟨m,own,new++fz,F',λx av h=>by obtain⟨v,a,b⟩:=I.lo x av h;exact⟨v,a,b.mono fq⟩,λp hp=>N' p ?_,?_,I.sat.mono fq,st,I.same⟩
 ·simp only[aH]at hp ⊢;rcases hp with h|h|h
  ·exact .inr (.inl h)
  ·exact .inl h
  ·exact .inr (.inr h)
 ·have h:=I.nd;simp only[au,cG,aH]at h ⊢;refine⟨h.1,⟨nd,h.2.1,λa ha b hb e=>?_⟩,λa ha b hb e=>?_⟩
  ·obtain⟨p,hp,rfl⟩:=aG.mp ha;obtain⟨q,hq,rfl⟩:=aG.mp hb;exact ap p hp q (aS _ hq) e
  ·rcases hb with hb|hb
   ·obtain⟨p,hp,rfl⟩:=aG.mp ha;obtain⟨q,hq,rfl⟩:=aG.mp hb;exact ap q hq p (ax _ hp) e.symm
   ·exact h.2.2 a ha b hb e
theorem sk.lt{σ xs vs}{s:ai}{m own fz}(I:sk c σ xs vs s m own fz):∀q∈own++fz,q.1<s.heap.objs.size:=λq hq=>a_ (I.N q hq).1
theorem nN.alloc{lo as xs vs}{s:ai}(S:nN c ⟨lo,as⟩ xs vs s){y:mH}{o:Obj}{xs' vs'}{tk:Nat}(hf:o.isFreed=false)(k:∀fz,mL fz xs vs->Cl c.w.params fz y [(s.heap.objs.size,o)]/\mL fz xs' vs'):
  nN c ⟨lo,y::as⟩ xs' vs' {s with heap:=s.heap.push o,toks:=tk}:=by
 refine S.elim λm w9=>w9.elim λown w9=>w9.elim λfz I=>?_;refine I.grow (I.F.push o) (j_.push I.F I.N o hf) (by simp) (λp hp q hq e=>?_) (k fz I.st).1 (k fz I.st).2;simp only[ao]at hp;subst hp;exact cb _ (e▸I.lt q hq)
theorem nN.Dn{σ xs vs}{s:ai}(S:nN c σ xs vs s){o:Obj}{xs' vs'}{tk:Nat}(hf:o.isFreed=false)(k:∀fz,mL fz xs vs->mL ((s.heap.objs.size,o)::fz) xs' vs'):
  nN c σ xs' vs' {s with heap:=s.heap.push o,toks:=tk}:=by
 refine S.elim λm w9=>w9.elim λown w9=>w9.elim λfz I=>?_;refine I.UT (new:=[(s.heap.objs.size,o)]) (I.F.push o) (j_.push I.F I.N o hf) (by simp) (λp hp q hq e=>?_) (k fz I.st);simp only[ao]at hp;subst hp;exact cb _ (e▸I.lt q hq)
theorem nN.keeps{σ xs vs}{s:ai}(S:nN c σ xs vs s){h':bb}{t:Nat}(k:∀b o,s.heap.get? b=some o->h'.get? b=some o):nN c σ xs vs {s with heap:=h',toks:=t}:=by refine S.elim λm w9=>w9.elim λown w9=>w9.elim λfz I=>?_;exact⟨m,own,fz,⟨I.F.ns.at' λo q=>k _ o q,λb o q=>k b o (I.F.keep b o q),I.F.above⟩,I.lo,λp hp=>⟨k _ _ (I.N p hp).1,(I.N p hp).2⟩,I.nd,I.sat,I.st,I.same⟩
structure Ok(c:Cx)(d:Nat):Prop where
 Xb:(KK c.w.params).In c.base
 Gb:∃mg mb,c.base.Ns az mg/\c.base.Ns fM mb/\∀x:Str,x≠"__name__"->mb x=fG x
 uQ:c.base.NoLimit
 B:mq c.A₀ c.base c.outer c.h₀
 hh:c.A₀.handled=none
 lc:c.cm=false->c.env.locals=c.L
 ee:c.cm=false->c.env=c.fe
 fr:c.fe.frame=some c.L
 kf:c.fe.scope.kind=.function
 kd:c.env.scope.kind=.function
 gl:c.env.globals=az
 bl:c.env.builtins=fM
 nd:c.ns.Nodup
 loc:c.cm=false->∀n∈c.ns,c.env.kindOf n=some .local/\(n==("__debug__":Str))=false
 dep:c.A₀.depth+4*d<=900
 un:c.A₀.units+40*d<=9000
theorem Ok.X(ok:Ok c d):(KK c.w.params).In c.h₀:=ok.Xb.keeps ok.B.stays
theorem Ok.G(ok:Ok c d):∃mg mb,c.h₀.Ns az mg/\c.h₀.Ns fM mb/\∀x:Str,x≠"__name__"->mb x=fG x:=
 by obtain⟨mg,mb,a,b,e⟩:=ok.Gb;exact⟨mg,mb,a.keeps ok.B.stays,b.keeps ok.B.stays,e⟩
theorem Ok.nl(ok:Ok c d):c.h₀.NoLimit:=ok.uQ.keeps ok.B.stays
noncomputable def pW(c:Cx)(g:bb):Prop:=g.objs.size=c.h₀.objs.size/\(∀b,b∉c.outer.filterMap (λO=>O.frame)->g.get? b=c.h₀.get? b)/\∀b∈c.outer.filterMap (λO=>O.frame),∀o,c.h₀.get? b=some o->∃sl,g.get? b=some {o with slots:=sl}
noncomputable abbrev Cx.on(c:Cx)(g:bb):Cx:={c with h₀:=g}
theorem pW.refl:pW c c.h₀:=⟨rfl,λO O=>rfl,λb O o e=>⟨o.slots,e⟩⟩
theorem pW.up(h:pW c g):∀b o,c.h₀.get? b=some o->∃sl,g.get? b=some {o with slots:=sl}:=λb o e=>by
 by_cases hb:b∈c.outer.filterMap (λO=>O.frame)
 ·exact h.2.2 b hb o e
 ·exact⟨o.slots,(h.2.1 b hb).trans e⟩
theorem Ok.on(ok:Ok c d)(h:pW c g):Ok (c.on g) d:=by
 refine⟨ok.Xb,ok.Gb,ok.uQ,⟨ok.B.stack,λb o e=>?_,ok.B.frames.of_keeps λb o e O=>?_⟩,ok.hh,ok.lc,ok.ee,ok.fr,ok.kf,ok.kd,ok.gl,ok.bl,ok.nd,ok.loc,ok.dep,ok.un⟩
 ·rw[h.2.1 b λhb=>by rw[(ok.B.frames.mem hb).1]at e;cases e];exact ok.B.stays b o e
 ·obtain⟨sl,e'⟩:=h.up b o e;exact⟨_,e',rfl⟩
noncomputable def St(c:Cx)(σ:Sg)(xs:List AV)(vs:List Value)(s:ai):Prop:=∃g,pW c g/\nN (c.on g) σ xs vs s
noncomputable def Uh(c:Cx)(lo:List (Option AV))(y:mH)(as':List mH)(fz cl:Cells)(s:ai):Prop:=
 ∀s' nZ xs' vs',Cl c.w.params fz y nZ->nZ.map (λO=>O.1)=cl.map (λO=>O.1)->(∀p∈nZ,s'.heap.get? p.1=some p.2)->(∀b,b∉cl.map (λO=>O.1)->∀o,s.heap.get? b=some o->s'.heap.get? b=some o)->p8 s s'->mL fz xs' vs'->St c ⟨lo,as'⟩ xs' vs' s'
inductive acm(c:Cx)(lo:List (Option AV))(x y:mH)(as':List mH)(xs:List AV)(vs:List Value)(s:ai):Prop
 |mk (g₁ m) (fz cl:Cells) (hg:pW c g₁) (F:Fr g₁ c.L s.heap m) (K:Cl c.w.params fz x cl) (gt:∀p∈cl,s.heap.get? p.1=some p.2) (mI:mL fz xs vs) (nd:(cl.map (λO=>O.1)).Nodup) (nw:∀p∈cl,p.1≠c.L/\g₁.get? p.1=none) (xp:∀p∈fz,s.heap.get? p.1=some p.2) (back:Uh c lo y as' fz cl s)
section
variable {c:Cx}{σ:Sg}{xs:List AV}{vs:List Value}{s:ai}
theorem St.tok(S:St c σ xs vs s)(t:Nat):St c σ xs vs {s with toks:=t}:=by obtain⟨g,hg,S⟩:=S;exact⟨g,hg,S.tok t⟩
theorem St.push(S:St c σ xs vs s)(h:∀fz,Of fz x v):St c σ (x::xs) (v::vs) s:=let⟨g,hg,S⟩:=S;⟨g,hg,S.push h⟩
theorem St.hand{xs' vs'}(S:St c σ xs vs s)(h:∀fz,mL fz xs vs->mL fz xs' vs'):St c σ xs' vs' s:=let⟨g,hg,S⟩:=S;⟨g,hg,S.hand h⟩
theorem St.pop(S:St c σ (x::xs) (v::vs) s):St c σ xs vs s:=by obtain⟨g,hg,S⟩:=S;exact⟨g,hg,S.pop⟩
theorem St.of(S:St c σ (x::xs) (v::vs) s):∃fz,Of fz x v:=by obtain⟨_,_,S⟩:=S;exact S.of
theorem St.at{lo as as'}{x y:mH}(S:St c ⟨lo,as⟩ xs vs s)(R:Rep x y as as'):acm c lo x y as' xs vs s:=by refine cps λV V'=>?_;refine S.elim λg w9=>w9.elim λhg S=>?_;refine(S.at R).elim λm w9=>w9.elim λfz w9=>w9.elim λcl w9=>w9.elim λh1 w9=>w9.elim λh2 w9=>w9.elim λh3 w9=>w9.elim λh4 w9=>w9.elim λh5 w9=>w9.elim λh6 w9=>w9.elim λh7 h8=>?_;refine V' ?_;exact⟨g,m,fz,cl,hg,h1,h2,h3,h4,h5,h6,h7,λs' nZ xs' vs' a1 a2 a3 a4 a5 a6=>⟨g,hg,h8 s' nZ xs' vs' a1 a2 a3 a4 a5 a6⟩⟩
theorem St.alloc{lo as}(S:St c ⟨lo,as⟩ xs vs s){y:mH}{o:Obj}{xs' vs'}{tk:Nat}(hf:o.isFreed=false)(k:∀fz,mL fz xs vs->Cl c.w.params fz y [(s.heap.objs.size,o)]/\mL fz xs' vs'):
  St c ⟨lo,y::as⟩ xs' vs' {s with heap:=s.heap.push o,toks:=tk}:=by obtain⟨g,hg,S⟩:=S;exact⟨g,hg,S.alloc hf k⟩
theorem St.Dn(S:St c σ xs vs s){xs' vs'}{tk:Nat}(hf:o.isFreed=false)(k:∀fz,mL fz xs vs->mL ((s.heap.objs.size,o)::fz) xs' vs'):
  St c σ xs' vs' {s with heap:=s.heap.push o,toks:=tk}:=let⟨g,hg,S⟩:=S;⟨g,hg,S.Dn hf k⟩
theorem St.keeps(S:St c σ xs vs s)(k:∀b o,s.heap.get? b=some o->h'.get? b=some o):St c σ xs vs {s with heap:=h',toks:=t}:=let⟨g,hg,S⟩:=S;⟨g,hg,S.keeps k⟩
end
structure Ex where
 go:List mH->List AV->List Value->Value->ai->Prop
 hand:∀fr xs vs xs' vs' e s,(∀fz,mL fz xs vs->mL fz xs' vs')->go fr xs vs e s->go fr xs' vs' e s
inductive Got(c:Cx)(fr:List mH)(xs:List AV)(vs:List Value)(Q:AV->Sg->Prop)(v:Value)(s:ai):Prop
 |mk (x) (mF:Sg) (S:St c (mF.on fr) (x::xs) (v::vs) s) (q:Q x mF)
@[irreducible] def WE(c:Cx)(E:Ex)(σ:Sg)(t:fH Value)(Q:AV->Sg->Prop):Prop:=
 ∀fr xs vs s,St c (σ.on fr) xs vs s->W c.nd c.M c.A t (Got c fr xs vs Q) (E.go fr xs vs) s
theorem WE.go(self:WE c E σ t Q):∀fr xs vs s,St c (σ.on fr) xs vs s->W c.nd c.M c.A t (Got c fr xs vs Q) (E.go fr xs vs) s:=by with_unfolding_all exact self
@[irreducible] def Ev(c:Cx)(σ:Sg)(e:cI)(x:AV):Prop:=
 ∀E fr xs vs s (Q:Value->ai->Prop),St c (σ.on fr) xs vs s->(∀v s',St c (σ.on fr) (x::xs) (v::vs) s'->Q v s')->W c.nd c.M c.A (aT e c.env) Q E s
theorem Ev.go(self:Ev c σ e x):∀E fr xs vs s (Q:Value->ai->Prop),St c (σ.on fr) xs vs s->(∀v s',St c (σ.on fr) (x::xs) (v::vs) s'->Q v s')->W c.nd c.M c.A (aT e c.env) Q E s:=by with_unfolding_all exact self
@[irreducible] def mQ(c:Cx)(σ:Sg)(x y:AV)(t:Value->Value->fH Value)(z:AV):Prop:=
 ∀E fr xs vs va vb s (Q:Value->ai->Prop),St c (σ.on fr) (y::x::xs) (vb::va::vs) s->(∀v s',St c (σ.on fr) (z::xs) (v::vs) s'->Q v s')->W c.nd c.M c.A (t va vb) Q E s
theorem mQ.go(self:mQ c σ x y t z):∀E fr xs vs va vb s (Q:Value->ai->Prop),St c (σ.on fr) (y::x::xs) (vb::va::vs) s->(∀v s',St c (σ.on fr) (z::xs) (v::vs) s'->Q v s')->W c.nd c.M c.A (t va vb) Q E s:=by with_unfolding_all exact self
@[irreducible] def Op(c:Cx)(E:Ex)(σ:Sg)(ys:List AV)(t:List Value->fH Value)(Q:AV->Sg->Prop):Prop:=
 ∀fr xs vs us s,St c (σ.on fr) (ys++xs) (us++vs) s->us.length=ys.length->W c.nd c.M c.A (t us) (Got c fr xs vs Q) (E.go fr xs vs) s
theorem Op.go(self:Op c E σ ys t Q):∀fr xs vs us s,St c (σ.on fr) (ys++xs) (us++vs) s->us.length=ys.length->W c.nd c.M c.A (t us) (Got c fr xs vs Q) (E.go fr xs vs) s:=by with_unfolding_all exact self
@[irreducible] def Tr(c:Cx)(σ:Sg)(e:cI)(b:Bool):Prop:=
 ∀E fr xs vs s (Q:Bool->ai->Prop),St c (σ.on fr) xs vs s->(∀s',St c (σ.on fr) xs vs s'->Q b s')->W c.nd c.M c.A (cY e c.env (aT e c.env)) Q E s
theorem Tr.go(self:Tr c σ e b):∀E fr xs vs s (Q:Bool->ai->Prop),St c (σ.on fr) xs vs s->(∀s',St c (σ.on fr) xs vs s'->Q b s')->W c.nd c.M c.A (cY e c.env (aT e c.env)) Q E s:=by with_unfolding_all exact self
theorem WE.mono(h:WE c E σ t Q)(k:∀x mF,Q x mF->Q' x mF):WE c E σ t Q':=by
 intro fr xs vs s S;with_reducible refine W.mono (h.go fr xs vs s S) ?_ ?_
 ·rintro v s' ⟨x,mF,a,b⟩;exact⟨x,mF,a,k x mF b⟩
 ·intro _ _ e;exact e
theorem Ev.we(h:Ev c σ e x)(k:Q x σ):WE c E σ (aT e c.env) Q:=by intro fr xs vs s S;exact h.go (E.go fr xs vs) fr xs vs s _ S λv s' S'=>⟨x,σ,S',k⟩
theorem WE.run{fr xs vs s}{Q:Value->ai->Prop}(h:WE c E σ t P)(S:St c (σ.on fr) xs vs s)(k:∀x mF v s',P x mF->St c (mF.on fr) (x::xs) (v::vs) s'->Q v s'):W c.nd c.M c.A t Q (E.go fr xs vs) s:=by
 with_reducible refine W.mono (h.go fr xs vs s S) ?_ ?_
 ·rintro v s' ⟨x,mF,a,b⟩;exact k x mF v s' b a
 ·intro _ _ e;exact e
end
section
variable {c:Cx}{σ:Sg}{d:Nat}{E:Ex}
theorem Of.int_inv(h:Of fz (.int i) v):∃t,v=.int i t:=by cases h;exact⟨_,rfl⟩
theorem Of.bool_inv(h:Of fz (.bool b) v):v=.bool b:=by cases h;rfl
theorem Of.none_inv(h:Of fz .none v):v=.none:=by cases h;rfl
theorem Of.str_inv(h:Of fz (.str x) v):∃t,v=.str ⟨x.toArray⟩ t:=by cases h;exact⟨_,rfl⟩
theorem Of.qR(h:Of fz (.bytes x) v):∃t,v=.bytes x.toArray t:=by cases h;exact⟨_,rfl⟩
theorem Of.mV(h:Of fz (.ref a) v):v=.ref a:=by cases h;rfl
theorem Of.val_inv(h:Of fz (.val u) v):v=u:=by cases h;rfl
theorem Ev.name(ok:Ok c d)(hc:c.cm=false)(h:At c.ns σ.lo x (some av)):Ev c σ (.Name x pos) av:=by intro E fr xs vs s Q S k;refine cps λV V'=>?_;refine S.elim λg₁ w9=>w9.elim λhg w9=>w9.elim λm w9=>w9.elim λown w9=>w9.elim λfz I=>?_;refine V' ?_;refine(I.lo x av h).elim λv w9=>w9.elim λhv ho=>?_;refine(ok.loc hc x h.mem).elim λhl hd=>?_;have F:=I.F.ns;rw[<-ok.lc hc]at F;have S':St c (σ.on fr) (av::xs) (v::vs) s:=⟨g₁,hg,m,own,fz,I.F,I.lo,I.N,I.nd,I.sat,.cons ho I.st,I.same⟩;with_reducible exact W.of (jC (gL ok.kd hl F hv (k v s S')) hd)
theorem Ev.int:Ev c σ (.Constant (.int i) k pos) (.int i):=by intro E fr xs vs s Q S q;with_reducible exact W.of (lq (q _ _ ((S.push λfz=>.int i _).tok _)))
theorem Ev.str:Ev c σ (.Constant (.str x) k pos) (.str x.cps.toList):=by
 intro E fr xs vs s Q S q;with_reducible refine W.of (Constant_str (q _ _ ((S.push λfz=>?_).tok _)))
 simpa using Of.str (fz:=fz) x.cps.toList s.toks
theorem Ev.bytes:Ev c σ (.Constant (.bytes x) k pos) (.bytes x):=by intro E fr xs vs s Q S q;with_reducible exact W.of (Constant_bytes (q _ _ ((S.push λfz=>.bytes x _).tok _)))
theorem Ev.none:Ev c σ (.Constant .none k pos) .none:=by intro E fr xs vs s Q S q;exactλO O O O=>q _ _ (S.push λfz=>.none)
theorem Ev.bool:Ev c σ (.Constant (.bool b) k pos) (.bool b):=by intro E fr xs vs s Q S q;exactλO O O O=>q _ _ (S.push λfz=>.bool b)
theorem Ev.glob(ok:Ok c d)(e:cN (KK c.w.params) az x=some (some v))(o:∀fz,Of fz av v)(hx:c.env.kindOf x=some .globalImplicit)
  (hd:autoParam ((x==("__debug__":Str))=false) aD):Ev c σ (.Name x pos) av:=by
 intro E fr xs vs s Q S k;refine cps λV V'=>?_;refine(id S).elim λg₁ w9=>w9.elim λhg w9=>w9.elim λm w9=>w9.elim λown w9=>w9.elim λfz I=>?_;refine V' ?_;have ok:=ok.on hg;refine cps λV V'=>?_;refine ok.G.elim λmg w9=>w9.elim λmb w9=>w9.elim λg w9=>w9.elim λb O=>?_;refine V' ?_;have g':=g.keeps I.F.keep;rw[<-ok.gl]at g';with_reducible exact W.of (gU ok.kd hx (lJ g' (mg_of ok.X g e) (k v s (S.push o))) hd)
theorem Ev.builtin(ok:Ok c d)(e:cN (KK c.w.params) az x=some Option.none)(hv:fG x=some v)(hx:c.env.kindOf x=some .globalImplicit)(J:autoParam (x≠"__name__") aD)
  (hd:autoParam ((x==("__debug__":Str))=false) aD):Ev c σ (.Name x pos) (.val v):=by
 intro E fr xs vs s Q S k;refine cps λV V'=>?_;refine(id S).elim λg₁ w9=>w9.elim λhg w9=>w9.elim λm w9=>w9.elim λown w9=>w9.elim λfz I=>?_;refine V' ?_;have ok:=ok.on hg;refine cps λV V'=>?_;refine ok.G.elim λmg w9=>w9.elim λmb w9=>w9.elim λg w9=>w9.elim λb hb=>?_;refine V' ?_;have g':=g.keeps I.F.keep;have b':=b.keeps I.F.keep;rw[<-ok.gl]at g';rw[<-ok.bl]at b';with_reducible exact W.of (gU ok.kd hx (loadGlobal_builtin g' (mg_none_of ok.X g e) b' ((hb x J).trans hv) (k v s (S.push λO=>.val v))) hd)
theorem Ev.binop(hl:Ev c σ l x)(hr:Ev c σ r y)(h:mQ c σ x y (cV op) z):Ev c σ (.BinOp l op r pos) z:=by intro E fr xs vs s Q S k;with_reducible exact W.BinOp (hl.go _ _ _ _ _ _ S λva O S1=>hr.go _ _ _ _ _ _ S1 λvb O S2=>h.go E fr xs vs va vb _ Q S2 k)
theorem Ev.cmp(hl:Ev c σ l x)(hr:Ev c σ r y)(h:mQ c σ x y (bY op) z)(hm:autoParam (dU op r=false) aR):Ev c σ (.Compare l [op] [r] pos) z:=by intro E fr xs vs s Q S k;with_reducible exact W.I1 (hl.go _ _ _ _ _ _ S λva O S1=>hr.go _ _ _ _ _ _ S1 λvb O S2=>h.go E fr xs vs va vb _ Q S2 k) hm
theorem St.two{xs vs va vb s}{x y:AV}{σ:Sg}(S:St c σ (y::x::xs) (vb::va::vs) s):∃fz,Of fz x va/\Of fz y vb:=by
 refine S.elim λg₁ w9=>w9.elim λhg w9=>w9.elim λm w9=>w9.elim λown w9=>w9.elim λfz I=>?_;cases I.st with
 |cons a b=>have b':=b.hd;exact⟨fz,b',a⟩
theorem mQ.ints(h:∀ta tb E s (Q:Value->ai->Prop),(∀v t',(∀fz,Of fz z v)->Q v {s with toks:=t'})->aJ c.M c.A (t (.int a ta) (.int b tb)) Q E s):mQ c σ (.int a) (.int b) t z:=by intro E fr xs vs va vb s Q S k;obtain⟨fz,oa,ob⟩:=S.two;obtain⟨ta,rfl⟩:=oa.int_inv;obtain⟨tb,rfl⟩:=ob.int_inv;exact W.of (h ta tb E s Q λv t' o=>k v _ ((S.pop.pop.push o).tok t'))
theorem mQ.add:mQ c σ (.int a) (.int b) (cV .Add) (.int (a+b)):=by refine .ints ?_;intro _ _ _ s Q k;with_reducible exact add_int (k _ _ λfz=>.int _ _)
theorem mQ.sub:mQ c σ (.int a) (.int b) (cV .Sub) (.int (a-b)):=by refine .ints ?_;intro _ _ _ s Q k;with_reducible exact sub_int (k _ _ λfz=>.int _ _)
theorem mQ.mod(hb:b≠0):mQ c σ (.int a) (.int b) (cV .Mod) (.int (a.fmod b)):=by refine .ints ?_;intro _ _ _ s Q k;with_reducible exact mod_int hb (k _ _ λfz=>.int _ _)
theorem mQ.mul(hm:IntMulOk a b):mQ c σ (.int a) (.int b) (cV .Mult) (.int (a*b)):=by refine .ints ?_;intro _ _ _ s Q k;with_reducible exact mul_int (k _ _ λfz=>.int _ _) hm
theorem mQ.div(hb:b≠0)(hp:aB.divisionGoesByPylong a b=false):mQ c σ (.int a) (.int b) (cV .FloorDiv) (.int (a.fdiv b)):=by refine .ints ?_;intro _ _ _ s Q k;with_reducible exact floordiv_int hb (k _ _ λfz=>.int _ _) (.inl hp)
theorem mQ.and:mQ c σ (.int a) (.int b) (cV .BitAnd) (.int (aB.bitAnd a b)):=by refine .ints ?_;intro _ _ _ s Q k;with_reducible exact and_int (k _ _ λfz=>.int _ _)
theorem mQ.or:mQ c σ (.int a) (.int b) (cV .BitOr) (.int (aB.bitOr a b)):=by refine .ints ?_;intro _ _ _ s Q k;with_reducible exact or_int (k _ _ λfz=>.int _ _)
theorem mQ.shl(h0:0<=b)(h1:b<=1000000)(ha:a.natAbs<2^64):mQ c σ (.int a) (.int b) (cV .LShift) (.int (a*2^b.toNat)):=by refine .ints ?_;intro _ _ _ s Q k;with_reducible exact lshift_int_small h0 h1 ha (k _ _ λfz=>.int _ _)
theorem mQ.shr(h0:0<=b):mQ c σ (.int a) (.int b) (cV .RShift) (.int (a.fdiv (2^b.toNat))):=by refine .ints ?_;intro _ _ _ s Q k;with_reducible exact rshift_int h0 (k _ _ λfz=>.int _ _)
theorem mQ.pow(h0:0<=b)(h1:(aB.Int.intBits a:Int)*b<=2^27):mQ c σ (.int a) (.int b) (cV .Pow) (.int (a^b.toNat)):=by refine .ints ?_;intro _ _ _ s Q k;with_reducible exact pow_int h0 h1 (k _ _ λfz=>.int _ _)
theorem mQ.eq:mQ c σ (.int a) (.int b) (bY .Eq) (.bool (decide (a=b))):=by refine .ints ?_;intro _ _ _ s Q k;with_reducible exact eq_int (k _ _ λfz=>.bool _)
theorem mQ.ne:mQ c σ (.int a) (.int b) (bY .NotEq) (.bool (decide (a≠b))):=by
 refine .ints ?_;intro _ _ _ s Q k;with_reducible exact ne_int (k _ _ λfz=>by
 have:decide (a≠b)=(a !=b):=by by_cases h:a=b<;>simp[h]
 rw[this];exact .bool _)
theorem mQ.lt:mQ c σ (.int a) (.int b) (bY .Lt) (.bool (decide (a<b))):=by refine .ints ?_;intro _ _ _ s Q k;with_reducible exact lt_int (k _ _ λfz=>.bool _)
theorem mQ.le:mQ c σ (.int a) (.int b) (bY .LtE) (.bool (decide (a<=b))):=by refine .ints ?_;intro _ _ _ s Q k;with_reducible exact le_int (k _ _ λfz=>.bool _)
theorem mQ.gt:mQ c σ (.int a) (.int b) (bY .Gt) (.bool (decide (b<a))):=by refine .ints ?_;intro _ _ _ s Q k;with_reducible exact gt_int (k _ _ λfz=>.bool _)
theorem mQ.ge:mQ c σ (.int a) (.int b) (bY .GtE) (.bool (decide (b<=a))):=by refine .ints ?_;intro _ _ _ s Q k;with_reducible exact ge_int (k _ _ λfz=>.bool _)
theorem Tr.cmp(hl:Ev c σ l x)(hr:Ev c σ r y)(h:mQ c σ x y (bY op) (.bool b))(hm:autoParam (dU op r=false) aR):Tr c σ (.Compare l [op] [r] pos) b:=by
 intro E fr xs vs s Q S k
 with_reducible refine W.CN (hl.go _ _ _ _ _ _ S λva O S1=>hr.go _ _ _ _ _ _ S1 λvb O S2=>h.go E fr xs vs va vb _ _ S2 λv s' S'=>?_) hm
 refine S'.of.elim λfz o=>?_
 rw[o.bool_inv]
 with_reducible exact W.of (dh (k s' S'.pop))
theorem Tr.not(h:Tr c σ e b):Tr c σ (.UnaryOp .Not e pos) (!b):=by intro E fr xs vs s Q S k;with_reducible exact W.M3 (h.go E fr xs vs s _ S k)
theorem Tr.s7:Tr c σ (.BoolOp .And [] pos) true:=by intro E fr xs vs s Q S k;with_reducible exact W.of (isTrue_and_nil (k s S))
theorem Tr.t6:Tr c σ (.BoolOp .Or [] pos) false:=by intro E fr xs vs s Q S k;with_reducible exact W.of (isTrue_or_nil (k s S))
theorem Tr.and(h:Tr c σ e b)(h':b=true->Tr c σ (.BoolOp .And r pos) b'):Tr c σ (.BoolOp .And (e::r) pos) (b&&b'):=by
 intro E fr xs vs s Q S k
 with_reducible refine W.M4 (h.go E fr xs vs s _ S λs' S'=>?_)
 cases b with
 |false=>exact k s' S'
 |true=>
  have:=(h' rfl).go E fr xs vs s' Q S' k
  cases r<;>exact this
theorem Tr.or(h:Tr c σ e b)(h':b=false->Tr c σ (.BoolOp .Or r pos) b'):Tr c σ (.BoolOp .Or (e::r) pos) (b||b'):=by
 intro E fr xs vs s Q S k
 with_reducible refine W.tOr (h.go E fr xs vs s _ S λs' S'=>?_)
 cases b with
 |true=>exact k s' S'
 |false=>
  have:=(h' rfl).go E fr xs vs s' Q S' k
  cases r<;>exact this
theorem Tr.plain(h:Ev c σ e (.bool b))(he:∀env whole,cY e env whole=(do let v <-whole;dN e.pos;cE [v] (h_ v)):=by intros;rfl):Tr c σ e b:=by
 intro E fr xs vs s Q S k
 with_reducible refine W.Kl (h.go _ _ _ _ _ _ S λv s' S'=>?_) (he _ _)
 refine S'.of.elim λfz o=>?_
 rw[o.bool_inv]
 with_reducible exact W.of (dh (k s' S'.pop))
theorem Ev.ite(ht:Tr c σ t g)(ha:g=true->Ev c σ a x)(hb:g=false->Ev c σ b y):Ev c σ (.IfExp t a b pos) (if g then x else y):=by
 intro E fr xs vs s Q S k
 with_reducible refine W.IfExp (ht.go E fr xs vs s _ S λs' S'=>?_)
 cases g with
 |true=>exact(ha rfl).go _ _ _ _ _ _ S' k
 |false=>exact(hb rfl).go _ _ _ _ _ _ S' k
end
section
variable {c:Cx}{σ:Sg}{d:Nat}{E:Ex}
theorem Im{x y:Str}{t:Tok}:(Value.str y t).isStr x=(y==x):=rfl
theorem ot.keys{P:aM}{fz:Cells}{f es}(h:ot P fz f es):es.any (λO=>O.refKey)=false:=h.rec (motive:=λ_ es _=>es.any (λO=>O.refKey)=false) rfl λ_ _ ih=>ih
theorem ot.find{P:aM}{fz:Cells}{x:Str}{av:AV}{f es}(h:ot P fz f es):(f.map (λO=>O.1)).Nodup->(x,av)∈f->∃en,es.find? (λO=>O.key.isStr x)=some en/\Of fz av en.val:=by
 induction h with
 |nil=>exactλnd hm=>nomatch hm
 | @cons y av' t v' f' BP o e ih=>
  exactλnd hm=>(aL.mp hm).elim (λq=>by cases q;exact⟨_,jv (p:=λO:DictEntry=>O.key.isStr x) (beq_self_eq_true x),o⟩) λhm=>(ih (bj.mp nd).2 hm).elim λen g=>
   ⟨en,(fW (by exactλ(q:(y==x)=true)=>(bj.mp nd).1 (aG.mpr ⟨_,hm,(eq_of_beq q).symm⟩))).trans g.1,g.2⟩
theorem ot.get{P:aM}{fz:Cells}{x:Str}{av:AV}{f es}(h:ot P fz f es)(nd:(f.map (λO=>O.1)).Nodup)(hm:(x,av)∈f):∃v,lx x es=some (some v)/\Of fz av v:=
 (h.find nd hm).elim λen g=>⟨en.val,by unfold lx;rw[g.1],g.2⟩
theorem ot.miss{P:aM}{fz:Cells}{x:Str}{f es}(h:ot P fz f es)(hx:x∉f.map (λO=>O.1)):lx x es=some none:=by
 have q:es.find? (λO=>O.key.isStr x)=none:=by
  induction h with
  |nil=>rfl
  | @cons y av' t v' f' BP o e ih=>exact(fW (by exactλ(q:(y==x)=true)=>hx (eq_of_beq q▸.head _))).trans (ih λk=>hx (.tail _ k))
 unfold lx;rw[q];exact if_neg (by rw[h.keys];exact bI)
noncomputable def attrOk(K:Frag)(C:aA)(x:Str):Bool:=kM K C x&&jZ K C&&cg K (.ref C) x==some none
theorem PD{K:Frag}{C:aA}{x:Str}(h:attrOk K C x=true):kM K C x=true/\jZ K C=true/\cg K (.ref C) x=some none:=
 have h:=aV.mp h;have g:=aV.mp h.1;⟨g.1,g.2,eq_of_beq h.2⟩
noncomputable def AV.plain:AV->Bool
 |.val _=>false
 |_=>true
theorem Of.handed{fz:Cells}{x:AV}{v:Value}(h:Of fz x v)(hp:x.plain=true):mc v=true:=by cases h<;>first|rfl|cases hp
theorem p8.refl{s:ai}:p8 s s:=⟨rfl,rfl,rfl⟩
set_option tactic.hygienic true in
theorem St.attr{σ:Sg}{E:Value->ai->Prop}{xs vs s}{a C:aA}{f:List (Str×AV)}{x:Str}{av:AV}{v:Value}{expr:Bool}{Q:Value->ai->Prop}(ok:Ok c d)(S:St c σ (.ref a::xs) (v::vs) s)(hm:.ins a C f∈σ.as)(ha:attrOk (KK c.w.params) C x=true)(hf:(x,av)∈f)(hp:av.plain=true)
  (k:∀v' s',St c σ (av::xs) (v'::vs) s'->Q v' s'):aJ c.M c.A (jt v x expr) Q E s:=by
 refine cps λV V'=>?_;refine S.of.elim λfz o=>?_;obtain rfl:=o.mV;refine(PD ha).elim λh1 w9=>w9.elim λh2 h3=>?_;obtain⟨g₁,m,fz,cl,hg,F,K,g,mI,_,_,_,back⟩:=S.at (Rep.refl hm);obtain⟨dx,es,n,e,nd⟩:=K;refine(e.get nd hf).elim λu w9=>w9.elim λhu ho=>?_;refine V' ?_;have I:cQ s.heap a (eK C dx) C (some (cX es n)):=⟨g _ (.head _),rfl,rfl,g _ (.tail _ (.head _))⟩;have S':St c σ (av::xs) (u::vs) {s with toks:=s.toks+1}:=by
  refine back _ _ _ _ (.ins e nd) rfl g (λO O O q=>q) p8.refl ?_;cases mI with
  |cons _ r=>exact .cons ho r
 with_reducible exact get_own F (ok.on hg).X I h1 h2 h3 rfl hu (ho.handed hp) (k _ _ S')
theorem Ev.attr{e:cI}{x:Str}{pos:iA}{a C:aA}{f:List (Str×AV)}{av:AV}(ok:Ok c d)(h:Ev c σ e (.ref a))(hm:.ins a C f∈σ.as)(hf:(x,av)∈f)(ha:attrOk (KK c.w.params) C x=true)(hp:autoParam (av.plain=true) aR)
  (he:∀env,aT (.Attribute e x pos) env=(do
   let o <-aT e env
   dN pos.atName
   let r <-cE [o] (jt o x true)
   gM e o r
   pure r):=by intro _;with_unfolding_all rfl):Ev c σ (.Attribute e x pos) av:=by
 intro E fr xs vs s Q S k;with_reducible exact W.Attribute (h.go _ _ _ _ _ _ S λv s' S'=>S'.attr ok (ax _ hm) ha hf hp k) (he c.env)
end
section
variable {c:Cx}{σ:Sg}{d:Nat}{E:Ex}
inductive Out where
 |next|brk|cont|ret (v:AV)
noncomputable def Fin(c:Cx)(xs:List AV)(vs:List Value)(f:gd)(s:ai)(σ:Sg):Out->Prop
 |.next=>f=.next/\St c σ xs vs s
 |.brk=>f=.brk/\St c σ xs vs s
 |.cont=>f=.cont/\St c σ xs vs s
 |.ret x=>∃v,f=.ret v/\St c σ (x::xs) (v::vs) s
inductive rD(c:Cx)(fr:List mH)(xs:List AV)(vs:List Value)(Q:Out->Sg->Prop)(f:gd)(s:ai):Prop
 |mk (o) (mF:Sg) (S:Fin c xs vs f s (mF.on fr) o) (q:Q o mF)
@[irreducible] def WS(c:Cx)(E:Ex)(σ:Sg)(t:fH gd)(Q:Out->Sg->Prop):Prop:=
 ∀fr xs vs s,St c (σ.on fr) xs vs s->W c.nd c.M c.A t (rD c fr xs vs Q) (E.go fr xs vs) s
theorem WS.go(self:WS c E σ t Q):∀fr xs vs s,St c (σ.on fr) xs vs s->W c.nd c.M c.A t (rD c fr xs vs Q) (E.go fr xs vs) s:=by with_unfolding_all exact self
theorem WS.nil(h:Q .next σ):WS c E σ (aO [] c.env) Q:=by intro fr xs vs s S;exact W.of (fk ⟨.next,σ,⟨rfl,S⟩,h⟩)
noncomputable def rE(c:Cx)(E:Ex)(rest:List Stmt)(Q:Out->Sg->Prop):Out->Sg->Prop
 |.next,σ=>WS c E σ (aO rest c.env) Q
 |o,σ=>Q o σ
theorem WS.cons{st:Stmt}(h:WS c E σ (jQ st c.env) (rE c E rest Q)):WS c E σ (aO (st::rest) c.env) Q:=by
 intro fr xs vs s S;with_reducible refine W.stmts (W.mono (h.go fr xs vs s S) ?_ ?_)
 ·rintro f s' ⟨o,mF,a,b⟩;cases o with
  |next=>obtain⟨rfl,S'⟩:=a;exact b.go fr xs vs s' S'
  |brk=>obtain⟨rfl,S'⟩:=a;exact⟨.brk,mF,⟨rfl,S'⟩,b⟩
  |cont=>obtain⟨rfl,S'⟩:=a;exact⟨.cont,mF,⟨rfl,S'⟩,b⟩
  |ret x=>obtain⟨v,rfl,S'⟩:=a;exact⟨.ret x,mF,⟨v,rfl,S'⟩,b⟩
 ·intro _ _ e;exact e
theorem WS.ret(h:WE c E σ (aT e c.env) λx mF=>Q (.ret x) mF):WS c E σ (aO (.Return (some e) p::rest) c.env) Q:=by
 refine .cons ?_
 intro fr xs vs s S
 with_reducible refine W.Return (h.run S ?_)
 intro x mF v s' q S'
 exact⟨.ret x,mF,⟨v,rfl,S'⟩,q⟩
theorem WS.qy(ht:Tr c σ t g)(ha:g=true->WS c E σ (aO a c.env) (rE c E rest Q))(hb:g=false->WS c E σ (aO b c.env) (rE c E rest Q)):
  WS c E σ (aO (.If t a b p::rest) c.env) Q:=by
 refine .cons ?_
 intro fr xs vs s S
 with_reducible refine W.If (ht.go _ fr xs vs s _ S λs' S'=>?_)
 cases g with
 |true=>exact(ha rfl).go fr xs vs s' S'
 |false=>exact(hb rfl).go fr xs vs s' S'
theorem WS.n3(ht:Tr c σ t g)(ha:g=true->WS c E σ (aO a c.env) (rE c E rest Q))(hb:g=false->WS c E σ (aO rest c.env) Q):
  WS c E σ (aO (.If t a [] p::rest) c.env) Q:=.qy ht ha λh=>.nil (hb h)
theorem notCls(h:c.env.scope.kind=.function):(c.env.scope.kind==.class||(c.env.scope.kind==.module&&c.env.locals !=c.env.globals))=false:=by rw[h];rw[(by decide:(jr==ScopeKind.class)=false),(by decide:(jr==ScopeKind.module)=false)];rfl
theorem uD.put{fz ns lo m6 m}{x:Str}{av:AV}{v:Value}(J:ns.Nodup)(h:uD fz ns lo m)(P:oA ns lo x (some av) m6)(o:Of fz av v):uD fz ns m6 (λy=>if y=x then some v else m y):=by
 intro y bv k;rcases P.at J k with⟨rfl,e⟩|⟨ne,k⟩
 ·cases e;exact⟨v,if_pos rfl,o⟩
 ·obtain⟨u,a,b⟩:=h y bv k;exact⟨u,by dsimp only;rw[if_neg ne];exact a,b⟩
theorem St.store{E:Value->ai->Prop}{lo m6 as xs vs}{s:ai}{x:Str}{av:AV}{v:Value}{Q:Unit->ai->Prop}(ok:Ok c d)(hc:c.cm=false)(S:St c ⟨lo,as⟩ (av::xs) (v::vs) s)(P:oA c.ns lo x (some av) m6)
  (k:∀s',St c ⟨m6,as⟩ xs vs s'->Q () s'):aJ c.M c.A (i8 c.env x v) Q E s:=by
 refine S.elim λg₁ w9=>w9.elim λhg w9=>w9.elim λm w9=>w9.elim λown w9=>w9.elim λfz I=>?_
 have F:=I.F
 rw[<-ok.lc hc]at F
 with_reducible refine eT (ok.loc hc x P.mem).1 F.ns (λh' n' sb=>?_) (notCls ok.kd)
 refine k _ ⟨g₁,hg,_,own,fz,?_,I.lo.put ok.nd P (by cases I.st;assumption),?_,I.nd,I.sat,by cases I.st;assumption,I.same⟩
 ·exact I.F.set (by rw[ok.lc hc]at n';exact n') (by rw[ok.lc hc]at sb;exact sb)
 ·exact I.N.set (by rw[ok.lc hc]at sb;exact sb)
inductive vl(c:Cx)(E:Ex)(ns:List Str)(x:Str)(rest:List Stmt)(Q:Out->Sg->Prop)(av:AV)(mF:Sg):Prop
 |mk (m6) (p:oA ns mF.lo x (some av) m6) (w:WS c E ⟨m6,mF.as⟩ (aO rest c.env) Q)
theorem WS.set(ok:Ok c d)(hc:c.cm=false)(h:WE c E σ (aT e c.env) (vl c E c.ns x rest Q))
  (hs:autoParam (cn e (some (.Name x p')) p.line c.env=pure false) aR):WS c E σ (aO (.Assign [.Name x p'] e p::rest) c.env) Q:=by
 refine .cons ?_
 intro fr xs vs s S
 with_reducible refine W.HN (h.run S ?_) hs
 intro av mF v s' ⟨m6,P,w⟩ S'
 refine S'.store ok hc P λph y_=>?_
 exact⟨.next,⟨m6,mF.as⟩,⟨rfl,y_⟩,w⟩
theorem WS.acn(ok:Ok c d)(hc:c.cm=false)(h:Ev c σ e av)(P:oA c.ns σ.lo x (some av) m6)(w:WS c E ⟨m6,σ.as⟩ (aO rest c.env) Q)
  (hs:autoParam (cn e (some (.Name x p')) p.line c.env=pure false) aR):WS c E σ (aO (.Assign [.Name x p'] e p::rest) c.env) Q:=
 .set ok hc (h.we ⟨m6,P,w⟩) hs
theorem WS.expr(h:WE c E σ (aT e c.env) λav mF=>av=.none/\WS c E mF (aO rest c.env) Q)(hi:autoParam (jh c.env=false) aR)
  (hs:autoParam (cn e Option.none p.line c.env=pure false) aR):WS c E σ (aO (.Expr e p::rest) c.env) Q:=by
 refine .cons ?_
 intro fr xs vs s S
 with_reducible refine W.Ld (h.run S ?_) hi hs
 rintro av mF v s' ⟨rfl,w⟩ S'
 obtain⟨fz,o⟩:=S'.of
 obtain rfl:=o.none_inv
 exact⟨.next,mF,⟨rfl,S'.pop⟩,w⟩
inductive ry(ns:List Str):List cI->List AV->List (Option AV)->List (Option AV)->Prop
 |nil {lo}:ry ns [] [] lo lo
 |cons {x p es av nH lo lo1 t7}:oA ns lo x (some av) lo1->ry ns es nH lo1 t7->ry ns (.Name x p::es) (av::nH) lo t7
theorem ae:ip (.Name x p::es) env=(false,gP (.Name x p) env)::ip es env:=rfl
theorem ry.length{es nH lo m6}(h:ry ns es nH lo m6){env:Env}:(ip es env).length=nH.length:=by
 induction h with
 |nil=>rfl
 |cons _ _ ih=>exact congrArg fu ih
theorem ry.star{es nH lo m6}(h:ry ns es nH lo m6){env:Env}:(ip es env).findIdx? (λO=>O.1)=Option.none:=by
 induction h with
 |nil=>rfl
 |cons _ _ ih=>rw[ae,List.findIdx?_cons,ih];rfl
theorem St.names{E:Value->ai->Prop}{as}(ok:Ok c d)(hc:c.cm=false){es nH lo m6}(h:ry c.ns es nH lo m6):∀{xs vs us s}{Q:Unit->ai->Prop},St c ⟨lo,as⟩ (nH++xs) (us++vs) s->us.length=nH.length->(∀s',St c ⟨m6,as⟩ xs vs s'->Q () s')->
  aJ c.M c.A (dW ((ip es c.env).map (λO=>O.2)) us) Q E s:=by
 induction h with
 |nil=>
  intro xs vs us s Q S hl k
  cases us with
  |nil=>exact ak (k s S)
  |cons _ _=>cases hl
 |cons P _ ih=>
  intro xs vs us s Q S hl k
  cases us with
  |nil=>cases hl
  |cons u us=>
   show aJ _ _ (do cE us (gP _ _ u);dW _ us) _ _ _
   refine ag (bN ?_)
   with_reducible refine cx (S.store ok hc P λs' S'=>?_)
   exact ih S' (fu.inj hl) k
set_option tactic.hygienic true in
theorem St.vp{xs vs s}{nH:List AV}{v:Value}{σ:Sg}(S:St c σ (.tup nH::xs) (v::vs) s):∃a us,v=.ref a/\IsTup s.heap a us.toArray/\us.length=nH.length/\St c σ (nH++xs) (us++vs) s:=by
 refine cps λV V'=>?_;obtain⟨g₁,hg,m,own,fz,I⟩:=S;refine V' ?_;cases I.st with
 |cons o r=>
  cases o with
  |tup hm hc hd ho=>
   rename_i us a ob n
   exact⟨a,us,rfl,⟨ob,(I.N _ (aS _ hm)).1,hc,n,hd⟩,ho.length.symm,g₁,hg,m,own,fz,I.F,I.lo,I.N,I.nd,I.sat,ho.append r,I.same⟩
theorem qh(ok:Ok c d):c.A.handled=Option.none:=ok.hh
inductive JM(c:Cx)(E:Ex)(ns:List Str)(es:List cI)(rest:List Stmt)(Q:Out->Sg->Prop)(av:AV)(mF:Sg):Prop
 |mk (nH m6) (h:av=.tup nH) (n:ry ns es nH mF.lo m6) (w:WS c E ⟨m6,mF.as⟩ (aO rest c.env) Q)
theorem WS.vp(ok:Ok c d)(hc:c.cm=false)(h:WE c E σ (aT e c.env) (JM c E c.ns es rest Q))
  (hs:autoParam (fX [.Tuple es k tp] e p.line c.env=pure false) aR)(hw:autoParam (fY [.Tuple es k tp] e c.env=pure Option.none) aR):WS c E σ (aO (.Assign [.Tuple es k tp] e p::rest) c.env) Q:=by
 refine .cons ?_
 intro fr xs vs s S
 with_reducible refine W.P5 (h.run S ?_) hs hw
 rintro av mF v s' ⟨nH,m6,rfl,N,w⟩ S'
 refine cps λV V'=>?_
 obtain⟨a,us,rfl,ht,hl,S2⟩:=S'.vp
 refine V' ?_
 with_reducible refine il (qh ok) ht (by rw[N.length];simp[hl]) N.star λh' hx=>?_
 refine St.names ok hc N (S2.keeps (h':=h') (t:=s'.toks) λb o q=>hx b o (bC (a_ q)) q) hl λph y_=>?_
 exact⟨.next,⟨m6,mF.as⟩,⟨rfl,y_⟩,w⟩
end
section
variable {c:Cx}{σ:Sg}{d:Nat}{E:Ex}
inductive Eo(c:Cx)(fr:List mH)(xs:List AV)(vs:List Value)(Q:List AV->Sg->Prop)(us:List Value)(s:ai):Prop
 |mk (ys) (mF:Sg) (S:St c (mF.on fr) (ys++xs) (us++vs) s) (hl:us.length=ys.length) (q:Q ys mF)
@[irreducible] def WA(c:Cx)(E:Ex)(σ:Sg)(es:List cI)(Q:List AV->Sg->Prop):Prop:=
 ∀pos fr xs vs s,St c (σ.on fr) xs vs s->W c.nd c.M c.A (lD (cM pos (aU es c.env))) (Eo c fr xs vs Q) (E.go fr xs vs) s
theorem WA.go(self:WA c E σ es Q):∀pos fr xs vs s,St c (σ.on fr) xs vs s->W c.nd c.M c.A (lD (cM pos (aU es c.env))) (Eo c fr xs vs Q) (E.go fr xs vs) s:=by with_unfolding_all exact self
theorem WA.nil(h:Q [] σ):WA c E σ [] Q:=by
 intro pos fr xs vs s S
 show W _ _ _ (lD []) _ _ _
 with_reducible refine W.of (spliced_nil ?_)
 exact⟨[],σ,S,rfl,h⟩
theorem mL.oi{xs ys us vs}(o:mL fz (xs++ys) (us++vs))(h:us.length=xs.length):mL fz xs us/\mL fz ys vs:=by obtain⟨v1,v2,e,o1,o2⟩:=o.split;refine(List.append_inj e.symm (by rw[<-o1.length,h])).elim λe9 e8=>?_;subst e9;subst e8;exact⟨o1,o2⟩
theorem WA.cons(h:WE c E σ (aT e c.env) λy mF=>WA c E mF es λys mT=>Q (y::ys) mT)
  (he:autoParam (∀env,aU (e::es) env=(false,aT e env)::aU es env) aI):WA c E σ (e::es) Q:=by
 intro pos fr xs vs s S
 rw[he]
 show W _ _ _ (lD ((false,aT e c.env)::cM pos (aU es c.env))) _ _ _
 with_reducible refine W.Km (h.run S ?_)
 intro y mF v s' w S'
 with_reducible refine W.mono (w.go pos fr _ _ _ S') ?_ ?_
 rotate_left
 ·exactλe s' k=>E.hand _ _ _ _ _ _ _ (λfz o=>o.tl) k
 ·rintro us s2 ⟨ys,mT,S2,hl,q⟩
  exact⟨y::ys,mT,S2.hand λfz o=>.cons (o.oi hl).2.hd ((o.oi hl).1.append (o.oi hl).2.tl),congrArg fu hl,q⟩
theorem WA.one(h:Ev c σ e x)(k:WA c E σ es λys mT=>Q (x::ys) mT)
  (he:autoParam (∀env,aU (e::es) env=(false,aT e env)::aU es env) aI):WA c E σ (e::es) Q:=.cons (h.we k) he
@[irreducible] def Kept(c:Cx)(g:Value):Prop:=
 ∀h,(KK c.w.params).In h->∃k,(k=jn\/k=iF)/\fN c.M h (ma g) k
theorem Kept.go(self:Kept c g):∀h,(KK c.w.params).In h->∃k,(k=jn\/k=iF)/\fN c.M h (ma g) k:=by with_unfolding_all exact self
theorem Kept.K(h:f6 (KK c.w.params) g=true):Kept c g:=by intro O X;exact looks_keep h X
theorem Kept.builtin{id:String}:Kept c (.builtin id):=by intro O X;exact⟨.machine,.inr rfl,fN.of_pure rfl⟩
theorem Kept.type:Kept c (.type T):=by intro O X;exact⟨.machine,.inr rfl,fN.of_pure rfl⟩
theorem Gg(h:(aU es env).any (λO=>O.1)=false):(cM pos (aU es env)).any (λO=>O.1)=false:=by rw[<-h];unfold cM;rw[List.any_map];rfl
theorem St.sq{xs vs s}(ok:Ok c d)(S:St c σ xs vs s):(KK c.w.params).In s.heap:=by obtain⟨_,hg,_,_,_,I⟩:=S;exact(ok.on hg).X.keeps I.F.keep
theorem RV{α:Type}{t:List (Bool×α)}(h:t.any (λO=>O.1)=false):t=[]\/∃x r,t=(false,x)::r:=by
 cases t with
 |nil=>exact .inl rfl
 |cons a r=>
  obtain⟨b,x⟩:=a;cases b with
  |false=>exact .inr ⟨x,r,rfl⟩
  |true=>cases h
theorem WA.call{fr s}{slf:List AV}{xs vs first}(ok:Ok c d)(hk:Kept c g)(ha:WA c E σ es λys mF=>Op c E mF (slf++ys) (λus=>aF g us) Q)(S:St c (σ.on fr) (slf++xs) (first++vs) s)(hl:first.length=slf.length)
  (hp:(aU es c.env).any (λO=>O.1)=false):W c.nd c.M c.A (cA pos g first (cM pos (aU es c.env)) []) (Got c fr xs vs Q) (E.go fr xs vs) s:=by
 refine W.callWith (P:=λh=>(KK c.w.params).In h) (Gg hp) hk.go ?_;have key:∀us s',Eo c fr (slf++xs) (first++vs) (λys mF=>Op c E mF (slf++ys) (λus=>aF g us) Q) us s'->
   (KK c.w.params).In s'.heap/\W c.nd c.M c.A (aF g (first++us) []) (Got c fr xs vs Q) (E.go fr xs vs) s':=by
  rintro us s' ⟨ys,mF,S',hu,o⟩;refine⟨S'.sq ok,o.go fr xs vs (first++us) s' (S'.hand λfz h=>?_) (by simp[hu,hl])⟩;exact((h.oi hu).2.oi hl).1.append (h.oi hu).1 |>.append ((h.oi hu).2.oi hl).2
 exact W.args ((ha.go pos fr _ _ _ S).mono key λe s' k=>E.hand _ _ _ _ _ _ _ (λfz o=>(o.oi hl).2) k) (RV (Gg hp))
theorem WE.DR(ok:Ok c d)(hf:Ev c σ f (.val g))(hk:Kept c g)(ha:WA c E σ es λys mF=>Op c E mF ys (λus=>aF g us) Q)
  (he:autoParam (∀env,aT (.Call f es [] pos) env=(do cA pos (<-aT f env) [] (cM pos (aU es env)) (dF pos (cF [] env)))) aI)(hp:autoParam ((aU es c.env).any (λO=>O.1)=false) aR):WE c E σ (aT (.Call f es [] pos) c.env) Q:=by
 intro fr xs vs s S
 with_reducible refine W.Call (hf.go _ _ _ _ _ _ S λv s' S'=>?_) (he c.env)
 refine S'.of.elim λfz o=>?_
 obtain rfl:=o.val_inv
 exact WA.call (slf:=[]) (first:=[]) ok hk ha S'.pop rfl hp
@[irreducible] def Meth(c:Cx)(σ:Sg)(x:AV)(name:Str)(g:Value):Prop:=
 ∀E fr xs vs v s pl (Q:Value×List Value->ai->Prop),St c (σ.on fr) (x::xs) (v::vs) s->(∀s',St c (σ.on fr) (x::xs) (v::vs) s'->Q (g,[v]) s')->aJ c.M c.A (ed v name pl) Q E s
theorem Meth.go(self:Meth c σ x name g):∀E fr xs vs v s pl (Q:Value×List Value->ai->Prop),St c (σ.on fr) (x::xs) (v::vs) s->(∀s',St c (σ.on fr) (x::xs) (v::vs) s'->Q (g,[v]) s')->aJ c.M c.A (ed v name pl) Q E s:=by with_unfolding_all exact self
theorem WE.nX{name:Str}{g:Value}{es:List cI}{ap pos:iA}{pl:Env->fH Bool}{Q:AV->Sg->Prop}(ok:Ok c d)(ho:Ev c σ o x)(hm:Meth c σ x name g)(hk:Kept c g)(ha:WA c E σ es λys mF=>Op c E mF (x::ys) (λus=>aF g us) Q)
  (he:autoParam (∀env,aT (.Call (.Attribute o name ap) es [] pos) env=(do
   let ov <-aT o env
   dN ap.atName
   let(f,first) <-cE [ov] (ed ov name (pl env))
   cA pos f first (cM pos (aU es env)) [])) aI) (hp:autoParam ((aU es c.env).any (λO=>O.1)=false) aR):WE c E σ (aT (.Call (.Attribute o name ap) es [] pos) c.env) Q:=by
 intro fr xs vs s S
 with_reducible refine W.I3 (ho.go _ _ _ _ _ _ S λv s' S'=>hm.go _ fr xs vs v s' _ _ S' λs2 S2=>?_) (he c.env)
 exact WA.call (slf:=[x]) (first:=[v]) ok hk ha S2 rfl hp
theorem Meth.inst(ok:Ok c d)(hm:.ins a C f∈σ.as)(hg:kM (KK c.w.params) C name=true)(hf:cg (KK c.w.params) (.ref C) name=some (some (.ref g)))
  (ht:isFn (KK c.w.params) (.ref g)=true)(J:name∉f.map (λO=>O.1)):Meth c σ (.ref a) name (.ref g):=by
 intro E fr xs vs v s pl Q S k;refine S.of.elim λfz o=>?_;obtain rfl:=o.mV;obtain⟨g₁,m,fz,cl,xq,F,K,gt,_⟩:=S.at (Rep.refl (ax fr hm));obtain⟨dx,es,n,e,nd⟩:=K;have I:cQ s.heap a (eK C dx) C (some (cX es n)):=⟨gt _ (.head _),rfl,rfl,gt _ (.tail _ (.head _))⟩;with_reducible exact method_inst F (ok.on xq).X I hg hf ht (e.miss J) (k s S)
end
section
variable {c:Cx}{σ:Sg}{d:Nat}{E:Ex}
theorem Sat.perm(h:l.Perm l'):∀{o},Sat P fz l o->∃o',o.Perm o'/\Sat P fz l' o':=by
 induction h with
 |nil=>intro o S;exact⟨o,.refl _,S⟩
 |cons x _ ih=>
  intro o S;cases S with
  |cons a b=>refine(ih b).elim λo' w9=>w9.elim λp S'=>?_;exact⟨_,p.append_left _,.cons a S'⟩
 |swap x y l=>
  intro o S;cases S with
  |cons a b=>
   cases b with
   |cons a' b'=>exact⟨_,by rw[<-aj,<-aj];exact(bw).append_right _,.cons a' (.cons a b')⟩
 |trans _ _ ih1 ih2=>intro o S;refine(ih1 S).elim λo1 w9=>w9.elim λp1 S1=>?_;refine(ih2 S1).elim λo2 w9=>w9.elim λp2 S2=>?_;exact⟨o2,p1.trans p2,S2⟩
theorem Sat.sub:∀{o},Sat P fz (l++r) o->Sat P fz l o:=by
 induction l with
 |nil=>intro o _;exact .nil
 |cons x l ih=>
  intro o S;cases S with
  |cons a b=>exact .cons a (ih b)
theorem sk.perm{xs vs s m own fz}{lo:List (Option AV)}{as as' r:List mH}(I:sk c ⟨lo,as⟩ xs vs s m own fz)(h:as.Perm (as'++r)):∃yF,sk c ⟨lo,as'⟩ xs vs s m yF fz:=by
 refine(I.sat.perm h).elim λo' w9=>w9.elim λp S=>?_;refine⟨o',I.F,I.lo,λq hq=>I.N q ?_,?_,S.sub,I.st,I.same⟩
 ·refine(aH.mp hq).elim (λh=>?_) λh=>?_
  ·exact ax _ (p.symm.subset h)
  ·exact aS _ h
 ·exact(((p.append_right fz).map (λO=>O.1)).nodup_iff).mp I.nd
theorem St.perm{xs vs s}{lo:List (Option AV)}{as as' r:List mH}(S:St c ⟨lo,as⟩ xs vs s)(h:as.Perm (as'++r)):St c ⟨lo,as'⟩ xs vs s:=by refine S.elim λg₁ w9=>w9.elim λhg w9=>w9.elim λm w9=>w9.elim λown w9=>w9.elim λfz I=>?_;refine(I.perm h).elim λyF I'=>?_;exact⟨g₁,hg,m,yF,fz,I'⟩
inductive Arr:List mH->List mH->Prop
 |refl {l}:Arr l l
 |nil {l}:Arr l []
 |pick {x l l1 l2}:nt x l l1->Arr l1 l2->Arr l (x::l2)
theorem nt.perm(h:nt x l l'):l.Perm (x::l'):=by
 induction h with
 |head=>exact .refl _
 |tail _ ih=>exact(ih.cons _).trans (.swap _ _ _)
theorem Arr.perm(h:Arr l l'):∃r,l.Perm (l'++r):=by
 induction h with
 | @refl l=>exact⟨[],by rw[aW]⟩
 | @nil l=>exact⟨l,.refl _⟩
 |pick h _ ih=>obtain⟨r,p⟩:=ih;exact⟨r,h.perm.trans (p.cons _)⟩
theorem St.arr{xs vs s}{lo:List (Option AV)}{as as' fr:List mH}(S:St c (Sg.on ⟨lo,as⟩ fr) xs vs s)(h:Arr as as'):St c (Sg.on ⟨lo,as'⟩ fr) xs vs s:=by refine h.perm.elim λr p=>?_;refine S.perm (r:=r) ?_;have:=p.append_right fr;rw[aj]at this;rw[aj];exact this.trans (bX.append_left _ bw)
structure mZ where
 C:aA
 f:List (Str×AV)
inductive UU(B:bb)(e C dd:aA)(fl:Value)(h:bb):Prop
 |mk (oe vs T oT ts) (h1:h.get? e=some oe) (h2:oe.cls=.ref C) (h3:oe.dict=some dd) (h4:oe.data=.fields vs) (h5:vs[1]?=some (.ref T)) (h6:B.get? T=none) (h7:T≠e) (h8:h.get? T=some oT) (h9:oT.data=.fields ts) (NW:ts[3]?=some fl)
structure yo(B:bb)(l:List Env)(e C dd:aA)(fl:Value)(h:bb):Prop where
 st:B.StaysIn h
 nw:B.get? e=none
 ff:h.FunFrames B l
 no:UU B e C dd fl h
noncomputable abbrev Ep(B:bb)(l:List Env)(e C dd:aA)(h:bb):Prop:=yo B l e C dd .none h
noncomputable def AS(H:bb)(l:List Env)(B:bb):Prop:=∀b o,H.get? b=some o->b∉l.filterMap (λO=>O.frame)->B.get? b=some o
inductive Le(H:bb)(l:List Env)(e C dd:aA)(news:Cells)(h:bb):Prop
 |mk (B) (r:AS H l B) (nw:∀q∈news,B.get? q.1=some q.2) (f:Ep B l e C dd h)
inductive n5(c:Cx)(σ:Sg)(xs:List AV)(vs:List Value)(x:mZ)(e:Value)(s:ai):Prop
 |mk (g₁ a dd m) (own fz:Cells) (g) (lk:pW c g₁) (he:e=.ref a) (F:Fr g₁ c.L g m) (lo:uD fz c.ns σ.lo m) (air:Le g₁ (c.fe::c.outer) a x.C dd (own++fz) s.heap) (up:g.UpToSlots s.heap) (nd:((own++fz).map (λO=>O.1)).Nodup) (nw:∀p∈own++fz,p.1≠c.L/\g₁.get? p.1=none) (sat:Sat c.w.params fz (.xd dd x.f::σ.as) own) (st:mL fz xs vs) (sm:p8 c.r s)
inductive Made(c:Cx)(σ:Sg)(xs:List AV)(vs:List Value)(x:mZ)(e:Value)(s:ai):Prop
 |mk (g₁ a dd m) (own fz:Cells) (oe t) (lk:pW c g₁) (he:e=.ref a) (I:sk (c.on g₁) ⟨σ.lo,.xd dd x.f::σ.as⟩ xs vs s m own fz) (ho:s.heap.get? a=some oe) (J:g₁.get? a=none) (hL:a≠c.L) (ap:∀p∈own++fz,p.1≠a) (hc:oe.cls=.ref x.C) (hd:oe.dict=some dd) (hf:oe.data=.fields #[t,.none,.none,.none,.bool false,.none])
inductive vH(c:Cx)(as:List mH)(xs:List AV)(vs:List Value)(x:mZ)(e:Value)(s:ai):Prop
 |mk (a dd) (own fz:Cells) (he:e=.ref a) (air:Le c.h₀ c.outer a x.C dd (own++fz) s.heap) (up:c.h₀.UpToSlots s.heap) (nd:((own++fz).map (λO=>O.1)).Nodup) (nw:∀p∈own++fz,p.1≠c.L/\c.h₀.get? p.1=none) (sat:Sat c.w.params fz (.xd dd x.f::as) own) (st:mL fz xs vs) (sm:p8 c.r s)
inductive vI(c:Cx)(lo:List (Option AV))(fr:List mH)(xs:List AV)(vs:List Value)(R:AV->List mH->Prop)(v:Value)(s:ai):Prop
 |mk (av as') (S:St c (Sg.on ⟨lo,as'⟩ fr) (av::xs) (v::vs) s) (r:R av as')
inductive yG(c:Cx)(lo:List (Option AV))(fr:List mH)(xs:List AV)(vs:List Value)(X:mZ->List mH->Prop)(e:Value)(s:ai):Prop
 |mk (x as') (h:X x as') (f:n5 c (Sg.on ⟨lo,as'⟩ fr) xs vs x e s)
structure Exits(c:Cx)(E:Ex)(X:mZ->Sg->Prop):Prop where
 own:∀fr xs vs,g4 c.M c.A c.env (E.go fr xs vs)
 uR:∀x σ fr xs vs e s,X x σ->n5 c (σ.on fr) xs vs x e s->E.go fr xs vs e s
 made:∀x σ fr xs vs e s,X x σ->Made c (σ.on fr) xs vs x e s->E.go fr xs vs e s
@[irreducible] def mG(nb:Bool)(f:Value)(n:Nat)(args:List AV)(as:List mH)(R:AV->List mH->Prop)(X:mZ->List mH->Prop):Prop:=
 ∀(c:Cx) (d:Nat) (A':Around) (lo:List (Option AV)) fr xs vs us s,(nb=true->c.nd=true)->Ok c d->n<=d->A'.frames=some (c.fe::c.outer)->A'.handled=none->A'.depth<=c.A₀.depth+3->A'.units<=c.A₀.units+30->St c (Sg.on ⟨lo,as⟩ fr) (args++xs) (us++vs) s->us.length=args.length->
  WC c.nd c.M A' (.call f ⟨us,[]⟩) (λr s'=>match r with|.ok (.ret v)=>vI c lo fr xs vs R v s'|.ok _=>False|.error e=>yG c lo fr xs vs X e s') s
theorem mG.go(self:mG nb f n args as R X):∀(c:Cx) (d:Nat) (A':Around) (lo:List (Option AV)) fr xs vs us s,(nb=true->c.nd=true)->Ok c d->n<=d->A'.frames=some (c.fe::c.outer)->A'.handled=none->A'.depth<=c.A₀.depth+3->A'.units<=c.A₀.units+30->St c (Sg.on ⟨lo,as⟩ fr) (args++xs) (us++vs) s->us.length=args.length->
  WC c.nd c.M A' (.call f ⟨us,[]⟩) (λr s'=>match r with|.ok (.ret v)=>vI c lo fr xs vs R v s'|.ok _=>False|.error e=>yG c lo fr xs vs X e s') s:=by with_unfolding_all exact self
noncomputable abbrev Fn:=mG false
noncomputable abbrev th:=mG true
theorem mG.call{args:List AV}{as:List mH}{R:AV->List mH->Prop}{X:mZ->List mH->Prop}(h:mG nb f n args as R X){A':Around}{lo:List (Option AV)}{fr xs vs us s}(hb:nb=true->c.nd=true)(ok:Ok c d)(J:n<=d)(hA:A'.frames=some (c.fe::c.outer))(hh:A'.handled=none)
  (hd:A'.depth<=c.A₀.depth+3)(hu:A'.units<=c.A₀.units+30)(S:St c (Sg.on ⟨lo,as⟩ fr) (args++xs) (us++vs) s)(hl:us.length=args.length):
  W c.nd c.M A' (aF f us) (vI c lo fr xs vs R) (yG c lo fr xs vs X) s:=by
 with_reducible refine W.vo (WC.mono (h.go c d A' lo fr xs vs us s hb ok J hA hh hd hu S hl) ?_)
 intro r s' h;cases r with
 |error e=>exact h
 |ok f=>cases f<;>first|exact h|exact h.elim
theorem mG.op{args:List AV}{as rest se:List mH}{R:AV->List mH->Prop}{X:mZ->List mH->Prop}{lo:List (Option AV)}{Q:AV->Sg->Prop}{XX:mZ->Sg->Prop}(h:mG nb f n args as R X)(ok:Ok c d)(ex:Exits c E XX)(J:n<=d)
  (p:Arr se (as++rest))(hr:∀av as',R av as'->Q av ⟨lo,as'++rest⟩)(hx:∀x as',X x as'->XX x ⟨lo,as'++rest⟩)(hb:nb=true->c.nd=true:=by intro h;cases h):Op c E ⟨lo,se⟩ args (λus=>aF f us) Q:=by
 intro fr xs vs us s S hl;have S2:St c (Sg.on ⟨lo,as⟩ (rest++fr)) (args++xs) (us++vs) s:=by show St c ⟨lo,as++(rest++fr)⟩ _ _ _;rw[<-aj];exact(S.arr p)
 have hd:c.A.depth<=c.A₀.depth+3:=by show c.A₀.depth+1<=_;exact o2
 have hu:c.A.units<=c.A₀.units+30:=by show c.A₀.units+3<=_;exact o1
 have hh:c.A.handled=none:=ok.hh;with_reducible refine W.mono (h.call hb ok J (dS (env:=c.fe) ok.B.stack) hh hd hu S2 hl) ?_ ?_
 ·rintro v s' ⟨av,as',S3,hR⟩;refine⟨av,⟨lo,as'++rest⟩,?_,hr av as' hR⟩;show St c ⟨lo,(as'++rest)++fr⟩ _ _ _;rw[aj];exact S3
 ·rintro e s' ⟨x,as',hX,hf⟩;refine ex.uR x ⟨lo,as'++rest⟩ fr xs vs e s' (hx x as' hX) ?_;show n5 c ⟨lo,(as'++rest)++fr⟩ _ _ x e s';rw[aj];exact hf
structure mR.Is(i:mR):Prop where
 look:∀P,(KK P).lookup i.f=some ⟨.type "function",none,.func i.fd,#[]⟩
 code:∀P,codeIn (KK P) i.cd i.qual=true
 keep:∀P,f6 (KK P) (.ref i.f)=true
 nd:i.ns.Nodup
 loc:(i.ns.all λn=>(nD i.st).names.lookup n==some .local&&!(n==("__debug__":Str)))=true
 cell:((nD i.st).names.all λx=>x.2 !=.cell)=true
 co:(nD i.st).isCoroutine=false
 gen:(nD i.st).isGenerator=false
 kd:(nD i.st).kind=.function
end
section
section
variable {M:Model}{A:Around}{E:Value->ai->Prop}{s:ai}
theorem Ko{L e C dd:aA}{oe:Obj}{vs:Array Value}{head:Value}{Tp:Bool}{Q:Unit->ai->Prop}
  (vZ:A.frames=some (env::outer))(hl:s.heap.FunFrames B (env::outer))(hf:env.frame=some L)(he:s.heap.get? e=some oe)(v3:B.StaysIn s.heap)(uS:B.get? e=none)
  (hc:oe.cls=.ref C)(rK:oe.dict=some dd)(hd:oe.data=.fields vs)(hsz:1<vs.size)
  (h:∀h',yo B (env::outer) e C dd (f5 L) h'->s.heap.UpToSlots h'->Q () {s with heap:=h'}):
  aJ M A (do let a <-frameOf env;let pl <-entryPlaceOf L Tp;let b <-EntryCells.newEntry head a .none (f5 L) .none pl;setField (.ref e) 1 b) Q E s:=by
 have RX:e∉(env::outer).filterMap (λO=>O.frame):=λhm=>by obtain⟨_,o,ho,oQ⟩:=hl.mem hm;rw[he]at ho;injection ho with ho;subst ho;exact oQ vs hd
 refine ag (wpAny_frameOf_fun vZ hl hf λm4 so=>ag (wpAny_entryPlaceOf λpl hpl=>?_));refine ag (cH ?_ (hpl.sizeOk5 _ _ _ _ _));have NX:=so.2.1;have NY:=so.2.2;have yp:m4.get? e=some oe:=(NX e RX).trans he;have kb:B.StaysIn m4:=λb o q=>(NX b λhm=>by rw[(hl.mem hm).1]at q;cases q).trans (v3 b o q);have oR:m4.objs.size≠e:=fa (a_ yp);generalize hT:({cls:=.type "traceback",dict:=none,data:=.fields ([head,.ref L,.none,f5 L,.none]++(if pl.isEmpty then cB 6 e_ else pl)).toArray}:Obj)=oT;have Lf:=ay oT yp;have upd:∀b,e≠b->((m4.push oT).update e (gF (·.setIfInBounds 1 (di m4.objs.size)))).get? b=(m4.push oT).get? b:=λb hb=>bb.get?_update_other _ _ hb;refine gJ Lf hd hsz (h _ ⟨?_,uS,?_,?_⟩ ?_)
 ·intro b o q;rw[upd b λx=>by rw[<-x,uS]at q;cases q];exact ay _ (kb b o q)
 ·refine hl.of_keeps λb o hb oQ=>?_;obtain⟨sl,hs⟩:=NY b o hb;refine⟨_,?_,(rfl:({o with slots:=sl}:Obj).data=o.data)⟩;rw[upd b λx=>by rw[<-x,he]at hb;injection hb with hb;subst hb;exact oQ vs hd];exact ay _ hs
 ·have Lg:=gR hd (·.setIfInBounds 1 (di m4.objs.size));refine⟨_,_,m4.objs.size,oT,_,bb.get?_update_self _ Lf (jN Lg),(Obj.cls_mapFields _ _).trans hc,?_,Lg,by simp[hsz],kb.fresh,oR,?_,(by rw[<-hT]),?_⟩
  ·cases oe with
   |mk c d dt sl=>dsimp only at hd rK;subst hd;exact rK
  ·rw[upd _ (fh oR)];exact bb.get?_push_size _ (by rw[<-hT];rfl)
  ·simp
 ·intro b o hb oQ;obtain⟨sl,hs⟩:=NY b o hb;refine⟨sl,?_⟩;rw[upd b λx=>by rw[<-x,he]at hb;injection hb with hb;subst hb;exact oQ vs hd];exact ay _ hs
theorem Qs{L e C dd:aA}{oe:Obj}{vs:Array Value}{Q:Unit->ai->Prop}(vZ:A.frames=some (env::outer))(hl:s.heap.FunFrames B (env::outer))(hf:env.frame=some L)
  (he:s.heap.get? e=some oe)(v3:B.StaysIn s.heap)(uS:B.get? e=none)(hc:oe.cls=.ref C)(rK:oe.dict=some dd)(hd:oe.data=.fields vs)(h1:vs[1]?=some .none)
  (h:∀h',yo B (env::outer) e C dd (f5 L) h'->s.heap.UpToSlots h'->Q () {s with heap:=h'}):aJ M A (dg (.ref e) env) Q E s:=by
 unfold dg;rw[hf];refine ag (eE he hd h1 ?_);exact Ko vZ hl hf he v3 uS hc rK hd (cW.mp h1).1 h
theorem Tq(vZ:A.frames=some (env::outer))(hf:env.frame=some L)(x:Ep B (env::outer) e C dd s.heap)
  (h:∀h',yo B (env::outer) e C dd (f5 L) h'->s.heap.UpToSlots h'->Q () {s with heap:=h'}):aJ M A (dg (.ref e) env) Q E s:=by
 obtain⟨v3,uS,hl,oe,vs,T,oT,ts,he,hc,rK,hd,h1,za,zb,hT,t8,h3⟩:=x;unfold dg;rw[hf];refine ag (eE he hd h1 ?_);refine ag (eE hT t8 h3 ?_);refine ag (gJ hT t8 (cW.mp h3).1 ?_);have other:∀b,T≠b->(s.heap.update T (gF (λO=>O.setIfInBounds 3 e_))).get? b=s.heap.get? b:=λb hb=>bb.get?_update_other _ _ hb;have nT:∀b o,s.heap.get? b=some o->(∀vs,o.data≠.fields vs)->T≠b:=λb o hb oQ q=>by rw[<-q,hT]at hb;injection hb with hb;subst hb;exact oQ ts t8
 refine Ko vZ (hl.of_keeps λb o hb oQ=>⟨o,(other b (nT b o hb oQ)).trans hb,rfl⟩) hf ((other e zb).trans he) (λb o q=>(other b λx=>by rw[<-x,za]at q;cases q).trans (v3 b o q)) uS hc rK hd (cW.mp h1).1 λh' y u=>h h' y λb o hb oQ=>u b o ((other b (nT b o hb oQ)).trans hb) oQ
theorem CI(x:yo B l e C dd fl s.heap)(h:∀h',Ep B l e C dd h'->s.heap.UpToSlots h'->Q () {s with heap:=h'}):aJ M A (gY (.ref e) none) Q E s:=by
 obtain⟨v3,uS,hl,oe,vs,T,oT,ts,he,hc,rK,hd,h1,za,zb,hT,t8,h3⟩:=x;have hsz:3<ts.size:=(cW.mp h3).1;have other:∀b,T≠b->(s.heap.update T (gF (·.setIfInBounds 3 ((none:Option aA).elim e_ λf=>f5 f)))).get? b=s.heap.get? b:=λb hb=>bb.get?_update_other _ _ hb;have nT:∀b o,s.heap.get? b=some o->(∀vs,o.data≠.fields vs)->T≠b:=λb o hb oQ q=>by rw[<-q,hT]at hb;injection hb with hb;subst hb;exact oQ ts t8
 refine ag (eE he hd h1 ?_);refine gJ hT t8 hsz (h _ ⟨λb o q=>(other b λx=>by rw[<-x,za]at q;cases q).trans (v3 b o q),uS,hl.of_keeps λb o hb oQ=>⟨o,(other b (nT b o hb oQ)).trans hb,rfl⟩,?_⟩
  λb o hb oQ=>⟨o.slots,(other b (nT b o hb oQ)).trans hb⟩)
 exact⟨oe,vs,T,_,_,(other e zb).trans he,hc,rK,hd,h1,za,zb,bb.get?_update_self _ hT (jN (gR t8 _)),gR t8 _,by simp[hsz]⟩
end
variable {c:Cx}{σ:Sg}{d:Nat}
theorem I4(ok:Ok c d):c.A.frames=some (c.fe::c.outer):=dS ok.B.stack
theorem pW.un(h:pW c g)(e:g.get? b=none):c.h₀.get? b=none:=by
 cases q:c.h₀.get? b with
 |none=>rfl
 |some o=>obtain⟨sl,h⟩:=h.up b o q;rw[e]at h;cases h
theorem pW.slots(h:pW c g):c.h₀.UpToSlots g:=λb o e O=>h.up b o e
theorem pW.rests(h:pW c g)(ok:Ok c d)(ab:g.objs.size<=c.L)(r:AS g (c.fe::c.outer) B):AS c.h₀ c.outer B:=λb o e hb=>by
 refine r b o ((h.2.1 b hb).trans e) λhm=>?_;obtain⟨env,he,hf⟩:=bH.mp hm;rcases aL.mp he with rfl|he
 ·rw[ok.fr]at hf;obtain rfl:=aE.inj hf;have:=a_ e;rw[<-h.1]at this;exact cb _ (bW this ab)
 ·exact hb (bH.mpr ⟨env,he,hf⟩)
theorem n5.gone{xs vs}{x:mZ}{e:Value}{s:ai}(ok:Ok c d)(h:n5 c σ xs vs x e s):vH c σ.as xs vs x e s:=by obtain⟨g₁,a,dd,m,own,fz,g,hg,rfl,F,lo,⟨B,hB,J,k1,k2,k3,k4⟩,u,nd,hp,st,o,sm⟩:=h;exact⟨a,dd,own,fz,rfl,⟨B,hg.rests ok F.above hB,J,k1,k2,k3.2.2,k4⟩,hg.slots.trans ((bb.UpToSlots.of_keeps F.keep).trans u),nd,λp oo=>⟨(hp p oo).1,hg.un (hp p oo).2⟩,st,o,sm⟩
theorem I5{xs vs}{x:mZ}{e:Value}{s:ai}(ok:Ok c d)(h:n5 c σ xs vs x e s):aJ c.M c.A (dg e c.fe) (λO s1=>aJ c.M A' (gY e none) (λO s2=>n5 c σ xs vs x e s2) (λO O=>False) s1) (λO O=>False) s:=by obtain⟨g₁,a,dd,m,own,fz,g,hg,rfl,F,lo,⟨B,hB,J,fl⟩,u,nd,hp,st,o,sm⟩:=h;refine Tq (I4 ok) ok.fr fl λh1 f1 u1=>CI f1 λh2 f2 u2=>?_;exact⟨g₁,a,dd,m,own,fz,g,hg,rfl,F,lo,⟨B,hB,J,f2⟩,u.trans (u1.trans u2),nd,hp,st,o,sm⟩
theorem Io{xs vs}{x:mZ}{e:Value}{s:ai}(ok:Ok c d)(h:Made c σ xs vs x e s):aJ c.M c.A (dg e c.fe) (λO s1=>aJ c.M A' (gY e none) (λO s2=>n5 c σ xs vs x e s2) (λO O=>False) s1) (λO O=>False) s:=by
 obtain⟨g₁,a,dd,m,own,fz,oe,t,hg,rfl,I,he,h0,hL,oR,hc,rK,hd⟩:=h;have wV:=ok.on hg
 let fs:=(c.fe::c.outer).filterMap (λO=>O.frame)
 let B:=hideAll s.heap (a::fs)
 have st:AS g₁ (c.fe::c.outer) B:=λb o q hb=>hideAll_get _ (I.F.keep b o q) λhm=>by
  rcases aL.mp hm with rfl|hm
  ·rw[h0]at q;cases q
  ·exact hb hm
 have J:∀q∈own++fz,B.get? q.1=some q.2:=λq hq=>by
  have z:=I.N q hq;refine hideAll_get _ z.1 λhm=>?_;rcases aL.mp hm with e|hm
  ·exact oR q hq e
  ·obtain⟨env,nV,hf⟩:=bH.mp hm;rcases aL.mp nV with rfl|nV
   ·rw[ok.fr]at hf;exact z.2.1 (aE.inj hf).symm
   ·refine((wV.B.frames.mem (bH.mpr ⟨env,nV,hf⟩)).2).elim λo w9=>w9.elim λho O=>?_;have z2:g₁.get? q.1=none:=z.2.2;rw[z2]at ho;cases ho
 have nV:B.get? a=none:=iK _ (.head _);have vZ:s.heap.FunFrames B (c.fe::c.outer):=by
  have:∀{l:List Env},s.heap.FunFrames c.base l->(∀env∈l,∀b,env.frame=some b->b∈fs)->s.heap.FunFrames B l:=by
   intro l;induction l with
   |nil=>intro _ _;trivial
   |cons env r ih=>rintro⟨hk,⟨L,o,hf,_,ho,hd⟩,hr⟩ hi;exact⟨hk,⟨L,o,hf,iK _ (.tail _ (hi env (.head _) L hf)),ho,hd⟩,ih hr λe he=>hi e (.tail _ he)⟩
  exact this (pushX wV.B I.F ok.fr ok.kf).frames (λenv he b hb=>bH.mpr ⟨env,he,hb⟩)
 refine Qs (I4 ok) vZ ok.fr he (λb o q=>jD _ q) nV hc rK hd (by rfl) λh1 f1 u1=>CI f1 λh2 f2 u2=>?_;exact⟨g₁,a,dd,m,own,fz,s.heap,hg,rfl,I.F,I.lo,⟨B,st,J,f2⟩,u1.trans u2,I.nd,λp hp=>(I.N p hp).2,I.sat,I.st,I.same⟩
theorem QV{xs vs}{x:mZ}{e:Value}{s:ai}(ok:Ok c d)(h:n5 c σ xs vs x e s):aJ c.M c.A (gZ c.fe e) (λO s'=>vH c σ.as xs vs x e s') (λO O=>False) s:=
 ag (aY (I5 ok h) (λO O k=>aY k (λO O k=>k.gone ok) λO O k=>k) λO O k=>k)
theorem Qt{xs vs}{x:mZ}{e:Value}{s:ai}(ok:Ok c d)(h:Made c σ xs vs x e s):aJ c.M c.A (gZ c.fe e) (λO s'=>vH c σ.as xs vs x e s') (λO O=>False) s:=
 ag (aY (Io ok h) (λO O k=>aY k (λO O k=>k.gone ok) λO O k=>k) λO O k=>k)
end
section
variable {c:Cx}{σ:Sg}{d:Nat}{E:Ex}
theorem uD.pack{lo:List (Option AV)}(h:uD fz ns lo m):∃ys us,mL fz ys us/\∀m5,mL m5 ys us->uD m5 ns lo m:=by
 induction ns generalizing lo with
 |nil=>exact⟨[],[],.nil,λm5 O x av k=>nomatch k⟩
 |cons x ns ih=>
  cases lo with
  |nil=>exact⟨[],[],.nil,λm5 O x av k=>nomatch k⟩
  |cons o lo=>
   refine(ih λy av k=>h y av (.there k)).elim λys w9=>w9.elim λus w9=>w9.elim λa b=>?_;cases o with
   |none=>exact⟨ys,us,a,λm5 o' y av k=>k.un.casesOn (λO q=>nomatch q) λk=>b m5 o' y av k⟩
   |some av=>refine(h x av .here).elim λv w9=>w9.elim λhv ho=>?_;exact⟨av::ys,v::us,.cons ho a,λm5 o' y bv k=>k.un.casesOn (λe q=>⟨v,e▸hv,aE.inj q▸o'.hd⟩) λk=>b m5 o'.tl y bv k⟩
theorem RY{l:List (Str×Value)}(nd:(l.map (λO=>O.1)).Nodup)(h:(x,v)∈l):l.reverse.lookup x=some v:=by
 induction l with
 |nil=>cases h
 |cons p l ih=>
  rw[g5,List.lookup_append];simp only[bE,bj]at nd;cases h with
  |head=>
   have:l.reverse.lookup x=none:=by
    rw[fQ];intro q hq;have oR:x≠q.1:=by rintro rfl;exact nd.1 (aZ (f:=(λO=>O.1)) (dm.mp hq))
    simpa using oR
   rw[this];simp[List.lookup]
  |tail _ h=>rw[ih nd.2 h];rfl
noncomputable def E2(ns:List Str)(args:List AV):List (Option AV):=args.map some++cB (ns.length-args.length) none
theorem Ts:∀{n:Nat},¬At ns (cB n (none:Option AV)) x (some av):=by
 induction ns with
 |nil=>exactλk=>nomatch k
 |cons y ns ih=>
  intro n k;cases n with
  |zero=>exact nomatch k
  |succ n=>exact(At.un k).casesOn (λO q=>nomatch q) ih
theorem Ui:∀{args:List AV}{ns:List Str}{us:List Value},mL fz args us->At ns (args.map some++cB n none) x (some av)->∃v,(x,v)∈(ns.take us.length).zip us/\Of fz av v:=by
 intro args;induction args with
 |nil=>exactλo k=>(Ts k).elim
 |cons a args ih=>
  intro ns us o k;cases ns with
  |nil=>exact nomatch k
  |cons y ns=>obtain⟨u,us,o1,o2⟩:=o.un;exact(At.un k).casesOn (λe q=>⟨u,e▸.head _,aE.inj q▸o1⟩) λk=>(ih o2 k).elim λv h=>⟨v,.tail _ h.1,h.2⟩
noncomputable def Back(R:AV->List mH->Prop):Out->Sg->Prop
 |.ret av,σ=>R av σ.as
 |.next,σ=>R .none σ.as
 |_,_=>False
theorem vH.hand{as xs vs xs' vs'}{x:mZ}{e:Value}{s:ai}(h:vH c as xs vs x e s)(k:∀fz,mL fz xs vs->mL fz xs' vs'):vH c as xs' vs' x e s:=by obtain⟨a,dd,own,fz,e1,h1,u,nd,hp,st,o,sm⟩:=h;exact⟨a,dd,own,fz,e1,h1,u,nd,hp,st,k fz o,sm⟩
noncomputable def Er(c:Cx)(X:mZ->List mH->Prop):Ex where
 go:=λfr xs vs e s=>aJ c.M c.A (gZ c.fe e) (λO s'=>∃x as',X x as'/\vH c (as'++fr) xs vs x e s') (λO O=>False) s
 hand:=λfr xs vs xs' vs' e s k h=>aY h (λO s' k9=>by obtain⟨x,as',a,b⟩:=k9;exact⟨x,as',a,b.hand k⟩) λO O q=>q
theorem HO(ok:Ok c d)(hc:c.cm=false)(X:mZ->List mH->Prop):Exits c (Er c X) λx σ=>X x σ.as where
 own:=λfr xs vs=>by rw[ok.ee hc];exact g4.leaving
 uR:=λx σ fr xs vs e s hX h=>aY (QV ok h) (λO s' g=>⟨x,σ.as,hX,g⟩) λO O q=>q
 made:=λx σ fr xs vs e s hX h=>aY (Qt ok h) (λO s' g=>⟨x,σ.as,hX,g⟩) λO O q=>q
theorem QW{nd:Bool}
  {scope:Scope}{dV kV doc pm qc ct:Value}{fo:Obj}{f:aA}{args:Args}{binds:List (Str×Value)}
  (B:mq A₀ base outer h₀)(F:Fr h₀ L s.heap m)(N:j_ h₀ L s.heap news)(Es:h₀.NoLimit)(hA:A.frames=some (env::outer))(hf:env.frame=some L)(E3:env.scope.kind=.function)
  (ho:s.heap.get? f=some fo)(hd:fo.data=.func (fnX name qual params body scope [] dV kV doc pm none qc ct))(E4:s.heap.CodeRec qc qual)(DS:A.depth<lZ)
  (DT:bk s (fnX name qual params body scope [] dV kV doc pm none qc ct) args binds)(qV:∀y∈binds,scope.names.lookup y.1=some .local)
  (h:∀g L' m4,Fr h₀ L g m->Fr g L' m4 (λy=>binds.reverse.lookup y)->j_ g L' m4 news->mq A base (env::outer) g->h₀.StaysIn g->(∀p∈news,p.1<L')->
   W nd (aX prog w) (A.deeper (g6 qual scope L' f qc [])) (aO body (g6 qual scope L' f qc []))
    (λfl s'=>R (.ok (.ret (match fl with|.ret v=>v|_=>.none))) s')
    (λe s'=>aJ (aX prog w) (A.deeper (g6 qual scope L' f qc [])) (gZ (g6 qual scope L' f qc []) e) (λO ph=>R (.error e) ph) (λe' ph=>R (.error e') ph) s')
    {s with heap:=m4,toks:=s.toks+binds.length})
  (DU:∀x∈scope.names,x.2≠.cell) (E5:scope.isCoroutine=false) (Et:scope.isGenerator=false) (hk:scope.kind=.function):WC nd (aX prog w) A (.call (.ref f) args) R s:=by
 refine(groundX (R:=R) B F N hA hf E3).elim λFG w9=>w9.elim λBG w9=>w9.elim λst O=>?_;refine .tree rfl ?_;show W nd _ A.in1 (iP (.ref f) args) _ _ s;refine .step (du ho ?_);refine cps λV V'=>?_;obtain⟨c,oc,vs,tq,hc,xr,zc,hq⟩:=E4;refine V' ?_;obtain rfl:=hc;rw[hd];delta iO;dsimp only;rw[E5,Et];dsimp only;refine .step (eE xr zc hq (.step (ak (.step (DT _ _ _ _ ?_)))));refine .step (kH DU qV (λm4 su NZ=>?_) hk);have yq:∀b o,s.heap.get? b=some o->m4.get? b=some o:=λb o e=>NZ.extBut b o (bC (a_ e)) (ay _ e);refine .step (i7 ((Es.keeps F.keep).fresh _ NZ) DS (.pure ⟨rfl,.tree rfl ?_⟩));show W nd _ (A.deeper (g6 qual scope s.heap.objs.size f (.ref c) [])) (do point;match <-(aO body (g6 qual scope s.heap.objs.size f (.ref c) [])).onRaise (gZ (g6 qual scope s.heap.objs.size f (.ref c) []))with|.ret v=>ret v|_=>ret .none) _ _ _;refine .step (eD (.then (P:=λfl s'=>R (.ok (.ret (match fl with|.ret v=>v|_=>.none))) s') (.onRaise ((h _ s.heap.objs.size m4 FG ⟨su,λb o e=>yq b o (jD _ e),da (hideAll_size _ _)⟩
  (λp hp=>⟨yq _ _ (N p hp).1,bC (a_ (N p hp).1),iK _ (aZ hp)⟩) BG st (λp hp=>a_ (N p hp).1)).mono (λfl s' hl=>hl) λe s' k=>.of k)) λfl s' k=>?_))
 cases fl<;>exact .pure k
structure Nm(c:Cx)(ns:List Str):Prop where
 eq:c.ns=ns
 cm:c.cm=false
theorem Kp(l:List aA):∀{g₁ g':bb},(∀a∈l,∃o,g₁.get? a=some o/\∃sl,g'.get? a=some {o with slots:=sl})->∃oX:bb,oX.objs.size=g₁.objs.size/\(∀b,b∉l->oX.get? b=g₁.get? b)/\∀b∈l,oX.get? b=g'.get? b:=by
 induction l with
 |nil=>exactλ{g₁ g'} O=>⟨g₁,rfl,λO O=>rfl,λO h=>nomatch h⟩
 |cons a l ih=>intro g₁ g' h;refine(ih (g₁:=g₁) (g':=g') λb hb=>h b (.tail _ hb)).elim λoX h2=>?_;have e2:=h2.2.1;have e3:=h2.2.2;refine(aq (a∈l)).elim (λha=>⟨oX,h2.1,λb hb=>e2 b λq=>hb (.tail _ q),λb hb=>(aL.mp hb).elim (λe=>e▸e3 a ha) (e3 b)⟩) λha=>?_;refine(h a (.head _)).elim λo ho=>ho.2.elim λsl zd=>?_;refine⟨oX.update a λo=>{o with slots:=sl},(bb.size_update ..).trans h2.1,λb hb=>(bb.get?_update_other _ _ (λq:a=b=>hb (q▸.head _))).trans (e2 b λq=>hb (.tail _ q)),λb hb=>?_⟩;refine(aq (a=b)).elim (λe=>e▸?_) λN3=>(bb.get?_update_other _ _ N3).trans ((aL.mp hb).elim (λe=>(N3 e.symm).elim) (e3 b));exact((bb.get?_eq_some _ _ _).mpr ⟨by rw[bb.objs_update_self,((bb.get?_eq_some _ _ _).mp ((e2 a ha).trans ho.1)).1];rfl,((bb.get?_eq_some _ _ _).mp zd).2⟩).trans zd.symm
theorem JN{cells:Cells}(ok:Ok c d)(hg:pW c g₁)(FG:Fr g₁ c.L g m)
  (l1:∀b,b∉(c.fe::c.outer).filterMap (λO=>O.frame)->g'.get? b=g.get? b)(l2:∀b∈(c.fe::c.outer).filterMap (λO=>O.frame),∀o,g.get? b=some o->∃sl,g'.get? b=some {o with slots:=sl})(F':Fr g' L' h' m')(N':j_ g' L' h' cells):
  ∃oX,pW c oX/\Fr oX c.L h' m/\j_ oX c.L h' cells:=by
 have fq:∀b,b∈c.outer.filterMap (λO=>O.frame)->b∈(c.fe::c.outer).filterMap (λO=>O.frame):=λb hb=>by refine cps λV V'=>?_;refine(bH.mp hb).elim λenv w9=>w9.elim λhe hf=>?_;refine V' ?_;exact bH.mpr ⟨env,.tail _ he,hf⟩
 have own:c.L∈(c.fe::c.outer).filterMap (λO=>O.frame):=bH.mpr ⟨c.fe,.head _,ok.fr⟩;have nL:∀b o,g₁.get? b=some o->b≠c.L:=λb o e q=>by subst q;exact cb _ (bW (a_ e) FG.above)
 have out:∀b o,g₁.get? b=some o->b∉c.outer.filterMap (λO=>O.frame)->g'.get? b=some o:=λb o e hb=>by
  rewrite[l1 b λhm=>?_]
  ·exact FG.keep b o e
  ·obtain⟨env,he,hf⟩:=bH.mp hm;rcases aL.mp he with rfl|he
   ·rw[ok.fr]at hf;exact nL b o e (aE.inj hf).symm
   ·exact hb (bH.mpr ⟨env,he,hf⟩)
 obtain⟨oX,e1,e2,e3⟩:=Kp (c.outer.filterMap (λO=>O.frame)) (g₁:=g₁) (g':=g') λa ha=>by refine(((ok.on hg).B.frames.mem ha).2).elim λo w9=>w9.elim λho O=>?_;exact⟨o,ho,l2 a (fq a ha) o (FG.keep a o ho)⟩
 have keep:∀b o,oX.get? b=some o->g'.get? b=some o:=λb o e=>by
  by_cases hb:b∈c.outer.filterMap (λO=>O.frame)
  ·rw[<-e3 b hb];exact e
  ·exact out b o ((e2 b hb).symm.trans e) hb
 refine⟨oX,⟨e1.trans hg.1,λb hb=>(e2 b hb).trans (hg.2.1 b hb),λb hb o ho=>?_⟩,⟨?_,λb o e=>F'.keep b o (keep b o e),by rw[e1];exact FG.above⟩,λp hp=>⟨(N' p hp).1,λq=>?_,?_⟩⟩
 ·refine(hg.2.2 b hb o ho).elim λsl h1=>?_;refine(l2 b (fq b hb) _ (FG.keep _ _ h1)).elim λE6 h2=>?_;exact⟨E6,(e3 b hb).trans h2⟩
 ·refine FG.ns.elim λoL w9=>w9.elim λes w9=>w9.elim λep w9=>w9.elim λhL w9=>w9.elim λhLd w9=>w9.elim λhLk hLf=>?_;refine(l2 c.L own oL hL).elim λsl h1=>?_;exact⟨_,es,ep,F'.keep _ _ h1,hLd,hLk,hLf⟩
 ·refine FG.ns.elim λoL w9=>w9.elim λes w9=>w9.elim λep w9=>w9.elim λhL O=>?_;refine cps λV V'=>?_;refine(l2 c.L own oL hL).elim λsl h1=>?_;refine V' ?_;have:=(N' p hp).2.2;rw[q,h1]at this;cases this
 ·cases q:oX.get? p.1 with
  |none=>rfl
  |some o=>have:=(N' p hp).2.2;rw[keep _ _ q]at this;cases this
theorem Qu{i:mR}(hi:i.Is){A':Around}(ok:Ok c d)(hA:A'.frames=some (c.fe::c.outer))(hh:A'.handled=none)(ti:A'.depth+4*n<=900)(ze:A'.units+40*n<=9000){lo:List (Option AV)}{args args' xs vs us oK s}
  {R:AV->List mH->Prop}{X:mZ->List mH->Prop}(S:St c (Sg.on ⟨lo,as⟩ fr) (args++xs) (us++vs) s)(hl:us.length=args.length)(hb:bk s i.fd ⟨us,[]⟩ ((i.ns.take oK.length).zip oK))(v5:∀fz,mL fz args us->mL fz args' oK)
  (body:∀(c':Cx) (E':Ex),c'.w=c.w->c'.nd=c.nd->Ok c' n->c'.env=i.env c'.L->Nm c' i.ns->Exits c' E' (λx σ=>X x σ.as)->WS c' E' ⟨E2 i.ns args',as⟩ (aO (sQ i.st) c'.env) (Back R)):
  WC c.nd c.M A' (.call (.ref i.f) ⟨us,[]⟩) (λr s'=>match r with|.ok (.ret v)=>vI c lo fr xs vs R v s'|.ok _=>False|.error e=>yG c lo fr xs vs X e s') s:=by
 refine cps λV V'=>?_;refine S.elim λg₁ w9=>w9.elim λhg w9=>w9.elim λm w9=>w9.elim λown w9=>w9.elim λfz I=>?_;refine V' ?_;have DV:=ok;have ok:=ok.on hg;have ho:=I.st;refine cps λV V'=>?_;refine I.lo.pack.elim λys w9=>w9.elim λzf w9=>w9.elim λoy back=>?_;refine V' ?_;have el:=oy.length.symm;have qV:=hi.loc;simp only[cy,b5,beq_iff_eq,dQ]at qV;refine QW ok.B I.F I.N ok.nl hA ok.fr ok.kf ((ok.X.keeps I.F.keep) _ _ (hi.look c.w.params)) rfl (lz (ok.X.keeps I.F.keep) (hi.code c.w.params)) (by show A'.depth<1000;exact o6 ti) hb (λy hy=>(qV _ ((λy hy=>eQ (iD hy).1:∀y∈(i.ns.take oK.length).zip oK,y.1∈i.ns) y hy)).1)
  (λg L' m4 FG F' N' B' st lt=>?_) (λx hx=>by have:=cy.mp hi.cell x hx;simpa using this) hi.co hi.gen hi.kd
 let c':Cx:=⟨c.nd,c.w,A',c.base,c.fe::c.outer,g,L',i.env L',i.ns,c.r,i.env L',false⟩
 have zg:Ok c' n:=by refine⟨ok.Xb,ok.Gb,ok.uQ,B',hh,λO=>rfl,λO=>rfl,rfl,hi.kd,hi.kd,rfl,rfl,hi.nd,λO x hx=>?_,ti,ze⟩;exact qV x hx
 have S':St c' (Sg.on ⟨E2 i.ns args',as⟩ fr) (ys++xs) (zf++vs) {s with heap:=m4,toks:=s.toks+((i.ns.take oK.length).zip oK).length}:=by refine⟨g,.refl,_,own,fz,F',?_,N',I.nd,I.sat,oy.append ((ho.oi hl).2),I.same⟩;intro x av k;refine(Ui (v5 fz ((ho.oi hl).1)) k).elim λv w9=>w9.elim λhm zh=>?_;refine⟨v,RY ?_ hm,zh⟩;rw[eI (by rw[bS];exact o5)];exact hi.nd.sublist (List.take_sublist _ _)
 refine W.mono ((body c' (Er c' X) rfl rfl zg rfl ⟨rfl,rfl⟩ (HO zg rfl X)).go fr _ _ _ S') ?_ ?_
 ·rintro f s' ⟨o,mF,hf,hR⟩;have fin:∀(av:AV) (v:Value),St c' (mF.on fr) (av::(ys++xs)) (v::(zf++vs)) s'->R av mF.as->vI c lo fr xs vs R v s':=by
   rintro av v ⟨g',zi,m2,vJ,pJ,I2⟩ hr;refine cps λV V'=>?_;obtain⟨oX,DW,F2,N2⟩:=JN DV hg FG zi.2.1 zi.2.2 I2.F I2.N;refine V' ?_;refine⟨av,mF.as,⟨oX,DW,m,vJ,pJ,F2,?_,N2,I2.nd,I2.sat,?_,I2.same⟩,hr⟩
   ·exact back pJ (I2.st.tl.oi el).1
   ·exact .cons I2.st.hd (I2.st.tl.oi el).2
  cases o with
  |ret av=>obtain⟨v,rfl,S2⟩:=hf;exact fin av v S2 hR
  |next=>obtain⟨rfl,S2⟩:=hf;exact fin .none .none (S2.push λO=>.none) hR
  |brk=>exact hR.elim
  |cont=>exact hR.elim
 ·intro e s' h;refine aY h ?_ λO O q=>q.elim;intro _ s2 V0;refine cps λV V'=>?_;obtain⟨x,as',hX,a,dd,vJ,pJ,rfl,⟨B,hB,J,fl⟩,u,nd,hp,sat,o,sm⟩:=V0;refine V' ?_;refine⟨x,as',hX,g₁,a,dd,m,vJ,pJ,g,hg,rfl,FG,?_,⟨B,λb o e hb=>hB b o (FG.keep b o e) hb,J,fl⟩,u,nd,λp oo=>?_,sat,?_,sm⟩
  ·exact back pJ (o.oi el).1
  ·have z:=(hp p oo).2;refine⟨λq=>?_,?_⟩
   ·obtain⟨o,es,ep,ho,_⟩:=FG.ns;rw[<-q]at ho;have:g.get? p.1=none:=z;rw[ho]at this;cases this
   ·cases q:g₁.get? p.1 with
    |none=>rfl
    |some o=>have:g.get? p.1=none:=z;rw[FG.keep _ _ q]at this;cases this
  ·exact(o.oi el).2
theorem mG.enter{i:mR}(hi:i.Is)(oK:List Value->List Value)
  (hb:∀(s:ai) us,us.length=args.length->(∀w:cL,(KK w.params).In s.heap->bk s i.fd ⟨us,[]⟩ ((i.ns.take (oK us).length).zip (oK us))))(v5:∀fz us,mL fz args us->mL fz args' (oK us))
  (body:∀(c:Cx) (E:Ex),Ok c n->c.env=i.env c.L->Nm c i.ns->Exits c E (λx σ=>X x σ.as)->(nb=true->c.nd=true)->WS c E ⟨E2 i.ns args',as⟩ (aO (sQ i.st) c.env) (Back R)):mG nb (.ref i.f) (n+1) args as R X:=by
 intro c d A' lo fr xs vs us s pK ok J hA hh hd hu S hl;exact Qu hi (n:=n) ok hA hh (o4 J hd (ok.dep)) (o3 J hu (ok.un)) S hl (hb s us hl c.w (S.sq ok)) (λfz o=>v5 fz us o) (λc' E' O e ok he J ex=>body c' E' ok he J ex λh=>e▸pK h)
end
theorem mR.Is.of{i:mR}(a:autoParam (∀P,(KK P).lookup i.f=some ⟨.type "function",none,.func i.fd,#[]⟩) aP)(b:autoParam (∀P,codeIn (KK P) i.cd i.qual=true) aP)(c:autoParam (∀P,f6 (KK P) (.ref i.f)=true) aP)(d:autoParam i.ns.Nodup aK)
  (e:autoParam ((i.ns.all λn=>(nD i.st).names.lookup n==some .local&&!(n==("__debug__":Str)))=true) aQ)(f:autoParam (((nD i.st).names.all λx=>x.2 !=.cell)=true) aQ)(g:autoParam ((nD i.st).isCoroutine=false) aQ)(h:autoParam ((nD i.st).isGenerator=false) aQ)(k:autoParam ((nD i.st).kind=.function) aQ):i.Is:=⟨a,b,c,d,e,f,g,h,k⟩
theorem FQ:FW.Is:=.of
theorem FR:FY.Is:=.of
theorem Gh:Hb.Is:=.of
theorem zH:Gu.Is:=.of
theorem O4:Gv.Is:=.of
theorem OW:FZ.Is:=.of
theorem O5:Gw.Is:=.of
theorem OZ:Gd.Is:=.of
theorem O6:Gx.Is:=.of
theorem O7:Gy.Is:=.of
theorem OV:FU.Is:=.of
theorem Pc:GP.Is:=.of
theorem O8:Gz.Is:=.of
theorem xI:Hc.Is:=.of
theorem Pd:GQ.Is:=.of
theorem OY:F6.Is:=.of
theorem Pl:Hd.Is:=.of
theorem Pm:He.Is:=.of
theorem Pe:GR.Is:=.of
theorem G1:Ii.Is:=.of
theorem G2:Ij.Is:=.of
theorem G3:Ik.Is:=.of
theorem Cm:GS.Is:=.of
theorem CB:HL.Is:=.of
theorem F3:GA.Is:=.of
theorem Gi:Hf.Is:=.of
theorem Cg:Ge.Is:=.of
theorem Cs:Hg.Is:=.of
theorem zI:GU.Is:=.of
theorem Cn:GV.Is:=.of
theorem Gj:Hh.Is:=.of
theorem F7:GW.Is:=.of
theorem Ct:Hi.Is:=.of
theorem Co:GX.Is:=.of
theorem Cu:Hj.Is:=.of
theorem zJ:Hk.Is:=.of
theorem Gk:Hl.Is:=.of
theorem Cv:Hm.Is:=.of
theorem Ci:GC.Is:=.of
theorem wo:GY.Is:=.of
theorem CC:HM.Is:=.of
theorem F8:GZ.Is:=.of
theorem Cw:Hn.Is:=.of
theorem Cp:G0.Is:=.of
theorem Gl:Ho.Is:=.of
theorem Cy:Hp.Is:=.of
section
section
variable {prog:Program}{w:cL}{A:Around}{E:Value->ai->Prop}{R:gv->ai->Prop}{h:bb}{g:Array mn}{d:Drawn}{t:Nat}{os:ju}
variable {nm q:Str}{C N:aA}{bs bm:List Value}{uE:Bool}{sn:List Str}{fq:List Value}{ab:Bool}{col:Option Bool}{dd:Option aA}{k0 k1 k2 k3 k5:Option Value}
noncomputable abbrev FX:=PySem.F.excBase_Exception
theorem UW(hB:bm.contains (.type "Exception")=true)(hA:bm.contains (.type "AttributeError")=false)(hN:bm.contains (.type "NameError")=false)(hC:h.get? C=some (ea nm q C N bs bm uE sn fq ab col dd k0 k1 k2 k3 k5 "Exception.__new__"))
  (hq:R (.ok (.ret (.ref (h.objs.size+1)))) ⟨(h.push {cls:=.type "tuple",data:=.seq rest.toArray}).push {cls:=.ref C,data:=.fields #[.ref h.objs.size,.none,.none,.none,.bool false,.none]},g,d,t,os⟩)(wW:rest.length<=e0):
  iM (aX prog w) A (.builtin "Exception.__new__" ⟨.ref C::rest,[]⟩) R ⟨h,g,d,t,os⟩:=by
 have adv:=FX.ends;have hcA:(di C::bm).contains (.type "AttributeError")=false:=by rw[cJ,hA];rfl
 have hcN:(di C::bm).contains (.type "NameError")=false:=by rw[cJ,hN];rfl
 refine PySem.codeAny_builtinAt FX.entry ?_;refine kz ?_;show PySem.wpAt _ _ _ (stack>>=_) _ _ _;refine kz (PySem.wpAt_stack λp below=>jM ?_)
 wp_walk
 refine jM ?_;rw[FX.owner]
 repeat (first|with_reducible refine wpAny_madeHere_exc FX.canon hC ?_|with_reducible refine cu hC ?_|(with_reducible refine dA hC ?_;first|rewrite[(by rw[cJ,hB,eZ]:(di C::bm).contains (.type "Exception")=true)]|rewrite[hcA]|rewrite[hcN])|wp_step)
 show R _ _;rw[bb.size_push];exact hq
theorem Tt(hB:bm.contains (.type "Exception")=true)(hC:h.get? C=some (ea nm q C N bs bm uE sn fq ab col dd k0 k1 k2 k3 k5 "Exception.__new__"))
  (hq:Q () ⟨h,g,d,t,os⟩):aJ (aX prog w) A (cc "Exception.__new__" ⟨.ref C::rest,[]⟩) Q E ⟨h,g,d,t,os⟩:=by
 delta cc;rw[FX.newKind];dsimp only;rw[FX.newSplit];dsimp only;rw[FX.newRow];dsimp only
 repeat (first|refine cu hC ?_|(refine dA hC ?_;rewrite[(by rw[cJ,hB,eZ]:(di C::bm).contains (.type "Exception")=true)])|refine wpAny_staticBase_exc hC ?_|refine lO hC ?_|rw[bne_self_eq_false,gI,if_false]|wp_step)
 exact hq
theorem Uj(hB:bm.contains (.type "Exception")=true)(hA:bm.contains (.type "AttributeError")=false)(hN:bm.contains (.type "NameError")=false)
  (hC:h.get? C=some (ea nm q C N bs bm uE sn fq ab col dd k0 k1 k2 k3 k5 "Exception.__new__"))(hi:fN (aX prog w) h (cO (.ref C) "__init__") (some (.ref fI)))(zj:h.get? fI=some oI)(zk:oI.cls=.type "function")
  (hq:aJ (aX prog w) A (mh (.ref fI) (.ref (h.objs.size+1)::rest)) (λr s'=>r=.none/\Q (.done (.ret (.ref (h.objs.size+1)))) s') E
   ⟨(h.push {cls:=.type "tuple",data:=.seq rest.toArray}).push {cls:=.ref C,data:=.fields #[.ref h.objs.size,.none,.none,.none,.bool false,.none]},g,d,t,os⟩) (wW:rest.length<=e0):
  aJ (aX prog w) A (aB.«type.__call__» ⟨.ref C::rest,[]⟩) Q E ⟨h,g,d,t,os⟩:=by
 repeat (first|with_reducible refine cu hC ?_|with_reducible refine lO hC ?_|wp_step)
 refine codeAny_call_builtin_code (fj _ FX.quiet) (Tt hB hC ?_);refine UW hB hA hN hC ?_ wW;show aJ _ _ _ _ _ _;have k:∀b o,h.get? b=some o->((h.push {cls:=.type "tuple",data:=.seq rest.toArray}).push {cls:=.ref C,data:=.fields #[.ref h.objs.size,.none,.none,.none,.bool false,.none]}).get? b=some o:=λb o e=>ay _ (ay _ e);have aco:((h.push {cls:=.type "tuple",data:=.seq rest.toArray}).push
   {cls:=.ref C,data:=.fields #[.ref h.objs.size,.none,.none,.none,.bool false,.none]}).get? (h.objs.size+1)=some
   {cls:=.ref C,data:=.fields #[.ref h.objs.size,.none,.none,.none,.bool false,.none]}:=by heap_get
 repeat (first|with_reducible refine cu aco ?_|(with_reducible refine dA (k _ _ hC) ?_;rewrite[(by simp:(di C::bm).contains (.ref C)=true)])|wp_step)
 show aJ _ _ (cO (.ref C) _) _ _ _;refine fN.at (hi.keeps k) ?_;refine bN (ag ?_);refine ag (fF (T:="function") ⟨_,k _ _ zj,zk⟩ ?_);rw[if_pos (by decide)];refine ak (ag (aY hq (λr s' hr=>?_) λO O x=>x));obtain⟨rfl,hQ⟩:=hr
 wp_walk
 exact hQ
theorem x_call(hB:bm.contains (.type "Exception")=true)(hA:bm.contains (.type "AttributeError")=false)(hN:bm.contains (.type "NameError")=false)
  (hC:h.get? C=some (ea nm q C N bs bm uE sn fq ab col dd k0 k1 k2 k3 k5 "Exception.__new__"))(hi:fN (aX prog w) h (cO (.ref C) "__init__") (some (.ref fI)))(zj:h.get? fI=some oI)(zk:oI.cls=.type "function")
  (hq:aJ (aX prog w) (A.under (.builtin "type.__call__" ⟨.ref C::rest,[]⟩)) (mh (.ref fI) (.ref (h.objs.size+1)::rest)) (λr s'=>r=.none/\Q (.ref (h.objs.size+1)) s') E
   ⟨(h.push {cls:=.type "tuple",data:=.seq rest.toArray}).push {cls:=.ref C,data:=.fields #[.ref h.objs.size,.none,.none,.none,.bool false,.none]},g,d,t,os⟩) (wW:rest.length<=e0):
  aJ (aX prog w) A (mh (.ref C) rest) Q E ⟨h,g,d,t,os⟩:=by
 have f1:=tc_lookup;have f2:=tc_bind (.ref C);have hT:(⟨h,g,d,t,os⟩:ai).TypeIs (.ref C) "type":=⟨_,hC,rfl⟩;refine jA (gx ?_);show aJ _ _ (iP (.ref C) _) _ _ _
 repeat (any_goals (first|assumption|with_reducible refine cu hC ?_|wp_step))
 refine⟨rfl,?_⟩;refine codeAny_call_builtin_at (fj _ (by decide +kernel)) md (wpAny_check_type_call_sub hC (Uj hB hA hN hC hi zj zk (aY hq (λr s' hr=>hr) λO O x=>x) wW))
end
end
section
section
variable {w:cL}{A:Around}{E:Value->ai->Prop}{R:gv->ai->Prop}{s:ai}
theorem Uk(e:aA):eF (.ref e) "__setattr__" [.ref 58,.ref 38,.type "Exception",.type "BaseException",.type "object"]=pure ():=by kernel_rfl!
theorem Ul(e:aA):eF (.ref e) "__setattr__" [.ref 70,.ref 38,.type "Exception",.type "BaseException",.type "object"]=pure ():=by kernel_rfl!
structure qK(C:aA):Prop where
 refuse:∃bm,(∀e:aA,eF (.ref e) "__setattr__" (.ref C::bm)=pure ())/\bm.contains (.type "Exception")=true/\bm.contains (.type "BaseException")=true/\bm.contains (.type "AttributeError")=false/\bm.contains (.type "NameError")=false/\bm.contains (.type "object")=true/\
  ∀P,∃nm q N bs sn fq col k0 k1 k2 k3 k5,(KK P).lookup C=some (ea nm q C N bs bm true sn fq false col none k0 k1 k2 k3 k5 "Exception.__new__")
 setattr:∀P,cg (KK P) (.ref C) "__setattr__"=some (some (.builtin "object.__setattr__"))
theorem zl:qK 58:=⟨⟨[.ref 38,.type "Exception",.type "BaseException",.type "object"],Uk,by decide +kernel,by decide +kernel,by decide +kernel,by decide +kernel,by decide +kernel,λP=>⟨af "Malformed",af "Malformed",57,[.ref 38],[],[],none,some (.ref 42),none,some (.str (af "Malformed") 225),some (.str (af "Malformed") 233),some (.bool true),by kernel_rfl!⟩⟩,λP=>by kernel_rfl!⟩
theorem zm:qK 70:=⟨⟨[.ref 38,.type "Exception",.type "BaseException",.type "object"],Ul,by decide +kernel,by decide +kernel,by decide +kernel,by decide +kernel,by decide +kernel,λP=>⟨af "Misused",af "Misused",69,[.ref 38],[],[],none,some (.ref 61),none,some (.str (af "Misused") 251),some (.str (af "Misused") 259),some (.bool true),by kernel_rfl!⟩⟩,λP=>by kernel_rfl!⟩
theorem RZ{name:Str}{hsh:Int}{key v:Value}(es:List DictEntry):(kL name hsh key v es).length<=es.length+1:=es.rec (bz _) λe r ih=>by
 refine(?_:(if e.key.isStr name then _ else _:List DictEntry).length<=_);refine(aq (e.key.isStr name=true)).elim (λh=>?_) λh=>?_
 ·rw[if_pos h];exact fL _
 ·rw[if_neg h];exact kR ih
open Builtin Builtin.ObjectAttr in
set_option tactic.hygienic true in
theorem JO{M:Model}{d:aA}{es:List DictEntry}{n:Nat}{name:Str}{tk:Tok}{v:Value}{Q:g8->ai->Prop}(D:s.heap.get? d=some (cX es n))(hl:(lx name es).isSome=true)(hz:es.length<=900)
  (h:∀h',h'.get? d=some (cX (kL name (cq M.w.params name) (.str name s.toks) v es) (lT name es n))->(∀b,b≠d->h'.get? b=s.heap.get? b)->Q (.done (.ret .none)) {s with heap:=h',toks:=s.toks+1}):
  aJ M A (storeInDict d (.str name tk) name v) Q E s:=by
 refine ag (ak (ag ?_));refine ag (ag (lS (ak (ag (wpAny_mkText (ag (jz D ?_)))))));have c:(!es.toArray.any (λO=>O.key.isStr name)&&es.toArray.any (λO=>O.refKey))=false:=by
  (rewrite[<-kq,<-kq];try (with_reducible rfl))
  cases q:es.find? (λO=>O.key.isStr name)with
  |some en=>rw[dZ.mpr ⟨en,List.mem_of_find?_eq_some q,List.find?_some q⟩];rfl
  |none=>
   unfold lx at hl;rw[q]at hl;cases z:es.any (λO=>O.refKey)with
   |false=>exact ez _
   |true=>rw[z]at hl;cases hl
 dsimp only
 (rewrite[aRefKeyMayBeTheName_at,c];try (with_reducible rfl))
 have e':Obj.putName name (cq M.w.params name) (.str name s.toks) v (cX es n)=cX (kL name (cq M.w.params name) (.str name s.toks) v es) (lT name es n):=putName_dict ..;have up:(s.heap.update d (Obj.putName name (cq M.w.params name) (.str name s.toks) v)).get? d=some (cX (kL name (cq M.w.params name) (.str name s.toks) v es) (lT name es n)):=by rw[bb.get?_update_self _ D (by(rewrite[e'];try (with_reducible rfl));rfl),e']
 refine wpAny_updatePart D ?_;refine ag (lP up ?_ ?_)
 ·refine pastItsLine_dict ?_
  (rewrite[bK,cz];try (with_reducible rfl))
  exact o7 hz (RZ ..)
 ·exact ak (h _ up λb hb=>bb.get?_update_other _ _ (fh hb))
end
end
section
inductive p9:List (Str×AV)->Str->AV->List (Str×AV)->Prop
 |nil {x v}:p9 [] x v [(x,v)]
 |here {x u v f}:p9 ((x,u)::f) x v ((x,v)::f)
 |there {x y u v f f'}:y≠x->p9 f x v f'->p9 ((y,u)::f) x v ((y,u)::f')
theorem p9.keys{x v}(h:p9 f x v f'):∀y,y∈f'.map (λO=>O.1)->y=x\/y∈f.map (λO=>O.1):=by
 induction h with
 |nil=>intro y hy;simp at hy;exact .inl hy
 |here=>intro y hy;exact .inr hy
 |there ne _ ih=>
  intro y hy;simp only[bE,aL]at hy ⊢;rcases hy with rfl|hy
  ·exact .inr (.inl rfl)
  ·exact(ih y hy).imp id .inr
theorem p9.nodup{x v}(h:p9 f x v f')(n:(f.map (λO=>O.1)).Nodup):(f'.map (λO=>O.1)).Nodup:=by
 induction h with
 |nil=>simp
 |here=>exact n
 |there ne p ih=>
  simp only[bE,bj]at n ⊢;refine⟨λhm=>?_,ih n.2⟩;refine(p.keys _ hm).elim (λe=>?_) λhm=>?_
  ·exact ne e
  ·exact n.1 hm
theorem ot.put(h:p9 f x v f')(o:Of fz v u):∀{es},ot P fz f es->ot P fz f' (kL x (cq P x) (.str x t) u es):=by
 induction h with
 |nil=>intro es e;cases e;exact .cons o .nil
 |here=>
  intro es e;cases e with
  |cons a b=>unfold kL;rw[if_pos (by rw[Im];simp)];exact .cons o b
 |there ne _ ih=>
  intro es e;cases e with
  |cons a b=>unfold kL;rw[if_neg (by rw[Im];simpa using ne)];exact .cons a (ih o b)
theorem ot.length{f es}(h:ot P fz f es):es.length=f.length:=h.rec (motive:=λf es _=>es.length=f.length) rfl λ_ _ ih=>congrArg fu ih
theorem ot.look:∀{f es},ot P fz f es->(lx x es).isSome=true:=by intro f es h;unfold lx;rw[h.keys];generalize es.find? _=z;cases z<;>rfl
structure Sets(C:aA):Prop where
 cd:∀P,∃cd,clsIn (KK P) C=some cd/\cd.hasDict=true/\(∀e:aA,eF (.ref e) "__setattr__" cd.mro=pure ())/\mroIn (KK P) C (.type "object")=some true
 sa:∀P,cg (KK P) (.ref C) "__setattr__"=some (some (.builtin "object.__setattr__"))
theorem Sets.plain(h:∀P,(plainOver (KK P) C&&jZ (KK P) C)=true)(h1:∀P,mroIn (KK P) C (.type "object")=some true)(h2:∀P,cg (KK P) (.ref C) "__setattr__"=some (some (.builtin "object.__setattr__"))):Sets C:=by refine⟨λP=>?_,h2⟩;have:=h P;simp only[b5]at this;refine cps λV V'=>?_;refine this.elim λa b=>?_;refine(any_some a).elim λcd w9=>w9.elim λhc ho=>?_;obtain⟨cd',zo,hd⟩:=any_some b;obtain rfl:cd=cd':=aE.inj (hc.symm.trans zo);refine V' ?_;exact⟨cd,hc,hd,λe=>refuse_only _ ho,h1 P⟩
theorem qK.sets(X:qK C):Sets C:=by
 obtain⟨⟨bm,hr,hE,hB,hA,hN,ho,hl⟩,sa⟩:=X;refine⟨λP=>?_,sa⟩;refine cps λV V'=>?_;refine(hl P).elim λnm w9=>w9.elim λq w9=>w9.elim λN w9=>w9.elim λbs w9=>w9.elim λsn w9=>w9.elim λfq w9=>w9.elim λcol w9=>w9.elim λk0 w9=>w9.elim λk1 w9=>w9.elim λk2 w9=>w9.elim λk3 w9=>w9.elim λk5 e=>?_;refine V' ?_;have hc:∃cd,clsIn (KK P) C=some cd/\cd.hasDict=true/\cd.mro=.ref C::bm:=by unfold clsIn;rw[e];exact⟨_,rfl,rfl,rfl⟩
 refine hc.elim λcd w9=>w9.elim λhc w9=>w9.elim λhd hm=>?_;refine⟨cd,hc,hd,λx=>by rw[hm];exact hr x,?_⟩;unfold mroIn;rw[hc,j2,hm];simp only[ki,gI,if_false,cJ,ho,eZ]
section
variable {w:cL}{A:Around}{E:Value->ai->Prop}{s:ai}{x C:aA}
open Builtin Builtin.ObjectAttr
theorem R3(X:(KK w.params).In s.heap)(I:cQ s.heap x ox C od)(hf:cg (KK w.params) (.ref C) name=some none)(hc:clsIn (KK w.params) C=some cd)
  (hr:eF (.ref x) "__setattr__" cd.mro=pure ())(h:aJ (aX PW w) A (storeInOwnDict (.ref x) (.ref C) (.str name tk) name v false) Q E s):
  aJ (aX PW w) A (aB.«object.__setattr__» ⟨[.ref x,.str name tk,v],[]⟩) Q E s:=by
 rw[osa_eq,refuse_eq];refine ag (ag (I.type.here (ag (((jg X hc).andThen .now:fN (aX PW w) s.heap (mroOf (.ref C)) cd.mro).here ?_))));rw[hr];exact ak (ag (I.type.here (ag ((gr X hf).here (ag (ak h))))))
theorem C1(hC:Sets C)(X:(KK w.params).In s.heap)(I:cQ s.heap x ox C od)(hf:cg (KK w.params) (.ref C) name=some none)
  (h:∀A' tk,aJ (aX PW w) A' (storeInOwnDict (.ref x) (.ref C) (.str name tk) name v false) (λfin s'=>fin=.done (.ret .none)/\Q () s') (λO O=>False) {s with toks:=s.toks+1}):
  aJ (aX PW w) A (lH (.ref x) name v) Q E s:=by
 refine set_plain X I (hC.sa _) ?_;refine cps λV V'=>?_;refine(hC.cd w.params).elim λcd w9=>w9.elim λhc w9=>w9.elim λhd w9=>w9.elim λhr ho=>?_;refine V' ?_;have SF:=PySem.F.store_object;refine gO SF.slot.plain SF.entry (check_slot (i:="object.__setattr__") (owner:="object") (n:="__setattr__") (self:=.ref x) (rest:=[.str name s.toks,v]) (kw:=[]) SF.kind SF.split (I.type.andThen (looks_mroIn X ho)) (SF.args (.ref x) (.str name s.toks) v) ?_);refine R3 (s:={s with toks:=s.toks+1}) X I hf hc (hr x) (aY (h _ _) ?_ ?_)
 ·rintro fin s' ⟨rfl,q⟩;exact q
 ·intro _ _ q;exact q.elim
theorem Ip(hx:s.heap.get? x=some ⟨.ref C,some d,oda,N4⟩)
  (hc:fN M s.heap (classData C) cd)(hd:cd.hasDict=true)(D:s.heap.get? d=some (cX es n))(hl:(lx name es).isSome=true)(hz:es.length<=900)
  (h:∀h',h'.get? d=some (cX (kL name (cq M.w.params name) (.str name s.toks) v es) (lT name es n))->(∀b,b≠d->h'.get? b=s.heap.get? b)->Q (.done (.ret .none)) {s with heap:=h',toks:=s.toks+1}):
  aJ M A (storeInOwnDict (.ref x) (.ref C) (.str name tk) name v false) Q E s:=by
 refine ag (ak (ag (ag (jz hx (ag (hc.here ?_))))));rw[hd];refine ak (a:=some d) (ag (ak ?_));show aJ M A (storeInDict d (.str name tk) name v) Q E s;exact JO D hl hz h
theorem R4{vs:Array Value}{N4:Array (Option Value)}{name:Str}{tk:Tok}{v:Value}{Q:g8->ai->Prop}(hx:s.heap.get? x=some ⟨.ref C,none,.fields vs,N4⟩)
  (hc:fN M s.heap (classData C) cd)(hd:cd.hasDict=true)
  (h:∀h',h'.get? s.heap.objs.size=some (cX [⟨cq M.w.params name,.str name s.toks,v⟩] (lT name [] 0))->(∀b,b≠s.heap.objs.size->h'.get? b=((s.heap.push lV).update x λo=>{o with dict:=some s.heap.objs.size}).get? b)->
   Q (.done (.ret .none)) {s with heap:=h',toks:=s.toks+1}):
  aJ M A (storeInOwnDict (.ref x) (.ref C) (.str name tk) name v false) Q E s:=by
 refine ag (ak (ag (ag (jz hx (ag (hc.here ?_))))));rw[hd];refine ag (wpAny_alloc' (ag (wpAny_update' (ay lV hx) (ak ?_))));show aJ M A (storeInDict s.heap.objs.size (.str name tk) name v) Q E _;refine JO (es:=[]) (n:=0) (s:={s with heap:=(s.heap.push lV).update x λo=>{o with dict:=some s.heap.objs.size}}) ?_ rfl (by simp) h;exact(bb.get?_update_ne _ _ _ _ (bC (a_ hx)).symm).trans (bb.get?_push_at rfl rfl)
end
end
section
variable {c:Cx}{σ:Sg}{d:Nat}{E:Ex}
@[irreducible] def pX(c:Cx)(E:Ex)(σ:Sg)(x y:AV)(t:Value->Value->fH Value)(Q:AV->Sg->Prop):Prop:=
 ∀fr xs vs va vb s,St c (σ.on fr) (y::x::xs) (vb::va::vs) s->W c.nd c.M c.A (t va vb) (Got c fr xs vs Q) (E.go fr xs vs) s
theorem pX.go(self:pX c E σ x y t Q):∀fr xs vs va vb s,St c (σ.on fr) (y::x::xs) (vb::va::vs) s->W c.nd c.M c.A (t va vb) (Got c fr xs vs Q) (E.go fr xs vs) s:=by with_unfolding_all exact self
theorem mQ.nI(h:mQ c σ x y t z)(q:Q z σ):pX c E σ x y t Q:=by intro fr xs vs va vb s S;exact h.go _ fr xs vs va vb s _ S λv s' S'=>⟨z,σ,S',q⟩
theorem Ex.pop{fr xs vs x v e s}(h:E.go fr (x::xs) (v::vs) e s):E.go fr xs vs e s:=E.hand _ _ _ _ _ _ _ (λfz o=>by cases o;assumption) h
theorem WE.run'{fr xs vs s x u}{Q:Value->ai->Prop}(h:WE c E σ t P)(S:St c (σ.on fr) (x::xs) (u::vs) s)(k:∀y mF v s',P y mF->St c (mF.on fr) (y::x::xs) (v::u::vs) s'->Q v s'):W c.nd c.M c.A t Q (E.go fr xs vs) s:=by
 with_reducible refine W.mono (h.go fr _ _ s S) ?_ ?_
 ·rintro v s' ⟨x,mF,a,b⟩;exact k x mF v s' b a
 ·intro _ _ e;exact E.pop e
theorem WE.binop(h:WE c E σ (aT l c.env) λx mM=>WE c E mM (aT r c.env) λy mT=>pX c E mT x y (cV op) Q):WE c E σ (aT (.BinOp l op r pos) c.env) Q:=by intro fr xs vs s S;with_reducible exact W.BinOp (h.run S λx mM va s1 w S1=>w.run' S1 λy mT vb s2 w2 S2=>w2.go fr xs vs va vb s2 S2)
theorem WE.cmp(h:WE c E σ (aT l c.env) λx mM=>WE c E mM (aT r c.env) λy mT=>pX c E mT x y (bY op) Q)(hm:autoParam (dU op r=false) aR):WE c E σ (aT (.Compare l [op] [r] pos) c.env) Q:=by intro fr xs vs s S;with_reducible exact W.I1 (h.run S λx mM va s1 w S1=>w.run' S1 λy mT vb s2 w2 S2=>w2.go fr xs vs va vb s2 S2) hm
inductive M8(c:Cx)(fr:List mH)(xs:List AV)(vs:List Value)(Q:Bool->Sg->Prop)(b:Bool)(s:ai):Prop
 |mk (mF:Sg) (S:St c (mF.on fr) xs vs s) (q:Q b mF)
@[irreducible] def WT(c:Cx)(E:Ex)(σ:Sg)(e:cI)(Q:Bool->Sg->Prop):Prop:=
 ∀fr xs vs s,St c (σ.on fr) xs vs s->W c.nd c.M c.A (cY e c.env (aT e c.env)) (M8 c fr xs vs Q) (E.go fr xs vs) s
theorem WT.go(self:WT c E σ e Q):∀fr xs vs s,St c (σ.on fr) xs vs s->W c.nd c.M c.A (cY e c.env (aT e c.env)) (M8 c fr xs vs Q) (E.go fr xs vs) s:=by with_unfolding_all exact self
theorem Tr.wt(h:Tr c σ e b)(q:Q b σ):WT c E σ e Q:=by intro fr xs vs s S;exact h.go _ fr xs vs s _ S λs' S'=>⟨σ,S',q⟩
theorem WT.mono(h:WT c E σ e Q)(k:∀b mF,Q b mF->Q' b mF):WT c E σ e Q':=by
 intro fr xs vs s S;with_reducible refine W.mono (h.go fr xs vs s S) ?_ ?_
 ·rintro b s' ⟨mF,a,q⟩;exact⟨mF,a,k b mF q⟩
 ·intro _ _ e;exact e
theorem WT.not(h:WT c E σ e λb mF=>Q (!b) mF):WT c E σ (.UnaryOp .Not e pos) Q:=by intro fr xs vs s S;exact W.M3 (W.mono (h.go fr xs vs s S) (λb s' k9=>by obtain⟨mF,a,q⟩:=k9;exact⟨mF,a,q⟩) λO O e=>e)
theorem WT.plain(h:WE c E σ (aT e c.env) λx mF=>∃b,x=.bool b/\Q b mF)(he:∀env whole,cY e env whole=(do let v <-whole;dN e.pos;cE [v] (h_ v)):=by intros;rfl):WT c E σ e Q:=by
 intro fr xs vs s S
 with_reducible refine W.Kl (h.run S λx mF v s' q S'=>?_) (he _ _)
 refine cps λV V'=>?_
 obtain⟨b,rfl,q⟩:=q
 refine S'.of.elim λfz o=>?_
 refine V' ?_
 rw[o.bool_inv]
 with_reducible exact W.of (dh ⟨mF,S'.pop,q⟩)
theorem WE.ite(ht:WT c E σ t λg mF=>if g then WE c E mF (aT a c.env) Q else WE c E mF (aT b c.env) Q):WE c E σ (aT (.IfExp t a b pos) c.env) Q:=by
 intro fr xs vs s S
 with_reducible refine W.IfExp (W.mono (ht.go fr xs vs s S) ?_ λO O e=>e)
 rintro g s' ⟨mF,S',w⟩
 cases g with
 |true=>with_unfolding_all exact w fr xs vs s' S'
 |false=>exact w.go fr xs vs s' S'
theorem WS.rL(ht:WT c E σ t λg mF=>if g then WS c E mF (aO a c.env) (rE c E rest Q)else WS c E mF (aO b c.env) (rE c E rest Q)):WS c E σ (aO (.If t a b p::rest) c.env) Q:=by
 refine .cons ?_
 intro fr xs vs s S
 with_reducible refine W.If (W.mono (ht.go fr xs vs s S) ?_ λO O e=>e)
 rintro g s' ⟨mF,S',w⟩
 cases g with
 |true=>with_unfolding_all exact w fr xs vs s' S'
 |false=>with_unfolding_all exact w fr xs vs s' S'
theorem Tr.chain{o1 o2:CmpOp}{x y z:AV}{b1 b2:Bool}(hl:Ev c σ l x)(h1:Ev c σ r1 y)(h2:Ev c σ r2 z)(hb:mQ c σ x y (bY o1) (.bool b1))(sv:mQ c σ y z (bY o2) (.bool b2))(hm:lastMarks [o1,o2] [r1,r2]=false:=by with_unfolding_all rfl):
  Tr c σ (.Compare l [o1,o2] [r1,r2] pos) (b1&&b2):=by
 intro E fr xs vs s Q S k
 with_reducible refine W.chain (hl.go _ _ _ _ _ _ S λva s1 S1=>h1.go _ _ _ _ _ _ S1 λvb s2 S2=>hb.go _ _ (y::xs) (vb::vs) va vb _ _ (S2.hand λfz o=>?_) λv s3 S3=>?_) hm
 ·have o1:=o.hd;have o2:=o.tl;have o3:=o2.hd;have o4:=o2.tl;exact .cons o1 (.cons o3 (.cons o1 o4))
 obtain⟨fz,o⟩:=S3.of
 rw[o.bool_inv]
 with_reducible refine dh ?_
 cases b1 with
 |false=>exact k _ S3.pop.pop
 |true=>
  rw[if_pos rfl]
  with_reducible refine h2.go _ _ _ _ _ _ S3.pop λvc s4 S4=>sv.go _ _ xs vs vb vc _ _ S4 λv s5 S5=>?_
  obtain⟨fz,o⟩:=S5.of
  rw[o.bool_inv]
  exact dh (k _ S5.pop)
end
section
variable {c:Cx}{σ:Sg}{d:Nat}{E:Ex}
theorem nN.forget{lo as as' xs vs}{s:ai}{x:mH}(S:nN c ⟨lo,as⟩ xs vs s)(R:nt x as as'):∃cl fz,Cl c.w.params fz x cl/\(∀p∈cl,s.heap.get? p.1=some p.2)/\
  ∀s',(∀b,b∉cl.map (λO=>O.1)->∀o,s.heap.get? b=some o->s'.heap.get? b=some o)->p8 s s'->nN c ⟨lo,as'⟩ xs vs s':=by
 refine cps λV V'=>?_;obtain⟨m,own,fz,I⟩:=S;refine V' ?_;obtain⟨pre,cl,post,k,r⟩:=I.sat.del R;have t9:∀p∈cl,p∈(pre++(cl++post))++fz:=λp hp=>by simp[hp]
 have nj:∀p∈cl,p.1≠c.L/\c.h₀.get? p.1=none:=λp hp=>(I.N p (t9 p hp)).2;refine⟨cl,fz,k,λp hp=>(I.N p (t9 p hp)).1,λs' ho hs=>?_⟩;have pK:=I.nd;have out:∀b o,c.h₀.get? b=some o->b∉cl.map (λO=>O.1):=λb o q hm=>by obtain⟨p,hp,rfl⟩:=aG.mp hm;rw[(nj p hp).2]at q;cases q
 have hL:c.L∉cl.map (λO=>O.1):=λhm=>by refine(aG.mp hm).elim λp w9=>w9.elim λhp q=>?_;exact(nj p hp).1 q
 refine⟨m,pre++post,fz,⟨I.F.ns.at' λo q=>ho _ hL o q,λb o q=>ho b (out b o q) o (I.F.keep b o q),I.F.above⟩,I.lo,?_,?_,r fz λO h=>h,I.st,⟨hs.1.trans I.same.1,hs.2.1.trans I.same.2.1,hs.2.2.trans I.same.2.2⟩⟩
 ·intro p hp;have apart:p.1∉cl.map (λO=>O.1):=by
   intro hm;simp only[au,cG,aH,aG]at pK;simp only[aH]at hp;refine(aG.mp hm).elim λq w9=>w9.elim λhq e=>?_;refine pK.elim λq9 w9=>?_;obtain⟨_,⟨⟨_,_,h1⟩,h2⟩⟩:=q9;refine w9.elim λO h3=>?_;rcases hp with(hp|hp)|hp
   ·exact h2 p.1 ⟨p,hp,rfl⟩ p.1 (.inl ⟨q,hq,e⟩) rfl
   ·exact h1 q.1 ⟨q,hq,rfl⟩ p.1 ⟨p,hp,rfl⟩ e
   ·exact h3 q.1 (.inr (.inl ⟨q,hq,rfl⟩)) p.1 ⟨p,hp,rfl⟩ e
  have z:=I.N p (by
   simp only[aH]at hp ⊢;rcases hp with(h|h)|h
   ·exact .inl (.inl h)
   ·exact .inl (.inr (.inr h))
   ·exact .inr h)
  exact⟨ho _ apart _ z.1,z.2⟩
 ·refine gb ?_ pK;simp only[au];exact d0.append (d0.append (d0.refl _) (fB _ _)) (d0.refl _)
theorem St.forget{lo as as' xs vs}{s:ai}{x:mH}(S:St c ⟨lo,as⟩ xs vs s)(R:nt x as as'):∃cl fz,Cl c.w.params fz x cl/\(∀p∈cl,s.heap.get? p.1=some p.2)/\
  ∀s',(∀b,b∉cl.map (λO=>O.1)->∀o,s.heap.get? b=some o->s'.heap.get? b=some o)->p8 s s'->St c ⟨lo,as'⟩ xs vs s':=by
 refine S.elim λg w9=>w9.elim λhg S=>?_;refine(S.forget R).elim λcl w9=>w9.elim λfz w9=>w9.elim λh1 w9=>w9.elim λh2 h3=>?_;exact⟨cl,fz,h1,h2,λs' a b=>⟨g,hg,h3 s' a b⟩⟩
noncomputable abbrev Own(c:Cx)(E:Ex):Prop:=∀fr xs vs,g4 c.M c.A c.env (E.go fr xs vs)
inductive Bu(I:Nat->Sg->Prop)(n:Nat)(σ:Sg):Prop
 |mk (m) (h:m<n) (i:I m σ)
noncomputable def Turn(c:Cx)(E:Ex)(I:Nat->Sg->Prop)(n:Nat)(rest:List Stmt)(Q:Out->Sg->Prop):Out->Sg->Prop
 |.next,σ=>Bu I n σ
 |.cont,σ=>Bu I n σ
 |.brk,σ=>WS c E σ (aO rest c.env) Q
 |.ret x,σ=>Q (.ret x) σ
theorem WS.yf(own:Own c E)(I:Nat->Sg->Prop)(n:Nat)(h0:I n σ)
  (turn:∀n σ,I n σ->WT c E σ t λg mF=>if g then WS c E mF (aO body c.env) (Turn c E I n rest Q)else WS c E mF (aO rest c.env) Q):WS c E σ (aO (.While t body [] p::rest) c.env) Q:=by
 refine .cons ?_
 intro fr xs vs s S
 refine W.While (λn s=>∃σ,I n σ/\St c (σ.on fr) xs vs s) ?_ n ⟨σ,h0,S⟩
 rintro n s ⟨σ,hI,S⟩
 have ow:=own fr xs vs
 unfold g4 at ow
 with_reducible refine W.mono ((turn n σ hI).go fr xs vs s S) ?_ ow
 rintro g s' ⟨mF,S',w⟩
 cases g with
 |true=>
  have w:WS c E mF (aO body c.env) (Turn c E I n rest Q):=w
  refine W.mono (w.go fr xs vs s' S') ?_ ow
  rintro f s2 ⟨o,mT,hf,q⟩
  cases o with
  |next=>obtain⟨rfl,S2⟩:=hf;obtain⟨m,hm,hI⟩:=q;exact⟨m,hm,mT,hI,S2⟩
  |cont=>obtain⟨rfl,S2⟩:=hf;obtain⟨m,hm,hI⟩:=q;exact⟨m,hm,mT,hI,S2⟩
  |brk=>obtain⟨rfl,S2⟩:=hf;exact⟨.next,mT,⟨rfl,S2⟩,q⟩
  |ret x=>obtain⟨v,rfl,S2⟩:=hf;exact⟨.ret x,mT,⟨v,rfl,S2⟩,q⟩
 |false=>
  exact⟨.next,mF,⟨rfl,S'⟩,w⟩
@[irreducible] def Iter(c:Cx)(σ:Sg)(it:AV)(r:Option AV)(mF:Sg):Prop:=
 ∀E fr xs vs v s (Q:Option Value->ai->Prop),St c (σ.on fr) (it::xs) (v::vs) s->(match r with
  |none=>∀s',St c (mF.on fr) (it::xs) (v::vs) s'->Q none s'
  |some y=>∀u s',St c (mF.on fr) (y::it::xs) (u::v::vs) s'->Q (some u) s')->aJ c.M c.A (lu v) Q E s
theorem Iter.go(self:Iter c σ it r mF):∀E fr xs vs v s (Q:Option Value->ai->Prop),St c (σ.on fr) (it::xs) (v::vs) s->(match r with
  |none=>∀s',St c (mF.on fr) (it::xs) (v::vs) s'->Q none s'
  |some y=>∀u s',St c (mF.on fr) (y::it::xs) (u::v::vs) s'->Q (some u) s')->aJ c.M c.A (lu v) Q E s:=by with_unfolding_all exact self
@[irreducible] def qo(c:Cx)(σ:Sg)(t:cI)(x:AV)(mF:Sg):Prop:=
 ∀E fr xs vs v s (Q:Unit->ai->Prop),St c (σ.on fr) (x::xs) (v::vs) s->(∀s',St c (mF.on fr) xs vs s'->Q () s')->aJ c.M c.A (gP t c.env v) Q E s
theorem qo.go(self:qo c σ t x mF):∀E fr xs vs v s (Q:Unit->ai->Prop),St c (σ.on fr) (x::xs) (v::vs) s->(∀s',St c (mF.on fr) xs vs s'->Q () s')->aJ c.M c.A (gP t c.env v) Q E s:=by with_unfolding_all exact self
theorem qo.name{lo m6:List (Option AV)}(ok:Ok c d)(J:Nm c ns)(P:oA ns lo x (some av) m6):qo c ⟨lo,as⟩ (.Name x p) av ⟨m6,as⟩:=by rw[<-J.eq]at P;intro E fr xs vs v s Q S k;with_reducible exact cx (S.store ok J.cm P k)
theorem qo.tuple{lo m6:List (Option AV)}{ns:List Str}(ok:Ok c d)(J:Nm c ns)(N:ry ns es nH lo m6):qo c ⟨lo,as⟩ (.Tuple es k p) (.tup nH) ⟨m6,as⟩:=by
 rw[<-J.eq]at N
 intro E fr xs vs v s Q S k
 obtain⟨a,us,rfl,ht,hl,S2⟩:=S.vp
 with_reducible refine il (qh ok) ht (by rw[N.length];simp[hl]) N.star λh' hx=>?_
 exact St.names ok J.cm N (S2.keeps (h':=h') (t:=s.toks) λb o q=>hx b o (bC (a_ q)) q) hl k
@[irreducible] def oE(c:Cx)(σ:Sg)(x:AV)(P:AV->Sg->Prop):Prop:=
 ∀E fr xs vs v s (Q:Value->ai->Prop),St c (σ.on fr) (x::xs) (v::vs) s->(∀it mF u s',P it mF->St c (mF.on fr) (it::x::xs) (u::v::vs) s'->Q u s')->aJ c.M c.A (i9 v) Q E s
theorem oE.go(self:oE c σ x P):∀E fr xs vs v s (Q:Value->ai->Prop),St c (σ.on fr) (x::xs) (v::vs) s->(∀it mF u s',P it mF->St c (mF.on fr) (it::x::xs) (u::v::vs) s'->Q u s')->aJ c.M c.A (i9 v) Q E s:=by with_unfolding_all exact self
inductive UX(c:Cx)(mM:Sg)(tg:cI)(y:AV)(K:Sg->Prop):Prop
 |mk (mT) (t:qo c mM tg y mT) (k:K mT)
inductive AU(c:Cx)(σ:Sg)(tg:cI)(it:AV)(K0 K1:Sg->Prop):Prop
 |mk (r) (mM:Sg) (h:Iter c σ it r mM) (k:match(generalizing:=false) r with
   |none=>K0 mM
   |some y=>UX c mM tg y K1)
theorem WS.M9(own:Own c E)(I:Nat->AV->Sg->Prop)(n:Nat)
  (h:WE c E σ (aT e c.env) λx mM=>oE c mM x (I n))
  (turn:∀n it σ,I n it σ->AU c σ tg it (λmM=>WS c E mM (aO rest c.env) Q) λmT=>WS c E mT (aO body c.env) (Turn c E (λn σ=>I n it σ) n rest Q))
  (hs:autoParam (∀x,bJ e c.env x=pure x) aI)(ht:∀it v,cP tg it v=pure ():=by intro _ _;rfl):WS c E σ (aO (.For tg e body [] p::rest) c.env) Q:=by
 refine .cons ?_
 intro fr xs vs s S
 have ow:=own fr xs vs
 unfold g4 at ow
 with_reducible refine W.For (h.run S λx mM v s1 q S1=>?_) hs
 with_reducible refine q.go _ fr xs vs v s1 _ S1 λit mT u s2 h0 S2=>?_
 with_reducible refine W.To (λn s=>∃σ,I n it σ/\St c (σ.on fr) (it::x::xs) (u::v::vs) s) ?_ n ⟨mT,h0,S2⟩ (ht u)
 rintro n s ⟨σ,hI,S⟩
 obtain⟨r,mM,hr,k⟩:=turn n it σ hI
 with_reducible refine hr.go _ fr _ _ u s _ S ?_
 cases r with
 |none=>
  intro s' S'
  exact⟨.next,mM,⟨rfl,S'.pop.pop⟩,k⟩
 |some y=>
  obtain⟨mT,ht,w⟩:=k
  intro u2 s' S'
  with_reducible refine ht.go _ fr _ _ u2 s' _ S' λs2 S2=>?_
  with_reducible refine W.mono (w.go fr _ _ s2 S2) ?_ λe s' q=>ow e s' (E.pop (E.pop q))
  rintro f s3 ⟨o,q_,hf,q⟩
  cases o with
  |next=>obtain⟨rfl,S3⟩:=hf;obtain⟨m,hm,hI⟩:=q;exact⟨m,hm,q_,hI,S3⟩
  |cont=>obtain⟨rfl,S3⟩:=hf;obtain⟨m,hm,hI⟩:=q;exact⟨m,hm,q_,hI,S3⟩
  |brk=>obtain⟨rfl,S3⟩:=hf;exact⟨.next,q_,⟨rfl,S3.pop.pop⟩,q⟩
  |ret x=>obtain⟨w,rfl,S3⟩:=hf;exact⟨.ret x,q_,⟨w,rfl,S3.hand λfz o=>by have a:=o.hd;have b:=o.tl;replace b:=b.tl;replace b:=b.tl;exact .cons a b⟩,q⟩
theorem St.setattr{E:Value->ai->Prop}{lo as as' xs vs}{s:ai}{a C:aA}{f f':List (Str×AV)}{x:Str}{av:AV}{u v:Value}{Q:Unit->ai->Prop}(ok:Ok c d)(S:St c ⟨lo,as⟩ (.ref a::av::xs) (u::v::vs) s)(R:Rep (.ins a C f) (.ins a C f') as as')(P:p9 f x av f')
  (hC:Sets C)(hf:cg (KK c.w.params) (.ref C) x=some none)(hz:f.length<=900)(k:∀s',St c ⟨lo,as'⟩ xs vs s'->Q () s'):aJ c.M A (lH u x v) Q E s:=by
 refine cps λV V'=>?_;refine S.of.elim λfz o=>?_;obtain rfl:=o.mV;have X:=S.sq ok;obtain⟨g₁,m,fz,cl,hg,F,K,gt,mI,nd,nw,_,back⟩:=S.at R;obtain⟨dx,es,n,e,v7⟩:=K;refine(hC.cd c.w.params).elim λcd w9=>w9.elim λhc w9=>w9.elim λhd w9=>w9.elim λO9 O=>?_;refine V' ?_;refine C1 hC X (⟨gt _ (.head _),rfl,rfl,gt _ (.tail _ (.head _))⟩:cQ s.heap a (eK C dx) C (some (cX es n))) hf λA' tk=>Ip (s:={s with toks:=s.toks+1}) (x:=a) (d:=dx) (gt _ (.head _)) (jg X hc) hd (gt _ (.tail _ (.head _))) e.look (by rw[e.length];exact hz) λh' h1 h2=>⟨rfl,k _ ?_⟩;have oR:a≠dx:=by simp only[bE,ew,bj,ao]at nd;exact nd.1
 have r:=mI.tl;have o:=r.hd;replace r:=r.tl;refine back _ [(a,eK C dx),(dx,cX (kL x (cq c.w.params x) (.str x (s.toks+1)) v es) (lT x es n))] _ _ (.ins (e.put P o) (P.nodup v7)) rfl ?_ ?_ ⟨rfl,rfl,rfl⟩ r
 ·intro p hp;simp only[aL,bA,or_false]at hp;rcases hp with rfl|rfl
  ·exact(h2 a oR).trans (gt _ (.head _))
  ·exact h1
 ·intro b hb o q;exact(h2 b λe=>hb (by simp[e])).trans q
inductive acp(c:Cx)(E:Ex)(o:cI)(x:Str)(rest:List Stmt)(Q:Out->Sg->Prop)(av:AV)(mF:Sg):Prop
 |mk (a C f f' as') (ho:Ev c mF o (.ref a)) (R:Rep (.ins a C f) (.ins a C f') mF.as as') (P:p9 f x av f') (hC:Sets C) (hf:cg (KK c.w.params) (.ref C) x=some none) (hz:f.length<=900) (w:WS c E ⟨mF.lo,as'⟩ (aO rest c.env) Q)
theorem WS.M_{x:Str}(ok:Ok c d)
  (h:WE c E σ (aT e c.env) (acp c E o x rest Q))
  (hs:autoParam (cn e (some (.Attribute o x p')) p.line c.env=pure false) aR):WS c E σ (aO (.Assign [.Attribute o x p'] e p::rest) c.env) Q:=by
 refine .cons ?_
 intro fr xs vs s S
 with_reducible refine W.CH (h.run S ?_) hs
 rintro av mF v s' ⟨a,C,f,f',as',ho,R,P,hC,hf,hz,w⟩ S'
 with_reducible refine ho.go _ _ _ _ _ _ S' λu s2 S2=>?_
 exact W.of (S2.setattr ok (R.on fr) P hC hf hz λs3 S3=>⟨.next,⟨mF.lo,as'⟩,⟨rfl,S3⟩,w⟩)
end
section
section
variable {M:Model}{A:Around}{E:Value->ai->Prop}{h:bb}{g:Array mn}{d:Drawn}{t:Nat}{os:ju}
variable {nm q:Str}{C N:aA}{bs bm:List Value}{uE:Bool}{sn:List Str}{fq:List Value}{ab:Bool}{col:Option Bool}{dd:Option aA}{k0 k1 k2 k3 k5:Option Value}
theorem P6(hB:bm.contains (.type "Exception")=true){e:aA}{oe:Obj}{rest:List Value}{Q:Unit->ai->Prop}
  (hC:h.get? C=some (ea nm q C N bs bm uE sn fq ab col dd k0 k1 k2 k3 k5 "Exception.__new__"))(he:h.get? e=some oe)(vK:oe.cls=.ref C)(hq:Q () ⟨h,g,d,t,os⟩):
  aJ M A (cc "Exception.__init__" ⟨.ref e::rest,[]⟩) Q E ⟨h,g,d,t,os⟩:=by
 simp only[cc,FX.initKind,FX.initSplit,FX.initRow]
 repeat (first|(with_reducible refine cu he ?_;rewrite[vK])|with_reducible refine cu hC ?_|(with_reducible refine dA hC ?_;rewrite[(by rw[cJ,hB,eZ]:(di C::bm).contains (.type "Exception")=true)])|wp_step)
 refine hU ?_;rw[show∀(a b:String) (n:Nat),Bind.check ⟨.positional,"*","Exception",.self,[⟨"args",.varPos,false⟩]⟩ a b n (k_ (λx=>x.fst) ({pos:=di e::rest}:Args).kw)=pure ()from
  λa b n=>check_star_args _ _ _ _ _ _]
 exact ak hq
theorem Um{prog:Program}{w:cL}(hB:bm.contains (.type "Exception")=true){e:aA}{oe:Obj}{vs:Array Value}{t0:aA}{rest:List Value}{Q:Value->ai->Prop}
  (hC:h.get? C=some (ea nm q C N bs bm uE sn fq ab col dd k0 k1 k2 k3 k5 "Exception.__new__"))(he:h.get? e=some oe)(vK:oe.cls=.ref C)(hd:oe.data=.fields vs)(h0:vs[0]?=some (.ref t0))
  (hq:Q .none ⟨(h.push {cls:=.type "tuple",data:=.seq rest.toArray}).update e (gF (·.setIfInBounds 0 (.ref h.objs.size))),g,d,t,os⟩)(wW:rest.length<=e0):
  aJ (aX prog w) A (mh (.builtin "Exception.__init__") (.ref e::rest)) Q E ⟨h,g,d,t,os⟩:=by
 refine jA (gO FX.init.plain FX.initEntry (P6 hB hC he vK ?_));have hsz:0<vs.size:=(cW.mp h0).1;have yp:=ay (h:=h) {cls:=.type "tuple",data:=.seq rest.toArray} he;refine ag (cH (ag (ag (eE yp hd h0 (ag (gJ yp hd hsz ?_))))) (by show rest.toArray.size<=e0;rw[bK];exact wW));exact je (ak hq)
end
end
section
variable {c:Cx}{σ:Sg}{d:Nat}{E:Ex}
theorem nN.swap{lo as as' xs vs}{s:ai}{x y:mH}(S:nN c ⟨lo,as⟩ xs vs s)(R:Rep x y as as'):
  ∃m fz cl,Fr c.h₀ c.L s.heap m/\Cl c.w.params fz x cl/\(∀p∈cl,s.heap.get? p.1=some p.2)/\mL fz xs vs/\(cl.map (λO=>O.1)).Nodup/\
   ∀s' nZ xs' vs',Cl c.w.params fz y nZ->(nZ.map (λO=>O.1)).Nodup->(∀p∈nZ,p.1∈cl.map (λO=>O.1)\/s.heap.objs.size<=p.1)->(∀p∈nZ,s'.heap.get? p.1=some p.2)->(∀b,b∉cl.map (λO=>O.1)->∀o,s.heap.get? b=some o->s'.heap.get? b=some o)->p8 s s'->mL fz xs' vs'->
    nN c ⟨lo,as'⟩ xs' vs' s':=by
 refine cps λV V'=>?_;obtain⟨m,own,fz,I⟩:=S;refine V' ?_;obtain⟨pre,cl,post,k,r⟩:=I.sat.rep R;have t9:∀p∈cl,p∈(pre++(cl++post))++fz:=λp hp=>by simp[hp]
 have nj:∀p∈cl,p.1≠c.L/\c.h₀.get? p.1=none:=λp hp=>(I.N p (t9 p hp)).2;have pK:=I.nd;refine⟨m,fz,cl,I.F,k,λp hp=>(I.N p (t9 p hp)).1,I.st,?_,?_⟩
 ·have:=I.nd;simp only[au]at this;exact gb (by
   refine d0.trans ?_ (jm _ _);refine d0.trans ?_ (fB _ _)
   exact jm _ _) this
 intro s' nZ xs' vs' k' v7 e' h' ho hs mI;have out:∀b o,c.h₀.get? b=some o->b∉cl.map (λO=>O.1):=λb o q hm=>by obtain⟨p,hp,rfl⟩:=aG.mp hm;rw[(nj p hp).2]at q;cases q
 have hL:c.L∉cl.map (λO=>O.1):=λhm=>by refine cps λV V'=>?_;refine(aG.mp hm).elim λp w9=>w9.elim λhp q=>?_;refine V' ?_;exact(nj p hp).1 q
 have apart:∀q∈pre++post++fz,q.1∉cl.map (λO=>O.1):=by
  intro q hq hm;simp only[au,cG,aH,aG]at pK;simp only[aH]at hq;refine(aG.mp hm).elim λp w9=>w9.elim λhp e=>?_;refine pK.elim λq9 w9=>?_;obtain⟨_,⟨⟨_,_,h1⟩,h2⟩⟩:=q9;refine w9.elim λO h3=>?_;rcases hq with(hq|hq)|hq
  ·exact h2 q.1 ⟨q,hq,rfl⟩ q.1 (.inl ⟨p,hp,e⟩) rfl
  ·exact h1 p.1 ⟨p,hp,rfl⟩ q.1 ⟨q,hq,rfl⟩ e
  ·exact h3 p.1 (.inr (.inl ⟨p,hp,rfl⟩)) q.1 ⟨q,hq,rfl⟩ e
 have low:∀q∈pre++post++fz,q.1<s.heap.objs.size:=by
  intro q hq;refine a_ (I.N q ?_).1;simp only[aH]at hq ⊢;rcases hq with(hq|hq)|hq
  ·exact .inl (.inl hq)
  ·exact .inl (.inr (.inr hq))
  ·exact .inr hq
 have Un:∀q∈pre++post++fz,∀p∈nZ,p.1≠q.1:=by
  intro q hq p hp e;refine(e' p hp).elim (λh=>?_) λh=>?_
  ·exact apart q hq (e▸h)
  ·exact cb _ (bW (low q hq) (e▸h))
 refine⟨m,pre++(nZ++post),fz,⟨?_,λb o q=>ho b (out b o q) o (I.F.keep b o q),I.F.above⟩,I.lo,?_,?_,r fz nZ (λO h=>h) k',mI,⟨hs.1.trans I.same.1,hs.2.1.trans I.same.2.1,hs.2.2.trans I.same.2.2⟩⟩
 ·exact I.F.ns.at' λo q=>ho _ hL o q
 ·intro p hp;simp only[aH]at hp;rcases hp with(hp|hp|hp)|hp
  ·have z:=I.N p (by simp[hp]);exact⟨ho _ (apart p (by simp[hp])) _ z.1,z.2⟩
  ·refine⟨h' p hp,?_⟩;rcases e' p hp with h|h
   ·obtain⟨q,hq,e⟩:=aG.mp h;rw[<-e];exact nj q hq
   ·refine⟨λq=>?_,?_⟩
    ·refine cps λV V'=>?_;obtain⟨o,_,_,hO,_⟩:=I.F.ns;refine V' ?_;have:=a_ hO;rw[<-q]at this;exact cb _ (bW this h)
    ·cases q:c.h₀.get? p.1 with
     |none=>rfl
     |some o=>exact(cb _ (bW (a_ (I.F.keep _ _ q)) h)).elim
  ·have z:=I.N p (by simp[hp]);exact⟨ho _ (apart p (by simp[hp])) _ z.1,z.2⟩
  ·have z:=I.N p (by simp[hp]);exact⟨ho _ (apart p (by simp[hp])) _ z.1,z.2⟩
 ·have h1:((pre++(post++fz)).map (λO=>O.1)).Nodup:=by refine gb ?_ pK;simp only[au,aj];exact d0.append (d0.refl _) (fB _ _)
  have h2:((nZ++(pre++(post++fz))).map (λO=>O.1)).Nodup:=by rw[au,cG];refine⟨v7,h1,λa ha b hb e=>?_⟩;obtain⟨p,hp,rfl⟩:=aG.mp ha;obtain⟨q,hq,rfl⟩:=aG.mp hb;exact Un q (by simp only[aH]at hq ⊢;rcases hq with h|h|h<;>simp[h]) p hp e
  refine((bX.map _ ?_).nodup_iff).mp h2;rw[aj,aj];refine bX.trans (iU nZ pre (post++fz)) ?_;exact bX.refl _
theorem St.swap{lo as as' xs vs}{s:ai}{x y:mH}(S:St c ⟨lo,as⟩ xs vs s)(R:Rep x y as as'):
  ∃g₁ m fz cl,pW c g₁/\Fr g₁ c.L s.heap m/\Cl c.w.params fz x cl/\(∀p∈cl,s.heap.get? p.1=some p.2)/\mL fz xs vs/\(cl.map (λO=>O.1)).Nodup/\
   ∀s' nZ xs' vs',Cl c.w.params fz y nZ->(nZ.map (λO=>O.1)).Nodup->(∀p∈nZ,p.1∈cl.map (λO=>O.1)\/s.heap.objs.size<=p.1)->(∀p∈nZ,s'.heap.get? p.1=some p.2)->(∀b,b∉cl.map (λO=>O.1)->∀o,s.heap.get? b=some o->s'.heap.get? b=some o)->p8 s s'->mL fz xs' vs'->
    St c ⟨lo,as'⟩ xs' vs' s':=by
 refine S.elim λg w9=>w9.elim λhg S=>?_;refine cps λV V'=>?_;refine(S.swap R).elim λm w9=>w9.elim λfz w9=>w9.elim λcl w9=>w9.elim λh1 w9=>w9.elim λh2 w9=>w9.elim λh3 w9=>w9.elim λh4 w9=>w9.elim λh5 h6=>?_;refine V' ?_;exact⟨g,m,fz,cl,hg,h1,h2,h3,h4,h5,λs' nZ xs' vs' a1 a2 a3 a4 a5 a6 a7=>⟨g,hg,h6 s' nZ xs' vs' a1 a2 a3 a4 a5 a6 a7⟩⟩
inductive XAt(P:aM)(C:aA):Prop
 |mk (bm nm q N bs sn fq col k0 k1 k2 k3 k5) (hE:bm.contains (.type "Exception")=true) (hB:bm.contains (.type "BaseException")=true) (hA:bm.contains (.type "AttributeError")=false) (hN:bm.contains (.type "NameError")=false) (lk:(KK P).lookup C=some (ea nm q C N bs bm true sn fq false col none k0 k1 k2 k3 k5 "Exception.__new__"))
theorem qK.at(hC:qK C)(P:aM):XAt P C:=by refine cps λV V'=>?_;obtain⟨⟨bm,hr,hE,hB,hA,hN,ho,hl⟩,sa⟩:=hC;refine V' ?_;refine(hl P).elim λnm w9=>w9.elim λq w9=>w9.elim λN w9=>w9.elim λbs w9=>w9.elim λsn w9=>w9.elim λfq w9=>w9.elim λcol w9=>w9.elim λk0 w9=>w9.elim λk1 w9=>w9.elim λk2 w9=>w9.elim λk3 w9=>w9.elim λk5 e=>?_;exact⟨bm,nm,q,N,bs,sn,fq,col,k0,k1,k2,k3,k5,hE,hB,hA,hN,e⟩
noncomputable abbrev qG(C:aA)(d:Option aA)(t:aA):Obj:=⟨.ref C,d,.fields #[.ref t,.none,.none,.none,.bool false,.none],#[]⟩
theorem Op.Tu{lo as}{a C:aA}{f:Option (List (Str×AV))}{y:AV}{Q:AV->Sg->Prop}(ok:Ok c d)(hm:.exc a C f∈as)(hC:qK C)(q:Q .none ⟨lo,as⟩):Op c E ⟨lo,as⟩ [.ref a,y] (λus=>aF (.builtin "Exception.__init__") us) Q:=by
 intro fr xs vs us s S hl;obtain⟨v1,v2⟩:=qn hl;obtain⟨g₁,m,fz,cl,hg,F,K,gt,mI,nd,nw,_,back⟩:=S.at (Rep.refl (ax fr hm));obtain⟨bm,nm,q',N,bs,sn,fq,col,k0,k1,k2,k3,k5,hE,hB,hA,hN,lk⟩:=hC.at c.w.params;have o1:=mI.hd;replace mI:=mI.tl;have o2:=mI.hd;replace mI:=mI.tl;obtain rfl:=o1.mV;obtain⟨hh,g,dr,tk,os⟩:=s;refine W.of ?_;have step:∀dO t,hh.get? a=some (qG C dO t)->(∀h',h'.get? a=some (qG C dO hh.objs.size)->(∀b o,b≠a->hh.get? b=some o->h'.get? b=some o)->St c (Sg.on ⟨lo,as⟩ fr) (.none::xs) (.none::vs) ⟨h',g,dr,tk,os⟩)->
   aJ c.M c.A (aF (.builtin "Exception.__init__") [.ref a,v2]) (Got c fr xs vs Q) (E.go fr xs vs) ⟨hh,g,dr,tk,os⟩:=by
  intro dO t he k;refine Um hE ((S.sq ok) _ _ lk) he rfl rfl rfl ⟨.none,⟨lo,as⟩,k _ ?_ ?_,q⟩ (o9)
  ·exact(bb.get?_update_self _ (ay ({cls:=.type "tuple",data:=.seq [v2].toArray}:Obj) he) (by rfl)).trans rfl
  ·intro b o hb q;rw[bb.get?_update_other _ _ (fh hb)];exact ay _ q
 cases f with
 |none=>
  refine cps λV V'=>?_;obtain⟨t⟩:=K;refine V' ?_;refine step none t (gt _ (.head _)) λh' h1 h2=>back _ [(a,qG C none hh.objs.size)] _ _ .M6 rfl ?_ ?_ ⟨rfl,rfl,rfl⟩ (.cons .none mI)
  ·intro p hp;simp only[ao]at hp;subst hp;exact h1
  ·intro b hb o q;exact h2 b o (λe=>hb (by simp[e])) q
 |some f=>
  refine cps λV V'=>?_;obtain⟨dx,t,es,n,e,v7⟩:=K;refine V' ?_;have oR:dx≠a:=by simp only[bE,ew,bj,ao]at nd;exactλe=>nd.1 e.symm
  refine step (some dx) t (gt _ (.head _)) λh' h1 h2=>back _ [(a,qG C (some dx) hh.objs.size),(dx,cX es n)] _ _ (.Em e v7) rfl ?_ ?_ ⟨rfl,rfl,rfl⟩ (.cons .none mI)
  ·intro p hp;simp only[aL,bA,or_false]at hp;rcases hp with rfl|rfl
   ·exact h1
   ·exact h2 _ _ oR (gt _ (.tail _ (.head _)))
  ·intro b hb o q;exact h2 b o (λe=>hb (by simp[e])) q
theorem St.R5{E:Value->ai->Prop}{lo as as' xs vs}{s:ai}{a C:aA}{f:Option (List (Str×AV))}{f':List (Str×AV)}{x:Str}{av:AV}{u v:Value}{Q:Unit->ai->Prop}(ok:Ok c d)(S:St c ⟨lo,as⟩ (.ref a::av::xs) (u::v::vs) s)(R:Rep (.exc a C f) (.exc a C (some f')) as as')
  (P:p9 (f.getD []) x av f')(hC:Sets C)(hf:cg (KK c.w.params) (.ref C) x=some none)(hz:(f.getD []).length<=900)(k:∀s',St c ⟨lo,as'⟩ xs vs s'->Q () s'):aJ c.M c.A (lH u x v) Q E s:=by
 refine cps λV V'=>?_;refine S.of.elim λfz o=>?_;obtain rfl:=o.mV;have X:=S.sq ok;obtain⟨g₁,m,fz,cl,hg,F,K,gt,mI,nd,back⟩:=S.swap R;refine(hC.cd c.w.params).elim λcd w9=>w9.elim λhc w9=>w9.elim λhd w9=>w9.elim λO9 O=>?_;refine V' ?_;have r:=mI.tl;have o:=r.hd;replace r:=r.tl;cases f with
 |none=>
  refine cps λV V'=>?_;obtain⟨t⟩:=K;refine V' ?_;have g0:=gt _ (.head _);have mY:=a_ g0;have I:cQ s.heap a (qG C none t) C none:=⟨g0,rfl,rfl,trivial⟩;have e1:f'=[(x,av)]:=by cases P;rfl
  subst e1;refine C1 hC X I hf λA' tk=>R4 (s:={s with toks:=s.toks+1}) (x:=a) g0 (jg X hc) hd λh' h1 h2=>⟨rfl,k _ ?_⟩;refine back _ [(a,qG C (some s.heap.objs.size) t),(s.heap.objs.size,cX [⟨cq c.w.params x,.str x (s.toks+1),v⟩] (lT x [] 0))] _ _ (.Em (.cons o .nil) (by simp)) ?_ ?_ ?_ ?_ ⟨rfl,rfl,rfl⟩ r
  ·simp only[bE,ew,bj,ao,bA,not_false_eq_true,fi,and_true];exact bC mY
  ·intro p hp;simp only[aL,bA,or_false]at hp;rcases hp with rfl|rfl
   ·exact .inl (by simp)
   ·exact .inr (bz _)
  ·intro p hp;simp only[aL,bA,or_false]at hp;rcases hp with rfl|rfl
   ·refine(h2 a (bC mY)).trans ?_;exact bb.get?_update_self _ (ay _ g0) rfl
   ·exact h1
  ·intro b hb ob q;refine(h2 b (bC (a_ q))).trans ?_;rw[bb.get?_update_other _ _ (λe:a=b=>hb (by simp[e]))];exact ay _ q
 |some f=>
  obtain⟨dx,t,es,n,e,v7⟩:=K;have g0:=gt _ (.head _);have g1:=gt _ (.tail _ (.head _));have oR:a≠dx:=by simp only[bE,ew,bj,ao]at nd;exact nd.1
  refine C1 hC X (⟨g0,rfl,rfl,g1⟩:cQ s.heap a (qG C (some dx) t) C (some (cX es n))) hf λA' tk=>Ip (s:={s with toks:=s.toks+1}) (x:=a) (d:=dx) g0 (jg X hc) hd g1 e.look (by rw[e.length];exact hz) λh' h1 h2=>⟨rfl,k _ ?_⟩;refine back _ [(a,qG C (some dx) t),(dx,cX (kL x (cq c.w.params x) (.str x (s.toks+1)) v es) (lT x es n))] _ _ (.Em (e.put P o) (P.nodup v7)) nd ?_ ?_ ?_ ⟨rfl,rfl,rfl⟩ r
  ·intro p hp;simp only[aL,bA,or_false]at hp;rcases hp with rfl|rfl<;>exact .inl (by simp)
  ·intro p hp;simp only[aL,bA,or_false]at hp;rcases hp with rfl|rfl
   ·exact(h2 a oR).trans g0
   ·exact h1
  ·intro b hb ob q;exact(h2 b λe=>hb (by simp[e])).trans q
inductive acq(c:Cx)(E:Ex)(o:cI)(x:Str)(rest:List Stmt)(Q:Out->Sg->Prop)(av:AV)(mF:Sg):Prop
 |mk (a C f f' as') (ho:Ev c mF o (.ref a)) (R:Rep (.exc a C f) (.exc a C (some f')) mF.as as') (P:p9 (f.getD []) x av f') (hC:Sets C) (hf:cg (KK c.w.params) (.ref C) x=some none) (hz:(f.getD []).length<=900) (w:WS c E ⟨mF.lo,as'⟩ (aO rest c.env) Q)
theorem WS.acr{o e:cI}(ok:Ok c d)
  (h:WE c E σ (aT e c.env) (acq c E o x rest Q))
  (hs:autoParam (cn e (some (.Attribute o x p')) p.line c.env=pure false) aR):WS c E σ (aO (.Assign [.Attribute o x p'] e p::rest) c.env) Q:=by
 refine .cons ?_
 intro fr xs vs s S
 with_reducible refine W.CH (h.run S ?_) hs
 rintro av mF v s' ⟨a,C,f,f',as',ho,R,P,hC,hf,hz,w⟩ S'
 with_reducible refine ho.go _ _ _ _ _ _ S' λu s2 S2=>?_
 exact W.of (S2.R5 ok (R.on fr) P hC hf hz λs3 S3=>⟨.next,⟨mF.lo,as'⟩,⟨rfl,S3⟩,w⟩)
end
section
variable {c:Cx}{σ:Sg}{d:Nat}{E:Ex}
theorem St.nd{xs vs s}{σ:Sg}(S:St c σ xs vs s):St {c with nd:=b} σ xs vs s:=
 by obtain⟨g,hg,m,own,fz,I⟩:=S;exact⟨g,hg,m,own,fz,I.F,I.lo,I.N,I.nd,I.sat,I.st,I.same⟩
theorem n5.nd{xs vs x e s}{σ:Sg}(h:n5 c σ xs vs x e s):n5 {c with nd:=b} σ xs vs x e s:=by obtain⟨g₁,a,dd,m,own,fz,g,h1,h2,h3,h4,h5,h6,h7,h8,h9,NW,h11⟩:=h;exact⟨g₁,a,dd,m,own,fz,g,h1,h2,h3,h4,h5,h6,h7,h8,h9,NW,h11⟩
theorem Op.make{lo:List (Option AV)}{se as rest:List mH}{R:aA->AV->List mH->Prop}{X:aA->mZ->List mH->Prop}{Q:AV->Sg->Prop}{XX:mZ->Sg->Prop}(ok:Ok c d)(ex:Exits c E XX)(hm:j9 (KK c.w.params) C=true)
  (hi:cg (KK c.w.params) (.ref C) "__init__"=some (some (.ref fI)))(hf:isFn (KK c.w.params) (.ref fI)=true)(J:n<=d)(p:Arr se (as++rest))(h:∀a,Fn (.ref fI) n (.ref a::args) (.ins a C []::as) (R a) (X a))
  (hr:∀a av as',R a av as'->av=.none/\Q (.ref a) ⟨lo,as'++rest⟩)(hx:∀a x as',X a x as'->XX x ⟨lo,as'++rest⟩):Op c E ⟨lo,se⟩ args (λus=>aF (.ref C) us) Q:=by
 intro fr xs vs us s S hl;have S2:St c (Sg.on ⟨lo,as⟩ (rest++fr)) (args++xs) (us++vs) s:=by show St c ⟨lo,as++(rest++fr)⟩ _ _ _;rw[<-aj];exact(S.arr p)
 refine cps λV V'=>?_;refine S2.elim λg₁ w9=>w9.elim λhg w9=>w9.elim λm w9=>w9.elim λown w9=>w9.elim λfz I=>?_;refine V' ?_;refine W.of (call_cls I.F (ok.on hg).X I.N hm hi hf λx dx h' F' N' l1 l2=>?_);have S3:St c (Sg.on ⟨lo,.ins x C []::as⟩ (rest++fr)) ((.ref x::args)++xs) ((.ref x::us)++vs) {s with heap:=h'}:=by
  refine⟨g₁,hg,?_⟩;refine I.grow (new:=[(x,eK C dx),(dx,cX [] 0)]) (tk:=s.toks) F' N' ?_ ?_ (.ins .nil fi) (.cons (.ref x) I.st)
  ·simp only[bE,ew,bj,ao,bA,not_false_eq_true,fi,and_true];exact fa l2
  ·intro p hp q hq e;have:=l1 q hq;simp only[aL,bA,or_false]at hp;rcases hp with rfl|rfl
   ·have e:x=q.1:=e;exact Nat.lt_asymm this (by rw[<-e];exact l2)
   ·have e:dx=q.1:=e;rw[<-e]at this;exact cb _ this
 let c0:Cx:={c with nd:=false}
 have S30 : St c0 (Sg.on ⟨lo, .ins x C [] :: as⟩ (rest ++ fr)) ((.ref x :: args) ++ xs) ((.ref x :: us) ++ vs) { s with heap := h' } := S3.nd
 refine codeAny_mono (WC.any ((h x).go c0 d (c.A.under (.builtin "type.__call__" ⟨.ref C :: us, []⟩)) lo (rest ++ fr) xs vs (.ref x :: us) { s with heap := h' } (fun h => nomatch h) (⟨ok.Xb, ok.Gb, ok.uQ, ok.B, ok.hh, ok.lc, ok.ee, ok.fr, ok.kf, ok.kd, ok.gl, ok.bl, ok.nd, ok.loc, ok.dep, ok.un⟩) J (dS ok.B.stack) ok.hh (fb (b_ (c.A₀.depth + 2))) (by show c.A₀.units + 3 + 1 ≤ c.A₀.units + 30; exact ET) S30 (by simp [hl]))) ?_
 intro r s' h
 cases r with
 |error e=>obtain⟨y,as',hX,hf⟩:=h;replace hf:=n5.nd (b:=c.nd) hf;refine ex.uR y ⟨lo,as'++rest⟩ fr xs vs e s' (hx x y as' hX) ?_;show n5 c ⟨lo,(as'++rest)++fr⟩ _ _ y e s';rw[aj];exact hf
 |ok f=>
  cases f with
  |ret v=>refine cps λV V'=>?_;obtain⟨av,as',S4,hR⟩:=h;replace S4:St c (Sg.on ⟨lo,as'⟩ (rest++fr)) (av::xs) (v::vs) s':=St.nd (c:=c0) (b:=c.nd) S4;refine(hr x av as' hR).elim λe9 q=>?_;subst e9;obtain⟨m5,o⟩:=S4.of;refine V' ?_;refine⟨o.none_inv,.ref x,⟨lo,as'++rest⟩,?_,q⟩;show St c ⟨lo,(as'++rest)++fr⟩ _ _ _;rw[aj];exact S4.pop.push λO=>.ref x
  |_=>exact h.elim
theorem Op.Lh{lo:List (Option AV)}{se as rest:List mH}{R:aA->AV->List mH->Prop}{X:aA->mZ->List mH->Prop}{Q:AV->Sg->Prop}{XX:mZ->Sg->Prop}(ok:Ok c d)(ex:Exits c E XX)(hC:qK C)
  (hi:cg (KK c.w.params) (.ref C) "__init__"=some (some (.ref fI)))(hf:∃o,(KK c.w.params).lookup fI=some o/\o.cls=.type "function")(J:n<=d)(p:Arr se (as++rest))(h:∀a,Fn (.ref fI) n (.ref a::args) (.exc a C none::as) (R a) (X a))
  (hr:∀a av as',R a av as'->av=.none/\Q (.ref a) ⟨lo,as'++rest⟩)(hx:∀a x as',X a x as'->XX x ⟨lo,as'++rest⟩)(hl9:args.length<=900):Op c E ⟨lo,se⟩ args (λus=>aF (.ref C) us) Q:=by
 intro fr xs vs us s S hl;have S2:St c (Sg.on ⟨lo,as⟩ (rest++fr)) (args++xs) (us++vs) s:=by show St c ⟨lo,as++(rest++fr)⟩ _ _ _;rw[<-aj];exact(S.arr p)
 obtain⟨bm,nm,q',N,bs,sn,fq,col,k0,k1,k2,k3,k5,hE,hB,hA,hN,lk⟩:=hC.at c.w.params;refine hf.elim λoI w9=>w9.elim λzj zk=>?_;have Xk:=S2.sq ok;obtain⟨hh,g,dr,tk,os⟩:=s;refine W.of (x_call hE hA hN (Xk _ _ lk) (gr Xk hi) (Xk _ _ zj) zk ?_ (by rw[hl,cz];exact o11 hl9 hl));have S3:St c (Sg.on ⟨lo,as⟩ (rest++fr)) (args++xs) (us++vs) ⟨hh.push {cls:=.type "tuple",data:=.seq us.toArray},g,dr,tk,os⟩:=S2.keeps (h':=hh.push {cls:=.type "tuple",data:=.seq us.toArray}) (t:=tk) λb o q=>ay _ q;have S4:St c (Sg.on ⟨lo,.exc (hh.objs.size+1) C none::as⟩ (rest++fr)) ((.ref (hh.objs.size+1)::args)++xs) ((.ref (hh.objs.size+1)::us)++vs) ⟨(hh.push {cls:=.type "tuple",data:=.seq us.toArray}).push (qG C none hh.objs.size),g,dr,tk,os⟩:=by refine S3.alloc (o:=qG C none hh.objs.size) (tk:=tk) rfl λfz o=>⟨?_,.cons (.ref _) o⟩;have:(hh.push {cls:=.type "tuple",data:=.seq us.toArray}).objs.size=hh.objs.size+1:=bb.size_push ..;show Cl _ _ _ [((hh.push {cls:=.type "tuple",data:=.seq us.toArray}).objs.size,_)];rw[this];exact .M6
 have hu':(c.A.under (.builtin "type.__call__" ⟨.ref C::us,[]⟩)).units<=c.A₀.units+30:=by show c.A₀.units+3+1<=_;exact ET
 let c0:Cx:={c with nd:=false}
 have ok0:Ok c0 d:=⟨ok.Xb,ok.Gb,ok.uQ,ok.B,ok.hh,ok.lc,ok.ee,ok.fr,ok.kf,ok.kd,ok.gl,ok.bl,ok.nd,ok.loc,ok.dep,ok.un⟩;refine aY (W.any ((h (hh.objs.size+1)).call (c:=c0) (λh=>nomatch h) ok0 J (dS ok.B.stack) (ok.hh) (fb (b_ (c.A₀.depth+2))) hu' S4.nd (by simp[hl]))) ?_ ?_
 ·rintro v s' ⟨av,as',S5,hR⟩;replace S5:St c (Sg.on ⟨lo,as'⟩ (rest++fr)) (av::xs) (v::vs) s':=St.nd (c:=c0) (b:=c.nd) S5;obtain⟨rfl,q⟩:=hr _ av as' hR;obtain⟨m5,o⟩:=S5.of;refine⟨o.none_inv,.ref (hh.objs.size+1),⟨lo,as'++rest⟩,?_,q⟩;show St c ⟨lo,(as'++rest)++fr⟩ _ _ _;rw[aj];exact S5.pop.push λO=>.ref _
 ·rintro e s' ⟨y,as',hX,hf⟩;replace hf:=n5.nd (b:=c.nd) hf;refine ex.uR y ⟨lo,as'++rest⟩ fr xs vs e s' (hx _ y as' hX) ?_;show n5 c ⟨lo,(as'++rest)++fr⟩ _ _ y e s';rw[aj];exact hf
section
variable {M:Model}{A:Around}{E:Value->ai->Prop}{env:Env}
variable {nm q:Str}{C N:aA}{bs bm:List Value}{uE:Bool}{sn:List Str}{fq:List Value}{ab:Bool}{col:Option Bool}{dd:Option aA}{k0 k1 k2 k3 k5:Option Value}{newId:String}
inductive Raisable(E:Value->ai->Prop)(v:Value)(s:ai):Prop
 |mk (e C bm dO t nm q N bs sn fq col k0 k1 k2 k3 k5) (hC:s.heap.get? C=some (ea nm q C N bs bm true sn fq false col none k0 k1 k2 k3 k5 "Exception.__new__")) (hb:bm.contains (.type "BaseException")=true) (hv:v=.ref e) (he:s.heap.get? e=some (qG C dO t)) (hE:E (.ref e) s)
theorem R6{nd:Bool}{Q:gd->ai->Prop}(hh:A.handled=none)
  (h:W nd M A x (Raisable E) E s):
  W nd M A (raiseStmt env (some x) none) Q E s:=by
 refine W.then h λv mN m4=>W.of ?_;obtain⟨e,C,bm,dO,t,nm,q,N,bs,sn,fq,col,k0,k1,k2,k3,k5,hC,DX,rfl,he,hE⟩:=m4;obtain⟨hp,g,d,tk,os⟩:=mN
 repeat (first|with_reducible refine cu he ?_|with_reducible refine cu hC ?_|(with_reducible refine dA hC ?_;rewrite[(by rw[cJ,DX,eZ]:(di C::bm).contains (.type "BaseException")=true)])|wp_step)
 exact wpAny_raiseNew_none hh hE
end
set_option tactic.hygienic true in
theorem Made.of{xs vs}{s:ai}{a C:aA}{f:List (Str×AV)}{lo:List (Option AV)}{as fr:List mH}{v:Value}(S:St c ⟨lo,.exc a C (some f)::as⟩ (.ref a::xs) (v::vs) s):v=.ref a/\(∃dO t,s.heap.get? a=some (qG C dO t))/\Made c ⟨lo,as⟩ xs vs ⟨C,f⟩ v s:=by
 refine cps λV V'=>?_;refine S.of.elim λm5 o=>?_;obtain rfl:=o.mV;refine S.elim λg₁ w9=>w9.elim λhg w9=>w9.elim λm w9=>w9.elim λown w9=>w9.elim λfz I=>?_;refine V' ?_;have sat:=I.sat;cases sat with
 |cons k b=>
  refine cps λV V'=>?_;obtain⟨dx,t,es,n,e,nd⟩:=k;refine V' ?_
  rename_i yF
  have gN:=I.N (a,qG C (some dx) t) (by simp);have g0:=gN.1;refine⟨rfl,⟨some dx,t,g0⟩,g₁,a,dx,m,(dx,cX es n)::yF,fz,qG C (some dx) t,.ref t,hg,rfl,⟨I.F,I.lo,λp hp=>I.N p (List.mem_cons_of_mem _ hp),?_,.cons (.xd e nd) b,?_,I.same⟩,g0,gN.2.2,gN.2.1,?_,rfl,rfl,rfl⟩
  ·exact I.nd.sublist (by simp)
  ·cases I.st;assumption
  ·intro p hp e;have:=I.nd;simp only[fR,kS,bE,bj]at this;refine this.1 ?_;rw[<-e];rcases aH.mp hp with h|h
   ·rcases aL.mp h with rfl|h
    ·exact .head _
    ·exact .tail _ (aZ (f:=(λO=>O.1)) (ax _ h))
   ·exact .tail _ (aZ (f:=(λO=>O.1)) (aS _ h))
inductive Dp(XX:mZ->Sg->Prop)(av:AV)(σ:Sg):Prop
 |mk (a C f as') (h:av=.ref a) (hC:qK C) (hd:nt (.exc a C (some f)) σ.as as') (q:XX ⟨C,f⟩ ⟨σ.lo,as'⟩)
theorem R7{fr xs vs s}{t:fH Value}{XX:mZ->Sg->Prop}{Q:gd->ai->Prop}(ok:Ok c d)(ex:Exits c E XX)
  (h:W c.nd c.M c.A t (Got c fr xs vs (Dp XX)) (E.go fr xs vs) s):W c.nd c.M c.A (raiseStmt c.env (some t) none) Q (E.go fr xs vs) s:=by
 refine R6 (qh ok) (W.mono h ?_ λO O e=>e);rintro v s' ⟨x,mF,S',a,C,f,as',rfl,hC,D,q⟩;have S2:St c ⟨mF.lo,.exc a C (some f)::(as'++fr)⟩ (.ref a::xs) (v::vs) s':=S'.perm (r:=[]) (by
  have:=D.perm.append_right fr
  simpa using this)
 refine(Made.of (fr:=fr) S2).elim λe9 w9=>?_;subst e9;refine w9.elim λq9 M=>?_;obtain⟨dO,t,he⟩:=q9;obtain⟨bm,nm,q',N,bs,sn,fq,col,k0,k1,k2,k3,k5,hE,hB,hA,hN,lk⟩:=hC.at c.w.params;exact⟨a,C,bm,dO,t,nm,q',N,bs,sn,fq,col,k0,k1,k2,k3,k5,S'.sq ok _ _ lk,hB,rfl,he,ex.made _ ⟨mF.lo,as'⟩ fr xs vs _ _ q M⟩
theorem WS.raise(ok:Ok c d)(ex:Exits c E XX)
  (h:WE c E σ (aT (.Call (.Name x np) args [] qL) c.env) (Dp XX)):WS c E σ (aO (.Raise (some (.Call (.Name x np) args [] qL)) none pos::rest) c.env) Q:=by
 refine .cons ?_;intro fr xs vs s S;refine W.at_ ?_;have w2:W c.nd c.M c.A (do let v <-aT (.Call (.Name x np) args [] qL) c.env;dN pos;pure v) (Got c fr xs vs (Dp XX)) (E.go fr xs vs) s:=
  W.then (h.go fr xs vs s S) λv s' q=>W.at_ (W.pure q)
 exact R7 ok ex w2
end
section
variable {c:Cx}{σ:Sg}{d:Nat}{E:Ex}
@[irreducible] def vq(c:Cx)(x:AV)(name:Str)(g:Value):Prop:=
 ∀E σ xs vs v s pl (Q:Value×List Value->ai->Prop),St c σ (x::xs) (v::vs) s->(∀s',St c σ xs vs s'->Q (g,[]) s')->aJ c.M c.A (ed v name pl) Q E s
theorem vq.go(self:vq c x name g):∀E σ xs vs v s pl (Q:Value×List Value->ai->Prop),St c σ (x::xs) (v::vs) s->(∀s',St c σ xs vs s'->Q (g,[]) s')->aJ c.M c.A (ed v name pl) Q E s:=by with_unfolding_all exact self
theorem WE.Kq{pl:Env->fH Bool}(ok:Ok c d)(ho:Ev c σ o x)(hm:vq c x name g)(hk:Kept c g)(ha:WA c E σ es λys mF=>Op c E mF ys (λus=>aF g us) Q)
  (he:autoParam (∀env,aT (.Call (.Attribute o name ap) es [] pos) env=(do
   let ov <-aT o env
   dN ap.atName
   let(f,first) <-cE [ov] (ed ov name (pl env))
   cA pos f first (cM pos (aU es env)) [])) aI) (hp:autoParam ((aU es c.env).any (λO=>O.1)=false) aR):WE c E σ (aT (.Call (.Attribute o name ap) es [] pos) c.env) Q:=by
 intro fr xs vs s S
 with_reducible refine W.I3 (ho.go _ _ _ _ _ _ S λv s' S'=>hm.go _ _ xs vs v s' _ _ S' λs2 S2=>?_) (he c.env)
 exact WA.call (slf:=[]) (first:=[]) ok hk ha S2 rfl hp
theorem vq.cls(ok:Ok c d)(hg:specialIn (KK c.w.params) (.ref C) "__getattribute__"=some (some (.builtin "type.__getattribute__")))(hm:typeIn (KK c.w.params) (.ref C)=some (.type "type"))(hr:readsIn (KK c.w.params) C (.type "type")=true)
  (e:lL (KK c.w.params) (.ref C) (.type "type") name=some (.val (.ref f))):vq c (.ref C) name (.ref f):=by
 intro E σ xs vs v s pl Q S k;refine cps λV V'=>?_;obtain⟨fz,o⟩:=S.of;obtain rfl:=o.mV;obtain⟨g₁,xq,m,own,fz,I⟩:=id S;refine V' ?_;with_reducible exact method_of_cls I.F (ok.on xq).X hg (cls_val I.F (ok.on xq).X hm hr e rfl (k _ (S.pop.tok _)))
theorem vq.typ(ok:Ok c d)(ht:gp (.type T)=pure (.type "type"))(hs:jT T=false)(e:lL (KK c.w.params) (.type T) (.type "type") name=some (.val g))(hh:mc g=true):vq c (.val (.type T)) name g:=by intro E σ xs vs v s pl Q S k;refine cps λV V'=>?_;obtain⟨fz,o⟩:=S.of;obtain rfl:=o.val_inv;obtain⟨g₁,xq,m,own,fz,I⟩:=id S;refine V' ?_;with_reducible exact method_type I.F (ok.on xq).X ht hs e hh (k _ (S.pop.tok _))
end
section
variable {c:Cx}{σ:Sg}{d:Nat}{E:Ex}{ns:List Str}{i:mR}{ε:Env}
theorem Ev.nm(ok:Ok c d)(J:Nm c ns)(h:At ns σ.lo x (some av)):Ev c σ (.Name x pos) av:=Ev.name ok J.cm (by rw[J.eq];exact h)
theorem Ev.gl(ok:Ok c d)(he:c.env=ε)(e:cN (KK c.w.params) az x=some (some (.ref f)))(hx:autoParam (ε.kindOf x=some .globalImplicit) aR)
  (hd:autoParam ((x==("__debug__":Str))=false) aK):Ev c σ (.Name x pos) (.val (.ref f)):=Ev.glob ok e (λO=>.val _) (by rw[he];exact hx) hd
theorem Ev.glr(ok:Ok c d)(he:c.env=ε)(e:cN (KK c.w.params) az x=some (some (.ref f)))(hx:autoParam (ε.kindOf x=some .globalImplicit) aR)
  (hd:autoParam ((x==("__debug__":Str))=false) aK):Ev c σ (.Name x pos) (.ref f):=Ev.glob ok e (λO=>.ref _) (by rw[he];exact hx) hd
theorem Ev.gli(ok:Ok c d)(he:c.env=ε)(e:cN (KK c.w.params) az x=some (some (.int k t)))(hx:autoParam (ε.kindOf x=some .globalImplicit) aR)
  (hd:autoParam ((x==("__debug__":Str))=false) aK):Ev c σ (.Name x pos) (.int k):=Ev.glob ok e (λO=>.int _ _) (by rw[he];exact hx) hd
structure Bi(x:Str)(v:Value):Prop where
 no:∀P,cN (KK P) az x=some none
 bi:fG x=some v
 nn:x≠"__name__"
 nd:(x==("__debug__":Str))=false
theorem Ev.bi(ok:Ok c d)(he:c.env=ε)(b:Bi x v)(hx:autoParam (ε.kindOf x=some .globalImplicit) aR):Ev c σ (.Name x pos) (.val v):=
 Ev.builtin ok (b.no _) b.bi (by rw[he];exact hx) b.nn b.nd
theorem WS.lt(ok:Ok c d)(J:Nm c ns)(h:Ev c σ e av)(P:oA ns σ.lo x (some av) m6)(w:WS c E ⟨m6,σ.as⟩ (aO rest c.env) Q)
  (hs:autoParam (∀env,cn e (some (.Name x p')) p.line env=pure false) aI):WS c E σ (aO (.Assign [.Name x p'] e p::rest) c.env) Q:=.acn ok J.cm h (by rw[J.eq];exact P) w (hs _)
theorem WS.st(ok:Ok c d)(he:c.env=ε)(J:Nm c ns)(h:WE c E σ (aT e c.env) (vl c E ns x rest Q))
  (hs:autoParam (cn e (some (.Name x p')) p.line ε=pure false) aR):WS c E σ (aO (.Assign [.Name x p'] e p::rest) c.env) Q:=.set ok J.cm (by rw[J.eq];exact h) (by rw[he];exact hs)
theorem WS.ex(he:c.env=ε)(h:WE c E σ (aT e c.env) λav mF=>av=.none/\WS c E mF (aO rest c.env) Q)(hi:autoParam (jh ε=false) aR)
  (hs:autoParam (cn e Option.none p.line ε=pure false) aR):WS c E σ (aO (.Expr e p::rest) c.env) Q:=.expr h (by rw[he];exact hi) (by rw[he];exact hs)
theorem WS.un(ok:Ok c d)(he:c.env=ε)(J:Nm c ns)(h:WE c E σ (aT e c.env) (JM c E ns es rest Q))
  (hs:autoParam (fX [.Tuple es k tp] e p.line ε=pure false) aR)(hw:autoParam (fY [.Tuple es k tp] e ε=pure Option.none) aR):WS c E σ (aO (.Assign [.Tuple es k tp] e p::rest) c.env) Q:=
 .vp ok J.cm (by rw[J.eq];exact h) (hs) (by rw[he];exact hw)
theorem WS.sA(ok:Ok c d)(he:c.env=ε)(h:Ev c σ e av)(ho:Ev c σ o (.ref a))(R:Rep (.ins a C f) (.ins a C f') σ.as as')(P:p9 f x av f')(hC:Sets C)
  (hf:∀P,cg (KK P) (.ref C) x=some none)(w:WS c E ⟨σ.lo,as'⟩ (aO rest c.env) Q)(hz:f.length<=900:=by simp)(hs:autoParam (cn e (some (.Attribute o x p')) p.line ε=pure false) aR):WS c E σ (aO (.Assign [.Attribute o x p'] e p::rest) c.env) Q:=
 .M_ ok (h.we ⟨a,C,f,f',as',ho,R,P,hC,hf _,hz,w⟩) (hs)
theorem WS.sX(ok:Ok c d)(he:c.env=ε)(h:Ev c σ e av)(ho:Ev c σ o (.ref a))(R:Rep (.exc a C f) (.exc a C (some f')) σ.as as')
  (P:p9 (f.getD []) x av f')(hC:Sets C)(hf:∀P,cg (KK P) (.ref C) x=some none)(w:WS c E ⟨σ.lo,as'⟩ (aO rest c.env) Q)(hz:(f.getD []).length<=900:=by simp)(hs:autoParam (cn e (some (.Attribute o x p')) p.line ε=pure false) aR):
  WS c E σ (aO (.Assign [.Attribute o x p'] e p::rest) c.env) Q:=.acr ok (h.we ⟨a,C,f,f',as',ho,R,P,hC,hf _,hz,w⟩) (hs)
noncomputable def qi(K:Frag)(C:aA)(x:Str)(g:aA)(ks:List Str):Bool:=kM K C x&&cg K (.ref C) x==some (some (.ref g))&&isFn K (.ref g)&&f6 K (.ref g)&&!(ks.contains x)
theorem WE.me{pl:Env->fH Bool}(ok:Ok c d)(ho:Ev c σ o (.ref a))(hm:.ins a C f∈σ.as)(hk:∀P,qi (KK P) C name g ks=true)(hf:f.map (λO=>O.1)=ks)
  (ha:WA c E σ es λys mF=>Op c E mF (.ref a::ys) (λus=>aF (.ref g) us) Q)
  (he:autoParam (∀env,aT (.Call (.Attribute o name ap) es [] pos) env=(do
   let ov <-aT o env
   dN ap.atName
   let(f,first) <-cE [ov] (ed ov name (pl env))
   cA pos f first (cM pos (aU es env)) [])) aI) (hp:autoParam ((aU es c.env).any (λO=>O.1)=false) aR):WE c E σ (aT (.Call (.Attribute o name ap) es [] pos) c.env) Q:=by
 have h:=hk c.w.params;simp only[qi,b5,beq_iff_eq,dQ]at h;refine cps λV V'=>?_;obtain⟨⟨⟨⟨h1,h2⟩,h3⟩,h4⟩,h5⟩:=h;refine V' ?_;refine .nX ok ho (.inst ok hm h1 h2 h3 ?_) (.K h4) ha he hp;rw[hf];intro hx;rw[List.contains_iff_mem.mpr hx]at h5;cases h5
structure Li(K:Frag)(C:aA)(x:Str)(g:aA):Prop where
 a:specialIn K (.ref C) "__getattribute__"=some (some (.builtin "type.__getattribute__"))
 b:typeIn K (.ref C)=some (.type "type")
 c:readsIn K C (.type "type")=true
 d:f6 K (.ref g)=true
 e:lL K (.ref C) (.type "type") x=some (.val (.ref g))
theorem WE.cm{pl:Env->fH Bool}(ok:Ok c d)(ho:Ev c σ o (.ref C))(hk:∀P,Li (KK P) C name g)(ha:WA c E σ es λys mF=>Op c E mF ys (λus=>aF (.ref g) us) Q)
  (he:autoParam (∀env,aT (.Call (.Attribute o name ap) es [] pos) env=(do
   let ov <-aT o env
   dN ap.atName
   let(f,first) <-cE [ov] (ed ov name (pl env))
   cA pos f first (cM pos (aU es env)) [])) aI) (hp:autoParam ((aU es c.env).any (λO=>O.1)=false) aR):WE c E σ (aT (.Call (.Attribute o name ap) es [] pos) c.env) Q:=by
 have h:=hk c.w.params;exact .Kq ok ho (.cls ok h.a h.b h.c h.e) (.K h.d) ha he hp
theorem WE.fn(ok:Ok c d)(he:c.env=ε)(e:∀P,cN (KK P) az x=some (some (.ref f)))(hk:∀P,f6 (KK P) (.ref f)=true)(ha:WA c E σ es λys mF=>Op c E mF ys (λus=>aF (.ref f) us) Q)
  (hx:autoParam (ε.kindOf x=some .globalImplicit) aR)(hd:autoParam ((x==("__debug__":Str))=false) aK)
  (hv:autoParam (∀env,aT (.Call (.Name x np) es [] pos) env=(do cA pos (<-aT (.Name x np) env) [] (cM pos (aU es env)) (dF pos (cF [] env)))) aI)(hp:autoParam ((aU es c.env).any (λO=>O.1)=false) aR):WE c E σ (aT (.Call (.Name x np) es [] pos) c.env) Q:=
 .DR ok (Ev.gl ok he (e _) hx hd) (.K (hk _)) ha hv hp
theorem WE.bf(ok:Ok c d)(he:c.env=ε)(h:Bi x (.builtin b))(ha:WA c E σ es λys mF=>Op c E mF ys (λus=>aF (.builtin b) us) Q)
  (hx:autoParam (ε.kindOf x=some .globalImplicit) aR)(hv:autoParam (∀env,aT (.Call (.Name x np) es [] pos) env=(do cA pos (<-aT (.Name x np) env) [] (cM pos (aU es env)) (dF pos (cF [] env)))) aI)(hp:autoParam ((aU es c.env).any (λO=>O.1)=false) aR):
  WE c E σ (aT (.Call (.Name x np) es [] pos) c.env) Q:=.DR ok (Ev.bi ok he h hx) .builtin ha hv hp
theorem WE.bt(ok:Ok c d)(he:c.env=ε)(h:Bi x (.type T))(ha:WA c E σ es λys mF=>Op c E mF ys (λus=>aF (.type T) us) Q)
  (hx:autoParam (ε.kindOf x=some .globalImplicit) aR)(hv:autoParam (∀env,aT (.Call (.Name x np) es [] pos) env=(do cA pos (<-aT (.Name x np) env) [] (cM pos (aU es env)) (dF pos (cF [] env)))) aI)(hp:autoParam ((aU es c.env).any (λO=>O.1)=false) aR):
  WE c E σ (aT (.Call (.Name x np) es [] pos) c.env) Q:=.DR ok (Ev.bi ok he h hx) .type ha hv hp
theorem uu(h:i.Is)(P:aM):isFn (KK P) (.ref i.f)=true:=by
 unfold isFn typeIn;dsimp only;rw[h.look P]
 rfl
theorem pF(hl:us.length=1)(h:∀a,bk s i.fd ⟨[a],[]⟩ ((i.ns.take 1).zip [a])):bk s i.fd ⟨us,[]⟩ ((i.ns.take (id us).length).zip (id us)):=by obtain⟨a⟩:=q8 hl;exact h a
theorem pY(hl:us.length=2)(h:∀a b,bk s i.fd ⟨[a,b],[]⟩ ((i.ns.take 2).zip [a,b])):bk s i.fd ⟨us,[]⟩ ((i.ns.take (id us).length).zip (id us)):=by obtain⟨a,b⟩:=qn hl;exact h a b
theorem yg(hl:us.length=3)(h:∀a b c,bk s i.fd ⟨[a,b,c],[]⟩ ((i.ns.take 3).zip [a,b,c])):bk s i.fd ⟨us,[]⟩ ((i.ns.take (id us).length).zip (id us)):=by obtain⟨a,b,c⟩:=BO hl;exact h a b c
theorem Kr(hl:us.length=4)(h:∀a b c d,bk s i.fd ⟨[a,b,c,d],[]⟩ ((i.ns.take 4).zip [a,b,c,d])):bk s i.fd ⟨us,[]⟩ ((i.ns.take (id us).length).zip (id us)):=by obtain⟨a,b,c,d⟩:=E1 hl;exact h a b c d
end
section
variable {c:Cx}{σ:Sg}{d:Nat}{E:Ex}
section
variable {prog:Program}{w:cL}{A:Around}{E:Value->ai->Prop}{s:ai}
theorem Ay(h:jJ (aX prog w) A E o i Q s)(hs:jf slice false o i=j8 ops (getItem o i)):aJ (aX prog w) A (mx value slice o i) Q E s:=by
 refine h.elim λT w9=>w9.elim λid w9=>w9.elim λhl w9=>w9.elim λhT hg=>?_;refine ag ?_;refine ag (bp hT hl ?_);have fin:aJ (aX prog w) A (jf slice false o i) (λr nK=>aJ (aX prog w) A (gM value o r>>=λO=>pure r) Q E nK) E s:=by rw[hs];exact wpAny_operating (aY hg (λr nK w5=>ag (kI (ak w5))) λO O x=>x)
 first
  |exact ak (ag fin)
  |exact ag (ak (ag fin))
  |exact ag fin
end
@[irreducible] def Item(c:Cx)(E:Ex)(σ:Sg)(x i:AV)(Q:AV->Sg->Prop):Prop:=
 ∀fr xs vs vx vi s,St c (σ.on fr) (i::x::xs) (vi::vx::vs) s->jJ c.M c.A (E.go fr xs vs) vx vi (Got c fr xs vs Q) s
theorem Item.go(self:Item c E σ x i Q):∀fr xs vs vx vi s,St c (σ.on fr) (i::x::xs) (vi::vx::vs) s->jJ c.M c.A (E.go fr xs vs) vx vi (Got c fr xs vs Q) s:=by with_unfolding_all exact self
theorem WE.item(h:WE c E σ (aT o c.env) λx mM=>WE c E mM (aT e c.env) λi mT=>Item c E mT x i Q)
  (hs:∀a b,jf e false a b=j8 [a,b] (getItem a b):=by intro _ _;rfl):WE c E σ (aT (.Subscript o e pos) c.env) Q:=by
 intro fr xs vs s S;with_reducible exact W.Subscript (h.run S λx mM va s1 w S1=>w.run' S1 λy mT vb s2 w2 S2=>W.of (Ay (w2.go fr xs vs va vb s2 S2) (hs _ _)))
@[irreducible] def pv(c:Cx)(σ:Sg)(x i z:AV):Prop:=
 ∀E fr xs vs vx vi s (Q:Value->ai->Prop),St c (σ.on fr) (i::x::xs) (vi::vx::vs) s->(∀v s',St c (σ.on fr) (z::xs) (v::vs) s'->Q v s')->jJ c.M c.A E vx vi Q s
theorem pv.go(self:pv c σ x i z):∀E fr xs vs vx vi s (Q:Value->ai->Prop),St c (σ.on fr) (i::x::xs) (vi::vx::vs) s->(∀v s',St c (σ.on fr) (z::xs) (v::vs) s'->Q v s')->jJ c.M c.A E vx vi Q s:=by with_unfolding_all exact self
theorem Ev.item(ho:Ev c σ o x)(hi:Ev c σ e i)(h:pv c σ x i z)(hs:∀a b,jf e false a b=j8 [a,b] (getItem a b):=by intro _ _;rfl):Ev c σ (.Subscript o e pos) z:=by intro E fr xs vs s Q S k;with_reducible exact W.Subscript (ho.go _ _ _ _ _ _ S λva s1 S1=>hi.go _ _ _ _ _ _ S1 λvb s2 S2=>W.of (Ay (h.go E fr xs vs va vb s2 Q S2 k) (hs _ _)))
theorem pv.bytes(h0:0<=i)(h1:i<b.length)(hz:b.length<=16000000):pv c σ (.bytes b) (.int i) (.int (b.getD i.toNat 0).toNat):=by intro E fr xs vs vx vi s Q S k;obtain⟨fz,o1,o2⟩:=S.two;obtain⟨t,rfl⟩:=o1.qR;obtain⟨u,rfl⟩:=o2.int_inv;exact⟨"bytes",_,gj.lookup,bT _ _ _,getItem_bytes (Ny hz) h0 h1 (k _ _ ((S.pop.pop.push λO=>.int _ _).tok _))⟩
inductive OE(c:Cx)(σ:Sg):Option cI->Option Int->Prop
 |none:OE c σ none none
 |some {e i}:Ev c σ e (.int i)->OE c σ (some e) (some i)
noncomputable def cut{α:Type}(l:List α)(lo hi:Option Int):List α:=(l.drop (lo.elim 0 (ib l.length))).take (hi.elim l.length (ib l.length)-lo.elim 0 (ib l.length))
theorem OE.go(h:OE c σ e o){E fr xs vs s}{Q:Value->ai->Prop}(S:St c (σ.on fr) xs vs s)(k:∀v s',lB v o->St c (σ.on fr) xs vs s'->Q v s'):W c.nd c.M c.A (kN e c.env) Q E s:=by
 cases h with
 |none=>exact W.pure (k _ _ .none S)
 |some h=>refine h.go E fr xs vs s Q S λv s' S'=>?_;refine S'.of.elim λfz o=>?_;refine o.int_inv.elim λt e8=>?_;subst e8;exact k _ _ (.int _ _) S'.pop
@[irreducible] def yh(c:Cx)(σ:Sg)(x:AV)(lo hi:Option Int)(z:AV):Prop:=
 ∀E fr xs vs vx l u s (Q:Value->ai->Prop),lB l lo->lB u hi->St c (σ.on fr) (x::xs) (vx::vs) s->(∀v s',St c (σ.on fr) (z::xs) (v::vs) s'->Q v s')->
  jJ c.M c.A E vx (.ref s.heap.objs.size) Q {s with heap:=s.heap.push {cls:=.type "slice",data:=.fields #[l,u,.none]}}
theorem yh.go{lo hi:Option Int}{z:AV}(self:yh c σ x lo hi z):∀E fr xs vs vx l u s (Q:Value->ai->Prop),lB l lo->lB u hi->St c (σ.on fr) (x::xs) (vx::vs) s->(∀v s',St c (σ.on fr) (z::xs) (v::vs) s'->Q v s')->
  jJ c.M c.A E vx (.ref s.heap.objs.size) Q {s with heap:=s.heap.push {cls:=.type "slice",data:=.fields #[l,u,.none]}}:=by with_unfolding_all exact self
theorem Ev.slice{x z:AV}{lo hi:Option Int}(ho:Ev c σ o x)(hl:OE c σ lower lo)(hu:OE c σ upper hi)(h:yh c σ x lo hi z):Ev c σ (.Subscript o (.Slice lower upper Option.none p) pos) z:=by
 intro E fr xs vs s Q S k
 with_reducible refine W.Subscript (ho.go _ _ _ _ _ _ S λva s1 S1=>W.Slice (hl.go S1 λl s2 pl S2=>hu.go S2 λu s3 pu S3=>?_))
 refine W.pure ?_
 exact W.of (Ay (h.go E fr xs vs va l u s3 Q pl pu S3 k) rfl)
theorem yh.bytes{lo hi:Option Int}(hz:b.length<=16000000):yh c σ (.bytes b) lo hi (.bytes (cut b lo hi)):=by
 intro E fr xs vs vx l u s Q pl pu S k;refine S.of.elim λfz o=>?_;refine o.qR.elim λt e8=>?_;subst e8;refine⟨"bytes",_,gj.lookup,bT _ _ _,getItem_meets (bT _ _ _) rfl gj FB.entry_bytes_getitem (FB.args_bytes_getitem_2 _ _) (KBc.meets_slice2 b.toArray t _ pl pu)
  ⟨bb.IsSliceOf.new _ _ _ _,ar (KBc.size_picked_le _ lo hi) (Nz hz),λt' k'=>?_⟩⟩
 rw[(by rw[KBc.picked_eq];rfl:KBy.picked b.toArray lo hi=(cut b lo hi).toArray)];exact k _ _ ((S.keeps (t:=k') λb o q=>ay _ q).pop.push λO=>.bytes _ _)
@[irreducible] def oB(c:Cx)(σ:Sg)(x:AV)(t:Value->fH Value)(z:AV):Prop:=
 ∀E fr xs vs v s (Q:Value->ai->Prop),St c (σ.on fr) (x::xs) (v::vs) s->(∀u s',St c (σ.on fr) (z::xs) (u::vs) s'->Q u s')->aJ c.M c.A (t v) Q E s
theorem oB.go(self:oB c σ x t z):∀E fr xs vs v s (Q:Value->ai->Prop),St c (σ.on fr) (x::xs) (v::vs) s->(∀u s',St c (σ.on fr) (z::xs) (u::vs) s'->Q u s')->aJ c.M c.A (t v) Q E s:=by with_unfolding_all exact self
theorem oB.op(h:oB c σ x (λv=>aF f [v]) z)(q:Q z σ):Op c E σ [x] (λus=>aF f us) Q:=by intro fr xs vs us s S hl;obtain⟨u⟩:=q8 hl;exact W.of (h.go _ fr xs vs u s _ S λv s' S'=>⟨z,σ,S',q⟩)
theorem oB.tU(hz:b.length<=16000000):oB c σ (.bytes b) (λv=>aF (.builtin "len") [v]) (.int b.length):=by intro E fr xs vs v s Q S k;refine S.of.elim λfz o=>?_;refine o.qR.elim λt e8=>?_;subst e8;exact len_bytes (Ny hz) (k _ _ ((S.pop.push λO=>.int _ _).tok _))
theorem mQ.Dq(h:∀ta tb E s (Q:Value->ai->Prop),(∀v t',(∀fz,Of fz z v)->Q v {s with toks:=t'})->aJ c.M c.A (t (.bytes b.toArray ta) (.bytes b'.toArray tb)) Q E s):mQ c σ (.bytes b) (.bytes b') t z:=by intro E fr xs vs va vb s Q S k;obtain⟨fz,oa,ob⟩:=S.two;obtain⟨ta,rfl⟩:=oa.qR;obtain⟨tb,rfl⟩:=ob.qR;exact W.of (h ta tb E s Q λv t' o=>k v _ ((S.pop.pop.push o).tok t'))
theorem mQ.qW(hz:b.length+b'.length<=16000000):mQ c σ (.bytes b) (.bytes b') (cV .Add) (.bytes (b++b')):=by refine .Dq ?_;intro ta tb E s Q k;exact KBy.add_bytes (o12 hz) λt' k'=>k _ k' λfz=>by simpa using Of.bytes (fz:=fz) (b++b') t'
theorem mQ.eqB:mQ c σ (.bytes b) (.bytes b') (bY .Eq) (.bool (decide (b=b'))):=by
 refine .Dq ?_;intro ta tb E s Q k;refine eq_bytes (k _ s.toks λfz=>?_);have:(b==b')=decide (b=b'):=by by_cases h:b=b'<;>simp[h]
 rw[this];exact Of.bool _
theorem mQ.N5:mQ c σ (.bytes b) (.bytes b') (bY .NotEq) (.bool (decide (b≠b'))):=by
 refine .Dq ?_;intro ta tb E s Q k;refine ne_bytes (k _ s.toks λfz=>?_);have:(b !=b')=decide (b≠b'):=by by_cases h:b=b'<;>simp[h]
 rw[this];exact Of.bool _
noncomputable abbrev vg(b:List UInt8)(i:Nat):Obj->Prop:=λo=>o.cls=.type "bytes_iterator"/\∃t,o.data=.fields #[.bytes b.toArray t,.int i 0]
theorem oE.bytes{lo as}{b:List UInt8}:∀{P:AV->Sg->Prop},(∀it,P (.ref it) ⟨lo,.is it (vg b 0)::as⟩)->oE c ⟨lo,as⟩ (.bytes b) P:=by intro P hP;intro E fr xs vs v s Q S k;refine S.of.elim λfz o=>?_;refine o.qR.elim λt e8=>?_;subst e8;refine KBw.pyIter_bytes (k (.ref s.heap.objs.size) ⟨lo,.is s.heap.objs.size (vg b 0)::as⟩ _ _ (hP _) ?_);exact S.alloc (tk:=s.toks) rfl λfz o=>⟨.is ⟨rfl,t,rfl⟩,.cons (.ref _) o⟩
theorem Iter.bytes{lo as as'}{b:List UInt8}{it:aA}{i:Nat}{y:UInt8}(ok:Ok c d)(R:Rep (.is it (vg b i)) (.is it (vg b (i+1))) as as')(hx:b[i]?=some y):Iter c ⟨lo,as⟩ (.ref it) (some (.int y.toNat)) ⟨lo,as'⟩:=by
 intro E fr xs vs v s Q S k;refine S.of.elim λfz o=>?_;obtain rfl:=o.mV;refine cps λV V'=>?_;obtain⟨g₁,m,fz,cl,hg,F,K,gt,mI,nd,nw,_,back⟩:=S.at (R.on fr);obtain⟨ob,hp⟩:=K;refine hp.elim λhc w9=>w9.elim λt hd=>?_;refine V' ?_;refine KBw.next_item (b:=b.toArray) (t:=t) (i:=i) ⟨ob,gt _ (.head _),hc,hd⟩ (by simpa using hx) λh' hit hs=>k _ _ ?_;refine cps λV V'=>?_;refine hit.elim λv8 w9=>w9.elim λg' w9=>w9.elim λzo rM=>?_;refine V' ?_;refine back _ [(it,v8)] _ _ (.is ⟨zo,t,rM⟩) rfl (λp hp=>?_) (λq hq o e=>?_) ⟨rfl,rfl,rfl⟩ (.cons (.int _ _) mI)
 ·simp only[ao]at hp;subst hp;exact g'
 ·exact(hs.2 q (λe=>hq (by simp[e]))).trans e
theorem Iter.I6{lo as as'}{b:List UInt8}{it:aA}{i:Nat}(ok:Ok c d)(R:nt (.is it (vg b i)) as as')(hx:b[i]?=none):Iter c ⟨lo,as⟩ (.ref it) none ⟨lo,as'⟩:=by intro E fr xs vs v s Q S k;refine cps λV V'=>?_;refine S.of.elim λfz o=>?_;obtain rfl:=o.mV;obtain⟨cl,fz,K,gt,back⟩:=S.forget (R.on fr);obtain⟨ob,hp⟩:=K;refine hp.elim λhc w9=>w9.elim λt hd=>?_;refine V' ?_;refine KBw.next_end (b:=b.toArray) (t:=t) (i:=i) (qh ok) ⟨ob,gt _ (.head _),hc,hd⟩ (by simpa using hx) λh' he=>k _ (back _ (λq hq o e=>?_) ⟨rfl,rfl,rfl⟩);exact he q o (λe=>hq (by simp[e])) e
end
section
variable {c:Cx}{σ:Sg}{d:Nat}{E:Ex}
theorem Tv:cO (.type "bytes") "__bytes__"=pure (some (.builtin "bytes.__bytes__")):=by rw[bP,bq];kernel_rfl
theorem P7{prog:Program}{w:cL}{A:Around}{E:Value->ai->Prop}{s:ai}{b:Array UInt8}{t:Tok}{Q:Value->ai->Prop}(h:Q (.bytes b t) s):aJ (aX prog w) A (aF (.type "bytes") [.bytes b t]) Q E s:=by
 refine mf (Q₁:=λobj mN=>mN.TypeIs obj "bytes"/\Q obj mN) fS (lX _) kF ?_ λobj mN m4=>?_
 ·refine gx ?_;show aJ _ A.in1.in1 (do cc "bytes.__new__" ⟨[.type "bytes",.bytes b t],[]⟩;again (.builtin "bytes.__new__" ⟨[.type "bytes",.bytes b t],[]⟩)) _ _ s;refine ag (bV (F.bm_newCall _) (ak ⟨dv F.bm_plain _,gy F.bm_entry ?_⟩));refine ag (bV (a:=true) rfl ?_);refine ck rfl ?_;refine ag (bV kn ?_);refine ck rfl ?_;refine ag (bV (F.bm_bind _) ?_);refine ag (bV (a:=()) rfl ?_);refine ag (bV (a:=()) rfl ?_);refine ck rfl ?_;refine ag (bp (bT s b t) Tv ?_);refine ag (d_ (ag (fF (bT s b t) ?_)));exact ak ⟨bT _ _ _,h⟩
 ·exact⟨m4.1,kp obj _,lI fS.init.lookup fS.made rfl prog w A.in1 _ mN ⟨m4.1,rfl,m4.2⟩⟩
theorem oB.Uo{b:List UInt8}:oB c σ (.bytes b) (λv=>aF (.type "bytes") [v]) (.bytes b):=by intro E fr xs vs v s Q S k;refine S.of.elim λfz o=>?_;refine o.qR.elim λt e8=>?_;subst e8;exact P7 (k _ _ (S.pop.push λO=>.bytes _ _))
noncomputable def AV.isNone:AV->Option Bool
 |.none=>some true
 |.val _=>Option.none
 |_=>some false
theorem Of.isNone{fz:Cells}{x:AV}{v:Value}{b:Bool}(h:Of fz x v)(e:x.isNone=some b):(v==e_)=b:=by cases h<;>first|(cases e;rfl)|cases e
theorem mQ.isNone{x:AV}{b:Bool}(e:x.isNone=some b):mQ c σ x .none (bY .Is) (.bool b):=by intro E fr xs vs va vb s Q S k;obtain⟨fz,oa,ob⟩:=S.two;obtain rfl:=ob.none_inv;refine W.of (is_none_gen (k _ _ ?_));rw[oa.isNone e];exact S.pop.pop.push λO=>.bool b
theorem mQ.ru{x:AV}{b:Bool}(e:x.isNone=some b):mQ c σ x .none (bY .IsNot) (.bool (!b)):=by intro E fr xs vs va vb s Q S k;obtain⟨fz,oa,ob⟩:=S.two;obtain rfl:=ob.none_inv;refine W.of (isnot_none_gen (k _ _ ?_));rw[oa.isNone e];exact S.pop.pop.push λO=>.bool _
end
section
variable {c:Cx}{σ:Sg}{d:Nat}{E:Ex}{i:mR}{ε:Env}
theorem Ev.yH{t a b:cI}{pos:iA}{x:AV}(ht:Tr c σ t true)(ha:Ev c σ a x):Ev c σ (.IfExp t a b pos) x:=by
 have:=Ev.ite (b:=b) (pos:=pos) (y:=x) ht (λO=>ha) (λh=>nomatch h)
 rwa [if_pos rfl]at this
theorem Ev.yI{t a b:cI}{pos:iA}{x:AV}(ht:Tr c σ t false)(hb:Ev c σ b x):Ev c σ (.IfExp t a b pos) x:=by
 have:=Ev.ite (a:=a) (pos:=pos) (x:=x) ht (λh=>nomatch h) (λO=>hb)
 rwa [if_neg (by decide)]at this
theorem WT.Bv{l r:cI}{op:CmpOp}{pos:iA}{x:AV}{Q:Bool->Sg->Prop}(hl:Ev c σ l x)(hr:WE c E σ (aT r c.env) λy mF=>∃b,mQ c mF x y (bY op) (.bool b)/\Q b mF)(hm:autoParam (dU op r=false) aR):WT c E σ (.Compare l [op] [r] pos) Q:=by
 intro fr xs vs s S
 with_reducible refine W.CN (hl.go _ _ _ _ _ _ S λva s1 S1=>hr.run' S1 λy mT vb s2 q S2=>?_) hm
 refine q.elim λb w9=>w9.elim λh q=>?_
 with_reducible refine h.go _ _ _ _ _ _ _ _ S2 λv s' S'=>?_
 refine S'.of.elim λfz o=>?_
 rw[o.bool_inv]
 exact W.of (dh ⟨mT,S'.pop,q⟩)
theorem WE.ev{e:cI}{x:AV}{Q:AV->Sg->Prop}(h:Ev c σ e x)(k:Q x σ):WE c E σ (aT e c.env) Q:=Ev.we h k
theorem Ev.Lj{x:Str}{np pos:iA}{g:Value}{e:cI}{y z:AV}(ok:Ok c d)(he:c.env=ε)(b:Bi x g)(hk:Kept c g)(h:Ev c σ e y)(op:oB c σ y (λv=>aF g [v]) z)(hx:autoParam (ε.kindOf x=some .globalImplicit) aR)
  (hv:autoParam (∀env,aT (.Call (.Name x np) [e] [] pos) env=(do cA pos (<-aT (.Name x np) env) [] (cM pos (aU [e] env)) (dF pos (cF [] env)))) aI)(hs:autoParam (∀env,aU [e] env=[(false,aT e env)]) aI):Ev c σ (.Call (.Name x np) [e] [] pos) z:=by
 intro E fr xs vs s Q S k
 with_reducible refine W.Call ((Ev.bi ok he b hx).go _ _ _ _ _ _ S λv s1 S1=>?_) (hv _)
 refine S1.of.elim λfz o=>?_
 obtain rfl:=o.val_inv
 rw[hs]
 show W c.nd c.M c.A (cA pos v [] [(false,aT e c.env)] []) Q E s1
 refine W.callWith (P:=λh=>(KK c.w.params).In h) rfl hk.go (W.args (W.Km ?_) (.inr ⟨_,_,rfl⟩))
 refine h.go _ _ _ _ _ _ S1.pop λu s2 S2=>?_
 refine W.of (spliced_nil ⟨S2.sq ok,?_⟩)
 exact W.of (op.go E fr xs vs u s2 Q S2 k)
theorem Ev.pC{x:Str}{np pos:iA}{b:String}{e:cI}{y z:AV}(ok:Ok c d)(he:c.env=ε)(hb:Bi x (.builtin b))(h:Ev c σ e y)(op:oB c σ y (λv=>aF (.builtin b) [v]) z)(hx:autoParam (ε.kindOf x=some .globalImplicit) aR)
  (hv:autoParam (∀env,aT (.Call (.Name x np) [e] [] pos) env=(do cA pos (<-aT (.Name x np) env) [] (cM pos (aU [e] env)) (dF pos (cF [] env)))) aI)(hs:autoParam (∀env,aU [e] env=[(false,aT e env)]) aI):Ev c σ (.Call (.Name x np) [e] [] pos) z:=.Lj ok he hb .builtin h op hx hv hs
theorem Ev.E7{x:Str}{np pos:iA}{T:String}{e:cI}{y z:AV}(ok:Ok c d)(he:c.env=ε)(hb:Bi x (.type T))(h:Ev c σ e y)(op:oB c σ y (λv=>aF (.type T) [v]) z)(hx:autoParam (ε.kindOf x=some .globalImplicit) aR)
  (hv:autoParam (∀env,aT (.Call (.Name x np) [e] [] pos) env=(do cA pos (<-aT (.Name x np) env) [] (cM pos (aU [e] env)) (dF pos (cF [] env)))) aI)(hs:autoParam (∀env,aU [e] env=[(false,aT e env)]) aI):Ev c σ (.Call (.Name x np) [e] [] pos) z:=.Lj ok he hb .type h op hx hv hs
end
section
variable {c:Cx}{σ:Sg}{d:Nat}{E:Ex}{i:mR}{ε:Env}{ns:List Str}
theorem WE.tuple(h:WA c E σ es λys mF=>ys.length<=900/\Q (.tup ys) mF):WE c E σ (aT (.Tuple es k pos) c.env) Q:=by intro fr xs vs s S;refine .at_ ((h.go pos fr xs vs s S).then ?_);rintro us s1 ⟨ys,mF,S1,hl,hy,q⟩;refine W.of (cH ?_ (by show us.toArray.size<=e0;rw[bK,hl,cz];exact NA hl hy));refine⟨.tup ys,mF,?_,q⟩;refine S1.Dn (o:={cls:=.type "tuple",data:=.seq us.toArray}) (tk:=s1.toks) rfl λfz o=>?_;exact .cons (.tup (.head _) rfl rfl ((o.oi hl).1.mono λp hp=>.tail _ hp)) ((o.oi hl).2.mono λp hp=>.tail _ hp)
theorem WE.list(h:WA c E σ es λys mF=>ys.length<=900/\∀a,Q (.ref a) ⟨mF.lo,.lst a ys::mF.as⟩):WE c E σ (aT (.List es pos) c.env) Q:=by intro fr xs vs s S;refine .at_ ((h.go pos fr xs vs s S).then ?_);rintro us s1 ⟨ys,mF,S1,hl,hy,q⟩;refine W.of (cH ?_ (by show us.toArray.size<=e0;rw[bK,hl,cz];exact NA hl hy));refine⟨.ref s1.heap.objs.size,_,?_,q _⟩;refine S1.alloc (o:={cls:=.type "list",data:=.seq us.toArray}) (tk:=s1.toks) rfl λfz o=>?_;exact⟨.lst (o.oi hl).1,.cons (.ref _) (o.oi hl).2⟩
inductive zp(ns:List Str):List Str->List AV->List (Option AV)->List (Option AV)->Prop
 |nil {lo}:zp ns [] [] lo lo
 |cons {x xs av nH lo lo1 t7}:oA ns lo x (some av) lo1->zp ns xs nH lo1 t7->zp ns (x::xs) (av::nH) lo t7
theorem St.bnd{E:Value->ai->Prop}{as}(ok:Ok c d)(hc:c.cm=false){nm nH lo m6}(h:zp c.ns nm nH lo m6):∀{xs vs us s}{Q:Unit->ai->Prop},St c ⟨lo,as⟩ (nH++xs) (us++vs) s->us.length=nH.length->(∀s',St c ⟨m6,as⟩ xs vs s'->Q () s')->
  aJ c.M c.A (dW (nm.map λn=>iQ c.env n) us) Q E s:=by
 induction h with
 |nil=>
  intro xs vs us s Q S hl k;cases us with
  |nil=>exact ak (k s S)
  |cons _ _=>cases hl
 |cons P _ ih=>
  intro xs vs us s Q S hl k;cases us with
  |nil=>cases hl
  |cons u us=>show aJ _ _ (do cE us (iQ c.env _ u);dW _ us) _ _ _;refine ag (bN (jB (S.store ok hc P λs' S'=>?_)));exact ih S' (by simpa using hl) k
theorem W.Qv{nd:Bool}{E:Value->ai->Prop}{s:ai}{env:Env}{es:List cI}{k:Nat}{tp pos:iA}{value:cI}{names:List Str}{Q:gd->ai->Prop}(h:W nd M A (aT value env) (λv mN=>aJ M A (unpackItems v names.length none) (λitems m8=>aJ M A (dW (names.reverse.map λn=>iQ env n) items.reverse) (λO=>Q .next) E m8) E mN) E s)
  (hs:fX [.Tuple es k tp] value pos.line env=bQ false)(hw:fY [.Tuple es k tp] value env=bQ (some names)):W nd M A (jQ (.Assign [.Tuple es k tp] value pos) env) Q E s:=by
 rw[exec_Assign,hs];refine .at_ (.step (ak ?_));refine h.then λv s1 q=>?_;rw[hw];refine .step (ak ?_);show W nd M A (do rule "assign.swapped-stores";let items <-unpackItems v names.length none;dW (names.reverse.map λn=>iQ env n) items.reverse;bQ .next) Q E s1;exact .step (d_ (.then (.of q) λitems s2 q=>.step (aY q (λO O x=>W.pure x) λO O e=>e)))
inductive Tw(c:Cx)(E:Ex)(ns names:List Str)(rest:List Stmt)(Q:Out->Sg->Prop)(av:AV)(mF:Sg):Prop
 |mk (nH m6) (h:av=.tup nH) (l:nH.length=names.length) (n:zp ns names.reverse nH.reverse mF.lo m6) (w:WS c E ⟨m6,mF.as⟩ (aO rest c.env) Q)
theorem WS.us(ok:Ok c d)(he:c.env=ε)(J:Nm c ns)(h:WE c E σ (aT e c.env) (Tw c E ns names rest Q))
  (hw:autoParam (fY [.Tuple es k tp] e ε=pure (some names)) aR)(hs:autoParam (fX [.Tuple es k tp] e p.line ε=pure false) aR):WS c E σ (aO (.Assign [.Tuple es k tp] e p::rest) c.env) Q:=by
 refine .cons ?_
 intro fr xs vs s S
 with_reducible refine W.Qv (h.run S ?_) (by rw[he];exact hs) (by rw[he];exact hw)
 rintro av mF v s' ⟨nH,m6,rfl,hl,B,w⟩ S'
 refine cps λV V'=>?_
 obtain⟨a,us,rfl,ht,BQ,S2⟩:=S'.vp
 refine V' ?_
 rw[<-hl,show nH.length=us.toArray.size by rw[bK,BQ]]
 refine unpackItems_tuple (qh ok) ht λh' hx=>?_
 refine St.bnd (xs:=xs) (vs:=vs) ok J.cm (by rw[J.eq];exact B) ((S2.keeps (h':=h') (t:=s'.toks) λb o q=>hx b o (bC (a_ q)) q).hand λfz o=>?_) (by simp[BQ]) λph y_=>?_
 ·exact(o.oi BQ).1.reverse.append (o.oi BQ).2
 ·exact⟨.next,⟨m6,mF.as⟩,⟨rfl,y_⟩,w⟩
end
section
variable {c:Cx}{σ:Sg}{d:Nat}{E:Ex}
theorem Meth.append{a:aA}{xs:List AV}(hm:.lst a xs∈σ.as):Meth c σ (.ref a) "append" (.builtin "list.append"):=by intro E fr ys vs v s pl Q S k;refine S.of.elim λfz o=>?_;obtain rfl:=o.mV;obtain⟨g₁,m,fz,cl,hg,F,K,gt,mI,nd,nw,_,back⟩:=S.at (Rep.refl (ax fr hm));obtain⟨us,n,ho⟩:=K;exact Calls.getMethod_list_append (gt _ (.head _)) rfl rfl (k s S)
theorem Op.append{lo as as'}{a:aA}{xs:List AV}{y:AV}{Q:AV->Sg->Prop}(R:Rep (.lst a xs) (.lst a (xs++[y])) as as')(hz:xs.length<=900000)(q:Q .none ⟨lo,as'⟩):Op c E ⟨lo,as⟩ [.ref a,y] (λus=>aF (.builtin "list.append") us) Q:=by
 intro fr ys vs us s S hl;obtain⟨v1,v2⟩:=qn hl;obtain⟨g₁,m,fz,cl,hg,F,K,gt,mI,nd,nw,_,back⟩:=S.at (R.on fr);have o1:=mI.hd;replace mI:=mI.tl;have o2:=mI.hd;replace mI:=mI.tl;obtain rfl:=o1.mV;refine cps λV V'=>?_;obtain⟨ws,n,ho⟩:=K;refine V' ?_;refine W.of (append_at (gt _ (.head _)) (λh' hs hg=>⟨.none,⟨lo,as'⟩,?_,q⟩) (by rw[bK,<-ho.length,cz];exact xn hz));refine back _ [(a,⟨.type "list",none,.seq (ws++[v2]).toArray (n+1),#[]⟩)] _ _ (.lst (ho.append (.cons o2 .nil))) rfl (λp hp=>?_) (λb hb o e=>?_) ⟨rfl,rfl,rfl⟩ (.cons .none mI)
 ·simp only[ao]at hp;subst hp;refine hg.trans ?_;simp
 ·exact(hs.2 b (λe=>hb (by simp[e]))).trans e
theorem oB.chr{i:Int}(h0:0<=i)(h1:i<=1114111):oB c σ (.int i) (λv=>aF (.builtin "chr") [v]) (.str [i.toNat]):=by intro E fr xs vs v s Q S k;refine S.of.elim λfz o=>?_;refine o.int_inv.elim λt e8=>?_;subst e8;exact chr_of_range h0 h1 (k _ _ ((S.pop.push λO=>.str [i.toNat] _).tok _))
theorem oB.ord{x:Nat}:oB c σ (.str [x]) (λv=>aF (.builtin "ord") [v]) (.int x):=by intro E fr xs vs v s Q S k;refine S.of.elim λfz o=>?_;refine o.str_inv.elim λt e8=>?_;subst e8;exact P.ord_of_char (k _ _ ((S.pop.push λO=>.int _ _).tok _))
theorem Meth.join{x:List Nat}:Meth c σ (.str x) "join" (.builtin "str.join"):=by intro E fr xs vs v s pl Q S k;refine S.of.elim λfz o=>?_;refine o.str_inv.elim λt e8=>?_;subst e8;exact GM.join (k s S)
theorem mL.signs{fz:Cells}{l:List Nat}:∀{vs:List Value},mL fz (l.map λk=>.str [k]) vs->StrsAre vs (l.map λk=>(⟨#[k]⟩:Str)):=by
 induction l with
 |nil=>intro vs h;cases h;exact .nil
 |cons k l ih=>
  intro vs h;cases h with
  |cons a b=>exact a.str_inv.elim λt e=>e▸.cons _ _ (ih b)
theorem R8(l:List Nat):((l.map λk=>(⟨#[k]⟩:Str)).map (λO=>O.length)).sum=l.length:=by
 induction l with
 |nil=>rfl
 |cons k l ih=>exact(congrArg (λx=>1+x) ih).trans (fc ..)
theorem Op.join{lo as}{a:aA}{l:List Nat}{Q:AV->Sg->Prop}(hm:.lst a (l.map λk=>.str [k])∈as)(hz:l.length<=1000000)(q:Q (.str l) ⟨lo,as⟩):Op c E ⟨lo,as⟩ [.str [],.ref a] (λus=>aF (.builtin "str.join") us) Q:=by
 intro fr ys vs us s S hl;obtain⟨v1,v2⟩:=qn hl;obtain⟨g₁,m,fz,cl,hg,F,K,gt,mI,nd,nw,xp,back⟩:=S.at (Rep.refl (ax fr hm));have o1:=mI.hd;replace mI:=mI.tl;have o2:=mI.hd;replace mI:=mI.tl;refine o1.str_inv.elim λt e8=>?_;subst e8;obtain rfl:=o2.mV;obtain⟨ws,n,ho⟩:=K;have e:Txt.join (⟨#[]⟩:Str) (l.map λk=>(⟨#[k]⟩:Str))=⟨l.toArray⟩:=by unfold Txt.join;rw[StrLaws.glued_eq_join];exact join_ones l
 refine W.of (join_list (x:=⟨#[]⟩) (ys:=l.map λk=>(⟨#[k]⟩:Str)) ⟨_,gt _ (.head _),rfl,_,rfl⟩ ho.signs ?_ λt' k'=>?_)
 ·rw[R8,ah];show l.length+l.length*0<=_;exact o16 hz
 ·rw[e];exact⟨.str l,⟨lo,as⟩,(S.hand λfz o=>by replace o:=o.tl;replace o:=o.tl;exact .cons (.str l t') o).tok k',q⟩
end
section
variable {c:Cx}{σ:Sg}{d:Nat}{E:Ex}
theorem Arr.on{as as'' fr:List mH}{x:mH}(h:Arr as as''):∃r,(x::(as++fr)).Perm ((x::(as''++fr))++r):=by refine h.perm.elim λr p=>?_;refine⟨r,?_⟩;have:=(p.append_right fr).cons x;rw[aj]at this;refine this.trans ?_;rw[fR,aj];exact(bX.append_left _ bw).cons x
theorem Sat.arr{P:aM}{fz o:Cells}{as as'' fr:List mH}{x:mH}(h:Arr as as'')(S:Sat P fz (x::(as++fr)) o):∃o',o.Perm o'/\Sat P fz (x::(as''++fr)) o':=by refine(h.on (x:=x) (fr:=fr)).elim λr p=>?_;refine(S.perm p).elim λo' w9=>w9.elim λp' S'=>?_;exact⟨o',p',S'.sub⟩
theorem n5.arr{as'' fr xs vs}{x:mZ}{e:Value}{s:ai}(h:n5 c (σ.on fr) xs vs x e s)(A:Arr σ.as as''):n5 c (Sg.on ⟨σ.lo,as''⟩ fr) xs vs x e s:=by
 refine cps λV V'=>?_;obtain⟨g₁,a,dd,m,own,fz,g,hg,e1,F,lo,⟨B,h1,h2,h3⟩,u,nd,hp,sat,o,sm⟩:=h;refine V' ?_;refine(Sat.arr A sat).elim λo' w9=>w9.elim λp S'=>?_;have fq:∀q∈o'++fz,q∈own++fz:=λq hq=>by
  refine(aH.mp hq).elim (λh=>?_) λh=>?_
  ·exact ax _ (p.symm.subset h)
  ·exact aS _ h
 exact⟨g₁,a,dd,m,o',fz,g,hg,e1,F,lo,⟨B,h1,λq hq=>h2 q (fq q hq),h3⟩,u,(((p.append_right fz).map (λO=>O.1)).nodup_iff).mp nd,λq hq=>hp q (fq q hq),S',o,sm⟩
theorem Made.arr{as'' fr xs vs}{x:mZ}{e:Value}{s:ai}(h:Made c (σ.on fr) xs vs x e s)(A:Arr σ.as as''):Made c (Sg.on ⟨σ.lo,as''⟩ fr) xs vs x e s:=by
 refine cps λV V'=>?_;obtain⟨g₁,a,dd,m,own,fz,oe,t,hg,e1,I,h1,h2,h3,h4,h5,h6,h7⟩:=h;refine(Sat.arr A I.sat).elim λo' w9=>w9.elim λp S'=>?_;refine V' ?_;have fq:∀q∈o'++fz,q∈own++fz:=λq hq=>by
  refine(aH.mp hq).elim (λh=>?_) λh=>?_
  ·exact ax _ (p.symm.subset h)
  ·exact aS _ h
 exact⟨g₁,a,dd,m,o',fz,oe,t,hg,e1,⟨I.F,I.lo,λq hq=>I.N q (fq q hq),(((p.append_right fz).map (λO=>O.1)).nodup_iff).mp I.nd,S',I.st,I.same⟩,h1,h2,h3,λq hq=>h4 q (fq q hq),h5,h6,h7⟩
inductive Eu{α:Type}(Q:α->Sg->Prop)(x:α)(σ:Sg):Prop
 |mk (as'') (A:Arr σ.as as'') (q:Q x ⟨σ.lo,as''⟩)
theorem Exits.drop{XX:mZ->Sg->Prop}(ex:Exits c E XX):Exits c E (Eu XX) where
 own:=ex.own
 uR:=λx σ fr xs vs e s ⟨as'',A,hX⟩ h=>ex.uR x ⟨σ.lo,as''⟩ fr xs vs e s hX (h.arr A)
 made:=λx σ fr xs vs e s ⟨as'',A,hX⟩ h=>ex.made x ⟨σ.lo,as''⟩ fr xs vs e s hX (h.arr A)
theorem WE.forget{t:fH Value}{Q:AV->Sg->Prop}(h:WE c E σ t (Eu Q)):WE c E σ t Q:=by intro fr xs vs s S;refine(h.go fr xs vs s S).mono ?_ λO O e=>e;rintro v s' ⟨x,mF,S',as'',A,q⟩;exact⟨x,⟨mF.lo,as''⟩,St.arr S' A,q⟩
theorem WS.forget{t:fH gd}{lo:List (Option AV)}{as as'':List mH}{Q:Out->Sg->Prop}(A:Arr as as'')(h:WS c E ⟨lo,as''⟩ t Q):WS c E ⟨lo,as⟩ t Q:=by intro fr xs vs s S;exact h.go fr xs vs s (St.arr S A)
theorem JP(k a b:Nat)(hb:b<2^k):(a*2^k)&&& b=0:=by
 apply Nat.eq_of_testBit_eq;intro i;rw[Nat.testBit_and,Nat.zero_testBit];by_cases h:i<k
 ·have:(a*2^k).testBit i=false:=by rw[Nat.mul_comm,Nat.testBit_two_pow_mul,decide_eq_false (ja.mpr h),iZ]
  rw[this];rfl
 ·have:b.testBit i=false:=Nat.testBit_lt_two_pow (bW hb (cZ (by decide) (o20 h)));rw[this,ez]
theorem yi(k:Nat)(p x:Int)(hp:0<=p)(hx:0<=x)(zq:x<2^k):aB.bitOr (p*2^k) x=p*2^k+x:=by
 obtain⟨a,rfl⟩:∃a:Nat,p=a:=⟨p.toNat,BL hp⟩;obtain⟨b,rfl⟩:∃b:Nat,x=b:=⟨x.toNat,BL hx⟩;rw[bitOr_and,(by rfl:((a:Int)*2^k)=((a*2^k:Nat):Int))];have:aB.bitAnd ((a*2^k:Nat):Int) (b:Int)=(((a*2^k)&&& b:Nat):Int):=by unfold aB.bitAnd;simp only[bM,decide_true,bg]
 rw[this,JP k a b (by exact_mod_cast zq)]
 rfl
end
section
variable {c:Cx}{σ:Sg}{d:Nat}{E:Ex}
noncomputable abbrev nP(a b st:Int):Obj->Prop:=λo=>∃t u v,o=⟨.type "range",none,.fields #[.int a t,.int b u,.int st v],#[]⟩
noncomputable abbrev nQ(x left st:Int):Obj->Prop:=λo=>o=⟨.type "range_iterator",none,.fields #[f5 x,f5 left,f5 st],#[]⟩
theorem Op.uw{lo as}{n:Int}{Q:AV->Sg->Prop}(q:∀r,Q (.ref r) ⟨lo,.is r (nP 0 n 1)::as⟩):Op c E ⟨lo,as⟩ [.int n] (λus=>aF (.type "range") us) Q:=by intro fr xs vs us s S hl;obtain⟨u⟩:=q8 hl;obtain⟨fz,o⟩:=S.of;refine o.int_inv.elim λt e8=>?_;subst e8;refine W.of (call_range_1 ⟨.ref s.heap.objs.size,_,?_,q _⟩);exact S.pop.alloc (o:={cls:=.type "range",data:=.fields #[.int 0 s.toks,.int n t,.int 1 (s.toks+1)]}) (tk:=s.toks+1+1) rfl λfz o=>⟨.is ⟨_,_,_,rfl⟩,.cons (.ref _) o⟩
theorem Op.Uq{lo as}{a b:Int}{Q:AV->Sg->Prop}(q:∀r,Q (.ref r) ⟨lo,.is r (nP a b 1)::as⟩):Op c E ⟨lo,as⟩ [.int a,.int b] (λus=>aF (.type "range") us) Q:=by intro fr xs vs us s S hl;obtain⟨u1,u2⟩:=qn hl;obtain⟨fz,o2,o1⟩:=S.two;obtain⟨t,rfl⟩:=o1.int_inv;obtain⟨u,rfl⟩:=o2.int_inv;refine W.of (call_range_2 ⟨.ref s.heap.objs.size,_,?_,q _⟩);exact S.pop.pop.alloc (o:={cls:=.type "range",data:=.fields #[.int a t,.int b u,.int 1 s.toks]}) (tk:=s.toks+1) rfl λfz o=>⟨.is ⟨_,_,_,rfl⟩,.cons (.ref _) o⟩
theorem oE.range{lo as}{r:aA}{a b st:Int}(hm:.is r (nP a b st)∈as)(hs:aB.Range.small a b st=true):∀{P:AV->Sg->Prop},(∀it,P (.ref it) ⟨lo,.is it (nQ a (aB.Range.rangeSize a b st) st)::as⟩)->oE c ⟨lo,as⟩ (.ref r) P:=by intro P hP;intro E fr xs vs v s Q S k;refine cps λV V'=>?_;refine S.of.elim λfz o=>?_;obtain rfl:=o.mV;obtain⟨g₁,m,fz,cl,hg,F,K,gt,mI,nd,nw,_,back⟩:=S.at (Rep.refl (ax fr hm));obtain⟨ob,hp⟩:=K;obtain⟨t,u,v,rfl⟩:=hp;refine V' ?_;refine wpAny_pyIter_range (gt _ (.head _)) hs (k (.ref s.heap.objs.size) ⟨lo,.is s.heap.objs.size (nQ a (aB.Range.rangeSize a b st) st)::as⟩ _ _ (hP _) ?_);exact S.alloc (o:={cls:=.type "range_iterator",data:=.fields #[f5 a,f5 (aB.Range.rangeSize a b st),f5 st]}) (tk:=s.toks) rfl λfz o=>⟨.is rfl,.cons (.ref _) o⟩
theorem Iter.range{lo as as'}{it:aA}{x left st:Int}(ok:Ok c d)(R:Rep (.is it (nQ x left st)) (.is it (nQ (x+st) (left-1) st)) as as')(hl:0<left):Iter c ⟨lo,as⟩ (.ref it) (some (.int x)) ⟨lo,as'⟩:=by
 intro E fr xs vs v s Q S k;refine S.of.elim λfz o=>?_;obtain rfl:=o.mV;obtain⟨g₁,m,fz,cl,hg,F,K,gt,mI,nd,nw,_,back⟩:=S.at (R.on fr);obtain⟨ob,hp⟩:=K;cases hp;refine wpAny_pyNext_range_item (gt _ (.head _)) hl λh' hit hs=>k _ _ ?_;refine back _ [(it,_)] _ _ (.is rfl) rfl (λp hp=>?_) (λq hq o e=>?_) ⟨rfl,rfl,rfl⟩ (.cons (.int _ _) mI)
 ·simp only[ao]at hp;subst hp;exact hit
 ·exact(hs.2 q (λe=>hq (by simp[e]))).trans e
theorem Iter.sL{lo as as'}{it:aA}{x left st:Int}(ok:Ok c d)(R:nt (.is it (nQ x left st)) as as')(hl:left<=0):Iter c ⟨lo,as⟩ (.ref it) none ⟨lo,as'⟩:=by intro E fr xs vs v s Q S k;refine cps λV V'=>?_;obtain⟨fz,o⟩:=S.of;obtain rfl:=o.mV;obtain⟨cl,fz,K,gt,back⟩:=S.forget (R.on fr);obtain⟨ob,hp⟩:=K;refine V' ?_;cases hp;refine wpAny_pyNext_range_end (qh ok) (gt _ (.head _)) hl λh' he=>k _ (back _ (λq hq o e=>?_) ⟨rfl,rfl,rfl⟩);exact he q o (λe=>hq (by simp[e])) e
theorem small_one{a b:Int}(ha: -1000000000000<=a)(ha':a<=1000000000000)(hb: -1000000000000<=b)(sx:b<=1000000000000):aB.Range.small a b 1=true:=by have f:∀{z:Int},-2000000000000<=z->z<=2000000000000->aB.Range.rangeFitsLong z=true:=λh h'=>aV.mpr ⟨decide_eq_true (d8 (by decide) h),decide_eq_true (ei h' (by decide))⟩;refine aV.mpr ⟨aV.mpr ⟨aV.mpr ⟨aV.mpr ⟨f (EW ha) (EX ha'),f (EW hb) (EX sx)⟩,by rfl⟩,((my a b)▸(aq (a<b)).elim (λh=>(if_pos h).symm▸f (x42 h) (x43 ha sx)) λh=>(if_neg h).symm▸rfl)⟩,d9.mpr (.inr (f (z:=b+0) ?_ ?_))⟩;exact(dc b).symm▸EW hb;exact(dc b).symm▸EX sx
end
section
variable {c:Cx}{σ:Sg}{d:Nat}{E:Ex}
theorem Pairs.any{p p':Program}{w w':cL}{es:List DictEntry}{kvs:List (Int×Value)}(h:Pairs (cf p w) es kvs):Pairs (cf p' w') es kvs:=by
 induction h with
 |nil=>exact .nil
 |cons a b _ ih=>exact .cons a b ih
theorem Qw{p p':Program}{w w':cL}{o:Obj}{kvs:List (Int×Value)}(h:o.IsDictOf (cf p w) kvs):o.IsDictOf (cf p' w') kvs:=by refine h.elim λes w9=>w9.elim λep w9=>w9.elim λa w9=>w9.elim λb w9=>w9.elim λk w9=>w9.elim λq n=>?_;exact⟨es,ep,a,b,λe he=>k e he,Pairs.any q,n⟩
noncomputable def qv(f:List (Int×AV))(i:Int)(v:AV):List (Int×AV):=if f.any (λkv=>kv.1=i)then f.map (λkv=>if kv.1=i then(kv.1,v)else kv)else f++[(i,v)]
theorem nS.any{fz:Cells}{i:Int}{f kvs}(h:nS fz f kvs):kvs.any (λkv=>kv.1=i)=f.any (λkv=>kv.1=i):=h.rec (motive:=λf kvs _=>kvs.any (λkv=>kv.1=i)=f.any (λkv=>kv.1=i)) rfl λ_ _ ih=>congrArg (or _) ih
theorem nS.map{fz:Cells}{i:Int}{v:AV}{u:Value}(o:Of fz v u){f kvs}(h:nS fz f kvs):nS fz (f.map λkv=>if kv.1=i then(kv.1,v)else kv) (kvs.map λkv=>if kv.1=i then(kv.1,u)else kv):=
 h.rec (motive:=λf kvs _=>nS fz (f.map λkv=>if kv.1=i then(kv.1,v)else kv) (kvs.map λkv=>if kv.1=i then(kv.1,u)else kv)) .nil λ{j} _ _ _ _ a _ ih=>by
  rw[bE,bE];by_cases h:j=i
  ·rw[if_pos h,if_pos h];exact .cons o ih
  ·rw[if_neg h,if_neg h];exact .cons a ih
theorem nS.app{fz:Cells}{i:Int}{v:AV}{u:Value}(o:Of fz v u){f kvs}(h:nS fz f kvs):nS fz (f++[(i,v)]) (kvs++[(i,u)]):=
 h.rec (motive:=λf kvs _=>nS fz (f++[(i,v)]) (kvs++[(i,u)])) (.cons o .nil) λa _ ih=>.cons a ih
theorem nS.put{fz:Cells}{i:Int}{v:AV}{u:Value}{f kvs}(o:Of fz v u)(h:nS fz f kvs):nS fz (qv f i v) (stored kvs i u):=by
 unfold qv stored;rw[h.any];split
 ·exact h.map o
 ·exact h.app o
theorem nS.len{fz:Cells}:∀{f kvs},nS fz f kvs->kvs.length=f.length
 |_,_,.nil=>rfl
 |_,_,.cons _ b=>by simp[b.len]
theorem St.Ur{E:Value->ai->Prop}{lo as as' xs vs}{s:ai}{a:aA}{f:List (Int×AV)}{i:Int}{av:AV}{u1 u2 v:Value}{Q:Unit->ai->Prop}(S:St c ⟨lo,as⟩ (.int i::.ref a::av::xs) (u2::u1::v::vs) s)
  (R:Rep (.mO a f) (.mO a (qv f i av)) as as')(hz:f.length<=900000)(k:∀s',St c ⟨lo,as'⟩ xs vs s'->Q () s'):aJ c.M c.A (lG u1 u2 v) Q E s:=by
 obtain⟨g₁,m,fz,cl,hg,F,K,gt,mI,nd,nw,_,back⟩:=S.at R;have o1:=mI.hd;replace mI:=mI.tl;have o2:=mI.hd;replace mI:=mI.tl;have o3:=mI.hd;replace mI:=mI.tl;refine o1.int_inv.elim λt e8=>?_;subst e8;obtain rfl:=o2.mV;obtain⟨kvs,ob,hi,hd,o_⟩:=K;refine wpAny_setItem_pairs (knd:=cf PW c.w) (k:=i) (kvs:=kvs) (by simp[cf,hV]) (bb.dictOf_iff.mpr ⟨ob,gt _ (.head _),hd _ _⟩) (λh' hm hs=>k _ ?_) (by rw[hi.len,cz];exact xn hz);refine(bb.dictOf_iff.mp hm).elim λo' w9=>w9.elim λuT rM=>?_;refine back _ [(a,o')] _ _ (.mO (hi.put o3) (λp w=>Qw rM) o_) rfl (λp hp=>?_) (λq hq o e=>?_) ⟨rfl,rfl,rfl⟩ mI
 ·simp only[ao]at hp;subst hp;exact uT
 ·exact(hs.2 q (λe=>hq (by simp[e]))).trans e
end
section
variable {c:Cx}{σ:Sg}{d:Nat}{E:Ex}{i:mR}{ε:Env}
inductive acs(c:Cx)(E:Ex)(o ie:cI)(rest:List Stmt)(Q:Out->Sg->Prop)(av:AV)(mF:Sg):Prop
 |mk (a f k as') (ho:Ev c mF o (.ref a)) (hi:Ev c mF ie (.int k)) (R:Rep (.mO a f) (.mO a (qv f k av)) mF.as as') (hz:f.length<=900000) (w:WS c E ⟨mF.lo,as'⟩ (aO rest c.env) Q)
theorem WS.sI{o ie e:cI}{p p':iA}{rest:List Stmt}{Q:Out->Sg->Prop}(he:c.env=ε)
  (h:WE c E σ (aT e c.env) (acs c E o ie rest Q))
  (hs:autoParam (cn e (some (.Subscript o ie p')) p.line ε=pure false) aR):WS c E σ (aO (.Assign [.Subscript o ie p'] e p::rest) c.env) Q:=by
 refine .cons ?_
 intro fr xs vs s S
 with_reducible refine W.Il (h.run S ?_) (by rw[he];exact hs)
 rintro av mF v s' ⟨a,f,k,as',ho,hi,R,hz,w⟩ S'
 with_reducible refine ho.go _ _ _ _ _ _ S' λu s2 S2=>hi.go _ _ _ _ _ _ S2 λu2 s3 S3=>?_
 exact W.of (S3.Ur (R.on fr) hz λs4 S4=>⟨.next,⟨mF.lo,as'⟩,⟨rfl,S4⟩,w⟩)
end
section
variable {c:Cx}{σ:Sg}{d:Nat}{E:Ex}
theorem Ev.neg{i:Int}{k:Nat}{pos pos':iA}:Ev c σ (.UnaryOp .USub (.Constant (.int i) k pos) pos') (.int (-i)):=by intro E fr xs vs s Q S q;refine W.of (UnaryOp_ (lq (neg_int (q _ _ ((S.push λfz=>.int _ _).tok _)))))
theorem WE.AW{pos:iA}{Q:AV->Sg->Prop}(ok:Ok c d)(q:∀a,Q (.ref a) ⟨σ.lo,.mO a []::σ.as⟩):WE c E σ (aT (.Dict [] [] pos) c.env) Q:=by
 intro fr xs vs s S;have o_:(s.heap.objs.size==eA)=false:=by refine S.elim λg₁ w9=>w9.elim λhg w9=>w9.elim λm w9=>w9.elim λown w9=>w9.elim λfz I=>?_;exact I.F.notModules (modules_low (ok.on hg).nl)
 refine W.of (wpAny_Dict_empty ⟨.ref s.heap.objs.size,_,?_,q _⟩);exact S.alloc (o:={cls:=.type "dict",data:=.dict #[]}) (tk:=s.toks) rfl λfz o=>⟨.mO .nil (λp w=>by
  refine(bb.dictOf_iff.mp (bb.DictOf.new (knd:=cf p w) s.heap)).elim λo w9=>w9.elim λho hd=>?_;rw[bb.get?_push_size _ rfl]at ho
  exact(aE.inj ho)▸hd) o_,.cons (.ref _) o⟩
noncomputable def pR(f:List (Int×AV))(i:Int):Option AV:=(f.find? λkv=>kv.1=i).map (λO=>O.2)
theorem nS.find{fz:Cells}{i:Int}{z:AV}{f kvs}(h:nS fz f kvs):pR f i=some z->∃v,valueAt kvs i=some v/\Of fz z v:=by
 induction h with
 |nil=>exactλh=>nomatch h
 | @cons j _ _ _ _ a b ih=>
  intro h;unfold pR valueAt at *;rw[List.find?_cons]at h ⊢;by_cases e:j=i
  ·simp only[e,decide_true]at h ⊢;cases h;exact⟨_,rfl,a⟩
  ·simp only[e,decide_false]at h ⊢;exact ih h
theorem pv.mO{a:aA}{f:List (Int×AV)}{i:Int}{z:AV}(hm:.mO a f∈σ.as)(hf:pR f i=some z):pv c σ (.ref a) (.int i) z:=by
 intro E fr xs vs vx vi s Q S k;obtain⟨fz,o1,o2⟩:=S.two;obtain rfl:=o1.mV;obtain⟨t,rfl⟩:=o2.int_inv;refine cps λV V'=>?_;obtain⟨g₁,m,fz,cl,hg,F,K,gt,mI,nd,nw,xp,back⟩:=S.at (Rep.refl (ax fr hm));obtain⟨kvs,ob,hi,hd,o_⟩:=K;refine(hi.find hf).elim λv w9=>w9.elim λhv ov=>?_;refine V' ?_;have D:s.heap.DictOf (cf PW c.w) a kvs:=bb.dictOf_iff.mpr ⟨ob,gt _ (.head _),hd _ _⟩;have q1:=mI.hd;replace mI:=mI.tl;have q2:=mI.hd;replace mI:=mI.tl;exact⟨"dict",_,lF.lookup,D.typeIs,lQ (knd:=cf PW c.w) (k:=i) (by simp[cf,hV]) D.mapOf hv (k _ _
  (back _ _ _ _ (.mO hi hd o_) rfl gt (λO O O q=>q) ⟨rfl,rfl,rfl⟩ (.cons ov mI)))⟩
theorem oB.Bw{a:aA}{f:List (Int×AV)}(hm:.mO a f∈σ.as)(hz:f.length<=16000000):oB c σ (.ref a) (λv=>aF (.builtin "len") [v]) (.int f.length):=by intro E fr xs vs v s Q S k;refine S.of.elim λfz o=>?_;obtain rfl:=o.mV;obtain⟨g₁,m,fz,cl,hg,F,K,gt,mI,nd,nw,xp,back⟩:=S.at (Rep.refl (ax fr hm));obtain⟨kvs,ob,hi,hd,o_⟩:=K;have D:s.heap.DictOf (cf PW c.w) a kvs:=bb.dictOf_iff.mpr ⟨ob,gt _ (.head _),hd _ _⟩;refine call_len_dict (knd:=cf PW c.w) o_ D (by rw[hi.len];exact EY hz) (k _ _ ?_);rw[hi.len];exact(S.pop.push λO=>.int _ _).tok _
end
section
variable {c:Cx}{σ:Sg}{d:Nat}{E:Ex}{i:mR}{ε:Env}
theorem Ev.gi{x:Str}{pos:iA}{k:Int}(ok:Ok c d)(he:c.env=ε)(e:∀P,∃t,cN (KK P) az x=some (some (.int k t)))(hx:autoParam (ε.kindOf x=some .globalImplicit) aR)
  (hd:autoParam ((x==("__debug__":Str))=false) aK):Ev c σ (.Name x pos) (.int k):=(e c.w.params).elim λt h=>.gli ok he h hx hd
inductive acu(c:Cx)(E:Ex)(o:cI)(x:Str)(rest:List Stmt)(Q:Out->Sg->Prop)(av:AV)(mF:Sg):Prop
 |mk (a C f f' as') (ho:Ev c mF o (.ref a)) (R:Rep (.ins a C f) (.ins a C f') mF.as as') (P:p9 f x av f') (hC:Sets C) (hf:∀P,cg (KK P) (.ref C) x=some none) (hz:f.length<=900) (w:WS c E ⟨mF.lo,as'⟩ (aO rest c.env) Q)
theorem WS.sW{o e:cI}{x:Str}{p p':iA}{rest:List Stmt}{Q:Out->Sg->Prop}(ok:Ok c d)(he:c.env=ε)
  (h:WE c E σ (aT e c.env) (acu c E o x rest Q))
  (hs:autoParam (cn e (some (.Attribute o x p')) p.line ε=pure false) aR):WS c E σ (aO (.Assign [.Attribute o x p'] e p::rest) c.env) Q:=
 .M_ ok (h.mono λav mF k9=>by obtain⟨a,C,f,f',as',h1,h2,h3,h4,h5,h6,h7⟩:=k9;exact⟨a,C,f,f',as',h1,h2,h3,h4,h5 _,h6,h7⟩) (hs)
theorem Arr.n8{x:mH}:∀{l:List mH},Arr (x::l) l
 |[]=>.nil
 |_::_=>.pick (.tail .head) Arr.n8
theorem Arr.skip{x:mH}{l l':List mH}(h:Arr l l'):Arr (x::l) l':=by
 induction h with
 |refl=>exact .n8
 |nil=>exact .nil
 |pick d _ ih=>exact .pick (.tail d) ih
theorem QX{f:List (Int×AV)}{i:Int}{v:AV}(h:∀p∈f,p.1<i):pR (f++[(i,v)]) i=some v:=by
 unfold pR;have:f.find? (λkv=>kv.1=i)=none:=by rw[List.find?_eq_none];intro p hp;have:=h p hp;simp;exact o21 this
 rw[List.find?_append,this];simp
end
section
variable {c:Cx}{σ:Sg}{d:Nat}{E:Ex}{i:mR}{ε:Env}{ns:List Str}
theorem WS.seq{st:Stmt}(P:Sg->Prop)(h:WS c E σ (aO [st] c.env) λo mF=>o=.next/\P mF)(k:∀mF,P mF->WS c E mF (aO rest c.env) Q):WS c E σ (aO (st::rest) c.env) Q:=by
 intro fr xs vs s S Γ p hi n;have:=h.go fr xs vs s S Γ p hi n;rw[execs_cons,fH.wp_bind']at this ⊢;refine fH.wp_mono c.M Γ _ (λf p' s' q=>?_) (λO O O q=>q) p s this;have key:∀f:gd,rD c fr xs vs (λo mF=>o=.next/\P mF) f s'->fH.wp c.M Γ (match f with|.next=>aO rest c.env|f=>pure f) (λf O s'=>rD c fr xs vs Q f s') (λe O s'=>E.go fr xs vs e s') p' s':=by rintro f ⟨o,mF,hf,rfl,hP⟩;obtain⟨rfl,S'⟩:=hf;exact(k mF hP).go fr xs vs s' S' Γ p' hi n
 refine key f ?_;cases f with
 |next=>rw[execs_nil]at q;exact q
 |_=>exact q
noncomputable abbrev Cx.mk'(c:Cx)(e:Value):Cx:={c with A₀:={c.A₀ with handled:=some e},nd:=false}
theorem St.mk'{xs vs s}(S:St c σ xs vs s):St (c.mk' e) σ xs vs s:=
 by obtain⟨g,hg,m,own,fz,I⟩:=S;exact⟨g,hg,m,own,fz,I.F,I.lo,I.N,I.nd,I.sat,I.st,I.same⟩
theorem St.s8{xs vs s}(S:St (c.mk' e) σ xs vs s):St c σ xs vs s:=
 by obtain⟨g,hg,m,own,fz,I⟩:=S;exact⟨g,hg,m,own,fz,I.F,I.lo,I.N,I.nd,I.sat,I.st,I.same⟩
theorem Ev.E8(ok:Ok c d)(J:Nm c ns)(h:At ns σ.lo x (some av)):Ev (c.mk' e) σ (.Name x pos) av:=by rw[<-J.eq]at h;intro E fr xs vs s Q S k;refine cps λV V'=>?_;refine S.elim λg₁ w9=>w9.elim λhg w9=>w9.elim λm w9=>w9.elim λown w9=>w9.elim λfz I=>?_;refine V' ?_;refine(I.lo x av h).elim λv w9=>w9.elim λhv ho=>?_;refine(ok.loc J.cm x h.mem).elim λhl hd=>?_;have F:s.heap.Ns c.L m:=I.F.ns;rw[<-ok.lc J.cm]at F;have S':St (c.mk' e) (σ.on fr) (av::xs) (v::vs) s:=⟨g₁,hg,m,own,fz,I.F,I.lo,I.N,I.nd,I.sat,.cons ho I.st,I.same⟩;with_reducible exact W.of (jC (gL ok.kd hl F hv (k v s S')) hd)
theorem WS.sAM(ok:Ok c d)(he:c.env=ε)(h:Ev (c.mk' ev) σ e av)(ho:Ev (c.mk' ev) σ o (.ref a))(R:Rep (.ins a C f) (.ins a C f') σ.as as')(P:p9 f x av f')(hC:Sets C)
  (hf:∀P,cg (KK P) (.ref C) x=some none)(w:WS (c.mk' ev) E ⟨σ.lo,as'⟩ (aO rest c.env) Q)(hz:f.length<=900:=by simp)(hs:autoParam (cn e (some (.Attribute o x p')) p.line ε=pure false) aR):WS (c.mk' ev) E σ (aO (.Assign [.Attribute o x p'] e p::rest) c.env) Q:=by
 refine .cons ?_
 intro fr xs vs s S
 with_reducible refine W.CH (h.go _ fr xs vs s _ S λv s' S'=>ho.go _ _ _ _ _ _ S' λu s2 S2=>?_) (by rw[he];exact hs)
 exact W.of (St.setattr (c:=c) (A:=(c.mk' ev).A) ok S2.s8 (R.on fr) P hC (hf _) hz λs3 S3=>⟨.next,⟨σ.lo,as'⟩,⟨rfl,S3.mk'⟩,w⟩)
theorem St.glob{E:Value->ai->Prop}{xs vs s}{Q:Value->ai->Prop}(ok:Ok c d)(S:St c σ xs vs s)(e:cN (KK c.w.params) az x=some (some v))(hx:c.env.kindOf x=some .globalImplicit)(hd:(x==("__debug__":Str))=false)(k:Q v s):aJ c.M A (aT (.Name x pos) c.env) Q E s:=by refine cps λV V'=>?_;refine S.elim λg₁ w9=>w9.elim λhg w9=>w9.elim λm w9=>w9.elim λown w9=>w9.elim λfz I=>?_;refine V' ?_;have ok:=ok.on hg;refine cps λV V'=>?_;refine ok.G.elim λmg w9=>w9.elim λmb w9=>w9.elim λg w9=>w9.elim λb O=>?_;refine V' ?_;have g':=g.keeps I.F.keep;rw[<-ok.gl]at g';exact gU ok.kd hx (lJ g' (mg_of ok.X g e) k) hd
noncomputable abbrev yJ(C dd:aA):Obj->Prop:=λo=>o.cls=.ref C/\o.dict=some dd/\∃vs,o.data=.fields vs
theorem n5.land{xs vs}{x:mZ}{e:Value}{s:ai}(ok:Ok c d)(h:n5 c σ xs vs x e s):∃a dd,e=.ref a/\St c ⟨σ.lo,.is a (yJ x.C dd)::.xd dd x.f::σ.as⟩ xs vs s:=by
 refine cps λV V'=>?_;obtain⟨g₁,a,dd,m,own,fz,g,hg,rfl,F,lo,⟨B,hB,J,k1,k2,k3,oe,ws,T,oT,ts,he,hc,rK,hd,h1,za,zb,hT,t8,h3⟩,u,nd,hp,st,o,sm⟩:=h;refine V' ?_;have wV:=ok.on hg;obtain⟨oX,e1,e2,e3⟩:=Kp (c.outer.filterMap (λO=>O.frame)) (g₁:=g₁) (g':=s.heap) λb hb=>by obtain⟨o,ho,oQ⟩:=(wV.B.frames.mem hb).2;exact⟨o,ho,u b o (F.keep b o ho) oQ⟩
 have fq:∀b,b∈c.outer.filterMap (λO=>O.frame)->b∈(c.fe::c.outer).filterMap (λO=>O.frame):=λb hb=>by refine(bH.mp hb).elim λenv w9=>w9.elim λhe hf=>?_;exact bH.mpr ⟨env,.tail _ he,hf⟩
 have low:∀b o,g₁.get? b=some o->b≠c.L:=λb o e q=>by subst q;exact cb _ (bW (a_ e) F.above)
 have rest:∀b o,g₁.get? b=some o->b∉c.outer.filterMap (λO=>O.frame)->B.get? b=some o:=λb o q hb=>by
  refine hB b o q λhm=>?_;obtain⟨env,he,hf⟩:=bH.mp hm;rcases aL.mp he with rfl|he
  ·rw[ok.fr]at hf;exact low b o q (aE.inj hf).symm
  ·exact hb (bH.mpr ⟨env,he,hf⟩)
 have keep:∀b o,oX.get? b=some o->s.heap.get? b=some o:=λb o q=>by
  by_cases hb:b∈c.outer.filterMap (λO=>O.frame)
  ·rw[<-e3 b hb];exact q
  ·exact k1 b o (rest b o ((e2 b hb).symm.trans q) hb)
 have un:∀b,g₁.get? b=none->oX.get? b=none:=λb q=>by
  by_cases hb:b∈c.outer.filterMap (λO=>O.frame)
  ·refine((wV.B.frames.mem hb).2).elim λo w9=>w9.elim λho O=>?_;have ho:g₁.get? b=some o:=ho;rw[q]at ho;cases ho
  ·exact(e2 b hb).trans q
 have Ll:∀b,b∈(c.fe::c.outer).filterMap (λO=>O.frame)->b≠a:=λb hb q=>by obtain⟨_,o,ho,oQ⟩:=k3.mem hb;rw[q,he]at ho;cases ho;exact oQ ws hd
 refine⟨a,dd,rfl,oX,⟨e1.trans hg.1,λb hb=>(e2 b hb).trans (hg.2.1 b hb),λb hb o ho=>?_⟩,m,(a,oe)::own,fz,⟨u.ns F.ns,keep,by rw[e1];exact F.above⟩,lo,?_,?_,.cons (.is ⟨hc,rK,ws,hd⟩) st,o,sm⟩
 ·refine(hg.2.2 b hb o ho).elim λsl h1=>?_;obtain⟨o',uT,oQ⟩:=(wV.B.frames.mem hb).2;rw[h1]at uT;cases uT;obtain⟨E6,h2⟩:=u b _ (F.keep _ _ h1) oQ;exact⟨E6,(e3 b hb).trans h2⟩
 ·intro p oo;rcases aL.mp oo with rfl|oo
  ·refine⟨he,λq=>Ll c.L (bH.mpr ⟨c.fe,.head _,ok.fr⟩) q.symm,?_⟩;cases q:oX.get? a with
   |none=>rfl
   |some ob=>
    exfalso
    by_cases hb:a∈c.outer.filterMap (λO=>O.frame)
    ·exact Ll a (fq a hb) rfl
    ·have:=rest a ob ((e2 a hb).symm.trans q) hb;rw[k2]at this;cases this
  ·exact⟨k1 _ _ (J p oo),(hp p oo).1,un _ (hp p oo).2⟩
 ·rw[fR,bE,bj];refine⟨λhm=>?_,nd⟩;refine(aG.mp hm).elim λp w9=>w9.elim λoo q=>?_;have:=J p oo;rw[q,k2]at this;cases this
theorem W.attempt{nd:Bool}{E:Value->ai->Prop}{m:fH α}{Q:Except Value α->ai->Prop}(h:W nd M A m (λa=>Q (.ok a)) (λe=>Q (.error e)) s):W nd M A m.attempt Q E s:=λΓ p i n=>by rw[fH.wp_attempt];exact h Γ p i n
theorem W.QY{nd:Bool}{M:Model}{E:Value->ai->Prop}{body orelse:fH gd}{h₀:et}{hs:List et}{Q:gd->ai->Prop}
  (h:W nd M A body (λf mN=>match f with|.next=>W nd M A orelse Q E mN|f=>Q f mN)
   (λe mN=>aJ M A (dg e env) (λO m8=>aJ M A (gY e none) (λO nK=>aJ M A (iL e env (h₀::hs)) Q E nK) E m8) E mN) s):W nd M A (tryStmt false body (h₀::hs) orelse [] env) Q E s:=by
 refine W.bind (W.attempt (h.mono (λf mN m4=>?_) λe mN m4=>?_))
 ·cases f<;>first|exact m4|exact W.pure m4
 ·exact W.of (ag (aY m4 (λO O w6=>ag w6) λO O x=>x))
noncomputable def Na(c:Cx)(hs:List et)(P:Out->Sg->Prop):Ex where
 go:=λfr xs vs e s=>aJ c.M c.A (dg e c.env) (λO s1=>aJ c.M c.A (gY e none) (λO s2=>aJ c.M c.A (iL e c.env hs) (rD c fr xs vs P) (λO O=>False) s2) (λO O=>False) s1) (λO O=>False) s
 hand:=λfr xs vs xs' vs' e s k h=>aY h (λO O h=>aY h (λO O h=>aY h (λf s' k9=>by obtain⟨o,mF,hf,q⟩:=k9;exact⟨o,mF,by
  cases o with
  |next=>exact⟨hf.1,hf.2.hand k⟩
  |brk=>exact⟨hf.1,hf.2.hand k⟩
  |cont=>exact⟨hf.1,hf.2.hand k⟩
  |ret x=>obtain⟨v,e,S⟩:=hf;exact⟨v,e,S.hand λfz o=>by have a:=o.hd;have b:=o.tl;exact .cons a (k fz b)⟩,q⟩) λO O q=>q) λO O q=>q) λO O q=>q
theorem WS.Ew{body rest:List Stmt}(P:Out->Sg->Prop)(hb:WS c (Na c (h₀::hs) P) σ (aO body c.env) P)(k:∀o mF,P o mF->rE c E rest Q o mF):WS c E σ (aO (.Try body (h₀::hs) [] [] pos::rest) c.env) Q:=by
 refine .cons ?_;intro fr xs vs s S;refine W.at_ (W.QY ((hb.go fr xs vs s S).mono ?_ ?_))
 ·rintro f s' ⟨o,mF,hf,q⟩;have:=k o mF q;cases o with
  |next=>obtain⟨rfl,S'⟩:=hf;exact W.of (fk ⟨.next,mF,⟨rfl,S'⟩,this⟩)
  |brk=>obtain⟨rfl,S'⟩:=hf;exact⟨.brk,mF,⟨rfl,S'⟩,this⟩
  |cont=>obtain⟨rfl,S'⟩:=hf;exact⟨.cont,mF,⟨rfl,S'⟩,this⟩
  |ret x=>obtain⟨v,rfl,S'⟩:=hf;exact⟨.ret x,mF,⟨v,rfl,S'⟩,this⟩
 ·intro e s' h;exact aY h (λO O h=>aY h (λO O h=>aY h (λf s' ⟨o,mF,hf,q⟩=>⟨o,mF,hf,k o mF q⟩) λO O q=>q.elim) λO O q=>q.elim) λO O q=>q.elim
theorem Exits.Ew(ok:Ok c d)(hc:c.cm=false)(H:∀x σ,X x σ->∀fr xs vs e s,n5 c (σ.on fr) xs vs x e s->aJ c.M c.A (iL e c.env hs) (rD c fr xs vs P) (λO O=>False) s):Exits c (Na c hs P) X where
 own:=λfr xs vs e s' h=>wpAny_look_again (SameStack.refl _) h
 uR:=λx σ fr xs vs e s hX h=>by have h':=I5 (A':=c.A) ok h;rw[<-ok.ee hc]at h';exact aY h' (λO O k=>aY k (λO s2 k=>H x σ hX fr xs vs e s2 k) λO O q=>q) λO O q=>q
 made:=λx σ fr xs vs e s hX h=>by have h':=Io (A':=c.A) ok h;rw[<-ok.ee hc]at h';exact aY h' (λO O k=>aY k (λO s2 k=>H x σ hX fr xs vs e s2 k) λO O q=>q) λO O q=>q
noncomputable def qp:Ex:=⟨λO O O O O=>False,λO O O O O O O O h=>h⟩
theorem n5.off{xs vs}{x:mZ}{e:Value}{s:ai}{Q:Unit->ai->Prop}{E:Value->ai->Prop}(h:n5 c σ xs vs x e s)(k:∀s',n5 c σ xs vs x e s'->Q () s'):aJ c.M A (gY e none) Q E s:=by obtain⟨g₁,a,dd,m,own,fz,g,hg,rfl,F,lo,⟨B,hB,J,fl⟩,u,nd,hp,st,o,sm⟩:=h;exact CI fl λh2 f2 u2=>k _ ⟨g₁,a,dd,m,own,fz,g,hg,rfl,F,lo,⟨B,hB,J,f2⟩,u.trans u2,nd,hp,st,o,sm⟩
theorem n5.cls{xs vs}{x:mZ}{e:Value}{s:ai}(h:n5 c σ xs vs x e s):∃a oe,e=.ref a/\s.heap.get? a=some oe/\oe.cls=.ref x.C:=by refine cps λV V'=>?_;obtain⟨g₁,a,dd,m,own,fz,g,hg,rfl,F,lo,⟨B,hB,J,k1,k2,k3,oe,ws,T,oT,ts,he,hc,_⟩,_⟩:=h;refine V' ?_;exact⟨a,oe,rfl,he,hc⟩
theorem Tz{fr xs vs e s}{n:Str}{np pos:iA}{vL:Stmt}{vt:List Stmt}{rest:List et}{P:Out->Sg->Prop}(ok:Ok c d)(h:n5 c (σ.on fr) xs vs x e s)(hC:qK x.C)(hg:∀P,cN (KK P) az n=some (some (.ref x.C)))(hx:c.env.kindOf n=some .globalImplicit)
  (body:∀a dd,WS (c.mk' (.ref a)) qp ⟨σ.lo,.is a (yJ x.C dd)::.xd dd x.f::σ.as⟩ (aO (vL::vt) c.env) P)(hd:autoParam ((n==("__debug__":Str))=false) aK):
  aJ c.M c.A (iL e c.env (.ExceptHandler (some (.Name n np)) none (vL::vt) pos::rest)) (rD c fr xs vs P) (λO O=>False) s:=by
 obtain⟨a,oe,rfl,he,vK⟩:=h.cls;refine kU (kr ?_) (by intro q;cases q);refine(h.land ok).elim λa1 w9=>w9.elim λdd1 w9=>w9.elim λq1 S=>?_;refine S.glob ok (hg _) hx hd ?_;obtain⟨bm,nm,q',N,bs,sn,fq,col,k0,k1,k2,k3,k5,hE,hB,hA,hN,lk⟩:=hC.at c.w.params;have fin:iM c.M (c.A.mark (some (.ref a))) (.handlers (.ref a) [.ExceptHandler none none (vL::vt) pos] c.env) (λr m8=>match r with
     |.ok f=>rD c fr xs vs P f m8
     |.error x=>dw c.M c.A c.env (λO O=>False) x m8) s:=by
  refine codeAny_handlers_suite (h.off λs' h'=>?_);refine cps λV V'=>?_;obtain⟨a2,zr,q2,S2⟩:=h'.land ok;refine V' ?_;cases q2;have:=W.any ((body a zr).go fr xs vs s' S2.mk');refine aY this ?_ λO O q=>q.elim;rintro f s2 ⟨o,mF,hf,q⟩;refine⟨o,mF,?_,q⟩;cases o with
  |next=>exact⟨hf.1,hf.2.s8⟩
  |brk=>exact⟨hf.1,hf.2.s8⟩
  |cont=>exact⟨hf.1,hf.2.s8⟩
  |ret x=>obtain⟨v,e,S⟩:=hf;exact⟨v,e,S.s8⟩
 obtain⟨hp,g,dr,tk,os⟩:=s;exact jL ((S.sq ok) _ _ lk) he vK hB fin
end
section
variable {c:Cx}{σ:Sg}{d:Nat}{E:Ex}{i:mR}{ε:Env}{ns:List Str}
theorem WS.exB{e:cI}{p:iA}{rest:List Stmt}{Q:Out->Sg->Prop}(he:c.env=ε)(h:WE c E σ (aT e c.env) λav mF=>(∃b,av=.bytes b)/\WS c E mF (aO rest c.env) Q)(hi:autoParam (jh ε=false) aR)
  (hs:autoParam (cn e Option.none p.line ε=pure false) aR):WS c E σ (aO (.Expr e p::rest) c.env) Q:=by
 refine .cons ?_
 intro fr xs vs s S
 with_reducible refine W.Ld (h.run S ?_) (by rw[he];exact hi) (by rw[he];exact hs)
 rintro av mF v s' ⟨⟨b,rfl⟩,w⟩ S'
 obtain⟨fz,o⟩:=S'.of
 obtain⟨t,rfl⟩:=o.qR
 exact⟨.next,mF,⟨rfl,S'.pop⟩,w⟩
theorem WS.Nb{body rest:List Stmt}{h₀:et}{hs:List et}{pos:iA}{Q:Out->Sg->Prop}(ok:Ok c d)(J:Nm c ns)(P:Out->Sg->Prop)(X:mZ->Sg->Prop)
  (H:∀x σ,X x σ->∀fr xs vs e s,n5 c (σ.on fr) xs vs x e s->aJ c.M c.A (iL e c.env (h₀::hs)) (rD c fr xs vs P) (λO O=>False) s)
  (hb:∀E',Exits c E' X->WS c E' σ (aO body c.env) P)(k:∀o mF,P o mF->rE c E rest Q o mF):WS c E σ (aO (.Try body (h₀::hs) [] [] pos::rest) c.env) Q:=
 .Ew P (hb _ (Exits.Ew ok J.cm H)) k
end
section
namespace FA
theorem PE:cO (.type "bytearray") "__getattribute__"=pure (some (.builtin "bytearray.__getattribute__")):=by rw[bP,bq];kernel_rfl
theorem canon:(gf "bytearray.__getattribute__" !="object.__getattribute__")=false:=by decide +kernel
theorem PF:cO (.type "bytearray") "__getattr__"=pure none:=by rw[bP,bq];kernel_rfl
theorem zO:gp (.builtin "bytearray.append")=pure (.type "method_descriptor"):=by show kP _=_;rw[g7];kernel_rfl
theorem xN:gp (.builtin "bytearray.extend")=pure (.type "method_descriptor"):=by show kP _=_;rw[g7];kernel_rfl
theorem wy:lA "bytearray" "append" "bytearray.append":=
 .of (owner:="bytearray") (n:="append") (by rw[bP,bq];kernel_rfl) (by decide +kernel) (by decide +kernel) (by decide +kernel)
  (by first|exact .inl (by decide +kernel)|exact .inr (by decide +kernel)) (by rw[dB];kernel_rfl)
theorem tA:lA "bytearray" "extend" "bytearray.extend":=
 .of (owner:="bytearray") (n:="extend") (by rw[bP,bq];kernel_rfl) (by decide +kernel) (by decide +kernel) (by decide +kernel)
  (by first|exact .inl (by decide +kernel)|exact .inr (by decide +kernel)) (by rw[dB];kernel_rfl)
theorem I7:lA "bytearray" "__len__" "bytearray.__len__":=
 .of (owner:="bytearray") (n:="__len__") (by rw[bP,bq];kernel_rfl) (by decide +kernel) (by decide +kernel) (by decide +kernel)
  (by first|exact .inl (by decide +kernel)|exact .inr (by decide +kernel)) (by rw[dB];kernel_rfl)
theorem QZ:lA "bytearray" "__init__" "bytearray.__init__":=
 .of (owner:="bytearray") (n:="__init__") (by rw[bP,bq];kernel_rfl) (by decide +kernel) (by decide +kernel) (by decide +kernel)
  (by first|exact .inl (by decide +kernel)|exact .inr (by decide +kernel)) (by rw[dB];kernel_rfl)
theorem PG:dE fy "bytearray.append"=some aB.«bytearray.append»:=dD (by kernel_rfl)
theorem G4:dE fy "bytearray.extend"=some aB.«bytearray.extend»:=dD (by kernel_rfl)
theorem entry_len:dE fy "bytearray.__len__"=some aB.«bytearray.__len__»:=dD (by kernel_rfl)
theorem Qx:dE fy "bytearray.__init__"=some aB.«bytearray.__init__»:=dD (by kernel_rfl)
theorem P8(a b:Value):gu "bytearray.append" ⟨[a,b],[]⟩:=by unfold gu;kernel_rfl
theorem Hr(a b:Value):gu "bytearray.extend" ⟨[a,b],[]⟩:=by unfold gu;kernel_rfl
theorem R9(a:Value):gu "bytearray.__len__" ⟨[a],[]⟩:=by unfold gu;kernel_rfl
theorem Q0(a:Value):gu "bytearray.__init__" ⟨[a],[]⟩:=by unfold gu;kernel_rfl
end FA
section
variable {M:Model}{A:Around}{E:Value->ai->Prop}{s:ai}
theorem PH(ho:s.heap.get? l=some o)(hc:o.cls=.type "bytearray")(hd:o.dict=none)(hs:lA "bytearray" n g)(ht:gp (.builtin g)=pure (.type "method_descriptor"))
  (h:Q (.builtin g,[.ref l]) s):aJ M A (ed (.ref l) n pl) Q E s:=by
 have hT:s.TypeIs (.ref l) "bytearray":=⟨o,ho,hc⟩;refine ag (bp hT FA.PE ?_);show aJ M A (if(gf "bytearray.__getattribute__" !="object.__getattribute__")=true then _ else _) Q E s;refine ag (bp hT FA.PF ?_);refine ag (bp hT hs.lookup ?_);refine ag (bV ht ?_);refine ag (du ho ?_);rw[hd];exact ag (d_ (ak h))
end
theorem TA{id:String}(h:holders.contains id=false):uv (.builtin id args)=true:=by show(!holders.contains id)=true;rw[h];rfl
section
variable {nd:Bool}{prog:Program}{w:cL}{A:Around}{E:Value->ai->Prop}{s:ai}{R:gv->ai->Prop}
theorem WC.builtin{id:String}(hb:dE fy id=some b)(ho:holders.contains id=false)
  (h:W nd (aX prog w) (A.under (.builtin id args)) (b args) (λfin s'=>match fin with|.done f=>R (.ok f) s'|.again c'=>c'.quiet=true/\WC nd (aX prog w) A c' R s') (λe s'=>R (.error e) s') s):WC nd (aX prog w) A (.builtin id args) R s:=by
 refine .tree (TA ho) ?_;show W nd _ _ (match dE fy id with|some b=>b args|none=>kJ ((withoutEnding? id "#data").getD id)) _ _ s;rw[hb];exact h
theorem WC.wX{id:String}(hq:j7 id=true)(hb:dE fy id=some b)(ho:holders.contains id=false)
  (h:aJ (aX prog w) A.in1 (cc id args) (λO mN=>W nd (aX prog w) A.in1 (b args) (λfin s'=>match fin with|.done f=>R (.ok f) s'|.again c'=>c'.quiet=true/\WC nd (aX prog w) A c' R s') (λe s'=>R (.error e) s') mN) (λe s'=>R (.error e) s') s):
  WC nd (aX prog w) A (.call (.builtin id) args) R s:=by
 refine .tree rfl ?_;show W nd _ A.in1 (do cc id args;again (.builtin id args)) _ _ s;refine .step (aY h (λO mN h=>W.pure ⟨dv hq _,WC.builtin hb ho ?_⟩) λO O q=>q);rw[Around.under_plainId hq _];exact h
theorem W.wX{id:String}{Q:Value->ai->Prop}(hq:j7 id=true)(hb:dE fy id=some b)(ho:holders.contains id=false)
  (hk:aJ (aX prog w) A.in1 (cc id ⟨pos,[]⟩) (λO mN=>W nd (aX prog w) A.in1 (b ⟨pos,[]⟩) (λfin s'=>∃v,fin=.done (.ret v)/\Q v s') E mN) E s):W nd (aX prog w) A (aF (.builtin id) pos) Q E s:=by
 refine W.vo (WC.wX hq hb ho (aY hk (λO mN h=>h.mono ?_ λO O q=>q) λO O q=>q));rintro fin s' ⟨v,rfl,q⟩;exact q
end
theorem JQ{id:String}(h:uv (.builtin id args)=true):holders.contains id=false:=by
 have h:(!holders.contains id)=true:=h
 simpa using h
theorem dn{i:Decidable p}{α:Type}{a:p->α}{b:¬p->α}{x:α}(h:¬p)(k:dite p a b=x):b h=x:=(dif_neg h).symm.trans k
theorem W.exported(h:Q false s):W true M A (aB.Bytes.exported v) Q E s:=λΓ p i n=>by
 refine(n rfl).elim λhc hb=>?_;unfold aB.Bytes.exported;rw[fH.wp_bind'];unfold stack;rw[fH.wp_stack,fH.wp_pure];refine Eq.mpr (congrArg (λb=>Q b s) (?_:_=false)) h;rw[km];rintro⟨c,q⟩ hq hx;have ok:uv c=true:=by
  refine(aL.mp hq).elim (λe=>?_) λhq=>?_
  ·cases e;exact hc
  ·exact hb _ hq
 cases c with
 |builtin id args=>
  obtain⟨pos,kw⟩:=args;have no:∀t,holders.contains t=true->¬id=t:=λt ht e=>absurd ((JQ ok).symm.trans (e▸ht)) bI;unfold aB.Bytes.exported.match_1 at hx;have hx:=dn (no "bytearray.find.held" (by decide +kernel)) (dn (no "_struct.pack_into.held" (by decide +kernel)) (dn (no "bytearray.__rmod__" (by decide +kernel)) (dn (no "bytearray.__mod__" (by decide +kernel)) (dn (no "bytearray.__contains__" (by decide +kernel)) hx))));cases pos with
  |nil=>exact absurd hx bI
  |cons a l=>
   have hd:aB.Bytes.decodersThatHold.contains id=false:=by have h1:=JQ ok;unfold holders at h1;rw[List.contains_append,jO]at h1;exact h1.2
   exact absurd ((congrArg _ hd.symm).trans hx |> λh=>(ez _).symm.trans h) bI
 |_=>exact absurd hx bI
noncomputable abbrev nM(b:List UInt8)(sl:Array (Option Value)):Obj:=⟨.type "bytearray",none,.bytearray b.toArray 0,sl⟩
section
variable {M:Model}{A:Around}{E:Value->ai->Prop}{s:ai}{prog:Program}{w:cL}
theorem W.resize(ho:s.heap.get? a=some (nM b sl))(h:Q () s):W true M A (aB.Bytes.checkResize (.ref a)) Q E s:=by refine W.bind ?_;show W true M A (aB.Bytes.exported (.ref a)>>=_) _ _ _;refine W.bind (W.exported ?_);show W true M A (aB.Bytes.exportsOf (.ref a)>>=_) _ _ _;refine W.of (ag (ag (du ho (ak ?_))));exact ak (W.pure h)
theorem Aa(ho:s.heap.get? a=some (nM b sl))(hf:f b.toArray=b'.toArray)(hz:b'.length<=16000000)
  (h:∀h',bb.SameBut a s.heap h'->h'.get? a=some (nM b' sl)->Q () {s with heap:=h'}):aJ M A (aB.Bytes.write (.ref a) f) Q E s:=by
 show aJ M A (updateBytearray a f) Q E s;refine ag (du ho ?_);show aJ _ _ (update a (fT f)>>=λO=>lookBehind a) _ _ _;refine ag (wpAny_update ho ?_);have h2:(s.heap.update a (fT f)).get? a=some (nM b' sl):=by have:=bb.get?_update_self (fT f) ho rfl;rw[this];unfold nM fT;simp only[hf]
 refine lP h2 ?_ (h _ (bb.SameBut.update ..) h2);show(if b'.toArray.size>e0 then some "bytearray:memory" else none)=none;rw[if_neg];rw[bK,cz];exact o24 hz
theorem GF(h0:0<=k)(h1:k<256)(h:Q k.toNat.toUInt8 s):aJ M A (aB.Bytes.byteValue (.int k t)) Q E s:=by refine ag (bV (rfl:asIndex (.int k t)=pure k) ?_);refine ck (by simp only[jO,decide_eq_false_iff_not];exact o23 h0 h1) ?_;exact ak h
theorem W.wC{a:aA}{k:Int}{t:Tok}{Q:Value->ai->Prop}(ho:s.heap.get? a=some (nM b sl))(h0:0<=k)(h1:k<256)(hz:b.length<=900000)
  (h:∀h',bb.SameBut a s.heap h'->h'.get? a=some (nM (b++[k.toNat.toUInt8]) sl)->Q .none {s with heap:=h'}):W true (aX prog w) A (aF (.builtin "bytearray.append") [.ref a,.int k t]) Q E s:=by
 refine W.wX FA.wy.plain FA.PG rfl (FA.wy.check _ _ _ _ _ _ _ _ ⟨_,ho,rfl⟩ (FA.P8 _ _) ?_);refine W.step (ak ?_);refine W.step (GF h0 h1 ?_);refine W.bind (W.resize ho ?_);refine W.step (Aa (b':=b++[k.toNat.toUInt8]) ho (by simp) (by simp;exact o22 hz) λh' hs hg=>?_);exact W.pure ⟨.none,rfl,h h' hs hg⟩
end
end
section
namespace FA
theorem mro:mroOf (.type "bytearray")=pure [.type "bytearray",.type "object"]:=by rw[mroOf_type];kernel_rfl
theorem Qy:cO (.type "bytearray") "__new__"=pure (some (.builtin "bytearray.__new__")):=by rw[bP,bq];kernel_rfl
theorem called:TypeCalled "bytearray" "bytearray.__new__" "bytearray.__init__":=
 ⟨by decide +kernel,by decide +kernel,⟨_,_,mro⟩,madeBy_type mro Qy (by decide +kernel),by decide +kernel,by rw[dB];kernel_rfl,QZ⟩
theorem typeCall:mC "bytearray" ⟨[],[]⟩=pure ():=by kernel_rfl
theorem TB:cc "bytearray.__new__" ⟨[.type "bytearray"],[]⟩=pure ():=by kernel_rfl
theorem P9{id id':String}{b:aB}(h1:fy id=Option.none)(h2:id.cutAt '#'=[id])(h3:gf (id.map λc=>if c.isAlphanum||c=='_'||c=='.' then c else '_')++""=id')(h4:fy id'=some b):dE fy id=some b:=by unfold dE;rw[h1];dsimp only;rw[h2];dsimp only;rw[h3,h4]
theorem Q1:dE fy "bytearray.__new__"=some aB.«list.__new__»:=
 P9 (id':="list.__new__") (by rw[mw,lM];kernel_rfl) (by decide +kernel) (by decide +kernel) (by rw[mw,lM];kernel_rfl)
theorem Q2:j7 "bytearray.__new__"=true:=by decide +kernel
theorem Q3:("bytearray.__new__".splitOn ".__new__").headD ""="bytearray":=by rw[split_bytearray];rfl
theorem Ey:lU (.type "bytearray") (.type "bytearray")=pure true:=by rw[dB];kernel_rfl
end FA
section
variable {nd:Bool}{prog:Program}{w:cL}{A:Around}{E:Value->ai->Prop}{s:ai}
theorem P_{Q₁:Value->ai->Prop}(h:Q₁ (.ref s.heap.objs.size) {s with heap:=s.heap.push (nM [] #[])}):
  iM (aX prog w) A (.call (.builtin "bytearray.__new__") ⟨[.type "bytearray"],[]⟩) (wants Q₁ E) s:=by
 refine gx ?_;show aJ _ A.in1 (do cc "bytearray.__new__" ⟨[.type "bytearray"],[]⟩;again (.builtin "bytearray.__new__" ⟨[.type "bytearray"],[]⟩)) _ _ s;refine ag (bV FA.TB (ak ⟨dv FA.Q2 _,codeAny_builtin_stack FA.Q1 rfl λp st=>?_⟩));obtain⟨hp,g,d,tk,os⟩:=s;dsimp only;rewrite[FA.Q3];refine ag (m:=isType _) (ak ?_);rewrite[if_neg (c:=(!true)=true) (by decide)];refine ag (bV FA.Ey ?_);rewrite[if_neg (c:=(!true)=true) (by decide)];refine ag (m:=pure (Data.bytearray #[])) (ak ?_);rewrite[if_pos (show(!typeHasDict (e7 "bytearray"))=true by decide +kernel)];refine ag (cH (hd:=by size_fits) ?_);exact ak h
theorem W.special{self:Value}{T:String}{name:Str}{id:String}{args:List Value}{Q:Option Value->ai->Prop}(hT:s.TypeIs self T)(h:lA T name id)
  (hc:W nd (aX prog w) A (aF (.builtin id) (self::args)) (λv=>Q (some v)) E s):W nd (aX prog w) A (iN self name args) Q E s:=by
 delta iN;refine W.step (bp hT h.lookup ?_);dsimp only;rw[h.bind];exact W.hold (W.step (ak (W.bind (hc.mono (λv s' h'=>W.pure h') λO O h'=>h'))))
theorem W.R_{T newId Az:String}{Bi:aB}{args:List Value}{Q Q₁:Value->ai->Prop}(ft:TypeCalled T newId Az)
  (hct:mC T ⟨args,[]⟩=bQ ())(Us:dE fy Az=some Bi)(hho:holders.contains Az=false)
  (acv:iM (aX prog w) A.in1 (.call (.builtin newId) ⟨.type T::args,[]⟩) (wants Q₁ E) s)
  (UY:∀obj mN,Q₁ obj mN->mN.TypeIs obj T/\gu Az ⟨obj::args,[]⟩/\W nd (aX prog w) A.in1.in1 (Bi ⟨obj::args,[]⟩) (λfin s'=>fin=.done (.ret .none)/\Q obj s') E mN):
  W nd (aX prog w) A (aF (.type T) args) Q E s:=by
 refine ft.mro.elim λc w9=>w9.elim λtl acw=>?_;refine W.vo (.tree rfl ?_);show W nd _ A.in1 (iP (.type T) _) _ _ _;refine W.pure ⟨fj _ (by decide +kernel),WC.builtin F.entry_type_call (by decide) ?_⟩;rw[Around.under_plain (weight_type_call_type T args []) rfl];have h1:=ft.notType;have h2:=ft.canCreate;unfold aB.«type.__call__»;dsimp only;rw[h1,if_neg (c:=false=true) bI,h2,hct];rw[acw,(ft.made)];refine W.step (ak (W.step (ak ?_)));rw[ki,if_neg (c:=false=true) bI];refine W.step (ak (W.step (ak ?_)));refine W.step (bN (jA (codeAny_mono acv λr mN hr=>?_)));rcases r with e|(v|_|_|_)<;>first|exact hr.elim|exact hr|skip
 obtain⟨hT,BR,hsi⟩:=UY _ _ hr;refine W.step (ec hT (ft.sub) ?_);rw[jo,if_neg (c:=false=true) bI];refine W.bind (W.hold (W.special hT ft.init (W.wX ft.init.plain Us hho (ft.init.check _ _ _ _ _ _ _ _ hT BR (hsi.mono ?_ λO O q=>q)))));rintro fin s' ⟨rfl,q⟩;exact⟨.none,rfl,W.pure q⟩
theorem Sa:cO (.type "bytearray") "__release_buffer__"=bQ (some (.builtin "bytearray.__release_buffer__")):=by rw[bP,bq];kernel_rfl
theorem Ks{a:aA}{b:List UInt8}{sl:Array (Option Value)}{Q:Bool->ai->Prop}{M:Model}(ho:s.heap.get? a=some (nM b sl))(h:Q false s):aJ M A (aB.Bytes.ownRelease (.ref a)) Q E s:=by have hT:s.TypeIs (.ref a) "bytearray":=⟨_,ho,rfl⟩;refine ag (ag (bp hT Sa ?_));dsimp only;refine ck (by decide +kernel) ?_;rw[show("bytearray.__release_buffer__":String).dropRight (("__release_buffer__":String).length+1)="bytearray" by decide +kernel];exact ec hT FA.Ey (ak h)
theorem W.AX{Q:Value->ai->Prop}(h:∀h',bb.SameBut s.heap.objs.size (s.heap.push (nM [] #[])) h'->h'.get? s.heap.objs.size=some (nM [] #[])->Q (.ref s.heap.objs.size) {s with heap:=h'}):W true (aX prog w) A (aF (.type "bytearray") []) Q E s:=by refine W.R_ (Q₁:=λv s'=>v=.ref s.heap.objs.size/\s'={s with heap:=s.heap.push (nM [] #[])}) FA.called FA.typeCall FA.Qx rfl (P_ ⟨rfl,rfl⟩) ?_;rintro obj mN ⟨rfl,rfl⟩;have ho:(s.heap.push (nM [] #[])).get? s.heap.objs.size=some (nM [] #[]):=bb.get?_push_size _ rfl;refine⟨⟨_,ho,rfl⟩,FA.Q0 _,?_⟩;unfold aB.«bytearray.__init__»;dsimp only;refine W.step (Ks ho ?_);rw[if_neg (c:=false=true) bI];refine W.step (bV (show aB.Bytes.bindOptional "bytearray.__init__" "bytearray" ["source","encoding","errors"] [] []=bQ [Option.none,Option.none,Option.none] by kernel_rfl) ?_);dsimp only;refine W.step (bV (a:=()) rfl ?_);refine W.step (bV (a:=()) rfl ?_);refine W.bind ?_;show W true _ _ (aB.Bytes.exported _>>=_) _ _ _;refine W.bind (W.exported ?_);show W true _ _ (aB.Bytes.exportsOf _>>=_) _ _ _;unfold aB.Bytes.exportsOf;refine W.of (ag (ag (du ho (ak (ak ?_)))));refine W.step (Aa (b':=[]) ho rfl (by simp) λh' hs hg=>?_);dsimp only;refine W.step (bV (a:=()) rfl ?_);exact W.pure ⟨rfl,h h' hs hg⟩
end
end
section
namespace FA
theorem wD:cO (.type "bytearray") "__buffer__"=pure (some (.builtin "bytearray.__buffer__")):=by rw[bP,bq];kernel_rfl
theorem wA:cO (.type "bytes") "__buffer__"=pure (some (.builtin "bytes.__buffer__")):=by rw[bP,bq];kernel_rfl
theorem Q4:cO (.type "bytes") "__release_buffer__"=pure none:=by rw[bP,bq];kernel_rfl
theorem Sb:cO (.type "bytearray") "__bytes__"=pure none:=by rw[bP,bq];kernel_rfl
theorem Ut:cO (.type "bytearray") "__index__"=pure none:=by rw[bP,bq];kernel_rfl
theorem UZ:("bytearray.__buffer__":String).endsWith ("."++"__buffer__")=true:=by decide +kernel
theorem U0:("bytes.__buffer__":String).endsWith ("."++"__buffer__")=true:=by decide +kernel
theorem U1:("bytearray.__buffer__":String).dropRight (("__buffer__":String).length+1)="bytearray":=by decide +kernel
theorem U2:("bytes.__buffer__":String).dropRight (("__buffer__":String).length+1)="bytes":=by decide +kernel
end FA
section
variable {M:Model}{A:Around}{E:Value->ai->Prop}{s:ai}
inductive pG(s:ai):Value->List UInt8->Prop
 |bytes {b t}:pG s (.bytes b.toArray t) b
 |ba {a b sl}:s.heap.get? a=some (nM b sl)->pG s (.ref a) b
theorem pG.own{v:Value}{b:List UInt8}(h:pG s v b){Q:Bool->ai->Prop}(q:Q true s):aJ M A (aB.Bytes.slotIsOwn v "__buffer__") Q E s:=by
 cases h with
 |bytes=>refine ag (bp (bT _ _ _) FA.wA ?_);dsimp only;rw[FA.U0];refine ck rfl ?_;rw[FA.U2];exact ec (bT _ _ _) kn q
 | @ba a b sl ho=>have hT:s.TypeIs (.ref a) "bytearray":=⟨_,ho,rfl⟩;refine ag (bp hT FA.wD ?_);dsimp only;rw[FA.UZ];refine ck rfl ?_;rw[FA.U1];exact ec hT FA.Ey q
theorem pG.rel{v:Value}{b:List UInt8}(h:pG s v b){Q:Bool->ai->Prop}(q:Q false s):aJ M A (aB.Bytes.ownRelease v) Q E s:=by
 cases h with
 |bytes=>exact ag (ag (bp (bT _ _ _) FA.Q4 (ak (ak q))))
 |ba ho=>exact Ks ho q
theorem pG.BS{v:Value}{b:List UInt8}(h:pG s v b){Q:Array UInt8->ai->Prop}(q:Q b.toArray s):aJ M A (aB.Bytes.payload v) Q E s:=by
 cases h with
 |bytes=>exact ag (ak (ak q))
 |ba ho=>exact ag (ag (du ho (ak (ak q))))
theorem pG.buf{v:Value}{b:List UInt8}(h:pG s v b){id:String}{full:Bool}{Q:Option (Array UInt8)->ai->Prop}(q:Q (some b.toArray) s):aJ M A (aB.Bytes.buffer? id v full) Q E s:=by
 have fin:aJ M A (do
   if <-aB.Bytes.ownRelease v then kJ s!"{id}:own-__release_buffer__-on-a-bytearray-subclass"
   return some (<-aB.Bytes.payload v)) Q E s:=by
  refine ag (h.rel ?_);refine ck rfl ?_;exact ag (h.BS (ak q))
 cases acx:h with
 |bytes=>refine ag (bp (bT _ _ _) FA.wA ?_);refine ag (h.own ?_);refine ck rfl ?_;refine ag (bp (bT _ _ _) FA.wA ?_);exact fin
 | @ba a b sl ho=>have hT:s.TypeIs (.ref a) "bytearray":=⟨_,ho,rfl⟩;refine ag (bp hT FA.wD ?_);refine ag (h.own ?_);refine ck rfl ?_;refine ag (bp hT FA.wD ?_);exact fin
theorem pG.take{v:Value}{b:List UInt8}(h:pG s v b){id:String}{Q:Option (Array UInt8×Option Value)->ai->Prop}(q:Q (some (b.toArray,none)) s):aJ M A (aB.Bytes.takeBufferQuiet? id v 0) Q E s:=by
 refine ag (wpAny_attempt ?_);have fin:aJ M A (do
   return (<-aB.Bytes.buffer? id v (full:=(0:Int)==aB.Bytes.fullReadOnly)).map (·,(none:Option Value))) (λr s=>aJ M A (bQ r) Q E s) (λe s=>aJ M A (do rule "memoryview.buffer.refusal-replaced";bQ none) Q E s) s:=ag (h.buf (ak (ak q)))
 cases acx:h with
 |bytes=>refine ag (bp (bT _ _ _) FA.wA ?_);refine ag (h.own ?_);refine ck rfl ?_;refine ag (bp (bT _ _ _) FA.wA ?_);exact fin
 | @ba a b sl ho=>have hT:s.TypeIs (.ref a) "bytearray":=⟨_,ho,rfl⟩;refine ag (bp hT FA.wD ?_);refine ag (h.own ?_);refine ck rfl ?_;refine ag (bp hT FA.wD ?_);exact fin
theorem pG.U3{v:Value}{b:List UInt8}(h:pG s v b):∃id,∀(M:Model) (A:Around) (E:Value->ai->Prop) (Q:Option Value->ai->Prop),Q (some (.builtin id)) s->aJ M A (specialOf v "__buffer__") Q E s:=by
 cases h with
 |bytes=>exact⟨_,λM A E Q q=>bp (bT _ _ _) FA.wA q⟩
 | @ba a b sl ho=>exact⟨_,λM A E Q q=>bp ⟨_,ho,rfl⟩ FA.wD q⟩
end
end
section
namespace FA
theorem HP:dE fy "bytearray.extend.loop"=some aB.«bytearray.extend.loop»:=dD (by kernel_rfl)
theorem Q5:dE fy "bytearray.extend.end"=some aB.«bytearray.extend.end»:=dD (by kernel_rfl)
theorem HQ:j7 "bytearray.extend.loop"=true:=by decide +kernel
theorem Q6:j7 "bytearray.extend.end"=true:=by decide +kernel
end FA
section
variable {prog:Program}{w:cL}{A:Around}{E:Value->ai->Prop}{s:ai}{R:gv->ai->Prop}
theorem W.Kt(ho:s.heap.get? a=some (nM b sl))(hz:b.length+x.length<=900000)
  (h:∀h',bb.SameBut a s.heap h'->h'.get? a=some (nM (b++x) sl)->Q (.done (.ret .none)) {s with heap:=h'}):W true (aX prog w) A (do
   if !x.toArray.isEmpty then aB.Bytes.checkResize (.ref a)
   aB.Bytes.write (.ref a) (λO=>O++x.toArray)
   ret .none) Q E s:=by
 have fin:W true (aX prog w) A (do
   aB.Bytes.write (.ref a) (λO=>O++x.toArray)
   ret .none) Q E s:=W.step (Aa (b':=b++x) ho (by simp) (by simp;exact o31 hz) λh' hs hg=>W.pure (h h' hs hg))
 cases x with
 |nil=>exact fin
 |cons y r=>exact W.bind (W.resize ho fin)
theorem W.I8(ho:s.heap.get? a=some (nM b sl))(hv:pG s v x)(hz:b.length+x.length<=900000)
  (h:∀h',bb.SameBut a s.heap h'->h'.get? a=some (nM (b++x) sl)->Q .none {s with heap:=h'}):W true (aX prog w) A (aF (.builtin "bytearray.extend") [.ref a,v]) Q E s:=by
 refine W.wX FA.tA.plain FA.G4 rfl (FA.tA.check _ _ _ _ _ _ _ _ ⟨_,ho,rfl⟩ (FA.Hr _ _) ?_);refine W.step (ak ?_);refine hv.U3.elim λid hb=>?_;refine W.step (hb _ _ _ _ ?_);refine W.step (d_ ?_);refine W.step (pG.BS (.ba ho) ?_);refine W.step (hv.take ?_);exact W.Kt ho hz λh' hs hg=>⟨.none,rfl,h h' hs hg⟩
noncomputable abbrev tV(ns:List Int):List UInt8:=ns.map λn=>n.toNat.toUInt8
theorem Sd{vs:List Value}{b:List UInt8}{sl:Array (Option Value)}(hh:A.handled=none)(hi:d6 vs ns)(hr:∀n∈ns,0<=n/\n<256)(hz:b.length+ns.length<=900000)(xt:I≠S)(hlI:l≠I)(hlS:l≠S)(N6:a≠I)(haS:a≠S):
  ∀(k i:Nat) (s:ai),ns.length-i=k->i<=ns.length->s.heap.IsList l vs.toArray->s.heap.IsListIter I l i->s.heap.get? S=some (nM (tV (ns.take i)) #[])->s.heap.get? a=some (nM b sl)->
   (∀h' t,h'.get? a=some (nM (b++tV ns) sl)->(∀c o,c≠I->c≠S->c≠a->s.heap.get? c=some o->h'.get? c=some o)->R (.ok (.ret .none)) {s with heap:=h',toks:=t})->
   WC true (aX prog w) A (.builtin "bytearray.extend.loop" ⟨[.ref a,.ref l,.ref I,.ref S],[]⟩) R s:=by
 have hlen:vs.length=ns.length:=hi.length;intro k;induction k with
 |zero=>intro i s hk hle hl hit hS ha hR;have t9:i=ns.length:=o30 hlen hk hle;subst t9;refine WC.builtin FA.HP (by decide) ?_;refine W.step (gA hh hit hl (by simp[hlen]) λh' he=>?_);refine W.pure ⟨dv FA.Q6 _,WC.builtin FA.Q5 rfl ?_⟩;have BU:h'.get? S=some (nM (tV (ns.take ns.length)) #[]):=he S _ (fh xt) hS;rw[cT]at BU;refine W.step (eD ?_);refine W.step (pG.BS (.ba BU) ?_);refine W.Kt (he a _ N6 ha) (by simp;exact o29 hz hlen) λh2 hs hg=>?_;exact hR h2 _ hg λc o c1 c2 c3 e=>(hs.2 c c3).trans (he c _ c1 e)
 |succ k ih=>
  intro i s hk hle hl hit hS ha hR;have mY:i<ns.length:=o28 hlen hk hle;refine cps λV V'=>?_;obtain⟨x,hx⟩:∃x,vs[i]?=some x:=⟨vs[i]'(yX hlen mY),aw (yX hlen mY)⟩;obtain⟨n,t,rfl,J⟩:=d6.at hi i x hx;refine(hr n (dX J)).elim λh0 h1=>?_;refine V' ?_;refine WC.builtin FA.HP (by decide) ?_;unfold aB.«bytearray.extend.loop»;refine W.step (gm (x:=.int n t) hit hl (by simpa using hx) λh' Ez hs=>?_);dsimp only;refine W.step (lY (bN (GF h0 h1 ?_)));refine W.step (je ?_);have e1:tV (ns.take (i+1))=tV (ns.take i)++[n.toNat.toUInt8]:=by unfold tV;rw[bD,J];simp
  refine W.step (Aa (b':=tV (ns.take (i+1))) ((hs.2 S (fh xt)).trans hS) (by rw[e1];simp) (by simp;exact o26 hz hlen mY) λh2 rh hg2=>?_);refine W.pure ⟨dv FA.HQ _,ih (i+1) _ (o25 hlen hk mY) mY ?_ ?_ hg2 ((rh.2 a haS).trans ((hs.2 a N6).trans ha)) λh3 t' hg3 hk3=>?_⟩
  ·exact(hl.extBut hs.extBut hlI).extBut rh.extBut hlS
  ·exact Ez.extBut rh.extBut xt
  ·exact hR h3 t' hg3 λc o c1 c2 c3 e=>hk3 c o c1 c2 c3 ((rh.2 c c2).trans ((hs.2 c c1).trans e))
theorem W.Q7{vs:List Value}{ns:List Int}{Q:Value->ai->Prop}(hh:A.handled=none)(ho:s.heap.get? a=some (nM b sl))(hl:s.heap.IsList l vs.toArray)(hi:d6 vs ns)(hr:∀n∈ns,0<=n/\n<256)(hz:b.length+ns.length<=900000)
  (h:∀h' t,h'.get? a=some (nM (b++tV ns) sl)->(∀c o,c≠a->s.heap.get? c=some o->h'.get? c=some o)->Q .none {s with heap:=h',toks:=t}):W true (aX prog w) A (aF (.builtin "bytearray.extend") [.ref a,.ref l]) Q E s:=by
 refine cps λV V'=>?_;refine(id hl).elim λol w9=>w9.elim λtj w9=>w9.elim λxr w9=>w9.elim λnl hod=>?_;refine V' ?_;refine W.vo (WC.wX FA.tA.plain FA.G4 rfl (FA.tA.check _ _ _ _ _ _ _ _ ⟨_,ho,rfl⟩ (FA.Hr _ _) ?_));refine W.step (ak ?_);refine W.step (bp (hl.typeIs) F.bm_no_buffer ?_);refine W.step (lY (fU hl ?_));have Lm:(s.heap.push {cls:=.type "list_iterator",data:=.fields #[.ref l,.int 0 0]}).IsList l vs.toArray:=hl.push _;have Ln:({s with heap:=s.heap.push {cls:=.type "list_iterator",data:=.fields #[.ref l,.int 0 0]}}:ai).TypeIs (.ref l) "list":=bb.IsList.typeIs (s:={s with heap:=s.heap.push {cls:=.type "list_iterator",data:=.fields #[.ref l,.int 0 0]}}) Lm;refine W.step (bN ?_);refine ag (bp Ln slot_list_len.lookup ?_);refine ag (ec Ln F.bm_sub_list ?_);refine ck rfl ?_;refine ij (by decide +kernel) ?_;refine ak ?_;refine W.step (cH ?_ (bB _));have hI:((s.heap.push {cls:=.type "list_iterator",data:=.fields #[.ref l,.int 0 0]}).push {cls:=.type "bytearray",data:=.bytearray #[]}).IsListIter s.heap.objs.size l 0:=
  ⟨_,ay _ (bb.get?_push_size _ rfl),rfl,rfl⟩
 have mY:l<s.heap.objs.size:=a_ tj;have halt:a<s.heap.objs.size:=a_ ho;have hsz:(s.heap.push {cls:=.type "list_iterator",data:=.fields #[.ref l,.int 0 0]}).objs.size=s.heap.objs.size+1:=bb.size_push _ _;refine W.pure ⟨dv FA.HQ _,Sd (l:=l) (I:=s.heap.objs.size) (S:=(s.heap.push {cls:=.type "list_iterator",data:=.fields #[.ref l,.int 0 0]}).objs.size) (b:=b) (sl:=sl) hh hi hr hz (by rw[hsz];exact bC (b_ _)) (bC mY) (by rw[hsz];exact bC (c_ mY))
  (bC halt) (by rw[hsz];exact bC (c_ halt)) ns.length 0 _ rfl (bB _) (Lm.push _) hI (bb.get?_push_size _ rfl) (ay _ (ay _ ho)) λh' t hg hk=>?_⟩
 exact h h' t hg λc o c1 e=>hk c o (bC (a_ e)) (by rw[hsz];exact bC (c_ (a_ e))) c1 (ay _ (ay _ e))
end
end
section
variable {c:Cx}{σ:Sg}{d:Nat}{E:Ex}
theorem Op.AX{lo as}{Q:AV->Sg->Prop}(hb:c.nd=true)(q:∀a,Q (.ref a) ⟨lo,.ba a []::as⟩):Op c E ⟨lo,as⟩ [] (λus=>aF (.type "bytearray") us) Q:=by
 intro fr xs vs us s S hl;obtain rfl:=eS hl;rw[hb];refine W.AX λh' hs hg=>⟨.ref s.heap.objs.size,_,?_,q _⟩;refine(S.alloc (o:=nM [] #[]) (tk:=s.toks) (y:=.ba s.heap.objs.size []) (xs':=.ref s.heap.objs.size::xs) (vs':=.ref s.heap.objs.size::vs) rfl λfz o=>⟨.ba,.cons (.ref _) o⟩).keeps λb o e=>?_;by_cases hb:b=s.heap.objs.size
 ·subst hb;rw[show({s with heap:=s.heap.push (nM [] #[]),toks:=s.toks}:ai).heap.get? s.heap.objs.size=some (nM [] #[])from bb.get?_push_size _ rfl]at e;rw[hg,e]
 ·exact(hs.2 b hb).trans e
theorem Meth.ba{a:aA}{b:List UInt8}{n:Str}{g:String}(hm:.ba a b∈σ.as)(hs:lA "bytearray" n g)(ht:gp (.builtin g)=pure (.type "method_descriptor")):Meth c σ (.ref a) n (.builtin g):=by intro E fr ys vs v s pl Q S k;refine S.of.elim λfz o=>?_;obtain rfl:=o.mV;refine cps λV V'=>?_;obtain⟨g₁,m,fz,cl,hg,F,K,gt,mI,nd,nw,_,back⟩:=S.at (Rep.refl (ax fr hm));obtain⟨_⟩:=K;refine V' ?_;exact PH (gt _ (.head _)) rfl rfl hs ht (k s S)
theorem Op.wC{lo as as'}{a:aA}{b:List UInt8}{k:Int}{Q:AV->Sg->Prop}(hb:c.nd=true)(R:Rep (.ba a b) (.ba a (b++[k.toNat.toUInt8])) as as')(h0:0<=k)(h1:k<256)(hz:b.length<=900000)(q:Q .none ⟨lo,as'⟩):
  Op c E ⟨lo,as⟩ [.ref a,.int k] (λus=>aF (.builtin "bytearray.append") us) Q:=by
 intro fr ys vs us s S hl;obtain⟨v1,v2⟩:=qn hl;obtain⟨g₁,m,fz,cl,hg,F,K,gt,mI,nd,nw,_,back⟩:=S.at (R.on fr);have o1:=mI.hd;replace mI:=mI.tl;have o2:=mI.hd;replace mI:=mI.tl;obtain rfl:=o1.mV;obtain⟨t,rfl⟩:=o2.int_inv;obtain⟨sl⟩:=K;rw[hb];refine W.wC (gt _ (.head _)) h0 h1 hz λh' hs hg=>⟨.none,⟨lo,as'⟩,?_,q⟩;refine back _ [(a,nM _ sl)] _ _ .ba rfl (λp hp=>?_) (λb hb o e=>?_) ⟨rfl,rfl,rfl⟩ (.cons .none mI)
 ·simp only[ao]at hp;subst hp;exact hg
 ·exact(hs.2 b (λe=>hb (by simp[e]))).trans e
theorem Op.Uu{lo as as'}{a:aA}{b x:List UInt8}{Q:AV->Sg->Prop}(hb:c.nd=true)(R:Rep (.ba a b) (.ba a (b++x)) as as')(hz:b.length+x.length<=900000)(q:Q .none ⟨lo,as'⟩):
  Op c E ⟨lo,as⟩ [.ref a,.bytes x] (λus=>aF (.builtin "bytearray.extend") us) Q:=by
 intro fr ys vs us s S hl;obtain⟨v1,v2⟩:=qn hl;obtain⟨g₁,m,fz,cl,hg,F,K,gt,mI,nd,nw,_,back⟩:=S.at (R.on fr);have o1:=mI.hd;replace mI:=mI.tl;have o2:=mI.hd;replace mI:=mI.tl;obtain rfl:=o1.mV;obtain⟨t,rfl⟩:=o2.qR;obtain⟨sl⟩:=K;rw[hb];refine W.I8 (gt _ (.head _)) .bytes hz λh' hs hg=>⟨.none,⟨lo,as'⟩,?_,q⟩;refine back _ [(a,nM _ sl)] _ _ .ba rfl (λp hp=>?_) (λb hb o e=>?_) ⟨rfl,rfl,rfl⟩ (.cons .none mI)
 ·simp only[ao]at hp;subst hp;exact hg
 ·exact(hs.2 b (λe=>hb (by simp[e]))).trans e
theorem St.EA{xs vs s}{a:aA}{b:List UInt8}{fr:List mH}(S:St c (σ.on fr) xs vs s)(hm:.ba a b∈σ.as):∃sl,s.heap.get? a=some (nM b sl):=by refine cps λV V'=>?_;obtain⟨g₁,m,fz,cl,hg,F,K,gt,_⟩:=S.at (Rep.refl (ax fr hm));obtain⟨sl⟩:=K;refine V' ?_;exact⟨sl,gt _ (.head _)⟩
theorem Op.Uv{lo as as'}{a a2:aA}{b x:List UInt8}{Q:AV->Sg->Prop}(hb:c.nd=true)(R:Rep (.ba a b) (.ba a (b++x)) as as')(hm:.ba a2 x∈as)(hz:b.length+x.length<=900000)(q:Q .none ⟨lo,as'⟩):
  Op c E ⟨lo,as⟩ [.ref a,.ref a2] (λus=>aF (.builtin "bytearray.extend") us) Q:=by
 intro fr ys vs us s S hl;obtain⟨v1,v2⟩:=qn hl;obtain⟨sl2,g2⟩:=S.EA hm;obtain⟨g₁,m,fz,cl,hg,F,K,gt,mI,nd,nw,_,back⟩:=S.at (R.on fr);have o1:=mI.hd;replace mI:=mI.tl;have o2:=mI.hd;replace mI:=mI.tl;obtain rfl:=o1.mV;obtain rfl:=o2.mV;obtain⟨sl⟩:=K;rw[hb];refine W.I8 (gt _ (.head _)) (.ba g2) hz λh' hs hg=>⟨.none,⟨lo,as'⟩,?_,q⟩;refine back _ [(a,nM _ sl)] _ _ .ba rfl (λp hp=>?_) (λb hb o e=>?_) ⟨rfl,rfl,rfl⟩ (.cons .none mI)
 ·simp only[ao]at hp;subst hp;exact hg
 ·exact(hs.2 b (λe=>hb (by simp[e]))).trans e
theorem mL.ints{fz:Cells}{l:List Int}:∀{vs:List Value},mL fz (l.map .int) vs->d6 vs l:=by
 induction l with
 |nil=>intro vs h;cases h;exact .nil
 |cons k l ih=>
  intro vs h;cases h with
  |cons a b=>exact a.int_inv.elim λt e=>e▸.cons _ _ (ih b)
theorem St.DY{xs vs s}{a:aA}{l:List AV}{fr:List mH}(S:St c (σ.on fr) xs vs s)(hm:.lst a l∈σ.as):∃us fz,s.heap.IsList a us.toArray/\mL fz l us:=by refine cps λV V'=>?_;obtain⟨g₁,m,fz,cl,hg,F,K,gt,_⟩:=S.at (Rep.refl (ax fr hm));obtain⟨us,n,ho⟩:=K;refine V' ?_;exact⟨us,fz,⟨_,gt _ (.head _),rfl,_,rfl⟩,ho⟩
theorem Op.Dr{lo as as'}{a l:aA}{b:List UInt8}{ns:List Int}{Q:AV->Sg->Prop}(ok:Ok c d)(hb:c.nd=true)(R:Rep (.ba a b) (.ba a (b++tV ns)) as as')(hm:.lst l (ns.map .int)∈as)(hr:∀n∈ns,0<=n/\n<256)(hz:b.length+ns.length<=900000)(q:Q .none ⟨lo,as'⟩):
  Op c E ⟨lo,as⟩ [.ref a,.ref l] (λus=>aF (.builtin "bytearray.extend") us) Q:=by
 intro fr ys vs us s S hl;obtain⟨v1,v2⟩:=qn hl;refine cps λV V'=>?_;refine(S.DY hm).elim λws w9=>w9.elim λm5 w9=>w9.elim λhL hO=>?_;obtain⟨g₁,m,fz,cl,hg,F,K,gt,mI,nd,nw,_,back⟩:=S.at (R.on fr);have o1:=mI.hd;replace mI:=mI.tl;have o2:=mI.hd;replace mI:=mI.tl;obtain rfl:=o1.mV;obtain rfl:=o2.mV;obtain⟨sl⟩:=K;refine V' ?_;rw[hb];refine W.Q7 (qh ok) (gt _ (.head _)) hL hO.ints hr hz λh' t hg hk=>⟨.none,⟨lo,as'⟩,?_,q⟩;refine back _ [(a,nM _ sl)] _ _ .ba rfl (λp hp=>?_) (λb hb o e=>?_) ⟨rfl,rfl,rfl⟩ (.cons .none mI)
 ·simp only[ao]at hp;subst hp;exact hg
 ·exact hk b o (λe=>hb (by simp[e])) e
end
section
section
variable {nd:Bool}{prog:Program}{w:cL}{A:Around}{K:Frag}{C:aA}{R:gv->ai->Prop}{h:bb}{g:Array mn}{d:Drawn}{t:Nat}{os:ju}
theorem WC.Se(Y:Makes (aX prog w) h C)(hi:fN (aX prog w) h (cO (.ref C) "__init__") (some init))
  (hb:∀self,fN (aX prog w) h (bindSpecial init self) (init,[self]))(oR:(some init !=some (kX "object.__init__"))=true)
  (hq:WC nd (aX prog w) (A.under (.builtin "type.__call__" ⟨.ref C::rest,[]⟩)) (.call init ⟨.ref (h.objs.size+1)::rest,[]⟩) (InitBack (h.objs.size+1) R) ⟨(h.push eg).push (eK C h.objs.size),g,d,t,os⟩):
  WC nd (aX prog w) A (.call (.ref C) ⟨rest,[]⟩) R ⟨h,g,d,t,os⟩:=by
 have Y':=Y;refine cps λV V'=>?_;obtain⟨⟨oc,od,cd,sl,hC,e1,e2,e4⟩,made,base,self,top,mh,typ⟩:=Y;refine V' ?_;refine .tree rfl ?_;show W nd _ _ (iP (.ref C) _) _ _ _;refine W.step (du hC ?_);refine W.step (mh.here ?_);refine W.step (ak (W.step (ak ?_)));refine W.pure (a:=Fin.again (.call (.builtin "type.__call__") ⟨.ref C::rest,[]⟩)) (gz rfl ?_);refine .tree rfl ?_;show W nd _ A.in1 (do cc "type.__call__" ⟨.ref C::rest,[]⟩;again (.builtin "type.__call__" ⟨.ref C::rest,[]⟩)) _ _ _;refine W.step (PySem.W.check_slot tc_kind tc_split typ (PySem.W.tc_args _ _ _) (W.pure (gz (fj _ (by decide +kernel)) (WC.builtin md rfl ?_))));unfold aB.«type.__call__»;dsimp only;refine W.step ((((fN.ld (part:=none) hC).andThen .now).andThen .now:fN (aX prog w) h (mroOf (.ref C)) cd.mro).here ?_);rw[e4];rw[if_neg (c:=false=true) bI];refine W.step (made.here ?_);refine W.step (ak ?_);refine W.step (bN (jA (new_K Y' hi (.inl oR) ?_)));have k:∀b o,h.get? b=some o->((h.push eg).push (eK C h.objs.size)).get? b=some o:=λb o e=>ay _ (ay _ e);have t1:fN (aX prog w) ((h.push eg).push (eK C h.objs.size)) (gp (.ref (h.objs.size+1))) (.ref C):=(fN.ld (by heap_get)).andThen .now;have i1:=hi.keeps k;have b1:=(hb (.ref (h.objs.size+1))).keeps k;unfold isInstance iN specialOf;refine W.bind (W.step (t1.here (W.of ((self.keeps k).here ?_))));rw[jo,if_neg (c:=false=true) bI];refine W.bind (W.hold ?_);refine W.bind (W.step (t1.here (W.of (i1.here ?_))));dsimp only;refine W.hold (W.step (b1.here ?_));refine W.bind (W.vo (hq.mono λr s' z=>?_));rcases r with e|(v|_|_|_)<;>first|exact z|exact z.elim|skip
 obtain⟨rfl,z⟩:=z;exact W.pure (W.pure z)
end
variable {c:Cx}{σ:Sg}{d:Nat}{E:Ex}
theorem Op.AY{args:List AV}{lo:List (Option AV)}{se as rest:List mH}{R:aA->AV->List mH->Prop}{X:aA->mZ->List mH->Prop}{Q:AV->Sg->Prop}{XX:mZ->Sg->Prop}(ok:Ok c d)(ex:Exits c E XX)(hm:j9 (KK c.w.params) C=true)
  (hi:cg (KK c.w.params) (.ref C) "__init__"=some (some (.ref fI)))(hf:isFn (KK c.w.params) (.ref fI)=true)(J:n<=d)(hb:nb=true->c.nd=true)(p:Arr se (as++rest))(h:∀a,mG nb (.ref fI) n (.ref a::args) (.ins a C []::as) (R a) (X a))
  (hr:∀a av as',R a av as'->av=.none/\Q (.ref a) ⟨lo,as'++rest⟩)(hx:∀a x as',X a x as'->XX x ⟨lo,as'++rest⟩):Op c E ⟨lo,se⟩ args (λus=>aF (.ref C) us) Q:=by
 intro fr xs vs us s S hl;have S2:St c (Sg.on ⟨lo,as⟩ (rest++fr)) (args++xs) (us++vs) s:=by show St c ⟨lo,as++(rest++fr)⟩ _ _ _;rw[<-aj];exact(S.arr p)
 refine cps λV V'=>?_;obtain⟨g₁,hg,m,own,fz,I⟩:=S2;obtain⟨hh,g,dr,tk,os⟩:=s;refine V' ?_;have X:=(ok.on hg).X.keeps I.F.keep;have S3:St c (Sg.on ⟨lo,.ins (hh.objs.size+1) C []::as⟩ (rest++fr)) ((.ref (hh.objs.size+1)::args)++xs) ((.ref (hh.objs.size+1)::us)++vs) ⟨(hh.push eg).push (eK C hh.objs.size),g,dr,tk,os⟩:=by
  have N':=(I.N.push I.F eg).push (I.F.push _) (eK C hh.objs.size);rw[bb.size_push]at N';refine⟨g₁,hg,?_⟩;refine I.grow (new:=[(hh.objs.size+1,eK C hh.objs.size),(hh.objs.size,cX [] 0)]) (tk:=tk) ((I.F.push _).push _) N' ?_ ?_ (.ins .nil fi) (.cons (.ref _) I.st)
  ·simp only[bE,ew,bj,ao,bA,not_false_eq_true,fi,and_true];exact fa (b_ _)
  ·intro p hp q hq e;have:=I.lt q hq;simp only[aL,bA,or_false]at hp;rcases hp with rfl|rfl
   ·have e:hh.objs.size+1=q.1:=e;rw[<-e]at this;exact cb _ (Nat.lt_trans (b_ _) this)
   ·have e:hh.objs.size=q.1:=e;rw[<-e]at this;exact cb _ this
 refine W.vo (WC.Se (makes_of X hm) (gr X hi) (λself=>bind_fn X self (beq_iff_eq.mp hf)) rfl ?_);refine WC.mono ((h (hh.objs.size+1)).go c d (c.A.under (.builtin "type.__call__" ⟨.ref C::us,[]⟩)) lo (rest++fr) xs vs (.ref (hh.objs.size+1)::us) _ hb ok J (dS ok.B.stack) ok.hh (fb (b_ (c.A₀.depth+2))) (by show c.A₀.units+3+1<=c.A₀.units+30;exact ET) S3 (by simp[hl])) ?_;intro r s' h;cases r with
 |error e=>obtain⟨y,as',hX,hf⟩:=h;refine ex.uR y ⟨lo,as'++rest⟩ fr xs vs e s' (hx _ y as' hX) ?_;show n5 c ⟨lo,(as'++rest)++fr⟩ _ _ y e s';rw[aj];exact hf
 |ok f=>
  cases f with
  |ret v=>refine cps λV V'=>?_;obtain⟨av,as',S4,hR⟩:=h;refine(hr _ av as' hR).elim λe9 q=>?_;subst e9;obtain⟨m5,o⟩:=S4.of;refine V' ?_;refine⟨o.none_inv,.ref _,⟨lo,as'++rest⟩,?_,q⟩;show St c ⟨lo,(as'++rest)++fr⟩ _ _ _;rw[aj];exact S4.pop.push λO=>.ref _
  |_=>exact h.elim
end
section
section
variable {prog:Program}{w:cL}{A:Around}{E:Value->ai->Prop}{s:ai}
theorem Qa{a:aA}{b:List UInt8}{sl:Array (Option Value)}{Q:Value->ai->Prop}(ho:s.heap.get? a=some (nM b sl))(hz:b.length<=16000000)
  (h:Q (.int b.length (s.toks+1)) {s with toks:=s.toks+1+1}):aJ (aX prog w) A (aF (.builtin "len") [.ref a]) Q E s:=by
 have hT:s.TypeIs (.ref a) "bytearray":=⟨_,ho,rfl⟩;refine call_function_entry kind_len plain_len entry_len (args_len1 _) ?_;refine ag (m:=oneArg "len" _) (ak ?_);refine ag (m:=iN (.ref a) (af "__len__")) (jX (name:=af "__len__") hT FA.I7
  (eU FA.I7 hT FA.entry_len ?_ (FA.R9 _)))
 ·unfold aB.«bytearray.__len__»;refine ag (ak ?_);refine ag (pG.BS (.ba ho) ?_);refine ag (wpAny_mkInt (ak ⟨_,rfl,?_⟩));refine ag (bN (ak ?_));refine ag (je ?_);have e:((b.toArray.size:Nat):Int)=b.length:=by rfl
  dsimp only;rw[e,if_neg (o32 hz e),if_neg (df.mpr (EY hz))];exact ag (wpAny_mkInt (ak ⟨_,rfl,h⟩))
theorem Sf{a:aA}{b:List UInt8}{sl:Array (Option Value)}{Q:Value->ai->Prop}(ho:s.heap.get? a=some (nM b sl))(hz:b.length<=16000000)
  (h:∀t t',Q (.bytes b.toArray t) {s with toks:=t'}):aJ (aX prog w) A (aF (.type "bytes") [.ref a]) Q E s:=by
 have hT:s.TypeIs (.ref a) "bytearray":=⟨_,ho,rfl⟩;refine mf (Q₁:=λobj mN=>mN.TypeIs obj "bytes"/\Q obj mN) fS (lX _) kF ?_ λobj mN m4=>?_
 ·refine gx ?_;show aJ _ A.in1.in1 (do cc "bytes.__new__" ⟨[.type "bytes",.ref a],[]⟩;again (.builtin "bytes.__new__" ⟨[.type "bytes",.ref a],[]⟩)) _ _ s;refine ag (bV (F.bm_newCall _) (ak ⟨dv F.bm_plain _,gy F.bm_entry ?_⟩));refine ag (bV (a:=true) rfl ?_);refine ck rfl ?_;refine ag (bV kn ?_);refine ck rfl ?_;refine ag (bV (F.bm_bind _) ?_);refine ag (bV (a:=()) rfl ?_);refine ag (bV (a:=()) rfl ?_);refine ck rfl ?_;refine ag (bp hT FA.Sb ?_);refine ag (ag ?_);show aJ _ _ (load a>>=_) _ _ _;refine ag (du ho ?_);refine ak (ak ?_);refine ck rfl ?_;refine ag (bp hT FA.Ut ?_);refine ij rfl ?_
  first
   |show aJ _ _ (aB.Bytes.buffer? "bytes.__new__" (.ref a) true>>=_) _ _ _
   |(refine ag ?_;show aJ _ _ (aB.Bytes.buffer? "bytes.__new__" (.ref a) true>>=_) _ _ _)
  refine ag (pG.buf (.ba ho) ?_);refine ag (d_ ?_);refine ag (mu ?_ (Nz hz));show aJ _ _ (if(e7 "bytes"==e7 "bytes")=true then _ else _) _ _ _;refine ij rfl ?_
  first
   |exact ak ⟨bT _ _ _,h _ _⟩
   |exact ak (ak ⟨bT _ _ _,h _ _⟩)
   |exact ag (ak (ak ⟨bT _ _ _,h _ _⟩))
 ·exact⟨m4.1,kp obj _,lI fS.init.lookup fS.made rfl prog w A.in1 _ mN ⟨m4.1,rfl,m4.2⟩⟩
end
variable {c:Cx}{σ:Sg}{d:Nat}{E:Ex}
theorem oB.acy{a:aA}{b:List UInt8}(hm:.ba a b∈σ.as)(hz:b.length<=16000000):oB c σ (.ref a) (λv=>aF (.builtin "len") [v]) (.int b.length):=by intro E fr xs vs v s Q S k;refine S.of.elim λfz o=>?_;obtain rfl:=o.mV;refine(S.EA hm).elim λsl ho=>?_;exact Qa ho hz (k _ _ ((S.pop.push λO=>.int _ _).tok _))
theorem oB.Ku{a:aA}{b:List UInt8}(hm:.ba a b∈σ.as)(hz:b.length<=16000000):oB c σ (.ref a) (λv=>aF (.type "bytes") [v]) (.bytes b):=by intro E fr xs vs v s Q S k;refine S.of.elim λfz o=>?_;obtain rfl:=o.mV;refine(S.EA hm).elim λsl ho=>?_;exact Sf ho hz λt t'=>k _ _ ((S.pop.push λO=>.bytes b t).tok t')
end
section
variable {c:Cx}{σ:Sg}{d:Nat}{E:Ex}
noncomputable abbrev r3(l:List Nat)(i:Nat):Obj->Prop:=λo=>∃ty t,(ty="str_iterator"\/ty="str_ascii_iterator")/\o.cls=.type ty/\o.data=.fields #[.str ⟨l.toArray⟩ t,.int i 0]
theorem oE.str{lo as}{l:List Nat}:∀{P:AV->Sg->Prop},(∀it,P (.ref it) ⟨lo,.is it (r3 l 0)::as⟩)->oE c ⟨lo,as⟩ (.str l) P:=by
 intro P hP;intro E fr xs vs v s Q S k;refine S.of.elim λfz o=>?_;refine o.str_inv.elim λt e8=>?_;subst e8;cases ha:(⟨l.toArray⟩:Str).cps.all (λO=>O<128)
 ·refine wpAny_pyIter_wide ha (k (.ref s.heap.objs.size) ⟨lo,.is s.heap.objs.size (r3 l 0)::as⟩ _ _ (hP _) ?_);exact S.alloc (o:={cls:=.type "str_iterator",data:=.fields #[.str ⟨l.toArray⟩ t,.int 0 0]}) (tk:=s.toks) rfl λfz o=>⟨.is ⟨_,t,.inl rfl,rfl,rfl⟩,.cons (.ref _) o⟩
 ·refine wpAny_pyIter_ascii ha (k (.ref s.heap.objs.size) ⟨lo,.is s.heap.objs.size (r3 l 0)::as⟩ _ _ (hP _) ?_);exact S.alloc (o:={cls:=.type "str_ascii_iterator",data:=.fields #[.str ⟨l.toArray⟩ t,.int 0 0]}) (tk:=s.toks) rfl λfz o=>⟨.is ⟨_,t,.inr rfl,rfl,rfl⟩,.cons (.ref _) o⟩
theorem Iter.str{lo as as'}{l:List Nat}{it:aA}{i:Nat}{y:Nat}(R:Rep (.is it (r3 l i)) (.is it (r3 l (i+1))) as as')(hx:l[i]?=some y):Iter c ⟨lo,as⟩ (.ref it) (some (.str [y])) ⟨lo,as'⟩:=by
 intro E fr xs vs v s Q S k;refine cps λV V'=>?_;refine S.of.elim λfz o=>?_;obtain rfl:=o.mV;obtain⟨g₁,m,fz,cl,hg,F,K,gt,mI,nd,nw,_,back⟩:=S.at (R.on fr);obtain⟨ob,hp⟩:=K;obtain⟨ty,t,uU,hc,hd⟩:=hp;refine V' ?_;have fin:∀h',h'.IsStrIter it ty ⟨l.toArray⟩ t (i+1)->bb.SameBut it s.heap h'->Q (some (.str ⟨#[y]⟩ s.toks)) {s with heap:=h',toks:=s.toks+1}:=λh' hit hs=>by
  refine hit.elim λv8 w9=>w9.elim λg' w9=>w9.elim λzo rM=>?_;refine k _ _ (back _ [(it,v8)] _ _ (.is ⟨ty,t,uU,zo,rM⟩) rfl (λp hp=>?_) (λq hq o e=>?_) ⟨rfl,rfl,rfl⟩ (.cons (.str [y] _) mI))
  ·simp only[ao]at hp;subst hp;exact g'
  ·exact(hs.2 q (λe=>hq (by simp[e]))).trans e
 rcases uU with rfl|rfl
 ·exact wpAny_pyNext_wide_item ⟨ob,gt _ (.head _),hc,hd⟩ (by simpa using hx) fin
 ·exact wpAny_pyNext_ascii_item ⟨ob,gt _ (.head _),hc,hd⟩ (by simpa using hx) fin
theorem Iter.Kv{lo as as'}{l:List Nat}{it:aA}{i:Nat}(ok:Ok c d)(R:nt (.is it (r3 l i)) as as')(hx:l[i]?=none):Iter c ⟨lo,as⟩ (.ref it) none ⟨lo,as'⟩:=by
 intro E fr xs vs v s Q S k;refine cps λV V'=>?_;obtain⟨fz,o⟩:=S.of;obtain rfl:=o.mV;obtain⟨cl,fz,K,gt,back⟩:=S.forget (R.on fr);obtain⟨ob,hp⟩:=K;obtain⟨ty,t,uU,hc,hd⟩:=hp;refine V' ?_;have fin:∀h',bb.ExtBut it s.heap h'->Q none {s with heap:=h'}:=λh' he=>k _ (back _ (λq hq o e=>he q o (λe=>hq (by simp[e])) e) ⟨rfl,rfl,rfl⟩);rcases uU with rfl|rfl
 ·exact wpAny_pyNext_wide_end (qh ok) ⟨ob,gt _ (.head _),hc,hd⟩ (by simpa using hx) fin
 ·exact wpAny_pyNext_ascii_end (qh ok) ⟨ob,gt _ (.head _),hc,hd⟩ (by simpa using hx) fin
theorem TC(k:Nat)(p x:Int)(hp:0<=p)(hx:0<=x)(zq:x<2^k):aB.bitOr x (p*2^k)=x+p*2^k:=by
 obtain⟨a,rfl⟩:∃a:Nat,p=a:=⟨p.toNat,BL hp⟩;obtain⟨b,rfl⟩:∃b:Nat,x=b:=⟨x.toNat,BL hx⟩;rw[bitOr_and,(by rfl:((a:Int)*2^k)=((a*2^k:Nat):Int))];have:aB.bitAnd (b:Int) ((a*2^k:Nat):Int)=((b&&& (a*2^k):Nat):Int):=by unfold aB.bitAnd;simp only[bM,decide_true,bg]
 rw[this,Nat.and_comm,JP k a b (by exact_mod_cast zq)]
 rfl
end
section
theorem Q8(f:Nat):∀(n r:Nat),minRun' f n r<=n+r:=by
 induction f with
 |zero=>exactλn r=>bz _
 |succ f ih=>intro n r;rw[minRun'_succ];exact(aq _).elim (λh=>(if_pos h).symm▸bz _) λh=>(if_neg h).symm▸o49 (by assumption) (ih (n/2) (max r (n%2)))
section
variable {prog:Program}{w:cL}{A:Around}{E:Value->ai->Prop}{s:ai}{a₀:Array Keyed}
theorem Pf{st:mj}(h0:IntKeys a₀)(J:w7<=a₀.size)(h1:1<=w7)(hB:SBase a₀ st)(hs:iR (jF st) w7)
  (h:Q (some w7) st):wpS (aX prog w) A E s (countRun' 0 w7) Q st:=by
 rw[countRun0_eq];refine gc (wpS_ascLoop h0 J (bz 1) h1 hB (λi j rj hj=>(show i=j by exact o48 rj hj)▸bO _) λn rN hn2 hsn hor=>?_);have tm:n=w7:=by
  refine(hor).elim (λh=>?_) (λh=>?_)
  ·exact h
  ·by_cases he:n=w7
   ·exact he
   ·have:=hs (n-1) n (o47 rN) (NF hn2 he);exact o46 h this
 subst tm;rw[if_pos (by simp)];exact jw h
theorem Pg{st:mj}(h0:IntKeys a₀)(hB:SBase a₀ st)(h2:2<=a₀.size)(hs:iR (jF st) a₀.size)
  (h:∀oD,(jF oD).Perm a₀->failedOf oD=none->iR (jF oD) a₀.size->Q () oD):wpS (aX prog w) A E s sortRuns' Q st:=by
 rw[sortRuns'_eq];refine gc (wpS_get ?_);rw[hB.size];refine gc (wpS_mono (wpS_forRange
  (I:=λx c oD=>(x=0/\c=(none,0)/\oD=st)\/(1<=x/\c=(none,a₀.size)/\SDone a₀ oD))
  (Q:=λc oD=>c=(none,a₀.size)/\SDone a₀ oD) ?step ?fin (.inl ⟨rfl,rfl,rfl⟩)) ?post)
 case fin=>
  rintro c oD (⟨hx,_,_⟩|⟨_,hc,hD⟩)
  ·exact(o45 h2 hx).elim
  ·exact⟨hc,hD⟩
 case step=>
  rintro x c oD _ hx (⟨rfl,rfl,rfl⟩|⟨hx1,rfl,hD⟩)
  ·dsimp only;rw[if_neg (o44 h2)];refine gc (Pf h0 (bz _) (o43 h2) hB hs ?_);dsimp only;rw[if_neg (o42 (Q8 a₀.size a₀.size 0))];refine gc (wpS_get ?_);rw[(by rw[hB.pend];rfl:(pendingOf oD).back?=none)];exact gc (wpS_modify (jw (.inr ⟨o41,congrArg (fK none) (dH _),hB.done hs⟩)))
  ·dsimp only;rw[if_pos (bz _)];exact jw ⟨rfl,hD⟩
 case post=>
  rintro c oD ⟨rfl,hD⟩;refine gc (wpS_mono (wpS_forRange (I:=λO c yK=>yK=oD/\c=(none,())) (Q:=λc yK=>yK=oD/\c=(none,())) ?_ (λO O hh=>hh) ⟨rfl,rfl⟩) ?_)
  ·rintro x c yK _ _ ⟨rfl,rfl⟩;refine gc (wpS_get ?_);rw[if_pos (by rw[hD.2.2.1];exact bz 1)];exact jw ⟨rfl,rfl⟩
  ·rintro c yK ⟨rfl,rfl⟩;exact jw (h _ hD.1 hD.2.1 hD.2.2.2)
theorem PI{vs:List Value}(hI:d6 vs ns)(hp:ns.Pairwise (λO O'=>O<=O')):iR (gq vs) (gq vs).size:=by
 intro i j rj hj;rw[iI]at hj;have e:∀k,k<vs.length->K (gq vs) k=ns.getD k 0:=λk hk=>by rw[K_eq (by rw[iI];exact hk)];rw[<-(hI.nums)];simp[gq,hk]
 have hl:=hI.length;rw[e i (o40 rj hj hl),e j hj];by_cases h:i=j
 ·subst h;exact bO _
 ·rw[List.pairwise_iff_getElem]at hp;have:=hp i j (ND rj hj hl) (o39 hj hl) (NF rj h)
  simpa [cw,show i<ns.length by exact ND rj hj hl,show j<ns.length by exact o36 rj hj hl] using this
theorem Ph{a:aA}{vs:List Value}{n:Nat}{P:g8->ai->Prop}(ho:s.heap.get? a=some (fZ "list" vs.toArray n))
  (hI:d6 vs ns)(v9:vs.length<64\/ns.Pairwise (λO O'=>O<=O'))(hz:vs.length<=900000)
  (h:∀(out:Array Value) (rm:List Int),d6 out.toList rm->rm.Perm ns->rm.Pairwise (λO O'=>O<=O')->P (.done (.ret .none)) {s with heap:=sortedHeap s.heap a vs out}):
  aJ (aX prog w) A (aB.«list.sort» ⟨[.ref a],[]⟩) P E s:=by
 by_cases mY:vs.length<64
 ·exact list_sort_tree ho hI mY h
 have hp:=v9.resolve_left mY;rw[list_sort_plain];have ha:a<s.heap.objs.size:=a_ ho;refine ag (listItems_at ho rfl ?_);refine ag (mz ho rfl ?_ (hsz:=NB hz mY));obtain⟨e1,N7⟩:∃e1,(s.heap.update a (eL λO=>#[])).get? a=some (fZ "list" #[] e1):=⟨_,get?_update_seq ho (λO=>#[])⟩;refine ag (seqEpoch_at N7 rfl ?_);refine ag (wpAny_newTuple ?_ (by rw[cz];simp;exact NB hz mY));refine ag (mr ?_);refine bN ?_;have N8:(((s.heap.update a (eL λO=>#[])).push (fZ "tuple" vs.toArray 0)).push (fZ "list" #[] 0)).get? a=some (fZ "list" #[] e1):=by rw[bb.get?_push_ne _ _ _ (by rw[size_push',bb.size_update];exact bC (c_ ha)),bb.get?_push_ne _ _ _ (by rw[bb.size_update];exact bC ha)];exact N7
 show aJ (aX prog w) A _ P E {s with heap:=((s.heap.update a (eL λO=>#[])).push (fZ "tuple" vs.toArray 0)).push (fZ "list" #[] 0)};have fin:∀oD:mj,(jF oD).Perm (gq vs)->iR (jF oD) (gq vs).size->
   P (.done (.ret .none)) {s with heap:=sortedHeap s.heap a vs ((jF oD).map (λO=>O.2))}:=by
  intro oD hp hs;refine cps λV V'=>?_;refine(sorted_out hI hp hs).elim λrm w9=>w9.elim λh1 w9=>w9.elim λh2 h3=>?_;refine V' ?_;exact h _ rm h1 h2 h3
 obtain⟨tW,tX,rest,rfl⟩:∃tW tX rest,vs=tW::tX::rest:=by
  match vs,mY with
  |[],h2=>simp at h2
  |[_],h2=>simp at h2
  |tW::tX::rest,_=>exact⟨tW,tX,rest,rfl⟩
 rw[keyKind_ints hI];refine ag (ak ?_);refine ag (aY (Pg (a₀:=gq (tW::tX::rest)) (st:=mj.mk' oneType' ((tW::tX::rest).toArray.zip (tW::tX::rest).toArray) #[] 7 none)
  (Q:=λO oD=>(jF oD).Perm (gq (tW::tX::rest))/\failedOf oD=none/\iR (jF oD) (gq (tW::tX::rest)).size)
  hI.intKeys ⟨Array.Perm.refl _,rfl,rfl,rfl⟩ (by rw[iI];simp) (PI hI hp) λoD a1 a2 a3=>⟨a1,a2,a3⟩) ?_ λO O e=>e)
 rintro⟨⟨⟩,oD⟩ s' ⟨rfl,hp,hf,hs⟩;refine ag (seqEpoch_at N8 rfl ?_);refine ag (mz N8 rfl ?_ (hsz2:=by refine ar (da ((Array.size_map ..).trans (hp.size_eq.trans (iI _)))) ?_;rw[cz];exact o33 hz mY (by rfl)));rw[hf];rw[bne_self_eq_false,if_neg (c:=false=true) bI];exact ak (fin oD hp hs)
end
end
section
section
variable {prog:Program}{w:cL}{A:Around}{E:Value->ai->Prop}{s:ai}
theorem Pr:lU (.type "dict") (.type "dict")=pure true:=by rw[dB];kernel_rfl
theorem PJ(hh:A.handled=none)(o_:(d==eA)=false)(hm:s.heap.DictOf (cf prog w) d kvs)(J:kvs.length<=900000)
  (hQ:∀s' acc,(∀b o,s.heap.get? b=some o->s'.heap.get? b=some o)->s'.gens=s.gens->s'.drawn=s.drawn->s'.os=s.os->ItemsOf (λi v=>∃k x,kvs[i]?=some (k,x)/\(cf prog w).is k v=true) acc kvs.length->Q acc.toList s'):
  aJ (aX prog w) A (collect (.ref d)) Q E s:=by
 refine hm.dictAt.elim λep hd=>?_;have mY:d<s.heap.objs.size:=hd.lt_size;refine ag (wpAny_runValue (gy F.entry_proto_collect ?_));show aJ _ A.in1 (newList []>>=λl=>again (.builtin "list.__iadd__" ⟨[l,.ref d],[]⟩)) _ _ s;refine ag (cH ?_);refine ak ⟨dv F.plain_list_iadd _,gy F.entry_list_iadd ?_⟩;show aJ _ A.in1 (aB.List.listExtendWith (.ref s.heap.objs.size) (.ref d) (.ref s.heap.objs.size)) _ _ _;generalize hH:s.heap.push {cls:=.type "list",data:=.seq ([]:List Value).toArray}=H;have E9:H.objs.size=s.heap.objs.size+1:=by rw[<-hH,bb.size_push]
 have N9:∀b o,s.heap.get? b=some o->H.get? b=some o:=λb o e=>hH▸ay _ e;have E_:H.DictAt (cf prog w) d kvs ep:=hd.keep N9;have U4:H.get? s.heap.objs.size=some {cls:=.type "list",data:=.seq ([]:List Value).toArray}:=hH▸bb.get?_push_size _ rfl;have hT:({s with heap:=H}:ai).TypeIs (.ref d) "dict":=E_.dictOf.typeIs (s:={s with heap:=H});refine ag (fF hT ?_);rw[(by simp[aB.List.listSameRef,fa mY]:aB.List.listSameRef (.ref s.heap.objs.size) (.ref d)=false),(by decide:(e7 "dict"==e7 "list")=false),(by decide:(e7 "dict"==e7 "tuple")=false),cS,if_neg (c:=false=true) bI];refine ag (lC o_ E_ ?_);generalize hK:H.push {cls:=.type "dict_keyiterator",data:=.fields #[.ref d,.int 0 0,.int kvs.length 0,.int ep 0]}=K;have Fb:∀b o,H.get? b=some o->K.get? b=some o:=λb o e=>hK▸ay _ e;have hI:K.IsKeyIter H.objs.size d 0 kvs.length ep:=⟨_,hK▸bb.get?_push_size _ rfl,rfl,rfl⟩;have N_:K.DictAt (cf prog w) d kvs ep:=E_.keep Fb;have Fc:({s with heap:=K}:ai).TypeIs (.ref d) "dict":=N_.dictOf.typeIs (s:={s with heap:=K});refine ag (bN ?_);refine ag (bp Fc F.slot_dict_len.lookup ?_)
 wp_delta
 refine ag (ec Fc Pr ?_);show aJ _ A.in1 (gp (di d)>>=_) _ _ _;refine ag (fF Fc ?_);refine ak ?_;show aJ _ A.in1 (rule "list.extend.makes-room">>=λO=>aB.List.listTouch (.ref s.heap.objs.size)>>=λO=>
  again (.builtin "list.extend.loop" ⟨[.ref s.heap.objs.size,.ref H.objs.size,.ref s.heap.objs.size],[]⟩)) _ _ _
 refine ag (d_ ?_);have Lo:=Fb _ _ U4;refine ag ?_;show aJ _ A.in1 (updateSeq s.heap.objs.size (λO=>O.push .none)>>=λO=>updateSeq s.heap.objs.size (λO=>O.pop)) _ _ _;refine ag (lW Lo rfl ?_);have Lp:=bb.get?_update_self (eL (λO=>O.push e_)) Lo rfl;refine lW Lp rfl ?_;have U5:=bb.get?_update_self (eL (λO=>O.pop)) Lp rfl;have Fd:∀b o,b≠s.heap.objs.size->K.get? b=some o->((K.update s.heap.objs.size (eL (λO=>O.push e_))).update s.heap.objs.size (eL (λO=>O.pop))).get? b=some o:=
  λb o hb e=>(bb.get?_update_other _ _ (fh hb)).trans ((bb.get?_update_other _ _ (fh hb)).trans e)
 have hdI:d≠H.objs.size:=by rw[E9];exact bC (c_ mY)
 have xt:H.objs.size≠s.heap.objs.size:=by rw[E9];exact fa (b_ _)
 have hSf:s.heap.objs.size∉[H.objs.size,d]:=λhm=>by
  simp only[aL,bA,or_false]at hm;rcases hm with h|h
  ·exact xt h.symm
  ·exact fa mY h
 have WK:=Walks.dictKeys (prog:=prog) (w:=w) (knd:=cf prog w) (A:=A.in1) hh H.objs.size d hdI kvs ep;refine ak ⟨dv F.plain_extend_loop _,codeAny_extend_loopS WK.toS (by rw[cz];exact xn J) _ hSf _ kvs.length 0 _ _ _ rfl (bB _)
  ⟨hI.at λo e=>Fd _ o xt e,N_.at' λo e=>Fd _ o (bC mY) e⟩ U5 (ItemsOf.nil _) λs' acz c' BV BU yL=>?_⟩
 show aJ _ A (load s.heap.objs.size>>=_) _ _ s';refine ag (du BU ?_);refine ak (hQ s' acz (λb o e=>BV.heap b o (λhb=>?_) (Fd b o (bC (a_ e)) (Fb b o (N9 b o e)))) BV.gens BV.drawn BV.os yL);have hl:=a_ e;simp only[aL,bA,or_false]at hb;rcases hb with h|h
 ·exact absurd hl (h▸cb _)
 ·rw[h,E9]at hl;exact absurd hl (ka.mpr (fL _))
theorem TF{kvs:List (Int×Value)}(h:ItemsOf (λi v=>∃k x,kvs[i]?=some (k,x)/\(cf prog w).is k v=true) acc kvs.length):d6 acc.toList (kvs.map (λO=>O.1)):=by
 have hs:=h.1;have hp:=h.2;obtain⟨l⟩:=acc;have key:∀(l:List Value) (kvs:List (Int×Value)),l.length=kvs.length->(∀(j:Nat) (v:Value),l[j]?=some v->∃k x,kvs[j]?=some (k,x)/\(cf prog w).is k v=true)->d6 l (kvs.map (λO=>O.1)):=by
  intro l;induction l with
  |nil=>intro kvs hl _;cases kvs with|nil=>exact .nil|cons _ _=>cases hl
  |cons v l ih=>
   intro kvs hl hv;cases kvs with
   |nil=>cases hl
   |cons kv kvs=>obtain⟨k,x,e,hk⟩:=hv 0 v rfl;simp only[js,aE.injEq]at e;subst e;obtain⟨t,rfl⟩:=Value.isInt_shape hk;exact .cons k t (ih kvs (by simpa using hl) λj v hj=>hv (j+1) v (hj))
 exact key l kvs hs λ(j:Nat) (v:Value) hj=>hp j v (by simpa using hj)
theorem Qb{d:aA}(hh:A.handled=none)(o_:(d==eA)=false)(hm:s.heap.DictOf (cf prog w) d kvs)(J:kvs.length<=900000)(v9:kvs.length<64\/(kvs.map (λO=>O.1)).Pairwise (λO O'=>O<=O'))
  (hQ:∀h' t l us rm,(∀b o,s.heap.get? b=some o->h'.get? b=some o)->s.heap.get? l=none->(∃e,h'.get? l=some (fZ "list" us e))->d6 us.toList rm->rm.Perm (kvs.map (λO=>O.1))->rm.Pairwise (λO O'=>O<=O')->Q (.ref l) {s with heap:=h',toks:=t}):
  aJ (aX prog w) A (aF (.builtin "sorted") [.ref d]) Q E s:=by
 refine Calls.call_function_entry kind_sorted plain_sorted entry_sorted (args_sorted1 _) ?_;refine ag (m:=checkCount "sorted" 1 1 _) (ak ?_);refine ag (PJ (A:=A.in1) hh o_ hm J λs' acc k g1 g2 g3 yL=>?_);have hI:=TF yL;refine ag (mr ?_);have BW:(s'.heap.push (fZ "list" acc.toList.toArray 0)).get? s'.heap.objs.size=some (fZ "list" acc.toList.toArray 0):=bb.get?_push_size _ rfl;refine ag (bN (eU slot_list_sort ⟨_,BW,rfl⟩ entry_list_sort (Ph (s:={s' with heap:=s'.heap.push (fZ "list" acc.toList.toArray 0)}) BW hI ?_ ?_ λout rm a1 a2 a3=>⟨_,rfl,?_⟩) (args_list_sort _)))
 ·rw[jP,yL.1];exact v9
 ·rw[jP,yL.1];exact J
 obtain⟨oo,gn,dr,tk,os⟩:=s';obtain⟨hp,gn0,dr0,tk0,os0⟩:=s;dsimp only at g1 g2 g3 k BW ⊢;subst g1 g2 g3;have hsz:(oo.push (fZ "list" acc.toList.toArray 0)).objs.size=oo.objs.size+1:=size_push' _ _;refine ak ⟨_,rfl,hQ _ tk oo.objs.size out rm (λb o e=>?_) ?_ ?_ a1 a2 a3⟩
 ·have e1:=k b o e;have hb:=a_ e1;rw[sortedHeap_old (bC hb) (by rw[hsz];exact c_ hb)];exact ay _ e1
 ·cases q:hp.get? oo.objs.size with
  |none=>rfl
  |some o=>exact absurd (a_ (k _ _ q)) (cb _)
 ·exact sortedHeap_at BW
end
end
section
variable {c:Cx}{σ:Sg}{d:Nat}{E:Ex}
noncomputable def oG(l:List Int):List Int:=l.mergeSort λa b=>decide (a<=b)
theorem rU(l:List Int):(oG l).Perm l:=List.mergeSort_perm _ _
theorem HR(l:List Int):(oG l).Pairwise (λO O'=>O<=O'):=by have:=List.pairwise_mergeSort (le:=λa b:Int=>decide (a<=b)) (λa b c h1 h2=>by simp at *;exact NG h1 h2) (λa b=>by simp;exact o51) l;exact this.imp λh=>by simpa using h
theorem HS(hp:a.Perm b)(ha:a.Pairwise (λO O'=>O<=O')):a=oG b:=
 (hp.trans (rU b).symm).eq_of_pairwise (λx y O O h1 h2=>lj h1 h2) ha (HR b)
theorem wB(l:List Int):(oG l).length=l.length:=(rU l).length_eq
theorem I9(h:l.Pairwise (λO O'=>O<=O')):oG l=l:=(HS (.refl _) h).symm
theorem St.EB{lo as xs vs}{s:ai}(S:St c ⟨lo,as⟩ xs vs s){y:mH}{o:Obj}{l:aA}{h':bb}{tk:Nat}{xs' vs'}(hk:∀b o,s.heap.get? b=some o->h'.get? b=some o)(J:s.heap.get? l=none)(hl:h'.get? l=some o)
  (k:∀fz,mL fz xs vs->Cl c.w.params fz y [(l,o)]/\mL fz xs' vs'):St c ⟨lo,y::as⟩ xs' vs' {s with heap:=h',toks:=tk}:=by
 refine cps λV V'=>?_;refine S.elim λg₁ w9=>w9.elim λhg w9=>w9.elim λm w9=>w9.elim λown w9=>w9.elim λfz I=>?_;refine V' ?_;refine⟨g₁,hg,I.grow ⟨I.F.ns.at' λo q=>hk _ o q,λb o q=>hk b o (I.F.keep b o q),I.F.above⟩ (λp hp=>?_) (by simp) (λp hp q hq e=>?_) (k fz I.st).1 (k fz I.st).2⟩
 ·rcases aH.mp hp with hp|hp
  ·simp only[ao]at hp;subst hp;refine⟨hl,λq=>?_,?_⟩
   ·refine I.F.ns.elim λoL w9=>w9.elim λO w9=>w9.elim λO w9=>w9.elim λhL O=>?_;have q:l=c.L:=q;rw[<-q,J]at hL;cases hL
   ·cases q:g₁.get? l with
    |none=>rfl
    |some o'=>have:=I.F.keep _ _ q;rw[J]at this;cases this
  ·have z:=I.N p hp;exact⟨hk _ _ z.1,z.2⟩
 ·simp only[ao]at hp;subst hp;have z:=(I.N q hq).1;have e:l=q.1:=e;rw[<-e,J]at z;cases z
theorem EC{vs:List Value}(h:d6 vs ns):mL fz (ns.map .int) vs:=h.rec (motive:=λvs ns _=>mL fz (ns.map .int) vs) .nil λn t {O O'} O ih=>.cons (.int n t) ih
theorem nS.keys{f kvs}(h:nS fz f kvs):kvs.map (λO=>O.1)=f.map (λO=>O.1):=h.rec (motive:=λf kvs _=>kvs.map (λO=>O.1)=f.map (λO=>O.1)) rfl λ_ _ ih=>congrArg (List.cons _) ih
theorem St.U6{xs vs s}{a:aA}{f:List (Int×AV)}{fr:List mH}(S:St c (σ.on fr) xs vs s)(hm:.mO a f∈σ.as):∃kvs fz,(a==eA)=false/\s.heap.DictOf (cf PW c.w) a kvs/\nS fz f kvs/\(kvs.map (λO=>O.1)).Nodup:=by refine cps λV V'=>?_;obtain⟨g₁,m,fz,cl,hg,F,K,gt,_⟩:=S.at (Rep.refl (ax fr hm));obtain⟨kvs,ob,hi,hd,o_⟩:=K;have:=hd PW c.w;refine this.elim λO w9=>w9.elim λO w9=>w9.elim λO w9=>w9.elim λO w9=>w9.elim λO w9=>w9.elim λO pK=>?_;refine V' ?_;exact⟨kvs,fz,o_,bb.dictOf_iff.mpr ⟨ob,gt _ (.head _),hd _ _⟩,hi,pK⟩
theorem Op.Af{lo as}{a:aA}{f:List (Int×AV)}{Q:AV->Sg->Prop}(ok:Ok c d)(hm:.mO a f∈as)(hz:f.length<=900000)(v9:f.length<64\/(f.map (λO=>O.1)).Pairwise (λO O'=>O<=O'))(q:∀l,Q (.ref l) ⟨lo,.lst l ((oG (f.map (λO=>O.1))).map .int)::as⟩):
  Op c E ⟨lo,as⟩ [.ref a] (λus=>aF (.builtin "sorted") us) Q:=by
 intro fr xs vs us s S hl;refine cps λV V'=>?_;obtain⟨u⟩:=q8 hl;refine S.of.elim λfz o=>?_;obtain rfl:=o.mV;refine(S.U6 hm).elim λkvs w9=>w9.elim λm5 w9=>w9.elim λo_ w9=>w9.elim λhd w9=>w9.elim λhi pK=>?_;refine V' ?_;refine W.of (Qb (qh ok) o_ hd (by rw[hi.len];exact hz) (by rw[hi.len,hi.keys];exact v9) λh' t l us rm hk J he hI hp hs=>?_);refine he.elim λe he=>?_;have:rm=oG (f.map (λO=>O.1)):=by rw[<-hi.keys];exact HS hp hs
 subst this;refine⟨.ref l,⟨lo,.lst l ((oG (f.map (λO=>O.1))).map .int)::as⟩,?_,q l⟩;refine S.pop.EB (y:=.lst l ((oG (f.map (λO=>O.1))).map .int)) hk J he λfz o=>⟨?_,.cons (.ref _) o⟩
 simpa using (.lst (EC hI))
noncomputable abbrev pP(l:aA)(i:Nat):Obj->Prop:=λo=>o.cls=.type "list_iterator"/\o.data=.fields #[.ref l,.int i 0]
theorem oE.list{lo as}{l:aA}{ys:List AV}(hm:.lst l ys∈as):∀{P:AV->Sg->Prop},(∀it,P (.ref it) ⟨lo,.is it (pP l 0)::as⟩)->oE c ⟨lo,as⟩ (.ref l) P:=by intro P hP;intro E fr xs vs v s Q S k;refine S.of.elim λfz o=>?_;obtain rfl:=o.mV;refine(S.DY hm).elim λus w9=>w9.elim λm5 w9=>w9.elim λhL hO=>?_;refine fU hL (k (.ref s.heap.objs.size) ⟨lo,.is s.heap.objs.size (pP l 0)::as⟩ _ _ (hP _) ?_);exact S.alloc (o:={cls:=.type "list_iterator",data:=.fields #[.ref l,.int 0 0]}) (tk:=s.toks) rfl λfz o=>⟨.is ⟨rfl,rfl⟩,.cons (.ref _) o⟩
theorem St.C2{xs vs s}{a:aA}{l:List AV}{y:AV}{i:Nat}{fr:List mH}(S:St c (σ.on fr) xs vs s)(hm:.lst a l∈σ.as)(hy:l[i]?=some y):∃us u,s.heap.IsList a us/\us[i]?=some u/\St c (σ.on fr) (y::xs) (u::vs) s:=by refine cps λV V'=>?_;obtain⟨g₁,m,fz,cl,hg,F,K,gt,mI,nd,nw,_,back⟩:=S.at (Rep.refl (ax fr hm));obtain⟨us,n,ho⟩:=K;refine(ho.get i y hy).elim λu w9=>w9.elim λhu ou=>?_;refine V' ?_;exact⟨us.toArray,u,⟨_,gt _ (.head _),rfl,_,rfl⟩,by simpa using hu,back s _ _ _ (.lst ho) rfl gt (λO O O q=>q) ⟨rfl,rfl,rfl⟩ (.cons ou mI)⟩
theorem Iter.list{lo as as'}{l it:aA}{ys:List AV}{i:Nat}{y:AV}(hm:.lst l ys∈as)(R:Rep (.is it (pP l i)) (.is it (pP l (i+1))) as as')(hx:ys[i]?=some y):Iter c ⟨lo,as⟩ (.ref it) (some y) ⟨lo,as'⟩:=by
 intro E fr xs vs v s Q S k;refine cps λV V'=>?_;refine S.of.elim λfz o=>?_;obtain rfl:=o.mV;refine(S.C2 hm hx).elim λus w9=>w9.elim λu w9=>w9.elim λhL w9=>w9.elim λhu S1=>?_;obtain⟨g₁,m,fz,cl,hg,F,K,gt,mI,nd,nw,_,back⟩:=S1.at (R.on fr);obtain⟨ob,hp⟩:=K;refine V' ?_;refine gm ⟨ob,gt _ (.head _),hp⟩ hL hu λh' hit hs=>k _ _ ?_;refine hit.elim λv8 w9=>w9.elim λg' oo=>?_;refine back _ [(it,v8)] _ _ (.is oo) rfl (λp hp=>?_) (λq hq o e=>?_) ⟨rfl,rfl,rfl⟩ mI
 ·simp only[ao]at hp;subst hp;exact g'
 ·exact(hs.2 q (λe=>hq (by simp[e]))).trans e
theorem Iter.wJ{lo as as'}{l it:aA}{ys:List AV}{i:Nat}(ok:Ok c d)(hm:.lst l ys∈as)(R:nt (.is it (pP l i)) as as')(hx:ys[i]?=none):Iter c ⟨lo,as⟩ (.ref it) none ⟨lo,as'⟩:=by intro E fr xs vs v s Q S k;refine cps λV V'=>?_;refine S.of.elim λfz o=>?_;obtain rfl:=o.mV;refine(S.DY hm).elim λus w9=>w9.elim λm5 w9=>w9.elim λhL hO=>?_;obtain⟨cl,fz,K,gt,back⟩:=S.forget (R.on fr);obtain⟨ob,hp⟩:=K;refine V' ?_;refine gA (qh ok) ⟨ob,gt _ (.head _),hp⟩ hL ?_ λh' he=>k _ (back _ (λq hq o e=>he q o (λe=>hq (by simp[e])) e) ⟨rfl,rfl,rfl⟩);have:=hO.length;simp only[d7]at hx ⊢;simp;exact o50 this hx
end
section
section
variable {nd:Bool}{M:Model}{A:Around}{E:Value->ai->Prop}{s:ai}{env:Env}
noncomputable def Ds(nd:Bool)(M:Model)(A:Around)(E:Value->ai->Prop)(use:Option (Value->fH Unit))(Q:Value->ai->Prop)(acc:Value)(C:aA)(r:gv)(s':ai):Prop:=
 match r,use with
 |.ok _,none=>∃m,s'.heap.Ns C m/\∀h',bb.SameBut C s'.heap h'->Q acc {s' with heap:=h'}
 |.ok _,some u=>aJ M A (u acc) (λO ph=>∃m,ph.heap.Ns C m/\∀h',bb.SameBut C ph.heap h'->Q .none {ph with heap:=h'}) E s'
 |.error _,_=>False
theorem W.comp
  (nj:clausesOf e=g::gs)(hs:∀x,bJ g.iter env x=bQ x)(U7:dP scope env=bQ cl)
  (wY:scope.kind=.function)(Uw:∀x∈scope.names,x.2=.local->scope.names.lookup x.1=some .local)
  (h:W nd M A first (λx mN=>aJ M A (i9 x) (λit m8=>aJ M A Kw (λacc nK=>
   aJ M A (l_ scope env.globals cl [] env.qual none .none (some env)) (λcenv uC=>
    WC nd M A (.compStart e 0 it acc {cenv with scope:=j6 scope env}) (Ds nd M A E use Q acc cenv.locals) uC) E nK) E m8) E mN) E s):
  W nd M A (eY e scope env pos Kw false first use) Q E s:=by
 unfold eY;rw[U7,nj];refine h.then λx mN m4=>.at_ (.step (bV (hs x) (.step (bN (aY m4 (λit m8 w6=>?_) λO O y=>y)))));have key:W nd M A (do
   let acc <-Kw
   let cenv <-l_ scope env.globals (<-bQ cl) [] env.qual none .none (some env)
   let own (n:Str) (k:NameKind):=k==.free&&env.scope.kind==.function&&env.kindOf n==some .cell
   let cenv:={cenv with scope:={scope with names:=scope.names.map λ(n,k)=>if own n k then(n,.cell)else(n,k)}}
   let vars:=scope.names.filter λ(n,k)=>(k==.local||k==.cell)&&n !=(".0":Str)
   let cellOf? (n:Str):List Value:=((cenv.cells.lookup n).map di).toList
   let cellsOf (vs:List (Str×NameKind)):List Value:=vs.flatMap λ(n,k)=>if k==.cell then cellOf? n else[]
   cE [.ref cenv.locals] do
    match <-(cE (acc::cellsOf vars) (run (.compStart e 0 it acc cenv))).attempt,use with
    |.ok _,none=>cE [acc] (eY.letGo cenv cellsOf vars.reverse);bQ acc
    |.ok _,some u=>
     rule "comprehension.stores-exchanged"
     cE (cellsOf vars) (u acc)
     eY.letGo cenv cellsOf (vars.reverse.drop 1++vars.reverse.take 1)
     bQ .none
    |.error x,_=>cE [x] (eY.letGo cenv cellsOf vars.reverse);passOn "comprehension.variables-let-go" x cenv) Q E m8:=by
  refine .step (aY w6 (λacc nK w5=>.step (ak (.step (aY w5 (λcenv uC ED=>?_) λO O y=>y)))) λO O y=>y);dsimp only;have hv:∀x∈(scope.names.filter λx=>(x.2==.local||x.2==.cell)&&x.1 !=(".0":Str)).reverse,x.2=.local->
    Env.kindOf {cenv with scope:=j6 scope env} x.1=some .local:=λx hx hl=>lookup_relabel_local (Uw x (List.mem_filter.mp (dm.mp hx)).1 hl)
  have hv':∀x∈(scope.names.filter λx=>(x.2==.local||x.2==.cell)&&x.1 !=(".0":Str)).reverse.drop 1++(scope.names.filter λx=>(x.2==.local||x.2==.cell)&&x.1 !=(".0":Str)).reverse.take 1,
    x.2=.local->Env.kindOf {cenv with scope:=j6 scope env} x.1=some .local:=λx hx hl=>by
   refine(aH.mp hx).elim (λh1=>?_) λh1=>?_
   ·exact hv x (List.mem_of_mem_drop h1) hl
   ·exact hv x (eQ h1) hl
  refine .hold (.bind (.attempt (.hold (.runC (h:=none) (ED.mono λr s' hr=>?_) (by intro q;cases q)))));cases r with
  |error x=>cases use<;>exact hr.elim
  |ok f=>
   cases use with
   |none=>refine hr.elim λm w9=>w9.elim λJ hr=>?_;exact .step (bN (lR (cenv:={cenv with scope:=j6 scope env}) wY _ s' m hv J λh' m' O vY=>.pure (hr h' vY)))
   |some u=>refine .step (d_ (.step (bN (aY hr (λO ph Fe=>?_) λO O y=>y))));refine Fe.elim λm w9=>w9.elim λJ Fe=>?_;exact .step (lR (cenv:={cenv with scope:=j6 scope env}) wY _ ph m hv' J λh' m' O vY=>.pure (Fe h' vY))
 split
 ·exact .at_ key
 ·exact key
end
section
variable {nd:Bool}{prog:Program}{w:cL}{A:Around}{E:Value->ai->Prop}{R:gv->ai->Prop}{s:ai}
theorem WC.compStart{elt target iter ifs rest scope pos it acc env}
  (h0:WC nd (aX prog w) A (.compLoop (.ListComp elt (⟨target,iter,ifs,0⟩::rest) scope pos) 0 it acc env) R s)
  (h:aJ (aX prog w) A (i9 it) (λFf s'=>WC nd (aX prog w) A (.compLoop (.ListComp elt (⟨target,iter,ifs,0⟩::rest) scope pos) 0 Ff acc env) R s') (λO O=>False) s):
  WC nd (aX prog w) A (.compStart (.ListComp elt (⟨target,iter,ifs,0⟩::rest) scope pos) 0 it acc env) R s:=by
 refine .tree rfl ?_;show W nd _ _ ((PySem.compStart (.ListComp elt (⟨target,iter,ifs,0⟩::rest) scope pos) 0 it acc env).onRaise (λx=>do dg x env;dN theWindowsPlace)) _ _ s;refine .onRaise ?_;show W nd _ _ (ask>>=_) _ _ s;refine .step (lS ?_);split
 ·first
   |exact .step (ak (.pure (gz rfl h0)))
   |exact .pure (gz rfl h0)
 ·first
   |exact .step (d_ (.step (hJ (.step (aY h (λFf s' h'=>.pure (gz rfl h')) λO O x=>x.elim)))))
   |(refine .step (d_ ?_);show W nd _ _ (dN iter.pos>>=_) _ _ s;exact .step (hJ (.step (aY h (λFf s' h'=>.pure (gz rfl h')) λO O x=>x.elim))))
noncomputable abbrev C3(ifs:List cI)(env:Env):fH Bool:=forIn ifs true λc r=>if r=true then do let ok <-cY c env (aT c env);bQ (gX ok)else bQ (gX r)
theorem WC.compLoop(I:Nat->ai->Prop)
  (turn:∀n s,I n s->aJ (aX prog w) A (lu it) (λr mN=>match r with
   |none=>R (.ok .next) mN
   |some v=>aJ (aX prog w) A (cP target it v) (λO mN=>aJ (aX prog w) A (gP target env v) (λO m8=>
     W nd (aX prog w) A (C3 ifs env) (λok nK=>
      if ok=true then W nd (aX prog w) A (aT elt env) (λx uC=>
       aJ (aX prog w) A (mh (.builtin "list.append") [acc,x]) (λO Bs=>∃m,m<n/\I m Bs) (λO O=>False) uC) (λO O=>False) nK
      else∃m,m<n/\I m nK) (λO O=>False) m8) (λO O=>False) mN) (λO O=>False) mN) (λO O=>False) s)
  (n:Nat) (h:I n s):
  WC nd (aX prog w) A (.compLoop (.ListComp elt [⟨target,iter,ifs,0⟩] scope pos) 0 it acc env) R s:=by
 refine .loop rfl rfl I (λn s hI=>?_) n h;show W nd _ A ((compTurn (.ListComp elt [⟨target,iter,ifs,0⟩] scope pos) 0 it acc env).onRaise (λx=>do dg x env;fm x)) _ _ s;refine .onRaise ?_;rw[compTurn_list];refine .at_ (.step (aY (turn n s hI) (λr mN m4=>?_) λO O h'=>h'.elim));cases r with
 |none=>exact .pure m4
 |some v=>
  refine .step (aY m4 (λO mN m4=>?_) λO O h'=>h'.elim);refine .step (aY m4 (λO m8 w6=>.bind (w6.mono (λok nK w5=>?_) λO O h'=>h'.elim)) λO O h'=>h'.elim);cases ok with
  |false=>exact .pure (.inl ⟨rfl,w5⟩)
  |true=>exact .bind (.bind (w5.mono (λx uC ED=>.step (aY ED (λO Bs acA=>.pure (.pure (.inl ⟨rfl,acA⟩))) λO O h'=>h'.elim)) λO O h'=>h'.elim))
end
end
section
variable {c:Cx}{σ:Sg}{d:Nat}{E:Ex}{ε:Env}{ns:List Str}
noncomputable abbrev Cx.cmp(c:Cx)(sc:Scope)(cl:List (Str×aA))(C:aA):Cx:={c with env:=dT sc cl C c.env,cm:=true}
theorem St.cmp{sc cl C xs vs s}(S:St c σ xs vs s):St (c.cmp sc cl C) σ xs vs s:=
 by obtain⟨g,hg,m,own,fz,I⟩:=S;exact⟨g,hg,m,own,fz,I.F,I.lo,I.N,I.nd,I.sat,I.st,I.same⟩
theorem St.Lq{sc cl C xs vs s}(S:St (c.cmp sc cl C) σ xs vs s):St c σ xs vs s:=
 by obtain⟨g,hg,m,own,fz,I⟩:=S;exact⟨g,hg,m,own,fz,I.F,I.lo,I.N,I.nd,I.sat,I.st,I.same⟩
theorem Ok.cmp{sc cl C}(ok:Ok c d)(hk:sc.kind=.function):Ok (c.cmp sc cl C) d where
 Xb:=ok.Xb
 Gb:=ok.Gb
 uQ:=ok.uQ
 B:=ok.B
 hh:=ok.hh
 lc h:=nomatch h
 ee h:=nomatch h
 fr:=ok.fr
 kf:=ok.kf
 kd:=hk
 gl:=ok.gl
 bl:=ok.bl
 nd:=ok.nd
 loc h:=nomatch h
 dep:=ok.dep
 un:=ok.un
@[irreducible] def pn(c:Cx)(σ:Sg)(it:AV):Prop:=
 ∀E fr xs vs v s (Q:Value->ai->Prop),St c (σ.on fr) (it::xs) (v::vs) s->(∀s',St c (σ.on fr) (it::xs) (v::vs) s'->Q v s')->aJ c.M c.A (i9 v) Q E s
theorem pn.go(self:pn c σ it):∀E fr xs vs v s (Q:Value->ai->Prop),St c (σ.on fr) (it::xs) (v::vs) s->(∀s',St c (σ.on fr) (it::xs) (v::vs) s'->Q v s')->aJ c.M c.A (i9 v) Q E s:=by with_unfolding_all exact self
theorem pn.list(hm:.is it (pP l i)∈σ.as):pn c σ (.ref it):=by intro E fr xs vs v s Q S k;refine S.of.elim λfz o=>?_;obtain rfl:=o.mV;obtain⟨g₁,m,fz,cl,hg,F,K,gt,mI,nd,nw,_,back⟩:=S.at (Rep.refl (ax fr hm));obtain⟨ob,hp⟩:=K;exact wpAny_pyIter_listiter ⟨ob,gt _ (.head _),hp⟩ (k s S)
@[irreducible] def Lets(c:Cx)(σ:Sg)(tg:cI)(it y:AV):Prop:=
 ∀E fr xs vs u v s (Q:Unit->ai->Prop),St c (σ.on fr) (y::it::xs) (u::v::vs) s->Q () s->aJ c.M c.A (cP tg v u) Q E s
theorem Lets.go(self:Lets c σ tg it y):∀E fr xs vs u v s (Q:Unit->ai->Prop),St c (σ.on fr) (y::it::xs) (u::v::vs) s->Q () s->aJ c.M c.A (cP tg v u) Q E s:=by with_unfolding_all exact self
theorem Lets.name:Lets c σ (.Name x p) it y:=by intro E fr xs vs u v s Q S k;exact ak k
set_option tactic.hygienic true in
theorem HT{E:Value->ai->Prop}{pos:iA}{v u:Value}{r:aA}{o:Obj}{Q:Unit->ai->Prop}(hv:v=.ref r)(ho:s.heap.get? r=some o)(hc:o.cls=.type "list_iterator")(k:Q () s):aJ M A (cP (.Tuple es n pos) v u) Q E s:=by
 subst hv
 cases u<;>first|exact ak k|skip
 refine ag (du ho ?_)
 rw[hc]
 generalize o.data=dt
 cases dt<;>exact ak k
theorem Lets.own(hm:.is it (pP l i)∈σ.as):Lets c σ (.Tuple es n pos) (.ref it) y:=by intro E fr xs vs u v s Q S k;refine cps λV V'=>?_;obtain⟨fz,o1,o2⟩:=S.two;obtain rfl:=o1.mV;obtain⟨g₁,m,fz,cl,hg,F,K,gt,mI,nd,nw,_,back⟩:=S.at (Rep.refl (ax fr hm));obtain⟨ob,hp⟩:=K;refine V' ?_;exact HT rfl (gt _ (.head _)) hp.1 k
theorem Lets.ng(hm:.fit it l i∈σ.as):Lets c σ (.Tuple es n pos) (.ref it) y:=by intro E fr xs vs u v s Q S k;refine cps λV V'=>?_;obtain⟨fz,o1,o2⟩:=S.two;obtain rfl:=o1.mV;obtain⟨g₁,m,fz,cl,hg,F,K,gt,mI,nd,nw,_,back⟩:=S.at (Rep.refl (ax fr hm));obtain⟨_,_,hc,_,_⟩:=K;refine V' ?_;exact HT rfl (gt _ (.head _)) hc k
@[irreducible] def uV(c:Cx)(σ:Sg)(ifs:List cI)(b:Bool):Prop:=
 ∀E fr xs vs s (Q:Bool->ai->Prop),St c (σ.on fr) xs vs s->(∀s',St c (σ.on fr) xs vs s'->Q b s')->W c.nd c.M c.A (C3 ifs c.env) Q E s
theorem uV.go(self:uV c σ ifs b):∀E fr xs vs s (Q:Bool->ai->Prop),St c (σ.on fr) xs vs s->(∀s',St c (σ.on fr) xs vs s'->Q b s')->W c.nd c.M c.A (C3 ifs c.env) Q E s:=by with_unfolding_all exact self
theorem uV.nil:uV c σ [] true:=by intro E fr xs vs s Q S k;exact W.pure (k s S)
theorem uV.one(h:Tr c σ e b):uV c σ [e] b:=by intro E fr xs vs s Q S k;exact .bind (.bind (h.go E fr xs vs s _ S λs' S'=>.pure (.pure (k s' S'))))
noncomputable def r4(sc:Scope):Bool:=(sc.kind==.function)&&sc.names.all λx=>x.2 !=.cell&&(x.2 !=.local||sc.names.lookup x.1==some .local)
inductive Ux(D:aA)(I:Nat->Sg->Prop)(n:Nat)(v:AV)(σ:Sg):Prop
 |mk (zs as') (R:Rep (.lst D zs) (.lst D (zs++[v])) σ.as as') (z:zs.length<=900000) (l:Bu I n ⟨σ.lo,as'⟩)
inductive Uy(c:Cx)(sc:Scope)(cl:List (Str×aA))(tg elt:cI)(ifs:List cI)(I:Nat->Sg->Prop)(n:Nat)(D C:aA)(it y:AV)(mM:Sg):Prop
 |mk (b mT) (l:Lets c mM tg it y) (t:qo (c.cmp sc cl C) mM tg y mT) (i:uV (c.cmp sc cl C) mT ifs b) (k:match(generalizing:=false) b with
   |true=>WE (c.cmp sc cl C) qp mT (aT elt (dT sc cl C c.env)) (Ux D I n)
   |false=>Bu I n mT)
inductive TG(C:aA)(K:Sg->Prop)(σ:Sg):Prop
 |mk (f as') (d:nt (.nf C f) σ.as as') (k:K ⟨σ.lo,as'⟩)
inductive wK(c:Cx)(sc:Scope)(cl:List (Str×aA))(tg elt:cI)(ifs:List cI)(I:Nat->Sg->Prop)(K:Sg->Prop)(n:Nat)(D C:aA)(it:AV)(σ:Sg):Prop
 |mk (r mM) (h:Iter c σ it r mM) (k:match(generalizing:=false) r with
  |none=>TG C K mM
  |some y=>Uy c sc cl tg elt ifs I n D C it y mM)
theorem JR{X:Value->ai->Prop}{K:aA->Sg->Prop}(ok:Ok c d)(I:Nat->aA->aA->AV->Sg->Prop)(n:Nat){fr xs vs s}(S:St c (σ.on fr) xs vs s)
  (nj:dP sc c.env=pure cl)(pj:r4 sc=true)
  (h:WE c E σ (aT iter c.env) λx mM=>oE c mM x λit mT=>∀D C,pn c ⟨mT.lo,.nf C []::.lst D []::mT.as⟩ it/\I n D C it ⟨mT.lo,.nf C []::.lst D []::mT.as⟩)
  (turn:∀n D C it σ,I n D C it σ->wK c sc cl tg elt ifs (λn σ=>I n D C it σ) (K D) n D C it σ)
  (fin:∀D mM C f s,St c (Sg.on ⟨mM.lo,.nf C f::mM.as⟩ fr) xs vs s->K D mM->Ds c.nd c.M c.A (E.go fr xs vs) use X (.ref D) C (.ok .next) s)
  (hs:autoParam (∀x,bJ iter c.env x=pure x) aI):
  W c.nd c.M c.A (eY (.ListComp elt [⟨tg,iter,ifs,0⟩] sc pos) sc c.env (firstIterPos [⟨tg,iter,ifs,0⟩] pos) (newList []) false (aT iter c.env) use) X (E.go fr xs vs) s:=by
 simp only[r4,b5,beq_iff_eq,cy,iH,bne_iff_ne]at pj;have hk:=pj.1;have DU:∀x∈sc.names,x.2≠.cell:=λx hx=>(pj.2 x hx).1;have hnm:∀x∈sc.names,x.2=.local->sc.names.lookup x.1=some .local:=λx hx e=>by
  rcases(pj.2 x hx).2 with h|h
  ·exact absurd e h
  ·simpa using h
 refine W.comp rfl hs nj hk hnm (h.run S λx mM v s1 q S1=>?_);refine q.go _ fr xs vs v s1 _ S1 λit mT u s2 hI S2=>?_;refine cH (hd:=by size_fits) ?_;have S3:St c (Sg.on ⟨mT.lo,.lst s2.heap.objs.size []::mT.as⟩ fr) (it::x::xs) (u::v::vs) {s2 with heap:=s2.heap.push {cls:=.type "list",dict:=none,data:=.seq ([]:List Value).toArray}}:=
  S2.alloc (y:=.lst s2.heap.objs.size []) (tk:=s2.toks) rfl λfz o=>⟨.lst .nil,o⟩
 refine kH DU (by intro y hy;simp at hy) (λm4 Dt Du=>?_) hk;generalize hD:s2.heap.objs.size=D at S3 ⊢;generalize hH:s2.heap.push {cls:=.type "list",dict:=none,data:=.seq ([]:List Value).toArray}=H at S3 Dt Du ⊢;generalize hC:H.objs.size=C at Dt Du ⊢;refine cps λV V'=>?_;refine Dt.elim λoC w9=>w9.elim λes w9=>w9.elim λep w9=>w9.elim λgC w9=>w9.elim λdC w9=>w9.elim λkC fC=>?_;refine V' ?_;have S4:St c (Sg.on ⟨mT.lo,.nf C []::.lst D []::mT.as⟩ fr) (it::x::xs) (u::v::vs) {s2 with heap:=m4,toks:=s2.toks+([]:List (Str×Value)).length}:=by
  refine S3.EB (y:=.nf C []) (o:=oC) (l:=C) (h':=m4) (λb o q=>?_) ?_ gC λfz o=>⟨.nf ⟨es,ep,dC,kC,fC⟩ .nil,o⟩
  ·exact Du.extBut b o (by rw[<-hC];exact bC (a_ q)) (ay _ q)
  ·cases q:H.get? C with
   |none=>rfl
   |some o'=>exact absurd (a_ q) (by rw[hC];exact cb _)
 obtain⟨U8,hI⟩:=hI D C;have loop:∀s,St c (Sg.on ⟨mT.lo,.nf C []::.lst D []::mT.as⟩ fr) (it::x::xs) (u::v::vs) s->WC c.nd c.M c.A (.compLoop (.ListComp elt [⟨tg,iter,ifs,0⟩] sc pos) 0 u (.ref D) (dT sc cl C c.env)) (Ds c.nd c.M c.A (E.go fr xs vs) use X (.ref D) C) s:=by
  intro s S;refine WC.compLoop (λn s=>∃σ,I n D C it σ/\St c (σ.on fr) (it::x::xs) (u::v::vs) s) ?_ n ⟨_,hI,S⟩;rintro n s ⟨σ,hI,S⟩;obtain⟨r,mM,hr,k⟩:=turn n D C it σ hI;refine hr.go _ fr _ _ u s _ S ?_;cases r with
  |none=>
   intro s' S';obtain⟨f,as',R,q⟩:=k;refine fin D ⟨mM.lo,as'⟩ C f s' ?_ q;refine cps λV V'=>?_;refine S'.pop.pop.elim λg w9=>w9.elim λhg w9=>w9.elim λm w9=>w9.elim λown w9=>w9.elim λfz I=>?_;refine V' ?_;obtain⟨pre,xu,post,k,r⟩:=I.sat.del (R.on fr);refine⟨g,hg,m,xu++(pre++post),fz,I.F,I.lo,λp hp=>I.N p ?_,?_,.cons k (r fz λO h=>h),I.st,I.same⟩
   ·simp only[aH]at hp ⊢;rcases hp with(h|h|h)|h
    ·exact .inl (.inr (.inl h))
    ·exact .inl (.inl h)
    ·exact .inl (.inr (.inr h))
    ·exact .inr h
   ·refine bX.nodup ?_ I.nd;simp only[au];refine bX.append_right _ ?_;rw[<-aj,<-aj];exact bX.append_right _ bw
  |some y=>
   obtain⟨b,q_,mY,ht,hb,w⟩:=k;intro u2 s' S';refine mY.go _ fr _ _ u2 u s' _ S' ?_;refine ht.go _ fr _ _ u2 s' _ S'.cmp λs2 S2=>?_;refine hb.go _ fr _ _ s2 _ S2 λs3 S3=>?_;cases b with
   |false=>obtain⟨m,hm,hI⟩:=w;exact⟨m,hm,q_,hI,S3.Lq⟩
   |true=>
    refine(w.go fr _ _ s3 S3).mono ?_ λO O q=>q;rintro v4 s4 ⟨av,σ4,S4,zs,as',R,hz,m,hm,hI⟩;have S4:=S4.Lq;obtain⟨g₁,m',fz,xu,hg,F,Kx,gt,mI,nd,nw,_,back⟩:=S4.at (R.on fr);have o1:=mI.hd;replace mI:=mI.tl;obtain⟨ws,n',ho⟩:=Kx;refine append_at (gt _ (.head _)) (λh' hs hg=>⟨m,hm,⟨σ4.lo,as'⟩,hI,?_⟩) (by rw[bK,<-ho.length,cz];exact xn hz);refine back _ [(D,⟨.type "list",none,.seq (ws++[v4]).toArray (n'+1),#[]⟩)] _ _ (.lst (ho.append (.cons o1 .nil))) rfl (λp hp=>?_) (λb hb o e=>?_) ⟨rfl,rfl,rfl⟩ mI
    ·simp only[ao]at hp;subst hp;refine hg.trans ?_;simp
    ·exact(hs.2 b (λe=>hb (by simp[e]))).trans e
 refine WC.compStart (loop _ S4) (U8.go _ fr _ _ u _ _ S4 λs' S'=>loop s' S')
theorem WE.comp(ok:Ok c d)(I:Nat->aA->aA->AV->Sg->Prop)(n:Nat)
  (nj:dP sc c.env=pure cl)(pj:r4 sc=true)
  (h:WE c E σ (aT iter c.env) λx mM=>oE c mM x λit mT=>∀D C,pn c ⟨mT.lo,.nf C []::.lst D []::mT.as⟩ it/\I n D C it ⟨mT.lo,.nf C []::.lst D []::mT.as⟩)
  (turn:∀n D C it σ,I n D C it σ->wK c sc cl tg elt ifs (λn σ=>I n D C it σ) (Q (.ref D)) n D C it σ)
  (hs:autoParam (∀x,bJ iter c.env x=pure x) aI):
  WE c E σ (aT (.ListComp elt [⟨tg,iter,ifs,0⟩] sc pos) c.env) Q:=by
 intro fr xs vs s S
 refine JR (K:=λD=>Q (.ref D)) ok I n S nj pj h turn (λD mM C f s S q=>?_) hs
 refine cps λV V'=>?_
 obtain⟨xu,fz,K,gt,back⟩:=S.forget (.head)
 refine V' ?_
 refine cps λV V'=>?_
 obtain⟨o,m,hN,_⟩:=K
 refine hN.elim λes w9=>w9.elim λep w9=>w9.elim λe1 w9=>w9.elim λe2 e3=>?_
 refine V' ?_
 refine ⟨m, ⟨o, es, ep, gt _ (.head _), e1, e2, e3⟩, fun h' hb => ⟨.ref D, mM, ?_, q⟩⟩
 exact (back { s with heap := h' } (fun b sx o e => (hb.2 b fun e => sx (by simp [e])).trans e) ⟨rfl, rfl, rfl⟩).push fun O => .ref _
theorem WS.JS{rest:List Stmt}{Q:Out->Sg->Prop}(ok:Ok c d)(he:c.env=ε)(J:Nm c ns)(I:Nat->aA->aA->AV->Sg->Prop)(n:Nat)
  (nj:dP sc c.env=pure cl)(pj:r4 sc=true)
  (h:WE c E σ (aT iter c.env) λx mM=>oE c mM x λit mT=>∀D C,pn c ⟨mT.lo,.nf C []::.lst D []::mT.as⟩ it/\I n D C it ⟨mT.lo,.nf C []::.lst D []::mT.as⟩)
  (turn:∀n D C it σ,I n D C it σ->wK c sc cl tg elt ifs (λn σ=>I n D C it σ) (vl c E ns x rest Q (.ref D)) n D C it σ)
  (hw:autoParam (cn (.ListComp elt [⟨tg,iter,ifs,0⟩] sc pos) (some (.Name x p')) p.line ε=pure true) aR)
  (hs:autoParam (∀x,bJ iter c.env x=pure x) aI):
  WS c E σ (aO (.Assign [.Name x p'] (.ListComp elt [⟨tg,iter,ifs,0⟩] sc pos) p::rest) c.env) Q:=by
 refine .cons ?_
 intro fr xs vs s S
 rw[exec_Assign_Name_used _ _ _ _ (by rw[he];exact hw)]
 refine .at_ ?_
 refine .bind (.bind (JR (K:=λD=>vl c E ns x rest Q (.ref D)) ok I n S nj pj h turn (λD mM C f s S q=>?_) hs))
 obtain⟨m6,P,w⟩:=q
 rw[<-J.eq]at P
 refine cx ((S.push (x:=.ref D) (v:=.ref D) λO=>.ref D).store ok J.cm P λs' S'=>?_)
 refine cps λV V'=>?_
 obtain⟨xu,fz,K,gt,back⟩:=S'.forget (.head)
 refine V' ?_
 refine cps λV V'=>?_
 obtain⟨o,m,hN,_⟩:=K
 refine hN.elim λes w9=>w9.elim λep w9=>w9.elim λe1 w9=>w9.elim λe2 e3=>?_
 refine V' ?_
 refine ⟨m, ⟨o, es, ep, gt _ (.head _), e1, e2, e3⟩, fun h' hb => .pure (.pure ⟨.next, ⟨m6, mM.as⟩, ⟨rfl, ?_⟩, w⟩)⟩
 exact back { s' with heap := h' } (fun b sx o e => (hb.2 b fun e => sx (by simp [e])).trans e) ⟨rfl, rfl, rfl⟩
end
section
variable {c:Cx}{σ:Sg}{d:Nat}{E:Ex}{ε:Env}{ns:List Str}
theorem te.get{f}(h:te fz m f):(x,av)∈f->∃v,m x=some v/\Of fz av v:=
 h.rec (motive:=λf _=>(x,av)∈f->∃v,m x=some v/\Of fz av v) (λq=>nomatch q) λe a O ih q=>(aL.mp q).elim (λq=>by cases q;exact⟨_,e,a⟩) ih
theorem Ev.cv(ok:Ok c d)(he:c.env=ε)(hC:ε.locals=C)(hm:.nf C f∈σ.as)(hf:(x,av)∈f)(hx:autoParam (ε.kindOf x=some .local) aR)(hd:autoParam ((x==("__debug__":Str))=false) aK):Ev c σ (.Name x pos) av:=by subst hC;subst he;intro E fr xs vs s Q S k;refine cps λV V'=>?_;obtain⟨g₁,m,fz,cl,hg,F,K,gt,mI,nd,nw,_,back⟩:=S.at (Rep.refl (ax fr hm));obtain⟨o,m',hN,BX⟩:=K;refine(id hN).elim λes w9=>w9.elim λep w9=>w9.elim λe1 w9=>w9.elim λe2 e3=>?_;refine(BX.get hf).elim λv w9=>w9.elim λhv ho=>?_;refine V' ?_;exact W.of (jC (gL ok.kd hx ⟨o,es,ep,gt _ (.head _),e1,e2,e3⟩ hv (k v s (back s _ _ _ (.nf hN BX) rfl gt (λO O O q=>q) ⟨rfl,rfl,rfl⟩ (.cons ho mI)))) hd)
theorem Ev.ce(ok:Ok c d)(he:c.env=ε)(hm:.nq a av∈σ.as)(hc:autoParam (ε.cells.lookup x=some a) aR)(hx:autoParam (ε.kindOf x=some .cell) aR)(hd:autoParam ((x==("__debug__":Str))=false) aK):Ev c σ (.Name x pos) av:=by subst he;intro E fr xs vs s Q S k;refine cps λV V'=>?_;obtain⟨g₁,m,fz,cl,hg,F,K,gt,mI,nd,nw,_,back⟩:=S.at (Rep.refl (ax fr hm));obtain⟨o,v,rM,ho⟩:=K;refine V' ?_;exact W.of (jC (wpAny_loadName_cell ok.kd hx hc ⟨o,gt _ (.head _),rM⟩ (k v s (back s _ _ _ (.nq rM ho) rfl gt (λO O O q=>q) ⟨rfl,rfl,rfl⟩ (.cons ho mI)))) hd)
theorem St.C4{E:Value->ai->Prop}{lo as as' xs vs}{s:ai}{x:Str}{av:AV}{v:Value}{f Bx:List (Str×AV)}{Q:Unit->ai->Prop}(hk:c.env.scope.kind=.function)(S:St c ⟨lo,as⟩ (av::xs) (v::vs) s)(R:Rep (.nf c.env.locals f) (.nf c.env.locals ((x,av)::Bx)) as as')
  (hf:∀p∈Bx,p∈f/\p.1≠x)(hx:c.env.kindOf x=some .local)(k:∀s',St c ⟨lo,as'⟩ xs vs s'->Q () s'):aJ c.M A (i8 c.env x v) Q E s:=by
 refine cps λV V'=>?_;obtain⟨g₁,m,fz,cl,hg,F,K,gt,mI,nd,nw,_,back⟩:=S.at R;obtain⟨o,m',hN,BX⟩:=K;refine(id hN).elim λes w9=>w9.elim λep w9=>w9.elim λe1 w9=>w9.elim λe2 e3=>?_;refine V' ?_;have ov:=mI.hd;replace mI:=mI.tl;refine eT hx ⟨o,es,ep,gt _ (.head _),e1,e2,e3⟩ (λh' n' sb=>k _ ?_) (notCls hk);refine cps λV V'=>?_;refine n'.elim λo' w9=>w9.elim λBP w9=>w9.elim λOa w9=>w9.elim λg' w9=>w9.elim λe1' w9=>w9.elim λe2' e3'=>?_;refine V' ?_;refine back _ [(c.env.locals,o')] _ _ (.nf (m:=λy=>if y=x then some v else m' y) ⟨BP,Oa,e1',e2',e3'⟩ (.cons (if_pos rfl) ov ?_)) rfl (λp hp=>?_) (λb hb o e=>(sb.2 b λe=>hb (by simp[e])).trans e) ⟨rfl,rfl,rfl⟩ mI
 ·clear R back;induction Bx with
  |nil=>exact .nil
  |cons p Bx ih=>refine(hf p (.head _)).elim λh1 h2=>?_;refine(BX.get h1).elim λu w9=>w9.elim λhu ou=>?_;exact .cons ((if_neg h2).trans hu) ou (ih λp hp=>hf p (.tail _ hp))
 ·simp only[ao]at hp;subst hp;exact g'
theorem Rep.mid(R:Rep x z l l'):∃l₁,Rep x y l l₁/\Rep y z l₁ l':=by
 induction R with
 |head=>exact⟨_,.head,.head⟩
 |tail _ ih=>obtain⟨l₁,a,b⟩:=ih;exact⟨_,.tail a,.tail b⟩
theorem qo.cv{lo as as'}(ok:Ok c d)(he:c.env=ε)(hC:ε.locals=C)(R:Rep (.nf C f) (.nf C [(x,av)]) as as')(hx:autoParam (ε.kindOf x=some .local) aR):qo c ⟨lo,as⟩ (.Name x p) av ⟨lo,as'⟩:=by subst hC;subst he;intro E fr xs vs v s Q S k;exact cx (S.C4 ok.kd (R.on fr) (λO h=>nomatch h) hx k)
theorem qo.v_{lo as as'}(ok:Ok c d)(he:c.env=ε)(hC:ε.locals=C)(R:Rep (.nf C f) (.nf C [(y,bv),(x,av)]) as as')(Ob:autoParam ((x==y)=false) aK)
  (hx:autoParam (ε.kindOf x=some .local) aR)(hy:autoParam (ε.kindOf y=some .local) aR):qo c ⟨lo,as⟩ (.Tuple [.Name x p,.Name y q] n pos) (.tup [av,bv]) ⟨lo,as'⟩:=by
 subst hC;subst he;intro E fr xs vs v s Q S k;refine cps λV V'=>?_;obtain⟨a,us,rfl,ht,hl,S2⟩:=S.vp;refine V' ?_;obtain⟨u1,u2⟩:=qn hl;refine il (qh ok) ht rfl rfl λh' zq=>?_;refine((R.on fr).mid (y:=.nf c.env.locals [(x,av)])).elim λoM w9=>w9.elim λR1 R2=>?_;show aJ _ _ (do cE [u2] (gP _ _ u1);dW _ [u2]) _ _ _;refine ag (bN (cx ((S2.keeps (h':=h') (t:=s.toks) λb o q=>zq b o (bC (a_ q)) q).C4 ok.kd R1 (λO h=>nomatch h) hx λs1 S1=>?_)));show aJ _ _ (do cE [] (gP _ _ u2);dW _ []) _ _ _;refine ag (bN (cx (S1.C4 ok.kd R2 (λp hp=>⟨hp,λe=>?_⟩) hy λs2 S2=>ak (k s2 S2))));simp only[ao]at hp;subst hp;simp at Ob;exact Ob e
inductive TH(c:Cx)(E:Ex)(a:aA)(rest:List Stmt)(Q:Out->Sg->Prop)(av:AV)(mF:Sg):Prop
 |mk (y as') (h:y=.qU a\/∃u,y=.nq a u) (R:Rep y (.nq a av) mF.as as') (w:WS c E ⟨mF.lo,as'⟩ (aO rest c.env) Q)
theorem WS.ce (ok : Ok c d) (he : c.env = ε) (h : WE c E σ (aT e c.env) (TH c E a rest Q))
  (hc : autoParam (ε.cells.lookup x = some a) aR) (hx : autoParam (ε.kindOf x = some .cell) aR)
  (hs : autoParam (cn e (some (.Name x p')) p.line ε = pure false) aR) : WS c E σ (aO (.Assign [.Name x p'] e p :: rest) c.env) Q := by
 refine .cons ?_
 intro fr xs vs s S
 refine W.HN (h.run S ?_) (by rw [he]; exact hs)
 rintro av mF v s' ⟨y, as', hy, R, w⟩ S'
 obtain ⟨g₁, m, fz, cl, hg, F, K, gt, mI, nd, nw, _, back⟩ := S'.at (R.on fr)
 have key : ∀ o yM, s'.heap.get? a = some o → o.data = .cell yM → cl.map (fun O => O.1) = [a] → aJ c.M c.A (i8 c.env x v) (fun O s' => rD c fr xs vs (rE c E rest Q) .next s') (E.go fr xs vs) s' := by
  intro o yM ho hd nj
  refine kG ok.kd (by rw [he]; exact hx) (by rw [he]; exact hc) ⟨o, ho, hd⟩ fun h' hv hs => ?_
  refine hv.elim fun o' w9 => w9.elim fun uT rM => ?_
  have ov := mI.hd; replace mI := mI.tl
  refine ⟨.next, ⟨mF.lo, as'⟩, ⟨rfl, ?_⟩, w⟩
  refine back { s' with heap := h' } [(a, o')] _ _ (.nq rM ov) nj.symm (fun p hp => ?_) (fun b hb o e => ?_) ⟨rfl, rfl, rfl⟩ mI
  ·simp only [ao] at hp; subst hp; exact uT
  ·rw [nj] at hb
   exact (hs.2 b fun e => hb (by simp [e])).trans e
 rcases hy with rfl | ⟨u, rfl⟩
 ·refine cps fun V V' => ?_
  obtain ⟨o, hd⟩ := K
  refine V' ?_
  exact key o _ (gt _ (.head _)) hd rfl
 ·obtain ⟨o, _, hd, _⟩ := K
  exact key o _ (gt _ (.head _)) hd rfl
end
section
variable {c:Cx}{σ:Sg}{d:Nat}{E:Ex}
noncomputable abbrev mR.px(i:mR)(L:aA):Env:=g6 i.qual (nD i.st) L i.f i.cd (cC (L+1) (nD i.st).names [])
structure mR.uW(i:mR)(ps:List Str)(li:List (Option Nat))(cs:List (Str×Nat×Option Nat)):Prop where
 look:∀P,(KK P).lookup i.f=some ⟨.type "function",none,.func i.fd,#[]⟩
 code:∀P,codeIn (KK P) i.cd i.qual=true
 keep:∀P,f6 (KK P) (.ref i.f)=true
 nd:i.ns.Nodup
 loc:(i.ns.all λn=>(nD i.st).names.lookup n==some .local&&!(n==("__debug__":Str)))=true
 cells:∀L,cC (L+1) (nD i.st).names []=cs.map λp=>(p.1,L+1+p.2.1)
 pk:(ps.all λn=>(nD i.st).names.lookup n==some .local||((nD i.st).names.lookup n==some .cell&&cs.any λp=>p.1==n))=true
 BY:ps.Nodup
 tn:(cs.map (λO=>O.1)).Nodup
 and':(cs.map (λO=>O.2.1)).Nodup
 li:li=i.ns.map λn=>ps.findIdx? (λO=>O==n)
 ci:(cs.all λp=>p.2.2==(ps.findIdx? (λO=>O==p.1))&&!((nD i.st).names.lookup p.1==some .local))=true
 co:(nD i.st).isCoroutine=false
 gen:(nD i.st).isGenerator=false
 kd:(nD i.st).kind=.function
theorem Q9:∀{m:Str->Option Value},x∉b.map (λO=>O.1)->bindL k b m x=m x:=by
 induction b with
 |nil=>exactλ{m} h=>rfl
 |cons p r ih=>exactλ{m} h=>(ih λq=>h (.tail _ q)).trans ((aq (k p.1=some .local)).elim (λc=>(congrFun (if_pos c) x).trans (if_neg λ(e:x=p.1)=>h (e▸.head _))) λc=>congrFun (if_neg c) x)
theorem Iq:∀{m:Str->Option Value},x∉b.map (λO=>O.1)->mi k b m x=m x:=by
 induction b with
 |nil=>exactλ{m} h=>rfl
 |cons p r ih=>exactλ{m} h=>(ih λq=>h (.tail _ q)).trans ((aq (k p.1=some .local)).elim (λc=>congrFun (if_pos c) x) λc=>(congrFun (if_neg c) x).trans (if_neg λ(e:x=p.1)=>h (e▸.head _)))
theorem Ir:∀{m:Str->Option Value},(b.map (λO=>O.1)).Nodup->(x,v)∈b->k x=some .local->bindL k b m x=some v:=by
 induction b with
 |nil=>exactλ{m} nd h=>nomatch h
 |cons p r ih=>exactλ{m} nd h hk=>(aL.mp h).elim (λe=>by cases e;exact(Q9 (bj.mp nd).1).trans ((congrFun (if_pos hk) x).trans (if_pos rfl))) λh=>ih (bj.mp nd).2 h hk
theorem Q_:∀{m:Str->Option Value},(b.map (λO=>O.1)).Nodup->(x,v)∈b->k x≠some .local->mi k b m x=some v:=by
 induction b with
 |nil=>exactλ{m} nd h=>nomatch h
 |cons p r ih=>exactλ{m} nd h hk=>(aL.mp h).elim (λe=>by cases e;exact(Iq (bj.mp nd).1).trans ((congrFun (if_neg hk) x).trans (if_pos rfl))) λh=>ih (bj.mp nd).2 h hk
noncomputable def sy(args:List AV)(o:Option Nat):Option AV:=o.bind λk=>args[k]?
noncomputable def uF(L:aA)(args:List AV):List (Str×Nat×Option Nat)->List mH
 |[]=>[]
 |p::r=>(match sy args p.2.2 with|some av=>.nq (L+1+p.2.1) av|none=>.qU (L+1+p.2.1))::uF L args r
theorem CV{ps:List Str}(o:mL fz args us)(hl:ps.length=us.length)(h:sy args (ps.findIdx? (λO=>O==x))=some av):∃v,(x,v)∈ps.zip us/\Of fz av v:=by
 cases q:ps.findIdx? (λO=>O==x)with
 |none=>rw[q]at h;cases h
 |some k=>
  rw[q]at h;obtain⟨v,hv,ov⟩:=o.get k av h;rw[gV]at q;obtain⟨hk,e,_⟩:=q;refine⟨v,?_,ov⟩;rw[List.mem_iff_getElem?];refine⟨k,?_⟩;rw[List.getElem?_zip_eq_some];refine⟨?_,hv⟩;rw[aw hk]
  simpa using e
theorem Sh{ps:List Str}(o:mL fz args us)(hl:ps.length=us.length)(h:sy args (ps.findIdx? (λO=>O==x))=none):x∉(ps.zip us).map (λO=>O.1):=by
 intro hm;rw[eI (BM hl)]at hm;cases q:ps.findIdx? (λO=>O==x)with
 |none=>rw[List.findIdx?_eq_none_iff]at q;have:=q x hm;simp at this
 |some k=>rw[q]at h;rw[gV]at q;have hk:=q.1;have:=o.length;have h:args[k]?=none:=h;rw[d7]at h;exact o54 hl hk this h
theorem At.of_map{a:α}:At ns (ns.map f) x a->x∈ns/\f x=a:=by
 induction ns with
 |nil=>exactλh=>nomatch h
 |cons y r ih=>exactλh=>h.un.casesOn (λe q=>⟨e▸.head _,e▸q⟩) λh=>⟨.tail _ (ih h).1,(ih h).2⟩
inductive Oc(cm:Str->Option Value)(n:Str)(c:aA)(l:List (Str×aA)):Cells->Prop
 |mk (o cells) (hd:o.data=.cell (cm n)) (hr:iV cm l cells):Oc cm n c l ((c,o)::cells)
theorem U9{n c l cells}(h:iV cm ((n,c)::l) cells):Oc cm n c l cells:=by cases h with|cons a b=>exact⟨_,_,a,b⟩
theorem I_{fz:Cells}{ps:List Str}(o:mL fz args us)(hl:ps.length=us.length)(pK:ps.Nodup){cells:Cells}(S:Sat P fz l o'):
  (∀p∈cs,p.2.2=ps.findIdx? (λO=>O==p.1)/\k p.1≠some .local)->iV (mi k (ps.zip us) λO=>none) (cs.map λp=>(p.1,L+1+p.2.1)) cells->Sat P fz (uF L args cs++l) (cells++o'):=by
 induction cs generalizing cells with
 |nil=>exactλO h=>by cases h;exact S
 |cons p r ih=>
  intro h hc;obtain⟨ob,cells,hd,hr⟩:=U9 hc;refine Sat.cons (c:=[(L+1+p.2.1,ob)]) ?_ (ih (λq hq=>h q (.tail _ hq)) hr);have e:=(h p (.head _)).1;cases q:sy args p.2.2 with
  |some av=>refine(CV o hl (x:=p.1) (by rw[<-e];exact q)).elim λv w9=>w9.elim λhm ov=>?_;exact .nq (hd.trans (congrArg _ (Q_ (by rw[eI (BM hl)];exact pK) hm ((h p (.head _)).2)))) ov
  |none=>exact .qU (hd.trans (congrArg _ (Iq (Sh o hl (x:=p.1) (by rw[<-e];exact q)))))
theorem Qz{nd:Bool}
  {scope:Scope}{dV kV doc pm qc ct:Value}{fo:Obj}{f:aA}{args:Args}{binds:List (Str×Value)}
  (B:mq A₀ base outer h₀)(F:Fr h₀ L s.heap m)(N:j_ h₀ L s.heap news)(Es:h₀.NoLimit)(hA:A.frames=some (env::outer))(hf:env.frame=some L)(E3:env.scope.kind=.function)
  (ho:s.heap.get? f=some fo)(hd:fo.data=.func (fnX name qual params body scope [] dV kV doc pm none qc ct))(E4:s.heap.CodeRec qc qual)(DS:A.depth<lZ)
  (DT:bk s (fnX name qual params body scope [] dV kV doc pm none qc ct) args binds)
  (wY:∀n,∀x∈binds,scope.names.lookup x.1=some .local\/(scope.names.lookup x.1=some .cell/\((cC n scope.names []).lookup x.1).isSome=true))
  (pK:((cC 0 scope.names []).map (λO=>O.1)).Nodup)
  (h:∀g L' m4 tk cells,Fr h₀ L g m->Fr g L' m4 (bindL (g6 qual scope L' f qc (cC (L'+1) scope.names [])).kindOf binds λO=>none)->j_ g L' m4 (cells++news)->
   iV (mi (g6 qual scope L' f qc (cC (L'+1) scope.names [])).kindOf binds λO=>none) (cC (L'+1) scope.names []) cells->mq A base (env::outer) g->h₀.StaysIn g->(∀p∈news,p.1<L')->
   W nd (aX prog w) (A.deeper (g6 qual scope L' f qc (cC (L'+1) scope.names []))) (aO body (g6 qual scope L' f qc (cC (L'+1) scope.names [])))
    (λfl s'=>R (.ok (.ret (match fl with|.ret v=>v|_=>.none))) s')
    (λe s'=>aJ (aX prog w) (A.deeper (g6 qual scope L' f qc (cC (L'+1) scope.names []))) (gZ (g6 qual scope L' f qc (cC (L'+1) scope.names [])) e) (λO ph=>R (.error e) ph) (λe' ph=>R (.error e') ph) s')
    {s with heap:=m4,toks:=tk})
  (E5:scope.isCoroutine=false) (Et:scope.isGenerator=false) (hk:scope.kind=.function):WC nd (aX prog w) A (.call (.ref f) args) R s:=by
 refine(groundX (R:=R) B F N hA hf E3).elim λFG w9=>w9.elim λBG w9=>w9.elim λst O=>?_;refine .tree rfl ?_;show W nd _ A.in1 (iP (.ref f) args) _ _ s;refine .step (du ho ?_);refine cps λV V'=>?_;obtain⟨c,oc,vs,tq,hc,xr,zc,hq⟩:=E4;refine V' ?_;obtain rfl:=hc;rw[hd];delta iO;dsimp only;rw[E5,Et];dsimp only;refine .step (eE xr zc hq (.step (ak (.step (DT _ _ _ _ ?_)))));refine .step (jy hk (wY _) λacB he s' x=>?_);subst he;refine .step (i7 ((Es.keeps F.keep).keeps x.toInCall.keep) DS (.pure ⟨rfl,.tree rfl ?_⟩));refine cps λV V'=>?_;obtain⟨m4,tk,rfl,_⟩:=x.done;have yq:=x.toInCall.keep;refine(Cl.news (h₀:=s.heap) (bz _) λn c hm=>⟨x.cell n c (kW (eu scope.names 0 (s.heap.objs.size+1) [] [] rfl▸pK) hm),x.above n c hm⟩).elim λcells w9=>w9.elim λNC Y=>?_;refine V' ?_;show W nd _ (A.deeper (g6 qual scope s.heap.objs.size f (.ref c) (cC (s.heap.objs.size+1) scope.names []))) (do point;match <-(aO body (g6 qual scope s.heap.objs.size f (.ref c) (cC (s.heap.objs.size+1) scope.names []))).onRaise (gZ (g6 qual scope s.heap.objs.size f (.ref c) (cC (s.heap.objs.size+1) scope.names [])))with|.ret v=>ret v|_=>ret .none) _ _ _;refine .step (eD (.then (P:=λfl s'=>R (.ok (.ret (match fl with|.ret v=>v|_=>.none))) s') (.onRaise ((h _ s.heap.objs.size m4 tk cells FG ⟨x.toInCall.ns,λb o e=>yq b o (jD _ e),da (hideAll_size _ _)⟩
  (λp hp=>?_) Y BG st (λp hp=>a_ (N p hp).1)).mono (λfl s' hl=>hl) λe s' k=>.of k)) λfl s' k=>?_))
 ·rcases aH.mp hp with hp|hp
  ·refine⟨(NC p hp).1,(NC p hp).2.1,?_⟩;cases q:(hideAll s.heap (news.map (λO=>O.1))).get? p.1 with
   |none=>rfl
   |some o=>have:=jD _ q;rw[(NC p hp).2.2]at this;cases this
  ·exact⟨yq _ _ (N p hp).1,bC (a_ (N p hp).1),iK _ (aZ hp)⟩
 ·cases fl<;>exact .pure k
theorem Ja{cells:Cells}(h:iV cm l cells):cells.map (λO=>O.1)=l.map (λO=>O.2):=
 h.rec (motive:=λl c _=>c.map (λO=>O.1)=l.map (λO=>O.2)) rfl λ_ _ ih=>congrArg (List.cons _) ih
theorem Qc{i:mR}{ps:List Str}(hi:i.uW ps li cs)(ok:Ok c d)(hA:A'.frames=some (c.fe::c.outer))(hh:A'.handled=none)(ti:A'.depth+4*n<=900)(ze:A'.units+40*n<=9000){lo:List (Option AV)}{args args' xs vs us oK s}
  {R:AV->List mH->Prop}{X:mZ->List mH->Prop}(S:St c (Sg.on ⟨lo,as⟩ fr) (args++xs) (us++vs) s)(hl:us.length=args.length)(hb:bk s i.fd ⟨us,[]⟩ (ps.zip oK))(hlen:ps.length=oK.length)(v5:∀fz,mL fz args us->mL fz args' oK)
  (body:∀(c':Cx) (E':Ex),c'.w=c.w->c'.nd=c.nd->Ok c' n->c'.env=i.px c'.L->Nm c' i.ns->Exits c' E' (λx σ=>X x σ.as)->WS c' E' ⟨li.map (sy args'),uF c'.L args' cs++as⟩ (aO (sQ i.st) c'.env) (Back R)):
  WC c.nd c.M A' (.call (.ref i.f) ⟨us,[]⟩) (λr s'=>match r with|.ok (.ret v)=>vI c lo fr xs vs R v s'|.ok _=>False|.error e=>yG c lo fr xs vs X e s') s:=by
 refine cps λV V'=>?_;refine S.elim λg₁ w9=>w9.elim λhg w9=>w9.elim λm w9=>w9.elim λown w9=>w9.elim λfz I=>?_;refine V' ?_;have DV:=ok;have ok:=ok.on hg;have ho:=I.st;refine cps λV V'=>?_;refine I.lo.pack.elim λys w9=>w9.elim λzf w9=>w9.elim λoy back=>?_;refine V' ?_;have oa:=v5 fz ((ho.oi hl).1);have qV:=hi.loc;simp only[cy,b5,beq_iff_eq,dQ]at qV;have zt:=hi.pk;simp only[cy,iH,b5,beq_iff_eq,dZ]at zt;have xw:=hi.ci;simp only[cy,b5,beq_iff_eq,dQ,beq_eq_false_iff_ne]at xw;refine Qz ok.B I.F I.N ok.nl hA ok.fr ok.kf ((ok.X.keeps I.F.keep) _ _ (hi.look c.w.params)) rfl (lz (ok.X.keeps I.F.keep) (hi.code c.w.params)) (by show A'.depth<1000;exact o6 ti) hb
  (λk y hy=>?_) ?_ (λg L' m4 tk cells FG F' N' Y B' st lt=>?_) hi.co hi.gen hi.kd
 ·rcases zt y.1 (iD hy).1 with h|⟨h,p,hp,e⟩
  ·exact .inl h
  ·refine .inr ⟨h,?_⟩;have hm:y.1∈(cC k (nD i.st).names []).map (λO=>O.1):=by rw[eu (nD i.st).names k (0+1) [] [] rfl,hi.cells 0];simp only[aN,aG,eN];exact⟨p,hp,e⟩
   cases q:(cC k (nD i.st).names []).lookup y.1 with
   |some _=>rfl
   |none=>refine(aG.mp hm).elim λz w9=>w9.elim λhz e=>?_;rw[fQ]at q;have:=q z hz;rw[e]at this;simp at this
 ·rw[eu (nD i.st).names 0 (0+1) [] [] rfl,hi.cells 0,aN];exact hi.tn
 let c':Cx:=⟨c.nd,c.w,A',c.base,c.fe::c.outer,g,L',i.px L',i.ns,c.r,i.px L',false⟩
 have zg:Ok c' n:=by refine⟨ok.Xb,ok.Gb,ok.uQ,B',hh,λO=>rfl,λO=>rfl,rfl,hi.kd,hi.kd,rfl,rfl,hi.nd,λO x hx=>?_,ti,ze⟩;exact qV x hx
 rw[hi.cells L']at Y;have Od:=Ja Y;have S':St c' (Sg.on ⟨li.map (sy args'),uF L' args' cs++as⟩ fr) (ys++xs) (zf++vs) {s with heap:=m4,toks:=tk}:=by
  refine⟨g,.refl,_,cells++own,fz,F',?_,by rw[aj];exact N',?_,?_,oy.append ((ho.oi hl).2),I.same⟩
  ·intro x av k;have k:At i.ns (li.map (sy args')) x (some av):=k;rw[hi.li,aN]at k;refine k.of_map.elim λhx k=>?_;obtain⟨v,hm,zh⟩:=CV oa hlen k;exact⟨v,Ir (by rw[eI (BM hlen)];exact hi.BY) hm (qV x hx).1,zh⟩
  ·rw[aj,au,cG];refine⟨?_,I.nd,λa ha b hb e=>?_⟩
   ·rw[Od,aN];have:=hi.and';simp only[gH,ke]at this ⊢;exact this.imp λoR e=>oR (by simp only[eN]at e;exact j4 e)
   ·rw[Od,aN]at ha;obtain⟨p,hp,rfl⟩:=aG.mp ha;obtain⟨q,hq,rfl⟩:=aG.mp hb;have:=lt q hq;have e:L'+1+p.2.1=q.1:=e;have this:q.1<L':=this;rw[<-e]at this;exact cb _ (cj (by rw[Nat.add_assoc];exact dz _ _) this)
  ·show Sat c.w.params fz (uF L' args' cs++as++fr) (cells++own);rw[aj];refine I_ (k:=(i.px L').kindOf) oa hlen hi.BY I.sat (λp hp=>⟨(xw p hp).1,(xw p hp).2⟩) ?_;exact Y
 refine W.mono ((body c' (Er c' X) rfl rfl zg rfl ⟨rfl,rfl⟩ (HO zg rfl X)).go fr _ _ _ S') ?_ ?_
 ·rintro f s' ⟨o,mF,hf,hR⟩;have fin:∀(av:AV) (v:Value),St c' (mF.on fr) (av::(ys++xs)) (v::(zf++vs)) s'->R av mF.as->vI c lo fr xs vs R v s':=by
   rintro av v ⟨g',zi,m2,vJ,pJ,I2⟩ hr;refine cps λV V'=>?_;obtain⟨oX,DW,F2,N2⟩:=JN DV hg FG zi.2.1 zi.2.2 I2.F I2.N;refine V' ?_;refine⟨av,mF.as,⟨oX,DW,m,vJ,pJ,F2,?_,N2,I2.nd,I2.sat,?_,I2.same⟩,hr⟩
   ·exact back pJ (I2.st.tl.oi oy.length.symm).1
   ·exact .cons I2.st.hd (I2.st.tl.oi oy.length.symm).2
  cases o with
  |ret av=>obtain⟨v,rfl,S2⟩:=hf;exact fin av v S2 hR
  |next=>obtain⟨rfl,S2⟩:=hf;exact fin .none .none (S2.push λO=>.none) hR
  |brk=>exact hR.elim
  |cont=>exact hR.elim
 ·intro e s' h;refine aY h ?_ λO O q=>q.elim;rintro _ s2 ⟨x,as',hX,a,dd,vJ,pJ,rfl,⟨B,hB,J,fl⟩,u,nd,hp,sat,o,sm⟩;refine⟨x,as',hX,g₁,a,dd,m,vJ,pJ,g,hg,rfl,FG,?_,⟨B,λb o e hb=>hB b o (FG.keep b o e) hb,J,fl⟩,u,nd,λp oo=>?_,sat,?_,sm⟩
  ·exact back pJ (o.oi oy.length.symm).1
  ·have z:=(hp p oo).2;refine⟨λq=>?_,?_⟩
   ·obtain⟨o,es,ep,ho,_⟩:=FG.ns;rw[<-q]at ho;have:g.get? p.1=none:=z;rw[ho]at this;cases this
   ·cases q:g₁.get? p.1 with
    |none=>rfl
    |some o=>have:g.get? p.1=none:=z;rw[FG.keep _ _ q]at this;cases this
  ·exact(o.oi oy.length.symm).2
theorem mG.AA{i:mR}(hi:i.uW ps li cs)(oK:List Value->List Value)
  (hb:∀(s:ai) us,us.length=args.length->(∀w:cL,(KK w.params).In s.heap->bk s i.fd ⟨us,[]⟩ (ps.zip (oK us))/\ps.length=(oK us).length))(v5:∀fz us,mL fz args us->mL fz args' (oK us))
  (body:∀(c:Cx) (E:Ex),Ok c n->c.env=i.px c.L->Nm c i.ns->Exits c E (λx σ=>X x σ.as)->(nb=true->c.nd=true)->WS c E ⟨li.map (sy args'),uF c.L args' cs++as⟩ (aO (sQ i.st) c.env) (Back R)):mG nb (.ref i.f) (n+1) args as R X:=by
 intro c d A' lo fr xs vs us s pK ok J hA hh hd hu S hl;have hb:=hb s us hl c.w (S.sq ok);exact Qc hi (n:=n) ok hA hh (o4 J hd (ok.dep)) (o3 J hu (ok.un)) S hl hb.1 hb.2 (λfz o=>v5 fz us o) (λc' E' O e ok he J ex=>body c' E' ok he J ex λh=>e▸pK h)
end
theorem Cj:GB.uW [af "some"] [] [(af "some",0,some 0)]:=⟨λP=>by kernel_rfl!,λP=>by kernel_rfl!,λP=>by kernel_rfl!,by decide +kernel,by kernel_rfl!,λL=>by kernel_rfl!,by kernel_rfl!,by decide +kernel,by decide +kernel,by decide +kernel,by kernel_rfl!,by kernel_rfl!,by kernel_rfl!,by kernel_rfl!,by kernel_rfl!⟩
theorem zG:Gf.uW [af "title",af "funcs",af "rows",af "pad"] [some 0,some 1,some 2,none,none] [(af "pad",0,some 3)]:=⟨λP=>by kernel_rfl!,λP=>by kernel_rfl!,λP=>by kernel_rfl!,by decide +kernel,by kernel_rfl!,λL=>by kernel_rfl!,by kernel_rfl!,by decide +kernel,by decide +kernel,by decide +kernel,by kernel_rfl!,by kernel_rfl!,by kernel_rfl!,by kernel_rfl!,by kernel_rfl!⟩
theorem Ck:GD.uW [af "octets",af "at",af "end"] [some 2,none,none] [(af "at",1,some 1),(af "octets",0,some 0)]:=⟨λP=>by kernel_rfl!,λP=>by kernel_rfl!,λP=>by kernel_rfl!,by decide +kernel,by kernel_rfl!,λL=>by kernel_rfl!,by kernel_rfl!,by decide +kernel,by decide +kernel,by decide +kernel,by kernel_rfl!,by kernel_rfl!,by kernel_rfl!,by kernel_rfl!,by kernel_rfl!⟩
theorem xJ:Hq.uW [af "names"] [none,none] [(af "func",1,none),(af "names",0,some 0)]:=⟨λP=>by kernel_rfl!,λP=>by kernel_rfl!,λP=>by kernel_rfl!,by decide +kernel,by kernel_rfl!,λL=>by kernel_rfl!,by kernel_rfl!,by decide +kernel,by decide +kernel,by decide +kernel,by kernel_rfl!,by kernel_rfl!,by kernel_rfl!,by kernel_rfl!,by kernel_rfl!⟩
theorem Jb:pZ.uW [af "script"] [some 0,none,none,none,none,none,none,none,none,none,none,none,none,none,none,none,none,none,none,none,none,none,none,none,none,none,none,none,none,none,none,none,none,none] [(af "names",0,none)]:=⟨λP=>by kernel_rfl!,λP=>by kernel_rfl!,λP=>by kernel_rfl!,by decide +kernel,by kernel_rfl!,λL=>by kernel_rfl!,by kernel_rfl!,by decide +kernel,by decide +kernel,by decide +kernel,by kernel_rfl!,by kernel_rfl!,by kernel_rfl!,by kernel_rfl!,by kernel_rfl!⟩
section
variable {c:Cx}{σ:Sg}{d:Nat}{E:Ex}{ε:Env}
theorem St.freeze{lo as as' xs vs}{s:ai}{a:aA}{ys:List AV}{v:Value}(S:St c ⟨lo,as⟩ (.ref a::xs) (v::vs) s)(R:nt (.lst a ys) as as'):St c ⟨lo,as'⟩ (.lst ys::xs) (v::vs) s:=by
 refine cps λV V'=>?_;obtain⟨g,hg,m,own,fz,I⟩:=S;obtain⟨pre,cl,post,k,r⟩:=I.sat.del R;refine V' ?_;have fq:∀p∈fz,p∈cl++fz:=λp hp=>aS _ hp;refine⟨g,hg,m,pre++post,cl++fz,I.F,λx av h=>by obtain⟨v,a,b⟩:=I.lo x av h;exact⟨v,a,b.mono fq⟩,λp hp=>I.N p ?_,?_,r _ fq,?_,I.same⟩
 ·simp only[aH]at hp ⊢;rcases hp with(h|h)|h|h
  ·exact .inl (.inl h)
  ·exact .inl (.inr (.inr h))
  ·exact .inl (.inr (.inl h))
  ·exact .inr h
 ·refine bX.nodup ?_ I.nd;refine bX.map _ ?_;rw[aj,aj,aj];refine bX.append_left _ ?_;rw[<-aj,<-aj];exact bX.append_right _ bw
 ·cases I.st with
  |cons o1 o2=>obtain rfl:=o1.mV;obtain⟨us,n,ho⟩:=k;exact .cons (.lst (ax _ (.head _)) rfl rfl (ho.mono fq)) (o2.mono fq)
inductive acC(Q:AV->Sg->Prop)(x:AV)(σ:Sg):Prop
 |mk (a ys as') (h:x=.ref a) (d:nt (.lst a ys) σ.as as') (q:Q (.lst ys) ⟨σ.lo,as'⟩)
theorem WE.freeze(h:WE c E σ t (acC Q)):WE c E σ t Q:=by intro fr xs vs s S;refine(h.go fr xs vs s S).mono ?_ λO O e=>e;rintro v s' ⟨x,mF,S',a,ys,as',rfl,R,q⟩;exact⟨.lst ys,⟨mF.lo,as'⟩,S'.freeze (R.on fr),q⟩
theorem St.xY{lo as as' xs vs}{s:ai}{a:aA}{l l':List AV}(S:St c ⟨lo,as⟩ xs vs s)(R:Rep (.lst a l) (.lst a l') as as'):∃us n fz,mE s.heap a us.toArray n/\mL fz l us/\mL fz xs vs/\
  ∀s' oK n' xs' vs',mL fz l' oK->mE s'.heap a oK.toArray n'->(∀b,b≠a->∀o,s.heap.get? b=some o->s'.heap.get? b=some o)->p8 s s'->mL fz xs' vs'->St c ⟨lo,as'⟩ xs' vs' s':=by
 refine cps λV V'=>?_;obtain⟨g₁,m,fz,cl,hg,F,K,gt,mI,nd,nw,_,back⟩:=S.at R;obtain⟨us,n,ho⟩:=K;refine V' ?_;refine⟨us,n,fz,gt _ (.head _),ho,mI,λs' oK n' xs' vs' o' pD hk hs ox=>back s' [(a,⟨.type "list",none,.seq oK.toArray n',#[]⟩)] xs' vs' (.lst o') rfl (λp hp=>?_) (λb hb o e=>hk b (λq=>hb (by simp[q])) o e) hs ox⟩;simp only[ao]at hp;subst hp;exact pD
theorem Meth.lst{id:String}(slot:lA "list" name id)(uU:gp (.builtin id)=pure (.type "method_descriptor"))(hm:.lst a xs∈σ.as):Meth c σ (.ref a) name (.builtin id):=by intro E fr ys vs v s pl Q S k;refine S.of.elim λfz o=>?_;obtain rfl:=o.mV;refine(S.xY (Rep.refl (ax fr hm))).elim λus w9=>w9.elim λn w9=>w9.elim λm5 w9=>w9.elim λhl w9=>w9.elim λho w9=>w9.elim λhx back=>?_;exact lK ⟨_,hl,rfl⟩ PySem.F.plainAttrs_list slot uU (λa e=>by cases e;exact⟨_,hl,rfl⟩) (k s S)
theorem mE.grown(x:mE h l items n)(f:Array Value->Array Value)(e:f items=items'):∃n',mE (h.update l (eL f)) l items' n':=by have:=PySem.IsL.update x f;rw[e]at this;exact⟨_,this⟩
theorem CW{h:bb}(f:Obj->Obj):∀b,b≠a->∀o,h.get? b=some o->(h.update a f).get? b=some o:=λb hb o e=>(bb.get?_update_other _ _ (fh hb)).trans e
theorem Op.pop{lo as as'}{a:aA}{xs:List AV}{y:AV}{Q:AV->Sg->Prop}(R:Rep (.lst a (xs++[y])) (.lst a xs) as as')(hz:xs.length<=900000)(q:Q y ⟨lo,as'⟩):Op c E ⟨lo,as⟩ [.ref a] (λus=>aF (.builtin "list.pop") us) Q:=by
 intro fr ys vs us s S hl;refine cps λV V'=>?_;obtain⟨w⟩:=q8 hl;obtain⟨us,n,fz,pD,ho,hx,back⟩:=S.xY (R.on fr);obtain⟨u1,u2,rfl,o1,o2⟩:=ho.split;refine V' ?_;cases o2 with| @cons _ u _ _ ou on=>
 cases on
 have oa:=hx.hd;replace hx:=hx.tl;obtain rfl:=oa.mV;have hk:(u1++[u]).toArray.size-1=u1.length:=by simp
 refine W.of (jE jj ⟨_,pD,rfl⟩ PySem.F.entry_list_pop (PySem.F.args_list_pop_1 _) (PySem.MeetsSeq.list_pop_last a _ n u (by rw[hk];simp) (by rw[bK,aa,<-o1.length,cz];simp;exact o56 hz)) ⟨pD,y,⟨lo,as'⟩,?_,q⟩);obtain⟨n',J⟩:=mE.grown pD (λxs=>xs.eraseIdxIfInBounds ((u1++[u]).toArray.size-1)) (items':=u1.toArray) (by
  rw[hk];have:=kl_erase u1 [] u
  simpa using this)
 exact back _ u1 n' _ _ o1 J (CW _) ⟨rfl,rfl,rfl⟩ (.cons ou hx)
theorem St.rW{xs vs}{s:ai}{a:aA}{l:List AV}(S:St c (σ.on fr) xs vs s)(hm:.lst a l∈σ.as):∃us n,mE s.heap a us.toArray n/\us.length=l.length/\St c (σ.on fr) (l++xs) (us++vs) s:=by refine cps λV V'=>?_;refine(S.xY (Rep.refl (ax fr hm))).elim λus w9=>w9.elim λn w9=>w9.elim λfz w9=>w9.elim λhl w9=>w9.elim λho w9=>w9.elim λhx back=>?_;refine V' ?_;exact⟨us,n,hl,ho.length.symm,back s us n _ _ ho hl (λO O O h=>h) ⟨rfl,rfl,rfl⟩ (ho.append hx)⟩
theorem mL.cut{us vs:List Value}(o:mL fz (xs++ys) (us++vs))(h:us.length=xs.length):mL fz xs us/\mL fz ys vs:=o.oi h
theorem get_none{s:ai}{l:aA}(h:s.heap.objs.size<=l):s.heap.get? l=none:=by
 cases q:s.heap.get? l with
 |none=>rfl
 |some o=>exact absurd (a_ q) (ka.mpr h)
theorem St.EE{lo as fr zs xs vs us}{s:ai}{h':bb}{l:aA}{k tk:Nat}(S:St c (Sg.on ⟨lo,as⟩ fr) (zs++xs) (us++vs) s)(hl:us.length=zs.length)(hk:∀b o,s.heap.get? b=some o->h'.get? b=some o)(J:s.heap.get? l=none)(hL:mE h' l us.toArray k):
  St c (Sg.on ⟨lo,.lst l zs::as⟩ fr) (.ref l::xs) (.ref l::vs) {s with heap:=h',toks:=tk}:=
 S.EB (y:=.lst l zs) hk J hL λfz o=>⟨.lst (o.cut hl).1,.cons (.ref _) (o.cut hl).2⟩
theorem pX.rC{lo as}{a b:aA}{xs ys:List AV}{Q:AV->Sg->Prop}(ha:.lst a xs∈as)(hb:.lst b ys∈as)(hz:xs.length+ys.length<=900000)(q:∀l,Q (.ref l) ⟨lo,.lst l (xs++ys)::as⟩):pX c E ⟨lo,as⟩ (.ref a) (.ref b) (cV .Add) Q:=by
 intro fr zs vs va vb s S;refine cps λV V'=>?_;obtain⟨fz,o1,o2⟩:=S.two;obtain rfl:=o1.mV;obtain rfl:=o2.mV;refine(S.pop.pop.rW hb).elim λtu w9=>w9.elim λn2 w9=>w9.elim λg2 w9=>w9.elim λl2 S2=>?_;refine(S2.rW ha).elim λus w9=>w9.elim λn w9=>w9.elim λg1 w9=>w9.elim λl1 S1=>?_;refine V' ?_;refine W.of (PySem.P.add_list g1 g2 ⟨.ref s.heap.objs.size,_,?_,q _⟩ (by rw[bK,bK,l1,l2,cz];exact o55 hz l2 l1));rw[<-aj,<-aj]at S1;refine S1.EE (k:=0) (tk:=s.toks) (by simp[l1,l2]) (λb o e=>ay _ e) (get_none (bz _)) ?_;have:=iu s.heap (us.toArray++tu.toArray)
 simpa using this
end
section
variable {c:Cx}{σ:Sg}{d:Nat}{E:Ex}{ε:Env}
theorem pv.list{a:aA}{l:List AV}{i:Int}{y:AV}(hm:.lst a l∈σ.as)(h0:0<=i)(h1:i<2^63)(hy:l[i.toNat]?=some y):pv c σ (.ref a) (.int i) y:=by intro E fr xs vs vx vi s Q S k;obtain⟨fz,o1,o2⟩:=S.two;obtain rfl:=o1.mV;obtain⟨t,rfl⟩:=o2.int_inv;refine cps λV V'=>?_;refine(S.pop.pop.C2 hm hy).elim λus w9=>w9.elim λu w9=>w9.elim λhL w9=>w9.elim λhu S1=>?_;refine V' ?_;exact⟨"list",_,fA,hL.typeIs,lp hL h0 h1 hu (k u s S1)⟩
theorem pv.last{a:aA}{l:List AV}{y:AV}(hm:.lst a (l++[y])∈σ.as):pv c σ (.ref a) (.int (-1)) y:=by
 intro E fr xs vs vx vi s Q S k;refine cps λV V'=>?_;obtain⟨fz,o1,o2⟩:=S.two;obtain rfl:=o1.mV;refine o2.int_inv.elim λt e8=>?_;subst e8;refine(S.pop.pop.rW hm).elim λus w9=>w9.elim λn w9=>w9.elim λhl w9=>w9.elim λJ S1=>?_;obtain⟨oK,u,hL,hu,S2⟩:=S.pop.pop.C2 (i:=l.length) (y:=y) hm (by simp);refine V' ?_;have:oK=us.toArray:=by obtain⟨o,ho,_,n',hd⟩:=hL;have:o=_:=aE.inj (ho.symm.trans hl);subst this;cases hd;rfl
 subst this;refine⟨"list",_,fA,hL.typeIs,wpAny_getItem_list_neg hL (by decide) ?_ (by decide) ?_ (k u s S2)⟩
 ·simp only[bK,J,aa,eG];exact o66
 ·rw[show(-1+((us.toArray.size:Nat):Int)).toNat=l.length by simp only[bK,J,aa,eG];exact o65];exact hu
theorem pv.tup{l:List AV}{i:Int}{y:AV}(h0:0<=i)(h1:i<2^63)(hy:l[i.toNat]?=some y):pv c σ (.tup l) (.int i) y:=by
 intro E fr xs vs vx vi s Q S k;refine cps λV V'=>?_;obtain⟨fz,o1,o2⟩:=S.two;refine o2.int_inv.elim λt e8=>?_;subst e8;obtain⟨a,us,rfl,ht,hl,S2⟩:=S.pop.vp;refine V' ?_;have mY:i.toNat<l.length:=(fD.mp hy).1;obtain⟨pJ,hO⟩:∃fz,mL fz l us:=by refine S2.elim λg w9=>w9.elim λhg w9=>w9.elim λm w9=>w9.elim λown w9=>w9.elim λpJ I=>?_;exact⟨pJ,(I.st.cut hl).1⟩
 have hu:us[i.toNat]?=some us[i.toNat]:=aw (o64 hl mY);have S3:St c (σ.on fr) (y::xs) (us[i.toNat]::vs) s:=S2.hand λfz o=>by refine cps λV V'=>?_;refine(o.cut hl).elim λp q=>?_;obtain⟨v,hv,ov⟩:=p.get _ _ hy;refine V' ?_;rw[hu]at hv;cases hv;exact .cons ov q
 exact⟨"tuple",_,slot_tuple_getitem.lookup,ht.typeIs,getItem_tuple ht (o63 h0 h1) h1 (seqIndex_of (n:=us.toArray.size) h0 (o62 h0 h1 hl mY)) (by simpa using hu) (k _ s S3)⟩
theorem Op.ux{lo as}{a:aA}{l:List Int}{Q:AV->Sg->Prop}(ok:Ok c d)(hm:.lst a (l.map .int)∈as)(hr:∀n∈l,0<=n/\n<256)(hz:l.length<=900000)(q:Q (.bytes (l.map λn=>n.toNat.toUInt8)) ⟨lo,as⟩):
  Op c E ⟨lo,as⟩ [.ref a] (λus=>aF (.type "bytes") us) Q:=by
 intro fr ys vs us s S hl;obtain⟨w⟩:=q8 hl;refine cps λV V'=>?_;refine S.of.elim λfz o=>?_;obtain rfl:=o.mV;refine(S.pop.rW hm).elim λus w9=>w9.elim λn w9=>w9.elim λpD w9=>w9.elim λJ S1=>?_;refine V' ?_;obtain⟨Oe,hO⟩:∃fz,mL fz (l.map .int) us:=by refine S1.elim λg w9=>w9.elim λhg w9=>w9.elim λm w9=>w9.elim λown w9=>w9.elim λpJ I=>?_;exact⟨pJ,(I.st.cut J).1⟩
 refine W.of (call_bytes_ints pD.isList hO.ints hr (by rw[J,ah,cz];exact xn hz) (qh ok) λh' t k hk=>⟨_,_,?_,q⟩);refine(S.pop.keeps hk).push λfz=>?_;have:=Of.bytes (fz:=fz) (l.map λn=>n.toNat.toUInt8) t;rw[(by rfl:byteArr l=(l.map λn=>n.toNat.toUInt8).toArray)];exact this
theorem mQ.w8{a b:Int}(h0:0<b)(h1:b<1000000000):mQ c σ (.int a) (.int b) (cV .FloorDiv) (.int (a.fdiv b)):=.div (o61 h0 h1) (i_ (o60 h0 h1))
theorem Uz{b:Int}(h0:0<=b)(h1:b<2^64):aB.Int.intBits b<=64:=by
 unfold aB.Int.intBits;split
 ·exact o59
 ·have:b.natAbs.log2<64:=(Nat.log2_lt (by rename_i h;simp at h;exact o58 h0 h1 h)).mpr (Int.natAbs_lt_natAbs_of_nonneg_of_lt h0 h1);exact o57 this
theorem mQ.mulR{a b:Int}(h0:0<=b)(h1:b<2^64):mQ c σ (.int a) (.int b) (cV .Mult) (.int (a*b)):=.mul (.of_right (Uz h0 h1))
end
section
variable {c:Cx}{σ:Sg}{d:Nat}{E:Ex}{ε:Env}
theorem C5(ok:Ok c d):c.A.units+64<cLine:=by have:=ok.un;show c.A₀.units+3+64<9900;exact o71 this
theorem pX.mulL{lo as}{a:aA}{y:AV}{i:Int}{Q:AV->Sg->Prop}(hm:.lst a [y]∈as)(h0:0<=i)(h1:i<=1000)(q:∀l,Q (.ref l) ⟨lo,.lst l (cB i.toNat y)::as⟩):pX c E ⟨lo,as⟩ (.ref a) (.int i) (cV .Mult) Q:=by
 intro fr zs vs va vb s S;refine cps λV V'=>?_;obtain⟨fz,o1,o2⟩:=S.two;obtain rfl:=o1.mV;refine o2.int_inv.elim λu e8=>?_;subst e8;obtain⟨us,n,g1,l1,S1⟩:=S.pop.pop.rW hm;obtain⟨w⟩:=q8 l1;refine V' ?_;refine W.of (wpAny_binaryOp_repeat_ref (T:="list") (U:="int") rfl ⟨_,g1,rfl⟩ (λs'=>typeIs_int s' i u) noFill_list_mul F.fills_int_mul lN repeat_list F.slot_int_index.lookup
  (jE lN (typeIs_int s i u) F.entry_int_rmul (F.args_int_rmul_2 _ _) (int___rmul___int_list i u a _ n)
   ⟨g1,rfl,⟨_,g1,rfl⟩,jE F.slot_list_mul ⟨_,g1,rfl⟩ F.entry_list_mul (F.args_list_mul_2 _ _)
    (AutoListH.list___mul___list_int_3 a _ n i u (by simp[aB.List.listFitsIndex];exact o70 h0 h1) (by simp;exact o69 h0 h1) (by simp[aB.List.listTooLong,e0];exact o68 h0 h1))
    ⟨g1,.ref s.heap.objs.size,_,?_,q _⟩⟩))
 have e:List.foldl (λx1 x2=>x1++x2) #[] (cB (if([w].toArray).isEmpty=true then 0 else i.toNat) [w].toArray)=(cB i.toNat w).toArray:=by rw[listMul_foldl];simp
 rw[e];have S2:St c (Sg.on ⟨lo,as⟩ fr) (cB i.toNat y++zs) (cB i.toNat w++vs) s:=S1.hand λfz o=>by
  cases o with
  |cons a b=>
   clear S1 S q e h0 h1 g1 o2;generalize i.toNat=k;induction k with
   |zero=>exact b
   |succ k ih=>rw[jU,jU];exact .cons a ih
 exact S2.EE (k:=0) (tk:=s.toks) (by simp) (λb o e=>ay _ e) (get_none (bz _)) (iu s.heap _)
theorem pX.Og(ok:Ok c d)(ha:.lst a xs∈σ.as)(hb:.lst b []∈σ.as)(q:Q (.bool (decide (xs≠[]))) σ):pX c E σ (.ref a) (.ref b) (bY .NotEq) Q:=by
 intro fr zs vs va vb s S;refine cps λV V'=>?_;obtain⟨fz,o1,o2⟩:=S.two;obtain rfl:=o1.mV;obtain rfl:=o2.mV;obtain⟨tu,n2,g2,l2,S2⟩:=S.pop.pop.rW hb;obtain⟨us,n,g1,l1,S1⟩:=S.pop.pop.rW ha;obtain rfl:tu=[]:=dp.mp l2;refine V' ?_;have hu:=C5 ok;have hu:c.A.units<cLine:=NH hu;have fin:aJ c.M c.A (richCompare .NotEq (.ref a) (.ref b)) (Got c fr zs vs Q) (E.go fr zs vs) s:=by
  cases xs with
  |nil=>obtain rfl:us=[]:=dp.mp l1;refine eJ (op:=.NotEq) ⟨_,g1,rfl⟩ ⟨_,g2,rfl⟩ gD gk (f_ _ _) (ku a b _ _ n n2 _ _ _ _ rfl λO=>true) ⟨g1,g2,λj h1 O=>absurd h1 (iT _),(λx=>nomatch x),_,_,S.pop.pop.push λO=>?_,q⟩ hu;exact .bool _
  |cons x xs=>
   refine eJ (op:=.NotEq) ⟨_,g1,rfl⟩ ⟨_,g2,rfl⟩ gD gk (f_ _ _) (ji a b _ _ n n2 _ _ _ _ (by simp[l1])) ⟨g1,g2,(λx=>nomatch x),_,_,S.pop.pop.push λO=>?_,q⟩ hu;have:decide (x::xs≠[])=true:=by rfl
   rw[this];exact .bool _
 exact W.of fin
theorem WE.yr(ok:Ok c d)(h:WE c E σ (aT l c.env) λx mM=>∃a xs,x=.ref a/\.lst a xs∈mM.as/\∀b,Q (.bool (decide (xs≠[]))) ⟨mM.lo,.lst b []::mM.as⟩):WE c E σ (aT (.Compare l [.NotEq] [.List [] p'] p) c.env) Q:=by refine .cmp (h.mono ?_);rintro x mM ⟨a,xs,rfl,hm,q⟩;exact .list (.nil ⟨by decide,λb=>.Og ok (.tail _ hm) (.head _) (q b)⟩)
theorem WT.tY(h:WE c E σ (aT l c.env) λx mM=>WE c E mM (aT r c.env) λy mT=>pX c E mT x y (bY op) λz q_=>∃b,z=.bool b/\Q b q_)(hm:autoParam (dU op r=false) aR):WT c E σ (.Compare l [op] [r] pos) Q:=by intro fr xs vs s S;refine W.CN (h.run S λx mM va s1 w S1=>w.run' S1 λy mT vb s2 w2 S2=>(w2.go fr xs vs va vb s2 S2).mono ?_ λO O e=>e) hm;intro v s' V0;refine cps λV V'=>?_;obtain⟨z,mF,S',b,rfl,q⟩:=V0;refine V' ?_;refine S'.of.elim λfz o=>?_;rw[o.bool_inv];exact W.of (dh ⟨mF,S'.pop,q⟩)
theorem WT.yr(ok:Ok c d)(h:WE c E σ (aT l c.env) λx mM=>∃a xs,x=.ref a/\.lst a xs∈mM.as/\∀b,Q (decide (xs≠[])) ⟨mM.lo,.lst b []::mM.as⟩):WT c E σ (.Compare l [.NotEq] [.List [] p'] p) Q:=by refine .tY (h.mono ?_);rintro x mM ⟨a,xs,rfl,hm,q⟩;exact .list (.nil ⟨by decide,λb=>.Og ok (.tail _ hm) (.head _) ⟨_,rfl,q b⟩⟩)
theorem Si:lU (.type "bytes") (.type "bytes")=pure true:=kn
theorem Ra:gp (.type "bytes")=pure (.type "type"):=by kernel_rfl
theorem Op.isBytes(q:Q (.bool true) σ):Op c E σ [.bytes b,.val (.type "bytes")] (λus=>aF (.builtin "isinstance") us) Q:=by intro fr ys vs us s S hl;obtain⟨u1,u2⟩:=qn hl;obtain⟨fz,o1,o2⟩:=(S.hand (xs':=[.val (.type "bytes"),.bytes b]++ys) (vs':=[u2,u1]++vs) λfz o=>by have a:=o.hd;replace o:=o.tl;have b:=o.hd;replace o:=o.tl;exact .cons b (.cons a o)).two;refine o1.qR.elim λt e8=>?_;subst e8;obtain rfl:=o2.val_inv;exact W.of (call_isinstance (isinstance_true (Tx:="bytes") Ra Si) ⟨bT _ _ _,_,_,S.pop.pop.push λO=>.bool true,q⟩)
theorem oB.abs:oB c σ (.int i) (λv=>aF (.builtin "abs") [v]) (.int (if i<0 then -i else i)):=by intro E fr xs vs v s Q S k;refine S.of.elim λfz o=>?_;refine o.int_inv.elim λt e8=>?_;subst e8;exact call_abs_int λu tk=>k _ _ ((S.pop.push λO=>.int _ u).tok _)
theorem Jc(l:List Int):∀j,preSum (λi=>l.getD i 0) j=(l.take j).sum:=preSum_getD l
theorem Op.sum{lo as}{a:aA}{l:List Int}{Q:AV->Sg->Prop}(ok:Ok c d)(hm:mH.lst a (l.map .int)∈as)(hf:iy l)(q:Q (.int l.sum) ⟨lo,as⟩):Op c E ⟨lo,as⟩ [.ref a] (λus=>aF (.builtin "sum") us) Q:=by
 intro fr ys vs us s S hl;obtain⟨w⟩:=q8 hl;obtain⟨fz,o⟩:=S.of;obtain rfl:=o.mV;obtain⟨us,n,g1,l1,S1⟩:=S.pop.rW hm;obtain⟨Oe,hO⟩:∃fz,mL fz (l.map .int) us:=by refine S1.elim λg w9=>w9.elim λhg w9=>w9.elim λm w9=>w9.elim λown w9=>w9.elim λpJ I=>?_;exact⟨pJ,(I.st.cut l1).1⟩
 refine W.of (call_sum_walk (fU g1.isList ?_));have H1:(s.heap.push {cls:=.type "list_iterator",data:=.fields #[.ref a,.int 0 0]}).IsListIter s.heap.objs.size a 0:=⟨_,bb.get?_push_size _ rfl,rfl,rfl⟩;have H2:(s.heap.push {cls:=.type "list_iterator",data:=.fields #[.ref a,.int 0 0]}).IsList a us.toArray:=g1.isList.push _;refine⟨s.heap.objs.size,_,_,_,_,_,λi=>l.getD i 0,rfl,Walks.list (A:=c.A.in1) (qh ok) s.heap.objs.size a (bC (a_ g1)) us.toArray,⟨H1,H2⟩,λb hb=>?_,λi v hv=>?_,λj hj=>?_,λh' tk t' hk=>⟨.int l.sum,_,?_,q⟩⟩
 ·rw[bb.size_push];simp only[aL,bA,or_false]at hb;rcases hb with rfl|rfl
  ·exact b_ _
  ·exact c_ (a_ g1)
 ·have hv:us[i]?=some v:=by simpa using hv
  obtain⟨y,hy,oy⟩:=hO.acj _ _ hv;rw[bc,ek]at hy;obtain⟨n,J,rfl⟩:=hy;obtain⟨t,rfl⟩:=oy.int_inv;exact⟨t,by dsimp only;rw[cw,J];rfl⟩
 ·have hj:j<l.length:=by simpa [l1] using hj
  have:=hf j hj;rw[Jc];exact this
 ·have hz:us.toArray.size=l.length:=by simp[l1]
  rw[hz,Jc,cT];exact(S.pop.keeps (h':=h') (t:=tk) λb o e=>hk b o (by rw[ao];exact bC (a_ e)) (ay _ e)).push λO=>.int _ _
end
section
variable {c:Cx}{σ:Sg}{d:Nat}{E:Ex}{ε:Env}
inductive sC(as:List mH):AV->List AV->Prop
 |own {a l}:.lst a l∈as->sC as (.ref a) l
 |ng {l}:sC as (.lst l) l
theorem St.Ky{xs vs}{s:ai}{l:List AV}{v:Value}(S:St c (σ.on fr) (.lst l::xs) (v::vs) s):∃a us,v=.ref a/\(∃o n,s.heap.get? a=some o/\o.cls=.type "list"/\o.data=.seq us.toArray n)/\us.length=l.length/\St c (σ.on fr) (l++.lst l::xs) (us++v::vs) s:=by
 refine cps λV V'=>?_;obtain⟨g,hg,m,own,fz,I⟩:=S;refine V' ?_;cases I.st with
 |cons o1 o2=>
  cases o1 with
  | @lst _ us a o n hm hc hd ho=>exact⟨a,us,rfl,⟨o,n,(I.N _ (aS _ hm)).1,hc,hd⟩,ho.length.symm,g,hg,m,own,fz,I.F,I.lo,I.N,I.nd,I.sat,ho.append I.st,I.same⟩
theorem St.yj{xs vs}{s:ai}{x:AV}{l:List AV}{v:Value}(S:St c (σ.on fr) (x::xs) (v::vs) s)(h:sC σ.as x l):∃a us,v=.ref a/\s.heap.IsList a us.toArray/\us.length=l.length/\St c (σ.on fr) (l++x::xs) (us++v::vs) s:=by
 cases h with
 | @own a _ hm=>obtain⟨fz,o⟩:=S.of;obtain rfl:=o.mV;refine(S.rW hm).elim λus w9=>w9.elim λn w9=>w9.elim λhl w9=>w9.elim λJ S1=>?_;exact⟨a,us,rfl,hl.isList,J,S1⟩
 |ng=>refine cps λV V'=>?_;obtain⟨a,us,rfl,⟨o,n,ho,hc,hd⟩,J,S1⟩:=S.Ky;refine V' ?_;exact⟨a,us,rfl,⟨o,ho,hc,n,hd⟩,J,S1⟩
theorem St.pick{xs ys vs ws}{s:ai}{i:Nat}{x:AV}(S:St c (σ.on fr) (ys++xs) (ws++vs) s)(hl:ws.length=ys.length)(hx:ys[i]?=some x):∃w,ws[i]?=some w/\St c (σ.on fr) (x::xs) (w::vs) s:=by have pL:i<ws.length:=yX hl ((fD.mp hx).1);have hu:ws[i]?=some ws[i]:=aw pL;refine⟨_,hu,S.hand λfz o=>?_⟩;refine cps λV V'=>?_;refine(o.cut hl).elim λp q=>?_;obtain⟨v,hv,ov⟩:=p.get _ _ hx;refine V' ?_;rw[hu]at hv;cases hv;exact .cons ov q
theorem oB.Nc(h:sC σ.as x l)(hz:l.length<=16000000):oB c σ x (λv=>aF (.builtin "len") [v]) (.int l.length):=by
 intro E fr xs vs v s Q S k;obtain⟨a,us,rfl,hL,J,S1⟩:=S.yj h;have e:(us.toArray.size:Int)=l.length:=by simp[J]
 refine call_len_list hL (by rw[e];exact EY hz) ?_;rw[e];exact k _ _ ((S.pop.push λO=>.int _ _).tok _)
theorem pv.lst(h:sC σ.as x l)(h0:0<=i)(h1:i<2^63)(hy:l[i.toNat]?=some y):pv c σ x (.int i) y:=by
 intro E fr xs vs vx vi s Q S k;obtain⟨fz,o1,o2⟩:=S.two;refine o2.int_inv.elim λt e8=>?_;subst e8;obtain⟨a,us,rfl,hL,J,S1⟩:=S.pop.yj h;obtain⟨w,hw,S2⟩:=(S1.hand (xs':=l++xs) (vs':=us++vs) λfz o=>by
  refine(o.cut J).elim λp q=>?_
  cases q with|cons _ q=>exact p.append q).pick J hy
 exact⟨"list",_,fA,hL.typeIs,lp hL h0 h1 (by simpa using hw) (k w s S2)⟩
@[irreducible] def Src(c:Cx)(σ:Sg)(x:AV)(l:List AV):Prop:=
 ∀{fr xs vs s v},St c (σ.on fr) (x::xs) (v::vs) s->∃a us,v=.ref a/\s.heap.IsList a us.toArray/\us.length=l.length/\St c (σ.on fr) (l++x::xs) (us++v::vs) s
theorem Src.go(self:Src c σ x l):∀{fr xs vs s v},St c (σ.on fr) (x::xs) (v::vs) s->∃a us,v=.ref a/\s.heap.IsList a us.toArray/\us.length=l.length/\St c (σ.on fr) (l++x::xs) (us++v::vs) s:=by with_unfolding_all exact self
theorem sC.src(h:sC σ.as x l):Src c σ x l:=by intro fr xs vs s v S;exact S.yj h
theorem Src.base(ok:Ok c d)(hb:c.base.IsList a us.toArray)(hi:d6 us l):Src c σ (.ref a) (l.map .int):=by
 intro fr xs vs s v S;obtain⟨fz,o⟩:=S.of;obtain rfl:=o.mV;have o:=EC (fz:=fz) hi;refine hb.elim λob w9=>w9.elim λho h1=>?_;have hk:s.heap.get? a=some ob:=by refine S.elim λg w9=>w9.elim λhg w9=>w9.elim λm w9=>w9.elim λown w9=>w9.elim λfz I=>?_;exact I.F.keep _ _ ((ok.on hg).B.stays _ _ ho)
 exact⟨a,us,rfl,⟨ob,hk,h1⟩,o.length.symm,S.hand λfz o=>(EC hi).append o⟩
theorem WE.Nd(h:WE c E σ (aT o c.env) λx mM=>∃l,Src c mM x l/\l.length<=900000/\∀a,Q (.ref a) ⟨mM.lo,.lst a l.reverse::mM.as⟩):
  WE c E σ (aT (.Subscript o (.Slice Option.none Option.none (some (.UnaryOp .USub (.Constant (.int 1) k1 q1) q2)) p) pos) c.env) Q:=by
 intro fr xs vs s S;refine W.Subscript (h.run S λx mM v s1 q S1=>W.Slice (W.pure (W.pure ?_)));refine q.elim λl w9=>w9.elim λhl w9=>w9.elim λhz q=>?_;refine(Ev.neg (i:=1) (k:=k1) (pos:=q1) (pos':=q2)).go (E.go fr xs vs) fr (x::xs) (v::vs) s1 _ S1 λw s2 S2=>?_;refine cps λV V'=>?_;refine S2.of.elim λfz o=>?_;refine o.int_inv.elim λt e8=>?_;subst e8;obtain⟨a,us,rfl,hL,J,S3⟩:=hl.go S2.pop;refine V' ?_;have S4:St c (mM.on fr) (l.reverse++xs) (us.reverse++vs) s2:=S3.hand λfz o=>by refine(o.cut J).elim λp q=>?_;cases q with|cons _ q=>exact p.reverse.append q
 refine W.of (Ay ⟨"list",_,fA,hL.push _ |>.typeIs,wpAny_getItem_list_slice (hL.push _) (bb.IsSliceOf.new _ _ _ _) .none .none (.int (-1) t) (by decide) ⟨.ref (s2.heap.push {cls:=.type "slice",data:=.fields #[.none,.none,.int (-1) t]}).objs.size,_,?_,q _⟩ (by rw[bK,J,cz];exact NJ hz J)⟩ rfl);rw[krv_pick];refine S4.EE (k:=0) (tk:=s2.toks) (by simp[J]) (λb o e=>ay _ (ay _ e)) (get_none (by rw[bb.size_push];exact fL _)) ?_;exact iu (s2.heap.push _) us.reverse.toArray
theorem WE.rev(h:WE c E σ (aT o c.env) λx mM=>∃l,sC mM.as x l/\l.length<=900000/\∀a,Q (.ref a) ⟨mM.lo,.lst a l.reverse::mM.as⟩):
  WE c E σ (aT (.Subscript o (.Slice Option.none Option.none (some (.UnaryOp .USub (.Constant (.int 1) k1 q1) q2)) p) pos) c.env) Q:=
 .Nd (h.mono λx mM k9=>by obtain⟨l,hl,q⟩:=k9;exact⟨l,hl.src,q⟩)
theorem oE.ng{lo as}{l:List AV}:∀{P:AV->Sg->Prop},(∀it,P (.ref it) ⟨lo,.fit it (.lst l) 0::as⟩)->oE c ⟨lo,as⟩ (.lst l) P:=by intro P hP;intro E fr xs vs v s Q S k;refine cps λV V'=>?_;obtain⟨a,us,rfl,⟨o,n,ho,hc,hd⟩,J,S1⟩:=S.Ky;refine V' ?_;refine fU ⟨o,ho,hc,n,hd⟩ (k (.ref s.heap.objs.size) ⟨lo,.fit s.heap.objs.size (.lst l) 0::as⟩ _ _ (hP _) ?_);exact S.alloc (y:=.fit s.heap.objs.size (.lst l) 0) (o:={cls:=.type "list_iterator",data:=.fields #[.ref a,.int 0 0]}) (tk:=s.toks) rfl λfz o=>⟨.fit rfl rfl (by cases o;assumption),.cons (.ref _) o⟩
theorem St.Lr {lo as as' xs vs} {s : ai} {it : aA} {l : List AV} {i j : Nat} (S : St c ⟨lo, as⟩ xs vs s) (R : Rep (.fit it (.lst l) i) (.fit it (.lst l) j) as as') : ∃ a us, s.heap.IsListIter it a i ∧ s.heap.IsList a us.toArray ∧ us.length = l.length ∧ it ≠ a ∧
  ∀ h', h'.IsListIter it a j → bb.ExtBut it s.heap h' → St c ⟨lo, as'⟩ (l ++ xs) (us ++ vs) { s with heap := h' } := by
 refine S.elim fun g w9 => w9.elim fun hg S0 => ?_
 refine cps fun V V' => ?_
 obtain ⟨m, fz, cl, F, K, gt, mI, nd, nw, xp, back⟩ := S0.at R
 refine V' ?_
 obtain ⟨o, v, hc, hd, hv⟩ := K
 cases hv with
 | @lst _ us a ol n hm nj Oh ho =>
  have e1 : s.heap.get? a = some ol := xp _ hm
  have e2 : s.heap.get? it = some o := gt _ (.head _)
  have oR : it ≠ a := fun q => by
   subst q
   rw [e1] at e2
   cases e2
   rw [hc] at nj
   exact absurd nj (by decide)
  refine ⟨a, us, ⟨o, e2, hc, hd⟩, ⟨ol, e1, nj, n, Oh⟩, ho.length.symm, oR, fun h' hit hx => ?_⟩
  refine hit.elim fun o' w9 => w9.elim fun g' w9 => w9.elim fun c' d' => ?_
  refine ⟨g, hg, back { s with heap := h' } [(it, o')] _ _ (.fit c' d' (.lst hm nj Oh ho)) rfl (fun p hp => ?_) (fun b hb o e => hx b o (fun q => hb (by simp [q])) e) ⟨rfl, rfl, rfl⟩ (ho.append mI)⟩
  simp only [ao] at hp
  subst hp
  exact g'
theorem Iter.ng{lo as as'}{l:List AV}{it:aA}{i:Nat}{y:AV}(R:Rep (.fit it (.lst l) i) (.fit it (.lst l) (i+1)) as as')(hx:l[i]?=some y):Iter c ⟨lo,as⟩ (.ref it) (some y) ⟨lo,as'⟩:=by intro E fr xs vs v s Q S k;refine S.of.elim λfz o=>?_;obtain rfl:=o.mV;refine(S.Lr (R.on fr)).elim λa w9=>w9.elim λus w9=>w9.elim λhit w9=>w9.elim λhL w9=>w9.elim λJ w9=>w9.elim λoR back=>?_;have mY:i<l.length:=(fD.mp hx).1;refine gm hit hL (x:=us[i]'(yX J mY)) (by simp[J,mY]) λh' Ez hs=>k _ _ ?_;have:=(back h' Ez hs.extBut).pick (σ:=⟨lo,as'⟩) (fr:=fr) J hx;obtain⟨w,hw,S1⟩:=this;rw[aw (yX J mY)]at hw;cases hw;exact S1
theorem Iter.vm{lo as as'}{l:List AV}{it:aA}{i:Nat}(ok:Ok c d)(R:nt (.fit it (.lst l) i) as as')(hx:l[i]?=none):Iter c ⟨lo,as⟩ (.ref it) none ⟨lo,as'⟩:=by
 intro E fr xs vs v s Q S k;refine S.of.elim λfz o=>?_;obtain rfl:=o.mV;have hR:Rep (.fit it (.lst l) i) (.fit it (.lst l) i) as as:=by
  clear k S o hx;induction R with
  |head=>exact .head
  |tail _ ih=>exact .tail ih
 refine cps λV V'=>?_;refine(S.Lr (hR.on fr)).elim λa w9=>w9.elim λus w9=>w9.elim λhit w9=>w9.elim λhL w9=>w9.elim λJ w9=>w9.elim λoR O=>?_;refine V' ?_;refine cps λV V'=>?_;obtain⟨cl,fz,K,gt,back⟩:=S.forget (R.on fr);refine V' ?_;obtain⟨_,_,_,_,_⟩:=K;refine gA (qh ok) hit hL ?_ λh' he=>k _ (back _ (λq hq o e=>he q o (λe=>hq (by simp[e])) e) ⟨rfl,rfl,rfl⟩);simp only[d7]at hx ⊢;simp;exact NI J hx
theorem pn.ng(hm:.fit it l i∈σ.as):pn c σ (.ref it):=by intro E fr xs vs v s Q S k;refine S.of.elim λfz o=>?_;obtain rfl:=o.mV;obtain⟨g₁,m,fz,cl,hg,F,K,gt,mI,nd,nw,_,back⟩:=S.at (Rep.refl (ax fr hm));obtain⟨o,v,hc,hd,hv⟩:=K;have hT:s.TypeIs (.ref it) "list_iterator":=⟨o,gt _ (.head _),hc⟩;refine wpAny_pyIter_slot hT lr (eU lr hT entry_listiter_iter ?_ (args_listiter_iter _));exact ak ⟨_,rfl,"list_iterator",_,hT,slot_listiter_next.lookup,k s S⟩
end
section
variable {c:Cx}{σ:Sg}{d:Nat}{E:Ex}{ε:Env}
theorem Op.extend{lo as as'}{a b:aA}{xs ys:List AV}{Q:AV->Sg->Prop}(R:Rep (.lst a xs) (.lst a (xs++ys)) as as')(hb:.lst b ys∈as)(hz:xs.length+ys.length<=900000)(q:Q .none ⟨lo,as'⟩):Op c E ⟨lo,as⟩ [.ref a,.ref b] (λus=>aF (.builtin "list.extend") us) Q:=by
 intro fr zs vs us s S hl;refine cps λV V'=>?_;obtain⟨w1,w2⟩:=qn hl;obtain⟨fz0,o1,o2⟩:=(S.hand (xs':=[.ref b,.ref a]++zs) (vs':=[w2,w1]++vs) λfz o=>by have a:=o.hd;replace o:=o.tl;have b:=o.hd;replace o:=o.tl;exact .cons b (.cons a o)).two;obtain rfl:=o1.mV;obtain rfl:=o2.mV;refine(S.pop.pop.rW hb).elim λtu w9=>w9.elim λn2 w9=>w9.elim λg2 w9=>w9.elim λl2 S2=>?_;refine(S2.xY (R.on fr)).elim λus w9=>w9.elim λn w9=>w9.elim λfz w9=>w9.elim λg1 w9=>w9.elim λho w9=>w9.elim λhx back=>?_;refine(hx.cut l2).elim λp q'=>?_;refine V' ?_;have qd:=ho.length;refine W.of (jE iS ⟨_,g1,rfl⟩ PySem.F.entry_list_extend (PySem.F.args_list_extend_2 _ _) (AutoSeq1.list_extend_list_list_0 a us.toArray n b tu.toArray n2 ?_ ?_ ?_) ⟨g1,g2,.none,⟨lo,as'⟩,?_,q⟩)
 ·rw[b5,not_and];intro _;simp[aB.List.listTooLong,e0,l2,<-qd];exact o76 hz l2 qd
 ·exact o75 hz l2 qd
 ·exact o74 hz l2 qd
 refine(mE.grown g1 (λxs=>xs++tu.toArray) (items':=(us++tu).toArray) (by simp)).elim λn' J=>?_;exact back _ (us++tu) n' _ _ (ho.append p) J (CW _) ⟨rfl,rfl,rfl⟩ (.cons .none q')
noncomputable abbrev sT(d:aA)(i n ep:Nat):Obj->Prop:=λo=>o.cls=.type "dict_keyiterator"/\o.data=.fields #[.ref d,.int i 0,.int n 0,.int ep 0]
theorem Sj{es ep}{h:bb}{a:aA}{p:Program}{w:cL}(hd:o.IsDictOf (cf p w) kvs)(he:o.data=.dict es ep)(g:h.get? a=some o):h.DictAt (cf p w) a kvs ep:=by refine cps λV V'=>?_;obtain⟨BP,Oa,h1,h2,h3,h4,h5⟩:=hd;refine V' ?_;rw[he]at h2;cases h2;exact⟨o,es,g,h1,he,h3,h4,h5⟩
theorem St.front{lo as oM xs vs}{s:ai}{x:mH}(S:St c ⟨lo,as⟩ xs vs s)(R:nt x as oM):St c ⟨lo,x::oM⟩ xs vs s:=by
 refine cps λV V'=>?_;refine S.elim λg w9=>w9.elim λhg w9=>w9.elim λm w9=>w9.elim λown w9=>w9.elim λfz I=>?_;refine V' ?_;obtain⟨pre,xu,post,k,r⟩:=I.sat.del R;refine⟨g,hg,m,xu++(pre++post),fz,I.F,I.lo,λp hp=>I.N p ?_,?_,.cons k (r fz λO h=>h),I.st,I.same⟩
 ·simp only[aH]at hp ⊢;rcases hp with(h|h|h)|h
  ·exact .inl (.inr (.inl h))
  ·exact .inl (.inl h)
  ·exact .inl (.inr (.inr h))
  ·exact .inr h
 ·refine bX.nodup ?_ I.nd;simp only[au];refine bX.append_right _ ?_;rw[<-aj,<-aj];exact bX.append_right _ bw
theorem St.vu{lo as oM xs vs}{s:ai}{a:aA}{f:List (Int×AV)}(S:St c ⟨lo,as⟩ xs vs s)(R:nt (.mO a f) as oM):∃ep,St c ⟨lo,.oP a f ep::oM⟩ xs vs s:=by
 refine cps λV V'=>?_;obtain⟨g,hg,m,own,fz,I⟩:=S.front R;refine V' ?_;cases I.sat with
 |cons k r=>refine cps λV V'=>?_;obtain⟨kvs,o,hi,hd,hs⟩:=k;refine(id (hd PW c.w)).elim λes w9=>w9.elim λep w9=>w9.elim λO w9=>w9.elim λhe O=>?_;refine V' ?_;exact⟨ep,g,hg,m,_,fz,I.F,I.lo,I.N,I.nd,.cons (.oP hi hd hs he) r,I.st,I.same⟩
theorem St.vv{lo as as' xs vs}{s:ai}{a:aA}{f:List (Int×AV)}{ep:Nat}(S:St c ⟨lo,as⟩ xs vs s)(R:Rep (.oP a f ep) (.mO a f) as as'):St c ⟨lo,as'⟩ xs vs s:=by refine cps λV V'=>?_;obtain⟨g₁,m,fz,cl,hg,F,K,gt,mI,nd,nw,_,back⟩:=S.at R;obtain⟨_,_,_,hi,hd,hs,he⟩:=K;refine V' ?_;exact back s _ _ _ (.mO hi hd hs) rfl gt (λO O O h=>h) ⟨rfl,rfl,rfl⟩ mI
theorem WE.vu{lo as oM}{a:aA}{f:List (Int×AV)}{Q:AV->Sg->Prop}(R:nt (.mO a f) as oM)(h:∀ep,WE c E ⟨lo,.oP a f ep::oM⟩ t Q):WE c E ⟨lo,as⟩ t Q:=by intro fr xs vs s S;refine(S.vu (R.on fr)).elim λep S'=>?_;exact(h ep).go fr xs vs s S'
theorem WS.vu{lo as oM}{a:aA}{f:List (Int×AV)}{Q:Out->Sg->Prop}(R:nt (.mO a f) as oM)(h:∀ep,WS c E ⟨lo,.oP a f ep::oM⟩ t Q):WS c E ⟨lo,as⟩ t Q:=by intro fr xs vs s S;refine(S.vu (R.on fr)).elim λep S'=>?_;exact(h ep).go fr xs vs s S'
theorem WS.vv{lo as as'}{a:aA}{f:List (Int×AV)}{ep:Nat}{Q:Out->Sg->Prop}(R:Rep (.oP a f ep) (.mO a f) as as')(h:WS c E ⟨lo,as'⟩ t Q):WS c E ⟨lo,as⟩ t Q:=by intro fr xs vs s S;exact h.go fr xs vs s (S.vv (R.on fr))
inductive U_(Q:AV->Sg->Prop)(x:AV)(σ:Sg):Prop
 |mk (a f ep as') (R:Rep (.oP a f ep) (.mO a f) σ.as as') (q:Q x ⟨σ.lo,as'⟩)
theorem WE.vv(h:WE c E σ t (U_ Q)):WE c E σ t Q:=by intro fr xs vs s S;refine(h.go fr xs vs s S).mono ?_ λO O e=>e;rintro v s' ⟨x,mF,S',a,f,ep,as',R,q⟩;exact⟨x,⟨mF.lo,as'⟩,S'.vv (R.on fr),q⟩
theorem pv.oP(hm:.oP a f ep∈σ.as)(hf:pR f i=some z):pv c σ (.ref a) (.int i) z:=by
 intro E fr xs vs vx vi s Q S k;obtain⟨fz,o1,o2⟩:=S.two;obtain rfl:=o1.mV;obtain⟨t,rfl⟩:=o2.int_inv;refine cps λV V'=>?_;obtain⟨g₁,m,fz,cl,hg,F,K,gt,mI,nd,nw,xp,back⟩:=S.at (Rep.refl (ax fr hm));obtain⟨kvs,ob,_,hi,hd,o_,he⟩:=K;refine(hi.find hf).elim λv w9=>w9.elim λhv ov=>?_;refine V' ?_;have D:s.heap.DictOf (cf PW c.w) a kvs:=bb.dictOf_iff.mpr ⟨ob,gt _ (.head _),hd _ _⟩;have q1:=mI.hd;replace mI:=mI.tl;have q2:=mI.hd;replace mI:=mI.tl;exact⟨"dict",_,lF.lookup,D.typeIs,lQ (knd:=cf PW c.w) (k:=i) (by simp[cf,hV]) D.mapOf hv (k _ _
  (back _ _ _ _ (.oP hi hd o_ he) rfl gt (λO O O q=>q) ⟨rfl,rfl,rfl⟩ (.cons ov mI)))⟩
theorem St.Dv{xs vs s}{a:aA}{f:List (Int×AV)}{ep:Nat}{fr:List mH}(S:St c (σ.on fr) xs vs s)(hm:.oP a f ep∈σ.as):∃kvs fz,(a==eA)=false/\s.heap.DictAt (cf PW c.w) a kvs ep/\nS fz f kvs:=by refine cps λV V'=>?_;obtain⟨g₁,m,fz,cl,hg,F,K,gt,_⟩:=S.at (Rep.refl (ax fr hm));obtain⟨kvs,ob,_,hi,hd,o_,he⟩:=K;refine V' ?_;exact⟨kvs,fz,o_,Sj (hd _ _) he (gt _ (.head _)),hi⟩
theorem oE.dict{lo as}{a:aA}{f:List (Int×AV)}{ep:Nat}(hm:.oP a f ep∈as):∀{P:AV->Sg->Prop},(∀it,P (.ref it) ⟨lo,.is it (sT a 0 f.length ep)::as⟩)->oE c ⟨lo,as⟩ (.ref a) P:=by intro P hP;intro E fr xs vs v s Q S k;refine S.of.elim λfz o=>?_;obtain rfl:=o.mV;refine(S.Dv hm).elim λkvs w9=>w9.elim λm5 w9=>w9.elim λo_ w9=>w9.elim λhd hi=>?_;refine lC o_ hd (k (.ref s.heap.objs.size) ⟨lo,.is s.heap.objs.size (sT a 0 f.length ep)::as⟩ _ _ (hP _) ?_);exact S.alloc (o:={cls:=.type "dict_keyiterator",data:=.fields #[.ref a,.int 0 0,.int kvs.length 0,.int ep 0]}) (tk:=s.toks) rfl λfz o=>⟨.is ⟨rfl,by rw[hi.len];rfl⟩,.cons (.ref _) o⟩
theorem pn.dict(hm:.is it (sT a i n ep)∈σ.as):pn c σ (.ref it):=by intro E fr xs vs v s Q S k;refine S.of.elim λfz o=>?_;obtain rfl:=o.mV;obtain⟨g₁,m,fz,cl,hg,F,K,gt,mI,nd,nw,_,back⟩:=S.at (Rep.refl (ax fr hm));obtain⟨ob,hp⟩:=K;exact wpAny_pyIter_keyiter ⟨ob,gt _ (.head _),hp⟩ (k s S)
theorem nS.at{f kvs}{i:Nat}{k:Int}{z:AV}(h:nS fz f kvs):f[i]?=some (k,z)->∃v,kvs[i]?=some (k,v):=
 h.rec (motive:=λf kvs _=>∀i:Nat,f[i]?=some (k,z)->∃v,kvs[i]?=some (k,v)) (λi q=>nomatch q) (λa O ih i q=>by
  cases i with
  |zero=>cases q;exact⟨_,rfl⟩
  |succ i=>exact ih i q) i
theorem Iter.dict{lo as as'}{a it:aA}{f:List (Int×AV)}{i ep:Nat}{k:Int}{z:AV}(hm:.oP a f ep∈as)(R:Rep (.is it (sT a i f.length ep)) (.is it (sT a (i+1) f.length ep)) as as')(hx:f[i]?=some (k,z)):Iter c ⟨lo,as⟩ (.ref it) (some (.int k)) ⟨lo,as'⟩:=by
 intro E fr xs vs v s Q S q;refine cps λV V'=>?_;refine S.of.elim λfz o=>?_;obtain rfl:=o.mV;refine(S.Dv hm).elim λkvs w9=>w9.elim λm5 w9=>w9.elim λo_ w9=>w9.elim λhd hi=>?_;refine(hi.at hx).elim λu hu=>?_;obtain⟨g₁,m,fz,cl,hg,F,K,gt,mI,nd,nw,_,back⟩:=S.at (R.on fr);obtain⟨ob,hp⟩:=K;refine V' ?_;refine wpAny_pyNext_dict_item (knd:=cf PW c.w) (i:=i) ⟨ob,gt _ (.head _),by rw[hi.len];exact hp⟩ hd hu λkey h' hk hit hs=>?_;obtain⟨t,rfl⟩:∃t,key=.int k t:=by
  cases key<;>simp[cf,hV]at hk
  subst hk;exact⟨_,rfl⟩
 refine q _ _ ?_;refine hit.elim λv8 w9=>w9.elim λg' oo=>?_;rw[hi.len]at oo;refine back _ [(it,v8)] _ _ (.is oo) rfl (λp hp=>?_) (λb hb o e=>?_) ⟨rfl,rfl,rfl⟩ (.cons (.int _ _) mI)
 ·simp only[ao]at hp;subst hp;exact g'
 ·exact(hs.2 b (λe=>hb (by simp[e]))).trans e
theorem Iter.JT{lo as as'}{a it:aA}{f:List (Int×AV)}{i ep:Nat}(ok:Ok c d)(hm:.oP a f ep∈as)(R:nt (.is it (sT a i f.length ep)) as as')(hx:f[i]?=none):Iter c ⟨lo,as⟩ (.ref it) none ⟨lo,as'⟩:=by intro E fr xs vs v s Q S k;refine cps λV V'=>?_;refine S.of.elim λfz o=>?_;obtain rfl:=o.mV;refine(S.Dv hm).elim λkvs w9=>w9.elim λm5 w9=>w9.elim λo_ w9=>w9.elim λhd hi=>?_;obtain⟨cl,fz,K,gt,back⟩:=S.forget (R.on fr);obtain⟨ob,hp⟩:=K;refine V' ?_;refine wpAny_pyNext_dict_end (knd:=cf PW c.w) (i:=i) (qh ok) ⟨ob,gt _ (.head _),by rw[hi.len];exact hp⟩ hd ?_ λh' he=>k _ (back _ (λq hq o e=>he q o (λe=>hq (by simp[e])) e) ⟨rfl,rfl,rfl⟩);have:=hi.len;simp only[d7]at hx ⊢;exact NI this hx
end
section
namespace FJ
theorem Rb:gp (.builtin "bytes.join")=pure (.type "method_descriptor"):=by show kP _=_;rw[g7];kernel_rfl
theorem Iu:lA "bytes" "join" "bytes.join":=
 .of (owner:="bytes") (n:="join") (by rw[bP,bq];kernel_rfl) (by decide +kernel) (by decide +kernel) (by decide +kernel)
  (by first|exact .inl (by decide +kernel)|exact .inr (by decide +kernel)) (by rw[dB];kernel_rfl)
theorem QA:dE fy "bytes.join"=some aB.«bytes.join»:=dD (by kernel_rfl)
theorem Rc(a b:Value):gu "bytes.join" ⟨[a,b],[]⟩:=by unfold gu;kernel_rfl
end FJ
section
variable {prog:Program}{w:cL}{A:Around}{E:Value->ai->Prop}{s:ai}
noncomputable def AZ(l:List (Value×Option Value)):Prop:=∀p∈l,p.1.onHeap=false/\p.2=none
theorem Qd{f:Unit->fH α}{Q:α->ai->Prop}(hl:AZ l)(h:aJ (aX prog w) A (f ()) Q E s):aJ (aX prog w) A (aB.Bytes.joinLetGo l keep>>=f) Q E s:=by
 refine ag ?_;induction l with
 |nil=>exact ak h
 |cons p l ih=>obtain⟨x,w'⟩:=p;refine(hl (x,w') (.head _)).elim λO e=>?_;obtain rfl:w'=none:=e;exact ag (je (ih λp hp=>hl p (.tail _ hp)))
theorem join_loop{bs:List (List UInt8)}{Q:Array (Array UInt8)×List (Value×Option Value)->ai->Prop}
  (hf:∀i b parts taken,bs[i]?=some b->AZ taken->∃x:Value,x.onHeap=false/\∀Q:_->ai->Prop,Q (gX (parts.push b.toArray,taken++[(x,none)])) s->aJ (aX prog w) A (f i (parts,taken)) Q E s)
  (hQ:∀parts taken,parts.toList=bs.map fV->AZ taken->Q (parts,taken) s):∀(k:Nat) i parts taken,i+k=bs.length->parts.toList=(bs.take i).map fV->AZ taken->aJ (aX prog w) A (forIn (List.range' i k) (parts,taken) f) Q E s:=by
 intro k;induction k with
 |zero=>intro i parts taken hi hp hl;rw[b6 (o80 hi)]at hp;exact ak (hQ _ _ hp hl)
 |succ k ih=>
  intro i parts taken hi hp hl;rw[List.range'_succ,List.forIn_cons];have pL:i<bs.length:=o79 hi;have hb:bs[i]?=some bs[i]:=aw pL;refine(hf i _ parts taken hb hl).elim λx h=>?_;refine ag (h.2 _ (ih (i+1) _ _ (o78 hi) ?_ λp hp=>?_))
  ·rw[Array.toList_push,hp,bD,hb,au];rfl
  ·exact(aH.mp hp).elim (hl p) λh9=>ao.mp h9▸⟨h.1,rfl⟩
theorem QB(l:List (List UInt8)):aB.Bytes.joined #[] (l.map fV)=l.flatten.toArray:=by
 unfold aB.Bytes.joined;have key:∀(l:List (List UInt8)) (k:Nat) (acc:Array UInt8),((l.map fV).zipIdx k).foldl (λout (p:Array UInt8×Nat)=>(if p.2>0 then out++#[]else out)++p.1) acc=acc++l.flatten.toArray:=by
  intro l;induction l with
  |nil=>intro k acc;simp
  |cons b l ih=>intro k acc;simp only[bE,List.zipIdx_cons,f9];rw[ih];split<;>simp
 simpa using key l 0 #[]
theorem Rf(l:List (List UInt8))(parts:Array (Array UInt8))(h:parts.toList=l.map fV):Array.foldl (λx1 x2=>x1+x2.size) 0 parts=l.flatten.length:=by
 rw[<-Array.foldl_toList,h,List.foldl_map];have key:∀(l:List (List UInt8)) (k:Nat),l.foldl (λx1 x2=>x1+x2.length) k=k+l.flatten.length:=by
  intro l;induction l with
  |nil=>intro k;simp
  |cons b l ih=>intro k;rw[f9,ih,kj,aa];exact o77
 simpa using key l 0
theorem TJ{us:List Value}(h:us[i]?=some v):us.toArray.getD i e_=v:=by rw[Array.getD_eq_getD_getElem?,List.getElem?_toArray,h];rfl
theorem j1{α:Type}(x:Array Value)(h:x.size≠1)(f:Value->α)(g:Array Value->α):aB.Bytes.joinM.match_1 (motive:=λO=>α) x f g=g x:=by
 rcases x with⟨_|⟨u,_|O⟩⟩
 ·rfl
 ·exact absurd rfl h
 ·rfl
theorem QC{a:aA}{us:List Value}{bs:List (List UInt8)}{t:Tok}{Q:Value->ai->Prop}(hl:s.heap.IsList a us.toArray)(hb:∀i:Nat,∀b,bs[i]?=some b->∃t,us[i]?=some (.bytes b.toArray t))(J:us.length=bs.length)(hz:bs.flatten.length<=900000)
  (h:∀t k,Q (.bytes bs.flatten.toArray t) {s with toks:=k}):aJ (aX prog w) A (aF (.builtin "bytes.join") [.bytes #[] t,.ref a]) Q E s:=by
 refine cps λV V'=>?_;obtain⟨o,ho,hc,n,hd⟩:=id hl;refine V' ?_;refine eU FJ.Iu (bT _ _ _) FJ.QA ?_ (FJ.Rc _ _);show aJ _ _ (aB.Bytes.joinM .bytes ⟨[.bytes #[] t,.ref a],[]⟩) _ _ s;refine ag (bV (show selfAndOne _ _=pure (.bytes #[] t,.ref a)from rfl) ?_);refine ij (by decide) ?_;refine ag ?_;refine ag (fF hl.typeIs ?_);refine ak (ag (gK ho hd ?_));refine ij (by decide) ?_;clear hl;refine(aq (us.length=1)).elim (λh1=>?_) λh1=>?_
 ·obtain⟨u⟩:=q8 h1;obtain⟨b⟩:=q8 (Eq.symm J);obtain⟨t',ht⟩:=hb 0 b rfl;simp only[js,aE.injEq]at ht;subst ht;refine ag (fF (bT _ _ _) ?_);refine ag (d_ (ak ⟨_,rfl,?_⟩));have:=h t' s.toks;simp only[kj,List.flatten_nil,aW]at this;exact this
 rw[j1 us.toArray h1];refine ag ?_;rw[Std.Legacy.Range.forIn_eq_forIn_range'];refine(join_loop (bs:=bs) ?_ ?_ _ 0 #[] [] ?_ rfl (λO h=>nomatch h))
 ·intro i b parts taken sx Fg;obtain⟨t',ht⟩:=hb i b sx;refine⟨.bytes b.toArray t',rfl,λQ q=>?_⟩;dsimp only;refine ag (gK ho hd ?_);dsimp only;rw[(TJ ht)];refine ck ?_ ?_
  ·have:(taken.any λx=>x.1.onHeap)=false:=by rw[km];intro p hp;rw[(Fg p hp).1];exact bI
   rw[this];decide
  refine ag (bN (pG.take .bytes ?_));dsimp only;refine ag (gK ho hd ?_);dsimp only;rw[bne_self_eq_false,if_neg (c:=false=true) bI];exact ak q
 ·intro parts taken hp Fg;refine ag (bV (show aB.Bytes.payload (.bytes #[] t)=pure #[]from rfl) ?_);refine ck ?_ ?_
  ·simp only[bK,iE,Nat.zero_mul];have:=Rf bs parts hp;rw[this];refine decide_eq_false (ka.mpr ?_);rw[cz];exact NJ hz this
  rw[hp,QB];refine ag (mu (ag (bN (eD (Qd Fg ?_)))) ?_)
  ·exact ak ⟨_,rfl,h _ _⟩
  ·rw[bK,cz];exact xn hz
 ·exact(dH _).trans ((iB _).trans J)
end
end
section
open PySem.SeqAt
variable {c:Cx}{σ:Sg}{d:Nat}{E:Ex}{ε:Env}{ns:List Str}
namespace FJ
theorem plain:PlainAttrs "bytes":=⟨⟨"bytes.__getattribute__",by rw[bP,bq];kernel_rfl,by decide +kernel⟩,by rw[bP,bq];kernel_rfl⟩
end FJ
theorem Meth.vw:Meth c σ (.bytes b) "join" (.builtin "bytes.join"):=by intro E fr xs vs v s pl Q S k;refine S.of.elim λfz o=>?_;refine o.qR.elim λt e8=>?_;subst e8;exact lK (bT _ _ _) FJ.plain FJ.Iu FJ.Rb (λO e=>nomatch e) (k s S)
theorem Op.vw{bs:List (List UInt8)}(hm:sC σ.as x (bs.map .bytes))(hz:bs.flatten.length<=900000)(q:Q (.bytes bs.flatten) σ):Op c E σ [.bytes [],x] (λus=>aF (.builtin "bytes.join") us) Q:=by
 intro fr ys vs us s S hl;refine cps λV V'=>?_;obtain⟨w1,w2⟩:=qn hl;have S0:St c (σ.on fr) (x::.bytes []::ys) (w2::w1::vs) s:=S.hand λfz o=>by cases o with|cons a o=>cases o with|cons b o=>exact .cons b (.cons a o)
 obtain⟨fz0,o1,o2⟩:=S0.two;refine o1.qR.elim λt e8=>?_;subst e8;obtain⟨a,us,rfl,hL,J,S1⟩:=S0.yj hm;refine V' ?_;obtain⟨Oe,hO⟩:∃fz,mL fz (bs.map .bytes) us:=by refine S1.elim λg w9=>w9.elim λhg w9=>w9.elim λm w9=>w9.elim λown w9=>w9.elim λpJ I=>?_;exact⟨pJ,(I.st.cut J).1⟩
 refine W.of (QC hL (λi b hb=>?_) (by simpa using J) hz λt k=>⟨_,σ,(S0.pop.pop.push λO=>.bytes _ t).tok k,q⟩);obtain⟨v,hv,ov⟩:=hO.get i (.bytes b) (by rw[bc,hb];rfl);obtain⟨t,rfl⟩:=ov.qR;exact⟨t,hv⟩
inductive Ls{ι:Type}(S:ι->Sg)(P:Nat->ι->Prop)(n:Nat)(σ:Sg):Prop
 |mk (m j) (h:m<n) (p:P m j) (e:σ=S j)
inductive Oi{ι:Type}(S:aA->ι->Sg)(P:Nat->ι->Prop)(n:Nat)(it:AV)(σ:Sg):Prop
 |mk (a i) (p:P n i) (h:it=.ref a) (e:σ=S a i)
inductive acD(c:Cx)(tg:cI)(it y:AV)(K:Sg->Prop)(mM:Sg):Prop
 |mk (l:Lets c mM tg it y) (mT) (t:qo c mM tg y mT) (k:K mT)
inductive Kz(c:Cx)(σ:Sg)(it:AV)(tg:cI)(K0 K1:Sg->Prop):Prop
 |mk (r mM) (h:Iter c σ it r mM) (k:match(generalizing:=false) r with
   |none=>K0 mM
   |some y=>acD c tg it y K1 mM)
noncomputable def Lu(c:Cx)(E:Ex)(S:ι->Sg)(P:Nat->ι->Prop)(n:Nat)(rest:List Stmt)(Q:Out->Sg->Prop):Out->Sg->Prop
 |.next,σ=>Ls S P n σ
 |.cont,σ=>Ls S P n σ
 |.brk,σ=>WS c E σ (aO rest c.env) Q
 |.ret x,σ=>Q (.ret x) σ
theorem W.Sk{nd:Bool}{A:Around}{E:Value->ai->Prop}{s:ai}{env:Env}{target:cI}{it:Value}{body:List Stmt}{Q:gd->ai->Prop}(I:Nat->ai->Prop)
  (turn:∀n s,I n s->aJ (aX prog w) A (lu it) (λr mN=>match r with
   |none=>Q .next mN
   |some v=>aJ (aX prog w) A (cP target it v) (λO mN=>aJ (aX prog w) A (gP target env v) (λO m8=>W nd (aX prog w) A (aO body env) (λf nK=>match f with
     |.next|.cont=>∃m,m<n/\I m nK
     |.brk=>Q .next nK
     |.ret v=>Q (.ret v) nK) (iJ (aX prog w) A env (dw (aX prog w) A env E)) m8) (λO O=>False) mN) (λO O=>False) mN) (λO O=>False) s)
  (n:Nat) (h:I n s):WC nd (aX prog w) A (.forLoop target it body [] env) (λr s'=>match r with|.ok f=>Q f s'|.error e=>dw (aX prog w) A env E e s') s:=by
 refine .loop rfl rfl I (λn s hI=>?_) n h;show W nd _ A ((forTurn target it body [] env).onRaise (λx=>do dg x env;fm x)) _ _ s;refine .DK ?_;refine .at_ (.then (.of (hU (aY (turn n s hI) (λr s1 k=>k) λO O k=>k.elim))) λr s1 h1=>?_);cases r with
 |none=>exact .pure (.inr ⟨rfl,.of (mB (fk h1))⟩)
 |some v=>
  dsimp only;refine .step (aY h1 (λO s1 h1=>?_) λO O k=>k.elim);refine .step (aY h1 (λO s2 h2=>h2.then λf s3 h3=>?_) λO O k=>k.elim);cases f with
  |next=>exact .pure (.inl ⟨rfl,h3⟩)
  |cont=>exact .pure (.inl ⟨rfl,h3⟩)
  |brk=>exact .pure h3
  |ret v=>exact .pure h3
theorem WS.EF(own:Own c E)(S:aA->ι->Sg)(P:Nat->ι->Prop)(n:Nat)
  (h:WE c E σ (aT e c.env) λx mM=>oE c mM x (Oi S P n))
  (turn:∀n a i,P n i->Kz c (S a i) (.ref a) tg (λmM=>WS c E mM (aO rest c.env) Q) λmT=>WS c E mT (aO body c.env) (Lu c E (S a) P n rest Q))
  (hs:autoParam (∀x,bJ e c.env x=pure x) aI):WS c E σ (aO (.For tg e body [] p::rest) c.env) Q:=by
 refine .cons ?_;intro fr xs vs s S0;have ow:=own fr xs vs;unfold g4 at ow;refine W.For (h.run S0 λx mM v s1 q S1=>?_) hs;refine q.go _ fr xs vs v s1 _ S1 λit mT u s2 h0 S2=>?_;refine cps λV V'=>?_;obtain⟨a,i,hP,rfl,rfl⟩:=h0;refine V' ?_;refine W.Sk (λn s=>∃i,P n i/\St c ((S a i).on fr) (.ref a::x::xs) (u::v::vs) s) ?_ n ⟨i,hP,S2⟩;rintro n s ⟨i,hP,S3⟩;obtain⟨r,mM,hr,k⟩:=turn n a i hP;refine hr.go _ fr _ _ u s _ S3 ?_;cases r with
 |none=>intro s' S';exact⟨.next,mM,⟨rfl,S'.pop.pop⟩,k⟩
 |some y=>
  obtain⟨hl,mT,ht,w⟩:=k;intro u2 s' S';refine hl.go _ fr _ _ u2 u s' _ S' ?_;refine ht.go _ fr _ _ u2 s' _ S' λs2 S2=>?_;refine W.mono (w.go fr _ _ s2 S2) ?_ λe s' q=>ow e s' (E.pop (E.pop q));rintro f s3 ⟨o,q_,hf,q⟩;cases o with
  |next=>obtain⟨rfl,S3⟩:=hf;obtain⟨m,j,hm,hI,rfl⟩:=q;exact⟨m,hm,j,hI,S3⟩
  |cont=>obtain⟨rfl,S3⟩:=hf;obtain⟨m,j,hm,hI,rfl⟩:=q;exact⟨m,hm,j,hI,S3⟩
  |brk=>obtain⟨rfl,S3⟩:=hf;exact⟨.next,q_,⟨rfl,S3.pop.pop⟩,q⟩
  |ret x=>obtain⟨w,rfl,S3⟩:=hf;exact⟨.ret x,q_,⟨w,rfl,S3.hand λfz o=>by cases o with|cons a b=>cases b with|cons _ b=>cases b with|cons _ b=>exact .cons a b⟩,q⟩
noncomputable abbrev nJ(p:Int×List Nat):AV:=.tup [.int p.1,.str p.2]
noncomputable abbrev nR(l:List (Int×List Nat)):AV:=.lst (l.map nJ)
noncomputable abbrev ny(p:Int×List (Int×List Nat)):AV:=.tup [.int p.1,nR p.2]
noncomputable abbrev Lv(l:List (Int×List (Int×List Nat))):AV:=.lst (l.map ny)
noncomputable def rF(m:Option (List Nat)):AV:=m.elim .none .str
set_option genInjectivity true in
structure Told where
 title:Option (List Nat)
 funcs:List (Int×List Nat)
 rows:List (Int×List (Int×List Nat))
 whole:Bool
noncomputable def Told.av(t:Told):AV:=.tup [rF t.title,nR t.funcs,Lv t.rows,.bool t.whole]
noncomputable def pairD(p:Int×List Nat):PyData:=.tuple [.int p.1,.str ⟨p.2.toArray⟩]
noncomputable def qH(l:List (Int×List Nat)):PyData:=.list (l.map pairD)
noncomputable def pS(p:Int×List (Int×List Nat)):PyData:=.tuple [.int p.1,qH p.2]
noncomputable def tZ(m:Option (List Nat)):PyData:=m.elim .none λt=>.str ⟨t.toArray⟩
noncomputable def Told.dat(t:Told):PyData:=.tuple [tZ t.title,qH t.funcs,.list (t.rows.map pS),.bool t.whole]
section
variable {fz:Cells}{h:bb}(hf:∀p∈fz,h.get? p.1=some p.2)
include hf
theorem readsAll_map{α:Type}{F:α->AV}{D:α->PyData}(k:∀x v,Of fz (F x) v->∃as,gQ h v (D x) as){l:List α}:∀{vs:List Value},mL fz (l.map F) vs->∃as,mm h vs (l.map D) as:=by
 induction l with
 |nil=>intro vs o;cases o;exact⟨_,.nil⟩
 |cons x l ih=>
  intro vs o;cases o with
  |cons a b=>exact(k x _ a).elim λas r=>(ih b).elim λbs rs=>⟨_,.cons r rs⟩
theorem Iv(o:Of fz (.str x) v):gQ h v (.str ⟨x.toArray⟩) []:=by obtain⟨t,rfl⟩:=o.str_inv;exact .str _ _
theorem Iw(o:Of fz (.tup xs) v)(k:∀vs,mL fz xs vs->∃as,mm h vs ds as):∃as,gQ h v (.tuple ds) as:=by
 cases o with
 |tup hm hc hd ho=>obtain⟨as,r⟩:=k _ ho;exact⟨_,.tuple (hf _ hm) hc hd r⟩
theorem Iy(o:Of fz (.lst xs) v)(k:∀vs,mL fz xs vs->∃as,mm h vs ds as):∃as,gQ h v (.list ds) as:=by
 cases o with
 |lst hm hc hd ho=>obtain⟨as,r⟩:=k _ ho;exact⟨_,.list (hf _ hm) hc hd r⟩
theorem Iz(kx:∀v,Of fz x v->∃as,gQ h v dx as)(ky:∀v,Of fz y v->∃as,gQ h v dy as)(o:Of fz (.tup [x,y]) v):∃as,gQ h v (.tuple [dx,dy]) as:=by
 refine Iw hf o λvs hv=>?_;cases hv with|cons a b=>cases b with|cons b c=>cases c with|nil=>
 obtain⟨_,ra⟩:=kx _ a;obtain⟨_,rb⟩:=ky _ b;exact⟨_,.cons ra (.cons rb .nil)⟩
theorem IA(o:Of fz (.int i) v):∃as,gQ h v (.int i) as:=by obtain⟨t,rfl⟩:=o.int_inv;exact⟨_,.int _ _⟩
theorem QD(o:Of fz (nJ p) v):∃as,gQ h v (pairD p) as:=Iz hf (λO=>IA hf) (λO o=>⟨_,Iv hf o⟩) o
theorem Hs{v:Value}(o:Of fz (nR l) v):∃as,gQ h v (qH l) as:=Iy hf o λO hv=>readsAll_map hf (λO O=>QD hf) hv
theorem Rg(o:Of fz (ny p) v):∃as,gQ h v (pS p) as:=Iz hf (λO=>IA hf) (λO=>Hs hf) o
theorem Rh(o:Of fz (rF t) v):∃as,gQ h v (tZ t) as:=by
 cases t with
 |none=>obtain rfl:=o.none_inv;exact⟨_,.none⟩
 |some t=>exact⟨_,Iv hf o⟩
theorem HU{t:Told}{v:Value}(o:Of fz t.av v):∃as,gQ h v t.dat as:=by
 refine Iw hf o λvs hv=>?_;cases hv with|cons a b=>cases b with|cons b c=>cases c with|cons c d=>cases d with|cons d e=>cases e with|nil=>
 refine cps λV V'=>?_;obtain⟨_,ra⟩:=Rh hf a;obtain⟨_,rb⟩:=Hs hf b;obtain⟨_,rc⟩:=Iy hf c λO hv=>readsAll_map hf (D:=pS) (λO O=>Rg hf) hv;obtain rfl:=d.bool_inv;refine V' ?_;exact⟨_,.cons ra (.cons rb (.cons rc (.cons (.bool _) .nil)))⟩
end
theorem same_str(a b:List Nat):bG (.str ⟨a.toArray⟩) (.str ⟨b.toArray⟩)=decide (a=b):=by
 simp only[bG];by_cases h:a=b
 ·subst h;simp
 ·have:(⟨a.toArray⟩:Str)≠⟨b.toArray⟩:=λe=>h (by injection e with e;simpa using congrArg Array.toList e);rw[decide_eq_false h,beq_eq_false_iff_ne];exact this
theorem sameAll_map{α:Type}{D:α->PyData}[DecidableEq α](k:∀x y,bG (D x) (D y)=decide (x=y))(l:List α):∀m:List α,b9.sameAll (l.map D) (m.map D)=decide (l=m):=by
 induction l with
 |nil=>intro m;cases m<;>rfl
 |cons x l ih=>
  intro m;cases m with
  |nil=>rfl
  |cons y m=>exact(congr (congrArg and (k x y)) (ih m)).trans ((Bool.decide_and ..).symm.trans (decide_eq_decide.mpr List.cons_eq_cons.symm))
theorem Jd{α β:Type}[DecidableEq α][DecidableEq β]{F:α->PyData}{G:β->PyData}(kf:∀x y,bG (F x) (F y)=decide (x=y))(kg:∀x y,bG (G x) (G y)=decide (x=y))(x y:α×β):
  bG (.tuple [F x.1,G x.2]) (.tuple [F y.1,G y.2])=decide (x=y):=by
 obtain⟨x1,x2⟩:=x;obtain⟨y1,y2⟩:=y;simp only[bG,b9.sameAll,kf,kg];by_cases h:x1=y1<;>by_cases h2:x2=y2<;>simp[h,h2]
theorem same_int(a b:Int):bG (.int a) (.int b)=decide (a=b):=by simp only[bG];by_cases h:a=b<;>simp[h]
theorem Ri(x y:Int×List Nat):bG (pairD x) (pairD y)=decide (x=y):=Jd (F:=λi=>PyData.int i) (G:=λt:List Nat=>PyData.str ⟨t.toArray⟩) same_int same_str x y
theorem HV(x y:List (Int×List Nat)):bG (qH x) (qH y)=decide (x=y):=by unfold qH;simp only[bG];exact sameAll_map Ri x y
theorem Sl(x y:Int×List (Int×List Nat)):bG (pS x) (pS y)=decide (x=y):=Jd (F:=λi=>.int i) (G:=qH) same_int HV x y
theorem Sm(x y:Option (List Nat)):bG (tZ x) (tZ y)=decide (x=y):=by
 cases x with
 |none=>cases y<;>rfl
 |some a=>
  cases y with
  |none=>rfl
  |some b=>exact(same_str a b).trans (decide_eq_decide.mpr Option.some_inj.symm)
theorem Rj{a b:Told}:bG a.dat b.dat=true↔a=b:=by
 obtain⟨a1,a2,a3,a4⟩:=a;obtain⟨b1,b2,b3,b4⟩:=b;have e3:bG (.list (a3.map pS)) (.list (b3.map pS))=decide (a3=b3):=sameAll_map Sl a3 b3;have e4:bG (.bool a4) (.bool b4)=decide (a4=b4):=by cases a4<;>cases b4<;>rfl
 show bG (.tuple [tZ a1,qH a2,.list (a3.map pS),.bool a4]) (.tuple [tZ b1,qH b2,.list (b3.map pS),.bool b4])=true↔_;generalize PyData.list (a3.map pS)=A3 at e3 ⊢;generalize PyData.list (b3.map pS)=B3 at e3 ⊢;generalize PyData.bool a4=A4 at e4 ⊢;generalize PyData.bool b4=B4 at e4 ⊢;simp only[bG,b9.sameAll,Sm,HV,e3,e4,b5,decide_eq_true_eq,Told.mk.injEq,and_true]
theorem G5{α:Type}{D:α->PyData}(k:∀x y,noMix (D x) (D y)=true)(l:List α):∀m:List α,noMixAll (l.map D) (m.map D)=true:=by
 induction l with
 |nil=>intro m;cases m<;>rfl
 |cons x l ih=>
  intro m;cases m with
  |nil=>rfl
  |cons y m=>exact aV.mpr ⟨k x y,ih m⟩
theorem QE(x y:Int×List Nat):noMix (pairD x) (pairD y)=true:=rfl
theorem Ht(x y:List (Int×List Nat)):noMix (qH x) (qH y)=true:=G5 QE x y
theorem Rk(x y:Int×List (Int×List Nat)):noMix (pS x) (pS y)=true:=aV.mpr ⟨Ht x.2 y.2,rfl⟩
theorem QF(a b:Told):noMix a.dat b.dat=true:=by unfold Told.dat;simp only[noMix,noMixAll,Ht,(by cases a.title<;>cases b.title<;>rfl:noMix (tZ a.title) (tZ b.title)=true),(G5 Rk _ _:noMixAll (a.rows.map pS) (b.rows.map pS)=true),gE]
noncomputable def xx(t:List Nat):Prop:=∀p∈t,p<1114112
noncomputable def Told.ok(t:Told):Prop:=(∀x,t.title=some x->xx x)/\(∀p∈t.funcs,xx p.2)/\∀r∈t.rows,∀p∈r.2,xx p.2
theorem JU(h:xx t):PyData.strOk ⟨t.toArray⟩=true:=by unfold PyData.strOk;rw[Array.all_eq_true'];intro p hp;exact decide_eq_true (h p (by simpa using hp))
theorem HW{α:Type}{D:α->PyData}{l:List α}:(∀x∈l,(D x).canLay0=true)->ej (l.map D)=true:=by
 induction l with
 |nil=>exactλh=>rfl
 |cons x l ih=>exactλh=>aV.mpr ⟨h x (.head _),ih λy hy=>h y (.tail _ hy)⟩
theorem IB(h:∀p∈l,xx p.2):(qH l).canLay0=true:=by exact HW λp hp=>by simp only[pairD,iz,ej,JU (h p hp),gE]
theorem Sn{t:Told}(h:t.ok):t.dat.canLay0=true:=by
 have h1:=h.1;have h2:=h.2.1;have h3:=h.2.2;have e1:(tZ t.title).canLay0=true:=by
  cases q:t.title with
  |none=>rfl
  |some x=>exact JU (h1 x q)
 unfold Told.dat;simp only[iz,ej,e1,(HW λr hr=>by simp only[pS,iz,ej,IB (h3 r hr),gE]:ej (t.rows.map pS)=true),IB h2,gE]
theorem G6{α:Type}{D:α->PyData}(h:∀x,(D x).depth<=n)(l:List α):hY (l.map D)<=n:=by
 induction l with
 |nil=>exact bB n
 |cons x l ih=>exact Nat.max_le.mpr ⟨h x,ih⟩
theorem QG(p:Int×List Nat):(pairD p).depth<=2:=fL 1
theorem Hu(l:List (Int×List Nat)):(qH l).depth<=3:=by have:=G6 QG l;simp only[qH,jk];exact o83 this
theorem Rl(r:Int×List (Int×List Nat)):(pS r).depth<=4:=by have:=Hu r.2;simp only[pS,jk,hY];exact o82 this
theorem QH(t:Told):t.dat.depth<=64:=by simp only[Told.dat,jk,hY];exact o81 (Hu t.funcs) (G6 Rl t.rows) (by cases t.title<;>exact bB _)
theorem Hv{t:Told}(h:t.ok):shaped t.dat=true:=by unfold shaped;rw[Sn h,Bool.true_and];exact decide_eq_true (QH t)
theorem pX.AB{a b:Told}(ok:Ok c d)(ha:a.ok)(hb:b.ok)(q:∀r,(r=false↔a=b)->Q (.bool r) σ):pX c E σ a.av b.av (bY .NotEq) Q:=by
 intro fr xs vs va vb s S;refine cps λV V'=>?_;refine(id S).elim λg w9=>w9.elim λhg w9=>w9.elim λm w9=>w9.elim λown w9=>w9.elim λfz I=>?_;refine V' ?_;have hf:∀p∈fz,s.heap.get? p.1=some p.2:=λp hp=>(I.N p (aS _ hp)).1;obtain⟨ob,oa⟩:Of fz b.av vb/\Of fz a.av va:=by cases I.st with|cons x y=>cases y with|cons y z=>exact⟨x,y⟩
 obtain⟨_,ra⟩:=HU hf oa;obtain⟨_,rb⟩:=HU hf ob;refine W.of (ne_dataH_same ra rb (Hv ha) (Hv hb) (C5 ok) (QF a b) ⟨_,σ,S.pop.pop.push λO=>.bool _,q _ ?_⟩);rw[Bool.not_eq_false'];exact Rj
end
section
variable {c:Cx}{σ:Sg}{d:Nat}{E:Ex}{ε:Env}{ns:List Str}
theorem Qe{prog:Program}{w:cL}{A:Around}{E:Value->ai->Prop}{s:ai}{l:aA}{us:List Value}{u v:Value}{n:Nat}{t:Tok}{Q:Unit->ai->Prop}(hl:mE s.heap l (us++[u]).toArray n)
  (hQ:∀h' n',mE h' l (us++[v]).toArray n'->(∀b,b≠l->∀o,s.heap.get? b=some o->h'.get? b=some o)->Q () {s with heap:=h'}):
  aJ (aX prog w) A (lG (.ref l) (.int (-1) t) v) Q E s:=by
 have hL:=hl.isList;unfold lG
 try with_reducible refine bN ?_
 first|refine ag (ak ?_)|skip
 refine ag (wpAny_sequenceKey hL.typeIs rfl ?_);refine ag (jX (name:=af "__setitem__") hL.typeIs lE
  (eU lE hL.typeIs entry_list_setitem ?_ (args_list_setitem _ _ _)))
 show aJ _ _ (aB.List.listSubscript? (.int (-1) t)>>=_) _ _ s;refine ag (wpAny_listSubscript_int (fitsIndex_neg (by decide) (by decide)) ?_);refine ag (ag ?_);show aJ _ _ (seqItems? (.ref l)>>=_) _ _ s;refine ag (gK hl rfl (ak (ak ?_)));have acE:seqIndex? (Int.negSucc 0) (us++[u]).toArray.size=some us.length:=by have:=seqIndex_neg (k:=-1) (n:=(us++[u]).toArray.size) (by decide) (by simp;exact o86);rw[show(Int.negSucc 0:Int)= -1 from rfl,this];simp;exact o85
 rw[acE];simp only[j2,(by simp:(us++[u]).toArray[us.length]?=some u),Option.map_some];show aJ _ _ (setSeqItemAt l us.length v>>=_) _ _ s;refine ag (wpAny_setSeqItemAt hl rfl ?_);refine(mE.grown hl (λxs=>xs.setIfInBounds us.length v) (items':=(us++[v]).toArray) (by simp)).elim λn' J=>?_;have fin:=hQ _ n' J (CW _)
 first
  |exact ag (ak (ak ⟨.none,rfl,ak fin⟩))
  |exact ak ⟨.none,rfl,ak fin⟩
inductive acF(c:Cx)(E:Ex)(o ie:cI)(rest:List Stmt)(Q:Out->Sg->Prop)(av:AV)(mF:Sg):Prop
 |mk (a l y as') (ho:Ev c mF o (.ref a)) (hi:Ev c mF ie (.int (-1))) (R:Rep (.lst a (l++[y])) (.lst a (l++[av])) mF.as as') (w:WS c E ⟨mF.lo,as'⟩ (aO rest c.env) Q)
theorem WS.TK{o ie e:cI}{p p':iA}{rest:List Stmt}{Q:Out->Sg->Prop}(he:c.env=ε)
  (h:WE c E σ (aT e c.env) (acF c E o ie rest Q))
  (hs:autoParam (cn e (some (.Subscript o ie p')) p.line ε=pure false) aR):WS c E σ (aO (.Assign [.Subscript o ie p'] e p::rest) c.env) Q:=by
 refine .cons ?_
 intro fr xs vs s S
 with_reducible refine W.Il (h.run S ?_) (by rw[he];exact hs)
 rintro av mF v s' ⟨a,l,y,as',ho,hi,R,w⟩ S'
 with_reducible refine ho.go _ _ _ _ _ _ S' λu s2 S2=>hi.go _ _ _ _ _ _ S2 λu2 s3 S3=>?_
 refine cps λV V'=>?_
 obtain⟨us,n,fz,hl,hO,hx,back⟩:=S3.xY (R.on fr)
 have o1:=hx.hd;replace hx:=hx.tl;have o2:=hx.hd;replace hx:=hx.tl;have o3:=hx.hd;replace hx:=hx.tl
 refine o1.int_inv.elim λt e8=>?_;subst e8
 obtain rfl:=o2.mV
 obtain⟨u1,u2,rfl,q1,q2⟩:=hO.split
 refine V' ?_
 cases q2 with| @cons _ u3 _ _ ou on=>
 cases on
 refine W.of (Qe hl fun h' n' J hk => ⟨.next, ⟨mF.lo, as'⟩, ⟨rfl, ?_⟩, w⟩)
 exact back { s3 with heap := h' } (u1 ++ [v]) n' _ _ (q1.append (.cons o3 .nil)) J hk ⟨rfl, rfl, rfl⟩ hx
end
section
variable {c:Cx}{σ:Sg}{d:Nat}{E:Ex}{ε:Env}{ns:List Str}
theorem pn.of{it:aA}{P:Obj->Prop}(hm:.is it P∈σ.as)(k:∀(E:Value->ai->Prop) (s:ai) o (Q:Value->ai->Prop),P o->s.heap.get? it=some o->Q (.ref it) s->aJ c.M c.A (i9 (.ref it)) Q E s):pn c σ (.ref it):=by intro E fr xs vs v s Q S q;refine S.of.elim λfz o=>?_;obtain rfl:=o.mV;obtain⟨g₁,m,fz,cl,hg,F,K,gt,_⟩:=S.at (Rep.refl (ax fr hm));obtain⟨_,hp⟩:=K;exact k E s _ Q hp (gt _ (.head _)) (q s S)
theorem pn.str{it:aA}{l:List Nat}{i:Nat}(hm:.is it (r3 l i)∈σ.as):pn c σ (.ref it):=.of hm λE s o Q hp g q=>by
 refine cps λV V'=>?_;obtain⟨ty,t,uU,hc,hd⟩:=hp;refine V' ?_;rcases uU with rfl|rfl
 ·exact wpAny_pyIter_striter_wide ⟨o,g,hc,hd⟩ q
 ·exact wpAny_pyIter_striter_ascii ⟨o,g,hc,hd⟩ q
theorem pn.range{it:aA}{x l st:Int}(hm:.is it (nQ x l st)∈σ.as):pn c σ (.ref it):=.of hm λE s o Q hp g q=>by
 cases hp
 exact wpAny_pyIter_rangeiter g q
theorem Exits.qp:Exits c qp λO O=>False:=⟨λO O O e s h=>h.elim,λO O O O O O O h=>h.elim,λO O O O O O O h=>h.elim⟩
end
section
variable {c:Cx}{σ:Sg}{d:Nat}{E:Ex}{ε:Env}{ns:List Str}
theorem So{A:Around}{E:Value->ai->Prop}{s:ai}{prog:Program}{w:cL}{a b:aA}{us:List Value}{Q:Value->ai->Prop}(ha:s.heap.IsList a us.toArray)(hb:s.heap.IsList b #[])(hu:A.units<cLine)(q:Q (.bool (decide (us≠[]))) s):aJ (aX prog w) A (richCompare .NotEq (.ref a) (.ref b)) Q E s:=by
 refine cps λV V'=>?_;obtain⟨⟨c1,d1,t1,s1⟩,h1,Oj,n1,wa⟩:=ha;refine V' ?_;refine cps λV V'=>?_;obtain⟨⟨c2,d2,t2,s2⟩,h2,Ol,n2,hd2⟩:=hb;refine V' ?_;dsimp only at Oj wa Ol hd2;subst Oj wa Ol hd2;cases us with
 |nil=>exact eJ (op:=.NotEq) ⟨_,h1,rfl⟩ ⟨_,h2,rfl⟩ gD gk (f_ _ _) (ku a b _ _ n1 n2 _ _ _ _ rfl λO=>true) ⟨h1,h2,λj h1 O=>absurd h1 (iT _),(λx=>nomatch x),q⟩ hu
 |cons x xs=>
  refine eJ (op:=.NotEq) ⟨_,h1,rfl⟩ ⟨_,h2,rfl⟩ gD gk (f_ _ _) (ji a b _ _ n1 n2 _ _ _ _ rfl) ⟨h1,h2,(λx=>nomatch x),?_⟩ hu;have:decide (x::xs≠[])=true:=by rfl
  rw[this]at q;exact q
theorem pX.neT{x:AV}{b:aA}{xs:List AV}{Q:AV->Sg->Prop}(ok:Ok c d)(ha:sC σ.as x xs)(hb:.lst b []∈σ.as)(q:Q (.bool (decide (xs≠[]))) σ):pX c E σ x (.ref b) (bY .NotEq) Q:=by
 intro fr zs vs va vb s S;refine cps λV V'=>?_;obtain⟨fz,o1,o2⟩:=S.two;obtain rfl:=o2.mV;obtain⟨tu,n2,g2,l2,S2⟩:=S.pop.pop.rW hb;obtain⟨a,us,rfl,g1,l1,S1⟩:=S.pop.yj ha;obtain rfl:tu=[]:=dp.mp l2;refine V' ?_;refine W.of (So g1 g2.isList (NH (C5 ok)) ⟨_,σ,S.pop.pop.push λO=>?_,q⟩);have:decide (us≠[])=decide (xs≠[]):=by cases us<;>cases xs<;>simp at l1 ⊢
 rw[this];exact .bool _
theorem WT.neT{l:cI}{p p':iA}{Q:Bool->Sg->Prop}(ok:Ok c d)(h:WE c E σ (aT l c.env) λx mM=>∃xs,sC mM.as x xs/\∀b,Q (decide (xs≠[])) ⟨mM.lo,.lst b []::mM.as⟩):WT c E σ (.Compare l [.NotEq] [.List [] p'] p) Q:=by
 refine .tY (h.mono ?_);rintro x mM ⟨xs,hm,q⟩;refine .list (.nil ⟨by decide,λb=>.neT ok ?_ (.head _) ⟨_,rfl,q b⟩⟩);cases hm with
 |own h=>exact .own (.tail _ h)
 |ng=>exact .ng
end
section
variable {c:Cx}{σ:Sg}{d:Nat}{E:Ex}{ε:Env}{ns:List Str}
mutual
inductive Up(a:aA)(y:AV):AV->AV->Prop
 |keep {x}:Up a y x x
 |ref:Up a y (.ref a) y
 |tup {xs xs'}:rO a y xs xs'->Up a y (.tup xs) (.tup xs')
 |lst {xs xs'}:rO a y xs xs'->Up a y (.lst xs) (.lst xs')
inductive rO(a:aA)(y:AV):List AV->List AV->Prop
 |nil:rO a y [] []
 |cons {x x' xs xs'}:Up a y x x'->rO a y xs xs'->rO a y (x::xs) (x'::xs')
end
inductive DZ(fz:Cells)(k:String)(xs:List AV):Value->Prop
 |mk (a o n vs) (m:(a,o)∈fz) (c:o.cls=.type k) (d:o.data=.seq vs.toArray n) (h:mL fz xs vs):DZ fz k xs (.ref a)
theorem Of.TL{fz xs v}(h:Of fz (.tup xs) v):DZ fz "tuple" xs v:=by cases h with|tup m c d o=>exact⟨_,_,_,_,m,c,d,o⟩
theorem Of.lst_inv{fz xs v}(h:Of fz (.lst xs) v):DZ fz "list" xs v:=by cases h with|lst m c d o=>exact⟨_,_,_,_,m,c,d,o⟩
theorem Of.up{fz:Cells}{a:aA}{y:AV}(hy:Of fz y (.ref a)){x x' v}(u:Up a y x x'):Of fz x v->Of fz x' v:=
 Up.rec (motive_1:=λx x' _=>∀{v},Of fz x v->Of fz x' v) (motive_2:=λxs xs' _=>∀{vs},mL fz xs vs->mL fz xs' vs) (λo=>o) (λo=>o.mV▸hy)
  (λ_ ih _ o=>by obtain⟨_,_,_,_,m,c,d,p⟩:=o.TL;exact .tup m c d (ih p)) (λ_ ih _ o=>by obtain⟨_,_,_,_,m,c,d,p⟩:=o.lst_inv;exact .lst m c d (ih p)) (λo=>o)
  (λ_ _ i1 i2 _ o=>by obtain⟨_,_,p,q⟩:=o.un;exact .cons (i1 p) (i2 q)) u
theorem rO.keeps{a:aA}{y:AV}:∀{l:List AV},rO a y l l
 |[]=>.nil
 |_::_=>.cons .keep rO.keeps
theorem rO.mid{a:aA}{y x x':AV}(u:Up a y x x'){r l:List AV}:rO a y (l++x::r) (l++x'::r):=by
 induction l with
 |nil=>exact .cons u rO.keeps
 |cons z l ih=>exact .cons .keep ih
theorem St.vM{lo as as' xs vs}{s:ai}{a:aA}{ys:List AV}{v:Value}{x x':AV}(S:St c ⟨lo,as⟩ (x::xs) (v::vs) s)(R:nt (.lst a ys) as as')(u:Up a (.lst ys) x x'):St c ⟨lo,as'⟩ (x'::xs) (v::vs) s:=by exact((S.push λO=>.ref _).freeze R).hand λfz o=>by have hy:=o.hd;replace o:=o.tl;have ho:=o.hd;replace o:=o.tl;exact .cons (Of.up hy u ho) o
inductive Va(Q:AV->Sg->Prop)(x:AV)(σ:Sg):Prop
 |mk (a ys as' x') (d:nt (.lst a ys) σ.as as') (u:Up a (.lst ys) x x') (q:Q x' ⟨σ.lo,as'⟩)
theorem WE.vM{t:fH Value}{Q:AV->Sg->Prop}(h:WE c E σ t (Va Q)):WE c E σ t Q:=by intro fr xs vs s S;refine(h.go fr xs vs s S).mono ?_ λO O e=>e;rintro v s' ⟨x,mF,S',a,ys,as',x',R,u,q⟩;exact⟨x',⟨mF.lo,as'⟩,S'.vM (R.on fr) u,q⟩
inductive xy:List (aA×List AV)->AV->AV->Prop
 |nil {x}:xy [] x x
 |cons {a ys r x y z}:Up a (.lst ys) x y->xy r y z->xy ((a,ys)::r) x z
theorem St.D0{lo as xs vs}{s:ai}{v:Value}{R:List (aA×List AV)}{x x':AV}(S:St c ⟨lo,(R.map λq=>.lst q.1 q.2)++as⟩ (x::xs) (v::vs) s)(u:xy R x x'):St c ⟨lo,as⟩ (x'::xs) (v::vs) s:=
 u.rec (motive:=λR x z _=>St c ⟨lo,(R.map λq=>.lst q.1 q.2)++as⟩ (x::xs) (v::vs) s->St c ⟨lo,as⟩ (z::xs) (v::vs) s) (λS=>S) (λu _ ih S=>ih (S.vM .head u)) S
inductive Vb(Q:AV->Sg->Prop)(x:AV)(σ:Sg):Prop
 |mk (R as' x') (h:σ.as=(R.map λq:aA×List AV=>mH.lst q.1 q.2)++as') (u:xy R x x') (q:Q x' ⟨σ.lo,as'⟩)
theorem WE.D0{t:fH Value}{Q:AV->Sg->Prop}(h:WE c E σ t (Vb Q)):WE c E σ t Q:=by intro fr xs vs s S;refine(h.go fr xs vs s S).mono ?_ λO O e=>e;intro v s' V0;refine cps λV V'=>?_;obtain⟨x,⟨lo,as⟩,S',R,as',x',rfl,u,q⟩:=V0;refine V' ?_;refine⟨x',⟨lo,as'⟩,St.D0 (R:=R) ?_ u,q⟩;show St c ⟨lo,_++(as'++fr)⟩ _ _ _;rw[<-aj];exact S'
end
section
section
variable {c:Cx}{σ:Sg}{d:Nat}{E:Ex}{ε:Env}{ns:List Str}
structure Walk(c:Cx)(as:List mH)(x:AV)(l:List AV)(qO:aA->Nat->mH):Prop where
 start:∀{lo}{P:AV->Sg->Prop},(∀it,P (.ref it) ⟨lo,qO it 0::as⟩)->oE c ⟨lo,as⟩ x P
 self:∀{σ:Sg}{it i},qO it i∈σ.as->pn c σ (.ref it)
 next:∀{lo oM as' it i y},(∀z∈as,z∈oM)->Rep (qO it i) (qO it (i+1)) oM as'->l[i]?=some y->Iter c ⟨lo,oM⟩ (.ref it) (some y) ⟨lo,as'⟩
 stop:∀{lo oM as' it i},(∀z∈as,z∈oM)->nt (qO it i) oM as'->l[i]?=none->Iter c ⟨lo,oM⟩ (.ref it) none ⟨lo,as'⟩
theorem Walk.ng(ok:Ok c d):Walk c as (.lst l) l (λit i=>.fit it (.lst l) i):=
 ⟨.ng,.ng,λO R h=>.ng R h,λO R h=>.vm ok R h⟩
theorem Walk.own(ok:Ok c d)(hm:.lst a l∈as):Walk c as (.ref a) l (λit i=>.is it (pP a i)):=
 ⟨.list hm,.list,λk R h=>.list (k _ hm) R h,λk R h=>.wJ ok (k _ hm) R h⟩
theorem Walk.dict(ok:Ok c d)(hm:.oP a f ep∈as):Walk c as (.ref a) (f.map λp=>.int p.1) (λit i=>.is it (sT a i f.length ep)):=by
 refine⟨.dict hm,.dict,λ{lo oM as' it i y} k R h=>?_,λk R h=>.JT ok (k _ hm) R (by simpa using h)⟩;rw[bc]at h;cases hf:f[i]? with
 |none=>rw[hf]at h;nomatch h
 |some p=>rw[hf]at h;cases h;exact .dict (k _ hm) R hf
structure Each(c:Cx)(sc:Scope)(cl:List (Str×aA))(tg elt:cI)(ifs:List cI)(p:AV->Bool)(g:AV->AV)(nm:AV->List (Str×AV))(lo:List (Option AV))(as:List mH)(y:AV):Prop where
 tgt:∀C f n6,qo (c.cmp sc cl C) ⟨lo,.nf C f::n6⟩ tg y ⟨lo,.nf C (nm y)::n6⟩
 test:∀C n6,(∀z∈as,z∈n6)->uV (c.cmp sc cl C) ⟨lo,.nf C (nm y)::n6⟩ ifs (p y)
 elt:p y=true->∀C n6,(∀z∈as,z∈n6)->WE (c.cmp sc cl C) qp ⟨lo,.nf C (nm y)::n6⟩ (aT elt (dT sc cl C c.env)) λv q_=>v=g y/\q_=⟨lo,.nf C (nm y)::n6⟩
inductive rz(c:Cx)(sc:Scope)(cl:List (Str×aA))(tg elt:cI)(ifs:List cI)(p:AV->Bool)(g:AV->AV)(nm:AV->List (Str×AV))(l:List AV)(K:aA->Sg->Prop):Nat->aA->aA->AV->Sg->Prop
 |mk {lo as x qO n D C i f a}(w:Walk c as x l qO) (hl:∀it i y σ,qO it i∈σ.as->Lets c σ tg (.ref it) y) (each:∀y∈l,Each c sc cl tg elt ifs p g nm lo as y) (q:∀D,K D ⟨lo,.lst D ((l.filter p).map g)::as⟩) (hi:n+i=l.length):
  rz c sc cl tg elt ifs p g nm l K n D C (.ref a) ⟨lo,.nf C f::.lst D (((l.take i).filter p).map g)::qO a i::as⟩
section
variable {sc:Scope}{cl:List (Str×aA)}{tg elt:cI}{ifs:List cI}{p:AV->Bool}{g:AV->AV}{nm:AV->List (Str×AV)}{l:List AV}{K:aA->Sg->Prop}
theorem rz.turn(hz:l.length<=900000)(n D C it σ)(h:rz c sc cl tg elt ifs p g nm l K n D C it σ):wK c sc cl tg elt ifs (λn σ=>rz c sc cl tg elt ifs p g nm l K n D C it σ) (K D) n D C it σ:=by
 cases h with
 | @mk lo as x qO _ _ _ i f a w hl each q hi=>
 have fq:∀{x y z:mH},∀q∈as,q∈x::y::z::as:=λq h=>.tail _ (.tail _ (.tail _ h));cases n with
 |zero=>
  have hi:i=l.length:=by rw[<-hi,dH]
  subst hi;refine⟨none,_,w.stop fq (.tail (.tail .head)) (by simp),f,_,.head,?_⟩;rw[cT];exact q D
 |succ n=>
  have mY:i<l.length:=rJ hi;have hy:l[i]?=some l[i]:=aw mY;have e:=each l[i] (bL mY);generalize l[i]=y at hy e;have ht:l.take (i+1)=l.take i++[y]:=by rw[bD,hy];rfl
  have J:n+(i+1)=l.length:=by rw[<-hi,Nat.add_right_comm];rfl
  have hlen:(((l.take i).filter p).map g).length<=900000:=by rw[ah];exact ar (List.length_filter_le _ _) (ar (List.length_take_le' ..) hz)
  refine⟨some y,_,w.next fq (.tail (.tail .head)) hy,p y,_,hl _ _ _ _ (.tail _ (.tail _ (.head _))),e.tgt C f _,e.test C _ λq h=>.tail _ (.tail _ h),?_⟩;cases hp:p y with
  |false=>have:=rz.mk (D:=D) (C:=C) (f:=nm y) (a:=a) w hl each q J;rw[ht,j5,List.filter_cons_of_neg (by rw[hp];exact bI),kT,aW]at this;exact⟨n,b_ n,this⟩
  |true=>refine(e.elt hp C _ λq h=>.tail _ (.tail _ h)).mono ?_;rintro v σ ⟨rfl,rfl⟩;have:=rz.mk (D:=D) (C:=C) (f:=nm y) (a:=a) w hl each q J;rw[ht,j5,List.filter_cons_of_pos hp,kT,au]at this;exact⟨_,_,.tail .head,hlen,n,b_ n,this⟩
inductive CX(c:Cx)(sc:Scope)(cl:List (Str×aA))(tg elt:cI)(ifs:List cI)(p:AV->Bool)(g:AV->AV)(nm:AV->List (Str×AV))(l:List AV)(K:aA->Sg->Prop)(x:AV)(mM:Sg):Prop
 |mk (qO) (w:Walk c mM.as x l qO) (hl:∀it i y σ,qO it i∈σ.as->Lets c σ tg (.ref it) y) (e:∀y∈l,Each c sc cl tg elt ifs p g nm mM.lo mM.as y) (q:∀D,K D ⟨mM.lo,.lst D ((l.filter p).map g)::mM.as⟩)
theorem rz.start(h:WE c E σ t (CX c sc cl tg elt ifs p g nm l K)):
  WE c E σ t λx mM=>oE c mM x λit mT=>∀D C,pn c ⟨mT.lo,.nf C []::.lst D []::mT.as⟩ it/\rz c sc cl tg elt ifs p g nm l K l.length D C it ⟨mT.lo,.nf C []::.lst D []::mT.as⟩:=by
 refine h.mono ?_;rintro x ⟨lo,as⟩ ⟨qO,w,hl,each,q⟩;exact w.start λit D C=>⟨w.self (.tail _ (.tail _ (.head _))),.mk (i:=0) w hl each q rfl⟩
theorem WE.tL(ok:Ok c d)(l:List AV)(p:AV->Bool)(g:AV->AV)(nm:AV->List (Str×AV))
  (nj:dP sc c.env=pure cl)(pj:r4 sc=true)(hz:l.length<=900000)
  (h:WE c E σ (aT iter c.env) (CX c sc cl tg elt ifs p g nm l λD=>Q (.ref D)))
  (hs:autoParam (∀x,bJ iter c.env x=pure x) aI):
  WE c E σ (aT (.ListComp elt [⟨tg,iter,ifs,0⟩] sc pos) c.env) Q:=
 .comp ok _ l.length nj pj (rz.start h) (rz.turn hz) hs
theorem WS.tL(ok:Ok c d)(he:c.env=ε)(J:Nm c ns)(l:List AV)(p:AV->Bool)(g:AV->AV)(nm:AV->List (Str×AV))
  (nj:dP sc c.env=pure cl)(pj:r4 sc=true)(hz:l.length<=900000)
  (h:WE c E σ (aT iter c.env) (CX c sc cl tg elt ifs p g nm l λD=>vl c E ns x rest Q (.ref D)))
  (hw:autoParam (cn (.ListComp elt [⟨tg,iter,ifs,0⟩] sc pos) (some (.Name x p2)) p1.line ε=pure true) aR)
  (hs:autoParam (∀x,bJ iter c.env x=pure x) aI):
  WS c E σ (aO (.Assign [.Name x p2] (.ListComp elt [⟨tg,iter,ifs,0⟩] sc pos) p1::rest) c.env) Q:=
 .JS ok he J _ l.length nj pj (rz.start (K:=λD=>vl c E ns x rest Q (.ref D)) h) (rz.turn hz) hw hs
end
end
end
section
section
variable {c:Cx}{σ:Sg}{d:Nat}{E:Ex}{ε:Env}
theorem qo.ce {x : Str} {p : iA} {av : AV} {a : aA} {y : mH} {lo as as'} (ok : Ok c d) (he : c.env = ε) (hy : y = .qU a ∨ ∃ u, y = .nq a u) (R : Rep y (.nq a av) as as') (hc : autoParam (ε.cells.lookup x = some a) aR) (hx : autoParam (ε.kindOf x = some .cell) aR) : qo c ⟨lo, as⟩ (.Name x p) av ⟨lo, as'⟩ := by
 subst he
 intro E fr xs vs v s Q S k
 refine cx ?_
 obtain ⟨g₁, m, fz, cl, hg, F, K, gt, mI, nd, nw, _, back⟩ := S.at (R.on fr)
 have key : ∀ o yM, s.heap.get? a = some o → o.data = .cell yM → cl.map (fun O => O.1) = [a] → aJ c.M c.A (i8 c.env x v) Q E s := by
  intro o yM ho hd nj
  refine kG ok.kd hx hc ⟨o, ho, hd⟩ fun h' hv hs => ?_
  refine hv.elim fun o' w9 => w9.elim fun uT rM => ?_
  have ov := mI.hd; replace mI := mI.tl
  refine k _ (back { s with heap := h' } [(a, o')] _ _ (.nq rM ov) nj.symm (fun p hp => ?_) (fun b hb o e => ?_) ⟨rfl, rfl, rfl⟩ mI)
  ·simp only [ao] at hp; subst hp; exact uT
  ·rw [nj] at hb
   exact (hs.2 b fun e => hb (by simp [e])).trans e
 rcases hy with rfl | ⟨u, rfl⟩
 ·refine cps fun V V' => ?_
  obtain ⟨o, hd⟩ := K
  refine V' ?_
  exact key o _ (gt _ (.head _)) hd rfl
 ·obtain ⟨o, _, hd, _⟩ := K
  exact key o _ (gt _ (.head _)) hd rfl
theorem nt.KA{x:mH}{l:List mH}(h:x∈l):∃r,nt x l r/\(x::r).Perm l:=
 h.rec (motive:=λl _=>∃r,nt x l r/\(x::r).Perm l) (λO=>⟨_,.head,.refl _⟩) λy {O} O ih=>ih.elim λr h=>⟨y::r,.tail h.1,(bX.swap _ _ _).trans (h.2.cons _)⟩
theorem HX{β:Type}{f:List (Int×β)}{k:Int}{z:β}:(f.map (λO=>O.1)).Nodup->(k,z)∈f->f.find? (λkv=>kv.1=k)=some (k,z):=by
 induction f with
 |nil=>exactλnd h=>nomatch h
 |cons p f ih=>exactλnd h=>(aL.mp h).elim (λe=>e▸jv (decide_eq_true rfl)) λh=>(fW λq=>(bj.mp nd).1 (aG.mpr ⟨_,h,(of_decide_eq_true q).symm⟩)).trans (ih (bj.mp nd).2 h)
theorem HY{f:List (Int×AV)}{k:Int}{z:AV}(nd:(f.map (λO=>O.1)).Nodup)(h:(k,z)∈f):pR f k=some z:=congrArg (fO λO:Int×AV=>O.2) (HX nd h)
end
end
section
section
noncomputable def upd(L:Str->Option AV)(x:Str)(v:AV):Str->Option AV:=λy=>if y=x then some v else L y
noncomputable def Lk(L:Str->Option AV)(x:Str)(v:AV):Prop:=L x=some v
noncomputable def Off(xs:List Str)(L L':Str->Option AV):Prop:=∀y,y∉xs->L' y=L y
variable {L L':Str->Option AV}{x y:Str}{v w:AV}{xs ns:List Str}
theorem Lk.here:Lk (upd L x v) x v:=if_pos rfl
theorem Lk.there(h:Lk L x v)(oR:autoParam ((x==y)=false) aK):Lk (upd L y w) x v:=(if_neg λe=>by simp[e]at oR).trans h
theorem Lk.off(h:Lk L x v)(o:Off xs L L')(hx:autoParam (xs.contains x=false) aK):Lk L' x v:=(o x λhm=>by simp[hm]at hx).trans h
theorem Off.rfl:Off xs L L:=λO O=>Eq.refl _
theorem Off.upd(o:Off xs L L')(hx:autoParam (xs.contains x=true) aK):Off xs L (upd L' x v):=λy hy=>(if_neg λe=>hy (by subst e;simpa using hx)).trans (o y hy)
theorem Off.mono{ys:List Str}(o:Off xs L L')(h:autoParam (xs.all ys.contains=true) aK):Off ys L L':=λy hy=>o y λhm=>hy (by simpa using cy.mp h y hm)
theorem Off.trans{L2:Str->Option AV}(o:Off xs L L')(o2:Off xs L' L2):Off xs L L2:=λy hy=>(o2 y hy).trans (o y hy)
theorem Lk.at(h:Lk L x v){ns:List Str}(m:x∈ns):At ns (ns.map L) x (some v):=
 m.rec (motive:=λns _=>At ns (ns.map L) x (some v)) (λO=>by show At _ (L x::_) _ _;rw[show L x=some v from h];exact .here) λO {O'} O ih=>.there ih
theorem Lk.put{ns:List Str}:ns.Nodup->x∈ns->oA ns (ns.map L) x (some v) (ns.map (upd L x v)):=by
 induction ns with
 |nil=>exactλnd hm=>nomatch hm
 |cons n ns ih=>
  intro nd hm;refine(aq (x=n)).elim (λe=>e▸?_) λe=>?_
  ·rw[bE,bE,show ns.map (upd L x v)=ns.map L from b8 λy hy=>if_neg λ(q:y=x)=>(bj.mp nd).1 (e▸q▸hy),show upd L x v x=some v from if_pos (Eq.refl _)];exact .here
  ·rw[bE,bE,show upd L x v n=L n from if_neg (fh e)];exact .there (ih (bj.mp nd).2 ((aL.mp hm).resolve_left e))
variable {c:Cx}{as:List mH}{d:Nat}
theorem Ev.nl{p:iA}(ok:Ok c d)(J:Nm c ns)(h:Lk L x v)(hx:autoParam (ns.contains x=true) aK):Ev c ⟨ns.map L,as⟩ (.Name x p) v:=.nm ok J (h.at (by simpa using hx))
end
end
section
section
variable {w:cL}{A:Around}{E:Value->ai->Prop}{s:ai}{x C:aA}
theorem UA(hC:qK C)(X:(KK w.params).In s.heap)(I:cQ s.heap x ox C od)(hga:cg (KK w.params) (.ref C) "__getattribute__"=some (some (.builtin "BaseException.__getattribute__")))
  (hng:cg (KK w.params) (.ref C) "__getattr__"=some none)(hf:findObj (KK w.params) C od name=some (.value v))(hh:mc v=true)(h:Q v {s with toks:=s.toks+1}):aJ (aX PW w) A (jt (.ref x) name expr) Q E s:=by
 obtain⟨bm,nm,q',N,bs,sn,fq,col,k0,k1,k2,k3,k5,hE,hB,hA,hN,lk⟩:=hC.at w.params;have hc:=X _ _ lk;obtain⟨hp,g,d,t,os⟩:=s;have L0:=I.type (M:=aX PW w);have L1:=gr (M:=aX PW w) X hga;have L3:=gr (M:=aX PW w) X hng;have L2:=looks_find (M:=aX PW w) X I hf;have hx:=I.at_;have nj:=I.cls;have f3:=ko.ga.bind (.ref x);have hx0:(expr&&onTheHeap (kX "BaseException.__getattribute__"))=false:=by cases expr<;>rfl
 have hh':=handedOut_of hh;have body:∀(A:Around) (E:Value->ai->Prop) (Q:g8->ai->Prop),Q (.done (.ret v)) ⟨hp,g,d,t+1,os⟩->aJ (aX PW w) A (aB.«object.__getattribute__» ⟨[.ref x,.str name t],[]⟩) Q E ⟨hp,g,d,t+1,os⟩:=λA E Q q=>
  ag (ak (ag (ak (ag (L0.at (ag (L2.at (ak q))))))))
 refine ag (wpAny_mkText (bN (ag (L0.at (ag (L1.at ?_))))))
 repeat (any_goals (first|assumption|(with_reducible refine cu hx ?_;rewrite[nj])|with_reducible refine L0.at ?_|with_reducible refine L1.at ?_|with_reducible refine L3.at ?_|wp_step))
 refine gO ko.ga.plain F.entry_bexc_ga ?_;have UB:splitId "BaseException.__getattribute__"=some ("BaseException","__getattribute__"):=by decide +kernel
 have hcB:(di C::bm).contains (.type "BaseException")=true:=by rw[cJ,hB,eZ]
 have ha:=F.args_bexc_ga (.ref x) (.str name t);delta cc;rw[(by decide +kernel:builtinKind "BaseException.__getattribute__"=some .slot)];dsimp only;rw[UB];dsimp only;refine ag ?_;unfold isInstance
 repeat (first|(with_reducible refine cu hx ?_;rewrite[nj])|(with_reducible refine dA hc ?_;rewrite[hcB])|((with_reducible show aJ _ _ (aB.«object.__getattribute__» _) _ _ _);refine body _ _ _ ?_)|wp_step)
 exact h
noncomputable def C6(K:Frag)(C:aA)(x:Str):Bool:=cg K (.ref C) "__getattribute__"==some (some (.builtin "BaseException.__getattribute__"))&&cg K (.ref C) "__getattr__"==some none&&jZ K C&&cg K (.ref C) x==some none
end
section
variable {c:Cx}{σ:Sg}{d:Nat}{E:Ex}{ε:Env}
noncomputable def By(ns:List Str)(lo:List (Option AV))(n:Str)(m6:List (Option AV)):Prop:=∀x av,At ns m6 x (some av)->x≠n/\At ns lo x (some av)
theorem St.Ab{E:Value->ai->Prop}{lo m6 as xs vs}{s:ai}{n:Str}{pos:iA}{Q:Unit->ai->Prop}(ok:Ok c d)(hc:c.cm=false)(S:St c ⟨lo,as⟩ xs vs s)(J:n∈c.ns)(hw:By c.ns lo n m6)(k:∀s',St c ⟨m6,as⟩ xs vs s'->Q () s'):
  aJ c.M A (do iQ c.env n .none;kK c.env n pos) Q E s:=by
 refine cps λV V'=>?_;refine S.elim λg₁ w9=>w9.elim λhg w9=>w9.elim λm w9=>w9.elim λown w9=>w9.elim λfz I=>?_;refine V' ?_;have F:=I.F;have hL:=ok.lc hc;rw[<-hL]at F;have hl:=(ok.loc hc n J).1;have hp:=notCls ok.kd;refine ag (jB (eT hl F.ns (λm4 D3 D4=>?_) hp));refine hU ?_;refine ag (eD (ag ?_));unfold deleteName;rw[hl,hp];refine ag (wpAny_nsDel_keeps D3 λw6 m₂ Lw D5=>?_);simp only[if_true,Option.isSome_some,jo,gI,if_false];rw[hL]at D3 D4 Lw D5;refine ak (eD (k _ ⟨g₁,hg,_,own,fz,(I.F.set D3 D4).set Lw D5,λx av a=>?_,(I.N.set D4).set D5,I.nd,I.sat,I.st,I.same⟩));refine(hw x av a).elim λne a=>?_;obtain⟨v,hv,o⟩:=I.lo x av a;exact⟨v,(if_neg ne).trans ((if_neg ne).trans hv),o⟩
theorem Sp{σ:Sg}{fr xs vs e s}{n nm:Str}{np pos:iA}{vL:Stmt}{vt:List Stmt}{rest:List et}{P:Out->Sg->Prop}{ns:List Str}(ok:Ok c d)(su:Nm c ns)(h:n5 c (σ.on fr) xs vs x e s)(hC:qK x.C)(hg:∀P,cN (KK P) az n=some (some (.ref x.C)))(hx:c.env.kindOf n=some .globalImplicit)
  (body:∀a dd,∃lo1,oA ns σ.lo nm (some (.ref a)) lo1/\WS (c.mk' (.ref a)) qp ⟨lo1,.is a (yJ x.C dd)::.xd dd x.f::σ.as⟩ (aO (vL::vt) c.env) λo mF=>∃t7,By ns mF.lo nm t7/\P o ⟨t7,mF.as⟩)(hd:autoParam ((n==("__debug__":Str))=false) aK):
  aJ c.M c.A (iL e c.env (.ExceptHandler (some (.Name n np)) (some nm) (vL::vt) pos::rest)) (rD c fr xs vs P) (λO O=>False) s:=by
 obtain⟨a,oe,rfl,he,vK⟩:=h.cls;refine kU (kr ?_) (by intro q;cases q);obtain⟨a1,dd1,q1,S⟩:=h.land ok;refine S.glob ok (hg _) hx hd ?_;obtain⟨bm,nmm,q',N,bs,sn,fq,col,k0,k1,k2,k3,k5,hE,hB,hA,hN,lk⟩:=hC.at c.w.params;have X:=S.sq ok;have hL:=ok.lc su.cm;have fin:iM c.M (c.A.mark (some (.ref a))) (.handlers (.ref a) [.ExceptHandler none (some nm) (vL::vt) pos] c.env) (λr m8=>match r with
     |.ok f=>aJ c.M c.A (do iQ c.env nm .none;kK c.env nm pos) (λO nK=>rD c fr xs vs P f nK) (λO O=>False) m8
     |.error x=>dw c.M c.A c.env (λO O=>False) x m8) s:=by
  refine codeAny_handlers_suite_as (h.off λs' h'=>?_);refine cps λV V'=>?_;obtain⟨a2,zr,q2,S2⟩:=h'.land ok;refine V' ?_;cases q2;refine cps λV V'=>?_;refine(body a zr).elim λlo1 w9=>w9.elim λP1 w=>?_;have sf:nm∈c.ns:=by rw[su.eq];exact P1.mem
  obtain⟨g₁,hg1,m,own,fz,I⟩:=S2;refine V' ?_;have F:=I.F;rw[<-hL]at F;refine eT (ok.loc su.cm nm sf).1 F.ns (λh' n' sb=>?_) (notCls ok.kd);rw[hL]at n' sb;have S3:St c ⟨lo1,.is a (yJ x.C zr)::.xd zr x.f::(σ.as++fr)⟩ xs vs {s' with heap:=h'}:=by refine⟨g₁,hg1,_,own,fz,I.F.set n' sb,I.lo.put ok.nd ?_ (.ref a),I.N.set sb,I.nd,I.sat,I.st,I.same⟩;show oA c.ns _ _ _ _;rw[su.eq];exact P1
  have:=W.any (w.go fr xs vs _ (S3.tok (s'.toks+1)).mk');refine aY this ?_ λO O q=>q.elim;rintro f s2 ⟨o,mF,hf,t7,hw,q⟩;rw[<-su.eq]at hw;cases o with
  |next=>exact hf.2.s8.Ab ok su.cm sf hw λs4 S4=>⟨.next,_,⟨hf.1,S4⟩,q⟩
  |brk=>exact hf.2.s8.Ab ok su.cm sf hw λs4 S4=>⟨.brk,_,⟨hf.1,S4⟩,q⟩
  |cont=>exact hf.2.s8.Ab ok su.cm sf hw λs4 S4=>⟨.cont,_,⟨hf.1,S4⟩,q⟩
  |ret x=>obtain⟨v,e,S⟩:=hf;exact S.s8.Ab ok su.cm sf hw λs4 S4=>⟨.ret x,_,⟨v,e,S4⟩,q⟩
 obtain⟨hp,g,dr,tk,os⟩:=s;exact jL (X _ _ lk) he vK hB fin
theorem Ev.Vc(ok:Ok c d)(h:Ev (c.mk' ev) σ e (.ref a))(hm:.is a (yJ C dd)∈σ.as)(hdm:.xd dd f∈σ.as)(hf:(x,av)∈f)(hC:qK C)(ha:C6 (KK c.w.params) C x=true)(hp:autoParam (av.plain=true) aR)
  (he:∀env,aT (.Attribute e x pos) env=(do
   let o <-aT e env
   dN pos.atName
   let r <-cE [o] (jt o x true)
   gM e o r
   pure r):=by intro _;with_unfolding_all rfl):Ev (c.mk' ev) σ (.Attribute e x pos) av:=by
 intro E fr xs vs s Q S k;refine W.Attribute (h.go _ _ _ _ _ _ S λv s' S'=>?_) (he c.env);have S':=S'.s8;refine S'.of.elim λfz o=>?_;obtain rfl:=o.mV;simp only[C6,b5,beq_iff_eq]at ha;refine cps λV V'=>?_;refine ha.elim λq9 h4=>?_;obtain⟨⟨h1,h2⟩,h3⟩:=q9;refine V' ?_;refine cps λV V'=>?_;obtain⟨_,_,_,_,_,_,K0,g0,_⟩:=S'.at (Rep.refl (ax _ hm));obtain⟨g₁,m,fz,cl,hg,F,K,g,mI,_,_,_,back⟩:=S'.at (Rep.refl (ax fr hdm));obtain⟨ox,hox⟩:=K0;refine hox.elim λq1 w9=>w9.elim λq2 w9=>w9.elim λws q3=>?_;obtain⟨es,n,e,nd⟩:=K;obtain⟨u,hu,ho⟩:=e.get nd hf;refine V' ?_;have I:cQ s'.heap a ox C (some (cX es n)):=⟨g0 _ (.head _),q1,by unfold PySem.W.notCls;rw[q3],by rw[q2];exact g _ (.head _)⟩;have S2:St c (σ.on fr) (av::xs) (u::vs) {s' with toks:=s'.toks+1}:=by
  refine back _ _ _ _ (.xd e nd) rfl g (λO O O q=>q) p8.refl ?_;cases mI with
  |cons _ r=>exact .cons ho r
 exact UA hC ((ok.on hg).X.keeps F.keep) I h1 h2 (findObj_own h3 h4 rfl hu) (ho.handed hp) (k _ _ S2.mk')
theorem mQ.neS:mQ c σ (.str x) (.str y) (bY .NotEq) (.bool (decide (x≠y))):=by
 intro E fr xs vs va vb s Q S k;obtain⟨fz,oa,ob⟩:=S.two;obtain⟨t,rfl⟩:=oa.str_inv;obtain⟨u,rfl⟩:=ob.str_inv;refine W.of (SeqAt.RcNeAt.str_str (A:=c.A) (s:=s) _ t _ u PW c.w E Q (k _ _ (S.pop.pop.push λO=>?_)));have:(!((⟨x.toArray⟩:Str)==⟨y.toArray⟩))=decide (x≠y):=by
  by_cases h:x=y
  ·simp[h]
  ·simp[h]
 rw[this];exact .bool _
theorem St.Vd{lo m6 as as' xs vs}{s:ai}{a:aA}{ys:List AV}(S:St c ⟨lo,as⟩ xs vs s)(R:nt (.lst a ys) as as')(hl:∀x av,At c.ns m6 x (some av)->At c.ns lo x (some av)\/(av=.lst ys/\At c.ns lo x (some (.ref a)))):St c ⟨m6,as'⟩ xs vs s:=by
 refine cps λV V'=>?_;obtain⟨g,hg,m,own,fz,I⟩:=S;refine V' ?_;obtain⟨pre,cl,post,k,r⟩:=I.sat.del R;have fq:∀p∈fz,p∈cl++fz:=λp hp=>aS _ hp;refine⟨g,hg,m,pre++post,cl++fz,I.F,λx av h=>?_,λp hp=>I.N p ?_,?_,r _ fq,I.st.mono fq,I.same⟩
 ·rcases hl x av h with h'|⟨rfl,h'⟩
  ·obtain⟨v,a,b⟩:=I.lo x av h';exact⟨v,a,b.mono fq⟩
  ·obtain⟨v,e,b⟩:=I.lo x _ h';obtain rfl:=b.mV;obtain⟨us,n,ho⟩:=k;exact⟨_,e,.lst (ax _ (.head _)) rfl rfl (ho.mono fq)⟩
 ·simp only[aH]at hp ⊢;rcases hp with(h|h)|h|h
  ·exact .inl (.inl h)
  ·exact .inl (.inr (.inr h))
  ·exact .inl (.inr (.inl h))
  ·exact .inr h
 ·refine bX.nodup ?_ I.nd;refine bX.map _ ?_;rw[aj,aj,aj];refine bX.append_left _ ?_;rw[<-aj,<-aj];exact bX.append_right _ bw
theorem WS.yN(J:Nm c ns)(h0:Lk L x (.ref a))(R:nt (.lst a ys) as as')(h:∀L',Lk L' x (.lst ys)->Off [x] L L'->WS c E ⟨ns.map L',as'⟩ t Q):WS c E ⟨ns.map L,as⟩ t Q:=by
 intro fr xs vs s S;refine(h (upd L x (.lst ys)) .here (Off.rfl.upd (by simp))).go fr xs vs s (St.Vd (as:=as++fr) S (R.on fr) λy av hy=>?_);rw[J.eq]at hy ⊢;refine(At.of_map hy).elim λm e=>?_;by_cases q:y=x
 ·subst q;rw[show upd L y (.lst ys) y=_ from Lk.here]at e;cases e;exact .inr ⟨rfl,h0.at m⟩
 ·rw[show upd L x (.lst ys) y=L y from if_neg q]at e;exact .inl (Lk.at e m)
theorem By.of:By ns (ns.map L) n (ns.map λy=>if y=n then none else L y):=λx av h=>by
 refine(At.of_map h).elim λm e=>?_;by_cases q:x=n
 ·rw[if_pos q]at e;cases e
 ·rw[if_neg q]at e;exact⟨q,Lk.at e m⟩
end
end
section
theorem rangeSize_nat(n:Nat):aB.Range.rangeSize 0 (n:Int) 1=n:=by rw[my];exact(aq ((0:Int)<(n:Int))).elim (λh=>(if_pos h).trans (Int.sub_zero _)) λh=>(if_neg h).trans (x50 h)
theorem KC{α β:Type}{l l':List α}{X M:List α×β}{k:β}(h:(l++X.1,X.2)=M)(e:X=(l',k)):M=(l++l',k):=by rw[<-h,e]
theorem rX{α β:Type}{l:List α}{X M:List α×β}{k:β}(h:(l++X.1,X.2)=M)(e:X=([],k)):M=(l,k):=by rw[<-h,e,aW]
theorem Ag{α β:Type}{l:List α}{x:α}{X Y M:List α×β}(h:(l++X.1,X.2)=M)(e:X=(x::Y.1,Y.2)):((l++[x])++Y.1,Y.2)=M:=by rw[<-h,e,aj];rfl
theorem EG[Decidable p]{A B:Prop}(h1:p->A)(h2:¬p->B):if decide p=true then A else B:=(aq p).elim (λh=>(if_pos (decide_eq_true h)).symm▸h1 h) λh=>(if_neg (ey.mp (decide_eq_false h))).symm▸h2 h
theorem Nf[Decidable p][Decidable q](h:(decide p&&(decide q&&true))=true):p/\q:=by rw[Bool.and_true]at h;exact⟨of_decide_eq_true (aV.mp h).1,of_decide_eq_true (aV.mp h).2⟩
theorem Ng[Decidable p][Decidable q](h:(decide p&&(decide q&&true))=false):¬p\/¬q:=(aq p).elim (λk=>.inr λl=>by rw[decide_eq_true k,decide_eq_true l]at h;cases h) .inl
theorem l9{α:Type}{l:List α}(h:Nat.ble l.length n=true):l.length<=n:=Nat.le_of_ble_eq_true h
theorem A_{α:Type}{Y:α->List mH}{Q:AV->List mH->Prop}(q:∀a,Q X (Y a)):∀av as',(av=X/\∃a,as'=Y a)->Q av as':=λO O h=>by rw[h.1];exact h.2.elim λa e=>e▸q a
theorem Ve{α β:Type}{Y:α->β->List mH}{Q:AV->List mH->Prop}(q:∀a b,Q X (Y a b)):∀av as',(av=X/\∃a b,as'=Y a b)->Q av as':=λO O h=>by rw[h.1];exact h.2.elim λa h=>h.elim λb e=>e▸q a b
section
variable {c:Cx}{σ:Sg}{d:Nat}{E:Ex}
theorem WS.gen(k:∀Q',(∀o mF,Q o mF->Q' o mF)->WS c E σ t Q'):WS c E σ t Q:=k Q λ_ _ h=>h
theorem Exits.gen(ex:Exits c E X){G:Prop}(k:∀X',(∀x mF,X x mF->X' x mF)->Exits c E X'->G):G:=k X (λ_ _ h=>h) ex
noncomputable abbrev uX(c:Cx)(E:Ex)(l:List Stmt)(Q:Out->Sg->Prop)(σ:Sg):Prop:=WS c E σ (aO l c.env) Q
noncomputable def Br(c:Cx)(E:Ex)(a b:List Stmt)(Q Q':Out->Sg->Prop):Bool->Sg->Prop
 |true,σ=>WS c E σ (aO a c.env) Q
 |false,σ=>WS c E σ (aO b c.env) Q'
theorem Tr.br[Decidable p](h:Tr c σ e (decide p))(h1:p->WS c E σ (aO a c.env) Q)(h2:¬p->WS c E σ (aO b c.env) Q'):WT c E σ e (Br c E a b Q Q'):=
 h.wt (by by_cases q:p;rw[decide_eq_true q];exact h1 q;rw[decide_eq_false q];exact h2 q)
theorem WS.qq[Decidable g](ht:Tr c σ t (decide g))(ha:g->WS c E σ (aO a c.env) (rE c E rest Q))(hb:¬g->WS c E σ (aO rest c.env) Q):
  WS c E σ (aO (.If t a [] p::rest) c.env) Q:=.n3 ht (λh=>ha (of_decide_eq_true h)) (λh=>hb (of_decide_eq_false h))
theorem WS.AD(own:Own c E)(I:Nat->Sg->Prop)(n:Nat)(h0:I n σ)
  (turn:∀n σ Q',(∀o mF,Turn c E I n rest Q o mF->Q' o mF)->I n σ->WT c E σ t (Br c E body rest Q' Q)):WS c E σ (aO (.While t body [] p::rest) c.env) Q:=
 .yf own I n h0 λn σ h=>(turn n σ _ (λO O h=>h) h).mono λb mF h=>by cases b<;>exact h
theorem WS.w_(own:Own c E)(I:Nat->AV->Sg->Prop)(n:Nat)
  (h:∀P,(∀it σ,I n it σ->P it σ)->WE c E σ (aT e c.env) λx mM=>oE c mM x P)
  (turn:∀n it σ Q',(∀o mF,Turn c E (λn σ=>I n it σ) n rest Q o mF->Q' o mF)->I n it σ->AU c σ tg it (uX c E rest Q) (uX c E body Q'))
  (hs:autoParam (∀x,bJ e c.env x=pure x) aI)(ht:∀it v,cP tg it v=pure ():=by intro _ _;rfl):WS c E σ (aO (.For tg e body [] p::rest) c.env) Q:=
 .M9 own I n (h _ λO O h=>h) (λn it σ h=>turn n it σ _ (λO O h=>h) h) hs ht
theorem WS.AE(own:Own c E)(I:Nat->Sg->Prop)(n:Nat)(h0:I n σ)
  (z:∀σ Q',I 0 σ->WT c E σ t (Br c E body rest Q' Q))
  (turn:∀n σ Q',(∀o mF,Turn c E I (n+1) rest Q o mF->Q' o mF)->I (n+1) σ->WT c E σ t (Br c E body rest Q' Q)):WS c E σ (aO (.While t body [] p::rest) c.env) Q:=
 .AD own I n h0 λn=>n.casesOn (λσ Q' O h=>z σ Q' h) turn
theorem WS.vN(own:Own c E)(I:Nat->AV->Sg->Prop)(n:Nat)
  (h:∀P,(∀it σ,I n it σ->P it σ)->WE c E σ (aT e c.env) λx mM=>oE c mM x P)
  (z:∀it σ Q',I 0 it σ->AU c σ tg it (uX c E rest Q) Q')
  (turn:∀n it σ Q',(∀o mF,Turn c E (λn σ=>I n it σ) (n+1) rest Q o mF->Q' o mF)->I (n+1) it σ->AU c σ tg it (uX c E rest Q) (uX c E body Q'))
  (hs:autoParam (∀x,bJ e c.env x=pure x) aI)(ht:∀it v,cP tg it v=pure ():=by intro _ _;rfl):WS c E σ (aO (.For tg e body [] p::rest) c.env) Q:=
 .w_ own I n h (λn=>n.casesOn (λit σ Q' O h=>z it σ _ h) turn) hs ht
theorem WS.Ba(own:Own c E)(S:aA->ι->Sg)(P:Nat->ι->Prop)(n:Nat)
  (h:WE c E σ (aT e c.env) λx mM=>oE c mM x (Oi S P n))
  (turn:∀n a i Q',(∀o mF,Lu c E (S a) P n rest Q o mF->Q' o mF)->P n i->Kz c (S a i) (.ref a) tg (uX c E rest Q) (uX c E body Q'))
  (hs:autoParam (∀x,bJ e c.env x=pure x) aI):WS c E σ (aO (.For tg e body [] p::rest) c.env) Q:=
 .EF own S P n h (λn a i h=>turn n a i _ (λO O h=>h) h) hs
theorem WS.xa{st:Stmt}(P:Sg->Prop)(h:∀Q',(∀mF,P mF->Q' .next mF)->WS c E σ (aO [st] c.env) Q')(k:∀mF,P mF->WS c E mF (aO rest c.env) Q):WS c E σ (aO (st::rest) c.env) Q:=
 .seq P (h _ λmF p=>⟨rfl,p⟩) k
theorem WE.Lx(ok:Ok c d)(I:Nat->aA->aA->AV->Sg->Prop)(n:Nat)
  (nj:dP sc c.env=pure cl)(pj:r4 sc=true)
  (h:WE c E σ (aT iter c.env) λx mM=>oE c mM x λit mT=>∀D C,pn c ⟨mT.lo,.nf C []::.lst D []::mT.as⟩ it/\I n D C it ⟨mT.lo,.nf C []::.lst D []::mT.as⟩)
  (turn:∀n D C it σ I' K',(∀m mF,I m D C it mF->I' m mF)->(∀mF,Q (.ref D) mF->K' mF)->I n D C it σ->wK c sc cl tg elt ifs I' K' n D C it σ)
  (hs:autoParam (∀x,bJ iter c.env x=pure x) aI):
  WE c E σ (aT (.ListComp elt [⟨tg,iter,ifs,0⟩] sc pos) c.env) Q:=
 .comp ok I n nj pj h (λn D C it σ h=>turn n D C it σ _ _ (λO O h=>h) (λO h=>h) h) hs
theorem WS.Sq(ok:Ok c d)(he:c.env=ε)(J:Nm c ns)(I:Nat->aA->aA->AV->Sg->Prop)(n:Nat)
  (nj:dP sc c.env=pure cl)(pj:r4 sc=true)
  (h:WE c E σ (aT iter c.env) λx mM=>oE c mM x λit mT=>∀D C,pn c ⟨mT.lo,.nf C []::.lst D []::mT.as⟩ it/\I n D C it ⟨mT.lo,.nf C []::.lst D []::mT.as⟩)
  (turn:∀n D C it σ I' K',(∀m mF,I m D C it mF->I' m mF)->(∀mF,vl c E ns x rest Q (.ref D) mF->K' mF)->I n D C it σ->wK c sc cl tg elt ifs I' K' n D C it σ)
  (hw:autoParam (cn (.ListComp elt [⟨tg,iter,ifs,0⟩] sc pos) (some (.Name x p')) p.line ε=pure true) aR)
  (hs:autoParam (∀x,bJ iter c.env x=pure x) aI):
  WS c E σ (aO (.Assign [.Name x p'] (.ListComp elt [⟨tg,iter,ifs,0⟩] sc pos) p::rest) c.env) Q:=
 .JS ok he J I n nj pj h (λn D C it σ h=>turn n D C it σ _ _ (λO O h=>h) (λO h=>h) h) hw hs
theorem WS.EH(C:Prop){α:Type}(S:α->Sg){st:Stmt}{Q:Out->Sg->Prop}(h:∀Q',(C->∀a,Q' .next (S a))->WS c E σ (aO [st] c.env) Q')(k:C->∀a,WS c E (S a) (aO rest c.env) Q):WS c E σ (aO (st::rest) c.env) Q:=
 .xa (λσ=>C/\∃a,σ=S a) (λQ' w=>h Q' λhC a=>w _ ⟨hC,a,rfl⟩) λσ h=>h.2.elim λa e=>e▸k h.1 a
theorem WS.t_[Decidable g](ht:Tr c σ t (decide g))(ha:g->WS c E σ (aO a c.env) (rE c E rest Q))(hb:¬g->WS c E σ (aO b c.env) (rE c E rest Q)):
  WS c E σ (aO (.If t a b p::rest) c.env) Q:=.qy ht (λh=>ha (of_decide_eq_true h)) (λh=>hb (of_decide_eq_false h))
end
end
theorem Qf(P:aM):cN (KK P) az "want_just"=some (some (.ref 79)):=by kernel_rfl!
theorem Je(P:aM):cN (KK P) az "Cursor"=some (some (.ref 195)):=by kernel_rfl!
theorem AF(P:aM):cN (KK P) az "Sink"=some (some (.ref 265)):=by kernel_rfl!
theorem JV(P:aM):cN (KK P) az "Names"=some (some (.ref 308)):=by kernel_rfl!
theorem Rm(P:aM):cN (KK P) az "utf8_of"=some (some (.ref 276)):=by kernel_rfl!
theorem Rn(P:aM):cN (KK P) az "head_of"=some (some (.ref 283)):=by kernel_rfl!
theorem Ro(P:aM):cN (KK P) az "text_of"=some (some (.ref 291)):=by kernel_rfl!
theorem HZ(P:aM):cN (KK P) az "read_map"=some (some (.ref 319)):=by kernel_rfl!
theorem Pt(P:aM):cN (KK P) az "read_locals"=some (some (.ref 326)):=by kernel_rfl!
theorem Qg(P:aM):cN (KK P) az "read_part"=some (some (.ref 333)):=by kernel_rfl!
theorem Gm(P:aM):cN (KK P) az "read_section"=some (some (.ref 340)):=by kernel_rfl!
theorem Hw(P:aM):cN (KK P) az "write_map"=some (some (.ref 347)):=by kernel_rfl!
theorem CD(P:aM):cN (KK P) az "write_part"=some (some (.ref 354)):=by kernel_rfl!
theorem G7(P:aM):cN (KK P) az "section_of"=some (some (.ref 361)):=by kernel_rfl!
theorem Qh(P:aM):cN (KK P) az "_law_next"=some (some (.ref 368)):=by kernel_rfl!
theorem PK(P:aM):cN (KK P) az "_law_point"=some (some (.ref 375)):=by kernel_rfl!
theorem Hx(P:aM):cN (KK P) az "_law_text"=some (some (.ref 382)):=by kernel_rfl!
theorem G8(P:aM):cN (KK P) az "_law_index"=some (some (.ref 389)):=by kernel_rfl!
theorem Hy(P:aM):cN (KK P) az "_law_some"=some (some (.ref 396)):=by kernel_rfl!
theorem CG(P:aM):cN (KK P) az "_law_dict"=some (some (.ref 403)):=by kernel_rfl!
theorem GG(P:aM):cN (KK P) az "_law_sorted"=some (some (.ref 408)):=by kernel_rfl!
theorem Qi(P:aM):cN (KK P) az "_law_long"=some (some (.ref 415)):=by kernel_rfl!
theorem Hz(P:aM):cN (KK P) az "_law_sign"=some (some (.ref 422)):=by kernel_rfl!
theorem GH(P:aM):cN (KK P) az "_law_octets"=some (some (.ref 427)):=by kernel_rfl!
theorem xK(P:aM):cN (KK P) az "_law_coded"=some (some (.ref 432)):=by kernel_rfl!
theorem H4(P:aM):cN (KK P) az "_law_map"=some (some (.ref 439)):=by kernel_rfl!
theorem Cz(P:aM):cN (KK P) az "_law_written"=some (some (.ref 444)):=by kernel_rfl!
theorem GI(P:aM):cN (KK P) az "_law_number"=some (some (.ref 449)):=by kernel_rfl!
theorem PL(P:aM):cN (KK P) az "_law_found"=some (some (.ref 456)):=by kernel_rfl!
theorem HA(P:aM):cN (KK P) az "_law_name"=some (some (.ref 463)):=by kernel_rfl!
theorem G9(P:aM):cN (KK P) az "_law_pairs"=some (some (.ref 470)):=by kernel_rfl!
theorem Qj(P:aM):cN (KK P) az "_law_rows"=some (some (.ref 477)):=by kernel_rfl!
theorem HB(P:aM):cN (KK P) az "_law_read"=some (some (.ref 484)):=by kernel_rfl!
theorem zP(P:aM):cN (KK P) az "_law_told"=some (some (.ref 489)):=by kernel_rfl!
theorem Qk(P:aM):cN (KK P) az "WasmFault"=some (some (.ref 38)):=by kernel_rfl!
theorem qs(P:aM):cN (KK P) az "Malformed"=some (some (.ref 58)):=by kernel_rfl!
theorem IC(P:aM):cN (KK P) az "Misused"=some (some (.ref 70)):=by kernel_rfl!
theorem qk:Bi "len" (.builtin "len"):=⟨λP=>by kernel_rfl!,by kernel_rfl!,by decide +kernel,by decide +kernel⟩
theorem rx:Bi "bytes" (.type "bytes"):=⟨λP=>by kernel_rfl!,by kernel_rfl!,by decide +kernel,by decide +kernel⟩
theorem HC:Bi "bytearray" (.type "bytearray"):=⟨λP=>by kernel_rfl!,by kernel_rfl!,by decide +kernel,by decide +kernel⟩
theorem sM:Bi "range" (.type "range"):=⟨λP=>by kernel_rfl!,by kernel_rfl!,by decide +kernel,by decide +kernel⟩
theorem Ly:Bi "ord" (.builtin "ord"):=⟨λP=>by kernel_rfl!,by kernel_rfl!,by decide +kernel,by decide +kernel⟩
theorem D6:Bi "chr" (.builtin "chr"):=⟨λP=>by kernel_rfl!,by kernel_rfl!,by decide +kernel,by decide +kernel⟩
theorem Ac:Bi "sorted" (.builtin "sorted"):=⟨λP=>by kernel_rfl!,by kernel_rfl!,by decide +kernel,by decide +kernel⟩
theorem PM:Bi "isinstance" (.builtin "isinstance"):=⟨λP=>by kernel_rfl!,by kernel_rfl!,by decide +kernel,by decide +kernel⟩
theorem Lz:Bi "abs" (.builtin "abs"):=⟨λP=>by kernel_rfl!,by kernel_rfl!,by decide +kernel,by decide +kernel⟩
theorem Vf:Bi "sum" (.builtin "sum"):=⟨λP=>by kernel_rfl!,by kernel_rfl!,by decide +kernel,by decide +kernel⟩
theorem Ql:Bi "Exception" (.type "Exception"):=⟨λP=>by kernel_rfl!,by kernel_rfl!,by decide +kernel,by decide +kernel⟩
noncomputable abbrev tB:List Str:=["octets","at","end"]
theorem Cq(P:aM):attrOk (KK P) 195 "octets"=true:=by kernel_rfl!
theorem F9(P:aM):cg (KK P) (.ref 195) "octets"=some none:=by kernel_rfl!
theorem pE(P:aM):attrOk (KK P) 195 "at"=true:=by kernel_rfl!
theorem xO(P:aM):cg (KK P) (.ref 195) "at"=some none:=by kernel_rfl!
theorem zN(P:aM):attrOk (KK P) 195 "end"=true:=by kernel_rfl!
theorem G_(P:aM):cg (KK P) (.ref 195) "end"=some none:=by kernel_rfl!
theorem zM(P:aM):qi (KK P) 195 "left" 101 tB=true:=by kernel_rfl!
theorem F4(P:aM):qi (KK P) 195 "is_done" 108 tB=true:=by kernel_rfl!
theorem Pu(P:aM):qi (KK P) 195 "peek" 115 tB=true:=by kernel_rfl!
theorem Gn(P:aM):qi (KK P) 195 "octet" 122 tB=true:=by kernel_rfl!
theorem GJ(P:aM):qi (KK P) 195 "take" 129 tB=true:=by kernel_rfl!
theorem Pw(P:aM):qi (KK P) 195 "part" 136 tB=true:=by kernel_rfl!
theorem O0(P:aM):qi (KK P) 195 "unsigned" 143 tB=true:=by kernel_rfl!
theorem wu(P:aM):qi (KK P) 195 "u32" 157 tB=true:=by kernel_rfl!
theorem GK(P:aM):qi (KK P) 195 "name" 192 tB=true:=by kernel_rfl!
theorem tC:Sets 195:=.plain (λP=>by kernel_rfl!) (λP=>by kernel_rfl!) (λP=>by kernel_rfl!)
theorem ID(P:aM):j9 (KK P) 195=true:=by kernel_rfl!
theorem IE(P:aM):cg (KK P) (.ref 195) "__init__"=some (some (.ref 94)):=by kernel_rfl!
theorem IF(P:aM):f6 (KK P) (.ref 195)=true:=by kernel_rfl!
noncomputable abbrev yk:List Str:=["octets"]
theorem uj(P:aM):attrOk (KK P) 265 "octets"=true:=by kernel_rfl!
theorem Px(P:aM):cg (KK P) (.ref 265) "octets"=some none:=by kernel_rfl!
theorem PN(P:aM):qi (KK P) 265 "octet" 220 yk=true:=by kernel_rfl!
theorem xH(P:aM):qi (KK P) 265 "unsigned" 234 yk=true:=by kernel_rfl!
theorem HD(P:aM):qi (KK P) 265 "many" 248 yk=true:=by kernel_rfl!
theorem HE(P:aM):qi (KK P) 265 "name" 255 yk=true:=by kernel_rfl!
theorem PO(P:aM):qi (KK P) 265 "sized" 262 yk=true:=by kernel_rfl!
theorem UC:Sets 265:=.plain (λP=>by kernel_rfl!) (λP=>by kernel_rfl!) (λP=>by kernel_rfl!)
theorem Ah(P:aM):j9 (KK P) 265=true:=by kernel_rfl!
theorem Ai(P:aM):cg (KK P) (.ref 265) "__init__"=some (some (.ref 213)):=by kernel_rfl!
theorem Aj(P:aM):f6 (KK P) (.ref 265)=true:=by kernel_rfl!
theorem zK(P:aM):attrOk (KK P) 308 "module"=true:=by kernel_rfl!
theorem CA(P:aM):cg (KK P) (.ref 308) "module"=some none:=by kernel_rfl!
theorem wq(P:aM):attrOk (KK P) 308 "funcs"=true:=by kernel_rfl!
theorem GL(P:aM):cg (KK P) (.ref 308) "funcs"=some none:=by kernel_rfl!
theorem sJ(P:aM):attrOk (KK P) 308 "locals"=true:=by kernel_rfl!
theorem Gp(P:aM):cg (KK P) (.ref 308) "locals"=some none:=by kernel_rfl!
theorem O_(P:aM):attrOk (KK P) 308 "is_whole"=true:=by kernel_rfl!
theorem F5(P:aM):cg (KK P) (.ref 308) "is_whole"=some none:=by kernel_rfl!
theorem tE:Sets 308:=.plain (λP=>by kernel_rfl!) (λP=>by kernel_rfl!) (λP=>by kernel_rfl!)
theorem Jf(P:aM):j9 (KK P) 308=true:=by kernel_rfl!
theorem Jg(P:aM):cg (KK P) (.ref 308) "__init__"=some (some (.ref 305)):=by kernel_rfl!
theorem Jh(P:aM):f6 (KK P) (.ref 308)=true:=by kernel_rfl!
theorem Vg(P:aM):f6 (KK P) (.ref 58)=true:=by kernel_rfl!
theorem Vh(P:aM):cg (KK P) (.ref 58) "__init__"=some (some (.ref 55)):=by kernel_rfl!
theorem Sr(P:aM):cg (KK P) (.ref 58) "why"=some none:=by kernel_rfl!
theorem TM(P:aM):cg (KK P) (.ref 58) "at"=some none:=by kernel_rfl!
theorem Vi(P:aM):f6 (KK P) (.ref 70)=true:=by kernel_rfl!
theorem Vj(P:aM):cg (KK P) (.ref 70) "__init__"=some (some (.ref 35)):=by kernel_rfl!
theorem Ss(P:aM):cg (KK P) (.ref 70) "why"=some none:=by kernel_rfl!
theorem O1(P:aM):Li (KK P) 38 "__init__" 35:=⟨by kernel_rfl!,by kernel_rfl!,by kernel_rfl!,by kernel_rfl!,by kernel_rfl!⟩
theorem acG:gp (.type "Exception")=pure (.type "type"):=by kernel_rfl!
theorem acH:jT "Exception"=false:=by decide +kernel
theorem acI(P:aM):lL (KK P) (.type "Exception") (.type "type") "__init__"=some (.val (.builtin "Exception.__init__")):=by kernel_rfl!
inductive Xs2{A0 A1:Type}(p:A0->A1->Prop):Prop
 |mk (a0 a1) (h:p a0 a1)
inductive zu{A0 A1 A2:Type}(p:A0->A1->A2->Prop):Prop
 |mk (a0 a1 a2) (h:p a0 a1 a2)
inductive uY{A0 A1 A2 A3:Type}(p:A0->A1->A2->A3->Prop):Prop
 |mk (a0 a1 a2 a3) (h:p a0 a1 a2 a3)
inductive Xs5{A0 A1 A2 A3 A4:Type}(p:A0->A1->A2->A3->A4->Prop):Prop
 |mk (a0 a1 a2 a3 a4) (h:p a0 a1 a2 a3 a4)
inductive zv{A0 A1 A2 A3 A4 A5:Type}(p:A0->A1->A2->A3->A4->A5->Prop):Prop
 |mk (a0 a1 a2 a3 a4 a5) (h:p a0 a1 a2 a3 a4 a5)
inductive Xs7{A0 A1 A2 A3 A4 A5 A6:Type}(p:A0->A1->A2->A3->A4->A5->A6->Prop):Prop
 |mk (a0 a1 a2 a3 a4 a5 a6) (h:p a0 a1 a2 a3 a4 a5 a6)
inductive Om{A0 A1 A2 A3 A4 A5 A6 A7:Type}(p:A0->A1->A2->A3->A4->A5->A6->A7->Prop):Prop
 |mk (a0 a1 a2 a3 a4 a5 a6 a7) (h:p a0 a1 a2 a3 a4 a5 a6 a7)
inductive Oo{A0 A1 A2 A3 A4 A5 A6 A7 A8:Type}(p:A0->A1->A2->A3->A4->A5->A6->A7->A8->Prop):Prop
 |mk (a0 a1 a2 a3 a4 a5 a6 a7 a8) (h:p a0 a1 a2 a3 a4 a5 a6 a7 a8)
inductive acJ{A0 A1 A2 A3 A4 A5 A6 A7 A8 A9:Type}(p:A0->A1->A2->A3->A4->A5->A6->A7->A8->A9->Prop):Prop
 |mk (a0 a1 a2 a3 a4 a5 a6 a7 a8 a9) (h:p a0 a1 a2 a3 a4 a5 a6 a7 a8 a9)
inductive ua(a0 a1 a2:Prop):Prop
 |mk (h0:a0) (h1:a1) (h2:a2)
inductive Oq(a0 a1 a2 a3:Prop):Prop
 |mk (h0:a0) (h1:a1) (h2:a2) (h3:a3)
inductive BZ(a0 a1 a2 a3 a4:Prop):Prop
 |mk (h0:a0) (h1:a1) (h2:a2) (h3:a3) (h4:a4)
inductive uZ(a0 a1 a2 a3 a4 a5:Prop):Prop
 |mk (h0:a0) (h1:a1) (h2:a2) (h3:a3) (h4:a4) (h5:a5)
inductive Ot(a0 a1 a2 a3 a4 a5 a6:Prop):Prop
 |mk (h0:a0) (h1:a1) (h2:a2) (h3:a3) (h4:a4) (h5:a5) (h6:a6)
inductive Ou(a0 a1 a2 a3 a4 a5 a6 a7:Prop):Prop
 |mk (h0:a0) (h1:a1) (h2:a2) (h3:a3) (h4:a4) (h5:a5) (h6:a6) (h7:a7)
inductive As9(a0 a1 a2 a3 a4 a5 a6 a7 a8:Prop):Prop
 |mk (h0:a0) (h1:a1) (h2:a2) (h3:a3) (h4:a4) (h5:a5) (h6:a6) (h7:a7) (h8:a8)
theorem nF{Q:AV->List mH->Prop}(q:Q X Y):∀av as',av=X/\as'=Y->Q av as':=λO O h=>by rw[h.1,h.2];exact q
theorem p_{Q:AV->List mH->Prop}(q:P->Q X Y):∀av as',P/\av=X/\as'=Y->Q av as':=λO O h=>by rw[h.2.1,h.2.2];exact q h.1
theorem EI{α:Type}{P:α->Prop}{X:α->AV}{Y:α->List mH}{Q:AV->List mH->Prop}(q:∀a,P a->Q (X a) (Y a)):∀av as',(∃a,P a/\av=X a/\as'=Y a)->Q av as':=λO O k9=>by obtain⟨a,p,h⟩:=k9;exact by rw[h.1,h.2];exact q a p
theorem rG{α β:Type}{P:α->β->Prop}{X:α->β->AV}{Y:α->β->List mH}{Q:AV->List mH->Prop}(q:∀a b,P a b->Q (X a b) (Y a b)):∀av as',(∃a b,P a b/\av=X a b/\as'=Y a b)->Q av as':=λO O k9=>by obtain⟨a,b,p,h⟩:=k9;exact by rw[h.1,h.2];exact q a b p
theorem t5{C:mZ->Prop}{Q:mZ->List mH->Prop}(q:∀y,P->C y->Q y Y):∀y as',P/\C y/\as'=Y->Q y as':=λy O h=>by rw[h.2.2];exact q y h.1 h.2.1
theorem si{α:Type}{C:mZ->Prop}{Y:α->List mH}{Q:mZ->List mH->Prop}(q:∀y e,P->C y->Q y (Y e)):∀y as',(P/\C y/\∃e,as'=Y e)->Q y as':=λy O k9=>by obtain⟨p,h,e,k⟩:=k9;exact by rw[k];exact q y e p h
theorem EJ{α β:Type}{P:α->β->Prop}{C:mZ->Prop}{Y:α->β->List mH}{Q:mZ->List mH->Prop}(q:∀y a b,P a b->C y->Q y (Y a b)):∀y as',(∃a b,P a b/\C y/\as'=Y a b)->Q y as':=λy O k9=>by obtain⟨a,b,p,h,k⟩:=k9;exact by rw[k];exact q y a b p h
theorem EK{α:Type}{X:α->AV}{Y:α->List mH}{Q:AV->List mH->Prop}(q:∀a,Q (X a) (Y a)):∀av as',(∃a,av=X a/\as'=Y a)->Q av as':=λO O k9=>by obtain⟨a,h⟩:=k9;exact by rw[h.1,h.2];exact q a
noncomputable abbrev vy:=af "why"
noncomputable abbrev uG:=af "at"
noncomputable abbrev adu:=af "self"
noncomputable abbrev acK(o:List UInt8)(a e:Int):List (Str×AV):=[(af "octets",.bytes o),(af "at",.int a),(af "end",.int e)]
noncomputable abbrev cur(c:aA)(o:List UInt8)(a e:Int):mH:=.ins c 195 (acK o a e)
noncomputable abbrev nE:mZ->List mH->Prop:=λO O=>False
theorem FT(hC:qK C)(hy:∀P,cg (KK P) (.ref C) vy=some none):Fn (.ref 35) 1 [.ref e,y] [.exc e C none] (λav as'=>av=.none/\as'=[.exc e C (some [(vy,y)])]) nE:=by refine mG.enter FQ id (λs us hl w X=>pY hl λa b=>aC rfl) (λO O h=>h) ?_;intro x E ok he J ex nd;refine .ex he (.Kq ok (.bi ok he Ql) (.typ ok acG acH (acI _) rfl) .builtin (.one (.nm ok J .here) (.one (.nm ok J .t1) (.nil (.Tu ok (.head _) hC ⟨rfl,?_⟩)))));refine .sX ok he (.nm ok J .t1) (.nm ok J .here) .head .nil hC.sets hy ?_;exact .nil ⟨rfl,rfl⟩
theorem OX:Fn (.ref 55) 2 [.ref e,y,z] [.exc e 58 none] (λav as'=>av=.none/\as'=[.exc e 58 (some [(vy,y),(uG,z)])]) nE:=by refine mG.enter FR id (λs us hl w X=>yg hl λa b c=>aC rfl) (λO O h=>h) ?_;intro x E ok he J ex nd;refine .ex he (.cm ok (.glr ok he (Qk _)) O1 (.one (.nm ok J .here) (.one (.nm ok J .t1) (.nil (mG.op (rest:=[]) (FT zl Sr) ok ex (by decide) .refl ?_ (λO O h=>h.elim))))));refine nF ?_;refine⟨rfl,.sX ok he (.nm ok J .t2) (.nm ok J .here) .head (.there (by decide +kernel) .nil) zl.sets TM ?_⟩;exact .nil ⟨rfl,rfl⟩
theorem LA(P:aM):(KK P).lookup 87=some ⟨.type "tuple",none,.seq #[.int 0 290,.none] 0,#[]⟩:=by kernel_rfl!
noncomputable abbrev pV:=af "octets"
noncomputable abbrev s_end:=af "end"
theorem O2{a:aA}{o:List UInt8}(hz:o.length<=16000000):Fn (.ref 94) 1 [.ref a,.bytes o] [.ins a 195 []] (λav as'=>av=.none/\as'=[cur a o 0 o.length]) nE:=by
 refine mG.enter zH (args':=[.ref a,.bytes o,.int 0,.none]) (λus=>us++[.int 0 290,.none]) (λs us hl w X=>?_) (λfz us h=>h.append (.cons (.int 0 290) (.cons .none .nil))) ?_
 ·obtain⟨u,v⟩:=qn hl;exact binds_K X rfl (LA _) rfl rfl rfl
 intro x E ok he J ex nd;refine .sA ok he (.nm ok J .t1) (.nm ok J .here) .head .nil tC F9 ?_;refine .sA ok he (.nm ok J .t2) (.nm ok J .here) .head (.there (by decide +kernel) .nil) tC xO ?_;refine .sA ok he (.yH (.cmp (.nm ok J .t3) .none (.isNone rfl)) (.pC ok he qk (.nm ok J .t1) (.tU hz))) (.nm ok J .here) .head (.there (by decide +kernel) (.there (by decide +kernel) .nil)) tC G_ ?_;exact .nil ⟨rfl,rfl⟩
theorem O3{a:aA}{o:List UInt8}{i j:Int}:Fn (.ref 94) 1 [.ref a,.bytes o,.int i,.int j] [.ins a 195 []] (λav as'=>av=.none/\as'=[cur a o i j]) nE:=by
 refine mG.enter zH id (λs us hl w X=>?_) (λO O h=>h) ?_
 ·obtain⟨u,v,u2,u3⟩:=E1 hl;exact binds_K X rfl (LA _) rfl rfl rfl
 intro x E ok he J ex nd;refine .sA ok he (.nm ok J .t1) (.nm ok J .here) .head .nil tC F9 ?_;refine .sA ok he (.nm ok J .t2) (.nm ok J .here) .head (.there (by decide +kernel) .nil) tC xO ?_;refine .sA ok he (.yI (.cmp (.nm ok J .t3) .none (.isNone rfl)) (.nm ok J .t3)) (.nm ok J .here) .head (.there (by decide +kernel) (.there (by decide +kernel) .nil)) tC G_ ?_;exact .nil ⟨rfl,rfl⟩
theorem zW{a:aA}{o:List UInt8}{i j:Int}:Fn (.ref 101) 1 [.ref a] [cur a o i j] (λav as'=>av=.int (j-i)/\as'=[cur a o i j]) nE:=by refine mG.enter O4 id (λs us hl w X=>pF hl λa=>aC rfl) (λO O h=>h) ?_;intro x E ok he J ex nd;exact .ret (.ev (.binop (.attr ok (.nm ok J .here) (.head _) m2 (zN _)) (.attr ok (.nm ok J .here) (.head _) m1 (pE _)) .sub) ⟨rfl,rfl⟩)
theorem Ha{a:aA}{o:List UInt8}{i j:Int}:Fn (.ref 108) 1 [.ref a] [cur a o i j] (λav as'=>av=.bool (decide (j<=i))/\as'=[cur a o i j]) nE:=by refine mG.enter OW id (λs us hl w X=>pF hl λa=>aC rfl) (λO O h=>h) ?_;intro x E ok he J ex nd;exact .ret (.ev (.cmp (.attr ok (.nm ok J .here) (.head _) m1 (pE _)) (.attr ok (.nm ok J .here) (.head _) m2 (zN _)) .ge) ⟨rfl,rfl⟩)
theorem qE{c:Cx}{σ:Sg}{d:Nat}{E:Ex}{i:mR}{XX:mZ->Sg->Prop}{x:Str}{e1 e2:cI}{y z:AV}{np qL pos:iA}{rest:List Stmt}{Q:Out->Sg->Prop}(ok:Ok c d)(he:c.env=i.env c.L)(ex:Exits c E XX)(hd:2<=d)(hg:∀P,cN (KK P) az x=some (some (.ref 58)))
  (h1:Ev c σ e1 y)(h2:Ev c σ e2 z)(hX:XX ⟨58,[(vy,y),(uG,z)]⟩ σ)(hx:autoParam ((i.env c.L).kindOf x=some .globalImplicit) aR)(Fh:autoParam ((x==("__debug__":Str))=false) aK)
  (hv:autoParam (∀env,aT (.Call (.Name x np) [e1,e2] [] qL) env=(do cA qL (<-aT (.Name x np) env) [] (cM qL (aU [e1,e2] env)) (dF qL (cF [] env)))) aI)
  (qz:autoParam (∀env,aU [e1,e2] env=(false,aT e1 env)::aU [e2] env) aI)(rh:autoParam (∀env,aU [e2] env=[(false,aT e2 env)]) aI):
  WS c E σ (aO (.Raise (some (.Call (.Name x np) [e1,e2] [] qL)) none pos::rest) c.env) Q:=by
 refine .raise ok ex (.fn ok he hg Vg (.one h1 (.one h2 (.nil (Op.Lh (as:=[]) (rest:=σ.as) ok ex zl (Vh _) ⟨_,FR.look _,rfl⟩ hd .refl (λa=>OX) ?_ (λO O O h=>h.elim) (by simp))) rh) qz) hx Fh hv (by rw[qz,rh];rfl));rintro a av as' ⟨rfl,rfl⟩;exact⟨rfl,a,58,_,_,rfl,zl,.head,hX⟩
theorem Rp{a:aA}{o:List UInt8}{i j:Int}(hz:o.length<=16000000)(h0:0<=i)(hj:j<=o.length):Fn (.ref 115) 3 [.ref a] [cur a o i j] (λav as'=>i<j/\av=.int (o.getD i.toNat 0).toNat/\as'=[cur a o i j]) (λx as'=>j<=i/\x.C=58/\as'=[cur a o i j]):=by
 refine mG.enter O5 id (λs us hl w X=>pF hl λa=>aC rfl) (λO O h=>h) ?_;intro x E ok he J ex nd;refine .n3 (.cmp (.attr ok (.nm ok J .here) (.head _) m1 (pE _)) (.attr ok (.nm ok J .here) (.head _) m2 (zN _)) .ge) (λh=>?_) (λh=>?_)
 ·exact qE ok he ex (by decide) qs .str (.attr ok (.nm ok J .here) (.head _) m1 (pE _)) ⟨of_decide_eq_true h,rfl,rfl⟩
 ·have h:=of_decide_eq_false h;exact .ret (.ev (.item (.attr ok (.nm ok J .here) (.head _) (.head _) (Cq _)) (.attr ok (.nm ok J .here) (.head _) m1 (pE _)) (.bytes h0 (o92 hj h) hz)) ⟨o91 h,rfl,rfl⟩)
noncomputable abbrev adp:=af "found"
theorem H6{a:aA}{o:List UInt8}{i j:Int}(hz:o.length<=16000000)(h0:0<=i)(hj:j<=o.length):Fn (.ref 122) 4 [.ref a] [cur a o i j] (λav as'=>i<j/\av=.int (o.getD i.toNat 0).toNat/\as'=[cur a o (i+1) j]) (λx as'=>j<=i/\x.C=58/\as'=[cur a o i j]):=by
 refine mG.enter OZ id (λs us hl w X=>pF hl λa=>aC rfl) (λO O h=>h) ?_;intro x E ok he J ex nd;refine .st ok he J (.me ok (.nm ok J .here) (.head _) Pu rfl (.nil (mG.op (rest:=[]) (Rp hz h0 hj) ok ex (by decide) .refl ?_ ?_)))
 ·refine p_ λhl=>?_;refine⟨_,.t1,?_⟩;refine .sA ok he (.binop (.attr ok (.nm ok J .here) (.head _) m1 (pE _)) .int .add) (.nm ok J .here) .head (.there (by decide +kernel) .here) tC xO ?_;exact .ret (.ev (.nm ok J .t1) ⟨hl,rfl,rfl⟩)
 ·refine t5 λy hl hC=>?_;exact⟨hl,hC,rfl⟩
noncomputable abbrev UD:=af "many"
theorem C7{n:Nat}{i:Int}(h0:0<=i)(h:i<=n):ib n i=i.toNat:=by unfold ib;rw[if_neg (eM.mpr h0),Int.min_eq_left h,Int.max_eq_right h0]
theorem Dw(o:List UInt8)(i k:Int)(h0:0<=i)(hk:0<=k)(hj:i+k<=o.length):cut o (some i) (some (i+k))=(o.drop i.toNat).take k.toNat:=by show(o.drop (ib _ i)).take (ib _ (i+k)-ib _ i)=_;rw[C7 h0 (x21 h0 hk hj),C7 (x22 h0 hk) hj,x20 h0 hk]
theorem IG{a:aA}{o:List UInt8}{i j k:Int}(hz:o.length<=16000000)(h0:0<=i)(hj:j<=o.length)(hk:0<=k):Fn (.ref 129) 3 [.ref a,.int k] [cur a o i j] (λav as'=>i+k<=j/\av=.bytes ((o.drop i.toNat).take k.toNat)/\as'=[cur a o (i+k) j]) (λx as'=>j<i+k/\x.C=58/\as'=[cur a o i j]):=by
 refine mG.enter O6 id (λs us hl w X=>pY hl λa b=>aC rfl) (λO O h=>h) ?_;intro x E ok he J ex nd;refine .rL (.Bv (.nm ok J .t1) (.me ok (.nm ok J .here) (.head _) zM rfl (.nil (mG.op (rest:=[]) zW ok ex (by decide) .refl ?_ (λO O h=>h.elim)))));refine nF ?_;refine⟨_,.gt,?_⟩;split
 ·rename_i h
  have h:=of_decide_eq_true h;exact qE ok he ex (by decide) qs .str (.attr ok (.nm ok J .here) (.head _) m2 (zN _)) ⟨EU h,rfl,rfl⟩
 ·rename_i h
  have h:=of_decide_eq_false (ey.mpr h);refine .nil (.lt ok J (.E7 ok he rx (.slice (.attr ok (.nm ok J .here) (.head _) (.head _) (Cq _)) (.some (.attr ok (.nm ok J .here) (.head _) m1 (pE _))) (.some (.binop (.attr ok (.nm ok J .here) (.head _) m1 (pE _)) (.nm ok J .t1) .add)) (.bytes hz)) .Uo) .t2 ?_);refine .sA ok he (.binop (.attr ok (.nm ok J .here) (.head _) m1 (pE _)) (.nm ok J .t1) .add) (.nm ok J .here) .head (.there (by decide +kernel) .here) tC xO ?_;exact .ret (.ev (.nm ok J .t2) ⟨NK h,by rw[Dw o i k h0 hk (o88 hj h)],rfl⟩)
section
theorem Rq{a:aA}{o:List UInt8}{i j k:Int}(hz:o.length<=16000000)(h0:0<=i)(hj:j<=o.length)(hk:0<=k):Fn (.ref 136) 3 [.ref a,.int k] [cur a o i j] (λav as'=>i+k<=j/\∃p,av=.ref p/\as'=[cur p o i (i+k),cur a o (i+k) j]) (λx as'=>j<i+k/\x.C=58/\as'=[cur a o i j]):=by
 refine mG.enter O7 id (λs us hl w X=>pY hl λa b=>aC rfl) (λO O h=>h) ?_;intro x E ok he J ex nd;refine Exits.gen ex λX qx ex=>WS.gen λQ q=>?_;refine .rL (.Bv (.nm ok J .t1) (.me ok (.nm ok J .here) (.head _) zM rfl (.nil (mG.op (rest:=[]) zW ok ex (by decide) .refl (nF ⟨_,.gt,EG (λh=>?_) λh=>?_⟩) (λO O h=>h.elim)))))
 ·exact qE ok he ex (by decide) qs .str (.attr ok (.nm ok J .here) (.head _) m1 (pE _)) (qx _ _ ⟨EU h,rfl,rfl⟩)
 refine .nil (.st ok he J (.fn ok he Je IF (.one (.attr ok (.nm ok J .here) (.head _) (.head _) (Cq _)) (.one (.attr ok (.nm ok J .here) (.head _) m1 (pE _)) (.one (.binop (.attr ok (.nm ok J .here) (.head _) m1 (pE _)) (.nm ok J .t1) .add) (.nil (Op.make (as:=[]) (rest:=[cur a o i j]) ok ex (ID _) (IE _) (uu zH _) (n:=1) (by decide) .refl (λa=>O3) (λp=>nF ⟨rfl,_,.t2,?_⟩) (λO O O h=>h.elim))))))));refine .sA ok he (.binop (.attr ok (.nm ok J .here) m1 m1 (pE _)) (.nm ok J .t1) .add) (.nm ok J .here) (.tail .head) (.there (by decide +kernel) .here) tC xO ?_;exact .ret (.ev (.nm ok J .t2) (q _ _ ⟨NK h,p,rfl,rfl⟩))
noncomputable def mU(o:List UInt8)(j:Int):Nat->Int->Nat->Int->Option (Int×Int)
 |0,_,_,_=>none
 |n+1,i,sh,f=>
  if j<=i then none
  else
   let b:Int:=(o.getD i.toNat 0).toNat
   if 25<sh/\(b%128).fdiv (2^(32-sh))≠0 then none
   else if 25<=sh/\128<=b then none
   else if b<128 then some (f+b%128*2^sh,i+1)
   else mU o j n (i+1) (sh+7) (f+b%128*2^sh)
section
variable {o:List UInt8}{j i f b v e:Int}{n sh:Nat}
theorem C8(h:j<=i):mU o j (n+1) i sh f=none:=if_pos h
theorem Ak(hb:((o.getD i.toNat 0).toNat:Int)=b)(h:¬j<=i):mU o j (n+1) i sh f=if 25<sh/\(b%128).fdiv (2^(32-sh))≠0 then none
   else if 25<=sh/\128<=b then none
   else if b<128 then some (f+b%128*2^sh,i+1)
   else mU o j n (i+1) (sh+7) (f+b%128*2^sh):=by rw[<-hb];exact if_neg h
noncomputable def L1(sh:Nat)(b:Int):Prop:=25<sh/\(b%128).fdiv (2^(32-sh))≠0
noncomputable def L2(sh:Nat)(b:Int):Prop:=25<=sh/\128<=b
theorem AG(hb:((o.getD i.toNat 0).toNat:Int)=b)(h:¬j<=i)(c:L1 sh b):mU o j (n+1) i sh f=none:=(Ak hb h).trans (if_pos c)
theorem Dx(hb:((o.getD i.toNat 0).toNat:Int)=b)(h:¬j<=i)(n1:¬L1 sh b)(c:L2 sh b):mU o j (n+1) i sh f=none:=(Ak hb h).trans ((if_neg n1).trans (if_pos c))
theorem Am(hb:((o.getD i.toNat 0).toNat:Int)=b)(h:¬j<=i)(n1:¬L1 sh b)(n2:¬L2 sh b)(c:b<128):mU o j (n+1) i sh f=some (f+b%128*2^sh,i+1):=(Ak hb h).trans ((if_neg n1).trans ((if_neg n2).trans (if_pos c)))
theorem AH(hb:((o.getD i.toNat 0).toNat:Int)=b)(h:¬j<=i)(n1:¬L1 sh b)(n2:¬L2 sh b)(c:¬b<128):mU o j (n+1) i sh f=mU o j n (i+1) (sh+7) (f+b%128*2^sh):=(Ak hb h).trans ((if_neg n1).trans ((if_neg n2).trans (if_neg c)))
theorem IH{P:Prop}(h:mU o j (n+1) i sh f=some (v,e))(k:∀b:Int,0<=b->¬j<=i->(b<128->v=f+b%128*2^sh->e=i+1->P)/\(mU o j n (i+1) (sh+7) (f+b%128*2^sh)=some (v,e)->P)):P:=by refine(aq (j<=i)).elim (λq=>absurd ((C8 q).symm.trans h) nofun) λq=>?_;have kb:=k _ (bM (o.getD i.toNat 0).toNat) q;generalize hb:((o.getD i.toNat 0).toNat:Int)=b at kb;refine(eO (L1 sh b)).elim (λc=>absurd ((AG hb q c).symm.trans h) nofun) λn1=>?_;refine(eO (L2 sh b)).elim (λc=>absurd ((Dx hb q n1 c).symm.trans h) nofun) λn2=>?_;refine(aq (b<128)).elim (λc=>?_) λc=>kb.2 ((AH hb q n1 n2 c).symm.trans h);have z:=aE.inj ((Am hb q n1 n2 c).symm.trans h);exact kb.1 c (congrArg (λz=>z.1) z).symm (congrArg (λz=>z.2) z).symm
end
end
theorem TN(o:List UInt8)(i:Nat):(o.getD i 0).toNat<256:=(o.getD i 0).toNat_lt
theorem Py{a:aA}{o:List UInt8}{i j:Int}(hz:o.length<=16000000)(h0:0<=i)(hj:j<=o.length):Fn (.ref 143) 5 [.ref a,.int 32] [cur a o i j]
  (λav as'=>∃v e,mU o j 5 i 0 0=some (v,e)/\av=.int v/\as'=[cur a o e j]) (λx as'=>mU o j 5 i 0 0=none/\x.C=58/\∃e,as'=[cur a o e j]):=by
 refine mG.enter OV id (λs us hl w X=>pY hl λa b=>aC rfl) (λO O h=>h) ?_;intro x E ok he J ex nd;refine Exits.gen ex λX qx ex=>WS.gen λQ q=>?_;refine .us ok he J (.tuple (.one .int (.one .int (.one (.attr ok (.nm ok J .here) (.head _) m1 (pE _)) (.nil ⟨l9 rfl,?_⟩)))));refine⟨_,_,rfl,rfl,.cons .t4 (.cons .t3 (.cons .t2 .nil)),?_⟩;refine .AE ex.own (λn σ=>zv λ(k:Int) (sh:Nat) (s f:Int) (y z:Option AV)=>uZ (0<=k) (s=(sh:Int)) (sh+7*n=35) (1<=n) (mU o j n k sh f=mU o j 5 i 0 0) (σ=⟨[some (.ref a),some (.int 32),some (.int f),some (.int s),some (.int i),y,z],[cur a o k j]⟩)) 5 ⟨i,0,0,0,_,_,h0,rfl,rfl,by decide,rfl,rfl⟩ (λσ Q' h=>by obtain⟨O,O,O,O,O,O,O,O,O,h,O,O⟩:=h;cases h) λn σ W w h=>?_;refine cps λV V'=>?_;obtain⟨k,sh,s,f,y,z,hk,hs,sD,rN,hL,es⟩:=h;refine V' ?_;rw[es];refine Tr.wt (.plain .bool) ?_;refine .st ok he J (.me ok (.nm ok J .here) (.head _) Gn rfl (.nil (mG.op (rest:=[]) (H6 hz hk hj) ok ex (by decide) .refl (p_ λhl=>⟨_,(.there .t4),?_⟩) (t5 λy hl hC=>qx _ _ ⟨hL.symm.trans (C8 hl),hC,k,rfl⟩))));have hb:=TN o k.toNat;have qe:(0:Int)<=((o.getD k.toNat 0).toNat:Nat):=LP hb;replace hb:(((o.getD k.toNat 0).toNat:Nat):Int)<256:=LO hb;generalize e1:((o.getD k.toNat 0).toNat:Int)=b at hb qe ⊢;have B0:¬j<=k:=LQ hl;have es:(32-s).toNat=32-sh:=VV hs sD;have em:aB.bitAnd b 127=b%128:=bitAnd_m7 b;refine .lt ok J (.binop (.nm ok J .t1) (.nm ok J .t3) .sub) (.there (.there .t4)) ?_;refine .n3 (.and (.cmp (.nm ok J (.there (.there .t4))) .int .lt) (λh1=>.and (.cmp (.binop (.binop (.nm ok J (.there .t4)) .int .and) (.nm ok J (.there (.there .t4))) (.shr (VT hs sD))) .int .ne) (λO=>.s7))) (λh=>?_) (λh=>?_)
 ·have h:=Nf h;rw[em,es]at h;exact qE ok he ex (by decide) qs .str (.nm ok J .t4) (qx _ _ ⟨hL.symm.trans (AG e1 B0 ⟨VS hs sD h,h.2⟩),rfl,k+1,rfl⟩)
 have n1:¬L1 sh b:=λq=>by have h:=Ng h;rw[em,es]at h;exact h.elim (λh=>h (VR hs sD q h)) λh=>h q.2
 refine .n3 (.and (.cmp (.nm ok J (.there (.there .t4))) .int .le) (λh1=>.and (.cmp (.nm ok J (.there .t4)) .int .ge) (λO=>.s7))) (λh=>?_) (λh=>?_)
 ·have h:=Nf h;exact qE ok he ex (by decide) qs .str (.nm ok J .t4) (qx _ _ ⟨hL.symm.trans (Dx e1 B0 n1 ⟨VQ hs sD h,h.2⟩),rfl,k+1,rfl⟩)
 have n2:¬L2 sh b:=λq=>(Ng h).elim (λh=>h (VP hs sD q h)) λh=>h q.2;refine .lt ok J (.binop (.nm ok J .t2) (.binop (.binop (.nm ok J (.there .t4)) .int .and) (.nm ok J .t3) (.shl (o99 hs sD) (o98 hs sD) (by rw[em];exact x25 em))) .add) .t2 ?_;rw[em,(VU hs sD:s.toNat=sh)];refine .qq (.cmp (.nm ok J (.there .t4)) .int .lt) (λh=>.ret (.ev (.nm ok J .t2) (w _ _ (q _ _ ⟨_,_,hL.symm.trans (Am e1 B0 n1 n2 h),rfl,rfl⟩)))) (λh=>?_);refine .lt ok J (.binop (.nm ok J .t3) .int .add) .t3 ?_;exact .nil (w _ _ ⟨n,pg,k+1,sh+7,s+7,_,_,_,yY hk,o95 hs,o94 sD,o93 sD hb qe em n2 h,(AH e1 B0 n1 n2 h).symm.trans hL,rfl⟩)
section
theorem wF{a:aA}{o:List UInt8}{i j:Int}(hz:o.length<=16000000)(h0:0<=i)(hj:j<=o.length):Fn (.ref 157) 6 [.ref a] [cur a o i j]
  (λav as'=>∃v e,mU o j 5 i 0 0=some (v,e)/\av=.int v/\as'=[cur a o e j]) (λx as'=>mU o j 5 i 0 0=none/\x.C=58/\∃e,as'=[cur a o e j]):=by
 refine mG.enter Pc id (λs us hl w X=>pF hl λa=>aC rfl) (λO O h=>h) ?_;intro x E ok he J ex nd;refine .ret (.me ok (.nm ok (J) .here) (.head _) O0 rfl (.one .int (.nil (mG.op (rest:=[]) (Py hz h0 hj) ok ex (by decide) .refl ?_ ?_))))
 ·refine rG λv e h=>?_;exact⟨v,e,h,rfl,rfl⟩
 ·refine si λy e h hC=>?_;exact⟨h,hC,e,rfl⟩
noncomputable def headOf(b:Int):Option (Int×Int×Int):=
 if b<128 then some (0,b,0)else if 192<=b/\b<224 then some (1,b%32,128)else if 224<=b/\b<240 then some (2,b%16,2048)else if 240<=b/\b<248 then some (3,b%8,65536)else none
section
variable {b:Int}
theorem B1(c:b<128):headOf b=some (0,b,0):=if_pos c
theorem wa(c:192<=b/\b<224):headOf b=some (1,b%32,128):=(if_neg (y9 c)).trans (if_pos c)
theorem hd2(c:224<=b/\b<240):headOf b=some (2,b%16,2048):=(if_neg (vX c)).trans ((if_neg (y11 c)).trans (if_pos c))
theorem B2(c:240<=b/\b<248):headOf b=some (3,b%8,65536):=(if_neg (y12 c)).trans ((if_neg (y13 c)).trans ((if_neg (y14 c)).trans (if_pos c)))
theorem Fj(c0:¬b<128)(c1:¬(192<=b/\b<224))(c2:¬(224<=b/\b<240))(c3:¬(240<=b/\b<248)):headOf b=none:=(if_neg c0).trans ((if_neg c1).trans ((if_neg c2).trans (if_neg c3)))
end
theorem B5{p q:Prop}[Decidable p][Decidable q](h:(decide p&&decide q)=true):p/\q:=⟨of_decide_eq_true (aV.mp h).1,of_decide_eq_true (aV.mp h).2⟩
theorem Fl{p q:Prop}[Decidable p][Decidable q](h:(decide p&&decide q)=false):¬(p/\q):=λk=>by rw[decide_eq_true k.1,decide_eq_true k.2]at h;cases h
theorem PQ{b p:Int}:Fn (.ref 283) 3 [.int b,.int p] [] (λav as'=>∃t,headOf b=some t/\av=.tup [.int t.1,.int t.2.1,.int t.2.2]/\as'=[]) (λx as'=>headOf b=none/\x.C=58/\as'=[]):=by refine mG.enter G2 id (λs us hl w X=>pY hl λa b=>aC rfl) (λO O h=>h) ?_;intro x E ok he J ex nd;refine Exits.gen ex λX qx ex=>WS.gen λQ q=>?_;have q0:∀t {lo},headOf b=some t->Q (.ret (.tup [.int t.1,.int t.2.1,.int t.2.2])) ⟨lo,[]⟩:=λt O h=>q _ _ ⟨t,h,rfl,rfl⟩;refine .qq (.cmp (.nm ok J .here) .int .lt) (λh=>.ret (.tuple (.one .int (.one (.nm ok J .here) (.one .int (.nil ⟨l9 rfl,q0 (0,b,0) (B1 h)⟩)))))) (λh1=>?_);refine .n3 (.chain .int (.nm ok J .here) .int .le .lt) (λh=>.ret (.tuple (.one .int (.one (.binop (.nm ok J .here) .int .and) (.one .int (.nil ⟨l9 rfl,by rw[(bitAnd_m5 b)];exact q0 (1,b%32,128) (wa (B5 h))⟩)))))) (λh2=>?_);refine .n3 (.chain .int (.nm ok J .here) .int .le .lt) (λh=>.ret (.tuple (.one .int (.one (.binop (.nm ok J .here) .int .and) (.one .int (.nil ⟨l9 rfl,by rw[(bitAnd_m4 b)];exact q0 (2,b%16,2048) (hd2 (B5 h))⟩)))))) (λh3=>?_);refine .n3 (.chain .int (.nm ok J .here) .int .le .lt) (λh=>.ret (.tuple (.one .int (.one (.binop (.nm ok J .here) .int .and) (.one .int (.nil ⟨l9 rfl,by rw[(bitAnd_m3 b)];exact q0 (3,b%8,65536) (B2 (B5 h))⟩)))))) (λh4=>?_);exact qE ok he ex (by decide) qs .str (.nm ok J .t1) (qx _ _ ⟨Fj h1 (Fl h2) (Fl h3) (Fl h4),rfl,rfl⟩)
theorem Pn{a:aA}{o:List UInt8}{i j:Int}:Fn (.ref 79) 3 [.ref a] [cur a o i j] (λav as'=>j<=i/\av=.none/\as'=[cur a o i j]) (λx as'=>i<j/\x.C=58/\as'=[cur a o i j]):=by
 refine mG.enter Gh id (λs us hl w X=>pF hl λa=>aC rfl) (λO O h=>h) ?_;intro x E ok he J ex nd;refine Exits.gen ex λX qx ex=>WS.gen λQ q=>?_;refine .rL (.not (.plain (.me ok (.nm ok J .here) (.head _) F4 rfl (.nil (mG.op (rest:=[]) Ha ok ex (by decide) .refl (nF ⟨_,rfl,?_⟩) (λO O h=>h.elim))))));refine(aq (j<=i)).elim (λh=>?_) λh=>?_
 ·rw[decide_eq_true h];exact .nil (.nil (q _ _ ⟨h,rfl,rfl⟩))
 ·rw[decide_eq_false h];exact qE ok he ex (by decide) qs .str (.attr ok (.nm ok J .here) (.head _) m1 (pE _)) (qx _ _ ⟨df.mp h,rfl,rfl⟩)
end
section
noncomputable def nU:List UInt8->Int->Option Int
 |[],p=>some p
 |b::r,p=>if aB.bitAnd ((b.toNat:Nat):Int) 192≠128 then none else nU r (p*64+((b.toNat:Nat):Int)%64)
noncomputable def texts(o:List UInt8):Nat->Int->Option (List Nat)
 |0,_=>none
 |n+1,i=>
  if(o.length:Int)<=i then some []
  else match headOf (o.getD i.toNat 0).toNat with
   |none=>none
   |some (f,p,least)=>
    if(o.length:Int)<=i+f then none
    else match nU ((o.drop (i+1).toNat).take f.toNat) p with
     |none=>none
     |some q=>if q<least\/1114111<q\/(55296<=q/\q<57344)then none else(texts o n (i+1+f)).map (λO=>q.toNat::O)
theorem CJ(o:List UInt8)(n:Nat)(i:Int):texts o (n+1) i =
  if(o.length:Int)<=i then some []
  else match headOf (o.getD i.toNat 0).toNat with
   |none=>none
   |some (f,p,least)=>
    if(o.length:Int)<=i+f then none
    else match nU ((o.drop (i+1).toNat).take f.toNat) p with
     |none=>none
     |some q=>if q<least\/1114111<q\/(55296<=q/\q<57344)then none else(texts o n (i+1+f)).map (λO=>q.toNat::O):=id rfl
theorem Rr{o:List UInt8}(h:(o.length:Int)<=i):texts o (n+1) i=some []:=by rw[CJ,if_pos h]
theorem H7{o:List UInt8}(h:¬(o.length:Int)<=i)(e:headOf ((o.getD i.toNat 0).toNat:Nat)=none):texts o (n+1) i=none:=by rw[CJ,if_neg h,e]
theorem H8{o:List UInt8}(h:¬(o.length:Int)<=i)(e:headOf ((o.getD i.toNat 0).toNat:Nat)=some (f,p,least)):texts o (n+1) i=(if(o.length:Int)<=i+f then none
    else match nU ((o.drop (i+1).toNat).take f.toNat) p with
     |none=>none
     |some q=>if q<least\/1114111<q\/(55296<=q/\q<57344)then none else(texts o n (i+1+f)).map (λO=>q.toNat::O)):=by rw[CJ,if_neg h,e]
theorem UE(P:aM):(KK P).lookup 284=some ⟨.type "tuple",none,.seq #[.int 0 527] 0,#[]⟩:=by kernel_rfl!
theorem head_range'{b:Int}(h0:0<=b)(h:headOf b=some t):0<=t.1/\t.1<=3/\0<=t.2.1/\t.2.1<128/\0<=t.2.2:=
 (aq (b<128)).elim (λc=>aE.inj ((B1 c).symm.trans h)▸Wb h0 c) λc0=>
 (aq (192<=b/\b<224)).elim (λc=>aE.inj ((wa c).symm.trans h)▸Wa) λc1=>
 (aq (224<=b/\b<240)).elim (λc=>aE.inj ((hd2 c).symm.trans h)▸V_) λc2=>
 (aq (240<=b/\b<248)).elim (λc=>aE.inj ((B2 c).symm.trans h)▸V9) λc3=>nomatch (Fj c0 c1 c2 c3).symm.trans h
theorem head_range{b:Int}(h0:0<=b)(h:headOf b=some (f,p,l)):0<=f/\f<=3/\0<=p/\p<128/\0<=l:=head_range' h0 h
theorem Ji{b:UInt8}(h:aB.bitAnd ((b.toNat:Nat):Int) 192≠128):nU (b::r) p=none:=if_pos h
theorem JW{b:UInt8}(h:¬aB.bitAnd ((b.toNat:Nat):Int) 192≠128):nU (b::r) p=nU r (p*64+((b.toNat:Nat):Int)%64):=if_neg h
theorem TO{t:Nat}(h:t<=3):(128:Int)*64^t<=128*64^3:=cR.mpr (j3 128 (cZ (by decide) h))
theorem acL{q least:Int}(h:(decide (q<least)||(decide (1114111<q)||((decide (55296<=q)&&decide (q<57344))||false)))=true):q<least\/1114111<q\/(55296<=q/\q<57344):=
 (d9.mp h).imp of_decide_eq_true λh=>(d9.mp h).imp of_decide_eq_true λh=>B5 ((cS _).symm.trans h)
theorem acM{q least:Int}(h:(decide (q<least)||(decide (1114111<q)||((decide (55296<=q)&&decide (q<57344))||false)))=false):¬(q<least\/1114111<q\/(55296<=q/\q<57344)):=λk=>by rw[(d9.mpr (k.imp decide_eq_true λk=>d9.mpr (k.imp decide_eq_true λk=>by rw[decide_eq_true k.1,decide_eq_true k.2];rfl)))]at h;cases h
section
variable {o:List UInt8}{n:Nat}{i f p least q:Int}
noncomputable def uH(q least:Int):Prop:=q<least\/1114111<q\/(55296<=q/\q<57344)
noncomputable abbrev qM(o:List UInt8)(i f:Int):List UInt8:=(o.drop (i+1).toNat).take f.toNat
theorem JX(h:¬(o.length:Int)<=i)(e:headOf ((o.getD i.toNat 0).toNat:Nat)=some (f,p,least))(c:(o.length:Int)<=i+f):texts o (n+1) i=none:=(H8 h e).trans (if_pos c)
theorem Dy(h:¬(o.length:Int)<=i)(e:headOf ((o.getD i.toNat 0).toNat:Nat)=some (f,p,least))(c:¬(o.length:Int)<=i+f):texts o (n+1) i=match nU (qM o i f) p with
     |none=>none
     |some q=>if q<least\/1114111<q\/(55296<=q/\q<57344)then none else(texts o n (i+1+f)).map (λO=>q.toNat::O):=(H8 h e).trans (if_neg c)
theorem JY(h:¬(o.length:Int)<=i)(e:headOf ((o.getD i.toNat 0).toNat:Nat)=some (f,p,least))(c:¬(o.length:Int)<=i+f)(k:nU (qM o i f) p=none):texts o (n+1) i=none:=by rw[Dy h e c,k]
theorem KD(h:¬(o.length:Int)<=i)(e:headOf ((o.getD i.toNat 0).toNat:Nat)=some (f,p,least))(c:¬(o.length:Int)<=i+f)(k:nU (qM o i f) p=some q)(l:uH q least):texts o (n+1) i=none:=by rw[Dy h e c,k];exact if_pos l
theorem LB(h:¬(o.length:Int)<=i)(e:headOf ((o.getD i.toNat 0).toNat:Nat)=some (f,p,least))(c:¬(o.length:Int)<=i+f)(k:nU (qM o i f) p=some q)(l:¬uH q least):texts o (n+1) i=(texts o n (i+1+f)).map (λO=>q.toNat::O):=by rw[Dy h e c,k];exact if_neg l
end
noncomputable abbrev adq:List Str:=[pV,af "begin",af "signs",uG,af "follow",af "point",af "least",af "octet"]
theorem PR{o:List UInt8}(hz:o.length<=16000):Fn (.ref 291) 4 [.bytes o,.int p0] []
  (λav as'=>∃l,texts o (o.length+1) 0=some l/\av=.str l/\as'=[]) (λx as'=>texts o (o.length+1) 0=none/\x.C=58/\as'=[]):=by
 refine mG.enter G3 id (λs us hl w X=>?_) (λO O h=>h) ?_
 ·refine cps λV V'=>?_;obtain⟨u,v⟩:=qn hl;exact V' (binds_K X rfl (UE _) rfl rfl rfl)
 intro x E ok he J ex nd;refine Exits.gen ex.drop λX qx ex=>WS.gen λQ q=>?_;have x0:∀y {lo l},texts o (o.length+1) 0=none->y.C=58->X y ⟨lo,l⟩:=λy O l h hC=>qx _ _ ⟨[],.nil,h,hC,rfl⟩;refine .us ok he J (.tuple (.cons (.list (.nil ⟨l9 rfl,λa=>.one .int (.nil ⟨l9 rfl,?_⟩)⟩))));refine⟨_,_,rfl,rfl,.cons .t3 (.cons .t2 .nil),?_⟩;refine .AE ex.own (λn σ=>zv λ(i:Int) (l:List Nat) (y4 y5 y6 y7:Option AV)=>uZ (0<=i) (i<=o.length) ((o.length:Int)+1<=n+i) ((l.length:Int)<=i) ((texts o n i).map (λO=>l++O)=texts o (o.length+1) 0) (σ=⟨[some (.bytes o),some (.int p0),some (.ref a),some (.int i),y4,y5,y6,y7],[.lst a (l.map λk=>.str [k])]⟩)) (o.length+1) ⟨0,[],_,_,_,_,bO 0,Ea hz,D_,bO 0,congrFun kQ _,rfl⟩ (λσ W h=>by
  obtain⟨i,O,O,O,O,O,h0,h1,h2,O,O,O⟩:=h;exact(y15 h1 h2).elim) λn σ W w h=>?_
 refine cps λV V'=>?_;obtain⟨i,l,y4,y5,y6,y7,h0,h1,rN,hl,hT,es⟩:=h;refine V' ?_;rw[es];have x1:∀y {lo as},texts o (n+1) i=none->y.C=58->X y ⟨lo,as⟩:=λy O O h hC=>x0 y (hT.symm.trans (by rw[h];rfl)) hC;refine Tr.br (.cmp (.nm ok J .t3) (.pC ok he qk (.nm ok J .here) (.tU (oO hz))) .lt) (λmY=>?_) λh=>?_
 rotate_left
 ·exact .ret (.forget (.nX ok .str .join .builtin (.one (.nm ok J .t2) (.nil (.join (.head _) (V8 hz h1 hl h) ⟨[],.nil,q _ _ ⟨l,hT.symm.trans (by rw[Rr (LU h1 h)];exact congrArg some (aW l)),rfl,rfl⟩⟩)))))
 have hi:¬(o.length:Int)<=i:=LS mY;refine .un ok he J (.fn ok he Rn G2.keep (.one (.item (.nm ok J .here) (.nm ok J .t3) (.bytes h0 mY (oO hz))) (.one (.binop (.nm ok J .t1) (.nm ok J .t3) .add) (.nil (mG.op (as:=[]) (rest:=[.lst a (l.map λk=>.str [k])]) PQ ok ex (by decide) .refl (λav as' hh=>?_) (t5 λy hH hC=>x1 y (H7 hi hH) hC))))));refine cps λV V'=>?_;obtain⟨⟨f,p,least⟩,hH,rfl,rfl⟩:=hh;refine V' ⟨_,_,rfl,.cons .t4 (.cons (.there .t4) (.cons (.there (.there .t4)) .nil)),?_⟩;have hr:=head_range (uz) hH;refine .qq (.cmp (.binop (.nm ok J .t3) (.nm ok J .t4) .add) (.pC ok he qk (.nm ok J .here) (.tU (oO hz))) .ge) (λh=>qE ok he ex (by decide) qs .str (.binop (.nm ok J .t1) (.nm ok J .t3) .add) (x1 _ (JX hi hH h) rfl)) (λh2=>?_);have Bz:cut o (some (i+1)) (some (i+1+f))=qM o i f:=Dw o (i+1) f (yY h0) hr.1 (LR h2);have tf:=JY (n:=n) hi hH h2;have hsz:(qM o i f).length=f.toNat:=by rw[qM,bS,cU];exact V7 h0 mY h2
 refine .w_ ex.own (λm it σ=>uY λ(mP:aA) (t:Nat) (q:Int) (y:Option AV)=>Ot (it=.ref mP) (m=(qM o i f).length-t) (t<=(qM o i f).length) (nU ((qM o i f).drop t) q=nU (qM o i f) p) (0<=q) (q<128*64^t) (σ=⟨[some (.bytes o),some (.int p0),some (.ref a),some (.int i),some (.int f),some (.int q),some (.int least),y],[.is mP (vg (qM o i f) t),.lst a (l.map λk=>.str [k])]⟩)) (qM o i f).length (λP w=>?_) ?_
 ·refine .ev (.slice (.nm ok J .here) (.some (.binop (.nm ok J .t3) .int .add)) (.some (.binop (.binop (.nm ok J .t3) .int .add) (.nm ok J .t4) .add)) (.bytes (oO hz))) ?_;rw[Bz];exact .bytes λit=>w _ _ ⟨it,0,p,_,rfl,rfl,bB _,rfl,hr.2.2.1,x28 hr.2.2.1 hr.2.2.2.1,rfl⟩
 intro m it σ W2 w2 h3;have step:=λq k=>LB (n:=n) (q:=q) hi hH h2 k;have bad:=λq=>KD (n:=n) (q:=q) hi hH h2;generalize qM o i f=sl at hsz Bz tf step bad h3 w2;obtain⟨mP,t,z,y,eq,em,ht,hF,q0,q1,wb⟩:=h3;rw[eq,wb];refine(g_ t sl.length).elim (λnu=>?_) λnu=>?_
 ·refine⟨some (.int (sl[t].toNat:Nat)),_,.bytes ok .head (aw nu),_,.name ok J (.there (.there (.there .t4))),?_⟩;rw[fE nu]at hF;generalize sl[t]=u at hF;have q2:z<128*64^3:=fw q1 (TO (V6 hr.1 hr.2.1 hsz nu));refine .qq (.cmp (.binop (.nm ok J (.there (.there (.there .t4)))) .int .and) .int .ne) (λh=>qE ok he ex (by decide) qs .str (.binop (.nm ok J .t1) (.nm ok J .t3) .add) (x1 _ (tf (hF.symm.trans (Ji h))) rfl)) (λh=>?_);refine .lt ok J (.binop (.binop (.nm ok J (.there .t4)) .int (.shl (by decide) (by decide) (x27 q0 nu q2))) (.binop (.nm ok J (.there (.there (.there .t4)))) .int .and) .or) (.there .t4) ?_;rw[bitAnd_m6 ((u.toNat:Nat):Int),show((6:Int).toNat)=6 from rfl,yi 6 z _ q0 (V5 nu) (x26 nu)];exact .nil (w2 _ _ ⟨sl.length-(t+1),by rw[em];exact V4 hsz nu,mP,t+1,_,_,eq,rfl,V3 hsz nu,(JW h).symm.trans hF,V2 q0 nu q2,by rw[Int.pow_succ];exact V1 q1 nu,rfl⟩)
 ·refine⟨none,_,.I6 ok .head (b7 nu),?_⟩;rw[List.drop_of_length_le nu]at hF;refine .n3 (.or (.cmp (.nm ok J (.there .t4)) (.nm ok J (.there (.there .t4))) .lt) (λO=>.or (.cmp (.nm ok J (.there .t4)) .int .gt) (λO=>.or (.chain .int (.nm ok J (.there .t4)) .int .le .lt) (λO=>.t6)))) (λh=>qE ok he ex (by decide) qs .str (.binop (.nm ok J .t1) (.nm ok J .t3) .add) (x1 _ (bad _ hF.symm (acL h)) rfl)) (λh=>?_);have hb:=acM h;refine .ex he (.nX ok (.nm ok J .t2) (.append (.head _)) .builtin (.one (.pC ok he D6 (.nm ok J (.there .t4)) (.chr q0 (y16 hb))) (.nil (.append .head (by rw[ah];exact VZ hz hl hr.1 hr.2.1 h2) ⟨rfl,?_⟩))));refine .lt ok J (.binop (.binop (.nm ok J .t3) .int .add) (.nm ok J .t4) .add) .t3 ?_;refine .nil (w _ _ ⟨n,pg,i+1+f,l++[z.toNat],some (.int f),some (.int z),some (.int least),y,VY hz h0 mY hr.1 hr.2.1,LR h2,VX rN hr.1 hr.2.1,by rw[aa];exact VW hl hr.1 hr.2.1,?_,by rw[au];rfl⟩);rw[<-hT,step z hF.symm hb,kA];exact congrArg (λf=>fO f _) (funext λr=>aj l [_] r)
end
theorem rV{o:List UInt8}{j:Int}{n:Nat}{i:Int}{sh:Nat}{f v e:Int}(h:mU o j n i sh f=some (v,e))(hf:0<=f):0<=v/\i<e/\e<=j:=by
 induction n generalizing i sh f with
 |zero=>cases h
 |succ n ih=>refine IH h λb hb q=>?_;have hp:0<=b%128*2^sh:=jc (Wi) (gw (by decide));exact⟨λO hv he=>by rw[hv,he];exact Wh hf q hp,λk=>Wf (ih k (Wg hf hp))⟩
noncomputable def nameAt(o:List UInt8)(j i:Int):Option (List Nat×Int):=
 match mU o j 5 i 0 0 with
 |none=>none
 |some (v,e)=>if j<e+v then none else(texts ((o.drop e.toNat).take v.toNat) (((o.drop e.toNat).take v.toNat).length+1) 0).map λl=>(l,e+v)
noncomputable abbrev TP:=af "begin"
theorem II{a:aA}{o:List UInt8}{i j:Int}(hz:o.length<=16000)(h0:0<=i)(hj:j<=o.length):Fn (.ref 192) 7 [.ref a] [cur a o i j]
  (λav as'=>∃l e,nameAt o j i=some (l,e)/\av=.str l/\as'=[cur a o e j]) (λx as'=>nameAt o j i=none/\x.C=58/\∃e,as'=[cur a o e j]):=by
 refine mG.enter O8 id (λs us hl w X=>pF hl λa=>aC rfl) (λO O h=>h) ?_;intro x E ok he J ex nd;refine Exits.gen ex λX qx ex=>WS.gen λQ q=>?_;refine .st ok he J (.me ok (.nm ok J .here) (.head _) wu rfl (.nil (mG.op (rest:=[]) (wF (oO hz) h0 hj) ok ex (by decide) .refl (rG λv e h=>⟨_,.t1,?_⟩) (si λy e h hC=>qx _ _ ⟨by rw[nameAt,h],hC,e,rfl⟩))));have hr:=rV h (by decide);have hN:nameAt o j i=if j<e+v then none else(texts ((o.drop e.toNat).take v.toNat) (((o.drop e.toNat).take v.toNat).length+1) 0).map λl=>(l,e+v):=by rw[nameAt,h]
 refine .rL (.Bv (.nm ok J .t1) (.me ok (.nm ok J .here) (.head _) zM rfl (.nil (mG.op (rest:=[]) zW ok ex (by decide) .refl (nF ⟨_,.gt,EG (λh=>?_) λh=>?_⟩) (λO O h=>h.elim)))))
 ·exact qE ok he ex (by decide) qs .str (.attr ok (.nm ok J .here) (.head _) m1 (pE _)) (qx _ _ ⟨hN.trans (if_pos (EU h)),rfl,e,rfl⟩)
 replace hN:=hN.trans (if_neg (We h));refine .nil (.lt ok J (.attr ok (.nm ok J .here) (.head _) m1 (pE _)) .t2 ?_);refine .ret (.fn ok he Ro G3.keep (.cons (.me ok (.nm ok J .here) (.head _) GJ rfl (.one (.nm ok J .t1) (.nil (mG.op (rest:=[]) (IG (oO hz) (r_ h0 hr.2.1) hj hr.1) ok ex (by decide) .refl (p_ λO=>?_) (λy as' hq=>(Wd h hq.1).elim)))))));exact .one (.nm ok J .t2) (.nil (mG.op (as:=[]) (rest:=[cur a o (e+v) j]) (PR (by rw[bS,cU];exact Wc hz h0 hj hr.2.1 hr.2.2 h)) ok ex (by decide) .refl (EI λl hT=>q _ _ ⟨l,e+v,hN.trans (by rw[hT];rfl),rfl,rfl⟩) (t5 λy hT hC=>qx _ _ ⟨hN.trans (by rw[hT];rfl),hC,e+v,rfl⟩)))
section
noncomputable def oW(o:List UInt8)(j:Int):Nat->Int->Int->List (Int×List Nat)×Option Int
 |0,i,_=>([],some i)
 |n+1,i,last=>
  match mU o j 5 i 0 0 with
  |none=>([],none)
  |some (v,e)=>
   if v<=last then([],none)
   else match nameAt o j e with
    |none=>([],none)
    |some (l,e')=>((v,l)::(oW o j n e' v).1,(oW o j n e' v).2)
noncomputable def nY(o:List UInt8)(j i:Int):List (Int×List Nat)×Option Int:=
 match mU o j 5 i 0 0 with
 |none=>([],none)
 |some (v,e)=>oW o j v.toNat e (-1)
theorem zT(o:List UInt8)(j:Int)(n:Nat)(i last:Int):oW o j (n+1) i last =
  match mU o j 5 i 0 0 with
  |none=>([],none)
  |some (v,e)=>
   if v<=last then([],none)
   else match nameAt o j e with
    |none=>([],none)
    |some (l,e')=>((v,l)::(oW o j n e' v).1,(oW o j n e' v).2):=id rfl
theorem xQ(h:mU o j 5 i 0 0=some (v,e)):nY o j i=oW o j v.toNat e (-1):=by unfold nY;rw[h]
theorem zU(h:mU o j 5 i 0 0=none):nY o j i=([],none):=by unfold nY;rw[h]
section
variable {o:List UInt8}{j v e i last:Int}{n:Nat}
theorem Dz:oW o j 0 i last=([],some i):=id rfl
theorem An(h:mU o j 5 i 0 0=none):oW o j (n+1) i last=([],none):=by rw[zT,h]
theorem AI(h:mU o j 5 i 0 0=some (v,e))(h1:v<=last):oW o j (n+1) i last=([],none):=by rw[zT,h];exact if_pos h1
theorem AJ(h:mU o j 5 i 0 0=some (v,e))(h1:¬v<=last)(k:nameAt o j e=none):oW o j (n+1) i last=([],none):=by rw[zT,h];refine(if_neg h1).trans ?_;rw[k]
theorem yt{l e'}(h:mU o j 5 i 0 0=some (v,e))(h1:¬v<=last)(k:nameAt o j e=some (l,e')):oW o j (n+1) i last=((v,l)::(oW o j n e' v).1,(oW o j n e' v).2):=by rw[zT,h];refine(if_neg h1).trans ?_;rw[k]
end
theorem xM(h:nameAt o j i=some (l,e)):i<e/\e<=j:=by
 cases k:mU o j 5 i 0 0 with
 |none=>rw[nameAt,k]at h;cases h
 |some q=>
  have hr:=rV (v:=q.1) (e:=q.2) k (by decide);have J:nameAt o j i=if j<q.2+q.1 then none else(texts ((o.drop q.2.toNat).take q.1.toNat) (((o.drop q.2.toNat).take q.1.toNat).length+1) 0).map λl=>(l,q.2+q.1):=by rw[nameAt,k]
  refine(aq (j<q.2+q.1)).elim (λc=>absurd ((J.trans (if_pos c)).symm.trans h) nofun) λc=>?_;have z:=(J.trans (if_neg c)).symm.trans h;refine(ek.mp z).elim λO z=>?_;rw[<-(congrArg (λz=>z.2) z.2:q.2+q.1=e)];exact Wn hr.1 hr.2.1 c
theorem KG(h:mU o j n i sh f=some (v,e))(hf:f<2^sh):v<2^(sh+7*n):=by
 induction n generalizing i sh f with
 |zero=>cases h
 |succ n ih=>
  refine IH h λb hb q=>?_;have hq:f+b%128*2^sh<2^(sh+7):=Wm hf (by rw[Int.pow_add,Int.mul_comm];rfl) (ix (Ec (gW b (by decide))) (dJ (Int.pow_pos (by decide):(0:Int)<2^sh)));refine⟨λO hv O=>?_,λk=>?_⟩
  ·rw[hv];exact fw hq (cR.mpr (cZ (n:=2) (by decide) Wl))
  ·rw[<-Wk];exact ih k hq
noncomputable abbrev ents(l:List (Int×List Nat)):List (Int×AV):=l.map λp=>(p.1,.str p.2)
theorem Jj(h:∀p∈f,p.1<i):qv f i v=f++[(i,v)]:=by unfold qv;rw[if_neg];simp only[dZ,decide_eq_true_eq,not_exists,not_and];intro p hp e;have:=h p hp;exact Wj e this
noncomputable abbrev KH:=af "part"
noncomputable abbrev qI:=af "last"
noncomputable abbrev tF:=af "index"
theorem GN(hz:o.length<=16000)(h0:0<=i)(hj:j<=o.length):Fn (.ref 319) 8 [.ref a,.ref g] [cur a o i j,.mO g []]
  (λav as'=>∃l e,nY o j i=(l,some e)/\av=.none/\as'=[cur a o e j,.mO g (ents l)]) (λx as'=>∃l e,nY o j i=(l,none)/\x.C=58/\as'=[cur a o e j,.mO g (ents l)]):=by
 refine mG.enter CB id (λs us hl w X=>pY hl λa b=>aC rfl) (λO O h=>h) ?_;intro x E ok he J ex nd;refine Exits.gen ex.drop λX qx ex=>WS.gen λQ q=>?_;refine .lt ok J .neg .t2 ?_;have pb:∀v e,mU o j 5 i 0 0=some (v,e)->v.toNat=((mU o j 5 i 0 0).map λz=>z.1.toNat).getD 0:=λv e h=>by rw[h];rfl
 generalize((mU o j 5 i 0 0).map λz=>z.1.toNat).getD 0=n0 at pb;refine .vN ex.own (λn it σ=>Oo λ(mP r:aA) (k last x:Int) (l:List (Int×List Nat)) (y3 y4 y5:Option AV)=>Ou (it=.ref mP) (0<=k) (k<=j) ((l.length:Int)<=k) (∀p∈l,p.1<=last) (-1<=last) ((l++(oW o j n k last).1,(oW o j n k last).2)=nY o j i) (σ=⟨[some (.ref a),some (.ref g),some (.int last),y3,y4,y5],[.is mP (nQ x n 1),.is r (nP 0 n0 1),cur a o k j,.mO g (ents l)]⟩)) n0 (λP w=>?_) (λit σ Q h=>?_) λn it σ Q w h=>?_
 ·refine .bt ok he sM (.cons (.me ok (.nm ok J .here) (.head _) wu rfl (.nil (mG.op (rest:=[.mO g []]) (wF (oO hz) h0 hj) ok ex (by decide) .refl (rG λv e h=>?_) (si λy e h hC=>qx _ _ ⟨_,.refl,[],e,zU h,hC,rfl⟩)))));have hr:=rV h (by decide);have hv:v=(n0:Int):=L8 hr.1 (pb v e h);have yO:=KG h (by decide);rw[hv]at yO ⊢;refine .nil (.uw λr=>?_);refine .range (.head _) (small_one (by decide) (by decide) (y2 (a:=n0)) (y3 yO)) λit=>?_;rw[rangeSize_nat];refine w _ _ ⟨it,r,e,-1,0,[],none,none,none,rfl,r_ h0 hr.2.1,hr.2.2,r_ h0 hr.2.1,(λp h=>nomatch h),bO _,?_,rfl⟩;rw[xQ h,pb v e h];rfl
 ·obtain⟨mP,r,k,last,x,l,y3,y4,y5,e,k0,k1,kl,hl,ub,hM,es⟩:=h;rw[e,es];exact⟨none,_,.sL ok .head (tT),.forget (.pick .t1 (.pick .t1 .nil)) (.nil (q _ _ ⟨l,k,rX hM Dz,rfl,rfl⟩))⟩
 refine cps λV V'=>?_;obtain⟨mP,r,k,last,x,l,y3,y4,y5,eq,k0,k1,kl,hl,ub,hM,es⟩:=h;refine V' ?_;rw[eq,es];refine⟨some (.int x),_,.range ok .head (tS),_,.name ok J .t3,?_⟩;refine .lt ok J (.attr ok (.nm ok J .here) m2 m1 (pE _)) .t4 ?_;refine .st ok he J (.me ok (.nm ok J .here) m2 wu rfl (.nil (mG.op (as:=[cur a o k j]) (rest:=[.is mP (nQ (x+1) (((n+1:Nat):Int)-1) 1),.is r (nP 0 n0 1),.mO g (ents l)]) (wF (oO hz) k0 hj) ok ex (by decide) (.pick .t2 .refl) (rG λv e hv=>⟨_,(.there .t4),?_⟩) (si λy e h hC=>qx _ _ ⟨_,.pick .head (.pick .t2 .nil),l,e,rX hM (An h),hC,rfl⟩))));refine .qq (.cmp (.nm ok J (.there .t4)) (.nm ok J .t2) .le) (λh=>qE ok he ex (by decide) qs .str (.nm ok J .t4) (qx _ _ ⟨_,.pick .head (.pick .t2 .nil),l,e,rX hM (AI hv h),rfl,rfl⟩)) (λh=>?_);have hr:=rV hv (by decide);refine .sI he (.me ok (.nm ok J .here) (.head _) GK rfl (.nil (mG.op (as:=[cur a o e j]) (rest:=[.is mP (nQ (x+1) (((n+1:Nat):Int)-1) 1),.is r (nP 0 n0 1),.mO g (ents l)]) (II hz (L7 kl hr.2.1) hj) ok ex (by decide) .refl (rG λnm e2 hN=>?_) (si λy e2 k hC=>qx _ _ ⟨_,.pick .head (.pick .t2 .nil),l,e2,rX hM (AJ hv h k),hC,rfl⟩))));have uc:=xM hN;refine⟨g,ents l,v,_,(.nm ok J .t1),(.nm ok J (.there .t4)),.tail (.tail (.tail .head)),by rw[ah];exact LZ hz hj kl hr.2.1 uc.1 uc.2,?_⟩;refine .lt ok J (.nm ok J (.there .t4)) .t2 (.forget (.pick .t1 (.pick .t1 .refl)) (.nil (w _ _ ⟨n,pg,mP,r,e2,v,x+1,l++[(v,nm)],some (.int x),some (.int k),some (.int v),eq,LY kl hr.2.1 uc.1,Bk uc.2,by rw[aa];exact Bj kl hr.2.1 uc.1,λp hp=>?_,Eb hr.1,Ag hM (yt hv h hN),?_⟩)))
 ·exact(aH.mp hp).elim (λhp=>LX h (hl p hp)) λe=>ao.mp e▸bO _
 ·rw[Jj (λp hp=>by obtain⟨q,hq,e⟩:=aG.mp hp;rw[<-e];exact LW h (hl q hq)),show((n+1:Nat):Int)-1=n by exact uA];rw[ents,ents,au];rfl
end
section
theorem IJ(P:aM):∃t,cN (KK P) az (af "MODULE_PART")=some (some (.int 0 t)):=⟨_,rfl⟩
theorem Jk(P:aM):∃t,cN (KK P) az (af "FUNCS_PART")=some (some (.int 1 t)):=⟨_,rfl⟩
theorem IK(P:aM):∃t,cN (KK P) az (af "LOCALS_PART")=some (some (.int 2 t)):=⟨_,rfl⟩
noncomputable abbrev Su:=af "module"
noncomputable abbrev sN:=af "funcs"
noncomputable abbrev Sv:=af "locals"
noncomputable abbrev H9:=af "is_whole"
noncomputable abbrev oS(a:aA)(m:AV)(d1 d2:aA)(w:Bool):mH:=.ins a 308 [(Su,m),(sN,.ref d1),(Sv,.ref d2),(H9,.bool w)]
theorem F_:Fn (.ref 305) 1 [.ref a] [.ins a 308 []] (λav as'=>av=.none/\∃d1 d2,as'=[.mO d2 [],.mO d1 [],oS a .none d1 d2 true]) (λO O=>False):=by refine mG.enter Cm id (λs us hl w X=>pF hl λa=>aC rfl) (λO O h=>h) ?_;intro x E ok he J ex nd;refine .sA ok he .none (.nm ok J .here) .head .nil tE CA ?_;refine .sW ok he (.AW ok λd1=>⟨a,308,_,_,_,(.nm ok J .here),(.tail .head),.there (by decide +kernel) .nil,tE,GL,by simp,?_⟩);refine .sW ok he (.AW ok λd2=>⟨a,308,_,_,_,(.nm ok J .here),(.tail (.tail .head)),.there (by decide +kernel) (.there (by decide +kernel) .nil),tE,Gp,by simp,?_⟩);refine .sA ok he .bool (.nm ok J .here) (.tail (.tail .head)) (.there (by decide +kernel) (.there (by decide +kernel) (.there (by decide +kernel) .nil))) tE F5 ?_;exact .nil ⟨rfl,d1,d2,rfl⟩
noncomputable def oU(o:List UInt8)(j:Int):Nat->Int->Int->List (Int×List (Int×List Nat))×Option Int
 |0,i,_=>([],some i)
 |n+1,i,last=>
  match mU o j 5 i 0 0 with
  |none=>([],none)
  |some (v,e)=>
   if v<=last then([],none)
   else match nY o j e with
    |(l,none)=>([(v,l)],none)
    |(l,some e')=>((v,l)::(oU o j n e' v).1,(oU o j n e' v).2)
noncomputable def pq(o:List UInt8)(j i:Int):List (Int×List (Int×List Nat))×Option Int:=
 match mU o j 5 i 0 0 with
 |none=>([],none)
 |some (v,e)=>oU o j v.toNat e (-1)
theorem zQ(o:List UInt8)(j:Int)(n:Nat)(i last:Int):oU o j (n+1) i last =
  match mU o j 5 i 0 0 with
  |none=>([],none)
  |some (v,e)=>
   if v<=last then([],none)
   else match nY o j e with
    |(l,none)=>([(v,l)],none)
    |(l,some e')=>((v,l)::(oU o j n e' v).1,(oU o j n e' v).2):=id rfl
theorem xP(h:mU o j 5 i 0 0=some (v,e)):pq o j i=oU o j v.toNat e (-1):=by unfold pq;rw[h]
theorem zR(h:mU o j 5 i 0 0=none):pq o j i=([],none):=by unfold pq;rw[h]
section
variable {o:List UInt8}{j v e i last:Int}{n:Nat}
theorem DA:oU o j 0 i last=([],some i):=id rfl
theorem Ao(h:mU o j 5 i 0 0=none):oU o j (n+1) i last=([],none):=by rw[zQ,h]
theorem AK(h:mU o j 5 i 0 0=some (v,e))(h1:v<=last):oU o j (n+1) i last=([],none):=by rw[zQ,h];exact if_pos h1
theorem AL{l}(h:mU o j 5 i 0 0=some (v,e))(h1:¬v<=last)(k:nY o j e=(l,none)):oU o j (n+1) i last=([(v,l)],none):=by rw[zQ,h];refine(if_neg h1).trans ?_;rw[k]
theorem yu{l e'}(h:mU o j 5 i 0 0=some (v,e))(h1:¬v<=last)(k:nY o j e=(l,some e')):oU o j (n+1) i last=((v,l)::(oU o j n e' v).1,(oU o j n e' v).2):=by rw[zQ,h];refine(if_neg h1).trans ?_;rw[k]
theorem Qm(h:(oW o j n i last).2=some e):i<=e/\(i<=j->e<=j):=by
 induction n generalizing i last with
 |zero=>cases h;exact⟨bO _,id⟩
 |succ n ih=>
  cases h1:mU o j 5 i 0 0 with
  |none=>rw[An h1]at h;cases h
  |some q=>
   refine(aq (q.1<=last)).elim (λc=>by rw[AI (v:=q.1) (e:=q.2) h1 c]at h;cases h) λc=>?_;cases h2:nameAt o j q.2 with
   |none=>rw[AJ (v:=q.1) (e:=q.2) h1 c h2]at h;cases h
   |some z=>have r:=xM (l:=z.1) (e:=z.2) h2;rw[yt (v:=q.1) (e:=q.2) (l:=z.1) (e':=z.2) h1 c h2]at h;have y:=ih h;exact L_ (rV (v:=q.1) (e:=q.2) h1 (by decide)).2.1 r.1 r.2 y.1 y.2
theorem zS(h:nY o j i=(l,some e)):i<e/\e<=j:=by
 cases h1:mU o j 5 i 0 0 with
 |none=>rw[zU h1]at h;cases h
 |some q=>have r:=rV (v:=q.1) (e:=q.2) h1 (by decide);rw[xQ (v:=q.1) (e:=q.2) h1]at h;exact L9 r.2.1 r.2.2 (Qm (congrArg (λz=>z.2) h))
end
noncomputable abbrev Row:=Int×aA×List (Int×List Nat)
noncomputable abbrev m9(R:List Row):List (Int×AV):=R.map λr=>(r.1,.ref r.2.1)
noncomputable abbrev nz(R:List Row):List mH:=(R.map λr=>.mO r.2.1 (ents r.2.2)).reverse
noncomputable abbrev mJ(R:List Row):List (Int×List (Int×List Nat)):=R.map λr=>(r.1,r.2.2)
theorem CO(R:List Row)(v:Int)(d:aA)(l:List (Int×List Nat)):nz (R++[(v,d,l)])=.mO d (ents l)::nz R:=by simp[nz]
noncomputable abbrev qt:=af "func"
theorem Pa(hz:o.length<=16000)(h0:0<=i)(hj:j<=o.length):Fn (.ref 326) 9 [.ref a,.ref g] [cur a o i j,.mO g []]
  (λav as'=>∃R e,pq o j i=(mJ R,some e)/\av=.none/\as'=cur a o e j::.mO g (m9 R)::nz R) (λx as'=>∃R e,pq o j i=(mJ R,none)/\x.C=58/\as'=cur a o e j::.mO g (m9 R)::nz R):=by
 refine mG.enter F3 id (λs us hl w X=>pY hl λa b=>aC rfl) (λO O h=>h) ?_;intro x E ok he J ex nd;refine Exits.gen ex.drop λX qx ex=>WS.gen λQ q=>?_;refine .lt ok J .neg .t2 ?_;have pb:∀v e,mU o j 5 i 0 0=some (v,e)->v.toNat=((mU o j 5 i 0 0).map λz=>z.1.toNat).getD 0:=λv e h=>by rw[h];rfl
 generalize((mU o j 5 i 0 0).map λz=>z.1.toNat).getD 0=n0 at pb;refine .vN ex.own (λn it σ=>Oo λ(mP r:aA) (k last x:Int) (R:List Row) (y3 y4 y5:Option AV)=>Ou (it=.ref mP) (0<=k) (k<=j) ((R.length:Int)<=k) (∀p∈R,p.1<=last) (-1<=last) ((mJ R++(oU o j n k last).1,(oU o j n k last).2)=pq o j i) (σ=⟨[some (.ref a),some (.ref g),some (.int last),y3,y4,y5],.is mP (nQ x n 1)::.is r (nP 0 n0 1)::cur a o k j::.mO g (m9 R)::nz R⟩)) n0 (λP w=>?_) (λit σ Q h=>?_) λn it σ Q w h=>?_
 ·refine .bt ok he sM (.cons (.me ok (.nm ok J .here) (.head _) wu rfl (.nil (mG.op (rest:=[.mO g []]) (wF (oO hz) h0 hj) ok ex (by decide) .refl (rG λv e h=>?_) (si λy e h hC=>qx _ _ ⟨_,.refl,[],e,zR h,hC,rfl⟩)))));have hr:=rV h (by decide);have hv:v=(n0:Int):=L8 hr.1 (pb v e h);have yO:=KG h (by decide);rw[hv]at yO ⊢;refine .nil (.uw λr=>?_);refine .range (.head _) (small_one (by decide) (by decide) (y2 (a:=n0)) (y3 yO)) λit=>?_;rw[rangeSize_nat];refine w _ _ ⟨it,r,e,-1,0,[],none,none,none,rfl,r_ h0 hr.2.1,hr.2.2,r_ h0 hr.2.1,(λp h=>nomatch h),bO _,?_,rfl⟩;rw[xP h,pb v e h];rfl
 ·obtain⟨mP,r,k,last,x,R,y3,y4,y5,e,k0,k1,kl,hl,ub,hM,es⟩:=h;rw[e,es];exact⟨none,_,.sL ok .head (tT),.forget (.pick .t1 (.pick .t1 (.skip .refl))) (.nil (q _ _ ⟨R,k,rX hM DA,rfl,rfl⟩))⟩
 refine cps λV V'=>?_;obtain⟨mP,r,k,last,x,R,y3,y4,y5,eq,k0,k1,kl,hl,ub,hM,es⟩:=h;refine V' ?_;rw[eq,es];refine⟨some (.int x),_,.range ok .head (tS),_,.name ok J .t3,?_⟩;refine .lt ok J (.attr ok (.nm ok J .here) m2 m1 (pE _)) .t4 ?_;refine .st ok he J (.me ok (.nm ok J .here) m2 wu rfl (.nil (mG.op (as:=[cur a o k j]) (rest:=.is mP (nQ (x+1) (((n+1:Nat):Int)-1) 1)::.is r (nP 0 n0 1)::.mO g (m9 R)::nz R) (wF (oO hz) k0 hj) ok ex (by decide) (.pick .t2 .refl) (rG λv e hv=>⟨_,(.there .t4),?_⟩) (si λy e h hC=>qx _ _ ⟨_,.pick .head (.pick .t2 (.skip (.skip .refl))),R,e,rX hM (Ao h),hC,rfl⟩))));refine .qq (.cmp (.nm ok J (.there .t4)) (.nm ok J .t2) .le) (λh=>qE ok he ex (by decide) qs .str (.nm ok J .t4) (qx _ _ ⟨_,.pick .head (.pick .t2 (.skip (.skip .refl))),R,e,rX hM (AK hv h),rfl,rfl⟩)) (λh=>?_);have hr:=rV hv (by decide);have mY:∀p∈m9 R,p.1<v:=λp hp=>(aG.mp hp).elim λq h2=>h2.2▸LW h (hl q h2.1);refine .sI he (.AW ok λd=>⟨g,m9 R,v,_,(.nm ok J .t1),(.nm ok J (.there .t4)),.tail (.tail (.tail (.tail .head))),by rw[ah];exact Wo hz hj kl hr.2.1 hr.2.2,?_⟩);rw[Jj mY];refine .ex he (.fn ok he HZ CB.keep (.one (.nm ok J .here) (.one (.item (.nm ok J .t1) (.nm ok J (.there .t4)) (.mO (.tail _ m3) (QX mY))) (.nil (mG.op (as:=[cur a o e j,.mO d []]) (rest:=.is mP (nQ (x+1) (((n+1:Nat):Int)-1) 1)::.is r (nP 0 n0 1)::.mO g (m9 R++[(v,.ref d)])::nz R) (GN hz (L7 kl hr.2.1) hj) ok ex (by decide) (.pick .t1 (.pick .head .refl)) (rG λl e2 hN=>⟨rfl,?_⟩) (EJ λy l e2 hN hC=>qx _ _ ⟨_,.pick .head (.pick (.tail .t2) (.pick .head (.skip (.skip .refl)))),R++[(v,d,l)],e2,(KC hM (AL hv h hN)).trans (by rw[mJ,mJ,au];rfl),hC,by rw[CO,m9,m9,au];rfl⟩))))));have uc:=zS hN;refine .lt ok J (.nm ok J (.there .t4)) .t2 (.forget (.pick .t2 (.pick .t2 (.pick .head (.pick .t1 .refl)))) (.nil (w _ _ ⟨n,pg,mP,r,e2,v,x+1,R++[(v,d,l)],some (.int x),some (.int k),some (.int v),eq,LY kl hr.2.1 uc.1,Bk uc.2,by rw[aa];exact Bj kl hr.2.1 uc.1,λp hp=>?_,Eb hr.1,?_,?_⟩)))
 ·exact(aH.mp hp).elim (λhp=>LX h (hl p hp)) λe=>ao.mp e▸bO _
 ·rw[mJ,au];exact Ag hM (yu hv h hN)
 ·rw[show((n+1:Nat):Int)-1=n by exact uA,CO,m9,m9,au];rfl
end
section
structure nh where
 m:Option (List Nat)
 fs:List (Int×List Nat)
 rs:List (Int×List (Int×List Nat))
noncomputable def nW(o:List UInt8)(j i sort:Int)(S:nh):nh×Bool:=
 if sort=0 then match nameAt o j i with
  |none=>(S,false)
  |some (l,e)=>(⟨some l,S.fs,S.rs⟩,decide (j<=e))
 else if sort=1 then match nY o j i with
  |(l,none)=>(⟨S.m,l,S.rs⟩,false)
  |(l,some e)=>(⟨S.m,l,S.rs⟩,decide (j<=e))
 else if sort=2 then match pq o j i with
  |(l,none)=>(⟨S.m,S.fs,l⟩,false)
  |(l,some e)=>(⟨S.m,S.fs,l⟩,decide (j<=e))
 else(S,true)
noncomputable def oq:Option (List Nat)->AV
 |none=>.none
 |some l=>.str l
noncomputable abbrev ads:List Str:=[af "names",af "sort",KH]
noncomputable abbrev s9(p a:aA)(o:List UInt8)(i j:Int)(m:Option (List Nat))(fs:List (Int×List Nat))(R:List Row)(d1 d2:aA):List mH:=cur p o i j::oS a (oq m) d1 d2 true::.mO d1 (ents fs)::.mO d2 (m9 R)::nz R
theorem nt.at:nt x (l1++x::l2) (l1++l2):=by
 induction l1 with
 |nil=>exact .head
 |cons y r ih=>exact .tail ih
theorem Arr.CY:∀{l r:List mH},l.Perm (l'++r)->Arr l l':=by
 induction l' with
 |nil=>exactλ{l r} h=>.nil
 |cons x t ih=>intro l r h;refine(ef (h.mem_iff.mpr (.head _))).elim λl1 h1=>h1.elim λl2 e=>?_;rw[e]at h ⊢;exact .pick nt.at (ih (r:=r) ((eH.symm.trans h).cons_inv))
theorem Arr.sO(h:l.Perm l'):Arr l l':=.CY (r:=[]) ((aW l').symm▸h)
theorem Arr.D7:Arr ((A++B)++C) (A++(C++B)):=.sO (by rw[aj];exact bX.append_left _ bw)
noncomputable def yP(j:Int)(k:Option Int):Bool:=k.elim false λe=>decide (j<=e)
section
variable {o:List UInt8}{j i sort:Int}{S:nh}
theorem uI(s0:sort=0){z}(h:nameAt o j i=z):nW o j i sort S=(z.elim S λz=>⟨some z.1,S.fs,S.rs⟩,yP j (z.map λz=>z.2)):=by rw[nW,if_pos s0,h];cases z<;>rfl
theorem xb(n0:¬sort=0)(s1:sort=1){z}(h:nY o j i=z):nW o j i sort S=(⟨S.m,z.1,S.rs⟩,yP j z.2):=by rw[nW,if_neg n0,if_pos s1,h];exact z.casesOn λl k=>k.casesOn rfl λO=>rfl
theorem xc(n0:¬sort=0)(n1:¬sort=1)(s2:sort=2){z}(h:pq o j i=z):nW o j i sort S=(⟨S.m,S.fs,z.1⟩,yP j z.2):=by rw[nW,if_neg n0,if_neg n1,if_pos s2,h];exact z.casesOn λl k=>k.casesOn rfl λO=>rfl
theorem yQ(n0:¬sort=0)(n1:¬sort=1)(n2:¬sort=2):nW o j i sort S=(S,true):=by rw[nW,if_neg n0,if_neg n1,if_neg n2]
end
inductive RpI(a p d1 d2:aA)(o:List UInt8)(i j sort:Int)(S:nh)(σ:Sg):Prop
 |mk (e m' n_) (R':List Row) (h:nW o j i sort S=(⟨m',n_,mJ R'⟩,decide (j<=e))) (s:σ=⟨[some (.ref a),some (.int sort),some (.ref p)],s9 p a o e j m' n_ R' d1 d2⟩)
theorem Po(hz:o.length<=16000)(h0:0<=i)(rj:i<=j)(hj:j<=o.length)(h1:sort=1->fs=[])(h2:sort=2->R=[]):
  Fn (.ref 333) 10 [.ref a,.int sort,.ref p] (s9 p a o i j m fs R d1 d2)
  (λav as'=>∃e m' n_ R',nW o j i sort ⟨m,fs,mJ R⟩=(⟨m',n_,mJ R'⟩,true)/\av=.none/\as'=s9 p a o e j m' n_ R' d1 d2)
  (λx as'=>∃e m' n_ R',nW o j i sort ⟨m,fs,mJ R⟩=(⟨m',n_,mJ R'⟩,false)/\x.C=58/\as'=s9 p a o e j m' n_ R' d1 d2):=by
 refine mG.enter Gi id (λs us hl w X=>yg hl λa b c=>aC rfl) (λO O h=>h) ?_;intro x E ok he J ex nd;refine Exits.gen ex.drop λX qx ex=>WS.gen λQ q=>?_;refine WS.xa (RpI a p d1 d2 o i j sort ⟨m,fs,mJ R⟩) (λW w=>?_) λσ h=>?_
 rotate_left
 ·obtain⟨e,m',n_,R',hP,es⟩:=h;rw[es];exact .ex he (.fn ok he Qf Gh.keep (.one (.nm ok J .t2) (.nil (mG.op (as:=[cur p o e j]) (rest:=oS a (oq m') d1 d2 true::.mO d1 (ents n_)::.mO d2 (m9 R')::nz R') Pn ok ex (by decide) .refl (p_ λhl=>⟨rfl,.nil (q _ _ ⟨e,m',n_,R',by rw[hP,decide_eq_true hl],rfl,rfl⟩)⟩) (t5 λy hl hC=>qx _ _ ⟨_,.refl,e,m',n_,R',by rw[hP,decide_eq_false (LQ hl)],hC,rfl⟩)))))
 refine .t_ (.cmp (.nm ok J .t1) (.gi ok he IJ) .eq) (λh=>?_) (λn0=>?_)
 ·exact .sW ok he (.me ok (.nm ok J .t2) (.head _) GK rfl (.nil (mG.op (as:=[cur p o i j]) (rest:=oS a (oq m) d1 d2 true::.mO d1 (ents fs)::.mO d2 (m9 R)::nz R) (II hz h0 hj) ok ex (by decide) .refl (rG λl e hN=>⟨a,308,_,_,_,(.nm ok J .here),(.tail .head),.here,tE,CA,l9 rfl,.nil (.nil (w _ ⟨e,some l,fs,R,uI h hN,rfl⟩))⟩) (si λy e hN hC=>qx _ _ ⟨_,.refl,e,m,fs,R,uI h hN,hC,rfl⟩))))
 refine .t_ (.cmp (.nm ok J .t1) (.gi ok he Jk) .eq) (λh=>?_) (λn1=>?_)
 ·rw[h1 h];exact .ex he (.fn ok he HZ CB.keep (.one (.nm ok J .t2) (.one (.attr ok (.nm ok J .here) m1 m1 (wq _)) (.nil (mG.op (as:=[cur p o i j,.mO d1 []]) (rest:=oS a (oq m) d1 d2 true::.mO d2 (m9 R)::nz R) (GN hz h0 hj) ok ex (by decide) (.pick .head (.pick .t1 .refl)) (rG λl e hN=>⟨rfl,.forget (.pick .head (.pick .t1 .refl)) (.nil (.nil (.nil (w _ ⟨e,m,l,R,xb n0 h hN,rfl⟩))))⟩) (EJ λy l e hN hC=>qx _ _ ⟨_,.pick .head (.pick .t1 .refl),e,m,l,R,xb n0 h hN,hC,rfl⟩))))))
 refine .t_ (.cmp (.nm ok J .t1) (.gi ok he IK) .eq) (λh=>?_) (λn2=>?_)
 ·rw[h2 h];exact .ex he (.fn ok he Pt F3.keep (.one (.nm ok J .t2) (.one (.attr ok (.nm ok J .here) m1 m2 (sJ _)) (.nil (mG.op (as:=[cur p o i j,.mO d2 []]) (rest:=[oS a (oq m) d1 d2 true,.mO d1 (ents fs)]) (Pa hz h0 hj) ok ex (by decide) (.pick .head (.pick .t2 .refl)) (rG λR' e hN=>⟨rfl,.forget (as'':=s9 p a o e j m fs R' d1 d2) (Arr.D7 (A:=[cur p o e j]) (B:=.mO d2 (m9 R')::nz R') (C:=[oS a (oq m) d1 d2 true,.mO d1 (ents fs)])) (.nil (.nil (.nil (.nil (w _ ⟨e,m,fs,R',xc n0 n1 h hN,rfl⟩)))))⟩) (EJ λy R' e hN hC=>qx _ _ ⟨s9 p a o e j m fs R' d1 d2,Arr.D7 (A:=[cur p o e j]) (B:=.mO d2 (m9 R')::nz R') (C:=[oS a (oq m) d1 d2 true,.mO d1 (ents fs)]),e,m,fs,R',xc n0 n1 h hN,hC,rfl⟩))))))
 refine .exB he (.me ok (.nm ok J .t2) (.head _) GJ rfl (.cons (.me ok (.nm ok J .t2) (.head _) zM rfl (.nil (mG.op (as:=[cur p o i j]) (rest:=oS a (oq m) d1 d2 true::.mO d1 (ents fs)::.mO d2 (m9 R)::nz R) zW ok ex (by decide) .refl (nF ?_) (λO O h=>h.elim))))));exact .nil (mG.op (as:=[cur p o i j]) (rest:=oS a (oq m) d1 d2 true::.mO d1 (ents fs)::.mO d2 (m9 R)::nz R) (IG (oO hz) h0 hj (Ws rj)) ok ex (by decide) .refl (p_ λO=>⟨⟨_,rfl⟩,.nil (.nil (.nil (.nil (w _ ⟨i+(j-i),m,fs,R,(yQ n0 n1 n2).trans (by rw[decide_eq_true (Wr)]),rfl⟩))))⟩) (λy as' h=>(Wq h.1).elim))
end
section
noncomputable def pQ(o:List UInt8):Nat->Int->Int->nh->nh×Bool
 |0,_,_,S=>(S,true)
 |n+1,i,last,S=>
  if(o.length:Int)<=i then(S,true)
  else if((o.getD i.toNat 0).toNat:Int)<=last then(S,false)
  else match mU o o.length 5 (i+1) 0 0 with
   |none=>(S,false)
   |some (v,e)=>
    if(o.length:Int)<e+v then(S,false)
    else match nW o (e+v) e (o.getD i.toNat 0).toNat S with
     |(S',false)=>(S',false)
     |(S',true)=>pQ o n (e+v) (o.getD i.toNat 0).toNat S'
section
variable {o:List UInt8}{n:Nat}{i last sort v e:Int}{S S':nh}
theorem AM(h:(o.length:Int)<=i):pQ o (n+1) i last S=(S,true):=if_pos h
theorem DB(hs:((o.getD i.toNat 0).toNat:Int)=sort)(h:¬(o.length:Int)<=i)(h1:sort<=last):pQ o (n+1) i last S=(S,false):=by rw[<-hs]at h1;exact(if_neg h).trans (if_pos h1)
theorem AN(hs:((o.getD i.toNat 0).toNat:Int)=sort)(h:¬(o.length:Int)<=i)(h1:¬sort<=last):pQ o (n+1) i last S=match mU o o.length 5 (i+1) 0 0 with
   |none=>(S,false)
   |some (v,e)=>
    if(o.length:Int)<e+v then(S,false)
    else match nW o (e+v) e sort S with
     |(S',false)=>(S',false)
     |(S',true)=>pQ o n (e+v) sort S':=by rw[<-hs]at h1 ⊢;exact(if_neg h).trans (if_neg h1)
theorem C9(hs:((o.getD i.toNat 0).toNat:Int)=sort)(h:¬(o.length:Int)<=i)(h1:¬sort<=last)(k:mU o o.length 5 (i+1) 0 0=none):pQ o (n+1) i last S=(S,false):=by rw[AN hs h h1,k]
theorem C_(hs:((o.getD i.toNat 0).toNat:Int)=sort)(h:¬(o.length:Int)<=i)(h1:¬sort<=last)(k:mU o o.length 5 (i+1) 0 0=some (v,e))(h2:(o.length:Int)<e+v):pQ o (n+1) i last S=(S,false):=by rw[AN hs h h1,k];exact if_pos h2
theorem DC(hs:((o.getD i.toNat 0).toNat:Int)=sort)(h:¬(o.length:Int)<=i)(h1:¬sort<=last)(k:mU o o.length 5 (i+1) 0 0=some (v,e))(h2:¬(o.length:Int)<e+v)(q:nW o (e+v) e sort S=(S',false)):pQ o (n+1) i last S=(S',false):=by rw[AN hs h h1,k];refine(if_neg h2).trans ?_;rw[q]
theorem Bb(hs:((o.getD i.toNat 0).toNat:Int)=sort)(h:¬(o.length:Int)<=i)(h1:¬sort<=last)(k:mU o o.length 5 (i+1) 0 0=some (v,e))(h2:¬(o.length:Int)<e+v)(q:nW o (e+v) e sort S=(S',true)):pQ o (n+1) i last S=pQ o n (e+v) sort S':=by rw[AN hs h h1,k];refine(if_neg h2).trans ?_;rw[q]
end
noncomputable def rA(o:List UInt8):nh×Bool:=pQ o (o.length+1) 0 (-1) ⟨none,[],[]⟩
theorem IL(h:¬sort=1):(nW o j i sort S).1.fs=S.fs:=by
 refine(aq (sort=0)).elim (λs0=>?_) λs0=>?_
 ·rw[uI s0 rfl];cases nameAt o j i<;>rfl
 exact(aq (sort=2)).elim (λs2=>by rw[xc s0 h s2 rfl]) λs2=>by rw[yQ s0 h s2]
theorem IM(h:¬sort=2):(nW o j i sort S).1.rs=S.rs:=by
 refine(aq (sort=0)).elim (λs0=>?_) λs0=>?_
 ·rw[uI s0 rfl];cases nameAt o j i<;>rfl
 exact(aq (sort=1)).elim (λs1=>by rw[xb s0 s1 rfl]) λs1=>by rw[yQ s0 s1 h]
theorem HF{fs rs m' n_ Ov b}(h:nW o j i sort ⟨m,fs,rs⟩=(⟨m',n_,Ov⟩,b)):(sort<1->fs=[]->n_=[])/\(sort<2->rs=[]->Ov=[]):=
 ⟨λq e=>(congrArg (λz=>z.1.fs) h).symm.trans ((IL λk=>Md k q).trans e),λq e=>(congrArg (λz=>z.1.rs) h).symm.trans ((IM λk=>Mc k q).trans e)⟩
noncomputable abbrev Ap:=af "names"
noncomputable abbrev DE:=af "sort"
noncomputable abbrev Sw:=af "cursor"
noncomputable abbrev adn:List Str:=[pV,Ap,Sw,qI,uG,DE,UD]
noncomputable abbrev nc(a:aA)(m:Option (List Nat))(fs:List (Int×List Nat))(R:List Row)(d1 d2:aA)(w:Bool):List mH:=oS a (oq m) d1 d2 w::.mO d1 (ents fs)::.mO d2 (m9 R)::nz R
theorem Arr.left:Arr (A++B) A:=by
 induction A with
 |nil=>exact .nil
 |cons x r ih=>exact .pick .head ih
inductive Ow(o:List UInt8)(a d1 d2:aA)(w w':Bool)(σ:Sg):Prop
 |mk (m fs) (R:List Row) (y2 y3 y4 y5 y6:Option AV) (h:rA o=(⟨m,fs,mJ R⟩,w)) (s:σ=⟨[some (.bytes o),some (.ref a),y2,y3,y4,y5,y6],nc a m fs R d1 d2 w'⟩)
theorem FV(hz:o.length<=16000):Fn (.ref 340) 11 [.bytes o] []
  (λav as'=>∃a d1 d2 m fs R b,rA o=(⟨m,fs,mJ R⟩,b)/\av=.ref a/\as'=nc a m fs R d1 d2 b) (λO O=>False):=by
 refine mG.enter Cg id (λs us hl w X=>pF hl λa=>aC rfl) (λO O h=>h) ?_;intro x E ok he J ex nd;refine Exits.gen ex λX qx ex=>WS.gen λQ q=>?_;refine .st ok he J (.fn ok he JV Jh (.nil (Op.make (as:=[]) (rest:=[]) ok ex (Jf _) (Jg _) (uu Cm _) (n:=1) (by decide) .refl (λa=>F_) (λa=>Ve λd1 d2=>⟨rfl,_,.t1,?_⟩) (λO O O h=>h.elim))));refine .st ok he J (.fn ok he Je IF (.one (.nm ok J .here) (.nil (Op.make (as:=[]) (rest:=[.mO d2 [],.mO d1 [],oS a .none d1 d2 true]) ok ex (ID _) (IE _) (uu zH _) (n:=1) (by decide) .refl (λa=>O2 (oO hz)) (λb=>nF ⟨rfl,_,.t2,?_⟩) (λO O O h=>h.elim)))));refine .lt ok J .neg .t3 ?_;refine .Nb ok J (λout mF=>out=.next/\∃w,Ow o a d1 d2 w w mF) (λy σ=>y.C=58/\Ow o a d1 d2 false true σ) ?_ ?_ ?_
 ·intro y σ h fr xs vs e s fl;refine cps λV V'=>?_;obtain⟨C,f⟩:=y;obtain⟨hC,m,fs,R,y2,y3,y4,y5,y6,hS,rfl⟩:=h;dsimp only at hC;subst hC;refine V' (Tz ok fl zl qs (by rw[he];rfl) (λe dd=>?_));refine .sAM ok he .bool (.E8 ok J .t1) (.tail (.tail .head)) (.there (by decide +kernel) (.there (by decide +kernel) (.there (by decide +kernel) .here))) tE F5 ?_;exact .forget (.skip (.skip .refl)) (.nil ⟨rfl,false,m,fs,R,y2,y3,y4,y5,y6,hS,rfl⟩)
 rotate_left
 ·intro out mF h;obtain⟨rfl,w,m,fs,R,y2,y3,y4,y5,y6,hS,rfl⟩:=h;exact .ret (.ev (.nm ok J .t1) (q _ _ ⟨a,d1,d2,m,fs,R,w,hS,rfl,rfl⟩))
 intro E ex;refine Exits.gen ex.drop λX qx ex=>WS.gen λQ q=>?_;refine .forget (as'':=s9 b a o 0 o.length none [] [] d1 d2) (.pick .head (.pick .t2 (.pick .t1 .refl))) ?_;refine .AD ex.own (λn σ=>Om λ(i last:Int) (m:Option (List Nat)) (fs:List (Int×List Nat)) (R:List Row) (y4 y5 y6:Option AV)=>Ot (0<=i) (i<=o.length) ((o.length:Int)+1<=n+i) (last<1->fs=[]) (last<2->R=[]) (pQ o n i last ⟨m,fs,mJ R⟩=rA o) (σ=⟨[some (.bytes o),some (.ref a),some (.ref b),some (.int last),y4,y5,y6],s9 b a o i o.length m fs R d1 d2⟩)) (o.length+1) ?_ ?_
 ·exact⟨0,-1,none,[],[],none,none,none,bO 0,Ea hz,D_,λO=>rfl,λO=>rfl,rfl,rfl⟩
 intro n σ W w h;refine cps λV V'=>?_;obtain⟨i,last,m,fs,R,y4,y5,y6,h0,h1,rN,hf,zw,hS,es⟩:=h;refine V' ?_;rw[es];have tm:n=n-1+1:=LV h1 rN;rw[tm]at hS rN;refine .not (.plain (.me ok (.nm ok J .t2) (.head _) F4 rfl (.nil (mG.op (as:=[cur b o i o.length]) (rest:=nc a m fs R d1 d2 true) Ha ok ex (by decide) .refl (nF ⟨_,rfl,?_⟩) (λO O h=>h.elim)))));refine(aq ((o.length:Int)<=i)).elim (λhi=>?_) λhi=>?_
 ·rw[decide_eq_true hi];exact .forget (as'':=nc a m fs R d1 d2 true) .n8 (.nil (q _ _ ⟨rfl,true,m,fs,R,_,_,_,_,_,hS.symm.trans (AM hi),rfl⟩))
 rw[decide_eq_false hi];refine .lt ok J (.attr ok (.nm ok J .t2) (.head _) m1 (pE _)) .t4 ?_;refine .st ok he J (.me ok (.nm ok J .t2) (.head _) Gn rfl (.nil (mG.op (as:=[cur b o i o.length]) (rest:=nc a m fs R d1 d2 true) (H6 (oO hz) h0 (bO _)) ok ex (by decide) .refl (p_ λO=>⟨_,(.there .t4),?_⟩) (λy as' h=>(hi h.1).elim))));have qe:(0:Int)<=((o.getD i.toNat 0).toNat:Nat):=uz;generalize hs:((o.getD i.toNat 0).toNat:Int)=sort at qe ⊢;refine .qq (.cmp (.nm ok J (.there .t4)) (.nm ok J .t3) .le) (λh=>?_) (λh=>?_)
 ·exact qE ok he ex (by decide) qs .str (.nm ok J .t4) (qx _ _ ⟨_,.skip .refl,rfl,m,fs,R,_,_,_,_,_,hS.symm.trans (DB hs hi h),rfl⟩)
 refine .lt ok J (.nm ok J (.there .t4)) .t3 ?_;refine .st ok he J (.me ok (.nm ok J .t2) (.head _) wu rfl (.nil (mG.op (as:=[cur b o (i+1) o.length]) (rest:=nc a m fs R d1 d2 true) (wF (oO hz) (yY h0) (bO _)) ok ex (by decide) .refl (rG λv e hN=>?_) (si λy e hN hC=>qx _ _ ⟨_,.skip .refl,hC,m,fs,R,_,_,_,_,_,hS.symm.trans (C9 hs hi h hN),rfl⟩))));have hr:=rV hN (by decide);refine⟨_,(.there (.there .t4)),?_⟩;refine .ex he (.fn ok he Qg Gi.keep (.one (.nm ok J .t1) (.one (.nm ok J (.there .t4)) (.cons (.me ok (.nm ok J .t2) (.head _) Pw rfl (.one (.nm ok J (.there (.there .t4))) (.nil (mG.op (as:=[cur b o e o.length]) (rest:=nc a m fs R d1 d2 true) (Rq (oO hz) (Ef h0 hr.2.1) (bO _) hr.1) ok ex (by decide) .refl ?_ (t5 λy hl hC=>qx _ _ ⟨_,.skip .refl,hC,m,fs,R,_,_,_,_,_,hS.symm.trans (C_ hs hi h hN hl),rfl⟩)))))))));intro av as' h3;obtain⟨hl,p,rfl,rfl⟩:=h3;have pD:¬(o.length:Int)<e+v:=Wx hl;refine .nil (mG.op (as:=s9 p a o e (e+v) m fs R d1 d2) (rest:=[cur b o (e+v) o.length]) (Po hz (Ef h0 hr.2.1) (Ww hr.1) hl (λq=>hf (Ee h q)) (λq=>zw (Ed h q))) ok ex (by decide) (Arr.D7 (A:=[cur p o e (e+v)]) (B:=[cur b o (e+v) o.length]) (C:=nc a m fs R d1 d2 true)) (λav as' h3=>?_) λy as' h3=>?_)
 ·refine cps λV V'=>?_;obtain⟨e',m',n_,R',hP,rfl,rfl⟩:=h3;refine V' ?_;have hk:=HF hP;exact⟨rfl,.forget (as'':=s9 b a o (e+v) o.length m' n_ R' d1 d2) (.skip (.sO (List.perm_append_singleton _ _))) (.nil (w _ _ ⟨n-1,by rw[tm];exact pg,e+v,sort,m',n_,R',_,_,_,Wv h0 hr.1 hr.2.1,Wu hl,Wt rN hr.1 hr.2.1,λq=>hk.1 q (hf (Mb qe h q)),λq=>dj.mp (hk.2 q (by rw[zw (Ma qe h q)];rfl)),(Bb hs hi h hN pD hP).symm.trans hS,rfl⟩))⟩
 ·refine cps λV V'=>?_;obtain⟨e',m',n_,R',hP,hC,rfl⟩:=h3;exact V' (qx _ _ ⟨nc a m' n_ R' d1 d2 true,.skip Arr.left,hC,m',n_,R',_,_,_,_,_,hS.symm.trans (DC hs hi h hN pD hP),rfl⟩)
end
noncomputable abbrev mX(a o:aA):mH:=.ins a 265 [(pV,.ref o)]
noncomputable abbrev ado:=af "number"
theorem zL:th (.ref 213) 1 [.ref a] [.ins a 265 []] (λav as'=>av=.none/\∃o,as'=[mX a o,.ba o []]) nE:=by refine mG.enter xI id (λs us hl w X=>pF hl λa=>aC rfl) (λO O h=>h) ?_;intro x E ok he J ex nd;refine .sW ok he (.bt ok he HC (.nil (.AX (nd rfl) λo=>⟨a,265,_,_,_,(.nm ok (J) .here),(.tail .head),.nil,UC,Px,by simp,?_⟩)));exact .forget (.pick .t1 .refl) (.nil ⟨rfl,o,rfl⟩)
theorem Pj(h0:0<=k)(h1:k<256)(hz:b.length<=900000):th (.ref 220) 1 [.ref a,.int k] [mX a o,.ba o b] (λav as'=>av=.none/\as'=[mX a o,.ba o (b++[k.toNat.toUInt8])]) nE:=by refine mG.enter Pd id (λs us hl w X=>pY hl λa b=>aC rfl) (λO O h=>h) ?_;intro x E ok he J ex nd;refine .ex he (.nX ok (.attr ok (.nm ok J .here) (.head _) (.head _) (uj _)) (.ba m1 FA.wy FA.zO) .builtin (.one (.nm ok J .t1) (.nil (.wC (nd rfl) (.tail .head) h0 h1 hz ⟨rfl,.nil ⟨rfl,rfl⟩⟩))))
theorem TQ{E:Ex}{i:mR}{XX:mZ->Sg->Prop}{x:Str}{e1:cI}{y:AV}{np qL pos:iA}{rest:List Stmt}{Q:Out->Sg->Prop}(ok:Ok c d)(he:c.env=i.env c.L)(ex:Exits c E XX)(hd:1<=d)(hg:∀P,cN (KK P) az x=some (some (.ref 70)))
  (h1:Ev c σ e1 y)(hX:XX ⟨70,[(vy,y)]⟩ σ)(hx:autoParam ((i.env c.L).kindOf x=some .globalImplicit) aR)(Fh:autoParam ((x==("__debug__":Str))=false) aK)
  (hv:autoParam (∀env,aT (.Call (.Name x np) [e1] [] qL) env=(do cA qL (<-aT (.Name x np) env) [] (cM qL (aU [e1] env)) (dF qL (cF [] env)))) aI)
  (qz:autoParam (∀env,aU [e1] env=[(false,aT e1 env)]) aI):
  WS c E σ (aO (.Raise (some (.Call (.Name x np) [e1] [] qL)) none pos::rest) c.env) Q:=by
 refine .raise ok ex (.fn ok he hg Vi (.one h1 (.nil (Op.Lh (as:=[]) (rest:=σ.as) ok ex zm (Vj _) ⟨_,FQ.look _,rfl⟩ hd .refl (λa=>FT zm Ss) ?_ (λO O O h=>h.elim) (by simp))) qz) hx Fh hv (by rw[qz];rfl));rintro a av as' ⟨rfl,rfl⟩;exact⟨rfl,a,70,_,_,rfl,zm,.head,hX⟩
noncomputable def mK(n:Nat):List UInt8:=if h:n<128 then[n.toUInt8]else(n%128+128).toUInt8::mK (n/128)
termination_by n
decreasing_by exact WM h
theorem wz(h:n<128):mK n=[n.toUInt8]:=by rw[mK,dif_pos h]
theorem um(h:128<=n):mK n=(n%128+128).toUInt8::mK (n/128):=by rw[mK,dif_neg (WL h)]
noncomputable abbrev yR(x:mZ):Prop:=x.C=70/\x.f=[(vy,.str (af "an unsigned number below 0").cps.toList)]
theorem xG(hz:b.length+(mK k.toNat).length<=900000):th (.ref 234) 2 [.ref a,.int k] [mX a o,.ba o b]
  (λav as'=>0<=k/\av=.none/\as'=[mX a o,.ba o (b++mK k.toNat)]) (λx as'=>k<0/\yR x/\as'=[mX a o,.ba o b]):=by
 refine mG.enter OY id (λs us hl w X=>pY hl λa b=>aC rfl) (λO O h=>h) ?_;intro x E ok he J ex nd;refine .n3 (.cmp (.nm ok J .t1) .int .lt) (λh=>?_) (λh=>?_)
 ·exact TQ ok he ex (by decide) IC .str ⟨of_decide_eq_true h,⟨rfl,rfl⟩,rfl⟩
 have h0:=of_decide_eq_false h;refine .yf ex.own (λn σ=>Xs2 λ(j:Nat) (b':List UInt8)=>ua (n=j) (b'++mK j=b++mK k.toNat) (σ=⟨[some (.ref a),some (.int j)],[mX a o,.ba o b']⟩)) k.toNat ⟨k.toNat,b,rfl,rfl,by rw[gB (Me h0)];rfl⟩ ?_;rintro n σ ⟨j,b',rfl,hE,rfl⟩;have hlen:b'.length+(mK n).length=b.length+(mK k.toNat).length:=by rw[<-aa,<-aa,hE]
 refine Tr.wt (.cmp (.nm ok J .t1) .int .ge) ?_;split
 ·rename_i h
  have h:=of_decide_eq_true h;rw[um (Mg h)]at hE hlen;have e1:aB.bitOr (aB.bitAnd (n:Int) 127) 128=((n%128+128:Nat):Int):=by rw[bitAnd_m7];exact TC 7 1 ((n:Int)%128) (by decide) (WJ) (x29)
  refine .ex he (.nX ok (.attr ok (.nm ok J .here) (.head _) (.head _) (uj _)) (.ba m1 FA.wy FA.zO) .builtin (.one (.binop (.binop (.nm ok J .t1) .int .and) .int .or) (.nil (.wC (nd rfl) (.tail .head) (by rw[e1];exact WI e1) (by rw[e1];exact WH e1) (by simp at hlen;exact WG hz hlen) ⟨rfl,?_⟩))));rw[e1];refine .lt ok J (.binop (.nm ok J .t1) .int (.shr (by decide))) .t1 ?_;refine .nil ⟨n/128,WD h e1,n/128,b'++[(n%128+128).toUInt8],rfl,?_,?_⟩
  ·rw[<-hE];simp
  ·rw[show(n:Int).fdiv (2^dM 7)=((n/128:Nat):Int) by rw[show(2:Int)^dM 7=128 from rfl,dY _ (by decide)];simp]
   rfl
 ·rename_i h
  have h:=of_decide_eq_false (ey.mpr h);rw[wz (Mf h)]at hE hlen;refine .ex he (.nX ok (.attr ok (.nm ok J .here) (.head _) (.head _) (uj _)) (.ba m1 FA.wy FA.zO) .builtin (.one (.nm ok J .t1) (.nil (.wC (nd rfl) (.tail .head) (WB h) (Wz h) (by simp at hlen;exact Wy hz hlen) ⟨rfl,?_⟩))));refine .nil ⟨Me h0,rfl,?_⟩;rw[<-hE];simp
theorem Gq(hz:b.length+(mK k.toNat).length<=900000):th (.ref 248) 3 [.ref a,.int k] [mX a o,.ba o b]
  (λav as'=>0<=k/\av=.none/\as'=[mX a o,.ba o (b++mK k.toNat)]) (λx as'=>k<0/\yR x/\as'=[mX a o,.ba o b]):=by
 refine mG.enter Pl id (λs us hl w X=>pY hl λa b=>aC rfl) (λO O h=>h) ?_;intro x E ok he J ex nd;refine .ex he (.me ok (.nm ok J .here) (.head _) xH rfl (.one (.nm ok J .t1) (.nil (mG.op (rest:=[]) (xG hz) ok ex (by decide) .refl ?_ ?_ nd))))
 ·refine p_ λh=>?_;exact⟨rfl,.nil ⟨h,rfl,rfl⟩⟩
 ·refine t5 λy h hX=>?_;exact⟨h,hX,rfl⟩
noncomputable def u8(p:Nat):List UInt8:=
 if p<128 then[p.toUInt8]else if p<2048 then[(192+p/64).toUInt8,(128+p%64).toUInt8]
 else if p<65536 then[(224+p/4096).toUInt8,(128+p/64%64).toUInt8,(128+p%64).toUInt8]
 else[(240+p/262144).toUInt8,(128+p/4096%64).toUInt8,(128+p/64%64).toUInt8,(128+p%64).toUInt8]
noncomputable def isSign(p:Nat):Prop:=p<55296\/(57344<=p/\p<1114112)
theorem xe(h:p<128):u8 p=[p.toUInt8]:=if_pos h
theorem xf(h:¬p<128)(h2:p<2048):u8 p=[(192+p/64).toUInt8,(128+p%64).toUInt8]:=(if_neg h).trans (if_pos h2)
theorem xg(h:¬p<128)(h2:¬p<2048)(h3:p<65536):u8 p=[(224+p/4096).toUInt8,(128+p/64%64).toUInt8,(128+p%64).toUInt8]:=(if_neg h).trans ((if_neg h2).trans (if_pos h3))
theorem xh(h:¬p<128)(h2:¬p<2048)(h3:¬p<65536):u8 p=[(240+p/262144).toUInt8,(128+p/4096%64).toUInt8,(128+p/64%64).toUInt8,(128+p%64).toUInt8]:=(if_neg h).trans ((if_neg h2).trans (if_neg h3))
theorem UG(p:Nat):(u8 p).length<=4:=by refine(aq (p<128)).elim (λh=>by rw[xe h];exact l9 rfl) λh=>?_;refine(aq (p<2048)).elim (λh2=>by rw[xf h h2];exact l9 rfl) λh2=>?_;exact(aq (p<65536)).elim (λh3=>by rw[xg h h2 h3];exact l9 rfl) λh3=>by rw[xh h h2 h3];exact l9 rfl
theorem tG(l:List Nat):(l.flatMap u8).length<=4*l.length:=by
 induction l with
 |nil=>exact bz _
 |cons p l ih=>rw[bx,aa];exact ar (cK (UG p) ih) (da (fc ..))
theorem sh(p k:Nat):(p:Int).fdiv (2^k)=((p/2^k:Nat):Int):=by rw[dY _ (gw (by decide))];simp
theorem tl(p:Nat):aB.bitOr 128 (aB.bitAnd (p:Int) 63)=((128+p%64:Nat):Int):=by rw[bitAnd_m6];have:=yi 6 2 ((p:Int)%64) (by decide) (Xe) (x31);rw[show(128:Int)=2*2^6 from rfl,this];exact x30
theorem Vk{p:Nat}(h:(p:Int)<2048):aB.bitOr 192 ((p:Int).fdiv (2^dM 6))=((192+p/64:Nat):Int):=by rw[show dM 6=6 from rfl,sh];exact yi 6 3 _ (by decide) (bM _) (y4 h)
theorem Vl{p:Nat}(h:(p:Int)<65536):aB.bitOr 224 ((p:Int).fdiv (2^dM 12))=((224+p/4096:Nat):Int):=by rw[show dM 12=12 from rfl,sh];exact yi 5 7 _ (by decide) (bM _) (y5 h)
theorem Vm(h:isSign p):aB.bitOr 240 ((p:Int).fdiv (2^dM 18))=((240+p/262144:Nat):Int):=by rw[show dM 18=18 from rfl,sh];exact yi 4 15 _ (by decide) (bM _) (y6 h)
theorem Nh(p:Nat):aB.bitOr 128 (aB.bitAnd ((p:Int).fdiv (2^dM 6)) 63)=((128+p/64%64:Nat):Int):=by rw[show dM 6=6 from rfl,sh,tl]
theorem Vn(p:Nat):aB.bitOr 128 (aB.bitAnd ((p:Int).fdiv (2^dM 12)) 63)=((128+p/4096%64:Nat):Int):=by rw[show dM 12=12 from rfl,sh,tl]
theorem acN{P:Int->Prop}(h:∀n,n=a\/n=b->P n):∀n∈[a,b],P n:=λn J=>h n ((aL.mp J).imp id ao.mp)
theorem acO{P:Int->Prop}(h:∀n,n=a\/n=b\/n=c->P n):∀n∈[a,b,c],P n:=λn J=>h n ((aL.mp J).imp id λJ=>(aL.mp J).imp id ao.mp)
theorem acP{P:Int->Prop}(h:∀n,n=a\/n=b\/n=c\/n=d->P n):∀n∈[a,b,c,d],P n:=λn J=>h n ((aL.mp J).imp id λJ=>(aL.mp J).imp id λJ=>(aL.mp J).imp id ao.mp)
noncomputable abbrev UH:=af "text"
theorem PS(hl:l.length<=200000)(hs:∀p∈l,isSign p):th (.ref 276) 2 [.str l] [] (λav as'=>av=.bytes (l.flatMap u8)/\as'=[]) nE:=by
 refine mG.enter G1 id (λs us hl w X=>pF hl λa=>aC rfl) (λO O h=>h) ?_;intro x E ok he J ex nd;refine Exits.gen ex.drop λX qx ex=>WS.gen λQ q=>?_;refine .st ok he J (.bt ok he HC (.nil (.AX (nd rfl) λf=>⟨_,.t1,?_⟩)));refine .w_ ex.own (λm it σ=>uY λ(mP:aA) (t:Nat) (y2 y3:Option AV)=>Oq (it=.ref mP) (m=l.length-t) (t<=l.length) (σ=⟨[some (.str l),some (.ref f),y2,y3],[.is mP (r3 l t),.ba f ((l.take t).flatMap u8)]⟩)) l.length
  (λP w=>.ev (.nm ok J .here) (.str λit=>w _ _ ⟨it,0,_,_,rfl,rfl,bB _,rfl⟩)) ?_
 intro m it σ W w h;refine cps λV V'=>?_;obtain⟨mP,t,y2,y3,eq,em,ht,es⟩:=h;refine V' ?_;rw[eq,es];refine(g_ t l.length).elim (λnu=>?_) λnu=>?_
 rotate_left
 ·refine⟨none,_,.Kv ok .head (b7 nu),?_⟩;rw[b6 nu];exact .ret (.forget (.ev (.E7 ok he rx (.nm ok J .t1) (.Ku (.head _) (ar (tG l) (ar (j3 4 hl) (by decide))))) ⟨[],.nil,q _ _ ⟨rfl,rfl⟩⟩))
 have hz:=tG (l.take t);rw[bS]at hz;refine⟨some (.str [l[t]]),_,.str .head (aw nu),_,.name ok J .t2,?_⟩;have hp:=hs l[t] (bL nu);have hu:(l.take (t+1)).flatMap u8=(l.take t).flatMap u8++u8 l[t]:=by rw[bD,aw nu,bu,iW,bx,cD,aW]
 generalize l[t]=p at hp hu;have fin:∀B,u8 p=B->W .next ⟨[some (.str l),some (.ref f),some (.str [p]),some (.int p)],[.is mP (r3 l (t+1)),.ba f ((l.take t).flatMap u8++B)]⟩:=λB e=>w _ _ ⟨l.length-(t+1),by rw[em];exact Mk nu,mP,t+1,_,_,eq,rfl,WW nu,by rw[hu,e]⟩;refine .lt ok J (.pC ok he Ly (.nm ok J .t2) .ord) .t3 ?_;refine .n3 (.chain .int (.nm ok J .t3) .int .le .lt) (λh=>?_) (λh=>?_)
 ·have h:=aV.mp h;exact(Xd hp ⟨of_decide_eq_true h.1,of_decide_eq_true h.2⟩).elim
 refine .t_ (.cmp (.nm ok J .t3) .int .lt) (λh=>?_) (λh1=>?_)
 ·exact .ex he (.nX ok (.nm ok J .t1) (.ba m1 FA.wy FA.zO) .builtin (.one (.nm ok J .t3) (.nil (.wC (nd rfl) (.tail .head) (Xc h) (Xa h) (W_ hl hz nu hp h) ⟨rfl,.nil (.nil (fin _ (xe (W9 h))))⟩))))
 refine .t_ (.cmp (.nm ok J .t3) .int .lt) (λh=>?_) (λh2=>?_)
 ·refine .ex he (.nX ok (.nm ok J .t1) (.ba m1 FA.tA FA.xN) .builtin (.cons (.list (.one (.binop .int (.binop (.nm ok J .t3) .int (.shr (by decide))) .or) (.one (.binop .int (.binop (.nm ok J .t3) .int .and) .or) (.nil ⟨l9 rfl,λla=>?_⟩))))));rw[Vk h,tl];exact .nil (.Dr ok (nd rfl) (.tail (.tail .head)) (ns:=[((192+p/64:Nat):Int),((128+p%64:Nat):Int)]) (.head _) (acN λn J=>W7 h1 h J) (W8 hl hz nu hp h1 h) ⟨rfl,.forget .n8 (.nil (.nil (.nil (fin _ (xf (W6 h1 h) (W5 h1 h))))))⟩)
 refine .t_ (.cmp (.nm ok J .t3) .int .lt) (λh=>?_) (λh3=>?_)
 ·refine .ex he (.nX ok (.nm ok J .t1) (.ba m1 FA.tA FA.xN) .builtin (.cons (.list (.one (.binop .int (.binop (.nm ok J .t3) .int (.shr (by decide))) .or) (.one (.binop .int (.binop (.binop (.nm ok J .t3) .int (.shr (by decide))) .int .and) .or) (.one (.binop .int (.binop (.nm ok J .t3) .int .and) .or) (.nil ⟨l9 rfl,λla=>?_⟩)))))));rw[Vl h,Nh,tl];exact .nil (.Dr ok (nd rfl) (.tail (.tail .head)) (ns:=[((224+p/4096:Nat):Int),((128+p/64%64:Nat):Int),((128+p%64:Nat):Int)]) (.head _) (acO λn J=>W3 h2 h J) (W4 hl hz nu hp) ⟨rfl,.forget .n8 (.nil (.nil (.nil (.nil (fin _ (xg (W0 h2 h) (WZ h2 h) (WY h2 h)))))))⟩)
 refine .ex he (.nX ok (.nm ok J .t1) (.ba m1 FA.tA FA.xN) .builtin (.cons (.list (.one (.binop .int (.binop (.nm ok J .t3) .int (.shr (by decide))) .or) (.one (.binop .int (.binop (.binop (.nm ok J .t3) .int (.shr (by decide))) .int .and) .or) (.one (.binop .int (.binop (.binop (.nm ok J .t3) .int (.shr (by decide))) .int .and) .or) (.one (.binop .int (.binop (.nm ok J .t3) .int .and) .or) (.nil ⟨l9 rfl,λla=>?_⟩))))))));rw[Vm hp,Vn,Nh,tl];exact .nil (.Dr ok (nd rfl) (.tail (.tail .head)) (ns:=[((240+p/262144:Nat):Int),((128+p/4096%64:Nat):Int),((128+p/64%64:Nat):Int),((128+p%64:Nat):Int)]) (.head _) (acP λn J=>WV hp h3 J) (WX hl hz nu hp h3) ⟨rfl,.forget .n8 (.nil (.nil (.nil (.nil (fin _ (xh (WU h3) (WR h3) (WQ h3)))))))⟩)
theorem Gr(hl:l.length<=200000)(hs:∀p∈l,isSign p)(hz:b.length+(mK (l.flatMap u8).length).length+(l.flatMap u8).length<=900000):th (.ref 255) 3 [.ref a,.str l] [mX a o,.ba o b]
  (λav as'=>av=.none/\as'=[mX a o,.ba o (b++mK (l.flatMap u8).length++l.flatMap u8)]) nE:=by
 refine mG.enter Pm id (λs us hl w X=>pY hl λa b=>aC rfl) (λO O h=>h) ?_;intro x E ok he J ex nd;refine .st ok he J (.fn ok he Rm G1.keep (.one (.nm ok J .t1) (.nil (mG.op (as:=[]) (rest:=[mX a o,.ba o b]) (PS hl hs) ok ex (by decide) .refl ?_ (λO O h=>h.elim) nd))));refine nF ?_;refine⟨_,.t2,?_⟩;refine .ex he (.me ok (.nm ok J .here) (.head _) xH rfl (.one (.pC ok he qk (.nm ok J .t2) (.tU (Mj hz))) (.nil (mG.op (rest:=[]) (xG (WO hl hz (tG l))) ok ex (by decide) .refl ?_ ?_ nd))))
 rotate_left
 ·rintro y as' ⟨h,_⟩;exact(Mi h).elim
 refine p_ λO=>?_;refine⟨rfl,?_⟩;refine .ex he (.nX ok (.attr ok (.nm ok J .here) (.head _) (.head _) (uj _)) (.ba m1 FA.tA FA.xN) .builtin (.one (.nm ok J .t2) (.nil (.Uu (nd rfl) (.tail .head) (by simp only[aa,bg];exact Mh hz) ⟨rfl,.nil ⟨rfl,rfl⟩⟩))))
theorem Pk{a o a2 o2:aA}(hz:b.length+(mK x.length).length+x.length<=900000):th (.ref 262) 3 [.ref a,.ref a2] [mX a o,.ba o b,mX a2 o2,.ba o2 x]
  (λav as'=>av=.none/\as'=[mX a o,.ba o (b++mK x.length++x),mX a2 o2,.ba o2 x]) nE:=by
 refine mG.enter Pe id (λs us hl w X=>pY hl λa b=>aC rfl) (λO O h=>h) ?_;intro c E ok he J ex nd;refine .ex he (.me ok (.nm ok J .here) (.head _) xH rfl (.one (.pC ok he qk (.attr ok (.nm ok J .t1) m2 (.head _) (uj _)) (.acy m3 (Mj hz))) (.nil (mG.op (rest:=[mX a2 o2,.ba o2 x]) (xG (WN hz)) ok ex (by decide) .refl ?_ ?_ nd))))
 rotate_left
 ·rintro y as' ⟨h,_⟩;exact(Mi h).elim
 refine p_ λO=>?_;refine⟨rfl,?_⟩;refine .ex he (.nX ok (.attr ok (.nm ok J .here) (.head _) (.head _) (uj _)) (.ba m1 FA.tA FA.xN) .builtin (.one (.attr ok (.nm ok J .t1) m2 (.head _) (uj _)) (.nil (.Uv (nd rfl) (.tail .head) m3 (by simp only[aa,bg];exact Mh hz) ⟨rfl,.nil ⟨rfl,rfl⟩⟩))))
noncomputable def txt(l:List (Int×List Nat))(i:Int):List Nat:=((l.find? λp=>p.1=i).map (λO=>O.2)).getD []
noncomputable def qu(t:List Nat):List UInt8:=mK (t.flatMap u8).length++t.flatMap u8
noncomputable def rH(l:List (Int×List Nat))(i:Int):List UInt8:=mK i.toNat++qu (txt l i)
noncomputable def ql(l:List (Int×List Nat)):List UInt8:=mK l.length++(oG (l.map (λO=>O.1))).flatMap (rH l)
theorem IP{α:Type}(f:α->List UInt8)(l:List α)(n:Nat):l.flatMap f=(l.take n).flatMap f++(l.drop n).flatMap f:=by rw[<-bu,jH]
theorem zX(l:List (Int×List Nat)):(ents l).map (λO=>O.1)=l.map (λO=>O.1):=by simp[ents]
theorem Ad(h:i∈l.map (λO=>O.1)):pR (ents l) i=some (.str (txt l i))/\(i,txt l i)∈l:=by
 induction l with
 |nil=>cases h
 |cons p l ih=>
  have f1:∀e:Bool,decide (p.1=i)=e->pR (ents (p::l)) i=(match e with|true=>some (.str p.2)|false=>pR (ents l) i):=λe h=>by show((match decide (p.1=i)with|true=>some _|false=>iY _ (ents l)).map _)=_;rw[h];cases e<;>rfl
  have f2:∀e:Bool,decide (p.1=i)=e->txt (p::l) i=(match e with|true=>p.2|false=>txt l i):=λe h=>by show(((match decide (p.1=i)with|true=>some _|false=>iY _ l).map _).getD [])=_;rw[h];cases e<;>rfl
  refine(aq (p.1=i)).elim (λe=>?_) λe=>?_
  ·rw[f1 true (decide_eq_true e),f2 true (decide_eq_true e)];exact⟨rfl,e▸.head _⟩
  ·rw[f1 false (decide_eq_false e),f2 false (decide_eq_false e)];have z:=ih ((aL.mp h).resolve_left (fh e));exact⟨z.1,.tail _ z.2⟩
theorem Jl{α:Type}(f:α->List UInt8){l:List α}{x:α}(h:l.take (t+1)=l.take t++[x]):(l.flatMap f).length=((l.take t).flatMap f).length+(f x).length+((l.drop (t+1)).flatMap f).length:=by rw[IP f l (t+1),h,bu,bx,cD,aW,aa,aa]
noncomputable abbrev UI:=af "sink"
noncomputable abbrev qj:=af "some"
noncomputable def B6(l:List (Int×List Nat)):Prop:=l.length<=16000/\(l.length<64\/(l.map (λO=>O.1)).Pairwise (λO O'=>O<=O'))/\∀p∈l,p.2.length<=16000/\∀q∈p.2,isSign q
theorem Gs{b:List UInt8}(hl:B6 l)(hz:b.length+(ql l).length<=900000):th (.ref 347) 4 [.ref a,.ref g] [mX a o,.ba o b,.mO g (ents l)]
  (λav as'=>(∀p∈l,0<=p.1)/\av=.none/\as'=[mX a o,.ba o (b++ql l),.mO g (ents l)]) (λx as'=>(∃p∈l,p.1<0)/\yR x/\∃b',as'=[mX a o,.ba o b',.mO g (ents l)]):=by
 refine mG.enter Cs id (λs us hl w X=>pY hl λa b=>aC rfl) (λO O h=>h) ?_;intro x E ok he J ex nd;have J:Nm x ([UI,qj,tF]):=J;refine Exits.gen ex.drop λX qx ex=>WS.gen λQ q=>?_;have qd:=hl.1;have hlen:(ents l).length=l.length:=ah ..;have hM:(ql l).length=(mK l.length).length+((oG (l.map (λO=>O.1))).flatMap (rH l)).length:=by rw[ql,aa]
 refine .ex he (.me ok (.nm ok J .here) (.head _) HD rfl (.one (.pC ok he qk (.nm ok J .t1) (.Bw m2 (Xp qd hlen))) (.nil (mG.op (as:=[mX a o,.ba o b]) (rest:=[.mO g (ents l)]) (Gq (by rw[bg,hlen];exact Xo hz hM)) ok ex (by decide) .refl (p_ λO=>⟨rfl,?_⟩) (λy as' h=>(Xn qd hlen h.1).elim) nd))));rw[hlen,bg];have wc:∀i,i∈oG (l.map (λO=>O.1))↔i∈l.map (λO=>O.1):=λi=>(rU _).mem_iff;have hW:mK l.length++(oG (l.map (λO=>O.1))).flatMap (rH l)=ql l:=rfl;generalize B7:oG (l.map (λO=>O.1))=ks at wc hM hW;refine .w_ ex.own (λm it σ=>uY λ(mP la:aA) (t:Nat) (y2:Option AV)=>BZ (it=.ref mP) (m=ks.length-t) (t<=ks.length) (∀i∈ks.take t,0<=i) (σ=⟨[some (.ref a),some (.ref g),y2],[.is mP (pP la t),.lst la (ks.map .int),mX a o,.ba o (b++mK l.length++(ks.take t).flatMap (rH l)),.mO g (ents l)]⟩)) ks.length (λP w=>
  .bf ok he Ac (.one (.nm ok J .t1) (.nil (.Af ok m2 (Xm qd hlen) (by rw[hlen,zX];exact hl.2.1) λla=>?_)))) ?_
 ·rw[zX,B7];exact .list (.head _) λit=>w _ _ ⟨it,la,0,none,rfl,rfl,bB _,(λO h=>nomatch h),by rw[k7,cD,aW];rfl⟩
 intro m it σ W w h;refine cps λV V'=>?_;obtain⟨mP,la,t,y2,eq,em,ht,hp,es⟩:=h;refine V' ?_;rw[eq,es];refine(g_ t ks.length).elim (λnu=>?_) λnu=>?_
 rotate_left
 ·refine⟨none,_,.wJ (ys:=ks.map .int) ok m1 .head (b7 (by rw[ah];exact nu)),?_⟩;rw[b6 nu]at hp ⊢;exact .forget (.pick .t1 (.pick .t1 (.pick .t1 .nil))) (.nil (q _ _ ⟨λp hpm=>hp _ ((wc _).mpr (aZ hpm)),rfl,by rw[aj,hW]⟩))
 refine⟨some (.int ks[t]),_,.list (ys:=ks.map .int) m1 .head (by rw[bc,aw nu];rfl),_,.name ok J .t2,?_⟩;have sf:=(wc _).mp (bL nu);have ud:ks.take (t+1)=ks.take t++[ks[t]]:=by rw[bD,aw nu];rfl
 generalize ks[t]=i at sf ud;have hg:=Ad sf;have xi:=Jl (rH l) ud;have Ni:(rH l i).length=(mK i.toNat).length+(mK ((txt l i).flatMap u8).length).length+((txt l i).flatMap u8).length:=by rw[rH,qu,aa,aa];exact Xl nu
 have hq:=hl.2.2 _ hg.2;refine .ex he (.me ok (.nm ok J .here) m2 xH rfl (.one (.nm ok J .t2) (.nil (mG.op (as:=[mX a o,.ba o (b++mK l.length++(ks.take t).flatMap (rH l))]) (rest:=[.is mP (pP la (t+1)),.lst la (ks.map .int),.mO g (ents l)]) (xG (by rw[aa,aa];exact Xj hz hM xi Ni)) ok ex (by decide) (.pick .t2 (.pick .t2 .refl)) (p_ λh0=>⟨rfl,?_⟩) (t5 λy h hX=>qx _ _ ⟨_,.pick .head (.pick .head (.pick .t2 .nil)),⟨_,hg.2,h⟩,hX,_,rfl⟩) nd))));refine .ex he (.me ok (.nm ok J .here) (.head _) HE rfl (.one (.item (.nm ok J .t1) (.nm ok J .t2) (.mO (.tail _ m3) hg.1)) (.nil (mG.op (as:=[mX a o,.ba o (b++mK l.length++(ks.take t).flatMap (rH l)++mK i.toNat)]) (rest:=[.is mP (pP la (t+1)),.lst la (ks.map .int),.mO g (ents l)]) (Gr (Ml hq.1) hq.2 (by rw[aa,aa,aa];exact Xi hz hM xi Ni)) ok ex (by decide) .refl (nF ⟨rfl,?_⟩) (λO O h=>h.elim) nd))));refine .forget (.pick .t2 (.pick .t2 .refl)) (.nil (w _ _ ⟨ks.length-(t+1),by rw[em];exact Mk nu,mP,la,t+1,some (.int i),eq,rfl,nu,λj hj=>?_,?_⟩))
 ·rw[ud]at hj;exact(aH.mp hj).elim (hp j) λe=>ao.mp e▸h0
 ·rw[ud,bu,bx,cD,aW,rH,qu,aj,aj,aj,aj]
noncomputable def qJ(s:Nat)(x:List UInt8):List UInt8:=s.toUInt8::(mK x.length++x)
theorem Cr{a o a2 o2:aA}(hs:s<256)(hz:b.length+(qJ s x).length<=900000):th (.ref 354) 4 [.ref a,.int s,.ref a2] [mX a o,.ba o b,mX a2 o2,.ba o2 x]
  (λav as'=>av=.none/\as'=[mX a o,.ba o (b++qJ s x),mX a2 o2,.ba o2 x]) nE:=by
 refine mG.enter zI id (λs us hl w X=>yg hl λa b c=>aC rfl) (λO O h=>h) ?_;intro c E ok he J ex nd;have hP:(qJ s x).length=1+(mK x.length).length+x.length:=by unfold qJ;simp only[bZ,aa];exact Bl
 refine .ex he (.me ok (.nm ok J .here) (.head _) PN rfl (.one (.nm ok J .t1) (.nil (mG.op (as:=[mX a o,.ba o b]) (rest:=[mX a2 o2,.ba o2 x]) (Pj (LP hs) (LO hs) (Xg hz hP)) ok ex (by decide) .refl ?_ (λO O h=>h.elim) nd))));refine nF ?_;refine⟨rfl,.ex he (.me ok (.nm ok J .here) (.head _) PO rfl (.one (.nm ok J .t2) (.nil (mG.op (rest:=[]) (Pk (by simp only[aa,bZ,iE];exact Xf hz hP)) ok ex (by decide) .refl ?_ (λO O h=>h.elim) nd))))⟩;refine nF ?_;refine⟨rfl,.nil ⟨rfl,?_⟩⟩;unfold qJ;simp
theorem Arr.trans(h:Arr l l')(h':Arr l' l''):Arr l l'':=by refine h.perm.elim λr p=>?_;refine h'.perm.elim λr' p'=>?_;refine Arr.CY (r:=r'++r) (p.trans ?_);rw[<-aj];exact p'.append_right r
theorem Arr.mid:Arr (p1::p2::(Z++d::B)) (p1::p2::d::(Z++B)):=.sO ((eH.cons _).cons _)
theorem Arr.acQ:Arr (p1::p2::d::(Z++B)) (p1::p2::(Z++d::B)):=.sO ((eH.symm.cons _).cons _)
theorem Arr.acR(h:T=X++d::Y):Arr (i::l::p::b::s::so::n::d1::d2::T) (p::b::d::(i::l::s::so::n::d1::d2::(X++Y))):=by subst h;exact Arr.trans (.pick .t2 (.pick .t2 .refl)) (Arr.mid (Z:=i::l::s::so::n::d1::d2::X))
theorem Arr.Nj(h:T=X++d::Y):Arr (p::b::d::(i::l::s::so::n::d1::d2::(X++Y))) (i::l::p::b::s::so::n::d1::d2::T):=by subst h;exact Arr.trans (Arr.acQ (Z:=i::l::s::so::n::d1::d2::X)) (.pick .t2 (.pick .t2 .refl))
noncomputable def rowOf(rs:List (Int×List (Int×List Nat)))(i:Int):List (Int×List Nat):=((rs.find? λr=>r.1=i).map (λO=>O.2)).getD []
noncomputable def qX(rs:List (Int×List (Int×List Nat)))(i:Int):List UInt8:=mK i.toNat++ql (rowOf rs i)
noncomputable def sE(rs:List (Int×List (Int×List Nat))):List UInt8:=mK rs.length++(oG (rs.map (λO=>O.1))).flatMap (qX rs)
noncomputable def pH(m:Option (List Nat)):List UInt8:=m.elim [] λt=>qJ 0 (qu t)
noncomputable def qA(fs:List (Int×List Nat)):List UInt8:=if fs=[]then[]else qJ 1 (ql fs)
noncomputable def xA(rs:List (Int×List (Int×List Nat))):List UInt8:=if rs=[]then[]else qJ 2 (sE rs)
noncomputable def qY(S:nh):List UInt8:=pH S.m++qA S.fs++xA S.rs
noncomputable def yv(S:nh):Prop:=(∀p∈S.fs,0<=p.1)/\∀r∈S.rs,0<=r.1/\∀p∈r.2,0<=p.1
structure tv(S:nh):Prop where
 m:∀t,S.m=some t->t.length<=16000/\∀q∈t,isSign q
 fs:B6 S.fs
 rl:S.rs.length<=16000
 rk:S.rs.length<64\/(S.rs.map (λO=>O.1)).Pairwise (λO O'=>O<=O')
 rs:∀r∈S.rs,B6 r.2
 nd:(S.rs.map (λO=>O.1)).Nodup
 sz:(qY S).length<=400000
inductive Vo(R:List Row)(i:Int):Prop
 |mk (R1 r R2) (e:R=R1++r::R2) (er:r.1=i) (g:pR (m9 R) i=some (.ref r.2.1)) (o:rowOf (mJ R) i=r.2.2)
theorem Jm:∀{R:List Row},i∈R.map (λO=>O.1)->Vo R i:=λ{R}=>by
 induction R with
 |nil=>exactλh=>nomatch h
 |cons p l ih=>
  intro h;have f1:∀e:Bool,decide (p.1=i)=e->pR (m9 (p::l)) i=(match e with|true=>some (.ref p.2.1)|false=>pR (m9 l) i):=λe h=>by show((match decide (p.1=i)with|true=>some _|false=>iY _ (m9 l)).map _)=_;rw[h];cases e<;>rfl
  have f2:∀e:Bool,decide (p.1=i)=e->rowOf (mJ (p::l)) i=(match e with|true=>p.2.2|false=>rowOf (mJ l) i):=λe h=>by show(((match decide (p.1=i)with|true=>some _|false=>iY _ (mJ l)).map _).getD [])=_;rw[h];cases e<;>rfl
  refine(aq (p.1=i)).elim (λe=>⟨[],p,l,rfl,e,f1 _ (decide_eq_true e),f2 _ (decide_eq_true e)⟩) λe=>?_;obtain⟨R1,r,R2,e1,e2,e3,e4⟩:=ih ((aL.mp h).resolve_left (fh e));exact⟨p::R1,r,R2,congrArg _ e1,e2,(f1 _ (decide_eq_false e)).trans e3,(f2 _ (decide_eq_false e)).trans e4⟩
theorem zY(nd:(rs.map (λO=>O.1)).Nodup)(r)(h:r∈rs):rowOf rs r.1=r.2:=congrArg (λx=>(fO (λO:Int×List (Int×List Nat)=>O.2) x).getD []) (HX (z:=r.2) nd h)
theorem Rt(R1 R2:List Row)(r:Row):nz (R1++r::R2)=nz R2++.mO r.2.1 (ents r.2.2)::nz R1:=by simp[nz]
noncomputable def LC(R:List Row)(i:Int):Prop:=0<=i/\∀p∈rowOf (mJ R) i,0<=p.1
theorem Ga(hS:tv ⟨m,fs,mJ R⟩):th (.ref 361) 5 [.ref a] (nc a m fs R d1 d2 w)
  (λav as'=>yv ⟨m,fs,mJ R⟩/\av=.bytes (qY ⟨m,fs,mJ R⟩)/\as'=nc a m fs R d1 d2 w) (λx as'=>¬yv ⟨m,fs,mJ R⟩/\yR x/\as'=nc a m fs R d1 d2 w):=by
 refine mG.enter Cn id (λs us hl w X=>pF hl λa=>aC rfl) (λO O h=>h) ?_;intro x E ok he J ex nd;refine Exits.gen ex.drop λX qx ex=>WS.gen λQ q=>?_;have hsz:=hS.sz;rw[qY,aa,aa]at hsz;refine .st ok he J (.fn ok he AF Aj (.nil (Op.AY (nb:=true) (as:=[]) (rest:=nc a m fs R d1 d2 w) ok ex (Ah _) (Ai _) (uu xI _) (n:=1) (by decide) nd .refl (λa=>zL) (λs=>A_ λso=>⟨rfl,_,.t1,?_⟩) (λO O O h=>h.elim))));refine WS.EH True (λy2=>⟨[some (.ref a),some (.ref s),y2,none],mX s so::.ba so (pH m)::nc a m fs R d1 d2 w⟩) (λQ w2=>?_) λO y2=>?_
 ·cases m with
  |none=>exact .qy (.cmp (.attr ok (.nm ok J .here) m2 (.head _) (zK _)) .none (.ru rfl)) (λh=>nomatch h) (λO=>.nil (.nil (w2 trivial none)))
  |some t=>
   have ht:=(hS.m t rfl).1;have hW:(pH (some t)).length=1+(mK (qu t).length).length+(qu t).length:=by rw[show pH (some t)=qJ 0 (qu t)from rfl,qJ,bZ,aa];exact Bl
   have hN:(qu t).length=(mK (t.flatMap u8).length).length+(t.flatMap u8).length:=by rw[aa]
   refine .qy (.cmp (.attr ok (.nm ok J .here) m2 (.head _) (zK _)) .none (.ru rfl)) (λO=>?_) (λh=>nomatch h);refine .st ok he J (.fn ok he AF Aj (.nil (Op.AY (nb:=true) (as:=[]) (rest:=mX s so::.ba so []::nc a (some t) fs R d1 d2 w) ok ex (Ah _) (Ai _) (uu xI _) (n:=1) (by decide) nd .refl (λa=>zL) (λp=>A_ λpo=>⟨rfl,_,.t2,?_⟩) (λO O O h=>h.elim))));refine .ex he (.me ok (.nm ok J .t2) (.head _) HE rfl (.one (.attr ok (.nm ok J .here) (.tail _ m3) (.head _) (zK _)) (.nil (mG.op (as:=[mX p po,.ba po []]) (rest:=mX s so::.ba so []::nc a (some t) fs R d1 d2 w) (Gr (Ml ht) (hS.m t rfl).2 (XD hsz hW hN)) ok ex (by decide) .refl (nF ⟨rfl,?_⟩) (λO O h=>h.elim) nd))));exact .ex he (.fn ok he CD zI.keep (.one (.nm ok J .t1) (.one (.gi ok he IJ) (.one (.nm ok J .t2) (.nil (mG.op (as:=[mX s so,.ba so [],mX p po,.ba po (qu t)]) (rest:=nc a (some t) fs R d1 d2 w) (Cr (s:=0) (by decide) (by show 0+(pH (some t)).length<=_;exact XC hsz hW hN)) ok ex (by decide) (.pick .t2 (.pick .t2 .refl)) (nF ⟨rfl,.forget (as'':=mX s so::.ba so (pH (some t))::nc a (some t) fs R d1 d2 w) (.pick .head (.pick .head (.skip (.skip .refl)))) (.nil (.nil (w2 trivial _)))⟩) (λO O h=>h.elim) nd))))))
 have Ox:(ents fs).length=fs.length:=ah ..;have Nk:fs.length<=16000:=hS.fs.1;refine WS.EH (∀p∈fs,0<=p.1) (λy2=>⟨[some (.ref a),some (.ref s),y2,none],mX s so::.ba so (pH m++qA fs)::nc a m fs R d1 d2 w⟩) (λQ w2=>?_) λhF y2=>?_
 ·refine .t_ (.cmp (.pC ok he qk (.attr ok (.nm ok J .here) m2 m1 (wq _)) (.Bw m3 (Mm Ox Nk))) .int .gt) (λh=>?_) (λh=>?_)
  rotate_left
  ·have e:fs=[]:=eS (Mn Ox Nk h);rw[qA,if_pos e,aW]at w2;exact .nil (.nil (w2 (λp hp=>by rw[e]at hp;cases hp) y2))
  have eW:qA fs=qJ 1 (ql fs):=if_neg λe=>by rw[e]at h;exact absurd h (by decide)
  have hW:(qA fs).length=1+(mK (ql fs).length).length+(ql fs).length:=by rw[eW,qJ,bZ,aa];exact Bl
  refine .st ok he J (.fn ok he AF Aj (.nil (Op.AY (nb:=true) (as:=[]) (rest:=mX s so::.ba so (pH m)::nc a m fs R d1 d2 w) ok ex (Ah _) (Ai _) (uu xI _) (n:=1) (by decide) nd .refl (λa=>zL) (λp=>A_ λpo=>⟨rfl,_,.t2,?_⟩) (λO O O h=>h.elim))));refine .ex he (.fn ok he Hw Cs.keep (.one (.nm ok J .t2) (.one (.attr ok (.nm ok J .here) (.tail _ m3) m1 (wq _)) (.nil (mG.op (as:=[mX p po,.ba po [],.mO d1 (ents fs)]) (rest:=mX s so::.ba so (pH m)::oS a (oq m) d1 d2 w::.mO d2 (m9 R)::nz R) (Gs hS.fs (by show 0+(ql fs).length<=_;exact XB hsz hW)) ok ex (by decide) (.pick .head (.pick .head (.pick (.tail .t2) .refl))) (p_ λh0=>⟨rfl,?_⟩) (si λy b' h hX=>qx _ _ ?_) nd)))))
  rotate_left
  ·exact⟨nc a m fs R d1 d2 w,.pick (.tail (.tail (.tail .t2))) (.pick .t2 (.skip (.skip (.skip (.skip .refl))))),λhk=>h.elim λq h=>absurd (hk.1 q h.1) (df.mpr h.2),hX,rfl⟩
  refine .ex he (.fn ok he CD zI.keep (.one (.nm ok J .t1) (.one (.gi ok he Jk) (.one (.nm ok J .t2) (.nil (mG.op (as:=[mX s so,.ba so (pH m),mX p po,.ba po (ql fs)]) (rest:=nc a m fs R d1 d2 w) (Cr (s:=1) (by decide) (by rw[<-eW];exact XA hsz hW)) ok ex (by decide) (.pick (.tail .t2) (.pick (.tail .t2) (.pick .head (.pick .head (.pick .t1 (.pick .head .refl)))))) (nF ⟨rfl,?_⟩) (λO O h=>h.elim) nd))))));rw[<-eW];exact .forget (as'':=mX s so::.ba so (pH m++qA fs)::nc a m fs R d1 d2 w) (.pick .head (.pick .head (.skip (.skip .refl)))) (.nil (.nil (w2 h0 _)))
 have ue:(m9 R).length=(mJ R).length:=by rw[m9,mJ,ah,ah]
 have u4:(mJ R).length<=16000:=hS.rl;have Oy:(m9 R).map (λO=>O.1)=(mJ R).map (λO=>O.1):=by rw[m9,mJ,aN,aN];rfl
 have Oz:(mJ R).map (λO=>O.1)=R.map (λO=>O.1):=by rw[mJ,aN];rfl
 refine WS.EH (∀r∈mJ R,0<=r.1/\∀p∈r.2,0<=p.1) (λy:Option AV×Option AV=>⟨[some (.ref a),some (.ref s),y.1,y.2],mX s so::.ba so (qY ⟨m,fs,mJ R⟩)::nc a m fs R d1 d2 w⟩) (λQ w2=>?_) λhR y=>
  .ret (.forget (.ev (.E7 ok he rx (.attr ok (.nm ok J .t1) (.head _) (.head _) (uj _)) (.Ku m1 (Xz hS.sz))) ⟨nc a m fs R d1 d2 w,.skip (.skip .refl),q _ _ ⟨⟨hF,hR⟩,rfl,rfl⟩⟩))
 refine .t_ (.cmp (.pC ok he qk (.attr ok (.nm ok J .here) m2 m2 (sJ _)) (.Bw (.tail _ m3) (Mm ue u4))) .int .gt) (λh=>?_) (λh=>?_)
 rotate_left
 ·have e:mJ R=[]:=eS (Mn ue u4 h);rw[qY,xA,if_pos e,aW]at w2;exact .nil (.nil (w2 (λp hp=>by rw[e]at hp;cases hp) (y2,none)))
 have eW:xA (mJ R)=qJ 2 (sE (mJ R)):=if_neg λe=>by rw[ue,e]at h;exact absurd h (by decide)
 have hW:(xA (mJ R)).length=1+(mK (sE (mJ R)).length).length+(sE (mJ R)).length:=by rw[eW,qJ,bZ,aa];exact Bl
 have hB:(sE (mJ R)).length=(mK (mJ R).length).length+((oG ((mJ R).map (λO=>O.1))).flatMap (qX (mJ R))).length:=by rw[sE,aa]
 refine .st ok he J (.fn ok he AF Aj (.nil (Op.AY (nb:=true) (as:=[]) (rest:=mX s so::.ba so (pH m++qA fs)::nc a m fs R d1 d2 w) ok ex (Ah _) (Ai _) (uu xI _) (n:=1) (by decide) nd .refl (λa=>zL) (λp=>A_ λpo=>⟨rfl,_,.t2,?_⟩) (λO O O h=>h.elim))));refine .ex he (.me ok (.nm ok J .t2) (.head _) HD rfl (.one (.pC ok he qk (.attr ok (.nm ok J .here) (.tail _ m3) m2 (sJ _)) (.Bw (.tail _ (.tail _ (.tail _ m3))) (Xy ue u4 h))) (.nil (mG.op (as:=[mX p po,.ba po []]) (rest:=mX s so::.ba so (pH m++qA fs)::nc a m fs R d1 d2 w) (Gq (by rw[ue];show 0+_<=_;rw[bg];exact Xx hsz hW hB)) ok ex (by decide) .refl (p_ λO=>⟨rfl,?_⟩) (λy as' hy=>(Xw ue u4 h hy.1).elim) nd))));rw[ue,bg,kS];have wc:∀i,i∈oG ((mJ R).map (λO=>O.1))↔i∈R.map (λO=>O.1):=λi=>by rw[(rU _).mem_iff,Oz]
 generalize B7:oG ((mJ R).map (λO=>O.1))=ks at wc hB;refine .w_ ex.own (λn it σ=>uY λ(mP la:aA) (t:Nat) (y3:Option AV)=>BZ (it=.ref mP) (n=ks.length-t) (t<=ks.length) (∀i∈ks.take t,LC R i) (σ=⟨[some (.ref a),some (.ref s),some (.ref p),y3],.is mP (pP la t)::.lst la (ks.map .int)::mX p po::.ba po (mK (mJ R).length++(ks.take t).flatMap (qX (mJ R)))::mX s so::.ba so (pH m++qA fs)::nc a m fs R d1 d2 w⟩)) ks.length
  (λP w=>.bf ok he Ac (.one (.attr ok (.nm ok J .here) (.tail _ m3) m2 (sJ _)) (.nil (.Af ok (.tail _ (.tail _ (.tail _ m3))) (Xv ue u4 h) (by rw[ue,Oy];exact hS.rk) λla=>?_)))) ?_
 ·rw[Oy,B7];exact .list (.head _) λit=>w _ _ ⟨it,la,0,none,rfl,rfl,bB _,(λO h=>nomatch h),by rw[k7,cD,aW];rfl⟩
 intro n it σ Q w3 h3;refine cps λV V'=>?_;obtain⟨mP,la,t,y3,e,en,ht,hp,e'⟩:=h3;refine V' ?_;rw[e,e'];refine(g_ t ks.length).elim (λnu=>?_) λnu=>?_
 ·refine⟨some (.int ks[t]),_,.list (ys:=ks.map .int) m1 .head (by rw[bc,aw nu];rfl),_,.name ok J .t3,?_⟩;have sf:=(wc _).mp (bL nu);have ud:ks.take (t+1)=ks.take t++[ks[t]]:=by rw[bD,aw nu];rfl
  have xi:=Jl (qX (mJ R)) ud;generalize ks[t]=i at sf ud xi;obtain⟨R1,r,R2,eR,er,hg,B8⟩:=Jm sf;have xj:qX (mJ R) i=mK i.toNat++ql r.2.2:=by rw[qX,B8]
  have tw:(qX (mJ R) i).length=(mK i.toNat).length+(ql r.2.2).length:=by rw[xj,aa]
  have xB:(r.1,r.2.2)∈mJ R:=aZ (f:=λr:Row=>(r.1,r.2.2)) (eR▸aS _ (.head _));have Fo:nz R=nz R2++.mO r.2.1 (ents r.2.2)::nz R1:=by rw[eR];exact Rt R1 R2 r
  refine .ex he (.me ok (.nm ok J .t2) m2 xH rfl (.one (.nm ok J .t3) (.nil (mG.op (as:=[mX p po,.ba po (mK (mJ R).length++(ks.take t).flatMap (qX (mJ R)))]) (rest:=.is mP (pP la (t+1))::.lst la (ks.map .int)::mX s so::.ba so (pH m++qA fs)::nc a m fs R d1 d2 w) (xG (by rw[aa];exact Xu hsz hW hB xi tw)) ok ex (by decide) (.pick .t2 (.pick .t2 .refl)) (p_ λh0=>⟨rfl,?_⟩) (t5 λy h hX=>qx _ _ ?_) nd))))
  rotate_left
  ·exact⟨nc a m fs R d1 d2 w,.skip (.skip (.skip (.skip (.skip (.skip .refl))))),λhk=>Xt er h (hk.2 _ xB).1,hX,rfl⟩
  refine .forget (as'':=.is mP (pP la (t+1))::.lst la (ks.map .int)::mX p po::.ba po (mK (mJ R).length++(ks.take t).flatMap (qX (mJ R))++mK i.toNat)::mX s so::.ba so (pH m++qA fs)::nc a m fs R d1 d2 w) (.pick .t2 (.pick .t2 .refl)) ?_;refine .ex he (.fn ok he Hw Cs.keep (.one (.nm ok J .t2) (.one (.item (.attr ok (.nm ok J .here) (.tail _ (.tail _ (.tail _ m3))) m2 (sJ _)) (.nm ok J .t3) (.mO (.tail _ (.tail _ (.tail _ (.tail _ (.tail _ m3))))) hg)) (.nil (mG.op (as:=[mX p po,.ba po (mK (mJ R).length++(ks.take t).flatMap (qX (mJ R))++mK i.toNat),.mO r.2.1 (ents r.2.2)]) (rest:=.is mP (pP la (t+1))::.lst la (ks.map .int)::mX s so::.ba so (pH m++qA fs)::oS a (oq m) d1 d2 w::.mO d1 (ents fs)::.mO d2 (m9 R)::(nz R2++nz R1)) (Gs (hS.rs _ xB) (by rw[aa,aa];exact Xs hsz hW hB xi tw)) ok ex (by decide) (Arr.acR Fo) (p_ λhl0=>⟨rfl,?_⟩) (si λy b' h hX=>qx _ _ ?_) nd)))))
  rotate_left
  ·exact⟨nc a m fs R d1 d2 w,.trans (Arr.Nj Fo) (.skip (.skip (.skip (.skip (.skip (.skip .refl)))))),λhk=>h.elim λq h=>absurd ((hk.2 _ xB).2 q h.1) (df.mpr h.2),hX,rfl⟩
  refine .forget (Arr.Nj Fo) (.nil (w3 _ _ ⟨ks.length-(t+1),by rw[en];exact Xh rfl nu,mP,la,t+1,some (.int i),e,rfl,nu,λj hj=>?_,?_⟩))
  ·rw[ud]at hj;exact(aH.mp hj).elim (hp j) λe=>ao.mp e▸⟨h0,by rw[B8];exact hl0⟩
  ·rw[ud,bu,bx,cD,aW,xj,aj,aj]
 ·refine⟨none,_,.wJ (ys:=ks.map .int) ok m1 .head (b7 (by rw[ah];exact nu)),?_⟩;rw[b6 nu]at hp ⊢;rw[show mK (mJ R).length++ks.flatMap (qX (mJ R))=sE (mJ R) by rw[sE,B7]];refine .ex he (.fn ok he CD zI.keep (.one (.nm ok J .t1) (.one (.gi ok he IK) (.one (.nm ok J .t2) (.nil (mG.op (as:=[mX s so,.ba so (pH m++qA fs),mX p po,.ba po (sE (mJ R))]) (rest:=nc a m fs R d1 d2 w) (Cr (s:=2) (by decide) (by rw[<-eW,aa];exact Xq hsz hW hB)) ok ex (by decide) (.pick (.tail .t2) (.pick (.tail .t2) (.pick .t1 (.pick .t1 (.skip .refl))))) (nF ⟨rfl,?_⟩) (λO O h=>h.elim) nd))))));rw[<-eW];refine .forget (as'':=mX s so::.ba so (qY ⟨m,fs,mJ R⟩)::nc a m fs R d1 d2 w) (.pick .head (.pick .head (.skip (.skip .refl)))) (.nil (.nil (w2 (λr hr=>?_) (_,_))));have hk:=hp r.1 ((wc _).mpr (by rw[<-Oz];exact aZ hr));rw[LC,zY hS.nd r hr]at hk;exact hk
noncomputable abbrev uy:=af "tape"
noncomputable abbrev nO(a:aA)(l:List Int):mH:=.lst a (l.map .int)
theorem Ru{a:aA}{l:List Int}(hz:l.length<=63):Fn (.ref 368) 1 [.ref a] [nO a l] (λav as'=>∃i l',av=.int i/\l'.length<=63/\as'=[nO a l']) nE:=by
 refine mG.enter Gj id (λs us hl w X=>pF hl λa=>aC rfl) (λO O h=>h) ?_;intro x E ok he J ex nd;refine .ret (.ite (.yr ok (.ev (.nm ok J .here) ⟨_,_,rfl,(.head _),λb=>?_⟩)));rcases jI l with rfl|⟨l',i,rfl⟩
 ·exact .forget (.ev .int ⟨_,.n8,0,[],rfl,hz,rfl⟩)
 ·rw[dK,show nO a (l'++[i])=.lst a (l'.map .int++[.int i]) by simp[nO]];rw[show decide (k_ AV.int (l'++[i])≠[])=true by simp];simp only[dK,aa,eG]at hz;refine .forget (.nX ok (.nm ok J .here) (.lst jj PySem.F.type_list_pop m1) .builtin (.nil (.pop (xs:=l'.map .int) (.tail .head) (by rw[ah];exact XF hz) ⟨_,.n8,i,l',rfl,XE hz,rfl⟩)))
theorem Tr.is{c:Cx}{σ:Sg}{e:cI}{b b':Bool}(h:Tr c σ e b)(q:b=b'):Tr c σ e b':=q▸h
noncomputable def vn:List Nat:=[97,127,128,2047,2048,55295,57344,65535,65536,1114111,0,233]
theorem QI:∀k:L.Fi 12,(vn.getD k 0<55296\/(57344<=vn.getD k 0/\vn.getD k 0<1114112)):=by decide
theorem Sx{k:Nat}(h:k<12):(vn.map λp=>AV.int (p:Nat))[k]?=some (.int (vn.getD k 0:Nat)):=by have:k<vn.length:=h;rw[bc,cw,aw this];rfl
theorem qg(n:Int){b:Int}(h:0<b):0<=n.fmod b/\n.fmod b<b:=⟨Int.fmod_nonneg_of_pos _ h,Int.fmod_lt_of_pos _ h⟩
theorem QJ{n:Int}:Fn (.ref 375) 1 [.int n] [] (λav as'=>∃p:Nat,isSign p/\av=.int p/\as'=[]) nE:=by
 refine mG.enter F7 id (λs us hl w X=>pF hl λa=>aC rfl) (λO O h=>h) ?_;intro x E ok he J ex nd;refine(qg n (b:=16) (by decide)).elim λh0 h1=>?_;refine .st ok he J (.list (.one .int (.one .int (.one .int (.one .int (.one .int (.one .int (.one .int (.one .int (.one .int (.one .int (.one .int (.one .int (.nil ⟨by decide,λa=>⟨_,.t1,?_⟩⟩))))))))))))));refine .n3 (.cmp (.binop (.nm ok J .here) .int (.mod (by decide))) .int .lt) (λh=>?_) (λh=>?_)
 ·have h:=of_decide_eq_true h;refine .ret (.forget (.ev (.item (.nm ok J .t1) (.binop (.nm ok J .here) .int (.mod (by decide))) (.list (l:=vn.map λp=>AV.int (p:Nat)) (.head _) h0 (x32 h0 h1 h) (Sx (Mo h0 h1 h)))) ⟨_,.n8,_,QI ⟨(n.fmod 16).toNat,Mo h0 h1 h⟩,rfl,rfl⟩))
 obtain⟨h2,h3⟩:=qg (n.fdiv 16*7919) (b:=1112064) (by decide);refine .lt ok J (.binop (.binop (.binop (.nm ok J .here) .int (.w8 (by decide) (by decide))) .int (.mulR (by decide) (by decide))) .int (.mod (by decide))) .t2 ?_;generalize(n.fdiv 16*7919).fmod 1112064=p at h2 h3;by_cases hp:p<55296
 ·refine .ret (.forget (.ev (.yH (.is (.cmp (.nm ok J .t2) .int .lt) (decide_eq_true hp)) (.nm ok J .t2)) ⟨_,.n8,p.toNat,.inl (XI h2 h3 hp),?_,rfl⟩));rw[gB h2]
 ·refine .ret (.forget (.ev (.yI (.is (.cmp (.nm ok J .t2) .int .lt) (decide_eq_false hp)) (.binop (.nm ok J .t2) .int .add)) ⟨_,.n8,(p+2048).toNat,.inr (XH h2 h3 hp),?_,rfl⟩));rw[gB (XG h2 h3 hp)]
section
section
variable {c:Cx}{σ:Sg}{d:Nat}{E:Ex}{ε:Env}{ns:List Str}
theorem WE.B9(ok:Ok c d)(he:c.env=ε)(ex:Exits c E XX)(hT:Ev c σ e (.ref a))(D:nt (nO a l) σ.as oM)(hz:l.length<=63)(q:∀i l',l'.length<=63->Q (.int i) ⟨σ.lo,nO a l'::oM⟩)
  (hd:autoParam (1<=d) aD)(hx:autoParam (ε.kindOf (af "_law_next")=some .globalImplicit) aR)(hs:autoParam (∀env,aU [e] env=(false,aT e env)::aU [] env) aI)
  (hv:autoParam (∀env,aT (.Call (.Name (af "_law_next") np) [e] [] pos) env=(do cA pos (<-aT (.Name (af "_law_next") np) env) [] (cM pos (aU [e] env)) (dF pos (cF [] env)))) aI):
  WE c E σ (aT (.Call (.Name (af "_law_next") np) [e] [] pos) c.env) Q:=by
 refine .fn ok he Qh Gj.keep (.one hT (.nil (mG.op (rest:=oM) (Ru hz) ok ex hd (.pick D .refl) ?_ (λO O h=>h.elim))) hs) hx (hv:=hv) (hp:=by rw[hs];rfl);rintro av as' ⟨i,l',rfl,n7,rfl⟩;exact q i l' n7
theorem WE.pnt(ok:Ok c d)(he:c.env=ε)(ex:Exits c E XX)(h:WE c E σ (aT e c.env) λx mF=>∃i,x=.int i/\∀p:Nat,isSign p->Q (.int p) mF)
  (hd:autoParam (1<=d) aD)(hx:autoParam (ε.kindOf (af "_law_point")=some .globalImplicit) aR)(hs:autoParam (∀env,aU [e] env=(false,aT e env)::aU [] env) aI)
  (hv:autoParam (∀env,aT (.Call (.Name (af "_law_point") np) [e] [] pos) env=(do cA pos (<-aT (.Name (af "_law_point") np) env) [] (cM pos (aU [e] env)) (dF pos (cF [] env)))) aI):
  WE c E σ (aT (.Call (.Name (af "_law_point") np) [e] [] pos) c.env) Q:=by
 refine .fn ok he PK F7.keep (.cons (h.mono ?_) hs) hx (hv:=hv) (hp:=by rw[hs];rfl);rintro x mF ⟨i,rfl,q⟩;refine .nil (mG.op (as:=[]) (rest:=mF.as) QJ ok ex hd .refl ?_ (λO O h=>h.elim));refine EI λp hp=>?_;exact q p hp
end
theorem IQ(hz:l.length<=63):Fn (.ref 382) 2 [.ref a] [nO a l] (λav as'=>∃t l',(∀p∈t,isSign p)/\t.length<=2/\av=.str t/\l'.length<=63/\as'=[nO a l']) nE:=by
 refine mG.enter Ct id (λs us hl w X=>pF hl λa=>aC rfl) (λO O h=>h) ?_;intro x E ok he J ex nd;refine .st ok he J (.list (.nil ⟨by decide,λsg=>⟨_,.t1,?_⟩⟩));refine .M9 ex.own (λn it σ=>Om λ(mP r:aA) (x u:Int) (m:Nat) (t:List Nat) (l:List Int) (y2:Option AV)=>uZ (it=.ref mP) (∀p∈t,isSign p) (m<=n) (t.length+m<=2) (l.length<=63) (σ=⟨[some (.ref a),some (.ref sg),y2],[.is mP (nQ x m 1),.is r (nP 0 u 1),.lst sg (t.map λp=>.str [p]),nO a l]⟩)) 2 ?_ ?_
 ·refine .forget (.bt ok he sM (.cons (.binop (.binop (.B9 ok he ex (.nm ok J .here) .t1 hz λi l' n7=>.ev .int (mQ.nI .add (.ev .int (mQ.nI (.mod (by decide)) (.nil (.uw λr=>?_))))))))));refine(qg (i+1) (b:=3) (by decide)).elim λh0 h1=>?_;generalize(i+1).fmod 3=u at h0 h1;obtain⟨m,rfl⟩:=bF h0;refine⟨[.is r (nP 0 m 1),.lst sg [],nO a l'],.pick .head (.pick .t1 (.pick .head .nil)),.range (.head _) (small_one (by decide) (by decide) (XN h0 h1) (XM h0 h1)) λit=>?_⟩;rw[rangeSize_nat];exact⟨it,r,0,m,m,[],l',none,rfl,by simp,Mt h0 h1,by simp;exact Mt h0 h1,n7,rfl⟩
 ·rintro n it σ ⟨mP,r,x,u,m,t,l,y2,rfl,hs,hm,ht,hz,rfl⟩;cases m with
  |zero=>refine⟨none,_,.sL ok .head (by simp),?_⟩;refine .ret (.forget (.nX ok .str .join .builtin (.one (.nm ok J .t1) (.nil (.join m1 (XK ht) ⟨_,.pick .t2 .nil,t,l,hs,Ms ht,rfl,hz,rfl⟩)))))
  |succ m=>
   refine⟨some (.int x),_,.range ok .head (tS),_,.name ok J .t2,?_⟩;refine .ex he (.nX ok (.nm ok J .t1) (.append m2) .builtin (.cons (.bf ok he D6 (.cons (.pnt ok he ex (.B9 ok he ex (.nm ok J .here) (.tail .t2) hz λi l' n7=>⟨i,rfl,λp hp=>.nil (oB.op (.chr (uz) (by unfold isSign at hp;exact XJ hp)) (.nil (.append (.tail (.tail (.tail .head))) (by simp;exact Mr ht) ⟨rfl,.forget (.pick .t1 (.pick .t1 (.pick .t1 (.pick .head .nil)))) (.nil ⟨m,Mq hm,mP,r,x+1,u,m,t++[p],l',some (.int x),rfl,?_,bz _,by simp;exact Mp ht,n7,?_⟩)⟩)))⟩))))))
   ·intro q hq;refine(aH.mp hq).elim (λh=>?_) λh=>?_
    ·exact hs q h
    ·obtain rfl:=ao.mp h;exact hp
   ·simp
end
theorem pv.it(h:pv c σ x i z)(q:Q z σ):Item c E σ x i Q:=by intro fr xs vs vx vi s S;exact h.go _ fr xs vs vx vi s _ S λv s' S'=>⟨z,σ,S',q⟩
noncomputable def oH(k:Nat)(i:Int):Prop:=-300<=i/\i<=34359738371+200*k
noncomputable def yS:List Int:=[4294967295,4294967296,-1,34359738371,4294967294,128,16384,-300]
theorem TR(h:k<8):∃i,(yS.map .int)[k]?=some (AV.int i)/\-300<=i/\i<=34359738371:=by
 have hk:k<yS.length:=h;refine⟨yS[k],by rw[bc,aw hk];rfl,?_⟩;have:∀i∈yS,-300<=i/\i<=34359738371:=by decide
 exact this _ (bL hk)
theorem Jn(h:k<=k')(q:oH k i):oH k' i:=⟨q.1,d8 q.2 (Int.add_le_add_left (iG (cR.mpr h) (by decide)) _)⟩
theorem H_(hz:l.length<=63)(hl:oH k last):Fn (.ref 389) 2 [.ref a,.int last] [nO a l] (λav as'=>∃i l',av=.int i/\oH (k+1) i/\l'.length<=63/\as'=[nO a l']) nE:=by
 refine mG.enter Co id (λs us hl w X=>pY hl λa b=>aC rfl) (λO O h=>h) ?_;intro x E ok he J ex nd;refine WS.gen λQ q=>?_;have q0:∀i l' {lo},oH (k+1) i->l'.length<=63->Q (.ret (.int i)) ⟨lo,[nO a l']⟩:=λi l' O h h'=>q _ _ ⟨i,l',rfl,h,h',rfl⟩;refine .st ok he J (.B9 ok he ex (.nm ok J .here) .head hz λn l' n7=>⟨_,.t2,?_⟩);have hA:=qg (n.fdiv 8) (b:=200) (by decide);have hB:=qg (n.fdiv 8) (b:=300) (by decide);have hC:=qg (n.fdiv 8) (b:=8) (by decide);refine .n3 (.cmp (.binop (.nm ok J .t2) .int (.mod (by decide))) .int .lt) (λO=>?_) (λO=>?_)
 ·exact .ret (.ev (.binop (.binop (.nm ok J .t1) .int .add) (.binop (.binop (.nm ok J .t2) .int (.w8 (by decide) (by decide))) .int (.mod (by decide))) .add) (q0 _ _ (XZ hl hA.1 hA.2) n7))
 refine .n3 (.cmp (.binop (.nm ok J .t2) .int (.mod (by decide))) .int .eq) (λO=>?_) (λO=>?_)
 ·exact .ret (.ev (.binop (.binop (.nm ok J .t2) .int (.w8 (by decide) (by decide))) .int (.mod (by decide))) (q0 _ _ (XY hB.1 hB.2) n7))
 refine .n3 (.cmp (.binop (.nm ok J .t2) .int (.mod (by decide))) .int .eq) (λO=>?_) (λO=>?_)
 ·exact .ret (.ev (.nm ok J .t1) (q0 _ _ (Jn (fL k) hl) n7))
 refine(TR (k:=((n.fdiv 8).fmod 8).toNat) (XW hC.1 hC.2)).elim λi hi=>?_;refine .ret (.forget (.item (.list (.one .int (.one .int (.one .neg (.one .int (.one .int (.one .int (.one .int (.one .neg (.nil ⟨l9 rfl,λa=>.ev (.binop (.binop (.nm ok J .t2) .int (.w8 (by decide) (by decide))) .int (.mod (by decide))) ?_⟩))))))))))));exact pv.it (.list (l:=yS.map .int) (.head _) hC.1 (x33 hC.1 hC.2) hi.1) ⟨_,.n8,q0 _ _ (XU hi.2.1 hi.2.2) n7⟩
noncomputable def oV(l:List (Int×List Nat)):Prop:=l.length<=3/\∀p∈l,oH 3 p.1/\(∀q∈p.2,isSign q)/\p.2.length<=2
theorem IS(hz:l.length<=63)(h0:0<=many)(h3:many<=3):Fn (.ref 396) 4 [.ref a,.int many] [nO a l] (λav as'=>∃s t l',av=.ref s/\oV t/\l'.length<=63/\as'=[.lst s (t.map nJ),nO a l']) nE:=by
 refine mG.enter Cu id (λs us hl w X=>pY hl λa b=>aC rfl) (λO O h=>h) ?_;intro x E ok he J ex nd;refine Exits.gen ex.drop λX qx ex=>WS.gen λQ q=>?_;refine(bF h0).elim λm e8=>?_;subst e8;refine .us ok he J (.tuple (.cons (.list (.nil ⟨l9 rfl,λs=>.one .neg (.nil ⟨l9 rfl,?_⟩)⟩))));refine⟨_,_,rfl,rfl,.cons .t3 (.cons .t2 .nil),?_⟩;refine .vN ex.own (λn it σ=>Xs7 λ(mP r:aA) (x last:Int) (t:List (Int×List Nat)) (l:List Int) (y:Option AV)=>uZ (it=.ref mP) (t.length+n<=3) (∀p∈t,oH 3 p.1/\(∀q∈p.2,isSign q)/\p.2.length<=2) (l.length<=63) (oH t.length last) (σ=⟨[some (.ref a),some (.int m),some (.ref s),some (.int last),y],[.is mP (nQ x n 1),.is r (nP 0 m 1),.lst s (t.map nJ),nO a l]⟩)) m (λP w=>?_) (λit σ W h=>?_) λn it σ W w h=>?_
 ·refine .bt ok he sM (.one (.nm ok J .t1) (.nil (.uw λr=>?_)));refine .range (.head _) (small_one (by decide) (by decide) (XT h0 h3) (XS h0 h3)) λit=>?_;rw[rangeSize_nat];exact w _ _ ⟨it,r,0,-1,[],l,none,rfl,(dH m).symm▸XR h0 h3,(λO h=>nomatch h),hz,⟨by decide,by decide⟩,rfl⟩
 ·obtain⟨mP,r,x,last,t,l,y,eq,ht,hs,hz,hl,es⟩:=h;rw[eq,es];exact⟨none,_,.sL ok .head (tT),.ret (.forget (.ev (.nm ok J .t2) ⟨_,.pick .t1 (.pick .t1 .nil),q _ _ ⟨s,t,l,rfl,⟨XQ ht,hs⟩,hz,rfl⟩⟩))⟩
 obtain⟨mP,r,x,last,t,l,y,eq,ht,hs,hz,hl,es⟩:=h;rw[eq,es];refine⟨some (.int x),_,.range ok .head (tS),_,.name ok J .t4,?_⟩;rw[show((n+1:Nat):Int)-1=n by exact uA];refine .st ok he J (.fn ok he G8 Co.keep (.one (.nm ok J .here) (.one (.nm ok J .t3) (.nil (mG.op (rest:=[.is mP (nQ (x+1) n 1),.is r (nP 0 m 1),.lst s (t.map nJ)]) (H_ hz hl) ok ex (by decide) (.pick (.tail .t2) .refl) (λav as' h=>?_) (λO O h=>h.elim))))));refine cps λV V'=>?_;obtain⟨i,l',rfl,hi,n7,rfl⟩:=h;refine V' ⟨_,.t3,?_⟩;refine .ex he (.nX ok (.nm ok J .t2) (.append m3) .builtin (.cons (.tuple (.one (.nm ok J .t3) (.cons (.fn ok he Hx Ct.keep (.one (.nm ok J .here) (.nil (mG.op (rest:=[.is mP (nQ (x+1) n 1),.is r (nP 0 m 1),.lst s (t.map nJ)]) (IQ n7) ok ex (by decide) .refl (λav as' h=>?_) (λO O h=>h.elim))))))))));refine cps λV V'=>?_;obtain⟨u,l2,hw,hw2,rfl,rP,rfl⟩:=h;refine V' (.nil ⟨l9 rfl,.nil (.append (.tail (.tail (.tail .head))) (by rw[ah];exact XP ht) ⟨rfl,.forget (.pick .t1 (.pick .t1 (.pick .t1 (.pick .head .nil)))) (.nil (w _ _ ⟨n,pg,mP,r,x+1,i,t++[(i,u)],l2,some (.int x),eq,by rw[aa];exact XO ht,λp hp=>?_,rP,by rw[aa];exact hi,by rw[au];rfl⟩))⟩)⟩);exact(aH.mp hp).elim (hs p) λe=>ao.mp e▸⟨Jn (y7 ht) hi,hw,hw2⟩
noncomputable abbrev tM(p:Int×AV):AV:=.tup [.int p.1,p.2]
noncomputable def sU(l:List (Int×AV)):List (Int×AV):=l.foldl (λf p=>qv f p.1 p.2) []
theorem QK(l:List (Int×AV))(p:Int×AV):sU (l++[p])=qv (sU l) p.1 p.2:=by simp[sU]
theorem Sy(f:List (Int×AV))(i:Int)(v:AV):(qv f i v).length<=f.length+1:=by unfold qv;split<;>simp
theorem Rv(l:List (Int×AV)):∀f:List (Int×AV),(l.foldl (λf p=>qv f p.1 p.2) f).length<=f.length+l.length:=by
 induction l with
 |nil=>intro f;simp
 |cons p l ih=>intro f;have:=ih (qv f p.1 p.2);have:=Sy f p.1 p.2;simp only[f9,bZ];exact X5 (by assumption) this
theorem Rw(l:List (Int×AV)):(sU l).length<=l.length:=by
 have:=Rv l []
 simpa [sU] using this
theorem CP(hz:l.length<=1000):Fn (.ref 403) 1 [.lst (l.map tM)] [] (λav as'=>∃g,av=.ref g/\as'=[.mO g (sU l)]) nE:=by
 refine mG.enter zJ id (λs us hl w X=>pF hl λa=>aC rfl) (λO O h=>h) ?_;intro x E ok he J ex nd;refine .st ok he J (.AW ok λg=>⟨_,.t1,?_⟩);refine .EF ex.own (ι:=Nat×Option AV×Option AV) (λit q=>⟨[some (.lst (l.map tM)),some (.ref g),q.2.1,q.2.2],[.fit it (.lst (l.map tM)) q.1,.mO g (sU (l.take q.1))]⟩) (λn q=>n+q.1=l.length) l.length ?_ ?_
 ·exact .ev (.nm ok J .here) (.ng λit=>⟨it,⟨0,none,none⟩,rfl,rfl,rfl⟩)
 ·rintro n it ⟨i,y2,y3⟩ hi;dsimp only at hi ⊢;cases n with
  |zero=>refine⟨none,_,.vm ok .head (by simp;exact sd hi),?_⟩;rw[b6 (sd hi)];exact .ret (.ev (.nm ok J .t1) ⟨g,rfl,rfl⟩)
  |succ n=>have pL:i<l.length:=rJ hi;have hl:l[i]?=some l[i]:=aw pL;refine⟨some (tM l[i]),_,.ng .head (by rw[bc,hl];rfl),.ng (.head _),_,.tuple ok J (.cons .t2 (.cons .t3 .nil)),?_⟩;have:=Rw (l.take i);rw[bS]at this;refine .sI he (.ev (.nm ok J .t3) ⟨g,_,_,_,(.nm ok J .t1),(.nm ok J .t2),(.tail .head),X4 hz hi this,.nil ⟨n,⟨i+1,some (.int l[i].1),some l[i].2⟩,pg,by dsimp only;exact sZ hi,?_⟩⟩);dsimp only;rw[bD,hl];simp only[iW];rw[QK]
theorem mW{c:Cx}{C:aA}{ε:Env}(he:c.env=ε):(c.cmp sc cl C).env=dT sc cl C ε:=by rw[<-he]
noncomputable def nB(l:List (Int×List Nat)):List (Int×List Nat):=(oG (l.map (λO=>O.1))).map λk=>(k,txt l k)
theorem HG{g:aA}(hz:l.length<=16000)(v9:l.length<64\/(l.map (λO=>O.1)).Pairwise (λO O'=>O<=O')):Fn (.ref 408) 1 [.ref g] [.mO g (ents l)] (λav as'=>av=nR (nB l)/\as'=[.mO g (ents l)]) nE:=by
 refine mG.AA Cj id (λs us hl w X=>?_) (λO O h=>h) ?_
 ·obtain⟨a⟩:=q8 hl;exact⟨aC rfl,rfl⟩
 intro x E ok he J ex nd;have hlen:(oG (l.map (λO=>O.1))).length=l.length:=by rw[wB,ah]
 have hk:(ents l).map (λO=>O.1)=l.map (λO=>O.1):=zX l;refine .ret (.forget (.freeze (.comp ok (λn D C it σ=>uY λ(mP sl:aA) (i:Nat) (f:List (Str×AV))=>ua (it=.ref mP) (n+i=l.length) (σ=⟨[],[.nf C f,.lst D (((nB l).take i).map nJ),.is mP (pP sl i),.lst sl ((oG (l.map (λO=>O.1))).map .int),.nq (x.L+1) (.ref g),.mO g (ents l)]⟩)) l.length (cl:=[(qj,x.L+1)]) (by rw[he];rfl) (by decide +kernel) ?_ ?_)))
 ·refine .bf ok he Ac (.one (.ce ok he (.head _)) (.nil (.Af ok m1 (by simp;exact X3 hz hlen) (by rw[hk];simpa using v9) λsl=>?_)));rw[hk];exact .list (.head _) λit D C=>⟨.list m2,it,sl,0,[],rfl,rfl,rfl⟩
 ·rintro n D C it σ ⟨mP,sl,i,f,rfl,hi,rfl⟩;cases n with
  |zero=>refine⟨none,_,.wJ ok m3 .t2 (by simp;exact Mu hlen hi),f,_,.head,D,_,_,rfl,.head,_,.pick .t2 .nil,?_,rfl⟩;rw[b6 (by rw[nB,ah];exact Mu hlen hi)]
  |succ n=>
   obtain⟨k,Fp⟩:∃k,(oG (l.map (λO=>O.1)))[i]?=some k:=⟨_,aw (X2 hlen hi)⟩;have hm:k∈l.map (λO=>O.1):=(rU _).mem_iff.mp (dX Fp);refine⟨some (.int k),_,.list m3 (.tail (.tail .head)) (by rw[bc,Fp];rfl),true,_,.name,.cv (ok.cmp rfl) (mW he) rfl .head,.nil,?_⟩;refine .tuple (.one (.cv (ok.cmp rfl) (mW he) rfl (.head _) (.head _)) (.one (.item (.ce (ok.cmp rfl) (mW he) (.tail _ m3)) (.cv (ok.cmp rfl) (mW he) rfl (.head _) (.head _)) (.mO (.tail _ (.tail _ m3)) (Ad hm).1)) (.nil ⟨by simp,_,_,(.tail .head),by simp[nB];exact X1 hz hlen hi,n,pg,mP,sl,i+1,[(tF,.int k)],rfl,X0 hlen hi,?_⟩)));rw[bD,show(nB l)[i]?=some (k,txt l k) by rw[nB,bc,Fp];rfl,au]
   rfl
noncomputable abbrev oct(n:Int):UInt8:=n.toNat.toUInt8
theorem LD(n k:Nat):(n:Int).fdiv k=((n/k:Nat):Int):=by rw[dY _ (uz)];simp
theorem Bc(n k:Nat):(n:Int).fmod k=((n%k:Nat):Int):=by rw[jd _ (uz)];simp
theorem xU:∀(n k:Nat),1<=n->k<128^n->(mK k).length<=n
 |0,_,h,_=>by exact Yl h
 |n+1,k,_,h=>by
  by_cases hk:k<128
  ·rw[wz hk];simp
  ·rw[um (Bm hk)];cases n with
   |zero=>simp at h;exact Yk hk h
   |succ n=>have:=xU (n+1) (k/128) (Eh) (by rw[Nat.pow_succ]at h;exact Yj h);simp only[bZ];exact Yi this
theorem Rx{k:Nat}{pad:Int}(hk:(mK k).length<=900)(h0:0<=pad)(h2:pad<=2):Fn (.ref 415) 1 [.int k,.int pad] [] (λav as'=>∃b,av=.bytes b/\as'=[]/\(pad=0->b=mK k)/\b.length<=(mK k).length+2) nE:=by
 refine mG.enter Gk id (λs us hl w X=>pY hl λa b=>aC rfl) (λO O h=>h) ?_;intro x E ok he J ex nd;refine .st ok he J (.list (.nil ⟨by simp,λo=>⟨_,.t2,?_⟩⟩));refine .yf ex.own (λn σ=>∃(l:List Int),ua (∀m∈l,0<=m/\m<256) (l.map oct++mK n=mK k) (σ=⟨[some (.int n),some (.int pad),some (.ref o)],[.lst o (l.map .int)]⟩)) k ⟨[],by simp,rfl,rfl⟩ ?_;rintro n σ ⟨l,hl,hE,rfl⟩;have hlen:l.length+(mK n).length=(mK k).length:=by rw[<-hE];simp
 refine Tr.wt (.cmp (.nm ok J .here) .int .ge) ?_;split
 ·rename_i h
  have h:=of_decide_eq_true h;rw[um (Mg h)]at hE hlen;refine .ex he (.nX ok (.nm ok J .t2) (.append (.head _)) .builtin (.one (.binop .int (.binop (.nm ok J .here) .int (.mod (by decide))) .add) (.nil (.append .head (by simp at hlen ⊢;exact Yh hk hlen) ⟨rfl,?_⟩))));rw[show(128:Int)+(n:Int).fmod 128=((128+n%128:Nat):Int) by rw[show(128:Int)=((128:Nat):Int)from rfl,Bc];exact Yg];refine .lt ok J (.binop (.nm ok J .here) .int (.w8 (by decide) (by decide))) .here (.nil ⟨n/128,Yf h,l++[((128+n%128:Nat):Int)],?_,?_,?_⟩)
  ·intro m hm;rcases aH.mp hm with h|h
   ·exact hl m h
   ·obtain rfl:=ao.mp h;exact Ye
  ·rw[<-hE,au,aj,fc 128 (n%128)];rfl
  ·rw[show(n:Int).fdiv 128=((n/128:Nat):Int)from LD n 128];simp
 ·rename_i h
  have h:=of_decide_eq_false (ey.mpr h);rw[wz (Mf h)]at hE hlen;simp only[eG]at hlen;refine .n3 (.cmp (.nm ok J .t1) .int .eq) (λh=>?_) (λh=>?_)
  ·refine .ret (.forget (.bt ok he rx (.cons (.binop (.ev (.nm ok J .t2) (.list (.one (.nm ok J .here) (.nil ⟨by simp,λl2=>.rC (xs:=l.map .int) (ys:=[.int n]) m1 (.head _) (by simp;exact Eg hk hlen) λl3=>.nil (.ux ok (l:=l++[(n:Int)]) ?_ ?_ (by simp;exact Eg hk hlen) ⟨[],.nil,_,rfl,rfl,λO=>?_,?_⟩)⟩))))))))
   ·rw[au];exact(.head _)
   ·intro m hm;rcases aH.mp hm with h|h
    ·exact hl m h
    ·obtain rfl:=ao.mp h;exact Yd (by assumption)
   ·rw[<-hE];simp
   ·simp;exact Yc hlen
  ·have h:=of_decide_eq_false h;refine .ret (.forget (.bt ok he rx (.cons (.binop (.binop (.binop (.ev (.nm ok J .t2) ?_)))))));refine .list (.one (.binop .int (.nm ok J .here) .add) (.nil ⟨by simp,λl2=>?_⟩));refine .rC (xs:=l.map .int) (ys:=[.int (128+n)]) m1 (.head _) (by simp;exact Eg hk hlen) λl3=>?_;refine .binop (.list (.one .int (.nil ⟨by simp,λl4=>.ev (.binop (.nm ok J .t1) .int .sub) ?_⟩)));refine .mulL (.head _) (Yb h0 h2 h) (Ya h0 h2) λl5=>?_;refine .rC (xs:=l.map .int++[.int (128+n)]) (ys:=cB (pad-1).toNat (.int 128)) m2 (.head _) (by simp;exact X_ hk h0 h2 hlen) λl6=>?_;refine .list (.one .int (.nil ⟨by simp,λl7=>?_⟩));refine .rC (xs:=l.map .int++[.int (128+n)]++cB (pad-1).toNat (.int 128)) (ys:=[.int 0]) m1 (.head _) (by simp;exact X9 hk h0 h2 hlen) λl8=>?_;refine .nil (.ux ok (l:=l++[(128+n:Int)]++cB (pad-1).toNat 128++[0]) ?_ ?_ (by simp;exact X8 hk h0 h2 hlen) ⟨[],.nil,_,rfl,rfl,λe=>absurd e h,?_⟩)
   ·simp only[au,List.map_replicate];exact(.head _)
   ·intro m hm;simp only[aH,ao,List.mem_replicate]at hm;rcases hm with((h|rfl)|⟨_,rfl⟩)|rfl
    ·exact hl m h
    ·exact X7 (by assumption)
    ·decide
    ·decide
   ·simp;exact X6 h0 h2 hlen
section
theorem Op.UJ{lo as}{a b s:Int}{Q:AV->Sg->Prop}(hs:s≠0)(h1:s.natAbs<1073741824)(q:∀r,Q (.ref r) ⟨lo,.is r (nP a b s)::as⟩):Op c E ⟨lo,as⟩ [.int a,.int b,.int s] (λus=>aF (.type "range") us) Q:=by
 intro fr xs vs us st S hl;obtain⟨u1,u2,u3⟩:=BO hl;have S':St c (Sg.on ⟨lo,as⟩ fr) (.int s::.int b::.int a::xs) (u3::u2::u1::vs) st:=S.hand λfz o=>by have a:=o.hd;replace o:=o.tl;have b:=o.hd;replace o:=o.tl;have c:=o.hd;replace o:=o.tl;exact .cons c (.cons b (.cons a o))
 obtain⟨fz,o2,o1⟩:=S'.two;obtain⟨fz,o3,_⟩:=S'.pop.two;obtain⟨t,rfl⟩:=o1.int_inv;obtain⟨u,rfl⟩:=o2.int_inv;obtain⟨v,rfl⟩:=o3.int_inv;refine W.of (call_range_3 hs ⟨.ref st.heap.objs.size,_,?_,q _⟩ (.inl (i_ h1)));exact S'.pop.pop.pop.alloc (o:={cls:=.type "range",data:=.fields #[.int a v,.int b u,.int s t]}) (tk:=st.toks) rfl λfz o=>⟨.is ⟨_,_,_,rfl⟩,.cons (.ref _) o⟩
noncomputable def sV(p m r:Nat):List Int:=(iX (m-r)).map λi=>((128+p/64^(m-1-i)%64:Nat):Int)
theorem Vp(k:Nat):(64:Int)^(k:Int).toNat=((64^k:Nat):Int):=by simp
theorem TS:(aB.Int.intBits 64:Int)=7:=by decide
noncomputable def Bd(m:Nat):Nat:=if m=1 then 192 else if m=2 then 224 else 240
noncomputable def manyN(p:Nat):Nat:=if p<2048 then 1 else if p<65536 then 2 else 3
noncomputable abbrev MN(p m:Nat):Prop:=(1<=m/\m<=3)/\Bd m+p/64^m<256/\([.int 0,.int 192,.int 224,.int 240]:List AV)[((m:Int)).toNat]?=some (.int (Bd m))/\((((Bd m+p/64^m:Nat):Int))::sV p m 0).map oct=u8 p
theorem Sz(h:¬p<128)(hp:p<1114112):MN p (manyN p):=
 (aq (p<2048)).elim (λa=>by
  rw[show manyN p=1 from if_pos a]
  exact⟨⟨by decide,by decide⟩,MA h a,rfl,by rw[xf h a];show[(192+p/64^1).toUInt8,(128+p/64^0%64).toUInt8]=_;rw[g9,iB]⟩) λa=>(aq (p<65536)).elim (λb=>by
  rw[show manyN p=2 from(if_neg a).trans (if_pos b)]
  exact⟨⟨by decide,by decide⟩,Mz a b,rfl,by rw[xg h a b];show[(224+p/64^2).toUInt8,(128+p/64^1%64).toUInt8,(128+p/64^0%64).toUInt8]=_;rw[g9,iB]⟩) λb=>by
  rw[show manyN p=3 from(if_neg a).trans (if_neg b)];exact⟨⟨by decide,by decide⟩,z49 b hp,rfl,by rw[xh h a b];show[(240+p/64^3).toUInt8,(128+p/64^2%64).toUInt8,(128+p/64^1%64).toUInt8,(128+p/64^0%64).toUInt8]=_;rw[g9,iB]⟩
theorem QL(h:r<m):sV p m r=sV p m (r+1)++[((128+p/64^r%64:Nat):Int)]:=by
 unfold sV;rw[show m-r=(m-(r+1))+1 by exact Yt h,iC,au]
 congr 2
 simp only[bE,ew];rw[show m-1-(m-(r+1))=r by exact Ys h]
theorem Ry:∀x∈sV p m r,0<=x/\x<256:=by intro x hx;unfold sV at hx;obtain⟨i,_,rfl⟩:=aG.mp hx;exact Yr
theorem IT(p m r:Nat):(sV p m r).length=m-r:=by simp[sV]
theorem SA(h:k<=3):0<64^k/\64^k<=262144:=⟨Nat.pow_pos (by decide),ar (cZ (by decide) h) (by decide)⟩
section
variable {c:Cx}{σ:Sg}{d:Nat}{E:Ex}
theorem Ev.LF{p k:Nat}(hl:Ev c σ l (.int p))(hr:Ev c σ r (.int k))(hk:k<=3):Ev c σ (.BinOp l .FloorDiv (.BinOp (.Constant (.int 64) k1 q1) .Pow r q2) q3) (.int ((p/64^k:Nat):Int)):=by
 have h:=SA hk;have hp:Ev c σ (.BinOp (.Constant (.int 64) k1 q1) .Pow r q2) (.int ((64^k:Nat):Int)):=by rw[<-Vp];exact .binop .int hr (.pow (Yq hk) (by rw[TS];exact x35 hk))
 have:=Ev.binop (pos:=q3) hl hp (.w8 (Yp h) (Yo h))
 rwa [LD]at this
end
theorem Ia{m:Nat}(h:1<=m):aB.Range.rangeSize ((m:Int)-1) (-1) (-1)=m:=by unfold aB.Range.rangeSize;rw[if_neg (by decide),if_pos (z50 h),show(-(-1):Int)=1 from rfl,Int.ediv_one];exact Ym
theorem Qn{m:Nat}(h:1<=m)(h3:m<=3):aB.Range.small ((m:Int)-1) (-1) (-1)=true:=by unfold aB.Range.small;rw[Ia h];exact(z56 h h3).elim (λe=>by rw[e];decide) λe=>e.elim (λe=>by rw[e];decide) λe=>by rw[e];decide
theorem IU{p:Nat}(hp:p<1114112):Fn (.ref 422) 1 [.int p] [] (λav as'=>av=.bytes (u8 p)/\as'=[]) nE:=by
 refine mG.enter Cv id (λs us hl w X=>pF hl λa=>aC rfl) (λO O h=>h) ?_;intro x E ok he J ex nd;refine Exits.gen ex.drop λX qx ex=>WS.gen λQ q=>?_;have q0:∀u {lo},u=u8 p->Q (.ret (.bytes u)) ⟨lo,[]⟩:=λu O h=>q _ _ ⟨congrArg _ h,rfl⟩;refine .qq (.cmp (.nm ok J .here) .int .lt) (λh=>?_) (λh=>?_)
 ·exact .ret (.forget (.bt ok he rx (.cons (.list (.one (.nm ok J .here) (.nil ⟨l9 rfl,λl=>.nil (.ux ok (l:=[(p:Int)]) (.head _) (λx hx=>by rw[ao.mp hx];exact⟨bM _,Yn hp h⟩) (l9 rfl) ⟨[],.nil,q0 _ (xe (EZ h)).symm⟩)⟩))))))
 have h:¬p<128:=λk=>h (BN k);have M:=Sz h hp;refine .st ok he J (.ev (x:=.int (manyN p)) ?_ ⟨_,.t1,?_⟩)
 ·refine(aq (p<2048)).elim (λa=>?_) λa=>?_
  ·rw[show manyN p=1 from if_pos a];exact .yH (.is (.cmp (.nm ok J .here) .int .lt) (decide_eq_true (dI.mpr a))) .int
  ·refine .yI (.is (.cmp (.nm ok J .here) .int .lt) (decide_eq_false λk=>a (dI.mp k))) ?_;refine(aq (p<65536)).elim (λb=>?_) λb=>?_
   ·rw[show manyN p=2 from(if_neg a).trans (if_pos b)];exact .yH (.is (.cmp (.nm ok J .here) .int .lt) (decide_eq_true (dI.mpr b))) .int
   ·rw[show manyN p=3 from(if_neg a).trans (if_neg b)];exact .yI (.is (.cmp (.nm ok J .here) .int .lt) (decide_eq_false λk=>b (dI.mp k))) .int
 generalize manyN p=m at M ⊢;have OA:=M.1.1;have xC:=M.1.2;refine .st ok he J (.list (.cons (.binop (.item (.list (.one .int (.one .int (.one .int (.one .int (.nil ⟨l9 rfl,λl0=>?_⟩))))))))));refine .ev (.nm ok J .t1) (pv.it (.list (.head _) (bM _) (z52 xC) M.2.2.1) ?_);refine .ev (.LF (.nm ok J .here) (.nm ok J .t1) xC) (mQ.nI .add (.nil ⟨l9 rfl,λo=>⟨_,.t2,.forget (.pick .head .nil) ?_⟩⟩));refine .vN ex.own (λn it σ=>zu λ(mP r:aA) (y:Option AV)=>ua (it=.ref mP) (n<=m) (σ=⟨[some (.int p),some (.int m),some (.ref o),y],[.is mP (nQ ((n:Int)-1) n (-1)),.is r (nP ((m:Int)-1) (-1) (-1)),.lst o ((((Bd m+p/64^m:Nat):Int)::sV p m n).map .int)]⟩)) m (λP w=>?_) (λit σ W h=>?_) λn it σ W w h=>?_
 ·refine .bt ok he sM (.one (.binop (.nm ok J .t1) .int .sub) (.one .neg (.one .neg (.nil (.UJ (by decide) (by decide) λr=>.range (.head _) (Qn OA xC) λit=>?_)))));rw[Ia OA];exact w _ _ ⟨it,r,none,rfl,bz _,by rw[sV,Nat.sub_self];rfl⟩
 ·obtain⟨mP,r,y,eq,hm,es⟩:=h;rw[eq,es];refine⟨none,_,.sL ok .head (tT),.ret (.forget (.bt ok he rx (.one (.nm ok J .t2) (.nil (.ux ok m1 (λx hx=>?_) ?_ ⟨[],.nil,q0 _ M.2.2.2⟩)))))⟩
  ·exact(aL.mp hx).elim (λe=>by rw[e];exact⟨bM _,dI.mpr M.2.1⟩) (Ry x)
  ·rw[bZ,IT];exact z53 xC
 obtain⟨mP,r,y,eq,hm,es⟩:=h;rw[eq,es];refine⟨some (.int (((n+1:Nat):Int)-1)),_,.range ok .head (tS),_,.name ok J .t3,?_⟩;rw[show((n+1:Nat):Int)-1=n by exact uA];refine .ex he (.nX ok (.nm ok J .t2) (.append m2) .builtin (.one (.binop .int (.binop (.LF (.nm ok J .here) (.nm ok J .t3) (z54 xC hm)) .int (.mod (by decide))) .add) (.nil (.append (.tail (.tail .head)) ?_ ⟨rfl,.nil (w _ _ ⟨n,pg,mP,r,some (.int n),eq,kB hm,?_⟩)⟩))))
 ·rw[ah,bZ,IT];exact z55 xC
 ·rw[QL (show n<m from hm),<-fR,au,show(64:Int)=((64:Nat):Int)from rfl,Bc];rfl
end
theorem HH{t:List Nat}(ht:∀p∈t,isSign p)(hz:t.length<=16000):Fn (.ref 427) 2 [.str t] [] (λav as'=>av=.bytes (t.flatMap u8)/\as'=[]) nE:=by
 refine mG.enter Ci id (λs us hl w X=>pF hl λa=>aC rfl) (λO O h=>h) ?_;intro x E ok he J ex nd;refine .ret (.forget (.nX ok .bytes .vw .builtin (.cons (.comp ok (λn D C it σ=>zu λ(mP:aA) (i:Nat) (f:List (Str×AV))=>ua (it=.ref mP) (n+i=t.length) (σ=⟨[some (.str t)],[.nf C f,.lst D ((t.take i).map λp=>.bytes (u8 p)),.is mP (r3 t i)]⟩)) t.length (cl:=[]) (rfl) (by decide +kernel) ?_ ?_))))
 ·exact .ev (.nm ok (J) .here) (.str λit D C=>⟨.str m2,it,0,[],rfl,rfl,rfl⟩)
 ·rintro n D C it σ ⟨mP,i,f,rfl,hi,rfl⟩;cases n with
  |zero=>
   refine⟨none,_,.Kv ok .t2 (b7 (sd hi)),f,_,.head,.nil (.vw (bs:=t.map u8) (.own ?_) ?_ ⟨[],.nil,?_,rfl⟩)⟩
   ·rw[b6 (sd hi),aN];exact(.head _)
   ·rw[<-kD];exact Yv hz (tG t) hi
   ·rw[kD]
  |succ n=>
   have pL:i<t.length:=rJ hi;have Fq:t[i]?=some t[i]:=aw pL;have hp:=ht t[i] (bL pL);refine⟨some (.str [t[i]]),_,.str (.tail (.tail .head)) Fq,true,_,.name,.cv (ok.cmp rfl) (mW he) rfl .head,.nil,?_⟩;generalize t[i]=p at hp Fq;refine .fn (ok.cmp rfl) (mW he) Hz Cv.keep (.one (.pC (ok.cmp rfl) (mW he) Ly (.cv (ok.cmp rfl) (mW he) rfl (.head _) (.head _)) .ord) (.nil (mG.op (as:=[]) (rest:=[.nf C [(af "sign",.str [p])],.lst D ((t.take i).map λp=>.bytes (u8 p)),.is mP (r3 t (i+1))]) (IU (by unfold isSign at hp;exact Ei hp)) (ok.cmp rfl) .qp (by decide) .refl ?_ (λO O h=>h.elim))));refine nF ?_;refine⟨_,_,(.tail .head),by simp;exact Yu hz hi,n,pg,mP,i+1,[(af "sign",.str [p])],rfl,sZ hi,?_⟩;rw[bD,Fq,au]
   rfl
section
noncomputable abbrev ni(p:Int×List UInt8):AV:=.tup [.int p.1,.bytes p.2]
noncomputable def nx(l:List (Int×List Nat)):List (Int×List UInt8):=l.map λp=>(p.1,p.2.flatMap u8)
noncomputable def B_(l:List (Int×List Nat)):Prop:=l.length<=16000/\∀p∈l,p.2.length<=16000/\∀q∈p.2,isSign q
theorem xR(hl:B_ l):Fn (.ref 432) 3 [nR l] [] (λav as'=>av=.lst ((nx l).map ni)/\as'=[]) nE:=by
 refine mG.enter wo id (λs us hl w X=>pF hl λa=>aC rfl) (λO O h=>h) ?_;intro x E ok he J ex nd;have J:Nm x ([qj]):=J;refine .ret (.forget (.freeze (.comp ok (λn D C it σ=>zu λ(mP:aA) (i:Nat) (f:List (Str×AV))=>ua (it=.ref mP) (n+i=l.length) (σ=⟨[some (nR l)],[.nf C f,.lst D ((nx (l.take i)).map ni),.fit mP (nR l) i]⟩)) l.length (cl:=[]) (by rw[he];rfl) (by decide +kernel) ?_ ?_)))
 ·exact .ev (.nm ok J .here) (.ng λit D C=>⟨.ng m2,it,0,[],rfl,rfl,rfl⟩)
 ·rintro n D C it σ ⟨mP,i,f,rfl,hi,rfl⟩;cases n with
  |zero=>refine⟨none,_,.vm ok .t2 (by simp;exact sd hi),f,_,.head,D,_,_,rfl,.head,[],.nil,?_,rfl⟩;rw[b6 (sd hi)]
  |succ n=>have pL:i<l.length:=rJ hi;have pD:l[i]?=some l[i]:=aw pL;have hp:=hl.2 l[i] (bL pL);refine⟨some (nJ l[i]),_,.ng (.tail (.tail .head)) (by rw[bc,pD];rfl),true,_,.ng m2,.v_ (ok.cmp rfl) (mW he) rfl .head,.nil,?_⟩;generalize l[i]=p at hp pD;refine .tuple (.one (.cv (ok.cmp rfl) (mW he) rfl (.head _) m1) (.cons (.fn (ok.cmp rfl) (mW he) GH Ci.keep (.one (.cv (ok.cmp rfl) (mW he) rfl (.head _) (.head _)) (.nil (mG.op (as:=[]) (HH hp.2 hp.1) (ok.cmp rfl) .qp (by decide) .refl ?_ (λO O h=>h.elim)))))));refine nF ?_;refine .nil ⟨by simp,_,_,(.tail .head),by simp[nx];have:=hl.1;exact YO hi this,n,pg,mP,i+1,[(UH,.str p.2),(tF,.int p.1)],rfl,sZ hi,?_⟩;rw[bD,pD];simp[nx];rfl
noncomputable def lmap(l:List (Int×List UInt8)):List UInt8:=mK l.length++l.flatMap λp=>mK p.1.toNat++mK p.2.length++p.2
theorem vf(n:Nat):1<=(mK n).length:=by
 by_cases h:n<128
 ·rw[wz h];simp
 ·rw[um (Bm h)];simp
theorem Rz:∀(n m:Nat),m<=n->(mK m).length<=(mK n).length:=by
 intro n;induction n using kZ with
 |ind n ih=>
  intro m h;by_cases hm:m<128
  ·rw[wz hm];exact vf n
  ·rw[um (Bm hm),um (show 128<=n by exact YN h hm)];have:=ih (n/128) (YM h hm) (m/128) (YL h);simp only[bZ];exact YK this
theorem TU(h:m<=4*n)(J:1<=n):(mK m).length<=(mK n).length+1:=by
 have h1:=Rz (128*n) m (YJ h);have h2:(mK (128*n)).length=(mK n).length+1:=by rw[um (YI J),show 128*n/128=n by exact YH];simp
 exact YG h1 h2
section
variable {c:Cx}{σ:Sg}{d:Nat}{E:Ex}{ε:Env}{ns:List Str}
theorem WE.wd{k:Nat}{pad:Int}{Q:AV->Sg->Prop}{XX:mZ->Sg->Prop}(ok:Ok c d)(he:c.env=ε)(ex:Exits c E XX)(h1:Ev c σ e1 (.int k))(h2:Ev c σ e2 (.int pad))(hk:(mK k).length<=900)(h0:0<=pad)(hp:pad<=2)(q:∀b,(pad=0->b=mK k)->b.length<=3*(mK k).length->Q (.bytes b) σ)
  (hd:autoParam (1<=d) aD)(hx:autoParam (ε.kindOf (af "_law_long")=some .globalImplicit) aR)(qz:autoParam (∀env,aU [e1,e2] env=(false,aT e1 env)::aU [e2] env) aI)(rh:autoParam (∀env,aU [e2] env=(false,aT e2 env)::aU [] env) aI)
  (hv:autoParam (∀env,aT (.Call (.Name (af "_law_long") np) [e1,e2] [] pos) env=(do cA pos (<-aT (.Name (af "_law_long") np) env) [] (cM pos (aU [e1,e2] env)) (dF pos (cF [] env)))) aI):
  WE c E σ (aT (.Call (.Name (af "_law_long") np) [e1,e2] [] pos) c.env) Q:=by
 refine .fn ok he Qi Gk.keep (.one h1 (.one h2 (.nil (mG.op (as:=[]) (rest:=σ.as) (Rx hk h0 hp) ok ex hd .refl ?_ (λO O h=>h.elim))) rh) qz) hx (hv:=hv) (hp:=by rw[qz,rh];rfl);rintro av as' ⟨b,rfl,rfl,hb,hl⟩;have:=vf k;exact q b hb (YF hk hl this)
end
theorem RA(l:List (Int×List UInt8))(i:Nat):(mK l.length++(l.take i).flatMap λp=>mK p.1.toNat++mK p.2.length++p.2).length<=(lmap l).length:=by unfold lmap;rw[aa,aa,IP (λp:Int×List UInt8=>mK p.1.toNat++mK p.2.length++p.2) l i,aa];exact YE
theorem RB(h:p∈l):(mK p.1.toNat).length<=(lmap l).length/\(mK p.2.length).length<=(lmap l).length/\p.2.length<=(lmap l).length:=by obtain⟨l1,l2,rfl⟩:=ef h;unfold lmap;simp only[bu,bx,aa];exact YD
theorem Jo(h0:0<=pad)(h2:pad<=2)(hl:∀p∈l,0<=p.1/\(mK p.1.toNat).length<=900)(hz:(lmap l).length<=200000)(J:l.length<=16000):Fn (.ref 439) 2 [.lst (l.map ni),.int pad] [] (λav as'=>∃b,av=.bytes b/\as'=[]/\(pad=0->b=lmap l)/\b.length<=3*(lmap l).length) nE:=by
 refine mG.enter CC id (λs us hl w X=>pY hl λa b=>aC rfl) (λO O h=>h) ?_;intro x E ok he J ex nd;have J:Nm x ([qj,af "pad",af "out",tF,pV]):=J;have hu:∀n,n<=1000000->(mK n).length<=900:=λn h=>ar (xU 3 n (by decide) (EV h)) (by decide);refine .st ok he J (.wd ok he ex (.pC ok he qk (.nm ok J .here) (.Nc (l:=l.map ni) .ng (by simp;exact oO (by assumption)))) (.nm ok J .t1) (by rw[ah];exact hu _ (YC (by assumption))) h0 h2 λb hb zx=>⟨_,.t2,?_⟩);rw[ah]at hb zx;refine .EF ex.own (ι:=Nat×List UInt8×Option AV×Option AV) (λit q=>⟨[some (.lst (l.map ni)),some (.int pad),some (.bytes q.2.1),q.2.2.1,q.2.2.2],[.fit it (.lst (l.map ni)) q.1]⟩)
  (λn q=>n+q.1=l.length/\(pad=0->q.2.1=mK l.length++(l.take q.1).flatMap λp=>mK p.1.toNat++mK p.2.length++p.2)/\q.2.1.length<=3*(mK l.length++(l.take q.1).flatMap λp=>mK p.1.toNat++mK p.2.length++p.2).length) l.length ?_ ?_
 ·exact .ev (.nm ok J .here) (.ng λit=>⟨it,⟨0,b,none,none⟩,⟨rfl,λe=>by rw[hb e];simp,by simpa using zx⟩,rfl,rfl⟩)
 ·rintro n it ⟨i,o,y3,y4⟩ ⟨hi,ho,tj⟩;dsimp only at hi ho tj ⊢;have hL:=RA l i;cases n with
  |zero=>refine⟨none,_,.vm ok .head (by simp;exact sd hi),?_⟩;rw[b6 (sd hi)]at ho tj;exact .ret (.ev (.nm ok J .t2) ⟨o,rfl,rfl,ho,tj⟩)
  |succ n=>
   have pL:i<l.length:=rJ hi;have pD:l[i]?=some l[i]:=aw pL;have hm:l[i]∈l:=bL pL;have hp:=hl l[i] hm;have hq:=RB hm;refine⟨some (ni l[i]),_,.ng .head (by rw[bc,pD];rfl),.ng (.head _),_,.tuple ok J (.cons .t3 (.cons .t4 .nil)),?_⟩;generalize l[i]=p at hp pD hq;obtain⟨j,w⟩:=p;obtain⟨k,rfl⟩:=bF hp.1;dsimp only at hp hq ⊢;rw[bg]at hp hq;refine .st ok he J (.binop (.binop (.binop (.ev (.nm ok J .t2) (.wd ok he ex (.nm ok J .t3) (.nm ok J .t1) hp.2 h0 h2 λb1 zy qd=>mQ.nI (.qW (YB hz tj hL hp qd)) (.wd ok he ex (.pC ok he qk (.nm ok J .t4) (.tU (YA hz hq))) (.nm ok J .t1) (hu _ (Yz hz hq)) h0 h2 λb2 sv xD=>mQ.nI (.qW (by simp only[aa];exact Yy hz tj hL hp hq qd xD)) (.ev (.nm ok J .t4) (mQ.nI (.qW (by simp only[aa];exact Yx hz tj hL hp hq qd xD)) ⟨_,.t2,.nil ⟨n,⟨i+1,o++b1++b2++w,some (.int k),some (.bytes w)⟩,pg,⟨by dsimp only;exact sZ hi,λe=>?_,?_⟩,rfl⟩⟩))))))))
   ·dsimp only;rw[ho e,zy e,sv e,bD,pD];simp
   ·dsimp only;rw[bD,pD,bu];simp only[aa,iW,bx,cD,aW,bg]at tj ⊢;exact Yw qd xD tj
end
section
noncomputable abbrev oY(r:Int×List (Int×List UInt8)):AV:=.tup [.int r.1,.lst (r.2.map ni)]
noncomputable def qN:Option (List UInt8)->AV
 |none=>.none
 |some t=>.bytes t
noncomputable def qm(r:Int×List (Int×List UInt8)):List UInt8:=mK r.1.toNat++lmap r.2
noncomputable def pe(R:List (Int×List (Int×List UInt8))):List UInt8:=mK R.length++R.flatMap qm
noncomputable def qw(T:Option (List UInt8)):List (Int×List UInt8):=T.elim [] λt=>[(0,mK t.length++t)]
noncomputable def oZ(F:List (Int×List UInt8)):List (Int×List UInt8):=if F=[]then[]else[(1,lmap F)]
noncomputable def pz(R:List (Int×List (Int×List UInt8))):List (Int×List UInt8):=if R=[]then[]else[(2,pe R)]
noncomputable def n4(p:Int×List UInt8):List UInt8:=p.1.toNat.toUInt8::(mK p.2.length++p.2)
noncomputable def lw(T:Option (List UInt8))(F:List (Int×List UInt8))(R:List (Int×List (Int×List UInt8))):List UInt8:=(qw T++oZ F++pz R).flatMap n4
structure xE(T:Option (List UInt8))(F:List (Int×List UInt8))(R:List (Int×List (Int×List UInt8))):Prop where
 f:∀p∈F,0<=p.1/\(mK p.1.toNat).length<=900
 r:∀r∈R,0<=r.1/\(mK r.1.toNat).length<=900/\∀p∈r.2,0<=p.1/\(mK p.1.toNat).length<=900
 z:(lw T F R).length<=200000
 fl:F.length<=16000
 rl:∀r∈R,r.2.length<=16000
theorem SD{l:List (Int×List UInt8)}(h:p∈l):p.2.length+1<=(l.flatMap n4).length:=by obtain⟨l1,l2,rfl⟩:=ef h;simp only[bu,bx,aa,n4,bZ];exact Za
theorem Dc{α:Type}{f:α->List UInt8}{l:List α}(h:∀x∈l,1<=(f x).length):l.length<=(l.flatMap f).length:=by
 induction l with
 |nil=>simp
 |cons x l ih=>have:=h x (.head _);have:=ih λy hy=>h y (.tail _ hy);simp only[bZ,bx,aa];exact Y_ (by assumption) this
theorem JZ(l:List (Int×List UInt8)):l.length+1<=(lmap l).length:=by
 have:=Dc (l:=l) (f:=λp=>mK p.1.toNat++mK p.2.length++p.2) λx O=>by have:=vf x.1.toNat;rw[aa,aa];exact Y9 this
 have:=vf l.length;unfold lmap;rw[aa];exact Mw (by assumption) this
theorem Jp(R:List (Int×List (Int×List UInt8))):R.length+1<=(pe R).length:=by
 have:=Dc (l:=R) (f:=qm) λx O=>by have:=vf x.1.toNat;simp only[qm,aa];exact Mv this
 have:=vf R.length;unfold pe;rw[aa];exact Mw (by assumption) this
structure qZ(pad:Int)(q:Int×List UInt8×List UInt8):Prop where
 s0:0<=q.1
 s2:q.1<=2
 eq:pad=0->q.2.2=q.2.1
 le:q.2.2.length<=3*q.2.1.length
 ge:1<=q.2.1.length
 z:q.2.1.length<=200000
noncomputable def rQ(q:Int×List UInt8×List UInt8):Int×List UInt8:=(q.1,q.2.1)
noncomputable def uf(q:Int×List UInt8×List UInt8):Int×List UInt8:=(q.1,q.2.2)
noncomputable abbrev vz:=af "pad"
section
variable {x:Cx}{E:Ex}{T:Option (List UInt8)}{F:List (Int×List UInt8)}{R:List (Int×List (Int×List UInt8))}{pad:Int}
noncomputable def Fs(x:Cx)(T:Option (List UInt8))(F:List (Int×List UInt8))(R:List (Int×List (Int×List UInt8)))(pad:Int)(pa:aA)(q:List (Int×List UInt8×List UInt8))(y:Option AV):Sg:=
 ⟨[some (qN T),some (.lst (F.map ni)),some (.lst (R.map oY)),some (.ref pa),y],[.lst pa ((q.map uf).map ni),.nq (x.L+1) (.int pad)]⟩
theorem Ft(h:n<=1000000):(mK n).length<=900:=ar (xU 3 n (by decide) (EV h)) (by decide)
end
theorem qZ.snoc{p}(h:∀z∈q,qZ pad z)(g:qZ pad p):∀z∈q++[p],qZ pad z:=λz hz=>(aH.mp hz).elim (h z) λe=>ao.mp e▸g
theorem Ae(T):(qw T).length<=1:=by cases T;exact bB _;exact bz _
theorem Jq(F):(oZ F).length<=1:=by by_cases h:F=[];rw[oZ,if_pos h];exact bB _;rw[oZ,if_neg h];exact bz _
theorem SE(F):(pz F).length<=1:=by by_cases h:F=[];rw[pz,if_pos h];exact bB _;rw[pz,if_neg h];exact bz _
theorem Nl{q:List (Int×List UInt8×List UInt8)}(e:q.map rQ=L)(h:L.length<=3):((q.map uf).map ni).length<=900000:=by rw[ah,ah,<-ah (f:=rQ),e];exact ar h (by decide)
theorem TV{T F R}:(qw T++oZ F++pz R).length<=3:=by rw[aa,aa];exact cK (cK (Ae T) (Jq F)) (SE R)
theorem SG{T F}:(qw T++oZ F).length<=2:=by rw[aa];exact cK (Ae T) (Jq F)
theorem qZ.t{t b:List UInt8}(hb:pad=0->b=mK t.length)(hl:b.length<=3*(mK t.length).length)(hz:n<=200000)(ht:(mK t.length).length+t.length+1<=n):qZ pad (0,mK t.length++t,b++t):=
 have:=vf t.length
 ⟨bO 0,cR.mpr (bB 2),λe=>congrArg (λO=>O++t) (hb e),by rw[aa,aa];exact Y5 hz ht hl this,by rw[aa];exact Mv this,by rw[aa];exact Y4 hz ht⟩
theorem SH(h:qZ pad z)(hl:b.length<=3*(mK z.2.2.length).length):([z.1.toNat.toUInt8]++b++z.2.2).length<=4*(n4 (rQ z)).length:=by have e:(n4 (rQ z)).length=(mK z.2.1.length).length+z.2.1.length+1:=congrArg fu aa;rw[e,aa,aa];exact y1 hl (TU (YV h.le) h.ge) h.le
theorem IV{α:Type}{f:α->List UInt8}{l:List α}{x:α}(h:l[i]?=some x)(e:w.flatten=(l.take i).flatMap f)(eb:b=f x):(w++[b]).flatten=(l.take (i+1)).flatMap f:=by rw[bD,h,jW,bu,e,eb];simp
theorem Jr{α:Type}{f:α->List UInt8}{l:List α}{x:α}{b:List UInt8}(h:l[i]?=some x)(e:w.flatten.length<=k*((l.take i).flatMap f).length)(eb:b.length<=k*(f x).length):(w++[b]).flatten.length<=k*((l.take (i+1)).flatMap f).length:=by rw[bD,h,jW,bu,aa,aa,jS];exact cK e (by simpa using eb)
theorem SI{r}(h:r∈R):(qm r).length<=(pe R).length:=by obtain⟨l1,l2,rfl⟩:=ef h;rw[pe,bu,bx,aa,aa (as:=l1.flatMap qm),aa (as:=qm r)];exact ar (dz _ _) (ar (bU _ _) (bU _ _))
section
variable {x:Cx}{E:Ex}{T:Option (List UInt8)}{F:List (Int×List UInt8)}{R:List (Int×List (Int×List UInt8))}{pad:Int}{pa:aA}
noncomputable abbrev Fu(x:Cx)(T:Option (List UInt8))(F:List (Int×List UInt8))(R:List (Int×List (Int×List UInt8)))(pad:Int)(pa:aA)(L:List (Int×List UInt8))(P:Sg->Prop):Prop:=
 ∀(q:List (Int×List UInt8×List UInt8)) y,q.map rQ=L->(∀z∈q,qZ pad z)->P (Fs x T F R pad pa q y)
inductive WrP(x:Cx)(T:Option (List UInt8))(F:List (Int×List UInt8))(R:List (Int×List (Int×List UInt8)))(pad:Int)(pa:aA)(L:List (Int×List UInt8))(σ:Sg):Prop
 |mk (q:List (Int×List UInt8×List UInt8)) (y) (e:q.map rQ=L) (r:∀z∈q,qZ pad z) (s:σ=Fs x T F R pad pa q y)
theorem WS.EL(L:List (Int×List UInt8)){st:Stmt}(h:∀Q',Fu x T F R pad pa L (Q' .next)->WS x E σ (aO [st] x.env) Q')(k:Fu x T F R pad pa L (uX x E rest Q)):WS x E σ (aO (st::rest) x.env) Q:=
 .xa (WrP x T F R pad pa L) (λQ' w=>h Q' λq y e r=>w _ ⟨q,y,e,r,rfl⟩) λσ k9=>by obtain⟨q,y,e,r,s⟩:=k9;exact s▸k q y e r
theorem Fv{L L0}{q:List (Int×List UInt8×List UInt8)}{y p}{P:Sg->Prop}(w:Fu x T F R pad pa L P)(e:q.map rQ=L0)(r:∀z∈q,qZ pad z)(g:qZ pad p)(hL:L=L0++[rQ p]):
  P ⟨[some (qN T),some (.lst (F.map ni)),some (.lst (R.map oY)),some (.ref pa),y],[.lst pa ((q.map uf).map ni++[ni (uf p)]),.nq (x.L+1) (.int pad)]⟩:=by
 have:=w (q++[p]) y (by rw[au,e,hL];rfl) (qZ.snoc r g);rw[Fs,au,au]at this;exact this
end
theorem CE{F:List (Int×List UInt8)}{R:List (Int×List (Int×List UInt8))}(hW:xE T F R)(h0:0<=pad)(h2:pad<=2):
  Fn (.ref 444) 3 [qN T,.lst (F.map ni),.lst (R.map oY),.int pad] [] (λav as'=>∃b,av=.bytes b/\as'=[]/\(pad=0->b=lw T F R)/\b.length<=4*(lw T F R).length) nE:=by
 refine mG.AA zG id (λs us hl w X=>?_) (λO O h=>h) ?_
 ·obtain⟨a,b,c,d⟩:=E1 hl;exact⟨aC rfl,rfl⟩
 intro x E ok he J ex nd;refine Exits.gen ex λX qx ex=>WS.gen λQ q=>?_;have hlen:∀p∈qw T++oZ F++pz R,p.2.length+1<=(lw T F R).length:=λp h=>SD h;have hz:=hW.z;have EM:∀{σ:Sg}{p:iA},.nq (x.L+1) (.int pad)∈σ.as->Ev x σ (.Name vz p) (.int pad):=λhm=>.ce ok he hm;refine .st ok he J (.list (.nil ⟨by simp,λpa=>⟨_,.t3,?_⟩⟩));refine .EL (T:=T) (F:=F) (R:=R) (pad:=pad) (pa:=pa) (qw T) (λQ w=>?_) λq0 y Fw zw=>?_
 ·cases T with
  |none=>exact .n3 (.cmp (.nm ok J .here) .none (.ru rfl)) (λh=>nomatch h) (λO=>.nil (w [] none rfl λO h=>nomatch h))
  |some t=>have ht:=hlen (0,mK t.length++t) (.head _);rw[aa]at ht;refine .n3 (.cmp (.nm ok J .here) .none (.ru rfl)) (λO=>?_) (λh=>nomatch h);refine .ex he (.nX ok (.nm ok J .t3) (.append (.head _)) .builtin (.cons (.tuple (.one .int (.cons (.binop ?_))))));refine .wd ok he ex (.pC ok he qk (.nm ok J .here) (.tU (b:=t) (Y8 hz ht))) (EM m1) (Ft (Y7 hz ht)) h0 h2 λb hb hl=>.ev (.nm ok J .here) (mQ.nI (.qW (b':=t) (Y6 hz ht hl)) (.nil ⟨l9 rfl,.nil ?_⟩));exact .append .head (bB _) ⟨rfl,.nil (.nil (Fv (q:=[]) (p:=(0,mK t.length++t,b++t)) w rfl (λO h=>nomatch h) (qZ.t hb hl hz ht) rfl))⟩
 refine .EL (T:=T) (F:=F) (R:=R) (pad:=pad) (pa:=pa) (qw T++oZ F) (λQ w=>?_) λq1 y1 Fx u4=>?_
 ·refine .rL (.neT ok (.ev (.nm ok J .t1) ⟨_,.ng,λl1=>?_⟩));refine(aq (F=[])).elim (λhF=>?_) λhF=>?_
  ·rw[show decide (F.map ni≠[])=false by rw[hF];rfl];exact .forget .n8 (.nil (.nil (w q0 y (by rw[Fw,oZ,if_pos hF,aW]) zw)))
  ·rw[show decide (F.map ni≠[])=true from decide_eq_true λe=>hF (dj.mp e)];have hf:=hlen (1,lmap F) (ax _ (aS _ (by rw[oZ,if_neg hF];exact .head _)));refine .forget .n8 (.ex he (.nX ok (.nm ok J .t3) (.append (.head _)) .builtin (.cons (.tuple (.one .int (.cons ?_))))));refine .fn ok he H4 CC.keep (.one (.nm ok J .t1) (.one (EM m1) (.nil (mG.op (as:=[]) (rest:=[.lst pa ((q0.map uf).map ni),.nq (x.L+1) (.int pad)]) (Jo h0 h2 hW.f (Bn hz hf) hW.fl) ok ex (by decide) .refl (λav as' h=>?_) (λO O h=>h.elim)))));refine cps λV V'=>?_;obtain⟨b,rfl,rfl,hb,hl⟩:=h;refine V' (.nil ⟨l9 rfl,.nil (.append .head (Nl Fw (ar (Ae T) (by decide))) ⟨rfl,.nil (.nil (Fv (p:=(1,lmap F,b)) w Fw zw ⟨cR.mpr (bB 1),cR.mpr (fL 1),hb,hl,ar (bU 1 _) (JZ F),Bn hz hf⟩ (by rw[oZ,if_neg hF];rfl)))⟩)⟩)
 refine .EL (T:=T) (F:=F) (R:=R) (pad:=pad) (pa:=pa) (qw T++oZ F++pz R) (λQ w=>?_) λq2 y hq hr=>?_
 ·refine .rL (.neT ok (.ev (.nm ok J .t2) ⟨_,.ng,λl1=>?_⟩));refine(aq (R=[])).elim (λhR=>?_) λhR=>?_
  ·rw[show decide (R.map oY≠[])=false by rw[hR];rfl];exact .forget .n8 (.nil (.nil (w q1 y1 (by rw[Fx,pz,if_pos hR,aW]) u4)))
  ·rw[show decide (R.map oY≠[])=true from decide_eq_true λe=>hR (dj.mp e)];have hf:=hlen (2,pe R) (aS _ (by rw[pz,if_neg hR];exact .head _));have hg:=Jp R;refine .forget .n8 (.Sq ok he J (λn D C it σ=>uY λ(mP:aA) (i:Nat) (f:List (Str×AV)) (w:List (List UInt8))=>uZ (it=.ref mP) (n+i=R.length) (w.length=i) (pad=0->w.flatten=(R.take i).flatMap qm) (w.flatten.length<=3*((R.take i).flatMap qm).length) (σ=⟨[some (qN T),some (.lst (F.map ni)),some (.lst (R.map oY)),some (.ref pa),y1],[.nf C f,.lst D (w.map .bytes),.fit mP (.lst (R.map oY)) i,.lst pa ((q1.map uf).map ni),.nq (x.L+1) (.int pad)]⟩)) R.length (cl:=[(vz,x.L+1)]) (by rw[he];rfl) (by decide +kernel) ?_ ?_)
   ·exact .ev (.nm ok J .t2) (.ng λit D C=>⟨.ng m2,it,0,[],[],rfl,rfl,rfl,λO=>rfl,bB _,rfl⟩)
   intro n D C it σ I' K' hI hK h;refine cps λV V'=>?_;obtain⟨mP,i,f,u,e,hi,wg,wh,ug,e'⟩:=h;refine V' ?_;rw[e,e'];refine(fv n).elim (λpb=>?_) λpb=>?_
   ·have hi:i=R.length:=by rw[pb,dH]at hi;exact hi
    refine⟨none,_,.vm ok .t2 (b7 (by rw[ah];exact da hi.symm)),f,_,.head,hK _ ⟨_,.t4,?_⟩⟩;rw[hi,cT]at wh ug;have OB:u.flatten.length<=3*(pe R).length:=by rw[pe,aa];exact Y3 ug
    refine .ex he (.nX ok (.nm ok J .t3) (.append m1) .builtin (.cons (.tuple (.one .int (.cons (.binop ?_))))));have OC:R.length<=200000:=Bn hz (ar (kR (kB hg)) hf);have hu:=@Ft R.length (ar OC (by decide));refine .wd ok he ex (.pC ok he qk (.nm ok J .t2) (.Nc (l:=R.map oY) .ng (by rw[ah];exact ar OC (by decide)))) (EM m2) (by rw[ah];exact hu) h0 h2 λb hb hl=>?_;rw[ah]at hb hl;refine .nX ok .bytes .vw .builtin (.one (.nm ok J .t4) (.nil (.vw (bs:=u) (.own (.head _)) (Y2 hz hf OB) (mQ.nI (.qW (Y1 hz hf OB hl hu)) (.nil ⟨l9 rfl,.nil ?_⟩)))));refine .append (.tail .head) (Nl Fx (ar SG (by decide))) ⟨rfl,.forget (.pick .t1 (.pick .t1 .nil)) (.nil (.nil (Fv (p:=(2,pe R,b++u.flatten)) w Fx u4 ⟨cR.mpr (bB 2),bO 2,λe=>?_,?_,ar (bU 1 _) hg,Bn hz hf⟩ (by rw[pz,if_neg hR];rfl))))⟩
    ·exact(congr (congrArg _ (hb e)) (wh e):)
    ·rw[aa,pe,aa];exact Y0 ug hl
   ·have qf:i<R.length:=gT (f7 pb) hi;obtain⟨n,rfl⟩:∃m,n=m+1:=⟨n-1,(gS pb).symm⟩;refine⟨some (oY R[i]),_,.ng (.tail (.tail .head)) (by rw[bc,aw qf];rfl),true,_,.ng m2,.v_ (ok.cmp rfl) (mW he) rfl .head,.nil,?_⟩;have hr:=hW.r _ (bL qf);have tw:=hW.rl _ (bL qf);have xj:=SI (bL qf);have zz:=aw qf;generalize R[i]=r at zz hr tw xj;obtain⟨j,m⟩:=r;refine(bF hr.1).elim λk e8=>?_;subst e8;have LG:(mK k).length+(lmap m).length<=(pe R).length:=by rw[qm,aa]at xj;exact xj
    refine .binop (.wd (ok.cmp rfl) (mW he) .qp (.cv (ok.cmp rfl) (mW he) rfl (.head _) m1) (.ce (ok.cmp rfl) (mW he) (.tail _ m3)) hr.2.1 h0 h2 λb hb hl=>?_);refine .fn (ok.cmp rfl) (mW he) H4 CC.keep (.one (.cv (ok.cmp rfl) (mW he) rfl (.head _) (.head _)) (.one (.ce (ok.cmp rfl) (mW he) (.tail _ m3)) (.nil (mG.op (as:=[]) (rest:=[.nf C [(qj,.lst (m.map ni)),(qt,.int k)],.lst D (u.map .bytes),.fit mP (.lst (R.map oY)) (i+1),.lst pa ((q1.map uf).map ni),.nq (x.L+1) (.int pad)]) (Jo h0 h2 hr.2.2 (YZ hz hf LG hl) tw) (ok.cmp rfl) .qp (by decide) .refl (λav as' h=>?_) (λO O h=>h.elim)))));refine cps λV V'=>?_;obtain⟨b2,rfl,rfl,sv,xD⟩:=h;refine V' (mQ.nI (.qW (by have:=hr.2.1;exact YY hz hf LG hl xD)) ⟨_,_,(.tail .head),?_,n,pg,hI _ _ ⟨mP,i+1,[(qj,.lst (m.map ni)),(qt,.int k)],u++[b++b2],e,sZ hi,by rw[aa,wg];rfl,λe=>IV zz (wh e) (by rw[hb e,sv e];rfl),Jr zz ug ?_,?_⟩⟩)
    ·rw[ah];exact YX hz hf hg wg hi
    ·rw[qm,aa,aa,jS];exact cK hl xD
    ·rw[au];rfl
 have Fy:lw T F R=(q2.map rQ).flatMap n4:=by rw[hq];rfl
 have hql:q2.length<=3:=by rw[<-ah (f:=rQ),hq];exact TV
 rw[Fy]at hz;refine .ret (.forget (.nX ok .bytes .vw .builtin (.cons (.Lx ok (λn D C it σ=>uY λ(mP:aA) (i:Nat) (f:List (Str×AV)) (w:List (List UInt8))=>uZ (it=.ref mP) (n+i=q2.length) (w.length=i) (pad=0->w.flatten=(q2.take i).flatMap λz=>n4 (rQ z)) (w.flatten.length<=4*((q2.take i).flatMap λz=>n4 (rQ z)).length) (σ=⟨[some (qN T),some (.lst (F.map ni)),some (.lst (R.map oY)),some (.ref pa),y],[.nf C f,.lst D (w.map .bytes),.is mP (pP pa i),.lst pa ((q2.map uf).map ni),.nq (x.L+1) (.int pad)]⟩)) q2.length (cl:=[(vz,x.L+1)]) (by rw[he];rfl) (by decide +kernel) ?_ ?_))))
 ·exact .ev (.nm ok J .t3) (.list (.head _) λit D C=>⟨.list m2,it,0,[],[],rfl,rfl,rfl,λO=>rfl,bB _,rfl⟩)
 rw[dq]at hz Fy;intro n D C it σ I' K' hI hK h;refine cps λV V'=>?_;obtain⟨mP,i,f,u,e,hi,wg,wh,ug,e'⟩:=h;refine V' ?_;rw[e,e'];refine(fv n).elim (λpb=>?_) λpb=>?_
 ·have hi:i=q2.length:=by rw[pb,dH]at hi;exact hi
  rw[hi,cT]at wh ug;refine⟨none,_,.wJ ok m3 .t2 (b7 (by rw[ah,ah];exact da hi.symm)),f,_,.head,hK _ (.nil (.vw (bs:=u) (.own (.head _)) (YW hz ug (bz _)) ⟨[],.nil,q _ _ ⟨_,rfl,rfl,?_⟩⟩))⟩;rw[Fy];exact⟨wh,ug⟩
 ·have qf:i<q2.length:=gT (f7 pb) hi;obtain⟨n,rfl⟩:∃m,n=m+1:=⟨n-1,(gS pb).symm⟩;refine⟨some (ni (uf q2[i])),_,.list m3 (.tail (.tail .head)) (by rw[bc,bc,aw qf];rfl),true,_,.own m2,.v_ (ok.cmp rfl) (mW he) rfl .head,.nil,?_⟩;have sG:=aw qf;have n7:=hr _ (bL qf);generalize q2[i]=z at sG n7;have hle:=n7.le;have Fz:=n7.z;have hg:=n7.ge;have h9:=@Ft z.2.2.length (YU hle Fz hg);refine .forget (.binop (.binop (.bt (ok.cmp rfl) (mW he) rx (.cons (.list (.one (.cv (ok.cmp rfl) (mW he) rfl (.head _) m1) (.nil ⟨l9 rfl,λl=>.nil (.ux (ok.cmp rfl) (l:=[z.1]) (.head _) (λn J=>ao.mp J▸YT n7.s0 n7.s2) (l9 rfl) ?_)⟩)))))));refine .wd (ok.cmp rfl) (mW he) .qp (.pC (ok.cmp rfl) (mW he) qk (.cv (ok.cmp rfl) (mW he) rfl m1 (.head _)) (.tU (b:=z.2.2) (YS hle Fz hg))) (.ce (ok.cmp rfl) (mW he) (.tail _ (.tail _ m3))) h9 h0 h2 λb hb hl=>?_;refine mQ.nI (.qW (by rw[ah];exact YR h9 hl)) (.ev (.cv (ok.cmp rfl) (mW he) rfl m1 (.head _)) ?_);refine mQ.nI (.qW (b':=z.2.2) (by rw[aa,ah];exact YQ hle Fz hg h9 hl)) ⟨_,.n8,_,_,(.tail .head),?_,n,pg,hI _ _ ⟨mP,i+1,[(KH,.bytes z.2.2),(DE,.int z.1)],u++[[z.1.toNat.toUInt8]++b++z.2.2],e,sZ hi,by rw[aa,wg];rfl,λe=>IV sG (wh e) ?_,Jr sG ug ?_,?_⟩⟩
  ·rw[ah];exact YP hql wg hi
  ·rw[hb e,n7.eq e];rfl
  ·exact SH n7 hl
  ·rw[au];rfl
end
section
noncomputable abbrev ob(o:List UInt8)(i:Int):Int:=((o.getD i.toNat 0).toNat:Int)
noncomputable def r5(o:List UInt8)(a:Int)(i:Nat):Int:=(ob o (a+i))%128*128^i
noncomputable def lsum(o:List UInt8)(a:Int)(m:Nat):Int:=((iX m).map (r5 o a)).sum
noncomputable def sS(o:List UInt8)(a e:Int):Nat->Nat->Option (Int×Int)
 |0,_=>none
 |n+1,k=>if e<=a+k then none else if ob o (a+k)<128 then(if lsum o a (k+1)<4294967296 then some (lsum o a (k+1),a+k+1)else none)else sS o a e n (k+1)
noncomputable def sj(o:List UInt8)(a e:Int):Option (Int×Int):=sS o a e 5 0
noncomputable def uJ:Option (Int×Int)->AV
 |none=>.none
 |some p=>.tup [.int p.1,.int p.2]
theorem Qo(o:List UInt8)(a:Int)(h:i<5):0<=r5 o a i/\r5 o a i<=34359738368:=by unfold r5;have hp:(0:Int)<=128^i:=gw (by decide);exact⟨jc (ll (ob o (a+i)) (show(128:Int)≠0 by decide)) hp,d8 (Int.mul_le_mul (Ec (gW (ob o (a+i)) (show(0:Int)<128 by decide))) (cR.mpr (cZ (n:=128) (by decide) (Nat.le_of_lt_succ h))) hp (by decide)) (by decide)⟩
theorem RC{l:List Int}(hB:0<=B)(h:∀x∈l,0<=x/\x<=B):0<=l.sum/\l.sum<=B*l.length:=by
 induction l with
 |nil=>simp
 |cons x l ih=>simp only[jl,bZ,Int.natCast_add,Int.natCast_one,Int.mul_add,Int.mul_one];exact Zo (h x (.head _)) (ih λy hy=>h y (.tail _ hy))
theorem SJ{l:List Int}(hl:l.length<=5)(h:∀x∈l,0<=x/\x<=34359738368):iy l:=by intro j hj;have h1:=h _ (bL hj);have h2:=RC (l:=l.take (j+1)) (B:=34359738368) (by decide) λx hx=>h x (eQ hx);rw[cw,aw hj];dsimp only[Option.getD];unfold InLong;exact⟨⟨d8 (by decide) h1.1,ei h1.2 (by decide)⟩,d8 (by decide) h2.1,ei (d8 h2.2 (iG (cR.mpr (by rw[bS];exact Zn hl hj)) (by decide))) (by decide)⟩
section
variable {o:List UInt8}{a e:Int}{n k:Nat}{z:Option (Int×Int)}
theorem KI(h:sS o a e (n+1) k=z)(c:e<=a+k):none=z:=(if_pos c).symm.trans h
theorem Dd(h:sS o a e (n+1) k=z)(c:¬e<=a+k)(d:¬ob o (a+k)<128):sS o a e n (k+1)=z:=((if_neg c).trans (if_neg d)).symm.trans h
theorem KJ(h:sS o a e (n+1) k=z)(c:¬e<=a+k)(d:ob o (a+k)<128)(l:lsum o a (k+1)<4294967296):some (lsum o a (k+1),a+k+1)=z:=((if_neg c).trans ((if_pos d).trans (if_pos l))).symm.trans h
theorem KL(h:sS o a e (n+1) k=z)(c:¬e<=a+k)(d:ob o (a+k)<128)(l:¬lsum o a (k+1)<4294967296):none=z:=((if_neg c).trans ((if_pos d).trans (if_neg l))).symm.trans h
end
section
variable {c:Cx}{σ:Sg}{d:Nat}{E:Ex}
theorem TX:(aB.Int.intBits 128:Int)=8:=by decide
theorem Ev.dig{x:Int}{i:Nat}(hl:Ev c σ l (.int x))(hr:Ev c σ r (.int i))(hi:i<5):Ev c σ (.BinOp (.BinOp l .Mod (.Constant (.int 128) k1 q1) q2) .Mult (.BinOp (.Constant (.int 128) k2 q3) .Pow r q4) q5) (.int (x%128*128^i)):=by
 have hm:(0:Int)<=128^i/\(128:Int)^i<2^64:=by have:i=0\/i=1\/i=2\/i=3\/i=4:=Zm hi;rcases this with rfl|rfl|rfl|rfl|rfl<;>decide
 have h1:Ev c σ (.BinOp l .Mod (.Constant (.int 128) k1 q1) q2) (.int (x%128)):=by
  have:=Ev.binop (pos:=q2) hl (Ev.int (k:=k1) (pos:=q1)) (mQ.mod (b:=128) (by decide))
  rwa [jd _ (by decide)]at this
 have h2:Ev c σ (.BinOp (.Constant (.int 128) k2 q3) .Pow r q4) (.int (128^i)):=.binop .int hr (.pow (Zl hi) (by rw[TX];exact x37 hi));exact .binop h1 h2 (.mulR hm.1 hm.2)
end
theorem HI(hz:o.length<=16000)(h0:0<=a)(nV:e<=o.length):Fn (.ref 449) 1 [.bytes o,.int a,.int e] [] (λav as'=>av=uJ (sj o a e)/\as'=[]) nE:=by
 refine mG.AA Ck id (λs us hl w X=>?_) (λO O h=>h) ?_
 ·obtain⟨a,b,c⟩:=BO hl;exact⟨aC rfl,rfl⟩
 intro x E ok he J ex nd;refine Exits.gen ex.drop λX qx ex=>WS.gen λQ q=>?_;have q0:∀z {lo},z=sj o a e->Q (.ret (uJ z)) ⟨lo,[]⟩:=λz O h=>q _ _ ⟨congrArg _ h,rfl⟩;refine .vN ex.own (λn it σ=>Xs5 λ(mP r:aA) (k:Nat) (y1 y2:Option AV)=>Oq (it=.ref mP) (n+k=5) (sS o a e n k=sj o a e) (σ=⟨[some (.int e),y1,y2],[.is mP (nQ k n 1),.is r (nP 0 5 1),.nq (x.L+1+1) (.int a),.nq (x.L+1) (.bytes o)]⟩)) 5 (λP w=>?_) (λit σ W h=>?_) λn it σ W w h=>?_
 ·exact .bt ok he sM (.one .int (.nil (.uw λr=>.range (.head _) rfl λit=>w _ _ ⟨it,r,0,none,none,rfl,rfl,rfl,rfl⟩)))
 ·obtain⟨mP,r,k,y1,y2,eq,hk,hN,es⟩:=h;rw[eq,es];exact⟨none,_,.sL ok .head (tT),.ret (.forget (.ev .none ⟨[],.nil,q0 none hN⟩))⟩
 refine cps λV V'=>?_;obtain⟨mP,r,k,y1,y2,eq,hk,hN,es⟩:=h;refine V' ?_;rw[eq,es];refine⟨some (.int k),_,.range ok .head (tS),_,.name ok J .t1,?_⟩;refine .qq (.cmp (.binop (.ce ok he m2) (.nm ok J .t1) .add) (.nm ok J .here) .ge) (λh=>.ret (.forget (.ev .none ⟨[],.nil,w _ _ (q0 none (KI hN h))⟩))) (λh=>?_);refine .qq (.cmp (.item (.ce ok he m3) (.binop (.ce ok he m2) (.nm ok J .t1) .add) (.bytes (Zk h0 hk) (Zj nV h) (oO hz))) .int .lt) (λh1=>?_) (λh1=>?_)
 rotate_left
 ·refine .nil (w _ _ ⟨n,pg,mP,r,k+1,some (.int k),y2,eq,Bo hk,Dd hN h h1,?_⟩);rw[show((n+1:Nat):Int)-1=n by exact uA];rfl
 refine .st ok he J (.forget (.bf ok he Vf (.cons (.Lx ok (λm D C OD σ=>uY λ(qP r2:aA) (i:Nat) (f:List (Str×AV))=>ua (OD=.ref qP) (m+i=k+1) (σ=⟨[some (.int e),some (.int k),y2],[.nf C f,.lst D (((iX i).map (r5 o a)).map .int),.is qP (nQ i m 1),.is r2 (nP 0 ((k:Int)+1) 1),.is mP (nQ ((k:Int)+1) (((n+1:Nat):Int)-1) 1),.is r (nP 0 5 1),.nq (x.L+1+1) (.int a),.nq (x.L+1) (.bytes o)]⟩)) (k+1) (cl:=[(pV,x.L+1),(uG,x.L+1+1)]) (by rw[he];rfl) (by decide +kernel) ?_ ?_))))
 ·refine .bt ok he sM (.one (.binop (.nm ok J .t1) .int .add) (.nil (.uw λr2=>.range (.head _) (small_one (by decide) (by decide) (Zi hk) (Zh hk)) λqP D C=>?_)));rw[show aB.Range.rangeSize 0 ((k:Int)+1) 1=((k+1:Nat):Int)from rangeSize_nat (k+1)];exact⟨.range m2,qP,r2,0,[],rfl,rfl,rfl⟩
 intro m D C OD σ I' K' hI hK h3;obtain⟨qP,r2,i,f,eq2,FC,wb⟩:=h3;rw[eq2,wb];refine(fv m).elim (λhm=>?_) λhm=>?_
 ·have hi:i=k+1:=by rw[hm,dH]at FC;exact FC
  rw[hi,hm];refine⟨none,_,.sL ok .t2 (tT),f,_,.head,hK _ (.nil (.sum ok (.head _) ?_ ⟨_,.n8,_,.t2,?_⟩))⟩
  ·refine SJ (by rw[ah,kh];exact US hk) λz hz=>(aG.mp hz).elim λi hi=>hi.2▸Qo o a (Zg hk (List.mem_range.mp hi.1))
  rw[show(k_ (r5 o a) (iX (k+1))).sum=lsum o a (k+1)from rfl];refine(aq (lsum o a (k+1)<4294967296)).elim (λhl=>?_) λhl=>?_
  ·exact .ret (.forget (.ite (Tr.wt (.is (.cmp (.nm ok J .t2) .int .lt) (decide_eq_true hl)) (.tuple (.one (.nm ok J .t2) (.one (.binop (.binop (.ce ok he m3) (.nm ok J .t1) .add) .int .add) (.nil ⟨l9 rfl,[],.nil,w _ _ (q0 _ (KJ hN h h1 hl))⟩)))))))
  ·exact .ret (.forget (.ite (Tr.wt (.is (.cmp (.nm ok J .t2) .int .lt) (decide_eq_false hl)) (.ev .none ⟨[],.nil,w _ _ (q0 none (KL hN h h1 hl))⟩))))
 have BA:m-1+1+i=k+1:=by rw[<-((gS hm).symm)];exact FC
 refine⟨some (.int i),_,.range ok (.tail (.tail .head)) (dI.mpr hm),true,_,.name,.cv (ok.cmp rfl) (mW he) rfl .head,.nil,?_⟩;refine .ev (.dig (x:=ob o (a+i)) (i:=i) (.item (.ce (ok.cmp rfl) (mW he) (.tail _ (.tail _ (.tail _ (.tail _ m3))))) (.binop (.ce (ok.cmp rfl) (mW he) (.tail _ (.tail _ (.tail _ m3)))) (.cv (ok.cmp rfl) (mW he) rfl (.head _) (.head _)) .add) (.bytes (Zf h0) (Ze nV h BA) (oO hz))) (.cv (ok.cmp rfl) (mW he) rfl (.head _) (.head _)) (Zd hk BA)) ⟨_,_,(.tail .head),by rw[ah,ah,kh];exact Zc hk BA,m-1,Nat.sub_lt hm Nat.one_pos,hI _ _ ⟨qP,r2,i+1,[(af "i",.int i)],eq2,Zb BA,?_⟩⟩;rw[iC,au,au,show(m:Int)-1=((m-1:Nat):Int)from(Int.ofNat_sub hm).symm]
 rfl
end
section
noncomputable def rB(p:Nat):Bool:=decide (p<55296)||(decide (57344<=p)&&decide (p<1114112))
theorem zZ:rB p=true↔isSign p:=by simp[rB,isSign]
noncomputable def pM(o:List UInt8)(a m:Nat):Nat:=((o.drop (a+1)).take (m-1)).foldl (λp c=>p*64+c.toNat%64) (if m=1 then(o.getD a 0).toNat else(o.getD a 0).toNat%2^(7-m))
noncomputable def uo(o:List UInt8)(a:Nat)(e:Int):Nat->Nat->Option (Nat×Int)
 |0,_=>none
 |n+1,m=>if decide ((a:Int)+m<=e)&&rB (pM o a m)&&decide (u8 (pM o a m)=(o.drop a).take m)then some (pM o a m,(a:Int)+m)else uo o a e n (m+1)
noncomputable def rY(o:List UInt8)(a:Nat)(e:Int):Option (Nat×Int):=uo o a e 4 1
noncomputable def DF:Option (Nat×Int)->AV
 |none=>.none
 |some p=>.tup [.str [p.1],.int p.2]
theorem J0{z}(h:uo o a e (n+1) m=z)(k:(decide ((a:Int)+m<=e)&&rB (pM o a m)&&decide (u8 (pM o a m)=(o.drop a).take m))=false):uo o a e n (m+1)=z:=(if_neg (ey.mp k)).symm.trans h
theorem KN{z}(h:uo o a e (n+1) m=z)(k:(decide ((a:Int)+m<=e)&&rB (pM o a m)&&decide (u8 (pM o a m)=(o.drop a).take m))=true):some (pM o a m,(a:Int)+m)=z:=(if_pos k).symm.trans h
theorem RD(p:Nat):(decide ((p:Int)<55296)||((decide ((57344:Int)<=p)&&decide ((p:Int)<1114112))||false))=rB p:=by
 (rewrite[rB,(decide_eq_decide.mpr Zt),(decide_eq_decide.mpr Zs),(decide_eq_decide.mpr Zr),cS];with_reducible rfl)
section
variable {c:Cx}{σ:Sg}{d:Nat}{E:Ex}
theorem Vq:(aB.Int.intBits 2:Int)=2:=by decide
theorem Ev.TY{x m:Nat}(hl:Ev c σ l (.int x))(hr:Ev c σ r (.int m))(hm:m<=7):Ev c σ (.BinOp l .Mod (.BinOp (.Constant (.int 2) k1 q1) .Pow (.BinOp (.Constant (.int 7) k2 q2) .Sub r q3) q4) q5) (.int ((x%2^(7-m):Nat):Int)):=by
 have h2:Ev c σ (.BinOp (.Constant (.int 2) k1 q1) .Pow (.BinOp (.Constant (.int 7) k2 q2) .Sub r q3) q4) (.int ((2^(7-m):Nat):Int)):=by
  have:=Ev.binop (pos:=q4) (Ev.int (c:=c) (σ:=σ) (i:=2) (k:=k1) (pos:=q1)) (Ev.binop (pos:=q3) (Ev.int (k:=k2) (pos:=q2)) hr mQ.sub) (mQ.pow (a:=2) (b:=7-(m:Int)) (ZH hm) (by rw[Vq];exact x39 hm));rw[show((7:Int)-m).toNat=7-m by exact ZG hm]at this
  simpa using this
 have:=Ev.binop (pos:=q5) hl h2 (.mod (by have:=Nat.pow_pos (n:=7-m) (show 0<2 by decide);exact Mx this))
 rwa [Bc]at this
end
theorem GO{o:List UInt8}{a m:Nat}(h:(a:Int)+m<=e)(he:e<=o.length)(k:Nat)(hk:k<=m):cut o (some ((a:Int)+k)) (some ((a:Int)+m))=(o.drop (a+k)).take (m-k):=by have:=Dw o ((a:Int)+k) (((m-k:Nat):Int)) (ZF) (ZE) (ZD h he hk);rw[show(a:Int)+k+((m-k:Nat):Int)=a+m by exact ZC hk,show((a:Int)+k).toNat=a+k by exact ZA,bg]at this;exact this
theorem QM{a:Nat}(hz:o.length<=16000)(nV:e<=o.length):Fn (.ref 456) 2 [.bytes o,.int a,.int e] [] (λav as'=>av=DF (rY o a e)/\as'=[]) nE:=by
 refine mG.enter F8 id (λs us hl w X=>yg hl λa b c=>aC rfl) (λO O h=>h) ?_;intro x E ok he J ex nd;refine Exits.gen ex.drop λX qx ex=>WS.gen λQ q=>?_;have q0:∀z {lo},z=rY o a e->Q (.ret (DF z)) ⟨lo,[]⟩:=λz O h=>q _ _ ⟨congrArg _ h,rfl⟩;refine .vN ex.own (λn it σ=>zv λ(mP r:aA) (m:Nat) (y1 y2 y3:Option AV)=>BZ (it=.ref mP) (n+m=5) (1<=m) (uo o a e n m=rY o a e) (σ=⟨[some (.bytes o),some (.int a),some (.int e),y1,y2,y3],[.is mP (nQ m n 1),.is r (nP 1 5 1)]⟩)) 4 (λP w=>?_) (λit σ W h=>?_) λn it σ W w h=>?_
 ·exact .bt ok he sM (.one .int (.one .int (.nil (.Uq λr=>.range (.head _) rfl λit=>w _ _ ⟨it,r,1,none,none,none,rfl,rfl,bz _,rfl,rfl⟩))))
 ·obtain⟨mP,r,m,y1,y2,y3,eq,hk,hm,hN,es⟩:=h;rw[eq,es];exact⟨none,_,.sL ok .head (tT),.ret (.forget (.ev .none ⟨[],.nil,q0 none hN⟩))⟩
 obtain⟨mP,r,m,y1,y2,y3,eq,hk,hm,hN,es⟩:=h;rw[eq,es];refine⟨some (.int m),_,.range ok .head (tS),_,.name ok J .t3,?_⟩;have next:∀y2 y3,(decide ((a:Int)+m<=e)&&rB (pM o a m)&&decide (u8 (pM o a m)=(o.drop a).take m))=false->W .next ⟨[some (.bytes o),some (.int a),some (.int e),some (.int m),y2,y3],[.is mP (nQ ((m:Int)+1) (((n+1:Nat):Int)-1) 1),.is r (nP 1 5 1)]⟩:=λy2 y3 h=>by rw[show((n+1:Nat):Int)-1=n by exact uA];exact w _ _ ⟨n,pg,mP,r,m+1,some (.int m),y2,y3,eq,Bo hk,Zz hm hk,J0 hN h,rfl⟩
 refine .qq (.cmp (.binop (.nm ok J .t1) (.nm ok J .t3) .add) (.nm ok J .t2) .le) (λh=>?_) (λh=>.nil (next _ _ (by rw[decide_eq_false h];rfl)));obtain⟨p0,FD⟩:∃p0,p0=if m=1 then(o.getD a 0).toNat else(o.getD a 0).toNat%2^(7-m):=⟨_,rfl⟩;refine .st ok he J (.ev (x:=.int p0) ?_ ⟨_,.t4,?_⟩)
 ·refine(aq (m=1)).elim (λh1=>?_) λh1=>?_
  ·rw[FD,if_pos h1];exact .yH (.is (.cmp (.nm ok J .t3) .int .eq) (decide_eq_true (Zy hk h1))) (.item (.nm ok J .here) (.nm ok J .t1) (.bytes (uz) (Zx nV hk h h1) (oO hz)))
  ·rw[FD,if_neg h1];exact .yI (.is (.cmp (.nm ok J .t3) .int .eq) (decide_eq_false (Zw hk h1))) (.TY (.item (.nm ok J .here) (.nm ok J .t1) (.bytes (uz) (Zv nV hm hk h) (oO hz))) (.nm ok J .t3) (Zu hm hk))
 obtain⟨sl,zd⟩:∃sl,sl=(o.drop (a+1)).take (m-1):=⟨_,rfl⟩;refine .vN ex.own (λk FE σ=>zu λ(qP:aA) (j:Nat) (y:Option AV)=>ua (FE=.ref qP) (k+j=sl.length) (σ=⟨[some (.bytes o),some (.int a),some (.int e),some (.int m),some (.int ((sl.take j).foldl (λp c=>p*64+c.toNat%64) p0:Nat)),y],[.is qP (vg sl j),.is mP (nQ ((m:Int)+1) (((n+1:Nat):Int)-1) 1),.is r (nP 1 5 1)]⟩)) sl.length (λP w=>?_) (λFE σ W2 h2=>?_) λk FE σ W2 w2 h2=>?_
 ·refine .ev (.slice (.nm ok J .here) (.some (.binop (.nm ok J .t1) .int .add)) (.some (.binop (.nm ok J .t1) (.nm ok J .t3) .add)) (.bytes (oO hz))) ?_;rw[show cut o (some ((a:Int)+1)) (some ((a:Int)+m))=sl by rw[zd];exact GO h nV 1 hm];exact .bytes λqP=>w _ _ ⟨qP,0,y3,rfl,rfl,rfl⟩
 ·obtain⟨qP,j,y,eq2,hj,wb⟩:=h2;rw[eq2,wb];refine⟨none,_,.I6 ok .head (b7 (sd hj)),?_⟩;rw[b6 (sd hj),<-(by rw[FD,zd];rfl:pM o a m=sl.foldl (λp c=>p*64+c.toNat%64) p0)];have fin:=λk=>q0 (lo:=[some (.bytes o),some (.int a),some (.int e),some (.int m),some (.int (pM o a m)),y]) _ (KN hN k);generalize pM o a m=p at next fin;refine .n3 (.is (b':=rB p) (.or (.cmp (.nm ok J .t4) .int .lt) λO=>.or (.chain .int (.nm ok J .t4) .int .le .lt) λO=>.t6) (RD p)) (λhs=>?_) (λhs=>.nil (.nil (next _ _ (by rw[hs,ez];rfl))));have mY:p<1114112:=Ei (zZ.mp hs);refine .rL (.tY (.fn ok he Hz Cv.keep (.one (.nm ok J .t4) (.nil (mG.op (as:=[]) (rest:=[.is mP (nQ ((m:Int)+1) (((n+1:Nat):Int)-1) 1),.is r (nP 1 5 1)]) (IU mY) ok ex (by decide) .refl (nF ?_) (λO O h=>h.elim))))));refine .ev (.slice (.nm ok J .here) (.some (.nm ok J .t1)) (.some (.binop (.nm ok J .t1) (.nm ok J .t3) .add)) (.bytes (oO hz))) (mQ.nI .eqB ⟨_,rfl,?_⟩);have Bz:cut o (some (a:Int)) (some ((a:Int)+m))=(o.drop a).take m:=by
   have:=GO h nV 0 (bB _)
   rwa [show((0:Nat):Int)=0 from rfl,dc]at this
  rw[Bz];refine EG (λhu=>?_) λhu=>.nil (.nil (.nil (.nil (next _ _ (by rw[decide_eq_false hu,ez])))));exact .ret (.forget (.tuple (.cons (.bf ok he D6 (.one (.nm ok J .t4) (.nil (oB.op (.chr (Zq mY) (Zp mY)) (.one (.binop (.nm ok J .t1) (.nm ok J .t3) .add) (.nil ⟨l9 rfl,[],.nil,w _ _ (fin (by rw[decide_eq_true h,hs,decide_eq_true hu];rfl))⟩)))))))))
 refine cps λV V'=>?_;obtain⟨qP,j,y,eq2,hj,wb⟩:=h2;refine V' ?_;rw[eq2,wb];have zA:j<sl.length:=rJ hj;have hs:sl[j]?=some sl[j]:=aw zA;refine⟨some (.int sl[j].toNat),_,.bytes ok .head hs,_,.name ok J (.there .t4),?_⟩;refine .lt ok J (.binop (.binop (.nm ok J .t4) .int (.mulR (by decide) (by decide))) (.binop (.nm ok J (.there .t4)) .int (.mod (by decide))) .add) .t4 (.nil (w2 _ _ ⟨k,pg,qP,j+1,some (.int sl[j].toNat),eq2,sZ hj,?_⟩));rw[bD,hs,List.foldl_append,show(64:Int)=((64:Nat):Int)from rfl,Bc]
 rfl
end
section
noncomputable def qT(o:List UInt8)(stop:Int):Nat->Nat->Option (List Nat)
 |0,_=>some []
 |n+1,a=>if stop<=a then some []else match rY o a stop with
  |none=>none
  |some p=>(qT o stop n p.2.toNat).map (λO=>p.1::O)
theorem Ib(o:List UInt8)(stop:Int)(n a:Nat):qT o stop (n+1) a=if stop<=a then some []else match rY o a stop with
  |none=>none
  |some p=>(qT o stop n p.2.toNat).map (λO=>p.1::O):=rfl
noncomputable def tN(o:List UInt8)(a e:Int):Option (List Nat×Int):=
 match sj o a e with
 |none=>none
 |some p=>if e<p.2+p.1 then none else(qT o (p.2+p.1) p.1.toNat p.2.toNat).map (·,p.2+p.1)
noncomputable def yw:Option (List Nat×Int)->AV
 |none=>.none
 |some p=>.tup [.str p.1,.int p.2]
theorem HJ(o:List UInt8)(a:Int)(m:Nat):0<=lsum o a m:=by
 unfold lsum;have:∀l:List Nat,0<=(l.map (r5 o a)).sum:=by
  intro l;induction l with
  |nil=>simp
  |cons i l ih=>
   have h:0<=r5 o a i:=by unfold r5;exact jc (ll _ (by decide)) (gw (by decide))
   simp only[bE,jl];exact ZX ih h
 exact this _
theorem PT(h:sS o a e n k=some (v,p)):0<=v/\v<4294967296/\a<p/\p<=e:=by
 induction n generalizing k with
 |zero=>cases h
 |succ n ih=>refine(aq (e<=a+k)).elim (λc=>absurd ((if_pos c).symm.trans h) nofun) λc=>?_;replace h:=(if_neg c).symm.trans h;refine(aq (ob o (a+k)<128)).elim (λd=>?_) λd=>ih ((if_neg d).symm.trans h);replace h:=(if_pos d).symm.trans h;refine(aq (lsum o a (k+1)<4294967296)).elim (λl=>?_) λl=>absurd ((if_neg l).symm.trans h) nofun;cases(if_pos l).symm.trans h;exact⟨HJ _ _ _,l,ZW,ZV c⟩
theorem uk(h:sj o a e=some (v,p)):0<=v/\v<4294967296/\a<p/\p<=e:=PT h
theorem Pp(hm:1<=m)(h:uo o a e n m=some (p,i)):isSign p/\(a:Int)<i/\i<=e:=by
 induction n generalizing m with
 |zero=>cases h
 |succ n ih=>refine(aq ((decide ((a:Int)+m<=e)&&rB (pM o a m)&&decide (u8 (pM o a m)=(o.drop a).take m))=true)).elim (λc=>?_) λc=>ih (ZT hm) ((if_neg c).symm.trans h);cases(if_pos c).symm.trans h;have c:=(aV.mp (aV.mp c).1);exact⟨zZ.mp c.2,ZU hm,of_decide_eq_true c.1⟩
theorem PU(h:rY o a e=some (p,i)):isSign p/\(a:Int)<i/\i<=e:=Pp (by decide) h
section
variable {o:List UInt8}{a e v p stop:Int}{n i:Nat}
theorem KO(h:stop<=i):qT o stop n i=some []:=by
 cases n with
 |zero=>rfl
 |succ n=>exact if_pos h
theorem J1(h:¬stop<=i)(k:rY o i stop=none):qT o stop (n+1) i=none:=by rw[Ib];refine(if_neg h).trans ?_;rw[k]
theorem J2{q}(h:¬stop<=i)(k:rY o i stop=some q):qT o stop (n+1) i=(qT o stop n q.2.toNat).map (λO=>q.1::O):=by rw[Ib];refine(if_neg h).trans ?_;rw[k]
theorem J3(h:sj o a e=none):tN o a e=none:=by rw[tN,h]
theorem J4(h:sj o a e=some (v,p))(k:e<p+v):tN o a e=none:=by rw[tN,h];exact if_pos k
theorem J5{v p:Nat}(h:sj o a e=some ((v:Int),(p:Int)))(k:¬e<(p:Int)+v):tN o a e=(qT o ((p:Int)+v) v p).map λO=>(O,(p:Int)+v):=by rw[tN,h];refine(if_neg k).trans ?_;rw[bg,bg]
end
section
variable {c:Cx}{σ:Sg}{d:Nat}{E:Ex}
theorem Ev.pN(h:Ev c σ e (.tup [x,y])):Ev c σ (.Subscript e (.Constant (.int 0) k q1) q2) x:=.item h .int (.tup (by decide) (by decide) rfl)
theorem Ev.qr(h:Ev c σ e (.tup [x,y])):Ev c σ (.Subscript e (.Constant (.int 1) k q1) q2) y:=.item h .int (.tup (by decide) (by decide) rfl)
end
theorem QN(hz:o.length<=16000)(h0:0<=a)(nV:e<=o.length):Fn (.ref 463) 3 [.bytes o,.int a,.int e] [] (λav as'=>av=yw (tN o a e)/\as'=[]) nE:=by
 refine mG.enter Cw id (λs us hl w X=>yg hl λa b c=>aC rfl) (λO O h=>h) ?_;intro x E ok he J ex nd;refine Exits.gen ex.drop λX qx ex=>WS.gen λQ q=>?_;have q0:∀z {lo},tN o a e=z->Q (.ret (yw z)) ⟨lo,[]⟩:=λz O h=>q _ _ (by rw[h];exact⟨rfl,rfl⟩);refine .st ok he J (.fn ok he GI Ck.keep (.one (.nm ok J .here) (.one (.nm ok J .t1) (.one (.nm ok J .t2) (.nil (mG.op (as:=[]) (rest:=[]) (HI hz h0 nV) ok ex (by decide) .refl (nF ⟨_,.t3,?_⟩) (λO O h=>h.elim)))))));cases hN:sj o a e with
 |none=>exact .n3 (.is (b':=true) (Tr.or (b':=false) (.cmp (.nm ok J .t3) .none (.isNone rfl)) λh=>nomatch h) rfl) (λO=>.ret (.ev .none (q0 none (J3 hN)))) (λh=>nomatch h)
 |some z=>
  obtain⟨v,p⟩:=z;have hr:=uk hN;dsimp only[uJ];refine .qq (.is (b':=decide (e<p+v)) (.or (.cmp (.nm ok J .t3) .none (.isNone rfl)) λO=>.or (.cmp (.binop (.qr (.nm ok J .t3)) (.pN (.nm ok J .t3)) .add) (.nm ok J .t2) .gt) λO=>.t6) (cS _)) (λh=>.ret (.ev .none (q0 none (J4 hN h)))) (λh=>?_);refine .us ok he J (.tuple (.one (.qr (.nm ok J .t3)) (.one (.binop (.qr (.nm ok J .t3)) (.pN (.nm ok J .t3)) .add) (.cons (.list (.nil ⟨l9 rfl,λsg=>.nil ⟨l9 rfl,?_⟩⟩))))));refine⟨_,_,rfl,rfl,.cons (.there .t4) (.cons .t4 (.cons .t1 .nil)),?_⟩;refine(bF (show 0<=p by exact r_ h0 hr.2.2.1)).elim λi0 e8=>?_;subst e8;obtain⟨v,rfl⟩:=bF hr.1;have hL:=J5 hN h;refine .AD ex.own (λn σ=>zu λ(i:Nat) (l:List Nat) (y:Option AV)=>BZ ((i:Int)+n>=i0+v) (i<=i0+v) (l.length<=i) ((qT o ((i0:Int)+v) n i).map (λO=>l++O)=qT o ((i0:Int)+v) v i0) (σ=⟨[some (.bytes o),some (.int i),some (.int e),y,some (.int ((i0:Int)+v)),some (.ref sg)],[.lst sg (l.map λk=>.str [k])]⟩)) v ⟨i0,[],_,ZS,ZR hr.1 hr.2.1,bB _,congrFun kQ _,rfl⟩ ?_;intro n σ W w h3;refine cps λV V'=>?_;obtain⟨i,l,y,hi,OF,hl,hT,es⟩:=h3;refine V' ?_;rw[es];refine Tr.br (.cmp (.nm ok J .t1) (.nm ok J .t4) .lt) (λmY=>?_) λmY=>?_
  ·have tm:n=n-1+1:=ZQ hi mY;rw[tm]at hi hT;have Nn:¬(i0:Int)+v<=i:=ZP mY;refine .st ok he J (.fn ok he PL F8.keep (.one (.nm ok J .here) (.one (.nm ok J .t1) (.one (.nm ok J .t4) (.nil (mG.op (as:=[]) (rest:=[.lst sg (l.map λk=>.str [k])]) (QM hz (My nV h)) ok ex (by decide) .refl (nF ⟨_,.t3,?_⟩) (λO O h=>h.elim)))))));cases hF:rY o i ((i0:Int)+v)with
   |none=>exact .n3 (.cmp (.nm ok J .t3) .none (.isNone rfl)) (λO=>.ret (.forget (.ev .none ⟨[],.nil,w _ _ (q0 none (hL.trans (by rw[<-hT,J1 Nn hF];rfl)))⟩))) (λh=>nomatch h)
   |some z=>obtain⟨s,i'⟩:=z;have hf:=PU hF;refine(bF (show 0<=i' by exact ZO hz nV h mY hf.2.1)).elim λi' e8=>?_;subst e8;refine .n3 (.cmp (.nm ok J .t3) .none (.isNone rfl)) (λh=>nomatch h) (λO=>?_);refine .ex he (.nX ok (.nm ok J (.there .t4)) (.append (.head _)) .builtin (.one (.pN (.nm ok J .t3)) (.nil (.append .head (by rw[ah];exact ZN hz nV h hl hf.2.1 hf.2.2) ⟨rfl,?_⟩))));refine .lt ok J (.qr (.nm ok J .t3)) .t1 (.nil (w _ _ ⟨n-1,by rw[tm];exact pg,i',l++[s],some (DF (some (s,(i':Int)))),ZM hi hf.2.1,ZL hf.2.2,by rw[aa];exact ZK hl hf.2.1,?_,by rw[au];rfl⟩));rw[<-hT,J2 Nn hF,kA];exact congrArg (λf=>fO f _) (funext λr=>aj l [s] r)
  ·refine .ret (.forget (.tuple (.cons (.nX ok .str .join .builtin (.one (.nm ok J (.there .t4)) (.nil (.join (.head _) (ZJ hz h0 nV hr.2.2.1 hr.2.2.2 hr.1 hr.2.1 h OF hl mY) (.one (.nm ok J .t4) (.nil ⟨l9 rfl,[],.nil,q0 (some (l,(i0:Int)+v)) (hL.trans ?_)⟩)))))))));rw[<-hT,KO (ZI OF mY)];exact congrArg (λz=>some (z,_)) (aW l)
end
theorem IW(o:List UInt8)(a:Int)(k:Nat):lsum o a (k+1)=lsum o a k+r5 o a k:=by unfold lsum;rw[iC,au,List.sum_append];simp
theorem J6(o:List UInt8)(a:Int)(k:Nat):lsum o a k<128^k:=by
 induction k with
 |zero=>exact Int.one_pos
 |succ k ih=>rw[IW,Int.pow_succ];unfold r5;exact Z0 ih (ix (Ec (gW (ob o (a+k)) (show(0:Int)<128 by decide))) (dJ (Int.pow_pos (by decide))))
theorem acS(k:Nat):(2:Int)^(7*k)=128^k:=by rw[Int.pow_mul];rfl
theorem Ca{k:Nat}{b:Int}(h:k<=3):¬L1 (7*k) b:=λx=>z22 h x.1
theorem OG{k:Nat}{b:Int}(h:k<=3):¬L2 (7*k) b:=λx=>z23 h x.1
theorem FF(b:Int):(b%128).fdiv (2^(32-7*4))=b%128/16:=dY _ (show(0:Int)<=16 by decide)
theorem SK{o:List UInt8}{a:Int}{k:Nat}(h:k<=3):lsum o a (k+1)<4294967296:=
 fw (J6 o a (k+1)) (d8 (cR.mpr (cZ (n:=128) (by decide) (z27 h))) (by decide))
theorem Qp(o:List UInt8)(a e:Int)(n:Nat):∀k:Nat,n+k=5->sS o a e n k=mU o e n (a+k) (7*k) (lsum o a k):=
 n.rec (λO O'=>rfl) λn ih k h=>(aq (e<=a+k)).elim (λc=>(KI rfl c).symm.trans (C8 c).symm) λc=>by
 have hs:lsum o a (k+1)=lsum o a k+ob o (a+k)%128*2^(7*k):=(IW o a k).trans (by rw[acS];rfl);have hl:=J6 o a k;have h0:=HJ o a k;have ih:=ih (k+1) (Bo h);rw[hs,show a+((k+1:Nat):Int)=a+k+1 by exact ZZ,show 7*(k+1)=7*k+7 by exact ZY]at ih
 refine (aq (ob o (a + k) < 128)).elim (fun d => (aq (lsum o a (k + 1) < 4294967296)).elim (fun l => ?_) fun l => ?_) fun d => (aq (k ≤ 3)).elim (fun hk => (Dd rfl c d).symm.trans (ih.trans (AH rfl c (Ca hk) (OG hk) d).symm)) fun hk => ?_
 ·refine (KJ rfl c d l).symm.trans ((congrArg (fun x => some (x, a + k + 1)) hs).trans (Am rfl c (fun x => (aq (k ≤ 3)).elim (Ca · x) fun hk => ?_) (fun x => df.mpr d x.2) d).symm)
  refine(E0 h hk).elim λe9 O=>?_;subst e9
  rw[hs]at l
  exact x.2 ((FF _).trans (z24 h0 l))
 ·refine(aq (k<=3)).elim (λhk=>(l (SK hk)).elim) λhk=>?_;refine(E0 h hk).elim λe9 O=>?_;subst e9;rw[hs]at l;exact(KL rfl c d (by rw[hs];exact l)).symm.trans (AG rfl c ⟨by decide,λx=>z25 hl l ((FF _).symm.trans x)⟩).symm
 ·refine(E0 h hk).elim λe9 e8=>?_;subst e9;subst e8;exact(Dd rfl c d).symm.trans ((eO (L1 (7*4) (ob o (a+(4:Nat))))).elim (λx=>AG rfl c x) λx=>Dx rfl c x ⟨by decide,eM.mp d⟩).symm
theorem uq(o:List UInt8)(a e:Int):sj o a e=mU o e 5 a 0 0:=by have:=Qp o a e 5 0 rfl;rw[show a+((0:Nat):Int)=a from dc a]at this;exact this
section
noncomputable abbrev q2(b c:UInt8):Nat:=b.toNat%32*64+c.toNat%64
noncomputable abbrev q3(b c d:UInt8):Nat:=(b.toNat%16*64+c.toNat%64)*64+d.toNat%64
noncomputable abbrev q4(b c d e:UInt8):Nat:=((b.toNat%8*64+c.toNat%64)*64+d.toNat%64)*64+e.toNat%64
noncomputable abbrev cnt(c:UInt8):Prop:=128<=c.toNat/\c.toNat<192
theorem r6(b:UInt8):b.toNat<256:=b.toNat_lt
theorem q6(h:n<256):n.toUInt8.toNat=n:=Nat.mod_eq_of_lt h
theorem s_{b:UInt8}(h:n=b.toNat):n.toUInt8=b:=by rw[h];exact UInt8.ofNat_toNat
theorem wU(p:Nat):cnt (128+p%64).toUInt8:=by unfold cnt;rw[q6 vE];exact z13
theorem KP:∀n:L.Fi 256,(aB.bitAnd ((n.val:Nat):Int) 192=128)↔(128<=n.val/\n.val<192):=by decide +kernel
theorem vA{P:Nat}(h:cnt c):nU (c::r) P=nU r ((P*64+c.toNat%64:Nat):Int):=JW λk=>k ((KP ⟨c.toNat,r6 c⟩).mpr h)
theorem wG{X:Prop}{P:Nat}{q:Int}(h:nU (c::r) P=some q)(k:cnt c->nU r ((P*64+c.toNat%64:Nat):Int)=some q->X):X:=
 (aq (aB.bitAnd ((c.toNat:Nat):Int) 192=128)).elim (λe=>have e':=(KP ⟨c.toNat,r6 c⟩).mp e;k e' ((vA e').symm.trans h)) λe=>nomatch (Ji e).symm.trans h
noncomputable def pT(w:List UInt8):Option (Nat×Nat):=
 match w with
 |[]=>none
 |b::r=>match headOf b.toNat with
  |none=>none
  |some (f,p,least)=>if(r.length:Int)<f then none else match nU (r.take f.toNat) p with
   |none=>none
   |some q=>if q<least\/1114111<q\/(55296<=q/\q<57344)then none else some (q.toNat,f.toNat+1)
section
variable {b:UInt8}{r:List UInt8}{f p least q:Int}
theorem Js(e:headOf b.toNat=none):pT (b::r)=none:=by unfold pT;dsimp only;rw[e]
theorem J7(e:headOf b.toNat=some (f,p,least)):pT (b::r)=if(r.length:Int)<f then none else match nU (r.take f.toNat) p with
   |none=>none
   |some q=>if q<least\/1114111<q\/(55296<=q/\q<57344)then none else some (q.toNat,f.toNat+1):=by unfold pT;dsimp only;rw[e]
theorem Jt(e:headOf b.toNat=some (f,p,least))(c:(r.length:Int)<f):pT (b::r)=none:=(J7 e).trans (if_pos c)
theorem DG(e:headOf b.toNat=some (f,p,least))(c:¬(r.length:Int)<f):pT (b::r)=match nU (r.take f.toNat) p with
   |none=>none
   |some q=>if q<least\/1114111<q\/(55296<=q/\q<57344)then none else some (q.toNat,f.toNat+1):=(J7 e).trans (if_neg c)
theorem Ju(e:headOf b.toNat=some (f,p,least))(c:¬(r.length:Int)<f)(k:nU (r.take f.toNat) p=none):pT (b::r)=none:=by rw[DG e c,k]
theorem J8(e:headOf b.toNat=some (f,p,least))(c:¬(r.length:Int)<f)(k:nU (r.take f.toNat) p=some q)(l:uH q least):pT (b::r)=none:=by rw[DG e c,k];exact if_pos l
theorem De(e:headOf b.toNat=some (f,p,least))(c:¬(r.length:Int)<f)(k:nU (r.take f.toNat) p=some q)(l:¬uH q least):pT (b::r)=some (q.toNat,f.toNat+1):=by rw[DG e c,k];exact if_neg l
end
theorem LH{X:Prop}(h:headOf b=some z)(k0:b<128->z=(0,b,0)->X)(k1:192<=b/\b<224->z=(1,b%32,128)->X)(k2:224<=b/\b<240->z=(2,b%16,2048)->X)(k3:240<=b/\b<248->z=(3,b%8,65536)->X):X:=
 (aq (b<128)).elim (λc=>k0 c (aE.inj (h.symm.trans (B1 c)))) λc0=>
 (aq (192<=b/\b<224)).elim (λc=>k1 c (aE.inj (h.symm.trans (wa c)))) λc1=>
 (aq (224<=b/\b<240)).elim (λc=>k2 c (aE.inj (h.symm.trans (hd2 c)))) λc2=>
 (aq (240<=b/\b<248)).elim (λc=>k3 c (aE.inj (h.symm.trans (B2 c)))) λc3=>nomatch h.symm.trans (Fj c0 c1 c2 c3)
theorem acT{X:Prop}(h:pT w=some y)(K:∀b r f P least q,w=b::r->headOf (b.toNat:Nat)=some (f,P,least)->¬(r.length:Int)<f->nU (r.take f.toNat) P=some q->¬uH q least->y=(q.toNat,f.toNat+1)->X):X:=by
 cases w with
 |nil=>exact nomatch h
 |cons b r=>
  cases e:headOf (b.toNat:Nat)with
  |none=>exact nomatch (Js e).symm.trans h
  |some z=>
   refine(Int.lt_or_le r.length z.1).elim (λc=>nomatch (Jt e c).symm.trans h) λc=>?_;have c:¬(r.length:Int)<z.1:=eM.mpr c;cases k:nU (r.take z.1.toNat) z.2.1 with
   |none=>exact nomatch (Ju e c k).symm.trans h
   |some q=>exact(eO (uH q z.2.2)).elim (λl=>nomatch (J8 e c k l).symm.trans h) λl=>K b r _ _ _ q rfl e c k l (aE.inj (h.symm.trans (De e c k l)))
section
variable {p:Nat}
theorem Be(b:UInt8)(r:List UInt8)(e:headOf b.toNat=some (f,P,least))(c:¬(r.length:Int)<f)(k:nU (r.take f.toNat) P=some (p:Int))(l:¬uH p least)(hm:f.toNat+1=m):pT (b::r)=some (p,m):=hm▸De e c k l
theorem KQ(w:List UInt8)(h:isSign p):pT (u8 p++w)=some (p,(u8 p).length):=by
 refine(aq (p<128)).elim (λa=>?_) λa=>(aq (p<2048)).elim (λb=>?_) λb=>(aq (p<65536)).elim (λd=>?_) λd=>?_
 ·rw[xe a];exact Be p.toUInt8 w (by rw[q6 (MB a)];exact B1 (BN a)) (eM.mpr (bM _)) rfl (z8 (b:=0) h (iT p)) rfl
 ·rw[xf a b];exact Be (192+p/64).toUInt8 (_::w) (by rw[q6 (MA a b)];exact wa (z9 a b)) Z8 ((vA (P:=(192+p/64)%32) (wU p)).trans (congrArg (λn:Nat=>some (n:Int)) (by rw[q6 vE,x1];exact z12 b))) (z8 (b:=128) h a) rfl
 ·rw[xg a b d];exact Be (224+p/4096).toUInt8 (_::_::w) (by rw[q6 (Mz b d)];exact hd2 (z10 b d)) Z7 ((vA (P:=(224+p/4096)%16) (wU (p/64))).trans ((vA (wU p)).trans (congrArg (λn:Nat=>some (n:Int)) (by rw[q6 vE,q6 vE,x1,x1,x2 d];exact x4)))) (z8 (b:=2048) h b) rfl
 ·rw[xh a b d];exact Be (240+p/262144).toUInt8 (_::_::_::w) (by rw[q6 (aa5 h d)];exact B2 (z11 h d)) Z6 ((vA (P:=(240+p/262144)%8) (wU (p/4096))).trans ((vA (wU (p/64))).trans ((vA (wU p)).trans (congrArg (λn:Nat=>some (n:Int)) (by rw[q6 vE,q6 vE,q6 vE,x1,x1,x1,x3 (x6 h),show p/262144=p/4096/64 by rw[eC]];exact x5))))) (z8 (b:=65536) h d) rfl
end
theorem acU(h:b.toNat<128):u8 b.toNat=[b]:=(xe h).trans (by rw[s_ rfl])
theorem acV(hb:192<=b.toNat/\b.toNat<224)(hc:cnt c)(h:¬q2 b c<128):u8 (q2 b c)=[b,c]:=(xf h Z_).trans (by
 rw[s_ (b:=b) (by rw[x7];exact(x11 (r6 b)).mpr hb),s_ (b:=c) (by rw[xo];exact(x8 (r6 c)).mpr hc)])
theorem acW(hb:224<=b.toNat/\b.toNat<240)(hc:cnt c)(hd:cnt d)(h:¬q3 b c d<2048):u8 (q3 b c d)=[b,c,d]:=(xg (z5 h) h Z9).trans (by
 have e1:q3 b c d/64=b.toNat%16*64+c.toNat%64:=yZ
 rw[s_ (b:=b) (by rw[(by rw[show q3 b c d/4096=q3 b c d/64/64 by rw[eC],e1];exact yZ:q3 b c d/4096=b.toNat%16)];exact(x9 (r6 b)).mpr hb),s_ (b:=c) (by rw[e1,xo];exact(x8 (r6 c)).mpr hc),s_ (b:=d) (by rw[xo];exact(x8 (r6 d)).mpr hd)])
theorem acX(hb:240<=b.toNat/\b.toNat<248)(hc:cnt c)(hd:cnt d)(he:cnt e)(h:¬q4 b c d e<65536):u8 (q4 b c d e)=[b,c,d,e]:=(xh (z5 (z6 h)) (z6 h) h).trans (by
 have e1:q4 b c d e/64=(b.toNat%8*64+c.toNat%64)*64+d.toNat%64:=yZ;have e3:q4 b c d e/4096=b.toNat%8*64+c.toNat%64:=by rw[show q4 b c d e/4096=q4 b c d e/64/64 by rw[eC],e1];exact yZ
 rw[s_ (b:=b) (by rw[(by rw[show q4 b c d e/262144=q4 b c d e/4096/64 by rw[eC],e3];exact yZ:q4 b c d e/262144=b.toNat%8)];exact(x10 (r6 b)).mpr hb),s_ (b:=c) (by rw[e3,xo];exact(x8 (r6 c)).mpr hc),s_ (b:=d) (by rw[e1,xo];exact(x8 (r6 d)).mpr hd),s_ (b:=e) (by rw[xo];exact(x8 (r6 e)).mpr he)])
noncomputable def wi(w:List UInt8)(m:Nat):Nat:=((w.drop 1).take (m-1)).foldl (λp c=>p*64+c.toNat%64) (if m=1 then(w.headD 0).toNat else(w.headD 0).toNat%2^(7-m))
structure Tk(w:List UInt8)(p k:Nat):Prop where
 s:isSign p
 k1:1<=k
 k4:k<=4
 l:wi w k=p
 h:k<=w.length
 u:u8 p=w.take k
theorem Tk.of(s:isSign p)(J:n<4)(l:wi w (n+1)=p)(h:n+1<=w.length)(u:u8 p=w.take (n+1))(e:(p:Int)=q):Tk w q.toNat (n+1):=e▸⟨s,bU _ _,J,l,h,u⟩
theorem wZ{X:List UInt8->Prop}(h:¬(r.length:Int)<f)(h1:0<f)(k:∀c t,¬(t.length:Int)<f-1->X (c::t)):X r:=by
 cases r with
 |nil=>exact(h h1).elim
 |cons c t=>exact k c t λq=>h (Int.add_lt_of_lt_sub_right q)
theorem yl{w:List UInt8}(h:pT w=some y):Tk w y.1 y.2:=by
 refine acT h λb r f P least q e1 e2 e3 e4 e5 e6=>?_;rw[e1,e6];clear h e1 e6;refine LH e2 (λk e=>?_) (λk e=>?_) (λk e=>?_) (λk e=>?_)<;>cases e<;>clear e2
 ·exact .of (z18 (EZ k)) (by decide) rfl (bU _ _) (acU (EZ k)) (aE.inj e4)
 ·exact wZ (X:=λr=>nU (r.take 1) _=some q->Tk (b::r) _ _) e3 (by decide) (λc r e3 e4=>wG (P:=b.toNat%32) e4 λhc e4=>(λe:((q2 b c:Nat):Int)=q=>
   .of (z1 (e▸e5)) (by decide) rfl (bU _ _) (acV (z14 k) hc (z2 (e▸e5))) e) (aE.inj e4)) e4
 ·exact wZ (X:=λr=>nU (r.take 2) _=some q->Tk (b::r) _ _) e3 (by decide) (λc r e3=>wZ (X:=λr=>nU (c::r.take 1) _=some q->Tk (b::c::r) _ _) e3 (by decide) λd r e3 e4=>wG (P:=b.toNat%16) e4 λhc e4=>wG e4 λhd e4=>(λe:((q3 b c d:Nat):Int)=q=>
   .of (z1 (e▸e5)) (by decide) rfl (bU _ _) (acW (z15 k) hc hd (z3 (e▸e5))) e) (aE.inj e4)) e4
 ·exact wZ (X:=λr=>nU (r.take 3) _=some q->Tk (b::r) _ _) e3 (by decide) (λc r e3=>wZ (X:=λr=>nU (c::r.take 2) _=some q->Tk (b::c::r) _ _) e3 (by decide) λd r e3=>wZ (X:=λr=>nU (c::d::r.take 1) _=some q->Tk (b::c::d::r) _ _) e3 (by decide) λe r e3 e4=>
   wG (P:=b.toNat%8) e4 λhc e4=>wG e4 λhd e4=>wG e4 λhe e4=>(λe':((q4 b c d e:Nat):Int)=q=>
   .of (z1 (e'▸e5)) (by decide) rfl (bU _ _) (acX (z16 k) hc hd he (z4 (e'▸e5))) e') (aE.inj e4)) e4
end
noncomputable def tn(w:List UInt8)(m:Nat):Bool:=decide (m<=w.length)&&(rB (wi w m)&&decide (u8 (wi w m)=w.take m))
theorem J9{o:List UInt8}{a L m:Nat}(h1:1<=m)(hm:m<=L)(hL:a+L<=o.length):pM o a m=wi ((o.drop a).take L) m/\(o.drop a).take m=((o.drop a).take L).take m:=by
 have e3:((o.drop a).take L).headD 0=o.getD a 0:=by
  obtain⟨L,rfl⟩:∃k,L=k+1:=⟨L-1,Z4 h1 hm⟩;rw[fE (show a<o.length by exact ME hL),List.take_succ_cons,List.headD_cons,cw,aw (show a<o.length by exact ME hL)]
  rfl
 refine⟨?_,?_⟩
 ·unfold pM wi;rw[(by rw[lb,lh]:((o.drop a).take L).drop 1=(o.drop (a+1)).take (L-1)),(by rw[k8];congr 1;exact Z5 h1 hm:((o.drop (a+1)).take (L-1)).take (m-1)=(o.drop (a+1)).take (m-1)),e3]
 ·rw[k8];congr 1;exact Z3 hm
theorem Tk.tn{w:List UInt8}{p k:Nat}(h:Tk w p k):tn w k=true:=by unfold Mine.Internal.tn;rw[h.l,decide_eq_true h.h,zZ.mpr h.s,decide_eq_true h.u];rfl
theorem TZ{w:List UInt8}{m:Nat}(h:tn w m=true):pT w=some (wi w m,m):=by have h1:=aV.mp h;have h2:=aV.mp h1.2;have t:=KQ (w.drop m) (zZ.mp h2.1);rw[of_decide_eq_true h2.2,jH,bS,Nat.min_eq_left (of_decide_eq_true h1.1)]at t;exact t
noncomputable abbrev wj(o:List UInt8)(a:Nat)(e:Int)(m:Nat):Bool:=decide ((a:Int)+m<=e)&&rB (pM o a m)&&decide (u8 (pM o a m)=(o.drop a).take m)
theorem UK{o:List UInt8}{a:Nat}{e:Int}{T:Option (Nat×Nat)}(hT:∀m,1<=m->wj o a e m=true->T=some (pM o a m,m))(hF:∀y,T=some y->wj o a e y.2=true)(n:Nat):
  ∀m,1<=m->(∀y,T=some y->m<=y.2/\y.2<m+n)->uo o a e n m=T.map λp=>(p.1,(a:Int)+p.2):=
 n.rec (λm h1 k=>by
  cases T with
  |none=>rfl
  |some y=>exact(z19 (k y rfl).1 (k y rfl).2).elim) λn ih m h1 k=>by
  cases c:wj o a e m with
  |true=>rw[hT m h1 c];exact(KN rfl c).symm
  |false=>exact(J0 rfl c).symm.trans (ih (m+1) (bU _ _) λy hy=>z20 (k y hy) λe=>by
   have:=hF y hy
   rw[e,c]at this;cases this)
theorem KR{o:List UInt8}{a:Nat}{e:Int}{m:Nat}(h1:1<=m)(hm:m<=(e-a).toNat)(he:e<=o.length):wj o a e m=tn ((o.drop a).take (e-a).toNat) m:=by have e1:=J9 (o:=o) (a:=a) h1 hm (MC he h1 hm);unfold wj tn;rw[e1.1,e1.2,decide_eq_true (show(a:Int)+m<=e by exact Z2 h1 hm),decide_eq_true (show m<=((o.drop a).take (e-a).toNat).length by rw[bS,cU,MD he];exact hm)];exact Bool.and_assoc _ _ _
theorem T1{o:List UInt8}{a:Nat}{e:Int}{m:Nat}(hm:¬m<=(e-a).toNat):wj o a e m=false:=by unfold wj;rw[decide_eq_false (show¬(a:Int)+m<=e by exact Z1 hm),iZ,iZ]
theorem QO{o:List UInt8}{a:Nat}{e:Int}(he:e<=o.length):rY o a e=(pT ((o.drop a).take (e-a).toNat)).map λp=>(p.1,(a:Int)+p.2):=by
 refine UK (λm h1 c=>?_) (λy hy=>?_) 4 1 (bz 1) λy hy=>⟨(yl hy).k1,Nat.lt_succ_of_le (yl hy).k4⟩
 ·refine(aq (m<=(e-a).toNat)).elim (λhm=>?_) λhm=>by rw[T1 hm]at c;cases c
  rw[KR h1 hm he]at c;rw[(J9 h1 hm (MC he h1 hm)).1];exact TZ c
 ·have t:=yl hy;have h:=t.h;rw[(by rw[bS,cU];exact MD he:((o.drop a).take (e-a).toNat).length=(e-a).toNat)]at h;rw[KR t.k1 h he];exact t.tn
section
theorem SM(h:headOf b=some t):0<=t.1:=LH h (λO e=>e▸show(0:Int)<=0 by decide) (λO e=>e▸show(0:Int)<=1 by decide) (λO e=>e▸show(0:Int)<=2 by decide) (λO e=>e▸show(0:Int)<=3 by decide)
section
variable {sl:List UInt8}{n i:Nat}
theorem SN(h:i<sl.length):sl.drop i=sl.getD (i:Int).toNat 0::sl.drop (i+1):=by rw[bg,fE h,cw,aw h];rfl
theorem CK(h:sl.length<=i):texts sl (n+1) i=some []:=if_pos (aaq h)
theorem CQ(hi:i<sl.length):texts sl (n+1) i=(pT (sl.drop i)).elim none λp=>(texts sl n ((i+p.2:Nat):Int)).map (λO=>p.1::O):=by
 have qf:¬(sl.length:Int)<=i:=λh=>ja.mpr hi (cR.mp h);rw[SN hi];cases e:headOf ((sl.getD (i:Int).toNat 0).toNat:Nat)with
 |none=>rw[Js e];exact H7 qf e
 |some t=>
  refine(aq ((sl.length:Int)<=i+t.1)).elim (λhf=>(JX qf e hf).trans (by rw[Jt e (by rw[cU];exact aap (ja.mpr hi) hf)];rfl)) λhf=>?_;have hc:¬((sl.drop (i+1)).length:Int)<t.1:=by rw[cU];exact aao (ja.mpr hi) hf
  cases k:nU ((sl.drop (i+1)).take t.1.toNat) t.2.1 with
  |none=>rw[Ju e hc k];exact JY qf e hf k
  |some q=>refine(eO (uH q t.2.2)).elim (λl=>by rw[J8 e hc k l];exact KD qf e hf k l) λl=>?_;rw[De e hc k l];refine(LB qf e hf k l).trans ?_;dsimp only[Option.elim];rw[show((i+(t.1.toNat+1):Nat):Int)=i+1+t.1 by exact aan (SM e)]
end
theorem Qq{b0:Nat}(hs:stop<=o.length)(hb:(b0:Int)<=stop)(n:Nat):∀(m i:Nat),stop<=(b0:Int)+i+n->stop<(b0:Int)+i+m->1<=m->qT o stop n (b0+i)=texts ((o.drop b0).take (stop-b0).toNat) m i:=by
 have hl:((o.drop b0).take (stop-b0).toNat).length=(stop-b0).toNat:=by rw[bS,cU];exact aam hs hb
 have key:∀i:Nat,¬stop<=(b0:Int)+i->rY o (b0+i) stop=(pT (((o.drop b0).take (stop-b0).toNat).drop i)).map λp=>(p.1,((b0+i:Nat):Int)+p.2):=λi hi=>by rw[QO hs,lb,lh,show(stop-((b0+i:Nat):Int)).toNat=(stop-b0).toNat-i by exact aaj hb hl hi]
 generalize(o.drop b0).take (stop-b0).toNat=sl at hl key;have E:∀n m i:Nat,1<=m->stop<=(b0:Int)+i->qT o stop n (b0+i)=texts sl m i:=λn m i h1 hi=>match m,h1 with
  |m+1,_=>(KO (aal hi)).trans (CK (aak hl hi)).symm
 refine n.rec (λm i J hm h1=>E 0 m i h1 (by rw[<-dc ((b0:Int)+i)];exact J)) λn ih m i J hm h1=>(aq (stop<=(b0:Int)+i)).elim (E _ m i h1) λhi=>?_
 match m,h1 with
 |m+1,_=>
  rw[CQ (Nat.lt_of_sub_ne_zero (aai hb hl hi))];cases ht:pT (sl.drop i)with
  |none=>exact J1 (MF hi) (by rw[key i hi,ht];rfl)
  |some p=>
   have hp:=(yl ht).k1;refine(J2 (MF hi) (by rw[key i hi,ht];rfl)).trans ?_;dsimp only[Option.elim];rw[show(((b0+i:Nat):Int)+(p.2:Int)).toNat=b0+(i+p.2) by exact aah hp]
   match m,hm with
   |0,hm=>exact(aag hi hm).elim
   |m+1,hm=>rw[ih (m+1) (i+p.2) (aaf J hp) (aae hp hm) (Eh)]
section
variable {o:List UInt8}{j i v e:Int}
theorem J_(h:mU o j 5 i 0 0=none):nameAt o j i=none:=by rw[nameAt,h]
theorem KS(h:mU o j 5 i 0 0=some (v,e)):nameAt o j i=if j<e+v then none else(texts ((o.drop e.toNat).take v.toNat) (((o.drop e.toNat).take v.toNat).length+1) 0).map λl=>(l,e+v):=by rw[nameAt,h]
theorem Ka(h:mU o j 5 i 0 0=some (v,e))(k:j<e+v):nameAt o j i=none:=(KS h).trans (if_pos k)
theorem D8(h:mU o j 5 i 0 0=some (v,e))(k:¬j<e+v):nameAt o j i=(texts ((o.drop e.toNat).take v.toNat) (((o.drop e.toNat).take v.toNat).length+1) 0).map λl=>(l,e+v):=(KS h).trans (if_neg k)
theorem T2{v p:Nat}(h:mU o j 5 i 0 0=some ((v:Int),(p:Int)))(k:¬j<(p:Int)+v):nameAt o j i=(texts ((o.drop p).take v) (((o.drop p).take v).length+1) 0).map λl=>(l,(p:Int)+v):=D8 h k
end
theorem PV(h0:0<=a)(he:e<=o.length):tN o a e=nameAt o e a:=by
 have hL:=uq o a e;cases h:sj o a e with
 |none=>exact(J3 h).trans (J_ (hL.symm.trans h)).symm
 |some p=>obtain⟨v,p⟩:=p;have hr:=uk h;have h':=hL.symm.trans h;obtain⟨v,rfl⟩:=bF hr.1;obtain⟨p,rfl⟩:=bF (show 0<=p by exact r_ h0 hr.2.2.1);refine(aq (e<(p:Int)+v)).elim (λhv=>(J4 h hv).trans (Ka h' hv).symm) λhv=>?_;refine(J5 h hv).trans (Eq.trans ?_ (T2 h' hv).symm);have:=Qq (o:=o) (b0:=p) (stop:=(p:Int)+v) (My he hv) (aad hr.1 hr.2.1) v (((o.drop p).take v).length+1) 0 (aac) (by rw[bS,cU];exact aab he hr.2.2.2 hv) (Eh);rw[show((p:Int)+v-p).toNat=v by exact aaa hr.1 hr.2.1,jG]at this;rw[this];rfl
end
section
theorem PX(hz:o.length<=16000)(h0:0<=a)(he:e<=o.length):Fn (.ref 449) 1 [.bytes o,.int a,.int e] [] (λav as'=>av=uJ (mU o e 5 a 0 0)/\as'=[]) nE:=by rw[<-uq];exact HI hz h0 he
theorem HK(hz:o.length<=16000)(h0:0<=a)(he:e<=o.length):Fn (.ref 463) 3 [.bytes o,.int a,.int e] [] (λav as'=>av=yw (nameAt o e a)/\as'=[]) nE:=by rw[<-PV h0 he];exact QN hz h0 he
noncomputable def uK:Option Int->AV
 |none=>.none
 |some i=>.int i
section
variable {c:Cx}{σ:Sg}{d:Nat}{E:Ex}{ε:Env}
theorem WE.num(ok:Ok c d)(he:c.env=ε)(ex:Exits c E XX)(h1:Ev c σ e1 (.bytes o))(h2:Ev c σ e2 (.int a))(h3:Ev c σ e3 (.int e))(hz:o.length<=16000)(h0:0<=a)(hj:e<=o.length)(q:Q (uJ (mU o e 5 a 0 0)) σ)
  (hd:autoParam (1<=d) aD)(hx:autoParam (ε.kindOf (af "_law_number")=some .globalImplicit) aR)(qz:autoParam (∀env,aU [e1,e2,e3] env=(false,aT e1 env)::aU [e2,e3] env) aI)(rh:autoParam (∀env,aU [e2,e3] env=(false,aT e2 env)::aU [e3] env) aI)(OH:autoParam (∀env,aU [e3] env=(false,aT e3 env)::aU [] env) aI)
  (hv:autoParam (∀env,aT (.Call (.Name (af "_law_number") np) [e1,e2,e3] [] pos) env=(do cA pos (<-aT (.Name (af "_law_number") np) env) [] (cM pos (aU [e1,e2,e3] env)) (dF pos (cF [] env)))) aI):
  WE c E σ (aT (.Call (.Name (af "_law_number") np) [e1,e2,e3] [] pos) c.env) Q:=by
 refine .fn ok he GI Ck.keep (.one h1 (.one h2 (.one h3 (.nil (mG.op (as:=[]) (rest:=σ.as) (PX hz h0 hj) ok ex hd .refl ?_ (λO O h=>h.elim))) OH) rh) qz) hx (hv:=hv) (hp:=by rw[qz,rh,OH];rfl);refine nF ?_;exact q
end
noncomputable abbrev SO:List Str:=[pV,uG,s_end,qj,af "got",af "turn",qI,tF,af "name"]
theorem Ic(hz:o.length<=16000)(h0:0<=a)(nV:e<=o.length):Fn (.ref 470) 4 [.bytes o,.int a,.int e,.ref s] [.lst s []] (λav as'=>av=uK (nY o e a).2/\as'=[.lst s ((nY o e a).1.map nJ)]) nE:=by
 refine mG.enter Cp id (λs us hl w X=>Kr hl λa b c d=>aC rfl) (λO O h=>h) ?_;intro x E ok he J ex nd;have J:Nm x SO:=J;refine Exits.gen ex.drop λX qx ex=>WS.gen λQ q=>?_;have q0:∀l k {lo},nY o e a=(l,k)->Q (.ret (uK k)) ⟨lo,[.lst s (l.map nJ)]⟩:=λl k O h=>q _ _ (by rw[h];exact⟨rfl,rfl⟩);refine .st ok he J (.num ok he ex (.nm ok J .here) (.nm ok J .t1) (.nm ok J .t2) hz h0 nV ⟨_,.t4,?_⟩);refine .un ok he J (.tuple (.one .int (.one .neg (.nil ⟨l9 rfl,_,_,rfl,.cons (.there .t4) (.cons (.there (.there .t4)) .nil),?_⟩))));cases hN:mU o e 5 a 0 0 with
 |none=>refine .yf ex.own (λn σ=>σ=⟨[some (.bytes o),some (.int a),some (.int e),some (.ref s),some .none,some (.int 0),some (.int (-1)),none,none],[.lst s []]⟩) 0 rfl ?_;rintro n σ rfl;refine Tr.wt (.is (b':=false) (Tr.and (b':=false) (.cmp (.nm ok J .t4) .none (.ru rfl)) λh=>nomatch h) rfl) ?_;exact .ret (.forget (.ite (Tr.wt (.cmp (.nm ok J .t4) .none (.isNone rfl)) (.ev .none ⟨_,.refl,q0 [] none (zU hN)⟩))))
 |some p=>
  obtain⟨v,i0⟩:=p;have hr:=uk ((uq o a e).trans hN);refine(bF hr.1).elim λv e8=>?_;subst e8;have hM:nY o e a=oW o e v i0 (-1):=(xQ hN).trans (by rw[bg]);refine .AE ex.own (λn σ=>zv λ(i last turn:Int) (l:List (Int×List Nat)) (y7 y8:Option AV)=>uZ ((n:Int)+turn=v) (0<=i) (i<=e) ((l.length:Int)<=i) ((l++(oW o e n i last).1,(oW o e n i last).2)=nY o e a) (σ=⟨[some (.bytes o),some (.int a),some (.int e),some (.ref s),some (.tup [.int v,.int i]),some (.int turn),some (.int last),y7,y8],[.lst s (l.map nJ)]⟩)) v ⟨i0,-1,0,[],none,none,ML,r_ h0 hr.2.2.1,hr.2.2.2,r_ h0 hr.2.2.1,hM.symm,rfl⟩ (λσ W h=>?_) λn σ W w h=>?_
  ·obtain⟨i,last,turn,l,y7,y8,ht,hi,u5,hl,hE,es⟩:=h;rw[es];refine Tr.wt (.is (b':=false) (Tr.and (.cmp (.nm ok J .t4) .none (.ru rfl)) λO=>.and (.cmp (.nm ok J (.there .t4)) (.pN (.nm ok J .t4)) .lt) λO=>.s7) (by rw[decide_eq_false (MK ht)];rfl)) ?_;exact .ret (.forget (.ite (Tr.wt (.cmp (.nm ok J .t4) .none (.isNone rfl)) (.ev (.qr (.nm ok J .t4)) ⟨_,.refl,q0 l (some i) (rX hE Dz)⟩))))
  obtain⟨i,last,turn,l,y7,y8,ht,hi,u5,hl,hE,es⟩:=h;rw[es];have w0:∀k {lo},oW o e (n+1) i last=([],k)->W (.ret (uK k)) ⟨lo,[.lst s (l.map nJ)]⟩:=λk O h=>w _ _ (q0 l k (rX hE h));refine Tr.wt (.is (b':=true) (Tr.and (.cmp (.nm ok J .t4) .none (.ru rfl)) λO=>.and (.cmp (.nm ok J (.there .t4)) (.pN (.nm ok J .t4)) .lt) λO=>.s7) (by rw[decide_eq_true (MJ ht)];rfl)) ?_;refine .st ok he J (.num ok he ex (.nm ok J .here) (.qr (.nm ok J .t4)) (.nm ok J .t2) hz hi nV ⟨_,(.there (.there (.there .t4))),?_⟩);cases sH:mU o e 5 i 0 0 with
  |none=>exact .n3 (.is (b':=true) (Tr.or (b':=false) (.cmp (.nm ok J (.there (.there (.there .t4)))) .none (.isNone rfl)) λh=>nomatch h) rfl) (λO=>.ret (.ev .none (w0 none (An sH)))) (λh=>nomatch h)
  |some z=>
   obtain⟨u,i1⟩:=z;have u6:=uk ((uq o i e).trans sH);dsimp only[uJ];refine .qq (.is (b':=decide (u<=last)) (.or (.cmp (.nm ok J (.there (.there (.there .t4)))) .none (.isNone rfl)) λO=>.or (.cmp (.pN (.nm ok J (.there (.there (.there .t4))))) (.nm ok J (.there (.there .t4))) .le) λO=>.t6) (cS _)) (λh=>.ret (.ev .none (w0 none (AI sH h)))) (λh=>?_);refine .st ok he J (.fn ok he HA Cw.keep (.one (.nm ok J .here) (.one (.qr (.nm ok J (.there (.there (.there .t4))))) (.one (.nm ok J .t2) (.nil (mG.op (as:=[]) (rest:=[.lst s (l.map nJ)]) (HK hz (MI hz nV hi u5 u6.2.2.1) nV) ok ex (by decide) .refl (nF ⟨_,(.there (.there (.there (.there .t4)))),?_⟩) (λO O h=>h.elim)))))));cases hA:nameAt o e i1 with
   |none=>exact .n3 (.cmp (.nm ok J (.there (.there (.there (.there .t4))))) .none (.isNone rfl)) (λO=>.ret (.ev .none (w0 none (AJ sH h hA)))) (λh=>nomatch h)
   |some z=>obtain⟨t,i2⟩:=z;have uh:=xM hA;dsimp only[yw];refine .n3 (.cmp (.nm ok J (.there (.there (.there (.there .t4))))) .none (.isNone rfl)) (λh=>nomatch h) (λO=>?_);refine .ex he (.nX ok (.nm ok J .t3) (.append (.head _)) .builtin (.cons (.tuple (.one (.pN (.nm ok J (.there (.there (.there .t4))))) (.one (.pN (.nm ok J (.there (.there (.there (.there .t4)))))) (.nil ⟨l9 rfl,.nil (.append .head (by rw[ah];exact LZ hz nV hl u6.2.2.1 uh.1 uh.2) ⟨rfl,?_⟩)⟩))))));refine .us ok he J (.tuple (.one (.pN (.nm ok J (.there (.there (.there .t4))))) (.one (.binop (.nm ok J (.there .t4)) .int .add) (.cons (.tuple (.one (.pN (.nm ok J .t4)) (.one (.qr (.nm ok J (.there (.there (.there (.there .t4)))))) (.nil ⟨l9 rfl,.nil ⟨l9 rfl,_,_,rfl,rfl,.cons .t4 (.cons (.there .t4) (.cons (.there (.there .t4)) .nil)),?_⟩⟩))))))));exact .nil (w _ _ ⟨n,pg,i2,u,turn+1,l++[(u,t)],some (.tup [.int u,.int i1]),some (.tup [.str t,.int i2]),MH ht,MG hz nV hi u5 u6.2.2.1 uh.1,Bk uh.2,by rw[aa];exact Bj hl u6.2.2.1 uh.1,Ag hE (yt sH h hA),by rw[au];rfl⟩)
end
noncomputable abbrev pw(q:Row):AV:=.tup [.int q.1,.ref q.2.1]
noncomputable abbrev p7(R:List Row):List mH:=R.map λq=>.lst q.2.1 (q.2.2.map nJ)
noncomputable abbrev T3:List Str:=[pV,uG,s_end,af "rows",af "got",af "turn",qI,qt,af "behind"]
theorem QP(R:List Row)(q:Row)(x:mH):(.lst q.2.1 (q.2.2.map nJ)::x::p7 R).Perm (x::p7 (R++[q])):=by unfold p7;rw[au];refine(bX.swap _ _ _).trans (bX.cons _ ?_);exact(bw (l₁:=[_]) (l₂:=R.map _))
theorem RE(hz:o.length<=16000)(h0:0<=a)(nV:e<=o.length):Fn (.ref 477) 5 [.bytes o,.int a,.int e,.ref r] [.lst r []] (λav as'=>∃R:List Row,mJ R=(pq o e a).1/\av=uK (pq o e a).2/\as'=.lst r (R.map pw)::p7 R) nE:=by
 refine mG.enter Gl id (λs us hl w X=>Kr hl λa b c d=>aC rfl) (λO O h=>h) ?_;intro x E ok he J ex nd;have J:Nm x T3:=J;refine Exits.gen ex.drop λX qx ex=>WS.gen λQ q=>?_;have q0:∀R k {lo},pq o e a=(mJ R,k)->Q (.ret (uK k)) ⟨lo,.lst r (R.map pw)::p7 R⟩:=λR k O h=>q _ _ (by rw[h];exact⟨R,rfl,rfl,rfl⟩);refine .st ok he J (.num ok he ex (.nm ok J .here) (.nm ok J .t1) (.nm ok J .t2) hz h0 nV ⟨_,.t4,?_⟩);refine .un ok he J (.tuple (.one .int (.one .neg (.nil ⟨l9 rfl,_,_,rfl,.cons (.there .t4) (.cons (.there (.there .t4)) .nil),?_⟩))));cases hN:mU o e 5 a 0 0 with
 |none=>refine .yf ex.own (λn σ=>σ=⟨[some (.bytes o),some (.int a),some (.int e),some (.ref r),some .none,some (.int 0),some (.int (-1)),none,none],[.lst r []]⟩) 0 rfl ?_;rintro n σ rfl;refine Tr.wt (.is (b':=false) (Tr.and (b':=false) (.cmp (.nm ok J .t4) .none (.ru rfl)) λh=>nomatch h) rfl) ?_;exact .ret (.forget (.ite (Tr.wt (.cmp (.nm ok J .t4) .none (.isNone rfl)) (.ev .none ⟨_,.refl,q0 [] none (zR hN)⟩))))
 |some p=>
  obtain⟨v,i0⟩:=p;have hr:=uk ((uq o a e).trans hN);refine(bF hr.1).elim λv e8=>?_;subst e8;have hM:pq o e a=oU o e v i0 (-1):=(xP hN).trans (by rw[bg]);refine .AE ex.own (λn σ=>zv λ(i last turn:Int) (R:List Row) (y7 y8:Option AV)=>uZ ((n:Int)+turn=v) (0<=i) (i<=e) ((R.length:Int)<=i) ((mJ R++(oU o e n i last).1,(oU o e n i last).2)=pq o e a) (σ=⟨[some (.bytes o),some (.int a),some (.int e),some (.ref r),some (.tup [.int v,.int i]),some (.int turn),some (.int last),y7,y8],.lst r (R.map pw)::p7 R⟩)) v ⟨i0,-1,0,[],none,none,ML,r_ h0 hr.2.2.1,hr.2.2.2,r_ h0 hr.2.2.1,hM.symm,rfl⟩ (λσ W h=>?_) λn σ W w h=>?_
  ·obtain⟨i,last,turn,R,y7,y8,ht,hi,u5,hl,hE,es⟩:=h;rw[es];refine Tr.wt (.is (b':=false) (Tr.and (.cmp (.nm ok J .t4) .none (.ru rfl)) λO=>.and (.cmp (.nm ok J (.there .t4)) (.pN (.nm ok J .t4)) .lt) λO=>.s7) (by rw[decide_eq_false (MK ht)];rfl)) ?_;exact .ret (.forget (.ite (Tr.wt (.cmp (.nm ok J .t4) .none (.isNone rfl)) (.ev (.qr (.nm ok J .t4)) ⟨_,.refl,q0 R (some i) (rX hE DA)⟩))))
  obtain⟨i,last,turn,R,y7,y8,ht,hi,u5,hl,hE,es⟩:=h;rw[es];have w0:∀k {lo},oU o e (n+1) i last=([],k)->W (.ret (uK k)) ⟨lo,.lst r (R.map pw)::p7 R⟩:=λk O h=>w _ _ (q0 R k (rX hE h));refine Tr.wt (.is (b':=true) (Tr.and (.cmp (.nm ok J .t4) .none (.ru rfl)) λO=>.and (.cmp (.nm ok J (.there .t4)) (.pN (.nm ok J .t4)) .lt) λO=>.s7) (by rw[decide_eq_true (MJ ht)];rfl)) ?_;refine .st ok he J (.num ok he ex (.nm ok J .here) (.qr (.nm ok J .t4)) (.nm ok J .t2) hz hi nV ⟨_,(.there (.there (.there .t4))),?_⟩);cases sH:mU o e 5 i 0 0 with
  |none=>exact .n3 (.is (b':=true) (Tr.or (b':=false) (.cmp (.nm ok J (.there (.there (.there .t4)))) .none (.isNone rfl)) λh=>nomatch h) rfl) (λO=>.ret (.ev .none (w0 none (Ao sH)))) (λh=>nomatch h)
  |some z=>
   obtain⟨u,i1⟩:=z;have u6:=uk ((uq o i e).trans sH);dsimp only[uJ];refine .qq (.is (b':=decide (u<=last)) (.or (.cmp (.nm ok J (.there (.there (.there .t4)))) .none (.isNone rfl)) λO=>.or (.cmp (.pN (.nm ok J (.there (.there (.there .t4))))) (.nm ok J (.there (.there .t4))) .le) λO=>.t6) (cS _)) (λh=>.ret (.ev .none (w0 none (AK sH h)))) (λh=>?_);refine .ex he (.nX ok (.nm ok J .t3) (.append (.head _)) .builtin (.cons (.tuple (.one (.pN (.nm ok J (.there (.there (.there .t4))))) (.cons (.list (.nil ⟨l9 rfl,λs=>.nil ⟨l9 rfl,.nil (.append (.tail .head) (by rw[ah];exact aar hz nV hi u5 hl) ⟨rfl,?_⟩)⟩⟩)))))));refine .st ok he J (.fn ok he G9 Cp.keep (.one (.nm ok J .here) (.one (.qr (.nm ok J (.there (.there (.there .t4))))) (.one (.nm ok J .t2) (.one (.qr (.item (.nm ok J .t3) .neg (.last m1))) (.nil (mG.op (as:=[.lst s []]) (rest:=.lst r (R.map pw++[.tup [.int u,.ref s]])::p7 R) (Ic hz (MI hz nV hi u5 u6.2.2.1) nV) ok ex (by decide) .refl (nF ⟨_,(.there (.there (.there (.there .t4)))),?_⟩) (λO O h=>h.elim))))))));cases hA:nY o e i1 with
   |mk l i2=>
    refine .forget (as'':=.lst r ((R++[(u,s,l)]).map pw)::p7 (R++[(u,s,l)])) (Arr.sO (by rw[au];exact QP R (u,s,l) _)) ?_;cases i2 with
    |none=>exact .n3 (.cmp (.nm ok J (.there (.there (.there (.there .t4))))) .none (.isNone rfl)) (λO=>.ret (.ev .none (w _ _ (q0 (R++[(u,s,l)]) none ((KC hE (AL sH h hA)).trans (by rw[mJ,mJ,au];rfl)))))) (λh=>nomatch h)
    |some i2=>have uh:=zS hA;refine .n3 (.cmp (.nm ok J (.there (.there (.there (.there .t4))))) .none (.isNone rfl)) (λh=>nomatch h) (λO=>?_);refine .us ok he J (.tuple (.one (.pN (.nm ok J (.there (.there (.there .t4))))) (.one (.binop (.nm ok J (.there .t4)) .int .add) (.cons (.tuple (.one (.pN (.nm ok J .t4)) (.one (.nm ok J (.there (.there (.there (.there .t4))))) (.nil ⟨l9 rfl,.nil ⟨l9 rfl,_,_,rfl,rfl,.cons .t4 (.cons (.there .t4) (.cons (.there (.there .t4)) .nil)),?_⟩⟩))))))));exact .nil (w _ _ ⟨n,pg,i2,u,turn+1,R++[(u,s,l)],some (.tup [.int u,.int i1]),some (.int i2),MH ht,MG hz nV hi u5 u6.2.2.1 uh.1,Bk uh.2,by rw[aa];exact Bj hl u6.2.2.1 uh.1,by rw[mJ,au];exact Ag hE (yu sH h hA),rfl⟩)
section
section
variable {c:Cx}{σ:Sg}{d:Nat}{E:Ex}{ε:Env}
theorem mQ.Vr:mQ c σ (uK b) (.int j) (bY .NotEq) (.bool (decide (b≠some j))):=by
 cases b with
 |none=>intro E fr xs vs va vb s Q S k;obtain⟨fz,oa,ob⟩:=S.two;obtain rfl:=oa.none_inv;obtain⟨t,rfl⟩:=ob.int_inv;have:=SeqAt.RcNeAt.none_int (A:=c.A) (s:=s) j t PW c.w E Q;refine W.of (this (k _ _ (S.pop.pop.push λO=>?_)));exact .bool _
 |some i=>have:=mQ.ne (c:=c) (σ:=σ) (a:=i) (b:=j);rw[show decide (some i≠some j)=decide (i≠j) by rw[decide_eq_decide];simp];exact this
noncomputable def nh.told(S:nh×Bool):Told:=⟨S.1.m,S.1.fs,S.1.rs,S.2⟩
theorem UL:∀{done:List AV},xy (R.map λq=>(q.2.1,q.2.2.map nJ)) (.tup [t,f,.lst (done++R.map pw),g]) (.tup [t,f,.lst (done++(mJ R).map ny),g]):=by
 induction R with
 |nil=>exact .nil
 |cons q R ih=>intro done;refine .cons (.tup (.cons .keep (.cons .keep (.cons (.lst (rO.mid (.tup (.cons .keep (.cons .ref .nil))))) (.cons .keep .nil))))) ?_;have:=ih (done:=done++[ny (q.1,q.2.2)]);rw[aj,aj]at this;exact this
theorem WE.told
  (h:WE c E σ t λx mF=>x=.tup [rF m,.ref f,.ref r,.bool b]/\mF.as=.lst f (fs.map nJ)::.lst r (R.map pw)::(p7 R++rest)/\Q (Told.av ⟨m,fs,mJ R,b⟩) ⟨mF.lo,rest⟩):WE c E σ t Q:=by
 refine .D0 (.vM (.vM (h.mono ?_)));rintro x ⟨lo,as⟩ ⟨rfl,rfl,q⟩;refine⟨f,fs.map nJ,_,.tup [rF m,nR fs,.ref r,.bool b],.head,.tup (.cons .keep (.cons .ref (.cons .keep (.cons .keep .nil)))),r,R.map pw,_,.tup [rF m,nR fs,.lst (R.map pw),.bool b],.head,.tup (.cons .keep (.cons .keep (.cons .ref (.cons .keep .nil)))),R.map (λq=>(q.2.1,q.2.2.map nJ)),rest,_,?_,UL (done:=[]),q⟩;rw[aN];rfl
end
theorem PY(h:(oU o j n i last).2=some e):i<=e/\(i<=j->e<=j):=by
 induction n generalizing i last with
 |zero=>cases h;exact⟨bO _,id⟩
 |succ n ih=>
  cases h1:mU o j 5 i 0 0 with
  |none=>rw[Ao h1]at h;cases h
  |some q=>
   refine(aq (q.1<=last)).elim (λc=>by rw[AK (v:=q.1) (e:=q.2) h1 c]at h;cases h) λc=>?_;cases h2:nY o j q.2 with
   |mk l k=>cases k with
    |none=>rw[AL (v:=q.1) (e:=q.2) h1 c h2]at h;cases h
    |some e'=>have r:=zS h2;rw[yu (v:=q.1) (e:=q.2) h1 c h2]at h;have y:=ih h;exact L_ (rV (v:=q.1) (e:=q.2) h1 (by decide)).2.1 r.1 r.2 y.1 y.2
theorem PZ(h:pq o j i=(l,some e)):i<e/\e<=j:=by
 cases h1:mU o j 5 i 0 0 with
 |none=>rw[zR h1]at h;cases h
 |some q=>have r:=rV (v:=q.1) (e:=q.2) h1 (by decide);rw[xP (v:=q.1) (e:=q.2) h1]at h;exact L9 r.2.1 r.2.2 (PY (congrArg (λz=>z.2) h))
noncomputable abbrev wH:List Str:=[pV,af "title",sN,af "rows",uG,qI,DE,af "size",TP,af "behind",af "name"]
theorem dk(h:∀k,z=some k->k<=j):yP j z=decide (z=some j):=by
 cases z with
 |none=>rfl
 |some k=>exact decide_eq_decide.mpr ⟨λq=>congrArg some (lj (h k rfl) q),λq=>Int.le_of_eq (aE.inj q).symm⟩
section
variable {o:List UInt8}{j i sort:Int}{S:nh}
theorem acY(s0:sort=0)(h:nameAt o j i=none):nW o j i sort S=(S,decide ((none:Option Int)=some j)):=uI s0 h
theorem acZ{l}(s0:sort=0)(h:nameAt o j i=some (l,k)):nW o j i sort S=(⟨some l,S.fs,S.rs⟩,decide (some k=some j)):=(uI s0 h).trans (congrArg (fK _) (dk λO e=>aE.inj e▸(xM h).2))
theorem pg1(s1:sort=1):nW o j i sort S=(⟨S.m,(nY o j i).1,S.rs⟩,decide ((nY o j i).2=some j)):=
 (xb (by rw[s1];decide) s1 rfl).trans (congrArg (fK _) (dk λk e=>(zS (l:=(nY o j i).1) (Prod.ext rfl e)).2))
theorem pg2(s2:sort=2):nW o j i sort S=(⟨S.m,S.fs,(pq o j i).1⟩,decide ((pq o j i).2=some j)):=
 (xc (by rw[s2];decide) (by rw[s2];decide) s2 rfl).trans (congrArg (fK _) (dk λk e=>(PZ (l:=(pq o j i).1) (Prod.ext rfl e)).2))
theorem pg3(h0:¬sort=0)(h1:¬sort=1)(h2:¬sort=2):nW o j i sort S=(S,decide (some j=some j)):=(yQ h0 h1 h2).trans (by rw[decide_eq_true rfl])
end
inductive LrI(o:List UInt8)(f r:aA)(j e v sort:Int)(S:nh)(σ:Sg):Prop
 |mk (m') (n_) (R':List Row) (bh) (y:Option AV) (h:nW o j e sort S=(⟨m',n_,mJ R'⟩,decide (bh=some j)))
   (s:σ=⟨[some (.bytes o),some (rF m'),some (.ref f),some (.ref r),some (.int j),some (.int sort),some (.int sort),some (.tup [.int v,.int e]),some (.int e),some (uK bh),y],.lst f (n_.map nJ)::.lst r (R'.map pw)::p7 R'⟩)
theorem xS{lo:List (Option AV)}{k p q1 q2 q3 q4 q5 rest}{Q:Out->Sg->Prop}(ok:Ok x d)(J:Nm x wH)(hQ:∀lo,Q (.ret (nh.told (rA o)).av) ⟨lo,[]⟩)
  (h1:At wH lo (af "title") (some (rF m)))(h2:At wH lo sN (some (.ref f)))(h3:At wH lo (af "rows") (some (.ref r)))(e:(S,b)=rA o)(e':S=⟨m,fs,mJ R⟩):
   WS x E ⟨lo,.lst f (fs.map nJ)::.lst r (R.map pw)::p7 R⟩ (aO (.Return (some (.Tuple [.Name (af "title") q1,.Name sN q2,.Name (af "rows") q3,.Constant (.bool b) k q4] 0 q5)) p::rest) x.env) Q:=by
 refine .ret (.told (m:=m) (fs:=fs) (R:=R) (b:=b) (f:=f) (r:=r) (rest:=[]) (.tuple (.one (.nm ok J h1) (.one (.nm ok J h2) (.one (.nm ok J h3) (.one .bool (.nil ⟨l9 rfl,rfl,?_,?_⟩)))))))
 ·rw[aW]
 ·have:=hQ lo;rw[<-e,e']at this;exact this
theorem Ie(hz:o.length<=16000):Fn (.ref 484) 6 [.bytes o] [] (λav as'=>av=(nh.told (rA o)).av/\as'=[]) nE:=by
 refine mG.enter Cy id (λs us hl w X=>pF hl λa=>aC rfl) (λO O h=>h) ?_;intro x E ok he J ex nd;have J:Nm x wH:=J;refine Exits.gen ex.drop λX qx ex=>WS.gen λQ q=>?_;have q0:∀lo,Q (.ret (nh.told (rA o)).av) ⟨lo,[]⟩:=λO=>q _ _ ⟨rfl,rfl⟩;refine .un ok he J (.tuple (.one .none (.cons (.list (.nil ⟨l9 rfl,λf=>.cons (.list (.nil ⟨l9 rfl,λr=>.one .int (.one .neg (.nil ⟨l9 rfl,?_⟩))⟩))⟩)))));refine⟨_,_,rfl,.cons .t1 (.cons .t2 (.cons .t3 (.cons .t4 (.cons (.there .t4) .nil)))),.forget (.pick .t1 (.pick .head .nil)) ?_⟩;have hlen:∀{σ:Sg}{p q p2:iA},At wH σ.lo pV (some (.bytes o))->Ev x σ (.Call (.Name (af "len") p) [.Name pV q] [] p2) (.int o.length):=λh=>.pC ok he qk (.nm ok J h) (.tU (oO hz));refine .AD ex.own (λn σ=>acJ λ(i last:Int) (m:Option (List Nat)) (fs:List (Int×List Nat)) (R:List Row) (y6 y7 y8 y9 vX:Option AV)=>As9 (0<=i) (i<=o.length) ((o.length:Int)+1<=n+i) (pQ o n i last ⟨m,fs,mJ R⟩=rA o) (-1<=last) (last<0->m=none) (last<1->fs=[]) (last<2->R=[]) (σ=⟨[some (.bytes o),some (rF m),some (.ref f),some (.ref r),some (.int i),some (.int last),y6,y7,y8,y9,vX],.lst f (fs.map nJ)::.lst r (R.map pw)::p7 R⟩)) (o.length+1) ⟨0,-1,none,[],[],none,none,none,none,none,bO 0,Ea hz,D_,rfl,bO _,λO=>rfl,λO=>rfl,λO=>rfl,rfl⟩ ?_;intro n σ W w h;refine cps λV V'=>?_;obtain⟨i,last,m,fs,R,y6,y7,y8,y9,vX,hi,OI,rN,hS,qd,hm0,OJ,OK,es⟩:=h;refine V' ?_;rw[es];have tm:n=n-1+1:=LV OI rN;rw[tm]at hS rN;have q1:∀lo,W (.ret (nh.told (rA o)).av) ⟨lo,[]⟩:=λO=>w _ _ (q0 _);refine Tr.br (.cmp (.nm ok J .t4) (hlen .here) .lt) (λh=>?_) λh=>xS ok J q0 .t1 .t2 .t3 ((AM (LU OI h)).symm.trans hS) rfl;refine .us ok he J (.tuple (.one (.item (.nm ok J .here) (.nm ok J .t4) (.bytes hi h (oO hz))) (.cons (.num ok he ex (.nm ok J .here) (.binop (.nm ok J .t4) .int .add) (hlen .here) hz (yY hi) (aaw) (.nil ⟨l9 rfl,_,_,rfl,rfl,.cons (.there (.there (.there .t4))) (.cons (.there (.there .t4)) .nil),?_⟩)))));have qe:(0:Int)<=((o.getD i.toNat 0).toNat:Nat):=bM _;generalize hs:(((o.getD i.toNat 0).toNat:Nat):Int)=sort at qe ⊢;replace h:¬(o.length:Int)<=i:=LS h;refine(aq (sort<=last)).elim (λh1=>?_) λh1=>?_
 ·exact .n3 (.is (b':=true) (Tr.or (b':=false) (.cmp (.nm ok J (.there (.there .t4))) (.nm ok J (.there .t4)) .le) λh=>absurd h (by rw[decide_eq_true h1];decide)) (by rw[decide_eq_true h1];rfl)) (λO=>xS ok J q1 .t1 .t2 .t3 ((DB hs h h1).symm.trans hS) rfl) (λh=>nomatch h)
 cases hN:mU o o.length 5 (i+1) 0 0 with
 |none=>exact .n3 (.is (b':=true) (.or (.cmp (.nm ok J (.there (.there .t4))) (.nm ok J (.there .t4)) .le) λO=>Tr.or (b':=false) (.cmp (.nm ok J (.there (.there (.there .t4)))) .none (.isNone rfl)) λh=>nomatch h) (by rw[decide_eq_false h1];rfl)) (λO=>xS ok J q1 .t1 .t2 .t3 ((C9 hs h h1 hN).symm.trans hS) rfl) (λh=>nomatch h)
 |some q=>
  obtain⟨v,e⟩:=q;have hr:=uk ((uq o (i+1) o.length).trans hN);dsimp only[uJ];refine .qq (.is (b':=decide ((o.length:Int)<e+v)) (.or (.cmp (.nm ok J (.there (.there .t4))) (.nm ok J (.there .t4)) .le) λO=>.or (.cmp (.nm ok J (.there (.there (.there .t4)))) .none (.isNone rfl)) λO=>.or (.cmp (.binop (.qr (.nm ok J (.there (.there (.there .t4))))) (.pN (.nm ok J (.there (.there (.there .t4))))) .add) (hlen .here) .gt) λO=>.t6) (by rw[decide_eq_false h1];exact(cS _))) (λh2=>?_) (λh2=>?_)
  ·exact xS ok J q1 .t1 .t2 .t3 ((C_ hs h h1 hN h2).symm.trans hS) rfl
  refine .us ok he J (.tuple (.one (.qr (.nm ok J (.there (.there (.there .t4))))) (.one (.binop (.qr (.nm ok J (.there (.there (.there .t4))))) (.pN (.nm ok J (.there (.there (.there .t4))))) .add) (.one (.nm ok J (.there (.there .t4))) (.nil ⟨l9 rfl,_,_,rfl,rfl,.cons (.there .t4) (.cons .t4 (.cons (.there (.there (.there (.there .t4)))) .nil)),?_⟩)))));refine .lt ok J (.nm ok J .t4) (.there (.there (.there (.there (.there .t4))))) ?_;have yT:=λS' (q:nW o (e+v) e sort ⟨m,fs,mJ R⟩=(S',false))=>(DC hs h h1 hN h2 q).symm.trans hS;have BR:=λS' (q:nW o (e+v) e sort ⟨m,fs,mJ R⟩=(S',true))=>(Bb hs h h1 hN h2 q).symm.trans hS;generalize hj:e+v=j at yT BR h2 ⊢;have a0:0<=e:=Ef hi hr.2.2.1;have a1:j<=o.length:=aau h2;refine .xa (LrI o f r j e v sort ⟨m,fs,mJ R⟩) (λW w=>?_) λσ h=>?_
  ·refine(aq (sort=0)).elim (λs0=>?_) λs0=>?_
   ·refine .qy (.is (.cmp (.nm ok J (.there (.there .t4))) .int .eq) (decide_eq_true s0)) (λO=>?_) (λh=>nomatch h);refine .st ok he J (.fn ok he HA Cw.keep (.one (.nm ok J .here) (.one (.nm ok J (.there (.there (.there (.there .t4))))) (.one (.nm ok J .t4) (.nil (mG.op (as:=[]) (rest:=.lst f (fs.map nJ)::.lst r (R.map pw)::p7 R) (HK hz a0 a1) ok ex (by decide) .refl (nF ⟨_,(.there (.there (.there (.there (.there (.there .t4)))))),?_⟩) (λO O h=>h.elim)))))));cases hA:nameAt o j e with
    |none=>refine .st ok he J (.ite (Tr.wt (.cmp (.nm ok J (.there (.there (.there (.there (.there (.there .t4))))))) .none (.isNone rfl)) (.ev .none ⟨_,(.there (.there (.there (.there (.there .t4))))),?_⟩)));refine .st ok he J (.ite (Tr.wt (.cmp (.nm ok J (.there (.there (.there (.there (.there (.there .t4))))))) .none (.isNone rfl)) (.ev .none ⟨_,.t1,?_⟩)));exact .nil (.nil (w _ ⟨none,fs,R,none,_,(acY s0 hA).trans (by rw[hm0 (MM h1 s0)]),rfl⟩))
    |some q=>obtain⟨t,k⟩:=q;refine .st ok he J (.ite (Tr.wt (.cmp (.nm ok J (.there (.there (.there (.there (.there (.there .t4))))))) .none (.isNone rfl)) (.ev (.qr (.nm ok J (.there (.there (.there (.there (.there (.there .t4)))))))) ⟨_,(.there (.there (.there (.there (.there .t4))))),?_⟩)));refine .st ok he J (.ite (Tr.wt (.cmp (.nm ok J (.there (.there (.there (.there (.there (.there .t4))))))) .none (.isNone rfl)) (.ev (.pN (.nm ok J (.there (.there (.there (.there (.there (.there .t4)))))))) ⟨_,.t1,?_⟩)));exact .nil (.nil (w _ ⟨some t,fs,R,some k,some (yw (some (t,k))),acZ s0 hA,rfl⟩))
   refine .qy (.is (.cmp (.nm ok J (.there (.there .t4))) .int .eq) (decide_eq_false s0)) (λh=>nomatch h) (λO=>?_);refine(aq (sort=1)).elim (λs1=>?_) λs1=>?_
   ·refine .qy (.is (.cmp (.nm ok J (.there (.there .t4))) .int .eq) (decide_eq_true s1)) (λO=>?_) (λh=>nomatch h);rw[OJ (Ee h1 s1)];exact .st ok he J (.fn ok he G9 Cp.keep (.one (.nm ok J .here) (.one (.nm ok J (.there (.there (.there (.there .t4))))) (.one (.nm ok J .t4) (.one (.nm ok J .t2) (.nil (mG.op (as:=[.lst f []]) (rest:=.lst r (R.map pw)::p7 R) (Ic hz a0 a1) ok ex (by decide) .refl (nF ⟨_,(.there (.there (.there (.there (.there .t4))))),.nil (.nil (.nil (w _ ⟨m,(nY o j e).1,R,(nY o j e).2,vX,pg1 s1,rfl⟩)))⟩) (λO O h=>h.elim))))))))
   refine .qy (.is (.cmp (.nm ok J (.there (.there .t4))) .int .eq) (decide_eq_false s1)) (λh=>nomatch h) (λO=>?_);refine(aq (sort=2)).elim (λs2=>?_) λs2=>?_
   ·refine .qy (.is (.cmp (.nm ok J (.there (.there .t4))) .int .eq) (decide_eq_true s2)) (λO=>?_) (λh=>nomatch h);rw[OK (Ed h1 s2)];refine .st ok he J (.fn ok he Qj Gl.keep (.one (.nm ok J .here) (.one (.nm ok J (.there (.there (.there (.there .t4))))) (.one (.nm ok J .t4) (.one (.nm ok J .t3) (.nil (mG.op (as:=[.lst r []]) (rest:=[.lst f (fs.map nJ)]) (RE hz a0 a1) ok ex (by decide) (.pick .t1 (.pick .head .nil)) (EI λR' zz=>⟨_,(.there (.there (.there (.there (.there .t4))))),?_⟩) (λO O h=>h.elim))))))));exact .forget (as'':=.lst f (fs.map nJ)::.lst r (R'.map pw)::p7 R') (Arr.sO (bw (l₁:=_::p7 R') (l₂:=[_]))) (.nil (.nil (.nil (.nil (w _ ⟨m,fs,R',(pq o j e).2,vX,(pg2 s2).trans (by rw[zz]),rfl⟩)))))
   refine .qy (.is (.cmp (.nm ok J (.there (.there .t4))) .int .eq) (decide_eq_false s2)) (λh=>nomatch h) (λO=>?_);exact .nil (.nil (.nil (.nil (w _ ⟨m,fs,R,some j,vX,pg3 s0 s1 s2,rfl⟩))))
  obtain⟨m',n_,R',bh,adA,hP,es⟩:=h;rw[es];refine .qq (.cmp (.nm ok J (.there (.there (.there (.there (.there .t4)))))) (.nm ok J .t4) .Vr) (λhb=>?_) (λhb=>?_)
  ·exact xS ok J q1 .t1 .t2 .t3 (yT _ (hP.trans (by rw[decide_eq_false hb]))) rfl
  ·have hP:=hP.trans (congrArg (fK _) (decide_eq_true (Decidable.not_not.mp hb)));have hk:=HF hP;exact .nil (w _ _ ⟨n-1,by rw[tm];exact pg,j,sort,m',n_,R',_,_,_,_,_,aav hi hr.1 hr.2.1 hr.2.2.1 hj,a1,aat rN hr.1 hr.2.1 hr.2.2.1 hj,BR _ hP,Eb qe,λh=>by exact(aas qe h).elim,λh=>hk.1 h (OJ (Mb qe h1 h)),λh=>dj.mp (hk.2 h (by rw[OK (Ma qe h1 h)];rfl)),rfl⟩)
end
noncomputable abbrev adt:List Str:=[sN,af "rows"]
theorem filter_tt{α:Type}(l:List α):l.filter (λO=>true)=l:=List.filter_eq_self.mpr λO O=>rfl
theorem wI(h:(l.map (λO=>O.1)).Nodup)(hp:p∈l):pR (ents l) p.1=some (.str p.2):=
 HY (by rw[zX];exact h) (aZ (f:=λp:Int×List Nat=>(p.1,AV.str p.2)) hp)
theorem Jv(h:(R.map (λO=>O.1)).Nodup)(hq:q∈R):pR (m9 R) q.1=some (.ref q.2.1):=
 HY (by rw[m9,aN];exact h) (aZ (f:=λr:Row=>(r.1,AV.ref r.2.1)) hq)
noncomputable def EN(l:List (Int×List Nat)):AV->AV
 |.int k=>.tup [.int k,(pR (ents l) k).getD .none]
 |x=>x
theorem Jw(h:(l.map (λO=>O.1)).Nodup):((((ents l).map λp=>AV.int p.1).filter λO=>true).map (EN l))=l.map nJ:=by rw[filter_tt,ents,aN,aN];refine b8 λp hp=>?_;show AV.tup [.int p.1,(pR (ents l) p.1).getD .none]=_;rw[wI h hp];rfl
theorem Kb(h:y∈(ents l).map λp=>AV.int p.1):∃p∈l,y=.int p.1:=by obtain⟨q,hq,rfl⟩:=aG.mp h;obtain⟨p,hp,rfl⟩:=aG.mp hq;exact⟨p,hp,rfl⟩
structure ui(fs:List (Int×List Nat))(R:List Row):Prop where
 fl:fs.length<=16000
 fn:(fs.map (λO=>O.1)).Nodup
 rl:R.length<=16000
 rn:(R.map (λO=>O.1)).Nodup
 rs:∀q∈R,q.2.2.length<=16000/\(q.2.2.map (λO=>O.1)).Nodup
theorem zV(h:ui fs R):Fn (.ref 489) 1 [.ref a] (nc a m fs R d1 d2 w) (λav as'=>av=(Told.mk m fs (mJ R) w).av/\as'=nc a m fs R d1 d2 w) nE:=by
 refine mG.AA xJ id (λs us hl w X=>?_) (λO O h=>h) ?_
 ·obtain⟨a⟩:=q8 hl;exact⟨aC rfl,rfl⟩
 intro x E ok he J ex nd;refine Exits.gen ex λX qx ex=>WS.gen λQ q=>?_;refine(show WS x E ⟨[none,none],.qU (x.L+1+1)::.nq (x.L+1) (.ref a)::nc a m fs R d1 d2 w⟩ _ _ from ?_);refine .vu (a:=d1) (f:=ents fs) (.tail .t2) λep=>?_;refine .tL ok he J ((ents fs).map λp=>.int p.1) (λO=>true) (EN fs) (λy=>[(tF,y)]) (cl:=[(Ap,x.L+1)]) (by rw[he];rfl) (by decide +kernel) (by rw[ah,ah];exact ar h.fl (by decide)) (.ev (.attr ok (.ce ok he m2) m3 m1 (wq _)) ⟨_,.dict ok (.head _),λO O O O O=>.name,λy hy=>?_,λF=>⟨_,.here,?_⟩⟩)
 ·refine cps λV V'=>?_;obtain⟨p,hp,rfl⟩:=Kb hy;refine V' ⟨λC f n6=>.cv (ok.cmp rfl) (mW he) rfl .head,λC n6 k=>.nil,λO C n6 k=>?_⟩;refine .tuple (.one (.cv (ok.cmp rfl) (mW he) rfl (.head _) (.head _)) (.one (.item (.attr (ok.cmp rfl) (.ce (ok.cmp rfl) (mW he) (.tail _ (k _ m2))) (.tail _ (k _ m3)) m1 (wq _)) (.cv (ok.cmp rfl) (mW he) rfl (.head _) (.head _)) (.oP (.tail _ (k _ (.head _))) (wI h.fn hp))) (.nil ⟨l9 rfl,?_,rfl⟩)));show _=AV.tup [.int p.1,(pR (ents fs) p.1).getD .none];rw[wI h.fn hp];rfl
 rw[Jw h.fn];refine .vv (as':=.lst F (fs.map nJ)::.mO d1 (ents fs)::.qU (x.L+1+1)::.nq (x.L+1) (.ref a)::oS a (oq m) d1 d2 w::.mO d2 (m9 R)::nz R) (.tail .head) ?_;refine .st ok he J (.list (.nil ⟨l9 rfl,λr=>⟨_,.t1,?_⟩⟩));refine .vu (a:=d2) (f:=m9 R) (.tail (.tail (.tail (.tail .t2)))) λep=>?_;refine .Ba ex.own (ι:=Nat×mH) (λit q=>⟨[some (.ref F),some (.ref r)],.is it (sT d2 q.1 (m9 R).length ep)::.oP d2 (m9 R) ep::.lst r (((mJ R).take q.1).map ny)::.lst F (fs.map nJ)::.mO d1 (ents fs)::q.2::.nq (x.L+1) (.ref a)::oS a (oq m) d1 d2 w::nz R⟩) (λn q=>n+q.1=R.length/\(q.2=.qU (x.L+1+1)\/∃u,q.2=.nq (x.L+1+1) u)) R.length ?_ ?_
 ·exact .ev (.attr ok (.ce ok he (.tail _ (.tail _ m3))) (.tail _ (.tail _ (.tail _ m3))) m2 (sJ _)) (.dict (.head _) λit=>⟨it,(0,.qU (x.L+1+1)),⟨rfl,.inl rfl⟩,rfl,rfl⟩)
 intro n it z W tk hz;obtain⟨i,y⟩:=z;obtain⟨hi,hy⟩:=hz;dsimp only at hi hy ⊢;refine(fv n).elim (λpb=>?_) λpb=>?_
 ·have hi:i=R.length:=by rw[pb,dH]at hi;exact hi
  rw[hi];refine⟨none,_,.JT ok m1 .head (by rw[<-(ah ..)];exact b7 (bz _)),?_⟩;rw[show R.length=(mJ R).length from(ah ..).symm,cT];refine .vv .head ?_;refine .ret (.forget (.vM (.vM (.tuple (.one (.attr ok (.ce ok he (.tail _ (.tail _ m3))) (.tail _ (.tail _ (.tail _ m3))) (.head _) (zK _) (by cases m<;>rfl)) (.one (.nm ok J .here) (.one (.nm ok J .t1) (.one (.attr ok (.ce ok he (.tail _ (.tail _ m3))) (.tail _ (.tail _ (.tail _ m3))) m3 (O_ _)) (.nil ⟨l9 rfl,?_⟩)))))))));refine⟨F,fs.map nJ,_,.tup [oq m,nR fs,.ref r,.bool w],.tail .t1,.tup (.cons .keep (.cons .ref (.cons .keep (.cons .keep .nil)))),r,_,_,_,.tail .head,.tup (.cons .keep (.cons .keep (.cons .ref (.cons .keep .nil)))),nc a m fs R d1 d2 w,.pick (.tail (.tail .t2)) (.pick .t1 (.pick .head (.skip (.skip .refl)))),q _ _ ⟨?_,rfl⟩⟩;cases m<;>rfl
 ·have mY:i<R.length:=gT (f7 pb) hi;obtain⟨z,hq⟩:∃q,R[i]?=some q:=⟨_,aw mY⟩;have hm:z∈R:=dX hq;have h2:=(h.rs z hm).2;refine⟨some (.int z.1),_,.dict (z:=.ref z.2.1) m1 .head (by rw[m9,bc,hq];rfl),.name,_,.ce ok he hy (.tail (.tail (.tail (.tail (.tail .head))))),?_⟩;refine(nt.KA (show mH.mO z.2.1 (ents z.2.2)∈nz R from by rw[nz,dm];exact aZ (f:=λr:Row=>mH.mO r.2.1 (ents r.2.2)) hm)).elim λrs w9=>w9.elim λD P=>?_;refine .ex he (.nX ok (.nm ok J .t1) (.append m2) .builtin (.cons (.tuple (.one (.ce ok he (.tail _ (.tail _ m3))) (.cons (.freeze (.vv (.vu (.tail (.tail (.tail (.tail (.tail (.tail (.tail (.tail D)))))))) λep2=>?_))))))));refine .tL ok ((ents z.2.2).map λp=>.int p.1) (λO=>true) (EN z.2.2) (λy=>[(tF,y)]) (cl:=[(Ap,x.L+1),(qt,x.L+1+1)]) (by rw[he];rfl) (by decide +kernel) (by rw[ah,ah];exact ar ((h.rs z hm).1) (by decide)) (.ev (.item (.attr ok (.ce ok he (.tail _ (.tail _ (.tail _ (.tail _ m3))))) (.tail _ (.tail _ (.tail _ (.tail _ (.tail _ m3))))) m2 (sJ _)) (.ce ok he (.tail _ (.tail _ (.tail _ m3)))) (.oP m2 (Jv h.rn hm))) ⟨_,.dict ok (.head _),λO O O O O=>.name,λy hy=>?_,λG=>?_⟩)
  ·refine cps λV V'=>?_;obtain⟨p,hp,rfl⟩:=Kb hy;refine V' ⟨λC f n6=>.cv (ok.cmp rfl) (mW he) rfl .head,λC n6 k=>.nil,λO C n6 k=>?_⟩;refine .tuple (.one (.cv (ok.cmp rfl) (mW he) rfl (.head _) (.head _)) (.one (.item (.item (.attr (ok.cmp rfl) (.ce (ok.cmp rfl) (mW he) (.tail _ (k _ (.tail _ (.tail _ (.tail _ (.tail _ m3))))))) (.tail _ (k _ (.tail _ (.tail _ (.tail _ (.tail _ (.tail _ m3))))))) m2 (sJ _)) (.ce (ok.cmp rfl) (mW he) (.tail _ (k _ (.tail _ (.tail _ (.tail _ m3)))))) (.oP (.tail _ (k _ m2)) (Jv h.rn hm))) (.cv (ok.cmp rfl) (mW he) rfl (.head _) (.head _)) (.oP (.tail _ (k _ (.head _))) (wI h2 hp))) (.nil ⟨l9 rfl,?_,rfl⟩)));show _=AV.tup [.int p.1,(pR (ents z.2.2) p.1).getD .none];rw[wI h2 hp];rfl
  rw[Jw h2];refine⟨_,_,_,_,.tail .head,G,_,_,rfl,.head,.nil ⟨l9 rfl,.nil (.append (.tail (.tail (.tail .head))) (by rw[ah,bS];exact ar (Nat.min_le_left _ _) (ar (fb mY) (ar h.rl (by decide)))) ⟨rfl,?_⟩)⟩⟩;refine .forget (as'':=.is it (sT d2 (i+1) (m9 R).length ep)::.oP d2 (m9 R) ep::.lst r (((mJ R).take (i+1)).map ny)::.lst F (fs.map nJ)::.mO d1 (ents fs)::.nq (x.L+1+1) (.int z.1)::.nq (x.L+1) (.ref a)::oS a (oq m) d1 d2 w::nz R) (Arr.sO ?_) (.nil (tk _ _ ⟨n-1,(i+1,_),Nat.sub_lt pb Nat.one_pos,⟨y8 hi pb,.inr ⟨_,rfl⟩⟩,rfl⟩));rw[bD,show(mJ R)[i]?=some (z.1,z.2.2) by rw[mJ,bc,hq];rfl,au];have:=P.append_left [.is it (sT d2 (i+1) (m9 R).length ep),.oP d2 (m9 R) ep,.lst r (((mJ R).take i).map ny++[ny (z.1,z.2.2)]),.lst F (fs.map nJ),.mO d1 (ents fs),.nq (x.L+1+1) (.int z.1),.nq (x.L+1) (.ref a),oS a (oq m) d1 d2 w];refine bX.trans ?_ this;exact(bw (l₁:=[_]) (l₂:=[_,_,_,_,_,_,_,_])).append_right rs
section
noncomputable abbrev og:List Str:=pZ.ns
theorem Vs:og.Nodup:=by decide +kernel
theorem qa(hx:autoParam (og.contains x=true) aK):oA og (og.map L) x (some v) (og.map (upd L x v)):=Lk.put Vs (by simpa using hx)
theorem uL(h:ry og es nH (og.map (upd L x v)) (og.map L'))(hx:autoParam (og.contains x=true) aK):ry og (.Name x p::es) (v::nH) (og.map L) (og.map L'):=.cons (qa hx) h
noncomputable abbrev Aq:=af "title"
noncomputable abbrev qS:=af "rows"
noncomputable abbrev vB:=af "bad"
noncomputable abbrev xV:=af "turned"
noncomputable abbrev Ar:=af "extra"
noncomputable abbrev z7:=af "strange"
noncomputable abbrev tx:=af "k"
noncomputable abbrev nC(L:Str->Option AV)(as:List mH):Sg:=⟨og.map L,as⟩
noncomputable abbrev pI(n:Nat):List Stmt:=(sQ pZ.st).drop n
noncomputable def Bf(m:Option (List Nat)):Prop:=∀t,m=some t->(∀p∈t,isSign p)/\t.length<=2
noncomputable def ym(R:List (Int×List (Int×List Nat))):Prop:=R.length<=2/\∀q∈R,oH 2 q.1/\oV q.2
structure Np(L:Str->Option AV)(a r:aA)(m:Option (List Nat))(F:List (Int×List Nat))(rows:List (Int×List (Int×List Nat)))(bad pad turned extra strange:Int):Prop where
 UM:Lk L uy (.ref a)
 Kc:Lk L Aq (rF m)
 Kd:Lk L sN (nR F)
 KU:Lk L qS (.ref r)
 Vt:Lk L vB (.int bad)
 Vu:Lk L vz (.int pad)
 Jx:Lk L xV (.int turned)
 T4:Lk L Ar (.int extra)
 RF:Lk L z7 (.int strange)
 mo:Bf m
 fo:oV F
 ro:ym rows
 bo:0<=bad/\bad<8
 po:0<=pad/\pad<3
 so:0<=strange/\strange<253
inductive LI(L:Str->Option AV)(a r:aA)(y:mH):Nat->AV->Sg->Prop
 |mk {L':Str->Option AV}{it r0:aA}{x u:Int}{m n:Nat}{rows:List (Int×List (Int×List Nat))}{l:List Int}{last:Int}(J:m<=n) (hm:rows.length+m<=2) (ho:∀q∈rows,oH 2 q.1/\oV q.2) (hl:l.length<=63) (h1:Lk L' qI (.int last)) (h2:oH rows.length last) (o:Off [tx,qI] L L'):
  LI L a r y n (.ref it) (nC L' [.is it (nQ x m 1),.is r0 (nP 0 u 1),.lst r (rows.map ny),nO a l,y])
section
variable {x:Cx}{E:Ex}(ok:Ok x 12) (he:x.env=pZ.px x.L) (J:Nm x og)
include ok he J
theorem WS.pd
  (h:WE x E (nC L as) (aT e x.env) λav mF=>mF.lo=og.map L/\∀L',Lk L' y av->Off [y] L L'->WS x E (nC L' mF.as) (aO rest x.env) Q)
  (hy:autoParam (og.contains y=true) aK)(hs:autoParam (cn e (some (.Name y p')) p.line (pZ.px x.L)=pure false) aR):WS x E (nC L as) (aO (.Assign [.Name y p'] e p::rest) x.env) Q:=
 .st ok he J (h.mono λav mF q=>⟨_,by rw[q.1];exact qa hy,q.2 _ .here (Off.rfl.upd (by simp))⟩) hs
theorem WE.q7(ex:Exits x E XX)(hT:Lk L uy (.ref a))(D:nt (nO a l) as oM)(hz:l.length<=63)(q:∀i l',l'.length<=63->Q (.int i) (nC L (nO a l'::oM))):
  WE x E (nC L as) (aT (.Call (.Name (af "_law_next") np) [.Name uy p] [] pos) x.env) Q:=.B9 ok he ex (.nl ok J hT) D hz q
variable (ex:Exits x E λx σ=>nE x σ.as)
include ex
theorem ac0(hz:l.length<=63)(hb:x.base.IsList s us.toArray)(hi:d6 us l)(h0:Lk L (af "script") (.ref s))
  (k:∀{L' a r m F rows bad pad turned extra strange l'},Np L' a r m F rows bad pad turned extra strange->l'.length<=63->WS x E (nC L' [nO a l',.lst r (rows.map ny),y]) (aO (pI 7) x.env) Q):
  WS x E (nC L [y]) (aO (pI 0) x.env) Q:=by
 show WS x E _ (aO (_::_::_::_::_::_::_::pI 7) x.env) Q;refine .pd ok he J (.Nd (.ev (.nl ok J h0) ⟨_,.base ok hb hi,by simp;exact aaA hz,λa=>⟨rfl,λL hT O=>?_⟩⟩));rw[<-fP];have xF:l.reverse.length<=63:=by rw[eX];exact hz
 generalize l.reverse=l1 at xF;refine .pd ok he J (WE.mono (Q:=λv mF=>∃m l',Bf m/\l'.length<=63/\v=rF m/\mF=nC L [nO a l',y]) (.ite (.tY (.binop (.q7 ok he J ex hT .head xF λi l2 rP=>.ev .int (mQ.nI (.mod (by decide)) (.ev .int (mQ.nI .eq ⟨_,rfl,?_⟩))))))) ?_)
 ·split
  ·exact .ev .none ⟨none,l2,(λO h=>nomatch h),rP,rfl,rfl⟩
  ·refine .fn ok he Hx Ct.keep (.one (.nl ok J hT) (.nil (mG.op (rest:=[y]) (IQ rP) ok ex (by decide) .refl ?_ (λO O h=>h.elim))));rintro av as' ⟨t,l3,ht,ht2,rfl,wk,rfl⟩;exact⟨some t,l3,λO e=>by cases e;exact⟨ht,ht2⟩,wk,rfl,rfl⟩
 rintro v mF ⟨mt,l2,hm',rP,rfl,rfl⟩;refine⟨rfl,λL h1 o=>?_⟩;have hT:=hT.off o;clear o;refine .pd ok he J (.freeze (.fn ok he Hy Cu.keep (.one (.nl ok J hT) (.cons (.binop (.binop (.q7 ok he J ex hT .head rP λi l3 wk=>?_)))))));refine(qg (i+2) (b:=4) (by decide)).elim λu0 u1=>?_;refine .ev .int (mQ.nI .add (.ev .int (mQ.nI (.mod (by decide)) (.nil (mG.op (rest:=[y]) (IS wk u0 (Int.le_of_lt_add_one u1)) ok ex (by decide) .refl ?_ (λO O h=>h.elim))))));rintro av as' ⟨sF,F,l4,rfl,hF,FH,rfl⟩;refine⟨sF,_,_,rfl,.head,rfl,λL hf o=>?_⟩;have hT:=hT.off o;have h1:=h1.off o;clear o;refine .us (names:=[qS,qI]) ok he J (.tuple (.cons (.list (.nil ⟨by decide,λr=>.one .neg (.nil ⟨by simp,?_⟩)⟩))));refine⟨_,_,rfl,rfl,.cons qa (.cons qa .nil),?_⟩;have h2:=(Lk.here (L:=upd L qI (.int (-1))) (x:=qS) (v:=.ref r));have h3:=(Lk.here (L:=L) (x:=qI) (v:=.int (-1))).there (y:=qS) (w:=.ref r);have hf:=(hf.there (y:=qI) (w:=.int (-1))).there (y:=qS) (w:=.ref r);have hT:=(hT.there (y:=qI) (w:=.int (-1))).there (y:=qS) (w:=.ref r);have h1:=(h1.there (y:=qI) (w:=.int (-1))).there (y:=qS) (w:=.ref r);generalize upd (upd L qI (.int (-1))) qS (.ref r)=L at h1 h2 h3 hf hT;refine .w_ ex.own (LI L a r y) 2 (λP w=>?_) λn it σ Q' w h=>?_
 ·refine .forget (.bt ok he sM (.cons (.binop (.binop (.q7 ok he J ex hT .t1 FH λi l5 zB=>?_)))));refine(qg (i+1) (b:=3) (by decide)).elim λu0 u1=>?_;refine .ev .int (mQ.nI .add (.ev .int (mQ.nI (.mod (by decide)) (.nil (.uw λrr=>?_)))));obtain⟨m,hm⟩:=bF u0;rw[hm]at u1 ⊢;refine⟨[.is rr (nP 0 m 1),.lst r [],nO a l5,y],.pick .head (.pick .t1 .refl),.range (.head _) (small_one (by decide) (by decide) (aaz u1) (aay u1)) λit=>?_⟩;rw[rangeSize_nat];exact w _ _ (.mk (rows:=[]) (MO u1) (by simp;exact MO u1) (λq hq=>(bA hq).elim) zB h3 (by unfold oH;simp) .rfl)
 cases h with
 | @mk L2 it r0 u1 u m _ rows l last hmn hm ho OL ub hlo o=>
 cases m with
 |zero=>refine⟨none,_,.sL ok .head (tT),?_⟩;refine .forget (as'':=[nO a l,.lst r (rows.map ny),y]) (.pick .t2 (.pick .t1 (.pick .t1 .nil))) ?_;have hT:=hT.off o;have hf:=hf.off o;have h1:=h1.off o;have h2:=h2.off o;clear ub h3 o;refine .us (names:=[vB,vz,xV]) ok he J (.tuple (.cons (.binop (.q7 ok he J ex hT .head OL λi1 l1 xF=>?_))));refine .ev .int (mQ.nI (.mod (by decide)) (.cons (.binop (.q7 ok he J ex hT .head xF λi2 l2 rP=>.ev .int (mQ.nI (.mod (by decide)) (.cons (.binop (.q7 ok he J ex hT .head rP λi3 l3 wk=>.ev .int (mQ.nI (.mod (by decide)) (.nil ⟨by simp,_,_,rfl,rfl,.cons qa (.cons qa (.cons qa .nil)),?_⟩))))))))));have b1:=qg i1 (b:=8) (by decide);have b2:=qg i2 (b:=3) (by decide);have b3:=qg i3 (b:=3) (by decide);generalize i1.fmod 8=bad at b1 ⊢;generalize i2.fmod 3=pad at b2 ⊢;generalize i3.fmod 3=turned at b3 ⊢;refine .us (names:=[Ar,z7]) ok he J (.tuple (.cons (.binop (.q7 ok he J ex (.there (.there (.there hT))) .head wk λi4 l4 FH=>?_))));refine .ev .int (mQ.nI (.mod (by decide)) (.cons (.binop (.q7 ok he J ex (.there (.there (.there hT))) .head FH λi5 l5 zB=>.ev .int (mQ.nI (.mod (by decide)) (.nil ⟨by simp,_,_,rfl,rfl,.cons qa (.cons qa .nil),?_⟩))))));refine k (rows:=rows) (bad:=bad) (pad:=pad) (turned:=turned) (extra:=i4.fmod 4) (strange:=i5.fmod 253) ⟨.there (.there (.there (.there (.there hT)))),.there (.there (.there (.there (.there h1)))),.there (.there (.there (.there (.there hf)))),.there (.there (.there (.there (.there h2)))),.there (.there .here),.there (.there (.there .here)),.there (.there (.there (.there .here))),.here,.there .here,hm',hF,⟨Ms hm,ho⟩,b1,b2,(qg i5 (b:=253) (by decide))⟩ zB
 |succ m=>
  refine⟨some (.int u1),_,.range ok .head (tS),_,.name ok J qa,?_⟩;have hT:=(hT.off o).there (y:=tx) (w:=.int u1);have h2:=(h2.off o).there (y:=tx) (w:=.int u1);have ub:=ub.there (y:=tx) (w:=.int u1);have o:=o.upd (x:=tx) (v:=.int u1);generalize upd L2 tx (.int u1)=L2 at hT h2 ub o;refine .pd ok he J (.fn ok he G8 Co.keep (.one (.nl ok J hT) (.one (.nl ok J ub) (.nil (mG.op (rest:=[.is it (nQ (u1+1) (((m+1:Nat):Int)-1) 1),.is r0 (nP 0 u 1),.lst r (rows.map ny),y]) (H_ OL hlo) ok ex (by decide) (.pick (.tail .t2) .refl) ?_ (λO O h=>h.elim))))));rintro av as' ⟨i,l2,rfl,hi,rP,rfl⟩;refine⟨rfl,λL3 h5 o3=>?_⟩;have hT:=hT.off o3;have h2:=h2.off o3;have o:Off [tx,qI] L L3:=o.trans (o3.mono);refine .ex he (.nX ok (.nl ok J h2) (.append m3) .builtin (.cons (.tuple (.one (.nl ok J h5) (.cons (.freeze (.fn ok he Hy Cu.keep (.one (.nl ok J hT) (.cons (.binop (.binop (.q7 ok he J ex hT .head rP λi6 l6 hz6=>?_))))))))))));obtain⟨v0,v1⟩:=qg (i6+2) (b:=3) (by decide);refine .ev .int (mQ.nI .add (.ev .int (mQ.nI (.mod (by decide)) (.nil (mG.op (rest:=[.is it (nQ (u1+1) (((m+1:Nat):Int)-1) 1),.is r0 (nP 0 u 1),.lst r (rows.map ny),y]) (IS hz6 v0 (aax v0 v1)) ok ex (by decide) .refl ?_ (λO O h=>h.elim))))));rintro av as' ⟨sF,G,l7,rfl,hG,hz7,rfl⟩;refine⟨sF,_,_,rfl,.head,.nil ⟨by simp,.nil (.append (.tail (.tail (.tail .head))) (by simp;exact Mr hm) ⟨rfl,.forget (as'':=[.is it (nQ (u1+1) m 1),.is r0 (nP 0 u 1),.lst r ((rows++[(i,G)]).map ny),nO a l7,y]) ?_ (.nil (w _ _ ⟨m,Mq hmn,.mk (bz _) (by simp;exact Mp hm) ?_ hz7 h5 (by simpa using hi) o⟩))⟩)⟩⟩
  ·rw[show((m+1:Nat):Int)-1=m by exact uA,au];exact .pick .t1 (.pick .t1 (.pick .t1 .refl))
  ·intro q hq;rcases aH.mp hq with h|h
   ·exact ho q h
   ·obtain rfl:=ao.mp h;refine⟨?_,hG⟩;exact z63 hm hi
end
end
section
noncomputable def rI{α:Type}(f:List (Int×α))(p:Int×α):List (Int×α):=if f.any (λq=>q.1=p.1)then f.map (λq=>if q.1=p.1 then p else q)else f++[p]
noncomputable def dG{α:Type}(l:List (Int×α)):List (Int×α):=l.foldl rI []
section
variable {α:Type}
theorem SP(F:α->AV)(f:List (Int×α))(p:Int×α):qv (f.map λq=>(q.1,F q.2)) p.1 (F p.2)=(rI f p).map λq=>(q.1,F q.2):=by
 unfold qv rI;rw[List.any_map];simp only[bR];split
 ·rw[aN,aN];refine b8 λq O=>?_;simp only[bR];split
  ·rename_i e;rw[e]
  ·rfl
 ·rw[au];rfl
theorem KV(F:α->AV)(l:List (Int×α)):sU (l.map λq=>(q.1,F q.2))=(dG l).map λq=>(q.1,F q.2):=by
 have:∀(l f:List (Int×α)),(l.map λq=>(q.1,F q.2)).foldl (λf p=>qv f p.1 p.2) (f.map λq=>(q.1,F q.2))=(l.foldl rI f).map λq=>(q.1,F q.2):=by
  intro l;induction l with
  |nil=>intro f;rfl
  |cons p l ih=>
   intro f;rw[bE,f9,SP,ih]
   rfl
 exact this l []
theorem RG(f:List (Int×α))(p:Int×α):(rI f p).map (λO=>O.1)=if f.any (λq=>q.1=p.1)then f.map (λO=>O.1)else f.map (λO=>O.1)++[p.1]:=by
 unfold rI;split
 ·rw[aN];refine b8 λq O=>?_;simp only[bR];split
  ·rename_i e;exact e.symm
  ·rfl
 ·rw[au];rfl
theorem QQ{p:Int×α}(h:(f.map (λO=>O.1)).Nodup):((rI f p).map (λO=>O.1)).Nodup:=by
 rw[RG];split
 ·exact h
 ·rename_i e
  refine cG.mpr ⟨h,by simp,?_⟩;intro a ha b hb q;obtain rfl:=ao.mp hb;obtain⟨z,hz,rfl⟩:=aG.mp ha;exact e (dZ.mpr ⟨z,hz,decide_eq_true q⟩)
theorem RH{p:Int×α}(h:(f.map (λO=>O.1)).Nodup):∃r,(f++[p]).Perm (rI f p++r):=by
 unfold rI;split
 ·rename_i e
  obtain⟨z,hz,q⟩:=dZ.mp e;have q:=of_decide_eq_true q;obtain⟨f1,f2,rfl⟩:=ef hz;simp only[au,bE,cG,bj]at h;have off:∀g:List (Int×α),(∀y∈g,y.1≠p.1)->g.map (λq=>if q.1=p.1 then p else q)=g:=λg hg=>by refine(b8 λy hy=>if_neg (hg y hy)).trans (gg _)
  refine⟨[z],?_⟩;rw[au,bE,if_pos q,off f1 λy hy e=>h.2.2 y.1 (aZ hy) z.1 (.head _) (e.trans q.symm),off f2 λy hy e=>h.2.1.1 (by rw[q,<-e];exact aZ hy)];rw[aj,aj];refine bX.append_left _ ?_;refine(bw (l₁:=z::f2) (l₂:=[p])).trans ?_;exact(bw (l₁:=[z]) (l₂:=f2)).cons p
 ·exact⟨[],by simp⟩
theorem AO(l:List (Int×α)):((dG l).map (λO=>O.1)).Nodup/\∃r,l.Perm (dG l++r):=by
 have:∀(l f:List (Int×α)),(f.map (λO=>O.1)).Nodup->((l.foldl rI f).map (λO=>O.1)).Nodup/\∃r,(f++l).Perm (l.foldl rI f++r):=by
  intro l;induction l with
  |nil=>intro f h;exact⟨h,[],by simp⟩
  |cons p l ih=>intro f h;refine(ih (rI f p) (QQ h)).elim λa w9=>w9.elim λr b=>?_;obtain⟨r',b'⟩:=RH (p:=p) h;refine⟨a,r++r',?_⟩;rw[show f++p::l=(f++[p])++l by simp];refine(b'.append_right l).trans ?_;rw[aj];refine(bX.append_left _ bw).trans ?_;rw[<-aj,<-aj];exact b.append_right r'
 exact this l [] (by simp)
theorem CZ(l:List (Int×α)):((dG l).map (λO=>O.1)).Nodup:=(AO l).1
theorem KW{p:Int×α}(h:p∈dG l):p∈l:=by refine((AO l).2).elim λr k=>?_;exact k.mem_iff.mpr (ax _ h)
theorem KX(l:List (Int×α)):(dG l).length<=l.length:=by refine((AO l).2).elim λr k=>?_;have:=k.length_eq;rw[aa]at this;exact aaB this
end
theorem oV.dG(h:oV l)(hm:∀p∈l',p∈l)(hl:l'.length<=l.length):oV (Mine.Internal.dG l'):=⟨ar (KX l') (ar hl h.1),λp hp=>h.2 p (hm p (KW hp))⟩
theorem Ke(l:List (Int×List Nat)):sU (ents l)=ents (dG l):=KV AV.str l
theorem SQ(R:List Row):sU (m9 R)=m9 (dG R):=KV (λq:aA×List (Int×List Nat)=>.ref q.1) R
theorem z_(l:List (Int×List Nat)):(ents l).map tM=l.map nJ:=by rw[ents,aN];rfl
theorem QR(R:List Row):(m9 R).map tM=R.map pw:=by rw[m9,aN];rfl
theorem Arr.dG(R:List Row)(l:List mH):Arr (nz R++l) (nz (Mine.Internal.dG R)++l):=by
 refine((AO R).2).elim λr k=>?_;refine .CY (r:=r.map λq=>.mO q.2.1 (ents q.2.2)) ?_;have k:(nz R).Perm (nz (Mine.Internal.dG R)++r.map λq=>.mO q.2.1 (ents q.2.2)):=by unfold nz;refine(kc _).trans ((k.map _).trans ?_);rw[au];exact(kc _).symm.append_right _
 refine(k.append_right l).trans ?_;rw[aj,aj];exact bw.append_left _
structure pU(S:nh):Prop where
 m:Bf S.m
 f:oV S.fs
 fn:(S.fs.map (λO=>O.1)).Nodup
 rl:S.rs.length<=2
 r:∀q∈S.rs,oH 2 q.1/\oV q.2/\(q.2.map (λO=>O.1)).Nodup
 rn:(S.rs.map (λO=>O.1)).Nodup
theorem pU.ui{m:Option (List Nat)}(h:pU ⟨m,fs,mJ R⟩):ui fs R where
 fl:=ar h.f.1 (by decide)
 fn:=h.fn
 rl:=by have:=h.rl;rw[ah]at this;exact ar this (by decide)
 rn:=by have:=h.rn;simpa [mJ,bR] using this
 rs:=λq hq=>by have:=h.r (q.1,q.2.2) (aZ (f:=λr:Row=>(r.1,r.2.2)) hq);exact⟨ar this.2.1.1 (by decide),this.2.2⟩
noncomputable def m7(L:Str->Option AV)(l:List (Str×AV)):Prop:=∀p∈l,L p.1=some p.2
theorem m7.get(H:m7 L l)(h:(x,v)∈l):Lk L x v:=H _ h
theorem m7.n(H:m7 L l)(i:Nat)(h:l[i]?=some (x,v)):Lk L x v:=H _ (dX h)
theorem m7.pick(H:m7 L l)(is:List Nat):m7 L (is.filterMap λi=>l[i]?):=λp hp=>(bH.mp hp).elim λi h=>H p (dX h.2)
theorem ac2{α β:Type}(f:α->β)[Decidable p]{x y j:α}(h:(if p then x else y)=j):(if decide p=true then f x else f y)=f j:=(aq p).elim (λq=>by rw[decide_eq_true q,if_pos rfl,<-h,if_pos q]) λq=>by rw[decide_eq_false q,if_neg nofun,<-h,if_neg q]
theorem Ev.Nq{α:Type}(f:α->AV){p:Prop}[Decidable p]{x y j:α}(h:(if p then x else y)=j){t a b:cI}{pos:iA}(ht:Tr c σ t (decide p))(ha:Ev c σ a (f x))(hb:Ev c σ b (f y)):Ev c σ (.IfExp t a b pos) (f j):=ac2 f h▸.ite ht (λ_=>ha) λ_=>hb
theorem KY{α β:Type}{f:α->β}{l:List α}{P:β->Prop}(h:∀a,P (f a)):∀y∈l.map f,P y:=λy hy=>(aG.mp hy).elim λa e=>e.2▸h a
theorem m7.nil:m7 L []:=λO h=>nomatch h
theorem m7.cons(H:m7 L l)(h:Lk L x v):m7 L ((x,v)::l):=λp hp=>by
 cases hp with
 |head=>exact h
 |tail _ hp=>exact H p hp
theorem m7.off(H:m7 L l)(o:Off xs L L')(h:(l.map (λO=>O.1)).all (λx=>!xs.contains x)=true:=by kernel_rfl!):m7 L' l:=λp hp=>by refine(o p.1 λhm=>?_).trans (H p hp);have:=cy.mp h p.1 (aZ hp);simp[hm]at this
theorem m7.sub(H:m7 L l)(h:∀p∈l',p∈l):m7 L l':=λp hp=>H p (h p hp)
end
section
theorem Arr.app(h:Arr l l'):∀A:List mH,Arr (A++l) (A++l')
 |[]=>h
 |_::A=>.pick .head (h.app A)
theorem Arr.names(h:Arr qQ (n1::d1::base)):Arr (g::(A++qQ)) (n1::d1::g::(A++base)):=
 .trans (.pick .head (h.app A)) (.sO (by
  refine(eH (l₁:=g::A) (a:=n1)).trans (bX.cons _ ?_)
  exact(eH (l₁:=g::A) (a:=d1))))
theorem Arr.swap:Arr (A++B) (B++A):=.sO bw
inductive EO(L:Str->Option AV)(base:List mH):Nat->aA->aA->AV->Sg->Prop
 |mk {n:Nat}{D C it b:aA}{f:List (Str×AV)}{rows:List (Int×List (Int×List Nat))}{qQ:List mH}{R:List Row}(ho:ym rows) (hm:.lst b (rows.map ny)∈qQ) (ha:Arr qQ base) (J:n+R.length=rows.length) (hR:∀q∈R,oH 2 q.1/\oV q.2.2/\(q.2.2.map (λO=>O.1)).Nodup):
  EO L base n D C (.ref it) (nC L (.nf C f::.lst D (R.map pw)::.is it (pP b R.length)::(nz R++qQ)))
theorem xW(m:Option (List Nat)):rF m=oq m:=by cases m<;>rfl
section
variable {x:Cx}{E:Ex}(ok:Ok x 12) (he:x.env=pZ.px x.L) (J:Nm x og) {XX:mZ->Sg->Prop}(ex:Exits x E XX)
include ok he J ex
theorem ac3(D:Np L a r m F rows bad pad turned extra strange)
  (k:∀{n d1 d2 fs R},pU ⟨m,fs,mJ R⟩->WS x E (nC L ([nO a l,.lst r (rows.map ny),.nq (x.L+1) (.ref n)]++nc n m fs R d1 d2 true)) (aO (pI 11) x.env) Q):
  WS x E (nC L [nO a l,.lst r (rows.map ny),.qU (x.L+1)]) (aO (pI 7) x.env) Q:=by
 show WS x E _ (aO (_::_::_::_::pI 11) x.env) Q;have nm:∀{y v as},(y,v)∈[(Aq,oq m),(sN,nR F),(qS,.ref r),(xV,.int turned)]->og.contains y=true->∀{p},Ev x (nC L as) (.Name y p) v:=λh q=>.nl ok J (((((m7.nil.cons D.Jx).cons D.KU).cons D.Kd).cons (xW m▸D.Kc)).get h) q;refine .ce ok he (.fn ok he JV Jh (.nil (Op.make (as:=[]) (rest:=[nO a l,.lst r (rows.map ny),.qU (x.L+1)]) ok ex (Jf _) (Jg _) (uu Cm _) (n:=1) (by decide) .refl (λa=>F_) ?_ (λO O O h=>h.elim))));rintro n av as' ⟨rfl,e1,e2,rfl⟩;refine⟨rfl,_,_,.inl rfl,(.tail (.tail (.tail (.tail (.tail .head))))),?_⟩;refine .sA ok he (nm (.head _) (by decide +kernel)) (.ce ok he (.tail _ (.tail _ m3))) (.tail (.tail .head)) .here tE CA ?_ (by simp) rfl;refine .sW ok he (.fn ok he CG zJ.keep (.cons (WE.mono (Q:=λv σ=>∃F',(∀p∈F',p∈F)/\F'.length<=F.length/\v=nR F'/\σ=nC L [.mO e2 [],.mO e1 [],oS n (oq m) e1 e2 true,nO a l,.lst r (rows.map ny),.nq (x.L+1) (.ref n)]) (.ite (.tY (.ev (nm m3 (by decide +kernel)) (.ev .int (mQ.nI .eq ⟨_,rfl,?_⟩))))) ?_)))
 ·split
  ·refine .freeze (.rev (.ev (nm m1 (by decide +kernel)) ⟨_,.ng,by rw[ah];exact ar D.fo.1 (by decide),λb=>⟨b,_,_,rfl,.head,F.reverse,λp h=>dm.mp h,by simp,by rw[<-fP],rfl⟩⟩))
  ·exact .ev (nm m1 (by decide +kernel)) ⟨F,λO h=>h,bz _,rfl,rfl⟩
 rintro v σ ⟨F',hm1,qd,rfl,rfl⟩;rw[nR,<-z_];refine .nil (mG.op (as:=[]) (rest:=[.mO e2 [],.mO e1 [],oS n (oq m) e1 e2 true,nO a l,.lst r (rows.map ny),.nq (x.L+1) (.ref n)]) (CP (by have:=D.fo.1;rw[ah];exact aaG qd this)) ok ex (by decide) .refl ?_ (λO O h=>h.elim));refine EK λg1=>?_;refine⟨n,308,_,_,_,.ce ok he (.tail _ (.tail _ (.tail _ m3))),(.tail (.tail (.tail .head))),.there (by decide +kernel) .here,tE,GL,by simp,?_⟩;rw[Ke];refine .forget (as'':=[oS n (oq m) g1 e2 true,.mO g1 (ents (dG F')),nO a l,.lst r (rows.map ny),.nq (x.L+1) (.ref n)]) (.pick (.tail .t2) (.pick .head (.skip (.skip .refl)))) ?_;refine .sW ok he (.forget (.fn ok he CG zJ.keep (.cons (WE.mono (Q:=λv σ=>∃R qQ,v=.lst (R.map pw)/\(∀q∈R,oH 2 q.1/\oV q.2.2/\(q.2.2.map (λO=>O.1)).Nodup)/\R.length<=2/\Arr qQ [oS n (oq m) g1 e2 true,.mO g1 (ents (dG F')),nO a l,.lst r (rows.map ny),.nq (x.L+1) (.ref n)]/\σ=nC L (nz R++qQ)) (.freeze (.comp ok (λn' D C it σ=>EO L [oS n (oq m) g1 e2 true,.mO g1 (ents (dG F')),nO a l,.lst r (rows.map ny),.nq (x.L+1) (.ref n)] n' D C it σ) rows.length (cl:=[]) (rfl) (by decide +kernel) ?_ ?_)) ?_))))
 ·refine .ite (.tY (.ev (nm m3 (by decide +kernel)) (.ev .int (mQ.nI .eq ⟨_,rfl,?_⟩))));split
  ·refine .rev (.ev (nm m2 (by decide +kernel)) ⟨_,.own m3,by rw[ah];exact ar D.ro.1 (by decide),λb=>?_⟩);rw[<-fP];exact .list (.head _) λit D' C=>⟨.list m2,.mk (R:=[]) ⟨by rw[eX];exact D.ro.1,λq h=>D.ro.2 q (dm.mp h)⟩ (.head _) .n8 (by rw[eX];rfl) (λO h=>nomatch h)⟩
  ·exact .ev (nm m2 (by decide +kernel)) (.list m3 λit D' C=>⟨.list m2,.mk (R:=[]) D.ro m3 .refl rfl (λO h=>nomatch h)⟩)
 ·intro n' D' C it σ h;cases h with
  | @mk mP b f yx qQ R ho hm ha rq hR=>
  cases n' with
  |zero=>refine⟨none,_,.wJ ok (.tail _ (.tail _ (.tail _ (aS _ hm)))) .t2 (by rw[bc,b7 (sd rq)];rfl),f,_,.head,D',_,_,rfl,.head,R,qQ,rfl,hR,?_,ha,rfl⟩;have:=ho.1;exact aaF rq this
  |succ n'=>
   have pL:R.length<yx.length:=rJ rq;have hy:yx[R.length]?=some yx[R.length]:=aw pL;have hq:=ho.2 _ (bL (n:=R.length) (l:=yx) (rJ rq));generalize yx[R.length]=q at hy hq;refine⟨some (ny q),_,.list (.tail _ (.tail _ (.tail _ (aS _ hm)))) (.tail (.tail .head)) (by rw[bc,hy];rfl),true,_,.own m2,.v_ (ok.cmp rfl) (mW he) rfl .head,.nil,?_⟩;refine .forget (.tuple (.one (.cv (ok.cmp rfl) (mW he) rfl (.head _) m1) (.cons (.fn (ok.cmp rfl) (mW he) CG zJ.keep (.cons (.freeze (.rev (.ev (.cv (ok.cmp rfl) (mW he) rfl (.head _) (.head _)) ⟨_,.ng,by rw[ah];exact ar hq.2.1 (by decide),λb'=>⟨b',_,_,rfl,.head,?_⟩⟩))))))));rw[<-fP,<-z_];refine .nil (mG.op (as:=[]) (rest:=.nf C [(qj,nR q.2),(qt,.int q.1)]::.lst D' (R.map pw)::.is mP (pP b (R.length+1))::(nz R++qQ)) (CP (by have:=hq.2.1;rw[ah,eX];exact aaE this)) (ok.cmp rfl) .qp (by decide) .refl ?_ (λO O h=>h.elim));refine EK λg=>?_;rw[Ke];refine .nil ⟨by simp,_,.pick .t1 (.pick .t1 (.pick .t1 .refl)),R.map pw,_,.tail .head,by have:=ho.1;rw[ah];exact aaD rq this,n',pg,?_⟩;have:=EO.mk (n:=n') (D:=D') (C:=C) (it:=mP) (L:=L) (f:=[(qj,nR q.2),(qt,.int q.1)]) (R:=R++[(q.1,g,dG q.2.reverse)]) ho hm ha (by simp;exact sZ rq) (λz hz=>by
    refine(aH.mp hz).elim (λh=>?_) λh=>?_
    ·exact hR z h
    ·obtain rfl:=ao.mp h
     exact⟨hq.1,hq.2.dG (λp h=>dm.mp h) (by simp),CZ _⟩)
   rw[CO,au,aa]at this;exact this
 rintro v σ ⟨R,qQ,rfl,hR,OM,ha,rfl⟩;rw[<-QR];refine .nil (mG.op (as:=[]) (rest:=nz R++qQ) (CP (by rw[ah];exact aaC OM)) ok ex (by decide) .refl ?_ (λO O h=>h.elim));refine EK λg2=>?_;rw[SQ];refine⟨_,.trans (.pick .head (Arr.dG R qQ)) (.names ha),n,308,_,_,_,.ce ok he (.tail _ (.tail _ (.tail _ (aS _ m2)))),.head,.there (by decide +kernel) (.there (by decide +kernel) .here),tE,Gp,by simp,?_⟩;refine .forget (Arr.swap (A:=nc n m (dG F') (dG R) g1 g2 true)) (k ⟨D.mo,(D.fo.dG hm1 qd),CZ _,?_,?_,?_⟩)
 ·rw[ah];exact ar (KX R) OM
 ·intro q hq;obtain⟨z,hz,rfl⟩:=aG.mp hq;exact hR z (KW hz)
 ·have:=CZ R
  simpa [mJ,bR] using this
end
end
section
section
variable {c:Cx}{σ:Sg}{d:Nat}{E:Ex}{ε:Env}{ns:List Str}
theorem Op.forget{ys:List AV}{t:List Value->fH Value}{Q:AV->Sg->Prop}(h:Op c E σ ys t (Eu Q)):Op c E σ ys t Q:=by intro fr xs vs us s S hl;refine(h.go fr xs vs us s S hl).mono ?_ λO O e=>e;rintro v s' ⟨x,mF,S',as'',A,q⟩;exact⟨x,⟨mF.lo,as''⟩,St.arr S' A,q⟩
theorem mG.zC{nb:Bool}{f:Value}{n:Nat}{args:List AV}{as:List mH}{R:AV->List mH->Prop}{X:mZ->List mH->Prop}{lo:List (Option AV)}{Q:AV->Sg->Prop}{XX:mZ->Sg->Prop}(h:mG nb f n args as R X)(ok:Ok c d)(ex:Exits c E XX)(J:n<=d)(A:List mH)
  (hr:∀av as',R av as'->Q av ⟨lo,A++as'⟩)(hx:∀x as',X x as'->XX x ⟨lo,A++as'⟩)(hb:nb=true->c.nd=true:=by intro h;cases h):Op c E ⟨lo,A++as⟩ args (λus=>aF f us) Q:=
 .forget (mG.op h ok ex.drop J Arr.swap (λav as' r=>⟨_,Arr.swap,hr av as' r⟩) (λx as' r=>⟨_,Arr.swap,hx x as' r⟩) hb)
theorem mG.Cb{nb:Bool}{f:Value}{n:Nat}{args:List AV}{R:AV->Prop}{Q:AV->Sg->Prop}{XX:mZ->Sg->Prop}(h:mG nb f n args [] (λav as'=>R av/\as'=[]) nE)(ok:Ok c d)(ex:Exits c E XX)(J:n<=d)(hr:∀av,R av->Q av σ)(hb:nb=true->c.nd=true:=by intro h;cases h):Op c E σ args (λus=>aF f us) Q:=
 mG.op (as:=[]) (rest:=σ.as) (lo:=σ.lo) h ok ex J .refl (λav as' r=>by rw[r.2];exact hr av r.1) (λO O h=>h.elim) hb
noncomputable def ac4:AV->AV
 |.tup (y::_)=>y
 |y=>y
theorem WE.EP{n1 n2:Str}{p p1 p2 p3 pos:iA}{k:Nat}{iter:cI}{sc:Scope}{Q:AV->Sg->Prop}(ok:Ok c d)(he:c.env=ε)(l:List (Int×AV))(hz:l.length<=1000)
  (h:WE c E σ (aT iter c.env) λv mM=>v=.lst (l.map tM)/\∀D,Q (.ref D) ⟨mM.lo,.lst D ((l.map (λO=>O.1)).map .int)::mM.as⟩)
  (nj:autoParam (dP sc ε=pure []) aR)(pj:autoParam (r4 sc=true) aK)(zD:autoParam ((n1==n2)=false) aK)(h1:autoParam (∀C,(dT sc [] C ε).kindOf n1=some .local) aI)(h2:autoParam (∀C,(dT sc [] C ε).kindOf n2=some .local) aI)(hd:autoParam ((n1==("__debug__":Str))=false) aK)(hk:autoParam (sc.kind=.function) aR)
  (hs:autoParam (∀x,bJ iter c.env x=pure x) aI):
  WE c E σ (aT (.ListComp (.Name n1 p) [⟨.Tuple [.Name n1 p1,.Name n2 p2] k p3,iter,[],0⟩] sc pos) c.env) Q:=by
 refine .tL ok (l.map tM) (λO=>true) ac4 (λy=>match y with|.tup [a,b]=>[(n2,b),(n1,a)]|_=>[]) (cl:=[]) (by rw[he];exact nj) pj (by rw[ah];exact MP hz) (h.mono ?_) hs;rintro v ⟨lo,as⟩ ⟨rfl,q⟩;refine⟨_,.ng ok,λO O O O h=>.ng h,λy hy=>?_,λD=>?_⟩
 ·obtain⟨z,hz,rfl⟩:=aG.mp hy;exact⟨λC f n6=>.v_ (ok.cmp hk) (mW he) rfl .head zD (h1 C) (h2 C),λC n6 k=>.nil,λO C n6 k=>.ev (.cv (ok.cmp hk) (mW he) rfl (.head _) m1 (h1 C) hd) ⟨rfl,rfl⟩⟩
 ·have:=q D;rw[filter_tt,aN];rw[aN]at this;exact this
theorem WE.BJ{n1:Str}{p p0 p1 pos:iA}{iter t:cI}{sc:Scope}{Q:AV->Sg->Prop}(ok:Ok c d)(he:c.env=ε)(l:List Int)(b:Int->Bool)(hz:l.length<=1000)
  (h:WE c E σ (aT iter c.env) λv mM=>v=.lst (l.map .int)/\∀D,Q (.ref D) ⟨mM.lo,.lst D ((l.filter b).map .int)::mM.as⟩)
  (ht:∀{C:aA}{mT:Sg}{i:Int},Ev (c.cmp sc [] C) mT (.Name n1 p1) (.int i)->Tr (c.cmp sc [] C) mT t (b i))
  (nj:autoParam (dP sc ε=pure []) aR)(pj:autoParam (r4 sc=true) aK)(h1:autoParam (∀C,(dT sc [] C ε).kindOf n1=some .local) aI)(hd:autoParam ((n1==("__debug__":Str))=false) aK)(hk:autoParam (sc.kind=.function) aR)
  (hs:autoParam (∀x,bJ iter c.env x=pure x) aI):
  WE c E σ (aT (.ListComp (.Name n1 p0) [⟨.Name n1 p,iter,[t],0⟩] sc pos) c.env) Q:=by
 refine .tL ok (l.map .int) (λy=>match y with|.int i=>b i|_=>false) id (λy=>[(n1,y)]) (cl:=[]) (by rw[he];exact nj) pj (by rw[ah];exact MP hz) (h.mono ?_) hs;rintro v ⟨lo,as⟩ ⟨rfl,q⟩;refine⟨_,.ng ok,λO O O O O=>.name,λy hy=>?_,λD=>?_⟩
 ·obtain⟨z,hz,rfl⟩:=aG.mp hy;refine⟨λC f n6=>.cv (ok.cmp hk) (mW he) rfl .head (h1 C),λC n6 k=>.one (ht (.cv (ok.cmp hk) (mW he) rfl (.head _) (.head _) (h1 C) hd)),λO C n6 k=>.ev (.cv (ok.cmp hk) (mW he) rfl (.head _) (.head _) (h1 C) hd) ⟨rfl,rfl⟩⟩
 ·have:=q D;rw[List.filter_map,gg];exact this
end
end
section
noncomputable def m_(rs:List (Int×List (Int×List Nat))):List (Int×List (Int×List Nat)):=(oG (rs.map (λO=>O.1))).map λk=>(k,nB (rowOf rs k))
noncomputable def rt(S:nh):List Int:=(nB S.fs).map (λO=>O.1)++(m_ S.rs).map (λO=>O.1)++(m_ S.rs).flatMap λq=>q.2.map (λO=>O.1)
noncomputable def vO(S:nh):Bool:=decide (((rt S).filter λi=>decide (i<0)).map AV.int≠[])
noncomputable abbrev zE(rs:List (Int×List (Int×List Nat))):List (Int×AV):=rs.map λq=>(q.1,nR q.2)
theorem SR(rs:List (Int×List (Int×List Nat))):(zE rs).map tM=rs.map ny:=by rw[zE,aN];rfl
theorem Jy(l:List (Int×List Nat)):(ents l).map (λO=>O.1)=l.map (λO=>O.1):=by rw[ents,aN];rfl
theorem T5(rs:List (Int×List (Int×List Nat))):(zE rs).map (λO=>O.1)=rs.map (λO=>O.1):=by rw[zE,aN];rfl
theorem xT(l:List (Int×List Nat)):(nB l).length=l.length:=by rw[nB,ah,wB,ah]
theorem vd(rs:List (Int×List (Int×List Nat))):(m_ rs).length=rs.length:=by rw[m_,ah,wB,ah]
noncomputable abbrev xX:=af "before"
noncomputable abbrev yn:=af "just"
noncomputable abbrev vh:=af "lists"
noncomputable abbrev CR:=af "indices"
noncomputable abbrev SS:=af "is_low"
noncomputable abbrev tH:=af "coded"
structure n9 where
 a:aA
 r:aA
 n:aA
 d1:aA
 d2:aA
 m:Option (List Nat)
 F:List (Int×List Nat)
 rows:List (Int×List (Int×List Nat))
 bad:Int
 pad:Int
 turned:Int
 extra:Int
 strange:Int
 fs:List (Int×List Nat)
 R:List Row
noncomputable abbrev n9.S(D:n9):nh:=⟨D.m,D.fs,mJ D.R⟩
structure n9.Ok(D:n9):Prop where
 mo:Bf D.m
 fo:oV D.F
 ro:ym D.rows
 bo:0<=D.bad/\D.bad<8
 po:0<=D.pad/\D.pad<3
 so:0<=D.strange/\D.strange<253
 N:pU D.S
noncomputable abbrev n9.nA(D:n9):List mH:=nc D.n D.m D.fs D.R D.d1 D.d2 true
noncomputable abbrev n9.as(D:n9)(L:aA)(l:List Int):List mH:=[nO D.a l,.lst D.r (D.rows.map ny),.nq (L+1) (.ref D.n)]
noncomputable abbrev n9.H0(D:n9):List (Str×AV):=[(uy,.ref D.a),(Aq,oq D.m),(sN,nR D.F),(qS,.ref D.r),(vB,.int D.bad),(vz,.int D.pad),(xV,.int D.turned),(Ar,.int D.extra),(z7,.int D.strange)]
noncomputable abbrev n9.H3(D:n9):List (Str×AV):=[(tH,qN (D.m.map λt=>t.flatMap u8)),(SS,.bool (vO D.S)),(CR,.lst ((rt D.S).map .int)),(vh,.lst ((m_ D.S.rs).map ny)),(yn,nR (nB D.fs)),(xX,(Told.mk D.m D.fs D.S.rs true).av)]++D.H0
theorem SU:vO S=true↔∃i∈rt S,i<0:=by simp[vO]
noncomputable def Nr(rs:List (Int×List (Int×List Nat))):AV->AV
 |.int k=>ny (k,nB (rowOf rs k))
 |y=>y
theorem SV(rs:List (Int×List (Int×List Nat))):(((oG (rs.map (λO=>O.1))).map AV.int).filter λO=>true).map (Nr rs)=(m_ rs).map ny:=by rw[filter_tt,m_,aN,aN];rfl
theorem wx(h:oV l):oV (nB l):=⟨by rw[xT];exact h.1,λp hp=>by
 obtain⟨k,hk,rfl⟩:=aG.mp hp
 exact h.2 _ (Ad ((rU _).mem_iff.mp hk)).2⟩
theorem CF(nd:(rs.map (λO=>O.1)).Nodup)(h:∀q∈rs,oH 2 q.1/\oV q.2):∀q∈m_ rs,oH 2 q.1/\oV q.2:=λq hq=>by obtain⟨k,hk,rfl⟩:=aG.mp hq;obtain⟨z,hz,rfl⟩:=aG.mp ((rU _).mem_iff.mp hk);rw[zY nd z hz];exact⟨(h z hz).1,wx (h z hz).2⟩
theorem CS{α β:Type}{f:α->List β}{l:List α}:(∀x∈l,(f x).length<=n)->(l.flatMap f).length<=n*l.length:=by
 induction l with
 |nil=>exactλh=>bB _
 |cons x l ih=>intro h;rw[bx,aa];exact ar (cK (h x (.head _)) (ih λy hy=>h y (.tail _ hy))) (da (fc ..))
theorem Kf(N:pU S):(rt S).length<=1000:=by
 have h3:=CS (f:=λq:Int×List (Int×List Nat)=>q.2.map (λO=>O.1)) (n:=3) (l:=m_ S.rs) λq hq=>by rw[ah];exact(CF N.rn (λq hq=>⟨(N.r q hq).1,(N.r q hq).2.1⟩) q hq).2.1
 rw[vd]at h3;simp only[rt,aa,ah,xT,vd];exact aaK (N.f.1) (N.rl) h3
section
variable {x:Cx}{E:Ex}{XX:mZ->Sg->Prop}{σ:Sg}{ε:Env}{d:Nat}
theorem WE.LJ(ok:Ok x d)(hd:2<=d)(he:x.env=ε)(ex:Exits x E XX)(ho:∀t,m=some t->(∀p∈t,isSign p)/\t.length<=16000)(h:Ev x σ t (oq m))(h2:Ev x σ t2 (oq m))(q:Q (qN (m.map λt=>t.flatMap u8)) σ)
  (hm:autoParam (dU .Is (.Constant .none k1 p1)=false) aR)(hk:autoParam (ε.kindOf (af "_law_octets")=some .globalImplicit) aR)(qz:autoParam (∀env,aU [t2] env=(false,aT t2 env)::aU [] env) aI)
  (hv:autoParam (∀env,aT (.Call (.Name (af "_law_octets") p4) [t2] [] p5) env=(do cA p5 (<-aT (.Name (af "_law_octets") p4) env) [] (cM p5 (aU [t2] env)) (dF p5 (cF [] env)))) aI)(hp:autoParam ((aU [t2] x.env).any (λO=>O.1)=false) aR):
  WE x E σ (aT (.IfExp (.Compare t [.Is] [.Constant .none k1 p1] p2) (.Constant .none k2 p3) (.Call (.Name (af "_law_octets") p4) [t2] [] p5) p6) x.env) Q:=by
 cases m with
 |none=>exact .ite (Tr.wt (.cmp h .none (.isNone rfl) hm) (.ev .none q))
 |some t'=>refine .ite (Tr.wt (.cmp h .none (.isNone rfl) hm) (.fn ok he GH Ci.keep (.one h2 (.nil (mG.op (as:=[]) (rest:=σ.as) (lo:=σ.lo) (HH (ho t' rfl).1 (ho t' rfl).2) ok ex hd .refl ?_ (λO O h=>h.elim))) qz) hk (by decide +kernel) hv hp));refine nF ?_;exact q
end
section
variable {x:Cx}{E:Ex}(ok:Mine.Internal.Ok x 12) (he:x.env=pZ.px x.L) (J:Nm x og) {XX:mZ->Sg->Prop}(ex:Exits x E XX)
include ok he J ex
theorem ac5{D:n9}(hD:D.Ok){L:Str->Option AV}{Q:Out->Sg->Prop}(H:m7 L D.H0)
  (k:∀{L'},m7 L' D.H3->WS x E (nC L' (D.as x.L l++D.nA)) (aO (pI 18) x.env) Q):WS x E (nC L (D.as x.L l++D.nA)) (aO (pI 11) x.env) Q:=by
 show WS x E _ (aO (_::_::_::_::_::_::_::pI 18) x.env) Q;have N:=hD.N;refine .pd ok he J (.fn ok he zP xJ.keep (.one (.ce ok he m2) (.nil (mG.zC (zV N.ui) ok ex (by decide) (D.as x.L l) ?_ (λO O h=>h.elim)))));refine nF ?_;refine⟨rfl,λL h1 o=>?_⟩;have H:=(H.off o).cons h1;clear h1 o;have FI:=N.f.1;refine .pd ok he J (.forget (.fn ok he GG Cj.keep (.one (.attr ok (.ce ok he m2) m3 m1 (wq _)) (.nil (mG.op (rest:=D.as x.L l++(oS D.n (oq D.m) D.d1 D.d2 true::.mO D.d2 (m9 D.R)::nz D.R)) (HG (ar FI (by decide)) (.inl (cj FI (by decide)))) ok ex (by decide) (.pick (.tail (.tail .t2)) .refl) ?_ (λO O h=>h.elim))))));refine nF ?_;refine⟨D.as x.L l++D.nA,.pick .t1 (.pick .t1 (.pick .t1 (.pick .t1 .refl))),rfl,λL h1 o=>?_⟩;have H:=(H.off o).cons h1;clear h1 o;have tw:=N.rl;have ON:(m9 D.R).length<=2:=by rw[ah];rw[ah]at tw;exact tw
 refine .tL ok he J ((oG ((mJ D.R).map (λO=>O.1))).map .int) (λO=>true) (Nr (mJ D.R)) (λy=>[(qt,y)]) (cl:=[(Ap,x.L+1)]) (by rw[he];rfl) (by decide +kernel) (by rw[ah,wB,ah];exact ar tw (by decide))
  (.bf ok he Ac (.one (.attr ok (.ce ok he m2) m3 m2 (sJ _)) (.nil (.Af ok (.tail _ (.tail _ m3)) (ar ON (by decide)) (.inl (cj ON (by decide))) λla=>?_))))
 rw[(by simp[m9,mJ,n9.S]:(m9 D.R).map (λO=>O.1)=(mJ D.R).map (λO=>O.1))];refine⟨_,.own ok (.head _),λO O O O O=>.name,λy hy=>?_,λDD=>⟨_,qa,?_⟩⟩
 ·obtain⟨k',hk,rfl⟩:=aG.mp hy;have hk:k'∈D.R.map (λO=>O.1):=by
   have:=(rU _).mem_iff.mp hk
   simpa [n9.S,mJ] using this
  obtain⟨R1,r,R2,eR,er,hg,B8⟩:=Jm hk;have xB:r∈D.R:=by rw[eR];exact aS _ (.head _)
  have hr:=N.r (r.1,r.2.2) (aZ (f:=λr:Row=>(r.1,r.2.2)) xB);refine⟨λC f n6=>.cv (ok.cmp rfl) (mW he) rfl .head,λC n6 k=>.nil,λO C n6 k=>?_⟩;refine(nt.KA (k _ (.tail _ (.tail _ (.tail _ (.tail _ (.tail _ (.tail _ (.tail _ (dm.mpr (aZ (f:=λr:Row=>mH.mO r.2.1 (ents r.2.2)) xB))))))))))).elim λr' w9=>w9.elim λDl P=>?_;refine .forget (.tuple (.one (.cv (ok.cmp rfl) (mW he) rfl (.head _) (.head _)) (.cons (.fn (ok.cmp rfl) (mW he) GG Cj.keep (.one (.item (.attr (ok.cmp rfl) (.ce (ok.cmp rfl) (mW he) (.tail _ (k _ m3))) (.tail _ (k _ (.tail _ m3))) m2 (sJ _)) (.cv (ok.cmp rfl) (mW he) rfl (.head _) (.head _)) (.mO (.tail _ (k _ (.tail _ (.tail _ (.tail _ m3))))) hg)) (.nil (mG.op (as:=[.mO r.2.1 (ents r.2.2)]) (rest:=.nf C [(qt,.int k')]::r') (HG (ar hr.2.1.1 (by decide)) (.inl (cj hr.2.1.1 (by decide)))) (ok.cmp rfl) .qp (by decide) (.pick (.tail Dl) .refl) ?_ (λO O h=>h.elim))))))));refine nF ?_;refine .nil ⟨l9 rfl,_,.sO (((bX.swap _ _ _).trans (P.cons _))),?_,rfl⟩;show AV.tup _=ny (k',nB (rowOf (mJ D.R) k'));rw[B8]
 rw[SV];refine .yN J .here .head λL' h2 o2=>?_;have H:=(((H.off (Off.rfl.upd (x:=vh) (v:=.ref DD) (xs:=[vh]))).off o2)).cons h2;clear h2 o2;refine .forget .n8 ?_;have OO:=CF N.rn λq hq=>⟨(N.r q hq).1,(N.r q hq).2.1⟩;have FK:(m_ (mJ D.R)).length<=2:=by rw[vd];exact tw
 have zA:(nB D.fs).length<=3:=by rw[xT];exact FI
 refine .pd ok he J (.binop (.EP ok he (ents (nB D.fs)) (by rw[ah];exact ar zA (by decide)) (.ev (.nl ok J (H.n 1 rfl)) ⟨by rw[z_],λD1=>?_⟩)));refine .EP ok he (zE (m_ (mJ D.R))) (by rw[ah];exact ar FK (by decide)) (.ev (.nl ok J (H.n 0 rfl)) ⟨by rw[SR],λD2=>.rC m1 (.head _) (by simp only[ah];exact aaJ FK zA) λi=>⟨rfl,λL' h2 o2=>?_⟩⟩);have H:=(H.off o2).cons h2;clear h2 o2;rw[Jy,T5,<-au];refine .forget (as'':=.lst i (((nB D.fs).map (λO=>O.1)++(m_ (mJ D.R)).map (λO=>O.1)).map .int)::(D.as x.L l++D.nA)) (.pick .head (.skip (.skip .refl))) ?_;refine .Ba ex.own (ι:=Nat×(Str->Option AV)) (λit q=>nC q.2 (.fit it (.lst ((m_ (mJ D.R)).map ny)) q.1::.lst i (((nB D.fs).map (λO=>O.1)++(m_ (mJ D.R)).map (λO=>O.1)++((m_ (mJ D.R)).take q.1).flatMap λz=>z.2.map (λO=>O.1)).map .int)::(D.as x.L l++D.nA)))
  (λn q=>n+q.1=(m_ (mJ D.R)).length/\m7 q.2 ((CR,.ref i)::(vh,.lst ((m_ (mJ D.R)).map ny))::(yn,nR (nB D.fs))::(xX,(Told.mk D.m D.fs (mJ D.R) true).av)::D.H0)) (m_ (mJ D.R)).length ?_ ?_
 ·exact .ev (.nl ok J (H.n 1 rfl)) (.ng λit=>⟨it,(0,_),⟨jG _,H⟩,rfl,by simp⟩)
 rintro n it ⟨j,L⟩ Q' w ⟨hj,H⟩;dsimp only at hj H ⊢;cases n with
 |zero=>obtain rfl:j=(m_ (mJ D.R)).length:=MQ hj;refine⟨none,_,.vm ok .head (by simp),?_⟩;rw[cT];refine .yN J (H.n 0 rfl) .head λL' h2 o2=>?_;have H:m7 L' ((CR,.lst ((rt D.S).map .int))::(vh,.lst ((m_ (mJ D.R)).map ny))::(yn,nR (nB D.fs))::(xX,(Told.mk D.m D.fs (mJ D.R) true).av)::D.H0):=((H.sub (l':=(vh,.lst ((m_ (mJ D.R)).map ny))::(yn,nR (nB D.fs))::(xX,(Told.mk D.m D.fs (mJ D.R) true).av)::D.H0) λp h=>.tail _ h).off o2).cons h2;clear h2 o2;refine .pd ok he J (.yr ok (.BJ ok he (rt D.S) (λi=>decide (i<0)) (Kf N) (.ev (.nl ok J (H.n 0 rfl)) ⟨rfl,λD1=>⟨D1,_,rfl,(.head _),λb=>⟨rfl,λL' h2 o2=>?_⟩⟩⟩) λh=>.cmp h .int .lt));have H:=(H.off o2).cons h2;clear h2 o2;refine .forget (.skip .n8) (.pd ok he J (.LJ ok (by decide) he ex (λt e=>⟨(hD.mo t e).1,ar (hD.mo t e).2 (by decide)⟩) (.nl ok J (H.n 6 rfl)) (.nl ok J (H.n 6 rfl)) ⟨rfl,λL' h2 o2=>k ((H.off o2).cons h2)⟩))
 |succ n=>
  have pL:j<(m_ (mJ D.R)).length:=rJ hj;have sG:(m_ (mJ D.R))[j]?=some (m_ (mJ D.R))[j]:=aw pL;have hq:=OO _ (bL (n:=j) (l:=m_ (mJ D.R)) (rJ hj));generalize(m_ (mJ D.R))[j]=q at sG hq;refine⟨some (ny q),_,.ng .head (by rw[bc,sG];rfl),.ng (.head _),_,.tuple ok J (uL (uL .nil)),?_⟩;have H:=((H.off (Off.rfl.upd (x:=qt) (v:=.int q.1) (xs:=[qt,qj]))).off (Off.rfl.upd (x:=qj) (v:=nR q.2) (xs:=[qt,qj]))).cons (.here (v:=nR q.2));have hfl:=CS (f:=λq:Int×List (Int×List Nat)=>q.2.map (λO=>O.1)) (n:=3) (l:=(m_ (mJ D.R)).take j) λq hq=>by rw[ah];exact(OO q (eQ hq)).2.1
  have ac6:((m_ (mJ D.R)).take j).length<=j:=by rw[bS];exact aaI hj
  refine .ex he (.nX ok (.nl ok J (H.n 1 rfl)) (.lst iS PySem.F.type_list_extend m1) .builtin (.cons (.EP ok he (ents q.2) (by rw[ah];exact ar hq.2.1 (by decide)) (.ev (.nl ok J (H.n 0 rfl)) ⟨by rw[z_],λD1=>.nil (.extend (.tail (.tail .head)) (.head _) ?_ ⟨rfl,?_⟩)⟩))))
  ·simp only[ah,aa];have:=hq.2.1;exact aaH FK zA hj hfl ac6 this
  have eB:∀B:List Int,B++((m_ (mJ D.R)).take j).flatMap (λz=>z.2.map (λO=>O.1))++q.2.map (λO=>O.1)=B++((m_ (mJ D.R)).take (j+1)).flatMap λz=>z.2.map (λO=>O.1):=λB=>by rw[aj,bD,sG,bu];simp
  rw[Jy,<-au,eB];refine .forget .n8 (.nil (w _ _ ⟨n,(j+1,_),b_ n,⟨sZ hj,H.sub λp h=>.tail _ h⟩,rfl⟩))
end
end
noncomputable def oj(rs:List (Int×List (Int×List Nat))):List (Int×List (Int×List UInt8)):=rs.map λq=>(q.1,nx q.2)
noncomputable def tc(m:Option (List Nat)):Option (List UInt8):=m.map λt=>t.flatMap u8
noncomputable def rR(S:nh):List UInt8:=lw (tc S.m) (nx S.fs) (oj S.rs)
noncomputable def qB(S:nh):nh:=⟨S.m,nB S.fs,m_ S.rs⟩
theorem CL{α:Type}{f g:α->List UInt8}(h:∀a,f a=g a)(l:List α):l.flatMap f=l.flatMap g:=by rw[funext h]
theorem IX(l:List (Int×List Nat)):ql l=lmap (nx (nB l)):=by unfold ql lmap nx nB;simp only[aN,ah,wB,dq,bR];rw[CL (f:=rH l) λa=>by rw[rH,qu,<-aj]]
theorem RI(rs:List (Int×List (Int×List Nat))):sE rs=pe (oj (m_ rs)):=by unfold sE pe oj m_;simp only[aN,ah,wB,dq,bR];rw[CL (f:=qX rs) (g:=λa=>qm (a,nx (nB (rowOf rs a)))) λa=>by rw[qX,IX,qm]]
theorem Ig{α β γ:Type}[DecidableEq α][DecidableEq β]{l:List α}{l':List β}{a b:γ}(h:l'.length=l.length):(if l'=[]then a else b)=if l=[]then a else b:=by
 have:l'=[]↔l=[]:=by rw[<-dp,<-dp,h]
 by_cases q:l=[]
 ·rw[if_pos q,if_pos (this.mpr q)]
 ·rw[if_neg q,if_neg λe=>q (this.mp e)]
theorem xZ(S:nh):qY S=rR (qB S):=by
 have h1:qA S.fs=(oZ (nx (nB S.fs))).flatMap n4:=by
  unfold qA oZ;rw[Ig (l:=S.fs) (l':=nx (nB S.fs)) (by rw[nx,ah,xT])];split
  ·rfl
  ·rw[<-IX];exact(aW _).symm
 have h2:xA S.rs=(pz (oj (m_ S.rs))).flatMap n4:=by
  unfold xA pz;rw[Ig (l:=S.rs) (l':=oj (m_ S.rs)) (by rw[oj,ah,vd])];split
  ·rfl
  ·rw[<-RI];exact(aW _).symm
 have h3:pH S.m=(qw (tc S.m)).flatMap n4:=by
  unfold pH tc;cases S.m with
  |none=>rfl
  |some t=>exact(aW _).symm
 unfold qY rR lw qB;rw[bu,bu,h1,h2,h3]
noncomputable def pO(l:List (Int×List Nat)):Nat:=(l.map λp=>1+p.2.length).sum
noncomputable def u7(rs:List (Int×List (Int×List Nat))):Nat:=(rs.map λq=>1+pO q.2).sum
noncomputable def zF(m:Option (List Nat)):Nat:=m.elim 0 iw
noncomputable def sz(S:nh):Nat:=zF S.m+pO S.fs+u7 S.rs
noncomputable def qb(i:Int):Prop:=i<68719476736
structure u9(S:nh):Prop where
 m:∀t,S.m=some t->∀q∈t,isSign q
 f:∀p∈S.fs,qb p.1/\∀q∈p.2,isSign q
 r:∀z∈S.rs,qb z.1/\∀p∈z.2,qb p.1/\∀q∈p.2,isSign q
 z:sz S<=16000
theorem sY(h:qb i):(mK i.toNat).length<=6:=xU 6 _ (by decide) (by unfold qb at h;exact x40 h)
theorem tO(h:n<=1000000):(mK n).length<=3:=xU 3 _ (by decide) (EV h)
theorem ve{α:Type}(f:α->Nat)(a:α)(l:List α):((a::l).map f).sum=f a+(l.map f).sum:=by rw[bE,jl]
theorem wL{α:Type}{f:α->Nat}{a:α}{l:List α}(h:a∈l):f a<=(l.map f).sum:=
 h.rec (motive:=λl _=>f a<=(l.map f).sum) (λO=>by rw[ve];exact dz _ _) λO {O'} O ih=>by rw[ve];exact aa0 ih
theorem Kg{α:Type}{f:α->Nat}(h:∀a,1<=f a)(l:List α):l.length<=(l.map f).sum:=by
 induction l with
 |nil=>exact bz _
 |cons a l ih=>rw[ve];exact ar (da (fc ..)) (cK (h a) ih)
theorem Jz{α:Type}{f:α->List UInt8}{g:α->Nat}{k:Nat}{l:List α}:(∀a∈l,(f a).length<=k*g a)->(l.flatMap f).length<=k*(l.map g).sum:=by
 induction l with
 |nil=>exactλh=>bB _
 |cons a l ih=>intro h;rw[bx,aa,ve,jS];exact cK (h a (.head _)) (ih λb hb=>h b (.tail _ hb))
theorem vj(l:List (Int×List Nat)):l.length<=pO l:=Kg (λO=>dz _ _) l
theorem Df(l:List (Int×List (Int×List Nat))):l.length<=u7 l:=Kg (λO=>dz _ _) l
theorem JA(h:∀p∈l,qb p.1)(hz:pO l<=16000):(lmap (nx l)).length<=3+9*pO l:=by
 unfold lmap;rw[aa,nx,ah,dq];have h1:=tO (n:=l.length) (by have:=vj l;exact MU hz this);have h2:=Jz (f:=λp:Int×List Nat=>mK p.1.toNat++mK (p.2.flatMap u8).length++p.2.flatMap u8) (g:=λp=>1+p.2.length) (k:=9) (l:=l) λp hp=>by have b:=tG p.2;simp only[aa];exact aaY (sY (h p hp)) b (tO (n:=(p.2.flatMap u8).length) (aaZ hz b (wL (f:=λp:Int×List Nat=>1+p.2.length) hp)))
 unfold pO;dsimp only;exact MS h1 h2
theorem RJ(h:∀z∈rs,qb z.1/\∀p∈z.2,qb p.1)(hz:u7 rs<=16000):(pe (oj rs)).length<=3+9*u7 rs:=by
 unfold pe;rw[aa,oj,ah,dq];have h1:=tO (n:=rs.length) (by have:=Df rs;exact MU hz this);have h2:=Jz (f:=λz:Int×List (Int×List Nat)=>qm (z.1,nx z.2)) (g:=λz=>1+pO z.2) (k:=9) (l:=rs) λz n7=>by simp only[qm,aa];exact aaX (sY (h z n7).1) (JA (h z n7).2 (MT hz (wL (f:=λz:Int×List (Int×List Nat)=>1+pO z.2) n7)))
 unfold u7;exact MS h1 h2
theorem As(h:p.2.length<=1000000):(n4 p).length<=4+p.2.length:=by have:=tO h;simp only[n4,bZ,aa];exact aaW this
theorem u9.len(h:u9 S):(rR S).length<=30+9*sz S:=by
 have hz:=h.z;unfold rR lw;rw[bu,bu,aa,aa];have h0:((qw (tc S.m)).flatMap n4).length<=7+4*zF S.m:=by
  unfold sz at hz;generalize S.m=m at hz ⊢;cases m with
  |none=>exact bB _
  |some t=>have b:=tG t;have:zF (some t)=t.length:=rfl;have d:=tO (n:=(t.flatMap u8).length) (aaV hz b this);have e:=As (p:=(0,mK (t.flatMap u8).length++t.flatMap u8)) (by rw[aa];exact aaU hz b this d);rw[aa]at e;exact ar (da (congrArg iw (aW (n4 (0,mK (t.flatMap u8).length++t.flatMap u8))))) (aaT b this d e)
 have h1:((oZ (nx S.fs)).flatMap n4).length<=7+9*pO S.fs:=by
  have e:=JA (λp hp=>(h.f p hp).1) (l:=S.fs) (by unfold sz at hz;exact aaS hz);unfold oZ;split
  ·exact bB _
  ·have:=As (p:=(1,lmap (nx S.fs))) (by dsimp only;unfold sz at hz;exact aaR hz h0 e);simp only[bx,cD,aW];dsimp only at this;exact MR e this
 have h2:((pz (oj S.rs)).flatMap n4).length<=7+9*u7 S.rs:=by
  have e:=RJ (λz hz=>⟨(h.r z hz).1,λp hp=>((h.r z hz).2 p hp).1⟩) (rs:=S.rs) (by unfold sz at hz;exact aaQ hz);unfold pz;split
  ·exact bB _
  ·have:=As (p:=(2,pe (oj S.rs))) (by dsimp only;unfold sz at hz;exact aaP hz h0 e);simp only[bx,cD,aW];dsimp only at this;exact MR e this
 unfold sz;exact aaO h0 h1 h2
noncomputable def BB(S:nh):Prop:=(∀p∈S.fs,0<=p.1)/\∀z∈S.rs,0<=z.1/\∀p∈z.2,0<=p.1
theorem JB{r:Int×List (Int×List UInt8)}(h:r∈oj rs):∃z∈rs,r=(z.1,nx z.2):=by obtain⟨z,hz,rfl⟩:=aG.mp h;exact⟨z,hz,rfl⟩
theorem Dg{r:Int×List UInt8}(h:r∈nx l):∃z∈l,r=(z.1,z.2.flatMap u8):=by obtain⟨z,hz,rfl⟩:=aG.mp h;exact⟨z,hz,rfl⟩
theorem u9.xE(h:u9 S)(hp:BB S):xE (tc S.m) (nx S.fs) (oj S.rs) where
 f:=λp oo=>by obtain⟨z,hz,rfl⟩:=Dg oo;exact⟨hp.1 z hz,ar (sY (h.f z hz).1) (by decide)⟩
 r:=λr hr=>by obtain⟨z,hz,rfl⟩:=JB hr;refine⟨(hp.2 z hz).1,ar (sY (h.r z hz).1) (by decide),λp oo=>?_⟩;obtain⟨y,hy,rfl⟩:=Dg oo;exact⟨(hp.2 z hz).2 y hy,ar (sY ((h.r z hz).2 y hy).1) (by decide)⟩
 z:=by have a:=h.len;have b:=h.z;unfold rR at a;exact aaN a b
 fl:=by rw[nx,ah];have:=vj S.fs;have:=h.z;unfold sz at this;exact aaM (by assumption) this
 rl:=λr hr=>by obtain⟨z,hz,rfl⟩:=JB hr;have b:=h.z;unfold sz at b;rw[nx,ah];exact aaL (vj z.2) (wL (f:=λz:Int×List (Int×List Nat)=>1+pO z.2) hz) b
theorem KZ(nd:(l.map (λO=>O.1)).Nodup):∀p∈l,txt l p.1=p.2:=λp hp=>by
 have h:=(Ad (aZ (f:=(λO=>O.1)) hp)).1;rw[wI nd hp]at h
 injection h with h
 injection h with h
 exact h.symm
theorem CM(nd:(l.map (λO=>O.1)).Nodup):(nB l).Perm l:=by refine((rU (l.map (λO=>O.1))).map λk=>(k,txt l k)).trans ?_;rw[aN,b8 (g:=id) λp hp=>by simp only[bR,KZ nd p hp,id],gg]
theorem Ih(nd:(rs.map (λO=>O.1)).Nodup):(m_ rs).Perm (rs.map λz=>(z.1,nB z.2)):=by refine((rU (rs.map (λO=>O.1))).map λk=>(k,nB (rowOf rs k))).trans ?_;rw[aN,b8 (g:=λz=>(z.1,nB z.2)) λz hz=>by simp only[bR,zY nd z hz]]
theorem JC(h:(l.map (λO=>O.1)).Pairwise (λO O'=>O<O')):nB l=l:=by unfold nB;rw[I9 (h.imp dJ),aN,b8 (g:=id) λp hp=>by simp only[bR,KZ (h.imp fg) p hp,id],gg]
theorem SW(h:(rs.map (λO=>O.1)).Pairwise (λO O'=>O<O'))(hr:∀z∈rs,(z.2.map (λO=>O.1)).Pairwise (λO O'=>O<O')):m_ rs=rs:=by unfold m_;rw[I9 (h.imp dJ),aN,b8 (g:=id) λz hz=>by simp only[bR,zY (h.imp fg) z hz,JC (hr z hz),id],gg]
noncomputable def r7(S:nh):Prop:=(S.fs.map (λO=>O.1)).Pairwise (λO O'=>O<O')/\(S.rs.map (λO=>O.1)).Pairwise (λO O'=>O<O')/\∀z∈S.rs,(z.2.map (λO=>O.1)).Pairwise (λO O'=>O<O')
theorem K2(h:r7 S):qB S=S:=by unfold qB;rw[JC h.1,SW h.2.1 h.2.2]
theorem T6{l:List Int}(h:l.Pairwise (λO O'=>O<=O'))(nd:l.Nodup):l.Pairwise (λO O'=>O<O'):=by
 induction h with
 |nil=>exact .nil
 |cons a _ ih=>rw[bj]at nd;exact .cons (λy hy=>Int.lt_iff_le_and_ne.mpr ⟨a y hy,λe=>nd.1 (e▸hy)⟩) (ih nd.2)
theorem JD{l:List Int}(nd:l.Nodup):(oG l).Pairwise (λO O'=>O<O'):=T6 (HR l) ((rU l).nodup_iff.mpr nd)
theorem JE(nd:(l.map (λO=>O.1)).Nodup):((nB l).map (λO=>O.1)).Pairwise (λO O'=>O<O'):=by unfold nB;rw[aN];simpa [bR] using JD nd
theorem RK(h1:(S.fs.map (λO=>O.1)).Nodup)(h2:(S.rs.map (λO=>O.1)).Nodup)(h3:∀z∈S.rs,(z.2.map (λO=>O.1)).Nodup):r7 (qB S):=by
 refine⟨JE h1,?_,λz hz=>?_⟩
 ·show((m_ S.rs).map (λO=>O.1)).Pairwise _;unfold m_;rw[aN];simpa [bR] using JD h2
 ·obtain⟨y,hy,rfl⟩:=aG.mp ((Ih h2).mem_iff.mp hz);exact JE (h3 y hy)
section
noncomputable abbrev oh(x:List UInt8):Int:=x.length
theorem qD(x y:List UInt8):oh (x++y)=oh x+oh y:=congrArg Nat.cast aa
noncomputable def nG(o x:List UInt8)(i j:Int):Prop:=∃A B,o=A++(x++B)/\i=oh A/\i+oh x<=j
section
variable {o x y:List UInt8}{i j:Int}{b:UInt8}
theorem nG.l(h:nG o (x++y) i j):nG o x i j:=h.elim λA h=>h.elim λB h=>⟨A,y++B,by rw[h.1,aj],h.2.1,d8 (by rw[qD,<-cp];exact Int.le_add_of_nonneg_right (bM _)) h.2.2⟩
theorem nG.r(h:nG o (x++y) i j):nG o y (i+oh x) j:=h.elim λA h=>h.elim λB h=>⟨A++x,B,by rw[h.1,aj,aj],by rw[h.2.1,qD],by rw[cp,<-qD];exact h.2.2⟩
theorem nG.to(h:nG o x i j):nG o x i (i+oh x):=h.elim λA h=>h.elim λB h=>⟨A,B,h.1,h.2.1,bO _⟩
theorem nG.e(h:nG o x i j):i+oh x<=j:=h.elim λA h=>h.elim λB h=>h.2.2
theorem nG.le(h:nG o x i j):x.length<=o.length:=h.elim λA h=>h.elim λB h=>by rw[h.1,aa,aa];exact ar (dz _ _) (bU _ _)
theorem nG.byte(h:nG o (b::y) i j):o.getD i.toNat 0=b:=h.elim λA h=>h.elim λB h=>by rw[h.1,h.2.1,bg,cw,List.getElem?_append_right (bz _),Nat.sub_self];rfl
theorem nG.lt(h:nG o (b::y) i j):¬j<=i:=df.mpr (fw (Int.lt_add_of_pos_right i (show(0:Int)<oh (b::y)from Int.natCast_pos.mpr (Nat.succ_pos _))) h.e)
theorem nG.get(h:nG o x i j):(o.drop i.toNat).take (oh x).toNat=x:=h.elim λA h=>h.elim λB h=>by rw[h.1,h.2.1,bg,bg,lg,List.take_left]
end
theorem ac7{t k:Nat}(h:t<=4)(hk:k*128^t<4294967296):¬L1 (7*t) k:=(aq (t<=3)).elim Ca λq=>by
 cases NL h q
 exactλx=>x.2 ((FF _).trans ((congrArg (λx:Int=>x/16) (kE (bM k) (dI.mpr (Nat.lt_trans (jb (c:=16) hk) (by decide))))).trans (Int.ediv_eq_zero_of_lt (bM k) (dI.mpr (jb (c:=16) hk)))))
theorem ac8(f z:Int)(k:Nat):f+((k%128+128:Nat):Int)%128*z+((k/128:Nat):Int)*(z*2^7)=f+k*z:=by rw[Int.mul_comm z,<-Int.mul_assoc,cp,<-Int.add_mul];exact congrArg (λx=>f+x*z) z32
theorem UN{o:List UInt8}{j:Int}(n:Nat):∀(t k:Nat) (i f:Int),n+t=5->t<=4->k*128^t<4294967296->nG o (mK k) i j->mU o j n i (7*t) f=some (f+k*2^(7*t),i+oh (mK k)):=
 n.rec (λt k i f h h4 _ _=>(aa8 h h4).elim) λn ih t k i f h h4 hk ho=>by
 refine(aq (k<128)).elim (λhs=>?_) λhs=>?_
 ·rw[wz hs]at ho ⊢;refine(Am (b:=k) (by rw[ho.byte,q6 (MB hs)]) ho.lt (ac7 h4 hk) (λx=>df.mpr (BN hs) x.2) (BN hs)).trans ?_;rw[kE (bM k) (dI.mpr hs)];rfl
 ·have hs:=Bm hs;rw[um hs]at ho ⊢;have h3:t<=3:=dR λq=>by
   cases NL h4 q
   exact cb _ (bW (cj (jR _ hs) hk) (by decide))
  refine(AH (b:=(k%128+128:Nat)) (by rw[ho.byte];exact congrArg Nat.cast (aa7 (a:=k))) ho.lt (Ca h3) (OG h3) z33).trans ?_;refine(ih (t+1) (k/128) _ _ (Bo h) (aa6 h h3) (cj ?_ hk) (nG.r (x:=[(k%128+128).toUInt8]) ho)).trans ?_
  ·rw[Nat.pow_succ,Nat.mul_comm (128^t),<-Nat.mul_assoc];exact jR _ (Nat.div_mul_le_self k 128)
  ·rw[show 7*(t+1)=7*t+7 from rfl,Int.pow_add,ac8,cp i,<-qD];rfl
theorem yy{k:Nat}{o:List UInt8}{i j:Int}(hk:k<4294967296)(h:nG o (mK k) i j):mU o j 5 i 0 0=some ((k:Int),i+oh (mK k)):=by have:=UN 5 0 k i 0 rfl (by decide) (by rw[g9,Nat.mul_one];exact hk) h;rw[show(0:Int)+(k:Int)*2^(7*0)=k by rw[jK];exact Int.mul_one _]at this;exact this
theorem UO(p:Nat):1<=(u8 p).length:=
 (aq (p<128)).elim (λa=>by rw[xe a];exact bU _ _) λa=>(aq (p<2048)).elim (λb=>by rw[xf a b];exact bU _ _) λb=>(aq (p<65536)).elim (λd=>by rw[xg a b d];exact bU _ _) λd=>by rw[xh a b d];exact bU _ _
theorem SX(t:List Nat):∀(A:List UInt8) (n:Nat),(∀q∈t,isSign q)->(t.flatMap u8).length+1<=n->texts (A++t.flatMap u8) n A.length=some t:=
 t.rec (λA n O J=>match n,J with
  |n+1,_=>CK (by rw[cD,aW];exact bz _)) λp t ih A n hs J=>match n,J with
  |n+1,J=>by have h1:=UO p;rw[bx,aa]at J;rw[CQ (by rw[aa,bx,aa];exact Nat.lt_add_of_pos_right (bW h1 (dz _ _))),lg,bx,KQ _ (hs p (.head _))];have:=ih (A++u8 p) n (λq hq=>hs q (.tail _ hq)) (aa3 J h1);rw[aj,aa]at this;exact congrArg (fO (λO=>p::O)) this
noncomputable def vP(p:Int×List Nat):List UInt8:=mK p.1.toNat++qu p.2
theorem SY(l:List (Int×List Nat)):lmap (nx l)=mK l.length++l.flatMap vP:=by unfold lmap nx;rw[ah,dq,CL (g:=vP) λa=>by rw[vP,qu,<-aj]]
noncomputable abbrev tP(x:List UInt8):Prop:=x.length<4294967296
theorem JF{o:List UInt8}{t:List Nat}{i j:Int}(h:nG o (qu t) i j)(hs:∀q∈t,isSign q)(hl:tP (t.flatMap u8)):nameAt o j i=some (t,i+oh (qu t)):=by unfold qu at h ⊢;refine(D8 (yy hl h.l) (eM.mpr h.r.e)).trans ?_;rw[h.r.get,qD,<-cp];exact congrArg (fO λl=>(l,i+oh (mK (t.flatMap u8).length)+oh (t.flatMap u8))) (SX t [] _ hs (bz _))
structure Rd(p:Int×List Nat):Prop where
 i0:0<=p.1
 i1:p.1<4294967296
 s:∀q∈p.2,isSign q
 l:tP (p.2.flatMap u8)
noncomputable abbrev rS{α:Type}(l:List (Int×α)):Prop:=(l.map (λO=>O.1)).Pairwise (λO O'=>O<O')
theorem rS.up{α:Type}{p:Int×α}{l:List (Int×α)}(h:rS (p::l)):∀q∈l,p.1<q.1:=λq hq=>(gG.mp h).1 _ (aZ hq)
theorem rS.tl{α:Type}{p:Int×α}{l:List (Int×α)}(h:rS (p::l)):rS l:=(gG.mp h).2
theorem K3{k:Int}{o:List UInt8}{i j:Int}(h0:0<=k)(h1:k<4294967296)(h:nG o (mK k.toNat) i j):mU o j 5 i 0 0=some (k,i+oh (mK k.toNat)):=by rw[yy (aa2 h0 h1) h,aa1 h0 h1]
theorem T7{o:List UInt8}{j:Int}(l:List (Int×List Nat)):∀(i last:Int),nG o (l.flatMap vP) i j->(∀p∈l,Rd p)->rS l->(∀p∈l,last<p.1)->oW o j l.length i last=(l,some (i+oh (l.flatMap vP))):=
 l.rec (λi last _ _ _ _=>by rw[show i+oh (([]:List (Int×List Nat)).flatMap vP)=i from dc i];exact Dz) λp l ih i last h hr ha hl=>by
 have r:=hr p (.head _);rw[bx]at h ⊢;refine(yt (K3 r.i0 r.i1 h.l.l) (df.mpr (hl p (.head _))) (JF h.l.r r.s r.l)).trans ?_;rw[cp i,<-qD,<-vP.eq_def,ih _ _ h.r (λq hq=>hr q (.tail _ hq)) ha.tl ha.up,cp i,<-qD]
theorem Kh{o:List UInt8}{l:List (Int×List Nat)}{i j:Int}(h:nG o (lmap (nx l)) i j)(hr:∀p∈l,Rd p)(ha:rS l)(hz:l.length<4294967296):nY o j i=(l,some (i+oh (lmap (nx l)))):=by rw[SY]at h ⊢;rw[xQ (yy hz h.l),bg,T7 l _ _ h.r hr ha (λp hp=>by exact MV (hr p hp).i0),qD,cp]
noncomputable def yU(z:Int×List (Int×List Nat)):List UInt8:=mK z.1.toNat++lmap (nx z.2)
theorem RL(rs:List (Int×List (Int×List Nat))):pe (oj rs)=mK rs.length++rs.flatMap yU:=by
 unfold pe oj;rw[ah,dq]
 rfl
structure FL(z:Int×List (Int×List Nat)):Prop where
 i0:0<=z.1
 i1:z.1<4294967296
 s:∀p∈z.2,Rd p
 p:rS z.2
 l:z.2.length<4294967296
theorem S6{o:List UInt8}{j:Int}(l:List (Int×List (Int×List Nat))):∀(i last:Int),nG o (l.flatMap yU) i j->(∀p∈l,FL p)->rS l->(∀p∈l,last<p.1)->oU o j l.length i last=(l,some (i+oh (l.flatMap yU))):=
 l.rec (λi last _ _ _ _=>by rw[show i+oh (([]:List (Int×List (Int×List Nat))).flatMap yU)=i from dc i];exact DA) λp l ih i last h hr ha hl=>by
 have r:=hr p (.head _);rw[bx]at h ⊢;refine(yu (K3 r.i0 r.i1 h.l.l) (df.mpr (hl p (.head _))) (Kh h.l.r r.s r.p r.l)).trans ?_;rw[cp i,<-qD,<-yU.eq_def,ih _ _ h.r (λq hq=>hr q (.tail _ hq)) ha.tl ha.up,cp i,<-qD]
theorem S7{o:List UInt8}{l:List (Int×List (Int×List Nat))}{i j:Int}(h:nG o (pe (oj l)) i j)(hr:∀p∈l,FL p)(ha:rS l)(hz:l.length<4294967296):pq o j i=(l,some (i+oh (pe (oj l)))):=by rw[RL]at h ⊢;rw[xP (yy hz h.l),bg,S6 l _ _ h.r hr ha (λp hp=>by exact MV (hr p hp).i0),qD,cp]
theorem QS{o x:List UInt8}{s n:Nat}{i last:Int}{S S':nh}(h:nG o (n4 ((s:Int),x)) i o.length)(hs:s<256)(hl:last<s)(hz:tP o)(hp:∀e,nG o x e (e+oh x)->nW o (e+oh x) e s S=(S',true)):
  pQ o (n+1) i last S=pQ o n (i+oh (n4 ((s:Int),x))) s S':=by
 have h1:nG o (mK x.length++x) (i+1) o.length:=nG.r (x:=[(s:Int).toNat.toUInt8]) h;refine(Bb (sort:=s) (by rw[nG.byte h,bg,q6 hs]) (nG.lt h) (df.mpr hl) (yy (cj h1.r.le hz) h1.l) (eM.mpr h1.r.e) (hp _ h1.r.to)).trans ?_;rw[cp (i+1),<-qD,cp i,Int.add_comm 1];rfl
theorem CT{o:List UInt8}{l:List (Int×List UInt8)}{s N K:Nat}{i last:Int}{S S':nh}{z:nh×Bool}(h:nG o (l.flatMap n4) i o.length)(J:l.length+K<=N)(h0:l=[]->S=S')(hq:∀p∈l,l=[p]/\p.1=s/\∀e,nG o p.2 e (e+oh p.2)->nW o (e+oh p.2) e s S=(S',true))(hs:s<256)(hl:last<s)(hz:tP o)
  (k:∀(N':Nat) (LK:Int),K<=N'->LK<=s->pQ o N' (i+oh (l.flatMap n4)) LK S'=z):pQ o N i last S=z:=by
 cases l with
 |nil=>have:=k N last (by rw[iE,dH]at J;exact J) (dJ hl);rw[show i+oh (([]:List (Int×List UInt8)).flatMap n4)=i from dc i,<-h0 rfl]at this;exact this
 |cons p l=>
  have hp:=hq p (.head _);cases hp.1;have e:[p].flatMap n4=n4 ((s:Int),p.2):=(aW _).trans (by rw[<-hp.2.1]);rw[e]at h k;exact match N,J with
  |0,J=>(Nat.not_succ_le_zero _ (z42 J)).elim
  |N+1,J=>(QS h hs hl hz hp.2.2).trans (k N s (z41 J) (bO _))
theorem RM{o:List UInt8}{i last:Int}{S:nh}(h:(o.length:Int)<=i)(n:Nat):pQ o n i last S=(S,true):=n.casesOn rfl λn=>AM h
structure OP(S:nh):Prop where
 m:∀t,S.m=some t->(∀q∈t,isSign q)/\tP (t.flatMap u8)
 f:∀p∈S.fs,Rd p
 r:∀z∈S.rs,FL z
 p:r7 S
 z:tP (rR S)
theorem DH{j:Int}:yP j (some j)=true:=decide_eq_true (bO j)
theorem K4{α:Type}{L:List α}{y:Int×List UInt8}(h:(if L=[]then[]else[y])=[]):L=[]:=dR λq=>nomatch (if_neg q).symm.trans h
theorem K5{α:Type}{L:List α}{y p:Int×List UInt8}(h:p∈(if L=[]then[]else[y])):(if L=[]then[]else[y])=[p]/\p=y:=(eO (L=[])).elim (λq=>by rw[if_pos q]at h;cases h) λq=>by rw[if_neg q]at h ⊢;cases ao.mp h;exact⟨rfl,rfl⟩
theorem T8{S:nh}(h:OP S):rA (rR S)=(S,true):=by
 have hz:=h.z;have ho:rR S=(qw (tc S.m)).flatMap n4++((oZ (nx S.fs)).flatMap n4++(pz (oj S.rs)).flatMap n4):=by unfold rR lw;rw[bu,bu,aj]
 have hN:(qw (tc S.m)++oZ (nx S.fs)++pz (oj S.rs)).length<=(rR S).length:=Dc λx O=>bU _ _;rw[aa,aa]at hN;unfold rA;generalize rR S=o at hz ho hN;have hA:nG o ((qw (tc S.m)).flatMap n4++((oZ (nx S.fs)).flatMap n4++(pz (oj S.rs)).flatMap n4)) 0 o.length:=⟨[],[],by rw[aW];exact ho,rfl,by rw[<-ho,jK];exact bO _⟩;refine CT (s:=0) (S':=⟨S.m,[],[]⟩) hA.l (z40 hN) (λe=>?_) (λp hp=>?_) (by decide) (by decide) hz λN0 l0 hN hl=>?_
 ·cases hm:S.m with
  |none=>rfl
  |some t=>rw[hm]at e;cases e
 ·cases hm:S.m with
  |none=>rw[hm]at hp;cases hp
  |some t=>rw[hm]at hp;cases ao.mp hp;have q:=h.m t hm;exact⟨rfl,rfl,λe he=>(uI rfl (JF he q.1 q.2)).trans (congrArg (fK _) DH)⟩
 refine CT (s:=1) (S':=⟨S.m,S.fs,[]⟩) hA.r.l hN (λe=>?_) (λp hp=>?_) (by decide) (ei hl (by decide)) hz λN1 l1 hN hl=>?_
 ·rw[dj.mp (K4 e)]
 ·have q:=K5 hp;rw[q.2];refine⟨q.2▸q.1,rfl,λe he=>(xb (by decide) rfl (Kh he h.f h.p.1 ?_)).trans (congrArg (fK _) DH)⟩;have:=JZ (nx S.fs);rw[nx,ah]at this;exact bW (bW this he.le) (fb hz)
 refine CT (s:=2) (S':=S) hA.r.r hN (λe=>?_) (λp hp=>?_) (by decide) (ei hl (by decide)) hz λN2 l2 hN hl=>RM ?_ N2
 ·rw[<-dj.mp (K4 e)]
 ·have q:=K5 hp;rw[q.2];refine⟨q.2▸q.1,rfl,λe he=>(xc (by decide) (by decide) rfl (S7 he h.r h.p.2.1 ?_)).trans (congrArg (fK _) DH)⟩;have:=Jp (oj S.rs);rw[oj,ah]at this;exact bW (bW this he.le) (fb hz)
 ·rw[cp,<-qD,cp,<-qD,jK,<-ho];exact bO _
end
section
section
variable {α β:Type}{P:Prop}
theorem OQ{a:α}(h:none=some a):P:=nomatch h
theorem td(x:Option α)(h0:x=none->P)(h1:∀a,x=some a->P):P:=match x,h0,h1 with
 |none,h0,_=>h0 rfl
 |some a,_,h1=>h1 a rfl
theorem Nu{x:Option α}{f:α->β}{b:β}(h:x.map f=some b)(k:∀a,x=some a->b=f a->P):P:=by
 cases x with
 |none=>exact nomatch h
 |some a=>exact k a rfl (aE.inj h).symm
end
theorem xk{o:List UInt8}{i j v e:Int}(h:mU o j 5 i 0 0=some (v,e)):0<=v/\v<4294967296/\i<e/\e<=j:=uk ((uq o i j).trans h)
theorem S8{sl:List UInt8}(n:Nat):∀(i:Nat) (l:List Nat),texts sl n i=some l->(∀q∈l,isSign q)/\l.length<=sl.length-i:=
 n.rec (λi l h=>nomatch h) λn ih i l h=>(aq (i<sl.length)).elim (λhi=>by
  have h:=(CQ hi).symm.trans h;refine td (pT (sl.drop i)) (λe=>by rw[e]at h;cases h) λp e=>?_;rw[e]at h;refine Nu h λl' hr hl=>?_;have t:=yl e;have r:=ih _ _ hr;rw[hl]
  exact⟨λq hq=>(aL.mp hq).elim (λe=>e▸t.s) (r.1 q),abl hi t.k1 r.2⟩) λhi=>by
  cases(CK (n:=n) (Nat.le_of_not_lt hi)).symm.trans h
  exact⟨λq hq=>(bA hq).elim,bB _⟩
theorem IY{o:List UInt8}{j i e:Int}{l:List Nat}(h:nameAt o j i=some (l,e)):(∀q∈l,isSign q)/\i+(1+l.length:Nat)<=e/\e<=j:=by have hr:=xM h;refine td (mU o j 5 i 0 0) (λc=>nomatch (J_ c).symm.trans h) λq c=>?_;have hv:=xk c;refine(aq (j<q.2+q.1)).elim (λk=>nomatch (Ka c k).symm.trans h) λk=>Nu ((D8 c k).symm.trans h) λl' h2 e=>?_;cases e;have t:=S8 _ 0 _ h2;have b:=t.2;rw[bS]at b;exact⟨t.1,abk hv.1 hv.2.1 hv.2.2.1 hr b,hr.2⟩
structure vQ(p:Int×List Nat):Prop where
 i0:0<=p.1
 i1:p.1<4294967296
 s:∀q∈p.2,isSign q
noncomputable abbrev wm{α:Type}(f:α->Nat)(l:List (Int×α)):Nat:=(l.map λp=>1+f p.2).sum
structure qC{α:Type}(E:Int×α->Prop)(f:α->Nat)(y:List (Int×α)×Option Int)(last i j:Int):Prop where
 e:∀p∈y.1,last<p.1/\E p
 p:rS y.1
 z:i+wm f y.1<=j
 r:∀e,y.2=some e->i+wm f y.1<=e/\e<=j
section
variable {α:Type}{E:Int×α->Prop}{f:α->Nat}{last i j e v:Int}{a:α}{z:List (Int×α)×Option Int}
theorem qC.nil(h:i<=j):qC E f ([],none) last i j:=⟨λp hp=>(bA hp).elim,.nil,by rw[show i+wm f ([]:List (Int×α))=i from dc i];exact h,λe q=>OQ q⟩
theorem qC.fin(h:i<=j):qC E f ([],some i) last i j:=⟨λp hp=>(bA hp).elim,.nil,(qC.nil (E:=E) (f:=f) (last:=last) h).z,λe q=>aE.inj q▸⟨Int.le_of_eq (dc i),h⟩⟩
theorem qC.cons(hl:¬v<=last)(hE:E (v,a))(b:i+(1+f a:Nat)<=e)(ih:qC E f z v e j):qC E f ((v,a)::z.1,z.2) last i j:=
 ⟨λp hp=>(aL.mp hp).elim (λe=>e▸⟨df.mp hl,hE⟩) λhp=>⟨Int.lt_trans (df.mp hl) (ih.e p hp).1,(ih.e p hp).2⟩,
  gG.mpr ⟨λk hk=>(aG.mp hk).elim λp hp=>hp.2▸(ih.e p hp.1).1,ih.p⟩,by rw[show wm f ((v,a)::z.1)=(1+f a)+wm f z.1 from ve _ _ _];exact z43 b ih.z,
  λe q=>by rw[show wm f ((v,a)::z.1)=(1+f a)+wm f z.1 from ve _ _ _];exact z44 b (ih.r e q)⟩
theorem qC.from{i':Int}(h:qC E f z last i j)(hi:i'<=i):qC E f z last i' j:=⟨h.e,h.p,abj hi h.z,λe q=>by exact abi hi (h.r e q)⟩
end
theorem S9{o:List UInt8}{j:Int}(n:Nat):∀(i last:Int),i<=j->qC vQ iw (oW o j n i last) last i j:=
 n.rec (λi last h=>.fin h) λn ih i last h=>td (mU o j 5 i 0 0) (λc=>by rw[An c];exact .nil h) λq c=>by have hv:=xk c;refine(aq (q.1<=last)).elim (λk=>by rw[AI c k];exact .nil h) λk=>td (nameAt o j q.2) (λd=>by rw[AJ c k d];exact .nil h) λy d=>?_;have t:=IY d;rw[yt c k d];exact .cons k ⟨hv.1,hv.2.1,t.1⟩ (abh hv.2.2.1 t.2.1) (ih _ _ t.2.2)
theorem JG{o:List UInt8}{j i:Int}(h:i<=j):qC vQ iw (nY o j i) (-1) i j:=
 td (mU o j 5 i 0 0) (λc=>by rw[zU c];exact .nil h) λq c=>by have hv:=xk c;rw[xQ c];exact(S9 _ _ _ hv.2.2.2).from (dJ hv.2.2.1)
structure BC(z:Int×List (Int×List Nat)):Prop where
 i0:0<=z.1
 i1:z.1<4294967296
 s:∀p∈z.2,vQ p
 p:rS z.2
theorem RN{o:List UInt8}{j:Int}(n:Nat):∀(i last:Int),i<=j->qC BC pO (oU o j n i last) last i j:=
 n.rec (λi last h=>.fin h) λn ih i last h=>td (mU o j 5 i 0 0) (λc=>by rw[Ao c];exact .nil h) λq c=>by
  have hv:=xk c;refine(aq (q.1<=last)).elim (λk=>by rw[AK c k];exact .nil h) λk=>?_;have m:=JG (o:=o) hv.2.2.2;have hE:BC (q.1,(nY o j q.2).1):=⟨hv.1,hv.2.1,λp hp=>(m.e p hp).2,m.p⟩;refine td (nY o j q.2).2 (λd=>?_) λy d=>?_
  ·rw[AL c k (l:=(nY o j q.2).1) (by rw[<-d])];exact .cons (z:=([],none)) k hE (NM hv.2.2.1 m.z) (.nil (bO j))
  ·rw[yu c k (l:=(nY o j q.2).1) (by rw[<-d])];exact .cons k hE (NM hv.2.2.1 (m.r y d).1) (ih _ _ (m.r y d).2)
theorem RO{o:List UInt8}{j i:Int}(h:i<=j):qC BC pO (pq o j i) (-1) i j:=
 td (mU o j 5 i 0 0) (λc=>by rw[zR c];exact .nil h) λq c=>by have hv:=xk c;rw[xP c];exact(RN _ _ _ hv.2.2.2).from (dJ hv.2.2.1)
structure pA(S:nh)(i:Int):Prop where
 m:∀t,S.m=some t->∀q∈t,isSign q
 f:∀p∈S.fs,vQ p
 fp:(S.fs.map (λO=>O.1)).Pairwise (λO O'=>O<O')
 r:∀z∈S.rs,BC z
 rp:(S.rs.map (λO=>O.1)).Pairwise (λO O'=>O<O')
 z:(sz S:Int)<=i
theorem pA.BD{S:nh}{i i':Int}(h:pA S i)(hi:i<=i'):pA S i':=⟨h.m,h.f,h.fp,h.r,h.rp,by have:=h.z;exact abg hi this⟩
theorem RP{o:List UInt8}{i j sort k:Int}{S:nh}(h:pA S k)(hk:k<=i)(rj:i<=j)(h0:sort=0->S.m=none)(h1:sort=1->S.fs=[])(h2:sort=2->S.rs=[]):pA (nW o j i sort S).1 j:=by
 have hz:=h.z;unfold sz at hz;have hS:=h.BD (i':=j) (NG hk rj);refine(aq (sort=0)).elim (λs=>?_) λn0=>(aq (sort=1)).elim (λs=>?_) λn1=>(aq (sort=2)).elim (λs=>?_) λn2=>by rw[yQ n0 n1 n2];exact hS
 ·rw[h0 s]at hz;rw[uI s rfl];refine td (nameAt o j i) (λc=>by rw[c];exact hS) λy c=>?_;have t:=IY c;rw[c];exact⟨λt' q=>aE.inj q▸t.1,h.f,h.fp,h.r,h.rp,abf hk hz t.2.1 t.2.2⟩
 ·have t:=JG (o:=o) rj;rw[h1 s]at hz;rw[xb n0 s rfl];exact⟨h.m,λp hp=>(t.e p hp).2,t.p,h.r,h.rp,abe hk t.z hz⟩
 ·have t:=RO (o:=o) rj;rw[h2 s]at hz;rw[xc n0 n1 s rfl];exact⟨h.m,h.f,h.fp,λp hp=>(t.e p hp).2,t.p,abd hk t.z hz⟩
theorem S_{o:List UInt8}(n:Nat):∀(i last:Int) (S:nh),pA S i->i<=o.length->(last<0->S.m=none)->(last<1->S.fs=[])->(last<2->S.rs=[])->pA (pQ o n i last S).1 o.length:=
 n.rec (λi last S h hi _ _ _=>h.BD hi) λn ih i last S h hi h0 h1 h2=>by
  have hS:=h.BD hi;refine(aq ((o.length:Int)<=i)).elim (λc=>by rw[AM c];exact hS) λc=>?_;obtain⟨sort,hs⟩:∃sort,((o.getD i.toNat 0).toNat:Int)=sort:=⟨_,rfl⟩;refine(aq (sort<=last)).elim (λd=>by rw[DB hs c d];exact hS) λd=>td (mU o o.length 5 (i+1) 0 0) (λf=>by rw[C9 hs c d f];exact hS) λq f=>?_;have hv:=xk f;refine(aq ((o.length:Int)<q.2+q.1)).elim (λg=>by rw[C_ hs c d f g];exact hS) λg=>?_;have hP:=RP (o:=o) (i:=q.2) (j:=q.2+q.1) (sort:=sort) h (abc hv.2.2.1) (abb hv.1 hv.2.1) (λk=>h0 (MM d k)) (λk=>h1 (Ee d k)) (λk=>h2 (Ed d k));cases b:(nW o (q.2+q.1) q.2 sort S).2 with
  |false=>rw[DC hs c d f g (S':=(nW o (q.2+q.1) q.2 sort S).1) (by rw[<-b])];exact hP.BD (MX g)
  |true=>rw[Bb hs c d f g (S':=(nW o (q.2+q.1) q.2 sort S).1) (by rw[<-b])];exact ih _ _ _ hP (MX g) (λk=>by exact(aba hs k).elim) (λk=>(IL λe=>Md e k).trans (h1 (z47 d k))) (λk=>(IM λe=>Mc e k).trans (h2 (z48 d k)))
theorem JH(o:List UInt8):pA (rA o).1 o.length:=
 S_ _ 0 _ _ ⟨λp hp=>OQ hp,λp hp=>(bA hp).elim,.nil,λp hp=>(bA hp).elim,.nil,bO 0⟩ (uz) (λO=>rfl) (λO=>rfl) (λO=>rfl)
theorem vQ.low{p:Int×List Nat}(h:vQ p):qb p.1:=by have:=h.i1;unfold qb;exact MW this
theorem pA.fit{S:nh}{i:Int}(h:pA S i)(hi:i<=16000):u9 S:=
 ⟨h.m,λp hp=>⟨(h.f p hp).low,(h.f p hp).s⟩,λz hz=>⟨by have:=(h.r z hz).i1;unfold qb;exact MW this,λp hp=>⟨((h.r z hz).s p hp).low,((h.r z hz).s p hp).s⟩⟩,by have:=h.z;exact aa9 hi this⟩
theorem pA.pos{S:nh}{i:Int}(h:pA S i):BB S:=⟨λp hp=>(h.f p hp).i0,λz hz=>⟨(h.r z hz).i0,λp hp=>((h.r z hz).s p hp).i0⟩⟩
theorem pA.r7{S:nh}{i:Int}(h:pA S i):r7 S:=⟨h.fp,h.rp,λz hz=>(h.r z hz).p⟩
end
section
theorem K6{α:Type}{f:α->Nat}{l:List α}:(∀a∈l,f a<=n)->(l.map f).sum<=n*l.length:=by
 induction l with
 |nil=>exactλh=>bB _
 |cons a l ih=>intro h;rw[ve];exact ar (cK (h a (.head _)) (ih λb hb=>h b (.tail _ hb))) (da (fc ..))
theorem oV.sz(h:oV l):pO l<=9:=by
 have:=K6 (f:=λp:Int×List Nat=>1+p.2.length) (n:=3) (l:=l) λp hp=>by have:=(h.2 p hp).2.2;exact abx this
 have:=h.1;unfold pO;exact abw (by assumption) this
theorem oH.low(h:oH k i)(hk:k<=3):qb i:=by unfold oH at h;unfold qb;exact abv h hk
section
variable {S:nh}(N:pU S)
include N
theorem pU.sR:∀q∈m_ S.rs,oH 2 q.1/\oV q.2:=CF N.rn λq hq=>⟨(N.r q hq).1,(N.r q hq).2.1⟩
theorem pU.sz:sz (qB S)<=40:=by
 have h1:zF S.m<=2:=by
  cases hm:S.m with
  |none=>decide
  |some t=>exact(N.m t hm).2
 have h3:=K6 (f:=λz:Int×List (Int×List Nat)=>1+pO z.2) (n:=10) (l:=m_ S.rs) λz hz=>by have:=(N.sR z hz).2.sz;exact abu this
 rw[vd]at h3;have:=N.rl;show zF S.m+pO (nB S.fs)+u7 (m_ S.rs)<=40;unfold u7;exact abt h1 ((wx N.f).sz) h3 this
theorem pU.fit:u9 (qB S) where
 m:=λt e=>(N.m t e).1
 f:=λp hp=>let h:=(wx N.f).2 p hp;⟨h.1.low (by decide),h.2.1⟩
 r:=λz hz=>let h:=N.sR z hz;⟨h.1.low (by decide),λp hp=>⟨(h.2.2 p hp).1.low (by decide),(h.2.2 p hp).2.1⟩⟩
 z:=ar N.sz (by decide)
theorem pU.len:(qY S).length<=400:=by rw[xZ];have:=N.fit.len;have:=N.sz;exact abr (by assumption) this
theorem pU.tv:tv S where
 m:=λt e=>⟨ar (N.m t e).2 (by decide),(N.m t e).1⟩
 fs:=⟨ar N.f.1 (by decide),.inl (cj N.f.1 (by decide)),λp hp=>⟨ar (N.f.2 p hp).2.2 (by decide),(N.f.2 p hp).2.1⟩⟩
 rl:=ar N.rl (by decide)
 rk:=.inl (cj N.rl (by decide))
 rs:=λq hq=>let h:=(N.r q hq).2.1;⟨ar h.1 (by decide),.inl (cj h.1 (by decide)),λp hp=>⟨ar (h.2 p hp).2.2 (by decide),(h.2 p hp).2.1⟩⟩
 nd:=N.rn
 sz:=ar N.len (by decide)
theorem pU.r7:r7 (qB S):=RK N.fn N.rn λz hz=>(N.r z hz).2.2
theorem pU.pos:BB (qB S)↔yv S:=by
 have h1:∀p,p∈nB S.fs↔p∈S.fs:=λp=>(CM N.fn).mem_iff;have h2:∀z,z∈m_ S.rs↔∃y∈S.rs,z=(y.1,nB y.2):=λz=>by rw[(Ih N.rn).mem_iff,aG];simp only[eq_comm]
 constructor
 ·rintro⟨a,b⟩;refine⟨λp hp=>a p ((h1 p).mpr hp),λy hy=>?_⟩;have:=b _ ((h2 _).mpr ⟨y,hy,rfl⟩);exact⟨this.1,λp hp=>this.2 p ((CM (N.r y hy).2.2).mem_iff.mpr hp)⟩
 ·rintro⟨a,b⟩;refine⟨λp hp=>a p ((h1 p).mp hp),λz hz=>?_⟩;obtain⟨y,hy,rfl⟩:=(h2 z).mp hz;exact⟨(b y hy).1,λp hp=>(b y hy).2 p ((CM (N.r y hy).2.2).mem_iff.mp hp)⟩
end
theorem Ki{P:Int->Prop}:(∀i∈rt S,P i)↔((∀p∈(qB S).fs,P p.1)/\∀z∈(qB S).rs,P z.1/\∀p∈z.2,P p.1):=by
 unfold rt qB;simp only[aH,aG,List.mem_flatMap]
 constructor
 ·intro h;exact⟨λp hp=>h _ (.inl (.inl ⟨p,hp,rfl⟩)),λz hz=>⟨h _ (.inl (.inr ⟨z,hz,rfl⟩)),λp hp=>h _ (.inr ⟨z,hz,p,hp,rfl⟩)⟩⟩
 ·rintro⟨a,b⟩ i ((⟨p,hp,rfl⟩|⟨z,hz,rfl⟩)|⟨z,hz,p,hp,rfl⟩)
  ·exact a p hp
  ·exact(b z hz).1
  ·exact(b z hz).2 p hp
theorem pU.low(N:pU S):vO S=true↔¬yv S:=by
 rw[<-N.pos,SU,show BB (qB S)↔∀i∈rt S,0<=i from(Ki (P:=λi=>0<=i)).symm]
 constructor
 ·rintro⟨i,hi,h⟩ k;have:=k i hi;exact Xr h this
 ·intro h;refine dR λk=>h λi hi=>?_;refine dR λq=>k ⟨i,hi,abq q⟩
noncomputable def AP(S:nh):Bool:=decide (((rt S).filter λi=>decide (4294967296<=i)).map AV.int≠[])
theorem pU.rd(N:pU S)(hp:yv S)(hg:AP S=false):OP (qB S):=by
 have hI:∀i∈rt S,i<4294967296:=λi hi=>by simp[AP]at hg;exact hg i hi
 obtain⟨g1,g2⟩:=Ki.mp hI;obtain⟨p1,p2⟩:=N.pos.mpr hp;have l4:∀{t:List Nat},t.length<=2->tP (t.flatMap u8):=λ{t} h=>by have:=tG t;unfold tP;exact abp h this
 refine⟨λt e=>⟨(N.m t e).1,l4 (N.m t e).2⟩,λp hp=>?_,λz hz=>?_,N.r7,?_⟩
 ·have h:=(wx N.f).2 p hp;exact⟨p1 p hp,g1 p hp,h.2.1,l4 h.2.2⟩
 ·have h:=N.sR z hz;refine⟨(p2 z hz).1,(g2 z hz).1,λp hp=>⟨(p2 z hz).2 p hp,(g2 z hz).2 p hp,(h.2.2 p hp).2.1,l4 (h.2.2 p hp).2.2⟩,N.r7.2.2 z hz,cj h.2.1 (by decide)⟩
 ·have:=N.fit.len;have:=N.fit.z;unfold tP;exact abo (by assumption) this
theorem pA.ui{m:Option (List Nat)}{i:Int}(h:pA ⟨m,fs,mJ R⟩ i)(hi:i<=16000):ui fs R:=by
 have hz:=h.z;have h1:=vj fs;have h2:=Df (mJ R);simp only[sz]at hz;rw[ah]at h2;refine⟨abn hi hz h1,h.fp.imp fg,MY hi hz h1 h2,?_,λq hq=>?_⟩
 ·have:=h.rp;simp only[mJ,aN,bR]at this;exact this.imp fg
 ·have hm:=aZ (f:=λr:Row=>(r.1,r.2.2)) hq;exact⟨abm hi hz h1 (vj q.2.2) ((wL (f:=λz:Int×List (Int×List Nat)=>1+pO z.2) hm)),(h.r _ hm).p.imp fg⟩
theorem wM(h:∀q∈t,isSign q):xx t:=λq hq=>by have:=h q hq;unfold isSign at this;exact Ei this
theorem u9.told(h:u9 S)(b:Bool):(Told.mk S.m S.fs S.rs b).ok:=⟨λt e=>wM (h.m t e),λp hp=>wM (h.f p hp).2,λz hz p hp=>wM ((h.r z hz).2 p hp).2⟩
noncomputable def BE:AV->AV
 |.tup [i,.str t]=>.tup [i,.bytes (t.flatMap u8)]
 |y=>y
noncomputable def LM:AV->AV
 |.tup [i,.lst l]=>.tup [i,.lst (l.map BE)]
 |y=>y
theorem JI(l:List (Int×List Nat)):(l.map nJ).map BE=(nx l).map ni:=by rw[nx,aN,aN];rfl
theorem RQ(rs:List (Int×List (Int×List Nat))):((rs.map ny).filter λO=>true).map LM=(oj rs).map oY:=by rw[filter_tt,oj,aN,aN];refine b8 λz O=>?_;show AV.tup [.int z.1,.lst ((z.2.map nJ).map BE)]=_;rw[JI];rfl
noncomputable def Nv(rs:List (Int×List (Int×List Nat))):Prop:=rs.length<=16000/\∀z∈rs,B_ z.2
section
variable {c:Cx}{σ:Sg}{d:Nat}{E:Ex}{ε:Env}{ns:List Str}
theorem Ev.ac9(h:∀E:Ex,WE c E σ (aT e c.env) λx mF=>x=y/\mF=σ):Ev c σ e y:=by intro E fr xs vs s Q S k;refine((h ⟨λO O O=>E,λO O O O O O O O q=>q⟩).go fr xs vs s S).mono ?_ λO O q=>q;rintro v s' ⟨_,_,S',rfl,rfl⟩;exact k v s' S'
theorem WE.oj(ok:Ok c d)(ti:3<=d)(he:c.env=ε)(rs:List (Int×List (Int×List Nat)))(hz:Nv rs)
  (h:WE c E σ (aT iter c.env) λv mM=>v=.lst (rs.map ny)/\Q (.lst ((oj rs).map oY)) mM)
  (nj:autoParam (dP sc ε=pure []) aR)(pj:autoParam (r4 sc=true) aK)(zD:autoParam ((n1==n2)=false) aK)(h1:autoParam (∀C,(dT sc [] C ε).kindOf n1=some .local) aI)(h2:autoParam (∀C,(dT sc [] C ε).kindOf n2=some .local) aI)
  (hd:autoParam ((n1==("__debug__":Str))=false) aK)(hd2:autoParam ((n2==("__debug__":Str))=false) aK)(hx:autoParam (∀C,(dT sc [] C ε).kindOf (af "_law_coded")=some .globalImplicit) aI)(hk:autoParam (sc.kind=.function) aR)
  (hs:autoParam (∀x,bJ iter c.env x=pure x) aI):
  WE c E σ (aT (.ListComp (.Tuple [.Name n1 p,.Call (.Name (af "_law_coded") p4) [.Name n2 p'] [] p5] k1 p6) [⟨.Tuple [.Name n1 p1,.Name n2 p2] k2 p3,iter,[],0⟩] sc pos) c.env) Q:=by
 refine .freeze (.tL ok (rs.map ny) (λO=>true) LM (λy=>match y with|.tup [a,b]=>[(n2,b),(n1,a)]|_=>[]) (cl:=[]) (by rw[he];exact nj) pj (by rw[ah];exact ar hz.1 (by decide)) (h.mono ?_) hs);rintro v ⟨lo,as⟩ ⟨rfl,q⟩;refine⟨_,.ng ok,λO O O O h=>.ng h,λy hy=>?_,λD=>⟨D,_,_,rfl,.head,by rw[RQ];exact q⟩⟩;obtain⟨z,n7,rfl⟩:=aG.mp hy;refine⟨λC f n6=>.v_ (ok.cmp hk) (mW he) rfl .head zD (h1 C) (h2 C),λC n6 k=>.nil,λO C n6 k=>?_⟩;refine .tuple (.one (.cv (ok.cmp hk) (mW he) rfl (.head _) m1 (h1 C) hd) (.cons (.fn (ok.cmp hk) (mW he) xK wo.keep (.one (.cv (ok.cmp hk) (mW he) rfl (.head _) (.head _) (h2 C) hd2) (.nil (mG.op (as:=[]) (rest:=.nf C [(n2,nR z.2),(n1,.int z.1)]::n6) (lo:=lo) (xR (hz.2 z n7)) (ok.cmp hk) .qp ti .refl ?_ (λO O h=>h.elim)))) (hx C) (by decide +kernel))));refine nF ?_;refine .nil ⟨by simp,?_,rfl⟩;show AV.tup [.int z.1,.lst ((nx z.2).map ni)]=AV.tup [.int z.1,.lst ((z.2.map nJ).map BE)];rw[JI]
end
end
section
noncomputable abbrev wN:=af "fault"
theorem Pz(P:aM):C6 (KK P) 70 vy=true:=by kernel_rfl!
theorem Arr.right:Arr (A++B) B:=.trans .swap .left
noncomputable def n9.Z(D:n9)(x:Cx)(l:List Int)(σ:Sg):Prop:=∃L,m7 L D.H3/\σ=nC L (D.as x.L l++D.nA)
noncomputable def n9.X(D:n9)(x:Cx)(l:List Int)(e:mZ)(σ:Sg):Prop:=yR e/\vO D.S=true/\D.Z x l σ
noncomputable def n9.P4(D:n9)(x:Cx)(l:List Int)(o:Out)(σ:Sg):Prop:=o=.next/\D.Z x l σ
section
variable {x:Cx}{E:Ex}(ok:Mine.Internal.Ok x 12) (he:x.env=pZ.px x.L) (J:Nm x og)
include ok he J
theorem ada{D:n9}(hD:D.Ok)(nd:x.nd=true){Q:Out->Sg->Prop}(H:m7 L D.H3)
  (k:∀{L'},m7 L' D.H3->WS x E (nC L' (D.as x.L l++D.nA)) (aO (pI 19) x.env) Q):WS x E (nC L (D.as x.L l++D.nA)) (aO (pI 18) x.env) Q:=by
 show WS x E _ (aO (_::pI 19) x.env) Q;have N:=hD.N;have ml:∀{y:Str},og.contains y=true->y∈og:=λh=>by simpa using h
 refine .Nb ok J (D.P4 x l) (D.X x l) ?_ ?_ ?_
 ·rintro⟨C,f⟩ σ ⟨⟨hC,hf⟩,ER,L,H,rfl⟩ fr xs vs ev s hF;dsimp only at hC hf;subst hC hf;refine Sp ok J hF zm IC (by rw[he];rfl) λa dd=>⟨_,qa,?_⟩;have H:=H.off (Off.rfl.upd (x:=wN) (v:=.ref a) (xs:=[wN]));refine .n3 (Tr.is (b':=false) (.or (.not (.plain (.E8 ok J ((H.n 1 rfl).at (ml (by decide +kernel)))))) λO=>.or (.cmp (.Vc ok (.E8 ok J (Lk.at (L:=upd L wN (.ref a)) .here (ml (by decide +kernel)))) (.head _) m1 (.head _) zm (Pz _)) .str .neS) λO=>.t6) ?_) (λh=>nomatch h) (λO=>.forget (.skip .n8) (.nil ⟨_,.of,rfl,_,?_,rfl⟩))
  ·rw[ER];decide +kernel
  ·exact H.off (L':=λy=>if y=wN then none else upd L wN (.ref a) y) (xs:=[wN]) λy hy=>if_neg λe=>hy (by simp[e])
 ·intro E' u_;refine Exits.gen u_ λX qx u_=>WS.gen λQ' w=>?_;refine .pd ok he J (.fn ok he G7 Cn.keep (.one (.ce ok he m2) (.nil (mG.zC (Ga N.tv) ok u_ (by decide) (D.as x.L l) ?_ ?_ (λO=>nd)))))
  rotate_left
  ·rintro e as' ⟨h,hX,rfl⟩;exact qx _ _ ⟨hX,N.low.mpr h,L,H,rfl⟩
  refine p_ λhp=>?_;refine⟨rfl,λL h1 o=>?_⟩;have H:=(H.off o).cons h1;clear h1 o;have ER:vO D.S=false:=by
   cases h:vO D.S with
   |false=>rfl
   |true=>exact(N.low.mp h hp).elim
  have hW:qY ⟨D.m,D.fs,mJ D.R⟩=lw (tc D.m) (nx (nB D.fs)) (Mine.Internal.oj (m_ (mJ D.R))):=xZ D.S;have hz:(qY ⟨D.m,D.fs,mJ D.R⟩).length<=16000:=ar N.len (by decide);refine .n3 (Tr.is (b':=false) (.or (.plain (.nl ok J (H.n 2 rfl))) λO=>.or (.not (.plain (.ac9 λE=>.bf ok he PM (.one (.nl ok J (H.n 0 rfl)) (.one (.bi ok he rx) (.nil (.isBytes ⟨rfl,rfl⟩))))))) λO=>.t6) (by rw[ER];rfl)) (λh=>nomatch h) (λO=>?_);refine .rL (.Bv (.nl ok J (H.n 0 rfl)) (.fn ok he Cz zG.keep (.one (.nl ok J (H.n 1 rfl)) (.cons (.fn ok he xK wo.keep (.one (.nl ok J (H.n 5 rfl)) (.nil (mG.Cb (xR ?_) ok u_ (by decide) λav e=>?_))))))))
  ·exact⟨by rw[xT];exact ar N.f.1 (by decide),λp hp=>let h:=(wx N.f).2 p hp;⟨ar h.2.2 (by decide),h.2.1⟩⟩
  subst e;refine .cons (.oj ok (by decide) he (m_ (mJ D.R)) ⟨by rw[vd];exact ar N.rl (by decide),λz hz=>let h:=(N.sR z hz).2;⟨ar h.1 (by decide),λp hp=>⟨ar (h.2 p hp).2.2 (by decide),(h.2 p hp).2.1⟩⟩⟩ (.ev (.nl ok J (H.n 4 rfl)) ⟨rfl,.one .int (.nil (mG.op (as:=[]) (rest:=D.as x.L l++D.nA) (CE (N.fit.xE (N.pos.mpr hp)) (by decide) (by decide)) ok u_ (by decide) .refl ?_ (λO O h=>h.elim)))⟩));rintro av as' ⟨b,rfl,rfl,hb,_⟩;refine⟨_,.N5,?_⟩;rw[hW,hb rfl,if_neg (by simp[tc])];refine .nil ?_;refine .pd ok he J (.yr ok (.BJ ok he (rt D.S) (λi=>decide (4294967296<=i)) (Kf N) (.ev (.nl ok J (H.n 3 rfl)) ⟨rfl,λD1=>⟨D1,_,rfl,(.head _),λb=>⟨rfl,λL' h2 o2=>?_⟩⟩⟩) λh=>.cmp h .int .ge));have H:=(H.off o2).cons h2;clear h2 o2;refine .forget (.skip .n8) ?_;refine .rL (.tY (.fn ok he zP xJ.keep (.cons (.fn ok he Gm Cg.keep (.one (.nl ok J (H.n 1 rfl)) (.nil (mG.op (as:=[]) (rest:=D.as x.L l++D.nA) (FV hz) ok u_ (by decide) .refl ?_ (λO O h=>h.elim))))))));rintro av as' ⟨a',e1,e2,m',n_,R',b',hA,rfl,rfl⟩;have hR:=JH (qY ⟨D.m,D.fs,mJ D.R⟩);rw[hA]at hR;refine .nil (mG.op (rest:=D.as x.L l++D.nA) (zV (hR.ui (MZ hz))) ok u_ (by decide) .refl ?_ (λO O h=>h.elim));refine nF ?_;refine .ite (.plain (.ev (.nl ok J (H.n 0 rfl)) ⟨AP D.S,rfl,?_⟩));have FN:=(hR.fit (MZ hz)).told b';have hN:m7 L' D.H3:=H.sub λp h=>.tail _ (.tail _ h);cases hg:AP D.S with
  |true=>refine .fn ok he HB Cy.keep (.one (.nl ok J (H.n 1 rfl)) (.nil (mG.op (as:=[]) (rest:=nc a' m' n_ R' e1 e2 b'++(D.as x.L l++D.nA)) (Ie hz) ok u_ (by decide) .refl ?_ (λO O h=>h.elim))));refine nF ?_;rw[hA];refine .AB ok FN FN λr hr=>⟨r,rfl,?_⟩;rw[hr.mpr rfl,if_neg (by decide)];exact .nil (.forget (as'':=D.as x.L l++D.nA) (Arr.right (A:=nc a' m' n_ R' e1 e2 b')) (.nil (w _ _ ⟨rfl,_,hN,rfl⟩)))
  |false=>refine .tuple (.one (.nl ok J (H.n 9 rfl)) (.one (.nl ok J (H.n 6 rfl)) (.one (.nl ok J (H.n 5 rfl)) (.one .bool (.nil ⟨l9 rfl,?_⟩)))));rw[<-xW];refine pX.AB (b:=⟨D.m,nB D.fs,m_ (mJ D.R),true⟩) ok FN (N.fit.told true) λr hr=>⟨r,rfl,?_⟩;have e:=T8 (N.rd hp hg);rw[show rR (qB D.S)=qY ⟨D.m,D.fs,mJ D.R⟩from(xZ D.S).symm,hA]at e;rw[hr.mpr (congrArg nh.told e),if_neg (by decide)];exact .nil (.forget (as'':=D.as x.L l++D.nA) (Arr.right (A:=nc a' m' n_ R' e1 e2 b')) (.nil (w _ _ ⟨rfl,_,hN,rfl⟩)))
 ·rintro o σ ⟨rfl,L,H,rfl⟩;exact k H
end
end
section
section
variable {c:Cx}{σ:Sg}{d:Nat}{E:Ex}{ε:Env}{ns:List Str}
theorem WT.s7(q:Q true σ):WT c E σ (.BoolOp .And [] pos) Q:=Tr.s7.wt q
theorem WT.and(h:WT c E σ e λb mM=>if b then WT c E mM (.BoolOp .And r pos) Q else Q false mM):WT c E σ (.BoolOp .And (e::r) pos) Q:=by
 intro fr xs vs s S;refine W.M4 ((h.go fr xs vs s S).mono ?_ λO O q=>q);rintro b s' ⟨mM,S1,q⟩;cases b with
 |true=>exact q.go fr xs vs s' S1
 |false=>exact⟨mM,S1,q⟩
end
noncomputable def vR(i:Int):Int:=if i<0 then -i else i
noncomputable def vS(l:List (Int×List UInt8)):List (Int×List UInt8):=l.map λp=>(vR p.1,p.2)
noncomputable def uM(rs:List (Int×List (Int×List Nat))):List (Int×List (Int×List UInt8)):=rs.map λz=>(vR z.1,vS (nx z.2))
noncomputable def BF:AV->AV
 |.tup [.int i,y]=>.tup [.int (vR i),y]
 |y=>y
theorem JJ(l:List (Int×List UInt8)):(((l.map ni).filter λO=>true).map BF)=(vS l).map ni:=by rw[filter_tt,vS,aN,aN];rfl
section
variable {c:Cx}{σ:Sg}{d:Nat}{E:Ex}{ε:Env}{ns:List Str}
theorem Each.abs{sc:Scope}{lo:List (Option AV)}{as:List mH}{q:Int×List UInt8}(ok:Ok c d)(he:c.env=ε)
  (hk:sc.kind=.function)(zD:(n1==n2)=false)(h1:∀C,(dT sc [] C ε).kindOf n1=some .local)(h2:∀C,(dT sc [] C ε).kindOf n2=some .local)
  (hd:(n1==("__debug__":Str))=false)(hd2:(n2==("__debug__":Str))=false)(hx:∀C,(dT sc [] C ε).kindOf (af "abs")=some .globalImplicit):
  Each c sc [] (.Tuple [.Name n1 p1,.Name n2 p2] k2 p3) (.Tuple [.Call (.Name (af "abs") p4) [.Name n1 p] [] p5,.Name n2 p'] k1 p6) [] (λO=>true) BF (λy=>match y with|.tup [a,b]=>[(n2,b),(n1,a)]|_=>[]) lo as (ni q):=by
 refine⟨λC f n6=>.v_ (ok.cmp hk) (mW he) rfl .head zD (h1 C) (h2 C),λC n6 k=>.nil,λO C n6 k=>?_⟩;exact .tuple (.one (.pC (ok.cmp hk) (mW he) Lz (.cv (ok.cmp hk) (mW he) rfl (.head _) m1 (h1 C) hd) .abs (hx C)) (.one (.cv (ok.cmp hk) (mW he) rfl (.head _) (.head _) (h2 C) hd2) (.nil ⟨by simp,rfl,rfl⟩)))
end
noncomputable def rT(F:List (Int×List UInt8)):Prop:=F.length<=3/\∀p∈F,(0<=p.1/\qb p.1)/\p.2.length<=8
noncomputable def vT(R:List (Int×List (Int×List UInt8))):Prop:=R.length<=2/\∀r∈R,(0<=r.1/\qb r.1)/\rT r.2
noncomputable def uN(T:Option (List UInt8)):Prop:=∀t,T=some t->t.length<=8
theorem Kj(h:oH 3 i):0<=vR i/\qb (vR i):=by
 unfold vR qb;split
 ·exact z65 h (by assumption)
 ·exact z64 h (eM.mp (by assumption))
theorem oH.up(h:oH 2 i):oH 3 i:=by unfold oH at h ⊢;exact abK h
theorem Kk(h:oV l):rT (vS (nx l)):=by refine⟨by rw[vS,nx,ah,ah];exact h.1,λp hp=>?_⟩;obtain⟨q,hq,rfl⟩:=aG.mp hp;obtain⟨z,hz,rfl⟩:=Dg hq;exact⟨Kj (h.2 z hz).1,M1 (h.2 z hz).2.2 (tG z.2)⟩
theorem T9(h:ym rs):vT (uM rs):=by refine⟨by rw[uM,ah];exact h.1,λr hr=>?_⟩;obtain⟨z,hz,rfl⟩:=aG.mp hr;exact⟨Kj (h.2 z hz).1.up,Kk (h.2 z hz).2⟩
theorem Dh{α:Type}{f:α->List UInt8}{l:List α}(h:∀x∈l,(f x).length<=n):(l.flatMap f).length<=n*l.length:=CS h
theorem rT.len(h:rT F):(lmap F).length<=60:=by
 have h1:=h.1;have b:=Dh (f:=λp:Int×List UInt8=>mK p.1.toNat++mK p.2.length++p.2) (n:=17) (l:=F) λp hp=>by have:=h.2 p hp;rw[aa,aa];exact z66 (sY this.1.2) (tO (ar this.2 (by decide))) this.2
 unfold lmap;rw[aa];exact abI h1 (tO (n:=F.length) (abJ h1)) b
theorem vT.len(h:vT R):(pe R).length<=140:=by
 have h1:=h.1;have b:=Dh (f:=qm) (n:=66) (l:=R) λr hr=>by have:=h.2 r hr;have:=sY this.1.2;have:=(h.2 r hr).2.len;simp only[qm,aa];exact abG (by assumption) this
 unfold pe;rw[aa];exact abF h1 (tO (n:=R.length) (abH h1)) b
theorem K7{F:List (Int×List UInt8)}(hT:uN T)(hF:rT F)(hR:vT R):(lw T F R).length<=600:=by
 have c:(qw T++oZ F++pz R).length<=3:=by simp only[aa];exact abE (Ae T) (by unfold oZ;split<;>simp) (by unfold pz;split<;>simp)
 have b:=Dh (f:=n4) (n:=144) (l:=qw T++oZ F++pz R) λp hp=>by
  have key:p.2.length<=140:=by
   rcases aH.mp hp with hp|hp
   ·rcases aH.mp hp with hp|hp
    ·cases T with
     |none=>cases hp
     |some t=>obtain rfl:=ao.mp hp;have:=hT t rfl;have:=tO (n:=t.length) (abD this);simp only[aa];exact abC (by assumption) this
    ·unfold oZ at hp;split at hp
     ·cases hp
     ·obtain rfl:=ao.mp hp;have:=hF.len;dsimp only;exact abB this
   ·unfold pz at hp;split at hp
    ·cases hp
    ·obtain rfl:=ao.mp hp;exact hR.len
  have:=As (p:=p) (abA key);exact abz key this
 unfold lw;exact aby c b
theorem Vv(hT:uN T)(hF:rT F)(hR:vT R):xE T F R where
 f:=λp hp=>⟨(hF.2 p hp).1.1,ar (sY (hF.2 p hp).1.2) (by decide)⟩
 r:=λr hr=>⟨(hR.2 r hr).1.1,ar (sY (hR.2 r hr).1.2) (by decide),λp hp=>⟨((hR.2 r hr).2.2 p hp).1.1,ar (sY ((hR.2 r hr).2.2 p hp).1.2) (by decide)⟩⟩
 z:=ar (K7 hT hF hR) (by decide)
 fl:=ar hF.1 (by decide)
 rl:=λr hr=>ar (hR.2 r hr).2.1 (by decide)
end
section
noncomputable abbrev tJ:=af "told"
noncomputable abbrev wO:=af "inner"
noncomputable abbrev K8:=af "bads"
noncomputable def yV:List (List UInt8):=[[128],[193,191],[237,160,128],[244,144,128,128],[97,226,130],[248,136,128,128,128]]
theorem T_{i:Int}(h0:0<=i)(h:i<6):∃b:List UInt8,(yV.map AV.bytes)[i.toNat]?=some (.bytes b)/\b.length<=8:=by
 have:i.toNat<yV.length:=by show i.toNat<6;exact abN h0 h
 refine⟨yV[i.toNat],by rw[bc,aw this];rfl,?_⟩;exact(by decide:∀b∈yV,b.length<=8) _ (bL this)
theorem oV.p(h:oV l):B_ l:=⟨ar h.1 (by decide),λp hp=>⟨ar (h.2 p hp).2.2 (by decide),(h.2 p hp).2.1⟩⟩
theorem pU.told(N:pU S)(b:Bool):(Told.mk S.m S.fs S.rs b).ok:=⟨λt e=>wM (N.m t e).1,λp hp=>wM (N.f.2 p hp).2.1,λz hz p hp=>wM ((N.r z hz).2.1.2 p hp).2.1⟩
theorem Ua(h:rT (F.concat p))(hb:b.length<=8):rT (F++[(p.1,b)]):=by rw[dK]at h;have h1:=h.1;rw[aa]at h1;exact⟨by rw[aa];exact h1,λz hz=>(aH.mp hz).elim (λhz=>h.2 z (ax _ hz)) λhz=>ao.mp hz▸⟨(h.2 p (aS _ (.head _))).1,hb⟩⟩
theorem Ta{m:Option (List Nat)}(h:∀t,m=some t->(∀q∈t,isSign q)/\t.length<=2):uN (m.map λt=>t.flatMap u8):=λb e=>match m,h,e with
 |some t,h,e=>by
  cases e
  exact M1 ((h t rfl).2) (tG t)
noncomputable abbrev OR(n1 n2:Str):AV->List (Str×AV):=λy=>match y with|.tup [a,b]=>[(n2,b),(n1,a)]|_=>[]
noncomputable abbrev n9.a5(D:n9)(L:aA)(l:List Int):List mH:=[nO D.a l,.nq (L+1) (.ref D.n)]
noncomputable abbrev n9.H5(D:n9):List (Str×AV):=[(uy,.ref D.a),(vz,.int D.pad),(Ar,.int D.extra),(z7,.int D.strange)]
section
variable {x:Cx}{E:Ex}(ok:Mine.Internal.Ok x 12) (he:x.env=pZ.px x.L) (J:Nm x og) {XX:mZ->Sg->Prop}(ex:Exits x E XX)
include ok he J ex
theorem adb{D:n9}(hD:D.Ok)(H:m7 L D.H3)
  (k:∀{L' T F R},uN T->rT F->vT R->m7 L' ((tJ,.lst (F.map ni))::(wO,.lst (R.map oY))::(tH,qN T)::D.H5)->WS x E (nC L' (D.a5 x.L l++D.nA)) (aO (pI 25) x.env) Q):
  WS x E (nC L (D.as x.L l++D.nA)) (aO (pI 19) x.env) Q:=by
 show WS x E _ (aO (_::_::_::_::_::_::pI 25) x.env) Q;have N:=hD.N;refine .yN J (H.n 9 rfl) .t1 λL' h2 o2=>?_;have H:m7 L' ((qS,.lst (D.rows.map ny))::(vh,.lst ((m_ D.S.rs).map ny))::(yn,nR (nB D.fs))::(xX,(Told.mk D.m D.fs D.S.rs true).av)::(sN,nR D.F)::(vB,.int D.bad)::(xV,.int D.turned)::(tH,qN (D.m.map λt=>t.flatMap u8))::D.H5):=
  (m7.off (xs:=[qS]) (H.pick [3,4,5,8,10,12,0,6,11,13,14]) o2).cons h2
 clear h2 o2;have nl:∀{y v l' L' as},m7 L' l'->∀i:Nat,l'[i]?=some (y,v)->og.contains y=true->∀{p},Ev x (nC L' as) (.Name y p) v:=λH i h q=>.nl ok J (H.n i h) q;refine .rL (.tY (.fn ok he zP xJ.keep (.one (.ce ok he m1) (.nil (mG.zC (zV N.ui) ok ex (by decide) (D.a5 x.L l) ?_ (λO O h=>h.elim))))));refine nF ?_;refine .ev (nl H 3 rfl (by decide +kernel)) (.AB ok (N.told true) (N.told true) λr hr=>⟨r,rfl,?_⟩);rw[hr.mpr rfl,if_neg (by decide)];refine .nil ?_;generalize hj:(if D.turned<2 then nB D.fs else D.F)=j0;have FO:oV j0:=by
  rw[<-hj];split
  ·exact wx N.f
  ·exact hD.fo
 refine .tL ok he J ((nx j0).map ni) (λO=>true) BF (OR tF pV) (cl:=[]) (rfl) (by decide +kernel) (by rw[ah,nx,ah];exact ar FO.1 (by decide))
  (.fn ok he xK wo.keep (.one (x:=nR j0) (.Nq nR hj (.cmp (nl H 6 rfl (by decide +kernel)) .int .lt) (nl H 2 rfl (by decide +kernel)) (nl H 4 rfl (by decide +kernel))) (.nil (mG.Cb (xR FO.p) ok ex (by decide) λav e=>?_))))
 subst e;refine⟨_,.ng ok,λO O O O h=>.ng h,KY λz=>?_,λt=>⟨_,qa,?_⟩⟩
 ·exact .abs ok he rfl (by decide +kernel) (by intro _;rfl) (by intro _;rfl) (by decide +kernel) (by decide +kernel) (by intro _;rfl)
 rw[JJ];have H:=(H.off (Off.rfl.upd (x:=tJ) (v:=.ref t) (xs:=[tJ]))).cons .here;have hF:=Kk FO;generalize vS (nx j0)=F0 at hF;refine .pd ok he J (.list (.nil ⟨l9 rfl,λi=>⟨rfl,λL2 h2 o2=>?_⟩⟩));have H:=(H.off o2).cons h2;clear h2 o2;generalize hz:(if D.turned<2 then m_ D.S.rs else D.rows)=z0;have Cc:ym z0:=by
  rw[<-hz];split
  ·exact⟨by rw[vd];exact N.rl,N.sR⟩
  ·exact hD.ro
 refine .Ba ex.own (ι:=Nat×(Str->Option AV)) (λit q=>nC q.2 (.fit it (.lst (z0.map ny)) q.1::.lst i ((uM (z0.take q.1)).map oY)::.lst t (F0.map ni)::(D.a5 x.L l++D.nA)))
  (λn q=>n+q.1=z0.length/\m7 q.2 ((wO,.ref i)::(tJ,.ref t)::(vB,.int D.bad)::(tH,qN (D.m.map λt=>t.flatMap u8))::D.H5)) z0.length ?_ ?_
 ·exact .ev (x:=.lst (z0.map ny)) (.Nq (λz=>AV.lst (z.map ny)) hz (.cmp (nl H 8 rfl (by decide +kernel)) .int .lt) (nl H 3 rfl (by decide +kernel)) (nl H 2 rfl (by decide +kernel))) (.ng λit=>⟨it,(0,L2),⟨jG _,(H.pick [0,1,7,9,10,11,12,13])⟩,rfl,rfl⟩)
 intro n it ⟨j,L⟩ Q' w ⟨rq,H⟩;dsimp only at rq H ⊢;cases n with
 |succ n=>
  have pL:j<z0.length:=rJ rq;have sG:z0[j]?=some z0[j]:=aw pL;have hq:=Cc.2 _ (bL (n:=j) (l:=z0) (rJ rq));generalize z0[j]=q at sG hq;refine⟨some (ny q),_,.ng .head (by rw[bc,sG];rfl),.ng (.head _),_,.tuple ok J (uL (uL .nil)),?_⟩;have H:=((H.off (Off.rfl.upd (x:=qt) (v:=.int q.1) (xs:=[qt,qj]))).off (Off.rfl.upd (x:=qj) (v:=nR q.2) (xs:=[qt,qj]))).cons (.here (v:=nR q.2));refine .ex he (.nX ok (nl H 1 rfl (by decide +kernel)) (.append m1) .builtin (.cons (.tuple (.one (.pC ok he Lz (.nl ok J (.there .here)) .abs) (.cons (.freeze (.tL ok ((nx q.2).map ni) (λO=>true) BF (OR tF pV) (cl:=[]) (rfl) (by decide +kernel) (by rw[ah,nx,ah];exact ar hq.2.1 (by decide))
   (.fn ok he xK wo.keep (.one (nl H 0 rfl (by decide +kernel)) (.nil (mG.Cb (xR hq.2.p) ok ex (by decide) λav e=>?_)))))))))))
  subst e;refine⟨_,.ng ok,λO O O O h=>.ng h,KY λz=>?_,λDD=>⟨DD,_,_,rfl,.head,.nil ⟨l9 rfl,.nil (.append (.tail .head) ?_ ⟨rfl,.nil (w _ _ ⟨n,(j+1,upd (upd L qt (.int q.1)) qj (nR q.2)),b_ n,⟨sZ rq,(H.pick [1,2,3,4,5,6,7,8])⟩,?_⟩)⟩)⟩⟩⟩
  ·exact .abs ok he rfl (by decide +kernel) (by intro _;rfl) (by intro _;rfl) (by decide +kernel) (by decide +kernel) (by intro _;rfl)
  ·have:=Cc.1;rw[ah,uM,ah,bS];exact abM rq this
  ·rw[JJ];have:(uM (z0.take (j+1))).map oY=(uM (z0.take j)).map oY++[oY (vR q.1,vS (nx q.2))]:=by rw[bD,sG,uM,au,au];rfl
   dsimp only;rw[this];rfl
 |zero=>
 obtain rfl:j=z0.length:=MQ rq;refine⟨none,_,.vm ok .head (by simp),?_⟩;rw[cT];have hR:=T9 Cc;generalize uM z0=R0 at hR;clear hz Cc;have hT:uN (D.m.map λt=>t.flatMap u8):=Ta hD.mo;generalize(D.m.map λt=>t.flatMap u8)=T0 at hT H;refine .pd ok he J (.freeze (.list (.one .bytes (.one .bytes (.one .bytes (.one .bytes (.one .bytes (.one .bytes (.nil ⟨l9 rfl,λb=>⟨b,_,_,rfl,.head,rfl,λL3 h3 o3=>?_⟩⟩)))))))));have H:=(H.off o3).cons h3;clear h3 o3;refine .xa (λσ=>∃L' T F,uN T/\rT F/\m7 L' ((wO,.ref i)::(tJ,.ref t)::(tH,qN T)::D.H5)/\σ=nC L' (.lst i (R0.map oY)::.lst t (F.map ni)::(D.a5 x.L l++D.nA))) (λQ' w=>?_) ?_
 rotate_left
 ·rintro σ ⟨L4,T,F,hT,hF,H,rfl⟩;refine .yN J (H.n 0 rfl) .head λL5 h5 o5=>?_;have H:=((H.sub λp h=>.tail _ h).off o5).cons h5;clear h5 o5;refine .yN J (H.n 1 rfl) .head λL6 h6 o6=>?_;have H:=(m7.off (xs:=[tJ]) (H.pick [0,2,3,4,5,6]) o6).cons h6;exact k hT hF hR H
 have keep:∀{T F L},uN T->rT F->m7 L ((wO,.ref i)::(tJ,.ref t)::(tH,qN T)::D.H5)->WS x E (nC L (.lst i (R0.map oY)::.lst t (F.map ni)::(D.a5 x.L l++D.nA))) (aO [] x.env) Q':=λhT hF H=>.nil (w _ ⟨_,_,_,hT,hF,H,rfl⟩);have H':m7 L3 ((wO,.ref i)::(tJ,.ref t)::(tH,qN T0)::D.H5):=(H.pick [1,2,4,5,6,7,8]);obtain⟨qe,Cd⟩:=hD.bo;refine .rL (.and (Tr.wt (.cmp (nl H 3 rfl (by decide +kernel)) .int .ge) ?_));by_cases hb:2<=D.bad
 rotate_left
 ·rw[if_neg (by simp[hb])];dsimp only;rw[if_neg (by simp)];exact .qy (Tr.is (b':=false) (Tr.and (b':=false) (.cmp (nl H 3 rfl (by decide +kernel)) .int .ge) λh=>absurd (of_decide_eq_true h) hb) (ez _)) (λh=>nomatch h) λO=>.nil (.nil (keep hT hF H'))
 rw[if_pos (by simp[hb])];obtain⟨b',sx,zx⟩:=T_ (i:=D.bad-2) (M0 qe Cd hb) (abL qe Cd hb);have yT:∀{L as},Lk L K8 (.lst (yV.map .bytes))->Lk L vB (.int D.bad)->∀{p1 p2 p3 p4 p5 k},Ev x (nC L as) (.Subscript (.Name K8 p1) (.BinOp (.Name vB p2) .Sub (.Constant (.int 2) k p3) p4) p5) (.bytes b'):=λh1 h2=>
  .item (.nl ok J h1) (.binop (.nl ok J h2) .int .sub) (.lst .ng (M0 qe Cd hb) (x41 qe Cd hb) sx)
 refine .and (.yr ok (.ev (nl H 2 rfl (by decide +kernel)) ⟨t,F0.map ni,rfl,m1,λb2=>?_⟩));rcases jI F0 with rfl|⟨F1,p,rfl⟩
 ·rw[if_neg (by simp)];dsimp only;rw[if_neg (by simp)];refine .forget .n8 ?_;cases T0 with
  |none=>exact .qy (Tr.is (b':=false) (.and (.cmp (nl H 3 rfl (by decide +kernel)) .int .ge) λO=>Tr.and (b':=false) (.cmp (nl H 4 rfl (by decide +kernel)) .none (.ru rfl)) λh=>nomatch h) (by simp)) (λh=>nomatch h) λO=>.nil (.nil (keep hT hF H'))
  |some b0=>refine .qy (Tr.is (b':=true) (.and (.cmp (nl H 3 rfl (by decide +kernel)) .int .ge) λO=>.and (.cmp (nl H 4 rfl (by decide +kernel)) .none (.ru rfl)) λO=>.s7) (by simp[hb])) (λO=>?_) λh=>nomatch h;refine .pd ok he J (.ev (yT (H.n 0 rfl) (H.n 3 rfl)) ⟨rfl,λL4 h4 o4=>.nil (.nil (keep (T:=some b') (F:=[]) (λb e=>by cases e;exact zx) hF ?_))⟩);exact(m7.off (xs:=[tH]) (m7.sub (l':=D.H5) H' λp h=>.tail _ (.tail _ (.tail _ h))) o4).cons h4 |>.cons ((H'.n 1 rfl).off o4) |>.cons ((H'.n 0 rfl).off o4)
 ·rw[if_pos (by simp)];refine .s7 ?_;rw[if_pos rfl];refine .forget .n8 ?_;have hm:mH.lst t (F1.map ni++[ni p])∈mH.lst i (R0.map oY)::.lst t ((F1.concat p).map ni)::(D.a5 x.L l++D.nA):=.tail _ (by rw[dK,au];exact .head _);refine .TK he (.tuple (.one (.pN (.item (nl H 2 rfl (by decide +kernel)) .neg (.last hm))) (.one (yT (H.n 0 rfl) (H.n 3 rfl)) (.nil ⟨l9 rfl,t,F1.map ni,ni p,.lst i (R0.map oY)::.lst t (F1.map ni++[ni (p.1,b')])::(D.a5 x.L l++D.nA),nl H 2 rfl (by decide +kernel),.neg,?_,.nil ?_⟩))))
  ·rw[dK,au];exact .tail .head
  ·have:=keep (T:=T0) (F:=F1++[(p.1,b')]) hT (Ua hF zx) H';rw[au]at this;exact this
end
end
section
noncomputable abbrev Bg:=af "how"
noncomputable abbrev Au:=af "place"
noncomputable abbrev Av:=af "octet"
theorem UP{o:List UInt8}(h0:0<=i):(cut o none (some i)).length<=i.toNat:=by refine ar (jV _ _) ?_;show(max 0 (min (if i<0 then i+_ else i) _)).toNat<=_;rw[if_neg (eM.mpr h0)];exact Int.toNat_le_toNat (Int.max_le.mpr ⟨h0,Int.min_le_left _ _⟩)
theorem K9{o:List UInt8}{i:Int}(h0:0<=i)(h1:i<=o.length):(cut o (some i) none).length+i.toNat<=o.length:=by refine x23 (x24 h0 h1) (ar (jV _ _) ?_);show _-ib _ i<=_;rw[C7 h0 h1];exact bz _
theorem ade[Decidable p][Decidable q]:(decide p||(decide q||false))=decide (p\/q):=by rw[cS,Bool.decide_or]
theorem Vw{s:Int}(h0:0<=s)(h1:s<253):∀x∈[3+s,2,s,255],0<=x/\x<256:=gh.mpr ⟨z61 h0 h1,gh.mpr ⟨by decide,gh.mpr ⟨z62 h0 h1,by decide⟩⟩⟩
theorem Vx:∀x∈([2,1,0]:List Int),0<=x/\x<256:=by decide
noncomputable def Di(n:Nat)(σ:Sg):AV->Sg->Prop:=λv mF=>(∃b:List UInt8,v=.bytes b/\b.length<=n)/\mF=σ
structure Vy where
 r:aA
 u:Int
 x:Int
 m:Nat
 l:List Int
 L:Str->Option AV
section
variable {x:Cx}{E:Ex}(ok:Mine.Internal.Ok x 12) (he:x.env=pZ.px x.L) (J:Nm x og) {XX:mZ->Sg->Prop}(ex:Exits x E XX)
include ok he J ex
theorem adf{D:n9}(hD:D.Ok){L:Str->Option AV}{T:Option (List UInt8)}{F:List (Int×List UInt8)}{R:List (Int×List (Int×List UInt8))}{Q:Out->Sg->Prop}(hl:l.length<=63)(hT:uN T)(hF:rT F)(hR:vT R)
  (H:m7 L ((tJ,.lst (F.map ni))::(wO,.lst (R.map oY))::(tH,qN T)::D.H5))
  (k:∀{L' o l},o.length<=5000->Lk L' pV (.bytes o)->WS x E (nC L' (D.a5 x.L l++D.nA)) (aO (pI 28) x.env) Q):WS x E (nC L (D.a5 x.L l++D.nA)) (aO (pI 25) x.env) Q:=by
 show WS x E _ (aO (_::_::_::pI 28) x.env) Q;have nl:∀{y v l' L' as},m7 L' l'->∀i:Nat,l'[i]?=some (y,v)->og.contains y=true->∀{p},Ev x (nC L' as) (.Name y p) v:=λH i h q=>.nl ok J (H.n i h) q;refine .pd ok he J (.fn ok he Cz zG.keep (.one (nl H 2 rfl (by decide +kernel)) (.one (nl H 0 rfl (by decide +kernel)) (.one (nl H 1 rfl (by decide +kernel)) (.one (nl H 4 rfl (by decide +kernel)) (.nil (mG.op (as:=[]) (rest:=D.a5 x.L l++D.nA) (CE (Vv hT hF hR) hD.po.1 (by have:=hD.po.2;exact ab7 this)) ok ex (by decide) .refl ?_ (λO O h=>h.elim))))))));rintro av as' ⟨o,rfl,rfl,_,ho⟩;have ho:o.length<=2400:=by have:=K7 hT hF hR;exact ab6 ho this
 refine⟨rfl,λL h1 o1=>?_⟩;have H:=((m7.sub (l':=D.H5) H λp h=>.tail _ (.tail _ (.tail _ h))).off o1).cons h1;clear h1 o1;refine hD.so.elim λhs0 qz=>?_;refine .xa (λσ=>∃L' o,o.length<=4900/\m7 L' [(pV,.bytes o),(uy,.ref D.a)]/\σ=nC L' (D.a5 x.L l++D.nA)) (λQ' w=>?_) ?_
 ·refine .t_ (Tr.is (.or (.cmp (nl H 3 rfl (by decide +kernel)) .int .eq) λO=>.or (.cmp (nl H 3 rfl (by decide +kernel)) .int .eq) λO=>.t6) ade) (λe3=>?_) λe3=>?_
  ·refine .pd ok he J (.binop (.binop (.ev (nl H 0 rfl (by decide +kernel)) (.bt ok he rx (.cons (.list (.one (.binop .int (nl H 4 rfl (by decide +kernel)) .add) (.one .int (.one (nl H 4 rfl (by decide +kernel)) (.one .int (.nil ⟨l9 rfl,λb=>?_⟩)))))))))));refine .nil (.ux (l:=[3+D.strange,2,D.strange,255]) ok (.head _) (Vw hs0 qz) (l9 rfl) (mQ.nI (.qW (z57 ho)) ?_));refine .mono (Q:=Di 2400 (nC L (.lst b ([3+D.strange,2,D.strange,255].map .int)::(D.a5 x.L l++D.nA)))) (.ite (Tr.wt (.cmp (nl H 3 rfl (by decide +kernel)) .int .eq) ?_)) ?_
   ·split
    ·exact .ev (nl H 0 rfl (by decide +kernel)) ⟨⟨_,rfl,ho⟩,rfl⟩
    ·exact .ev .bytes ⟨⟨_,rfl,bB _⟩,rfl⟩
   ·rintro v σ ⟨⟨b2,rfl,sv⟩,rfl⟩;refine mQ.nI (.qW (by rw[aa];exact ab5 ho sv)) ⟨rfl,λL' h1 o1=>.forget .n8 (.nil (.nil (w _ ⟨L',_,?_,(m7.nil.cons ((H.n 1 rfl).off o1)).cons h1,rfl⟩)))⟩;rw[aa,aa];exact z59 ho sv
  ·refine .qy (.cmp (nl H 3 rfl (by decide +kernel)) .int .eq) (λO=>?_) λO=>?_
   ·refine .pd ok he J (.binop (.ev (nl H 0 rfl (by decide +kernel)) (.bt ok he rx (.cons (.list (.one .int (.one .int (.one .int (.nil ⟨l9 rfl,λb=>.nil (.ux (l:=[2,1,0]) ok (.head _) Vx (l9 rfl) (mQ.nI (.qW (z58 ho)) ⟨rfl,λL' h1 o1=>.forget .n8 (.nil (.nil (.nil (w _ ⟨L',_,?_,(m7.nil.cons ((H.n 1 rfl).off o1)).cons h1,rfl⟩))))⟩))⟩)))))))));rw[aa];exact z60 ho
   ·exact .nil (.nil (.nil (w _ ⟨L,o,ab4 ho,(H.pick [0,1]),rfl⟩)))
 rintro σ ⟨L,o,ho,H,rfl⟩;refine .Ba ex.own (ι:=Vy) (λit q=>nC q.L (.is it (nQ q.x q.m 1)::.is q.r (nP 0 q.u 1)::(D.a5 x.L q.l++D.nA))) (λn q=>ua (q.m<=n) (q.l.length<=63) (∃o:List UInt8,o.length+n<=5000/\m7 q.L [(pV,.bytes o),(uy,.ref D.a)])) 3 ?_ ?_
 ·refine .forget (.bt ok he sM (.cons (.binop (.binop (.q7 ok he J ex (H.n 1 rfl) .head hl λi l5 zB=>?_)))));refine(qg (i+1) (b:=4) (by decide)).elim λu0 u1=>?_;refine .ev .int (mQ.nI .add (.ev .int (mQ.nI (.mod (by decide)) (.nil (.uw λrr=>?_)))));obtain⟨m,hm⟩:=bF u0;rw[hm]at u1 ⊢;refine⟨_,.refl,.range (.head _) (small_one (by decide) (by decide) (ab3 u1) (ab2 u1)) λit=>?_⟩;rw[rangeSize_nat];exact⟨it,⟨rr,m,0,m,l5,L⟩,⟨by dsimp only;exact ab1 u1,zB,o,ab0 ho,H⟩,rfl,rfl⟩
 rintro n it ⟨r0,u,xv,m,l,L⟩ Q' w ⟨hm,hl,o,ho,H⟩;dsimp only at hm hl H ⊢;cases m with
 |zero=>exact⟨none,_,.sL ok .head (tT),.forget .n8 (k (abZ ho) (H.n 0 rfl))⟩
 |succ m=>
 obtain⟨n,rfl⟩:∃j,n=j+1:=⟨n-1,aa4 hm⟩;refine⟨some (.int xv),_,.range ok .head (tS),.name,_,.name ok J qa,?_⟩;have H:=H.off (Off.rfl.upd (x:=tx) (v:=.int xv) (xs:=[tx]));generalize upd L tx (.int xv)=L at H;refine .us (names:=[Bg,Au,Av]) ok he J (.tuple (.cons (.binop (.q7 ok he J ex (H.n 1 rfl) .t2 hl λi1 l1 xF=>.ev .int (mQ.nI (.mod (by decide)) (.cons (.q7 ok he J ex (H.n 1 rfl) .head xF λi2 l2 rP=>.cons (.binop (.binop (.q7 ok he J ex (H.n 1 rfl) .head rP λi3 l3 wk=>.ev .int (mQ.nI .add (.ev .int (mQ.nI (.mod (by decide)) (.nil ⟨l9 rfl,_,_,rfl,rfl,.cons qa (.cons qa (.cons qa .nil)),?_⟩))))))))))))));refine(qg (i3+128) (b:=256) (by decide)).elim λc0 c1=>?_;have H:=(H.off ((((Off.rfl (xs:=[Av,Au,Bg])).upd (x:=Av) (v:=.int ((i3+128).fmod 256))).upd (x:=Au) (v:=.int i2)).upd (x:=Bg) (v:=.int (i1.fmod 4))));have H:=((H.cons (.there (.there .here))).cons (.there .here)).cons .here;generalize i1.fmod 4=how at H;generalize(i3+128).fmod 256=oc at H c0 c1;generalize upd (upd (upd L Av (.int oc)) Au (.int i2)) Bg (.int how)=L at H;refine .forget (as'':=.is it (nQ (xv+1) m 1)::.is r0 (nP 0 u 1)::(D.a5 x.L l3++D.nA)) ?_ ?_
 ·rw[show((m+1:Nat):Int)-1=m by exact uA];exact .pick .t1 (.pick .t1 (.pick .head .refl))
 have fin:∀{L':Str->Option AV}{o:List UInt8},o.length+n<=5000->m7 L' [(pV,.bytes o),(uy,.ref D.a)]->Q' .next (nC L' (.is it (nQ (xv+1) m 1)::.is r0 (nP 0 u 1)::(D.a5 x.L l3++D.nA))):=λho H=>w _ _ ⟨n,⟨r0,u,xv+1,m,l3,_⟩,b_ n,⟨Nat.le_of_succ_le_succ hm,wk,_,ho,H⟩,rfl⟩;refine .qy (.cmp (nl H 3 rfl (by decide +kernel)) .bytes .N5) (λh=>?_) λO=>.nil (.nil (fin (abY ho) (H.pick [3,4])));have hp:0<o.length:=List.length_pos_iff.mpr (of_decide_eq_true h);obtain⟨f0,f1⟩:=qg i2 (b:=(o.length:Int)) (abX hp);have hlen:∀{p1 p2 p3 as},Ev x (nC L as) (.Call (.Name (af "len") p1) [.Name pV p2] [] p3) (.int o.length):=.pC ok he qk (nl H 3 rfl (by decide +kernel)) (.tU (Bp ho));refine .pd ok he J (.ev (.binop (.binop hlen .int .sub) (.binop (nl H 1 rfl (by decide +kernel)) hlen (.mod (Mx hp))) .sub) ⟨rfl,λL' h1 o1=>?_⟩);have H:=(H.off o1).cons h1;clear h1 o1;obtain⟨at',Ce⟩:∃a,a=(o.length:Int)-1-i2.fmod o.length:=⟨_,rfl⟩;rw[<-Ce]at H;have a0:0<=at':=abW f1 Ce;have a1:at'+1<=o.length:=abV f0 Ce;clear Ce f0 f1 hlen;refine .pd ok he J (.mono (Q:=Di 1 (nC L' (.is it (nQ (xv+1) m 1)::.is r0 (nP 0 u 1)::(D.a5 x.L l3++D.nA)))) (.ite (Tr.wt (.cmp (nl H 1 rfl (by decide +kernel)) .int .lt) ?_)) ?_)
 ·split
  ·exact .forget (.bt ok he rx (.cons (.list (.one (nl H 3 rfl (by decide +kernel)) (.nil ⟨l9 rfl,λb=>.nil (.ux (l:=[oc]) ok (.head _) (λy hy=>ao.mp hy▸⟨c0,c1⟩) (l9 rfl) ⟨_,.n8,⟨_,rfl,bz 1⟩,rfl⟩)⟩)))))
  ·exact .ev .bytes ⟨⟨_,rfl,bB 1⟩,rfl⟩
 rintro v σ ⟨⟨b1,rfl,zy⟩,rfl⟩;refine⟨rfl,λL2 h1 o1=>?_⟩;have H:=(H.off o1).cons h1;clear h1 o1;refine .pd ok he J (.mono (Q:=Di (o.length-at'.toNat) (nC L2 (.is it (nQ (xv+1) m 1)::.is r0 (nP 0 u 1)::(D.a5 x.L l3++D.nA)))) (.ite (Tr.wt (.cmp (nl H 2 rfl (by decide +kernel)) .int .eq) ?_)) ?_)
 ·split
  ·exact .ev (.slice (nl H 5 rfl (by decide +kernel)) (.some (nl H 1 rfl (by decide +kernel))) .none (.bytes (Bp ho))) ⟨⟨_,rfl,by have:=K9 (o:=o) a0 (abU a1);exact abT this⟩,rfl⟩
  ·refine .ite (Tr.wt (.cmp (nl H 2 rfl (by decide +kernel)) .int .ne) ?_);split
   ·exact .ev (.slice (nl H 5 rfl (by decide +kernel)) (.some (.binop (nl H 1 rfl (by decide +kernel)) .int .add)) .none (.bytes (Bp ho))) ⟨⟨_,rfl,by have:=K9 (o:=o) (i:=at'+1) (yY a0) (abS a1);exact abR a0 a1 this⟩,rfl⟩
   ·exact .ev .bytes ⟨⟨_,rfl,bB _⟩,rfl⟩
 rintro v σ ⟨⟨b2,rfl,sv⟩,rfl⟩;refine⟨rfl,λL3 h1 o1=>?_⟩;have H:=(H.off o1).cons h1;clear h1 o1;have h3:=UP (o:=o) a0;refine .pd ok he J (.ev (.binop (.binop (.slice (nl H 6 rfl (by decide +kernel)) .none (.some (nl H 2 rfl (by decide +kernel))) (.bytes (Bp ho))) (nl H 1 rfl (by decide +kernel)) (.qW (abQ ho hm a1 zy h3))) (nl H 0 rfl (by decide +kernel)) (.qW (by rw[aa];exact abP ho hm hp a1 zy sv h3))) ⟨rfl,λL4 h1 o1=>.nil (.nil (fin ?_ ((m7.nil.cons ((H.n 7 rfl).off o1)).cons h1)))⟩);simp only[aa];exact abO ho a0 a1 zy sv h3
end
end
section
theorem pA.tv(h:pA S i)(hi:i<=16000):tv S:=by
 have hz:=h.z;have hf:=vj S.fs;have hr:=Df S.rs;have hb:∀{l:List (Int×List Nat)},pO l<=16000->(∀p∈l,vQ p)->(l.map (λO=>O.1)).Pairwise (λO O'=>O<O')->B6 l:=λ{l} a b c=>
  ⟨ar (vj l) a,.inr (c.imp dJ),λp hp=>⟨by
   have:=wL (f:=λp:Int×List Nat=>1+p.2.length) hp;unfold pO at a
   exact MT a this,(b p hp).s⟩⟩
 unfold sz at hz;refine⟨λt e=>⟨by rw[e]at hz;exact acd hi hr hz,h.m t e⟩,hb (acb hi hz) h.f h.fp,MY hi hz hf hr,.inr (h.rp.imp dJ),λz n7=>?_,h.rp.imp fg,?_⟩
 ·have:=wL (f:=λz:Int×List (Int×List Nat)=>1+pO z.2) n7;exact hb (aca hi hz hf this (rfl)) (h.r z n7).s (h.r z n7).p
 ·rw[xZ,K2 h.r7];have:=(h.fit hi).len;unfold sz at this;exact ab9 hi hz this
theorem pA.adg{m:Option (List Nat)}{i:Int}(h:pA ⟨m,fs,rs⟩ i)(hi:i<=16000):B_ fs/\Nv rs:=by have k:=h.tv hi;exact⟨⟨k.fs.1,k.fs.2.2⟩,k.rl,λz hz=>⟨(k.rs z hz).1,(k.rs z hz).2.2⟩⟩
section
variable {x:Cx}{E:Ex}(ok:Mine.Internal.Ok x 12) (he:x.env=pZ.px x.L) (J:Nm x og) (ex:Exits x E λx σ=>nE x σ.as)
include ok he J ex
theorem adh{D:n9}(nd:x.nd=true){l:List Int}{Q:Out->Sg->Prop}(ho:o.length<=5000)(h0:Lk L pV (.bytes o))(k:∀σ,Q (.ret (.bool true)) σ):WS x E (nC L (D.a5 x.L l++D.nA)) (aO (pI 28) x.env) Q:=by have nl:∀{y v l' L' as},m7 L' l'->∀i:Nat,l'[i]?=some (y,v)->og.contains y=true->∀{p},Ev x (nC L' as) (.Name y p) v:=λH i h q=>.nl ok J (H.n i h) q;refine .ce ok he (.forget (.fn ok he Gm Cg.keep (.one (.nl ok J h0) (.nil (mG.op (as:=[]) (rest:=D.a5 x.L l++D.nA) (FV (ar ho (by decide))) ok ex (by decide) .refl ?_ (λO O h=>h.elim))))));rintro av as' ⟨a,e1,e2,m,fs,R,b,hA,rfl,rfl⟩;refine⟨.nq (x.L+1) (.ref D.n)::nc a m fs R e1 e2 b,.trans (Arr.swap (A:=nc a m fs R e1 e2 b) (B:=D.a5 x.L l++D.nA)) (.skip (.pick .head (Arr.right (A:=D.nA)))),_,_,.inr ⟨_,rfl⟩,.head,?_⟩;have hS:=JH o;rw[hA]at hS;have hS:pA ⟨m,fs,mJ R⟩ o.length:=hS;have hi:(o.length:Int)<=16000:=ab8 ho;refine(hS.adg hi).elim λhP hPR=>?_;have ht:=(hS.fit hi).told b;refine .un ok he J (.fn ok he HB Cy.keep (.one (.nl ok J h0) (.nil (mG.op (as:=[]) (rest:=.nq (x.L+1) (.ref a)::nc a m fs R e1 e2 b) (Ie (ar ho (by decide))) ok ex (by decide) .refl ?_ (λO O h=>h.elim)))));refine nF ?_;rw[hA];refine⟨_,_,rfl,uL (uL (uL (uL .nil))),?_⟩;have H:=((((m7.nil.cons (Lk.here (x:=H9) (v:=.bool b) (L:=upd (upd (upd L Aq (rF m)) sN (nR fs)) qS (Lv (mJ R))))).cons (.there .here)).cons (.there (.there .here))).cons (.there (.there (.there .here))));refine .rL (.tY (.fn ok he zP xJ.keep (.one (.ce ok he (.head _)) (.nil (mG.zC (zV (hS.ui hi)) ok ex (by decide) [.nq (x.L+1) (.ref a)] ?_ (λO O h=>h.elim))))));refine nF ?_;refine .tuple (.one (nl H 0 rfl (by decide +kernel)) (.one (nl H 1 rfl (by decide +kernel)) (.one (nl H 2 rfl (by decide +kernel)) (.one (nl H 3 rfl (by decide +kernel)) (.nil ⟨by simp,?_⟩)))));refine pX.AB (a:=⟨m,fs,mJ R,b⟩) (b:=⟨m,fs,mJ R,b⟩) ok ht ht λr hr=>⟨r,rfl,?_⟩;rw[hr.mpr rfl,if_neg (by decide)];refine .nil ?_;refine .pd ok he J (.LJ (m:=m) ok (by decide) he ex (λt e=>⟨((hS.tv hi).m t e).2,((hS.tv hi).m t e).1⟩) (xW m▸nl H 0 rfl (by decide +kernel)) (xW m▸nl H 0 rfl (by decide +kernel)) ⟨rfl,λL' h1 o1=>?_⟩);have H:=(H.off o1).cons h1;clear h1 o1;refine .pd ok he J (.fn ok he Cz zG.keep (.one (nl H 0 rfl (by decide +kernel)) (.cons (.fn ok he xK wo.keep (.one (nl H 2 rfl (by decide +kernel)) (.nil (mG.Cb (xR hP) ok ex (by decide) λav e=>?_)))))));subst e;refine .cons (.oj ok (by decide) he (mJ R) hPR (.ev (nl H 3 rfl (by decide +kernel)) ⟨rfl,.one .int (.nil (mG.op (as:=[]) (rest:=.nq (x.L+1) (.ref a)::nc a m fs R e1 e2 b) (CE ((hS.fit hi).xE hS.pos) (by decide) (by decide)) ok ex (by decide) .refl ?_ (λO O h=>h.elim)))⟩));rintro av as' ⟨w,rfl,rfl,hw,_⟩;obtain rfl:=hw rfl;refine⟨rfl,λL2 h1 o1=>?_⟩;refine .ret (.cmp (.fn ok he G7 Cn.keep (.one (.ce ok he (.head _)) (.nil (mG.zC (Ga (hS.tv hi)) ok ex (by decide) [.nq (x.L+1) (.ref a)] ?_ (λe as' h=>(h.1 hS.pos).elim) (λO=>nd))))));refine p_ λO=>?_;refine .ev (.nl ok J h1) (mQ.nI .eqB ?_);rw[decide_eq_true (by rw[xZ,K2 hS.r7];rfl)];exact k _
end
noncomputable abbrev Tb:=af "script"
theorem Tc{x:Cx}{us:List Value}{l:List Int}(ok:Mine.Internal.Ok x 12)(he:x.env=pZ.px x.L)(J:Nm x og)(ex:Exits x E λO O=>False)(nd:x.nd=true)(hz:l.length<=63)(hb:x.base.IsList s us.toArray)(hi:d6 us l):
  WS x E (nC (upd (λO=>none) Tb (.ref s)) [.qU (x.L+1)]) (aO (pI 0) x.env) (λo O=>o=.ret (.bool true)):=by
 refine ac0 ok he J ex hz hb hi .here λ{L a r m F rows bad pad turned extra strange l'} D pD=>?_;refine ac3 ok he J ex D λ{n d1 d2 fs R} N=>?_;have hD:n9.Ok ⟨a,r,n,d1,d2,m,F,rows,bad,pad,turned,extra,strange,fs,R⟩:=⟨D.mo,D.fo,D.ro,D.bo,D.po,D.so,N⟩;refine ac5 (D:=⟨a,r,n,d1,d2,m,F,rows,bad,pad,turned,extra,strange,fs,R⟩) ok he J ex hD ((((((((((m7.nil.cons D.RF).cons D.T4).cons D.Jx).cons D.Vu).cons D.Vt).cons D.KU).cons D.Kd).cons (xW m▸D.Kc)).cons D.UM)) λ{L} H=>?_;refine ada ok he J hD nd H λ{L} H=>?_;refine adb ok he J ex hD H λ{L T F R} hT hF hR H=>?_;refine adf ok he J ex hD pD hT hF hR H λ{L o l} ho h=>?_;exact adh ok he J ex nd ho h λσ=>rfl
end
theorem RS{i:mR}{ps:List Str}{li:List (Option Nat)}{cs:List (Str×Nat×Option Nat)}(hi:i.uW ps li cs){n:Nat}(hA:A.frames=some [])(hh:A.handled=none)(ti:A.depth+4*n<=900)(ze:A.units+40*n<=9000){args:List AV}{us:List Value}
  (X:(KK w.params).In s.heap)(hG:∃mg mb,s.heap.Ns az mg/\s.heap.Ns fM mb/\∀x:Str,x≠"__name__"->mb x=fG x)(OS:s.heap.NoLimit)
  (hb:bk s i.fd ⟨us,[]⟩ (ps.zip us))(hlen:ps.length=us.length)(oa:mL [] args us){v:Value}(hv:∀fz u,Of fz (.bool true) u->u=v)
  (body:∀c':Cx,c'.w=w->c'.nd=true->c'.base=s.heap->Ok c' n->c'.env=i.px c'.L->Nm c' i.ns->WS c' qp ⟨li.map (sy args),uF c'.L args cs⟩ (aO (sQ i.st) c'.env) (λo O=>o=.ret (.bool true))):
  WC true (aX PW w) A (.call (.ref i.f) ⟨us,[]⟩) (λr s'=>r=.ok (.ret v)/\(∀b o,s.heap.get? b=some o->s'.heap.get? b=some o)/\p8 s s') s:=by
 have qV:=hi.loc;simp only[cy,b5,beq_iff_eq,dQ]at qV;have zt:=hi.pk;simp only[cy,iH,b5,beq_iff_eq,dZ]at zt;have xw:=hi.ci;simp only[cy,b5,beq_iff_eq,dQ,beq_eq_false_iff_ne]at xw;have wY:∀k,∀y∈ps.zip us,(nD i.st).names.lookup y.1=some .local\/((nD i.st).names.lookup y.1=some .cell/\((cC k (nD i.st).names []).lookup y.1).isSome=true):=λk y hy=>by
  rcases zt y.1 (iD hy).1 with h|⟨h,p,hp,e⟩
  ·exact .inl h
  ·refine .inr ⟨h,?_⟩;have hm:y.1∈(cC k (nD i.st).names []).map (λO=>O.1):=by rw[eu (nD i.st).names k (0+1) [] [] rfl,hi.cells 0];simp only[aN,aG,eN];exact⟨p,hp,e⟩
   cases q:(cC k (nD i.st).names []).lookup y.1 with
   |some _=>rfl
   |none=>refine(aG.mp hm).elim λz w9=>w9.elim λhz e=>?_;rw[fQ]at q;have:=q z hz;rw[e]at this;simp at this
 have pK:((cC 0 (nD i.st).names []).map (λO=>O.1)).Nodup:=by rw[eu (nD i.st).names 0 (0+1) [] [] rfl,hi.cells 0,aN];exact hi.tn
 refine(lz X (hi.code w.params)).elim λc w9=>w9.elim λoc w9=>w9.elim λvs w9=>w9.elim λtq w9=>w9.elim λhc w9=>w9.elim λxr w9=>w9.elim λzc hq=>?_;refine .tree rfl ?_;show W true _ A.in1 (iP (.ref i.f) ⟨us,[]⟩) _ _ s;delta iP;dsimp only;refine .step (du (X _ _ (hi.look w.params)) ?_);show W true _ _ (iO _ (fnX i.name i.qual (CU i.st) (sQ i.st) (nD i.st) [] i.dV .none .none i.pm none i.cd .none) _) _ _ _;rw[hc];delta iO;dsimp only;rw[hi.co,hi.gen];dsimp only;refine .step (eE xr zc hq (.step (ak (.step ?_))));rw[<-hc];refine hb _ _ _ _ ?_;refine .step (jy hi.kd (wY _) λacB he s' x=>?_);subst he;refine .step (i7 (OS.keeps x.toInCall.keep) (by show A.depth<1000;exact o6 ti) (.pure ⟨rfl,.tree rfl ?_⟩));obtain⟨m4,tk,rfl,_⟩:=x.done;obtain⟨cells,NC,Y⟩:=Cl.news (h₀:=s.heap) (bz _) λn c hm=>⟨x.cell n c (kW (eu (nD i.st).names 0 (s.heap.objs.size+1) [] [] rfl▸pK) hm),x.above n c hm⟩
 let c':Cx:=⟨true,w,A,s.heap,[],s.heap,s.heap.objs.size,i.px s.heap.objs.size,i.ns,s,i.px s.heap.objs.size,false⟩
 have Y:iV (mi (i.px s.heap.objs.size).kindOf (ps.zip us) λO=>none) (cs.map λp=>(p.1,s.heap.objs.size+1+p.2.1)) cells:=by rw[<-hi.cells];exact Y
 have S':St c' (Sg.on ⟨li.map (sy args),uF s.heap.objs.size args cs⟩ []) [] [] {s with heap:=m4,toks:=tk}:=by
  refine⟨s.heap,.refl,_,cells++[],[],⟨x.toInCall.ns,(x.toInCall.keep),bz _⟩,?_,λp hp=>NC p (by simpa using hp),?_,?_,.nil,⟨rfl,rfl,rfl⟩⟩
  ·intro y av k;have k:At i.ns (li.map (sy args)) y (some av):=k;rw[hi.li,aN]at k;refine k.of_map.elim λhx k=>?_;obtain⟨v,hm,zh⟩:=CV oa hlen k;exact⟨v,Ir (by rw[eI (BM hlen)];exact hi.BY) hm (qV y hx).1,zh⟩
  ·rw[aW,aW,(Ja Y),aN];have:=hi.and';simp only[gH,ke]at this ⊢;exact this.imp λoR e=>oR (by simp only[eN]at e;exact j4 e)
  ·refine I_ oa hlen hi.BY .nil (λp hp=>?_) Y;have:=xw p hp;exact⟨this.1,this.2⟩
 show W true _ (A.deeper (i.px s.heap.objs.size)) (do point;match <-(aO (sQ i.st) (i.px s.heap.objs.size)).onRaise (gZ (i.px s.heap.objs.size))with|.ret v=>ret v|_=>ret .none) _ _ _;refine .step (eD (.then (P:=λfl s'=>fl=.ret v/\(∀b o,s.heap.get? b=some o->s'.heap.get? b=some o)/\p8 s s') (.onRaise (((body c' rfl rfl rfl (⟨X,hG,OS,⟨hA,λO O e=>e,trivial⟩,hh,λO=>rfl,λO=>rfl,rfl,hi.kd,hi.kd,rfl,rfl,hi.nd,λO y hy=>qV y hy,ti,ze⟩) rfl ⟨rfl,rfl⟩).go [] [] [] _ S').mono (λfl s' hl=>?_) λe s' k=>k.elim)) λfl s' k=>?_))
 ·obtain⟨o,mF,hf,rfl⟩:=hl;obtain⟨u,rfl,g,hg,m,own,fz,I⟩:=hf;cases I.st with
  |cons o1 _=>refine⟨by rw[hv fz u o1],λb o e=>I.F.keep b o ?_,I.same⟩;exact(hg.2.1 b λhb=>nomatch hb).trans e
 ·obtain⟨rfl,k⟩:=k;exact .pure ⟨rfl,k⟩
theorem P0{s:ai}{R:gv->ai->Prop}(adi:s.asleep)
  (h:W true (aX prog w) callerA t (λfin s'=>∃f,fin=.done f/\(R (.ok f) s'/\jq s'.gens=false)) (λe s'=>R (.error e) s'/\jq s'.gens=false) s):
  ∃n r s' ph,runN (ly fy) prog w n s ⟨t,.builtin "claim.caller" {},default,[]⟩=.halted (outcomeOf r) s'/\
   schedN (ly fy) prog w n (.single s ⟨t,.builtin "claim.caller" {},default,[]⟩)=.halted (outcomeOf r) s'/\s'.forget=ph.forget/\R r ph:=by
 obtain⟨n,r,mN,m8,hs,J,FP,hR⟩:=wp_halts_full (M:=aX prog w) (R:=R) adi (fH.wp_mono _ _ t (λfin p' s' h'=>by
  obtain⟨f,rfl,hf⟩:=h'
  exact(show fH.finPost (aX prog w) _ (λr s'=>R r s'/\jq s'.gens=false) (.done f) p' s' from hf)) (λO O O h'=>h') default s (h _ default caller_in λO=>⟨by decide +kernel,λq hq=>nomatch hq⟩))
 exact⟨n,r,m8,mN,J,hs,FP,hR⟩
noncomputable abbrev RW:OpenLaw:=PySem.Challenge.rw_nm0136_01
noncomputable abbrev RR:RowW:=RW.row.toRowW
theorem opw:opensWell PW=true:=by kernel_rfl!
theorem bare:PW.bare:=⟨rfl,rfl,rfl,rfl,rfl,by kernel_rfl!⟩
theorem frs:(frees RR&&RR.within.isEmpty)=true:=by kernel_rfl!
theorem prom:RR.promised:=⟨[.list []],by kernel_rfl!,by kernel_rfl!⟩
theorem has_int(h:iq.has [] d .int=true):∃i,d=.int i:=by cases d<;>first|exact⟨_,rfl⟩|exact hZ (show false=true from h)
theorem has_list(h:iq.has [] d (.list .int)=true):∃ds,d=.list ds/\eP [] ds .int=true:=by cases d<;>first|exact⟨_,rfl,(cS _).symm.trans h⟩|exact hZ (show false=true from h)
theorem IZ{ds}(h:eP [] (d::ds) .int=true):iq.has [] d .int=true/\eP [] ds .int=true:=aV.mp h
theorem Ub:∀{vs:List Value}{ds:List WData}{as:List aA},ReadsAllW [] cl h vs ds as->eP [] ds .int=true->∃ns,d6 vs ns/\ns.length=ds.length:=by
 intro vs ds;induction ds generalizing vs with
 |nil=>intro as r _;cases r;exact⟨[],.nil,rfl⟩
 |cons d ds ih=>
  intro as r hh;cases r with
  |cons r1 r2=>obtain⟨ns,h1,h2⟩:=ih r2 (IZ hh).2;obtain⟨i,rfl⟩:=has_int (IZ hh).1;cases r1;exact⟨_::ns,.cons _ _ h1,by simp[h2]⟩
theorem UQ(h:RR.claim.pre args=true):∃ds,args=[.list ds]/\eP [] ds .int=true/\ds.length<=63:=by
 obtain⟨h1,h2⟩:=pre_splitW h;obtain⟨d,r,rfl,h3,h4⟩:=hasAllW_cons (R:=[]) (e:=.list .int) (es:=[]) h1;obtain rfl:r=[]:=by cases r with
  |nil=>rfl
  |cons=>exact hZ (show false=true from h4)
 obtain⟨ds,rfl,h5⟩:=has_list h3;refine⟨ds,rfl,h5,?_⟩;have e:RR.pre.value RR.records {args:=[.list ds]}=some (.bool (!(decide ((63:Int)<ds.length))&&true)):=w_and (w_not (w_lt w_lit (w_len_list (w_arg rfl)))) w_lit;unfold WTm.holds at h2;rw[e]at h2;by_cases q:(63:Int)<ds.length
 ·simp[q]at h2
 ·exact acf q
theorem Vz(P:aM):cN (KK P) az (af "law")=some (some (.ref 494)):=by kernel_rfl!
theorem K_(L:Left w s):s.heap.nsMap az (af "law")=some (.ref 494):=mg_of L.K (.of_isNs L.mg) (Vz _)
theorem pinned(L:Left w s):isTheDefsW PW s.heap (af "law"):=
 ⟨494,_,pZ.fd,CU pZ.st,sQ pZ.st,nD pZ.st,(kY L.mg _).trans (K_ L),L.K _ _ (Jb.look w.params),rfl,by kernel_rfl!,rfl,rfl,rfl,rfl,rfl,rfl,rfl,rfl,.inl ⟨rfl,rfl⟩,[],by kernel_rfl!,.inl ⟨rfl,rfl⟩⟩
theorem Left.keeps{s mN:ai}(L:Left w s)(k:∀b o,s.heap.get? b=some o->mN.heap.get? b=some o):(KK w.params).In mN.heap/\mN.heap.Ns az (s.heap.nsMap az)/\(∃mg mb,mN.heap.Ns az mg/\mN.heap.Ns fM mb/\∀x:Str,x≠"__name__"->mb x=fG x)/\mN.heap.NoLimit:=by have g:=(bb.Ns.of_isNs L.mg).keeps k;refine⟨L.K.keeps k,g,⟨_,_,g,(bb.Ns.of_isNs L.mb).keeps k,λx hx=>bb.of_bltView L.mb L.blt x hx⟩,?_⟩;exact(bb.NoLimit.of_ok L.lim).keeps k
theorem Td{s mN:ai}(L:Left w s)(k:∀b o,s.heap.get? b=some o->mN.heap.get? b=some o){us:List Value}{l:List Int}(hz:l.length<=63)(hb:mN.heap.IsList a us.toArray)(hi:d6 us l){Q:g8->ai->Prop}{E:Value->ai->Prop}
  (q:∀s',(∀b o,mN.heap.get? b=some o->s'.heap.get? b=some o)->p8 mN s'->Q (.done (.ret (.bool true))) s'):
  W true (aX PW w) callerA (do match <-nsGet mainNs (af "law")with
   |some f=>do ret (<-aF f [.ref a])
   |none=>kJ "claim.caller:no-such-global") Q E mN:=by
 refine cps λV V'=>?_;obtain⟨X,g,G,nl⟩:=L.keeps k;refine V' ?_;refine .step (wpAny_nsGet g ?_);rw[K_ L];refine .bind ?_;refine .vo (.mono (RS (A:=callerA.mark none) (n:=12) Jb rfl rfl (by decide +kernel) (by decide +kernel) (args:=[.ref a]) X G nl (aC rfl) rfl (.cons (.ref a) .nil) (v:=.bool true) (λfz u o=>o.bool_inv) λc' O nd DX ok he J=>?_) ?_)
 ·exact Tc (x:=c') (s:=a) (us:=us) (l:=l) ok he J .qp nd hz (by rw[DX];exact hb) hi
 ·rintro r s' ⟨rfl,h1,h2⟩;exact .pure (q s' h1 h2)
theorem Te:RR.claim.HoldsOpenBy (callStub (af "law")) [af "law"] RW.own false:=by
 obtain⟨k5,k6⟩:=aV.mp frs;obtain⟨VA,hu,ha,hap,hm⟩:=frees_parts k5;refine⟨⟨bare,opw,rfl⟩,prom.witness,λw=>⟨(behind w).1,λs' vY=>?_⟩⟩;refine cps λV V'=>?_;obtain⟨uB,hf,NO,s,hT,hz,L⟩:=(behind w).2 s' vY;refine V' ?_;refine⟨uB,hf,NO,s,hT,λn J=>?_,(λx hx=>nomatch hx),(λx hx=>nomatch hx),?_⟩
 ·obtain rfl:=ao.mp J;exact pinned L
 intro args Nw adj ord Nx;refine cps λV V'=>?_;obtain⟨⟨vs,mN⟩,yz⟩:=Option.isSome_iff_exists.mp (layAllW_isSome (P:=w.params) (ord:=ord) (R:=RR.records) (cl:=classAt s.heap) (λc hc=>nomatch hc) args RR.args s (pre_splitW Nw).1);have keeps:=layAllW_keeps _ _ _ yz;have Cf:=layAllW_rest _ _ _ yz;obtain⟨as,OT,t9,hold⟩:=reads_layAllW Nx _ _ _ yz adj mN.heap (λO O e=>e);have LL:Laid RR.records w s mN args vs as:=⟨⟨ord,Nx,yz⟩,OT,t9,hold,keeps,Cf.1.trans L.gens,Cf.2.2.1⟩;obtain⟨ds,rfl,hi,h63⟩:=UQ Nw;have adk:=OT;cases adk with
 |cons r1 r2=>
 cases r2
 cases r1 with
 | @list a o us n _ as' ho hc hd rr=>
 obtain⟨ns,hI,J⟩:=Ub rr hi;have qf:=ident_freeW hu ha hap;have wg:RR.claim.within=[]:=List.isEmpty_iff.mp k6;have VB:∀ds:List WData,RR.claim.post [.list ds] (.bool true) [.list ds]=true:=λds=>by
  have e:RR.post.value RR.records {args:=[.list ds],res:=some (.bool true),after:=[.list ds]}=some (.bool (true==true)):=w_eq_bool (w_res rfl) w_lit;have e1:iq.has RR.records (.bool true) RR.returns=true:=by kernel_rfl!
  have e2:RR.post.holds RR.records {args:=[.list ds],res:=some (.bool true),after:=[.list ds]}=true:=by
   unfold WTm.holds;rw[e]
   rfl
  exact aV.mpr ⟨e1,e2⟩
 obtain⟨kk,r,s',ph,adl,UR,FP,D9,OU⟩:=P0 (prog:=PW) (w:=w) (s:=mN) (R:=λr s'=>RR.claim.Ends s [.list ds] [.ref a] mN r s'/\s'.os=s.os) (ai.asleep_of_life Cf.2.2.2 hz)
  (Td L keeps (l:=ns) (us:=us.toList) (ace h63 J) ⟨o,ho,hc,n,hd⟩ hI λs' h1 h2=>by
   have g:GoodWG RR.claim (classAt s.heap) (ExcName.means s.heap) [.list ds] mN (.ok (.ret (.bool true))) s':=⟨.inl ⟨_,.bool true,[],rfl,λcls=>rfl,.bool true,VB ds,λO=>⟨.nil,λO h=>nomatch h⟩⟩,.of_keep h1,h2.2.2,.of_eq (h2.1.trans LL.gens)⟩;have z:=g.laid (c:=RR.claim) VA wg qf LL
   exact⟨_,rfl,⟨z.1,z.2.1⟩,leftWithCleanup_false_of_bare z.2.2⟩)
 obtain⟨eh,_,_,eo,_⟩:=ai.forget_eq FP;have D9:=D9.congr eh;rw[<-eo]at OU;have VC:s'.heap.life=s.heap.life:=(runN_life _ _ _ adl).trans Cf.2.2.2;refine V' ⟨[.ref a],mN,yz,kk,_,s',UR,?_,(λO i x hx=>by rw[L.gens]at hx;simp at hx),(λq=>nomatch q),by rw[VC],ai.rest_eq OU⟩;rcases D9 with⟨v,rfl,d1,d2,d3,d4,d5⟩|⟨e,ob,cls,rfl,d1,d2,d3,d4,d5⟩
 ·exact .inl ⟨v,rfl,d1,d2,d3,λb o y O=>d4 b o y,d5⟩
 ·exact .inr ⟨e,ob,cls,rfl,d1,d2,d3,d4,λb o y O=>d5 b o y⟩
theorem row_said:RW.row.wellSaid=true:=by
 delta OpenRow.wellSaid
 repeat' with_reducible refine look_both ?_ ?_
 all_goals kernel_rfl!
theorem adm:RW.wellSaid=true:=by
 delta OpenLaw.wellSaid
 repeat' with_reducible refine look_both ?_ ?_
 exact row_said
 all_goals kernel_rfl!
theorem holds:RW.Holds:=⟨adm,row_said,prom,Te⟩
end Mine.Internal
theorem PySem.Challenge.cw_nm0136_01_holds : PySem.Challenge.rw_nm0136_01.Holds :=
 Mine.Internal.holds
