import PyProof.Rows.All
import Wide.All
import OpenK.AllK
import Wide.FinOn
import PySem.Challenge.RW_np0157_01
set_option Elab.async false
set_option linter.all false
set_option tactic.hygienic false
set_option genInjectivity false
set_option genSizeOf false
set_option bootstrap.genMatcherCode false
set_option maxRecDepth 100000
set_option maxHeartbeats 0
open Nat (beq le_trans ble le_refl eq_of_beq_eq_true le_of_ble_eq_true zero_le le_add_right lt_of_lt_of_le blt_eq not_lt beq_refl le_of_eq lt_of_le_of_lt le_of_not_lt ne_of_lt add_le_add_left not_lt_zero succ_le_succ add_le_add le_succ min_eq_left le_antisymm le_of_lt ble_eq sub_self lt_irrefl add_comm)
open List (length_append mem_append_left length_map all_eq_true append_assoc append_nil mem_singleton mem_cons not_mem_nil getElem?_set_ne getElem?_append_left map_append length getElem?_set_self mem_append getElem?_eq_getElem map_cons mem_map mem_append_right length_cons nodup_cons nil_append length_nil any_eq_true length_eq_zero_iff isEmpty_iff cons_append lookup_cons replicate getElem?_concat_length length_reverse length_set map_nil mem_range flatMap_cons getElem?_append_right getElem?_map length_range nodup_nil length_drop mem_of_getElem? mem_map_of_mem getElem?_take take_sublist length_take any_eq_false mem_filterMap drop_drop map_reverse map_map getElem?_of_mem filterMap_cons zip_nil_right getElem?_drop getElem?_nil nodup_append mem_flatMap forIn_cons foldl isEmpty Mem set_set toArray Sublist)
open Bool (and_eq_true_iff false_eq_true and_eq_true or_eq_true_iff not_eq_true' eq_false_iff or_eq_true not_eq_true)
open Option (map_eq_some_iff isNone_iff_eq_none bind_some bind_eq_some_iff isSome_iff_exists map_some isSome_none isSome_some)
open Int (natCast_nonneg zero_add reduceLT reducePow ofNat_le emod_nonneg emod_lt_of_pos ofNat_lt add_zero not_le)
open Array (getElem?_toList length_toList size_setIfInBounds toList)
open Option.some (inj)
noncomputable section
namespace aD
abbrev af:=@congrArg
abbrev ag:=@if_neg
abbrev ah:=@if_pos
abbrev ai:=@decide_eq_false
abbrev aj:=@decide_eq_true
abbrev ak:=@length_append
abbrev aq:=@append_assoc
abbrev ar:=@length_map
abbrev au:=@eq_of_beq_eq_true
abbrev av:=@le_of_ble_eq_true
abbrev aw:=@getElem?_append_left
abbrev ax:=@append_nil
abbrev ay:=@of_decide_eq_true
abbrev az:=@le_trans
abbrev a9:=@absurd
theorem bf{α:Type}{a:α}{l m:List α}(h:a∈l):a∈l++m:=mem_append_left _ h
theorem bg{α:Type}{a b:α}(h:a∈[b]):a=b:=mem_singleton.mp h
theorem bh{a b:Bool}(h:(a&&b)=true):a=true/\b=true:=and_eq_true_iff.mp h
theorem bj{α:Type}{p:α->Bool}{l:List α}(h:l.all p=true):∀x∈l,p x=true:=all_eq_true.mp h
theorem bo{α:Type}{l:List α}{i:Nat}{a:α}(h:l[i]? =some a):∃h:i<l.length,l[i]=a:=List.getElem?_eq_some_iff.mp h
inductive MV where
 |none|bool (b:Bool)|int (i:Int)|str (s:List Nat)|aF (vs:List MV)|ref (i:Nat)|dg (a:Nat)
inductive MO where
 |list (vs:List MV)
 |dict (es:List (List Nat×MV))
 |aK (c:Nat) (aP:List (Nat×MV))
 |aR (c:Nat) (aP:List (Nat×MV)) (ctx:Bool)
 |jy (vs:List MV)
abbrev MH:=List MO
abbrev Env:=List (Option MV)
abbrev PQ:=MV->MH->Prop
abbrev PE:=Nat->MH->Prop
abbrev Calls:=Nat->List MV->Option Nat->MH->PQ->PE->Prop
noncomputable def line:Nat:=16777216
inductive Op|add|sub|mul|fdiv|fmod
inductive Cm|eq|ne|lt|le|gt|ge|ja|mf|is|kF
inductive B1|len|LX|GG|gH
inductive BM|join|startswith|append|find|split|pop|reverse
inductive Uc|tuple|m5 (c:Nat)
mutual
inductive ME where
 |c (v:MV)
 |l (i:Nat)
 |g (a:Nat)
 |aF (es:List ME)
 |fP (es:List ME)
 |qc (ks:List (List Nat)) (es:List ME)
 |aV (op:Cm) (a b:ME)
 |ju (J9 Ka:Cm) (a b c:ME)
 |and (es:List ME)
 |or (es:List ME)
 |not (e:ME)
 |neg (e:ME)
 |ite (t a b:ME)
 |aZ (op:Op) (a b:ME)
 |cn (o:ME) (n:Nat)
 |bG (o i:ME)
 |slice (o:ME) (lo hi:Option ME)
 |b1 (k:B1) (e:ME)
 |cR (e:ME) (k:Uc)
 |call (f:ME) (args:List ME)
 |cj (o:ME) (n:Nat) (args:List ME)
 |bP (k:BM) (o:ME) (args:List ME)
 |fV (c:Nat) (n:Nat) (args:List ME)
 |dJ (args:List ME)
 |comp (x:Nat) (elt:ME) (it:MI)
 |ia
inductive MI where
 |val (e:ME)
 |range (e:ME)
end
inductive Tg|iM (x:Nat)|eS (xs:List Nat)
inductive MS where
 |expr (e:ME)
 |bL (x:Nat) (e:ME)
 |dE (xs:List Nat) (e:ME)
 |c3 (o:ME) (n:Nat) (e:ME)
 |mq (o i e:ME)
 |mZ (x:Nat) (op:Op) (e:ME)
 |mr (o:ME) (n:Nat) (op:Op) (e:ME)
 |ifs (t:ME) (a b:List MS)
 |while (t:ME) (body:List MS)
 |for (x:Tg) (it:MI) (body:List MS)
 |ret (e:ME)
 |uo
 |cW (e:ME)
 |jl (body:List MS) (x:Option Nat) (h:List MS)
 |qP (body fin:List MS)
 |brk|cont|um|ia
inductive Fl|next|brk|cont|ret (v:MV)
abbrev SQ:=Fl->Env->MH->Prop
abbrev SE:=Nat->Env->MH->Prop
section
variable {β:Type} {r:β} {P:MV->Prop} {v:MV}
noncomputable def lP(v:MV)(f:List Nat->Option β):Option β:=match v with| .str s=>f s|_=>.none
noncomputable def lO(v:MV)(f:Int->Option β):Option β:=match v with| .int s=>f s|_=>.none
noncomputable def N8(v:MV)(f:Nat->Option β):Option β:=match v with| .ref s=>f s|_=>.none
theorem jD{f:List Nat->Option β}(h:lP v f=some r)(k:∀s,f s=some r->P (.str s)):P v:=by cases v with|str s=>exact k s h|_=>injection h
theorem pI{f:Int->Option β}(h:lO v f=some r)(k:∀s,f s=some r->P (.int s)):P v:=by cases v with|int s=>exact k s h|_=>injection h
theorem BA{f:Nat->Option β}(h:N8 v f=some r)(k:∀s,f s=some r->P (.ref s)):P v:=by cases v with|ref s=>exact k s h|_=>injection h
noncomputable def o1{α β:Type}(l:List α)(f:α->Option β):Option β:=match l with| [a]=>f a|_=>.none
theorem WZ{α β:Type}{r:β}{l:List α}{f:α->Option β}{P:List α->Prop}(h:o1 l f=some r)(k:∀a,f a=some r->P [a]):P l:=
 match l,h with
 | [a],h=>k a h
noncomputable def Fx(v:MV)(o:Option β):Option β:=match v with| .none=>o|_=>.none
noncomputable def W0(v:MV)(f:Bool->Option β):Option β:=match v with| .bool b=>f b|_=>.none
noncomputable def W2(v:MV)(f:List MV->Option β):Option β:=match v with| .aF b=>f b|_=>.none
theorem Bz(h:Fx v o=some r)(k:o=some r->P .none):P v:=by cases v with|none=>exact k h|_=>injection h
theorem S1{f:Bool->Option β}(h:W0 v f=some r)(k:∀s,f s=some r->P (.bool s)):P v:=by cases v with|bool s=>exact k s h|_=>injection h
theorem S3{f:List MV->Option β}(h:W2 v f=some r)(k:∀s,f s=some r->P (.aF s)):P v:=by cases v with|aF s=>exact k s h|_=>injection h
def lQ(v:MV)(f:List Nat->Prop):Prop:=match v with| .str s=>f s|_=>False
def iO(v:MV)(f:Int->Prop):Prop:=match v with| .int s=>f s|_=>False
def xn(v:MV)(f:Nat->Prop):Prop:=match v with| .ref s=>f s|_=>False
theorem Kl{f:List Nat->Prop}(h:lQ v f)(k:∀s,f s->P (.str s)):P v:=by cases v with|str s=>exact k s h|_=>exact h.elim
theorem xm{f:Int->Prop}(h:iO v f)(k:∀s,f s->P (.int s)):P v:=by cases v with|int s=>exact k s h|_=>exact h.elim
theorem Ki{f:Nat->Prop}(h:xn v f)(k:∀s,f s->P (.ref s)):P v:=by cases v with|ref s=>exact k s h|_=>exact h.elim
noncomputable def nZ(o:Option MO)(f:List MV->Option β):Option β:=match o with|some (.list vs)=>f vs|_=>.none
theorem sY{f:List MV->Option β}{P:Prop}(h:nZ o f=some r)(k:∀vs,o=some (.list vs)->f vs=some r->P):P:=
 match o,h,k with
 |some (.list vs),h,k=>k vs rfl h
def tq(o:Option MO)(f:List MV->Prop):Prop:=match o with|some (.list vs)=>f vs|_=>False
theorem tu{f:List MV->Prop}{P:Prop}(h:tq o f)(k:∀vs,o=some (.list vs)->f vs->P):P:=
 match o,h,k with
 |some (.list vs),h,k=>k vs rfl h
def FH(o:Option MO)(f:List (List Nat×MV)->Prop):Prop:=match o with|some (.dict vs)=>f vs|_=>False
theorem Kg{f:List (List Nat×MV)->Prop}{P:Prop}(h:FH o f)(k:∀vs,o=some (.dict vs)->f vs->P):P:=
 match o,h,k with
 |some (.dict vs),h,k=>k vs rfl h
def FI(o:Option MO)(f:Nat->List (Nat×MV)->Bool->Prop):Prop:=match o with|some (.aR c a x)=>f c a x|_=>False
theorem Kh{f:Nat->List (Nat×MV)->Bool->Prop}{P:Prop}(h:FI o f)(k:∀c a x,o=some (.aR c a x)->f c a x->P):P:=
 match o,h,k with
 |some (.aR c a x),h,k=>k c a x rfl h
def Ow{α:Type}(o:Option α)(f:α->Prop):Prop:=match o with|some a=>f a| .none=>False
theorem DR{α:Type}{o:Option α}{f:α->Prop}{P:Prop}(h:Ow o f)(k:∀a,o=some a->f a->P):P:=by
 cases o with
 |none=>exact h.elim
 |some a=>exact k a rfl h
def p1{α:Type}(l:List α)(f:α->Prop):Prop:=match l with| [a]=>f a|_=>False
theorem To{α:Type}{l:List α}{f:α->Prop}{P:List α->Prop}(h:p1 l f)(k:∀a,f a->P [a]):P l:=
 match l,h with
 | [a],h=>k a h
def pC{α:Type}(l:List α)(f:α->List α->Prop):Prop:=match l with|a::r=>f a r| []=>False
theorem aaK{α:Type}{l:List α}{f:α->List α->Prop}{P:List α->Prop}(h:pC l f)(k:∀a r,f a r->P (a::r)):P l:=
 match l,h with
 |a::r,h=>k a r h
def p0{α:Type}(l:List α)(q:Prop):Prop:=match l with| []=>q|_::_=>False
theorem BI{f:List MV->Prop}(e:o=some (.list vs))(k:f vs):tq o f:=by subst e;exact k
theorem Tp{f:List (List Nat×MV)->Prop}(e:o=some (.dict vs))(k:f vs):FH o f:=by subst e;exact k
theorem BH{f:Nat->List (Nat×MV)->Bool->Prop}{c a x}(e:o=some (.aR c a x))(k:f c a x):FI o f:=by subst e;exact k
theorem Kj{α:Type}{o:Option α}{f:α->Prop}{a:α}(e:o=some a)(k:f a):Ow o f:=by subst e;exact k
theorem aaJ{α:Type}{l:List α}{q:Prop}{P:List α->Prop}(h:p0 l q)(k:q->P []):P l:=
 match l,h with
 | [],h=>k h
end
noncomputable def dp:Env->Nat->Option MV
 | [],_=>.none
 |v::_,0=>v
 |_::r,n+1=>dp r n
noncomputable def bN:Env->Nat->Option MV->Env
 | [],_,_=>[]
 |_::r,0,v=>v::r
 |x::r,n+1,v=>x::bN r n v
def fy:Env->List Nat->List MV->Env
 |aA,x::xs,v::vs=>fy (bN aA x (some v)) xs vs
 |aA,_,_=>aA
noncomputable def bW:List (Nat×MV)->Nat->Option MV
 | [],_=>.none
 |(k,v)::r,n=>if k=n then some v else bW r n
noncomputable def jj:List (Nat×MV)->Nat->MV->List (Nat×MV)
 | [],n,v=>[(n,v)]
 |(k,w)::r,n,v=>if k=n then(k,v)::r else(k,w)::jj r n v
noncomputable def getD:List (List Nat×MV)->List Nat->Option MV
 | [],_=>.none
 |(k,v)::r,n=>if k=n then some v else getD r n
noncomputable def jL:List (List Nat×MV)->List Nat->MV->List (List Nat×MV)
 | [],n,v=>[(n,v)]
 |(k,w)::r,n,v=>if k=n then(k,v)::r else(k,w)::jL r n v
mutual
noncomputable def qv:MV->Bool
 | .ref _=>false
 | .aF vs=>Bx vs
 |_=>true
noncomputable def Bx:List MV->Bool
 | []=>true
 |v::r=>qv v&&Bx r
end
mutual
noncomputable def VF:MV->Nat
 | .aF vs=>t7 vs+1
 |_=>0
noncomputable def t7:List MV->Nat
 | []=>0
 |v::r=>max (VF v) (t7 r)
end
mutual
noncomputable def UE:MV->Bool
 | .ref _=>false
 | .dg _=>false
 | .aF vs=>mR vs
 |_=>true
noncomputable def mR:List MV->Bool
 | []=>true
 |v::r=>UE v&&mR r
end
noncomputable def Zz(f:MV->Option Bool)(g:List MV->Option Bool):List MV->Option Bool
 | []=>some false
 |b::q=>(f b).bind λx=>(g q).map λy=>x&&y
mutual
def AZ:MV->MV->Option Bool
 | .none=>λb=>Fx b (some true)
 | .bool a=>λb=>W0 b λb=>some (a==b)
 | .int a=>λb=>lO b λb=>some (decide (a=b))
 | .str a=>λb=>lP b λb=>some (decide (a=b))
 | .aF a=>λb=>W2 b λb=>if t7 a<=50/\mR a=true/\mR b=true then ES a b else .none
 |_=>λu_=>.none
def ES:List MV->List MV->Option Bool
 | []=>λb=>some b.isEmpty
 |a::r=>Zz (AZ a) (ES r)
end
def RG(a b:List MV):Option Bool:=if t7 a<=50/\mR a=true/\mR b=true then ES a b else .none
def jw(H:MH)(x y:MV):Option Bool:=match x with
 | .ref i=>N8 y λj=>nZ H[i]? λa=>nZ H[j]? λb=>RG a b
 |x=>AZ x y
def kc(x:List Nat):List MV->Option Bool
 | []=>some false
 |v::r=>lP v λv=>(kc x r).map λb=>decide (v=x)||b
def Q8(x:Int):List MV->Option Bool
 | []=>some false
 |v::r=>lO v λv=>(Q8 x r).map λb=>decide (v=x)||b
def lT(x:MV)(vs:List MV):Option Bool:=match x with
 | .str s=>kc s vs
 | .int i=>Q8 i vs
 |_=>.none
def Sp(x:MV):MO->Option Bool
 | .list vs=>lT x vs
 | .dict es=>lP x λk=>some (getD es k).isSome
 |_=>.none
def nO(H:MH)(x y:MV):Option Bool:=match y with
 | .aF vs=>lT x vs
 | .str s=>lP x λt=>o1 t λc=>some (s.contains c)
 | .ref i=>(H[i]?).bind (Sp x)
 |_=>.none
def oP(f:Int->Int->Bool)(x y:MV):Option Bool:=lO x λa=>lO y λb=>some (f a b)
noncomputable def Je:MV->Bool
 | .none=>true
 |_=>false
def dc(op:Cm)(H:MH)(x y:MV):Option Bool:=match op with
 | .eq=>jw H x y
 | .ne=>(jw H x y).map (!·)
 | .lt=>oP (λa b=>decide (a<b)) x y
 | .le=>oP (λa b=>decide (a<=b)) x y
 | .gt=>oP (λa b=>decide (a>b)) x y
 | .ge=>oP (λa b=>decide (a>=b)) x y
 | .ja=>nO H x y
 | .mf=>(nO H x y).map (!·)
 | .is=>Fx y (some (Je x))
 | .kF=>Fx y (some (!Je x))
def gD(H:MH):MV->Option Bool
 | .bool b=>some b
 | .ref i=>nZ H[i]? λvs=>some (!vs.isEmpty)
 |_=>.none
noncomputable def dZ(n:Nat)(i:Int):Option Nat:=
 let j:=if i<0 then i+n else i
 if 0<=j&&j<n then some j.toNat else .none
theorem lE{n:Nat}{i:Int}(h0:0<=i)(h1:i<n):dZ n i=some i.toNat:=by
 unfold dZ;simp only[Int.not_lt.mpr h0,if_false,h0,h1,decide_true,Bool.and_self,if_true]
theorem vC{n:Nat}{i:Int}(h0:i<0)(h1:0<=i+n):dZ n i=some (i+n).toNat:=by
 unfold dZ;simp only[h0,if_true,h1,show i+(n:Int)<n by lia,decide_true,Bool.and_self]
theorem vB(h:dZ n i=some j):j<n/\(i=j\/(i<0/\i+n=j)):=by
 have e:∀q:Int,(if 0<=q&&q<n then some q.toNat else .none)=some j->q=j/\j<n:=λq h=>by
  by_cases c:(0<=q&&q<n)=true
  ·rw[ah c]at h;have c:=bh c;have h:=inj h;exact h▸⟨(Int.toNat_of_nonneg (ay c.1)).symm,(Int.toNat_lt (ay c.1)).mpr (ay c.2)⟩
  ·rw[ag c]at h;injection h
 have z:=e _ h;by_cases q:i<0
 ·rw[ah q]at z;exact⟨z.2,.inr ⟨q,z.1⟩⟩
 ·rw[ag q]at z;exact⟨z.2,.inl z.1⟩
def Bj(i:MV):MO->Option MV
 | .list vs=>lO i λk=>(dZ vs.length k).bind λj=>vs[j]?
 | .jy vs=>lO i λk=>(dZ vs.length k).bind λj=>vs[j]?
 | .dict es=>lP i λk=>getD es k
 |_=>.none
def cL(H:MH)(o i:MV):Option MV:=match o with
 | .str s=>lO i λk=>(dZ s.length k).bind λj=>(s[j]?).map λc=>.str [c]
 | .aF vs=>lO i λk=>(dZ vs.length k).bind λj=>vs[j]?
 | .ref r=>(H[r]?).bind (Bj i)
 |_=>.none
noncomputable def Cu(n:Nat)(i:Int):Nat:=(max 0 (min (if i<0 then i+n else i) (n:Int))).toNat
theorem mn(h:0<=i):Cu n i=min i.toNat n:=by
 have e:∀m:Nat,(max 0 (m:Int)).toNat=m:=λm=>by rw[Int.max_eq_right (natCast_nonneg m)];rfl
 obtain⟨k,rfl⟩:=Int.eq_ofNat_of_zero_le h;unfold Cu;rw[ag (Int.not_lt.mpr h)];show(max 0 (min (k:Int) n)).toNat=min k n;by_cases q:k<=n
 ·simp only[Int.min_eq_left (ofNat_le.mpr q),min_eq_left q,e]
 ·simp only[Int.min_eq_right (ofNat_le.mpr (Nat.le_of_not_le q)),Nat.min_eq_right (Nat.le_of_not_le q),e]
theorem Q3(n:Nat)(i:Int):Cu n i<=n:=Int.toNat_le.mpr (Int.max_le.mpr ⟨natCast_nonneg n,Int.min_le_right _ _⟩)
def Uz(n:Nat):Option Int->Nat
 |some i=>Cu n i
 | .none=>0
def Us(n:Nat):Option Int->Nat
 |some i=>Cu n i
 | .none=>n
def cG{α:Type}(l:List α)(lo hi:Option Int):List α:=(l.drop (Uz l.length lo)).take (Us l.length hi-Uz l.length lo)
noncomputable def Kc:Option MV->Option (Option Int)
 | .none=>some .none
 |some (.int i)=>some (some i)
 |_=>.none
def Tz(H:MH)(o:MV)(a b:Option Int)(Q:PQ):Prop:=match o with
 | .str s=>Q (.str (cG s a b)) H
 | .aF vs=>a= .none/\b=some (-1)/\vs≠[]/\Q (.aF vs.dropLast) H
 | .ref r=>tq H[r]? λvs=>Q (.ref H.length) (H++ [.list (cG vs a b)])
 |_=>False
def cX(H:MH)(o:MV)(lo hi:Option MV)(Q:PQ):Prop:=Ow (Kc lo) λa=>Ow (Kc hi) λb=>Tz H o a b Q
def Y5(H:MH)(x y:MV)(Q:PQ):Prop:=match x with
 | .int a=>iO y λb=>Q (.int (a+b)) H
 | .str a=>lQ y λb=>a.length+b.length<=line/\Q (.str (a++b)) H
 | .ref i=>xn y λj=>tq H[i]? λa=>tq H[j]? λb=>a.length+b.length<=line/\Q (.ref H.length) (H++ [.list (a++b)])
 |_=>False
def mv(op:Op)(H:MH)(x y:MV)(Q:PQ):Prop:=match op with
 | .add=>Y5 H x y Q
 | .sub=>iO x λa=>iO y λb=>Q (.int (a-b)) H
 | .mul=>iO x λa=>iO y λb=>(a.natAbs<2^32/\b.natAbs<2^32)/\Q (.int (a*b)) H
 | .fdiv=>iO x λa=>iO y λb=>(0<b/\b<2^16)/\Q (.int (a/b)) H
 | .fmod=>iO x λa=>iO y λb=>(0<b/\b<2^16)/\Q (.int (a%b)) H
def Mj(H:MH)(x y:MV)(Q:PQ):Prop:=match x with
 | .int a=>iO y λb=>Q (.int (a+b)) H
 | .str a=>lQ y λb=>a.length+b.length<=line/\Q (.str (a++b)) H
 |_=>False
def qD(op:Op)(H:MH)(x y:MV)(Q:PQ):Prop:=match op with
 | .add=>Mj H x y Q
 | .sub=>iO x λa=>iO y λb=>Q (.int (a-b)) H
 |_=>False
noncomputable def SI:MO->Option MV
 | .list vs=>some (.int vs.length)
 | .jy vs=>some (.int vs.length)
 |_=>.none
def aaw(H:MH):MV->Option MV
 | .str s=>some (.int s.length)
 | .aF vs=>some (.int vs.length)
 | .ref r=>(H[r]?).bind SI
 |_=>.none
noncomputable def Rw(n:Nat):Bool->Option MV
 |true=>some (.str [n])
 |false=>.none
def Zl:Int->Option MV
 | .ofNat n=>Rw n (Nat.blt n 1114112)
 | .negSucc _=>.none
def m9(k:B1)(H:MH)(v:MV):Option MV:=match k with
 | .len=>aaw H v
 | .LX=>lP v λs=>o1 s λc=>some (.int c)
 | .GG=>lO v Zl
 | .gH=>N8 v λr=>nZ H[r]? λvs=>some (.aF vs)
noncomputable def Sy:MV->Option Bool
 | .aF _=>some true
 | .dg a=>if a=700 then some false else .none
 |_=>.none
def qK(k:Uc)(v:MV):Option Bool:=match k with
 | .tuple=>Sy v
 | .m5 _=>lP v λu_=>some false
def B8:List MV->Option (List (List Nat))
 | []=>some []
 |v::r=>lP v λs=>(B8 r).map (s:: ·)
noncomputable def fK(sep:List Nat):List (List Nat)->List Nat
 | []=>[]
 | [x]=>x
 |x::r=>x++sep++fK sep r
noncomputable def yU:MO->Option (List MV)
 | .list vs=>some vs
 | .dict es=>some (es.map λe=>.str e.1)
 |_=>.none
def nS(H:MH):MV->Option (List MV)
 | .aF vs=>some vs
 | .ref r=>(H[r]?).bind yU
 |_=>.none
def D3(H:MH):MV->Option (List MV)
 | .aF vs=>some vs
 | .ref r=>nZ H[r]? some
 |_=>.none
noncomputable def i5(c:Nat):List Nat->Nat->Int
 | [],_=> -1
 |x::r,k=>if x=c then(k:Int)else i5 c r (k+1)
noncomputable def isStr:MV->Bool
 | .str _=>true
 |_=>false
noncomputable def u2:Option MO->Bool
 |some (.list _)=>true
 |_=>false
noncomputable def PY:Option MO->Bool
 |some (.dict _)=>true
 |_=>false
noncomputable def OE(o:MV)(f:Nat->Bool):Bool:=match o with| .ref r=>f r|_=>false
def oK(k:BM)(H:MH)(o:MV):Bool:=match k with
 | .append=>OE o λr=>u2 H[r]?
 | .reverse=>OE o λr=>u2 H[r]?
 | .pop=>OE o λr=>PY H[r]?
 |_=>isStr o
def ZG(H:MH)(s:List Nat)(c:Nat)(Q:PQ):List MV->Prop
 | []=>Q (.int (i5 c s 0)) H
 | [b]=>iO b λb=>(0<=b)/\Q (.int (i5 c (s.drop b.toNat) b.toNat)) H
 |_=>False
def iW(k:BM)(H:MH)(o:MV)(args:List MV)(Q:PQ):Prop:=match k with
 | .join=>lQ o λsep=>p1 args λa=>Ow ((D3 H a).bind B8) λl=>(l.map length).sum+l.length*sep.length<=line/\Q (.str (fK sep l)) H
 | .startswith=>lQ o λs=>p1 args λa=>lQ a λp=>Q (.bool (p.isPrefixOf s)) H
 | .append=>xn o λr=>p1 args λv=>tq H[r]? λvs=>vs.length<line/\Q .none (H.set r (.list (vs++ [v])))
 | .find=>lQ o λs=>pC args λa r=>lQ a λt=>p1 t λc=>ZG H s c Q r
 | .split=>lQ o λs=>p1 args λa=>lQ a λt=>p1 t λu_=>s.length+2<=line/\∀l:List (List Nat),l≠[]->l.length<=line->Q (.ref H.length) (H++ [.list (l.map .str)])
 | .pop=>xn o λr=>pC args λa q=>lQ a λn=>p1 q λd=>FH H[r]? λes=>getD es n= .none/\Q d H
 | .reverse=>xn o λr=>p0 args (tq H[r]? λvs=>Q .none (H.set r (.list vs.reverse)))
noncomputable def me(c:Nat):Bool:=c==381||c==664
noncomputable def xO(n:Nat):Bool:=n==2||decide (10<=n/\n<=14)||decide (18<=n/\n<=26)||decide (30<=n/\n<=32)
noncomputable def Hr(n:Nat):Bool:=decide (1<=n/\n<=9)
def x6(n:Nat):MO->Option MV
 | .aK _ aP=>if xO n=true then bW aP n else .none
 | .aR _ aP _=>if Hr n=true then bW aP n else .none
 |_=>.none
def cQ(H:MH)(o:MV)(n:Nat):Option MV:=N8 o λr=>(H[r]?).bind (x6 n)
def Tx(H:MH)(r n:Nat)(v:MV)(Q:MH->Prop):MO->Prop
 | .aK c aP=>xO n=true/\Q (H.set r (.aK c (jj aP n v)))
 | .aR c aP x=>Hr n=true/\Q (H.set r (.aR c (jj aP n v) x))
 |_=>False
def eG(H:MH)(o:MV)(n:Nat)(v:MV)(Q:MH->Prop):Prop:=xn o λr=>Ow H[r]? (Tx H r n v Q)
def jX(H:MH)(o i v:MV)(Q:MH->Prop):Prop:=xn o λr=>lQ i λk=>FH H[r]? λes=>es.length<line/\Q (H.set r (.dict (jL es k v)))
def BO(H:MH)(i c:Nat)(aP:List (Nat×MV))(K:Nat->MH->Prop):Option Nat->Prop
 | .none=>K i H
 |some h=>if h=i then K i H else FI H[h]? λu_ u_ y=>y=false/\K i (H.set i (.aR c aP true))
def mT(hd:Option Nat)(H:MH)(v:MV)(K:Nat->MH->Prop):Prop:=xn v λi=>FI H[i]? λc aP u_=>BO H i c aP K hd
def eK(x:MV)(H0 H2:MH):Prop:=match x with
 | .ref r=>H2[r]? =H0[r]?
 |_=>True
def uh(hd:Option Nat)(H:MH):Prop:=match hd with
 | .none=>True
 |some h=>(match H[h]? with
  |some (.aR _ _ false)=>True
  |_=>False)
def gG(B:MV->MH->PQ->Prop)(eZ:MH->Prop)(d:Nat):List MV->List MV->MH->PQ->Prop
 | [],acc,H,Q=>eZ H/\H[d]? =some (.list acc)/\Q (.ref d) H
 |v::vs,acc,H,Q=>eZ H/\B v H λr H1=>H1[d]? =some (.list acc)/\acc.length<line/\gG B eZ d vs (acc++ [r]) (H1.set d (.list (acc++ [r]))) Q
def fC(B:MV->Env->MH->SQ->SE->Prop)(eZ:MH->Prop):List MV->Env->MH->SQ->SE->Prop
 | [],aA,H,Q,_=>eZ H/\Q .next aA H
 |v::vs,aA,H,Q,E=>eZ H/\B v aA H (λfl aG H1=>match fl with
  | .next=>fC B eZ vs aG H1 Q E
  | .cont=>fC B eZ vs aG H1 Q E
  | .brk=>Q .next aG H1
  | .ret w=>Q (.ret w) aG H1) E
def xM(T:Env->MH->(Bool->MH->Prop)->PE->Prop)(B:Env->MH->SQ->SE->Prop)(Q:SQ)(E:SE)(aA:Env)(H:MH):Prop:=
 ∀I:Env->MH->Prop,
  (∀aA H,T aA H (λb H1=>if b=true then B aA H1 (λfl aI H2=>match fl with
    | .next=>I aI H2
    | .cont=>I aI H2
    | .brk=>Q .next aI H2
    | .ret w=>Q (.ret w) aI H2) E else Q .next aA H1) (λe H1=>E e aA H1)->I aA H)->I aA H
structure bF where
 val:Env->MH->PQ->PE->Prop
 eM:Env->MH->(Bool->MH->Prop)->PE->Prop
noncomputable def bF.of(v:Env->MH->PQ->PE->Prop):bF:=
 ⟨v,λaA H Q E=>v aA H (λx H1=>match gD H1 x with|some b=>Q b H1| .none=>False) E⟩
noncomputable def bF.eB(v:Env->MH->(Bool->MH->Prop)->PE->Prop):bF:=
 ⟨λaA H Q E=>v aA H (λb H1=>Q (.bool b) H1) E,v⟩
def bF.Mz:Env->MH->PQ->PE->Prop:=λu_ u_ u_ u_=>False
structure Eg where
 D1:Env->MH->(List MV->(MH->Prop)->MH->Prop)->PE->Prop
structure Cls where
 cj:Nat->Nat->Option Nat
section
variable (M:Nat->Nat->Option Nat) (C:Calls) (hd:Option Nat)
mutual
def den:ME->bF
 | .c v=>.of λu_ H Q u_=>Q v H
 | .l i=>.of λaA H Q u_=>match dp aA i with|some v=>Q v H| .none=>False
 | .g a=>.of λu_ H Q u_=>Q (.dg a) H
 | .aF es=>.of λaA H Q E=>cJ es aA H (λvs H1=>Q (.aF vs) H1) E
 | .fP es=>.of λaA H Q E=>cJ es aA H (λvs H1=>Q (.ref H1.length) (H1++ [.list vs])) E
 | .qc ks es=>.of λaA H Q E=>cJ es aA (H++ [.dict []]) (λvs H1=>H1[H.length]? =some (.dict [])/\Q (.ref H.length) (H1.set H.length (.dict (ks.zip vs)))) E
 | .aV op a b=>.eB λaA H Q E=>(den a).val aA H (λx H1=>(den b).val aA H1 (λy H2=>match dc op H2 x y with|some r=>Q r H2| .none=>False) E) E
 | .ju J9 Ka a b c=>.eB λaA H Q E=>(den a).val aA H (λx H1=>(den b).val aA H1 (λy H2=>match dc J9 H2 x y with
   |some r=>if r=true then(den c).val aA H2 (λz H3=>match dc Ka H3 y z with|some r=>Q r H3| .none=>False) E else Q false H2
   | .none=>False) E) E
 | .and es=>⟨bF.Mz,iJ es⟩
 | .or es=>⟨bF.Mz,lX es⟩
 | .not e=>⟨bF.Mz,λaA H Q E=>(den e).eM aA H (λb H1=>Q (!b) H1) E⟩
 | .neg e=>.of λaA H Q E=>(den e).val aA H (λx H1=>match x with| .int i=>Q (.int (-i)) H1|_=>False) E
 | .ite t a b=>.of λaA H Q E=>(den t).eM aA H (λc H1=>if c=true then(den a).val aA H1 Q E else(den b).val aA H1 Q E) E
 | .aZ op a b=>.of λaA H Q E=>(den a).val aA H (λx H1=>(den b).val aA H1 (λy H2=>mv op H2 x y Q) E) E
 | .cn o n=>.of λaA H Q E=>(den o).val aA H (λx H1=>match cQ H1 x n with|some v=>Q v H1| .none=>False) E
 | .bG o i=>.of λaA H Q E=>(den o).val aA H (λx H1=>(den i).val aA H1 (λy H2=>match cL H2 x y with|some v=>Q v H2| .none=>False) E) E
 | .slice o lo hi=>.of λaA H Q E=>(den o).val aA H (λx H1=>qF lo aA H1 (λa H2=>qF hi aA H2 (λb H3=>cX H3 x a b Q) E) E) E
 | .b1 k e=>.of λaA H Q E=>(den e).val aA H (λx H1=>match m9 k H1 x with|some v=>Q v H1| .none=>False) E
 | .cR e k=>.of λaA H Q E=>(den e).val aA H (λx H1=>match qK k x with|some b=>Q (.bool b) H1| .none=>False) E
 | .call f args=>.of λaA H Q E=>(den f).val aA H (λfv H1=>cJ args aA H1 (λvs H2=>match fv with
   | .dg a=>C a vs hd H2 Q E
   |_=>False) E) E
 | .cj o n args=>.of λaA H Q E=>(den o).val aA H (λov H1=>match ov with
   | .ref r=>(match H1[r]? with
    |some (.aK c aP)=>(match bW aP n,M c n with
     | .none,some f=>cJ args aA H1 (λvs H2=>C f (.ref r::vs) hd H2 Q E) E
     |_,_=>False)
    |_=>False)
   |_=>False) E
 | .bP k o args=>.of λaA H Q E=>(den o).val aA H (λov H1=>oK k H1 ov=true/\cJ args aA H1 (λvs H2=>iW k H2 ov vs Q) E) E
 | .fV c n args=>.of λaA H Q E=>match M c n with
   |some f=>cJ args aA H (λvs H2=>C f vs hd H2 Q E) E
   | .none=>False
 | .dJ args=>.of λaA H Q E=>cJ args aA H (λvs H1=>match vs with
   | [.ref r,_]=>(match H1[r]? with
    |some (.aR _ _ _)=>Q .none H1
    |_=>False)
   |_=>False) E
 | .comp x elt it=>.of λaA H Q E=>hd= .none/\(ky it).D1 aA H (λvs eZ H1=>gG (λv H2 Q2=>(den elt).val (bN aA x (some v)) H2 Q2 E) eZ H1.length vs [] (H1++ [.list []]) Q) E
 | .ia=>.of bF.Mz
def ky:MI->Eg
 | .val e=>⟨λaA H Q E=>(den e).val aA H (λx H1=>match nS H1 x with
   |some vs=>Q vs (eK x H1) H1
   | .none=>False) E⟩
 | .range e=>⟨λaA H Q E=>(den e).val aA H (λx H1=>match x with
   | .int n=>(0<=n/\n<line)/\Q ((List.range n.toNat).map λi=>.int (i:Nat)) (λu_=>True) H1
   |_=>False) E⟩
def qF:Option ME->Env->MH->(Option MV->MH->Prop)->PE->Prop
 | .none=>λu_ H Q u_=>Q .none H
 |some e=>λaA H Q E=>(den e).val aA H (λv H1=>Q (some v) H1) E
def cJ:List ME->Env->MH->(List MV->MH->Prop)->PE->Prop
 | []=>λu_ H Q u_=>Q [] H
 |e::r=>λaA H Q E=>(den e).val aA H (λv H1=>cJ r aA H1 (λvs H2=>Q (v::vs) H2) E) E
def iJ:List ME->Env->MH->(Bool->MH->Prop)->PE->Prop
 | []=>λu_ H Q u_=>Q true H
 |e::r=>λaA H Q E=>(den e).eM aA H (λb H1=>if b=true then iJ r aA H1 Q E else Q false H1) E
def lX:List ME->Env->MH->(Bool->MH->Prop)->PE->Prop
 | []=>λu_ H Q u_=>Q false H
 |e::r=>λaA H Q E=>(den e).eM aA H (λb H1=>if b=true then Q true H1 else lX r aA H1 Q E) E
end
def bJ(x:Tg)(v:MV)(aA:Env)(K:Env->Prop):Prop:=match x with
 | .iM i=>K (bN aA i (some v))
 | .eS xs=>(match v with
  | .aF vs=>vs.length=xs.length/\K (fy aA xs vs)
  |_=>False)
end
section
variable (M:Nat->Nat->Option Nat) (C:Calls)
mutual
def ws(hd:Option Nat):MS->Env->MH->SQ->SE->Prop
 | .expr e=>λaA H Q E=>(den M C hd e).val aA H (λu_ H1=>Q .next aA H1) (λx H1=>E x aA H1)
 | .bL x e=>λaA H Q E=>(den M C hd e).val aA H (λv H1=>Q .next (bN aA x (some v)) H1) (λx H1=>E x aA H1)
 | .dE xs e=>λaA H Q E=>(den M C hd e).val aA H (λv H1=>uh hd H1/\bJ (.eS xs) v aA λaG=>Q .next aG H1) (λx H1=>E x aA H1)
 | .c3 o n e=>λaA H Q E=>(den M C hd e).val aA H (λv H1=>(den M C hd o).val aA H1 (λov H2=>eG H2 ov n v λH3=>Q .next aA H3) (λx H2=>E x aA H2)) (λx H1=>E x aA H1)
 | .mq o i e=>λaA H Q E=>(den M C hd e).val aA H (λv H1=>(den M C hd o).val aA H1 (λov H2=>(den M C hd i).val aA H2 (λiv H3=>jX H3 ov iv v λH4=>Q .next aA H4)
   (λx H3=>E x aA H3)) (λx H2=>E x aA H2)) (λx H1=>E x aA H1)
 | .mZ x op e=>λaA H Q E=>match dp aA x with
   |some a=>(den M C hd e).val aA H (λb H1=>qD op H1 a b λr H2=>Q .next (bN aA x (some r)) H2) (λx H1=>E x aA H1)
   | .none=>False
 | .mr o n op e=>λaA H Q E=>(den M C hd o).val aA H (λov H1=>match cQ H1 ov n with
   |some a=>(den M C hd e).val aA H1 (λb H2=>qD op H2 a b λr H3=>eG H3 ov n r λH4=>Q .next aA H4) (λx H2=>E x aA H2)
   | .none=>False) (λx H1=>E x aA H1)
 | .ifs t a b=>λaA H Q E=>(den M C hd t).eM aA H (λc H1=>if c=true then cv hd a aA H1 Q E else cv hd b aA H1 Q E) (λx H1=>E x aA H1)
 | .while t body=>λaA H Q E=>xM (den M C hd t).eM (cv hd body) Q E aA H
 | .for x it body=>λaA H Q E=>hd= .none/\(ky M C hd it).D1 aA H (λvs eZ H1=>fC (λv aG H2 Q2 E2=>bJ x v aG λaI=>cv hd body aI H2 Q2 E2) eZ vs aA H1 Q E) (λx H1=>E x aA H1)
 | .ret e=>λaA H Q E=>(den M C hd e).val aA H (λv H1=>Q (.ret v) aA H1) (λx H1=>E x aA H1)
 | .uo=>λaA H Q u_=>Q (.ret .none) aA H
 | .cW e=>λaA H u_ E=>(den M C hd e).val aA H (λv H1=>mT hd H1 v λi H2=>E i aA H2) (λx H1=>E x aA H1)
 | .jl body x h=>λaA H Q E=>cv hd body aA H Q λe aG H1=>match x with
   | .none=>cv (some e) h aG H1 Q E
   |some x=>cv (some e) h (bN aG x (some (.ref e))) H1 (λfl aI H2=>Q fl (bN aI x .none) H2) (λe2 aI H2=>E e2 (bN aI x .none) H2)
 | .qP body fin=>λaA H Q E=>cv hd body aA H
   (λfl aG H1=>cv hd fin aG H1 (λf2 aI H2=>match f2 with| .next=>Q fl aI H2|_=>False) E)
   (λe aG H1=>cv (some e) fin aG H1 (λf2 aI H2=>match f2 with| .next=>E e aI H2|_=>False) E)
 | .brk=>λaA H Q u_=>Q .brk aA H
 | .cont=>λaA H Q u_=>Q .cont aA H
 | .um=>λaA H Q u_=>Q .next aA H
 | .ia=>λu_ u_ u_ u_=>False
def cv(hd:Option Nat):List MS->Env->MH->SQ->SE->Prop
 | []=>λaA H Q u_=>Q .next aA H
 |st::r=>λaA H Q E=>ws hd st aA H (λfl aG H1=>match fl with
   | .next=>cv hd r aG H1 Q E
   |f=>Q f aG H1) E
end
end
inductive FT where
 |fn (np:Nat) (eN:List MV) (nl:Nat) (body:List MS)
 |cls (init:Option Nat)
 |aR (init:Nat)
noncomputable def rS(np:Nat)(eN:List MV)(nl:Nat)(args:List MV):Option Env:=
 if args.length<=np/\np<=args.length+eN.length then
  some ((args++eN.drop (args.length+eN.length-np)).map some++replicate (nl-np) .none)
 else .none
def xr(aP:List (Nat×MV))(n:Nat):Option (Nat×MV):=match bW aP n with
 |some v=>if qv v=true then some (n,v)else .none
 | .none=>.none
def DY(aP:List (Nat×MV)):List (Nat×MV):=(List.range 10).filterMap (xr aP)
def lS(H:MH)(Q:PQ)(v:MV)(H1:MH):Prop:=Q v H1\/(qv v=true/\(∃G,H1=H++G)/\Q v H)
def j5(H:MH)(E:PE)(e:Nat)(H1:MH):Prop:=
 E e H1\/((∃G,H1=H++G)/\H.length<=e/\∃c aP x,H1[e]? =some (.aR c aP x)/\E H.length (H++ [.aR c (DY aP) x]))
def aE(M:Nat->Nat->Option Nat)(P:Nat->Option FT):Nat->Calls
 |0=>λu_ u_ u_ u_ u_ u_=>False
 |n+1=>λf args hd H Q E=>match P f with
  |some (.fn np eN nl body)=>(match rS np eN nl args with
   |some aA=>cv M (aE M P n) hd body aA H (λfl u_ H1=>match fl with
     | .ret v=>lS H Q v H1
     | .next=>lS H Q .none H1
     |_=>False) (λe u_ H1=>j5 H E e H1)
   | .none=>False)
  |some (.cls .none)=>args= []/\Q (.ref H.length) (H++ [.aK f []])
  |some (.cls (some fi))=>aE M P n fi (.ref H.length::args) hd (H++ [.aK f []]) (λv H1=>v= .none/\Q (.ref H.length) H1) E
  |some (.aR fi)=>args.length<=16/\aE M P n fi (.ref H.length::args) hd (H++ [.aR f [] false]) (λv H1=>v= .none/\Q (.ref H.length) H1) E
  | .none=>False
theorem gR{α:Type}{l:List α}{p q:α}{i:Nat}(e:(l++ [p])[i]? =some q):l[i]? =some q\/(i=l.length/\q=p):=by
 by_cases hi:i<l.length
 ·exact .inl ((aw hi).symm.trans e)
 ·have hl:=(bo e).1;simp only[ak]at hl;have h:i=l.length:=le_antisymm (Nat.le_of_lt_succ hl) (not_lt.mp hi);subst h;exact .inr ⟨rfl,inj (e.symm.trans getElem?_concat_length)⟩
noncomputable def RZ:List (List Nat×Nat):=[([95,119,97,108,108],21),([101,114,114,111,114],139),([119,114,111,110,103,95,97,114,103,115],146),([108,105,115,116,105,110,103],153),([112,105,99,107],160),([99,117,116],167),([110,111,116,101],174),([110,111,116,101,95,114,111,119],181),([101,110,100,95,114,101,116,117,114,110],188),([101,110,100,95,112,114,111,99],195),([105,115,95,98,108,97,110,107],202),([100,105,103,105,116],209),([104,101,120,95,115,105,103,110],216),([111,99,116,97,108,95,115,105,103,110],223),([98,97,99,107,115,108,97,115,104],230),([105,115,95,103,97,112],237),([115,107,105,112,95,103,97,112,115],244),([99,111,109,109,101,110,116,95,98,101,104,105,110,100],251),([115,107,105,112,95,116,111,95,99,111,109,109,97,110,100],258),([114,101,97,100,95,110,97,109,101],265),([118,97,114,105,97,98,108,101],272),([98,114,97,99,107,101,116,115],279),([98,114,97,99,101,115],286),([112,97,114,116,115,95,117,110,116,105,108],293),([98,97,114,101,95,115,116,111,112,115],300),([105,115,95,101,120,112,97,110,100,101,100],307),([119,111,114,100],314),([99,111,109,109,97,110,100,95,97,116],322),([99,104,101,99,107,95,98,101,104,105,110,100],329),([98,114,97,99,101,100,95,101,108,101,109,101,110,116],336),([113,117,111,116,101,100,95,101,108,101,109,101,110,116],343),([98,97,114,101,95,101,108,101,109,101,110,116],350),([102,105,110,100,95,101,108,101,109,101,110,116],357),([115,112,108,105,116,95,108,105,115,116],364),([116,101,120,116,95,111,102],392),([119,111,114,100,115,95,111,102],399),([98,108,97,109,101],406),([114,117,110,95,115,99,114,105,112,116],413),([117,115,101,95,115,99,114,105,112,116,115],420),([110,111,95,118,97,114,105,97,98,108,101],512),([118,97,114,95,105,110],519),([112,117,116,95,118,97,108,117,101],526),([101,108,101,109,101,110,116,115,95,105,110],533),([112,97,105,114,95,111,102],540),([97,99,116],547),([112,97,114,116,95,97,104,101,97,100],673),([112,97,114,116,95,97,116],680),([112,97,114,116,95,116,101,120,116],687),([115,117,98,115,116,95,116,101,120,116],695),([115,117,98,115,116,95,97,99,116,105,111,110],700),([115,117,98,115,116,95,99,111,109,109,97,110,100,115],707),([95,108,97,119,95,110,117,109,98,101,114],714),([95,108,97,119,95,114,97,119],721),([95,108,97,119,95,103,105,118,101,110],728),([95,108,97,119,95,97,99,116],735),([95,108,97,119,95,112,117,116],742),([95,108,97,119,95,102,97,117,108,116],749),([95,108,97,119,95,99,97,108,108],756),([95,108,97,119,95,110,97,109,101,100],763),([95,108,97,119,95,112,97,105,114],770),([95,108,97,119,95,115,105,109,112,108,101],777),([95,108,97,119,95,111,100,100],784),([95,108,97,119,95,112,105,101,99,101],791),([95,108,97,119,95,101,110,100],798),([95,108,97,119,95,100,117,101],805),([95,108,97,119,95,100,111,110,101],812),([95,108,97,119,95,102,108,97,103,115],819),([95,108,97,119,95,119,111,114,100,115],826),([95,108,97,119,95,99,97,108,108,101,100],833),([108,97,119],838),([84,99,108,70,97,117,108,116],38),([77,105,115,117,115,101,100],51),([79,117,116,79,102,70,117,101,108],63),([82,97,105,115,101,100],84),([78,101,115,116],105),([80,97,117,115,101],126),([86,97,114],381),([72,111,115,116],501),([83,109,97,108,108,72,111,115,116],664)]
noncomputable def dH:List (List Nat):=[[95,95,105,110,105,116,95,95],[99,111,100,101],[118,97,108,117,101],[101,114,114,111,114,99,111,100,101],[108,101,118,101,108],[114,101,116],[105,110,102,111],[105,115,95,110,111,116,101,100],[108,105,110,101],[101,120,116,114,97],[107,105,110,100],[116,114,97,99,101,115],[105,115,95,98,117,115,121],[105,115,95,101,108,101,109,101,110,116],[119,114,105,116,101,115],[114,117,110],[114,101,97,100],[99,97,108,108],[116,111,111,108,115],[105,110,108,105,110,101],[108,105,109,105,116],[102,117,101,108],[100,101,112,116,104],[115,112,101,110,116],[101,112,111,99,104],[102,114,97,109,101],[99,111,114,111,117,116,105,110,101],[116,111,111,108],[98,101,103,105,110],[102,105,110,105,115,104],[118,97,114,115],[99,111,109,109,97,110,100,115],[102,105,114,115,116,115],[114,101,97,100,95,118,97,114],[112,108,97,99,101],[119,114,105,116,101,95,118,97,114],[114,101,109,111,118,101],[112,117,116],[115,112,101,110,100],[97,100,100],[119,114,105,116,101]]
noncomputable def tV:List MS:=
 [.expr (.dJ [.l 0,.l 2]),
 .c3 (.l 0) 1 (.l 1),
 .c3 (.l 0) 2 (.l 2),
 .c3 (.l 0) 3 (.l 3),
 .c3 (.l 0) 4 (.l 4),
 .c3 (.l 0) 5 (.l 5),
 .c3 (.l 0) 6 (.c (.str [])),
 .c3 (.l 0) 7 (.c (.bool false)),
 .c3 (.l 0) 8 (.c (.int 0)),
 .c3 (.l 0) 9 (.fP [])]
def uc:FT:=.fn 6 [.aF [.str [78,79,78,69]],.int 0,.int 0] 6 tV
noncomputable def Hu:List MS:=
 [.ret (.call (.g 84) [.c (.int 1),.l 0,.l 1])]
def ID:FT:=.fn 2 [.aF [.str [78,79,78,69]]] 2 Hu
noncomputable def vS:List MS:=
 [.ret (.call (.g 139) [.aZ .add (.aZ .add (.c (.str [119,114,111,110,103,32,35,32,97,114,103,115,58,32,115,104,111,117,108,100,32,98,101,32,34])) (.l 0)) (.c (.str [34])),.aF [.c (.str [84,67,76]),.c (.str [87,82,79,78,71,65,82,71,83])]])]
def wA:FT:=.fn 1 [] 1 vS
noncomputable def ED:List MS:=
 [.ifs (.aV .lt (.b1 .len (.l 0)) (.c (.int 3)))
 ([.ret (.bP .join (.c (.str [32,111,114,32])) [.l 0])])
 ([]),
 .ret (.aZ .add (.aZ .add (.bP .join (.c (.str [44,32])) [.slice (.l 0) none (some (.neg (.c (.int 1))))]) (.c (.str [44,32,111,114,32]))) (.bG (.l 0) (.neg (.c (.int 1)))))]
def EV:FT:=.fn 1 [] 1 ED
noncomputable def Rl:List MS:=
 [.bL 3 (.fP []),
 .for (.iM 4) (.val (.l 2))
 ([.ifs (.aV .eq (.l 4) (.l 1))
 ([.ret (.l 4)])
 ([]),
 .ifs (.and [.aV .ne (.l 1) (.c (.str [])),.bP .startswith (.l 4) [.l 1]])
 ([.expr (.bP .append (.l 3) [.l 4])])
 ([])]),
 .ifs (.aV .eq (.b1 .len (.l 3)) (.c (.int 1)))
 ([.ret (.bG (.l 3) (.c (.int 0)))])
 ([]),
 .bL 5 (.ite (.aV .gt (.b1 .len (.l 3)) (.c (.int 0))) (.c (.str [97,109,98,105,103,117,111,117,115,32])) (.c (.str [98,97,100,32]))),
 .cW (.call (.g 139) [.aZ .add (.aZ .add (.aZ .add (.aZ .add (.aZ .add (.l 5) (.l 0)) (.c (.str [32,34]))) (.l 1)) (.c (.str [34,58,32,109,117,115,116,32,98,101,32]))) (.call (.g 153) [.l 2]),.aF [.c (.str [84,67,76]),.c (.str [76,79,79,75,85,80]),.c (.str [73,78,68,69,88]),.l 0,.l 1]])]
def RN:FT:=.fn 3 [] 6 Rl
noncomputable def Ve:List MS:=
 [.ifs (.aV .gt (.b1 .len (.l 0)) (.l 1))
 ([.ret (.aZ .add (.slice (.l 0) none (some (.l 1))) (.c (.str [46,46,46])))])
 ([]),
 .ret (.l 0)]
def VT:FT:=.fn 2 [] 2 Ve
noncomputable def Rk:List MS:=
 [.ifs (.aV .ne (.cn (.l 0) 1) (.c (.int 1)))
 ([.uo])
 ([]),
 .ifs (.aV .eq (.cn (.l 0) 6) (.c (.str [])))
 ([.c3 (.l 0) 6 (.aZ .add (.aZ .add (.aZ .add (.cn (.l 0) 2) (.c (.str [10,32,32,32,32,119,104,105,108,101,32,101,120,101,99,117,116,105,110,103,10,34]))) (.call (.g 167) [.l 1,.c (.int 150)])) (.c (.str [34])))])
 ([.ifs (.cn (.l 0) 7)
 ([.c3 (.l 0) 6 (.aZ .add (.aZ .add (.aZ .add (.cn (.l 0) 6) (.c (.str [10,32,32,32,32,105,110,118,111,107,101,100,32,102,114,111,109,32,119,105,116,104,105,110,10,34]))) (.call (.g 167) [.l 1,.c (.int 150)])) (.c (.str [34])))])
 ([])]),
 .c3 (.l 0) 7 (.c (.bool true))]
def RM:FT:=.fn 2 [] 2 Rk
noncomputable def My:List MS:=
 [.ifs (.aV .ne (.b1 .len (.l 0)) (.c (.int 1)))
 ([.ret (.neg (.c (.int 1)))])
 ([]),
 .bL 1 (.b1 .LX (.l 0)),
 .ifs (.ju .le .le (.c (.int 48)) (.l 1) (.c (.int 57)))
 ([.ret (.aZ .sub (.l 1) (.c (.int 48)))])
 ([]),
 .ifs (.ju .le .le (.c (.int 97)) (.l 1) (.c (.int 122)))
 ([.ret (.aZ .sub (.l 1) (.c (.int 87)))])
 ([]),
 .ifs (.ju .le .le (.c (.int 65)) (.l 1) (.c (.int 90)))
 ([.ret (.aZ .sub (.l 1) (.c (.int 55)))])
 ([]),
 .ret (.neg (.c (.int 1)))]
def Nk:FT:=.fn 1 [] 2 My
noncomputable def AF:List MS:=
 [.bL 2 (.aZ .add (.l 1) (.c (.int 3))),
 .ifs (.aV .eq (.bG (.l 0) (.l 1)) (.c (.str [117])))
 ([.bL 2 (.aZ .add (.l 1) (.c (.int 5)))])
 ([.ifs (.aV .eq (.bG (.l 0) (.l 1)) (.c (.str [85])))
 ([.bL 2 (.aZ .add (.l 1) (.c (.int 9)))])
 ([])]),
 .bL 3 (.aZ .add (.l 1) (.c (.int 1))),
 .bL 4 (.c (.int 0)),
 .while (.and [.aV .lt (.l 3) (.l 2),.aV .lt (.l 3) (.b1 .len (.l 0)),.aV .le (.l 4) (.c (.int 69631))])
 ([.bL 5 (.call (.g 209) [.bG (.l 0) (.l 3)]),
 .ifs (.or [.aV .lt (.l 5) (.c (.int 0)),.aV .gt (.l 5) (.c (.int 15))])
 ([.brk])
 ([]),
 .bL 4 (.aZ .add (.aZ .mul (.l 4) (.c (.int 16))) (.l 5)),
 .mZ 3 .add (.c (.int 1))]),
 .ifs (.aV .eq (.l 3) (.aZ .add (.l 1) (.c (.int 1))))
 ([.ret (.aF [.bG (.l 0) (.l 1),.l 3])])
 ([]),
 .ret (.aF [.b1 .GG (.l 4),.l 3])]
def A3:FT:=.fn 2 [] 6 AF
noncomputable def vP:List MS:=
 [.bL 2 (.l 1),
 .bL 3 (.c (.int 0)),
 .while (.and [.aV .lt (.l 2) (.aZ .add (.l 1) (.c (.int 3))),.aV .lt (.l 2) (.b1 .len (.l 0)),.aV .lt (.l 3) (.c (.int 32))])
 ([.bL 4 (.call (.g 209) [.bG (.l 0) (.l 2)]),
 .ifs (.or [.aV .lt (.l 4) (.c (.int 0)),.aV .gt (.l 4) (.c (.int 7))])
 ([.brk])
 ([]),
 .bL 3 (.aZ .add (.aZ .mul (.l 3) (.c (.int 8))) (.l 4)),
 .mZ 2 .add (.c (.int 1))]),
 .ret (.aF [.b1 .GG (.l 3),.l 2])]
def wt:FT:=.fn 2 [] 5 vP
noncomputable def x8:List MS:=
 [.bL 2 (.slice (.l 0) (some (.aZ .add (.l 1) (.c (.int 1)))) (some (.aZ .add (.l 1) (.c (.int 2))))),
 .ifs (.aV .eq (.l 2) (.c (.str [])))
 ([.ret (.aF [.c (.str [92]),.aZ .add (.l 1) (.c (.int 1))])])
 ([]),
 .bL 3 (.bP .find (.c (.str [97,98,102,110,114,116,118])) [.l 2]),
 .ifs (.aV .ge (.l 3) (.c (.int 0)))
 ([.ret (.aF [.bG (.c (.str [7,8,12,10,13,9,11])) (.l 3),.aZ .add (.l 1) (.c (.int 2))])])
 ([]),
 .ifs (.aV .eq (.l 2) (.c (.str [10])))
 ([.bL 4 (.aZ .add (.l 1) (.c (.int 2))),
 .while (.aV .ja (.slice (.l 0) (some (.l 4)) (some (.aZ .add (.l 4) (.c (.int 1))))) (.aF [.c (.str [32]),.c (.str [9])]))
 ([.mZ 4 .add (.c (.int 1))]),
 .ret (.aF [.c (.str [32]),.l 4])])
 ([]),
 .ifs (.aV .ja (.l 2) (.aF [.c (.str [120]),.c (.str [117]),.c (.str [85])]))
 ([.ret (.call (.g 216) [.l 0,.aZ .add (.l 1) (.c (.int 1))])])
 ([]),
 .ifs (.aV .ja (.l 2) (.aF [.c (.str [48]),.c (.str [49]),.c (.str [50]),.c (.str [51]),.c (.str [52]),.c (.str [53]),.c (.str [54]),.c (.str [55])]))
 ([.ret (.call (.g 223) [.l 0,.aZ .add (.l 1) (.c (.int 1))])])
 ([]),
 .ret (.aF [.l 2,.aZ .add (.l 1) (.c (.int 2))])]
def yr:FT:=.fn 2 [] 5 x8
noncomputable def Hv:List MS:=
 [.ret (.aV .ja (.l 0) (.aF [.c (.str [32]),.c (.str [9]),.c (.str [11]),.c (.str [12]),.c (.str [13])]))]
def IE:FT:=.fn 1 [] 1 Hv
noncomputable def yc:List MS:=
 [.while (.aV .lt (.l 1) (.b1 .len (.l 0)))
 ([.ifs (.call (.g 237) [.bG (.l 0) (.l 1)])
 ([.mZ 1 .add (.c (.int 1))])
 ([.ifs (.aV .eq (.slice (.l 0) (some (.l 1)) (some (.aZ .add (.l 1) (.c (.int 2))))) (.c (.str [92,10])))
 ([.mZ 1 .add (.c (.int 2))])
 ([.ret (.l 1)])])]),
 .ret (.l 1)]
def yw:FT:=.fn 2 [] 2 yc
noncomputable def nk:List MS:=
 [.bL 1 (.call (.g 244) [.l 0,.l 1]),
 .while (.aV .ja (.slice (.l 0) (some (.l 1)) (some (.aZ .add (.l 1) (.c (.int 1))))) (.aF [.c (.str [10]),.c (.str [59]),.c (.str [35])]))
 ([.ifs (.aV .eq (.bG (.l 0) (.l 1)) (.c (.str [35])))
 ([.bL 1 (.call (.g 251) [.l 0,.l 1])])
 ([.mZ 1 .add (.c (.int 1))]),
 .bL 1 (.call (.g 244) [.l 0,.l 1])]),
 .ret (.l 1)]
def nD:FT:=.fn 2 [] 2 nk
noncomputable def ya:List MS:=
 [.while (.aV .lt (.l 1) (.b1 .len (.l 0)))
 ([.ifs (.or [.aV .eq (.bG (.l 0) (.l 1)) (.c (.str [95])),.aV .ge (.call (.g 209) [.bG (.l 0) (.l 1)]) (.c (.int 0))])
 ([.mZ 1 .add (.c (.int 1))])
 ([.ifs (.aV .eq (.slice (.l 0) (some (.l 1)) (some (.aZ .add (.l 1) (.c (.int 2))))) (.c (.str [58,58])))
 ([.mZ 1 .add (.c (.int 2)),
 .while (.aV .eq (.slice (.l 0) (some (.l 1)) (some (.aZ .add (.l 1) (.c (.int 1))))) (.c (.str [58])))
 ([.mZ 1 .add (.c (.int 1))])])
 ([.ret (.l 1)])])]),
 .ret (.l 1)]
def yu:FT:=.fn 2 [] 2 ya
noncomputable def yd:List MS:=
 [.bL 2 (.aZ .add (.l 1) (.c (.int 1))),
 .ifs (.aV .eq (.slice (.l 0) (some (.l 2)) (some (.aZ .add (.l 2) (.c (.int 1))))) (.c (.str [123])))
 ([.bL 3 (.bP .find (.l 0) [.c (.str [125]),.l 2]),
 .ifs (.aV .lt (.l 3) (.c (.int 0)))
 ([.cW (.call (.g 139) [.c (.str [109,105,115,115,105,110,103,32,99,108,111,115,101,45,98,114,97,99,101,32,102,111,114,32,118,97,114,105,97,98,108,101,32,110,97,109,101])])])
 ([]),
 .ret (.aF [.aF [.c (.str [118,97,114]),.slice (.l 0) (some (.aZ .add (.l 2) (.c (.int 1)))) (some (.l 3)),.c (.none)],.aZ .add (.l 3) (.c (.int 1))])])
 ([]),
 .bL 4 (.call (.g 265) [.l 0,.l 2]),
 .ifs (.aV .eq (.slice (.l 0) (some (.l 4)) (some (.aZ .add (.l 4) (.c (.int 1))))) (.c (.str [40])))
 ([.dE [5,3] (.call (.g 293) [.l 0,.aZ .add (.l 4) (.c (.int 1)),.aF [.c (.str [41])]]),
 .ifs (.aV .ge (.l 3) (.b1 .len (.l 0)))
 ([.cW (.call (.g 139) [.c (.str [109,105,115,115,105,110,103,32,41])])])
 ([]),
 .ret (.aF [.aF [.c (.str [118,97,114]),.slice (.l 0) (some (.l 2)) (some (.l 4)),.l 5],.aZ .add (.l 3) (.c (.int 1))])])
 ([]),
 .ifs (.aV .eq (.l 4) (.l 2))
 ([.ret (.aF [.aF [.c (.str [116,101,120,116]),.c (.str [36])],.l 2])])
 ([]),
 .ret (.aF [.aF [.c (.str [118,97,114]),.slice (.l 0) (some (.l 2)) (some (.l 4)),.c (.none)],.l 4])]
def yx:FT:=.fn 2 [] 6 yd
noncomputable def AE:List MS:=
 [.bL 2 (.aZ .add (.l 1) (.c (.int 1))),
 .bL 3 (.call (.g 258) [.l 0,.l 2]),
 .while (.and [.aV .lt (.l 3) (.b1 .len (.l 0)),.aV .ne (.bG (.l 0) (.l 3)) (.c (.str [93]))])
 ([.bL 4 (.call (.g 322) [.l 0,.l 3,.c (.bool true)]),
 .bL 3 (.call (.g 258) [.l 0,.bG (.l 4) (.c (.int 3))])]),
 .ifs (.aV .ge (.l 3) (.b1 .len (.l 0)))
 ([.cW (.call (.g 139) [.c (.str [109,105,115,115,105,110,103,32,99,108,111,115,101,45,98,114,97,99,107,101,116])])])
 ([]),
 .ret (.aF [.slice (.l 0) (some (.l 2)) (some (.l 3)),.aZ .add (.l 3) (.c (.int 1))])]
def A2:FT:=.fn 2 [] 5 AE
noncomputable def Ht:List MS:=
 [.bL 2 (.b1 .len (.l 0)),
 .bL 3 (.aZ .add (.l 1) (.c (.int 1))),
 .bL 4 (.l 3),
 .bL 5 (.c (.str [])),
 .bL 6 (.c (.int 1)),
 .while (.aV .lt (.l 4) (.l 2))
 ([.ifs (.aV .eq (.bG (.l 0) (.l 4)) (.c (.str [123])))
 ([.mZ 6 .add (.c (.int 1)),
 .mZ 4 .add (.c (.int 1))])
 ([.ifs (.aV .eq (.bG (.l 0) (.l 4)) (.c (.str [125])))
 ([.mZ 6 .sub (.c (.int 1)),
 .mZ 4 .add (.c (.int 1)),
 .ifs (.aV .eq (.l 6) (.c (.int 0)))
 ([.ret (.aF [.aZ .add (.l 5) (.slice (.l 0) (some (.l 3)) (some (.aZ .sub (.l 4) (.c (.int 1))))),.l 4])])
 ([])])
 ([.ifs (.aV .eq (.slice (.l 0) (some (.l 4)) (some (.aZ .add (.l 4) (.c (.int 2))))) (.c (.str [92,10])))
 ([.dE [7,8] (.call (.g 230) [.l 0,.l 4]),
 .mZ 5 .add (.aZ .add (.slice (.l 0) (some (.l 3)) (some (.l 4))) (.l 7)),
 .bL 4 (.l 8),
 .bL 3 (.l 8)])
 ([.ifs (.aV .eq (.bG (.l 0) (.l 4)) (.c (.str [92])))
 ([.mZ 4 .add (.c (.int 2))])
 ([.while (.and [.aV .lt (.l 4) (.l 2),.aV .mf (.bG (.l 0) (.l 4)) (.c (.str [123,125,92]))])
 ([.mZ 4 .add (.c (.int 1))])])])])])]),
 .cW (.call (.g 139) [.c (.str [109,105,115,115,105,110,103,32,99,108,111,115,101,45,98,114,97,99,101])])]
def IC:FT:=.fn 2 [] 9 Ht
noncomputable def t4:List MS:=
 [.bL 3 (.fP []),
 .bL 4 (.c (.str [])),
 .bL 5 (.b1 .len (.l 0)),
 .while (.and [.aV .lt (.l 1) (.l 5),.aV .mf (.bG (.l 0) (.l 1)) (.l 2)])
 ([.ifs (.aV .eq (.bG (.l 0) (.l 1)) (.c (.str [36])))
 ([.dE [6,1] (.call (.g 272) [.l 0,.l 1])])
 ([.ifs (.aV .eq (.bG (.l 0) (.l 1)) (.c (.str [91])))
 ([.dE [7,1] (.call (.g 279) [.l 0,.l 1]),
 .bL 6 (.aF [.c (.str [99,109,100]),.l 7])])
 ([.ifs (.aV .eq (.bG (.l 0) (.l 1)) (.c (.str [92])))
 ([.ifs (.and [.aV .ja (.c (.str [32])) (.l 2),.aV .eq (.slice (.l 0) (some (.aZ .add (.l 1) (.c (.int 1)))) (some (.aZ .add (.l 1) (.c (.int 2))))) (.c (.str [10]))])
 ([.brk])
 ([]),
 .dE [8,1] (.call (.g 230) [.l 0,.l 1]),
 .bL 6 (.aF [.c (.str [116,101,120,116]),.l 8])])
 ([.bL 9 (.l 1),
 .while (.and [.aV .lt (.l 1) (.l 5),.aV .mf (.bG (.l 0) (.l 1)) (.c (.str [36,91,92])),.aV .mf (.bG (.l 0) (.l 1)) (.l 2)])
 ([.mZ 1 .add (.c (.int 1))]),
 .bL 6 (.aF [.c (.str [116,101,120,116]),.slice (.l 0) (some (.l 9)) (some (.l 1))])])])]),
 .ifs (.aV .eq (.bG (.l 6) (.c (.int 0))) (.c (.str [116,101,120,116])))
 ([.mZ 4 .add (.bG (.l 6) (.c (.int 1)))])
 ([.ifs (.aV .ne (.l 4) (.c (.str [])))
 ([.expr (.bP .append (.l 3) [.aF [.c (.str [116,101,120,116]),.l 4]]),
 .bL 4 (.c (.str []))])
 ([]),
 .expr (.bP .append (.l 3) [.l 6])])]),
 .ifs (.aV .ne (.l 4) (.c (.str [])))
 ([.expr (.bP .append (.l 3) [.aF [.c (.str [116,101,120,116]),.l 4]])])
 ([]),
 .ret (.aF [.b1 .gH (.l 3),.l 1])]
def ug:FT:=.fn 3 [] 10 t4
noncomputable def vM:List MS:=
 [.ifs (.l 0)
 ([.ret (.aF [.c (.str [32]),.c (.str [9]),.c (.str [11]),.c (.str [12]),.c (.str [13]),.c (.str [10]),.c (.str [59]),.c (.str [93])])])
 ([]),
 .ret (.aF [.c (.str [32]),.c (.str [9]),.c (.str [11]),.c (.str [12]),.c (.str [13]),.c (.str [10]),.c (.str [59])])]
def wo:FT:=.fn 1 [] 1 vM
noncomputable def tW:List MS:=
 [.ifs (.aV .ne (.slice (.l 0) (some (.l 1)) (some (.aZ .add (.l 1) (.c (.int 3))))) (.c (.str [123,42,125])))
 ([.ret (.c (.bool false))])
 ([]),
 .bL 2 (.aZ .add (.l 1) (.c (.int 3))),
 .ifs (.aV .ja (.slice (.l 0) (some (.l 2)) (some (.aZ .add (.l 2) (.c (.int 1))))) (.aF [.c (.str []),.c (.str [10]),.c (.str [59])]))
 ([.ret (.c (.bool false))])
 ([]),
 .ret (.aV .eq (.call (.g 244) [.l 0,.l 2]) (.l 2))]
def ud:FT:=.fn 2 [] 3 tW
noncomputable def Rm:List MS:=
 [.bL 3 (.call (.g 307) [.l 0,.l 1]),
 .ifs (.l 3)
 ([.mZ 1 .add (.c (.int 3))])
 ([]),
 .bL 4 (.slice (.l 0) (some (.l 1)) (some (.aZ .add (.l 1) (.c (.int 1))))),
 .ifs (.aV .eq (.l 4) (.c (.str [123])))
 ([.dE [5,6] (.call (.g 286) [.l 0,.l 1]),
 .ifs (.aV .eq (.l 5) (.c (.str [])))
 ([.ret (.aF [.aF [.l 3,.aF []],.l 6])])
 ([]),
 .ret (.aF [.aF [.l 3,.aF [.aF [.c (.str [116,101,120,116]),.l 5]]],.l 6])])
 ([]),
 .ifs (.aV .eq (.l 4) (.c (.str [34])))
 ([.dE [7,8] (.call (.g 293) [.l 0,.aZ .add (.l 1) (.c (.int 1)),.aF [.c (.str [34])]]),
 .ifs (.aV .ge (.l 8) (.b1 .len (.l 0)))
 ([.cW (.call (.g 139) [.c (.str [109,105,115,115,105,110,103,32,34])])])
 ([]),
 .ret (.aF [.aF [.l 3,.l 7],.aZ .add (.l 8) (.c (.int 1))])])
 ([]),
 .dE [7,6] (.call (.g 293) [.l 0,.l 1,.call (.g 300) [.l 2]]),
 .ret (.aF [.aF [.l 3,.l 7],.l 6])]
def RO:FT:=.fn 3 [] 9 Rm
noncomputable def vN:List MS:=
 [.bL 3 (.call (.g 258) [.l 0,.l 1]),
 .bL 4 (.b1 .len (.l 0)),
 .ifs (.or [.aV .ge (.l 3) (.l 4),.and [.l 2,.aV .eq (.bG (.l 0) (.l 3)) (.c (.str [93]))]])
 ([.ret (.c (.none))])
 ([]),
 .bL 5 (.fP []),
 .bL 6 (.l 3),
 .while (.c (.bool true))
 ([.dE [7,8] (.call (.g 314) [.l 0,.l 6,.l 2]),
 .expr (.bP .append (.l 5) [.l 7]),
 .bL 6 (.call (.g 244) [.l 0,.l 8]),
 .ifs (.aV .ge (.l 6) (.l 4))
 ([.ret (.aF [.b1 .gH (.l 5),.l 3,.l 8,.l 4])])
 ([]),
 .ifs (.aV .ja (.bG (.l 0) (.l 6)) (.aF [.c (.str [10]),.c (.str [59])]))
 ([.ret (.aF [.b1 .gH (.l 5),.l 3,.l 8,.aZ .add (.l 6) (.c (.int 1))])])
 ([]),
 .ifs (.and [.l 2,.aV .eq (.bG (.l 0) (.l 6)) (.c (.str [93]))])
 ([.ret (.aF [.b1 .gH (.l 5),.l 3,.l 8,.l 6])])
 ([]),
 .ifs (.aV .eq (.l 6) (.l 8))
 ([.ifs (.aV .eq (.bG (.l 0) (.aZ .sub (.l 8) (.c (.int 1)))) (.c (.str [34])))
 ([.cW (.call (.g 139) [.c (.str [101,120,116,114,97,32,99,104,97,114,97,99,116,101,114,115,32,97,102,116,101,114,32,99,108,111,115,101,45,113,117,111,116,101])])])
 ([]),
 .cW (.call (.g 139) [.c (.str [101,120,116,114,97,32,99,104,97,114,97,99,116,101,114,115,32,97,102,116,101,114,32,99,108,111,115,101,45,98,114,97,99,101])])])
 ([])])]
def wq:FT:=.fn 3 [.bool false] 9 vN
noncomputable def rO:List MS:=
 [.c3 (.l 0) 10 (.c (.str [110,111,110,101])),
 .c3 (.l 0) 2 (.c (.str [])),
 .c3 (.l 0) 11 (.fP []),
 .c3 (.l 0) 12 (.c (.bool false)),
 .c3 (.l 0) 13 (.c (.bool false)),
 .c3 (.l 0) 14 (.c (.int 0))]
def sh:FT:=.fn 1 [] 1 rO
noncomputable def EF:List MS:=
 [.bL 2 (.fP []),
 .for (.iM 3) (.val (.l 1))
 ([.ifs (.aV .eq (.bG (.l 3) (.c (.int 0))) (.c (.str [116,101,120,116])))
 ([.expr (.bP .append (.l 2) [.bG (.l 3) (.c (.int 1))])])
 ([.ifs (.aV .eq (.bG (.l 3) (.c (.int 0))) (.c (.str [99,109,100])))
 ([.expr (.bP .append (.l 2) [.cj (.l 0) 15 [.bG (.l 3) (.c (.int 1))]])])
 ([.ifs (.aV .is (.bG (.l 3) (.c (.int 2))) (.c (.none)))
 ([.expr (.bP .append (.l 2) [.cj (.l 0) 16 [.bG (.l 3) (.c (.int 1))]])])
 ([.bL 4 (.call (.g 392) [.l 0,.bG (.l 3) (.c (.int 2))]),
 .expr (.bP .append (.l 2) [.cj (.l 0) 16 [.aZ .add (.aZ .add (.aZ .add (.bG (.l 3) (.c (.int 1))) (.c (.str [40]))) (.l 4)) (.c (.str [41]))]])])])])]),
 .ret (.bP .join (.c (.str [])) [.l 2])]
def EX:FT:=.fn 2 [] 5 EF
noncomputable def AG:List MS:=
 [.bL 2 (.fP []),
 .for (.iM 3) (.val (.l 1))
 ([.bL 4 (.call (.g 392) [.l 0,.bG (.l 3) (.c (.int 1))]),
 .ifs (.bG (.l 3) (.c (.int 0)))
 ([.expr (.ia)])
 ([.expr (.bP .append (.l 2) [.l 4])])]),
 .ret (.l 2)]
def A4:FT:=.fn 2 [] 5 AG
noncomputable def Mx:List MS:=
 [.ifs (.aV .ne (.cn (.l 0) 1) (.c (.int 1)))
 ([.uo])
 ([]),
 .bL 2 (.call (.g 258) [.l 1,.l 2]),
 .ifs (.aV .eq (.cn (.l 0) 8) (.c (.int 0)))
 ([.c3 (.l 0) 8 (.b1 .len (.bP .split (.slice (.l 1) none (some (.l 2))) [.c (.str [10])]))])
 ([]),
 .expr (.call (.g 174) [.l 0,.slice (.l 1) (some (.l 2)) (some (.l 3))])]
def Nj:FT:=.fn 4 [] 4 Mx
noncomputable def vR:List MS:=
 [.bL 2 (.c (.str [])),
 .bL 3 (.c (.int 0)),
 .bL 4 (.b1 .len (.l 1)),
 .jl ([.bL 5 (.call (.g 322) [.l 1,.c (.int 0)]),
 .while (.aV .kF (.l 5) (.c (.none)))
 ([.dE [6,3,4,7] (.l 5),
 .bL 2 (.cj (.l 0) 17 [.call (.g 399) [.l 0,.l 6]]),
 .bL 3 (.l 7),
 .bL 4 (.b1 .len (.l 1)),
 .bL 5 (.call (.g 322) [.l 1,.l 7])])])
 (some 8) ([.expr (.call (.g 406) [.l 8,.l 1,.l 3,.l 4]),
 .cW (.l 8)]),
 .ret (.l 2)]
def wz:FT:=.fn 2 [] 9 vR
noncomputable def lU:List MS:=
 [.mq (.cn (.l 0) 18) (.c (.str [114,117,110])) (.g 413)]
def ma:FT:=.fn 1 [] 1 lU
noncomputable def pX:List MS:=
 [.c3 (.l 0) 18 (.qc [] []),
 .c3 (.l 0) 19 (.qc [] []),
 .c3 (.l 0) 20 (.l 1),
 .c3 (.l 0) 21 (.l 2),
 .c3 (.l 0) 22 (.c (.int 0)),
 .c3 (.l 0) 23 (.c (.int 0)),
 .c3 (.l 0) 24 (.c (.int 0)),
 .c3 (.l 0) 25 (.c (.none)),
 .c3 (.l 0) 26 (.c (.none))]
def qf:FT:=.fn 3 [.int 40,.none] 3 pX
noncomputable def x7:List MS:=
 [.ifs (.aV .mf (.l 1) (.cn (.l 0) 18))
 ([.cW (.call (.g 51) [.aZ .add (.c (.str [116,104,101,32,104,111,115,116,32,108,97,99,107,115,32,116,104,101,32,116,111,111,108,32])) (.l 1)])])
 ([]),
 .ret (.bG (.cn (.l 0) 18) (.l 1))]
def yq:FT:=.fn 2 [] 2 x7
noncomputable def ng:List MS:=
 [.mr (.l 0) 23 .add (.c (.int 1)),
 .ifs (.and [.aV .kF (.cn (.l 0) 21) (.c (.none)),.aV .gt (.cn (.l 0) 23) (.cn (.l 0) 21)])
 ([.cW (.call (.g 63) [.c (.str [116,104,101,32,115,99,114,105,112,116,32,115,112,101,110,116,32,97,108,108,32,105,116,115,32,102,117,101,108])])])
 ([])]
def ny:FT:=.fn 1 [] 1 ng
noncomputable def AD:List MS:=
 [.ifs (.aV .ge (.cn (.l 0) 22) (.cn (.l 0) 20))
 ([.cW (.call (.g 139) [.c (.str [116,111,111,32,109,97,110,121,32,110,101,115,116,101,100,32,101,118,97,108,117,97,116,105,111,110,115,32,40,105,110,102,105,110,105,116,101,32,108,111,111,112,63,41]),.aF [.c (.str [84,67,76]),.c (.str [76,73,77,73,84]),.c (.str [83,84,65,67,75])]])])
 ([]),
 .bL 2 (.cj (.l 0) 27 [.c (.str [114,117,110])]),
 .mr (.l 0) 22 .add (.c (.int 1)),
 .qP ([.ret (.call (.l 2) [.l 0,.l 1])])
 ([.mr (.l 0) 22 .sub (.c (.int 1))])]
def A1:FT:=.fn 2 [] 3 AD
noncomputable def pW:List MS:=
 [.ifs (.not (.l 1))
 ([.ret (.c (.str []))])
 ([]),
 .bL 2 (.cj (.l 0) 28 [.l 1]),
 .ifs (.cR (.l 2) (.m5 105))
 ([.ret (.cj (.l 0) 29 [.l 2])])
 ([]),
 .ifs (.cR (.l 2) (.m5 126))
 ([.cW (.call (.g 139) [.c (.str [99,97,110,110,111,116,32,121,105,101,108,100,58,32,67,32,115,116,97,99,107,32,98,117,115,121]),.aF [.c (.str [84,67,76]),.c (.str [67,79,82,79,85,84,73,78,69]),.c (.str [67,65,78,84,95,89,73,69,76,68])]])])
 ([]),
 .ret (.l 2)]
def qe:FT:=.fn 2 [] 3 pW
noncomputable def tZ:List MS:=
 [.bL 2 (.aZ .add (.aZ .add (.aZ .add (.aZ .add (.c (.str [99,97,110,39,116,32])) (.l 0)) (.c (.str [32,34]))) (.l 1)) (.c (.str [34,58,32,110,111,32,115,117,99,104,32,118,97,114,105,97,98,108,101]))),
 .ret (.call (.g 139) [.l 2,.aF [.c (.str [84,67,76]),.c (.str [76,79,79,75,85,80]),.c (.str [86,65,82,78,65,77,69]),.l 1]])]
def uf:FT:=.fn 2 [] 3 tZ
noncomputable def rR:List MS:=
 [.ifs (.aV .mf (.l 1) (.l 0))
 ([.mq (.l 0) (.l 1) (.call (.g 381) [])])
 ([]),
 .ret (.bG (.l 0) (.l 1))]
def sk:FT:=.fn 2 [] 2 rR
noncomputable def p9:List MS:=
 [.c3 (.l 0) 10 (.l 1),
 .c3 (.l 0) 2 (.l 2),
 .mr (.l 0) 14 .add (.c (.int 1)),
 .ret (.l 2)]
def qm:FT:=.fn 3 [] 3 p9
noncomputable def oH:List MS:=
 [.ifs (.cR (.l 0) .tuple)
 ([.ret (.l 0)])
 ([]),
 .ret (.aF [.l 0,.c (.none)])]
def uU:FT:=.fn 1 [] 1 oH
noncomputable def Px:List MS:=
 [.ifs (.aV .is (.l 3) (.c (.none)))
 ([.ret (.call (.l 2) [.l 0,.l 1])])
 ([]),
 .ret (.call (.l 2) [.l 0,.l 1,.l 3])]
def PL:FT:=.fn 4 [] 4 Px
noncomputable def iT:List MS:=
 [.expr (.fV 501 0 [.l 0,.l 1,.l 2]),
 .c3 (.l 0) 30 (.qc [] []),
 .c3 (.l 0) 31 (.qc [] []),
 .c3 (.l 0) 32 (.qc [] [])]
def iX:FT:=.fn 3 [.int 40,.none] 3 iT
noncomputable def e9:List MS:=
 [.ret (.call (.g 519) [.cn (.l 0) 30,.l 1])]
def fg:FT:=.fn 2 [] 2 e9
noncomputable def fU:List MS:=
 [.ifs (.aV .eq (.cn (.l 1) 10) (.c (.str [110,111,110,101])))
 ([.cW (.call (.g 512) [.c (.str [114,101,97,100]),.l 2])])
 ([]),
 .ret (.cn (.l 1) 2)]
def fZ:FT:=.fn 3 [] 3 fU
noncomputable def fF:List MS:=
 [.ret (.call (.g 526) [.l 1,.c (.str [115,99,97,108,97,114]),.l 3])]
def fH:FT:=.fn 4 [] 4 fF
noncomputable def iU:List MS:=
 [.ret (.cj (.l 0) 33 [.cj (.l 0) 34 [.l 1],.l 1])]
def iY:FT:=.fn 2 [] 2 iU
noncomputable def ip:List MS:=
 [.ret (.cj (.l 0) 35 [.cj (.l 0) 34 [.l 1],.l 1,.l 2])]
def iz:FT:=.fn 3 [] 3 ip
noncomputable def jQ:List MS:=
 [.expr (.cj (.l 0) 36 [.l 1]),
 .mq (.cn (.l 0) 31) (.l 1) (.aF [.l 2,.l 3])]
def jU:FT:=.fn 4 [.none] 4 jQ
noncomputable def gW:List MS:=
 [.expr (.bP .pop (.cn (.l 0) 31) [.l 1,.c (.none)]),
 .expr (.bP .pop (.cn (.l 0) 32) [.l 1,.c (.none)]),
 .ifs (.aV .ja (.l 1) (.cn (.l 0) 19))
 ([.mr (.l 0) 24 .add (.c (.int 1))])
 ([])]
def hJ:FT:=.fn 2 [] 2 gW
noncomputable def jP:List MS:=
 [.for (.iM 2) (.val (.l 1))
 ([.dE [3,4] (.call (.g 540) [.bG (.l 1) (.l 2)]),
 .expr (.cj (.l 0) 37 [.l 2,.l 3,.l 4]),
 .mq (.cn (.l 0) 32) (.l 2) (.c (.bool true))])]
def jT:FT:=.fn 2 [] 5 jP
noncomputable def ik:List MS:=
 [.ifs (.aV .mf (.bG (.l 1) (.c (.int 0))) (.cn (.l 0) 31))
 ([.cW (.call (.g 139) [.aZ .add (.aZ .add (.c (.str [105,110,118,97,108,105,100,32,99,111,109,109,97,110,100,32,110,97,109,101,32,34])) (.bG (.l 1) (.c (.int 0)))) (.c (.str [34])),.aF [.c (.str [84,67,76]),.c (.str [76,79,79,75,85,80]),.c (.str [67,79,77,77,65,78,68]),.bG (.l 1) (.c (.int 0))]])])
 ([]),
 .expr (.cj (.l 0) 38 []),
 .dE [2,3] (.bG (.cn (.l 0) 31) (.bG (.l 1) (.c (.int 0)))),
 .ret (.call (.g 547) [.l 0,.l 1,.l 2,.l 3])]
def iy:FT:=.fn 2 [] 4 ik
noncomputable def vQ:List MS:=
 [.bL 2 (.aZ .add (.l 1) (.c (.int 1))),
 .jl ([.bL 3 (.call (.g 322) [.l 0,.l 2,.c (.bool true)]),
 .while (.and [.aV .kF (.l 3) (.c (.none)),.aV .lt (.call (.g 244) [.l 0,.bG (.l 3) (.c (.int 2))]) (.bG (.l 3) (.c (.int 3)))])
 ([.bL 2 (.bG (.l 3) (.c (.int 3))),
 .bL 3 (.call (.g 322) [.l 0,.l 2,.c (.bool true)])])])
 none ([.um]),
 .ifs (.aV .eq (.l 2) (.aZ .add (.l 1) (.c (.int 1))))
 ([.ret (.aF [.c (.str [116,101,120,116]),.c (.str [])])])
 ([]),
 .ret (.aF [.c (.str [99,109,100]),.slice (.l 0) (some (.aZ .add (.l 1) (.c (.int 1)))) (some (.l 2))])]
def wu:FT:=.fn 2 [] 4 vQ
noncomputable def EE:List MS:=
 [.ifs (.aV .eq (.bG (.l 0) (.l 1)) (.c (.str [36])))
 ([.dE [2,3] (.call (.g 272) [.l 0,.l 1]),
 .ret (.aF [.l 2,.l 3,.c (.none)])])
 ([]),
 .jl ([.dE [4,3] (.call (.g 279) [.l 0,.l 1])])
 (some 5) ([.ret (.aF [.call (.g 673) [.l 0,.l 1],.b1 .len (.l 0),.l 5])]),
 .ret (.aF [.aF [.c (.str [99,109,100]),.l 4],.l 3,.c (.none)])]
def EW:FT:=.fn 2 [] 6 EE
noncomputable def x9:List MS:=
 [.jl ([.ret (.call (.g 392) [.l 0,.aF [.l 1]])])
 (some 2) ([.ifs (.aV .eq (.cn (.l 2) 1) (.c (.int 1)))
 ([.cW (.l 2)])
 ([]),
 .ifs (.aV .eq (.cn (.l 2) 1) (.c (.int 3)))
 ([.ret (.c (.none))])
 ([]),
 .ifs (.aV .eq (.cn (.l 2) 1) (.c (.int 4)))
 ([.ret (.c (.str []))])
 ([]),
 .ret (.cn (.l 2) 2)])]
def yt:FT:=.fn 2 [] 3 x9
noncomputable def jr:List MS:=
 [.bL 5 (.fP []),
 .bL 6 (.c (.int 0)),
 .while (.aV .lt (.l 6) (.b1 .len (.l 1)))
 ([.bL 7 (.bG (.l 1) (.l 6)),
 .ifs (.and [.aV .eq (.l 7) (.c (.str [92])),.l 2])
 ([.dE [8,6] (.call (.g 230) [.l 1,.l 6])])
 ([.ifs (.or [.and [.aV .eq (.l 7) (.c (.str [91])),.l 3],.and [.aV .eq (.l 7) (.c (.str [36])),.l 4]])
 ([.dE [9,6,10] (.call (.g 680) [.l 1,.l 6]),
 .bL 8 (.call (.g 687) [.l 0,.l 9]),
 .ifs (.aV .is (.l 8) (.c (.none)))
 ([.ret (.bP .join (.c (.str [])) [.l 5])])
 ([]),
 .ifs (.aV .kF (.l 10) (.c (.none)))
 ([.cW (.l 10)])
 ([])])
 ([.bL 8 (.l 7),
 .mZ 6 .add (.c (.int 1))])]),
 .expr (.bP .append (.l 5) [.l 8])]),
 .ret (.bP .join (.c (.str [])) [.l 5])]
def nE:FT:=.fn 5 [.bool true,.bool true,.bool true] 11 jr
noncomputable def gX:List MS:=
 [.ifs (.aV .lt (.b1 .len (.l 1)) (.c (.int 2)))
 ([.cW (.call (.g 146) [.aZ .add (.bG (.l 1) (.c (.int 0))) (.c (.str [32,63,45,110,111,98,97,99,107,115,108,97,115,104,101,115,63,32,63,45,110,111,99,111,109,109,97,110,100,115,63,32,63,45,110,111,118,97,114,105,97,98,108,101,115,63,32,115,116,114,105,110,103]))])])
 ([]),
 .bL 2 (.aF [.c (.str [45,110,111,98,97,99,107,115,108,97,115,104,101,115]),.c (.str [45,110,111,99,111,109,109,97,110,100,115]),.c (.str [45,110,111,118,97,114,105,97,98,108,101,115])]),
 .bL 3 (.comp 4 (.call (.g 160) [.c (.str [111,112,116,105,111,110]),.l 4,.l 2]) (.val (.slice (.l 1) (some (.c (.int 1))) (some (.neg (.c (.int 1))))))),
 .ret (.call (.g 695) [.l 0,.bG (.l 1) (.neg (.c (.int 1))),.aV .mf (.bG (.l 2) (.c (.int 0))) (.l 3),.aV .mf (.bG (.l 2) (.c (.int 1))) (.l 3),.aV .mf (.bG (.l 2) (.c (.int 2))) (.l 3)])]
def hM:FT:=.fn 2 [] 5 gX
noncomputable def iV:List MS:=
 [.ret (.qc [[115,117,98,115,116]] [.g 700])]
def iZ:FT:=.fn 0 [] 0 iV
noncomputable def nj:List MS:=
 [.ret (.ite (.aV .lt (.l 1) (.b1 .len (.l 0))) (.bG (.l 0) (.l 1)) (.bG (.fP [.c (.int 2643),.c (.int 12043),.c (.int 1976),.c (.int 22),.c (.int 37),.c (.int 72),.c (.int 3)]) (.l 1)))]
def nA:FT:=.fn 2 [] 2 nj
noncomputable def uB:List MS:=
 [.bL 1 (.fP [.c (.str [36,120]),.c (.str [91,99,97,108,108,32,57,32,111,107,93]),.c (.str [92,110]),.c (.str [123]),.c (.str [125]),.c (.str [97]),.c (.str [91]),.c (.str [93]),.c (.str [36]),.c (.str [92]),.c (.str [34]),.c (.str [59]),.c (.str [32]),.c (.str [10]),.c (.str [40]),.c (.str [36,123,120,125])]),
 .dE [2,3] (.aF [.c (.str []),.aZ .fdiv (.l 0) (.c (.int 5))]),
 .for (.iM 4) (.range (.aZ .fmod (.l 0) (.c (.int 5))))
 ([.bL 2 (.aZ .add (.l 2) (.bG (.l 1) (.aZ .fmod (.l 3) (.c (.int 16))))),
 .bL 3 (.aZ .fdiv (.l 3) (.c (.int 16)))]),
 .ret (.l 2)]
def uT:FT:=.fn 1 [] 5 uB
noncomputable def p4:List MS:=
 [.bL 1 (.qc [[111,107],[99,111,110,116,105,110,117,101],[114,101,116,117,114,110],[115,105,120]] [.c (.str [36,120,32,92,110,91,99,97,108,108,32,57,32,111,107,93]),.c (.str []),.c (.str [36,123,120,125,91,99,97,108,108,32,57,32,111,107,93]),.c (.str [92,116,36,120])]),
 .ret (.ite (.aV .ja (.l 0) (.l 1)) (.bG (.l 1) (.l 0)) (.l 0))]
def qi:FT:=.fn 1 [] 2 p4
noncomputable def EA:List MS:=
 [.expr (.bP .append (.l 2) [.bG (.l 1) (.c (.int 1))]),
 .bL 3 (.bG (.l 1) (.c (.int 2))),
 .ifs (.aV .eq (.l 3) (.c (.str [101,114,114,111,114])))
 ([.cW (.call (.g 84) [.c (.int 1),.c (.str [119,114,111,110,103,32,36,120]),.aF [.c (.str [76,65,87]),.c (.str [36,120])]])])
 ([]),
 .ifs (.aV .ja (.l 3) (.fP [.c (.str [98,114,101,97,107]),.c (.str [99,111,110,116,105,110,117,101]),.c (.str [114,101,116,117,114,110]),.c (.str [115,105,120])]))
 ([.bL 4 (.bG (.qc [[98,114,101,97,107],[99,111,110,116,105,110,117,101],[114,101,116,117,114,110],[115,105,120]] [.c (.int 3),.c (.int 4),.c (.int 2),.c (.int 6)]) (.l 3)),
 .cW (.call (.g 84) [.l 4,.ite (.aV .eq (.l 3) (.c (.str [99,111,110,116,105,110,117,101]))) (.c (.str [99])) (.call (.g 728) [.l 3]),.aF [.c (.str [78,79,78,69])],.ite (.aV .eq (.l 4) (.c (.int 2))) (.c (.int 1)) (.c (.int 0)),.c (.int 0)])])
 ([]),
 .ret (.call (.g 728) [.l 3])]
def EU:FT:=.fn 3 [] 5 EA
noncomputable def uA:List MS:=
 [.ret (.fP [.aF [.c (.str [112,117,116]),.l 0,.aF []]])]
def uS:FT:=.fn 1 [] 1 uA
noncomputable def pY:List MS:=
 [.ret (.ite (.l 0) (.fP [.aF [.c (.str [102,97,117,108,116]),.l 2,.l 3]]) (.call (.g 742) [.l 1]))]
def qg:FT:=.fn 4 [] 4 pY
noncomputable def mu:List MS:=
 [.ret (.ite (.l 2) (.fP [.aF [.c (.str [99,97,108,108]),.l 0,.l 1]]) (.call (.g 742) [.aZ .add (.aZ .add (.aZ .add (.aZ .add (.c (.str [91,99,97,108,108,32])) (.l 0)) (.c (.str [32]))) (.l 1)) (.c (.str [93]))]))]
def mF:FT:=.fn 3 [] 3 mu
noncomputable def p7:List MS:=
 [.ifs (.l 1)
 ([.ret (.call (.g 742) [.bG (.l 2) (.ite (.aV .lt (.l 0) (.c (.int 2))) (.c (.str [120])) (.c (.str [121,40,107,41])))])])
 ([]),
 .ret (.call (.g 742) [.bG (.fP [.c (.str [36,120]),.c (.str [36,123,120,125]),.c (.str [36,121,40,107,41]),.c (.str [36,123,121,40,107,41,125])]) (.l 0)])]
def qj:FT:=.fn 3 [] 3 p7
noncomputable def rQ:List MS:=
 [.ret (.ite (.aV .ja (.l 2) (.fP [.c (.str [111,107]),.c (.str [107])])) (.fP [.aF [.c (.str [108,111,103]),.l 0,.c (.str [])],.aF [.c (.str [99,97,108,108]),.l 1,.l 3]]) (.fP [.aF [.c (.str [99,97,108,108]),.l 0,.l 2]]))]
def sj:FT:=.fn 4 [] 4 rQ
noncomputable def vO:List MS:=
 [.ifs (.aV .lt (.l 0) (.c (.int 2)))
 ([.ret (.call (.g 742) [.bG (.fP [.c (.str [45,97]),.c (.str [93]),.c (.str [125,123,32]),.c (.str [34]),.c (.str [59,32,35]),.c (.str [45,40,120,41]),.c (.str [10]),.c (.str [36,45])]) (.aZ .fmod (.l 1) (.c (.int 8)))])])
 ([]),
 .ifs (.aV .eq (.l 0) (.c (.int 2)))
 ([.bL 4 (.bG (.fP [.c (.str [92,110]),.c (.str [92,120,52,49]),.c (.str [92,92]),.c (.str [92,10,32,32]),.c (.str [92,49,48,49]),.c (.str [92,93]),.c (.str [92,117,50,54,51,97]),.c (.str [92,113])]) (.aZ .fmod (.l 1) (.c (.int 8)))),
 .ret (.call (.g 742) [.ite (.bG (.l 2) (.c (.int 0))) (.bG (.fP [.c (.str [10]),.c (.str [65]),.c (.str [92]),.c (.str [32]),.c (.str [65]),.c (.str [93]),.c (.str [9786]),.c (.str [113])]) (.aZ .fmod (.l 1) (.c (.int 8)))) (.l 4)])])
 ([]),
 .ifs (.aV .lt (.l 0) (.c (.int 5)))
 ([.ret (.call (.g 763) [.aZ .fmod (.l 1) (.c (.int 4)),.bG (.l 2) (.c (.int 2)),.l 3])])
 ([]),
 .ifs (.bG (.l 2) (.c (.int 2)))
 ([.ret (.call (.g 742) [.bG (.l 3) (.c (.str [121,40,107,41]))])])
 ([]),
 .ret (.call (.g 742) [.ite (.bG (.l 2) (.c (.int 0))) (.c (.str [36,121,40,107,41])) (.c (.str [36,121,40,92,120,54,98,41]))])]
def nB:FT:=.fn 4 [] 5 vO
noncomputable def EC:List MS:=
 [.ifs (.aV .eq (.l 0) (.c (.int 0)))
 ([.ret (.call (.g 749) [.bG (.l 1) (.c (.int 2)),.c (.str [36,122,122]),.c (.str [99,97,110,39,116,32,114,101,97,100,32,34,122,122,34,58,32,110,111,32,115,117,99,104,32,118,97,114,105,97,98,108,101]),.aF [.c (.str [84,67,76]),.c (.str [76,79,79,75,85,80]),.c (.str [86,65,82,78,65,77,69]),.c (.str [122,122])]])])
 ([]),
 .ifs (.and [.aV .eq (.l 0) (.c (.int 1)),.bG (.l 1) (.c (.int 1))])
 ([.ret (.call (.g 749) [.c (.bool true),.c (.str []),.c (.str [105,110,118,97,108,105,100,32,99,111,109,109,97,110,100,32,110,97,109,101,32,34,110,111,112,101,34]),.aF [.c (.str [84,67,76]),.c (.str [76,79,79,75,85,80]),.c (.str [67,79,77,77,65,78,68]),.c (.str [110,111,112,101])]])])
 ([]),
 .ifs (.aV .eq (.l 0) (.c (.int 1)))
 ([.ret (.aZ .add (.aZ .add (.call (.g 742) [.c (.str [91,110,111,112,101,32])]) (.call (.g 763) [.c (.int 0),.bG (.l 1) (.c (.int 2)),.l 2])) (.call (.g 742) [.c (.str [93])]))])
 ([]),
 .ifs (.aV .eq (.l 0) (.c (.int 2)))
 ([.ret (.call (.g 749) [.bG (.l 1) (.c (.int 1)),.c (.str [91,99,97,108,108,32,56,32,123,97,125,98,93]),.c (.str [101,120,116,114,97,32,99,104,97,114,97,99,116,101,114,115,32,97,102,116,101,114,32,99,108,111,115,101,45,98,114,97,99,101]),.aF [.c (.str [78,79,78,69])]])])
 ([]),
 .ret (.call (.g 742) [.ite (.bG (.l 1) (.c (.int 1))) (.c (.str [])) (.c (.str [91,93]))])]
def uR:FT:=.fn 3 [] 3 EC
noncomputable def p8:List MS:=
 [.dE [3,4] (.aF [.aZ .fmod (.l 0) (.c (.int 16)),.aZ .fdiv (.l 0) (.c (.int 16))]),
 .bL 5 (.fP [.c (.str [111,107]),.c (.str [107]),.c (.str [99,111,110,116,105,110,117,101]),.c (.str [114,101,116,117,114,110]),.c (.str [115,105,120]),.c (.str [111,107]),.c (.str [107]),.c (.str [98,114,101,97,107]),.c (.str [101,114,114,111,114])]),
 .dE [6,7] (.aF [.bG (.l 5) (.aZ .fmod (.l 4) (.c (.int 9))),.bG (.l 5) (.aZ .fmod (.aZ .fdiv (.l 4) (.c (.int 9))) (.c (.int 9)))]),
 .ifs (.or [.aV .lt (.l 3) (.c (.int 5)),.aV .eq (.l 3) (.c (.int 7))])
 ([.ret (.call (.g 777) [.l 3,.l 4,.l 1,.l 2])])
 ([]),
 .ifs (.aV .eq (.l 3) (.c (.int 5)))
 ([.bL 8 (.ite (.bG (.l 1) (.c (.int 0))) (.aF [.c (.bool false),.c (.bool false),.c (.bool false)]) (.l 1)),
 .bL 9 (.call (.g 742) [.ite (.bG (.l 1) (.c (.int 0))) (.c (.str [])) (.c (.str [92]))]),
 .ifs (.aV .lt (.aZ .fmod (.l 4) (.c (.int 3))) (.c (.int 2)))
 ([.ret (.aZ .add (.l 9) (.call (.g 763) [.aZ .fmod (.l 4) (.c (.int 3)),.bG (.l 8) (.c (.int 2)),.l 2]))])
 ([]),
 .ret (.aZ .add (.l 9) (.call (.g 756) [.c (.str [49]),.bG (.l 5) (.aZ .fmod (.aZ .fdiv (.l 4) (.c (.int 3))) (.c (.int 9))),.bG (.l 8) (.c (.int 1))]))])
 ([]),
 .ifs (.aV .eq (.l 3) (.c (.int 6)))
 ([.ret (.ite (.bG (.l 1) (.c (.int 2))) (.fP [.aF [.c (.str [101,108,101,109,101,110,116]),.c (.str [50]),.l 6]]) (.aZ .add (.aZ .add (.call (.g 742) [.c (.str [36,121,40])]) (.call (.g 756) [.c (.str [50]),.l 6,.bG (.l 1) (.c (.int 1))])) (.call (.g 742) [.c (.str [41])])))])
 ([]),
 .ifs (.aV .lt (.l 3) (.c (.int 11)))
 ([.ret (.call (.g 756) [.c (.str [51]),.l 6,.bG (.l 1) (.c (.int 1))])])
 ([]),
 .ifs (.aV .eq (.l 3) (.c (.int 11)))
 ([.ifs (.bG (.l 1) (.c (.int 1)))
 ([.ret (.call (.g 756) [.c (.str [52]),.bG (.l 2) (.c (.str [120])),.c (.bool true)])])
 ([]),
 .ret (.aZ .add (.aZ .add (.call (.g 742) [.c (.str [91,99,97,108,108,32,52,32])]) (.call (.g 763) [.c (.int 0),.bG (.l 1) (.c (.int 2)),.l 2])) (.call (.g 742) [.c (.str [93])]))])
 ([]),
 .ifs (.aV .eq (.l 3) (.c (.int 12)))
 ([.ret (.call (.g 756) [.ite (.or [.bG (.l 1) (.c (.int 0)),.bG (.l 1) (.c (.int 1))]) (.c (.str [53])) (.c (.str [92,120,51,53])),.l 6,.bG (.l 1) (.c (.int 1))])])
 ([]),
 .ifs (.aV .eq (.l 3) (.c (.int 13)))
 ([.ret (.ite (.bG (.l 1) (.c (.int 1))) (.call (.g 770) [.c (.str [54]),.c (.str [55]),.l 6,.l 7]) (.call (.g 742) [.aZ .add (.aZ .add (.aZ .add (.aZ .add (.c (.str [91,99,97,108,108,32,54,32])) (.l 6)) (.c (.str [59,99,97,108,108,32,55,32]))) (.l 7)) (.c (.str [93]))]))])
 ([]),
 .ifs (.aV .eq (.l 3) (.c (.int 15)))
 ([.ret (.ite (.bG (.l 1) (.c (.int 1))) (.call (.g 770) [.c (.str [50]),.c (.str [51]),.l 6,.l 6]) (.call (.g 742) [.aZ .add (.aZ .add (.c (.str [91,99,97,108,108,32,51,32,91,99,97,108,108,32,50,32])) (.l 6)) (.c (.str [93,93]))]))])
 ([]),
 .ret (.call (.g 784) [.aZ .fmod (.l 4) (.c (.int 4)),.l 1,.l 2])]
def qk:FT:=.fn 3 [] 10 p8
noncomputable def EB:List MS:=
 [.ifs (.aV .eq (.l 0) (.c (.int 1)))
 ([.ret (.call (.g 749) [.bG (.l 1) (.c (.int 1)),.c (.str [91,99,97,108,108,32,56,32,107]),.c (.str [109,105,115,115,105,110,103,32,99,108,111,115,101,45,98,114,97,99,107,101,116]),.aF [.c (.str [78,79,78,69])]])])
 ([]),
 .ifs (.aV .eq (.l 0) (.c (.int 2)))
 ([.ret (.call (.g 749) [.bG (.l 1) (.c (.int 2)),.c (.str [36,123,120]),.c (.str [109,105,115,115,105,110,103,32,99,108,111,115,101,45,98,114,97,99,101,32,102,111,114,32,118,97,114,105,97,98,108,101,32,110,97,109,101]),.aF [.c (.str [78,79,78,69])]])])
 ([]),
 .ifs (.aV .eq (.l 0) (.c (.int 3)))
 ([.ret (.call (.g 749) [.bG (.l 1) (.c (.int 2)),.c (.str [36,121,40,107]),.c (.str [109,105,115,115,105,110,103,32,41]),.aF [.c (.str [78,79,78,69])]])])
 ([]),
 .ifs (.aV .eq (.l 0) (.c (.int 5)))
 ([.ret (.call (.g 749) [.bG (.l 1) (.c (.int 1)),.c (.str [91,99,97,108,108,32,56,32,34,107]),.c (.str [109,105,115,115,105,110,103,32,34]),.aF [.c (.str [78,79,78,69])]])])
 ([]),
 .ret (.call (.g 742) [.ite (.aV .eq (.l 0) (.c (.int 4))) (.c (.str [92])) (.c (.str []))])]
def uQ:FT:=.fn 2 [] 2 EB
noncomputable def oG:List MS:=
 [.bL 5 (.fP []),
 .for (.iM 6) (.val (.l 0))
 ([.bL 5 (.aZ .add (.l 5) (.call (.g 791) [.l 6,.l 2,.l 3]))]),
 .bL 7 (.c (.str [])),
 .for (.eS [8,9,10]) (.val (.aZ .add (.l 5) (.call (.g 798) [.l 1,.l 2])))
 ([.ifs (.aV .eq (.l 8) (.c (.str [102,97,117,108,116])))
 ([.ret (.aF [.c (.int 1),.l 9,.l 10])])
 ([]),
 .ifs (.aV .eq (.l 8) (.c (.str [112,117,116])))
 ([.bL 7 (.aZ .add (.l 7) (.l 9)),
 .cont])
 ([]),
 .expr (.bP .append (.l 4) [.l 9]),
 .ifs (.aV .eq (.l 10) (.c (.str [98,114,101,97,107])))
 ([.ret (.aF [.c (.int 0),.l 7,.aF []])])
 ([]),
 .ifs (.aV .eq (.l 10) (.c (.str [101,114,114,111,114])))
 ([.ret (.aF [.c (.int 1),.c (.str [119,114,111,110,103,32,36,120]),.aF [.c (.str [76,65,87]),.c (.str [36,120])]])])
 ([]),
 .ifs (.aV .eq (.l 8) (.c (.str [99,97,108,108])))
 ([.bL 7 (.aZ .add (.l 7) (.call (.g 728) [.l 10]))])
 ([.ifs (.and [.aV .eq (.l 8) (.c (.str [101,108,101,109,101,110,116])),.aV .eq (.l 10) (.c (.str [111,107]))])
 ([.bL 11 (.aZ .add (.aZ .add (.c (.str [121,40])) (.call (.g 728) [.c (.str [111,107])])) (.c (.str [41]))),
 .ret (.aF [.c (.int 1),.aZ .add (.aZ .add (.c (.str [99,97,110,39,116,32,114,101,97,100,32,34])) (.l 11)) (.c (.str [34,58,32,110,111,32,115,117,99,104,32,118,97,114,105,97,98,108,101])),.aF [.c (.str [84,67,76]),.c (.str [76,79,79,75,85,80]),.c (.str [86,65,82,78,65,77,69]),.l 11]])])
 ([.ifs (.aV .eq (.l 8) (.c (.str [101,108,101,109,101,110,116])))
 ([.bL 7 (.aZ .add (.l 7) (.ite (.aV .eq (.l 10) (.c (.str [107]))) (.bG (.l 3) (.c (.str [121,40,107,41]))) (.call (.g 728) [.l 10])))])
 ([])])])]),
 .ret (.aF [.c (.int 0),.l 7,.aF []])]
def uP:FT:=.fn 5 [] 12 oG
noncomputable def rP:List MS:=
 [.jl ([.ifs (.aV .eq (.l 2) (.aF [.c (.bool true),.c (.bool true),.c (.bool true)]))
 ([.ret (.aF [.c (.int 0),.call (.g 695) [.l 0,.l 1],.aF []])])
 ([]),
 .ret (.aF [.c (.int 0),.call (.g 695) [.l 0,.l 1,.bG (.l 2) (.c (.int 0)),.bG (.l 2) (.c (.int 1)),.bG (.l 2) (.c (.int 2))],.aF []])])
 (some 3) ([.ret (.aF [.cn (.l 3) 1,.cn (.l 3) 2,.cn (.l 3) 3])])]
def si:FT:=.fn 3 [] 4 rP
noncomputable def pZ:List MS:=
 [.ret (.aF [.aV .eq (.aZ .fmod (.l 0) (.c (.int 2))) (.c (.int 0)),.aV .eq (.aZ .fmod (.aZ .fdiv (.l 0) (.c (.int 2))) (.c (.int 2))) (.c (.int 0)),.aV .eq (.aZ .fmod (.aZ .fdiv (.l 0) (.c (.int 4))) (.c (.int 2))) (.c (.int 0))])]
def qh:FT:=.fn 1 [] 1 pZ
noncomputable def iq:List MS:=
 [.dE [2,3] (.aF [.fP [],.call (.g 819) [.l 0]]),
 .for (.iM 4) (.range (.c (.int 3)))
 ([.ifs (.not (.bG (.l 3) (.l 4)))
 ([.expr (.bP .append (.l 2) [.slice (.bG (.fP [.c (.str [45,110,111,98,97,99,107,115,108,97,115,104,101,115]),.c (.str [45,110,111,99,111,109,109,97,110,100,115]),.c (.str [45,110,111,118,97,114,105,97,98,108,101,115])]) (.l 4)) none (some (.aZ .add (.c (.int 4)) (.aZ .fmod (.aZ .fdiv (.l 0) (.c (.int 8))) (.c (.int 11)))))])])
 ([])]),
 .ifs (.aV .eq (.aZ .fmod (.aZ .fdiv (.l 0) (.c (.int 88))) (.c (.int 2))) (.c (.int 1)))
 ([.expr (.bP .reverse (.l 2) [])])
 ([]),
 .bL 5 (.aZ .fmod (.aZ .fdiv (.l 0) (.c (.int 176))) (.c (.int 6))),
 .ifs (.aV .eq (.l 5) (.c (.int 4)))
 ([.bL 6 (.c (.str [119,114,111,110,103,32,35,32,97,114,103,115,58,32,115,104,111,117,108,100,32,98,101,32,34,115,117,98,115,116,32,63,45,110,111,98,97,99,107,115,108,97,115,104,101,115,63,32,63,45,110,111,99,111,109,109,97,110,100,115,63,32,63,45,110,111,118,97,114,105,97,98,108,101,115,63,32,115,116,114,105,110,103,34])),
 .ret (.aF [.fP [.c (.str [115,117,98,115,116])],.aF [.c (.int 1),.l 6,.aF [.c (.str [84,67,76]),.c (.str [87,82,79,78,71,65,82,71,83])]]])])
 ([]),
 .ifs (.aV .ja (.l 5) (.fP [.c (.int 3),.c (.int 5)]))
 ([.bL 7 (.ite (.aV .eq (.l 5) (.c (.int 3))) (.c (.str [45,110,111])) (.c (.str [45,120]))),
 .bL 6 (.aZ .add (.aZ .add (.aZ .add (.ite (.aV .eq (.l 5) (.c (.int 3))) (.c (.str [97,109,98,105,103,117,111,117,115])) (.c (.str [98,97,100]))) (.c (.str [32,111,112,116,105,111,110,32,34]))) (.l 7)) (.c (.str [34,58,32,109,117,115,116,32,98,101,32,45,110,111,98,97,99,107,115,108,97,115,104,101,115,44,32,45,110,111,99,111,109,109,97,110,100,115,44,32,111,114,32,45,110,111,118,97,114,105,97,98,108,101,115]))),
 .ret (.aF [.aZ .add (.aZ .add (.fP [.c (.str [115,117,98,115,116])]) (.l 2)) (.fP [.l 7,.l 1]),.aF [.c (.int 1),.l 6,.aF [.c (.str [84,67,76]),.c (.str [76,79,79,75,85,80]),.c (.str [73,78,68,69,88]),.c (.str [111,112,116,105,111,110]),.l 7]]])])
 ([]),
 .ret (.aF [.aZ .add (.aZ .add (.fP [.c (.str [115,117,98,115,116])]) (.l 2)) (.fP [.l 1]),.aF []])]
def ql:FT:=.fn 2 [] 8 iq
noncomputable def nh:List MS:=
 [.jl ([.ret (.aF [.c (.int 0),.cj (.l 0) 17 [.l 1],.aF []])])
 (some 2) ([.ret (.aF [.cn (.l 2) 1,.cn (.l 2) 2,.cn (.l 2) 3])])]
def nz:FT:=.fn 2 [] 3 nh
noncomputable def kj:List MS:=
 [.bL 1 (.qc [[120],[121,40,107,41]] [.call (.g 721) [.call (.g 714) [.l 0,.c (.int 0)]],.call (.g 721) [.call (.g 714) [.l 0,.c (.int 1)]]]),
 .bL 2 (.call (.g 714) [.l 0,.c (.int 2)]),
 .bL 3 (.comp 14 (.call (.g 714) [.l 0,.aZ .add (.c (.int 3)) (.l 14)]) (.range (.aZ .add (.c (.int 2)) (.aZ .fmod (.l 2) (.c (.int 3)))))),
 .bL 4 (.aZ .fmod (.aZ .fdiv (.l 2) (.c (.int 3))) (.c (.int 6))),
 .bL 5 (.bG (.call (.g 805) [.l 3,.l 4,.aF [.c (.bool false),.c (.bool false),.c (.bool false)],.l 1,.fP []]) (.c (.int 1))),
 .dE [6,7,8] (.aF [.fP [],.fP [],.call (.g 664) []]),
 .expr (.call (.g 420) [.l 8]),
 .expr (.cj (.l 8) 39 [.call (.g 707) []]),
 .expr (.cj (.l 8) 39 [.qc [[99,97,108,108]] [.aF [.g 735,.l 6]]]),
 .for (.iM 9) (.val (.l 1))
 ([.expr (.cj (.l 8) 40 [.l 9,.bG (.l 1) (.l 9)])]),
 .for (.iM 10) (.range (.c (.int 8)))
 ([.bL 11 (.call (.g 819) [.l 10]),
 .ifs (.or [.aV .ne (.call (.g 812) [.l 8,.l 5,.l 11]) (.call (.g 805) [.l 3,.l 4,.l 11,.l 1,.l 7]),.aV .ne (.l 6) (.l 7)])
 ([.ret (.c (.bool false))])
 ([])]),
 .dE [12,13] (.call (.g 826) [.aZ .fdiv (.l 2) (.c (.int 18)),.l 5]),
 .ifs (.aV .eq (.l 13) (.aF []))
 ([.bL 13 (.call (.g 805) [.l 3,.l 4,.call (.g 819) [.aZ .fdiv (.l 2) (.c (.int 18))],.l 1,.l 7])])
 ([]),
 .ifs (.or [.aV .ne (.call (.g 833) [.l 8,.l 12]) (.l 13),.aV .ne (.l 6) (.l 7),.aV .ne (.cn (.l 8) 23) (.aZ .add (.b1 .len (.l 6)) (.c (.int 1))),.aV .ne (.cn (.l 8) 22) (.c (.int 0))])
 ([.ret (.c (.bool false))])
 ([]),
 .ret (.aV .eq (.comp 9 (.cj (.l 8) 16 [.l 9]) (.val (.l 1))) (.comp 9 (.bG (.l 1) (.l 9)) (.val (.l 1))))]
def PM:FT:=.fn 1 [] 15 kj
noncomputable def jW{α:Type}:List (Nat×α)->Nat->Option α
 | [],_=>none
 |(k,v)::r,n=>if beq k n=true then some v else jW r n
noncomputable def wV:List ((Nat×Nat)×Nat)->Nat->Nat->Option Nat
 | [],_,_=>none
 |((a,b),v)::r,n,m=>if(beq a n&&beq b m)=true then some v else wV r n m
noncomputable def SK:List (Nat×List (List Nat)):=[(81,[[115,101,108,102],[99,111,100,101],[118,97,108,117,101],[101,114,114,111,114,99,111,100,101],[108,101,118,101,108],[114,101,116]]),
 (139,[[116,101,120,116],[101,114,114,111,114,99,111,100,101]]),
 (146,[[117,115,97,103,101]]),
 (153,[[110,97,109,101,115]]),
 (160,[[119,104,97,116],[103,111,116],[110,97,109,101,115],[98,101,103,117,110],[110,97,109,101],[115,111,114,116]]),
 (167,[[116,101,120,116],[109,111,115,116]]),
 (174,[[114,97,105,115,101,100],[115,111,117,114,99,101]]),
 (209,[[99],[110]]),
 (216,[[116,101,120,116],[97,116],[109,111,115,116],[112,108,97,99,101],[118,97,108,117,101],[115,116,101,112]]),
 (223,[[116,101,120,116],[97,116],[112,108,97,99,101],[118,97,108,117,101],[115,116,101,112]]),
 (230,[[116,101,120,116],[97,116],[115,105,103,110],[107,110,111,119,110],[98,101,104,105,110,100]]),
 (237,[[99]]),
 (244,[[116,101,120,116],[97,116]]),
 (258,[[116,101,120,116],[97,116]]),
 (265,[[116,101,120,116],[97,116]]),
 (272,[[116,101,120,116],[97,116],[98,101,103,105,110],[99,108,111,115,101],[98,101,104,105,110,100],[105,110,100,101,120]]),
 (279,[[116,101,120,116],[97,116],[98,101,103,105,110],[112,108,97,99,101],[99,111,109,109,97,110,100]]),
 (286,[[116,101,120,116],[97,116],[115,105,122,101],[98,101,103,105,110],[112,108,97,99,101],[109,97,100,101],[100,101,112,116,104],[98,108,97,110,107],[98,101,104,105,110,100]]),
 (293,[[116,101,120,116],[97,116],[115,116,111,112,115],[112,97,114,116,115],[114,117,110],[115,105,122,101],[112,97,114,116],[115,99,114,105,112,116],[112,105,101,99,101],[98,101,103,105,110]]),
 (300,[[105,115,95,110,101,115,116,101,100]]),
 (307,[[116,101,120,116],[97,116],[98,101,104,105,110,100]]),
 (314,[[116,101,120,116],[97,116],[105,115,95,110,101,115,116,101,100],[105,115,95,101,120,112,97,110,100],[115,105,103,110],[105,110,110,101,114],[98,101,104,105,110,100],[112,97,114,116,115],[99,108,111,115,101]]),
 (322,[[116,101,120,116],[97,116],[105,115,95,110,101,115,116,101,100],[98,101,103,105,110],[115,105,122,101],[119,111,114,100,115],[112,108,97,99,101],[102,111,117,110,100],[101,110,100]]),
 (378,[[115,101,108,102]]),
 (392,[[104,111,115,116],[112,97,114,116,115],[109,97,100,101],[112,97,114,116],[105,110,100,101,120]]),
 (399,[[104,111,115,116],[119,111,114,100,115],[109,97,100,101],[119,111,114,100],[116,101,120,116]]),
 (406,[[114,97,105,115,101,100],[116,101,120,116],[98,101,103,105,110],[101,110,100]]),
 (413,[[104,111,115,116],[116,101,120,116],[114,101,115,117,108,116],[98,101,103,105,110],[101,110,100],[99,111,109,109,97,110,100],[119,111,114,100,115],[98,101,104,105,110,100],[114,97,105,115,101,100]]),
 (420,[[104,111,115,116]]),
 (435,[[115,101,108,102],[108,105,109,105,116],[102,117,101,108]]),
 (442,[[115,101,108,102],[110,97,109,101]]),
 (449,[[115,101,108,102]]),
 (463,[[115,101,108,102],[115,99,114,105,112,116],[114,117,110,110,101,114]]),
 (477,[[115,101,108,102],[119,111,114,100,115],[103,111,116]]),
 (512,[[118,101,114,98],[110,97,109,101],[119,104,121]]),
 (519,[[98,111,111,107],[110,97,109,101]]),
 (526,[[118,97,114],[107,105,110,100],[118,97,108,117,101]]),
 (540,[[101,110,116,114,121]]),
 (547,[[104,111,115,116],[119,111,114,100,115],[97,99,116,105,111,110],[100,97,116,97]]),
 (562,[[115,101,108,102],[108,105,109,105,116],[102,117,101,108]]),
 (576,[[115,101,108,102],[110,97,109,101]]),
 (583,[[115,101,108,102],[118,97,114],[110,97,109,101]]),
 (590,[[115,101,108,102],[118,97,114],[110,97,109,101],[118,97,108,117,101]]),
 (597,[[115,101,108,102],[110,97,109,101]]),
 (604,[[115,101,108,102],[110,97,109,101],[118,97,108,117,101]]),
 (633,[[115,101,108,102],[110,97,109,101],[97,99,116,105,111,110],[100,97,116,97]]),
 (640,[[115,101,108,102],[110,97,109,101]]),
 (647,[[115,101,108,102],[103,114,111,117,112],[110,97,109,101],[97,99,116,105,111,110],[100,97,116,97]]),
 (661,[[115,101,108,102],[119,111,114,100,115],[97,99,116,105,111,110],[100,97,116,97]]),
 (673,[[116,101,120,116],[97,116],[98,101,104,105,110,100],[99,111,109,109,97,110,100]]),
 (680,[[116,101,120,116],[97,116],[112,97,114,116],[98,101,104,105,110,100],[115,99,114,105,112,116],[102,97,117,108,116]]),
 (687,[[104,111,115,116],[112,97,114,116],[114,97,105,115,101,100]]),
 (695,[[104,111,115,116],[116,101,120,116],[105,115,95,98,97,99,107,115,108,97,115,104],[105,115,95,99,111,109,109,97,110,100],[105,115,95,118,97,114,105,97,98,108,101],[109,97,100,101],[97,116],[115,105,103,110],[103,111,116],[112,97,114,116],[102,97,117,108,116]]),
 (700,[[104,111,115,116],[119,111,114,100,115],[110,97,109,101,115],[111,102,102],[119,111,114,100]]),
 (707,[]),
 (714,[[115,99,114,105,112,116],[112,108,97,99,101]]),
 (721,[[110,117,109,98,101,114],[112,111,111,108],[111,117,116],[114,101,115,116],[116,117,114,110]]),
 (728,[[104,111,119],[107,110,111,119,110]]),
 (735,[[104,111,115,116],[119,111,114,100,115],[108,111,103],[104,111,119],[99,111,100,101]]),
 (742,[[116,101,120,116]]),
 (749,[[105,115,95,111,110],[116,101,120,116],[119,104,121],[101,114,114,111,114,99,111,100,101]]),
 (756,[[119,104,105,99,104],[104,111,119],[105,115,95,111,110]]),
 (763,[[119,104,105,99,104],[105,115,95,111,110],[98,111,111,107]]),
 (770,[[102,105,114,115,116],[115,101,99,111,110,100],[104,111,119],[108,97,115,116]]),
 (777,[[107,105,110,100],[114,101,115,116],[102,108,97,103,115],[98,111,111,107],[119,114,105,116,116,101,110]]),
 (784,[[119,104,105,99,104],[102,108,97,103,115],[98,111,111,107]]),
 (791,[[110,117,109,98,101,114],[102,108,97,103,115],[98,111,111,107],[107,105,110,100],[114,101,115,116],[104,111,119,115],[104,111,119],[108,97,115,116],[105,110,110,101,114],[97,104,101,97,100]]),
 (798,[[119,104,105,99,104],[102,108,97,103,115]]),
 (805,[[110,117,109,98,101,114,115],[101,110,100],[102,108,97,103,115],[98,111,111,107],[108,111,103],[100,101,101,100,115],[110,117,109,98,101,114],[111,117,116],[115,111,114,116],[102,105,114,115,116],[115,101,99,111,110,100],[110,97,109,101]]),
 (812,[[104,111,115,116],[116,101,120,116],[102,108,97,103,115],[102,97,117,108,116]]),
 (819,[[119,104,105,99,104]]),
 (826,[[110,117,109,98,101,114],[116,101,120,116],[111,112,116,105,111,110,115],[102,108,97,103,115],[112,108,97,99,101],[115,111,114,116],[119,104,121],[103,111,116]]),
 (833,[[104,111,115,116],[119,111,114,100,115],[102,97,117,108,116]]),
 (838,[[115,99,114,105,112,116],[98,111,111,107],[110,117,109,98,101,114],[110,117,109,98,101,114,115],[101,110,100],[116,101,120,116],[108,111,103],[99,97,108,108,115],[104,111,115,116],[110,97,109,101],[119,104,105,99,104],[102,108,97,103,115],[119,111,114,100,115],[100,117,101],[116,117,114,110]])]
def WG(f:Nat):List (List Nat):=(jW SK f).getD []
def lC:List (Nat×FT):=[(81,uc),
 (139,ID),
 (146,wA),
 (153,EV),
 (160,RN),
 (167,VT),
 (174,RM),
 (209,Nk),
 (216,A3),
 (223,wt),
 (230,yr),
 (237,IE),
 (244,yw),
 (258,nD),
 (265,yu),
 (272,yx),
 (279,A2),
 (286,IC),
 (293,ug),
 (300,wo),
 (307,ud),
 (314,RO),
 (322,wq),
 (378,sh),
 (392,EX),
 (399,A4),
 (406,Nj),
 (413,wz),
 (420,ma),
 (435,qf),
 (442,yq),
 (449,ny),
 (463,A1),
 (477,qe),
 (512,uf),
 (519,sk),
 (526,qm),
 (540,uU),
 (547,PL),
 (562,iX),
 (576,fg),
 (583,fZ),
 (590,fH),
 (597,iY),
 (604,iz),
 (633,jU),
 (640,hJ),
 (647,jT),
 (661,iy),
 (673,wu),
 (680,EW),
 (687,yt),
 (695,nE),
 (700,hM),
 (707,iZ),
 (714,nA),
 (721,uT),
 (728,qi),
 (735,EU),
 (742,uS),
 (749,qg),
 (756,mF),
 (763,qj),
 (770,sj),
 (777,nB),
 (784,uR),
 (791,qk),
 (798,uQ),
 (805,uP),
 (812,si),
 (819,qh),
 (826,ql),
 (833,nz),
 (838,PM),
 (84,.aR 81),
 (381,.cls (some 378)),
 (664,.cls (some 562))]
def prog(f:Nat):Option FT:=jW lC f
noncomputable def Dw:List ((Nat×Nat)×Nat):=[((664,0),562),((664,34),576),((664,33),583),((664,35),590),((664,16),597),((664,40),604),((664,37),633),((664,36),640),((664,39),647),((664,28),661),((664,27),442),((664,38),449),((664,15),463),((664,17),477),((664,29),484),((501,0),435),((501,27),442),((501,38),449),((501,15),463),((501,17),477),((501,29),484)]
def aB(c n:Nat):Option Nat:=wV Dw c n
end aD
namespace aD
open PySem PySem.W PySem.Calls PyProof.Rows Builtin Builtin.ObjectAttr
abbrev bp:=@wpAny_bind
abbrev bq:=@wpAny_pure
noncomputable abbrev SL(s:List Nat):Str:=⟨s.toArray⟩
def br(n:Nat):Str:=SL (dH.getD n [])
noncomputable def ib:Cm->CmpOp
 | .eq=>.Eq| .ne=>.NotEq| .lt=>.Lt| .le=>.LtE| .gt=>.Gt| .ge=>.GtE| .ja=>.In| .mf=>.NotIn| .is=>.Is| .kF=>.IsNot
noncomputable def jS:Op->Operator
 | .add=>.Add| .sub=>.Sub| .mul=>.Mult| .fdiv=>.FloorDiv| .fmod=>.Mod
noncomputable def jf:Expr->Bool| .Slice .. =>false|_=>true
section
variable {c:Cx} {FL:List bO} {fm:Fm} {hd:Option Nat} {n:Nat}
noncomputable def GF:B1->Str×Value
 | .len=>("len",.builtin "len")| .LX=>("ord",.builtin "ord")| .GG=>("chr",.builtin "chr")| .gH=>("tuple",.type "tuple")
noncomputable def Ug:BM->Str
 | .join=>"join" | .startswith=>"startswith" | .append=>"append" | .find=>"find" | .split=>"split" | .pop=>"pop" | .reverse=>"reverse"
end
section
variable {c:Cx} {FL:List bO} {fm:Fm} {hd:Option Nat} {n:Nat} {ρ ρ1:eP} {s s1:Shared}
noncomputable def dk:Expr->Bool| .ListComp .. =>false| .SetComp .. =>false| .DictComp .. =>false|_=>true
end
noncomputable def fk:List Nat->List Nat->Bool
 | [],[]=>true
 |a::r,b::q=>beq a b&&fk r q
 |_,_=>false
def tF(x:Str)(s:List Nat):Bool:=fk x.cps.toList s
def eF:List (Str×NameKind)->Str->Option NameKind
 | [],_=>none
 |(n,k)::r,x=>if fk x.cps.toList n.cps.toList then some k else eF r x
noncomputable def wN:Option NameKind->Bool|some .local=>true|_=>false
noncomputable def Jo:Option NameKind->Bool|some .local=>true|some .cell=>true|_=>false
noncomputable def aat:Option NameKind->Bool|some .local=>true|some .cell=>true|some .free=>true|_=>false
noncomputable def Jn:Option NameKind->Bool|some .globalImplicit=>true|_=>false
def Jc(x:Str):Bool:=fk x.cps.toList [95,95,100,101,98,117,103,95,95]
noncomputable def N6:List (List Nat)->Nat->Option (List Nat)
 | [],_=>none
 |s::_,0=>some s
 |_::r,n+1=>N6 r n
def mV(ns:List (List Nat))(i:Nat)(x:Str):Bool:=match N6 ns i with|some s=>tF x s|none=>false
def C2:List (List Nat×Nat)->Str->Option Nat
 | [],_=>none
 |(s,a)::r,x=>if tF x s then some a else C2 r x
noncomputable def on(e:Expr)(i:Nat)(f:e.ctorIdx=i->Bool):Bool:=if h:e.ctorIdx=i then f h else false
section
variable {α:Type}
noncomputable def FA(l:List α)(f:α->List α->Bool):Bool:=match l with| []=>false|x::r=>f x r
noncomputable def fD(l:List α):Bool:=match l with| []=>true|_::_=>false
noncomputable def m4(l:List α)(f:α->Bool):Bool:=FA l λx r=>fD r&&f x
def S6(l:List α)(f:α->α->Bool):Bool:=FA l λx r=>m4 r λy=>f x y
noncomputable def Te(o:Option α)(f:α->Bool):Bool:=match o with|none=>false|some x=>f x
noncomputable def UB(o:Option α):Bool:=match o with|none=>true|some _=>false
end
def rn(e:Expr)(f:Const->Nat->Pos->Bool):Bool:=on e 19 λh=>PySem.Expr.Constant.elim e h f
def dU(e:Expr)(f:Str->Pos->Bool):Bool:=on e 23 λh=>PySem.Expr.Name.elim e h f
def ji(e:Expr)(f:List Expr->Nat->Pos->Bool):Bool:=on e 25 λh=>PySem.Expr.Tuple.elim e h f
def Qg(e:Expr)(f:List Expr->Pos->Bool):Bool:=on e 24 λh=>PySem.Expr.List.elim e h f
def Qf(e:Expr)(f:Expr->Expr->Expr->Pos->Bool):Bool:=on e 5 λh=>PySem.Expr.IfExp.elim e h f
def Qa(e:Expr)(f:Expr->Operator->Expr->Pos->Bool):Bool:=on e 2 λh=>PySem.Expr.BinOp.elim e h f
def Qc(e:Expr)(f:List (Option Expr)->List Expr->Pos->Bool):Bool:=on e 6 λh=>PySem.Expr.Dict.elim e h f
def iL(e:Expr)(f:Expr->Str->Pos->Bool):Bool:=on e 20 λh=>PySem.Expr.Attribute.elim e h f
def zE(e:Expr)(f:Expr->Expr->Pos->Bool):Bool:=on e 21 λh=>PySem.Expr.Subscript.elim e h f
def zA(e:Expr)(f:Expr->List CmpOp->List Expr->Pos->Bool):Bool:=on e 15 λh=>PySem.Expr.Compare.elim e h f
def tc(e:Expr)(f:PySem.BoolOp->List Expr->Pos->Bool):Bool:=on e 0 λh=>PySem.Expr.BoolOp.elim e h f
def Th(e:Expr)(f:PySem.UnaryOp->Expr->Pos->Bool):Bool:=on e 3 λh=>PySem.Expr.UnaryOp.elim e h f
def DM(e:Expr)(f:Option Expr->Option Expr->Option Expr->Pos->Bool):Bool:=on e 26 λh=>PySem.Expr.Slice.elim e h f
def gB(e:Expr)(f:Expr->List Expr->List Keyword->Pos->Bool):Bool:=on e 16 λh=>PySem.Expr.Call.elim e h f
def Ta(e:Expr)(f:Expr->List Comprehension->Scope->Pos->Bool):Bool:=on e 8 λh=>PySem.Expr.ListComp.elim e h f
def JW(g:Comprehension)(f:Str->Expr->Bool):Bool:=fD g.ifs&&decide (g.is_async=0)&&dU g.target λx u_=>f x g.iter
noncomputable def M3(n:Nat)(e:Expr):Bool:=beq e.ctorIdx n
def lr:Expr->Bool:=M3 16
def q9:Expr->Bool:=M3 20
noncomputable def eT:Expr->Bool| .Starred .. =>true|_=>false
def fO:Expr->Bool:=M3 7
def dN:List Expr->Bool| []=>true|e::r=>!eT e&&dN r
def uq(x y:Str):Bool:=fk x.cps.toList y.cps.toList
noncomputable def pO(a:List Nat):Bool:=ble a.length 16777216&&a.all λc=>Nat.blt c 1114112
def vZ:MV->Const->Bool
 | .none,.none=>true
 | .bool a,.bool b=>a==b
 | .int a,.int b=>a==b
 | .str a,.str b=>tF b a&&pO a
 |_,_=>false
abbrev Ks:=List (Str×NameKind)
noncomputable def wM:NameKind->Bool| .free=>true|_=>false
noncomputable def Sv:NameKind->Bool| .cell=>true|_=>false
noncomputable def NL:NameKind->Bool| .local=>true|_=>false
noncomputable def kCF:Option NameKind->Bool|some .cell=>true|some .free=>true|_=>false
noncomputable def yX:Option NameKind->Bool|some .cell=>true|_=>false
noncomputable def Dg:ScopeKind->Bool| .function=>true|_=>false
def zQ(sc names:Ks):Ks:=names.map λz=>if wM z.2&&yX (eF sc z.1)then(z.1,.cell)else z
def qp(sc:Ks)(x:Str)(a:Nat):Bool:=Jn (eF sc x)&& !Jc x&&(match C2 RZ x with|some b=>beq b a|none=>false)
def jR(sc:Ks)(x y:Str):Bool:=uq x y&&Jn (eF sc x)
noncomputable def BE:List Nat:=[105,126]
def pA(x:Str)(k:Nat):Bool:=tF x (dH.getD k [])
def pB:List (List Nat)->Bool
 | []=>true
 |s::r=>!(r.any (fk s))&&pB r
section
variable (ns:List (List Nat))
def kW(sc:Ks)(i:Nat)(x:Str)(s:Scope):Bool:=
 mV ns i x&&Dg s.kind&&s.names.all (λz=>!NL z.2||wN (eF s.names z.1))&&s.names.all (λz=>!Sv z.2)
  &&s.names.all (λz=>!wM z.2||(ns.any (λt=>tF z.1 t)&&kCF (eF sc z.1)))&&wN (eF s.names x)
  &&ns.all (λt=>!wN (eF s.names (SL t))||tF x t)
def SJ(i:Nat)(sc:Ks)(x:Str):Bool:=mV ns i x&&aat (eF sc x)&& !Jc x&& !fk x.cps.toList [95,95,99,108,97,115,115,100,105,99,116,95,95]
def Sx(sc:Ks)(k:Uc)(w:Str):Bool:=match k with| .tuple=>jR sc w "tuple" | .m5 C=>qp sc w C&&BE.any (beq C)
def mB(o':Expr)(q:Bool)(bs:List Expr)(ap p:Pos):Bool:=!lr o'&&q&&dN bs&&Nat.blt bs.length 30&&beq ap.endLine p.line
mutual
def gq:ME->Ks->Bool->Expr->Bool
 | .c v,sc,ic,e=>rn e λc u_ u_=>vZ v c
 | .l i,sc,ic,e=>dU e λx u_=>SJ ns i sc x
 | .g a,sc,ic,e=>dU e λx u_=>qp sc x a
 | .aF es,sc,ic,e=>ji e λas u_ u_=>dN as&&ble es.length 16777216&&tN es sc ic as
 | .fP es,sc,ic,e=>Qg e λas u_=>dN as&&ble es.length 16777216&&tN es sc ic as
 | .qc ks es,sc,ic,e=>Qc e λkk vs u_=>ble ks.length 15&&pB ks&&Gy es sc ic ks kk vs
 | .aV op a b,sc,ic,e=>zA e λl os rs u_=>m4 os λo=>m4 rs λr=>decide (o=ib op)&& !fO r&&gq a sc ic l&&gq b sc ic r
 | .ju o1 o2 a b d,sc,ic,e=>zA e λl os rs u_=>S6 os λp1 p2=>S6 rs λr r2=>decide (p1=ib o1)&&decide (p2=ib o2)&& !fO r2&&gq a sc ic l&&gq b sc ic r&&gq d sc ic r2
 | .and _,_,_,_=>false
 | .or _,_,_,_=>false
 | .not _,_,_,_=>false
 | .neg a,sc,ic,e=>Th e λo x u_=>decide (o= .USub)&&gq a sc ic x
 | .ite t a b,sc,ic,e=>Qf e λt' a' b' u_=>UJ t sc ic t'&&gq a sc ic a'&&gq b sc ic b'
 | .aZ op a b,sc,ic,e=>Qa e λl o r u_=>decide (o=jS op)&&gq a sc ic l&&gq b sc ic r
 | .cn o k,sc,ic,e=>iL e λo' x u_=>!lr o'&&pA x k&&gq o sc ic o'
 | .bG o i,sc,ic,e=>zE e λo' i' u_=>jf i'&&gq o sc ic o'&&gq i sc ic i'
 | .slice o lo hi,sc,ic,e=>zE e λo' i' u_=>DM i' λYK Yx st u_=>UB st&&gq o sc ic o'&&trO lo sc ic YK&&trO hi sc ic Yx
 | .b1 k a,sc,ic,e=>gB e λf as ks u_=>fD ks&&(m4 as λx=>dU f λy u_=>jR sc y (GF k).1&& !eT x&&gq a sc ic x)
 | .cR a k,sc,ic,e=>gB e λf as ks u_=>fD ks&&(S6 as λx z=>dU f λy u_=>dU z λw u_=>jR sc y "isinstance" && !eT x&&gq a sc ic x&&Sx sc k w)
 | .call f as,sc,ic,e=>gB e λg bs ks u_=>fD ks&& !q9 g&&dN bs&&gq f sc ic g&&tN as sc ic bs
 | .cj o k as,sc,ic,e=>gB e λg bs ks p=>fD ks&&(iL g λo' x ap=>mB o' (pA x k) bs ap p&&gq o sc ic o'&&tN as sc ic bs)
 | .bP k o as,sc,ic,e=>gB e λg bs ks p=>fD ks&&(iL g λo' x ap=>mB o' (uq x (Ug k)) bs ap p&&gq o sc ic o'&&tN as sc ic bs)
 | .fV cl k as,sc,ic,e=>gB e λg bs ks p=>fD ks&&(iL g λo' x ap=>mB o' (pA x 0) bs ap p&&(dU o' λy u_=>qp sc y 501&&beq cl 501&&beq k 0)&&tN as sc ic bs)
 | .dJ as,sc,ic,e=>gB e λg bs ks p=>fD ks&&(iL g λo' x ap=>mB o' (uq x "__init__") bs ap p&&(dU o' λy u_=>jR sc y "Exception")&&tN as sc ic bs)
 | .comp i elt it,sc,ic,e=>Ta e λkz gs s u_=>m4 gs λg=>JW g λx iter=>!ic&&kW ns sc i x s&& !fO iter&&XM it sc ic iter&&gq elt (zQ sc s.names) true kz
 | .ia,_,_,_=>true
def UJ:ME->Ks->Bool->Expr->Bool
 | .and es,sc,ic,e=>tc e λo as u_=>(match o with| .And=>true| .Or=>false)&&Lv es sc ic as
 | .or es,sc,ic,e=>tc e λo as u_=>(match o with| .And=>false| .Or=>true)&&Lv es sc ic as
 | .not a,sc,ic,e=>Th e λo x u_=>decide (o= .Not)&&UJ a sc ic x
 | .aV op a b,sc,ic,e=>zA e λl os rs u_=>m4 os λo=>m4 rs λr=>decide (o=ib op)&& !fO r&&gq a sc ic l&&gq b sc ic r
 | .ju o1 o2 a b d,sc,ic,e=>zA e λl os rs u_=>S6 os λp1 p2=>S6 rs λr r2=>decide (p1=ib o1)&&decide (p2=ib o2)&& !fO r2&&gq a sc ic l&&gq b sc ic r&&gq d sc ic r2
 | .l i,sc,ic,e=>dU e λx u_=>SJ ns i sc x
 | .c v,sc,ic,e=>rn e λc u_ u_=>vZ v c
 | .cn o k,sc,ic,e=>iL e λo' x u_=>!lr o'&&pA x k&&gq o sc ic o'
 | .bG o i,sc,ic,e=>zE e λo' i' u_=>jf i'&&gq o sc ic o'&&gq i sc ic i'
 | .call f as,sc,ic,e=>gB e λg bs ks u_=>fD ks&& !q9 g&&dN bs&&gq f sc ic g&&tN as sc ic bs
 | .bP k o as,sc,ic,e=>gB e λg bs ks p=>fD ks&&(iL g λo' x ap=>mB o' (uq x (Ug k)) bs ap p&&gq o sc ic o'&&tN as sc ic bs)
 | .cR a k,sc,ic,e=>gB e λf as ks u_=>fD ks&&(S6 as λx z=>dU f λy u_=>dU z λw u_=>jR sc y "isinstance" && !eT x&&gq a sc ic x&&Sx sc k w)
 | .ia,_,_,_=>true
 | .g _,_,_,_=>false| .aF _,_,_,_=>false| .fP _,_,_,_=>false| .qc _ _,_,_,_=>false| .neg _,_,_,_=>false| .ite _ _ _,_,_,_=>false| .aZ _ _ _,_,_,_=>false
 | .slice _ _ _,_,_,_=>false| .b1 _ _,_,_,_=>false| .cj _ _ _,_,_,_=>false| .fV _ _ _,_,_,_=>false| .dJ _,_,_,_=>false| .comp _ _ _,_,_,_=>false
def XM:MI->Ks->Bool->Expr->Bool
 | .val a,sc,ic,e=>gq a sc ic e
 | .range a,sc,ic,e=>gB e λf as ks u_=>fD ks&&(m4 as λx=>dU f λy u_=>jR sc y "range" && !eT x&&gq a sc ic x)
def trO:Option ME->Ks->Bool->Option Expr->Bool
 | .none,_,_,e=>UB e
 |some a,sc,ic,e=>Te e λe=>gq a sc ic e
def tN:List ME->Ks->Bool->List Expr->Bool
 | [],_,_,es=>fD es
 |a::r,sc,ic,es=>FA es λe es=>gq a sc ic e&&tN r sc ic es
def Lv:List ME->Ks->Bool->List Expr->Bool
 | [],_,_,es=>fD es
 |a::r,sc,ic,es=>FA es λe es=>UJ a sc ic e&&Lv r sc ic es
def Gy:List ME->Ks->Bool->List (List Nat)->List (Option Expr)->List Expr->Bool
 | [],_,_,ks,kk,es=>fD ks&&fD kk&&fD es
 |a::r,sc,ic,ks,kk,es=>FA ks λk ks=>FA kk λke P0=>FA es λe es=>(Te ke λke=>rn ke λc u_ u_=>(match c with| .str s=>tF s k&&pO k|_=>false))&&gq a sc ic e&&Gy r sc ic ks P0 es
end
end
noncomputable def n8(e:Stmt)(i:Nat)(f:e.ctorIdx=i->Bool):Bool:=if h:e.ctorIdx=i then f h else false
noncomputable def JU(e:Stmt)(f:Expr->Pos->Bool):Bool:=n8 e 24 λh=>Stmt.Expr.elim e h f
def zx(e:Stmt)(f:List Expr->Expr->Pos->Bool):Bool:=n8 e 5 λh=>Stmt.Assign.elim e h f
def JQ(e:Stmt)(f:Expr->Operator->Expr->Pos->Bool):Bool:=n8 e 7 λh=>Stmt.AugAssign.elim e h f
def W6(e:Stmt)(f:Expr->List Stmt->List Stmt->Pos->Bool):Bool:=n8 e 12 λh=>Stmt.If.elim e h f
def DQ(e:Stmt)(f:Expr->List Stmt->List Stmt->Pos->Bool):Bool:=n8 e 11 λh=>Stmt.While.elim e h f
def Qe(e:Stmt)(f:Expr->Expr->List Stmt->List Stmt->Pos->Bool):Bool:=n8 e 9 λh=>Stmt.For.elim e h f
def J5(e:Stmt)(f:Option Expr->Pos->Bool):Bool:=n8 e 3 λh=>Stmt.Return.elim e h f
def onRaise(e:Stmt)(f:Option Expr->Option Expr->Pos->Bool):Bool:=n8 e 16 λh=>Stmt.Raise.elim e h f
def J7(e:Stmt)(f:List Stmt->List ExceptHandler->List Stmt->List Stmt->Pos->Bool):Bool:=n8 e 17 λh=>Stmt.Try.elim e h f
def J3(e:Stmt)(f:Pos->Bool):Bool:=n8 e 25 λh=>Stmt.Pass.elim e h f
def Qb(e:Stmt)(f:Pos->Bool):Bool:=n8 e 26 λh=>Stmt.Break.elim e h f
def JS(e:Stmt)(f:Pos->Bool):Bool:=n8 e 27 λh=>Stmt.Continue.elim e h f
def onH(g:ExceptHandler)(f:Str->Option Str->Stmt->List Stmt->Bool):Bool:=match g with| .ExceptHandler t x b _=>Te t λt=>dU t λy u_=>FA b λh0 h=>f y x h0 h
def UH(sc:Ks)(ts:List Expr):List Str:=ts.filterMap λt=>match t with
 | .Name Wt pos=>if wN (eF sc Wt)&&pos.line==((ts.head?.map (·.pos.line)).getD 0)then some Wt else none
 |_=>none
def swK(sc:Ks)(ts vs:List Expr):Option (Option (List Str)):=
 if !(ts.length==2||ts.length==3)||vs.length !=ts.length then some none
 else if vs.any eT then some none
 else if(UH sc ts).length !=ts.length||(UH sc ts).eraseDups.length !=(UH sc ts).length then some none
 else if vs.all (foldedForSure 8)then some none
 else if vs.all (constantsAlone 8)then none
 else some (some (UH sc ts))
def YT(sc:Ks)(s:Scope)(y:Str)(a b:Nat):Bool:=wN (eF sc y)&&(a==b)&&s.names.all λz=>!(z.1==y&&(z.2== .local||z.2== .cell))
section
variable (ns:List (List Nat))
def z8(sc:Ks)(i:Nat)(x:Str):Bool:=mV ns i x&&Jo (eF sc x)
def XK(sc:Ks):List Nat->List Expr->Bool
 | [],es=>fD es
 |i::xs,es=>FA es λe es=>(dU e λx u_=>z8 ns sc i x)&&XK sc xs es
def tg1(sc:Ks):Tg->Expr->Bool
 | .iM i,e=>dU e λx u_=>z8 ns sc i x
 | .eS xs,e=>ji e λes u_ u_=>XK ns sc xs es
def JH(sc:Ks):List Nat->List Str->Bool
 | [],r=>fD r
 |i::xs,r=>FA r λx r=>z8 ns sc i x&&JH sc xs r
noncomputable def By:List Nat->Bool
 | []=>true
 |i::r=>!(r.any (beq i))&&By r
def swB(sc:Ks)(xs:List Nat)(es vs:List Expr):Bool:=match swK sc es vs with
 |some .none=>true
 |some (some names)=>JH ns sc xs names&&By xs
 |none=>false
def ZE(sc:Ks):Option Nat->Option Str->Bool
 | .none,o=>UB o
 |some i,o=>Te o λz=>mV ns i z&&wN (eF sc z)
noncomputable def Q9(a:ME)(f:Nat->ME->MI->Bool)(g:Bool):Bool:=if h:a.ctorIdx=(ME.comp 0 .ia (.val .ia)).ctorIdx then ME.comp.elim a h f else g
mutual
def trS:MS->Ks->Stmt->Bool
 | .expr a,sc,st=>JU st λe u_=>dk e&&gq ns a sc false e
 | .bL i a,sc,st=>zx st λts e u_=>m4 ts λt=>dU t λx p=>z8 ns sc i x&&Q9 a (λj elt it=>Ta e λkz gs s p2=>m4 gs λg=>JW g λy iter=>YT sc s x p.line p2.line&&kW ns sc j y s&& !fO iter&&XM ns it sc false iter&&gq ns elt (zQ sc s.names) true kz) (dk e&&gq ns a sc false e)
 | .dE xs a,sc,st=>zx st λts e u_=>m4 ts λt=>ji t λes u_ u_=>dk e&&gq ns a sc false e&&XK ns sc xs es&&(!M3 25 e||ji e λvs u_ u_=>swB ns sc xs es vs)
 | .c3 o k a,sc,st=>zx st λts e u_=>m4 ts λt=>iL t λo' x u_=>dk e&&pA x k&&gq ns a sc false e&&gq ns o sc false o'
 | .mq o i a,sc,st=>zx st λts e u_=>m4 ts λt=>zE t λo' i' u_=>dk e&&gq ns a sc false e&&gq ns o sc false o'&&gq ns i sc false i'
 | .mZ i op a,sc,st=>JQ st λt o e u_=>dU t λx u_=>z8 ns sc i x&&decide (o=jS op)&&gq ns a sc false e
 | .mr o k op a,sc,st=>JQ st λt b e u_=>iL t λo' x u_=>pA x k&&decide (b=jS op)&&gq ns o sc false o'&&gq ns a sc false e
 | .ifs t a b,sc,st=>W6 st λt' a' b' u_=>UJ ns t sc false t'&&qO a sc a'&&qO b sc b'
 | .while t a,sc,st=>DQ st λt' a' b' u_=>fD b'&&UJ ns t sc false t'&&qO a sc a'
 | .for x it a,sc,st=>Qe st λt' i' a' b' u_=>fD b'&&tg1 ns sc x t'&& !fO i'&&XM ns it sc false i'&&qO a sc a'
 | .ret a,sc,st=>J5 st λe u_=>Te e λe=>gq ns a sc false e
 | .uo,sc,st=>J5 st λe u_=>UB e
 | .cW a,sc,st=>onRaise st λe e2 u_=>UB e2&&Te e λe=>gq ns a sc false e
 | .jl b x h,sc,st=>J7 st λb' hs o g u_=>fD o&&fD g&&(m4 hs λhh=>onH hh λy x' h0 hr=>qp sc y 84&&ZE ns sc x x'&&qO b sc b'&&qO h sc (h0::hr))
 | .qP b f,sc,st=>J7 st λb' hs o g u_=>fD hs&&fD o&&(FA g λf0 fr=>qO b sc b'&&qO f sc (f0::fr))
 | .brk,_,st=>Qb st λu_=>true
 | .cont,_,st=>JS st λu_=>true
 | .um,_,st=>J3 st λu_=>true
 | .ia,_,_=>true
def qO:List MS->Ks->List Stmt->Bool
 | [],_,ss=>fD ss
 |a::r,sc,ss=>FA ss λs ss=>trS a sc s&&qO r sc ss
end
end
noncomputable def ND{α:Type}(f:α->List α->Bool)(l:List α):Bool:=match l with
 | []=>false
 |a::r=>f a r
noncomputable def vNo(x:Value):Bool:=match x with| .none=>true|_=>false
noncomputable def vBo(a:Bool)(x:Value):Bool:=match x with| .bool b=>a==b|_=>false
noncomputable def vIn(a:Int)(x:Value):Bool:=match x with| .int b _=>a==b|_=>false
def vSt(a:List Nat)(x:Value):Bool:=match x with| .str b _=>tF b a&&pO a|_=>false
noncomputable def vRf(f:Addr->Bool)(x:Value):Bool:=match x with| .ref T=>f T|_=>false
noncomputable def Zr(f:Array Value->Bool)(d:Data):Bool:=match d with| .seq ws _=>f ws|_=>false
noncomputable def YQ(f:Obj->Bool)(o:Option Obj):Bool:=match o with|some o=>f o|_=>false
noncomputable def tyB(x:Value)(s:String):Bool:=match x with| .type t=>t==s|_=>false
mutual
def vrB(K:Frag):MV->Value->Bool
 | .none=>vNo
 | .bool a=>vBo a
 | .int a=>vIn a
 | .str a=>vSt a
 | .aF vs=>vRf λT=>YQ (λo=>tyB o.cls "tuple" &&Zr (λws=>Pd K vs ws.toList&&ble vs.length 16777216) o.data) (K.lookup T)
 | .ref _=>λu_=>false
 | .dg _=>λu_=>false
def Pd(K:Frag):List MV->List Value->Bool
 | []=>isEmpty
 |v::r=>ND λx q=>vrB K v x&&Pd K r q
end
def Dl:Ks->Bool
 | []=>true
 |z::r=>!(r.any λy=>uq z.1 y.1)&&Dl r
def psB:List Arg->List (List Nat)->Bool
 | []=>isEmpty
 |a::r=>ND λs q=>tF a.arg s&&psB r q
def dfB(K:Frag)(d:Value)(eN:List MV):Bool:=(vNo d&&eN.isEmpty)||vRf (λT=>YQ (λo=>Zr (λitems=>Pd K eN items.toList) o.data) (K.lookup T)) d
def fdB(K:Frag)(fd:FuncData)(ns:List (List Nat))(np:Nat)(eN:List MV)(nl:Nat)(body:List MS)(bd:List Stmt):Bool:=
 beq fd.globals mainGlobals&&beq fd.builtins builtinsNs&&fd.closure.isEmpty&&codeIn K fd.code fd.qualname&&Dg fd.scope.kind&& !fd.scope.isCoroutine&& !fd.scope.isGenerator
  &&fd.params.posonlyargs.isEmpty&&fd.params.kwonlyargs.isEmpty&&fd.params.vararg.isNone&&fd.params.kwarg.isNone&&psB fd.params.args (ns.take np)&&ble np ns.length&&beq ns.length nl
  &&pB ns&&Dl fd.scope.names&&(ns.take np).all (λs=>Jo (eF fd.scope.names (SL s)))&&ns.all (λs=>!fk s [95,95,99,108,97,115,115,100,105,99,116,95,95])
  &&fd.scope.names.all (λz=>!wM z.2)&&dfB K fd.defaults eN&&ble eN.length np&&qO ns body fd.scope.names bd
noncomputable def dFn(f:FuncData->Bool)(d:Data):Bool:=match d with| .func fd=>f fd|_=>false
noncomputable def bSt(f:List Stmt->Bool)(b:FuncBody):Bool:=match b with| .stmts bd=>f bd|_=>false
def ZF(K:Frag)(f:Nat)(ns:List (List Nat))(np:Nat)(eN:List MV)(nl:Nat)(body:List MS):Bool:=YQ (λo=>dFn (λfd=>bSt (λbd=>fdB K fd ns np eN nl body bd) fd.body) o.data) (K.lookup f)
noncomputable def u3(o:Option (Option Value))(a:Nat):Bool:=match o with|some (some (.ref b))=>beq b a|_=>false
noncomputable def pF(o:Option (Option Value)):Bool:=match o with|some none=>true|_=>false
noncomputable def qs(o:Option (Option Value))(s:String):Bool:=match o with|some (some (.builtin t))=>t==s|_=>false
noncomputable def yS(o:Option Value)(s:String):Bool:=match o with|some (.type t)=>t==s|_=>false
def Lu(K:Frag):Bool:=RZ.all (λp=>u3 (nsIn K mainGlobals (SL p.1)) p.2)&&pF (nsIn K mainGlobals (GF .len).1)&&pF (nsIn K mainGlobals (GF .LX).1)&&pF (nsIn K mainGlobals (GF .GG).1)&&pF (nsIn K mainGlobals (GF .gH).1)
 &&pF (nsIn K mainGlobals "isinstance")&&pF (nsIn K mainGlobals "range")&&pF (nsIn K mainGlobals "Exception")&&BE.all (λC=>isNotIn K "str" C)
noncomputable def Dy:List Nat:=[2,10,11,12,13,14,18,19,20,21,22,23,24,25,26,30,31,32]
noncomputable def JD:List Nat:=[1,2,3,4,5,6,7,8,9]
def CK(K:Frag)(C:Nat):Bool:=qs (findIn K (.ref C) "__getattribute__") "object.__getattribute__" &&qs (findIn K (.ref C) "__setattr__") "object.__setattr__" &&plainOver K C&&pF (findIn K (.ref C) "__getattr__")
 &&(clsIn K C).any (·.hasDict)&&Dy.all (λn=>pF (findIn K (.ref C) (br n)))
def k4B:List (Option Value)->Bool:=ND λu_=>ND λu_=>ND λu_=>ND λu_=>ND λk4 r=>qs (some k4) "Exception.__new__" &&ND (λu_ l=>l.isEmpty) r
noncomputable def cdB(d:Data):Bool:=match d with
 | .cls cd=>cd.hasDict&& !cd.hasDel&&(cd.mro== [.ref 84,.type "Exception",.type "BaseException",.type "object"])
 |_=>false
def wj(o:Option Obj):Bool:=match o with
 |some o=>yS (some o.cls) "type" &&cdB o.data&&k4B o.slots.toList
 |_=>false
noncomputable def D7:Value->Bool| .str _ _=>true|_=>false
def Iv(K:Frag)(o:Option Obj)(fi:Nat):Bool:=match o with
 |some ⟨_,_,.cls cd,_⟩=>(match K.lookup cd.ns with
  |some ⟨_,_,.dict es _,_⟩=>es.toList.all (λe=>D7 e.key)&&u3 (some (nsFind es "__init__")) fi
  |_=>false)
 |_=>false
noncomputable def Dh(o:Option Obj):Bool:=match o with|some ⟨.type t,_,_,_⟩=>t== "function" |_=>false
def PD(K:Frag):Bool:=qs (findIn K (.ref 84) "__getattribute__") "BaseException.__getattribute__" &&qs (findIn K (.ref 84) "__setattr__") "object.__setattr__" &&pF (findIn K (.ref 84) "__getattr__")&&wj (K.lookup 84)
 &&JD.all (λn=>pF (findIn K (.ref 84) (br n)))
def HW(K:Frag):Bool:=CK K 381&&CK K 664&&PD K&&Dh (K.lookup 700)
def zj(K:Frag):Bool:=Dw.all λp=>!me p.1.1||(u3 (findIn K (.ref p.1.1) (br p.1.2)) p.2&&yS (typeIn K (.ref p.2)) "function" &&Nat.blt p.1.2 dH.length)
noncomputable def Jf(o:Option CFound)(a:Nat):Bool:=match o with|some (.val (.ref b))=>beq b a|_=>false
def yL(K:Frag):Bool:=Jf (findCls K (.ref 501) (.type "type") (br 0)) 435&&qs (specialIn K (.ref 501) "__getattribute__") "type.__getattribute__" &&readsIn K 501 (.type "type")
def Ys(K:Frag)(f:Nat):FT->Bool
 | .fn np eN nl body=>ZF K f (WG f) np eN nl body
 | .cls none=>false
 | .cls (some i)=>me f&&makesIn K f&&u3 (findIn K (.ref f) "__init__") i&&yS (typeIn K (.ref i)) "function"
 | .aR i=>beq f 84&&wj (K.lookup 84)&&Iv K (K.lookup 84) i&&Dh (K.lookup i)
def DX(K:Frag)(p:Nat×FT):Bool:=keepIn K (.ref p.1)&&Ys K p.1 p.2
noncomputable def w9(K:Frag):Bool:=K.all λp=>match p.2.cls with| .type s=>!(s== "list")|_=>true
section
noncomputable abbrev PP:Program:=PySem.Challenge.rw_np0157_01.row.toRowW.1
noncomputable def zL:Pos:={line:=0,col:=0,endLine:=0,endCol:=0}
noncomputable def RD:PySem.Env:={scope:=PP.main.scope,locals:=mainNs,globals:=mainNs,cells:=[],code:=Value.ref 13,frame:=some 14}
noncomputable def cT:Code:=.body (behindTheImports PP) RD
noncomputable def o43:Obj:={cls:=Value.type "tuple",data:=Data.seq (Array.mk [])}
noncomputable def o44:Obj:={cls:=Value.none,data:=Data.fields (Array.mk [])}
noncomputable def o45:Obj:={cls:=Value.type "code",data:=Data.fields (Array.mk
    [Value.str (Str.ofString "<module>") 182,Value.str (Str.ofString "<module>") 183,
     Value.str (Str.ofString "/claim/cut.py") 184,Value.int 1 0,Value.int 0 0,Value.int 0 0,Value.int 0 0,
     Value.int 0 0,Value.ref 11,Value.bool false,Value.int 181 0,Value.ref 12,Value.none,Value.none,
     Value.none,Value.none,Value.int 185 0,Value.int 1 0,Value.str (Str.ofString "/claim/cut.py") 186])}
noncomputable def o46:Obj:={cls:=Value.type "frame",slots:=Array.mk [some (Value.ref 13),some (Value.ref 3),some (Value.ref 3),none,some (Value.str (Str.ofString "__main__") 164),none,some (Value.ref 0)]}
noncomputable def PV(P:Params):Heap:={objs:=Array.mk [boot_o_0 P,boot_o_1 P,boot_o_2 P,boot_o_3 P,boot_o_4 P,boot_o_5 P,boot_o_6 P,boot_o_7 P,boot_o_8 P,boot_o_9 P,boot_o_10 P,o43,o44,o45,o46]}
noncomputable def QE(P:Params):BT:=
 BT.node (boot_o_0 P)
  (BT.node (boot_o_1 P)
   (BT.node (boot_o_3 P) (BT.node (boot_o_7 P) BT.nil BT.nil) (BT.node o43 BT.nil BT.nil))
   (BT.node (boot_o_5 P) (BT.node (boot_o_9 P) BT.nil BT.nil) (BT.node o45 BT.nil BT.nil)))
  (BT.node (boot_o_2 P)
   (BT.node (boot_o_4 P) (BT.node (boot_o_8 P) BT.nil BT.nil) (BT.node o44 BT.nil BT.nil))
   (BT.node (boot_o_6 P) (BT.node (boot_o_10 P) BT.nil BT.nil) (BT.node o46 BT.nil BT.nil)))
theorem TP(N:Nat)(hN:ble 600 N=true):∀w:World,(fencedOpening treeTable PP w N).map (λs=>(s.heap,s.gens,s.drawn,s.toks))=some (boot_heap w.params,Array.mk [],boot_drawn,boot_toks):=
 boot_open (by kernel_rfl) hN (λs=>by rfl)
theorem TQ:∀w:World,((boot_heap w.params).isNs mainGlobals&&(Array.mk []:Array GenState).size==0,(boot_heap w.params).objs.size,(boot_heap w.params).nsMap mainGlobals "__annotations__")=(true,11,some (.ref 6)):=by
 intro w;kernel_rfl
theorem XH:∀w:World,(λos=>topGo treeTable PP w 11 (some (Value.ref 6)) 12 {heap:=boot_heap w.params,drawn:=boot_drawn,toks:=boot_toks,os:=os} (topStub PP))=λos=>
  some ({heap:=PV w.params,toks:=187,os:=os},{cur:=denote treeTable cT,code:=cT,pos:=zL,stack:=[topFrame zL]}):=by
 intro w;rw[PySem.W.Fast.te15667345088766844465,PySem.W.Fast.te11892475500146522536]
 kernel_rfl
theorem O2:∀w:World,(λos=>segRun treeTable PP w 11 (some (Value.ref 6)) 1 1 {heap:=PV w.params,toks:=187,os:=os} (blockOf (behindTheImports PP) RD cT zL [topFrame zL]))=λos=>
  some (Flow.next,(SharedT.mk (QE w.params) 15 {} #[] {} 187 os).abs,cT,zL):=by
 intro w;rw[PySem.W.Fast.te14374325043358763698]
 kernel_rfl
end
section
theorem Xs:PySem.W.Fast.tw17960256430627541270 (PySem.W.Fast.tw2368527892694137696 PySem.Challenge.rw_np0157_01)=true:=by kernel_rfl
theorem Xr:PySem.Challenge.rw_np0157_01.wellSaid=true:=by
 rw[PySem.W.Fast.te9446332074065402090];delta PySem.W.Fast.tw9446332074065402090
 repeat' with_reducible refine look_both ?_ ?_
 exact Xs
 all_goals kernel_rfl
end
section
noncomputable def Tt:Pos:={line:=810,col:=0,endLine:=831,endCol:=78}
noncomputable def EZ(w:World)(s:Shared):Option Shared:=topRun treeTable PP w 11 (some (Value.ref 6)) 2 s {cur:=doneF Flow.next,code:=cT,pos:=Tt,stack:=[topFrame zL]}
noncomputable def N9(w:World)(s:Shared):Bool:=staticsOk (importedModules PP.main.body) (boot_heap w.params) s.heap&&namesBound PP s.heap&&gensDone s&&laidKept (boot_heap w.params) s.heap
noncomputable def qT:Program:=view PP [86]
noncomputable def ph:List Str:=PP.boundNames.filter λn=>n != "law"
noncomputable def KN(w:World)(os:OsState):Option (Flow×SharedT×Code×Pos):=segRunT treeTable PP w 11 (some (.ref 6)) 1 5202 {tree:=QE w.params,n:=15,life:={},gens:=Array.mk [],drawn:={},toks:=187,os:=os} (piecesOf (behindTheImports PP) RD cT zL [topFrame zL])
noncomputable def Bp:List Nat->Nat->List Obj->Frag
 | [],_,_=>[]
 |_::_,_,[]=>[]
 |a::as,i,o::r=>match beq a i with
  |true=>(match o with
   |⟨_,_,.freed,_⟩=>Bp as (i+1) r
   |o=>(i,o)::Bp as (i+1) r)
  |false=>Bp (a::as) (i+1) r
noncomputable def kAd:List Nat:=[2,3,73,74,80,81,83,84,105,126,131,132,138,139,145,146,152,153,159,160,166,167,173,174,208,209,215,216,222,223,229,230,236,237,243,244,257,258,264,265,271,272,278,279,285,286,292,293,299,300,306,307,313,314,315,321,322,377,378,380,381,391,392,398,399,405,406,412,413,419,420,428,434,435,441,442,448,449,462,463,476,477,484,500,501,511,512,518,519,525,526,539,540,546,547,555,561,562,575,576,582,583,589,590,596,597,603,604,626,632,633,639,640,646,647,660,661,663,664,672,673,679,680,686,687,688,694,695,699,700,706,707,713,714,720,721,727,728,734,735,741,742,748,749,755,756,762,763,769,770,776,777,783,784,790,791,797,798,804,805,811,812,818,819,825,826,832,833,837,838]
noncomputable def SG(h:Heap):Frag:=Bp kAd 0 h.objs.toList
noncomputable def Q6(K:Frag):Bool:=Lu K&&HW K&&zj K&&yL K&&yS (typeIn K (.ref 84)) "type" &&(exmOne K (.ref 84) (.ref 84)==some true)&&w9 K
noncomputable def Hk(K:Frag):Bool:=lC.all (DX K)
noncomputable def allB(K:Frag):Bool:=Q6 K&&Hk K
theorem t_seg:∀w:World,(λos=>(KN w os).map λr=>(r.1,r.2.2.1,r.2.2.2,(EZ w r.2.1.abs).map λs=>(N9 w s,openSeen qT ph (importedModules PP.main.body) (λu_=>true) true s,Q6 (SG s.heap))))=λu_=>some (Flow.next,cT,Tt,some (true,openGood qT ph,true)):=by
 intro w;unfold KN EZ;rw[PySem.W.Fast.te10110043849684766642,PySem.W.Fast.te14082659384304107361,PySem.W.Fast.te4187177175401517315]
 kernel_rfl
end
section
theorem t_seg2:∀w:World,(λos=>(KN w os).map λr=>((EZ w r.2.1.abs).map λs=>Hk (SG s.heap)))=λu_=>some (some true):=by
 intro w;unfold KN EZ;rw[PySem.W.Fast.te10110043849684766642,PySem.W.Fast.te14082659384304107361]
 kernel_rfl
end
end aD
namespace aN
open aD
section
variable {M:Nat->Nat->Option Nat} {C:Calls} {hd:Option Nat} {aA:Env} {H:MH} {Q:SQ} {E:SE}
def sq(M:Nat->Nat->Option Nat)(C:Calls)(hd:Option Nat)(r:List MS)(Q:SQ)(E:SE):SQ:=λfl aG H1=>match fl with| .next=>cv M C hd r aG H1 Q E|f=>Q f aG H1
theorem lN{t:ME}{a b r:List MS}{c:Bool}(ht:∀(K:Bool->MH->Prop) (E':PE),K c H->(den M C hd t).eM aA H K E')(h:c=true)(k:cv M C hd a aA H (sq M C hd r Q E) E):cv M C hd (.ifs t a b::r) aA H Q E:=by
 subst h;exact ht _ _ k
theorem Sn{t:ME}{a b r:List MS}{c:Bool}(ht:∀(K:Bool->MH->Prop) (E':PE),K c H->(den M C hd t).eM aA H K E')(h:c=false)(k:cv M C hd b aA H (sq M C hd r Q E) E):cv M C hd (.ifs t a b::r) aA H Q E:=by
 subst h;refine ht _ _ ?_;rw[ag Bool.false_ne_true];exact k
theorem d6{t:ME}{a r:List MS}{c:Bool}(ht:∀(K:Bool->MH->Prop) (E':PE),K c H->(den M C hd t).eM aA H K E')(h:c=false)(k:cv M C hd r aA H Q E):cv M C hd (.ifs t a []::r) aA H Q E:=Sn ht h k
theorem Wu{H1:MH}{t:ME}{a b r:List MS}{c:Bool}(ht:∀(K:Bool->MH->Prop) (E':PE),K c H1->(den M C hd t).eM aA H K E')(h:c=true)(k:cv M C hd a aA H1 (sq M C hd r Q E) E):cv M C hd (.ifs t a b::r) aA H Q E:=by
 subst h;exact ht _ _ k
theorem aag{H1:MH}{t:ME}{a r:List MS}{c:Bool}(ht:∀(K:Bool->MH->Prop) (E':PE),K c H1->(den M C hd t).eM aA H K E')(h:c=false)(k:cv M C hd r aA H1 Q E):cv M C hd (.ifs t a []::r) aA H Q E:=by
 subst h;refine ht _ _ ?_;rw[ag Bool.false_ne_true];exact k
theorem fQ(k:(den M C hd e).val aA H (λv H1=>Q (.ret v) aA H1) (λx H1=>E x aA H1)):cv M C hd (.ret e::r) aA H Q E:=k
theorem pU(k:(den M C hd e).val aA H (λv H1=>cv M C hd r (bN aA x (some v)) H1 Q E) (λx H1=>E x aA H1)):cv M C hd (.bL x e::r) aA H Q E:=k
section
variable {Q:PQ} {E:PE}
theorem mI{t a b:ME}{c:Bool}(ht:∀(K:Bool->MH->Prop) (E':PE),K c H->(den M C hd t).eM aA H K E')(h:c=true)(k:(den M C hd a).val aA H Q E):(den M C hd (.ite t a b)).val aA H Q E:=by
 subst h;exact ht _ _ k
theorem pd{t a b:ME}{c:Bool}(ht:∀(K:Bool->MH->Prop) (E':PE),K c H->(den M C hd t).eM aA H K E')(h:c=false)(k:(den M C hd b).val aA H Q E):(den M C hd (.ite t a b)).val aA H Q E:=by
 subst h;refine ht _ _ ?_;rw[ag Bool.false_ne_true];exact k
theorem rE(v:MV)(he:∀(K:PQ) (E':PE),K v H->(den M C hd e).val aA H K E')(k:Q v H):(den M C hd e).val aA H Q E:=he _ _ k
theorem kq(k:(den M C hd e).val aA H (λv H1=>cJ M C hd r aA H1 (λvs H2=>C f (v::vs) hd H2 Q E) E) E):(den M C hd (.call (.g f) (e::r))).val aA H Q E:=k
theorem rU(k:C f [v] hd H Q E):(den M C hd (.call (.g f) [.c v])).val aA H Q E:=k
theorem dn{K:List MV->MH->Prop}(k:K [] H):cJ M C hd [] aA H K E:=k
theorem LU{K:List MV->MH->Prop}(v:MV)(he:∀(K:PQ) (E':PE),K v H->(den M C hd e).val aA H K E')(k:cJ M C hd r aA H (λvs H2=>K (v::vs) H2) E):cJ M C hd (e::r) aA H K E:=he _ _ k
theorem hX(k:(den M C hd a).val aA H (λx H1=>(den M C hd b).val aA H1 (λy H2=>mv .add H2 x y Q) E) E):(den M C hd (.aZ .add a b)).val aA H Q E:=k
end
theorem Q7{K:Bool->MH->Prop}(k:K (a&&b) H):if a=true then(if b=true then K true H else K false H)else K false H:=by cases a<;>cases b<;>exact k
theorem oa4{K:Bool->MH->Prop}(k:K ((a&&b)||(c&&d)) H):
  (let S:=if c=true then(if d=true then(if true=true then K true H else K false H)else(if false=true then K true H else K false H))else(if false=true then K true H else K false H)
  if a=true then(if b=true then(if true=true then K true H else S)else(if false=true then K true H else S))else(if false=true then K true H else S)):=by
 cases a<;>cases b<;>cases c<;>cases d<;>exact k
def aaH(o:Option MV)(P:MV->Prop):Prop:=match o with|some v=>P v| .none=>False
theorem fS{P:MV->Prop}(h:o=some v)(k:P v):aaH o P:=by subst h;exact k
end
end aN
namespace aD
theorem iI:den M C hd (.c v)=bF.of λu_ H Q u_=>Q v H:=rfl
theorem dF:den M C hd (.l i)=bF.of λaA H Q u_=>match dp aA i with|some v=>Q v H| .none=>False:=rfl
theorem kY:den M C hd (.g a)=bF.of λu_ H Q u_=>Q (.dg a) H:=rfl
theorem dX:den M C hd (.aF es)=bF.of λaA H Q E=>cJ M C hd es aA H (λvs H1=>Q (.aF vs) H1) E:=rfl
theorem ir:den M C hd (.fP es)=bF.of λaA H Q E=>cJ M C hd es aA H (λvs H1=>Q (.ref H1.length) (H1++ [.list vs])) E:=rfl
theorem CN:den M C hd (.qc ks es)=bF.of λaA H Q E=>cJ M C hd es aA (H++ [.dict []]) (λvs H1=>H1[H.length]? =some (.dict [])/\Q (.ref H.length) (H1.set H.length (.dict (ks.zip vs)))) E:=rfl
theorem fb:den M C hd (.aV op a b)=bF.eB λaA H Q E=>(den M C hd a).val aA H (λx H1=>(den M C hd b).val aA H1 (λy H2=>match dc op H2 x y with|some r=>Q r H2| .none=>False) E) E:=rfl
theorem Zs:den M C hd (.ju J9 Ka a b c)=bF.eB λaA H Q E=>(den M C hd a).val aA H (λx H1=>(den M C hd b).val aA H1 (λy H2=>match dc J9 H2 x y with
   |some r=>if r=true then(den M C hd c).val aA H2 (λz H3=>match dc Ka H3 y z with|some r=>Q r H3| .none=>False) E else Q false H2
   | .none=>False) E) E:=rfl
theorem VC:den M C hd (.and es)=⟨bF.Mz,iJ M C hd es⟩:=rfl
theorem VD:den M C hd (.or es)=⟨bF.Mz,lX M C hd es⟩:=rfl
theorem PH:den M C hd (.not e)=⟨bF.Mz,λaA H Q E=>(den M C hd e).eM aA H (λb H1=>Q (!b) H1) E⟩:=rfl
theorem Ii:den M C hd (.neg e)=bF.of λaA H Q E=>(den M C hd e).val aA H (λx H1=>match x with| .int i=>Q (.int (-i)) H1|_=>False) E:=rfl
theorem rY:den M C hd (.ite t a b)=bF.of λaA H Q E=>(den M C hd t).eM aA H (λc H1=>if c=true then(den M C hd a).val aA H1 Q E else(den M C hd b).val aA H1 Q E) E:=rfl
theorem fW:den M C hd (.aZ op a b)=bF.of λaA H Q E=>(den M C hd a).val aA H (λx H1=>(den M C hd b).val aA H1 (λy H2=>mv op H2 x y Q) E) E:=rfl
theorem eH:den M C hd (.cn o n)=bF.of λaA H Q E=>(den M C hd o).val aA H (λx H1=>match cQ H1 x n with|some v=>Q v H1| .none=>False) E:=rfl
theorem fX:den M C hd (.bG o i)=bF.of λaA H Q E=>(den M C hd o).val aA H (λx H1=>(den M C hd i).val aA H1 (λy H2=>match cL H2 x y with|some v=>Q v H2| .none=>False) E) E:=rfl
theorem CQ:den M C hd (.slice o lo hi)=bF.of λaA H Q E=>(den M C hd o).val aA H (λx H1=>qF M C hd lo aA H1 (λa H2=>qF M C hd hi aA H2 (λb H3=>cX H3 x a b Q) E) E) E:=rfl
theorem M4:den M C hd (.b1 k e)=bF.of λaA H Q E=>(den M C hd e).val aA H (λx H1=>match m9 k H1 x with|some v=>Q v H1| .none=>False) E:=rfl
theorem rX:den M C hd (.cR e k)=bF.of λaA H Q E=>(den M C hd e).val aA H (λx H1=>match qK k x with|some b=>Q (.bool b) H1| .none=>False) E:=rfl
theorem bS:den M C hd (.call f args)=bF.of λaA H Q E=>(den M C hd f).val aA H (λfv H1=>cJ M C hd args aA H1 (λvs H2=>match fv with
   | .dg a=>C a vs hd H2 Q E
   |_=>False) E) E:=rfl
theorem Ih:den M C hd (.cj o n args)=bF.of λaA H Q E=>(den M C hd o).val aA H (λov H1=>match ov with
   | .ref r=>(match H1[r]? with
    |some (.aK c aP)=>(match bW aP n,M c n with
     | .none,some f=>cJ M C hd args aA H1 (λvs H2=>C f (.ref r::vs) hd H2 Q E) E
     |_,_=>False)
    |_=>False)
   |_=>False) E:=rfl
theorem v5:den M C hd (.bP k o args)=bF.of λaA H Q E=>(den M C hd o).val aA H (λov H1=>oK k H1 ov=true/\cJ M C hd args aA H1 (λvs H2=>iW k H2 ov vs Q) E) E:=rfl
theorem Yl:den M C hd (.fV c n args)=bF.of λaA H Q E=>match M c n with
   |some f=>cJ M C hd args aA H (λvs H2=>C f vs hd H2 Q E) E
   | .none=>False:=rfl
theorem Uh:den M C hd (.dJ args)=bF.of λaA H Q E=>cJ M C hd args aA H (λvs H1=>match vs with
   | [.ref r,_]=>(match H1[r]? with
    |some (.aR _ _ _)=>Q .none H1
    |_=>False)
   |_=>False) E:=rfl
theorem Rz:den M C hd (.comp x elt it)=bF.of λaA H Q E=>hd= .none/\(ky M C hd it).D1 aA H (λvs eZ H1=>gG (λv H2 Q2=>(den M C hd elt).val (bN aA x (some v)) H2 Q2 E) eZ H1.length vs [] (H1++ [.list []]) Q) E:=rfl
theorem Zt:den M C hd (.ia)=bF.of bF.Mz:=rfl
theorem oQ:ky M C hd (.val e)=⟨λaA H Q E=>(den M C hd e).val aA H (λx H1=>match nS H1 x with
   |some vs=>Q vs (eK x H1) H1
   | .none=>False) E⟩:=rfl
theorem rW:ky M C hd (.range e)=⟨λaA H Q E=>(den M C hd e).val aA H (λx H1=>match x with
   | .int n=>(0<=n/\n<line)/\Q ((List.range n.toNat).map λi=>.int (i:Nat)) (λu_=>True) H1
   |_=>False) E⟩:=rfl
theorem Zq:qF M C hd (.none)=λu_ H Q u_=>Q .none H:=rfl
theorem Vy:qF M C hd (some e)=λaA H Q E=>(den M C hd e).val aA H (λv H1=>Q (some v) H1) E:=rfl
theorem b9:cJ M C hd ([])=λu_ H Q u_=>Q [] H:=rfl
theorem ct:cJ M C hd (e::r)=λaA H Q E=>(den M C hd e).val aA H (λv H1=>cJ M C hd r aA H1 (λvs H2=>Q (v::vs) H2) E) E:=rfl
theorem Zp:iJ M C hd ([])=λu_ H Q u_=>Q true H:=rfl
theorem Zo:iJ M C hd (e::r)=λaA H Q E=>(den M C hd e).eM aA H (λb H1=>if b=true then iJ M C hd r aA H1 Q E else Q false H1) E:=rfl
theorem VB:lX M C hd ([])=λu_ H Q u_=>Q false H:=rfl
theorem Vz:lX M C hd (e::r)=λaA H Q E=>(den M C hd e).eM aA H (λb H1=>if b=true then Q true H1 else lX M C hd r aA H1 Q E) E:=rfl
theorem iQ:ws M C hd (.expr e)=λaA H Q E=>(den M C hd e).val aA H (λu_ H1=>Q .next aA H1) (λx H1=>E x aA H1):=rfl
theorem gI:ws M C hd (.bL x e)=λaA H Q E=>(den M C hd e).val aA H (λv H1=>Q .next (bN aA x (some v)) H1) (λx H1=>E x aA H1):=rfl
theorem pT:ws M C hd (.dE xs e)=λaA H Q E=>(den M C hd e).val aA H (λv H1=>uh hd H1/\bJ (.eS xs) v aA λaG=>Q .next aG H1) (λx H1=>E x aA H1):=rfl
theorem TZ:ws M C hd (.c3 o n e)=λaA H Q E=>(den M C hd e).val aA H (λv H1=>(den M C hd o).val aA H1 (λov H2=>eG H2 ov n v λH3=>Q .next aA H3) (λx H2=>E x aA H2)) (λx H1=>E x aA H1):=rfl
theorem pS:ws M C hd (.mq o i e)=λaA H Q E=>(den M C hd e).val aA H (λv H1=>(den M C hd o).val aA H1 (λov H2=>(den M C hd i).val aA H2 (λiv H3=>jX H3 ov iv v λH4=>Q .next aA H4)
   (λx H3=>E x aA H3)) (λx H2=>E x aA H2)) (λx H1=>E x aA H1):=rfl
theorem abb:ws M C hd (.mZ x op e)=λaA H Q E=>match dp aA x with
   |some a=>(den M C hd e).val aA H (λb H1=>qD op H1 a b λr H2=>Q .next (bN aA x (some r)) H2) (λx H1=>E x aA H1)
   | .none=>False:=rfl
theorem Cb:ws M C hd (.mr o n op e)=λaA H Q E=>(den M C hd o).val aA H (λov H1=>match cQ H1 ov n with
   |some a=>(den M C hd e).val aA H1 (λb H2=>qD op H2 a b λr H3=>eG H3 ov n r λH4=>Q .next aA H4) (λx H2=>E x aA H2)
   | .none=>False) (λx H1=>E x aA H1):=rfl
theorem gj:ws M C hd (.ifs t a b)=λaA H Q E=>(den M C hd t).eM aA H (λc H1=>if c=true then cv M C hd a aA H1 Q E else cv M C hd b aA H1 Q E) (λx H1=>E x aA H1):=rfl
theorem O8:ws M C hd (.while t body)=λaA H Q E=>xM (den M C hd t).eM (cv M C hd body) Q E aA H:=rfl
theorem Aj:ws M C hd (.for x it body)=λaA H Q E=>hd= .none/\(ky M C hd it).D1 aA H (λvs eZ H1=>fC (λv aG H2 Q2 E2=>bJ x v aG λaI=>cv M C hd body aI H2 Q2 E2) eZ vs aA H1 Q E) (λx H1=>E x aA H1):=rfl
theorem cB:ws M C hd (.ret e)=λaA H Q E=>(den M C hd e).val aA H (λv H1=>Q (.ret v) aA H1) (λx H1=>E x aA H1):=rfl
theorem aa1:ws M C hd (.uo)=λaA H Q u_=>Q (.ret .none) aA H:=rfl
theorem lH:ws M C hd (.cW e)=λaA H u_ E=>(den M C hd e).val aA H (λv H1=>mT hd H1 v λi H2=>E i aA H2) (λx H1=>E x aA H1):=rfl
theorem Ly:ws M C hd (.jl body x h)=λ(aA:Env) (H:MH) (Q:SQ) (E:SE)=>cv M C hd body aA H Q λe aG H1=>match x with
   | .none=>cv M C (some e) h aG H1 Q E
   |some x=>cv M C (some e) h (bN aG x (some (.ref e))) H1 (λfl aI H2=>Q fl (bN aI x .none) H2) (λe2 aI H2=>E e2 (bN aI x .none) H2):=rfl
theorem aa2:ws M C hd (.qP body fin)=λaA H Q E=>cv M C hd body aA H
   (λfl aG H1=>cv M C hd fin aG H1 (λf2 aI H2=>match f2 with| .next=>Q fl aI H2|_=>False) E)
   (λe aG H1=>cv M C (some e) fin aG H1 (λf2 aI H2=>match f2 with| .next=>E e aI H2|_=>False) E):=rfl
theorem abc:ws M C hd (.brk)=λaA H Q u_=>Q .brk aA H:=rfl
theorem aaY:ws M C hd (.cont)=λaA H Q u_=>Q .cont aA H:=rfl
theorem aa0:ws M C hd (.um)=λaA H Q u_=>Q .next aA H:=rfl
theorem aaZ:ws M C hd (.ia)=λu_ u_ u_ u_=>False:=rfl
theorem cI:cv M C hd ([])=λaA H Q u_=>Q .next aA H:=rfl
theorem cH:cv M C hd (st::r)=λaA H Q E=>ws M C hd st aA H (λfl aG H1=>match fl with
   | .next=>cv M C hd r aG H1 Q E
   |f=>Q f aG H1) E:=rfl
theorem eE:dp (v::r) 0=v:=rfl
theorem gz:dp (v::r) (n+1)=dp r n:=rfl
theorem rA:bN (x::r) 0 v=v::r:=rfl
theorem rB:bN (x::r) (n+1) v=x::bN r n v:=rfl
theorem KV:fy aA (x::xs) (v::vs)=fy (bN aA x (some v)) xs vs:=rfl
theorem KW:fy aA [] vs=aA:=rfl
theorem Ah:gD H (.bool b)=some b:=rfl
theorem Ai:gD H (.ref i)=nZ H[i]? λvs=>some (!vs.isEmpty):=rfl
theorem MN:dc .eq H x y=jw H x y:=rfl
theorem abh:dc .ne H x y=(jw H x y).map (!·):=rfl
theorem MP:dc .lt H x y=oP (λa b=>decide (a<b)) x y:=rfl
theorem abg:dc .le H x y=oP (λa b=>decide (a<=b)) x y:=rfl
theorem Zi:dc .gt H x y=oP (λa b=>decide (a>b)) x y:=rfl
theorem abf:dc .ge H x y=oP (λa b=>decide (a>=b)) x y:=rfl
theorem Vq:dc .ja H x y=nO H x y:=rfl
theorem MQ:dc .mf H x y=(nO H x y).map (!·):=rfl
theorem Zj:dc .is H x y=Fx y (some (Je x)):=rfl
theorem Zk:dc .kF H x y=Fx y (some (!Je x)):=rfl
theorem e_i:jw H (.int a) y=AZ (.int a) y:=rfl
theorem e_s:jw H (.str a) y=AZ (.str a) y:=rfl
theorem v_i:AZ (.int a) y=lO y λb=>some (decide (a=b)):=rfl
theorem v_s:AZ (.str a) y=lP y λb=>some (decide (a=b)):=rfl
theorem Vd:bJ (.iM i) v aA K=K (bN aA i (some v)):=rfl
theorem Vf:bJ (.eS xs) (.aF vs) aA K=(vs.length=xs.length/\K (fy aA xs vs)):=rfl
theorem V5:uh .none H=True:=rfl
theorem i_t:qK .tuple v=Sy v:=rfl
theorem i_o:qK (.m5 c) v=lP v λu_=>some false:=rfl
theorem aai:Sy (.aF v)=some true:=rfl
theorem o_s:lP (.str s) f=f s:=rfl
theorem YO:lO (.int s) f=f s:=rfl
theorem p_s:lQ (.str s) f=f s:=rfl
theorem p_i:iO (.int s) f=f s:=rfl
theorem a_a:qD .add H x y Q=Mj H x y Q:=rfl
theorem a_s:qD .sub H x y Q=iO x λa=>iO y λb=>Q (.int (a-b)) H:=rfl
theorem UY:Mj H (.int a) y Q=iO y λb=>Q (.int (a+b)) H:=rfl
theorem abd:Mj H (.str a) y Q=lQ y λb=>a.length+b.length<=line/\Q (.str (a++b)) H:=rfl
theorem abo:nO H x (.aF vs)=lT x vs:=rfl
theorem abn:nO H x (.str s)=lP x λt=>o1 t λc=>some (s.contains c):=rfl
theorem aaj:nO H x (.ref i)=(H[i]?).bind (Sp x):=rfl
theorem abl:Sp x (.list vs)=lT x vs:=rfl
theorem aah:Sp x (.dict es)=lP x λk=>some (getD es k).isSome:=rfl
theorem abp:cL H (.str s) i=lO i λk=>(dZ s.length k).bind λj=>(s[j]?).map λc=>.str [c]:=rfl
theorem abq:cL H (.aF vs) i=lO i λk=>(dZ vs.length k).bind λj=>vs[j]? :=rfl
theorem aak:cL H (.ref r) i=(H[r]?).bind (Bj i):=rfl
theorem abk:Bj i (.list vs)=lO i λk=>(dZ vs.length k).bind λj=>vs[j]? :=rfl
theorem aaf:Bj i (.dict es)=lP i λk=>getD es k:=rfl
theorem aaE:Kc .none=some .none:=rfl
theorem aaF:Kc (some (.int i))=some (some i):=rfl
theorem aaT:Tz H (.str s) a b Q=Q (.str (cG s a b)) H:=rfl
theorem abt:Tz H (.ref r) a b Q=tq H[r]? λvs=>Q (.ref H.length) (H++ [.list (cG vs a b)]):=rfl
theorem aaM:Ow (some a) f=f a:=rfl
theorem qL{α:Sort u}{P:Prop}(a:α)(k:∀x,x=a->P):P:=k a rfl
theorem gS(ev:Env):∀(i j:Nat) (v:Option MV),dp (bN ev i v) j=if i=j/\i<ev.length then v else dp ev j:=by
 induction ev with
 |nil=>exact λi j v=>(ag λz=>a9 z.2 (not_lt_zero i)).symm
 |cons x r ih=>
  intro i j v;cases i with
  |zero=>cases j with
   |zero=>exact(ah ⟨rfl,Nat.zero_lt_succ _⟩).symm
   |succ j=>exact(ag λz=>((by injection z.1))).symm
  |succ i=>cases j with
   |zero=>exact(ag λz=>((by injection z.1))).symm
   |succ j=>
    refine(ih i j v).trans ?_;by_cases h:i=j/\i<r.length
    ·rw[ah h];exact(ah ⟨af (· +1) h.1,Nat.succ_lt_succ h.2⟩).symm
    ·rw[ag h];exact(ag λz=>h ⟨Nat.succ.inj z.1,Nat.lt_of_succ_lt_succ z.2⟩).symm
theorem gc(ev:Env):∀(i:Nat) (v:Option MV),(bN ev i v).length=ev.length:=by
 induction ev with
 |nil=>exact λu_ u_=>rfl
 |cons x r ih=>exact λi v=>match i with
  |0=>rfl
  |i+1=>af (· +1) (ih i v)
end aD
namespace aN
open aD
inductive AV where
 |none|bool (b:Bool)|int (a:Nat) (k:Int)|str (p:Bool) (s:List Nat) (r:Bool)|tC (s:List Nat)|aF (vs:List AV)|ref (i:Nat)|dg (a:Nat)|tB|any|jn (s:List Nat)|tk (s:List Nat)|pQ (i:Nat)
inductive AO where
 |list (o:Bool) (vs:List AV)
 |GO
 |dict (es:List (List Nat×AV)) (o:Option (List (List Nat×Option AV)×List (List Nat×AV)))
 |aK (c:Nat) (aP:List (Nat×AV))
 |aR (c:Nat) (aP:List (Nat×AV)) (x:Bool)
abbrev AH:=List AO
abbrev bx:=List (Option AV)
inductive dT(α:Type)where
 |ok (v:α) (h:AH)
 |aR (e:Nat) (h:AH)
noncomputable def bY{α β:Type}(r:Option (dT α))(f:α->AH->Option (dT β)):Option (dT β):=match r with
 |some (.ok v h)=>f v h
 |some (.aR e h)=>some (.aR e h)
 |none=>none
inductive Ao|next|brk|cont|ret (v:AV)
inductive bH where
 |ok (fl:Ao) (aA:bx) (h:AH)
 |aR (e:Nat) (aA:bx) (h:AH)
theorem nn{α:Type}{a:α}:(none:Option α)≠some a:=(by intro I1;injection I1)
theorem ff:false≠true:=(by intro I1;injection I1)
noncomputable def on{α β:Type}(c:α->Nat)(k:Nat)(d:β)(v:α)(g:c v=k->β):β:=if h:c v=k then g h else d
theorem cV{α β:Type}{c:α->Nat}{k:Nat}{d r:β}{v:α}{g:c v=k->β}(hd:d≠r)(h:on c k d v g=r):∃q:c v=k,g q=r:=by
 unfold on at h;by_cases q:c v=k
 ·rw[dif_pos q]at h;exact⟨q,h⟩
 ·rw[dif_neg q]at h;exact a9 h hd
def mO{β:Type}(d:β)(v:AV)(f:β):β:=on AV.ctorIdx 0 d v λu_=>f
theorem zD{β:Type}{d r:β}{v:AV}{f:β}{P:AV->Prop}(hd:d≠r)(h:mO d v f=r)(k:f=r->P .none):P v:=
 let⟨q,h⟩:=cV hd h;AV.none.elim (motive_1:=λv=>f=r->P v) v q k h
def xb{β:Type}(d:β)(v:AV)(f:Bool->β):β:=on AV.ctorIdx 1 d v λq=>AV.bool.elim v q f
theorem zy{β:Type}{d r:β}{v:AV}{f:Bool->β}{P:AV->Prop}(hd:d≠r)(h:xb d v f=r)(k:∀b,f b=r->P (.bool b)):P v:=
 let⟨q,h⟩:=cV hd h;AV.bool.elim (motive_1:=λv=>∀q,AV.bool.elim v q f=r->P v) v q (λb u_ h=>k b h) q h
def gg{β:Type}(d:β)(v:AV)(f:Nat->Int->β):β:=on AV.ctorIdx 2 d v λq=>AV.int.elim v q f
theorem DI{β:Type}{d r:β}{v:AV}{f:Nat->Int->β}{P:AV->Prop}(hd:d≠r)(h:gg d v f=r)(k:∀a j,f a j=r->P (.int a j)):P v:=
 let⟨q,h⟩:=cV hd h;AV.int.elim (motive_1:=λv=>∀q,AV.int.elim v q f=r->P v) v q (λa j u_ h=>k a j h) q h
def tm{β:Type}(d:β)(v:AV)(f:Bool->List Nat->Bool->β):β:=on AV.ctorIdx 3 d v λq=>AV.str.elim v q f
theorem xf{β:Type}{d r:β}{v:AV}{f:Bool->List Nat->Bool->β}{P:AV->Prop}(hd:d≠r)(h:tm d v f=r)(k:∀p s u,f p s u=r->P (.str p s u)):P v:=
 let⟨q,h⟩:=cV hd h;AV.str.elim (motive_1:=λv=>∀q,AV.str.elim v q f=r->P v) v q (λp s u u_ h=>k p s u h) q h
def ji{β:Type}(d:β)(v:AV)(f:List AV->β):β:=on AV.ctorIdx 5 d v λq=>AV.aF.elim v q f
theorem jG{β:Type}{d r:β}{v:AV}{f:List AV->β}{P:AV->Prop}(hd:d≠r)(h:ji d v f=r)(k:∀vs,f vs=r->P (.aF vs)):P v:=
 let⟨q,h⟩:=cV hd h;AV.aF.elim (motive_1:=λv=>∀q,AV.aF.elim v q f=r->P v) v q (λvs u_ h=>k vs h) q h
def jh{β:Type}(d:β)(v:AV)(f:Nat->β):β:=on AV.ctorIdx 6 d v λq=>AV.ref.elim v q f
theorem xe{β:Type}{d r:β}{v:AV}{f:Nat->β}{P:AV->Prop}(hd:d≠r)(h:jh d v f=r)(k:∀i,f i=r->P (.ref i)):P v:=
 let⟨q,h⟩:=cV hd h;AV.ref.elim (motive_1:=λv=>∀q,AV.ref.elim v q f=r->P v) v q (λi u_ h=>k i h) q h
def DN{β:Type}(d:β)(v:AV)(f:Nat->β):β:=on AV.ctorIdx 7 d v λq=>AV.dg.elim v q f
theorem DO{β:Type}{d r:β}{v:AV}{f:Nat->β}{P:AV->Prop}(hd:d≠r)(h:DN d v f=r)(k:∀a,f a=r->P (.dg a)):P v:=
 let⟨q,h⟩:=cV hd h;AV.dg.elim (motive_1:=λv=>∀q,AV.dg.elim v q f=r->P v) v q (λa u_ h=>k a h) q h
def aaG{β:Type}(d:β)(v:AV)(f:β):β:=on AV.ctorIdx 8 d v λu_=>f
def P9{β:Type}(d:β)(v:AV)(f:β):β:=on AV.ctorIdx 9 d v λu_=>f
theorem Oa{β:Type}{d r:β}{v:AV}{f:β}{P:AV->Prop}(hd:d≠r)(h:P9 d v f=r)(k:f=r->P .any):P v:=
 let⟨q,h⟩:=cV hd h;AV.any.elim (motive_1:=λv=>f=r->P v) v q k h
def W7{β:Type}(d:β)(v:AV)(f:List Nat->β):β:=on AV.ctorIdx 10 d v λq=>AV.jn.elim v q f
theorem S9{β:Type}{d r:β}{v:AV}{f:List Nat->β}{P:AV->Prop}(hd:d≠r)(h:W7 d v f=r)(k:∀s,f s=r->P (.jn s)):P v:=
 let⟨q,h⟩:=cV hd h;AV.jn.elim (motive_1:=λv=>∀q,AV.jn.elim v q f=r->P v) v q (λs u_ h=>k s h) q h
def W8{β:Type}(d:β)(v:AV)(f:List Nat->β):β:=on AV.ctorIdx 11 d v λq=>AV.tk.elim v q f
theorem Tf{β:Type}{d r:β}{v:AV}{f:List Nat->β}{P:AV->Prop}(hd:d≠r)(h:W8 d v f=r)(k:∀s,f s=r->P (.tk s)):P v:=
 let⟨q,h⟩:=cV hd h;AV.tk.elim (motive_1:=λv=>∀q,AV.tk.elim v q f=r->P v) v q (λs u_ h=>k s h) q h
def Qi{β:Type}(d:β)(v:AV)(f:Nat->β):β:=on AV.ctorIdx 12 d v λq=>AV.pQ.elim v q f
theorem Ol{β:Type}{d r:β}{v:AV}{f:Nat->β}{P:AV->Prop}(hd:d≠r)(h:Qi d v f=r)(k:∀i,f i=r->P (.pQ i)):P v:=
 let⟨q,h⟩:=cV hd h;AV.pQ.elim (motive_1:=λv=>∀q,AV.pQ.elim v q f=r->P v) v q (λi u_ h=>k i h) q h
def mM{β:Type}(d:β)(v:AO)(f:Bool->List AV->β):β:=on AO.ctorIdx 0 d v λq=>AO.list.elim v q f
theorem th{β:Type}{d r:β}{v:AO}{f:Bool->List AV->β}{P:AO->Prop}(hd:d≠r)(h:mM d v f=r)(k:∀o vs,f o vs=r->P (.list o vs)):P v:=
 let⟨q,h⟩:=cV hd h;AO.list.elim (motive:=λv=>∀q,AO.list.elim v q f=r->P v) v q (λo vs u_ h=>k o vs h) q h
def aba{β:Type}(d:β)(v:AO)(f:β):β:=on AO.ctorIdx 1 d v λu_=>f
def xc{β:Type}(d:β)(v:AO)(f:List (List Nat×AV)->Option (List (List Nat×Option AV)×List (List Nat×AV))->β):β:=on AO.ctorIdx 2 d v λq=>AO.dict.elim v q f
theorem tf{β:Type}{d r:β}{v:AO}{f:List (List Nat×AV)->Option (List (List Nat×Option AV)×List (List Nat×AV))->β}{P:AO->Prop}(hd:d≠r)(h:xc d v f=r)(k:∀es o,f es o=r->P (.dict es o)):P v:=
 let⟨q,h⟩:=cV hd h;AO.dict.elim (motive:=λv=>∀q,AO.dict.elim v q f=r->P v) v q (λes o u_ h=>k es o h) q h
def BC{β:Type}(d:β)(v:AO)(f:Nat->List (Nat×AV)->β):β:=on AO.ctorIdx 3 d v λq=>AO.aK.elim v q f
theorem zB{β:Type}{d r:β}{v:AO}{f:Nat->List (Nat×AV)->β}{P:AO->Prop}(hd:d≠r)(h:BC d v f=r)(k:∀c a,f c a=r->P (.aK c a)):P v:=
 let⟨q,h⟩:=cV hd h;AO.aK.elim (motive:=λv=>∀q,AO.aK.elim v q f=r->P v) v q (λc a u_ h=>k c a h) q h
def n6{β:Type}(d:β)(v:AO)(f:Nat->List (Nat×AV)->Bool->β):β:=on AO.ctorIdx 4 d v λq=>AO.aR.elim v q f
theorem rp{β:Type}{d r:β}{v:AO}{f:Nat->List (Nat×AV)->Bool->β}{P:AO->Prop}(hd:d≠r)(h:n6 d v f=r)(k:∀c a x,f c a x=r->P (.aR c a x)):P v:=
 let⟨q,h⟩:=cV hd h;AO.aR.elim (motive:=λv=>∀q,AO.aR.elim v q f=r->P v) v q (λc a x u_ h=>k c a x h) q h
noncomputable def gd{β:Type}(d:β)(b:Bool)(x:β):β:=match b with|true=>x|false=>d
theorem cA{β:Type}{d r x:β}{b:Bool}{P:Prop}(hd:d≠r)(h:gd d b x=r)(k:b=true->x=r->P):P:=by
 cases b with
 |true=>exact k rfl h
 |false=>exact a9 h hd
def gh{β:Type}(d:β)(v:AV)(f:List Nat->β):β:=tm d v λp s u=>match p,u with|false,false=>f s|_,_=>d
theorem Oh{β:Type}{d r:β}{v:AV}{f:List Nat->β}{P:AV->Prop}(hd:d≠r)(h:gh d v f=r)(k:∀s,f s=r->P (.str false s false)):P v:=
 xf hd h λp s u h=>match p,u,h with
  |false,false,h=>k s h
  |true,_,h=>a9 h hd
  |false,true,h=>a9 h hd
noncomputable def jF{α β:Type}(d:β)(o:Option α)(f:α->β):β:=match o with|some a=>f a| .none=>d
theorem kI{α β:Type}{d r:β}{o:Option α}{f:α->β}{P:Option α->Prop}(hd:d≠r)(h:jF d o f=r)(k:∀a,f a=r->P (some a)):P o:=by
 cases o with
 |some a=>exact k a h
 |none=>exact a9 h hd
def cK{α β:Type}(d:β)(o:Option α)(f:α->β):β:=jF d o f
theorem aU{α β:Type}{d r:β}{o:Option α}{f:α->β}{P:Prop}(hd:d≠r)(h:cK d o f=r)(k:∀a,o=some a->f a=r->P):P:=
 kI (P:=λo'=>o=o'->P) hd h (λa h e=>k a e h) rfl
noncomputable def m4{α β:Type}(d:β)(l:List α)(f:α->β):β:=match l with| [a]=>f a|_=>d
theorem d8{α β:Type}{d r:β}{l:List α}{f:α->β}{P:List α->Prop}(hd:d≠r)(h:m4 d l f=r)(k:∀a,f a=r->P [a]):P l:=
 match l,h with
 | [a],h=>k a h
 | [],h=>a9 h hd
 |_::_::_,h=>a9 h hd
theorem c2{α β γ:Type}(f:α->β->γ){a b:α}{c d:β}(h:a=b)(k:c=d):f a c=f b d:=by subst h;subst k;rfl
noncomputable def J0{α β:Type}(d:β)(l:List α)(x:β):β:=match l with| []=>x|_=>d
theorem DJ{α β:Type}{d r x:β}{l:List α}{P:List α->Prop}(hd:d≠r)(h:J0 d l x=r)(k:x=r->P []):P l:=
 match l,h with
 | [],h=>k h
 |_::_,h=>a9 h hd
noncomputable def mL{α β:Type}(d:β)(l:List α)(f:α->List α->β):β:=match l with|a::r=>f a r| []=>d
theorem kH{α β:Type}{d r:β}{l:List α}{f:α->List α->β}{P:List α->Prop}(hd:d≠r)(h:mL d l f=r)(k:∀a q,f a q=r->P (a::q)):P l:=
 match l,h with
 |a::q,h=>k a q h
 | [],h=>a9 h hd
theorem an{P:Prop}(h:(a&&b)=true)(k:a=true->b=true->P):P:=k (bh h).1 (bh h).2
noncomputable def Td{α β:Type}(d:β)(r:Option (dT α))(f:α->AH->β):β:=match r with|some (.ok v h)=>f v h|_=>d
theorem J2{α β:Type}{d r:β}{o:Option (dT α)}{f:α->AH->β}{P:Option (dT α)->Prop}(hd:d≠r)(h:Td d o f=r)(k:∀v h,f v h=r->P (some (.ok v h))):P o:=
 match o,h with
 |some (.ok v h1),h=>k v h1 h
 |some (.aR _ _),h=>a9 h hd
 | .none,h=>a9 h hd
noncomputable def JU{α β:Type}(d:β)(r:Option (dT α))(f:Nat->AH->β):β:=match r with|some (.aR v h)=>f v h|_=>d
theorem BB{α β:Type}{d r:β}{o:Option (dT α)}{f:Nat->AH->β}{P:Option (dT α)->Prop}(hd:d≠r)(h:JU d o f=r)(k:∀v h,f v h=r->P (some (.aR v h))):P o:=
 match o,h with
 |some (.aR v h1),h=>k v h1 h
 |some (.ok _ _),h=>a9 h hd
 | .none,h=>a9 h hd
noncomputable def J6{β:Type}(d:β)(r:Option bH)(f:Ao->bx->AH->β):β:=match r with|some (.ok v e h)=>f v e h|_=>d
theorem DL{β:Type}{d r:β}{o:Option bH}{f:Ao->bx->AH->β}{P:Option bH->Prop}(hd:d≠r)(h:J6 d o f=r)(k:∀v e h,f v e h=r->P (some (.ok v e h))):P o:=
 match o,h with
 |some (.ok v e h1),h=>k v e h1 h
 |some (.aR _ _ _),h=>a9 h hd
 | .none,h=>a9 h hd
noncomputable def Qh{β:Type}(d:β)(r:Option bH)(f:Nat->bx->AH->β):β:=match r with|some (.aR v e h)=>f v e h|_=>d
theorem Oj{β:Type}{d r:β}{o:Option bH}{f:Nat->bx->AH->β}{P:Option bH->Prop}(hd:d≠r)(h:Qh d o f=r)(k:∀v e h,f v e h=r->P (some (.aR v e h))):P o:=
 match o,h with
 |some (.aR v e h1),h=>k v e h1 h
 |some (.ok _ _ _),h=>a9 h hd
 | .none,h=>a9 h hd
noncomputable def JV{β:Type}(d:β)(r:Ao)(x:β):β:=match r with| .next=>x|_=>d
theorem DG{β:Type}{d r x:β}{o:Ao}{P:Ao->Prop}(hd:d≠r)(h:JV d o x=r)(k:x=r->P .next):P o:=by
 cases o<;>first|exact k h|exact a9 h hd
noncomputable def Qd{β:Type}(d:β)(r:Ao)(f:AV->β):β:=match r with| .ret v=>f v|_=>d
theorem Oe{β:Type}{d r:β}{o:Ao}{f:AV->β}{P:Ao->Prop}(hd:d≠r)(h:Qd d o f=r)(k:∀v,f v=r->P (.ret v)):P o:=by
 cases o<;>first|exact k _ h|exact a9 h hd
abbrev cx:=Nat->List AV->Option Nat->AH->Option (dT AV)
noncomputable def WH:Int->Int->Bool
 | .ofNat a,.ofNat b=>Nat.blt a b
 | .negSucc _,.ofNat _=>true
 | .ofNat _,.negSucc _=>false
 | .negSucc a,.negSucc b=>Nat.blt b a
def YH(a b:Int):Bool:=!WH b a
noncomputable def Ui:Int->Int->Bool
 | .ofNat a,.ofNat b=>beq a b
 | .negSucc a,.negSucc b=>beq a b
 |_,_=>false
noncomputable def dz:List Nat->List Nat->Bool
 | [],[]=>true
 |a::r,b::q=>beq a b&&dz r q
 |_,_=>false
noncomputable def i8:List (List Nat):=[[101,114,114,111,114],[98,114,101,97,107],[99,111,110,116,105,110,117,101],[114,101,116,117,114,110],[115,105,120],[111,107]]
def O5(s t:List Nat):Option Bool:=if dz s [2000000]&&i8.any (dz t)then some false else .none
noncomputable def abi:AV->Option (List Nat)
 | .str false s false=>some s
 |_=>.none
noncomputable def gp{α:Type}:List α->Nat->Option α
 | [],_=>.none
 |v::_,0=>some v
 |_::r,n+1=>gp r n
noncomputable def Nr:bx->Nat->Option AV
 | [],_=>.none
 |v::_,0=>v
 |_::r,n+1=>Nr r n
noncomputable def uu:bx->Nat->Option AV->bx
 | [],_,_=>[]
 |_::r,0,v=>v::r
 |x::r,n+1,v=>x::uu r n v
def zS:bx->List Nat->List AV->bx
 |aA,x::xs,v::vs=>zS (uu aA x (some v)) xs vs
 |aA,_,_=>aA
noncomputable def wF:List (Nat×AV)->Nat->Option AV
 | [],_=>.none
 |(k,v)::r,n=>if beq k n then some v else wF r n
noncomputable def KR:List (Nat×AV)->Nat->AV->List (Nat×AV)
 | [],n,v=>[(n,v)]
 |(k,w)::r,n,v=>if beq k n then(k,v)::r else(k,w)::KR r n v
def hZ{α:Type}:List (List Nat×α)->List Nat->Option α
 | [],_=>.none
 |(k,v)::r,n=>if dz k n then some v else hZ r n
def ON{α:Type}:List (List Nat×α)->List Nat->α->List (List Nat×α)
 | [],n,v=>[(n,v)]
 |(k,w)::r,n,v=>if dz k n then(k,v)::r else(k,w)::ON r n v
def Dp:MV->Option AV
 | .none=>some .none
 | .bool b=>some (.bool b)
 | .int i=>some (.int 0 i)
 | .str s=>some (.str false s false)
 | .dg a=>some (.dg a)
 | .aF vs=>m4 .none vs λv=>lP v λs=>some (.aF [.str false s false])
 | .ref _=>.none
noncomputable def tj{β:Type}(d:β)(k:Int)(f:Nat->β):β:=match k with| .ofNat n=>f n| .negSucc _=>d
def U7:List Nat->List Nat->Option Bool
 |_::_,[]=>some false
 |c::_,d::_=>gd .none (!Nat.beq c d) (some false)
 | [],_=>.none
def Y6:AV->AV->Option Bool
 | .none,y=>mO .none y (some true)
 | .bool a,y=>xb .none y λb=>some (a==b)
 | .int a k,y=>gg .none y λb l=>gd .none (beq a b) (some (Ui k l))
 | .tB,y=>gg .none y λb l=>gd .none (beq b 0&&YH l 0) (some false)
 | .str p s u,y=>gd .none (!p&& !u) (gh .none y λt=>some (dz s t))
 | .tk s,y=>gh .none y (O5 s)
 | .tC s,y=>gh .none y (U7 s)
 |_,_=>.none
def G5(s:List Nat):List AV->Option Bool
 | []=>some false
 |v::r=>gh .none v λt=>(G5 s r).map λb=>dz t s||b
def G6(s:List Nat):List AV->Option Bool
 | []=>some false
 |v::r=>gh .none v λt=>cK .none (O5 s t) λa=>(G6 s r).map λb=>a||b
def QU(x:AV)(vs:List AV):Option Bool:=match x with
 | .str p s u=>gd .none (!p&& !u) (G5 s vs)
 | .tk s=>G6 s vs
 |_=>.none
noncomputable def Ww(r:Option (Option AV))(d:Option AV):Option (Option AV):=match r with
 |some .none=>some d
 |r=>r
def Wv(o:Option (List (List Nat×Option AV)×List (List Nat×AV)))(k:List Nat):Option (Option AV):=match o with
 | .none=>some .none
 |some p=>Ww (hZ p.1 k) (hZ p.2 k)
def YF(es:List (List Nat×AV))(o:Option (List (List Nat×Option AV)×List (List Nat×AV)))(k:List Nat):Option (Option AV):=match hZ es k with
 |some v=>some (some v)
 | .none=>Wv o k
def U2(x:AV)(es:List (List Nat×AV))(o:Option (List (List Nat×Option AV)×List (List Nat×AV))):Option Bool:=match x with
 | .str p s u=>gd .none (!p&& !u) ((YF es o s).map Option.isSome)
 | .tk s=>gd .none (dz s [2000000]&&(o.isNone&&es.all λe=>i8.any (dz e.1))) (some false)
 |_=>.none
def U3(x:AV):AO->Option Bool
 | .list o vs=>gd .none (!o) (QU x vs)
 | .dict es o=>U2 x es o
 |_=>.none
def Y7(h:AH)(x y:AV):Option Bool:=match y with
 | .aF vs=>QU x vs
 | .str p t u=>gd .none (!p&& !u) (gh .none x λs=>m4 .none s λc=>some (t.any (beq c)))
 | .ref i=>cK .none (gp h i) (U3 x)
 |_=>.none
def Yh(a:Nat)(k:Int)(b:Nat)(l:Int):Option Bool:=match beq a b with
 |true=>some (WH k l)
 |false=>match beq a 1&&beq b 2 with
  |true=>gd .none (WH k l) (some true)
  |false=>gd .none (beq a 1&&(beq b 0&&YH l k)) (some false)
def Y9(a:Nat)(k:Int)(b:Nat)(l:Int):Option Bool:=gd .none (beq a b) (some (YH k l))
noncomputable def Y8:AV->Option Bool
 | .none=>some true
 | .any=>.none
 | .pQ _=>.none
 |_=>some false
def Pm{β:Type}(x y:AV)(f:Nat->Int->Nat->Int->Option β):Option β:=gg .none x λa k=>gg .none y λb l=>f a k b l
def Er(op:Cm)(h:AH)(x y:AV):Option Bool:=match op with
 | .eq=>Y6 x y
 | .ne=>(Y6 x y).map (!·)
 | .lt=>Pm x y Yh
 | .le=>Pm x y Y9
 | .gt=>Pm x y λa k b l=>(Y9 a k b l).map (!·)
 | .ge=>Pm x y λa k b l=>(Yh a k b l).map (!·)
 | .ja=>Y7 h x y
 | .mf=>(Y7 h x y).map (!·)
 | .is=>mO .none y (Y8 x)
 | .kF=>mO .none y ((Y8 x).map (!·))
def Tc{β:Type}(d:β)(o:Option AO)(f:List AV->β):β:=jF d o λob=>mM d ob λo vs=>gd d (!o) (f vs)
def AA(h:AH):AV->Option Bool
 | .bool b=>some b
 | .ref i=>Tc .none (gp h i) λvs=>some (!vs.isEmpty)
 |_=>.none
noncomputable def Ov(p:Bool):Nat:=if p then 1 else 0
def SY(vs:List AV)(i:Int):Option AV:=match i with
 | .ofNat k=>gp vs k
 | .negSucc k=>gd .none (Nat.blt k vs.length) (gp vs (vs.length-(k+1)))
def Pr(i:AV):AO->Option AV
 | .list o vs=>gd .none (!o) (gg .none i λa k=>gd .none (beq a 0) (SY vs k))
 | .dict es o=>gh .none i λs=>cK .none (YF es o s) λr=>r
 |_=>.none
def U0(h:AH)(o i:AV):Option AV:=match o with
 | .str p s _=>gg .none i λa k=>gd .none (beq a (Ov p)) (tj .none k λk=>(gp s k).map λc=>.str false [c] false)
 | .aF vs=>gg .none i λa k=>gd .none (beq a 0) (SY vs k)
 | .ref j=>cK .none (gp h j) (Pr i)
 |_=>.none
def Rb(s:List Nat)(u:Bool)(k l:Nat):Option AV:=match ble l s.length with
 |true=>some (.str false ((s.drop k).take (l-k)) false)
 |false=>match u with
  |true=>gd .none (Nat.blt k s.length) (some (.tC (s.drop k)))
  |false=>some (.str false (s.drop k) false)
def Zd(p:Bool)(s:List Nat)(u:Bool)(a b:AV):Option AV:=gg .none a λx k=>tj .none k λk=>gg .none b λy l=>tj .none l λl=>gd .none (beq x (Ov p)&&(beq y (Ov p)&&ble k s.length)) (Rb s u k l)
def Zc(s:List Nat)(b:AV):Option AV:=gg .none b λy l=>gd .none (beq y 0) (tj .none l λl=>some (.str false (s.take l) false))
def U9(vs:List AV)(b:AV):Option AV:=gg .none b λy l=>gd .none (beq y 0&&(Ui l (-1)&& !vs.isEmpty)) (some (.aF vs.dropLast))
def Hq(o:AV)(lo hi:Option AV):Option AV:=match lo with
 |some a=>cK .none hi λb=>tm .none o λp s u=>Zd p s u a b
 | .none=>cK .none hi λb=>match o with
  | .str p s u=>gd .none (!p&& !u) (Zc s b)
  | .aF vs=>U9 vs b
  |_=>.none
def Ac:AV->Option (Bool×List Nat)
 | .str p s u=>gd .none (!p&& !u) (some (true,s))
 | .tk s=>some (false,s)
 |_=>.none
noncomputable def d7(s:List Nat):Bool:=s.all λc=>Nat.blt c 2000000
def Ep:List AV->Option (Bool×Bool×List (List Nat))
 | []=>some (true,true,[])
 |v::r=>cK .none (Ac v) λp=>cK .none (Ep r) λq=>some (p.1&&q.1,(!p.1||d7 p.2)&&q.2.1,p.2::q.2.2)
def JM(b ok:Bool)(s:List Nat):Option AV:=match b with
 |true=>some (.str false s false)
 |false=>gd .none ok (some (.tk s))
def QZ(a:Nat)(k:Int)(b:Nat)(l:Int):Option AV:=match beq a 0 with
 |true=>some (.int b (k+l))
 |false=>gd .none (beq b 0) (some (.int a (k+l)))
def Y4(p q:Bool×List Nat):Option AV:=gd .none (ble (p.2.length+q.2.length) 100000) (JM (p.1&&q.1) ((!p.1||d7 p.2)&&(!q.1||d7 q.2)) (p.2++q.2))
def Md(x y:AV):Option AV:=match Ac x with
 |some p=>cK .none (Ac y) (Y4 p)
 | .none=>Pm x y QZ
def Rc(x y:AV):Option AV:=Pm x y λa k b l=>match beq b 0 with
 |true=>some (.int a (k-l))
 |false=>gd .none (beq a b) (some (.int 0 (k-l)))
def Zb(x y:AV):Option AV:=Pm x y λa k b l=>gd .none (beq a 0&&(beq b 0&&(Nat.blt k.natAbs 4294967296&&Nat.blt l.natAbs 4294967296))) (some (.int 0 (k*l)))
def UX(op:Op)(x y:AV):Option AV:=match op with
 | .add=>Md x y
 | .sub=>Rc x y
 | .mul=>Zb x y
 |_=>.none
def QW(op:Op)(x y:AV):Option AV:=match op with
 | .add=>Md x y
 | .sub=>Rc x y
 |_=>.none
noncomputable def alS(n:Nat):Bool->Bool->Option AV
 |false,false=>some (.int 0 n)
 |true,false=>some (.int 1 n)
 |true,true=>some (.int 2 n)
 |false,true=>.none
def alO:AO->Option AV
 | .list o vs=>gd .none (!o) (some (.int 0 vs.length))
 | .GO=>some .tB
 |_=>.none
def Za(h:AH):AV->Option AV
 | .str p s u=>alS s.length p u
 | .aF vs=>some (.int 0 vs.length)
 | .ref i=>cK .none (gp h i) alO
 |_=>.none
def ab1(k:B1)(h:AH)(v:AV):Option AV:=match k with
 | .len=>Za h v
 | .LX=>gh .none v λs=>m4 .none s λc=>some (.int 0 c)
 | .GG=>gg .none v λa i=>gd .none (beq a 0) (tj .none i λi=>gd .none (Nat.blt i 1114112) (some (.str false [i] false)))
 | .gH=>jh .none v λi=>Tc .none (gp h i) λvs=>some (.aF vs)
def U4(k:Uc)(v:AV):Option Bool:=match k with
 | .tuple=>ji .none v λu_=>some true
 | .m5 _=>match v with
  | .str _ _ _=>some false
  | .tk _=>some false
  |_=>.none
def Pn(k:BM)(h:AH)(o:AV):Bool:=match k with
 | .append=>jh false o λr=>jF false (gp h r) λob=>mM false ob λu_ u_=>true
 | .pop=>false
 | .reverse=>false
 |_=>tm false o λu_ u_ u_=>true
noncomputable def qt(sep:List Nat):List (List Nat)->List Nat
 | []=>[]
 | [x]=>x
 |x::r=>x++sep++qt sep r
noncomputable def Kw:List Nat->List Nat->Bool
 | [],_=>true
 |a::r,b::q=>beq a b&&Kw r q
 |_::_,[]=>false
noncomputable def jV(c:Nat):List Nat->Nat->Option Nat
 | [],_=>.none
 |x::r,k=>if beq x c then some k else jV c r (k+1)
def Ji(sep:List Nat)(o:Option (Bool×Bool×List (List Nat))):Option AV:=cK .none o λq=>gd .none (ble (qt sep q.2.2).length 100000&&(ble (q.2.2.map length).sum 100000&&(ble q.2.2.length 1000&&ble sep.length 10))) (JM q.1 (q.2.1&&d7 sep) (qt sep q.2.2))
def Wz(o:Option (Bool×Bool×List (List Nat))):Option AV:=cK .none o λq=>gd .none (q.2.1&&(ble (q.2.2.map length).sum 100000&&ble q.2.2.length 1000)) (some (.jn (qt [] q.2.2)))
def Pt(h:AH)(sep:List Nat)(a:AV):Option AV:=match a with
 | .aF vs=>Ji sep (Ep vs)
 | .ref i=>cK .none (gp h i) λob=>mM .none ob λo vs=>match o with
  |false=>Ji sep (Ep vs)
  |true=>gd .none (beq i 0&&dz sep []) (Wz (Ep vs))
 |_=>.none
noncomputable def VY(o:Option Nat):Int:=match o with|some j=>.ofNat j| .none=> -1
def UZ(u:Bool)(a:Nat):Option Nat->Option AV
 |some j=>some (.int a (.ofNat j))
 | .none=>gd .none (!u) (some (.int 0 (-1)))
def Pp(p:Bool)(s:List Nat)(u:Bool)(c:Nat):List AV->Option AV
 | []=>gd .none (!p&& !u) (some (.int 0 (VY (jV c s 0))))
 | [b]=>gg .none b λa k=>tj .none k λk=>gd .none (beq a (Ov p)&&ble k s.length) (UZ u a (jV c (s.drop k) k))
 |_=>.none
def LF(h:AH)(o:Option AV):Option (AV×AH):=cK .none o λv=>some (v,h)
def abm(k:BM)(h:AH)(o:AV)(args:List AV):Option (AV×AH):=match k with
 | .join=>gh .none o λsep=>m4 .none args λa=>LF h (Pt h sep a)
 | .startswith=>gh .none o λs=>m4 .none args λa=>gh .none a λt=>some (.bool (Kw t s),h)
 | .append=>jh .none o λi=>m4 .none args λv=>cK .none (gp h i) λob=>mM .none ob λo vs=>gd .none (ble vs.length 1000) (some (.none,h.set i (.list o (vs++ [v]))))
 | .find=>mL .none args λa r=>gh .none a λt=>m4 .none t λc=>tm .none o λp s u=>LF h (Pp p s u c r)
 | .split=>gh .none o λs=>m4 .none args λa=>gh .none a λt=>m4 .none t λu_=>gd .none (ble s.length 100000) (some (.ref h.length,h++ [.GO]))
 |_=>.none
def QV(n:Nat):AO->Option AV
 | .aK _ a=>gd .none (xO n) (wF a n)
 | .aR _ a _=>gd .none (Hr n) (wF a n)
 |_=>.none
def Cs(h:AH)(o:AV)(n:Nat):Option AV:=jh .none o λr=>cK .none (gp h r) (QV n)
def U8(n:Nat)(v:AV):AO->Option AO
 | .aK c a=>gd .none (xO n) (some (.aK c (KR a n v)))
 | .aR c a x=>gd .none (Hr n) (some (.aR c (KR a n v) x))
 |_=>.none
def Cw(h:AH)(o:AV)(n:Nat)(v:AV):Option AH:=jh .none o λr=>cK .none (gp h r) λob=>cK .none (U8 n v ob) λo'=>some (h.set r o')
def ZH(fs:List (List Nat×Option AV))(k:List Nat):Bool:=cK false (hZ fs k) Option.isNone
def Pw(es:List (List Nat×AV))(k:List Nat)(v:AV):Option (List (List Nat×Option AV)×List (List Nat×AV))->Option AO
 | .none=>gd .none (ble es.length 1000) (some (.dict (ON es k v) .none))
 |some q=>gd .none ((hZ es k).isNone&&(ZH q.1 k&&((hZ q.2 k).isNone&&(ble es.length 1000&&ble q.2.length 1000)))) (some (.dict es (some (q.1,q.2++ [(k,v)]))))
def Hn(h:AH)(o i v:AV):Option AH:=jh .none o λr=>gh .none i λk=>cK .none (gp h r) λob=>xc .none ob λes q=>cK .none (Pw es k v q) λo'=>some (h.set r o')
def Cv(h:AH)(i c:Nat)(a:List (Nat×AV)):Option Nat->Option AH
 | .none=>some h
 |some j=>match beq j i with
  |true=>some h
  |false=>cK .none (gp h j) λoj=>n6 .none oj λu_ u_ y=>gd .none (!y) (some (h.set i (.aR c a true)))
def Ay(hd:Option Nat)(h:AH)(v:AV):Option (Nat×AH):=jh .none v λi=>cK .none (gp h i) λob=>n6 .none ob λc a u_=>cK .none (Cv h i c a hd) λh'=>some (i,h')
def Pq(hd:Option Nat)(h:AH):Bool:=match hd with
 | .none=>true
 |some j=>cK false (gp h j) λob=>n6 false ob λu_ u_ y=>!y
def Aw(np:Nat)(eN:List MV)(nl:Nat)(args:List AV):Option bx:=
 if ble args.length np&&ble np (args.length+eN.length)then
  ((eN.drop (args.length+eN.length-np)).mapM Dp).map λd=>(args++d).map some++replicate (nl-np) .none
 else .none
abbrev FE:=cx->Option Nat->bx->AH->Option (dT AV)
abbrev FB:=cx->Option Nat->bx->AH->Option (dT Bool)
abbrev FO:=cx->Option Nat->bx->AH->Option (dT (Option AV))
abbrev FL:=cx->Option Nat->bx->AH->Option (dT (List AV))
def P8(r:Option AV)(h:AH):Option (dT AV):=cK .none r λa=>some (.ok a h)
def okB(r:Option Bool)(h:AH):Option (dT AV):=cK .none r λa=>some (.ok (.bool a) h)
def N9(r:Option Bool)(h:AH):Option (dT Bool):=cK .none r λa=>some (.ok a h)
def okP(r:Option (AV×AH)):Option (dT AV):=cK .none r λp=>some (.ok p.1 p.2)
def sC(v:MV):FE:=λu_ u_ u_ h=>P8 (Dp v) h
def sL(i:Nat):FE:=λu_ u_ aA h=>P8 (Nr aA i) h
noncomputable def sG(a:Nat):FE:=λu_ u_ u_ h=>some (.ok (.dg a) h)
noncomputable def vE:FE:=λu_ u_ u_ u_=>.none
noncomputable def Qm:FB:=λu_ u_ u_ u_=>.none
noncomputable def aaO:FL:=λu_ u_ u_ h=>some (.ok [] h)
def Xi(a:FE)(r:FL):FL:=λC hd aA h=>bY (a C hd aA h) λv h1=>bY (r C hd aA h1) λvs h2=>some (.ok (v::vs) h2)
def Xq(es:FL):FE:=λC hd aA h=>bY (es C hd aA h) λvs h1=>some (.ok (.aF vs) h1)
def Xo(es:FL):FE:=λC hd aA h=>bY (es C hd aA h) λvs h1=>some (.ok (.ref h1.length) (h1++ [.list false vs]))
def QH(ks:List (List Nat))(vs:List AV)(n:Nat)(h1:AH):Option (dT AV):=cK .none (gp h1 n) λob=>xc .none ob λes o=>gd .none (es.isEmpty&&(o.isNone&&beq ks.length vs.length)) (some (.ok (.ref n) (h1.set n (.dict (ks.zip vs) .none))))
def Xj(ks:List (List Nat))(es:FL):FE:=λC hd aA h=>bY (es C hd aA (h++ [.dict [] .none])) λvs h1=>QH ks vs h.length h1
def LJ{β:Type}(a b:FE)(C:cx)(hd:Option Nat)(aA:bx)(h:AH)(f:AV->AV->AH->Option (dT β)):Option (dT β):=bY (a C hd aA h) λx h1=>bY (b C hd aA h1) λy h2=>f x y h2
def Xh(op:Cm)(a b:FE):FE:=λC hd aA h=>LJ a b C hd aA h λx y h2=>okB (Er op h2 x y) h2
def Qo(op:Cm)(a b:FE):FB:=λC hd aA h=>LJ a b C hd aA h λx y h2=>N9 (Er op h2 x y) h2
def T3(o2:Cm)(d:FE)(C:cx)(hd:Option Nat)(aA:bx)(r:Option Bool)(y:AV)(h2:AH):Option (dT Bool):=cK .none r λb=>match b with
 |true=>bY (d C hd aA h2) λz h3=>N9 (Er o2 h3 y z) h3
 |false=>some (.ok false h2)
def KA(o1 o2:Cm)(a b d:FE):FB:=λC hd aA h=>LJ a b C hd aA h λx y h2=>T3 o2 d C hd aA (Er o1 h2 x y) y h2
def XY(x:AV)(h1:AH):Option (dT AV):=gg .none x λa k=>gd .none (beq a 0) (some (.ok (.int 0 (-k)) h1))
def Xp(a:FE):FE:=λC hd aA h=>bY (a C hd aA h) XY
def Xn(t:FB)(a b:FE):FE:=λC hd aA h=>bY (t C hd aA h) λc h1=>match c with|true=>a C hd aA h1|false=>b C hd aA h1
def Xg(op:Op)(a b:FE):FE:=λC hd aA h=>LJ a b C hd aA h λx y h2=>P8 (UX op x y) h2
def Ql(o:FE)(k:Nat):FE:=λC hd aA h=>bY (o C hd aA h) λx h1=>P8 (Cs h1 x k) h1
def Xl(o i:FE):FE:=λC hd aA h=>LJ o i C hd aA h λx y h2=>P8 (U0 h2 x y) h2
noncomputable def sNo:FO:=λu_ u_ u_ h=>some (.ok .none h)
def sSo(a:FE):FO:=λC hd aA h=>bY (a C hd aA h) λv h1=>some (.ok (some v) h1)
def KG(o:FE)(lo hi:FO):FE:=λC hd aA h=>bY (o C hd aA h) λx h1=>bY (lo C hd aA h1) λa h2=>bY (hi C hd aA h2) λb h3=>P8 (Hq x a b) h3
def sB1(k:B1)(a:FE):FE:=λC hd aA h=>bY (a C hd aA h) λx h1=>P8 (ab1 k h1 x) h1
def Xm(a:FE)(k:Uc):FE:=λC hd aA h=>bY (a C hd aA h) λx h1=>okB (U4 k x) h1
def T2(C:cx)(hd:Option Nat)(fv:AV)(vs:List AV)(h2:AH):Option (dT AV):=DN .none fv λa=>C a vs hd h2
def Qn(f:FE)(as:FL):FE:=λC hd aA h=>bY (f C hd aA h) λfv h1=>bY (as C hd aA h1) λvs h2=>T2 C hd fv vs h2
def T4(C:cx)(hd:Option Nat)(ov:AV)(k:Nat)(as:FL)(aA:bx)(h1:AH):Option (dT AV):=jh .none ov λr=>cK .none (gp h1 r) λob=>BC .none ob λc a=>gd .none (wF a k).isNone (cK .none (aB c k) λf=>bY (as C hd aA h1) λvs h2=>C f (.ref r::vs) hd h2)
def Qp(o:FE)(k:Nat)(as:FL):FE:=λC hd aA h=>bY (o C hd aA h) λov h1=>T4 C hd ov k as aA h1
def aa5(C:cx)(hd:Option Nat)(k:BM)(ov:AV)(as:FL)(aA:bx)(h1:AH):Option (dT AV):=gd .none (Pn k h1 ov) (bY (as C hd aA h1) λvs h2=>okP (abm k h2 ov vs))
def sBm(k:BM)(o:FE)(as:FL):FE:=λC hd aA h=>bY (o C hd aA h) λov h1=>aa5 C hd k ov as aA h1
def aa6(C:cx)(hd:Option Nat)(f:Option Nat)(as:FL)(aA:bx)(h:AH):Option (dT AV):=cK .none f λf=>bY (as C hd aA h) λvs h2=>C f vs hd h2
def sCm(c k:Nat)(as:FL):FE:=λC hd aA h=>aa6 C hd (aB c k) as aA h
def XX(vs:List AV)(h1:AH):Option (dT AV):=mL .none vs λa r=>m4 .none r λu_=>jh .none a λi=>cK .none (gp h1 i) λob=>n6 .none ob λu_ u_ u_=>some (.ok .none h1)
def Xk(as:FL):FE:=λC hd aA h=>bY (as C hd aA h) XX
def aaP(a:FB):FB:=λC hd aA h=>bY (a C hd aA h) λb h1=>some (.ok (!b) h1)
def aaR(a:FE):FB:=λC hd aA h=>bY (a C hd aA h) λv h1=>N9 (AA h1 v) h1
noncomputable def Xf:FB:=λu_ u_ u_ h=>some (.ok true h)
def OL(a r:FB):FB:=λC hd aA h=>bY (a C hd aA h) λb h1=>match b with|true=>r C hd aA h1|false=>some (.ok false h1)
noncomputable def aaQ:FB:=λu_ u_ u_ h=>some (.ok false h)
def YS(a r:FB):FB:=λC hd aA h=>bY (a C hd aA h) λb h1=>match b with|true=>some (.ok true h1)|false=>r C hd aA h1
structure FD where
 e:FE
 t:FB
def FD.of(a:FE):FD:=⟨a,aaR a⟩
mutual
def cE:ME->FD
 | .c v=>.of (sC v)
 | .l i=>.of (sL i)
 | .g a=>.of (sG a)
 | .aF es=>.of (Xq (HP es))
 | .fP es=>.of (Xo (HP es))
 | .qc ks es=>.of (Xj ks (HP es))
 | .aV op a b=>⟨Xh op (cE a).e (cE b).e,Qo op (cE a).e (cE b).e⟩
 | .ju o1 o2 a b d=>⟨vE,KA o1 o2 (cE a).e (cE b).e (cE d).e⟩
 | .and es=>⟨vE,MJ es⟩
 | .or es=>⟨vE,Yj es⟩
 | .not a=>⟨vE,aaP (cE a).t⟩
 | .neg a=>.of (Xp (cE a).e)
 | .ite t a b=>.of (Xn (cE t).t (cE a).e (cE b).e)
 | .aZ op a b=>.of (Xg op (cE a).e (cE b).e)
 | .cn o k=>.of (Ql (cE o).e k)
 | .bG o i=>.of (Xl (cE o).e (cE i).e)
 | .slice o lo hi=>.of (KG (cE o).e (cO lo) (cO hi))
 | .b1 k a=>.of (sB1 k (cE a).e)
 | .cR a k=>.of (Xm (cE a).e k)
 | .call f as=>.of (Qn (cE f).e (HP as))
 | .cj o k as=>.of (Qp (cE o).e k (HP as))
 | .bP k o as=>.of (sBm k (cE o).e (HP as))
 | .fV c k as=>.of (sCm c k (HP as))
 | .dJ as=>.of (Xk (HP as))
 | .comp _ _ _=>⟨vE,Qm⟩
 | .ia=>⟨vE,Qm⟩
def cO:Option ME->FO
 | .none=>sNo
 |some e=>sSo (cE e).e
def HP:List ME->FL
 | []=>aaO
 |e::r=>Xi (cE e).e (HP r)
def MJ:List ME->FB
 | []=>Xf
 |e::r=>OL (cE e).t (MJ r)
def Yj:List ME->FB
 | []=>aaQ
 |e::r=>YS (cE e).t (Yj r)
end
abbrev FS:=cx->Option Nat->bx->AH->Option bH
noncomputable def ed{α:Type}(r:Option (dT α))(aA:bx)(f:α->AH->Option bH):Option bH:=match r with
 |some (.ok v h)=>f v h
 |some (.aR e h)=>some (.aR e aA h)
 | .none=>.none
def Ax(x:Tg)(v:AV)(aA:bx):Option bx:=match x with
 | .iM i=>some (uu aA i (some v))
 | .eS xs=>ji .none v λvs=>gd .none (beq vs.length xs.length) (some (zS aA xs vs))
def P4(o:Option bx)(h:AH):Option bH:=cK .none o λaA=>some (.ok .next aA h)
def vj(aA:bx)(o:Option AH):Option bH:=cK .none o λh=>some (.ok .next aA h)
noncomputable def eB{β:Type}(r:Option bH)(f:Ao->bx->AH->Option β)(k:Nat->bx->AH->Option β):Option β:=match r with
 |some (.ok fl aA h)=>f fl aA h
 |some (.aR e aA h)=>k e aA h
 | .none=>.none
def XA(e:FE):FS:=λC hd aA h=>ed (e C hd aA h) aA λu_ h1=>some (.ok .next aA h1)
def aaV(x:Nat)(e:FE):FS:=λC hd aA h=>ed (e C hd aA h) aA λv h1=>some (.ok .next (uu aA x (some v)) h1)
def LK(hd:Option Nat)(xs:List Nat)(aA:bx)(v:AV)(h1:AH):Option bH:=gd .none (Pq hd h1) (P4 (Ax (.eS xs) v aA) h1)
def Qt(xs:List Nat)(e:FE):FS:=λC hd aA h=>ed (e C hd aA h) aA (LK hd xs aA)
def Qr(o:FE)(k:Nat)(e:FE):FS:=λC hd aA h=>ed (e C hd aA h) aA λv h1=>ed (o C hd aA h1) aA λov h2=>vj aA (Cw h2 ov k v)
def Qs(o i e:FE):FS:=λC hd aA h=>ed (e C hd aA h) aA λv h1=>ed (o C hd aA h1) aA λov h2=>ed (i C hd aA h2) aA λiv h3=>vj aA (Hn h3 ov iv v)
def Yb(x:Nat)(aA:bx)(r:Option AV)(h1:AH):Option bH:=cK .none r λr=>some (.ok .next (uu aA x (some r)) h1)
def XZ(x:Nat)(op:Op)(e:FE)(C:cx)(hd:Option Nat)(aA:bx)(a:Option AV)(h:AH):Option bH:=cK .none a λa=>ed (e C hd aA h) aA λb h1=>Yb x aA (QW op a b) h1
def Xx(x:Nat)(op:Op)(e:FE):FS:=λC hd aA h=>XZ x op e C hd aA (Nr aA x) h
def T5(k:Nat)(aA:bx)(ov:AV)(r:Option AV)(h2:AH):Option bH:=cK .none r λr=>vj aA (Cw h2 ov k r)
def LL(k:Nat)(op:Op)(e:FE)(C:cx)(hd:Option Nat)(aA:bx)(ov:AV)(a:Option AV)(h1:AH):Option bH:=cK .none a λa=>ed (e C hd aA h1) aA λb h2=>T5 k aA ov (QW op a b) h2
def Qu(o:FE)(k:Nat)(op:Op)(e:FE):FS:=λC hd aA h=>ed (o C hd aA h) aA λov h1=>LL k op e C hd aA ov (Cs h1 ov k) h1
def XC(t:FB)(a b:FS):FS:=λC hd aA h=>ed (t C hd aA h) aA λc h1=>match c with|true=>a C hd aA h1|false=>b C hd aA h1
noncomputable def T7(f:bx->AH->Option bH)(fl:Ao)(aI:bx)(h2:AH):Option bH:=match fl with
 | .next=>f aI h2
 | .cont=>f aI h2
 | .brk=>some (.ok .next aI h2)
 | .ret w=>some (.ok (.ret w) aI h2)
def Ed(r:Option bH)(f:bx->AH->Option bH):Option bH:=eB r (T7 f) λe aI h2=>some (.aR e aI h2)
def Dq(t:FB)(b:FS)(C:cx)(hd:Option Nat):Nat->bx->AH->Option bH
 |0=>λu_ u_=>.none
 |n+1=>λaA h=>ed (t C hd aA h) aA λc h1=>match c with
  |true=>Ed (b C hd aA h1) (Dq t b C hd n)
  |false=>some (.ok .next aA h1)
def TH(t:FB)(b:FS):FS:=λC hd aA h=>Dq t b C hd 60 aA h
def SM(o:Option bx)(f:bx->Option bH):Option bH:=cK .none o f
def Jv(x:Tg)(b:FS)(C:cx):List AV->bx->AH->Option bH
 | []=>λaA h=>some (.ok .next aA h)
 |v::vs=>λaA h=>SM (Ax x v aA) λaG=>Ed (b C .none aG h) (Jv x b C vs)
def QI(x:Tg)(b:FS)(C:cx)(aA:bx)(v:AV)(h1:AH):Option bH:=ji .none v λvs=>Jv x b C vs aA h1
def Yc(x:Tg)(e:FE)(b:FS)(C:cx)(aA:bx)(h:AH)(hd:Option Nat):Option bH:=match hd with
 | .none=>ed (e C .none aA h) aA (QI x b C aA)
 |some _=>.none
def XB(x:Tg)(e:FE)(b:FS):FS:=λC hd aA h=>Yc x e b C aA h hd
def aaX(e:FE):FS:=λC hd aA h=>ed (e C hd aA h) aA λv h1=>some (.ok (.ret v) aA h1)
noncomputable def XD:FS:=λu_ u_ aA h=>some (.ok (.ret .none) aA h)
def Ee(aA:bx)(r:Option (Nat×AH)):Option bH:=cK .none r λp=>some (.aR p.1 aA p.2)
def Ls(e:FE):FS:=λC hd aA h=>ed (e C hd aA h) aA λv h1=>Ee aA (Ay hd h1 v)
def aa7(i:Nat)(r:Option bH):Option bH:=eB r (λfl aI h2=>some (.ok fl (uu aI i .none) h2)) λe2 aI h2=>some (.aR e2 (uu aI i .none) h2)
def QJ(x:Option Nat)(f:FS)(C:cx)(e:Nat)(aG:bx)(h1:AH):Option bH:=match x with
 | .none=>f C (some e) aG h1
 |some i=>aa7 i (f C (some e) (uu aG i (some (.ref e))) h1)
def T8(x:Option Nat)(f:FS)(C:cx)(r:Option bH):Option bH:=eB r (λfl aG h1=>some (.ok fl aG h1)) (QJ x f C)
def Qx(b:FS)(x:Option Nat)(f:FS):FS:=λC hd aA h=>T8 x f C (b C hd aA h)
def T6(r:Option bH)(k:bx->AH->bH):Option bH:=eB r (λfl aI h2=>JV .none fl (some (k aI h2))) λe aI h2=>some (.aR e aI h2)
def T9(f:FS)(C:cx)(hd:Option Nat)(r:Option bH):Option bH:=eB r (λfl aG h1=>T6 (f C hd aG h1) λaI h2=>.ok fl aI h2) λe aG h1=>T6 (f C (some e) aG h1) λaI h2=>.aR e aI h2
def Qy(b f:FS):FS:=λC hd aA h=>T9 f C hd (b C hd aA h)
noncomputable def aaW:FS:=λu_ u_ aA h=>some (.ok .brk aA h)
noncomputable def Xz:FS:=λu_ u_ aA h=>some (.ok .cont aA h)
noncomputable def Qw:FS:=λu_ u_ aA h=>some (.ok .next aA h)
noncomputable def Xy:FS:=λu_ u_ u_ u_=>.none
noncomputable def Yd(f:bx->AH->Option bH)(fl:Ao)(aG:bx)(h1:AH):Option bH:=match fl with
 | .next=>f aG h1
 | .brk=>some (.ok .brk aG h1)
 | .cont=>some (.ok .cont aG h1)
 | .ret v=>some (.ok (.ret v) aG h1)
def aa8(r:Option bH)(f:bx->AH->Option bH):Option bH:=eB r (Yd f) λe aG h1=>some (.aR e aG h1)
def Qv(a r:FS):FS:=λC hd aA h=>aa8 (a C hd aA h) (r C hd)
mutual
def cS:MS->FS
 | .expr e=>XA (cE e).e
 | .bL x e=>aaV x (cE e).e
 | .dE xs e=>Qt xs (cE e).e
 | .c3 o k e=>Qr (cE o).e k (cE e).e
 | .mq o i e=>Qs (cE o).e (cE i).e (cE e).e
 | .mZ x op e=>Xx x op (cE e).e
 | .mr o k op e=>Qu (cE o).e k op (cE e).e
 | .ifs t a b=>XC (cE t).t (An a) (An b)
 | .while t b=>TH (cE t).t (An b)
 | .for x (.val e) b=>XB x (cE e).e (An b)
 | .for _ (.range _) _=>Xy
 | .ret e=>aaX (cE e).e
 | .uo=>XD
 | .cW e=>Ls (cE e).e
 | .jl b x f=>Qx (An b) x (An f)
 | .qP b f=>Qy (An b) (An f)
 | .brk=>aaW
 | .cont=>Xz
 | .um=>Qw
 | .ia=>Xy
def An:List MS->FS
 | []=>Qw
 |a::r=>Qv (cS a) (An r)
end
noncomputable def Zx(fl:Ao)(h1:AH):Option (dT AV):=match fl with
 | .ret v=>some (.ok v h1)
 | .next=>some (.ok .none h1)
 |_=>.none
def VJ(r:Option bH):Option (dT AV):=eB r (λfl u_ h1=>Zx fl h1) λe u_ h1=>some (.aR e h1)
inductive UU where
 |fn (np:Nat) (eN:List MV) (nl:Nat) (body:FS)
 |cls (init:Nat)
 |aR (init:Nat)
def aaN(C:cx)(body:FS)(hd:Option Nat)(aA:Option bx)(h:AH):Option (dT AV):=cK .none aA λaA=>VJ (body C hd aA h)
def Jw(n:Nat)(v:AV)(h:AH):Option (dT AV):=mO .none v (some (.ok (.ref n) h))
def PB(C:cx)(args:List AV)(hd:Option Nat)(h:AH)(f:Nat):Option UU->Option (dT AV)
 |some (.fn np eN nl body)=>aaN C body hd (Aw np eN nl args) h
 |some (.cls fi)=>bY (C fi (.ref h.length::args) hd (h++ [.aK f []])) (Jw h.length)
 |some (.aR fi)=>gd .none (ble args.length 16) (bY (C fi (.ref h.length::args) hd (h++ [.aR f [] false])) (Jw h.length))
 | .none=>.none
def gr(T:List (Nat×UU)):Nat->cx
 |0=>λu_ u_ u_ u_=>.none
 |n+1=>λf args hd h=>PB (gr T n) args hd h f (jW T f)
def cFT:FT->Option UU
 | .fn np d nl b=>some (.fn np d nl (An b))
 | .cls (some i)=>some (.cls i)
 | .cls .none=>.none
 | .aR i=>some (.aR i)
def fx:List (Nat×UU):=lC.filterMap λp=>(cFT p.2).map λs=>(p.1,s)
theorem za{α:Type}{f:Nat}{v:α}:∀{l:List (Nat×α)},(l.map (·.1)).Nodup->(f,v)∈l->jW l f=some v
 | [],_,hm=>by cases hm
 |(k,w)::r,hn,hm=>by
  have hn:=nodup_cons.mp hn;dsimp only[jW];cases hm with
  |head=>rw[ah (beq_refl _)]
  |tail _ hm=>
   rw[ag (λq=>hn.1 (by simp only[au q];exact mem_map_of_mem (f:=(·.1)) hm))];exact za hn.2 hm
theorem BN:(lC.map (·.1)).Nodup:=by decide+kernel
theorem FP(f:Nat)(s:UU)(h:(f,s)∈fx):(∀np eN nl b,s= .fn np eN nl b->∃body,prog f=some (.fn np eN nl body)/\b=An body)/\(∀i,s= .cls i->prog f=some (.cls (some i)))/\(∀i,s= .aR i->prog f=some (.aR i)):=by
 obtain⟨⟨f',ft⟩,hm,e⟩:=mem_filterMap.mp h;obtain⟨s',e1,e2⟩:=map_eq_some_iff.mp e;injection e2 with I1 I2;subst I1 I2
 have hp:prog f'=some ft:=za BN hm;refine hp▸?_;cases ft with
 |fn np d nl b=>
  injection e1 with I1;subst I1
  exact⟨λu_ u_ u_ u_ q=>by injection q with I1 I2 I3 I4;subst I1 I2 I3 I4;exact⟨b,rfl,rfl⟩,(λu_ q=>by cases q),λu_ q=>by cases q⟩
 |aR i=>
  injection e1 with I1;subst I1
  exact⟨(λu_ u_ u_ u_ q=>by cases q),(λu_ q=>by cases q),λu_ q=>by injection q with I1;subst I1;rfl⟩
 |cls o=>
  cases o with
  |none=>injection e1
  |some i=>
   injection e1 with I1;subst I1
   exact⟨(λu_ u_ u_ u_ q=>by cases q),(λu_ q=>by injection q with I1;subst I1;rfl),λu_ q=>by cases q⟩
def ko:List MS:=match jr with|_::_:: .while _ b::_=>b|_=>[]
def KJ:FS:=An ko
structure G where
 pre:List Nat
 rest:List Nat
 x:List Nat
 y:List Nat
 aP:Nat->Int
 qB:List Nat
 n0:Nat
 bQ:Nat->List MV
 tail:Nat->List (List Nat×MV)
 pQ:Nat->MV
 H0:MH
 aQ:List (List Nat)
noncomputable def G.pR(g:G)(c:Nat):List Nat:=if c=2000000 then g.x else if c=2000001 then g.y else [c]
def G.den(g:G)(s:List Nat):List Nat:=s.flatMap g.pR
noncomputable def G.bK(g:G)(i:Nat):Nat:=match g.qB[i]? with|some a=>a| .none=>g.n0+(i-g.qB.length)
structure fL(g:G):Prop where
 a0:g.aP 0=0
 a1:g.aP 1=g.pre.length
 a2:g.aP 2=g.pre.length+g.rest.length
 nd:g.qB.Nodup
 lt:∀a∈g.qB,a<g.n0
 xl:g.x.length<=60
 yl:g.y.length<=60
 hx:∀t∈i8,g.x≠t
 bl:∀i,(g.bQ i).length<=1000000
 tl:∀i,(g.tail i).length<=1000000
 b0:g.bQ 0=g.aQ.map .str
 ml:(g.aQ.map length).sum<=1000000
mutual
inductive VA(g:G):AV->MV->Prop where
 |none:VA g .none .none
 |bool (b):VA g (.bool b) (.bool b)
 |int (a k):VA g (.int a k) (.int (g.aP a+k))
 |str (p s r):VA g (.str p s r) (.str ((if p=true then g.pre else [])++s++(if r=true then g.rest else [])))
 |tC (s t):VA g (.tC s) (.str (s++t))
 |aF {vs ws}:dP g vs ws->VA g (.aF vs) (.aF ws)
 |ref (i):VA g (.ref i) (.ref (g.bK i))
 |dg (a):VA g (.dg a) (.dg a)
 |tB {i:Int}:1<=i->VA g .tB (.int i)
 |any (v):VA g .any v
 |jn (s):VA g (.jn s) (.str (g.aQ.flatten++g.den s))
 |tk (s):VA g (.tk s) (.str (g.den s))
 |pQ (i):VA g (.pQ i) (g.pQ i)
inductive dP(g:G):List AV->List MV->Prop where
 |nil:dP g [] []
 |cons {v w vs ws}:VA g v w->dP g vs ws->dP g (v::vs) (w::ws)
end
inductive jO(g:G):List (List Nat×AV)->List (List Nat×MV)->Prop where
 |nil:jO g [] []
 |cons {k v w es fs}:VA g v w->jO g es fs->jO g ((k,v)::es) ((k,w)::fs)
inductive mY(g:G):List (Nat×AV)->List (Nat×MV)->Prop where
 |nil:mY g [] []
 |cons {k v w es fs}:VA g v w->mY g es fs->mY g ((k,v)::es) ((k,w)::fs)
structure En(g:G)(i:Nat)(o:Option (List (List Nat×Option AV)×List (List Nat×AV)))(tl:List (List Nat×MV)):Prop where
 no:o= .none->tl= []
 some:∀fs ad,o=some (fs,ad)->(∀n,hZ fs n=some .none->getD (g.tail i) n= .none)/\(∀n v,hZ fs n=some (some v)->∃w,getD (g.tail i) n=some w/\VA g v w)/\∃xN,jO g ad xN/\tl=g.tail i++xN
inductive OA(g:G)(i:Nat):AO->MO->Prop where
 |list {o vs ws}:dP g vs ws->OA g i (.list o vs) (.list ((if o=true then g.bQ i else [])++ws))
 |GO {ws}:ws≠[]->OA g i .GO (.list ws)
 |dict {es o fs tl}:jO g es fs->En g i o tl->OA g i (.dict es o) (.dict (fs++tl))
 |aK {c a b}:mY g a b->OA g i (.aK c a) (.aK c b)
 |aR {c a b x}:mY g a b->OA g i (.aR c a x) (.aR c b x)
structure HA(g:G)(h:AH)(H:MH):Prop where
 len:H.length+g.qB.length=g.n0+h.length
 Uy:g.qB.length<=h.length
 mh:∀(i:Nat) o,gp h i=some o->∃o',H[g.bK i]? =some o'/\OA g i o o'
 frame:∀j,j<g.n0->j∉g.qB->H[j]? =g.H0[j]?
theorem pG{α:Type}(l:List α):∀i:Nat,gp l i=l[i]? :=by
 induction l with
 |nil=>exact λu_=>getElem?_nil.symm
 |cons a r ih=>
  intro i;cases i with
  |zero=>rfl
  |succ i=>exact ih i
theorem aW:∀{b:List Nat},dz a b=true↔a=b:=by
 induction a with
 |nil=>
  intro b;cases b with
  |nil=>exact⟨λu_=>rfl,λu_=>rfl⟩
  |cons=>exact⟨λe=>((by injection e)),λe=>((by injection e))⟩
 |cons x a ih=>
  intro b;cases b with
  |nil=>exact⟨λe=>((by injection e)),λe=>((by injection e))⟩
  |cons y b=>exact and_eq_true_iff.trans ((and_congr ⟨au,λe=>e▸beq_refl x⟩ ih).trans List.cons_eq_cons.symm)
theorem we(a b:List Nat):dz a b=decide (a=b):=by
 by_cases h:a=b
 ·rw[aj h];exact aW.mpr h
 ·rw[ai h];exact eq_false_iff.mpr λq=>h (aW.mp q)
theorem wW:WH a b=true↔a<b:=by
 cases a with
 |ofNat a=>cases b with
  |ofNat b=>exact(Iff.of_eq blt_eq).trans ofNat_lt.symm
  |negSucc b=>exact⟨λe=>((by injection e)),λe=>a9 e (Int.not_lt.mpr (Int.le_trans (Int.le_of_lt (Int.negSucc_lt_zero b)) (natCast_nonneg a)))⟩
 |negSucc a=>cases b with
  |ofNat b=>exact⟨λu_=>Int.lt_of_lt_of_le (Int.negSucc_lt_zero a) (natCast_nonneg b),λu_=>rfl⟩
  |negSucc b=>exact(Iff.of_eq blt_eq).trans ⟨λh=>Int.neg_lt_neg (ofNat_lt.mpr (Nat.succ_lt_succ h)),λh=>Nat.lt_of_succ_lt_succ (ofNat_lt.mp (Int.lt_of_neg_lt_neg h))⟩
theorem Ds(a b:Int):WH a b=decide (a<b):=by
 by_cases h:a<b
 ·rw[aj h];exact wW.mpr h
 ·rw[ai h];exact eq_false_iff.mpr λq=>h (wW.mp q)
theorem wR(a b:Int):YH a b=decide (a<=b):=
 (af (!·) (Ds b a)).trans (decide_not.symm.trans (decide_eq_decide.mpr Int.not_lt))
theorem wb(a b:Int):Ui a b=decide (a=b):=by
 have nb:∀m n:Nat,beq m n=decide (m=n):=λm n=>Bool.eq_iff_iff.mpr (Iff.trans ⟨au,λe=>e▸beq_refl m⟩ decide_eq_true_iff.symm);cases a with
 |ofNat a=>cases b with
  |ofNat b=>exact(nb a b).trans (decide_eq_decide.mpr ⟨af _,Int.ofNat.inj⟩)
  |negSucc b=>exact(ai λe=>(by injection e)).symm
 |negSucc a=>cases b with
  |ofNat b=>exact(ai λe=>(by injection e)).symm
  |negSucc b=>exact(nb a b).trans (decide_eq_decide.mpr ⟨af _,Int.negSucc.inj⟩)
theorem D9(K:fL g)(h:O5 s t=some b):decide (g.den s=t)=b:=by
 unfold O5 at h;by_cases q:(dz s [2000000]&&i8.any (dz t))=true
 ·rw[ah q]at h;have z:=bh q;refine(any_eq_true.mp z.2).elim λu w=>inj h▸ai λe=>K.hx t (aW.mp w.2▸w.1) (Eq.trans ?_ e);refine(aW.mp z.1)▸?_;exact(ax _).symm
 ·rw[ag q]at h;exact(by injection h)
section
variable {g:G} {h:AH} {H:MH}
theorem tw(hi:i<g.qB.length):g.bK i=g.qB[i]:=by unfold G.bK;rw[getElem?_eq_getElem hi]
theorem mQ(hi:g.qB.length<=i):g.bK i=g.n0+(i-g.qB.length):=by unfold G.bK;rw[List.getElem?_eq_none hi]
theorem DT(K:fL g)(e:g.bK i=g.bK j):i=j:=by
 have no:∀{i j:Nat} (hi:i<g.qB.length),g.qB[i]≠g.n0+j:=λhi e=>a9 (e▸K.lt _ (List.getElem_mem hi)) (not_lt.mpr (le_add_right _ _));by_cases hi:i<g.qB.length
 ·by_cases hj:j<g.qB.length
  ·exact(List.getElem_inj K.nd).mp ((tw hi).symm.trans (e.trans (tw hj)))
  ·exact a9 ((tw hi).symm.trans (e.trans (mQ (le_of_not_lt hj)))) (no hi)
 ·by_cases hj:j<g.qB.length
  ·exact a9 ((tw hj).symm.trans (e.symm.trans (mQ (le_of_not_lt hi)))) (no hj)
  ·exact(Nat.sub_add_cancel (le_of_not_lt hi)).symm.trans ((af (· +_) (Nat.add_left_cancel ((mQ (le_of_not_lt hi)).symm.trans (e.trans (mQ (le_of_not_lt hj)))))).trans (Nat.sub_add_cancel (le_of_not_lt hj)))
theorem HA.new(X:HA g h H):g.bK h.length=H.length:=(mQ X.Uy).trans ((Nat.add_sub_assoc X.Uy _).symm.trans ((af (· -g.qB.length) X.len.symm).trans (Nat.add_sub_cancel ..)))
theorem HA.aaA(X:HA g h H):g.n0<=H.length:=Nat.le_of_add_le_add_right (b:=g.qB.length) (az (add_le_add_left X.Uy _) (le_of_eq X.len.symm))
theorem HA.S0(e:gp h i=some o):i<h.length:=by rw[pG]at e;exact(bo e).1
theorem HA.push(X:HA g h H)(K:fL g)(r:OA g h.length o o'):HA g (h++ [o]) (H++ [o']):=
 ⟨by rw[ak,ak];exact(Nat.add_right_comm _ _ _).trans (af (· +1) X.len),ak▸az X.Uy (le_add_right _ _),
  λi ob e=>(gR ((pG _ i).symm.trans e)).elim (λe=>(X.mh i ob ((pG _ i).trans e)).imp λo2 z=>⟨(aw (bo z.1).1).trans z.1,z.2⟩)
   λz=>⟨o',by refine z.1▸X.new▸?_;exact getElem?_concat_length,z.1▸z.2▸r⟩,
  λj hj hn=>(aw (lt_of_lt_of_le hj X.aaA)).trans (X.frame j hj hn)⟩
theorem HA.set(X:HA g h H)(K:fL g)(e0:gp h i=some o0)(r:OA g i o o'):HA g (h.set i o) (H.set (g.bK i) o'):=by
 have hp:=(X.mh i o0 e0).elim λp0 z=>(bo z.1).1;refine⟨by rw[length_set,length_set];exact X.len,by simp only[length_set];exact X.Uy,λj ob e=>?_,λj hj hn=>(getElem?_set_ne λq=>?_).trans (X.frame j hj hn)⟩
 ·rw[pG]at e;by_cases qr:i=j
  ·subst qr;rw[getElem?_set_self (HA.S0 e0)]at e;exact⟨o',getElem?_set_self hp,inj e▸r⟩
  ·rw[getElem?_set_ne qr,<-pG]at e;exact(X.mh j ob e).imp λo2 z=>⟨(getElem?_set_ne λq=>qr (DT K q)).trans z.1,z.2⟩
 ·by_cases hk:i<g.qB.length
  ·exact hn (q▸tw hk▸List.getElem_mem hk)
  ·exact a9 hj (not_lt.mpr (q▸mQ (le_of_not_lt hk)▸le_add_right _ _))
theorem dP.ne{ws}{P:List MV->Prop}(r:dP g [] ws)(h:P []):P ws:=by cases r;exact h
theorem mY.ne{ws}{P:List (Nat×MV)->Prop}(r:mY g [] ws)(h:P []):P ws:=by cases r;exact h
theorem jO.ne{ws}{P:List (List Nat×MV)->Prop}(r:jO g [] ws)(h:P []):P ws:=by cases r;exact h
theorem dP.ce{v:AV}{vs:List AV}{ws:List MV}{P:List MV->Prop}(r:dP g (v::vs) ws)(h:∀w fs,VA g v w->dP g vs fs->P (w::fs)):P ws:=by cases r with|cons x r=>exact h _ _ x r
theorem mY.ce{p:Nat×AV}{es:List (Nat×AV)}{b:List (Nat×MV)}{P:List (Nat×MV)->Prop}(r:mY g (p::es) b)(h:∀w fs,VA g p.2 w->mY g es fs->P ((p.1,w)::fs)):P b:=by
 cases r with|cons x r=>exact h _ _ x r
theorem jO.ce{p:List Nat×AV}{es:List (List Nat×AV)}{b:List (List Nat×MV)}{P:List (List Nat×MV)->Prop}(r:jO g (p::es) b)(h:∀w fs,VA g p.2 w->jO g es fs->P ((p.1,w)::fs)):P b:=by
 cases r with|cons x r=>exact h _ _ x r
theorem dP.len{vs ws}(r:dP g vs ws):vs.length=ws.length:=by
 induction vs generalizing ws with
 |nil=>exact r.ne (P:=λws=>0=ws.length) rfl
 |cons v vs ih=>exact r.ce (P:=λws=>vs.length+1=ws.length) λu_ u_ u_ r=>af (· +1) (ih r)
theorem dP.gp{vs ws}(r:dP g vs ws):∀{i:Nat} {v:AV},aN.gp vs i=some v->∃w,ws[i]? =some w/\VA g v w:=by
 induction vs generalizing ws with
 |nil=>exact λ{i v} e=>(by injection e)
 |cons v vs ih=>
  refine λ{i u} e=>r.ce (P:=λws=>∃w,ws[i]? =some w/\VA g u w) λw fs a r=>?_;cases i with
  |zero=>exact⟨w,rfl,inj e▸a⟩
  |succ i=>exact ih r (i:=i) e
theorem dP.append{vs ws jo Ec}(a:dP g vs ws)(b:dP g jo Ec):dP g (vs++jo) (ws++Ec):=by
 induction vs generalizing ws with
 |nil=>exact a.ne (P:=λws=>dP g _ (ws++Ec)) b
 |cons v vs ih=>exact a.ce (P:=λws=>dP g _ (ws++Ec)) λu_ u_ x r=>.cons x (ih r)
theorem dP.dropLast{vs ws}(r:dP g vs ws):dP g vs.dropLast ws.dropLast:=by
 induction vs generalizing ws with
 |nil=>exact r.ne (P:=λws=>dP g [] ws.dropLast) .nil
 |cons v vs ih=>
  refine r.ce (P:=λws=>dP g _ ws.dropLast) λw fs a r=>?_;cases vs with
  |nil=>exact r.ne (P:=λfs=>dP g [] (w::fs).dropLast) .nil
  |cons u vs=>exact r.ce (P:=λfs=>(∀{ws},dP g (u::vs) ws->dP g _ ws.dropLast)->dP g _ (w::fs).dropLast) (λx fs b r ih=>.cons a (ih (.cons b r))) ih
def GD(g:G)(o:Option AV)(p:Option MV):Prop:=match o with|some v=>∃w,p=some w/\VA g v w| .none=>p= .none
theorem Vg(q:a≠b):¬beq a b=true:=λz=>q (au z)
theorem yC{a b}(r:mY g a b)(n:Nat):GD g (wF a n) (bW b n):=by
 induction a generalizing b with
 |nil=>exact r.ne (P:=λb=>GD g .none (bW b n)) rfl
 |cons p a ih=>
  refine r.ce (P:=λb=>GD g (if beq p.1 n then some p.2 else wF a n) (bW b n)) λw fs x r=>?_;show GD g _ (if p.1=n then some w else bW fs n);by_cases q:p.1=n
  ·rw[ah q,ah (q▸beq_refl _)];exact⟨w,rfl,x⟩
  ·rw[ag q,ag (Vg q)];exact ih r
theorem zR{a b}(r:mY g a b)(x:VA g v w):mY g (KR a n v) (jj b n w):=by
 induction a generalizing b with
 |nil=>exact r.ne (P:=λb=>mY g [(n,v)] (jj b n w)) (.cons x .nil)
 |cons p a ih=>
  refine r.ce (P:=λb=>mY g (if beq p.1 n then(p.1,v)::a else(p.1,p.2)::KR a n v) (jj b n w)) λu fs y r=>?_;show mY g _ (if p.1=n then(p.1,w)::fs else(p.1,u)::jj fs n w);by_cases q:p.1=n
  ·rw[ah q,ah (q▸beq_refl _)];exact .cons x r
  ·rw[ag q,ag (Vg q)];exact .cons y (ih r)
theorem f9(es tl:List (List Nat×MV))(n:List Nat):getD (es++tl) n=match getD es n with|some v=>some v| .none=>getD tl n:=by
 induction es with
 |nil=>rfl
 |cons p es ih=>
  show(if p.1=n then some p.2 else getD (es++tl) n)=match(if p.1=n then some p.2 else getD es n)with|some v=>some v| .none=>getD tl n
  by_cases q:p.1=n
  ·rw[ah q,ah q]
  ·rw[ag q,ag q];exact ih
theorem nJ{a b}(r:jO g a b)(n:List Nat):GD g (hZ a n) (getD b n):=by
 induction a generalizing b with
 |nil=>exact r.ne (P:=λb=>GD g .none (getD b n)) rfl
 |cons p a ih=>
  refine r.ce (P:=λb=>GD g (if dz p.1 n then some p.2 else hZ a n) (getD b n)) λw fs x r=>?_;show GD g _ (if p.1=n then some w else getD fs n);by_cases q:p.1=n
  ·rw[ah q,ah (aW.mpr q)];exact⟨w,rfl,x⟩
  ·rw[ag q,ag λz=>q (aW.mp z)];exact ih r
theorem KO{a b}(r:jO g a b)(x:VA g v w):jO g (ON a n v) (jL b n w):=by
 induction a generalizing b with
 |nil=>exact r.ne (P:=λb=>jO g [(n,v)] (jL b n w)) (.cons x .nil)
 |cons p a ih=>
  refine r.ce (P:=λb=>jO g (if dz p.1 n then(p.1,v)::a else(p.1,p.2)::ON a n v) (jL b n w)) λu fs y r=>?_;show jO g _ (if p.1=n then(p.1,w)::fs else(p.1,u)::jL fs n w);by_cases q:p.1=n
  ·rw[ah q,ah (aW.mpr q)];exact .cons x r
  ·rw[ag q,ag λz=>q (aW.mp z)];exact .cons y (ih r)
theorem jO.len{a b}(r:jO g a b):a.length=b.length:=by
 induction a generalizing b with
 |nil=>exact r.ne (P:=λws=>0=ws.length) rfl
 |cons p a ih=>exact r.ce (P:=λws=>a.length+1=ws.length) λu_ u_ u_ r=>af (· +1) (ih r)
theorem yE(h:getD fs k=some w):getD (fs++tl) k=some w:=by rw[f9,h]
theorem yF(h:getD fs k= .none):getD (fs++tl) k=getD tl k:=by rw[f9,h]
theorem NK{i o tl}(t:En g i o tl)(e:Wv o k=some z):GD g z (getD tl k):=by
 cases o with
 |none=>exact inj e▸t.no rfl▸rfl
 |some p=>
  have y:=t.some p.1 p.2 rfl;refine y.2.2.elim λxN w=>w.2▸?_;have e:Ww (hZ p.1 k) (hZ p.2 k)=some z:=e;generalize q:hZ p.1 k=r at e;cases r with
  |none=>exact(by injection e)
  |some r=>cases r with
   |none=>rw[yF (y.1 k q)];exact inj e▸nJ w.1 k
   |some v=>exact(y.2.1 k v q).elim λu x=>inj e▸⟨u,yE x.1,x.2⟩
theorem Ja{i es fs o tl}(r:jO g es fs)(t:En g i o tl)(e:YF es o k=some z):GD g z (getD (fs++tl) k):=by
 have a:=nJ r k;unfold YF at e;generalize hZ es k=q at a e;cases q with
 |some v=>exact a.elim λw y=>inj e▸⟨w,yE y.1,y.2⟩
 |none=>rw[yF a];exact NK t e
end
mutual
noncomputable def jv(g:G):AV->Option MV
 | .none=>some .none
 | .bool b=>some (.bool b)
 | .int a k=>some (.int (g.aP a+k))
 | .str p s r=>some (.str ((if p=true then g.pre else [])++s++(if r=true then g.rest else [])))
 | .aF vs=>(fG g vs).map .aF
 | .ref i=>some (.ref (g.bK i))
 | .dg a=>some (.dg a)
 | .jn s=>some (.str (g.aQ.flatten++g.den s))
 | .tk s=>some (.str (g.den s))
 | .pQ i=>some (g.pQ i)
 |_=>.none
noncomputable def fG(g:G):List AV->Option (List MV)
 | []=>some []
 |v::r=>(jv g v).bind λa=>(fG g r).map (a:: ·)
end
def qb{α:Type}(g:G):List (α×AV)->Option (List (α×MV))
 | []=>some []
 |(k,v)::r=>(jv g v).bind λa=>(qb g r).map ((k,a):: ·)
def CM(g:G)(i:Nat):AO->Option MO
 | .list o vs=>(fG g vs).map λws=>.list ((if o=true then g.bQ i else [])++ws)
 | .dict es .none=>(qb g es).map .dict
 | .aK c a=>(qb g a).map (.aK c)
 | .aR c a x=>(qb g a).map (.aR c · x)
 |_=>.none
section
variable {g:G}
def Kn{α:Type}(o:Option α)(w:α):Prop:=∀u,o=some u->w=u
theorem Kn.some{α:Type}{w:α}:Kn (some w) w:=λu_ e=>inj e
theorem Kn.xP{α:Type}{w:α}:Kn .none w:=λu_ e=>(by injection e)
theorem Kn.map{α β:Type}{o:Option α}{w:α}(f:α->β)(h:Kn o w):Kn (o.map f) (f w):=by
 cases o with
 |none=>exact .xP
 |some u=>rw[h u rfl];exact .some
theorem Kn.bind{α β γ:Type}{o:Option α}{p:Option β}{w:α}{z:β}(f:α->β->γ)(h:Kn o w)(k:Kn p z):Kn (o.bind λa=>p.map (f a)) (f w z):=by
 cases o with
 |none=>exact .xP
 |some u=>rw[h u rfl];exact k.map _
theorem VA.kn{v:AV}{w:MV}(r:VA g v w):Kn (jv g v) w:=VA.rec (motive_1:=λv w u_=>Kn (jv g v) w) (motive_2:=λv w u_=>Kn (fG g v) w) .some (λu_=>.some) (λu_ u_=>.some) (λu_ u_ u_=>.some) (λu_ u_=>.xP) (λu_ ih=>ih.map _) (λu_=>.some) (λu_=>.some) (λu_=>.xP) (λu_=>.xP) (λu_=>.some) (λu_=>.some) (λu_=>.some) .some (λu_ u_ h1 h2=>.bind _ h1 h2) r
theorem dP.kn{v:List AV}{w:List MV}(r:dP g v w):Kn (fG g v) w:=dP.rec (motive_1:=λv w u_=>Kn (jv g v) w) (motive_2:=λv w u_=>Kn (fG g v) w) .some (λu_=>.some) (λu_ u_=>.some) (λu_ u_ u_=>.some) (λu_ u_=>.xP) (λu_ ih=>ih.map _) (λu_=>.some) (λu_=>.some) (λu_=>.xP) (λu_=>.xP) (λu_=>.some) (λu_=>.some) (λu_=>.some) .some (λu_ u_ h1 h2=>.bind _ h1 h2) r
theorem mY.kn{v:List (Nat×AV)}{w:List (Nat×MV)}(r:mY g v w):Kn (qb g v) w:=by
 induction r with
 |nil=>exact .some
 |@cons k _ _ _ _ a r ih=>exact .bind (λa b=>(k,a)::b) a.kn ih
theorem jO.kn{v:List (List Nat×AV)}{w:List (List Nat×MV)}(r:jO g v w):Kn (qb g v) w:=by
 induction r with
 |nil=>exact .some
 |@cons k _ _ _ _ a r ih=>exact .bind (λa b=>(k,a)::b) a.kn ih
theorem OA.kn{i:Nat}{v:AO}{w:MO}(r:OA g i v w):Kn (CM g i v) w:=by
 cases r with
 |list r=>exact r.kn.map _
 |GO _=>exact .xP
 |@dict es o fs tl r t=>
  cases o with
  |none=>simp only[t.no rfl,ax];exact r.kn.map _
  |some _=>exact .xP
 |aK r=>exact r.kn.map _
 |@aR _ _ _ x r=>exact r.kn.map (MO.aR _ · x)
def Kv{α:Type}(o:Option α)(P:α->Prop):Prop:=∀u,o=some u->P u
theorem Kv.some{α:Type}{u:α}{P:α->Prop}(h:P u):Kv (some u) P:=λu_ e=>inj e▸h
theorem Kv.xP{α:Type}{P:α->Prop}:Kv .none P:=λu_ e=>(by injection e)
theorem Kv.map{α β:Type}{o:Option α}{f:α->β}{P:α->Prop}{R:β->Prop}(h:Kv o P)(k:∀u,P u->R (f u)):Kv (o.map f) R:=by
 cases o with
 |none=>exact .xP
 |some u=>exact .some (k u (h u rfl))
theorem Kv.bind{α β γ:Type}{o:Option α}{p:Option β}{f:α->β->γ}{P:α->Prop}{S:β->Prop}{R:γ->Prop}(h:Kv o P)(h2:Kv p S)(k:∀u v,P u->S v->R (f u v)):Kv (o.bind λa=>p.map (f a)) R:=by
 cases o with
 |none=>exact .xP
 |some u=>exact h2.map λv=>k u v (h u rfl)
mutual
theorem VA.kv:∀(v:AV),Kv (jv g v) (VA g v)
 | .none=>.some .none
 | .bool _=>.some (.bool _)
 | .int _ _=>.some (.int _ _)
 | .str _ _ _=>.some (.str _ _ _)
 | .tC _=>.xP
 | .aF vs=>(dP.kv vs).map λu_=>.aF
 | .ref _=>.some (.ref _)
 | .dg _=>.some (.dg _)
 | .tB=>.xP
 | .any=>.xP
 | .jn _=>.some (.jn _)
 | .tk _=>.some (.tk _)
 | .pQ _=>.some (.pQ _)
theorem dP.kv:∀(v:List AV),Kv (fG g v) (dP g v)
 | []=>.some .nil
 |v::r=>.bind (VA.kv v) (dP.kv r) λu_ u_=>.cons
end
theorem mY.kv:∀(v:List (Nat×AV)),Kv (qb g v) (mY g v)
 | []=>.some .nil
 |(_,v)::r=>.bind (VA.kv v) (mY.kv r) λu_ u_=>.cons
theorem jO.kv:∀(v:List (List Nat×AV)),Kv (qb g v) (jO g v)
 | []=>.some .nil
 |(_,v)::r=>.bind (VA.kv v) (jO.kv r) λu_ u_=>.cons
theorem OA.kv{i:Nat}:∀(v:AO),Kv (CM g i v) (OA g i v)
 | .list _ vs=>(dP.kv vs).map λu_=>.list
 | .GO=>.xP
 | .dict es .none=>(jO.kv es).map λu h=>by
   have:=OA.dict (i:=i) (o:=.none) (tl:=[]) h ⟨λu_=>rfl,λu_ u_ z=>(by injection z)⟩;rwa[ax]at this
 | .dict _ (some _)=>.xP
 | .aK _ a=>(mY.kv a).map λu_=>.aK
 | .aR _ a _=>(mY.kv a).map λu_=>.aR
theorem Kn.p{α:Type}{u w:α}{P:α->Prop}(h:Kn (Option.some u) w)(k:P u):P w:=(h u rfl).symm▸k
theorem VA.te{vs:List AV}{w:MV}{P:MV->Prop}(r:VA g (.aF vs) w)(h:∀ws,dP g vs ws->P (.aF ws)):P w:=by cases r with|aF r=>exact h _ r
theorem VA.pe{s:List Nat}{w:MV}{P:MV->Prop}(r:VA g (.tC s) w)(h:∀t,P (.str (s++t))):P w:=by cases r with|tC _ t=>exact h t
theorem VA.ze{w:MV}{P:MV->Prop}(r:VA g .tB w)(h:∀i:Int,1<=i->P (.int i)):P w:=by cases r with|tB q=>exact h _ q
theorem OA.ie{i c:Nat}{a:List (Nat×AV)}{o:MO}{P:MO->Prop}(r:OA g i (.aK c a) o)(h:∀b,mY g a b->P (.aK c b)):P o:=by cases r with|aK r=>exact h _ r
theorem OA.le{i:Nat}{o:Bool}{vs:List AV}{m:MO}{P:MO->Prop}(r:OA g i (.list o vs) m)(h:∀ws,dP g vs ws->P (.list ((if o=true then g.bQ i else [])++ws))):P m:=by cases r with|list r=>exact h _ r
theorem OA.de{i:Nat}{es:List (List Nat×AV)}{o:Option (List (List Nat×Option AV)×List (List Nat×AV))}{m:MO}{P:MO->Prop}(r:OA g i (.dict es o) m)(h:∀fs tl,jO g es fs->En g i o tl->P (.dict (fs++tl))):P m:=by cases r with|dict r t=>exact h _ _ r t
theorem OA.ee{i c:Nat}{a:List (Nat×AV)}{x:Bool}{m:MO}{P:MO->Prop}(r:OA g i (.aR c a x) m)(h:∀b,mY g a b->P (.aR c b x)):P m:=by cases r with|aR r=>exact h _ r
theorem OA.ue{i:Nat}{m:MO}{P:MO->Prop}(r:OA g i .GO m)(h:∀ws,ws≠[]->P (.list ws)):P m:=by cases r with|GO r=>exact h _ r
theorem HA.oe{P:Prop}(X:HA g h H)(e:gp h i=some o)(k:∀o',H[g.bK i]? =some o'->OA g i o o'->P):P:=let⟨o',e',r⟩:=X.mh i o e;k o' e' r
theorem HA.kn{h:AH}{H:MH}{i:Nat}{o:AO}{o':MO}(X:HA g h H)(e:gp h i=some o)(c:CM g i o=some o'):H[g.bK i]? =some o':=X.oe e λu_ e r=>e.trans (af some (r.kn _ c))
end
section
variable {g:G} {h:AH} {H:MH}
noncomputable def G.P(g:G)(p:Bool):List Nat:=if p=true then g.pre else []
noncomputable def G.R(g:G)(r:Bool):List Nat:=if r=true then g.rest else []
theorem kr(s:List Nat):jv g (.str false s false)=some (.str s):=af (some<|MV.str ·) (ax s)
theorem VA.Ie(r:VA g (.str false s false) w):w= .str s:=r.kn _ (kr s)
theorem VA.lit(s:List Nat):VA g (.str false s false) (.str s):=VA.kv _ _ (kr s)
theorem VA.i0(K:fL g)(k:Int):VA g (.int 0 k) (.int k):=VA.kv _ _ (by show some (MV.int (g.aP 0+k))=_;rw[K.a0,zero_add])
section
variable {β:Type} {d r:β} {v:AV} {w:MV} {P:MV->Prop}
theorem n7(hd:d≠r)(x:VA g v w)(h:mO d v f=r)(k:f=r->P .none):P w:=zD (P:=λv=>VA g v w->P w) hd h (λh x=>x.kn.p (k h)) x
theorem JR{f:Bool->β}(hd:d≠r)(x:VA g v w)(h:xb d v f=r)(k:∀b,f b=r->P (.bool b)):P w:=zy (P:=λv=>VA g v w->P w) hd h (λb h x=>x.kn.p (k b h)) x
theorem dY{f:Nat->Int->β}(hd:d≠r)(x:VA g v w)(h:gg d v f=r)(k:∀a j,f a j=r->P (.int (g.aP a+j))):P w:=DI (P:=λv=>VA g v w->P w) hd h (λa j h x=>x.kn.p (k a j h)) x
theorem xg{f:Bool->List Nat->Bool->β}(hd:d≠r)(x:VA g v w)(h:tm d v f=r)(k:∀p s u,f p s u=r->P (.str (g.P p++s++g.R u))):P w:=xf (P:=λv=>VA g v w->P w) hd h (λp s u h x=>x.kn.p (k p s u h)) x
theorem gO{f:Nat->β}(hd:d≠r)(x:VA g v w)(h:jh d v f=r)(k:∀i,f i=r->P (.ref (g.bK i))):P w:=xe (P:=λv=>VA g v w->P w) hd h (λi h x=>x.kn.p (k i h)) x
theorem Om{f:Nat->β}(hd:d≠r)(x:VA g v w)(h:DN d v f=r)(k:∀a,f a=r->P (.dg a)):P w:=DO (P:=λv=>VA g v w->P w) hd h (λa h x=>x.kn.p (k a h)) x
theorem dO{f:List Nat->β}(hd:d≠r)(x:VA g v w)(h:gh d v f=r)(k:∀s,f s=r->P (.str s)):P w:=Oh (P:=λv=>VA g v w->P w) hd h (λs h x=>x.Ie▸k s h) x
theorem xi{f:List AV->β}(hd:d≠r)(x:VA g v w)(h:ji d v f=r)(k:∀vs ws,dP g vs ws->f vs=r->P (.aF ws)):P w:=jG (P:=λv=>VA g v w->P w) hd h (λvs h x=>x.te λws q=>k vs ws q h) x
theorem zw{vs:List AV}{ws:List MV}{P:List MV->Prop}{f:AV->β}(hd:d≠r)(x:dP g vs ws)(h:m4 d vs f=r)(k:∀a w,VA g a w->f a=r->P [w]):P ws:=d8 (P:=λvs=>dP g vs ws->P ws) hd h (λa h x=>x.ce (P:=P) λw fs y q=>q.kn.p (u:=[]) (P:=λfs=>P (w::fs)) (k a w y h)) x
theorem ti{i:Nat}{o:AO}{m:MO}{P:MO->Prop}{f:Bool->List AV->β}(hd:d≠r)(x:OA g i o m)(h:mM d o f=r)(k:∀b vs ws,dP g vs ws->f b vs=r->P (.list ((if b=true then g.bQ i else [])++ws))):P m:=th (P:=λo=>OA g i o m->P m) hd h (λb vs h x=>x.le λws q=>k b vs ws q h) x
theorem xd{i:Nat}{o:AO}{m:MO}{P:MO->Prop}{f:Nat->List (Nat×AV)->Bool->β}(hd:d≠r)(x:OA g i o m)(h:n6 d o f=r)(k:∀c a y b,mY g a b->f c a y=r->P (.aR c b y)):P m:=rp (P:=λo=>OA g i o m->P m) hd h (λc a y h x=>x.ee λb q=>k c a y b q h) x
theorem JZ{i:Nat}{P:Option MO->Prop}{f:List AV->β}(X:HA g h H)(hd:d≠r)(e:Tc d (gp h i) f=r)(k:∀vs ws,dP g vs ws->f vs=r->P (some (.list ws))):P H[g.bK i]? :=
 aU hd e λob eo e=>X.oe eo λo' iR ro=>iR▸ti (P:=λm=>P (some m)) hd ro e λb vs ws q e=>cA hd e λhb e=>by
  cases b with
  |true=>injection hb
  |false=>exact k vs ws q e
end
theorem WX(h:(!p&& !u)=true):g.P p++s++g.R u=s:=by
 cases p<;>cases u<;>first|exact ax s|injection h
theorem UA{p u:Bool}{s:List Nat}{P:MV->Prop}(h:(!p&& !u)=true)(k:P (.str s)):P (.str ((if p=true then g.pre else [])++s++(if u=true then g.rest else []))):=(WX (g:=g) h).symm▸k
theorem nb(h:beq a b=true):a=b:=au h
theorem Su(z k l:Int):decide (z+k=z+l)=Ui k l:=by simp only[wb];exact decide_eq_decide.mpr (by lia)
theorem Ms(e:U7 s t=some b):decide (s++q=t)=b:=by
 match s,t,e with
 | [],_,e=>injection e
 |c::s,[],e=>cases e;rfl
 |c::s,d::t,e=>
  refine cA nn e λh1 h2=>inj h2▸ai λz=>?_;rw[(List.cons.inj z).1,beq_refl]at h1;injection h1
theorem Ha(K:fL g)(rx:VA g x x')(ry:VA g y y')(e:Y6 x y=some b):jw H x' y'=some b:=by
 cases x with
 |none=>exact rx.kn.p (P:=λx'=>jw H x' y'=some b) (n7 (P:=λy'=>jw H .none y'=some b) nn ry e id)
 |bool a=>exact rx.kn.p (P:=λx'=>jw H x' y'=some b)<|JR (P:=λy'=>jw H (.bool a) y'=some b) nn ry e λu_ h=>h
 |int a k=>exact rx.kn.p (P:=λx'=>jw H x' y'=some b)<|dY (P:=λy'=>jw H (.int (g.aP a+k)) y'=some b) nn ry e λc l h=>cA nn h λh1 h2=>nb h1▸(af some (Su _ k l)).trans h2
 |tB=>
  exact rx.ze (P:=λx'=>jw H x' y'=some b) λi hi=>dY (P:=λy'=>jw H (.int i) y'=some b) nn ry e λc l h=>cA nn h λh1 h2=>an h1 λh3 h4=>by
   rw[wR,decide_eq_true_eq]at h4;refine(nb h3)▸K.a0▸h2▸?_;exact af some (ai λz=>a9 (Int.le_trans hi (Int.le_trans (Int.le_of_eq z) ((zero_add l).symm▸h4))) (by decide))
 |str p s u=>exact rx.kn.p (P:=λx'=>jw H x' y'=some b)<|cA nn e λh1 h=>UA (P:=λx'=>jw H x' y'=some b) h1<|dO (P:=λy'=>jw H (.str s) y'=some b) nn ry h λt h=>(af some (we s t).symm).trans h
 |tk s=>exact rx.kn.p (P:=λx'=>jw H x' y'=some b)<|dO (P:=λy'=>jw H (.str _) y'=some b) nn ry e λt h=>af some (D9 K h)
 |tC s=>exact rx.pe (P:=λx'=>jw H x' y'=some b) λq=>dO (P:=λy'=>jw H (.str _) y'=some b) nn ry e λt h=>af some (Ms h)
 |_=>exact(by injection e)
theorem xV{s:List Nat}:∀{vs:List AV} {ws:List MV} {b:Bool},dP g vs ws->G5 s vs=some b->kc s ws=some b
 | [],ws,b,r,e=>r.kn.p (u:=[]) (P:=λws=>kc s ws=some b) e
 |v::vs,ws,b,r,e=>r.ce (P:=λws=>kc s ws=some b) λw fs a r=>dO (P:=λw=>kc s (w::fs)=some b) nn a e λt e=>by
  obtain⟨b',e',rfl⟩:=map_eq_some_iff.mp e;show(kc s fs).map _=_;simp only[xV r e',we];rfl
theorem xW(K:fL g):∀{vs:List AV} {ws:List MV} {b:Bool},dP g vs ws->G6 s vs=some b->kc (g.den s) ws=some b
 | [],ws,b,r,e=>r.kn.p (u:=[]) (P:=λws=>kc (g.den s) ws=some b) e
 |v::vs,ws,b,r,e=>r.ce (P:=λws=>kc (g.den s) ws=some b) λw fs a r=>dO (P:=λw=>kc (g.den s) (w::fs)=some b) nn a e λt e=>aU nn e λc ec e=>by
  obtain⟨b',e',rfl⟩:=map_eq_some_iff.mp e;show(kc _ fs).map _=_;refine(xW K r e')▸(D9 K ec)▸(show decide (t=g.den s)=decide (g.den s=t)from decide_eq_decide.mpr ⟨Eq.symm,Eq.symm⟩)▸?_;rfl
theorem Cr(K:fL g){x:AV}{x':MV}{vs:List AV}{ws:List MV}{b:Bool}(rx:VA g x x')(r:dP g vs ws)(e:QU x vs=some b):lT x' ws=some b:=by
 cases x with
 |str p s u=>exact rx.kn.p (P:=λx'=>lT x' ws=some b)<|cA nn e λh1 h=>UA (P:=λx'=>lT x' ws=some b) h1<|xV (s:=s) r h
 |tk s=>exact rx.kn.p (P:=λx'=>lT x' ws=some b)<|xW K r e
 |_=>exact(by injection e)
theorem q8(e:H[i]? =some (.list vs)):nO H x (.ref i)=lT x vs:=af (Option.bind · (Sp x)) e
theorem Dd(e:H[i]? =some (.dict es)):nO H (.str k) (.ref i)=some (getD es k).isSome:=af (Option.bind · (Sp (.str k))) e
theorem Mq(t:List Nat)(c:Nat):t.contains c=t.any (beq c):=by
 rw[Bool.eq_iff_iff,List.contains_iff_mem,any_eq_true];exact⟨λm=>⟨c,m,beq_refl c⟩,λ⟨d,m,q⟩=>nb q▸m⟩
theorem yG(K:fL g):∀{es:List (List Nat×AV)},(es.all λe=>i8.any (dz e.1))=true->hZ es g.x= .none
 | [],_=>rfl
 |(k,v)::es,q=>an q λh1 h2=>by
  obtain⟨u,hu,e⟩:=any_eq_true.mp h1;have e:=aW.mp e;dsimp only[hZ];rw[ag λz=>K.hx u hu ((aW.mp z).symm.trans e)];exact yG K h2
theorem Mm(K:fL g)(e0:H[j]? =some (.dict (fs++tl)))(r:jO g es fs)(t:En g i o tl)(rx:VA g x x')(e:U2 x es o=some b):nO H x' (.ref j)=some b:=by
 cases x with
 |str p s u=>
  refine rx.kn.p (P:=λx'=>nO H x' (.ref j)=some b) (cA nn e λh1 h=>UA (P:=λx'=>nO H x' (.ref j)=some b) h1 ((map_eq_some_iff.mp h).elim λz y=>(Dd e0).trans (y.2▸?_)));have z1:=Ja r t y.1;cases z with
  |none=>exact af (some ·.isSome) z1
  |some v=>exact z1.elim λw y=>af (some ·.isSome) y.1
 |tk s=>
  refine rx.kn.p (P:=λx'=>nO H x' (.ref j)=some b) ?_;exact cA nn e λh1 h=>an h1 λq1 q=>an q λq2 q3=>by
   have dx:g.den [2000000]=g.x:=ax _;have ds:g.den s=g.x:=(af g.den (aW.mp q1)).trans dx;have z:=nJ r (g.den s);rw[ds,yG K q3]at z;simp only[Dd e0,f9,t.no (isNone_iff_eq_none.mp q2),ds,show getD fs g.x= .none from z,<-h];rfl
 |_=>exact(by injection e)
theorem Mn(K:fL g)(rx:VA g x x')(r:OA g i o o')(e0:H[g.bK i]? =some o')(e:U3 x o=some b):nO H x' (.ref (g.bK i))=some b:=by
 cases o with
 |list o vs=>
  refine r.le (P:=λo'=>H[g.bK i]? =some o'->nO H x' (.ref (g.bK i))=some b) (λws rs e1=>cA nn e λhb h=>?_) e0;cases o with
  |true=>exact(by injection hb)
  |false=>exact(q8 e1).trans (Cr K rx rs h)
 |dict es o=>exact r.de (P:=λo'=>H[g.bK i]? =some o'->nO H x' (.ref (g.bK i))=some b) (λfs tl r t e0=>Mm K e0 r t rx e) e0
 |_=>exact(by injection e)
theorem Hg(K:fL g)(X:HA g h H)(rx:VA g x x')(ry:VA g y y')(e:Y7 h x y=some b):nO H x' y'=some b:=by
 cases y with
 |aF vs=>exact ry.te (P:=λy'=>nO H x' y'=some b) λws r=>Cr K rx r e
 |str p t u=>exact ry.kn.p (P:=λy'=>nO H x' y'=some b)<|cA nn e λh1 h=>UA (P:=λy'=>nO H x' y'=some b) h1<|dO (P:=λx'=>nO H x' (.str t)=some b) nn rx h λs h=>d8 (P:=λs=>nO H (.str s) (.str t)=some b) nn h λc h=>(af some (Mq t c)).trans h
 |ref i=>exact ry.kn.p (P:=λy'=>nO H x' y'=some b)<|aU nn e λob eo e=>X.oe eo λo' iR r=>Mn K rx r iR e
 |_=>exact(by injection e)
theorem Hh(rx:VA g x x')(e:Y8 x=some b):dc .is H x' .none=some b:=by
 cases rx<;>first|exact e|injection e
theorem Hl(K:fL g)(e:Yh a k b l=some r):decide (g.aP a+k<g.aP b+l)=r:=by
 unfold Yh at e;cases q:beq a b with
 |true=>
  replace e:=q▸e;rw[nb q,<-inj e,Ds];exact decide_eq_decide.mpr (by lia)
 |false=>
  rw[q]at e;cases q2:beq a 1&&beq b 2 with
  |true=>
   replace e:=q2▸e;exact cA nn e λh h2=>an q2 λh3 h4=>by
    have:=wW.mp h;simp only[nb h3,nb h4,K.a1,K.a2,<-inj h2];exact aj (by lia)
  |false=>
   rw[q2]at e;exact cA nn e λh h2=>an h λh3 h=>an h λh4 h=>by
    rw[wR,decide_eq_true_eq]at h;simp only[nb h3,nb h4,K.a1,K.a0,<-inj h2];exact ai (by lia)
theorem Hj(e:Y9 a k b l=some r):decide (g.aP a+k<=g.aP b+l)=r:=
 cA nn e λh h2=>by
  rw[nb h,<-inj h2,wR];exact decide_eq_decide.mpr (by lia)
theorem rJ{β:Type}{r:β}{x y:AV}{x' y':MV}{f:Nat->Int->Nat->Int->Option β}{P:MV->MV->Prop}(rx:VA g x x')(ry:VA g y y')(e:Pm x y f=some r)(k:∀a i b j,f a i b j=some r->P (.int (g.aP a+i)) (.int (g.aP b+j))):P x' y':=
 dY (P:=λx'=>P x' y') nn rx e λa i e=>dY (P:=P _) nn ry e λb j e=>k a i b j e
theorem Dv{o p:Option Bool}{b:Bool}(e:o.map (!·)=some b)(h:∀z,o=some z->p=some z):p.map (!·)=some b:=by
 obtain⟨z,ez,rfl⟩:=map_eq_some_iff.mp e;rw[h z ez];rfl
theorem N4(a b:Int):decide (b<a)= !decide (a<=b):=by rw[<-decide_not];exact decide_eq_decide.mpr not_le.symm
theorem N3(a b:Int):decide (b<=a)= !decide (a<b):=by rw[<-decide_not];exact decide_eq_decide.mpr Int.not_lt.symm
theorem qR(K:fL g)(X:HA g h H){op:Cm}{x y:AV}{x' y':MV}{b:Bool}(rx:VA g x x')(ry:VA g y y')(e:Er op h x y=some b):dc op H x' y'=some b:=by
 cases op with
 |eq=>exact Ha K rx ry e
 |ne=>exact Dv (p:=jw H x' y') e λz ez=>Ha K rx ry ez
 |lt=>exact rJ (P:=λx' y'=>dc .lt H x' y'=some b) rx ry e λu_ u_ u_ u_ e=>af some (Hl K e)
 |le=>exact rJ (P:=λx' y'=>dc .le H x' y'=some b) rx ry e λu_ u_ u_ u_ e=>af some (Hj e)
 |gt=>
  exact rJ (P:=λx' y'=>dc .gt H x' y'=some b) rx ry e λa i c j e=>by
   obtain⟨z,ez,rfl⟩:=map_eq_some_iff.mp e;exact af some ((N4 _ _).trans (af (!·) (Hj ez)))
 |ge=>
  exact rJ (P:=λx' y'=>dc .ge H x' y'=some b) rx ry e λa i c j e=>by
   obtain⟨z,ez,rfl⟩:=map_eq_some_iff.mp e;exact af some ((N3 _ _).trans (af (!·) (Hl K ez)))
 |ja=>exact Hg K X rx ry e
 |mf=>exact Dv (p:=nO H x' y') e λz ez=>Hg K X rx ry ez
 |is=>exact n7 (P:=λy'=>dc .is H x' y'=some b) nn ry e (Hh rx)
 |kF=>
  exact n7 (P:=λy'=>dc .kF H x' y'=some b) nn ry e λe=>by
   obtain⟨z,ez,rfl⟩:=map_eq_some_iff.mp e;have:=Hh (H:=H) rx ez;cases x'<;>exact af (λo=>o.map (!·)) this
theorem dP.emp{vs:List AV}{ws:List MV}(r:dP g vs ws):vs.isEmpty=ws.isEmpty:=by
 cases vs with
 |nil=>exact r.ne (P:=λws=>true=ws.isEmpty) rfl
 |cons v vs=>exact r.ce (P:=λws=>false=ws.isEmpty) λu_ u_ u_ u_=>rfl
theorem Af(e:H[i]? =some (.list vs)):gD H (.ref i)=some (!vs.isEmpty):=af (nZ · λvs=>some (!vs.isEmpty)) e
theorem Ez(X:HA g h H)(rx:VA g x x')(e:AA h x=some b):gD H x'=some b:=by
 cases x with
 |bool c=>exact rx.kn.p (P:=λx'=>gD H x'=some b) e
 |ref i=>exact rx.kn.p (P:=λx'=>gD H x'=some b) (JZ (P:=λo=>H[g.bK i]? =o->gD H (.ref (g.bK i))=some b) X nn e (λvs ws r e eo=>(Af eo).trans ((af (some<| !·) r.emp).symm.trans e)) rfl)
 |_=>exact(by injection e)
end
section
variable {g:G} {h:AH} {H:MH}
theorem BG(K:fL g)(p:Bool):g.aP (Ov p)=(g.P p).length:=by
 cases p
 ·exact K.a0
 ·exact K.a1
theorem pL(hj:j<n):dZ n (j:Int)=some j:=lE (natCast_nonneg j) (ofNat_lt.mpr hj)
def SV(g:G)(o:Option MV)(v:AV):Prop:=∃v',o=some v'/\VA g v v'
theorem lB{β:Type}{d r:β}{k:Int}{f:Nat->β}{P:Int->Prop}(hd:d≠r)(h:tj d k f=r)(q:∀n:Nat,f n=r->P n):P k:=by
 cases k with
 |ofNat n=>exact q n h
 |negSucc n=>exact a9 h hd
theorem DC{vs:List AV}{ws:List MV}{i:Int}{v:AV}(r:dP g vs ws)(e:SY vs i=some v):SV g ((dZ ws.length i).bind λj=>ws[j]?) v:=by
 cases i with
 |ofNat k=>
  exact(r.gp (i:=k) e).elim λw y=>⟨w,(af (Option.bind · _) (pL (bo y.1).1)).trans y.1,y.2⟩
 |negSucc k=>
  refine cA nn e λq e=>?_;have q:=blt_eq.mp q;have z:Int.negSucc k+(vs.length:Int)=((vs.length-(k+1):Nat):Int):=(Int.add_comm _ _).trans (Int.ofNat_sub q).symm;have e1:dZ ws.length (Int.negSucc k)=some (vs.length-(k+1)):=by
   refine r.len▸(vC (Int.negSucc_lt_zero k) (z▸natCast_nonneg _))▸z▸?_;rfl
  exact(r.gp e).elim λw y=>⟨w,(af (Option.bind · _) e1).trans y.1,y.2⟩
theorem u1(e:H[i]? =some (.list vs)):cL H (.ref i) (.int k)=(dZ vs.length k).bind λj=>vs[j]? :=af (Option.bind · (Bj (.int k))) e
theorem u0(e:H[i]? =some (.dict es)):cL H (.ref i) (.str k)=getD es k:=af (Option.bind · (Bj (.str k))) e
theorem He(K:fL g)(ry:VA g y y')(r:OA g i o o')(e0:H[g.bK i]? =some o')(e:Pr y o=some v):SV g (cL H (.ref (g.bK i)) y') v:=by
 cases o with
 |list o vs=>
  refine r.le (P:=λo'=>H[g.bK i]? =some o'->SV g (cL H (.ref (g.bK i)) y') v) (λws rs e1=>cA nn e λhb h=>dY (P:=λy'=>SV g (cL H (.ref (g.bK i)) y') v) nn ry h λa k h=>cA nn h λha h=>?_) e0;cases o with
  |true=>exact(by injection hb)
  |false=>simp only[nb ha,K.a0,zero_add,u1 e1];exact DC rs h
 |dict es o=>exact r.de (P:=λo'=>H[g.bK i]? =some o'->SV g (cL H (.ref (g.bK i)) y') v) (λfs tl r t e0=>dO (P:=λy'=>SV g (cL H (.ref (g.bK i)) y') v) nn ry e λs h=>aU nn h λq eq h=>(u0 e0).symm▸(h▸Ja r t eq:GD g (some v) _)) e0
 |_=>exact(by injection e)
theorem U1(K:fL g)(ec:gp s k=some c):cL H (.str (g.P p++s++g.R u)) (.int (g.aP (Ov p)+k))=some (.str [c]):=by
 rw[pG]at ec;have hk:=(bo ec).1;show((dZ _ (g.aP (Ov p)+k)).bind _)=_;rw[BG K,<-Int.natCast_add,pL (by simp only[ak,ak];lia)];rw[bind_some,aq,getElem?_append_right (le_add_right _ _),Nat.add_sub_cancel_left,aw hk,ec];rfl
theorem Ml(K:fL g)(X:HA g h H){x y v:AV}{x' y':MV}(rx:VA g x x')(ry:VA g y y')(e:U0 h x y=some v):SV g (cL H x' y') v:=by
 cases x with
 |str p s u=>
  refine rx.kn.p (P:=λx'=>SV g (cL H x' y') v) ?_;refine dY (P:=λy'=>SV g (cL H (.str (g.P p++s++g.R u)) y') v) nn ry e λa k h=>cA nn h λha h=>lB (P:=λk=>SV g (cL H (.str (g.P p++s++g.R u)) (.int (g.aP a+k))) v) nn h λk h=>?_;exact(map_eq_some_iff.mp h).elim λc z=>nb ha▸z.2▸⟨_,U1 K z.1,.lit _⟩
 |aF vs=>
  refine rx.te (P:=λx'=>SV g (cL H x' y') v) λws r=>dY (P:=λy'=>SV g (cL H (.aF ws) y') v) nn ry e λa k h=>cA nn h λha h=>?_;simp only[nb ha,K.a0,zero_add];exact DC r h
 |ref i=>exact rx.kn.p (P:=λx'=>SV g (cL H x' y') v) (aU nn e λob eo e=>X.oe eo λo' iR r=>He K ry r iR e)
 |_=>exact(by injection e)
inductive VO(g:G):Option AV->Option MV->Prop
 |none:VO g .none .none
 |some {v w}:VA g v w->VO g (.some v) (.some w)
theorem wY{P s R:List Nat}{k:Nat}(hk:k<=s.length):min ((P.length+k:Nat):Int).toNat (P++s++R).length=P.length+k:=
 min_eq_left (by simp only[ak,ak];exact az (add_le_add_left hk _) (le_add_right _ _))
theorem yj{P s R:List Nat}{k:Nat}(hk:k<=s.length):(P++s++R).drop (P.length+k)=s.drop k++R:=by rw[aq,<-drop_drop,List.drop_left,List.drop_append_of_le_length hk]
theorem F2{P s R:List Nat}{k l:Nat}(hk:k<=s.length)(hl:l<=s.length):cG (P++s++R) (some ((P.length+k:Nat):Int)) (some ((P.length+l:Nat):Int))=(s.drop k).take (l-k):=by
 delta cG Uz Us;dsimp only;rw[mn (natCast_nonneg _),mn (natCast_nonneg _),wY hk,wY hl,yj hk,Nat.add_sub_add_left];exact List.take_append_of_le_length (length_drop▸Nat.sub_le_sub_right hl k)
theorem F1{P s R:List Nat}{k l:Nat}(hk:k<=s.length)(hl:s.length<=l):∃t,cG (P++s++R) (some ((P.length+k:Nat):Int)) (some ((P.length+l:Nat):Int))=s.drop k++t/\(R= []->t= []):=by
 delta cG Uz Us;dsimp only;rw[mn (natCast_nonneg _),mn (natCast_nonneg _),wY hk,yj hk,List.take_append,List.take_of_length_le]
 ·exact⟨_,rfl,λh=>by rw[h];exact List.take_nil⟩
 ·rw[length_drop,<-Nat.add_sub_add_left (k:=P.length)];refine Nat.sub_le_sub_right (Nat.le_min.mpr ⟨add_le_add_left hl _,?_⟩) _;simp only[ak,ak];exact le_add_right _ _
theorem VO.ne{b:Option MV}{P:Option MV->Prop}(r:VO g .none b)(k:P .none):P b:=by cases r;exact k
theorem VO.se{a:AV}{b:Option MV}{P:Option MV->Prop}(r:VO g (Option.some a) b)(k:∀w,VA g a w->P (Option.some w)):P b:=by cases r with|some r=>exact k _ r
theorem nt_(K:fL g)(h:beq x (Ov p)=true):g.aP x+k=(((g.P p).length+k:Nat):Int):=by simp only[nb h,BG K];exact(Int.natCast_add _ _).symm
theorem Mt(hk:k<=s.length)(e:Rb s u k l=some v):VA g v (.str (cG (g.P p++s++g.R u) (some (((g.P p).length+k:Nat):Int)) (some (((g.P p).length+l:Nat):Int)))):=by
 unfold Rb at e;cases q:ble l s.length with
 |true=>
  rw[q]at e;refine(F2 hk (av q))▸(inj e)▸?_;exact .lit _
 |false=>
  rw[q]at e;obtain⟨t,et,ht⟩:=F1 (P:=g.P p) (R:=g.R u) hk (le_of_lt (Nat.lt_of_not_le λz=>eq_false_iff.mp q (Nat.ble_eq_true_of_le z)));rw[et];cases u with
  |true=>exact cA nn e λu_ e=>inj e▸.tC _ _
  |false=>simp only[ht rfl,ax,<-inj e];exact .lit _
theorem K0{s:List Nat}{l:Nat}:cG s .none (some (l:Int))=s.take l:=by
 delta cG Uz Us;dsimp only;rw[mn (natCast_nonneg _)];simp[List.take_eq_take_iff]
theorem Mu(K:fL g){vs:List AV}{ws:List MV}{b v:AV}{b':MV}{Q:PQ}(r:dP g vs ws)(rb:VA g b b')(e:U9 vs b=some v)(q:∀v',VA g v v'->Q v' H):cX H (.aF ws) .none (some b') Q:=
 dY (P:=λb'=>cX H (.aF ws) .none (some b') Q) nn rb e λy l e=>cA nn e λh e=>an h λh1 h=>an h λh2 h3=>by
  simp only[nb h1,K.a0,zero_add];rw[wb,decide_eq_true_eq]at h2;refine⟨rfl,af some h2,λz=>?_,q _ (inj e▸.aF r.dropLast)⟩;exact(by injection(h3.symm.trans (af (λl:List AV=>!l.isEmpty) (length_eq_zero_iff.mp (r.len.trans (af length z))))))
theorem Ey(K:fL g){x v:AV}{a b:Option AV}{x':MV}{a' b':Option MV}{Q:PQ}(rx:VA g x x')(ra:VO g a a')(rb:VO g b b')(e:Hq x a b=some v)(q:∀v',VA g v v'->Q v' H):cX H x' a' b' Q:=by
 cases a with
 |some a=>
  refine aU nn e λb0 eb e=>ra.se (P:=λa'=>cX H x' a' b' Q) λa' ra=>?_;refine(eb▸rb:VO g (some b0) b').se (P:=λb'=>cX H x' (some a') b' Q) λw rb=>?_;refine xg (P:=λx'=>cX H x' (some a') (some w) Q) nn rx e λp s u e=>?_;refine dY (P:=λa'=>cX H _ (some a') (some w) Q) nn ra e λx k e=>?_;refine lB (P:=λk=>cX H _ (some (.int (g.aP x+k))) (some w) Q) nn e λk e=>?_;refine dY (P:=λw=>cX H _ _ (some w) Q) nn rb e λy l e=>?_;refine lB (P:=λl=>cX H _ _ (some (.int (g.aP y+l))) Q) nn e λl e=>cA nn e λh e=>an h λh1 h=>an h λh2 h3=>?_;rw[nt_ K h1,nt_ K h2];exact q _ (Mt (av h3) e)
 |none=>
  refine aU nn e λb0 eb e=>ra.ne (P:=λa'=>cX H x' a' b' Q) ?_;refine(eb▸rb:VO g (some b0) b').se (P:=λb'=>cX H x' .none b' Q) λw rb=>?_;cases x with
  |str p s u=>
   refine rx.kn.p (P:=λx'=>cX H x' .none (some w) Q) (cA nn e λh e=>UA (P:=λx'=>cX H x' .none (some w) Q) h ?_);refine dY (P:=λw=>cX H _ .none (some w) Q) nn rb e λy l e=>cA nn e λh e=>?_;refine lB (P:=λl=>cX H (.str s) .none (some (.int (g.aP y+l))) Q) nn e λl e=>?_;simp only[nb h,K.a0,zero_add];exact q _ (K0▸inj e▸.lit _)
  |aF vs=>exact rx.te (P:=λx'=>cX H x' .none (some w) Q) λws r=>Mu K r rb e q
  |_=>exact(by injection e)
theorem my(s t:List Nat):g.den (s++t)=g.den s++g.den t:=by unfold G.den;rw[List.flatMap_append]
theorem CR(K:fL g):∀s:List Nat,(g.den s).length<=60*s.length
 | []=>by simp[G.den]
 |c::s=>by
  have:=CR K s;have e:g.den (c::s)=g.pR c++g.den s:=rfl;simp only[e,ak,length_cons];have:(g.pR c).length<=60:=by
   unfold G.pR;split
   ·exact K.xl
   ·split
    ·exact K.yl
    ·simp
  lia
theorem qY(e:d7 s=true):g.den s=s:=by
 unfold d7 at e
 induction s with
 |nil=>rfl
 |cons c s ih=>
  have e:=bj e;have hc:=blt_eq.mp (e c (.head _));have:g.den (c::s)=g.pR c++g.den s:=rfl;simp only[this,ih (by rw[all_eq_true];exact λd hd=>e d (.tail _ hd))];unfold G.pR;rw[ag (by lia),ag (by lia)];rfl
def GZ(g:G)(b:Bool)(s t:List Nat):Prop:=t=bif b then s else g.den s
theorem tL(r:VA g v w)(e:Ac v=some b):∃t,w= .str t/\GZ g b.1 b.2 t:=by
 cases v with
 |str p s u=>exact r.kn.p (P:=λw=>∃t,w= .str t/\GZ g b.1 b.2 t) (cA nn e λh e=>UA (P:=λw=>∃t,w= .str t/\GZ g b.1 b.2 t) h (inj e▸⟨_,rfl,rfl⟩))
 |tk s=>exact r.kn.p (P:=λw=>∃t,w= .str t/\GZ g b.1 b.2 t) (inj e▸⟨_,rfl,rfl⟩)
 |_=>exact(by injection e)
theorem GZ.len(K:fL g){b s t}(r:GZ g b s t):t.length<=60*s.length:=by
 cases b with
 |true=>exact r▸Nat.le_mul_of_pos_left _ (by decide)
 |false=>exact r▸CR K s
theorem GZ.den{b s t}(r:GZ g b s t)(h:(!b||d7 s)=true):t=g.den s:=by
 cases b with
 |true=>exact r.trans (qY h).symm
 |false=>exact r
theorem zv(e:JM b ok s=some v)(h1:b=true->t=s)(h2:ok=true->t=g.den s):VA g v (.str t):=by
 cases b with
 |true=>rw[h1 rfl,<-inj e];exact .lit _
 |false=>exact cA nn e λh e=>by simp only[h2 h,<-inj e];exact .tk s
def UN(g:G)(v:AV)(x' y':MV):Prop:=(∃a b,x'= .int a/\y'= .int b/\VA g v (.int (a+b)))\/∃s t,x'= .str s/\y'= .str t/\s.length+t.length<=line/\VA g v (.str (s++t))
theorem yP(e:g.aP a+k=j):VA g (.int a k) (.int j):=e▸.int a k
theorem Mi(K:fL g)(e:QZ a k b l=some v):VA g v (.int (g.aP a+k+(g.aP b+l))):=by
 unfold QZ at e;cases q:beq a 0 with
 |true=>rw[q]at e;refine(nb q)▸K.a0▸(inj e)▸?_;exact yP (by lia)
 |false=>rw[q]at e;exact cA nn e λh e=>by refine(nb h)▸K.a0▸(inj e)▸?_;exact yP (by lia)
theorem GZ.O7(r1:GZ g b s s')(r2:GZ g c t t')(h:(b&&c)=true):s'++t'=s++t:=by
 have z:=bh h;rw[z.1]at r1;rw[z.2]at r2;exact r1▸r2▸rfl
theorem NU(h1:a<=60*b)(h2:c<=60*d)(h:b+d<=100000):a+c<=line:=az (show a+c<=6000000 by lia) (by decide)
theorem Cq(K:fL g)(rx:VA g x x')(ry:VA g y y')(e:Md x y=some v):UN g v x' y':=by
 unfold Md at e;cases e1:Ac x with
 |some p=>
  rw[e1]at e;refine aU nn e λq e2 e=>cA nn e λhl e=>?_;obtain⟨t1,rfl,r1⟩:=tL rx e1;obtain⟨t2,rfl,r2⟩:=tL ry e2;exact .inr ⟨_,_,rfl,rfl,NU (r1.len K) (r2.len K) (av hl),zv e (r1.O7 r2) λz=>an z λz1 z2=>by simp only[my,<-r1.den z1,<-r2.den z2]⟩
 |none=>
  rw[e1]at e;exact rJ (P:=UN g v) rx ry e λa i b j e=>.inl ⟨_,_,rfl,rfl,Mi K e⟩
def UW(g:G)(v:AV)(x' y':MV):Prop:=∃a b,x'= .int a/\y'= .int b/\VA g v (.int (a-b))
theorem Cy(K:fL g)(rx:VA g x x')(ry:VA g y y')(e:Rc x y=some v):UW g v x' y':=
 rJ (P:=UW g v) rx ry e λa k b l e=>⟨_,_,rfl,rfl,by
  cases q:beq b 0 with
  |true=>rw[q]at e;refine(nb q)▸K.a0▸(inj e)▸?_;exact yP (by lia)
  |false=>rw[q]at e;exact cA nn e λh e=>by refine(nb h)▸(inj e)▸?_;exact yP (by rw[K.a0];lia)⟩
theorem Me(K:fL g)(rx:VA g x x')(ry:VA g y y')(e:UX op x y=some v)(q:∀v',VA g v v'->Q v' H):mv op H x' y' Q:=by
 cases op with
 |add=>
  exact(Cq K rx ry e).elim (λz=>z.elim λa z=>z.elim λb z=>by rw[z.1,z.2.1];exact q _ z.2.2) λz=>z.elim λs z=>z.elim λt z=>by rw[z.1,z.2.1];exact⟨z.2.2.1,q _ z.2.2.2⟩
 |sub=>
  exact(Cy K rx ry e).elim λa z=>z.elim λb z=>by rw[z.1,z.2.1];exact q _ z.2.2
 |mul=>
  exact rJ (P:=λx' y'=>mv .mul H x' y' Q) rx ry e λa k b l e=>cA nn e λh e=>an h λh1 h=>an h λh2 h=>an h λh3 h4=>by
   simp only[nb h1,nb h2,K.a0,zero_add,zero_add];exact⟨⟨blt_eq.mp h3,blt_eq.mp h4⟩,q _ (inj e▸.i0 K _)⟩
 |_=>injection e
theorem Ct(K:fL g)(rx:VA g x x')(ry:VA g y y')(e:QW op x y=some v)(q:∀v',VA g v v'->Q v' H):qD op H x' y' Q:=by
 cases op with
 |add=>
  exact(Cq K rx ry e).elim (λz=>z.elim λa z=>z.elim λb z=>by rw[z.1,z.2.1];exact q _ z.2.2) λz=>z.elim λs z=>z.elim λt z=>by rw[z.1,z.2.1];exact⟨z.2.2.1,q _ z.2.2.2⟩
 |sub=>
  exact(Cy K rx ry e).elim λa z=>z.elim λb z=>by rw[z.1,z.2.1];exact q _ z.2.2
 |_=>injection e
end
section
variable {g:G} {h:AH} {H:MH}
theorem y8(K:fL g)(e:Dp m=some a):VA g a m:=by
 cases m with
 |none=>exact inj e▸.none
 |bool b=>exact inj e▸.bool b
 |int i=>exact inj e▸.i0 K i
 |str s=>exact inj e▸.lit s
 |dg c=>exact inj e▸.dg c
 |aF vs=>exact d8 (P:=λvs=>VA g a (.aF vs)) nn e λv e=>jD (P:=λv=>VA g a (.aF [v])) e λs e=>inj e▸.aF (.cons (.lit s) .nil)
 |ref _=>exact(by injection e)
theorem kh(e:H[i]? =some (.list vs)):m9 .len H (.ref i)=some (.int vs.length):=af (Option.bind · SI) e
theorem Mw(e:H[i]? =some (.list vs)):m9 .gH H (.ref i)=some (.aF vs):=af (nZ · λvs=>some (MV.aF vs)) e
theorem Q5(K:fL g)(e:alS s.length p u=some v):VA g v (.int (g.P p++s++g.R u).length):=by
 rw[ak,ak];cases p with
 |true=>cases u with
  |true=>exact inj e▸yP (by rw[K.a2,Int.add_right_comm];rfl)
  |false=>exact inj e▸yP (by rw[K.a1];rfl)
 |false=>cases u with
  |true=>exact(by injection e)
  |false=>exact inj e▸yP (by rw[K.a0,zero_add];exact af Int.ofNat (Nat.zero_add _).symm)
theorem Pb(K:fL g){vs:List AV}{ws:List MV}(r:dP g vs ws):VA g (.int 0 vs.length) (.int ws.length):=r.len▸.i0 K _
theorem OB{ws:List MV}(h:ws≠[]):1<=(ws.length:Int):=by
 cases ws with
 |nil=>exact a9 rfl h
 |cons a r=>exact ofNat_le.mpr (succ_le_succ (zero_le r.length))
theorem Q4(K:fL g)(r:OA g i o o')(e0:H[g.bK i]? =some o')(e:alO o=some v):SV g (m9 .len H (.ref (g.bK i))) v:=by
 cases o with
 |list o vs=>
  refine r.le (P:=λo'=>H[g.bK i]? =some o'->SV g (m9 .len H (.ref (g.bK i))) v) (λws rs e1=>cA nn e λhb h=>?_) e0;cases o with
  |true=>exact(by injection hb)
  |false=>exact⟨_,kh e1,inj h▸Pb K rs⟩
 |GO=>exact r.ue (P:=λo'=>H[g.bK i]? =some o'->SV g (m9 .len H (.ref (g.bK i))) v) (λws hw e0=>⟨_,kh e0,inj e▸.tB (OB hw)⟩) e0
 |_=>exact(by injection e)
theorem Rx{i:Nat}(h:i<1114112):m9 .GG H (.int i)=some (.str [i]):=af (Rw i) (blt_eq.mpr h)
theorem QX(K:fL g)(X:HA g h H){k:B1}{x v:AV}{x':MV}(rx:VA g x x')(e:ab1 k h x=some v):SV g (m9 k H x') v:=by
 cases k with
 |len=>
  cases x with
  |str p s u=>exact rx.kn.p (P:=λx'=>SV g (m9 .len H x') v) ⟨_,rfl,Q5 K e⟩
  |aF vs=>exact rx.te (P:=λx'=>SV g (m9 .len H x') v) λws r=>⟨_,rfl,inj e▸Pb K r⟩
  |ref i=>exact rx.kn.p (P:=λx'=>SV g (m9 .len H x') v) (aU nn e λob eo e=>X.oe eo λo' iR r=>Q4 K r iR e)
  |_=>exact(by injection e)
 |LX=>exact dO (P:=λx'=>SV g (m9 .LX H x') v) nn rx e λs e=>d8 (P:=λs=>SV g (m9 .LX H (.str s)) v) nn e λc e=>⟨_,rfl,inj e▸.i0 K _⟩
 |GG=>
  exact dY (P:=λx'=>SV g (m9 .GG H x') v) nn rx e λa i e=>cA nn e λh e=>lB (P:=λi=>SV g (m9 .GG H (.int (g.aP a+i))) v) nn e λi e=>cA nn e λh2 e=>by
   simp only[nb h,K.a0,zero_add];exact⟨_,Rx (blt_eq.mp h2),inj e▸.lit _⟩
 |gH=>exact gO (P:=λx'=>SV g (m9 .gH H x') v) nn rx e λi e=>JZ (P:=λo=>H[g.bK i]? =o->SV g (m9 .gH H (.ref (g.bK i))) v) X nn e (λvs ws r e eo=>⟨_,Mw eo,inj e▸.aF r⟩) rfl
theorem Mo(rx:VA g x x')(e:U4 k x=some b):qK k x'=some b:=by
 cases k with
 |tuple=>exact xi (P:=λx'=>qK .tuple x'=some b) nn rx e λvs ws u_ h=>h
 |m5 c=>cases x with
  |str p s u=>exact rx.kn.p (P:=λx'=>qK (.m5 c) x'=some b) e
  |tk s=>exact rx.kn.p (P:=λx'=>qK (.m5 c) x'=some b) e
  |_=>exact(by injection e)
theorem HD(e:H[i]? =some (.list vs)):oK .append H (.ref i)=true:=af u2 e
theorem G7(X:HA g h H)(rx:VA g x x')(e:Pn k h x=true):oK k H x'=true:=by
 cases k with
 |append=>
  exact gO (P:=λx'=>oK .append H x'=true) ff rx e λi e=>aU ff e λob eo e=>X.oe eo λo' iR r=>ti (P:=λo=>H[g.bK i]? =some o->oK .append H (.ref (g.bK i))=true) ff r e (λu_ u_ u_ u_ u_ eo=>HD eo) iR
 |pop=>injection e
 |reverse=>injection e
 |_=>exact xg (P:=λx'=>oK _ H x'=true) ff rx e λu_ u_ u_ u_=>rfl
structure eO(g:G)(q:Bool×Bool×List (List Nat))(ts:List (List Nat)):Prop where
 lit:q.1=true->ts=q.2.2
 pR:q.2.1=true->ts=q.2.2.map g.den
 len:ts.length=q.2.2.length
 sum:(ts.map length).sum<=60*(q.2.2.map length).sum
theorem TC(h1:a<=60*b)(h2:c<=60*d):a+c<=60*(b+d):=by lia
theorem vL(K:fL g):∀{vs:List AV} {ws:List MV} {q:Bool×Bool×List (List Nat)},dP g vs ws->Ep vs=some q->∃ts:List (List Nat),ws=ts.map .str/\eO g q ts
 | [],ws,q,r,e=>⟨[],r.kn _ rfl,inj e▸⟨λu_=>rfl,λu_=>rfl,rfl,le_refl _⟩⟩
 |v::vs,ws,q,r,e=>r.ce (P:=λws=>∃ts:List (List Nat),ws=ts.map .str/\eO g q ts) λw fs a r=>aU nn e λp e1 e=>aU nn e λq2 e2 e=>by
  refine(tL a e1).elim λt y=>(vL K r e2).elim λts z=>?_;have rt:=y.2;have c:=z.2;refine⟨t::ts,y.1▸z.1▸rfl,inj e▸⟨λz=>an z λz1 z2=>?_,λz=>an z λz1 z2=>c2 List.cons (rt.den z1) (c.pR z2),af (· +1) c.len,by simp only[map_cons,List.sum_cons,map_cons,List.sum_cons];exact TC (rt.len K) c.sum⟩⟩;refine(c.lit z2)▸?_;rw[z1]at rt;exact af (· ::_) rt
theorem Aa:∀ts:List (List Nat),B8 (ts.map .str)=some ts
 | []=>rfl
 |t::ts=>by show(B8 _).map _=_;rw[Aa ts];rfl
theorem yW(sep:List Nat):∀l:List (List Nat),qt sep l=fK sep l
 | []=>rfl
 | [x]=>rfl
 |x::y::r=>by show x++sep++qt sep (y::r)=x++sep++fK sep (y::r);rw[yW sep (y::r)]
theorem rZ(hs:d7 sep=true):∀l:List (List Nat),g.den (qt sep l)=fK sep (l.map g.den)
 | []=>rfl
 | [x]=>rfl
 |x::y::r=>by
  show g.den (x++sep++qt sep (y::r))=g.den x++sep++fK sep ((y::r).map g.den);simp only[my,my,rZ hs (y::r),qY hs]
theorem jB:∀l:List (List Nat),fK [] l=l.flatten
 | []=>rfl
 | [x]=>by simp[fK]
 |x::y::r=>by show x++ []++fK [] (y::r)=_;rw[jB (y::r)];simp
theorem Jl(h:a<=60*b)(h1:b<=100000)(h2:n=m)(h3:m<=1000)(h4:s<=10):a+n*s<=line:=by
 have:=Nat.mul_le_mul (h2▸h3) h4;exact az (show a+n*s<=6010000 by lia) (by decide)
theorem yV(K:fL g){sep:List Nat}{vs:List AV}{ws:List MV}{v:AV}(r:dP g vs ws)(e:Ji sep (Ep vs)=some v):
  ∃ts,ws=ts.map .str/\(ts.map length).sum+ts.length*sep.length<=line/\VA g v (.str (fK sep ts)):=
 aU nn e λq el e=>cA nn e λz e=>an z λq1 z=>an z λq2 z=>an z λq3 q4=>by
  refine(vL K r el).elim λts y=>?_;have c:=y.2;exact⟨ts,y.1,Jl c.sum (av q2) c.len (av q3) (av q4),zv e (λz=>by simp only[c.lit z,yW]) λz=>an z λz1 z2=>by simp only[c.pR z1,rZ z2]⟩
theorem DV:∀p s:List Nat,Kw p s=p.isPrefixOf s
 | [],s=>by cases s<;>rfl
 |_::_,[]=>rfl
 |a::p,b::s=>by
  show(beq a b&&Kw p s)=((a==b)&&p.isPrefixOf s);refine(DV p s)▸?_
  congr 1
  by_cases q:a=b
  ·subst q;simp
  ·have:beq a b=false:=by rw[<-not_eq_true];exact λz=>q (au z)
   rw[this];simp[q]
theorem yz(c:Nat):∀(s:List Nat) (k:Nat),i5 c s k=match jV c s k with|some j=>(j:Int)| .none=> -1
 | [],k=>rfl
 |x::r,k=>by
  dsimp only[i5,jV];by_cases q:x=c
  ·subst q;simp
  ·have:beq x c=false:=by rw[<-not_eq_true];exact λz=>q (au z)
   simp only[this,q,if_false,false_eq_true];exact yz c r (k+1)
theorem uV(c:Nat)(R:List Nat):∀(s:List Nat) (k m:Nat),(∀j,jV c s k=some j->i5 c (s++R) (m+k)=((m+j:Nat):Int))/\(jV c s k= .none->R= []->i5 c (s++R) (m+k)= -1)
 | [],k,m=>⟨λj e=>(by injection e),λu_ z=>by subst z;rfl⟩
 |x::r,k,m=>by
  have ih:=uV c R r (k+1) m;dsimp only[jV];show(∀j,_->(if x=c then _ else _)=_)/\(_->_->(if x=c then _ else _)=_);by_cases q:x=c
  ·subst q;simp only[beq_refl,if_true];exact⟨λj e=>(by injection e with I1;subst I1;rfl),λe=>(by injection e)⟩
  ·have:beq x c=false:=by rw[<-not_eq_true];exact λz=>q (au z)
   simp only[this,q,if_false,false_eq_true];exact ih
theorem Nn(c:Nat)(s:List Nat)(k:Nat):i5 c s k=VY (jV c s k):=by
 rw[yz];cases jV c s k<;>rfl
theorem qU(e:D3 H a=some (ts.map .str))(hl:(ts.map length).sum+ts.length*sep.length<=line)(q:Q (.str (fK sep ts)) H):iW .join H (.str sep) [a] Q:=
 Kj ((af (Option.bind · B8) e).trans (Aa ts)) ⟨hl,q⟩
theorem tG(e:H[i]? =some (.list vs)):D3 H (.ref i)=some vs:=af (nZ · some) e
theorem Eb{o:Option AV}{v:AV}{h':AH}{P:AH->Prop}(e:LF h o=some (v,h'))(k:o=some v->P h):P h':=aU nn e λu eu e=>by cases e;exact k eu
theorem Hi(K:fL g)(X:HA g h H){sep:List Nat}{a v:AV}{a':MV}{Q:PQ}(ra:VA g a a')(e:Pt h sep a=some v)(q:∀v',VA g v v'->Q v' H):iW .join H (.str sep) [a'] Q:=by
 cases a with
 |aF vs=>
  exact ra.te (P:=λa'=>iW .join H (.str sep) [a'] Q) λws r=>(yV K r e).elim λts y=>y.1▸qU rfl y.2.1 (q _ y.2.2)
 |ref i=>
  refine ra.kn.p (P:=λa'=>iW .join H (.str sep) [a'] Q) ?_;refine aU nn e λob eo e=>X.oe eo λo' iR ro=>ti (P:=λo'=>H[g.bK i]? =some o'->iW .join H (.str sep) [.ref (g.bK i)] Q) nn ro e (λb vs ws r e iR=>?_) iR;cases b with
  |false=>
   exact(yV K r e).elim λts y=>qU (tG (y.1▸iR)) y.2.1 (q _ y.2.2)
  |true=>
   exact cA nn e λq0 e=>an q0 λhi hs=>aU nn e λcq el e=>cA nn e λz ee=>an z λz1 z=>an z λz2 z3=>by
    obtain rfl:=nb hi;obtain rfl:=aW.mp hs;obtain⟨ts,rfl,c⟩:=vL K r el;have iR:H[g.bK 0]? =some (.list ((g.aQ++ts).map .str)):=by rw[iR,ah rfl,K.b0,map_append]
    refine qU (tG iR) ?_ (q _ ?_)
    ·have:=K.ml;have:=c.sum;have:=av z2;simp only[map_append,List.sum_append,length_nil,Nat.mul_zero];exact az (show _<=7000000 by lia) (by decide)
    ·rw[jB,List.flatten_append,c.pR z1,<-jB (cq.2.2.map g.den),<-rZ rfl,<-inj ee];exact .jn _
 |_=>exact(by injection e)
theorem Mk(K:fL g)(hk:k<=s.length)(e:UZ u (Ov p) (jV c (s.drop k) k)=some v):VA g v (.int (i5 c ((g.P p++s++g.R u).drop ((g.P p).length+k)) ((g.P p).length+k))):=by
 rw[aq,<-drop_drop,List.drop_left,List.drop_append_of_le_length hk];have fa:=uV c (g.R u) (s.drop k) k (g.P p).length;cases ej:jV c (s.drop k) k with
 |some j=>
  replace e:=ej▸e;simp only[fa.1 j ej,<-inj e];exact yP (by rw[BG K];exact(Int.natCast_add _ _).symm)
 |none=>
  replace e:=ej▸e;exact cA nn e λhu e=>by
   simp only[fa.2 ej (by cases u with|false=>rfl|true=>injection hu),<-inj e];exact .i0 K _
theorem Hc(K:fL g)(ra:dP g as tU)(e:Pp p s u c as=some v)(q:∀v',VA g v v'->Q v' H):iW .find H (.str (g.P p++s++g.R u)) (.str [c]::tU) Q:=by
 match as,ra,e with
 | [],ra,e=>
  refine(ra.kn _ rfl)▸?_;exact cA nn e λh1 e=>by
   rw[WX h1];exact q _ (Nn c s 0▸inj e▸.i0 K _)
 | [b],ra,e=>
  refine ra.ce (P:=λtU=>iW .find H (.str (g.P p++s++g.R u)) (.str [c]::tU) Q) λw fs rb rf=>rf.kn.p (u:=[]) (P:=λfs=>iW .find H (.str (g.P p++s++g.R u)) (.str [c]::w::fs) Q) ?_;refine dY (P:=λw=>iW .find H (.str (g.P p++s++g.R u)) [.str [c],w] Q) nn rb e λa k e=>lB (P:=λk=>iW .find H (.str (g.P p++s++g.R u)) [.str [c],.int (g.aP a+k)] Q) nn e λk e=>cA nn e λz e=>an z λz1 z2=>?_;refine(nt_ K z1)▸?_;exact⟨natCast_nonneg _,q _ (Mk K (av z2) (nb z1▸e))⟩
 |_::_::_,_,e=>injection e
theorem AJ(e:H[i]? =some (.list vs))(hl:vs.length<line)(q:Q .none (H.set i (.list (vs++ [v])))):iW .append H (.ref i) [v] Q:=BI e ⟨hl,q⟩
theorem Hw(K:fL g){i:Nat}{o:Bool}{vs:List AV}{ws:List MV}(r:dP g vs ws)(h:vs.length<=1000):((if o=true then g.bQ i else [])++ws).length<line:=by
 have:=K.bl i;simp only[ak,<-r.len];refine lt_of_le_of_lt (add_le_add (b:=1000000) ?_ h) (by decide);cases o with
 |true=>
  exact this
 |false=>exact zero_le _
theorem QY(K:fL g)(X:HA g h H)(ro:VA g o o')(ra:dP g as tU)(e:abm k h o as=some (v,h'))(q:∀v' H',VA g v v'->HA g h' H'->Q v' H'):iW k H o' tU Q:=by
 cases k with
 |join=>exact dO (P:=λo'=>iW .join H o' tU Q) nn ro e λsep e=>zw (P:=λtU=>iW .join H (.str sep) tU Q) nn ra e λa a' ra e=>Eb (P:=λh'=>(∀v' H',VA g v v'->HA g h' H'->Q v' H')->iW .join H (.str sep) [a'] Q) e (λe q=>Hi K X ra e λv' rv=>q v' H rv X) q
 |startswith=>
  exact dO (P:=λo'=>iW .startswith H o' tU Q) nn ro e λs e=>zw (P:=λtU=>iW .startswith H (.str s) tU Q) nn ra e λa a' ra e=>dO (P:=λa'=>iW .startswith H (.str s) [a'] Q) nn ra e λt e=>by
   cases e;exact q _ _ (DV t s▸.bool _) X
 |append=>
  exact gO (P:=λo'=>iW .append H o' tU Q) nn ro e λi e=>zw (P:=λtU=>iW .append H (.ref (g.bK i)) tU Q) nn ra e λa a' ra e=>aU nn e λob eo e=>X.oe eo λo' iR r=>
   th (P:=λob=>OA g i ob o'->gp h i=some ob->iW .append H (.ref (g.bK i)) [a'] Q) nn e (λb vs e r eo=>r.le (P:=λo'=>H[g.bK i]? =some o'->iW .append H (.ref (g.bK i)) [a'] Q) (λws r iR=>cA nn e λhl e=>by
    cases e;exact AJ iR (Hw K r (av hl)) (q _ _ .none (X.set K eo (aq _ _ _▸.list (r.append (.cons ra .nil)))))) iR) r eo
 |find=>
  exact kH (P:=λas=>dP g as tU->iW .find H o' tU Q) nn e (λa r e ra=>ra.ce (P:=λtU=>iW .find H o' tU Q) λw fs ra rr=>dO (P:=λw=>iW .find H o' (w::fs) Q) nn ra e λt e=>d8 (P:=λt=>iW .find H o' (.str t::fs) Q) nn e λc e=>xg (P:=λo'=>iW .find H o' (.str [c]::fs) Q) nn ro e λp s u e=>
   Eb (P:=λh'=>(∀v' H',VA g v v'->HA g h' H'->Q v' H')->iW .find H (.str (g.P p++s++g.R u)) (.str [c]::fs) Q) e (λe q=>Hc K rr e λv' rv=>q v' H rv X) q) ra
 |split=>
  exact dO (P:=λo'=>iW .split H o' tU Q) nn ro e λs e=>zw (P:=λtU=>iW .split H (.str s) tU Q) nn ra e λa a' ra e=>dO (P:=λa'=>iW .split H (.str s) [a'] Q) nn ra e λt e=>d8 (P:=λt=>iW .split H (.str s) [.str t] Q) nn e λc e=>cA nn e λhl e=>by
   cases e;exact⟨az (Nat.add_le_add_right (av hl) 2) (by decide),λl hn u_=>q _ _ (X.new▸.ref h.length) (X.push K (.GO λz=>hn (List.map_eq_nil_iff.mp z)))⟩
 |_=>injection e
end
section
variable {g:G} {h:AH} {H:MH}
theorem AB(e:H[i]? =some (.aK c a))(q:xO n=true):cQ H (.ref i) n=bW a n:=(af (Option.bind · (x6 n)) e).trans (ah q)
theorem kO(e:H[i]? =some (.aR c a x))(q:Hr n=true):cQ H (.ref i) n=bW a n:=(af (Option.bind · (x6 n)) e).trans (ah q)
theorem wG(r:mY g a b)(e:wF a n=some v):SV g (bW b n) v:=by
 have z:=yC r n;rwa[e]at z
theorem xX(X:HA g h H)(ro:VA g o o')(e:Cs h o n=some v):SV g (cQ H o' n) v:=
 gO (P:=λo'=>SV g (cQ H o' n) v) nn ro e λi e=>aU nn e λob eo e=>X.oe eo λo' iR r=>by
  cases ob with
  |aK c a=>exact r.ie (P:=λo'=>H[g.bK i]? =some o'->SV g (cQ H (.ref (g.bK i)) n) v) (λb r iR=>cA nn e λq e=>AB iR q▸wG r e) iR
  |aR c a x=>exact r.ee (P:=λo'=>H[g.bK i]? =some o'->SV g (cQ H (.ref (g.bK i)) n) v) (λb r iR=>cA nn e λq e=>kO iR q▸wG r e) iR
  |_=>exact(by injection e)
theorem BS{Q:MH->Prop}(e:H[i]? =some (.aK c a))(q:xO n=true)(k:Q (H.set i (.aK c (jj a n v)))):eG H (.ref i) n v Q:=Kj e ⟨q,k⟩
theorem FX{Q:MH->Prop}(e:H[i]? =some (.aR c a x))(q:Hr n=true)(k:Q (H.set i (.aR c (jj a n v) x))):eG H (.ref i) n v Q:=Kj e ⟨q,k⟩
theorem xZ(K:fL g)(X:HA g h H){Q:MH->Prop}(ro:VA g o o')(rv:VA g v v')(e:Cw h o n v=some h')(q:∀H',HA g h' H'->Q H'):eG H o' n v' Q:=
 gO (P:=λo'=>eG H o' n v' Q) nn ro e λi e=>aU nn e λob eo e=>aU nn e λob2 e2 e=>X.oe eo λo' iR r=>by
  have q:∀H',HA g (h.set i ob2) H'->Q H':=λH' x=>q H' (inj e▸x);cases ob with
  |aK c a=>exact r.ie (P:=λo'=>H[g.bK i]? =some o'->eG H (.ref (g.bK i)) n v' Q) (λb r iR=>cA nn e2 λz e=>BS iR z (q _ (X.set K eo (inj e▸.aK (zR r rv))))) iR
  |aR c a x=>exact r.ee (P:=λo'=>H[g.bK i]? =some o'->eG H (.ref (g.bK i)) n v' Q) (λb r iR=>cA nn e2 λz e=>FX iR z (q _ (X.set K eo (inj e▸.aR (zR r rv))))) iR
  |_=>exact(by injection e2)
theorem jO.aaU{a b}(r:jO g a b)(x:VA g v w):jO g (a++ [(k,v)]) (b++ [(k,w)]):=by
 induction r with
 |nil=>exact .cons x .nil
 |cons y r ih=>exact .cons y ih
theorem tH(es tl:List (List Nat×MV))(k:List Nat)(w:MV)(h:getD es k= .none):jL (es++tl) k w=es++jL tl k w:=by
 induction es with
 |nil=>rfl
 |cons p es ih=>
  have h':(if p.1=k then some p.2 else getD es k)= .none:=h;show(if p.1=k then _ else(p.1,p.2)::jL (es++tl) k w)=_;by_cases q:p.1=k
  ·rw[ah q]at h';exact(by injection h')
  ·rw[ag q]at h'⊢;exact af _ (ih h')
theorem oh(tl:List (List Nat×MV))(k:List Nat)(w:MV)(h:getD tl k= .none):jL tl k w=tl++ [(k,w)]:=by
 have:=tH tl [] k w h;rw[ax]at this;exact this
theorem BU{Q:MH->Prop}(e:H[i]? =some (.dict es))(hl:es.length<line)(q:Q (H.set i (.dict (jL es k v)))):jX H (.ref i) (.str k) v Q:=Tp e ⟨hl,q⟩
theorem IT(r:jO g a b)(e:(hZ a k).isNone=true):getD b k= .none:=by
 have z:=nJ r k;rwa[isNone_iff_eq_none.mp e]at z
theorem aav(h1:a<=1000)(h2:b<=1000000)(h3:c<=1000):a+(b+c)<line:=lt_of_le_of_lt (add_le_add h1 (add_le_add h2 h3)) (by decide)
theorem Hm(K:fL g)(r:jO g es fs)(t:En g i o tl)(rv:VA g v v')(e:Pw es k v o=some ob):(fs++tl).length<line/\OA g i ob (.dict (jL (fs++tl) k v')):=by
 cases o with
 |none=>
  refine cA nn e λhl e=>?_;rw[t.no rfl,ax,<-r.len,<-inj e];refine⟨lt_of_le_of_lt (av hl) (by decide),?_⟩;have:=OA.dict (g:=g) (i:=i) (o:=.none) (tl:=[]) (KO r (n:=k) rv) ⟨λu_=>rfl,λu_ u_ z=>((by injection z))⟩;rwa[ax]at this
 |some p=>
  have y:=t.some p.1 p.2 rfl;refine y.2.2.elim λxN w=>w.2▸?_;have t1:=y.1;have ra:=w.1;refine cA nn e λz e=>an z λz1 z=>an z λz2 z=>an z λz3 z=>an z λz4 z5=>?_;have d2:getD (g.tail i) k= .none:=aU ff z2 λq eq z=>t1 k (eq.trans (af some (isNone_iff_eq_none.mp z)));simp only[<-inj e,ak,ak,<-r.len,<-ra.len,tH _ _ _ _ (IT r z1),tH _ _ _ _ d2,oh _ _ _ (IT ra z3)];refine⟨aav (av z4) (K.tl i) (av z5),.dict r ⟨λz=>((by injection z)),λfs' a' z=>?_⟩⟩;have z:=Prod.mk.inj (inj z);exact z.1▸z.2▸⟨t1,y.2.1,_,jO.aaU ra rv,rfl⟩
theorem Ho(K:fL g)(X:HA g h H){Q:MH->Prop}(ro:VA g o o')(ri:VA g i i')(rv:VA g v v')(e:Hn h o i v=some h')(q:∀H',HA g h' H'->Q H'):jX H o' i' v' Q:=
 gO (P:=λo'=>jX H o' i' v' Q) nn ro e λj e=>dO (P:=λi'=>jX H (.ref (g.bK j)) i' v' Q) nn ri e λk e=>aU nn e λob eo e=>X.oe eo λo' iR r=>
  tf (P:=λob=>OA g j ob o'->gp h j=some ob->jX H (.ref (g.bK j)) (.str k) v' Q) nn e (λes tl e r eo=>aU nn e λob2 e2 e=>r.de (P:=λo'=>H[g.bK j]? =some o'->jX H (.ref (g.bK j)) (.str k) v' Q) (λfs tl r t iR=>
   have d:=Hm K r t rv e2
   BU iR d.1 (q _ (inj e▸X.set K eo d.2))) iR) r eo
theorem Az(K:fL g)(X:HA g h H){P:Nat->MH->Prop}(e:Cv h i c a hd=some h2)(eo:gp h i=some (.aR c a x))(rb:mY g a b)(q:∀H',HA g h2 H'->P (g.bK i) H'):BO H (g.bK i) c b P (hd.map g.bK):=by
 cases hd with
 |none=>exact q _ (inj e▸X)
 |some m=>
  show(if g.bK m=g.bK i then P (g.bK i) H else _);have e:(match beq m i with|true=>some h|false=>cK .none (gp h m) λoj=>n6 .none oj λu_ u_ y=>gd .none (!y) (some (h.set i (.aR c a true))))=some h2:=e;generalize z:beq m i=t at e;cases t with
  |true=>rw[ah (nb z▸rfl)];exact q _ (inj e▸X)
  |false=>
   rw[ag λy:g.bK m=g.bK i=>(by injection(z.symm.trans (DT K y▸beq_refl m:beq m i=true)))];exact aU nn e λoj em e=>X.oe em λo3 Zy r3=>xd (P:=λo3=>H[g.bK m]? =some o3->FI H[g.bK m]? _) nn r3 e (λc2 a2 y b2 u_ e Zy=>cA nn e λhy e=>BH Zy ⟨(not_eq_true' _).mp hy,q _ (inj e▸X.set K eo (.aR rb))⟩) Zy
theorem Ew(K:fL g)(X:HA g h H){P:Nat->MH->Prop}(rv:VA g v v')(e:Ay hd h v=some (i,h'))(q:∀H',HA g h' H'->P (g.bK i) H'):mT (hd.map g.bK) H v' P:=
 gO (P:=λv'=>mT (hd.map g.bK) H v' P) nn rv e λj e=>aU nn e λob eo e=>X.oe eo λo' iR r=>
  rp (P:=λob=>OA g j ob o'->gp h j=some ob->mT (hd.map g.bK) H (.ref (g.bK j)) P) nn e (λc a x e r eo=>aU nn e λh2 e2 e=>r.ee (P:=λo'=>H[g.bK j]? =some o'->mT (hd.map g.bK) H (.ref (g.bK j)) P) (λb rb iR=>
   have y:=Prod.mk.inj (inj e)
   BH iR (Az K X e2 eo rb λH' x=>y.1▸q H' (y.2▸x))) iR) r eo
theorem Hd(X:HA g h H)(e:Pq hd h=true):uh (hd.map g.bK) H:=by
 cases hd with
 |none=>trivial
 |some j=>
  exact aU ff e λob ej e=>X.oe ej λo eo r=>xd (P:=λo=>H[g.bK j]? =some o->uh (some (g.bK j)) H) ff r e (λc a y b u_ hy eo=>by
   cases y with
   |true=>injection hy
   |false=>unfold uh;dsimp only;rw[eo];trivial) eo
inductive VU(g:G):Option AV->Option MV->Prop
 |none {w}:VU g .none w
 |some {v w}:VA g v w->VU g (.some v) (.some w)
inductive VE(g:G):bx->Env->Prop
 |nil:VE g [] []
 |cons {v w aA ev}:VU g v w->VE g aA ev->VE g (v::aA) (w::ev)
theorem C0(r:VE g aA ev):∀{i:Nat} {v:AV},Nr aA i=some v->∃w,dp ev i=some w/\VA g v w:=by
 induction r with
 |nil=>intro i v e;injection e
 |@cons v w aA ev a r ih=>
  intro i u e;cases i with
  |zero=>
   have e:v=some u:=e;subst e;cases a with|some a=>exact⟨_,rfl,a⟩
  |succ i=>exact ih (i:=i) e
theorem iF(r:VE g aA ev)(a:VU g v w):∀i:Nat,VE g (uu aA i v) (bN ev i w):=by
 induction r with
 |nil=>intro i;exact .nil
 |cons b r ih=>
  intro i;cases i with
  |zero=>exact .cons a r
  |succ i=>exact .cons b (ih i)
theorem KP{vs:List AV}{ws:List MV}(r:dP g vs ws):∀{xs:List Nat} {aA:bx} {ev:Env},VE g aA ev->VE g (zS aA xs vs) (fy ev xs ws):=by
 induction vs generalizing ws with
 |nil=>exact λ{xs aA ev} x=>r.ne (P:=λws=>VE g (zS aA xs []) (fy ev xs ws)) (by cases xs<;>exact x)
 |cons v vs ih=>
  refine λ{xs aA ev} x=>r.ce (P:=λws=>VE g (zS aA xs (v::vs)) (fy ev xs ws)) λw fs a r=>?_;cases xs with
  |nil=>exact x
  |cons i xs=>exact ih r (iF x (.some a) i)
theorem uz{P:Env->Prop}(rv:VA g v v')(r:VE g aA ev)(e:Ax x v aA=some aG)(q:∀dA,VE g aG dA->P dA):bJ x v' ev P:=by
 cases x with
 |iM i=>exact q _ (inj e▸iF r (.some rv) i)
 |eS xs=>
  exact xi (P:=λv'=>bJ (.eS xs) v' ev P) nn rv e λvs ws rv e=>cA nn e λz e=>⟨rv.len.symm.trans (nb z),q _ (inj e▸KP rv r)⟩
theorem VE.z6{vs:List AV}{ws:List MV}(r:dP g vs ws):VE g (vs.map some) (ws.map some):=by
 induction vs generalizing ws with
 |nil=>cases r;exact .nil
 |cons v vs ih=>cases r with|cons a r=>exact .cons (.some a) (ih r)
theorem VE.append(r:VE g a a')(q:VE g b b'):VE g (a++b) (a'++b'):=by
 induction r with
 |nil=>exact q
 |cons x r ih=>exact .cons x ih
theorem VE.WY(n:Nat):VE g (replicate n .none) (replicate n .none):=by
 induction n with
 |zero=>exact .nil
 |succ n ih=>exact .cons .none ih
theorem NW(K:fL g):∀{d:List AV},l.mapM Dp=some d->dP g d l:=by
 induction l with
 |nil=>exact λ{d} e=>inj ((List.mapM_nil (m:=Option)).symm.trans e)▸.nil
 |cons m l ih=>
  intro d e;rw[List.mapM_cons]at e;exact(bind_eq_some_iff.mp e).elim λa y=>(bind_eq_some_iff.mp y.2).elim λd' z=>inj z.2▸.cons (y8 K y.1) (ih z.1)
theorem Eo(K:fL g)(r:dP g args bw)(e:Aw np eN nl args=some aA):∃ev,rS np eN nl bw=some ev/\VE g aA ev:=by
 unfold Aw at e;by_cases q:(ble args.length np&&ble np (args.length+eN.length))=true
 ·rw[ah q]at e;have z:=bh q;refine(map_eq_some_iff.mp e).elim λd y=>⟨_,ah (r.len▸⟨av z.1,av z.2⟩),y.2▸(VE.z6 (r.append (NW K (r.len▸y.1)))).append (.WY _)⟩
 ·replace e:=(ag q)▸e;exact(by injection e)
end
def m6{α:Type}(g:G)(r:dT α)(E:PE):Prop:=match r with
 | .ok _ _=>True
 | .aR e h1=>∀H',HA g h1 H'->E (g.bK e) H'
def xS{α β:Type}(g:G)(Rv:α->β->Prop)(r:dT α)(Q:β->MH->Prop)(E:PE):Prop:=match r with
 | .ok v h1=>∀v' H',Rv v v'->HA g h1 H'->Q v' H'
 | .aR e h1=>∀H',HA g h1 H'->E (g.bK e) H'
theorem xS.c{α β:Type}{g:G}{Rv:α->β->Prop}{r r':dT α}{Q:β->MH->Prop}{E:PE}(h:xS g Rv r Q E)(e:some r'=some r):xS g Rv r' Q E:=inj e▸h
theorem xS.aR{α β:Type}{g:G}{Rv:α->β->Prop}{r:dT α}{Q:β->MH->Prop}{E:PE}(x:xS g Rv r Q E):m6 g r E:=by cases r<;>first|trivial|exact x
section
variable (g:G) (hd:Option Nat) (C:Calls)
def eY(F:bx->AH->Option (dT AV))(m:ME):Prop:=∀aA h r,F aA h=some r->∀ev H Q E,VE g aA ev->HA g h H->xS g (VA g) r Q E->(den aB C (hd.map g.bK) m).val ev H Q E
def GW(F:bx->AH->Option (dT Bool))(m:ME):Prop:=∀aA h r,F aA h=some r->∀ev H Q E,VE g aA ev->HA g h H->xS g Eq r Q E->(den aB C (hd.map g.bK) m).eM ev H Q E
def Yg(F:bx->AH->Option (dT (Option AV)))(m:Option ME):Prop:=∀aA h r,F aA h=some r->∀ev H Q E,VE g aA ev->HA g h H->xS g (VO g) r Q E->qF aB C (hd.map g.bK) m ev H Q E
def LP(F:bx->AH->Option (dT (List AV)))(m:List ME):Prop:=∀aA h r,F aA h=some r->∀ev H Q E,VE g aA ev->HA g h H->xS g (dP g) r Q E->cJ aB C (hd.map g.bK) m ev H Q E
def YX(F:bx->AH->Option (dT Bool))(m:List ME):Prop:=∀aA h r,F aA h=some r->∀ev H Q E,VE g aA ev->HA g h H->xS g Eq r Q E->iJ aB C (hd.map g.bK) m ev H Q E
def YY(F:bx->AH->Option (dT Bool))(m:List ME):Prop:=∀aA h r,F aA h=some r->∀ev H Q E,VE g aA ev->HA g h H->xS g Eq r Q E->lX aB C (hd.map g.bK) m ev H Q E
end
def QL(g:G)(AC:cx)(C:Calls):Prop:=∀f args hd h r,AC f args hd h=some r->∀bw H Q E,dP g args bw->HA g h H->xS g (VA g) r Q E->C f bw (hd.map g.bK) H Q E
section
variable {g:G} {hd:Option Nat} {C:Calls}
theorem n5{α β:Type}{o:Option (dT α)}{f:α->AH->Option (dT β)}{r:dT β}{P:dT β->Prop}(e:bY o f=some r)(k1:∀v h1,o=some (.ok v h1)->f v h1=some r->P r)(k2:∀x h1,o=some (.aR x h1)->P (.aR x h1)):P r:=by
 unfold bY at e;cases o with
 |none=>exact(by injection e)
 |some o=>
  cases o with
  |ok v h1=>exact k1 v h1 rfl e
  |aR x h1=>exact inj e▸k2 x h1 rfl
theorem df{β:Type}{F:bx->AH->Option (dT AV)}{m:ME}(S:eY g hd C F m){aA:bx}{h:AH}{f:AV->AH->Option (dT β)}{r:dT β}{ev:Env}{H:MH}{Q:PQ}{E:PE}(v:VE g aA ev)(X:HA g h H)(e:bY (F aA h) f=some r)(hx:m6 g r E)
  (k:∀v h1,f v h1=some r->∀v' H',VA g v v'->HA g h1 H'->Q v' H'):(den aB C (hd.map g.bK) m).val ev H Q E:=
 n5 (P:=λr=>m6 g r E->(∀v h1,f v h1=some r->∀v' H',VA g v v'->HA g h1 H'->Q v' H')->(den aB C (hd.map g.bK) m).val ev H Q E) e (λa h1 e1 e2 u_ k=>S aA h _ e1 ev H Q E v X (k a h1 e2)) (λx h1 e1 hx u_=>S aA h _ e1 ev H Q E v X hx) hx k
theorem xF{β:Type}{F:bx->AH->Option (dT Bool)}{m:ME}(S:GW g hd C F m){aA:bx}{h:AH}{f:Bool->AH->Option (dT β)}{r:dT β}{ev:Env}{H:MH}{Q:Bool->MH->Prop}{E:PE}(v:VE g aA ev)(X:HA g h H)(e:bY (F aA h) f=some r)(hx:m6 g r E)
  (k:∀v h1,f v h1=some r->∀H',HA g h1 H'->Q v H'):(den aB C (hd.map g.bK) m).eM ev H Q E:=
 n5 (P:=λr=>m6 g r E->(∀v h1,f v h1=some r->∀H',HA g h1 H'->Q v H')->(den aB C (hd.map g.bK) m).eM ev H Q E) e (λa h1 e1 e2 u_ k=>S aA h _ e1 ev H Q E v X (λv' H' rv X'=>rv▸k a h1 e2 H' X')) (λx h1 e1 hx u_=>S aA h _ e1 ev H Q E v X hx) hx k
theorem JL{β:Type}{F:bx->AH->Option (dT (Option AV))}{m:(Option ME)}(S:Yg g hd C F m){aA:bx}{h:AH}{f:(Option AV)->AH->Option (dT β)}{r:dT β}{ev:Env}{H:MH}{Q:Option MV->MH->Prop}{E:PE}(v:VE g aA ev)(X:HA g h H)(e:bY (F aA h) f=some r)(hx:m6 g r E)
  (k:∀v h1,f v h1=some r->∀v' H',VO g v v'->HA g h1 H'->Q v' H'):qF aB C (hd.map g.bK) m ev H Q E:=
 n5 (P:=λr=>m6 g r E->(∀v h1,f v h1=some r->∀v' H',VO g v v'->HA g h1 H'->Q v' H')->qF aB C (hd.map g.bK) m ev H Q E) e (λa h1 e1 e2 u_ k=>S aA h _ e1 ev H Q E v X (k a h1 e2)) (λx h1 e1 hx u_=>S aA h _ e1 ev H Q E v X hx) hx k
theorem gN{β:Type}{F:bx->AH->Option (dT (List AV))}{m:(List ME)}(S:LP g hd C F m){aA:bx}{h:AH}{f:(List AV)->AH->Option (dT β)}{r:dT β}{ev:Env}{H:MH}{Q:List MV->MH->Prop}{E:PE}(v:VE g aA ev)(X:HA g h H)(e:bY (F aA h) f=some r)(hx:m6 g r E)
  (k:∀v h1,f v h1=some r->∀v' H',dP g v v'->HA g h1 H'->Q v' H'):cJ aB C (hd.map g.bK) m ev H Q E:=
 n5 (P:=λr=>m6 g r E->(∀v h1,f v h1=some r->∀v' H',dP g v v'->HA g h1 H'->Q v' H')->cJ aB C (hd.map g.bK) m ev H Q E) e (λa h1 e1 e2 u_ k=>S aA h _ e1 ev H Q E v X (k a h1 e2)) (λx h1 e1 hx u_=>S aA h _ e1 ev H Q E v X hx) hx k
theorem sZ{o:Option AV}{h:AH}{r:dT AV}{P:dT AV->Prop}(e:P8 o h=some r)(k:∀v,o=some v->P (.ok v h)):P r:=aU nn e λa ea e=>inj e▸k a ea
theorem P7{o:Option Bool}{h:AH}{r:dT AV}{P:dT AV->Prop}(e:okB o h=some r)(k:∀v,o=some v->P (.ok (.bool v) h)):P r:=aU nn e λa ea e=>inj e▸k a ea
theorem JP{o:Option Bool}{h:AH}{r:dT Bool}{P:dT Bool->Prop}(e:N9 o h=some r)(k:∀v,o=some v->P (.ok v h)):P r:=aU nn e λa ea e=>inj e▸k a ea
theorem W4{o:Option (AV×AH)}{r:dT AV}{P:dT AV->Prop}(e:okP o=some r)(k:∀v h,o=some (v,h)->P (.ok v h)):P r:=aU nn e λa ea e=>inj e▸k a.1 a.2 ea
def oB(o:Option Bool)(P:Bool->Prop):Prop:=match o with|some r=>P r| .none=>False
def oV(o:Option MV)(P:MV->Prop):Prop:=match o with|some r=>P r| .none=>False
theorem oB.i{o:Option Bool}{b:Bool}{P:Bool->Prop}(e:o=some b)(k:P b):oB o P:=by subst e;exact k
theorem oV.i{o:Option MV}{b:MV}{P:MV->Prop}(e:o=some b)(k:P b):oV o P:=by subst e;exact k
theorem Ef:∀(ks:List (List Nat)) {vs:List AV} {ws:List MV},dP g vs ws->jO g (ks.zip vs) (ks.zip ws)
 | [],_,_,_=>.nil
 |k::ks,[],_,r=>by cases r;exact .nil
 |k::ks,v::vs,_,r=>by cases r with|cons a r=>exact .cons a (Ef ks r)
abbrev VR(g:G):=xS g (VA g)
theorem Lw{F:bx->AH->Option (dT AV)}{AC:cx}{m:ME}(Bf:den aB C (hd.map g.bK) m=bF.of (den aB C (hd.map g.bK) m).val)(S:eY g hd C F m):GW g hd C (λaA h=>bY (F aA h) λv h1=>N9 (AA h1 v) h1) m:=by
 intro aA h r e ev H Q E v X hr;refine Bf▸?_;exact df S v X e hr.aR λx h1 e1 x' H1 rx X1=>JP (P:=λr=>xS g Eq r Q E->oB (gD H1 x') (Q · H1)) e1 (λz ez hr=>oB.i (Ez X1 rx ez) (hr _ _ rfl X1)) hr
theorem fp{F:FE}{AC:cx}{m:ME}(Bf:den aB C (hd.map g.bK) m=bF.of (den aB C (hd.map g.bK) m).val)(S:eY g hd C (F AC hd) m):eY g hd C ((FD.of F).e AC hd) m/\GW g hd C ((FD.of F).t AC hd) m:=⟨S,Lw (AC:=AC) Bf S⟩
theorem oJ:eY g hd C (λu_ u_=>.none) m:=λaA h r e=>(by injection e)
theorem CB:GW g hd C (λu_ u_=>.none) m:=λaA h r e=>(by injection e)
section
variable (K:fL g) {AC:cx} (SC:QL g AC C)
include K
theorem M1{op:Cm}{a b:ME}{Fa Fb:FE}(Sa:eY g hd C (Fa AC hd) a)(Sb:eY g hd C (Fb AC hd) b):GW g hd C (Qo op Fa Fb AC hd) (.aV op a b):=λaA h r e ev H Q E v X hr=>
 df Sa v X e hr.aR λx h1 e1 x' H1 rx X1=>df Sb v X1 e1 hr.aR λy h2 e2 y' H2 ry X2=>JP (P:=λr=>xS g Eq r Q E->oB (dc op H2 x' y') (Q · H2)) e2 (λz ez hr=>oB.i (qR K X2 rx ry ez) (hr _ _ rfl X2)) hr
theorem HY{o2:Cm}{d:ME}{Fd:FE}(Sd:eY g hd C (Fd AC hd) d){aA:bx}{ev:Env}{r:dT Bool}{y:AV}{y':MV}{h2:AH}{H2:MH}{Q:Bool->MH->Prop}{E:PE}{b:Bool}(v:VE g aA ev)(X2:HA g h2 H2)(ry:VA g y y')(hr:xS g Eq r Q E)(e:(match b with
 |true=>bY (Fd AC hd aA h2) λz h3=>N9 (Er o2 h3 y z) h3
 |false=>some (.ok false h2))=some r):if b=true then(den aB C (hd.map g.bK) d).val ev H2 (λz H3=>oB (dc o2 H3 y' z) (Q · H3)) E else Q false H2:=by
 cases b with
 |true=>exact df Sd v X2 e hr.aR λz h3 e3 z' H3 rz X3=>JP (P:=λr=>xS g Eq r Q E->oB (dc o2 H3 y' z') (Q · H3)) e3 (λw ew hr=>oB.i (qR K X3 ry rz ew) (hr _ _ rfl X3)) hr
 |false=>exact hr.c e _ _ rfl X2
theorem HX{o1 o2:Cm}{a b d:ME}{Fa Fb Fd:FE}(Sa:eY g hd C (Fa AC hd) a)(Sb:eY g hd C (Fb AC hd) b)(Sd:eY g hd C (Fd AC hd) d):GW g hd C (KA o1 o2 Fa Fb Fd AC hd) (.ju o1 o2 a b d):=λaA h r e ev H Q E v X hr=>
 df Sa v X e hr.aR λx h1 e1 x' H1 rx X1=>df Sb v X1 e1 hr.aR λy h2 e2 y' H2 ry X2=>aU nn e2 λb eb e2=>oB.i (qR K X2 rx ry eb) (HY K Sd v X2 ry hr e2)
theorem c_c(w:MV):eY g hd C (sC w AC hd) (.c w):=λaA h r e ev H Q E v X hr=>sZ (P:=λr=>VR g r Q E->Q w H) e (λa ea hr=>hr _ _ (y8 K ea) X) hr
theorem c_l(i:Nat):eY g hd C (sL i AC hd) (.l i):=λaA h r e ev H Q E v X hr=>sZ (P:=λr=>VR g r Q E->oV (dp ev i) (Q · H)) e (λa ea hr=>let⟨w,ew,OK⟩:=C0 v ea;oV.i ew (hr _ _ OK X)) hr
theorem c_g(a:Nat):eY g hd C (sG a AC hd) (.g a):=λaA h r e ev H Q E v X hr=>hr.c e _ _ (.dg a) X
theorem Vu{es:List ME}{Fs:FL}(Ss:LP g hd C (Fs AC hd) es):eY g hd C (Xq Fs AC hd) (.aF es):=λaA h r e ev H Q E v X hr=>
  gN Ss v X e hr.aR λvs h1 e1 ws H1 rv X1=>hr.c e1 _ _ (.aF rv) X1
theorem Vs{es:List ME}{Fs:FL}(Ss:LP g hd C (Fs AC hd) es):eY g hd C (Xo Fs AC hd) (.fP es):=λaA h r e ev H Q E v X hr=>
  gN Ss v X e hr.aR λvs h1 e1 ws H1 rv X1=>by
   injection e1 with I1;subst I1
   exact hr _ _ (X1.new▸.ref h1.length) (X1.push K (OA.list (o:=false) rv))
theorem OA.d0(r:jO g es fs):OA g i (.dict es .none) (.dict fs):=by
 have:=OA.dict (i:=i) (o:=.none) (tl:=[]) r ⟨λu_=>rfl,λu_ u_ z=>(by injection z)⟩;rwa[ax]at this
theorem RA{ks:List (List Nat)}{vs:List AV}{ws:List MV}{h h1:AH}{H H1:MH}{r:dT AV}{Q:PQ}{E:PE}(X:HA g h H)(X1:HA g h1 H1)(rv:dP g vs ws)(e1:QH ks vs h.length h1=some r)(hr:VR g r Q E):H1[H.length]? =some (.dict [])/\Q (.ref H.length) (H1.set H.length (.dict (ks.zip ws))):=by
 rw[<-X.new];refine aU nn e1 λob en e1=>tf (P:=λob=>gp h1 h.length=some ob->_) nn e1 (λes tl e1 en=>cA nn e1 λz e3=>an z λz1 z=>an z λz2 z3=>?_) en;obtain rfl:=isEmpty_iff.mp z1;obtain rfl:=isNone_iff_eq_none.mp z2;injection e3 with I1;subst I1
 exact⟨X1.kn en rfl,hr _ _ (.ref _) (X1.set K en (.d0 K (Ef ks rv)))⟩
theorem Vo{ks:List (List Nat)}{es:List ME}{Fs:FL}(Ss:LP g hd C (Fs AC hd) es):eY g hd C (Xj ks Fs AC hd) (.qc ks es):=λaA h r e ev H Q E v X hr=>
  gN Ss v (X.push K (.d0 K .nil)) e hr.aR λvs h1 e1 ws H1 rv X1=>RA K X X1 rv e1 hr
theorem Vn{op:Cm}{a b:ME}{Fa Fb:FE}(Sa:eY g hd C (Fa AC hd) a)(Sb:eY g hd C (Fb AC hd) b):eY g hd C (Xh op Fa Fb AC hd) (.aV op a b):=λaA h r e ev H Q E v X hr=>
  df Sa v X e hr.aR λx h1 e1 x' H1 rx X1=>df Sb v X1 e1 hr.aR λy h2 e2 y' H2 ry X2=>P7 (P:=λr=>VR g r Q E->oB (dc op H2 x' y') λb=>Q (.bool b) H2) e2 (λz ez hr=>oB.i (qR K X2 rx ry ez) (hr _ _ (.bool z) X2)) hr
theorem Vt{a:ME}{Fa:FE}(Sa:eY g hd C (Fa AC hd) a):eY g hd C (Xp Fa AC hd) (.neg a):=λaA h r e ev H Q E v X hr=>
  df Sa v X e hr.aR λx h1 e1 x' H1 rx X1=>dY (P:=λx'=>(match x' with| .int i=>Q (.int (-i)) H1|_=>False)) nn rx e1 λa k e1=>cA nn e1 λz e1=>by
   injection e1 with I1;subst I1
   rw[nb z,K.a0,zero_add];exact hr _ _ (.i0 K _) X1
theorem Vr{t a b:ME}{Ft:FB}{Fa Fb:FE}(St:GW g hd C (Ft AC hd) t)(Sa:eY g hd C (Fa AC hd) a)(Sb:eY g hd C (Fb AC hd) b):eY g hd C (Xn Ft Fa Fb AC hd) (.ite t a b):=λaA h r e ev H Q E v X hr=>
  xF St v X e hr.aR λc h1 e1 H1 X1=>match c,e1 with
  |true,e1=>Sa aA h1 r e1 ev H1 Q E v X1 hr
  |false,e1=>Sb aA h1 r e1 ev H1 Q E v X1 hr
theorem Vm{op:Op}{a b:ME}{Fa Fb:FE}(Sa:eY g hd C (Fa AC hd) a)(Sb:eY g hd C (Fb AC hd) b):eY g hd C (Xg op Fa Fb AC hd) (.aZ op a b):=λaA h r e ev H Q E v X hr=>
  df Sa v X e hr.aR λx h1 e1 x' H1 rx X1=>df Sb v X1 e1 hr.aR λy h2 e2 y' H2 ry X2=>sZ (P:=λr=>VR g r Q E->mv op H2 x' y' Q) e2 (λz ez hr=>Me K rx ry ez λv' rv=>hr _ _ rv X2) hr
theorem TF(s:SV g o v)(X:HA g h H)(hr:VR g (.ok v h) Q E):oV o (Q · H):=let⟨_,ew,OK⟩:=s;oV.i ew (hr _ _ OK X)
theorem Rp{o:ME}{k:Nat}{Fa:FE}(Sa:eY g hd C (Fa AC hd) o):eY g hd C (Ql Fa k AC hd) (.cn o k):=λaA h r e ev H Q E v X hr=>
  df Sa v X e hr.aR λx h1 e1 x' H1 rx X1=>sZ (P:=λr=>VR g r Q E->oV (cQ H1 x' k) (Q · H1)) e1 (λz ez hr=>TF K (xX X1 rx ez) X1 hr) hr
theorem Vp{o i:ME}{Fa Fb:FE}(Sa:eY g hd C (Fa AC hd) o)(Sb:eY g hd C (Fb AC hd) i):eY g hd C (Xl Fa Fb AC hd) (.bG o i):=λaA h r e ev H Q E v X hr=>
  df Sa v X e hr.aR λx h1 e1 x' H1 rx X1=>df Sb v X1 e1 hr.aR λy h2 e2 y' H2 ry X2=>sZ (P:=λr=>VR g r Q E->oV (cL H2 x' y') (Q · H2)) e2 (λz ez hr=>TF K (Ml K X2 rx ry ez) X2 hr) hr
theorem MR{o:ME}{lo hi:Option ME}{Fa:FE}{Fl Fh:FO}(Sa:eY g hd C (Fa AC hd) o)(Sl:Yg g hd C (Fl AC hd) lo)(Sh:Yg g hd C (Fh AC hd) hi):eY g hd C (KG Fa Fl Fh AC hd) (.slice o lo hi):=λaA h r e ev H Q E v X hr=>
  df Sa v X e hr.aR λx h1 e1 x' H1 rx X1=>JL Sl v X1 e1 hr.aR λa h2 e2 a' H2 ra X2=>JL Sh v X2 e2 hr.aR λb h3 e3 b' H3 rb X3=>sZ (P:=λr=>VR g r Q E->cX H3 x' a' b' Q) e3 (λz ez hr=>Ey K rx ra rb ez λv' rv=>hr _ _ rv X3) hr
theorem Zh{k:B1}{a:ME}{Fa:FE}(Sa:eY g hd C (Fa AC hd) a):eY g hd C (sB1 k Fa AC hd) (.b1 k a):=λaA h r e ev H Q E v X hr=>
  df Sa v X e hr.aR λx h1 e1 x' H1 rx X1=>sZ (P:=λr=>VR g r Q E->oV (m9 k H1 x') (Q · H1)) e1 (λz ez hr=>TF K (QX K X1 rx ez) X1 hr) hr
theorem HR{a:ME}{k:Uc}{Fa:FE}(Sa:eY g hd C (Fa AC hd) a):eY g hd C (Xm Fa k AC hd) (.cR a k):=λaA h r e ev H Q E v X hr=>
  df Sa v X e hr.aR λx h1 e1 x' H1 rx X1=>P7 (P:=λr=>VR g r Q E->oB (qK k x') λb=>Q (.bool b) H1) e1 (λz ez hr=>oB.i (Mo rx ez) (hr _ _ (.bool z) X1)) hr
include SC
theorem Rq{f:ME}{as:List ME}{Fa:FE}{Fs:FL}(Sa:eY g hd C (Fa AC hd) f)(Ss:LP g hd C (Fs AC hd) as):eY g hd C (Qn Fa Fs AC hd) (.call f as):=λaA h r e ev H Q E v X hr=>
  df Sa v X e hr.aR λfv h1 e1 LV H1 rf X1=>gN Ss v X1 e1 hr.aR λvs h2 e2 jo H2 rv X2=>Om (P:=λLV=>(match LV with
   | .dg a=>C a jo (hd.map g.bK) H2 Q E
   |_=>False)) nn rf e2 λa e2=>SC _ _ _ _ _ e2 _ _ _ _ rv X2 hr
def Jz(C:Calls)(hd:Option Nat)(H1:MH)(k:Nat)(D:(List MV->MH->Prop)->Prop)(Q:PQ)(E:PE)(ov:MV):Prop:=match ov with
   | .ref r=>(match H1[r]? with
    |some (.aK c aP)=>(match bW aP k,aB c k with
     | .none,some f=>D λvs H2=>C f (.ref r::vs) hd H2 Q E
     |_,_=>False)
    |_=>False)
   |_=>False
omit K SC in
theorem Jz.i{D:(List MV->MH->Prop)->Prop}(e:H1[r]? =some (.aK c a))(ek:bW a k= .none)(ef:aB c k=some f)(q:D λvs H2=>C f (.ref r::vs) hd H2 Q E):Jz C hd H1 k D Q E (.ref r):=by
 unfold Jz;dsimp only;rw[e];dsimp only;refine ek▸ef▸?_;exact q
omit K SC in
theorem Nt(r:mY g a b)(e:(wF a k).isNone=true):bW b k= .none:=by
 have z:=yC r k;rwa[isNone_iff_eq_none.mp e]at z
theorem Rr{o:ME}{k:Nat}{as:List ME}{Fa:FE}{Fs:FL}(Sa:eY g hd C (Fa AC hd) o)(Ss:LP g hd C (Fs AC hd) as):eY g hd C (Qp Fa k Fs AC hd) (.cj o k as):=λaA h r e ev H Q E v X hr=>
  df Sa v X e hr.aR λov h1 e1 GL H1 ro X1=>gO (P:=Jz C (hd.map g.bK) H1 k (λQ'=>cJ aB C (hd.map g.bK) as ev H1 Q' E) Q E) nn ro e1 λj e1=>aU nn e1 λob ej e1=>X1.oe ej λo' eo rr=>
   zB (P:=λob=>OA g j ob o'->_) nn e1 (λc a e1 rr=>rr.ie (P:=λo'=>H1[g.bK j]? =some o'->_) (λb rr eo=>cA nn e1 λz e1=>aU nn e1 λf ef e1=>Jz.i eo (Nt rr z) ef (gN Ss v X1 e1 hr.aR λvs h2 e2 jo H2 rv X2=>SC _ _ _ _ _ e2 _ _ _ _ (.cons (.ref j) rv) X2 hr)) eo) rr
theorem ML{k:BM}{o:ME}{as:List ME}{Fa:FE}{Fs:FL}(Sa:eY g hd C (Fa AC hd) o)(Ss:LP g hd C (Fs AC hd) as):eY g hd C (sBm k Fa Fs AC hd) (.bP k o as):=λaA h r e ev H Q E v X hr=>
  df Sa v X e hr.aR λov h1 e1 GL H1 ro X1=>cA nn e1 λq e1=>And.intro (G7 X1 ro q) (gN Ss v X1 e1 hr.aR λvs h2 e2 jo H2 rv X2=>W4 (P:=λr=>VR g r Q E->iW k H2 GL jo Q) e2 (λz hz ez hr=>QY K X2 ro rv ez λv' H' rv' X'=>hr _ _ rv' X') hr)
theorem MM{c k:Nat}{as:List ME}{Fs:FL}(Ss:LP g hd C (Fs AC hd) as):eY g hd C (sCm c k Fs AC hd) (.fV c k as):=λaA h r e ev H Q E v X hr=>
  aU nn e λf ef e=>by
   show(match aB c k with|some f=>_| .none=>False);refine ef▸?_;exact gN Ss v X e hr.aR λvs h2 e2 jo H2 rv X2=>SC _ _ _ _ _ e2 _ _ _ _ rv X2 hr
def wm(Q:PQ)(H1:MH)(vs:List MV):Prop:=match vs with
   | [.ref r,_]=>(match H1[r]? with
    |some (.aR _ _ _)=>Q .none H1
    |_=>False)
   |_=>False
omit K SC in
theorem wm.i(e:H1[r]? =some (.aR c a x))(q:Q .none H1):wm Q H1 [.ref r,w]:=by
 unfold wm;dsimp only;refine e▸?_;exact q
theorem EK{as:List ME}{Fs:FL}(Ss:LP g hd C (Fs AC hd) as):eY g hd C (Xk Fs AC hd) (.dJ as):=λaA h r e ev H Q E v X hr=>
  gN Ss v X e hr.aR λvs h1 e1 ws H1 rv X1=>kH (P:=λvs=>dP g vs ws->wm Q H1 ws) nn e1 (λa l e1 rv=>rv.ce (P:=wm Q H1) λw fs ra rl=>zw (P:=λfs=>wm Q H1 (w::fs)) nn rl e1 λu_ z u_ e1=>gO (P:=λw=>wm Q H1 [w,z]) nn ra e1 λi e1=>aU nn e1 λob ei e1=>X1.oe ei λo' eo ro=>
   xd (P:=λo'=>H1[g.bK i]? =some o'->wm Q H1 [.ref (g.bK i),z]) nn ro e1 (λc a x b u_ e1 eo=>wm.i eo (hr.c e1 _ _ .none X1)) eo) rv
mutual
theorem bR:∀m:ME,eY g hd C ((cE m).e AC hd) m/\GW g hd C ((cE m).t AC hd) m
 | .c v=>fp rfl (c_c K v)
 | .l i=>fp rfl (c_l K i)
 | .g a=>fp rfl (c_g K a)
 | .aF es=>fp rfl (Vu K (jt es))
 | .fP es=>fp rfl (Vs K (jt es))
 | .qc ks es=>fp rfl (Vo K (jt es))
 | .aV op a b=>⟨Vn K (bR a).1 (bR b).1,M1 K (bR a).1 (bR b).1⟩
 | .ju o1 o2 a b d=>⟨oJ,HX K (bR a).1 (bR b).1 (bR d).1⟩
 | .and es=>⟨oJ,λaA h r e ev H Q E v X hr=>CF es aA h r e ev H Q E v X hr⟩
 | .or es=>⟨oJ,λaA h r e ev H Q E v X hr=>HQ es aA h r e ev H Q E v X hr⟩
 | .not a=>⟨oJ,λaA h r e ev H Q E v X hr=>xF (bR a).2 v X (f:=λb h1=>some (.ok (!b) h1)) e hr.aR λc h1 e1 H1 X1=>by
   injection e1 with I1;subst I1
   exact hr _ _ rfl X1⟩
 | .neg a=>fp rfl (Vt K (bR a).1)
 | .ite t a b=>fp rfl (Vr K (bR t).2 (bR a).1 (bR b).1)
 | .aZ op a b=>fp rfl (Vm K (bR a).1 (bR b).1)
 | .cn o k=>fp rfl (Rp K (bR o).1)
 | .bG o i=>fp rfl (Vp K (bR o).1 (bR i).1)
 | .slice o lo hi=>fp rfl (MR K (bR o).1 (PA lo) (PA hi))
 | .b1 k a=>fp rfl (Zh K (bR a).1)
 | .cR a k=>fp rfl (HR K (bR a).1)
 | .call f as=>fp rfl (Rq K SC (bR f).1 (jt as))
 | .cj o k as=>fp rfl (Rr K SC (bR o).1 (jt as))
 | .bP k o as=>fp rfl (ML K SC (bR o).1 (jt as))
 | .fV c k as=>fp rfl (MM K SC (jt as))
 | .dJ as=>fp rfl (EK K SC (jt as))
 | .comp _ _ _=>⟨oJ,CB⟩
 | .ia=>⟨oJ,CB⟩
theorem PA:∀m:Option ME,Yg g hd C (cO m AC hd) m
 | .none=>λaA h r e ev H Q E v X hr=>hr.c e _ _ .none X
 |some a=>λaA h r e ev H Q E v X hr=>df (bR a).1 v X (f:=λv h1=>some (.ok (some v) h1)) e hr.aR λx h1 e1 x' H1 rx X1=>hr.c e1 _ _ (.some rx) X1
theorem jt:∀m:List ME,LP g hd C (HP m AC hd) m
 | []=>λaA h r e ev H Q E v X hr=>hr.c e _ _ .nil X
 |a::l=>λaA h r e ev H Q E v X hr=>
  df (bR a).1 v X (f:=λv h1=>bY (HP l AC hd aA h1) λvs h2=>some (.ok (v::vs) h2)) e hr.aR λx h1 e1 x' H1 rx X1=>gN (jt l) v X1 e1 hr.aR λvs h2 e2 ws H2 rv X2=>hr.c e2 _ _ (.cons rx rv) X2
theorem CF:∀m:List ME,YX g hd C (MJ m AC hd) m
 | []=>λaA h r e ev H Q E v X hr=>hr.c e _ _ rfl X
 |a::l=>λaA h r e ev H Q E v X hr=>by
  refine xF (bR a).2 v X (f:=λb h1=>match b with|true=>MJ l AC hd aA h1|false=>some (.ok false h1)) e hr.aR λc h1 e1 H1 X1=>?_;cases c with
  |true=>exact CF l aA h1 r e1 ev H1 Q E v X1 hr
  |false=>exact hr.c e1 _ _ rfl X1
theorem HQ:∀m:List ME,YY g hd C (Yj m AC hd) m
 | []=>λaA h r e ev H Q E v X hr=>hr.c e _ _ rfl X
 |a::l=>λaA h r e ev H Q E v X hr=>by
  refine xF (bR a).2 v X (f:=λb h1=>match b with|true=>some (.ok true h1)|false=>Yj l AC hd aA h1) e hr.aR λc h1 e1 H1 X1=>?_;cases c with
  |true=>exact hr.c e1 _ _ rfl X1
  |false=>exact HQ l aA h1 r e1 ev H1 Q E v X1 hr
end
end
end
inductive Ph(g:G):Ao->Fl->Prop
 |next:Ph g .next .next
 |brk:Ph g .brk .brk
 |cont:Ph g .cont .cont
 |ret {v w}:VA g v w->Ph g (.ret v) (.ret w)
def El(g:G)(r:bH)(E:SE):Prop:=match r with
 | .ok _ _ _=>True
 | .aR e aA h1=>∀ev H',VE g aA ev->HA g h1 H'->E (g.bK e) ev H'
def lJ(g:G)(r:bH)(Q:SQ)(E:SE):Prop:=match r with
 | .ok fl aA h1=>∀qo ev H',Ph g fl qo->VE g aA ev->HA g h1 H'->Q qo ev H'
 | .aR e aA h1=>∀ev H',VE g aA ev->HA g h1 H'->E (g.bK e) ev H'
theorem lJ.c(h:lJ g r Q E)(e:some r'=some r):lJ g r' Q E:=inj e▸h
theorem lJ.aR{g:G}{r:bH}{Q:SQ}{E:SE}(x:lJ g r Q E):El g r E:=by cases r<;>first|trivial|exact x
section
variable (g:G) (C:Calls)
def Ek(F:Option Nat->bx->AH->Option bH)(m:MS):Prop:=∀hd aA h r,F hd aA h=some r->∀ev H Q E,VE g aA ev->HA g h H->lJ g r Q E->ws aB C (hd.map g.bK) m ev H Q E
def m7(F:Option Nat->bx->AH->Option bH)(m:List MS):Prop:=∀hd aA h r,F hd aA h=some r->∀ev H Q E,VE g aA ev->HA g h H->lJ g r Q E->cv aB C (hd.map g.bK) m ev H Q E
end
section
variable {g:G} {hd:Option Nat} {C:Calls}
theorem D2{α:Type}{o:Option (dT α)}{aA:bx}{f:α->AH->Option bH}{r:bH}{P:bH->Prop}(e:ed o aA f=some r)(k1:∀v h1,o=some (.ok v h1)->f v h1=some r->P r)(k2:∀x h1,o=some (.aR x h1)->P (.aR x aA h1)):P r:=by
 unfold ed at e;cases o with
 |none=>exact(by injection e)
 |some o=>
  cases o with
  |ok v h1=>exact k1 v h1 rfl e
  |aR x h1=>exact inj e▸k2 x h1 rfl
theorem d5{F:bx->AH->Option (dT AV)}{m:ME}(S:eY g hd C F m){aA gM:bx}{h:AH}{f:AV->AH->Option bH}{r:bH}{ev PJ:Env}{H:MH}{Q:PQ}{E:SE}(v:VE g aA ev)(v':VE g gM PJ)(X:HA g h H)(e:ed (F aA h) gM f=some r)(hx:El g r E)
  (k:∀v h1,f v h1=some r->∀v' H',VA g v v'->HA g h1 H'->Q v' H'):(den aB C (hd.map g.bK) m).val ev H Q (λx H1=>E x PJ H1):=
 D2 (P:=λr=>El g r E->(∀v h1,f v h1=some r->∀v' H',VA g v v'->HA g h1 H'->Q v' H')->(den aB C (hd.map g.bK) m).val ev H Q (λx H1=>E x PJ H1)) e (λa h1 e1 e2 u_ k=>S aA h _ e1 ev H Q _ v X (k a h1 e2)) (λx h1 e1 hx u_=>S aA h _ e1 ev H Q _ v X λH' X'=>hx PJ H' v' X') hx k
theorem D5{F:bx->AH->Option (dT Bool)}{m:ME}(S:GW g hd C F m){aA:bx}{h:AH}{f:Bool->AH->Option bH}{r:bH}{ev:Env}{H:MH}{Q:Bool->MH->Prop}{E:SE}(v:VE g aA ev)(X:HA g h H)(e:ed (F aA h) aA f=some r)(hx:El g r E)
  (k:∀v h1,f v h1=some r->∀H',HA g h1 H'->Q v H'):(den aB C (hd.map g.bK) m).eM ev H Q (λx H1=>E x ev H1):=
 D2 (P:=λr=>El g r E->(∀v h1,f v h1=some r->∀H',HA g h1 H'->Q v H')->(den aB C (hd.map g.bK) m).eM ev H Q (λx H1=>E x ev H1)) e (λa h1 e1 e2 u_ k=>S aA h _ e1 ev H Q _ v X λv' H' rv X'=>rv▸k a h1 e2 H' X') (λx h1 e1 hx u_=>S aA h _ e1 ev H Q _ v X λH' X'=>hx ev H' v X') hx k
theorem w8{aA:bx}{o:Option AH}{r:bH}{P:bH->Prop}(e:vj aA o=some r)(k:∀h,o=some h->P (.ok .next aA h)):P r:=aU nn e λh eh e=>inj e▸k h eh
theorem N1{o:Option bx}{h:AH}{r:bH}{P:bH->Prop}(e:P4 o h=some r)(k:∀aA,o=some aA->P (.ok .next aA h)):P r:=aU nn e λh eh e=>inj e▸k h eh
theorem mw{β:Type}{r:Option bH}{f:Ao->bx->AH->Option β}{k:Nat->bx->AH->Option β}{b:β}{P:Prop}(e:eB r f k=some b)(k1:∀fl aA h,r=some (.ok fl aA h)->f fl aA h=some b->P)(k2:∀x aA h,r=some (.aR x aA h)->k x aA h=some b->P):P:=by
 cases r with
 |none=>exact(by injection e)
 |some r=>
  cases r with
  |ok fl aA h=>exact k1 fl aA h rfl e
  |aR x aA h=>exact k2 x aA h rfl e
theorem Ph.ne{fl:Fl}{P:Fl->Prop}(r:Ph g .next fl)(k:P .next):P fl:=by cases r;exact k
def UT(I:Env->MH->Prop)(Q:SQ):SQ:=λfl aI H2=>match fl with
   | .next=>I aI H2
   | .cont=>I aI H2
   | .brk=>Q .next aI H2
   | .ret w=>Q (.ret w) aI H2
theorem Dr{r1:Option bH}{f:bx->AH->Option bH}{r:bH}{Q:SQ}{E:SE}{I:Env->MH->Prop}(e:Ed r1 f=some r)(hr:lJ g r Q E)(again:∀aI h2,f aI h2=some r->∀ev H',VE g aI ev->HA g h2 H'->I ev H'):∃r0,r1=some r0/\lJ g r0 (UT I Q) E:=
 mw e (λfl aI h2 e1 e=>⟨_,e1,λqo ev H' rf v X=>by
  cases rf with
  |next=>exact again _ _ e _ _ v X
  |cont=>exact again _ _ e _ _ v X
  |brk=>exact hr.c e _ _ _ .next v X
  |ret rv=>exact hr.c e _ _ _ (.ret rv) v X⟩) λx aI h2 e1 e=>⟨_,e1,hr.c e⟩
theorem Ju{α:Type}:∀{l:List (Nat×α)} {n:Nat} {v:α},jW l n=some v->(n,v)∈l
 | [],_,_,h=>by injection h
 |(k,w)::r,n,v,h=>by
  dsimp only[jW]at h;split at h
  ·rename_i q
   injection h with I1;subst I1
   refine(au q)▸?_;exact .head _
  ·exact .tail _ (Ju h)
section
variable {AC:cx}
theorem zg(St:∀hd,GW g hd C (Ft AC hd) t)(Sb:m7 g C (Fb AC) b):∀n,Ek g C (λhd=>Dq Ft Fb AC hd n) (.while t b)
 |0=>λhd aA h r e=>(by injection e)
 |n+1=>λhd aA h r e ev H Q E v X hr I hI=>hI ev H (D5 (St hd) v X (f:=λc h1=>match c with|true=>Ed (Fb AC hd aA h1) (Dq Ft Fb AC hd n)|false=>some (.ok .next aA h1)) e hr.aR λc h1 e1 H1 X1=>by
  cases c with
  |true=>
   rw[ah rfl];obtain⟨r0,e0,hr0⟩:=Dr (I:=I) e1 hr λaI h2 e2 wi H2 v2 X2=>zg St Sb n hd aI h2 r e2 wi H2 Q E v2 X2 hr I hI;exact Sb hd aA h1 r0 e0 ev H1 _ E v X1 hr0
  |false=>
   rw[ag (by decide)];injection e1 with I1;subst I1
   exact hr _ _ _ .next v X1)
theorem zf(Sb:m7 g C (Fb AC) b)(hr:lJ g r Q E):∀(vs:List AV) {aA h},Jv x Fb AC vs aA h=some r->∀{ws ev H},dP g vs ws->VE g aA ev->HA g h H->
  fC (λv aG H2 Q2 E2=>bJ x v aG λaI=>cv aB C .none b aI H2 Q2 E2) (λu_=>True) ws ev H Q E
 | [],aA,h,e,ws,ev,H,rv,v,X=>rv.kn.p (u:=[]) (P:=λws=>fC _ _ ws ev H Q E) (by injection e with I1;subst I1;exact⟨trivial,hr _ _ _ .next v X⟩)
 |a::vs,aA,h,e,ws,ev,H,rv,v,X=>rv.ce (P:=λws=>fC _ _ ws ev H Q E) λw ws ra rv=>aU nn e λaG e1 e=>⟨trivial,uz ra v e1 λdA v1=>
   let⟨r0,e0,hr0⟩:=Dr (I:=λwi H2=>fC _ _ _ wi H2 Q E) e hr λaI h2 e2 wi H2 v2 X2=>zf Sb hr vs e2 rv v2 X2
   Sb .none aG h r0 e0 dA H _ E v1 X hr0⟩
variable (K:fL g)
include K
theorem TL(Sa:∀hd,eY g hd C (Fa AC hd) a):Ek g C (Qt xs Fa AC) (.dE xs a):=λhd aA h r e ev H Q E v X hr=>
 d5 (Sa hd) v v X (f:=LK hd xs aA) e hr.aR λx h1 e1 x' H1 rx X1=>cA nn e1 λq e1=>⟨Hd X1 q,N1 (P:=λr=>lJ g r Q E->bJ (.eS xs) x' ev λaG=>Q .next aG H1) e1 (λaG e2 hr=>uz rx v e2 λdA v1=>hr _ _ _ .next v1 X1) hr⟩
theorem TJ(Sa:∀hd,eY g hd C (Fa AC hd) a)(So:∀hd,eY g hd C (Fo AC hd) o):Ek g C (Qr Fo k Fa AC) (.c3 o k a):=λhd aA h r e ev H Q E v X hr=>
 d5 (Sa hd) v v X (f:=λv h1=>ed (Fo AC hd aA h1) aA λov h2=>vj aA (Cw h2 ov k v)) e hr.aR λx h1 e1 x' H1 rx X1=>d5 (So hd) v v X1 e1 hr.aR λy h2 e2 y' H2 ry X2=>
  w8 (P:=λr=>lJ g r Q E->eG H2 y' k x' λH3=>Q .next ev H3) e2 (λh3 e3 hr=>xZ K X2 ry rx e3 λH3 X3=>hr _ _ _ .next v X3) hr
theorem TK(Sa:∀hd,eY g hd C (Fa AC hd) a)(So:∀hd,eY g hd C (Fo AC hd) o)(Si:∀hd,eY g hd C (Fi AC hd) i):Ek g C (Qs Fo Fi Fa AC) (.mq o i a):=λhd aA h r e ev H Q E v X hr=>
 d5 (Sa hd) v v X (f:=λv h1=>ed (Fo AC hd aA h1) aA λov h2=>ed (Fi AC hd aA h2) aA λiv h3=>vj aA (Hn h3 ov iv v)) e hr.aR λx h1 e1 x' H1 rx X1=>d5 (So hd) v v X1 e1 hr.aR λy h2 e2 y' H2 ry X2=>d5 (Si hd) v v X2 e2 hr.aR λz h3 e3 z' H3 rz X3=>
  w8 (P:=λr=>lJ g r Q E->jX H3 y' z' x' λH4=>Q .next ev H4) e3 (λh4 e4 hr=>Ho K X3 ry rz rx e4 λH4 X4=>hr _ _ _ .next v X4) hr
theorem XE(Sa:∀hd,eY g hd C (Fa AC hd) a):Ek g C (Xx x op Fa AC) (.mZ x op a):=λhd aA h r e ev H Q E v X hr=>aU nn e λu eu e=>
 let⟨w,ew,OK⟩:=C0 v eu
 oV.i (P:=λa'=>(den aB C (hd.map g.bK) a).val ev H (λb H1=>qD op H1 a' b λr H2=>Q .next (bN ev x (some r)) H2) (λx H1=>E x ev H1)) ew (d5 (Sa hd) v v X e hr.aR λb h1 e1 b' H1 rb X1=>aU nn e1 λz ez e1=>Ct K OK rb ez λv' rv=>hr.c e1 _ _ _ .next (iF v (.some rv) x) X1)
theorem TM(Sa:∀hd,eY g hd C (Fa AC hd) a)(So:∀hd,eY g hd C (Fo AC hd) o):Ek g C (Qu Fo k op Fa AC) (.mr o k op a):=λhd aA h r e ev H Q E v X hr=>
 d5 (So hd) v v X (f:=λov h1=>LL k op Fa AC hd aA ov (Cs h1 ov k) h1) e hr.aR λov h1 e1 GL H1 ro X1=>aU nn e1 λu eu e1=>
  let⟨w,ew,OK⟩:=xX X1 ro eu
  oV.i (P:=λa'=>(den aB C (hd.map g.bK) a).val ev H1 (λb H2=>qD op H2 a' b λr H3=>eG H3 GL k r λH4=>Q .next ev H4) (λx H2=>E x ev H2)) ew (d5 (Sa hd) v v X1 e1 hr.aR λb h2 e2 b' H2 rb X2=>aU nn e2 λz ez e2=>Ct K OK rb ez λv' rv=>
   w8 (P:=λr=>lJ g r Q E->eG H2 GL k v' λH3=>Q .next ev H3) e2 (λh3 e3 hr=>xZ K X2 ro rv e3 λH3 X3=>hr _ _ _ .next v X3) hr)
theorem XG(St:∀hd,GW g hd C (Ft AC hd) t)(Sa:m7 g C (Fa AC) a)(Sb:m7 g C (Fb AC) b):Ek g C (XC Ft Fa Fb AC) (.ifs t a b):=λhd aA h r e ev H Q E v X hr=>
 D5 (St hd) v X (f:=λc h1=>match c with|true=>Fa AC hd aA h1|false=>Fb AC hd aA h1) e hr.aR λc h1 e1 H1 X1=>match c,e1 with
  |true,e1=>Sa hd aA h1 r e1 ev H1 Q E v X1 hr
  |false,e1=>Sb hd aA h1 r e1 ev H1 Q E v X1 hr
theorem XF(Sa:∀hd,eY g hd C (Fa AC hd) a)(Sb:m7 g C (Fb AC) b):Ek g C (XB x Fa Fb AC) (.for x (.val a) b)
 | .none,aA,h,r,e,ev,H,Q,E,v,X,hr=>⟨rfl,d5 (hd:=.none) (Sa .none) v v X (f:=QI x Fb AC aA) e hr.aR λw h1 e1 w' H1 OK X1=>xi (P:=λw'=>(match nS H1 w' with
   |some vs=>fC (λv aG H2 Q2 E2=>bJ x v aG λaI=>cv aB C .none b aI H2 Q2 E2) (eK w' H1) vs ev H1 Q E
   | .none=>False)) nn OK e1 λvs ws rv e1=>zf Sb hr vs e1 rv v X1⟩
 |some _,aA,h,r,e,ev,H,Q,E,v,X,hr=>(by injection e)
theorem O3(Sa:∀hd,eY g hd C (Fa AC hd) a):Ek g C (Ls Fa AC) (.cW a):=λhd aA h r e ev H Q E v X hr=>
 d5 (Sa hd) v v X (f:=λv h1=>Ee aA (Ay hd h1 v)) e hr.aR λx h1 e1 x' H1 rx X1=>aU nn e1 λp e2 e1=>by
  injection e1 with I1;subst I1
  exact Ew K X1 rx e2 λH' X'=>hr ev H' v X'
def V7(C:Calls)(x:Option Nat)(f:List MS)(e:Nat)(dA:Env)(H1:MH)(Q:SQ)(E:SE):Prop:=match x with
   | .none=>cv aB C (some e) f dA H1 Q E
   |some x=>cv aB C (some e) f (bN dA x (some (.ref e))) H1 (λfl aI H2=>Q fl (bN aI x .none) H2) (λe2 aI H2=>E e2 (bN aI x .none) H2)
theorem TO{x:Option Nat}{f:List MS}{Ff:FS}(Sf:m7 g C (Ff AC) f){ei:Nat}{aG:bx}{h1:AH}{r:bH}{dA:Env}{H1:MH}{Q:SQ}{E:SE}(v1:VE g aG dA)(X1:HA g h1 H1)(hr:lJ g r Q E)(e:QJ x Ff AC ei aG h1=some r):V7 C x f (g.bK ei) dA H1 Q E:=by
 cases x with
 |none=>exact Sf (some ei) aG h1 r e dA H1 Q E v1 X1 hr
 |some i=>
  refine mw e (λfl aI h2 e2 e=>?_) λy aI h2 e2 e=>?_
  ·injection e with I1;subst I1
   exact Sf (some ei) _ h1 _ e2 _ H1 _ _ (iF v1 (.some (.ref ei)) _) X1 λqo wi H2 rf v2 X2=>hr _ _ _ rf (iF v2 .none _) X2
  ·injection e with I1;subst I1
   exact Sf (some ei) _ h1 _ e2 _ H1 _ _ (iF v1 (.some (.ref ei)) _) X1 λwi H2 v2 X2=>hr _ _ (iF v2 .none _) X2
theorem TS{b f:List MS}{x:Option Nat}{Fb Ff:FS}(Sb:m7 g C (Fb AC) b)(Sf:m7 g C (Ff AC) f):Ek g C (Qx Fb x Ff AC) (.jl b x f):=λhd aA h r e ev H Q E v X hr=>
 mw e (λfl aG h1 e1 e=>Sb hd aA h _ e1 ev H Q _ v X (hr.c e)) λei aG h1 e1 e=>Sb hd aA h _ e1 ev H Q _ v X λdA H1 v1 X1=>TO K Sf v1 X1 hr e
def RS(k:Env->MH->Prop):SQ:=λf2 aI H2=>match f2 with| .next=>k aI H2|_=>False
theorem Qz{f:List MS}{Ff:FS}(Sf:m7 g C (Ff AC) f){hd:Option Nat}{aG:bx}{h1:AH}{r:bH}{dA:Env}{H1:MH}{k:bx->AH->bH}{Kk:Env->MH->Prop}{E:SE}(v1:VE g aG dA)(X1:HA g h1 H1)(e:T6 (Ff AC hd aG h1) k=some r)(hx:El g r E)(hk:∀aI h2,k aI h2=r->∀wi H2,VE g aI wi->HA g h2 H2->Kk wi H2):cv aB C (hd.map g.bK) f dA H1 (RS Kk) E:=
 mw e (λfl aI h2 e2 e=>Sf hd aG h1 _ e2 dA H1 _ _ v1 X1 λYr wi H2 r2 v2 X2=>DG (P:=λfl=>Ph g fl Yr->RS Kk Yr wi H2) nn e (λe r2=>r2.ne (P:=λYr=>RS Kk Yr wi H2) (hk _ _ (inj e) _ _ v2 X2)) r2) λy aI h2 e2 e=>by
  injection e with I1;subst I1;exact Sf hd aG h1 _ e2 dA H1 _ _ v1 X1 hx
theorem TU{b f:List MS}{Fb Ff:FS}(Sb:m7 g C (Fb AC) b)(Sf:m7 g C (Ff AC) f):Ek g C (Qy Fb Ff AC) (.qP b f):=λhd aA h r e ev H Q E v X hr=>
 mw e (λfl aG h1 e1 e=>Sb hd aA h _ e1 ev H _ _ v X λqo dA H1 rf v1 X1=>Qz K Sf v1 X1 e hr.aR λaI h2 er wi H2 v2 X2=>by subst er;exact hr _ _ _ rf v2 X2)
  λei aG h1 e1 e=>Sb hd aA h _ e1 ev H _ _ v X λdA H1 v1 X1=>Qz K (hd:=some ei) Sf v1 X1 e hr.aR λaI h2 er wi H2 v2 X2=>by subst er;exact hr _ _ v2 X2
theorem TN{a:MS}{l:List MS}{Fa Fl:FS}(Sa:Ek g C (Fa AC) a)(Sl:m7 g C (Fl AC) l):m7 g C (Qv Fa Fl AC) (a::l):=λhd aA h r e ev H Q E v X hr=>
 mw e (λfl aG h1 e1 e=>Sa hd aA h _ e1 ev H _ _ v X λqo dA H1 rf v1 X1=>by
  cases rf with
  |next=>exact Sl hd aG h1 r e dA H1 Q E v1 X1 hr
  |brk=>exact hr.c e _ _ _ .brk v1 X1
  |cont=>exact hr.c e _ _ _ .cont v1 X1
  |ret rv=>exact hr.c e _ _ _ (.ret rv) v1 X1) λy aG h1 e1 e=>Sa hd aA h _ e1 ev H _ _ v X (hr.c e)
variable (SC:QL g AC C)
include SC
mutual
theorem Vl:∀m:MS,Ek g C (cS m AC) m
 | .expr a=>λhd aA h r e ev H Q E v X hr=>d5 (bR K SC a).1 v v X (f:=λu_ h1=>some (.ok .next aA h1)) e hr.aR λx h1 e1 x' H1 rx X1=>hr.c e1 _ _ _ .next v X1
 | .bL i a=>λhd aA h r e ev H Q E v X hr=>d5 (bR K SC a).1 v v X (f:=λv h1=>some (.ok .next (uu aA i (some v)) h1)) e hr.aR λx h1 e1 x' H1 rx X1=>hr.c e1 _ _ _ .next (iF v (.some rx) i) X1
 | .dE xs a=>TL K λu_=>(bR K SC a).1
 | .c3 o k a=>TJ K (λu_=>(bR K SC a).1) λu_=>(bR K SC o).1
 | .mq o i a=>TK K (λu_=>(bR K SC a).1) (λu_=>(bR K SC o).1) λu_=>(bR K SC i).1
 | .mZ x op a=>XE K λu_=>(bR K SC a).1
 | .mr o k op a=>TM K (λu_=>(bR K SC a).1) λu_=>(bR K SC o).1
 | .ifs t a b=>XG K (λu_=>(bR K SC t).2) (gw a) (gw b)
 | .while t b=>zg (λhd=>(bR K SC t).2) (gw b) 60
 | .for x (.range _) b=>λhd aA h r e=>(by injection e)
 | .for x (.val a) b=>XF K (λu_=>(bR K SC a).1) (gw b)
 | .ret a=>λhd aA h r e ev H Q E v X hr=>d5 (bR K SC a).1 v v X (f:=λv h1=>some (.ok (.ret v) aA h1)) e hr.aR λx h1 e1 x' H1 rx X1=>hr.c e1 _ _ _ (.ret rx) v X1
 | .uo=>λhd aA h r e ev H Q E v X hr=>hr.c e _ _ _ (.ret .none) v X
 | .cW a=>O3 K λu_=>(bR K SC a).1
 | .jl b x f=>TS K (gw b) (gw f)
 | .qP b f=>TU K (gw b) (gw f)
 | .brk=>λhd aA h r e ev H Q E v X hr=>hr.c e _ _ _ .brk v X
 | .cont=>λhd aA h r e ev H Q E v X hr=>hr.c e _ _ _ .cont v X
 | .um=>λhd aA h r e ev H Q E v X hr=>hr.c e _ _ _ .next v X
 | .ia=>λhd aA h r e=>(by injection e)
theorem gw:∀m:List MS,m7 g C (An m AC) m
 | []=>λhd aA h r e ev H Q E v X hr=>hr.c e _ _ _ .next v X
 |st::l=>TN K (Vl st) (gw l)
end
theorem VX{bd:List MS}{hd:Option Nat}{aA:bx}{h:AH}{r:dT AV}{ev:Env}{H:MH}{Q:PQ}{E:PE}(v:VE g aA ev)(X:HA g h H)(hr:VR g r Q E)(e:VJ (An bd AC hd aA h)=some r):cv aB C (hd.map g.bK) bd ev H (λfl u_ H1=>match fl with| .ret v=>lS H Q v H1| .next=>lS H Q .none H1|_=>False) (λe u_ H1=>j5 H E e H1):=
 mw e (λfl aG h1 e1 e=>gw K SC bd hd aA h _ e1 ev H _ _ v X λqo dA H1 rf v1 X1=>by
  cases rf with
  |next=>exact .inl (hr.c e _ _ .none X1)
  |ret rv=>exact .inl (hr.c e _ _ rv X1)
  |_=>injection e) λei aG h1 e1 e=>gw K SC bd hd aA h _ e1 ev H _ _ v X (by injection e with I1;subst I1;exact λdA H1 v1 X1=>.inl (hr _ X1))
theorem Du(X:HA g h H)(X0:HA g h0 H0)(ra:dP g args bw)(hr:VR g r Q E)(e:bY (AC fi (.ref h.length::args) hd h0) (Jw h.length)=some r):C fi (.ref H.length::bw) (hd.map g.bK) H0 (λv H1=>v= .none/\Q (.ref H.length) H1) E:=by
 refine X.new▸?_;exact n5 (P:=λr=>VR g r Q E->C fi (.ref (g.bK h.length)::bw) (hd.map g.bK) H0 (λv H1=>v= .none/\Q (.ref (g.bK h.length)) H1) E) e (λw h1 e1 e2 hr=>SC fi _ hd _ _ e1 _ _ _ _ (.cons (.ref _) ra) X0 λv' H' rv X'=>n7 (P:=λv=>v= .none/\_) nn rv e2 λe2=>⟨rfl,hr.c e2 _ _ (.ref _) X'⟩) (λx h1 e1 hr=>SC fi _ hd _ _ e1 _ _ _ _ (.cons (.ref _) ra) X0 hr) hr
end
theorem kb(K:fL g)(m:Nat):∀n,QL g (gr fx n) (aE aB prog (n+m))
 |0=>λu_ u_ u_ u_ u_ e=>(by injection e)
 |n+1=>λf args hd h r e bw H Q E ra X hr=>by
  have SC:=kb K m n;rw[Nat.add_right_comm];have e:PB (gr fx n) args hd h f (jW fx f)=some r:=e;cases ef:jW fx f with
  |none=>rw[ef]at e;injection e
  |some ft=>
   rw[ef]at e;obtain⟨p1,p2,p3⟩:=FP f ft (Ju ef);dsimp only[aE];cases ft with
   |fn np eN nl body=>
    obtain⟨bd,ep,rfl⟩:=p1 _ _ _ _ rfl;rw[ep];refine aU nn e λaA eb e=>?_;obtain⟨ev,e2,v⟩:=Eo K ra eb;dsimp only;rw[e2];exact VX K SC v X hr e
   |cls fi=>
    rw[p2 _ rfl];exact Du K SC X (X.push K (.aK .nil)) ra hr e
   |aR fi=>
    rw[p3 _ rfl];exact cA nn e λq e=>⟨by rw[<-ra.len];exact av q,Du K SC X (X.push K (.aR .nil)) ra hr e⟩
end
mutual
def ua:AV->AV->Bool
 | .none,b=>mO false b true
 | .bool a,b=>xb false b λc=>a==c
 | .int a k,b=>gg false b λc l=>beq a c&&Ui k l
 | .str p s u,b=>tm false b λq t w=>(p==q)&&((u==w)&&dz s t)
 | .aF a,b=>ji false b λc=>CU a c
 | .ref a,b=>jh false b λc=>beq a c
 | .dg a,b=>DN false b λc=>beq a c
 | .any,b=>P9 false b true
 | .jn s,b=>W7 false b λt=>dz s t
 | .tk s,b=>W8 false b λt=>dz s t
 | .pQ a,b=>Qi false b λc=>beq a c
 | .tC _,_=>false
 | .tB,_=>false
def CU:List AV->List AV->Bool
 | [],b=>J0 false b true
 |a::r,b=>mL false b λc q=>ua a c&&CU r q
end
def RH{α:Type}(f:α->α->Bool):List α->List α->Bool
 | [],b=>J0 false b true
 |a::r,b=>mL false b λc q=>f a c&&RH f r q
def ZC(a b:Nat×AV):Bool:=beq a.1 b.1&&ua a.2 b.2
def ZA(a b:List Nat×AV):Bool:=dz a.1 b.1&&ua a.2 b.2
def VN:Option AV->Option AV->Bool
 | .none,b=>b.isNone
 |some v,b=>jF false b λw=>ua v w
def eqF(a b:List Nat×Option AV):Bool:=dz a.1 b.1&&VN a.2 b.2
abbrev YU:=Option (List (List Nat×Option AV)×List (List Nat×AV))
def VP:YU->YU->Bool
 | .none,b=>b.isNone
 |some p,b=>jF false b λq=>RH eqF p.1 q.1&&RH ZA p.2 q.2
def Nc:AO->AO->Bool
 | .list o a,b=>mM false b λp c=>(o==p)&&CU a c
 | .dict a o,b=>xc false b λc p=>RH ZA a c&&VP o p
 | .aK c a,b=>BC false b λd e=>beq c d&&RH ZC a e
 | .aR c a x,b=>n6 false b λd e y=>beq c d&&(RH ZC a e&&(x==y))
 | .GO,_=>false
def yo:List AO->List AO->Bool
 |_,[]=>true
 |a::r,b::q=>Nc a b&&yo r q
 | [],_::_=>false
theorem RF(h:Ui a b=true):a=b:=by rw[wb]at h;exact ay h
mutual
theorem iw:∀{a b:AV},ua a b=true->a=b
 | .none,b,h=>zD (P:=(AV.none= ·)) ff h λu_=>rfl
 | .bool a,b,h=>zy (P:=(AV.bool a= ·)) ff h λc h=>af _ (beq_iff_eq.mp h)
 | .int a k,b,h=>DI (P:=(AV.int a k= ·)) ff h λc l h=>an h λh1 h2=>c2 _ (nb h1) (RF h2)
 | .str p s u,b,h=>xf (P:=(AV.str p s u= ·)) ff h λq t w h=>an h λh1 h=>an h λh2 h3=>by exact(beq_iff_eq.mp h1)▸(beq_iff_eq.mp h2)▸(aW.mp h3)▸rfl
 | .aF a,b,h=>jG (P:=(AV.aF a= ·)) ff h λc h=>af _ (sd h)
 | .ref a,b,h=>xe (P:=(AV.ref a= ·)) ff h λc h=>af _ (nb h)
 | .dg a,b,h=>DO (P:=(AV.dg a= ·)) ff h λc h=>af _ (nb h)
 | .any,b,h=>Oa (P:=(AV.any= ·)) ff h λu_=>rfl
 | .jn s,b,h=>S9 (P:=(AV.jn s= ·)) ff h λc h=>af _ (aW.mp h)
 | .tk s,b,h=>Tf (P:=(AV.tk s= ·)) ff h λc h=>af _ (aW.mp h)
 | .pQ a,b,h=>Ol (P:=(AV.pQ a= ·)) ff h λc h=>af _ (nb h)
 | .tC _,_,h=>a9 h ff
 | .tB,_,h=>a9 h ff
theorem sd:∀{a b:List AV},CU a b=true->a=b
 | [],b,h=>DJ (P:=([]= ·)) ff h λu_=>rfl
 |a::r,b,h=>kH (P:=(a::r= ·)) ff h λc q h=>an h λh1 h2=>c2 _ (iw h1) (sd h2)
end
theorem oX{α:Type}{f:α->α->Bool}(H:∀a b,f a b=true->a=b):∀{a b:List α},RH f a b=true->a=b
 | [],b,h=>DJ (P:=([]= ·)) ff h λu_=>rfl
 |a::r,b,h=>kH (P:=(a::r= ·)) ff h λc q h=>an h λh1 h2=>c2 _ (H _ _ h1) (oX H h2)
theorem Ir(a b:Nat×AV)(h:ZC a b=true):a=b:=an h λh1 h2=>c2 Prod.mk (nb h1) (iw h2)
theorem Io(a b:List Nat×AV)(h:ZA a b=true):a=b:=an h λh1 h2=>c2 Prod.mk (aW.mp h1) (iw h2)
theorem Nd:∀{a b:Option AV},VN a b=true->a=b
 | .none,b,h=>(isNone_iff_eq_none.mp h).symm
 |some v,b,h=>kI (P:=(some v= ·)) ff h λw h=>af _ (iw h)
theorem RE(a b:List Nat×Option AV)(h:eqF a b=true):a=b:=an h λh1 h2=>c2 Prod.mk (aW.mp h1) (Nd h2)
theorem Nf:∀{a b:YU},VP a b=true->a=b
 | .none,b,h=>(isNone_iff_eq_none.mp h).symm
 |some p,b,h=>kI (P:=(some p= ·)) ff h λq h=>af _ (an h λh1 h2=>c2 Prod.mk (oX RE h1) (oX Io h2))
theorem CT:∀{a b:AO},Nc a b=true->a=b
 | .list o a,b,h=>th (P:=(AO.list o a= ·)) ff h λp c h=>an h λh1 h2=>c2 _ (beq_iff_eq.mp h1) (sd h2)
 | .dict a o,b,h=>tf (P:=(AO.dict a o= ·)) ff h λc p h=>an h λh1 h2=>c2 _ (oX Io h1) (Nf h2)
 | .aK c a,b,h=>zB (P:=(AO.aK c a= ·)) ff h λd e h=>an h λh1 h2=>c2 _ (nb h1) (oX Ir h2)
 | .aR c a x,b,h=>rp (P:=(AO.aR c a x= ·)) ff h λd e y h=>an h λh1 h=>an h λh2 h3=>by exact(nb h1)▸(oX Ir h2)▸(beq_iff_eq.mp h3)▸rfl
 | .GO,_,h=>a9 h ff
theorem hB:∀{a b:List AO} {i:Nat} {o:AO},yo a b=true->gp b i=some o->gp a i=some o
 |_,[],_,_,_,e=>by injection e
 | [],_::_,_,_,h,_=>by injection h
 |x::a,y::b,i,o,h,e=>by
  have h:=bh (show(Nc x y&&yo a b)=true from h);cases i with
  |zero=>rw[CT h.1];exact e
  |succ i=>exact hB (i:=i) h.2 e
inductive UR where
 |go (o:List Nat) (cM:List (List Nat))
 |brk (cM:List (List Nat))
 |hY (val:List Nat) (ec:List (List Nat)) (cM:List (List Nat))
structure Un where
 t:List Nat
 n:Nat
 sb:Bool
 k:Nat
 z:Nat
 r:UR
noncomputable def tX:Nat:=2000000
noncomputable def tY:Nat:=2000001
noncomputable def sJ:List Nat:=[114,117,110]
noncomputable def aX:List Nat:=[115,117,98,115,116]
noncomputable def jb:List Nat:=[99,97,108,108]
noncomputable def kX:List Nat:=[120]
noncomputable def uk:List Nat:=[121,40,107,41]
noncomputable def u6:List Nat:=[122,122]
noncomputable def cC:List Nat:=[115,99,97,108,97,114]
noncomputable def gb:List Nat:=[110,111,110,101]
noncomputable def ZJ:List Nat:=[36,120,32,92,110,91,99,97,108,108,32,57,32,111,107,93]
noncomputable def V1:List Nat:=[36,123,120,125,91,99,97,108,108,32,57,32,111,107,93]
noncomputable def V2:List Nat:=[92,116,36,120]
def rg:List Nat:=[121,40]++ZJ++ [41]
noncomputable def PX(sp:Int):List (Nat×AV):=[(18,.ref 3),(19,.pQ 3),(20,.int 0 40),(21,.none),(22,.int 0 0),(23,.int 4 sp),(24,.pQ 4),(25,.none),(26,.none),(30,.ref 5),(31,.ref 4),(32,.pQ 5)]
noncomputable def Al(kind:List Nat)(v:AV):AO:=.aK 381 [(10,.str false kind false),(2,v),(11,.any),(12,.any),(13,.any),(14,.any)]
def wB(z:Nat):List (List Nat×Option AV):=match z with
 |1=>[(u6,.none)]
 |2=>[(u6,some (.ref 8))]
 |3=>[(rg,.none)]
 |4=>[(rg,some (.ref 8))]
 |_=>[]
def abe(z:Nat)(j:Nat):List (List Nat×AV):=match z with
 |1=>[(u6,.ref j)]
 |3=>[(rg,.ref j)]
 |_=>[]
def md(z:Nat)(mk lg:List AV)(sp:Int)(ad:List (List Nat×AV)):List AO:=
 [.list true mk,.list true lg,.aK 664 (PX sp),.dict [(sJ,.dg 413)] .none,.dict [(aX,.aF [.dg 700,.none]),(jb,.aF [.dg 735,.ref 1])] .none,
  .dict [(kX,.ref 6),(uk,.ref 7)] (some (wB z,ad)),Al cC (.tk [tX]),Al cC (.tk [tY])]++(if beq z 2||beq z 4 then [Al gb (.str false [] false)]else [])
noncomputable def PN(u:Un)(i:Nat):AV:=match beq u.k i with|true=>.bool true|false=>.pQ i
def EO(u:Un)(n:Nat):List AV:=[.ref 2,.str true u.t (!u.sb),PN u 0,PN u 1,PN u 2,.ref 0,.int 1 n]
def Na(u:Un):bx:=(EO u 0).map some++ [.none,.none,.none,.none]
noncomputable def jY(l:List (List Nat)):List AV:=l.map λs=>.str false s false
def Oq(o:List Nat):AV:=if d7 o then .str false o false else .tk o
def QK(z:Nat):List Nat:=match z with|1=>u6|_=>rg
def Zw(j:Nat):AO:=.aK 381 [(10,.str false gb false),(2,.str false [] false),(11,.ref (j+1)),(12,.bool false),(13,.bool false),(14,.int 0 0)]
noncomputable def Y1:Option AO->Nat
 |some (.dict _ (some (_,[(_,.ref j)])))=>j
 |_=>0
def aaC(z:Nat)(h:AH)(j:Nat):Option (List (List Nat×AV)):=gd .none (Nat.blt 7 j&&jF false (gp h j) λo=>Nc o (Zw j)) (some [(QK z,.ref j)])
def sU(z:Nat)(h:AH):Option (List (List Nat×AV)):=match beq z 1||beq z 3 with
 |true=>aaC z h (Y1 (gp h 5))
 |false=>some []
def M7(u:Un)(mk:List AV)(cM:List (List Nat))(h:AH):Bool:=cK false (sU u.z h) λad=>yo h (md u.z mk (jY cM) cM.length ad)
def YG(a:List (Nat×AV))(n:Nat)(v:AV):Bool:=cK false (wF a n) λw=>ua w v
def Nh(val:List Nat)(ec:List (List Nat))(o:AO):Bool:=n6 false o λc a u_=>beq c 84&&(YG a 1 (.int 0 1)&&(YG a 2 (.str false val false)&&YG a 3 (.aF (jY ec))))
def OC:bx->List AV->Bool
 |e,[]=>beq e.length 4
 |e,b::q=>mL false e λo r=>jF false o (ua · b)&&OC r q
def Ru(u:Un)(r:Option bH):UR->Bool
 | .go o cM=>J6 false r λfl aA h=>JV false fl (OC aA (EO u u.n)&&M7 u [Oq o] cM h)
 | .brk cM=>J6 false r λfl u_ h=>Qd false fl λv=>ua v (.jn [])&&M7 u [] cM h
 | .hY val ec cM=>Qh false r λe u_ h=>cK false (gp h e) (Nh val ec)&&M7 u [] cM h
def Vw(u:Un)(r:Option bH):Bool:=Ru u r u.r
def lR(u:Un):Bool:=Vw u (KJ (gr fx 40) .none (Na u) (md u.z [] [] 0 []))
def given(how:List Nat):List Nat:=if dz how [111,107]then ZJ else if dz how [99,111,110,116,105,110,117,101]then []else if dz how [114,101,116,117,114,110]then V1 else if dz how [115,105,120]then V2 else how
noncomputable def sD:List Nat:=[111,107]
noncomputable def hK:List Nat:=[107]
noncomputable def uY:List Nat:=[99,111,110,116,105,110,117,101]
noncomputable def E4:List Nat:=[114,101,116,117,114,110]
noncomputable def E5:List Nat:=[115,105,120]
noncomputable def eI:List Nat:=[98,114,101,97,107]
noncomputable def eJ:List Nat:=[101,114,114,111,114]
def bT:List (List Nat):=[sD,hK,uY,E4,E5,eI,eJ]
noncomputable def jN:List Nat:=[119,114,111,110,103,32,36,120]
noncomputable def nu:List (List Nat):=[[76,65,87],[36,120]]
def og(how:List Nat)(cM:List (List Nat)):UR:=if dz how eI then .brk cM else if dz how eJ then .hY jN nu cM else .go (given how) cM
def nQ(how:List Nat):Bool:=dz how sD||dz how hK
noncomputable def bU(t o:List Nat):Un:=⟨t,t.length,false,0,0,.go o []⟩
noncomputable def zb:List Nat:=[45,93,125,34,59,10,36,92,91]
def lI(t:List Nat)(k z:Nat)(r:UR):List Un:=⟨t,t.length,true,k,z,r⟩::zb.map λc=>⟨t++ [c],t.length,false,k,z,r⟩
noncomputable def eQ(name:List Nat):List Nat:=[99,97,110,39,116,32,114,101,97,100,32,34]++name++ [34,58,32,110,111,32,115,117,99,104,32,118,97,114,105,97,98,108,101]
noncomputable def lY(name:List Nat):List (List Nat):=[[84,67,76],[76,79,79,75,85,80],[86,65,82,78,65,77,69],name]
noncomputable def pq:List Nat:=[109,105,115,115,105,110,103,32,99,108,111,115,101,45,98,114,97,99,101,32,102,111,114,32,118,97,114,105,97,98,108,101,32,110,97,109,101]
noncomputable def pw:List Nat:=[109,105,115,115,105,110,103,32,41]
noncomputable def pv:List Nat:=[109,105,115,115,105,110,103,32,99,108,111,115,101,45,98,114,97,99,107,101,116]
noncomputable def pz:List Nat:=[109,105,115,115,105,110,103,32,34]
noncomputable def mE:List Nat:=[101,120,116,114,97,32,99,104,97,114,97,99,116,101,114,115,32,97,102,116,101,114,32,99,108,111,115,101,45,98,114,97,99,101]
noncomputable def qS:List Nat:=[105,110,118,97,108,105,100,32,99,111,109,109,97,110,100,32,110,97,109,101,32,34,110,111,112,101,34]
noncomputable def wa:List (List Nat):=[[84,67,76],[76,79,79,75,85,80],[67,79,77,77,65,78,68],[110,111,112,101]]
noncomputable def eX:List (List Nat):=[[78,79,78,69]]
def QA:List Un:=[bU [92,110] [10],bU [92,120,52,49] [65],bU [92,92] [92],bU [92,49,48,49] [65],bU [92,93] [93],bU [92,117,50,54,51,97] [9786],bU [92,113] [113],bU [92,120,54,98] [107],bU [92,120,51,53] [53],bU [92,36] [36],bU [92,91] [91],⟨[92],1,true,0,0,.go [92] []⟩]++lI [92,10,32,32] 0 0 (.go [32] [])
noncomputable def uO(how:List Nat):List Nat:=[36,121,40,91,99,97,108,108,32,50,32]++how++ [93,41]
def VI(how:List Nat):List Un:=
 if dz how sD then [⟨uO how,(uO how).length,false,2,3,.hY (eQ rg) (lY rg) [[50]]⟩,⟨uO how,(uO how).length,false,2,4,.hY (eQ rg) (lY rg) [[50]]⟩]
 else [⟨uO how,(uO how).length,false,2,0,if dz how hK then .go [tY] [[50]]else og how [[50]]⟩]
noncomputable def vU(t o:List Nat):Un:=⟨t,t.length,false,2,0,.go o []⟩
def XJ:List Un:=lI [36,120] 2 0 (.go [tX] [])++ [vU [36,123,120,125] [tX],vU [36,121,40,107,41] [tY],vU [36,123,121,40,107,41,125] [tY],vU [36,121,40,92,120,54,98,41] [tY],⟨[36,45],1,false,2,0,.go [36] []⟩,
  ⟨[36,123,120],3,true,2,0,.hY pq eX []⟩,⟨[36,121,40,107],4,true,2,0,.hY pw eX []⟩]++bT.flatMap VI++lI [36,122,122] 2 1 (.hY (eQ u6) (lY u6) [])++lI [36,122,122] 2 2 (.hY (eQ u6) (lY u6) [])
noncomputable def qa(XW how:List Nat):List Nat:=[91,99,97,108,108,32]++XW++ [32]++how++ [93]
noncomputable def cU(t:List Nat)(r:UR):Un:=⟨t,t.length,false,1,0,r⟩
noncomputable def zH(h1 h2:List Nat):List Nat:=[91,99,97,108,108,32,54,32]++h1++ [59,99,97,108,108,32,55,32]++h2++ [93]
noncomputable def zk(how:List Nat):List Nat:=[91,99,97,108,108,32,51,32,91,99,97,108,108,32,50,32]++how++ [93,93]
def QB:List Un:=bT.map (λh=>cU (qa [49] h) (og h [[49]]))++bT.map (λh=>cU (qa [50] h) (og h [[50]]))++bT.map (λh=>cU (qa [51] h) (og h [[51]]))++bT.map (λh=>cU (qa [92,120,51,53] h) (og h [[53]]))
def QC:List Un:=bT.map (λh=>cU (zk h) (if nQ h then og h [[50],[51]]else og h [[50]]))
 ++ [cU (qa [52] [36,120]) (.go [tX] [[52]]),cU [91,110,111,112,101,32,36,120,93] (.hY qS wa []),cU [91,99,97,108,108,32,56,32,123,97,125,98,93] (.hY mE eX []),cU [91,93] (.go [] []),
   ⟨[91,99,97,108,108,32,56,32,107],9,true,1,0,.hY pv eX []⟩,⟨[91,99,97,108,108,32,56,32,34,107],10,true,1,0,.hY pz eX []⟩]
def qz(h1:List Nat):List Un:=bT.map λh2=>cU (zH h1 h2) (if nQ h1 then og h2 [[54],[55]]else og h1 [[54]])
def Ub(g:G)(H:MH):Nat->List AO->Prop
 |_,[]=>True
 |i,o::r=>(∃o',H[g.bK i]? =some o'/\OA g i o o')/\Ub g H (i+1) r
theorem Ub.get:∀{l:List AO} {k i:Nat} {o:AO},Ub g H k l->gp l i=some o->∃o',H[g.bK (k+i)]? =some o'/\OA g (k+i) o o'
 | [],_,_,_,_,e=>(by injection e)
 |_::_,k,0,o,h,e=>inj e▸h.1
 |_::r,k,i+1,o,h,e=>by
  have:=Ub.get (i:=i) h.2 e;rwa[Nat.add_right_comm,Nat.add_assoc]at this
theorem sx{α:Type}{k n:List Nat}{v w:α}(e:hZ [(k,v)] n=some w):k=n/\v=w:=by
 have e:(if dz k n=true then some v else .none)=some w:=e;by_cases q:dz k n=true
 ·rw[ah q]at e;exact⟨aW.mp q,inj e⟩
 ·rw[ag q]at e;injection e
structure Ad where
 lg:Nat
 hp:Nat
 tl:Nat
 cm:Nat
 vr:Nat
 vx:Nat
 vy:Nat
noncomputable def Ad.l(A:Ad):List Nat:=[A.lg,A.hp,A.tl,A.cm,A.vr,A.vx,A.vy]
noncomputable def kC(A:Ad)(i e f:MV)(sp:Int):List (Nat×MV):=[(18,.ref A.tl),(19,i),(20,.int 40),(21,.none),(22,.int 0),(23,.int sp),(24,e),(25,.none),(26,.none),(30,.ref A.vr),(31,.ref A.cm),(32,f)]
def dj(H:MH)(j:Nat)(kind:List Nat)(v:List Nat):Prop:=∃a b c d,H[j]? =some (.aK 381 [(10,.str kind),(2,.str v),(11,a),(12,b),(13,c),(14,d)])
def Empty(A:Ad)(H:MH)(tl:List (List Nat×MV))(n:List Nat):Prop:=getD tl n= .none\/∃j,getD tl n=some (.ref j)/\j∉A.l/\dj H j gb []
def GH(tl:List (List Nat×MV))(n:List Nat):Nat:=if(getD tl n).isSome then 1 else 0
structure Wd where
 A:Ad
 x:List Nat
 y:List Nat
 i:MV
 e:MV
 f:MV
structure mj(W:Wd):Prop where
 nd:W.A.l.Nodup
 xl:W.x.length<=60
 yl:W.y.length<=60
 hx:∀t∈i8,W.x≠t
structure World(W:Wd)(lg:List (List Nat))(sp:Int)(H:MH):Prop where
 y9:H[W.A.lg]? =some (.list (lg.map .str))
 nN:H[W.A.hp]? =some (.aK 664 (kC W.A W.i W.e W.f sp))
 tM:H[W.A.tl]? =some (.dict [(sJ,.dg 413)])
 vX:H[W.A.cm]? =some (.dict [(aX,.aF [.dg 700,.none]),(jb,.aF [.dg 735,.ref W.A.lg])])
 ux:∃tl,H[W.A.vr]? =some (.dict ([(kX,.ref W.A.vx),(uk,.ref W.A.vy)]++tl))/\Empty W.A H tl u6/\Empty W.A H tl rg/\tl.length<=GH tl u6+GH tl rg
 vx:dj H W.A.vx cC W.x
 vy:dj H W.A.vy cC W.y
noncomputable def eR(z:Nat):Bool:=beq z 2||beq z 4
def hV(W:Wd)(mk jz z:Nat)(pre rest:List Nat)(sp:Int)(aQ lg:List (List Nat))(tl:List (List Nat×MV))(fl:Nat->MV)(H:MH):G where
 pre:=pre
 rest:=rest
 x:=W.x
 y:=W.y
 aP:=λa=>match a with|1=>pre.length|2=>pre.length+rest.length|4=>sp|_=>0
 qB:=[mk,W.A.lg,W.A.hp,W.A.tl,W.A.cm,W.A.vr,W.A.vx,W.A.vy]++(if eR z=true then [jz]else [])
 n0:=H.length
 bQ:=λi=>match i with|0=>aQ.map .str|1=>lg.map .str|_=>[]
 tail:=λi=>match i with|5=>tl|_=>[]
 pQ:=λi=>match i with|3=>W.i|4=>W.e|5=>W.f|i=>fl i
 H0:=H
 aQ:=aQ
def GS(z jz:Nat)(tl:List (List Nat×MV)):Prop:=match z with
 |1=>getD tl u6= .none
 |2=>getD tl u6=some (.ref jz)
 |3=>getD tl rg= .none
 |4=>getD tl rg=some (.ref jz)
 |_=>True
structure Ma(W:Wd)(mk jz z:Nat)(sp:Int)(aQ lg:List (List Nat))(tl:List (List Nat×MV))(H:MH):Prop where
 ok:mj W
 w:World W lg sp H
 WL:H[mk]? =some (.list (aQ.map .str))
 mkn:mk∉W.A.l
 ml:aQ.length<=1000000
 ms:(aQ.map length).sum<=1000000
 ll:lg.length<=1000000
 tail:H[W.A.vr]? =some (.dict ([(kX,.ref W.A.vx),(uk,.ref W.A.vy)]++tl))
 tll:tl.length<=1000
 VV:GS z jz tl
 jn:eR z=true->jz∉W.A.l/\jz≠mk/\dj H jz gb []
section
variable {W:Wd} {mk jz z:Nat} {sp:Int} {aQ lg:List (List Nat)} {tl:List (List Nat×MV)} {H:MH} {pre rest:List Nat} {fl:Nat->MV}
theorem Ma.gok(P:Ma W mk jz z sp aQ lg tl H):fL (hV W mk jz z pre rest sp aQ lg tl fl H):=by
 have lt:∀{a:Nat} {o:MO},H[a]? =some o->a<H.length:=λe=>(bo e).1;have hnd:(hV W mk jz z pre rest sp aQ lg tl fl H).qB.Nodup:=by
  show([mk,W.A.lg,W.A.hp,W.A.tl,W.A.cm,W.A.vr,W.A.vx,W.A.vy]++(if eR z=true then [jz]else [])).Nodup;have h8:(mk::W.A.l).Nodup:=nodup_cons.mpr ⟨P.mkn,P.ok.nd⟩;rw[show [mk,W.A.lg,W.A.hp,W.A.tl,W.A.cm,W.A.vr,W.A.vx,W.A.vy]=mk::W.A.l from rfl];split
  ·rename_i q
   obtain⟨a,b,_⟩:=P.jn q;refine nodup_append.mpr ⟨h8,by simp,λu hu v hv e=>?_⟩;have hv:=bg hv;simp only[e,hv]at hu;rcases mem_cons.mp hu with hu|hu
   ·exact b hu
   ·exact a hu
  ·simp only[ax];exact h8
 refine⟨rfl,rfl,rfl,hnd,λa ha=>?_,P.ok.xl,P.ok.yl,P.ok.hx,λi=>?_,λi=>?_,rfl,P.ms⟩
 ·have ha:a∈(mk::W.A.l)++(if eR z=true then [jz]else []):=ha;show a<H.length;obtain⟨v1,v2,_⟩:=P.w.ux;obtain⟨_,_,_,_,w1⟩:=P.w.vx;obtain⟨_,_,_,_,w2⟩:=P.w.vy;rcases mem_append.mp ha with ha|ha
  ·simp only[Ad.l,mem_cons,not_mem_nil,or_false]at ha;rcases ha with rfl|rfl|rfl|rfl|rfl|rfl|rfl|rfl
   ·exact lt P.WL
   ·exact lt P.w.y9
   ·exact lt P.w.nN
   ·exact lt P.w.tM
   ·exact lt P.w.vX
   ·exact lt v2
   ·exact lt w1
   ·exact lt w2
  ·split at ha
   ·rename_i q
    rw[bg ha];obtain⟨_,_,_,_,_,_,w⟩:=P.jn q;exact lt w
   ·cases ha
 ·show(match i with|0=>aQ.map MV.str|1=>lg.map MV.str|_=>[]).length<=_;have:=P.ml;have:=P.ll;split<;>simp<;>lia
 ·show(match i with|5=>tl|_=>[]).length<=_;have:=P.tll;split<;>simp<;>lia
theorem VZ{g:G}{jz:Nat}{tl:List (List Nat×MV)}(hp:g.bK 8=jz\/eR z=false)(F:GS z jz tl):(∀n,hZ (wB z) n=some .none->getD tl n= .none)/\∀n v,hZ (wB z) n=some (some v)->∃w,getD tl n=some w/\VA g v w:=by
 have hit:∀{k:List Nat},g.bK 8=jz->getD tl k=some (.ref jz)->∀n v,hZ [(k,some (AV.ref 8))] n=some (some v)->∃w,getD tl n=some w/\VA g v w:=λ{k} hq f n v e=>by
  have e:=sx e;injection(e.2)with I1;subst I1;refine e.1▸?_;exact⟨_,f,hq▸.ref 8⟩
 match z,hp,F with
 |1,_,f=>exact⟨λn e=>(sx e).1▸f,λn v e=>(by injection((sx e).2))⟩
 |2,hp,f=>exact⟨λn e=>((by injection((sx e).2))),hit (hp.resolve_right (by intro I1;injection I1)) f⟩
 |3,_,f=>exact⟨λn e=>(sx e).1▸f,λn v e=>(by injection((sx e).2))⟩
 |4,hp,f=>exact⟨λn e=>((by injection((sx e).2))),hit (hp.resolve_right (by intro I1;injection I1)) f⟩
 |0,_,_=>exact⟨λn e=>((by injection e)),λn v e=>(by injection e)⟩
 |_+5,_,_=>exact⟨λn e=>((by injection e)),λn v e=>(by injection e)⟩
theorem Cd(x:VA g v (.str w)):OA g i (Al kind v) (.aK 381 [(10,.str kind),(2,.str w),(11,a),(12,b),(13,c),(14,d)]):=
 .aK (.cons (by simpa using VA.str (g:=g) false kind false) (.cons x (.cons (.any _) (.cons (.any _) (.cons (.any _) (.cons (.any _) .nil))))))
theorem Ts(q:eR z=true):G.bK (hV W mk jz z pre rest sp aQ lg tl fl H) 8=jz:=by
 show(match([mk,W.A.lg,W.A.hp,W.A.tl,W.A.cm,W.A.vr,W.A.vx,W.A.vy]++(if eR z=true then [jz]else []))[8]? with|some a=>a| .none=>_)=jz;refine(ah q)▸?_;rfl
theorem Ma.ha(P:Ma W mk jz z sp aQ lg tl H):HA (hV W mk jz z pre rest sp aQ lg tl fl H) (md z [] [] 0 []) H:=by
 have dx:G.den (hV W mk jz z pre rest sp aQ lg tl fl H) [tX]=W.x:=by simp[G.den,G.pR,tX,hV]
 have dy:G.den (hV W mk jz z pre rest sp aQ lg tl fl H) [tY]=W.y:=by simp[G.den,G.pR,tY,hV]
 have vx:VA (hV W mk jz z pre rest sp aQ lg tl fl H) (.tk [tX]) (.str W.x):=dx▸VA.tk [tX];have vy:VA (hV W mk jz z pre rest sp aQ lg tl fl H) (.tk [tY]) (.str W.y):=dy▸VA.tk [tY];obtain⟨_,_,_,_,wx⟩:=P.w.vx;obtain⟨_,_,_,_,wy⟩:=P.w.vy;have hst:OA (hV W mk jz z pre rest sp aQ lg tl fl H) 2 (.aK 664 (PX 0)) (.aK 664 (kC W.A W.i W.e W.f (sp+0))):=OA.kv _ _ rfl;rw[add_zero]at hst;have l0:OA (hV W mk jz z pre rest sp aQ lg tl fl H) 0 (.list true []) (.list (aQ.map .str)):=OA.kv _ _ (af (some<|MO.list ·) (ax _));have l1:OA (hV W mk jz z pre rest sp aQ lg tl fl H) 1 (.list true []) (.list (lg.map .str)):=OA.kv _ _ (af (some<|MO.list ·) (ax _));have fz:=VZ (g:=(hV W mk jz z pre rest sp aQ lg tl fl H)) (Bool.eq_false_or_eq_true (eR z)|>.imp Ts id) P.VV;have vr:OA (hV W mk jz z pre rest sp aQ lg tl fl H) 5 (.dict [(kX,.ref 6),(uk,.ref 7)] (some (wB z,[]))) (.dict ([(kX,.ref W.A.vx),(uk,.ref W.A.vy)]++tl)):=.dict (jO.kv _ _ rfl) ⟨(by intro I1;injection I1),λfs ad ez=>by
  cases ez;exact⟨fz.1,fz.2,[],.nil,(ax _).symm⟩⟩
 have hs:Ub (hV W mk jz z pre rest sp aQ lg tl fl H) H 0 (md z [] [] 0 []):=⟨⟨_,P.WL,l0⟩,⟨_,P.w.y9,l1⟩,⟨_,P.w.nN,hst⟩,⟨_,P.w.tM,OA.kv _ _ rfl⟩,⟨_,P.w.vX,OA.kv _ _ rfl⟩,⟨_,P.tail,vr⟩,⟨_,wx,Cd vx⟩,⟨_,wy,Cd vy⟩,by
  show Ub (hV W mk jz z pre rest sp aQ lg tl fl H) H 8 (if eR z=true then [Al gb (.str false [] false)]else []);by_cases q:eR z=true
  ·rw[ah q];obtain⟨_,_,a,b,c,d,w⟩:=P.jn q;exact⟨⟨_,(af (H[·]?) (Ts q)).trans w,Cd (.str false [] false)⟩,trivial⟩
  ·rw[ag q];exact trivial⟩
 have ln:(md z [] [] 0 []).length=(G.qB (hV W mk jz z pre rest sp aQ lg tl fl H)).length:=by
  show(_++(if eR z=true then [Al gb (.str false [] false)]else [])).length=(_++(if eR z=true then [jz]else [])).length;by_cases q:eR z=true
  ·rw[ah q,ah q];rfl
  ·rw[ag q,ag q];rfl
 refine⟨by simp only[ln];rfl,le_of_eq ln.symm,λi o e=>?_,λj u_ u_=>rfl⟩;have:=hs.get e;rwa[Nat.zero_add]at this
end
structure Nw(W:Wd)(mk jz z:Nat)(pre rest:List Nat)(sp:Int)(aQ lg:List (List Nat))(tl:List (List Nat×MV))(fl:Nat->MV)(H:MH)(mk':List AV)(cM:List (List Nat))(ad:List (List Nat×AV))(h:AH)(H':MH):Prop where
 P:Ma W mk jz z sp aQ lg tl H
 X:HA (hV W mk jz z pre rest sp aQ lg tl fl H) h H'
 e:yo h (md z mk' (jY cM) cM.length ad)=true
section
variable {W:Wd} {mk jz z:Nat} {sp:Int} {aQ lg:List (List Nat)} {tl:List (List Nat×MV)} {H:MH} {pre rest:List Nat} {fl:Nat->MV}
structure Frame(W:Wd)(mk:Nat)(H H':MH):Prop where
 len:H.length<=H'.length
 same:∀j,j<H.length->j∉mk::W.A.l->(∀a,H[j]?≠some (.aK 381 a))->H'[j]? =H[j]?
theorem mx:∀l:List (List Nat),fG g (jY l)=some (l.map .str)
 | []=>rfl
 |s::l=>by
  have e:fG g (jY (s::l))=(some (MV.str ([]++s++ []))).bind λa=>(fG g (jY l)).map (a:: ·):=rfl;simp only[e,mx l,ax];rfl
def vK(kind w:List Nat)(o:MO):Prop:=∃a b c d,o= .aK 381 [(10,.str kind),(2,.str w),(11,a),(12,b),(13,c),(14,d)]
theorem LA(r:OA g i (.aK 381 [(10,.str false kind false),(2,v),(11,a),(12,b),(13,c),(14,d)]) o)(hv:∀u,VA g v u->u= .str w):vK kind w o:=
 r.ie λu_ r=>r.ce (P:=λb=>vK kind w (.aK 381 b)) λu_ u_ x1 r=>r.ce (P:=λb=>vK kind w (.aK 381 ((10,_)::b))) λu_ u_ x2 r=>r.ce (P:=λb=>vK kind w (.aK 381 ((10,_)::(2,_)::b))) λw3 u_ u_ r=>r.ce (P:=λb=>vK kind w (.aK 381 ((10,_)::(2,_)::(11,w3)::b))) λw4 u_ u_ r=>r.ce (P:=λb=>vK kind w (.aK 381 ((10,_)::(2,_)::(11,w3)::(12,w4)::b))) λw5 u_ u_ r=>
  r.ce (P:=λb=>vK kind w (.aK 381 ((10,_)::(2,_)::(11,w3)::(12,w4)::(13,w5)::b))) λw6 fs u_ r=>by
   have:fs= []:=r.kn _ rfl;simp only[this,x1.Ie,hv _ x2];exact⟨_,_,_,_,rfl⟩
theorem vK.at(e:H[j]? =some o)(h:vK kind w o):dj H j kind w:=by
 obtain⟨a,b,c,d,rfl⟩:=h;exact⟨a,b,c,d,e⟩
theorem sH{h:AH}{H':MH}{i:Nat}{kind:List Nat}{v:AV}{w:List Nat}(X:HA (hV W mk jz z pre rest sp aQ lg tl fl H) h H')(e:gp h i=some (Al kind v))(hv:∀u,VA (hV W mk jz z pre rest sp aQ lg tl fl H) v u->u= .str w):dj H' (G.bK (hV W mk jz z pre rest sp aQ lg tl fl H) i) kind w:=
 X.oe e λu_ e r=>(LA r hv).at e
theorem tkU(e:g.den s=w)(u:MV)(r:VA g (.tk s) u):u= .str w:=(r.kn _ rfl).trans (af _ e)
theorem PS(X:HA (hV W mk jz z pre rest sp aQ lg tl fl H) h H'):∀j,j<H.length->j∉mk::W.A.l->(eR z=true->j≠jz)->H'[j]? =H[j]? :=λj hj hn hzz=>by
 refine X.frame j hj λq=>?_;have q:j∈(mk::W.A.l)++(if eR z=true then [jz]else []):=q;rcases mem_append.mp q with q|q
 ·exact hn q
 ·by_cases y:eR z=true
  ·rw[ah y]at q;exact hzz y (bg q)
  ·replace q:=(ag y)▸q;cases q
theorem JE{h:AH}{ad:List (List Nat×AV)}{P:List (List Nat×AV)->Prop}(e:sU z h=some ad)(k0:P [])(k1:∀j,(z=1\/z=3)->7<j->gp h j=some (Zw j)->P [(QK z,.ref j)]):P ad:=by
 unfold sU at e;cases q:beq z 1||beq z 3 with
 |false=>rw[q]at e;exact inj e▸k0
 |true=>
  rw[q]at e;exact cA nn e λh1 h2=>an h1 λh3 h4=>inj h2▸k1 _ ((or_eq_true_iff.mp q).imp au au) (blt_eq.mp h3) (kI (P:=(· =some (Zw _))) ff h4 λo h=>af some (CT h))
section
variable {mk':List AV} {cM:List (List Nat)} {ad:List (List Nat×AV)} {h:AH} {H':MH}
theorem WI(e:H[a]? =some o):a<H.length:=(bo e).1
theorem Nw.kn(N:Nw W mk jz z pre rest sp aQ lg tl fl H mk' cM ad h H'){i:Nat}{o:AO}{o':MO}(e:gp (md z mk' (jY cM) cM.length ad) i=some o)(c:CM (hV W mk jz z pre rest sp aQ lg tl fl H) i o=some o'):H'[G.bK (hV W mk jz z pre rest sp aQ lg tl fl H) i]? =some o':=N.X.kn (hB N.e e) c
theorem Nw.mkn(N:Nw W mk jz z pre rest sp aQ lg tl fl H mk' cM ad h H'):dj H j kind v->j≠mk:=λ⟨u_,v_,w_,x_,w⟩ q=>by
 replace w:=N.P.WL▸q▸w;cases w
theorem Nw.jzv(N:Nw W mk jz z pre rest sp aQ lg tl fl H mk' cM ad h H')(q:eR z=true):dj H' jz gb []:=by
 have e8:gp (md z mk' (jY cM) cM.length ad) 8=some (Al gb (.str false [] false)):=by
  unfold md;rw[show(beq z 2||beq z 4)=true from q];rfl
 have:=sH (w:=[]) N.X (hB N.e e8) λu r=>r.Ie;rwa[Ts q]at this
theorem Nw.WC(N:Nw W mk jz z pre rest sp aQ lg tl fl H mk' cM ad h H')(hn:j∉W.A.l)(hv:dj H j gb []):dj H' j gb []:=by
 by_cases q:eR z=true/\j=jz
 ·rw[q.2];exact N.jzv q.1
 ·have hm:=N.mkn hv;obtain⟨a,b,c,d,w⟩:=hv;exact⟨a,b,c,d,(PS N.X j (WI w) (λm=>(mem_cons.mp m).elim hm hn) λzz y=>q ⟨zz,y⟩).trans w⟩
theorem Nw.bt(N:Nw W mk jz z pre rest sp aQ lg tl fl H mk' cM ad h H')(q:Empty W.A H tl n):Empty W.A H' tl n:=q.imp id λ⟨j,q1,q2,q3⟩=>⟨j,q1,q2,N.WC q2 q3⟩
theorem tn(tl:List (List Nat×MV))(k n:List Nat)(v:MV):getD (tl++ [(k,v)]) n=match getD tl n with|some v=>some v| .none=>if k=n then some v else .none:=by rw[f9];rfl
theorem PF(tl:List (List Nat×MV))(k n:List Nat)(v:MV):GH tl n<=GH (tl++ [(k,v)]) n:=by
 unfold GH;rw[tn];cases getD tl n with
 |none=>exact zero_le _
 |some v=>exact le_refl _
theorem PC(tl:List (List Nat×MV))(k:List Nat)(v:MV)(q:getD tl k= .none):GH (tl++ [(k,v)]) k=GH tl k+1:=by
 unfold GH;rw[tn,q];simp
theorem Il(k:List Nat)(h1:j∉A.l)(h2:dj H' j gb [])(q:Empty A H' tl n):Empty A H' (tl++ [(k,.ref j)]) n:=by
 rcases q with q|⟨i,q1,q2,q3⟩
 ·by_cases hkn:k=n
  ·exact .inr ⟨j,by rw[tn,q];exact ah hkn,h1,h2⟩
  ·exact .inl (by rw[tn,q];exact ag hkn)
 ·exact .inr ⟨i,by rw[tn,q1],q2,q3⟩
theorem Ry(h:n<=a+b)(h1:a<=a')(h2:b<=b')(h3:a'=a+1\/b'=b+1):n+1<=a'+b':=by lia
def Y0(W:Wd)(H':MH)(tl:List (List Nat×MV)):Prop:=Empty W.A H' tl u6/\Empty W.A H' tl rg/\tl.length<=GH tl u6+GH tl rg
theorem Nw.tl0(N:Nw W mk jz z pre rest sp aQ lg tl fl H mk' cM ad h H'):Y0 W H tl:=by
 obtain⟨tl0,w1,w⟩:=N.P.w.ux;have:tl0=tl:=List.append_cancel_left (as:=[(kX,MV.ref W.A.vx),(uk,.ref W.A.vy)]) (by injection inj (w1.symm.trans N.P.tail));exact this▸w
theorem Nw.ux(N:Nw W mk jz z pre rest sp aQ lg tl fl H mk' cM ad h H')(V6:sU z h=some ad):∀xN,jO (hV W mk jz z pre rest sp aQ lg tl fl H) ad xN->Y0 W H' (tl++xN):=by
 have T:=N.tl0;refine JE (P:=λad=>∀xN,jO (hV W mk jz z pre rest sp aQ lg tl fl H) ad xN->Y0 W H' (tl++xN)) V6 (λxN r=>?_) λj hz hj ej xN r=>?_
 ·simp only[r.kn _ rfl,ax];exact⟨N.bt T.1,N.bt T.2.1,T.2.2⟩
 ·have hv:dj H' (G.bK (hV W mk jz z pre rest sp aQ lg tl fl H) j) gb []:=N.X.oe ej λu_ e r=>(LA r λu r=>r.Ie).at e;have hz2:eR z=false:=by rcases hz with hz|hz<;>rw[hz]<;>rfl
  have Yz:G.bK (hV W mk jz z pre rest sp aQ lg tl fl H) j∉W.A.l:=λm=>by
   have hl:(G.qB (hV W mk jz z pre rest sp aQ lg tl fl H)).length=8:=by
    show([mk,W.A.lg,W.A.hp,W.A.tl,W.A.cm,W.A.vr,W.A.vx,W.A.vy]++(if eR z=true then [jz]else [])).length=8;rw[hz2];rfl
   have h1:G.bK (hV W mk jz z pre rest sp aQ lg tl fl H) j<H.length:=N.P.gok.lt (g:=(hV W mk jz z pre rest sp aQ lg tl fl H)) _ (bf (.tail _ m));rw[mQ (by lia)]at h1;exact a9 h1 (not_lt.mpr (le_add_right _ _))
  simp only[r.kn _ rfl];refine⟨Il _ Yz hv (N.bt T.1),Il _ Yz hv (N.bt T.2.1),?_⟩;simp only[ak];have fz:=N.P.VV;refine Ry T.2.2 (PF _ _ _ _) (PF _ _ _ _) ?_;rcases hz with hz|hz
  ·rw[hz]at fz⊢;exact .inl (PC _ _ _ fz)
  ·rw[hz]at fz⊢;exact .inr (PC _ _ _ fz)
theorem Nw.oq(N:Nw W mk jz z pre rest sp aQ lg tl fl H mk' cM ad h H')(V6:sU z h=some ad):World W (lg++cM) (sp+cM.length) H' where
 y9:=N.kn (i:=1) rfl (by
  show(fG (hV W mk jz z pre rest sp aQ lg tl fl H) (jY cM)).map _=_;rw[mx,map_append];rfl)
 nN:=N.kn (i:=2) rfl rfl
 tM:=N.kn (i:=3) rfl rfl
 vX:=N.kn (i:=4) rfl rfl
 ux:=N.X.oe (hB (i:=5) N.e rfl) λo' e r=>r.de (P:=λo'=>H'[G.bK (hV W mk jz z pre rest sp aQ lg tl fl H) 5]? =some o'->_) (λfs tl2 r t e=>by
  obtain⟨_,_,xN,ra,rfl⟩:=t.some _ _ rfl;have:=r.kn _ rfl;simp only[this]at e;exact⟨_,e,N.ux V6 xN ra⟩) e
 vx:=sH (w:=W.x) N.X (hB (i:=6) N.e rfl) (tkU (by simp[G.den,G.pR,tX,hV]))
 vy:=sH (w:=W.y) N.X (hB (i:=7) N.e rfl) (tkU (by simp[G.den,G.pR,tY,hV]))
theorem AX(P:Ma W mk jz z sp aQ lg tl H)(hz:u.z=z)(X:HA (hV W mk jz z pre rest sp aQ lg tl fl H) h H')(e:M7 u mk' cM h=true):
  World W (lg++cM) (sp+cM.length) H'/\(∃ws,dP (hV W mk jz z pre rest sp aQ lg tl fl H) mk' ws/\H'[mk]? =some (.list (aQ.map .str++ws)))/\Frame W mk H H':=by
 subst hz;refine aU ff e λad V6 e=>?_;have N:Nw W mk jz u.z pre rest sp aQ lg tl fl H mk' cM ad h H':=⟨P,X,e⟩
 refine⟨N.oq V6,X.oe (hB (i:=0) e rfl) λo' e r=>r.le (P:=λo'=>H'[mk]? =some o'->_) (λws r e=>⟨ws,r,e⟩) e,?_,λj hj hn hi=>PS X j hj hn λq y=>?_⟩
 ·have h1:H'.length+(hV W mk jz u.z pre rest sp aQ lg tl fl H).qB.length=H.length+h.length:=X.len;have h2:=X.Uy;lia
 ·obtain⟨_,_,a,b,c,d,w⟩:=P.jn q;exact hi _ (y▸w)
end
end
noncomputable def fY(W:Wd)(s:List Nat):List Nat:=s.flatMap λc=>if c=2000000 then W.x else if c=2000001 then W.y else [c]
theorem qd(W:Wd)(s t:List Nat):fY W (s++t)=fY W s++fY W t:=by unfold fY;rw[List.flatMap_append]
def gF(H:MH)(e:Nat)(c:Int)(v:List Nat)(ec:MV):Prop:=∃aP x,H[e]? =some (.aR 84 aP x)/\bW aP 1=some (.int c)/\bW aP 2=some (.str v)/\bW aP 3=some ec
theorem FW:KJ=An ko:=rfl
noncomputable def t9(hp mk:Nat)(text:List Nat)(b0 b1 b2:MV)(aP:Int)(o:List (Option MV)):Env:=[some (.ref hp),some (.str text),some b0,some b1,some b2,some (.ref mk),some (.int aP)]++o
def Co(W:Wd)(mk:Nat)(text:List Nat)(b0 b1 b2:MV)(aQ lg:List (List Nat))(sp:Int)(H:MH)(at2:Int)(Q:SQ)(E:SE):UR->Prop
 | .go o cM=>∀H' ot,ot.length=4->World W (lg++cM) (sp+cM.length) H'->H'[mk]? =some (.list ((aQ++ [fY W o]).map .str))->Frame W mk H H'->Q .next (t9 W.A.hp mk text b0 b1 b2 at2 ot) H'
 | .brk cM=>∀H' gM,World W (lg++cM) (sp+cM.length) H'->Frame W mk H H'->Q (.ret (.str aQ.flatten)) gM H'
 | .hY val ec cM=>∀H' gM e,World W (lg++cM) (sp+cM.length) H'->Frame W mk H H'->gF H' e 1 val (.aF (ec.map .str))->E e gM H'
theorem Bm(r:mY g a b)(h:YG a n v=true)(c:jv g v=some w):bW b n=some w:=
 aU ff h λv' e h=>by
  obtain⟨w',e',x⟩:=wG r e;rw[iw h]at x;rw[e',x.kn _ c]
theorem EN(l:List (List Nat)):jv g (.aF (jY l))=some (.aF (l.map .str)):=by
 show(fG g (jY l)).map MV.aF=_;rw[mx];rfl
theorem wk(K:fL g)(X:HA g h H')(eo:gp h e=some o)(hx:Nh val ec o=true):gF H' (g.bK e) 1 val (.aF (ec.map .str)):=
 X.oe eo λo' e' r=>rp (P:=λo=>OA g _ o o'->gF H' (g.bK e) 1 val (.aF (ec.map .str))) ff hx (λc a x h r=>an h λh1 h=>an h λh2 h=>an h λh3 h4=>
  r.ee (P:=λo'=>H'[g.bK e]? =some o'->_) (λb t e'=>⟨b,x,nb h1▸e',Bm t h2 (by show some (MV.int (g.aP 0+1))=_;refine K.a0▸?_;rfl),Bm t h3 (kr _),Bm t h4 (EN _)⟩) e') r
theorem VE.un{g:G}{v:AV}{aA:bx}{ev:Env}{P:Env->Prop}(r:VE g (some v::aA) ev)(h:∀w PJ,VA g v w->VE g aA PJ->P (some w::PJ)):P ev:=by
 cases r with|cons a r=>cases a with|some a=>exact h _ _ a r
theorem VE.len:∀{aA:bx} {ev:Env},VE g aA ev->ev.length=aA.length
 |_,_,.nil=>rfl
 |_,_,.cons _ r=>af (· +1) r.len
theorem DW:∀{l:List AV} {aA:bx} {ev:Env} {ws:List MV},VE g aA ev->OC aA l=true->fG g l=some ws->∃ot:List (Option MV),ot.length=4/\ev=ws.map some++ot
 | [],aA,ev,ws,r,h,c=>by
  injection c with I1;subst I1
  have h:beq aA.length 4=true:=by cases aA<;>exact h
  exact⟨ev,r.len.trans (nb h),rfl⟩
 |v::l,aA,ev,ws,r,h,c=>by
  have h:mL false aA (λo r=>jF false o (ua · v)&&OC r l)=true:=by cases aA<;>exact h
  refine kH (P:=λaA=>VE g aA ev->∃ot:List (Option MV),ot.length=4/\ev=ws.map some++ot) ff h (λo q h r=>an h λh1 h2=>kI (P:=λo=>VE g (o::q) ev->∃ot:List (Option MV),ot.length=4/\ev=ws.map some++ot) ff h1 (λu h1 r=>?_) r) r;cases iw h1;have c:((jv g v).bind λa=>(fG g l).map (a:: ·))=some ws:=c;obtain⟨w1,c1,c⟩:=bind_eq_some_iff.mp c;obtain⟨w2,c2,rfl⟩:=map_eq_some_iff.mp c;refine r.un (P:=λev=>∃ot:List (Option MV),ot.length=4/\ev=_++ot) λw PJ x r=>?_;obtain⟨ot,e1,e2⟩:=DW r h2 c2;exact⟨ot,e1,by rw[x.kn _ c1,e2];rfl⟩
theorem JI:∀o:List (Option MV),VE g (o.map λu_=>.none) o
 | []=>.nil
 |_::r=>.cons .none (JI r)
theorem M9{g:G}{W:Wd}{mk:Nat}{pre rest text:List Nat}{u:Un}{n:Nat}(a1:g.aP 1=pre.length)(p2:g.bK 2=W.A.hp)(p0:g.bK 0=mk)(ep:g.pre=pre)(er:g.rest=rest)(ht:text=pre++u.t++rest)(hr:u.sb=true->rest= [])
  (hs:∀i,i<3->u.k=i->g.pQ i= .bool true):fG g (EO u n)=some [.ref W.A.hp,.str text,g.pQ 0,g.pQ 1,g.pQ 2,.ref mk,.int (pre.length+n)]:=by
 have fl:∀i,i<3->jv g (PN u i)=some (g.pQ i):=λi hi=>by
  unfold PN;cases q:beq u.k i with
  |true=>rw[hs i hi (nb q)];rfl
  |false=>rfl
 have st:jv g (.str true u.t (!u.sb))=some (.str text):=by
  show some (MV.str (g.pre++u.t++(if(!u.sb)=true then g.rest else [])))=_;rw[ht,ep,er];cases q:u.sb with
  |true=>refine(hr q)▸?_;rfl
  |false=>rfl
 show((jv g (.ref 2)).bind λa=>((jv g (.str true u.t (!u.sb))).bind λb=>((jv g (PN u 0)).bind λc=>((jv g (PN u 1)).bind λd=>((jv g (PN u 2)).bind λe=>(fG g [.ref 0,.int 1 n]).map (e:: ·)).map (d:: ·)).map (c:: ·)).map (b:: ·)).map (a:: ·))=_;simp only[fl 0 (by decide),fl 1 (by decide),fl 2 (by decide),st,<-p2,<-p0,<-a1];rfl
theorem Ic{g:G}{W:Wd}(den:∀s,g.den s=fY W s)(o:List Nat):jv g (Oq o)=some (.str (fY W o)):=by
 unfold Oq;by_cases q:d7 o=true
 ·rw[ah q,kr,<-den,qY q]
 ·rw[ag q,<-den];rfl
section
variable {W:Wd} {mk jz z:Nat} {sp:Int} {aQ lg:List (List Nat)} {tl:List (List Nat×MV)} {H:MH} {pre rest text:List Nat} {b0 b1 b2:MV} {Q:SQ} {E:SE}
theorem TY{fl:Nat->MV}(P:Ma W mk jz u.z sp aQ lg tl H)(G0:fL (hV W mk jz u.z pre rest sp aQ lg tl fl H))(hc:fG (hV W mk jz u.z pre rest sp aQ lg tl fl H) (EO u u.n)=some [.ref W.A.hp,.str text,b0,b1,b2,.ref mk,.int (pre.length+u.n)])(e:o=some r):
  ∀ur:UR,Ru u o ur=true->Co W mk text b0 b1 b2 aQ lg sp H (pre.length+u.n) Q E ur->lJ (hV W mk jz u.z pre rest sp aQ lg tl fl H) r Q E
 | .go o1 cM,h,K=>DL (P:=λo=>o=some r->_) ff h (λf aA h1 h=>DG (P:=λf=>some (bH.ok f aA h1)=some r->_) ff h λh e=>inj e▸an h λh2 h3=>λqo dA H1 rf v X=>by
   obtain⟨w,⟨ws,hws,hm⟩,fr⟩:=AX P rfl X h3;obtain⟨ot,l4,ee⟩:=DW v h2 hc;cases rf;rw[ee];have c:=Ic (g:=hV W mk jz u.z pre rest sp aQ lg tl fl H) (W:=W) (λu_=>rfl) o1;refine K H1 ot l4 w ?_ fr;have:=hws.kn [.str (fY W o1)] (by show(jv _ (Oq o1)).bind _=_;rw[c];rfl);simp only[hm,this,map_append];rfl) e
 | .brk cM,h,K=>DL (P:=λo=>o=some r->_) ff h (λf aA h1 h=>Oe (P:=λf=>some (bH.ok f aA h1)=some r->_) ff h λv h e=>inj e▸an h λh2 h3=>λqo dA H1 rf u_ X=>by
   obtain⟨w,_,fr⟩:=AX P rfl X h3;obtain rfl:=iw h2;cases rf with
   |ret rv=>
    rw[rv.kn (.str aQ.flatten) (af (some<|MV.str ·) (ax _))];exact K H1 dA w fr) e
 | .hY val ec cM,h,K=>Oj (P:=λo=>o=some r->_) ff h (λx aA h1 h e=>inj e▸an h λh2 h3=>λdA H1 u_ X=>by
   obtain⟨w,_,fr⟩:=AX P rfl X h3;exact aU ff h2 λob eo hx=>K H1 dA _ w fr (wk G0 X eo hx)) e
end
theorem O6(hu:lR u=true)
 (P:Ma W mk jz u.z sp aQ lg tl H) (ht:text=pre++u.t++rest) (hr:u.sb=true->rest= []) (h0:u.k=0->b0= .bool true) (h1:u.k=1->b1= .bool true) (h2:u.k=2->b2= .bool true)
 (ho:o.length=4) (m:Nat) (K:Co W mk text b0 b1 b2 aQ lg sp H (pre.length+u.n) Q E u.r):
  cv aB (aE aB prog (40+m)) .none ko (t9 W.A.hp mk text b0 b1 b2 pre.length o) H Q E:=by
 have G0:fL (hV W mk jz u.z pre rest sp aQ lg tl (λi=>match i with|0=>b0|1=>b1|_=>b2) H):=P.gok;have hc:∀n,fG (hV W mk jz u.z pre rest sp aQ lg tl (λi=>match i with|0=>b0|1=>b1|_=>b2) H) (EO u n)=some [.ref W.A.hp,.str text,b0,b1,b2,.ref mk,.int (pre.length+n)]:=λn=>M9 rfl rfl rfl rfl rfl ht hr λi hi e=>match i,hi with
  |0,_=>h0 e
  |1,_=>h1 e
  |2,_=>h2 e
 have V:VE (hV W mk jz u.z pre rest sp aQ lg tl (λi=>match i with|0=>b0|1=>b1|_=>b2) H) (Na u) (t9 W.A.hp mk text b0 b1 b2 pre.length o):=by
  have:=(VE.z6 (dP.kv (EO u 0) _ (hc 0))).append (JI o);rw[show o.map (λu_=>(Option.none:Option AV))= [.none,.none,.none,.none] by match o,ho with| [_,_,_,_],_=>rfl]at this;rw[show(pre.length:Int)+(0:Nat)=pre.length from add_zero _]at this;exact this
 unfold lR at hu;simp only[FW]at hu;unfold Vw at hu;have hn:∀ur:UR,Ru u .none ur=true->False:=λur h=>by cases ur<;>injection h
 generalize er:An ko (gr fx 40) .none (Na u) (md u.z [] [] 0 [])=o at hu;cases o with
 |none=>exact(hn _ hu).elim
 |some r=>exact gw G0 (kb G0 m 40) ko .none (Na u) _ r er (t9 W.A.hp mk text b0 b1 b2 pre.length o) H Q E V P.ha (TY P G0 (hc u.n) rfl u.r hu K)
inductive Mb where
 |brk
 |hY (val:List Nat) (ec:List (List Nat))
structure tS where
 o:List Nat
 lg:List (List Nat)
 st:Option Mb
abbrev GB:=List Nat×UR
noncomputable def aY:List GB->tS
 | []=>⟨[],[],.none⟩
 |(_,.go o l)::r=>⟨o++(aY r).o,l++(aY r).lg,(aY r).st⟩
 |(_,.brk l)::_=>⟨[],l,some .brk⟩
 |(_,.hY v ec l)::_=>⟨[],l,some (.hY v ec)⟩
noncomputable def bX:List GB->List Nat
 | []=>[]
 |(t,_)::r=>t++bX r
noncomputable def VW(b0 b1 b2:Bool)(k:Nat):Bool:=match k with|0=>b0|1=>b1|2=>b2|_=>false
structure Ap(u:Un)(k:Nat)(t rest:List Nat)(r:UR)(z:Nat):Prop where
 D1:lR u=true
 k:u.k=k
 n:u.n=t.length
 r:u.r=r
 z:u.z=z
 fit:∃tE,t++rest=u.t++tE/\(u.sb=true->tE= [])
def Ck(k:Nat)(t rest:List Nat)(r:UR):Prop:=
 (∃u,Ap u k t rest r 0)\/((∃u,Ap u k t rest r 1)/\∃u,Ap u k t rest r 2)\/((∃u,Ap u k t rest r 3)/\∃u,Ap u k t rest r 4)
def xR(b0 b1 b2:Bool)(t:List Nat)(r:UR):Prop:=∃c,t= [c]/\r= .go [c] []/\c<2000000/\(c=92->b0=false)/\(c=91->b1=false)/\(c=36->b2=false)
def L8(b0 b1 b2:Bool)(t rest:List Nat)(r:UR):Prop:=t≠[]/\(xR b0 b1 b2 t r\/∃k,VW b0 b1 b2 k=true/\Ck k t rest r)
def rF(b0 b1 b2:Bool):List GB->Prop
 | []=>True
 |(t,r)::s=>L8 b0 b1 b2 t (bX s) r/\rF b0 b1 b2 s
theorem World.Pb(w:World W lg sp H):∃tl,H[W.A.vr]? =some (.dict ([(kX,.ref W.A.vx),(uk,.ref W.A.vy)]++tl))/\tl.length<=1000/\Empty W.A H tl u6/\Empty W.A H tl rg:=by
 obtain⟨tl,h1,h2,h3,h4⟩:=w.ux;refine⟨tl,h1,?_,h2,h3⟩;have:∀n,GH tl n<=1:=λn=>by unfold GH;split<;>lia
 have a:=this u6;have b:=this rg;lia
theorem dj.lt(h:dj H j k v):j<H.length:=by
 obtain⟨_,_,_,_,e⟩:=h;exact(bo e).1
theorem bC{H:MH}{j:Nat}{o:MO}(h:H[j]? =some o):j<H.length:=(bo h).1
theorem World.keep(w:World W lg sp H)(k:∀j o,H[j]? =some o->(j∈W.A.l\/∃a,o= .aK 381 a)->H'[j]? =some o):World W lg sp H':=by
 have kv:∀{j:Nat} {kk v:List Nat},dj H j kk v->dj H' j kk v:=λ⟨a,b,c,d,e⟩=>⟨a,b,c,d,k _ _ e (.inr ⟨_,rfl⟩)⟩
 have ke:∀{tl n},Empty W.A H tl n->Empty W.A H' tl n:=λq=>q.imp id λ⟨j,q1,q2,q3⟩=>⟨j,q1,q2,kv q3⟩
 obtain⟨tl,h1,h2,h3,h4⟩:=w.ux;exact⟨k _ _ w.y9 (.inl (by simp[Ad.l])),k _ _ w.nN (.inl (by simp[Ad.l])),k _ _ w.tM (.inl (by simp[Ad.l])),k _ _ w.vX (.inl (by simp[Ad.l])),
  ⟨tl,k _ _ h1 (.inl (by simp[Ad.l])),ke h2,ke h3,h4⟩,kv w.vx,kv w.vy⟩
theorem Frame.refl{W:Wd}{mk:Nat}{H:MH}:Frame W mk H H:=⟨le_refl _,λu_ u_ u_ u_=>rfl⟩
theorem MX{W:Wd}{mk:Nat}{sp:Int}{aQ lg:List (List Nat)}{H:MH}{pre rest text:List Nat}{c:Nat}(hw:World W lg sp H)(hm:H[mk]? =some (.list (aQ.map .str)))(C6:mk∉W.A.l)(hl:aQ.length<=1000000)
  (ht:text=pre++ [c]++rest) {b0 b1 b2:Bool} (h0:c=92->b0=false) (h1:c=91->b1=false) (h2:c=36->b2=false) (hc:c<2000000)
  {o:List (Option MV)} (ho:o.length=4) (C:Calls) {Q:SQ} {E:SE} (K:Co W mk text (.bool b0) (.bool b1) (.bool b2) aQ lg sp H (pre.length+1) Q E (.go [c] [])):
  cv aB C .none ko (t9 W.A.hp mk text (.bool b0) (.bool b1) (.bool b2) pre.length o) H Q E:=by
 match o,ho with
 | [o1,o2,o3,o4],_=>
 have lt:pre.length<text.length:=by simp only[ht,ak,ak];exact lt_of_lt_of_le (Nat.lt_succ_self _) (le_add_right _ _)
 have hi:cL H (.str text) (.int pre.length)=some (.str [c]):=(af (Option.bind · _) (pL lt)).trans (by
  show(text[pre.length]?).map _=_;rw[ht,aq,getElem?_append_right (le_refl _),sub_self];rfl)
 have nd:∀{d:Nat} {b:Bool},(c=d->b=false)->(decide ([c]= [d])&&b)=false:=λ{d b} h=>by
  by_cases q:c=d
  ·simp only[h q,Bool.and_false]
  ·rw[ai λz=>q (List.cons.inj z).1];rfl
 refine pU (fS hi ?_);refine Sn (c:=decide ([c]= [92])&&b0) (λu_ u_ k=>Q7 k) (nd h0) ?_;refine Sn (c:=(decide ([c]= [91])&&b1)||(decide ([c]= [36])&&b2)) (λu_ u_ k=>oa4 k) (by simp only[nd h1,nd h2];rfl) ?_;refine And.intro (HD hm) (LU (.str [c]) (λu_ u_ k=>k) (dn ?_));refine AJ hm (lt_of_le_of_lt (by rw[ar];exact hl) (by decide)) (K _ [_,_,_,_] rfl ?_ ?_ ?_)
 ·simp only[ax,show sp+(([]:List (List Nat)).length:Nat)=sp from add_zero _];refine hw.keep λj ob e q=>?_;rw[getElem?_set_ne λz=>?_]
  ·exact e
  ·rcases q with q|⟨a,rfl⟩
   ·exact C6 (z▸q)
   ·replace e:=hm▸z▸e;cases e
 ·rw[getElem?_set_self (bC hm),show fY W [c]= [c]from qY (g:=⟨[],[],W.x,W.y,λu_=>0,[],0,λu_=>[],λu_=>[],λu_=>.none,[],[]⟩) (s:=[c]) (and_eq_true_iff.mpr ⟨blt_eq.mpr hc,rfl⟩),map_append];rfl
 ·refine⟨le_of_eq (length_set ..).symm,λj hj hn u_=>getElem?_set_ne ?_⟩
  rintro rfl
  exact hn List.mem_cons_self
theorem O0(ok:mj W)(hw:World W lg sp H)(hm:H[mk]? =some (.list (aQ.map .str)))(C6:mk∉W.A.l)
 (hl:aQ.length<=1000000) (hs:(aQ.map length).sum<=1000000) (hg:lg.length<=1000000) (ht:text=pre++t++rest) (uZ:L8 b0 b1 b2 t rest r)
 (ho:o.length=4) (m:Nat) (K:Co W mk text (.bool b0) (.bool b1) (.bool b2) aQ lg sp H (pre.length+t.length) Q E r):
  cv aB (aE aB prog (40+m)) .none ko (t9 W.A.hp mk text (.bool b0) (.bool b1) (.bool b2) pre.length o) H Q E:=by
 obtain⟨tl,v1,v2,v3,v4⟩:=hw.Pb;obtain⟨_,uZ⟩:=uZ;rcases uZ with⟨c,rfl,rfl,hc,h0,h1,h2⟩|⟨k,hk,hu⟩
 ·exact MX hw hm C6 hl ht h0 h1 h2 hc ho _ K
 ·have flag:∀{z:Nat} {u:Un} {jz:Nat},Ap u k t rest r z->GS z jz tl->(eR z=true->jz∉W.A.l/\jz≠mk/\dj H jz gb [])->
    cv aB (aE aB prog (40+m)) .none ko (t9 W.A.hp mk text (.bool b0) (.bool b1) (.bool b2) pre.length o) H Q E:=λ{z u jz} F fz jn=>by
   obtain⟨tE,e1,e2⟩:=F.fit;have P:Ma W mk jz u.z sp aQ lg tl H:=⟨ok,hw,hm,C6,hl,hs,hg,v1,v2,by rw[F.z];exact fz,by refine F.z▸?_;exact jn⟩
   refine O6 F.D1 P (rest:=tE) (by simp only[ht,aq,e1,aq]) e2 ?_ ?_ ?_ ho m ?_
   ·intro q;rw[F.k]at q;subst q;rw[show b0=true from hk]
   ·intro q;rw[F.k]at q;subst q;rw[show b1=true from hk]
   ·intro q;rw[F.k]at q;subst q;rw[show b2=true from hk]
   ·refine F.n▸F.r▸?_;exact K
  have mkv:∀{j kk v},dj H j kk v->j≠mk:=λ⟨u_,v_,w_,x_,e⟩ q=>by replace e:=hm▸q▸e;cases e
  rcases hu with⟨u,F⟩|⟨⟨u,F⟩,u',F'⟩|⟨⟨u,F⟩,u',F'⟩
  ·exact flag (jz:=0) F trivial (λq=>by injection q)
  ·rcases v3 with q|⟨j,q1,q2,q3⟩
   ·exact flag (jz:=0) F q (λq=>by injection q)
   ·exact flag F' q1 λu_=>⟨q2,mkv q3,q3⟩
  ·rcases v4 with q|⟨j,q1,q2,q3⟩
   ·exact flag (jz:=0) F q (λq=>by injection q)
   ·exact flag F' q1 λu_=>⟨q2,mkv q3,q3⟩
structure c8(W:Wd)(H H':MH):Prop where
 len:H.length<=H'.length
 same:∀j,j<H.length->j∉W.A.l->(∀a,H[j]?≠some (.aK 381 a))->H'[j]? =H[j]?
theorem yi(ok:mj W):∀s:List Nat,(fY W s).length<=60*s.length
 | []=>by simp[fY]
 |c::s=>by
  have h:=yi ok s;have e:fY W (c::s)=fY W [c]++fY W s:=qd W [c] s;simp only[e,ak,length_cons];have:(fY W [c]).length<=60:=by
   show((if c=2000000 then W.x else if c=2000001 then W.y else [c])++ []).length<=60;rw[ax];split
   ·exact ok.xl
   ·split
    ·exact ok.yl
    ·simp
  lia
def aa9(W:Wd)(e:tS)(ahead:List Nat)(lg:List (List Nat))(sp:Int)(Hb:MH)(mk:Nat)(Q:SQ)(E:SE):Prop:=
 ∀H',World W (lg++e.lg) (sp+e.lg.length) H'->Frame W mk Hb H'->match e.st with
  |some (.hY v ec)=>∀x aA,gF H' x 1 v (.aF (ec.map .str))->E x aA H'
  |_=>∀aA,Q (.ret (.str (ahead++fY W e.o))) aA H'
noncomputable def TX:ME:=.aV .lt (.l 6) (.b1 .len (.l 1))
theorem Frame.trans{W:Wd}{mk:Nat}{H H1 H2:MH}(a:Frame W mk H H1)(b:Frame W mk H1 H2):Frame W mk H H2:=
 ⟨az a.len b.len,λj hj hn hi=>by
  have:=a.same j hj hn hi;simp only[b.same j (lt_of_lt_of_le hj a.len) hn (by rw[this];exact hi),this]⟩
theorem NO{H:MH}{mk:Nat}{aQ:List (List Nat)}(hm:H[mk]? =some (.list (aQ.map .str)))(hs:(aQ.map length).sum<=1000000){Q:PQ}(q:Q (.str aQ.flatten) H):
  oK .join H (.str [])=true/\iW .join H (.str []) [.ref mk] Q:=
 ⟨rfl,qU (tG hm) (az hs (by decide)) ((jB aQ).symm▸q)⟩
def Cn(W:Wd)(mk:Nat)(text:List Nat)(b0 b1 b2:Bool)(Q:SQ)(E:SE)(flat:List Nat)(H':MH)(aP:Int)(o:List (Option MV)):Option Mb->Prop
 | .none=>∀zh:List (List Nat),zh.flatten=flat->(zh.map length).sum<=1000000->H'[mk]? =some (.list (zh.map .str))->Q .next (t9 W.A.hp mk text (.bool b0) (.bool b1) (.bool b2) aP o) H'
 |some .brk=>∀aA,Q (.ret (.str flat)) aA H'
 |some (.hY v ec)=>∀x aA,gF H' x 1 v (.aF (ec.map .str))->E x aA H'
theorem vd{W:Wd}(ok:mj W){mk:Nat}(C6:mk∉W.A.l){text:List Nat}{b0 b1 b2:Bool}(m:Nat){Q:SQ}{E:SE}{I:Env->MH->Prop}
  (hI:∀aA H,(den aB (aE aB prog (40+m)) .none TX).eM aA H (λb H1=>if b=true then cv aB (aE aB prog (40+m)) .none ko aA H1 (λfl aI H2=>match fl with
    | .next=>I aI H2
    | .cont=>I aI H2
    | .brk=>Q .next aI H2
    | .ret w=>Q (.ret w) aI H2) E else Q .next aA H1) (λe H1=>E e aA H1)->I aA H) {Hb:MH}:
  ∀(c4:List GB) (pre:List Nat) (aQ lg:List (List Nat)) (sp:Int) (H:MH) (o:List (Option MV)),rF b0 b1 b2 c4->text=pre++bX c4->World W lg sp H->H[mk]? =some (.list (aQ.map .str))->
   aQ.length+c4.length<=1000000->(aQ.map length).sum+60*(aY c4).o.length<=1000000->lg.length+(aY c4).lg.length<=1000000->o.length=4->Frame W mk Hb H->
   (∀H' aP o,o.length=4->World W (lg++(aY c4).lg) (sp+(aY c4).lg.length) H'->Frame W mk Hb H'->Cn W mk text b0 b1 b2 Q E (aQ.flatten++fY W (aY c4).o) H' aP o (aY c4).st)->
   I (t9 W.A.hp mk text (.bool b0) (.bool b1) (.bool b2) pre.length o) H
 | [],pre,aQ,lg,sp,H,o,_,ht,hw,hm,hl,hs,hg,ho,fr,K=>by
  refine hI _ _ ?_;have e:pre.length=text.length:=by rw[ht];simp[bX]
  show(if decide ((pre.length:Int)<(text.length:Int))=true then _ else _);rw[ag (by rw[e];simp)];have:=K H pre.length o ho (by show World W (lg++ []) (sp+0) H;rw[ax,add_zero];exact hw) fr aQ (by show _=_++ [];simp only[ax]) (by
   have:(aY []).o.length=0:=rfl;lia) hm
  exact this
 |(t,r)::c4,pre,aQ,lg,sp,H,o,hc,ht,hw,hm,hl,hs,hg,ho,fr,K=>by
  refine hI _ _ ?_;obtain⟨uZ,hc⟩:=hc;have Uv:text=pre++t++bX c4:=by simp only[ht,aq];rfl
  have tpos:0<t.length:=List.length_pos_iff.mpr uZ.1;show(if decide ((pre.length:Int)<(text.length:Int))=true then _ else _);rw[ah (by rw[Uv];simp;lia)];have hl:aQ.length+(c4.length+1)<=1000000:=hl;refine O0 ok hw hm C6 (by lia) (by lia) (by lia) Uv uZ ho m ?_;cases r with
  |go o1 l1=>
   intro H' ot hot Sk R7 RV;have hs:(aQ.map length).sum+60*(o1++(aY c4).o).length<=1000000:=hs;have hg:lg.length+(l1++(aY c4).lg).length<=1000000:=hg;rw[ak]at hs hg;have dl:=yi ok o1;have:=vd ok C6 m hI c4 (pre++t) (aQ++ [fY W o1]) (lg++l1) (sp+l1.length) H' ot hc Uv Sk R7 (by rw[ak];simp;lia)
    (by simp only[map_append,List.sum_append];simp;lia) (by rw[ak];lia) hot (fr.trans RV) ?_
   ·rw[ak]at this;exact this
   ·intro H2 a2 o2 YD Wr fr2;have Wr:World W (lg++(l1++(aY c4).lg)) (sp+(l1++(aY c4).lg).length) H2:=by
     rw[ak,<-aq];have e:sp+((l1.length+(aY c4).lg.length:Nat):Int)=sp+l1.length+(aY c4).lg.length:=by lia
     simp only[e];exact Wr
    have K:=K H2 a2 o2 YD Wr fr2;have fl:∀s,(aQ++ [fY W o1]).flatten++fY W s=aQ.flatten++fY W (o1++s):=λs=>by
     simp only[qd];simp
    rw[fl];exact K
  |brk l1=>
   intro H' gM Sk RV;have:=K H' 0 o ho Sk (fr.trans RV) gM;have e:aQ.flatten++fY W (aY ((t,UR.brk l1)::c4)).o=aQ.flatten:=by
    show _++ []=_;rw[ax]
   rw[e]at this;exact this
  |hY v ec l1=>
   intro H' gM x Sk RV hx;exact K H' 0 o ho Sk (fr.trans RV) x gM hx
theorem World.lt(w:World W lg sp H):∀a∈W.A.l,a<H.length:=by
 intro a ha;obtain⟨tl,v1,_⟩:=w.ux;simp only[Ad.l,mem_cons,not_mem_nil,or_false]at ha;rcases ha with rfl|rfl|rfl|rfl|rfl|rfl|rfl
 ·exact bC w.y9
 ·exact bC w.nN
 ·exact bC w.tM
 ·exact bC w.vX
 ·exact bC v1
 ·exact w.vx.lt
 ·exact w.vy.lt
theorem World.gK(w:World W lg sp H)(L:MH):World W lg sp (H++L):=
 w.keep λj o e u_=>by rw[aw (bC e)];exact e
theorem c8.trans(a:c8 W H H1)(b:c8 W H1 H2):c8 W H H2:=
 ⟨az a.len b.len,λj hj hn hi=>by
  have:=a.same j hj hn hi;simp only[b.same j (lt_of_lt_of_le hj a.len) hn (by rw[this];exact hi),this]⟩
theorem c8.gK(H L:MH):c8 W H (H++L):=⟨by simp,λj hj u_ u_=>aw hj⟩
theorem Ce(ok:mj W)(C6:mk∉W.A.l)(m:Nat)(hc:rF b0 b1 b2 c4)(ht:text=bX c4)
 (hw:World W lg sp H) (hm:H[mk]? =some (.list [])) (m1:c4.length<=1000000) (m2:60*(aY c4).o.length<=1000000) (n3:lg.length+(aY c4).lg.length<=1000000)
 (K:∀H' aP o,o.length=4->World W (lg++(aY c4).lg) (sp+(aY c4).lg.length) H'->Frame W mk H H'->Cn W mk text b0 b1 b2 Q E (fY W (aY c4).o) H' aP o (aY c4).st):
  xM (den aB (aE aB prog (40+m)) .none TX).eM (cv aB (aE aB prog (40+m)) .none ko) Q E (t9 W.A.hp mk text (.bool b0) (.bool b1) (.bool b2) 0 [.none,.none,.none,.none]) H:=by
 intro I hI;have m1:([]:List (List Nat)).length+c4.length<=1000000:=by simp only[length_nil,Nat.zero_add];exact m1
 have m2:(([]:List (List Nat)).map length).sum+60*(aY c4).o.length<=1000000:=by simp only[map_nil,List.sum_nil,Nat.zero_add];exact m2
 exact @vd W ok mk C6 text b0 b1 b2 m Q E I hI H c4 [] [] lg sp H [.none,.none,.none,.none] hc ht hw hm m1 m2 n3 rfl .refl K
theorem aL{n f np nl:Nat}{eN args:List MV}{body:List MS}{aA:Env}{hd:Option Nat}{H:MH}{Q:PQ}{E:PE}(hp:prog f=some (.fn np eN nl body))(hb:rS np eN nl args=some aA)
  (K:cv aB (aE aB prog n) hd body aA H (λfl u_ H1=>match fl with| .ret v=>lS H Q v H1| .next=>lS H Q .none H1|_=>False) (λe u_ H1=>j5 H E e H1)):aE aB prog (n+1) f args hd H Q E:=by
 dsimp only[aE];rw[hp];dsimp only;refine hb▸?_;exact K
theorem Vb:jr= [.bL 5 (.fP []),.bL 6 (.c (.int 0)),.while TX ko,.ret (.bP .join (.c (.str [])) [.l 5])]:=rfl
theorem Ab(ok:mj W)(hw:World W lg sp H)(hc:rF b0 b1 b2 c4)
 (n1:c4.length<=1000000) (n2:60*(aY c4).o.length<=1000000) (n3:lg.length+(aY c4).lg.length<=1000000) 
 (ha:args= [.ref W.A.hp,.str (bX c4),.bool b0,.bool b1,.bool b2]\/(args= [.ref W.A.hp,.str (bX c4)]/\b0=true/\b1=true/\b2=true)) (m:Nat) 
 (K:∀H',World W (lg++(aY c4).lg) (sp+(aY c4).lg.length) H'->c8 W H H'->match(aY c4).st with
 |some (.hY v ec)=>∀x,gF H' x 1 v (.aF (ec.map .str))->E x H'
 |_=>Q (.str (fY W (aY c4).o)) H'):aE aB prog (41+m) 695 args .none H Q E:=by
 have eb:rS 5 [.bool true,.bool true,.bool true] 11 args=some ([some (.ref W.A.hp),some (.str (bX c4)),some (.bool b0),some (.bool b1),some (.bool b2),.none,.none,.none,.none,.none,.none]):=by
  rcases ha with rfl|⟨rfl,rfl,rfl,rfl⟩<;>rfl
 refine(show 41+m=(40+m)+1 by lia)▸?_;refine aL (aA:=[some (.ref W.A.hp),some (.str (bX c4)),some (.bool b0),some (.bool b1),some (.bool b2),.none,.none,.none,.none,.none,.none]) (show prog 695=some nE from rfl) eb ?_;have WL:(H++ [MO.list []])[H.length]? =some (.list (([]:List (List Nat)).map .str)):=by simp
 have fr0:c8 W H (H++ [MO.list []]):=c8.gK _ _;have C6:H.length∉W.A.l:=λq=>lt_irrefl _ (hw.lt _ q);have fw:∀{H'},Frame W H.length (H++ [MO.list []]) H'->c8 W H H':=λ{H'} f=>by
  have f1:=f.len;refine⟨by rw[ak]at f1;lia,λj hj hn hi=>?_⟩;have e:(H++ [MO.list []])[j]? =H[j]? :=aw hj;rw[f.same j (by simp only[ak];lia) (λq=>by
   rcases mem_cons.mp q with q|q
   ·lia
   ·exact hn q) (by rw[e];exact hi),e]
 simp only[Vb];dsimp only[cI,cH,gI,O8,cB,iI,dF,ir,v5,b9,ct,bF.of,rA,rB];refine Ce ok C6 m hc rfl (hw.gK _) WL n1 n2 n3 ?_;intro H' aP o ho Sk RV;have K:=K H' Sk (fw RV);cases e:(aY c4).st with
 |none=>
  replace K:=e▸K;intro zh h1 h2 h3;have h1:zh.flatten=fY W (aY c4).o:=h1
  match o,ho with
  | [o1,o2,o3,o4],_=>
  refine NO h3 h2 ?_;rw[h1];exact .inl K
 |some s=>
  rw[e]at K;cases s with
  |brk=>exact λaA=>.inl K
  |hY v ec=>exact λx aA hx=>.inl (K x hx)
theorem kB:QA.all lR=true:=by kernel_rfl
theorem kV:XJ.all lR=true:=by kernel_rfl
theorem kC1:QB.all lR=true:=by kernel_rfl
theorem kC2:QC.all lR=true:=by kernel_rfl
theorem aam:(qz sD).all lR=true:=by kernel_rfl
theorem aan:(qz hK).all lR=true:=by kernel_rfl
theorem aao:(qz uY).all lR=true:=by kernel_rfl
theorem aap:(qz E4).all lR=true:=by kernel_rfl
theorem aaq:(qz E5).all lR=true:=by kernel_rfl
theorem aar:(qz eI).all lR=true:=by kernel_rfl
theorem aas:(qz eJ).all lR=true:=by kernel_rfl
inductive iG where
 |gC (t:List Nat)
 |nF (why:List Nat) (ec:List (List Nat))
 |call (w how:List Nat)
 |nx (w how:List Nat)
 |y9 (w:List Nat)
def aC:List iG->tS
 | []=>⟨[],[],.none⟩
 | .gC t::r=>⟨t++(aC r).o,(aC r).lg,(aC r).st⟩
 | .nF v ec::_=>⟨[],[],some (.hY v ec)⟩
 | .y9 w::r=>⟨(aC r).o,w::(aC r).lg,(aC r).st⟩
 | .call w how::r=>if dz how eI then⟨[],[w],some .brk⟩else if dz how eJ then⟨[],[w],some (.hY jN nu)⟩else⟨given how++(aC r).o,w::(aC r).lg,(aC r).st⟩
 | .nx w how::r=>if dz how eI then⟨[],[w],some .brk⟩else if dz how eJ then⟨[],[w],some (.hY jN nu)⟩else if dz how sD then⟨[],[w],some (.hY (eQ rg) (lY rg))⟩
   else⟨(if dz how hK then [tY]else given how)++(aC r).o,w::(aC r).lg,(aC r).st⟩
structure Fg where
 a:Bool
 b:Bool
 c:Bool
inductive Pc where
 |lit (i:Nat)
 |bs (i:Nat)
 |nm (i:Nat)
 |yb
 |Yo (i:Nat)
 |Yn (h:List Nat)
 |el (h:List Nat)
 |CG (h:List Nat)
 |yf
 |CH (h:List Nat)
 |FJ (h1 h2:List Nat)
 |Fu (h:List Nat)
 |S4 (i:Nat)
noncomputable def du(l:List (List Nat))(i:Nat):List Nat:=match l,i with
 | [],_=>[]
 |a::_,0=>a
 |_::r,i+1=>du r i
noncomputable def NV:List (List Nat):=[[45,97],[93],[125,123,32],[34],[59,32,35],[45,40,120,41],[10],[36,45]]
noncomputable def Vj:List (List Nat):=[[92,110],[92,120,52,49],[92,92],[92,10,32,32],[92,49,48,49],[92,93],[92,117,50,54,51,97],[92,113]]
noncomputable def Yi:List (List Nat):=[[10],[65],[92],[32],[65],[93],[9786],[113]]
noncomputable def nmT:List (List Nat):=[[36,120],[36,123,120,125],[36,121,40,107,41],[36,123,121,40,107,41,125]]
def nmO:List (List Nat):=[[tX],[tX],[tY],[tY]]
def nV(i:Nat)(on:Bool):List iG:=[.gC (if on then du nmO i else du nmT i)]
def nr(w how:List Nat)(on:Bool):List iG:=if on then [.call w how]else [.gC (qa w how)]
noncomputable def mG(on:Bool)(text why:List Nat)(ec:List (List Nat)):List iG:=if on then [.nF why ec]else [.gC text]
def tv(f s how sN:List Nat):List iG:=if nQ how then [.y9 f,.call s sN]else [.call f how]
def aT:Pc->Fg->List iG
 | .lit i,_=>[.gC (du NV i)]
 | .bs i,f=>[.gC (if f.a then du Yi i else du Vj i)]
 | .nm i,f=>nV i f.c
 | .yb,f=>[.gC (if f.c then [tY]else if f.a then [36,121,40,107,41]else [36,121,40,92,120,54,98,41])]
 | .Yo i,f=>.gC (if f.a then []else [92])::nV i (!f.a&&f.c)
 | .Yn h,f=>.gC (if f.a then []else [92])::nr [49] h (!f.a&&f.b)
 | .el h,f=>if f.c then [.nx [50] h]else .gC [36,121,40]::nr [50] h f.b++ [.gC [41]]
 | .CG h,f=>nr [51] h f.b
 | .yf,f=>if f.b then [.call [52] [tX]]else .gC [91,99,97,108,108,32,52,32]::nV 0 f.c++ [.gC [93]]
 | .CH h,f=>nr (if f.a||f.b then [53]else [92,120,51,53]) h f.b
 | .FJ h1 h2,f=>if f.b then tv [54] [55] h1 h2 else [.gC (zH h1 h2)]
 | .Fu h,f=>if f.b then tv [50] [51] h h else [.gC (zk h)]
 | .S4 i,f=>match i with
  |0=>mG f.c [36,122,122] (eQ u6) (lY u6)
  |1=>if f.b then [.nF qS wa]else .gC [91,110,111,112,101,32]::nV 0 f.c++ [.gC [93]]
  |2=>mG f.b [91,99,97,108,108,32,56,32,123,97,125,98,93] mE eX
  |_=>[.gC (if f.b then []else [91,93])]
def qG:Nat->Fg->List iG
 |1,f=>mG f.b [91,99,97,108,108,32,56,32,107] pv eX
 |2,f=>mG f.c [36,123,120] pq eX
 |3,f=>mG f.c [36,121,40,107] pw eX
 |5,f=>mG f.b [91,99,97,108,108,32,56,32,34,107] pz eX
 |n,_=>[.gC (if beq n 4 then [92]else [])]
noncomputable def qM:Fg:=⟨false,false,false⟩
def mP(p:Pc):List Nat:=(aC (aT p qM)).o
def lk(e:Nat):List Nat:=(aC (qG e qM)).o
def XI:List Un:=QB++QC++bT.flatMap qz
def Gv:Nat->List Un
 |0=>QA
 |1=>XI
 |_=>XJ
def oW:List (List Nat)->List (List Nat)->Bool
 | [],[]=>true
 |a::r,b::q=>dz a b&&oW r q
 |_,_=>false
noncomputable def S7(r:UR)(f:List Nat->List (List Nat)->Bool):Bool:=match r with
 | .go c d=>f c d
 |_=>false
def VQ(a b:UR):Bool:=match a with
 | .go a l=>S7 b λc d=>dz a c&&oW l d
 | .brk a=>(match b with
  | .brk b=>oW a b
  |_=>false)
 | .hY x y z=>(match b with
  | .hY d e f=>dz x d&&oW y e&&oW z f
  |_=>false)
def Be(k:Nat)(tt:List Nat)(n:Nat)(sb:Bool)(r:UR)(z:Nat):Bool:=(Gv k).any λu=>beq u.z z&&(u.sb==sb)&&beq u.n n&&beq u.k k&&dz u.t tt&&VQ u.r r
def E6(k:Nat)(tt:List Nat)(n:Nat)(sb:Bool)(r:UR):Bool:=Be k tt n sb r 0||(Be k tt n sb r 1&&Be k tt n sb r 2)||(Be k tt n sb r 3&&Be k tt n sb r 4)
def yJ(fin:Bool)(k:Nat)(t N7:List Nat)(r:UR):Bool:=E6 k t t.length false r||(match N7 with
 |c::_=>E6 k (t++ [c]) t.length false r
 | []=>E6 k t t.length true r&&(fin||zb.all λc=>E6 k (t++ [c]) t.length false r))
def PU(f:Fg)(t:List Nat)(r:UR):Bool:=m4 false t λc=>S7 r λo l=>m4 false o λd=>l.isEmpty&&(beq c d&&Nat.blt c 2000000&&(!Nat.beq c 92|| !f.a)&&(!Nat.beq c 91|| !f.b)&&(!Nat.beq c 36|| !f.c))
def C3(fin:Bool)(f:Fg)(t N7:List Nat)(r:UR):Bool:=!t.isEmpty&&(PU f t r||(f.a&&yJ fin 0 t N7 r)||(f.b&&yJ fin 1 t N7 r)||(f.c&&yJ fin 2 t N7 r))
def rV(fin:Bool)(f:Fg):List GB->Bool
 | []=>true
 |(t,r)::s=>C3 fin f t (bX s) r&&rV fin f s
def nU(k:Nat)(s:List Nat):List Un->Nat->UR->Option (Nat×UR)
 | [],n,r=>if beq n 0 then .none else some (n,r)
 |u::l,n,r=>if Nat.blt n u.n&&Kw (u.t.take u.n) s then nU k s l u.n u.r else nU k s l n r
def wZ(f:Fg):Nat->List Nat->List GB
 |0,_=>[]
 |_,[]=>[]
 |n+1,c::s=>match(if beq c 92&&f.a then nU 0 (c::s) (Gv 0) 0 (.brk [])else if beq c 91&&f.b then nU 1 (c::s) (Gv 1) 0 (.brk [])else if beq c 36&&f.c then nU 2 (c::s) (Gv 2) 0 (.brk [])else .none)with
  |some (j,r)=>((c::s).take j,r)::wZ f n ((c::s).drop j)
  | .none=>([c],.go [c] [])::wZ f n s
def jH(p:Pc)(f:Fg):List GB:=wZ f (mP p).length (mP p)
def iu(e:Nat)(f:Fg):List GB:=wZ f (lk e).length (lk e)
def PI(a b:Mb):Bool:=match a with
 | .brk=>(match b with
  | .brk=>true
  |_=>false)
 | .hY x y=>(match b with
  | .hY c d=>dz x c&&oW y d
  |_=>false)
def AY(a b:Option Mb):Bool:=match a with
 | .none=>b.isNone
 |some a=>cK false b (PI a)
def Ip(a b:tS):Bool:=dz a.o b.o&&oW a.lg b.lg&&AY a.st b.st
def iK:List Nat->Bool
 | []=>true
 |c::_=>zb.any (beq c)
def vW(p:Pc)(f:Fg):Bool:=dz (bX (jH p f)) (mP p)&&rV false f (jH p f)&&Ip (aC (aT p f)) (aY (jH p f))&&iK (mP p)&&ble (jH p f).length 100&&ble (aY (jH p f)).o.length 100&&ble (aY (jH p f)).lg.length 100
def AR(e:Nat)(f:Fg):Bool:=dz (bX (iu e f)) (lk e)&&rV true f (iu e f)&&Ip (aC (qG e f)) (aY (iu e f))&&iK (lk e)&&ble (iu e f).length 100&&ble (aY (iu e f)).o.length 100&&ble (aY (iu e f)).lg.length 100
noncomputable def RR:List Fg:=[⟨true,true,true⟩,⟨true,true,false⟩,⟨true,false,true⟩,⟨true,false,false⟩,⟨false,true,true⟩,⟨false,true,false⟩,⟨false,false,true⟩,⟨false,false,false⟩]
def Kp:List Pc:=(List.range 8).map .lit++(List.range 8).map .bs++(List.range 4).map .nm++ [.yb,.yf]++(List.range 2).map .Yo++(List.range 4).map .S4++bT.map .Yn++bT.map .el++bT.map .CG++bT.map .CH++bT.map .Fu
def Oy:List Pc:=bT.flatMap λh=>bT.map λh2=>.FJ h h2
theorem kP1:(Kp.all λp=>RR.all λf=>vW p f)=true:=by kernel_rfl
theorem kP2:(Oy.all λp=>RR.all λf=>vW p f)=true:=by kernel_rfl
theorem kE:((List.range 6).all λp=>RR.all λf=>AR p f)=true:=by kernel_rfl
theorem lp:∀{b:List (List Nat)},oW a b=true->a=b:=by
 induction a with
 |nil=>
  intro b h;cases b with
  |nil=>rfl
  |cons=>exact(by injection h)
 |cons x r ih=>
  intro b h;cases b with
  |nil=>exact(by injection h)
  |cons y q=>
   have h:=bh (show(dz x y&&oW r q)=true from h);simp only[aW.mp h.1,ih h.2]
theorem JX{r:UR}{f:List Nat->List (List Nat)->Bool}{P:UR->Prop}(h:S7 r f=true)(k:∀c d,f c d=true->P (.go c d)):P r:=by
 cases r with
 |go c d=>exact k c d h
 |_=>exact(by injection h)
theorem Ng(h:VQ a b=true):a=b:=by
 cases a with
 |go a l=>
  refine JX (P:=λb=>UR.go a l=b) h λc d h=>?_;have h:=bh h;simp only[aW.mp h.1,lp h.2]
 |brk a=>cases b with
  |brk b=>exact af _ (lp h)
  |_=>exact(by injection h)
 |hY x y z=>cases b with
  |hY d e f=>
   have h:=bh (show(dz x d&&oW y e&&oW z f)=true from h);have h1:=bh h.1;simp only[aW.mp h1.1,lp h1.2,lp h.2]
  |_=>exact(by injection h)
theorem Iq(h:PI a b=true):a=b:=by
 cases a with
 |brk=>cases b with
  |brk=>rfl
  |_=>exact(by injection h)
 |hY x y=>cases b with
  |hY c d=>
   have h:=bh (show(dz x c&&oW y d)=true from h);simp only[aW.mp h.1,lp h.2]
  |_=>exact(by injection h)
theorem EP(h:AY a b=true):a=b:=by
 cases a with
 |none=>exact(isNone_iff_eq_none.mp h).symm
 |some a=>exact aU ff h λb e h=>e▸af some (Iq h)
theorem yn(h:Ip a b=true):a=b:=by
 have h:=bh (show(dz a.o b.o&&oW a.lg b.lg&&AY a.st b.st)=true from h);have h1:=bh h.1;show tS.mk a.o a.lg a.st=b;simp only[aW.mp h1.1,lp h1.2,EP h.2]
theorem O4(k:Nat)(u:Un)(h:u∈Gv k):lR u=true:=by
 unfold Gv at h;split at h
 ·exact bj kB u h
 ·unfold XI at h;rcases mem_append.mp h with h|h
  ·rcases mem_append.mp h with h|h
   ·exact bj kC1 u h
   ·exact bj kC2 u h
  ·obtain⟨h1,m1,m2⟩:=mem_flatMap.mp h;simp only[bT,mem_cons,not_mem_nil,or_false]at m1;rcases m1 with rfl|rfl|rfl|rfl|rfl|rfl|rfl
   ·exact bj aam u m2
   ·exact bj aan u m2
   ·exact bj aao u m2
   ·exact bj aap u m2
   ·exact bj aaq u m2
   ·exact bj aar u m2
   ·exact bj aas u m2
 ·exact bj kV u h
theorem NC(h:Be k tt n sb r z=true):∃u,lR u=true/\u.k=k/\u.n=n/\u.r=r/\u.z=z/\u.t=tt/\u.sb=sb:=by
 obtain⟨u,m,h⟩:=any_eq_true.mp h;simp only[and_eq_true]at h;obtain⟨⟨⟨⟨⟨h1,h2⟩,h3⟩,h4⟩,h5⟩,h6⟩:=h;exact⟨u,O4 k u m,au h4,au h3,Ng h6,au h1,aW.mp h5,beq_iff_eq.mp h2⟩
theorem qZ(h:E6 k tt t.length sb r=true)(hf:∃tE,t++rest=tt++tE/\(sb=true->tE= [])):Ck k t rest r:=by
 have F:∀{z},Be k tt t.length sb r z=true->∃u,Ap u k t rest r z:=λ{z} h=>by
  obtain⟨u,h1,h2,h3,h4,h5,h6,h7⟩:=NC h;exact⟨u,h1,h2,h3,h4,h5,by refine h6▸h7▸?_;exact hf⟩
 unfold E6 at h;rcases or_eq_true_iff.mp h with h|h
 ·rcases or_eq_true_iff.mp h with h|h
  ·exact .inl (F h)
  ·have h:=bh h;exact .inr (.inl ⟨F h.1,F h.2⟩)
 ·have h:=bh h;exact .inr (.inr ⟨F h.1,F h.2⟩)
theorem wH(h:iK s=true):s= []\/∃c r,s=c::r/\c∈zb:=by
 cases s with
 |nil=>exact .inl rfl
 |cons c r=>
  obtain⟨d,m,e⟩:=any_eq_true.mp (show zb.any (beq c)=true from h);exact .inr ⟨c,r,rfl,by rw[au e];exact m⟩
set_option tactic.hygienic true in
theorem sz(h:yJ fin k t N7 r=true)(hf:fin=true->more= [])(hm:iK more=true):Ck k t (N7++more) r:=by
 unfold yJ at h;rcases or_eq_true_iff.mp h with h|h
 ·exact qZ h ⟨_,rfl,λq=>by injection q⟩
 ·split at h
  ·rename_i c l h'
   exact qZ h ⟨l++more,by rw[aq];rfl,λq=>by injection q⟩
  ·have h:=bh h;have VK:more= []->Ck k t ([]++more) r:=λq=>qZ h.1 ⟨[],by rw[q];simp,λu_=>rfl⟩;rcases or_eq_true_iff.mp h.2 with q|q
   ·exact VK (hf q)
   ·rcases wH hm with q1|⟨c,l,rfl,m⟩
    ·exact VK q1
    ·exact qZ (bj q c m) ⟨l,by simp,λq=>by injection q⟩
theorem IV(h:(!Nat.beq c m|| !b)=true)(q:c=m):b=false:=
 (or_eq_true_iff.mp h).elim (λh=>(by injection(h.symm.trans (af (!·) (q▸beq_refl c:beq c m=true))))) (not_eq_true' _).mp
theorem IU(h:PU f t r=true):xR f.a f.b f.c t r:=
 d8 (P:=λt=>xR f.a f.b f.c t r) ff h λc h=>JX (P:=λr=>xR f.a f.b f.c [c] r) h λo l h=>d8 (P:=λo=>xR f.a f.b f.c [c] (.go o l)) ff h λd h=>by
  have h0:=bh h;have h1:=bh h0.2;have h2:=bh h1.1;have h3:=bh h2.1;have h4:=bh h3.1;refine(isEmpty_iff.mp h0.1)▸(au h4.1)▸?_;exact⟨c,rfl,rfl,blt_eq.mp h4.2,IV h3.2,IV h2.2,IV h1.2⟩
theorem IW(h:C3 fin f t N7 r=true)(hf:fin=true->more= [])(hm:iK more=true):L8 f.a f.b f.c t (N7++more) r:=by
 unfold C3 at h;have h:=bh h;refine And.intro (λq=>by rw[q]at h;exact a9 h.1 (by decide)) ?_;rcases or_eq_true_iff.mp h.2 with h|h
 ·rcases or_eq_true_iff.mp h with h|h
  ·rcases or_eq_true_iff.mp h with h|h
   ·exact .inl (IU h)
   ·have h:=bh h;exact .inr ⟨0,h.1,sz h.2 hf hm⟩
  ·have h:=bh h;exact .inr ⟨1,h.1,sz h.2 hf hm⟩
 ·have h:=bh h;exact .inr ⟨2,h.1,sz h.2 hf hm⟩
theorem hU:∀a b:List GB,bX (a++b)=bX a++bX b
 | [],_=>rfl
 |(t,r)::a,b=>by show t++bX (a++b)=_;rw[hU a b];simp[bX]
theorem oO:∀{a b:List GB},rV fin f a=true->(fin=true->bX b= [])->iK (bX b)=true->rF f.a f.b f.c b->rF f.a f.b f.c (a++b)
 | [],_,_,_,_,h=>h
 |(t,r)::a,b,h,hf,hh,hc=>by
  have h:=bh (show(C3 fin f t (bX a) r&&rV fin f a)=true from h);refine⟨?_,oO h.2 hf hh hc⟩;show L8 _ _ _ t (bX (a++b)) r;rw[hU];exact IW h.1 hf hh
noncomputable def fN(a b:tS):tS:=match a.st with
 | .none=>⟨a.o++b.o,a.lg++b.lg,b.st⟩
 |some _=>a
theorem gZ(o:List Nat)(l:List (List Nat))(e b:tS):tS.mk (o++(fN e b).o) (l++(fN e b).lg) (fN e b).st=fN ⟨o++e.o,l++e.lg,e.st⟩ b:=by
 cases e with|mk eo el es=>cases es with
  |none=>exact congr (af tS.mk (aq o eo b.o).symm) (aq l el b.lg).symm▸rfl
  |some _=>rfl
theorem iP(a b:List GB):aY (a++b)=fN (aY a) (aY b):=by
 induction a with
 |nil=>rfl
 |cons p a ih=>cases p with|mk t r=>cases r with
  |go o l=>
   show tS.mk (o++(aY (a++b)).o) (l++(aY (a++b)).lg) (aY (a++b)).st=_;refine ih▸?_;exact gZ o l _ _
  |_=>rfl
theorem dC:∀a b:List iG,aC (a++b)=fN (aC a) (aC b)
 | [],b=>rfl
 | .gC t::a,b=>by
  show tS.mk (t++(aC (a++b)).o) (aC (a++b)).lg (aC (a++b)).st=fN ⟨t++(aC a).o,(aC a).lg,(aC a).st⟩ _;refine(dC a b)▸?_;exact gZ t [] _ _
 | .nF v ec::a,b=>rfl
 | .y9 w::a,b=>by
  show tS.mk (aC (a++b)).o (w::(aC (a++b)).lg) (aC (a++b)).st=fN ⟨(aC a).o,w::(aC a).lg,(aC a).st⟩ _;refine(dC a b)▸?_;exact gZ [] [w] _ _
 | .call w how::a,b=>by
  show(if dz how eI then _ else if dz how eJ then _ else tS.mk (given how++(aC (a++b)).o) (w::(aC (a++b)).lg) (aC (a++b)).st)=fN (if dz how eI then _ else if dz how eJ then _ else⟨given how++(aC a).o,w::(aC a).lg,(aC a).st⟩) _;split
  ·rfl
  ·split
   ·rfl
   ·refine(dC a b)▸?_;exact gZ _ [w] _ _
 | .nx w how::a,b=>by
  show(if dz how eI then _ else if dz how eJ then _ else if dz how sD then _ else tS.mk ((if dz how hK then [tY]else given how)++(aC (a++b)).o) (w::(aC (a++b)).lg) (aC (a++b)).st)=fN (if dz how eI then _ else if dz how eJ then _ else if dz how sD then _ else⟨(if dz how hK then [tY]else given how)++(aC a).o,w::(aC a).lg,(aC a).st⟩) _;split
  ·rfl
  ·split
   ·rfl
   ·split
    ·rfl
    ·refine(dC a b)▸?_;exact gZ _ [w] _ _
def Xa:List Pc:=Kp++Oy
theorem oY(f:Fg):f∈RR:=by
 cases f with|mk a b c=>cases a with
  |true=>cases b with
   |true=>cases c with
    |true=>exact .head _
    |false=>exact .tail _ (.head _)
   |false=>cases c with
    |true=>exact .tail _ (.tail _ (.head _))
    |false=>exact .tail _ (.tail _ (.tail _ (.head _)))
  |false=>refine .tail _ (.tail _ (.tail _ (.tail _ ?_)));cases b with
   |true=>cases c with
    |true=>exact .head _
    |false=>exact .tail _ (.head _)
   |false=>cases c with
    |true=>exact .tail _ (.tail _ (.head _))
    |false=>exact .tail _ (.tail _ (.tail _ (.head _)))
theorem kP(h:p∈Xa)(f:Fg):vW p f=true:=by
 rcases mem_append.mp h with h|h
 ·exact bj (bj kP1 p h) f (oY f)
 ·exact bj (bj kP2 p h) f (oY f)
theorem kE'(h:e<6)(f:Fg):AR e f=true:=bj (bj kE e (mem_range.mpr h)) f (oY f)
def eA(ps:List Pc)(e:Nat)(f:Fg):List GB:=ps.flatMap (jH · f)++iu e f
def aM(ps:List Pc)(e:Nat)(f:Fg):List iG:=ps.flatMap (aT · f)++qG e f
def bA(ps:List Pc)(e:Nat):List Nat:=ps.flatMap mP++lk e
theorem Bg(ha:iK a=true)(hb:iK b=true):iK (a++b)=true:=by
 cases a with
 |nil=>exact hb
 |cons c r=>exact ha
structure UO(ps:List Pc)(e:Nat)(f:Fg):Prop where
 ch:rF f.a f.b f.c (eA ps e f)
 tx:bX (eA ps e f)=bA ps e
 ef:aY (eA ps e f)=aC (aM ps e f)
 hd:iK (bA ps e)=true
 n1:(eA ps e f).length<=100*(ps.length+1)
 n2:(aY (eA ps e f)).o.length<=100*(ps.length+1)
 n3:(aY (eA ps e f)).lg.length<=100*(ps.length+1)
theorem AW(a b:tS):(fN a b).o.length<=a.o.length+b.o.length/\(fN a b).lg.length<=a.lg.length+b.lg.length:=by
 unfold fN;split<;>simp
theorem rL(he:e<6)(f:Fg):∀(ps:List Pc),(∀p∈ps,p∈Xa)->UO ps e f
 | [],_=>by
  have h:=kE' he f;unfold AR at h;simp only[and_eq_true,ble_eq]at h;obtain⟨⟨⟨⟨⟨⟨h1,h2⟩,h3⟩,h4⟩,h5⟩,h6⟩,h7⟩:=h;have s0:eA [] e f=iu e f:=rfl;have d0:aM [] e f=qG e f:=rfl;have t0:bA [] e=lk e:=rfl;refine⟨?_,?_,?_,h4,?_,?_,?_⟩
  ·have:=oO (b:=[]) h2 (λu_=>rfl) rfl trivial;simp only[ax]at this;exact this
  ·simp only[s0,t0];exact aW.mp h1
  ·simp only[s0,d0];exact(yn h3).symm
  ·rw[s0];exact h5
  ·rw[s0];exact h6
  ·rw[s0];exact h7
 |p::ps,hp=>by
  have I:=rL he f ps λq hq=>hp q (.tail _ hq);have h:=kP (hp p (.head _)) f;unfold vW at h;simp only[and_eq_true,ble_eq]at h;obtain⟨⟨⟨⟨⟨⟨h1,h2⟩,h3⟩,h4⟩,h5⟩,h6⟩,h7⟩:=h;have s0:eA (p::ps) e f=jH p f++eA ps e f:=by unfold eA;simp only[flatMap_cons,aq]
  have d0:aM (p::ps) e f=aT p f++aM ps e f:=by unfold aM;simp only[flatMap_cons,aq]
  have t0:bA (p::ps) e=mP p++bA ps e:=by unfold bA;simp only[flatMap_cons,aq]
  have l:=AW (aY (jH p f)) (aY (eA ps e f));have i2:=I.n2;have i3:=I.n3;have i1:=I.n1;have ln:(p::ps).length=ps.length+1:=rfl;refine⟨?_,?_,?_,?_,?_,?_,?_⟩
  ·simp only[s0];exact oO h2 (λq=>by injection q) (by rw[I.tx];exact I.hd) I.ch
  ·simp only[s0,t0,hU,aW.mp h1,I.tx]
  ·simp only[s0,d0,iP,dC,yn h3,I.ef]
  ·rw[t0];exact Bg h4 I.hd
  ·rw[s0,ak,ln];lia
  ·rw[s0,iP,ln];lia
  ·rw[s0,iP,ln];lia
noncomputable def cp(x y:List Nat)(s:List Nat):List Nat:=s.flatMap λc=>if c=2000000 then x else if c=2000001 then y else [c]
theorem ku(x y s t:List Nat):cp x y (s++t)=cp x y s++cp x y t:=by unfold cp;simp only[List.flatMap_append]
theorem fc{x y:List Nat}:∀{s:List Nat},d7 s=true->cp x y s=s
 | [],_=>rfl
 |c::s,h=>by
  have h:=bh (show(Nat.blt c 2000000&&d7 s)=true from h);have hc:=blt_eq.mp h.1;have:=fc (x:=x) (y:=y) h.2;unfold cp at this⊢;rw[flatMap_cons,ag (by lia),ag (by lia),this];rfl
theorem oR:cp x y [tX]=x:=by simp[cp,tX]
theorem v9:cp x y [tY]=y:=by simp[cp,tY]
noncomputable def FR:List Nat:=[112,117,116]
noncomputable def pM:List Nat:=[102,97,117,108,116]
noncomputable def jK:List Nat:=[99,97,108,108]
noncomputable def kM:List Nat:=[101,108,101,109,101,110,116]
noncomputable def KD:List Nat:=[108,111,103]
def qW(x y:List Nat):iG->MV
 | .gC t=>.aF [.str FR,.str (cp x y t),.aF []]
 | .nF v ec=>.aF [.str pM,.str v,.aF (ec.map .str)]
 | .call w how=>.aF [.str jK,.str w,.str (cp x y how)]
 | .nx w how=>.aF [.str kM,.str w,.str how]
 | .y9 w=>.aF [.str KD,.str w,.str []]
def iH(x y:List Nat)(H:MH)(Q:PQ)(ds:List iG):Prop:=∀(G:MH) (j:Nat),(H++G)[j]? =some (.list (ds.map (qW x y)))->Q (.ref j) (H++G)
def dB(H:MH)(bk:Nat)(x y:List Nat):Prop:=H[bk]? =some (.dict [(kX,.str x),(uk,.str y)])
theorem dB.gK(h:dB H bk x y)(G:MH):dB (H++G) bk x y:=by
 unfold dB at h⊢;rw[aw (bC h)];exact h
theorem aJ(H:MH)(o:MO):(H++ [o])[H.length]? =some o:=by simp
theorem iH.at(K:iH x y H Q ds)(e:∃G,H1=H++G)(h:H1[j]? =some (.list (ds.map (qW x y)))):Q (.ref j) H1:=by
 obtain⟨G,rfl⟩:=e;exact K G j h
section
variable {x y:List Nat} {H:MH} {Q:PQ} {E:PE} {n bk:Nat}
theorem ll(k:Nat)(h:k<=1000):k<=line:=az h (by decide)
theorem mS(t:List Nat)(K:iH x y H Q [.gC t]):aE aB prog (n+1) 742 [.str (cp x y t)] .none H Q E:=by
 refine aL (aA:=[some (.str (cp x y t))]) (show prog 742=some uS from rfl) rfl ?_;dsimp only[uA,cI,cH,cB,iI,dF,dX,ir,b9,ct,bF.of,eE];exact .inl (K.at ⟨_,rfl⟩ (aJ _ _))
theorem cy(t:List Nat)(ht:d7 t=true)(K:iH x y H Q [.gC t]):aE aB prog (n+1) 742 [.str t] .none H Q E:=by
 have:=mS (E:=E) (n:=n) t K;exact(fc ht)▸this
theorem hP(on:Bool)(t v:List Nat)(ec:List (List Nat))(ht:d7 t=true)(K:iH x y H Q (mG on t v ec)):aE aB prog (n+2) 749 [.bool on,.str t,.str v,.aF (ec.map .str)] .none H Q E:=by
 refine aL (aA:=[some (.bool on),some (.str t),some (.str v),some (.aF (ec.map .str))]) (n:=n+1) (show prog 749=some qg from rfl) rfl ?_;dsimp only[pY,cI,cH,cB,iI,dF,kY,dX,ir,rY,bS,b9,ct,bF.of,eE,gz,Ah,Ai];cases on
 ·simp only[false_eq_true,if_false];exact cy t ht λG j h=>.inl (K.at ⟨_,rfl⟩ h)
 ·simp only[if_true];exact .inl (K.at ⟨_,rfl⟩ (aJ _ _))
theorem qV(w how:List Nat)(on:Bool)(hw:d7 w=true)(hh:d7 how=true)(lw:w.length<=100)(lh:how.length<=100)(K:iH x y H Q (nr w how on)):aE aB prog (n+2) 756 [.str w,.str how,.bool on] .none H Q E:=by
 refine aL (aA:=[some (.str w),some (.str how),some (.bool on)]) (n:=n+1) (show prog 756=some mF from rfl) rfl ?_;dsimp only[mu,cI,cH,cB,iI,dF,kY,dX,ir,rY,fW,bS,b9,ct,bF.of,eE,gz,Ah,Ai];cases on
 ·simp only[false_eq_true,if_false];refine And.intro (ll _ (by simp;lia)) (And.intro (ll _ (by simp;lia)) (And.intro (ll _ (by simp;lia)) (And.intro (ll _ (by simp;lia)) ?_)));refine cy (qa w how) ?_ λG j h=>.inl (K.at ⟨_,rfl⟩ h);unfold d7 qa at *;simp only[List.all_append,hw,hh];rfl
 ·simp only[if_true];refine .inl (K.at ⟨_,rfl⟩ ?_);simp only[aJ];unfold nr;rw[ah rfl];show _=some (MO.list [MV.aF [.str jK,.str w,.str (cp x y how)]]);rw[fc hh];rfl
end
theorem zr:∀(l:List (List Nat)) (i:Nat),i<l.length->(l.map MV.str)[i]? =some (.str (du l i))
 | [],_,h=>a9 h (not_lt_zero _)
 |_::_,0,_=>rfl
 |_::r,i+1,h=>by
  show(r.map MV.str)[i]? =_;rw[zr r i (Nat.lt_of_succ_lt_succ h)];rfl
theorem kD(h:H[r]? =some (.list vs))(k:Int):cL H (.ref r) (.int k)=(dZ vs.length k).bind λj=>vs[j]? :=u1 h
theorem I9{H:MH}{r:Nat}{vs:List MV}{k:Int}(l:List (List Nat))(h:H[r]? =some (.list vs))(e:vs=l.map .str)(h1:0<=k)(h2:k<l.length):cL H (.ref r) (.int k)=some (.str (du l k.toNat)):=by
 subst e;exact(kD h k).trans ((af (Option.bind · _) (lE h1 (by rw[ar];exact h2))).trans (zr l _ (by lia)))
theorem E8(h:H[r]? =some (.dict es)):cL H (.ref r) (.str k)=getD es k:=u0 h
theorem dB.x{H:MH}{bk:Nat}{x y:List Nat}(h:dB H bk x y):cL H (.ref bk) (.str [120])=some (.str x):=by rw[E8 h];rfl
theorem dB.y{H:MH}{bk:Nat}{x y:List Nat}(h:dB H bk x y):cL H (.ref bk) (.str [121,40,107,41])=some (.str y):=by rw[E8 h];rfl
section
variable {x y:List Nat} {H:MH} {Q:PQ} {E:PE} {n bk:Nat}
theorem nW(hb:dB H bk x y)(w:Int)(h1:0<=w)(h2:w<4)(on:Bool)(K:iH x y H Q (nV w.toNat on)):aE aB prog (n+2) 763 [.int w,.bool on,.ref bk] .none H Q E:=by
 refine aL (aA:=[some (.int w),some (.bool on),some (.ref bk)]) (n:=n+1) (show prog 763=some qj from rfl) rfl ?_;dsimp only[p7,cI,cH,gj,cB,iI,dF,kY,ir,fb,rY,fX,bS,b9,ct,bF.of,bF.eB,eE,gz,Ah,Ai];have K':∀t,nV w.toNat on= [.gC t]->aE aB prog (n+1) 742 [.str (cp x y t)] .none H (λv H1=>lS H Q v H1) E:=λt e=>mS t λG j h=>.inl (K.at ⟨_,rfl⟩ (by rw[e];exact h));cases on
 ·simp only[false_eq_true,if_false];rw[I9 nmT (aJ _ _) (by rfl) h1 (by exact h2)];refine cy (du nmT w.toNat) ?_ λG j h=>.inl (K.at ⟨_,by rw[aq]⟩ h);have:w=0\/w=1\/w=2\/w=3:=by lia
  rcases this with rfl|rfl|rfl|rfl<;>rfl
 ·simp only[if_true,MP,oP,YO];have:w=0\/w=1\/w=2\/w=3:=by lia
  rcases this with rfl|rfl|rfl|rfl
  ·simp only[show decide ((0:Int)<2)=true from rfl,if_true,hb.x];have:=mS (x:=x) (y:=y) (E:=λx H1=>j5 H E x H1) (n:=n) [tX] (H:=H) (Q:=λv H1=>lS H Q v H1) λG j h=>.inl (K.at ⟨_,rfl⟩ h);rwa[oR]at this
  ·simp only[show decide ((1:Int)<2)=true from rfl,if_true,hb.x];have:=mS (x:=x) (y:=y) (E:=λx H1=>j5 H E x H1) (n:=n) [tX] (H:=H) (Q:=λv H1=>lS H Q v H1) λG j h=>.inl (K.at ⟨_,rfl⟩ h);rwa[oR]at this
  ·simp only[show decide ((2:Int)<2)=false from rfl,false_eq_true,if_false,hb.y];have:=mS (x:=x) (y:=y) (E:=λx H1=>j5 H E x H1) (n:=n) [tY] (H:=H) (Q:=λv H1=>lS H Q v H1) λG j h=>.inl (K.at ⟨_,rfl⟩ h);rwa[v9]at this
  ·simp only[show decide ((3:Int)<2)=false from rfl,false_eq_true,if_false,hb.y];have:=mS (x:=x) (y:=y) (E:=λx H1=>j5 H E x H1) (n:=n) [tY] (H:=H) (Q:=λv H1=>lS H Q v H1) λG j h=>.inl (K.at ⟨_,rfl⟩ h);rwa[v9]at this
theorem DS(f s how sN:List Nat)(hh:how∈bT)(hl:d7 sN=true)(K:iH x y H Q (tv f s how sN)):aE aB prog (n+1) 770 [.str f,.str s,.str how,.str sN] .none H Q E:=by
 refine aL (aA:=[some (.str f),some (.str s),some (.str how),some (.str sN)]) (show prog 770=some sj from rfl) rfl ?_;dsimp only[rQ,cI,cH,cB,iI,dF,dX,ir,fb,rY,b9,ct,bF.of,bF.eB,eE,gz,Ai];have e:dc .ja (H++ [MO.list [.str [111,107],.str [107]]]) (.str how) (.ref H.length)=some (nQ how):=by
  refine(q8 (aJ _ _)).trans ?_;simp only[bT,mem_cons,not_mem_nil,or_false]at hh;rcases hh with rfl|rfl|rfl|rfl|rfl|rfl|rfl<;>rfl
 refine e▸?_;dsimp only;have lit:d7 how=true:=by
  simp only[bT,mem_cons,not_mem_nil,or_false]at hh;rcases hh with rfl|rfl|rfl|rfl|rfl|rfl|rfl<;>rfl
 cases ep:nQ how
 ·simp only[false_eq_true,if_false];refine .inl (K.at ⟨_,by rw[aq]⟩ ?_);rw[aJ];unfold tv;rw[ep];show _=some (MO.list [MV.aF [.str jK,.str f,.str (cp x y how)]]);rw[fc lit];rfl
 ·simp only[if_true];refine .inl (K.at ⟨_,by rw[aq]⟩ ?_);rw[aJ];unfold tv;rw[ep];show _=some (MO.list [MV.aF [.str KD,.str f,.str []],MV.aF [.str jK,.str s,.str (cp x y sN)]]);rw[fc hl];rfl
end
theorem gi(H:MH)(a b:MO):(H++ [a]).set H.length b=H++ [b]:=by
 simp only[List.set_append];simp
noncomputable def nG(f:Fg):MV:=.aF [.bool f.a,.bool f.b,.bool f.c]
theorem fg0(f:Fg):cL H (nG f) (.int 0)=some (.bool f.a):=rfl
theorem fg1(f:Fg):cL H (nG f) (.int 1)=some (.bool f.b):=rfl
theorem fg2(f:Fg):cL H (nG f) (.int 2)=some (.bool f.c):=rfl
theorem nY:∀{l:List (List Nat)} {i:Nat},l.all d7=true->d7 (du l i)=true
 | [],_,_=>rfl
 |a::l,0,h=>(bh (show(d7 a&&l.all d7)=true from h)).1
 |a::l,i+1,h=>nY (l:=l) (i:=i) (bh (show(d7 a&&l.all d7)=true from h)).2
noncomputable def tJ(kind rest:Int):Pc:=if kind<2 then .lit (rest%8).toNat else if kind=2 then .bs (rest%8).toNat else if kind<5 then .nm (rest%4).toNat else .yb
theorem eC(a:Int)(h:0<b):0<=a%b/\a%b<b:=⟨emod_nonneg _ (by lia),emod_lt_of_pos _ h⟩
section
variable {x y:List Nat} {H:MH} {Q:PQ} {E:PE} {n bk:Nat}
noncomputable def abr(rest:Int):Int:=rest%8
theorem Sm{l:List (List Nat)}(hl:l.length=8)(G:MH)(rest:Int):cL (G++ [MO.list (l.map .str)]) (.ref G.length) (.int (rest%8))=some (.str (du l (rest%8).toNat)):=
 I9 l (aJ _ _) rfl (emod_nonneg _ (by decide)) (by rw[hl];exact emod_lt_of_pos _ (by decide))
theorem iH.in{ds:List iG}{R:SQ}{G:MH}(K:iH x y H Q ds):iH x y (H++G) (λv H1=>lS H Q v H1) ds:=λG2 j h=>.inl (K.at ⟨_,aq _ _ _⟩ h)
theorem iH.Bk(K:iH x y H Q ds):iH x y H (λv H1=>lS H Q v H1) ds:=λu_ u_ h=>.inl (K _ _ h)
theorem F0(hb:dB H bk x y)(kind rest:Int)(f:Fg)(hk:kind<5\/kind=7)(K:iH x y H Q (aT (tJ kind rest) f)):aE aB prog (n+3) 777 [.int kind,.int rest,nG f,.ref bk] .none H Q E:=by
 refine aL (aA:=[some (.int kind),some (.int rest),some (nG f),some (.ref bk),.none]) (n:=n+2) (show prog 777=some nB from rfl) rfl ?_;unfold tJ at K;by_cases k1:kind<2
 ·rw[ah k1]at K;refine lN (c:=decide (kind<2)) (λu_ u_ k=>k) (aj k1) (fQ ?_);refine And.intro ⟨by decide,by decide⟩ (fS (Sm (l:=NV) rfl _ _) ?_);exact cy (x:=x) (y:=y) (n:=n+1) (du NV (rest%8).toNat) (nY (l:=NV) rfl) (K.in (R:=λu_ u_ u_=>True))
 rw[ag k1]at K;refine d6 (c:=decide (kind<2)) (λu_ u_ k=>k) (ai k1) ?_;by_cases k2:kind=2
 ·rw[ah k2]at K;refine lN (c:=decide (kind=2)) (λu_ u_ k=>k) (aj k2) (pU ?_);refine And.intro ⟨by decide,by decide⟩ (fS (Sm (l:=Vj) rfl _ _) (fQ (kq ?_)));cases hf:f.a
  ·have e:aT (.bs (rest%8).toNat) f= [.gC (du Vj (rest%8).toNat)]:=by simp only[aT,hf];rfl
   rw[e]at K;refine pd (c:=f.a) (λu_ u_ k=>k) hf (rE (.str (du Vj (rest%8).toNat)) (λu_ u_ k=>k) (dn ?_));exact cy (x:=x) (y:=y) (n:=n+1) _ (nY (l:=Vj) rfl) (K.in (R:=λu_ u_ u_=>True))
  ·have e:aT (.bs (rest%8).toNat) f= [.gC (du Yi (rest%8).toNat)]:=by simp only[aT,hf];rfl
   rw[e]at K;refine mI (c:=f.a) (λu_ u_ k=>k) hf ?_;refine And.intro ⟨by decide,by decide⟩ (fS (Sm (l:=Yi) rfl _ _) (dn ?_));rw[aq];exact cy (x:=x) (y:=y) (n:=n+1) _ (nY (l:=Yi) rfl) (K.in (R:=λu_ u_ u_=>True))
 replace K:=(ag k2)▸K;refine d6 (c:=decide (kind=2)) (λu_ u_ k=>k) (ai k2) ?_;by_cases k3:kind<5
 ·rw[ah k3]at K;refine lN (c:=decide (kind<5)) (λu_ u_ k=>k) (aj k3) (fQ ?_);refine And.intro ⟨by decide,by decide⟩ ?_;exact nW hb _ (emod_nonneg _ (by decide)) (emod_lt_of_pos _ (by decide)) f.c K.Bk
 replace K:=(ag k3)▸K;refine d6 (c:=decide (kind<5)) (λu_ u_ k=>k) (ai k3) ?_;cases hf:f.c
 ·refine d6 (c:=f.c) (λu_ u_ k=>k) hf (fQ (kq ?_));cases hg:f.a
  ·have e:aT .yb f= [.gC [36,121,40,92,120,54,98,41]]:=by simp only[aT,hf,hg];rfl
   rw[e]at K;exact pd (c:=f.a) (λu_ u_ k=>k) hg (rE (.str [36,121,40,92,120,54,98,41]) (λu_ u_ k=>k) (dn (cy (x:=x) (y:=y) (n:=n+1) _ rfl K.Bk)))
  ·have e:aT .yb f= [.gC [36,121,40,107,41]]:=by simp only[aT,hf,hg];rfl
   rw[e]at K;exact mI (c:=f.a) (λu_ u_ k=>k) hg (rE (.str [36,121,40,107,41]) (λu_ u_ k=>k) (dn (cy (x:=x) (y:=y) (n:=n+1) _ rfl K.Bk)))
 ·have e:aT .yb f= [.gC [tY]]:=by rw[aT,hf];rfl
  rw[e]at K;refine lN (c:=f.c) (λu_ u_ k=>k) hf (fQ (fS hb.y ?_));have:=mS (x:=x) (y:=y) (E:=λx H1=>j5 H E x H1) (n:=n+1) [tY] K.Bk;rw[v9]at this;exact this
theorem dQ(ha:H[i]? =some (.list a))(hb:H[j]? =some (.list b))(la:a.length<=1000)(lb:b.length<=1000)(K:Q (.ref H.length) (H++ [.list (a++b)])):mv .add H (.ref i) (.ref j) Q:=by
 exact BI ha (BI hb ⟨az (add_le_add la lb) (by decide),K⟩)
theorem bM{H G:MH}{j:Nat}{o:MO}(h:H[j]? =some o):(H++G)[j]? =some o:=by rw[aw (bC h)];exact h
theorem jd(i:Nat)(b:Bool):(nV i b).length=1:=by cases b<;>rfl
theorem S5(hb:dB H bk x y)(w:Int)(h1:0<=w)(h2:w<4)(f:Fg)(K:iH x y H Q (aT (.S4 w.toNat) f)):aE aB prog (n+3) 784 [.int w,nG f,.ref bk] .none H Q E:=by
 refine aL (aA:=[some (.int w),some (nG f),some (.ref bk)]) (n:=n+2) (show prog 784=some uR from rfl) rfl ?_;by_cases q0:w=0
 ·subst q0;exact lN (c:=true) (λu_ u_ k=>k) rfl (fQ (hP (x:=x) (y:=y) f.c [36,122,122] (eQ u6) (lY u6) rfl K.Bk))
 refine d6 (c:=decide (w=0)) (λu_ u_ k=>k) (ai q0) ?_;by_cases q1:w=1
 ·subst q1;cases hf:f.b
  ·refine d6 (c:=true&&f.b) (λu_ u_ k=>Q7 k) hf ?_;refine lN (c:=true) (λu_ u_ k=>k) rfl (fQ (hX (hX (rU ?_))));refine cy (x:=x) (y:=y) (n:=n+1) [91,110,111,112,101,32] rfl λG j h=>?_;refine nW (hb.gK _) 0 (by decide) (by decide) f.c λG2 j2 h2=>?_;refine dQ (bM h) h2 (show 1<=1000 by decide) (by rw[ar,jd];decide) (rU ?_);refine cy (x:=x) (y:=y) (n:=n+1) [93] rfl λG3 j3 h3=>?_;refine dQ (bM (aJ _ _)) h3 (by simp only[ak,ar,ar,jd];decide) (show 1<=1000 by decide) ?_;refine .inl (K.at ⟨_,by simp only[aq];rfl⟩ ?_);rw[aJ];simp only[aT];simp only[show(1:Int).toNat=1 from rfl,hf,false_eq_true,if_false,show(0:Int).toNat=0 from rfl];rfl
  ·have e:aT (.S4 (1:Int).toNat) f= [.nF qS wa]:=by simp only[aT];simp only[show(1:Int).toNat=1 from rfl,hf,if_true]
   simp only[e]at K;refine lN (c:=true&&f.b) (λu_ u_ k=>Q7 k) hf (fQ ?_);exact hP (x:=x) (y:=y) (n:=n) (E:=λx H1=>j5 H E x H1) true [] qS wa rfl K.Bk
 refine d6 (c:=decide (w=1)&&f.b) (λu_ u_ k=>Q7 k) (by rw[ai q1];rfl) ?_;refine d6 (c:=decide (w=1)) (λu_ u_ k=>k) (ai q1) ?_;by_cases q2:w=2
 ·subst q2;exact lN (c:=true) (λu_ u_ k=>k) rfl (fQ (hP (x:=x) (y:=y) f.b [91,99,97,108,108,32,56,32,123,97,125,98,93] mE eX rfl K.Bk))
 refine d6 (c:=decide (w=2)) (λu_ u_ k=>k) (ai q2) (fQ (kq ?_));have q3:w=3:=by lia
 subst q3;cases hf:f.b
 ·have e:aT (.S4 (3:Int).toNat) f= [.gC [91,93]]:=by unfold aT;simp only[show(3:Int).toNat=3 from rfl,hf,false_eq_true,if_false]
  rw[e]at K;exact pd (c:=f.b) (λu_ u_ k=>k) hf (rE (.str [91,93]) (λu_ u_ k=>k) (dn (cy (x:=x) (y:=y) (n:=n+1) _ rfl K.Bk)))
 ·have e:aT (.S4 (3:Int).toNat) f= [.gC []]:=by unfold aT;simp only[show(3:Int).toNat=3 from rfl,hf,if_true]
  rw[e]at K;exact mI (c:=f.b) (λu_ u_ k=>k) hf (rE (.str []) (λu_ u_ k=>k) (dn (cy (x:=x) (y:=y) (n:=n+1) _ rfl K.Bk)))
theorem M8(w:Int)(h1:0<=w)(h2:w<6)(f:Fg)(K:iH x y H Q (qG w.toNat f)):aE aB prog (n+3) 798 [.int w,nG f] .none H Q E:=by
 refine aL (aA:=[some (.int w),some (nG f)]) (n:=n+2) (show prog 798=some uQ from rfl) rfl ?_;by_cases q1:w=1
 ·subst q1;exact lN (c:=true) (λu_ u_ k=>k) rfl (fQ (hP (x:=x) (y:=y) f.b [91,99,97,108,108,32,56,32,107] pv eX rfl K.Bk))
 refine d6 (c:=decide (w=1)) (λu_ u_ k=>k) (ai q1) ?_;by_cases q2:w=2
 ·subst q2;exact lN (c:=true) (λu_ u_ k=>k) rfl (fQ (hP (x:=x) (y:=y) f.c [36,123,120] pq eX rfl K.Bk))
 refine d6 (c:=decide (w=2)) (λu_ u_ k=>k) (ai q2) ?_;by_cases q3:w=3
 ·subst q3;exact lN (c:=true) (λu_ u_ k=>k) rfl (fQ (hP (x:=x) (y:=y) f.c [36,121,40,107] pw eX rfl K.Bk))
 refine d6 (c:=decide (w=3)) (λu_ u_ k=>k) (ai q3) ?_;by_cases q5:w=5
 ·subst q5;exact lN (c:=true) (λu_ u_ k=>k) rfl (fQ (hP (x:=x) (y:=y) f.b [91,99,97,108,108,32,56,32,34,107] pz eX rfl K.Bk))
 refine d6 (c:=decide (w=5)) (λu_ u_ k=>k) (ai q5) (fQ (kq ?_));by_cases q4:w=4
 ·subst q4;exact mI (c:=true) (λu_ u_ k=>k) rfl (rE (.str [92]) (λu_ u_ k=>k) (dn (cy (x:=x) (y:=y) (n:=n+1) [92] rfl K.Bk)))
 have q0:w=0:=by lia
 subst q0;exact pd (c:=false) (λu_ u_ k=>k) rfl (rE (.str []) (λu_ u_ k=>k) (dn (cy (x:=x) (y:=y) (n:=n+1) [] rfl K.Bk)))
end
def C7:List (List Nat):=[sD,hK,uY,E4,E5,sD,hK,eI,eJ]
def hw(i:Int):List Nat:=du C7 i.toNat
theorem zt:∀{l:List (List Nat)} {i:Nat},i<l.length->du l i∈l
 | [],_,h=>a9 h (not_lt_zero _)
 |a::l,0,_=>.head _
 |a::l,i+1,h=>.tail _ (zt (Nat.lt_of_succ_lt_succ h))
theorem wL(h1:0<=i)(h2:i<9):hw i∈bT:=
 (by decide:∀k:Fin 9,du C7 k.1∈bT) ⟨i.toNat,(Int.toNat_lt h1).mpr h2⟩
theorem fR(m:h∈bT):d7 h=true:=by
 simp only[bT,mem_cons,not_mem_nil,or_false]at m;rcases m with rfl|rfl|rfl|rfl|rfl|rfl|rfl<;>rfl
theorem jA(m:h∈bT):h.length<=8:=by
 simp only[bT,mem_cons,not_mem_nil,or_false]at m;rcases m with rfl|rfl|rfl|rfl|rfl|rfl|rfl<;>decide
def bB(num:Int):Pc:=
 if num%16<5\/num%16=7 then tJ (num%16) (num/16)
 else if num%16=5 then(if num/16%3<2 then .Yo (num/16%3).toNat else .Yn (hw (num/16/3%9)))
 else if num%16=6 then .el (hw (num/16%9))
 else if num%16<11 then .CG (hw (num/16%9))
 else if num%16=11 then .yf
 else if num%16=12 then .CH (hw (num/16%9))
 else if num%16=13 then .FJ (hw (num/16%9)) (hw (num/16/9%9))
 else if num%16=15 then .Fu (hw (num/16%9))
 else .S4 (num/16%4).toNat
theorem kG(a b:List Nat):d7 (a++b)=(d7 a&&d7 b):=List.all_append
section
variable {x y:List Nat} {H:MH} {Q:PQ} {E:PE} {n bk:Nat}
theorem HV(K:iH x y H Q [.call [52] [tX]]):aE aB prog (n+2) 756 [.str [52],.str x,.bool true] .none H Q E:=by
 refine aL (aA:=[some (.str [52]),some (.str x),some (.bool true)]) (n:=n+1) (show prog 756=some mF from rfl) rfl ?_;dsimp only[mu,cI,cH,cB,iI,dF,kY,dX,ir,rY,fW,bS,b9,ct,bF.of,eE,gz,Ah,Ai,if_true];refine .inl (K.at ⟨_,rfl⟩ ?_);rw[aJ];show _=some (MO.list [MV.aF [.str jK,.str [52],.str (cp x y [tX])]]);rw[oR];rfl
def qN(num:Int)(f:Fg)(bk:Nat)(H:MH):Env:=[some (.int num),some (nG f),some (.ref bk),some (.int (num%16)),some (.int (num/16)),some (.ref H.length),some (.str (hw (num/16%9))),some (.str (hw (num/16/9%9))),.none,.none]
def pH(H:MH):MH:=H++ [MO.list (C7.map .str)]
def pIn(num:Int)(f:Fg)(bk:Nat):Env:=[some (.int num),some (nG f),some (.ref bk),.none,.none,.none,.none,.none,.none,.none]
abbrev CP(n:Nat):Calls:=aE aB prog n
theorem Ws(H G:MH)(k:Int):cL (pH H++G) (.ref H.length) (.int (k%9))=some (.str (hw (k%9))):=I9 C7 (bM (aJ _ _)) (by rfl) (emod_nonneg _ (by decide)) (emod_lt_of_pos _ (by decide))
theorem BK(k:cv aB C .none r (qN num f bk H) (pH H) R S):cv aB C .none (.dE [3,4] (.aF [.aZ .fmod (.l 0) (.c (.int 16)),.aZ .fdiv (.l 0) (.c (.int 16))])::
 .bL 5 (.fP [.c (.str [111,107]),.c (.str [107]),.c (.str [99,111,110,116,105,110,117,101]),.c (.str [114,101,116,117,114,110]),.c (.str [115,105,120]),.c (.str [111,107]),.c (.str [107]),.c (.str [98,114,101,97,107]),.c (.str [101,114,114,111,114])])::
 .dE [6,7] (.aF [.bG (.l 5) (.aZ .fmod (.l 4) (.c (.int 9))),.bG (.l 5) (.aZ .fmod (.aZ .fdiv (.l 4) (.c (.int 9))) (.c (.int 9)))])::r) (pIn num f bk) H R S:=by
 have ix:=λk=>Ws H [] k;rw[ax]at ix;refine And.intro ⟨by decide,by decide⟩ ?_;refine And.intro ⟨by decide,by decide⟩ ?_;refine And.intro trivial (And.intro rfl ?_);refine And.intro ⟨by decide,by decide⟩ ?_;refine fS (ix _) ?_;refine And.intro ⟨by decide,by decide⟩ ?_;refine And.intro ⟨by decide,by decide⟩ ?_;refine fS (ix _) ?_;exact And.intro trivial (And.intro rfl k)
def PR(x y:List Nat)(H:MH)(R:SQ)(ds:List iG):Prop:=∀aA,iH x y (pH H) (λv H1=>R (.ret v) aA H1) ds
theorem U5(A B C D:MH):A++B++C++D=A++(B++C++D):=by simp only[aq]
theorem U6(A B C D F G:MH):A++B++C++D++F++G=A++(B++C++D++F++G):=by simp only[aq]
theorem oF(h:a+b<=1000):a+b<=line:=az h (by decide)
theorem UC{K:Bool->MH->Prop}(k:K (a||b) H):if a=true then K true H else if b=true then K true H else K false H:=by cases a<;>cases b<;>exact k
theorem PR.to(K:PR x y H R ds)(e:∃G,H1=pH H++G)(h:H1[j]? =some (.list l))(q:l=ds.map (qW x y)):R (.ret (.ref j)) aA H1:=(K aA).at e (by rw[h,q])
noncomputable def ifB:MS->List MS
 | .ifs _ a _=>a
 |_=>[]
def Qk(i:Nat):List MS:=match p8[i]? with|some s=>ifB s| .none=>[]
variable {R:SQ} {S:SE} {num:Int} {f:Fg}
theorem Ox(hb:dB H bk x y){aA:Env}{t:List Nat}{on:Bool}{G:MH}{j:Nat}(h:(pH H++G)[j]? =some (.list ([iG.gC t].map (qW x y))))(w:Int)(w0:0<=w)(w4:w<4)(K:PR x y H R (.gC t::nV w.toNat on)):
  aE aB prog (n+3) 763 [.int w,.bool on,.ref bk] .none (pH H++G) (λv2 H2=>mv .add H2 (.ref j) v2 λv H1=>R (.ret v) aA H1) (λx H1=>S x aA H1):=
 nW (n:=n+1) ((hb.gK _).gK _) w w0 w4 on λG2 j2 h2=>dQ (bM h) h2 (show 1<=1000 by decide) (by simp only[ar,jd];decide) (K.to ⟨_,U5 _ _ _ _⟩ (aJ _ _) rfl)
theorem oN(w h:List Nat)(on:Bool):(nr w h on).length=1:=by cases on<;>rfl
theorem Tq{aA:Env}{t v h:List Nat}{on:Bool}{G:MH}{j:Nat}(hj:(pH H++G)[j]? =some (.list ([iG.gC t].map (qW x y))))(hv:d7 v=true)(lv:v.length<=100)(hm:h∈bT)(K:PR x y H R (.gC t::nr v h on)):
  aE aB prog (n+3) 756 [.str v,.str h,.bool on] .none (pH H++G) (λv2 H2=>mv .add H2 (.ref j) v2 λv H1=>R (.ret v) aA H1) (λx H1=>S x aA H1):=
 qV (x:=x) (y:=y) (n:=n+1) v h on hv (fR hm) lv (az (jA hm) (by decide)) λG2 j2 h2=>dQ (bM hj) h2 (show 1<=1000 by decide) (by simp only[ar,oN];decide) (K.to ⟨_,U5 _ _ _ _⟩ (aJ _ _) rfl)
theorem lM(k:Int):hw (k%9)∈bT:=wL (emod_nonneg _ (by decide)) (emod_lt_of_pos _ (by decide))
theorem p5b(hb:dB H bk x y){a8:Fg}{t:List Nat}{G:MH}{j:Nat}(h:(pH H++G)[j]? =some (.list ([iG.gC t].map (qW x y))))
  (K:PR x y H R (if num/16%3<2 then .gC t::nV (num/16%3).toNat a8.c else .gC t::nr [49] (hw (num/16/3%9)) a8.b)):cv aB (aE aB prog (n+3)) .none ((Qk 4).drop 2) (bN (bN (qN num f bk H) 8 (some (nG a8))) 9 (some (.ref j))) (pH H++G) R S:=by
 by_cases lt:num/16%3<2
 ·rw[ah lt]at K;refine lN (c:=decide (num/16%3<2)) (λu_ u_ k=>⟨⟨by decide,by decide⟩,k⟩) (aj lt) (fQ (And.intro ⟨by decide,by decide⟩ ?_));exact Ox hb h _ (emod_nonneg _ (by decide)) (Int.lt_trans lt (by decide)) K
 ·rw[ag lt]at K;refine d6 (c:=decide (num/16%3<2)) (λu_ u_ k=>⟨⟨by decide,by decide⟩,k⟩) (ai lt) (fQ ?_);refine And.intro ⟨by decide,by decide⟩ ?_;refine And.intro ⟨by decide,by decide⟩ ?_;refine fS (Ws H G _) ?_;exact Tq h rfl (by decide) (lM _) K
theorem p5(hb:dB H bk x y)(K:PR x y H R (aT (if num/16%3<2 then .Yo (num/16%3).toNat else .Yn (hw (num/16/3%9))) f)):cv aB (aE aB prog (n+3)) .none (Qk 4) (qN num f bk H) (pH H) R S:=by
 cases ha:f.a
 ·refine pU ?_;refine pd (c:=f.a) (λu_ u_ k=>k) ha ?_;refine rE (nG f) (λu_ u_ k=>k) ?_;refine pU (kq ?_);refine pd (c:=f.a) (λu_ u_ k=>k) ha (rE (.str [92]) (λu_ u_ k=>k) (dn ?_));refine cy (x:=x) (y:=y) (n:=n+2) [92] rfl λG j h=>?_;refine p5b hb (a8:=f) h ?_;by_cases lt:num/16%3<2
  ·rw[ah lt]at K⊢;simpa[aT,ha]using K
  ·rw[ag lt]at K⊢;simpa[aT,ha]using K
 ·refine pU ?_;refine mI (c:=f.a) (λu_ u_ k=>k) ha ?_;refine rE (nG ⟨false,false,false⟩) (λu_ u_ k=>k) ?_;refine pU (kq ?_);refine mI (c:=f.a) (λu_ u_ k=>k) ha (rE (.str []) (λu_ u_ k=>k) (dn ?_));refine cy (x:=x) (y:=y) (n:=n+2) [] rfl λG j h=>?_;refine p5b hb (a8:=⟨false,false,false⟩) h ?_;by_cases lt:num/16%3<2
  ·rw[ah lt]at K⊢;simpa[aT,ha]using K
  ·rw[ag lt]at K⊢;simpa[aT,ha]using K
theorem p6(K:PR x y H R (aT (.el (hw (num/16%9))) f)):cv aB (aE aB prog (n+3)) .none (Qk 5) (qN num f bk H) (pH H) R S:=by
 cases hc:f.c
 ·refine fQ ?_;refine pd (c:=f.c) (λu_ u_ k=>k) hc (hX (hX (rU ?_)));refine cy (x:=x) (y:=y) (n:=n+2) [36,121,40] rfl λG j h=>?_;refine qV (x:=x) (y:=y) (n:=n+1) [50] _ f.b rfl (fR (lM _)) (by decide) (az (jA (lM _)) (by decide)) λG2 j2 h2=>?_;refine dQ (bM h) h2 (show 1<=1000 by decide) (by simp only[ar,oN];decide) ?_;refine rU ?_;refine cy (x:=x) (y:=y) (n:=n+2) [41] rfl λG3 j3 h3=>?_;refine dQ (bM (aJ _ _)) h3 (by simp only[ak,ar,ar,oN];decide) (show 1<=1000 by decide) (K.to ⟨_,U6 _ _ _ _ _ _⟩ (aJ _ _) ?_);simp only[aT,hc,false_eq_true,if_false,map_append,map_cons,map_nil,cons_append,nil_append]
 ·refine fQ ?_;refine mI (c:=f.c) (λu_ u_ k=>k) hc ?_;exact K.to ⟨_,rfl⟩ (aJ _ _) (by simp only[aT,hc]<;>rfl)
theorem p10(K:PR x y H R (aT (.CG (hw (num/16%9))) f)):cv aB (aE aB prog (n+3)) .none (Qk 6) (qN num f bk H) (pH H) R S:=
 fQ (qV (x:=x) (y:=y) (n:=n+1) [51] _ f.b rfl (fR (lM _)) (by decide) (az (jA (lM _)) (by decide)) (K _))
theorem p11(hb:dB H bk x y)(K:PR x y H R (aT .yf f)):cv aB (aE aB prog (n+3)) .none (Qk 7) (qN num f bk H) (pH H) R S:=by
 have qI:dB (pH H) bk x y:=hb.gK _;cases hf:f.b
 ·refine d6 (c:=f.b) (λu_ u_ k=>k) hf (fQ (hX (hX (rU ?_))));refine cy (x:=x) (y:=y) (n:=n+2) [91,99,97,108,108,32,52,32] rfl λG j h=>?_;refine nW (n:=n+1) (qI.gK _) 0 (by lia) (by lia) f.c λG2 j2 h2=>?_;refine dQ (bM h) h2 (show 1<=1000 by decide) (by simp only[ar,jd];decide) ?_;refine rU ?_;refine cy (x:=x) (y:=y) (n:=n+2) [93] rfl λG3 j3 h3=>?_;refine dQ (bM (aJ _ _)) h3 (by simp only[ak,ar,ar,jd];decide) (show 1<=1000 by decide) (K.to ⟨_,U6 _ _ _ _ _ _⟩ (aJ _ _) ?_);simp only[aT,hf,false_eq_true,if_false,map_append,map_cons,map_nil,cons_append,nil_append,show(0:Int).toNat=0 from rfl]
 ·have e:aT .yf f= [.call [52] [tX]]:=by simp only[aT,hf,if_true]
  rw[e]at K;refine lN (c:=f.b) (λu_ u_ k=>k) hf (fQ ?_);refine fS (qI.x) ?_;exact HV (x:=x) (y:=y) (E:=λx H1=>S x (qN num f bk H) H1) (n:=n+1) (K _)
theorem p12(K:PR x y H R (aT (.CH (hw (num/16%9))) f)):cv aB (aE aB prog (n+3)) .none (Qk 8) (qN num f bk H) (pH H) R S:=by
 have c5:∀w:List Nat,w=(if f.a||f.b then [53]else [92,120,51,53])->aE aB prog (n+3) 756 [.str w,.str (hw (num/16%9)),.bool f.b] .none (pH H) (λv H1=>R (.ret v) (qN num f bk H) H1) (λx H1=>S x (qN num f bk H) H1):=λw e=>
   qV (x:=x) (y:=y) (n:=n+1) w _ f.b (by rw[e];split<;>rfl) (fR (lM _)) (by rw[e];split<;>decide) (az (jA (lM _)) (by decide)) (by refine e▸?_;exact K _)
 refine fQ (kq ?_);cases ha:f.a<;>cases hb:f.b
 ·exact pd (c:=f.a||f.b) (λu_ u_ k=>UC k) (by rw[ha,hb];rfl) (rE (.str [92,120,51,53]) (λu_ u_ k=>k) (LU (.str (hw (num/16%9))) (λu_ u_ k=>k) (LU (.bool f.b) (λu_ u_ k=>k) (dn (c5 _ (by rw[ha,hb];rfl))))))
 ·exact mI (c:=f.a||f.b) (λu_ u_ k=>UC k) (by rw[ha,hb];rfl) (rE (.str [53]) (λu_ u_ k=>k) (LU (.str (hw (num/16%9))) (λu_ u_ k=>k) (LU (.bool f.b) (λu_ u_ k=>k) (dn (c5 _ (by rw[ha,hb];rfl))))))
 ·exact mI (c:=f.a||f.b) (λu_ u_ k=>UC k) (by rw[ha,hb];rfl) (rE (.str [53]) (λu_ u_ k=>k) (LU (.str (hw (num/16%9))) (λu_ u_ k=>k) (LU (.bool f.b) (λu_ u_ k=>k) (dn (c5 _ (by rw[ha,hb];rfl))))))
 ·exact mI (c:=f.a||f.b) (λu_ u_ k=>UC k) (by rw[ha,hb];rfl) (rE (.str [53]) (λu_ u_ k=>k) (LU (.str (hw (num/16%9))) (λu_ u_ k=>k) (LU (.bool f.b) (λu_ u_ k=>k) (dn (c5 _ (by rw[ha,hb];rfl))))))
theorem p13(K:PR x y H R (aT (.FJ (hw (num/16%9)) (hw (num/16/9%9))) f)):cv aB (aE aB prog (n+3)) .none (Qk 9) (qN num f bk H) (pH H) R S:=by
 have ln:=jA (lM (num/16));have ln2:=jA (lM (num/16/9));refine fQ ?_;cases hf:f.b
 ·have e:aT (.FJ (hw (num/16%9)) (hw (num/16/9%9))) f= [.gC (zH (hw (num/16%9)) (hw (num/16/9%9)))]:=by simp only[aT,hf]<;>rfl
  rw[e]at K;refine pd (c:=f.b) (λu_ u_ k=>k) hf (kq (hX (hX (hX (hX ?_)))));refine And.intro (oF ?_) ?_
  rotate_left
  refine And.intro (oF ?_) ?_
  rotate_left
  refine And.intro (oF ?_) ?_
  rotate_left
  refine And.intro (oF ?_) ?_
  rotate_left
  exact cy (x:=x) (y:=y) (n:=n+2) (zH (hw (num/16%9)) (hw (num/16/9%9))) (by unfold zH;simp only[kG,fR (lM _)];rfl) (K _)
  all_goals simp only[ak,length_cons,length_nil];lia
 ·have e:aT (.FJ (hw (num/16%9)) (hw (num/16/9%9))) f=tv [54] [55] (hw (num/16%9)) (hw (num/16/9%9)):=by simp only[aT,hf]<;>rfl
  rw[e]at K;exact mI (c:=f.b) (λu_ u_ k=>k) hf (DS (x:=x) (y:=y) (n:=n+2) [54] [55] _ _ (lM _) (fR (lM _)) (K _))
theorem p15(K:PR x y H R (aT (.Fu (hw (num/16%9))) f)):cv aB (aE aB prog (n+3)) .none (Qk 10) (qN num f bk H) (pH H) R S:=by
 have ln:=jA (lM (num/16));refine fQ ?_;cases hf:f.b
 ·have e:aT (.Fu (hw (num/16%9))) f= [.gC (zk (hw (num/16%9)))]:=by simp only[aT,hf]<;>rfl
  replace K:=e▸K;refine pd (c:=f.b) (λu_ u_ k=>k) hf (kq (hX (hX ?_)));refine And.intro (oF ?_) ?_
  rotate_left
  refine And.intro (oF ?_) ?_
  rotate_left
  exact cy (x:=x) (y:=y) (n:=n+2) (zk (hw (num/16%9))) (by unfold zk;simp only[kG,fR (lM _)];rfl) (K _)
  all_goals simp only[ak,length_cons,length_nil];lia
 ·have e:aT (.Fu (hw (num/16%9))) f=tv [50] [51] (hw (num/16%9)) (hw (num/16%9)):=by simp only[aT,hf]<;>rfl
  rw[e]at K;exact mI (c:=f.b) (λu_ u_ k=>k) hf (DS (x:=x) (y:=y) (n:=n+2) [50] [51] _ _ (lM _) (fR (lM _)) (K _))
theorem Kt(hb:dB H bk x y)(num:Int)(f:Fg)(K:iH x y H Q (aT (bB num) f)):aE aB prog (n+4) 791 [.int num,nG f,.ref bk] .none H Q E:=by
 refine aL (aA:=pIn num f bk) (n:=n+3) (show prog 791=some qk from rfl) rfl (BK ?_);have K':∀aA:Env,iH x y (pH H) (λv H1=>lS H Q v H1) (aT (bB num) f):=λaA G j h=>.inl (K.at ⟨_,aq _ _ _⟩ h);unfold bB at K';by_cases k1:num%16<5\/num%16=7
 ·rw[ah k1]at K';refine lN (c:=decide (num%16<5)||decide (num%16=7)) (λu_ u_ k=>UC k) (by simpa using k1) (fQ ?_);exact F0 (hb.gK _) _ _ f k1 (K' [])
 replace K':=(ag k1)▸K';refine d6 (c:=decide (num%16<5)||decide (num%16=7)) (λu_ u_ k=>UC k) (by simpa using k1) ?_;by_cases k3:num%16=5
 ·rw[ah k3]at K';exact lN (λu_ u_ k=>k) (aj k3) (p5 hb K')
 replace K':=(ag k3)▸K';refine d6 (λu_ u_ k=>k) (ai k3) ?_;by_cases k4:num%16=6
 ·rw[ah k4]at K';exact lN (λu_ u_ k=>k) (aj k4) (p6 K')
 replace K':=(ag k4)▸K';refine d6 (λu_ u_ k=>k) (ai k4) ?_;by_cases k5:num%16<11
 ·rw[ah k5]at K';exact lN (λu_ u_ k=>k) (aj k5) (p10 K')
 replace K':=(ag k5)▸K';refine d6 (λu_ u_ k=>k) (ai k5) ?_;by_cases k6:num%16=11
 ·rw[ah k6]at K';exact lN (λu_ u_ k=>k) (aj k6) (p11 hb K')
 replace K':=(ag k6)▸K';refine d6 (λu_ u_ k=>k) (ai k6) ?_;by_cases k7:num%16=12
 ·rw[ah k7]at K';exact lN (λu_ u_ k=>k) (aj k7) (p12 K')
 replace K':=(ag k7)▸K';refine d6 (λu_ u_ k=>k) (ai k7) ?_;by_cases k8:num%16=13
 ·rw[ah k8]at K';exact lN (λu_ u_ k=>k) (aj k8) (p13 K')
 replace K':=(ag k8)▸K';refine d6 (λu_ u_ k=>k) (ai k8) ?_;by_cases k9:num%16=15
 ·rw[ah k9]at K';exact lN (λu_ u_ k=>k) (aj k9) (p15 K')
 replace K':=(ag k9)▸K';refine d6 (λu_ u_ k=>k) (ai k9) (fQ ?_);refine And.intro ⟨by decide,by decide⟩ ?_;obtain⟨q1,q2⟩:=eC (num/16) (b:=4) (by lia);exact S5 (hb.gK _) _ q1 q2 f (K' [])
end
theorem OG{n:Nat}{i:Int}(h1:0<=i)(h2:i<n):i.toNat∈List.range n:=mem_range.mpr (by lia)
theorem eU{α:Type}{c:Prop}[Decidable c]{a b:α}{l:List α}(h1:c->a∈l)(h2:¬c->b∈l):(if c then a else b)∈l:=by
 by_cases q:c
 ·rw[ah q];exact h1 q
 ·rw[ag q];exact h2 q
theorem hS(num:Int):bB num∈Xa:=by
 obtain⟨h1,h2⟩:=eC (num/16) (b:=9) (by lia);obtain⟨h3,h4⟩:=eC (num/16/9) (b:=9) (by lia);obtain⟨a1,a2⟩:=eC (num/16) (b:=8) (by lia);obtain⟨b1,b2⟩:=eC (num/16) (b:=4) (by lia);obtain⟨c1,c2⟩:=eC (num/16) (b:=3) (by lia);obtain⟨d1,d2⟩:=eC (num/16/3) (b:=9) (by lia);have m:=wL h1 h2;have m2:=wL h3 h4;have m3:=wL d1 d2;have p1:∀{p},p∈Kp->p∈Xa:=λh=>bf h;have em:∀{f:List Nat->Pc} {h},h∈bT->f h∈bT.map f:=λh=>mem_map_of_mem h;have er:∀{f:Nat->Pc} {i:Int} {n:Nat},0<=i->i<n->f i.toNat∈(List.range n).map f:=λq1 q2=>mem_map_of_mem (OG q1 q2);unfold bB;refine eU (λu_=>eU (λu_=>p1 (bf (bf (bf (bf (bf (bf (bf (bf (bf (bf (er a1 (n:=8) a2)))))))))))) λu_=>eU (λu_=>p1 (bf (bf (bf (bf (bf (bf (bf (bf (bf (mem_append_right _ (er a1 (n:=8) a2)))))))))))) λu_=>eU (λu_=>p1 (bf (bf (bf (bf (bf (bf (bf (bf (mem_append_right _ (er b1 (n:=4) b2))))))))))) λu_=>p1 (bf (bf (bf (bf (bf (bf (bf (mem_append_right _ (Mem.head _)))))))))) λu_=>eU (λu_=>eU (λq=>p1 (bf (bf (bf (bf (bf (bf (mem_append_right _ (er c1 (n:=2) q))))))))) λu_=>p1 (bf (bf (bf (bf (mem_append_right _ (em m3))))))) λu_=>eU (λu_=>p1 (bf (bf (bf (mem_append_right _ (em m)))))) λu_=>eU (λu_=>p1 (bf (bf (mem_append_right _ (em m))))) λu_=>eU (λu_=>p1 (bf (bf (bf (bf (bf (bf (bf (mem_append_right _ (Mem.tail _ (.head _))))))))))) λu_=>eU (λu_=>p1 (bf (mem_append_right _ (em m)))) λu_=>eU (λu_=>mem_append_right _ (mem_flatMap.mpr ⟨_,m,mem_map_of_mem m2⟩)) λu_=>eU (λu_=>p1 (mem_append_right _ (em m))) λu_=>p1 (bf (bf (bf (bf (bf (mem_append_right _ (er b1 (n:=4) b2)))))))
def rH(h:List Nat):Prop:=h∈bT\/h= [tX]
def Ua:iG->Prop
 | .call _ h=>rH h
 | .nx _ h=>h∈bT
 |_=>True
structure GC(x y:List Nat):Prop where
 xl:x.length<=60
 yl:y.length<=60
 hx:∀t∈i8,x≠t
theorem kx(ok:GC x y):∀s:List Nat,(cp x y s).length<=60*s.length
 | []=>by simp[cp]
 |c::s=>by
  have h:=kx ok s;have e:cp x y (c::s)=cp x y [c]++cp x y s:=ku x y [c] s;simp only[e,ak,length_cons];have:(cp x y [c]).length<=60:=by
   show((if c=2000000 then x else if c=2000001 then y else [c])++ []).length<=60;rw[ax];split
   ·exact ok.xl
   ·split
    ·exact ok.yl
    ·simp
  lia
theorem rH.eq(ok:GC x y)(hh:rH h)(ht:t∈i8):decide (cp x y h=t)=dz h t:=by
 rw[we];rcases hh with hh|rfl
 ·rw[fc (fR hh)]
 ·rw[oR,ai (ok.hx t ht)];refine(ai ?_).symm
  rintro rfl
  simp[i8,tX]at ht
section
variable {x y:List Nat} {H:MH} {Q:PQ} {E:PE} {n bk:Nat}
def wQ:List (List Nat×MV):=[(sD,.str ZJ),(uY,.str []),(E4,.str V1),(E5,.str V2)]
theorem Bq(ok:GC x y)(hh:rH h):(match getD wQ (cp x y h)with|some v=>v| .none=>.str (cp x y h))= .str (cp x y (given h)):=by
 rcases hh with hh|rfl
 ·simp only[bT,mem_cons,not_mem_nil,or_false]at hh;rcases hh with rfl|rfl|rfl|rfl|rfl|rfl|rfl<;>rfl
 ·rw[oR];have n1:¬sD=x:=λq=>ok.hx sD (by decide) q.symm;have n2:¬uY=x:=λq=>ok.hx uY (by decide) q.symm;have n3:¬E4=x:=λq=>ok.hx E4 (by decide) q.symm;have n4:¬E5=x:=λq=>ok.hx E5 (by decide) q.symm;simp only[wQ,getD,ag n1,ag n2,ag n3,ag n4];show MV.str x= .str (cp x y [tX]);rw[oR]
theorem yH(ok:GC x y)(hh:rH h)(K:∀G,Q (.str (cp x y (given h))) (H++G)):aE aB prog (n+1) 728 [.str (cp x y h)] .none H Q E:=by
 refine aL (aA:=[some (.str (cp x y h)),.none]) (show prog 728=some qi from rfl) rfl ?_;have kd:([[111,107],[99,111,110,116,105,110,117,101],[114,101,116,117,114,110],[115,105,120]]:List (List Nat)).zip [.str [36,120,32,92,110,91,99,97,108,108,32,57,32,111,107,93],.str [],.str [36,123,120,125,91,99,97,108,108,32,57,32,111,107,93],MV.str [92,116,36,120]]=wQ:=rfl;have kn:=Bq ok hh;simp only[p4,cI,cH,gI,cB,iI,dF,CN,fb,rY,fX,b9,ct,bF.of,bF.eB,eE,gz,rA,rB,Ai,kd,gi,aJ,Vq,aaj,aak,bind_some,aah,aaf,o_s,true_and];cases e:getD wQ (cp x y h)with
 |none=>
  replace kn:=e▸kn;have kn:MV.str (cp x y h)= .str (cp x y (given h)):=kn;show(if(Option.isSome (none:Option MV))=true then _ else _);rw[ag (by decide),kn];exact .inl (K _)
 |some v=>
  rw[e]at kn;have kn:v= .str (cp x y (given h)):=kn;show(if(Option.isSome (some v))=true then _ else _);rw[ah (show(Option.isSome (some v))=true from rfl),kn];exact .inl (K _)
end
def lV:List MS:=match oG with|_::_::_:: .for _ _ b::_=>b|_=>[]
structure DF(H H':MH)(lc:Nat):Prop where
 len:H.length<=H'.length
 same:∀j,j<H.length->j≠lc->H'[j]? =H[j]?
theorem DF.refl:DF H H lc:=⟨le_refl _,λu_ u_ u_=>rfl⟩
theorem DF.trans(a:DF H H1 lc)(b:DF H1 H2 lc):DF H H2 lc:=
 ⟨az a.len b.len,λj hj hn=>by simp only[b.same j (lt_of_lt_of_le hj a.len) hn,a.same j hj hn]⟩
theorem DF.gK{H G:MH}{lc:Nat}:DF H (H++G) lc:=⟨by simp,λj hj u_=>aw hj⟩
theorem DF.set:DF H (H.set lc o) lc:=⟨by simp,λj hj hn=>getElem?_set_ne (λq=>hn q.symm)⟩
theorem DF.keep(d:DF H H' lc)(h:H[j]? =some o)(hn:j≠lc):H'[j]? =some o:=by rw[d.same j (bC h) hn];exact h
def kL(x y:List Nat)(out:List Nat)(e:tS):MV:=match e.st with
 |some (.hY v ec)=>.aF [.int 1,.str v,.aF (ec.map .str)]
 |_=>.aF [.int 0,.str (out++cp x y e.o),.aF []]
noncomputable def mD(a b c d e f:MV)(g:Option MV)(out:List Nat)(h i j k:Option MV):Env:=[some a,some b,some c,some d,some e,some f,g,some (.str out),h,i,j,k]
def QN(x y:List Nat)(lc:Nat)(Q:SQ)(H:MH)(out:List Nat)(lg:List (List Nat))(e:tS):Prop:=∀H',DF H H' lc->H'[lc]? =some (.list ((lg++e.lg).map .str))->match e.st with
 | .none=>∀gM,dp gM 7=some (.str (out++cp x y e.o))->Q .next gM H'
 |_=>∀gM,Q (.ret (kL x y out e)) gM H'
section
variable {x y:List Nat} {lc bk:Nat} {n:Nat} {Q:SQ} {E:SE} {a1 a2 a3 a6:MV} {g:Option MV} {out:List Nat} {H:MH} {h i j k:Option MV}
theorem Bc{h:List Nat}(m:h∈bT):d7 (given h)=true:=by
 simp only[bT,mem_cons,not_mem_nil,or_false]at m;rcases m with rfl|rfl|rfl|rfl|rfl|rfl|rfl<;>rfl
theorem uW{h:List Nat}(m:h∈bT):cp x y (given h)=given h:=fc (Bc m)
theorem Hz{K:Env->Prop}(q:K (mD a1 a2 a3 (.ref bk) (.ref lc) a6 g out (some u) (some v) (some w) k)):bJ (.eS [8,9,10]) (.aF [u,v,w]) (mD a1 a2 a3 (.ref bk) (.ref lc) a6 g out h i j k) K:=⟨rfl,q⟩
theorem rj(h:a+b<=1000000):a+b<=line:=az h (by decide)
theorem HJ(hl:out.length+(cp x y t).length<=1000000)(K:∀h i j k,Q .cont (mD a1 a2 a3 (.ref bk) (.ref lc) a6 g (out++cp x y t) h i j k) H):
  bJ (.eS [8,9,10]) (qW x y (.gC t)) (mD a1 a2 a3 (.ref bk) (.ref lc) a6 g out h i j k) λaI=>cv aB (aE aB prog (n+1)) .none lV aI H Q E:=by
 refine Hz ?_;refine d6 (c:=decide (FR=pM)) (λu_ u_ k=>k) rfl ?_;refine lN (c:=decide (FR=FR)) (λu_ u_ k=>k) rfl ?_;exact And.intro (rj hl) (K _ _ _ _)
theorem AL(K:∀aA,Q (.ret (.aF [.int 1,.str v,.aF (ec.map .str)])) aA H):
  bJ (.eS [8,9,10]) (qW x y (.nF v ec)) (mD a1 a2 a3 (.ref bk) (.ref lc) a6 g out h i j k) λaI=>cv aB (aE aB prog (n+1)) .none lV aI H Q E:=by
 refine Hz ?_;exact lN (c:=decide (pM=pM)) (λu_ u_ k=>k) rfl (K _)
section
variable {w:List Nat} {lg:List (List Nat)} (hl:H[lc]? =some (.list (lg.map .str))) (ll:lg.length<=1000000)
include hl ll
theorem oM(h1:decide (s=pM)=false)(h2:decide (s=FR)=false)(K:cv aB (aE aB prog (n+1)) .none (lV.drop 3) (mD a1 a2 a3 (.ref bk) (.ref lc) a6 g out (some (.str s)) (some (.str w)) (some u) k) (H.set lc (.list (lg.map .str++ [.str w]))) Q E):
  bJ (.eS [8,9,10]) (.aF [.str s,.str w,u]) (mD a1 a2 a3 (.ref bk) (.ref lc) a6 g out h i j k) λaI=>cv aB (aE aB prog (n+1)) .none lV aI H Q E:=by
 refine Hz ?_;refine d6 (c:=decide (s=pM)) (λu_ u_ k=>k) h1 ?_;refine d6 (c:=decide (s=FR)) (λu_ u_ k=>k) h2 ?_;refine And.intro (HD hl) (LU (.str w) (λu_ u_ k=>k) (dn ?_));exact AJ hl (lt_of_le_of_lt (by rw[ar];exact ll) (by decide)) K
theorem HI(K:∀h i j k,Q .next (mD a1 a2 a3 (.ref bk) (.ref lc) a6 g out h i j k) (H.set lc (.list (lg.map .str++ [.str w])))):
  bJ (.eS [8,9,10]) (qW x y (.y9 w)) (mD a1 a2 a3 (.ref bk) (.ref lc) a6 g out h i j k) λaI=>cv aB (aE aB prog (n+1)) .none lV aI H Q E:=by
 refine oM hl ll (by decide) (by decide) ?_;refine d6 (c:=decide (([]:List Nat)=eI)) (λu_ u_ k=>k) rfl ?_;refine d6 (c:=decide (([]:List Nat)=eJ)) (λu_ u_ k=>k) rfl ?_;refine Sn (c:=decide (KD=jK)) (λu_ u_ k=>k) rfl ?_;refine Sn (c:=decide (KD=kM)&&decide (([]:List Nat)=sD)) (λu_ u_ k=>Q7 k) rfl ?_;refine d6 (c:=decide (KD=kM)) (λu_ u_ k=>k) rfl ?_;exact K _ _ _ _
theorem EI(ok:GC x y)(hh:rH how)(ho:out.length+(cp x y (given how)).length<=1000000\/how=eI\/how=eJ)
 (Kb:how=eI->∀aA,Q (.ret (.aF [.int 0,.str out,.aF []])) aA (H.set lc (.list (lg.map .str++ [.str w]))))
 (Ke:how=eJ->∀aA,Q (.ret (.aF [.int 1,.str jN,.aF (nu.map .str)])) aA (H.set lc (.list (lg.map .str++ [.str w]))))
 (K:how≠eI->how≠eJ->∀G h i j k,Q .next (mD a1 a2 a3 (.ref bk) (.ref lc) a6 g (out++cp x y (given how)) h i j k) (H.set lc (.list (lg.map .str++ [.str w]))++G)):
  bJ (.eS [8,9,10]) (qW x y (.call w how)) (mD a1 a2 a3 (.ref bk) (.ref lc) a6 g out h i j k) λaI=>cv aB (aE aB prog (n+1)) .none lV aI H Q E:=by
 have e1:decide (cp x y how=eI)=dz how eI:=hh.eq ok (by decide);have e2:decide (cp x y how=eJ)=dz how eJ:=hh.eq ok (by decide);refine oM hl ll (by decide) (by decide) ?_;by_cases q1:how=eI
 ·exact lN (c:=decide (cp x y how=eI)) (λu_ u_ k=>k) (e1.trans (aW.mpr q1)) (Kb q1 _)
 refine d6 (c:=decide (cp x y how=eI)) (λu_ u_ k=>k) (e1.trans (eq_false_iff.mpr λz=>q1 (aW.mp z))) ?_;by_cases q2:how=eJ
 ·exact lN (c:=decide (cp x y how=eJ)) (λu_ u_ k=>k) (e2.trans (aW.mpr q2)) (Ke q2 _)
 refine d6 (c:=decide (cp x y how=eJ)) (λu_ u_ k=>k) (e2.trans (eq_false_iff.mpr λz=>q2 (aW.mp z))) ?_;refine lN (c:=decide (jK=jK)) (λu_ u_ k=>k) rfl (pU (hX (rE (.str out) (λu_ u_ k=>k) (kq (rE (.str (cp x y how)) (λu_ u_ k=>k) (dn ?_))))));refine yH ok hh λG=>?_;exact And.intro (rj (ho.resolve_right λz=>z.elim q1 q2)) (K q1 q2 G _ _ _ _)
theorem EJ(ok:GC x y){how:List Nat}(hb:dB H bk x y)(qJ:bk≠lc)(hh:how∈bT)(ho:out.length+60*((if dz how hK then [tY]else given how)).length<=1000000\/how=eI\/how=eJ\/how=sD)
  (Kb:how=eI->∀aA,Q (.ret (.aF [.int 0,.str out,.aF []])) aA (H.set lc (.list (lg.map .str++ [.str w]))))
  (Ke:how=eJ->∀aA,Q (.ret (.aF [.int 1,.str jN,.aF (nu.map .str)])) aA (H.set lc (.list (lg.map .str++ [.str w]))))
  (Ko:how=sD->∀G aA,Q (.ret (.aF [.int 1,.str (eQ rg),.aF ((lY rg).map .str)])) aA (H.set lc (.list (lg.map .str++ [.str w]))++G))
  (K:how≠eI->how≠eJ->how≠sD->∀G h i j k,Q .next (mD a1 a2 a3 (.ref bk) (.ref lc) a6 g (out++cp x y (if dz how hK then [tY]else given how)) h i j k) (H.set lc (.list (lg.map .str++ [.str w]))++G)):
  bJ (.eS [8,9,10]) (qW x y (.nx w how)) (mD a1 a2 a3 (.ref bk) (.ref lc) a6 g out h i j k) λaI=>cv aB (aE aB prog (n+1)) .none lV aI H Q E:=by
 have R0:dB (H.set lc (.list (lg.map .str++ [.str w]))) bk x y:=by unfold dB at hb⊢;rw[getElem?_set_ne (λq=>qJ q.symm)];exact hb
 have lh:=kx ok (if dz how hK then [tY]else given how);have gl:∀{h:List Nat} {H:MH} {Q:PQ} {E:PE},h∈bT->(∀G,Q (.str (given h)) (H++G))->aE aB prog (n+1) 728 [.str h] .none H Q E:=λ{h H Q E} m K=>by
  have:=yH (x:=x) (y:=y) (Q:=Q) (E:=E) (H:=H) (n:=n) ok (.inl m) λG=>by rw[uW m];exact K G
  rwa[fc (fR m)]at this
 refine oM hl ll (by decide) (by decide) ?_;by_cases q1:how=eI
 ·exact lN (c:=decide (how=eI)) (λu_ u_ k=>k) (aj q1) (Kb q1 _)
 refine d6 (c:=decide (how=eI)) (λu_ u_ k=>k) (ai q1) ?_;by_cases q2:how=eJ
 ·exact lN (c:=decide (how=eJ)) (λu_ u_ k=>k) (aj q2) (Ke q2 _)
 refine d6 (c:=decide (how=eJ)) (λu_ u_ k=>k) (ai q2) ?_;refine Sn (c:=decide (kM=jK)) (λu_ u_ k=>k) rfl ?_;by_cases q3:how=sD
 ·refine lN (c:=decide (kM=kM)&&decide (how=sD)) (λu_ u_ k=>Q7 k) (aj q3) (pU (hX (hX (rE (.str [121,40]) (λu_ u_ k=>k) (rU ?_)))));refine gl (by decide) λG=>?_;refine And.intro (by decide) (And.intro (by decide) ?_);exact And.intro (by decide) (And.intro (by decide) (Ko q3 G _))
 refine Sn (c:=decide (kM=kM)&&decide (how=sD)) (λu_ u_ k=>Q7 k) (ai q3) ?_;have YC:=ho.resolve_right λz=>z.elim q1 λz=>z.elim q2 q3;have K':=K q1 q2 q3;refine lN (c:=decide (kM=kM)) (λu_ u_ k=>k) rfl (pU (hX (rE (.str out) (λu_ u_ k=>k) ?_)));by_cases q4:how=hK
 ·rw[ah (aW.mpr q4),v9]at K' lh;rw[ah (aW.mpr q4)]at YC;refine mI (c:=decide (how=hK)) (λu_ u_ k=>k) (aj q4) ?_;refine fS R0.y ?_;have:=K' [] (some (.str kM)) (some (.str w)) (some (.str how)) k;simp only[ax]at this;exact And.intro (rj (az (add_le_add_left lh _) YC)) this
 ·have e:¬dz how hK=true:=λz=>q4 (aW.mp z);rw[ag e,uW hh]at K' lh;rw[ag e]at YC;refine pd (c:=decide (how=hK)) (λu_ u_ k=>k) (ai q4) (kq (rE (.str how) (λu_ u_ k=>k) (dn ?_)));refine gl hh λG=>?_;exact And.intro (rj (az (add_le_add_left lh _) YC)) (K' G _ _ _ _)
end
end
theorem r8{x y:List Nat}(ok:GC x y){lc bk dl:Nat}{n:Nat}{Q:SQ}{E:SE}{H0:MH}{a1 a2 a3 a6:MV}{vs:List MV}(We:dl≠lc)(Uo:bk≠lc)(NF:H0[dl]? =some (.list vs)):
  ∀(ds:List iG) (out:List Nat) (lg:List (List Nat)) (H:MH) (g h i j k:Option MV),(∀d∈ds,Ua d)->dB H bk x y->H[lc]? =some (.list (lg.map .str))->H[dl]? =some (.list vs)->
   out.length+60*(aC ds).o.length<=1000000->lg.length+ds.length<=1000000->QN x y lc Q H out lg (aC ds)->
   fC (λv aG H2 Q2 E2=>bJ (.eS [8,9,10]) v aG λaI=>cv aB (aE aB prog (n+1)) .none lV aI H2 Q2 E2) (eK (.ref dl) H0) (ds.map (qW x y)) (mD a1 a2 a3 (.ref bk) (.ref lc) a6 g out h i j k) H Q E
 | [],out,lg,H,g,h,i,j,k,_,hb,hl,hd,hs,hg,K=>by
  refine⟨by show H[dl]? =H0[dl]?;simp only[hd,NF],?_⟩;refine K H .refl (by simp only[show(aC []).lg= []from rfl,ax];exact hl) _ ?_;show some (MV.str out)=some (.str (out++ []));rw[ax]
 |d::ds,out,lg,H,g,h,i,j,k,Uu,hb,hl,hd,hs,hg,K=>by
  refine⟨by show H[dl]? =H0[dl]?;simp only[hd,NF],?_⟩;have Wl:∀d∈ds,Ua d:=λd hd=>Uu d (.tail _ hd);have hg':lg.length+(ds.length+1)<=1000000:=hg;have next:∀(w o:List Nat) (r:tS),aC (d::ds)=⟨o++r.o,w::r.lg,r.st⟩->r=aC ds->∀(G:MH) (g h i j k:Option MV),
    fC (λv aG H2 Q2 E2=>bJ (.eS [8,9,10]) v aG λaI=>cv aB (aE aB prog (n+1)) .none lV aI H2 Q2 E2) (eK (.ref dl) H0) (ds.map (qW x y)) (mD a1 a2 a3 (.ref bk) (.ref lc) a6 g (out++cp x y o) h i j k) (H.set lc (.list (lg.map .str++ [.str w]))++G) Q E:=λw o r er e G g h i j k=>by
   subst e;have VG:=kx ok o;have C8:out.length+60*(o++(aC ds).o).length<=1000000:=by rw[er]at hs;exact hs
   rw[ak]at C8;have yM:(H.set lc (.list (lg.map .str++ [.str w])))[lc]? =some (.list ((lg++ [w]).map .str)):=by rw[getElem?_set_self (bC hl),map_append];rfl
   refine r8 ok We Uo NF ds (out++cp x y o) (lg++ [w]) _ g h i j k Wl ?_ (bM yM) (bM (by rw[getElem?_set_ne (λq=>We q.symm)];exact hd)) (by rw[ak];lia) (by rw[ak];simp;lia) ?_
   ·exact dB.gK (by unfold dB at hb⊢;rw[getElem?_set_ne (λq=>Uo q.symm)];exact hb) _
   ·intro H' d1 h1;have:=K H' ((DF.set.trans .gK).trans d1) (by simp only[h1,er];simp);rw[er]at this;dsimp only[kL]at this⊢;rw[ku]at this;rw[aq];exact this
  cases d with
  |gC t=>
   have VG:=kx ok t;have C8:out.length+60*(t++(aC ds).o).length<=1000000:=hs;replace C8:=ak▸C8;refine HJ (by lia) λh i j k=>?_;refine r8 ok We Uo NF ds (out++cp x y t) lg H g h i j k Wl hb hl hd (by rw[ak];lia) (by lia) ?_;intro H' d1 h1;have:=K H' d1 h1;rw[show aC (.gC t::ds)=⟨t++(aC ds).o,(aC ds).lg,(aC ds).st⟩from rfl]at this;dsimp only[kL]at this⊢;rw[ku]at this;rw[aq];exact this
  |nF v ec=>
   refine AL λaA=>?_;exact K H .refl (by simp only[show(aC (.nF v ec::ds)).lg= []from rfl,ax];exact hl) aA
  |y9 w=>
   refine HI hl (by lia) λh i j k=>?_;have:=next w [] (aC ds) rfl rfl [] g h i j k
   rw[ax]at this;have e:out++cp x y []=out:=ax _;rw[e]at this;exact this
  |call w how=>
   have hh:rH how:=Uu _ (.head _);have ee:aC (.call w how::ds)=if dz how eI then⟨[],[w],some .brk⟩else if dz how eJ then⟨[],[w],some (.hY jN nu)⟩else⟨given how++(aC ds).o,w::(aC ds).lg,(aC ds).st⟩:=rfl
   have yM:(H.set lc (.list (lg.map .str++ [.str w])))[lc]? =some (.list ((lg++ [w]).map .str)):=by rw[getElem?_set_self (bC hl),map_append];rfl
   have en:how≠eI->how≠eJ->aC (.call w how::ds)=⟨given how++(aC ds).o,w::(aC ds).lg,(aC ds).st⟩:=λq1 q2=>by
    rw[ee,ag (by rw[aW];exact q1),ag (by rw[aW];exact q2)]
   refine EI hl (by lia) ok hh ?_ (λq aA=>?_) (λq aA=>?_) λq1 q2 G h i j k=>next w (given how) (aC ds) (en q1 q2) rfl G g h i j k
   ·by_cases q1:how=eI
    ·exact .inr (.inl q1)
    by_cases q2:how=eJ
    ·exact .inr (.inr q2)
    rw[en q1 q2]at hs;have C8:out.length+60*(given how++(aC ds).o).length<=1000000:=hs;rw[ak]at C8;have VG:=kx ok (given how);exact .inl (by lia)
   ·subst q;rw[show aC (.call w eI::ds)=⟨[],[w],some .brk⟩from rfl]at K;have:=K _ .set yM aA;unfold kL at this;have e:out++cp x y []=out:=ax _;rw[e]at this;exact this
   ·subst q;rw[show aC (.call w eJ::ds)=⟨[],[w],some (.hY jN nu)⟩from rfl]at K;exact K _ .set yM aA
  |nx w how=>
   have hh:how∈bT:=Uu _ (.head _);have ee:aC (.nx w how::ds)=if dz how eI then⟨[],[w],some .brk⟩else if dz how eJ then⟨[],[w],some (.hY jN nu)⟩else if dz how sD then⟨[],[w],some (.hY (eQ rg) (lY rg))⟩
    else⟨(if dz how hK then [tY]else given how)++(aC ds).o,w::(aC ds).lg,(aC ds).st⟩:=rfl
   have yM:(H.set lc (.list (lg.map .str++ [.str w])))[lc]? =some (.list ((lg++ [w]).map .str)):=by rw[getElem?_set_self (bC hl),map_append];rfl
   have en:how≠eI->how≠eJ->how≠sD->aC (.nx w how::ds)=⟨(if dz how hK then [tY]else given how)++(aC ds).o,w::(aC ds).lg,(aC ds).st⟩:=λq1 q2 q3=>by
    rw[ee,ag (by rw[aW];exact q1),ag (by rw[aW];exact q2),ag (by rw[aW];exact q3)]
   refine EJ hl (by lia) ok hb Uo hh ?_ (λq aA=>?_) (λq aA=>?_) (λq G aA=>?_) λq1 q2 q3 G h i j k=>next w _ (aC ds) (en q1 q2 q3) rfl G g h i j k
   ·by_cases q1:how=eI
    ·exact .inr (.inl q1)
    by_cases q2:how=eJ
    ·exact .inr (.inr (.inl q2))
    by_cases q3:how=sD
    ·exact .inr (.inr (.inr q3))
    rw[en q1 q2 q3]at hs;have C8:out.length+60*((if dz how hK then [tY]else given how)++(aC ds).o).length<=1000000:=hs;rw[ak]at C8;exact .inl (by lia)
   ·subst q;rw[show aC (.nx w eI::ds)=⟨[],[w],some .brk⟩from rfl]at K;have:=K _ .set yM aA;unfold kL at this;have e:out++cp x y []=out:=ax _;rw[e]at this;exact this
   ·subst q;rw[show aC (.nx w eJ::ds)=⟨[],[w],some (.hY jN nu)⟩from rfl]at K;exact K _ .set yM aA
   ·subst q;simp only[show aC (.nx w sD::ds)=⟨[],[w],some (.hY (eQ rg) (lY rg))⟩from rfl]at K;exact K _ (DF.set.trans (.gK (G:=G))) (bM yM) aA
def GR:iG->Bool
 | .call _ h=>bT.any (dz h)||dz h [tX]
 | .nx _ h=>bT.any (dz h)
 |_=>true
theorem kD1:(Kp.all λp=>RR.all λf=>(aT p f).all GR&&ble (aT p f).length 3)=true:=by kernel_rfl
theorem kD2:(Oy.all λp=>RR.all λf=>(aT p f).all GR&&ble (aT p f).length 3)=true:=by kernel_rfl
theorem kD3:((List.range 6).all λp=>RR.all λf=>(qG p f).all GR&&ble (qG p f).length 3)=true:=by kernel_rfl
theorem Cj(h:GR d=true):Ua d:=by
 have m:∀{h:List Nat},bT.any (dz h)=true->h∈bT:=λq=>by
  obtain⟨t,m,e⟩:=any_eq_true.mp q;rw[aW.mp e];exact m
 cases d with
 |call w how=>
  rcases or_eq_true_iff.mp (show(bT.any (dz how)||dz how [tX])=true from h)with q|q
  ·exact .inl (m q)
  ·exact .inr (aW.mp q)
 |nx w how=>exact m h
 |_=>trivial
theorem uK(hp:p∈Xa)(f:Fg):(∀d∈aT p f,Ua d)/\(aT p f).length<=3:=by
 have:((aT p f).all GR&&ble (aT p f).length 3)=true:=by
  rcases mem_append.mp hp with h|h
  ·exact bj (bj kD1 p h) f (oY f)
  ·exact bj (bj kD2 p h) f (oY f)
 have:=bh this;exact⟨λd hd=>Cj (bj this.1 d hd),ble_eq.mp this.2⟩
theorem yk(he:e<6)(f:Fg):(∀d∈qG e f,Ua d)/\(qG e f).length<=3:=by
 have:=bh (bj (bj kD3 e (mem_range.mpr he)) f (oY f));exact⟨λd hd=>Cj (bj this.1 d hd),ble_eq.mp this.2⟩
theorem Mp(nums:List Int)(he:e<6)(f:Fg):(∀d∈aM (nums.map bB) e f,Ua d)/\(aM (nums.map bB) e f).length<=3*nums.length+3:=by
 induction nums with
 |nil=>exact yk he f
 |cons a r I=>
  have h:=uK (hS a) f;have e1:aM ((a::r).map bB) e f=aT (bB a) f++aM (r.map bB) e f:=by unfold aM;simp only[map_cons,flatMap_cons,aq]
  rw[e1];refine⟨λd hd=>?_,by simp only[ak,length_cons];have:=I.2;have:=h.2;lia⟩;rcases mem_append.mp hd with q|q
  ·exact h.1 d q
  ·exact I.1 d q
noncomputable def uE:List MS:=[.bL 5 (.aZ .add (.l 5) (.call (.g 791) [.l 6,.l 2,.l 3]))]
theorem RB:oG= [.bL 5 (.fP []),.for (.iM 6) (.val (.l 0)) uE,.bL 7 (.c (.str [])),.for (.eS [8,9,10]) (.val (.aZ .add (.l 5) (.call (.g 798) [.l 1,.l 2]))) lV,.ret (.aF [.c (.int 0),.l 7,.aF []])]:=rfl
section
variable {x y:List Nat} {n:Nat} {bk nm lc:Nat}
theorem r9:∀(nums:List Int) (acc:List iG) (H:MH) (dl:Nat) (o6:Option MV),dB H bk x y->H[dl]? =some (.list (acc.map (qW x y)))->H[nm]? =H0[nm]?->nm<H.length->acc.length+3*nums.length<=900->
  (∀G Ym YN,(H++G)[Ym]? =some (.list ((acc++(nums.map bB).flatMap (aT · f)).map (qW x y)))->Q .next [some (.ref nm),some w,some (nG f),some (.ref bk),some (.ref lc),some (.ref Ym),YN,o7,o8,o9,lz,j8] (H++G))->
  fC (λv aG H2 Q2 E2=>bJ (.iM 6) v aG λaI=>cv aB (aE aB prog (n+4)) .none uE aI H2 Q2 E2) (eK (.ref nm) H0) (nums.map .int) [some (.ref nm),some w,some (nG f),some (.ref bk),some (.ref lc),some (.ref dl),o6,o7,o8,o9,lz,j8] H Q E
 | [],acc,H,dl,o6,hb,hd,hn,NG,hs,K=>by
  refine⟨hn,?_⟩;have:=K [] dl o6 (by rw[ax];simpa using hd);simp only[ax]at this;exact this
 |a::nums,acc,H,dl,o6,hb,hd,hn,NG,hs,K=>by
  refine⟨hn,?_⟩;have C8:acc.length+3*(nums.length+1)<=900:=hs;have hk:=uK (hS a) f;obtain⟨QQ,hQ⟩:∃QQ:SQ,QQ=(λfl aG H1=>match fl with
   | .next=>fC (λv aG H2 Q2 E2=>bJ (.iM 6) v aG λaI=>cv aB (aE aB prog (n+4)) .none uE aI H2 Q2 E2) (eK (.ref nm) H0) (nums.map .int) aG H1 Q E
   | .cont=>fC (λv aG H2 Q2 E2=>bJ (.iM 6) v aG λaI=>cv aB (aE aB prog (n+4)) .none uE aI H2 Q2 E2) (eK (.ref nm) H0) (nums.map .int) aG H1 Q E
   | .brk=>Q .next aG H1
   | .ret w=>Q (.ret w) aG H1):=⟨_,rfl⟩
  have step:bJ (.iM 6) (.int a) [some (.ref nm),some w,some (nG f),some (.ref bk),some (.ref lc),some (.ref dl),o6,o7,o8,o9,lz,j8] λaI=>cv aB (aE aB prog (n+4)) .none uE aI H QQ E:=by
   dsimp only[Vd,uE,cI,cH,gI,dF,kY,fW,bS,b9,ct,bF.of,rA,rB,eE,gz];refine Kt hb a f λG j h=>?_;refine dQ (bM hd) h (by rw[ar];lia) (by rw[ar];lia) ?_;rw[hQ];have e1:H++G++ [MO.list (acc.map (qW x y)++(aT (bB a) f).map (qW x y))]=H++(G++ [MO.list (acc.map (qW x y)++(aT (bB a) f).map (qW x y))]):=aq _ _ _;refine r9 nums (acc++aT (bB a) f) _ _ _ ((hb.gK _).gK _) (by simp only[aJ,map_append]) ?_ ?_ (by rw[ak];lia) ?_
   ·rw[e1,aw NG,hn]
   ·rw[e1,ak];lia
   ·intro G2 Ym YN h2;rw[e1,aq]at h2⊢;refine K _ Ym YN ?_;rw[h2,map_cons,flatMap_cons,aq]
  simp only[hQ]at step;exact step
theorem AU(ok:GC x y){nums:List Int}(hn:nums.length<=4)(w:Int)(w1:0<=w)(w2:w<6)(f:Fg){lg:List (List Nat)}{H:MH}{Q:PQ}{E:PE}(hb:dB H bk x y)(YB:H[nm]? =some (.list (nums.map .int)))(hl:H[lc]? =some (.list (lg.map .str)))
  (Uo:bk≠lc) (ll:lg.length<=500000) (K:∀H',DF H H' lc->H'[lc]? =some (.list ((lg++(aC (aM (nums.map bB) w.toNat f)).lg).map .str))->Q (kL x y [] (aC (aM (nums.map bB) w.toNat f))) H'):
  aE aB prog (n+5) 805 [.ref nm,.int w,nG f,.ref bk,.ref lc] .none H Q E:=by
 refine aL (aA:=[some (.ref nm),some (.int w),some (nG f),some (.ref bk),some (.ref lc),.none,.none,.none,.none,.none,.none,.none]) (n:=n+4) (show prog 805=some uP from rfl) rfl ?_;refine RB▸?_;have it:∀(H1:MH) (r:Nat) (vs:List MV),H1[r]? =some (.list vs)->nS H1 (.ref r)=some vs:=λH1 r vs h=>af (Option.bind · yU) h;have Wj:(H++ [MO.list []])[nm]? =some (.list (nums.map .int)):=bM YB;simp only[cI,cH,gI,Aj,cB,iI,dF,kY,dX,ir,fW,bS,b9,ct,oQ,bF.of,rA,rB,eE,it _ _ _ Wj,true_and];have he:w.toNat<6:=by lia
 have eZ:=Mp nums he f;have ao:=rL he f (nums.map bB) λp hp=>by
  obtain⟨a,_,rfl⟩:=mem_map.mp hp;exact hS a
 have NG:nm<(H++ [MO.list []]).length:=bC Wj;refine r9 nums [] _ H.length .none (hb.gK _) (aJ _ _) rfl NG (by simp;lia) ?_;intro G dl YN hd;simp only[eE,gz,rA,rB];refine M8 (n:=n+1) (x:=x) (y:=y) w w1 w2 f λG2 j2 h2=>?_;have lend:=(yk he f).2;have e0:(aM (nums.map bB) w.toNat f).map (qW x y)=(([]:List iG)++(nums.map bB).flatMap (aT · f)).map (qW x y)++(qG w.toNat f).map (qW x y):=by
  rw[nil_append,<-map_append];rfl
 have lall:=eZ.2;have lsum:((nums.map bB).flatMap (aT · f)).length<=900:=by
  have:(aM (nums.map bB) w.toNat f).length=((nums.map bB).flatMap (aT · f)).length+(qG w.toNat f).length:=by unfold aM;simp only[ak]
  lia
 refine dQ (bM hd) h2 (by simp only[ar,nil_append];lia) (by rw[ar];lia) ?_;refine e0▸?_;refine qL (H++ [MO.list []]++G++G2++ [MO.list ((aM (nums.map bB) w.toNat f).map (qW x y))]) λHH Nz=>?_;refine qL ((H++ [MO.list []]++G++G2).length) λVG R1=>?_;have R4:HH[VG]? =some (.list ((aM (nums.map bB) w.toNat f).map (qW x y))):=by rw[Nz,R1];exact aJ _ _
 rw[<-Nz,<-R1,it _ _ _ R4];dsimp only;have ZY:∃G',HH=H++G':=⟨_,by simp only[Nz];simp only[aq];rfl⟩
 obtain⟨G',ZN⟩:=ZY;have hlt2:H.length<=VG:=by simp only[R1];simp only[ak];lia
 have hlc:lc<H.length:=bC hl;have n2:=ao.n2;rw[ao.ef,ar]at n2;refine r8 (n:=n+3) ok (by lia) Uo R4 _ [] lg HH _ _ _ _ _ eZ.1 (by rw[ZN];exact hb.gK _) (by rw[ZN];exact bM hl) R4 (by simp only[length_nil];lia) (by lia) ?_;intro H' d1 h1;have d0:DF H H' lc:=by
  rw[ZN]at d1;exact DF.gK.trans d1
 have K:=K H' d0 h1;cases e:(aC (aM (nums.map bB) w.toNat f)).st with
 |none=>
  intro gM h7;simp only[h7];unfold kL at K;rw[e]at K;exact .inl K
 |some s=>
  exact λgM=>.inl K
end
noncomputable def aS(w:Int):Fg:=⟨decide (w%2=0),decide (w/2%2=0),decide (w/4%2=0)⟩
theorem AI(a b:Int)(Hx:MH)(q:PQ):mv .fdiv Hx (.int a) (.int b) q=((0<b/\b<2^16)/\q (.int (a/b)) Hx):=rfl
theorem EG(a b:Int)(Hx:MH)(q:PQ):mv .fmod Hx (.int a) (.int b) q=((0<b/\b<2^16)/\q (.int (a%b)) Hx):=rfl
theorem MA(a b:Int)(Hx:MH)(q:PQ):mv .add Hx (.int a) (.int b) q=q (.int (a+b)) Hx:=rfl
theorem Vh(a b:List Nat)(Hx:MH)(q:PQ):mv .add Hx (.str a) (.str b) q=(a.length+b.length<=line/\q (.str (a++b)) Hx):=rfl
section
variable {H:MH} {Q:PQ} {E:PE} {n:Nat}
theorem sm(w:Int)(K:Q (nG (aS w)) H):aE aB prog (n+1) 819 [.int w] .none H Q E:=by
 refine aL (aA:=[some (.int w)]) (show prog 819=some qh from rfl) rfl ?_;simp only[pZ,cI,cH,cB,iI,dF,dX,fb,fW,b9,ct,bF.of,bF.eB,eE,AI,EG,reduceLT,reducePow,and_self,true_and,MN,e_i,v_i];exact .inl K
theorem ly{s:Nat}{l:List Int}(hs:H[s]? =some (.jy (l.map .int)))(k:Int)(k1:0<=k)(k2:k<7)(K:∀i G,Q (.int i) (H++G)):aE aB prog (n+1) 714 [.ref s,.int k] .none H Q E:=by
 refine aL (aA:=[some (.ref s),some (.int k)]) (show prog 714=some nA from rfl) rfl ?_;have e1:m9 .len H (.ref s)=some (.int (l.map MV.int).length):=af (Option.bind · SI) hs;simp only[nj,cI,cH,cB,iI,dF,ir,fb,rY,fX,M4,b9,ct,bF.of,bF.eB,eE,gz,MP,oP,YO,Ai,e1];by_cases q:k<((l.map MV.int).length:Int)
 ·rw[aj q,ah rfl];have:cL H (.ref s) (.int k)=some (.int (l[k.toNat]'(by rw[ar]at q;lia))):=by
   refine(af (Option.bind · (Bj (.int k))) hs).trans ?_;refine(af (Option.bind · λj=>(l.map MV.int)[j]?) (lE k1 q)).trans ?_;show(l.map MV.int)[k.toNat]? =_;rw[getElem?_map,getElem?_eq_getElem (by rw[ar]at q;lia)];rfl
  rw[this];have:=K (l[k.toNat]'(by rw[ar]at q;lia)) [];simp only[ax]at this;exact .inl this
 ·rw[ai q,ag (by decide)];have h7:k=0\/k=1\/k=2\/k=3\/k=4\/k=5\/k=6:=by lia
  have g:∀vs:List MV,cL (H++ [MO.list vs]) (.ref H.length) (.int k)=(dZ vs.length k).bind λj=>vs[j]? :=λvs=>kD (aJ _ _) k;rw[g];rcases h7 with rfl|rfl|rfl|rfl|rfl|rfl|rfl<;>exact .inl (K _ _)
noncomputable def BL:List (List Nat):=[[36,120],[91,99,97,108,108,32,57,32,111,107,93],[92,110],[123],[125],[97],[91],[93],[36],[92],[34],[59],[32],[10],[40],[36,123,120,125]]
noncomputable def iE(s:List Nat):Bool:=match s with| []=>true|c::_=>[36,91,92,123,125,97,93,34,59,32,10,40].any (beq c)
theorem FN{i:Nat}(h:i<16):iE (du BL i)=true/\(du BL i).length<=11/\du BL i≠[]:=by
 have ZK:∀s∈BL,iE s=true/\s.length<=11/\s≠[]:=by
  intro s hs;simp only[BL,mem_cons,not_mem_nil,or_false]at hs;rcases hs with rfl|rfl|rfl|rfl|rfl|rfl|rfl|rfl|rfl|rfl|rfl|rfl|rfl|rfl|rfl|rfl<;>exact⟨rfl,by decide,by decide⟩
 exact ZK _ (zt h)
theorem xu(h:iE s=true):∀t∈i8,s≠t:=by
 intro t ht e;subst e;simp only[i8,mem_cons,not_mem_nil,or_false]at ht;rcases ht with rfl|rfl|rfl|rfl|rfl|rfl<;>injection h
theorem zO(ha:iE a=true)(hb:iE b=true):iE (a++b)=true:=by
 cases a with
 |nil=>exact hb
 |cons c r=>exact ha
noncomputable def uF:List MS:=[.bL 2 (.aZ .add (.l 2) (.bG (.l 1) (.aZ .fmod (.l 3) (.c (.int 16))))),.bL 3 (.aZ .fdiv (.l 3) (.c (.int 16)))]
theorem zP{C:Calls}{pl:Nat}{a:MV}{Q:SQ}{E:SE}{eZ:MH->Prop}(hp:H[pl]? =some (.list (BL.map .str)))(E7:eZ H):∀(vs:List MV) (out:List Nat) (rest:Int) (o4:Option MV),iE out=true->out.length+11*vs.length<=60->
  (∀out rest o4,iE out=true->out.length<=60->Q .next [some a,some (.ref pl),some (.str out),some (.int rest),o4] H)->
  fC (λv aG H2 Q2 E2=>bJ (.iM 4) v aG λaI=>cv aB C .none uF aI H2 Q2 E2) eZ vs [some a,some (.ref pl),some (.str out),some (.int rest),o4] H Q E
 | [],out,rest,o4,hr,hl,K=>⟨E7,K _ _ _ hr (by simp at hl;lia)⟩
 |v::vs,out,rest,o4,hr,hl,K=>by
  refine⟨E7,?_⟩;obtain⟨m1,m2⟩:=eC rest (b:=16) (by lia);obtain⟨p1,p2,p3⟩:=FN (i:=(rest%16).toNat) (by lia);have hl':out.length+11*(vs.length+1)<=60:=hl;obtain⟨QQ,hQ⟩:∃QQ:SQ,QQ=(λfl aG H1=>match fl with
   | .next=>fC (λv aG H2 Q2 E2=>bJ (.iM 4) v aG λaI=>cv aB C .none uF aI H2 Q2 E2) eZ vs aG H1 Q E
   | .cont=>fC (λv aG H2 Q2 E2=>bJ (.iM 4) v aG λaI=>cv aB C .none uF aI H2 Q2 E2) eZ vs aG H1 Q E
   | .brk=>Q .next aG H1
   | .ret w=>Q (.ret w) aG H1):=⟨_,rfl⟩
  have step:bJ (.iM 4) v [some a,some (.ref pl),some (.str out),some (.int rest),o4] λaI=>cv aB C .none uF aI H QQ E:=by
   simp only[Vd,uF,cI,cH,gI,iI,dF,fW,fX,bF.of,rA,rB,eE,gz,EG,AI,reduceLT,reducePow,and_self,true_and,I9 BL hp (by rfl) m1 m2,Vh];refine⟨by unfold line;lia,?_⟩;rw[hQ];exact zP hp E7 vs _ _ _ (zO hr p1) (by rw[ak];lia) K
  simp only[hQ]at step;exact step
theorem Tv:uB= [.bL 1 (.fP [.c (.str [36,120]),.c (.str [91,99,97,108,108,32,57,32,111,107,93]),.c (.str [92,110]),.c (.str [123]),.c (.str [125]),.c (.str [97]),.c (.str [91]),.c (.str [93]),.c (.str [36]),.c (.str [92]),.c (.str [34]),.c (.str [59]),.c (.str [32]),.c (.str [10]),.c (.str [40]),.c (.str [36,123,120,125])]),
 .dE [2,3] (.aF [.c (.str []),.aZ .fdiv (.l 0) (.c (.int 5))]),
 .for (.iM 4) (.range (.aZ .fmod (.l 0) (.c (.int 5)))) uF,
 .ret (.l 2)]:=rfl
theorem Ky(k:Int)(K:∀out G,out.length<=60->(∀t∈i8,out≠t)->Q (.str out) (H++G)):aE aB prog (n+1) 721 [.int k] .none H Q E:=by
 refine aL (aA:=[some (.int k),.none,.none,.none,.none]) (show prog 721=some uT from rfl) rfl ?_;simp only[Tv];obtain⟨m1,m2⟩:=eC k (b:=5) (by lia);simp only[cI,cH,gI,pT,Aj,cB,iI,dF,dX,ir,fW,b9,ct,rW,bF.of,rA,rB,KV,KW,eE,EG,AI,reduceLT,reducePow,and_self,true_and,V5,Vd,Vf,length_cons,length_nil];refine⟨⟨m1,by unfold line;lia⟩,?_⟩;refine zP (aJ _ _) trivial _ [] _ _ rfl (by rw[ar,length_range];simp;lia) ?_;intro out rest o4 hr hl;exact .inl (K out _ hl (xu hr))
theorem exA:gF H' x c v ec->cQ H' (.ref x) 1=some (.int c)/\cQ H' (.ref x) 2=some (.str v)/\cQ H' (.ref x) 3=some ec:=
 λ⟨u_,v_,q,h1,h2,h3⟩=>⟨(kO q rfl).trans h1,(kO q rfl).trans h2,(kO q rfl).trans h3⟩
theorem M6{W:Wd}(ok:mj W){lg:List (List Nat)}{sp:Int}{m:Nat}(hw:World W lg sp H)(f:Fg){nums:List Int}(hn:nums.length<=4){e:Nat}(he:e<6)(ll:lg.length<=500000)
  (K:∀H',World W (lg++(aC (aM (nums.map bB) e f)).lg) (sp+(aC (aM (nums.map bB) e f)).lg.length) H'->c8 W H H'->Q (kL W.x W.y [] (aC (aM (nums.map bB) e f))) H'):
  aE aB prog (42+m) 812 [.ref W.A.hp,.str (bA (nums.map bB) e),nG f] .none H Q E:=by
 rw[show 42+m=(41+m)+1 by lia];refine aL (aA:=[some (.ref W.A.hp),some (.str (bA (nums.map bB) e)),some (nG f),.none]) (show prog 812=some si from rfl) rfl ?_;have ao:=rL he f (nums.map bB) λp hp=>by
  obtain⟨a,_,rfl⟩:=mem_map.mp hp;exact hS a
 have n1:=ao.n1;have n2:=ao.n2;have n3:=ao.n3;rw[ar]at n1 n2 n3;have sub:∀args,(args= [.ref W.A.hp,.str (bX (eA (nums.map bB) e f)),.bool f.a,.bool f.b,.bool f.c]\/(args= [.ref W.A.hp,.str (bX (eA (nums.map bB) e f))]/\f.a=true/\f.b=true/\f.c=true))->aE aB prog (41+m) 695 args .none H
   (λv H1=>lS H Q (.aF [.int 0,v,.aF []]) H1) (λx H1=>cv aB (aE aB prog (41+m)) (some x) [.ret (.aF [.cn (.l 3) 1,.cn (.l 3) 2,.cn (.l 3) 3])] [some (.ref W.A.hp),some (.str (bA (nums.map bB) e)),some (nG f),some (.ref x)] H1
    (λfl aI H2=>match fl with| .ret v=>lS H Q v H2| .next=>lS H Q .none H2|_=>False) (λe2 aI H2=>j5 H E e2 H2)):=λargs ha=>by
  refine Ab ok hw ao.ch (by lia) (by lia) (by lia) ha m ?_;intro H' w' fr;rw[ao.ef]at w'⊢;have K:=K H' w' fr;unfold kL at K;cases es:(aC (aM (nums.map bB) e f)).st with
  |none=>replace K:=es▸K;exact .inl K
  |some s=>
   replace K:=es▸K;cases s with
   |brk=>exact .inl K
   |hY v ec=>
    intro x hx;obtain⟨h1,h2,h3⟩:=exA hx;simp only[cI,cH,cB,dF,dX,eH,b9,ct,bF.of,eE,gz,h1,h2,h3];exact .inl K
 replace sub:=ao.tx▸sub;dsimp only[rP,cI,cH,gj,cB,Ly,iI,dF,kY,dX,fb,eH,fX,bS,b9,ct,bF.of,bF.eB,eE,gz,rA,rB,fg0,fg1,fg2,MN];have ef:jw H (nG f) (.aF [.bool true,.bool true,.bool true])=some (f.a&&(f.b&&f.c)):=by
  obtain⟨a,b,c⟩:=f;cases a<;>cases b<;>cases c<;>rfl
 simp only[ef];cases q:(f.a&&(f.b&&f.c))with
 |false=>
  rw[ag (by decide)];have:=sub _ (.inl rfl);simp only[cI,cH,cB,dF,dX,eH,b9,ct,bF.of,eE,gz]at this;exact this
 |true=>
  rw[ah rfl];have q:=bh q;have q2:=bh q.2;have:=sub _ (.inr ⟨rfl,q.1,q2.1,q2.2⟩);simp only[cI,cH,cB,dF,dX,eH,b9,ct,bF.of,eE,gz]at this;exact this
end
structure gJ(H H':MH):Prop where
 len:H.length<=H'.length
 same:∀j,j<H.length->H'[j]? =H[j]?
theorem gJ.trans(a:gJ H H1)(b:gJ H1 H2):gJ H H2:=⟨az a.len b.len,λj hj=>by rw[b.same j (lt_of_lt_of_le hj a.len),a.same j hj]⟩
theorem gJ.gK{H G:MH}:gJ H (H++G):=⟨by simp,λj hj=>aw hj⟩
theorem gJ.keep{H H':MH}(e:gJ H H'){j:Nat}{o:MO}(h:H[j]? =some o):H'[j]? =some o:=by rw[e.same j (bC h)];exact h
theorem gJ.A8(e:gJ H H'):c8 W H H':=⟨e.len,λj hj u_ u_=>e.same j hj⟩
theorem gJ.oq{W:Wd}{H H':MH}{lg:List (List Nat)}{sp:Int}(e:gJ H H')(w:World W lg sp H):World W lg sp H':=w.keep λj o h u_=>e.keep h
noncomputable def gE(H:MH):G where
 pre:=[]
 rest:=[]
 x:=[]
 y:=[]
 aP:=λu_=>0
 qB:=[]
 n0:=H.length
 bQ:=λu_=>[]
 tail:=λu_=>[]
 pQ:=λu_=>.none
 H0:=H
 aQ:=[]
theorem yB(H:MH):fL (gE H):=by
 refine⟨rfl,rfl,rfl,nodup_nil,(λa h=>by cases h),zero_le _,zero_le _,λt ht=>?_,λi=>zero_le _,λi=>zero_le _,rfl,zero_le _⟩;simp only[i8,mem_cons,not_mem_nil,or_false]at ht;rcases ht with rfl|rfl|rfl|rfl|rfl|rfl<;>simp[gE]
theorem IP(H:MH):HA (gE H) [] H:=⟨rfl,le_refl _,(λi o e=>by injection e),λj u_ u_=>rfl⟩
theorem Ba(X:HA (gE H) h H'):gJ H H':=⟨by
 have:=X.len;have:H'.length+0=H.length+h.length:=this;lia,λj hj=>X.frame j hj (by show j∉[];simp)⟩
def Xd(f:Nat)(args:List AV)(s:List Nat):Bool:=Td false (gr fx 20 f args .none []) λv u_=>ua v (.str false s false)
def Xc(f:Nat)(args:List AV)(val:List Nat)(ec:List (List Nat)):Bool:=JU false (gr fx 20 f args .none []) λe h=>cK false (gp h e) (Nh val ec)
theorem oZ(s:List Nat):VA (gE H) (.str false s false) (.str s):=.kv _ _ (kr s)
theorem OI(h:Xd f args s=true)(ra:dP (gE H) args bw)(m:Nat)(K:∀H',gJ H H'->Q (.str s) H'):aE aB prog (20+m) f bw .none H Q E:=
 J2 (P:=λo=>gr fx 20 f args .none []=o->_) ff h (λv hh h e=>by
  obtain rfl:=iw h;exact kb (yB H) m 20 f args .none [] _ e bw H Q E ra (IP H) λv' H' rv X=>by
   rw[rv.Ie];exact K H' (Ba X)) rfl
theorem OH(h:Xc f args val ec=true)(ra:dP (gE H) args bw)(m:Nat)(K:∀H' e,gJ H H'->gF H' e 1 val (.aF (ec.map .str))->E e H'):aE aB prog (20+m) f bw .none H Q E:=
 BB (P:=λo=>gr fx 20 f args .none []=o->_) ff h (λe hh h ee=>aU ff h λo eo h=>
  kb (yB H) m 20 f args .none [] _ ee bw H Q E ra (IP H) λH' X=>K H' _ (Ba X) (wk (yB H) X eo h)) rfl
noncomputable def dW:List (List Nat):=[[45,110,111,98,97,99,107,115,108,97,115,104,101,115],[45,110,111,99,111,109,109,97,110,100,115],[45,110,111,118,97,114,105,97,98,108,101,115]]
noncomputable def ru:List Nat:=[111,112,116,105,111,110]
def n9(i k:Nat):List Nat:=(du dW i).take k
def Kq(got:List Nat):List AV:=[.str false ru false,.str false got false,.aF (jY dW)]
def DU(got:List Nat):List MV:=[.str ru,.str got,.aF (dW.map .str)]
theorem zI(got:List Nat):dP (gE H) (Kq got) (DU got):=.cons (oZ _) (.cons (oZ _) (.cons (.aF (.cons (oZ _) (.cons (oZ _) (.cons (oZ _) .nil)))) .nil))
theorem WA:((List.range 3).all λi=>(List.range 15).all λk=>Nat.blt k 4||Xd 160 (Kq (n9 i k)) (du dW i))=true:=by kernel_rfl
noncomputable def js(sort:Bool):List Nat:=(if sort then [97,109,98,105,103,117,111,117,115]else [98,97,100])++ [32,111,112,116,105,111,110,32,34]++(if sort then [45,110,111]else [45,120])++ [34,58,32,109,117,115,116,32,98,101,32,45,110,111,98,97,99,107,115,108,97,115,104,101,115,44,32,45,110,111,99,111,109,109,97,110,100,115,44,32,111,114,32,45,110,111,118,97,114,105,97,98,108,101,115]
noncomputable def gu(sort:Bool):List Nat:=if sort then [45,110,111]else [45,120]
def nv(sort:Bool):List (List Nat):=[[84,67,76],[76,79,79,75,85,80],[73,78,68,69,88],ru,gu sort]
theorem aal:([true,false].all λs=>Xc 160 (Kq (gu s)) (js s) (nv s))=true:=by kernel_rfl
noncomputable def Lz:List Nat:=[32,63,45,110,111,98,97,99,107,115,108,97,115,104,101,115,63,32,63,45,110,111,99,111,109,109,97,110,100,115,63,32,63,45,110,111,118,97,114,105,97,98,108,101,115,63,32,115,116,114,105,110,103]
noncomputable def LD:List Nat:=[119,114,111,110,103,32,35,32,97,114,103,115,58,32,115,104,111,117,108,100,32,98,101,32,34,115,117,98,115,116,32,63,45,110,111,98,97,99,107,115,108,97,115,104,101,115,63,32,63,45,110,111,99,111,109,109,97,110,100,115,63,32,63,45,110,111,118,97,114,105,97,98,108,101,115,63,32,115,116,114,105,110,103,34]
noncomputable def VH:List (List Nat):=[[84,67,76],[87,82,79,78,71,65,82,71,83]]
def Xe(f:Nat)(args:List AV)(val:List Nat)(ec:List (List Nat)):Bool:=Td false (gr fx 20 f args .none []) λv h=>jh false v λe=>cK false (gp h e) (Nh val ec)
theorem OJ(h:Xe f args val ec=true)(ra:dP (gE H) args bw)(m:Nat)(K:∀H' e,gJ H H'->gF H' e 1 val (.aF (ec.map .str))->Q (.ref e) H'):aE aB prog (20+m) f bw .none H Q E:=
 J2 (P:=λo=>gr fx 20 f args .none []=o->_) ff h (λv hh h=>xe (P:=λv=>gr fx 20 f args .none []=some (.ok v hh)->_) ff h λe h ee=>aU ff h λo eo h=>
  kb (yB H) m 20 f args .none [] _ ee bw H Q E ra (IP H) λv' H' rv X=>by
   rw[rv.kn _ rfl];exact K H' _ (Ba X) (wk (yB H) X eo h)) rfl
theorem SH:Xe 146 [.str false (aX++Lz) false] LD VH=true:=by kernel_rfl
theorem Oz(hi:i<3)(k1:4<=k)(k2:k<15)(m:Nat)(K:∀H',gJ H H'->Q (.str (du dW i)) H'):aE aB prog (20+m) 160 (DU (n9 i k)) .none H Q E:=by
 have:=bj (bj WA i (mem_range.mpr hi)) k (mem_range.mpr k2);rcases or_eq_true_iff.mp this with q|q
 ·have:=blt_eq.mp q;lia
 ·exact OI q (zI _) m K
theorem BJ(s:Bool)(m:Nat)(K:∀H' e,gJ H H'->gF H' e 1 (js s) (.aF ((nv s).map .str))->E e H'):aE aB prog (20+m) 160 (DU (gu s)) .none H Q E:=by
 have:=bj aal s (by cases s<;>decide);exact OH this (zI _) m K
theorem LI(m:Nat)(K:∀H' e,gJ H H'->gF H' e 1 LD (.aF (VH.map .str))->Q (.ref e) H'):aE aB prog (20+m) 146 [.str (aX++Lz)] .none H Q E:=
 OJ SH (.cons (oZ _) .nil) m K
noncomputable def kJ(num:Int):Nat:=(4+num/8%11).toNat
noncomputable def iD(f:Fg):List Nat:=(if f.a then []else [0])++(if f.b then []else [1])++(if f.c then []else [2])
def fu(num:Int):List Nat:=if num/88%2=1 then(iD (aS num)).reverse else iD (aS num)
def iN(num:Int):List (List Nat):=(fu num).map (n9 · (kJ num))
def gQ(num:Int)(text:List Nat):List (List Nat):=
 if num/176%6=4 then [aX]else if num/176%6=3 then [aX]++iN num++ [gu true,text]else if num/176%6=5 then [aX]++iN num++ [gu false,text]else [aX]++iN num++ [text]
noncomputable def wh(v:List Nat)(ec:List (List Nat)):MV:=.aF [.int 1,.str v,.aF (ec.map .str)]
def gY(num:Int):MV:=if num/176%6=4 then wh LD VH else if num/176%6=3 then wh (js true) (nv true)else if num/176%6=5 then wh (js false) (nv false)else .aF []
theorem OS(s:List Nat)(h:0<=k):cG s .none (some k)=s.take k.toNat:=by
 show(s.drop 0).take (Cu s.length k-0)=_;rw[mn h,Nat.sub_zero,List.drop_zero,List.take_eq_take_iff];lia
theorem EH(h:H[r]? =some (.list vs))(v:MV)(q:PQ):iW .append H (.ref r) [v] q=(vs.length<line/\q .none (H.set r (.list (vs++ [v])))):=af (tq · λvs=>vs.length<line/\q .none (H.set r (.list (vs++ [v])))) h
theorem uD(h:H[r]? =some (.list vs)):oK .append H (.ref r)=true/\oK .reverse H (.ref r)=true:=⟨af u2 h,af u2 h⟩
theorem AK(h:H[r]? =some (.list vs))(q:PQ):iW .reverse H (.ref r) [] q=q .none (H.set r (.list vs.reverse)):=af (tq · λvs=>q .none (H.set r (.list vs.reverse))) h
noncomputable def Pz:List MS:=[.ifs (.not (.bG (.l 3) (.l 4)))
 ([.expr (.bP .append (.l 2) [.slice (.bG (.fP [.c (.str [45,110,111,98,97,99,107,115,108,97,115,104,101,115]),.c (.str [45,110,111,99,111,109,109,97,110,100,115]),.c (.str [45,110,111,118,97,114,105,97,98,108,101,115])]) (.l 4)) none (some (.aZ .add (.c (.int 4)) (.aZ .fmod (.aZ .fdiv (.l 0) (.c (.int 8))) (.c (.int 11)))))])])
 ([])]
section
variable {H:MH} {n:Nat}
theorem mX{C:Calls}{num:Int}{text:MV}{ol:Nat}{os:List (List Nat)}{f:Fg}{o4:Option MV}{i:Nat}{b:Bool}{Q:SQ}{E:SE}(hi:i<3)(hb:cL H (nG f) (.int i)=some (.bool b))(ho:H[ol]? =some (.list (os.map .str)))(hl:os.length<=10)
  (K:∀H' o4,DF H H' ol->H'[ol]? =some (.list ((os++(if b then []else [n9 i (kJ num)])).map .str))->Q .next [some (.int num),some text,some (.ref ol),some (nG f),o4,.none,.none,.none] H'):
  bJ (.iM 4) (.int i) [some (.int num),some text,some (.ref ol),some (nG f),o4,.none,.none,.none] λaI=>cv aB C .none Pz aI H Q E:=by
 obtain⟨m1,m2⟩:=eC (num/8) (b:=11) (by lia);simp only[Vd,Pz,cI,cH,iQ,gj,iI,dF,ir,PH,fW,fX,CQ,v5,b9,ct,Zq,Vy,bF.of,rA,rB,eE,gz,hb,Ah,Ai];cases b with
 |true=>
  simp only[Bool.not_true,false_eq_true,if_false];refine K H _ .refl ?_;rw[ah rfl,ax];exact ho
 |false=>
  simp only[Bool.not_false,if_true];refine⟨(uD ho).1,?_⟩;rw[I9 (k:=(i:Int)) dW (aJ _ _) (by rfl) (by lia) (by show(i:Int)<3;lia)];simp only[EG,AI,MA,reduceLT,reducePow,and_self,true_and,cX,aaM,aaT,aaE,aaF,OS _ (show 0<=4+num/8%11 by lia)];have YD:∀o,(H++ [o])[ol]? =some (.list (os.map .str)):=λo=>bM ho;rw[EH (YD _)];refine⟨by rw[ar];unfold line;lia,?_⟩;refine K _ _ (DF.gK.trans .set) ?_;rw[getElem?_set_self (bC (YD _)),ag (by decide),map_append];rfl
theorem DF.ext{H H':MH}{G:MH}{lc:Nat}(d:DF (H++G) H' lc)(h:H.length<=lc):gJ H H':=by
 have:=d.len;rw[ak]at this;exact⟨by lia,λj hj=>by rw[d.same j (by simp only[ak];lia) (by lia)];exact aw hj⟩
def XU(num:Int)(text:List Nat)(ol:Nat)(f:Fg)(o4 o5 o6 o7:Option MV):Env:=[some (.int num),some (.str text),some (.ref ol),some (nG f),o4,o5,o6,o7]
section
variable {C:Calls} {num:Int} {text:List Nat} {ol:Nat} {f:Fg} {o4 o5 o6 o7:Option MV} {R:SQ} {S:SE}
theorem LC{aA:Env}{os tl:List (List Nat)}{es:List ME}{d:ME}{dv:MV}(h2:dp aA 2=some (.ref ol))(h4:H[ol]? =some (.list (os.map .str)))(lo:os.length<=3)(lt:tl.length<=2)
  (he:∀(Hx:MH) (K:List MV->MH->Prop) (E:PE),K (tl.map .str) Hx->cJ aB C .none es aA Hx K E) (hd:∀(Hx:MH) (K:PQ) (E:PE),K dv Hx->(den aB C .none d).val aA Hx K E)
  (K:∀H' j,gJ H H'->H.length<=j->H'[j]? =some (.list (([aX]++os++tl).map .str))->R (.ret (.aF [.ref j,dv])) aA H'):cv aB C .none [.ret (.aF [.aZ .add (.aZ .add (.fP [.c (.str aX)]) (.l 2)) (.fP es),d])] aA H R S:=by
 simp only[cI,cH,cB,iI,dF,dX,ir,fW,b9,ct,bF.of,h2];refine dQ (aJ _ _) (bM h4) (by decide) (by rw[ar];lia) (he _ _ _ ?_);refine dQ (bM (aJ _ _)) (aJ _ _) (by rw[ak,ar];simp;lia) (by rw[ar];lia) (hd _ _ _ ?_);refine K _ _ (((gJ.gK.trans gJ.gK).trans gJ.gK).trans gJ.gK) (by simp only[ak];lia) ?_;simp only[aJ,map_append,map_append];rfl
theorem Hf(H5:MH)(k:Int):nO (H5++ [MO.list [.int 3,.int 5]]) (.int k) (.ref H5.length)=some (decide (3=k)||(decide (5=k)||false)):=q8 (aJ _ _)
theorem GA(h4:H[ol]? =some (.list ((iN num).map .str)))(ll:(iN num).length<=3)(K:∀H' j aA,gJ H H'->H.length<=j->H'[j]? =some (.list ((gQ num text).map .str))->R (.ret (.aF [.ref j,gY num])) aA H'):
  cv aB C .none (iq.drop 3) (XU num text ol f o4 o5 o6 o7) H R S:=by
 have h5:(H++ [MO.list [.int 3,.int 5]])[ol]? =some (.list ((iN num).map .str)):=bM h4;have x5:gJ H (H++ [MO.list [.int 3,.int 5]]):=gJ.gK;have l5:H.length<=(H++ [MO.list [.int 3,.int 5]]).length:=x5.len;refine And.intro ⟨by decide,by decide⟩ (And.intro ⟨by decide,by decide⟩ ?_);unfold gQ gY at K;by_cases e4:num/176%6=4
 ·rw[ah e4,ah e4]at K;refine lN (c:=decide (num/176%6=4)) (λu_ u_ k=>k) (aj e4) ?_;exact K _ H.length _ gJ.gK (le_refl _) (aJ _ _)
 replace K:=(ag e4)▸(ag e4)▸K;refine d6 (c:=decide (num/176%6=4)) (λu_ u_ k=>k) (ai e4) ?_;by_cases e3:num/176%6=3
 ·replace K:=(ah e3)▸(ah e3)▸K;refine Wu (H1:=H++ [MO.list [.int 3,.int 5]]) (c:=true) (λu_ u_ k=>oB.i (Hf _ _) (by rw[e3];exact k)) rfl ?_;refine pU (mI (c:=decide (num/176%6=3)) (λu_ u_ k=>k) (aj e3) (rE (.str [45,110,111]) (λu_ u_ k=>k) ?_));refine pU (hX (hX (hX (mI (c:=decide (num/176%6=3)) (λu_ u_ k=>k) (aj e3) (rE (.str [97,109,98,105,103,117,111,117,115]) (λu_ u_ k=>k) ?_)))));refine And.intro (by decide) (And.intro (by decide) (And.intro (by decide) ?_));exact LC (tl:=[gu true,text]) (dv:=wh (js true) (nv true)) rfl h5 ll (le_refl _) (λu_ u_ u_ k=>k) (λu_ u_ u_ k=>k) λH' j x lj hj=>K H' j _ (x5.trans x) (az l5 lj) hj
 rw[ag e3,ag e3]at K;by_cases e5:num/176%6=5
 ·rw[ah e5,ah e5]at K;refine Wu (H1:=H++ [MO.list [.int 3,.int 5]]) (c:=true) (λu_ u_ k=>oB.i (Hf _ _) (by rw[e5];exact k)) rfl ?_;refine pU (pd (c:=decide (num/176%6=3)) (λu_ u_ k=>k) (ai e3) (rE (.str [45,120]) (λu_ u_ k=>k) ?_));refine pU (hX (hX (hX (pd (c:=decide (num/176%6=3)) (λu_ u_ k=>k) (ai e3) (rE (.str [98,97,100]) (λu_ u_ k=>k) ?_)))));refine And.intro (by decide) (And.intro (by decide) (And.intro (by decide) ?_));exact LC (tl:=[gu false,text]) (dv:=wh (js false) (nv false)) rfl h5 ll (le_refl _) (λu_ u_ u_ k=>k) (λu_ u_ u_ k=>k) λH' j x lj hj=>K H' j _ (x5.trans x) (az l5 lj) hj
 rw[ag e5,ag e5]at K;refine aag (H1:=H++ [MO.list [.int 3,.int 5]]) (c:=false) (λu_ u_ k=>oB.i (Hf _ _) (by rw[ai (Ne.symm e3),ai (Ne.symm e5)];exact k)) rfl ?_;exact LC (tl:=[text]) (dv:=.aF []) rfl h5 ll (le_succ 1) (λu_ u_ u_ k=>k) (λu_ u_ u_ k=>k) λH' j x lj hj=>K H' j _ (x5.trans x) (az l5 lj) hj
end
theorem Oo(num:Int):(iN num).length<=3:=by
 have l0:(iD (aS num)).length<=3:=by unfold iD;cases(aS num).a<;>cases(aS num).b<;>cases(aS num).c<;>decide
 dsimp only[iN,fu];rw[ar];split
 ·rw[length_reverse];exact l0
 ·exact l0
def BD(b:Bool)(i k:Nat):List (List Nat):=if b then []else [n9 i k]
theorem Ti(f:Fg)(k:Nat):(([]++BD f.a 0 k)++BD f.b 1 k)++BD f.c 2 k=(iD f).map (n9 · k):=by
 unfold iD;cases f.a<;>cases f.b<;>cases f.c<;>rfl
theorem xj(b:Bool)(i k:Nat):(BD b i k).length<=1:=by cases b;exact le_refl _;exact zero_le _
theorem LG(num:Int)(text:List Nat)(K:∀H' j,gJ H H'->H.length<=j->H'[j]? =some (.list ((gQ num text).map .str))->Q (.aF [.ref j,gY num]) H'):
  aE aB prog (n+2) 826 [.int num,.str text] .none H Q E:=by
 refine aL (aA:=[some (.int num),some (.str text),.none,.none,.none,.none,.none,.none]) (n:=n+1) (show prog 826=some ql from rfl) rfl ?_;refine sm (Q:=λv H1=>uh .none H1/\bJ (.eS [2,3]) (.aF [.ref H.length,v]) [some (.int num),some (.str text),.none,.none,.none,.none,.none,.none] λaG=>cv aB (aE aB prog (n+1)) .none (iq.drop 1) aG H1 _ _) num ?_;refine And.intro trivial (And.intro rfl (And.intro rfl (And.intro ⟨by decide,by decide⟩ ?_)));have fin:∀(H4:MH) (o4:Option MV),gJ H H4->H4[H.length]? =some (.list ((iN num).map .str))->cv aB (aE aB prog (n+1)) .none (iq.drop 3) (XU num text H.length (aS num) o4 .none .none .none) H4
   (λfl u_ H1=>match fl with| .ret v=>lS H Q v H1| .next=>lS H Q .none H1|_=>False) (λe u_ H1=>j5 H E e H1):=λH4 o4 x4 h4=>GA h4 (Oo num) λH' j u_ x lj hj=>.inl (K H' j (x4.trans x) (az x4.len lj) hj)
 generalize (λ(fl:Fl) (_:Env) (H1:MH)=>match fl with| .ret v=>lS H Q v H1| .next=>lS H Q .none H1|_=>False)=R at fin⊢;generalize (λ(e:Nat) (_:Env) (H1:MH)=>j5 H E e H1)=S at fin⊢;generalize hf:aS num=f at fin⊢;refine And.intro trivial (mX (os:=[]) (b:=f.a) (by decide) rfl (aJ _ _) (by decide) λH1 o1 d1 h1=>?_);refine And.intro trivial (mX (os:=[]++BD f.a 0 (kJ num)) (b:=f.b) (by decide) rfl h1 (az (xj _ _ _) (by decide)) λH2 o2 d2 h2=>?_);refine And.intro trivial (mX (os:=([]++BD f.a 0 (kJ num))++BD f.b 1 (kJ num)) (b:=f.c) (by decide) rfl h2 (by rw[ak];exact az (add_le_add (xj _ _ _) (xj _ _ _)) (by decide)) λH3 o3 d3 h3=>?_);have d:DF (H++ [MO.list []]) H3 H.length:=(d1.trans d2).trans d3;have h3:H3[H.length]? =some (.list (((iD f).map (n9 · (kJ num))).map .str)):=Ti f (kJ num)▸h3;refine And.intro trivial ?_;by_cases q:num/88%2=1
 ·have eq1:iN num=((iD f).map (n9 · (kJ num))).reverse:=by unfold iN fu;rw[ah q,hf,map_reverse]
  refine lN (c:=decide (num/88%2=1)) (λu_ u_ k=>⟨⟨by decide,by decide⟩,⟨by decide,by decide⟩,k⟩) (aj q) ?_;refine And.intro (uD h3).2 (dn ?_);rw[AK h3];exact fin _ _ ((d.trans .set).ext (le_refl _)) (by rw[getElem?_set_self (bC h3),eq1,map_reverse])
 ·have eq1:iN num=(iD f).map (n9 · (kJ num)):=by unfold iN fu;rw[ag q,hf]
  refine d6 (c:=decide (num/88%2=1)) (λu_ u_ k=>⟨⟨by decide,by decide⟩,⟨by decide,by decide⟩,k⟩) (ai q) ?_;exact fin _ _ (d.ext (le_refl _)) (by rw[h3,eq1])
end
theorem kS(num:Int)(text:List Nat):(gQ num text= [aX]/\gY num=wh LD VH)\/(∃s,gQ num text=aX::(iN num++ [gu s])++ [text]/\gY num=wh (js s) (nv s))\/(gQ num text=aX::iN num++ [text]/\gY num= .aF []):=by
 delta gQ gY;split
 ·exact .inl ⟨rfl,rfl⟩
 ·split
  ·exact .inr (.inl ⟨true,by simp,rfl⟩)
  ·split
   ·exact .inr (.inl ⟨false,by simp,rfl⟩)
   ·exact .inr (.inr ⟨by simp,rfl⟩)
theorem zF(h:i∈fu num):i<3:=by
 have:∀f:Fg,∀i∈iD f,i<3:=λf i h=>by
  unfold iD at h;simp only[mem_append]at h;rcases h with(h|h)|h<;>(split at h<;>simp at h<;>lia)
 unfold fu at h;split at h
 ·exact this _ i (List.mem_reverse.mp h)
 ·exact this _ i h
theorem Kd(num:Int):4<=kJ num/\kJ num<15:=by
 obtain⟨m1,m2⟩:=eC (num/8) (b:=11) (by lia);unfold kJ;lia
theorem Fz(num:Int):kc (du dW 0) (((fu num).map (du dW ·)).map .str)=some (!(aS num).a)/\kc (du dW 1) (((fu num).map (du dW ·)).map .str)=some (!(aS num).b)/\kc (du dW 2) (((fu num).map (du dW ·)).map .str)=some (!(aS num).c):=by
 delta fu iD;split<;>cases(aS num).a<;>cases(aS num).b<;>cases(aS num).c<;>exact⟨by decide,by decide,by decide⟩
def vz:ME:=.call (.g 160) [.c (.str ru),.l 4,.l 2]
section
variable {n:Nat} {C:Calls}
theorem pK{eZ:MH->Prop}:∀(is:List Nat) (acc:List (List Nat)) (H:MH),(∀i∈is,i<3)->acc.length+is.length<=1000->
  H[d]? =some (.list (acc.map .str))->(∀H',DF H H' d->eZ H')->
  (∀H',DF H H' d->H'[d]? =some (.list ((acc++is.map (du dW ·)).map .str))->(∀H2,DF H' H2 d->eZ H2)->gG (λv H2 Q2=>(den aB (aE aB prog (20+m)) .none vz).val (bN [some a,some b,some (.aF (dW.map .str)),o3,o4] 4 (some v)) H2 Q2 E) eZ d tl ((acc++is.map (du dW ·)).map .str) H' Q)->
  gG (λv H2 Q2=>(den aB (aE aB prog (20+m)) .none vz).val (bN [some a,some b,some (.aF (dW.map .str)),o3,o4] 4 (some v)) H2 Q2 E) eZ d ((is.map λi=>MV.str (n9 i (kJ num)))++tl) (acc.map .str) H Q
 | [],acc,H,_,_,hd,hc,K=>by
  have:=K H .refl (by rw[map_nil,ax];exact hd) hc;rw[map_nil,ax]at this;exact this
 |i::is,acc,H,hi,hl,hd,hc,K=>by
  refine⟨hc H .refl,?_⟩;have hl':acc.length+(is.length+1)<=1000:=hl;obtain⟨k1,k2⟩:=Kd num;have step:aE aB prog (20+m) 160 (DU (n9 i (kJ num))) .none H (λr H1=>H1[d]? =some (.list (acc.map .str))/\(acc.map MV.str).length<line/\gG (λv H2 Q2=>(den aB (aE aB prog (20+m)) .none vz).val (bN [some a,some b,some (.aF (dW.map .str)),o3,o4] 4 (some v)) H2 Q2 E) eZ d ((is.map λi=>MV.str (n9 i (kJ num)))++tl) (acc.map .str++ [r]) (H1.set d (.list (acc.map .str++ [r]))) Q) E:=by
   refine Oz (hi i (.head _)) k1 k2 m λH1 x1=>⟨x1.keep hd,by rw[ar];unfold line;lia,?_⟩
   have dd:DF H (H1.set d (.list (acc.map .str++ [.str (du dW i)]))) d:=DF.trans ⟨x1.len,λj hj u_=>x1.same j hj⟩ .set;have ea:acc.map MV.str++ [.str (du dW i)]=(acc++ [du dW i]).map .str:=by simp only[map_append];rfl
   rw[ea]at dd⊢;refine pK is (acc++ [du dW i]) _ (λj hj=>hi j (.tail _ hj)) (by rw[ak];simp;lia) (getElem?_set_self (bC (x1.keep hd))) (λH' d1=>hc H' (dd.trans d1)) λH' d1 h1 hc1=>?_;have e2:acc++ [du dW i]++is.map (du dW ·)=acc++(i::is).map (du dW ·):=by simp
   rw[e2]at h1⊢;exact K H' (dd.trans d1) h1 hc1
  exact step
theorem Kr{eZ:MH->Prop}(hc:eZ H)(K:∀H' e,gJ H H'->gF H' e 1 (js s) (.aF ((nv s).map .str))->E e H'):
  gG (λv H2 Q2=>(den aB (aE aB prog (20+m)) .none vz).val (bN [some a,some b,some (.aF (dW.map .str)),o3,o4] 4 (some v)) H2 Q2 E) eZ d (.str (gu s)::tl) acc H Q:=
 ⟨hc,BJ s m K⟩
theorem BY(a z:MV)(l:List MV):cG (a::l++ [z]) (some 1) (some (-1))=l:=by
 show((a::l++ [z]).drop (Cu _ 1)).take (Cu _ (-1)-Cu _ 1)=_;have e1:Cu (a::l++ [z]).length 1=1:=by
  rw[mn (by decide)];rfl
 have e2:Cu (a::l++ [z]).length (-1)=l.length+1:=by
  unfold Cu;rw[ah (by decide)];simp;lia
 rw[e1,e2];simp
theorem E9(h:H[r]? =some (.list (a::l++ [z]))):cL H (.ref r) (.int (-1))=some z:=by
 rw[kD h,vC (by decide) (by simp;lia)];have:(-1+((a::l++ [z]).length:Int)).toNat=l.length+1:=by simp;lia
 rw[this];simp
theorem Mf(hw:H[wd]? =some (.list [.str aX]))(K:∀H' e,gJ H H'->gF H' e 1 LD (.aF (VH.map .str))->E e H'):
  aE aB prog (21+m) 700 [.ref hp,.ref wd] .none H Q E:=by
 rw[show 21+m=(20+m)+1 by lia];refine aL (aA:=[some (.ref hp),some (.ref wd),.none,.none,.none]) (show prog 700=some hM from rfl) rfl ?_;have e1:m9 .len H (.ref wd)=some (.int 1):=kh hw;have e2:cL H (.ref wd) (.int 0)=some (.str aX):=by rw[kD hw];rfl
 simp only[gX,cI,cH,gI,gj,cB,lH,iI,dF,kY,dX,fb,Ii,fW,fX,M4,bS,Rz,b9,ct,bF.of,bF.eB,rA,rB,eE,gz,e1,MP,MQ,oP,YO,show decide ((1:Int)<2)=true from rfl,if_true,e2,Vh];refine⟨by decide,?_⟩;refine LI m λH' e x1 hx=>?_;obtain⟨aP,x,q,h1,h2,h3⟩:=id hx;exact BH q (.inl (K H' e x1 hx))
theorem Es:gX= [.ifs (.aV .lt (.b1 .len (.l 1)) (.c (.int 2)))
 ([.cW (.call (.g 146) [.aZ .add (.bG (.l 1) (.c (.int 0))) (.c (.str Lz))])])
 ([]),
 .bL 2 (.aF [.c (.str [45,110,111,98,97,99,107,115,108,97,115,104,101,115]),.c (.str [45,110,111,99,111,109,109,97,110,100,115]),.c (.str [45,110,111,118,97,114,105,97,98,108,101,115])]),
 .bL 3 (.comp 4 vz (.val (.slice (.l 1) (some (.c (.int 1))) (some (.neg (.c (.int 1))))))),
 .ret (.call (.g 695) [.l 0,.bG (.l 1) (.neg (.c (.int 1))),.aV .mf (.bG (.l 2) (.c (.int 0))) (.l 3),.aV .mf (.bG (.l 2) (.c (.int 1))) (.l 3),.aV .mf (.bG (.l 2) (.c (.int 2))) (.l 3)])]:=rfl
theorem qX(M:Nat->Nat->Option Nat)(C:Calls)(x:Nat)(elt:ME)(it:MI)(aA:Env)(H:MH)(Q:PQ)(E:PE):(den M C .none (.comp x elt it)).val aA H Q E=(Option.none=(Option.none:Option Nat)/\(ky M C .none it).D1 aA H (λvs eZ H1=>gG (λv H2 Q2=>(den M C .none elt).val (bN aA x (some v)) H2 Q2 E) eZ H1.length vs [] (H1++ [MO.list []]) Q) E):=rfl
theorem rK(hw:H[wd]? =some (.list (.str aX::mid++ [z])))
 (K:∀H1 sl,gJ H H1->H.length<=sl->sl<H1.length->H1[sl]? =some (.list mid)->gG (λv H2 Q2=>(den aB (aE aB prog (20+m)) .none vz).val (bN [some (.ref hp),some (.ref wd),some (.aF (dW.map .str)),.none,.none] 4 (some v)) H2 Q2 (λe H1=>j5 H E e H1)) (eK (.ref sl) H1) H1.length mid [] (H1++ [.list []]) (λv H2=>
 cv aB (aE aB prog (20+m)) .none [.ret (.call (.g 695) [.l 0,.bG (.l 1) (.neg (.c (.int 1))),.aV .mf (.bG (.l 2) (.c (.int 0))) (.l 3),.aV .mf (.bG (.l 2) (.c (.int 1))) (.l 3),.aV .mf (.bG (.l 2) (.c (.int 2))) (.l 3)])]
 [some (.ref hp),some (.ref wd),some (.aF (dW.map .str)),some v,.none] H2 (λfl u_ H1=>match fl with| .ret v=>lS H Q v H1| .next=>lS H Q .none H1|_=>False) (λe u_ H1=>j5 H E e H1))):
  aE aB prog (21+m) 700 [.ref hp,.ref wd] .none H Q E:=by
 rw[show 21+m=(20+m)+1 by lia];refine aL (aA:=[some (.ref hp),some (.ref wd),.none,.none,.none]) (show prog 700=some hM from rfl) rfl ?_;have e1:m9 .len H (.ref wd)=some (.int ((MV.str aX::mid++ [z]).length:Nat)):=kh hw;simp only[Es];refine qL ([MS.ret (.call (.g 695) [.l 0,.bG (.l 1) (.neg (.c (.int 1))),.aV .mf (.bG (.l 2) (.c (.int 0))) (.l 3),.aV .mf (.bG (.l 2) (.c (.int 1))) (.l 3),.aV .mf (.bG (.l 2) (.c (.int 2))) (.l 3)])]) λR hR=>?_;rw[<-hR]at K⊢;have e3:decide (((MV.str aX::mid++ [z]).length:Int)<2)=false:=ai (by simp;lia);have sv:∀q:PQ,cX H (.ref wd) (some (.int 1)) (some (.int (-1))) q=q (.ref H.length) (H++ [MO.list mid]):=λq=>by
  refine(af (tq · λvs=>q (.ref H.length) (H++ [MO.list (cG vs (some 1) (some (-1)))])) hw).trans ?_;show q _ _=_;rw[BY]
 have it:nS (H++ [MO.list mid]) (.ref H.length)=some mid:=af (Option.bind · yU) (aJ _ _);have K1:=K (H++ [MO.list mid]) H.length gJ.gK (le_refl _) (by simp) (aJ _ _);simp only[cI,cH,gI,gj,lH,qX,oQ,true_and];simp only[iI,dF,kY,dX,fb,Ii,fW,fX,CQ,M4,bS,b9,ct,Vy,bF.of,bF.eB,rA,rB,eE,gz,e1,MP,oP,YO,e3,false_eq_true,if_false];rw[sv,it];exact K1
theorem Qq(h:H1[sl]? =some o)(hn:sl≠H1.length)(d:DF (H1++ [.list []]) H' H1.length):eK (.ref sl) H1 H':=by
 show H'[sl]? =H1[sl]?;simp only[d.keep (bM h) hn,h]
theorem Mg{H:MH}{hp wd:Nat}{m:Nat}{Q:PQ}{E:PE}{num:Int}{s:Bool}{z:MV}(hw:H[wd]? =some (.list (.str aX::((iN num++ [gu s]).map .str)++ [z])))
  (K:∀H' e,gJ H H'->gF H' e 1 (js s) (.aF ((nv s).map .str))->E e H'):aE aB prog (21+m) 700 [.ref hp,.ref wd] .none H Q E:=by
 refine rK hw λH1 sl x1 g1 g2 g3=>?_;have em:(iN num++ [gu s]).map MV.str=(fu num).map (λi=>MV.str (n9 i (kJ num)))++ [.str (gu s)]:=by
  unfold iN;simp only[map_append,map_map];rfl
 have lo:(fu num).length<=3:=by
  delta fu iD;split<;>cases(aS num).a<;>cases(aS num).b<;>cases(aS num).c<;>decide
 simp only[em];refine pK (fu num) [] _ (λi hi=>zF hi) (by simp;lia) (aJ _ _) (λH' d=>Qq g3 (by lia) d) λH2 d2 h2 ZT=>?_;refine Kr (ZT _ .refl) λH3 e x3 hx=>.inl (K H3 e ?_ hx);have x2:gJ H1 H2:=d2.ext (le_refl _);exact(x1.trans x2).trans x3
theorem Mh{W:Wd}(ok:mj W){lg:List (List Nat)}{sp:Int}{H:MH}{wd m:Nat}{num:Int}(hw:World W lg sp H){nums:List Int}(hn:nums.length<=4){e:Nat}(he:e<6)(ll:lg.length<=500000)
  (uj:H[wd]? =some (.list (.str aX::((iN num).map .str)++ [.str (bA (nums.map bB) e)]))) {Q:PQ} {E:PE}
  (K:∀H',World W (lg++(aC (aM (nums.map bB) e (aS num))).lg) (sp+(aC (aM (nums.map bB) e (aS num))).lg.length) H'->c8 W H H'->match(aC (aM (nums.map bB) e (aS num))).st with
   |some (.hY v ec)=>∀x,gF H' x 1 v (.aF (ec.map .str))->E x H'
   |_=>Q (.str (fY W (aC (aM (nums.map bB) e (aS num))).o)) H'):aE aB prog (42+m) 700 [.ref W.A.hp,.ref wd] .none H Q E:=by
 rw[show 42+m=21+(21+m) by lia];refine rK uj λH1 sl x1 g1 g2 g3=>?_;have lo:(fu num).length<=3:=by
  delta fu iD;split<;>cases(aS num).a<;>cases(aS num).b<;>cases(aS num).c<;>decide
 have em:(iN num).map MV.str=(fu num).map (λi=>MV.str (n9 i (kJ num)))++ []:=by
  unfold iN;simp only[map_map,ax];rfl
 simp only[em];refine pK (fu num) [] _ (λi hi=>zF hi) (by simp;lia) (aJ _ _) (λH' d=>Qq g3 (by lia) d) λH2 d2 h2 ZT=>?_;refine⟨ZT _ .refl,h2,?_⟩;have x2:gJ H H2:=x1.trans (d2.ext (le_refl _));obtain⟨o1,o2,o3⟩:=Fz num;have ni:∀s b,kc s (((fu num).map (du dW ·)).map .str)=some b->dc .mf H2 (.str s) (.ref H1.length)=some (!b):=λs b h=>by
  have z:nO H2 (.str s) (.ref H1.length)=some b:=(q8 h2).trans h;exact af (Option.map (!·)) z
 have i0:∀k:Int,cL H2 (.aF (dW.map .str)) (.int k)=(dZ (dW.map MV.str).length k).bind λj=>(dW.map MV.str)[j]? :=λk=>rfl;have il:=E9 (x2.keep uj);have ao:=rL he (aS num) (nums.map bB) λp hp=>by
  obtain⟨a,_,rfl⟩:=mem_map.mp hp;exact hS a
 have n1:=ao.n1;have n2:=ao.n2;have n3:=ao.n3;simp only[ar]at n1 n2 n3;have sub:=Ab ok (x2.oq hw) ao.ch (by lia) (by lia) (by lia) (.inl rfl) m (Q:=λv H1=>lS H Q v H1) (E:=λx H1=>j5 H E x H1) (by
  intro H' w' fr;rw[ao.ef]at w'⊢;have K:=K H' w' (x2.A8.trans fr);cases es:(aC (aM (nums.map bB) e (aS num))).st with
  |none=>replace K:=es▸K;exact .inl K
  |some s=>
   rw[es]at K;cases s with
   |brk=>exact .inl K
   |hY v ec=>exact λx hx=>.inl (K x hx))
 rw[ao.tx]at sub;have j0:cL H2 (.aF (dW.map .str)) (.int 0)=some (.str (du dW 0)):=rfl;have j1:cL H2 (.aF (dW.map .str)) (.int 1)=some (.str (du dW 1)):=rfl;have j2:cL H2 (.aF (dW.map .str)) (.int 2)=some (.str (du dW 2)):=rfl;simp only[cI,cH,cB,iI,dF,kY,fb,Ii,fX,bS,b9,ct,bF.of,bF.eB,eE,gz,il,j0,j1,j2,ni _ _ o1,ni _ _ o2,ni _ _ o3,Bool.not_not];rw[show 20+(21+m)=41+m by lia];exact sub
end
section
variable {W:Wd} {lg:List (List Nat)} {sp:Int} {H:MH} {m:Nat} {Q:PQ} {E:PE}
theorem fM(w:World W lg sp H)(n:Nat)(v:MV)(h:(if xO n=true then bW (kC W.A W.i W.e W.f sp) n else .none)=some v):cQ H (.ref W.A.hp) n=some v:=(af (Option.bind · (x6 n)) w.nN).trans h
theorem World.Xu(ok:mj W)(w:World W lg sp H):World W lg (sp+1) (H.set W.A.hp (.aK 664 (kC W.A W.i W.e W.f (sp+1)))):=by
 have nd:=ok.nd;have hl:=bC w.nN;have keep:∀{j:Nat} {o:MO},H[j]? =some o->j≠W.A.hp->(H.set W.A.hp (.aK 664 (kC W.A W.i W.e W.f (sp+1))))[j]? =some o:=λ{j o} h q=>by rw[getElem?_set_ne (λz=>q z.symm)];exact h
 have kv:∀{j:Nat} {kk v:List Nat},dj H j kk v->dj (H.set W.A.hp (.aK 664 (kC W.A W.i W.e W.f (sp+1)))) j kk v:=λ{j kk v} ⟨a,b,c,d,e⟩=>⟨a,b,c,d,keep e (λq=>by replace e:=w.nN▸q▸e;cases e)⟩
 have ke:∀{tl n},Empty W.A H tl n->Empty W.A (H.set W.A.hp (.aK 664 (kC W.A W.i W.e W.f (sp+1)))) tl n:=λq=>q.imp id λ⟨j,q1,q2,q3⟩=>⟨j,q1,q2,kv q3⟩
 obtain⟨tl,h1,h2,h3,h4⟩:=w.ux;exact⟨keep w.y9 (λq=>by have:=w.y9;replace this:=w.nN▸q▸this;cases this),getElem?_set_self hl,keep w.tM (λq=>by have:=w.tM;replace this:=w.nN▸q▸this;cases this),keep w.vX (λq=>by have:=w.vX;replace this:=w.nN▸q▸this;cases this),
  ⟨tl,keep h1 (λq=>by have:=h1;replace this:=w.nN▸q▸this;cases this),ke h2,ke h3,h4⟩,kv w.vx,kv w.vy⟩
theorem z7:c8 W H (H.set W.A.hp (.aK 664 (kC W.A W.i W.e W.f (sp+1)))):=by
 refine⟨by simp,λj hj hn u_=>getElem?_set_ne λq=>hn ?_⟩;rw[<-q];simp[Ad.l]
theorem BR(w:World W lg sp H)(q:MH->Prop):eG H (.ref W.A.hp) 23 (.int (sp+1)) q=(xO 23=true/\q (H.set W.A.hp (.aK 664 (kC W.A W.i W.e W.f (sp+1))))):=af (Ow · (Tx H W.A.hp 23 (.int (sp+1)) q)) w.nN
theorem Ln(ok:mj W)(w:World W lg sp H)(K:∀H',World W lg (sp+1) H'->c8 W H H'->Q .none H'):aE aB prog (m+1) 449 [.ref W.A.hp] .none H Q E:=by
 refine aL (aA:=[some (.ref W.A.hp)]) (show prog 449=some ny from rfl) rfl ?_;have w1:=w.Xu ok;have a21:cQ (H.set W.A.hp (.aK 664 (kC W.A W.i W.e W.f (sp+1)))) (.ref W.A.hp) 21=some .none:=fM w1 21 _ rfl;simp only[ng,cI,cH,Cb,gj,lH,iI,dF,kY,fb,VC,eH,bS,b9,ct,Zp,Zo,bF.of,bF.eB,eE,fM w 23 (.int sp) rfl,a_a,UY,p_i,BR w,a21,Zi,Zk];exact⟨rfl,.inl (K _ w1 z7)⟩
theorem gT(w:World W lg sp H)(ho:∀Q E,(den aB C .none o).val aA H Q E=Q (.ref W.A.hp) H)(hk:bW (kC W.A W.i W.e W.f sp) k= .none)(hf:aB 664 k=some f):
  (den aB C .none (.cj o k args)).val aA H Q E=cJ aB C .none args aA H (λvs H2=>C f (.ref W.A.hp::vs) .none H2 Q E) E:=by
 show(den aB C .none o).val aA H (λov H1=>match ov with
   | .ref r=>(match H1[r]? with
    |some (.aK c aP)=>(match bW aP k,aB c k with
     | .none,some f=>cJ aB C .none args aA H1 (λvs H2=>C f (.ref r::vs) .none H2 Q E) E
     |_,_=>False)
    |_=>False)
   |_=>False) E=_
 rw[ho];dsimp only;rw[w.nN];dsimp only;exact hk▸hf▸rfl
theorem nP(h:H[r]? =some (.dict es))(k:List Nat):nO H (.str k) (.ref r)=some (getD es k).isSome:=af (Option.bind · (Sp (.str k))) h
theorem Hy(ok:mj W)(w:World W lg sp H)(uj:H[wd]? =some (.list (.str aX::Ec)))(LW:wd∉W.A.l)
 (K:∀H' (Q':PQ) (E':PE),(∀v H2,Q v H2->Q' v H2)->(∀v H2,E v H2->E' v H2)->World W lg (sp+1) H'->c8 W H H'->aE aB prog m 700 [.ref W.A.hp,.ref wd] .none H' Q' E'):aE aB prog (m+2) 661 [.ref W.A.hp,.ref wd] .none H Q E:=by
 refine aL (aA:=[some (.ref W.A.hp),some (.ref wd),.none,.none]) (n:=m+1) (show prog 661=some iy from rfl) rfl ?_;have i0:∀{H'},H'[wd]? =some (.list (.str aX::Ec))->cL H' (.ref wd) (.int 0)=some (.str aX):=λh=>(kD h 0).trans (af (Option.bind · _) (lE (by decide) (by simp)));have cm:∀{sp H'},World W lg sp H'->nO H' (.str aX) (.ref W.A.cm)=some true/\cL H' (.ref W.A.cm) (.str aX)=some (.aF [.dg 700,.none]):=λw=>by
  constructor
  ·rw[nP w.vX];rfl
  ·rw[E8 w.vX];rfl
 have hm:∀{Q:PQ} {E:PE},(den aB (aE aB prog (m+1)) .none (.cj (.l 0) 38 [])).val [some (.ref W.A.hp),some (.ref wd),.none,.none] H Q E=aE aB prog (m+1) 449 [.ref W.A.hp] .none H Q E:=λ{Q E}=>by
  rw[gT w (f:=449) (λQ E=>by dsimp only[dF,bF.of,eE]) rfl rfl];dsimp only[b9]
 have ht:∀{Q:Bool->MH->Prop} {E:PE},(den aB (aE aB prog (m+1)) .none (.aV .mf (.bG (.l 1) (.c (.int 0))) (.cn (.l 0) 31))).eM [some (.ref W.A.hp),some (.ref wd),.none,.none] H Q E=Q false H:=λ{Q E}=>by
  simp only[iI,dF,fb,eH,fX,bF.of,bF.eB,eE,gz,MQ,i0 uj,fM w 31 (.ref W.A.cm) rfl,(cm w).1,map_some,Bool.not_true]
 simp only[ik,cI,cH,iQ,pT,gj,cB,lH,ht,false_eq_true,if_false,hm];refine Ln ok w λH1 w1 f1=>?_;have aae:H1[wd]? =some (.list (.str aX::Ec)):=by rw[f1.same wd (bC uj) LW (by rw[uj];intro a q;cases q)];exact uj
 simp only[iI,dF,kY,eH,fX,bS,b9,ct,bF.of,eE,gz,fM w1 31 (.ref W.A.cm) rfl,i0 aae,(cm w1).2,V5,true_and,Vf,length_cons,length_nil,KV,KW,rA,rB,eE,gz];refine aL (aA:=[some (.ref W.A.hp),some (.ref wd),some (.dg 700),some .none]) (show prog 547=some PL from rfl) rfl ?_;dsimp only[Px,cI,cH,gj,cB,iI,dF,fb,bS,b9,ct,bF.of,bF.eB,eE,gz,Zj];exact K H1 _ _ (λv H2 q=>.inl (.inl q)) (λv H2 q=>.inl (.inl q)) w1 f1
theorem rT(ok:mj W)(w:World W lg sp H)(uj:H[wd]? =some (.list (.str aX::Ec)))(LW:wd∉W.A.l){P:List Nat->MH->Prop}
 (KQ:∀s H2,P s H2->Q (.str s) H2)
 (K:∀H' (Q':PQ) (E':PE),(∀s H2,P s H2->Q' (.str s) H2)->(∀v H2,E v H2->E' v H2)->World W lg (sp+1) H'->c8 W H H'->aE aB prog m 700 [.ref W.A.hp,.ref wd] .none H' Q' E'):aE aB prog (m+3) 477 [.ref W.A.hp,.ref wd] .none H Q E:=by
 refine aL (aA:=[some (.ref W.A.hp),some (.ref wd),.none]) (n:=m+2) (show prog 477=some qe from rfl) rfl ?_;have tr:gD H (.ref wd)=some true:=af (nZ · λvs=>some (!vs.isEmpty)) uj;have hm:∀{Q:PQ} {E:PE},(den aB (aE aB prog (m+2)) .none (.cj (.l 0) 28 [.l 1])).val [some (.ref W.A.hp),some (.ref wd),.none] H Q E=aE aB prog (m+2) 661 [.ref W.A.hp,.ref wd] .none H Q E:=λ{Q E}=>by
  rw[gT w (f:=661) (λQ E=>by dsimp only[dF,bF.of,eE]) rfl rfl];dsimp only[b9,ct,dF,bF.of,eE,gz]
 have ht:∀{Q:Bool->MH->Prop} {E:PE},(den aB (aE aB prog (m+2)) .none (.not (.l 1))).eM [some (.ref W.A.hp),some (.ref wd),.none] H Q E=Q false H:=λ{Q E}=>by
  simp only[dF,PH,bF.of,eE,gz,tr,Bool.not_true]
 simp only[pW,cI,cH,gI,gj,cB,lH,ht,false_eq_true,if_false,hm];refine Hy ok w uj LW λH1 Q' E' hq he w1 f1=>K H1 Q' E' (λs H2 p=>hq _ _ ?_) (λv H2 q=>he _ _ (.inl q)) w1 f1;dsimp only[iI,dF,kY,dX,rX,bS,Ih,b9,ct,bF.of,rA,rB,eE,gz,i_o,o_s,Ah,false_eq_true,if_false];exact .inl (KQ s H2 p)
theorem Am(num:Int)(text:List Nat):∃Ec,(gQ num text).map MV.str= .str aX::Ec:=by
 rcases kS num text with⟨h,_⟩|⟨s,h,_⟩|⟨h,_⟩<;>rw[h]<;>exact⟨_,rfl⟩
theorem uH(ok:mj W)(w:World W lg sp H){nums:List Int}(hn:nums.length<=4){e:Nat}(he:e<6)(ll:lg.length<=500000){num:Int}{wd:Nat}
  (uj:H[wd]? =some (.list ((gQ num (bA (nums.map bB) e)).map .str))) (LW:wd∉W.A.l)
  (K1:gY num= .aF []->∀H',World W (lg++(aC (aM (nums.map bB) e (aS num))).lg) (sp+1+(aC (aM (nums.map bB) e (aS num))).lg.length) H'->c8 W H H'->Q (kL W.x W.y [] (aC (aM (nums.map bB) e (aS num)))) H')
  (K2:gY num≠.aF []->∀H',World W lg (sp+1) H'->c8 W H H'->Q (gY num) H'):
  aE aB prog (46+m) 833 [.ref W.A.hp,.ref wd] .none H Q E:=by
 rw[show 46+m=(45+m)+1 by lia];refine aL (aA:=[some (.ref W.A.hp),some (.ref wd),.none]) (show prog 833=some nz from rfl) rfl ?_;obtain⟨Ec,hs⟩:=Am num (bA (nums.map bB) e);have NJ:=uj;rw[hs]at NJ;have hm:∀{Q:PQ} {E:PE},(den aB (aE aB prog (45+m)) .none (.cj (.l 0) 17 [.l 1])).val [some (.ref W.A.hp),some (.ref wd),.none] H Q E=aE aB prog (45+m) 477 [.ref W.A.hp,.ref wd] .none H Q E:=λ{Q E}=>by
  rw[gT w (f:=477) (λQ E=>by dsimp only[dF,bF.of,eE]) rfl rfl];dsimp only[b9,ct,dF,bF.of,eE,gz]
 have dt:∀{Q:PQ} {E:PE},(den aB (aE aB prog (45+m)) .none (.aF [.c (.int 0),.cj (.l 0) 17 [.l 1],.aF []])).val [some (.ref W.A.hp),some (.ref wd),.none] H Q E=aE aB prog (45+m) 477 [.ref W.A.hp,.ref wd] .none H (λv H1=>Q (.aF [.int 0,v,.aF []]) H1) E:=λ{Q E}=>by
  show(den aB (aE aB prog (45+m)) .none (.cj (.l 0) 17 [.l 1])).val [some (.ref W.A.hp),some (.ref wd),.none] H (λv H1=>Q (.aF [.int 0,v,.aF []]) H1) E=_;simp only[hm]
 simp only[nh,cI,cH,cB,Ly,dt];refine(show 45+m=(42+m)+3 by lia)▸?_;have aR:∀{H':MH} {x:Nat} {v:List Nat} {ec:MV},gF H' x 1 v ec->Q (.aF [.int 1,.str v,ec]) H'->(den aB (aE aB prog ((42+m)+3)) (some x) (.aF [.cn (.l 2) 1,.cn (.l 2) 2,.cn (.l 2) 3])).val (bN [some (.ref W.A.hp),some (.ref wd),.none] 2 (some (.ref x))) H'
   (λv H1=>lS H Q v H1) (λe2 H2=>j5 H E e2 H2):=λ{H' x v ec} hx q=>by
  obtain⟨h1,h2,h3⟩:=exA hx;simp only[dF,dX,eH,b9,ct,bF.of,rA,rB,eE,gz,h1,h2,h3];exact .inl q
 rcases kS num (bA (nums.map bB) e)with⟨h,hd⟩|⟨s,h,hd⟩|⟨h,hd⟩
 ·have hn:gY num≠.aF []:=by rw[hd];intro q;cases q
  refine rT (m:=42+m) (P:=λu_ u_=>False) ok w NJ LW (λu_ u_ q=>q.elim) λH1 Q' E' hq hE w1 f1=>?_;refine(show 42+m=21+(21+m) by lia)▸?_;refine Mf (by rw[f1.same wd (bC uj) LW (by rw[uj];intro a q;cases q),uj,h];rfl) λH2 x x2 hx=>hE _ _ ?_;have:=K2 hn H2 (x2.oq w1) (f1.trans x2.A8);rw[hd]at this;exact aR hx this
 ·have hn:gY num≠.aF []:=by rw[hd];intro q;cases q
  refine rT (m:=42+m) (P:=λu_ u_=>False) ok w NJ LW (λu_ u_ q=>q.elim) λH1 Q' E' hq hE w1 f1=>?_;refine(show 42+m=21+(21+m) by lia)▸?_;refine Mg (num:=num) (s:=s) (z:=.str (bA (nums.map bB) e)) (by simp only[f1.same wd (bC uj) LW (by rw[uj];intro a q;cases q),uj,h];simp) λH2 x x2 hx=>hE _ _ ?_;have:=K2 hn H2 (x2.oq w1) (f1.trans x2.A8);rw[hd]at this;exact aR hx this
 ·refine rT (m:=42+m) (P:=λs H2=>Q (.aF [.int 0,.str s,.aF []]) H2) ok w NJ LW (λs H2 q=>.inl q) λH1 Q' E' hq hE w1 f1=>?_;refine Mh (num:=num) ok w1 hn he ll (by simp only[f1.same wd (bC uj) LW (by rw[uj];intro a q;cases q),uj,h];simp) λH2 w2 f2=>?_;have K1:=K1 hd H2 w2 (f1.trans f2);unfold kL at K1;cases es:(aC (aM (nums.map bB) e (aS num))).st with
  |none=>replace K1:=es▸K1;exact hq _ _ K1
  |some s=>
   rw[es]at K1;cases s with
   |brk=>exact hq _ _ K1
   |hY v ec=>exact λx hx=>hE _ _ (aR hx K1)
end
theorem gA(H L:MH)(k:Nat):(H++L)[H.length+k]? =L[k]? :=by rw[getElem?_append_right (by lia)];congr 1;lia
theorem sA(H L:MH)(k:Nat)(o:MO):(H++L).set (H.length+k) o=H++L.set k o:=by rw[List.set_append];rw[ag (by lia)];congr 2;lia
theorem lA(H L:MH):(H++L).length=H.length+L.length:=ak
theorem lF(h:H[r]? =some (.aK c aP))(n:Nat)(v:MV)(q:MH->Prop):eG H (.ref r) n v q=(xO n=true/\q (H.set r (.aK c (jj aP n v)))):=af (Ow · (Tx H r n v q)) h
theorem dR(h:H[r]? =some (.aK c aP))(n:Nat):cQ H (.ref r) n=if xO n=true then bW aP n else .none:=af (Option.bind · (x6 n)) h
theorem lG(h:H[r]? =some (.dict es))(k:List Nat)(v:MV)(q:MH->Prop):jX H (.ref r) (.str k) v q=(es.length<line/\q (H.set r (.dict (jL es k v)))):=af (FH · λes=>es.length<line/\q (H.set r (.dict (jL es k v)))) h
theorem zK(h:H[r]? =some (.dict es))(k:List Nat)(d:MV)(q:PQ):iW .pop H (.ref r) [.str k,d] q=(getD es k= .none/\q d H):=af (FH · λes=>getD es k= .none/\q d H) h
theorem uC(h:H[r]? =some (.dict es)):oK .pop H (.ref r)=true:=af PY h
theorem gU(h:H[r]? =some (.aK c aP))(ho:∀Q E,(den aB C .none o).val aA H Q E=Q (.ref r) H)(hk:bW aP k= .none)(hf:aB c k=some f):
  (den aB C .none (.cj o k args)).val aA H Q E=cJ aB C .none args aA H (λvs H2=>C f (.ref r::vs) .none H2 Q E) E:=by
 show(den aB C .none o).val aA H (λov H1=>match ov with
   | .ref r=>(match H1[r]? with
    |some (.aK c aP)=>(match bW aP k,aB c k with
     | .none,some f=>cJ aB C .none args aA H1 (λvs H2=>C f (.ref r::vs) .none H2 Q E) E
     |_,_=>False)
    |_=>False)
   |_=>False) E=_
 rw[ho];dsimp only;rw[h];dsimp only;exact hk▸hf▸rfl
noncomputable def fJ(n:Nat):List (Nat×MV):=[(18,.ref (n+1)),(19,.ref (n+2)),(20,.int 40),(21,.none),(22,.int 0),(23,.int 0),(24,.int 0),(25,.none),(26,.none),(30,.ref (n+3)),(31,.ref (n+4)),(32,.ref (n+5))]
section
variable {H:MH} {m:Nat} {Q:PQ} {E:PE}
theorem Ij(C:Calls)(aA:Env)(H:MH)(Q:PQ)(E:PE):(den aB C .none (.qc [] [])).val aA H Q E=Q (.ref H.length) (H++ [MO.dict []]):=by
 show((H++ [MO.dict []])[H.length]? =some (MO.dict [])/\Q (.ref H.length) ((H++ [MO.dict []]).set H.length (.dict (([]:List (List Nat)).zip []))))=_;rw[aJ,gi];simp
theorem kg{C:Calls}{r c:Nat}{aP:List (Nat×MV)}{n:Nat}{aA:Env}{H:MH}{Q:SQ}{E:SE}(h:H[r]? =some (.aK c aP))(he:dp aA 0=some (.ref r))(hn:xO n=true)(K:Q .next aA ((H++ [MO.dict []]).set r (.aK c (jj aP n (.ref H.length))))):
  ws aB C .none (.c3 (.l 0) n (.qc [] [])) aA H Q E:=by
 show(den aB C .none (.qc [] [])).val aA H (λv H1=>(den aB C .none (.l 0)).val aA H1 (λov H2=>eG H2 ov n v λH3=>Q .next aA H3) (λx H2=>E x aA H2)) (λx H1=>E x aA H1);simp only[Ij];show(match dp aA 0 with|some v=>_| .none=>False);simp only[he];show eG _ _ _ _ _;rw[lF (bM h)];exact⟨hn,K⟩
theorem ij{C:Calls}{r c:Nat}{aP:List (Nat×MV)}{n:Nat}{v:MV}{e:ME}{aA:Env}{H:MH}{Q:SQ}{E:SE}(h:H[r]? =some (.aK c aP))(he:dp aA 0=some (.ref r))(hv:∀q E2,(den aB C .none e).val aA H q E2=q v H)(hn:xO n=true)(K:Q .next aA (H.set r (.aK c (jj aP n v)))):
  ws aB C .none (.c3 (.l 0) n e) aA H Q E:=by
 simp only[TZ,hv,dF,bF.of,he];rw[lF h];exact⟨hn,K⟩
theorem I6(K:Q (.ref H.length) (H++ [.aK 664 (fJ H.length),.dict [],.dict [],.dict [],.dict [],.dict []])):aE aB prog (m+4) 664 [] .none H Q E:=by
 show aE aB prog (m+3) 562 [.ref H.length] .none (H++ [.aK 664 []]) (λv H1=>v= .none/\Q (.ref H.length) H1) E;refine aL (aA:=[some (.ref H.length),some (.int 40),some .none]) (n:=m+2) (show prog 562=some iX from rfl) rfl ?_;have cm:∀{Q:PQ} {E:PE},(den aB (aE aB prog (m+2)) .none (.fV 501 0 [.l 0,.l 1,.l 2])).val [some (.ref H.length),some (.int 40),some .none] (H++ [.aK 664 []]) Q E=aE aB prog (m+2) 435 [.ref H.length,.int 40,.none] .none (H++ [.aK 664 []]) Q E:=λ{Q E}=>rfl;unfold iT;simp only[cI,cH];have step:∀{Q:PQ} {E:PE},Q .none (H++ [MO.aK 664 [(18,.ref (H.length+1)),(19,.ref (H.length+2)),(20,.int 40),(21,.none),(22,.int 0),(23,.int 0),(24,.int 0),(25,.none),(26,.none)],.dict [],.dict []])->aE aB prog (m+2) 435 [.ref H.length,.int 40,.none] .none (H++ [.aK 664 []]) Q E:=λ{Q E} K=>by
  refine aL (aA:=[some (.ref H.length),some (.int 40),some .none]) (n:=m+1) (show prog 435=some qf from rfl) rfl ?_;unfold pX;simp only[cI,cH];have e0:H.length=H.length+0:=rfl;refine kg (gA H [_] 0) rfl rfl ?_;dsimp only;rw[aq,sA H _ 0,lA];refine kg (gA H _ 0) rfl rfl ?_;dsimp only;rw[aq,sA H _ 0,lA];refine ij (gA H _ 0) rfl (λu_ u_=>rfl) rfl ?_;dsimp only;rw[sA H _ 0];refine ij (gA H _ 0) rfl (λu_ u_=>rfl) rfl ?_;dsimp only;rw[sA H _ 0];refine ij (gA H _ 0) rfl (λu_ u_=>rfl) rfl ?_;dsimp only;rw[sA H _ 0];refine ij (gA H _ 0) rfl (λu_ u_=>rfl) rfl ?_;dsimp only;rw[sA H _ 0];refine ij (gA H _ 0) rfl (λu_ u_=>rfl) rfl ?_;dsimp only;rw[sA H _ 0];refine ij (gA H _ 0) rfl (λu_ u_=>rfl) rfl ?_;dsimp only;rw[sA H _ 0];refine ij (gA H _ 0) rfl (λu_ u_=>rfl) rfl ?_;dsimp only;rw[sA H _ 0];exact .inl K
 show(den aB (aE aB prog (m+2)) .none (.fV 501 0 [.l 0,.l 1,.l 2])).val [some (.ref H.length),some (.int 40),some .none] (H++ [.aK 664 []]) _ _;rw[cm];refine step ?_;refine kg (gA H _ 0) rfl rfl ?_;dsimp only;rw[aq,sA H _ 0,lA];refine kg (gA H _ 0) rfl rfl ?_;dsimp only;rw[aq,sA H _ 0,lA];refine kg (gA H _ 0) rfl rfl ?_;dsimp only;rw[aq,sA H _ 0,lA];exact .inl ⟨rfl,K⟩
end
section
variable {H:MH} {m:Nat} {Q:PQ} {E:PE} {hp cm fs il vr g:Nat} {aP:List (Nat×MV)}
theorem BQ(h1:H[hp]? =some (.aK 664 aP))(h2:bW aP 18=some (.ref tl))(h3:H[tl]? =some (.dict []))(K:Q .none (H.set tl (.dict [(sJ,.dg 413)]))):aE aB prog (m+1) 420 [.ref hp] .none H Q E:=by
 refine aL (aA:=[some (.ref hp)]) (show prog 420=some ma from rfl) rfl ?_;have a:cQ H (.ref hp) 18=some (.ref tl):=by rw[dR h1,h2];rfl
 simp only[lU,cI,cH,pS,iI,dF,kY,eH,bF.of,eE,a,lG h3];exact⟨by decide,.inl K⟩
theorem M0(K:Q (.ref H.length) (H++ [.dict [(aX,.dg 700)]])):aE aB prog (m+1) 707 [] .none H Q E:=by
 refine aL (aA:=[]) (show prog 707=some iZ from rfl) rfl ?_;simp only[iV,cI,cH,cB,kY,CN,b9,ct,bF.of,aJ,gi,true_and];exact .inl K
theorem FQ(h1:H[hp]? =some (.aK 664 aP))(a1:bW aP 31=some (.ref cm))(a2:bW aP 32=some (.ref fs))(a3:bW aP 19=some (.ref il))(h2:H[cm]? =some (.dict es))(h3:H[fs]? =some (.dict fe))(h4:H[il]? =some (.dict []))
 (n1:getD es nm= .none) (n2:getD fe nm= .none) (K:Q .none H):aE aB prog (m+1) 640 [.ref hp,.str nm] .none H Q E:=by
 refine aL (aA:=[some (.ref hp),some (.str nm)]) (show prog 640=some hJ from rfl) rfl ?_;have b1:cQ H (.ref hp) 31=some (.ref cm):=by rw[dR h1,a1];rfl
 have b2:cQ H (.ref hp) 32=some (.ref fs):=by rw[dR h1,a2];rfl
 have b3:cQ H (.ref hp) 19=some (.ref il):=by rw[dR h1,a3];rfl
 simp only[gW,cI,cH,iQ,Cb,gj,iI,dF,fb,eH,v5,b9,ct,bF.of,bF.eB,eE,gz,b1,b2,b3,uC h2,uC h3,zK h2,zK h3,n1,n2,true_and,Vq,nP h4,getD,isSome_none,false_eq_true,if_false];exact .inl K
theorem OD(h1:H[hp]? =some (.aK 664 aP))(a1:bW aP 31=some (.ref cm))(a2:bW aP 32=some (.ref fs))(a3:bW aP 19=some (.ref il))(a4:bW aP 36= .none)(h2:H[cm]? =some (.dict es))(h3:H[fs]? =some (.dict fe))(h4:H[il]? =some (.dict []))
 (n1:getD es nm= .none) (n2:getD fe nm= .none) (hl:es.length<=10) (K:Q .none (H.set cm (.dict (es++ [(nm,.aF [a,d])])))):aE aB prog (m+2) 633 [.ref hp,.str nm,a,d] .none H Q E:=by
 refine aL (aA:=[some (.ref hp),some (.str nm),some a,some d]) (n:=m+1) (show prog 633=some jU from rfl) rfl ?_;have b1:cQ H (.ref hp) 31=some (.ref cm):=by rw[dR h1,a1];rfl
 have hm:∀{Q:PQ} {E:PE},(den aB (aE aB prog (m+1)) .none (.cj (.l 0) 36 [.l 1])).val [some (.ref hp),some (.str nm),some a,some d] H Q E=aE aB prog (m+1) 640 [.ref hp,.str nm] .none H Q E:=λ{Q E}=>by
  rw[gU h1 (f:=640) (λQ E=>by dsimp only[dF,bF.of,eE]) a4 rfl];dsimp only[b9,ct,dF,bF.of,eE,gz]
 simp only[jQ,cI,cH,iQ,pS,hm];refine FQ h1 a1 a2 a3 h2 h3 h4 n1 n2 ?_;simp only[dF,dX,eH,b9,ct,bF.of,eE,gz,b1,lG h2];refine⟨by unfold line;lia,?_⟩;rw[oh _ _ _ n1];exact .inl K
theorem G8(h1:H[hp]? =some (.aK 664 aP))(a1:bW aP 31=some (.ref cm))(a2:bW aP 32=some (.ref fs))(a3:bW aP 19=some (.ref il))(a4:bW aP 36= .none)(a5:bW aP 37= .none)(h2:H[cm]? =some (.dict es))(h3:H[fs]? =some (.dict fe))(h4:H[il]? =some (.dict []))
 (h5:H[g]? =some (.dict [(nm,v)])) (n1:getD es nm= .none) (n2:getD fe nm= .none) (hl:es.length<=10) (hl2:fe.length<=10) (q1:cm≠fs) (q2:g≠cm) (q3:g≠fs) (hv:v= .aF [a,d]\/(v= .dg 700/\a= .dg 700/\d= .none))
 (K:Q .none ((H.set cm (.dict (es++ [(nm,.aF [a,d])]))).set fs (.dict (fe++ [(nm,.bool true)])))):aE aB prog (m+3) 647 [.ref hp,.ref g] .none H Q E:=by
 refine aL (aA:=[some (.ref hp),some (.ref g),.none,.none,.none]) (n:=m+2) (show prog 647=some jT from rfl) rfl ?_;have qJ:hp≠cm:=λq=>by replace h1:=h2▸q▸h1;cases h1
 have it:nS H (.ref g)=some [.str nm]:=af (Option.bind · yU) h5;have ig:cL H (.ref g) (.str nm)=some v:=by
  rw[E8 h5];show(if nm=nm then some v else .none)=_;rw[ah rfl]
 have hm:∀{Q:PQ} {E:PE},(den aB (aE aB prog (m+2)) .none (.cj (.l 0) 37 [.l 2,.l 3,.l 4])).val [some (.ref hp),some (.ref g),some (.str nm),some a,some d] H Q E=aE aB prog (m+2) 633 [.ref hp,.str nm,a,d] .none H Q E:=λ{Q E}=>by
  rw[gU h1 (f:=633) (λQ E=>by dsimp only[dF,bF.of,eE]) a5 rfl];dsimp only[b9,ct,dF,bF.of,eE,gz]
 refine qL (H.set cm (.dict (es++ [(nm,.aF [a,d])]))) λH2 Bd=>?_;have ZM:H2[hp]? =some (.aK 664 aP):=by rw[Bd,getElem?_set_ne (λq=>qJ q.symm)];exact h1
 have h3':H2[fs]? =some (.dict fe):=by rw[Bd,getElem?_set_ne q1];exact h3
 have b2':cQ H2 (.ref hp) 32=some (.ref fs):=by rw[dR ZM,a2];rfl
 rw[<-Bd]at K;have gk:((H2.set fs (.dict (fe++ [(nm,.bool true)]))))[g]? =H[g]? :=by rw[getElem?_set_ne (λq=>q3 q.symm),Bd,getElem?_set_ne (λq=>q2 q.symm)]
 have pr:∀{Q:PQ} {E:PE},Q (.aF [a,d]) H->aE aB prog (m+2) 540 [v] .none H Q E:=λ{Q E} K=>by
  refine aL (aA:=[some v]) (n:=m+1) (show prog 540=some uU from rfl) rfl ?_;rcases hv with rfl|⟨rfl,rfl,rfl⟩
  ·dsimp only[oH,cI,cH,gj,cB,iI,dF,dX,rX,b9,ct,bF.of,eE,i_t,aai,Ah,if_true];exact .inl K
  ·simp only[oH,cI,cH,gj,cB,iI,dF,dX,rX,b9,ct,bF.of,eE,i_t,Ah];exact .inl K
 have body:cv aB (aE aB prog (m+2)) .none [.dE [3,4] (.call (.g 540) [.bG (.l 1) (.l 2)]),.expr (.cj (.l 0) 37 [.l 2,.l 3,.l 4]),.mq (.cn (.l 0) 32) (.l 2) (.c (.bool true))]
   [some (.ref hp),some (.ref g),some (.str nm),.none,.none] H (λfl aG H1=>match fl with
    | .next=>H1[g]? =H[g]?/\lS H Q .none H1
    | .cont=>H1[g]? =H[g]?/\lS H Q .none H1
    | .brk=>lS H Q .none H1
    | .ret v=>lS H Q v H1) (λe aA H1=>j5 H E e H1):=by
  have hc:∀{Q:PQ} {E:PE},(den aB (aE aB prog (m+2)) .none (.call (.g 540) [.bG (.l 1) (.l 2)])).val [some (.ref hp),some (.ref g),some (.str nm),.none,.none] H Q E=aE aB prog (m+2) 540 [v] .none H Q E:=λ{Q E}=>by
   simp only[dF,kY,fX,bS,b9,ct,bF.of,eE,gz,ig]
  simp only[cI,cH,iQ,pT,pS,hc];refine pr ?_;simp only[V5,true_and,Vf,length_cons,length_nil,KV,KW,rA,rB];rw[hm];refine OD h1 a1 a2 a3 a4 h2 h3 h4 n1 n2 hl ?_;refine Bd▸?_;simp only[iI,dF,eH,bF.of,eE,gz,b2',lG h3'];refine⟨by unfold line;lia,?_⟩;rw[oh _ _ _ n2];exact⟨gk,.inl K⟩
 simp only[jP,cI,cH,iQ,pT,pS,Aj,oQ,true_and];show(match nS H (.ref g)with|some vs=>_| .none=>False);refine it▸?_;refine⟨rfl,?_⟩;exact body
theorem Pa(K:Q (.ref H.length) (H++ [.aK 381 [(10,.str gb),(2,.str []),(11,.ref (H.length+1)),(12,.bool false),(13,.bool false),(14,.int 0)],.list []])):aE aB prog (m+2) 381 [] .none H Q E:=by
 show aE aB prog (m+1) 378 [.ref H.length] .none (H++ [.aK 381 []]) (λv H1=>v= .none/\Q (.ref H.length) H1) E;refine aL (aA:=[some (.ref H.length)]) (n:=m) (show prog 378=some sh from rfl) rfl ?_;unfold rO;simp only[cI,cH];refine ij (gA H [_] 0) rfl (λu_ u_=>rfl) rfl ?_;dsimp only;rw[sA H _ 0];refine ij (gA H [_] 0) rfl (λu_ u_=>rfl) rfl ?_;dsimp only;rw[sA H _ 0];show eG (H++ [_]++ [MO.list []]) (.ref H.length) 11 (.ref (H++ [_]).length) _;rw[aq,lA];rw[lF (gA H _ 0)];refine⟨rfl,?_⟩;dsimp only;simp only[show∀(L:MH) (o:MO),(H++L).set H.length o=H++L.set 0 o from λL o=>sA H L 0 o];refine ij (gA H _ 0) rfl (λu_ u_=>rfl) rfl ?_;dsimp only;rw[sA H _ 0];refine ij (gA H _ 0) rfl (λu_ u_=>rfl) rfl ?_;dsimp only;rw[sA H _ 0];refine ij (gA H _ 0) rfl (λu_ u_=>rfl) rfl ?_;dsimp only;rw[sA H _ 0];exact .inl ⟨rfl,K⟩
end
section
variable {H:MH} {m:Nat} {Q:PQ} {E:PE} {hp vr:Nat} {aP:List (Nat×MV)}
theorem xt(h:H[r]? =some (.aK 381 [(10,.str k),(2,.str w),(11,a),(12,b),(13,c),(14,.int n)]))(K:Q (.str v) (H.set r (.aK 381 [(10,.str cC),(2,.str v),(11,a),(12,b),(13,c),(14,.int (n+1))]))):
  aE aB prog (m+1) 526 [.ref r,.str cC,.str v] .none H Q E:=by
 refine aL (aA:=[some (.ref r),some (.str cC),some (.str v)]) (show prog 526=some qm from rfl) rfl ?_;have lt:=bC h;unfold p9;simp only[cI,cH];refine ij h rfl (λu_ u_=>rfl) rfl ?_;dsimp only;have h2:(H.set r (.aK 381 (jj [(10,.str k),(2,.str w),(11,a),(12,b),(13,c),(14,.int n)] 10 (.str cC))))[r]? =some (.aK 381 [(10,.str cC),(2,.str w),(11,a),(12,b),(13,c),(14,.int n)]):=by rw[getElem?_set_self lt];rfl
 refine ij h2 rfl (λu_ u_=>rfl) rfl ?_;dsimp only;rw[set_set];have h3:(H.set r (.aK 381 (jj [(10,.str cC),(2,.str w),(11,a),(12,b),(13,c),(14,.int n)] 2 (.str v))))[r]? =some (.aK 381 [(10,.str cC),(2,.str v),(11,a),(12,b),(13,c),(14,.int n)]):=by rw[getElem?_set_self lt];rfl
 have a14:cQ (H.set r (.aK 381 (jj [(10,.str cC),(2,.str w),(11,a),(12,b),(13,c),(14,.int n)] 2 (.str v)))) (.ref r) 14=some (.int n):=by rw[dR h3];rfl
 simp only[Cb,cB,iI,dF,bF.of,eE,gz,a14,a_a,UY,p_i,lF h3,set_set];exact⟨rfl,.inl K⟩
theorem LH(h1:H[hp]? =some (.aK 664 aP))(a1:bW aP 30=some (.ref vr))(a2:bW aP 34= .none)(a3:bW aP 35= .none)(h2:H[vr]? =some (.dict es))(n1:getD es nm= .none)(hl:es.length<=10)
 (K:∀H',H'.length=H.length+2->(∀j,j<H.length->j≠vr->H'[j]? =H[j]?)->H'[vr]? =some (.dict (es++ [(nm,.ref H.length)]))->dj H' H.length cC v->Q (.str v) H'):aE aB prog (m+5) 604 [.ref hp,.str nm,.str v] .none H Q E:=by
 refine aL (aA:=[some (.ref hp),some (.str nm),some (.str v)]) (n:=m+4) (show prog 604=some iz from rfl) rfl ?_;have lv:=bC h2;have lh:=bC h1;have qJ:hp≠vr:=λq=>by replace h1:=h2▸q▸h1;cases h1
 have Z9:∀{C:Calls} {aA:Env} {Q:PQ} {E:PE},dp aA 0=some (.ref hp)->dp aA 1=some (.str nm)->(den aB C .none (.cj (.l 0) 34 [.l 1])).val aA H Q E=C 576 [.ref hp,.str nm] .none H Q E:=λ{C aA Q E} e0 e1=>by
  rw[gU h1 (f:=576) (λQ E=>by simp only[dF,bF.of,e0]) a2 rfl];simp only[b9,ct,dF,bF.of,e1]
 have hm:∀{C:Calls} {Q:PQ} {E:PE},(den aB C .none (.cj (.l 0) 35 [.cj (.l 0) 34 [.l 1],.l 1,.l 2])).val [some (.ref hp),some (.str nm),some (.str v)] H Q E=C 576 [.ref hp,.str nm] .none H (λr H1=>C 590 [.ref hp,r,.str nm,.str v] .none H1 Q E) E:=λ{C Q E}=>by
  rw[gU h1 (f:=590) (λQ E=>by dsimp only[dF,bF.of,eE]) a3 rfl];rw[ct];dsimp only;rw[Z9 rfl rfl];rfl
 simp only[ip,cI,cH,cB,hm];refine aL (aA:=[some (.ref hp),some (.str nm)]) (n:=m+3) (show prog 576=some fg from rfl) rfl ?_;have b1:cQ H (.ref hp) 30=some (.ref vr):=by rw[dR h1,a1];rfl
 simp only[e9,cI,cH,cB,dF,kY,eH,bS,b9,ct,bF.of,eE,gz,b1];refine aL (aA:=[some (.ref vr),some (.str nm)]) (n:=m+2) (show prog 519=some sk from rfl) rfl ?_;simp only[rR,cI,cH,pS,gj,cB,dF,kY,fb,fX,bS,b9,bF.of,bF.eB,eE,gz,MQ,nP h2,n1,isSome_none,map_some,Bool.not_false,if_true];refine Pa ?_;have Yu:(H++ [MO.aK 381 [(10,.str gb),(2,.str []),(11,.ref (H.length+1)),(12,.bool false),(13,.bool false),(14,.int 0)],MO.list []])[vr]? =some (.dict es):=bM h2;rw[lG Yu];refine⟨by unfold line;lia,?_⟩;rw[oh _ _ _ n1];refine qL ((H++ [MO.aK 381 [(10,.str gb),(2,.str []),(11,.ref (H.length+1)),(12,.bool false),(13,.bool false),(14,.int 0)],MO.list []]).set vr (.dict (es++ [(nm,.ref H.length)]))) λH2 Bd=>?_;refine Bd▸?_;have gv:H2[vr]? =some (.dict (es++ [(nm,.ref H.length)])):=by rw[Bd,getElem?_set_self (bC Yu)]
 have ge:getD (es++ [(nm,MV.ref H.length)]) nm=some (.ref H.length):=by
  rw[f9,n1];show(if nm=nm then some (MV.ref H.length)else .none)=_;rw[ah rfl]
 have gn:H2[H.length]? =some (.aK 381 [(10,.str gb),(2,.str []),(11,.ref (H.length+1)),(12,.bool false),(13,.bool false),(14,.int 0)]):=by
  rw[Bd,getElem?_set_ne (by lia),getElem?_append_right (le_refl _)];simp
 simp only[E8 gv,ge];refine .inl (.inl ?_);refine aL (aA:=[some (.ref hp),some (.ref H.length),some (.str nm),some (.str v)]) (n:=m+3) (show prog 590=some fH from rfl) rfl ?_;dsimp only[fF,cI,cH,cB,iI,dF,kY,bS,b9,ct,bF.of,eE,gz];refine xt (m:=m+2) gn ?_;refine .inl (.inl (K _ ?_ ?_ ?_ ⟨_,_,_,_,getElem?_set_self (bC gn)⟩))
 ·rw[length_set,Bd,length_set,ak];rfl
 ·intro j hj hn;rw[getElem?_set_ne (by lia),Bd,getElem?_set_ne (λq=>hn q.symm),aw hj]
 ·rw[getElem?_set_ne (by lia)];exact gv
theorem DZ(w:World W lg sp H)(hr:∀tl:List (List Nat×MV),getD ([(kX,.ref W.A.vx),(uk,.ref W.A.vy)]++tl) nm=some (.ref r))(hv:dj H r cC v)(K:Q (.str v) H):
  aE aB prog (m+4) 597 [.ref W.A.hp,.str nm] .none H Q E:=by
 refine aL (aA:=[some (.ref W.A.hp),some (.str nm)]) (n:=m+3) (show prog 597=some iY from rfl) rfl ?_;have Z9:∀{C:Calls} {aA:Env} {Q:PQ} {E:PE},dp aA 0=some (.ref W.A.hp)->dp aA 1=some (.str nm)->(den aB C .none (.cj (.l 0) 34 [.l 1])).val aA H Q E=C 576 [.ref W.A.hp,.str nm] .none H Q E:=λ{C aA Q E} e0 e1=>by
  rw[gT w (f:=576) (λQ E=>by simp only[dF,bF.of,e0]) rfl rfl];simp only[b9,ct,dF,bF.of,e1]
 have hm:∀{C:Calls} {Q:PQ} {E:PE},(den aB C .none (.cj (.l 0) 33 [.cj (.l 0) 34 [.l 1],.l 1])).val [some (.ref W.A.hp),some (.str nm)] H Q E=C 576 [.ref W.A.hp,.str nm] .none H (λr H1=>C 583 [.ref W.A.hp,r,.str nm] .none H1 Q E) E:=λ{C Q E}=>by
  rw[gT w (f:=583) (λQ E=>by dsimp only[dF,bF.of,eE]) rfl rfl];rw[ct];dsimp only;rw[Z9 rfl rfl];rfl
 obtain⟨tl,hvr,_⟩:=w.ux;obtain⟨a,b,c,d,hvv⟩:=hv;simp only[iU,cI,cH,cB,hm];refine aL (aA:=[some (.ref W.A.hp),some (.str nm)]) (n:=m+2) (show prog 576=some fg from rfl) rfl ?_;simp only[e9,cI,cH,cB,dF,kY,eH,bS,b9,ct,bF.of,eE,gz,fM w 30 (.ref W.A.vr) rfl];refine aL (aA:=[some (.ref W.A.vr),some (.str nm)]) (n:=m+1) (show prog 519=some sk from rfl) rfl ?_;have hr:=hr tl;simp only[rR,cI,cH,pS,gj,cB,dF,kY,fb,fX,bS,b9,bF.of,bF.eB,eE,gz,MQ,nP hvr,hr,isSome_some,map_some,Bool.not_true,false_eq_true,if_false,E8 hvr];refine .inl (.inl ?_);refine aL (aA:=[some (.ref W.A.hp),some (.ref r),some (.str nm)]) (n:=m+2) (show prog 583=some fZ from rfl) rfl ?_;have a10:cQ H (.ref r) 10=some (.str cC):=by rw[dR hvv];rfl
 have a2:cQ H (.ref r) 2=some (.str v):=by rw[dR hvv];rfl
 have ek:jw H (.str cC) (.str [110,111,110,101])=some false:=rfl;simp only[fU,cI,cH,gj,cB,lH,iI,dF,kY,fb,eH,bS,b9,ct,bF.of,bF.eB,eE,gz,MN,a10,a2,ek,false_eq_true,if_false];exact .inl (.inl K)
end
theorem CV{f:MV->Option Bool}{g:List MV->Option Bool}{y:MV}{q:List MV}(e1:f y=some true)(e2:g q=some true):Zz f g (y::q)=some true:=by
 show((f y).bind _)=_;simp only[e1,bind_some,e2];rfl
theorem eqS(s:List Nat):AZ (.str s) (.str s)=some true:=af some (aj rfl)
theorem kZ:∀l:List (List Nat),t7 (l.map .str)=0/\mR (l.map .str)=true/\ES (l.map .str) (l.map .str)=some true
 | []=>⟨rfl,rfl,rfl⟩
 |s::l=>have z:=kZ l;⟨(af (max 0) z.1).trans rfl,z.2.1,CV (eqS s) z.2.2⟩
theorem It(l:List (List Nat)):AZ (.aF (l.map .str)) (.aF (l.map .str))=some true:=
 have z:=kZ l
 (ah ⟨z.1▸zero_le _,z.2.1,z.2.1⟩).trans z.2.2
theorem wg(k:Int)(s:List Nat)(l:List (List Nat)):AZ (.aF [.int k,.str s,.aF (l.map .str)]) (.aF [.int k,.str s,.aF (l.map .str)])=some true:=by
 have z:=kZ l;have d:t7 [.int k,.str s,.aF (l.map .str)]=1:=by
  show max 0 (max 0 (max (t7 (l.map .str)+1) 0))=1;rw[z.1];rfl
 have p:mR [.int k,.str s,.aF (l.map .str)]=true:=by
  show(true&&(true&&(mR (l.map .str)&&true)))=true;rw[z.2.1];rfl
 exact(ah ⟨d▸by decide,p,p⟩).trans (CV (f:=AZ (.int k)) (af some (aj rfl)) (CV (f:=AZ (.str s)) (eqS s) (CV (f:=AZ (.aF _)) (It l) rfl)))
theorem CX(H:MH)(x y out:List Nat)(e:tS):jw H (kL x y out e) (kL x y out e)=some true:=by
 unfold kL;split
 ·exact wg _ _ _
 ·exact wg 0 _ []
theorem CW(H:MH)(v:List Nat)(ec:List (List Nat)):jw H (wh v ec) (wh v ec)=some true:=wg _ _ _
theorem sf{H:MH}{i j:Nat}{l:List (List Nat)}(hi:H[i]? =some (.list (l.map .str)))(hj:H[j]? =some (.list (l.map .str))):jw H (.ref i) (.ref j)=some true:=by
 obtain⟨h1,h2,h3⟩:=kZ l;exact(af (nZ · λa=>nZ H[j]? λb=>RG a b) hi).trans ((af (nZ · λb=>RG _ b) hj).trans ((ah ⟨by lia,h2,h2⟩).trans h3))
structure LS(W:Wd)(x y:List Nat)(nums:List Int)(l:List Int)(bk nm cl:Nat)(lg:List (List Nat))(sp:Int)(H:MH):Prop where
 ok:mj W
 xo:GC x y
 wx:W.x=x
 wy:W.y=y
 w:World W lg sp H
 GJ:H[cl]? =some (.list (lg.map .str))
 LR:cl∉W.A.l
 sr:dB H bk x y
 Py:bk∉W.A.l
 Uk:H[nm]? =some (.list (nums.map .int))
 P5:nm∉W.A.l
 s0:H[0]? =some (.jy (l.map .int))
 Tw:0∉W.A.l
 GK:nums.length<=4
 nc:nm≠cl
 c0:0<cl
theorem LS.bc(s:LS W x y nums l bk nm cl lg sp H):bk≠cl:=λq=>by
 have:=s.sr;unfold dB at this;replace this:=s.GJ▸q▸this;cases this
theorem DF.oq(d:DF H H' lc)(hn:lc∉W.A.l)(hl:H[lc]? =some (.list l0))(w:World W lg sp H):World W lg sp H':=
 w.keep λj o h q=>d.keep h λe=>by
  rcases q with q|⟨a,rfl⟩
  ·exact hn (e▸q)
  ·replace h:=hl▸e▸h;cases h
theorem c8.keep(f:c8 W H H')(h:H[j]? =some o)(hn:j∉W.A.l)(hi:∀a,o≠.aK 381 a):H'[j]? =some o:=by
 rw[f.same j (bC h) hn (by rw[h];intro a q;exact hi a (inj q))];exact h
section
variable {W:Wd} {x y:List Nat} {nums l:List Int} {bk nm cl:Nat} {lg:List (List Nat)} {sp:Int} {H:MH}
theorem LS.due(s:LS W x y nums l bk nm cl lg sp H)(w1:World W (lg++WE) sp2 H1)(f:c8 W H H1)(d:DF H1 H2 cl)(h2:H2[cl]? =some (.list ((lg++WE).map .str))):LS W x y nums l bk nm cl (lg++WE) sp2 H2:=by
 have c1:H1[cl]? =some (.list (lg.map .str)):=f.keep s.GJ s.LR (λa q=>by injection q);have k:∀{j:Nat} {o:MO},H[j]? =some o->j∉W.A.l->(∀a,o≠.aK 381 a)->j≠cl->H2[j]? =some o:=λh n i q=>d.keep (f.keep h n i) q;exact⟨s.ok,s.xo,s.wx,s.wy,d.oq s.LR c1 w1,h2,s.LR,k s.sr s.Py (λa q=>by injection q) s.bc,s.Py,k s.Uk s.P5 (λa q=>by injection q) s.nc,s.P5,k s.s0 s.Tw (λa q=>by injection q) (by have:=s.c0;lia),s.Tw,s.GK,s.nc,s.c0⟩
noncomputable def fB(bk num nm e:MV)(text:List Nat)(lc cl hp:MV)(o:List (Option MV)):Env:=[some (.ref 0),some bk,some num,some nm,some e,some (.str text),some lc,some cl,some hp]++o
noncomputable def km:List MS:=[.bL 11 (.call (.g 819) [.l 10]),
 .ifs (.or [.aV .ne (.call (.g 812) [.l 8,.l 5,.l 11]) (.call (.g 805) [.l 3,.l 4,.l 11,.l 1,.l 7]),.aV .ne (.l 6) (.l 7)])
 ([.ret (.c (.bool false))])
 ([])]
theorem Ik(nums:List Int)(hn:nums.length<=4)(he:e<6)(f:Fg):(aC (aM (nums.map bB) e f)).lg.length<=500:=by
 have ao:=rL he f (nums.map bB) λp hp=>by
  obtain⟨a,_,rfl⟩:=mem_map.mp hp;exact hS a
 have n3:=ao.n3;rw[ar,ao.ef]at n3;lia
theorem Jr(s:LS W x y nums l bk nm cl lg sp H)(hsp:sp=lg.length)(e1:0<=e)(e2:e<6)(ll:lg.length<=500000)(h10:lz=some (.int w))
 (K:∀H' Fj j8,LS W x y nums l bk nm cl Fj Fj.length H'->Fj.length<=lg.length+500->Q .next (fB (.ref bk) (.int num) (.ref nm) (.int e) (bA (nums.map bB) e.toNat) (.ref W.A.lg) (.ref cl) (.ref W.A.hp) [o9,lz,j8,tQ,tR,sX]) H'):
  cv aB (aE aB prog (46+m)) .none km (fB (.ref bk) (.int num) (.ref nm) (.int e) (bA (nums.map bB) e.toNat) (.ref W.A.lg) (.ref cl) (.ref W.A.hp) [o9,lz,j8,tQ,tR,sX]) H Q E:=by
 subst h10;have he:e.toNat<6:=by lia
 dsimp only[km,cI,cH,gI,gj,cB,iI,dF,kY,fb,VD,bS,b9,ct,VB,Vz,bF.of,bF.eB,fB,cons_append,nil_append,eE,gz,rA,rB];rw[show 46+m=(45+m)+1 by lia];refine sm w ?_;refine(show(45+m)+1=42+(4+m) by lia)▸?_;refine M6 s.ok s.w (aS w) s.GK he ll λH1 w1 f1=>?_;rw[show 42+(4+m)=(41+m)+5 by lia];have k1:∀{j:Nat} {o:MO},H[j]? =some o->j∉W.A.l->(∀a,o≠.aK 381 a)->H1[j]? =some o:=λh n i=>f1.keep h n i;refine AU (x:=x) (y:=y) (lg:=lg) s.xo s.GK e e1 e2 (aS w) (k1 s.sr s.Py (λa q=>by injection q)) (k1 s.Uk s.P5 (λa q=>by injection q)) (k1 s.GJ s.LR (λa q=>by injection q)) s.bc ll λH2 d2 h2=>?_;have s2:=s.due w1 f1 d2 h2;simp only[s.wx,s.wy];have en:dc .ne H2 (kL x y [] (aC (aM (nums.map bB) e.toNat (aS w)))) (kL x y [] (aC (aM (nums.map bB) e.toNat (aS w))))=some false:=by
  show(jw H2 _ _).map (!·)=_;rw[CX];rfl
 have el:dc .ne H2 (.ref W.A.lg) (.ref cl)=some false:=by
  show(jw H2 _ _).map (!·)=_;rw[sf s2.w.y9 s2.GJ];rfl
 simp only[en,el,false_eq_true,if_false];have le:=Ik nums s.GK he (aS w);have e3:sp+((aC (aM (nums.map bB) e.toNat (aS w))).lg.length:Int)=(lg++(aC (aM (nums.map bB) e.toNat (aS w))).lg).length:=by rw[hsp,ak];lia
 simp only[e3]at s2;exact K H2 _ _ s2 (by rw[ak];lia)
theorem y4(e1:0<=e)(e2:e<6):∀(ws:List Int) (lg:List (List Nat)) (H:MH) (o9 lz j8 tQ tR sX:Option MV),LS W x y nums l bk nm cl lg lg.length H->lg.length+500*ws.length<=500000->
  (∀H' Fj lz j8,LS W x y nums l bk nm cl Fj Fj.length H'->Fj.length<=lg.length+500*ws.length->Q .next (fB (.ref bk) (.int num) (.ref nm) (.int e) (bA (nums.map bB) e.toNat) (.ref W.A.lg) (.ref cl) (.ref W.A.hp) [o9,lz,j8,tQ,tR,sX]) H')->
  fC (λv aG H2 Q2 E2=>bJ (.iM 10) v aG λaI=>cv aB (aE aB prog (46+m)) .none km aI H2 Q2 E2) (λu_=>True) (ws.map .int) (fB (.ref bk) (.int num) (.ref nm) (.int e) (bA (nums.map bB) e.toNat) (.ref W.A.lg) (.ref cl) (.ref W.A.hp) [o9,lz,j8,tQ,tR,sX]) H Q E
 | [],lg,H,o9,lz,j8,tQ,tR,sX,s,hl,K=>⟨trivial,K H lg _ _ s (by lia)⟩
 |w::ws,lg,H,o9,lz,j8,tQ,tR,sX,s,hl,K=>by
  refine⟨trivial,?_⟩;have hl':lg.length+500*(ws.length+1)<=500000:=hl;obtain⟨QQ,hQ⟩:∃QQ:SQ,QQ=(λfl aG H1=>match fl with
   | .next=>fC (λv aG H2 Q2 E2=>bJ (.iM 10) v aG λaI=>cv aB (aE aB prog (46+m)) .none km aI H2 Q2 E2) (λu_=>True) (ws.map .int) aG H1 Q E
   | .cont=>fC (λv aG H2 Q2 E2=>bJ (.iM 10) v aG λaI=>cv aB (aE aB prog (46+m)) .none km aI H2 Q2 E2) (λu_=>True) (ws.map .int) aG H1 Q E
   | .brk=>Q .next aG H1
   | .ret w=>Q (.ret w) aG H1):=⟨_,rfl⟩
  have step:bJ (.iM 10) (.int w) (fB (.ref bk) (.int num) (.ref nm) (.int e) (bA (nums.map bB) e.toNat) (.ref W.A.lg) (.ref cl) (.ref W.A.hp) [o9,lz,j8,tQ,tR,sX]) λaI=>cv aB (aE aB prog (46+m)) .none km aI H QQ E:=by
   show cv aB (aE aB prog (46+m)) .none km (fB (.ref bk) (.int num) (.ref nm) (.int e) (bA (nums.map bB) e.toNat) (.ref W.A.lg) (.ref cl) (.ref W.A.hp) [o9,some (.int w),j8,tQ,tR,sX]) H QQ E;refine Jr s rfl e1 e2 (by lia) rfl λH' Fj j8 s' hl2=>?_;rw[hQ];exact y4 e1 e2 ws Fj H' o9 _ j8 tQ tR sX s' (by lia) λH2 WE lz j8 s2 hl3=>K H2 WE lz j8 s2 (by
    show WE.length<=lg.length+500*(ws.length+1);lia)
  simp only[hQ]at step;exact step
end
section
variable {W:Wd} {x y:List Nat} {nums l:List Int} {bk nm cl:Nat} {lg:List (List Nat)} {sp:Int} {H:MH}
theorem LS.gK(s:LS W x y nums l bk nm cl lg sp H)(e:gJ H H2):LS W x y nums l bk nm cl lg sp H2:=
 ⟨s.ok,s.xo,s.wx,s.wy,e.oq s.w,e.keep s.GJ,s.LR,e.keep s.sr,s.Py,e.keep s.Uk,s.P5,e.keep s.s0,s.Tw,s.GK,s.nc,s.c0⟩
theorem pf(h:dB H bk x y):nS H (.ref bk)=some [.str kX,.str uk]:=af (Option.bind · yU) h
noncomputable def OF:MS:=.ret (.aV .eq (.comp 9 (.cj (.l 8) 16 [.l 9]) (.val (.l 1))) (.comp 9 (.bG (.l 1) (.l 9)) (.val (.l 1))))
theorem Dm(s:LS W x y nums l bk nm cl lg sp H)
 (K:∀H',gJ H H'->Q (.ret (.bool true)) (fB (.ref bk) a2 a3 a4 text a6 a7 (.ref W.A.hp) [o9,lz,j8,tQ,tR,sX]) H'):
  ws aB (aE aB prog (m+4)) .none OF (fB (.ref bk) a2 a3 a4 text a6 a7 (.ref W.A.hp) [o9,lz,j8,tQ,tR,sX]) H Q E:=by
 have hm:∀{C:Calls} {aA:Env} {H:MH} {Q:PQ} {E:PE} {nm:List Nat},World W lg sp H->dp aA 8=some (.ref W.A.hp)->dp aA 9=some (.str nm)->(den aB C .none (.cj (.l 8) 16 [.l 9])).val aA H Q E=C 597 [.ref W.A.hp,.str nm] .none H Q E:=λ{C aA H Q E nm} w e0 e1=>by
  rw[gT w (f:=597) (λQ E=>by simp only[dF,bF.of,e0]) rfl rfl];simp only[b9,ct,dF,bF.of,e1]
 have gx:∀tl:List (List Nat×MV),getD ([(kX,.ref W.A.vx),(uk,.ref W.A.vy)]++tl) kX=some (.ref W.A.vx):=λtl=>rfl;have gy:∀tl:List (List Nat×MV),getD ([(kX,.ref W.A.vx),(uk,.ref W.A.vy)]++tl) uk=some (.ref W.A.vy):=λtl=>rfl;have src:∀{H1 H2:MH},dB H1 bk x y->dB H2 bk x y->eK (.ref bk) H1 H2:=λ{H1 H2} b1 b2=>by
  show H2[bk]? =H1[bk]?;rw[b1,b2]
 refine qL (fB (.ref bk) a2 a3 a4 text a6 a7 (.ref W.A.hp) [o9,lz,j8,tQ,tR,sX]) λaA he=>?_;have e1:dp aA 1=some (.ref bk):=by rw[he];rfl
 have c1:∀{Q:PQ} {E:PE} {H:MH},LS W x y nums l bk nm cl lg sp H->Q (.ref H.length) (H++ [.list [.str x,.str y]])->(den aB (aE aB prog (m+4)) .none (.comp 9 (.cj (.l 8) 16 [.l 9]) (.val (.l 1)))).val aA H Q E:=λ{Q E H} s K=>by
  rw[qX];refine⟨rfl,?_⟩;simp only[oQ,dF,Ih,bF.of,e1,pf s.sr];have vy:=s.w.vy;have vx:=s.w.vx;simp only[s.wx]at vx;simp only[s.wy]at vy;refine⟨src s.sr (s.sr.gK _),?_⟩;have ws1:World W lg sp (H++ [MO.list []]):=s.w.gK _;have kv:∀{j:Nat} {kk v:List Nat} (L:MH),dj H j kk v->dj (H++L) j kk v:=λL ⟨a,b,c,d,e⟩=>⟨a,b,c,d,bM e⟩
  show(den aB (aE aB prog (m+4)) .none (.cj (.l 8) 16 [.l 9])).val _ _ _ _;rw[hm ws1 (by rw[he];rfl) (nm:=kX) (by rw[he];rfl)];refine DZ ws1 gx (kv _ vx) ⟨aJ _ _,by decide,?_⟩;rw[gi];refine⟨src s.sr (s.sr.gK _),?_⟩;have ws2:World W lg sp (H++ [MO.list ([]++ [.str x])]):=s.w.gK _;show(den aB (aE aB prog (m+4)) .none (.cj (.l 8) 16 [.l 9])).val _ _ _ _;rw[hm ws2 (by rw[he];rfl) (nm:=uk) (by rw[he];rfl)];refine DZ ws2 gy (kv _ vy) ⟨aJ _ _,(by show 1<line;decide),?_⟩;rw[gi];exact⟨src s.sr (s.sr.gK _),aJ _ _,K⟩
 have c2:∀{Q:PQ} {E:PE} {H:MH},LS W x y nums l bk nm cl lg sp H->Q (.ref H.length) (H++ [.list [.str x,.str y]])->(den aB (aE aB prog (m+4)) .none (.comp 9 (.bG (.l 1) (.l 9)) (.val (.l 1)))).val aA H Q E:=λ{Q E H} s K=>by
  rw[qX];refine⟨rfl,?_⟩;simp only[oQ,dF,fX,bF.of,e1,pf s.sr];have s9:∀v,dp (bN aA 9 (some v)) 9=some v/\dp (bN aA 9 (some v)) 1=some (.ref bk):=λv=>by rw[he];exact⟨rfl,rfl⟩
  refine⟨src s.sr (s.sr.gK _),?_⟩;simp only[(s9 _).1,(s9 _).2,show cL (H++ [MO.list []]) (.ref bk) (.str kX)=some (.str x)from(s.sr.gK [MO.list []]).x];refine⟨aJ _ _,by decide,?_⟩;rw[gi];refine⟨src s.sr (s.sr.gK _),?_⟩;simp only[show cL (H++ [MO.list ([]++ [.str x])]) (.ref bk) (.str uk)=some (.str y)from(s.sr.gK _).y];refine⟨aJ _ _,(by show 1<line;decide),?_⟩;rw[gi];exact⟨src s.sr (s.sr.gK _),aJ _ _,K⟩
 rw[<-he]at K⊢;show(den aB (aE aB prog (m+4)) .none (.comp 9 (.cj (.l 8) 16 [.l 9]) (.val (.l 1)))).val aA H (λa H1=>(den aB (aE aB prog (m+4)) .none (.comp 9 (.bG (.l 1) (.l 9)) (.val (.l 1)))).val aA H1 (λb H2=>match jw H2 a b with
  |some r=>Q (.ret (.bool r)) aA H2
  | .none=>False) (λe H1=>E e aA H1)) (λe H1=>E e aA H1)
 refine c1 s (c2 (s.gK gJ.gK) ?_);have eq:jw (H++ [MO.list [.str x,.str y]]++ [MO.list [.str x,.str y]]) (.ref H.length) (.ref (H++ [MO.list [.str x,.str y]]).length)=some true:=
  sf (l:=[x,y]) (bM (aJ _ _)) (aJ _ _)
 rw[eq];exact K _ (gJ.gK.trans gJ.gK)
noncomputable def W9:ME:=.or [.aV .ne (.call (.g 833) [.l 8,.l 12]) (.l 13),.aV .ne (.l 6) (.l 7),.aV .ne (.cn (.l 8) 23) (.aZ .add (.b1 .len (.l 6)) (.c (.int 1))),.aV .ne (.cn (.l 8) 22) (.c (.int 0))]
theorem y5:kj.drop 11= [.dE [12,13] (.call (.g 826) [.aZ .fdiv (.l 2) (.c (.int 18)),.l 5]),
 .ifs (.aV .eq (.l 13) (.aF []))
 ([.bL 13 (.call (.g 805) [.l 3,.l 4,.call (.g 819) [.aZ .fdiv (.l 2) (.c (.int 18))],.l 1,.l 7])])
 ([]),
 .ifs W9 ([.ret (.c (.bool false))]) ([]),OF]:=rfl
theorem Qj{Q:Bool->MH->Prop}(hv:∀H,jw H v v=some true)
 (hc:∀(Q1:PQ),(∀H,LS W x y nums l bk nm cl lg (lg.length+1) H->Q1 v H)->C 833 [.ref W.A.hp,w] .none H0 Q1 E) (K:∀H,LS W x y nums l bk nm cl lg (lg.length+1) H->Q false H):
  (den aB C .none W9).eM (fB (.ref bk) a2 a3 a4 text (.ref W.A.lg) (.ref cl) (.ref W.A.hp) [o9,lz,j8,some w,some v,sX]) H0 Q E:=by
 dsimp only[W9,iI,dF,kY,fb,VD,fW,eH,M4,bS,b9,ct,VB,Vz,bF.of,bF.eB,fB,cons_append,nil_append,eE,gz];refine hc _ λH s=>?_;have en:dc .ne H v v=some false:=by
  show(jw H _ _).map (!·)=_;rw[hv];rfl
 have el:dc .ne H (.ref W.A.lg) (.ref cl)=some false:=by
  show(jw H _ _).map (!·)=_;rw[sf s.w.y9 s.GJ];rfl
 have bl:m9 .len H (.ref W.A.lg)=some (.int lg.length):=(kh s.w.y9).trans (by rw[ar]);have e3:∀k:Int,dc .ne H (.int k) (.int k)=some false:=λk=>by
  show(some (decide (k=k))).map (!·)=_;rw[aj rfl];rfl
 simp only[en,el,fM s.w 23 (.int (lg.length+1)) rfl,fM s.w 22 (.int 0) rfl,bl,MA,e3,false_eq_true,if_false];exact K H s
theorem Js(s:LS W x y nums l bk nm cl lg lg.length H){num e:Int}{o9 lz j8 tQ tR sX:Option MV}{m:Nat}{Q:SQ}{E:SE}(e1:0<=e)(e2:e<6)(ll:lg.length<=400000)
  (K:∀H' gM,H'[0]? =some (.jy (l.map .int))->Q (.ret (.bool true)) gM H'):
  cv aB (aE aB prog (46+m)) .none (kj.drop 11) (fB (.ref bk) (.int num) (.ref nm) (.int e) (bA (nums.map bB) e.toNat) (.ref W.A.lg) (.ref cl) (.ref W.A.hp) [o9,lz,j8,tQ,tR,sX]) H Q E:=by
 simp only[y5];have he:e.toNat<6:=by lia
 refine qL (num/18) λq hq=>?_;have Ea:∀{hd:Option Nat} {C:Calls} {a:MS} {r:List MS} {aA:Env} {H:MH} {Q:SQ} {E:SE},cv aB C hd (a::r) aA H Q E=ws aB C hd a aA H (λfl aG H1=>match fl with| .next=>cv aB C hd r aG H1 Q E|f=>Q f aG H1) E:=rfl;rw[Ea];refine qL ([MS.ifs (.aV .eq (.l 13) (.aF [])) ([.bL 13 (.call (.g 805) [.l 3,.l 4,.call (.g 819) [.aZ .fdiv (.l 2) (.c (.int 18))],.l 1,.l 7])]) ([]),.ifs W9 ([.ret (.c (.bool false))]) ([]),OF]) λR hR=>?_;refine hR▸?_;simp only[pT,iI,dF,kY,fW,bS,b9,ct,bF.of,fB,cons_append,nil_append,eE,gz,AI,reduceLT,reducePow,and_self,true_and,<-hq];rw[show 46+m=(44+m)+2 by lia];refine LG q _ λH1 wd x1 lw hw=>?_;have s1:=s.gK x1;have wn:wd∉W.A.l:=λz=>by have:=s.w.lt _ z;lia
 have wc:wd≠cl:=λz=>by have:=bC s.GJ;lia
 simp only[V5,true_and,Vf,length_cons,length_nil,KV,KW,rA,rB];rw[hR,Ea];refine qL ([MS.ifs W9 ([.ret (.c (.bool false))]) ([]),OF]) λR2 ZP=>?_;refine ZP▸?_;simp only[gI,gj,cI,cH,iI,dF,kY,dX,fb,fW,bS,b9,ct,bF.of,bF.eB,eE,gz,rA,rB,MN];by_cases hd:gY q= .aF []
 ·have ZD:jw H1 (gY q) (.aF [])=some true:=by rw[hd];rfl
  simp only[ZD,if_true,AI,reduceLT,reducePow,and_self,true_and,<-hq];rw[show(44+m)+2=(45+m)+1 by lia];refine sm q ?_;refine(show(45+m)+1=(41+m)+5 by lia)▸?_;refine AU (x:=x) (y:=y) (lg:=lg) s.xo s.GK e e1 e2 (aS q) s1.sr s1.Uk s1.GJ s1.bc (by lia) λH2 d2 h2=>?_;have w2:World W lg lg.length H2:=d2.oq s1.LR s1.GJ s1.w;have Wr:=d2.keep hw wc;rw[ZP,Ea];have ZR:=d2.keep s1.sr s1.bc;have aaa:=d2.keep s1.Uk s1.nc;have h02:=d2.keep s1.s0 (by have:=s.c0;lia);have eL:(lg.length:Int)+1+((aC (aM (nums.map bB) e.toNat (aS q))).lg.length:Int)=((lg++(aC (aM (nums.map bB) e.toNat (aS q))).lg).length:Int)+1:=by rw[ak];lia
  refine Qj (lg:=lg++(aC (aM (nums.map bB) e.toNat (aS q))).lg) (W:=W) (x:=x) (y:=y) (nums:=nums) (l:=l) (nm:=nm) (λH=>CX H _ _ _ _) (λQ1 k1=>?_) λH3 s3=>?_
  ·simp only[show(41+m)+5=46+m by lia];refine uH s.ok w2 s.GK he (by lia) Wr wn (λu_ H3 w3 f3=>?_) (λz=>a9 hd z);refine s.wx▸s.wy▸?_;rw[eL]at w3;exact k1 H3 ⟨s.ok,s.xo,s.wx,s.wy,w3,f3.keep h2 s.LR (λa q=>by injection q),s.LR,f3.keep ZR s.Py (λa q=>by injection q),s.Py,f3.keep aaa s.P5 (λa q=>by injection q),s.P5,f3.keep h02 s.Tw (λa q=>by injection q),s.Tw,s.GK,s.nc,s.c0⟩
  ·simp only[false_eq_true,if_false,cI,cH];refine(show(41+m)+5=(42+m)+4 by lia)▸?_;exact Dm s3 λH' x'=>K H' _ (x'.keep s3.s0)
 ·have ZD:jw H1 (gY q) (.aF [])=some false:=by
   rcases kS q []with⟨_,h⟩|⟨b,_,h⟩|⟨_,h⟩
   ·rw[h];rfl
   ·rw[h];cases b<;>rfl
   ·exact a9 h hd
  simp only[ZD,false_eq_true,if_false];rw[ZP,Ea];refine Qj (lg:=lg) (W:=W) (x:=x) (y:=y) (nums:=nums) (l:=l) (nm:=nm) (λH=>?_) (λQ1 k1=>?_) λH3 s3=>?_
  ·rcases kS q []with⟨_,h⟩|⟨b,_,h⟩|⟨_,h⟩
   ·rw[h];exact CW _ _ _
   ·rw[h];exact CW _ _ _
   ·exact a9 h hd
  ·refine(show(44+m)+2=46+m by lia)▸?_;refine uH s.ok s1.w s.GK he (by lia) hw wn (λz=>a9 z hd) λu_ H3 w3 f3=>?_;exact k1 H3 ⟨s.ok,s.xo,s.wx,s.wy,w3,f3.keep s1.GJ s.LR (λa q=>by injection q),s.LR,f3.keep s1.sr s.Py (λa q=>by injection q),s.Py,f3.keep s1.Uk s.P5 (λa q=>by injection q),s.P5,f3.keep s1.s0 s.Tw (λa q=>by injection q),s.Tw,s.GK,s.nc,s.c0⟩
  ·simp only[false_eq_true,if_false,cI,cH];rw[show(44+m)+2=(42+m)+4 by lia];exact Dm s3 λH' x'=>K H' _ (x'.keep s3.s0)
end
noncomputable def CD:List MS:=[.expr (.cj (.l 8) 40 [.l 9,.bG (.l 1) (.l 9)])]
theorem Br:kj.drop 5= .dE [6,7,8] (.aF [.fP [],.fP [],.call (.g 664) []]):: .expr (.call (.g 420) [.l 8]):: .expr (.cj (.l 8) 39 [.call (.g 707) []])::
 .expr (.cj (.l 8) 39 [.qc [jb] [.aF [.g 735,.l 6]]]):: .for (.iM 9) (.val (.l 1)) CD:: .for (.iM 10) (.range (.c (.int 8))) km::kj.drop 11:=rfl
theorem ey:cv aB C hd (a::r) aA H Q E=ws aB C hd a aA H (λfl aG H1=>match fl with| .next=>cv aB C hd r aG H1 Q E|f=>Q f aG H1) E:=rfl
section
variable {x y:List Nat} {nums l:List Int} {bk nm:Nat} {H:MH}
theorem Jy(hn:n=H.length+2)(xo:GC x y)
 (a1:H5[H.length]? =some (.list [])) (a2:H5[n]? =some (.aK 664 (fJ n))) (a3:H5[n+1]? =some (.dict [(sJ,.dg 413)])) (a4:H5[n+4]? =some (.dict [(aX,.aF [.dg 700,.none]),(jb,.aF [.dg 735,.ref H.length])]))
 (a5:H5[n+3]? =some (.dict [(kX,.ref (n+8)),(uk,.ref (n+10))])) (a6:dj H5 (n+8) cC x) (a7:dj H5 (n+10) cC y):
  mj ⟨⟨H.length,n,n+1,n+4,n+3,n+8,n+10⟩,x,y,.ref (n+2),.int 0,.ref (n+5)⟩/\World ⟨⟨H.length,n,n+1,n+4,n+3,n+8,n+10⟩,x,y,.ref (n+2),.int 0,.ref (n+5)⟩ [] 0 H5:=by
 refine⟨⟨?_,xo.xl,xo.yl,xo.hx⟩,⟨a1,a2,a3,a4,⟨[],a5,.inl rfl,.inl rfl,zero_le _⟩,a6,a7⟩⟩;show [H.length,n,n+1,n+4,n+3,n+8,n+10].Nodup;simp only[nodup_cons,mem_cons,not_mem_nil,or_false,not_or,not_false_eq_true,nodup_nil,and_true];lia
theorem tP{Hx:MH}{n:Nat}{nm v:List Nat}{es:List (List Nat×MV)}(hv:cL Hx (.ref bk) (.str nm)=some (.str v))(g0:Hx[n]? =some (.aK 664 (fJ n)))(g3:Hx[n+3]? =some (.dict es))(n1:getD es nm= .none)(hl:es.length<=10){a2 a3 a4 a6 a7:MV}{T:List Nat}{o9 lz j8 tQ tR sX:Option MV}{m:Nat}{Q:SQ}{E:SE}
  (K:∀H',H'.length=Hx.length+2->(∀j,j<Hx.length->j≠n+3->H'[j]? =Hx[j]?)->H'[n+3]? =some (.dict (es++ [(nm,.ref Hx.length)]))->dj H' Hx.length cC v->Q .next (fB (.ref bk) a2 a3 a4 T a6 a7 (.ref n) [some (.str nm),lz,j8,tQ,tR,sX]) H'):
  bJ (.iM 9) (.str nm) (fB (.ref bk) a2 a3 a4 T a6 a7 (.ref n) [o9,lz,j8,tQ,tR,sX]) λaI=>cv aB (aE aB prog (m+46)) .none CD aI Hx Q E:=by
 have gm:∀{C:Calls} {args:List ME} {aA:Env} {Q:PQ} {E:PE},dp aA 8=some (.ref n)->(den aB C .none (.cj (.l 8) 40 args)).val aA Hx Q E=cJ aB C .none args aA Hx (λvs H2=>C 604 (.ref n::vs) .none H2 Q E) E:=λe1=>by
  rw[gU g0 (f:=604) (λQ E=>by simp only[dF,bF.of,e1]) rfl rfl]
 dsimp only[Vd,fB,cons_append,nil_append,rA,rB,CD,cI,cH,iQ];rw[gm (by rfl)];simp only[b9,ct,dF,fX,bF.of,eE,gz,hv];exact LH (m:=m+41) (es:=es) g0 (show bW (fJ n) 30=some (.ref (n+3))from rfl) rfl rfl g3 n1 hl λH6 l6 f6 v6 i6=>K H6 l6 f6 v6 i6
theorem Ci{H5:MH}{n:Nat}(b5:dB H5 bk x y)(lb:bk≠n+3)(V0:H5[n]? =some (.aK 664 (fJ n)))(ZI:H5[n+3]? =some (.dict []))(l5:H5.length=n+8){a2 a3 a4 a6 a7:MV}{T:List Nat}{o9 lz j8 tQ tR sX:Option MV}{m:Nat}{Q:SQ}{E:SE}
  (K:∀H' o9,(∀j,j<n+8->j≠n+3->H'[j]? =H5[j]?)->H'[n+3]? =some (.dict [(kX,.ref (n+8)),(uk,.ref (n+10))])->dj H' (n+8) cC x->dj H' (n+10) cC y->Q .next (fB (.ref bk) a2 a3 a4 T a6 a7 (.ref n) [o9,lz,j8,tQ,tR,sX]) H'):
  fC (λv aG H2 Q2 E2=>bJ (.iM 9) v aG λaI=>cv aB (aE aB prog (m+46)) .none CD aI H2 Q2 E2) (eK (.ref bk) H5) [.str kX,.str uk] (fB (.ref bk) a2 a3 a4 T a6 a7 (.ref n) [o9,lz,j8,tQ,tR,sX]) H5 Q E:=by
 have lbk:=bC b5;refine⟨rfl,?_⟩;refine tP (es:=[]) b5.x V0 ZI rfl (by decide) λH6 l6 f6 v6 i6=>?_;have b6:dB H6 bk x y:=by unfold dB;simp only[f6 bk lbk lb];exact b5
 have g60:H6[n]? =some (.aK 664 (fJ n)):=by rw[f6 n (by lia) (by lia)];exact V0
 refine⟨by show H6[bk]? =H5[bk]?;rw[b6,b5],?_⟩;refine tP (es:=[]++ [(kX,.ref H5.length)]) b6.y g60 v6 rfl (by show 1<=10;lia) λH7 l7 f7 v7 i7=>?_;have b7:dB H7 bk x y:=by unfold dB;rw[f7 bk (by lia) lb];exact b6
 refine⟨by show H7[bk]? =H5[bk]?;rw[b7,b5],?_⟩;refine K H7 (some (.str uk)) (λj hj hn=>by simp only[f7 j (by lia) hn,f6 j (by lia) hn]) ?_ ?_ ?_
 ·rw[v7,l6,l5];rfl
 ·obtain⟨a,b,c,d,e⟩:=i6;rw[l5]at e;exact⟨a,b,c,d,by rw[f7 _ (by lia) (by lia)];exact e⟩
 ·rw[l6,l5]at i7;exact i7
theorem NS(xo:GC x y)(hb:dB H bk x y)(YB:H[nm]? =some (.list (nums.map .int)))(h0:H[0]? =some (.jy (l.map .int)))(GK:nums.length<=4){num e:Int}{m:Nat}{Q:SQ}{E:SE}(e1:0<=e)(e2:e<6)
  (K:∀H' gM,H'[0]? =some (.jy (l.map .int))->Q (.ret (.bool true)) gM H'):
  cv aB (aE aB prog (46+m)) .none (kj.drop 5) [some (.ref 0),some (.ref bk),some (.int num),some (.ref nm),some (.int e),some (.str (bA (nums.map bB) e.toNat)),.none,.none,.none,.none,.none,.none,.none,.none,.none] H Q E:=by
 have lb:=bC hb;have ln:=bC YB;have l0:=bC h0;refine qL (kj.drop 11) λR hR=>?_;refine Br▸hR▸(add_comm 46 m)▸?_;rw[ey];simp only[pT,kY,dX,ir,bS,b9,ct,bF.of];refine qL (H++ [MO.list []]++ [MO.list []]) λHH Nz=>?_;simp only[<-Nz];refine I6 (m:=m+42) ?_;simp only[V5,true_and,Vf,length_cons,length_nil,KV,KW,rA,rB];have hlen:HH.length=H.length+2:=by rw[Nz];simp
 have ZV:(H++ [MO.list []]).length=H.length+1:=by simp
 refine ZV▸?_;have xH:gJ H HH:=by simp only[Nz,aq];exact gJ.gK
 have glg:HH[H.length]? =some (.list []):=by rw[Nz];simp
 have GJ:HH[H.length+1]? =some (.list []):=by rw[Nz];simp
 refine qL (HH.length) λn hn=>?_;refine qL ([.aK 664 (fJ n),.dict [],.dict [],.dict [],.dict [],.dict []]:MH) λL0 Yv=>?_;refine hn▸Yv▸?_;have g:∀(L:MH) (k:Nat),(HH++L)[n+k]? =L[k]? :=λL k=>by rw[hn];exact gA HH L k
 have g':∀(L:MH),(HH++L)[n]? =L[0]? :=λL=>g L 0;have st:∀(L:MH) (k:Nat) (o:MO),(HH++L).set (n+k) o=HH++L.set k o:=λL k o=>by rw[hn];exact sA HH L k o
 have lL:∀L:MH,(HH++L).length=n+L.length:=λL=>by rw[hn];exact lA HH L
 refine qL (bA (nums.map bB) e.toNat) λT hT=>?_;refine hT▸?_;show cv aB (aE aB prog (m+46)) .none (_::_) (fB (.ref bk) (.int num) (.ref nm) (.int e) T (.ref H.length) (.ref (H.length+1)) (.ref n) [.none,.none,.none,.none,.none,.none]) (HH++L0) Q E;rw[ey];simp only[iQ,dF,kY,bS,b9,ct,bF.of,fB,cons_append,nil_append,eE,gz];refine BQ (m:=m+45) (by rw[g',Yv];rfl) (show bW (fJ n) 18=some (.ref (n+1))from rfl) (by rw[g,Yv];rfl) ?_;rw[st];refine qL (L0.set 1 (.dict [(sJ,.dg 413)])) λL1 hL1=>?_;rw[<-hL1];have vL1:L1= [.aK 664 (fJ n),.dict [(sJ,.dg 413)],.dict [],.dict [],.dict [],.dict []]:=by rw[hL1,Yv];rfl
 show cv aB (aE aB prog (m+46)) .none (_::_) (fB (.ref bk) (.int num) (.ref nm) (.int e) T (.ref H.length) (.ref (H.length+1)) (.ref n) [.none,.none,.none,.none,.none,.none]) (HH++L1) Q E;rw[ey];have gm:∀{Hx:MH} {k f:Nat} {C:Calls} {args:List ME} {aA:Env} {Q:PQ} {E:PE},Hx[n]? =some (.aK 664 (fJ n))->dp aA 8=some (.ref n)->bW (fJ n) k= .none->aB 664 k=some f->(den aB C .none (.cj (.l 8) k args)).val aA Hx Q E=cJ aB C .none args aA Hx (λvs H2=>C f (.ref n::vs) .none H2 Q E) E:=λh e1 e2 e3=>by
  rw[gU h (λQ E=>by simp only[dF,bF.of,e1]) e2 e3]
 simp only[iQ];rw[gm (f:=647) (by rw[g',vL1];rfl) rfl rfl rfl];simp only[b9,ct,kY,bS,bF.of];refine M0 (m:=m+45) ?_;simp only[aq,lL];refine qL (L1++ [MO.dict [(aX,.dg 700)]]) λL2 hL2=>?_;refine hL2▸?_;have UK:L2= [.aK 664 (fJ n),.dict [(sJ,.dg 413)],.dict [],.dict [],.dict [],.dict [],.dict [(aX,.dg 700)]]:=by rw[hL2,vL1];rfl
 have ll1:n+L1.length=n+6:=by rw[vL1];rfl
 rw[ll1];refine G8 (m:=m+43) (hp:=n) (aP:=fJ n) (cm:=n+4) (fs:=n+5) (il:=n+2) (es:=[]) (fe:=[]) (nm:=aX) (a:=.dg 700) (d:=.none) (v:=.dg 700) (by rw[g',UK];rfl) rfl rfl rfl rfl rfl (by rw[g,UK];rfl) (by rw[g,UK];rfl) (by rw[g,UK];rfl) (by rw[g,UK];rfl) rfl rfl (by decide) (by decide) (by lia) (by lia) (by lia) (.inr ⟨rfl,rfl,rfl⟩) ?_;rw[st,st];refine qL ((L2.set 4 (.dict ([]++ [(aX,.aF [.dg 700,.none])]))).set 5 (.dict ([]++ [(aX,.bool true)]))) λL3 hL3=>?_;rw[<-hL3];have vL3:L3= [.aK 664 (fJ n),.dict [(sJ,.dg 413)],.dict [],.dict [],.dict [(aX,.aF [.dg 700,.none])],.dict [(aX,.bool true)],.dict [(aX,.dg 700)]]:=by rw[hL3,UK];rfl
 show cv aB (aE aB prog (m+46)) .none (_::_) (fB (.ref bk) (.int num) (.ref nm) (.int e) T (.ref H.length) (.ref (H.length+1)) (.ref n) [.none,.none,.none,.none,.none,.none]) (HH++L3) Q E;rw[ey];simp only[iQ];rw[gm (f:=647) (by rw[g',vL3];rfl) rfl rfl rfl];simp only[b9,ct,dF,kY,dX,CN,bF.of,fB,cons_append,nil_append,eE,gz,aJ,gi,true_and];simp only[aq,lL];refine qL (L3++ [MO.dict ([jb].zip [MV.aF [.dg 735,.ref H.length]])]) λL4 hL4=>?_;refine hL4▸?_;have UL:L4= [.aK 664 (fJ n),.dict [(sJ,.dg 413)],.dict [],.dict [],.dict [(aX,.aF [.dg 700,.none])],.dict [(aX,.bool true)],.dict [(aX,.dg 700)],.dict [(jb,.aF [.dg 735,.ref H.length])]]:=by simp only[hL4,vL3];rfl
 have ll3:n+L3.length=n+7:=by rw[vL3];rfl
 refine ll3▸?_;refine G8 (m:=m+43) (hp:=n) (aP:=fJ n) (cm:=n+4) (fs:=n+5) (il:=n+2) (es:=[(aX,.aF [.dg 700,.none])]) (fe:=[(aX,.bool true)]) (nm:=jb) (a:=.dg 735) (d:=.ref H.length) (v:=.aF [.dg 735,.ref H.length]) (by rw[g',UL];rfl) rfl rfl rfl rfl rfl (by rw[g,UL];rfl) (by rw[g,UL];rfl) (by rw[g,UL];rfl) (by rw[g,UL];rfl) rfl rfl (by show 1<=10;lia) (by show 1<=10;lia) (by lia) (by lia) (by lia) (.inl rfl) ?_;rw[st,st];refine qL ((L4.set 4 (.dict ([(aX,.aF [.dg 700,.none])]++ [(jb,.aF [.dg 735,.ref H.length])]))).set 5 (.dict ([(aX,.bool true)]++ [(jb,.bool true)]))) λL5 hL5=>?_;refine hL5▸?_;have XS:L5= [.aK 664 (fJ n),.dict [(sJ,.dg 413)],.dict [],.dict [],.dict [(aX,.aF [.dg 700,.none]),(jb,.aF [.dg 735,.ref H.length])],.dict [(aX,.bool true),(jb,.bool true)],.dict [(aX,.dg 700)],.dict [(jb,.aF [.dg 735,.ref H.length])]]:=by rw[hL5,UL];rfl
 refine qL (HH++L5) λH5 Ny=>?_;have l5:H5.length=n+8:=by simp only[Ny,lL,XS];rfl
 have x5:gJ H H5:=by simp only[Ny];exact xH.trans gJ.gK
 have b5:dB H5 bk x y:=x5.keep hb;have V0:H5[n]? =some (.aK 664 (fJ n)):=by simp only[Ny,g',XS];rfl
 have ZI:H5[n+3]? =some (.dict []):=by simp only[Ny,g,XS];rfl
 have g51:H5[n+1]? =some (.dict [(sJ,.dg 413)]):=by simp only[Ny,g,XS];rfl
 have g54:H5[n+4]? =some (.dict [(aX,.aF [.dg 700,.none]),(jb,.aF [.dg 735,.ref H.length])]):=by simp only[Ny,g,XS];rfl
 have g5l:H5[H.length]? =some (.list []):=by rw[Ny];exact bM glg
 have g5c:H5[H.length+1]? =some (.list []):=by rw[Ny];exact bM GJ
 refine Ny▸?_;show cv aB (aE aB prog (m+46)) .none (_::_) (fB (.ref bk) (.int num) (.ref nm) (.int e) T (.ref H.length) (.ref (H.length+1)) (.ref n) [.none,.none,.none,.none,.none,.none]) H5 Q E;rw[ey];simp only[Aj,oQ,dF,bF.of,fB,cons_append,nil_append,eE,gz,true_and,pf b5];refine hT▸?_;refine Ci (H5:=H5) (n:=n) (o9:=.none) (lz:=.none) (j8:=.none) (tQ:=.none) (tR:=.none) (sX:=.none) b5 (by lia) V0 ZI l5 λH7 o9 f7 v7 i7 j7=>?_;obtain⟨ok,w⟩:=Jy (x:=x) (y:=y) (H:=H) (H5:=H7) (n:=n) (by lia) xo (by rw[f7 _ (by lia) (by lia)];exact g5l) (by rw[f7 _ (by lia) (by lia)];exact V0) (by rw[f7 _ (by lia) (by lia)];exact g51) (by rw[f7 _ (by lia) (by lia)];exact g54) v7 i7 j7;refine qL (⟨⟨H.length,n,n+1,n+4,n+3,n+8,n+10⟩,x,y,.ref (n+2),.int 0,.ref (n+5)⟩:Wd) λW hW=>?_;have mf:∀j,j<=H.length+1->j≠H.length->j∉W.A.l:=λj hj qJ z=>by
  rw[hW]at z;have z:j∈[H.length,n,n+1,n+4,n+3,n+8,n+10]:=z;simp only[mem_cons,not_mem_nil,or_false]at z;lia
 have k7:∀{j:Nat} {o:MO},H[j]? =some o->H7[j]? =some o:=λh=>by
  have:=bC h;rw[f7 _ (by lia) (by lia)];exact x5.keep h
 rw[<-hW]at ok w;have s:LS W x y nums l bk nm (H.length+1) [] (([]:List (List Nat)).length:Nat) H7:=⟨ok,xo,by rw[hW],by rw[hW],w,by rw[f7 _ (by lia) (by lia)];exact g5c,mf _ (le_refl _) (by lia),k7 hb,mf _ (by lia) (by lia),k7 YB,mf _ (by lia) (by lia),k7 h0,mf _ (by lia) (by lia),GK,by lia,by lia⟩
 have hlg:W.A.lg=H.length:=by rw[hW]
 have hhp:W.A.hp=n:=by rw[hW]
 have mc:m+46=46+m:=add_comm _ _;rw[mc];dsimp only;simp only[ey];have rng:∀{C:Calls} {aA:Env} {H:MH} {Q:SQ} {E:SE},fC (λv aG H2 Q2 E2=>bJ (.iM 10) v aG λaI=>cv aB C .none km aI H2 Q2 E2) (λu_=>True) (([0,1,2,3,4,5,6,7]:List Int).map .int) aA H Q E->ws aB C .none (.for (.iM 10) (.range (.c (.int 8))) km) aA H Q E:=λ{C aA H Q E} h=>by
  simp only[Aj,rW,iI,bF.of,true_and];exact⟨by decide,h⟩
 refine rng ?_;have key:∀{Q:SQ} {E:SE},(∀H' Fj lz j8,LS W x y nums l bk nm (H.length+1) Fj Fj.length H'->Fj.length<=4000->Q .next (fB (.ref bk) (.int num) (.ref nm) (.int e) (bA (nums.map bB) e.toNat) (.ref W.A.lg) (.ref (H.length+1)) (.ref W.A.hp) [o9,lz,j8,.none,.none,.none]) H')->
   fC (λv aG H2 Q2 E2=>bJ (.iM 10) v aG λaI=>cv aB (aE aB prog (46+m)) .none km aI H2 Q2 E2) (λu_=>True) (([0,1,2,3,4,5,6,7]:List Int).map .int) (fB (.ref bk) (.int num) (.ref nm) (.int e) (bA (nums.map bB) e.toNat) (.ref W.A.lg) (.ref (H.length+1)) (.ref W.A.hp) [o9,.none,.none,.none,.none,.none]) H7 Q E:=λ{Q E} KK=>
  y4 e1 e2 _ [] H7 _ _ _ _ _ _ s (by decide) λH8 lg8 lz j8 s8 l8=>KK H8 lg8 lz j8 s8 l8
 rw[hlg,hhp]at key;refine key λH8 lg8 lz j8 s8 l8=>?_;have tail:=Js (o9:=o9) (lz:=lz) (j8:=j8) (tQ:=.none) (tR:=.none) (sX:=.none) (num:=num) (m:=m) (Q:=Q) (E:=E) s8 e1 e2 (by lia) K;rw[hlg,hhp,<-hR]at tail;exact tail
end
def vp(e:tS):Bool:=e.lg.isEmpty&&e.st.isNone&&d7 e.o
theorem kT1:(Kp.all λp=>vp (aC (aT p qM)))=true:=by kernel_rfl
theorem kT2:(Oy.all λp=>vp (aC (aT p qM)))=true:=by kernel_rfl
theorem kT3:((List.range 6).all λp=>vp (aC (qG p qM)))=true:=by kernel_rfl
theorem vq(h:vp e=true):e=⟨e.o,[],.none⟩/\d7 e.o=true:=by
 obtain⟨o,lg,st⟩:=e;dsimp only[vp]at h;simp only[and_eq_true,isEmpty_iff,isNone_iff_eq_none]at h;obtain⟨⟨h1,h2⟩,h3⟩:=h;exact⟨by simp only[h1,h2],h3⟩
theorem JO(nums:List Int)(he:e<6):aC (aM (nums.map bB) e qM)=⟨bA (nums.map bB) e,[],.none⟩/\d7 (bA (nums.map bB) e)=true:=by
 induction nums with
 |nil=>
  have:=vq (bj kT3 e (mem_range.mpr he));exact this
 |cons a r I=>
  have hp:vp (aC (aT (bB a) qM))=true:=by
   rcases mem_append.mp (hS a)with h|h
   ·exact bj kT1 _ h
   ·exact bj kT2 _ h
  obtain⟨h1,h2⟩:=vq hp;have e1:aM ((a::r).map bB) e qM=aT (bB a) qM++aM (r.map bB) e qM:=by unfold aM;simp only[map_cons,flatMap_cons,aq]
  have e2:bA ((a::r).map bB) e=mP (bB a)++bA (r.map bB) e:=by unfold bA;simp only[map_cons,flatMap_cons,aq]
  rw[e1,e2,dC,I.1,h1];refine⟨rfl,?_⟩;rw[kG,I.2];show(d7 (aC (aT (bB a) qM)).o&&true)=true;rw[h2];rfl
section
variable {l:List Int} {m:Nat}
theorem zu(h0:dp aA 0=some (.ref 0))(hl:aA.length=15)(hd0:0≠d):∀(ks:List Nat) (acc:List Int) (H:MH),(∀k∈ks,k<4)->H[0]? =some (.jy (l.map .int))->H[d]? =some (.list (acc.map .int))->acc.length+ks.length<=1000->
  (∀H' (nums:List Int),DF H H' d->H'[d]? =some (.list (nums.map .int))->nums.length=acc.length+ks.length->Q (.ref d) H')->
  gG (λv H2 Q2=>(den aB (aE aB prog (m+46)) .none (.call (.g 714) [.l 0,.aZ .add (.c (.int 3)) (.l 14)])).val (bN aA 14 (some v)) H2 Q2 E) (λu_=>True) d (ks.map λi=>.int (i:Nat)) (acc.map .int) H Q
 | [],acc,H,hk,hz,hd,hs,K=>⟨trivial,hd,K H acc .refl hd rfl⟩
 |k::ks,acc,H,hk,hz,hd,hs,K=>by
  refine⟨trivial,?_⟩;have C8:acc.length+(ks.length+1)<=1000:=hs;have hk0:=hk k (.head _);have g0:dp (bN aA 14 (some (.int (k:Nat)))) 0=some (.ref 0):=(gS ..).trans ((ag λz=>(by injection z.1)).trans h0);have GI:dp (bN aA 14 (some (.int (k:Nat)))) 14=some (.int (k:Nat)):=(gS ..).trans (ah ⟨rfl,hl▸by decide⟩);simp only[iI,dF,kY,fW,bS,b9,ct,bF.of,g0,GI,MA];refine ly hz _ (by lia) (by lia) λi G=>⟨bM hd,by rw[ar];unfold line;lia,?_⟩
  have dd:DF H ((H++G).set d (.list (acc.map .int++ [.int i]))) d:=DF.gK.trans .set;have ea:acc.map MV.int++ [.int i]=(acc++ [i]).map .int:=by simp only[map_append];rfl
  rw[ea]at dd⊢;have:=zu h0 hl hd0 ks (acc++ [i]) ((H++G).set d (.list ((acc++ [i]).map .int))) (λj hj=>hk j (.tail _ hj)) (dd.keep hz hd0) (getElem?_set_self (bC (bM hd))) (by rw[ak];simp;lia) (Q:=Q) (E:=E) λH' nums d1 h1 h2=>K H' nums (dd.trans d1) h1 (by simp only[h2,ak];simp;lia);exact this
theorem y3:kj= .bL 1 (.qc [kX,uk] [.call (.g 721) [.call (.g 714) [.l 0,.c (.int 0)]],.call (.g 721) [.call (.g 714) [.l 0,.c (.int 1)]]]):: .bL 2 (.call (.g 714) [.l 0,.c (.int 2)])::
 .bL 3 (.comp 14 (.call (.g 714) [.l 0,.aZ .add (.c (.int 3)) (.l 14)]) (.range (.aZ .add (.c (.int 2)) (.aZ .fmod (.l 2) (.c (.int 3)))))):: .bL 4 (.aZ .fmod (.aZ .fdiv (.l 2) (.c (.int 3))) (.c (.int 6)))::
 .bL 5 (.bG (.call (.g 805) [.l 3,.l 4,.aF [.c (.bool false),.c (.bool false),.c (.bool false)],.l 1,.fP []]) (.c (.int 1)))::kj.drop 5:=rfl
theorem Hp{C:Calls}{aA:Env}{H:MH}{Q:SQ}{E:SE}{k:Int}{e r:ME}(hr:∀Q E,(den aB C .none r).val aA H Q E=Q (.int k) H)(h1:0<=k)(h2:k<line)
  (h:gG (λv H2 Q2=>(den aB C .none e).val (bN aA 14 (some v)) H2 Q2 (λx H1=>E x aA H1)) (λu_=>True) H.length ((List.range k.toNat).map λi=>MV.int (i:Nat)) [] (H++ [.list []]) (λv H1=>Q .next (bN aA 3 (some v)) H1)):ws aB C .none (.bL 3 (.comp 14 e (.range r))) aA H Q E:=by
 simp only[gI,qX,rW,hr];exact⟨trivial,⟨h1,h2⟩,h⟩
theorem Jq(K:∀H' gM,H'[0]? =some (.jy (l.map .int))->Q (.ret (.bool true)) gM H'):cv aB (aE aB prog (m+46)) .none kj [some (.ref 0),.none,.none,.none,.none,.none,.none,.none,.none,.none,.none,.none,.none,.none,.none] [.jy (l.map .int)] Q E:=by
 refine qL (kj.drop 5) λR hR=>?_;refine y3▸hR▸?_;refine qL ([MO.jy (l.map .int)]++ [.dict []]:MH) λH hH=>?_;have e1:([MO.jy (l.map .int)]:MH).length=1:=rfl;have z0:H[0]? =some (.jy (l.map .int)):=by rw[hH];rfl
 have z1:H[1]? =some (.dict []):=by rw[hH];rfl
 rw[ey];simp only[gI,iI,dF,kY,CN,bS,b9,ct,bF.of,eE,rA,rB];rw[<-hH,e1];refine ly (n:=m+45) z0 0 (by decide) (by decide) λi0 G0=>?_;refine Ky (n:=m+45) i0 λx G1 xl xh=>?_;have z0a:(H++G0++G1)[0]? =some (.jy (l.map .int)):=bM (bM z0);refine ly (n:=m+45) z0a 1 (by decide) (by decide) λi1 G2=>?_;refine Ky (n:=m+45) i1 λy G3 yl yh=>⟨bM (bM (bM (bM z1))),?_⟩
 refine qL ((H++G0++G1++G2++G3).set 1 (.dict ([kX,uk].zip [MV.str x,.str y]))) λH1 ZO=>?_;have b1:dB H1 1 x y:=by
  unfold dB;rw[ZO,getElem?_set_self (bC (bM (bM (bM (bM z1)))))];rfl
 have y0:H1[0]? =some (.jy (l.map .int)):=by rw[ZO,getElem?_set_ne (by decide)];exact bM (bM z0a)
 refine ZO▸?_;have xo:GC x y:=⟨xl,yl,xh⟩
 rw[ey];simp only[gI,iI,dF,kY,bS,b9,ct,bF.of,eE,rA,rB];refine ly (n:=m+45) y0 2 (by decide) (by decide) λnum G4=>?_;rw[ey];obtain⟨m1,m2⟩:=eC num (b:=3) (by lia);have b2:dB (H1++G4) 1 x y:=b1.gK _;have w0:(H1++G4)[0]? =some (.jy (l.map .int)):=bM y0;refine qL (H1++G4) λH2 Bd=>?_;rw[<-Bd]at b2 w0⊢;have l2:=bC b2;refine Hp (k:=2+num%3) (λQ E=>by simp only[iI,dF,fW,bF.of,eE,gz,MA,EG,reduceLT,reducePow,and_self,true_and]) (by lia) (by unfold line;lia) ?_;refine zu rfl rfl (by lia) _ [] _ (λk hk=>by have:=mem_range.mp hk;lia) (bM w0) (aJ _ _) (by rw[length_range];simp;lia) λH3 nums d3 h3 n3=>?_;have x3:gJ H2 H3:=d3.ext (le_refl _);have nl:nums.length<=4:=by rw[n3,length_range];simp;lia
 dsimp only;rw[ey];obtain⟨r1,r2⟩:=eC (num/3) (b:=6) (by lia);simp only[gI,iI,dF,fW,bF.of,eE,gz,rA,rB,AI,EG,reduceLT,reducePow,and_self,true_and];simp only[ey];simp only[gI,iI,dF,kY,dX,ir,fX,bS,b9,ct,bF.of,eE,gz,rA,rB];have b3:dB H3 1 x y:=x3.keep b2;have he:(num/3%6).toNat<6:=by lia
 obtain⟨ef,el⟩:=JO nums he;refine AU (n:=m+41) (x:=x) (y:=y) (lg:=[]) xo nl (num/3%6) r1 r2 qM (bM b3) (bM h3) (aJ _ _) (by have:=bC b3;lia) (by decide) λH4 d4 h4=>?_;refine ef▸?_;have x4:gJ H3 H4:=d4.ext (le_refl _);have it:cL H4 (kL x y [] ⟨bA (nums.map bB) (num/3%6).toNat,[],.none⟩) (.int 1)=some (.str (bA (nums.map bB) (num/3%6).toNat)):=by
  show some (MV.str ([]++cp x y (bA (nums.map bB) (num/3%6).toNat)))=_;rw[fc el];rfl
 rw[it,hR];dsimp only;have:=NS (Q:=Q) (E:=E) (m:=m) (num:=num) xo (x4.keep b3) (x4.keep h3) (x4.keep (x3.keep w0)) nl r1 r2 K;rw[add_comm 46 m]at this;exact this
end
theorem NR{l:List Int}{m:Nat}{Q:PQ}{E:PE}(K:∀H',H'[0]? =some (.jy (l.map .int))->Q (.bool true) H'):aE aB prog (m+47) 838 [.ref 0] .none [.jy (l.map .int)] Q E:=by
 refine aL (aA:=[some (.ref 0),.none,.none,.none,.none,.none,.none,.none,.none,.none,.none,.none,.none,.none,.none]) (n:=m+46) (show prog 838=some PM from rfl) rfl ?_;exact Jq λH' gM h=>.inl (K H' h)
end aN
namespace aD
open PySem PySem.W PySem.Calls PyProof.Rows
theorem mtV{f:MV->Prop}{P:Prop}(q:match o with|some v=>f v| .none=>False)(k:∀v,o=some v->f v->P):P:=by
 cases o with
 |none=>exact q.elim
 |some a=>exact k a rfl q
theorem mtB{f:Bool->Prop}{P:Prop}(q:match o with|some v=>f v| .none=>False)(k:∀v,o=some v->f v->P):P:=by
 cases o with
 |none=>exact q.elim
 |some a=>exact k a rfl q
theorem mtL{f:List MV->Prop}{P:Prop}(q:match o with|some v=>f v| .none=>False)(k:∀v,o=some v->f v->P):P:=by
 cases o with
 |none=>exact q.elim
 |some a=>exact k a rfl q
theorem mtN{f:Nat->Prop}{P:Prop}(q:match o with|some v=>f v| .none=>False)(k:∀v,o=some v->f v->P):P:=by
 cases o with
 |none=>exact q.elim
 |some a=>exact k a rfl q
theorem mtF{o:Option MO}{P:Prop}(q:match o with|some (.aR _ _ false)=>True|_=>False)(k:∀c a,o=some (.aR c a false)->P):P:=
 match o,q,k with
 |some (.aR c a false),_,k=>k c a rfl
theorem WO{v:MV}{f:Int->Prop}{P:MV->Prop}(q:match v with| .int a=>f a|_=>False)(k:∀a,f a->P (.int a)):P v:=by
 cases v with
 |int a=>exact k a q
 |_=>exact q.elim
theorem WR{v:MV}{f:Nat->Prop}{P:MV->Prop}(q:match v with| .dg a=>f a|_=>False)(k:∀a,f a->P (.dg a)):P v:=by
 cases v with
 |dg a=>exact k a q
 |_=>exact q.elim
theorem WQ{v:MV}{f:Nat->Prop}{P:MV->Prop}(q:match v with| .ref a=>f a|_=>False)(k:∀a,f a->P (.ref a)):P v:=by
 cases v with
 |ref a=>exact k a q
 |_=>exact q.elim
theorem SN{o:Option MO}{f:Nat->List (Nat×MV)->Prop}{P:Prop}(q:match o with|some (.aK c a)=>f c a|_=>False)(k:∀c a,o=some (.aK c a)->f c a->P):P:=
 match o,q,k with
 |some (.aK c a),q,k=>k c a rfl q
theorem WN{o:Option MO}{q0:Prop}{P:Prop}(q:match o with|some (.aR _ _ _)=>q0|_=>False)(k:∀c a x,o=some (.aR c a x)->q0->P):P:=
 match o,q,k with
 |some (.aR c a x),q,k=>k c a x rfl q
theorem aay{a:Option MV}{b:Option Nat}{f:Nat->Prop}{P:Prop}(q:match a,b with| .none,some x=>f x|_,_=>False)(k:∀x,a=none->b=some x->f x->P):P:=
 match a,b,q,k with
 | .none,some x,q,k=>k x rfl rfl q
theorem aaz{l:List MV}{f:Nat->Prop}{P:List MV->Prop}(q:match l with| [.ref r,_]=>f r|_=>False)(k:∀r v,f r->P [.ref r,v]):P l:=
 match l,q with
 | [.ref r,v],q=>k r v q
abbrev bO:=PySem.Env
abbrev eP:=List (Addr×Addr)
def qQ(ρ ρ':eP):Prop:=∀(i:Nat) (p:Addr×Addr),ρ[i]? =some p->∃q,ρ'[i]? =some (p.1,q)
theorem qQ.refl(ρ:eP):qQ ρ ρ:=λu_ p e=>⟨p.2,e⟩
theorem qQ.trans(x:qQ a b)(y:qQ b c):qQ a c:=λi p e=>let⟨q,e1⟩:=x i p e;let⟨q',e2⟩:=y i _ e1;⟨q',e2⟩
theorem qQ.append(ρ r:eP):qQ ρ (ρ++r):=λi p e=>⟨p.2,by
 rw[aw (bo e).1];exact e⟩
def bI(s:List Nat):Prop:=s.length<=line/\∀c∈s,c<1114112
inductive VR(ρ:eP)(h:Heap):MV->Value->Prop
 |none:VR ρ h .none .none
 |bool (b):VR ρ h (.bool b) (.bool b)
 |int (i t):VR ρ h (.int i) (.int i t)
 |str (s t):bI s->VR ρ h (.str s) (.str (SL s) t)
 |ref {i p}:ρ[i]? =some p->VR ρ h (.ref i) (.ref p.1)
 |dg (a):VR ρ h (.dg a) (.ref a)
 |aF {vs a o ws n}:h.get? a=some o->o.cls= .type "tuple" ->o.data= .seq ws n->vs.length=ws.size->vs.length<=line->
   (∀(j:Nat) (v:MV) (x:Value),vs[j]? =some v->ws[j]? =some x->VR ρ h v x)->VR ρ h (.aF vs) (.ref a)
def cY(ρ:eP)(h:Heap)(vs:List MV)(ws:List Value):Prop:=vs.length=ws.length/\∀(j:Nat) (v:MV) (x:Value),vs[j]? =some v->ws[j]? =some x->VR ρ h v x
structure LQ(o o':Obj):Prop where
 cls:o'.cls=o.cls
 dict:o'.dict=o.dict
 data:(o.cls= .type "traceback" ->∀vs,o.data≠.fields vs)->o'.data=o.data
 tb:o.cls= .type "traceback" ->∀vs,o.data= .fields vs->∃jo,o'.data= .fields jo/\jo.size=vs.size
 sl:∀vs,o.data= .fields vs->o'.slots=o.slots
theorem LQ.refl(o:Obj):LQ o o:=⟨rfl,rfl,λu_=>rfl,λu_ vs e=>⟨vs,e,rfl⟩,λu_ u_=>rfl⟩
theorem LQ.trans(x:LQ a b)(y:LQ b c):LQ a c:=by
 refine⟨y.cls.trans x.cls,y.dict.trans x.dict,λh=>(y.data (λq vs=>by refine(x.data h)▸?_;exact h (x.cls▸q) vs)).trans (x.data h),λh vs e=>?_,λvs e=>?_⟩
 ·obtain⟨jo,e',q⟩:=x.tb h vs e;obtain⟨aa3,e'',q'⟩:=y.tb (by refine x.cls▸?_;exact h) jo e';exact⟨aa3,e'',q'.trans q⟩
 ·have hb:∃jo,b.data= .fields jo:=by
   by_cases h:a.cls= .type "traceback"
   ·obtain⟨jo,e',_⟩:=x.tb h vs e;exact⟨jo,e'⟩
   ·exact⟨vs,(x.data λq=>a9 q h).trans e⟩
  obtain⟨jo,e'⟩:=hb;exact(y.sl jo e').trans (x.sl vs e)
theorem LQ.slots(o:Obj)(sl:Array (Option Value))(h:∀vs,o.data≠.fields vs):LQ o {o with slots:=sl}:=⟨rfl,rfl,λu_=>rfl,λu_ vs e=>⟨vs,e,rfl⟩,λvs e=>a9 e (h vs)⟩
def fA(S:List Addr)(h h':Heap):Prop:=∀b o,b∉S->h.get? b=some o->∃o',h'.get? b=some o'/\LQ o o'
theorem fA.refl(S h):fA S h h:=λu_ o u_ e=>⟨o,e,.refl o⟩
theorem fA.bt(x:fA S h h')(hs:∀b∈S,b∈T):fA T h h':=λb o hb e=>x b o (λq=>hb (hs b q)) e
theorem fA.same(x:fA S h h')(hb:b∉S)(e:h.get? b=some o)(d:o.data= .fields vs)(hc:o.cls≠.type "traceback"):h'.get? b=some o:=by
 obtain⟨o',e',s⟩:=x b o hb e;have:o'=o:=by
  obtain⟨a1,a2,a3,a4⟩:=o;obtain⟨b1,b2,b3,b4⟩:=o';have h1:=s.cls;have h2:=s.dict;have h3:=s.data λq=>a9 q hc;have h4:=s.sl vs d;dsimp only at h1 h2 h3 h4;subst h1;subst h2;subst h3;subst h4;rfl
 exact this▸e'
noncomputable def bV(ρ:eP):List Addr:=ρ.flatMap λp=>[p.1,p.2]
theorem gf:b∈bV ρ↔∃p∈ρ,b=p.1\/b=p.2:=by
 unfold bV;simp only[mem_flatMap,mem_cons,not_mem_nil,or_false]
theorem pV(ρ r:eP):bV (ρ++r)=bV ρ++bV r:=by simp[bV]
theorem aO{ρ:eP}{i:Nat}{p:Addr×Addr}(h:ρ[i]? =some p):p.1∈bV ρ/\p.2∈bV ρ:=
 ⟨gf.mpr ⟨p,mem_of_getElem? h,.inl rfl⟩,gf.mpr ⟨p,mem_of_getElem? h,.inr rfl⟩⟩
def NT(S:List Addr)(h:Heap):Prop:=∀b∈S,∀o,h.get? b=some o->∀ws n,o.data= .seq ws n->o.cls≠.type "tuple"
theorem VR.bt(hρ:qQ ρ ρ')(k:fA S h h')(nt:NT S h)(r:VR ρ h v x):VR ρ' h' v x:=by
 induction r with
 |none=>exact .none
 |bool b=>exact .bool b
 |int i t=>exact .int i t
 |str s t hs=>exact .str s t hs
 |ref e=>obtain⟨q,e'⟩:=hρ _ _ e;exact VR.ref (p:=(_,q)) e'
 |dg a=>exact .dg a
 |aF e hc hd hl hz _ ih=>
  obtain⟨o',e',s⟩:=k _ _ (λq=>nt _ q _ e _ _ hd hc) e;exact .aF e' (s.cls.trans hc) ((s.data (λq=>a9 (hc.symm.trans q) (by simp))).trans hd) hl hz ih
section
variable {ρ:eP} {h:Heap} {x:Value} {P:Value->Prop}
theorem VR.se(r:VR ρ h (.str s) x)(k:∀t,bI s->P (.str (SL s) t)):P x:=by cases r with|str _ t ok=>exact k t ok
theorem VR.ie(r:VR ρ h (.int s) x)(k:∀t,P (.int s t)):P x:=by cases r with|int _ t=>exact k t
theorem VR.be(r:VR ρ h (.bool s) x)(k:P (.bool s)):P x:=by cases r with|bool _=>exact k
theorem VR.ne(r:VR ρ h .none x)(k:P .none):P x:=by cases r with|none=>exact k
theorem VR.ae(r:VR ρ h (.dg s) x)(k:P (.ref s)):P x:=by cases r with|dg _=>exact k
theorem VR.re(r:VR ρ h (.ref i) x)(k:∀p,ρ[i]? =some p->P (.ref p.1)):P x:=by cases r with|ref e=>exact k _ e
theorem VR.te(r:VR ρ h (.aF vs) x)(k:∀a o ws n,h.get? a=some o->o.cls= .type "tuple" ->o.data= .seq ws n->cY ρ h vs ws.toList->vs.length<=line->P (.ref a)):P x:=by
 cases r with|aF e1 e2 e3 e4 e5 e6=>exact k _ _ _ _ e1 e2 e3 ⟨by simp only[e4,length_toList],λj v x a b=>e6 j v x a (by rwa[getElem?_toList]at b)⟩ e5
end
theorem cY.bt{ρ ρ':eP}{h h':Heap}{S:List Addr}(hρ:qQ ρ ρ')(k:fA S h h')(nt:NT S h){vs:List MV}{ws:List Value}(r:cY ρ h vs ws):cY ρ' h' vs ws:=
 ⟨r.1,λj v x e e'=>(r.2 j v x e e').bt hρ k nt⟩
theorem cY.nil(ρ h):cY ρ h [] []:=⟨rfl,λu_ u_ u_ e=>by simp at e⟩
theorem cY.size{ρ h vs}{ws:Array Value}(r:cY ρ h vs ws.toList):vs.length=ws.size:=r.1.trans length_toList
theorem cY.cons{ρ h v x vs ws}(r:VR ρ h v x)(q:cY ρ h vs ws):cY ρ h (v::vs) (x::ws):=
 ⟨by simp[q.1],λj a b e e'=>by
  cases j with
  |zero=>simp at e e';subst e;subst e';exact r
  |succ j=>exact q.2 j a b (by simpa using e) (by simpa using e')⟩
theorem cY.head{ρ h v x vs ws}(q:cY ρ h (v::vs) (x::ws)):VR ρ h v x:=q.2 0 v x rfl rfl
theorem cY.tail{ρ h v x vs ws}(q:cY ρ h (v::vs) (x::ws)):cY ρ h vs ws:=⟨by have:=q.1;simpa using this,λj a b e e'=>q.2 (j+1) a b (by exact e) (by exact e')⟩
theorem cY.append{ρ h vs ws jo Ec}(a:cY ρ h vs ws)(b:cY ρ h jo Ec):cY ρ h (vs++jo) (ws++Ec):=by
 refine⟨by simp[a.1,b.1],λj v x e e'=>?_⟩;by_cases q:j<vs.length
 ·rw[aw q]at e;rw[aw (by rw[<-a.1];exact q)]at e';exact a.2 j v x e e'
 ·rw[getElem?_append_right (le_of_not_lt q)]at e;rw[getElem?_append_right (by rw[<-a.1];exact le_of_not_lt q),<-a.1]at e';exact b.2 _ v x e e'
theorem cY.ce{ρ h v vs xs}(r:cY ρ h (v::vs) xs){P:List Value->Prop}(k:∀x ys,VR ρ h v x->cY ρ h vs ys->P (x::ys)):P xs:=by
 cases xs with
 |nil=>exact(by injection r.1)
 |cons x ys=>exact k x ys r.head r.tail
theorem cY.ne{ρ h xs}(r:cY ρ h [] xs){P:List Value->Prop}(k:P []):P xs:=by
 cases xs with
 |nil=>exact k
 |cons x ys=>exact(by injection r.1)
theorem xw{ρ h o o'}(ro:VR ρ h o o'){f:List Nat->Prop}(e:lQ o f){P:Value->Prop}(k:∀l t,bI l->f l->P (.str (SL l) t)):P o':=Kl (P:=λo=>VR ρ h o o'->P o') e (λl e r=>r.se λt ok=>k l t ok e) ro
theorem FU{ρ h o o'}(ro:VR ρ h o o'){f:Nat->Prop}(e:xn o f){P:Prop}(k:∀i,VR ρ h (.ref i) o'->f i->P):P:=Ki (P:=λo=>VR ρ h o o'->P) e (λi e r=>k i r e) ro
theorem sC{ρ h l l'}(ra:cY ρ h l l'){f:MV->List MV->Prop}(e:pC l f){P:List Value->Prop}(k:∀a x r ys,VR ρ h a x->cY ρ h r ys->f a r->P (x::ys)):P l':=aaK (P:=λl=>cY ρ h l l'->P l') e (λa r e ra=>ra.ce λx ys rx ry=>k a x r ys rx ry e) ra
theorem s1{ρ h l l'}(ra:cY ρ h l l'){f:MV->Prop}(e:p1 l f){P:List Value->Prop}(k:∀a x,VR ρ h a x->f a->P [x]):P l':=To (P:=λl=>cY ρ h l l'->P l') e (λa e ra=>ra.ce λx ys rx ry=>ry.ne (P:=λys=>P (x::ys)) (k a x rx e)) ra
theorem s0{ρ h l l'}(ra:cY ρ h l l'){q:Prop}(e:p0 l q){P:List Value->Prop}(k:q->P []):P l':=aaJ (P:=λl=>cY ρ h l l'->P l') e (λe ra=>ra.ne (k e)) ra
def uy(ρ:eP)(h:Heap)(es:List (List Nat×MV))(cw:List (Str×Value)):Prop:=
 es.length=cw.length/\∀(j:Nat) (e:List Nat×MV) (kv:Str×Value),es[j]? =some e->cw[j]? =some kv->kv.1=SL e.1/\bI e.1/\VR ρ h e.2 kv.2
def LZ(ρ:eP)(h:Heap)(aP:List (Nat×MV))(mA:Str->Option Value):Prop:=
 ∀n v,bW aP n=some v->n<dH.length/\∃x,mA (br n)=some x/\VR ρ h v x
structure GY(bQ h:Heap)(v:Option Value):Prop where
 ok:v=some .none\/∃T oT ts,v=some (.ref T)/\bQ.get? T=none/\h.get? T=some oT/\oT.cls= .type "traceback" /\oT.data= .fields ts/\3<ts.size
inductive OR(pr:Program)(w:World)(so:Obj×Heap)(ρ:eP)(h:Heap)(p:Addr×Addr):MO->Prop
 |list {vs ws n}:h.get? p.1=some {cls:=.type "list",data:=.seq ws n}->cY ρ h vs ws.toList->vs.length<=line->p.2=p.1->OR pr w so ρ h p (.list vs)
 |jy {vs ws n}:h.get? p.1=some so.1->so.1.cls= .type "list" ->so.1.data= .seq ws n->cY ρ h vs ws.toList->vs.length<=line->p.2=p.1->OR pr w so ρ h p (.jy vs)
 |dict {es cw}:h.DictAt (strKind pr w) p.1 cw cw.length->uy ρ h es cw->es.length<=line->p.2=p.1->OR pr w so ρ h p (.dict es)
 |aK {c aP o mA}:me c=true->h.get? p.1=some o->o.cls= .ref c->o.data= .plain->o.dict=some p.2->p.2≠p.1->h.Ns1 p.2 mA->LZ ρ h aP mA->
   (∀x,mA x≠none->∃n,n<dH.length/\x=br n/\(bW aP n).isSome=true)->OR pr w so ρ h p (.aK c aP)
 |aR {c aP x o vs mA}:c=84->h.get? p.1=some o->o.cls= .ref c->o.data= .fields vs->vs.size=6->
   ((o.dict=none/\p.2=p.1/\∀x,mA x=none)\/o.dict=some p.2/\p.2≠p.1/\h.Ns1 p.2 mA)->LZ ρ h aP mA->
   (∀x,mA x≠none->∃n,n<dH.length/\x=br n)->
   (∃T oT ts m,vs[0]? =some (.ref T)/\h.get? T=some oT/\oT.cls= .type "tuple" /\oT.data= .seq ts m)->
   GY so.2 h vs[1]?->(x=false->vs[2]? =some .none)->OR pr w so ρ h p (.aR c aP x)
theorem uy.bt(hρ:qQ ρ ρ')(k:fA S h h')(nt:NT S h){es cw}(r:uy ρ h es cw):uy ρ' h' es cw:=
 ⟨r.1,λj e d a b=>let⟨x,y,z⟩:=r.2 j e d a b;⟨x,y,z.bt hρ k nt⟩⟩
theorem LZ.bt(hρ:qQ ρ ρ')(k:fA S h h')(nt:NT S h){aP mA}(r:LZ ρ h aP mA):LZ ρ' h' aP mA:=
 λn v e=>let⟨l,x,a,b⟩:=r n v e;⟨l,x,a,b.bt hρ k nt⟩
theorem GY.bt(k:fA S h h')(nb:∀b∈S,∀o,h.get? b=some o->∀vs,o.data= .fields vs->o.cls≠.type "traceback")(r:GY bQ h v):GY bQ h' v:=by
 rcases r.ok with e|⟨T,oT,ts,e,hb,hT,hc,hd,hz⟩
 ·exact⟨.inl e⟩
 ·obtain⟨o',e',s⟩:=k T oT (λq=>nb _ q _ hT _ hd hc) hT;obtain⟨ts',d',z'⟩:=s.tb hc ts hd;exact⟨.inr ⟨T,o',ts',e,hb,e',s.cls.trans hc,d',by lia⟩⟩
def NB(S:List Addr)(h:Heap):Prop:=∀b∈S,∀o,h.get? b=some o->(∀ws n,o.data= .seq ws n->o.cls≠.type "tuple")/\(∀vs,o.data= .fields vs->o.cls≠.type "traceback")
theorem NB.nt{S h}(x:NB S h):NT S h:=λb hb o e=>(x b hb o e).1
theorem NB.tb{S h}(x:NB S h):∀b∈S,∀o,h.get? b=some o->∀vs,o.data= .fields vs->o.cls≠.type "traceback" :=λb hb o e=>(x b hb o e).2
theorem fA.get(k:fA S h h')(hb:b∉S)(e:h.get? b=some o)(hc:o.cls≠.type "traceback"):∃o',h'.get? b=some o'/\o'.cls=o.cls/\o'.dict=o.dict/\o'.data=o.data:=by
 obtain⟨o',e',s⟩:=k b o hb e;exact⟨o',e',s.cls,s.dict,s.data λq=>a9 q hc⟩
theorem JJ{h h':Heap}{a:Addr}{m:Str->Option Value}(x:h.Ns1 a m)(k:∀o,h.get? a=some o->∃o',h'.get? a=some o'/\o'.data=o.data):h'.Ns1 a m:=by
 obtain⟨o,es,ep,e,d,r⟩:=x;obtain⟨o',e',d'⟩:=k o e;exact⟨o',es,ep,e',d'.trans d,r⟩
theorem sW{h h':Heap}{a:Addr}{m:Str->Option Value}(x:h.Ns a m)(k:∀o,h.get? a=some o->∃o',h'.get? a=some o'/\o'.data=o.data):h'.Ns a m:=by
 obtain⟨o,es,ep,e,d,r⟩:=x;obtain⟨o',e',d'⟩:=k o e;exact⟨o',es,ep,e',d'.trans d,r⟩
theorem kA(k:fA S h h')(hb:b∉S)(e:h.get? b=some o)(hd:∀vs,o.data≠.fields vs):∃o',h'.get? b=some o'/\o'.data=o.data:=by
 obtain⟨o',e',s⟩:=k b o hb e;exact⟨o',e',s.data λu_=>hd⟩
theorem OR.bt{pr:Program}{w:World}{so:Obj×Heap}{ρ ρ':eP}{h h':Heap}{S:List Addr}(hρ:qQ ρ ρ')(k:fA S h h')(nb:NB S h){p:Addr×Addr}(h1:∀o,h.get? p.1=some o->h'.get? p.1=some o)
  (h2:∀o,h.get? p.2=some o->h'.get? p.2=some o) {o:MO} (r:OR pr w so ρ h p o):OR pr w so ρ' h' p o:=by
 have nt:=nb.nt;cases r with
 |list e hv hl hp=>exact .list (h1 _ e) (hv.bt hρ k nt) hl hp
 |jy e hc hd hv hl hp=>exact .jy (h1 _ e) hc hd (hv.bt hρ k nt) hl hp
 |dict hD he hl hp=>
  obtain⟨o,es,e,r⟩:=hD;exact .dict ⟨o,es,h1 _ e,r⟩ (he.bt hρ k nt) hl hp
 |aK hI e hc hd ui hp hN hA hx=>
  exact .aK hI (h1 _ e) hc hd ui hp (JJ hN λq hq=>⟨q,h2 _ hq,rfl⟩) (hA.bt hρ k nt) hx
 |aR hI e hc hd hz ui hA hx ha ht hf=>
  refine .aR hI (h1 _ e) hc hd hz ?_ (hA.bt hρ k nt) hx ?_ (ht.bt k nb.tb) hf
  ·rcases ui with⟨a,b,c⟩|⟨a,b,hN⟩
   ·exact .inl ⟨a,b,c⟩
   ·exact .inr ⟨a,b,JJ hN λq hq=>⟨q,h2 _ hq,rfl⟩⟩
  ·obtain⟨T,oT,ts,m,a,b,c,d⟩:=ha;obtain⟨S2,b',c',_,d'⟩:=k.get (λq=>(nb _ q _ b).1 _ _ d c) b (by rw[c];simp);exact⟨T,S2,ts,m,a,b',c'.trans c,d'.trans d⟩
structure QR(pr:Program)(w:World)(so:Obj×Heap)(bQ:Heap)(ρ:eP)(H:MH)(h:Heap):Prop where
 len:ρ.length=H.length
 apart:∀(i j:Nat) (p q:Addr×Addr),ρ[i]? =some p->ρ[j]? =some q->i≠j->p.1≠q.1/\p.1≠q.2/\p.2≠q.1/\p.2≠q.2
 fresh:∀a∈bV ρ,bQ.get? a=none
 rh:∀a∈bV ρ,2<a
 mh:∀(i:Nat) (p:Addr×Addr) (o:MO),ρ[i]? =some p->H[i]? =some o->OR pr w so ρ h p o
def xQ(h:Heap)(b:Addr):Prop:=∃ob,h.get? b=some ob/\(ob.cls= .type "list" \/(∃es n,ob.data= .dict es n)\/∃c,ob.cls= .ref c)
theorem P6{m:Str->Option Value}(x:h.Ns1 a m):xQ h a:=x.elim λo z=>z.elim λes z=>z.elim λep z=>⟨o,z.1,.inr (.inl ⟨es,ep,z.2.1⟩)⟩
theorem OR.cls{pr w so ρ h p o}(r:OR pr w so ρ h p o):xQ h p.1/\xQ h p.2:=by
 have O7:∀{P:Prop},xQ h p.1->p.2=p.1->xQ h p.1/\xQ h p.2:=λx e=>⟨x,e.symm▸x⟩
 cases r with
 |list e _ _ hp=>exact O7 (P:=True) ⟨_,e,.inl rfl⟩ hp
 |jy e hc _ _ _ hp=>exact O7 (P:=True) ⟨_,e,.inl hc⟩ hp
 |dict hD _ _ hp=>exact O7 (P:=True) (hD.elim λo z=>z.elim λes z=>⟨_,z.1,.inr (.inl ⟨es,_,z.2.2.1⟩)⟩) hp
 |aK _ e hc _ _ _ hN=>exact⟨⟨_,e,.inr (.inr ⟨_,hc⟩)⟩,P6 hN⟩
 |aR _ e hc _ _ ui=>
  have x:xQ h p.1:=⟨_,e,.inr (.inr ⟨_,hc⟩)⟩
  exact ui.elim (λd=>O7 (P:=True) x d.2.1) λd=>⟨x,P6 d.2.2⟩
theorem QR.om{pr w so bQ ρ H h}(r:QR pr w so bQ ρ H h)(hb:b∈bV ρ):xQ h b:=
 (gf.mp hb).elim λp z=>(getElem?_of_mem z.1).elim λi hi=>
  have hl:i<H.length:=r.len▸(bo hi).1;have k:=(r.mh i p H[i] hi (getElem?_eq_getElem hl)).cls
  z.2.elim (λe=>e▸k.1) λe=>e▸k.2
theorem QR.nb{pr w so bQ ρ H h}(r:QR pr w so bQ ρ H h):NB (bV ρ) h:=λb hb o e=>(r.om hb).elim λob z=>by
 injection(e.symm.trans z.1)with I1;subst I1;exact z.2.elim (λh=>⟨λu_ u_ u_ q=>(nomatch h.symm.trans q),λu_ u_ q=>(nomatch h.symm.trans q)⟩) λz=>z.elim (λz=>z.elim λes z=>z.elim λn h=>⟨λu_ u_ q=>((by injection(h.symm.trans q))),λu_ q=>((by injection(h.symm.trans q)))⟩)
  λz=>z.elim λc h=>⟨λu_ u_ u_ q=>((by injection(h.symm.trans q))),λu_ u_ q=>((by injection(h.symm.trans q)))⟩
def di(h:Heap)(a:Addr):Prop:=∃o vs T,h.get? a=some o/\o.data= .fields vs/\vs[1]? =some (.ref T)
theorem di.at(x:di h a)(k:∀o,h.get? a=some o->h'.get? a=some o):di h' a:=let⟨o,vs,T,e,r⟩:=x;⟨o,vs,T,k o e,r⟩
theorem Fw(e:h.get? a=some o)(d:∀vs,o.data≠.fields vs){P:Prop}:di h a->P:=λ⟨o',vs,T,e',d',u_⟩=>by
 rw[e]at e';injection e' with I1;subst I1
 exact a9 d' (d vs)
structure Go(ρ:eP)(h:Heap)(ρ1:eP)(h1:Heap):Prop where
 b8:qQ ρ ρ1
 new:∀b∈bV ρ1,b∈bV ρ\/h.get? b=none
 keep:fA (bV ρ) h h1
 tb:∀(i:Nat) (p:Addr×Addr),ρ[i]? =some p->di h p.1->di h1 p.1
theorem Go.refl(ρ h):Go ρ h ρ h:=⟨.refl ρ,λu_ hb=>.inl hb,.refl _ _,λu_ u_ u_ x=>x⟩
theorem Go.trans{ρ h ρ1 h1 ρ2 h2}(x:Go ρ h ρ1 h1)(y:Go ρ1 h1 ρ2 h2):Go ρ h ρ2 h2:=by
 refine⟨x.b8.trans y.b8,λb hb=>?_,λb o hb e=>?_,λi p e t=>let⟨q,e1⟩:=x.b8 i p e;y.tb i (p.1,q) e1 (x.tb i p e t)⟩
 ·rcases y.new b hb with q|q
  ·exact x.new b q
  ·by_cases qI:b∈bV ρ
   ·exact .inl qI
   ·cases e:h.get? b with
    |none=>exact .inr rfl
    |some o=>obtain⟨o',e',_⟩:=x.keep b o qI e;rw[q]at e';injection e'
 ·obtain⟨o1,e1,s1⟩:=x.keep b o hb e;have hb1:b∉bV ρ1:=λq=>by
   rcases x.new b q with q|q
   ·exact hb q
   ·rw[q]at e;injection e
  obtain⟨o2,e2,s2⟩:=y.keep b o1 hb1 e1;exact⟨o2,e2,s1.trans s2⟩
structure Cx where
 prog:Program
 w:World
 K:Frag
 bQ:Heap
 mg:Str->Option Value
 mb:Str->Option Value
 g:Array GenState
 d:Drawn
 os:OsState
 so:Obj×Heap
structure cZ(c:Cx):Prop where
 YW:c.K.In c.bQ
 ns:c.bQ.Ns mainGlobals c.mg
 nb:c.bQ.Ns builtinsNs c.mb
 builtins:∀x:Str,x≠"__name__" ->c.mb x=bootBuiltins x
 nolimit:c.bQ.NoLimit
 so:c.so.2=c.bQ
structure St(c:Cx)(FL:List bO)(ρ:eP)(H:MH)(s:Shared):Prop where
 c6:c.bQ.StaysIn s.heap
 frames:s.heap.FunFrames c.bQ FL
 apart:∀b∈FL.filterMap (·.frame),b∉bV ρ
 bD:QR c.prog c.w c.so c.bQ ρ H s.heap
 gens:s.gens=c.g
 drawn:s.drawn=c.d
 os:s.os=c.os
 rh:∃o,c.bQ.get? 3=some o
theorem dG(k:fA S h h'):∀{l:List bO},(∀b∈l.filterMap (·.frame),b∉S)->h.FunFrames bQ l->h'.FunFrames bQ l
 | [],_,_=>trivial
 |aA::r,ha,⟨hk,⟨L,o,hf,hn,ho,hd⟩,hr⟩=>by
  obtain⟨o',e',d'⟩:=kA k (ha L (mem_filterMap.mpr ⟨aA,.head _,hf⟩)) ho hd;exact⟨hk,⟨L,o',hf,hn,e',λvs=>d'▸hd vs⟩,dG k (λb hb=>ha b (by
   obtain⟨e,he,h2⟩:=mem_filterMap.mp hb;exact mem_filterMap.mpr ⟨e,.tail _ he,h2⟩)) hr⟩
def Ex(S:List Addr)(h h':Heap):Prop:=∀b o,b∉S->h.get? b=some o->h'.get? b=some o
theorem Ex.keep{S h h'}(x:Ex S h h'):fA S h h':=λb o hb e=>⟨o,x b o hb e,.refl o⟩
theorem Ex.push(S h o):Ex S h (h.push o):=λu_ u_ u_ e=>Heap.get?_push_of_some o e
theorem Ex.cP(k:Heap.SameBut a h h'):Ex [a] h h':=λb o hb e=>(k.2 b (λq=>hb (by simp[q]))).trans e
theorem Ex.bt{S T h h'}(x:Ex S h h')(hs:∀b∈S,b∈T):Ex T h h':=λb o hb e=>x b o (λq=>hb (hs b q)) e
theorem Ex.JN(k:∀b o,h.get? b=some o->h'.get? b=some o)(S):Ex S h h':=λb o u_ e=>k b o e
theorem dq{b h:Heap}(k:b.StaysIn h){a:Addr}(e:h.get? a=none):b.get? a=none:=by
 cases q:b.get? a with
 |none=>rfl
 |some o=>have:=k a o q;rw[e]at this;injection this
theorem QR.zo{pr w so bQ ρ H h}(r:QR pr w so bQ ρ H h)(e:h.get? a=none):a∉bV ρ:=λq=>by
 obtain⟨ob,e',_⟩:=r.om q;rw[e]at e';injection e'
section
variable {c:Cx} {FL:List bO} {ρ:eP} {H:MH} {s:Shared}
theorem St.size(X:St c FL ρ H s):2<s.heap.objs.size:=by
 obtain⟨o,e⟩:=X.rh;exact Nat.lt_trans (by decide:2<3) (Heap.lt_size (X.c6 _ _ e))
theorem St.lv(X:St c FL ρ H s){i:Nat}{vs:List MV}{x:Value}(r:VR ρ s.heap (.ref i) x)(h:H[i]? =some (.list vs)){P:Value->Prop}
  (k:∀p ws m,ρ[i]? =some p->s.heap.get? p.1=some {cls:=.type "list",data:=.seq ws m}->cY ρ s.heap vs ws.toList->vs.length<=line->p.2=p.1->P (.ref p.1)):P x:=
 r.re λp e=>by cases X.bD.mh _ _ _ e h with|list a b d e1=>exact k _ _ _ e a b d e1
theorem St.fv(X:St c FL ρ H s){i:Nat}{vs:List MV}{x:Value}(r:VR ρ s.heap (.ref i) x)(h:H[i]? =some (.jy vs)){P:Value->Prop}
  (k:∀p ws m,ρ[i]? =some p->s.heap.get? p.1=some c.so.1->c.so.1.cls= .type "list" ->c.so.1.data= .seq ws m->cY ρ s.heap vs ws.toList->vs.length<=line->p.2=p.1->P (.ref p.1)):P x:=
 r.re λp e=>by cases X.bD.mh _ _ _ e h with|jy a b d e1 e2 e3=>exact k _ _ _ e a b d e1 e2 e3
theorem St.dv(X:St c FL ρ H s){i:Nat}{es:List (List Nat×MV)}{x:Value}(r:VR ρ s.heap (.ref i) x)(h:H[i]? =some (.dict es)){P:Value->Prop}
  (k:∀p cw,ρ[i]? =some p->s.heap.DictAt (strKind c.prog c.w) p.1 cw cw.length->uy ρ s.heap es cw->es.length<=line->p.2=p.1->P (.ref p.1)):P x:=
 r.re λp e=>by cases X.bD.mh _ _ _ e h with|dict a b d e1=>exact k _ _ e a b d e1
structure IR(ρ:eP)(h:Heap)(p:Addr×Addr)(C:Nat)(aP:List (Nat×MV))(o:Obj)(mA:Str->Option Value):Prop where
 hI:me C=true
 e:h.get? p.1=some o
 hc:o.cls= .ref C
 iA:o.data= .plain
 ui:o.dict=some p.2
 hp:p.2≠p.1
 hN:h.Ns1 p.2 mA
 hA:LZ ρ h aP mA
 hx:∀x,mA x≠none->∃n,n<dH.length/\x=br n/\(bW aP n).isSome=true
structure ER(so:Obj×Heap)(ρ:eP)(h:Heap)(p:Addr×Addr)(C:Nat)(aP:List (Nat×MV))(xx:Bool)(o:Obj)(vs:Array Value)(mA:Str->Option Value):Prop where
 hI:C=84
 e:h.get? p.1=some o
 hc:o.cls= .ref C
 iA:o.data= .fields vs
 hz:vs.size=6
 ui:(o.dict=none/\p.2=p.1/\∀x,mA x=none)\/o.dict=some p.2/\p.2≠p.1/\h.Ns1 p.2 mA
 hA:LZ ρ h aP mA
 hx:∀x,mA x≠none->∃n,n<dH.length/\x=br n
 ha:∃T oT ts m,vs[0]? =some (.ref T)/\h.get? T=some oT/\oT.cls= .type "tuple" /\oT.data= .seq ts m
 ht:GY so.2 h vs[1]?
 hf:xx=false->vs[2]? =some .none
theorem St.iv(X:St c FL ρ H s)(r:VR ρ s.heap (.ref i) x)(h:H[i]? =some (.aK C aP)){P:Value->Prop}
 (k:∀p o mA,ρ[i]? =some p->IR ρ s.heap p C aP o mA->P (.ref p.1)):P x:=
 r.re λp e=>by cases X.bD.mh _ _ _ e h with|aK a b d e1 e2 e3 e4 e5 e6=>exact k _ _ _ e ⟨a,b,d,e1,e2,e3,e4,e5,e6⟩
theorem St.jx(X:St c FL ρ H s){i:Nat}{p:Addr×Addr}{C:Nat}{aP:List (Nat×MV)}{xx:Bool}(e:ρ[i]? =some p)(h:H[i]? =some (.aR C aP xx)){P:Prop}
  (k:∀o vs mA,ER c.so ρ s.heap p C aP xx o vs mA->P):P:=by
 cases X.bD.mh _ _ _ e h with|aR a b d e1 e2 e3 e4 e5 e6 e7 e8=>exact k _ _ _ ⟨a,b,d,e1,e2,e3,e4,e5,e6,e7,e8⟩
theorem St.ev(X:St c FL ρ H s){i:Nat}{C:Nat}{aP:List (Nat×MV)}{xx:Bool}{x:Value}(r:VR ρ s.heap (.ref i) x)(h:H[i]? =some (.aR C aP xx)){P:Value->Prop}
  (k:∀p o vs mA,ρ[i]? =some p->ER c.so ρ s.heap p C aP xx o vs mA->P (.ref p.1)):P x:=
 r.re λp e=>X.jx e h λo vs mA I=>k p o vs mA e I
theorem St.free(X:St c FL ρ H s){h':Heap}{t:Nat}{S:List Addr}(ex:Ex S s.heap h')(hb:∀a∈S,c.bQ.get? a=none)(hs:∀a∈S,a∉bV ρ)(nb:NB S s.heap)
  (hf:h'.FunFrames c.bQ FL):St c FL ρ H {s with heap:=h',toks:=t}:=by
 refine⟨λb o e=>ex b o (λq=>by rw[hb b q]at e;injection e) (X.c6 b o e),hf,X.apart,⟨X.bD.len,X.bD.apart,X.bD.fresh,X.bD.rh,λi p o a b=>?_⟩,X.gens,X.drawn,X.os,X.rh⟩;have m:=aO a;exact(X.bD.mh i p o a b).bt (.refl ρ) ex.keep nb (λo e=>ex _ o (λq=>hs _ q m.1) e) (λo e=>ex _ o (λq=>hs _ q m.2) e)
theorem St.ex(X:St c FL ρ H s){h':Heap}{t:Nat}(ex:Ex [] s.heap h'):St c FL ρ H {s with heap:=h',toks:=t}/\Go ρ s.heap ρ h':=
 ⟨X.free ex (by simp) (by simp) (λu_ hb=>by simp at hb) (dG ex.keep (by simp) X.frames),.refl ρ,λu_ hb=>.inl hb,ex.keep.bt (by simp),λu_ u_ u_ t=>t.at λo e=>ex _ o (by simp) e⟩
theorem St.pR(X:St c FL ρ H s)(t:Nat):St c FL ρ H {s with toks:=t}:=⟨X.c6,X.frames,X.apart,X.bD,X.gens,X.drawn,X.os,X.rh⟩
theorem St.new(X:St c FL ρ H s){h':Heap}{t:Nat}{p:Addr×Addr}{o:MO}(ex:Ex [] s.heap h')(hp1:s.heap.objs.size<=p.1)(hp2:s.heap.objs.size<=p.2)(r:OR c.prog c.w c.so (ρ++ [p]) h' p o):
  St c FL (ρ++ [p]) (H++ [o]) {s with heap:=h',toks:=t}/\Go ρ s.heap (ρ++ [p]) h':=by
 have n:∀b,b=p.1\/b=p.2->s.heap.get? b=none:=λb hb=>Heap.get?_none_of_le (hb.elim (λe=>e▸hp1) λe=>e▸hp2);have z:=X.ex (t:=t) ex;have ad:∀b,b∈bV (ρ++ [p])->b∈bV ρ\/b=p.1\/b=p.2:=λb hb=>(mem_append.mp (pV _ _▸hb)).imp id λq=>(gf.mp q).elim λp' z=>by obtain rfl:=bg z.1;exact z.2
 have ap:∀(i:Nat) (a:Addr×Addr),ρ[i]? =some a->∀b,b=p.1\/b=p.2->b≠a.1/\b≠a.2:=λi a ha b hb=>have m:=aO ha;have k:=X.bD.zo (n b hb);⟨λe=>k (e▸m.1),λe=>k (e▸m.2)⟩;refine⟨⟨z.1.c6,z.1.frames,λb hb q=>(ad b q).elim (X.apart b hb) λq=>(X.frames.mem hb).2.elim λob e=>((by injection((n b q).symm.trans e.1))),⟨by simp only[ak,ak,X.bD.len];rfl,λi j a b ha hb Ut=>?_,λa ha=>(ad a ha).elim (X.bD.fresh a) λq=>dq X.c6 (n a q),
  λa ha=>(ad a ha).elim (X.bD.rh a) λq=>lt_of_lt_of_le X.size (q.elim (λe=>e▸hp1) λe=>e▸hp2),λi a ob ha wK=>?_⟩,X.gens,X.drawn,X.os,X.rh⟩,.append ρ _,λb hb=>(ad b hb).imp id (n b),z.2.keep,z.2.tb⟩
 ·exact(gR ha).elim (λx=>(gR hb).elim (λy=>X.bD.apart i j a b x y Ut) λy=>y.2▸have u:=ap i a x _ (.inl rfl);have v:=ap i a x _ (.inr rfl);⟨u.1.symm,v.1.symm,u.2.symm,v.2.symm⟩)
   λx=>(gR hb).elim (λy=>x.2▸have u:=ap j b y _ (.inl rfl);have v:=ap j b y _ (.inr rfl);⟨u.1,u.2,v.1,v.2⟩) λy=>a9 (x.1.trans y.1.symm) Ut
 ·refine(gR ha).elim (λx=>?_) λx=>?_
  ·have il:=(bo x).1;rw[aw (X.bD.len▸il)]at wK;exact(X.bD.mh i a ob x wK).bt (.append ρ _) ex.keep (λu_ hb=>a9 hb not_mem_nil) (λo e=>ex _ o not_mem_nil e) λo e=>ex _ o not_mem_nil e
  ·obtain⟨rfl,rfl⟩:=x;simp only[X.bD.len,getElem?_concat_length]at wK;exact inj wK▸r
theorem Dn(hi:ρ[i]? =some p)(q:Addr):qQ ρ (ρ.set i (p.1,q)):=λj r e=>by
 by_cases h:i=j
 ·subst h;rw[hi]at e;injection e with I1;subst I1
  exact⟨q,by rw[getElem?_set_self (bo hi).1]⟩
 ·exact⟨r.2,by rw[getElem?_set_ne h];exact e⟩
theorem St.XO(X:St c FL ρ H s){h':Heap}{t:Nat}{i:Nat}{p:Addr×Addr}{q:Addr}{o:MO}(hi:ρ[i]? =some p)(ex:Ex [p.1,p.2] s.heap h')(hq':q=p.2\/s.heap.objs.size<=q)(Wq:di s.heap p.1->di h' p.1)
  (r:OR c.prog c.w c.so (ρ.set i (p.1,q)) h' (p.1,q) o):St c FL (ρ.set i (p.1,q)) (H.set i o) {s with heap:=h',toks:=t}/\Go ρ s.heap (ρ.set i (p.1,q)) h':=by
 have hq:q=p.2\/s.heap.get? q=none:=hq'.imp id Heap.get?_none_of_le;have m:=aO hi;have il:=(bo hi).1;have O7:∀{b},b∈[p.1,p.2]->b=p.1\/b=p.2:=λhb=>(mem_cons.mp hb).imp id bg;have sub:∀b∈[p.1,p.2],b∈bV ρ:=λb hb=>(O7 hb).elim (λe=>e▸m.1) λe=>e▸m.2;have nb:NB [p.1,p.2] s.heap:=λb hb=>X.bD.nb b (sub b hb);have cs:∀(j:Nat) (a:Addr×Addr),(ρ.set i (p.1,q))[j]? =some a->(j≠i/\ρ[j]? =some a)\/(j=i/\a=(p.1,q)):=λj a e=>by
  by_cases h:i=j
  ·exact .inr ⟨h.symm,(inj (e.symm.trans (h▸getElem?_set_self il)))⟩
  ·exact .inl ⟨Ne.symm h,(getElem?_set_ne h).symm.trans e⟩
 have ad:∀b,b∈bV (ρ.set i (p.1,q))->b∈bV ρ\/b=q:=λb hb=>(gf.mp hb).elim λa z=>(getElem?_of_mem z.1).elim λj hj=>(cs j a hj).elim
  (λy=>.inl (z.2.elim (λe=>e▸(aO y.2).1) λe=>e▸(aO y.2).2)) λy=>by
   have z:=z.2;rw[y.2]at z;exact z.elim (λe:b=p.1=>.inl (e▸m.1)) .inr
 have xN:∀b,b∈bV (ρ.set i (p.1,q))->b∈bV ρ\/s.heap.get? b=none:=λb hb=>(ad b hb).elim .inl λe=>hq.imp (λh=>e.trans h▸m.2) λh=>e▸h;have oth:∀{j:Nat} {a:Addr×Addr},j≠i->ρ[j]? =some a->∀{b o},b=a.1\/b=a.2->s.heap.get? b=some o->h'.get? b=some o:=λ{j a} hj e {b o} hb eo=>have z:=X.bD.apart i j p a hi e (Ne.symm hj)
  ex _ o (λhm=>(O7 hm).elim (λe=>hb.elim (λy=>z.1 (e.symm.trans y)) λy=>z.2.1 (e.symm.trans y)) λe=>hb.elim (λy=>z.2.2.1 (e.symm.trans y)) λy=>z.2.2.2 (e.symm.trans y)) eo
 have lq:=Dn hi q;have other:∀(k:Nat) (b:Addr×Addr),k≠i->ρ[k]? =some b->p.1≠b.1/\p.1≠b.2/\q≠b.1/\q≠b.2:=λk b hk e=>
  have z:=X.bD.apart i k p b hi e (Ne.symm hk)
  hq.elim (λh=>h▸z) λh=>have n:=X.bD.zo h;have mb:=aO e;⟨z.1,z.2.1,λe'=>n (e'▸mb.1),λe'=>n (e'▸mb.2)⟩
 refine⟨⟨λb o e=>ex b o (λz=>((by injection((X.bD.fresh b (sub b z)).symm.trans e)))) (X.c6 b o e),dG ex.keep (λb hb z=>X.apart b hb (sub b z)) X.frames,λb hb z=>(xN b z).elim (X.apart b hb) λz=>(X.frames.mem hb).2.elim λob e=>((by injection(z.symm.trans e.1))),
  ⟨by simp only[length_set,length_set,X.bD.len],λj k a b ha hb hjk=>?_,λa ha=>(xN a ha).elim (X.bD.fresh a) λz=>dq X.c6 z,λa ha=>(ad a ha).elim (X.bD.rh a) λe=>by rw[e];exact hq'.elim (λh=>h▸X.bD.rh _ m.2) λh=>lt_of_lt_of_le X.size h,λj a ob ha wK=>?_⟩,X.gens,X.drawn,X.os,X.rh⟩,
  lq,xN,ex.keep.bt sub,λj a e t=>?_⟩
 ·exact(cs j a ha).elim (λx=>(cs k b hb).elim (λy=>X.bD.apart j k a b x.2 y.2 hjk) λy=>y.2▸have z:=other j a x.1 x.2;⟨z.1.symm,z.2.2.1.symm,z.2.1.symm,z.2.2.2.symm⟩)
   λx=>(cs k b hb).elim (λy=>x.2▸other k b y.1 y.2) λy=>a9 (x.1.trans y.1.symm) hjk
 ·refine(cs j a ha).elim (λx=>?_) λx=>?_
  ·rw[getElem?_set_ne (Ne.symm x.1)]at wK;exact(X.bD.mh j a ob x.2 wK).bt lq ex.keep nb (λo eo=>oth x.1 x.2 (.inl rfl) eo) λo eo=>oth x.1 x.2 (.inr rfl) eo
  ·obtain⟨rfl,rfl⟩:=x;rw[getElem?_set_self (X.bD.len▸il)]at wK;exact inj wK▸r
 ·by_cases qr:j=i
  ·subst qr;exact inj (hi.symm.trans e)▸Wq (inj (e.symm.trans hi)▸t)
  ·exact t.at λo eo=>oth qr e (.inl rfl) eo
end
theorem zd{l:List (Str×Value)}{n:Str}:l.lookup n=none↔n∉l.map (·.1):=by
 induction l with
 |nil=>exact⟨λu_=>not_mem_nil,λu_=>rfl⟩
 |cons p r ih=>
  rw[lookup_cons,map_cons];cases h:n==p.1 with
  |true=>exact⟨λe=>((by injection e)),λe=>a9 (mem_cons.mpr (.inl (beq_iff_eq.mp h))) e⟩
  |false=>exact ih.trans ⟨λe m=>(mem_cons.mp m).elim (beq_eq_false_iff_ne.mp h) e,λe m=>e (.tail _ m)⟩
theorem lu{ps:List Str}:ps.Nodup->∀(vs:List Value) (i:Nat) (p:Str),ps[i]? =some p->(ps.zip vs).lookup p=vs[i]? :=by
 induction ps with
 |nil=>exact λu_ vs i p h=>(by injection((getElem?_nil (i:=i)).symm.trans h))
 |cons q ps ih=>
  intro hn vs i p h;have z:=nodup_cons.mp hn;cases vs with
  |nil=>rfl
  |cons w vs=>
   rw[List.zip_cons_cons,lookup_cons];cases i with
   |zero=>injection h with I1;subst I1;rw[beq_self_eq_true];rfl
   |succ i=>
    rw[show(p==q)=false from beq_eq_false_iff_ne.mpr λe=>z.1 (e▸mem_of_getElem? (show ps[i]? =some p from h))];exact ih z.2 vs i p h
theorem Bt{ps:List Str}(hn:ps.Nodup)(vs:List Value)(i:Nat)(p:Str)(v:Value)(h:ps[i]? =some p)(h2:vs[i]? =some v):(ps.zip vs).lookup p=some v:=(lu hn vs i p h).trans h2
theorem Pe{f:Str->Option Value}{ps:List Str}:∀{vs:List Value},(∀(i:Nat) p,ps[i]? =some p->f p=vs[i]?)->(ps.filterMap λn=>(f n).map λv=>(n,v))=ps.zip vs:=by
 induction ps with
 |nil=>exact λu_=>rfl
 |cons p ps ih=>
  intro vs h;have h0:=h 0 p rfl;rw[filterMap_cons,h0];cases vs with
  |nil=>exact(ih λi p e=>(h (i+1) p e).trans (getElem?_nil (i:=i)).symm).trans zip_nil_right
  |cons w vs=>exact af _ (ih λi p e=>h (i+1) p e)
theorem LM{p:Str}{v:Value}{vs:List Value}:∀{ps:List Str},ps[vs.length]? =some p->ps.zip vs++ [(p,v)]=ps.zip (vs++ [v]):=by
 induction vs with
 |nil=>
  intro ps h;cases ps with
  |nil=>exact(by injection h)
  |cons q r=>injection h with I1;subst I1;rw[zip_nil_right];exact af (_:: ·) zip_nil_right.symm
 |cons w vs ih=>
  intro ps h;cases ps with
  |nil=>exact(by injection h)
  |cons q r=>exact af _ (ih h)
noncomputable def f5(slots:List (Str×Value))(p:Str×Value):List (Str×Value):=if(slots.lookup p.1).isNone then slots++ [p]else slots
theorem RX(h:s.lookup p=some w):f5 s (p,v)=s:=ag (by rw[h];exact Bool.false_ne_true)
theorem RW(h:s.lookup p=none):f5 s (p,v)=s++ [(p,v)]:=ah (by rw[h];rfl)
theorem EY{f:Str×Value->List (Str×Value)->Sem (ForInStep (List (Str×Value)))}(hf:∀p s,f p s=pure (.yield (f5 s p)))(l:List (Str×Value)):∀(s:List (Str×Value)),forIn l s f=(pure (l.foldl f5 s):Sem _):=by
 induction l with
 |nil=>exact λs=>List.forIn_nil
 |cons p l ih=>
  intro s;rw[forIn_cons,hf];exact ih _
theorem Cg{M:Model}{A:Around}{E:Value->Shared->Prop}{s:Shared}{Q:List (Str×Value)->Shared->Prop}{f:Str×Value->List (Str×Value)->Sem (ForInStep (List (Str×Value)))}(hf:∀p s,f p s=pure (.yield (f5 s p))){l s0:List (Str×Value)}(k:Q (l.foldl f5 s0) s):wpAny M A (forIn l s0 f) Q E s:=by
 rw[EY hf];exact bq k
theorem IF{ps:List Str}(hn:ps.Nodup){ds:List Value}:∀{vals:List Value} {j:Nat},j+ds.length=ps.length->j<=vals.length->((ps.drop j).zip ds).foldl f5 (ps.zip vals)=ps.zip (vals++ds.drop (vals.length-j)):=by
 induction ds with
 |nil=>exact λ{vals j} u_ u_=>by simp only[zip_nil_right,List.drop_nil,ax];rfl
 |cons v ds ih=>
  intro vals j h h2;have h':j+1+ds.length=ps.length:=(Nat.succ_add_eq_add_succ j _).trans h;have hj:j<ps.length:=h'▸le_add_right (j+1) _;have e:=getElem?_eq_getElem hj;have el:=lu hn vals j _ e;simp only[List.drop_eq_getElem_cons hj,List.zip_cons_cons,List.foldl_cons];by_cases q:j<vals.length
  ·rw[RX (el.trans (getElem?_eq_getElem q)),show vals.length-j=vals.length-(j+1)+1 from(Nat.succ_pred_eq_of_pos (Nat.sub_pos_of_lt q)).symm];exact ih h' q
  ·have z:=le_antisymm h2 (not_lt.mp q);subst z;rw[RW (el.trans (List.getElem?_eq_none (le_refl _))),LM e,sub_self];refine(ih h' (by rw[ak];exact le_refl _)).trans ?_;rw[ak,show vals.length+ [v].length-(vals.length+1)=0 from sub_self _,aq];rfl
theorem N2{ps:List Str}(hn:ps.Nodup){vals:List Value}{k:Nat}(h:k<=vals.length):(ps.take k).filter (λn=>((ps.zip vals).lookup n).isNone)= []:=
 List.filter_eq_nil_iff.mpr λq hq=>(getElem?_of_mem hq).elim λi hi=>by
  rw[getElem?_take]at hi;by_cases z:i<k
  ·rw[ah z]at hi;rw[lu hn vals i q hi,getElem?_eq_getElem (lt_of_lt_of_le z h)];exact Bool.false_ne_true
  ·rw[ag z]at hi;exact(by injection hi)
theorem Tr{P:Arguments}(h1:P.posonlyargs= [])(h3:P.kwonlyargs= [])(h4:P.vararg=none)(h5:P.kwarg=none):P=⟨[],P.args,none,[],P.kw_defaults,none,P.defaults⟩:=by
 cases P with
 |mk a b c d e f g=>simp only[show a= []from h1,show c=none from h4,show d= []from h3,show f=none from h5]
theorem vT{fd:FuncData}{ps:List Str}{vals:List Value}{r:Option (Array Value)}{s:Shared}(h1:fd.params.posonlyargs= [])(h2:fd.params.args.map (·.arg)=ps)(h3:fd.params.kwonlyargs= [])(h4:fd.params.vararg=none)(h5:fd.params.kwarg=none)(hn:ps.Nodup)
  (hd:∀(M:Model) (A:Around) (E:Value->Shared->Prop) (Q:Option (Array Value)->Shared->Prop),Q r s->wpAny M A (seqItems? fd.defaults) Q E s) (g1:vals.length<=ps.length) (g2:(r.getD #[]).toList.length<=ps.length) (g3:ps.length<=vals.length+(r.getD #[]).toList.length):
  BindsTo s fd ⟨vals,[]⟩ (ps.zip (vals++(r.getD #[]).toList.drop (vals.length+(r.getD #[]).toList.length-ps.length))):=by
 intro M A E Q hq;unfold bindArgs;subst h2;generalize Uq:(r.getD #[]).toList=ds at hq g2 g3;have c2:ds.drop (ds.length-(fd.params.args.map (·.arg)).length)=ds:=by rw[Nat.sub_eq_zero_of_le g2];rfl
 have hF:=IF hn (j:=(fd.params.args.map (·.arg)).length-ds.length) (vals:=vals) (ds:=ds) (Nat.sub_add_cancel g2) (Nat.sub_le_iff_le_add.mpr g3);rw[Nat.sub_sub_right _ g2]at hF;refine(Tr h1 h3 h4 h5)▸?_;refine bp (bq (bp (hd M A E _ (wpAny_ite_false (ai λe=>not_lt.mpr g1 (ay (bh e).1)) (wpAny_ite_false (ai λe=>?_)
  (bp (Cg (λp s=>?_) (bp (bq (wpAny_ite_false rfl (bq ?_)))))))))))
 ·rw[Uq]at e;exact Bool.false_ne_true ((af (λl:List Str=>!l.isEmpty) (N2 hn (c2.symm▸Nat.sub_le_iff_le_add.mpr g3))).symm.trans e)
 ·exact(apply_ite (λx=>(pure (ForInStep.yield x):Sem _)) _ _ _).symm
 ·rw[Uq];refine Eq.mpr (af (Q · s) ((af (List.filterMap _) (ax _)).trans (Pe λi p h=>(af (List.lookup p) ?_).trans (lu hn _ i p h)))) hq;exact(af (λd=>foldl f5 ((fd.params.args.map (·.arg)).zip vals) ((List.drop ((fd.params.args.map (·.arg)).length-d.length) (fd.params.args.map (·.arg))).zip d)) c2).trans hF
theorem YI:sizeLine=line:=rfl
structure Fm where
 aA:bO
 ns:List Str
structure c7(fm:Fm):Prop where
 kind:fm.aA.scope.kind= .function
 globals:fm.aA.globals=mainGlobals
 builtins:fm.aA.builtins=builtinsNs
 frame:∃L,fm.aA.frame=some L
 cells:∀n n' a,fm.aA.cells.lookup n=some a->fm.aA.cells.lookup n'=some a->n=n'
 nodup:fm.ns.Nodup
inductive oz(ρ:eP)(h:Heap):Option MV->Option Value->Prop
 |none {y}:oz ρ h .none y
 |some {v x}:VR ρ h v x->oz ρ h (.some v) (.some x)
theorem oz.bt(hρ:qQ ρ ρ')(k:fA S h h')(nt:NT S h){v x}(r:oz ρ h v x):oz ρ' h' v x:=by
 cases r with
 |none=>exact .none
 |some r=>exact .some (r.bt hρ k nt)
structure fE(fm:Fm)(ev:aD.Env)(ρ:eP)(h:Heap):Prop where
 ex:∃(m cm:Str->Option Value),h.Ns fm.aA.locals m/\(∀n a,fm.aA.cells.lookup n=some a->h.IsCell a (cm n))/\
  ∀(i:Nat) (x:Str),fm.ns[i]? =some x->(fm.aA.kindOf x=some .local->oz ρ h (dp ev i) (m x))/\
   (fm.aA.kindOf x=some .cell\/fm.aA.kindOf x=some .free->(∃a,fm.aA.cells.lookup x=some a)/\oz ρ h (dp ev i) (cm x))
 m5:fm.aA.locals∉bV ρ
 cells:∀n a,fm.aA.cells.lookup n=some a->a∉bV ρ/\a≠fm.aA.locals
 len:fm.ns.length<=ev.length
theorem pb{h h':Heap}{a:Addr}{v:Option Value}(x:h.IsCell a v)(k:∀o,h.get? a=some o->∃o',h'.get? a=some o'/\o'.data=o.data):h'.IsCell a v:=by
 obtain⟨o,e,d⟩:=x;obtain⟨o',e',d'⟩:=k o e;exact⟨o',e',d'.trans d⟩
theorem iC{h:Heap}{a:Addr}{m:Str->Option Value}(x:h.Ns a m){o:Obj}(e:h.get? a=some o):∀vs,o.data≠.fields vs:=by
 obtain⟨o',es,ep,e',d,_⟩:=x;rw[e]at e';injection e' with I1;subst I1
 intro vs q;rw[d]at q;injection q
theorem fE.go{fm:Fm}{ev:aD.Env}{ρ ρ1:eP}{h h1:Heap}(l:fE fm ev ρ h)(g:Go ρ h ρ1 h1)(nb:NB (bV ρ) h):fE fm ev ρ1 h1:=by
 obtain⟨m,cm,hN,hC,hv⟩:=l.ex;have old:∀b o,h.get? b=some o->b∉bV ρ->b∉bV ρ1:=λb o e hb q=>by
  rcases g.new b q with z|z
  ·exact hb z
  ·rw[z]at e;injection e
 obtain⟨oL,_,_,eL,_⟩:=id hN;refine⟨⟨m,cm,sW hN λo e=>kA g.keep l.m5 e (iC hN e),λn a e=>?_,λi x e=>?_⟩,old _ _ eL l.m5,λn a e=>?_,l.len⟩
 ·have ca:=(l.cells n a e).1;exact pb (hC n a e) λo eo=>kA g.keep ca eo (by
   obtain⟨o',e',d⟩:=hC n a e;rw[eo]at e';injection e' with I1;subst I1
   intro vs q;rw[d]at q;injection q)
 ·exact⟨λq=>((hv i x e).1 q).bt g.b8 g.keep nb.nt,λq=>⟨((hv i x e).2 q).1,((hv i x e).2 q).2.bt g.b8 g.keep nb.nt⟩⟩
 ·obtain⟨o,eo,_⟩:=hC n a e;exact⟨old _ _ eo (l.cells n a e).1,(l.cells n a e).2⟩
section
variable (c:Cx) (FL:List bO) (ρ:eP) (s:Shared)
def KQ(Q:PQ)(Q':Value->Shared->Prop):Prop:=∀v H1 ρ1 s1 x,Q v H1->St c FL ρ1 H1 s1->Go ρ s.heap ρ1 s1.heap->VR ρ1 s1.heap v x->Q' x s1
def KL(Q:List MV->MH->Prop)(Q':List Value->Shared->Prop):Prop:=∀vs H1 ρ1 s1 xs,Q vs H1->St c FL ρ1 H1 s1->Go ρ s.heap ρ1 s1.heap->cY ρ1 s1.heap vs xs->Q' xs s1
def KT(Q:Bool->MH->Prop)(Q':Bool->Shared->Prop):Prop:=∀b H1 ρ1 s1,Q b H1->St c FL ρ1 H1 s1->Go ρ s.heap ρ1 s1.heap->Q' b s1
def KE(E:PE)(E':Value->Shared->Prop):Prop:=∀e H1 ρ1 s1 p k aP x,E e H1->St c FL ρ1 H1 s1->Go ρ s.heap ρ1 s1.heap->ρ1[e]? =some p->H1[e]? =some (.aR k aP x)->E' (.ref p.1) s1
end
section
variable {c:Cx} {FL:List bO} {ρ ρ1:eP} {s s1:Shared}
theorem KQ.go{Q Q'}(k:KQ c FL ρ s Q Q')(g:Go ρ s.heap ρ1 s1.heap):KQ c FL ρ1 s1 Q Q':=λv H2 ρ2 s2 x q X g2 r=>k v H2 ρ2 s2 x q X (g.trans g2) r
theorem KT.go{Q Q'}(k:KT c FL ρ s Q Q')(g:Go ρ s.heap ρ1 s1.heap):KT c FL ρ1 s1 Q Q':=λv H2 ρ2 s2 q X g2=>k v H2 ρ2 s2 q X (g.trans g2)
theorem KE.go{E E'}(k:KE c FL ρ s E E')(g:Go ρ s.heap ρ1 s1.heap):KE c FL ρ1 s1 E E':=λe H2 ρ2 s2 p kk a x q X g2 h1 h2=>k e H2 ρ2 s2 p kk a x q X (g.trans g2) h1 h2
end
inductive Pk(ρ:eP):Option Nat->Option Value->Prop
 |none:Pk ρ .none .none
 |some {i p}:ρ[i]? =some p->Pk ρ (.some i) (.some (.ref p.1))
theorem Pk.b8{ρ ρ1 hd v}(r:Pk ρ hd v)(l:qQ ρ ρ1):Pk ρ1 hd v:=by
 cases r with
 |none=>exact .none
 |some e=>obtain⟨q,e'⟩:=l _ _ e;exact Pk.some (p:=(_,q)) e'
structure jm(A:Around)(FL:List bO)(hd:Option Nat)(ρ:eP)(n:Nat):Prop where
 frames:A.frames=some FL
 depth:A.depth+4*n+20<=900
 units:A.units+40*n+300<=9000
 handled:Pk ρ hd A.handled
theorem jm.b8{A FL hd ρ ρ1 n}(a:jm A FL hd ρ n)(l:qQ ρ ρ1):jm A FL hd ρ1 n:=⟨a.frames,a.depth,a.units,a.handled.b8 l⟩
section
variable (c:Cx) (FL:List bO) (fm:Fm) (hd:Option Nat) (n:Nat)
def aH(v:aD.Env->MH->PQ->PE->Prop)(t:Sem Value):Prop:=∀A ev ρ H s Q E Q' E',jm A FL hd ρ n->v ev H Q E->St c FL ρ H s->fE fm ev ρ s.heap->KQ c FL ρ s Q Q'->KE c FL ρ s E E'->wpAny (model c.prog c.w) A t Q' E' s
def Em(v:aD.Env->MH->(List MV->MH->Prop)->PE->Prop)(t:Sem (List Value)):Prop:=∀A ev ρ H s Q E Q' E',jm A FL hd ρ n->v ev H Q E->St c FL ρ H s->fE fm ev ρ s.heap->KL c FL ρ s Q Q'->KE c FL ρ s E E'->wpAny (model c.prog c.w) A t Q' E' s
def c9(v:aD.Env->MH->(Bool->MH->Prop)->PE->Prop)(t:Sem Bool):Prop:=∀A ev ρ H s Q E Q' E',jm A FL hd ρ n->v ev H Q E->St c FL ρ H s->fE fm ev ρ s.heap->KT c FL ρ s Q Q'->KE c FL ρ s E E'->wpAny (model c.prog c.w) A t Q' E' s
end
section
variable {c:Cx} {FL:List bO} {fm:Fm} {hd:Option Nat} {n:Nat}
theorem BZ{va vb:aD.Env->MH->PQ->PE->Prop}(ha:aH c FL fm hd n va ta)(hb:aH c FL fm hd n vb tb)
 {A ev ρ H s} {Q:MV->MV->MH->Prop} {E E'} {Q':Value->Value->Shared->Prop} (a:jm A FL hd ρ n) (h:va ev H (λx H1=>vb ev H1 (λy H2=>Q x y H2) E) E) (X:St c FL ρ H s) (l:fE fm ev ρ s.heap) (kE:KE c FL ρ s E E')
 (k:∀x y H2 ρ2 s2 x' y',Q x y H2->St c FL ρ2 H2 s2->Go ρ s.heap ρ2 s2.heap->VR ρ2 s2.heap x x'->VR ρ2 s2.heap y y'->Q' x' y' s2):
  wpAny (model c.prog c.w) A ta (λx' s1=>wpAny (model c.prog c.w) A tb (λy' s2=>Q' x' y' s2) E' s1) E' s:=by
 refine ha A ev ρ H s _ E _ E' a h X l (λx H1 ρ1 s1 x' q X1 g1 r1=>?_) kE;refine hb A ev ρ1 H1 s1 _ E _ E' (a.b8 g1.b8) q X1 (l.go g1 X.bD.nb) (λy H2 ρ2 s2 y' q2 X2 g2 r2=>?_) (kE.go g1);exact k x y H2 ρ2 s2 x' y' q2 X2 (g1.trans g2) (r1.bt g2.b8 g2.keep X1.bD.nb.nt) r2
theorem bZ{Q Q' ρ s}(k:KQ c FL ρ s Q Q')(X:St c FL ρ H s)(t:Nat)(q:Q v H)(r:VR ρ s.heap v x):Q' x {s with toks:=t}:=
 k v H ρ {s with toks:=t} x q (X.pR t) (Go.refl ρ s.heap) r
theorem Gn(hv:match v,cst with
 | .none,.none=>True
 | .bool a,.bool b=>a=b
 | .int a,.int b=>a=b
 | .str a,.str b=>b=SL a/\bI a
 |_,_=>False):aH c FL fm hd n (bF.of λu_ H Q u_=>Q v H).val (eval (.Constant cst kk pos) fm.aA):=by
 intro A ev ρ H s Q E Q' E' a h X l kQ kE;have h:Q v H:=h;cases v<;>cases cst<;>try exact hv.elim
 ·exact bq (kQ _ _ _ _ _ h X (.refl _ _) .none)
 ·subst hv;exact bq (kQ _ _ _ _ _ h X (.refl _ _) (.bool _))
 ·subst hv;exact wpAny_mkInt (bZ kQ X _ h (.int _ _))
 ·obtain⟨rfl,hl⟩:=hv;exact wpAny_mkText (bZ kQ X _ h (.str _ _ hl))
noncomputable def pg(fm:Fm)(x:Str):Bool:=fm.aA.kindOf x==some .local||fm.aA.kindOf x==some .cell||fm.aA.kindOf x==some .free
theorem sP(F:c7 fm){Q E}(l:fE fm ev ρ s.heap)(hi:fm.ns[i]? =some x)(hk:pg fm x=true)(hn:(x==("__classdict__" :Str))=false)
 (hv:dp ev i=some v) (k:∀y,VR ρ s.heap v y->Q y s):wpAny (model c.prog c.w) A (loadName fm.aA x) Q E s:=by
 obtain⟨m,cm,hN,hC,hx⟩:=l.ex;have z:=hx i x hi;unfold pg at hk;simp only[or_eq_true,beq_iff_eq]at hk;rcases hk with(q|q)|q
 ·have r:=z.1 q;replace r:=hv▸r;cases e:m x with
  |none=>replace r:=e▸r;cases r
  |some y=>replace r:=e▸r;cases r with|some r=>exact wpAny_loadName_local F.kind q hN e (k y r)
 ·obtain⟨⟨a,ea⟩,r⟩:=z.2 (.inl q);rw[hv]at r;have hc:=hC x a ea;cases e:cm x with
  |none=>replace r:=e▸r;cases r
  |some y=>simp only[e]at r hc;cases r with|some r=>exact wpAny_loadName_cell F.kind q ea hc (k y r)
 ·obtain⟨⟨a,ea⟩,r⟩:=z.2 (.inr q);replace r:=hv▸r;have hc:=hC x a ea;cases e:cm x with
  |none=>replace r:=e▸r;cases r
  |some y=>simp only[e]at r hc;cases r with|some r=>exact wpAny_loadName_free F.kind q ea hc (k y r) hn
theorem Gp(F:c7 fm)(hi:fm.ns[i]? =some x)(hk:pg fm x=true)(hn:(x==("__classdict__" :Str))=false)(Bf:(x==("__debug__" :Str))=false):
  aH c FL fm hd n (bF.of λaA H Q u_=>match dp aA i with|some v=>Q v H| .none=>False).val (eval (.Name x pos) fm.aA):=by
 intro A ev ρ H s Q E Q' E' a h X l kQ kE;cases e:dp ev i with
 |none=>simp only[bF.of,e]at h
 |some v=>
  simp only[bF.of,e]at h;exact wpAny_Name (sP F l hi hk hn e λy r=>kQ _ _ _ _ _ h X (.refl _ _) r) Bf
noncomputable def mH(fm:Fm)(x:Str):Bool:=fm.aA.kindOf x==some .globalImplicit
theorem qu(F:c7 fm)(K:cZ c){Q E}(hk:mH fm x=true)(hg:nsIn c.K mainGlobals x=some (some (.ref a)))(st:c.bQ.StaysIn s.heap)(k:Q (.ref a) s):
  wpAny (model c.prog c.w) A (loadGlobal fm.aA x) Q E s:=
 loadGlobal_global (F.globals▸K.ns.keeps st) (mg_of K.YW K.ns hg) k
theorem B5(F:c7 fm)(K:cZ c)(hk:mH fm x=true)(hg:nsIn c.K mainGlobals x=some (some (.ref a)))(Bf:(x==("__debug__" :Str))=false):
  aH c FL fm hd n (bF.of λu_ H Q u_=>Q (.dg a) H).val (eval (.Name x pos) fm.aA):=by
 intro A ev ρ H s Q E Q' E' aa h X l kQ kE;exact Name_function_global F.kind (beq_iff_eq.mp hk) (qu F K hk hg X.c6 (kQ _ _ _ _ _ h X (.refl _ _) (.dg a))) Bf
theorem w7(F:c7 fm)(K:cZ c){Q E}(hk:mH fm x=true)(hg:nsIn c.K mainGlobals x=some none)(hb:bootBuiltins x=some v)(hn:x≠"__name__")(st:c.bQ.StaysIn s.heap)
 (Bf:(x==("__debug__" :Str))=false) (k:Q v s):wpAny (model c.prog c.w) A (eval (.Name x pos) fm.aA) Q E s:=
 Name_function_global F.kind (beq_iff_eq.mp hk) (loadGlobal_builtin (F.globals▸K.ns.keeps st) (mg_none_of K.YW K.ns hg) (F.builtins▸K.nb.keeps st) ((K.builtins x hn).trans hb) k) Bf
theorem Fv{ρ H}{Q Q' E'}(X:St c FL ρ H s)(r:cY ρ s.heap vs xs)(hl:vs.length<=line)(k:KQ c FL ρ s Q Q')(q:Q (.aF vs) H):
  wpAny (model c.prog c.w) A (newTuple xs) Q' E' s:=by
 refine wpAny_newTuple ?_ (by rw[<-r.1];exact hl);obtain⟨X1,g1⟩:=X.ex (t:=s.toks) (Ex.push [] s.heap {cls:=.type "tuple",data:=.seq xs.toArray});refine k _ _ _ _ _ q X1 g1 (.aF (Heap.get?_push_size _ rfl) rfl rfl (by simp[r.1]) hl λj v x e e'=>?_);have:xs[j]? =some x:=by simpa using e'
 exact(r.2 j v x e this).bt (.refl ρ) g1.keep X.bD.nb.nt
theorem JF{ρ H}{Q Q' E'}(X:St c FL ρ H s)(r:cY ρ s.heap vs xs)(hl:vs.length<=line)(k:KQ c FL ρ s Q Q')(q:Q (.ref H.length) (H++ [.list vs])):
  wpAny (model c.prog c.w) A (newList xs) Q' E' s:=by
 refine wpAny_newList ?_ (by rw[<-r.1];exact hl);have ex:=Ex.push [] s.heap {cls:=.type "list",data:=.seq xs.toArray};have nn:s.heap.objs.size<=s.heap.objs.size:=le_refl _;obtain⟨X1,g1⟩:=X.new (p:=(s.heap.objs.size,s.heap.objs.size)) (o:=.list vs) (t:=s.toks) ex nn nn
  (.list (Heap.get?_push_size _ rfl) (by
   have:cY ρ s.heap vs xs.toArray.toList:=by simpa using r
   exact this.bt (.append ρ _) ex.keep (λu_ hb=>by simp at hb)) hl rfl)
 exact k _ _ _ _ _ q X1 g1 (VR.ref (p:=(s.heap.objs.size,s.heap.objs.size)) (by rw[<-X.bD.len];simp))
end
mutual
noncomputable def QD:MV->PyData
 | .bool b=>.bool b
 | .int i=>.int i
 | .str s=>.str (SL s)
 | .aF vs=>.tuple (mW vs)
 |_=>.none
noncomputable def mW:List MV->List PyData
 | []=>[]
 |v::r=>QD v::mW r
end
theorem oA(h:SL a=SL b):a=b:=by
 have:=af (λx:Str=>x.cps.toList) h;simpa using this
theorem Pl(a b:List Nat):(SL a==SL b)=decide (a=b):=by
 by_cases h:a=b
 ·subst h;simp
 ·rw[ai h,beq_eq_false_iff_ne];exact λe=>h (oA e)
theorem Lo(h:bI s):PyData.strOk (SL s)=true:=by
 show s.toArray.all (λc=>decide (c<0x110000))=true;rw[List.all_toArray,all_eq_true];intro c hc;exact aj (h.2 c hc)
def RC(h:Heap)(v:MV)(x:Value):Prop:=(QD v).canLay0=true/\∃as,Reads h x (QD v) as
def RCs(h:Heap)(vs:List MV)(xs:List Value):Prop:=PyData.canLayAll0 (mW vs)=true/\∃as,ReadsAll h xs (mW vs) as
theorem UG{h:Heap}{vs:List MV}:∀{xs:List Value},vs.length=xs.length->(∀(j:Nat) (v:MV) (x:Value),vs[j]? =some v->xs[j]? =some x->UE v=true->RC h v x)->mR vs=true->RCs h vs xs:=by
 induction vs with
 |nil=>intro xs l _ _;simp only[length_eq_zero_iff.mp l.symm];exact⟨rfl,_,.nil⟩
 |cons v r ih=>
  intro xs l k p;cases xs with
  |nil=>injection l
  |cons x xs=>
   have p:=bh (show(UE v&&mR r)=true from p);have a:=k 0 v x rfl rfl p.1;have b:=ih (Nat.succ.inj l) (λj v x e e'=>k (j+1) v x e e') p.2;exact a.2.elim λu_ ra=>b.2.elim λu_ rb=>⟨and_eq_true_iff.mpr ⟨a.1,b.1⟩,_,.cons ra rb⟩
theorem rc{ρ h v x}(r:VR ρ h v x):UE v=true->RC h v x:=by
 induction r with
 |none=>exact λu_=>⟨rfl,_,.none⟩
 |bool b=>exact λu_=>⟨rfl,_,.bool b⟩
 |int i t=>exact λu_=>⟨rfl,_,.int i t⟩
 |str s t ok=>exact λu_=>⟨Lo ok,_,.str _ t⟩
 |ref _=>nofun
 |dg _=>nofun
 |aF e hc hd hl hz _ ih=>
  intro p;have z:=UG (xs:=toList _) (by simp only[length_toList];exact hl) (λj v x a b=>ih j v x a (by rwa[getElem?_toList]at b)) p;exact z.2.elim λu_ q=>⟨z.1,_,.tuple e hc hd q⟩
theorem cY.UG{ρ h vs xs}(r:cY ρ h vs xs)(p:mR vs=true):RCs h vs xs:=aD.UG r.1 (λj v x a b=>rc (r.2 j v x a b)) p
theorem uL:∀v:MV,(QD v).depth=VF v:=MV.rec (motive_1:=λv=>(QD v).depth=VF v) (motive_2:=λvs=>PyData.depthAll (mW vs)=t7 vs)
 rfl (λu_=>rfl) (λu_=>rfl) (λu_=>rfl) (λu_ ih=>af (· +1) ih) (λu_=>rfl) (λu_=>rfl) rfl (λv r a b=>(af (max · _) a).trans (af (max (VF v)) b))
theorem AS(vs:List MV):PyData.depthAll (mW vs)=t7 vs:=Nat.succ.inj (uL (.aF vs))
theorem VL{f g b r}{P:List MV->Bool->Prop}(h:Zz f g b=some r)(k0:P [] false)(k:∀y q a c,f y=some a->g q=some c->P (y::q) (a&&c)):P b r:=by
 cases b with
 |nil=>exact inj h▸k0
 |cons y q=>
  have h:((f y).bind λx=>(g q).map λy=>x&&y)=some r:=h;cases e1:f y with
  |none=>rw[e1]at h;injection h
  |some a=>cases e2:g q with
   |none=>rw[e1,e2]at h;injection h
   |some c=>rw[e1,e2]at h;exact inj h▸k y q a c e1 e2
def QO(a b:MV)(r:Bool):Prop:=UE a=true/\UE b=true/\VF a<=51/\PyData.eqv (QD a) (QD b)=r
theorem Ux{α:Type}{C:Prop}[Decidable C]{a:Option α}{r:α}(h:(if C then a else .none)=some r):C/\a=some r:=by
 by_cases q:C
 ·rw[ah q]at h;exact⟨q,h⟩
 ·rw[ag q]at h;injection h
theorem CY:∀a b r,AZ a b=some r->QO a b r:=MV.rec (motive_1:=λa=>∀b r,AZ a b=some r->QO a b r) (motive_2:=λa=>∀b r,ES a b=some r->PyData.eqvAll (mW a) (mW b)=r)
 (λb r h=>Bz (P:=λb=>QO .none b r) h λh=>⟨rfl,rfl,zero_le _,inj h⟩)
 (λx b r h=>S1 (P:=λb=>QO (.bool x) b r) h λu_ h=>⟨rfl,rfl,zero_le _,inj h⟩)
 (λx b r h=>pI (P:=λb=>QO (.int x) b r) h λu_ h=>⟨rfl,rfl,zero_le _,inj h⟩)
 (λx b r h=>jD (P:=λb=>QO (.str x) b r) h λu_ h=>⟨rfl,rfl,zero_le _,(Pl _ _).trans (inj h)⟩)
 (λx ih b r h=>S3 (P:=λb=>QO (.aF x) b r) h λb h=>have z:=Ux h;⟨z.1.2.1,z.1.2.2,succ_le_succ z.1.1,ih b r z.2⟩)
 (λu_ u_ u_ h=>(by injection h)) (λu_ u_ u_ h=>(by injection h))
 (λb r h=>by cases b<;>exact inj h)
 (λx xs ih1 ih2 b r h=>VL (P:=λb r=>PyData.eqvAll (QD x::mW xs) (mW b)=r) h rfl λy q a c e1 e2=>(ih1 y a e1).2.2.2▸ih2 q c e2▸rfl)
theorem Iu{a b:List MV}{r:Bool}(h:ES a b=some r)(d:t7 a<=50)(p:mR a=true)(q:mR b=true):PyData.eqvAll (mW a) (mW b)=r:=(CY (.aF a) (.aF b) r ((ah ⟨d,p,q⟩).trans h)).2.2.2
section
variable {c:Cx} {FL:List bO} {fm:Fm} {hd:Option Nat} {n:Nat}
def UQ(h:Heap)(x' y':Value)(r:Bool):Prop:=∃da db as bs,(Reads h x' da as/\Reads h y' db bs)/\da.canLay0=true/\db.canLay0=true/\da.depth<=51/\PyData.eqv da db=r
theorem VM{ρ h x y x' y' r}(rx:VR ρ h x x')(ry:VR ρ h y y')(e:AZ x y=some r):UQ h x' y' r:=
 have z:=CY x y r e
 (rc rx z.1).2.elim λas r1=>(rc ry z.2.1).2.elim λbs r2=>⟨_,_,as,bs,⟨r1,r2⟩,(rc rx z.1).1,(rc ry z.2.1).1,uL x▸z.2.2.1,z.2.2.2⟩
theorem eqK{ρ H}{s:Shared}{x y x' y' r}(X:St c FL ρ H s)(rx:VR ρ s.heap x x')(ry:VR ρ s.heap y y')(h:jw H x y=some r):UQ s.heap x' y' r:=by
 cases x with
 |ref i=>exact BA (P:=λy=>VR ρ s.heap y y'->UQ s.heap x' y' r) h (λj h ry=>sY h λa ha h=>sY h λb hb h=>X.lv (P:=(UQ s.heap · y' r)) rx ha λu_ u_ u_ u_ e1 v1 u_ u_=>X.lv (P:=(UQ s.heap _ · r)) ry hb λu_ u_ u_ u_ e2 v2 u_ u_=>
   have z:=Ux h;have p:=v1.UG z.1.2.1;have q:=v2.UG z.1.2.2
   p.2.elim λas r1=>q.2.elim λbs r2=>⟨.list (mW a),.list (mW b),_,_,⟨.list e1 rfl rfl r1,.list e2 rfl rfl r2⟩,p.1,q.1,succ_le_succ (AS a▸z.1.1),Iu z.2 z.1.1 z.1.2.1 z.1.2.2⟩) ry
 |_=>exact VM rx ry h
theorem HZ{ρ H}{Q:Value->Shared->Prop}{E}(X:St c FL ρ H s)(rx:VR ρ s.heap x x')(ry:VR ρ s.heap y y')(hu:A.units+60<9900)
 (h:jw H x y=some r):(Q (.bool r) s->wpAny (model c.prog c.w) A (compareOp .Eq x' y') Q E s)/\(Q (.bool (!r)) s->wpAny (model c.prog c.w) A (compareOp .NotEq x' y') Q E s):=
 (eqK X rx ry h).elim λda z=>z.elim λdb z=>z.elim λas z=>z.elim λbs z=>
  have hu':A.units+min da.depth db.depth<cLine:=lt_of_le_of_lt (add_le_add_left (az (Nat.min_le_left _ _) z.2.2.2.1) _) (lt_of_le_of_lt (add_le_add_left (by decide) _) hu)
  ⟨λq=>SeqAt.compareEq_reads z.1.1 z.1.2 z.2.1 z.2.2.1 hu' (z.2.2.2.2▸q),λq=>SeqAt.compareNe_reads z.1.1 z.1.2 z.2.1 z.2.2.1 hu' (z.2.2.2.2▸q)⟩
end
theorem sR{α β:Type}{o:Option α}{f:α->β}{r:β}{P:Prop}(h:o.map f=some r)(k:∀a,o=some a->f a=r->P):P:=(map_eq_some_iff.mp h).elim λa z=>k a z.1 z.2
def GP(vs:List MV)(d:PyData)(b:Bool):Prop:=mR vs=true/\((mW vs).any λy=>PyData.eqv y d)=b
theorem Eu(s:List Nat)(vs:List MV):∀b,kc s vs=some b->GP vs (.str (SL s)) b:=by
 induction vs with
 |nil=>exact λb h=>⟨rfl,inj h⟩
 |cons v r ih=>exact λb h=>jD (P:=λv=>GP (v::r) (.str (SL s)) b) h λt h=>sR h λb' e q=>⟨(ih b' e).1,((af (or · _) (Pl t s)).trans (af (or _) (ih b' e).2)).trans q⟩
theorem Et(s:Int)(vs:List MV):∀b,Q8 s vs=some b->GP vs (.int s) b:=by
 induction vs with
 |nil=>exact λb h=>⟨rfl,inj h⟩
 |cons v r ih=>exact λb h=>pI (P:=λv=>GP (v::r) (.int s) b) h λt h=>sR h λb' e q=>⟨(ih b' e).1,(af (or (t==s)) (ih b' e).2).trans q⟩
theorem xJ(a:Str)(v:Value)(cw:List (Str×Value))(k:Str):valueAt ((a,v)::cw) k=if a=k then some v else valueAt cw k:=by
 by_cases q:a=k<;>simp[valueAt,q]
def Eh(ρ:eP)(h:Heap)(w:Option Value):Option MV->Prop
 |some v=>∃x,w=some x/\VR ρ h v x
 | .none=>w=none
theorem jM{ρ h}:∀{cw:List (Str×Value)},uy ρ h es cw->∀k:List Nat,Eh ρ h (valueAt cw (SL k)) (getD es k):=by
 induction es with
 |nil=>intro cw r k;rw[length_eq_zero_iff.mp r.1.symm];rfl
 |cons p es ih=>
  intro cw r k;cases cw with
  |nil=>exact(by injection r.1)
  |cons kv cw=>
   have z:=r.2 0 p kv rfl rfl;have i:=ih ⟨Nat.succ.inj r.1,λj e kv a b=>r.2 (j+1) e kv a b⟩ k;have e:=xJ kv.1 kv.2 cw (SL k);show Eh ρ h (valueAt ((kv.1,kv.2)::cw) (SL k)) (if p.1=k then some p.2 else getD es k);rw[e];by_cases q:p.1=k
   ·rw[ah q,ah (z.1.trans (af SL q))];exact⟨_,rfl,z.2.2⟩
   ·rw[ag q,ag λy=>q (oA (z.1.symm.trans y))];exact i
theorem Eh.isSome{ρ h w o}(g:Eh ρ h w o):w.isSome=o.isSome:=by
 cases o with
 |none=>exact af Option.isSome g
 |some v=>exact g.elim λx z=>af Option.isSome z.1
section
variable {c:Cx} {FL:List bO} {fm:Fm} {hd:Option Nat} {n:Nat}
theorem xE{ρ H}(X:St c FL ρ H s)(hb:b∈bV ρ):(b==sysModules)=false:=beq_eq_false_iff_ne.mpr λe=>a9 (e▸X.bD.rh b hb) (by decide)
def L9(c:Cx)(A:Around)(s:Shared)(x' y':Value)(r:Bool):Prop:=∀{Q E:Value->Shared->Prop},((∀t,Q (.bool r) {s with toks:=t})->wpAny (model c.prog c.w) A (compareOp .In x' y') Q E s)/\((∀t,Q (.bool (!r)) {s with toks:=t})->wpAny (model c.prog c.w) A (compareOp .NotIn x' y') Q E s)
def YV(h:Heap)(x':Value)(vs:List MV)(r:Bool):Prop:=∃d as,(Reads h x' d as/\d.canLay0=true/\d.depth=0)/\GP vs d r
theorem xY{ρ h x x' vs r}(rx:VR ρ h x x')(e:lT x vs=some r):YV h x' vs r:=by
 cases x with
 |str s=>exact(rc rx rfl).2.elim λas q=>⟨_,as,⟨q,(rc rx rfl).1,rfl⟩,Eu s vs r e⟩
 |int i=>exact(rc rx rfl).2.elim λas q=>⟨_,as,⟨q,rfl,rfl⟩,Et i vs r e⟩
 |_=>injection e
theorem Dc(hu:u+60<9900)(e:d=0):u+1+min k d<cLine:=e▸(Nat.min_zero k).symm▸lt_of_le_of_lt (add_le_add_left (by decide) u) hu
theorem W3(sy:List Nat)(cc:Nat):(!(Builtin.Str.occurrences (SL sy) (SL [cc]) 0 (SL sy).length 1).isEmpty)=sy.contains cc:=by
 simp only[StrLaws.found_one];simp
theorem H9{ρ H}(X:St c FL ρ H s)(rx:VR ρ s.heap x x')(ry:VR ρ s.heap y y')(hu:A.units+60<9900)
 (h:nO H x y=some r):L9 c A s x' y' r:=by
 cases y with
 |aF vs=>exact(xY rx h).elim λd z=>z.elim λas z=>have k:=rc ry z.2.1;k.2.elim λbs r2=>
   ⟨λq=>SeqAt.in_tuple_reads r2 z.1.1 k.1 z.1.2.1 (Dc hu z.1.2.2) (z.2.2▸q s.toks),λq=>SeqAt.notIn_tuple_reads r2 z.1.1 k.1 z.1.2.1 (Dc hu z.1.2.2) (z.2.2▸q s.toks)⟩
 |str sy=>exact jD (P:=λx=>VR ρ s.heap x x'->L9 c A s x' y' r) h (λt h=>WZ (P:=λt=>VR ρ s.heap (.str t) x'->L9 c A s x' y' r) h λcc h rx=>ry.se (P:=(L9 c A s x' · r)) λt2 u_=>rx.se (P:=(L9 c A s · _ r)) λt1 u_=>by
   injection h with I1;subst I1
   intro Q E;exact⟨λq=>P.in_str (W3 sy cc▸q s.toks),λq=>P.notIn_str (W3 sy cc▸q s.toks)⟩) rx
 |ref j=>
  refine(bind_eq_some_iff.mp h).elim λo z=>?_;obtain⟨ho,h⟩:=z;cases o with
  |list vs=>exact X.lv (P:=(L9 c A s x' · r)) ry ho λp ws m ej e1 v1 u_ u_=>(xY rx h).elim λd z=>z.elim λas z=>have k:=v1.UG z.2.1;k.2.elim λbs r2=>
    ⟨λq=>SeqAt.in_list_reads (.list e1 rfl rfl r2) z.1.1 k.1 z.1.2.1 (Dc hu z.1.2.2) (z.2.2▸q s.toks),λq=>SeqAt.notIn_list_reads (.list e1 rfl rfl r2) z.1.1 k.1 z.1.2.1 (Dc hu z.1.2.2) (z.2.2▸q s.toks)⟩
  |dict es=>exact X.dv (P:=(L9 c A s x' · r)) ry ho λp cw ej hD hk u_ u_=>jD (P:=λx=>VR ρ s.heap x x'->L9 c A s x' (.ref p.1) r) h (λk h rx=>rx.se (P:=(L9 c A s · _ r)) λt ok=>by
    have e:=(jM hk k).isSome.trans (inj h);have lo:=xE X (aO ej).1;intro Q E;exact⟨λq=>wpAny_in_of (strKind_is _ _ _ _) lo hD.dictOf.mapOf (e.symm▸q _),λq=>wpAny_notIn_of (strKind_is _ _ _ _) lo hD.dictOf.mapOf (e.symm▸q _)⟩) rx
  |_=>injection h
 |_=>injection h
end
section
variable {c:Cx} {FL:List bO} {fm:Fm} {hd:Option Nat} {n:Nat}
theorem jI{ρ h x x'}(r:VR ρ h x x'):plainIs x' .none=true/\(x'== .none)=Je x:=by
 cases r<;>exact⟨rfl,rfl⟩
theorem vY{ρ h f x y r x' y'}(rx:VR ρ h x x')(ry:VR ρ h y y')(e:oP f x y=some r){P:Value->Value->Prop}(k:∀a b t u,f a b=r->P (.int a t) (.int b u)):P x' y':=
 pI (P:=λx=>VR ρ h x x'->P x' y') e (λu_ e rx=>pI (P:=λy=>VR ρ h y y'->P x' y') e (λu_ e ry=>rx.ie (P:=(P · y')) λu_=>ry.ie λu_=>k _ _ _ _ (inj e)) ry) rx
theorem oi{ρ H}{Q:Value->Shared->Prop}{E}(X:St c FL ρ H s)(rx:VR ρ s.heap x x')(ry:VR ρ s.heap y y')(hu:A.units+60<9900)
 (h:dc op H x y=some r) (k:∀t,Q (.bool r) {s with toks:=t}):wpAny (model c.prog c.w) A (compareOp (ib op) x' y') Q E s:=by
 have k0:=k s.toks;cases op with
 |eq=>exact(HZ X rx ry hu h).1 k0
 |ne=>exact sR h λb h' e=>(HZ X rx ry hu h').2 (e▸k0)
 |lt=>exact vY rx ry h (P:=λx' y'=>wpAny _ _ (compareOp .Lt x' y') Q E s) λa b t u e=>lt_int (e.symm▸k0)
 |le=>exact vY rx ry h (P:=λx' y'=>wpAny _ _ (compareOp .LtE x' y') Q E s) λa b t u e=>P.le_int (e.symm▸k0)
 |gt=>exact vY rx ry h (P:=λx' y'=>wpAny _ _ (compareOp .Gt x' y') Q E s) λa b t u e=>P.gt_int (e.symm▸k0)
 |ge=>exact vY rx ry h (P:=λx' y'=>wpAny _ _ (compareOp .GtE x' y') Q E s) λa b t u e=>P.ge_int (e.symm▸k0)
 |ja=>exact(H9 X rx ry hu h).1 k
 |mf=>exact sR h λb h' e=>(H9 X rx ry hu h').2 (e.symm▸k)
 |is=>exact Bz (P:=λy=>VR ρ s.heap y y'->wpAny _ _ (compareOp .Is x' y') Q E s) h (λe ry=>ry.ne (P:=λy'=>wpAny _ _ (compareOp .Is x' y') Q E s) (wpAny_is_plain (jI rx).1 (((jI rx).2.trans (inj e)).symm▸k0))) ry
 |kF=>exact Bz (P:=λy=>VR ρ s.heap y y'->wpAny _ _ (compareOp .IsNot x' y') Q E s) h (λe ry=>ry.ne (P:=λy'=>wpAny _ _ (compareOp .IsNot x' y') Q E s) (wpAny_isNot_plain (jI rx).1 (((af not (jI rx).2).trans (inj e)).symm▸k0))) ry
theorem Im{vs:List MV}{ws:Array Value}(h:vs.length=ws.size):vs.isEmpty=ws.isEmpty:=by
 rw[Bool.eq_iff_iff,List.isEmpty_iff_length_eq_zero,Array.isEmpty_iff_size_eq_zero,h]
theorem IG(h:n<=line)(e:n=m):(m:Int)<2^63:=Int.lt_of_le_of_lt (ofNat_le.mpr (e▸h)) (by decide)
theorem Lx{A:Around}{ρ H}{s:Shared}{x:MV}{x':Value}{b:Bool}{Q:Bool->Shared->Prop}{E}(X:St c FL ρ H s)(rx:VR ρ s.heap x x')(h:gD H x=some b)(k:∀t,Q b {s with toks:=t}):
  wpAny (model c.prog c.w) A (truthy x') Q E s:=by
 cases x with
 |bool b=>exact rx.be (P:=λx'=>wpAny _ _ (truthy x') Q E s) (wpAny_truthy_bool (inj h▸k s.toks))
 |ref i=>exact sY h λvs hb h=>X.lv (P:=λx'=>wpAny _ _ (truthy x') Q E s) rx hb λp ws m u_ e1 v1 hz u_=>wpAny_truthy_list ⟨_,e1,rfl,m,rfl⟩ (IG hz v1.size) (((af not (Im v1.size)).symm.trans (inj h)).symm▸k _)
 |_=>injection h
end
theorem Ej(a b:List Nat):SL a++SL b=SL (a++b):=by
 show Str.mk (a.toArray++b.toArray)=_;simp
theorem cu(a:List Nat):(SL a).length=a.length:=by show a.toArray.size=_;simp
theorem bI.append(x:bI a)(y:bI b)(h:a.length+b.length<=line):bI (a++b):=
 ⟨by simpa using h,λc hc=>by rcases mem_append.mp hc with q|q;exact x.2 c q;exact y.2 c q⟩
section
variable {c:Cx} {FL:List bO} {fm:Fm} {hd:Option Nat} {n:Nat}
theorem St.lD{ρ H}{s:Shared}{vs:List MV}{ws:Array Value}(X:St c FL ρ H s)(r:cY ρ s.heap vs ws.toList)(hl:vs.length<=line){Q Q'}(k:KQ c FL ρ s Q Q')(q:Q (.ref H.length) (H++ [.list vs]))(t:Nat):
  Q' (.ref s.heap.objs.size) {s with heap:=s.heap.push {cls:=.type "list",data:=.seq ws},toks:=t}:=by
 have ex:=Ex.push [] s.heap {cls:=.type "list",data:=.seq ws};have nn:s.heap.objs.size<=s.heap.objs.size:=le_refl _;obtain⟨X1,g1⟩:=X.new (p:=(s.heap.objs.size,s.heap.objs.size)) (o:=.list vs) (t:=t) ex nn nn
  (.list (Heap.get?_push_size _ rfl) (r.bt (.append ρ _) ex.keep (λu_ hb=>by simp at hb)) hl rfl)
 exact k _ _ _ _ _ q X1 g1 (VR.ref (p:=(s.heap.objs.size,s.heap.objs.size)) (by rw[<-X.bD.len];simp))
theorem St.tD{ρ H}{s:Shared}{vs:List MV}{ws:Array Value}(X:St c FL ρ H s)(r:cY ρ s.heap vs ws.toList)(hl:vs.length<=line){Q Q'}(k:KQ c FL ρ s Q Q')(q:Q (.aF vs) H)(t:Nat):
  Q' (.ref s.heap.objs.size) {s with heap:=s.heap.push {cls:=.type "tuple",data:=.seq ws},toks:=t}:=by
 obtain⟨X1,g1⟩:=X.ex (t:=t) (Ex.push [] s.heap {cls:=.type "tuple",data:=.seq ws});refine k _ _ _ _ _ q X1 g1 (.aF (Heap.get?_push_size _ rfl) rfl rfl (by have:=r.1;simpa using this) hl λj v x e e'=>?_);exact(r.2 j v x e (by simpa using e')).bt (.refl ρ) g1.keep X.bD.nb.nt
theorem Sr(ha:a.natAbs<2^32):IntMulOk a b:=by
 refine IntMulOk.of_left ?_;unfold Builtin.Int.intBits
 first
  |(split
    ·lia
    ·rename_i h;have:a.natAbs.log2<32:=(Nat.log2_lt (by intro q;apply h;simpa using q)).mpr ha;lia)
  |(by_cases h:a.natAbs=0
    ·simp[h]
    ·have:a.natAbs.log2<32:=(Nat.log2_lt h).mpr ha;simp;lia)
theorem aaD(h0:0<b)(h1:b<2^16):Builtin.divisionGoesByPylong a b=false:=PyProof.noPylong_small (by lia)
theorem Po{ρ H}{Q Q'}{E:Value->Shared->Prop}(X:St c FL ρ H s)(oa:bI a)(ob:bI b)(h:a.length+b.length<=line/\Q (.str (a++b)) H)(k:KQ c FL ρ s Q Q'):
  wpAny (model c.prog c.w) A (binaryOp .Add (.str (SL a) t1) (.str (SL b) t2)) Q' E s/\wpAny (model c.prog c.w) A (inplaceOp .Add (.str (SL a) t1) (.str (SL b) t2)) Q' E s:=
 have z:∀t' tk,Q' (.str (SL a++SL b) t') {s with toks:=tk}:=λt' tk=>(Ej a b).symm▸bZ k X _ h.2 (.str _ _ (oa.append ob h.1));have l:(SL a).length+(SL b).length<=line:=(cu a).symm▸(cu b).symm▸h.1
 ⟨add_str z l,iadd_str z l⟩
theorem Jb{ρ h x y x' y'}{f:Int->Int->Prop}(rx:VR ρ h x x')(ry:VR ρ h y y')(e:iO x λa=>iO y λb=>f a b){P:Value->Value->Prop}(k:∀a b t u,f a b->P (.int a t) (.int b u)):P x' y':=
 xm (P:=λx=>VR ρ h x x'->P x' y') e (λu_ e rx=>xm (P:=λy=>VR ρ h y y'->P x' y') e (λu_ e ry=>rx.ie (P:=(P · y')) λu_=>ry.ie λu_=>k _ _ _ _ e) ry) rx
theorem Xw{ρ h a y x' y'}{f:List Nat->Prop}(rx:VR ρ h (.str a) x')(ry:VR ρ h y y')(e:lQ y f){P:Value->Value->Prop}(k:∀b t u,bI a->bI b->f b->P (.str (SL a) t) (.str (SL b) u)):P x' y':=
 Kl (P:=λy=>VR ρ h y y'->P x' y') e (λu_ e ry=>rx.se (P:=(P · y')) λu_ oa=>ry.se λu_ ob=>k _ _ _ oa ob e) ry
theorem Wx{ρ h a y x' y'}{f:Int->Prop}(rx:VR ρ h (.int a) x')(ry:VR ρ h y y')(e:iO y f){P:Value->Value->Prop}(k:∀b t u,f b->P (.int a t) (.int b u)):P x' y':=
 xm (P:=λy=>VR ρ h y y'->P x' y') e (λu_ e ry=>rx.ie (P:=(P · y')) λu_=>ry.ie λu_=>k _ _ _ e) ry
theorem Ld{ρ H}{Q Q'}{E:Value->Shared->Prop}(X:St c FL ρ H s)(rx:VR ρ s.heap x x')(ry:VR ρ s.heap y y')
 (h:mv op H x y Q) (k:KQ c FL ρ s Q Q'):wpAny (model c.prog c.w) A (binaryOp (jS op) x' y') Q' E s:=by
 cases op with
 |add=>
  cases x with
  |int a=>exact Wx rx ry h (P:=λx' y'=>wpAny _ _ (binaryOp .Add x' y') Q' E s) λb t u q=>P.add_int (bZ k X _ q (.int _ _))
  |str a=>exact Xw rx ry h (P:=λx' y'=>wpAny _ _ (binaryOp .Add x' y') Q' E s) λb t u oa ob q=>(Po X oa ob q k).1
  |ref i=>exact Ki (P:=λy=>VR ρ s.heap y y'->wpAny _ _ (binaryOp .Add x' y') Q' E s) h (λj h ry=>tu h λa ha h=>tu h λb hb h=>X.lv (P:=λx'=>wpAny _ _ (binaryOp .Add x' y') Q' E s) rx ha λp ws m u_ e1 v1 z1 u_=>X.lv (P:=λy'=>wpAny _ _ (binaryOp .Add _ y') Q' E s) ry hb λq ws2 m2 u_ e2 v2 z2 u_=>
    P.add_list e1 e2 (X.lD (vs:=a++b) (Array.toList_append.symm▸v1.append v2) (ak.symm▸h.1) k h.2 s.toks) (v1.size▸v2.size▸h.1)) ry
  |_=>exact h.elim
 |sub=>exact Jb rx ry h (P:=λx' y'=>wpAny _ _ (binaryOp .Sub x' y') Q' E s) λa b t u q=>P.sub_int (bZ k X _ q (.int _ _))
 |mul=>exact Jb rx ry h (P:=λx' y'=>wpAny _ _ (binaryOp .Mult x' y') Q' E s) λa b t u q=>P.mul_int (bZ k X _ q.2 (.int _ _)) (Sr q.1.1)
 |fdiv=>exact Jb rx ry h (P:=λx' y'=>wpAny _ _ (binaryOp .FloorDiv x' y') Q' E s) λa b t u q=>floordiv_int (Int.ne_of_gt q.1.1) ((Int.fdiv_eq_ediv_of_nonneg a (Int.le_of_lt q.1.1)).symm▸bZ k X _ q.2 (.int _ _)) (.inl (aaD q.1.1 q.1.2))
 |fmod=>exact Jb rx ry h (P:=λx' y'=>wpAny _ _ (binaryOp .Mod x' y') Q' E s) λa b t u q=>mod_int (Int.ne_of_gt q.1.1) ((Int.fmod_eq_emod_of_nonneg a (Int.le_of_lt q.1.1)).symm▸bZ k X _ q.2 (.int _ _))
theorem zU{A:Around}{ρ H}{s:Shared}{op:Op}{x y:MV}{x' y':Value}{Q Q'}{E:Value->Shared->Prop}(X:St c FL ρ H s)(rx:VR ρ s.heap x x')(ry:VR ρ s.heap y y')
  (h:qD op H x y Q) (k:KQ c FL ρ s Q Q'):wpAny (model c.prog c.w) A (inplaceOp (jS op) x' y') Q' E s:=by
 cases op with
 |add=>
  cases x with
  |int a=>exact Wx rx ry h (P:=λx' y'=>wpAny _ _ (inplaceOp .Add x' y') Q' E s) λb t u q=>P.iadd_int (bZ k X _ q (.int _ _))
  |str a=>exact Xw rx ry h (P:=λx' y'=>wpAny _ _ (inplaceOp .Add x' y') Q' E s) λb t u oa ob q=>(Po X oa ob q k).2
  |_=>exact h.elim
 |sub=>exact Jb rx ry h (P:=λx' y'=>wpAny _ _ (inplaceOp .Sub x' y') Q' E s) λa b t u q=>P.isub_int (bZ k X _ q (.int _ _))
 |_=>exact h.elim
def GX(d:bF)(e:Expr):Prop:=aH c FL fm hd n d.val (eval e fm.aA)/\c9 c FL fm hd n d.eM (isTrue e fm.aA (eval e fm.aA))
theorem TB{v:aD.Env->MH->PQ->PE->Prop}(h:aH c FL fm hd n v (eval e fm.aA))
 (he:isTrue e fm.aA (eval e fm.aA)=(do let v<-eval e fm.aA;standAt e.pos;holding [v] (truthy v))):GX (c:=c) (FL:=FL) (fm:=fm) (hd:=hd) (n:=n) (.of v) e:=by
 refine⟨h,λA ev ρ H s Q E Q' E' a hh X l kT kE=>?_⟩;refine isTrue_plain (h A ev ρ H s _ E _ E' a hh X l (λx H1 ρ1 s1 x' q X1 g1 r1=>?_) kE) he;cases e:gD H1 x with
 |none=>rw[e]at q;exact q.elim
 |some b=>rw[e]at q;exact Lx X1 r1 e λt=>kT b H1 ρ1 {s1 with toks:=t} q (X1.pR t) g1
end
section
variable {c:Cx} {FL:List bO} {fm:Fm} {hd:Option Nat} {n:Nat}
theorem jm.u{A FL hd ρ n}(a:jm A FL hd ρ n):A.units+60<9900:=by have:=a.units;lia
theorem OU{va vb:aD.Env->MH->PQ->PE->Prop}(ha:aH c FL fm hd n va (eval l fm.aA))(hb:aH c FL fm hd n vb (eval r fm.aA))(hm:behindInMarks (ib op) r=false):
  GX (c:=c) (FL:=FL) (fm:=fm) (hd:=hd) (n:=n) (.eB λaA H Q E=>va aA H (λx H1=>vb aA H1 (λy H2=>match dc op H2 x y with|some r=>Q r H2| .none=>False) E) E) (.Compare l [ib op] [r] pos):=by
 constructor
 ·intro A ev ρ H s Q E Q' E' a h X lo kQ kE;refine wpAny_Compare1 (BZ ha hb a h X lo kE (Q':=λx' y' s2=>wpAny (model c.prog c.w) A (compareOp (ib op) x' y') Q' E' s2) λx y H2 ρ2 s2 x' y' q X2 g2 rx ry=>?_) hm
  try dsimp only at q
  cases e:dc op H2 x y with
  |none=>rw[e]at q;exact q.elim
  |some b=>rw[e]at q;exact oi X2 rx ry a.u e λt=>(kQ.go g2) _ _ _ _ _ q (X2.pR t) (.refl _ _) (.bool b)
 ·intro A ev ρ H s Q E Q' E' a h X lo kQ kE;refine wpAny_isTrue_Compare1 (BZ ha hb a h X lo kE (Q':=λx' y' s2=>wpAny (model c.prog c.w) A (compareOp (ib op) x' y') (λc' s₃=>wpAny (model c.prog c.w) A (truthy c') Q' E' s₃) E' s2) λx y H2 ρ2 s2 x' y' q X2 g2 rx ry=>?_) hm
  try dsimp only at q
  cases e:dc op H2 x y with
  |none=>rw[e]at q;exact q.elim
  |some b=>rw[e]at q;exact oi X2 rx ry a.u e λt=>wpAny_truthy_bool (kQ _ _ _ _ q (X2.pR t) g2)
theorem Lf{va vb vc:aD.Env->MH->PQ->PE->Prop}(ha:aH c FL fm hd n va (eval l fm.aA))(hb:aH c FL fm hd n vb (eval r fm.aA))(hc:aH c FL fm hd n vc (eval r2 fm.aA))
 (hm:lastMarks [ib J9,ib Ka] [r,r2]=false):
  GX (c:=c) (FL:=FL) (fm:=fm) (hd:=hd) (n:=n) (.eB λaA H Q E=>va aA H (λx H1=>vb aA H1 (λy H2=>match dc J9 H2 x y with
   |some r=>if r=true then vc aA H2 (λz H3=>match dc Ka H3 y z with|some r=>Q r H3| .none=>False) E else Q false H2
   | .none=>False) E) E) (.Compare l [ib J9,ib Ka] [r,r2] pos):=by
 have key:∀{A ev ρ H} {s:Shared} {Q:Bool->MH->Prop} {E E'} {Q' R:Value->Shared->Prop},jm A FL hd ρ n->va ev H (λx H1=>vb ev H1 (λy H2=>match dc J9 H2 x y with
   |some r=>if r=true then vc ev H2 (λz H3=>match dc Ka H3 y z with|some r=>Q r H3| .none=>False) E else Q false H2
   | .none=>False) E) E->St c FL ρ H s->fE fm ev ρ s.heap->KE c FL ρ s E E'->(∀b H1 ρ1 s1,Q b H1->St c FL ρ1 H1 s1->Go ρ s.heap ρ1 s1.heap->Q' (.bool b) s1)->(∀H1 ρ1 s1,Q false H1->St c FL ρ1 H1 s1->Go ρ s.heap ρ1 s1.heap->R (.bool false) s1)->
   wpAny (model c.prog c.w) A (eval l fm.aA) (λx' s1=>wpAny (model c.prog c.w) A (eval r fm.aA) (λy' s2=>wpAny (model c.prog c.w) A (compareOp (ib J9) x' y') (λc' s3=>wpAny (model c.prog c.w) A (truthy c') (λt s4=>
    if t then wpAny (model c.prog c.w) A (eval r2 fm.aA) (λz' s5=>wpAny (model c.prog c.w) A (compareOp (ib Ka) y' z') Q' E' s5) E' s4 else R c' s4) E' s3) E' s2) E' s1) E' s:=by
  intro A ev ρ H s Q E E' Q' R a h X lo kE kQ kR;refine(BZ ha hb a h X lo kE (Q':=λx' y' s2=>wpAny (model c.prog c.w) A (compareOp (ib J9) x' y') (λc' s3=>wpAny (model c.prog c.w) A (truthy c') (λt s4=>
    if t then wpAny (model c.prog c.w) A (eval r2 fm.aA) (λz' s5=>wpAny (model c.prog c.w) A (compareOp (ib Ka) y' z') Q' E' s5) E' s4 else R c' s4) E' s3) E' s2) λx y H2 ρ2 s2 x' y' q X2 g2 rx ry=>?_)
  try dsimp only at q
  cases e:dc J9 H2 x y with
  |none=>rw[e]at q;exact q.elim
  |some b=>
   rw[e]at q;refine oi X2 rx ry a.u e λt=>wpAny_truthy_bool ?_;cases b with
   |false=>
    dsimp only[false_eq_true,if_false]at q⊢;exact kR _ _ _ q (X2.pR t) g2
   |true=>
    dsimp only[if_true]at q⊢;have g2':Go ρ s.heap ρ2 ({s2 with toks:=t}:Shared).heap:=g2;refine hc A ev ρ2 H2 {s2 with toks:=t} _ E _ E' (a.b8 g2.b8) q (X2.pR t) (lo.go g2 X.bD.nb) (λz H3 ρ3 s3 z' q3 X3 g3 rz=>?_) (kE.go g2');cases e2:dc Ka H3 y z with
    |none=>rw[e2]at q3;exact q3.elim
    |some b2=>
     rw[e2]at q3;exact oi X3 (ry.bt g3.b8 g3.keep X2.bD.nb.nt) rz a.u e2 λt=>kQ _ _ _ _ q3 (X3.pR t) (g2'.trans g3)
 constructor
 ·intro A ev ρ H s Q E Q' E' a h X lo kQ kE;refine Compare_chain ?_ hm;refine wpAny_mono (key (Q':=Q') (R:=Q') a h X lo kE (λb H1 ρ1 s1 q X1 g1=>kQ _ _ _ _ _ q X1 g1 (.bool b)) λH1 ρ1 s1 q X1 g1=>kQ _ _ _ _ _ q X1 g1 (.bool false)) (λx' s1 h1=>?_) λu_ u_ e=>e;refine chain_link (wpAny_mono h1 (λy' s2 h2=>wpAny_mono h2 (λc' s3 h3=>wpAny_mono h3 (λt s4 h4=>?_) λu_ u_ e=>e) λu_ u_ e=>e) λu_ u_ e=>e);cases t with
  |false=>exact h4
  |true=>exact chain_last h4
 ·intro A ev ρ H s Q E Q' E' a h X lo kQ kE;refine isTrue_chain ?_ hm;refine wpAny_mono (key (Q':=λv s1=>wpAny (model c.prog c.w) A (truthy v) Q' E' s1) (R:=λu_ s1=>Q' false s1) a h X lo kE (λb H1 ρ1 s1 q X1 g1=>wpAny_truthy_bool (kQ _ _ _ _ q X1 g1)) λH1 ρ1 s1 q X1 g1=>kQ _ _ _ _ q X1 g1) (λx' s1 h1=>?_) λu_ u_ e=>e;refine test_link (wpAny_mono h1 (λy' s2 h2=>wpAny_mono h2 (λc' s3 h3=>wpAny_mono h3 (λt s4 h4=>?_) λu_ u_ e=>e) λu_ u_ e=>e) λu_ u_ e=>e);cases t with
  |false=>exact h4
  |true=>exact test_last h4
theorem OY{d:bF}{e:Expr}{pos:Pos}(h:c9 c FL fm hd n d.eM (isTrue e fm.aA (eval e fm.aA))):
  c9 c FL fm hd n (λaA H Q E=>d.eM aA H (λb H1=>Q (!b) H1) E) (isTrue (.UnaryOp .Not e pos) fm.aA (eval (.UnaryOp .Not e pos) fm.aA)):=by
 intro A ev ρ H s Q E Q' E' a hh X lo kQ kE;exact isTrue_not (h A ev ρ H s _ E _ E' a hh X lo (λb H1 ρ1 s1 q X1 g1=>kQ _ _ _ _ q X1 g1) kE)
theorem OX{v:aD.Env->MH->PQ->PE->Prop}(h:aH c FL fm hd n v (eval e fm.aA)):
  aH c FL fm hd n (λaA H Q E=>v aA H (λx H1=>match x with| .int i=>Q (.int (-i)) H1|_=>False) E) (eval (.UnaryOp .USub e pos) fm.aA):=by
 intro A ev ρ H s Q E Q' E' a hh X lo kQ kE;refine UnaryOp_ (h A ev ρ H s _ E _ E' a hh X lo (λx H1 ρ1 s1 x' q X1 g1 r1=>?_) kE);cases x with
 |int i=>cases r1;exact P.neg_int (bZ (kQ.go g1) X1 _ q (.int _ _))
 |_=>exact q.elim
theorem OT{va vb:aD.Env->MH->PQ->PE->Prop}(ha:aH c FL fm hd n va (eval l fm.aA))(hb:aH c FL fm hd n vb (eval r fm.aA)):
  aH c FL fm hd n (λaA H Q E=>va aA H (λx H1=>vb aA H1 (λy H2=>mv op H2 x y Q) E) E) (eval (.BinOp l (jS op) r pos) fm.aA):=by
 intro A ev ρ H s Q E Q' E' a h X lo kQ kE;exact wpAny_BinOp (BZ ha hb a h X lo kE (Q':=λx' y' s2=>wpAny (model c.prog c.w) A (binaryOp (jS op) x' y') Q' E' s2) λx y H2 ρ2 s2 x' y' q X2 g2 rx ry=>Ld X2 rx ry q (kQ.go g2))
theorem OW{t:bF}{va vb:aD.Env->MH->PQ->PE->Prop}{et ea eb:Expr}{pos:Pos}(ht:c9 c FL fm hd n t.eM (isTrue et fm.aA (eval et fm.aA)))(ha:aH c FL fm hd n va (eval ea fm.aA))(hb:aH c FL fm hd n vb (eval eb fm.aA)):
  aH c FL fm hd n (λaA H Q E=>t.eM aA H (λc H1=>if c=true then va aA H1 Q E else vb aA H1 Q E) E) (eval (.IfExp et ea eb pos) fm.aA):=by
 intro A ev ρ H s Q E Q' E' a hh X lo kQ kE;refine IfExp_ (ht A ev ρ H s _ E _ E' a hh X lo (λb H1 ρ1 s1 q X1 g1=>?_) kE);cases b with
 |false=>exact hb A ev ρ1 H1 s1 Q E Q' E' (a.b8 g1.b8) q X1 (lo.go g1 X.bD.nb) (kQ.go g1) (kE.go g1)
 |true=>exact ha A ev ρ1 H1 s1 Q E Q' E' (a.b8 g1.b8) q X1 (lo.go g1 X.bD.nb) (kQ.go g1) (kE.go g1)
theorem zT:c9 c FL fm hd n (λu_ H Q u_=>Q true H) (isTrue (.BoolOp .And [] pos) fm.aA whole):=λA ev ρ H s Q E Q' E' a hh X lo kQ kE=>isTrue_and_nil (kQ _ _ _ _ hh X (.refl _ _))
theorem B6:c9 c FL fm hd n (λu_ H Q u_=>Q false H) (isTrue (.BoolOp .Or [] pos) fm.aA whole):=λA ev ρ H s Q E Q' E' a hh X lo kQ kE=>isTrue_or_nil (kQ _ _ _ _ hh X (.refl _ _))
theorem xC{d:bF}{r:aD.Env->MH->(Bool->MH->Prop)->PE->Prop}{e:Expr}{es:List Expr}{pos:Pos}{whole:Sem Value}(h:c9 c FL fm hd n d.eM (isTrue e fm.aA (eval e fm.aA)))
  (hr:c9 c FL fm hd n r (isTrue (.BoolOp .And es pos) fm.aA whole)):
  c9 c FL fm hd n (λaA H Q E=>d.eM aA H (λb H1=>if b=true then r aA H1 Q E else Q false H1) E) (isTrue (.BoolOp .And (e::es) pos) fm.aA whole):=by
 intro A ev ρ H s Q E Q' E' a hh X lo kQ kE;refine isTrue_and (h A ev ρ H s _ E _ E' a hh X lo (λb H1 ρ1 s1 q X1 g1=>?_) kE);cases b with
 |false=>exact kQ _ _ _ _ q X1 g1
 |true=>exact hr A ev ρ1 H1 s1 Q E Q' E' (a.b8 g1.b8) q X1 (lo.go g1 X.bD.nb) (kQ.go g1) (kE.go g1)
theorem zX{d:bF}{r:aD.Env->MH->(Bool->MH->Prop)->PE->Prop}{e:Expr}{es:List Expr}{pos:Pos}{whole:Sem Value}(h:c9 c FL fm hd n d.eM (isTrue e fm.aA (eval e fm.aA)))
  (hr:c9 c FL fm hd n r (isTrue (.BoolOp .Or es pos) fm.aA whole)):
  c9 c FL fm hd n (λaA H Q E=>d.eM aA H (λb H1=>if b=true then Q true H1 else r aA H1 Q E) E) (isTrue (.BoolOp .Or (e::es) pos) fm.aA whole):=by
 intro A ev ρ H s Q E Q' E' a hh X lo kQ kE;refine isTrue_or (h A ev ρ H s _ E _ E' a hh X lo (λb H1 ρ1 s1 q X1 g1=>?_) kE);cases b with
 |true=>exact kQ _ _ _ _ q X1 g1
 |false=>exact hr A ev ρ1 H1 s1 Q E Q' E' (a.b8 g1.b8) q X1 (lo.go g1 X.bD.nb) (kQ.go g1) (kE.go g1)
end
theorem kl{α β:Type}{o:Option α}{f:α->Option β}{r:β}{P:Prop}(h:o.bind f=some r)(k:∀a,o=some a->f a=some r->P):P:=(bind_eq_some_iff.mp h).elim λa z=>k a z.1 z.2
theorem vD(a b:Nat):sliceRange (a:Int) (b:Int) 1=(List.range (b-a)).map (a+ ·):=by
 unfold sliceRange;dsimp only;have e:(if(1:Int)>0 then(if(a:Int)<b then((b:Int)-a+1-1)/1 else 0)else(if(a:Int)>b then((a:Int)-b-1-1)/(-1)else 0)).toNat=b-a:=by
  rw[ah (by decide),Int.ediv_one,Int.add_sub_cancel];by_cases q:(a:Int)<b
  ·rw[ah q];exact Int.toNat_sub b a
  ·rw[ag q];exact(Nat.sub_eq_zero_of_le (ofNat_le.mp (Int.not_lt.mp q))).symm
 rw[e];exact af (List.map · _) (funext λk=>by rw[Int.one_mul];rfl)
theorem uG(lo hi:Option Int)(n:Nat):sliceBounds lo hi none n=((Uz n lo:Int),(Us n hi:Int),1):=by
 have e:∀i:Int,max 0 (min (if i<0 then i+n else i) (n:Int))=(Cu n i:Int):=λi=>(Int.toNat_of_nonneg (Int.le_max_left _ _)).symm;cases lo with
 |none=>cases hi with
  |none=>rfl
  |some i=>exact af (λx=>((0:Int),x,(1:Int))) (e i)
 |some j=>cases hi with
  |none=>exact af (λx=>(x,(n:Int),(1:Int))) (e j)
  |some i=>exact(af (λx=>(x,_,(1:Int))) (e j)).trans (af (λx=>((Cu n j:Int),x,(1:Int))) (e i))
theorem zJ(items:Array α)(lo hi:Option Int):(sliceRange (sliceBounds lo hi none items.size).1 (sliceBounds lo hi none items.size).2.1 1).filterMap (items[·]?)=cG items.toList lo hi:=by
 rw[uG];exact(af (List.filterMap _) (vD _ _)).trans (pick_run items _ _)
theorem xA(items:Array Value)(lo hi:Option Int):(slicePick items lo hi none).toList=cG items.toList lo hi:=zJ items lo hi
theorem mU{α:Type}(l:List α)(lo hi:Option Int):(cG l lo hi).Sublist l:=(take_sublist _ _).trans (List.drop_sublist _ _)
theorem mi{α:Type}(l:List α)(lo hi:Option Int):(cG l lo hi).length<=l.length:=(mU l lo hi).length_le
theorem bI.slice(x:bI a)(lo hi:Option Int):bI (cG a lo hi):=⟨az (mi _ _ _) x.1,λc hc=>x.2 c ((mU _ _ _).subset hc)⟩
theorem R5(n:Nat)(hi:Option Int):Us n hi<=n:=by
 cases hi with
 |none=>exact le_refl _
 |some i=>exact Q3 n i
theorem KZ(x:List Nat)(lo hi:Option Int):Txt.slice (SL x) lo hi=SL (cG x lo hi):=by
 have z:Builtin.Str.strSliceIndices lo hi 1 (SL x).length=sliceRange (sliceBounds lo hi none x.length).1 (sliceBounds lo hi none x.length).2.1 1:=by
  rw[<-cu];rfl
 unfold Txt.slice;refine z▸?_;by_cases h:((1:Int)==1&&(sliceRange (sliceBounds lo hi none x.length).1 (sliceBounds lo hi none x.length).2.1 1).length==(SL x).length)=true
 ·refine(ah h).trans (af SL ((mU x lo hi).eq_of_length ?_).symm);have h:=beq_iff_eq.mp (bh h).2;rw[uG,vD,ar,length_range,cu]at h;unfold cG;rw[length_take,length_drop,min_eq_left (Nat.sub_le_sub_right (R5 _ _) _)];exact h
 ·exact(ag h).trans (af SL (zJ x.toArray lo hi))
section
variable {c:Cx} {FL:List bO} {fm:Fm} {hd:Option Nat} {n:Nat}
theorem D0(l:n<=line)(h:dZ n k=some j): -(2^63)<=k/\k<2^63:=by
 have z:=vB h;unfold line at l;lia
theorem jZ(h:jf sl=true)(o i:Value):subscripted sl false o i=operate [o,i] (getItem o i):=by
 cases sl with
 |Slice=>injection h
 |_=>rfl
theorem Fn{Q:Value->Shared->Prop}{E}(hl:s.heap.IsList l items)(hz:items.size<=line)(hj:dZ items.size k=some j)(hx:items[j]? =some x)(h:Q x s):
  wpAny (model c.prog c.w) A (getItem (.ref l) (.int k t)) Q E s:=
 have r:=D0 hz hj
 (vB hj).2.elim (λe=>wpAny_getItem_list hl (e▸natCast_nonneg j) r.2 (e▸hx) h)
  λe=>wpAny_getItem_list_neg hl e.1 (Int.neg_le_of_neg_le (by have:=e.2;lia)) r.1 (e.2▸hx) h
theorem cY.at{ρ h vs xs}(r:cY ρ h vs xs){j:Nat}{v:MV}(e:vs[j]? =some v):∃x,xs[j]? =some x/\VR ρ h v x:=
 have hj:j<xs.length:=r.1▸(bo e).1
 ⟨xs[j],getElem?_eq_getElem hj,r.2 j v _ e (getElem?_eq_getElem hj)⟩
theorem u5{A:Around}{s:Shared}{ρ:eP}{ev sl:Expr}{a:Addr}{i:Int}{u:Tok}{vs:List MV}{ws:Array Value}{v:MV}{Q':Value->Shared->Prop}{E}(Wm:jf sl=true)(il:s.heap.IsList a ws)(vr:cY ρ s.heap vs ws.toList)(hz:vs.length<=line)
  (h:((dZ vs.length i).bind λj=>vs[j]?)=some v) (k:∀v' t,VR ρ s.heap v v'->Q' v' {s with toks:=t}):wpAny (model c.prog c.w) A (subscriptTail ev sl (.ref a) (.int i u)) Q' E s:=
 kl h λj hj h2=>(vr.at h2).elim λx z=>tail_any il.typeIs slot_list_getitem.lookup (Fn il (vr.size▸hz) (vr.size▸hj) (getElem?_toList.symm.trans z.1) (k x s.toks z.2)) (jZ Wm _ _)
theorem Lp(hz:s.length<=line)(hj:dZ s.length i=some j)(hc:s[j]? =some ch):(decide (i< -(2^63:Int))||decide (i>=2^63))=false/\(seqIndex? i (SL s).length).bind ((SL s).cps[·]?)=some ch:=by
 have r:=D0 hz hj;refine⟨?_,?_⟩
 ·simp only[ai (Int.not_lt.mpr r.1),ai (not_le.mpr r.2)];rfl
 ·rw[cu];exact(af (Option.bind · _) hj).trans (List.getElem?_toArray.trans hc)
theorem Li{A:Around}{ρ H}{s:Shared}{ev:Expr}{sl:Expr}{x y v:MV}{x' y':Value}{Q':Value->Shared->Prop}{E}(X:St c FL ρ H s)(rx:VR ρ s.heap x x')(ry:VR ρ s.heap y y')(Wm:jf sl=true)
  (h:cL H x y=some v) (k:∀v' t,VR ρ s.heap v v'->Q' v' {s with toks:=t}):wpAny (model c.prog c.w) A (subscriptTail ev sl x' y') Q' E s:=by
 have hs:=jZ Wm;have int:∀{f:Int->Option MV},lO y f=some v->(∀i u,f i=some v->wpAny (model c.prog c.w) A (subscriptTail ev sl x' (.int i u)) Q' E s)->wpAny (model c.prog c.w) A (subscriptTail ev sl x' y') Q' E s:=λh g=>
  pI (P:=λy=>VR ρ s.heap y y'->wpAny (model c.prog c.w) A (subscriptTail ev sl x' y') Q' E s) h (λi h ry=>ry.ie (P:=λy'=>wpAny _ _ (subscriptTail ev sl x' y') Q' E s) λu=>g i u h) ry
 cases x with
 |str str=>
  exact int h λi u h=>kl h λj hj h=>sR h λch hc e=>rx.se (P:=λx'=>wpAny _ _ (subscriptTail ev sl x' _) Q' E s) λt ok=>
   have z:=Lp ok.1 hj hc;
   tail_any (typeIs_str _ _ _) F.slot_str_getitem.lookup (getItem_str (c:=ch) z.1 z.2 (k _ _ (e▸.str [ch] _ ⟨(by decide:1<=line),λd hd=>bg hd▸ok.2 ch (mem_of_getElem? hc)⟩))) (hs _ _)
 |aF vs=>
  exact int h λi u h=>kl h λj hj h=>rx.te (P:=λx'=>wpAny _ _ (subscriptTail ev sl x' _) Q' E s) λa o ws m eo hc iA vr hz=>(vr.at h).elim λx z=>
   item_tupleT (l:=ws.toList) ⟨o,eo,hc,m,iA⟩ (D0 hz hj).1 (D0 hz hj).2 (vr.1▸hj) z.1 (k x s.toks z.2) (hs _ _)
 |ref r=>
  exact kl h λo ho h=>by
   cases o with
   |list vs=>exact int h λi u h=>X.lv (P:=λx'=>wpAny _ _ (subscriptTail ev sl x' _) Q' E s) rx ho λp ws m u_ e1 v1 hz u_=>u5 Wm ⟨_,e1,rfl,m,rfl⟩ v1 hz h k
   |jy vs=>exact int h λi u h=>X.fv (P:=λx'=>wpAny _ _ (subscriptTail ev sl x' _) Q' E s) rx ho λp ws m u_ e1 e2 e3 v1 hz u_=>u5 Wm ⟨_,e1,e2,m,e3⟩ v1 hz h k
   |dict es=>exact jD (P:=λy=>VR ρ s.heap y y'->wpAny (model c.prog c.w) A (subscriptTail ev sl x' y') Q' E s) h (λkk h ry=>ry.se (P:=λy'=>wpAny _ _ (subscriptTail ev sl _ y') Q' E s) λt ok=>X.dv (P:=λx'=>wpAny _ _ (subscriptTail ev sl x' _) Q' E s) rx ho λp cw u_ hD hk u_ u_=>by
     have hv:Eh ρ s.heap (valueAt cw (SL kk)) (some v):=h▸jM hk kk;exact hv.elim λx z=>tail_any (T:="dict") hD.dictOf.mapOf.typeIs slot_dict_getitem.lookup (wpAny_getItem_of (strKind_is _ _ _ _) hD.dictOf.mapOf z.1 (k x _ z.2)) (hs _ _)) ry
   |_=>injection h
 |_=>injection h
theorem D4{va vb:aD.Env->MH->PQ->PE->Prop}(ha:aH c FL fm hd n va (eval l fm.aA))(hb:aH c FL fm hd n vb (eval r fm.aA))(hs:jf r=true):
  aH c FL fm hd n (λaA H Q E=>va aA H (λx H1=>vb aA H1 (λy H2=>match cL H2 x y with|some v=>Q v H2| .none=>False) E) E) (eval (.Subscript l r pos) fm.aA):=by
 intro A ev ρ H s Q E Q' E' a h X lo kQ kE;refine Subscript_ (BZ ha hb a h X lo kE (Q':=λx' y' s2=>wpAny (model c.prog c.w) A (subscriptTail l r x' y') Q' E' s2) λx y H2 ρ2 s2 x' y' q X2 g2 rx ry=>?_)
 try dsimp only at q
 cases e:cL H2 x y with
 |none=>rw[e]at q;exact q.elim
 |some v=>rw[e]at q;exact Li X2 rx ry hs e λv' t rr=>bZ (kQ.go g2) X2 t q rr
theorem G9(h:1<=n):Builtin.Slice.sliceAdjust none (some (-1)) 1 (n:Int)=((0:Int),((n-1:Nat):Int)):=by
 unfold Builtin.Slice.sliceAdjust;dsimp only[show¬((1:Int)<0) by decide,show((-1:Int)<0) by decide,if_false,if_true];exact af (Prod.mk (0:Int)) (by lia)
theorem Ku(n:Nat):Builtin.Slice.slicePlaces (0:Int) (n:Int) 1=n:=by
 unfold Builtin.Slice.slicePlaces;rw[ah (by decide),Int.ediv_one,Int.sub_add_cancel,Int.sub_zero];by_cases q:(0:Int)<n
 ·rw[ah q];rfl
 ·rw[ag q];lia
theorem Mr{E:Value->Shared->Prop}{Q:Int×Int×Nat->Shared->Prop}(hs:s.heap.IsSliceOf sl .none (.int (-1) u) .none)(h1:1<=n)(h:Q ((0:Int),1,n-1) s):wpAny (model c.prog c.w) A (Builtin.Slice.sliceApplied (.ref sl) (pure (n:Int))) Q E s:=by
 refine hs.elim λos z=>?_;delta Builtin.Slice.sliceApplied Builtin.Slice.sliceFields;refine bp (bp (wpAny_field z.1 z.2.2 (x:=.none) rfl (bp (wpAny_field z.1 z.2.2 (x:=.int (-1) u) rfl (bp (wpAny_field z.1 z.2.2 (x:=.none) rfl (bq ?_)))))));refine bp (slicePart_none ?_);show wpAny _ _ (if((1:Int)==0)=true then _ else _) _ _ s;rw[ag (by decide)];refine bp (slicePart_none (bp (slicePart_int (bp (bq ?_)))));show wpAny _ _ (match Builtin.Slice.sliceAdjust none (some (-1)) 1 (n:Int)with|(lo,hi)=>pure (lo,(1:Int),Builtin.Slice.slicePlaces lo hi 1)) _ _ s;refine(G9 h1)▸?_;exact bq ((Ku (n-1)).symm▸h)
theorem FK(xs:Array Value):((List.range (xs.size-1)).filterMap λ(k:Nat)=>xs[((0:Int)+(k:Int)*1).toNat]?)=xs.toList.dropLast:=by
 have z:=pick_run xs 0 (xs.size-1);rw[List.filterMap_map]at z;have e:(λ(k:Nat)=>xs[((0:Int)+(k:Int)*1).toNat]?)=((λx=>xs[x]?)∘λx=>0+x):=funext λk=>by rw[Int.mul_one];rfl
 simp only[e,z,List.dropLast_eq_take];rfl
theorem Ag{A:Around}{s:Shared}{E:Value->Shared->Prop}{t sl:Addr}{items:Array Value}{u:Tok}{Q:Value->Shared->Prop}(ht:IsTup s.heap t items)(hs:s.heap.IsSliceOf sl .none (.int (-1) u) .none)(h1:1<=items.size)(hz:items.size<=line)
  (h:Q (.ref s.heap.objs.size) {s with heap:=s.heap.push {cls:=.type "tuple",data:=.seq items.toList.dropLast.toArray}}):wpAny (model c.prog c.w) A (getItem (.ref t) (.ref sl)) Q E s:=by
 have C9:sizeOk (.seq items.toList.dropLast.toArray):=by
  show items.toList.dropLast.toArray.size<=sizeLine;simp only[List.size_toArray,List.length_dropLast,length_toList];exact az (Nat.sub_le _ _) hz
 have hTs:s.TypeIs (.ref sl) "slice" :=hs.elim λos z=>⟨os,z.1,z.2.1⟩
 dsimp only[getItem]
 try with_reducible refine wpAny_holding ?_
 first|refine bp (bq ?_)|skip
 refine bp (wpAny_sequenceKey ht.typeIs (by decide) ?_);refine bp (wpAny_callSpecial?_slot (name:=Str.ofString "__getitem__") ht.typeIs slot_tuple_getitem
  (wpAny_call_entry slot_tuple_getitem ht.typeIs entry_tuple_getitem ?_ (args_tuple_getitem _ _)))
 show wpAny _ _ (Builtin.Tuple.tupleItemsOf (.ref t)>>=_) _ _ s;refine bp (tupleItemsOf_ ht ?_);refine bp (wpAny_typeOf hTs ?_);rw[ah (by decide)];refine bp (Mr hs h1 ?_);have hno:¬(((0:Int)==0&&(1:Int)==1&&(items.size-1)==items.size)=true):=λz=>ne_of_lt (Nat.sub_lt h1 Nat.one_pos) (beq_iff_eq.mp (bh z).2);show wpAny _ _ (if((0:Int)==0&&(1:Int)==1&&(items.size-1)==items.size)=true then _ else _) _ _ s;rw[ag hno,FK]
 first
  |exact bp (m:=Builtin.Tuple.tupleExact _) (wpAny_newObj_type (bq ⟨_,rfl,bq h⟩) C9)
  |exact bp (m:=Builtin.Tuple.tupleExact _) (wpAny_newObj_type (bp (bq (bq ⟨_,rfl,bq h⟩))) C9)
  |exact bp (bp (m:=Builtin.Tuple.tupleExact _) (wpAny_newObj_type (bq (bq ⟨_,rfl,bq h⟩)) C9))
  |exact bp (bp (m:=Builtin.Tuple.tupleExact _) (wpAny_newObj_type (bq ⟨_,rfl,bq h⟩) C9))
inductive Au(ρ:eP)(h:Heap):Option MV->Value->Prop
 |none:Au ρ h .none .none
 |some {v x}:VR ρ h v x->Au ρ h (.some v) x
def ka(x:Value)(i:Option Int):Prop:=(IsPart x i/\∃p,x=partValue p/\p.map (·.1)=i)/\(i= .none->x= .none)/\∀j,i=some j->∃u,x= .int j u
theorem vw{ρ h o x}(r:Au ρ h o x)(e:Kc o=some i):ka x i:=by
 cases r with
 |none=>exact inj e▸⟨⟨.none,.none,rfl,rfl⟩,λu_=>rfl,(by intro I1 I2;injection I2)⟩
 |@some v x r=>cases v with
  |int j=>exact r.ie (P:=(ka · i)) λt=>inj e▸⟨⟨.int _ t,.some (j,t),rfl,rfl⟩,(by intro I1;injection I1),λk e=>⟨t,inj e▸rfl⟩⟩
  |_=>injection e
theorem Au.bt(hρ:qQ ρ ρ')(k:fA S h h')(nt:NT S h){v x}(r:Au ρ h v x):Au ρ' h' v x:=by
 cases r with
 |none=>exact .none
 |some r=>exact .some (r.bt hρ k nt)
def Av(c:Cx)(FL:List bO)(fm:Fm)(hd:Option Nat)(n:Nat)(v:aD.Env->MH->(Option MV->MH->Prop)->PE->Prop)(t:Sem Value):Prop:=
 ∀A ev ρ H s Q E Q' E',jm A FL hd ρ n->v ev H Q E->St c FL ρ H s->fE fm ev ρ s.heap->(∀o H1 ρ1 s1 x,Q o H1->St c FL ρ1 H1 s1->Go ρ s.heap ρ1 s1.heap->Au ρ1 s1.heap o x->Q' x s1)->KE c FL ρ s E E'->wpAny (model c.prog c.w) A t Q' E' s
theorem F5:Av c FL fm hd n (λu_ H Q u_=>Q .none H) (evalPart none fm.aA):=λA ev ρ H s Q E Q' E' a h X lo kQ kE=>bq (kQ _ _ _ _ _ h X (.refl _ _) .none)
theorem F6{v:aD.Env->MH->PQ->PE->Prop}(h:aH c FL fm hd n v (eval e fm.aA)):Av c FL fm hd n (λaA H Q E=>v aA H (λx H1=>Q (some x) H1) E) (evalPart (some e) fm.aA):=
 λA ev ρ H s Q E Q' E' a hh X lo kQ kE=>h A ev ρ H s _ E _ E' a hh X lo (λx H1 ρ1 s1 x' q X1 g1 r1=>kQ _ _ _ _ _ q X1 g1 (.some r1)) kE
noncomputable def oSl(y1 y2:Value):Obj:={cls:=.type "slice",data:=.fields #[y1,y2,.none]}
def FV(s:Shared)(y1 y2:Value):Shared:={s with heap:=s.heap.push (oSl y1 y2)}
section
variable {A:Around} {ρ:eP} {H:MH} {s:Shared} {y1 y2:Value} {i1 i2:Option Int} {Q:PQ} {Q' E:Value->Shared->Prop} {l:Expr} {lo up:Option Expr} {p:Pos}
theorem OP(X:St c FL ρ H (FV s y1 y2))(ok:bI str)(p1:ka y1 i1)(p2:ka y2 i2)(q:Q (.str (cG str i1 i2)) H)(k:KQ c FL ρ (FV s y1 y2) Q Q'):
  wpAny (model c.prog c.w) A (subscriptTail l (.Slice lo up none p) (.str (SL str) t) (.ref s.heap.objs.size)) Q' E (FV s y1 y2):=
 p1.1.2.elim λt1 f1=>p2.1.2.elim λt2 f2=>by
  refine tail_any (typeIs_str _ _ _) F.slot_str_getitem.lookup (wpAny_getItem_str_slice (l:=t1) (u:=t2) (st:=none) ⟨_,Heap.get?_push_size _ rfl,rfl,by refine f1.1▸f2.1▸?_;rfl⟩ rfl ?_) (show subscripted (.Slice lo up none p) false _ _=operate [_,_] _ from rfl);have e:sliceMade (SL str) t t1 t2 none=(if((1:Int)==1&&(Builtin.Str.strSliceIndices i1 i2 1 (SL str).length).length==(SL str).length)=true then Made.val (.str (SL str) t)else Made.str ⟨((Builtin.Str.strSliceIndices i1 i2 1 (SL str).length).filterMap ((SL str).cps[·]?)).toArray⟩):=by
   delta sliceMade slicePicked;refine f1.2▸f2.2▸?_;rfl
  rw[e];have se:=KZ str i1 i2;unfold Txt.slice at se;have ok':=ok.slice i1 i2;refine post_val_or_str ⟨by rw[se,cu];exact ok'.1,λt' kk=>?_⟩;rw[se];exact bZ k X _ q (.str _ _ ok')
theorem cY.take{ρ h vs ws}(r:cY ρ h vs ws)(k:Nat):cY ρ h (vs.take k) (ws.take k):=by
 refine⟨by simp only[length_take,length_take,r.1],λj v x e e'=>?_⟩;rw[getElem?_take]at e e';by_cases q:j<k
 ·rw[ah q]at e e';exact r.2 _ v x e e'
 ·rw[ag q]at e;injection e
theorem cY.drop{ρ h vs ws}(r:cY ρ h vs ws)(k:Nat):cY ρ h (vs.drop k) (ws.drop k):=
 ⟨by simp only[length_drop,length_drop,r.1],λj v x e e'=>r.2 _ v x (getElem?_drop.symm.trans e) (getElem?_drop.symm.trans e')⟩
theorem cY.dropLast{ρ h vs ws}(r:cY ρ h vs ws):cY ρ h vs.dropLast ws.dropLast:=by
 rw[List.dropLast_eq_take,List.dropLast_eq_take,<-r.1];exact r.take _
theorem cY.slice{ρ h vs ws lo hi}(r:cY ρ h vs ws):cY ρ h (cG vs lo hi) (cG ws lo hi):=by
 unfold cG;refine r.1▸?_;exact(r.drop _).take _
theorem OQ(X:St c FL ρ H (FV s y1 y2))(rx:VR ρ (FV s y1 y2).heap (.aF vs) x')(p1:ka y1 .none)(p2:ka y2 (some (-1)))(qJ:vs≠[])(q:Q (.aF vs.dropLast) H)(k:KQ c FL ρ (FV s y1 y2) Q Q'):
  wpAny (model c.prog c.w) A (subscriptTail l (.Slice lo up none p) x' (.ref s.heap.objs.size)) Q' E (FV s y1 y2):=by
 obtain rfl:=p1.2.1 rfl;obtain⟨u,rfl⟩:=p2.2.2 _ rfl;refine rx.te (P:=λx'=>wpAny _ _ (subscriptTail l (.Slice lo up none p) x' _) Q' E _) λa o ws m eo hc iA vr hz=>?_;have Se:1<=ws.size:=vr.size▸List.length_pos_iff.mpr qJ;exact tail_any (T:="tuple") ⟨o,eo,hc⟩ F.slot_tuple_getitem.lookup (Ag (items:=ws) ⟨o,eo,hc,m,iA⟩ (.new _ _ _ _) Se (vr.size▸hz)
  (X.tD (vs:=vs.dropLast) (ws:=ws.toList.dropLast.toArray) vr.dropLast (by rw[List.length_dropLast];exact az (Nat.sub_le _ _) hz) k q s.toks)) (show subscripted (.Slice lo up none p) false _ _=operate [_,_] _ from rfl)
theorem KY(X:St c FL ρ H (FV s y1 y2))(rx:VR ρ (FV s y1 y2).heap (.ref r) x')(hb:H[r]? =some (.list vs))(p1:ka y1 i1)(p2:ka y2 i2)(q:Q (.ref H.length) (H++ [.list (cG vs i1 i2)]))(k:KQ c FL ρ (FV s y1 y2) Q Q'):
  wpAny (model c.prog c.w) A (subscriptTail l (.Slice lo up none p) x' (.ref s.heap.objs.size)) Q' E (FV s y1 y2):=
 X.lv (P:=λx'=>wpAny _ _ (subscriptTail l (.Slice lo up none p) x' _) Q' E _) rx hb λpp ws m ei e1 v1 z2 hp=>
  tail_any (T:="list") ⟨_,e1,rfl⟩ slot_list_getitem.lookup (wpAny_getItem_list_slice (items:=ws) (lo:=i1) (hi:=i2) (st:=none) ⟨_,e1,rfl,m,rfl⟩ (.new _ _ _ _) p1.1.1 p2.1.1 .none (by intro I1;injection I1)
   (X.lD (xA ws i1 i2▸v1.slice) (az (mi _ _ _) z2) k q s.toks) (v1.size▸z2)) (show subscripted (.Slice lo up none p) false _ _=operate [_,_] _ from rfl)
end
theorem Gq{va:aD.Env->MH->PQ->PE->Prop}{vl vu:aD.Env->MH->(Option MV->MH->Prop)->PE->Prop}{l:Expr}{lo up:Option Expr}{p pos:Pos}(ha:aH c FL fm hd n va (eval l fm.aA))(hl:Av c FL fm hd n vl (evalPart lo fm.aA))
  (hu:Av c FL fm hd n vu (evalPart up fm.aA)):
  aH c FL fm hd n (λaA H Q E=>va aA H (λx H1=>vl aA H1 (λa H2=>vu aA H2 (λb H3=>cX H3 x a b Q) E) E) E) (eval (.Subscript l (.Slice lo up none p) pos) fm.aA):=by
 intro A ev ρ H s Q E Q' E' a h X lc kQ kE;refine Subscript_ (ha A ev ρ H s _ E _ E' a h X lc (λx H1 ρ1 s1 x' q X1 g1 r1=>?_) kE);refine wpAny_Slice (hl A ev ρ1 H1 s1 _ E _ E' (a.b8 g1.b8) q X1 (lc.go g1 X.bD.nb) (λo1 H2 ρ2 s2 y1 q2 X2 g2 r2=>?_) (kE.go g1));refine hu A ev ρ2 H2 s2 _ E _ E' ((a.b8 g1.b8).b8 g2.b8) q2 X2 ((lc.go g1 X.bD.nb).go g2 X1.bD.nb) (λo2 H3 ρ3 s3 y2 q3 X3 g3 r3=>?_) ((kE.go g1).go g2);refine DR q3 λi1 e1 q3=>DR q3 λi2 e2 q3=>bq ?_;have nH:=g2.trans g3;have z:=X3.ex (t:=s3.toks) (Ex.push [] s3.heap (oSl y1 y2));have p1:=vw (r2.bt g3.b8 g3.keep X2.bD.nb.nt) e1;have p2:=vw r3 e2;have k4:KQ c FL ρ3 (FV s3 y1 y2) Q Q':=kQ.go ((g1.trans nH).trans z.2);have rx:VR ρ3 (FV s3 y1 y2).heap x x':=(r1.bt nH.b8 nH.keep X1.bD.nb.nt).bt z.2.b8 z.2.keep X3.bD.nb.nt;cases x with
 |str str=>exact rx.se (P:=λx'=>wpAny _ _ (subscriptTail l (.Slice lo up none p) x' _) Q' E' _) λt ok=>OP z.1 ok p1 p2 q3 k4
 |aF vs=>obtain rfl:=q3.1;obtain rfl:=q3.2.1;exact OQ z.1 rx p1 p2 q3.2.2.1 q3.2.2.2 k4
 |ref r=>exact tu q3 λvs hb q3=>KY z.1 rx hb p1 p2 q3 k4
 |_=>exact q3.elim
end
theorem CZ:Slot "function" "__getattribute__" "object.__getattribute__" :=
 .of (owner:="object") (n:="__getattribute__") (by rw[typeLookup_type,builtinLookup_eq_fast];kernel_rfl) (by decide+kernel) (by decide+kernel) (by decide+kernel)
  (by first|exact .inl (by decide+kernel)|exact .inr (by decide+kernel)) (by rw[isSubtype_type];kernel_rfl)
theorem IH:typeLookup (.type "function") "__class__" =pure (some (.builtin "object.__class__")):=by rw[typeLookup_type,builtinLookup_eq_fast];kernel_rfl
theorem II:isSubtype (.type "function") (.type (".".intercalate ("object.__class__".cutAt '.').dropLast))=pure true:=by
 rw[F.owner_object_class,isSubtype_type];kernel_rfl
theorem IJ:isSubtype (.type "function") (.type "tuple")=pure false:=by rw[isSubtype_type];kernel_rfl
theorem Nq(v n:Value):argsOk "object.__getattribute__" ⟨[v,n],[]⟩:=by unfold argsOk;kernel_rfl
theorem IQ:entryFor table "object.__getattribute__" =some Builtin.«object.__getattribute__» :=entryFor_of_tree (by kernel_rfl)
section
variable {prog:Program} {w:World} {A:Around} {E:Value->Shared->Prop} {h:Heap} {g:Array GenState} {d:Drawn} {t:Nat} {os:OsState} {a:Addr} {o:Obj}
theorem Nm{R:Result->Shared->Prop}(hx:h.get? a=some o)(hc:o.cls= .type "function")(hq:R (.ok (.ret (.type "function"))) ⟨h,g,d,t,os⟩):
  codeAny (model prog w) A (.call (.builtin "getset_descriptor.__get__") ⟨[.builtin "object.__class__",.ref a,.type "function"],[]⟩) R ⟨h,g,d,t,os⟩:=by
 have k1:(⟨h,g,d,t,os⟩:Shared).TypeIs (.ref a) "function" :=⟨_,hx,hc⟩
 have k2:(⟨h,g,d,t,os⟩:Shared).TypeIs (.builtin "object.__class__") "getset_descriptor" :=F.typeOf_object_class;have k3:=II;refine codeAny_call_builtin F.slot_gs_get.plain F.entry_gs_get (F.slot_gs_get.check _ _ _ _ _ _ _ _ k2 (F.args_gs_get _ _ _) ?_)
 repeat (any_goals (first|assumption|wp_step))
 refine⟨Code.quiet_builtin _ (by decide+kernel),codeAny_builtin F.entry_object_class ?_⟩
 repeat (any_goals (first|assumption|wp_step))
theorem qH{Q:Fin->Shared->Prop}(hx:h.get? a=some o)(hc:o.cls= .type "function")(hq:Q (.done (.ret (.type "function"))) ⟨h,g,d,t,os⟩):
  wpAny (model prog w) A (Builtin.«object.__getattribute__» ⟨[.ref a,.str "__class__" tk],[]⟩) Q E ⟨h,g,d,t,os⟩:=by
 have k1:(⟨h,g,d,t,os⟩:Shared).TypeIs (.ref a) "function" :=⟨_,hx,hc⟩
 have k2:(⟨h,g,d,t,os⟩:Shared).TypeIs (.builtin "object.__class__") "getset_descriptor" :=F.typeOf_object_class;have k4:=IH;have k5:=F.typeOf_object_class;have k6:=F.slot_gs_get.lookup;have k7:=F.slot_gs_set.lookup
 repeat (any_goals (first|assumption|wp_step))
 refine Nm hx hc ?_
 repeat (any_goals (first|assumption|wp_step))
theorem RU{Q:Option Value->Shared->Prop}(hx:h.get? a=some o)(hc:o.cls= .type "function")(hq:Q (some (.type "function")) ⟨h,g,d,t+1,os⟩):
  wpAny (model prog w) A (getAttr? (.ref a) "__class__") Q E ⟨h,g,d,t,os⟩:=by
 have k1:(⟨h,g,d,t,os⟩:Shared).TypeIs (.ref a) "function" :=⟨_,hx,hc⟩
 have by_:∀{tk:Tok} {Q:Value->Shared->Prop} {E:Value->Shared->Prop} {t:Nat},Q (.type "function") ⟨h,g,d,t,os⟩->wpAny (model prog w) A (getAttrBy (.ref a) (.str "__class__" tk) false) Q E ⟨h,g,d,t,os⟩:=by
  intro tk Q E t hq;have k1:(⟨h,g,d,t,os⟩:Shared).TypeIs (.ref a) "function" :=⟨_,hx,hc⟩
  have f2:=CZ.lookup;have f3:=CZ.bind (.ref a);have call:∀{R:Result->Shared->Prop},R (.ok (.ret (.type "function"))) ⟨h,g,d,t,os⟩->codeAny (model prog w) A (.call (.builtin "object.__getattribute__") ⟨[.ref a,.str "__class__" tk],[]⟩) R ⟨h,g,d,t,os⟩:=λhr=>
   codeAny_call_builtin CZ.plain IQ (CZ.check _ _ _ _ _ _ _ _ (show(⟨h,g,d,t,os⟩:Shared).TypeIs (.ref a) "function" from⟨_,hx,hc⟩) (Nq _ _) (qH hx hc hr))
  repeat (any_goals (first|assumption|wp_step))
  refine call ?_
  repeat (any_goals (first|assumption|wp_step))
 unfold getAttr? getAttrBy?
 repeat (any_goals (first|assumption|with_reducible apply by_|wp_step))
theorem E0{Q:Value->Shared->Prop}(hx:s.heap.get? a=some o)(hc:o.cls= .type "function")(hq:Q (.bool false) {s with toks:=s.toks+1}):
  wpAny (model prog w) A (call (.builtin "isinstance") [.ref a,.type "tuple"]) Q E s:=by
 refine call_isinstance (S:=λu_ R s=>(∃o,s.heap.get? a=some o/\o.cls= .type "function")/\R (.ok (.ret (.bool false))) {s with toks:=s.toks+1}) (λu_ u_ u_ u_ s hs=>?_) ⟨⟨o,hx,hc⟩,hq⟩;obtain⟨h,g,d,t,os⟩:=s;obtain⟨⟨o,hx,hc⟩,hq⟩:=hs;refine isinstance_outer ?_;have k1:(⟨h,g,d,t,os⟩:Shared).TypeIs (.ref a) "function" :=⟨_,hx,hc⟩
 have hty:typeOf (.type "tuple")=pure (.type "type"):=F.isi_meta_tuple;have hsub:=IJ;have qJ:(Value.type "function" ==Value.type "tuple")=false:=by decide
 repeat (any_goals (first|assumption|with_reducible apply RU hx hc|wp_step))
end
section
variable {c:Cx} {FL:List bO} {fm:Fm} {hd:Option Nat} {n:Nat}
structure L6(c:Cx)(fm:Fm)(x:Str)(v:Value):Prop where
 yI:mH fm x=true
 none:nsIn c.K mainGlobals x=some none
 Zg:bootBuiltins x=some v
 nn:x≠"__name__"
 nd:(x==("__debug__" :Str))=false
theorem L6.load(F:c7 fm)(K:cZ c)(b:L6 c fm x v){Q E}(st:c.bQ.StaysIn s.heap)(k:Q v s):wpAny (model c.prog c.w) A (eval (.Name x pos) fm.aA) Q E s:=
 w7 F K b.yI b.none b.Zg b.nn st b.nd k
structure Pj(c:Cx)(fm:Fm)(x:Str)(a:Addr):Prop where
 yI:mH fm x=true
 aP:nsIn c.K mainGlobals x=some (some (.ref a))
 nd:(x==("__debug__" :Str))=false
theorem Pj.load(F:c7 fm)(K:cZ c)(b:Pj c fm x a){Q E}(st:c.bQ.StaysIn s.heap)(k:Q (.ref a) s):wpAny (model c.prog c.w) A (eval (.Name x pos) fm.aA) Q E s:=
 Name_function_global F.kind (beq_iff_eq.mp b.yI) (qu F K b.yI b.aP st k) b.nd
theorem dm{E:Value->Shared->Prop}{Q:Args->Shared->Prop}(hp:ts.any (·.1)=false)(h:wpAny M A (spliced ts) (λvs s1=>Q ⟨vs,[]⟩ s1) E s):wpAny M A (evalArgs f true ts []) Q E s:=by
 cases ts with
 |nil=>
  dsimp only[evalArgs];show wpAny M A (spliced []>>=_) Q E s;refine bp (wpAny_mono h (λvs s1 h1=>?_) λu_ u_ e=>e);refine bp (bq ?_);refine wpAny_holding ?_;exact bp (bq (bp (bq (bq h1))))
 |cons x r=>
  obtain⟨b,t⟩:=x;have hb:b=false:=by
   have:=hp;simp only[List.any_cons,Bool.or_eq_false_iff]at this;exact this.1
  subst hb;exact evalArgs_plain h
theorem wU(h:k<=line)(e:k=m):¬(m:Int)>=2^63/\(m:Int)<2^63:=⟨not_le.mpr (IG h e),IG h e⟩
theorem Rh{ρ H}{Q':Value->Shared->Prop}{E}(X:St c FL ρ H s)(rx:VR ρ s.heap x x')(h:m9 .len H x=some v)(k:∀v' t,VR ρ s.heap v v'->Q' v' {s with toks:=t}):
  wpAny (model c.prog c.w) A (call (.builtin "len") [x']) Q' E s:=by
 have k1:∀{n m:Nat},some (MV.int n)=some v->n=m->∀u t,Q' (.int m u) {s with toks:=t}:=λe q u t=>k _ t (inj e▸q▸.int _ _);cases x with
 |str t=>exact rx.se (P:=λx'=>wpAny _ _ (call (.builtin "len") [x']) Q' E s) λu ok=>len_str (wU ok.1 (cu t).symm).1 (k1 h (cu t).symm _ _)
 |aF vs=>exact rx.te (P:=λx'=>wpAny _ _ (call (.builtin "len") [x']) Q' E s) λa o ws m eo hc iA vr hz=>len_tuple (items:=ws) ⟨o,eo,hc,m,iA⟩ (wU hz vr.size).2 (k1 h vr.size _ _)
 |ref r=>
  refine kl h λo ho h=>?_;cases o with
  |list vs=>exact X.lv (P:=λx'=>wpAny _ _ (call (.builtin "len") [x']) Q' E s) rx ho λp ws m u_ e1 v1 z2 u_=>len_list (items:=ws) ⟨_,e1,rfl,m,rfl⟩ (wU z2 v1.size).2 (k1 h v1.size _ _)
  |jy vs=>exact X.fv (P:=λx'=>wpAny _ _ (call (.builtin "len") [x']) Q' E s) rx ho λp ws m u_ e1 e2 e3 v1 z2 u_=>len_list (items:=ws) ⟨_,e1,e2,m,e3⟩ (wU z2 v1.size).2 (k1 h v1.size _ _)
  |_=>injection h
 |_=>injection h
theorem Ri{ρ H}{Q':Value->Shared->Prop}{E}(rx:VR ρ s.heap x x')(h:m9 .LX H x=some v)(k:∀v' t,VR ρ s.heap v v'->Q' v' {s with toks:=t}):
  wpAny (model c.prog c.w) A (call (.builtin "ord") [x']) Q' E s:=
 jD (P:=λx=>VR ρ s.heap x x'->wpAny _ _ (call (.builtin "ord") [x']) Q' E s) h (λl h=>WZ (P:=λl=>VR ρ s.heap (.str l) x'->wpAny _ _ (call (.builtin "ord") [x']) Q' E s) h λch h rx=>rx.se (P:=λx'=>wpAny _ _ (call (.builtin "ord") [x']) Q' E s) λt ok=>P.ord_of_char (k _ _ (inj h▸.int _ _))) rx
theorem Rg{ρ H}{Q':Value->Shared->Prop}{E}(rx:VR ρ s.heap x x')(h:m9 .GG H x=some v)(k:∀v' t,VR ρ s.heap v v'->Q' v' {s with toks:=t}):
  wpAny (model c.prog c.w) A (call (.builtin "chr") [x']) Q' E s:=
 pI (P:=λx=>VR ρ s.heap x x'->wpAny _ _ (call (.builtin "chr") [x']) Q' E s) h (λi h rx=>rx.ie (P:=λx'=>wpAny _ _ (call (.builtin "chr") [x']) Q' E s) λt=>by
  cases i with
  |negSucc=>injection h
  |ofNat i=>
   have h:Rw i (Nat.blt i 1114112)=some v:=h;cases q:Nat.blt i 1114112 with
   |false=>rw[q]at h;injection h
   |true=>
    rw[q]at h;have q:=blt_eq.mp q;exact chr_of_range (natCast_nonneg i) (ofNat_le.mpr (Nat.le_of_lt_succ q)) (k _ _ (inj h▸.str [i] _ ⟨(by decide:1<=line),λd hd=>bg hd▸q⟩))) rx
theorem Rj{ρ H}{Q Q'}{E:Value->Shared->Prop}(X:St c FL ρ H s)(rx:VR ρ s.heap x x')(h:m9 .gH H x=some v)(q:Q v H)(kQ:KQ c FL ρ s Q Q'):
  wpAny (model c.prog c.w) A (call (.type "tuple") [x']) Q' E s:=
 BA (P:=λx=>VR ρ s.heap x x'->wpAny _ _ (call (.type "tuple") [x']) Q' E s) h (λr h rx=>sY h λvs hb h=>X.lv (P:=λx'=>wpAny _ _ (call (.type "tuple") [x']) Q' E s) rx hb λp ws m u_ e1 v1 z2 u_=>
  call_tuple_list (items:=ws) ⟨_,e1,rfl,m,rfl⟩ (λh' hk=>
   have z:=X.ex (t:=s.toks) (.JN hk []);
   z.1.tD (v1.bt (.refl _) z.2.keep X.bD.nb.nt) z2 (kQ.go z.2) (inj h▸q) s.toks) (v1.size▸z2)) rx
theorem Pu{v:aD.Env->MH->PQ->PE->Prop}(hs:starEach [e] fm.aA= [(false,eval e fm.aA)])(hv:aH c FL fm hd n v (eval e fm.aA)){ev ρ H s Q E Q' E'}(a:jm A FL hd ρ n)(h:v ev H Q E)(X:St c FL ρ H s)(l:fE fm ev ρ s.heap)(kE:KE c FL ρ s E E')
 (k:∀x H1 ρ1 s1 x',Q x H1->St c FL ρ1 H1 s1->Go ρ s.heap ρ1 s1.heap->VR ρ1 s1.heap x x'->Q' ⟨[x'],[]⟩ s1):wpAny (model c.prog c.w) A (evalArgs f true (backTo pos (starEach [e] fm.aA)) []) Q' E' s:=by
 rw[hs];refine dm rfl (spliced_cons (hv A ev ρ H s _ E _ E' a h X l (λx H1 ρ1 s1 x' q X1 g1 r1=>?_) kE));exact spliced_nil (k x H1 ρ1 s1 x' q X1 g1 r1)
theorem TA(F:c7 fm)(K:cZ c){v:aD.Env->MH->PQ->PE->Prop}(hb:L6 c fm (GF kk).1 (GF kk).2)(hs:starEach [e] fm.aA= [(false,eval e fm.aA)])(hv:aH c FL fm hd n v (eval e fm.aA)):
  aH c FL fm hd n (λaA H Q E=>v aA H (λx H1=>match m9 kk H1 x with|some v=>Q v H1| .none=>False) E) (eval (.Call (.Name (GF kk).1 p) [e] [] pos) fm.aA):=by
 intro A ev ρ H s Q E Q' E' a h X lo kQ kE;refine Call_ (hb.load F K X.c6 ?_);have pl:(backTo pos (starEach [e] fm.aA)).any (·.1)=false:=by rw[hs];rfl
 have fin:∀{f:Value},(∀x v H1 ρ1 s1 x',m9 kk H1 x=some v->Q v H1->St c FL ρ1 H1 s1->Go ρ s.heap ρ1 s1.heap->VR ρ1 s1.heap x x'->wpAny (model c.prog c.w) A (call f [x']) Q' E' s1)->
   wpAny (model c.prog c.w) A (evalArgs f true (backTo pos (starEach [e] fm.aA)) []) (λa s1=>wpAny (model c.prog c.w) A (call f ([]++a.pos) a.kw) Q' E' s1) E' s:=λkf=>
  Pu hs hv a h X lo kE λx H1 ρ1 s1 x' q X1 g1 r1=>mtV q λv e q=>kf x v H1 ρ1 s1 x' e q X1 g1 r1
 cases kk with
 |len=>exact callWith_builtin pl (fin λx v H1 ρ1 s1 x' e q X1 g1 r1=>Rh X1 r1 e λv' t rr=>bZ (kQ.go g1) X1 t q rr)
 |LX=>exact callWith_builtin pl (fin λx v H1 ρ1 s1 x' e q X1 g1 r1=>Ri r1 e λv' t rr=>bZ (kQ.go g1) X1 t q rr)
 |GG=>exact callWith_builtin pl (fin λx v H1 ρ1 s1 x' e q X1 g1 r1=>Rg r1 e λv' t rr=>bZ (kQ.go g1) X1 t q rr)
 |gH=>exact PySem.callWith_type pl (fin λx v H1 ρ1 s1 x' e q X1 g1 r1=>Rj X1 r1 e q (kQ.go g1))
end
theorem E1(sep:List Nat)(r:List (List Nat)):∀a b:List Nat,a++r.foldl (λacc p=>acc++sep++p) b=r.foldl (λacc p=>acc++sep++p) (a++b):=by
 induction r with
 |nil=>exact λu_ u_=>rfl
 |cons z r ih=>exact λa b=>(ih _ _).trans (af (foldl _ · r) (by show a++(b++sep++z)=a++b++sep++z;rw[<-aq,<-aq]))
theorem Bo(sep:List Nat)(r:List (List Nat)):∀x:List Nat,fK sep (x::r)=r.foldl (λacc p=>acc++sep++p) x:=by
 induction r with
 |nil=>exact λu_=>rfl
 |cons y r ih=>exact λx=>(af (x++sep++ ·) (ih y)).trans (E1 sep r (x++sep) y)
theorem E3(sep:List Nat)(r:List (List Nat)):∀a:List Nat,(r.map SL).foldl (λacc p=>acc++(SL sep).cps++p.cps) a.toArray=(r.foldl (λacc p=>acc++sep++p) a).toArray:=by
 induction r with
 |nil=>exact λu_=>rfl
 |cons z r ih=>exact λa=>(af (foldl _ · (r.map SL)) (by show a.toArray++sep.toArray++z.toArray=(a++sep++z).toArray;simp)).trans (ih (a++sep++z))
theorem NN(sep:List Nat)(l:List (List Nat)):Txt.join (SL sep) (l.map SL)=SL (fK sep l):=by
 cases l with
 |nil=>rfl
 |cons x r=>exact af Str.mk ((E3 sep r x).trans (af toArray (Bo sep r x).symm))
theorem Jm(a b c d e:Nat)(h:d<=e+c*b):a+b+d<=a+e+(c+1)*b:=by
 simp only[Nat.add_mul,Nat.one_mul];lia
theorem Fe(hs:bI sep)(l:List (List Nat)):(∀x∈l,bI x)->(fK sep l).length<=(l.map length).sum+l.length*sep.length/\∀c∈fK sep l,c<1114112:=by
 induction l with
 |nil=>exact λu_=>⟨zero_le _,nofun⟩
 |cons x r ih=>
  intro hl;have hx:=(hl x (.head _)).2;cases r with
  |nil=>exact⟨az (le_add_right _ 0) (le_add_right _ _),hx⟩
  |cons y r=>
   have z:=ih λz hz=>hl z (.tail _ hz);refine⟨?_,λc hc=>?_⟩
   ·show(x++sep++fK sep (y::r)).length<=x.length+((y::r).map length).sum+((y::r).length+1)*sep.length;simp only[ak,ak];exact Jm _ _ _ _ _ z.1
   ·exact(mem_append.mp hc).elim (λq=>(mem_append.mp q).elim (hx c) (hs.2 c)) (z.2 c)
theorem Jj(hs:bI sep)(hl:∀x∈l,bI x)(h:(l.map length).sum+l.length*sep.length<=line):bI (fK sep l):=
 have z:=Fe hs l hl
 ⟨az z.1 h,z.2⟩
theorem O1{ρ h}:∀{xs:List Value} {l:List (List Nat)},cY ρ h vs xs->B8 vs=some l->StrsAre xs (l.map SL)/\(∀x∈l,bI x):=by
 induction vs with
 |nil=>exact λ{xs l} r e=>r.ne (P:=λxs=>StrsAre xs (l.map SL)/\(∀x∈l,bI x)) (inj e▸⟨.nil,nofun⟩)
 |cons v vs ih=>exact λ{xs l} r e=>r.ce (P:=λxs=>StrsAre xs (l.map SL)/\(∀x∈l,bI x)) λx ys rx ry=>jD (P:=λv=>VR ρ h v x->StrsAre (x::ys) (l.map SL)/\(∀x∈l,bI x)) e (λs e rx=>sR e λl' e' q=>
   have z:=ih ry e';q▸rx.se (P:=λx=>StrsAre (x::ys) ((s::l').map SL)/\(∀x∈s::l',bI x)) λt ok=>⟨.cons _ _ z.1,λx hx=>(mem_cons.mp hx).elim (λe=>e▸ok) (z.2 x)⟩) rx
theorem B9(s p:List Nat):Builtin.Str.subAt (SL s) (SL p) 0=decide (s.take p.length=p):=by
 dsimp only[Builtin.Str.subAt];rw[cu];show((s.toArray.extract 0 (0+p.length))==p.toArray)=_;have:s.toArray.extract 0 (0+p.length)=(s.take p.length).toArray:=by simp
 rw[this,Bool.eq_iff_iff,beq_iff_eq,decide_eq_true_iff];constructor
 ·intro h;simpa using af toList h
 ·intro h;rw[h]
theorem uw(s p:List Nat):Txt.startswith (SL s) (SL p)=p.isPrefixOf s:=by
 show(decide (0+(SL p).length<=(SL s).length)&&Builtin.Str.subAt (SL s) (SL p) 0)=_;rw[cu,cu,B9,Bool.eq_iff_iff,and_eq_true,decide_eq_true_iff,decide_eq_true_iff,List.isPrefixOf_iff_prefix,List.prefix_iff_eq_take];constructor
 ·intro h;exact h.2.symm
 ·intro h;refine⟨?_,h.symm⟩;have:=af length h;rw[length_take]at this;lia
def US(s:List Nat)(c b:Nat)(r:Int):Prop:=(r= -1/\∀i:Nat,b<=i->s[i]?≠some c)\/∃k:Nat,r=(k:Int)/\b<=k/\s[k]? =some c/\∀j:Nat,b<=j->j<k->s[j]?≠some c
theorem US.eq{s c b r q}(x:US s c b r)(y:US s c b q):r=q:=
 x.elim (λx=>y.elim (λy=>x.1.trans y.1.symm) λ⟨k,u_,h1,h2,v_⟩=>a9 h2 (x.2 k h1)) λ⟨k,e,h1,h2,n⟩=>y.elim (λy=>a9 h2 (y.2 k h1)) λ⟨l,e',ZM,Yu,n'⟩=>
  (Nat.lt_trichotomy k l).elim (λq=>a9 h2 (n' k h1 q)) λq=>q.elim (λq=>e.trans ((af Int.ofNat q).trans e'.symm)) λq=>a9 Yu (n l ZM q)
theorem A5(c:Nat)(t:List Nat):∀k:Nat,s.drop k=t->US s c k (i5 c t k):=by
 induction t with
 |nil=>exact λk e=>.inl ⟨rfl,λi hi q=>a9 (bo q).1 (not_lt.mpr (az (List.drop_eq_nil_iff.mp e) hi))⟩
 |cons x r ih=>
  intro k e;have ek:s[k]? =some x:=by
   have:=af (·[0]?) e;rwa[getElem?_drop]at this
  have z:=ih (k+1) (by refine drop_drop▸e▸?_;rfl);have st:∀j:Nat,k<=j->x≠c->s[j]? =some c->k+1<=j:=λj hj hx q=>Nat.lt_of_le_of_ne hj λe=>hx (inj (ek.symm.trans (e▸q)));dsimp only[i5];by_cases h:x=c
  ·rw[ah h];exact .inr ⟨k,rfl,le_refl _,ek.trans (af some h),λj a b=>a9 b (not_lt.mpr a)⟩
  ·rw[ag h];exact z.imp (λz=>⟨z.1,λi hi q=>z.2 i (st i hi h q) q⟩) λ⟨l,e,h1,h2,n⟩=>⟨l,e,Nat.le_of_succ_le h1,h2,λj a b q=>n j (st j a h q) b q⟩
theorem yy(s:List Nat)(c:Nat)(b:Nat):Txt.find3 (SL s) (SL [c]) (b:Int)=i5 c (s.drop b) b:=by
 refine US.eq ?_ (A5 c _ b rfl);have fi:fromIndex (SL s).length (b:Int)=b:=by
  unfold fromIndex;refine(ag (Int.not_lt.mpr (natCast_nonneg b)))▸(Int.max_eq_right (natCast_nonneg b))▸?_;rfl
 have gd:∀v,v<(SL s).length->((SL s).cps.getD v 0=c↔s[v]? =some c):=by
  intro v hv;rw[cu]at hv;show s.toArray.getD v 0=c↔_;simp[Array.getD,hv]
 rcases StrLaws.find3_spec (SL s) c (b:Int)with⟨a,n⟩|⟨k,a,h1,h2,h3,n⟩
 ·rw[fi]at n;exact .inl ⟨a,λi hi q=>have l:=cu s▸(bo q).1;n i hi l ((gd i l).mpr q)⟩
 ·rw[fi]at h1 n;exact .inr ⟨k,a,h1,(gd k h2).mp h3,λj u v q=>n j u v ((gd j (Nat.lt_trans v h2)).mpr q)⟩
theorem Nl(s:List Nat)(c:Nat):Txt.find (SL s) (SL [c])=i5 c s 0:=by
 rw[find_is_find3];exact yy s c 0
theorem bI.sub(x:bI a)(h:b.Sublist a):bI b:=⟨az h.length_le x.1,λc hc=>x.2 c (h.subset hc)⟩
theorem vG(x:List Nat)(ok:bI x)(i j:Nat):∃y,bI y/\Builtin.Str.strSub (SL x) i j=SL y:=
 ⟨(x.drop i).take (j-i),ok.sub ((take_sublist _ _).trans (List.drop_sublist _ _)),af Str.mk (by show x.toArray.extract i j=_;simp)⟩
theorem xp(x:List Nat)(ok:bI x)(w:Nat)(Ig:List Nat):∀a:Nat,∃l:List (List Nat),StrLaws.partsFrom (SL x) w a Ig=l.map SL/\(∀y∈l,bI y)/\l≠[]:=by
 induction Ig with
 |nil=>exact λa=>(vG x ok a (SL x).length).elim λy z=>⟨[y],af (· :: []) z.2,λq hq=>bg hq▸z.1,(by intro I1;injection I1)⟩
 |cons c r ih=>exact λa=>(vG x ok a c).elim λy z=>(ih (c+w)).elim λl q=>⟨y::l,(af (· ::_) z.2).trans (af (SL y:: ·) q.1),λv hv=>(mem_cons.mp hv).elim (λe=>e▸z.1) (q.2.1 v),(by intro I1;injection I1)⟩
theorem Km(x:List Nat)(ok:bI x)(Ig:List Nat)(w:Nat):∃l:List (List Nat),Builtin.Str.partsBetween (SL x) Ig w=l.map SL/\(∀y∈l,bI y)/\l≠[]:=StrLaws.partsBetween_eq ..▸xp x ok w Ig 0
theorem LB{ρ h}(l:List (List Nat)):∀tk:Nat,(∀y∈l,bI y)->cY ρ h (l.map .str) (strsFrom tk (l.map SL)):=by
 induction l with
 |nil=>exact λu_ u_=>.nil _ _
 |cons y r ih=>exact λtk o=>.cons (.str _ _ (o y (.head _))) (ih (tk+1) λz hz=>o z (.tail _ hz))
theorem OM{ρ H}(X:St c FL ρ H s)(r:VR ρ s.heap a a')(h:D3 H a=some vs){P:Value->Prop}
 (k:∀(D:Addr) (items:Array Value),cY ρ s.heap vs items.toList->s.heap.IsList D items\/IsTup s.heap D items->P (.ref D)):P a':=by
 cases a with
 |aF l=>exact r.te λD o ws m eo hc iA vr u_=>k D ws (inj h▸vr) (.inr ⟨o,eo,hc,m,iA⟩)
 |ref i=>exact sY h λl hb h=>X.lv r hb λp ws m u_ e1 v1 u_ u_=>k p.1 ws (inj h▸v1) (.inl ⟨_,e1,rfl,m,rfl⟩)
 |_=>injection h
section
variable {c:Cx} {FL:List bO} {fm:Fm} {hd:Option Nat} {n:Nat}
theorem HF{ρ H}{Q Q'}{E:Value->Shared->Prop}(X:St c FL ρ H s)(ok:bI x)(hx:x.length+2<=line)
 (h:∀l:List (List Nat),l≠[]->l.length<=line->Q (.ref H.length) (H++ [.list (l.map .str)])) (kQ:KQ c FL ρ s Q Q'):
  wpAny (model c.prog c.w) A (call (.builtin "str.split") [.str (SL x) t,.str (SL [y]) u]) Q' E s:=by
 have hy:((SL [y]).length==0)=false:=rfl;have lq:sizeLine=line:=rfl;have Uw:(SL x).length<=sizeLine:=by rw[cu];exact ok.1
 have fs:=(fact_split (SL x) (SL [y])).2;rw[cu]at fs;have self:Q' (.ref s.heap.objs.size) {s with heap:=s.heap.push {cls:=.type "list",data:=.seq [Value.str (SL x) t].toArray}}:=by
  refine X.lD (vs:=([x]:List (List Nat)).map .str) ?_ (by show 1<=line;decide) kQ (h [x] (by simp) (by show 1<=line;decide)) s.toks;exact .cons (.str _ _ ok) (.nil _ _)
 by_cases h1:(decide ((SL x).length<(SL [y]).length)||decide (Builtin.Str.strKind (SL x)<Builtin.Str.strKind (SL [y])))=true
 ·exact call_meets F.slot_str_split (typeIs_str _ _ _) F.entry_str_split (F.args_str_split_2 _ _) (meets_str_split_cannot_occur (SL x) (SL [y]) t u h1) self
 ·have h1:=eq_false_iff.mpr h1;by_cases hf:(Builtin.Str.occurrences (SL x) (SL [y]) 0 (SL x).length ((SL x).length+1)).isEmpty=true
  ·exact call_meets F.slot_str_split (typeIs_str _ _ _) F.entry_str_split (F.args_str_split_2 _ _) (meets_str_split_not_found (SL x) (SL [y]) t u h1 hy hf) self
  ·have hf:=eq_false_iff.mpr hf;have e:Txt.split (SL x) (SL [y])=Builtin.Str.partsBetween (SL x) (Builtin.Str.occurrences (SL x) (SL [y]) 0 (SL x).length ((SL x).length+1)) (SL [y]).length:=by
    unfold Txt.split;rw[h1,hf];rfl
   rw[e]at fs;refine(Km x ok (Builtin.Str.occurrences (SL x) (SL [y]) 0 (SL x).length ((SL x).length+1)) (SL [y]).length).elim λl z=>?_;have el:=z.1;have hl:l.length<=line:=by
    rw[el,ar]at fs;exact az fs hx
   refine call_meets F.slot_str_split (typeIs_str _ _ _) F.entry_str_split (F.args_str_split_2 _ _) (meets_str_split_sep (SL x) (SL [y]) t u h1 hy hf Uw (by rw[el,ar];exact hl)) ?_;refine el▸?_;exact X.lD (vs:=l.map .str) (LB l s.toks z.2.1) (by rw[ar];exact hl) kQ (h l z.2.2 hl) _
theorem tI{α:Type}{l:List α}{i:Nat}{p:α}(h:l[i]? =some p):l.set i p=l:=
 have z:=bo h
 z.2▸List.set_getElem_self z.1
theorem St.gC{ρ H}{s:Shared}(X:St c FL ρ H s){h':Heap}{t:Nat}{i:Nat}{p:Addr×Addr}{o:MO}(hi:ρ[i]? =some p)(ex:Ex [p.1,p.2] s.heap h')(Wq:di s.heap p.1->di h' p.1)
  (r:OR c.prog c.w c.so ρ h' p o):St c FL ρ (H.set i o) {s with heap:=h',toks:=t}/\Go ρ s.heap ρ h':=
 have e:ρ.set i (p.1,p.2)=ρ:=tI hi;have z:=X.XO (t:=t) (q:=p.2) (o:=o) hi ex (.inl rfl) Wq
 (af (λr=>OR c.prog c.w c.so r h' p o->St c FL r (H.set i o) {s with heap:=h',toks:=t}/\Go ρ s.heap r h') e).mp z r
theorem St.zN{ρ H}{s:Shared}(X:St c FL ρ H s){i:Nat}{p:Addr×Addr}{vs:List MV}{ws:Array Value}{n:Nat}{h':Heap}{t:Nat}(hi:ρ[i]? =some p)(hp:p.2=p.1)(h0:∃o,s.heap.get? p.1=some o/\∀vs,o.data≠.fields vs)(k:Heap.SameBut p.1 s.heap h')
  (e:h'.get? p.1=some {cls:=.type "list",data:=.seq ws n}) (r:cY ρ s.heap vs ws.toList) (hl:vs.length<=line):St c FL ρ (H.set i (.list vs)) {s with heap:=h',toks:=t}/\Go ρ s.heap ρ h':=
 have ex:Ex [p.1,p.2] s.heap h':=(Ex.cP k).bt λb hb=>bg hb▸.head _;have m:=aO hi;have nb:NB [p.1,p.2] s.heap:=λb hb=>X.bD.nb b ((mem_cons.mp hb).elim (λe=>e▸m.1) λhb=>bg hb▸m.2)
 X.gC (t:=t) hi ex (h0.elim λu_ z=>Fw z.1 z.2) (.list e (r.bt (.refl ρ) ex.keep nb.nt) hl hp)
theorem St.Ak{ρ H}{s:Shared}(X:St c FL ρ H s){i:Nat}{p:Addr×Addr}{vs:List MV}{ws:Array Value}{n:Nat}{h':Heap}{t:Nat}(hi:ρ[i]? =some p)(hp:p.2=p.1)(h0:∃o,s.heap.get? p.1=some o/\∀vs,o.data≠.fields vs)(k:Heap.SameBut p.1 s.heap h')
  (e:h'.get? p.1=some {cls:=.type "list",data:=.seq ws n}) (r:cY ρ s.heap vs ws.toList) (hl:vs.length<=line) {Q Q'} (kQ:KQ c FL ρ s Q Q') (q:Q .none (H.set i (.list vs))):Q' .none {s with heap:=h',toks:=t}:=
 have z:=X.zN (t:=t) hi hp h0 k e r hl
 kQ _ _ _ _ _ q z.1 z.2 .none
noncomputable def Zf:BM->String
 | .join=>"str" | .startswith=>"str" | .append=>"list" | .find=>"str" | .split=>"str" | .pop=>"dict" | .reverse=>"list"
noncomputable def Ze:BM->String
 | .join=>"str.join" | .startswith=>"str.startswith" | .append=>"list.append" | .find=>"str.find" | .split=>"str.split" | .pop=>"dict.pop" | .reverse=>"list.reverse"
theorem HE(k:BM):PlainAttrs (Zf k)/\Slot (Zf k) (Ug k) (Ze k)/\typeOf (.builtin (Ze k))=pure (.type "method_descriptor"):=by
 cases k
 ·exact⟨F.plainAttrs_str,F.slot_str_join,F.type_str_join⟩
 ·exact⟨F.plainAttrs_str,F.slot_str_startswith,F.type_str_startswith⟩
 ·exact⟨F.plainAttrs_list,F.slot_list_append,F.type_list_append⟩
 ·exact⟨F.plainAttrs_str,F.slot_str_find,F.type_str_find⟩
 ·exact⟨F.plainAttrs_str,F.slot_str_split,F.type_str_split⟩
 ·exact⟨F.plainAttrs_dict,F.slot_dict_pop,F.type_dict_pop⟩
 ·exact⟨F.plainAttrs_list,F.slot_list_reverse,F.type_list_reverse⟩
def BT(s:Shared)(o':Value)(T:String):Prop:=s.TypeIs o' T/\(∀a,o'= .ref a->∃ob,s.heap.get? a=some ob/\ob.dict=none)
theorem Rn{ρ}(r:VR ρ s.heap o o')(h:isStr o=true):BT s o' "str" :=by
 cases o with
 |str l=>exact r.se (P:=(BT s · "str")) λt ok=>⟨typeIs_str _ _ _,(by intro I1 I2;injection I2)⟩
 |_=>injection h
theorem AM{ρ h o o'}(r:VR ρ h o o'){f:Nat->Bool}(e:OE o f=true){P:Prop}(k:∀i,VR ρ h (.ref i) o'->f i=true->P):P:=by
 cases o with
 |ref i=>exact k i r e
 |_=>injection e
theorem HN{ρ H}(X:St c FL ρ H s)(r:VR ρ s.heap (.ref i) o')(h:u2 H[i]? =true):BT s o' "list" :=by
 generalize hb:H[i]? =q at h;cases q with
 |none=>injection h
 |some o=>cases o with
  |list vs=>exact X.lv (P:=(BT s · "list")) r hb λp ws m u_ e1 u_ u_ u_=>⟨⟨_,e1,rfl⟩,λa e=>⟨_,Value.ref.inj e▸e1,rfl⟩⟩
  |_=>injection h
theorem MD{ρ H}(X:St c FL ρ H s)(r:VR ρ s.heap o o')(h:oK k H o=true):BT s o' (Zf k):=by
 cases k with
 |append=>exact AM r h λi r h=>HN X r h
 |reverse=>exact AM r h λi r h=>HN X r h
 |pop=>
  exact AM r h λi r h=>by
   generalize hb:H[i]? =q at h;cases q with
   |none=>injection h
   |some o=>cases o with
    |dict es=>exact X.dv (P:=(BT s · "dict")) r hb λp cw u_ hD u_ u_ u_=>⟨hD.dictOf.mapOf.typeIs,λa e=>hD.elim λo z=>z.elim λes z=>⟨o,Value.ref.inj e▸z.1,z.2.1.2.1⟩⟩
    |_=>injection h
 |_=>exact Rn r h
theorem Jk{ρ H}{Q Q'}{E:Value->Shared->Prop}(X:St c FL ρ H s)(ok:bI sep)(rv:cY ρ s.heap vs items.toList)(hl:s.heap.IsList D items\/IsTup s.heap D items)(e:B8 vs=some l)
 (h:(l.map length).sum+l.length*sep.length<=line/\Q (.str (fK sep l)) H) (kQ:KQ c FL ρ s Q Q'):wpAny (model c.prog c.w) A (call (.builtin "str.join") [.str (SL sep) t,.ref D]) Q' E s:=by
 have z:=O1 rv e;have Uu:((l.map SL).map (·.length)).sum+(l.map SL).length*(SL sep).length<=16777216:=by
  simp only[map_map,ar,cu];exact h.1
 have fin:∀t' k,Q' (.str (Txt.join (SL sep) (l.map SL)) t') {s with toks:=k}:=λt' k=>(NN sep l).symm▸bZ kQ X k h.2 (.str _ _ (Jj ok z.2 h.1));exact hl.elim (λhl=>join_list hl z.1 Uu fin) λhl=>join_tuple hl z.1 Uu fin
theorem cY.reverse{ρ h vs ws}(v:cY ρ h vs ws):cY ρ h vs.reverse ws.reverse:=by
 refine⟨by simp only[length_reverse,length_reverse,v.1],λj x y e e'=>?_⟩;have hj:j<vs.length:=length_reverse▸(bo e).1;rw[List.getElem?_reverse hj]at e;rw[List.getElem?_reverse (v.1▸hj),<-v.1]at e';exact v.2 _ x y e e'
theorem MC{A:Around}{k:BM}{ρ H}{s:Shared}{o:MV}{o':Value}{args:List MV}{bw:List Value}{Q Q'}{E:Value->Shared->Prop}(X:St c FL ρ H s)(ro:VR ρ s.heap o o')(ra:cY ρ s.heap args bw)
  (h:iW k H o args Q) (kQ:KQ c FL ρ s Q Q'):wpAny (model c.prog c.w) A (call (.builtin (Ze k)) (o'::bw)) Q' E s:=by
 cases k with
 |join=>
  exact xw ro h (P:=λo'=>wpAny _ _ (call (.builtin "str.join") (o'::bw)) Q' E s) λsep t ok h=>s1 ra h (P:=λbw=>wpAny _ _ (call (.builtin "str.join") (_::bw)) Q' E s) λa x rx h=>DR h λl e h=>kl e λvs e1 e2=>
   OM X rx e1 (P:=λx=>wpAny _ _ (call (.builtin "str.join") [_,x]) Q' E s) λD items rv hl=>Jk X ok rv hl e2 h kQ
 |startswith=>
  exact xw ro h (P:=λo'=>wpAny _ _ (call (.builtin "str.startswith") (o'::bw)) Q' E s) λl t ok h=>s1 ra h (P:=λbw=>wpAny _ _ (call (.builtin "str.startswith") (_::bw)) Q' E s) λa x rx h=>
   xw rx h (P:=λx=>wpAny _ _ (call (.builtin "str.startswith") [_,x]) Q' E s) λp u u_ h=>SC.startswith ((uw l p).symm▸bZ kQ X s.toks h (.bool _))
 |append=>
  exact FU ro h λi ro h=>s1 ra h (P:=λbw=>wpAny _ _ (call (.builtin "list.append") (o'::bw)) Q' E s) λv x rx h=>tu h λvs hb h=>
   X.lv ro hb (P:=λo'=>wpAny _ _ (call (.builtin "list.append") [o',x]) Q' E s) λp ws m ei e1 v1 z2 hp=>append_at e1 (λh' k1 e2=>
    X.Ak (t:=s.toks) (vs:=vs++ [v]) ei hp ⟨_,e1,(by intro I1 I2;injection I2)⟩ k1 e2 ((Array.toList_push (xs:=ws)).symm▸v1.append (.cons rx (.nil _ _))) (by rw[ak];exact h.1) kQ h.2) (v1.size▸z2)
 |find=>
  exact xw ro h (P:=λo'=>wpAny _ _ (call (.builtin "str.find") (o'::bw)) Q' E s) λl t ok h=>sC ra h (P:=λbw=>wpAny _ _ (call (.builtin "str.find") (_::bw)) Q' E s) λa x r ys rx ry h=>
   xw rx h (P:=λx=>wpAny _ _ (call (.builtin "str.find") (_::x::ys)) Q' E s) λq u u_ h=>To (P:=λq=>wpAny _ _ (call (.builtin "str.find") (_:: .str (SL q) u::ys)) Q' E s) h λch h=>by
    cases r with
    |nil=>exact ry.ne (P:=λys=>wpAny _ _ (call (.builtin "str.find") (_::_::ys)) Q' E s) (SC.find ((Nl l ch).symm▸bZ kQ X _ h (.int _ _)))
    |cons b r=>cases r with
     |cons=>exact h.elim
     |nil=>exact xm (P:=λb=>cY ρ s.heap [b] ys->wpAny _ _ (call (.builtin "str.find") (_::_::ys)) Q' E s) h (λb h ry=>ry.ce (P:=λys=>wpAny _ _ (call (.builtin "str.find") (_::_::ys)) Q' E s) λy zs ry rz=>rz.ne (P:=λzs=>wpAny _ _ (call (.builtin "str.find") (_::_::y::zs)) Q' E s) (ry.ie (P:=λy=>wpAny _ _ (call (.builtin "str.find") [_,_,y]) Q' E s) λw=>by
       have f:=yy l ch b.toNat;rw[Int.toNat_of_nonneg h.1]at f;exact SC.find3 (f.symm▸bZ kQ X _ h.2 (.int _ _)))) ry
 |split=>
  exact xw ro h (P:=λo'=>wpAny _ _ (call (.builtin "str.split") (o'::bw)) Q' E s) λl t ok h=>s1 ra h (P:=λbw=>wpAny _ _ (call (.builtin "str.split") (_::bw)) Q' E s) λa x rx h=>
   xw rx h (P:=λx=>wpAny _ _ (call (.builtin "str.split") [_,x]) Q' E s) λq u u_ h=>To (P:=λq=>wpAny _ _ (call (.builtin "str.split") [_,.str (SL q) u]) Q' E s) h λch h=>HF X ok h.1 h.2 kQ
 |pop=>
  exact FU ro h λi ro h=>sC ra h (P:=λbw=>wpAny _ _ (call (.builtin "dict.pop") (o'::bw)) Q' E s) λa x r ys rx ry h=>xw rx h (P:=λx=>wpAny _ _ (call (.builtin "dict.pop") (o'::x::ys)) Q' E s) λnme u u_ h=>
   s1 ry h (P:=λys=>wpAny _ _ (call (.builtin "dict.pop") (o'::_::ys)) Q' E s) λd y ry h=>Kg h λes hb h=>X.dv ro hb (P:=λo'=>wpAny _ _ (call (.builtin "dict.pop") [o',_,y]) Q' E s) λp cw ei hD hk u_ u_=>by
    have hv:Eh ρ s.heap (valueAt cw (SL nme)) .none:=h.1▸jM hk nme;exact call_meetsIn F.slot_dict_pop hD.dictOf.mapOf.typeIs F.entry_dict_pop (F.args_dict_pop_3 _ _ _) (meets_dict_pop_default (strKind c.prog c.w) p.1 (k:=SL nme) (strKind_is _ _ _ _) (xE X (aO ei).1) rfl y) ⟨cw,hD.dictOf,hv,bZ kQ X _ h.2 ry⟩
 |reverse=>
  exact FU ro h λi ro h=>s0 ra h (P:=λbw=>wpAny _ _ (call (.builtin "list.reverse") (o'::bw)) Q' E s) λh=>tu h λvs hb h=>X.lv ro hb (P:=λo'=>wpAny _ _ (call (.builtin "list.reverse") [o']) Q' E s) λp ws m ei e1 v1 z2 hp=>
   call_meets F.slot_list_reverse ⟨_,e1,rfl⟩ F.entry_list_reverse (F.args_list_reverse_1 _) (AutoSeq1.list_reverse_list_0 p.1 ws m (v1.size▸z2)) ⟨e1,
    X.Ak (t:=s.toks) (vs:=vs.reverse) (ws:=ws.reverse) ei hp ⟨_,e1,(by intro I1 I2;injection I2)⟩ (Heap.SameBut.update ..) (IsL.update (n:=m) e1 _) (Array.toList_reverse (xs:=ws)▸v1.reverse) (az (le_of_eq length_reverse) z2) kQ h⟩
theorem Gl{vo:aD.Env->MH->PQ->PE->Prop}{va:aD.Env->MH->(List MV->MH->Prop)->PE->Prop}(ho:aH c FL fm hd n vo (eval o fm.aA))(ha:Em c FL fm hd n va (spliced (backTo pos (starEach args fm.aA))))
 (nK:attributeBase o (Ug k) fm.aA (eval o fm.aA)=eval o fm.aA) (wI:((backTo pos (starEach args fm.aA)).all (λx=>!x.1)&&(backToKw pos (keywordEach [] fm.aA)).all (λx=>x.1.isSome)
 &&decide (args.length+([]:List Keyword).length+(if([]:List Keyword).isEmpty then 0 else 1)<30))=true) (nM:(apos.endLine==pos.line)=true) (pl:(backTo pos (starEach args fm.aA)).any (·.1)=false):
  aH c FL fm hd n (λaA H Q E=>vo aA H (λov H1=>oK k H1 ov=true/\va aA H1 (λvs H2=>iW k H2 ov vs Q) E) E) (eval (.Call (.Attribute o (Ug k) apos) args [] pos) fm.aA):=by
 intro A ev ρ H s Q E Q' E' a h X lo kQ kE;refine wpAny_Call_method_lateS nK wI nM (ho A ev ρ H s _ E _ E' a h X lo (λov H1 ρ1 s1 GL q X1 g1 r1=>?_) kE);have f:=HE k;have t:=MD X1 r1 q.1;refine⟨_,_,f.1,f.2.1,f.2.2,t.1,t.2,?_⟩;refine callWith_builtin pl (dm pl (ha A ev ρ1 H1 s1 _ E _ E' (a.b8 g1.b8) q.2 X1 (lo.go g1 X.bD.nb) (λvs H2 ρ2 s2 jo q2 X2 g2 r2=>?_) (kE.go g1)));exact MC X2 (r1.bt g2.b8 g2.keep X1.bD.nb.nt) r2 q2 (kQ.go (g1.trans g2))
end
end aD
namespace aD
open PySem PySem.W PySem.Calls PyProof.Rows Builtin Builtin.ObjectAttr
theorem mJ{h:Heap}{a:Addr}{m:Str->Option Value}{o:Obj}(x:h.Ns1 a m)(e:h.get? a=some o)(name:Str):lookIn name o=some (m name):=by
 obtain⟨o',es,ep,e',d,k,u,f⟩:=x;rw[e]at e';injection e' with I1;subst I1
 unfold lookIn;refine d▸?_;have hf:=f name;simp only[nsFind,findBy]at hf;rw[<-Array.find?_toList]at hf;have e2:(λ(e:DictEntry)=>e.key.isStr name)=λe=>(λn v=>v.isStr n) name e.key:=rfl;cases q:es.toList.find? (λe=>e.key.isStr name)with
 |some en=>
  dsimp only;rw[q]at hf⊢;rw[<-hf];rfl
 |none=>
  dsimp only;rw[q]at hf⊢;dsimp only;have hr:es.toList.any (·.refKey)=false:=by
   rw[any_eq_false];intro b hb;obtain⟨n,t,hk⟩:=k b (Array.mem_toList_iff.mp hb);simp[DictEntry.refKey,hk]
  rw[hr,ag (by decide),<-hf];rfl
structure UP(K:Frag)(C:Addr):Prop where
 ga:findIn K (.ref C) "__getattribute__" =some (some (.builtin "object.__getattribute__"))
 sa:findIn K (.ref C) "__setattr__" =some (some (.builtin "object.__setattr__"))
 aaI:plainOver K C=true
 R8:findIn K (.ref C) "__getattr__" =some none
 hd:(clsIn K C).any (·.hasDict)=true
structure QM(K:Frag)(C:Addr):Prop where
 ga:findIn K (.ref C) "__getattribute__" =some (some (.builtin "BaseException.__getattribute__"))
 sa:findIn K (.ref C) "__setattr__" =some (some (.builtin "object.__setattr__"))
 mro:∃cd,clsIn K C=some cd/\cd.hasDict=true/\cd.mro= [.ref C,.type "Exception",.type "BaseException",.type "object"]
 R8:findIn K (.ref C) "__getattr__" =some none
 mh:∃br q N bs sn sub ab col dd k0 k1 k2 k3 k5,K.lookup C=some (excClassObj br q C N bs [.type "Exception",.type "BaseException",.type "object"] true sn sub ab col dd k0 k1 k2 k3 k5 "Exception.__new__")
theorem qn{K:Frag}{C:Addr}{od:Obj}{name:Str}{v:Value}(hd:(clsIn K C).any (·.hasDict)=true)(hf:findIn K (.ref C) name=some none)(hl:lookIn name od=some (some v)):findObj K C (some od) name=some (.value v):=by
 obtain⟨cd,hc,hh⟩:=any_some hd;unfold findObj;simp only[hc,bind_some,hf];simp only[bind_some,W.ownOf,hh,if_true,hl]
theorem xk{prog:Program}{w:World}{A:Around}{s:Shared}{K:Frag}{x C:Addr}{R:Result->Shared->Prop}{ox:Obj}{od:Option Obj}{name:Str}{tk:Tok}{v:Value}(X:K.In s.heap)(I:InstAt s.heap x ox C od)
  (hp:∃cd,clsIn K C=some cd/\cd.mro.contains (.type "object")=true/\cd.mro.isEmpty=false/\refuseLoop (.ref x) "__setattr__" cd.mro=pure ()) (ht:findIn K (.ref C) name=some none)
  (h:∀b,wpAny (model prog w) A.in1 (storeInOwnDict (.ref x) (.ref C) (.str name tk) name v b)
   (λfin s'=>match fin with| .done f=>R (.ok f) s'| .again c'=>c'.quiet=true/\codeAny (model prog w) A c' R s') (λe s'=>R (.error e) s') s):
  codeAny (model prog w) A (.call (.builtin "object.__setattr__") ⟨[.ref x,.str name tk,v],[]⟩) R s:=by
 have SF:=PySem.F.store_object;obtain⟨cd,hc,aab,ne,ho⟩:=hp;have sub:Looks (model prog w) s.heap (isInstance (.ref x) (.type "object")) true:=I.type.andThen (looks_mroIn X (by unfold mroIn;rw[hc,bind_some,ag (by rw[ne];decide),aab]));refine codeAny_call_builtin SF.slot.plain SF.entry (@check_slot (model prog w) _ _ s "object.__setattr__" "object" "__setattr__" (.ref x) [.str name tk,v] [] _ SF.kind SF.split sub (SF.args (.ref x) (.str name tk) v) ?_);have hm:Looks (model prog w) s.heap (mroOf (.ref C)) cd.mro:=(looks_clsIn X hc).andThen .now;have L3:Looks (model prog w) s.heap (storeTaker? none) none:=.now;rw[osa_eq,refuse_eq];refine bp (bp (I.type.here (bp (hm.here ?_))));refine ho▸?_;refine bq (bp (I.type.here (bp ((looks_findIn X ht).here (bp (L3.here ?_))))));exact h _
theorem Ns1.mh{h:Heap}{a:Addr}{m:Str->Option Value}(x:h.Ns1 a m):∃o,h.get? a=some o:=x.elim λo z=>z.elim λu_ z=>z.elim λu_ z=>⟨o,z.1⟩
section
variable {prog:Program} {w:World} {A:Around} {s:Shared} {K:Frag} {x C:Addr} {E:Value->Shared->Prop} {name:Str} {tk:Tok} {v:Value} {mA:Str->Option Value} {ns:List Str}
theorem uN{Q:Fin->Shared->Prop}(hn:s.heap.Ns1 dx mA)(hw:Within mA ns)(hz:ns.length<=1000)(q:∀h',Heap.Ns1 h' dx (λy=>if y=name then some v else mA y)->Heap.SameBut dx s.heap h'->Q (.done (.ret .none)) {s with heap:=h',toks:=s.toks+1}):
  wpAny (model prog w) A (storeInDict dx (.str name tk) name v) Q E s:=by
 dsimp only[storeInDict,newKeyGuard];refine bp (bq (bp (wpAny_nsSet1 hn λh' wJ hs=>?_)));refine(wJ.count (Within.cons name v hw)).elim λoD z=>z.elim λesD z=>z.elim λepD z=>bp (wpAny_lookBehind z.1 ?_ ?_)
 ·rw[z.2.1];exact pastItsLine_dict (az z.2.2 (az (succ_le_succ hz) (by decide)))
 ·exact bq (q h' wJ hs)
theorem zG{Q:Fin->Shared->Prop}(k:wpAny (model prog w) A (instanceDict x true) (λa s'=>wpAny (model prog w) A (match a with|some d=>storeInDict d (.str name tk) name v|none=>noDictFor (.ref x) (.ref C) name b) Q E s') E s):wpAny (model prog w) A (storeInOwnDict (.ref x) (.ref C) (.str name tk) name v b) Q E s:=by
 dsimp only[storeInOwnDict];refine bp (bq ?_);rw[ag (by simp)];exact bp k
theorem uM{R:Option Addr->Shared->Prop}(X:K.In s.heap)(hx:s.heap.get? x=some o)(hc:o.cls= .ref C)(hh:(clsIn K C).any (·.hasDict)=true)(k:wpAny (model prog w) A (match o.dict with
 |some d=>pure (some d)
 |none=>do
 if !true|| !typeHasDict o.cls then return none
 match o.data with
 | .cls _=>return none
 |_=>pure ()
 let d<-alloc {cls:=.type "dict",data:=.dict #[]}
 update x λo=>{o with dict:=some d}
 dictMade o.cls x d) R E s):wpAny (model prog w) A (instanceDict x true) R E s:=by
 obtain⟨cd,Up,hhd⟩:=any_some hh;unfold instanceDict;refine bp (wpAny_loadPart hx ?_);rw[hc]at k⊢;dsimp only;refine bp ((looks_clsIn (M:=model prog w) X Up).here ?_);rw[hhd,ag (by decide)];exact k
theorem tK{o:Obj}{dx:Addr}{b:Bool}{Q:Fin->Shared->Prop}(X:K.In s.heap)(hx:s.heap.get? x=some o)(hc:o.cls= .ref C)(hh:(clsIn K C).any (·.hasDict)=true)(hd:o.dict=some dx)(qJ:dx≠x)(hn:s.heap.Ns1 dx mA)(hw:Within mA ns)(hz:ns.length<=1000)
  (h:∀h' t,Heap.Ns1 h' dx (λy=>if y=name then some v else mA y)->h'.get? x=some {o with dict:=some dx}->(∀b ob,b≠dx->s.heap.get? b=some ob->h'.get? b=some ob)->Q (.done (.ret .none)) {s with heap:=h',toks:=t}):
  wpAny (model prog w) A (storeInOwnDict (.ref x) (.ref C) (.str name tk) name v b) Q E s:=by
 refine zG (uM X hx hc hh ?_);refine hd▸?_;exact bq (uN hn hw hz λh' wJ hs=>h h' _ wJ (hd▸(hs.2 x qJ.symm).trans hx) λb ob hb e=>(hs.2 b hb).trans e)
theorem B7{o:Obj}{vs:Array Value}{b:Bool}{Q:Fin->Shared->Prop}(X:K.In s.heap)(hx:s.heap.get? x=some o)(hc:o.cls= .ref C)(hh:(clsIn K C).any (·.hasDict)=true)(hd:o.dict=none)(iA:o.data= .fields vs)(hmA:∀n,mA n=none)
  (h:∀h' t,Heap.Ns1 h' s.heap.objs.size (λy=>if y=name then some v else mA y)->h'.get? x=some {o with dict:=some s.heap.objs.size}->(∀b ob,b≠x->s.heap.get? b=some ob->h'.get? b=some ob)->Q (.done (.ret .none)) {s with heap:=h',toks:=t}):
  wpAny (model prog w) A (storeInOwnDict (.ref x) (.ref C) (.str name tk) name v b) Q E s:=by
 have hxs:x≠s.heap.objs.size:=ne_of_lt (Heap.lt_size hx);refine zG (uM X hx hc hh ?_);rw[hd,hc,iA];show wpAny _ _ (if(!true|| !typeHasDict (.ref C))=true then _ else _) _ _ _;rw[ag (by simp[typeHasDict])];refine bp (wpAny_alloc' (bp (wpAny_update' (Heap.get?_push_of_some _ hx) (bq ?_))));refine uN (mA:=λu_=>none) (ns:=[]) (Heap.Ns1.of_empty ⟨{cls:=.type "dict",data:=.dict #[]}, #[],_,(Heap.get?_update_ne _ _ _ _ hxs.symm).trans (Heap.get?_push_at rfl rfl),rfl,λe he=>a9 he (by simp),λu_=>rfl⟩) (λy hy=>a9 rfl hy) (by decide) λh' wJ hs=>?_;have f:(λy=>if y=name then some v else mA y)=λy=>if y=name then some v else none:=funext λy=>by rw[hmA]
 exact h h' _ (f▸wJ) ((hs.2 x hxs).trans (Heap.get?_update_self _ (Heap.get?_push_of_some _ hx) (by obtain⟨q1,q2,q3,q4⟩:=o;subst iA;rfl)))
  λb ob hbx hb=>(hs.2 b (ne_of_lt (Heap.lt_size hb))).trans ((Heap.get?_update_ne _ _ _ _ hbx).trans (Heap.get?_push_of_some _ hb))
end
theorem Nu{prog:Program}{w:World}{A:Around}{E:Value->Shared->Prop}{s:Shared}{K:Frag}{x C:Addr}{ox:Obj}{od:Option Obj}{name:Str}{expr:Bool}{Q:Value->Shared->Prop}{v:Value}(X:K.In s.heap)(I:InstAt s.heap x ox C od)(hE:QM K C)
  (hf:findObj K C od name=some (.value v)) (hh:handedIn v=true) (h:Q v {s with toks:=s.toks+1}):wpAny (model prog w) A (getAttr (.ref x) name expr) Q E s:=by
 have T:=I.type (M:=model prog w);refine bp (wpAny_mkText (wpAny_holding (bp (T _ _ _ _ (λu_ u_ e=>e) (bp (looks_findIn X hE.ga _ _ _ _ (λu_ u_ e=>e) ?_))))));dsimp only;rw[show(onTheHeap (.ref C)&&Value.builtin "BaseException.__getattribute__" ==Value.builtin "object.__getattribute__")=false from by simp only[show(Value.builtin "BaseException.__getattribute__" ==Value.builtin "object.__getattribute__")=false from by decide+kernel,Bool.and_false],ag (by decide)];refine bp ?_;show wpAny _ _ (typeLookup (.ref C) "__getattr__") _ _ _;refine(looks_findIn X hE.R8 _ _ _ _ (λu_ u_ e=>e) (bp (wpAny_attempt (wpAny_holding ?_))));dsimp only[callGetattribute];rw[show(expr&&onTheHeap (Value.builtin "BaseException.__getattribute__"))=false from Bool.and_false _,ag (by decide)];dsimp only[boundAndCalled];rw[PySem.F.attr_Exception.ga.bind];refine bp (bq ?_);show wpAny _ _ (call (.builtin "BaseException.__getattribute__") [.ref x,.str name s.toks]) _ _ _;refine wpAny_call ?_;refine codeAny_call_builtin PySem.F.attr_Exception.ga.plain F.entry_bexc_ga ?_;refine hE.mro.elim λcd z=>?_;refine @check_slot (model prog w) _ _ {s with toks:=s.toks+1} "BaseException.__getattribute__" "BaseException" "__getattribute__" (.ref x) [.str name s.toks] [] _ (by decide+kernel) (by decide+kernel) (T.andThen (looks_mroIn X ?_)) (F.args_bexc_ga (.ref x) (.str name s.toks)) ?_
 ·unfold mroIn;rw[z.1,bind_some,z.2.2];rfl
 have L0:=I.type (M:=model prog w);have L1:=looks_find (M:=model prog w) X I hf;unfold Builtin.«object.__getattribute__»;refine bp (bq (bp (bq (bp (L0.at (bp (L1.at ?_)))))));refine bq ?_;show wpAny _ _ (handedOut v) _ _ _;rw[handedOut_of hh];exact bq h
structure eO(c:Cx):Prop where
 aK:∀C,me C=true->UP c.K C
 aR:QM c.K 84
 Va:∀C n,me C=true->xO n=true->findIn c.K (.ref C) (br n)=some none
 Rf:∀n,Hr n=true->findIn c.K (.ref 84) (br n)=some none
 fn:∃o,c.K.lookup 700=some o/\o.cls= .type "function"
 inj:∀i j:Nat,i<dH.length->j<dH.length->br i=br j->i=j
theorem VR.IZ{ρ h v x}(r:VR ρ h v x):handedIn x=true:=by cases r<;>rfl
theorem pa:bW (jj aP n v) k=if k=n then some v else bW aP k:=by
 induction aP with
 |nil=>
  show(if n=k then some v else none)=if k=n then some v else none
  by_cases h:n=k
  ·rw[ah h,ah h.symm]
  ·rw[ag h,ag (Ne.symm h)]
 |cons p r ih=>
  show bW (if p.1=n then(p.1,v)::r else(p.1,p.2)::jj r n v) k=if k=n then some v else if p.1=k then some p.2 else bW r k
  by_cases h:p.1=n
  ·rw[ah h];show(if p.1=k then some v else bW r k)=_;by_cases h2:p.1=k
   ·rw[ah h2,ah (h2.symm.trans h)]
   ·rw[ag h2,ag h2,ag λq=>h2 (h.trans q.symm)]
  ·rw[ag h];show(if p.1=k then some p.2 else bW (jj r n v) k)=_;by_cases h2:p.1=k
   ·rw[ah h2,ah h2,ag (h2▸h)]
   ·rw[ag h2,ag h2];exact ih
theorem Kf{P:Prop}(h:(a||b)=true)(x:a=true->P)(y:b=true->P):P:=(or_eq_true_iff.mp h).elim x y
theorem v8(h:decide (a<=n/\n<=b)=true)(k:b<dH.length):n<dH.length:=lt_of_le_of_lt (ay h).2 k
theorem Hs(h:xO n=true):n<dH.length:=Kf h (λh=>Kf h (λh=>Kf h (λh=>beq_iff_eq.mp h▸by decide) λh=>v8 h (by decide)) λh=>v8 h (by decide)) λh=>v8 h (by decide)
theorem Rd(h:Hr n=true):n<dH.length:=v8 h (by decide)
section
variable {c:Cx} {FL:List bO} {fm:Fm} {hd:Option Nat} {n:Nat}
theorem St.u7{ρ H}(K:cZ c)(X:St c FL ρ H s):c.K.In s.heap:=K.YW.keeps X.c6
theorem IR.at{ρ h p C aP o mA od}(I:IR ρ h p C aP o mA)(e2:h.get? p.2=some od):InstAt h p.1 o C (some od):=⟨I.e,I.hc,by unfold notCls;rw[I.iA],by refine I.ui▸?_;exact e2⟩
theorem ER.at{so ρ h p C aP xx o vs mA}{od:Option Obj}(I:ER so ρ h p C aP xx o vs mA)(e2:match o.dict with|some d=>∃oo,h.get? d=some oo/\od=some oo|none=>od=none):InstAt h p.1 o C od:=⟨I.e,I.hc,by unfold notCls;rw[I.iA],by
 cases q:o.dict with
 |none=>rw[q]at e2;subst e2;trivial
 |some d=>rw[q]at e2;obtain⟨oo,a,rfl⟩:=e2;exact a⟩
theorem eO.has(O:eO c):(clsIn c.K 84).any (·.hasDict)=true:=O.aR.mro.elim λu_ z=>by rw[z.1];exact z.2.1
theorem qw{A:Around}{ρ H}{s:Shared}{x v:MV}{x':Value}{k:Nat}{expr:Bool}{Q:Value->Shared->Prop}{E}(K:cZ c)(O:eO c)(X:St c FL ρ H s)(rx:VR ρ s.heap x x')(h:cQ H x k=some v)(q:∀v' t,VR ρ s.heap v v'->Q v' {s with toks:=t}):
  wpAny (model c.prog c.w) A (getAttr x' (br k) expr) Q E s:=
 BA (P:=λx=>VR ρ s.heap x x'->wpAny (model c.prog c.w) A (getAttr x' (br k) expr) Q E s) h (λr h rx=>kl h λo ho h=>by
  cases o with
  |aK C aP=>
   have z:=Ux h;exact X.iv rx ho (P:=λx'=>wpAny _ _ (getAttr x' (br k) expr) Q E s) λp o mA ei I=>(I.hA _ _ z.2).2.elim λx y=>(Ns1.mh I.hN).elim λod e2=>get_value (X.u7 K) (I.at e2) (O.aK C I.hI).ga (qn (O.aK C I.hI).hd (O.Va C k I.hI z.1) ((mJ I.hN e2 (br k)).trans (af some y.1))) y.2.IZ (q _ _ y.2)
  |aR C aP b=>
   have z:=Ux h;refine X.ev rx ho (P:=λx'=>wpAny _ _ (getAttr x' (br k) expr) Q E s) λp o vs mA ei I=>(I.hA _ _ z.2).2.elim λx y=>I.ui.elim (λd=>(by injection((d.2.2 _).symm.trans y.1))) λd=>(Ns1.mh d.2.2).elim λod e2=>?_;have J:=I.at (od:=some od) (by rw[d.1];exact⟨od,e2,rfl⟩);have hI:=I.hI;subst hI;exact Nu (X.u7 K) J O.aR (qn O.has (O.Rf k z.1) ((mJ d.2.2 e2 (br k)).trans (af some y.1))) y.2.IZ (q _ _ y.2)
  |_=>injection h) rx
theorem Lc(K:cZ c)(O:eO c){vo:aD.Env->MH->PQ->PE->Prop}(ho:aH c FL fm hd n vo (eval o fm.aA))
 (he:eval (.Attribute o (br k) pos) fm.aA=(do let o'<-eval o fm.aA;standAt pos.atName;let r<-holding [o'] (getAttr o' (br k) true);letTemporaryGo o o' r;pure r)):
  aH c FL fm hd n (λaA H Q E=>vo aA H (λx H1=>match cQ H1 x k with|some v=>Q v H1| .none=>False) E) (eval (.Attribute o (br k) pos) fm.aA):=by
 intro A ev ρ H s Q E Q' E' a h X lo kQ kE;refine Attribute_any_ (ho A ev ρ H s _ E _ E' a h X lo (λx H1 ρ1 s1 x' q X1 g1 r1=>?_) kE) he;cases e:cQ H1 x k with
 |none=>rw[e]at q;exact q.elim
 |some v=>rw[e]at q;exact qw K O X1 r1 e λv' t rr=>bZ (kQ.go g1) X1 t q rr
def KH(c:Cx)(FL:List bO)(ρ:eP)(s:Shared)(Q:MH->Prop)(Q':Shared->Prop):Prop:=∀H1 ρ1 s1,Q H1->St c FL ρ1 H1 s1->Go ρ s.heap ρ1 s1.heap->Q' s1
theorem iB{ρ H}{s:Shared}(X:St c FL ρ H s){i:Nat}{p:Addr×Addr}(hi:ρ[i]? =some p):NB [p.1,p.2] s.heap:=λb hb=>
 have m:=aO hi
 X.bD.nb b ((mem_cons.mp hb).elim (λe=>e▸m.1) λhb=>bg hb▸m.2)
theorem CA(O:eO c){mA:Str->Option Value}(hk:k<dH.length)(hA:LZ ρ h aP mA)(rv:VR ρ h v v')(hρ:qQ ρ ρ')(kp:fA S h h')(nt:NT S h):
  LZ ρ' h' (jj aP k v) (λy=>if y=br k then some v' else mA y):=by
 intro j w e;rw[pa]at e;by_cases q:j=k
 ·rw[ah q]at e;exact inj e▸q▸⟨q▸hk,v',ah rfl,rv.bt hρ kp nt⟩
 ·rw[ag q]at e;have z:=hA j w e;exact z.2.elim λx y=>⟨z.1,x,(ag λe=>q (O.inj j k z.1 hk e)).trans y.1,y.2.bt hρ kp nt⟩
theorem vI{mA:Str->Option Value}(h:∀x,mA x≠none->∃n,n<dH.length/\x=br n):Within mA ((List.range dH.length).map br):=λy hy=>(h y hy).elim λn z=>mem_map.mpr ⟨n,mem_range.mpr z.1,z.2.symm⟩
theorem di.XO(e:h.get? a=some o)(e':h'.get? a=some o')(d:o'.data=o.data):di h a->di h' a:=λ⟨o1,vs,T,q1,q2,q3⟩=>⟨o',vs,T,e',d.trans ((af Obj.data (inj (e.symm.trans q1))).trans q2),q3⟩
theorem RK(O:eO c){ρ ρ':eP}{H:MH}{s:Shared}{i:Nat}{p:Addr×Addr}{C k:Nat}{aP xx o vs mA v v' h' dx}(I:ER c.so ρ s.heap p C aP xx o vs mA)(X:St c FL ρ H s)(ei:ρ[i]? =some p)(ex:Ex [p.1,p.2] s.heap h')(hk:k<dH.length)(rv:VR ρ s.heap v v')(hρ:qQ ρ ρ')
  (Bi:h'.get? p.1=some {o with dict:=some dx}) (qJ:dx≠p.1) (wJ:h'.Ns1 dx (λy=>if y=br k then some v' else mA y)):OR c.prog c.w c.so ρ' h' (p.1,dx) (.aR C (jj aP k v) xx):=
 .aR I.hI Bi I.hc I.iA I.hz (.inr ⟨rfl,qJ,wJ⟩) (CA O hk I.hA rv hρ ex.keep (iB X ei).nt) (λy hy=>by
   by_cases q:y=br k
   ·exact⟨k,hk,q⟩
   ·rw[ag q]at hy;exact I.hx y hy)
  (I.ha.elim λT z=>z.elim λoT z=>z.elim λts z=>z.elim λm z=>(ex.keep.get (λq=>(iB X ei _ q _ z.2.1).1 _ _ z.2.2.2 z.2.2.1) z.2.1 (by rw[z.2.2.1];decide)).elim λS2 y=>⟨T,S2,ts,m,z.1,y.1,y.2.1.trans z.2.2.1,y.2.2.2.trans z.2.2.2⟩)
  (I.ht.bt ex.keep (iB X ei).tb) I.hf
theorem RI(hd:d=a\/d=b)(hk:∀b ob,b≠d->h.get? b=some ob->h'.get? b=some ob):Ex [a,b] h h':=λq ob hb e=>hk q ob (λz=>hb (z▸hd.elim (λe=>e▸.head _) λe=>e▸.tail _ (.head _))) e
theorem JG:((List.range dH.length).map br).length<=1000:=by rw[ar,length_range];decide
theorem qx{A:Around}{ρ H}{s:Shared}{x v:MV}{x' v':Value}{k:Nat}{Q:MH->Prop}{Q':Shared->Prop}{E}(K:cZ c)(O:eO c)(X:St c FL ρ H s)(rx:VR ρ s.heap x x')(rv:VR ρ s.heap v v')(h:eG H x k v Q)(kQ:KH c FL ρ s Q Q'):
  wpAny (model c.prog c.w) A (setAttr x' (br k) v') (λu_=>Q') E s:=by
 have KI:=(X.pR (s.toks+1)).u7 K;refine FU rx h λr rx h=>DR h λob ho h=>?_;cases ob with
 |aK C aP=>
  refine X.iv rx ho (P:=λx'=>wpAny _ _ (setAttr x' (br k) v') (λu_=>Q') E s) λp o mA ei I=>(Ns1.mh I.hN).elim λod e2=>?_;have ck:=O.aK C I.hI;obtain⟨cd,Up,YA⟩:=any_some ck.aaI;have ne:cd.mro.isEmpty=false:=by cases q:cd.mro with|nil=>rw[q]at YA;injection YA|cons _ _=>rfl
  refine set_plain (X.u7 K) (I.at e2) ck.sa (xk (s:={s with toks:=s.toks+1}) KI (I.at e2) ⟨cd,Up,only_has YA,ne,refuse_only _ YA⟩ (O.Va C k I.hI h.1) λb=>
   tK (s:={s with toks:=s.toks+1}) KI I.e I.hc ck.hd I.ui I.hp I.hN (vI λx Uw=>(I.hx x Uw).elim λn z=>⟨n,z.1,z.2.1⟩) JG λh' t wJ Bi hk=>?_)
  have ex:Ex [p.1,p.2] s.heap h':=RI (.inr rfl) hk;have z:=X.gC (t:=t) ei ex (di.XO I.e Bi rfl) (.aK I.hI Bi I.hc I.iA rfl I.hp wJ (CA O (Hs h.1) I.hA rv (.refl ρ) ex.keep (iB X ei).nt) λy hy=>by
   by_cases q:y=br k
   ·exact⟨k,Hs h.1,q,by rw[pa,ah rfl];rfl⟩
   ·rw[ag q]at hy;refine(I.hx y hy).elim λj z=>⟨j,z.1,z.2.1,?_⟩
    rw[pa];by_cases e:j=k
    ·rw[ah e];rfl
    ·rw[ag e];exact z.2.2)
  exact kQ _ _ _ h.2 z.1 z.2
 |aR C aP bb=>
  refine X.ev rx ho (P:=λx'=>wpAny _ _ (setAttr x' (br k) v') (λu_=>Q') E s) λp o vs mA ei I=>?_;have hI:=I.hI;subst hI;have fin:∀(h':Heap) (dx:Addr) (t:Nat),(dx=p.2\/s.heap.objs.size<=dx)->dx≠p.1->Ex [p.1,p.2] s.heap h'->h'.get? p.1=some {o with dict:=some dx}->h'.Ns1 dx (λy=>if y=br k then some v' else mA y)->Q' {s with heap:=h',toks:=t}:=λh' dx t q ne ex Bi wJ=>
   have z:=X.XO (t:=t) (q:=dx) ei ex q (di.XO I.e Bi rfl) (RK O I X ei ex (Rd h.1) rv (Dn ei dx) Bi ne wJ)
   kQ _ _ _ h.2 z.1 z.2
  refine O.aR.mro.elim λcd cz=>?_;have ms:∃cd,clsIn c.K 84=some cd/\cd.mro.contains (.type "object")=true/\cd.mro.isEmpty=false/\refuseLoop (.ref p.1) "__setattr__" cd.mro=pure ():=⟨cd,cz.1,by rw[cz.2.2];rfl,by rw[cz.2.2];rfl,by rw[cz.2.2,refuseLoop_ref];exact PySem.F.store_Exception.passes _⟩
  refine I.ui.elim (λd=>?_) λd=>(Ns1.mh d.2.2).elim λod e2=>?_
  ·have J:=I.at (od:=none) (by exact d.1▸rfl);exact set_plain (X.u7 K) J O.aR.sa (xk (s:={s with toks:=s.toks+1}) KI J ms (O.Rf k h.1) λb=>B7 (s:={s with toks:=s.toks+1}) KI I.e I.hc O.has d.1 I.iA d.2.2 λh' t wJ Bi hk=>fin h' _ t (.inr (le_refl _)) (λq=>lt_irrefl _ (q▸Heap.lt_size I.e:s.heap.objs.size<_)) (RI (.inl rfl) hk) Bi wJ)
  ·have J:=I.at (od:=some od) (by refine d.1▸?_;exact⟨od,e2,rfl⟩);exact set_plain (X.u7 K) J O.aR.sa (xk (s:={s with toks:=s.toks+1}) KI J ms (O.Rf k h.1) λb=>tK (s:={s with toks:=s.toks+1}) KI I.e I.hc O.has d.1 d.2.1 d.2.2 (vI I.hx) JG λh' t wJ Bi hk=>fin h' _ t (.inl rfl) d.2.1 (RI (.inr rfl) hk) Bi wJ)
 |_=>exact h.elim
end
section
variable {c:Cx} {FL:List bO} {fm:Fm} {hd:Option Nat} {n:Nat}
theorem yT{v:aD.Env->MH->PQ->PE->Prop}(hs:starEach [e,e2] fm.aA= [(false,eval e fm.aA),(false,eval e2 fm.aA)])(hv:aH c FL fm hd n v (eval e fm.aA)){ev ρ H s Q E}{Q':Args->Shared->Prop}{E'}(a:jm A FL hd ρ n)(h:v ev H Q E)(X:St c FL ρ H s)(l:fE fm ev ρ s.heap)(kE:KE c FL ρ s E E')
 (ld:∀{s:Shared} {Q:Value->Shared->Prop} {E},c.bQ.StaysIn s.heap->Q y s->wpAny (model c.prog c.w) A (eval e2 fm.aA) Q E s)
 (k:∀x H1 ρ1 s1 x',Q x H1->St c FL ρ1 H1 s1->Go ρ s.heap ρ1 s1.heap->VR ρ1 s1.heap x x'->Q' ⟨[x',y],[]⟩ s1):wpAny (model c.prog c.w) A (evalArgs f true (backTo pos (starEach [e,e2] fm.aA)) []) Q' E' s:=by
 rw[hs];refine dm rfl (spliced_cons (hv A ev ρ H s _ E _ E' a h X l (λx H1 ρ1 s1 x' q X1 g1 r1=>?_) kE));exact spliced_cons (ld X1.c6 (spliced_nil (k x H1 ρ1 s1 x' q X1 g1 r1)))
theorem Jh{ρ H}{Q:Value->Shared->Prop}{E}(K:cZ c)(O:eO c)(X:St c FL ρ H s)(rx:VR ρ s.heap x x')(h:qK .tuple x=some b)(q:∀t,Q (.bool b) {s with toks:=t}):
  wpAny (model c.prog c.w) A (call (.builtin "isinstance") [x',.type "tuple"]) Q E s:=by
 cases x with
 |aF vs=>exact rx.te (P:=λx'=>wpAny _ _ (call (.builtin "isinstance") [x',.type "tuple"]) Q E s) λu_ u_ u_ u_ e hc u_ u_ u_=>IsiPair.tuple_tuple e hc (inj h▸q s.toks)
 |dg a=>exact rx.ae (P:=λx'=>wpAny _ _ (call (.builtin "isinstance") [x',.type "tuple"]) Q E s) (O.fn.elim λo z=>have y:=Ux h;E0 (X.u7 K _ _ (y.1▸z.1)) z.2 (inj y.2▸q _))
 |_=>injection h
theorem uv(F:c7 fm)(K:cZ c)(O:eO c){v:aD.Env->MH->PQ->PE->Prop}(hb:L6 c fm "isinstance" (.builtin "isinstance"))(R0:L6 c fm "tuple" (.type "tuple"))
 (hs:starEach [e,.Name "tuple" p2] fm.aA= [(false,eval e fm.aA),(false,eval (.Name "tuple" p2) fm.aA)]) (hv:aH c FL fm hd n v (eval e fm.aA)):
  aH c FL fm hd n (λaA H Q E=>v aA H (λx H1=>match qK .tuple x with|some b=>Q (.bool b) H1| .none=>False) E) (eval (.Call (.Name "isinstance" p) [e,.Name "tuple" p2] [] pos) fm.aA):=by
 intro A ev ρ H s Q E Q' E' a h X lo kQ kE;refine Call_ (hb.load F K X.c6 ?_);refine callWith_builtin (by rw[hs];rfl) (yT hs hv a h X lo kE (λst q=>R0.load F K st q) λx H1 ρ1 s1 x' q X1 g1 r1=>?_);exact mtB q λb e q=>Jh K O X1 r1 e λt=>bZ (kQ.go g1) X1 t q (.bool b)
theorem zW(F:c7 fm)(K:cZ c){v:aD.Env->MH->PQ->PE->Prop}(hb:L6 c fm "isinstance" (.builtin "isinstance"))(R0:Pj c fm y C)(hn:isNotIn c.K "str" C=true)
 (hs:starEach [e,.Name y p2] fm.aA= [(false,eval e fm.aA),(false,eval (.Name y p2) fm.aA)]) (hv:aH c FL fm hd n v (eval e fm.aA)):
  aH c FL fm hd n (λaA H Q E=>v aA H (λx H1=>match qK (.m5 C) x with|some b=>Q (.bool b) H1| .none=>False) E) (eval (.Call (.Name "isinstance" p) [e,.Name y p2] [] pos) fm.aA):=by
 intro A ev ρ H s Q E Q' E' a h X lo kQ kE;refine Call_ (hb.load F K X.c6 ?_);refine callWith_builtin (by rw[hs];rfl) (yT hs hv a h X lo kE (λst q=>R0.load F K st q) λx H1 ρ1 s1 x' q X1 g1 r1=>?_);exact mtB q λb e q=>jD (P:=λx=>VR ρ1 s1.heap x x'->wpAny _ _ (call (.builtin "isinstance") [x',.ref C]) Q' E' s1) e (λl e r1=>r1.se (P:=λx'=>wpAny _ _ (call (.builtin "isinstance") [x',.ref C]) Q' E' s1) λt ok=>
  isn_call (P:=λu_=>True) (X1.u7 K) (λM=>Looks.of_pure rfl) hn (by intro e;injection e) trivial str_cls (bZ (kQ.go g1) X1 _ (inj e▸q) (.bool false))) r1
def xT(c:Cx)(n:Nat)(C:Calls):Prop:=∀A FL hd ρ H s f args bw Q E Q' E',jm A FL hd ρ n->C f args hd H Q E->St c FL ρ H s->cY ρ s.heap args bw->KQ c FL ρ s Q Q'->KE c FL ρ s E E'->
 codeAny (model c.prog c.w) A (.call (.ref f) ⟨bw,[]⟩) (λr s'=>match r with| .ok (.ret v)=>Q' v s'| .ok _=>False| .error e=>E' e s') s
def Ue(c:Cx)(C:Calls):Prop:=∀f args hd H Q E,C f args hd H Q E->keepIn c.K (.ref f)=true
theorem Le(K:cZ c)(hC:xT c n C)(hK:Ue c C){vf:aD.Env->MH->PQ->PE->Prop}{va:aD.Env->MH->(List MV->MH->Prop)->PE->Prop}(hf:aH c FL fm hd n vf (eval func fm.aA))(ha:Em c FL fm hd n va (spliced (backTo pos (starEach args fm.aA))))
 (pl:(backTo pos (starEach args fm.aA)).any (·.1)=false)
 (he:eval (.Call func args [] pos) fm.aA=(do callWith pos (<-eval func fm.aA) [] (backTo pos (starEach args fm.aA)) (backToKw pos (keywordEach [] fm.aA)))):
  aH c FL fm hd n (λaA H Q E=>vf aA H (λfv H1=>va aA H1 (λvs H2=>match fv with
   | .dg a=>C a vs hd H2 Q E
   |_=>False) E) E) (eval (.Call func args [] pos) fm.aA):=by
 intro A ev ρ H s Q E Q' E' a h X lo kQ kE;refine Call_ (hf A ev ρ H s _ E _ E' a h X lo (λfv H1 ρ1 s1 LV q X1 g1 r1=>?_) kE) he;refine callWith_of (P:=λh=>∃a,LV= .ref a/\c.K.In h/\keepIn c.K (.ref a)=true) (by rw[pl];rfl) (λh ⟨a,e,x,k⟩=>e▸keeps_K k h x) (dm pl ?_);refine ha A ev ρ1 H1 s1 _ E _ E' (a.b8 g1.b8) q X1 (lo.go g1 X.bD.nb) (λvs H2 ρ2 s2 jo q2 X2 g2 r2=>?_) (kE.go g1);have g:=g1.trans g2;exact WR (P:=λfv=>VR ρ1 s1.heap fv LV->(∃a,LV= .ref a/\c.K.In s2.heap/\keepIn c.K (.ref a)=true)/\wpAny _ _ (call LV jo) Q' E' s2) q2 (λf q2 r1=>r1.ae (P:=λLV=>(∃a,LV= .ref a/\c.K.In s2.heap/\keepIn c.K (.ref a)=true)/\wpAny _ _ (call LV jo) Q' E' s2)
  ⟨⟨f,rfl,X2.u7 K,hK _ _ _ _ _ _ q2⟩,wpAny_call (hC A FL hd ρ2 H2 s2 f vs jo Q E Q' E' (a.b8 g.b8) q2 X2 r2 (kQ.go g) (kE.go g))⟩) r1
structure Ar(c:Cx)(M:Nat->Nat->Option Nat):Prop where
 fn:∀C k f,me C=true->M C k=some f->findIn c.K (.ref C) (br k)=some (some (.ref f))/\typeIn c.K (.ref f)=some (.type "function")/\k<dH.length
theorem pn{E:Value->Shared->Prop}{Q:Value->Shared->Prop}
 (nK:attributeBase o name aA (eval o aA)=eval o aA)
 (wI:((backTo pos (starEach args aA)).all (λx=>!x.1)&&(backToKw pos (keywordEach [] aA)).all (λx=>x.1.isSome)
 &&decide (args.length+([]:List Keyword).length+(if([]:List Keyword).isEmpty then 0 else 1)<30))=true)
 (nM:(apos.endLine==pos.line)=true)
 (h:wpAny M A (eval o aA) (λov s₁=>∃f first s₂,(∀{pl:Sem Bool} {Q:Value×List Value->Shared->Prop},Q (f,first) s₂->wpAny M A (getMethod ov name pl) Q E s₁)/\wpAny M A (callWith pos f first (backTo pos (starEach args aA)) []) Q E s₂) E s):
  wpAny M A (eval (.Call (.Attribute o name apos) args [] pos) aA) Q E s:=by
 simp only[arm_eval_Call,nK];refine bp (wpAny_mono h (λov s₁ h₁=>?_) λu_ u_ e=>e);obtain⟨f,first,s₂,hg,hc⟩:=h₁;refine bp (wpAny_standAt ?_);have Wf:methodCallForm (args.length+([]:List Keyword).length) (backTo pos (starEach args aA)) (backToKw pos (keywordEach [] aA))=true:=wI;have Se:methodCallPos true o aA apos pos=pure pos:=by unfold methodCallPos;simp[nM]
 dsimp only[methodCall];refine Wf▸?_;refine bp (wpAny_holding (hg ?_));exact bp (wpAny_of_eq Se hc)
theorem Lk(K:cZ c)(O:eO c){M:Nat->Nat->Option Nat}(MO:Ar c M)(hC:xT c n C)(hK:Ue c C){vo:aD.Env->MH->PQ->PE->Prop}{va:aD.Env->MH->(List MV->MH->Prop)->PE->Prop}
 (ho:aH c FL fm hd n vo (eval o fm.aA)) (ha:Em c FL fm hd n va (spliced (backTo pos (starEach args fm.aA))))
 (nK:attributeBase o (br k) fm.aA (eval o fm.aA)=eval o fm.aA) (wI:((backTo pos (starEach args fm.aA)).all (λx=>!x.1)&&(backToKw pos (keywordEach [] fm.aA)).all (λx=>x.1.isSome)
 &&decide (args.length+([]:List Keyword).length+(if([]:List Keyword).isEmpty then 0 else 1)<30))=true) (nM:(apos.endLine==pos.line)=true) (pl:(backTo pos (starEach args fm.aA)).any (·.1)=false):
  aH c FL fm hd n (λaA H Q E=>vo aA H (λov H1=>match ov with
   | .ref r=>(match H1[r]? with
    |some (.aK cl aP)=>(match bW aP k,M cl k with
     | .none,some f=>va aA H1 (λvs H2=>C f (.ref r::vs) hd H2 Q E) E
     |_,_=>False)
    |_=>False)
   |_=>False) E) (eval (.Call (.Attribute o (br k) apos) args [] pos) fm.aA):=by
 intro A ev ρ H s Q E Q' E' a h X lo kQ kE;refine pn nK wI nM (ho A ev ρ H s _ E _ E' a h X lo (λov H1 ρ1 s1 GL q X1 g1 r1=>?_) kE);exact WQ (P:=λov=>VR ρ1 s1.heap ov GL->∃f first s₂,(∀{pl:Sem Bool} {Q:Value×List Value->Shared->Prop},Q (f,first) s₂->wpAny (model c.prog c.w) A (getMethod GL (br k) pl) Q E' s1)/\wpAny (model c.prog c.w) A (callWith pos f first (backTo pos (starEach args fm.aA)) []) Q' E' s₂) q (λr q r1=>
  SN q λC1 aP hb q=>aay q λf eg em q=>X1.iv r1 hb (P:=λGL=>∃f first s₂,(∀{pl:Sem Bool} {Q:Value×List Value->Shared->Prop},Q (f,first) s₂->wpAny (model c.prog c.w) A (getMethod GL (br k) pl) Q E' s1)/\wpAny (model c.prog c.w) A (callWith pos f first (backTo pos (starEach args fm.aA)) []) Q' E' s₂)
   λp o2 mA ei I=>(Ns1.mh I.hN).elim λod e2=>by
   have m:=MO.fn C1 k f I.hI em;have ck:=O.aK C1 I.hI;have no:mA (br k)=none:=Classical.byContradiction λq=>(I.hx (br k) q).elim λj z=>by
    have e4:=z.2.2;simp only[<-O.inj k j m.2.2 z.1 z.2.1,eg]at e4;injection e4
   have hs:shadowIn (some od) (br k)=some false:=by
    unfold shadowIn;dsimp only;rw[mJ I.hN e2 (br k),no];rfl
   refine⟨.ref f,[.ref p.1],s1,λq=>method_fn (X1.u7 K) (I.at e2) ck.ga ck.R8 m.1 m.2.1 hs q,?_⟩;refine callWith_of (P:=λh=>c.K.In h/\keepIn c.K (.ref f)=true) (by rw[pl];rfl) (λh z=>keeps_K z.2 h z.1) (dm pl ?_);refine ha A ev ρ1 H1 s1 _ E _ E' (a.b8 g1.b8) q X1 (lo.go g1 X.bD.nb) (λvs H2 ρ2 s2 jo q2 X2 g2 r2=>?_) (kE.go g1);have g:=g1.trans g2;exact⟨⟨X2.u7 K,hK _ _ _ _ _ _ q2⟩,wpAny_call (hC A FL hd ρ2 H2 s2 f _ _ Q E Q' E' (a.b8 g.b8) q2 X2 (.cons ((VR.ref ei).bt g2.b8 g2.keep X1.bD.nb.nt) r2) (kQ.go g) (kE.go g))⟩) r1
end
structure Aq(c:Cx)(M:Nat->Nat->Option Nat):Prop where
 f:∀f,M 501 0=some f->findCls c.K (.ref 501) (.type "type") (br 0)=some (.val (.ref f))
 ga:specialIn c.K (.ref 501) "__getattribute__" =some (some (.builtin "type.__getattribute__"))
 Xb:readsIn c.K 501 (.type "type")=true
theorem IB:typeOf (.type "Exception")=pure (.type "type"):=by kernel_rfl
theorem Iz:Manifest.isStub "Exception" =false:=by decide+kernel
theorem ub:findCls [] (.type "Exception") (.type "type") "__init__" =some (.val (.builtin "Exception.__init__")):=by kernel_rfl
theorem VS:bootBuiltins "Exception" =some (.type "Exception"):=by kernel_rfl
section
variable {c:Cx} {FL:List bO} {fm:Fm} {hd:Option Nat} {n:Nat}
theorem Gm(F:c7 fm)(K:cZ c)(O:eO c){M:Nat->Nat->Option Nat}(HO:Aq c M)(hC:xT c n C)(hK:Ue c C){va:aD.Env->MH->(List MV->MH->Prop)->PE->Prop}
 (hy:Pj c fm y 501) (ha:Em c FL fm hd n va (spliced (backTo pos (starEach args fm.aA))))
 (nK:attributeBase (.Name y p) (br 0) fm.aA (eval (.Name y p) fm.aA)=eval (.Name y p) fm.aA) (wI:((backTo pos (starEach args fm.aA)).all (λx=>!x.1)&&(backToKw pos (keywordEach [] fm.aA)).all (λx=>x.1.isSome)
 &&decide (args.length+([]:List Keyword).length+(if([]:List Keyword).isEmpty then 0 else 1)<30))=true) (nM:(apos.endLine==pos.line)=true) (pl:(backTo pos (starEach args fm.aA)).any (·.1)=false):
  aH c FL fm hd n (λaA H Q E=>match M 501 0 with
   |some f=>va aA H (λvs H2=>C f vs hd H2 Q E) E
   | .none=>False) (eval (.Call (.Attribute (.Name y p) (br 0) apos) args [] pos) fm.aA):=by
 intro A ev ρ H s Q E Q' E' a h X lo kQ kE;exact mtN h λf em h=>by
  refine pn nK wI nM (hy.load F K X.c6 ⟨.ref f,[],{s with toks:=s.toks+1},λq=>method_cls (X.u7 K) HO.ga (cls_value (X.u7 K) HO.Xb (HO.f f em) rfl q),?_⟩);refine callWith_of (P:=λh=>c.K.In h/\keepIn c.K (.ref f)=true) (by rw[pl];rfl) (λh z=>keeps_K z.2 h z.1) (dm pl ?_);refine ha A ev ρ H {s with toks:=s.toks+1} _ E _ E' a h (X.pR (s.toks+1)) lo (λvs H2 ρ2 s2 jo q2 X2 g2 r2=>?_) kE;exact⟨⟨X2.u7 K,hK _ _ _ _ _ _ q2⟩,wpAny_call (hC A FL hd ρ2 H2 s2 f _ _ Q E Q' E' (a.b8 g2.b8) q2 X2 r2 (kQ.go g2) (kE.go g2))⟩
theorem A0{A:Around}{E:Value->Shared->Prop}{prog:Program}{w:World}{s:Shared}{pl:Sem Bool}{Q:Value×List Value->Shared->Prop}(h:Q (.builtin "Exception.__init__",[]) {s with toks:=s.toks+1}):
  wpAny (model prog w) A (getMethod (.type "Exception") "__init__" pl) Q E s:=by
 have X:W.Frag.In [] s.heap:=λa o e=>by injection e
 have Wo:opaqueClassAbove (.type "Exception")=pure none:=by unfold opaqueClassAbove;dsimp only;refine Iz▸?_;rfl
 have L0:Looks (model prog w) s.heap (typeOf (.type "Exception")) (.type "type"):=Looks.of_pure IB;have hg:findIn [] (.type "type") "__getattribute__" =some (some (.builtin "type.__getattribute__")):=type_tga;dsimp only[getMethod,specialOf];refine bp (bp (L0.here ((looks_findIn X hg).here ?_)));dsimp only;refine(ah canon_tga)▸?_;refine bp (wpAny_mono (Q:=λv=>Q (v,[])) (E:=E) ?_ (λu_ u_ z=>bq z) λu_ u_ z=>z);have LO:Looks (model prog w) s.heap (opaqueClassAbove (.type "Exception")) none:=Looks.of_pure Wo;have hh:handedIn (.builtin "Exception.__init__")=true:=by decide+kernel
 refine cls_open X LO L0 hg (looks_hook X (r:=none) (by rfl)) (by show subIn _ _ _=_;rfl) ub
  (bq (by show wpAny _ _ (handedOut _) _ _ _;rw[handedOut_of hh];exact bq h))
theorem Iw{A:Around}{E:Value->Shared->Prop}{prog:Program}{w:World}{s:Shared}{K:Frag}{x:Addr}{o:Obj}{vs:Array Value}{T:Addr}{v:Value}{Q:Value->Shared->Prop}(X:K.In s.heap)(hE:QM K 84)(hx:s.heap.get? x=some o)(hc:o.cls= .ref 84)(hd:o.data= .fields vs)(hz:0<vs.size)(h0:vs[0]? =some (.ref T))
  (h:∀h',Ex [x] s.heap h'->h'.get? x=some {o with data:=.fields (vs.setIfInBounds 0 (.ref s.heap.objs.size))}->h'.get? s.heap.objs.size=some {cls:=.type "tuple",data:=.seq [v].toArray}->Q .none {s with heap:=h'}):
  wpAny (model prog w) A (call (.builtin "Exception.__init__") [.ref x,v]) Q E s:=by
 have F:=PySem.F.excCall_Exception;refine wpAny_call ?_;refine codeAny_call_builtin F.init.plain F.initEntry ?_;obtain⟨br,q,N,bs,sn,sub,ab,col,dd,k0,k1,k2,k3,k5,hC⟩:=hE.mh;refine wpAny_check_init_sub PySem.F.excBase_Exception (X _ _ hC) hx hc ?_;unfold Builtin.«BaseException.__init__»;dsimp only;refine bp ?_;show wpAny _ _ (newTuple [v]) _ _ _;refine wpAny_newTuple ?_ (by show 1<=sizeLine;decide);have Bi:=Heap.get?_push_of_some {cls:=.type "tuple",data:=.seq [v].toArray} hx;refine bp ?_;dsimp only[BaseException.bexcPut];refine bp (wpAny_field Bi hd h0 ?_);refine bp (wpAny_setField Bi hd hz ?_);dsimp only;refine wpAny_letGo (bq ?_);have qJ:x≠s.heap.objs.size:=ne_of_lt (Heap.lt_size hx);refine h _ (λb ob hb e=>?_) ?_ ?_
 ·exact(Heap.get?_update_ne _ _ _ _ (λq=>hb (by simp[q]))).trans (Heap.get?_push_of_some _ e)
 ·obtain⟨oc,od,odt,UD⟩:=o;dsimp only at hd;subst hd;exact Heap.get?_update_self _ Bi rfl
 ·exact(Heap.get?_update_ne _ _ _ _ qJ.symm).trans (Heap.get?_push_size _ rfl)
theorem zV(F:c7 fm)(K:cZ c)(O:eO c){va:aD.Env->MH->(List MV->MH->Prop)->PE->Prop}{p apos pos:Pos}{args:List Expr}
  (hy:L6 c fm "Exception" (.type "Exception")) (ha:Em c FL fm hd n va (spliced (backTo pos (starEach args fm.aA))))
  (nK:attributeBase (.Name "Exception" p) "__init__" fm.aA (eval (.Name "Exception" p) fm.aA)=eval (.Name "Exception" p) fm.aA) (wI:((backTo pos (starEach args fm.aA)).all (λx=>!x.1)&&(backToKw pos (keywordEach [] fm.aA)).all (λx=>x.1.isSome)
   &&decide (args.length+([]:List Keyword).length+(if([]:List Keyword).isEmpty then 0 else 1)<30))=true) (nM:(apos.endLine==pos.line)=true) (pl:(backTo pos (starEach args fm.aA)).any (·.1)=false):
  aH c FL fm hd n (λaA H Q E=>va aA H (λvs H1=>match vs with
   | [.ref r,_]=>(match H1[r]? with
    |some (.aR _ _ _)=>Q .none H1
    |_=>False)
   |_=>False) E) (eval (.Call (.Attribute (.Name "Exception" p) "__init__" apos) args [] pos) fm.aA):=by
 intro A ev ρ H s Q E Q' E' a h X lo kQ kE;refine pn nK wI nM (hy.load F K X.c6 ⟨_,[],{s with toks:=s.toks+1},λq=>A0 q,?_⟩);refine callWith_builtin pl (dm pl (ha A ev ρ H {s with toks:=s.toks+1} _ E _ E' a h (X.pR (s.toks+1)) lo (λvs H2 ρ2 s2 jo q2 X2 g2 r2=>?_) kE));exact aaz (P:=λvs=>cY ρ2 s2.heap vs jo->wpAny _ _ (call (.builtin "Exception.__init__") jo) Q' E' s2) q2 (λr v q2 r2=>r2.ce (P:=λjo=>wpAny _ _ (call (.builtin "Exception.__init__") jo) Q' E' s2) λx1 l1 rx r3=>r3.ce (P:=λl1=>wpAny _ _ (call (.builtin "Exception.__init__") (x1::l1)) Q' E' s2) λx2 l2 rv r4=>r4.ne (P:=λl2=>wpAny _ _ (call (.builtin "Exception.__init__") (x1::x2::l2)) Q' E' s2)
  (WN q2 λC1 aP bb hb q2=>X2.ev rx hb (P:=λx1=>wpAny _ _ (call (.builtin "Exception.__init__") [x1,x2]) Q' E' s2) λp o vs mA ei I=>by
   have hI:=I.hI;subst hI;have hp:0<vs.size:=I.hz▸(by decide);refine I.ha.elim λT z=>Iw (X2.u7 K) O.aR I.e I.hc I.iA hp (z.elim λu_ z=>z.elim λu_ z=>z.elim λu_ z=>z.1) λh' ex Uw ht'=>?_;have RI:Ex [p.1,p.2] s2.heap h':=ex.bt λb hb=>bg hb▸.head _;have n1:∀(y:Value) (j:Nat),j≠0->(vs.setIfInBounds 0 y)[j]? =vs[j]? :=λy j hj=>Array.getElem?_setIfInBounds_ne hj.symm;have z:=X2.gC (t:=s2.toks) ei RI (λ⟨o',jo,T',e',d',v'⟩=>⟨_,_,T',Uw,rfl,(n1 _ 1 (by decide)).trans (by rw[I.e]at e';injection e' with I1;subst I1;rw[I.iA]at d';injection d' with I1;subst I1;exact v')⟩)
    (.aR rfl Uw I.hc rfl (size_setIfInBounds.trans I.hz) (I.ui.imp id λd=>⟨d.1,d.2.1,d.2.2.at λo q=>ex _ _ (λm=>d.2.1 (bg m)) q⟩) (I.hA.bt (.refl ρ2) RI.keep (iB X2 ei).nt) I.hx
     ⟨_,_,_,_,Array.getElem?_setIfInBounds_self_of_lt hp,ht',rfl,rfl⟩ ((n1 _ 1 (by decide)).symm▸I.ht.bt RI.keep (iB X2 ei).tb) λq=>(n1 _ 2 (by decide)).trans (I.hf q))
   rw[tI hb]at z;exact kQ _ _ _ _ _ q2 z.1 (g2.trans z.2) .none)) r2
end
section
variable {c:Cx} {FL:List bO} {fm:Fm} {hd:Option Nat} {n:Nat}
theorem St.um{ρ H}(X:St c FL ρ H s)(k:fA [] s.heap h')(eq:∀b o,s.heap.get? b=some o->h'.get? b=some o\/(b∉bV ρ/\c.bQ.get? b=none)):
  St c FL ρ H {s with heap:=h',toks:=t}/\Go ρ s.heap ρ h':=
 have st:∀{b o},b∈bV ρ->s.heap.get? b=some o->h'.get? b=some o:=λm e=>(eq _ _ e).elim id λq=>a9 m q.1
 ⟨⟨λb o e=>(eq b o (X.c6 b o e)).elim id λq=>((by injection(q.2.symm.trans e))),dG k (λb u_=>not_mem_nil) X.frames,X.apart,⟨X.bD.len,X.bD.apart,X.bD.fresh,X.bD.rh,λi p o hi ho=>have m:=aO hi;(X.bD.mh i p o hi ho).bt (.refl ρ) k (λu_ hb=>a9 hb not_mem_nil) (λo e=>st m.1 e) λo e=>st m.2 e⟩,X.gens,X.drawn,X.os,X.rh⟩,
  .refl ρ,λu_ hb=>.inl hb,k.bt (λu_ hb=>a9 hb not_mem_nil),λi p e t=>t.at λo eo=>st (aO e).1 eo⟩
theorem St.step{ρ H}{s:Shared}(X:St c FL ρ H s){i:Nat}{p:Addr×Addr}{o':MO}(hi:ρ[i]? =some p)(ho:H[i]? =some o'){h':Heap}{t:Nat}(k:fA [p.1] s.heap h')
  (eq:∀b o,b≠p.1->s.heap.get? b=some o->h'.get? b=some o\/(b∉bV ρ/\c.bQ.get? b=none)) (Wq:di s.heap p.1->di h' p.1) (r:OR c.prog c.w c.so ρ h' p o'):St c FL ρ H {s with heap:=h',toks:=t}/\Go ρ s.heap ρ h':=by
 have m:=aO hi;have sub:∀b∈[p.1],b∈bV ρ:=λb hb=>bg hb▸m.1;have st:∀{b o},b≠p.1->b∈bV ρ->s.heap.get? b=some o->h'.get? b=some o:=λn m e=>(eq _ _ n e).elim id λq=>a9 m q.1;refine⟨⟨λb o e=>(eq b o (λq=>((by injection((q▸X.bD.fresh _ m.1).symm.trans e)))) (X.c6 b o e)).elim id λq=>((by injection(q.2.symm.trans e))),dG k (λb hb z=>X.apart b hb (sub b z)) X.frames,X.apart,⟨X.bD.len,X.bD.apart,X.bD.fresh,X.bD.rh,λj q o hj wK=>?_⟩,X.gens,X.drawn,X.os,X.rh⟩,.refl ρ,λu_ hb=>.inl hb,k.bt sub,λj a e t=>?_⟩
 ·by_cases qr:j=i
  ·subst qr;exact inj (hi.symm.trans hj)▸inj (ho.symm.trans wK)▸r
  ·have z:=X.bD.apart j i q p hj hi qr;have m2:=aO hj;exact(X.bD.mh j q o hj wK).bt (.refl ρ) k (λb hb=>X.bD.nb b (sub b hb)) (λo e=>st z.1 m2.1 e) λo e=>st z.2.2.1 m2.2 e
 ·by_cases qr:j=i
  ·subst qr;exact inj (hi.symm.trans e)▸Wq (inj (e.symm.trans hi)▸t)
  ·exact t.at λo eo=>st (X.bD.apart j i a p e hi qr).1 (aO e).1 eo
theorem St.tb{ρ H}(X:St c FL ρ H s)(hb:c.bQ.get? T=none)(hT:s.heap.get? T=some oT)(hc:oT.cls= .type "traceback")(hd:oT.data= .fields ts)(j:Nat)(v:Value)(t:Nat):
  St c FL ρ H {s with heap:=s.heap.update T (Obj.mapFields (·.setIfInBounds j v)),toks:=t}/\Go ρ s.heap ρ (s.heap.update T (Obj.mapFields (·.setIfInBounds j v))):=by
 have nT:T∉bV ρ:=λq=>(X.bD.nb T q oT hT).2 ts hd hc;have ot:∀{b o},b≠T->s.heap.get? b=some o->(s.heap.update T (Obj.mapFields (·.setIfInBounds j v))).get? b=some o:=λn e=>(Heap.get?_update_other _ _ (Ne.symm n)).trans e;refine X.um (λb o u_ e=>?_) λb o e=>?_
 ·by_cases q:b=T
  ·subst q;injection(hT.symm.trans e)with I1;subst I1;obtain⟨oc,odi,oda,UD⟩:=oT;subst hd;exact⟨_,Heap.get?_update_self (Obj.mapFields (·.setIfInBounds j v)) hT rfl,rfl,rfl,λh=>a9 rfl (h hc ts),λu_ vs e=>⟨_,rfl,Data.fields.inj e▸size_setIfInBounds⟩,λu_ u_=>rfl⟩
  ·exact⟨o,ot q e,.refl o⟩
 ·by_cases q:b=T
  ·exact .inr (q▸⟨nT,hb⟩)
  ·exact .inl (ot q e)
theorem A7(h:aA.frame=mz.frame):PySem.frameOf aA=PySem.frameOf mz:=by unfold PySem.frameOf;rw[h]
noncomputable def oU(head:Value)(L:Addr)(pl:List Value):Obj:={cls:=.type "traceback",dict:=none,data:=.fields ([head,.ref L,.none,rawInt L,.none]++(if pl.isEmpty then replicate 6 Value.none else pl)).toArray}
theorem KU{vs:Array Value}{y:Value}{j k:Nat}(h:j≠k):(vs.setIfInBounds k y)[j]? =vs[j]? :=Array.getElem?_setIfInBounds_ne h.symm
theorem ym(K:cZ c){A:Around}{aA mz:bO}{outer:List bO}{L:Addr}(Nx:FL=mz::outer)(hA:A.frames=some FL)(h0:mz.frame=some L)(hf:aA.frame=some L){ρ H}{s:Shared}{i:Nat}{p:Addr×Addr}{k:Nat}{aP:List (Nat×MV)}{x:Bool}{o vs mA}
  (X:St c FL ρ H s) (hi:ρ[i]? =some p) (ho:H[i]? =some (.aR k aP x)) (I:ER c.so ρ s.heap p k aP x o vs mA) {head:Value} {b:Bool} {Q:Unit->Shared->Prop} {E} (q:∀s1,St c FL ρ H s1->Go ρ s.heap ρ s1.heap->di s1.heap p.1->Q () s1):
  wpAny (model c.prog c.w) A (do setField (.ref p.1) 1 (<-EntryCells.newEntry head (<-PySem.frameOf aA) .none (rawInt L) .none (<-entryPlaceOf L b))) Q E s:=by
 have m:=aO hi;refine(A7 (hf.trans h0.symm))▸?_;refine bp (wpAny_frameOf_fun (hA.trans (af some Nx)) (Nx▸X.frames) h0 λh1 so=>?_);refine bp (wpAny_entryPlaceOf λpl hpl=>?_);delta EntryCells.newEntry newFields;refine bp (wpAny_newObj_type ?_ (hpl.sizeOk5 _ _ _ _ _));have nf:∀b∈bV ρ,b∉(mz::outer).filterMap (·.frame):=λb hb z=>X.apart _ (Nx▸z) hb;have e1:h1.get? p.1=some o:=(so.2.1 p.1 (nf _ m.1)).trans I.e;have qJ:p.1≠h1.objs.size:=ne_of_lt (Heap.lt_size e1);have e2:(h1.push (oU head L pl)).get? p.1=some o:=Heap.get?_push_of_some _ e1;have hz:1<vs.size:=I.hz▸(by decide);refine wpAny_setField e2 I.iA hz ?_;have Uv:(h1.push (oU head L pl)).get? h1.objs.size=some (oU head L pl):=Heap.get?_push_size h1 rfl;have old:∀b o,h1.get? b=some o->(h1.push (oU head L pl)).get? b=some o:=λb o z=>Heap.get?_push_of_some _ z;show Q () {s with heap:=(h1.push (oU head L pl)).update p.1 (Obj.mapFields (·.setIfInBounds 1 (.ref h1.objs.size)))};generalize h1.push (oU head L pl)=h2 at e2 Uv old;have ot:∀b,b≠p.1->(h2.update p.1 (Obj.mapFields (·.setIfInBounds 1 (.ref h1.objs.size)))).get? b=h2.get? b:=λb hb=>Heap.get?_update_other _ _ (Ne.symm hb);have self:(h2.update p.1 (Obj.mapFields (·.setIfInBounds 1 (.ref h1.objs.size)))).get? p.1=some {o with data:=.fields (vs.setIfInBounds 1 (.ref h1.objs.size))}:=by
  have iA:=I.iA;obtain⟨oc,odi,oda,UD⟩:=o;subst iA;exact Heap.get?_update_self _ e2 rfl
 generalize h2.update p.1 (Obj.mapFields (·.setIfInBounds 1 (.ref h1.objs.size)))=h3 at ot self;have keep:∀b ob,b≠p.1->b∉(mz::outer).filterMap (·.frame)->s.heap.get? b=some ob->h3.get? b=some ob:=λb ob hb z eb=>(ot b hb).trans (old _ _ ((so.2.1 b z).trans eb));have tbn:c.bQ.get? h1.objs.size=none:=dq X.c6 (Heap.get?_none_of_le (le_of_eq so.1.symm));have kp:fA [p.1] s.heap h3:=λb ob hb eb=>by
  have hb:=λq:b=p.1=>hb (q▸.head _);by_cases z:b∈(mz::outer).filterMap (·.frame)
  ·exact(so.2.2 b ob eb).elim λsl es=>⟨_,(ot b hb).trans (old _ _ es),LQ.slots ob sl ((X.frames.mem (Nx▸z)).2.elim λo2 y=>inj (y.1.symm.trans eb)▸y.2)⟩
  ·exact⟨ob,keep b ob hb z eb,.refl ob⟩
 have nb1:NB [p.1] s.heap:=λb hb=>X.bD.nb b (bg hb▸m.1);have v1:(vs.setIfInBounds 1 (.ref h1.objs.size))[1]? =some (.ref h1.objs.size):=Array.getElem?_setIfInBounds_self_of_lt hz;have tb3:di h3 p.1:=⟨_,_,h1.objs.size,self,rfl,v1⟩
 have z:=X.step (t:=s.toks) hi ho kp (λb ob hb eb=>by
  by_cases z:b∈(mz::outer).filterMap (·.frame)
  ·exact .inr ⟨X.apart b (Nx▸z),(X.frames.mem (Nx▸z)).1⟩
  ·exact .inl (keep b ob hb z eb)) (λu_=>tb3) (.aR I.hI self I.hc rfl (size_setIfInBounds.trans I.hz)
   (I.ui.imp id λd=>⟨d.1,d.2.1,d.2.2.at λob eb=>keep p.2 ob d.2.1 (nf _ m.2) eb⟩) (I.hA.bt (.refl ρ) kp nb1.nt) I.hx
   (I.ha.elim λT z=>z.elim λoT z=>z.elim λtss z=>z.elim λmm z=>(kp.get (λq=>(nb1 _ q _ z.2.1).1 _ _ z.2.2.2 z.2.2.1) z.2.1 (by rw[z.2.2.1];decide)).elim λS2 y=>⟨T,S2,tss,mm,(KU (by decide)).trans z.1,y.1,y.2.1.trans z.2.2.1,y.2.2.2.trans z.2.2.2⟩)
   (K.so▸⟨.inr ⟨h1.objs.size,_,_,v1,tbn,(ot _ qJ.symm).trans Uv,rfl,rfl,lt_of_lt_of_le (by decide:3<5) (by show 5<=(toArray _).size;rw[List.size_toArray,ak];exact le_add_right _ _)⟩⟩)
   λz=>(KU (by decide)).trans (I.hf z))
 exact q _ z.1 z.2 tb3
theorem DB(K:cZ c){A:Around}{aA mz:bO}{outer:List bO}{L:Addr}(Nx:FL=mz::outer)(hA:A.frames=some FL)(h0:mz.frame=some L)(hf:aA.frame=some L){ρ H}{s:Shared}{i:Nat}{p:Addr×Addr}{k:Nat}{aP:List (Nat×MV)}{x:Bool}
  (X:St c FL ρ H s) (hi:ρ[i]? =some p) (ho:H[i]? =some (.aR k aP x)) {Q:Unit->Shared->Prop} {E} (q:∀s1,St c FL ρ H s1->Go ρ s.heap ρ s1.heap->di s1.heap p.1->Q () s1):
  wpAny (model c.prog c.w) A (noteFrame (.ref p.1) aA) Q E s:=by
 dsimp only[noteFrame];rw[hf];refine X.jx hi ho λo vs mA I=>I.ht.ok.elim (λh1=>bp (wpAny_field I.e I.iA h1 ?_)) λ⟨T,oT,ts,h1,hb,hT,V4,Um,Yw⟩=>bp (wpAny_field I.e I.iA h1 ?_)
 ·rw[ag (by decide)];exact ym K Nx hA h0 hf X hi ho I q
 ·rw[K.so]at hb;rw[ah (show(Value.ref T !=Value.none)=true from by simp)];refine bp (wpAny_field hT Um (x:=ts[3]) (Array.getElem?_eq_getElem Yw) ?_);split
  ·exact bq (q s X (.refl _ _) ⟨o,vs,T,I.e,I.iA,h1⟩)
  ·have z:=X.tb hb hT V4 Um 3 .none s.toks;exact bp (wpAny_setField hT Um Yw (z.1.jx hi ho λo vs mA I=>ym K Nx hA h0 hf z.1 hi ho I λs1 X2 g2 hh=>q s1 X2 (z.2.trans g2) hh))
theorem dD(K:cZ c){A:Around}{fr:Option Addr}{ρ H}{s:Shared}{i:Nat}{p:Addr×Addr}{k:Nat}{aP:List (Nat×MV)}{x:Bool}
  (X:St c FL ρ H s) (hi:ρ[i]? =some p) (ho:H[i]? =some (.aR k aP x)) {Q:Unit->Shared->Prop} {E} (q:∀s1,St c FL ρ H s1->Go ρ s.heap ρ s1.heap->(di s.heap p.1->di s1.heap p.1)->Q () s1):
  wpAny (model c.prog c.w) A (setFlight (.ref p.1) fr) Q E s:=by
 unfold setFlight;refine X.jx hi ho λo vs mA I=>I.ht.ok.elim (λh1=>bp (wpAny_field I.e I.iA h1 ?_)) λ⟨T,oT,ts,h1,hb,hT,V4,Um,Yw⟩=>bp (wpAny_field I.e I.iA h1 ?_)
 ·rw[ag (by decide)];exact bq (q s X (.refl _ _) id)
 ·rw[K.so]at hb;rw[ah (show(Value.ref T !=Value.none)=true from by simp)];have z:=X.tb hb hT V4 Um 3 (fr.elim .none λf=>rawInt f) s.toks;exact wpAny_setField hT Um Yw (q _ z.1 z.2 λu_=>⟨o,vs,T,(Heap.get?_update_other _ _ λz=>by
   rw[z,I.e]at hT;injection hT with I1;subst I1
   rw[I.hc]at V4;injection V4).trans I.e,I.iA,h1⟩)
end
noncomputable def rG(fm:Fm):List Addr:=fm.aA.locals::fm.aA.cells.map (·.2)
structure j9(fm:Fm)(ρ:eP)(h:Heap)(ρ1:eP)(h1:Heap):Prop where
 b8:qQ ρ ρ1
 new:∀b∈bV ρ1,b∈bV ρ\/h.get? b=none
 keep:fA (rG fm++bV ρ) h h1
 tb:∀(i:Nat) (p:Addr×Addr),ρ[i]? =some p->di h p.1->di h1 p.1
theorem j9.refl(fm ρ h):j9 fm ρ h ρ h:=⟨.refl ρ,λu_ hb=>.inl hb,.refl _ _,λu_ u_ u_ x=>x⟩
theorem Go.f{fm ρ h ρ1 h1}(g:Go ρ h ρ1 h1):j9 fm ρ h ρ1 h1:=⟨g.b8,g.new,g.keep.bt λb hb=>mem_append_right _ hb,g.tb⟩
theorem j9.trans{fm ρ h ρ1 h1 ρ2 h2}(x:j9 fm ρ h ρ1 h1)(y:j9 fm ρ1 h1 ρ2 h2)(om:∀b o,b∈rG fm->h.get? b=some o->∃o',h1.get? b=some o'):j9 fm ρ h ρ2 h2:=by
 refine⟨x.b8.trans y.b8,λb hb=>(y.new b hb).elim (x.new b) λq=>?_,λb o hb e=>?_,λi p e t=>(x.b8 i p e).elim λq e1=>y.tb i (p.1,q) e1 (x.tb i p e t)⟩
 ·cases e:h.get? b with
  |none=>exact .inr rfl
  |some o=>
   by_cases qI:b∈rG fm++bV ρ
   ·exact(mem_append.mp qI).elim (λz=>(om b o z e).elim λo' e'=>(by injection(q.symm.trans e'))) .inl
   ·exact(x.keep b o qI e).elim λo' z=>(by injection(q.symm.trans z.1))
 ·exact(x.keep b o hb e).elim λo1 z=>(y.keep b o1 (λq=>(mem_append.mp q).elim (λq=>hb (bf q)) λq=>(x.new b q).elim (λq=>hb (mem_append_right _ q)) λq=>(by injection(q.symm.trans e))) z.1).elim λo2 w=>⟨o2,w.1,z.2.trans w.2⟩
def Ye(h:Heap)(b:Addr):Prop:=∃o,h.get? b=some o/\∀vs,o.data≠.fields vs
theorem zp{m:Str->Option Value}(x:h.Ns a m):Ye h a:=x.elim λo z=>z.elim λu_ z=>z.elim λu_ z=>⟨o,z.1,iC x z.1⟩
theorem CJ(x:h.IsCell a v):Ye h a:=x.elim λo z=>⟨o,z.1,λvs q=>(by injection(z.2.symm.trans q))⟩
theorem fE.om(l:fE fm ev ρ h):∀b∈fm.aA.locals::(fm.aA.cells.map (·.2)),(∀n a,(n,a)∈fm.aA.cells->fm.aA.cells.lookup n=some a)->Ye h b:=λb hb hu=>
 l.ex.elim λm z=>z.elim λcm z=>(mem_cons.mp hb).elim (λe=>e▸zp z.1) λhb=>(mem_map.mp hb).elim λp q=>q.2▸CJ (z.2.1 p.1 p.2 (hu p.1 p.2 q.1))
inductive L7(ρ:eP)(h:Heap):Fl->Flow->Prop
 |next:L7 ρ h .next .next
 |brk:L7 ρ h .brk .brk
 |cont:L7 ρ h .cont .cont
 |ret {v x}:VR ρ h v x->L7 ρ h (.ret v) (.ret x)
theorem A9(k:Heap.SameBut a h h')(ha:Ye h' a):h.FunFrames bQ l->h'.FunFrames bQ l:=by
 induction l with
 |nil=>exact id
 |cons aA r ih=>
  intro z;refine⟨z.1,z.2.1.elim λL z=>z.elim λo z=>?_,ih z.2.2⟩;by_cases q:L=a
  ·exact ha.elim λo' e=>⟨L,o',z.1,z.2.1,q▸e.1,e.2⟩
  ·exact⟨L,o,z.1,z.2.1,(k.2 L q).trans z.2.2.1,z.2.2.2⟩
theorem lZ{α:Type}{p:α->Bool}:∀(l:List α) (i:Nat),(∀x,l[i]? =some x->p x=false)->(l.eraseIdx i).find? p=l.find? p
 | [],_,_=>rfl
 |x::l,0,h=>by
  have:=h x rfl;simp[this]
 |x::l,i+1,h=>by
  have ih:=lZ l i λy hy=>h y (by exact hy);dsimp only[List.eraseIdx_cons_succ,List.find?_cons];cases p x<;>trivial
theorem JK{E:Value->Shared->Prop}{m:Str->Option Value}{Q:Bool->Shared->Prop}(hn:s.heap.Ns a m)
 (hQ:∀h' m',h'.Ns a m'->(∀y,y≠name->m' y=m y)->Heap.SameBut a s.heap h'->Q (m name).isSome {s with heap:=h'}):wpAny M A (nsDel a name) Q E s:=by
 obtain⟨o,es,ep,ho,hd,hk,hm⟩:=id hn;have NA:es.any (·.refKey)=false:=by
  rw[Array.any_eq_false'];intro e he;obtain⟨n,t,h⟩:=hk e he;simp[DictEntry.refKey,h]
 have Wn:(m name).isSome=es.any (·.key.isStr name):=by
  refine(hm name)▸?_;simp only[nsFind,findBy,Option.isSome_map];rw[Bool.eq_iff_iff];rw[Array.find?_isSome,Array.any_eq_true];constructor
  ·rintro⟨x,hx,hp⟩;obtain⟨i,hi,rfl⟩:=Array.mem_iff_getElem.mp hx;exact⟨i,hi,hp⟩
  ·rintro⟨i,hi,hp⟩;exact⟨_,Array.getElem_mem hi,hp⟩
 have Z2:nsHas name o=pure (es.any (·.key.isStr name)):=by
  rw[nsHas_eq];unfold nsHasByArray;rw[hd];show(if(es.any λx=>x.key.isStr name)=true then _ else _)=_;generalize (es.any λx=>x.key.isStr name)=b;cases b<;>simp[NA]
 unfold nsDel;refine bp (wpAny_loadPart ho ?_);rw[Z2];refine bp (bq ?_);refine Wn▸?_;cases C6:(m name).isSome
 ·have:=hQ s.heap m hn (λu_ u_=>rfl) (.refl ..);rw[C6]at this;exact bq this
 ·refine bp (wpAny_updatePart ho (bq ?_));have key:∃m',(s.heap.update a (Obj.dropName name)).Ns a m'/\∀y,y≠name->m' y=m y:=by
   obtain⟨cl,d,dt,sl⟩:=o;subst hd;cases hi:es.findIdx? (·.key.isStr name)with
   |some i=>
    refine⟨_,⟨_,_,ep+1,Heap.get?_update_self _ ho (by simp only[Obj.dropName_eq,Obj.dropNameByArray,hi]<;>rfl),(by simp only[Obj.dropName_eq,Obj.dropNameByArray,hi]<;>rfl),hk.erase i,λu_=>rfl⟩,λy hy=>?_⟩;simp only[<-hm y];obtain⟨l⟩:=es;simp only[nsFind,findBy,List.eraseIdxIfInBounds_toArray,List.find?_toArray,List.findIdx?_toArray]at hi⊢;rw[lZ];intro x hx;obtain⟨NG,hp,_⟩:=List.findIdx?_eq_some_iff_getElem.mp hi;rw[getElem?_eq_getElem NG]at hx;injection hx with I1;subst I1
    cases e:(l[i].key.isStr y)with
    |false=>rfl
    |true=>exact a9 (Value.isStr_inj _ _ _ e hp) hy
   |none=>exact⟨_,⟨_,_,ep,Heap.get?_update_self _ ho (by simp only[Obj.dropName_eq,Obj.dropNameByArray,hi]<;>rfl),(by simp only[Obj.dropName_eq,Obj.dropNameByArray,hi]<;>rfl),hk,λu_=>rfl⟩,λy u_=>hm y⟩
  obtain⟨m',R7,hy⟩:=key;have:=hQ _ m' R7 hy (Heap.SameBut.update ..);simp only[C6]at this;exact this
section
variable {c:Cx} {FL:List bO} {fm:Fm} {hd:Option Nat} {n:Nat}
theorem mK(h0:∃o,h.get? a=some o/\∀vs,o.data≠.fields vs/\∀ws n,o.data≠.seq ws n):NB [a] h:=λb qI o e=>h0.elim λo2 z=>by
 rw[bg qI,z.1]at e;injection e with I1;subst I1
 exact⟨λws n q=>a9 q ((z.2 #[]).2 ws n),λvs q=>a9 q (z.2 vs).1⟩
theorem St.m5{ρ H ev}(F:c7 fm)(X:St c FL ρ H s)(l:fE fm ev ρ s.heap)(ha:a∈rG fm)(hna:a∉bV ρ)(hb:c.bQ.get? a=none)(t:Nat)(k:Heap.SameBut a s.heap h')(h0:∃o,s.heap.get? a=some o/\∀vs,o.data≠.fields vs/\∀ws n,o.data≠.seq ws n)(h1:∃o,h'.get? a=some o/\∀vs,o.data≠.fields vs):
  St c FL ρ H {s with heap:=h',toks:=t}/\j9 fm ρ s.heap ρ h':=
 have ex:=Ex.cP k
 ⟨X.free ex (λb qI=>bg qI▸hb) (λb qI=>bg qI▸hna) (mK h0) (A9 k h1 X.frames),.refl ρ,λu_ q=>.inl q,ex.keep.bt λb qI=>bg qI▸bf ha,
  λi p e t=>t.at λo eo=>ex _ o (λz=>hna (bg z▸(aO e).1)) eo⟩
structure cD(c:Cx)(fm:Fm):Prop where
 bQ:∀a∈rG fm,c.bQ.get? a=none
 O9:∀n a,(n,a)∈fm.aA.cells->fm.aA.cells.lookup n=some a
 N5:∀(i:Nat) (x:Str),fm.ns[i]? =some x->(x==("__classdict__" :Str))=false
theorem sM(F:c7 fm):(fm.aA.scope.kind== .class||(fm.aA.scope.kind== .module&&fm.aA.locals !=fm.aA.globals))=false:=by rw[F.kind];rfl
theorem dK{α β:Type}[BEq α][LawfulBEq α]{l:List (α×β)}{n:α}{a:β}(h:l.lookup n=some a):(n,a)∈l:=by
 induction l with
 |nil=>injection h
 |cons p r ih=>
  have h:(match n==p.1 with|true=>some p.2|false=>r.lookup n)=some a:=h;cases q:n==p.1 with
  |true=>rw[q]at h;injection h with I1;subst I1;rw[beq_iff_eq.mp q];exact .head _
  |false=>rw[q]at h;exact .tail _ (ih h)
def GU(fm:Fm)(ev:aD.Env)(ρ:eP)(h:Heap)(m cm:Str->Option Value):Prop:=∀(i:Nat) (x:Str),fm.ns[i]? =some x->(fm.aA.kindOf x=some .local->oz ρ h (dp ev i) (m x))/\(fm.aA.kindOf x=some .cell\/fm.aA.kindOf x=some .free->(∃a,fm.aA.cells.lookup x=some a)/\oz ρ h (dp ev i) (cm x))
theorem zq(F:c7 fm){i j:Nat}{x y:Str}(hi:fm.ns[i]? =some x)(hj:fm.ns[j]? =some y)(qr:j≠i):y≠x:=λe=>by
 have a:=bo hj;have b:=bo hi;exact a.elim λa1 b1=>b.elim λa2 b2=>(Nat.lt_or_gt_of_ne qr).elim (λz=>List.pairwise_iff_getElem.mp F.nodup j i a1 a2 z (b1.trans (e.trans b2.symm))) λz=>List.pairwise_iff_getElem.mp F.nodup i j a2 a1 z (b2.trans (e.symm.trans b1.symm))
theorem GU.set(F:c7 fm){ev:aD.Env}{ρ:eP}{h h':Heap}{S:List Addr}{m cm m' Zm:Str->Option Value}{i:Nat}{x:Str}{v:Option MV}(hv:GU fm ev ρ h m cm)(hi:fm.ns[i]? =some x)(hlen:i<ev.length)(kp:fA S h h')(nt:NT S h)
  (hm:∀y,y≠x->m' y=m y) (hcm:∀y,y≠x->Zm y=cm y) (k1:fm.aA.kindOf x=some .local->oz ρ h' v (m' x)) (k2:fm.aA.kindOf x=some .cell\/fm.aA.kindOf x=some .free->(∃a,fm.aA.cells.lookup x=some a)/\oz ρ h' v (Zm x)):GU fm (bN ev i v) ρ h' m' Zm:=λj y hj=>by
 rw[gS];by_cases qr:i=j
 ·rw[ah ⟨qr,hlen⟩];subst qr;injection(hi.symm.trans hj)with I1;subst I1;exact⟨k1,k2⟩
 ·rw[ag (λz=>qr z.1)];have qJ:=zq F hi hj (Ne.symm qr);exact⟨λz=>hm y qJ▸((hv j y hj).1 z).bt (.refl ρ) kp nt,λz=>⟨((hv j y hj).2 z).1,hcm y qJ▸((hv j y hj).2 z).2.bt (.refl ρ) kp nt⟩⟩
theorem pN{A:Around}{E}{ρ H ev}{s:Shared}{i:Nat}{x:Str}{v:MV}{v':Value}{Q:Unit->Shared->Prop}(F:c7 fm)(OO:cD c fm)(X:St c FL ρ H s)(l:fE fm ev ρ s.heap)(hi:fm.ns[i]? =some x)(hk:fm.aA.kindOf x=some .local\/fm.aA.kindOf x=some .cell)(rv:VR ρ s.heap v v')
  (q:∀s1,St c FL ρ H s1->fE fm (bN ev i (some v)) ρ s1.heap->j9 fm ρ s.heap ρ s1.heap->Q () s1):wpAny (model c.prog c.w) A (storeName fm.aA x v') Q E s:=by
 have hlen:i<ev.length:=lt_of_lt_of_le (bo hi).1 l.len;have PW:fm.ns.length<=(bN ev i (some v)).length:=(gc ..).symm▸l.len;have up:∀(f:Str->Option Value) {h'},VR ρ h' v v'->oz ρ h' (some v) (if x=x then some v' else f x):=λf h' r=>(ah rfl:(if x=x then some v' else f x)=some v').symm▸.some r;refine l.ex.elim λm z=>z.elim λcm z=>?_;have hN:=z.1;have hC:=z.2.1;have hv:GU fm ev ρ s.heap m cm:=z.2.2;refine hk.elim (λhk=>?_) λhk=>((hv i x hi).2 (.inl hk)).1.elim λa ea=>?_
 ·refine wpAny_storeName_local hk hN (λh' hN' hs=>?_) (sM F);have h0:∃o,s.heap.get? fm.aA.locals=some o/\∀vs,o.data≠.fields vs/\∀ws n,o.data≠.seq ws n:=hN.elim λo z=>z.elim λu_ z=>z.elim λu_ z=>⟨o,z.1,λvs=>⟨iC hN z.1 vs,λws n q=>(by injection(z.2.1.symm.trans q))⟩⟩
  have w:=X.m5 F l (a:=fm.aA.locals) (.head _) l.m5 (OO.bQ _ (.head _)) (s.toks+1) hs h0 (zp hN');exact q _ w.1 ⟨⟨_,cm,hN',λn a e=>(hC n a e).elim λo z=>⟨o,(hs.2 a (l.cells n a e).2).trans z.1,z.2⟩,hv.set F hi hlen (Ex.cP hs).keep (mK h0).nt (λy hy=>ag hy) (λu_ u_=>rfl) (λu_=>up _ (rv.bt (.refl ρ) (Ex.cP hs).keep (mK h0).nt)) λz=>z.elim (λz=>nomatch hk.symm.trans z) λz=>nomatch hk.symm.trans z⟩,l.m5,l.cells,PW⟩ w.2
 ·refine wpAny_storeName_cell F.kind hk ea (hC x a ea) (λh' hC' hs=>?_);have hca:=l.cells x a ea;have h0:∃o,s.heap.get? a=some o/\∀vs,o.data≠.fields vs/\∀ws n,o.data≠.seq ws n:=(hC x a ea).elim λo z=>⟨o,z.1,λvs=>⟨λq=>((by injection(z.2.symm.trans q))),λws n q=>(by injection(z.2.symm.trans q))⟩⟩
  have hao:a∈rG fm:=.tail _ (mem_map.mpr ⟨_,dK ea,rfl⟩);have w:=X.m5 F l (a:=a) hao hca.1 (OO.bQ _ hao) s.toks hs h0 (CJ hC');refine q _ w.1 ⟨⟨m,λy=>if y=x then some v' else cm y,hN.elim λo z=>z.elim λes z=>z.elim λep z=>⟨o,es,ep,(hs.2 _ (Ne.symm hca.2)).trans z.1,z.2⟩,λn b e=>?_,hv.set F hi hlen (Ex.cP hs).keep (mK h0).nt (λu_ u_=>rfl) (λy hy=>ag hy) (λz=>nomatch hk.symm.trans z) λu_=>⟨⟨a,ea⟩,up _ (rv.bt (.refl ρ) (Ex.cP hs).keep (mK h0).nt)⟩⟩,l.m5,l.cells,PW⟩ w.2;by_cases hnx:n=x
  ·subst hnx;injection(ea.symm.trans e)with I1;subst I1;exact hC'.elim λo z=>⟨o,z.1,z.2.trans (af (λv=>Data.cell v) (ah rfl).symm)⟩
  ·exact(hC n b e).elim λo z=>⟨o,(hs.2 b λz=>hnx (F.cells _ _ _ (z▸e) ea)).trans z.1,z.2.trans (af (λv=>Data.cell v) (ag hnx).symm)⟩
end
theorem j9.tr{ρ h ρ1 h1 ρ2 h2}(x:j9 fm ρ h ρ1 h1)(l1:fE fm dA ρ1 h1)(OO:cD c fm)(y:j9 fm ρ1 h1 ρ2 h2):j9 fm ρ h ρ2 h2:=
 x.trans y λb o hb u_=>let⟨o',e,_⟩:=l1.om b hb OO.O9;⟨o',e⟩
section
variable (c:Cx) (FL:List bO) (fm:Fm) (ρ:eP) (s:Shared)
def KS(Q:SQ)(Q':Flow->Shared->Prop):Prop:=∀fl dA H1 ρ1 s1 qo,Q fl dA H1->St c FL ρ1 H1 s1->fE fm dA ρ1 s1.heap->j9 fm ρ s.heap ρ1 s1.heap->L7 ρ1 s1.heap fl qo->Q' qo s1
def Ei(E:SE)(E':Value->Shared->Prop):Prop:=∀e dA H1 ρ1 s1 p k aP x,E e dA H1->St c FL ρ1 H1 s1->fE fm dA ρ1 s1.heap->j9 fm ρ s.heap ρ1 s1.heap->ρ1[e]? =some p->H1[e]? =some (.aR k aP x)->E' (.ref p.1) s1
end
section
variable {c:Cx} {FL:List bO} {fm:Fm} {hd:Option Nat} {n:Nat} {ρ ρ1:eP} {s s1:Shared}
theorem KS.go{Q Q' dA}(k:KS c FL fm ρ s Q Q')(OO:cD c fm)(l1:fE fm dA ρ1 s1.heap)(g:j9 fm ρ s.heap ρ1 s1.heap):KS c FL fm ρ1 s1 Q Q':=λfl wi H2 ρ2 s2 qo q X l g2 r=>k fl wi H2 ρ2 s2 qo q X l (g.tr l1 OO g2) r
theorem Ei.go{E E' dA}(k:Ei c FL fm ρ s E E')(OO:cD c fm)(l1:fE fm dA ρ1 s1.heap)(g:j9 fm ρ s.heap ρ1 s1.heap):Ei c FL fm ρ1 s1 E E':=λe wi H2 ρ2 s2 p kk a x q X l g2 h1 h2=>k e wi H2 ρ2 s2 p kk a x q X l (g.tr l1 OO g2) h1 h2
theorem Ei.e{E E' ev H}(k:Ei c FL fm ρ s E E')(X:St c FL ρ H s)(l:fE fm ev ρ s.heap):KE c FL ρ s (λx H1=>E x ev H1) E':=λe H1 ρ1 s1 p kk a x q X1 g h1 h2=>k e ev H1 ρ1 s1 p kk a x q X1 (l.go g X.bD.nb) g.f h1 h2
def bu(c:Cx)(FL:List bO)(fm:Fm)(hd:Option Nat)(n:Nat)(v:aD.Env->MH->SQ->SE->Prop)(t:Sem Flow):Prop:=
 ∀A ev ρ H s Q E Q' E',jm A FL hd ρ n->v ev H Q E->St c FL ρ H s->fE fm ev ρ s.heap->KS c FL fm ρ s Q Q'->Ei c FL fm ρ s E E'->wpAny (model c.prog c.w) A t Q' E' s
theorem jk(h:dk v=true):swapsWith v t l aA=pure false:=by cases v<;>first|rfl|injection h
theorem Fc(F:c7 fm):interactive fm.aA=false:=by dsimp only[interactive];rw[F.kind];rfl
theorem La:bu c FL fm hd n (λaA H Q u_=>Q .next aA H) (execs [] fm.aA):=λA ev ρ H s Q E Q' E' a h X l kQ kE=>wpAny_execs_nil (kQ _ _ _ _ _ _ h X l (.refl _ _ _) .next)
theorem Gd(OO:cD c fm){v vs:aD.Env->MH->SQ->SE->Prop}{st:Stmt}{rest:List Stmt}(h1:bu c FL fm hd n v (exec st fm.aA))(h2:bu c FL fm hd n vs (execs rest fm.aA)):
  bu c FL fm hd n (λaA H Q E=>v aA H (λfl aG H1=>match fl with
   | .next=>vs aG H1 Q E
   |f=>Q f aG H1) E) (execs (st::rest) fm.aA):=by
 intro A ev ρ H s Q E Q' E' a h X l kQ kE;refine wpAny_execs_cons (h1 A ev ρ H s _ E _ E' a h X l (λfl dA H1 ρ1 s1 qo q X1 l1 g1 r1=>?_) kE);cases r1 with
 |next=>exact h2 A dA ρ1 H1 s1 Q E Q' E' (a.b8 g1.b8) q X1 l1 (kQ.go OO l1 g1) (kE.go OO l1 g1)
 |brk=>exact kQ _ _ _ _ _ _ q X1 l1 g1 .brk
 |cont=>exact kQ _ _ _ _ _ _ q X1 l1 g1 .cont
 |ret r=>exact kQ _ _ _ _ _ _ q X1 l1 g1 (.ret r)
theorem Gg:bu c FL fm hd n (λaA H Q u_=>Q .next aA H) (exec (.Pass pos) fm.aA):=λA ev ρ H s Q E Q' E' a h X l kQ kE=>wpAny_Pass (kQ _ _ _ _ _ _ h X l (.refl _ _ _) .next)
theorem K7:bu c FL fm hd n (λaA H Q u_=>Q .brk aA H) (exec (.Break pos) fm.aA):=λA ev ρ H s Q E Q' E' a h X l kQ kE=>wpAny_Break (kQ _ _ _ _ _ _ h X l (.refl _ _ _) .brk)
theorem Ge:bu c FL fm hd n (λaA H Q u_=>Q .cont aA H) (exec (.Continue pos) fm.aA):=λA ev ρ H s Q E Q' E' a h X l kQ kE=>wpAny_Continue (kQ _ _ _ _ _ _ h X l (.refl _ _ _) .cont)
theorem Gh:bu c FL fm hd n (λaA H Q u_=>Q (.ret .none) aA H) (exec (.Return none pos) fm.aA):=λA ev ρ H s Q E Q' E' a h X l kQ kE=>wpAny_Return_none (kQ _ _ _ _ _ _ h X l (.refl _ _ _) (.ret .none))
theorem Lb{v:aD.Env->MH->PQ->PE->Prop}(hv:aH c FL fm hd n v (eval e fm.aA)):bu c FL fm hd n (λaA H Q E=>v aA H (λv H1=>Q (.ret v) aA H1) (λx H1=>E x aA H1)) (exec (.Return (some e) pos) fm.aA):=
 λA ev ρ H s Q E Q' E' a h X l kQ kE=>wpAny_Return_some (hv A ev ρ H s _ _ _ E' a h X l (λx H1 ρ1 s1 x' q X1 g1 r1=>kQ _ _ _ _ _ _ q X1 (l.go g1 X.bD.nb) g1.f (.ret r1)) (kE.e X l))
theorem Gf(F:c7 fm){v:aD.Env->MH->PQ->PE->Prop}(hc:dk e=true)(hv:aH c FL fm hd n v (eval e fm.aA)):bu c FL fm hd n (λaA H Q E=>v aA H (λu_ H1=>Q .next aA H1) (λx H1=>E x aA H1)) (exec (.Expr e pos) fm.aA):=
 λA ev ρ H s Q E Q' E' a h X l kQ kE=>wpAny_Expr_any (hv A ev ρ H s _ _ _ E' a h X l (λx H1 ρ1 s1 x' q X1 g1 r1=>kQ _ _ _ _ _ _ q X1 (l.go g1 X.bD.nb) g1.f .next) (kE.e X l)) (Fc F) (jk hc)
def fh(fm:Fm)(x:Str):Prop:=fm.aA.kindOf x=some .local\/fm.aA.kindOf x=some .cell
theorem K5(F:c7 fm)(OO:cD c fm){v:aD.Env->MH->PQ->PE->Prop}(hi:fm.ns[i]? =some x)(hk:fh fm x)(hc:dk e=true)(hv:aH c FL fm hd n v (eval e fm.aA)):
  bu c FL fm hd n (λaA H Q E=>v aA H (λv H1=>Q .next (bN aA i (some v)) H1) (λx H1=>E x aA H1)) (exec (.Assign [.Name x p] e pos) fm.aA):=by
 intro A ev ρ H s Q E Q' E' a h X l kQ kE;refine wpAny_Assign_Name (hv A ev ρ H s _ _ _ E' a h X l (λy H1 ρ1 s1 y' q X1 g1 r1=>?_) (kE.e X l)) (jk hc);have l1:=l.go g1 X.bD.nb;exact pN F OO X1 l1 hi hk r1 λs2 X2 l2 g2=>kQ _ _ _ _ _ _ q X2 l2 (g1.f.tr l1 OO g2) .next
theorem K6(F:c7 fm)(OO:cD c fm){v:aD.Env->MH->PQ->PE->Prop}(hi:fm.ns[i]? =some x)(hk:fh fm x)(hv:aH c FL fm hd n v (eval e fm.aA)):
  bu c FL fm hd n (λaA H Q E=>match dp aA i with
   |some a=>v aA H (λb H1=>qD op H1 a b λr H2=>Q .next (bN aA i (some r)) H2) (λx H1=>E x aA H1)
   | .none=>False) (exec (.AugAssign (.Name x p) (jS op) e pos) fm.aA):=by
 intro A ev ρ H s Q E Q' E' a h X l kQ kE;refine mtV h λb e h=>?_
 ·have kk:pg fm x=true:=by
   unfold pg;rcases hk with z|z<;>rw[z]<;>rfl
  refine wpAny_AugAssign_Name (sP F l hi kk (OO.N5 i x hi) e λy r=>?_);refine hv A ev ρ H s _ _ _ E' a h X l (λz H1 ρ1 s1 z' q X1 g1 r1=>?_) (kE.e X l);have l1:=l.go g1 X.bD.nb;refine zU (Q:=λr H2=>Q .next (bN ev i (some r)) H2) X1 (r.bt g1.b8 g1.keep X.bD.nb.nt) r1 q λw H2 ρ2 s2 w' q2 X2 g2 r2=>?_;have l2:=l1.go g2 X1.bD.nb;exact pN F OO X2 l2 hi hk r2 λs3 X3 l3 g3=>kQ _ _ _ _ _ _ q2 X3 l3 ((g1.trans g2).f.tr l2 OO g3) .next
theorem F8(K:cZ c)(O:eO c){v vo:aD.Env->MH->PQ->PE->Prop}(hc:dk e=true)(hv:aH c FL fm hd n v (eval e fm.aA))(ho:aH c FL fm hd n vo (eval o fm.aA)):
  bu c FL fm hd n (λaA H Q E=>v aA H (λv H1=>vo aA H1 (λov H2=>eG H2 ov k v λH3=>Q .next aA H3) (λx H2=>E x aA H2)) (λx H1=>E x aA H1)) (exec (.Assign [.Attribute o (br k) p] e pos) fm.aA):=by
 intro A ev ρ H s Q E Q' E' a h X l kQ kE;refine plainObj_wpAny_Assign_Attribute (BZ hv ho a h X l (kE.e X l) (Q':=λx' y' s2=>wpAny (model c.prog c.w) A (setAttr y' (br k) x') (λu_=>Q' .next) E' s2) λx y H2 ρ2 s2 x' y' q X2 g2 rx ry=>?_) (jk hc);exact qx (Q:=λH3=>Q .next ev H3) K O X2 ry rx q λH3 ρ3 s3 q3 X3 g3=>kQ _ _ _ _ _ _ q3 X3 (l.go (g2.trans g3) X.bD.nb) (g2.trans g3).f .next
theorem Gb(K:cZ c)(O:eO c){v vo:aD.Env->MH->PQ->PE->Prop}(hv:aH c FL fm hd n v (eval e fm.aA))(ho:aH c FL fm hd n vo (eval o fm.aA)):
  bu c FL fm hd n (λaA H Q E=>vo aA H (λov H1=>match cQ H1 ov k with
   |some a=>v aA H1 (λb H2=>qD op H2 a b λr H3=>eG H3 ov k r λH4=>Q .next aA H4) (λx H2=>E x aA H2)
   | .none=>False) (λx H1=>E x aA H1)) (exec (.AugAssign (.Attribute o (br k) p) (jS op) e pos) fm.aA):=by
 intro A ev ρ H s Q E Q' E' a h X l kQ kE;refine wpAny_AugAssign_AttributeAny (ho A ev ρ H s _ _ _ E' a h X l (λov H1 ρ1 s1 GL q X1 g1 r1=>?_) (kE.e X l));refine mtV q λb e q=>?_
 ·refine qw K O X1 r1 e λb' t rb=>?_;have X1':=X1.pR t;have l1:=l.go g1 X.bD.nb;have kE1:=(kE.e X l).go g1;refine hv A ev ρ1 H1 {s1 with toks:=t} _ _ _ E' (a.b8 g1.b8) q X1' l1 (λz H2 ρ2 s2 z' q2 X2 g2 r2=>?_) kE1;refine zU (Q:=λr H3=>eG H3 ov k r λH4=>Q .next ev H4) X2 (rb.bt g2.b8 g2.keep X1.bD.nb.nt) r2 q2 λw H3 ρ3 s3 w' q3 X3 g3 r3=>?_;have nH:=g2.trans g3;exact qx (Q:=λH4=>Q .next ev H4) K O X3 (r1.bt nH.b8 nH.keep X1.bD.nb.nt) r3 q3 λH4 ρ4 s4 q4 X4 g4=>kQ _ _ _ _ _ _ q4 X4 (l.go ((g1.trans nH).trans g4) X.bD.nb) ((g1.trans nH).trans g4).f .next
theorem K9{t:bF}{va vb:aD.Env->MH->SQ->SE->Prop}{et:Expr}{ba bb:List Stmt}{pos:Pos}(OO:cD c fm)(ht:c9 c FL fm hd n t.eM (isTrue et fm.aA (eval et fm.aA)))(ha:bu c FL fm hd n va (execs ba fm.aA))(hb:bu c FL fm hd n vb (execs bb fm.aA)):
  bu c FL fm hd n (λaA H Q E=>t.eM aA H (λc H1=>if c=true then va aA H1 Q E else vb aA H1 Q E) (λx H1=>E x aA H1)) (exec (.If et ba bb pos) fm.aA):=by
 intro A ev ρ H s Q E Q' E' a h X l kQ kE;refine wpAny_If (ht A ev ρ H s _ _ _ E' a h X l (λb H1 ρ1 s1 q X1 g1=>?_) (kE.e X l));have l1:=l.go g1 X.bD.nb;cases b with
 |true=>exact ha A ev ρ1 H1 s1 Q E Q' E' (a.b8 g1.b8) q X1 l1 (kQ.go OO l1 g1.f) (kE.go OO l1 g1.f)
 |false=>exact hb A ev ρ1 H1 s1 Q E Q' E' (a.b8 g1.b8) q X1 l1 (kQ.go OO l1 g1.f) (kE.go OO l1 g1.f)
end
theorem t8:entryFor table "proto.unchain" =some Builtin.«proto.unchain» :=entryFor_of_tree (by kernel_rfl)
def LN(A:Around)(h:Heap):Prop:=A.handled=none\/∃x o vs,A.handled=some (.ref x)/\h.get? x=some o/\o.data= .fields vs/\vs[2]? =some .none
theorem LN.at(x:LN A h)(k:∀a o vs,h.get? a=some o->o.data= .fields vs->A.handled=some (.ref a)->h'.get? a=some o):LN A h':=by
 exact x.imp id λz=>z.elim λa z=>z.elim λo z=>z.elim λvs z=>⟨a,o,vs,z.1,k a o vs z.2.1 z.2.2.1 z.1,z.2.2⟩
theorem kK{α:Type}{prog:Program}{w:World}{A:Around}{s:Shared}{e:Addr}{oe:Obj}{vs:Array Value}{Q:α->Shared->Prop}{E:Value->Shared->Prop}(hh:LN A s.heap)(he:s.heap.get? e=some oe)(hd:oe.data= .fields vs)(hz:2<vs.size)
  (h0:A.handled=none->E (.ref e) s) (h1:A.handled=some (.ref e)->E (.ref e) s)
  (h2:∀x h',A.handled=some (.ref x)->x≠e->Heap.SameBut e s.heap h'->h'.get? e=some {oe with data:=.fields (vs.setIfInBounds 2 (.ref x))}->E (.ref e) {s with heap:=h'}):wpAny (model prog w) A (raiseNew (.ref e):Sem α) Q E s:=by
 dsimp only[raiseNew];refine bp (wpAny_handled ?_);rcases hh with e1|⟨x,o,xs,e1,e2,e3,e4⟩
 ·rw[e1];exact bp (bq (wpAny_throw (h0 e1)))
 ·refine e1▸?_;dsimp only;by_cases hx:x=e
  ·subst hx;rw[ag (by simp)];exact bp (bq (wpAny_throw (h1 e1)))
  ·rw[ah (show(Value.ref x !=Value.ref e)=true from by simp[hx])];refine bp (wpAny_holding (wpAny_runValue (codeAny_builtin t8 ?_)));unfold Builtin.«proto.unchain»;refine bp (wpAny_field e2 e3 e4 ?_);rw[ah (by decide)];refine bp (bq (bq ?_));show wpAny _ _ (setField (.ref e) 2 (.ref x)>>=λu_=>throw (.ref e)) _ _ _;refine bp (wpAny_setField he hd hz (wpAny_throw ?_));refine h2 x _ e1 hx (Heap.SameBut.update ..) ?_;obtain⟨oc,odi,oda,UD⟩:=oe;dsimp only at hd;subst hd;exact Heap.get?_update_self _ he rfl
section
variable {prog:Program} {w:World} {A:Around} {E:Value->Shared->Prop} {s:Shared}
theorem sV{it t:Addr}{i:Nat}{items:Array Value}{Q:Option Value->Shared->Prop}(hh:LN A s.heap)(qJ:A.handled≠some (.ref it))
  (hit:s.heap.IsTupleIter it t i) (ht:s.heap.IsTuple t items) (hx:items[i]? =none)
  (hQ:∀h',Heap.ExtBut it s.heap h'->Q none {s with heap:=h'}):wpAny (model prog w) A (pyNext (.ref it)) Q E s:=by
 obtain⟨o,ho,hc,hd⟩:=id hit;obtain⟨ol,hol,_,nl,We⟩:=ht;unfold pyNext;refine bp (wpAny_attempt (wpAny_callSpecial?_slot (name:=Str.ofString "__next__") hit.typeIs F.slot_tuple_iterator_next
  (wpAny_call_entry F.slot_tuple_iterator_next hit.typeIs F.entry_tuple_iterator_next ?_ (F.args_tuple_iterator_next_1 _))))
 show wpAny _ _ (field (.ref it) 0>>=_) _ _ s;refine bp (wpAny_field ho hd (x:=.ref t) rfl ?_);show wpAny _ _ (if(Value.ref t==Value.none)=true then _ else _) _ _ s;refine(ag (show¬((Value.ref t==Value.none)=true)from Bool.false_ne_true))▸?_;show wpAny _ _ (field (.ref it) 1>>=_) _ _ s;refine bp (wpAny_field ho hd (x:=.int i 0) rfl ?_);show wpAny _ _ (seqItems? (.ref t)>>=_) _ _ s;refine bp (wpAny_seqItems hol We ?_);simp only[Int.toNat_natCast,hx];refine bp (wpAny_rule (bp (wpAny_setField ho hd (by simp) ?_)));show wpAny _ _ (newExc (.type "StopIteration") []>>=_) _ _ _;refine bp ?_;simp only[newExc,newTuple];refine bp (wpAny_newObj_type ?_ (by size_fits));refine bp (m:=firstArgMember _ _) (wpAny_of_eq (a:=Value.none) (by first|rfl|(simp only[firstArgMember];rfl)) ?_);refine wpAny_newObj_type ?_ (by size_fits);generalize hH:s.heap.update it (Obj.mapFields (·.setIfInBounds 0 Value.none))=H1;have k1:Heap.SameBut it s.heap H1:=hH▸Heap.SameBut.update ..;dsimp only;generalize hO:(Obj.mk (.type "StopIteration") none (.fields (#[Value.ref H1.objs.size,Value.none,Value.none,Value.none,Value.bool false,Value.none]++ownMembersOf (Value.type "StopIteration") [])) #[])=oS;generalize Bd:(H1.push {cls:=.type "tuple",data:=.seq #[]})=H2;have ZU:oS.cls= .type "StopIteration" :=by rw[<-hO]
 have ZX:∃vs,oS.data= .fields vs/\2<vs.size:=⟨_,by rw[<-hO],by rw[Array.size_append];exact lt_of_lt_of_le (show 2<6 by decide) (le_add_right _ _)⟩
 have hfS:oS.isFreed=false:=by rw[<-hO];rfl
 obtain⟨vs,ZX,hzS⟩:=ZX;have he:(H2.push oS).get? H2.objs.size=some oS:=Heap.get?_push_size _ hfS;have old:∀b o,b≠it->s.heap.get? b=some o->(H2.push oS).get? b=some o/\b≠H2.objs.size:=λb o hb e=>by
  have e2:H2.get? b=some o:=Bd▸Heap.get?_push_of_some _ ((k1.2 b hb).trans e);exact⟨Heap.get?_push_of_some _ e2,ne_of_lt (Heap.lt_size e2)⟩
 have fin:∀h':Heap,(∃oe',h'.get? H2.objs.size=some oe'/\oe'.cls= .type "StopIteration")->Heap.ExtBut it s.heap h'->wpAny (model prog w) A
    (do
     let r<-isInstance (.ref H2.objs.size) (Value.type "StopIteration")
     if r=true then pure none else throw (.ref H2.objs.size))
    Q E {s with heap:=h'}:=λh' ho hx=>by
  refine bp (wpAny_isInstance (T:="StopIteration") (b:=true) ho isSubtype_stop ?_);exact bq (hQ _ hx)
 have ext:Heap.ExtBut it s.heap (H2.push oS):=λb o hb e=>(old b o hb e).1;refine kK (A:=A.in1) (hh.at λa o vs e u_ eh=>(old a o (λq=>qJ (q▸eh)) e).1) he ZX hzS (λu_=>fin _ ⟨oS,he,ZU⟩ ext) (λu_=>fin _ ⟨oS,he,ZU⟩ ext) λx h' u_ u_ k h2=>fin h' ⟨_,h2,ZU⟩ λb o hb e=>(k.2 b (old b o hb e).2).trans (old b o hb e).1
theorem tO{t:Addr}{items:Array Value}{n:Nat}{Q:List Value->Shared->Prop}(hn:n=items.size)(hh:LN A s.heap)(ht:s.heap.IsTuple t items)
  (hQ:∀h',Heap.ExtBut s.heap.objs.size s.heap h'->Q items.toList {s with heap:=h'}):wpAny (model prog w) A (unpackItems (.ref t) n none) Q E s:=by
 subst hn;have NG:t≠s.heap.objs.size:=by obtain⟨o,ho,_⟩:=ht;exact ne_of_lt (Heap.lt_size ho)
 have Wg:A.handled≠some (.ref s.heap.objs.size):=λq=>by
  rcases hh with e|⟨x,o,vs,e,e1,_⟩
  ·rw[e]at q;injection q
  ·replace q:=e▸q;cases q;exact a9 (Heap.lt_size e1) (lt_irrefl _)
 dsimp only[unpackItems];refine bp ?_
 ·dsimp only[notIterableAtAll];refine bp (wpAny_specialOf ht.typeIs F.slot_tuple_iter.lookup ?_);refine bq ?_;simp only[false_eq_true,if_false];refine bp (wpAny_holding (wpAny_pyIter_tuple ht ?_));refine bp (wpAny_holding (wpAny_draw_tuple NG items.size 0 _ _ ⟨_,Heap.get?_push_size _ rfl,rfl,rfl⟩ (ht.push _) (by lia) λh₁ Z4 NI=>?_));have ZQ:List.take items.size (List.drop 0 items.toList)=items.toList:=by
   rw[List.drop_zero];exact List.take_of_length_le (by simp)
  rw[ZQ];rw[ag (by simp)];have ht₁:h₁.IsTuple t items:=(ht.push _).extBut NI.extBut NG;have hh₁:LN A h₁:=hh.at λa o vs e u_ eh=>(NI.2 a (λq=>Wg (q▸eh))).trans (Heap.get?_push_of_some _ e);refine bp (wpAny_holding (sV hh₁ Wg Z4 ht₁ (by simp) λh₂ he₂=>?_));dsimp only[isSome_none,false_eq_true,if_false];refine bq (hQ h₂ λb o hb e=>he₂ b o hb (NI.extBut b o hb (Heap.get?_push_of_some _ e)))
end
theorem Nb:∀{b:aD.Env},a.length=b.length->(∀i,dp a i=dp b i)->a=b:=by
 induction a with
 |nil=>exact λ{b} h u_=>(length_eq_zero_iff.mp h.symm).symm
 |cons x a ih=>
  intro b h k;cases b with
  |nil=>exact(by injection h)
  |cons y b=>
   have h0:x=y:=k 0;simp only[h0,ih (Nat.succ.inj h) λi=>k (i+1)]
theorem FY(h:i≠j):bN (bN aA i a) j b=bN (bN aA j b) i a:=by
 refine Nb (by simp only[gc]) λk=>?_;simp only[gS,gc];by_cases h1:j=k
 ·subst h1;simp only[h,false_and,if_false]
 ·simp only[h1,false_and,if_false]
theorem BX(xs:List Nat):∀(vs:List MV) (aA:aD.Env) (x:Nat) (v:MV),x∉xs->fy (bN aA x (some v)) xs vs=bN (fy aA xs vs) x (some v):=by
 induction xs with
 |nil=>exact λvs aA x v h=>rfl
 |cons y xs ih=>exact λvs aA x v h=>match vs with
  | []=>rfl
  |w::vs=>(af (fy · xs vs) (FY λe=>h (mem_cons.mpr (.inl e)))).trans (ih vs _ x v λq=>h (.tail _ q))
theorem BW(xs:List Nat):∀(vs:List MV) (aA:aD.Env) (x:Nat) (v:MV),xs.length=vs.length->fy aA (xs++ [x]) (vs++ [v])=bN (fy aA xs vs) x (some v):=by
 induction xs with
 |nil=>exact λvs aA x v h=>by rw[length_eq_zero_iff.mp h.symm];rfl
 |cons y xs ih=>exact λvs aA x v h=>match vs,h with
  |w::vs,h=>ih vs _ x v (Nat.succ.inj h)
theorem FZ(xs:List Nat):∀(vs:List MV) (aA:aD.Env),xs.length=vs.length->xs.Nodup->fy aA xs.reverse vs.reverse=fy aA xs vs:=by
 induction xs with
 |nil=>exact λvs aA h u_=>by refine(length_eq_zero_iff.mp h.symm)▸?_;rfl
 |cons y xs ih=>exact λvs aA h hn=>match vs,h with
  |w::vs,h=>by
   rw[List.reverse_cons,List.reverse_cons,BW _ _ _ _ _ (by simp only[length_reverse,length_reverse];exact Nat.succ.inj h),ih vs aA (Nat.succ.inj h) (nodup_cons.mp hn).2];exact(BX _ _ _ _ _ (nodup_cons.mp hn).1).symm
theorem zZ(h:dk v=true):swapsWithSole [t] v l aA=pure false:=by
 unfold swapsWithSole;exact jk h
inductive qA(fm:Fm):List Nat->List Expr->Prop
 |nil:qA fm [] []
 |cons {i xs x p es}:fm.ns[i]? =some x->fh fm x->qA fm xs es->qA fm (i::xs) (.Name x p::es)
section
variable {c:Cx} {FL:List bO} {fm:Fm} {hd:Option Nat} {n:Nat}
theorem BF{ρ h ev}(OO:cD c fm)(l:fE fm ev ρ h)(nb:NB (bV ρ) h):NT (rG fm++bV ρ) h:=λb hb o e ws n d=>by
 have no:∀{D:Data},o.data=D->(∀ws n,D≠.seq ws n)->o.cls≠.type "tuple" :=λe k=>a9 (e.symm.trans d) (k ws n);exact(mem_append.mp hb).elim (λq=>l.ex.elim λm z=>z.elim λcm z=>(mem_cons.mp q).elim (λq=>z.1.elim λo2 y=>y.elim λes y=>y.elim λep y=>no ((af Obj.data (inj (e.symm.trans (q▸y.1)))).trans y.2.1) nofun)
  λq=>(mem_map.mp q).elim λp y=>(z.2.1 p.1 p.2 (OO.O9 p.1 p.2 y.1)).elim λo2 w=>no ((af Obj.data (inj (e.symm.trans (y.2▸w.1)))).trans w.2) nofun) λq=>(nb _ q _ e).1 ws n d
theorem VR.RY{ρ h ρ1 h1 ev}(OO:cD c fm)(l:fE fm ev ρ h)(nb:NB (bV ρ) h)(r:VR ρ h v x)(g:j9 fm ρ h ρ1 h1):VR ρ1 h1 v x:=r.bt g.b8 g.keep (BF OO l nb)
theorem cY.RY{ρ h ρ1 h1 ev}(OO:cD c fm)(l:fE fm ev ρ h)(nb:NB (bV ρ) h)(r:cY ρ h vs xs)(g:j9 fm ρ h ρ1 h1):cY ρ1 h1 vs xs:=r.bt g.b8 g.keep (BF OO l nb)
def QT(c:Cx)(fm:Fm)(i:Nat)(f:Value->Sem Unit):Prop:=∃x,fm.ns[i]? =some x/\fh fm x/\∀{A:Around} {v:Value} {Q:Unit->Shared->Prop} {E:Value->Shared->Prop} {s:Shared},wpAny (model c.prog c.w) A (storeName fm.aA x v) Q E s->wpAny (model c.prog c.w) A (f v) Q E s
inductive xU(c:Cx)(fm:Fm):List Nat->List (Value->Sem Unit)->Prop
 |nil:xU c fm [] []
 |cons {i xs f fs}:QT c fm i f->xU c fm xs fs->xU c fm (i::xs) (f::fs)
theorem xU.of(ht:qA fm xs elts):xU c fm xs ((assignEach elts fm.aA).map (·.2)):=by
 induction ht with
 |nil=>exact .nil
 |cons hi hk ht ih=>exact .cons ⟨_,hi,hk,λh=>wpAny_assign_Name h⟩ ih
theorem xU.names{names:List Str}:∀{xs:List Nat},xs.map (λi=>fm.ns[i]?)=names.map some->(∀x∈names,fh fm x)->xU c fm xs (names.map λn=>bindName fm.aA n):=by
 induction names with
 |nil=>exact λhn u_=>by rw[List.map_eq_nil_iff.mp hn];exact .nil
 |cons x names ih=>exact λ{xs} hn hs=>match xs,hn with
  |i::xs,hn=>.cons ⟨x,(List.cons.inj hn).1,hs x (.head _),λh=>wpAny_bindName h⟩ (ih (List.cons.inj hn).2 λz hz=>hs z (.tail _ hz))
theorem D6{E}(F:c7 fm)(OO:cD c fm){fs:List (Value->Sem Unit)}(ht:xU c fm xs fs):∀(vs:List MV) (vals:List Value) (ev:aD.Env) (ρ:eP) (H:MH) (s:Shared) (Q:Unit->Shared->Prop),St c FL ρ H s->fE fm ev ρ s.heap->cY ρ s.heap vs vals->vs.length=xs.length->
  (∀s1,St c FL ρ H s1->fE fm (fy ev xs vs) ρ s1.heap->j9 fm ρ s.heap ρ s1.heap->Q () s1)->wpAny (model c.prog c.w) A (assignInOrder fs vals) Q E s:=by
 induction ht with
 |nil=>exact λvs vals ev ρ H s Q X l r hl q=>assignInOrder_nil (q s X (length_eq_zero_iff.mp hl▸l) (.refl _ _ _))
 |@cons i xs f fs hf ht ih=>
  intro vs vals ev ρ H s Q X l r hl q;cases vs with
  |nil=>exact(by injection hl)
  |cons v vs=>
   exact r.ce (P:=λvals=>wpAny _ _ (assignInOrder (f::fs) vals) Q E s) λy ys r1 r2=>hf.elim λx z=>assignInOrder_cons (z.2.2 (pN F OO X l z.1 z.2.1 r1 λs1 X1 l1 g1=>
    ih vs ys _ ρ H s1 Q X1 l1 (r2.RY OO l X.bD.nb g1) (Nat.succ.inj hl) λs2 X2 l2 g2=>q s2 X2 l2 (g1.tr l1 OO g2)))
theorem Gx(ht:qA fm xs elts):(assignEach elts fm.aA).length=xs.length/\(assignEach elts fm.aA).findIdx? (·.1)=none:=by
 induction ht with
 |nil=>exact⟨rfl,rfl⟩
 |@cons i xs x p es hi hk ht ih=>
  refine⟨af (· +1) ih.1,?_⟩;show((false,assign (.Name x p) fm.aA)::assignEach es fm.aA).findIdx? (·.1)=none;rw[List.findIdx?_cons,ih.2];rfl
theorem IY{ρ H}(a:jm A FL hd ρ n)(X:St c FL ρ H s)(h:uh hd H):LN A s.heap:=by
 have z:=a.handled;generalize hw:A.handled=w at z;cases z with
 |none=>exact .inl hw
 |@some i p ei=>
  have h:(match H[i]? with|some (.aR _ _ false)=>True|_=>False):=h;refine mtF h λk aP e=>X.jx ei e λo vs mA I=>.inr ⟨p.1,o,vs,hw,I.e,I.iA,I.hf rfl⟩
theorem vH{E}{ρ H ev}{Q:List Value->Shared->Prop}(hh:LN A s.heap)(X:St c FL ρ H s)(l:fE fm ev ρ s.heap)(r:VR ρ s.heap (.aF vs) v')(hl:vs.length=k)
 (q:∀s1 vals,St c FL ρ H s1->fE fm ev ρ s1.heap->Go ρ s.heap ρ s1.heap->cY ρ s1.heap vs vals->Q vals s1):wpAny (model c.prog c.w) A (unpackItems v' k none) Q E s:=
 r.te (P:=λv'=>wpAny _ _ (unpackItems v' k none) Q E s) λa o ws m eo hc iA v1 u_=>tO (items:=ws) (hl.symm.trans v1.size) hh ⟨o,eo,hc,m,iA⟩ λh' ex=>
  have z:=X.ex (t:=s.toks) (h':=h') λb ob hb e=>ex b ob (ne_of_lt (Heap.lt_size e)) e
  q _ _ z.1 (l.go z.2 X.bD.nb) z.2 (v1.bt (.refl ρ) z.2.keep X.bD.nb.nt)
theorem vV{ρ h xs y y' aA}{K:aD.Env->Prop}{P:Prop}(q:bJ (.eS xs) y aA K)(r:VR ρ h y y')(k:∀vs,vs.length=xs.length->K (fy aA xs vs)->VR ρ h (.aF vs) y'->P):P:=by
 cases y with
 |aF vs=>exact k vs q.1 q.2 r
 |_=>exact q.elim
theorem rN{A:Around}{E}(F:c7 fm)(OO:cD c fm){ρ H ev}{s:Shared}{xs:List Nat}{elts:List Expr}{kk:Nat}{tp:Pos}{vs:List MV}{v':Value}{Q:Unit->Shared->Prop}(hh:LN A s.heap)(ht:qA fm xs elts)(X:St c FL ρ H s)(l:fE fm ev ρ s.heap)(r:VR ρ s.heap (.aF vs) v')(hl:vs.length=xs.length)
  (q:∀s1,St c FL ρ H s1->fE fm (fy ev xs vs) ρ s1.heap->j9 fm ρ s.heap ρ s1.heap->Q () s1):wpAny (model c.prog c.w) A (assign (.Tuple elts kk tp) fm.aA v') Q E s:=by
 have t:=Gx ht;simp only[arm_assign_Tuple];refine bp (wpAny_standAt ?_);unfold unpack;refine t.1▸t.2▸?_;refine bp (wpAny_holding (vH hh X l r hl λs1 vals X1 l1 g1 r1=>?_));exact D6 F OO (.of ht) vs vals ev ρ H s1 Q X1 l1 r1 hl λs2 X2 l2 g2=>q s2 X2 l2 (g1.f.tr l1 OO g2)
theorem vF(F:c7 fm)(OO:cD c fm){v:aD.Env->MH->PQ->PE->Prop}(ht:qA fm xs elts)(hc:dk e=true)(hw:swappedStores [.Tuple elts kk tp] e fm.aA=pure none)(hv:aH c FL fm hd n v (eval e fm.aA)):
  bu c FL fm hd n (λaA H Q E=>v aA H (λv H1=>uh hd H1/\bJ (.eS xs) v aA λaG=>Q .next aG H1) (λx H1=>E x aA H1)) (exec (.Assign [.Tuple elts kk tp] e pos) fm.aA):=by
 intro A ev ρ H s Q E Q' E' a h X l kQ kE;refine wpAny_Assign_stores (hv A ev ρ H s _ _ _ E' a h X l (λy H1 ρ1 s1 y' q X1 g1 r1=>?_) (kE.e X l)) (zZ hc) hw;have l1:=l.go g1 X.bD.nb;exact vV q.2 r1 λvs hl q2 r1=>rN (kk:=kk) F OO (IY (a.b8 g1.b8) X1 q.1) ht X1 l1 r1 hl λs2 X2 l2 g2=>kQ _ _ _ _ _ _ q2 X2 l2 (g1.f.tr l1 OO g2) .next
theorem Ga(F:c7 fm)(OO:cD c fm){v:aD.Env->MH->PQ->PE->Prop}{e:Expr}{xs:List Nat}{elts:List Expr}{names:List Str}{kk:Nat}{tp pos:Pos}(hn:xs.map (λi=>fm.ns[i]?)=names.map some)(hs:∀x∈names,fh fm x)(Bf:xs.Nodup)(hc:dk e=true)
  (hw:swappedStores [.Tuple elts kk tp] e fm.aA=pure (some names)) (hv:aH c FL fm hd n v (eval e fm.aA)):
  bu c FL fm hd n (λaA H Q E=>v aA H (λv H1=>uh hd H1/\bJ (.eS xs) v aA λaG=>Q .next aG H1) (λx H1=>E x aA H1)) (exec (.Assign [.Tuple elts kk tp] e pos) fm.aA):=by
 intro A ev ρ H s Q E Q' E' a h X l kQ kE;refine Assign_Tuple_swapped (hv A ev ρ H s _ _ _ E' a h X l (λy H1 ρ1 s1 y' q X1 g1 r1=>?_) (kE.e X l)) (zZ hc) hw;have l1:=l.go g1 X.bD.nb;have hlen:xs.length=names.length:=by rw[<-ar (f:=λi=>fm.ns[i]?),hn,ar]
 refine vV q.2 r1 λvs hl q2 r1=>vH (IY (a.b8 g1.b8) X1 q.1) X1 l1 r1 (hl.trans hlen) λs2 vals X2 l2 g2 r2=>?_;have e1:xs.reverse.map (λi=>fm.ns[i]?)=names.reverse.map some:=by simp only[map_reverse,hn,map_reverse]
 refine D6 F OO (.names e1 λx hx=>hs x (List.mem_reverse.mp hx)) vs.reverse vals.reverse ev ρ1 H1 s2 _ X2 l2 r2.reverse (by simp only[length_reverse,length_reverse,hl]) λs3 X3 l3 g3=>?_;rw[FZ xs vs ev hl.symm Bf]at l3;exact kQ _ _ _ _ _ _ q2 X3 l3 ((g1.trans g2).f.tr l2 OO g3) .next
end
theorem Gr{cw:List (Str×Value)}{k:Str}{w v:Value}(h:k∉cw.map (·.1)):stored ((k,w)::cw) k v=(k,v)::cw:=by
 unfold stored;rw[ah (by simp)];simp only[map_cons,if_true];rw[map_store_of_not_mem cw k v h]
theorem Gs{cw:List (Str×Value)}{k j:Str}{w v:Value}(h:j≠k):stored ((j,w)::cw) k v=(j,w)::stored cw k v:=by
 unfold stored;rw[List.any_cons,ai h,Bool.false_or,map_cons,ag h];split<;>rfl
theorem uy.nil(ρ h):uy ρ h [] []:=⟨rfl,λu_ u_ u_ e=>((by injection e))⟩
theorem uy.cons{ρ h es cw k v x}(hk:bI k)(r:VR ρ h v x)(q:uy ρ h es cw):uy ρ h ((k,v)::es) ((SL k,x)::cw):=
 ⟨af (· +1) q.1,λj e kv a b=>match j,a,b with
  |0,a,b=>inj a▸inj b▸⟨rfl,hk,r⟩
  |j+1,a,b=>q.2 j e kv a b⟩
theorem uy.ce{ρ h p es cw}(q:uy ρ h (p::es) cw){P:List (Str×Value)->Prop}(k:∀x ys,bI p.1->VR ρ h p.2 x->uy ρ h es ys->P ((SL p.1,x)::ys)):P cw:=by
 cases cw with
 |nil=>exact(by injection q.1)
 |cons kv ys=>
  have z:=q.2 0 p kv rfl rfl;exact(z.1▸k kv.2 ys z.2.1 z.2.2 ⟨Nat.succ.inj q.1,λj e kv a b=>q.2 (j+1) e kv a b⟩:P ((kv.1,kv.2)::ys))
theorem NQ{ρ h}{k:List Nat}{v:MV}{x:Value}(hk:bI k)(rv:VR ρ h v x){es:List (List Nat×MV)}:∀{cw:List (Str×Value)},uy ρ h es cw->(cw.map (·.1)).Nodup->uy ρ h (jL es k v) (stored cw (SL k) x):=by
 induction es with
 |nil=>exact λr u_=>by refine(length_eq_zero_iff.mp r.1.symm)▸?_;exact .cons hk rv (.nil _ _)
 |cons p es ih=>
  refine λ{cw} r=>r.ce (P:=λcw=>(cw.map (·.1)).Nodup->uy ρ h (jL (p::es) k v) (stored cw (SL k) x)) λy ys hj ry r' hn=>?_;have wJ:=nodup_cons.mp hn;show uy ρ h (if p.1=k then(p.1,v)::es else(p.1,p.2)::jL es k v) _;by_cases q:p.1=k
  ·rw[ah q,q,Gr (q▸wJ.1)];exact .cons hk rv r'
  ·rw[ag q,Gs (λe=>q (oA e))];exact .cons hj ry (ih r' wJ.2)
theorem y6(es:List (List Nat×MV))(k:List Nat)(v:MV):(jL es k v).length<=es.length+1:=by
 induction es with
 |nil=>exact le_refl _
 |cons p es ih=>
  show(if p.1=k then(p.1,v)::es else(p.1,p.2)::jL es k v).length<=_;by_cases q:p.1=k
  ·rw[ah q];exact le_succ _
  ·rw[ag q];exact succ_le_succ ih
inductive jq(ρ:eP)(h:Heap):List (List Nat)->List MV->List (Value×Value)->Prop
 |nil:jq ρ h [] [] []
 |cons {k v t x ks vs r}:bI k->VR ρ h v x->jq ρ h ks vs r->jq ρ h (k::ks) (v::vs) ((.str (SL k) t,x)::r)
theorem jq.MW{pr:Program}{w:World}{ρ h ks vs r}(p:jq ρ h ks vs r):∃cw,Carries (strKind pr w) r cw/\uy ρ h (ks.zip vs) cw/\cw.map (·.1)=ks.map SL:=by
 induction p with
 |nil=>exact⟨[],trivial,.nil _ _,rfl⟩
 |@cons k v t x ks vs r hk rv p ih=>exact ih.elim λcw z=>⟨(SL k,x)::cw,⟨strKind_is _ _ _ _,rfl,z.1⟩,.cons hk rv z.2.1,af (SL k:: ·) z.2.2⟩
theorem wX(more:List (Str×Value)):∀acc:List (Str×Value),((acc++more).map (·.1)).Nodup->merged acc more=acc++more:=by
 induction more with
 |nil=>exact λacc u_=>(ax acc).symm
 |cons kv more ih=>
  intro acc h;have hk:acc.any (λp=>p.1=kv.1)=false:=any_eq_false.mpr λp hp q=>by
   rw[map_append,nodup_append]at h;exact h.2.2 p.1 (mem_map_of_mem hp) kv.1 (.head _) (ay q)
  have e:stored acc kv.1 kv.2=acc++ [kv]:=by unfold stored;refine hk▸?_;rfl
  show merged (stored acc kv.1 kv.2) more=_;simp only[e,ih (acc++ [kv]) (by rw[aq];exact h),aq];rfl
section
variable {prog:Program} {w:World} {A:Around} {E:Value->Shared->Prop} {s:Shared}
theorem r5{Q:Unit->Shared->Prop}(yK:(strKind prog w).is k key=true)(hm:s.heap.DictAt (strKind prog w) d cw cw.length)
 (hQ:∀h',h'.DictAt (strKind prog w) d (stored cw k v) (stored cw k v).length->Heap.SameBut d s.heap h'->Q () {s with heap:=h',toks:=s.toks+1})
 (C9:cw.length<=sizeLine):wpAny (model prog w) A (dictSet d key v) Q E s:=by
 obtain⟨o,es,ho,hc,hd,hk,hp,hn⟩:=hm;have hes:es.size<=sizeLine:=by
  have e1:=hp.length;have e2:es.toList.length=es.size:=by rfl
  lia
 unfold dictSet
 try with_reducible refine wpAny_holding ?_
 refine bp ((strKind prog w).pyHash yK ?_);unfold dictSetHashed
 try with_reducible refine wpAny_holding ?_
 refine bp (wpAny_dictFind_of (s:={s with toks:=s.toks+1}) yK ho hd hk ?_);have R6:(es.findIdx? λe=>(strKind prog w).is k e.key)=cw.findIdx? λkv=>decide (kv.1=k):=by
  refine(hp.findIdx k)▸?_;obtain⟨l⟩:=es;simp
 cases hi:es.findIdx? λe=>(strKind prog w).is k e.key with
 |some i=>
  have e1:stored cw k v=cw.map (λkv=>if kv.1=k then(kv.1,v)else kv):=by rw[stored,ah (any_of_findIdx_some (R6▸hi))]
  have e2:(stored cw k v).length=cw.length:=by simp only[e1,ar]
  refine bp (wpAny_rule (bp (wpAny_updateDict (s:={s with toks:=s.toks+1}) ho hd (wpAny_point (hQ _ ⟨_,_,Heap.get?_update_self _ ho (Obj.isFreed_of_dict (Obj.data_mapDict hd _)),
   hc.mapDict _,(Obj.data_mapDict hd _).trans (by rw[e2]),hk.modify _ _,?_,?_⟩ (Heap.SameBut.update ..))))))
  ·simp only[e1];have hl:(es.toList.findIdx? λe=>(strKind prog w).is k e.key)=some i:=by simp only[<-hi];obtain⟨l⟩:=es;simp
   have:=hp.modify hn hl v;obtain⟨l⟩:=es;simpa using this
  ·rw[stored,ah (any_of_findIdx_some (R6▸hi)),keys_map_store];exact hn
 |none=>
  have Wk:k∉cw.map (·.1):=not_mem_of_findIdx_none (R6▸hi);have NA:¬(cw.any λkv=>decide (kv.1=k))=true:=by
   rw[any_eq_true];rintro⟨kv,hkv,he⟩;exact Wk (mem_map.mpr ⟨kv,hkv,ay he⟩)
  have e1:stored cw k v=cw++ [(k,v)]:=by rw[stored,ag NA]
  have e2:(stored cw k v).length=cw.length+1:=by rw[e1];simp
  refine bp (wpAny_rule (wpAny_updateDictKeys (hz:=hes) (s:={s with toks:=s.toks+1}) ho hd (hQ _ ⟨_,_,Heap.get?_update_self _ ho (Obj.isFreed_of_dict (Obj.data_mapDictKeys hd _)),
   hc.mapDictKeys _,(Obj.data_mapDictKeys hd _).trans (by rw[e2]),hk.push yK _,?_,?_⟩ (Heap.SameBut.update ..))))
  ·simp only[e1];have:=hp.append yK ((strKind prog w).hash k) v;obtain⟨l⟩:=es;simpa using this
  ·rw[stored,ag NA,map_append,nodup_append];refine⟨hn,by simp,?_⟩;intro a ha b hb;simp only[map_cons,map_nil,mem_singleton]at hb;subst hb;exact λe=>Wk (e▸ha)
theorem BV{Q:Unit->Shared->Prop}(yK:(strKind prog w).is k key=true)(hm:s.heap.DictAt (strKind prog w) d cw cw.length)
 (hQ:∀h',h'.DictAt (strKind prog w) d (stored cw k v) (stored cw k v).length->Heap.SameBut d s.heap h'->Q () {s with heap:=h',toks:=s.toks+1})
 (C9:cw.length<=sizeLine):wpAny (model prog w) A (setItem (.ref d) key v) Q E s:=by
 unfold setItem
 try with_reducible refine wpAny_holding ?_
 refine bp (wpAny_sequenceKey hm.dictOf.typeIs (by decide) ?_);refine bp (wpAny_callSpecial?_slot (name:=Str.ofString "__setitem__") hm.dictOf.typeIs slot_dict_setitem
  (wpAny_call_entry slot_dict_setitem hm.dictOf.typeIs entry_dict_setitem ?_ (args_dict_setitem _ _ _)))
 show wpAny _ _ (Builtin.Dict.notOrdered "__setitem__" ⟨[.ref d,key,v],[]⟩>>=_) _ _ s;refine bp (wpAny_notOrdered_dict hm.dictOf.typeIs ?_);show wpAny _ _ (dictSet d key v>>=_) _ _ s;exact bp (r5 (C9:=C9) yK hm λh' R7 C8=>bq ⟨.none,rfl,bq (hQ h' R7 C8)⟩)
theorem z9(vs:List (Value×Value)):∀(cw acc:List (Str×Value)) (s:Shared) (Q:PUnit->Shared->Prop),Carries (strKind prog w) vs cw->s.heap.DictAt (strKind prog w) d acc acc.length->acc.length+cw.length<=sizeLine->
  (∀h',h'.DictAt (strKind prog w) d (merged acc cw) (merged acc cw).length->Heap.SameBut d s.heap h'->∀t,Q PUnit.unit {s with heap:=h',toks:=t})->
  wpAny (model prog w) A (storeAll d vs) Q E s:=by
 induction vs with
 |nil=>
  intro cw acc s Q hc hm _ hQ;cases cw with
  |nil=>exact bq (hQ s.heap hm (Heap.SameBut.refl _ _) s.toks)
  |cons=>exact hc.elim
 |cons kv vs ih=>
  intro cw acc s Q hc hm C9 hQ;cases cw with
  |nil=>exact hc.elim
  |cons q cw=>
   obtain⟨k,v'⟩:=q;unfold storeAll;rw[forIn_cons];simp only[length_cons]at C9;refine bp (bp (r5 (C9:=az (le_add_right _ _) C9) hc.1 hm λh₁ hm₁ NI=>bq ?_));have ev:kv.2=v':=hc.2.1;exact ih cw (stored acc k kv.2) _ Q hc.2.2 hm₁ (by have e:=stored_length_le acc k kv.2;lia) λh' R7 C8 t=>hQ h' (ev▸R7) (NI.trans C8) t
end
section
variable {c:Cx} {FL:List bO} {fm:Fm} {hd:Option Nat} {n:Nat}
theorem St.zM{ρ H}{s:Shared}(X:St c FL ρ H s){i:Nat}{p:Addr×Addr}{es cw h' t}(ei:ρ[i]? =some p)(hp:p.2=p.1)(h0:∃o,s.heap.get? p.1=some o/\∀vs,o.data≠.fields vs)(hs:Heap.SameBut p.1 s.heap h')(Ul:h'.DictAt (strKind c.prog c.w) p.1 cw cw.length)(hk:uy ρ s.heap es cw)(hz:es.length<=line):
  St c FL ρ (H.set i (.dict es)) {s with heap:=h',toks:=t}/\Go ρ s.heap ρ h':=
 have ex:Ex [p.1,p.2] s.heap h':=(Ex.cP hs).bt λb hb=>bg hb▸.head _
 X.gC ei ex (h0.elim λu_ z=>Fw z.1 z.2) (.dict Ul (hk.bt (.refl ρ) ex.keep (iB X ei).nt) hz hp)
theorem CS{h:Heap}{d:Addr}{cw:List (Str×Value)}{n:Nat}{pr w}(hD:h.DictAt (strKind pr w) d cw n):∃o,h.get? d=some o/\∀vs,o.data≠.fields vs:=hD.elim λo z=>z.elim λes z=>⟨o,z.1,λvs q=>(by injection(z.2.2.1.symm.trans q))⟩
theorem zY{A:Around}{ρ H}{s:Shared}{o i v:MV}{o' i' v':Value}{Q:MH->Prop}{Q':Shared->Prop}{E}(X:St c FL ρ H s)(ro:VR ρ s.heap o o')(ri:VR ρ s.heap i i')(rv:VR ρ s.heap v v')(h:jX H o i v Q)(kQ:KH c FL ρ s Q Q'):
  wpAny (model c.prog c.w) A (setItem o' i' v') (λu_=>Q') E s:=
 FU ro h λr ro h=>xw ri h (P:=λi'=>wpAny (model c.prog c.w) A (setItem o' i' v') (λu_=>Q') E s) λk t ok h=>Kg h λes hb h=>X.dv ro hb (P:=λo'=>wpAny (model c.prog c.w) A (setItem o' _ v') (λu_=>Q') E s) λp cw ei hD hk u_ hp=>
  BV (strKind_is _ _ _ _) hD (λh' Ul hs=>
   have z:=X.zM (t:=s.toks+1) ei hp (CS hD) hs Ul (NQ ok rv hk hD.nodup) (az (y6 _ _ _) h.1)
   kQ _ _ _ h.2 z.1 z.2) (hk.1▸le_of_lt h.1)
theorem F9{v vo vi:aD.Env->MH->PQ->PE->Prop}(hc:dk e=true)(hv:aH c FL fm hd n v (eval e fm.aA))(ho:aH c FL fm hd n vo (eval o fm.aA))(hi:aH c FL fm hd n vi (eval i fm.aA)):
  bu c FL fm hd n (λaA H Q E=>v aA H (λv H1=>vo aA H1 (λov H2=>vi aA H2 (λiv H3=>jX H3 ov iv v λH4=>Q .next aA H4)
   (λx H3=>E x aA H3)) (λx H2=>E x aA H2)) (λx H1=>E x aA H1)) (exec (.Assign [.Subscript o i p] e pos) fm.aA):=by
 intro A ev ρ H s Q E Q' E' a h X l kQ kE;refine wpAny_Assign_Subscript (BZ hv ho a h X l (kE.e X l) (Q':=λx' y' s2=>wpAny (model c.prog c.w) A (eval i fm.aA) (λz' s3=>wpAny (model c.prog c.w) A (setItem y' z' x') (λu_=>Q' .next) E' s3) E' s2) λx y H2 ρ2 s2 x' y' q X2 g2 rx ry=>?_) (jk hc);have l2:=l.go g2 X.bD.nb;refine hi A ev ρ2 H2 s2 _ _ _ E' (a.b8 g2.b8) q X2 l2 (λz H3 ρ3 s3 z' q3 X3 g3 r3=>?_) ((kE.e X l).go g2);exact zY (Q:=λH4=>Q .next ev H4) X3 (ry.bt g3.b8 g3.keep X2.bD.nb.nt) r3 (rx.bt g3.b8 g3.keep X2.bD.nb.nt) q3 λH4 ρ4 s4 q4 X4 g4=>kQ _ _ _ _ _ _ q4 X4 (l.go ((g2.trans g3).trans g4) X.bD.nb) ((g2.trans g3).trans g4).f .next
def oE(c:Cx)(FL:List bO)(fm:Fm)(hd:Option Nat)(n:Nat)(ks:List (List Nat))(v:aD.Env->MH->(List MV->MH->Prop)->PE->Prop)(pairs:List (Sem Value×Sem Value)):Prop:=∀A ev ρ H s Q E Q' E',jm A FL hd ρ n->v ev H Q E->St c FL ρ H s->fE fm ev ρ s.heap->
 (∀vs H1 ρ1 s1 r,Q vs H1->St c FL ρ1 H1 s1->Go ρ s.heap ρ1 s1.heap->jq ρ1 s1.heap ks vs r->Q' r s1)->KE c FL ρ s E E'->wpAny (model c.prog c.w) A (evalPairs pairs) Q' E' s
theorem K4:oE c FL fm hd n [] (λu_ H Q u_=>Q [] H) []:=λA ev ρ H s Q E Q' E' a h X l kQ kE=>evalPairs_nil (kQ _ _ _ _ _ h X (.refl _ _) .nil)
theorem jq.bt(hρ:qQ ρ ρ')(k:fA S h h')(nt:NT S h){ks vs r}(p:jq ρ h ks vs r):jq ρ' h' ks vs r:=by
 induction p with
 |nil=>exact .nil
 |cons a b _ ih=>exact .cons a (b.bt hρ k nt) ih
theorem F7{v:aD.Env->MH->PQ->PE->Prop}{vs:aD.Env->MH->(List MV->MH->Prop)->PE->Prop}(ok:bI k)(hv:aH c FL fm hd n v (eval e fm.aA))(Sj:oE c FL fm hd n ks vs rest):
  oE c FL fm hd n (k::ks) (λaA H Q E=>v aA H (λx H1=>vs aA H1 (λxs H2=>Q (x::xs) H2) E) E) ((eval (.Constant (.str (SL k)) kk kp) fm.aA,do let x<-eval e fm.aA;standAt pos;pure x)::rest):=by
 intro A ev ρ H s Q E Q' E' a h X l kQ kE;refine evalPairs_cons (wpAny_mkText ?_);have X':=X.pR (s.toks+1);refine bp (hv A ev ρ H {s with toks:=s.toks+1} _ E _ E' a h X' l (λx H1 ρ1 s1 x' q X1 g1 r1=>?_) kE);refine bp (wpAny_standAt (bq ?_));refine Sj A ev ρ1 H1 s1 _ E _ E' (a.b8 g1.b8) q X1 (l.go g1 X.bD.nb) (λxs H2 ρ2 s2 r q2 X2 g2 r2=>?_) (kE.go g1);exact kQ _ _ _ _ _ q2 X2 (g1.trans g2) (.cons ok (r1.bt g2.b8 g2.keep X1.bD.nb.nt) r2)
theorem St.vA{ρ H}(X:St c FL ρ H s)(t:Nat):
  St c FL (ρ++ [(s.heap.objs.size,s.heap.objs.size)]) (H++ [.dict []]) {s with heap:=s.heap.push {cls:=.type "dict",data:=.dict #[]},toks:=t}/\Go ρ s.heap (ρ++ [(s.heap.objs.size,s.heap.objs.size)]) (s.heap.push {cls:=.type "dict",data:=.dict #[]}):=
 X.new (p:=(s.heap.objs.size,s.heap.objs.size)) (o:=.dict []) (t:=t) (Ex.push [] s.heap {cls:=.type "dict",data:=.dict #[]}) (le_refl _) (le_refl _)
  (.dict ⟨_, #[],Heap.get?_push_size _ rfl,⟨rfl,rfl,rfl⟩,rfl,λe he=>a9 he (by simp),.nil,nodup_nil⟩ (.nil _ _) (zero_le _) rfl)
theorem St.sN{ρ H}(X:St c FL ρ H s)(p:Addr×Addr):(ρ++ [p])[H.length]? =some p:=by rw[<-X.bD.len];exact getElem?_concat_length
theorem OV{ks:List (List Nat)}{va:aD.Env->MH->(List MV->MH->Prop)->PE->Prop}{keys:List (Option Expr)}{values:List Expr}{pos:Pos}{pairs:List (Sem Value×Sem Value)}
  (Sg:(evalEachOpt keys fm.aA).zip ((evalEach values fm.aA).map λv=>do let x<-v;standAt pos;pure x)=pairs.map λp=>(some p.1,p.2)) (h0:pairs≠[]) (hlen:pairs.length<=15) (hks:ks.length<=15) (hnd:(ks.map SL).Nodup)
  (hp:oE c FL fm hd n ks va pairs):
  aH c FL fm hd n (λaA H Q E=>va aA (H++ [.dict []]) (λvs H1=>H1[H.length]? =some (.dict [])/\Q (.ref H.length) (H1.set H.length (.dict (ks.zip vs)))) E) (eval (.Dict keys values pos) fm.aA):=by
 intro A ev ρ H s Q E Q' E' a h X l kQ kE;have z:=X.vA s.toks;simp only[arm_eval_Dict,Sg,dictDisplay_pairs pairs h0 (lt_of_le_of_lt hlen (by decide))];refine bp (wpAny_standAt (bp (wpAny_subDict_any (Q:=λd s'=>wpAny (model c.prog c.w) A (pure (Value.ref d)) Q' E' s') hlen ?_)));refine hp A ev _ _ _ _ E _ E' (a.b8 z.2.b8) h z.1 (l.go z.2 X.bD.nb) (λvs H2 ρ2 s2 r q X2 g2 r2=>?_) (kE.go z.2);refine(g2.b8 _ _ (X.sN _)).elim λw2 Yy=>(r2.MW (pr:=c.prog) (w:=c.w)).elim λcw y=>X2.dv (.ref Yy) q.1 (P:=λx=>x= .ref s.heap.objs.size->wpAny (model c.prog c.w) A (storeAll s.heap.objs.size r) (λu_ s'=>wpAny (model c.prog c.w) A (pure (Value.ref s.heap.objs.size)) Q' E' s') E' s2) (λp aau ei hD hk u_ NH hq=>?_) rfl;injection(Yy.symm.trans ei)with I1;subst I1;have e0:aau= []:=length_eq_zero_iff.mp hk.1.symm;subst e0;have hlk:cw.length<=15:=by rw[<-ar (f:=(·.1)),y.2.2,ar];exact hks
 refine z9 (w:=c.w) (prog:=c.prog) r cw [] s2 _ y.1 hD (by simp only[length_nil,Nat.zero_add];exact az hlk (by decide)) λh' Ul hs t=>bq ?_;have hm:merged [] cw=cw:=wX cw [] (y.2.2.symm▸hnd);rw[hm]at Ul;have w:=X2.zM (t:=t) Yy NH (CS hD) hs Ul y.2.1 (by rw[List.length_zip];exact az (Nat.min_le_left _ _) (az hks (by decide)));exact kQ _ _ _ _ _ q.2 w.1 ((z.2.trans g2).trans w.2) (.ref (p:=(s.heap.objs.size,w2)) Yy)
theorem Lh{keys:List (Option Expr)}{pos:Pos}:
  aH c FL fm hd n (λaA H Q E=>(H++ [.dict []])[H.length]? =some (.dict [])/\Q (.ref H.length) ((H++ [MO.dict []]).set H.length (.dict []))) (eval (.Dict [] [] pos) fm.aA):=by
 intro A ev ρ H s Q E Q' E' a h X l kQ kE;simp only[eval_Dict_empty];have z:=X.vA s.toks;simp only[tI h.1]at h;exact bp (wpAny_standAt (wpAny_newObj_type (kQ _ _ _ _ _ h.2 z.1 z.2 (.ref (p:=(s.heap.objs.size,s.heap.objs.size)) (X.sN _))) (by size_fits)))
end
def dS(FL:List bO)(fm:Fm):Prop:=∃mz outer L,FL=mz::outer/\mz.frame=some L/\fm.aA.frame=some L
section
variable (c:Cx) (FL:List bO) (fm:Fm) (ρ:eP) (s:Shared)
def Ud(E:SE)(E':Value->Shared->Prop):Prop:=∀e dA H1 ρ1 s1 p k aP x,E e dA H1->St c FL ρ1 H1 s1->fE fm dA ρ1 s1.heap->j9 fm ρ s.heap ρ1 s1.heap->ρ1[e]? =some p->H1[e]? =some (.aR k aP x)->di s1.heap p.1->E' (.ref p.1) s1
end
section
variable {c:Cx} {FL:List bO} {fm:Fm} {hd:Option Nat} {n:Nat}
theorem jC(K:cZ c){A:Around}(hA:A.frames=some FL)(hh:dS FL fm){ρ H}{s:Shared}{i:Nat}{p:Addr×Addr}{k:Nat}{aP:List (Nat×MV)}{x:Bool}(X:St c FL ρ H s)(hi:ρ[i]? =some p)(ho:H[i]? =some (.aR k aP x)){Q:Unit->Shared->Prop}{E}
  (q:∀s1,St c FL ρ H s1->Go ρ s.heap ρ s1.heap->di s1.heap p.1->Q () s1):wpAny (model c.prog c.w) A (noteFrame (.ref p.1) fm.aA) Q E s:=
 hh.elim λmz z=>z.elim λouter z=>z.elim λL z=>DB K z.1 hA z.2.1 z.2.2 X hi ho q
theorem Ud.vn{A:Around}{ρ s E E'}(K:cZ c)(hA:A.frames=some FL)(hh:dS FL fm)(OO:cD c fm)(k:Ud c FL fm ρ s E E'):Ei c FL fm ρ s E (notedBy (model c.prog c.w) A fm.aA E'):=by
 intro e dA H1 ρ1 s1 p kk aP x q X1 l1 g1 h1 h2;exact jC K hA hh X1 h1 h2 λs2 X2 g2 ht=>k e dA H1 ρ1 s2 p kk aP x q X2 (l1.go g2 X1.bD.nb) (g1.tr l1 OO g2.f) h1 h2 ht
theorem Ei.ye{ρ s E E'}(K:cZ c)(OO:cD c fm)(k:Ei c FL fm ρ s E E'):Ud c FL fm ρ s E (cameBackBy (model c.prog c.w) A fm.aA E'):=by
 intro e dA H1 ρ1 s1 p kk aP x q X1 l1 g1 h1 h2 ht;dsimp only[cameBackBy];refine ht.elim λo z=>z.elim λvs z=>z.elim λT z=>bp (wpAny_field z.1 z.2.1 z.2.2 ?_);refine(ag (show¬((Value.ref T==Value.none)=true)from by simp))▸?_;show wpAny _ _ (setFlight (.ref p.1) fm.aA.frame) _ _ _;exact dD K X1 h1 h2 λs2 X2 g2 u_=>k e dA H1 ρ1 s2 p kk aP x q X2 (l1.go g2 X1.bD.nb) (g1.tr l1 OO g2.f) h1 h2
theorem Ei.st{ρ s E E'}(k:Ei c FL fm ρ s E E'):Ud c FL fm ρ s E E':=λe dA H1 ρ1 s1 p kk aP x q X1 l1 g1 h1 h2 u_=>k e dA H1 ρ1 s1 p kk aP x q X1 l1 g1 h1 h2
theorem Cf{prog:Program}{w:World}{A:Around}{s:Shared}{test:Expr}{body orelse:List Stmt}{aA:bO}{R:Result->Shared->Prop}
  (turn:wpAny (model prog w) A (isTrue test aA (eval test aA)) (λb s₂=>
    if b then wpAny (model prog w) A (execs body aA) (λf s₃=>match f with
      | .next| .cont=>codeAny (model prog w) A (.whileLoop test body orelse aA) R s₃
      | .brk=>R (.ok .next) s₃
      | .ret v=>R (.ok (.ret v)) s₃) (notedBy (model prog w) A aA λe s'=>R (.error e) s') s₂
    else wpAny (model prog w) A (execs orelse aA) (λf s₃=>R (.ok f) s₃) (notedBy (model prog w) A aA λe s'=>R (.error e) s') s₂)
    (notedBy (model prog w) A aA λe s'=>R (.error e) s') s):codeAny (model prog w) A (.whileLoop test body orelse aA) R s:=by
 refine codeAny_loop' rfl (λu_ s'=>s'=s) (λn s' hI=>?_) 0 rfl;subst hI;show wpAny _ A ((whileTurn test body orelse aA).onRaise (λx=>do noteFrame x aA;theTreesLotGoes x)) _ _ s';refine wpAny_noted ?_;simp only[whileTurn];refine bp (wpAny_mono turn (λb s₂ h₂=>?_) λu_ u_ h'=>h');cases b with
 |false=>
  simp only[false_eq_true,if_false]at h₂⊢;exact bp (wpAny_mono h₂ (λf s₃ h₃=>bq h₃) λu_ u_ h'=>h')
 |true=>
  simp only[if_true]at h₂⊢;refine bp (wpAny_mono h₂ (λf s₃ h₃=>?_) λu_ u_ h'=>h');cases f with
  |next=>exact bq (.inr ⟨rfl,h₃⟩)
  |cont=>exact bq (.inr ⟨rfl,h₃⟩)
  |brk=>exact bq h₃
  |ret v=>exact bq h₃
theorem B4(K:cZ c)(hh:dS FL fm)(OO:cD c fm){t:bF}{vb:aD.Env->MH->SQ->SE->Prop}{et:Expr}{body:List Stmt}{pos:Pos}(ht:c9 c FL fm hd n t.eM (isTrue et fm.aA (eval et fm.aA)))(hb:bu c FL fm hd n vb (execs body fm.aA)):
  bu c FL fm hd n (λaA H Q E=>xM t.eM vb Q E aA H) (exec (.While et body [] pos) fm.aA):=by
 intro A ev ρ H s Q E Q' E' a h X l kQ kE;refine wpAny_While ?_;refine h (λdA H1=>∀ρ1 s1,St c FL ρ1 H1 s1->fE fm dA ρ1 s1.heap->j9 fm ρ s.heap ρ1 s1.heap->
  codeAny (model c.prog c.w) A (.whileLoop et body [] fm.aA) (λr s'=>match r with| .ok f=>Q' f s'| .error e=>cameBackBy (model c.prog c.w) A fm.aA E' e s') s1) (λdA H1 step ρ1 s1 X1 l1 g1=>?_) ρ s X l (.refl _ _ _)
 refine Cf ?_;have kN:Ei c FL fm ρ1 s1 E (notedBy (model c.prog c.w) A fm.aA λe s'=>cameBackBy (model c.prog c.w) A fm.aA E' e s'):=(((kE.ye K OO).vn K a.frames hh OO).go OO l1 g1)
 refine ht A dA ρ1 H1 s1 _ _ _ _ (a.b8 g1.b8) step X1 l1 (λb H2 ρ2 s2 q X2 g2=>?_) (kN.e X1 l1);have l2:=l1.go g2 X1.bD.nb;cases b with
 |false=>
  dsimp only[false_eq_true,if_false]at q⊢;exact wpAny_execs_nil (kQ _ _ _ _ _ _ q X2 l2 (g1.tr l1 OO g2.f) .next)
 |true=>
  dsimp only[if_true]at q⊢;refine hb A dA ρ2 H2 s2 _ E _ _ ((a.b8 g1.b8).b8 g2.b8) q X2 l2 (λfl ev3 H3 ρ3 s3 qo q3 X3 l3 g3 r3=>?_) (kN.go OO l2 g2.f);have nH:=(g1.tr l1 OO g2.f).tr l2 OO g3;cases r3 with
  |next=>exact q3 ρ3 s3 X3 l3 nH
  |cont=>exact q3 ρ3 s3 X3 l3 nH
  |brk=>exact kQ _ _ _ _ _ _ q3 X3 l3 nH .next
  |ret r=>exact kQ _ _ _ _ _ _ q3 X3 l3 nH (.ret r)
theorem WM{h:Heap}{M:Model}{x:Addr}{o:Obj}(X:c.K.In h)(O:eO c)(hx:h.get? x=some o)(hc:o.cls= .ref 84):Looks M h (isInstance (.ref x) (.type "BaseException")) true:=by
 have T0:Looks M h (typeOf (.ref x)) (.ref 84):=hc▸(Looks.ld hx).andThen .now;refine T0.andThen (looks_mroIn X ?_);unfold mroIn;exact O.aR.mro.elim λcd z=>by rw[z.1,bind_some,z.2.2];rfl
theorem ER.gC{ρ:eP}{H:MH}{s:Shared}{i k:Nat}{p:Addr×Addr}{aP x o vs mA h' jo}(I:ER c.so ρ s.heap p k aP x o vs mA)(X:St c FL ρ H s)(ei:ρ[i]? =some p)(hs:Heap.SameBut p.1 s.heap h')(self:h'.get? p.1=some {o with data:=.fields jo})(hz:jo.size=vs.size)(h0:jo[0]? =vs[0]?)(h1:jo[1]? =vs[1]?){t:Nat}:
  St c FL ρ (H.set i (.aR k aP true)) {s with heap:=h',toks:=t}/\Go ρ s.heap ρ h':=
 have ex:Ex [p.1,p.2] s.heap h':=(Ex.cP hs).bt λb hb=>bg hb▸.head _;have nb:=iB X ei
 X.gC ei ex (λ⟨o',ws,T',e',d',v'⟩=>⟨_,_,T',self,rfl,h1.trans (by injection(I.e.symm.trans e')with I1;subst I1;injection(I.iA.symm.trans d')with I1;subst I1;exact v')⟩)
  (.aR I.hI self I.hc rfl (hz.trans I.hz) (I.ui.imp id λd=>⟨d.1,d.2.1,d.2.2.at λob eb=>(hs.2 _ d.2.1).trans eb⟩) (I.hA.bt (.refl ρ) ex.keep nb.nt) I.hx
   (I.ha.elim λT z=>z.elim λoT z=>z.elim λts z=>z.elim λm z=>(ex.keep.get (λq=>(nb _ q _ z.2.1).1 _ _ z.2.2.2 z.2.2.1) z.2.1 (by refine z.2.2.1▸?_;decide)).elim λS2 y=>⟨T,S2,ts,m,h0.trans z.1,y.1,y.2.1.trans z.2.2.1,y.2.2.2.trans z.2.2.2⟩)
   (h1▸I.ht.bt ex.keep nb.tb) (by intro I1;injection I1))
theorem BP{aP x}{R:Nat->MH->Prop}{E':Value->Shared->Prop}{Q':Flow->Shared->Prop}(a:jm A FL hd ρ0 n)(lq:qQ ρ0 ρ)(X:St c FL ρ H s)(ei:ρ[i]? =some p)(hb:H[i]? =some (.aR k aP x))(q:BO H i k aP R hd)
 (kE:∀H2 s2 x2,R i H2->St c FL ρ H2 s2->Go ρ s.heap ρ s2.heap->H2[i]? =some (.aR k aP x2)->E' (.ref p.1) s2):wpAny (model c.prog c.w) A (raiseNew (.ref p.1):Sem Flow) Q' E' s:=by
 have hA:=a.handled;have plain:R i H->E' (.ref p.1) s:=λz=>kE H s x z X (.refl _ _) hb;refine X.jx ei hb λo vs mA I=>?_;have hz:2<vs.size:=I.hz▸(by decide);generalize hw:A.handled=w at hA;cases hA with
 |none=>exact kK (.inl hw) I.e I.iA hz (λu_=>plain q) (λz=>(by injection(hw.symm.trans z))) λy h' hy=>(by injection(hw.symm.trans hy))
 |@some j pj ej0=>
  refine(lq _ _ ej0).elim λw2 ej=>?_;have q:if j=i then R i H else FI H[j]? λu_ u_ y=>y=false/\R i (H.set i (.aR k aP true)):=q
  by_cases qr:j=i
  ·rw[ah qr]at q;have ei2:ρ[j]? =some p:=qr.symm▸ei;have e3:(pj.1,w2)=p:=inj (ej.symm.trans ei2);have e2:pj.1=p.1:=e3▸rfl;unfold raiseNew;refine bp (wpAny_handled ?_);refine hw▸?_;dsimp only;rw[e2,ag (by simp)];exact bp (bq (wpAny_throw (plain q)))
  ·rw[ag qr]at q;have ap:=X.bD.apart j i _ _ ej ei qr;refine Kh q λk2 at2 b2 hbj q=>X.jx ej hbj λo2 vs2 mA2 I2=>kK (.inr ⟨pj.1,o2,vs2,hw,I2.e,I2.iA,I2.hf q.1⟩) I.e I.iA hz (λz=>(by injection(hw.symm.trans z))) (λz=>a9 (Value.ref.inj (inj (hw.symm.trans z))) ap.1) λy h' hy qJ hs he=>?_;have n1:∀(y:Value) (j:Nat),j≠2->(vs.setIfInBounds 2 y)[j]? =vs[j]? :=λy j hj=>Array.getElem?_setIfInBounds_ne hj.symm;have z:=I.gC X ei hs he size_setIfInBounds (n1 _ 0 (by decide)) (n1 _ 1 (by decide)) (t:=s.toks);exact kE _ _ true q.2 z.1 z.2 (getElem?_set_self (bo hb).1)
theorem B3(K:cZ c)(O:eO c){v:aD.Env->MH->PQ->PE->Prop}(aad:typeIn c.K (.ref 84)=some (.type "type"))(hv:aH c FL fm hd n v (eval e fm.aA)):
  bu c FL fm hd n (λaA H u_ E=>v aA H (λv H1=>mT hd H1 v λi H2=>E i aA H2) (λx H1=>E x aA H1)) (exec (.Raise (some e) none pos) fm.aA):=by
 intro A ev ρ H s Q E Q' E' a h X l kQ kE;simp only[arm_exec_Raise];refine bp (wpAny_standAt ?_);show wpAny _ _ (raiseStmt fm.aA (some (do let v<-eval e fm.aA;standAt pos;pure v)) none) _ _ _;unfold raiseStmt;refine bp (bp (hv A ev ρ H s _ _ _ E' a h X l (λy H1 ρ1 s1 y' q X1 g1 r1=>?_) (kE.e X l)));refine bp (wpAny_standAt (bq ?_));have l1:=l.go g1 X.bD.nb;refine FU r1 q λi r1 q=>Kh q λk aP b hb q=>X1.ev r1 hb (P:=λz=>z=y'->wpAny _ _ _ Q' E' s1) (λp o vs mA ei I hy=>?_) rfl;subst hy;have hI:=I.hI;subst hI;have ki:=X1.u7 K;have nt:Looks (model c.prog c.w) s1.heap (isType (.ref p.1)) false:=by
  intro A' Q2 E2 s2 k2 q2;delta isType loadHead;refine bp (wpAny_loadPart (k2 _ _ I.e) ?_);refine I.iA▸?_;exact bq q2
 have T0:Looks (model c.prog c.w) s1.heap (typeOf (.ref p.1)) (.ref 84):=I.hc▸(Looks.ld I.e).andThen .now;refine bp (bq (bp (wpAny_holding ?_)));delta excFromValue isExcClass;refine bp (bp (nt.here ?_));rw[ag (by decide)];refine bq ?_;rw[ag (by decide)];refine bp ((WM (M:=model c.prog c.w) ki O I.e I.hc).here ?_);rw[ah rfl];refine bq ?_;dsimp only;refine bp (nt.here ?_);rw[ag (by decide)];unfold raisedInstance;refine bp (bp (T0.here (bp ((looks_typeIn ki aad).here ?_))));rw[ah (by decide)];exact bq (bp (dD K X1 ei hb λs2 X2 g2 u_=>BP a g1.b8 X2 ei hb q λH2 s3 x2 z X3 g3 R0=>kE _ _ _ _ _ _ _ _ _ z X3 ((l1.go g2 X1.bD.nb).go g3 X2.bD.nb) ((g1.trans g2).trans g3).f ei R0))
end
section
variable {c:Cx} {FL:List bO} {fm:Fm} {hd:Option Nat} {n:Nat}
theorem ve{E}{ρ H ev}{Q:Unit->Shared->Prop}(F:c7 fm)(OO:cD c fm)(X:St c FL ρ H s)(l:fE fm ev ρ s.heap)(hi:fm.ns[i]? =some x)(hk:fm.aA.kindOf x=some .local)
 (q:∀s1,St c FL ρ H s1->fE fm (bN ev i .none) ρ s1.heap->j9 fm ρ s.heap ρ s1.heap->(∀b,b≠fm.aA.locals->s1.heap.get? b=s.heap.get? b)->Q () s1):
  wpAny (model c.prog c.w) A (do bindName fm.aA x .none;unbindBehindTheSuite fm.aA x pos) Q E s:=by
 refine l.ex.elim λm z=>z.elim λcm z=>?_;have hN:=z.1;have hv:GU fm ev ρ s.heap m cm:=z.2.2;have hp:=sM F;refine bp (wpAny_bindName (wpAny_storeName_local hk hN (λh₁ hn₁ NI=>?_) hp));unfold unbindBehindTheSuite;refine wpAny_onRaise ?_;unfold unbindName;refine bp (wpAny_point (bp ?_));dsimp only[deleteName];simp only[hk,hp];rw[ag (by decide)];refine bp (JK hn₁ λh₂ m₂ hn₂ hy hs₂=>?_);simp only[if_true,isSome_some,Bool.not_true,false_eq_true,if_false];refine bq (wpAny_point ?_);have hs:=NI.trans hs₂;have h0:∃o,s.heap.get? fm.aA.locals=some o/\∀vs,o.data≠.fields vs/\∀ws n,o.data≠.seq ws n:=hN.elim λo z=>z.elim λu_ z=>z.elim λu_ z=>⟨o,z.1,λvs=>⟨iC hN z.1 vs,λws n q=>(by injection(z.2.1.symm.trans q))⟩⟩
 have w:=X.m5 F l (a:=fm.aA.locals) (.head _) l.m5 (OO.bQ _ (.head _)) (s.toks+1) hs h0 (zp hn₂);exact q _ w.1 ⟨⟨m₂,cm,hn₂,λn a e=>(z.2.1 n a e).elim λo y=>⟨o,(hs.2 a (l.cells n a e).2).trans y.1,y.2⟩,hv.set F hi (lt_of_lt_of_le (bo hi).1 l.len) (Ex.cP hs).keep (mK h0).nt (λy qJ=>(hy y qJ).trans (ag qJ)) (λu_ u_=>rfl) (λu_=>.none) λz=>⟨((hv i x hi).2 z).1,.none⟩⟩,
  l.m5,l.cells,(gc ..).symm▸l.len⟩ w.2 (λb hb=>hs.2 b hb)
theorem L7.RY{ρ h ρ1 h1 ev}(OO:cD c fm)(l:fE fm ev ρ h)(nb:NB (bV ρ) h)(r:L7 ρ h fl f)(g:j9 fm ρ h ρ1 h1):L7 ρ1 h1 fl f:=by
 cases r with
 |ret r=>exact .ret (r.bt g.b8 g.keep (BF OO l nb))
 |next=>exact .next
 |brk=>exact .brk
 |cont=>exact .cont
theorem A6{Q':Flow->Shared->Prop}{E:Value->Shared->Prop}(f:Flow)(k:Q' f s):match(generalizing:=false) f with| .next=>wpAny (model c.prog c.w) A (execs [] fm.aA) Q' E s|g=>Q' g s:=by
 cases f with
 |next=>exact wpAny_execs_nil k
 |_=>exact k
theorem xq{α:Type}{aa4:String}{A:Around}{s:Shared}{p:Addr×Addr}{Q:α->Shared->Prop}{E}(ht:di s.heap p.1)(k:wpAny (model c.prog c.w) A (setFlight (.ref p.1) fm.aA.frame) (λu_ s'=>wpAny (model c.prog c.w) A (throw (Value.ref p.1)) Q E s') E s):wpAny (model c.prog c.w) A (PySem.passOn aa4 (.ref p.1) fm.aA) Q E s:=by
 dsimp only[PySem.passOn];refine ht.elim λo z=>z.elim λvs z=>z.elim λT z=>bp (wpAny_field z.1 z.2.1 z.2.2 ?_);refine(ag (show¬((Value.ref T==Value.none)=true)from by simp))▸?_;exact bp k
theorem jm.mark(a:jm A FL hd ρ n)(h:ρ[e]? =some p):jm (A.mark (some (.ref p.1))) FL (some e) ρ n:=⟨a.frames,a.depth,a.units,Pk.some h⟩
theorem Ni(K:cZ c){M:Model}{ρ H}{s:Shared}{e:Nat}{p:Addr×Addr}{k:Nat}{aP:List (Nat×MV)}{b:Bool}(X:St c FL ρ H s)(h1:ρ[e]? =some p)(h2:H[e]? =some (.aR k aP b))(hx:exmOne c.K (.ref 84) (.ref 84)=some true):Looks M s.heap (excMatches (.ref p.1) (.ref 84)) true:=by
 refine X.jx h1 h2 λo vs mA I=>?_;have hI:=I.hI;subst hI;exact exm_one (X.u7 K) (I.hc▸(Looks.ld I.e).andThen .now) hx
theorem sF(K:cZ c)(F:c7 fm){A:Around}{ρ H}{s:Shared}{e:Nat}{p:Addr×Addr}{k:Nat}{aP:List (Nat×MV)}{b:Bool}{y:Str}{yp:Pos}{name:Option Str}{body:List Stmt}{pos:Pos}{Q':Flow->Shared->Prop}{E':Value->Shared->Prop}
  (X:St c FL ρ H s) (h1:ρ[e]? =some p) (h2:H[e]? =some (.aR k aP b)) (hy:Pj c fm y 84) (hx:exmOne c.K (.ref 84) (.ref 84)=some true)
  (h:codeAny (model c.prog c.w) (A.mark (some (.ref p.1))) (.handlers (.ref p.1) [.ExceptHandler none name body pos] fm.aA) (λr s₂=>match r with
     | .ok f=>(match name with
      |none=>Q' f s₂
      |some n=>wpAny (model c.prog c.w) A (do bindName fm.aA n .none;unbindBehindTheSuite fm.aA n pos) (λu_ s₃=>Q' f s₃) E' s₂)
     | .error x=>cameBackBy (model c.prog c.w) A fm.aA E' x s₂) s):
  wpAny (model c.prog c.w) A (handleBy (.ref p.1) fm.aA [.ExceptHandler (some (.Name y yp)) name body pos]) Q' E' s:=by
 refine wpAny_handleBy_cons (codeAny_handlers_test (hy.load F K X.c6 ?_)) (by intro q;injection q);exact(Ni K X h1 h2 hx).here h
theorem Gi(K:cZ c)(F:c7 fm)(hh:dS FL fm)(OO:cD c fm){vb:aD.Env->MH->SQ->SE->Prop}{vh:Nat->aD.Env->MH->SQ->SE->Prop}{body:List Stmt}{b0:Stmt}{hb:List Stmt}{y:Str}{yp hp pos:Pos}(hy:Pj c fm y 84)(hx:exmOne c.K (.ref 84) (.ref 84)=some true)
  (h1:bu c FL fm hd n vb (execs body fm.aA)) (h2:∀e,bu c FL fm (some e) n (vh e) (execs (b0::hb) fm.aA)):
  bu c FL fm hd n (λaA H Q E=>vb aA H Q λe aG H1=>vh e aG H1 Q E) (exec (.Try body [.ExceptHandler (some (.Name y yp)) none (b0::hb) hp] [] [] pos) fm.aA):=by
 intro A ev ρ H s Q E Q' E' a h X l kQ kE;refine wpAny_Try_except (h1 A ev ρ H s _ _ _ _ a h X l (λfl dA H1 ρ1 s1 qo q X1 l1 g1 r1=>?_) (λe dA H1 ρ1 s1 p k aP x q X1 l1 g1 i1 i2=>?_))
 ·exact A6 qo (kQ _ _ _ _ _ _ q X1 l1 g1 r1)
 ·refine jC K a.frames hh X1 i1 i2 λs2 X2 g2 ht=>?_;refine dD K X2 i1 i2 λs3 X3 g3 u_=>?_;have PT:=g2.trans g3;have l3:=l1.go PT X1.bD.nb;have nH:=g1.tr l1 OO PT.f;refine sF K F X3 i1 i2 hy hx (codeAny_handlers_suite ?_);have am:jm (A.mark (some (.ref p.1))) FL (some e) ρ1 n:=(a.b8 g1.b8).mark i1;refine dD K X3 i1 i2 λs4 X4 g4 u_=>?_;have l4:=l3.go g4 X3.bD.nb;have GI:=nH.tr l3 OO g4.f;have kB:Ud c FL fm ρ1 s4 E (cameBackBy (model c.prog c.w) A fm.aA E'):=(kE.go OO l4 GI).ye K OO;refine h2 e _ dA ρ1 H1 s4 Q E _ _ am q X4 l4 (kQ.go OO l4 GI) (kB.vn K am.frames hh OO)
theorem Gk(K:cZ c)(F:c7 fm)(hh:dS FL fm)(OO:cD c fm){vb:aD.Env->MH->SQ->SE->Prop}{vh:Nat->aD.Env->MH->SQ->SE->Prop}{body:List Stmt}{b0:Stmt}{hb:List Stmt}{y x:Str}{i:Nat}{yp hp pos:Pos}(hy:Pj c fm y 84)(hx:exmOne c.K (.ref 84) (.ref 84)=some true)
  (hi:fm.ns[i]? =some x) (hk:fm.aA.kindOf x=some .local) (h1:bu c FL fm hd n vb (execs body fm.aA)) (h2:∀e,bu c FL fm (some e) n (vh e) (execs (b0::hb) fm.aA)):
  bu c FL fm hd n (λaA H Q E=>vb aA H Q λe aG H1=>vh e (bN aG i (some (.ref e))) H1 (λfl aI H2=>Q fl (bN aI i .none) H2) (λe2 aI H2=>E e2 (bN aI i .none) H2)) (exec (.Try body [.ExceptHandler (some (.Name y yp)) (some x) (b0::hb) hp] [] [] pos) fm.aA):=by
 intro A ev ρ H s Q E Q' E' a h X l kQ kE;refine wpAny_Try_except (h1 A ev ρ H s _ _ _ _ a h X l (λfl dA H1 ρ1 s1 qo q X1 l1 g1 r1=>?_) (λe dA H1 ρ1 s1 p k aP b q X1 l1 g1 i1 i2=>?_))
 ·exact A6 qo (kQ _ _ _ _ _ _ q X1 l1 g1 r1)
 ·refine jC K a.frames hh X1 i1 i2 λs2 X2 g2 ht=>?_;refine dD K X2 i1 i2 λs3 X3 g3 u_=>?_;have PT:=g2.trans g3;have l3:=l1.go PT X1.bD.nb;have nH:=g1.tr l1 OO PT.f;refine sF K F X3 i1 i2 hy hx (codeAny_handlers_suite_as ?_);have am:jm (A.mark (some (.ref p.1))) FL (some e) ρ1 n:=(a.b8 g1.b8).mark i1;refine dD K X3 i1 i2 λs4 X4 g4 u_=>?_;have l4:=l3.go g4 X3.bD.nb;have GI:=nH.tr l3 OO g4.f;refine pN F OO X4 l4 hi (.inl hk) (.ref i1) λs5 X5 l5 g5=>?_;have g15:=GI.tr l4 OO g5;have kQ5:=kQ.go OO l5 g15;have kE5:=kE.go OO l5 g15;refine h2 e _ _ ρ1 H1 s5 _ _ _ _ am q X5 l5 (λfl ev6 H6 ρ6 s6 qo q6 X6 l6 g6 r6=>?_) (λe2 ev6 H6 ρ6 s6 p6 k6 at6 b6 q6 X6 l6 g6 j1 j2=>?_)
  ·dsimp only;refine ve F OO X6 l6 hi hk λs7 X7 l7 g7 ext=>?_;exact kQ5 _ _ _ _ _ _ q6 X7 l7 (g6.tr l6 OO g7) (r6.RY OO l6 X6.bD.nb g7)
  ·refine jC K am.frames hh X6 j1 j2 λs7 X7 g7 ht7=>?_;have l7:=l6.go g7 X6.bD.nb;refine ve F OO X7 l7 hi hk λs8 X8 l8 g8 ext=>?_;have ht8:di s8.heap p6.1:=ht7.at λo eo=>(ext _ λz=>l7.m5 (z▸(aO j1).1)).trans eo;have g68:=(g6.tr l6 OO g7.f).tr l7 OO g8;refine xq ht8 (dD K X8 j1 j2 λs9 X9 g9 u_=>wpAny_throw ?_);have l9:=l8.go g9 X8.bD.nb;have kB:Ud c FL fm ρ6 s9 E (cameBackBy (model c.prog c.w) A fm.aA E'):=(kE5.go OO l9 (g68.tr l8 OO g9.f)).ye K OO;exact(kB.vn K am.frames hh OO) e2 _ _ ρ6 s9 p6 k6 at6 b6 q6 X9 l9 (.refl _ _ _) j1 j2
end
section
variable {c:Cx} {FL:List bO} {fm:Fm} {hd:Option Nat} {n:Nat}
theorem ET{ρ H}{s:Shared}{e:Nat}{p:Addr×Addr}(X:St c FL ρ H s)(h1:ρ[e]? =some p)(ht:di s.heap p.1):∃k aP b,H[e]? =some (.aR k aP b):=by
 have hl:e<H.length:=X.bD.len▸(bo h1).1;have r:=X.bD.mh _ _ H[e] h1 (getElem?_eq_getElem hl);refine(getElem?_eq_getElem hl)▸?_;generalize H[e]=o at r;cases r with
 |list e1=>exact Fw e1 (by intro I1 I2;injection I2) ht
 |jy e1 hc hd=>exact Fw e1 (λu_ q=>(by injection(hd.symm.trans q))) ht
 |dict hD=>exact hD.elim λo z=>z.elim λes z=>Fw z.1 (λu_ q=>(by injection(z.2.2.1.symm.trans q))) ht
 |aK hI e1 hc hd=>exact Fw e1 (λu_ q=>(by injection(hd.symm.trans q))) ht
 |aR=>exact⟨_,_,_,rfl⟩
theorem Gj(K:cZ c)(hh:dS FL fm)(OO:cD c fm){vb:aD.Env->MH->SQ->SE->Prop}{vf:Option Nat->aD.Env->MH->SQ->SE->Prop}{body:List Stmt}{f0:Stmt}{fs:List Stmt}{pos:Pos}
  (h1:bu c FL fm hd n vb (execs body fm.aA)) (h2:∀hd,bu c FL fm hd n (vf hd) (execs (f0::fs) fm.aA)):
  bu c FL fm hd n (λaA H Q E=>vb aA H
   (λfl aG H1=>vf hd aG H1 (λf2 aI H2=>match f2 with| .next=>Q fl aI H2|_=>False) E)
   (λe aG H1=>vf (some e) aG H1 (λf2 aI H2=>match f2 with| .next=>E e aI H2|_=>False) E)) (exec (.Try body [] [] (f0::fs) pos) fm.aA):=by
 intro A ev ρ H s Q E Q' E' a h X l kQ kE;have plain:∀(fl:Fl) (f:Flow) (dA:aD.Env) (H1:MH) (ρ1:eP) (s1:Shared),vf hd dA H1 (λf2 aI H2=>match f2 with| .next=>Q fl aI H2|_=>False) E->St c FL ρ1 H1 s1->fE fm dA ρ1 s1.heap->j9 fm ρ s.heap ρ1 s1.heap->L7 ρ1 s1.heap fl f->
   wpAny (model c.prog c.w) A (execs (f0::fs) fm.aA) (λg s'=>match g with| .next=>Q' f s'|g=>Q' g s') (notedBy (model c.prog c.w) A fm.aA (cameBackBy (model c.prog c.w) A fm.aA E')) s1:=by
  intro fl f dA H1 ρ1 s1 q X1 l1 g1 r1;refine h2 hd A dA ρ1 H1 s1 _ E _ _ (a.b8 g1.b8) q X1 l1 (λf2 wi H2 ρ2 s2 f2' q2 X2 l2 g2 r2=>?_) (((kE.go OO l1 g1).ye K OO).vn K a.frames hh OO);cases r2 with
  |next=>exact kQ _ _ _ _ _ _ q2 X2 l2 (g1.tr l1 OO g2) (r1.RY OO l1 X1.bD.nb g2)
  |brk=>exact q2.elim
  |cont=>exact q2.elim
  |ret _=>exact q2.elim
 have raised:∀(e:Nat) (p:Addr×Addr) (k:Nat) (aP:List (Nat×MV)) (b:Bool) (dA:aD.Env) (H1:MH) (ρ1:eP) (s1:Shared),vf (some e) dA H1 (λf2 aI H2=>match f2 with| .next=>E e aI H2|_=>False) E->St c FL ρ1 H1 s1->fE fm dA ρ1 s1.heap->j9 fm ρ s.heap ρ1 s1.heap->
   ρ1[e]? =some p->H1[e]? =some (.aR k aP b)->FinallyRaised c.prog c.w A E' fm.aA (f0::fs) Q' (.ref p.1) s1:=by
  intro e p k aP b dA H1 ρ1 s1 q X1 l1 g1 i1 i2;refine⟨ref_ne_byPass _,jC K a.frames hh X1 i1 i2 λs2 X2 g2 ht=>?_⟩;refine dD K X2 i1 i2 λs3 X3 g3 hft=>?_;have PT:=g2.trans g3;have l3:=l1.go PT X1.bD.nb;have nH:=g1.tr l1 OO PT.f;have ht3:=hft ht;have am:jm (A.mark (some (.ref p.1))) FL (some e) ρ1 n:=(a.b8 g1.b8).mark i1;have kE3:=kE.go OO l3 nH;refine h2 (some e) _ dA ρ1 H1 s3 _ E _ _ am q X3 l3 (λf2 Yq H4 ρ4 s4 f2' q4 X4 l4 g4 r4=>?_) ((kE3.ye K OO).vn K am.frames hh OO);cases r4 with
  |next=>
   have ht4:=g4.tb e p i1 ht3;refine(g4.b8 e p i1).elim λw4 i4=>(ET X4 i4 ht4).elim λk4 z=>z.elim λat4 z=>z.elim λb4 j4=>xq ht4 (dD K X4 i4 j4 λs5 X5 g5 u_=>wpAny_throw ?_);exact kE3 e Yq H4 ρ4 s5 (p.1,w4) _ _ _ q4 X5 (l4.go g5 X4.bD.nb) (g4.tr l4 OO g5.f) i4 j4
  |brk=>exact q4.elim
  |cont=>exact q4.elim
  |ret _=>exact q4.elim
 refine wpAny_Try_finally (h1 A ev ρ H s _ _ _ _ a h X l (λfl dA H1 ρ1 s1 qo q X1 l1 g1 r1=>?_) (λe dA H1 ρ1 s1 p k aP b q X1 l1 g1 i1 i2=>?_))
 ·exact A6 qo (plain fl qo dA H1 ρ1 s1 q X1 l1 g1 r1)
 ·refine jC K a.frames hh X1 i1 i2 λs2 X2 g2 ht=>?_;exact raised e p k aP b dA H1 ρ1 s2 q X2 (l1.go g2 X1.bD.nb) (g1.tr l1 OO g2.f) i1 i2
end
inductive IK|aF|list|dict|range
def eW(k:IK)(h:Heap)(I:Addr)(x':Value)(n i:Nat):Prop:=match k with
 | .aF=>∃t,x'= .ref t/\h.IsTupleIter I t i
 | .list=>∃l,x'= .ref l/\h.IsListIter I l i
 | .dict=>∃d,x'= .ref d/\h.IsKeyIter I d i n n
 | .range=>IsRangeIter h I (i:Int) ((n:Int)-i) 1
def rI(k:IK)(H:MH)(x:MV)(vs:List MV):Prop:=match k with
 | .aF=>x= .aF vs
 | .list=>∃r,x= .ref r/\H[r]? =some (.list vs)
 | .dict=>∃r es,x= .ref r/\H[r]? =some (.dict es)/\vs=es.map λe=>.str e.1
 | .range=>vs=(List.range vs.length).map λi=>.int (i:Nat)
noncomputable def Tj:List String:=["enumerate","zip","dict_itemiterator","dict_reverseitemiterator","odict_iterator","itertools.zip_longest","itertools.pairwise"]
structure ItO(h:Heap)(I:Addr)(o:Obj)(T:String)(vs:Array Value):Prop where
 e:h.get? I=some o
 hc:o.cls= .type T
 hd:o.data= .fields vs
 n1:T≠"list"
 n2:T≠"tuple"
 n3:T≠"traceback"
 ow:Tj.contains T=false
theorem eW.o{k h I x' n i}(a:eW k h I x' n i):∃o T vs,ItO h I o T vs:=by
 cases k with
 |range=>exact⟨_,_,_,a,rfl,rfl,by decide,by decide,by decide,by decide⟩
 |_=>exact a.elim λt z=>z.2.elim λo z=>⟨o,_,_,z.1,z.2.1,z.2.2,by decide,by decide,by decide,by decide⟩
theorem eW.oe{k h I x' n i}(a:eW k h I x' n i){P:Prop}(q:∀o T vs,ItO h I o T vs->P):P:=a.o.elim λo z=>z.elim λT z=>z.elim λvs z=>q o T vs z
theorem eW.at{k h h' I x' n i}(a:eW k h I x' n i)(e:∀o,h.get? I=some o->h'.get? I=some o):eW k h' I x' n i:=by
 cases k with
 |range=>exact e _ a
 |_=>exact a.elim λt z=>⟨t,z.1,z.2.elim λo z=>⟨o,e _ z.1,z.2⟩⟩
section
variable {c:Cx} {FL:List bO} {fm:Fm} {hd:Option Nat} {n:Nat}
theorem fj{k ρ H}(X:St c FL ρ H s)(a:eW k s.heap I x' m i):I∉bV ρ:=λq=>a.oe λo T vs w=>(X.bD.om q).elim λob z=>by
 injection(w.e.symm.trans z.1)with I1;subst I1;exact z.2.elim (λz=>w.n1 (Value.type.inj (w.hc.symm.trans z))) λz=>z.elim (λz=>z.elim λes z=>z.elim λn z=>(by injection(w.hd.symm.trans z))) λz=>z.elim λC z=>(by injection(w.hc.symm.trans z))
theorem u4{k ρ ev}(OO:cD c fm)(l:fE fm ev ρ h)(a:eW k h I x' m i):I∉rG fm:=λq=>a.oe λo T vs w=>(l.om I q OO.O9).elim λob z=>by
 injection(w.e.symm.trans z.1)with I1;subst I1;exact z.2 vs w.hd
theorem St.iter{k ρ H}(X:St c FL ρ H s)(a:eW k s.heap I x' m i)(hb:c.bQ.get? I=none)(ex:Ex [I] s.heap h'):St c FL ρ H {s with heap:=h',toks:=t}:=by
 refine a.oe λo T vs w=>X.free ex (λb qI=>bg qI▸hb) (λb qI=>bg qI▸fj X a) (λb qI ob eb=>?_) (dG ex.keep (λb qI q=>?_) X.frames)
 ·rw[bg qI,w.e]at eb;injection eb with I1;subst I1
  exact⟨λws n q=>((by injection(w.hd.symm.trans q))),λvs2 q z=>w.n3 (Value.type.inj (w.hc.symm.trans z))⟩
 ·simp only[bg q]at qI;refine(X.frames.mem qI).2.elim λo2 z=>?_;injection(w.e.symm.trans z.1)with I1;subst I1;exact z.2 vs w.hd
theorem xa{k}(a:eW k h I x' m i):NT [I] h:=λb hb o e ws n d=>a.oe λo' T vs w=>by
 rw[bg hb,w.e]at e;injection e with I1;subst I1
 exact(by injection(w.hd.symm.trans d))
theorem fE.iter{k ρ ev}(OO:cD c fm)(l:fE fm ev ρ h)(a:eW k h I x' m i)(ex:Ex [I] h h'):fE fm ev ρ h':=
 have ni:∀b∈rG fm,b∉[I]:=λb hb q=>u4 OO l a (bg q▸hb);have nt:=xa a
 ⟨l.ex.elim λmm z=>z.elim λcm z=>⟨mm,cm,sW z.1 λo e=>⟨o,ex _ o (ni _ (.head _)) e,rfl⟩,λn a e=>pb (z.2.1 n a e) λo eo=>⟨o,ex _ o (ni _ (.tail _ (mem_map.mpr ⟨_,dK e,rfl⟩))) eo,rfl⟩,
  λi x e=>⟨λq=>((z.2.2 i x e).1 q).bt (.refl ρ) ex.keep nt,λq=>⟨((z.2.2 i x e).2 q).1,((z.2.2 i x e).2 q).2.bt (.refl ρ) ex.keep nt⟩⟩⟩,l.m5,l.cells,l.len⟩
theorem j9.iter{ρ0 h0 ρ1 h1 h2 I}(g:j9 fm ρ0 h0 ρ1 h1)(ex:Ex [I] h1 h2)(ZL:h0.get? I=none)(hI:I∉bV ρ1):j9 fm ρ0 h0 ρ1 h2:=
 ⟨g.b8,g.new,λb o hb e=>(g.keep b o hb e).elim λo1 z=>⟨o1,ex _ _ (λq=>a9 ((bg q▸e:h0.get? I=some o).symm.trans ZL) (by intro I1;injection I1)) z.1,z.2⟩,λi p e t=>(g.b8 i p e).elim λq e1=>(g.tb i p e t).at λo eo=>ex _ _ (λz=>hI (bg z▸(aO e1).1)) eo⟩
theorem lx{k:IK}{P:Prop}(r:k= .range\/P)(h:k≠.range):P:=r.elim (λe=>a9 e h) id
theorem Dj{k ρ H}{A:Around}{E}{s:Shared}{I:Addr}{x:MV}{x':Value}{vs:List MV}{i:Nat}{v:MV}{Q:Option Value->Shared->Prop}(X:St c FL ρ H s)(r:k= .range\/VR ρ s.heap x x')(src:rI k H x vs)(a:eW k s.heap I x' vs.length i)(hv:vs[i]? =some v)
  (q:∀h' t y,Heap.SameBut I s.heap h'->eW k h' I x' vs.length (i+1)->VR ρ s.heap v y->Q (some y) {s with heap:=h',toks:=t}):wpAny (model c.prog c.w) A (pyNext (.ref I)) Q E s:=by
 cases k with
 |aF=>
  subst src;exact a.elim λt a=>(lx r (by intro I1;injection I1)).te (P:=λx'=>x'= .ref t->wpAny _ _ (pyNext (.ref I)) Q E s) (λad o ws m eo hc iA v1 hz et=>(v1.at hv).elim λy w=>wpAny_pyNext_tuple_item a.2 (Value.ref.inj et▸⟨o,eo,hc,m,iA⟩) (getElem?_toList.symm.trans w.1) λh' Bh hs=>q h' s.toks y hs ⟨t,a.1,Bh⟩ w.2) a.1
 |list=>
  refine src.elim λr0 z=>?_;obtain rfl:=z.1;exact a.elim λt a=>X.lv (lx r (by intro I1;injection I1)) z.2 (P:=λx'=>x'= .ref t->wpAny _ _ (pyNext (.ref I)) Q E s) (λp ws m ei e1 v1 u_ u_ et=>(v1.at hv).elim λy w=>wpAny_pyNext_list_item a.2 (Value.ref.inj et▸⟨_,e1,rfl,m,rfl⟩) (getElem?_toList.symm.trans w.1) λh' Bh hs=>q h' s.toks y hs ⟨_,a.1,Bh⟩ w.2) a.1
 |dict=>
  refine src.elim λr0 z=>z.elim λes z=>?_;obtain rfl:=z.1;refine a.elim λt a=>X.dv (lx r (by intro I1;injection I1)) z.2.1 (P:=λx'=>x'= .ref t->wpAny _ _ (pyNext (.ref I)) Q E s) (λp cw ei hD hk u_ u_ et=>?_) a.1;have ln:vs.length=cw.length:=z.2.2▸(ar _).trans hk.1;have hit:=a.2;rw[z.2.2,getElem?_map]at hv;rw[ln]at hit;refine sR hv λe he ev=>?_;have hi:i<cw.length:=hk.1▸(bo he).1;have w:=hk.2 i e cw[i] he (getElem?_eq_getElem hi);refine wpAny_pyNext_dict_item (k:=cw[i].1) (v:=cw[i].2) hit (Value.ref.inj et▸hD) (getElem?_eq_getElem hi) λkey h' yK Bh hs=>?_;exact(Value.isStrOf_shape (show Value.isStrOf cw[i].1 key=true from yK)).elim λt2 ht=>ht▸q h' s.toks _ hs ⟨_,a.1,ln.symm▸Bh⟩ (ev▸w.1.symm▸VR.str _ _ w.2.1)
 |range=>
  have hi:i<vs.length:=(bo hv).1;have e:MV.int (i:Nat)=v:=by
   have s2:vs=(List.range vs.length).map λi=>.int (i:Nat):=src;rw[s2,getElem?_map,List.getElem?_range hi]at hv;exact inj hv
  have e2:(vs.length:Int)-((i+1:Nat):Int)=(vs.length:Int)-(i:Int)-1:=by lia
  refine wpAny_pyNext_range_item a (by lia) λh' Bh hs=>q h' _ _ hs ?_ (e▸.int _ _);show IsRangeIter h' I ((i+1:Nat):Int) ((vs.length:Int)-((i+1:Nat):Int)) _;rw[e2];exact Bh
theorem Di{k ρ H}{A:Around}{E}{s:Shared}{I:Addr}{x:MV}{x':Value}{vs:List MV}{Q:Option Value->Shared->Prop}(hh:A.handled=none)(X:St c FL ρ H s)(r:k= .range\/VR ρ s.heap x x')(src:rI k H x vs)(a:eW k s.heap I x' vs.length vs.length)
  (q:∀h',Heap.ExtBut I s.heap h'->Q none {s with heap:=h'}):wpAny (model c.prog c.w) A (pyNext (.ref I)) Q E s:=by
 have no:∀{ws:Array Value},vs.length=ws.size->ws[vs.length]? =none:=λe=>e▸Array.getElem?_eq_none_iff.mpr (le_refl _);cases k with
 |aF=>
  subst src;exact a.elim λt a=>(lx r (by intro I1;injection I1)).te (P:=λx'=>x'= .ref t->wpAny _ _ (pyNext (.ref I)) Q E s) (λad o ws m eo hc iA v1 hz et=>wpAny_pyNext_tuple_end hh a.2 (Value.ref.inj et▸⟨o,eo,hc,m,iA⟩) (no v1.size) q) a.1
 |list=>
  refine src.elim λr0 z=>?_;obtain rfl:=z.1;exact a.elim λt a=>X.lv (lx r (by intro I1;injection I1)) z.2 (P:=λx'=>x'= .ref t->wpAny _ _ (pyNext (.ref I)) Q E s) (λp ws m ei e1 v1 u_ u_ et=>wpAny_pyNext_list_end hh a.2 (Value.ref.inj et▸⟨_,e1,rfl,m,rfl⟩) (no v1.size) q) a.1
 |dict=>
  refine src.elim λr0 z=>z.elim λes z=>?_;obtain rfl:=z.1;refine a.elim λt a=>X.dv (lx r (by intro I1;injection I1)) z.2.1 (P:=λx'=>x'= .ref t->wpAny _ _ (pyNext (.ref I)) Q E s) (λp cw ei hD hk u_ u_ et=>?_) a.1;have hit:=a.2;rw[show vs.length=cw.length from z.2.2▸(ar _).trans hk.1]at hit;exact wpAny_pyNext_dict_end hh hit (Value.ref.inj et▸hD) (List.getElem?_eq_none (le_refl _)) q
 |range=>exact wpAny_pyNext_range_end hh a (Int.sub_self _▸Int.le_refl _) q
end
theorem yA{prog:Program}{w:World}{A:Around}{s:Shared}{target:Expr}{it:Value}{body orelse:List Stmt}{aA:bO}{R:Result->Shared->Prop}
  (turn:wpAny (model prog w) A (pyNext it) (λr s₁=>match r with
   |none=>wpAny (model prog w) A (execs orelse aA) (λf s₃=>R (.ok f) s₃) (notedBy (model prog w) A aA λe s'=>R (.error e) s') s₁
   |some v=>wpAny (model prog w) A (letOwnedTupleGo target it v) (λu_ s₁'=>
     wpAny (model prog w) A (assign target aA v) (λu_ s₂=>wpAny (model prog w) A (execs body aA) (λf s₃=>match f with
      | .next| .cont=>codeAny (model prog w) A (.forLoop target it body orelse aA) R s₃
      | .brk=>R (.ok .next) s₃
      | .ret v=>R (.ok (.ret v)) s₃) (notedBy (model prog w) A aA λe s'=>R (.error e) s') s₂) (notedBy (model prog w) A aA λe s'=>R (.error e) s') s₁') (notedBy (model prog w) A aA λe s'=>R (.error e) s') s₁) (notedBy (model prog w) A aA λe s'=>R (.error e) s') s):
  codeAny (model prog w) A (.forLoop target it body orelse aA) R s:=by
 refine codeAny_loop' rfl (λu_ s'=>s'=s) (λn s' hI=>?_) 0 rfl;subst hI;show wpAny _ A ((forTurn target it body orelse aA).onRaise (λx=>do noteFrame x aA;theTreesLotGoes x)) _ _ s';refine wpAny_noted ?_;dsimp only[forTurn];refine bp (wpAny_standAt (bp (wpAny_onRaise (wpAny_mono turn (λr s₁ h₁=>?_) λu_ u_ h'=>wpAny_standAt h'))));cases r with
 |none=>exact bq (.inr ⟨rfl,codeAny_block h₁⟩)
 |some v=>
  refine bp (wpAny_mono h₁ (λu_ s₁' h₁'=>?_) λu_ u_ h'=>h');refine bp (wpAny_mono h₁' (λu_ s₂ h₂=>bp (wpAny_mono h₂ (λf s₃ h₃=>?_) λu_ u_ h'=>h')) λu_ u_ h'=>h');cases f with
  |next=>exact bq (.inr ⟨rfl,h₃⟩)
  |cont=>exact bq (.inr ⟨rfl,h₃⟩)
  |brk=>exact bq h₃
  |ret v=>exact bq h₃
inductive Mc(fm:Fm):Tg->Expr->Prop
 |iM {i x p}:fm.ns[i]? =some x->fh fm x->Mc fm (.iM i) (.Name x p)
 |eS {xs elts kk tp}:qA fm xs elts->Mc fm (.eS xs) (.Tuple elts kk tp)
section
variable {c:Cx} {FL:List bO} {fm:Fm} {hd:Option Nat} {n:Nat}
theorem Gw{A:Around}{E}(F:c7 fm)(OO:cD c fm){ρ H ev}{s:Shared}{x:Tg}{target:Expr}{v:MV}{v':Value}{P:aD.Env->Prop}{Q:Unit->Shared->Prop}(ht:Mc fm x target)(hh:A.handled=none)(X:St c FL ρ H s)(l:fE fm ev ρ s.heap)(r:VR ρ s.heap v v')(h:bJ x v ev P)
  (q:∀s1 dA,P dA->St c FL ρ H s1->fE fm dA ρ s1.heap->j9 fm ρ s.heap ρ s1.heap->Q () s1):wpAny (model c.prog c.w) A (assign target fm.aA v') Q E s:=by
 cases ht with
 |iM hi hk=>exact wpAny_assign_Name (pN F OO X l hi hk r λs1 X1 l1 g1=>q s1 _ h X1 l1 g1)
 |eS ht=>exact vV h r λvs hl h r=>rN F OO (.inl hh) ht X l r hl λs1 X1 l1 g1=>q s1 _ h X1 l1 g1
theorem Jt{k}{A:Around}{E}{s:Shared}{I:Addr}{x' v:Value}{m i:Nat}{x:Tg}{target:Expr}{Q:Unit->Shared->Prop}(ht:Mc fm x target)(a:eW k s.heap I x' m i)(h:Q () s):wpAny (model c.prog c.w) A (letOwnedTupleGo target (.ref I) v) Q E s:=by
 cases ht with
 |iM=>exact bq h
 |eS=>
  dsimp only[letOwnedTupleGo];cases v with
  |ref b=>
   refine a.oe λo T vs w=>bp (wpAny_load w.e ?_);refine w.hc▸w.hd▸?_;dsimp only;have:(["enumerate","zip","dict_itemiterator","dict_reverseitemiterator","odict_iterator","itertools.zip_longest","itertools.pairwise"]:List String).contains T=false:=w.ow;rw[this,Bool.false_and,ag (by decide)];exact bq h
  |_=>exact bq h
theorem xD(src:rI k H0 x vs)(z:eK x H0 H2):rI k H2 x vs:=by
 cases k with
 |aF=>exact src
 |range=>exact src
 |list=>exact src.elim λr y=>⟨r,y.1,(show H2[r]? =H0[r]? by rw[y.1]at z;exact z).trans y.2⟩
 |dict=>exact src.elim λr y=>y.elim λes y=>⟨r,es,y.1,(show H2[r]? =H0[r]? by rw[y.1]at z;exact z).trans y.2.1,y.2.2⟩
theorem jm.none(a:jm A FL .none ρ n):A.handled= .none:=by
 have z:=a.handled;generalize A.handled=w at z;cases z;rfl
theorem PZ{k x' m j}{ρa ρb ha hb}(OO:cD c fm)(g:j9 fm ρa ha ρb hb)(l:fE fm eva ρa ha)(nI:I∉bV ρa)(it:eW k ha I x' m j):eW k hb I x' m j:=
 it.oe λo T vs w=>it.at λo' e'=>by
  injection(w.e.symm.trans e')with I1;subst I1;exact g.keep.same (λz=>(mem_append.mp z).elim (u4 OO l it) nI) w.e w.hd (λz=>w.n3 (Value.type.inj (w.hc.symm.trans z)))
theorem IL(K:cZ c)(F:c7 fm)(hh:dS FL fm)(OO:cD c fm){vb:aD.Env->MH->SQ->SE->Prop}{Q':Flow->Shared->Prop}{E':Value->Shared->Prop}
 (a:jm A FL .none ρ n) (ht:Mc fm tg target) (hb:bu c FL fm .none n vb (execs body fm.aA)) (kQ:KS c FL fm ρ s Q Q') (kE:Ei c FL fm ρ s E E') (hI0:s.heap.get? I=none) (V8:c.bQ.get? I=none) (Xv:rI k H0 x vs) {eZ:MH->Prop} (E7:∀H2,eZ H2->eK x H0 H2):
  ∀(rest:List MV) (i:Nat) (dA:aD.Env) (H1:MH) (ρ1:eP) (s1:Shared),vs.drop i=rest->i<=vs.length->fC (λv aG H2 Q2 E2=>bJ tg v aG λaI=>vb aI H2 Q2 E2) eZ rest dA H1 Q E->
   St c FL ρ1 H1 s1->fE fm dA ρ1 s1.heap->j9 fm ρ s.heap ρ1 s1.heap->eW k s1.heap I x' vs.length i->(k= .range\/VR ρ1 s1.heap x x')->
   codeAny (model c.prog c.w) A (.forLoop target (.ref I) body [] fm.aA) (λr s'=>match r with| .ok f=>Q' f s'| .error e=>cameBackBy (model c.prog c.w) A fm.aA E' e s') s1:=by
 have hA:=a.none;intro rest
 induction rest with
 |nil=>
  intro i dA H1 ρ1 s1 C5 hle h X1 l1 g1 it r;have hi:i=vs.length:=le_antisymm hle (List.drop_eq_nil_iff.mp C5);subst hi;refine yA (Di hA X1 r (xD Xv (E7 _ h.1)) it λh' ex=>?_);have PK:Ex [I] s1.heap h':=λb o hb e=>ex b o (λq=>hb (q▸.head _)) e;exact wpAny_execs_nil (kQ _ _ _ _ _ _ h.2 (X1.iter it V8 (t:=s1.toks) PK) (l1.iter OO it PK) (g1.iter PK hI0 (fj X1 it)) .next)
 |cons v rest ih=>
  intro i dA H1 ρ1 s1 C5 hle h X1 l1 g1 it r;have hv:vs[i]? =some v:=by
   have:=af (·[0]?) C5;rwa[getElem?_drop]at this
  have hi:i<vs.length:=(bo hv).1;have R3:vs.drop (i+1)=rest:=by rw[<-drop_drop,C5];rfl
  refine yA (Dj X1 r (xD Xv (E7 _ h.1)) it hv λh' t y hs it2 ry=>?_);have PK:Ex [I] s1.heap h':=Ex.cP hs;have X2:=X1.iter it V8 (t:=t) PK;have l2:=l1.iter OO it PK;have g2:=g1.iter PK hI0 (fj X1 it);have kp:=PK.keep;have nt:=xa it;refine Jt (s:={s1 with heap:=h',toks:=t}) ht it2 (Gw (P:=λaI=>vb aI H1 (λfl aG H1=>match fl with
   | .next=>fC (λv aG H2 Q2 E2=>bJ tg v aG λaI=>vb aI H2 Q2 E2) eZ rest aG H1 Q E
   | .cont=>fC (λv aG H2 Q2 E2=>bJ tg v aG λaI=>vb aI H2 Q2 E2) eZ rest aG H1 Q E
   | .brk=>Q .next aG H1
   | .ret w=>Q (.ret w) aG H1) E) F OO ht hA X2 l2 (ry.bt (.refl ρ1) kp nt) h.2 λs3 ev3 q3 X3 l3 g3=>?_)
  have nH:=g2.tr l2 OO g3;have Wy:=PZ OO g3 l2 (fj X2 it2) it2;refine hb A ev3 ρ1 H1 s3 _ E _ _ (a.b8 g1.b8) q3 X3 l3 (λfl Yq H4 ρ4 s4 qo q4 X4 l4 g4 rr4=>?_) (((kE.go OO l3 nH).ye K OO).vn K a.frames hh OO);have GI:=nH.tr l3 OO g4;have go:fC (λv aG H2 Q2 E2=>bJ tg v aG λaI=>vb aI H2 Q2 E2) eZ rest Yq H4 Q E->codeAny (model c.prog c.w) A (.forLoop target (.ref I) body [] fm.aA) (λr s'=>match r with| .ok f=>Q' f s'| .error e=>cameBackBy (model c.prog c.w) A fm.aA E' e s') s4:=λq4=>
   ih (i+1) Yq H4 ρ4 s4 R3 hi q4 X4 l4 GI (PZ OO g4 l3 (fj X3 Wy) Wy) (r.imp id λz=>((z.bt (.refl ρ1) kp nt).RY OO l2 X2.bD.nb g3).RY OO l3 X3.bD.nb g4)
  cases rr4 with
  |next=>exact go q4
  |cont=>exact go q4
  |brk=>exact kQ _ _ _ _ _ _ q4 X4 l4 GI .next
  |ret rv=>exact kQ _ _ _ _ _ _ q4 X4 l4 GI (.ret rv)
def oC(c:Cx)(FL:List bO)(fm:Fm)(hd:Option Nat)(n:Nat)(d:Eg)(t:Sem Value):Prop:=∀A ev ρ H s Q E (Q':Value->Shared->Prop) E',jm A FL hd ρ n->d.D1 ev H Q E->St c FL ρ H s->fE fm ev ρ s.heap->
 (∀k x x' vs eZ H1 ρ1 s1 h' t I,Q vs eZ H1->(∀H2,eZ H2->eK x H1 H2)->rI k H1 x vs->St c FL ρ1 H1 s1->Go ρ s.heap ρ1 s1.heap->(k= .range\/VR ρ1 s1.heap x x')->Ex [] s1.heap h'->s1.heap.get? I=none->eW k h' I x' vs.length 0->Q' (.ref I) {s1 with heap:=h',toks:=t})->
 KE c FL ρ s E E'->wpAny (model c.prog c.w) A t (λx' s1=>wpAny (model c.prog c.w) A (pyIter x') Q' E' s1) E' s
theorem K3{v:aD.Env->MH->PQ->PE->Prop}(hv:aH c FL fm hd n v (eval e fm.aA)):
  oC c FL fm hd n ⟨λaA H Q E=>v aA H (λx H1=>match nS H1 x with
   |some vs=>Q vs (eK x H1) H1
   | .none=>False) E⟩ (eval e fm.aA):=by
 intro A ev ρ H s Q E Q' E' a h X l k kE;refine hv A ev ρ H s _ E _ E' a h X l (λx H1 ρ1 s1 x' q X1 g1 r1=>?_) kE;refine mtL q λvs e q=>?_;have nn:s1.heap.get? s1.heap.objs.size=none:=Heap.get?_none_of_le (le_refl _);have fin:∀{k:IK} {x':Value} {o:Obj},VR ρ1 s1.heap x x'->rI k H1 x vs->eW k (s1.heap.push o) s1.heap.objs.size x' vs.length 0->Q' (.ref s1.heap.objs.size) {s1 with heap:=s1.heap.push o}:=λr src it=>
  k _ _ _ vs _ H1 ρ1 s1 _ s1.toks _ q (λu_ z=>z) src X1 g1 (.inr r) (Ex.push _ _ _) nn it
 cases x with
 |aF us=>
  injection e with I1;subst I1
  exact r1.te (P:=λx'=>VR ρ1 s1.heap _ x'->wpAny _ _ (pyIter x') Q' E' s1) (λad o ws m eo hc iA u_ u_ r1=>wpAny_pyIter_tuple ⟨o,eo,hc,m,iA⟩ (fin (k:=.aF) r1 rfl ⟨_,rfl,_,Heap.get?_push_size _ rfl,rfl,rfl⟩)) r1
 |ref r=>
  refine kl e λo hb e=>?_;cases o with
  |list us=>
   injection e with I1;subst I1
   exact X1.lv r1 hb (P:=λx'=>VR ρ1 s1.heap _ x'->wpAny _ _ (pyIter x') Q' E' s1) (λp ws m ei e1 v1 u_ u_ r1=>wpAny_pyIter_list ⟨_,e1,rfl,m,rfl⟩ (fin (k:=.list) r1 ⟨r,rfl,hb⟩ ⟨_,rfl,_,Heap.get?_push_size _ rfl,rfl,rfl⟩)) r1
  |dict es=>
   exact X1.dv r1 hb (P:=λx'=>VR ρ1 s1.heap _ x'->wpAny _ _ (pyIter x') Q' E' s1) (λp cw ei hD hk u_ u_ r1=>wpAny_pyIter_dict (xE X1 (aO ei).1) hD (fin (k:=.dict) r1 ⟨r,es,rfl,hb,(inj e).symm⟩ ⟨_,rfl,_,Heap.get?_push_size _ rfl,rfl,by
    rw[<-inj e,ar,hk.1];rfl⟩)) r1
  |_=>injection e
 |_=>injection e
theorem B0(F:c7 fm)(K:cZ c){v:aD.Env->MH->PQ->PE->Prop}(hb:L6 c fm "range" (.type "range"))(hs:starEach [e] fm.aA= [(false,eval e fm.aA)])(hv:aH c FL fm hd n v (eval e fm.aA)):
  oC c FL fm hd n ⟨λaA H Q E=>v aA H (λx H1=>match x with
   | .int n=>(0<=n/\n<line)/\Q ((List.range n.toNat).map λi=>.int (i:Nat)) (λu_=>True) H1
   |_=>False) E⟩ (eval (.Call (.Name "range" p) [e] [] pos) fm.aA):=by
 intro A ev ρ H s Q E Q' E' a h X l k kE;refine Call_ (hb.load F K X.c6 ?_);refine PySem.callWith_type (by rw[hs];rfl) (Pu hs hv a h X l kE λx H1 ρ1 s1 x' q X1 g1 r1=>?_);exact WO (P:=λx=>VR ρ1 s1.heap x x'->wpAny _ _ (call (.type "range") [x']) (λx' s1=>wpAny _ _ (pyIter x') Q' E' s1) E' s1) q (λN q r1=>r1.ie (P:=λx'=>wpAny _ _ (call (.type "range") [x']) (λx' s1=>wpAny _ _ (pyIter x') Q' E' s1) E' s1) λt=>by
  have lq:(line:Int)=16777216:=rfl;have h0:=q.1.1;have h1:=q.1.2;refine call_range_1 (wpAny_pyIter_range (IsRange.new ..) (small_one (by decide) (by decide) (by lia) (by lia)) ?_);have C9:Builtin.Range.rangeSize 0 N 1=(N.toNat:Int):=by rw[rangeSize_one];split<;>lia
  have z:=X1.ex (t:=s1.toks+1+1) (Ex.push [] s1.heap {cls:=.type "range",data:=.fields #[.int 0 s1.toks,.int N t,.int 1 (s1.toks+1)]});refine k .range .none .none _ _ H1 ρ1 _ _ (s1.toks+1+1) _ q.2 (λu_ u_=>trivial) (by show _=_;rw[ar,length_range]) z.1 (g1.trans z.2) (.inl rfl) (Ex.push _ _ _) (Heap.get?_none_of_le (le_refl _)) ?_;show IsRangeIter _ _ _ _ _;rw[ar,length_range];have e1:((N.toNat:Int)-((0:Nat):Int))=Builtin.Range.rangeSize 0 N 1:=(Int.sub_zero _).trans C9.symm;simp only[e1];exact Heap.get?_push_size _ rfl) r1
theorem K8(K:cZ c)(F:c7 fm)(hh:dS FL fm)(OO:cD c fm){d:Eg}{tg:Tg}{target iter:Expr}{vb:aD.Env->MH->SQ->SE->Prop}{body:List Stmt}{pos:Pos}(hf:∀x,foldedSetIterable iter fm.aA x=pure x)(ht:Mc fm tg target)
  (hi:oC c FL fm hd n d (eval iter fm.aA)) (hb:bu c FL fm .none n vb (execs body fm.aA)):
  bu c FL fm hd n (λaA H Q E=>hd= .none/\d.D1 aA H (λvs eZ H1=>fC (λv aG H2 Q2 E2=>bJ tg v aG λaI=>vb aI H2 Q2 E2) eZ vs aA H1 Q E) (λx H1=>E x aA H1)) (exec (.For target iter body [] pos) fm.aA):=by
 intro A ev ρ H s Q E Q' E' a h X l kQ kE;have hn:=h.1;subst hn;have h:=h.2;refine wpAny_For (hi A ev ρ H s _ _ _ E' a h X l (λk x x' vs eZ H1 ρ1 s1 h' t I q hc src X1 g1 r1 ex hI it=>?_) (kE.e X l)) hf;have l1:=l.go g1 X.bD.nb;have z:=X1.ex (t:=t) ex;exact IL K F hh OO (ρ:=ρ1) (s:=s1) (Q:=Q) (E:=E) (a.b8 g1.b8) ht hb (kQ.go OO l1 g1.f) (kE.go OO l1 g1.f) hI (dq X1.c6 hI) src hc vs 0 ev H1 ρ1 {s1 with heap:=h',toks:=t} rfl (zero_le _) q z.1 (l1.go z.2 X1.bD.nb) z.2.f it (r1.imp id λy=>y.bt z.2.b8 z.2.keep X1.bD.nb.nt)
end
mutual
noncomputable def qE(k:Nat):MV->Bool
 | .ref i=>decide (i<k)
 | .aF vs=>HG k vs
 |_=>true
noncomputable def HG(k:Nat):List MV->Bool
 | []=>true
 |v::r=>qE k v&&HG k r
end
theorem MF:HG k vs=true->∀(j:Nat) (v:MV),vs[j]? =some v->qE k v=true:=by
 induction vs with
 |nil=>exact λu_ j v e=>(by injection e)
 |cons w r ih=>exact λh j v e=>have z:=bh h;match j,e with
  |0,e=>inj e▸z.1
  |j+1,e=>ih z.2 j v e
theorem MG:(∀(j:Nat) (v:MV),vs[j]? =some v->qE k v=true)->HG k vs=true:=by
 induction vs with
 |nil=>exact λu_=>rfl
 |cons w r ih=>exact λh=>and_eq_true_iff.mpr ⟨h 0 w rfl,ih λj v e=>h (j+1) v e⟩
theorem VR.qE{ρ h v x}(r:VR ρ h v x):aD.qE ρ.length v=true:=by
 induction r with
 |ref e=>exact aj (bo e).1
 |@aF vs a o ws n e hc hd hl hz hh ih=>exact MG λj v ev=>have hj:j<ws.size:=hl▸(bo ev).1;ih j v ws[j] ev (Array.getElem?_eq_getElem hj)
 |_=>rfl
theorem VR.sub{h v x}(r:VR ρ h v x)(hb:aD.qE k v=true)(hp:∀(i:Nat) (p:Addr×Addr),i<k->ρ[i]? =some p->ρ'[i]? =some p):VR ρ' h v x:=by
 induction r with
 |none=>exact .none
 |bool b=>exact .bool b
 |int i t=>exact .int i t
 |str s t o=>exact .str s t o
 |dg a=>exact .dg a
 |ref e=>exact .ref (hp _ _ (ay hb) e)
 |aF e hc hd hl hz hh ih=>exact .aF e hc hd hl hz λj v x ev ex=>ih j v x ev ex (MF hb j v ev)
theorem vk:∀(v:MV),qv v=true->aD.qE 0 v=true:=
 MV.rec (motive_1:=λv=>qv v=true->aD.qE 0 v=true) (motive_2:=λvs=>Bx vs=true->HG 0 vs=true)
  (λu_=>rfl) (λu_ u_=>rfl) (λu_ u_=>rfl) (λu_ u_=>rfl) (λu_ ih=>ih) (λu_ h=>(by injection((h:false=true)))) (λu_ u_=>rfl) (λu_=>rfl)
  λu_ u_ h1 h2 h=>have z:=bh h;and_eq_true_iff.mpr ⟨h1 z.1,h2 z.2⟩
def Vi(k:Nat):MO->Prop
 | .list vs=>∀(j:Nat) (v:MV),vs[j]? =some v->qE k v=true
 | .jy vs=>∀(j:Nat) (v:MV),vs[j]? =some v->qE k v=true
 | .dict es=>∀(j:Nat) (e:List Nat×MV),es[j]? =some e->qE k e.2=true
 | .aK _ aP=>∀(n:Nat) (v:MV),bW aP n=some v->qE k v=true
 | .aR _ aP _=>∀(n:Nat) (v:MV),bW aP n=some v->qE k v=true
theorem cY.qE{ρ h vs xs}(r:cY ρ h vs xs)(j:Nat)(v:MV)(e:vs[j]? =some v):aD.qE ρ.length v=true:=(r.at e).elim λu_ z=>z.2.qE
theorem OR.qE{pr w so ρ h p o}(r:OR pr w so ρ h p o):Vi ρ.length o:=by
 cases r with
 |list e hv=>exact hv.qE
 |jy e hc hd hv=>exact hv.qE
 |dict hD hk=>exact λj e ev=>have hj:=hk.1▸(bo ev).1;(hk.2 j e _ ev (getElem?_eq_getElem hj)).2.2.qE
 |aK hI e hc hd ui hp hN hA=>exact λn v ev=>(hA n v ev).2.elim λu_ z=>z.2.qE
 |aR hI e hc hd hz ui hA=>exact λn v ev=>(hA n v ev).2.elim λu_ z=>z.2.qE
theorem cY.sub{h vs xs}(r:cY ρ h vs xs)(hb:∀(j:Nat) (v:MV),vs[j]? =some v->aD.qE k v=true)(hp:∀(i:Nat) (p:Addr×Addr),i<k->ρ[i]? =some p->ρ'[i]? =some p):cY ρ' h vs xs:=
 ⟨r.1,λj v x e e'=>(r.2 j v x e e').sub (hb j v e) hp⟩
theorem OR.sub{pr w so}{h p o}(r:OR pr w so ρ h p o)(hb:Vi k o)(hp:∀(i:Nat) (p:Addr×Addr),i<k->ρ[i]? =some p->ρ'[i]? =some p):OR pr w so ρ' h p o:=by
 cases r with
 |list e hv hl NH=>exact .list e (hv.sub hb hp) hl NH
 |jy e hc hd hv hl NH=>exact .jy e hc hd (hv.sub hb hp) hl NH
 |dict hD hk hl NH=>exact .dict hD ⟨hk.1,λj e kv a b=>let⟨x,y,z⟩:=hk.2 j e kv a b;⟨x,y,z.sub (hb j e a) hp⟩⟩ hl NH
 |aK hI e hc hd ui NH hN hA hx=>exact .aK hI e hc hd ui NH hN (λn v ev=>let⟨l,x,a,b⟩:=hA n v ev;⟨l,x,a,b.sub (hb n v ev) hp⟩) hx
 |aR hI e hc hd hz ui hA hx ha ht hf=>exact .aR hI e hc hd hz ui (λn v ev=>let⟨l,x,a,b⟩:=hA n v ev;⟨l,x,a,b.sub (hb n v ev) hp⟩) hx ha ht hf
theorem yD(l:List Nat)(n:Nat)(v:MV):bW (l.filterMap (xr aP)) n=some v->bW aP n=some v/\qv v=true:=by
 induction l with
 |nil=>exact λe=>(by injection e)
 |cons k r ih=>
  intro e;replace e:=filterMap_cons▸e;cases hk:xr aP k with
  |none=>rw[hk]at e;exact ih e
  |some p=>
   replace e:=hk▸e;have e:(if p.1=n then some p.2 else bW (r.filterMap (xr aP)) n)=some v:=e;by_cases q:p.1=n
   ·rw[ah q]at e;have hk:(match bW aP k with|some v=>if qv v=true then some (k,v)else .none| .none=>.none)=some p:=hk;cases hw:bW aP k with
    |none=>rw[hw]at hk;injection hk
    |some w=>
     replace hk:=hw▸hk;have y:=Ux hk;obtain rfl:=inj y.2;exact inj e▸q▸⟨hw,y.1⟩
   ·rw[ag q]at e;exact ih e
theorem Bb(e:bW (DY aP) n=some v):bW aP n=some v/\qv v=true:=yD _ n v e
section
variable {c:Cx} {FL:List bO} {ρ ρ1:eP} {H G:MH} {s s1:Shared}
theorem iS(h:b∈bV (ρ.take k)):b∈bV ρ:=(gf.mp h).elim λp z=>gf.mpr ⟨p,List.mem_of_mem_take z.1,z.2⟩
theorem rD(h:(ρ.take k)[i]? =some p):i<k/\ρ[i]? =some p:=by
 rw[getElem?_take]at h;by_cases q:i<k
 ·rw[ah q]at h;exact⟨q,h⟩
 ·rw[ag q]at h;injection h
theorem xG(hi:i<k)(e:ρ[i]? =some p):(ρ.take k)[i]? =some p:=getElem?_take.trans ((ah hi).trans e)
theorem IM(X0:St c FL ρ H s)(X1:St c FL ρ1 (H++G) s1)(g:Go ρ s.heap ρ1 s1.heap):St c FL (ρ1.take H.length) H s1/\Go ρ s.heap (ρ1.take H.length) s1.heap:=by
 have l1:ρ1.length=H.length+G.length:=X1.bD.len.trans ak;refine⟨⟨X1.c6,X1.frames,λb hb q=>X1.apart b hb (iS q),⟨?_,λi j p q hi hj=>X1.bD.apart i j p q (rD hi).2 (rD hj).2,λa ha=>X1.bD.fresh a (iS ha),λa ha=>X1.bD.rh a (iS ha),λi p o hi ho=>?_⟩,X1.gens,X1.drawn,X1.os,X1.rh⟩,
  λi p e=>(g.b8 i p e).elim λq e1=>⟨q,xG (X0.bD.len▸(bo e).1) e1⟩,λb hb=>g.new b (iS hb),g.keep,g.tb⟩
 ·rw[length_take,l1];exact min_eq_left (le_add_right _ _)
 ·have t:=rD hi;have hi0:i<ρ.length:=X0.bD.len▸t.1;exact(X1.bD.mh i p o t.2 ((aw t.1).trans ho)).sub (X0.bD.len▸(X0.bD.mh i ρ[i] o (getElem?_eq_getElem hi0) ho).qE) λi p hi e=>xG hi e
theorem Np(X0:St c FL ρ H s)(X1:St c FL ρ1 (H++G) s1)(g:Go ρ s.heap ρ1 s1.heap)(he:H.length<=e)(h1:ρ1[e]? =some p)(h2:(H++G)[e]? =some (.aR k aP x)):
  ∃ρ2,St c FL ρ2 (H++ [.aR k (DY aP) x]) s1/\Go ρ s.heap ρ2 s1.heap/\ρ2[H.length]? =some p:=by
 have Y:=IM X0 X1 g;have lt:(ρ1.take H.length).length=H.length:=Y.1.bD.len;have cs:∀(i:Nat) (q:Addr×Addr),(ρ1.take H.length++ [p])[i]? =some q->(i<H.length/\ρ1[i]? =some q)\/(i=H.length/\q=p):=λi q z=>(gR z).imp (λz=>rD z) λz=>⟨z.1.trans lt,z.2⟩
 have ad:∀b,b∈bV (ρ1.take H.length++ [p])->b∈bV ρ1:=λb hb=>(mem_append.mp (pV _ _▸hb)).elim iS λq=>(gf.mp q).elim λp' z=>by
  obtain rfl:=bg z.1;exact z.2.elim (λe=>e▸(aO h1).1) λe=>e▸(aO h1).2
 have pre:∀(i:Nat) (q:Addr×Addr),i<H.length->(ρ1.take H.length)[i]? =some q->(ρ1.take H.length++ [p])[i]? =some q:=λi q hi z=>(aw (lt.symm▸hi)).trans z;refine⟨ρ1.take H.length++ [p],⟨X1.c6,X1.frames,λb hb q=>X1.apart b hb (ad b q),⟨?_,λi j a b ha hb Ut=>?_,λa ha=>X1.bD.fresh a (ad a ha),λa ha=>X1.bD.rh a (ad a ha),λi a o ha wK=>?_⟩,X1.gens,X1.drawn,X1.os,X1.rh⟩,
  ⟨λi q z=>(Y.2.b8 i q z).elim λq2 e2=>⟨q2,pre _ _ (lt▸(bo e2).1) e2⟩,λb hb=>g.new b (ad b hb),g.keep,g.tb⟩,?_⟩
 ·rw[ak,ak,lt];rfl
 ·exact(cs i a ha).elim (λx=>(cs j b hb).elim (λy=>X1.bD.apart i j a b x.2 y.2 Ut) λy=>y.2▸X1.bD.apart i e a p x.2 h1 (ne_of_lt (lt_of_lt_of_le x.1 he)))
   λx=>(cs j b hb).elim (λy=>x.2▸X1.bD.apart e j p b h1 y.2 (Nat.ne_of_gt (lt_of_lt_of_le y.1 he))) λy=>a9 (x.1.trans y.1.symm) Ut
 ·refine(cs i a ha).elim (λx=>?_) λx=>?_
  ·rw[aw x.1]at wK;have o1:=Y.1.bD.mh i a o (xG x.1 x.2) wK;exact o1.sub (lt▸o1.qE) pre
  ·obtain⟨rfl,rfl⟩:=x;rw[getElem?_concat_length]at wK;injection wK with I1;subst I1
   refine X1.jx h1 h2 λo vs mA I=>.aR I.hI I.e I.hc I.iA I.hz I.ui (λn v ev=>?_) I.hx I.ha I.ht I.hf;have z:=Bb ev;exact⟨(I.hA n v z.1).1,(I.hA n v z.1).2.elim λy w=>⟨y,w.1,w.2.sub (vk v z.2) λi p hi=>a9 hi (not_lt_zero _)⟩⟩
 ·exact(af (λn=>(ρ1.take H.length++ [p])[n]?) lt).symm.trans getElem?_concat_length
end
theorem uI(names:List (Str×NameKind)):∀(n:Nat) (acc:List (Str×Addr)) (x:Str),(names.lookup x=some .cell\/(acc.lookup x).isSome=true)->((cellsFrom n names acc).lookup x).isSome=true:=by
 induction names with
 |nil=>exact λn acc x h=>h.elim (λh=>(by injection h)) id
 |cons p r ih=>
  intro n acc x h;rw[lookup_cons]at h;show((if p.2== .cell then cellsFrom (n+1) r ((p.1,n)::acc)else cellsFrom n r acc).lookup x).isSome=true;by_cases hk:(p.2==NameKind.cell)=true
  ·rw[ah hk];refine ih _ _ x ?_;rw[lookup_cons];cases hx:x==p.1 with
   |true=>exact .inr rfl
   |false=>rw[hx]at h;exact h
  ·rw[ag hk];refine ih _ _ x (h.imp (λh=>?_) id);cases hx:x==p.1 with
   |true=>rw[hx]at h;exact a9 (beq_iff_eq.mpr (inj h)) hk
   |false=>rw[hx]at h;exact h
theorem AQ(names:List (Str×NameKind)):∀(n:Nat) (acc:List (Str×Addr)),(acc.map (·.1)++names.map (·.1)).Nodup->((cellsFrom n names acc).map (·.1)).Nodup:=by
 induction names with
 |nil=>exact λn acc h=>by rw[map_nil,ax]at h;exact h
 |cons p r ih=>
  intro n acc h;show((if p.2== .cell then cellsFrom (n+1) r ((p.1,n)::acc)else cellsFrom n r acc).map (·.1)).Nodup;by_cases hk:(p.2==NameKind.cell)=true
  ·rw[ah hk];exact ih _ _ ((List.perm_middle.nodup_iff).mp h)
  ·rw[ag hk];exact ih _ _ (h.sublist (Sublist.append (Sublist.refl _) (List.sublist_cons_self _ _)))
theorem Bu{α:Type}{l:List (Str×α)}:(l.map (·.1)).Nodup->∀{n:Str} {a:α},(n,a)∈l->l.lookup n=some a:=by
 induction l with
 |nil=>exact λu_ {n a} h=>a9 h not_mem_nil
 |cons p r ih=>
  intro hn n a h;have z:=nodup_cons.mp hn;rw[lookup_cons];refine(mem_cons.mp h).elim (λe=>?_) λh'=>?_
  ·subst e;rw[beq_self_eq_true]
  ·have:(n==p.1)=false:=beq_eq_false_iff_ne.mpr λe=>z.1 (mem_map.mpr ⟨(n,a),h',e⟩);refine this▸?_;exact ih z.2 h'
theorem CC{F:List (Str×Value)->(Str->Option Value)->Str->Option Value}{G:Str->Value->(Str->Option Value)->Str->Option Value}{x:Str}(h0:∀m,F [] m=m)(h1:∀k v r m,F ((k,v)::r) m=F r (G k v m))(hG:∀k v m,G k v m x=if x=k then some v else m x)(binds:List (Str×Value)):
  ∀m,(binds.map (·.1)).Nodup->F binds m x=((binds.lookup x).or (m x)):=by
 induction binds with
 |nil=>exact λm u_=>congrFun (h0 m) x
 |cons p r ih=>
  intro m hn;have z:=nodup_cons.mp hn;have e:F (p::r) m x=F r (G p.1 p.2 m) x:=congrFun (h1 p.1 p.2 r m) x;rw[e,ih _ z.2,hG,lookup_cons];by_cases h:x=p.1
  ·rw[ah h,beq_iff_eq.mpr h,zd.mpr (h▸z.1)];rfl
  ·rw[ag h,beq_eq_false_iff_ne.mpr h]
theorem HC{kd:Str->Option NameKind}(binds:List (Str×Value))(m:Str->Option Value)(x:Str)(hx:kd x=some .local):(binds.map (·.1)).Nodup->bindL kd binds m x=((binds.lookup x).or (m x)):=
 CC (F:=bindL kd) (λu_=>rfl) (λu_ u_ u_ u_=>rfl) (λk v m=>by
  by_cases h:kd k=some .local
  ·rw[ah h]
  ·rw[ag h,ag λe:x=k=>h (e▸hx)]) binds m
theorem HB{kd:Str->Option NameKind}(binds:List (Str×Value))(m:Str->Option Value)(x:Str)(hx:kd x≠some .local):(binds.map (·.1)).Nodup->bindC kd binds m x=((binds.lookup x).or (m x)):=
 CC (F:=bindC kd) (λu_=>rfl) (λu_ u_ u_ u_=>rfl) (λk v m=>by
  by_cases h:kd k=some .local
  ·rw[ah h,ag λe:x=k=>hx (e▸h)]
  ·rw[ag h]) binds m
theorem IS(l:aD.Env):∀(i:Nat),dp l i=(l[i]?).getD .none:=by
 induction l with
 |nil=>exact λu_=>rfl
 |cons x r ih=>exact λi=>match i with
  |0=>rfl
  |i+1=>ih i
theorem AP{prog:Program}{w:World}{A:Around}{s:Shared}{R:Result->Shared->Prop}{a:Addr}{o:Obj}{fd:FuncData}{body:List Stmt}{vals:List Value}{binds:List (Str×Value)}
  (I8:A.depth<recursionLimit) (ho:s.heap.get? a=some o) (Wc:o.data= .func fd) (Z7:s.heap.NoLimit) (Up:s.heap.CodeRec fd.code fd.qualname)
  (Wa:fd.body= .stmts body) (V9:BindsTo s fd ⟨vals,[]⟩ binds) (ZW:fd.closure= [])
  (Wi:∀x∈binds,fd.scope.names.lookup x.1=some .local\/(fd.scope.names.lookup x.1=some .cell/\((cellsFrom (s.heap.objs.size+1) fd.scope.names []).lookup x.1).isSome=true))
  (h:∀s₁,InCallC s (callEnvC fd s.heap.objs.size a).locals (bindL (callEnvC fd s.heap.objs.size a).kindOf binds λu_=>none) (callEnvC fd s.heap.objs.size a).cells
    (bindC (callEnvC fd s.heap.objs.size a).kindOf binds λu_=>none) s₁->
   wpAny (model prog w) (A.deeper (callEnvC fd s.heap.objs.size a)) (execs body (callEnvC fd s.heap.objs.size a)) (λf s'=>R (.ok (.ret (match f with| .ret v=>v|_=>.none))) s')
    (λe s'=>wpAny (model prog w) (A.deeper (callEnvC fd s.heap.objs.size a)) (leaving (callEnvC fd s.heap.objs.size a) e) (λu_ s''=>R (.error e) s'') (λe' s''=>R (.error e') s'') s') s₁)
  (hco:fd.scope.isCoroutine=false) (Z1:fd.scope.isGenerator=false) (hk:fd.scope.kind= .function):
  codeAny (model prog w) A (.call (.ref a) ⟨vals,[]⟩) R s:=by
 refine codeAny_call_function I8 ho Wc hco Z1 Wa Up (V9 _ _ _ _ ?_);refine ZW▸?_;refine wpAny_newFunctionEnv_cells hk Wi λaA he s' x=>?_;subst he;exact⟨Z7.keeps x.toInCall.keep,codeAny_func (h s' x)⟩
structure tT(c:Cx)(f:Addr)(ns:List Str)(np:Nat)(eN:List MV)(nl:Nat)(fd:FuncData)(bd:List Stmt):Prop where
 aP:∃oc od UD,c.K.lookup f=some ⟨oc,od,.func fd,UD⟩
 body:fd.body= .stmts bd
 globals:fd.globals=mainGlobals
 builtins:fd.builtins=builtinsNs
 closure:fd.closure= []
 code:codeIn c.K fd.code fd.qualname=true
 kind:fd.scope.kind= .function
 co:fd.scope.isCoroutine=false
 ZK:fd.scope.isGenerator=false
 pos:fd.params.posonlyargs= []
 kwo:fd.params.kwonlyargs= []
 var:fd.params.vararg=none
 kwa:fd.params.kwarg=none
 ps:fd.params.args.map (·.arg)=ns.take np
 npl:np<=ns.length
 nl:ns.length=nl
 nodup:ns.Nodup
 names:(fd.scope.names.map (·.1)).Nodup
 qy:∀x∈ns.take np,fd.scope.names.lookup x=some .local\/fd.scope.names.lookup x=some .cell
 mark:∀x∈ns,(x==("__classdict__" :Str))=false
 SX:∀x,fd.scope.names.lookup x≠some .free
 Zu:(fd.defaults= .none/\eN= [])\/∃T o items m,fd.defaults= .ref T/\c.K.lookup T=some o/\o.data= .seq items m/\∀ρ h,c.K.In h->cY ρ h eN items.toList
 Zv:eN.length<=np
section
variable {c:Cx} {FL:List bO} {hd:Option Nat} {n:Nat}
def GQ(c:Cx)(n:Nat)(ns:List Str)(sc:Scope)(vb:Option Nat->aD.Env->MH->SQ->SE->Prop)(bd:List Stmt):Prop:=
 ∀FL fm hd,c7 fm->cD c fm->dS FL fm->fm.aA.scope=sc->fm.ns=ns->bu c FL fm hd n (vb hd) (execs bd fm.aA)
structure As(fd:FuncData)(n0:Nat)(ce:bO):Prop where
 cl:ce.locals=n0
 cf:ce.frame=some ce.locals
 Yk:ce.scope=fd.scope
 ccl:ce.cells=cellsFrom (n0+1) fd.scope.names []
 cg:ce.globals=fd.globals
 cb:ce.builtins=fd.builtins
section
variable {f:Addr} {ns:List Str} {np:Nat} {eN:List MV} {nl:Nat} {fd:FuncData} {bd:List Stmt} {ce:bO} {m cm:Str->Option Value} {s s₁:Shared} {ρ:eP} {H:MH}
theorem WW(FO:tT c f ns np eN nl fd bd)(N:As fd s.heap.objs.size ce)(x:InCallC s ce.locals m ce.cells cm s₁):c7 ⟨ce,ns⟩:=
 ⟨N.Yk▸FO.kind,N.cg.trans FO.globals,N.cb.trans FO.builtins,⟨_,N.cf⟩,λu_ u_ u_ e e'=>name_of_addr x.apart (mem_of_lookup e) (mem_of_lookup e'),FO.nodup⟩
theorem vg(N:As fd s.heap.objs.size ce)(x:InCallC s ce.locals m ce.cells cm s₁):∀a∈rG ⟨ce,ns⟩,s.heap.objs.size<=a:=λa ha=>
 (mem_cons.mp ha).elim (λe=>e▸le_of_eq N.cl.symm) λha=>(mem_map.mp ha).elim λp z=>z.2▸le_of_lt (N.cl▸x.above p.1 p.2 z.1)
theorem Bv(FO:tT c f ns np eN nl fd bd)(N:As fd s.heap.objs.size ce)(x:InCallC s ce.locals m ce.cells cm s₁)(X:St c FL ρ H s):cD c ⟨ce,ns⟩:=
 ⟨λa ha=>dq X.c6 (Heap.get?_none_of_le (vg (ns:=ns) N x a ha)),λn a hm=>Bu (N.ccl▸AQ _ _ _ FO.names) hm,λi y hy=>FO.mark y (mem_of_getElem? hy)⟩
theorem SW(FO:tT c f ns np eN nl fd bd)(N:As fd s.heap.objs.size ce)(x:InCallC s ce.locals m ce.cells cm s₁)(X:St c FL ρ H s):St c (ce::FL) ρ H s₁:=by
 have old:=x.toInCall.keep;have ex:Ex [] s.heap s₁.heap:=λb o u_ e=>old b o e;have oL:=zp x.toInCall.ns;refine x.toInCall.same.elim λh₁ z=>z.elim λtk NI=>?_;subst NI;refine oL.elim λo oL=>⟨λb o e=>old b o (X.c6 b o e),⟨by simp only[N.Yk,FO.kind];decide,⟨ce.locals,o,N.cf,(Bv FO N x X).bQ _ (.head _),oL.1,oL.2⟩,dG ex.keep (λu_ u_=>not_mem_nil) X.frames⟩,λb hb=>?_,
  ⟨X.bD.len,X.bD.apart,X.bD.fresh,X.bD.rh,λi p o hi ho=>(X.bD.mh i p o hi ho).bt (.refl ρ) ex.keep (λu_ hb=>a9 hb not_mem_nil) (λo e=>old _ o e) λo e=>old _ o e⟩,X.gens,X.drawn,X.os,X.rh⟩
 simp only[filterMap_cons,N.cf]at hb;exact(mem_cons.mp hb).elim (λe=>e▸X.bD.zo (Heap.get?_none_of_le (le_of_eq N.cl.symm))) (X.apart b)
theorem Dz(N:As fd s.heap.objs.size ce)(x:InCallC s ce.locals m ce.cells cm s₁){ρ1:eP}{H1:MH}{s1:Shared}(Y:St c (ce::FL) ρ1 H1 s1)(g:j9 ⟨ce,ns⟩ ρ s₁.heap ρ1 s1.heap):St c FL ρ1 H1 s1/\Go ρ s.heap ρ1 s1.heap:=by
 have old:=x.toInCall.keep;refine⟨⟨Y.c6,Y.frames.2.2,λb hb=>Y.apart b (by simp only[filterMap_cons,N.cf];exact .tail _ hb),Y.bD,Y.gens,Y.drawn,Y.os,Y.rh⟩,g.b8,λb hb=>(g.new b hb).imp id λq=>?_,
  λb o hb e=>(g.keep b o (λq=>(mem_append.mp q).elim (λq=>a9 (Heap.lt_size e) (not_lt.mpr (vg (ns:=ns) N x b q))) hb) (old b o e)),λi p e t=>g.tb i p e (t.at λo eo=>old _ o eo)⟩
 cases z:s.heap.get? b with
 |none=>rfl
 |some o=>exact(by injection((old b o z).symm.trans q))
theorem DA(FO:tT c f ns np eN nl fd bd)(X:St c FL ρ H s)(rv:cY ρ s.heap vs vals)(lv:vals.length=np)(ex:Ex [] s.heap s₁.heap)(hy:ns[i]? =some y):oz ρ s₁.heap (dp (vs.map some++replicate (nl-np) .none) i) ((((ns.take np).zip vals).lookup y).or none):=by
 have lb:(vs.map some).length=np:=(ar _).trans (rv.1.trans lv);rw[IS];by_cases hi:i<np
 ·refine(rv.at (getElem?_eq_getElem (rv.1.trans lv▸hi))).elim λw z=>?_;simp only[Bt (FO.nodup.sublist (take_sublist _ _)) vals i y _ (getElem?_take.trans ((ah hi).trans hy)) z.1,aw (lb▸hi),getElem?_map,getElem?_eq_getElem (rv.1.trans lv▸hi)];exact .some (z.2.bt (.refl ρ) ex.keep (λu_ hb=>a9 hb not_mem_nil))
 ·have e:(((vs.map some++replicate (nl-np) none)[i]?).getD none:Option MV)=none:=by
   rw[getElem?_append_right (lb▸le_of_not_lt hi),List.getElem?_replicate];by_cases q:i-(vs.map some).length<nl-np
   ·rw[ah q];rfl
   ·rw[ag q];rfl
  rw[e];exact .none
theorem N0(FO:tT c f ns np eN nl fd bd)(N:As fd s.heap.objs.size ce)(x:InCallC s ce.locals (bindL ce.kindOf ((ns.take np).zip vals) λu_=>none) ce.cells (bindC ce.kindOf ((ns.take np).zip vals) λu_=>none) s₁)(X:St c FL ρ H s)(rv:cY ρ s.heap vs vals)(lv:vals.length=np):
  fE ⟨ce,ns⟩ (vs.map some++replicate (nl-np) .none) ρ s₁.heap:=by
 have ex:Ex [] s.heap s₁.heap:=λb o u_ e=>x.toInCall.keep b o e;have nL:∀b,s.heap.objs.size<=b->b∉bV ρ:=λb hb q=>X.bD.zo (Heap.get?_none_of_le hb) q;have pk:((ns.take np).zip vals).map (·.1)=ns.take np:=List.map_fst_zip (az (le_of_eq (List.length_take_of_le FO.npl)) (le_of_eq lv.symm));have nd:(((ns.take np).zip vals).map (·.1)).Nodup:=pk.symm▸FO.nodup.sublist (take_sublist _ _);have hkd:∀y,ce.kindOf y=fd.scope.names.lookup y:=λy=>by show ce.scope.names.lookup y=_;rw[N.Yk]
 refine⟨⟨_,_,x.toInCall.ns,x.cell,λi y hy=>⟨λhk=>?_,λhk=>⟨?_,?_⟩⟩⟩,nL _ (le_of_eq N.cl.symm),λn b e=>have q:=x.above n b (mem_of_lookup e);⟨nL b (le_of_lt (N.cl▸q)),Nat.ne_of_gt q⟩,?_⟩
 ·exact(HC _ _ y hk nd).symm▸DA FO X rv lv ex hy
 ·have hk:fd.scope.names.lookup y=some .cell\/fd.scope.names.lookup y=some .free:=hkd y▸hk;exact hk.elim (λhk=>isSome_iff_exists.mp (N.ccl.symm▸uI fd.scope.names (s.heap.objs.size+1) [] y (.inl hk))) λhk=>a9 hk (FO.SX y)
 ·exact(HB _ _ y (λz=>hk.elim (λq=>nomatch z.symm.trans q) λq=>nomatch z.symm.trans q) nd).symm▸DA FO X rv lv ex hy
 ·show ns.length<=_;simp only[ak,ar,List.length_replicate,rv.1,lv,FO.nl,Nat.add_sub_cancel' (FO.nl▸FO.npl)];exact le_refl _
end
theorem M5(FO:tT c f ns np eN nl fd bd)(ρ:eP)(C4:c.K.In s.heap):∃dr:Option (Array Value),cY ρ s.heap eN (dr.getD #[]).toList/\∀(M:Model) (A:Around) (E:Value->Shared->Prop) (Q:Option (Array Value)->Shared->Prop),Q dr s->wpAny M A (seqItems? fd.defaults) Q E s:=
 FO.Zu.elim (λz=>⟨none,z.2▸.nil _ _,λM A E Q q=>z.1▸bq q⟩) λz=>z.elim λT z=>z.elim λo z=>z.elim λitems z=>z.elim λm z=>⟨some items,z.2.2.2 ρ s.heap C4,λM A E Q q=>z.1▸wpAny_seqItems (C4 _ _ z.2.1) z.2.2.1 q⟩
theorem jm.deeper(a:jm A FL hd ρ (n+1))(ce:bO):jm (A.deeper ce) (ce::FL) hd ρ n:=
 ⟨by show A.frames.map _=_;rw[a.frames];rfl,by have h0:=a.depth;have e0:(A.deeper ce).depth=A.depth+1:=rfl;lia,by have h0:=a.units;have e0:(A.deeper ce).units=A.units+3:=rfl;lia,a.handled⟩
theorem MB{f:aD.Env->Prop}{P:Prop}(h:match rS np eN nl args with|some aA=>f aA| .none=>False)(k:args.length<=np->np<=args.length+eN.length->f ((args++eN.drop (args.length+eN.length-np)).map some++replicate (nl-np) .none)->P):P:=by
 unfold rS at h;by_cases q:args.length<=np/\np<=args.length+eN.length
 ·rw[ah q]at h;exact k q.1 q.2 h
 ·rw[ag q]at h;exact h.elim
theorem MT(K:cZ c){f:Addr}{ns:List Str}{np:Nat}{eN:List MV}{nl:Nat}{fd:FuncData}{bd:List Stmt}(FO:tT c f ns np eN nl fd bd){vb:Option Nat->aD.Env->MH->SQ->SE->Prop}(hb:GQ c n ns fd.scope vb bd)
  {A:Around} {ρ:eP} {H:MH} {s:Shared} {args:List MV} {bw:List Value} {Q:PQ} {E:PE} {Q':Value->Shared->Prop} {E':Value->Shared->Prop} (a:jm A FL hd ρ (n+1)) (X:St c FL ρ H s) (r:cY ρ s.heap args bw) (kQ:KQ c FL ρ s Q Q') (kE:KE c FL ρ s E E')
  (h:match rS np eN nl args with
   |some aA=>vb hd aA H (λfl u_ H1=>match fl with
     | .ret v=>lS H Q v H1
     | .next=>lS H Q .none H1
     |_=>False) (λe u_ H1=>j5 H E e H1)
   | .none=>False):codeAny (model c.prog c.w) A (.call (.ref f) ⟨bw,[]⟩) (λr s'=>match r with| .ok (.ret v)=>Q' v s'| .ok _=>False| .error e=>E' e s') s:=by
 refine MB h λg1 g3 h=>?_;have C4:=X.u7 K;have la:args.length=bw.length:=r.1;have YJ:(ns.take np).length=np:=List.length_take_of_le FO.npl;refine(M5 FO ρ C4).elim λdr z=>?_;generalize Uq:(dr.getD #[]).toList=ds at z;have ld:eN.length=ds.length:=z.1.1;rw[la,ld]at g3 h;rw[la]at g1;have ZS:=vT (fd:=fd) (ps:=ns.take np) (vals:=bw) (r:=dr) (s:=s) FO.pos FO.ps FO.kwo FO.var FO.kwa (FO.nodup.sublist (take_sublist _ _)) z.2 (YJ.symm▸g1) (YJ.symm▸Uq.symm▸ld▸FO.Zv) (YJ.symm▸Uq.symm▸g3);rw[Uq,YJ]at ZS;have rv:=r.append (z.1.drop (bw.length+ds.length-np));have lv:(bw++ds.drop (bw.length+ds.length-np)).length=np:=by rw[ak,length_drop];lia
 generalize bw++ds.drop (bw.length+ds.length-np)=vals at ZS rv lv;have I8:A.depth<recursionLimit:=lt_of_le_of_lt (az (le_add_right _ _) (az (le_add_right _ _) a.depth)) (by decide);refine FO.aP.elim λoc y=>y.elim λod y=>y.elim λUD hat=>AP I8 (C4 _ _ hat) rfl (K.nolimit.keeps X.c6) (codeRec_of C4 FO.code) FO.body ZS FO.closure (λx hx=>(FO.qy x.1 (List.of_mem_zip hx).1).imp id λz=>⟨z,uI _ _ _ _ (.inl z)⟩) (λs₁ x=>?_) FO.co FO.ZK FO.kind;have N:As fd s.heap.objs.size (callEnvC fd s.heap.objs.size f):=⟨rfl,rfl,rfl,rfl,rfl,rfl⟩
 generalize callEnvC fd s.heap.objs.size f=ce at N x⊢;have a1:=a.deeper ce;have ret:∀{ρ1:eP} {H1:MH} {s1:Shared} {v:MV} {v':Value},lS H Q v H1->St c (ce::FL) ρ1 H1 s1->j9 ⟨ce,ns⟩ ρ s₁.heap ρ1 s1.heap->VR ρ1 s1.heap v v'->Q' v' s1:=λ{ρ1 H1 s1 v v'} q Y g rr=>
  have w:=Dz N x Y g
  q.elim (λq=>kQ _ _ _ _ _ q w.1 w.2 rr) λq=>q.2.1.elim λG e=>by
   subst e;have y:=IM X w.1 w.2;exact kQ _ _ _ _ _ q.2.2 y.1 y.2 (rr.sub (vk v q.1) λi p hi=>a9 hi (not_lt_zero _))
 refine hb (ce::FL) ⟨ce,ns⟩ hd (WW FO N x) (Bv FO N x X) ⟨ce,FL,ce.locals,rfl,N.cf,N.cf⟩ N.Yk rfl (A.deeper ce) _ ρ H s₁ _ _ _ _ a1 h (SW FO N x X) (N0 FO N x X rv lv) (λfl dA H1 ρ1 s1 qo q Y l2 g rr=>?_) (λe dA H1 ρ1 s1 p k aP b q Y l2 g i1 i2=>?_)
 ·cases rr with
  |next=>exact ret q Y g .none
  |ret rr=>exact ret q Y g rr
  |brk=>exact q.elim
  |cont=>exact q.elim
 ·dsimp only[leaving];refine bp (DB K rfl a1.frames N.cf N.cf Y i1 i2 λs2 Y2 g2 ht=>dD K Y2 i1 i2 λs3 Y3 g3 u_=>?_);have w:=Dz N x Y3 (g.tr l2 (Bv FO N x X) (g2.trans g3).f);refine q.elim (λq=>kE _ _ _ _ _ _ _ _ q w.1 w.2 i1 i2) λq=>q.1.elim λG e=>q.2.2.elim λk2 y=>y.elim λat2 y=>y.elim λb2 y=>?_;subst e;cases i2.symm.trans y.1;exact(Np X w.1 w.2 q.2.1 i1 i2).elim λρ2 u=>kE H.length _ ρ2 s3 p k (DY aP) b y.2 u.1 u.2.1 u.2.2 getElem?_concat_length
end
section
variable {c:Cx} {FL:List bO} {hd:Option Nat} {n:Nat}
theorem Cc(A:Around)(C:Addr)(rest:List Value):(A.under (.builtin "type.__call__" ⟨.ref C::rest,[]⟩)).depth=A.depth+1:=rfl
theorem jm.WJ(a:jm A FL hd ρ (n+1)):jm (A.under (.builtin "type.__call__" ⟨.ref C::rest,[]⟩)) FL hd ρ n:=by
 refine⟨?_,?_,?_,a.handled⟩
 ·show pushEnvs [] A.frames=_;rw[a.frames];rfl
 ·have h0:=a.depth;simp only[Cc];lia
 ·have h0:=a.units;have e0:(A.under (.builtin "type.__call__" ⟨.ref C::rest,[]⟩)).units=A.units+(Code.builtin "type.__call__" ⟨.ref C::rest,[]⟩).cUnits:=rfl;have e1:(Code.builtin "type.__call__" ⟨.ref C::rest,[]⟩).cUnits<=3:=by show 1<=3;decide
  lia
structure Pf(c:Cx)(C fi:Addr):Prop where
 isI:me C=true
 WK:makesIn c.K C=true
 init:findIn c.K (.ref C) "__init__" =some (some (.ref fi))
 fn:typeIn c.K (.ref fi)=some (.type "function")
theorem su(h:Heap)(o o':Obj)(hf:o'.isFreed=false):((h.push o).push o').get? (h.objs.size+1)=some o':=
 (Array.size_push (xs:=h.objs) o:(h.push o).objs.size=_)▸Heap.get?_push_size _ hf
theorem De{Q E:Value->Shared->Prop}(z:match r with| .ok (.ret v)=>v= .none/\Q (.ref e) s| .ok _=>False| .error e=>E e s):InitBack e (λr s'=>match r with| .ok (.ret v)=>Q v s'| .ok _=>False| .error e=>E e s') r s:=by
 cases r with
 |error e=>exact z
 |ok v=>cases v with
  |ret v=>exact z
  |_=>exact z.elim
theorem Dt{c:Cx}{FL:List bO}{ρ ρ0:eP}{s s0:Shared}{Q:PQ}{Q':Value->Shared->Prop}{i e w:Addr}(kQ:KQ c FL ρ0 s0 Q Q')(g1:Go ρ0 s0.heap ρ s.heap)(hi:ρ[i]? =some (e,w)){v:MV}{H1:MH}{ρ1:eP}{s1:Shared}{x:Value}(q:v= .none/\Q (.ref i) H1)(Y:St c FL ρ1 H1 s1)(g2:Go ρ s.heap ρ1 s1.heap)(r:VR ρ1 s1.heap v x):x= .none/\Q' (.ref e) s1:=
 ⟨VR.ne (P:=(· = .none)) (q.1▸r:VR ρ1 s1.heap .none x) rfl,(g2.b8 _ _ hi).elim λw' z=>kQ _ _ _ _ _ q.2 Y (g1.trans g2) (.ref (p:=(e,w')) z)⟩
theorem HT(K:cZ c)(hC:xT c n C)(M:Pf c f fi){Q':Value->Shared->Prop}{E':Value->Shared->Prop}(a:jm A FL hd ρ (n+1))(X:St c FL ρ H s)(r:cY ρ s.heap args bw)(kQ:KQ c FL ρ s Q Q')(kE:KE c FL ρ s E E')
 (h:C fi (.ref H.length::args) hd (H++ [.aK f []]) (λv H1=>v= .none/\Q (.ref H.length) H1) E):
  codeAny (model c.prog c.w) A (.call (.ref f) ⟨bw,[]⟩) (λr s'=>match r with| .ok (.ret v)=>Q' v s'| .ok _=>False| .error e=>E' e s') s:=by
 have C4:=X.u7 K;refine make_core (h:=s.heap) (makes_of C4 M.WK) (looks_findIn C4 M.init) (λself=>bind_fn C4 self M.fn) (.inl rfl) ?_;have ex:Ex [] s.heap ((s.heap.push emptyDict).push (instObj f s.heap.objs.size)):=λb o u_ e=>Heap.get?_push_of_some _ (Heap.get?_push_of_some _ e);have hx:((s.heap.push emptyDict).push (instObj f s.heap.objs.size)).get? (s.heap.objs.size+1)=some (instObj f s.heap.objs.size):=su _ _ _ rfl;have I0:((s.heap.push emptyDict).push (instObj f s.heap.objs.size)).get? s.heap.objs.size=some emptyDict:=Heap.get?_push_of_some _ (Heap.get?_push_size _ rfl);have ns:((s.heap.push emptyDict).push (instObj f s.heap.objs.size)).Ns1 s.heap.objs.size λu_=>none:=.of_empty ⟨_, #[],_,I0,rfl,λe he=>a9 he (Array.not_mem_empty _),λu_=>rfl⟩;have X1:=X.new (p:=(s.heap.objs.size+1,s.heap.objs.size)) (o:=.aK f []) (t:=s.toks) ex (le_succ _) (le_refl _)
  (.aK M.isI hx rfl rfl rfl (ne_of_lt (Nat.lt_succ_self _)) ns (λn v e=>((by injection e))) (λx q=>a9 rfl q))
 have hi:(ρ++ [(s.heap.objs.size+1,s.heap.objs.size)])[H.length]? =some (s.heap.objs.size+1,s.heap.objs.size):=X.bD.len▸getElem?_concat_length;exact codeAny_mono (hC (A.under (.builtin "type.__call__" ⟨.ref f::bw,[]⟩)) FL hd _ _ _ fi _ _ _ E (λv s'=>v= .none/\Q' (.ref (s.heap.objs.size+1)) s') E' (a.b8 X1.2.b8).WJ h X1.1 (.cons (.ref hi) (r.bt X1.2.b8 ex.keep (λu_ hb=>a9 hb not_mem_nil)))
  (λv H1 ρ1 s1 x q Y g2 rr=>Dt kQ X1.2 hi q Y g2 rr) (kE.go X1.2)) λr s' z=>De z
theorem IA{prog:Program}{w:World}{A:Around}{Q:Fin->Shared->Prop}{E:Value->Shared->Prop}{h:Heap}{g:Array GenState}{d:Drawn}{t:Nat}{os:OsState}{br q:Str}{C N:Addr}{bs bm:List Value}{I0:Bool}{sn:List Str}{sub:List Value}{ab:Bool}{col:Option Bool}{dd:Option Addr}{k0 k1 k2 k3 k5:Option Value}{B newId Bl:String}
  (F:ExcBaseFacts B newId Bl bm) {mN:Str->Option Value} {rest:List Value} {fI:Addr} {oI:Obj} {h2:Heap}
  (hC:h.get? C=some (excClassObj br q C N bs bm I0 sn sub ab col dd k0 k1 k2 k3 k5 newId)) (hn:h.Ns N mN) (hi:mN "__init__" =some (.ref fI)) (ZZ:h.get? fI=some oI) (Z0:oI.cls= .type "function") (I7:rest.length<=sizeLine)
  (Nv:h2=(h.push {cls:=.type "tuple",data:=.seq rest.toArray}).push {cls:=.ref C,data:=.fields #[.ref h.objs.size,.none,.none,.none,.bool false,.none]})
  (hq:wpAny (model prog w) A (call (.ref fI) (.ref (h.objs.size+1)::rest)) (λr s'=>r= .none/\Q (.done (.ret (.ref (h.objs.size+1)))) s') E ⟨h2,g,d,t,os⟩):
  wpAny (model prog w) A (Builtin.«type.__call__» ⟨.ref C::rest,[]⟩) Q E ⟨h,g,d,t,os⟩:=by
 have up:∀{b:Addr} {o:Obj},h.get? b=some o->h2.get? b=some o:=λe=>Nv▸Heap.get?_push_of_some _ (Heap.get?_push_of_some _ e);have nsU:h2.Ns N mN:=sW hn λo e=>⟨o,up e,rfl⟩
 have aQ:h2.get? (h.objs.size+1)=some {cls:=.ref C,data:=.fields #[.ref h.objs.size,.none,.none,.none,.bool false,.none]}:=by subst Nv;heap_get
 have self:(Value.ref C::bm).contains (.ref C)=true:=by simp
 repeat (first|with_reducible refine wpAny_loadPart_at hC ?_|with_reducible refine wpAny_madeBy_exc hC ?_|wp_step)
 refine codeAny_call_builtin_code (Code.quiet_builtin _ F.quiet) (wpAny_check_new_sub F hC (codeAny_exc_new_sub F hC ?_ I7));refine Nv▸?_;show wpAny _ _ _ _ _ _;unfold isInstance
 repeat (first|with_reducible refine wpAny_loadPart_at aQ ?_|(with_reducible refine wpAny_isSubtype_exc (up hC) ?_;rw[self])|wp_step)
 show wpAny _ _ (typeLookup (.ref C) _) _ _ _;refine wpAny_typeLookup_exc (up hC) nsU F.mroIs F.init.lookup ?_;refine hi▸?_;refine wpAny_holding (bp ?_);unfold bindSpecial;refine bp (wpAny_typeOf (T:="function") ⟨_,up ZZ,Z0⟩ ?_);rw[ah (by decide)];refine bq (bp (wpAny_mono hq (λr s' hr=>?_) λu_ u_ x=>x));obtain⟨rfl,hQ⟩:=hr
 wp_walk
 exact hQ
theorem Iy{prog:Program}{w:World}{A:Around}{R:Result->Shared->Prop}{h:Heap}{g:Array GenState}{d:Drawn}{t:Nat}{os:OsState}{br q:Str}{C N:Addr}{bs bm:List Value}{I0:Bool}{sn:List Str}{sub:List Value}{ab:Bool}{col:Option Bool}{dd:Option Addr}{k0 k1 k2 k3 k5:Option Value}{B newId Bl:String}
  (F:ExcBaseFacts B newId Bl bm) {mN:Str->Option Value} {rest:List Value} {fI:Addr} {oI:Obj} {h2:Heap}
  (hC:h.get? C=some (excClassObj br q C N bs bm I0 sn sub ab col dd k0 k1 k2 k3 k5 newId)) (hn:h.Ns N mN) (hi:mN "__init__" =some (.ref fI)) (ZZ:h.get? fI=some oI) (Z0:oI.cls= .type "function") (I7:rest.length<=sizeLine)
  (Nv:h2=(h.push {cls:=.type "tuple",data:=.seq rest.toArray}).push {cls:=.ref C,data:=.fields #[.ref h.objs.size,.none,.none,.none,.bool false,.none]})
  (hq:wpAny (model prog w) (A.under (.builtin "type.__call__" ⟨.ref C::rest,[]⟩)) (call (.ref fI) (.ref (h.objs.size+1)::rest)) (λr s'=>r= .none/\R (.ok (.ret (.ref (h.objs.size+1)))) s') (λe s'=>R (.error e) s') ⟨h2,g,d,t,os⟩):
  codeAny (model prog w) A (.call (.ref C) ⟨rest,[]⟩) R ⟨h,g,d,t,os⟩:=by
 have f1:=tc_lookup;have f2:=tc_bind (.ref C);have hT:(⟨h,g,d,t,os⟩:Shared).TypeIs (.ref C) "type" :=⟨_,hC,rfl⟩
 refine codeAny_of_tree ?_;show wpAny _ _ (callAny (.ref C) _) _ _ _
 repeat (any_goals (first|assumption|with_reducible refine wpAny_loadPart_at hC ?_|wp_step))
 exact⟨rfl,codeAny_call_builtin_at (Code.quiet_builtin _ (by decide+kernel)) entry_typeCall (wpAny_check_type_call_sub hC (IA F hC hn hi ZZ Z0 I7 Nv hq))⟩
structure Pg(c:Cx)(fi:Addr):Prop where
 mh:∀{P:Prop},(∀br q N bs sn sub ab col dd k0 k1 k2 k3 k5 mN oI,c.K.lookup 84=some (excClassObj br q 84 N bs [.type "Exception",.type "BaseException",.type "object"] true sn sub ab col dd k0 k1 k2 k3 k5 "Exception.__new__")->
  (∀h,c.K.In h->h.Ns N mN)->mN "__init__" =some (.ref fi)->c.K.lookup fi=some oI->oI.cls= .type "function" ->P)->P
theorem HU(K:cZ c)(hC:xT c n C)(M:Pg c fi){Q':Value->Shared->Prop}{E':Value->Shared->Prop}(a:jm A FL hd ρ (n+1))(X:St c FL ρ H s)(r:cY ρ s.heap args bw)(hl:args.length<=line)(kQ:KQ c FL ρ s Q Q')(kE:KE c FL ρ s E E')
 (h:C fi (.ref H.length::args) hd (H++ [.aR 84 [] false]) (λv H1=>v= .none/\Q (.ref H.length) H1) E):
  codeAny (model c.prog c.w) A (.call (.ref 84) ⟨bw,[]⟩) (λr s'=>match r with| .ok (.ret v)=>Q' v s'| .ok _=>False| .error e=>E' e s') s:=by
 have C4:=X.u7 K;refine M.mh λbr q N bs sn sub ab col dd k0 k1 k2 k3 k5 mN oI e1 e2 e3 e4 e5=>Iy (h:=s.heap) PySem.F.excBase_Exception (C4 _ _ e1) (e2 _ C4) e3 (C4 _ _ e4) e5 (r.1▸hl) rfl (wpAny_call ?_);generalize Nv:(s.heap.push {cls:=.type "tuple",data:=.seq bw.toArray}).push {cls:=.ref 84,data:=.fields #[.ref s.heap.objs.size,.none,.none,.none,.bool false,.none]}=h';have ex:Ex [] s.heap h':=λb o u_ z=>Nv▸Heap.get?_push_of_some _ (Heap.get?_push_of_some _ z);have he:h'.get? (s.heap.objs.size+1)=some {cls:=.ref 84,data:=.fields #[.ref s.heap.objs.size,.none,.none,.none,.bool false,.none]}:=Nv▸su s.heap _ _ rfl;have hT:h'.get? s.heap.objs.size=some {cls:=.type "tuple",data:=.seq bw.toArray}:=Nv▸Heap.get?_push_of_some _ (Heap.get?_push_size _ rfl);have X1:=X.new (p:=(s.heap.objs.size+1,s.heap.objs.size+1)) (o:=.aR 84 [] false) (t:=s.toks) ex (le_succ _) (le_succ _)
  (.aR (mA:=λu_=>none) rfl he rfl rfl rfl (.inl ⟨rfl,rfl,λu_=>rfl⟩) (λn v e=>((by injection e))) (λx q=>a9 rfl q) ⟨_,_,_,_,rfl,hT,rfl,rfl⟩ ⟨.inl rfl⟩ (λu_=>rfl))
 have hi:(ρ++ [(s.heap.objs.size+1,s.heap.objs.size+1)])[H.length]? =some (s.heap.objs.size+1,s.heap.objs.size+1):=X.bD.len▸getElem?_concat_length;exact codeAny_mono (hC (A.under (.builtin "type.__call__" ⟨.ref 84::bw,[]⟩)) FL hd _ _ _ fi _ _ _ E (λv s'=>v= .none/\Q' (.ref (s.heap.objs.size+1)) s') E' (a.b8 X1.2.b8).WJ h X1.1 (.cons (.ref hi) (r.bt X1.2.b8 ex.keep (λu_ hb=>a9 hb not_mem_nil)))
  (λv H1 ρ1 s1 x q Y g2 rr=>Dt kQ X1.2 hi q Y g2 rr) (kE.go X1.2)) λr s' z=>De z
structure vJ(c:Cx)(M:Nat->Nat->Option Nat)(P:Nat->Option FT):Prop where
 keep:∀f,(P f).isSome=true->keepIn c.K (.ref f)=true
 cls:∀f fi,P f=some (.cls fi)->∃i,fi=some i/\Pf c f i
 aR:∀f fi,P f=some (.aR fi)->f=84/\Pg c fi
 fn:∀f np eN nl body,P f=some (.fn np eN nl body)->∃ns fd bd,tT c f ns np eN nl fd bd/\∀n,xT c n (aE M P n)->Ue c (aE M P n)->GQ c n ns fd.scope (λhd=>cv M (aE M P n) hd body) bd
theorem AN{M:Nat->Nat->Option Nat}{P:Nat->Option FT}(PO:vJ c M P)(n:Nat):Ue c (aE M P n):=λf args hd H Q E h=>PO.keep f (by
 cases n with
 |zero=>exact h.elim
 |succ n=>
  dsimp only[aE]at h;cases e:P f with
  |none=>replace h:=e▸h;exact h.elim
  |some _=>rfl)
theorem HS(K:cZ c){M:Nat->Nat->Option Nat}{P:Nat->Option FT}(PO:vJ c M P)(n:Nat):xT c n (aE M P n):=by
 induction n with
 |zero=>exact λu_ u_ u_ u_ u_ u_ u_ u_ u_ u_ u_ u_ u_ u_ h=>h.elim
 |succ n ih=>
  intro A FL hd ρ H s f args bw Q E Q' E' a h X r kQ kE;dsimp only[aE]at h;generalize e:P f=o at h;cases o with
  |none=>exact h.elim
  |some ft=>
   cases ft with
   |fn np eN nl body=>exact(PO.fn f np eN nl body e).elim λns z=>z.elim λfd z=>z.elim λbd z=>MT K z.1 (z.2 n ih (AN PO n)) a X r kQ kE h
   |cls fi=>
    refine(PO.cls f _ e).elim λi z=>?_;obtain rfl:=z.1;exact HT K ih z.2 a X r kQ kE h
   |aR fi=>
    have z:=PO.aR f fi e;obtain rfl:=z.1;exact HU K ih z.2 a X r (az h.1 (by decide)) kQ kE h.2
end
noncomputable def yg(cells:List (Str×Addr))(acc:List (Str×Addr))(p:Str×NameKind):List (Str×Addr):=if p.2== .free then(p.1,(cells.lookup p.1).getD 0)::acc else acc
def lW(cells:List (Str×Addr))(names:List (Str×NameKind))(acc:List (Str×Addr)):List (Str×Addr):=names.foldl (yg cells) acc
theorem MY(aA:bO)(names:List (Str×NameKind)):∀acc:List (Str×Addr),(∀x∈names,x.2= .free->(aA.cells.lookup x.1).isSome=true)->
  (forIn names acc (λx cs=>do
   match x with
   |(name,kind)=>if kind== .free then do pure (ForInStep.yield ((name,<-cellOf aA name)::cs))else pure (ForInStep.yield cs)):Sem (List (Str×Addr)))=pure (lW aA.cells names acc):=by
 induction names with
 |nil=>exact λu_ u_=>rfl
 |cons p r ih=>
  intro acc h;rw[forIn_cons];refine((af (λm:Sem (ForInStep (List (Str×Addr)))=>m>>=_) (?_:_=pure (ForInStep.yield (yg aA.cells acc p)))).trans rfl).trans (ih _ λx hx=>h x (.tail _ hx));show(if p.2== .free then cellOf aA p.1>>=λa=>pure (ForInStep.yield ((p.1,a)::acc))else pure (ForInStep.yield acc):Sem (ForInStep (List (Str×Addr))))=_;unfold yg;by_cases hk:(p.2==NameKind.free)=true
  ·rw[ah hk,ah hk];refine(isSome_iff_exists.mp (h p (.head _) (beq_iff_eq.mp hk))).elim λb hb=>?_;unfold cellOf;refine hb▸?_;rfl
  ·rw[ag hk,ag hk]
theorem t6(h:∀x∈scope.names,x.2= .free->(aA.cells.lookup x.1).isSome=true):closureFor scope aA=pure (lW aA.cells scope.names []):=
 af (· >>=λr=>(pure r:Sem _)) (MY aA scope.names [] h)
theorem EM(names:List (Str×NameKind)):∀acc:List (Str×Addr),(n,a)∈lW cells names acc->(n,a)∈acc\/((n,NameKind.free)∈names/\a=(cells.lookup n).getD 0):=by
 induction names with
 |nil=>exact λu_=>.inl
 |cons p r ih=>
  intro acc h;refine(ih _ h).elim (λz=>?_) λz=>.inr ⟨.tail _ z.1,z.2⟩;unfold yg at z;by_cases hk:(p.2==NameKind.free)=true
  ·rw[ah hk]at z;refine(mem_cons.mp z).elim (λz=>?_) .inl;injection z with I1 I2;subst I1 I2
   exact .inr ⟨beq_iff_eq.mp hk▸.head _,rfl⟩
  ·rw[ag hk]at z;exact .inl z
theorem Bs{α β:Type}[BEq α][LawfulBEq α]{l:List (α×β)}{n:α}(h:n∈l.map (·.1)):∃a,l.lookup n=some a:=by
 induction l with
 |nil=>exact a9 h not_mem_nil
 |cons p r ih=>
  rw[lookup_cons];cases q:n==p.1 with
  |true=>exact⟨_,rfl⟩
  |false=>exact(mem_cons.mp h).elim (λz=>a9 z (beq_eq_false_iff_ne.mp q)) ih
theorem EL{cells:List (Str×Addr)}{n:Str}(names:List (Str×NameKind)):∀acc:List (Str×Addr),((n,NameKind.free)∈names\/n∈acc.map (·.1))->n∈(lW cells names acc).map (·.1):=by
 induction names with
 |nil=>exact λu_ h=>h.elim (a9 · not_mem_nil) id
 |cons p r ih=>
  refine λacc h=>ih _ ?_;unfold yg;by_cases hk:(p.2==NameKind.free)=true
  ·rw[ah hk];refine h.elim (λh=>(mem_cons.mp h).elim (λz=>.inr ?_) .inl) λh=>.inr (.tail _ h);subst z;exact .head _
  ·rw[ag hk];refine h.imp (λh=>(mem_cons.mp h).elim (λz=>?_) id) id;subst z;exact a9 rfl hk
theorem zc{α:Type}{F:Str×α->Str×α}(hF:∀p,(F p).1=p.1){y:Str}(l:List (Str×α)):(l.map F).lookup y=(l.lookup y).map λk=>(F (y,k)).2:=by
 induction l with
 |nil=>rfl
 |cons p r ih=>
  rw[map_cons,lookup_cons,lookup_cons,hF,ih];cases q:y==p.1 with
  |true=>rw[beq_iff_eq.mp q];rfl
  |false=>rfl
theorem jJ{aA:bO}{y:Str}{k:NameKind}{names:List (Str×NameKind)}(hc:∀x∈names,x.2≠.cell)
  (h:(names.map λ(n,k)=>if(k==NameKind.free&&aA.scope.kind== .function&&aA.kindOf n==some .cell)then(n,NameKind.cell)else(n,k)).lookup y=some k):
  (k= .local->names.lookup y=some .local)/\(k= .cell\/k= .free->names.lookup y=some .free):=by
 refine(map_eq_some_iff.mp ((zc (λp=>?_) names).symm.trans h)).elim λj z=>?_
 ·exact(apply_ite Prod.fst _ _ _).trans (ite_self _)
 have c0:j≠.cell:=hc _ (dK z.1);by_cases q:(j==NameKind.free&&aA.scope.kind== .function&&aA.kindOf y==some .cell)=true
 ·have z2:=(af Prod.snd (ah q)).symm.trans z.2;exact⟨λe=>((by injection(z2.trans e))),λu_=>beq_iff_eq.mp (bh (bh q).1).1▸z.1⟩
 ·have z2:j=k:=(af Prod.snd (ag q)).symm.trans z.2;exact⟨λe=>z.1.trans (af some (z2.trans e)),λe=>z.1.trans (af some (e.elim (λe=>a9 (z2.trans e) c0) z2.trans))⟩
structure oy(fm:Fm)(scope:Scope)(i:Nat)(x:Str):Prop where
 kind:scope.kind= .function
 names:∀z∈scope.names,z.2= .local->scope.names.lookup z.1=some .local
 cell:∀z∈scope.names,z.2≠.cell
 free:∀z∈scope.names,z.2= .free->(∃j:Nat,fm.ns[j]? =some z.1)/\(fm.aA.kindOf z.1=some .cell\/fm.aA.kindOf z.1=some .free)
 var:scope.names.lookup x=some .local
 slot:fm.ns[i]? =some x
 only:∀(j:Nat) y,fm.ns[j]? =some y->scope.names.lookup y=some .local->y=x
theorem Go.fresh{ρ0 h0 ρ1 h1 h2}(g:Go ρ0 h0 ρ1 h1)(ex:Ex [I] h1 h2)(ZL:h0.get? I=none)(hI:I∉bV ρ1):Go ρ0 h0 ρ1 h2:=
 ⟨g.b8,g.new,λb o hb e=>(g.keep b o hb e).imp λo1 z=>⟨ex _ _ (λq=>(by injection((bg q▸ZL).symm.trans e))) z.1,z.2⟩,
  λi p e t=>(g.b8 i p e).elim λq e1=>(g.tb i p e t).at λo eo=>ex _ _ (λz=>hI (bg z▸(aO e1).1)) eo⟩
section
variable {c:Cx} {FL:List bO} {fm:Fm} {hd:Option Nat} {n:Nat}
structure j6(c:Cx)(FL:List bO)(ρ:eP)(h:Heap)(C:Addr):Prop where
 ns:∃m,h.Ns C m
 Fy:C∉bV ρ
 bQ:c.bQ.get? C=none
 fr:C∉FL.filterMap (·.frame)
theorem j6.nb{ρ h C}(x:j6 c FL ρ h C):NB [C] h:=x.ns.elim λu_ hm=>mK (hm.elim λo z=>z.elim λu_ z=>z.elim λu_ z=>⟨o,z.1,λvs=>⟨iC hm z.1 vs,λws n q=>(by injection(z.2.1.symm.trans q))⟩⟩)
theorem j6.go{ρ h ρ1 h1 C}(x:j6 c FL ρ h C)(g:Go ρ h ρ1 h1):j6 c FL ρ1 h1 C:=
 ⟨x.ns.imp λu_ hm=>sW hm λo e=>kA g.keep x.Fy e (iC hm e),λq=>(g.new C q).elim x.Fy λz=>x.ns.elim λu_ hm=>(zp hm).elim λo e=>((by injection(e.1.symm.trans z))),x.bQ,x.fr⟩
theorem j6.at{ρ h h1 C}(x:j6 c FL ρ h C)(k:∀o,h.get? C=some o->h1.get? C=some o):j6 c FL ρ h1 C:=
 ⟨x.ns.imp λu_ hm=>sW hm λo e=>⟨o,k o e,rfl⟩,x.Fy,x.bQ,x.fr⟩
theorem St.Ou{ρ H}(X:St c FL ρ H s)(x:j6 c FL ρ s.heap C)(k:Heap.SameBut C s.heap h'):St c FL ρ H {s with heap:=h',toks:=t}:=
 X.free (Ex.cP k) (λb hb=>(bg hb).symm▸x.bQ) (λb hb=>(bg hb).symm▸x.Fy) x.nb
  (dG (Ex.cP k).keep (λb hb q=>x.fr (bg q▸hb)) X.frames)
theorem NM{E}{Q:Value->Shared->Prop}(a:eW k s.heap I x' m i)(h:Q (.ref I) s):wpAny (model c.prog c.w) A (pyIter (.ref I)) Q E s:=by
 cases k with
 |aF=>exact a.elim λt z=>wpAny_pyIter_tupleiter z.2 h
 |list=>exact a.elim λt z=>wpAny_pyIter_listiter z.2 h
 |dict=>exact a.elim λt z=>wpAny_pyIter_keyiter z.2 h
 |range=>exact wpAny_pyIter_rangeiter a h
end
section
variable {c:Cx} {FL:List bO} {fm:Fm} {hd:Option Nat} {n:Nat}
def Vk(fm:Fm)(scope:Scope)(C:Addr):Fm:=⟨compEnvC scope (lW fm.aA.cells scope.names []) C fm.aA,fm.ns⟩
theorem kU(H0:∀x∈scope.names,x.2= .free->(fm.aA.cells.lookup x.1).isSome=true)(h:(Vk fm scope C).aA.cells.lookup y=some a):fm.aA.cells.lookup y=some a/\(y,NameKind.free)∈scope.names:=
 (EM _ _ (dK (show(lW fm.aA.cells scope.names []).lookup y=some a from h))).elim (a9 · not_mem_nil) λz=>(isSome_iff_exists.mp (H0 _ z.1 rfl)).elim λb hb=>⟨hb.trans (af some ((z.2.trans (af (·.getD 0) hb)).symm)),z.1⟩
theorem Ro(F:c7 fm)(CO:oy fm scope i x)(H0:∀x∈scope.names,x.2= .free->(fm.aA.cells.lookup x.1).isSome=true)(C:Addr):c7 (Vk fm scope C):=
 ⟨CO.kind,F.globals,F.builtins,F.frame,λn n' a e e'=>F.cells n n' a (kU H0 e).1 (kU H0 e').1,F.nodup⟩
theorem MK(F:c7 fm)(CO:oy fm scope i x)(H0:∀x∈scope.names,x.2= .free->(fm.aA.cells.lookup x.1).isSome=true){m:Str->Option Value}
 (l:fE fm ev ρ h) (hC:h.Ns C m) (hm:m x=some v') (r:VR ρ h v v') (m5:C∉bV ρ):fE (Vk fm scope C) (bN ev i (some v)) ρ h:=by
 refine l.ex.elim λm0 z=>z.elim λcm z=>?_;have hlen:i<ev.length:=lt_of_lt_of_le (bo CO.slot).1 l.len;refine⟨⟨m,cm,hC,λy a e=>z.2.1 y a (kU H0 e).1,λj y hj=>⟨λhk=>?_,λhk=>?_⟩⟩,m5,λy a e=>?_,by rw[gc];exact l.len⟩
 ·have w:=CO.only j y hj ((jJ CO.cell (show(relabel scope fm.aA).names.lookup y=some .local from hk)).1 rfl);subst w;have qr:i=j:=Decidable.byContradiction λq=>zq F CO.slot hj (λe=>q e.symm) rfl;rw[gS,ah ⟨qr,hlen⟩,hm];exact .some r
 ·have w:scope.names.lookup y=some .free:=hk.elim (λhk=>(jJ CO.cell (show(relabel scope fm.aA).names.lookup y=some .cell from hk)).2 (.inl rfl)) λhk=>(jJ CO.cell (show(relabel scope fm.aA).names.lookup y=some .free from hk)).2 (.inr rfl);have zm:=dK w;refine⟨Bs (EL (cells:=fm.aA.cells) _ [] (.inl zm)),?_⟩;rw[gS,ag λq=>nomatch(inj (CO.slot.symm.trans (q.1▸hj))▸CO.var).symm.trans w];exact((z.2.2 j y hj).2 (CO.free _ zm rfl).2).2
 ·have e0:=(kU H0 e).1;refine⟨(l.cells y a e0).1,λq=>?_⟩;subst q;exact(z.2.1 y _ e0).elim λo y=>hC.elim λo2 w=>w.elim λes w=>w.elim λep w=>by
   injection(y.1.symm.trans w.1)with I1;subst I1;exact(by injection(y.2.symm.trans w.2.1))
theorem Bn{k ρ h x' m j}(it:eW k h I x' m j)(ow:j6 c FL ρ h C):C≠I:=λq=>it.oe λo T vs w=>ow.ns.elim λu_ hm=>iC (q▸hm) w.e vs w.hd
theorem WB{k x' m j}{ρ ρ1 h h1}(g:Go ρ h ρ1 h1)(nI:I∉bV ρ)(it:eW k h I x' m j):eW k h1 I x' m j:=
 it.oe λo T vs w=>it.at λo' e'=>by
  injection(w.e.symm.trans e')with I1;subst I1;exact g.keep.same nI w.e w.hd λz=>w.n3 (Value.type.inj (w.hc.symm.trans z))
structure CI(c:Cx)(FL:List bO)(k:IK)(B:MV->MH->PQ->Prop)(eZ:MH->Prop)(d:Nat)(vs:List MV)(Q:PQ)(ρ1:eP)(h1:Heap)(D C I:Addr)(x':Value)(j:Nat)(acc:List MV)(ρ:eP)(H:MH)(s:Shared):Prop where
 p:gG B eZ d (vs.drop j) acc H Q
 X:St c FL ρ H s
 g:Go ρ1 h1 ρ s.heap
 eD:∃q,ρ[d]? =some (D,q)
 it:eW k s.heap I x' vs.length j
 ow:j6 c FL ρ s.heap C
section
variable {k:IK} {B:MV->MH->PQ->Prop} {eZ:MH->Prop} {d:Nat} {vs:List MV} {Q:PQ} {ρ1:eP} {s1:Shared} {D C I:Addr} {x':Value} {j:Nat} {acc:List MV} {ρ:eP} {H:MH} {s:Shared}
theorem Ia{E'}(X:St c FL ρ H s)(b:H[d]? =some (.list acc)/\acc.length<line/\gG B eZ d (vs.drop (j+1)) (acc++ [r]) (H.set d (.list (acc++ [r]))) Q)(g:Go ρ1 s1.heap ρ s.heap)(eD:ρ[d]? =some (D,q2))(it:eW k s.heap I x' vs.length (j+1))(ow:j6 c FL ρ s.heap C)(ry:VR ρ s.heap r y)(hj:j<vs.length)(hm:m=vs.length-j):
  wpAny (model c.prog c.w) A (call (.builtin "list.append") [.ref D,y]) (λu_ s=>∃m',m'<m/\∃j acc ρ H,(m'=vs.length-j/\j<=vs.length)/\CI c FL k B eZ d vs Q ρ1 s1.heap D C I x' j acc ρ H s) E' s:=by
 refine X.lv (.ref eD) b.1 (P:=λx=>wpAny _ A (call (.builtin "list.append") [x,y]) _ E' s) λp ws m ei e1 v1 z2 hp=>append_at e1 (λh8 k1 e2=>?_) (v1.size▸z2);have z:=X.zN (vs:=acc++ [r]) (ws:=ws.push y) (t:=s.toks) ei hp ⟨_,e1,λu_ q=>(by injection q)⟩ k1 e2 ((Array.toList_push (xs:=ws) (x:=y)).symm▸v1.append (.cons ry (.nil _ _))) (az (le_of_eq ak) b.2.1);exact⟨_,hm▸Nat.sub_lt_sub_left hj (Nat.lt_succ_self j),j+1,acc++ [r],ρ,_,⟨rfl,hj⟩,b.2.2,z.1,g.trans z.2,⟨_,eD⟩,it.at λo e=>(k1.2 I λz=>fj X it (z▸(aO ei).1)).trans e,ow.go z.2⟩
theorem Ib(K:cZ c)(hA:A.frames=some FL)(hh:dS FL fm){E' Q0:Value->Shared->Prop}{use}(kE:KE c FL ρ1 s1 E E')(q:E e H)(X:St c FL ρ H s)(g:Go ρ1 s1.heap ρ s.heap)(ow:j6 c FL ρ s.heap C)(sC:s1.heap.get? C=none)(i1:ρ[e]? =some p)(i2:H[e]? =some (.aR kk aP b)):
  notedBy (model c.prog c.w) A fm.aA (λe s'=>compPost (model c.prog c.w) A E' use Q0 v C (.error e) s') (.ref p.1) s:=
 jC K hA hh X i1 i2 λs8 X8 g8 ht8=>
  have YR:=ow.go g8
  YR.ns.imp λm8 hm8=>⟨hm8,λh9 hs9 Vv u_=>
   have X9:=X8.Ou YR (t:=s8.toks) hs9;have g9:=(g.trans g8).fresh (Ex.cP hs9) sC YR.Fy
   xq (fm:=⟨Vv,[]⟩) (s:={s8 with heap:=h9}) (ht8.at λo eo=>(hs9.2 _ λz=>YR.Fy (z▸(aO i1).1)).trans eo)
    (dD K X9 i1 i2 λs10 X10 g10 u_=>wpAny_throw (kE e _ ρ s10 p kk aP b q X10 (g9.trans g10) i1 i2))⟩
end
theorem uJ(K:cZ c)(F:c7 fm)(hh:dS FL fm)(OO:cD c fm){scope:Scope}{i:Nat}{x:Str}{px Zn pos:Pos}{elt iter:Expr}(CO:oy fm scope i x){v:aD.Env->MH->PQ->PE->Prop}{dI:Eg}
  (hf:∀x,foldedSetIterable iter fm.aA x=pure x) (hi:oC c FL fm .none n dI (eval iter fm.aA))
  (hv:∀ou:Fm,c7 ou->dS FL ou->ou.aA.scope=relabel scope fm.aA->ou.ns=fm.ns->aH c FL ou .none n v (eval elt ou.aA))
  {A:Around} {ev:aD.Env} {ρ:eP} {H:MH} {s:Shared} {Q:PQ} {E:PE} {use:Option (Value->Sem Unit)} {Q0 E':Value->Shared->Prop} (a:jm A FL .none ρ n)
  (h:dI.D1 ev H (λvs eZ H1=>gG (λw H2 Q2=>v (bN ev i (some w)) H2 Q2 E) eZ H1.length vs [] (H1++ [.list []]) Q) E) (X:St c FL ρ H s) (l:fE fm ev ρ s.heap) (kE:KE c FL ρ s E E')
  (fin:∀(dv:MV) (H1:MH) (ρ1:eP) (s1:Shared) (H2:MH) (ρ2:eP) (s2:Shared) (D C:Addr),Q dv H2->St c FL ρ1 H1 s1->Go ρ s.heap ρ1 s1.heap->St c FL ρ2 H2 s2->Go ρ1 s1.heap ρ2 s2.heap->VR ρ2 s2.heap dv (.ref D)->j6 c FL ρ2 s2.heap C->s1.heap.get? C=none->
   compPost (model c.prog c.w) A E' use Q0 (.ref D) C (.ok .next) s2):
  wpAny (model c.prog c.w) A (comprehension (.ListComp elt [⟨.Name x px,iter,[],0⟩] scope pos) scope fm.aA Zn (newList []) false (eval iter fm.aA) use) Q0 E' s:=by
 have H0:∀x∈scope.names,x.2= .free->(fm.aA.cells.lookup x.1).isSome=true:=λy hy hk=>
  have z:=CO.free y hy hk
  z.1.elim λj hj=>l.ex.elim λm w=>w.elim λcm w=>isSome_iff_exists.mpr ((w.2.2 j _ hj).2 z.2).1
 refine wpAny_comprehension_free rfl hf (t6 H0) CO.kind CO.names (hi A ev ρ H s _ _ _ E' a h X l (λk xv UM vs eZ H1 ρ1 s1 h' t I q hc src X1 g1 r1 ex hI it=>?_) kE);have X2:=X1.ex (t:=t) ex;have V8:c.bQ.get? I=none:=dq X1.c6 hI;refine wpAny_newList ?_ (by decide);have X3:=X2.1.new (p:=(h'.objs.size,h'.objs.size)) (o:=.list []) (t:=t) (Ex.push [] h' {cls:=.type "list",data:=.seq ([]:List Value).toArray}) (le_refl _) (le_refl _)
  (.list (Heap.get?_push_size _ rfl) (.nil _ _) (zero_le _) rfl)
 have eD:=X1.sN (h'.objs.size,h'.objs.size);have Wy:eW k (h'.push {cls:=.type "list",data:=.seq ([]:List Value).toArray}) I UM vs.length 0:=it.at λo e=>Heap.get?_push_of_some _ e;have nH:=X2.2.trans X3.2;have X3:=X3.1;have sCC:∀C,(h'.push {cls:=.type "list",data:=.seq ([]:List Value).toArray}).get? C=none->s1.heap.get? C=none:=λC nC=>by
  cases z:s1.heap.get? C with
  |none=>rfl
  |some o=>exact(by injection((Heap.get?_push_of_some _ (ex C o not_mem_nil z)).symm.trans nC))
 generalize h'.objs.size=D at X3 nH eD;generalize ({cls:=.type "list",data:=.seq ([]:List Value).toArray}:Obj)=oD at X3 nH Wy sCC⊢;refine wpAny_newFunctionEnv CO.cell (λy hy=>a9 hy not_mem_nil) (λh4 hns hsb=>?_) CO.kind;dsimp only at X3 nH hns hsb⊢;have nC:(h'.push oD).get? (h'.push oD).objs.size=none:=Heap.get?_none_of_le (le_refl _);generalize (h'.push oD).objs.size=C at hns hsb nC⊢;have exC:Ex [] (h'.push oD) h4:=λb o u_ e=>(hsb.2 b λq=>(by injection((q▸e:(h'.push oD).get? C=some o).symm.trans nC))).trans (Heap.get?_push_of_some _ e);have X4:=X3.ex (t:=t+([]:List (Str×Value)).length) exC;have ow4:j6 c FL (ρ1++ [(D,D)]) h4 C:=⟨⟨_,hns⟩,X3.bD.zo nC,dq X3.c6 nC,λq=>(X3.frames.mem q).2.elim λo2 z=>(by injection(z.1.symm.trans nC))⟩
 have sC:=sCC C nC;have R9:((compEnvC scope (lW fm.aA.cells scope.names []) C fm.aA).scope.kind== .class||((compEnvC scope (lW fm.aA.cells scope.names []) C fm.aA).scope.kind== .module&&(compEnvC scope (lW fm.aA.cells scope.names []) C fm.aA).locals !=(compEnvC scope (lW fm.aA.cells scope.names []) C fm.aA).globals))=false:=by
  show(scope.kind== .class||(scope.kind== .module&&_))=false;refine CO.kind▸?_;rfl
 have Ur:dS FL (Vk fm scope C):=hh;have it4:eW k h4 I UM vs.length 0:=Wy.at λo e=>exC _ o not_mem_nil e;refine(λloop=>codeAny_compStart_list loop (NM it4 loop)) (codeAny_compLoop_list (λm s=>∃j acc ρ H,(m=vs.length-j/\j<=vs.length)/\CI c FL k (λw H2 Q2=>v (bN ev i (some w)) H2 Q2 E) eZ H1.length vs Q ρ1 s1.heap D C I UM j acc ρ H s) (λm s' z=>?_) vs.length
  ⟨0,[],_,_,⟨rfl,zero_le _⟩,q,X4.1,nH.trans X4.2,⟨_,eD⟩,it4,ow4⟩)
 refine z.elim λj z=>z.elim λacc z=>z.elim λρ' z=>z.elim λH' z=>?_;have y:=z.2;have rr:k= .range\/VR ρ' s'.heap xv UM:=r1.imp id λz=>z.bt y.g.b8 y.g.keep X1.bD.nb.nt;by_cases Wh:j<vs.length
 ·have Wb:=List.drop_eq_getElem_cons Wh▸y.p;refine Dj y.X rr (xD src (hc _ Wb.1)) y.it (getElem?_eq_getElem Wh) λh5 t5 yv hs5 it5 ry=>?_;have Uj:Ex [I] s'.heap h5:=Ex.cP hs5;have X5:=y.X.iter y.it V8 (t:=t5) Uj;have g5:=y.g.fresh Uj hI (fj y.X y.it);have Ot:j6 c FL ρ' h5 C:=y.ow.at λo e=>Uj _ o (λz=>Bn y.it y.ow (bg z)) e;have ry5:=ry.bt (.refl ρ') Uj.keep (xa y.it);refine Ot.ns.elim λmC hnC=>wpAny_assign_Name (wpAny_storeName_local (lookup_relabel_local CO.var) hnC (λh6 hn6 YE=>?_) R9);have X6:=X5.Ou Ot (t:=t5+1) YE;have g6:=g5.fresh (Ex.cP YE) sC Ot.Fy;have ow6:j6 c FL ρ' h6 C:=⟨⟨_,hn6⟩,Ot.Fy,Ot.bQ,Ot.fr⟩
  have it6:eW k h6 I UM vs.length (j+1):=it5.at λo e=>(YE.2 I (λz=>Bn it5 Ot z.symm)).trans e;have ry6:=ry5.bt (.refl ρ') (Ex.cP YE).keep Ot.nb.nt;exact hv (Vk fm scope C) (Ro F CO H0 C) Ur rfl rfl A _ ρ' H' _ _ E _ _ ((a.b8 g1.b8).b8 g6.b8) Wb.2 X6 (MK F CO H0 (l.go (g1.trans g6) X.bD.nb) hn6 (ah rfl) ry6 Ot.Fy)
   (λr H7 ρ7 s7 y7 q7 X7 g7 r7=>y.eD.elim λq eD=>(g7.b8 _ _ eD).elim λq2 eD7=>Ia X7 q7 (g6.trans g7) eD7 (WB g7 (fj X6 it6) it6) (ow6.go g7) r7 Wh z.1.1)
   λe H7 ρ7 s7 p kk aP b q7 X7 g7 i1 i2=>Ib K a.frames Ur (kE.go g1) q7 X7 (g6.trans g7) (ow6.go g7) sC i1 i2
 ·have Yz:j=vs.length:=le_antisymm z.1.2 (not_lt.mp Wh);have Wb:=List.drop_eq_nil_of_le (not_lt.mp Wh)▸y.p;have it:eW k s'.heap I UM vs.length vs.length:=Yz▸y.it;refine Di a.none y.X rr (xD src (hc _ Wb.1)) it λh5 Uj=>?_;have RJ:Ex [I] s'.heap h5:=λb o hb e=>Uj b o (λq=>hb (q▸.head _)) e;exact y.eD.elim λq eD=>fin _ _ _ _ _ _ _ _ _ Wb.2.2 X1 g1 (y.X.iter y.it V8 (t:=s'.toks) RJ) (y.g.fresh RJ hI (fj y.X y.it)) (VR.ref eD) (y.ow.at λo e=>RJ _ o (λz=>Bn y.it y.ow (bg z)) e) sC
end
section
variable {c:Cx} {FL:List bO} {fm:Fm} {hd:Option Nat} {n:Nat}
theorem Lg(K:cZ c)(F:c7 fm)(hh:dS FL fm)(OO:cD c fm){scope:Scope}{i:Nat}{x:Str}{px pos:Pos}{elt iter:Expr}(CO:oy fm scope i x){v:Option Nat->aD.Env->MH->PQ->PE->Prop}{dI:Option Nat->Eg}
  (hf:∀x,foldedSetIterable iter fm.aA x=pure x) (hi:oC c FL fm .none n (dI .none) (eval iter fm.aA))
  (hv:∀ou:Fm,c7 ou->dS FL ou->ou.aA.scope=relabel scope fm.aA->ou.ns=fm.ns->aH c FL ou .none n (v .none) (eval elt ou.aA)):
  aH c FL fm hd n (λev H Q E=>hd= .none/\(dI hd).D1 ev H (λvs eZ H1=>gG (λw H2 Q2=>v hd (bN ev i (some w)) H2 Q2 E) eZ H1.length vs [] (H1++ [.list []]) Q) E) (eval (.ListComp elt [⟨.Name x px,iter,[],0⟩] scope pos) fm.aA):=by
 intro A ev ρ H s Q E Q' E' a h X l kQ kE;obtain⟨hn,h⟩:=h;subst hn;simp only[eval_ListComp];refine uJ (use:=none) K F hh OO CO hf hi hv a h X l kE λdv H1 ρ1 s1 H2 ρ2 s2 D C q X1 g1 X2 g2 r2 ow sC=>?_;obtain⟨m,hm⟩:=ow.ns;refine⟨m,hm,λh' hs=>?_⟩;have X3:=X2.Ou ow (t:=s2.toks) hs;exact kQ _ _ _ _ _ q X3 (g1.trans (g2.fresh (Ex.cP hs) sC ow.Fy)) (r2.bt (.refl ρ2) (Ex.cP hs).keep ow.nb.nt)
theorem xB(K:cZ c)(F:c7 fm)(hh:dS FL fm)(OO:cD c fm){scope:Scope}{i j:Nat}{x y:Str}{px py pos OZ:Pos}{elt iter:Expr}(CO:oy fm scope i x){v:Option Nat->aD.Env->MH->PQ->PE->Prop}{dI:Option Nat->Eg}
  (hsw:swapsWith (.ListComp elt [⟨.Name x px,iter,[],0⟩] scope pos) (some (.Name y py)) OZ.line fm.aA=pure true) (hj:fm.ns[j]? =some y) (hk:fh fm y)
  (hf:∀x,foldedSetIterable iter fm.aA x=pure x) (hi:oC c FL fm .none n (dI .none) (eval iter fm.aA))
  (hv:∀ou:Fm,c7 ou->dS FL ou->ou.aA.scope=relabel scope fm.aA->ou.ns=fm.ns->aH c FL ou .none n (v .none) (eval elt ou.aA)):
  bu c FL fm hd n (λev H Q E=>hd= .none/\(dI hd).D1 ev H (λvs eZ H1=>gG (λw H2 Q2=>v hd (bN ev i (some w)) H2 Q2 λx H1=>E x ev H1) eZ H1.length vs [] (H1++ [.list []]) λv H1=>Q .next (bN ev j (some v)) H1) λx H1=>E x ev H1)
   (exec (.Assign [.Name y py] (.ListComp elt [⟨.Name x px,iter,[],0⟩] scope pos) OZ) fm.aA):=by
 intro A ev ρ H s Q E Q' E' a h X l kQ kE;obtain⟨hn,h⟩:=h;subst hn;rw[exec_Assign_Name_used _ _ _ _ hsw];refine bp (wpAny_standAt (bp ?_));show wpAny _ A (do let _<-comprehension (.ListComp elt [⟨.Name x px,iter,[],0⟩] scope pos) scope fm.aA _ (newList []) false (eval iter fm.aA) (some (assign (.Name y py) fm.aA))) _ _ s;refine bp (wpAny_mono (uJ (use:=some (assign (.Name y py) fm.aA)) (Q0:=λu_ s'=>Q' .next s') K F hh OO CO hf hi hv a h X l (kE.e X l) λdv H1 ρ1 s1 H2 ρ2 s2 D C q X1 g1 X2 g2 r2 ow sC=>?_) (λu_ s' hq=>bq (bq hq)) λu_ u_ e=>e);have l1:=l.go g1 X.bD.nb;have l2:=l1.go g2 X1.bD.nb;show wpAny _ A (assign (.Name y py) fm.aA (.ref D)) _ _ _;refine wpAny_assign_Name (pN F OO X2 l2 hj hk r2 λs3 X3 l3 g3=>?_);have nC:∀b∈rG fm,b≠C:=λb hb z=>by
  obtain⟨o,e,_⟩:=l1.om b hb OO.O9;rw[z,sC]at e;injection e
 obtain⟨m,hm⟩:=ow.ns;have hm3:s3.heap.Ns C m:=sW hm λo e=>kA g3.keep (λz=>by
  rcases mem_append.mp z with z|z
  ·exact nC C z rfl
  ·exact ow.Fy z) e (iC hm e)
 refine⟨m,hm3,λh' hs=>?_⟩;have ow3:j6 c FL ρ2 s3.heap C:=⟨⟨m,hm3⟩,ow.Fy,ow.bQ,ow.fr⟩
 have X4:=X3.Ou ow3 (t:=s3.toks) hs;have ex:Ex [C] s3.heap h':=Ex.cP hs;have nH:j9 fm ρ1 s1.heap ρ2 s3.heap:=g2.f.tr l2 OO g3;have GI:=nH.iter ex sC ow.Fy;have l4:fE fm (bN ev j (some dv)) ρ2 h':=by
  obtain⟨mm,cm,hN,hCe,hv'⟩:=l3.ex;have nt:=ow3.nb.nt;refine⟨⟨mm,cm,sW hN λo e=>⟨o,ex _ o (λq=>nC _ (.head _) (bg q)) e,rfl⟩,λn a e=>pb (hCe n a e) λo eo=>⟨o,ex _ o (λq=>nC _ (.tail _ (mem_map.mpr ⟨_,dK e,rfl⟩)) (bg q)) eo,rfl⟩,λi x e=>?_⟩,l3.m5,l3.cells,l3.len⟩;exact⟨λq=>((hv' i x e).1 q).bt (.refl ρ2) ex.keep nt,λq=>⟨((hv' i x e).2 q).1,((hv' i x e).2 q).2.bt (.refl ρ2) ex.keep nt⟩⟩
 exact kQ _ _ _ _ _ _ q X4 l4 (g1.f.tr l1 OO GI) .next
end
theorem dM:∀{a b:List Nat},fk a b=true↔a=b
 | [],[]=>by decide
 | [],_::_=>by simp[fk]
 |_::_,[]=>by simp[fk]
 |a::r,b::q=>by simp[fk,dM,Nat.beq_eq_true_eq]
theorem gP(h:tF x s=true):x=SL s:=by
 have:=dM.mp h;obtain⟨a⟩:=x;subst this;rfl
theorem jc:∀(l:List (Str×NameKind)) (x:Str),eF l x=l.lookup x
 | [],_=>rfl
 |(n,k)::r,x=>by
  rw[lookup_cons];dsimp only[eF];by_cases h:fk x.cps.toList n.cps.toList=true
  ·have:x=n:=by
    have h:=dM.mp h;obtain⟨a⟩:=x;obtain⟨b⟩:=n;exact af _ (Array.toList_inj.mp h)
   subst this;rw[ah h,show(x==x)=true by simp]
  ·rw[ag h,jc r x];have:(x==n)=false:=by
    rw[beq_eq_false_iff_ne]
    rintro rfl
    exact h (dM.mpr rfl)
   simp only[this]
theorem yQ(h:Jc x=false):(x==("__debug__" :Str))=false:=by
 rw[beq_eq_false_iff_ne]
 rintro rfl
 revert h;decide
theorem DD:∀(l:List (List Nat)) (i:Nat),N6 l i=l[i]?
 | [],_=>rfl
 |_::_,0=>rfl
 |_::r,n+1=>by simp[N6,DD r n]
set_option tactic.hygienic true in
theorem F3(h:mV ns i x=true):(ns.map SL)[i]? =some x:=by
 unfold mV at h;rw[DD]at h;split at h
 ·rename_i s e
  simp only[getElem?_map,e,gP h];rfl
 ·injection h
theorem uX:∀{l:List (List Nat×Nat)} {x:Str} {a:Nat},C2 l x=some a->∃s,(s,a)∈l/\x=SL s
 | [],_,_,h=>by injection h
 |(s,b)::r,x,a,h=>by
  dsimp only[C2]at h;split at h
  ·rename_i q
   injection h with I1;subst I1
   exact⟨s,.head _,gP q⟩
  ·obtain⟨t,m,e⟩:=uX h;exact⟨t,.tail _ m,e⟩
theorem bE(h:(a&&b)=true):a=true/\b=true:=bh h
theorem bz(h:(a&&b&&c)=true):a=true/\b=true/\c=true:=⟨(bE (bE h).1).1,(bE (bE h).1).2,(bE h).2⟩
theorem cN(h:(a&&b&&c&&d)=true):a=true/\b=true/\c=true/\d=true:=⟨(bz (bE h).1).1,(bz (bE h).1).2.1,(bz (bE h).1).2.2,(bE h).2⟩
theorem fT(h:(a&&b&&c&&d&&e)=true):a=true/\b=true/\c=true/\d=true/\e=true:=⟨(bz (bz h).1).1,(bz (bz h).1).2.1,(bz (bz h).1).2.2,(bz h).2⟩
theorem qC(h:(a&&b&&c&&d&&e&&f)=true):a=true/\b=true/\c=true/\d=true/\e=true/\f=true:=⟨(cN (bz h).1).1,(cN (bz h).1).2.1,(cN (bz h).1).2.2.1,(cN (bz h).1).2.2.2,(bz h).2⟩
theorem je(h:(!a)=true):a=false:=not_eq_true' a▸h
theorem lK{P:Prop}(h:false=true):P:=(Bool.false_ne_true h).elim
theorem cV{f:e.ctorIdx=i->Bool}(h:on e i f=true):∃q,f q=true:=by
 unfold on at h;by_cases k:e.ctorIdx=i
 ·rw[dif_pos k]at h;exact⟨k,h⟩
 ·rw[dif_neg k]at h;injection h
section
variable {α:Type}
theorem jg{P:List α->Prop}{l:List α}{f:α->List α->Bool}(h:FA l f=true)(k:∀x r,f x r=true->P (x::r)):P l:=match l,h with| [],h=>lK h|x::r,h=>k x r h
theorem dw{P:List α->Prop}{l:List α}(h:fD l=true)(k:P []):P l:=match l,h with| [],_=>k|_::_,h=>lK h
theorem d8{P:List α->Prop}{l:List α}{f:α->Bool}(h:m4 l f=true)(k:∀x,f x=true->P [x]):P l:=jg h λx r h=>dw (P:=λr=>P (x::r)) (bE h).1 (k x (bE h).2)
theorem vt{P:List α->Prop}{l:List α}{f:α->α->Bool}(h:S6 l f=true)(k:∀x y,f x y=true->P [x,y]):P l:=jg h λx r h=>d8 (P:=λr=>P (x::r)) h λy h=>k x y h
theorem vv{P:Option α->Prop}{o:Option α}{f:α->Bool}(h:Te o f=true)(k:∀x,f x=true->P (some x)):P o:=match o,h with|none,h=>lK h|some x,h=>k x h
theorem zC{P:Option α->Prop}{o:Option α}(h:UB o=true)(k:P none):P o:=match o,h with|none,_=>k|some _,h=>lK h
end
theorem pJ{P:Expr->Prop}{e:Expr}{f:Const->Nat->Pos->Bool}(h:rn e f=true)(z:∀(c:Const) (k:Nat) (p:Pos),f c k p=true->P (.Constant c k p)):P e:=
 Exists.elim (cV h) λq h=>PySem.Expr.Constant.elim (motive_1:=λe=>∀q:e.ctorIdx=19,PySem.Expr.Constant.elim e q f=true->P e) e q (λc k p u_ h=>z c k p h) q h
theorem cF{P:Expr->Prop}{e:Expr}{f:Str->Pos->Bool}(h:dU e f=true)(z:∀(x:Str) (p:Pos),f x p=true->P (.Name x p)):P e:=
 Exists.elim (cV h) λq h=>PySem.Expr.Name.elim (motive_1:=λe=>∀q:e.ctorIdx=23,PySem.Expr.Name.elim e q f=true->P e) e q (λx p u_ h=>z x p h) q h
theorem jG{P:Expr->Prop}{e:Expr}{f:List Expr->Nat->Pos->Bool}(h:ji e f=true)(z:∀(as:List Expr) (k:Nat) (p:Pos),f as k p=true->P (.Tuple as k p)):P e:=
 Exists.elim (cV h) λq h=>PySem.Expr.Tuple.elim (motive_1:=λe=>∀q:e.ctorIdx=25,PySem.Expr.Tuple.elim e q f=true->P e) e q (λas k p u_ h=>z as k p h) q h
theorem Oi{P:Expr->Prop}{e:Expr}{f:List Expr->Pos->Bool}(h:Qg e f=true)(z:∀(as:List Expr) (p:Pos),f as p=true->P (.List as p)):P e:=
 Exists.elim (cV h) λq h=>PySem.Expr.List.elim (motive_1:=λe=>∀q:e.ctorIdx=24,PySem.Expr.List.elim e q f=true->P e) e q (λas p u_ h=>z as p h) q h
theorem Og{P:Expr->Prop}{e:Expr}{f:Expr->Expr->Expr->Pos->Bool}(h:Qf e f=true)(z:∀(t a b:Expr) (p:Pos),f t a b p=true->P (.IfExp t a b p)):P e:=
 Exists.elim (cV h) λq h=>PySem.Expr.IfExp.elim (motive_1:=λe=>∀q:e.ctorIdx=5,PySem.Expr.IfExp.elim e q f=true->P e) e q (λt a b p u_ h=>z t a b p h) q h
theorem Ob{P:Expr->Prop}{e:Expr}{f:Expr->Operator->Expr->Pos->Bool}(h:Qa e f=true)(z:∀(l:Expr) (o:Operator) (r:Expr) (p:Pos),f l o r p=true->P (.BinOp l o r p)):P e:=
 Exists.elim (cV h) λq h=>PySem.Expr.BinOp.elim (motive_1:=λe=>∀q:e.ctorIdx=2,PySem.Expr.BinOp.elim e q f=true->P e) e q (λl o r p u_ h=>z l o r p h) q h
theorem Od{P:Expr->Prop}{e:Expr}{f:List (Option Expr)->List Expr->Pos->Bool}(h:Qc e f=true)(z:∀(k:List (Option Expr)) (v:List Expr) (p:Pos),f k v p=true->P (.Dict k v p)):P e:=
 Exists.elim (cV h) λq h=>PySem.Expr.Dict.elim (motive_1:=λe=>∀q:e.ctorIdx=6,PySem.Expr.Dict.elim e q f=true->P e) e q (λk v p u_ h=>z k v p h) q h
theorem fq{P:Expr->Prop}{e:Expr}{f:Expr->Str->Pos->Bool}(h:iL e f=true)(z:∀(o:Expr) (x:Str) (p:Pos),f o x p=true->P (.Attribute o x p)):P e:=
 Exists.elim (cV h) λq h=>PySem.Expr.Attribute.elim (motive_1:=λe=>∀q:e.ctorIdx=20,PySem.Expr.Attribute.elim e q f=true->P e) e q (λo x p u_ h=>z o x p h) q h
theorem rq{P:Expr->Prop}{e:Expr}{f:Expr->Expr->Pos->Bool}(h:zE e f=true)(z:∀(o i:Expr) (p:Pos),f o i p=true->P (.Subscript o i p)):P e:=
 Exists.elim (cV h) λq h=>PySem.Expr.Subscript.elim (motive_1:=λe=>∀q:e.ctorIdx=21,PySem.Expr.Subscript.elim e q f=true->P e) e q (λo i p u_ h=>z o i p h) q h
theorem rm{P:Expr->Prop}{e:Expr}{f:Expr->List CmpOp->List Expr->Pos->Bool}(h:zA e f=true)(z:∀(l:Expr) (os:List CmpOp) (rs:List Expr) (p:Pos),f l os rs p=true->P (.Compare l os rs p)):P e:=
 Exists.elim (cV h) λq h=>PySem.Expr.Compare.elim (motive_1:=λe=>∀q:e.ctorIdx=15,PySem.Expr.Compare.elim e q f=true->P e) e q (λl os rs p u_ h=>z l os rs p h) q h
theorem td{P:Expr->Prop}{e:Expr}{f:PySem.BoolOp->List Expr->Pos->Bool}(h:tc e f=true)(z:∀(o:PySem.BoolOp) (as:List Expr) (p:Pos),f o as p=true->P (.BoolOp o as p)):P e:=
 Exists.elim (cV h) λq h=>PySem.Expr.BoolOp.elim (motive_1:=λe=>∀q:e.ctorIdx=0,PySem.Expr.BoolOp.elim e q f=true->P e) e q (λo as p u_ h=>z o as p h) q h
theorem J8{P:Expr->Prop}{e:Expr}{f:PySem.UnaryOp->Expr->Pos->Bool}(h:Th e f=true)(z:∀(o:PySem.UnaryOp) (a:Expr) (p:Pos),f o a p=true->P (.UnaryOp o a p)):P e:=
 Exists.elim (cV h) λq h=>PySem.Expr.UnaryOp.elim (motive_1:=λe=>∀q:e.ctorIdx=3,PySem.Expr.UnaryOp.elim e q f=true->P e) e q (λo a p u_ h=>z o a p h) q h
theorem FF{P:Expr->Prop}{e:Expr}{f:Option Expr->Option Expr->Option Expr->Pos->Bool}(h:DM e f=true)(z:∀(lo hi st:Option Expr) (p:Pos),f lo hi st p=true->P (.Slice lo hi st p)):P e:=
 Exists.elim (cV h) λq h=>PySem.Expr.Slice.elim (motive_1:=λe=>∀q:e.ctorIdx=26,PySem.Expr.Slice.elim e q f=true->P e) e q (λlo hi st p u_ h=>z lo hi st p h) q h
theorem d9{P:Expr->Prop}{e:Expr}{f:Expr->List Expr->List Keyword->Pos->Bool}(h:gB e f=true)(z:∀(g:Expr) (as:List Expr) (ks:List Keyword) (p:Pos),f g as ks p=true->P (.Call g as ks p)):P e:=
 Exists.elim (cV h) λq h=>PySem.Expr.Call.elim (motive_1:=λe=>∀q:e.ctorIdx=16,PySem.Expr.Call.elim e q f=true->P e) e q (λg as ks p u_ h=>z g as ks p h) q h
theorem JY{P:Expr->Prop}{e:Expr}{f:Expr->List Comprehension->Scope->Pos->Bool}(h:Ta e f=true)(z:∀(elt:Expr) (gs:List Comprehension) (s:Scope) (p:Pos),f elt gs s p=true->P (.ListComp elt gs s p)):P e:=
 Exists.elim (cV h) λq h=>PySem.Expr.ListComp.elim (motive_1:=λe=>∀q:e.ctorIdx=8,PySem.Expr.ListComp.elim e q f=true->P e) e q (λelt gs s p u_ h=>z elt gs s p h) q h
theorem DH{P:Comprehension->Prop}{g:Comprehension}{f:Str->Expr->Bool}(h:JW g f=true)(z:∀x px it,f x it=true->P ⟨.Name x px,it,[],0⟩):P g:=by
 obtain⟨t,it,is,n⟩:=g;have h:=bz h;obtain rfl:n=0:=ay h.2.1;exact dw (P:=λis=>P ⟨t,it,is,0⟩) h.1 (cF (P:=λt=>P ⟨t,it,[],0⟩) h.2.2 λx px h=>z x px it h)
noncomputable def Sw:Expr->Bool| .UnaryOp .Not _ _=>true|_=>false
def tA(e:Expr):Bool:=!Sw e&& !M3 0 e&& !M3 5 e&& !M3 15 e
theorem rC(h:dN args=true):starEach args aA=args.map λe=>(false,eval e aA):=by
 induction args with
 |nil=>rfl
 |cons e r ih=>
  simp only[dN,and_eq_true,not_eq_true']at h;simp only[map_cons,<-ih h.2];cases e<;>first|rfl|injection(h.1)
theorem gL{args:List Expr}{aA:bO}{pos:Pos}(h:dN args=true):backTo pos (starEach args aA)=args.map λe=>(false,eval e aA):=by
 rw[rC h];dsimp only[backTo];rw[map_map];rfl
def YZ(e:Expr):Prop:=∀aA:bO,isTrue e aA (eval e aA)=(do let v<-eval e aA;standAt e.pos;holding [v] (truthy v))
theorem QS:tA e=true->YZ e:=
 PySem.Expr.casesOn (motive_1:=λe=>tA e=true->YZ e) e (λu_ u_ u_ h=>(Bool.false_ne_true h).elim) (λu_ u_ u_ u_ u_=>rfl) (λu_ u_ u_ u_ u_ u_=>rfl)
  (λop u_ u_=>UnaryOp.casesOn (motive:=λop=>tA (.UnaryOp op _ _)=true->YZ (.UnaryOp op _ _)) op (λu_ u_=>rfl) (λh=>(Bool.false_ne_true h).elim) (λu_ u_=>rfl) (λu_ u_=>rfl)) (λu_ u_ u_ u_ u_ u_=>rfl) (λu_ u_ u_ u_ h=>(Bool.false_ne_true h).elim)
  (λu_ u_ u_ u_ u_=>rfl) (λu_ u_ u_ u_ u_=>rfl) (λu_ u_ u_ u_ u_ u_=>rfl) (λu_ u_ u_ u_ u_ u_=>rfl) (λu_ u_ u_ u_ u_ u_ u_=>rfl) (λu_ u_ u_ u_ u_ u_=>rfl) (λu_ u_ u_ u_=>rfl) (λu_ u_ u_ u_=>rfl) (λu_ u_ u_ u_=>rfl)
  (λu_ u_ u_ u_ h=>(Bool.false_ne_true h).elim) (λu_ u_ u_ u_ u_ u_=>rfl) (λu_ u_ u_ u_ u_ u_=>rfl) (λu_ u_ u_ u_=>rfl) (λu_ u_ u_ u_ u_=>rfl) (λu_ u_ u_ u_ u_=>rfl) (λu_ u_ u_ u_ u_=>rfl) (λu_ u_ u_ u_=>rfl) (λu_ u_ u_ u_=>rfl) (λu_ u_ u_ u_=>rfl) (λu_ u_ u_ u_ u_=>rfl) (λu_ u_ u_ u_ u_ u_=>rfl)
theorem Ca(h:tA e=true):isTrue e aA (eval e aA)=(do let v<-eval e aA;standAt e.pos;holding [v] (truthy v)):=QS h aA
theorem nq(h:lr o=false):attributeBase o x aA w=w:=by
 cases o<;>first|rfl|injection h
theorem MU(h:q9 f=false):eval (.Call f args [] pos) aA=(do callWith pos (<-eval f aA) [] (backTo pos (starEach args aA)) (backToKw pos (keywordEach [] aA))):=by
 cases f<;>first|rfl|injection h
theorem zi(h:fO e=false):behindInMarks op e=false:=by cases e<;>first|rfl|injection h
theorem wD(h:fO e=false)(x:Value):foldedSetIterable e aA x=pure x:=by cases e<;>first|rfl|injection h
theorem RQ(h:dN args=true)(hl:args.length<30):((backTo pos (starEach args aA)).all (λx=>!x.1)&&(backToKw pos (keywordEach [] aA)).all (λx=>x.1.isSome)
   &&decide (args.length+([]:List Keyword).length+(if([]:List Keyword).isEmpty then 0 else 1)<30))=true:=by
 rw[gL h];simp[backToKw,keywordEach,hl]
theorem rM(h:dN args=true):(backTo pos (starEach args aA)).any (·.1)=false:=by
 rw[gL h];simp
section
theorem xy(h:uq x y=true):x=y:=by
 have:=dM.mp h;obtain⟨a⟩:=x;obtain⟨b⟩:=y;exact af _ (Array.toList_inj.mp this)
theorem pP(h:pO a=true):bI a:=by
 unfold pO at h;rw[and_eq_true,all_eq_true]at h;exact⟨av h.1,λc hc=>by have h2:=av (show ble (c+1) 1114112=true from h.2 c hc);lia⟩
variable (ns:List (List Nat))
end
structure Cp(c:Cx):Prop where
 glb:∀s a,(s,a)∈RZ->nsIn c.K mainGlobals (SL s)=some (some (.ref a))
 b1:∀k:B1,nsIn c.K mainGlobals (GF k).1=some none
 isi:nsIn c.K mainGlobals "isinstance" =some none
 rng:nsIn c.K mainGlobals "range" =some none
 aR:nsIn c.K mainGlobals "Exception" =some none
 m5:∀C∈BE,isNotIn c.K "str" C=true
structure dh(c:Cx)(FL:List bO)(fm:Fm)(ns:List (List Nat))(sc:Ks)(ic:Bool):Prop where
 F:c7 fm
 hh:dS FL fm
 OO:ic=false->cD c fm
 names:fm.aA.scope.names=sc
 slots:fm.ns=ns.map SL
theorem CE(k:B1):bootBuiltins (GF k).1=some (GF k).2:=by cases k<;>decide+kernel
theorem HL:bootBuiltins "isinstance" =some (.builtin "isinstance"):=by decide+kernel
theorem HM:bootBuiltins "range" =some (.type "range"):=by decide+kernel
theorem HK:bootBuiltins "Exception" =some (.type "Exception"):=by decide+kernel
section
variable {c:Cx} {FL:List bO} {fm:Fm} {hd:Option Nat} {n:Nat} {ns:List (List Nat)} {sc:Ks} {ic:Bool}
theorem dh.kind(R:dh c FL fm ns sc ic)(x:Str):fm.aA.kindOf x=eF sc x:=by
 rw[jc,<-R.names];rfl
theorem NP(h:Jn o=true):o=some .globalImplicit:=by unfold Jn at h;split at h<;>first|rfl|injection h
theorem wO(h:wN o=true):o=some .local:=by unfold wN at h;split at h<;>first|rfl|injection h
theorem yY:yX o=true↔o=some .cell:=by
 constructor
 ·intro h;unfold yX at h;split at h<;>first|rfl|injection h
 ·rintro rfl;rfl
theorem SA(h:kCF o=true):o=some .cell\/o=some .free:=by unfold kCF at h;split at h<;>first|(exact .inl rfl)|(exact .inr rfl)|injection h
theorem Dk(h:Jo o=true):o=some .local\/o=some .cell:=by unfold Jo at h;split at h<;>first|(exact .inl rfl)|(exact .inr rfl)|injection h
theorem dh.yI(R:dh c FL fm ns sc ic)(h:Jn (eF sc x)=true):mH fm x=true:=by
 unfold mH;rw[R.kind,NP h];rfl
set_option tactic.hygienic true in
theorem dh.V3(R:dh c FL fm ns sc ic)(T:Cp c)(h:qp sc x a=true):Pj c fm x a:=by
 unfold qp at h;simp only[and_eq_true,not_eq_true']at h;obtain⟨⟨h1,h2⟩,h3⟩:=h;split at h3
 ·rename_i b e
  have:=au h3;subst this;obtain⟨s,m,rfl⟩:=uX e;exact⟨R.yI h1,T.glb s b m,yQ h2⟩
 ·injection h3
theorem dh.blt(R:dh c FL fm ns sc ic)(h:jR sc x y=true)(h1:nsIn c.K mainGlobals y=some none)(h2:bootBuiltins y=some v)(h3:y≠"__name__")(h4:(y==("__debug__" :Str))=false):x=y/\L6 c fm y v:=by
 unfold jR at h;simp only[and_eq_true]at h;have:=xy h.1;subst this;exact⟨rfl,R.yI h.2,h1,h2,h3,h4⟩
theorem dh.slot(R:dh c FL fm ns sc ic)(h:mV ns i x=true):fm.ns[i]? =some x:=by rw[R.slots];exact F3 h
theorem nX(h:pA x k=true):x=br k:=gP h
def gV(c:Cx)(FL:List bO)(fm:Fm)(hd:Option Nat)(n k:Nat)(v:aD.Env->MH->(List MV->MH->Prop)->PE->Prop)(t:Sem (List Value)):Prop:=∀A ev ρ H s Q E Q' E',jm A FL hd ρ n->v ev H Q E->St c FL ρ H s->fE fm ev ρ s.heap->
 KL c FL ρ s (λvs H=>vs.length=k/\Q vs H) Q'->KE c FL ρ s E E'->wpAny (model c.prog c.w) A t Q' E' s
theorem gV.l{k v t}(h:gV c FL fm hd n k v t):Em c FL fm hd n v t:=λA ev ρ H s Q E Q' E' a hv X l kQ kE=>h A ev ρ H s Q E Q' E' a hv X l (λvs H1 ρ1 s1 xs q X1 g r=>kQ vs H1 ρ1 s1 xs q.2 X1 g r) kE
theorem F4:gV c FL fm hd n 0 (λu_ H Q u_=>Q [] H) (spliced []):=by
 intro A ev ρ H s Q E Q' E' a h X l kQ kE;exact spliced_nil (kQ [] _ _ _ _ ⟨rfl,h⟩ X (.refl _ _) (.nil _ _))
theorem B2{v:aD.Env->MH->PQ->PE->Prop}{vs:aD.Env->MH->(List MV->MH->Prop)->PE->Prop}(hv:aH c FL fm hd n v t)(Sj:gV c FL fm hd n k vs (spliced ts)):
  gV c FL fm hd n (k+1) (λaA H Q E=>v aA H (λx H1=>vs aA H1 (λxs H2=>Q (x::xs) H2) E) E) (spliced ((false,t)::ts)):=by
 intro A ev ρ H s Q E Q' E' a h X l kQ kE;refine spliced_cons (hv A ev ρ H s _ E _ E' a h X l (λx H1 ρ1 s1 x' q X1 g1 r1=>?_) kE);refine Sj A ev ρ1 H1 s1 _ E _ E' (a.b8 g1.b8) q X1 (l.go g1 X.bD.nb) (λxs H2 ρ2 s2 xs' q2 X2 g2 r2=>?_) (kE.go g1);exact kQ (x::xs) _ _ _ _ ⟨by rw[length_cons,q2.1],q2.2⟩ X2 (g1.trans g2) (.cons (r1.bt g2.b8 g2.keep X1.bD.nb.nt) r2)
theorem Lm{vs:aD.Env->MH->(List MV->MH->Prop)->PE->Prop}(hk:k<=line)(Sj:gV c FL fm hd n k vs (spliced (backTo pos (starEach elts fm.aA)))):
  aH c FL fm hd n (bF.of λaA H Q E=>vs aA H (λxs H1=>Q (.aF xs) H1) E).val (eval (.Tuple elts kk pos) fm.aA):=by
 intro A ev ρ H s Q E Q' E' a h X l kQ kE;refine Tuple_ (Sj A ev ρ H s _ E _ E' a h X l (λxs H1 ρ1 s1 xs' q X1 g1 r1=>?_) kE);exact Fv X1 r1 (by rw[q.1];exact hk) (kQ.go g1) q.2
theorem Lj{vs:aD.Env->MH->(List MV->MH->Prop)->PE->Prop}(hk:k<=line)(Sj:gV c FL fm hd n k vs (spliced (backTo pos (starEach elts fm.aA)))):
  aH c FL fm hd n (bF.of λaA H Q E=>vs aA H (λxs H1=>Q (.ref H1.length) (H1++ [.list xs])) E).val (eval (.List elts pos) fm.aA):=by
 intro A ev ρ H s Q E Q' E' a h X l kQ kE;refine List_ (Sj A ev ρ H s _ E _ E' a h X l (λxs H1 ρ1 s1 xs' q X1 g1 r1=>?_) kE);exact JF X1 r1 (by rw[q.1];exact hk) (kQ.go g1) q.2
theorem pD:∀{l:List (List Nat)},pB l=true->(l.map SL).Nodup
 | [],_=>nodup_nil
 |s::r,h=>by
  simp only[pB,and_eq_true,not_eq_true',any_eq_false]at h;refine nodup_cons.mpr ⟨λm=>?_,pD h.2⟩;obtain⟨t,mt,e⟩:=mem_map.mp m;exact h.1 t mt (dM.mpr (oA e).symm)
theorem CL(R:dh c FL fm ns sc ic)(h:kW ns sc i x s=true):oy fm s i x:=by
 unfold kW at h;simp only[and_eq_true,all_eq_true,or_eq_true,not_eq_true',any_eq_true]at h;obtain⟨⟨⟨⟨⟨⟨h1,h2⟩,h3⟩,h4⟩,h5⟩,h6⟩,h7⟩:=h;refine⟨?_,λz hz e=>?_,λz hz e=>?_,λz hz e=>?_,?_,R.slot h1,λj y hj e=>?_⟩
 ·unfold Dg at h2;split at h2<;>first|assumption|injection h2
 ·have:=(h3 z hz).resolve_left (by rw[e];decide);rw[<-jc];exact wO this
 ·have:=h4 z hz;rw[e]at this;injection this
 ·obtain⟨⟨t,mt,et⟩,k⟩:=(h5 z hz).resolve_left (by rw[e];decide);refine⟨?_,by rw[R.kind];exact SA k⟩;obtain⟨j,hj⟩:=getElem?_of_mem mt;exact⟨j,by simp only[R.slots,getElem?_map,hj,gP et];rfl⟩
 ·rw[<-jc];exact wO h6
 ·replace hj:=(getElem?_map)▸R.slots▸hj;obtain⟨t,ht,rfl⟩:=map_eq_some_iff.mp hj;have:=(h7 t (mem_of_getElem? ht)).resolve_left (by rw[jc,e];decide);exact(gP this).symm
theorem Kz(R:dh c FL fm ns sc ic)(s:Scope):(relabel s fm.aA).names=zQ sc s.names:=by
 delta relabel zQ;refine List.map_congr_left λz hz=>?_;obtain⟨y,k⟩:=z;dsimp only;have e1:(k==NameKind.free)=wM k:=by cases k<;>rfl
 have e2:(fm.aA.scope.kind==ScopeKind.function)=true:=by rw[R.F.kind];rfl
 have e3:(fm.aA.kindOf y==some NameKind.cell)=yX (eF sc y):=by
  rw[R.kind];cases q:yX (eF sc y)with
  |true=>rw[yY.mp q];rfl
  |false=>
   rw[beq_eq_false_iff_ne];intro z;rw[yY.mpr z]at q;injection q
 simp only[e1,e2,e3,Bool.and_true]
end
section
variable {c:Cx} {n:Nat} {ns:List (List Nat)} {M:Nat->Nat->Option Nat} {C:Calls}
theorem Ll{FL fm hd}:aH c FL fm hd n bF.Mz t:=λA ev ρ H s Q E Q' E' a h X l kQ kE=>h.elim
structure QP(c:Cx)(n:Nat)(M:Nat->Nat->Option Nat)(C:Calls):Prop where
 K:cZ c
 O:eO c
 T:Cp c
 MO:Ar c M
 HO:Aq c M
 hC:xT c n C
 hK:Ue c C
theorem n_l{FL fm hd sc ic}(R:dh c FL fm ns sc ic)(h:SJ ns i sc x=true):
  aH c FL fm hd n (den M C hd (.l i)).val (eval (.Name x p) fm.aA):=by
 have h:=cN h;refine Gp R.F (R.slot h.1) ?_ ?_ (yQ (je h.2.2.1))
 ·unfold pg;rw[R.kind];have h2:=h.2.1;revert h2;cases eF sc x with
  |none=>exact λh=>lK h
  |some k=>cases k<;>first|exact λu_=>rfl|exact λh=>lK h
 ·rw[beq_eq_false_iff_ne];intro e;have h4:=h.2.2.2;rw[e]at h4;revert h4;decide
theorem n_c{FL fm hd}(h:vZ v cc=true):aH c FL fm hd n (den M C hd (.c v)).val (eval (.Constant cc k p) fm.aA):=by
 refine Gn ?_;cases v<;>cases cc<;>try exact lK h
 ·trivial
 ·exact beq_iff_eq.mp h
 ·exact beq_iff_eq.mp h
 ·exact⟨gP (bE h).1,pP (bE h).2⟩
theorem P1{FL fm hd}(ha:aH c FL fm hd n (den M C hd a).val (eval l fm.aA))(hb:aH c FL fm hd n (den M C hd b).val (eval r fm.aA))(h1:o=ib op)(h2:fO r=false):
  GX (c:=c) (FL:=FL) (fm:=fm) (hd:=hd) (n:=n) (den M C hd (.aV op a b)) (.Compare l [o] [r] p):=by
 subst h1;exact OU ha hb (zi h2)
theorem jE{FL fm hd}{m:ME}{e:Expr}(h:aH c FL fm hd n (den M C hd m).val (eval e fm.aA))(hp:tA e=true)(Bf:den M C hd m=bF.of (den M C hd m).val):c9 c FL fm hd n (den M C hd m).eM (isTrue e fm.aA (eval e fm.aA)):=
 Bf▸(TB h (Ca hp)).2
theorem wC{o':Expr}{q:Bool}{bs:List Expr}{ap p:Pos}{aA:bO}(h:mB o' q bs ap p=true):(!lr o')=true/\q=true/\dN bs=true/\((backTo p (starEach bs aA)).all (λx=>!x.1)&&(backToKw p (keywordEach [] aA)).all (λx=>x.1.isSome)
   &&decide (bs.length+([]:List Keyword).length+(if([]:List Keyword).isEmpty then 0 else 1)<30))=true/\(ap.endLine==p.line)=true:=by
 have h:=fT h;exact⟨h.1,h.2.1,h.2.2.1,RQ h.2.2.1 (av h.2.2.2.1),by rw[au h.2.2.2.2];simp⟩
variable (P:QP c n M C)
include P
theorem JA{FL fm hd}(ho:aH c FL fm hd n (den M C hd o).val (eval o' fm.aA))(h1:lr o'=false)(h2:pA x k=true):aH c FL fm hd n (den M C hd (.cn o k)).val (eval (.Attribute o' x p) fm.aA):=by
 have:=nX h2;subst this;refine Lc P.K P.O ho ?_;show(do let o<-attributeBase o' (br k) fm.aA (eval o' fm.aA);_)=_;rw[nq h1]
theorem JB{FL fm hd}(hf:aH c FL fm hd n (den M C hd f).val (eval g fm.aA))(ha:gV c FL fm hd n as.length (cJ M C hd as) (spliced (bs.map λe=>(false,eval e fm.aA))))(h1:q9 g=false)(h2:dN bs=true):
  aH c FL fm hd n (den M C hd (.call f as)).val (eval (.Call g bs [] p) fm.aA):=by
 have ha:=ha.l;rw[<-gL (pos:=p) h2]at ha;exact Le P.K P.hC P.hK hf ha (rM h2) (MU h1)
theorem Dx{FL fm hd}(ho:aH c FL fm hd n (den M C hd o).val (eval o' fm.aA))(ha:gV c FL fm hd n as.length (cJ M C hd as) (spliced (bs.map λe=>(false,eval e fm.aA))))(hm:mB o' (uq x (Ug k)) bs ap p=true):aH c FL fm hd n (den M C hd (.bP k o as)).val (eval (.Call (.Attribute o' x ap) bs [] p) fm.aA):=by
 have⟨h1,h0,h2,IX⟩:=wC (aA:=fm.aA) hm;have:=xy h0;subst this;have ha:=ha.l;rw[<-gL (pos:=p) h2]at ha;exact Gl ho ha (nq (je h1)) IX.1 IX.2 (rM h2)
theorem SU{FL fm hd}(ho:aH c FL fm hd n (den M C hd o).val (eval o' fm.aA))(ha:gV c FL fm hd n as.length (cJ M C hd as) (spliced (bs.map λe=>(false,eval e fm.aA))))(hm:mB o' (pA x k) bs ap p=true):aH c FL fm hd n (den M C hd (.cj o k as)).val (eval (.Call (.Attribute o' x ap) bs [] p) fm.aA):=by
 have⟨h1,h0,h2,IX⟩:=wC (aA:=fm.aA) hm;have:=nX h0;subst this;have ha:=ha.l;rw[<-gL (pos:=p) h2]at ha;exact Lk P.K P.O P.MO P.hC P.hK ho ha (nq (je h1)) IX.1 IX.2 (rM h2)
theorem NX{FL fm hd sc ic}(R:dh c FL fm ns sc ic)(hy:qp sc y 501=true)(ZV:beq cl 501=true)(hk:beq k 0=true)(ha:gV c FL fm hd n as.length (cJ M C hd as) (spliced (bs.map λe=>(false,eval e fm.aA))))(hm:mB (.Name y yp) (pA x 0) bs ap p=true):aH c FL fm hd n (den M C hd (.fV cl k as)).val (eval (.Call (.Attribute (.Name y yp) x ap) bs [] p) fm.aA):=by
 have:=au ZV;have:=au hk;subst cl;subst k;have⟨h1,h0,h2,IX⟩:=wC (aA:=fm.aA) hm;have:=nX h0;subst this;have ha:=ha.l;rw[<-gL (pos:=p) h2]at ha;exact Gm R.F P.K P.O P.HO P.hC P.hK (R.V3 P.T hy) ha (nq rfl) IX.1 IX.2 (rM h2)
theorem Fq{FL fm hd sc ic}(R:dh c FL fm ns sc ic)(hy:jR sc y "Exception" =true)(ha:gV c FL fm hd n as.length (cJ M C hd as) (spliced (bs.map λe=>(false,eval e fm.aA))))(hm:mB (.Name y yp) (uq x "__init__") bs ap p=true):aH c FL fm hd n (den M C hd (.dJ as)).val (eval (.Call (.Attribute (.Name y yp) x ap) bs [] p) fm.aA):=by
 have⟨h1,h0,h2,IX⟩:=wC (aA:=fm.aA) hm;have:=xy h0;subst this;obtain⟨rfl,b⟩:=R.blt hy P.T.aR HK (by decide) (by decide);have ha:=ha.l;rw[<-gL (pos:=p) h2]at ha;exact zV R.F P.K P.O b ha (nq rfl) IX.1 IX.2 (rM h2)
theorem aaB{FL fm hd sc ic}(R:dh c FL fm ns sc ic)(hy:jR sc y (GF k).1=true)(hx:eT x=false)(ha:aH c FL fm hd n (den M C hd a).val (eval x fm.aA)):aH c FL fm hd n (den M C hd (.b1 k a)).val (eval (.Call (.Name y yp) [x] [] p) fm.aA):=by
 obtain⟨rfl,b⟩:=R.blt hy (P.T.b1 k) (CE k) (by cases k<;>decide) (by cases k<;>decide);exact TA R.F P.K b (rC (by simp[dN,hx])) ha
theorem P2{FL fm hd sc ic}(R:dh c FL fm ns sc ic)(hy:jR sc y "isinstance" =true)(hx:eT x=false)(hw:Sx sc k w=true)
 (ha:aH c FL fm hd n (den M C hd a).val (eval x fm.aA)):aH c FL fm hd n (den M C hd (.cR a k)).val (eval (.Call (.Name y yp) [x,.Name w wp] [] p) fm.aA):=by
 obtain⟨rfl,b⟩:=R.blt hy P.T.isi HL (by decide) (by decide);have hs:∀w,starEach [x,.Name w wp] fm.aA= [(false,eval x fm.aA),(false,eval (.Name w wp) fm.aA)]:=λw=>rC (by show(!eT x&&(!eT (.Name w wp)&&true))=true;rw[hx];rfl);cases k with
 |tuple=>
  obtain⟨rfl,b2⟩:=R.blt hw (P.T.b1 .gH) (CE .gH) (by decide) (by decide);exact uv R.F P.K P.O b b2 (hs _) ha
 |m5 C=>
  have hw:=bh hw;obtain⟨C',m,e⟩:=any_eq_true.mp hw.2;have:=au e;subst this;exact zW R.F P.K b (R.V3 P.T hw.1) (P.T.m5 C m) (hs _) ha
end
section
variable {c:Cx} {n:Nat} {ns:List (List Nat)} {M:Nat->Nat->Option Nat} {C:Calls}
theorem dEq{α:Type}[DecidableEq α]{a b:α}(h:decide (a=b)=true):b=a:=(ay h).symm
theorem Ae{sc ic ks kk es}(h:Gy ns [] sc ic ks kk es=true):kk= []/\es= []/\ks= []:=
 have h:=bz h
 ⟨dw (P:=λl=>l= []) h.2.1 rfl,dw (P:=λl=>l= []) h.2.2 rfl,dw (P:=λl=>l= []) h.1 rfl⟩
theorem Gz{sc ic kk es}(h:Gy ns ms sc ic [] kk es=true):ms= []:=by cases ms with|nil=>rfl|cons=>exact lK h
theorem WV{FL fm hd sc ic}(h1:ble ks.length 15=true)(h2:pB ks=true)(h0:Gy ns es sc ic ks kk vs=true)
 (h:∃pairs,(evalEachOpt kk fm.aA).zip ((evalEach vs fm.aA).map λv=>do let x<-v;standAt p;pure x)=pairs.map (λp=>(some p.1,p.2))/\pairs.length=ks.length/\oE c FL fm hd n ks (cJ M C hd es) pairs):
  aH c FL fm hd n (den M C hd (.qc ks es)).val (eval (.Dict kk vs p) fm.aA):=by
 obtain⟨pairs,e1,e2,e3⟩:=h;have hk:=av h1;by_cases hp:pairs= []
 ·subst hp;have:=length_eq_zero_iff.mp e2.symm;subst this;obtain rfl:=Gz h0;obtain⟨rfl,rfl,_⟩:=Ae h0;exact Lh (keys:=[])
 ·exact OV e1 hp (by rw[e2];exact hk) hk (pD h2) e3
theorem JC{FL fm hd}{o1 o2:Cm}{a b d:ME}{l r r2:Expr}{p1 p2:CmpOp}{p:Pos}(ha:aH c FL fm hd n (den M C hd a).val (eval l fm.aA))(hb:aH c FL fm hd n (den M C hd b).val (eval r fm.aA))(Bf:aH c FL fm hd n (den M C hd d).val (eval r2 fm.aA))
  (h1:decide (p1=ib o1)=true) (h2:decide (p2=ib o2)=true) (h3:(!fO r2)=true):GX (c:=c) (FL:=FL) (fm:=fm) (hd:=hd) (n:=n) (den M C hd (.ju o1 o2 a b d)) (.Compare l [p1,p2] [r,r2] p):=by
 obtain rfl:=ay h1;obtain rfl:=ay h2;exact Lf ha hb Bf (zi (je h3))
theorem WU{FL fm hd}(h1:decide (o=jS op)=true)(ha:aH c FL fm hd n (den M C hd a).val (eval l fm.aA))(hb:aH c FL fm hd n (den M C hd b).val (eval r fm.aA)):
  aH c FL fm hd n (den M C hd (.aZ op a b)).val (eval (.BinOp l o r p) fm.aA):=by
 obtain rfl:=ay h1;exact OT ha hb
theorem NY{FL fm hd}(h1:(match cc with| .str s=>tF s k&&pO k|_=>false)=true)
 (ha:aH c FL fm hd n (den M C hd a).val (eval e fm.aA))
 (h:∃pairs,(evalEachOpt P0 fm.aA).zip ((evalEach es fm.aA).map λv=>do let x<-v;standAt pos;pure x)=pairs.map (λp=>(some p.1,p.2))/\pairs.length=ks.length/\oE c FL fm hd n ks (cJ M C hd r) pairs):
  ∃pairs,(evalEachOpt (some (.Constant cc kk kp)::P0) fm.aA).zip ((evalEach (e::es) fm.aA).map λv=>do let x<-v;standAt pos;pure x)=pairs.map (λp=>(some p.1,p.2))/\pairs.length=(k::ks).length/\oE c FL fm hd n (k::ks) (cJ M C hd (a::r)) pairs:=by
 obtain⟨pairs,e1,e2,e3⟩:=h;cases cc<;>try exact lK h1
 obtain rfl:=gP (bE h1).1;refine⟨(eval (.Constant (.str (SL k)) kk kp) fm.aA,do let x<-eval e fm.aA;standAt pos;pure x)::pairs,?_,af (· +1) e2,F7 (pP (bE h1).2) ha e3⟩;rw[map_cons,<-e1];rfl
variable (P:QP c n M C)
include P
theorem n_g{FL fm hd sc ic}(R:dh c FL fm ns sc ic)(h:qp sc x a=true):aH c FL fm hd n (den M C hd (.g a)).val (eval (.Name x p) fm.aA):=
 have g:=R.V3 P.T h
 B5 R.F P.K g.yI g.aP g.nd
theorem SS{FL fm hd sc ic}(R:dh c FL fm ns sc ic){i:Nat}{elt:ME}{it:MI}{kz iter:Expr}{x:Str}{s:Scope}{px pos:Pos}(h1:(!ic)=true)(h2:kW ns sc i x s=true)(h3:(!fO iter)=true)
  (hI:oC c FL fm .none n (ky M C .none it) (eval iter fm.aA)) (hE:∀FL ou hd,dh c FL ou ns (zQ sc s.names) true->aH c FL ou hd n (den M C hd elt).val (eval kz ou.aA)):
  aH c FL fm hd n (den M C hd (.comp i elt it)).val (eval (.ListComp kz [⟨.Name x px,iter,[],0⟩] s pos) fm.aA):=
 Lg (v:=λhd=>(den M C hd elt).val) (dI:=λhd=>ky M C hd it) P.K R.F R.hh (R.OO (je h1)) (CL R h2) (wD (je h3)) hI
  λou F' Ur e1 e2=>hE FL ou .none ⟨F',Ur,(λz=>by injection z),by rw[e1];exact Kz R s,by rw[e2];exact R.slots⟩
theorem NZ{FL fm hd sc ic}(R:dh c FL fm ns sc ic)(hy:jR sc y "range" =true)(hx:(!eT x)=true)(ha:aH c FL fm hd n (den M C hd a).val (eval x fm.aA)):oC c FL fm hd n (ky M C hd (.range a)) (eval (.Call (.Name y yp) [x] [] p) fm.aA):=by
 obtain⟨rfl,b⟩:=R.blt hy P.T.rng HM (by decide) (by decide);exact B0 R.F P.K b (rC (by simp[dN,je hx])) ha
mutual
theorem sE:∀(m:ME) (sc:Ks) (ic:Bool) (e:Expr),gq ns m sc ic e=true->∀FL fm hd,dh c FL fm ns sc ic->aH c FL fm hd n (den M C hd m).val (eval e fm.aA)
 | .c v,sc,ic,e,h,FL,fm,hd,R=>pJ (P:=λe=>aH c FL fm hd n (den M C hd (.c v)).val (eval e fm.aA)) h λu_ u_ u_ h=>n_c h
 | .l i,sc,ic,e,h,FL,fm,hd,R=>cF (P:=λe=>aH c FL fm hd n (den M C hd (.l i)).val (eval e fm.aA)) h λu_ u_ h=>n_l R h
 | .g a,sc,ic,e,h,FL,fm,hd,R=>cF (P:=λe=>aH c FL fm hd n (den M C hd (.g a)).val (eval e fm.aA)) h λu_ u_ h=>n_g P R h
 | .aF es,sc,ic,e,h,FL,fm,hd,R=>jG (P:=λe=>aH c FL fm hd n (den M C hd (.aF es)).val (eval e fm.aA)) h λas k p h=>
   Lm (av (bz h).2.1) (by rw[gL (bz h).1];exact LY es sc ic as (bz h).2.2 FL fm hd R)
 | .fP es,sc,ic,e,h,FL,fm,hd,R=>Oi (P:=λe=>aH c FL fm hd n (den M C hd (.fP es)).val (eval e fm.aA)) h λas p h=>
   Lj (av (bz h).2.1) (by refine(gL (bz h).1)▸?_;exact LY es sc ic as (bz h).2.2 FL fm hd R)
 | .qc ks es,sc,ic,e,h,FL,fm,hd,R=>Od (P:=λe=>aH c FL fm hd n (den M C hd (.qc ks es)).val (eval e fm.aA)) h λkk vs p h=>
   WV (bz h).1 (bz h).2.1 (bz h).2.2 (sDs es sc ic ks kk vs (bz h).2.2 FL fm hd p R)
 | .aV op a b,sc,ic,e,h,FL,fm,hd,R=>rm (P:=λe=>aH c FL fm hd n (den M C hd (.aV op a b)).val (eval e fm.aA)) h λl os rs p h=>d8 (P:=λos=>aH c FL fm hd n (den M C hd (.aV op a b)).val (eval (.Compare l os rs p) fm.aA)) h λo h=>
   d8 (P:=λrs=>aH c FL fm hd n (den M C hd (.aV op a b)).val (eval (.Compare l [o] rs p) fm.aA)) h λr h=>
   (P1 (sE a sc ic l (cN h).2.2.1 FL fm hd R) (sE b sc ic r (cN h).2.2.2 FL fm hd R) (ay (cN h).1) (je (cN h).2.1)).1
 | .ju o1 o2 a b d,sc,ic,e,h,FL,fm,hd,R=>rm (P:=λe=>aH c FL fm hd n (den M C hd (.ju o1 o2 a b d)).val (eval e fm.aA)) h λl os rs p h=>vt (P:=λos=>aH c FL fm hd n (den M C hd (.ju o1 o2 a b d)).val (eval (.Compare l os rs p) fm.aA)) h λp1 p2 h=>
   vt (P:=λrs=>aH c FL fm hd n (den M C hd (.ju o1 o2 a b d)).val (eval (.Compare l [p1,p2] rs p) fm.aA)) h λr r2 h=>
   (JC (sE a sc ic l (qC h).2.2.2.1 FL fm hd R) (sE b sc ic r (qC h).2.2.2.2.1 FL fm hd R) (sE d sc ic r2 (qC h).2.2.2.2.2 FL fm hd R) (qC h).1 (qC h).2.1 (qC h).2.2.1).1
 | .and _,_,_,_,h,_,_,_,_=>lK h
 | .or _,_,_,_,h,_,_,_,_=>lK h
 | .not _,_,_,_,h,_,_,_,_=>lK h
 | .neg a,sc,ic,e,h,FL,fm,hd,R=>J8 (P:=λe=>aH c FL fm hd n (den M C hd (.neg a)).val (eval e fm.aA)) h λo x p h=>dEq (bE h).1▸OX (sE a sc ic x (bE h).2 FL fm hd R)
 | .ite t a b,sc,ic,e,h,FL,fm,hd,R=>Og (P:=λe=>aH c FL fm hd n (den M C hd (.ite t a b)).val (eval e fm.aA)) h λt' a' b' p h=>
   OW (sT t sc ic t' (bz h).1 FL fm hd R) (sE a sc ic a' (bz h).2.1 FL fm hd R) (sE b sc ic b' (bz h).2.2 FL fm hd R)
 | .aZ op a b,sc,ic,e,h,FL,fm,hd,R=>Ob (P:=λe=>aH c FL fm hd n (den M C hd (.aZ op a b)).val (eval e fm.aA)) h λl o r p h=>WU (bz h).1 (sE a sc ic l (bz h).2.1 FL fm hd R) (sE b sc ic r (bz h).2.2 FL fm hd R)
 | .cn o k,sc,ic,e,h,FL,fm,hd,R=>fq (P:=λe=>aH c FL fm hd n (den M C hd (.cn o k)).val (eval e fm.aA)) h λo' x p h=>JA P (sE o sc ic o' (bz h).2.2 FL fm hd R) (je (bz h).1) (bz h).2.1
 | .bG o i,sc,ic,e,h,FL,fm,hd,R=>rq (P:=λe=>aH c FL fm hd n (den M C hd (.bG o i)).val (eval e fm.aA)) h λo' i' p h=>D4 (sE o sc ic o' (bz h).2.1 FL fm hd R) (sE i sc ic i' (bz h).2.2 FL fm hd R) (bz h).1
 | .slice o lo hi,sc,ic,e,h,FL,fm,hd,R=>rq (P:=λe=>aH c FL fm hd n (den M C hd (.slice o lo hi)).val (eval e fm.aA)) h λo' i' p h=>FF (P:=λi'=>aH c FL fm hd n (den M C hd (.slice o lo hi)).val (eval (.Subscript o' i' p) fm.aA)) h λYK Yx st p2 h=>
   zC (P:=λst=>aH c FL fm hd n (den M C hd (.slice o lo hi)).val (eval (.Subscript o' (.Slice YK Yx st p2) p) fm.aA)) (cN h).1 (Gq (sE o sc ic o' (cN h).2.1 FL fm hd R) (sO lo sc ic YK (cN h).2.2.1 FL fm hd R) (sO hi sc ic Yx (cN h).2.2.2 FL fm hd R))
 | .b1 k a,sc,ic,e,h,FL,fm,hd,R=>d9 (P:=λe=>aH c FL fm hd n (den M C hd (.b1 k a)).val (eval e fm.aA)) h λf as ks p h=>dw (P:=λks=>aH c FL fm hd n (den M C hd (.b1 k a)).val (eval (.Call f as ks p) fm.aA)) (bE h).1<|
   d8 (P:=λas=>aH c FL fm hd n (den M C hd (.b1 k a)).val (eval (.Call f as [] p) fm.aA)) (bE h).2 λx h=>cF (P:=λf=>aH c FL fm hd n (den M C hd (.b1 k a)).val (eval (.Call f [x] [] p) fm.aA)) h λy yp h=>
   aaB P R (bz h).1 (je (bz h).2.1) (sE a sc ic x (bz h).2.2 FL fm hd R)
 | .cR a k,sc,ic,e,h,FL,fm,hd,R=>d9 (P:=λe=>aH c FL fm hd n (den M C hd (.cR a k)).val (eval e fm.aA)) h λf as ks p h=>dw (P:=λks=>aH c FL fm hd n (den M C hd (.cR a k)).val (eval (.Call f as ks p) fm.aA)) (bE h).1<|
   vt (P:=λas=>aH c FL fm hd n (den M C hd (.cR a k)).val (eval (.Call f as [] p) fm.aA)) (bE h).2 λx z h=>cF (P:=λf=>aH c FL fm hd n (den M C hd (.cR a k)).val (eval (.Call f [x,z] [] p) fm.aA)) h λy yp h=>
   cF (P:=λz=>aH c FL fm hd n (den M C hd (.cR a k)).val (eval (.Call (.Name y yp) [x,z] [] p) fm.aA)) h λw wp h=>P2 P R (cN h).1 (je (cN h).2.1) (cN h).2.2.2 (sE a sc ic x (cN h).2.2.1 FL fm hd R)
 | .call f as,sc,ic,e,h,FL,fm,hd,R=>d9 (P:=λe=>aH c FL fm hd n (den M C hd (.call f as)).val (eval e fm.aA)) h λg bs ks p h=>dw (P:=λks=>aH c FL fm hd n (den M C hd (.call f as)).val (eval (.Call g bs ks p) fm.aA)) (fT h).1<|
   JB P (sE f sc ic g (fT h).2.2.2.1 FL fm hd R) (LY as sc ic bs (fT h).2.2.2.2 FL fm hd R) (je (fT h).2.1) (fT h).2.2.1
 | .cj o k as,sc,ic,e,h,FL,fm,hd,R=>d9 (P:=λe=>aH c FL fm hd n (den M C hd (.cj o k as)).val (eval e fm.aA)) h λg bs ks p h=>dw (P:=λks=>aH c FL fm hd n (den M C hd (.cj o k as)).val (eval (.Call g bs ks p) fm.aA)) (bE h).1<|
   fq (P:=λg=>aH c FL fm hd n (den M C hd (.cj o k as)).val (eval (.Call g bs [] p) fm.aA)) (bE h).2 λo' x ap h=>SU P (sE o sc ic o' (bz h).2.1 FL fm hd R) (LY as sc ic bs (bz h).2.2 FL fm hd R) (bz h).1
 | .bP k o as,sc,ic,e,h,FL,fm,hd,R=>d9 (P:=λe=>aH c FL fm hd n (den M C hd (.bP k o as)).val (eval e fm.aA)) h λg bs ks p h=>dw (P:=λks=>aH c FL fm hd n (den M C hd (.bP k o as)).val (eval (.Call g bs ks p) fm.aA)) (bE h).1<|
   fq (P:=λg=>aH c FL fm hd n (den M C hd (.bP k o as)).val (eval (.Call g bs [] p) fm.aA)) (bE h).2 λo' x ap h=>Dx (P:=P) (sE o sc ic o' (bz h).2.1 FL fm hd R) (LY as sc ic bs (bz h).2.2 FL fm hd R) (bz h).1
 | .fV cl k as,sc,ic,e,h,FL,fm,hd,R=>d9 (P:=λe=>aH c FL fm hd n (den M C hd (.fV cl k as)).val (eval e fm.aA)) h λg bs ks p h=>dw (P:=λks=>aH c FL fm hd n (den M C hd (.fV cl k as)).val (eval (.Call g bs ks p) fm.aA)) (bE h).1<|
   fq (P:=λg=>aH c FL fm hd n (den M C hd (.fV cl k as)).val (eval (.Call g bs [] p) fm.aA)) (bE h).2 λo' x ap h=>cF (P:=λo'=>mB o' (pA x 0) bs ap p=true->aH c FL fm hd n (den M C hd (.fV cl k as)).val (eval (.Call (.Attribute o' x ap) bs [] p) fm.aA)) (bz h).2.1 (λy yp h1 hm=>
    NX P R (bz h1).1 (bz h1).2.1 (bz h1).2.2 (LY as sc ic bs (bz h).2.2 FL fm hd R) hm) (bz h).1
 | .dJ as,sc,ic,e,h,FL,fm,hd,R=>d9 (P:=λe=>aH c FL fm hd n (den M C hd (.dJ as)).val (eval e fm.aA)) h λg bs ks p h=>dw (P:=λks=>aH c FL fm hd n (den M C hd (.dJ as)).val (eval (.Call g bs ks p) fm.aA)) (bE h).1<|
   fq (P:=λg=>aH c FL fm hd n (den M C hd (.dJ as)).val (eval (.Call g bs [] p) fm.aA)) (bE h).2 λo' x ap h=>cF (P:=λo'=>mB o' (uq x "__init__") bs ap p=true->aH c FL fm hd n (den M C hd (.dJ as)).val (eval (.Call (.Attribute o' x ap) bs [] p) fm.aA)) (bz h).2.1 (λy yp h1 hm=>
    Fq P R h1 (LY as sc ic bs (bz h).2.2 FL fm hd R) hm) (bz h).1
 | .comp i elt it,sc,ic,e,h,FL,fm,hd,R=>JY (P:=λe=>aH c FL fm hd n (den M C hd (.comp i elt it)).val (eval e fm.aA)) h λkz gs s p h=>d8 (P:=λgs=>aH c FL fm hd n (den M C hd (.comp i elt it)).val (eval (.ListComp kz gs s p) fm.aA)) h λg h=>
   DH (P:=λg=>aH c FL fm hd n (den M C hd (.comp i elt it)).val (eval (.ListComp kz [g] s p) fm.aA)) h λx px iter h=>SS P R (fT h).1 (fT h).2.1 (fT h).2.2.1 (sI it sc ic iter (fT h).2.2.2.1 FL fm .none R) (sE elt (zQ sc s.names) true kz (fT h).2.2.2.2)
 | .ia,_,_,_,_,_,_,_,_=>Ll
theorem sT:∀(m:ME) (sc:Ks) (ic:Bool) (e:Expr),UJ ns m sc ic e=true->∀FL fm hd,dh c FL fm ns sc ic->c9 c FL fm hd n (den M C hd m).eM (isTrue e fm.aA (eval e fm.aA))
 | .and es,sc,ic,e,h,FL,fm,hd,R=>td (P:=λe=>c9 c FL fm hd n (den M C hd (.and es)).eM (isTrue e fm.aA (eval e fm.aA))) h λo as p h=>match o,h with| .And,h=>OL es sc ic as (bE h).2 FL fm hd p _ R| .Or,h=>lK h
 | .or es,sc,ic,e,h,FL,fm,hd,R=>td (P:=λe=>c9 c FL fm hd n (den M C hd (.or es)).eM (isTrue e fm.aA (eval e fm.aA))) h λo as p h=>match o,h with| .Or,h=>YS es sc ic as (bE h).2 FL fm hd p _ R| .And,h=>lK h
 | .not a,sc,ic,e,h,FL,fm,hd,R=>J8 (P:=λe=>c9 c FL fm hd n (den M C hd (.not a)).eM (isTrue e fm.aA (eval e fm.aA))) h λo x p h=>dEq (bE h).1▸OY (d:=den M C hd a) (sT a sc ic x (bE h).2 FL fm hd R)
 | .aV op a b,sc,ic,e,h,FL,fm,hd,R=>rm (P:=λe=>c9 c FL fm hd n (den M C hd (.aV op a b)).eM (isTrue e fm.aA (eval e fm.aA))) h λl os rs p h=>d8 (P:=λos=>c9 c FL fm hd n (den M C hd (.aV op a b)).eM (isTrue (.Compare l os rs p) fm.aA (eval (.Compare l os rs p) fm.aA))) h λo h=>
   d8 (P:=λrs=>c9 c FL fm hd n (den M C hd (.aV op a b)).eM (isTrue (.Compare l [o] rs p) fm.aA (eval (.Compare l [o] rs p) fm.aA))) h λr h=>
   (P1 (sE a sc ic l (cN h).2.2.1 FL fm hd R) (sE b sc ic r (cN h).2.2.2 FL fm hd R) (ay (cN h).1) (je (cN h).2.1)).2
 | .ju o1 o2 a b d,sc,ic,e,h,FL,fm,hd,R=>rm (P:=λe=>c9 c FL fm hd n (den M C hd (.ju o1 o2 a b d)).eM (isTrue e fm.aA (eval e fm.aA))) h λl os rs p h=>vt (P:=λos=>c9 c FL fm hd n (den M C hd (.ju o1 o2 a b d)).eM (isTrue (.Compare l os rs p) fm.aA (eval (.Compare l os rs p) fm.aA))) h λp1 p2 h=>
   vt (P:=λrs=>c9 c FL fm hd n (den M C hd (.ju o1 o2 a b d)).eM (isTrue (.Compare l [p1,p2] rs p) fm.aA (eval (.Compare l [p1,p2] rs p) fm.aA))) h λr r2 h=>
   (JC (sE a sc ic l (qC h).2.2.2.1 FL fm hd R) (sE b sc ic r (qC h).2.2.2.2.1 FL fm hd R) (sE d sc ic r2 (qC h).2.2.2.2.2 FL fm hd R) (qC h).1 (qC h).2.1 (qC h).2.2.1).2
 | .l i,sc,ic,e,h,FL,fm,hd,R=>cF (P:=λe=>c9 c FL fm hd n (den M C hd (.l i)).eM (isTrue e fm.aA (eval e fm.aA))) h λu_ u_ h=>jE (n_l R h) rfl rfl
 | .c v,sc,ic,e,h,FL,fm,hd,R=>pJ (P:=λe=>c9 c FL fm hd n (den M C hd (.c v)).eM (isTrue e fm.aA (eval e fm.aA))) h λu_ u_ u_ h=>jE (n_c h) rfl rfl
 | .cn o k,sc,ic,e,h,FL,fm,hd,R=>fq (P:=λe=>c9 c FL fm hd n (den M C hd (.cn o k)).eM (isTrue e fm.aA (eval e fm.aA))) h λo' x p h=>jE (JA P (sE o sc ic o' (bz h).2.2 FL fm hd R) (je (bz h).1) (bz h).2.1) rfl rfl
 | .bG o i,sc,ic,e,h,FL,fm,hd,R=>rq (P:=λe=>c9 c FL fm hd n (den M C hd (.bG o i)).eM (isTrue e fm.aA (eval e fm.aA))) h λo' i' p h=>jE (m:=.bG o i) (D4 (sE o sc ic o' (bz h).2.1 FL fm hd R) (sE i sc ic i' (bz h).2.2 FL fm hd R) (bz h).1) rfl rfl
 | .call f as,sc,ic,e,h,FL,fm,hd,R=>d9 (P:=λe=>c9 c FL fm hd n (den M C hd (.call f as)).eM (isTrue e fm.aA (eval e fm.aA))) h λg bs ks p h=>dw (P:=λks=>c9 c FL fm hd n (den M C hd (.call f as)).eM (isTrue (.Call g bs ks p) fm.aA (eval (.Call g bs ks p) fm.aA))) (fT h).1<|
   jE (JB P (sE f sc ic g (fT h).2.2.2.1 FL fm hd R) (LY as sc ic bs (fT h).2.2.2.2 FL fm hd R) (je (fT h).2.1) (fT h).2.2.1) rfl rfl
 | .bP k o as,sc,ic,e,h,FL,fm,hd,R=>d9 (P:=λe=>c9 c FL fm hd n (den M C hd (.bP k o as)).eM (isTrue e fm.aA (eval e fm.aA))) h λg bs ks p h=>dw (P:=λks=>c9 c FL fm hd n (den M C hd (.bP k o as)).eM (isTrue (.Call g bs ks p) fm.aA (eval (.Call g bs ks p) fm.aA))) (bE h).1<|
   fq (P:=λg=>c9 c FL fm hd n (den M C hd (.bP k o as)).eM (isTrue (.Call g bs [] p) fm.aA (eval (.Call g bs [] p) fm.aA))) (bE h).2 λo' x ap h=>jE (Dx (P:=P) (sE o sc ic o' (bz h).2.1 FL fm hd R) (LY as sc ic bs (bz h).2.2 FL fm hd R) (bz h).1) rfl rfl
 | .cR a k,sc,ic,e,h,FL,fm,hd,R=>d9 (P:=λe=>c9 c FL fm hd n (den M C hd (.cR a k)).eM (isTrue e fm.aA (eval e fm.aA))) h λf as ks p h=>dw (P:=λks=>c9 c FL fm hd n (den M C hd (.cR a k)).eM (isTrue (.Call f as ks p) fm.aA (eval (.Call f as ks p) fm.aA))) (bE h).1<|
   vt (P:=λas=>c9 c FL fm hd n (den M C hd (.cR a k)).eM (isTrue (.Call f as [] p) fm.aA (eval (.Call f as [] p) fm.aA))) (bE h).2 λx z h=>cF (P:=λf=>c9 c FL fm hd n (den M C hd (.cR a k)).eM (isTrue (.Call f [x,z] [] p) fm.aA (eval (.Call f [x,z] [] p) fm.aA))) h λy yp h=>
   cF (P:=λz=>c9 c FL fm hd n (den M C hd (.cR a k)).eM (isTrue (.Call (.Name y yp) [x,z] [] p) fm.aA (eval (.Call (.Name y yp) [x,z] [] p) fm.aA))) h λw wp h=>jE (P2 P R (cN h).1 (je (cN h).2.1) (cN h).2.2.2 (sE a sc ic x (cN h).2.2.1 FL fm hd R)) rfl rfl
 | .ia,_,_,_,_,_,_,_,_=>λA ev ρ H s Q E Q' E' a h X l kQ kE=>h.elim
 | .g _,_,_,_,h,_,_,_,_| .aF _,_,_,_,h,_,_,_,_| .fP _,_,_,_,h,_,_,_,_| .qc _ _,_,_,_,h,_,_,_,_| .neg _,_,_,_,h,_,_,_,_| .ite _ _ _,_,_,_,h,_,_,_,_| .aZ _ _ _,_,_,_,h,_,_,_,_
 | .slice _ _ _,_,_,_,h,_,_,_,_| .b1 _ _,_,_,_,h,_,_,_,_| .cj _ _ _,_,_,_,h,_,_,_,_| .fV _ _ _,_,_,_,h,_,_,_,_| .dJ _,_,_,_,h,_,_,_,_| .comp _ _ _,_,_,_,h,_,_,_,_=>lK h
theorem sI:∀(m:MI) (sc:Ks) (ic:Bool) (e:Expr),XM ns m sc ic e=true->∀FL fm hd,dh c FL fm ns sc ic->oC c FL fm hd n (ky M C hd m) (eval e fm.aA)
 | .val a,sc,ic,e,h,FL,fm,hd,R=>K3 (sE a sc ic e h FL fm hd R)
 | .range a,sc,ic,e,h,FL,fm,hd,R=>d9 (P:=λe=>oC c FL fm hd n (ky M C hd (.range a)) (eval e fm.aA)) h λf as ks p h=>dw (P:=λks=>oC c FL fm hd n (ky M C hd (.range a)) (eval (.Call f as ks p) fm.aA)) (bE h).1<|
   d8 (P:=λas=>oC c FL fm hd n (ky M C hd (.range a)) (eval (.Call f as [] p) fm.aA)) (bE h).2 λx h=>cF (P:=λf=>oC c FL fm hd n (ky M C hd (.range a)) (eval (.Call f [x] [] p) fm.aA)) h λy yp h=>
   NZ P R (bz h).1 (bz h).2.1 (sE a sc ic x (bz h).2.2 FL fm hd R)
theorem sO:∀(m:Option ME) (sc:Ks) (ic:Bool) (e:Option Expr),trO ns m sc ic e=true->∀FL fm hd,dh c FL fm ns sc ic->Av c FL fm hd n (qF M C hd m) (evalPart e fm.aA)
 | .none,sc,ic,e,h,FL,fm,hd,R=>zC (P:=λe=>Av c FL fm hd n (qF M C hd .none) (evalPart e fm.aA)) h F5
 |some a,sc,ic,e,h,FL,fm,hd,R=>vv (P:=λe=>Av c FL fm hd n (qF M C hd (some a)) (evalPart e fm.aA)) h λe h=>F6 (sE a sc ic e h FL fm hd R)
theorem LY:∀(ms:List ME) (sc:Ks) (ic:Bool) (es:List Expr),tN ns ms sc ic es=true->∀FL fm hd,dh c FL fm ns sc ic->gV c FL fm hd n ms.length (cJ M C hd ms) (spliced (es.map λe=>(false,eval e fm.aA)))
 | [],sc,ic,es,h,FL,fm,hd,R=>dw (P:=λes=>gV c FL fm hd n 0 (cJ M C hd []) (spliced (es.map λe=>(false,eval e fm.aA)))) h F4
 |a::r,sc,ic,es,h,FL,fm,hd,R=>jg (P:=λes=>gV c FL fm hd n (r.length+1) (cJ M C hd (a::r)) (spliced (es.map λe=>(false,eval e fm.aA)))) h λe es h=>B2 (sE a sc ic e (bE h).1 FL fm hd R) (LY r sc ic es (bE h).2 FL fm hd R)
theorem OL:∀(ms:List ME) (sc:Ks) (ic:Bool) (es:List Expr),Lv ns ms sc ic es=true->∀FL fm hd pos whole,dh c FL fm ns sc ic->c9 c FL fm hd n (iJ M C hd ms) (isTrue (.BoolOp .And es pos) fm.aA whole)
 | [],sc,ic,es,h,FL,fm,hd,pos,whole,R=>dw (P:=λes=>c9 c FL fm hd n (iJ M C hd []) (isTrue (.BoolOp .And es pos) fm.aA whole)) h zT
 |a::r,sc,ic,es,h,FL,fm,hd,pos,whole,R=>jg (P:=λes=>c9 c FL fm hd n (iJ M C hd (a::r)) (isTrue (.BoolOp .And es pos) fm.aA whole)) h λe es h=>xC (d:=den M C hd a) (sT a sc ic e (bE h).1 FL fm hd R) (OL r sc ic es (bE h).2 FL fm hd pos whole R)
theorem YS:∀(ms:List ME) (sc:Ks) (ic:Bool) (es:List Expr),Lv ns ms sc ic es=true->∀FL fm hd pos whole,dh c FL fm ns sc ic->c9 c FL fm hd n (lX M C hd ms) (isTrue (.BoolOp .Or es pos) fm.aA whole)
 | [],sc,ic,es,h,FL,fm,hd,pos,whole,R=>dw (P:=λes=>c9 c FL fm hd n (lX M C hd []) (isTrue (.BoolOp .Or es pos) fm.aA whole)) h B6
 |a::r,sc,ic,es,h,FL,fm,hd,pos,whole,R=>jg (P:=λes=>c9 c FL fm hd n (lX M C hd (a::r)) (isTrue (.BoolOp .Or es pos) fm.aA whole)) h λe es h=>zX (d:=den M C hd a) (sT a sc ic e (bE h).1 FL fm hd R) (YS r sc ic es (bE h).2 FL fm hd pos whole R)
theorem sDs:∀(ms:List ME) (sc:Ks) (ic:Bool) (ks:List (List Nat)) (kk:List (Option Expr)) (es:List Expr),Gy ns ms sc ic ks kk es=true->∀FL fm hd pos,dh c FL fm ns sc ic->
  ∃pairs,(evalEachOpt kk fm.aA).zip ((evalEach es fm.aA).map λv=>do let x<-v;standAt pos;pure x)=pairs.map (λp=>(some p.1,p.2))/\pairs.length=ks.length/\oE c FL fm hd n ks (cJ M C hd ms) pairs
 | [],sc,ic,ks,kk,es,h,FL,fm,hd,pos,R=>by
  obtain⟨rfl,rfl,rfl⟩:=Ae h;exact⟨[],rfl,rfl,K4⟩
 |a::r,sc,ic,ks,kk,es,h,FL,fm,hd,pos,R=>by
  refine jg (P:=λks=>∃pairs,(evalEachOpt kk fm.aA).zip ((evalEach es fm.aA).map λv=>do let x<-v;standAt pos;pure x)=pairs.map (λp=>(some p.1,p.2))/\pairs.length=ks.length/\oE c FL fm hd n ks (cJ M C hd (a::r)) pairs) h λk ks h=>?_;refine jg (P:=λkk=>∃pairs,(evalEachOpt kk fm.aA).zip ((evalEach es fm.aA).map λv=>do let x<-v;standAt pos;pure x)=pairs.map (λp=>(some p.1,p.2))/\pairs.length=(k::ks).length/\oE c FL fm hd n (k::ks) (cJ M C hd (a::r)) pairs) h λke P0 h=>?_;refine jg (P:=λes=>∃pairs,(evalEachOpt (ke::P0) fm.aA).zip ((evalEach es fm.aA).map λv=>do let x<-v;standAt pos;pure x)=pairs.map (λp=>(some p.1,p.2))/\pairs.length=(k::ks).length/\oE c FL fm hd n (k::ks) (cJ M C hd (a::r)) pairs) h λe es h=>?_;refine vv (P:=λke=>∃pairs,(evalEachOpt (ke::P0) fm.aA).zip ((evalEach (e::es) fm.aA).map λv=>do let x<-v;standAt pos;pure x)=pairs.map (λp=>(some p.1,p.2))/\pairs.length=(k::ks).length/\oE c FL fm hd n (k::ks) (cJ M C hd (a::r)) pairs) (bz h).1 λke h1=>?_;refine pJ (P:=λke=>∃pairs,(evalEachOpt (some ke::P0) fm.aA).zip ((evalEach (e::es) fm.aA).map λv=>do let x<-v;standAt pos;pure x)=pairs.map (λp=>(some p.1,p.2))/\pairs.length=(k::ks).length/\oE c FL fm hd n (k::ks) (cJ M C hd (a::r)) pairs) h1 λcc q p h1=>?_;exact NY h1 (sE a sc ic e (bz h).2.1 FL fm hd R) (sDs r sc ic ks P0 es (bz h).2.2 FL fm hd pos R)
end
end
section
theorem eV{f:e.ctorIdx=i->Bool}(h:n8 e i f=true):∃q,f q=true:=by
 unfold n8 at h;by_cases k:e.ctorIdx=i
 ·rw[dif_pos k]at h;exact⟨k,h⟩
 ·rw[dif_neg k]at h;injection h
noncomputable def abj(e:Expr):Nat:=e.pos.line
theorem BB{P:Stmt->Prop}{e:Stmt}{f:Expr->Pos->Bool}(h:JU e f=true)(z:∀(v:Expr) (p:Pos),f v p=true->P (.Expr v p)):P e:=
 Exists.elim (eV h) λq h=>Stmt.Expr.elim (motive_2:=λe=>∀q:e.ctorIdx=24,Stmt.Expr.elim e q f=true->P e) e q (λv p u_ h=>z v p h) q h
theorem rk{P:Stmt->Prop}{e:Stmt}{f:List Expr->Expr->Pos->Bool}(h:zx e f=true)(z:∀(ts:List Expr) (v:Expr) (p:Pos),f ts v p=true->P (.Assign ts v p)):P e:=
 Exists.elim (eV h) λq h=>Stmt.Assign.elim (motive_2:=λe=>∀q:e.ctorIdx=5,Stmt.Assign.elim e q f=true->P e) e q (λts v p u_ h=>z ts v p h) q h
theorem DE{P:Stmt->Prop}{e:Stmt}{f:Expr->Operator->Expr->Pos->Bool}(h:JQ e f=true)(z:∀(t:Expr) (o:Operator) (v:Expr) (p:Pos),f t o v p=true->P (.AugAssign t o v p)):P e:=
 Exists.elim (eV h) λq h=>Stmt.AugAssign.elim (motive_2:=λe=>∀q:e.ctorIdx=7,Stmt.AugAssign.elim e q f=true->P e) e q (λt o v p u_ h=>z t o v p h) q h
theorem S8{P:Stmt->Prop}{e:Stmt}{f:Expr->List Stmt->List Stmt->Pos->Bool}(h:W6 e f=true)(z:∀(t:Expr) (a b:List Stmt) (p:Pos),f t a b p=true->P (.If t a b p)):P e:=
 Exists.elim (eV h) λq h=>Stmt.If.elim (motive_2:=λe=>∀q:e.ctorIdx=12,Stmt.If.elim e q f=true->P e) e q (λt a b p u_ h=>z t a b p h) q h
theorem FG{P:Stmt->Prop}{e:Stmt}{f:Expr->List Stmt->List Stmt->Pos->Bool}(h:DQ e f=true)(z:∀(t:Expr) (a b:List Stmt) (p:Pos),f t a b p=true->P (.While t a b p)):P e:=
 Exists.elim (eV h) λq h=>Stmt.While.elim (motive_2:=λe=>∀q:e.ctorIdx=11,Stmt.While.elim e q f=true->P e) e q (λt a b p u_ h=>z t a b p h) q h
theorem Of{P:Stmt->Prop}{e:Stmt}{f:Expr->Expr->List Stmt->List Stmt->Pos->Bool}(h:Qe e f=true)(z:∀(t i:Expr) (a b:List Stmt) (p:Pos),f t i a b p=true->P (.For t i a b p)):P e:=
 Exists.elim (eV h) λq h=>Stmt.For.elim (motive_2:=λe=>∀q:e.ctorIdx=9,Stmt.For.elim e q f=true->P e) e q (λt i a b p u_ h=>z t i a b p h) q h
theorem DK{P:Stmt->Prop}{e:Stmt}{f:Option Expr->Pos->Bool}(h:J5 e f=true)(z:∀(e1:Option Expr) (p:Pos),f e1 p=true->P (.Return e1 p)):P e:=
 Exists.elim (eV h) λq h=>Stmt.Return.elim (motive_2:=λe=>∀q:e.ctorIdx=3,Stmt.Return.elim e q f=true->P e) e q (λe1 p u_ h=>z e1 p h) q h
theorem FC{P:Stmt->Prop}{e:Stmt}{f:Option Expr->Option Expr->Pos->Bool}(h:onRaise e f=true)(z:∀(e1 e2:Option Expr) (p:Pos),f e1 e2 p=true->P (.Raise e1 e2 p)):P e:=
 Exists.elim (eV h) λq h=>Stmt.Raise.elim (motive_2:=λe=>∀q:e.ctorIdx=16,Stmt.Raise.elim e q f=true->P e) e q (λe1 e2 p u_ h=>z e1 e2 p h) q h
theorem DP{P:Stmt->Prop}{e:Stmt}{f:List Stmt->List ExceptHandler->List Stmt->List Stmt->Pos->Bool}(h:J7 e f=true)(z:∀(b:List Stmt) (hs:List ExceptHandler) (o g:List Stmt) (p:Pos),f b hs o g p=true->P (.Try b hs o g p)):P e:=
 Exists.elim (eV h) λq h=>Stmt.Try.elim (motive_2:=λe=>∀q:e.ctorIdx=17,Stmt.Try.elim e q f=true->P e) e q (λb hs o g p u_ h=>z b hs o g p h) q h
theorem J4{P:Stmt->Prop}{e:Stmt}{f:Pos->Bool}(h:J3 e f=true)(z:∀(p:Pos),f p=true->P (.Pass p)):P e:=
 Exists.elim (eV h) λq h=>Stmt.Pass.elim (motive_2:=λe=>∀q:e.ctorIdx=25,Stmt.Pass.elim e q f=true->P e) e q (λp u_ h=>z p h) q h
theorem Oc{P:Stmt->Prop}{e:Stmt}{f:Pos->Bool}(h:Qb e f=true)(z:∀(p:Pos),f p=true->P (.Break p)):P e:=
 Exists.elim (eV h) λq h=>Stmt.Break.elim (motive_2:=λe=>∀q:e.ctorIdx=26,Stmt.Break.elim e q f=true->P e) e q (λp u_ h=>z p h) q h
theorem JT{P:Stmt->Prop}{e:Stmt}{f:Pos->Bool}(h:JS e f=true)(z:∀(p:Pos),f p=true->P (.Continue p)):P e:=
 Exists.elim (eV h) λq h=>Stmt.Continue.elim (motive_2:=λe=>∀q:e.ctorIdx=27,Stmt.Continue.elim e q f=true->P e) e q (λp u_ h=>z p h) q h
theorem W5{P:ExceptHandler->Prop}{g:ExceptHandler}{f:Str->Option Str->Stmt->List Stmt->Bool}(h:onH g f=true)(z:∀y yp x h0 hr hp,f y x h0 hr=true->P (.ExceptHandler (some (.Name y yp)) x (h0::hr) hp)):P g:=by
 obtain⟨t,x,b,p⟩:=g;exact vv (P:=λt=>P (.ExceptHandler t x b p)) h λt h=>cF (P:=λt=>P (.ExceptHandler (some t) x b p)) h λy yp h=>jg (P:=λb=>P (.ExceptHandler (some (.Name y yp)) x b p)) h λh0 hr h=>z y yp x h0 hr p h
theorem yZ(o:Option NameKind):(o==some NameKind.local)=wN o:=by
 cases o with
 |none=>rfl
 |some k=>cases k<;>rfl
theorem Gu{ts vs:List Expr}{kk kk2:Nat}{tp tp2:Pos}{aA:bO}{N:List Str}(hb:aA.blockKind= .function)
  (hN:N=ts.filterMap λt=>match t with
   | .Name Wt pos=>if aA.kindOf Wt==some .local&&pos.line==((ts.head?.map (·.pos.line)).getD 0)then some Wt else none
   |_=>none):swappedStores [.Tuple ts kk tp] (.Tuple vs kk2 tp2) aA=
  (if(!(ts.length==2||ts.length==3)||vs.length !=ts.length)=true then pure none else if vs.any eT=true then pure none
   else if(N.length !=ts.length||N.eraseDups.length !=N.length)=true then pure none else if vs.all (foldedForSure 8)=true then pure none
   else if vs.all (constantsAlone 8)=true then(do unsupported "assign.tuple-of-constant-expressions:order-of-the-stores";return some N)else pure (some N)):=by
 subst hN;unfold swappedStores;dsimp only;rw[hb];have e:(!(ts.length==2||ts.length==3)||vs.length !=ts.length||ScopeKind.function !=ScopeKind.function)=(!(ts.length==2||ts.length==3)||vs.length !=ts.length):=by
  rw[show(ScopeKind.function !=ScopeKind.function)=false from rfl,Bool.or_false]
 rw[e];rfl
theorem yN{p:Prop}[Decidable p]{α:Type}{a b x:α}(h:(if p then a else b)=x){β:Type}{a' b' y:β}(h1:a=x->a'=y)(h2:b=x->b'=y):(if p then a' else b')=y:=by
 by_cases k:p
 ·rw[ah k]at h⊢;exact h1 h
 ·rw[ag k]at h⊢;exact h2 h
theorem Lq{c:Cx}{FL fm ns sc ic}(R:dh c FL fm ns sc ic){ts vs:List Expr}{kk kk2:Nat}{tp tp2:Pos}{r:Option (List Str)}(h:swK sc ts vs=some r):swappedStores [.Tuple ts kk tp] (.Tuple vs kk2 tp2) fm.aA=pure r:=by
 have hb:fm.aA.blockKind= .function:=by
  unfold Env.blockKind;rw[R.F.kind];rfl
 rw[Gu (N:=UH sc ts) hb (by
  unfold UH
  congr 1
  funext t
  cases t<;>try rfl
  dsimp only;rw[R.kind,yZ])]
 have he:∀{x y:Option (List Str)},some x=some y->(pure x:Sem (Option (List Str)))=pure y:=λh=>af pure (inj h);exact yN h he λh=>yN h he λh=>yN h he λh=>yN h he λh=>yN h (λh=>(by injection h)) he
theorem Lr(h:M3 25 t=false):swappedStores [.Tuple ts kk tp] t aA=pure none:=by
 cases t<;>first|rfl|injection h
theorem TG{c:Cx}{FL fm ns sc ic}(R:dh c FL fm ns sc ic){s:Scope}{elt:Expr}{gs:List Comprehension}{y:Str}{py pos OZ:Pos}(h:YT sc s y py.line pos.line=true):
  swapsWith (.ListComp elt gs s pos) (some (.Name y py)) OZ.line fm.aA=pure true:=by
 have hb:fm.aA.blockKind= .function:=by
  unfold Env.blockKind;rw[R.F.kind];rfl
 unfold YT at h;simp only[and_eq_true]at h;obtain⟨⟨h1,h2⟩,h3⟩:=h;have h4:(s.names.any λx=>x.1==y&&(x.2== .local||x.2== .cell))=false:=by
  rw[any_eq_false];intro z hz;have:=bj h3 z hz;simp only[not_eq_true']at this;rw[this];decide
 show pure (fm.aA.blockKind== .function&&fm.aA.kindOf y==some .local&&py.line==pos.line&& !(s.names.any λx=>x.1==y&&(x.2== .local||x.2== .cell)))=_;simp only[hb,R.kind,yZ,h1,h2,h4];rfl
variable (ns:List (List Nat))
theorem Ra{P:ME->Prop}{a:ME}{f:Nat->ME->MI->Bool}{g:Bool}(h:Q9 a f g=true)(k1:∀j elt it,f j elt it=true->P (.comp j elt it))(k2:g=true->P a):P a:=by
 unfold Q9 at h;by_cases q:a.ctorIdx=(ME.comp 0 .ia (.val .ia)).ctorIdx
 ·rw[dif_pos q]at h;exact ME.comp.elim (motive_1:=λa=>∀q:a.ctorIdx=(ME.comp 0 .ia (.val .ia)).ctorIdx,ME.comp.elim a q f=true->P a) a q (λj elt it u_ h=>k1 j elt it h) q h
 ·rw[dif_neg q]at h;exact k2 h
end
section
variable {c:Cx} {n:Nat} {ns:List (List Nat)} {M:Nat->Nat->Option Nat} {C:Calls}
theorem dh.qy{FL fm sc ic}(R:dh c FL fm ns sc ic)(h:Jo (eF sc x)=true):fh fm x:=by
 unfold fh;rw[R.kind];exact Dk h
theorem xI{FL fm sc ic}(R:dh c FL fm ns sc ic):∀{xs:List Nat} {es:List Expr},XK ns sc xs es=true->qA fm xs es
 | [],es,h=>dw (P:=λes=>qA fm [] es) h .nil
 |i::xs,es,h=>jg (P:=λes=>qA fm (i::xs) es) h λe es h=>cF (P:=λe=>qA fm (i::xs) (e::es)) (bE h).1 λx p h1=>.cons (R.slot (bE h1).1) (R.qy (bE h1).2) (xI R (bE h).2)
theorem TV{FL fm sc ic}(R:dh c FL fm ns sc ic)(h:tg1 ns sc x e=true):Mc fm x e:=by
 cases x with
 |iM i=>exact cF (P:=λe=>Mc fm (.iM i) e) h λx p h=>.iM (R.slot (bE h).1) (R.qy (bE h).2)
 |eS xs=>exact jG (P:=λe=>Mc fm (.eS xs) e) h λes k p h=>.eS (xI R h)
def GV(fm:Fm)(xs:List Nat)(names:List Str):Prop:=xs.map (λi=>fm.ns[i]?)=names.map some/\∀x∈names,fh fm x
theorem zl{FL fm sc ic}(R:dh c FL fm ns sc ic):∀{xs:List Nat} {names:List Str},JH ns sc xs names=true->GV fm xs names
 | [],r,h=>dw (P:=GV fm []) h ⟨rfl,λu_ h=>nomatch h⟩
 |i::xs,r,h=>jg (P:=GV fm (i::xs)) h λx r h=>by
  obtain⟨a,b⟩:=zl R (bE h).2;have h1:=bE (bE h).1;refine⟨by simp only[map_cons,map_cons,a,R.slot h1.1],λy hy=>?_⟩;rcases mem_cons.mp hy with rfl|hy
  ·exact R.qy h1.2
  ·exact b y hy
theorem vm:∀{l:List Nat},By l=true->l.Nodup
 | [],_=>nodup_nil
 |i::r,h=>nodup_cons.mpr ⟨λm=>Bool.false_ne_true ((je (bE h).1).symm.trans (any_eq_true.mpr ⟨i,m,beq_refl i⟩)),vm (bE h).2⟩
variable (P:QP c n M C) (UI:typeIn c.K (.ref 84)=some (.type "type")) (RL:exmOne c.K (.ref 84) (.ref 84)=some true)
include P
theorem WS{FL fm hd sc}(R:dh c FL fm ns sc false)(h1:z8 ns sc i x=true)(h3:dk e=true)(h4:aH c FL fm hd n (den M C hd a).val (eval e fm.aA)):
  bu c FL fm hd n (ws M C hd (.bL i a)) (exec (.Assign [.Name x p] e pos) fm.aA):=
 K5 R.F (R.OO rfl) (R.slot (bE h1).1) (R.qy (bE h1).2) h3 h4
theorem Fp{FL fm hd sc}(R:dh c FL fm ns sc false){i j:Nat}{elt:ME}{it:MI}{kz iter:Expr}{x y:Str}{s:Scope}{px pos p2 aaL:Pos}(h0:z8 ns sc i x=true)(hc:YT sc s x px.line p2.line=true)(h2:kW ns sc j y s=true)(h3:(!fO iter)=true)
  (h4:XM ns it sc false iter=true) (h5:gq ns elt (zQ sc s.names) true kz=true):
  bu c FL fm hd n (ws M C hd (.bL i (.comp j elt it))) (exec (.Assign [.Name x px] (.ListComp kz [⟨.Name y pos,iter,[],0⟩] s p2) aaL) fm.aA):=
 xB (v:=λhd=>(den M C hd elt).val) (dI:=λhd=>ky M C hd it) P.K R.F R.hh (R.OO rfl) (CL R h2) (TG R hc) (R.slot (bE h0).1) (R.qy (bE h0).2) (wD (je h3)) (sI P it sc false iter h4 FL fm .none R)
  λou F' Ur e1 e2=>sE P elt (zQ sc s.names) true kz h5 FL ou .none ⟨F',Ur,(λz=>by injection z),by rw[e1];exact Kz R s,by rw[e2];exact R.slots⟩
theorem SP{FL fm hd sc}(R:dh c FL fm ns sc false)(h1:dk e=true)(h2:aH c FL fm hd n (den M C hd a).val (eval e fm.aA))(h3:XK ns sc xs es=true)(h4:(!M3 25 e||ji e λvs u_ u_=>swB ns sc xs es vs)=true):
  bu c FL fm hd n (ws M C hd (.dE xs a)) (exec (.Assign [.Tuple es k tp] e pos) fm.aA):=by
 rcases or_eq_true_iff.mp h4 with h4|h4
 ·exact vF R.F (R.OO rfl) (xI R h3) h1 (Lr (je h4)) h2
 ·refine jG (P:=λe=>dk e=true->aH c FL fm hd n (den M C hd a).val (eval e fm.aA)->bu c FL fm hd n (ws M C hd (.dE xs a)) (exec (.Assign [.Tuple es k tp] e pos) fm.aA)) h4 (λvs k2 p2 h4 h1 hE=>?_) h1 h2;unfold swB at h4;cases Yp:swK sc es vs with
  |none=>rw[Yp]at h4;exact lK h4
  |some o=>
   replace h4:=Yp▸h4;cases o with
   |none=>exact vF R.F (R.OO rfl) (xI R h3) h1 (Lq R Yp) hE
   |some names=>
    have q:=zl R (bE h4).1;exact Ga R.F (R.OO rfl) q.1 q.2 (vm (bE h4).2) h1 (Lq R Yp) hE
theorem SO{FL fm hd sc}(R:dh c FL fm ns sc false)(h1:dk e=true)(h2:pA x k=true)(h3:aH c FL fm hd n (den M C hd a).val (eval e fm.aA))(h4:aH c FL fm hd n (den M C hd o).val (eval o' fm.aA)):
  bu c FL fm hd n (ws M C hd (.c3 o k a)) (exec (.Assign [.Attribute o' x p] e pos) fm.aA):=by
 obtain rfl:=nX h2;exact F8 P.K P.O h1 h3 h4
theorem WT{FL fm hd sc}(R:dh c FL fm ns sc false)(h1:z8 ns sc i x=true)(h3:decide (o=jS op)=true)(h4:aH c FL fm hd n (den M C hd a).val (eval e fm.aA)):
  bu c FL fm hd n (ws M C hd (.mZ i op a)) (exec (.AugAssign (.Name x p) o e pos) fm.aA):=by
 obtain rfl:=ay h3;exact K6 R.F (R.OO rfl) (R.slot (bE h1).1) (R.qy (bE h1).2) h4
theorem SR{FL fm hd sc}(R:dh c FL fm ns sc false)(h1:pA x k=true)(h2:decide (b=jS op)=true)(h3:aH c FL fm hd n (den M C hd o).val (eval o' fm.aA))(h4:aH c FL fm hd n (den M C hd a).val (eval e fm.aA)):
  bu c FL fm hd n (ws M C hd (.mr o k op a)) (exec (.AugAssign (.Attribute o' x p) b e pos) fm.aA):=by
 obtain rfl:=ay h2;obtain rfl:=nX h1;exact Gb P.K P.O h4 h3
include UI RL
mutual
theorem sS:∀(m:MS) (sc:Ks) (st:Stmt),trS ns m sc st=true->∀FL fm hd,dh c FL fm ns sc false->bu c FL fm hd n (ws M C hd m) (exec st fm.aA)
 | .expr a,sc,st,h,FL,fm,hd,R=>BB (P:=λs=>bu c FL fm hd n (ws M C hd (.expr a)) (exec s fm.aA)) h λe p h=>Gf R.F (bE h).1 (sE P a sc false e (bE h).2 FL fm hd R)
 | .bL i a,sc,st,h,FL,fm,hd,R=>rk (P:=λs=>bu c FL fm hd n (ws M C hd (.bL i a)) (exec s fm.aA)) h λts e pos h=>d8 (P:=λts=>bu c FL fm hd n (ws M C hd (.bL i a)) (exec (.Assign ts e pos) fm.aA)) h λt h=>cF (P:=λt=>bu c FL fm hd n (ws M C hd (.bL i a)) (exec (.Assign [t] e pos) fm.aA)) h λx p h=>Ra (P:=λa=>bu c FL fm hd n (ws M C hd (.bL i a)) (exec (.Assign [.Name x p] e pos) fm.aA)) (bE h).2 (λj elt it h3=>JY (P:=λe=>bu c FL fm hd n (ws M C hd (.bL i (.comp j elt it))) (exec (.Assign [.Name x p] e pos) fm.aA)) h3 λkz gs s p2 h3=>d8 (P:=λgs=>bu c FL fm hd n (ws M C hd (.bL i (.comp j elt it))) (exec (.Assign [.Name x p] (.ListComp kz gs s p2) pos) fm.aA)) h3 λg h3=>DH (P:=λg=>bu c FL fm hd n (ws M C hd (.bL i (.comp j elt it))) (exec (.Assign [.Name x p] (.ListComp kz [g] s p2) pos) fm.aA)) h3 λy py iter h3=>
   Fp P R (bE h).1 (fT h3).1 (fT h3).2.1 (fT h3).2.2.1 (fT h3).2.2.2.1 (fT h3).2.2.2.2) λh3=>WS P R (bE h).1 (bE h3).1 (sE P a sc false e (bE h3).2 FL fm hd R)
 | .dE xs a,sc,st,h,FL,fm,hd,R=>rk (P:=λs=>bu c FL fm hd n (ws M C hd (.dE xs a)) (exec s fm.aA)) h λts e pos h=>d8 (P:=λts=>bu c FL fm hd n (ws M C hd (.dE xs a)) (exec (.Assign ts e pos) fm.aA)) h λt h=>jG (P:=λt=>bu c FL fm hd n (ws M C hd (.dE xs a)) (exec (.Assign [t] e pos) fm.aA)) h λes k p h=>SP P R (cN h).1 (sE P a sc false e (cN h).2.1 FL fm hd R) (cN h).2.2.1 (cN h).2.2.2
 | .c3 o k a,sc,st,h,FL,fm,hd,R=>rk (P:=λs=>bu c FL fm hd n (ws M C hd (.c3 o k a)) (exec s fm.aA)) h λts e pos h=>d8 (P:=λts=>bu c FL fm hd n (ws M C hd (.c3 o k a)) (exec (.Assign ts e pos) fm.aA)) h λt h=>fq (P:=λt=>bu c FL fm hd n (ws M C hd (.c3 o k a)) (exec (.Assign [t] e pos) fm.aA)) h λo' x p h=>SO P R (cN h).1 (cN h).2.1 (sE P a sc false e (cN h).2.2.1 FL fm hd R) (sE P o sc false o' (cN h).2.2.2 FL fm hd R)
 | .mq o i a,sc,st,h,FL,fm,hd,R=>rk (P:=λs=>bu c FL fm hd n (ws M C hd (.mq o i a)) (exec s fm.aA)) h λts e pos h=>d8 (P:=λts=>bu c FL fm hd n (ws M C hd (.mq o i a)) (exec (.Assign ts e pos) fm.aA)) h λt h=>rq (P:=λt=>bu c FL fm hd n (ws M C hd (.mq o i a)) (exec (.Assign [t] e pos) fm.aA)) h λo' i' p h=>F9 (cN h).1 (sE P a sc false e (cN h).2.1 FL fm hd R) (sE P o sc false o' (cN h).2.2.1 FL fm hd R) (sE P i sc false i' (cN h).2.2.2 FL fm hd R)
 | .mZ i op a,sc,st,h,FL,fm,hd,R=>DE (P:=λs=>bu c FL fm hd n (ws M C hd (.mZ i op a)) (exec s fm.aA)) h λt b e pos h=>cF (P:=λt=>bu c FL fm hd n (ws M C hd (.mZ i op a)) (exec (.AugAssign t b e pos) fm.aA)) h λx p h=>WT P R (bz h).1 (bz h).2.1 (sE P a sc false e (bz h).2.2 FL fm hd R)
 | .mr o k op a,sc,st,h,FL,fm,hd,R=>DE (P:=λs=>bu c FL fm hd n (ws M C hd (.mr o k op a)) (exec s fm.aA)) h λt b e pos h=>fq (P:=λt=>bu c FL fm hd n (ws M C hd (.mr o k op a)) (exec (.AugAssign t b e pos) fm.aA)) h λo' x p h=>SR P R (cN h).1 (cN h).2.1 (sE P o sc false o' (cN h).2.2.1 FL fm hd R) (sE P a sc false e (cN h).2.2.2 FL fm hd R)
 | .ifs t a b,sc,st,h,FL,fm,hd,R=>S8 (P:=λs=>bu c FL fm hd n (ws M C hd (.ifs t a b)) (exec s fm.aA)) h λt' a' b' pos h=>K9 (t:=den M C hd t) (R.OO rfl) (sT P t sc false t' (bz h).1 FL fm hd R) (GN a sc a' (bz h).2.1 FL fm hd R) (GN b sc b' (bz h).2.2 FL fm hd R)
 | .while t a,sc,st,h,FL,fm,hd,R=>FG (P:=λs=>bu c FL fm hd n (ws M C hd (.while t a)) (exec s fm.aA)) h λt' a' b' pos h=>dw (P:=λb=>bu c FL fm hd n (ws M C hd (.while t a)) (exec (.While t' a' b pos) fm.aA)) (bz h).1 (B4 (t:=den M C hd t) P.K R.hh (R.OO rfl) (sT P t sc false t' (bz h).2.1 FL fm hd R) (GN a sc a' (bz h).2.2 FL fm hd R))
 | .for x it a,sc,st,h,FL,fm,hd,R=>Of (P:=λs=>bu c FL fm hd n (ws M C hd (.for x it a)) (exec s fm.aA)) h λt' i' a' b' pos h=>dw (P:=λb=>bu c FL fm hd n (ws M C hd (.for x it a)) (exec (.For t' i' a' b pos) fm.aA)) (fT h).1 (match hd with
  |none=>K8 (d:=ky M C .none it) (vb:=cv M C .none a) P.K R.F R.hh (R.OO rfl) (wD (je (fT h).2.2.1)) (TV R (fT h).2.1) (sI P it sc false i' (fT h).2.2.2.1 FL fm .none R) (GN a sc a' (fT h).2.2.2.2 FL fm .none R)
  |some z=>λA ev ρ H s Q E Q' E' a h X l kQ kE=>(by injection h.1))
 | .ret a,sc,st,h,FL,fm,hd,R=>DK (P:=λs=>bu c FL fm hd n (ws M C hd (.ret a)) (exec s fm.aA)) h λe pos h=>vv (P:=λe=>bu c FL fm hd n (ws M C hd (.ret a)) (exec (.Return e pos) fm.aA)) h λe h=>Lb (sE P a sc false e h FL fm hd R)
 | .uo,sc,st,h,FL,fm,hd,R=>DK (P:=λs=>bu c FL fm hd n (ws M C hd (.uo)) (exec s fm.aA)) h λe pos h=>zC (P:=λe=>bu c FL fm hd n (ws M C hd (.uo)) (exec (.Return e pos) fm.aA)) h Gh
 | .cW a,sc,st,h,FL,fm,hd,R=>FC (P:=λs=>bu c FL fm hd n (ws M C hd (.cW a)) (exec s fm.aA)) h λe e2 pos h=>zC (P:=λe2=>bu c FL fm hd n (ws M C hd (.cW a)) (exec (.Raise e e2 pos) fm.aA)) (bE h).1<|vv (P:=λe=>bu c FL fm hd n (ws M C hd (.cW a)) (exec (.Raise e none pos) fm.aA)) (bE h).2 λe h=>B3 P.K P.O UI (sE P a sc false e h FL fm hd R)
 | .jl b x hb,sc,st,h,FL,fm,hd,R=>DP (P:=λs=>bu c FL fm hd n (ws M C hd (.jl b x hb)) (exec s fm.aA)) h λb' hs o g pos h=>dw (P:=λo=>bu c FL fm hd n (ws M C hd (.jl b x hb)) (exec (.Try b' hs o g pos) fm.aA)) (bz h).1<|dw (P:=λg=>bu c FL fm hd n (ws M C hd (.jl b x hb)) (exec (.Try b' hs [] g pos) fm.aA)) (bz h).2.1<|d8 (P:=λhs=>bu c FL fm hd n (ws M C hd (.jl b x hb)) (exec (.Try b' hs [] [] pos) fm.aA)) (bz h).2.2 λhh h=>W5 (P:=λhh=>bu c FL fm hd n (ws M C hd (.jl b x hb)) (exec (.Try b' [hh] [] [] pos) fm.aA)) h λy yp x' h0 hr hp h=>(match x with
  | .none=>zC (P:=λx'=>bu c FL fm hd n (ws M C hd (.jl b .none hb)) (exec (.Try b' [.ExceptHandler (some (.Name y yp)) x' (h0::hr) hp] [] [] pos) fm.aA)) (cN h).2.1 (Gi (vh:=λe=>cv M C (some e) hb) P.K R.F R.hh (R.OO rfl) (R.V3 P.T (cN h).1) RL (GN b sc b' (cN h).2.2.1 FL fm hd R) λe=>GN hb sc (h0::hr) (cN h).2.2.2 FL fm (some e) R)
  |some i=>vv (P:=λx'=>bu c FL fm hd n (ws M C hd (.jl b (some i) hb)) (exec (.Try b' [.ExceptHandler (some (.Name y yp)) x' (h0::hr) hp] [] [] pos) fm.aA)) (cN h).2.1 λz h2=>Gk (vh:=λe=>cv M C (some e) hb) P.K R.F R.hh (R.OO rfl) (R.V3 P.T (cN h).1) RL (R.slot (bE h2).1) (by rw[R.kind];exact wO (bE h2).2) (GN b sc b' (cN h).2.2.1 FL fm hd R) λe=>GN hb sc (h0::hr) (cN h).2.2.2 FL fm (some e) R)
 | .qP b f,sc,st,h,FL,fm,hd,R=>DP (P:=λs=>bu c FL fm hd n (ws M C hd (.qP b f)) (exec s fm.aA)) h λb' hs o g pos h=>dw (P:=λhs=>bu c FL fm hd n (ws M C hd (.qP b f)) (exec (.Try b' hs o g pos) fm.aA)) (bz h).1<|dw (P:=λo=>bu c FL fm hd n (ws M C hd (.qP b f)) (exec (.Try b' [] o g pos) fm.aA)) (bz h).2.1<|jg (P:=λg=>bu c FL fm hd n (ws M C hd (.qP b f)) (exec (.Try b' [] [] g pos) fm.aA)) (bz h).2.2 λf0 fr h=>Gj (vf:=λhd=>cv M C hd f) P.K R.hh (R.OO rfl) (GN b sc b' (bE h).1 FL fm hd R) λhd=>GN f sc (f0::fr) (bE h).2 FL fm hd R
 | .brk,sc,st,h,FL,fm,hd,R=>Oc (P:=λs=>bu c FL fm hd n (ws M C hd (.brk)) (exec s fm.aA)) h λpos u_=>K7
 | .cont,sc,st,h,FL,fm,hd,R=>JT (P:=λs=>bu c FL fm hd n (ws M C hd (.cont)) (exec s fm.aA)) h λpos u_=>Ge
 | .um,sc,st,h,FL,fm,hd,R=>J4 (P:=λs=>bu c FL fm hd n (ws M C hd (.um)) (exec s fm.aA)) h λpos u_=>Gg
 | .ia,_,_,_,_,_,_,_=>λA ev ρ H s Q E Q' E' a h X l kQ kE=>h.elim
theorem GN:∀(ms:List MS) (sc:Ks) (sts:List Stmt),qO ns ms sc sts=true->∀FL fm hd,dh c FL fm ns sc false->bu c FL fm hd n (cv M C hd ms) (execs sts fm.aA)
 | [],sc,ss,h,FL,fm,hd,R=>dw (P:=λss=>bu c FL fm hd n (cv M C hd []) (execs ss fm.aA)) h La
 |a::r,sc,ss,h,FL,fm,hd,R=>jg (P:=λss=>bu c FL fm hd n (cv M C hd (a::r)) (execs ss fm.aA)) h λs ss h=>Gd (R.OO rfl) (sS a sc s (bE h).1 FL fm hd R) (GN r sc ss (bE h).2 FL fm hd R)
end
end
theorem el{a b:Bool}(h:(a&&b)=true):a=true:=(bh h).1
theorem er{a b:Bool}(h:(a&&b)=true):b=true:=(bh h).2
theorem en{a:Bool}(h:(!a)=true):a=false:=(not_eq_true' _).mp h
theorem qq{α:Type}{f:α->List α->Bool}{l:List α}(h:ND f l=true){P:List α->Prop}(k:∀a r,f a r=true->P (a::r)):P l:=by
 cases l with
 |nil=>exact(by injection h)
 |cons a r=>exact k a r h
section
variable {x:Value} {P:Value->Prop}
theorem QF(h:vNo x=true)(k:P .none):P x:=by
 cases x with
 |none=>exact k
 |_=>exact(by injection h)
theorem XQ(h:vBo a x=true)(k:P (.bool a)):P x:=by
 cases x with
 |bool b=>exact beq_iff_eq.mp h▸k
 |_=>exact(by injection h)
theorem XR(h:vIn a x=true)(k:∀n,P (.int a n)):P x:=by
 cases x with
 |int b n=>exact beq_iff_eq.mp h▸k n
 |_=>exact(by injection h)
theorem XT(h:vSt a x=true)(k:bI a->∀n,P (.str (SL a) n)):P x:=by
 cases x with
 |str b n=>exact gP (el h)▸k (pP (er h)) n
 |_=>exact(by injection h)
theorem QG{f:Addr->Bool}(h:vRf f x=true)(k:∀T,f T=true->P (.ref T)):P x:=by
 cases x with
 |ref T=>exact k T h
 |_=>exact(by injection h)
theorem XN(h:tyB x s=true):x= .type s:=by
 cases x with
 |type t=>exact af _ (beq_iff_eq.mp h)
 |_=>exact(by injection h)
end
theorem PG{f:Array Value->Bool}{d:Data}(h:Zr f d=true){P:Data->Prop}(k:∀ws m,f ws=true->P (.seq ws m)):P d:=by
 cases d with
 |seq ws m=>exact k ws m h
 |_=>exact(by injection h)
theorem J1{f:Obj->Bool}(h:YQ f o=true){P:Prop}(k:∀ob,o=some ob->f ob=true->P):P:=by
 cases o with
 |none=>exact(by injection h)
 |some ob=>exact k ob rfl h
mutual
theorem T1{K:Frag}{ρ h}(X:K.In h):∀(v:MV) (x:Value),vrB K v x=true->VR ρ h v x
 | .none,_,e=>QF (P:=VR ρ h _) e .none
 | .bool a,_,e=>XQ (P:=VR ρ h _) e (.bool a)
 | .int a,_,e=>XR (P:=VR ρ h _) e (.int a)
 | .str a,_,e=>XT (P:=VR ρ h _) e λs n=>.str a n s
 | .aF vs,_,e=>QG (P:=VR ρ h _) e λT e=>J1 e λo hT e=>PG (P:=λd=>o.data=d->VR ρ h (.aF vs) (.ref T)) (er e) (λws m e2 hd=>
  have r:=xK X vs ws.toList (el e2)
  .aF (X _ _ hT) (XN (el e)) hd r.1 (av (er e2)) λj v x a b=>r.2 j v x a (getElem?_toList.trans b)) rfl
 | .ref _,_,e=>(by injection e)
 | .dg _,_,e=>(by injection e)
theorem xK{K:Frag}{ρ h}(X:K.In h):∀(vs:List MV) (xs:List Value),Pd K vs xs=true->cY ρ h vs xs
 | [],_,e=>isEmpty_iff.mp e▸.nil _ _
 |v::r,_,e=>qq (P:=cY ρ h _) e λx q e=>.cons (T1 X v x (el e)) (xK X r q (er e))
end
theorem Jp:Dl l=true->(l.map (·.1)).Nodup:=by
 induction l with
 |nil=>exact λu_=>nodup_nil
 |cons z r ih=>
  intro(h:(!(r.any λy=>uq z.1 y.1)&&Dl r)=true);exact nodup_cons.mpr ⟨λm=>(mem_map.mp m).elim λy w=>any_eq_false.mp (en (el h)) y w.1 (dM.mpr (af (λx:Str=>x.cps.toList) w.2.symm)),ih (er h)⟩
theorem Tu{l:List Arg}:∀{s:List (List Nat)},psB l s=true->l.map (·.arg)=s.map SL:=by
 induction l with
 |nil=>exact λ{s} h=>isEmpty_iff.mp h▸rfl
 |cons a r ih=>exact λ{s} h=>qq (P:=λs=>(a::r).map (·.arg)=s.map SL) h λs q h=>List.cons_eq_cons.mpr ⟨gP (el h),ih (er h)⟩
theorem Vx{f:FuncData->Bool}{d:Data}(h:dFn f d=true){P:Data->Prop}(k:∀fd,f fd=true->P (.func fd)):P d:=by
 cases d with
 |func fd=>exact k fd h
 |_=>exact(by injection h)
theorem Vc{f:List Stmt->Bool}{d:FuncBody}(h:bSt f d=true){P:FuncBody->Prop}(k:∀fd,f fd=true->P (.stmts fd)):P d:=by
 cases d with
 |stmts fd=>exact k fd h
 |_=>exact(by injection h)
theorem Jd{k}(h:Dg k=true):k= .function:=by
 cases k with
 |function=>rfl
 |_=>exact(by injection h)
theorem RP(hl:c.K.lookup f=some o)(hd:o.data= .func fd)(hb:fd.body= .stmts bd)(h:fdB c.K fd ns np eN nl body bd=true):tT c f (ns.map SL) np eN nl fd bd:=by
 refine⟨⟨o.cls,o.dict,o.slots,hl.trans (hd▸rfl)⟩,hb,au (el (el (el (el (el (el (el (el (el (el (el (el (el (el (el (el (el (el (el (el (el h))))))))))))))))))))),au (er (el (el (el (el (el (el (el (el (el (el (el (el (el (el (el (el (el (el (el (el h))))))))))))))))))))),isEmpty_iff.mp (er (el (el (el (el (el (el (el (el (el (el (el (el (el (el (el (el (el (el (el h)))))))))))))))))))),(er (el (el (el (el (el (el (el (el (el (el (el (el (el (el (el (el (el (el h))))))))))))))))))),Jd (er (el (el (el (el (el (el (el (el (el (el (el (el (el (el (el (el (el h)))))))))))))))))),
  (en (er (el (el (el (el (el (el (el (el (el (el (el (el (el (el (el (el h)))))))))))))))))),(en (er (el (el (el (el (el (el (el (el (el (el (el (el (el (el (el h))))))))))))))))),isEmpty_iff.mp (er (el (el (el (el (el (el (el (el (el (el (el (el (el (el h))))))))))))))),isEmpty_iff.mp (er (el (el (el (el (el (el (el (el (el (el (el (el (el h)))))))))))))),isNone_iff_eq_none.mp (er (el (el (el (el (el (el (el (el (el (el (el (el h))))))))))))),isNone_iff_eq_none.mp (er (el (el (el (el (el (el (el (el (el (el (el h)))))))))))),(Tu (er (el (el (el (el (el (el (el (el (el (el h)))))))))))).trans (List.map_take ..),
  ar SL▸av (er (el (el (el (el (el (el (el (el (el h)))))))))),(ar SL).trans (au (er (el (el (el (el (el (el (el (el h)))))))))),pD (er (el (el (el (el (el (el (el h)))))))),Jp (er (el (el (el (el (el (el h))))))),λx hx=>?_,λx hx=>?_,λx hx=>?_,?_,av (er (el h))⟩
 ·replace hx:=List.map_take▸hx;exact(mem_map.mp hx).elim λs z=>z.2▸jc ..▸Dk (bj (er (el (el (el (el (el h)))))) s z.1)
 ·exact(mem_map.mp hx).elim λs z=>z.2▸beq_eq_false_iff_ne.mpr λe=>nomatch(dM.mpr (oA (e.trans rfl:SL s=SL [95,95,99,108,97,115,115,100,105,99,116,95,95]))).symm.trans (en (bj (er (el (el (el (el h))))) s z.1))
 ·exact nomatch bj (er (el (el (el h)))) (x,.free) (dK hx)
 ·refine(or_eq_true_iff.mp (er (el (el h)))).elim (λe=>.inl ⟨QF (P:=(· = .none)) (el e) rfl,isEmpty_iff.mp (er e)⟩) λe=>.inr ?_;exact QG (P:=λx=>∃T o items m,x= .ref T/\c.K.lookup T=some o/\o.data= .seq items m/\∀ρ h,c.K.In h->cY ρ h eN items.toList) e λT e=>J1 e λo hT e=>PG (P:=λd=>o.data=d->_) e (λws m e hd=>⟨T,o,ws,m,rfl,hT,hd,λρ h X=>xK X _ _ e⟩) rfl
theorem RT(h:ZF c.K f ns np eN nl body=true):
  ∃fd bd,tT c f (ns.map SL) np eN nl fd bd/\qO ns body fd.scope.names bd=true:=
 J1 h λo hl h=>Vx (P:=λd=>o.data=d->_) h (λfd h hd=>Vc (P:=λb=>fd.body=b->_) h (λbd h hb=>⟨fd,bd,RP hl hd hb h,(er h)⟩) rfl) rfl
theorem u9{α:Type}:∀{l:List (Nat×α)} {n:Nat} {v:α},jW l n=some v->(n,v)∈l
 | [],_,_,h=>by injection h
 |(k,w)::r,n,v,h=>by
  dsimp only[jW]at h;split at h
  ·rename_i q
   injection h with I1;subst I1
   refine(au q)▸?_;exact .head _
  ·exact .tail _ (u9 h)
theorem sQ:∀{l:List ((Nat×Nat)×Nat)} {n m v:Nat},wV l n m=some v->((n,m),v)∈l
 | [],_,_,_,h=>by injection h
 |((a,b),w)::r,n,m,v,h=>by
  dsimp only[wV]at h;split at h
  ·rename_i q
   have q:=bh q;injection h with I1;subst I1
   refine(au q.1)▸(au q.2)▸?_;exact .head _
  ·exact .tail _ (sQ h)
theorem nR{o a}(h:u3 o a=true):o=some (some (.ref a)):=by unfold u3 at h;split at h<;>first|(rw[au h])|injection h
theorem fo{o}(h:pF o=true):o=some none:=by unfold pF at h;split at h<;>first|rfl|injection h
theorem i9{o s}(h:qs o s=true):o=some (some (.builtin s)):=by unfold qs at h;split at h<;>first|(rw[beq_iff_eq.mp h])|injection h
theorem rd{o s}(h:yS o s=true):o=some (.type s):=by unfold yS at h;split at h<;>first|(rw[beq_iff_eq.mp h])|injection h
theorem D8(h:Lu c.K=true):Cp c:=by
 unfold Lu at h;simp only[and_eq_true,all_eq_true]at h;obtain⟨⟨⟨⟨⟨⟨⟨⟨h1,h2⟩,h3⟩,h4⟩,h5⟩,h6⟩,h7⟩,h8⟩,h9⟩:=h;exact⟨λs a m=>nR (h1 (s,a) m),λk=>by cases k;exact fo h2;exact fo h3;exact fo h4;exact fo h5,fo h6,fo h7,fo h8,h9⟩
theorem yR{o}(h:Dh o=true):∃ob,o=some ob/\ob.cls= .type "function" :=by
 unfold Dh at h;split at h<;>first|(exact⟨_,rfl,by rw[beq_iff_eq.mp h]⟩)|injection h
theorem Sz(h:k4B l=true){P:Prop}(k:∀k0 k1 k2 k3 k5,l= [k0,k1,k2,k3,some (.builtin "Exception.__new__"),k5]->P):P:=
 qq (P:=λx=>l=x->P) h (λk0 u_ h=>qq (P:=λx=>l=k0::x->P) h λk1 u_ h=>qq (P:=λx=>l=k0::k1::x->P) h λk2 u_ h=>qq (P:=λx=>l=k0::k1::k2::x->P) h λk3 u_ h=>qq (P:=λx=>l=k0::k1::k2::k3::x->P) h λk4 u_ h=>
  have z:=bh h
  qq (P:=λx=>l=k0::k1::k2::k3::k4::x->P) z.2 λk5 r h e=>k k0 k1 k2 k3 k5 (e.trans (by exact(inj (i9 z.1))▸(isEmpty_iff.mp h)▸rfl))) rfl
theorem Rt(h:cdB d=true){P:Prop}(k:∀br bs N q sn sub ab col,d= .cls ⟨br,bs,[.ref 84,.type "Exception",.type "BaseException",.type "object"],N,q,true,sn,sub,ab,col,false⟩->P):P:=by
 cases d with
 |cls cd=>
  have z:=bh h;have y:=bh z.1;exact k cd.name cd.bases cd.ns cd.qualname cd.slotNames cd.subclasses cd.abstract cd.collection (by exact y.1▸(beq_iff_eq.mp z.2)▸((not_eq_true' _).mp y.2)▸rfl)
 |_=>exact(by injection h)
theorem sg(h:wj o=true){P:Prop}(k:∀br q N bs sn sub ab col dd k0 k1 k2 k3 k5,o=some (excClassObj br q 84 N bs [.type "Exception",.type "BaseException",.type "object"] true sn sub ab col dd k0 k1 k2 k3 k5 "Exception.__new__")->P):P:=by
 cases o with
 |none=>exact(by injection h)
 |some o=>
  have z:=bh h;have y:=bh z.1;refine Rt y.2 λbr bs N q sn sub ab col e=>Sz z.2 λk0 k1 k2 k3 k5 e2=>k br q N bs sn sub ab col o.dict k0 k1 k2 k3 k5 (af some ?_);show Obj.mk o.cls o.dict o.data ⟨o.slots.toList⟩=_;simp only[inj (rd y.1),e,e2]
theorem Sq:∀i j:Nat,i<dH.length->j<dH.length->br i=br j->i=j:=by
 have:∀i:Fin dH.length,∀j:Fin dH.length,fk (dH.getD i []) (dH.getD j [])=true->i=j:=by decide+kernel
 intro i j hi hj e;have:=this ⟨i,hi⟩ ⟨j,hj⟩ (dM.mpr (oA e));exact af Fin.val this
theorem yO(h:me C=true):C=381\/C=664:=by
 unfold me at h;simpa using h
theorem Cz(h:xO n=true):n∈Dy:=by
 unfold xO at h;simp only[or_eq_true,beq_iff_eq,decide_eq_true_eq]at h;have:n<33:=by lia
 have all:∀k:Fin 33,xO k=true->k.1∈Dy:=by decide
 exact all ⟨n,this⟩ (by dsimp only[xO];simp only[or_eq_true,beq_iff_eq,decide_eq_true_eq];exact h)
theorem Mv(h:Hr n=true):n∈JD:=by
 unfold Hr at h;have h:=ay h;have:n<10:=by lia
 have all:∀k:Fin 10,Hr k=true->k.1∈JD:=by decide
 exact all ⟨n,this⟩ (aj h)
theorem MZ(h:HW c.K=true):eO c:=by
 unfold HW at h;simp only[and_eq_true]at h;obtain⟨⟨⟨h1,h2⟩,h3⟩,h4⟩:=h;have aK:∀C,CK c.K C=true->UP c.K C/\∀n∈Dy,findIn c.K (.ref C) (br n)=some none:=λC h=>by
  unfold CK at h;simp only[and_eq_true,all_eq_true]at h;obtain⟨⟨⟨⟨⟨a1,a2⟩,a3⟩,a4⟩,a5⟩,a6⟩:=h;exact⟨⟨i9 a1,i9 a2,a3,fo a4,a5⟩,λn hn=>fo (a6 n hn)⟩
 unfold PD at h3;simp only[and_eq_true,all_eq_true]at h3;obtain⟨⟨⟨⟨b1,b2⟩,b3⟩,b4⟩,b5⟩:=h3;refine sg b4 λYL q N bs sn sub ab col dd k0 k1 k2 k3 k5 e1=>⟨λC hC=>?_,⟨i9 b1,i9 b2,⟨⟨YL,bs,[.ref 84,.type "Exception",.type "BaseException",.type "object"],N,q,true,sn,sub,ab,col,false⟩,?_,rfl,rfl⟩,fo b3,⟨YL,q,N,bs,sn,sub,ab,col,dd,k0,k1,k2,k3,k5,e1⟩⟩,λC n hC hn=>?_,λn hn=>fo (b5 n (Mv hn)),yR h4,Sq⟩
 ·rcases yO hC with rfl|rfl
  ·exact(aK _ h1).1
  ·exact(aK _ h2).1
 ·unfold clsIn;rw[e1]
 ·rcases yO hC with rfl|rfl
  ·exact(aK _ h1).2 n (Cz hn)
  ·exact(aK _ h2).2 n (Cz hn)
theorem Jx(h:zj c.K=true):Ar c aB:=by
 unfold zj at h;rw[all_eq_true]at h;refine⟨λC k f hC hm=>?_⟩;have z:=h ((C,k),f) (sQ hm);simp only[or_eq_true,not_eq_true',and_eq_true]at z;have z:=z.resolve_left (by rw[hC];decide);exact⟨nR z.1.1,rd z.1.2,av z.2⟩
theorem Jg{o a}(h:Jf o a=true):o=some (.val (.ref a)):=by unfold Jf at h;split at h<;>first|(rw[au h])|injection h
theorem I5(h:yL c.K=true):Aq c aB:=by
 unfold yL at h;simp only[and_eq_true]at h;refine⟨λf hf=>?_,i9 h.1.2,h.2⟩;have:f=435:=by
  have e:aB 501 0=some 435:=by decide
  rw[e]at hf;injection hf with I1;subst I1;rfl
 subst this;exact Jg h.1.1
set_option tactic.hygienic true in
theorem Kx(K:cZ c)(T:Lu c.K=true)(O:HW c.K=true)(MO:zj c.K=true)(HO:yL c.K=true)(UI:yS (typeIn c.K (.ref 84)) "type" =true)(RL:exmOne c.K (.ref 84) (.ref 84)=some true)(h:∀p∈lC,DX c.K p=true):vJ c aB prog:=by
 have all:∀f ft,prog f=some ft->keepIn c.K (.ref f)=true/\Ys c.K f ft=true:=λf ft e=>by
  have:=h (f,ft) (u9 e);dsimp only[DX]at this;simpa using this
 refine⟨λf hf=>?_,λf fi e=>?_,λf fi e=>?_,λf np eN nl body e=>?_⟩
 ·obtain⟨ft,e⟩:=isSome_iff_exists.mp hf;exact(all f ft e).1
 ·have z:=(all f _ e).2;cases fi with
  |none=>injection z
  |some i=>
   simp only[Ys,and_eq_true]at z;exact⟨i,rfl,z.1.1.1,z.1.1.2,nR z.1.2,rd z.2⟩
 ·have z:=(all f _ e).2;simp only[Ys,and_eq_true]at z;obtain⟨⟨⟨z1,z2⟩,z3⟩,z4⟩:=z;have:=au z1;refine⟨this,?_⟩;refine sg z2 λYL q N bs sn sub ab col dd k0 k1 k2 k3 k5 e1=>(yR z4).elim λoI y=>?_;rw[e1]at z3;dsimp only[Iv]at z3;split at z3
  ·rename_i a b es ep sl hN
   have z3:=bh z3;refine⟨λk=>k YL q N bs sn sub ab col dd k0 k1 k2 k3 k5 (λx=>nsFind es x) oI e1 (λh X=>⟨_,es,ep,X _ _ hN,rfl,λen hen=>?_,λu_=>rfl⟩) (inj (nR z3.2)) y.1 y.2⟩;have:=bj z3.1 en (Array.mem_toList_iff.mpr hen);unfold D7 at this;split at this
   ·rename_i n t he;exact⟨n,t,he⟩
   ·injection this
  ·injection z3
 ·have z:=(all f _ e).2;obtain⟨fd,bd,FO,ht⟩:=RT (show ZF c.K f (WG f) np eN nl body=true from z);refine⟨_,fd,bd,FO,λn hC hK FL fm hd F OO hh e1 e2=>?_⟩;exact GN ⟨K,MZ O,D8 T,Jx MO,I5 HO,hC,hK⟩ (rd UI) RL body fd.scope.names bd ht FL fm hd ⟨F,hh,λu_=>OO,by rw[e1],e2⟩
theorem Bw{K:Frag}(h:w9 K=true){a:Addr}{o:Obj}(e:K.lookup a=some o):o.cls≠.type "list" :=by
 have z:=bj h (a,o) (dK e);intro q;dsimp only at z;rw[q]at z;revert z;decide
theorem Df{ρ h}:∀{ws:List Value} {l:List Int},IntsAre ws l->cY ρ h (l.map .int) ws
 |_,_,.nil=>.nil _ _
 |_,_,.cons n t r=>.cons (.int n t) (Df r)
theorem join{pr:Program}{w:World}{K:Frag}{mg mb:Str->Option Value}{s:Shared}{fa a:Addr}{ws:List Value}{l:List Int}
  (KX:K.In s.heap) (Tg:s.heap.Ns mainGlobals mg) (Tb:s.heap.Ns builtinsNs mb) (Tn:s.heap.NoLimit) (Tbu:∀x:Str,x≠"__name__" ->mb x=bootBuiltins x) (hfa:mg "law" =some (.ref fa)) (hg:s.gens= #[]) (hL:s.heap.IsList a ws.toArray) (hI:IntsAre ws l) (hl:l.length<=63) (ha:(a==sysModules)=false)
  (T:Lu K=true) (O:HW K=true) (MO:zj K=true) (HO:yL K=true) (UI:yS (typeIn K (.ref 84)) "type" =true) (RL:exmOne K (.ref 84) (.ref 84)=some true) (h:∀p∈lC,DX K p=true) (nl:w9 K=true)
  (law:∃n,n<=100/\aE aB prog n 838 [.ref 0] .none [.jy (l.map .int)] (λv H=>v= .bool true/\H[0]? =some (.jy (l.map .int))) (λu_ u_=>False)):
  codeAny (model pr w) callerA (.call (.ref fa) ⟨[.ref a],[]⟩) (λr s'=>r= .ok (.ret (.bool true))/\(∀b o,s.heap.get? b=some o->s'.heap.get? b=some o)/\s'.os=s.os/\s'.gens= #[]) s:=by
 obtain⟨o,ho,hc,m,hd⟩:=hL;have hmg:nsIn K mainGlobals "law" =some (some (.ref 838)):=by
  have T':Cp {prog:=pr,w:=w,K:=K,bQ:=s.heap,mg:=mg,mb:=mb,g:=s.gens,d:=s.drawn,os:=s.os,so:=(o,s.heap)}:=D8 T;exact T'.glb [108,97,119] 838 (by decide)
 have hf:fa=838:=by
  have:=mg_of KX Tg hmg;replace this:=hfa▸this;cases this;rfl
 subst hf;have ne:∀{b:Addr} {f:Str->Option Value},s.heap.Ns b f->b≠a:=λ{b f} x q=>by
  obtain⟨o2,es,ep,e2,d2,_⟩:=x;rw[q,ho]at e2;injection e2 with I1;subst I1
  rw[hd]at d2;injection d2
 have Z3:∀{b:Addr} {o2:Obj},b≠a->s.heap.get? b=some o2->(s.heap.hide a).get? b=some o2:=λhb e=>(Heap.hide_ne _ hb).trans e;have YM:∀{b:Addr} {f:Str->Option Value},s.heap.Ns b f->(s.heap.hide a).Ns b f:=λ{b f} x=>by
  have hb:=ne x;obtain⟨o2,es,ep,e2,r⟩:=x;exact⟨o2,es,ep,Z3 hb e2,r⟩
 have ye:∀{b:Addr} {o2:Obj},(s.heap.hide a).get? b=some o2->s.heap.get? b=some o2:=λ{b o2} e=>by
  by_cases hb:b=a
  ·rw[hb,Heap.hide_self]at e;injection e
  ·exact(Heap.hide_ne _ hb).symm.trans e
 let c:Cx:={prog:=pr,w:=w,K:=K,bQ:=s.heap.hide a,mg:=mg,mb:=mb,g:=s.gens,d:=s.drawn,os:=s.os,so:=(o,s.heap.hide a)}
 have KC:cZ c:=by
  refine⟨λb o2 e=>Z3 (λq=>?_) (KX b o2 e),YM Tg,YM Tb,Tbu,?_,rfl⟩
  ·have:=KX b o2 e;rw[q,ho]at this;injection this with I1;subst I1
   exact Bw nl e hc
  ·obtain⟨mc,hm,hn⟩:=Tn;exact⟨mc,YM hm,hn⟩
 have PO:vJ c aB prog:=Kx KC T O MO HO UI RL h;have rh:2<a:=by
  obtain⟨mc,hm,_⟩:=Tn;have n0:(0:Nat)≠a:=ne Tb;have n2:(2:Nat)≠a:=ne hm;have n1:¬(a:Nat)=1:=by
   have:=beq_eq_false_iff_ne.mp ha;exact this
  have h1:1<=a:=Nat.pos_of_ne_zero (Ne.symm n0);have h2:2<=a:=Nat.lt_of_le_of_ne h1 (λq=>n1 q.symm);exact Nat.lt_of_le_of_ne h2 n2
 have aax:∃o,(s.heap.hide a).get? 3=some o:=by
  obtain⟨o2,es,ep,e2,_⟩:=YM Tg;exact⟨o2,e2⟩
 have vr:cY [(a,a)] s.heap (l.map .int) ws:=Df hI;have X:St c [] [(a,a)] [.jy (l.map .int)] s:=by
  refine⟨λb o2 e=>ye e,trivial,(λb hb=>by cases hb),⟨rfl,λi j p q hi hj Ut=>?_,λb hb=>?_,λb hb=>?_,λi p ob hi wK=>?_⟩,rfl,rfl,rfl,aax⟩
  ·have a1:=(bo hi).1;have a2:=(bo hj).1;simp at a1 a2;lia
  ·have:b=a:=by simpa[bV]using hb
   rw[this];exact Heap.hide_self _ _
  ·have:b=a:=by simpa[bV]using hb
   simp only[this];exact rh
  ·have a1:=(bo hi).1;have:i=0:=by simp at a1;lia
   subst this;injection hi with I1;subst I1;injection wK with I1;subst I1
   exact .jy ho hc hd (by exact vr) (by rw[ar];exact az hl (by decide)) rfl
 obtain⟨n,hn,Z5⟩:=law;have aok:jm callerA [] .none [(a,a)] n:=by
  refine⟨rfl,?_,?_,.none⟩
  ·show 1+claimMargin+4*n+20<=900;have:claimMargin<=400:=by decide
   lia
  ·show 4+40*n+300<=9000;lia
 refine codeAny_mono (HS KC PO n callerA [] .none _ _ s 838 _ [.ref a] _ _ (λv s'=>v= .bool true/\(∀b o,s.heap.get? b=some o->s'.heap.get? b=some o)/\s'.os=s.os/\s'.gens= #[]) (λu_ u_=>False) aok Z5 X (.cons (.ref (p:=(a,a)) rfl) (.nil _ _)) (λv H1 ρ1 s1 x q X1 g1 r1=>?_) (λe H1 ρ1 s1 p k aP b q X1 g1 i1 i2=>q.elim)) λr s' z=>?_
 ·obtain⟨rfl,q2⟩:=q;cases r1;refine⟨rfl,λb o2 e=>?_,X1.os,X1.gens.trans hg⟩;by_cases hb:b=a
  ·subst hb;simp only[ho]at e;injection e with I1;subst I1
   obtain⟨q3,e3⟩:=g1.b8 0 (b,b) rfl;cases X1.bD.mh 0 _ _ e3 q2 with
   |jy e4=>exact e4
  ·exact X1.c6 b o2 (Z3 hb e)
 ·rcases r with e|(v|_|_|_)
  ·exact z.elim
  ·exact z.elim
  ·exact z.elim
  ·exact z.elim
  ·obtain⟨rfl,z2⟩:=z;exact⟨rfl,z2⟩
section
set_option tactic.hygienic true in
theorem kSel_mem:∀{as:List Nat} {i:Nat} {l:List Obj} {a:Nat} {o:Obj},(a,o)∈Bp as i l->∃j,a=i+j/\l[j]? =some o/\(match o with|⟨_,_,.freed,_⟩=>False|_=>True)
 | [],i,l,_,_,h=>by cases l<;>(unfold Bp at h;cases h)
 |_::_,_,[],_,_,h=>by cases h
 |b::as,i,p::r,a,o,h=>by
  unfold Bp at h;split at h
  ·split at h
   ·obtain⟨j,h1,h2,h3⟩:=kSel_mem h;exact⟨j+1,by omega,h2,h3⟩
   ·rename_i hn
    rcases mem_cons.mp h with h|h
    ·cases h;refine⟨0,rfl,rfl,?_⟩;obtain⟨q1,q2,q3,q4⟩:=p;cases q3<;>first|trivial|exact a9 rfl (hn _ _ _)
    ·obtain⟨j,h1,h2,h3⟩:=kSel_mem h;exact⟨j+1,by omega,h2,h3⟩
  ·obtain⟨j,h1,h2,h3⟩:=kSel_mem h;exact⟨j+1,by omega,h2,h3⟩
theorem kOf_in(h:Heap):(SG h).In h:=by
 intro a o e;obtain⟨j,h1,h2,h3⟩:=kSel_mem (dK e);rw[Nat.zero_add]at h1;subst h1;have:h.objs[a]? =some o:=by rw[<-getElem?_toList];exact h2
 unfold Heap.get?;rw[this];obtain⟨q1,q2,q3,q4⟩:=o;cases q3<;>first|rfl|exact a9 h3 id
noncomputable def SD:Hook:=⟨Bool,λs=>allB (SG s.heap),λu_=>true,λu_ h=>∃K:Frag,K.In h/\allB K=true,λu_ s e=>⟨_,kOf_in s.heap,e⟩,λu_ u_ u_ ⟨K,x,y⟩ k=>⟨K,x.keeps k,y⟩⟩
theorem left_of{p q:Program}{loose:List Str}{Xt:Shared->Bool}{α:Type}{Yf:Shared->α}{Ya:World->α}{N:Nat}{g0:Bool}{H₀:Params->Heap}{Yt:Array GenState}{d₀:Drawn}{k₀:Nat}{m₀:Nat}{ann:Option Value}{M:Nat}
  (open_:∀w:World,(fencedOpening treeTable p w N).map (λs=>(s.heap,s.gens,s.drawn,s.toks))=some (H₀ w.params,Yt,d₀,k₀))
  (size:∀w:World,((H₀ w.params).isNs mainGlobals&&Yt.size==0,(H₀ w.params).objs.size,(H₀ w.params).nsMap mainGlobals "__annotations__")=(true,m₀,ann))
  (D1:∀(w:World) (os:OsState),∃s1,topRun treeTable p w m₀ ann M ⟨H₀ w.params,Yt,d₀,k₀,os⟩ (topStub p)=some s1/\
   (staticsOk (importedModules p.main.body) (H₀ w.params) s1.heap&&namesBound p s1.heap&&gensDone s1&&laidKept (H₀ w.params) s1.heap)=true/\openSeen q loose (importedModules p.main.body) Xt g0 s1=openGood q loose/\Yf s1=Ya w)
  (le:ble M N=true):LeftO p q loose Xt Yf Ya N g0:=λw=>by
 obtain⟨⟨h,gs,d,k,os⟩,e,e'⟩:=map_eq_some_iff.mp (open_ w);obtain⟨rfl,rfl,rfl,rfl⟩:h=H₀ w.params/\gs=Yt/\d=d₀/\k=k₀:=by simpa using e'
 obtain⟨z1,z2,z3⟩:_/\_/\_:=by simpa only[Prod.mk.injEq]using size w
 obtain⟨s1,r,l1,l2,l3⟩:=D1 w os;have r:=topRun_mono (N-M) _ _ _ _ r;rw[show M+(N-M)=N by have:=av le;omega]at r;have t:topFrom treeTable p w N ⟨H₀ w.params,gs,d,k,os⟩=some s1:=by
  unfold topFrom;dsimp only;rw[z1,z2,z3,r];show(match staticsOk (importedModules p.main.body) (H₀ w.params) s1.heap&&namesBound p s1.heap&&gensDone s1&&laidKept (H₀ w.params) s1.heap with|true=>_|false=>_)=_;rw[l1]
 unfold openEnds;rw[e];show(topFrom treeTable p w N _).map _=_;rw[t];exact af some (Prod.ext l2 l3)
theorem run_of{w:World}{p:Program}{m₀ n n1:Nat}{ann:Option Value}{s0 sa:Shared}{st:SharedT}{aA:PySem.Env}{pos pE:Pos}{β:Type}{b:List Stmt}{F:Shared->β}{v:β}
  (pre:topGo treeTable p w m₀ ann 12 s0 (topStub p)=some (sa,⟨denote treeTable (.body b aA),.body b aA,pos,[topFrame pos]⟩))
  (block:segRun treeTable p w m₀ ann 1 1 sa (blockOf b aA (.body b aA) pos [topFrame pos])=some (.next,st.abs,.body b aA,pos))
  (seg:(segRunT treeTable p w m₀ ann 1 n st (piecesOf b aA (.body b aA) pos [topFrame pos])).map (λr=>(r.1,r.2.2.1,r.2.2.2,(topRun treeTable p w m₀ ann n1 r.2.1.abs ⟨doneF .next,.body b aA,pE,[topFrame pos]⟩).map F))=some (.next,.body b aA,pE,some v)):
  ∃sT s1,segRunT treeTable p w m₀ ann 1 n st (piecesOf b aA (.body b aA) pos [topFrame pos])=some (.next,sT,.body b aA,pE)/\topRun treeTable p w m₀ ann n1 sT.abs ⟨doneF .next,.body b aA,pE,[topFrame pos]⟩=some s1/\F s1=v/\
   topRun treeTable p w m₀ ann (Nat.add 12 (Nat.add 1 (Nat.add n n1))) s0 (topStub p)=some s1:=by
 obtain⟨⟨fl,sT,c,p'⟩,e,e'⟩:=map_eq_some_iff.mp seg;simp only[Prod.mk.injEq]at e';obtain⟨rfl,rfl,rfl,e4⟩:=e';obtain⟨s1,e5,e6⟩:=map_eq_some_iff.mp e4;have k:=piece_app (rest:=[]) (segRun_of e) (piece_nil e5);rw[ax]at k;exact⟨sT,s1,e,e5,e6,go_top pre (piece_block block k)⟩
theorem t_run(w:World)(os:OsState):∃s1,topRun treeTable PP w 11 (some (Value.ref 6)) (Nat.add 12 (Nat.add 1 (Nat.add 5202 2))) ⟨boot_heap w.params,Array.mk [],boot_drawn,boot_toks,os⟩ (topStub PP)=some s1/\
  N9 w s1=true/\openSeen qT ph (importedModules PP.main.body) (λu_=>true) true s1=openGood qT ph/\allB (SG s1.heap)=true:=by
 obtain⟨sT,s1,e1,e2,e3,e4⟩:=run_of (congrFun (XH w) os) (congrFun (O2 w) os) (congrFun (t_seg w) os);have g:=congrFun (t_seg2 w) os;have e1':KN w os=some (.next,sT,cT,Tt):=e1;have e2':EZ w sT.abs=some s1:=e2;rw[e1']at g;have g:some ((EZ w sT.abs).map λs=>Hk (SG s.heap))=some (some true):=g;rw[e2']at g;have g:some (some (Hk (SG s1.heap)))=some (some true):=g;exact⟨s1,e4,af Prod.fst e3,af (λz=>z.2.1) e3,and_eq_true_iff.mpr ⟨af (λz=>z.2.2) e3,inj (inj g)⟩⟩
theorem t_left:LeftO PP qT ph (λu_=>true) (Hook.obs SD) (Hook.val SD) 20000:=left_of (TP 20000 (by decide)) TQ t_run (by decide)
end
theorem reads_head{h:Heap}{a:Addr}{xs:List PyData}{as:List Addr}(r:Reads h (.ref a) (.list xs) as):a∈as:=by
 cases r;exact .head _
theorem WD(l:List Int)(hl:l.length<=63):∃n,n<=100/\aE aB prog n 838 [.ref 0] .none [.jy (l.map .int)] (λv H=>v= .bool true/\H[0]? =some (.jy (l.map .int))) (λu_ u_=>False):=
 ⟨0+47,by decide,aN.NR λu_ h=>⟨rfl,h⟩⟩
end aD
end
open PySem PySem.W PyProof.Rows
theorem PySem.Challenge.cw_np0157_01_holds : PySem.Challenge.rw_np0157_01.Holds := by
 refine holds_law aD.Xr λaaS=>?_;refine holds_open (q:=aD.qT) (loose:=aD.ph) (Xt:=λu_=>true) (XP:=λu_ u_=>True) (Yf:=Hook.obs aD.SD) (Ya:=Hook.val aD.SD) (YP:=Hook.says aD.SD) (N:=20000) aD.t_left (Hook.of aD.SD) (Hook.keeps aD.SD) (λu_ u_=>trivial) (λu_ u_ u_ u_ u_=>trivial)
  (by rfl) (by rfl) (by rfl) (λs e=>recFacts_of (by rfl)) (by rfl) aaS (by decide+kernel) ⟨rfl,rfl,rfl,rfl,rfl,by decide+kernel⟩ ?hw ?hc
 case hw=>w_witness2
 intro w s₀ s₁ mg mb G Y fa o pm cd doc dV kV ho hd Up hD hmg hg args vals as aac Z6 hrd hwl hlo;obtain⟨K,KX,hK⟩:=Y;simp only[aD.allB,aD.Q6,aD.Hk,and_eq_true,beq_iff_eq]at hK;obtain⟨⟨⟨⟨⟨⟨⟨k1,k2⟩,k3⟩,k4⟩,k5⟩,k6⟩,k7⟩,k8⟩:=hK;have Z8:=hlo;refine Ground.open G ?_;intro T B D TE TW;have TR:=topRead_of T;clear T B D TE TW
 wrow_args aac Z6 hrd hwl hlo
 refine enter_call ?_;rename IntsAre _ _=>hI;rename Heap.IsList _ _ _=>hL;rename¬_<_=>hlen;rename Reads _ _ _ _=>r0;refine codeAny_mono (aD.join KX TR.g TR.b TR.nolimit TR.builtins hmg hg hL hI (by omega) (Z8 _ (aD.bf (aD.reads_head r0))) k1 k2 k3 k4 k5 k6 (λp hp=>aD.bj k8 p hp) k7 (aD.WD _ (by omega))) (λr s' z=>?_);obtain⟨rfl,z2,z3,z4⟩:=z;refine GoodW.toG ⟨.inl ⟨.bool true,.bool true,[],rfl,λu_=>rfl,.bool _,?_,λu_=>⟨nodup_nil,λu_ h=>nomatch h⟩⟩,z2,z3,z4⟩
 first|kernel_rfl|(with_unfolding_all rfl)|law_fin
