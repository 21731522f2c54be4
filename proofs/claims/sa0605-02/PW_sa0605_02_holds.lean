import PyProof.Rows.All
import Wide.All
import OpenK.AllK
import Wide.FinOn
import PySem.Challenge.RW_sa0605_02
open PySem PySem.W PyProof.Rows
set_option Elab.async false
set_option linter.unusedSimpArgs false
set_option linter.unusedVariables false
set_option genSizeOf false
set_option genInjectivity false
set_option bootstrap.genMatcherCode false
set_option maxRecDepth 10000
namespace Mine
def aC:=@Nat.le_refl
def aH:=@List.length_append
def bj:=@Nat.le_trans
def bk:=@Nat.le_of_eq
def bU:=@Option.some.inj
def cw:=@List.length_cons
def cR:=@Ne.symm
def cT:=@List.length_map
def dw:=@Bool.and_eq_true
def dB:=@List.length_set
def bV:=@Eq.symm
def bZ:=@List.append_assoc
def ce:=@List.append_nil
def cj:=@Nat.zero_le
def cC:=@Nat.le_add_right
def df:=@Nat.ne_of_gt
def dh:=@List.getElem?_append_left
def dt:=@Nat.ne_of_lt
def dA:=@List.mem_singleton
def dM:=@Nat.lt_of_lt_of_le
def dU:=@Nat.add_assoc
def eM:=@List.reverse_cons
def eV:=@List.getElem?_eq_some_iff
def eW:=@List.mem_append
def eX:=@Nat.le_succ
def fm:=@List.mem_cons
def fG:=@Nat.zero_add
def fH:=@Nat.not_lt
def fJ:=@Nat.le_add_left
def fR:=@List.map_cons
def gp:=@List.size_toArray
def gq:=@List.all_eq_true
def gS:=@List.getElem?_append_right
def gT:=@Nat.le_succ_of_le
def iu:=@Nat.sub_self
def iw:=@List.nodup_cons
def ix:=@Nat.lt_of_le_of_lt
def iy:=@List.getElem?_map
def iz:=@Nat.lt_of_succ_lt_succ
def iQ:=@Nat.le_antisymm
def iR:=@List.getElem?_set_ne
def i6:=@Nat.add_le_add
def i7:=@List.length_drop
def jz:=@Nat.succ_pos
def jA:=@List.length_reverse
def jB:=@Nat.lt_succ_self
def jC:=@Nat.add_le_add_left
def ke:=@Eq.trans
def kh:=@Nat.add_comm
def lH:=@List.mem_flatMap
def lI:=@Bool.and_eq_true_iff
def lJ:=@List.getElem?_eq_none_iff
def lK:=@List.map_append
def lL:=@Nat.le_of_succ_le
def mf:=@List.mem_map
def mh:=@Nat.lt_trans
def mi:=@List.flatMap_cons
def mj:=@List.drop_drop
def ml:=@List.head?_drop
def mm:=@Prod.mk.inj
def nZ:=@Nat.lt_irrefl
def n6:=@Nat.le_of_lt
def n7:=@List.not_mem_nil
def n8:=@Int.natCast_pos
def n9:=@Int.natCast_nonneg
def oa:=@List.drop_eq_nil_iff
def pk:=@List.mem_of_getElem?
def pn:=@List.lookup_cons
def po:=@List.nil_append
def pq:=@Int.toNat_natCast
def pt:=@List.zip_cons_cons
def pu:=@List.mem_append_left
def pv:=@List.reverse_nil
def rR:=@List.getElem?_eq_getElem
def rS:=@List.set_set
def rT:=@List.map_nil
def tb:=@Nat.mul_le_mul_right
def tc:=@Nat.succ_le_succ
def td:=@List.cons_append
def te:=@List.map_map
def tf:=@List.mem_range
def ti:=@List.mem_append_right
def wh:=@List.mem_cons_self
def wj:=@Nat.le_of_succ_le_succ
def wm:=@Nat.mul_le_mul_left
def wn:=@List.getElem?_of_mem
def wp:=@List.foldl_cons
def wq:=@Bool.false_ne_true
def ww:=@Bool.false_eq_true
def wy:=@Nat.lt_succ_of_lt
def wz:=@List.length_range'
def zI:=@Option.isSome_iff_exists
def zJ:=@List.nodup_append
def zK:=@Array.length_toList
def zM:=@Int.add_sub_cancel
def zN:=@List.map_reverse
def zO:=@List.length_take
def zQ:=@PySem.F.plainAttrs_str
def zR:=@Nat.le_add_right_of_le
def zT:=@List.set_append_right
def tj:=@Nat.add_le_add_right
def xS:=@List.mem_cons_of_mem
def xT:=@List.getElem?_set_self
def xU:=@List.length_eq_zero_iff
def xV:=@PySem.F.slot_str_split
def xW:=@Nat.add_sub_cancel_left
def xX:=@List.length_take_le'
def xY:=@PySem.F.plainAttrs_list
def xZ:=@List.getElem?_toArray
end Mine
namespace Mine
theorem ff{p:Prop}(h:false=true):p:=by cases h
theorem nn{α:Type}{a:α}{p:Prop}(h:none=some a):p:=by cases h
inductive V where
 |none|bool (b:Bool)|int (i:Int)|str (s:List Nat)|tup (l:List V)|loc (n:Nat)|cm (a b c:Int)|fn (k:Nat)|ro (l:List V)
inductive O where
 |list (l:List V)|dict (es:List (List Nat×V))|inst (c:Nat) (fs:List (Nat×V))
noncomputable abbrev Hp:=List O
noncomputable abbrev Lo:=List (Option V)
inductive ki where|add|sub|mul|fdiv|mod
inductive lV where|eq|ne|lt|le|gt|ge|is|eE|isin|i8
inductive BM where|append|pop|extend|reverse|join|replace|startswith|lstrip|split|get
inductive Pr where|len|abs|int|chr|ord|list|range|min|str
set_option genCtorIdx false in
inductive IK where|int|str|tuple|cls (k:Nat)
set_option genCtorIdx false in
inductive CT where|one (i:Nat)|many (is:List Nat)
set_option genCtorIdx false in
inductive ME where
 |bad
 |lit (v:V)|loc (i:Nat)|glob (v:V)
 |tup (es:List ME)|lst (es:List ME)|dict (es:List ME)
 |attr (e:ME) (a:Nat)|idx (e i:ME)|slice (e lo hi st:ME)
 |bin (op:ki) (a b:ME)|neg (a:ME)|not (a:ME)
 |cmp (op:lV) (a b:ME)|mn (op jX:lV) (a b c:ME)
 |and (es:List ME)|or (es:List ME)|ay (t a b:ME)
 |call (f:ME) (es:List ME)|new (c:Nat) (es:List ME)
 |bp (o:ME) (m:Nat) (es:List ME)|aS (o:ME) (m:BM) (es:List ME)
 |prim (p:Pr) (es:List ME)|isin (e:ME) (k:IK)
 |comp (elt src:ME) (t:CT) (k:Nat) (Vt:List ME)
set_option genCtorIdx false in
inductive Tg where
 |loc (i:Nat)|attr (o:ME) (a:Nat)|idx (o i:ME)|tup (ts:List Tg)
set_option genCtorIdx false in
inductive MS where
 |bad
 |expr (e:ME)|ret (e:ME)|asg (t:Tg) (e:ME)|aug (i:Nat) (op:ki) (e:ME)|lM (o:ME) (a:Nat) (op:ki) (e:ME)
 |ay (t:ME) (b o:List MS)|kj (t:ME) (b:List MS)|for (t:CT) (it:ME) (b:List MS)|brk|cont|rep (i:Nat)
inductive Fl where|next|brk|cont|ret (v:V)
structure FI where
 np:Nat
 ns:Nat
 body:List MS
structure CI where
 init:Nat
 meths:List (Nat×Nat)
structure Pg where
 fns:List FI
 cls:List CI
noncomputable def lim:Nat:=1048576
noncomputable def big:Int:=1152921504606846976
noncomputable def i9{α β:Type}(f:α->Option β):List α->Option (List β)
 |[]=>some []
 |a::r=>match f a with
  |some b=>(match i9 f r with|some bs=>some (b::bs)|Option.none=>Option.none)
  |Option.none=>Option.none
theorem D9{α β:Type}{f}:i9 (α:=α) (β:=β) f ([])=(some []):=rfl
theorem iX{α β:Type}{f a r}:i9 (α:=α) (β:=β) f (a::r)=(match f a with
 |some b=>(match i9 f r with|some bs=>some (b::bs)|Option.none=>Option.none)
 |Option.none=>Option.none):=rfl
noncomputable def bD{α:Type}(k:List Nat):List (List Nat×α)->Option α
 |[]=>none
 |(j,v)::r=>if j==k then some v else bD k r
theorem zU{α:Type}{k}:bD (α:=α) k ([])=(none):=rfl
theorem pA{α:Type}{k j v r}:bD (α:=α) k ((j,v)::r)=(if j==k then some v else bD k r):=rfl
noncomputable def eY{α:Type}(k:List Nat)(v:α):List (List Nat×α)->List (List Nat×α)
 |[]=>[(k,v)]
 |(j,u)::r=>if j==k then(j,v)::r else(j,u)::eY k v r
theorem Ea{α:Type}{k v}:eY (α:=α) k v ([])=([(k,v)]):=rfl
theorem sP{α:Type}{k v j u r}:eY (α:=α) k v ((j,u)::r)=(if j==k then(j,v)::r else(j,u)::eY k v r):=rfl
noncomputable def eg{α:Type}(k:Nat):List (Nat×α)->Option α
 |[]=>none
 |(j,v)::r=>if j==k then some v else eg k r
theorem km{α:Type}{k}:eg (α:=α) k ([])=(none):=rfl
theorem jc{α:Type}{k j v r}:eg (α:=α) k ((j,v)::r)=(if j==k then some v else eg k r):=rfl
noncomputable def putN{α:Type}(k:Nat)(v:α):List (Nat×α)->List (Nat×α)
 |[]=>[(k,v)]
 |(j,u)::r=>if j==k then(j,v)::r else(j,u)::putN k v r
theorem pB{α:Type}{k v}:putN (α:=α) k v ([])=([(k,v)]):=rfl
theorem pC{α:Type}{k v j u r}:putN (α:=α) k v ((j,u)::r)=(if j==k then(j,v)::r else(j,u)::putN k v r):=rfl
noncomputable def gX{β:Type}(a:V)(f:Int->Option β):Option β:=match a with|.int i=>f i|_=>none
noncomputable def mq{β:Type}(a:V)(f:List Nat->Option β):Option β:=match a with|.str s=>f s|_=>none
noncomputable def Qh{β:Type}(a:V)(f:List V->Option β):Option β:=match a with|.tup s=>f s|_=>none
noncomputable def pD{β:Type}(a:V)(f:Nat->Option β):Option β:=match a with|.loc n=>f n|_=>none
noncomputable def jd{β:Type}(H:Hp)(n:Nat)(f:List V->Option β):Option β:=match H[n]? with|some (.list l)=>f l|_=>none
noncomputable def Cn{β:Type}(H:Hp)(n:Nat)(f:List (List Nat×V)->Option β):Option β:=match H[n]? with|some (.dict l)=>f l|_=>none
noncomputable def zV{β:Type}(H:Hp)(n:Nat)(f:Nat->List (Nat×V)->Option β):Option β:=match H[n]? with|some (.inst c l)=>f c l|_=>none
noncomputable def Ga{β:Type}(vs:List V)(f:Option β):Option β:=match vs with|[]=>f|_::_=>none
noncomputable def nL{β:Type}(vs:List V)(f:V->Option β):Option β:=match vs with|[]=>none|a::r=>Ga r (f a)
noncomputable def Qi{β:Type}(vs:List V)(f:V->V->Option β):Option β:=match vs with|[]=>none|a::r=>nL r (f a)
noncomputable def gd{β:Type}(c:Prop)[Decidable c](x:β):Option β:=if c then some x else none
noncomputable def dat(H:Hp):Nat->V->Option PyData
 |0,_=>none
 |n+1,v=>match v with
  |.none=>some .none
  |.bool b=>some (.bool b)
  |.int i=>some (.int i)
  |.str s=>gd (s.all (· < 128)=true) (.str ⟨s.toArray⟩)
  |.tup l=>(i9 (dat H n) l).map .tuple
  |.loc i=>jd H i λl=>(i9 (dat H n) l).map .list
  |_=>none
noncomputable def fS(a:V):Bool:=match a with|.none=>true|_=>false
theorem zW{β:Type}{a:V}{f:Int->Option β}{r:β}(e:gX a f=some r){zg:Prop}(zk:∀ i,(a=.int i)->(f i=some r)->zg):zg:=by
 obtain⟨i,cO,cY⟩:∃ i,a=.int i/\f i=some r:=by
  induction a using V.casesOn <;> first|exact⟨_,rfl,e⟩|exact nn e
 exact zk i cO cY
theorem rU{β:Type}{a:V}{f:List Nat->Option β}{r:β}(e:mq a f=some r){zg:Prop}(zk:∀ i,(a=.str i)->(f i=some r)->zg):zg:=by
 obtain⟨i,cO,cY⟩:∃ i,a=.str i/\f i=some r:=by
  induction a using V.casesOn <;> first|exact⟨_,rfl,e⟩|exact nn e
 exact zk i cO cY
theorem zX{β:Type}{a:V}{f:List V->Option β}{r:β}(e:Qh a f=some r){zg:Prop}(zk:∀ i,(a=.tup i)->(f i=some r)->zg):zg:=by
 obtain⟨i,cO,cY⟩:∃ i,a=.tup i/\f i=some r:=by
  induction a using V.casesOn <;> first|exact⟨_,rfl,e⟩|exact nn e
 exact zk i cO cY
theorem rV{β:Type}{a:V}{f:Nat->Option β}{r:β}(e:pD a f=some r){zg:Prop}(zk:∀ i,(a=.loc i)->(f i=some r)->zg):zg:=by
 obtain⟨i,cO,cY⟩:∃ i,a=.loc i/\f i=some r:=by
  induction a using V.casesOn <;> first|exact⟨_,rfl,e⟩|exact nn e
 exact zk i cO cY
theorem bi{β:Type}{H:Hp}{n:Nat}{f:List V->Option β}{r:β}(e:jd H n f=some r){zg:Prop}(zk:∀ l,(H[n]?=some (.list l))->(f l=some r)->zg):zg:=by
 obtain⟨l,cO,cY⟩:∃ l,H[n]?=some (.list l)/\f l=some r:=by
   unfold jd at e
   generalize H[n]?=o at e ⊢
   induction o with
  |none=>exact nn e
  |some o=>induction o with
    |list l=>exact⟨l,rfl,e⟩
    |_=>exact nn e
 exact zk l cO cY
theorem mr{β:Type}{H:Hp}{n:Nat}{f:List (List Nat×V)->Option β}{r:β}(e:Cn H n f=some r){zg:Prop}(zk:∀ l,(H[n]?=some (.dict l))->(f l=some r)->zg):zg:=by
 obtain⟨l,cO,cY⟩:∃ l,H[n]?=some (.dict l)/\f l=some r:=by
   unfold Cn at e
   generalize H[n]?=o at e ⊢
   induction o with
  |none=>exact nn e
  |some o=>induction o with
    |dict l=>exact⟨l,rfl,e⟩
    |_=>exact nn e
 exact zk l cO cY
theorem rW{β:Type}{H:Hp}{n:Nat}{f:Nat->List (Nat×V)->Option β}{r:β}(e:zV H n f=some r){zg:Prop}(zk:∀ c l,(H[n]?=some (.inst c l))->(f c l=some r)->zg):zg:=by
 obtain⟨c,l,cO,cY⟩:∃ c l,H[n]?=some (.inst c l)/\f c l=some r:=by
   unfold zV at e
   generalize H[n]?=o at e ⊢
   induction o with
  |none=>exact nn e
  |some o=>induction o with
    |inst c l=>exact⟨c,l,rfl,e⟩
    |_=>exact nn e
 exact zk c l cO cY
theorem wA{β:Type}{vs:List V}{f:Option β}{r:β}(e:Ga vs f=some r):vs=[]/\f=some r:=by
  induction vs using List.casesOn with
 |nil=>exact⟨rfl,e⟩
 |cons a l=>exact nn e
theorem rX{β:Type}{vs:List V}{f:V->Option β}{r:β}(e:nL vs f=some r){zg:Prop}(zk:∀ a,(vs=[a])->(f a=some r)->zg):zg:=by
  induction vs using List.casesOn with
 |nil=>exact nn e
 |cons a l=>obtain⟨rfl,e⟩:=wA (vs:=l) e;exact zk a rfl e
theorem Gb{β:Type}{vs:List V}{f:V->Option β}{r:β}(e:nL vs f=some r):∃ a,vs=[a]/\f a=some r:=rX e λa cO cY=>⟨a,cO,cY⟩
theorem zY{β:Type}{vs:List V}{f:V->V->Option β}{r:β}(e:Qi vs f=some r){zg:Prop}(zk:∀ a b,(vs=[a,b])->(f a b=some r)->zg):zg:=by
  induction vs using List.casesOn with
 |nil=>exact nn e
 |cons a l=>obtain⟨b,rfl,e⟩:=Gb (vs:=l) e;exact zk a b rfl e
theorem cU{β:Type}{c:Prop}[Decidable c]{x r:β}(e:gd c x=some r):c/\x=r:=by
 unfold gd at e
 by_cases h:c
 ·rw[if_pos h] at e;exact⟨h,bU e⟩
 ·rw[if_neg h] at e;exact nn e
theorem je{β:Type}{c:Prop}[Decidable c]{x r:β}(e:gd c x=some r){zg:Prop}(zk:c->x=r->zg):zg:=zk (cU e).1 (cU e).2
theorem bB{α β:Type}{o:Option α}{f:α->β}{r:β}(e:o.map f=some r){zg:Prop}(zk:∀ a,(o=some a)->(f a=r)->zg):zg:=by
  induction o with
 |none=>exact nn e
 |some a=>exact zk a rfl (bU e)
theorem mu{a:V}(h:fS a=true):a=.none:=by induction a using V.casesOn <;> first|rfl|exact ff h
noncomputable def pE(H:Hp)(a b:V):Option Bool:=match dat H 8 a with
 |some x=>(match dat H 8 b with|some y=>some (PyData.eqv x y)|none=>none)
 |none=>none
theorem rY{H:Hp}{a b:V}{r:Bool}(e:pE H a b=some r){zg:Prop}(zk:∀ x y,(dat H 8 a=some x)->(dat H 8 b=some y)->(PyData.eqv x y=r)->zg):zg:=by
 obtain⟨x,y,cO,cY,iJ⟩:∃ x y,dat H 8 a=some x/\dat H 8 b=some y/\PyData.eqv x y=r:=by
   unfold pE at e
   cases h:dat H 8 a with
  |none=>rw[h] at e;exact nn e
  |some x=>
     rw[h] at e
     cases h':dat H 8 b with
    |none=>rw[h'] at e;exact nn e
    |some y=>rw[h'] at e;exact⟨x,y,rfl,rfl,bU e⟩
 exact zk x y cO cY iJ
noncomputable def Eb(H:Hp)(a b:V):Option (Option Bool):=match a with
 |.str s=>(match b with|.str t=>some (some (s==t))|_=>none)
 |.int i=>(match b with|.int j=>some (some (i==j))|_=>none)
 |.tup _=>(match b with|.str _=>some (some false)|_=>none)
 |_=>none
noncomputable def Qj(H:Hp)(a b:V):Option Bool:=match Eb H a b with
 |some r=>r
 |none=>pE H a b
noncomputable def gz:List Nat->List Nat->Bool
 |[],_=>true
 |_::_,[]=>false
 |a::r,b::t=>a==b&&gz r t
theorem Gc{gA}:gz ([]) gA=(true):=rfl
theorem Gd{gA ya}:gz (gA::ya) ([])=(false):=rfl
theorem qH{a r b t}:gz (a::r) (b::t)=(a==b&&gz r t):=rfl
noncomputable def strsOf:List V->Option (List (List Nat))
 |[]=>some []
 |.str s::r=>(match strsOf r with|some l=>some (s::l)|none=>none)
 |_=>none
theorem wB{s r}:strsOf (.str s::r)=((match strsOf r with|some l=>some (s::l)|none=>none)):=rfl
noncomputable def jf{β:Type}(l:List V)(f:List (List Nat)->Option β):Option β:=match strsOf l with|some ss=>f ss|none=>none
theorem lN{β:Type}{l:List V}{f:List (List Nat)->Option β}{r:β}(e:jf l f=some r){zg:Prop}(zk:∀ ss,(strsOf l=some ss)->(f ss=some r)->zg):zg:=by
 obtain⟨ss,cO,cY⟩:∃ ss,strsOf l=some ss/\f ss=some r:=by
   unfold jf at e
   cases h:strsOf l with
  |none=>rw[h] at e;exact nn e
  |some ss=>rw[h] at e;exact⟨ss,rfl,e⟩
 exact zk ss cO cY
noncomputable def IL(H:Hp)(a b:V):Option Bool:=mq a λs=>match b with
 |.str t=>(match s with|[c]=>some (t.contains c)|_=>none)
 |.tup l=>jf l λss=>some (ss.any (·==s))
 |.loc n=>jd H n λl=>jf l λss=>some (ss.any (·==s))
 |_=>none
noncomputable def intsOf:List V->Option (List Int)
 |[]=>some []
 |.int i::r=>(match intsOf r with|some l=>some (i::l)|none=>none)
 |_=>none
theorem Ge{i r}:intsOf (.int i::r)=((match intsOf r with|some l=>some (i::l)|none=>none)):=rfl
noncomputable def ltV(H:Hp)(a b:V):Option Bool:=match a with
 |.int i=>gX b λj=>some (decide (i<j))
 |_=>none
noncomputable def Ec(a b:V):Option Bool:=mq a λs=>mq b λt=>some (!(s==t))
noncomputable def Qk(H:Hp)(a b:V):Option Bool:=match Ec a b with
 |some r=>some r
 |none=>(pE H a b).map (!·)
noncomputable def tm(a b:V):Option Bool:=if fS b then some (fS a) else none
noncomputable def cE(H:Hp)(op:lV)(a b:V):Option Bool:=match op with
 |.eq=>Qj H a b
 |.ne=>Qk H a b
 |.lt=>ltV H a b
 |.le=>gX a λi=>gX b λj=>some (decide (i<=j))
 |.gt=>gX a λi=>gX b λj=>some (decide (j<i))
 |.ge=>none
 |.is=>tm a b
 |.eE=>(tm a b).map (!·)
 |.isin=>IL H a b
 |.i8=>(IL H a b).map (!·)
noncomputable def ON(a b:V)(H:Hp):Option (V×Hp):=match a with
 |.int i=>gX b λj=>some (.int (i+j),H)
 |.str s=>mq b λt=>gd (s.length+t.length<=lim) (.str (s++t),H)
 |.tup s=>Qh b λt=>gd (s.length+t.length<=lim) (.tup (s++t),H)
 |.loc i=>pD b λj=>jd H i λl=>jd H j λm=>gd (l.length+m.length<=lim) (.loc H.length,H++[.list (l++m)])
 |_=>none
noncomputable def OO(a b:V)(H:Hp):Option (V×Hp):=match a with
 |.int i=>gX b λj=>gd (i.natAbs<1152921504606846976/\j.natAbs<1152921504606846976) (.int (i*j),H)
 |_=>none
noncomputable def tn(op:ki)(a b:V)(H:Hp):Option (V×Hp):=match op with
 |.add=>ON a b H
 |.sub=>gX a λi=>gX b λj=>some (.int (i-j),H)
 |.mul=>OO a b H
 |.fdiv=>gX a λi=>gX b λj=>gd (0<j/\i.natAbs<1152921504606846976/\j<1152921504606846976) (.int (i / j),H)
 |.mod=>gX a λi=>gX b λj=>gd (0<j) (.int (i % j),H)
noncomputable def lO(op:ki)(a b:V):Option V:=gX a λi=>gX b λj=>match op with
 |.add=>some (.int (i+j))
 |.sub=>some (.int (i-j))
 |.fdiv=>gd (0<j/\i.natAbs<1152921504606846976/\j<1152921504606846976) (.int (i / j))
 |_=>none
noncomputable def fK{α:Type}(l:List α)(i:Int):Option α:=if 0<=i then l[i.toNat]? else none
noncomputable def jg(H:Hp)(a i:V):Option V:=match a with
 |.tup l=>gX i (fK l)
 |.str s=>gX i λi=>(fK s i).map λc=>.str [c]
 |.loc n=>(match i with
  |.int i=>jd H n λl=>fK l i
  |.str k=>Cn H n (bD k)
  |_=>none)
 |_=>none
noncomputable def qI{β:Type}(a:V)(x:Option β):Option β:=if fS a then x else none
theorem jD{β:Type}{a:V}{x:Option β}{r:β}(e:qI a x=some r):a=.none/\x=some r:=by
  unfold qI at e
  cases h:fS a with
 |true=>rw[h] at e;exact⟨mu h,e⟩
 |false=>rw[h] at e;exact nn e
noncomputable def Ed{α:Type}(l:List α)(lo hi st:V):Option (List α):=qI lo (match hi with
 |.none=>gX st λk=>gd (k=-1) l.reverse
 |.int j=>(match st with
  |.none=>gd (0<=j) (l.take j.toNat)
  |.int k=>gd (j=0/\k=-1) (l.drop 1).reverse
  |_=>none)
 |_=>none)
noncomputable def OP{β:Type}(v:V)(f:Nat->Option β):Option β:=match v with
 |.none=>f 0
 |.int i=>if 0<=i then f i.toNat else none
 |_=>none
noncomputable def IM{β:Type}(v:V)(f:Nat->β)(d:β):Option β:=match v with
 |.none=>some d
 |.int j=>gd (0<=j) (f j.toNat)
 |_=>none
noncomputable def Ee{α:Type}(l:List α)(lo hi st:V):Option (List α):=qI st (OP lo λi=>IM hi (λj=>(l.take j).drop i) (l.drop i))
noncomputable def jE(a lo hi st:V)(H:Hp):Option (V×Hp):=match a with
 |.str s=>(Ee s lo hi st).map λt=>(.str t,H)
 |.ro l=>qI lo (qI st (gX hi λj=>gd (0<=j) (.loc H.length,H++[.list (l.take j.toNat)])))
 |.loc n=>jd H n λl=>(Ed l lo hi st).map λt=>(.loc H.length,H++[.list t])
 |_=>none
noncomputable def Vu:V->Option Nat
 |.int _=>some 0
 |.bool _=>some 1
 |.none=>some 2
 |.str _=>some 3
 |.tup _=>some 4
 |_=>none
noncomputable def IN(n:Nat):IK->Option Bool
 |.int=>some (decide (n<2))
 |.str=>some (n==3)
 |.tuple=>some (n==4)
 |.cls _=>if n==0 || n==3 then some false else none
noncomputable def IP(v:V)(k:IK):Option Bool:=match Vu v with
 |some n=>IN n k
 |none=>none
noncomputable def eZ(a b _c:Int):Nat:=(b-a).toNat
noncomputable def rZ(a c:Int):Nat->List Int
 |0=>[]
 |n+1=>a::rZ (a+c) c n
theorem Eg{a c n}:rZ a c (n+1)=(a::rZ (a+c) c n):=rfl
noncomputable def jF:Int->List Int->Int
 |m,[]=>m
 |m,a::r=>jF (if a<m then a else m) r
noncomputable def Eh(a:V)(H:Hp):Option Nat:=match a with
 |.str s=>some s.length
 |.tup s=>some s.length
 |.loc n=>jd H n λl=>some l.length
 |_=>none
noncomputable def OQ(a:V):Option Int:=match a with
 |.int i=>some i
 |.bool b=>some (if b then 1 else 0)
 |_=>none
noncomputable def qJ(a:V)(H:Hp):Option (List V):=match a with
 |.tup l=>some l
 |.cm a b c=>gd (eZ a b c<=1024/\a.natAbs<1048576/\b.natAbs<1048576/\c=1) ((rZ a c (eZ a b c)).map .int)
 |_=>none
noncomputable def Ei(vs:List V):Option V:=match vs with
 |[]=>none
 |x::r=>gX x λa=>match r with
  |[]=>gd (a.natAbs<1048576) (.cm 0 a 1)
  |y::r=>gX y λb=>Ga r (gd (a.natAbs<1048576/\b.natAbs<1048576) (.cm a b 1))
noncomputable def Ej(H:Hp)(n:Nat):Option V:=jd H n λl=>(match intsOf l with|some (a::r)=>some (.int (jF a r))|_=>none)
noncomputable def gE(p:Pr)(vs:List V)(H:Hp):Option (V×Hp):=match p with
 |.len=>nL vs λa=>(Eh a H).map λ(n:Nat)=>(V.int (n:Int),H)
 |.abs=>nL vs λa=>gX a λi=>some (.int i.natAbs,H)
 |.int=>nL vs λa=>(OQ a).map λn=>(.int n,H)
 |.chr=>nL vs λa=>gX a λi=>gd (0<=i/\i<128) (.str [i.toNat],H)
 |.ord=>none
 |.list=>nL vs λa=>(qJ a H).map λl=>(.loc H.length,H++[.list l])
 |.range=>(Ei vs).map λv=>(v,H)
 |.min=>nL vs λa=>pD a λn=>(Ej H n).map λv=>(v,H)
 |.str=>none
noncomputable def jG:List (List Nat)->List Nat
 |[]=>[]
 |s::r=>s++jG r
theorem Mi :jG ([])=([]):=rfl
theorem sQ{s r}:jG (s::r)=(s++jG r):=rfl
noncomputable def ez(cs:List Nat):List Nat->List Nat
 |[]=>[]
 |c::r=>if cs.contains c then ez cs r else c::r
noncomputable def d7:List Nat:=[97,98,40,41]
noncomputable def gY:List (List Nat):=[[97],[98],[97,98],[41]]
noncomputable def b9(s:List Nat):Bool:=decide (s.length<=3)&&s.all d7.contains
noncomputable def gF:Nat->List (List Nat)
 |0=>[[]]
 |n+1=>[]::d7.flatMap λc=>(gF n).map (c::·)
theorem Co(s:List Nat):∀{n:Nat},s.length<=n->s.all d7.contains=true->s∈gF n:=by
  induction s with
 |nil=>intro n _ _;induction n using Nat.casesOn with
   |zero=>exact wh
   |succ n=>exact wh
 |cons c r ih=>
    intro n h1 h2
    induction n using Nat.casesOn with
   |zero=>exact absurd h1 (Nat.not_succ_le_zero _)
   |succ n=>
     rw[List.all_cons,dw] at h2
     exact xS _ (lH.mpr ⟨c,List.contains_iff_mem.mp h2.1,mf.mpr ⟨r,ih (wj h1) h2.2,rfl⟩⟩)
theorem gf{s:List Nat}(h:b9 s=true):s∈gF 3:=Co s (of_decide_eq_true (dw _ _▸h:_/\_).1) (dw _ _▸h:_/\_).2
noncomputable def d8(c:Nat):List Nat->List (List Nat)
 |[]=>[[]]
 |d::r=>if d==c then []::d8 c r else(match d8 c r with|w::ws=>(d::w)::ws|[]=>[[d]])
noncomputable def iS:List (List Nat×List Nat):=[([],[]),([40],[40]),([41],[41]),([40,40],[40,40]),([40,41],[]),([41,40],[41,40]),([41,41],[41,41]),
 ([40,40,40],[40,40,40]),([40,40,41],[40]),([40,41,40],[40]),([40,41,41],[41]),([41,40,40],[41,40,40]),([41,40,41],[41]),([41,41,40],[41,41,40]),([41,41,41],[41,41,41])]
noncomputable def yb(H:Hp)(n:Nat):Option V:=jd H n λl=>jf l λss=>gd ((jG ss).length<=lim) (.str (jG ss))
noncomputable def qK(m:BM)(o:V)(vs:List V)(H:Hp):Option (V×Hp):=match m with
 |.append=>pD o λn=>nL vs λv=>jd H n λl=>gd (l.length<lim) (.none,H.set n (.list (l++[v])))
 |.pop=>pD o λn=>Ga vs (jd H n λl=>(match l.getLast? with|some v=>some (v,H.set n (.list l.dropLast))|none=>none))
 |.extend=>pD o λn=>nL vs λa=>pD a λk=>jd H n λl=>jd H k λm=>gd (n≠k/\l.length+m.length<lim) (.none,H.set n (.list (l++m)))
 |.reverse=>pD o λn=>Ga vs (jd H n λl=>some (.none,H.set n (.list l.reverse)))
 |.join=>mq o λs=>nL vs λa=>pD a λn=>(match s with|[]=>(yb H n).map λv=>(v,H)|_::_=>none)
 |.replace=>none
 |.startswith=>mq o λs=>nL vs λa=>mq a λt=>some (.bool (gz t s),H)
 |.lstrip=>mq o λs=>nL vs λa=>mq a λcs=>gd (b9 s=true/\cs∈gY) (.str (ez cs s),H)
 |.split=>mq o λs=>nL vs λa=>mq a λt=>(match t with|[c]=>gd (b9 s=true/\c∈d7) (.loc H.length,H++[.list ((d8 c s).map .str)])|_=>none)
 |.get=>pD o λn=>Qi vs λa d=>mq a λk=>Cn H n λes=>some ((bD k es).getD d,H)
noncomputable def zZ(m:BM)(o:V)(H:Hp):Bool:=match o with
 |.str _=>(match m with|.join=>true|.replace=>true|.startswith=>true|.lstrip=>true|.split=>true|_=>false)
 |.loc n=>(match H[n]? with
  |some (.list _)=>(match m with|.append=>true|.pop=>true|.extend=>true|.reverse=>true|_=>false)
  |some (.dict _)=>(match m with|.get=>true|_=>false)
  |_=>false)
 |_=>false
noncomputable def lP(H:Hp)(o:V)(a:Nat):Option V:=pD o λn=>zV H n λ_ fs=>eg a fs
noncomputable def kn(H:Hp)(o:V)(a:Nat)(v:V):Option Hp:=pD o λn=>zV H n λc fs=>some (H.set n (.inst c (putN a v fs)))
noncomputable def tq(H:Hp)(o i v:V):Option Hp:=pD o λn=>match i with
 |.int i=>jd H n λl=>gd (0<=i/\i.toNat<l.length) (H.set n (.list (l.set i.toNat v)))
 |.str k=>Cn H n λes=>gd (es.length<1024) (H.set n (.dict (eY k v es)))
 |_=>none
set_option genCtorIdx false in
inductive It where
 |seq (l:List V)|lst (n i:Nat)|cm (a c:Int) (k:Nat)
noncomputable def gg(H:Hp)(v:V):Option It:=match v with
 |.tup l=>some (.seq l)
 |.str s=>gd (s.all (· < 128)=true) (.seq (s.map λc=>.str [c]))
 |.loc n=>jd H n λ_=>some (.lst n 0)
 |.cm a b c=>gd (a.natAbs<1048576/\b.natAbs<1048576/\c=1) (.cm a c (eZ a b c))
 |_=>none
noncomputable def dz(H:Hp):It->Option (Option (V×It))
 |.seq []=>some none
 |.seq (v::r)=>some (some (v,.seq r))
 |.lst n i=>jd H n λl=>(match l[i]? with|some v=>some (some (v,.lst n (i+1)))|none=>some none)
 |.cm _ _ 0=>some none
 |.cm a c (k+1)=>some (some (.int a,.cm (a+c) c k))
theorem z0{H n i}:dz H (.lst n i)=(jd H n λl=>(match l[i]? with|some v=>some (some (v,.lst n (i+1)))|none=>some none)):=rfl
noncomputable def iA:List Nat->List V->Lo->Option Lo
 |[],[],l=>some l
 |i::is,v::vs,l=>iA is vs (l.set i (some v))
 |_,_,_=>none
theorem oy{l}:iA ([]) ([]) l=(some l):=rfl
theorem oz{i is v vs l}:iA (i::is) (v::vs) l=(iA is vs (l.set i (some v))):=rfl
noncomputable def dX(t:CT)(v:V)(l:Lo):Option Lo:=match t with
 |.one i=>some (l.set i (some v))
 |.many is=>(match v with|.tup vs=>iA is vs l|_=>none)
noncomputable def br{α β:Type}(m:Option (α×Hp))(f:α->Hp->Option β):Option β:=match m with
 |some (a,H)=>f a H
 |none=>none
noncomputable abbrev bX:=Nat->List V->Hp->Option (V×Hp)
noncomputable def cP(cond:Lo->Hp->Option (Bool×Hp))(elt:Lo->Hp->Option (V×Hp))(t:CT)(l:Lo):Nat->It->List V->Hp->Option (List V×Hp)
 |0,_,_,_=>none
 |n+1,it,acc,H=>match dz H it with
  |none=>none
  |some none=>some (acc.reverse,H)
  |some (some (v,et))=>(match dX t v l with
   |none=>none
   |some l'=>br (cond l' H) λb H'=>if b then br (elt l' H') λr Ql=>cP cond elt t l n et (r::acc) Ql else cP cond elt t l n et acc H')
theorem IQ{cond elt t l gA ya Vv}:cP cond elt t l 0 gA ya Vv=(none):=rfl
theorem mw{cond elt t l n it acc H}:cP cond elt t l (n+1) it acc H=(match dz H it with
 |none=>none
 |some none=>some (acc.reverse,H)
 |some (some (v,et))=>(match dX t v l with
  |none=>none
  |some l'=>br (cond l' H) λb H'=>if b then br (elt l' H') λr Ql=>cP cond elt t l n et (r::acc) Ql else cP cond elt t l n et acc H')):=rfl
section
variable (P:Pg)(call:bX)
mutual
noncomputable def av:ME->Lo->Hp->Option (V×Hp)
 |.bad,_,_=>none
 |.lit v,_,H=>some (v,H)
 |.loc i,l,H=>(match l[i]? with|some (some v)=>some (v,H)|_=>none)
 |.glob v,_,H=>some (v,H)
 |.tup es,l,H=>br (ei es l H) λvs H=>some (.tup vs,H)
 |.lst es,l,H=>br (ei es l H) λvs H=>some (.loc H.length,H++[.list vs])
 |.dict es,l,H=>br (jx es l H) λes H=>some (.loc H.length,H++[.dict es])
 |.attr e a,l,H=>br (av e l H) λo H=>(match lP H o a with|some v=>some (v,H)|none=>none)
 |.idx e i,l,H=>br (av e l H) λo H=>br (av i l H) λi H=>(match jg H o i with|some v=>some (v,H)|none=>none)
 |.slice e lo hi st,l,H=>br (av e l H) λo H=>br (av lo l H) λlo H=>br (av hi l H) λhi H=>br (av st l H) λst H=>jE o lo hi st H
 |.bin op a b,l,H=>br (av a l H) λa H=>br (av b l H) λb H=>tn op a b H
 |.neg a,l,H=>br (av a l H) λa H=>(match a with|.int i=>some (.int (-i),H)|_=>none)
 |.not a,l,H=>br (av a l H) λa H=>(match a with|.bool b=>some (.bool (!b),H)|_=>none)
 |.cmp op a b,l,H=>br (av a l H) λa H=>br (av b l H) λb H=>(match cE H op a b with|some r=>some (.bool r,H)|none=>none)
 |.mn op jX a b c,l,H=>br (av a l H) λa H=>br (av b l H) λb H=>(match cE H op a b with
  |some true=>br (av c l H) λc H=>(match cE H jX b c with|some r=>some (.bool r,H)|none=>none)
  |some false=>some (.bool false,H)
  |none=>none)
 |.and es,l,H=>jY es l H
 |.or es,l,H=>pF es l H
 |.ay t a b,l,H=>br (av t l H) λt H=>(match t with|.bool true=>av a l H|.bool false=>av b l H|_=>none)
 |.call f es,l,H=>br (av f l H) λf H=>br (ei es l H) λvs H=>(match f with|.fn k=>call k vs H|_=>none)
 |.new c es,l,H=>br (ei es l H) λvs H=>(match P.cls[c]? with
  |some ci=>br (call ci.init (.loc H.length::vs) (H++[.inst c []])) λr H'=>(match r with|.none=>some (.loc H.length,H')|_=>none)
  |none=>none)
 |.bp o m es,l,H=>br (av o l H) λo H=>(match o with
  |.loc n=>(match H[n]? with
   |some (.inst c _)=>(match P.cls[c]? with
    |some ci=>(match eg m ci.meths with
      |some k=>br (ei es l H) λvs H=>call k (o::vs) H
      |none=>none)
    |none=>none)
   |_=>none)
  |_=>none)
 |.aS o m es,l,H=>br (av o l H) λo H=>if zZ m o H then br (ei es l H) λvs H=>qK m o vs H else none
 |.prim p es,l,H=>br (ei es l H) λvs H=>gE p vs H
 |.isin e k,l,H=>br (av e l H) λv H=>(match IP v k with|some b=>some (.bool b,H)|none=>none)
 |.comp elt src t k cs,l,H=>br (av src l H) λs H=>(match gg H s with
  |some it=>br (cP (λl H=>jy cs l H) (λl H=>av elt l H) t (l++List.replicate k none) 1048576 it [] H) λvs H=>
     if vs.length<=lim then some (.loc H.length,H++[.list vs]) else none
  |none=>none)
noncomputable def ei:List ME->Lo->Hp->Option (List V×Hp)
 |[],_,H=>some ([],H)
 |e::r,l,H=>br (av e l H) λv H=>br (ei r l H) λvs H=>some (v::vs,H)
noncomputable def jx:List ME->Lo->Hp->Option (List (List Nat×V)×Hp)
 |[],_,H=>some ([],H)
 |[_],_,_=>none
 |k::v::r,l,H=>br (av k l H) λk H=>br (av v l H) λv H=>br (jx r l H) λes H=>(match k with
  |.str s=>if(bD s es).isNone then some ((s,v)::es,H) else none
  |_=>none)
noncomputable def jY:List ME->Lo->Hp->Option (V×Hp)
 |[],_,H=>some (.bool true,H)
 |e::r,l,H=>br (av e l H) λv H=>(match v with|.bool true=>jY r l H|.bool false=>some (.bool false,H)|_=>none)
noncomputable def pF:List ME->Lo->Hp->Option (V×Hp)
 |[],_,H=>some (.bool false,H)
 |e::r,l,H=>br (av e l H) λv H=>(match v with|.bool false=>pF r l H|.bool true=>some (.bool true,H)|_=>none)
noncomputable def jy:List ME->Lo->Hp->Option (Bool×Hp)
 |[],_,H=>some (true,H)
 |e::r,l,H=>br (av e l H) λv H=>(match v with|.bool true=>jy r l H|.bool false=>some (false,H)|_=>none)
end
theorem Qm{gA H}:jy P call ([]) gA H=(some (true,H)):=rfl
theorem Qn{e r l H}:jy P call (e::r) l H=(br (av P call e l H) λv H=>(match v with|.bool true=>jy P call r l H|.bool false=>some (false,H)|_=>none)):=rfl
theorem Ek{gA H}:pF P call ([]) gA H=(some (.bool false,H)):=rfl
theorem El{e r l H}:pF P call (e::r) l H=(br (av P call e l H) λv H=>(match v with|.bool false=>pF P call r l H|.bool true=>some (.bool true,H)|_=>none)):=rfl
theorem tu{gA H}:jY P call ([]) gA H=(some (.bool true,H)):=rfl
theorem tw{e r l H}:jY P call (e::r) l H=(br (av P call e l H) λv H=>(match v with|.bool true=>jY P call r l H|.bool false=>some (.bool false,H)|_=>none)):=rfl
theorem IS{gA H}:ei P call ([]) gA H=(some ([],H)):=rfl
theorem IT{e r l H}:ei P call (e::r) l H=(br (av P call e l H) λv H=>br (ei P call r l H) λvs H=>some (v::vs,H)):=rfl
end
noncomputable def z3{β:Type}(m:Option (Lo×Hp))(f:Lo->Hp->Option β):Option β:=match m with
 |some (l,H)=>f l H
 |none=>none
noncomputable def jH(H:Hp)(v:V):Option (List V):=match v with
 |.tup vs=>some vs
 |.loc n=>jd H n some
 |_=>none
section
variable (ev:ME->Lo->Hp->Option (V×Hp))
mutual
noncomputable def fc:Tg->V->Lo->Hp->Option (Lo×Hp)
 |.loc i,v,l,H=>some (l.set i (some v),H)
 |.attr o a,v,l,H=>br (ev o l H) λo H=>(match kn H o a v with|some H=>some (l,H)|none=>none)
 |.idx o i,v,l,H=>br (ev o l H) λo H=>br (ev i l H) λi H=>(match tq H o i v with|some H=>some (l,H)|none=>none)
 |.tup ts,v,l,H=>(match jH H v with|some vs=>dN ts vs l H|none=>none)
noncomputable def dN:List Tg->List V->Lo->Hp->Option (Lo×Hp)
 |[],[],l,H=>some (l,H)
 |t::ts,v::vs,l,H=>z3 (fc t v l H) λl H=>dN ts vs l H
 |_,_,_,_=>none
end
theorem Em{i v l H}:fc ev (.loc i) v l H=(some (l.set i (some v),H)):=rfl
theorem Mj{ts v l H}:fc ev (.tup ts) v l H=((match jH H v with|some vs=>dN ev ts vs l H|none=>none)):=rfl
theorem z4{l H}:dN ev ([]) ([]) l H=(some (l,H)):=rfl
theorem pG{t ts v vs l H}:dN ev (t::ts) (v::vs) l H=(z3 (fc ev t v l H) λl H=>dN ev ts vs l H):=rfl
end
noncomputable abbrev SR:=Option (Fl×Lo×Hp)
noncomputable def dj(t:Lo->Hp->Option (V×Hp))(b:Lo->Hp->SR):Nat->Lo->Hp->SR
 |0,_,_=>none
 |n+1,l,H=>br (t l H) λv H=>(match v with
  |.bool false=>some (.next,l,H)
  |.bool true=>(match b l H with
   |some (.next,l,H)=>dj t b n l H
   |some (.cont,l,H)=>dj t b n l H
   |some (.brk,l,H)=>some (.next,l,H)
   |some (.ret v,l,H)=>some (.ret v,l,H)
   |none=>none)
  |_=>none)
theorem ng{t b n l H}:dj t b (n+1) l H=(br (t l H) λv H=>(match v with
 |.bool false=>some (.next,l,H)
 |.bool true=>(match b l H with
  |some (.next,l,H)=>dj t b n l H
  |some (.cont,l,H)=>dj t b n l H
  |some (.brk,l,H)=>some (.next,l,H)
  |some (.ret v,l,H)=>some (.ret v,l,H)
  |none=>none)
 |_=>none)):=rfl
noncomputable def dF(t:CT)(b:Lo->Hp->SR):Nat->It->Lo->Hp->SR
 |0,_,_,_=>none
 |n+1,it,l,H=>match dz H it with
  |none=>none
  |some none=>some (.next,l,H)
  |some (some (v,et))=>(match dX t v l with
   |none=>none
   |some l=>(match b l H with
    |some (.next,l,H)=>dF t b n et l H
    |some (.cont,l,H)=>dF t b n et l H
    |some (.brk,l,H)=>some (.next,l,H)
    |some (.ret v,l,H)=>some (.ret v,l,H)
    |none=>none))
theorem pH{t b n it l H}:dF t b (n+1) it l H=(match dz H it with
 |none=>none
 |some none=>some (.next,l,H)
 |some (some (v,et))=>(match dX t v l with
  |none=>none
  |some l=>(match b l H with
   |some (.next,l,H)=>dF t b n et l H
   |some (.cont,l,H)=>dF t b n et l H
   |some (.brk,l,H)=>some (.next,l,H)
   |some (.ret v,l,H)=>some (.ret v,l,H)
   |none=>none))):=rfl
section
variable (P:Pg)(call:bX)
mutual
noncomputable def dD:MS->Lo->Hp->SR
 |.bad,_,_=>none
 |.expr e,l,H=>br (av P call e l H) λ_ H=>some (.next,l,H)
 |.ret e,l,H=>br (av P call e l H) λv H=>some (.ret v,l,H)
 |.asg t e,l,H=>br (av P call e l H) λv H=>z3 (fc (av P call) t v l H) λl H=>some (.next,l,H)
 |.aug i op e,l,H=>(match l[i]? with
  |some (some a)=>br (av P call e l H) λb H=>(match lO op a b with|some r=>some (.next,l.set i (some r),H)|none=>none)
  |_=>none)
 |.lM o a op e,l,H=>br (av P call o l H) λo H=>(match lP H o a with
  |some x=>br (av P call e l H) λb H=>(match lO op x b with|some r=>(match kn H o a r with|some H=>some (.next,l,H)|none=>none)|none=>none)
  |none=>none)
 |.ay t b o,l,H=>br (av P call t l H) λv H=>(match v with|.bool true=>aQ b l H|.bool false=>aQ o l H|_=>none)
 |.kj t b,l,H=>dj (av P call t) (λl H=>aQ b l H) 1048576 l H
 |.for t e b,l,H=>br (av P call e l H) λv H=>(match gg H v with
  |some it=>dF t (λl H=>aQ b l H) 1048576 it l H
  |none=>none)
 |.brk,l,H=>some (.brk,l,H)
 |.cont,l,H=>some (.cont,l,H)
 |.rep i,l,H=>(match l[i]? with
  |some (some a)=>mq a λs=>(bD s iS).bind λr=>some (.next,l.set i (some (.str r)),H)
  |_=>none)
noncomputable def aQ:List MS->Lo->Hp->SR
 |[],l,H=>some (.next,l,H)
 |s::r,l,H=>match dD s l H with
  |some (.next,l,H)=>aQ r l H
  |x=>x
end
theorem Qo{l H}:aQ P call ([]) l H=(some (.next,l,H)):=rfl
end
noncomputable def ae(P:Pg):Nat->bX
 |0,_,_,_=>none
 |d+1,f,vs,H=>match P.fns[f]? with
  |some fi=>if vs.length=fi.np then(match aQ P (ae P d) fi.body (vs.map some++List.replicate (fi.ns-fi.np) none) H with
   |some (.ret v,_,H)=>some (v,H)
   |some (.next,_,H)=>some (.none,H)
   |_=>none) else none
  |none=>none
theorem ty{P d f vs H}:ae P (d+1) f vs H=(match P.fns[f]? with
 |some fi=>if vs.length=fi.np then(match aQ P (ae P d) fi.body (vs.map some++List.replicate (fi.ns-fi.np) none) H with
  |some (.ret v,_,H)=>some (v,H)
  |some (.next,_,H)=>some (.none,H)
  |_=>none) else none
 |none=>none):=rfl
end Mine
namespace Mine
set_option genCtorIdx false in
inductive jZ where
 |n (k:Nat)|v (i:Nat)|a (x y:jZ)|m (k:Nat) (x:jZ)|r (x:jZ) (k:Nat)
set_option genCtorIdx false in
inductive yc where
 |z|c (k:Nat) (x y:jZ) (r:yc)
noncomputable def Gf:List Nat->Nat->Nat
 |[],_=>0
 |x::_,0=>x
 |_::r,i+1=>Gf r i
noncomputable def jZ.ev(p:List Nat):jZ->Nat
 |.n k=>k
 |.v i=>Gf p i
 |.a x y=>x.ev p+y.ev p
 |.m k x=>k*x.ev p
 |.r x k=>x.ev p*k
noncomputable def yc.den(p:List Nat):yc->Prop
 |.z=>False
 |.c _ x y r=>x.ev p<=y.ev p->r.den p
noncomputable def tz:List Nat->Nat->Nat->List Nat
 |[],0,k=>[k]
 |[],i+1,k=>0::tz [] i k
 |c::r,0,k=>(c+k)::r
 |c::r,i+1,k=>c::tz r i k
noncomputable def Cp(s:Nat):jZ->List Nat->Nat->(List Nat->Nat->Bool)->Bool
 |.n k,p,c,f=>f p (c+s*k)
 |.v i,p,c,f=>f (tz p i s) c
 |.a x y,p,c,f=>Cp s x p c λp c=>Cp s y p c f
 |.m k x,p,c,f=>Cp (s*k) x p c f
 |.r x k,p,c,f=>Cp (s*k) x p c f
noncomputable def Mk:List Nat->List Nat->Bool
 |[],_=>true
 |c::r,[]=>Nat.beq c 0&&Mk r []
 |c::r,d::s=>Nat.ble c d&&Mk r s
noncomputable def z5:yc->List Nat->Nat->List Nat->Nat->Bool
 |.z,l,a,r,b=>Mk r l&&Nat.ble (b+1) a
 |.c k x y f,l,a,r,b=>Cp k x l a λl a=>Cp k y r b λr b=>z5 f l a r b
noncomputable def oA:List Nat->List Nat->Nat
 |[],_=>0
 |_::_,[]=>0
 |c::r,x::p=>c*x+oA r p
theorem tA:∀(q:List Nat)(i k:Nat)(p:List Nat),oA (tz q i k) p=oA q p+k*Gf p i
 |[],0,k,[]=>rfl
 |[],0,k,x::p=>by show k*x+0=0+k*x;omega
 |[],i+1,k,[]=>rfl
 |[],i+1,k,x::p=>by
  show 0*x+oA (tz [] i k) p=0+k*Gf p i
  rw[tA [] i k p,Nat.zero_mul,fG];rfl
 |c::r,0,k,[]=>rfl
 |c::r,0,k,x::p=>by
  show(c+k)*x+oA r p=c*x+oA r p+k*x
  rw[Nat.add_mul];omega
 |c::r,i+1,k,[]=>rfl
 |c::r,i+1,k,x::p=>by
  show c*x+oA (tz r i k) p=c*x+oA r p+k*Gf p i
  rw[tA r i k p,dU]
theorem nh{p:List Nat}:∀(e:jZ)(s:Nat)(q:List Nat)(c:Nat)(f:List Nat->Nat->Bool),Cp s e q c f=true->∃ q' c',f q' c'=true/\oA q' p+c'=oA q p+c+s*e.ev p
 |.n k,s,q,c,f,h=>⟨q,c+s*k,h,(dU ..).symm⟩
 |.v i,s,q,c,f,h=>⟨tz q i s,c,h,by rw[tA];show _=_+s*Gf p i;omega⟩
 |.a x y,s,q,c,f,h=>by
  obtain⟨q1,c1,h1,e1⟩:=nh (p:=p) x s q c _ h
  obtain⟨q2,c2,h2,e2⟩:=nh (p:=p) y s q1 c1 _ h1
  refine⟨q2,c2,h2,?_⟩
  show _=_+s*(x.ev p+y.ev p)
  rw[Nat.mul_add];omega
 |.m k x,s,q,c,f,h=>by
  obtain⟨q1,c1,h1,e1⟩:=nh (p:=p) x (s*k) q c _ h
  refine⟨q1,c1,h1,e1.trans ?_⟩
  show _=_+s*(k*x.ev p)
  rw[Nat.mul_assoc]
 |.r x k,s,q,c,f,h=>by
  obtain⟨q1,c1,h1,e1⟩:=nh (p:=p) x (s*k) q c _ h
  refine⟨q1,c1,h1,e1.trans ?_⟩
  show _=_+s*(x.ev p*k)
  rw[Nat.mul_comm (x.ev p) k,Nat.mul_assoc]
theorem yd:∀(r l:List Nat),Mk r l=true->∀ p,oA r p<=oA l p
 |[],l,_,p=>cj _
 |c::r,l,_,[]=>cj _
 |c::r,[],h,x::p=>by
  obtain⟨h1,h2⟩:=lI.mp h
  have:=yd r [] h2 p
  rw[Nat.eq_of_beq_eq_true h1]
  show 0*x+oA r p<=0
  rw[Nat.zero_mul,fG];exact this
 |c::r,d::l,h,x::p=>by
  obtain⟨h1,h2⟩:=lI.mp h
  exact i6 (tb x (Nat.le_of_ble_eq_true h1)) (yd r l h2 p)
theorem En{p:List Nat}:∀(f:yc)(l:List Nat)(a:Nat)(r:List Nat)(b:Nat),z5 f l a r b=true->oA l p+a<=oA r p+b->f.den p
 |.z,l,a,r,b,h,e=>by
  obtain⟨h1,h2⟩:=lI.mp h
  have h3:=yd r l h1 p
  have h4:=Nat.le_of_ble_eq_true h2
  show False
  omega
 |.c k x y f,l,a,r,b,h,e=>λhx=>by
  obtain⟨l',a',h1,e1⟩:=nh (p:=p) x k l a _ h
  obtain⟨r',b',h2,e2⟩:=nh (p:=p) y k r b _ h1
  have:=wm k hx
  exact En f l' a' r' b' h2 (by omega)
theorem am(p:List Nat)(f:yc)(h:z5 f [] 0 [] 0=true):f.den p:=En f [] 0 [] 0 h (aC _)
noncomputable def Vw(x y:jZ):Bool:=z5 (.c 1 (.a x (.n 1)) y .z) [] 0 [] 0&&z5 (.c 1 (.a y (.n 1)) x .z) [] 0 [] 0
theorem kS(p:List Nat)(x y:jZ)(h:Vw x y=true):x.ev p=y.ev p:=
 iQ (fH.mp (am p _ (lI.mp h).2)) (fH.mp (am p _ (lI.mp h).1))
noncomputable abbrev yc.d(x y:jZ)(r:yc):yc:=.c 1 x y r
noncomputable abbrev jZ.s(x:jZ):jZ:=.a x (.n 1)
noncomputable abbrev ab:jZ:=.v 0
noncomputable abbrev ac:jZ:=.v 1
noncomputable abbrev ar:jZ:=.v 2
noncomputable abbrev aA:jZ:=.v 3
noncomputable abbrev bH:jZ:=.v 4
noncomputable abbrev iK:jZ:=.v 5
noncomputable abbrev Gg:jZ:=.v 6
theorem nl{a b:Nat}(h:¬ a<=b):b<a:=Nat.not_le.mp h
theorem nt{a b:Nat}(h:¬ a<b):b<=a:=fH.mp h
end Mine
namespace Mine
noncomputable def ye:List Str:=(["orders","pc","at","named","marks","calls","subject","host","history","values","limit","refused","width","steps","log","kind","owner","key","node","tree","number","told"]:List String).map Str.ofString
noncomputable def Vx:List Str:=(["__init__","emit","put","begun","choice","repeat","bound","copied","run","way_back","done","met_once","ended","other","met_often","asked","value_of","assign","step"]:List String).map Str.ofString
noncomputable def IU:List Str:=(["PatternCode","NameRef","Way","Match","PlainHost","Failure","Pattern","Delayed","SnobolError"]:List String).map Str.ofString
noncomputable def dW(a:Nat):Str:=ye.getD a Str.empty
noncomputable def mx(a:Nat):Str:=Vx.getD (a-100) Str.empty
noncomputable abbrev Sl:=List (Option (Str×Bool))
noncomputable abbrev bm:=List (Str×NameKind)
noncomputable def Cq(c:Bool):NameKind:=if c then .cell else .local
noncomputable def isBad:ME->Bool
 |.bad=>true
 |_=>false
set_option genCtorIdx false in
inductive GV where
 |fn (k:Nat)|val (v:V)|cls (c:Nat)|pr (p:Pr)|IV|typ (k:IK)
noncomputable def fe(k l:NameKind):Bool:=match k,l with
 |.local,.local=>true
 |.cell,.cell=>true
 |.free,.free=>true
 |.globalImplicit,.globalImplicit=>true
 |_,_=>false
noncomputable def lQ(x:Str):bm->Option NameKind
 |[]=>none
 |(y,k)::r=>if x==y then some k else lQ x r
theorem Ml{x y k r}:lQ x ((y,k)::r)=(if x==y then some k else lQ x r):=rfl
noncomputable def cf(nm:bm)(sl:Sl)(i:Nat)(x:Str):Bool:=match sl[i]? with
 |some (some (y,c))=>x==y&&(match lQ x nm with|some k=>fe k (Cq c)|none=>false)
 |_=>false
noncomputable def yf(nm:bm)(x:Str):Bool:=match lQ x nm with|some k=>fe k .globalImplicit|none=>false
mutual
noncomputable def Cr:V->V->Bool
 |.none,.none=>true
 |.bool a,.bool b=>a==b
 |.int a,.int b=>a==b
 |.str a,.str b=>a==b
 |.fn a,.fn b=>a==b
 |.tup a,.tup b=>yg a b
 |_,_=>false
noncomputable def yg:List V->List V->Bool
 |[],[]=>true
 |a::r,b::t=>Cr a b&&yg r t
 |_,_=>false
end
noncomputable def OS(v:V)(c:Const):Bool:=match v with
 |.none=>(match c with|.none=>true|_=>false)
 |.bool a=>(match c with|.bool b=>a==b|_=>false)
 |.int a=>(match c with|.int b=>a==b|_=>false)
 |.str a=>(match c with|.str b=>a==b.cps.toList&&decide (a.length<=1000)|_=>false)
 |_=>false
noncomputable def OT:ki->Operator
 |.add=>.Add
 |.sub=>.Sub
 |.mul=>.Mult
 |.fdiv=>.FloorDiv
 |.mod=>.Mod
noncomputable def lR(o:ki)(p:Operator):Bool:=decide (p=OT o)
noncomputable def Qp:lV->CmpOp
 |.eq=>.Eq
 |.ne=>.NotEq
 |.lt=>.Lt
 |.le=>.LtE
 |.gt=>.Gt
 |.ge=>.GtE
 |.is=>.Is
 |.eE=>.IsNot
 |.isin=>.In
 |.i8=>.NotIn
noncomputable def my(o:lV)(p:CmpOp):Bool:=decide (p=Qp o)
noncomputable def pI:BM->Str
 |.append=>Str.ofString "append"
 |.pop=>Str.ofString "pop"
 |.extend=>Str.ofString "extend"
 |.reverse=>Str.ofString "reverse"
 |.join=>Str.ofString "join"
 |.replace=>Str.ofString "replace"
 |.startswith=>Str.ofString "startswith"
 |.lstrip=>Str.ofString "lstrip"
 |.split=>Str.ofString "split"
 |.get=>Str.ofString "get"
noncomputable def ni:Pr->Str
 |.len=>Str.ofString "len"
 |.abs=>Str.ofString "abs"
 |.int=>Str.ofString "int"
 |.chr=>Str.ofString "chr"
 |.ord=>Str.ofString "ord"
 |.list=>Str.ofString "list"
 |.range=>Str.ofString "range"
 |.min=>Str.ofString "min"
 |.str=>Str.ofString "str"
noncomputable def sR:IK->Str
 |.int=>Str.ofString "int"
 |.str=>Str.ofString "str"
 |.tuple=>Str.ofString "tuple"
 |.cls k=>IU.getD k Str.empty
noncomputable def gG:ME->Bool
 |.lit .none=>true
 |_=>false
noncomputable def e0:Expr:=.Constant .none 0 default
structure XV where
 w:Expr
 t:Nat
 p:Pos
 a:Expr
 b:Expr
 d:Expr
 n:Nat
 s:Str
 l:List Expr
 bo:BoolOp
 op:Operator
 uo:UnaryOp
 ks:List (Option Expr)
 gs:List Comprehension
 sc:Scope
 co:List CmpOp
 kw:List Keyword
 c:Const
 o1:Option Expr
 o2:Option Expr
 o3:Option Expr
noncomputable def X0(x:Expr)(t:Nat)(p:Pos):XV:=⟨x,t,p,e0,e0,e0,0,default,[],default,default,default,[],[],default,[],[],.none,none,none,none⟩
noncomputable def xv(x:Expr):XV:=match x with
 |.BoolOp a b c=>{ X0 x 0 c with bo:=a,l:=b }
 |.BinOp a b c d=>{ X0 x 1 d with a:=a,op:=b,b:=c }
 |.UnaryOp a b c=>{ X0 x 2 c with uo:=a,a:=b }
 |.IfExp a b c d=>{ X0 x 3 d with a:=a,b:=b,d:=c }
 |.Dict a b c=>{ X0 x 4 c with ks:=a,l:=b }
 |.ListComp a b c d=>{ X0 x 5 d with a:=a,gs:=b,sc:=c }
 |.Compare a b c d=>{ X0 x 6 d with a:=a,co:=b,l:=c }
 |.Call a b c d=>{ X0 x 7 d with a:=a,l:=b,kw:=c }
 |.Constant a b c=>{ X0 x 8 c with c:=a,n:=b }
 |.Attribute a b c=>{ X0 x 9 c with a:=a,s:=b }
 |.Subscript a b c=>{ X0 x 10 c with a:=a,b:=b }
 |.Name a b=>{ X0 x 11 b with s:=a }
 |.List a b=>{ X0 x 12 b with l:=a }
 |.Tuple a b c=>{ X0 x 13 c with l:=a,n:=b }
 |.Slice a b c d=>{ X0 x 14 d with o1:=a,o2:=b,o3:=c }
 |.Starred ..=>X0 x 20 default
 |.Set ..=>X0 x 21 default
 |_=>X0 x 99 default
noncomputable def XV.back(v:XV)(n:Nat):Expr:=
 ([.BoolOp v.bo v.l v.p,.BinOp v.a v.op v.b v.p,.UnaryOp v.uo v.a v.p,.IfExp v.a v.b v.d v.p,.Dict v.ks v.l v.p,.ListComp v.a v.gs v.sc v.p,.Compare v.a v.co v.l v.p,.Call v.a v.l v.kw v.p,.Constant v.c v.n v.p,
  .Attribute v.a v.s v.p,.Subscript v.a v.b v.p,.Name v.s v.p,.List v.l v.p,.Tuple v.l v.n v.p,.Slice v.o1 v.o2 v.o3 v.p]:List Expr).getD n v.w
theorem Qq(x:Expr):(xv x).back (xv x).t=x:=by induction x using PySem.Expr.casesOn <;> rfl
theorem inv{x:Expr}{n:Nat}{P:Expr->Prop}(h:Nat.beq (xv x).t n=true)(k:P ((xv x).back n)):P x:=by
 have e:=Qq x
 rw[Nat.eq_of_beq_eq_true h] at e
 exact e▸k
noncomputable def qL(v:XV)(f:BoolOp->List Expr->Pos->Bool):Bool:=Nat.beq v.t 0&&f v.bo v.l v.p
noncomputable def z6(v:XV)(f:Expr->Operator->Expr->Pos->Bool):Bool:=Nat.beq v.t 1&&f v.a v.op v.b v.p
noncomputable def oB(v:XV)(f:UnaryOp->Expr->Pos->Bool):Bool:=Nat.beq v.t 2&&f v.uo v.a v.p
noncomputable def z7(v:XV)(f:Expr->Expr->Expr->Pos->Bool):Bool:=Nat.beq v.t 3&&f v.a v.b v.d v.p
noncomputable def Ep(v:XV)(f:List (Option Expr)->List Expr->Pos->Bool):Bool:=Nat.beq v.t 4&&f v.ks v.l v.p
noncomputable def jI(v:XV)(f:Expr->List Comprehension->Scope->Pos->Bool):Bool:=Nat.beq v.t 5&&f v.a v.gs v.sc v.p
noncomputable def oE(v:XV)(f:Expr->List CmpOp->List Expr->Pos->Bool):Bool:=Nat.beq v.t 6&&f v.a v.co v.l v.p
noncomputable def iY(v:XV)(f:Expr->List Expr->List Keyword->Pos->Bool):Bool:=Nat.beq v.t 7&&f v.a v.l v.kw v.p
noncomputable def r6(v:XV)(f:Const->Nat->Pos->Bool):Bool:=Nat.beq v.t 8&&f v.c v.n v.p
noncomputable def d9(v:XV)(f:Expr->Str->Pos->Bool):Bool:=Nat.beq v.t 9&&f v.a v.s v.p
noncomputable def iZ(v:XV)(f:Expr->Expr->Pos->Bool):Bool:=Nat.beq v.t 10&&f v.a v.b v.p
noncomputable def ey(v:XV)(f:Str->Pos->Bool):Bool:=Nat.beq v.t 11&&f v.s v.p
noncomputable def Er(v:XV)(f:List Expr->Pos->Bool):Bool:=Nat.beq v.t 12&&f v.l v.p
noncomputable def pJ(v:XV)(f:List Expr->Nat->Pos->Bool):Bool:=Nat.beq v.t 13&&f v.l v.n v.p
noncomputable def z8(v:XV)(f:Option Expr->Option Expr->Option Expr->Pos->Bool):Bool:=Nat.beq v.t 14&&f v.o1 v.o2 v.o3 v.p
structure SV where
 w:Stmt
 t:Nat
 p:Pos
 a:Expr
 b:Expr
 o:Option Expr
 ts:List Expr
 op:Operator
 y:List Stmt
 z:List Stmt
noncomputable def S0(x:Stmt)(t:Nat)(p:Pos):SV:=⟨x,t,p,e0,e0,none,[],default,[],[]⟩
noncomputable def sv(x:Stmt):SV:=match x with
 |.Expr a b=>{ S0 x 0 b with a:=a }
 |.Return a b=>{ S0 x 1 b with o:=a }
 |.Assign a b c=>{ S0 x 2 c with ts:=a,a:=b }
 |.AugAssign a b c d=>{ S0 x 3 d with a:=a,op:=b,b:=c }
 |.If a b c d=>{ S0 x 4 d with a:=a,y:=b,z:=c }
 |.While a b c d=>{ S0 x 5 d with a:=a,y:=b,z:=c }
 |.For a b c d e=>{ S0 x 6 e with a:=a,b:=b,y:=c,z:=d }
 |.Break a=>S0 x 7 a
 |.Continue a=>S0 x 8 a
 |_=>S0 x 99 default
noncomputable def SV.back(v:SV)(n:Nat):Stmt:=
 ([.Expr v.a v.p,.Return v.o v.p,.Assign v.ts v.a v.p,.AugAssign v.a v.op v.b v.p,.If v.a v.y v.z v.p,.While v.a v.y v.z v.p,.For v.a v.b v.y v.z v.p,.Break v.p,.Continue v.p]:List Stmt).getD n v.w
theorem Qr(x:Stmt):(sv x).back (sv x).t=x:=by induction x using PySem.Stmt.casesOn <;> rfl
theorem pK{x:Stmt}{n:Nat}{P:Stmt->Prop}(h:Nat.beq (sv x).t n=true)(k:P ((sv x).back n)):P x:=by
 have e:=Qr x
 rw[Nat.eq_of_beq_eq_true h] at e
 exact e▸k
noncomputable def z9(v:SV)(f:Expr->Pos->Bool):Bool:=Nat.beq v.t 0&&f v.a v.p
noncomputable def tB(v:SV)(f:Option Expr->Pos->Bool):Bool:=Nat.beq v.t 1&&f v.o v.p
noncomputable def oF(v:SV)(f:List Expr->Expr->Pos->Bool):Bool:=Nat.beq v.t 2&&f v.ts v.a v.p
noncomputable def j1(v:SV)(f:Expr->Operator->Expr->Pos->Bool):Bool:=Nat.beq v.t 3&&f v.a v.op v.b v.p
noncomputable def IW(v:SV)(f:Expr->List Stmt->List Stmt->Pos->Bool):Bool:=Nat.beq v.t 4&&f v.a v.y v.z v.p
noncomputable def qM(v:SV)(f:Expr->List Stmt->List Stmt->Pos->Bool):Bool:=Nat.beq v.t 5&&f v.a v.y v.z v.p
noncomputable def Es(v:SV)(f:Expr->Expr->List Stmt->List Stmt->Pos->Bool):Bool:=Nat.beq v.t 6&&f v.a v.b v.y v.z v.p
noncomputable def wC(v:SV)(f:Pos->Bool):Bool:=Nat.beq v.t 7&&f v.p
noncomputable def pL(v:SV)(f:Pos->Bool):Bool:=Nat.beq v.t 8&&f v.p
noncomputable def notStar(e:Expr):Bool:=!(Nat.beq (xv e).t 20)
noncomputable def gH(e:Expr):Bool:=!(Nat.beq (xv e).t 21)
noncomputable def dI:Expr->Bool
 |.Call (.Name _ _) [] [] _=>false
 |_=>true
noncomputable def fT:Expr->Bool
 |.ListComp ..=>false
 |.SetComp ..=>false
 |.DictComp ..=>false
 |_=>true
noncomputable def isStarred:Expr->Bool
 |.Starred ..=>true
 |_=>false
noncomputable def ko(nm:bm)(line:Nat):Expr->Option Str
 |.Name id pos=>if nm.lookup id==some .local&&pos.line==line then some id else none
 |_=>none
noncomputable def IX(c1 c2 c3 c4 c5:Bool)(g:List Str):Option (Option (List Str)):=bif c1 then some none else bif c2 then some none else bif c3 then some none else bif c4 then some none else bif c5 then none else some (some g)
noncomputable def tupQ(nm:bm)(ts vs:List Expr):Option (Option (List Str)):=
 let g:=ts.filterMap (ko nm ((ts.head?.map (·.pos.line)).getD 0))
 IX (!(ts.length==2 || ts.length==3) || vs.length != ts.length) (vs.any isStarred) (g.length != ts.length || g.eraseDups.length != g.length) (vs.all (foldedForSure 8)) (vs.all (constantsAlone 8)) g
noncomputable def tC(nm:bm)(y x:Expr):Option (Option (List Str)):=match y with
 |.Tuple ts _ _=>(match x with|.Tuple vs _ _=>tupQ nm ts vs|_=>some none)
 |.List ..=>none
 |_=>some none
noncomputable def isSlice:Expr->Bool
 |.Slice ..=>true
 |_=>false
noncomputable def qN(nm out:bm):bm:=nm.map λ(n,k)=>if fe k .free&&(match lQ n out with|some k'=>fe k' .cell|none=>false) then(n,.cell) else(n,k)
noncomputable def fw(sl:Sl)(nm:bm):Sl:=sl.map λs=>match s with
 |some (x,true)=>if(match lQ x nm with|some k=>fe k .free|none=>false) then some (x,true) else none
 |_=>none
noncomputable def cW:bm->Sl
 |[]=>[]
 |(x,k)::r=>if fe k .local&&!(x==(Str.ofString ".0")) then some (x,false)::cW r else cW r
theorem tD :cW ([])=([]):=rfl
theorem kT{x k r}:cW ((x,k)::r)=(if fe k .local&&!(x==(Str.ofString ".0")) then some (x,false)::cW r else cW r):=rfl
noncomputable def oG(x:Str):List Str->Bool
 |[]=>false
 |y::r=>x==y || oG x r
theorem Aa{x}:oG x ([])=(false):=rfl
theorem Ab{x y r}:oG x (y::r)=(x==y || oG x r):=rfl
noncomputable def oH:List Str->Bool
 |[]=>true
 |x::r=>!oG x r&&oH r
theorem IY :oH ([])=(true):=rfl
theorem IZ{x r}:oH (x::r)=(!oG x r&&oH r):=rfl
noncomputable def oc(nm:bm)(sl:Sl):List Nat->List Expr->Bool
 |[],es=>(match es with|[]=>true|_=>false)
 |i::is,es=>(match es with|e::r=>(ey (xv e) λx _=>cf nm sl i x&&oc nm sl is r)|[]=>false)
noncomputable def oe(nm:bm)(sl:Sl)(t:CT)(e:Expr):Bool:=match t with
 |.one i=>(ey (xv e) λx _=>cf nm sl i x)
 |.many is=>(pJ (xv e) λes _ _=>oc nm sl is es)
noncomputable def kU(sl:Sl)(i:Nat):Bool:=match sl[i]? with|some (some (_,false))=>true|_=>false
noncomputable def Et(sl:Sl):CT->Bool
 |.one i=>kU sl i
 |.many is=>is.all (kU sl)
noncomputable def jh:bm->Bool
 |[]=>true
 |(x,_)::r=>!(x==(Str.ofString "__debug__"))&&jh r
theorem Ac :jh ([])=(true):=rfl
theorem Ad{x gA r}:jh ((x,gA)::r)=(!(x==(Str.ofString "__debug__"))&&jh r):=rfl
noncomputable def kq(sc:Scope):Bool:=jh sc.names&& (match sc.kind with|.function=>true|_=>false)&&!sc.isGenerator&&!sc.isCoroutine
noncomputable def I0(sl:Sl)(x:Str):Bool:=sl.any λz=>match z with|some (y,true)=>y==x|_=>false
noncomputable def frees:bm->bm->Sl->Bool
 |[],_,_=>true
 |(x,k)::r,nm,sl=>(match k with
  |.local=>true
  |.globalImplicit=>true
  |.free=>(match lQ x nm with|some k'=>fe k' .cell|none=>false)&&I0 sl x
  |_=>false)&&frees r nm sl
theorem I1{gA ya}:frees ([]) gA ya=(true):=rfl
theorem I2{x k r nm sl}:frees ((x,k)::r) nm sl=((match k with
 |.local=>true
 |.globalImplicit=>true
 |.free=>(match lQ x nm with|some k'=>fe k' .cell|none=>false)&&I0 sl x
 |_=>false)&&frees r nm sl):=rfl
section
variable (G:Str->Option GV)
noncomputable def jJ(nm:bm)(sl:Sl):List Nat->List Str->Bool
 |[],ns=>(match ns with|[]=>true|_=>false)
 |i::is,ns=>(match ns with|n::ns=>cf nm sl i n&&jJ nm sl is ns|[]=>false)
noncomputable def Cs(t:Tg):Option Nat:=match t with|.loc i=>some i|_=>none
noncomputable def OU(nm:bm)(sl:Sl)(ts:List Tg)(ns:List Str):Bool:=match ts with
 |[]=>false
 |t::ts=>(match Cs t with
  |none=>false
  |some i=>(match ts with
   |[]=>false
   |t::ts=>(match Cs t with
    |none=>false
    |some j=>(match ts with|[]=>jJ nm sl [i,j] ns|_::_=>false))))
noncomputable def wD(nm:bm)(sl:Sl)(t:Tg)(r:Option (Option (List Str))):Bool:=match r with
 |some r=>(match r with
  |none=>true
  |some ns=>(match t with|.tup ts=>OU nm sl ts ns|_=>false))
 |none=>false
noncomputable def I3(g:GV):Bool:=match g with
 |.IV=>true
 |_=>false
noncomputable def Qs(k:IK)(g:GV):Bool:=match g with
 |.cls j=>(match k with|.cls i=>i==j|_=>false)
 |.pr _=>(match k with|.int=>true|.str=>true|_=>false)
 |.typ _=>(match k with|.tuple=>true|_=>false)
 |_=>false
noncomputable def I4(v:V)(g:GV):Bool:=match g with
 |.fn k=>(match v with|.fn j=>k==j|_=>false)
 |.val u=>Cr u v
 |_=>false
noncomputable def nM(nm:bm)(x:Str)(p:GV->Bool):Bool:=yf nm x&&(match G x with|some g=>p g|none=>false)
noncomputable def Eu{α:Type}(l:List α)(f:α->Bool):Bool:=match l with|[]=>false|a::r=>(match r with|[]=>f a|_::_=>false)
noncomputable def Ae{α:Type}(l:List α)(f:α->α->Bool):Bool:=match l with|[]=>false|a::r=>Eu r (f a)
noncomputable def ji{α:Type}(l:List α)(b:Bool):Bool:=match l with|[]=>b|_::_=>false
mutual
noncomputable def aI:ME->bm->Sl->Expr->Bool
 |.bad,_,_,_=>true
 |.lit v,_,_,e=>(r6 (xv e) λc _ _=>OS v c)
 |.loc i,nm,sl,e=>(ey (xv e) λx _=>cf nm sl i x)
 |.glob v,nm,_,e=>(ey (xv e) λx _=>nM G nm x (I4 v))
 |.tup es,nm,sl,e=>(pJ (xv e) λxs _ _=>decide (es.length<=100)&&eC es nm sl xs)
 |.lst es,nm,sl,e=>(Er (xv e) λxs _=>decide (es.length<=100)&&eC es nm sl xs)
 |.dict es,nm,sl,e=>(Ep (xv e) λks vs _=>decide (vs.length<=15)&&yh es nm sl ks vs)
 |.attr o a,nm,sl,e=>(d9 (xv e) λx n _=>n==dW a&&decide (a<22)&&dI x&&aI o nm sl x)
 |.idx o i,nm,sl,e=>(iZ (xv e) λx s _=>!isSlice s&&aI o nm sl x&&aI i nm sl s)
 |.slice o lo hi st,nm,sl,e=>(iZ (xv e) λx y _=>(z8 (xv y) λl u s _=>aI o nm sl x&&(match l with|some l=>aI lo nm sl l&&!gG lo|none=>gG lo) &&
  (match u with|some u=>aI hi nm sl u&&!gG hi|none=>gG hi)&&(match s with|some s=>aI st nm sl s&&!gG st|none=>gG st)))
 |.bin op a b,nm,sl,e=>(z6 (xv e) λx o y _=>lR op o&&aI a nm sl x&&aI b nm sl y)
 |.neg a,nm,sl,e=>(oB (xv e) λo x _=>(match o with|.USub=>aI a nm sl x|_=>false))
 |.not a,nm,sl,e=>(oB (xv e) λo x _=>(match o with|.Not=>aI a nm sl x|_=>false))
 |.cmp op a b,nm,sl,e=>(oE (xv e) λx os ys _=>Eu os λo=>Eu ys λy=>my op o&&gH y&&aI a nm sl x&&aI b nm sl y)
 |.mn op jX a b c,nm,sl,e=>(oE (xv e) λx os ys _=>Ae os λo o'=>Ae ys λy z=>my op o&&my jX o'&&gH z&&aI a nm sl x&&aI b nm sl y&&aI c nm sl z)
 |.and es,nm,sl,e=>(qL (xv e) λo xs _=>(match o with|.And=>decide (2<=xs.length)&&eC es nm sl xs|_=>false))
 |.or es,nm,sl,e=>(qL (xv e) λo xs _=>(match o with|.Or=>decide (2<=xs.length)&&eC es nm sl xs|_=>false))
 |.ay t a b,nm,sl,e=>(z7 (xv e) λx y z _=>aI t nm sl x&&aI a nm sl y&&aI b nm sl z)
 |.call f es,nm,sl,e=>(iY (xv e) λf0 xs ks _=>(ey (xv f0) λx p=>ji ks (aI f nm sl (.Name x p)&&eC es nm sl xs)))
 |.new c es,nm,sl,e=>(iY (xv e) λf0 xs ks _=>(ey (xv f0) λx _=>ji ks (decide (c<5)&&nM G nm x (λg=>match g with|.cls k=>k==c|_=>false)&&eC es nm sl xs)))
 |.bp o m es,nm,sl,e=>(iY (xv e) λf0 xs ks p=>(d9 (xv f0) λx n ap=>ji ks (n==mx m&&decide (100<=m/\m<119)&&decide (xs.length<20)&&(ap.endLine==p.line)&&dI x&&aI o nm sl x&&eC es nm sl xs)))
 |.aS o m es,nm,sl,e=>(iY (xv e) λf0 xs ks p=>(d9 (xv f0) λx n ap=>ji ks (n==pI m&&decide (xs.length<20)&&(ap.endLine==p.line)&&dI x&&aI o nm sl x&&eC es nm sl xs)))
 |.prim p es,nm,sl,e=>(iY (xv e) λf0 xs ks _=>(ey (xv f0) λx _=>ji ks (x==ni p&&nM G nm x (λg=>match g with|.pr _=>true|_=>false)&&eC es nm sl xs)))
 |.isin o k,nm,sl,e=>(iY (xv e) λf0 xs ks _=>(ey (xv f0) λx _=>ji ks (Ae xs λy w=>(ey (xv w) λz _=>nM G nm x I3&&z==sR k&&nM G nm z (Qs k)&&notStar y&&aI o nm sl y))))
 |.comp elt src t k cs,nm,sl,e=>(jI (xv e) λx gs sc _=>(match gs with|[⟨tg,it,ifs,0⟩]=>gH it&&aI src nm sl it&&(let gZ:=qN sc.names nm;let Mm:=fw sl sc.names++cW sc.names
  decide ((cW sc.names).length=k)&&kq sc&&Et Mm t&&oe gZ Mm t tg&&eC cs gZ Mm ifs&&aI elt gZ Mm x&&oH (sc.names.map (·.1))&&frees sc.names nm sl)|_=>false))
noncomputable def eC:List ME->bm->Sl->List Expr->Bool
 |[],_,_,xs=>(match xs with|[]=>true|_=>false)
 |e::r,nm,sl,xs=>(match xs with|x::ys=>notStar x&&aI e nm sl x&&eC r nm sl ys|[]=>false)
noncomputable def yh:List ME->bm->Sl->List (Option Expr)->List Expr->Bool
 |[],_,_,ks,vs=>(match ks with|[]=>(match vs with|[]=>true|_=>false)|_=>false)
 |[_],_,_,_,_=>false
 |k::v::r,nm,sl,ks,vs=>(match ks with|x::ks=>(match x with|some x=>(match vs with|y::vs=>aI k nm sl x&&aI v nm sl y&&yh r nm sl ks vs|_=>false)|_=>false)|_=>false)
end
theorem eF{gA ya xs}:eC G ([]) gA ya xs=((match xs with|[]=>true|_=>false)):=rfl
theorem eG{e r nm sl xs}:eC G (e::r) nm sl xs=((match xs with|x::ys=>notStar x&&aI G e nm sl x&&eC G r nm sl ys|[]=>false)):=rfl
mutual
noncomputable def mz:Tg->bm->Sl->Expr->Bool
 |.loc i,nm,sl,e=>(ey (xv e) λx _=>cf nm sl i x)
 |.attr o a,nm,sl,e=>(d9 (xv e) λx n _=>n==dW a&&decide (a<22)&&aI G o nm sl x)
 |.idx o i,nm,sl,e=>(iZ (xv e) λx s _=>!isSlice s&&aI G o nm sl x&&aI G i nm sl s)
 |.tup ts,nm,sl,e=>(pJ (xv e) λxs _ _=>mA ts nm sl xs)
noncomputable def mA:List Tg->bm->Sl->List Expr->Bool
 |[],_,_,xs=>(match xs with|[]=>true|_=>false)
 |t::r,nm,sl,xs=>(match xs with|x::ys=>mz t nm sl x&&mA r nm sl ys|[]=>false)
end
noncomputable def sS(t:Tg):Bool:=match t with|.loc _=>true|_=>false
noncomputable def Af(nm:bm)(y x:Expr)(t:Tg):Bool:=
 ey (xv y) λn py=>jI (xv x) λ_ _ sc px=>sS t&&(nm.lookup n==some .local&&py.line==px.line&&!(sc.names.any λ(z,k)=>z==n&&(k==.local || k==.cell)))
noncomputable def wE(nm:bm)(sl:Sl)(t:Tg)(y x:Expr):Bool:=bif fT x then wD nm sl t (tC nm y x) else Af nm y x t
noncomputable def Ag(i:Nat):ME:=.aS (.loc i) .replace [.lit (.str [40,41]),.lit (.str [])]
noncomputable def OW(i:Nat)(nm:bm)(sl:Sl)(b:List Stmt):Bool:=match b with
 |s::r=>(match r with
  |[]=>(oF (sv s) λts x _=>(match ts with|y::r=>(match r with|[]=>mz G (.loc i) nm sl y&&aI G (Ag i) nm sl x&&wE nm sl (.loc i) y x|_=>false)|[]=>false))
  |_=>false)
 |[]=>false
mutual
noncomputable def pM:MS->bm->Sl->Stmt->Bool
 |.bad,_,_,_=>true
 |.expr e,nm,sl,s=>(z9 (sv s) λx _=>fT x&&aI G e nm sl x)
 |.ret e,nm,sl,s=>(tB (sv s) λx _=>(match x with|some x=>aI G e nm sl x|_=>false))
 |.asg t e,nm,sl,s=>(oF (sv s) λts x _=>(match ts with|y::r=>(match r with|[]=>mz G t nm sl y&&aI G e nm sl x&&wE nm sl t y x|_=>false)|[]=>false))
 |.aug i op e,nm,sl,s=>(j1 (sv s) λz o y _=>(ey (xv z) λx _=>lR op o&&cf nm sl i x&&aI G e nm sl y))
 |.lM o a op e,nm,sl,s=>(j1 (sv s) λz p y _=>(d9 (xv z) λx n _=>lR op p&&n==dW a&&decide (a<22)&&dI x&&aI G o nm sl x&&aI G e nm sl y))
 |.ay t b o,nm,sl,s=>(IW (sv s) λx y z _=>aI G t nm sl x&&kr b nm sl y&&kr o nm sl z)
 |.kj t b,nm,sl,s=>(qM (sv s) λx y o _=>ji o (aI G t nm sl x&&kr b nm sl y))
 |.for t e b,nm,sl,s=>(Es (sv s) λy x z o _=>ji o (oe nm sl t y&&gH x&&aI G e nm sl x&&kr b nm sl z))
 |.brk,_,_,s=>(wC (sv s) λ_=>true)
 |.cont,_,_,s=>(pL (sv s) λ_=>true)
 |.rep i,nm,sl,s=>(qM (sv s) λx y o _=>ji o (aI G (.cmp .isin (.lit (.str [40,41])) (.loc i)) nm sl x&&OW G i nm sl y))
noncomputable def kr:List MS->bm->Sl->List Stmt->Bool
 |[],_,_,xs=>(match xs with|[]=>true|_=>false)
 |s::r,nm,sl,xs=>(match xs with|x::ys=>pM s nm sl x&&kr r nm sl ys|[]=>false)
end
end
noncomputable def slotsOf:bm->Sl
 |[]=>[]
 |(x,k)::r=>match k with
  |.local=>some (x,false)::slotsOf r
  |.cell=>some (x,true)::slotsOf r
  |_=>slotsOf r
theorem oJ :slotsOf ([])=([]):=rfl
theorem g7{x k r}:slotsOf ((x,k)::r)=(match k with
 |.local=>some (x,false)::slotsOf r
 |.cell=>some (x,true)::slotsOf r
 |_=>slotsOf r):=rfl
noncomputable def iB:List Arg->Sl->Bool
 |[],_=>true
 |a::r,some (x,_)::t=>a.arg==x&&iB r t
 |_,_=>false
theorem tE{gA}:iB ([]) gA=(true):=rfl
theorem tF{a r x gA t}:iB (a::r) (some (x,gA)::t)=(a.arg==x&&iB r t):=rfl
noncomputable def Ah:List MS->Bool
 |[.bad]=>true
 |_=>false
noncomputable def SX(G:Str->Option GV)(fi:FI)(fd:FuncData):Bool:=
 fd.params.posonlyargs.isEmpty&&fd.params.vararg.isNone&&fd.params.kwonlyargs.isEmpty&&fd.params.kwarg.isNone&&(match fd.defaults with|.none=>true|_=>false) &&
 fd.closure.isEmpty&&fd.globals==mainGlobals&&fd.builtins==builtinsNs&&kq fd.scope&&decide (fd.params.args.length=fi.np)&&decide ((slotsOf fd.scope.names).length=fi.ns) &&
 iB fd.params.args (slotsOf fd.scope.names)&&oH (fd.scope.names.map (·.1)) &&
 (match fd.body with|.stmts b=>kr G fi.body fd.scope.names (slotsOf fd.scope.names) b|_=>false)
noncomputable def Mn(G:Str->Option GV)(K:Frag)(fi:FI)(a:Addr):Bool:=Ah fi.body || (match K.lookup a with
 |some ⟨_,_,.func fd,_⟩=>SX G fi fd&&codeIn K fd.code fd.qualname
 |_=>false)
end Mine
namespace Mine
theorem ah{a b:Bool}(h:(a&&b)=true):a=true/\b=true:=by
  induction a with
 |true=>exact⟨rfl,h⟩
 |false=>exact ff h
theorem Mq{a b c d:Bool}(h:(a&&b&&c&&d)=true){zg:Prop}(zk:(a=true)->(b=true)->(c=true)->(d=true)->zg):zg:=by
 exact zk ((ah (ah (ah h).1).1).1) ((ah (ah (ah h).1).1).2) ((ah (ah h).1).2) ((ah h).2)
section
variable {G:Str->Option GV}{nm:bm}{sl:Sl}{x:Expr}{zP:Expr->Prop}
@[elab_as_elim] theorem pN{f:BoolOp->List Expr->Pos->Bool}(c:qL (xv x) f=true)(zk:∀ a b d,f a b d=true->zP (.BoolOp a b d)):zP x:=inv (n:=0) (P:=zP) (ah c).1 (zk _ _ _ (ah c).2)
@[elab_as_elim] theorem Ai{f:Expr->Operator->Expr->Pos->Bool}(c:z6 (xv x) f=true)(zk:∀ a b d g,f a b d g=true->zP (.BinOp a b d g)):zP x:=inv (n:=1) (P:=zP) (ah c).1 (zk _ _ _ _ (ah c).2)
@[elab_as_elim] theorem og{f:UnaryOp->Expr->Pos->Bool}(c:oB (xv x) f=true)(zk:∀ a b d,f a b d=true->zP (.UnaryOp a b d)):zP x:=inv (n:=2) (P:=zP) (ah c).1 (zk _ _ _ (ah c).2)
@[elab_as_elim] theorem Aj{f:Expr->Expr->Expr->Pos->Bool}(c:z7 (xv x) f=true)(zk:∀ a b d g,f a b d g=true->zP (.IfExp a b d g)):zP x:=inv (n:=3) (P:=zP) (ah c).1 (zk _ _ _ _ (ah c).2)
@[elab_as_elim] theorem Ct{f:List (Option Expr)->List Expr->Pos->Bool}(c:Ep (xv x) f=true)(zk:∀ a b d,f a b d=true->zP (.Dict a b d)):zP x:=inv (n:=4) (P:=zP) (ah c).1 (zk _ _ _ (ah c).2)
@[elab_as_elim] theorem mB{f:Expr->List Comprehension->Scope->Pos->Bool}(c:jI (xv x) f=true)(zk:∀ a b d g,f a b d g=true->zP (.ListComp a b d g)):zP x:=inv (n:=5) (P:=zP) (ah c).1 (zk _ _ _ _ (ah c).2)
@[elab_as_elim] theorem oh{f:Expr->List CmpOp->List Expr->Pos->Bool}(c:oE (xv x) f=true)(zk:∀ a b d g,f a b d g=true->zP (.Compare a b d g)):zP x:=inv (n:=6) (P:=zP) (ah c).1 (zk _ _ _ _ (ah c).2)
@[elab_as_elim] theorem tH{f:Expr->List Expr->List Keyword->Pos->Bool}(c:iY (xv x) f=true)(zk:∀ a b d g,f a b d g=true->zP (.Call a b d g)):zP x:=inv (n:=7) (P:=zP) (ah c).1 (zk _ _ _ _ (ah c).2)
@[elab_as_elim] theorem tJ{f:Const->Nat->Pos->Bool}(c:r6 (xv x) f=true)(zk:∀ a b d,f a b d=true->zP (.Constant a b d)):zP x:=inv (n:=8) (P:=zP) (ah c).1 (zk _ _ _ (ah c).2)
@[elab_as_elim] theorem fZ{f:Expr->Str->Pos->Bool}(c:d9 (xv x) f=true)(zk:∀ a b d,f a b d=true->zP (.Attribute a b d)):zP x:=inv (n:=9) (P:=zP) (ah c).1 (zk _ _ _ (ah c).2)
@[elab_as_elim] theorem iM{f:Expr->Expr->Pos->Bool}(c:iZ (xv x) f=true)(zk:∀ a b d,f a b d=true->zP (.Subscript a b d)):zP x:=inv (n:=10) (P:=zP) (ah c).1 (zk _ _ _ (ah c).2)
@[elab_as_elim] theorem eH{f:Str->Pos->Bool}(c:ey (xv x) f=true)(zk:∀ a b,f a b=true->zP (.Name a b)):zP x:=inv (n:=11) (P:=zP) (ah c).1 (zk _ _ (ah c).2)
@[elab_as_elim] theorem Cu{f:List Expr->Pos->Bool}(c:Er (xv x) f=true)(zk:∀ a b,f a b=true->zP (.List a b)):zP x:=inv (n:=12) (P:=zP) (ah c).1 (zk _ _ (ah c).2)
@[elab_as_elim] theorem mC{f:List Expr->Nat->Pos->Bool}(c:pJ (xv x) f=true)(zk:∀ a b d,f a b d=true->zP (.Tuple a b d)):zP x:=inv (n:=13) (P:=zP) (ah c).1 (zk _ _ _ (ah c).2)
@[elab_as_elim] theorem Ak{f:Option Expr->Option Expr->Option Expr->Pos->Bool}(c:z8 (xv x) f=true)(zk:∀ a b d g,f a b d g=true->zP (.Slice a b d g)):zP x:=inv (n:=14) (P:=zP) (ah c).1 (zk _ _ _ _ (ah c).2)
@[elab_as_elim] theorem qO{v:V}(c:aI G (.lit v) nm sl x=true)(zk:∀ k y z,OS v k=true->zP (.Constant k y z)):zP x:=tJ (zP:=zP) c zk
@[elab_as_elim] theorem nk{i:Nat}(c:aI G (.loc i) nm sl x=true)(zk:∀ n p,cf nm sl i n=true->zP (.Name n p)):zP x:=eH (zP:=zP) c zk
@[elab_as_elim] theorem tK{v:V}(c:aI G (.glob v) nm sl x=true)(zk:∀ n p,nM G nm n (I4 v)=true->zP (.Name n p)):zP x:=eH (zP:=zP) c zk
@[elab_as_elim] theorem wF{es:List ME}(c:aI G (.tup es) nm sl x=true)(zk:∀ xs k p,es.length<=100->eC G es nm sl xs=true->zP (.Tuple xs k p)):zP x:=mC (zP:=zP) c λa b d c=>zk a b d (of_decide_eq_true (ah c).1) (ah c).2
@[elab_as_elim] theorem wG{es:List ME}(c:aI G (.lst es) nm sl x=true)(zk:∀ xs p,es.length<=100->eC G es nm sl xs=true->zP (.List xs p)):zP x:=Cu (zP:=zP) c λa b c=>zk a b (of_decide_eq_true (ah c).1) (ah c).2
theorem yi{b:Bool}(h:(!b)=true):b=false:=by induction b with|false=>rfl|true=>exact ff h
@[elab_as_elim] theorem tL{o:ME}{a:Nat}(c:aI G (.attr o a) nm sl x=true)(zk:∀ y p,a<22->dI y=true->aI G o nm sl y=true->zP (.Attribute y (dW a) p)):zP x:=
 fZ (zP:=zP) c λy n p c=>
 let d:=ah (ah (ah c).1).1
 beq_iff_eq.mp d.1▸zk y p (of_decide_eq_true d.2) (ah (ah c).1).2 (ah c).2
@[elab_as_elim] theorem wH{o i:ME}(c:aI G (.idx o i) nm sl x=true)(zk:∀ y s p,isSlice s=false->aI G o nm sl y=true->aI G i nm sl s=true->zP (.Subscript y s p)):zP x:=
 iM (zP:=zP) c λy s p c=>zk y s p (yi (ah (ah c).1).1) (ah (ah c).1).2 (ah c).2
noncomputable def yj(G:Str->Option GV)(nm:bm)(sl:Sl)(m:ME)(x:Option Expr):Bool:=match x with|some x=>aI G m nm sl x&&!gG m|none=>gG m
@[elab_as_elim] theorem r8{o lo hi st:ME}(c:aI G (.slice o lo hi st) nm sl x=true)(zk:∀ y l u s p q,aI G o nm sl y=true->yj G nm sl lo l=true->yj G nm sl hi u=true->yj G nm sl st s=true->zP (.Subscript y (.Slice l u s p) q)):zP x:=
 iM (zP:=zP) c λy s q c=>
 Ak (zP:=λs=>zP (.Subscript y s q)) c λl u t p c=>
 zk y l u t p q (ah (ah (ah c).1).1).1 (ah (ah (ah c).1).1).2 (ah (ah c).1).2 (ah c).2
@[elab_as_elim] theorem wI{op:ki}{a b:ME}(c:aI G (.bin op a b) nm sl x=true)(zk:∀ y o z p,lR op o=true->aI G a nm sl y=true->aI G b nm sl z=true->zP (.BinOp y o z p)):zP x:=
 Ai (zP:=zP) c λy o z p c=>zk y o z p (ah (ah c).1).1 (ah (ah c).1).2 (ah c).2
@[elab_as_elim] theorem wJ{a:ME}(c:aI G (.neg a) nm sl x=true)(zk:∀ y p,aI G a nm sl y=true->zP (.UnaryOp .USub y p)):zP x:=
 og (zP:=zP) c λo y p c=>by
   induction o with
  |USub=>exact zk y p c
  |_=>exact ff c
@[elab_as_elim] theorem wK{a:ME}(c:aI G (.not a) nm sl x=true)(zk:∀ y p,aI G a nm sl y=true->zP (.UnaryOp .Not y p)):zP x:=
 og (zP:=zP) c λo y p c=>by
   induction o with
  |Not=>exact zk y p c
  |_=>exact ff c
theorem yk{α:Type}{l:List α}{f:α->Bool}{P:List α->Prop}(c:Eu l f=true)(k:∀ a,f a=true->P [a]):P l:=by
  induction l using List.casesOn with
 |nil=>exact ff c
 |cons a r=>induction r using List.casesOn with
   |nil=>exact k a c
   |cons=>exact ff c
theorem yl{α:Type}{l:List α}{f:α->α->Bool}{P:List α->Prop}(c:Ae l f=true)(k:∀ a b,f a b=true->P [a,b]):P l:=by
  induction l using List.casesOn with
 |nil=>exact ff c
 |cons a r=>exact yk (P:=λr=>P (a::r)) (f:=f a) c λb c=>k a b c
theorem nil_of{α:Type}{l:List α}{b:Bool}{P:List α->Prop}(c:ji l b=true)(k:b=true->P []):P l:=by
  induction l using List.casesOn with
 |nil=>exact k c
 |cons=>exact ff c
@[elab_as_elim] theorem qP{op:lV}{a b:ME}(c:aI G (.cmp op a b) nm sl x=true)(zk:∀ y o z p,my op o=true->gH z=true->aI G a nm sl y=true->aI G b nm sl z=true->zP (.Compare y [o] [z] p)):zP x:=
 oh (zP:=zP) c λy os zs p c=>
 yk (P:=λos=>zP (.Compare y os zs p)) c λo c=>
 yk (P:=λzs=>zP (.Compare y [o] zs p)) c λz c=>
 zk y o z p (ah (ah (ah c).1).1).1 (ah (ah (ah c).1).1).2 (ah (ah c).1).2 (ah c).2
@[elab_as_elim] theorem tM{op jX:lV}{a b d:ME}(c:aI G (.mn op jX a b d) nm sl x=true)(zk:∀ y o o' z w p,my op o=true->my jX o'=true->gH w=true->aI G a nm sl y=true->aI G b nm sl z=true->aI G d nm sl w=true->zP (.Compare y [o,o'] [z,w] p)):zP x:=
 oh (zP:=zP) c λy os zs p c=>
 yl (P:=λos=>zP (.Compare y os zs p)) c λo o' c=>
 yl (P:=λzs=>zP (.Compare y [o,o'] zs p)) c λz w c=>
 have c2:=(ah (ah (ah c).1).1)
 zk y o o' z w p (ah (ah c2.1).1).1 (ah (ah c2.1).1).2 (ah c2.1).2 c2.2 (ah (ah c).1).2 (ah c).2
@[elab_as_elim] theorem wL{es:List ME}(c:aI G (.and es) nm sl x=true)(zk:∀ xs p,2<=xs.length->eC G es nm sl xs=true->zP (.BoolOp .And xs p)):zP x:=
 pN (zP:=zP) c λo y p c=>by
   induction o with
  |And=>exact zk y p (of_decide_eq_true (ah c).1) (ah c).2
  |_=>exact ff c
@[elab_as_elim] theorem Am{es:List ME}(c:aI G (.or es) nm sl x=true)(zk:∀ xs p,2<=xs.length->eC G es nm sl xs=true->zP (.BoolOp .Or xs p)):zP x:=
 pN (zP:=zP) c λo y p c=>by
   induction o with
  |Or=>exact zk y p (of_decide_eq_true (ah c).1) (ah c).2
  |_=>exact ff c
@[elab_as_elim] theorem wM{t a b:ME}(c:aI G (.ay t a b) nm sl x=true)(zk:∀ y z w p,aI G t nm sl y=true->aI G a nm sl z=true->aI G b nm sl w=true->zP (.IfExp y z w p)):zP x:=
 Aj (zP:=zP) c λy o z p c=>zk y o z p (ah (ah c).1).1 (ah (ah c).1).2 (ah c).2
@[elab_as_elim] theorem i0{P:Str->Pos->List Expr->Bool}(c:(iY (xv x) λf xs ks _=>(ey (xv f) λn p=>ji ks (P n p xs)))=true)(zk:∀ n p xs q,P n p xs=true->zP (.Call (.Name n p) xs [] q)):zP x:=
 tH (zP:=zP) c λf xs ks q c=>
 eH (zP:=λf=>zP (.Call f xs ks q)) c λn p c=>
 nil_of (P:=λks=>zP (.Call (.Name n p) xs ks q)) c λc=>zk n p xs q c
@[elab_as_elim] theorem pO{P:Expr->Str->Pos->List Expr->Pos->Bool}(c:(iY (xv x) λf xs ks p=>(d9 (xv f) λy n ap=>ji ks (P y n ap xs p)))=true)(zk:∀ y n ap xs p,P y n ap xs p=true->zP (.Call (.Attribute y n ap) xs [] p)):zP x:=
 tH (zP:=zP) c λf xs ks q c=>
 fZ (zP:=λf=>zP (.Call f xs ks q)) c λy n ap c=>
 nil_of (P:=λks=>zP (.Call (.Attribute y n ap) xs ks q)) c λc=>zk y n ap xs q c
@[elab_as_elim] theorem tP{f:ME}{es:List ME}(c:aI G (.call f es) nm sl x=true)(zk:∀ n p xs q,aI G f nm sl (.Name n p)=true->eC G es nm sl xs=true->zP (.Call (.Name n p) xs [] q)):zP x:=
 i0 (zP:=zP) (P:=λn p xs=>aI G f nm sl (.Name n p)&&eC G es nm sl xs) c λn p xs q c=>zk n p xs q (ah c).1 (ah c).2
@[elab_as_elim] theorem wN{k:Nat}{es:List ME}(c:aI G (.new k es) nm sl x=true)(zk:∀ n p xs q,k<5->nM G nm n (λg=>match g with|.cls j=>j==k|_=>false)=true->eC G es nm sl xs=true->zP (.Call (.Name n p) xs [] q)):zP x:=
 i0 (zP:=zP) (P:=λn p xs=>decide (k<5)&&nM G nm n (λg=>match g with|.cls j=>j==k|_=>false)&&eC G es nm sl xs) c λn p xs q c=>zk n p xs q (of_decide_eq_true (ah (ah c).1).1) (ah (ah c).1).2 (ah c).2
@[elab_as_elim] theorem tQ{k:Pr}{es:List ME}(c:aI G (.prim k es) nm sl x=true)(zk:∀ p xs q,nM G nm (ni k) (λg=>match g with|.pr _=>true|_=>false)=true->eC G es nm sl xs=true->zP (.Call (.Name (ni k) p) xs [] q)):zP x:=
 i0 (zP:=zP) (P:=λn p xs=>n==ni k&&nM G nm n (λg=>match g with|.pr _=>true|_=>false)&&eC G es nm sl xs) c λn p xs q c=>by
  cases beq_iff_eq.mp (ah (ah c).1).1
  exact zk p xs q (ah (ah c).1).2 (ah c).2
@[elab_as_elim] theorem tS{o:ME}{m:Nat}{es:List ME}(c:aI G (.bp o m es) nm sl x=true)(zk:∀ y ap xs p,(100<=m/\m<119)->xs.length<20->(ap.endLine==p.line)=true->dI y=true->aI G o nm sl y=true->eC G es nm sl xs=true->zP (.Call (.Attribute y (mx m) ap) xs [] p)):zP x:=
 pO (zP:=zP) (P:=λy n ap xs p=>n==mx m&&decide (100<=m/\m<119)&&decide (xs.length<20)&&(ap.endLine==p.line)&&dI y&&aI G o nm sl y&&eC G es nm sl xs) c λy n ap xs p c=>by
  have d:=(ah (ah (ah c).1).1).1
  have g:=(ah (ah d).1).1
  cases beq_iff_eq.mp (ah g).1
  exact zk y ap xs p (of_decide_eq_true (ah g).2) (of_decide_eq_true (ah (ah d).1).2) (ah d).2 (ah (ah (ah c).1).1).2 (ah (ah c).1).2 (ah c).2
@[elab_as_elim] theorem jK{o:ME}{m:BM}{es:List ME}(c:aI G (.aS o m es) nm sl x=true)(zk:∀ y ap xs p,xs.length<20->(ap.endLine==p.line)=true->dI y=true->aI G o nm sl y=true->eC G es nm sl xs=true->zP (.Call (.Attribute y (pI m) ap) xs [] p)):zP x:=
 pO (zP:=zP) (P:=λy n ap xs p=>n==pI m&&decide (xs.length<20)&&(ap.endLine==p.line)&&dI y&&aI G o nm sl y&&eC G es nm sl xs) c λy n ap xs p c=>by
  have d:=(ah (ah (ah c).1).1).1
  cases beq_iff_eq.mp (ah (ah d).1).1
  exact zk y ap xs p (of_decide_eq_true (ah (ah d).1).2) (ah d).2 (ah (ah (ah c).1).1).2 (ah (ah c).1).2 (ah c).2
@[elab_as_elim] theorem tT{o:ME}{k:IK}(c:aI G (.isin o k) nm sl x=true)(zk:∀ n p y pz q,nM G nm n I3=true->nM G nm (sR k) (Qs k)=true->notStar y=true->aI G o nm sl y=true->zP (.Call (.Name n p) [y,.Name (sR k) pz] [] q)):zP x:=
 i0 (zP:=zP) (P:=λn _ xs=>Ae xs λy w=>(ey (xv w) λz _=>nM G nm n I3&&z==sR k&&nM G nm z (Qs k)&&notStar y&&aI G o nm sl y)) c λn p xs q c=>
 yl (P:=λxs=>zP (.Call (.Name n p) xs [] q)) c λy w c=>
 eH (zP:=λw=>zP (.Call (.Name n p) [y,w] [] q)) c λz pz c=>by
  have d:=(ah (ah c).1).1
  cases beq_iff_eq.mp (ah (ah d).1).2
  exact zk n p y pz q (ah (ah d).1).1 (ah d).2 (ah (ah c).1).2 (ah c).2
@[elab_as_elim] theorem tU{es:List ME}(c:aI G (.dict es) nm sl x=true)(zk:∀ ks us p,us.length<=15->yh G es nm sl ks us=true->zP (.Dict ks us p)):zP x:=
 Ct (zP:=zP) c λks us p c=>zk ks us p (of_decide_eq_true (ah c).1) (ah c).2
theorem tV{elt src:ME}{t:CT}{k:Nat}{cs:List ME}{gs:List Comprehension}{sc:Scope}{p:Pos}{P:List Comprehension->Prop}(c:aI G (.comp elt src t k cs) nm sl (.ListComp x gs sc p)=true)
    (zk:∀ tg it ifs,aI G (.comp elt src t k cs) nm sl (.ListComp x [⟨tg,it,ifs,0⟩] sc p)=true->P [⟨tg,it,ifs,0⟩]):P gs:=by
  induction gs using List.casesOn with
 |nil=>exact ff c
 |cons g gs=>
    obtain⟨tg,it,ifs,n⟩:=g
    induction n with
   |negSucc=>exact ff c
   |ofNat n=>induction n using Nat.casesOn with
     |succ=>exact ff c
     |zero=>induction gs using List.casesOn with
      |nil=>exact zk tg it ifs c
      |cons=>exact ff c
@[elab_as_elim] theorem tW{elt src:ME}{t:CT}{k:Nat}{cs:List ME}(c:aI G (.comp elt src t k cs) nm sl x=true)(zk:∀ y tg it ifs sc p,aI G (.comp elt src t k cs) nm sl (.ListComp y [⟨tg,it,ifs,0⟩] sc p)=true->zP (.ListComp y [⟨tg,it,ifs,0⟩] sc p)):zP x:=
 mB (zP:=λx=>aI G (.comp elt src t k cs) nm sl x=true->zP x) (f:=λ_ _ _ _=>true) (ah (b:=true) (show(Nat.beq (xv x).t 5&&true)=true from by rw[Bool.and_true];exact(ah c).1) |> λh=>show(Nat.beq (xv x).t 5&&true)=true from by rw[h.1];rfl)
  (λy gs sc p _ c=>tV (P:=λgs=>zP (.ListComp y gs sc p)) c λtg it ifs c=>zk y tg it ifs sc p c) c
section
variable {s:Stmt}{zS:Stmt->Prop}
@[elab_as_elim] theorem Cv{f:Expr->Pos->Bool}(c:z9 (sv s) f=true)(zk:∀ a b,f a b=true->zS (.Expr a b)):zS s:=pK (n:=0) (P:=zS) (ah c).1 (zk _ _ (ah c).2)
@[elab_as_elim] theorem ym{f:Option Expr->Pos->Bool}(c:tB (sv s) f=true)(zk:∀ a b,f a b=true->zS (.Return a b)):zS s:=pK (n:=1) (P:=zS) (ah c).1 (zk _ _ (ah c).2)
@[elab_as_elim] theorem yn{f:List Expr->Expr->Pos->Bool}(c:oF (sv s) f=true)(zk:∀ a b d,f a b d=true->zS (.Assign a b d)):zS s:=pK (n:=2) (P:=zS) (ah c).1 (zk _ _ _ (ah c).2)
@[elab_as_elim] theorem lS{f:Expr->Operator->Expr->Pos->Bool}(c:j1 (sv s) f=true)(zk:∀ a b d g,f a b d g=true->zS (.AugAssign a b d g)):zS s:=pK (n:=3) (P:=zS) (ah c).1 (zk _ _ _ _ (ah c).2)
@[elab_as_elim] theorem I5{f:Expr->List Stmt->List Stmt->Pos->Bool}(c:IW (sv s) f=true)(zk:∀ a b d g,f a b d g=true->zS (.If a b d g)):zS s:=pK (n:=4) (P:=zS) (ah c).1 (zk _ _ _ _ (ah c).2)
@[elab_as_elim] theorem r9{f:Expr->List Stmt->List Stmt->Pos->Bool}(c:qM (sv s) f=true)(zk:∀ a b d g,f a b d g=true->zS (.While a b d g)):zS s:=pK (n:=5) (P:=zS) (ah c).1 (zk _ _ _ _ (ah c).2)
@[elab_as_elim] theorem Gh{f:Expr->Expr->List Stmt->List Stmt->Pos->Bool}(c:Es (sv s) f=true)(zk:∀ a b d g h,f a b d g h=true->zS (.For a b d g h)):zS s:=pK (n:=6) (P:=zS) (ah c).1 (zk _ _ _ _ _ (ah c).2)
@[elab_as_elim] theorem An{f:Pos->Bool}(c:wC (sv s) f=true)(zk:∀ a,f a=true->zS (.Break a)):zS s:=pK (n:=7) (P:=zS) (ah c).1 (zk _ (ah c).2)
@[elab_as_elim] theorem tX{f:Pos->Bool}(c:pL (sv s) f=true)(zk:∀ a,f a=true->zS (.Continue a)):zS s:=pK (n:=8) (P:=zS) (ah c).1 (zk _ (ah c).2)
@[elab_as_elim] theorem Cw{e:ME}(c:pM G (.expr e) nm sl s=true)(zk:∀ x p,fT x=true->aI G e nm sl x=true->zS (.Expr x p)):zS s:=
 Cv (zS:=zS) (f:=λx _=>fT x&&aI G e nm sl x) c λx p c=>zk x p (ah c).1 (ah c).2
@[elab_as_elim] theorem Gi{e:ME}(c:pM G (.ret e) nm sl s=true)(zk:∀ x p,aI G e nm sl x=true->zS (.Return (some x) p)):zS s:=
 ym (zS:=zS) (f:=λx _=>match x with|some x=>aI G e nm sl x|_=>false) c λx p c=>by
   induction x with
  |none=>exact ff c
  |some x=>exact zk x p c
@[elab_as_elim] theorem wO{t:Tg}{e:ME}(c:pM G (.asg t e) nm sl s=true)(zk:∀ y x p,mz G t nm sl y=true->aI G e nm sl x=true->wE nm sl t y x=true->zS (.Assign [y] x p)):zS s:=
 yn (zS:=zS) (f:=λts x _=>match ts with|y::r=>(match r with|[]=>mz G t nm sl y&&aI G e nm sl x&&wE nm sl t y x|_=>false)|[]=>false) c λts x p c=>by
   induction ts using List.casesOn with
  |nil=>exact ff c
  |cons y r=>induction r using List.casesOn with
    |nil=>exact zk y x p (ah (ah c).1).1 (ah (ah c).1).2 (ah c).2
    |cons=>exact ff c
theorem Gj{P:Expr->Expr->Tg->Prop}{y:Expr}{t:Tg}(c:Af nm y x t=true)(zk:∀ n py e g sc px i,(nm.lookup n==some .local&&py.line==px.line&&!(sc.names.any λ(z,k)=>z==n&&(k==.local || k==.cell)))=true->P (.Name n py) (.ListComp e g sc px) (.loc i)):P y x t:=
 eH (zP:=λy=>P y x t) (f:=λn py=>jI (xv x) λ_ _ sc px=>sS t&&(nm.lookup n==some .local&&py.line==px.line&&!(sc.names.any λ(z,k)=>z==n&&(k==.local || k==.cell)))) c λn py c=>
 mB (zP:=λx=>P (.Name n py) x t) (f:=λ_ _ sc px=>sS t&&(nm.lookup n==some .local&&py.line==px.line&&!(sc.names.any λ(z,k)=>z==n&&(k==.local || k==.cell)))) c λe g sc px c=>by
   induction t using Tg.casesOn with
  |loc i=>exact zk n py e g sc px i c
  |_=>exact ff c
theorem Ev{ks:List (Option Expr)}{us:List Expr}(c:yh G [] nm sl ks us=true):ks=[]/\us=[]:=by
  induction ks using List.casesOn with
 |nil=>induction us using List.casesOn with
   |nil=>exact⟨rfl,rfl⟩
   |cons=>exact ff c
 |cons=>exact ff c
@[elab_as_elim] theorem Gk{i:Nat}{op:ki}{e:ME}(c:pM G (.aug i op e) nm sl s=true)(zk:∀ x xp o y p,lR op o=true->cf nm sl i x=true->aI G e nm sl y=true->zS (.AugAssign (.Name x xp) o y p)):zS s:=
 lS (zS:=zS) (f:=λz o y _=>(ey (xv z) λx _=>lR op o&&cf nm sl i x&&aI G e nm sl y)) c λz o y p c=>
 eH (zP:=λz=>zS (.AugAssign z o y p)) (f:=λx _=>lR op o&&cf nm sl i x&&aI G e nm sl y) c λx xp c=>zk x xp o y p (ah (ah c).1).1 (ah (ah c).1).2 (ah c).2
@[elab_as_elim] theorem Cy{o:ME}{a:Nat}{op:ki}{e:ME}(c:pM G (.lM o a op e) nm sl s=true)(zk:∀ x xp q y p,lR op q=true->a<22->dI x=true->aI G o nm sl x=true->aI G e nm sl y=true->zS (.AugAssign (.Attribute x (dW a) xp) q y p)):zS s:=
 lS (zS:=zS) (f:=λz q y _=>(d9 (xv z) λx n _=>lR op q&&n==dW a&&decide (a<22)&&dI x&&aI G o nm sl x&&aI G e nm sl y)) c λz q y p c=>
 fZ (zP:=λz=>zS (.AugAssign z q y p)) (f:=λx n _=>lR op q&&n==dW a&&decide (a<22)&&dI x&&aI G o nm sl x&&aI G e nm sl y) c λx n xp c=>by
  have d:=(ah (ah (ah c).1).1).1
  cases beq_iff_eq.mp (ah (ah d).1).2
  exact zk x xp q y p (ah (ah d).1).1 (of_decide_eq_true (ah d).2) (ah (ah (ah c).1).1).2 (ah (ah c).1).2 (ah c).2
@[elab_as_elim] theorem Gl{t:ME}{b o:List MS}(c:pM G (.ay t b o) nm sl s=true)(zk:∀ x y z p,aI G t nm sl x=true->kr G b nm sl y=true->kr G o nm sl z=true->zS (.If x y z p)):zS s:=
 I5 (zS:=zS) (f:=λx y z _=>aI G t nm sl x&&kr G b nm sl y&&kr G o nm sl z) c λx y z p c=>zk x y z p (ah (ah c).1).1 (ah (ah c).1).2 (ah c).2
@[elab_as_elim] theorem Gm{t:ME}{b:List MS}(c:pM G (.kj t b) nm sl s=true)(zk:∀ x y p,aI G t nm sl x=true->kr G b nm sl y=true->zS (.While x y [] p)):zS s:=
 r9 (zS:=zS) (f:=λx y z _=>ji z (aI G t nm sl x&&kr G b nm sl y)) c λx y z p c=>
 nil_of (P:=λz=>zS (.While x y z p)) c λc=>zk x y p (ah c).1 (ah c).2
@[elab_as_elim] theorem Gn{t:CT}{e:ME}{b:List MS}(c:pM G (.for t e b) nm sl s=true)(zk:∀ y x z p,oe nm sl t y=true->gH x=true->aI G e nm sl x=true->kr G b nm sl z=true->zS (.For y x z [] p)):zS s:=
 Gh (zS:=zS) (f:=λy x z o _=>ji o (oe nm sl t y&&gH x&&aI G e nm sl x&&kr G b nm sl z)) c λy x z o p c=>
 nil_of (P:=λo=>zS (.For y x z o p)) c λc=>zk y x z p (ah (ah (ah c).1).1).1 (ah (ah (ah c).1).1).2 (ah (ah c).1).2 (ah c).2
@[elab_as_elim] theorem Mr(c:pM G .brk nm sl s=true)(zk:∀ p,zS (.Break p)):zS s:=An (zS:=zS) (f:=λ_=>true) c λp _=>zk p
@[elab_as_elim] theorem I6(c:pM G .cont nm sl s=true)(zk:∀ p,zS (.Continue p)):zS s:=tX (zS:=zS) (f:=λ_=>true) c λp _=>zk p
@[elab_as_elim] theorem Gp{i:Nat}(c:pM G (.rep i) nm sl s=true)(zk:∀ x y e p p2,aI G (.cmp .isin (.lit (.str [40,41])) (.loc i)) nm sl x=true->mz G (.loc i) nm sl y=true->aI G (Ag i) nm sl e=true->wE nm sl (.loc i) y e=true->zS (.While x [.Assign [y] e p2] [] p)):zS s:=
 r9 (zS:=zS) (f:=λx y z _=>ji z (aI G (.cmp .isin (.lit (.str [40,41])) (.loc i)) nm sl x&&OW G i nm sl y)) c λx y z p c=>
 nil_of (P:=λz=>zS (.While x y z p)) c λc=>by
   have c1:=(ah c).1
   have c2:=(ah c).2
   clear c
   induction y using List.casesOn with
  |nil=>exact ff c2
  |cons st r=>induction r using List.casesOn with
    |cons=>exact ff c2
    |nil=>exact wO (zS:=λst=>zS (.While x [st] [] p)) (t:=.loc i) (e:=Ag i) c2 λy e p2 h1 h2 h3=>zk x y e p p2 c1 h1 h2 h3
theorem Ms{xs:List Stmt}(c:kr G [] nm sl xs=true):xs=[]:=by
  induction xs using List.casesOn with
 |nil=>rfl
 |cons=>exact ff c
@[elab_as_elim] theorem Cz{zL:List Stmt->Prop}{st:MS}{b:List MS}{xs:List Stmt}(c:kr G (st::b) nm sl xs=true)(zk:∀ x ys,pM G st nm sl x=true->kr G b nm sl ys=true->zL (x::ys)):zL xs:=by
  induction xs using List.casesOn with
 |nil=>exact ff c
 |cons x ys=>exact zk x ys (ah c).1 (ah c).2
@[elab_as_elim] theorem wP{i:Nat}(c:mz G (.loc i) nm sl x=true)(zk:∀ n p,cf nm sl i n=true->zP (.Name n p)):zP x:=eH (zP:=zP) (f:=λn _=>cf nm sl i n) c zk
@[elab_as_elim] theorem tY{o:ME}{a:Nat}(c:mz G (.attr o a) nm sl x=true)(zk:∀ y p,a<22->aI G o nm sl y=true->zP (.Attribute y (dW a) p)):zP x:=
 fZ (zP:=zP) (f:=λx n _=>n==dW a&&decide (a<22)&&aI G o nm sl x) c λy n p c=>by
  cases beq_iff_eq.mp (ah (ah c).1).1
  exact zk y p (of_decide_eq_true (ah (ah c).1).2) (ah c).2
@[elab_as_elim] theorem wQ{o i:ME}(c:mz G (.idx o i) nm sl x=true)(zk:∀ y s p,isSlice s=false->aI G o nm sl y=true->aI G i nm sl s=true->zP (.Subscript y s p)):zP x:=
 iM (zP:=zP) (f:=λx s _=>!isSlice s&&aI G o nm sl x&&aI G i nm sl s) c λy s p c=>zk y s p (yi (ah (ah c).1).1) (ah (ah c).1).2 (ah c).2
@[elab_as_elim] theorem wR{ts:List Tg}(c:mz G (.tup ts) nm sl x=true)(zk:∀ xs k p,mA G ts nm sl xs=true->zP (.Tuple xs k p)):zP x:=mC (zP:=zP) (f:=λxs _ _=>mA G ts nm sl xs) c zk
theorem Ao{xs:List Expr}(c:mA G [] nm sl xs=true):xs=[]:=by
  induction xs using List.casesOn with
 |nil=>rfl
 |cons=>exact ff c
@[elab_as_elim] theorem sa{zL:List Expr->Prop}{t:Tg}{ts:List Tg}{xs:List Expr}(c:mA G (t::ts) nm sl xs=true)(zk:∀ x ys,mz G t nm sl x=true->mA G ts nm sl ys=true->zL (x::ys)):zL xs:=by
  induction xs using List.casesOn with
 |nil=>exact ff c
 |cons x ys=>exact zk x ys (ah c).1 (ah c).2
theorem Ew{xs:List Expr}(c:oc nm sl [] xs=true):xs=[]:=by
  induction xs using List.casesOn with
 |nil=>rfl
 |cons=>exact ff c
@[elab_as_elim] theorem tZ{zL:List Expr->Prop}{i:Nat}{is:List Nat}{xs:List Expr}(c:oc nm sl (i::is) xs=true)(zk:∀ n p ys,cf nm sl i n=true->oc nm sl is ys=true->zL (.Name n p::ys)):zL xs:=by
  induction xs using List.casesOn with
 |nil=>exact ff c
 |cons x ys=>exact eH (x:=x) (zP:=λx=>zL (x::ys)) (f:=λn _=>cf nm sl i n&&oc nm sl is ys) c λn p c=>zk n p ys (ah c).1 (ah c).2
@[elab_as_elim] theorem Gq{i:Nat}(c:oe nm sl (.one i) x=true)(zk:∀ n p,cf nm sl i n=true->zP (.Name n p)):zP x:=eH (zP:=zP) (f:=λn _=>cf nm sl i n) c zk
@[elab_as_elim] theorem t8{is:List Nat}(c:oe nm sl (.many is) x=true)(zk:∀ xs k p,oc nm sl is xs=true->zP (.Tuple xs k p)):zP x:=mC (zP:=zP) (f:=λxs _ _=>oc nm sl is xs) c zk
end
end
section
variable {P:Pg}{call:bX}{l:Lo}{H H':Hp}{v:V}
theorem ax{α β:Type}{m:Option (α×Hp)}{f:α->Hp->Option β}{r:β}(e:br m f=some r){zg:Prop}(zk:∀ a H,(m=some (a,H))->(f a H=some r)->zg):zg:=by
 unfold br at e
 split at e
 ·exact zk _ _ rfl e
 ·exact nn e
theorem Gs{α β:Type}{m:Option (α×Hp)}{f:α->Hp->Option β}{r:β}(e:br m f=some r):∃ a H,m=some (a,H)/\f a H=some r:=ax e λa H cO cY=>⟨a,H,cO,cY⟩
theorem Ex{u:V}(e:av P call (.lit u) l H=some (v,H')):u=v/\H=H':=by
 have e:some (u,H)=some (v,H'):=e
 cases e;exact⟨rfl,rfl⟩
theorem I7{u:V}(e:av P call (.glob u) l H=some (v,H')):u=v/\H=H':=by
 have e:some (u,H)=some (v,H'):=e
 cases e;exact⟨rfl,rfl⟩
theorem Mt{i:Nat}(e:av P call (.loc i) l H=some (v,H')):l[i]?=some (some v)/\H=H':=by
  have e:(match l[i]? with|some (some v)=>some (v,H)|_=>none)=some (v,H'):=e
  cases h:l[i]? with
 |none=>rw[h] at e;exact nn e
 |some o=>induction o with
   |none=>rw[h] at e;exact nn e
   |some u=>rw[h] at e;cases e;exact⟨rfl,rfl⟩
theorem Gu{es:List ME}(e:av P call (.tup es) l H=some (v,H')){zg:Prop}(zk:∀ vs,(ei P call es l H=some (vs,H'))->(v=.tup vs)->zg):zg:=by
 refine ax (m:=ei P call es l H) e λvs H1 e1 e=>?_
 cases e;exact zk vs e1 rfl
theorem Gv{es:List ME}(e:av P call (.lst es) l H=some (v,H')){zg:Prop}(zk:∀ vs H1,(ei P call es l H=some (vs,H1))->(v=.loc H1.length)->(H'=H1++[.list vs])->zg):zg:=by
 refine ax (m:=ei P call es l H) e λvs H1 e1 e=>?_
 cases e;exact zk vs H1 e1 rfl rfl
theorem CA{o:ME}{a:Nat}(e:av P call (.attr o a) l H=some (v,H')){zg:Prop}(zk:∀ ov,(av P call o l H=some (ov,H'))->(lP H' ov a=some v)->zg):zg:=by
  refine ax (m:=av P call o l H) e λov H1 e1 e=>?_
  cases h:lP H1 ov a with
 |none=>rw[h] at e;exact nn e
 |some u=>rw[h] at e;cases e;exact zk ov e1 h
theorem Gw{o i:ME}(e:av P call (.idx o i) l H=some (v,H')){zg:Prop}(zk:∀ ov H1 iv,(av P call o l H=some (ov,H1))->(av P call i l H1=some (iv,H'))->(jg H' ov iv=some v)->zg):zg:=by
  refine ax (m:=av P call o l H) e λov H1 e1 e=>?_
  refine ax (m:=av P call i l H1) e λiv H2 e2 e=>?_
  cases h:jg H2 ov iv with
 |none=>rw[h] at e;exact nn e
 |some u=>rw[h] at e;cases e;exact zk ov H1 iv e1 e2 h
theorem Ap{o lo hi st:ME}{r:V×Hp}(e:av P call (.slice o lo hi st) l H=some r){zg:Prop}(zk:∀ ov H1 lv H2 uv H3 tv H4,(av P call o l H=some (ov,H1))->(av P call lo l H1=some (lv,H2))->(av P call hi l H2=some (uv,H3))->(av P call st l H3=some (tv,H4))->(jE ov lv uv tv H4=some r)->zg):zg:=by
 refine ax (m:=av P call o l H) e λov H1 e1 e=>?_
 refine ax (m:=av P call lo l H1) e λlv H2 e2 e=>?_
 refine ax (m:=av P call hi l H2) e λuv H3 e3 e=>?_
 refine ax (m:=av P call st l H3) e λtv H4 e4 e=>?_
 exact zk ov H1 lv H2 uv H3 tv H4 e1 e2 e3 e4 e
theorem Gy{op:ki}{a b:ME}{r:V×Hp}(e:av P call (.bin op a b) l H=some r){zg:Prop}(zk:∀ x H1 y H2,(av P call a l H=some (x,H1))->(av P call b l H1=some (y,H2))->(tn op x y H2=some r)->zg):zg:=by
 refine ax (m:=av P call a l H) e λov H1 e1 e=>?_
 refine ax (m:=av P call b l H1) e λiv H2 e2 e=>?_
 exact zk ov H1 iv H2 e1 e2 e
theorem Gz{a:ME}(e:av P call (.neg a) l H=some (v,H')){zg:Prop}(zk:∀ i,(av P call a l H=some (.int i,H'))->(v=.int (-i))->zg):zg:=by
 refine ax (m:=av P call a l H) e λov H1 e1 e=>?_
 induction ov using V.casesOn <;> first|(cases e;exact zk _ e1 rfl)|exact nn e
theorem wS{a:ME}(e:av P call (.not a) l H=some (v,H')){zg:Prop}(zk:∀ b,(av P call a l H=some (.bool b,H'))->(v=.bool (!b))->zg):zg:=by
 refine ax (m:=av P call a l H) e λov H1 e1 e=>?_
 induction ov using V.casesOn <;> first|(cases e;exact zk _ e1 rfl)|exact nn e
theorem mD{o:Option Bool}{H:Hp}{r:V×Hp}(e:(match o with|some r=>some (V.bool r,H)|none=>none)=some r){zg:Prop}(zk:∀ b,(o=some b)->((V.bool b,H)=r)->zg):zg:=by
  induction o with
 |none=>exact nn e
 |some b=>exact zk b rfl (bU e)
theorem GA{op:lV}{a b:ME}{r:V×Hp}(e:av P call (.cmp op a b) l H=some r){zg:Prop}(zk:∀ x H1 y H2 q,(av P call a l H=some (x,H1))->(av P call b l H1=some (y,H2))->(cE H2 op x y=some q)->((V.bool q,H2)=r)->zg):zg:=by
 refine ax (m:=av P call a l H) e λov H1 e1 e=>?_
 refine ax (m:=av P call b l H1) e λiv H2 e2 e=>?_
 refine mD e λq h e=>?_
 exact zk ov H1 iv H2 q e1 e2 h e
theorem t9{op jX:lV}{a b c:ME}{r:V×Hp}(e:av P call (.mn op jX a b c) l H=some r){zg:Prop}(zk:∀ x H1 y H2,(av P call a l H=some (x,H1))->(av P call b l H1=some (y,H2))->(((cE H2 op x y=some true/\∃ z H3 q,av P call c l H2=some (z,H3)/\cE H3 jX y z=some q/\(V.bool q,H3)=r)\/(cE H2 op x y=some false/\(V.bool false,H2)=r)))->zg):zg:=by
  refine ax (m:=av P call a l H) (f:=λa H=>br (av P call b l H) λb H=>(match cE H op a b with
   |some true=>br (av P call c l H) λc H=>(match cE H jX b c with|some r=>some (V.bool r,H)|none=>none)
   |some false=>some (V.bool false,H)
   |none=>none)) e λov H1 e1 e=>?_
  refine ax (m:=av P call b l H1) e λiv H2 e2 e=>?_
  refine zk ov H1 iv H2 e1 e2 ?_
  cases h:cE H2 op ov iv with
 |none=>rw[h] at e;exact nn e
 |some q=>
    rw[h] at e
    induction q with
   |false=>exact .inr ⟨rfl,bU e⟩
   |true=>
     refine ax (m:=av P call c l H2) e λz H3 e3 e=>?_
     refine mD e λq h2 e=>?_
     exact .inl ⟨rfl,z,H3,q,e3,h2,e⟩
theorem Ey{t a b:ME}{r:V×Hp}(e:av P call (.ay t a b) l H=some r):∃ H1,(av P call t l H=some (.bool true,H1)/\av P call a l H1=some r)\/(av P call t l H=some (.bool false,H1)/\av P call b l H1=some r):=by
  refine ax (m:=av P call t l H) e λov H1 e1 e=>?_
  induction ov using V.casesOn with
 |bool q=>induction q with
   |true=>exact⟨H1,.inl ⟨e1,e⟩⟩
   |false=>exact⟨H1,.inr ⟨e1,e⟩⟩
 |_=>exact nn e
theorem CB{f:ME}{es:List ME}{r:V×Hp}(e:av P call (.call f es) l H=some r){zg:Prop}(zk:∀ k H1 vs H2,(av P call f l H=some (.fn k,H1))->(ei P call es l H1=some (vs,H2))->(call k vs H2=some r)->zg):zg:=by
 obtain⟨k,H1,vs,H2,cO,cY,iJ⟩:∃ k H1 vs H2,av P call f l H=some (.fn k,H1)/\ei P call es l H1=some (vs,H2)/\call k vs H2=some r:=by
  refine ax (m:=av P call f l H) e λov H1 e1 e=>?_
  refine ax (m:=ei P call es l H1) e λvs H2 e2 e=>?_
  induction ov using V.casesOn <;> first|exact⟨_,_,_,_,e1,e2,e⟩|exact nn e
 exact zk k H1 vs H2 cO cY iJ
theorem GB{c:Nat}{es:List ME}(e:av P call (.new c es) l H=some (v,H')){zg:Prop}(zk:∀ vs H1 ci,(ei P call es l H=some (vs,H1))->(P.cls[c]?=some ci)->(call ci.init (.loc H1.length::vs) (H1++[.inst c []])=some (.none,H'))->(v=.loc H1.length)->zg):zg:=by
 obtain⟨vs,H1,ci,cO,cY,iJ,CC⟩:∃ vs H1 ci,ei P call es l H=some (vs,H1)/\P.cls[c]?=some ci/\call ci.init (.loc H1.length::vs) (H1++[.inst c []])=some (.none,H')/\v=.loc H1.length:=by
   refine ax (m:=ei P call es l H) (f:=λvs H=>(match P.cls[c]? with
    |some ci=>br (call ci.init (.loc H.length::vs) (H++[.inst c []])) λr H'=>(match r with|.none=>some (V.loc H.length,H')|_=>none)
    |none=>none)) e λvs H1 e1 e=>?_
   cases h:P.cls[c]? with
  |none=>rw[h] at e;exact nn e
  |some ci=>
     rw[h] at e
     refine ax (m:=call ci.init (.loc H1.length::vs) (H1++[.inst c []])) e λr H2 e2 e=>?_
     induction r using V.casesOn <;> first|(cases e;exact⟨vs,H1,ci,e1,rfl,e2,rfl⟩)|exact nn e
 exact zk vs H1 ci cO cY iJ CC
theorem CD{o:ME}{m:Nat}{es:List ME}{r:V×Hp}(e:av P call (.bp o m es) l H=some r){zg:Prop}(zk:∀ n H1 c fs ci k vs H2,(av P call o l H=some (.loc n,H1))->(H1[n]?=some (.inst c fs))->(P.cls[c]?=some ci)->(eg m ci.meths=some k)->(ei P call es l H1=some (vs,H2))->(call k (.loc n::vs) H2=some r)->zg):zg:=by
  refine ax (m:=av P call o l H) (f:=λo H=>(match o with
   |.loc n=>(match H[n]? with
     |some (.inst c _)=>(match P.cls[c]? with
      |some ci=>(match eg m ci.meths with
        |some k=>br (ei P call es l H) λvs H=>call k (o::vs) H
        |none=>none)
      |none=>none)
     |_=>none)
   |_=>none)) e λov H1 e1 e=>?_
  induction ov using V.casesOn with
 |loc n=>
    dsimp only at e
    cases h:H1[n]? with
   |none=>rw[h] at e;exact nn e
   |some ob=>induction ob with
     |inst c fs=>
       rw[h] at e
       dsimp only at e
       cases h2:P.cls[c]? with
      |none=>rw[h2] at e;exact nn e
      |some ci=>
         rw[h2] at e
         dsimp only at e
         cases h3:eg m ci.meths with
        |none=>rw[h3] at e;exact nn e
        |some k=>
          rw[h3] at e
          refine ax e λvs H2 e2 e=>?_
          exact zk n H1 c fs ci k vs H2 e1 h h2 h3 e2 e
     |_=>rw[h] at e;exact nn e
 |_=>exact nn e
theorem Aq{o:ME}{m:BM}{es:List ME}{r:V×Hp}(e:av P call (.aS o m es) l H=some r){zg:Prop}(zk:∀ ov H1 vs H2,(av P call o l H=some (ov,H1))->(zZ m ov H1=true)->(ei P call es l H1=some (vs,H2))->(qK m ov vs H2=some r)->zg):zg:=by
  refine ax (m:=av P call o l H) e λov H1 e1 e=>?_
  cases h:zZ m ov H1 with
 |false=>rw[h] at e;exact nn e
 |true=>
   rw[h] at e
   refine ax (m:=ei P call es l H1) e λvs H2 e2 e=>?_
   exact zk ov H1 vs H2 e1 h e2 e
theorem CE{p:Pr}{es:List ME}{r:V×Hp}(e:av P call (.prim p es) l H=some r){zg:Prop}(zk:∀ vs H1,(ei P call es l H=some (vs,H1))->(gE p vs H1=some r)->zg):zg:=by
 obtain⟨vs,H1,cO,cY⟩:∃ vs H1,ei P call es l H=some (vs,H1)/\gE p vs H1=some r:=Gs (m:=ei P call es l H) e
 exact zk vs H1 cO cY
theorem CF{o:ME}{k:IK}(e:av P call (.isin o k) l H=some (v,H')){zg:Prop}(zk:∀ ov b,(av P call o l H=some (ov,H'))->(IP ov k=some b)->(v=.bool b)->zg):zg:=by
 refine ax (m:=av P call o l H) e λov H1 e1 e=>?_
 refine mD e λb h e=>?_
 cases e;exact zk ov b e1 h rfl
theorem CG{elt src:ME}{t:CT}{k:Nat}{cs:List ME}(e:av P call (.comp elt src t k cs) l H=some (v,H')){zg:Prop}(zk:∀ sv H1 vQ vs H2,(av P call src l H=some (sv,H1))->(gg H1 sv=some vQ)->(cP (λl H=>jy P call cs l H) (λl H=>av P call elt l H) t (l++List.replicate k none) 1048576 vQ [] H1=some (vs,H2))->(vs.length<=lim)->(v=.loc H2.length)->(H'=H2++[.list vs])->zg):zg:=by
  refine ax (m:=av P call src l H) (f:=λs H=>(match gg H s with
   |some it=>br (cP (λl H=>jy P call cs l H) (λl H=>av P call elt l H) t (l++List.replicate k none) 1048576 it [] H) λvs H=>
      if vs.length<=lim then some (V.loc H.length,H++[O.list vs]) else none
   |none=>none)) e λsv H1 e1 e=>?_
  cases h:gg H1 sv with
 |none=>rw[h] at e;exact nn e
 |some vQ=>
    rw[h] at e
    refine ax e λvs H2 e2 e=>?_
    by_cases hl:vs.length<=lim
    ·rw[if_pos hl] at e
     cases e
     exact zk sv H1 vQ vs H2 e1 h e2 hl rfl rfl
    ·rw[if_neg hl] at e;exact nn e
theorem CH{es:List ME}(e:av P call (.dict es) l H=some (v,H')){zg:Prop}(zk:∀ ds H1,(jx P call es l H=some (ds,H1))->(v=.loc H1.length)->(H'=H1++[.dict ds])->zg):zg:=by
 refine ax (m:=jx P call es l H) e λvs H1 e1 e=>?_
 cases e;exact zk vs H1 e1 rfl rfl
theorem pP{β:Type}{m:Option (Lo×Hp)}{f:Lo->Hp->Option β}{r:β}(e:z3 m f=some r){zg:Prop}(zk:∀ l H,(m=some (l,H))->(f l H=some r)->zg):zg:=by
  induction m with
 |none=>exact nn e
 |some z=>exact zk z.1 z.2 rfl e
section
variable {r:Fl×Lo×Hp}
theorem CK{e0:ME}(e:dD P call (.expr e0) l H=some r){zg:Prop}(zk:∀ v H1,(av P call e0 l H=some (v,H1))->((Fl.next,l,H1)=r)->zg):zg:=by
 refine ax (m:=av P call e0 l H) e λv H1 e1 e=>?_
 exact zk v H1 e1 (bU e)
theorem GC{e0:ME}(e:dD P call (.ret e0) l H=some r){zg:Prop}(zk:∀ v H1,(av P call e0 l H=some (v,H1))->((Fl.ret v,l,H1)=r)->zg):zg:=by
 refine ax (m:=av P call e0 l H) e λv H1 e1 e=>?_
 exact zk v H1 e1 (bU e)
theorem qQ{t:Tg}{e0:ME}(e:dD P call (.asg t e0) l H=some r){zg:Prop}(zk:∀ v H1 l1 H2,(av P call e0 l H=some (v,H1))->(fc (av P call) t v l H1=some (l1,H2))->((Fl.next,l1,H2)=r)->zg):zg:=by
 refine ax (m:=av P call e0 l H) e λv H1 e1 e=>?_
 refine pP (m:=fc (av P call) t v l H1) e λl1 H2 e2 e=>?_
 exact zk v H1 l1 H2 e1 e2 (bU e)
theorem Mu{t:Tg}{e0:ME}(e:dD P call (.asg t e0) l H=some r):∃ v H1 l1 H2,av P call e0 l H=some (v,H1)/\fc (av P call) t v l H1=some (l1,H2)/\(Fl.next,l1,H2)=r:=qQ e λv H1 l1 H2 cO cY iJ=>⟨v,H1,l1,H2,cO,cY,iJ⟩
theorem Mv{t:ME}{b o:List MS}(e:dD P call (.ay t b o) l H=some r):∃ H1,(av P call t l H=some (.bool true,H1)/\aQ P call b l H1=some r)\/(av P call t l H=some (.bool false,H1)/\aQ P call o l H1=some r):=by
  refine ax (m:=av P call t l H) e λv H1 e1 e=>?_
  induction v using V.casesOn with
 |bool q=>induction q with
   |true=>exact⟨H1,.inl ⟨e1,e⟩⟩
   |false=>exact⟨H1,.inr ⟨e1,e⟩⟩
 |_=>exact nn e
theorem GD{t:CT}{e0:ME}{b:List MS}(e:dD P call (.for t e0 b) l H=some r){zg:Prop}(zk:∀ v H1 it,(av P call e0 l H=some (v,H1))->(gg H1 v=some it)->(dF t (λl H=>aQ P call b l H) 1048576 it l H1=some r)->zg):zg:=by
  refine ax (m:=av P call e0 l H) (f:=λv H=>(match gg H v with
   |some it=>dF t (λl H=>aQ P call b l H) 1048576 it l H
   |none=>none)) e λv H1 e1 e=>?_
  cases h:gg H1 v with
 |none=>rw[h] at e;exact nn e
 |some it=>rw[h] at e;exact zk v H1 it e1 h e
theorem GF{i:Nat}{op:ki}{e0:ME}(e:dD P call (.aug i op e0) l H=some r){zg:Prop}(zk:∀ a b H1 q,(l[i]?=some (some a))->(av P call e0 l H=some (b,H1))->(lO op a b=some q)->((Fl.next,l.set i (some q),H1)=r)->zg):zg:=by
 obtain⟨a,b,H1,q,cO,cY,iJ,CC⟩:∃ a b H1 q,l[i]?=some (some a)/\av P call e0 l H=some (b,H1)/\lO op a b=some q/\(Fl.next,l.set i (some q),H1)=r:=by
   obtain⟨a,h,e⟩:∃ a,l[i]?=some (some a)/\br (av P call e0 l H) (λb H=>(match lO op a b with|some r=>(some (.next,l.set i (some r),H):SR)|none=>none))=some r:=by
     have e:(match l[i]? with
      |some (some a)=>br (av P call e0 l H) λb H=>(match lO op a b with|some r=>(some (.next,l.set i (some r),H):SR)|none=>none)
      |_=>none)=some r:=e
     cases h:l[i]? with
    |none=>rw[h] at e;exact nn e
    |some z=>induction z with
      |none=>rw[h] at e;exact nn e
      |some a=>rw[h] at e;exact⟨a,rfl,e⟩
   refine ax e λb H1 e1 e=>?_
   cases h2:lO op a b with
  |none=>rw[h2] at e;exact nn e
  |some q=>rw[h2] at e;exact⟨a,b,H1,q,h,e1,h2,bU e⟩
 exact zk a b H1 q cO cY iJ CC
theorem CL{o:ME}{a:Nat}{op:ki}{e0:ME}(e:dD P call (.lM o a op e0) l H=some r){zg:Prop}(zk:∀ ov H1 u b H2 q H3,(av P call o l H=some (ov,H1))->(lP H1 ov a=some u)->(av P call e0 l H1=some (b,H2))->(lO op u b=some q)->(kn H2 ov a q=some H3)->((Fl.next,l,H3)=r)->zg):zg:=by
  refine ax (m:=av P call o l H) (f:=λo H=>(match lP H o a with
   |some x=>br (av P call e0 l H) λb H=>(match lO op x b with|some r=>(match kn H o a r with|some H=>(some (.next,l,H):SR)|none=>none)|none=>none)
   |none=>none)) e λov H1 e1 e=>?_
  cases h:lP H1 ov a with
 |none=>rw[h] at e;exact nn e
 |some u=>
    rw[h] at e
    refine ax (m:=av P call e0 l H1) e λb H2 e2 e=>?_
    cases h2:lO op u b with
   |none=>rw[h2] at e;exact nn e
   |some q=>
      rw[h2] at e
      dsimp only at e
      cases h3:kn H2 ov a q with
     |none=>rw[h3] at e;exact nn e
     |some H3=>rw[h3] at e;exact zk ov H1 u b H2 q H3 e1 h e2 h2 h3 (bU e)
end
section
variable {ev:ME->Lo->Hp->Option (V×Hp)}{l1:Lo}
theorem CM{o:ME}{a:Nat}(e:fc ev (.attr o a) v l H=some (l1,H')){zg:Prop}(zk:∀ ov H1,(ev o l H=some (ov,H1))->(kn H1 ov a v=some H')->(l=l1)->zg):zg:=by
  refine ax (m:=ev o l H) e λov H1 e1 e=>?_
  cases h:kn H1 ov a v with
 |none=>rw[h] at e;exact nn e
 |some H2=>rw[h] at e;cases e;exact zk ov H1 e1 h rfl
theorem GH{o i:ME}(e:fc ev (.idx o i) v l H=some (l1,H')){zg:Prop}(zk:∀ ov H1 iv H2,(ev o l H=some (ov,H1))->(ev i l H1=some (iv,H2))->(tq H2 ov iv v=some H')->(l=l1)->zg):zg:=by
  refine ax (m:=ev o l H) e λov H1 e1 e=>?_
  refine ax (m:=ev i l H1) e λiv H2 e2 e=>?_
  cases h:tq H2 ov iv v with
 |none=>rw[h] at e;exact nn e
 |some H3=>rw[h] at e;cases e;exact zk ov H1 iv H2 e1 e2 h rfl
theorem wT{ts:List Tg}{r:Lo×Hp}(e:fc ev (.tup ts) v l H=some r){zg:Prop}(zk:∀ vs,(jH H v=some vs)->(dN ev ts vs l H=some r)->zg):zg:=by
 obtain⟨vs,cO,cY⟩:∃ vs,jH H v=some vs/\dN ev ts vs l H=some r:=by
   have e:(match jH H v with|some vs=>dN ev ts vs l H|none=>none)=some r:=e
   cases h:jH H v with
  |none=>rw[h] at e;exact nn e
  |some vs=>rw[h] at e;exact⟨vs,rfl,e⟩
 exact zk vs cO cY
theorem Mw{ts:List Tg}{r:Lo×Hp}(e:fc ev (.tup ts) v l H=some r):∃ vs,jH H v=some vs/\dN ev ts vs l H=some r:=wT e λvs cO cY=>⟨vs,cO,cY⟩
end
end
end Mine
namespace Mine
noncomputable abbrev As:=List (Addr×Option Addr)
noncomputable def owned(as:As):List Addr:=as.flatMap λp=>p.1::p.2.toList
inductive Im where
 |tup (ws:List Value)|ro (ws:List Value)|cm (a b c:Int)
noncomputable abbrev TS:=Addr->Im->Prop
structure b0 where
 prog:Program
 w:World
 P:Pg
 K:Frag
 fa:List Nat
 ca:List Nat
 G:Str->Option GV
 T0:TS
 h0:Heap
mutual
inductive VR(fa:List Nat)(as:As)(T:TS):V->Value->Prop
 |none:VR fa as T .none .none
 |bool (b:Bool):VR fa as T (.bool b) (.bool b)
 |int (i:Int) (t:Tok):VR fa as T (.int i) (.int i t)
 |str (s:List Nat) (t:Tok):s.length<=lim->VR fa as T (.str s) (.str ⟨s.toArray⟩ t)
 |tup {a:Addr} {l:List V} {ws:List Value}:T a (.tup ws)->l.length<=lim->bq fa as T l ws->VR fa as T (.tup l) (.ref a)
 |ro {a:Addr} {l:List V} {ws:List Value}:T a (.ro ws)->l.length<=lim->bq fa as T l ws->VR fa as T (.ro l) (.ref a)
 |cm {a:Addr} {i j k:Int}:T a (.cm i j k)->VR fa as T (.cm i j k) (.ref a)
 |loc {n:Nat} {p:Addr×Option Addr}:as[n]?=some p->VR fa as T (.loc n) (.ref p.1)
 |fn {k:Nat} {a:Addr}:fa[k]?=some a->VR fa as T (.fn k) (.ref a)
inductive bq(fa:List Nat)(as:As)(T:TS):List V->List Value->Prop
 |nil:bq fa as T [] []
 |cons {v:V} {w:Value} {l:List V} {ws:List Value}:VR fa as T v w->bq fa as T l ws->bq fa as T (v::l) (w::ws)
end
structure eO(as:As)(T:TS)(as':As)(T':TS):Prop where
 GI:∀(n:Nat)(p:Addr×Option Addr),as[n]?=some p->as'[n]?=some p
 tx:∀(a:Addr)(i:Im),T a i->T' a i
theorem eO.refl(as:As)(T:TS):eO as T as T:=⟨λ_ _ e=>e,λ_ _ e=>e⟩
theorem eO.trans{as as' OX:As}{T T' SY:TS}(x:eO as T as' T')(y:eO as' T' OX SY):eO as T OX SY:=⟨λn p e=>y.GI n p (x.GI n p e),λa i e=>y.tx a i (x.tx a i e)⟩
theorem VR.mono{fa:List Nat}{as as':As}{T T':TS}(m:eO as T as' T'){v:V}{w:Value}(x:VR fa as T v w):VR fa as' T' v w:=
 VR.rec (motive_1:=λv w _=>VR fa as' T' v w) (motive_2:=λl ws _=>bq fa as' T' l ws) .none .bool .int (λs t h=>.str s t h) (λh k _ r=>.tup (m.tx _ _ h) k r) (λh k _ r=>.ro (m.tx _ _ h) k r) (λh=>.cm (m.tx _ _ h)) (λh=>.loc (m.GI _ _ h)) (λh=>.fn h) .nil (λ_ _ h r=>.cons h r) x
section
variable {fa:List Nat}{as:As}{T:TS}
section
variable {P:List Value->Prop}{ws:List Value}
@[elab_as_elim] theorem oi(x:bq fa as T [] ws)(zk:P []):P ws:=by cases x;exact zk
@[elab_as_elim] theorem jL{a:V}{r:List V}(x:bq fa as T (a::r) ws)(zk:∀ w us,VR fa as T a w->bq fa as T r us->P (w::us)):P ws:=by
  cases x with
 |cons h r=>exact zk _ _ h r
end
variable {l m:List V}{ws us:List Value}{v:V}{w:Value}
theorem bq.mono{as':As}{T':TS}(m:eO as T as' T')(x:bq fa as T l ws):bq fa as' T' l ws:=by
  induction l generalizing ws with
 |nil=>exact oi x .nil
 |cons a r ih=>exact jL x λw us h y=>.cons (h.mono m) (ih y)
theorem bq.length(x:bq fa as T l ws):ws.length=l.length:=by
  induction l generalizing ws with
 |nil=>exact oi x rfl
 |cons a r ih=>exact jL x λw us _ y=>congrArg (· + 1) (ih y)
theorem bq.get(n:Nat)(x:bq fa as T l ws)(e:l[n]?=some v):∃ w,ws[n]?=some w/\VR fa as T v w:=by
  induction l generalizing ws n with
 |nil=>exact nn e
 |cons a r ih=>
    refine jL x λw us h y=>?_
    match n,e with
   |0,e=>exact⟨w,rfl,bU e▸h⟩
   |n+1,e=>exact ih n y e
theorem bq.append(x:bq fa as T l ws)(q:bq fa as T m us):bq fa as T (l++m) (ws++us):=by
  induction l generalizing ws with
 |nil=>exact oi x q
 |cons a r ih=>exact jL x λw us h y=>.cons h (ih y)
theorem bq.set(n:Nat)(x:bq fa as T l ws)(q:VR fa as T v w):bq fa as T (l.set n v) (ws.set n w):=by
  induction l generalizing ws n with
 |nil=>exact oi x .nil
 |cons a r ih=>
    refine jL x λw us h y=>?_
    match n with
   |0=>exact .cons q y
   |n+1=>exact .cons h (ih n y)
theorem bq.take(n:Nat)(x:bq fa as T l ws):bq fa as T (l.take n) (ws.take n):=by
  induction l generalizing ws n with
 |nil=>exact oi x (by rw[List.take_nil,List.take_nil];exact .nil)
 |cons a r ih=>
    refine jL x λw us h y=>?_
    match n with
   |0=>exact .nil
   |n+1=>exact .cons h (ih n y)
theorem bq.drop(n:Nat)(x:bq fa as T l ws):bq fa as T (l.drop n) (ws.drop n):=by
  induction l generalizing ws n with
 |nil=>exact oi x (by rw[List.drop_nil,List.drop_nil];exact .nil)
 |cons a r ih=>
    match n with
   |0=>exact x
   |n+1=>exact jL x λw us h y=>ih n y
theorem bq.reverse(x:bq fa as T l ws):bq fa as T l.reverse ws.reverse:=by
  induction l generalizing ws with
 |nil=>exact oi x .nil
 |cons a r ih=>
   refine jL x λw us h y=>?_
   rw[eM,eM]
   exact bq.append (ih y) (.cons h .nil)
end
section
variable {as:As}{T:TS}{w:Value}{fa:List Nat}{β:Type}{a:V}{r:β}{zg:Prop}
theorem gI{f:Nat->Option β}(e:pD a f=some r)(v:VR fa as T a w)(zk:∀ n,VR fa as T (.loc n) w->f n=some r->zg):zg:=rV e λn h e1=>zk n (h▸v) e1
theorem Mx{f:List V->Option β}(e:Qh a f=some r)(v:VR fa as T a w)(zk:∀ n,VR fa as T (.tup n) w->f n=some r->zg):zg:=zX e λn h e1=>zk n (h▸v) e1
theorem f8{f:List Nat->Option β}(e:mq a f=some r)(v:VR fa as T a w)(zk:∀ n,VR fa as T (.str n) w->f n=some r->zg):zg:=rU e λn h e1=>zk n (h▸v) e1
theorem fg{f:Int->Option β}(e:gX a f=some r)(v:VR fa as T a w)(zk:∀ n,VR fa as T (.int n) w->f n=some r->zg):zg:=zW e λn h e1=>zk n (h▸v) e1
end
noncomputable def ua(h:Heap)(a:Addr):Im->Prop
 |.tup ws=>h.IsTuple a ws.toArray
 |.ro ws=>h.IsList a ws.toArray
 |.cm i j k=>∃ t u v,IsRange h a i j k t u v
theorem ua.keep{h h':Heap}{a:Addr}{i:Im}(x:ua h a i)(k:∀ o,h.get? a=some o->h'.get? a=some o):ua h' a i:=by
  induction i with
 |tup ws=>obtain⟨o,e,r⟩:=x;exact⟨o,k _ e,r⟩
 |ro ws=>obtain⟨o,e,r⟩:=x;exact⟨o,k _ e,r⟩
 |cm i j l=>obtain⟨t,u,v,e⟩:=x;exact⟨t,u,v,k _ e⟩
theorem ua.alive{h:Heap}{a:Addr}{i:Im}(x:ua h a i):∃ o,h.get? a=some o:=by
  induction i with
 |tup ws=>obtain⟨o,e,r⟩:=x;exact⟨o,e⟩
 |ro ws=>obtain⟨o,e,r⟩:=x;exact⟨o,e⟩
 |cm i j l=>obtain⟨t,u,v,e⟩:=x;exact⟨_,e⟩
noncomputable def lst(ws:List Value)(n:Nat):Obj:={ cls:=.type "list",data:=.seq ws.toArray n }
inductive DR(S:b0)(as:As)(T:TS):List (List Nat×V)->List (Str×Value)->Prop
 |nil:DR S as T [] []
 |cons {k:List Nat} {v:V} {w:Value} {es:List (List Nat×V)} {ds:List (Str×Value)}:VR S.fa as T v w->DR S as T es ds->DR S as T ((k,v)::es) ((⟨k.toArray⟩,w)::ds)
noncomputable def FR(S:b0)(as:As)(T:TS)(fs:List (Nat×V))(m:Str->Option Value):Prop:=
 (∀ i v,eg i fs=some v->i<22/\∃ w,m (dW i)=some w/\VR S.fa as T v w)/\∀ x w,m x=some w->∃ i,i<22/\x=dW i/\(eg i fs).isSome
theorem DR.mono{S:b0}{as as':As}{T T':TS}(m:eO as T as' T'){es:List (List Nat×V)}{ds:List (Str×Value)}(x:DR S as T es ds):DR S as' T' es ds:=by
  induction x with
 |nil=>exact .nil
 |cons h _ ih=>exact .cons (h.mono m) ih
theorem FR.mono{S:b0}{as as':As}{T T':TS}(m:eO as T as' T'){fs:List (Nat×V)}{f:Str->Option Value}(h:FR S as T fs f):FR S as' T' fs f:=
 ⟨λi v e=>let ⟨a,w,b,c⟩:=h.1 i v e;⟨a,w,b,c.mono m⟩,h.2⟩
inductive OR(S:b0)(as:As)(T:TS)(h:Heap):O->Addr×Option Addr->Prop
 |list {l:List V} {a:Addr} {ws:List Value} {n:Nat}:h.get? a=some (lst ws n)->l.length<=lim->bq S.fa as T l ws->OR S as T h (.list l) (a,none)
 |dict {es:List (List Nat×V)} {a:Addr} {ds:List (Str×Value)}:h.DictOf (strKind S.prog S.w) a ds->es.length<=1024->DR S as T es ds->OR S as T h (.dict es) (a,none)
 |inst {c:Nat} {fs:List (Nat×V)} {C a dx:Addr} {f:Str->Option Value}:c<5->S.ca[c]?=some C->h.get? a=some (instObj C dx)->h.Ns1 dx f->FR S as T fs f ->
  OR S as T h (.inst c fs) (a,some dx)
theorem jj{as:As}{n:Nat}{p:Addr×Option Addr}(h:as[n]?=some p):p.1∈owned as/\∀ d,p.2=some d->d∈owned as:=by
 have hm:=pk h
 refine⟨lH.mpr ⟨p,hm,.head _⟩,λd e=>lH.mpr ⟨p,hm,?_⟩⟩
 rw[e];exact .tail _ (.head _)
theorem OR.keep{S:b0}{as as':As}{T T':TS}{h h':Heap}{o:O}{p:Addr×Option Addr}(x:OR S as T h o p)(m:eO as T as' T')
   (k1:∀ q,h.get? p.1=some q->h'.get? p.1=some q) (k2:∀ d q,p.2=some d->h.get? d=some q->h'.get? d=some q):OR S as' T' h' o p:=by
  induction x with
 |list e z r=>exact .list (k1 _ e) z (r.mono m)
 |dict e z r=>exact .dict (let ⟨o,es,ep,q,t⟩:=e;⟨o,es,ep,k1 _ q,t⟩) z (r.mono m)
 |inst c5 c e1 e2 r=>exact .inst c5 c (k1 _ e1) (e2.at λo q=>k2 _ _ rfl q) (r.mono m)
structure HR(S:b0)(as:As)(T:TS)(H:Hp)(h:Heap):Prop where
 base:∀ b o,S.h0.get? b=some o->h.get? b=some o
 len:as.length=H.length
 obj:∀(n:Nat)(o:O)(p:Addr×Option Addr),H[n]?=some o->as[n]?=some p->OR S as T h o p
 nd:(owned as).Nodup
 new:∀ a∈owned as,S.h0.get? a=none
 im:∀ a i,T a i->ua h a i
 t0:∀ a i,S.T0 a i->T a i
 ro:∀ a ws,T a (.ro ws)->∃ o,S.h0.get? a=some o
 two:∃ o,S.h0.get? cStatics=some o
 big:∀ a∈owned as,sysModules<a
structure Ext(X:Addr->Prop)(as:As)(T:TS)(h:Heap)(as':As)(T':TS)(h':Heap):Prop where
 mono:eO as T as' T'
 kp:∀ b o,b ∉ owned as->¬ X b->h.get? b=some o->h'.get? b=some o
 al:∀ b,X b->(h.get? b).isSome->(h'.get? b).isSome
 own:∀ b∈owned as',b∈owned as\/h.get? b=none
noncomputable def Nil:Addr->Prop:=λ_=>False
theorem Ext.refl(X:Addr->Prop)(as:As)(T:TS)(h:Heap):Ext X as T h as T h:=⟨.refl ..,λ_ _ _ _ e=>e,λ_ _ e=>e,λ_ e=>.inl e⟩
theorem Ext.trans{X:Addr->Prop}{as aO iC:As}{T T1 T2:TS}{h h1 h2:Heap}(x:Ext X as T h aO T1 h1)(y:Ext X aO T1 h1 iC T2 h2):Ext X as T h iC T2 h2:=by
  refine⟨x.mono.trans y.mono,λb o n1 n2 e=>?_,λb hb e=>y.al b hb (x.al b hb e),λb hb=>?_⟩
  · have e1:=x.kp b o n1 n2 e
    refine y.kp b o (λhb=>?_) n2 e1
    rcases x.own b hb with q|q
    · exact n1 q
    · rw[q] at e;first|exact nn e|exact ff e|exact nn e
  · rcases y.own b hb with q|q
    · exact x.own b q
    · cases e:h.get? b with
     |none=>exact .inr rfl
     |some o=>
        by_cases ho:b∈owned as
        · exact .inl ho
        · by_cases hX:X b
          · have:=x.al b hX (by rw[e];rfl);rw[q] at this;first|exact nn this|exact ff this|exact nn this
          · have:=x.kp b o ho hX e;rw[q] at this;first|exact nn this|exact ff this|exact nn this
theorem Ext.weak{X Y:Addr->Prop}{as aO:As}{T T1:TS}{h h1:Heap}(x:Ext Nil as T h aO T1 h1)(hY:∀ b,Y b->b ∉ owned as):Ext Y as T h aO T1 h1:=
 ⟨x.mono,λb o n1 _ e=>x.kp b o n1 (λq=>q) e,λb hb e=>by
  obtain⟨o,e⟩:=zI.mp e
  rw[x.kp b o (hY b hb) (λq=>q) e];rfl,x.own⟩
theorem HR.keep{S:b0}{as:As}{T:TS}{H:Hp}{h h':Heap}(x:HR S as T H h)(k:∀ b o,h.get? b=some o->h'.get? b=some o):HR S as T H h':=
 ⟨λb o e=>k b o (x.base b o e),x.len,λn o p e1 e2=>(x.obj n o p e1 e2).keep (.refl ..) (λq=>k _ q) (λd q _=>k _ q),x.nd,x.new,λa i t=>(x.im a i t).keep (k a),x.t0,x.ro,x.two,x.big⟩
theorem HR.but{S:b0}{as:As}{T:TS}{H:Hp}{h h':Heap}{y:Addr}(x:HR S as T H h)(k:∀ b o,b≠y->h.get? b=some o->h'.get? b=some o)(ho:y ∉ owned as)(hb:S.h0.get? y=none)(hT:∀ i,¬ T y i):HR S as T H h':=by
 refine⟨λb o e=>k b o (λq=>by rw[q,hb] at e;exact nn e) (x.base b o e),x.len,λn o p e1 e2=>?_,x.nd,x.new,λa i t=>(x.im a i t).keep λo e=>k a o (λq=>hT i (q▸t)) e,x.t0,x.ro,x.two,x.big⟩
 have hm:=jj e2
 exact(x.obj n o p e1 e2).keep (.refl ..) (λq=>k _ q λz=>ho (z▸hm.1)) (λd q hd=>k _ q λz=>ho (z▸hm.2 d hd))
theorem bA(as bs:As):owned (as++bs)=owned as++owned bs:=by simp[owned]
theorem bE{α:Type}{l m:List α}{n:Nat}{a:α}(h:l[n]?=some a):(l++m)[n]?=some a:=by
 rw[dh (by have:=eV.mp h;exact this.1)];exact h
theorem HR.alive{S:b0}{as:As}{T:TS}{H:Hp}{h:Heap}(x:HR S as T H h){b:Addr}(hb:b∈owned as):∃ q,h.get? b=some q:=by
  obtain⟨q,hq,hb⟩:=lH.mp hb
  obtain⟨n,hn⟩:=wn hq
  have hl:n<H.length:=by rw[← x.len];exact(eV.mp hn).1
  obtain⟨o,ho⟩:∃ o,H[n]?=some o:=⟨_,rR hl⟩
  have:=x.obj n o q ho hn
  induction this with
 |list e _ _=>simp at hb;subst hb;exact⟨_,e⟩
 |dict e _ _=>simp at hb;subst hb;exact(let ⟨o,_,_,e,_⟩:=e;⟨o,e⟩)
 |inst _ _ e1 e2 _=>simp at hb;rcases hb with rfl|rfl;exact⟨_,e1⟩;exact(let ⟨o,_,_,e,_⟩:=e2;⟨o,e⟩)
theorem HR.alloc{S:b0}{as:As}{T:TS}{H:Hp}{h h':Heap}{o:O}{p:Addr×Option Addr}(x:HR S as T H h)(k:∀ b q,h.get? b=some q->h'.get? b=some q)
    (hn:(p.1::p.2.toList).Nodup) (hf:∀ a∈p.1::p.2.toList,h.objs.size<=a) (ho:OR S (as++[p]) T h' o p):HR S (as++[p]) T (H++[o]) h':=by
  have hs:=hf
  have hf:∀ a∈p.1::p.2.toList,h.get? a=none:=λa ha=>by
    cases e:h.get? a with
   |none=>rfl
   |some o=>exact absurd (Heap.lt_size e) (fH.mpr (hs a ha))
  have m:eO as T (as++[p]) T:=⟨λn q e=>bE e,λ_ _ e=>e⟩
  refine⟨λb q e=>k _ _ (x.base b q e),by simp[x.len],λn q r e1 e2=>?_,?_,λa ha=>?_,λa i t=>(x.im a i t).keep (k a),x.t0,x.ro,x.two,λa ha=>?_⟩
  · by_cases hl:n<H.length
    · rw[dh hl] at e1
      rw[dh (by rw[x.len];exact hl)] at e2
      exact(x.obj n q r e1 e2).keep m (k _) (λd z _=>k _ z)
    · have:n=H.length:=by
        have:=(eV.mp e1).1;simp at this;exact iQ (nt (am [_,_] (.d (.s ab) (.s ac) (.d (.s ac) ab .z)) rfl this)) (nt (am [_,_] (.d ab ac (.d (.s ac) ab .z)) rfl (fH.mp hl)))
      subst this
      rw[gS (aC _),iu] at e1
      rw[gS (by rw[x.len];exact aC _),x.len,iu] at e2
      cases e1;cases e2;exact ho
  · rw[bA]
    refine zJ.mpr ⟨x.nd,by simpa [owned] using hn,λa ha b hb e=>?_⟩
    obtain⟨q,hq⟩:=x.alive ha
    rw[e,hf b (by simpa [owned] using hb)] at hq;exact nn hq
  · rw[bA] at ha
    rcases eW.mp ha with q|q
    · exact x.new a q
    · cases e:S.h0.get? a with
     |none=>rfl
     |some o'=>have:=x.base a o' e;rw[hf a (by simpa [owned] using q)] at this;exact nn this
  · rw[bA] at ha
    rcases eW.mp ha with q|q
    · exact x.big a q
    · obtain⟨o',I8⟩:=x.two
      have h2:=Heap.lt_size (x.base _ _ I8)
      have h3:=hs a (by simpa [owned] using q)
      exact dM (mh (by decide) h2) h3
theorem pQ{α β:Type}{f:α->List β}:∀{l:List α}{i j:Nat}{a b:α},(l.flatMap f).Nodup->l[i]?=some a->l[j]?=some b->i≠j->∀ x∈f a,x ∉ f b:=by
  intro l
  induction l with
 |nil=>intro i j a b _ h;simp at h
 |cons c r ih=>
    intro i j a b hn hi hj My x hx hb
    rw[mi] at hn
    obtain⟨n1,n2,n3⟩:=zJ.mp hn
    induction i using Nat.casesOn with
   |zero=>induction j using Nat.casesOn with
     |zero=>exact My rfl
     |succ j=>
      simp at hi hj;subst hi
      exact n3 x hx x (lH.mpr ⟨b,pk hj,hb⟩) rfl
   |succ i=>induction j using Nat.casesOn with
     |zero=>
      simp at hi hj;subst hj
      exact n3 x hb x (lH.mpr ⟨a,pk hi,hx⟩) rfl
     |succ j=>
      simp at hi hj
      exact ih n2 hi hj (λq=>My (by rw[q])) x hx hb
theorem HR.upd{S:b0}{as:As}{T:TS}{H:Hp}{h h':Heap}{n:Nat}{o:O}{p:Addr×Option Addr}{y:Addr}(x:HR S as T H h)(hp:as[n]?=some p)(hn:n<H.length)
  (hy:y∈p.1::p.2.toList) (k:∀ b q,b≠y->h.get? b=some q->h'.get? b=some q) (ho:OR S as T h' o p) (hT:∀ i,¬ T y i):HR S as T (H.set n o) h':=by
 have yo:y∈owned as:=lH.mpr ⟨p,pk hp,hy⟩
 refine⟨λb q e=>k _ _ (λz=>by rw[z,x.new y yo] at e;exact nn e) (x.base b q e),by simp[x.len],λm q r e1 e2=>?_,x.nd,x.new,λa i t=>(x.im a i t).keep λq e=>k _ _ (λz=>hT i (z▸t)) e,x.t0,x.ro,x.two,x.big⟩
 by_cases hm:m=n
 ·subst hm
  rw[xT hn] at e1
  rw[hp] at e2
  cases e1;cases e2;exact ho
 ·rw[iR (cR hm)] at e1
  have ap:=pQ (f:=λp:Addr×Option Addr=>p.1::p.2.toList) x.nd e2 hp hm
  exact(x.obj m q r e1 e2).keep (.refl ..) (λz=>k _ z λw=>ap _ (.head _) (w▸hy)) (λd z hd=>k _ z λw=>ap d (by rw[hd];exact .tail _ (.head _)) (w▸hy))
end Mine
namespace Mine
theorem jk{k l:NameKind}(h:fe k l=true):k=l:=by induction k <;> induction l <;> first|rfl|exact ff h|exact nn h|exact nn h
theorem ku(x:Str):∀ nm:bm,lQ x nm=nm.lookup x
 |[]=>rfl
 |(y,k)::r=>by
   rw[Ml,pn]
   cases h:(x==y) with
  |true=>simp
  |false=>simp;exact ku x r
theorem kW:∀{nm:bm}{x:Str}{k:NameKind},jh nm=true->nm.lookup x=some k->(x==(Str.ofString "__debug__"))=false
 |(y,k')::r,x,k,h,e=>by
   simp only[Ac,Ad,dw,Bool.not_eq_true'] at h
   rw[pn] at e
   cases q:(x==y) with
  |true=>rw[beq_iff_eq.mp q];exact h.1
  |false=>rw[q] at e;exact kW h.2 e
noncomputable def ub:Pr->Value
 |.len=>.builtin "len"
 |.abs=>.builtin "abs"
 |.int=>.type "int"
 |.chr=>.builtin "chr"
 |.ord=>.builtin "ord"
 |.list=>.type "list"
 |.range=>.type "range"
 |.min=>.builtin "min"
 |.str=>.type "str"
theorem g8(p:Pr):bootBuiltins (ni p)=some (ub p)/\ni p≠"__name__":=by induction p <;> exact⟨by kernel_rfl,by decide +kernel⟩
theorem wU:bootBuiltins (Str.ofString "isinstance")=some (.builtin "isinstance")/\Str.ofString "isinstance"≠"__name__":=⟨by kernel_rfl,by decide +kernel⟩
theorem boot_tuple:bootBuiltins (Str.ofString "tuple")=some (.type "tuple")/\Str.ofString "tuple"≠"__name__":=⟨by kernel_rfl,by decide +kernel⟩
structure Qt(S:b0)(C:Addr)(ci:CI):Prop where
 makes:makesIn S.K C=true
 init:∃ a,S.fa[ci.init]?=some a/\findIn S.K (.ref C) "__init__"=some (some (.ref a))/\typeIn S.K (.ref a)=some (.type "function")
 get:findIn S.K (.ref C) "__getattribute__"=some (some (.builtin "object.__getattribute__"))/\findIn S.K (.ref C) "__getattr__"=some none
 hasDict:hasDictIn S.K C=true
 attr:∀ i,i<22->∃ at',findIn S.K (.ref C) (dW i)=some at'/\noGet S.K at'=true
 take:∀ i,i<22->takerIn S.K C (dW i)=some none
 set:findIn S.K (.ref C) "__setattr__"=some (some (.builtin "object.__setattr__"))
 over:plainOver S.K C=true
 bp:∀ m k,eg m ci.meths=some k->∃ a,S.fa[k]?=some a/\findIn S.K (.ref C) (mx m)=some (some (.ref a))/\typeIn S.K (.ref a)=some (.type "function")
 apart:∀ m k i,eg m ci.meths=some k->i<22->(dW i==mx m)=false
noncomputable def uc:List String:=["int","str","bool","NoneType","tuple"]
noncomputable def sT(K:Frag)(ca:List Nat):Bool:=
 uc.all (λt=>["int","str","tuple"].all λc=>kitOne K (.type t) (.type c)==some (t==c || (t=="bool"&&c=="int"))) &&
 ca.all λD=>kitOne K (.type "int") (.ref D)==some false&&kitOne K (.type "str") (.ref D)==some false
structure Cx(S:b0):Prop where
 X:S.K.In S.h0
 lim:S.h0.NoLimit
 ns:∃ mg mb,S.h0.Ns mainGlobals mg/\S.h0.Ns builtinsNs mb/\(∀ x:Str,x≠"__name__"->mb x=bootBuiltins x)
 Vy:∀ x k,S.G x=some (.fn k)->∃ a,S.fa[k]?=some a/\nsIn S.K mainGlobals x=some (some (.ref a))
 S1:∀ x v,S.G x=some (.val v)->∃ u,nsIn S.K mainGlobals x=some (some u)/\VR S.fa [] S.T0 v u
 OY:∀ x c,S.G x=some (.cls c)->∃ C,S.ca[c]?=some C/\nsIn S.K mainGlobals x=some (some (.ref C))/\x=IU.getD c Str.empty
 Qu:∀ x p,S.G x=some (.pr p)->nsIn S.K mainGlobals x=some none
 S2:∀ x,S.G x=some .IV->nsIn S.K mainGlobals x=some none/\x=Str.ofString "isinstance"
 S3:∀ x k,S.G x=some (.typ k)->nsIn S.K mainGlobals x=some none
 fns:∀(k:Nat)(fi:FI),S.P.fns[k]?=some fi->∃ a:Nat,S.fa[k]?=some a/\Mn S.G S.K fi a=true
 keep:∀(k a:Nat),S.fa[k]?=some a->keepIn S.K (.ref a)=true
 Qv:∀(c C:Nat),S.ca[c]?=some C->keepIn S.K (.ref C)=true
 cls:∀(c C:Nat),c<5->S.ca[c]?=some C->∃ ci:CI,S.P.cls[c]?=some ci/\Qt S C ci
 S4:sT S.K S.ca=true
structure gy(A:Around)(d:Nat):Prop where
 handled:A.handled=none
 depth:A.depth+4*d+8<=1000
 units:A.units+32*d+200<=9900
structure ER(S:b0)(as:As)(T:TS)(env:Env)(nm:bm)(sl:Sl)(l:Lo)(h:Heap):Prop where
 kind:env.scope.kind=.function
 glob:env.globals=mainGlobals
 blt:env.builtins=builtinsNs
 names:env.scope.names=nm
 Ar:jh nm=true
 len:l.length=sl.length
 nd:∀(i j:Nat)(x:Str)(b c:Bool),sl[i]?=some (some (x,b))->sl[j]?=some (some (x,c))->i=j
 loc:∃ m,h.Ns env.locals m/\∀(i:Nat)(v:V)(x:Str),l[i]?=some (some v)->sl[i]?=some (some (x,false))->∃ w,m x=some w/\VR S.fa as T v w
 cell:∀(i:Nat)(x:Str),sl[i]?=some (some (x,true))->∃ c w,env.cells.lookup x=some c/\h.IsCell c w/\∀ v,l[i]?=some (some v)->∃ u,w=some u/\VR S.fa as T v u
 oK:∀ x y c,env.cells.lookup x=some c->env.cells.lookup y=some c->x=y
 kX:∀ x c,env.cells.lookup x=some c->∃ w,h.IsCell c w
 frame:env.locals ∉ owned as/\S.h0.get? env.locals=none
 cells:∀ x c,env.cells.lookup x=some c->c ∉ owned as/\S.h0.get? c=none
noncomputable def EX(env:Env)(b:Addr):Prop:=b=env.locals\/∃ x,env.cells.lookup x=some b
section
variable {S:b0}{as as':As}{T T':TS}{H H':Hp}{h h':Heap}{env:Env}{nm:bm}{sl:Sl}{l:Lo}
theorem kv{a:Addr}{m:Str->Option Value}(n:h.Ns a m):∃ o,h.get? a=some o:=let ⟨o,_,_,e,_⟩:=n;⟨o,e⟩
theorem mE{a:Addr}{m:Str->Option Value}(n:h.Ns a m)(k:∀ o,h.get? a=some o->h'.get? a=some o):h'.Ns a m:=let ⟨o,es,ep,e,r⟩:=n;⟨o,es,ep,k _ e,r⟩
theorem jM{c:Addr}{w:Option Value}(n:h.IsCell c w):∃ o,h.get? c=some o:=let ⟨o,e,_⟩:=n;⟨o,e⟩
theorem ek{c:Addr}{w:Option Value}(n:h.IsCell c w)(k:∀ o,h.get? c=some o->h'.get? c=some o):h'.IsCell c w:=let ⟨o,e,r⟩:=n;⟨o,k _ e,r⟩
theorem ER.ext(x:ER S as T env nm sl l h)(e:Ext Nil as T h as' T' h'):ER S as' T' env nm sl l h':=by
 have k:∀ b o,b ∉ owned as->h.get? b=some o->h'.get? b=some o:=λb o n q=>e.kp b o n (λz=>z) q
 have own:∀ b o,b ∉ owned as->h.get? b=some o->b ∉ owned as':=λb o n q hb=>by
  rcases e.own b hb with z|z
  ·exact n z
  ·rw[z] at q;first|exact nn q|exact ff q|exact nn q
 obtain⟨m,hn,hm⟩:=x.loc
 obtain⟨oL,hL⟩:=kv hn
 refine⟨x.kind,x.glob,x.blt,x.names,x.Ar,x.len,x.nd,⟨m,mE hn λo=>k _ o x.frame.1,λi v y e1 e2=>?_⟩,λi y e1=>?_,x.oK,λy c e1=>?_,⟨own _ _ x.frame.1 hL,x.frame.2⟩,λy c e1=>?_⟩
 ·obtain⟨w,h1,h2⟩:=hm i v y e1 e2
  exact⟨w,h1,h2.mono e.mono⟩
 ·obtain⟨c,w,h1,h2,h3⟩:=x.cell i y e1
  refine⟨c,w,h1,ek h2 λo=>k _ o (x.cells y c h1).1,λv hv=>?_⟩
  obtain⟨u,h4,h5⟩:=h3 v hv
  exact⟨u,h4,h5.mono e.mono⟩
 ·obtain⟨w,h2⟩:=x.kX y c e1
  exact⟨w,ek h2 λo=>k _ o (x.cells y c e1).1⟩
 ·obtain⟨w,h2⟩:=x.kX y c e1
  obtain⟨o,ho⟩:=jM h2
  exact⟨own _ _ (x.cells y c e1).1 ho,(x.cells y c e1).2⟩
theorem yq(x:HR S as T H h){a:Addr}{m:Str->Option Value}(n:h.Ns a m)(i:Im):¬ T a i:=λt=>by
  have:=x.im a i t
  obtain⟨o,es,ep,e,d,_⟩:=n
  induction i with
 |tup ws=>obtain⟨o',e',_,k,d'⟩:=this;rw[e] at e';cases e';rw[d] at d';cases d'
 |ro ws=>obtain⟨o',e',_,k,d'⟩:=this;rw[e] at e';cases e';rw[d] at d';cases d'
 |cm i j k=>obtain⟨t,u,v,e'⟩:=this;have e2:=e.symm.trans e';cases e2;cases d
theorem GJ(x:HR S as T H h){a:Addr}{w:Option Value}(n:h.IsCell a w)(i:Im):¬ T a i:=λt=>by
  have:=x.im a i t
  obtain⟨o,e,d⟩:=n
  induction i with
 |tup ws=>obtain⟨o',e',_,k,d'⟩:=this;rw[e] at e';cases e';rw[d] at d';cases d'
 |ro ws=>obtain⟨o',e',_,k,d'⟩:=this;rw[e] at e';cases e';rw[d] at d';cases d'
 |cm i j k=>obtain⟨t,u,v,e'⟩:=this;have e2:=e.symm.trans e';cases e2;cases d
variable {M:Model}{A:Around}{E:Value->Shared->Prop}{s:Shared}{Q:Value->Shared->Prop}{pos:Pos}
theorem fU{i:Nat}{x:Str}(c:cf nm sl i x=true){zg:Prop}(zk:∀ b,(sl[i]?=some (some (x,b)))->(nm.lookup x=some (Cq b))->zg):zg:=by
 unfold cf at c
 split at c
 ·rename_i y b e
  simp only[dw] at c
  obtain⟨c1,c2⟩:=c
  obtain rfl:=beq_iff_eq.mp c1
  split at c2
  ·rename_i k hk
   refine zk b e ?_
   rw[← ku,hk,jk c2]
  ·first|exact ff c2|exact nn c2|exact nn c2
 ·first|exact ff c|exact nn c|exact nn c
theorem qR(x:ER S as T env nm sl l s.heap){i:Nat}{v:V}{n:Str}(c:cf nm sl i n=true)(hv:l[i]?=some (some v))(k:∀ w,VR S.fa as T v w->Q w s):wpAny M A (eval (.Name n pos) env) Q E s:=by
  refine fU c λb e1 e2=>?_
  have hk:env.kindOf n=some (Cq b):=by unfold Env.kindOf;rw[x.names];exact e2
  have hd:=kW x.Ar e2
  induction b with
 |false=>
   obtain⟨m,hn,hm⟩:=x.loc
   obtain⟨w,h1,h2⟩:=hm i v n hv e1
   exact wpAny_Name (wpAny_loadName_local x.kind hk hn h1 (k w h2)) hd
 |true=>
   obtain⟨c,w,h1,h2,h3⟩:=x.cell i n e1
   obtain⟨u,rfl,h5⟩:=h3 v hv
   exact wpAny_Name (wpAny_loadName_cell x.kind hk h1 h2 (k u h5)) hd
theorem yr{x:Str}(c:yf nm x=true):nm.lookup x=some .globalImplicit:=by
 unfold yf at c
 split at c
 ·rename_i k hk;rw[← ku,hk,jk c]
 ·first|exact ff c|exact nn c|exact nn c
theorem iD{G:Str->Option GV}{x:Str}{p:GV->Bool}(c:nM G nm x p=true){zg:Prop}(zk:(nm.lookup x=some .globalImplicit)->∀ g,(G x=some g)->(p g=true)->zg):zg:=by
 obtain⟨cO,g,cY,iJ⟩:nm.lookup x=some .globalImplicit/\∃ g,G x=some g/\p g=true:=by
  unfold nM at c
  simp only[dw] at c
  refine⟨yr c.1,?_⟩
  have:=c.2
  split at this
  ·rename_i g hg;exact⟨g,hg,this⟩
  ·first|exact ff this|exact nn this|exact nn this
 exact zk cO g cY iJ
theorem kY(C:Cx S)(x:ER S as T env nm sl l s.heap)(hr:HR S as T H s.heap){n:Str}(hg:nm.lookup n=some .globalImplicit){v:Value}(hv:nsIn S.K mainGlobals n=some (some v))(k:Q v s):wpAny M A (eval (.Name n pos) env) Q E s:=by
 obtain⟨mg,mb,h1,h2,h3⟩:=C.ns
 refine Calls.Name_function_global x.kind (by unfold Env.kindOf;rw[x.names];exact hg) (Calls.loadGlobal_global (mg:=mg) (by rw[x.glob];exact h1.keeps hr.base) (mg_of C.X h1 hv) k) (kW x.Ar hg)
theorem ky(C:Cx S)(x:ER S as T env nm sl l s.heap)(hr:HR S as T H s.heap){n:Str}(hg:nm.lookup n=some .globalImplicit){v:Value}(hn:nsIn S.K mainGlobals n=some none)(hv:bootBuiltins n=some v)(h':n≠"__name__")(k:Q v s):wpAny M A (eval (.Name n pos) env) Q E s:=by
 obtain⟨mg,mb,h1,h2,h3⟩:=C.ns
 refine Calls.Name_function_global x.kind (by unfold Env.kindOf;rw[x.names];exact hg) (Calls.loadGlobal_builtin (mg:=mg) (mb:=mb) (by rw[x.glob];exact h1.keeps hr.base) (mg_none_of C.X h1 hn) (by rw[x.blt];exact h2.keeps hr.base) ((h3 n h').trans hv) k) (kW x.Ar hg)
end
end Mine
namespace Mine
noncomputable def cJ(S:b0)(as:As)(T:TS)(s:Shared)(H':Hp)(v:V)(Q:Value->Shared->Prop):Prop:=
 ∀ w h' tk as' T',Ext Nil as T s.heap as' T' h'->HR S as' T' H' h'->VR S.fa as' T' v w->Q w { s with heap:=h',toks:=tk }
noncomputable def wW(S:b0)(as:As)(T:TS)(s:Shared)(H':Hp)(Q:Unit->Shared->Prop):Prop:=
 ∀ h' tk as' T',Ext Nil as T s.heap as' T' h'->HR S as' T' H' h'->Q () { s with heap:=h',toks:=tk }
section
variable {S:b0}{as aO:As}{T T1:TS}{H H':Hp}{h h' h1:Heap}{s:Shared}{v:V}{w:Value}{Q:Value->Shared->Prop}{A:Around}{E:Value->Shared->Prop}
theorem cJ.from{tk:Tok}(k:cJ S as T s H' v Q)(e:Ext Nil as T s.heap aO T1 h1):cJ S aO T1 { s with heap:=h1,toks:=tk } H' v Q:=
 λw h' ud as' T' e' hr vr=>k w h' ud as' T' (e.trans e') hr vr
theorem wW.from{tk:Tok}{Q:Unit->Shared->Prop}(k:wW S as T s H' Q)(e:Ext Nil as T s.heap aO T1 h1):wW S aO T1 { s with heap:=h1,toks:=tk } H' Q:=
 λh' ud as' T' e' hr=>k h' ud as' T' (e.trans e') hr
theorem cJ.now(k:cJ S as T s H v Q)(hr:HR S as T H s.heap)(vr:VR S.fa as T v w):Q w s:=k w s.heap s.toks as T (.refl ..) hr vr
theorem cJ.tok(k:cJ S as T s H v Q)(hr:HR S as T H s.heap)(vr:VR S.fa as T v w)(tk:Tok):Q w { s with toks:=tk }:=k w s.heap tk as T (.refl ..) hr vr
theorem cJ.of{H0:Hp}{v0:V}(e:(v0,H0)=(v,H'))(q:cJ S as T s H' v Q):cJ S as T s H0 v0 Q:=by cases e;exact q
theorem cJ.GK{v0:V}(e:v=v0)(q:cJ S as T s H' v Q):cJ S as T s H' v0 Q:=e▸q
theorem cJ.S5{H0:Hp}(e:H'=H0)(q:cJ S as T s H' v Q):cJ S as T s H0 v Q:=e▸q
theorem cJ.nN{H0:Hp}{v0:V}(e:some (v0,H0)=some (v,H'))(q:cJ S as T s H' v Q):cJ S as T s H0 v0 Q:=q.of (bU e)
theorem Ext.keep(k:∀ b o,h.get? b=some o->h'.get? b=some o):Ext Nil as T h as T h':=⟨.refl ..,λb o _ _ e=>k b o e,λb hb _=>hb.elim,λb hb=>.inl hb⟩
theorem bT(o:Obj):∀ b q,h.get? b=some q->(h.push o).get? b=some q:=λ_ _ e=>Heap.get?_push_of_some o e
theorem kZ:h.get? h.objs.size=none:=by
  cases e:h.get? h.objs.size with
 |none=>rfl
 |some o=>exact absurd (Heap.lt_size e) (nZ _)
theorem Ez(hr:HR S as T H h)(k:∀ b o,h.get? b=some o->h'.get? b=some o){a:Addr}{i:Im}(hi:ua h' a i)(Vz:∀ ws,i≠.ro ws) :
  Ext Nil as T h as (λb j=>T b j\/(b=a/\j=i)) h'/\HR S as (λb j=>T b j\/(b=a/\j=i)) H h':=by
 have m:eO as T as (λb j=>T b j\/(b=a/\j=i)):=⟨λ_ _ e=>e,λ_ _ e=>.inl e⟩
 refine⟨⟨m,λb o _ _ e=>k b o e,λb hb _=>hb.elim,λb hb=>.inl hb⟩,?_⟩
 have r:=hr.keep k
 refine⟨r.base,r.len,λn o p e1 e2=>(hr.obj n o p e1 e2).keep m (k _) (λd q _=>k _ q),r.nd,r.new,λb j t=>?_,λb j t=>.inl (hr.t0 b j t),λb ws t=>?_,r.two,r.big⟩
 ·rcases t with t|⟨rfl,rfl⟩
  ·exact r.im b j t
  ·exact hi
 ·rcases t with t|⟨_,q⟩
  ·exact hr.ro b ws t
  ·exact absurd q.symm (Vz ws)
theorem sd(hr:HR S as T H h){l:List V}{ws:List Value}(hv:bq S.fa as T l ws)(hl:l.length<=lim){zg:Prop}(zk:∀ T',(Ext Nil as T h as T' (h.push { cls:=.type "tuple",data:=.seq ws.toArray }))->(HR S as T' H (h.push { cls:=.type "tuple",data:=.seq ws.toArray }))->(VR S.fa as T' (.tup l) (.ref h.objs.size))->zg):zg:=by
 obtain⟨e,r⟩:=Ez (a:=h.objs.size) (i:=.tup ws) hr (bT { cls:=.type "tuple",data:=.seq ws.toArray }) ⟨_,Heap.get?_push_size _ rfl,rfl,0,rfl⟩ (λ_ q=>by cases q)
 exact zk _ e r (.tup (.inr ⟨rfl,rfl⟩) hl (hv.mono e.mono))
theorem se(hr:HR S as T H h)(k:∀ b o,h.get? b=some o->h'.get? b=some o){a:Addr}(hsz:h.objs.size<=a){l:List V}{ws:List Value}{n:Nat}(ho:h'.get? a=some (lst ws n))(hv:bq S.fa as T l ws)(hl:l.length<=lim){zg:Prop}(zk:(Ext Nil as T h (as++[(a,none)]) T h')->(HR S (as++[(a,none)]) T (H++[.list l]) h')->(VR S.fa (as++[(a,none)]) T (.loc H.length) (.ref a))->zg):zg:=by
  have ha:h.get? a=none:=by
    cases e:h.get? a with
   |none=>rfl
   |some o=>exact absurd (Heap.lt_size e) (fH.mpr hsz)
  have m:eO as T (as++[(a,none)]) T:=⟨λn q e=>bE e,λ_ _ e=>e⟩
  refine zk (⟨m,λb o _ _ e=>k b o e,λb hb _=>hb.elim,λb hb=>?_⟩) (hr.alloc k (by simp) (by simpa using hsz) (.list ho hl (hv.mono m))) ?_
  · rw[bA] at hb
    rcases eW.mp hb with q|q
    · exact .inl q
    · simp[owned] at q;subst q;exact .inr ha
  · exact .loc (p:=(a,none)) (by rw[gS (by rw[hr.len];exact aC _),hr.len,iu];rfl)
theorem GL(hr:HR S as T H h)(k:∀ b o,h.get? b=some o->h'.get? b=some o){a:Addr}(hsz:h.objs.size<=a){l:List V}{ws:List Value}{n:Nat}(ho:h'.get? a=some (lst ws n))(hv:bq S.fa as T l ws)(hl:l.length<=lim):Ext Nil as T h (as++[(a,none)]) T h'/\HR S (as++[(a,none)]) T (H++[.list l]) h'/\VR S.fa (as++[(a,none)]) T (.loc H.length) (.ref a):=se hr k hsz ho hv hl λcO cY iJ=>⟨cO,cY,iJ⟩
theorem yt(hr:HR S as T H h){l:List V}{ws:List Value}(hv:bq S.fa as T l ws)(hl:l.length<=lim){zg:Prop}(zk:(Ext Nil as T h (as++[(h.objs.size,none)]) T (h.push { cls:=.type "list",data:=.seq ws.toArray }))->(HR S (as++[(h.objs.size,none)]) T (H++[.list l]) (h.push { cls:=.type "list",data:=.seq ws.toArray }))->(VR S.fa (as++[(h.objs.size,none)]) T (.loc H.length) (.ref h.objs.size))->zg):zg:=by
 obtain⟨cO,cY,iJ⟩:Ext Nil as T h (as++[(h.objs.size,none)]) T (h.push { cls:=.type "list",data:=.seq ws.toArray })/\HR S (as++[(h.objs.size,none)]) T (H++[.list l]) (h.push { cls:=.type "list",data:=.seq ws.toArray })/\VR S.fa (as++[(h.objs.size,none)]) T (.loc H.length) (.ref h.objs.size):=GL (n:=0) hr (bT { cls:=.type "list",data:=.seq ws.toArray }) (aC _) (Heap.get?_push_size _ rfl) hv hl
 exact zk cO cY iJ
theorem VR.yu{n:Nat}(x:VR S.fa as T (.loc n) w){zg:Prop}(zk:∀ p,(as[n]?=some p)->(w=.ref p.1)->zg):zg:=by
 cases x with|loc e=>exact zk _ e rfl
theorem HR.gu(hr:HR S as T H h){n:Nat}{l:List V}(hl:H[n]?=some (.list l))(x:VR S.fa as T (.loc n) w){zg:Prop}(zk:∀ a ws k,(w=.ref a)->(as[n]?=some (a,none))->(h.get? a=some (lst ws k))->(l.length<=lim)->(bq S.fa as T l ws)->zg):zg:=by
  refine x.yu λp e S6=>?_
  subst S6
  have:=hr.obj n _ p hl e
  cases this with
 |list e1 e2 e3=>exact zk _ _ _ rfl e e1 e2 e3
theorem HR.qS(hr:HR S as T H h){n:Nat}{es:List (List Nat×V)}(hl:H[n]?=some (.dict es))(x:VR S.fa as T (.loc n) w){zg:Prop}(zk:∀ a ds,(w=.ref a)->(as[n]?=some (a,none))->(h.DictOf (strKind S.prog S.w) a ds)->(es.length<=1024)->(DR S as T es ds)->zg):zg:=by
  refine x.yu λp e S7=>?_
  subst S7
  have:=hr.obj n _ p hl e
  cases this with
 |dict e1 e2 e3=>exact zk _ _ rfl e e1 e2 e3
theorem HR.wX(hr:HR S as T H h){n c:Nat}{fs:List (Nat×V)}(hl:H[n]?=some (.inst c fs))(x:VR S.fa as T (.loc n) w){zg:Prop}(zk:∀ a dx C f,(w=.ref a)->(as[n]?=some (a,some dx))->(c<5)->(S.ca[c]?=some C)->(h.get? a=some (instObj C dx))->(h.Ns1 dx f)->(FR S as T fs f)->zg):zg:=by
  refine x.yu λp e S8=>?_
  subst S8
  have:=hr.obj n _ p hl e
  cases this with
 |inst e0 e1 e2 e3 e4=>exact zk _ _ _ _ rfl e e0 e1 e2 e3 e4
section
variable {P:Value->Prop}{n c:Nat}{l:List V}{es:List (List Nat×V)}{fs:List (Nat×V)}
@[elab_as_elim] theorem HR.eI(hr:HR S as T H h)(hl:H[n]?=some (.list l))(x:VR S.fa as T (.loc n) w)(zk:∀ a ws k,as[n]?=some (a,none)->h.get? a=some (lst ws k)->l.length<=lim->bq S.fa as T l ws->P (.ref a)):P w:=hr.gu hl x λa ws k e p q r s=>e▸zk a ws k p q r s
@[elab_as_elim] theorem HR.EA(hr:HR S as T H h)(hl:H[n]?=some (.dict es))(x:VR S.fa as T (.loc n) w)(zk:∀ a ds,as[n]?=some (a,none)->h.DictOf (strKind S.prog S.w) a ds->es.length<=1024->DR S as T es ds->P (.ref a)):P w:=hr.qS hl x λa ds e p q r s=>e▸zk a ds p q r s
@[elab_as_elim] theorem HR.EB(hr:HR S as T H h)(hl:H[n]?=some (.inst c fs))(x:VR S.fa as T (.loc n) w)(zk:∀ a dx C f,as[n]?=some (a,some dx)->c<5->S.ca[c]?=some C->h.get? a=some (instObj C dx)->h.Ns1 dx f->FR S as T fs f->P (.ref a)):P w:=hr.wX hl x λa dx C f e p q r s t u=>e▸zk a dx C f p q r s t u
end
theorem HR.GN(hr:HR S as T H h){a:Addr}{ws:List Value}{k:Nat}(e:h.get? a=some (lst ws k))(ho:a∈owned as)(i:Im):¬ T a i:=λt=>by
  have:=hr.im a i t
  induction i with
 |tup us=>obtain⟨o',e',c,_⟩:=this;rw[e] at e';cases e';simp[lst] at c
 |ro us=>obtain⟨o,q⟩:=hr.ro a us t;rw[hr.new a ho] at q;exact nn q
 |cm i j l=>obtain⟨t,u,v,e'⟩:=this;have e2:=e.symm.trans e';simp[lst] at e2
theorem HR.Au(hr:HR S as T H h){a:Addr}{o:Obj}(e:h.get? a=some o)(h1:o.cls≠.type "tuple")(h2:o.cls≠.type "list")(h3:o.cls≠.type "range")(i:Im):¬ T a i:=λt=>by
  have:=hr.im a i t
  induction i with
 |tup us=>obtain⟨o',e',c,_⟩:=this;rw[e] at e';cases e';exact h1 c
 |ro us=>obtain⟨o',e',c,_⟩:=this;rw[e] at e';cases e';exact h2 c
 |cm i j l=>obtain⟨t,u,v,e'⟩:=this;have e2:=e.symm.trans e';cases e2;exact h3 rfl
theorem HR.wY(hr:HR S as T H h){a:Addr}{ds:List (Str×Value)}(e:h.DictOf (strKind S.prog S.w) a ds)(i:Im):¬ T a i:=by
 obtain⟨o,es,ep,q,x,_⟩:=e
 exact hr.Au q (by rw[x.1];decide) (by rw[x.1];decide) (by rw[x.1];decide) i
theorem Ext.upd{a:Addr}(ho:a∈owned as)(k:∀ b o,b≠a->h.get? b=some o->h'.get? b=some o):Ext Nil as T h as T h':=
 ⟨.refl ..,λb o n _ e=>k b o (λq=>n (q▸ho)) e,λb hb _=>hb.elim,λb hb=>.inl hb⟩
theorem list_set(hr:HR S as T H h){n:Nat}{l l':List V}{a:Addr}{ws ws':List Value}{k k':Nat}(hl:H[n]?=some (.list l))(hp:as[n]?=some (a,none))(e:h.get? a=some (lst ws k))
  (kp:∀ b o,b≠a->h.get? b=some o->h'.get? b=some o) (e':h'.get? a=some (lst ws' k')) (GO:l'.length<=lim) (hv:bq S.fa as T l' ws'):Ext Nil as T h as T h'/\HR S as T (H.set n (.list l')) h':=by
 have ho:a∈owned as:=(jj hp).1
 exact⟨.upd ho kp,hr.upd hp (eV.mp hl).1 (.head _) kp (.list e' GO hv) (hr.GN e ho)⟩
theorem f9{a:Addr}{f:Obj->Obj}:∀ b o,b≠a->h.get? b=some o->(h.update a f).get? b=some o:=λb o n e=>(Heap.get?_update_other h f (cR n)).trans e
theorem fy{a:Addr}{ws ws':List Value}{k:Nat}{f:Array Value->Array Value}(e:h.get? a=some (lst ws k))(hf:f ws.toArray=ws'.toArray):∃ k',(h.update a (Obj.mapSeq f)).get? a=some (lst ws' k'):=by
 have q:=IsL.update (h:=h) (l:=a) e f
 rw[hf] at q
 exact⟨_,q⟩
end
end Mine
namespace Mine
section
variable {S:b0}{as aO:As}{T T1:TS}{H H':Hp}{h h' h1:Heap}{s:Shared}{v:V}{w:Value}{Q:Value->Shared->Prop}{A:Around}{E:Value->Shared->Prop}
theorem VR.handed(x:VR S.fa as T v w):handedIn w=true:=by cases x <;> rfl
theorem dJ{n:Nat}(h:n<=lim):n<=sizeLine:=bj h (by decide)
theorem k6{n:Nat}(h:n<=lim):(n:Int)<2 ^ 63:=by
 have:n<=1048576:=h
 omega
theorem CN{es:Array DictEntry}{x:Str}{u:Value}(hf:nsFind es x=some u){zg:Prop}(zk:∀ e,(es.toList.find? (·.key.isStr x)=some e)->(e.val=u)->zg):zg:=by
 unfold nsFind findBy at hf
 rw[← Array.find?_toList] at hf
 obtain⟨e,h1,h2⟩:=Option.map_eq_some_iff.mp hf
 exact zk e h1 h2
theorem yv{od:Obj}{es:Array DictEntry}{ep:Nat}{x:Str}{u:Value}(hd:od.data=.dict es ep)(hf:nsFind es x=some u):lookIn x od=some (some u):=by
 refine CN hf λe h1 S9=>?_
 subst S9
 unfold lookIn
 rw[hd]
 dsimp only
 rw[h1]
theorem yw{od:Obj}{es:Array DictEntry}{ep:Nat}{x:Str}(hd:od.data=.dict es ep)(hk:StrKeys es)(hf:nsFind es x=none):lookIn x od=some none:=by
 unfold nsFind findBy at hf
 rw[← Array.find?_toList,Option.map_eq_none_iff] at hf
 unfold lookIn
 rw[hd]
 dsimp only
 rw[hf,if_neg]
 intro q
 obtain⟨e,he,hr⟩:=List.any_eq_true.mp q
 obtain⟨n,t,Ta⟩:=hk e (Array.mem_toList_iff.mp he)
 rw[DictEntry.refKey,Ta] at hr
 exact ff hr
theorem oM{a dx C:Addr}{f:Str->Option Value}(h1:h.get? a=some (instObj C dx))(h2:h.Ns1 dx f){zg:Prop}(zk:∀ od es ep,(W.InstAt h a (instObj C dx) C (some od))->(od.data=.dict es ep)->(StrKeys es)->(∀ x,nsFind es x=f x)->zg):zg:=by
 obtain⟨o,es,ep,e,d,k,_,g⟩:=h2
 exact zk o es ep (⟨h1,rfl,rfl,e⟩) d k g
theorem Av(C:Cx S)(hr:HR S as T H s.heap){o:V}{a:Nat}(x:VR S.fa as T o w)(e:lP H o a=some v){ex:Bool}(k:∀ u tk,VR S.fa as T v u->Q u { s with toks:=tk }):wpAny (model S.prog S.w) A (getAttr w (dW a) ex) Q E s:=by
 refine rV e λn hx e1=>?_;subst hx;clear e;have e:=e1;clear e1
 refine rW e λc fs hn e=>?_
 refine hr.EB hn x λp dx C' f hp c5 hC h1 h2 Tb=>?_
 obtain⟨h3,h4⟩:=Tb
 obtain⟨VA,u,hu,vr⟩:=h3 a v e
 obtain⟨ci,yx,ok⟩:=C.cls c C' c5 hC
 refine oM h1 h2 λod es ep I d sk g=>?_
 obtain⟨at',ha,yy⟩:=ok.attr a VA
 exact get_value (C.X.keeps hr.base) I ok.get.1 (findObj_own ok.hasDict ha yy (yv d ((g _).trans hu))) vr.handed (k u _ vr)
theorem GP{i j:Nat}(hi:i<22)(hj:j<22)(e:dW i=dW j):i=j:=by
 have h:∀ i,i<22->∀ j,j<22->dW i=dW j->i=j:=by decide +kernel
 exact h i hi j hj e
theorem I9{i:Nat}(hi:i<22):dW i∈ye:=by
 have h:∀ i,i<22->dW i∈ye:=by decide +kernel
 exact h i hi
theorem Aw{fs:List (Nat×V)}{f:Str->Option Value}(x:FR S as T fs f):Within f ye:=by
  intro y hy
  cases e:f y with
 |none=>exact absurd e hy
 |some u=>
   obtain⟨i,hi,rfl,_⟩:=x.2 y u e
   have h:∀ i,i<22->dW i∈ye:=by decide +kernel
   exact h i hi
theorem jN{α:Type}(i j:Nat)(v:α):∀ fs:List (Nat×α),eg j (putN i v fs)=if j=i then some v else eg j fs
 |[]=>by
  simp only[pB,pC,km,jc]
  by_cases h:j=i
  ·subst h;simp
  ·have:¬ i=j:=λq=>h q.symm
   simp[h,this]
 |(k,u)::r=>by
  have ih:=jN i j v r
  by_cases hk:k=i
  ·subst hk
   by_cases h:j=k
   ·subst h;simp[pB,pC,km,jc]
   ·have:¬ k=j:=λq=>h q.symm
    simp[pB,pC,km,jc,h,this]
  ·by_cases h:k=j
   ·subst h;simp[pB,pC,km,jc,hk]
   ·simp[pB,pC,km,jc,hk,h,ih]
theorem yz{a dx C':Addr}{f:Str->Option Value}{name:Str}{u:Value}{Q:Unit->Shared->Prop}(C:Cx S)(hb:∀ b o,S.h0.get? b=some o->s.heap.get? b=some o)(h1:s.heap.get? a=some (instObj C' dx))(h2:s.heap.Ns1 dx f)
  (hs:findIn S.K (.ref C') "__setattr__"=some (some (.builtin "object.__setattr__"))) (hp:plainOver S.K C'=true) (ht:takerIn S.K C' name=some none) (hh:hasDictIn S.K C'=true) (hw:Within f ye) (hn:name∈ye)
  (k:∀ h' tk,h'.Ns1 dx (λx=>if x=name then some u else f x)->Heap.SameBut dx s.heap h'->Q () { s with heap:=h',toks:=tk }):wpAny (model S.prog S.w) A (setAttr (.ref a) name u) Q E s:=by
 refine oM h1 h2 λod es ep I d sk g=>?_
 have X:=C.X.keeps hb
 refine set_plain X I hs (osa_open (s:={ s with toks:=s.toks+1 }) X I hp ht λb=>?_)
 obtain⟨cd,hc,VC⟩:=any_some hh
 refine wpAny_bind (wpAny_pure (wpAny_bind (wpAny_bind (wpAny_loadPart h1 (wpAny_bind (Looks.here (s:={ s with toks:=s.toks+1 }) (looks_clsIn X hc) ?_))))))
 rw[VC]
 refine wpAny_pure (a:=some dx) (wpAny_bind (wpAny_pure (wpAny_bind ?_)))
 refine wpAny_nsSet1EFk (s:={ s with toks:=s.toks+1 }) h2 λh' n' sb _=>?_
 obtain⟨oD,Xp,Xq,VD,VE,VF⟩:=n'.count (ns:=name::ye) (Within.cons name u hw)
 refine wpAny_bind (wpAny_lookBehind VD (by rw[VE];exact pastItsLine_dict (bj VF (by rw[cw,show ye.length=22 from by decide +kernel];decide))) ?_)
 exact wpAny_pure (k h' _ n' sb)
theorem Ja(hr:HR S as T H h){dx:Addr}{f:Str->Option Value}(x:h.Ns1 dx f)(i:Im):¬ T dx i:=λt=>by
  obtain⟨o,es,ep,q,d,_⟩:=x
  have:=hr.im dx i t
  induction i with
 |tup us=>obtain⟨o',e',c,_,d'⟩:=this;rw[← bU (q.symm.trans e'),d] at d';cases d'
 |ro us=>obtain⟨o',e',c,_,d'⟩:=this;rw[← bU (q.symm.trans e'),d] at d';cases d'
 |cm i j l=>obtain⟨t,u,v,e'⟩:=this;rw[bU (q.symm.trans e')] at d;cases d
theorem Mz{p dx C dy:Addr}{f:Str->Option Value}(h1:h.get? p=some (instObj C dy))(x:h.Ns1 dx f):p≠dx:=λq=>by
 obtain⟨o,es,ep,q',d,_⟩:=x
 rw[← q,h1] at q'
 rw[← bU q'] at d;cases d
theorem Ax(C:Cx S)(hr:HR S as T H s.heap){o:V}{a:Nat}{u:Value}{Q:Unit->Shared->Prop}(x:VR S.fa as T o w)(y:VR S.fa as T v u)(ha:a<22)(e:kn H o a v=some H')(k:wW S as T s H' Q):wpAny (model S.prog S.w) A (setAttr w (dW a) u) Q E s:=by
 refine gI e x λn x e=>rW e λc fs hn e=>hr.EB hn x λp dx C' f hp c5 hC h1 h2 h3=>?_
 obtain⟨ci,yx,ok⟩:=C.cls c C' c5 hC
 refine yz C hr.base h1 h2 ok.set ok.over (ok.take a ha) ok.hasDict (Aw h3) (I9 ha) λh' tk n' sb=>?_
 have kp:∀ b o,b≠dx->s.heap.get? b=some o->h'.get? b=some o:=λb o hb e=>(sb.2 b hb).trans e
 refine k h' tk as T (.upd ((jj hp).2 dx rfl) kp) (bU e▸hr.upd hp (eV.mp hn).1 (.tail _ (.head _)) kp (.inst c5 hC (kp _ _ (Mz h1 h2) h1) n' ⟨λi v' e=>?_,λz w' e=>?_⟩) (Ja hr h2))
 ·rw[jN] at e
  by_cases hi:i=a
  ·rw[if_pos hi] at e
   exact⟨hi▸ha,u,if_pos (congrArg dW hi),bU e▸y⟩
  ·rw[if_neg hi] at e
   obtain⟨Tc,VG,e1,e2⟩:=h3.1 i v' e
   exact⟨Tc,VG,(if_neg (λq=>hi (GP Tc ha q))).trans e1,e2⟩
 ·by_cases hz:z=dW a
  ·exact⟨a,ha,hz,by rw[jN];simp⟩
  ·obtain⟨i,hi,VH,hl⟩:=h3.2 z w' ((if_neg hz).symm.trans e)
   refine⟨i,hi,VH,?_⟩
   rw[jN]
   by_cases q:i=a
   ·simp[q]
   ·rw[if_neg q];exact hl
theorem Jb(C:Cx S)(hr:HR S as T H s.heap){n c:Nat}{fs:List (Nat×V)}{ci:CI}{m k:Nat}{pl:Sem Bool}{Q:Value×List Value->Shared->Prop}(x:VR S.fa as T (.loc n) w)(hn:H[n]?=some (.inst c fs))(yx:S.P.cls[c]?=some ci)(hm:eg m ci.meths=some k)
   (q:∀ a,S.fa[k]?=some a->Q (.ref a,[w]) s):wpAny (model S.prog S.w) A (getMethod w (mx m) pl) Q E s:=by
 refine hr.wX hn x λp dx C' f ew hp c5 hC h1 h2 h3=>?_
 subst ew
 obtain⟨VI,EC,ok⟩:=C.cls c C' c5 hC
 rw[yx] at EC;cases EC
 refine oM h1 h2 λod es ep I d sk g=>?_
 obtain⟨a,ha,hf,ht⟩:=ok.bp m k hm
 have VJ:f (mx m)=none:=by
   cases e:f (mx m) with
  |none=>rfl
  |some u=>
    obtain⟨i,hi,q,_⟩:=h3.2 _ _ e
    have:=ok.apart m k i hm hi
    rw[← q] at this
    simp at this
 exact method_fn (C.X.keeps hr.base) I ok.get.1 ok.get.2 hf ht (by show(lookIn (mx m) od).map _=_;rw[yw d sk ((g _).trans VJ)];rfl) (q a ha)
end
end Mine
namespace Mine
section
variable {S:b0}{as aO:As}{T T1:TS}{H H':Hp}{h h' h1:Heap}{s:Shared}{v:V}{w:Value}{Q:Value->Shared->Prop}{A:Around}{E:Value->Shared->Prop}
theorem nq{n:Nat}{l l':List V}{a:Addr}{ws ws':List Value}{k k':Nat}{r:V}{u:Value}(hr:HR S as T H s.heap)(hl:H[n]?=some (.list l))(hp:as[n]?=some (a,none))(e:s.heap.get? a=some (lst ws k))
  (kp:∀ b o,b≠a->s.heap.get? b=some o->h'.get? b=some o) (e':h'.get? a=some (lst ws' k')) (GO:l'.length<=lim) (hv:bq S.fa as T l' ws') (vr:VR S.fa as T r u) (q:cJ S as T s (H.set n (.list l')) r Q) (tk:Tok):Q u { s with heap:=h',toks:=tk }:=by
 obtain⟨x1,x2⟩:=list_set hr hl hp e kp e' GO hv
 exact q u h' tk as T x1 x2 vr
theorem CO{n:Nat}{l:List V}{x:V}{u:Value}(hr:HR S as T H s.heap)(vn:VR S.fa as T (.loc n) w)(vx:VR S.fa as T x u)(hl:H[n]?=some (.list l))(hlen:l.length<lim)(q:cJ S as T s (H.set n (.list (l++[x]))) .none Q) :
  wpAny (model S.prog S.w) A (call (.builtin "list.append") [w,u]) Q E s:=by
 refine hr.eI hl vn λa ws k hp e hz hv=>?_
 have iN:=hv.length
 refine append_at (its:=ws.toArray) (n:=k) e (λh' sb e'=>?_) (by rw[gp,iN];exact dJ hz)
 exact nq (ws':=ws++[u]) (k':=k+1) hr hl hp e (λb o nb q=>(sb.2 b nb).trans q) (by rw[e'];simp[lst]) (by simp;exact hlen) (hv.append (.cons vx .nil)) .none q _
theorem MA{n:Nat}{l:List V}{x:V}(hr:HR S as T H s.heap)(vn:VR S.fa as T (.loc n) w)(hl:H[n]?=some (.list l))(hx:l.getLast?=some x)(q:cJ S as T s (H.set n (.list l.dropLast)) x Q) :
  wpAny (model S.prog S.w) A (call (.builtin "list.pop") [w]) Q E s:=by
 refine hr.eI hl vn λa ws k hp e hz hv=>?_
 have iN:=hv.length
 rw[List.getLast?_eq_getElem?] at hx
 obtain⟨u,hu,vu⟩:=hv.get _ hx
 have hy:ws.toArray[ws.toArray.size-1]?=some u:=by simp[iN,hu]
 obtain⟨k',e'⟩:=fy (ws':=ws.dropLast) (f:=λxs=>xs.eraseIdxIfInBounds (ws.toArray.size-1)) e (by
  apply Array.toList_inj.mp
  have vR:ws.length-1<ws.length:=by
   have:=(eV.mp hx).1;omega
  simp[Array.eraseIdxIfInBounds,vR,List.eraseIdx_eq_dropLast,List.dropLast_eq_take])
 refine call_meets PySem.F.slot_list_pop ⟨_,e,rfl⟩ PySem.F.entry_list_pop (PySem.F.args_list_pop_1 _) (PySem.MeetsSeq.list_pop_last a ws.toArray k u hy (by rw[gp,iN];exact dJ hz)) ⟨e,?_⟩
 have hd:bq S.fa as T l.dropLast ws.dropLast:=by
  rw[List.dropLast_eq_take,List.dropLast_eq_take,iN];exact hv.take _
 exact nq hr hl hp e f9 e' (by simp;exact nt (am [_,_] (.d ab ac (.d (.s (.s ac)) ab .z)) rfl hz)) hd vu q _
theorem CP{n j:Nat}{l m:List V}{u:Value}(hr:HR S as T H s.heap)(vn:VR S.fa as T (.loc n) w)(vj:VR S.fa as T (.loc j) u)(hl:H[n]?=some (.list l))(hm:H[j]?=some (.list m))(hlen:l.length+m.length<lim)
  (q:cJ S as T s (H.set n (.list (l++m))) .none Q):wpAny (model S.prog S.w) A (call (.builtin "list.extend") [w,u]) Q E s:=by
 refine hr.eI hl vn λa ws k hp e hz hv=>?_
 refine hr.eI hm vj λb us k2 VK e2 sC yA=>?_
 have iN:=hv.length
 have VL:=yA.length
 obtain⟨k',e'⟩:=fy (ws':=ws++us) (f:=λx=>x++us.toArray) e (by simp)
 have Ay:ws.toArray.size+us.toArray.size<=sizeLine:=by rw[gp,gp,iN,VL];exact dJ (n6 hlen)
 refine call_meets PySem.F.slot_list_extend ⟨_,e,rfl⟩ PySem.F.entry_list_extend (PySem.F.args_list_extend_2 _ _) (PySem.AutoSeq1.list_extend_list_list_0 a ws.toArray k b us.toArray k2 ?_ (by exact nt (am [_,_,_] (.d (.a ab ac) ar (.d (.s ar) ab .z)) rfl Ay)) (by exact nt (am [_,_,_] (.d (.a ab ac) ar (.d (.s (.s ar)) (.a ab ac) .z)) rfl Ay))) ⟨e,e2,?_⟩
 ·intro q'
  simp only[dw,Builtin.List.listTooLong,decide_eq_true_eq] at q'
  have:=q'.2
  exact am [_,_,_] (.d (.a ab ac) ar (.d (.s ar) (.a ab ac) .z)) rfl Ay q'.2
 ·exact nq hr hl hp e f9 e' (by simp;exact nt (am [_,_,_] (.d (.s (.a ab ac)) ar (.d (.s ar) (.a ab ac) .z)) rfl hlen)) (hv.append yA) .none q _
theorem Az{n:Nat}{l:List V}(hr:HR S as T H s.heap)(vn:VR S.fa as T (.loc n) w)(hl:H[n]?=some (.list l))(q:cJ S as T s (H.set n (.list l.reverse)) .none Q) :
  wpAny (model S.prog S.w) A (call (.builtin "list.reverse") [w]) Q E s:=by
 refine hr.eI hl vn λa ws k hp e hz hv=>?_
 have iN:=hv.length
 obtain⟨k',e'⟩:=fy (ws':=ws.reverse) (f:=λx=>x.reverse) e (by simp)
 refine call_meets PySem.F.slot_list_reverse ⟨_,e,rfl⟩ PySem.F.entry_list_reverse (PySem.F.args_list_reverse_1 _) (PySem.AutoSeq1.list_reverse_list_0 a ws.toArray k (by rw[gp,iN];exact dJ hz)) ⟨e,?_⟩
 exact nq hr hl hp e f9 e' (by simpa using hz) hv.reverse .none q _
theorem mF{l:List V}{ws:List Value}{n:Nat}(hr:HR S as T H s.heap)(k:∀ b o,s.heap.get? b=some o->h'.get? b=some o)(ho:h'.get? s.heap.objs.size=some (lst ws n))(hv:bq S.fa as T l ws)(hl:l.length<=lim)
  (q:cJ S as T s (H++[.list l]) (.loc H.length) Q) (tk:Tok):Q (.ref s.heap.objs.size) { s with heap:=h',toks:=tk }:=by
 refine se hr k (aC _) ho hv hl λx1 x2 x3=>?_
 exact q _ h' tk _ _ x1 x2 x3
theorem AA{i j:Nat}{l m:List V}{u:Value}(hr:HR S as T H s.heap)(vn:VR S.fa as T (.loc i) w)(vj:VR S.fa as T (.loc j) u)(hl:H[i]?=some (.list l))(hm:H[j]?=some (.list m))(hlen:l.length+m.length<=lim)
  (q:cJ S as T s (H++[.list (l++m)]) (.loc H.length) Q):wpAny (model S.prog S.w) A (binaryOp .Add w u) Q E s:=by
 refine hr.eI hl vn λa ws k hp e hz hv=>?_
 refine hr.eI hm vj λb us k2 VK e2 sC yA=>?_
 have Ay:ws.toArray.size+us.toArray.size<=sizeLine:=by rw[gp,gp,hv.length,yA.length];exact dJ hlen
 refine concat_meets ⟨_,e,rfl⟩ ⟨_,e2,rfl⟩ noFill_list_add seq_list_add PySem.F.slot_list_add PySem.F.entry_list_add (PySem.F.args_list_add_2 _ _) (list_addW a b ws.toArray us.toArray k k2 none none #[] #[] Ay) ⟨e,e2,?_⟩
 rw[show ws.toArray++us.toArray=(ws++us).toArray by simp]
 exact mF hr (bT (lst (ws++us) 0)) (Heap.get?_push_size _ rfl) (hv.append yA) (by simpa using hlen) q _
theorem ij{l:List V}(hr:HR S as T H h)(x:VR S.fa as T (.tup l) w){zg:Prop}(zk:∀ a ws,(w=.ref a)->(h.IsTuple a ws.toArray)->(l.length<=lim)->(bq S.fa as T l ws)->zg):zg:=by
  cases x with
 |tup t hl hv=>exact zk _ _ rfl (hr.im _ _ t) hl hv
theorem AB{l:List V}(hr:HR S as T H s.heap)(vn:VR S.fa as T (.tup l) w)(q:cJ S as T s (H++[.list l]) (.loc H.length) Q):wpAny (model S.prog S.w) A (call (.type "list") [w]) Q E s:=by
 refine ij hr vn λa ws Td=>?_
 subst Td
 intro Te hz hv
 obtain⟨o,e,c,n,d⟩:=Te
 exact call_list_seq (hsz:=by rw[gp,hv.length];exact dJ hz) a (.inr rfl) e c d λh' c' hk hD=>mF hr hk hD hv hz q _
theorem vS{n:Nat}{l:List V}{i:Int}{t:Tok}{x:V}(hr:HR S as T H s.heap)(vn:VR S.fa as T (.loc n) w)(hl:H[n]?=some (.list l))(hi:0<=i)(hx:l[i.toNat]?=some x)(q:∀ u,VR S.fa as T x u->Q u s) :
  wpAny (model S.prog S.w) A (getItem w (.int i t)) Q E s:=by
 refine hr.eI hl vn λa ws k hp e hz hv=>?_
 obtain⟨u,hu,vu⟩:=hv.get _ hx
 have h1:=(eV.mp hx).1
 exact wpAny_getItem_list ⟨_,e,rfl,k,rfl⟩ hi (by have:=k6 hz;omega) (by simpa using hu) (q u vu)
theorem yB{l:List V}{i:Int}{t:Tok}{x:V}(hr:HR S as T H s.heap)(vn:VR S.fa as T (.tup l) w)(hi:0<=i)(hx:l[i.toNat]?=some x)(q:∀ u,VR S.fa as T x u->Q u s) :
  wpAny (model S.prog S.w) A (getItem w (.int i t)) Q E s:=by
 refine ij hr vn λa ws Tf=>?_
 subst Tf
 intro e hz hv
 obtain⟨u,hu,vu⟩:=hv.get _ hx
 have h1:=(eV.mp hx).1
 have h2:=k6 hz
 refine getItem_tuple (j:=i.toNat) e (by omega) (by omega) ?_ (by simpa using hu) (q u vu)
 unfold seqIndex?
 rw[gp,hv.length]
 simp only[show ¬ i<0 by omega,if_false]
 rw[if_pos (by simp;omega)]
theorem qT{n:Nat}{l:List V}{i:Int}{t:Tok}{x:V}{u:Value}{Q:Unit->Shared->Prop}(hr:HR S as T H s.heap)(vn:VR S.fa as T (.loc n) w)(vx:VR S.fa as T x u)(hl:H[n]?=some (.list l))(hi:0<=i)(hx:i.toNat<l.length)
  (q:wW S as T s (H.set n (.list (l.set i.toNat x))) Q):wpAny (model S.prog S.w) A (setItem w (.int i t) u) Q E s:=by
 refine hr.eI hl vn λa ws k hp e hz hv=>?_
 have iN:=hv.length
 refine ki_setAt e hi (by have:=k6 hz;omega) (by rw[gp,iN];omega) ?_
 obtain⟨k',e'⟩:=fy (ws':=ws.set i.toNat u) (f:=λx=>x.setIfInBounds i.toNat u) e (by apply Array.toList_inj.mp;simp)
 obtain⟨x1,x2⟩:=list_set (l':=l.set i.toNat x) hr hl hp e f9 e' (by simpa using hz) (hv.set _ vx)
 exact q _ _ as T x1 x2
theorem wZ{i j:Int}(h:0<j):Int.fdiv i j=i / j:=Int.fdiv_eq_ediv_of_nonneg _ (Int.le_of_lt h)
theorem GQ{i j:Int}(h:0<j):Int.fmod i j=i % j:=Int.fmod_eq_emod_of_nonneg _ (Int.le_of_lt h)
end
end Mine
namespace Mine
section
variable {S:b0}{as aO:As}{T T1:TS}{H H':Hp}{h h' h1:Heap}{s:Shared}{v:V}{w:Value}{Q:Value->Shared->Prop}{A:Around}{E:Value->Shared->Prop}
theorem ED{x:List Nat}(h:VR S.fa as T (.str x) w){zg:Prop}(zk:∀ t,(w=.str ⟨x.toArray⟩ t)->(x.length<=lim)->zg):zg:=by
 cases h with|str _ t hl=>exact zk t rfl hl
theorem EE{i:Int}(h:VR S.fa as T (.int i) w):∃ t,w=.int i t:=by
 cases h with|int _ t=>exact⟨t,rfl⟩
theorem k7{b:Bool}(h:VR S.fa as T (.bool b) w):w=.bool b:=by cases h;rfl
theorem j2(h:VR S.fa as T .none w):w=.none:=by cases h;rfl
section
variable {P:Value->Prop}
@[elab_as_elim] theorem cz{x:List Nat}(h:VR S.fa as T (.str x) w)(zk:∀ t,x.length<=lim->P (.str ⟨x.toArray⟩ t)):P w:=ED h λt e hz=>e▸zk t hz
@[elab_as_elim] theorem cZ{i:Int}(h:VR S.fa as T (.int i) w)(zk:∀ t,P (.int i t)):P w:=by obtain⟨t,rfl⟩:=EE h;exact zk t
@[elab_as_elim] theorem yC{b:Bool}(h:VR S.fa as T (.bool b) w)(zk:P (.bool b)):P w:=k7 h▸zk
@[elab_as_elim] theorem sU(h:VR S.fa as T .none w)(zk:P .none):P w:=j2 h▸zk
end
theorem ue{i j:Int}(h1:0<j)(h2:j<1152921504606846976):Builtin.divisionGoesByPylong i j=false:=by
 unfold Builtin.divisionGoesByPylong
 dsimp only
 have hj:¬ (j==0)=true:=by intro q;have:=beq_iff_eq.mp q;omega
 have Jc:j.natAbs.log2<61:=(Nat.log2_lt (by omega)).mpr (by omega)
 have:¬ (if(j==0)=true then 0 else j.natAbs.log2 / 30+1) > 300:=by rw[if_neg hj];omega
 rw[decide_eq_false this];rfl
theorem AC{i:Int}(h:i.natAbs<1152921504606846976):Builtin.Int.intBits i<=62:=by
 unfold Builtin.Int.intBits
 by_cases h0:i=0
 ·subst h0;decide
 ·have Jc:i.natAbs.log2<60:=(Nat.log2_lt (by omega)).mpr (by omega)
  first|(split <;> omega)|omega|(simp;omega)
theorem CQ{i j:Int}(h:i.natAbs<1152921504606846976):IntMulOk i j:=by
 have:=AC h
 unfold IntMulOk
 have h1:¬ Builtin.Int.intBits i > shortFactorBits:=by show ¬ _ > 64;omega
 rw[decide_eq_false h1]
 simp
theorem pR{a:Addr}{ws:Array Value}(ht:h.IsTuple a ws){zg:Prop}(zk:∀ n dd sl,h.get? a=some ⟨.type "tuple",dd,.seq ws n,sl⟩->zg):zg:=by
 obtain⟨⟨cls,dd,data,sl⟩,ho,hc,n,hd⟩:=ht
 cases hc;cases hd
 exact zk n dd sl ho
theorem CR{l m:List V}{u:Value}(hr:HR S as T H s.heap)(vn:VR S.fa as T (.tup l) w)(vj:VR S.fa as T (.tup m) u)(hlen:l.length+m.length<=lim)(q:cJ S as T s H (.tup (l++m)) Q):wpAny (model S.prog S.w) A (binaryOp .Add w u) Q E s:=
 ij hr vn λa ws ew ht hz hv=>ij hr vj λb us eu hb sC yA=>pR ht λn dd sl ho=>pR hb λn2 Qw Qx nO=>by
 rw[ew,eu]
 by_cases hw:ws=[]
 ·refine concat_meets ⟨_,ho,rfl⟩ ⟨_,nO,rfl⟩ noFill_tuple_add seq_tuple_add PySem.F.slot_tuple_add PySem.F.entry_tuple_add (PySem.F.args_tuple_add_2 _ _)
   (tuple_addW0 a b ws.toArray us.toArray n n2 dd Qw sl Qx (by simp[hw])) ⟨ho,nO,?_⟩
  have:l=[]:=xU.mp (by rw[← hv.length,hw];rfl)
  exact cJ.now q hr (by rw[this,po];exact eu▸vj)
 ·by_cases hu:us=[]
  ·refine concat_meets ⟨_,ho,rfl⟩ ⟨_,nO,rfl⟩ noFill_tuple_add seq_tuple_add PySem.F.slot_tuple_add PySem.F.entry_tuple_add (PySem.F.args_tuple_add_2 _ _)
    (tuple_addW1 a b ws.toArray us.toArray n n2 dd Qw sl Qx (by simpa using hw) (by simp[hu])) ⟨ho,nO,?_⟩
   have:m=[]:=xU.mp (by rw[← yA.length,hu];rfl)
   exact cJ.now q hr (by rw[this,ce];exact ew▸vn)
  ·refine concat_meets ⟨_,ho,rfl⟩ ⟨_,nO,rfl⟩ noFill_tuple_add seq_tuple_add PySem.F.slot_tuple_add PySem.F.entry_tuple_add (PySem.F.args_tuple_add_2 _ _)
    (tuple_addW2 a b ws.toArray us.toArray n n2 dd Qw sl Qx (by simpa using hw) (by simpa using hu) (by rw[gp,gp,hv.length,yA.length];exact dJ hlen)) ⟨ho,nO,?_⟩
   rw[show ws.toArray++us.toArray=(ws++us).toArray by simp]
   refine sd hr (hv.append yA) (by rw[aH];exact hlen) λT' x1 x2 x3=>?_
   exact q _ _ _ _ _ x1 x2 x3
theorem Jd(x y:List Nat):(⟨x.toArray⟩:Str)++(⟨y.toArray⟩:Str)=(⟨(x++y).toArray⟩:Str):=by
 show(⟨x.toArray++y.toArray⟩:Str)=_
 simp
theorem str_len(x:List Nat):(⟨x.toArray⟩:Str).length=x.length:=by
 show x.toArray.size=_
 simp
theorem Je{a b r:V}{wa wb:Value}(e:ON a b H=some (r,H'))(hr:HR S as T H s.heap)(va:VR S.fa as T a wa)(vb:VR S.fa as T b wb)(q:cJ S as T s H' r Q):wpAny (model S.prog S.w) A (binaryOp .Add wa wb) Q E s:=by
  induction a using V.casesOn with
 |int i=>exact fg e vb λj vb e=>cZ va λt=>cZ vb λu=>add_int ((q.nN e).tok hr (.int _ _) _)
 |str x=>
   refine f8 e vb λy vb e=>cz va λt h1=>cz vb λu h2=>?_
   obtain⟨hl,e⟩:=cU e
   refine SBL.add (λt' k _=>?_) (by rw[str_len,str_len];exact dJ hl)
   rw[Jd]
   exact(q.of e).tok hr (.str _ _ (by rw[aH];exact hl)) _
 |tup l=>exact Mx e vb λm vb e=>je e λhl e=>CR hr va vb hl (q.of e)
 |loc i=>exact gI e vb λj vb e=>bi e λl h1 e=>bi e λm h2 e=>je e λhl e=>AA hr va vb h1 h2 hl (q.of e)
 |_=>exact nn e
theorem Jf{a b r:V}{wa wb:Value}(e:OO a b H=some (r,H'))(hr:HR S as T H s.heap)(va:VR S.fa as T a wa)(vb:VR S.fa as T b wb)(q:cJ S as T s H' r Q):wpAny (model S.prog S.w) A (binaryOp .Mult wa wb) Q E s:=by
  induction a using V.casesOn with
 |int i=>
   refine fg e vb λj vb e=>cZ va λt=>cZ vb λu=>?_
   obtain⟨hl,e⟩:=cU e
   exact mul_int ((q.of e).tok hr (.int _ _) _) (CQ hl.1)
 |_=>exact nn e
theorem ints2{β:Type}{a b:V}{wa wb:Value}{f:Int->Int->Option β}{r:β}{P:Value->Value->Prop}(va:VR S.fa as T a wa)(vb:VR S.fa as T b wb)(e:gX a (λi=>gX b (f i))=some r)(k:∀ i j t u,f i j=some r->P (.int i t) (.int j u)):P wa wb:=
 fg e va λi va e=>fg e vb λj vb e=>cZ va λt=>cZ vb λu=>k i j t u e
theorem MB{op:ki}{o:Operator}{a b r:V}{wa wb:Value}(e:tn op a b H=some (r,H'))(c:lR op o=true)(hr:HR S as T H s.heap)(va:VR S.fa as T a wa)(vb:VR S.fa as T b wb)(q:cJ S as T s H' r Q):wpAny (model S.prog S.w) A (binaryOp o wa wb) Q E s:=by
  obtain rfl:=of_decide_eq_true c
  induction op with
 |add=>exact Je e hr va vb q
 |mul=>exact Jf e hr va vb q
 |sub=>exact ints2 (P:=λx y=>wpAny (model S.prog S.w) A (binaryOp .Sub x y) Q E s) va vb e λi j t u e=>sub_int ((q.nN e).tok hr (.int _ _) _)
 |fdiv=>exact ints2 (P:=λx y=>wpAny (model S.prog S.w) A (binaryOp .FloorDiv x y) Q E s) va vb e λi j t u e=>je e λhl e=>
   floordiv_int (Int.ne_of_gt hl.1) (wZ hl.1▸(q.of e).tok hr (.int _ _) _) (.inl (ue hl.1 hl.2.2))
 |mod=>exact ints2 (P:=λx y=>wpAny (model S.prog S.w) A (binaryOp .Mod x y) Q E s) va vb e λi j t u e=>je e λhl e=>
   mod_int' (Int.ne_of_gt hl) (GQ hl▸(q.of e).tok hr (.int _ _) _)
theorem EF{op:ki}{o:Operator}{a b r:V}{wa wb:Value}(e:lO op a b=some r)(c:lR op o=true)(hr:HR S as T H s.heap)(va:VR S.fa as T a wa)(vb:VR S.fa as T b wb)(q:cJ S as T s H r Q):wpAny (model S.prog S.w) A (inplaceOp o wa wb) Q E s:=by
  obtain rfl:=of_decide_eq_true c
  refine ints2 (P:=λx y=>wpAny (model S.prog S.w) A (inplaceOp (OT op) x y) Q E s) va vb e λi j t u e=>?_
  induction op with
 |add=>exact iadd_int (q.tok hr (bU e▸.int _ _) _)
 |sub=>exact PySem.AutoIntOps.isub_0 (q.tok hr (bU e▸.int _ _) _)
 |fdiv=>
   obtain⟨hl,e⟩:=cU e
   refine PySem.AutoIntOps.ifloordiv_1 (by simp;omega) (by rw[ue hl.1 hl.2.2];decide) ?_
   rw[wZ hl.1]
   exact q.tok hr (e▸.int _ _) _
 |mul=>exact nn e
 |mod=>exact nn e
theorem yD{x:List Nat}(h:x.all (· < 128)=true):PyData.strOk ⟨x.toArray⟩=true:=by
 unfold PyData.strOk
 rw[← Array.all_toList]
 refine gq.mpr λc hc=>?_
 have:=gq.mp h c (by simpa using hc)
 simp at this ⊢
 exact nl (am [_] (.d (.s ab) (.n 128) (.d (.n 1114112) ab .z)) rfl this)
theorem uf{α β:Type}{f:α->Option β}{a:α}{r:List α}{l:List β}(e:i9 f (a::r)=some l){g:Prop}(k:∀ b bs,f a=some b->i9 f r=some bs->b::bs=l->g):g:=by
  cases h:f a with
 |none=>rw[iX,h] at e;exact nn e
 |some b=>
    cases h2:i9 f r with
   |none=>rw[iX,h,h2] at e;exact nn e
   |some bs=>rw[iX,h,h2] at e;exact k b bs h h2 (bU e)
theorem k8(hr:HR S as T H h):∀(n:Nat){v:V}{w:Value}{d:PyData},dat H n v=some d->VR S.fa as T v w->∃ bs,Reads h w d bs:=by
  intro n
  induction n with
 |zero=>intro v w d e;exact nn e
 |succ n ih=>
    have all:∀{l:List V}{ws:List Value}{ds:List PyData},i9 (dat H n) l=some ds->bq S.fa as T l ws->∃ bs,ReadsAll h ws ds bs:=by
      intro l
      induction l with
     |nil=>intro ws ds e x;exact oi x (bU e▸⟨_,.nil⟩)
     |cons a r Qy=>
       intro ws ds e x
       exact jL x λw us y z=>uf e λd VM hd qU e=>by
        obtain⟨_,r1⟩:=ih hd y
        obtain⟨_,r2⟩:=Qy qU z
        exact e▸⟨_,.cons r1 r2⟩
    intro v w d e x
    induction v using V.casesOn with
   |none=>exact sU x (bU e▸⟨_,.none⟩)
   |bool=>exact yC x (bU e▸⟨_,.bool _⟩)
   |int=>exact cZ x λt=>bU e▸⟨_,.int _ _⟩
   |str y=>exact cz x λt _=>(cU e).2▸⟨_,.str _ _⟩
   |tup y=>
      exact bB e λds qU e=>ij hr x λa ws hw ht _ hv=>by
       obtain⟨o,e1,c,k,d1⟩:=ht
       obtain⟨bs,r⟩:=all qU hv
       exact hw▸e▸⟨_,.tuple e1 c d1 (by simpa using r)⟩
   |loc i=>
      exact bi e λl hl e=>bB e λds qU e=>hr.gu hl x λa ws k hw _ e1 _ hv=>by
       obtain⟨bs,r⟩:=all qU hv
       exact hw▸e▸⟨_,.list e1 rfl rfl (by simpa using r)⟩
   |_=>exact nn e
theorem CU:∀(n:Nat){v:V}{d:PyData},dat H n v=some d->d.canLay0=true/\d.depth<=n:=by
  intro n
  induction n with
 |zero=>intro v d e;exact nn e
 |succ n ih=>
    have all:∀{l:List V}{ds:List PyData},i9 (dat H n) l=some ds->PyData.canLayAll0 ds=true/\PyData.depthAll ds<=n:=by
      intro l
      induction l with
     |nil=>intro ds e;exact bU e▸⟨rfl,cj _⟩
     |cons a r Qy=>
       intro ds e
       refine uf e λd VM hd qU e=>e▸?_
       have h1:=ih hd
       have h2:=Qy qU
       exact⟨by simp only[PyData.canLayAll0,h1.1,h2.1,Bool.and_self],Nat.max_le.mpr ⟨h1.2,h2.2⟩⟩
    intro v d e
    induction v using V.casesOn with
   |none=>exact bU e▸⟨rfl,cj _⟩
   |bool=>exact bU e▸⟨rfl,cj _⟩
   |int=>exact bU e▸⟨rfl,cj _⟩
   |str y=>exact je e λha e=>e▸⟨yD ha,cj _⟩
   |tup y=>exact bB e λds qU e=>e▸⟨(all qU).1,tc (all qU).2⟩
   |loc i=>exact bi e λl hl e=>bB e λds qU e=>e▸⟨(all qU).1,tc (all qU).2⟩
   |_=>exact nn e
theorem jO{v:V}{d:PyData}(e:dat H 8 v=some d):SeqAt.shaped d=true:=by
 have:=CU 8 e
 unfold SeqAt.shaped
 rw[this.1,Bool.true_and]
 exact decide_eq_true (by exact nt (am [_] (.d ab (.n 8) (.d (.s (.n 64)) ab .z)) rfl this.2))
end
end Mine
namespace Mine
section
variable {S:b0}{as aO:As}{T T1:TS}{H H':Hp}{h h' h1:Heap}{s:Shared}{v:V}{w:Value}{Q:Value->Shared->Prop}{A:Around}{E:Value->Shared->Prop}
theorem nr(x y:List Nat):((⟨x.toArray⟩:Str)==(⟨y.toArray⟩:Str))=(x==y):=by
 by_cases h:x=y
 ·subst h;simp
 ·have:(⟨x.toArray⟩:Str)≠⟨y.toArray⟩:=λq=>h (by simpa using congrArg (λz=>z.cps.toList) q)
  rw[beq_eq_false_iff_ne.mpr this,beq_eq_false_iff_ne.mpr h]
theorem MC{a b:V}{wa wb:Value}{r:Bool}(hu:A.units+64<cLine)(e:pE H a b=some r)(hr:HR S as T H s.heap)(va:VR S.fa as T a wa)(vb:VR S.fa as T b wb)(q:∀ tk,Q (.bool r) { s with toks:=tk }):wpAny (model S.prog S.w) A (compareOp .Eq wa wb) Q E s:=by
 refine rY e λx y hx hy dY=>?_
 obtain⟨bs,r1⟩:=k8 hr 8 hx va
 obtain⟨cs,r2⟩:=k8 hr 8 hy vb
 exact SeqAt.compareEq_shaped r1 r2 (jO hx) (jO hy) hu (by rw[dY];exact q _)
theorem Qz{a b:V}{wa wb:Value}{r:Bool}(hu:A.units+64<cLine)(e:Qj H a b=some r)(hr:HR S as T H s.heap)(va:VR S.fa as T a wa)(vb:VR S.fa as T b wb)(q:∀ tk,Q (.bool r) { s with toks:=tk }):wpAny (model S.prog S.w) A (compareOp .Eq wa wb) Q E s:=by
  unfold Qj at e
  cases hf:Eb H a b with
 |none=>rw[hf] at e;exact MC hu e hr va vb q
 |some r'=>
    rw[hf] at e
    replace hf:=hf.trans (congrArg some e)
    clear e r'
    induction a using V.casesOn with
   |str x=>
      induction b using V.casesOn with
     |str y=>exact cz va λt _=>cz vb λu _=>eq_str (by rw[nr,bU (bU hf)];exact q _)
     |_=>exact nn hf
   |int i=>
      induction b using V.casesOn with
     |int j=>exact cZ va λt=>cZ vb λu=>eq_int (bU (bU hf)▸q _)
     |_=>exact nn hf
   |tup l=>
      induction b using V.casesOn with
     |str y=>exact ij hr va λa' ws e ht hz hv=>cz vb λu h2=>e▸SeqAt.RcAt.tuple_str _ _ ht (by exact nl (am [_,_] (.d (.s (.a ab (.n 64))) ac (.d ac ab .z)) rfl hu)) S.prog S.w E Q (bU (bU hf)▸q _)
     |_=>exact nn hf
   |_=>exact nn hf
theorem MD{a b:V}{wa wb:Value}{r:Bool}(hu:A.units+64<cLine)(e:(pE H a b).map (!·)=some r)(hr:HR S as T H s.heap)(va:VR S.fa as T a wa)(vb:VR S.fa as T b wb)(q:∀ tk,Q (.bool r) { s with toks:=tk }):wpAny (model S.prog S.w) A (compareOp .NotEq wa wb) Q E s:=by
 refine bB e λr' e h=>?_
 refine rY e λx y hx hy dY=>?_
 obtain⟨bs,r1⟩:=k8 hr 8 hx va
 obtain⟨cs,r2⟩:=k8 hr 8 hy vb
 exact SeqAt.compareNe_shaped r1 r2 (jO hx) (jO hy) hu (by rw[dY,h];exact q _)
theorem QA{a b:V}{wa wb:Value}{r:Bool}(hu:A.units+64<cLine)(e:Qk H a b=some r)(hr:HR S as T H s.heap)(va:VR S.fa as T a wa)(vb:VR S.fa as T b wb)(q:∀ tk,Q (.bool r) { s with toks:=tk }):wpAny (model S.prog S.w) A (compareOp .NotEq wa wb) Q E s:=by
  unfold Qk at e
  cases hf:Ec a b with
 |none=>rw[hf] at e;exact MD hu e hr va vb q
 |some r'=>
   rw[hf] at e
   exact f8 (hf.trans e) va λx va e=>f8 e vb λy vb e=>cz va λt _=>cz vb λu _=>ne_str (by rw[bne,nr,bU e];exact q _)
theorem CV{l:List V}{ws:List Value}{ss:List (List Nat)}(e:strsOf l=some ss)(x:bq S.fa as T l ws):StrsAre ws (ss.map λx=>(⟨x.toArray⟩:Str)):=by
  induction l generalizing ws ss with
 |nil=>exact oi x (bU e▸.nil)
 |cons a r ih=>
    refine jL x λw us h y=>?_
    induction a using V.casesOn with
   |str z=>
      rw[wB] at e
      generalize hl:strsOf r=o at e
      induction o with
     |none=>exact nn e
     |some l=>exact cz h λt _=>bU e▸.cons _ _ (ih hl y)
   |_=>exact nn e
theorem w7(x:List Nat):∀{ws:List Value}{ss:List (List Nat)},StrsAre ws (ss.map λx=>(⟨x.toArray⟩:Str))->ws.any (λy=>y.isStr ⟨x.toArray⟩)=ss.any (·==x)
 |_,[],h=>by cases h;rfl
 |_,y::r,h=>by
   cases h with
  |cons _ _ h'=>
    rw[List.any_cons,List.any_cons,w7 x h']
    congr 1
    exact nr y x
theorem CX(x:List Nat)(u:Tok):∀{ws:List Value}{ss:List Str},StrsAre ws ss->∀ y∈ws,SeqAt.EqAt A s y (.str ⟨x.toArray⟩ u) (y.isStr ⟨x.toArray⟩):=by
  intro ws ss h
  induction h with
 |nil=>intro y hy;cases hy
 |cons z t _ ih=>
    intro y hy
    cases hy with
   |head=>exact SeqAt.EqAt.str_str _ _ _ _
   |tail _ hy=>exact ih y hy
theorem Jg{a b:V}{wa wb:Value}{r:Bool}{P:Value->Value->Prop}(e:IL H a b=some r)(hr:HR S as T H s.heap)(va:VR S.fa as T a wa)(vb:VR S.fa as T b wb)
    (ks:∀(c:Nat)(t:List Nat) t1 u,decide (c∈t)=r->P (.str ⟨[c].toArray⟩ t1) (.str ⟨t.toArray⟩ u))
    (kt:∀(x:List Nat) t1 a' (ws:List Value),s.heap.IsTuple a' ws.toArray->(∀ y∈ws.toArray,SeqAt.EqAt A s y (.str ⟨x.toArray⟩ t1) (y.isStr ⟨x.toArray⟩))->ws.toArray.any (λy=>y.isStr ⟨x.toArray⟩)=r->P (.str ⟨x.toArray⟩ t1) (.ref a'))
    (kl:∀(x:List Nat) t1 a' (ws:List Value),s.heap.IsList a' ws.toArray->(∀ y∈ws.toArray,SeqAt.EqAt A s y (.str ⟨x.toArray⟩ t1) (y.isStr ⟨x.toArray⟩))->ws.toArray.any (λy=>y.isStr ⟨x.toArray⟩)=r->P (.str ⟨x.toArray⟩ t1) (.ref a')):P wa wb:=by
  refine f8 e va λx va e=>cz va λt1 _=>?_
  have key:∀{l:List V}{ws:List Value},bq S.fa as T l ws->(jf l λss=>some (ss.any (·==x)))=some r->(∀ y∈ws.toArray,SeqAt.EqAt A s y (.str ⟨x.toArray⟩ t1) (y.isStr ⟨x.toArray⟩))/\ws.toArray.any (λy=>y.isStr ⟨x.toArray⟩)=r:=λhv e=>lN e λss hs e=>
    ⟨λy hy=>CX x t1 (CV hs hv) y (by simpa using hy),by rw[← Array.any_toList,List.toList_toArray,w7 x (CV hs hv)];exact bU e⟩
  induction b using V.casesOn with
 |str t=>
    refine cz vb λu _=>?_
    match x,e with
   |[c],e=>exact ks c t t1 u (ke (by simp) (bU e))
   |[],e=>exact nn e
   |_::_::_,e=>exact nn e
 |tup l=>exact ij hr vb λa' ws h ht _ hv=>h▸kt x t1 a' ws ht (key hv e).1 (key hv e).2
 |loc n=>exact bi e λl hl e=>hr.gu hl vb λa' ws k h _ e1 _ hv=>h▸kl x t1 a' ws ⟨_,e1,rfl,k,rfl⟩ (key hv e).1 (key hv e).2
 |_=>exact nn e
theorem QB{a b:V}{wa wb:Value}{r:Bool}(e:IL H a b=some r)(hr:HR S as T H s.heap)(va:VR S.fa as T a wa)(vb:VR S.fa as T b wb)(q:∀ tk,Q (.bool r) { s with toks:=tk }):wpAny (model S.prog S.w) A (compareOp .In wa wb) Q E s:=
 Jg (P:=λx y=>wpAny (model S.prog S.w) A (compareOp .In x y) Q E s) e hr va vb
  (λc t t1 u h=>PyProof.Rows.in_str (by rw[StrLaws.found_one];exact h▸q _)) (λx t1 a' ws ht h1 h2=>SeqAt.in_tupleAt _ ht h1 (h2▸q _)) (λx t1 a' ws ht h1 h2=>SeqAt.in_listAt _ ht h1 (h2▸q _))
theorem GR{a b:V}{wa wb:Value}{r:Bool}(e:IL H a b=some r)(hr:HR S as T H s.heap)(va:VR S.fa as T a wa)(vb:VR S.fa as T b wb)(q:∀ tk,Q (.bool (!r)) { s with toks:=tk }):wpAny (model S.prog S.w) A (compareOp .NotIn wa wb) Q E s:=
 Jg (P:=λx y=>wpAny (model S.prog S.w) A (compareOp .NotIn x y) Q E s) e hr va vb
  (λc t t1 u h=>PyProof.Rows.notIn_str (by rw[StrLaws.found_one];exact h▸q _)) (λx t1 a' ws ht h1 h2=>SeqAt.notIn_tupleAt _ ht h1 (h2▸q _)) (λx t1 a' ws ht h1 h2=>SeqAt.notIn_listAt _ ht h1 (h2▸q _))
theorem AD(x:VR S.fa as T v w):v≠.none->w≠.none:=
 VR.rec (motive_1:=λv w _=>v≠.none->w≠.none) (motive_2:=λ_ _ _=>True) (λh=>absurd rfl h) (λ_ _=>Value.noConfusion) (λ_ _ _=>Value.noConfusion) (λ_ _ _ _=>Value.noConfusion) (λ_ _ _ _ _=>Value.noConfusion) (λ_ _ _ _ _=>Value.noConfusion) (λ_ _=>Value.noConfusion) (λ_ _=>Value.noConfusion) (λ_ _=>Value.noConfusion) trivial (λ_ _ _ _=>trivial) x
theorem GS(x:VR S.fa as T v w):plainIs w .none=true:=
 VR.rec (motive_1:=λ_ w _=>plainIs w .none=true) (motive_2:=λ_ _ _=>True) rfl (λ_=>rfl) (λ_ _=>rfl) (λ_ _ _=>rfl) (λ_ _ _ _=>rfl) (λ_ _ _ _=>rfl) (λ_=>rfl) (λ_=>rfl) (λ_=>rfl) trivial (λ_ _ _ _=>trivial) x
theorem GU{a b:V}{r:Bool}(e:tm a b=some r):b=.none/\fS a=r:=by
  unfold tm at e
  cases h:fS b with
 |true=>rw[h] at e;exact⟨mu h,bU e⟩
 |false=>rw[h] at e;first|exact nn e|exact ff e|exact nn e
theorem Jh{a b:V}{wa wb:Value}{r:Bool}{P:Value->Value->Prop}(e:tm a b=some r)(va:VR S.fa as T a wa)(vb:VR S.fa as T b wb)(kt:r=true->P .none .none)(kf:∀ w:Value,plainIs w .none=true->w≠.none->r=false->P w .none):P wa wb:=by
  obtain⟨hb,h⟩:=GU e
  refine sU (hb▸vb:VR S.fa as T .none wb) ?_
  cases r with
 |true=>exact sU (mu h▸va:VR S.fa as T .none wa) (kt rfl)
 |false=>exact kf wa (GS va) (AD va λq=>by rw[q] at h;exact ff h.symm) rfl
theorem QC{a b:V}{wa wb:Value}{r:Bool}(e:tm a b=some r)(va:VR S.fa as T a wa)(vb:VR S.fa as T b wb)(q:∀ tk,Q (.bool r) { s with toks:=tk }):wpAny (model S.prog S.w) A (compareOp .Is wa wb) Q E s:=
 Jh (P:=λx y=>wpAny (model S.prog S.w) A (compareOp .Is x y) Q E s) e va vb (λh=>wpAny_is_self rfl (h▸q _)) λw h1 h2 h=>wpAny_is_other h1 h2 (h▸q _)
theorem GW{a b:V}{wa wb:Value}{r:Bool}(e:tm a b=some r)(va:VR S.fa as T a wa)(vb:VR S.fa as T b wb)(q:∀ tk,Q (.bool (!r)) { s with toks:=tk }):wpAny (model S.prog S.w) A (compareOp .IsNot wa wb) Q E s:=
 Jh (P:=λx y=>wpAny (model S.prog S.w) A (compareOp .IsNot x y) Q E s) e va vb (λh=>wpAny_isNot_self rfl (by have:=q s.toks;rw[h] at this;exact this)) λw h1 h2 h=>wpAny_isNot_other h1 h2 (by have:=q s.toks;rw[h] at this;exact this)
theorem QD{a b:V}{wa wb:Value}{r:Bool}(hu:A.units+64<cLine)(e:ltV H a b=some r)(hr:HR S as T H s.heap)(va:VR S.fa as T a wa)(vb:VR S.fa as T b wb)(q:∀ tk,Q (.bool r) { s with toks:=tk }):wpAny (model S.prog S.w) A (compareOp .Lt wa wb) Q E s:=by
  induction a using V.casesOn with
 |int i=>exact fg e vb λj vb e=>cZ va λt=>cZ vb λu=>lt_int (bU e▸q _)
 |_=>exact nn e
theorem lb{op:lV}{o:CmpOp}{a b:V}{wa wb:Value}{r:Bool}(hu:A.units+64<cLine)(e:cE H op a b=some r)(c:my op o=true)(hr:HR S as T H s.heap)(va:VR S.fa as T a wa)(vb:VR S.fa as T b wb)(q:∀ tk,Q (.bool r) { s with toks:=tk }) :
   wpAny (model S.prog S.w) A (compareOp o wa wb) Q E s:=by
  obtain rfl:=of_decide_eq_true c
  induction op with
 |eq=>exact Qz hu e hr va vb q
 |ne=>exact QA hu e hr va vb q
 |lt=>exact QD hu e hr va vb q
 |le=>exact ints2 (P:=λx y=>wpAny (model S.prog S.w) A (compareOp .LtE x y) Q E s) va vb e λi j t u e=>by cases e;exact le_int (q _)
 |gt=>exact ints2 (P:=λx y=>wpAny (model S.prog S.w) A (compareOp .Gt x y) Q E s) va vb e λi j t u e=>by cases e;exact gt_int (q _)
 |ge=>exact nn e
 |is=>exact QC e va vb q
 |eE=>exact bB e λr' h1 z=>by subst z;exact GW h1 va vb q
 |isin=>exact QB e hr va vb q
 |i8=>exact bB e λr' h1 z=>by subst z;exact GR h1 hr va vb q
end
end Mine
namespace Mine
section
variable {S:b0}{as aO:As}{T T1:TS}{H H':Hp}{h h' h1:Heap}{s:Shared}{v:V}{w:Value}{Q:Value->Shared->Prop}{A:Around}{E:Value->Shared->Prop}
noncomputable def Sub(s:Shared)(w:Value):Prop:=∃ Ty id,s.TypeIs w Ty/\typeLookup (.type Ty) "__getitem__"=pure (some (.builtin id))
theorem oO{α:Type}{l:List α}{i:Int}{x:α}(e:fK l i=some x):0<=i/\l[i.toNat]?=some x:=by
 unfold fK at e
 split at e
 ·exact⟨by assumption,e⟩
 ·first|exact ff e|exact nn e|exact nn e
theorem sf{x y:List Nat}:(⟨x.toArray⟩:Str)=⟨y.toArray⟩↔x=y:=⟨λq=>by simpa using congrArg (λz=>z.cps.toList) q,λq=>by rw[q]⟩
theorem Ji{es:List (List Nat×V)}{ds:List (Str×Value)}(x:DR S as T es ds)(k:List Nat):match bD k es with
   |some v=>∃ w,valueAt ds ⟨k.toArray⟩=some w/\VR S.fa as T v w
   |none=>valueAt ds ⟨k.toArray⟩=none:=by
  induction x with
 |nil=>rfl
 |@cons k' v w es ds h r ih=>
    by_cases hk:k'=k
    ·subst hk
     have h1:bD k' ((k',v)::es)=some v:=by simp[zU,pA]
     rw[h1]
     exact⟨w,by simp[valueAt],h⟩
    ·have h1:bD k ((k',v)::es)=bD k es:=by simp[zU,pA,hk]
     have h2:valueAt ((⟨k'.toArray⟩,w)::ds) ⟨k.toArray⟩=valueAt ds ⟨k.toArray⟩:=by
      unfold valueAt
      rw[List.find?_cons_of_neg]
      simp only[decide_eq_true_eq]
      exact λq=>hk (sf.mp q)
     rw[h1,h2]
     exact ih
theorem GX{a:Addr}{ws:List Value}{k:Nat}(e:s.heap.get? a=some (lst ws k)):Sub s (.ref a):=⟨_,_,⟨_,e,rfl⟩,PySem.slot_list_getitem.lookup⟩
theorem MF{a i r:V}{wa wi:Value}(e:jg H a i=some r)(hr:HR S as T H s.heap)(va:VR S.fa as T a wa)(vi:VR S.fa as T i wi)(q:∀ u tk,VR S.fa as T r u->Q u { s with toks:=tk }) :
    Sub s wa/\wpAny (model S.prog S.w) A (getItem wa wi) Q E s:=by
  induction a using V.casesOn with
 |tup l=>
    refine fg e vi λi vi e=>cZ vi λt=>?_
    obtain⟨h1,h2⟩:=oO e
    exact⟨ij hr va λa' ws hw ht _ _=>pR ht λn dd sl e1=>hw▸⟨_,_,⟨_,e1,rfl⟩,PySem.F.slot_tuple_getitem.lookup⟩,yB hr va h1 h2 λu vu=>q u s.toks vu⟩
 |str x=>
    refine fg e vi λi vi e=>cZ vi λt=>bB e λc hc hw=>cz va λu hz=>?_
    obtain⟨h1,h2⟩:=oO hc
    have vR:=(eV.mp h2).1
    have Xr:=k6 hz
    refine⟨⟨_,_,rfl,PySem.F.slot_str_getitem.lookup⟩,getItem_str (c:=c) (by simp;omega) ?_ (q _ _ (hw▸.str [c] _ (by simp[lim])))⟩
    have:seqIndex? i (⟨x.toArray⟩:Str).length=some i.toNat:=by
     unfold seqIndex?
     rw[str_len]
     simp only[show ¬ i<0 by omega,if_false]
     rw[if_pos (by simp;omega)]
    rw[this]
    simpa using h2
 |loc n=>
    induction i using V.casesOn with
   |int i=>
     refine bi e λl hl e=>cZ vi λt=>?_
     obtain⟨h1,h2⟩:=oO e
     exact⟨hr.gu hl va λa' ws k hw _ e1 _ _=>hw▸GX e1,vS hr va hl h1 h2 λu vu=>q u s.toks vu⟩
   |str k=>
     refine mr e λes hl e=>cz vi λt hz=>hr.qS hl va λa' ds hw hp e1 sC hv=>hw▸?_
     have:=Ji hv k
     rw[e] at this
     obtain⟨u,hu,vu⟩:=this
     refine⟨?_,wpAny_getItem_of (knd:=strKind S.prog S.w) (k:=⟨k.toArray⟩) (strKind_is _ _ _ _) e1.mapOf hu (q _ _ vu)⟩
     obtain⟨o,GY,ep,g,x,_⟩:=e1
     exact⟨_,_,⟨_,g,x.1⟩,PySem.F.slot_dict_getitem.lookup⟩
   |_=>exact nn e
 |_=>exact nn e
theorem MG{es:List (List Nat×V)}{ds:List (Str×Value)}{u:V}{w:Value}(x:DR S as T es ds)(vr:VR S.fa as T u w)(k:List Nat)(hn:(ds.map (·.1)).Nodup):DR S as T (eY k u es) (stored ds ⟨k.toArray⟩ w):=by
  induction x with
 |nil=>exact .cons vr .nil
 |@cons k' v' w' es ds h r ih=>
   obtain⟨n1,n2⟩:=iw.mp hn
   by_cases hk:k'=k
   ·subst hk
    have h1:eY k' u ((k',v')::es)=(k',u)::es:=by simp[Ea,sP]
    have h2:stored ((⟨k'.toArray⟩,w')::ds) ⟨k'.toArray⟩ w=(⟨k'.toArray⟩,w)::ds:=by
     unfold stored
     rw[if_pos (by simp),fR,if_pos rfl]
     congr 1
     rw[List.map_congr_left (g:=id),List.map_id]
     intro z hz
     rw[if_neg];rfl
     intro q
     exact n1 (q▸mf.mpr ⟨z,hz,rfl⟩)
    rw[h1,h2]
    exact .cons vr r
   ·have bn:(⟨k'.toArray⟩:Str)≠⟨k.toArray⟩:=λq=>hk (sf.mp q)
    have h1:eY k u ((k',v')::es)=(k',v')::eY k u es:=by simp[Ea,sP,hk]
    have h2:stored ((⟨k'.toArray⟩,w')::ds) ⟨k.toArray⟩ w=(⟨k'.toArray⟩,w')::stored ds ⟨k.toArray⟩ w:=by
     unfold stored
     rw[List.any_cons,decide_eq_false bn,Bool.false_or,fR,if_neg bn,td]
     split <;> rfl
    rw[h1,h2]
    exact .cons h (ih n2)
theorem AE{α:Type}(k:List Nat)(u:α):∀ es:List (List Nat×α),(eY k u es).length<=es.length+1
 |[]=>aC _
 |(j,v)::r=>by
  rw[sP]
  split
  ·simp
  ·have:=AE k u r;simp;exact nt (am [_,_] (.d ab (.s ac) (.d (.s (.s ac)) ab .z)) rfl this)
theorem MH{es:List (List Nat×V)}{ds:List (Str×Value)}(x:DR S as T es ds):ds.length=es.length:=by
  induction x with
 |nil=>rfl
 |cons _ _ ih=>rw[cw,cw,ih]
theorem Jj{o i x:V}{wo wi wx:Value}{Q:Unit->Shared->Prop}(e:tq H o i x=some H')(hr:HR S as T H s.heap)(vo:VR S.fa as T o wo)(vi:VR S.fa as T i wi)(vx:VR S.fa as T x wx)(q:wW S as T s H' Q) :
   wpAny (model S.prog S.w) A (setItem wo wi wx) Q E s:=by
  refine gI e vo λn vo e=>?_
  induction i using V.casesOn with
 |int i=>
   refine bi e λl hl e=>cZ vi λt=>?_
   obtain⟨hc,e⟩:=cU e
   exact qT hr vo vx hl hc.1 hc.2 (e▸q)
 |str k=>
   refine mr e λes hl e=>cz vi λt hz=>hr.qS hl vo λa ds hw hp e1 hz hv=>hw▸?_
   obtain⟨hc,e⟩:=cU e
   have ao:a∈owned as:=(jj hp).1
   refine wpAny_setItem_pairs (knd:=strKind S.prog S.w) (k:=⟨k.toArray⟩) (strKind_is _ _ _ _) e1 (λh' e2 sb=>?_) (by rw[MH hv];exact bj hz (by decide))
   have kp:∀ b o,b≠a->s.heap.get? b=some o->h'.get? b=some o:=λb o nb e=>(sb.2 b nb).trans e
   have MJ:(ds.map (·.1)).Nodup:=by obtain⟨_,_,_,_,_,_,_,_,z⟩:=e1;exact z
   exact q h' _ as T (.upd ao kp) (e▸hr.upd hp (eV.mp hl).1 (.head _) kp (.dict e2 (bj (AE k x es) hc) (MG hv vx k MJ)) (hr.wY e1))
 |_=>exact nn e
noncomputable def KV(S:b0):IK->Value->Prop
 |.int,w=>w=.type "int"
 |.str,w=>w=.type "str"
 |.tuple,w=>w=.type "tuple"
 |.cls k,w=>∃ C:Nat,S.ca[k]?=some C/\w=.ref C
theorem yE(C:Cx S){t c:String}(ht:t∈uc)(hc:c∈["int","str","tuple"]):kitOne S.K (.type t) (.type c)=some (t==c || (t=="bool"&&c=="int")):=by
 have:=C.S4
 unfold sT at this
 simp only[dw] at this
 exact beq_iff_eq.mp (gq.mp (gq.mp this.1 t ht) c hc)
theorem kit_cls(C:Cx S){D k:Nat}(hD:S.ca[k]?=some D):kitOne S.K (.type "int") (.ref D)=some false/\kitOne S.K (.type "str") (.ref D)=some false:=by
 have:=C.S4
 unfold sT at this
 simp only[dw] at this
 have:=gq.mp this.2 D (pk hD)
 simp only[dw] at this
 exact⟨beq_iff_eq.mp this.1,beq_iff_eq.mp this.2⟩
noncomputable def AF:Nat->String
 |0=>"int"
 |1=>"bool"
 |2=>"NoneType"
 |3=>"str"
 |_=>"tuple"
theorem ug(C:Cx S){k:IK}{wk:Value}{n:Nat}{b:Bool}(hn:n<5)(hk:KV S k wk)(e:IN n k=some b):kitOne S.K (.type (AF n)) wk=some b:=by
  have hm:∀ n<5,AF n∈uc:=by decide
  induction k with
 |int=>
    rw[show wk=.type "int" from hk,← e]
    exact(yE C (hm n hn) (by decide)).trans ((by decide:∀ n<5,some (AF n=="int" || (AF n=="bool"&&"int"=="int"))=IN n .int) n hn)
 |str=>
    rw[show wk=.type "str" from hk,← e]
    exact(yE C (hm n hn) (by decide)).trans ((by decide:∀ n<5,some (AF n=="str" || (AF n=="bool"&&"str"=="int"))=IN n .str) n hn)
 |tuple=>
    rw[show wk=.type "tuple" from hk,← e]
    exact(yE C (hm n hn) (by decide)).trans ((by decide:∀ n<5,some (AF n=="tuple" || (AF n=="bool"&&"tuple"=="int"))=IN n .tuple) n hn)
 |cls k=>
    obtain⟨D,hD,rfl⟩:=hk
    match n,e with
   |0,e=>exact(kit_cls C hD).1.trans e
   |3,e=>exact(kit_cls C hD).2.trans e
   |1,e=>exact nn e
   |2,e=>exact nn e
   |n+4,e=>exact nn e
theorem MK{x:V}{k:IK}{b:Bool}{wx wk:Value}(C:Cx S)(e:IP x k=some b)(hr:HR S as T H s.heap)(vx:VR S.fa as T x wx)(hk:KV S k wk)(q:∀ tk,Q (.bool b) { s with toks:=tk }) :
   wpAny (model S.prog S.w) A (call (.builtin "isinstance") [wx,wk]) Q E s:=by
  have X:=C.X.keeps hr.base
  induction x using V.casesOn with
 |none=>exact sU vx (kia_one kitx_none X trivial (ug C (by decide) hk e) (by intro q;cases q) q)
 |bool=>exact yC vx (kia_one kitx_bool X trivial (ug C (by decide) hk e) (by intro q;cases q) q)
 |int=>exact cZ vx λt=>kia_one kitx_int X trivial (ug C (by decide) hk e) (by intro q;cases q) q
 |str=>exact cz vx λt _=>kia_one kitx_str X trivial (ug C (by decide) hk e) (by intro q;cases q) q
 |tup=>exact ij hr vx λa ws hw ht _ _=>pR ht λn dd sl e1=>hw▸kia_one kitx_tuple X ⟨_,e1,rfl⟩ (ug C (by decide) hk e) (by intro q;cases q) q
 |_=>exact nn e
end
end Mine
namespace Mine
section
variable {S:b0}{as aO:As}{T T1:TS}{H H':Hp}{h h' h1:Heap}{s:Shared}{v:V}{w:Value}{Q:Value->Shared->Prop}{A:Around}{E:Value->Shared->Prop}
theorem EG{fa:List Nat}{a:V}{ws:List Value}(x:bq fa as T [a] ws){zg:Prop}(zk:∀ w,(ws=[w])->(VR fa as T a w)->zg):zg:=by
  cases x with
 |cons h r=>cases r;exact zk _ rfl h
theorem Th{fa:List Nat}{a:V}{ws:List Value}(x:bq fa as T [a] ws):∃ w,ws=[w]/\VR fa as T a w:=EG x λw cO cY=>⟨w,cO,cY⟩
theorem EH{fa:List Nat}{a b:V}{ws:List Value}(x:bq fa as T [a,b] ws){zg:Prop}(zk:∀ w u,(ws=[w,u])->(VR fa as T a w)->(VR fa as T b u)->zg):zg:=by
  cases x with
 |cons h r=>obtain⟨u,rfl,k⟩:=Th r;exact zk _ _ rfl h k
section
variable {fa:List Nat}{β:Type}{r:β}{P:List Value->Prop}{vs:List V}{ws:List Value}
@[elab_as_elim] theorem yF{f:Option β}(vv:bq fa as T vs ws)(e:Ga vs f=some r)(k:f=some r->P []):P ws:=by
 obtain⟨rfl,e⟩:=wA e;cases vv;exact k e
@[elab_as_elim] theorem ga{f:V->Option β}(vv:bq fa as T vs ws)(e:nL vs f=some r)(k:∀ a w,VR fa as T a w->f a=some r->P [w]):P ws:=by
 refine rX e λa hx e2=>?_;subst hx;exact EG vv λw h v=>h▸k a w v e2
@[elab_as_elim] theorem ML{f:V->V->Option β}(vv:bq fa as T vs ws)(e:Qi vs f=some r)(k:∀ a b w u,VR fa as T a w->VR fa as T b u->f a b=some r->P [w,u]):P ws:=by
 refine zY e λa b hx e2=>?_;subst hx;exact EH vv λw u h v v2=>h▸k a b w u v v2 e2
end
theorem uh{a b:Int}:Builtin.Range.rangeSize a b 1=(eZ a b 1:Nat):=by
 unfold Builtin.Range.rangeSize
 rw[if_pos (by decide),Int.ediv_one,Int.sub_add_cancel]
 show _=((b-a).toNat:Int)
 by_cases h:a<b
 ·rw[if_pos h,Int.toNat_of_nonneg (Int.sub_nonneg_of_le (Int.le_of_lt h))]
 ·rw[if_neg h,Int.toNat_of_nonpos (Int.sub_nonpos_of_le (Int.not_lt.mp h))];rfl
theorem CY{a b:Int}(ha:a.natAbs<1048576)(hb:b.natAbs<1048576):eZ a b 1<8388608:=
 ix (bj (Int.toNat_le.mpr Int.le_natAbs) (Int.natAbs_sub_le b a)) (mh (Nat.add_lt_add hb ha) (by decide))
theorem ui{a b:Int}(ha:a.natAbs<1048576)(hb:b.natAbs<1048576):Builtin.Range.small a b 1=true:=by
 have f:∀ x:Int,x.natAbs<8388608->Builtin.Range.rangeFitsLong x=true:=λx h=>by
  unfold Builtin.Range.rangeFitsLong
  simp only[dw,decide_eq_true_eq]
  omega
 have fb:=f b (mh hb (by decide))
 unfold Builtin.Range.small
 simp only[dw,Bool.or_eq_true]
 refine⟨⟨⟨⟨f a (mh ha (by decide)),fb⟩,f 1 (by decide)⟩,by rw[uh];exact f _ (CY ha hb)⟩,.inr ?_⟩
 rw[if_pos (by decide)]
 show Builtin.Range.rangeFitsLong (b+0)=true
 rw[Int.add_zero];exact fb
theorem GZ{acc:List Value}:∀{a:Int},(∀ j v,acc[j]?=some v->∃ t,v=Value.int (a+(j:Nat)*1) t)->bq S.fa as T ((rZ a 1 acc.length).map .int) acc:=by
  induction acc with
 |nil=>intro a _;exact .nil
 |cons v r ih=>
   intro a hv
   obtain⟨t,h⟩:=hv 0 v rfl
   refine .cons (by rw[h,show a+((0:Nat):Int)*1=a from Int.add_zero a];exact .int a t) (ih λj u hu=>?_)
   obtain⟨t,ht⟩:=hv (j+1) u hu
   exact⟨t,by rw[ht,Int.natCast_succ,Int.mul_one,Int.mul_one,Int.add_comm (j:Int),← Int.add_assoc]⟩
theorem w8(a c:Int):∀ n,(rZ a c n).length=n
 |0=>rfl
 |n+1=>by rw[Eg,cw,w8]
theorem EI{a b c:Int}(hr:HR S as T H h)(x:VR S.fa as T (.cm a b c) w){zg:Prop}(zk:∀ p t u v,(w=.ref p)->(IsRange h p a b c t u v)->zg):zg:=by
  cases x with
 |cm t=>obtain⟨t1,u,v,e⟩:=hr.im _ _ t;exact zk _ _ _ _ rfl e
theorem AG{a b c:Int}{t u x:Tok}(hr:HR S as T H s.heap)(q:cJ S as T s H (.cm a b c) Q)(tk:Tok) :
  Q (.ref s.heap.objs.size) { s with heap:=s.heap.push { cls:=.type "range",data:=.fields #[.int a t,.int b u,.int c x] },toks:=tk }:=by
 obtain⟨e,r⟩:=Ez (a:=s.heap.objs.size) (i:=.cm a b c) hr (bT { cls:=.type "range",data:=.fields #[.int a t,.int b u,.int c x] }) ⟨t,u,x,Heap.get?_push_size _ rfl⟩ (λ_ q=>by cases q)
 exact q _ _ _ _ _ e r (.cm (.inr ⟨rfl,rfl⟩))
@[elab_as_elim] theorem Ti{P:Value->Prop}{l:List V}(x:VR S.fa as T (.ro l) w)(zk:∀ a ws,T a (.ro ws)->l.length<=lim->bq S.fa as T l ws->P (.ref a)):P w:=by
  cases x with
 |ro t hz hv=>exact zk _ _ t hz hv
theorem CZ{n:Nat}{l:List V}(hr:HR S as T H h)(hl:H[n]?=some (.list l))(x:VR S.fa as T (.loc n) w){zg:Prop}(zk:∀ a ws,(w=.ref a)->(h.IsList a ws.toArray)->(l.length<=lim)->(bq S.fa as T l ws)->zg):zg:=
 hr.gu hl x λa ws k e _ e1 hz hv=>zk a ws e ⟨_,e1,rfl,k,rfl⟩ hz hv
@[elab_as_elim] theorem eI{P:Value->Prop}{n:Nat}{l:List V}(hr:HR S as T H h)(hl:H[n]?=some (.list l))(x:VR S.fa as T (.loc n) w)(zk:∀ a ws,h.IsList a ws.toArray->l.length<=lim->bq S.fa as T l ws->P (.ref a)):P w:=CZ hr hl x λa ws e hL hz hv=>e▸zk a ws hL hz hv
theorem MM{a:V}{n:Nat}{w0:Value}(e:Eh a H=some n)(hr:HR S as T H s.heap)(v0:VR S.fa as T a w0)(q:cJ S as T s H (.int n) Q):wpAny (model S.prog S.w) A (call (.builtin "len") [w0]) Q E s:=by
  induction a using V.casesOn with
 |str x=>exact cz v0 λt hz=>PyProof.Rows.len_str (by rw[str_len];have:=k6 hz;omega) (by rw[str_len];exact(bU e▸q:cJ S as T s H (.int (x.length:Nat)) Q).tok hr (.int _ _) _)
 |tup l=>exact ij hr v0 λa ws hw ht hz hv=>hw▸len_tuple ht (by rw[gp,hv.length];exact k6 hz) (by rw[gp,hv.length,bU e];exact q.tok hr (.int _ _) _)
 |loc n=>exact bi e λl hl e=>eI hr hl v0 λa ws ht hz hv=>len_list ht (by rw[gp,hv.length];exact k6 hz) (by rw[gp,hv.length,bU e];exact q.tok hr (.int _ _) _)
 |_=>exact nn e
theorem MN{a:V}{n:Int}{w0:Value}(e:OQ a=some n)(hr:HR S as T H s.heap)(v0:VR S.fa as T a w0)(q:cJ S as T s H (.int n) Q):wpAny (model S.prog S.w) A (call (.type "int") [w0]) Q E s:=by
  induction a using V.casesOn with
 |int i=>exact cZ v0 λt=>call_int_int (q.now hr (bU e▸.int _ _))
 |bool b=>exact yC v0 (call_int_bool (q.tok hr (bU e▸.int _ _) _))
 |_=>exact nn e
theorem Jk{a:V}{l:List V}{w0:Value}(hh:A.handled=none)(e:qJ a H=some l)(hr:HR S as T H s.heap)(v0:VR S.fa as T a w0)(q:cJ S as T s (H++[.list l]) (.loc H.length) Q):wpAny (model S.prog S.w) A (call (.type "list") [w0]) Q E s:=by
  induction a using V.casesOn with
 |tup l=>cases e;exact AB hr v0 q
 |cm a b c=>
   obtain⟨⟨h1,h2,h3,hc⟩,e⟩:=cU e
   refine EI hr (hc▸v0:VR S.fa as T (.cm a b 1) w0) λp t u x hw hR=>hw▸?_
   refine PySem.call_list_range hh hR (ui h2 h3) uh (bj h1 (by decide)) λh' tk Tj c' kp hD hit=>?_
   have hv:=GZ (S:=S) (as:=as) (T:=T) (a:=a) (acc:=Tj.toList) (λj v hj=>hit.2 j v (by simpa using hj))
   rw[zK,hit.1,show eZ a b 1=eZ a b c from rfl,← hc,e] at hv
   exact mF hr kp (by rw[hD];simp[lst];rfl) hv (by rw[← e,cT,w8];exact bj h1 (by decide)) q tk
 |_=>exact nn e
theorem G0{vs:List V}{v:V}{ws:List Value}(e:Ei vs=some v)(hr:HR S as T H s.heap)(vv:bq S.fa as T vs ws)(q:cJ S as T s H v Q):wpAny (model S.prog S.w) A (call (.type "range") ws) Q E s:=by
  match vs,e with
 |[],e=>exact nn e
 |[x],e=>exact jL vv λw us v0 vv=>oi vv (fg e v0 λa v0 e=>je e λ_ e=>cZ v0 λt=>PySem.call_range_1 (AG hr (e▸q) _))
 |x::y::r,e=>exact jL vv λw us v0 vv=>jL vv λw2 us v1 vv=>fg e v0 λa v0 e=>fg e v1 λb v1 e=>yF vv e λe=>je e λ_ e=>cZ v0 λt=>cZ v1 λu=>PySem.call_range_2 (AG hr (e▸q) _)
theorem G1{l:List V}:∀{xs:List Int}{ws:List Value},intsOf l=some xs->bq S.fa as T l ws->IntsAre ws xs:=by
  induction l using List.rec with
 |nil=>intro xs ws e vv;cases e;cases vv;exact .nil
 |cons a r ih=>
    intro xs ws e vv
    refine jL vv λw us v0 VN=>?_
    induction a using V.casesOn with
   |int i=>
      have e:(match intsOf r with|some l=>some (i::l)|none=>none)=some xs:=e
      generalize h:intsOf r=o at e
      induction o with
     |none=>exact nn e
     |some ys=>cases e;exact cZ v0 λt=>.cons _ _ (ih h VN)
   |_=>exact nn e
theorem Jl(r:List Int):∀ m:Int,jF m r<=m/\(∀ x∈r,jF m r<=x)/\(jF m r=m\/jF m r∈r):=by
  induction r with
 |nil=>exact λm=>⟨Int.le_refl _,λx h=>(n7 h).elim,.inl rfl⟩
 |cons a r ih=>
   intro m
   show jF (if a<m then a else m) r<=m/\(∀ x∈a::r,jF (if a<m then a else m) r<=x)/\(jF (if a<m then a else m) r=m\/jF (if a<m then a else m) r∈a::r)
   obtain⟨h1,h2,h3⟩:=ih (if a<m then a else m)
   have h4:(if a<m then a else m)<=m/\(if a<m then a else m)<=a/\((if a<m then a else m)=m\/(if a<m then a else m)=a):=by
    by_cases h:a<m
    ·rw[if_pos h];exact⟨Int.le_of_lt h,Int.le_refl _,.inr rfl⟩
    ·rw[if_neg h];exact⟨Int.le_refl _,Int.not_lt.mp h,.inl rfl⟩
   refine⟨Int.le_trans h1 h4.1,λx hx=>?_,?_⟩
   ·rcases fm.mp hx with h|h
    ·rw[h];exact Int.le_trans h1 h4.2.1
    ·exact h2 x h
   ·rcases h3 with h|h
    ·rcases h4.2.2 with g|g
     ·exact .inl (h.trans g)
     ·exact .inr (fm.mpr (.inl (h.trans g)))
    ·exact .inr (xS _ h)
theorem MO{n:Nat}{v:V}{w0:Value}(hh:A.handled=none)(e:Ej H n=some v)(hr:HR S as T H s.heap)(v0:VR S.fa as T (.loc n) w0)(q:cJ S as T s H v Q):wpAny (model S.prog S.w) A (call (.builtin "min") [w0]) Q E s:=by
  refine bi e λl hl e=>?_
  have e:(match intsOf l with|some (a::r)=>some (V.int (jF a r))|_=>none)=some v:=e
  generalize hi:intsOf l=o at e
  match o,e with
 |none,e=>exact nn e
 |some [],e=>exact nn e
 |some (a::r),e=>
   cases e
   refine eI hr hl v0 λad ws hL hz hv=>?_
   have ia:=G1 hi hv
   obtain⟨xs,ex⟩:=ia.allInts.items
   have Jm:a::r=xs.toList.map (·.1):=by rw[← ia.numsOf,← nums_intItems,← ex]
   have hsz:0<xs.size:=by
    have h3:xs.size=(a::r).length:=by rw[Jm,cT,zK]
    rw[h3];exact jz _
   rw[ex] at hL
   refine min_intList hh hL hsz λv h' tk hv hk=>?_
   obtain⟨t,rfl⟩:=intItems_at hv
   obtain⟨h1,h2⟩:=argBest_lt (numAt xs) (xs.size-1)
   have hm:numAt xs (argBest (λi j=>decide (numAt xs i<numAt xs j)) (xs.size-1))=jF a r:=by
    obtain⟨m1,m2,m3⟩:=Jl r a
    have mem:numAt xs (argBest (λi j=>decide (numAt xs i<numAt xs j)) (xs.size-1))∈a::r:=by
     rw[Jm,numAt_eq];exact getD_mem (by rw[cT,zK];exact ix h1 (Nat.sub_lt hsz Nat.one_pos))
    have OZ:jF a r∈a::r:=by
     rcases m3 with h|h
     ·rw[h];exact wh
     ·exact xS _ h
    refine Int.le_antisymm ?_ ?_
    ·rw[Jm] at OZ
     obtain⟨j,hj,ej⟩:=mem_getD OZ
     rw[cT,zK] at hj
     rw[← numAt_eq] at ej
     exact ej▸h2 j (Nat.le_sub_one_of_lt hj)
    ·rcases fm.mp mem with h|h
     ·exact h▸m1
     ·exact m2 _ h
   rw[hm]
   exact q _ h' tk _ _ (.keep hk) (hr.keep hk) (.int _ t)
theorem Jn{p:Pr}{r:V}{vs:List V}{ws:List Value}(hh:A.handled=none)(e:gE p vs H=some (r,H'))(hr:HR S as T H s.heap)(vv:bq S.fa as T vs ws)(q:cJ S as T s H' r Q) :
   wpAny (model S.prog S.w) A (call (ub p) ws) Q E s:=by
  induction p with
 |len=>exact ga vv e λa w0 v0 e=>bB e λn e1 h=>MM e1 hr v0 (q.of h)
 |abs=>
   refine ga vv e λa w0 v0 e=>fg e v0 λi v0 e=>cZ v0 λt=>PyProof.Rows.call_abs_int λu tk=>?_
   have:(if i<0 then -i else i)=(i.natAbs:Int):=by split <;> omega
   rw[this]
   exact(q.nN e).tok hr (.int _ _) _
 |int=>exact ga vv e λa w0 v0 e=>bB e λn e1 h=>MN e1 hr v0 (q.of h)
 |chr=>
   refine ga vv e λa w0 v0 e=>fg e v0 λi v0 e=>cZ v0 λt=>?_
   obtain⟨hc,e⟩:=cU e
   exact P.chr_of_int (by simp;omega) ((q.of e).tok hr (.str [i.toNat] _ (by simp[lim])) _)
 |ord=>exact nn e
 |list=>exact ga vv e λa w0 v0 e=>bB e λl e1 h=>Jk hh e1 hr v0 (q.of h)
 |range=>exact bB e λv e1 h=>G0 e1 hr vv (q.of h)
 |min=>exact ga vv e λa w0 v0 e=>gI e v0 λn v0 e=>bB e λv e1 h=>MO hh e1 hr v0 (q.of h)
 |str=>exact nn e
end
end Mine
namespace Mine
section
variable {S:b0}{as aO:As}{T T1:TS}{H H':Hp}{h h' h1:Heap}{s:Shared}{v:V}{w:Value}{Q:Value->Shared->Prop}{A:Around}{E:Value->Shared->Prop}
noncomputable def AH:BM->String
 |.append=>"list"|.pop=>"list"|.extend=>"list"|.reverse=>"list"|.join=>"str"|.replace=>"str"|.startswith=>"str"|.lstrip=>"str"|.split=>"str"|.get=>"dict"
noncomputable def AI:BM->String
 |.append=>"list.append"|.pop=>"list.pop"|.extend=>"list.extend"|.reverse=>"list.reverse"|.join=>"str.join"|.replace=>"str.replace"|.startswith=>"str.startswith"|.lstrip=>"str.lstrip"|.split=>"str.split"|.get=>"dict.get"
theorem uj:∀{ws:List Value}{ss:List (List Nat)},StrsAre ws (ss.map λx=>(⟨x.toArray⟩:Str))->∃ l:List (Str×Tok),ws=strValues l/\l.map (·.1)=ss.map λx=>(⟨x.toArray⟩:Str)
 |_,[],h=>by cases h;exact⟨[],rfl,rfl⟩
 |_,y::r,h=>by
   cases h with
  |cons _ t h'=>
    obtain⟨l,h1,h2⟩:=uj h'
    exact⟨(_,t)::l,by rw[h1];rfl,by rw[fR,h2,fR]⟩
theorem G3(ss:List (List Nat)):Txt.join (⟨#[]⟩:Str) (ss.map λx=>(⟨x.toArray⟩:Str))=⟨(jG ss).toArray⟩:=by
  have gen:∀(r:List (List Nat))(acc:List Nat),(List.foldl (λacc (p:Str)=>acc++(#[]:Array Nat)++p.cps) acc.toArray (r.map λx=>(⟨x.toArray⟩:Str)))=(acc++jG r).toArray:=by
    intro r
    induction r with
   |nil=>intro acc;simp[Mi,sQ]
   |cons x r ih=>
     intro acc
     rw[fR,wp]
     have:acc.toArray++(#[]:Array Nat)++x.toArray=(acc++x).toArray:=by simp
     rw[this,ih,sQ,bZ]
  induction ss with
 |nil=>rfl
 |cons x r=>
    show(⟨List.foldl (λacc (p:Str)=>acc++(#[]:Array Nat)++p.cps) x.toArray (r.map λx=>(⟨x.toArray⟩:Str))⟩:Str)=_
    rw[gen];rfl
theorem AJ:∀(ss:List (List Nat))(n:Nat),List.foldl (λx1 (x2:Str)=>x1+x2.length+(⟨#[]⟩:Str).length) n (ss.map λx=>(⟨x.toArray⟩:Str))=n+(jG ss).length
 |[],n=>rfl
 |x::r,n=>by
  rw[fR,wp,AJ r,sQ,aH,str_len]
  show n+x.length+0+_=_
  exact kS [_,_,_] (.a (.a (.a ab ac) (.n 0)) ar) (.a ab (.a ac ar)) rfl
theorem C0:∀(t s:List Nat),Txt.startswith ⟨s.toArray⟩ ⟨t.toArray⟩=gz t s:=by
  have gen:∀(t s:List Nat),(s.take t.length==t)=gz t s:=by
    intro t
    induction t with
   |nil=>intro s;simp[Gc,Gd,qH]
   |cons a r ih=>
      intro s
      induction s with
     |nil=>rfl
     |cons b u=>
        rw[qH,← ih u,cw,List.take_succ_cons]
        show(b==a&&List.take r.length u==r)=_
        congr 1
        rw[Bool.eq_iff_iff,beq_iff_eq,beq_iff_eq]
        exact eq_comm
  intro t s
  unfold Txt.startswith
  rw[StrLaws.subAt_eq,← gen t s,str_len,str_len]
  show(decide (0+t.length<=s.length)&&(List.take t.length s==t))=_
  rw[fG]
  by_cases hle:t.length<=s.length
  · simp[hle]
  · have:¬ s.take t.length=t:=λq=>by
      have:=congrArg List.length q
      simp at this;omega
    simp[hle,this]
theorem Jo{n:Nat}{v:V}{wo w0:Value}(e:yb H n=some v)(hr:HR S as T H s.heap)(vo:VR S.fa as T (.str []) wo)(v0:VR S.fa as T (.loc n) w0)(q:cJ S as T s H v Q) :
  wpAny (model S.prog S.w) A (call (.builtin "str.join") [wo,w0]) Q E s:=by
 refine bi e λl hl e1=>?_
 refine lN e1 λss hs e2=>?_
 obtain⟨hlen,he⟩:=cU e2
 cases he
 refine cz vo λt hz=>?_
 refine eI hr hl v0 λa us hL sC hv=>?_
 obtain⟨lt,h1,h2⟩:=uj (CV hs hv)
 subst h1
 refine SC.join (texts:=ss.map λx=>(⟨x.toArray⟩:Str)) hL h2 ?_ λt' k=>?_
 ·unfold JoinOk
  rw[← Array.foldl_toList,List.toList_toArray,AJ]
  unfold Builtin.Str.tooLong
  simp only[Bool.not_eq_true',decide_eq_false_iff_not]
  have:=dJ hlen
  show ¬ 0+(jG ss).length > sizeLine
  omega
 ·rw[G3]
  exact q.tok hr (.str _ _ hlen) _
theorem Jp{n:Nat}{k:List Nat}{es:List (List Nat×V)}{dv:V}{wo w0 w2:Value}(hl:H[n]?=some (.dict es))(hr:HR S as T H s.heap)(vo:VR S.fa as T (.loc n) wo)(v0:VR S.fa as T (.str k) w0)(v2:VR S.fa as T dv w2)(q:cJ S as T s H ((bD k es).getD dv) Q) :
   wpAny (model S.prog S.w) A (call (.builtin "dict.get") [wo,w0,w2]) Q E s:=by
  refine cz v0 λt hz=>?_
  refine hr.EA hl vo λa ds hp e1 sC hv=>?_
  have hd:(a==sysModules)=false:=by
   rw[beq_eq_false_iff_ne]
   have:=hr.big a (jj hp).1
   exact df this
  have hm:=e1.mapOf
  refine call_meetsIn PySem.F.slot_dict_get hm.typeIs PySem.F.entry_dict_get (PySem.F.args_dict_get_3 _ _ _) (meets_dict_get_default (strKind S.prog S.w) (k:=⟨k.toArray⟩) a (strKind_is _ _ _ _) hd w2) ⟨_,hm,?_⟩
  have:=Ji hv k
  cases hk:bD k es with
 |some v=>
   rw[hk] at this q
   obtain⟨u,hu,vu⟩:=this
   rw[hu]
   exact q.tok hr vu _
 |none=>
   rw[hk] at this q
   rw[this]
   exact q.tok hr v2 _
theorem AK{α:Type}{l:List V}{f:V->α}{r:α}(e:(match l.getLast? with|some v=>some (f v)|none=>none)=some r){zg:Prop}(zk:∀ v,l.getLast?=some v->f v=r->zg):zg:=by
  generalize l.getLast?=o at e zk
  induction o with
 |none=>exact nn e
 |some v=>exact zk v rfl (bU e)
theorem yG{α:Type}{x:List Nat}{f:Option α}{r:α}(e:(match x with|[]=>f|_::_=>none)=some r){zg:Prop}(zk:x=[]->f=some r->zg):zg:=by
  induction x using List.casesOn with
 |nil=>exact zk rfl e
 |cons=>exact nn e
theorem j3{s cs:List Nat}(h:b9 s=true/\cs∈gY):Txt.lstripChars ⟨s.toArray⟩ ⟨cs.toArray⟩=(⟨(ez cs s).toArray⟩:Str)/\(ez cs s).length<=3/\s.length<=3:=by
 have k:∀ s∈gF 3,∀ cs∈gY,Txt.lstripChars ⟨s.toArray⟩ ⟨cs.toArray⟩=(⟨(ez cs s).toArray⟩:Str)/\(ez cs s).length<=3/\s.length<=3:=by decide +kernel
 exact k _ (gf h.1) _ h.2
theorem yH{s:List Nat}{c:Nat}(h:b9 s=true/\c∈d7):Txt.split ⟨s.toArray⟩ ⟨[c].toArray⟩=(d8 c s).map (λx=>(⟨x.toArray⟩:Str))/\(d8 c s).length<=4/\(d8 c s).all (λx=>decide (x.length<=3))=true/\s.length<=3 /\
  (Builtin.Str.partsBetween ⟨s.toArray⟩ (Builtin.Str.occurrences ⟨s.toArray⟩ ⟨[c].toArray⟩ 0 (⟨s.toArray⟩:Str).length ((⟨s.toArray⟩:Str).length+1)) (⟨[c].toArray⟩:Str).length).length<=4:=by
 have k:∀ s∈gF 3,∀ c∈d7,Txt.split ⟨s.toArray⟩ ⟨[c].toArray⟩=(d8 c s).map (λx=>(⟨x.toArray⟩:Str))/\(d8 c s).length<=4/\(d8 c s).all (λx=>decide (x.length<=3))=true/\s.length<=3 /\
  (Builtin.Str.partsBetween ⟨s.toArray⟩ (Builtin.Str.occurrences ⟨s.toArray⟩ ⟨[c].toArray⟩ 0 (⟨s.toArray⟩:Str).length ((⟨s.toArray⟩:Str).length+1)) (⟨[c].toArray⟩:Str).length).length<=4:=by decide +kernel
 exact k _ (gf h.1) _ h.2
theorem w9:∀{xs:List (List Nat)}{l:List (Str×Tok)},l.map (·.1)=xs.map (λx=>(⟨x.toArray⟩:Str))->xs.all (λx=>decide (x.length<=3))=true->bq S.fa as T (xs.map .str) (strValues l)
 |[],[],_,_=>.nil
 |[],_::_,h,_=>by cases h
 |_::_,[],h,_=>by cases h
 |x::xs,(y,t)::l,h,a=>by
  rw[fR,fR] at h
  have h1:=(List.cons.inj h).1
  rw[List.all_cons,dw] at a
  have h1:y=⟨x.toArray⟩:=h1
  subst h1
  exact .cons (.str x t (bj (of_decide_eq_true a.1) (by decide))) (w9 (List.cons.inj h).2 a.2)
theorem G4{x:List Nat}{c:Nat}{wo w0:Value}(h:b9 x=true/\c∈d7)(hr:HR S as T H s.heap)(vo:VR S.fa as T (.str x) wo)(v0:VR S.fa as T (.str [c]) w0)(q:cJ S as T s (H++[.list ((d8 c x).map .str)]) (.loc H.length) Q) :
  wpAny (model S.prog S.w) A (call (.builtin "str.split") [wo,w0]) Q E s:=by
 obtain⟨f1,f2,f3,f4,f5⟩:=yH h
 refine cz vo λt hz=>cz v0 λu sC=>?_
 have go:∀(l:List (Str×Tok))(tk:Tok),l.map (·.1)=Txt.split ⟨x.toArray⟩ ⟨[c].toArray⟩->Q (.ref s.heap.objs.size) { s with heap:=s.heap.push { cls:=.type "list",data:=.seq (strValues l).toArray },toks:=tk }:=λl tk e=>
  mF hr (bT _) (Heap.get?_push_size _ rfl) (w9 (e.trans f1) f3) (by rw[cT];exact bj f2 (by decide)) q tk
 unfold Txt.split at go
 cases h1:(decide ((⟨x.toArray⟩:Str).length<(⟨[c].toArray⟩:Str).length) || decide (Builtin.Str.strKind ⟨x.toArray⟩<Builtin.Str.strKind ⟨[c].toArray⟩))
 ·rw[h1,if_neg wq] at go
  cases hf:(Builtin.Str.occurrences (⟨x.toArray⟩:Str) ⟨[c].toArray⟩ 0 (⟨x.toArray⟩:Str).length ((⟨x.toArray⟩:Str).length+1)).isEmpty
  ·rw[hf,if_neg wq] at go
   refine call_meets xV (typeIs_str _ _ _) PySem.F.entry_str_split (PySem.F.args_str_split_2 _ _) (meets_str_split_sep _ _ t u h1 rfl hf (by rw[str_len];exact bj f4 (by decide)) (bj f5 (by decide))) ?_
   rw[strsFrom_eq]
   exact go (numbered s.toks _) _ (numbered_texts _ _)
  ·rw[hf,if_pos rfl] at go
   exact call_meets xV (typeIs_str _ _ _) PySem.F.entry_str_split (PySem.F.args_str_split_2 _ _) (meets_str_split_not_found _ _ t u h1 rfl hf) (go [(_,t)] _ rfl)
 ·rw[h1,if_pos rfl] at go
  exact call_meets xV (typeIs_str _ _ _) PySem.F.entry_str_split (PySem.F.args_str_split_2 _ _) (meets_str_split_cannot_occur _ _ t u h1) (go [(_,t)] _ rfl)
theorem AL{α:Type}{t:List Nat}{f:Nat->Option α}{r:α}(e:(match t with|[c]=>f c|_=>none)=some r){zg:Prop}(zk:∀ c,t=[c]->f c=some r->zg):zg:=by
  induction t using List.casesOn with
 |nil=>exact nn e
 |cons c t=>induction t using List.casesOn with
   |nil=>exact zk c rfl e
   |cons=>exact nn e
theorem QE{m:BM}{o r:V}{vs:List V}{wo:Value}{ws:List Value}(e:qK m o vs H=some (r,H'))(hr:HR S as T H s.heap)(vo:VR S.fa as T o wo)(vv:bq S.fa as T vs ws)(q:cJ S as T s H' r Q) :
   wpAny (model S.prog S.w) A (call (.builtin (AI m)) (wo::ws)) Q E s:=by
  induction m with
 |append=>exact gI e vo λn vo e=>ga vv e λa w v0 e=>bi e λl hl e=>je e λhc e=>CO hr vo v0 hl hc (q.of e)
 |pop=>exact gI e vo λn vo e=>yF vv e λe=>bi e λl hl e=>AK e λv hv e=>MA hr vo hl hv (q.of e)
 |extend=>exact gI e vo λn vo e=>ga vv e λa w v0 e=>gI e v0 λk v0 e=>bi e λl hl e=>bi e λm hm e=>je e λhc e=>CP hr vo v0 hl hm hc.2 (q.of e)
 |reverse=>exact gI e vo λn vo e=>yF vv e λe=>bi e λl hl e=>Az hr vo hl (q.nN e)
 |join=>exact f8 e vo λx vo e=>ga vv e λa w v0 e=>gI e v0 λn v0 e=>yG e λhx e=>bB e λv e he=>Jo e hr (hx▸vo) v0 (q.of he)
 |replace=>exact nn e
 |startswith=>exact f8 e vo λx vo e=>ga vv e λa w v0 e=>f8 e v0 λy v0 e=>cz vo λt _=>cz v0 λu _=>SC.startswith (C0 y x▸(q.nN e).now hr (.bool _))
 |lstrip=>exact f8 e vo λx vo e=>ga vv e λa w v0 e=>f8 e v0 λy v0 e=>je e λhc e=>cz vo λt _=>cz v0 λu _=>SC.lstripChars (λt' k=>by rw[(j3 hc).1];exact(q.of e).tok hr (.str _ _ (bj (j3 hc).2.1 (by decide))) _) (by rw[str_len];exact bj (j3 hc).2.2 (by decide))
 |split=>exact f8 e vo λx vo e=>ga vv e λa w v0 e=>f8 e v0 λy v0 e=>AL e λc hy e=>je e λhc e=>G4 hc hr vo (hy▸v0) (q.of e)
 |get=>exact gI e vo λn vo e=>ML vv e λa dv w u v0 v2 e=>f8 e v0 λk v0 e=>mr e λes hl e=>Jp hl hr vo v0 v2 (q.nN e)
theorem MP(m:Nat):sliceRange (m:Int) 0 (-1)=((List.range m).map (1 + ·)).reverse:=by
 have c:(if(m:Int) > 0 then((m:Int)-0 - -1-1) / (- -1) else 0).toNat=m:=by
   rw[show(- -1:Int)=1 from rfl,Int.ediv_one,Int.sub_zero,Int.sub_neg,zM]
   induction m using Nat.casesOn with
  |zero=>rfl
  |succ m=>rw[if_pos (n8.mpr (jz m)),pq]
 show(List.range (if(m:Int) > 0 then((m:Int)-0 - -1-1) / (- -1) else 0).toNat).map (λ(k:Nat)=>((m:Int) + -1*(k:Int)).toNat)=_
 rw[c,← zN,← krv_range,te]
 refine List.map_congr_left λk hk=>?_
 obtain⟨j,rfl⟩:=Nat.exists_eq_add_of_lt (tf.mp hk)
 show((k+j+1:Nat) + -1*(k:Int)).toNat=1+(k+j+1-1-k)
 rw[Nat.add_sub_cancel,xW,Int.neg_mul,Int.one_mul,dU,Int.natCast_add,Int.add_comm (k:Int),Int.add_neg_cancel_right,pq,kh]
theorem slice_list{items:Array Value}:slicePick items none (some 0) (some (-1))=((items.toList.drop 1).reverse).toArray:=by
 have key:∀ n:Nat,sliceRange (sliceBounds none (some 0) (some (-1)) n).1 (sliceBounds none (some 0) (some (-1)) n).2.1 (sliceBounds none (some 0) (some (-1)) n).2.2=((List.range (n-1)).map (1 + ·)).reverse:=λn=>by
   induction n with
  |zero=>rfl
  |succ m=>
    rw[show sliceBounds none (some 0) (some (-1)) (m+1)=((m:Int),0,-1) from Prod.ext (by show((m+1:Nat):Int)-1=_;rw[Int.natCast_add];exact zM ..) (Prod.ext (by show max (-1:Int) (min 0 (((m+1:Nat):Int)-1))=0;rw[Int.natCast_add,show(m:Int)+(1:Nat)-1=m from zM ..,Int.min_eq_left (n9 m)];rfl) rfl)]
    exact MP m
 show((sliceRange _ _ _).filterMap (items[·]?)).toArray=_
 rw[key,List.filterMap_reverse,pick_run,List.take_of_length_le (by rw[i7,zK];exact aC _)]
theorem G5{x:List Nat}{lo hi:Option (Int×Tok)}:slicePicked ⟨x.toArray⟩ lo hi none=sliceRange (sliceBounds (lo.map (·.1)) (hi.map (·.1)) none x.length).1 (sliceBounds (lo.map (·.1)) (hi.map (·.1)) none x.length).2.1 1:=by
 unfold slicePicked
 rw[str_len]
 rfl
theorem Jq{α:Type}(x:List α)(i j:Nat):(x.drop (min i x.length)).take (min j x.length-min i x.length)=(x.take j).drop i:=by
 rw[← List.drop_take,← List.take_eq_take_min]
 rcases Nat.le_total i x.length with h|h
 ·rw[Nat.min_eq_left h]
 ·rw[Nat.min_eq_right h,List.drop_of_length_le (xX ..),List.drop_of_length_le (bj (xX ..) h)]
theorem sV{α:Type}(x:List α)(i j:Nat):((x.take j).drop i).Sublist x:=(List.drop_sublist i _).trans (List.take_sublist j x)
theorem str_slice{x:List Nat}{t:Tok}{lo hi:Option (Int×Tok)}{i j:Nat}{sl:Addr}(hs:s.heap.IsSlice sl lo hi none)(hx:x.length<=lim)(h1:kms_lo (lo.map (·.1)) x.length=min i x.length)(h2:kms_hi (hi.map (·.1)) x.length=min j x.length)
  (q:∀ t' k,Q (.str ⟨((x.take j).drop i).toArray⟩ t') { s with toks:=k }):wpAny (model S.prog S.w) A (getItem (.str ⟨x.toArray⟩ t) (.ref sl)) Q E s:=by
 have e0:slicePicked ⟨x.toArray⟩ lo hi none=(List.range (min j x.length-min i x.length)).map (min i x.length + ·):=by
  rw[G5,kms_bounds,h1,h2];exact sliceRange_one ..
 have hp:(slicePicked ⟨x.toArray⟩ lo hi none).filterMap (x.toArray[·]?)=(x.take j).drop i:=by rw[e0,pick_run];exact Jq x i j
 refine wpAny_getItem_str_slice hs (by rfl) ?_
 unfold sliceMade
 split
 ·rename_i hc
  have hl:min j x.length-min i x.length=x.length:=by
   have:=(lI.mp hc).2
   rw[e0,cT,List.length_range,str_len] at this;exact eq_of_beq this
  have:=(sV x i j).eq_of_length (iQ (sV x i j).length_le (by rw[← Jq,zO,i7,hl];exact Nat.le_min.mpr ⟨aC _,bj (bk hl.symm) (Nat.sub_le_sub_right (Nat.min_le_right ..) _)⟩))
  show Q (.str ⟨x.toArray⟩ t) s
  have q:=q t s.toks
  rw[this] at q
  exact q
 ·show(⟨((slicePicked ⟨x.toArray⟩ lo hi none).filterMap (x.toArray[·]?)).toArray⟩:Str).length<=sizeLine/\Q (.str ⟨((slicePicked ⟨x.toArray⟩ lo hi none).filterMap (x.toArray[·]?)).toArray⟩ s.toks) { s with toks:=s.toks+1 }
  rw[hp,str_len]
  exact⟨bj (sV x i j).length_le (dJ hx),q _ _⟩
section
variable {β:Type}{r:β}{lo hi:V}{wl:Value}{zg:Prop}
theorem Jr{f:Nat->Option β}(e:OP lo f=some r)(vl:VR S.fa as T lo wl)(n:Nat)(zk:∀(p:Option (Int×Tok)) i,wl=partValue p->kms_lo (p.map (·.1)) n=min i n->f i=some r->zg):zg:=by
  induction lo using V.casesOn with
 |none=>exact zk none 0 (j2 vl) (Nat.zero_min n).symm e
 |int i=>
   by_cases h:0<=i
   ·obtain⟨u,hu⟩:=EE vl
    exact zk (some (i,u)) i.toNat hu (if_neg (Int.not_lt.mpr h)) ((if_pos h).symm.trans e)
   ·exact nn ((if_neg h).symm.trans e)
 |_=>exact nn e
theorem G6{f:Nat->β}{d:β}(e:IM hi f d=some r)(vl:VR S.fa as T hi wl)(n:Nat)(hd:f n=d)(zk:∀(p:Option (Int×Tok)) j,wl=partValue p->kms_hi (p.map (·.1)) n=min j n->f j=r->zg):zg:=by
  induction hi using V.casesOn with
 |none=>exact zk none n (j2 vl) (Nat.min_self n).symm (hd.trans (bU e))
 |int i=>
   obtain⟨h,e⟩:=cU e
   obtain⟨u,hu⟩:=EE vl
   exact zk (some (i,u)) i.toNat hu (if_neg (Int.not_lt.mpr h)) e
 |_=>exact nn e
end
theorem vT{x:List Nat}{lo hi st:V}{t:List Nat}{wa wl wu wt:Value}{sl:Addr}(ht:Ee x lo hi st=some t)(hr:HR S as T H s.heap)(va:VR S.fa as T (.str x) wa)(vl:VR S.fa as T lo wl)(vu:VR S.fa as T hi wu)(vt:VR S.fa as T st wt)
  (hH:s.heap.IsSliceOf sl wl wu wt) (q:cJ S as T s H (.str t) Q):wpAny (model S.prog S.w) A (getItem wa (.ref sl)) Q E s:=by
 obtain⟨hn,ht⟩:=jD ht
 have hw:=j2 (hn▸vt)
 refine Jr ht vl x.length λp i hl h1 e1=>G6 e1 vu x.length (by rw[List.take_length]) λp2 j hu h2 e2=>cz va λtk hz=>?_
 rw[hl,hu,hw] at hH
 exact str_slice (lo:=p) (hi:=p2) hH hz h1 h2 λt' k=>q.tok hr (e2▸.str _ _ (bj (sV x i j).length_le hz)) k
theorem uk(ws:List Value){j:Int}(hj:0<=j):kms_pick ws none (some j)=ws.take j.toNat:=by
 show(ws.drop 0).take (kms_hi (some j) ws.length-0)=_
 rw[Nat.sub_zero,show kms_hi (some j) ws.length=min j.toNat ws.length from if_neg (Int.not_lt.mpr hj),List.drop_zero,← List.take_eq_take_min]
theorem ul{l:List V}{ws:List Value}(hr:HR S as T H s.heap)(hv:bq S.fa as T l ws)(hl:l.length<=lim)(q:cJ S as T s (H++[.list l]) (.loc H.length) Q):Q (.ref s.heap.objs.size) { s with heap:=s.heap.push { cls:=.type "list",data:=.seq ws.toArray } }:=
 mF hr (bT (lst _ 0)) (Heap.get?_push_size _ rfl) hv hl q s.toks
theorem um{l t:List V}{a:Addr}{ws:List Value}{lo hi st:V}{wl wu wt:Value}{sl:Addr}(ht:Ed l lo hi st=some t)(hr:HR S as T H s.heap)(hL:s.heap.IsList a ws.toArray)(hz:l.length<=lim)(hv:bq S.fa as T l ws)(vl:VR S.fa as T lo wl)(vu:VR S.fa as T hi wu)(vt:VR S.fa as T st wt)
    (hH:s.heap.IsSliceOf sl wl wu wt) (q:cJ S as T s (H++[.list t]) (.loc H.length) Q):wpAny (model S.prog S.w) A (getItem (.ref a) (.ref sl)) Q E s:=by
  have Tk:ws.toArray.size<=sizeLine:=by rw[gp,hv.length];exact dJ hz
  have fin:∀{lo hi st:Option Int}{t':List V}{ws':List Value},IsPart wl lo->IsPart wu hi->IsPart wt st->st≠some 0->slicePick ws.toArray lo hi st=ws'.toArray->bq S.fa as T t' ws'->t'.length<=lim->t'=t->wpAny (model S.prog S.w) A (getItem (.ref a) (.ref sl)) Q E s:=
    λp1 p2 p3 h0 hp v hl e=>wpAny_getItem_list_slice hL hH p1 p2 p3 h0 (hp▸ul hr (e▸v) (e▸hl) q) Tk
  obtain⟨hn,ht⟩:=jD ht
  have hw:IsPart wl none:=j2 (hn▸vl)▸.none
  induction hi using V.casesOn with
 |none=>
    refine fg ht vt λk vt e=>?_
    obtain⟨hk,e2⟩:=cU e
    exact fin hw (j2 vu▸.none) (cZ (hk▸vt:VR S.fa as T (.int (-1)) wt) λu=>.int _ u) (by simp) (krv_pick _) hv.reverse (by rw[jA];exact hz) e2
 |int j=>
    have p2:IsPart wu (some j):=cZ vu λu=>.int j u
    induction st using V.casesOn with
   |none=>
     obtain⟨hj,e⟩:=cU ht
     exact fin hw p2 (j2 vt▸.none) (by simp) ((kms_pick_eq ..).trans (congrArg _ (uk ws hj))) (hv.take _) (bj (xX ..) hz) e
   |int k=>
     obtain⟨⟨hj,hk⟩,e⟩:=cU ht
     exact fin hw (hj▸p2) (cZ (hk▸vt:VR S.fa as T (.int (-1)) wt) λu=>.int _ u) (by simp) slice_list (hv.drop 1).reverse (by rw[jA,i7];exact bj (Nat.sub_le ..) hz) e
   |_=>exact nn ht
 |_=>exact nn ht
theorem up{a:Addr}{ws:List Value}(hL:s.heap.IsList a ws.toArray):Sub s (.ref a):=by
 obtain⟨o,g1,g2,_⟩:=hL;exact⟨_,_,⟨_,g1,g2⟩,PySem.slot_list_getitem.lookup⟩
theorem G7{a lo hi st r:V}{wa wl wu wt:Value}{sl:Addr}(e:jE a lo hi st H=some (r,H'))(hr:HR S as T H s.heap)(va:VR S.fa as T a wa)(vl:VR S.fa as T lo wl)(vu:VR S.fa as T hi wu)(vt:VR S.fa as T st wt)
   (hH:s.heap.IsSliceOf sl wl wu wt) (q:cJ S as T s H' r Q):Sub s wa/\wpAny (model S.prog S.w) A (getItem wa (.ref sl)) Q E s:=by
  induction a using V.casesOn with
 |str x=>exact bB e λt ht he=>⟨cz va λtk hz=>⟨_,_,rfl,PySem.F.slot_str_getitem.lookup⟩,vT ht hr va vl vu vt hH (q.of he)⟩
 |ro l=>
   obtain⟨hn,e1⟩:=jD e
   obtain⟨G8,e2⟩:=jD e1
   refine fg e2 vu λj vu e3=>Ti va λa ws tt hz hv=>?_
   obtain⟨hj,he⟩:=cU e3
   have hL:s.heap.IsList a ws.toArray:=hr.im _ _ tt
   refine⟨up hL,wpAny_getItem_list_slice hL hH (j2 (hn▸vl)▸IsPart.none) (cZ (P:=λw=>IsPart w (some j)) vu λu=>.int j u) (j2 (G8▸vt)▸IsPart.none) (by simp) ?_ (by rw[gp,hv.length];exact dJ hz)⟩
   rw[kms_pick_eq,List.toList_toArray,uk ws hj]
   exact ul hr (hv.take _) (bj (xX ..) hz) (q.of he)
 |loc n=>
   refine bi e λl hl e1=>bB e1 λt ht he=>eI hr hl va λa ws hL hz hv=>?_
   exact⟨up hL,um ht hr hL hz hv vl vu vt hH (q.of he)⟩
 |_=>exact nn e
end
end Mine
namespace Mine
structure AM(A:Around)(d:Nat):Prop where
 handled:A.handled=none
 depth:A.depth+4*d+6<=1000
 units:A.units+32*d+180<=9900
theorem gy.c{A:Around}{d:Nat}(x:gy A d):AM A d:=⟨x.handled,by have:=x.depth;exact nt (am [_,_] (.d (.a (.a ab (.m 4 ac)) (.n 8)) (.n 1000) (.d (.s (.n 1000)) (.a (.a ab (.m 4 ac)) (.n 6)) .z)) rfl this),by have:=x.units;exact nt (am [_,_] (.d (.a (.a ab (.m 32 ac)) (.n 200)) (.n 9900) (.d (.s (.n 9900)) (.a (.a ab (.m 32 ac)) (.n 180)) .z)) rfl this)⟩
theorem gy.u{A:Around}{d:Nat}(x:gy A d):A.units+64<cLine:=by
 have:=x.units
 show A.units+64<9900
 exact nl (am [_,_] (.d (.a (.a ab (.m 32 ac)) (.n 200)) (.n 9900) (.d (.n 9900) (.a ab (.n 64)) .z)) rfl this)
noncomputable def fz(S:b0)(call:bX)(d:Nat):Prop:=∀{k:Nat}{vs:List V}{H H':Hp}{v:V},call k vs H=some (v,H') ->
 ∀{A:Around}{s:Shared}{as:As}{T:TS}{R:Result->Shared->Prop}{a:Addr}{ws:List Value},AM A d->S.fa[k]?=some a->HR S as T H s.heap->bq S.fa as T vs ws ->
  cJ S as T s H' v (λw s'=>R (.ok (.ret w)) s')->codeAny (model S.prog S.w) A (Code.call (.ref a) { pos:=ws }) R s
section
variable {S:b0}{as aO:As}{T T1:TS}{H H':Hp}{h h' h1:Heap}{s:Shared}{v:V}{w:Value}{Q:Value->Shared->Prop}{A:Around}{E:Value->Shared->Prop}
theorem sh(m:BM){zg:Prop}(zk:(PlainAttrs (AH m))->(Slot (AH m) (pI m) (AI m))->(typeOf (.builtin (AI m))=pure (.type "method_descriptor"))->zg):zg:=by
 obtain⟨cO,cY,iJ⟩:PlainAttrs (AH m)/\Slot (AH m) (pI m) (AI m)/\typeOf (.builtin (AI m))=pure (.type "method_descriptor"):=by
  cases m
  ·exact⟨xY,PySem.F.slot_list_append,PySem.F.type_list_append⟩
  ·exact⟨xY,PySem.F.slot_list_pop,PySem.F.type_list_pop⟩
  ·exact⟨xY,PySem.F.slot_list_extend,PySem.F.type_list_extend⟩
  ·exact⟨xY,PySem.F.slot_list_reverse,PySem.F.type_list_reverse⟩
  ·exact⟨zQ,PySem.F.slot_str_join,PySem.F.type_str_join⟩
  ·exact⟨zQ,PySem.F.slot_str_replace,PySem.F.type_str_replace⟩
  ·exact⟨zQ,PySem.F.slot_str_startswith,PySem.F.type_str_startswith⟩
  ·exact⟨zQ,PySem.F.slot_str_lstrip,PySem.F.type_str_lstrip⟩
  ·exact⟨zQ,xV,PySem.F.type_str_split⟩
  ·exact⟨PySem.F.plainAttrs_dict,PySem.F.slot_dict_get,PySem.F.type_dict_get⟩
 exact zk cO cY iJ
theorem Js{m:BM}{o:V}{wo:Value}(e:zZ m o H=true)(hr:HR S as T H s.heap)(vo:VR S.fa as T o wo) :
    s.TypeIs wo (AH m)/\∀ a,wo=.ref a->∃ ob,s.heap.get? a=some ob/\ob.dict=none:=by
  induction o using V.casesOn with
 |str s=>
    refine cz vo λt _=>?_
    induction m <;> first|exact ff e|exact⟨rfl,λa q=>by cases q⟩
 |loc n=>
    have e:(match H[n]? with
     |some (.list _)=>(match (generalizing:=false) m with|.append=>true|.pop=>true|.extend=>true|.reverse=>true|_=>false)
     |some (.dict _)=>(match (generalizing:=false) m with|.get=>true|_=>false)
     |_=>false)=true:=e
    cases h:H[n]? with
   |none=>rw[h] at e;exact ff e
   |some ob=>
      rw[h] at e
      induction ob with
     |list l=>
       refine hr.eI h vo λa ws k hp e1 hz hv=>?_
       induction m <;> first|exact ff e|exact⟨⟨_,e1,rfl⟩,λb q=>by cases q;exact⟨_,e1,rfl⟩⟩
     |dict es=>
       refine hr.EA h vo λa ds hp e1 hz hv=>?_
       obtain⟨ob,GY,ep,g,x,_⟩:=e1
       induction m <;> first|exact ff e|exact⟨⟨_,g,x.1⟩,λb q=>by cases q;exact⟨_,g,x.2.1⟩⟩
     |_=>exact ff e
 |_=>exact ff e
end
end Mine
namespace Mine
noncomputable def si(S:b0)(as:As)(T:TS)(s:Shared)(H':Hp)(b:Bool)(Q:Bool->Shared->Prop):Prop:=
 ∀ h' tk as' T',Ext Nil as T s.heap as' T' h'->HR S as' T' H' h'->Q b { s with heap:=h',toks:=tk }
noncomputable def EJ(S:b0)(as:As)(T:TS)(s:Shared)(H':Hp)(vs:List V)(Q:List Value->Shared->Prop):Prop:=
 ∀ ws h' tk as' T',Ext Nil as T s.heap as' T' h'->HR S as' T' H' h'->bq S.fa as' T' vs ws->Q ws { s with heap:=h',toks:=tk }
noncomputable def bw(S:b0)(call:bX)(d:Nat)(e:ME):Prop:=∀{l:Lo}{H H':Hp}{v:V},av S.P call e l H=some (v,H') ->
 ∀{nm:bm}{sl:Sl}{x:Expr}{s:Shared}{as:As}{T:TS}{env:Env}{A:Around}{E Q:Value->Shared->Prop},gy A d->aI S.G e nm sl x=true->ER S as T env nm sl l s.heap->HR S as T H s.heap ->
  cJ S as T s H' v Q->wpAny (model S.prog S.w) A (eval x env) Q E s
noncomputable def mG(S:b0)(call:bX)(d:Nat)(e:ME):Prop:=∀{l:Lo}{H H':Hp}{b:Bool},av S.P call e l H=some (.bool b,H') ->
 ∀{nm:bm}{sl:Sl}{x:Expr}{s:Shared}{as:As}{T:TS}{env:Env}{A:Around}{E:Value->Shared->Prop}{Q:Bool->Shared->Prop},gy A d->aI S.G e nm sl x=true->ER S as T env nm sl l s.heap->HR S as T H s.heap ->
  si S as T s H' b Q->wpAny (model S.prog S.w) A (PySem.isTrue x env (eval x env)) Q E s
noncomputable def mH(S:b0)(call:bX)(d:Nat)(es:List ME):Prop:=∀{l:Lo}{H H':Hp}{vs:List V},ei S.P call es l H=some (vs,H') ->
 ∀{nm:bm}{sl:Sl}{xs:List Expr}{s:Shared}{as:As}{T:TS}{env:Env}{A:Around}{E:Value->Shared->Prop}{Q:List Value->Shared->Prop}{pos:Pos},gy A d->eC S.G es nm sl xs=true->ER S as T env nm sl l s.heap->HR S as T H s.heap ->
  EJ S as T s H' vs Q->wpAny (model S.prog S.w) A (spliced (backTo pos (starEach xs env))) Q E s
section
variable {S:b0}{call:bX}{d:Nat}
theorem si.from{as aO:As}{T T1:TS}{s:Shared}{H':Hp}{h1:Heap}{b:Bool}{Q:Bool->Shared->Prop}{tk:Tok}(k:si S as T s H' b Q)(e:Ext Nil as T s.heap aO T1 h1):si S aO T1 { s with heap:=h1,toks:=tk } H' b Q:=
 λh' ud as' T' e' hr=>k h' ud as' T' (e.trans e') hr
theorem EJ.from{as aO:As}{T T1:TS}{s:Shared}{H':Hp}{h1:Heap}{vs:List V}{Q:List Value->Shared->Prop}{tk:Tok}(k:EJ S as T s H' vs Q)(e:Ext Nil as T s.heap aO T1 h1):EJ S aO T1 { s with heap:=h1,toks:=tk } H' vs Q:=
 λw h' ud as' T' e' hr vr=>k w h' ud as' T' (e.trans e') hr vr
theorem G9{e:ME}{x:Expr}{l:Lo}{H H':Hp}{b:Bool}{nm:bm}{sl:Sl}{s:Shared}{as:As}{T:TS}{env:Env}{A:Around}{E:Value->Shared->Prop}{Q:Bool->Shared->Prop}
  (he:PySem.isTrue x env (eval x env)=(do let v ← eval x env;standAt x.pos;holding [v] (truthy v))) (h:bw S call d e) (e1:av S.P call e l H=some (.bool b,H')) (ao:gy A d) (c:aI S.G e nm sl x=true)
  (er:ER S as T env nm sl l s.heap) (hr:HR S as T H s.heap) (q:si S as T s H' b Q):wpAny (model S.prog S.w) A (PySem.isTrue x env (eval x env)) Q E s:=by
 refine wpAny_isTrue_value (h e1 ao c er hr λw h' tk as' T' x' dY vr=>?_) he
 cases k7 vr
 exact wpAny_truthy_bool (q h' tk as' T' x' dY)
theorem kA{x:Expr}(h:notStar x=true)(rest:List Expr)(env:Env):starEach (x::rest) env=(false,eval x env)::starEach rest env:=by
 induction x using PySem.Expr.casesOn <;> first|rfl|exact ff h
noncomputable def noStar:List Expr->Bool
 |[]=>true
 |x::r=>notStar x&&noStar r
theorem nu :noStar ([])=(true):=rfl
theorem nv{x r}:noStar (x::r)=(notStar x&&noStar r):=rfl
theorem eA{G:Str->Option GV}{nm:bm}{sl:Sl}:∀{es:List ME}{xs:List Expr},eC G es nm sl xs=true->noStar xs=true
 |[],[],_=>rfl
 |[],_::_,h=>ff h
 |_::_,[],h=>ff h
 |e::r,x::ys,h=>by
  simp only[eF,eG,dw] at h
  simp only[nu,nv,h.1.1,eA h.2,Bool.and_self]
theorem hJ{pos:Pos}{env:Env}:∀{xs:List Expr},noStar xs=true->(backTo pos (starEach xs env)).any (·.1)=false
 |[],_=>rfl
 |x::r,h=>by
  simp only[nu,nv,dw] at h
  rw[kA h.1]
  show(false || (backTo pos (starEach r env)).any (·.1))=false
  rw[hJ h.2];rfl
theorem uq{M:Model}{A:Around}{E:Value->Shared->Prop}{s:Shared}{env:Env}{pos:Pos}{f:Value}{xs:List Expr}{Q:Args->Shared->Prop}(h:noStar xs=true)
   (k:wpAny M A (spliced (backTo pos (starEach xs env))) (λvs s'=>Q { pos:=vs } s') E s):wpAny M A (evalArgs f true (backTo pos (starEach xs env)) []) Q E s:=by
  induction xs using List.casesOn with
 |nil=>exact wpAny_bind (m:=spliced []) (wpAny_mono k (λvs s' h'=>wpAny_bind (wpAny_pure (wpAny_holding (wpAny_bind (wpAny_pure (wpAny_pure h'))))) ) λ_ _ x=>x)
 |cons x r=>
   simp only[nu,nv,dw] at h
   rw[kA h.1] at k ⊢
   exact Calls.evalArgs_plain k
theorem mI{P:Pg}{call:bX}:∀{es:List ME}{l:Lo}{H H':Hp}{vs:List V},ei P call es l H=some (vs,H')->vs.length=es.length
 |[],_,_,_,_,e=>by rw[IS] at e;cases e;rfl
 |_::r,_,_,_,_,e=>by
  rw[IT] at e
  refine ax e λa H1 e1 e=>?_
  refine ax e λb H2 e2 e=>?_
  cases e
  rw[cw,mI e2,cw]
theorem QF:mH S call d []:=by
  intro l H H' vs e nm sl xs s as T env A E Q pos ao c er hr q
  rw[IS] at e;cases e
  induction xs using List.casesOn with
 |nil=>exact spliced_none (q [] s.heap s.toks as T (.refl ..) hr .nil)
 |cons=>simp[eF,eG] at c
theorem MQ{e:ME}{r:List ME}(he:bw S call d e)(hl:mH S call d r):mH S call d (e::r):=by
  intro l H H' vs e nm sl xs s as T env A E Q pos ao c er hr q
  rw[IT] at e
  refine ax e λa H1 e1 e=>?_
  refine ax e λb H2 e2 e=>?_
  cases e
  induction xs using List.casesOn with
 |nil=>simp[eF,eG] at c
 |cons x ys=>
   simp only[eF,eG,dw] at c
   refine spliced_more (he e1 ao c.1.2 er hr λwa h1 cX aO T1 x1 aM ra=>?_) (kA c.1.1 _ _)
   exact hl e2 ao c.2 (er.ext x1) aM λws h2 iE iC T2 x2 bK rb=>q _ _ _ _ _ (x1.trans x2) bK (.cons (ra.mono x2.mono) rb)
theorem QG:bw S call d .bad:=λe=>nn e
theorem Jt{u:V}:bw S call d (.lit u):=by
  intro l H H' v e nm sl x s as T env A E Q ao c er hr q
  obtain⟨rfl,rfl⟩:=Ex e
  refine qO c λk y z c1=>?_
  induction u using V.casesOn with
 |none=>induction k with
   |none=>exact PyProof.Rows.Constant_none (q.now hr .none)
   |_=>exact ff c1
 |bool a=>induction k with
   |bool b=>cases beq_iff_eq.mp c1;exact PyProof.Rows.Constant_bool (q.now hr (.bool _))
   |_=>exact ff c1
 |int a=>induction k with
   |int b=>cases beq_iff_eq.mp c1;exact wpAny_Constant_int (q.tok hr (.int _ _) _)
   |_=>exact ff c1
 |str a=>induction k with
   |str b=>
    obtain⟨c2,c3⟩:=ah c1
    have:=beq_iff_eq.mp c2
    subst this
    exact PySem.wpAny_Constant_str (q.tok hr (.str b.cps.toList s.toks (by have:=of_decide_eq_true c3;unfold lim;exact nt (am [_] (.d ab (.n 1000) (.d (.s (.n 1048576)) ab .z)) rfl this))) _)
   |_=>exact ff c1
 |_=>exact ff c1
theorem Ju{i:Nat}:bw S call d (.loc i):=by
 intro l H H' v e nm sl x s as T env A E Q ao c er hr q
 obtain⟨hu,rfl⟩:=Mt e
 refine nk c λn p c1=>?_
 exact qR er c1 hu λw vr=>q.now hr vr
mutual
theorem xb:∀{u v:V},Cr u v=true->u=v
 |.none,v,h=>by induction v using V.casesOn with
  |none=>rfl
  |_=>exact ff h
 |.bool a,v,h=>by induction v using V.casesOn with
  |bool b=>rw[beq_iff_eq.mp h]
  |_=>exact ff h
 |.int a,v,h=>by induction v using V.casesOn with
  |int b=>rw[beq_iff_eq.mp h]
  |_=>exact ff h
 |.str a,v,h=>by induction v using V.casesOn with
  |str b=>rw[beq_iff_eq.mp h]
  |_=>exact ff h
 |.fn a,v,h=>by induction v using V.casesOn with
  |fn b=>rw[beq_iff_eq.mp h]
  |_=>exact ff h
 |.tup a,v,h=>by induction v using V.casesOn with
  |tup b=>rw[ur (u:=a) (v:=b) h]
  |_=>exact ff h
 |.loc _,v,h=>by induction v using V.casesOn <;> exact ff h
 |.cm _ _ _,v,h=>by induction v using V.casesOn <;> exact ff h
 |.ro _,v,h=>by induction v using V.casesOn <;> exact ff h
theorem ur:∀{u v:List V},yg u v=true->u=v
 |[],v,h=>by induction v using List.casesOn with
  |nil=>rfl
  |cons=>exact ff h
 |a::r,v,h=>by induction v using List.casesOn with
  |nil=>exact ff h
  |cons b t=>rw[xb (ah h).1,ur (ah h).2]
end
theorem EK(C:Cx S){u:V}:bw S call d (.glob u):=by
  intro l H H' v e nm sl x s as T env A E Q ao c er hr q
  obtain⟨rfl,rfl⟩:=I7 e
  refine tK c λn p c0=>?_
  refine iD c0 λhn g hg c1=>?_
  induction g with
 |fn k=>
    induction u using V.casesOn with
   |fn j=>
     cases beq_iff_eq.mp c1
     obtain⟨a,ha,hv⟩:=C.Vy _ _ hg
     exact kY C er hr hn hv (q.now hr (.fn ha))
   |_=>exact ff c1
 |val u'=>
    cases xb c1
    obtain⟨w,hw,vr⟩:=C.S1 _ _ hg
    exact kY C er hr hn hw (q.now hr (vr.mono ⟨λ_ _ e=>by simp at e,hr.t0⟩))
 |_=>exact ff c1
theorem Jv{es:List ME}(hl:mH S call d es):bw S call d (.tup es):=by
 intro l H H' v e nm sl x s as T env A E Q ao c er hr q
 refine Gu e λvs e1 QH=>?_
 replace q:=q.GK QH
 refine wF c λxs k p AN c2=>?_
 refine wpAny_Tuple_spliced (hl e1 ao c2 er hr λws h1 cX aO T1 x1 aM ra=>⟨?_,?_⟩)
 ·rw[ra.length,mI e1];exact bj AN (by decide)
 ·refine sd aM ra (by rw[mI e1];exact bj AN (by decide)) λT2 x2 bK vr=>?_
  exact q _ _ _ _ _ (x1.trans x2) bK vr
theorem Jw{es:List ME}(hl:mH S call d es):bw S call d (.lst es):=by
 intro l H H' v e nm sl x s as T env A E Q ao c er hr q
 refine Gv e λvs H1 e1 QI QJ=>?_
 replace q:=(q.GK QI).S5 QJ
 refine wG c λxs p AN c2=>?_
 refine wpAny_List_spliced (hl e1 ao c2 er hr λws h1 cX aO T1 x1 aM ra=>⟨?_,?_⟩)
 ·rw[ra.length,mI e1];exact bj AN (by decide)
 ·refine yt aM ra (by rw[mI e1];exact bj AN (by decide)) λx2 bK vr=>?_
  exact q _ _ _ _ _ (x1.trans x2) bK vr
theorem pS{o:Expr}(h:dI o=true)(a:Str)(env:Env)(m:Sem Value):attributeBase o a env m=m:=by
  induction o using PySem.Expr.casesOn with
 |Call f xs ks p=>induction f using PySem.Expr.casesOn with
   |Name=>induction xs using List.casesOn with
    |nil=>induction ks using List.casesOn with
     |nil=>exact ff h
     |cons=>rfl
    |cons=>rfl
   |_=>rfl
 |_=>rfl
theorem EL(C:Cx S){o:ME}{a:Nat}(ho:bw S call d o):bw S call d (.attr o a):=by
 intro l H H' v e nm sl x s as T env A E Q ao c er hr q
 refine CA e λov e1 hu=>?_
 refine tL c λy p c2 c3 c4=>?_
 refine Attribute_any_ (ho e1 ao c4 er hr λwa h1 cX aO T1 x1 aM ra=>?_) ?_
 ·exact Av C aM ra hu λu tk vr=>q _ _ _ _ _ x1 aM vr
 ·show(do
   let o ← attributeBase y (dW a) env (eval y env)
   standAt (Pos.atName p)
   let r ← holding [o] (getAttr o (dW a) true)
   letTemporaryGo y o r
   pure r)=_
  rw[pS c3]
theorem C1{x:Expr}(h:isSlice x=false)(o i:Value):subscripted x false o i=operate [o,i] (getItem o i):=by
 induction x using PySem.Expr.casesOn <;> first|rfl|cases h
theorem Jx{o i:ME}(ho:bw S call d o)(hi:bw S call d i):bw S call d (.idx o i):=by
 intro l H H' v e nm sl x s as T env A E Q ao c er hr q
 refine Gw e λov H1 iv e1 e2 hu=>?_
 refine wH c λy sb p c1 c2 c3=>?_
 refine Subscript_ (ho e1 ao c2 er hr λwa h1 cX aO T1 x1 aM ra=>?_)
 refine hi e2 ao c3 (er.ext x1) aM λwb h2 iE iC T2 x2 bK rb=>?_
 obtain⟨⟨Ty,id,t1,t2⟩,k⟩:=MF (s:={ s with heap:=h2,toks:=iE }) (E:=E) (A:=A) (Q:=Q) hu bK (ra.mono x2.mono) rb λu tk vr=>q _ _ _ _ _ (x1.trans x2) bK vr
 exact tail_any t1 t2 k (C1 c1 _ _)
theorem C2{l u st:Option Expr}{p:Pos}(o i:Value):∃ ops,subscripted (.Slice l u st p) false o i=operate ops (getItem o i):=by
  induction st with
 |none=>exact⟨_,rfl⟩
 |some _=>exact⟨_,rfl⟩
theorem uu{m:ME}(hm:bw S call d m){l:Lo}{H H':Hp}{v:V}(e:av S.P call m l H=some (v,H')){nm:bm}{sl:Sl}{x:Option Expr}{s:Shared}{as:As}{T:TS}{env:Env}{A:Around}{E Q:Value->Shared->Prop}(ao:gy A d)
   (c:yj S.G nm sl m x=true) (er:ER S as T env nm sl l s.heap) (hr:HR S as T H s.heap) (q:cJ S as T s H' v Q):wpAny (model S.prog S.w) A (evalPart x env) Q E s:=by
  induction x with
 |none=>
   have:m=.lit .none:=by
     have c:gG m=true:=c
     induction m using ME.casesOn with
    |lit v=>induction v using V.casesOn with
      |none=>rfl
      |_=>exact ff c
    |_=>exact ff c
   subst this
   obtain⟨rfl,rfl⟩:=Ex e
   exact wpAny_evalPart_none (q.now hr .none)
 |some y=>exact wpAny_evalPart_some (hm e ao (ah c).1 er hr q)
theorem AO{o lo hi st:ME}(ho:bw S call d o)(h1:bw S call d lo)(h2:bw S call d hi)(h3:bw S call d st):bw S call d (.slice o lo hi st):=by
 intro l H H' v e nm sl x s as T env A E Q ao c er hr q
 refine Ap e λov H1 lv H2 uv H3 tv H4 e1 e2 e3 e4 e=>?_
 refine r8 c λxx l0 u0 s0 p0 p1 c1 c2 c3 c4=>?_
 refine Subscript_ (ho e1 ao c1 er hr λwa g1 cX aO T1 x1 aM ra=>?_)
 refine wpAny_Slice (uu h1 e2 ao c2 (er.ext x1) aM λwl g2 iE iC T2 x2 bK rl=>?_)
 refine uu h2 e3 ao c3 ((er.ext x1).ext x2) bK λwu g3 pT nP T3 x3 fN ru=>?_
 refine uu h3 e4 ao c4 (((er.ext x1).ext x2).ext x3) fN λwt g4 QK Tl T4 x4 Jy rt=>?_
 have kp:=bT (h:=g4) { cls:=Value.type "slice",data:=Data.fields #[wl,wu,wt] }
 have Tm:=x4.mono
 have To:=x3.mono.trans Tm
 obtain⟨⟨Ty,id,t1,t2⟩,k⟩:=G7 (s:={ s with heap:=g4.push { cls:=Value.type "slice",data:=Data.fields #[wl,wu,wt] },toks:=QK }) (E:=E) (A:=A) (Q:=Q) (sl:=g4.objs.size) e (Jy.keep kp)
  (ra.mono (x2.mono.trans To)) (rl.mono To) (ru.mono Tm) rt ⟨_,Heap.get?_push_size _ rfl,rfl,rfl⟩ λw h' tk as' T' x' dY vr=>q _ _ _ _ _ ((((x1.trans x2).trans x3).trans x4).trans ((Ext.keep kp).trans x')) dY vr
 obtain⟨ops,hs⟩:=C2 _ _
 exact tail_any t1 t2 k hs
theorem Jz{op:ki}{a b:ME}(ha:bw S call d a)(hb:bw S call d b):bw S call d (.bin op a b):=by
 intro l H H' v e nm sl x s as T env A E Q ao c er hr q
 refine Gy e λva H1 vb H2 e1 e2 e=>?_
 refine wI c λy o z p c1 c2 c3=>?_
 refine PySem.wpAny_BinOp (ha e1 ao c2 er hr λwa h1 cX aO T1 x1 aM ra=>?_)
 refine hb e2 ao c3 (er.ext x1) aM λwb h2 iE iC T2 x2 bK rb=>?_
 exact MB e c1 bK (ra.mono x2.mono) rb ((q.from x1).from x2)
theorem JA{a:ME}(ha:bw S call d a):bw S call d (.neg a):=by
 intro l H H' v e nm sl x s as T env A E Q ao c er hr q
 refine Gz e λi e1 QL=>?_
 replace q:=q.GK QL
 refine wJ c λy p c1=>?_
 refine PySem.wpAny_UnaryOp (ha e1 ao c1 er hr λwa h1 cX aO T1 x1 aM ra=>?_)
 obtain⟨t,rfl⟩:=EE ra
 exact neg_int (q _ _ _ _ _ x1 aM (.int _ _))
theorem QM{a:ME}(ha:bw S call d a):bw S call d (.not a):=by
 intro l H H' v e nm sl x s as T env A E Q ao c er hr q
 refine wS e λb e1 QN=>?_
 replace q:=q.GK QN
 refine wK c λy p c1=>?_
 refine PySem.wpAny_UnaryOp (ha e1 ao c1 er hr λwa h1 cX aO T1 x1 aM ra=>?_)
 cases k7 ra
 exact not_of (wpAny_truthy_bool (q _ _ _ _ _ x1 aM (.bool _)))
theorem QO{a:ME}(ha:mG S call d a):mG S call d (.not a):=by
 intro l H H' v e nm sl x s as T env A E Q ao c er hr q
 refine wS e λb' e1 hb=>?_
 cases hb
 refine wK c λy p c1=>?_
 exact isTrue_not (ha e1 ao c1 er hr q)
theorem kB{x:Expr}(h:gH x=true)(op:CmpOp):behindInMarks op x=false:=by
 induction x using PySem.Expr.casesOn <;> first|rfl|exact ff h
theorem O0{a b:ME}{op:lV}(ha:bw S call d a)(hb:bw S call d b){l:Lo}{H H':Hp}{v:V}(e:av S.P call (.cmp op a b) l H=some (v,H')){nm:bm}{sl:Sl}{x y:Expr}{o:CmpOp}{s:Shared}{as:As}{T:TS}{env:Env}{A:Around}{E Q:Value->Shared->Prop}
  (ao:gy A d) (c0:my op o=true) (c1:aI S.G a nm sl x=true) (c2:aI S.G b nm sl y=true) (er:ER S as T env nm sl l s.heap) (hr:HR S as T H s.heap) (q:cJ S as T s H' v Q) :
  wpAny (model S.prog S.w) A (eval x env) (λa s₁=>wpAny (model S.prog S.w) A (eval y env) (λb s₂=>wpAny (model S.prog S.w) A (compareOp o a b) Q E s₂) E s₁) E s:=by
 refine GA e λva H1 vb H2 r e1 e2 dY e=>?_
 cases e
 refine ha e1 ao c1 er hr λwa h1 cX aO T1 x1 aM ra=>?_
 refine hb e2 ao c2 (er.ext x1) aM λwb h2 iE iC T2 x2 bK rb=>?_
 exact lb ao.u dY c0 bK (ra.mono x2.mono) rb λtk=>q _ _ _ _ _ (x1.trans x2) bK (.bool _)
theorem QP{a b:ME}{op:lV}(ha:bw S call d a)(hb:bw S call d b):bw S call d (.cmp op a b):=by
 intro l H H' v e nm sl x s as T env A E Q ao c er hr q
 refine qP c λy o z p c1 c2 c3 c4=>?_
 exact PySem.wpAny_Compare1 (O0 ha hb e ao c1 c3 c4 er hr q) (kB c2 _)
theorem QQ{a b:ME}{op:lV}(ha:bw S call d a)(hb:bw S call d b):mG S call d (.cmp op a b):=by
 intro l H H' v e nm sl x s as T env A E Q ao c er hr q
 refine qP c λy o z p c1 c2 c3 c4=>?_
 refine wpAny_isTrue_Compare1 (O0 ha hb e ao c1 c3 c4 er hr λw h' tk as' T' x' dY vr=>?_) (kB c2 _)
 cases k7 vr
 exact wpAny_truthy_bool (q _ _ _ _ x' dY)
theorem MR{a b z:ME}{op jX:lV}(ha:bw S call d a)(hb:bw S call d b)(hz:bw S call d z):bw S call d (.mn op jX a b z):=by
 intro l H H' v e nm sl x s as T env A E Q ao c er hr q
 refine t9 e λva H1 vb H2 e1 e2 e=>?_
 refine tM c λy o o' z' w p c1 c2 c3 c4 c5 c6=>?_
 refine Compare_chain (ha e1 ao c4 er hr λwa h1 cX aO T1 x1 aM ra=>?_) (kB c3 _)
 refine chain_link (hb e2 ao c5 (er.ext x1) aM λwb h2 iE iC T2 x2 bK rb=>?_)
 rcases e with⟨hc,vc,H3,r,e3,dY,e⟩|⟨hc,e⟩
 ·cases e
  refine lb ao.u hc c1 bK (ra.mono x2.mono) rb λtk=>wpAny_truthy_bool ?_
  rw[if_pos rfl]
  refine chain_last (hz e3 ao c6 ((er.ext x1).ext x2) bK λwc h3 pT nP T3 x3 fN rc=>?_)
  exact lb ao.u dY c2 fN (rb.mono x3.mono) rc λtk=>q _ _ _ _ _ ((x1.trans x2).trans x3) fN (.bool _)
 ·cases e
  refine lb ao.u hc c1 bK (ra.mono x2.mono) rb λtk=>wpAny_truthy_bool ?_
  rw[if_neg wq]
  exact q _ _ _ _ _ (x1.trans x2) bK (.bool _)
theorem MT{a b z:ME}{op jX:lV}(ha:bw S call d a)(hb:bw S call d b)(hz:bw S call d z):mG S call d (.mn op jX a b z):=by
 intro l H H' v e nm sl x s as T env A E Q ao c er hr q
 refine t9 e λva H1 vb H2 e1 e2 e=>?_
 refine tM c λy o o' z' w p c1 c2 c3 c4 c5 c6=>?_
 refine isTrue_chain (ha e1 ao c4 er hr λwa h1 cX aO T1 x1 aM ra=>?_) (kB c3 _)
 refine test_link (hb e2 ao c5 (er.ext x1) aM λwb h2 iE iC T2 x2 bK rb=>?_)
 rcases e with⟨hc,vc,H3,r,e3,dY,e⟩|⟨hc,e⟩
 ·cases e
  refine lb ao.u hc c1 bK (ra.mono x2.mono) rb λtk=>wpAny_truthy_bool ?_
  rw[if_pos rfl]
  refine test_last (hz e3 ao c6 ((er.ext x1).ext x2) bK λwc h3 pT nP T3 x3 fN rc=>?_)
  exact lb ao.u dY c2 fN (rb.mono x3.mono) rc λtk=>wpAny_truthy_bool (q _ _ _ _ ((x1.trans x2).trans x3) fN)
 ·cases e
  refine lb ao.u hc c1 bK (ra.mono x2.mono) rb λtk=>wpAny_truthy_bool ?_
  rw[if_neg wq]
  exact q _ _ _ _ (x1.trans x2) bK
theorem QR{t a b:ME}(ht:mG S call d t)(ha:bw S call d a)(hb:bw S call d b):bw S call d (.ay t a b):=by
 intro l H H' v e nm sl x s as T env A E Q ao c er hr q
 obtain⟨H1,e⟩:=Ey e
 refine wM c λy z w p c1 c2 c3=>?_
 rcases e with⟨e1,e⟩|⟨e1,e⟩
 ·exact IfExp_ (ht e1 ao c1 er hr λh1 cX aO T1 x1 aM=>ha e ao c2 (er.ext x1) aM (q.from x1))
 ·exact IfExp_ (ht e1 ao c1 er hr λh1 cX aO T1 x1 aM=>hb e ao c3 (er.ext x1) aM (q.from x1))
theorem QS{t a b:ME}(ht:mG S call d t)(ha:mG S call d a)(hb:mG S call d b):mG S call d (.ay t a b):=by
 intro l H H' v e nm sl x s as T env A E Q ao c er hr q
 obtain⟨H1,e⟩:=Ey e
 refine wM c λy z w p c1 c2 c3=>?_
 rcases e with⟨e1,e⟩|⟨e1,e⟩
 ·exact isTrue_IfExp (ht e1 ao c1 er hr λh1 cX aO T1 x1 aM=>ha e ao c2 (er.ext x1) aM (q.from x1))
 ·exact isTrue_IfExp (ht e1 ao c1 er hr λh1 cX aO T1 x1 aM=>hb e ao c3 (er.ext x1) aM (q.from x1))
end
end Mine
namespace Mine
section
variable {S:b0}{call:bX}{d:Nat}
noncomputable def eJ(S:b0)(call:bX)(d:Nat):List ME->Prop
 |[]=>True
 |e::r=>bw S call d e/\mG S call d e/\eJ S call d r
theorem and_bool{P:Pg}:∀{es:List ME}{l:Lo}{H H':Hp}{v:V},jY P call es l H=some (v,H')->∃ b,v=.bool b
 |[],_,_,_,_,e=>by rw[tu] at e;cases e;exact⟨_,rfl⟩
 |_::r,_,_,_,_,e=>by
  rw[tw] at e
  refine ax e λa H1 e1 e=>?_
  split at e
  ·exact and_bool e
  ·cases e;exact⟨_,rfl⟩
  ·cases e
theorem EM:∀{es:List ME},eJ S call d es->∀{l:Lo}{H H':Hp}{v:V},jY S.P call es l H=some (v,H') ->
   ∀⦃nm:bm⦄⦃sl:Sl⦄⦃xs:List Expr⦄⦃s:Shared⦄⦃as:As⦄⦃T:TS⦄⦃env:Env⦄⦃A:Around⦄⦃E Q:Value->Shared->Prop⦄⦃pos:Pos⦄,gy A d->eC S.G es nm sl xs=true->xs≠[]->ER S as T env nm sl l s.heap->HR S as T H s.heap ->
   cJ S as T s H' v Q->wpAny (model S.prog S.w) A (eval (.BoolOp .And xs pos) env) Q E s
 |[],_,_,_,_,_,e=>by
   intro nm sl xs s as T env A E Q pos ao c bn er hr q
   induction xs using List.casesOn with
  |nil=>exact absurd rfl bn
  |cons=>simp[eF,eG] at c
 |e0::r,hA,_,_,_,_,e=>by
   intro nm sl xs s as T env A E Q pos ao c bn er hr q
   obtain⟨he,_,dY⟩:=hA
   rw[tw] at e
   refine ax e λa H1 e1 e=>?_
   induction xs using List.casesOn with
  |nil=>exact absurd rfl bn
  |cons x ys=>
     simp only[eF,eG,dw] at c
     induction ys using List.casesOn with
    |nil=>
       refine BoolOp_one (he e1 ao c.1.2 er hr λw h1 cX aO T1 x1 aM ra=>?_)
       induction r using List.casesOn with
      |cons=>have:=c.2;simp[eF,eG] at this
      |nil=>
        split at e
        ·rw[tu] at e;cases e;exact q _ _ _ _ _ x1 aM ra
        ·cases e;exact q _ _ _ _ _ x1 aM ra
        ·exact nn e
    |cons y zs=>
       refine PyProof.Rows.BoolOp_and (he e1 ao c.1.2 er hr λw h1 cX aO T1 x1 aM ra=>?_)
       split at e
       ·cases k7 ra
        refine wpAny_truthy_bool ?_
        simp only[if_true]
        exact EM dY e ao c.2 (by simp) (er.ext x1) aM (q.from x1)
       ·cases k7 ra
        cases e
        refine wpAny_truthy_bool ?_
        simp only[ww,if_false]
        exact q _ _ _ _ _ x1 aM (.bool _)
       ·exact nn e
theorem EN:∀{es:List ME},eJ S call d es->∀{l:Lo}{H H':Hp}{b:Bool},jY S.P call es l H=some (.bool b,H') ->
   ∀⦃nm:bm⦄⦃sl:Sl⦄⦃xs:List Expr⦄⦃s:Shared⦄⦃as:As⦄⦃T:TS⦄⦃env:Env⦄⦃A:Around⦄⦃E:Value->Shared->Prop⦄⦃Q:Bool->Shared->Prop⦄⦃pos:Pos⦄⦃whole:Sem Value⦄,gy A d->eC S.G es nm sl xs=true->ER S as T env nm sl l s.heap->HR S as T H s.heap ->
   si S as T s H' b Q->wpAny (model S.prog S.w) A (PySem.isTrue (.BoolOp .And xs pos) env whole) Q E s
 |[],_,_,_,_,_,e=>by
   intro nm sl xs s as T env A E Q pos whole ao c er hr q
   rw[tu] at e;cases e
   induction xs using List.casesOn with
  |nil=>exact isTrue_and_nil (q s.heap s.toks as T (.refl ..) hr)
  |cons=>simp[eF,eG] at c
 |e0::r,hA,_,_,_,_,e=>by
   intro nm sl xs s as T env A E Q pos whole ao c er hr q
   obtain⟨_,he,dY⟩:=hA
   rw[tw] at e
   refine ax e λa H1 e1 e=>?_
   induction xs using List.casesOn with
  |nil=>simp[eF,eG] at c
  |cons x ys=>
    simp only[eF,eG,dw] at c
    split at e
    ·exact isTrue_and (he e1 ao c.1.2 er hr λh1 cX aO T1 x1 aM=>EN dY e ao c.2 (er.ext x1) aM (q.from x1))
    ·cases e
     exact isTrue_and (he e1 ao c.1.2 er hr λh1 cX aO T1 x1 aM=>q _ _ _ _ x1 aM)
    ·cases e
theorem JB:∀{es:List ME},eJ S call d es->∀{l:Lo}{H H':Hp}{v:V},pF S.P call es l H=some (v,H') ->
   ∀⦃nm:bm⦄⦃sl:Sl⦄⦃xs:List Expr⦄⦃s:Shared⦄⦃as:As⦄⦃T:TS⦄⦃env:Env⦄⦃A:Around⦄⦃E Q:Value->Shared->Prop⦄⦃pos:Pos⦄,gy A d->eC S.G es nm sl xs=true->xs≠[]->ER S as T env nm sl l s.heap->HR S as T H s.heap ->
   cJ S as T s H' v Q->wpAny (model S.prog S.w) A (eval (.BoolOp .Or xs pos) env) Q E s
 |[],_,_,_,_,_,e=>by
   intro nm sl xs s as T env A E Q pos ao c bn er hr q
   induction xs using List.casesOn with
  |nil=>exact absurd rfl bn
  |cons=>simp[eF,eG] at c
 |e0::r,hA,_,_,_,_,e=>by
   intro nm sl xs s as T env A E Q pos ao c bn er hr q
   obtain⟨he,_,dY⟩:=hA
   rw[El] at e
   refine ax e λa H1 e1 e=>?_
   induction xs using List.casesOn with
  |nil=>exact absurd rfl bn
  |cons x ys=>
     simp only[eF,eG,dw] at c
     induction ys using List.casesOn with
    |nil=>
       refine BoolOp_one (he e1 ao c.1.2 er hr λw h1 cX aO T1 x1 aM ra=>?_)
       induction r using List.casesOn with
      |cons=>have:=c.2;simp[eF,eG] at this
      |nil=>
        split at e
        ·rw[Ek] at e;cases e;exact q _ _ _ _ _ x1 aM ra
        ·cases e;exact q _ _ _ _ _ x1 aM ra
        ·exact nn e
    |cons y zs=>
       refine PyProof.Rows.BoolOp_or (he e1 ao c.1.2 er hr λw h1 cX aO T1 x1 aM ra=>?_)
       split at e
       ·cases k7 ra
        refine wpAny_truthy_bool ?_
        simp only[ww,if_false]
        exact JB dY e ao c.2 (by simp) (er.ext x1) aM (q.from x1)
       ·cases k7 ra
        cases e
        refine wpAny_truthy_bool ?_
        simp only[if_true]
        exact q _ _ _ _ _ x1 aM (.bool _)
       ·exact nn e
theorem JC:∀{es:List ME},eJ S call d es->∀{l:Lo}{H H':Hp}{b:Bool},pF S.P call es l H=some (.bool b,H') ->
   ∀⦃nm:bm⦄⦃sl:Sl⦄⦃xs:List Expr⦄⦃s:Shared⦄⦃as:As⦄⦃T:TS⦄⦃env:Env⦄⦃A:Around⦄⦃E:Value->Shared->Prop⦄⦃Q:Bool->Shared->Prop⦄⦃pos:Pos⦄⦃whole:Sem Value⦄,gy A d->eC S.G es nm sl xs=true->ER S as T env nm sl l s.heap->HR S as T H s.heap ->
   si S as T s H' b Q->wpAny (model S.prog S.w) A (PySem.isTrue (.BoolOp .Or xs pos) env whole) Q E s
 |[],_,_,_,_,_,e=>by
   intro nm sl xs s as T env A E Q pos whole ao c er hr q
   rw[Ek] at e;cases e
   induction xs using List.casesOn with
  |nil=>exact isTrue_or_nil (q s.heap s.toks as T (.refl ..) hr)
  |cons=>simp[eF,eG] at c
 |e0::r,hA,_,_,_,_,e=>by
   intro nm sl xs s as T env A E Q pos whole ao c er hr q
   obtain⟨_,he,dY⟩:=hA
   rw[El] at e
   refine ax e λa H1 e1 e=>?_
   induction xs using List.casesOn with
  |nil=>simp[eF,eG] at c
  |cons x ys=>
    simp only[eF,eG,dw] at c
    split at e
    ·exact isTrue_or (he e1 ao c.1.2 er hr λh1 cX aO T1 x1 aM=>JC dY e ao c.2 (er.ext x1) aM (q.from x1))
    ·cases e
     exact isTrue_or (he e1 ao c.1.2 er hr λh1 cX aO T1 x1 aM=>q _ _ _ _ x1 aM)
    ·cases e
theorem QT{es:List ME}(hA:eJ S call d es):bw S call d (.and es):=by
 intro l H H' v e nm sl x s as T env A E Q ao c er hr q
 have e:jY S.P call es l H=_:=e
 refine wL c λxs p c1 c2=>?_
 exact EM hA e ao c2 (λhn=>by rw[hn] at c1;exact absurd c1 (by decide)) er hr q
theorem QU{es:List ME}(hA:eJ S call d es):mG S call d (.and es):=by
 intro l H H' v e nm sl x s as T env A E Q ao c er hr q
 have e:jY S.P call es l H=_:=e
 refine wL c λxs p c1 c2=>?_
 exact EN hA e ao c2 er hr q
theorem Tp{es:List ME}(hA:eJ S call d es):bw S call d (.or es):=by
 intro l H H' v e nm sl x s as T env A E Q ao c er hr q
 have e:pF S.P call es l H=_:=e
 refine Am c λxs p c1 c2=>?_
 exact JB hA e ao c2 (λhn=>by rw[hn] at c1;exact absurd c1 (by decide)) er hr q
theorem Tq{es:List ME}(hA:eJ S call d es):mG S call d (.or es):=by
 intro l H H' v e nm sl x s as T env A E Q ao c er hr q
 have e:pF S.P call es l H=_:=e
 refine Am c λxs p c1 c2=>?_
 exact JC hA e ao c2 er hr q
theorem qV{S:b0}{K:Frag}{f:Value}{first:List Value}{xs:List Expr}{env:Env}{pos:Pos}{A:Around}{E Q:Value->Shared->Prop}{s:Shared}(hk:keepIn K f=true)(hs:noStar xs=true)
  (k:wpAny (model S.prog S.w) A (spliced (backTo pos (starEach xs env))) (λvs s₁=>K.In s₁.heap/\wpAny (model S.prog S.w) A (PySem.call f (first++vs)) Q E s₁) E s):wpAny (model S.prog S.w) A (callWith pos f first (backTo pos (starEach xs env)) []) Q E s:=
 callWith_of (P:=λh=>K.In h) (by rw[hJ hs];rfl) (keeps_K hk) (uq hs k)
theorem ny{S:b0}{id:String}{first:List Value}{xs:List Expr}{env:Env}{pos:Pos}{A:Around}{E Q:Value->Shared->Prop}{s:Shared}(hs:noStar xs=true)
  (k:wpAny (model S.prog S.w) A (spliced (backTo pos (starEach xs env))) (λvs s₁=>wpAny (model S.prog S.w) A (PySem.call (.builtin id) (first++vs)) Q E s₁) E s):wpAny (model S.prog S.w) A (callWith pos (.builtin id) first (backTo pos (starEach xs env)) []) Q E s:=
 callWith_builtin_kwB (hJ hs) rfl (uq hs k)
theorem Ha{S:b0}{id:String}{first:List Value}{xs:List Expr}{env:Env}{pos:Pos}{A:Around}{E Q:Value->Shared->Prop}{s:Shared}(hs:noStar xs=true)
  (k:wpAny (model S.prog S.w) A (spliced (backTo pos (starEach xs env))) (λvs s₁=>wpAny (model S.prog S.w) A (PySem.call (.type id) (first++vs)) Q E s₁) E s):wpAny (model S.prog S.w) A (callWith pos (.type id) first (backTo pos (starEach xs env)) []) Q E s:=
 PyProof.Rows.callWith_type (hJ hs) (uq hs k)
theorem xc(ca:fz S call d){k:Nat}{vs:List V}{H H':Hp}{v:V}(e:call k vs H=some (v,H')){A:Around}{s:Shared}{as:As}{T:TS}{a:Addr}{ws:List Value}{E Q:Value->Shared->Prop}(ao:gy A d)(ha:S.fa[k]?=some a)(hr:HR S as T H s.heap)
  (vv:bq S.fa as T vs ws) (q:cJ S as T s H' v Q):wpAny (model S.prog S.w) A (PySem.call (.ref a) ws) Q E s:=
 wpAny_call (ca e ao.c ha hr vv q)
theorem s_call(C:Cx S)(ca:fz S call d){f:ME}{es:List ME}(hf:bw S call d f)(hl:mH S call d es):bw S call d (.call f es):=by
  intro l H H' v e nm sl x s as T env A E Q ao c er hr q
  refine CB e λk H1 vs H2 e1 e2 e=>?_
  refine tP c λn p xs p' c1 c2=>?_
  refine wpAny_Call_ofName (hf e1 ao c1 er hr λwf h1 cX aO T1 x1 aM rf=>?_)
  cases rf with
 |fn ha=>
   refine qV (C.keep _ _ ha) (eA c2) (hl e2 ao c2 (er.ext x1) aM λws h2 iE iC T2 x2 bK rv=>⟨C.X.keeps bK.base,?_⟩)
   exact xc ca e ao ha bK rv ((q.from x1).from x2)
theorem AP{o:ME}{m:BM}{es:List ME}(ho:bw S call d o)(hl:mH S call d es):bw S call d (.aS o m es):=by
 intro l H H' v e nm sl x s as T env A E Q ao c er hr q
 refine Aq e λov H1 vs H2 e1 hk e2 e=>?_
 refine jK c λy ap xs p c2 c3 c4 c5 c6=>?_
 refine sh m λb1 b2 b3=>?_
 have C3:=hJ (pos:=p) (env:=env) (eA c6)
 refine wpAny_Call_method (pS c4 _ _ _) ?_ c3 b1 b2 b3 (ho e1 ao c5 er hr λwo h1 cX aO T1 x1 aM ro=>?_)
 ·have mJ:(List.all (backTo p (starEach xs env)) λx=>!x.1)=true:=by
   rw[List.all_eq_not_any_not]
   simpa using C3
  simp only[dw,decide_eq_true_eq]
  exact⟨⟨mJ,rfl⟩,by simp;exact nl (am [_] (.d (.s ab) (.n 20) (.d (.n 30) ab .z)) rfl c2)⟩
 ·obtain⟨k1,k2⟩:=Js (s:={ s with heap:=h1,toks:=cX }) hk aM ro
  refine⟨k1,k2,ny (eA c6) (hl e2 ao c6 (er.ext x1) aM λws h2 iE iC T2 x2 bK rv=>?_)⟩
  exact QE e bK (ro.mono x2.mono) rv ((q.from x1).from x2)
theorem EO(C:Cx S){p:Pr}{es:List ME}(hl:mH S call d es):bw S call d (.prim p es):=by
  intro l H H' v e nm sl x s as T env A E Q ao c er hr q
  refine CE e λvs H1 e1 e=>?_
  refine tQ c λpp xs p' c2 c3=>?_
  refine iD c2 λhn g hg c2=>?_
  induction g with
 |pr g=>
    refine wpAny_Call_ofName (ky C er hr hn (C.Qu _ _ hg) (g8 p).1 (g8 p).2 ?_)
    have ev:wpAny (model S.prog S.w) A (spliced (backTo p' (starEach xs env))) (λws s'=>wpAny (model S.prog S.w) A (PySem.call (ub p) ws) Q E s') E s:=
     hl e1 ao c3 er hr λws h1 cX aO T1 x1 aM rv=>Jn ao.handled e aM rv (q.from x1)
    induction p with
   |int|list|range|str=>exact Ha (eA c3) ev
   |_=>exact ny (eA c3) ev
 |_=>exact ff c2
theorem Hb{A:Around}{d:Nat}(ao:gy A d)(a:Addr)(ws:List Value):AM (A.under (.builtin "type.__call__" ⟨.ref a::ws,[]⟩)) d:=by
 refine⟨ao.handled,?_,?_⟩
 ·have:=ao.depth
  have h2:(Code.builtin "type.__call__" ⟨.ref a::ws,[]⟩).weight=1:=by kernel_rfl
  show A.depth+(Code.builtin "type.__call__" ⟨.ref a::ws,[]⟩).weight+4*d+6<=1000
  exact nt (am [_,_,_] (.d (.a (.a ab (.m 4 ac)) (.n 8)) (.n 1000) (.d ar (.n 1) (.d (.s (.n 1000)) (.a (.a (.a ab ar) (.m 4 ac)) (.n 6)) .z))) rfl this (bk h2))
 ·have:=ao.units
  have h2:(Code.builtin "type.__call__" ⟨.ref a::ws,[]⟩).cUnits=1:=by kernel_rfl
  show A.units+(Code.builtin "type.__call__" ⟨.ref a::ws,[]⟩).cUnits+32*d+180<=9900
  exact nt (am [_,_,_] (.d (.a (.a ab (.m 32 ac)) (.n 200)) (.n 9900) (.d ar (.n 1) (.d (.s (.n 9900)) (.a (.a (.a ab ar) (.m 32 ac)) (.n 180)) .z))) rfl this (bk h2))
theorem MU{as:As}{T:TS}:FR S as T [] (λ_=>none):=⟨λi v e=>by simp[km,jc] at e,λx w e=>by simp at e⟩
theorem Hc{aO:As}{T1:TS}{H1:Hp}{h1:Heap}{k:Nat}{Cl:Addr}(aM:HR S aO T1 H1 h1)(c1:k<5)(hC:S.ca[k]?=some Cl) :
    HR S (aO++[(h1.objs.size+1,some h1.objs.size)]) T1 (H1++[.inst k []]) ((h1.push emptyDict).push (instObj Cl h1.objs.size))/\Ext Nil aO T1 h1 (aO++[(h1.objs.size+1,some h1.objs.size)]) T1 ((h1.push emptyDict).push (instObj Cl h1.objs.size))/\VR S.fa (aO++[(h1.objs.size+1,some h1.objs.size)]) T1 (.loc H1.length) (.ref (h1.objs.size+1)):=by
  have kp:∀ b o,h1.get? b=some o->((h1.push emptyDict).push (instObj Cl h1.objs.size)).get? b=some o:=λb o e=>bT _ _ _ (bT _ _ _ e)
  have sz:(h1.push emptyDict).objs.size=h1.objs.size+1:=Heap.size_push ..
  have o1:((h1.push emptyDict).push (instObj Cl h1.objs.size)).get? (h1.objs.size+1)=some (instObj Cl h1.objs.size):=by have:=Heap.get?_push_size (h1.push emptyDict) (o:=instObj Cl h1.objs.size) rfl;rw[sz] at this;exact this
  have o2:((h1.push emptyDict).push (instObj Cl h1.objs.size)).get? h1.objs.size=some emptyDict:=bT _ _ _ (Heap.get?_push_size _ rfl)
  have lo:∀ b∈(h1.objs.size+1)::[h1.objs.size],h1.objs.size<=b:=λb hb=>(fm.mp hb).elim (λe=>e▸eX _) λhb=>bk (dA.mp hb).symm
  refine⟨aM.alloc kp (by simp) lo (.inst (f:=λ_=>none) c1 hC o1 ⟨_,#[],_,o2,rfl,?_,?_,λ_=>rfl⟩ MU),⟨⟨λn q e=>bE e,λ_ _ e=>e⟩,λb o _ _ e=>kp b o e,λb hb _=>hb.elim,λb hb=>?_⟩,.loc (p:=(h1.objs.size+1,some h1.objs.size)) (by rw[gS (by rw[aM.len];exact aC _),aM.len,iu];rfl)⟩
  · intro e he;simp at he
  · first|(intro i j;simp)|simp[UniqKeys]|(intro e he;simp at he)
  · rw[bA] at hb
    refine(eW.mp hb).elim .inl λq=>.inr ?_
    cases e:h1.get? b with
   |none=>rfl
   |some o=>exact absurd (Heap.lt_size e) (fH.mpr (lo b (by simpa [owned] using q)))
theorem JD(C:Cx S)(ca:fz S call d){k:Nat}{es:List ME}(hl:mH S call d es):bw S call d (.new k es):=by
  intro l H H' v e nm sl x s as T env A E Q ao c er hr q
  refine GB e λvs H1 ci e1 yx e2 ev=>wN c λn np xs p' c1 c2 c3=>iD c2 λhn g hg c2=>?_
  induction g with
 |cls g=>
   obtain⟨Cl,hC,hv,_⟩:=C.OY _ _ hg
   have hC:=beq_iff_eq.mp c2▸hC
   refine wpAny_Call_ofName (kY C er hr hn hv ?_)
   refine qV (C.Qv _ _ hC) (eA c3) (hl e1 ao c3 er hr λws h1 cX aO T1 x1 aM rv=>⟨C.X.keeps aM.base,?_⟩)
   obtain⟨VI,EC,ok⟩:=C.cls k Cl c1 hC
   obtain⟨a,ha,hf,ht⟩:=ok.init
   have X:=C.X.keeps aM.base
   refine wpAny_call (make_core (init:=.ref a) (makes_of X ok.makes) (looks_findIn X hf) (λself=>bind_fn X self ht) (.inl rfl) ?_)
   obtain⟨bK,x2,vr⟩:=Hc aM c1 hC
   refine ca e2 (s:={ s with heap:=(h1.push emptyDict).push (instObj Cl h1.objs.size),toks:=cX }) (Hb ao _ _) (bU (yx.symm.trans EC)▸ha) bK (.cons vr (rv.mono x2.mono)) λw h3 pT nP T3 x3 fN VO=>?_
   rw[j2 VO]
   exact⟨rfl,q _ _ _ _ _ ((x1.trans x2).trans x3) fN (ev▸vr.mono x3.mono)⟩
 |_=>exact ff c2
theorem EP(C:Cx S)(ca:fz S call d){o:ME}{m:Nat}{es:List ME}(ho:bw S call d o)(hl:mH S call d es):bw S call d (.bp o m es):=by
 intro l H H' v e nm sl x s as T env A E Q ao c er hr q
 refine CD e λn H1 c0 fs ci k vs H2 e1 hn yx hk e2 e=>?_
 refine tS c λy ap xs p Xs c2 c3 c4 c5 c6=>?_
 have C3:=hJ (pos:=p) (env:=env) (eA c6)
 have QV:methodCallForm (xs.length+([]:List Keyword).length) (backTo p (starEach xs env)) (backToKw p (keywordEach [] env))=true:=by
  have mJ:(List.all (backTo p (starEach xs env)) λx=>!x.1)=true:=by
   rw[List.all_eq_not_any_not]
   simpa using C3
  unfold methodCallForm
  have VP:backToKw p (keywordEach [] env)=[]:=rfl
  rw[VP]
  simp only[dw,decide_eq_true_eq]
  exact⟨⟨mJ,rfl⟩,by simp;exact nl (am [_] (.d (.s ab) (.n 20) (.d (.n 30) ab .z)) rfl c2)⟩
 have Ts:methodCallPos true y env ap p=pure p:=by unfold methodCallPos;simp[c3]
 rw[arm_eval_Call,pS c4]
 refine wpAny_bind (wpAny_mono (ho e1 ao c5 er hr λwo h1 cX aO T1 x1 aM ro=>?_) (λ_ _ e=>e) λ_ _ e=>e)
 refine wpAny_bind (wpAny_standAt ?_)
 unfold methodCall
 rw[QV]
 refine wpAny_bind (wpAny_holding (Jb C aM ro hn yx hk λa ha=>?_))
 refine wpAny_bind (wpAny_of_eq Ts ?_)
 refine qV (C.keep _ _ ha) (eA c6) (hl e2 ao c6 (er.ext x1) aM λws h2 iE iC T2 x2 bK rv=>⟨C.X.keeps bK.base,?_⟩)
 exact xc ca e ao ha bK (.cons (ro.mono x2.mono) rv) ((q.from x1).from x2)
theorem EQ(C:Cx S){o:ME}{k:IK}(ho:bw S call d o):bw S call d (.isin o k):=by
  intro l H H' v e nm sl x s as T env A E Q ao c er hr q
  refine CF e λov b e1 hb QW=>?_
  replace q:=q.GK QW
  refine tT c λn p y pz p' c1 c3 c4 c5=>?_
  refine iD c1 λhn g hg c1=>?_
  induction g with
 |IV=>
    obtain⟨hz,yy⟩:=C.S2 _ hg
    refine wpAny_Call_ofName (ky C er hr hn hz (yy▸wU.1) (yy▸wU.2) ?_)
    refine ny (by simp only[nu,nv,c4,Bool.true_and];rfl) ?_
    refine spliced_more (ho e1 ao c5 er hr λwa h1 cX aO T1 x1 aM ra=>?_) (kA c4 _ _)
    refine iD c3 λG8 g2 MV c3=>?_
    have done:∀ wk,KV S k wk->wpAny (model S.prog S.w) A (PySem.call (.builtin "isinstance") [wa,wk]) Q E { s with heap:=h1,toks:=cX }:=λwk hk=>MK C hb aM ra hk λtk=>q _ _ _ _ _ x1 aM (.bool _)
    have fk:=er.ext x1
    induction g2 with
   |cls j=>
      induction k with
     |cls i=>
       obtain⟨Cl,hC,hv,_⟩:=C.OY _ _ MV
       have hC:=(beq_iff_eq.mp c3)▸hC
       exact spliced_more (kY C fk aM G8 hv (spliced_none (done _ ⟨Cl,hC,rfl⟩)))
     |_=>exact ff c3
   |pr g3=>
      induction k with
     |int=>exact spliced_more (ky C fk aM G8 (C.Qu _ _ MV) (g8 .int).1 (g8 .int).2 (spliced_none (done _ rfl)))
     |str=>exact spliced_more (ky C fk aM G8 (C.Qu _ _ MV) (g8 .str).1 (g8 .str).2 (spliced_none (done _ rfl)))
     |_=>exact ff c3
   |typ g3=>
      induction k with
     |tuple=>exact spliced_more (ky C fk aM G8 (C.S3 _ _ MV) boot_tuple.1 boot_tuple.2 (spliced_none (done _ rfl)))
     |_=>exact ff c3
   |_=>exact ff c3
 |_=>exact ff c1
end
end Mine
namespace Mine
section
variable {S:b0}{call:bX}{d:Nat}{as as':As}{T T':TS}{H H':Hp}{h h':Heap}{s:Shared}{env:Env}{nm:bm}{sl:Sl}{l:Lo}{A:Around}{E:Value->Shared->Prop}
structure gU(S:b0)(as:As)(env:Env)(I:Addr):Prop where
 own:I ∉ owned as
 old:S.h0.get? I=none
 loc:I≠env.locals
 cell:∀ x,env.cells.lookup x≠some I
theorem gU.C4{I:Addr}(f:gU S as env I):¬ EX env I:=λq=>by
 rcases q with q|⟨x,q⟩
 ·exact f.loc q
 ·exact f.cell x q
theorem gU.ext{X:Addr->Prop}{I:Addr}(f:gU S as env I)(e:Ext X as T h as' T' h'){o:Obj}(ho:h.get? I=some o):gU S as' env I:=
 have own:I ∉ owned as':=λq=>by
  rcases e.own I q with z|z
  ·exact f.own z
  ·rw[z] at ho;first|exact nn ho|exact ff ho|exact nn ho
 ⟨own,f.old,f.loc,f.cell⟩
theorem ER.but(x:ER S as T env nm sl l h){I:Addr}(f:gU S as env I)(k:∀ b o,b≠I->h.get? b=some o->h'.get? b=some o):ER S as T env nm sl l h':=by
 obtain⟨m,hn,hm⟩:=x.loc
 refine⟨x.kind,x.glob,x.blt,x.names,x.Ar,x.len,x.nd,⟨m,mE hn λo=>k _ o (cR f.loc),hm⟩,λi y e1=>?_,x.oK,λy c e1=>?_,x.frame,x.cells⟩
 ·obtain⟨c,w,h1,h2,h3⟩:=x.cell i y e1
  exact⟨c,w,h1,ek h2 λo=>k _ o λq=>f.cell y (q▸h1),h3⟩
 ·obtain⟨w,h2⟩:=x.kX y c e1
  exact⟨w,ek h2 λo=>k _ o λq=>f.cell y (q▸e1)⟩
theorem ER.lW(x:ER S as T env nm sl l h):∀ b,EX env b->b ∉ owned as:=λb q=>by
 rcases q with rfl|⟨y,q⟩
 ·exact x.frame.1
 ·exact(x.cells y b q).1
theorem ER.fresh(x:ER S as T env nm sl l h)(hr:HR S as T H h){I:Addr}(hI:h.get? I=none):gU S as env I:=by
  refine⟨λq=>?_,?_,λq=>?_,λy q=>?_⟩
  · obtain⟨o,ho⟩:=hr.alive q;rw[hI] at ho;first|exact nn ho|exact ff ho|exact nn ho
  · cases e:S.h0.get? I with
   |none=>rfl
   |some o=>have:=hr.base I o e;rw[hI] at this;first|exact nn this|exact ff this|exact nn this
  · obtain⟨m,hn,_⟩:=x.loc
    obtain⟨o,ho⟩:=kv hn
    rw[← q,hI] at ho;exact nn ho
  · obtain⟨w,hw⟩:=x.kX y I q
    obtain⟨o,ho⟩:=jM hw
    rw[hI] at ho;first|exact nn ho|exact ff ho|exact nn ho
inductive IR(S:b0)(as:As)(T:TS)(h:Heap):It->Addr->Prop
 |tup {l:List V} {ws:List Value} {I t:Addr} {i:Nat}:h.IsTupleIter I t i->T t (.tup ws)->bq S.fa as T l (ws.drop i)->IR S as T h (.seq l) I
 |str {x:Str} {t:Tok} {I:Addr} {i:Nat} {cs:List Nat}:h.IsStrIter I "str_ascii_iterator" x t i->cs=x.cps.toList.drop i->IR S as T h (.seq (cs.map λc=>.str [c])) I
 |lst {n i:Nat} {I a:Addr}:h.IsListIter I a i->as[n]?=some (a,none)->IR S as T h (.lst n i) I
 |cm {x c:Int} {k:Nat} {I:Addr}:IsRangeIter h I x k c->IR S as T h (.cm x c k) I
theorem IR.kC{it:It}{I:Addr}(x:IR S as T h it I){zg:Prop}(zk:∀ o,(h.get? I=some o)->(o.cls≠.type "tuple")->(o.cls≠.type "list")->(o.cls≠.type "range")->zg):zg:=by
  induction x with
 |tup a _ _=>obtain⟨o,e,c,_⟩:=a;exact zk o e (by rw[c];decide) (by rw[c];decide) (by rw[c];decide)
 |str a _=>obtain⟨o,e,c,_⟩:=a;exact zk o e (by rw[c];decide) (by rw[c];decide) (by rw[c];decide)
 |lst a _=>obtain⟨o,e,c,_⟩:=a;exact zk o e (by rw[c];decide) (by rw[c];decide) (by rw[c];decide)
 |cm a=>exact zk _ a (by intro q;simp at q) (by intro q;simp at q) (by intro q;simp at q)
theorem IR.alive{it:It}{I:Addr}(x:IR S as T h it I):∃ o,h.get? I=some o/\o.cls≠.type "tuple"/\o.cls≠.type "list"/\o.cls≠.type "range":=IR.kC x λo cO cY iJ CC=>⟨o,cO,cY,iJ,CC⟩
theorem IR.keep{it:It}{I:Addr}(x:IR S as T h it I)(m:eO as T as' T')(k:∀ o,h.get? I=some o->h'.get? I=some o):IR S as' T' h' it I:=by
  induction x with
 |tup a b c=>obtain⟨o,e,r⟩:=a;exact .tup ⟨o,k o e,r⟩ (m.tx _ _ b) (c.mono m)
 |str a b=>obtain⟨o,e,r⟩:=a;exact .str ⟨o,k o e,r⟩ b
 |lst a b=>obtain⟨o,e,r⟩:=a;exact .lst ⟨o,k o e,r⟩ (m.GI _ _ b)
 |cm a=>exact .cm (k _ a)
theorem IR.ext{X:Addr->Prop}{it:It}{I:Addr}(x:IR S as T h it I)(e:Ext X as T h as' T' h')(ho:I ∉ owned as)(hX:¬ X I):IR S as' T' h' it I:=x.keep e.mono λo q=>e.kp I o ho hX q
theorem IR.VQ{it:It}{I:Addr}(x:IR S as T h it I)(hr:HR S as T H h)(i:Im):¬ T I i:=by
 refine x.kC λo e a b c=>?_
 exact hr.Au e a b c i
@[elab_as_elim] theorem O1{P:Value->Prop}{l:List V}{w:Value}(x:VR S.fa as T (.tup l) w)(zk:∀ a ws,T a (.tup ws)->l.length<=lim->bq S.fa as T l ws->P (.ref a)):P w:=by
  cases x with
 |tup t hz hv=>exact zk _ _ t hz hv
theorem AQ{v:V}{it:It}{w:Value}{Q:Value->Shared->Prop}(e:gg H v=some it)(hr:HR S as T H s.heap)(vr:VR S.fa as T v w)
   (q:∀ I h',s.heap.get? I=none->(∀ b o,s.heap.get? b=some o->h'.get? b=some o)->IR S as T h' it I->Q (.ref I) { s with heap:=h' }):wpAny (model S.prog S.w) A (pyIter w) Q E s:=by
  induction v using V.casesOn with
 |tup l=>exact O1 vr λa ws ht hz hv=>wpAny_pyIter_tuple (hr.im _ _ ht) (q _ _ kZ (bT _) (bU e▸.tup (i:=0) ⟨_,Heap.get?_push_size _ rfl,rfl,rfl⟩ ht hv))
 |str x=>
   obtain⟨ha,e⟩:=cU e
   refine cz vr λt hz=>wpAny_pyIter_ascii ?_ (q _ _ kZ (bT _) (e▸.str (i:=0) (x:=⟨x.toArray⟩) ⟨_,Heap.get?_push_size _ rfl,rfl,rfl⟩ rfl))
   rw[← Array.all_toList]
   exact ha
 |loc n=>exact bi e λl hl e=>hr.gu hl vr λa ws k hw hp e1 hz hv=>hw▸wpAny_pyIter_list ⟨_,e1,rfl,k,rfl⟩ (q _ _ kZ (bT _) (bU e▸.lst ⟨_,Heap.get?_push_size _ rfl,rfl,rfl⟩ hp))
 |cm a b c=>
   obtain⟨⟨h1,h2,h3⟩,e⟩:=cU e
   refine EI hr (h3▸vr:VR S.fa as T (.cm a b 1) w) λp t u x hw hR=>hw▸wpAny_pyIter_range hR (ui h1 h2) (q _ _ kZ (bT _) (e▸?_))
   rw[uh,h3]
   exact .cm (Heap.get?_push_size _ rfl)
 |_=>exact nn e
noncomputable def MW(S:b0)(as:As)(T:TS)(s:Shared)(I:Addr)(Q:Option Value->Shared->Prop):Option (V×It)->Prop
 |none=>∀ h',Heap.ExtBut I s.heap h'->Q none { s with heap:=h' }
 |some (v,et)=>∀ w h' tk,Heap.ExtBut I s.heap h'->IR S as T h' et I->VR S.fa as T v w->Q (some w) { s with heap:=h',toks:=tk }
theorem MW.of{I:Addr}{Q:Option Value->Shared->Prop}{r r0:Option (V×It)}(q:MW S as T s I Q r)(e:some r0=some r):MW S as T s I Q r0:=bU e▸q
theorem IR.el{it:It}{I:Addr}{P:It->Prop}(x:IR S as T h it I)
   (k1:∀ l ws t i,h.IsTupleIter I t i->T t (.tup ws)->bq S.fa as T l (ws.drop i)->P (.seq l))
   (k2:∀ x t i,h.IsStrIter I "str_ascii_iterator" x t i->P (.seq ((x.cps.toList.drop i).map λc=>.str [c])))
   (k3:∀ n i a,h.IsListIter I a i->as[n]?=some (a,none)->P (.lst n i)) (k4:∀(x c:Int)(k:Nat),IsRangeIter h I x k c->P (.cm x c k)):P it:=by
  induction x with
 |tup a b c=>exact k1 _ _ _ _ a b c
 |str a b=>exact b▸k2 _ _ _ a
 |lst a b=>exact k3 _ _ _ a b
 |cm a=>exact k4 _ _ _ a
theorem pU{it:It}{I:Addr}{r:Option (V×It)}{Q:Option Value->Shared->Prop}(e:dz H it=some r)(x:IR S as T s.heap it I)(hI:I ∉ owned as)(hr:HR S as T H s.heap)(hh:A.handled=none)(q:MW S as T s I Q r):wpAny (model S.prog S.w) A (pyNext (.ref I)) Q E s:=by
  revert e
  refine x.el (P:=λit=>dz H it=some r->_) (λl ws t i a b c e=>?_) (λx t i a e=>?_) (λn i la a b e=>?_) (λx c k a e=>?_)
  · match l,e with
   |[],e=>
      refine wpAny_pyNext_tuple_end hh a (hr.im _ _ b) ?_ (q.of e)
      have:=c.length
      rw[i7] at this
      rw[xZ]
      exact lJ.mpr (Nat.le_of_sub_eq_zero this)
   |v::l,e=>
      obtain⟨u,hu,vu⟩:=c.get 0 (v:=v) rfl
      rw[List.getElem?_drop] at hu
      refine wpAny_pyNext_tuple_item a (hr.im _ _ b) (x:=u) (by rw[xZ];exact hu) λh' a' sb=>q.of e u h' s.toks sb.extBut (.tup a' b ?_) vu
      have:=c.drop 1
      rw[mj] at this
      exact this
  · match hx:x.cps.toList.drop i,e with
   |[],e=>exact wpAny_pyNext_ascii_end hh a (by rw[← Array.getElem?_toList];exact lJ.mpr (oa.mp hx)) (q.of e)
   |c::cs,e=>
      refine wpAny_pyNext_ascii_item a (c:=c) (by rw[← Array.getElem?_toList,← ml,hx];rfl) λh' a' sb=>q.of e _ h' _ sb.extBut (.str a' ?_) (.str [c] _ (show 1<=lim by decide))
      rw[← mj,hx];rfl
  · refine bi e λl hl e=>hr.gu hl (.loc b) λa0 ws k e0 hp e1 hz hv=>?_
    have e1:=Value.ref.inj e0▸e1
    generalize uw:l[i]?=o at e
    match o,e with
   |some v,e=>
      obtain⟨u,hu,vu⟩:=hv.get _ uw
      exact wpAny_pyNext_list_item a ⟨_,e1,rfl,k,rfl⟩ (x:=u) (by rw[xZ];exact hu) λh' a' sb=>q.of e u h' s.toks sb.extBut (.lst a' b) vu
   |none,e=>exact wpAny_pyNext_list_end hh a ⟨_,e1,rfl,k,rfl⟩ (by rw[xZ];exact lJ.mpr (by rw[hv.length];exact lJ.mp uw)) (q.of e)
  · match k,e with
   |0,e=>exact wpAny_pyNext_range_end hh a (by simp) (q.of e)
   |k+1,e=>
      refine wpAny_pyNext_range_item a (n8.mpr (jz k)) λh' a' sb=>q.of e _ h' _ sb.extBut (.cm ?_) (.int _ _)
      rw[show((k+1:Nat):Int)-1=(k:Int) from zM (k:Int) 1] at a'
      exact a'
theorem ux{a c:Addr}{m:Str->Option Value}{u:Option Value}(hn:h.Ns a m)(hc:h.IsCell c u):a≠c:=λq=>by
 obtain⟨oo,es,ep,q1,q2,_⟩:=hn
 obtain⟨o2,q3,q4⟩:=hc
 rw[← q,q1] at q3
 rw[← bU q3,q2] at q4;cases q4
noncomputable def oj(S:b0)(as:As)(T:TS)(s:Shared)(env:Env)(nm:bm)(sl:Sl)(l':Lo)(H':Hp)(Q:Unit->Shared->Prop):Prop:=
 ∀ h' tk as' T',Ext (EX env) as T s.heap as' T' h'->HR S as' T' H' h'->ER S as' T' env nm sl l' h'->Q () { s with heap:=h',toks:=tk }
theorem oj.from{aO:As}{T1:TS}{h1:Heap}{tk:Tok}{l':Lo}{Q:Unit->Shared->Prop}(k:oj S as T s env nm sl l' H' Q)(e:Ext (EX env) as T s.heap aO T1 h1):oj S aO T1 { s with heap:=h1,toks:=tk } env nm sl l' H' Q:=
 λh' ud as' T' e' hr er=>k h' ud as' T' (e.trans e') hr er
theorem uy{X:Addr->Prop}{i:Nat}{v:V}{n:Str}{w:Value}{Q:Unit->Shared->Prop}(hX:X env.locals)(hC:∀ c,sl[i]?=some (some (n,true))->env.cells.lookup n=some c->X c)(x:ER S as T env nm sl l s.heap)(hr:HR S as T H s.heap)(c:cf nm sl i n=true)(vr:VR S.fa as T v w)
   (q:∀ h' tk,Ext X as T s.heap as T h'->HR S as T H h'->ER S as T env nm sl (l.set i (some v)) h'->Q () { s with heap:=h',toks:=tk }):wpAny (model S.prog S.w) A (storeName env n w) Q E s:=by
  refine fU c λb e1 e2=>?_
  have hk:env.kindOf n=some (Cq b):=by unfold Env.kindOf;rw[x.names];exact e2
  have MX:i<l.length:=by rw[x.len];exact(eV.mp e1).1
  induction b with
 |false=>
   obtain⟨m,hn,hm⟩:=x.loc
   refine wpAny_storeName_local hk hn (λh' yy sb=>?_) (by rw[x.kind];rfl)
   have kp:∀ b o,b≠env.locals->s.heap.get? b=some o->h'.get? b=some o:=λb o nb e=>(sb.2 b nb).trans e
   have ex:Ext X as T s.heap as T h':=⟨.refl ..,λb o _ nx e=>kp b o (λq=>nx (q▸hX)) e,λb hb e=>?_,λb hb=>.inl hb⟩
   ·refine q h' _ ex (hr.but kp x.frame.1 x.frame.2 (yq hr hn)) ⟨x.kind,x.glob,x.blt,x.names,x.Ar,by rw[dB];exact x.len,x.nd,⟨_,yy,λj u y f1 f2=>?_⟩,λj y f1=>?_,x.oK,λy c f1=>?_,x.frame,x.cells⟩
    ·by_cases hj:i=j
     ·subst hj
      rw[xT MX] at f1
      cases f1
      rw[e1] at f2
      cases f2
      exact⟨w,by simp,vr⟩
     ·rw[iR hj] at f1
      obtain⟨u',g1,g2⟩:=hm j u y f1 f2
      refine⟨u',?_,g2⟩
      rw[if_neg (λq=>hj (x.nd i j n false false e1 (by rw[← q];exact f2)))];exact g1
    ·obtain⟨c,u,g1,g2,g3⟩:=x.cell j y f1
     refine⟨c,u,g1,ek g2 λo=>kp _ o (ux hn g2).symm,λv' uw=>?_⟩
     ·by_cases hj:i=j
      ·subst hj;rw[e1] at f1;first|exact nn f1|exact ff f1|cases f1
      ·rw[iR hj] at uw
       exact g3 v' uw
    ·obtain⟨u,g2⟩:=x.kX y c f1
     exact⟨u,ek g2 λo=>kp _ o (ux hn g2).symm⟩
   ·by_cases JE:b=env.locals
    ·subst JE
     obtain⟨o,ho⟩:=kv yy
     rw[ho];rfl
    ·rw[sb.2 b JE];exact e
 |true=>
   obtain⟨c,u,h1,h2,h3⟩:=x.cell i n e1
   refine wpAny_storeName_cell x.kind hk h1 h2 λh' QX sb=>?_
   have kp:∀ b o,b≠c->s.heap.get? b=some o->h'.get? b=some o:=λb o nb e=>(sb.2 b nb).trans e
   have VS:env.locals≠c:=x.loc.elim λ_ hn=>ux hn.1 h2
   have ex:Ext X as T s.heap as T h':=⟨.refl ..,λb o _ nx e=>kp b o (λq=>nx (q▸hC c e1 h1)) e,λb hb e=>?_,λb hb=>.inl hb⟩
   ·obtain⟨m,hn,hm⟩:=x.loc
    refine q h' s.toks ex (hr.but kp (x.cells n c h1).1 (x.cells n c h1).2 (GJ hr h2)) ⟨x.kind,x.glob,x.blt,x.names,x.Ar,by rw[dB];exact x.len,x.nd,⟨m,mE hn λo=>kp _ o VS,λj u y f1 f2=>?_⟩,λj y f1=>?_,x.oK,λy c' f1=>?_,x.frame,x.cells⟩
    ·by_cases hj:i=j
     ·subst hj;rw[e1] at f2;first|exact nn f2|exact ff f2|cases f2
     ·rw[iR hj] at f1
      exact hm j u y f1 f2
    ·by_cases hj:i=j
     ·subst hj
      rw[e1] at f1;first|exact nn f1|exact ff f1|cases f1
      refine⟨c,some w,h1,QX,λv' uw=>?_⟩
      rw[xT MX] at uw
      cases uw
      exact⟨w,rfl,vr⟩
     ·obtain⟨c',u',g1,g2,g3⟩:=x.cell j y f1
      refine⟨c',u',g1,ek g2 λo=>kp _ o λq=>?_,λv' uw=>?_⟩
      ·have:=x.oK n y c h1 (q▸g1)
       subst this
       exact hj (x.nd i j n true true e1 f1)
      ·rw[iR hj] at uw
       exact g3 v' uw
    ·by_cases hc:c'=c
     ·subst hc;exact⟨_,QX⟩
     ·obtain⟨u',g2⟩:=x.kX y c' f1
      exact⟨u',ek g2 λo=>kp _ o hc⟩
   ·by_cases JE:b=c
    ·subst JE
     obtain⟨o,ho⟩:=jM QX
     rw[ho];rfl
    ·rw[sb.2 b JE];exact e
theorem kD{i:Nat}{v:V}{n:Str}{w:Value}{Q:Unit->Shared->Prop}(x:ER S as T env nm sl l s.heap)(hr:HR S as T H s.heap)(c:cf nm sl i n=true)(vr:VR S.fa as T v w)
  (q:oj S as T s env nm sl (l.set i (some v)) H Q):wpAny (model S.prog S.w) A (storeName env n w) Q E s:=
 uy (X:=EX env) (.inl rfl) (λc _ h=>.inr ⟨_,h⟩) x hr c vr λh' tk e dY AR=>q h' tk as T e dY AR
theorem Ext.nil{X:Addr->Prop}(e:Ext Nil as T h as' T' h')(x:∀ b,X b->b ∉ owned as):Ext X as T h as' T' h':=Ext.weak (X:=Nil) e x
noncomputable def yI(S:b0)(call:bX)(d:Nat)(t:Tg):Prop:=∀⦃v:V⦄⦃l l':Lo⦄⦃H H':Hp⦄,fc (av S.P call) t v l H=some (l',H') ->
 ∀⦃nm:bm⦄⦃sl:Sl⦄⦃x:Expr⦄⦃s:Shared⦄⦃as:As⦄⦃T:TS⦄⦃env:Env⦄⦃A:Around⦄⦃E:Value->Shared->Prop⦄⦃Q:Unit->Shared->Prop⦄⦃w:Value⦄,gy A d->mz S.G t nm sl x=true->ER S as T env nm sl l s.heap->HR S as T H s.heap->VR S.fa as T v w ->
  oj S as T s env nm sl l' H' Q->wpAny (model S.prog S.w) A (assign x env w) Q E s
noncomputable def xd(S:b0)(call:bX)(d:Nat)(ts:List Tg):Prop:=∀⦃vs:List V⦄⦃l l':Lo⦄⦃H H':Hp⦄,dN (av S.P call) ts vs l H=some (l',H') ->
 ∀⦃nm:bm⦄⦃sl:Sl⦄⦃xs:List Expr⦄⦃s:Shared⦄⦃as:As⦄⦃T:TS⦄⦃env:Env⦄⦃A:Around⦄⦃E:Value->Shared->Prop⦄⦃Q:Unit->Shared->Prop⦄⦃ws:List Value⦄,gy A d->mA S.G ts nm sl xs=true->ER S as T env nm sl l s.heap->HR S as T H s.heap->bq S.fa as T vs ws ->
  oj S as T s env nm sl l' H' Q->wpAny (model S.prog S.w) A (assignInOrder ((assignEach xs env).map (·.2)) ws) Q E s
theorem oj.of{l' l0:Lo}{H0:Hp}{Q:Unit->Shared->Prop}(k:oj S as T s env nm sl l' H' Q)(e:some (l0,H0)=some (l',H')):oj S as T s env nm sl l0 H0 Q:=by cases e;exact k
theorem yJ{i:Nat}:yI S call d (.loc i):=by
 intro v l l' H H' e nm sl x s as T env A E Q w ao c er hr vr q
 refine wP c λn p c=>?_
 exact assign_Name (kD er hr c vr (q.of e))
theorem MY(C:Cx S){o:ME}{a:Nat}(ho:bw S call d o):yI S call d (.attr o a):=by
 intro v l l' H H' e nm sl x s as T env A E Q w ao c er hr vr q
 refine CM e λov H1 e1 hs hl=>?_
 rw[← hl] at q
 refine tY c λy p ca co=>?_
 refine wpAny_bind (wpAny_holding (wpAny_mono (ho e1 ao co er hr λwo h1 cX aO T1 x1 aM ro=>?_) (λ_ _ e=>e) λ_ _ e=>e))
 refine wpAny_bind (wpAny_standAt (wpAny_bind (wpAny_holding ?_)))
 refine Ax C aM ro (vr.mono x1.mono) ca hs λh2 iE iC T2 x2 bK=>wpAny_release ?_
 have fk:=er.ext x1
 exact q _ _ _ _ ((x1.nil er.lW).trans (x2.nil fk.lW)) bK (fk.ext x2)
theorem QY{o i:ME}(ho:bw S call d o)(hi:bw S call d i):yI S call d (.idx o i):=by
 intro v l l' H H' e nm sl x s as T env A E Q w ao c er hr vr q
 refine GH e λov H1 iv H2 e1 e2 hs hl=>?_
 rw[← hl] at q
 refine wQ c λy z p _ co ci=>?_
 refine wpAny_bind (wpAny_holding (wpAny_mono (ho e1 ao co er hr λwo h1 cX aO T1 x1 aM ro=>?_) (λ_ _ e=>e) λ_ _ e=>e))
 refine wpAny_bind (wpAny_holding (wpAny_mono (hi e2 ao ci (er.ext x1) aM λwi h2 iE iC T2 x2 bK ri=>?_) (λ_ _ e=>e) λ_ _ e=>e))
 refine wpAny_bind (wpAny_standAt (wpAny_bind (wpAny_holding ?_)))
 refine Jj hs bK (ro.mono x2.mono) ri (vr.mono (x1.trans x2).mono) λh3 pT nP T3 x3 fN=>wpAny_release ?_
 have sD:=er.ext (x1.trans x2)
 exact q _ _ _ _ (((x1.trans x2).nil er.lW).trans (x3.nil sD.lW)) fN (sD.ext x3)
theorem uz{it t:Addr}{items:Array Value}(bn:t≠it):∀(n i:Nat)(s:Shared)(Q:List Value->Shared->Prop),s.heap.IsListIter it t i->s.heap.IsList t items->i+n<=items.size ->
  (∀ h',h'.IsListIter it t (i+n)->Heap.SameBut it s.heap h'->Q ((items.toList.drop i).take n) { s with heap:=h' })->wpAny (model S.prog S.w) A (draw (.ref it) n) Q E s
 |0,i,s,Q,hit,_,_,hQ=>by
  show wpAny _ _ (pure []) Q E s
  exact wpAny_pure (by simpa using hQ s.heap hit (Heap.SameBut.refl ..))
 |n+1,i,s,Q,hit,ht,hle,hQ=>by
  have vR:i<items.size:=by exact nl (am [_,_,_] (.d (.a ab (.s ac)) ar (.d ar ab .z)) rfl hle)
  show wpAny _ _ (pyNext (.ref it) >>= _) Q E s
  refine wpAny_bind (wpAny_pyNext_list_item hit ht (x:=items[i]) (by simp[vR]) λh₁ JF JG=>?_)
  refine wpAny_bind (wpAny_holding (uz bn n (i+1) _ _ JF (ht.extBut JG.extBut bn) (by exact nt (am [_,_,_] (.d (.a ab (.s ac)) ar (.d (.s ar) (.a (.s ab) ac) .z)) rfl hle)) λh₂ Tt VU=>wpAny_pure ?_))
  have hd:items.toList.drop i=items[i]::items.toList.drop (i+1):=by simp[List.drop_eq_getElem_cons,vR]
  have:=hQ h₂ (by rw[show i+(n+1)=i+1+n by exact kS [_,_] (.a ab (.s ac)) (.a (.s ab) ac) rfl];exact Tt) (JG.trans VU)
  rw[hd,List.take_succ_cons] at this
  exact this
theorem yK{t:Addr}{items:Array Value}{Q:List Value->Shared->Prop}(hh:A.handled=none)(ht:s.heap.IsList t items)
  (hQ:∀ h',Heap.ExtBut s.heap.objs.size s.heap h'->Q items.toList { s with heap:=h' }):wpAny (model S.prog S.w) A (unpackItems (.ref t) items.size none) Q E s:=by
 have vR:t≠s.heap.objs.size:=by obtain⟨o,ho,_⟩:=ht;exact dt (Heap.lt_size ho)
 unfold unpackItems
 refine wpAny_bind ?_
 unfold notIterableAtAll
 refine wpAny_bind (wpAny_specialOf ht.typeIs PySem.F.slot_list_iter.lookup ?_)
 refine wpAny_pure ?_
 simp only[ww,if_false]
 refine wpAny_bind (wpAny_holding (wpAny_pyIter_list ht ?_))
 refine wpAny_bind (wpAny_holding (uz vR items.size 0 _ _ ⟨_,Heap.get?_push_size _ rfl,rfl,rfl⟩ (ht.push _) (by exact nt (am [_] (.d (.s ab) (.a (.n 0) ab) .z) rfl)) λh₁ JF JG=>?_))
 have mJ:List.take items.size (List.drop 0 items.toList)=items.toList:=by
  rw[List.drop_zero];exact List.take_of_length_le (by simp)
 rw[mJ]
 rw[if_neg (by simp)]
 have VV:h₁.IsList t items:=(ht.push _).extBut JG.extBut vR
 refine wpAny_bind (wpAny_holding (wpAny_pyNext_list_end hh JF VV (by simp) λh₂ VW=>?_))
 simp only[Option.isSome_none,ww,if_false]
 exact wpAny_pure (hQ h₂ λb o hb e=>VW b o hb (JG.extBut b o hb (Heap.get?_push_of_some _ e)))
theorem uA{v:V}{vs:List V}{w:Value}{Q:List Value->Shared->Prop}{n:Nat}(e:jH H v=some vs)(hn:n=vs.length)(hh:A.handled=none)(hr:HR S as T H s.heap)(vr:VR S.fa as T v w)
   (q:∀ ws h',bq S.fa as T vs ws->(∀ b o,s.heap.get? b=some o->h'.get? b=some o)->Q ws { s with heap:=h' }):wpAny (model S.prog S.w) A (unpackItems w n none) Q E s:=by
  have low:∀{h':Heap},Heap.ExtBut s.heap.objs.size s.heap h'->∀ b o,s.heap.get? b=some o->h'.get? b=some o:=λx b o e=>x b o (dt (Heap.lt_size e)) e
  have sz:∀{l:List V}{ws:List Value},some l=some vs->bq S.fa as T l ws->n=ws.toArray.size:=λe hv=>by rw[hn,gp,hv.length,bU e]
  induction v using V.casesOn with
 |tup l=>exact O1 vr λa ws ht hz hv=>sz e hv▸wpAny_unpackItems_tuple hh (hr.im _ _ ht) λh' x=>q ws h' (bU e▸hv) (low x)
 |loc n'=>exact bi e λl hl e=>hr.gu hl vr λa ws k hw hp e1 hz hv=>hw▸sz e hv▸yK hh ⟨_,e1,rfl,k,rfl⟩ λh' x=>q ws h' (bU e▸hv) (low x)
 |_=>exact nn e
theorem oP{ev:ME->Lo->Hp->Option (V×Hp)}:∀{ts:List Tg}{vs:List V}{l l':Lo}{H H':Hp},dN ev ts vs l H=some (l',H')->ts.length=vs.length
 |[],[],_,_,_,_,_=>rfl
 |[],_::_,_,_,_,_,e=>nn e
 |_::_,[],_,_,_,_,e=>nn e
 |t::ts,v::vs,_,_,_,_,e=>by
  rw[pG] at e
  unfold z3 at e
  split at e
  ·rw[cw,cw,oP e]
  ·first|exact ff e|exact nn e|exact nn e
theorem nz{G:Str->Option GV}{t:Tg}{x:Expr}(c:mz G t nm sl x=true):notStar x=true:=by
  induction t using Tg.casesOn with
 |loc=>refine wP c ?_;intros;rfl
 |attr=>refine tY c ?_;intros;rfl
 |idx=>refine wQ c ?_;intros;rfl
 |tup=>refine wR c ?_;intros;rfl
theorem uB{x:Expr}{xs:List Expr}(h:notStar x=true):assignEach (x::xs) env=(false,assign x env)::assignEach xs env:=by
 induction x using PySem.Expr.casesOn <;> first|rfl|exact ff h
theorem oQ{G:Str->Option GV}:∀{ts:List Tg}{xs:List Expr},mA G ts nm sl xs=true->(assignEach xs env).length=ts.length/\(assignEach xs env).findIdx? (·.1)=none
 |[],xs,c=>by cases Ao c;exact⟨rfl,rfl⟩
 |t::ts,xs,c=>by
  refine sa c λx xs c1 c2=>?_
  obtain⟨h2,h3⟩:=oQ c2
  rw[uB (nz c1)]
  refine⟨by rw[cw,cw,h2],?_⟩
  rw[List.findIdx?_cons,if_neg wq,h3];rfl
theorem JH:xd S call d []:=by
  intro vs l l' H H' e nm sl xs s as T env A E Q ws ao c er hr vr q
  induction vs using List.casesOn with
 |nil=>
   rw[z4] at e;first|exact nn e|exact ff e|cases e
   cases vr
   cases Ao c
   exact wpAny_pure (q s.heap s.toks as T (.refl ..) hr er)
 |cons=>exact nn e
theorem ES{t:Tg}{ts:List Tg}(ht:yI S call d t)(QZ:xd S call d ts):xd S call d (t::ts):=by
  intro vs l l' H H' e nm sl xs s as T env A E Q ws ao c er hr vr q
  cases vr with
 |nil=>exact nn e
 |@cons v0 w1 l0 JJ v1 v2=>
   refine pP (m:=fc (av S.P call) t v0 l H) e λl1 H1 e1 e=>?_
   refine sa c λx xs c1 c2=>?_
   rw[uB (nz c1)]
   show wpAny _ A (do holding JJ (assign x env w1);assignInOrder ((assignEach xs env).map (·.2)) JJ) Q E s
   refine wpAny_bind (wpAny_holding (ht e1 ao c1 er hr v1 λh' tk as' T' x' dY AR=>?_))
   exact QZ e ao c2 AR dY (v2.mono x'.mono) (q.from x')
theorem JK{ts:List Tg}(QZ:xd S call d ts):yI S call d (.tup ts):=by
 intro v l l' H H' e nm sl x s as T env A E Q w ao c er hr vr q
 refine wT e λvs hu e=>?_
 refine wR c λxs _ pos c=>?_
 obtain⟨c1,c2⟩:=oQ (env:=env) c
 refine wpAny_bind (wpAny_standAt ?_)
 unfold unpack
 rw[c2]
 refine wpAny_bind (wpAny_holding (uA hu (c1.trans (oP e)) ao.handled hr vr λws h' vv kp=>?_))
 have x0:Ext Nil as T s.heap as T h':=.keep kp
 exact QZ e ao c (er.ext x0) (hr.keep kp) vv ((q.from (tk:=s.toks) (x0.nil er.lW)))
end
end Mine
namespace Mine
inductive yL(S:b0)(as:As)(T:TS):Fl->Flow->Prop
 |next:yL S as T .next .next
 |brk:yL S as T .brk .brk
 |cont:yL S as T .cont .cont
 |ret {v:V} {w:Value}:VR S.fa as T v w->yL S as T (.ret v) (.ret w)
noncomputable def gJ(S:b0)(as:As)(T:TS)(s:Shared)(env:Env)(nm:bm)(sl:Sl)(fl:Fl)(l':Lo)(H':Hp)(Q:Flow->Shared->Prop):Prop:=
 ∀ h' tk as' T' f,Ext (EX env) as T s.heap as' T' h'->HR S as' T' H' h'->ER S as' T' env nm sl l' h'->yL S as' T' fl f->Q f { s with heap:=h',toks:=tk }
noncomputable def pV(S:b0)(call:bX)(d:Nat)(st:MS):Prop:=∀⦃l l':Lo⦄⦃H H':Hp⦄⦃fl:Fl⦄,dD S.P call st l H=some (fl,l',H') ->
 ∀⦃nm:bm⦄⦃sl:Sl⦄⦃x:Stmt⦄⦃s:Shared⦄⦃as:As⦄⦃T:TS⦄⦃env:Env⦄⦃A:Around⦄⦃E:Value->Shared->Prop⦄⦃Q:Flow->Shared->Prop⦄,gy A d->pM S.G st nm sl x=true->ER S as T env nm sl l s.heap->HR S as T H s.heap ->
  gJ S as T s env nm sl fl l' H' Q->wpAny (model S.prog S.w) A (exec x env) Q E s
noncomputable def uC(S:b0)(call:bX)(d:Nat)(b:List MS):Prop:=∀⦃l l':Lo⦄⦃H H':Hp⦄⦃fl:Fl⦄,aQ S.P call b l H=some (fl,l',H') ->
 ∀⦃nm:bm⦄⦃sl:Sl⦄⦃xs:List Stmt⦄⦃s:Shared⦄⦃as:As⦄⦃T:TS⦄⦃env:Env⦄⦃A:Around⦄⦃E:Value->Shared->Prop⦄⦃Q:Flow->Shared->Prop⦄,gy A d->kr S.G b nm sl xs=true->ER S as T env nm sl l s.heap->HR S as T H s.heap ->
  gJ S as T s env nm sl fl l' H' Q->wpAny (model S.prog S.w) A (execs xs env) Q E s
section
variable {S:b0}{call:bX}{d:Nat}{as as':As}{T T':TS}{H H':Hp}{h h':Heap}{s:Shared}{env:Env}{nm:bm}{sl:Sl}{l:Lo}{A:Around}{E:Value->Shared->Prop}
theorem gJ.from{aO:As}{T1:TS}{h1:Heap}{tk:Tok}{fl:Fl}{l':Lo}{Q:Flow->Shared->Prop}(k:gJ S as T s env nm sl fl l' H' Q)(e:Ext (EX env) as T s.heap aO T1 h1):gJ S aO T1 { s with heap:=h1,toks:=tk } env nm sl fl l' H' Q:=
 λh' ud as' T' f e' hr er fr=>k h' ud as' T' f (e.trans e') hr er fr
theorem gJ.of{fl f0:Fl}{l' l0:Lo}{H0:Hp}{Q:Flow->Shared->Prop}(k:gJ S as T s env nm sl fl l' H' Q)(e:(f0,l0,H0)=(fl,l',H')):gJ S as T s env nm sl f0 l0 H0 Q:=by cases e;exact k
theorem gJ.mv{fl:Fl}{l' l0:Lo}{H0:Hp}{Q:Flow->Shared->Prop}(k:gJ S as T s env nm sl fl l' H' Q)(e:some (l0,H0)=some (l',H')):gJ S as T s env nm sl fl l0 H0 Q:=by cases e;exact k
theorem gJ.nN{fl f0:Fl}{l' l0:Lo}{H0:Hp}{Q:Flow->Shared->Prop}(k:gJ S as T s env nm sl fl l' H' Q)(e:some (f0,l0,H0)=some (fl,l',H')):gJ S as T s env nm sl f0 l0 H0 Q:=k.of (bU e)
@[elab_as_elim] theorem yL.el{P:Fl->Flow->Prop}{f:Fl}{g:Flow}(x:yL S as T f g)(k1:P .next .next)(k2:P .brk .brk)(k3:P .cont .cont)(k4:∀ v w,VR S.fa as T v w->P (.ret v) (.ret w)):P f g:=by
  induction x with
 |next=>exact k1
 |brk=>exact k2
 |cont=>exact k3
 |ret h=>exact k4 _ _ h
theorem Q0:uC S call d []:=by
 intro l l' H H' fl e nm sl xs s as T env A E Q ao c er hr q
 rw[Qo] at e;first|exact nn e|exact ff e|cases e
 cases Ms c
 exact wpAny_execs_nil (q s.heap s.toks as T _ (.refl ..) hr er .next)
theorem MZ{st:MS}{b:List MS}(h1:pV S call d st)(h2:uC S call d b):uC S call d (st::b):=by
  intro l l' H H' fl e nm sl xs s as T env A E Q ao c er hr q
  refine Cz c λx ys c1 c2=>?_
  have e:(match dD S.P call st l H with
   |some (.next,l,H)=>aQ S.P call b l H
   |x=>x)=some (fl,l',H'):=e
  generalize e1:dD S.P call st l H=o at e
  match o,e with
 |none,e=>exact nn e
 |some (f,l1,H1),e=>
    refine wpAny_execs_cons (h1 e1 ao c1 er hr λh' tk as' T' g x' dY AR fr=>?_)
    clear e1
    revert e
    exact fr.el (λe=>h2 e ao c2 AR dY (q.from x')) (λe=>q.nN e _ _ _ _ _ x' dY AR .brk) (λe=>q.nN e _ _ _ _ _ x' dY AR .cont) λv w vr e=>q.nN e _ _ _ _ _ x' dY AR (.ret vr)
theorem JL(er:ER S as T env nm sl l h):interactive env=false:=by
 unfold interactive
 rw[er.kind];rfl
theorem uD{x:Expr}(h:fT x=true)(t:Option Expr)(n:Nat):swapsWith x t n env=pure false:=by
 induction x using PySem.Expr.casesOn <;> first|rfl|exact ff h|exact nn h|exact nn h
theorem Q1:pV S call d .bad:=by
 intro l l' H H' fl e;exact nn e
theorem M0{e0:ME}(h0:bw S call d e0):pV S call d (.expr e0):=by
 intro l l' H H' fl e nm sl x s as T env A E Q ao c er hr q
 refine CK e λv H1 e1 e=>?_
 replace q:=q.of e
 refine Cw c λy p c1 c2=>?_
 refine wpAny_Expr_any (h0 e1 ao c2 er hr λw h1 cX aO T1 x1 aM vr=>?_) (JL er) (uD c1 _ _)
 exact q _ _ _ _ _ (x1.nil er.lW) aM (er.ext x1) .next
theorem Q2{e0:ME}(h0:bw S call d e0):pV S call d (.ret e0):=by
 intro l l' H H' fl e nm sl x s as T env A E Q ao c er hr q
 refine GC e λv H1 e1 e=>?_
 replace q:=q.of e
 refine Gi c λy p c=>?_
 exact wpAny_Return_some (h0 e1 ao c er hr λw h1 cX aO T1 x1 aM vr=>q _ _ _ _ _ (x1.nil er.lW) aM (er.ext x1) (.ret vr))
theorem Q3:pV S call d .brk:=by
 intro l l' H H' fl e nm sl x s as T env A E Q ao c er hr q
 replace q:=q.nN e
 refine Mr c λp=>?_
 exact wpAny_Break (q s.heap s.toks as T _ (.refl ..) hr er .brk)
theorem M1:pV S call d .cont:=by
 intro l l' H H' fl e nm sl x s as T env A E Q ao c er hr q
 replace q:=q.nN e
 refine I6 c λp=>?_
 exact wpAny_Continue (q s.heap s.toks as T _ (.refl ..) hr er .cont)
theorem M2{t:ME}{b o:List MS}(ht:mG S call d t)(hb:uC S call d b)(ho:uC S call d o):pV S call d (.ay t b o):=by
 intro l l' H H' fl e nm sl x s as T env A E Q ao c er hr q
 refine Gl c λy z w p c1 c2 c3=>?_
 obtain⟨H1,e⟩:=Mv e
 rcases e with⟨e1,e⟩|⟨e1,e⟩
 ·exact wpAny_If (ht e1 ao c1 er hr λh1 cX aO T1 x1 aM=>hb e ao c2 (er.ext x1) aM (q.from (x1.nil er.lW)))
 ·exact wpAny_If (ht e1 ao c1 er hr λh1 cX aO T1 x1 aM=>ho e ao c3 (er.ext x1) aM (q.from (x1.nil er.lW)))
theorem Hd{M:Model}{Q:Value->Shared->Prop}(x:ER S as T env nm sl l s.heap){i:Nat}{v:V}{n:Str}(c:cf nm sl i n=true)(hv:l[i]?=some (some v))(k:∀ w,VR S.fa as T v w->Q w s):wpAny M A (loadName env n) Q E s:=by
  refine fU c λb e1 e2=>?_
  have hk:env.kindOf n=some (Cq b):=by unfold Env.kindOf;rw[x.names];exact e2
  induction b with
 |false=>
   obtain⟨m,hn,hm⟩:=x.loc
   obtain⟨w,h1,h2⟩:=hm i v n hv e1
   exact wpAny_loadName_local x.kind hk hn h1 (k w h2)
 |true=>
   obtain⟨c,w,h1,h2,h3⟩:=x.cell i n e1
   obtain⟨u,rfl,h5⟩:=h3 v hv
   exact wpAny_loadName_cell x.kind hk h1 h2 (k u h5)
theorem Q4{i:Nat}{op:ki}{e0:ME}(h0:bw S call d e0):pV S call d (.aug i op e0):=by
 intro l l' H H' fl e nm sl x s as T env A E Q ao c er hr q
 refine GF e λa b H1 r ha e1 dY e=>?_
 replace q:=q.of e
 refine Gk c λn np o y p c1 c2 c3=>?_
 refine wpAny_AugAssign_Name (Hd er c2 ha λwa ra=>?_)
 refine h0 e1 ao c3 er hr λwb h1 cX aO T1 x1 aM rb=>?_
 have fk:=er.ext x1
 refine EF dY c1 aM (ra.mono x1.mono) rb λw h2 iE iC T2 x2 bK vr=>?_
 refine kD (fk.ext x2) bK c2 vr λh3 pT nP T3 x3 fN sE=>?_
 exact q _ _ _ _ _ (((x1.trans x2).nil er.lW).trans x3) fN sE .next
theorem M3(C:Cx S){o:ME}{a:Nat}{op:ki}{e0:ME}(ho:bw S call d o)(h0:bw S call d e0):pV S call d (.lM o a op e0):=by
 intro l l' H H' fl e nm sl x s as T env A E Q ao c er hr q
 refine CL e λov H1 u b H2 r H3 e1 hu e2 dY hs e=>?_
 replace q:=q.of e
 refine Cy c λy yp o' z p c1 c3 c4 c5 c6=>?_
 refine wpAny_AugAssign_AttributeAny (ho e1 ao c5 er hr λwo h1 cX aO T1 x1 aM ro=>?_)
 refine Av C aM ro hu λwu iE ru=>?_
 refine h0 e2 ao c6 (s:={ s with heap:=h1,toks:=iE }) (er.ext x1) aM λwb h3 pT nP T3 x3 fN rb=>?_
 refine EF dY c1 fN (ru.mono x3.mono) rb λw h4 QK Tl T4 x4 Jy vr=>?_
 refine Ax C Jy (ro.mono (x3.trans x4).mono) vr c3 hs λh5 Q5 Q6 T5 x5 AS=>?_
 have ex:=((x1.trans x3).trans x4).trans x5
 exact q _ _ _ _ _ (ex.nil er.lW) AS (er.ext ex) .next
theorem uE{y x:Expr}{pos:Pos}{Q:Flow->Shared->Prop}(hy:notStar y=true)(hs:swapsWith x (some y) pos.line env=pure false)(hw:swappedStores [y] x env=pure none)
  (h:wpAny (model S.prog S.w) A (eval x env) (λv s₁=>wpAny (model S.prog S.w) A (assign y env v) (λ_=>Q .next) E s₁) E s):wpAny (model S.prog S.w) A (exec (.Assign [y] x pos) env) Q E s:=by
 refine wpAny_Assign_stores (wpAny_mono h (λv s₁ h₁=>?_) λ_ _ e=>e) hs hw
 have h1:assignEach [y] env=[(false,assign y env)]:=by induction y using PySem.Expr.casesOn <;> first|rfl|exact ff hy|exact nn hy|exact nn hy
 rw[h1]
 exact h₁
theorem M4(ts vs:List Expr)(k k2:Nat)(p p2:Pos)(env:Env):swappedStores [.Tuple ts k p] (.Tuple vs k2 p2) env =
 (if(!(ts.length==2 || ts.length==3) || vs.length != ts.length || env.blockKind != .function)=true then pure none
 else if vs.any isStarred=true then pure none
 else if((ts.filterMap (ko env.scope.names ((ts.head?.map (·.pos.line)).getD 0))).length != ts.length || (ts.filterMap (ko env.scope.names ((ts.head?.map (·.pos.line)).getD 0))).eraseDups.length != (ts.filterMap (ko env.scope.names ((ts.head?.map (·.pos.line)).getD 0))).length)=true then pure none
 else if vs.all (foldedForSure 8)=true then pure none
 else if vs.all (constantsAlone 8)=true then(do unsupported "assign.tuple-of-constant-expressions:order-of-the-stores";pure (some (ts.filterMap (ko env.scope.names ((ts.head?.map (·.pos.line)).getD 0)))))
 else pure (some (ts.filterMap (ko env.scope.names ((ts.head?.map (·.pos.line)).getD 0))))):=rfl
theorem ET{m:Sem (Option (List Str))}{r:Option (List Str)}(h:some none=some r)(p:m=pure none):m=pure r:=by cases h;exact p
theorem JM{m:Sem (Option (List Str))}{c1 c2 c3 c4 c5:Bool}{g:List Str}{r:Option (List Str)}(h:IX c1 c2 c3 c4 c5 g=some r) :
    (if c1=true then pure none else if c2=true then pure none else if c3=true then pure none else if c4=true then pure none else if c5=true then m else pure (some g):Sem (Option (List Str)))=pure r:=by
  induction c1 with
 |true=>cases h;rfl
 |false=>induction c2 with
   |true=>cases h;rfl
   |false=>induction c3 with
     |true=>cases h;rfl
     |false=>induction c4 with
      |true=>cases h;rfl
      |false=>induction c5 with
       |true=>exact nn h
       |false=>cases h;rfl
theorem yM{y x:Expr}{r:Option (List Str)}(hk:env.scope.kind=.function)(h:tC env.scope.names y x=some r):swappedStores [y] x env=pure r:=by
  induction y using PySem.Expr.casesOn with
 |Tuple ts k p=>
    have h:(match (generalizing:=false) x with|.Tuple vs _ _=>tupQ env.scope.names ts vs|_=>some none)=some r:=h
    induction x using PySem.Expr.casesOn with
   |Tuple vs k2 p2=>
     have hb:env.blockKind=.function:=by unfold Env.blockKind;rw[hk];rfl
     rw[M4,hb]
     simp only[bne_self_eq_false,Bool.or_false]
     exact JM h
   |_=>exact ET h rfl
 |List=>exact nn h
 |_=>exact ET h rfl
theorem JN{y x:Expr}{pos:Pos}{ns:List Str}{Q:Flow->Shared->Prop}{ts:List Expr}{k:Nat}{tp:Pos}(hy:y=.Tuple ts k tp)(hs:swapsWith x (some y) pos.line env=pure false)(hw:swappedStores [y] x env=pure (some ns))
  (h:wpAny (model S.prog S.w) A (eval x env) (λv s₁=>wpAny (model S.prog S.w) A (unpackItems v ns.length none) (λitems s₂=>wpAny (model S.prog S.w) A (assignInOrder (ns.reverse.map λn=>bindName env n) items.reverse) (λ_=>Q .next) E s₂) E s₁) E s) :
  wpAny (model S.prog S.w) A (exec (.Assign [y] x pos) env) Q E s:=by
 subst hy
 exact Assign_Tuple_swapped h hs hw
theorem EU{w:Value}{ws:List Value}{ts:List (Value->Sem Unit)}{n:Str}{M:Model}{Q:Unit->Shared->Prop}(h:wpAny M A (storeName env n w) (λ_ s₁=>wpAny M A (assignInOrder ts ws) Q E s₁) E s) :
  wpAny M A (assignInOrder ((λw=>bindName env n w)::ts) (w::ws)) Q E s:=by
 show wpAny M A (do holding ws (bindName env n w);assignInOrder ts ws) Q E s
 exact wpAny_bind (wpAny_holding (wpAny_bindName h))
theorem Q7{i j:Nat}{a b:Str}{v1 v2:V}{w1 w2:Value}{Q:Unit->Shared->Prop}(er:ER S as T env nm sl l s.heap)(hr:HR S as T H s.heap)(hn:a≠b)(c1:cf nm sl i a=true)(c2:cf nm sl j b=true)(r1:VR S.fa as T v1 w1)(r2:VR S.fa as T v2 w2)
  (q:oj S as T s env nm sl ((l.set i (some v1)).set j (some v2)) H Q):wpAny (model S.prog S.w) A (assignInOrder [λw=>bindName env b w,λw=>bindName env a w] [w2,w1]) Q E s:=by
 have My:i≠j:=λq=>by
  refine fU c1 λb1 e1 _=>?_
  refine fU c2 λb2 e2 _=>?_
  rw[q] at e1;rw[e1] at e2;cases e2;exact hn rfl
 refine EU (kD er hr c2 r2 λh1 cX aO T1 x1 aM fk=>?_)
 refine EU (kD fk aM c1 (r1.mono x1.mono) λh2 iE iC T2 x2 bK sD=>?_)
 rw[List.set_comm _ _ (cR My)] at sD
 exact wpAny_pure (q _ _ _ _ (x1.trans x2) bK sD)
end
end Mine
namespace Mine
section
variable {S:b0}{call:bX}{d:Nat}{as as':As}{T T':TS}{H H':Hp}{h h':Heap}{s:Shared}{env:Env}{nm:bm}{sl:Sl}{l:Lo}{A:Around}{E:Value->Shared->Prop}
theorem sn{p:Prop}{ns:List Str}(h:(some none:Option (Option (List Str)))=some (some ns)):p:=by cases h
theorem C5{c1 c2 c3 c4 c5:Bool}{g ns:List Str}(h:IX c1 c2 c3 c4 c5 g=some (some ns)):g=ns/\c3=false:=by
  induction c1 with
 |true=>cases h
 |false=>induction c2 with
   |true=>cases h
   |false=>induction c3 with
    |true=>cases h
    |false=>induction c4 with
     |true=>cases h
     |false=>induction c5 with
      |true=>exact nn h
      |false=>cases h;exact⟨rfl,rfl⟩
theorem C6{y x:Expr}{ns:List Str}(h:tC nm y x=some (some ns)):(∃ ts k p,y=.Tuple ts k p)/\ns.eraseDups.length=ns.length:=by
  induction y using PySem.Expr.casesOn with
 |Tuple ts k p=>
    refine⟨⟨_,_,_,rfl⟩,?_⟩
    have h:(match (generalizing:=false) x with|.Tuple vs _ _=>tupQ nm ts vs|_=>some none)=some (some ns):=h
    induction x using PySem.Expr.casesOn with
   |Tuple vs k2 p2=>
     obtain⟨rfl,h2⟩:=C5 h
     exact Decidable.byContradiction λz=>ff (h2.symm.trans (by rw[bne_iff_ne.mpr z,Bool.or_true]))
   |_=>exact sn h
 |List=>exact nn h
 |_=>exact sn h
theorem Q8{a b:Str}(h:[a,b].eraseDups.length=2):a≠b:=by
 intro q;subst q;simp[List.eraseDups_cons] at h
theorem Q9{ns:List Str}(h:jJ nm sl [] ns=true):ns=[]:=by
  induction ns using List.casesOn with
 |nil=>rfl
 |cons=>exact ff h
theorem pW{i:Nat}{is:List Nat}{ns:List Str}(h:jJ nm sl (i::is) ns=true){zg:Prop}(zk:∀ a r,(ns=a::r)->(cf nm sl i a=true)->(jJ nm sl is r=true)->zg):zg:=by
 obtain⟨a,r,cO,cY,iJ⟩:∃ a r,ns=a::r/\cf nm sl i a=true/\jJ nm sl is r=true:=by
   induction ns using List.casesOn with
  |nil=>exact ff h
  |cons a r=>exact⟨a,r,rfl,ah h⟩
 exact zk a r cO cY iJ
theorem JO{i j:Nat}{ns:List Str}(h:jJ nm sl [i,j] ns=true){zg:Prop}(zk:∀ a b,(ns=[a,b])->(cf nm sl i a=true)->(cf nm sl j b=true)->zg):zg:=by
 refine pW h λa r Ra=>?_
 subst Ra
 intro h1 h
 refine pW h λb r Rc=>?_
 subst Rc
 intro h2 h
 cases Q9 h
 exact zk a b rfl h1 h2
section
variable {ev:ME->Lo->Hp->Option (V×Hp)}{v:V}{l1:Lo}{H2:Hp}
theorem C7{ts:List Tg}(e:fc ev (.tup ts) v l H=some (l1,H2)){zg:Prop}(zk:∀ vs,(jH H v=some vs)->(dN ev ts vs l H=some (l1,H2))->zg):zg:=by
 obtain⟨vs,cO,cY⟩:∃ vs,jH H v=some vs/\dN ev ts vs l H=some (l1,H2):=by
  exact Mw e
 exact zk vs cO cY
theorem AT{vs:List V}(e:dN ev [] vs l H=some (l1,H2)){zg:Prop}(zk:(vs=[])->(l1=l)->(H2=H)->zg):zg:=by
  induction vs using List.casesOn with
 |nil=>rw[z4] at e;cases e;exact zk rfl rfl rfl
 |cons=>exact nn e
theorem so{i:Nat}{ts:List Tg}{vs:List V}(e:dN ev (.loc i::ts) vs l H=some (l1,H2)){zg:Prop}(zk:∀ a r,(vs=a::r)->(dN ev ts r (l.set i (some a)) H=some (l1,H2))->zg):zg:=by
  induction vs using List.casesOn with
 |nil=>exact nn e
 |cons a r=>rw[pG,Em] at e;exact zk a r rfl e
theorem M5{i j:Nat}(e:fc ev (.tup [.loc i,.loc j]) v l H=some (l1,H2)){zg:Prop}(zk:∀ a b,(jH H v=some [a,b])->(l1=(l.set i (some a)).set j (some b))->(H2=H)->zg):zg:=by
 refine C7 e λvs hu e1=>?_
 refine so e1 λa r1 Rd=>?_
 subst Rd
 intro e2
 refine so e2 λb r2 Re=>?_
 subst Re
 intro e3
 refine AT e3 λRf=>?_
 subst Rf
 intro h1 h2
 exact zk a b hu h1 h2
end
theorem EV{t:Tg}{r:Option (Option (List Str))}(h:wD nm sl t r=true):r=some none\/∃ ns i j,r=some (some ns)/\t=.tup [.loc i,.loc j]/\jJ nm sl [i,j] ns=true:=by
  cases r with
 |none=>exact ff h
 |some r=>cases r with
   |none=>exact .inl rfl
   |some ns=>
     have lo:∀{t:Tg}{f:Nat->Bool},(match Cs t with|none=>false|some i=>f i)=true->∃ i,t=.loc i/\f i=true:=by
       intro t f h
       induction t using Tg.casesOn with
      |loc i=>exact⟨i,rfl,h⟩
      |_=>exact ff h
     induction t using Tg.casesOn with
    |tup ts=>
       have h:OU nm sl ts ns=true:=h
       induction ts using List.casesOn with
      |nil=>exact ff h
      |cons t ts=>
         obtain⟨i,rfl,h⟩:=lo h
         induction ts using List.casesOn with
        |nil=>exact ff h
        |cons t ts=>
           obtain⟨j,rfl,h⟩:=lo h
           induction ts using List.casesOn with
          |nil=>exact .inr ⟨ns,i,j,rfl,rfl,h⟩
          |cons=>exact ff h
    |_=>exact ff h
theorem pX{t:Tg}{e0:ME}(ht:yI S call d t)(h0:bw S call d e0){l':Lo}{fl:Fl}(e:dD S.P call (.asg t e0) l H=some (fl,l',H')){y x:Expr}{pos:Pos}{as:As}{T:TS}{Q:Flow->Shared->Prop}(ao:gy A d)
  (c1:mz S.G t nm sl y=true) (c2:aI S.G e0 nm sl x=true) (hc:fT x=true)
  (c3:wD nm sl t (tC nm y x)=true) (er:ER S as T env nm sl l s.heap) (hr:HR S as T H s.heap) (q:gJ S as T s env nm sl fl l' H' Q):wpAny (model S.prog S.w) A (exec (.Assign [y] x pos) env) Q E s:=by
 refine qQ e λv H1 l1 H2 e1 e2 e=>?_
 replace q:=q.of e
 have hs:=uD (env:=env) hc (some y) pos.line
 rcases EV c3 with hq|⟨ns,i,j,hq,rfl,c4⟩
 ·refine uE (nz c1) hs (yM er.kind (er.names▸hq)) (h0 e1 ao c2 er hr λw h1 cX aO T1 x1 aM vr=>?_)
  exact ht e2 ao c1 (er.ext x1) aM vr λh2 iE iC T2 x2 bK sD=>q _ _ _ _ _ ((x1.nil er.lW).trans x2) bK sD .next
 ·obtain⟨⟨ts,k,tp,hy⟩,hd⟩:=C6 hq
  refine JN hy hs (yM er.kind (er.names▸hq)) (h0 e1 ao c2 er hr λw h1 cX aO T1 x1 aM vr=>?_)
  have fk:=er.ext x1
  refine JO c4 λa b Rh=>?_
  subst Rh
  intro g1 g2
  refine M5 e2 λv1 v2 hu Ri=>?_
  subst Ri
  intro Rj
  subst Rj
  refine uA hu rfl ao.handled aM vr λws h2 vv kp=>?_
  refine EH vv λw1 w2 Rk=>?_
  subst Rk
  intro r1 r2
  refine Q7 (fk.ext (.keep kp)) (aM.keep kp) (Q8 hd) g1 g2 r1 r2 λh3 pT nP T3 x3 fN sE=>?_
  exact q _ _ _ _ _ (((x1.trans (.keep kp)).nil er.lW).trans x3) fN sE .next
noncomputable def JQ(X:Lo->Hp->SR)(l2:Lo)(H2:Hp)(r:Fl×Lo×Hp):Fl->Prop
 |.next=>X l2 H2=some r
 |.cont=>X l2 H2=some r
 |.brk=>some (.next,l2,H2)=some r
 |.ret u=>some (.ret u,l2,H2)=some r
theorem M6{t:Lo->Hp->Option (V×Hp)}{b:Lo->Hp->SR}{n:Nat}{r:Fl×Lo×Hp}(e:dj t b (n+1) l H=some r){zg:Prop}(k1:∀ H1,t l H=some (.bool false,H1)->some (.next,l,H1)=some r->zg)
    (k2:∀ H1 f l2 H2,t l H=some (.bool true,H1)->b l H1=some (f,l2,H2)->JQ (dj t b n) l2 H2 r f->zg):zg:=by
  rw[ng] at e
  refine ax e λv H1 e1 e=>?_
  induction v using V.casesOn with
 |bool q=>
    induction q with
   |false=>exact k1 H1 e1 e
   |true=>
      dsimp only at e
      generalize hb:b l H1=o at e
      match o,e with
     |none,e=>exact nn e
     |some (f,l2,H2),e=>exact k2 H1 f l2 H2 e1 hb (by induction f <;> exact e)
 |_=>exact nn e
theorem M7{t:CT}{b:Lo->Hp->SR}{n:Nat}{it:It}{r:Fl×Lo×Hp}(e:dF t b (n+1) it l H=some r){zg:Prop}(k1:dz H it=some none->some (.next,l,H)=some r->zg)
    (k2:∀ v et l1 f l2 H2,dz H it=some (some (v,et))->dX t v l=some l1->b l1 H=some (f,l2,H2)->JQ (dF t b n et) l2 H2 r f->zg):zg:=by
  rw[pH] at e
  generalize hn:dz H it=o at e
  match o,e with
 |none,e=>exact nn e
 |some none,e=>exact k1 hn e
 |some (some (v,et)),e=>
    dsimp only at e
    generalize hs:dX t v l=o at e
    match o,e with
   |none,e=>exact nn e
   |some l1,e=>
      dsimp only at e
      generalize hb:b l1 H=o at e
      match o,e with
     |none,e=>exact nn e
     |some (f,l2,H2),e=>exact k2 v et l1 f l2 H2 hn hs hb (by induction f <;> exact e)
inductive WJ(S:b0)(call:bX)(as:As)(T:TS)(s:Shared)(env:Env)(nm:bm)(sl:Sl)(t:ME)(b:List MS)(fl:Fl)(l':Lo)(H':Hp)(n:Nat):Shared->Prop where
 |mk (h1:Heap) (cX:_) (aO:As) (T1:TS) (l1:Lo) (H1:Hp) (x:Ext (EX env) as T s.heap aO T1 h1) (r:HR S aO T1 H1 h1) (er:ER S aO T1 env nm sl l1 h1) (e:dj (av S.P call t) (λl H=>aQ S.P call b l H) n l1 H1=some (fl,l',H')):WJ S call as T s env nm sl t b fl l' H' n { s with heap:=h1,toks:=cX }
theorem AU{t:ME}{b:List MS}(ht:mG S call d t)(hb:uC S call d b){x:Expr}{y:List Stmt}{R:Result->Shared->Prop}{fl:Fl}{l':Lo}{n:Nat}(ao:gy A d)(c1:aI S.G t nm sl x=true)(c2:kr S.G b nm sl y=true)(er:ER S as T env nm sl l s.heap)(hr:HR S as T H s.heap)
   (e:dj (av S.P call t) (λl H=>aQ S.P call b l H) n l H=some (fl,l',H')) (q:gJ S as T s env nm sl fl l' H' (λf s'=>R (.ok f) s')):codeAny (model S.prog S.w) A (.whileLoop x y [] env) R s:=by
  refine codeAny_whileLoop (WJ S call as T s env nm sl t b fl l' H') (λn s1 hI=>?_) n (.mk s.heap s.toks as T l H (.refl ..) hr er e)
  obtain⟨h1,cX,aO,T1,l1,H1,x1,aM,fk,e⟩:=hI
  generalize notedBy (model S.prog S.w) A env (λe s'=>R (.error e) s')=E1
  induction n using Nat.casesOn with
 |zero=>exact nn e
 |succ n=>
   refine M6 e (λH2 e2 e=>ht e2 ao c1 fk aM λh2 iE iC T2 x2 bK=>?_) (λH2 f l3 H3 e2 e3 e=>ht e2 ao c1 fk aM λh2 iE iC T2 x2 bK=>?_)
   ·exact wpAny_execs_nil (q.nN e _ _ _ _ _ (x1.trans (x2.nil fk.lW)) bK (fk.ext x2) .next)
   ·have M8:=x1.trans (x2.nil fk.lW)
    refine hb e3 ao c2 (fk.ext x2) bK λh3 pT nP T3 g x3 fN sE fr=>?_
    clear e2 e3
    revert e
    exact fr.el (λe=>⟨n,jB n,.mk h3 _ nP T3 _ _ (M8.trans x3) fN sE e⟩) (λe=>q.nN e _ _ _ _ _ (M8.trans x3) fN sE .next) (λe=>⟨n,jB n,.mk h3 _ nP T3 _ _ (M8.trans x3) fN sE e⟩) λv w vr e=>q.nN e _ _ _ _ _ (M8.trans x3) fN sE (.ret vr)
theorem M9{t:ME}{b:List MS}(ht:mG S call d t)(hb:uC S call d b):pV S call d (.kj t b):=by
 intro l l' H H' fl e nm sl x s as T env A E Q ao c er hr q
 refine Gm c λy z p c1 c2=>?_
 exact wpAny_While (AU ht hb ao c1 c2 er hr e q)
theorem uF{α:Type}{k:List Nat}{v:α}:∀{es:List (List Nat×α)},bD k es=some v->(k,v)∈es
 |[],e=>nn e
 |(j,u)::r,e=>by
  rw[pA] at e
  by_cases h:(j==k)=true
  ·rw[if_pos h] at e;cases e;cases beq_iff_eq.mp h;exact wh
  ·rw[if_neg h] at e;exact xS _ (uF e)
theorem set_same{α:Type}{v:α}:∀{l:List α}{i:Nat},l[i]?=some v->l.set i v=l
 |[],_,h=>nn h
 |a::r,0,h=>by cases h;rfl
 |a::r,i+1,h=>by rw[List.set_cons_succ,set_same (l:=r) (i:=i) h]
theorem AV{α:Type}{u v:α}:∀{l:List α}{i:Nat},l[i]?=some u->(l.set i v)[i]?=some v
 |[],_,h=>nn h
 |a::r,0,h=>rfl
 |a::r,i+1,h=>AV (l:=r) (i:=i) h
noncomputable def C8(u:List Nat):Bool:=!(Builtin.Str.occurrences ⟨u.toArray⟩ ⟨[40,41].toArray⟩ 0 (⟨u.toArray⟩:Str).length 1).isEmpty
theorem uG{u r:List Nat}(h:bD u iS=some r):(C8 u=(u != r))/\Txt.replace ⟨u.toArray⟩ ⟨[40,41].toArray⟩ ⟨[].toArray⟩=(⟨r.toArray⟩:Str)/\bD r iS=some r/\u.length<=3/\r.length<=3:=by
 have k:∀ p∈iS,(C8 p.1=(p.1 != p.2))/\Txt.replace ⟨p.1.toArray⟩ ⟨[40,41].toArray⟩ ⟨[].toArray⟩=(⟨p.2.toArray⟩:Str)/\bD p.2 iS=some p.2/\p.1.length<=3/\p.2.length<=3:=by decide +kernel
 exact k _ (uF h)
theorem lit_str{a:List Nat}{x:Expr}{Q:Value->Shared->Prop}(c:aI S.G (.lit (.str a)) nm sl x=true)(q:Q (.str ⟨a.toArray⟩ s.toks) { s with toks:=s.toks+1 }):wpAny (model S.prog S.w) A (eval x env) Q E s:=by
  refine qO c λk y z c1=>?_
  induction k with
 |str b=>
   have:=beq_iff_eq.mp (ah c1).1
   subst this
   exact PySem.wpAny_Constant_str q
 |_=>exact ff c1
theorem Na{i:Nat}{u r:List Nat}(hi:l[i]?=some (some (.str u)))(hu:bD u iS=some r){x:Expr}{Q:Value->Shared->Prop}(c:aI S.G (Ag i) nm sl x=true)(er:ER S as T env nm sl l s.heap)(hr:HR S as T H s.heap)(h0:s.toks≠0)
    (q:cJ S as T s H (.str r) Q):wpAny (model S.prog S.w) A (eval x env) Q E s:=by
  refine jK c λy ap xs p c2 c3 c4 c5 c6=>?_
  refine sh .replace λb1 b2 b3=>?_
  have C3:=hJ (pos:=p) (env:=env) (eA c6)
  refine wpAny_Call_method (pS c4 _ _ _) ?_ c3 b1 b2 b3 ?_
  · have mJ:(List.all (backTo p (starEach xs env)) λx=>!x.1)=true:=by
      rw[List.all_eq_not_any_not]
      simpa using C3
    simp only[dw,decide_eq_true_eq]
    exact⟨⟨mJ,rfl⟩,by simp;exact nl (am [_] (.d (.s ab) (.n 20) (.d (.n 30) ab .z)) rfl c2)⟩
  refine nk c5 λn p' c7=>qR er c7 hi λwo vo=>cz vo λt hz=>⟨rfl,(λa q=>by cases q),ny (eA c6) ?_⟩
  obtain⟨f1,f2,f3,f4,f5⟩:=uG hu
  induction xs using List.casesOn with
 |nil=>exact ff c6
 |cons x1 xs=>
    have c8:=ah c6
    induction xs using List.casesOn with
   |nil=>exact ff c8.2
   |cons x2 xs=>
      have c9:=ah c8.2
      induction xs using List.casesOn with
     |cons=>exact ff c9.2
     |nil=>
        refine spliced_more (lit_str (ah c8.1).2 ?_) (kA (ah c8.1).1 _ _)
        refine spliced_more (lit_str (ah c9.1).2 ?_) (kA (ah c9.1).1 _ _)
        refine spliced_none ?_
        refine SC.replaceW h0 (Nat.succ_ne_zero _) (dt (jB _)) (by decide) (by rw[str_len];exact bj f4 (by decide)) (by decide) λt' k=>?_
        rw[f2]
        exact q _ _ _ _ _ (.refl ..) hr (.str r _ (bj f5 (by decide)))
inductive RJ(S:b0)(as:As)(T:TS)(s:Shared)(env:Env)(nm:bm)(sl:Sl)(l:Lo)(H:Hp)(i:Nat)(r:List Nat)(n:Nat):Shared->Prop where
 |mk (h1:Heap) (cX:Tok) (aO:As) (T1:TS) (l1:Lo) (u:List Nat) (x:Ext (EX env) as T s.heap aO T1 h1) (hr:HR S aO T1 H h1) (er:ER S aO T1 env nm sl l1 h1) (hi:l1[i]?=some (some (.str u))) (hu:bD u iS=some r) (hl:l1.set i (some (.str r))=l.set i (some (.str r))) (hn:n=0->u=r):RJ S as T s env nm sl l H i r n { s with heap:=h1,toks:=cX }
theorem He{i:Nat}{u r:List Nat}(hi:l[i]?=some (some (.str u)))(hu:bD u iS=some r){x y e:Expr}{p2:Pos}{R:Result->Shared->Prop}(ao:gy A d)(c1:aI S.G (.cmp .isin (.lit (.str [40,41])) (.loc i)) nm sl x=true)(c2:mz S.G (.loc i) nm sl y=true)
  (c3:aI S.G (Ag i) nm sl e=true) (c4:wE nm sl (.loc i) y e=true) (er:ER S as T env nm sl l s.heap) (hr:HR S as T H s.heap) (q:gJ S as T s env nm sl .next (l.set i (some (.str r))) H (λf s'=>R (.ok f) s')) :
  codeAny (model S.prog S.w) A (.whileLoop x [.Assign [y] e p2] [] env) R s:=by
 refine codeAny_whileLoop (RJ S as T s env nm sl l H i r) (λn s1 hI=>?_) 1 (.mk s.heap s.toks as T l u (.refl ..) hr er hi hu rfl (λh=>absurd h (by decide)))
 obtain⟨h1,cX,aO,T1,l1,u1,x1,aM,fk,Nb,Tu,Nc,VX⟩:=hI
 obtain⟨f1,f2,f3,f4,f5⟩:=uG Tu
 generalize notedBy (model S.prog S.w) A env (λe s'=>R (.error e) s')=E1
 refine qP c1 λz o z2 p k1 k2 k3 k4=>?_
 refine wpAny_isTrue_Compare1 (lit_str k3 (nk k4 λn2 p3 k5=>qR fk k5 Nb λw vr=>cz vr λt hz=>?_)) (kB k2 _)
 cases of_decide_eq_true k1
 refine PyProof.Rows.in_str (wpAny_truthy_bool ?_)
 show ite (C8 u1=true) _ _
 rw[f1]
 by_cases hq:u1=r
 ·rw[if_neg (by rw[hq,bne_self_eq_false];exact wq)]
  have hs:l.set i (some (.str r))=l1:=Nc.symm.trans (set_same (hq▸Nb))
  exact wpAny_execs_nil (q _ _ _ _ _ x1 aM (hs▸fk) .next)
 ·rw[if_pos (bne_iff_ne.mpr hq)]
  have hc:fT e=true:=by refine jK c3 ?_;intros;rfl
  have c5:wD nm sl (.loc i) (tC nm y e)=true:=by
   have h:(bif fT e then wD nm sl (.loc i) (tC nm y e) else Af nm y e (.loc i))=true:=c4
   rw[hc] at h;exact h
  rcases EV c5 with hw|⟨_,_,_,_,hw,_⟩
  ·refine wpAny_execs_cons (uE (nz c2) (uD hc _ _) (yM fk.kind (fk.names▸hw)) (Na Nb Tu c3 fk aM (Nat.succ_ne_zero _) λw h2 iE iC T2 x2 bK vr=>?_))
   refine yJ (call:=λ_ _ _=>none) (v:=.str r) (l:=l1) (H:=H) rfl ao c2 (fk.ext x2) bK vr λh3 pT nP T3 x3 fN sE=>?_
   refine wpAny_execs_nil ⟨0,Nat.pos_of_ne_zero λh=>hq (VX h),.mk h3 pT nP T3 _ r ((x1.trans (x2.nil fk.lW)).trans x3) fN sE (AV Nb) f3 ((rS ..).trans Nc) λ_=>rfl⟩
  ·exact ff (congrArg sS hw).symm
theorem Nf{i:Nat}:pV S call d (.rep i):=by
  intro l l' H H' fl e nm sl x s as T env A E Q ao c er hr q
  have e:(match l[i]? with
   |some (some a)=>mq a λs=>(bD s iS).bind λr=>some (Fl.next,l.set i (some (.str r)),H)
   |_=>none)=some (fl,l',H'):=e
  generalize hi:l[i]?=o at e
  match o,e with
 |none,e=>exact nn e
 |some none,e=>exact nn e
 |some (some a),e=>
    refine rU e λu ha e2=>?_
    clear e
    cases ha
    generalize hu:bD u iS=o2 at e2
    induction o2 with
   |none=>exact nn e2
   |some r=>exact Gp c λx y ex p p2 c1 c2 c3 c4=>wpAny_While (He hi hu ao c1 c2 c3 c4 er hr (q.nN e2))
theorem EW{it:It}{I:Addr}{v:Value}{t:Expr}{Q:Unit->Shared->Prop}(x:IR S as T s.heap it I)(q:Q () s):wpAny (model S.prog S.w) A (letOwnedTupleGo t (.ref I) v) Q E s:=by
 obtain⟨o,ho,n,vs,hc,hd,hn⟩:∃ o,s.heap.get? I=some o/\∃ n vs,o.cls=.type n/\o.data=.fields vs /\
     (["enumerate","zip","dict_itemiterator","dict_reverseitemiterator","odict_iterator","itertools.zip_longest","itertools.pairwise"]:List String).contains n=false:=by
   induction x with
  |tup a _ _=>obtain⟨o,e,c,d⟩:=a;exact⟨o,e,_,_,c,d,by decide⟩
  |str a _=>obtain⟨o,e,c,d⟩:=a;exact⟨o,e,_,_,c,d,by decide⟩
  |lst a _=>obtain⟨o,e,c,d⟩:=a;exact⟨o,e,_,_,c,d,by decide⟩
  |cm a=>exact⟨_,a,_,_,rfl,rfl,by decide⟩
 have go:∀ a:Addr,wpAny (model S.prog S.w) A (do
     let o ← load I
     match o.cls,o.data with
    |.type n,.fields vs=>
      if((["enumerate","zip","dict_itemiterator","dict_reverseitemiterator","odict_iterator","itertools.zip_longest","itertools.pairwise"]:List String).contains n&&vs[0]?==some (rawInt a))=true then do
       rule "for.unpacks-the-owned-tuple"
       updateField I 0 .none
      else pure ()
    |_,_=>pure ():Sem Unit) Q E s:=λa=>by
   refine wpAny_bind (wpAny_load ho ?_)
   rw[hc,hd]
   show wpAny _ A (if(_&&_)=true then _ else _) Q E s
   rw[hn,Bool.false_and,if_neg (by decide)]
   exact wpAny_pure q
 induction t using PySem.Expr.casesOn <;> first|exact wpAny_pure q|(induction v <;> first|exact wpAny_pure q|exact go _)
noncomputable def JR:CT->Tg
 |.one i=>.loc i
 |.many is=>.tup (is.map .loc)
theorem AW:∀ is:List Nat,xd S call d (is.map .loc)
 |[]=>JH
 |_::r=>ES yJ (AW r)
theorem Rl(t:CT):yI S call d (JR t):=by
  induction t with
 |one i=>exact yJ
 |many is=>exact JK (AW is)
theorem lf{ev:ME->Lo->Hp->Option (V×Hp)}:∀{is:List Nat}{vs:List V}{l l':Lo},iA is vs l=some l'->dN ev (is.map .loc) vs l H=some (l',H)
 |[],[],_,_,e=>by rw[oy] at e;cases e;rfl
 |[],_::_,_,_,e=>nn e
 |_::_,[],_,_,e=>nn e
 |i::is,v::vs,_,_,e=>by
  rw[oz] at e
  rw[fR,pG,Em]
  exact lf e
theorem C9{ev:ME->Lo->Hp->Option (V×Hp)}{t:CT}{v:V}{l l':Lo}(e:dX t v l=some l'):fc ev (JR t) v l H=some (l',H):=by
  induction t with
 |one=>cases e;rfl
 |many is=>induction v using V.casesOn with
   |tup vs=>
    show fc ev (.tup (is.map .loc)) (.tup vs) l H=some (l',H)
    rw[Mj]
    exact lf e
   |_=>exact nn e
theorem qW{G:Str->Option GV}:∀{is:List Nat}{es:List Expr},oc nm sl is es=true->mA G (is.map .loc) nm sl es=true
 |[],es,c=>by cases Ew c;rfl
 |i::is,es,c=>by
  refine tZ c λn p es c1 c2=>?_
  exact(lI.mpr ⟨c1,qW c2⟩:(cf nm sl i n&&mA G (is.map .loc) nm sl es)=true)
theorem Rm{G:Str->Option GV}{t:CT}{e:Expr}(c:oe nm sl t e=true):mz G (JR t) nm sl e=true:=by
  induction t with
 |one i=>exact c
 |many is=>
   refine t8 c λxs k p c=>?_
   exact qW c
theorem sp{x:Expr}(h:gH x=true)(env:Env)(v:Value):foldedSetIterable x env v=pure v:=by
 induction x using PySem.Expr.casesOn <;> first|rfl|exact ff h|exact nn h|exact nn h
theorem AX{as aO:As}{T T1:TS}(m:eO as T aO T1){b:Addr}(h:b∈owned as):b∈owned aO:=by
 obtain⟨p,hp,hb⟩:=lH.mp h
 obtain⟨n,hn⟩:=wn hp
 exact lH.mpr ⟨p,pk (m.GI n p hn),hb⟩
theorem Ext.dead{as aO:As}{T T1:TS}{h h1:Heap}(x:Ext Nil as T h aO T1 h1)(aM:HR S aO T1 H' h1){I:Addr}(hI:h1.get? I=none):h.get? I=none:=by
  cases hz:h.get? I with
 |none=>rfl
 |some o=>
   by_cases hm:I∈owned as
   ·obtain⟨q,hq⟩:=aM.alive (AX x.mono hm)
    rw[hI] at hq;first|exact nn hq|exact ff hq|exact nn hq
   ·have:=x.kp I o hm (λz=>z) hz
    rw[hI] at this;first|exact nn this|exact ff this|exact nn this
theorem Ext.off{X:Addr->Prop}{as aO:As}{T T1:TS}{h h1 h2:Heap}{I:Addr}(x:Ext X as T h aO T1 h1)(k:∀ b o,b≠I->h1.get? b=some o->h2.get? b=some o)(hI:h.get? I=none)(hX:¬ X I):Ext X as T h aO T1 h2:=
 ⟨x.mono,λb o n1 n2 e=>k b o (λq=>by rw[q,hI] at e;exact nn e) (x.kp b o n1 n2 e),λb hb e=>by
  obtain⟨o,ho⟩:=zI.mp (x.al b hb e)
  rw[k b o (λq=>hX (q▸hb)) ho];rfl,x.own⟩
theorem HR.iter{it:It}{I:Addr}(hr:HR S as T H h)(x:IR S as T h it I)(f:gU S as env I)(k:Heap.ExtBut I h h'):HR S as T H h':=
 hr.but k f.own f.old (x.VQ hr)
inductive FJ(S:b0)(call:bX)(s:Shared)(env:Env)(nm:bm)(sl:Sl)(I:Addr)(Db:As)(T0:TS)(h0:Heap)(t:CT)(b:List MS)(fl:Fl)(l':Lo)(H':Hp)(n:Nat):Shared->Prop where
 |mk (hn:Heap) (Tv:_) (Hf:As) (Tn:TS) (ln:Lo) (Hn:Hp) (Ro:It) (x:Ext (EX env) Db T0 h0 Hf Tn hn) (r:HR S Hf Tn Hn hn) (er:ER S Hf Tn env nm sl ln hn) (ir:IR S Hf Tn hn Ro I) (f:gU S Hf env I) (e:dF t (λl H=>aQ S.P call b l H) n Ro ln Hn=some (fl,l',H')):FJ S call s env nm sl I Db T0 h0 t b fl l' H' n { s with heap:=hn,toks:=Tv }
theorem Hg{t:CT}{b:List MS}(hb:uC S call d b){y:Expr}{z:List Stmt}{R:Result->Shared->Prop}{I:Addr}{it:It}{fl:Fl}{l':Lo}{n:Nat}{Db:As}{T0:TS}{h0:Heap}(ao:gy A d)(c1:oe nm sl t y=true)(c4:kr S.G b nm sl z=true)(er:ER S as T env nm sl l s.heap)(hr:HR S as T H s.heap)
   (ir:IR S as T s.heap it I) (f:gU S as env I) (x0:Ext (EX env) Db T0 h0 as T s.heap) (Tw:h0.get? I=none) (e:dF t (λl H=>aQ S.P call b l H) n it l H=some (fl,l',H'))
   (q:∀ h' tk as' T' g,Ext (EX env) Db T0 h0 as' T' h'->HR S as' T' H' h'->ER S as' T' env nm sl l' h'->yL S as' T' fl g->R (.ok g) { s with heap:=h',toks:=tk }):codeAny (model S.prog S.w) A (.forLoop y (.ref I) z [] env) R s:=by
  refine codeAny_forLoop_any (FJ S call s env nm sl I Db T0 h0 t b fl l' H') (λn s1 hI=>?_) n (.mk s.heap s.toks as T l H it x0 hr er ir f e)
  obtain⟨hn,Tv,Hf,Tn,ln,Hn,Ro,xn,Ng,Tx,Nh,fn,e⟩:=hI
  generalize notedBy (model S.prog S.w) A env (λe s'=>R (.error e) s')=E1
  have q':∀{f0:Fl}{l0:Lo}{H0:Hp},some (f0,l0,H0)=some (fl,l',H')->∀ h' tk as' T' g,Ext (EX env) Db T0 h0 as' T' h'->HR S as' T' H0 h'->ER S as' T' env nm sl l0 h'->yL S as' T' f0 g->R (.ok g) { s with heap:=h',toks:=tk }:=λe=>by cases e;exact q
  induction n using Nat.casesOn with
 |zero=>exact nn e
 |succ n=>
   refine M7 e (λAY e=>pU AY Nh fn.own Ng ao.handled λh3 k3=>?_) (λu et l3 f l5 H5 AY Tz e5 e=>pU AY Nh fn.own Ng ao.handled λwu h3 pT k3 Rp ru=>EW Rp ?_)
   ·exact wpAny_execs_nil (q' e _ _ _ _ _ (xn.off k3 Tw fn.C4) (Ng.iter Nh fn k3) (Tx.but fn k3) .next)
   ·refine Rl (call:=call) (d:=d) t (C9 Tz) ao (Rm c1) (Tx.but fn k3) (Ng.iter Nh fn k3) ru λh4 QK Tl T4 x4 Jy Rq=>?_
    have Ni:=(xn.off k3 Tw fn.C4).trans x4
    have JS:=Rp.kC λo ho _ _ _=>fn.ext x4 ho
    have Hh:=Rp.ext x4 fn.own fn.C4
    refine hb e5 ao c4 Rq Jy λh5 Q5 Q6 T5 g x5 AS Hi fr=>?_
    have TA:=Hh.kC λo ho _ _ _=>JS.ext x5 ho
    clear AY Tz e5
    revert e
    exact fr.el (λe=>⟨n,jB n,.mk h5 _ Q6 T5 _ _ _ (Ni.trans x5) AS Hi (Hh.ext x5 JS.own JS.C4) TA e⟩) (λe=>q' e _ _ _ _ _ (Ni.trans x5) AS Hi .next) (λe=>⟨n,jB n,.mk h5 _ Q6 T5 _ _ _ (Ni.trans x5) AS Hi (Hh.ext x5 JS.own JS.C4) TA e⟩) λv w vr e=>q' e _ _ _ _ _ (Ni.trans x5) AS Hi (.ret vr)
theorem Nj{t:CT}{e0:ME}{b:List MS}(h0:bw S call d e0)(hb:uC S call d b):pV S call d (.for t e0 b):=by
 intro l l' H H' fl e nm sl x s as T env A E Q ao c er hr q
 refine GD e λv H1 it e1 hit e=>?_
 refine Gn c λy z w p c1 c2 c3 c4=>?_
 refine wpAny_For (h0 e1 ao c3 er hr λw h1 cX aO T1 x1 aM vr=>?_) (sp c2 env)
 have fk:=er.ext x1
 refine AQ hit aM vr λI h2 hI AZ Nl=>?_
 exact Hg hb ao c1 c4 (fk.ext (T':=T1) (as':=aO) (.keep AZ)) (aM.keep AZ) Nl (fk.fresh aM hI) ((x1.trans (.keep AZ)).nil er.lW) (x1.dead aM hI) e λh' tk as' T' g a b c d=>q h' tk as' T' g a b c d
end
end Mine
namespace Mine
section
variable {S:b0}{call:bX}{d:Nat}{as as':As}{T T':TS}{H H':Hp}{h h':Heap}{s:Shared}{env:Env}{nm:bm}{sl:Sl}{l:Lo}{A:Around}{E:Value->Shared->Prop}
theorem Ext.close{X:Addr->Prop}{as aO iC:As}{T T1 T2:TS}{h h1 h2:Heap}(x:Ext Nil as T h aO T1 h1)(y:Ext X aO T1 h1 iC T2 h2)(hX:∀ b,X b->h.get? b=none):Ext Nil as T h iC T2 h2:=by
  refine⟨x.mono.trans y.mono,λb o n1 n2 e=>?_,λb hb=>hb.elim,λb hb=>?_⟩
  · have e1:=x.kp b o n1 n2 e
    refine y.kp b o (λhb=>?_) (λq=>by rw[hX b q] at e;exact nn e) e1
    rcases x.own b hb with q|q
    · exact n1 q
    · rw[q] at e;first|exact nn e|exact ff e|exact nn e
  · rcases y.own b hb with q|q
    · exact x.own b q
    · cases e:h.get? b with
     |none=>exact .inr rfl
     |some o=>
        by_cases ho:b∈owned as
        · exact .inl ho
        · have:=x.kp b o ho (λz=>z) e;rw[q] at this;first|exact nn this|exact ff this|exact nn this
theorem uH{x:Str}:∀{l:List Str},oG x l=true↔x∈l
 |[]=>by simp[Aa,Ab]
 |y::r=>by simp only[Aa,Ab,Bool.or_eq_true,beq_iff_eq,fm,uH]
theorem lh:∀{l:List Str},oH l=true->l.Nodup
 |[],_=>.nil
 |x::r,h=>by
  simp only[IY,IZ,dw,Bool.not_eq_true'] at h
  refine iw.mpr ⟨λq=>?_,lh h.2⟩
  rw[uH.mpr q] at h;cases h.1
theorem hM:∀{nm:bm}{x:Str}{k:NameKind},(nm.map (·.1)).Nodup->(x,k)∈nm->nm.lookup x=some k
 |(y,j)::r,x,k,hn,hm=>by
  obtain⟨h1,h2⟩:=iw.mp hn
  rw[pn]
  rcases fm.mp hm with e|e
  ·cases e;simp
  ·have:x≠y:=λq=>h1 (q▸mf.mpr ⟨_,e,rfl⟩)
   rw[beq_eq_false_iff_ne.mpr this]
   exact hM h2 e
theorem gh:∀{nm:bm}{i:Nat}{x:Str}{b:Bool},(slotsOf nm)[i]?=some (some (x,b))->(x,Cq b)∈nm
 |[],i,x,b,e=>by simp[oJ,g7] at e
 |(y,k)::r,i,x,b,e=>by
    rw[g7] at e
    induction k <;> try exact .tail _ (gh e)
    · induction i using Nat.casesOn with
     |zero=>simp at e;obtain⟨rfl,rfl⟩:=e;exact .head _
     |succ i=>exact .tail _ (gh (by simpa using e))
    · induction i using Nat.casesOn with
     |zero=>simp at e;obtain⟨rfl,rfl⟩:=e;exact .head _
     |succ i=>exact .tail _ (gh (by simpa using e))
theorem mK:∀{nm:bm}{i:Nat}{z:Option (Str×Bool)},(slotsOf nm)[i]?=some z->∃ y,z=some y
 |[],i,z,e=>by simp[oJ,g7] at e
 |(y,k)::r,i,z,e=>by
    rw[g7] at e
    induction k <;> try exact mK e
    · induction i using Nat.casesOn with
     |zero=>simp at e;exact⟨_,e.symm⟩
     |succ i=>exact mK (nm:=r) (i:=i) (by simpa using e)
    · induction i using Nat.casesOn with
     |zero=>simp at e;exact⟨_,e.symm⟩
     |succ i=>exact mK (nm:=r) (i:=i) (by simpa using e)
theorem kE:∀{nm:bm},(nm.map (·.1)).Nodup->∀{i j:Nat}{x:Str}{b c:Bool},(slotsOf nm)[i]?=some (some (x,b))->(slotsOf nm)[j]?=some (some (x,c))->i=j
 |[],_,i,_,_,_,_,e,_=>by simp[oJ,g7] at e
 |(y,k)::r,hn,i,j,x,b,c,e1,e2=>by
  obtain⟨h1,h2⟩:=iw.mp hn
  have no:∀{i:Nat}{c:Bool},(slotsOf r)[i]?=some (some (y,c))->False:=λe=>h1 (mf.mpr ⟨_,gh e,rfl⟩)
  rw[g7] at e1 e2
  induction k <;> try exact kE h2 e1 e2
  ·induction i using Nat.casesOn <;> cases j
   ·rfl
   ·simp at e1 e2;obtain⟨rfl,rfl⟩:=e1;exact(no e2).elim
   ·simp at e1 e2;obtain⟨rfl,rfl⟩:=e2;exact(no e1).elim
   ·rename_i i j
    exact congrArg (· + 1) (kE h2 (i:=i) (j:=j) (x:=x) (b:=b) (c:=c) (by simpa using e1) (by simpa using e2))
  ·induction i using Nat.casesOn <;> cases j
   ·rfl
   ·simp at e1 e2;obtain⟨rfl,rfl⟩:=e1;exact(no e2).elim
   ·simp at e1 e2;obtain⟨rfl,rfl⟩:=e2;exact(no e1).elim
   ·rename_i i j
    exact congrArg (· + 1) (kE h2 (i:=i) (j:=j) (x:=x) (b:=b) (c:=c) (by simpa using e1) (by simpa using e2))
theorem pY{kd:Str->Option NameKind}{x:Str}:∀{ps:List Str}{ws:List Value}{m:Str->Option Value},x ∉ ps->bindL kd (ps.zip ws) m x=m x
 |[],_,_,_=>rfl
 |_::_,[],_,_=>rfl
 |p::ps,w::ws,m,h=>by
  rw[pt,bindL,pY (λq=>h (.tail _ q))]
  split
  ·show(if x=p then some w else m x)=m x
   rw[if_neg (λq:x=p=>h (by rw[q];exact .head _))]
  ·rfl
theorem uI{kd:Str->Option NameKind}{x:Str}{w:Value}:∀{ps:List Str}{ws:List Value}{m:Str->Option Value}{i:Nat},ps.Nodup->ps[i]?=some x->ws[i]?=some w->kd x=some .local->bindL kd (ps.zip ws) m x=some w
 |[],_,_,_,_,e,_,_=>by simp at e
 |_::_,[],_,_,_,_,e,_=>by simp at e
 |p::ps,u::ws,m,0,hn,e1,e2,hk=>by
  simp at e1 e2;subst e1;subst e2
  rw[pt,bindL,pY (iw.mp hn).1,if_pos hk,if_pos rfl]
 |p::ps,u::ws,m,i+1,hn,e1,e2,hk=>by
  rw[pt,bindL]
  exact uI (iw.mp hn).2 (by simpa using e1) (by simpa using e2) hk
theorem pZ{kd:Str->Option NameKind}{x:Str}:∀{ps:List Str}{ws:List Value}{m:Str->Option Value},x ∉ ps->bindC kd (ps.zip ws) m x=m x
 |[],_,_,_=>rfl
 |_::_,[],_,_=>rfl
 |p::ps,w::ws,m,h=>by
  rw[pt,bindC,pZ (λq=>h (.tail _ q))]
  split
  ·rfl
  ·show(if x=p then some w else m x)=m x
   rw[if_neg (λq:x=p=>h (by rw[q];exact .head _))]
theorem uJ{kd:Str->Option NameKind}{x:Str}{w:Value}:∀{ps:List Str}{ws:List Value}{m:Str->Option Value}{i:Nat},ps.Nodup->ps[i]?=some x->ws[i]?=some w->kd x=some .cell->bindC kd (ps.zip ws) m x=some w
 |[],_,_,_,_,e,_,_=>by simp at e
 |_::_,[],_,_,_,_,e,_=>by simp at e
 |p::ps,u::ws,m,0,hn,e1,e2,hk=>by
  simp at e1 e2;subst e1;subst e2
  rw[pt,bindC,pZ (iw.mp hn).1,if_neg (by rw[hk];intro q;cases q),if_pos rfl]
 |p::ps,u::ws,m,i+1,hn,e1,e2,hk=>by
  rw[pt,bindC]
  exact uJ (iw.mp hn).2 (by simpa using e1) (by simpa using e2) hk
theorem jP:∀{nm:bm}{n:Nat}{acc:List (Str×Addr)}{x:Str},((x,NameKind.cell)∈nm\/(acc.lookup x).isSome=true)->((cellsFrom n nm acc).lookup x).isSome=true
 |[],_,_,_,h=>by rcases h with h|h;simp at h;exact h
 |(y,k)::r,n,acc,x,h=>by
  unfold cellsFrom
  split
  ·refine jP ?_
   rcases h with h|h
   ·rcases fm.mp h with e|e
    ·cases e;right;simp[pn]
    ·exact .inl e
   ·right
    rw[pn]
    split
    ·rfl
    ·exact h
  ·rename_i hk
   refine jP ?_
   rcases h with h|h
   ·rcases fm.mp h with e|e
    ·cases e;exact absurd rfl hk
    ·exact .inl e
   ·exact .inr h
theorem A0:∀{ps:List Str}{ws:List Value},ps.Nodup->ws.length=ps.length->ps.filterMap (λn=>((ps.zip ws).lookup n).map (n,·))=ps.zip ws:=by
 have gen:∀(ps:List Str)(ws:List Value)(f:Str->Option Value),ps.Nodup->ws.length=ps.length->(∀(i:Nat)(x:Str)(w:Value),ps[i]?=some x->ws[i]?=some w->f x=some w)->ps.filterMap (λn=>(f n).map (n,·))=ps.zip ws:=by
   intro ps
   induction ps with
  |nil=>intro ws f _ _ _;rfl
  |cons p ps ih=>
     intro ws f hn hl hf
     induction ws with
    |nil=>simp at hl
    |cons w ws=>
       rw[List.filterMap_cons,hf 0 p w rfl rfl,pt]
       show(p,w)::_=_
       rw[ih ws f (iw.mp hn).2 (by simpa using hl) λi x u e1 e2=>hf (i+1) x u (by simpa using e1) (by simpa using e2)]
 intro ps ws hn hl
 refine gen ps ws _ hn hl ?_
 have look:∀(ps:List Str)(ws:List Value)(i:Nat)(x:Str)(w:Value),ps.Nodup->ps[i]?=some x->ws[i]?=some w->(ps.zip ws).lookup x=some w:=by
   intro ps
   induction ps with
  |nil=>intro ws i x w _ e;simp at e
  |cons p ps ih=>
     intro ws i x w hn e1 e2
     induction ws using List.casesOn with
    |nil=>simp at e2
    |cons u ws=>
       rw[pt,pn]
       induction i with
      |zero=>simp at e1 e2;subst e1;subst e2;simp
      |succ i=>
        have bn:x≠p:=λq=>(iw.mp hn).1 (q▸pk (by simpa using e1))
        rw[beq_eq_false_iff_ne.mpr bn]
        exact ih ws i x w (iw.mp hn).2 (by simpa using e1) (by simpa using e2)
 exact λi x w e1 e2=>look ps ws i x w hn e1 e2
theorem qX{ps:List Str}{ws:List Value}(hl:ws.length=ps.length):∀ n∈ps,((ps.zip ws).lookup n).isNone=false:=by
  induction ps generalizing ws with
 |nil=>intro n h;simp at h
 |cons p ps ih=>
    intro n h
    induction ws with
   |nil=>simp at hl
   |cons w ws=>
     rw[pt,pn]
     split
     ·rfl
     ·rename_i hb
      refine ih (by simpa using hl) n ?_
      rcases fm.mp h with e|e
      ·subst e;simp at hb
      ·exact e
theorem yN{fd:FuncData}{ws:List Value}(h1:fd.params.posonlyargs=[])(h2:fd.params.vararg=none)(h3:fd.params.kwonlyargs=[])(h4:fd.params.kwarg=none)(h5:fd.defaults=.none)(hn:(fd.params.args.map (·.arg)).Nodup)
  (hl:ws.length=fd.params.args.length):bindArgs fd ⟨ws,[]⟩=pure ((fd.params.args.map (·.arg)).zip ws):=by
 have GO:ws.length=(fd.params.args.map (·.arg)).length:=by rw[cT];exact hl
 have hm:((fd.params.args.map (·.arg)).take ((fd.params.args.map (·.arg)).length)).filter (λn=>(((fd.params.args.map (·.arg)).zip ws).lookup n).isNone)=[]:=by
  rw[List.take_length,List.filter_eq_nil_iff]
  intro n yy
  rw[qX GO n yy];simp
 have hs:seqItems? Value.none=pure none:=rfl
 have hg:decide (ws.length > (fd.params.args.map (·.arg)).length)=false:=decide_eq_false (by omega)
 unfold bindArgs
 simp only[h1,h2,h3,h4,h5,hs,rT,po,ce,List.forIn_nil,pure_bind]
 simp only[Option.getD_none,Array.toList_empty,List.length_nil,List.drop_nil,List.zip_nil_right,List.forIn_nil,Nat.zero_sub,Nat.sub_zero,hg,Bool.false_and,ww,if_false,hm,List.isEmpty_nil,Bool.not_true,pure_bind]
 rw[A0 hn GO]
end
end Mine
namespace Mine
section
variable {S:b0}{as as':As}{T T':TS}{H H':Hp}{h h':Heap}{s:Shared}{env:Env}{nm:bm}{sl:Sl}{l:Lo}{A:Around}{E:Value->Shared->Prop}
theorem kF:∀{ps:List Arg}{sl:Sl},iB ps sl=true->∀{i:Nat}{a:Arg},ps[i]?=some a->∃ b,sl[i]?=some (some (a.arg,b))
 |[],_,_,i,a,e=>by simp at e
 |p::ps,[],h,_,_,_=>ff h
 |p::ps,none::sl,h,_,_,_=>ff h
 |p::ps,some (x,b)::sl,h,i,a,e=>by
   simp only[tE,tF,dw] at h
   induction i using Nat.casesOn with
  |zero=>simp at e;subst e;exact⟨b,by rw[beq_iff_eq.mp h.1];rfl⟩
  |succ i=>
    obtain⟨c,hc⟩:=kF h.2 (i:=i) (a:=a) (by simpa using e)
    exact⟨c,by simpa using hc⟩
theorem A1:∀{ps:List Arg}{sl:Sl},iB ps sl=true->(∀{i j:Nat}{x:Str}{b c:Bool},sl[i]?=some (some (x,b))->sl[j]?=some (some (x,c))->i=j)->(ps.map (·.arg)).Nodup
 |[],_,_,_=>.nil
 |p::ps,[],h,_=>ff h
 |p::ps,none::sl,h,_=>ff h
 |p::ps,some (x,b)::sl,h,hn=>by
  have h':=h
  simp only[tE,tF,dw] at h'
  rw[fR]
  refine iw.mpr ⟨λq=>?_,A1 h'.2 λ{i j x b c} e1 e2=>?_⟩
  ·obtain⟨a,ha,he⟩:=mf.mp q
   obtain⟨i,hi⟩:=wn ha
   obtain⟨c,hc⟩:=kF h'.2 hi
   have:=hn (i:=0) (j:=i+1) (x:=p.arg) (b:=b) (c:=c) (by rw[beq_iff_eq.mp h'.1];rfl) (by rw[← he];simpa using hc)
   exact am [_] (.d (.s ab) (.n 0) .z) rfl (bk (bV this))
  ·have:=hn (i:=i+1) (j:=j+1) (x:=x) (b:=b) (c:=c) (by simpa using e1) (by simpa using e2)
   exact iQ (nt (am [_,_] (.d (.s ab) (.s ac) (.d (.s ac) ab .z)) rfl (bk this))) (nt (am [_,_] (.d (.s ab) (.s ac) (.d (.s ac) ab .z)) rfl (bk (bV this))))
theorem Hj{b:List MS}(h:Ah b=true):b=[.bad]:=by
  induction b using List.casesOn with
 |nil=>exact ff h
 |cons s r=>induction s using MS.casesOn with
   |bad=>induction r using List.casesOn with
    |nil=>rfl
    |cons=>exact ff h
   |_=>exact ff h
theorem Hk{fd:FuncData}{fi:FI}{a:Addr}{vs:List V}{ws:List Value}{s1:Shared}(hr:HR S as T H s.heap)(vv:bq S.fa as T vs ws)(hlen:vs.length=fi.np)(h1:fd.globals=mainGlobals)(h2:fd.builtins=builtinsNs)
    (h3:kq fd.scope=true) (h4:fd.params.args.length=fi.np) (h5:(slotsOf fd.scope.names).length=fi.ns) (h6:iB fd.params.args (slotsOf fd.scope.names)=true) (h7:(fd.scope.names.map (·.1)).Nodup) (JT:(fd.params.args.map (·.arg)).Nodup) (hle:fi.np<=fi.ns)
    (x:InCallC s (callEnvC fd s.heap.objs.size a).locals (bindL (callEnvC fd s.heap.objs.size a).kindOf ((fd.params.args.map (·.arg)).zip ws) λ_=>none) (callEnvC fd s.heap.objs.size a).cells
        (bindC (callEnvC fd s.heap.objs.size a).kindOf ((fd.params.args.map (·.arg)).zip ws) λ_=>none) s1) :
    ER S as T (callEnvC fd s.heap.objs.size a) fd.scope.names (slotsOf fd.scope.names) (vs.map some++List.replicate (fi.ns-fi.np) none) s1.heap:=by
  have fresh:∀ b,s.heap.objs.size<=b->s.heap.get? b=none:=λb hb=>by
    cases e:s.heap.get? b with
   |none=>rfl
   |some o=>exact absurd (Heap.lt_size e) (fH.mpr hb)
  have fr:∀ b,s.heap.get? b=none->b ∉ owned as/\S.h0.get? b=none:=λb hb=>by
    refine⟨λq=>?_,?_⟩
    · obtain⟨o,ho⟩:=hr.alive q;rw[hb] at ho;first|exact nn ho|exact ff ho|exact nn ho
    · cases e:S.h0.get? b with
     |none=>rfl
     |some o=>have:=hr.base b o e;rw[hb] at this;first|exact nn this|exact ff this|exact nn this
  simp only[kq,dw] at h3
  obtain⟨⟨⟨k1,k2⟩,k3⟩,k4⟩:=h3
  have kf:fd.scope.kind=.function:=by
    split at k2
    · rename_i e;exact e
    · first|exact ff k2|exact nn k2|exact nn k2
  have at_:∀{i:Nat}{v:V}{z:Str}{b:Bool},(vs.map some++List.replicate (fi.ns-fi.np) none)[i]?=some (some v)->(slotsOf fd.scope.names)[i]?=some (some (z,b))->∃ w,vs[i]?=some v/\ws[i]?=some w/\VR S.fa as T v w/\(fd.params.args.map (·.arg))[i]?=some z:=by
    intro i v z b e1 e2
    by_cases hi:i<vs.length
    · rw[dh (by rw[cT];exact hi),iy] at e1
      obtain⟨v',h',Rr⟩:=Option.map_eq_some_iff.mp e1
      cases Rr
      obtain⟨w,hw,vr⟩:=vv.get _ h'
      obtain⟨p,hp⟩:∃ p,fd.params.args[i]?=some p:=⟨_,rR (by exact nl (am [_,_,_,_] (.d ab ac (.d ac ar (.d (.s aA) ab (.d ar aA .z)))) rfl (bk hlen) (bk (bV h4)) hi))⟩
      obtain⟨c,hc⟩:=kF h6 hp
      rw[e2] at hc;first|exact nn hc|exact ff hc|cases hc
      exact⟨w,h',hw,vr,by rw[iy,hp];rfl⟩
    · rw[gS (by rw[cT];exact nt (am [_,_] (.d ab ac (.d (.s ac) ab .z)) rfl (fH.mp hi))),List.getElem?_replicate] at e1
      split at e1 <;> cases e1
  have kd:∀{i:Nat}{z:Str}{b:Bool},(slotsOf fd.scope.names)[i]?=some (some (z,b))->(callEnvC fd s.heap.objs.size a).kindOf z=some (Cq b):=λe=>hM h7 (gh e)
  refine⟨kf,h1,h2,rfl,k1,?_,λi j y b c e1 e2=>kE h7 e1 e2,⟨_,x.toInCall.ns,λi v y e1 e2=>?_⟩,λi y e1=>?_,λy z c e1 e2=>?_,λy c e1=>⟨_,x.cell y c e1⟩,fr _ (fresh _ x.toInCall.fresh),λy c e1=>?_⟩
  · rw[aH,cT,List.length_replicate,h5];omega
  · obtain⟨w,g1,g2,g3,g4⟩:=at_ e1 e2
    exact⟨w,uI JT g4 g2 (kd e2),g3⟩
  · obtain⟨c,hc⟩:=zI.mp (jP (n:=s.heap.objs.size+1) (acc:=[]) (x:=y) (nm:=fd.scope.names) (.inl (gh e1)))
    refine⟨c,_,hc,x.cell y c hc,λv hv=>?_⟩
    obtain⟨w,g1,g2,g3,g4⟩:=at_ hv e1
    exact⟨w,uJ JT g4 g2 (kd e1),g3⟩
  · exact name_of_addr x.apart (mem_of_lookup e1) (mem_of_lookup e2)
  · have:=x.above y c (mem_of_lookup e1)
    exact fr _ (fresh _ (bj x.toInCall.fresh (n6 this)))
theorem Dc{d:Nat}(ao:AM A (d+1))(env:Env):gy (A.deeper env) d:=by
 refine⟨ao.handled,?_,?_⟩
 ·have:=ao.depth
  show A.depth+1+4*d+8<=1000
  exact nt (am [_,_] (.d (.a (.a ab (.m 4 (.s ac))) (.n 6)) (.n 1000) (.d (.s (.n 1000)) (.a (.a (.s ab) (.m 4 ac)) (.n 8)) .z)) rfl this)
 ·have:=ao.units
  show A.units+3+32*d+200<=9900
  exact nt (am [_,_] (.d (.a (.a ab (.m 32 (.s ac))) (.n 180)) (.n 9900) (.d (.s (.n 9900)) (.a (.a (.a ab (.n 3)) (.m 32 ac)) (.n 200)) .z)) rfl this)
noncomputable def O3(v:V):Fl->Prop
 |.next=>v=.none
 |.ret u=>v=u
 |_=>False
theorem JU{P:Pg}{d k:Nat}{vs:List V}{v:V}(e:ae P (d+1) k vs H=some (v,H')){zg:Prop}(zk:∀ fi fl l2,P.fns[k]?=some fi->vs.length=fi.np->aQ P (ae P d) fi.body (vs.map some++List.replicate (fi.ns-fi.np) none) H=some (fl,l2,H')->O3 v fl->zg):zg:=by
  rw[ty] at e
  generalize hf:P.fns[k]?=o at e
  match o,e with
 |none,e=>exact nn e
 |some fi,e=>
    dsimp only at e
    by_cases hl:vs.length=fi.np
    · rw[if_pos hl] at e
      generalize hx:aQ P (ae P d) fi.body (vs.map some++List.replicate (fi.ns-fi.np) none) H=o at e
      match o,e with
     |none,e=>exact nn e
     |some (f,l2,H2),e=>
        have key:O3 v f/\H2=H':=by
          induction f with
         |ret u=>exact⟨(mm (bU e)).1.symm,(mm (bU e)).2⟩
         |next=>exact⟨(mm (bU e)).1.symm,(mm (bU e)).2⟩
         |brk=>exact nn e
         |cont=>exact nn e
        exact zk fi f l2 hf hl (key.2▸hx) key.1
    · rw[if_neg hl] at e;exact nn e
theorem JV(C:Cx S)(hB:∀ d,fz S (ae S.P d) d->∀ b,uC S (ae S.P d) d b):∀ d,fz S (ae S.P d) d:=by
  intro d
  induction d with
 |zero=>intro k vs H H' v e;exact nn e
 |succ d ih=>
    intro k vs H H' v e A s as T R a ws ao ha hr vv q
    refine JU e λfi fl l2 VY hlen e1 Rs=>?_
    obtain⟨a',Dd,ck⟩:=C.fns k fi VY
    rcases Bool.or_eq_true_iff.mp ck with ck|ck
    · rw[Hj ck] at e1
      exact nn e1
    split at ck
    · rename_i c0 d0 fd Xu hk
      have p1:=ah ck
      have p2:=ah p1.1
      have p3:=ah p2.1
      have p4:=ah p3.1
      have p5:=ah p4.1
      have p6:=ah p5.1
      have p7:=ah p6.1
      have p8:=ah p7.1
      have p9:=ah p8.1
      have Nn:=ah p9.1
      have No:=ah Nn.1
      have Np:=ah No.1
      have Nq:=ah Np.1
      have Nr:=ah Nq.1
      have Ru:=p2.2
      split at Ru
      · rename_i body Rv
        have VZ:fd.defaults=.none:=by have c5:=No.2;split at c5;rename_i e;exact e;exact ff c5
        have X:=C.X.keeps hr.base
        have Nt:=lh p3.2
        have Nv:=p4.2
        have hle:fi.np<=fi.ns:=by
          rw[← of_decide_eq_true p6.2,← of_decide_eq_true p5.2]
          by_cases hz:fd.params.args.length=0
          · exact nt (am [_,_] (.d ab (.n 0) (.d (.s ac) ab .z)) rfl (bk hz))
          · obtain⟨b,hb⟩:=kF Nv (i:=fd.params.args.length-1) (a:=fd.params.args[fd.params.args.length-1]) (rR (by omega))
            have:=(eV.mp hb).1
            omega
        have JT:(fd.params.args.map (·.arg)).Nodup:=
           A1 Nv λe1 e2=>kE Nt e1 e2
        have hl:ws.length=fd.params.args.length:=by rw[vv.length,hlen,of_decide_eq_true p6.2]
        have Rw:=yN (ws:=ws) (List.isEmpty_iff.mp Nr.1) (Option.isNone_iff_eq_none.mp Nr.2) (List.isEmpty_iff.mp Nq.2) (Option.isNone_iff_eq_none.mp Np.2) VZ JT hl
        have kk:=ah p7.2
        have kf:fd.scope.kind=.function:=by
          have:=(ah (ah kk.1).1).2
          split at this
          · rename_i e;exact e
          · exact ff this
        refine codeAny_call_cells (by have:=ao.depth;show A.depth<1000;exact nl (am [_,_] (.d (.a (.a ab (.m 4 (.s ac))) (.n 6)) (.n 1000) (.d (.n 1000) ab .z)) rfl this)) (X _ _ (bU (Dd.symm.trans ha)▸hk)) rfl (C.lim.keeps hr.base) (codeRec_of X p1.2) Rv Rw (List.isEmpty_iff.mp Nn.2) (λz hz=>?_) (λs1 x=>?_) (yi kk.2) (yi (ah kk.1).2) kf
        · obtain⟨z1,z2⟩:=z
          have V0:=(List.of_mem_zip hz).1
          obtain⟨p,hp,rfl⟩:=mf.mp V0
          obtain⟨i,hi⟩:=wn hp
          obtain⟨b,hb⟩:=kF Nv hi
          have hm:=gh hb
          induction b with
         |false=>exact .inl (hM Nt hm)
         |true=>exact .inr ⟨hM Nt hm,jP (.inl hm)⟩
        · have er:=Hk hr vv hlen (beq_iff_eq.mp p9.2) (beq_iff_eq.mp p8.2) p7.2 (of_decide_eq_true p6.2) (of_decide_eq_true p5.2) Nv Nt JT hle x
          obtain⟨h1,cX,kG⟩:=x.toInCall.same
          have kp:=x.toInCall.keep
          subst kG
          have x0:Ext Nil as T s.heap as T h1:=.keep kp
          refine hB d ih fi.body e1 (Dc ao _) Ru er (hr.keep kp) λh2 iE iC T2 f x2 bK sD fr=>?_
          have TB:Ext Nil as T s.heap iC T2 h2:=x0.close x2 λb hb=>by
            have low:∀ c,s.heap.objs.size<=c->s.heap.get? c=none:=λc hc=>by
              cases e:s.heap.get? c with
             |none=>rfl
             |some o=>exact absurd (Heap.lt_size e) (fH.mpr hc)
            rcases hb with rfl|⟨y,hy⟩
            · exact low _ x.toInCall.fresh
            · exact low _ (bj x.toInCall.fresh (n6 (x.above y b (mem_of_lookup hy))))
          clear e1
          revert Rs
          exact fr.el (λh=>q _ _ _ _ _ TB bK (h▸.none)) (λh=>h.elim) (λh=>h.elim) λu w vr h=>q _ _ _ _ _ TB bK (h▸vr)
      · exact ff Ru
    · exact ff ck
end
end Mine
namespace Mine
noncomputable def gv(cells:List (Str×Addr)):bm->List (Str×Addr)->List (Str×Addr)
 |[],acc=>acc
 |(x,k)::r,acc=>match k with
  |.free=>(match cells.lookup x with|some c=>gv cells r ((x,c)::acc)|none=>gv cells r acc)
  |_=>gv cells r acc
theorem EY{cells acc}:gv cells ([]) acc=(acc):=rfl
theorem qa{cells x k r acc}:gv cells ((x,k)::r) acc=(match k with
 |.free=>(match cells.lookup x with|some c=>gv cells r ((x,c)::acc)|none=>gv cells r acc)
 |_=>gv cells r acc):=rfl
section
variable {S:b0}{call:bX}{d:Nat}{as as':As}{T T':TS}{H H':Hp}{h h':Heap}{s:Shared}{env:Env}{nm:bm}{sl:Sl}{l:Lo}{A:Around}{E:Value->Shared->Prop}
theorem j4{env:Env}:∀{names:bm}{acc:List (Str×Addr)},(∀ x,(x,NameKind.free)∈names->(env.cells.lookup x).isSome=true) ->
   (forIn names acc (λ(p:Str×NameKind) (cs:List (Str×Addr))=>(if p.2==.free then do let a ← cellOf env p.1;pure (ForInStep.yield ((p.1,a)::cs)) else pure (ForInStep.yield cs):Sem (ForInStep (List (Str×Addr))))))=pure (gv env.cells names acc)
 |[],acc,_=>rfl
 |(x,k)::r,acc,h=>by
   rw[List.forIn_cons]
   have hr:∀ y,(y,NameKind.free)∈r->(env.cells.lookup y).isSome=true:=λy hy=>h y (.tail _ hy)
   induction k with
  |free=>
    obtain⟨c,hc⟩:=zI.mp (h x (.head _))
    have:cellOf env x=pure c:=by unfold cellOf;rw[hc]
    simp only[beq_self_eq_true,if_true,this,pure_bind,EY,qa,hc]
    exact j4 hr
  |_=>
    simp only[EY,qa]
    exact j4 hr
theorem A2{sc:Scope}{env:Env}(h:∀ x,(x,NameKind.free)∈sc.names->(env.cells.lookup x).isSome=true):closureFor sc env=pure (gv env.cells sc.names []):=by
 have:=j4 (acc:=[]) h
 unfold closureFor
 simp only[bind_pure]
 rw[← this]
theorem kH{cells:List (Str×Addr)}:∀{names:bm}{acc:List (Str×Addr)}{x:Str}{c:Addr},(gv cells names acc).lookup x=some c->cells.lookup x=some c\/acc.lookup x=some c
 |[],acc,x,c,e=>.inr e
 |(y,k)::r,acc,x,c,e=>by
  rw[qa] at e
  split at e
  ·split at e
   ·rename_i c' hc
    rcases kH e with q|q
    ·exact .inl q
    ·rw[pn] at q
     split at q
     ·rename_i hb;cases q;exact .inl (beq_iff_eq.mp hb▸hc)
     ·exact .inr q
   ·exact kH e
  ·exact kH e
theorem nA{cells:List (Str×Addr)}:∀{names:bm}{acc:List (Str×Addr)}{x:Str}{c:Addr},cells.lookup x=some c->acc.lookup x=some c->(gv cells names acc).lookup x=some c
 |[],acc,x,c,_,e=>e
 |(y,k)::r,acc,x,c,h,e=>by
  rw[qa]
  split
  ·split
   ·rename_i c' hc
    refine nA h ?_
    rw[pn]
    split
    ·rename_i hb;rw[← beq_iff_eq.mp hb,h] at hc;rw[hc]
    ·exact e
   ·exact nA h e
  ·exact nA h e
theorem li{cells:List (Str×Addr)}:∀{names:bm}{acc:List (Str×Addr)}{x:Str}{c:Addr},(x,NameKind.free)∈names->cells.lookup x=some c->(gv cells names acc).lookup x=some c
 |[],acc,x,c,h,_=>by simp at h
 |(y,k)::r,acc,x,c,h,e=>by
  rw[qa]
  rcases fm.mp h with q|q
  ·first|exact ff q|exact nn q|cases q
   simp only[e]
   exact nA e (by simp)
  ·split
   ·split
    ·exact li q e
    ·exact li q e
   ·exact li q e
theorem A3{elt target iter:Expr}{ifs:List Expr}{scope:Scope}{pos:Pos}{it acc:Value}{env:Env}{R:Result->Shared->Prop}(I:Nat->Shared->Prop)
    (turn:∀ n s,I n s->wpAny (model S.prog S.w) A (pyNext it) (λr s₁=>match r with
     |none=>R (.ok .next) s₁
     |some v=>wpAny (model S.prog S.w) A (letOwnedTupleGo target it v) (λ_ TC=>wpAny (model S.prog S.w) A (assign target env v) (λ_ s₂=>
       wpAny (model S.prog S.w) A (forIn ifs true λc r=>if r=true then do let ok ← PySem.isTrue c env (eval c env);pure (ForInStep.yield ok) else pure (ForInStep.yield r)) (λok s₃=>
        if ok=true then wpAny (model S.prog S.w) A (eval elt env) (λx s₄=>
         wpAny (model S.prog S.w) A (PySem.call (.builtin "list.append") [acc,x]) (λ_ s₅=>∃ m,m<n/\I m s₅) (notedBy (model S.prog S.w) A env λe s'=>R (.error e) s') s₄) (notedBy (model S.prog S.w) A env λe s'=>R (.error e) s') s₃
        else ∃ m,m<n/\I m s₃) (notedBy (model S.prog S.w) A env λe s'=>R (.error e) s') s₂) (notedBy (model S.prog S.w) A env λe s'=>R (.error e) s') TC) (notedBy (model S.prog S.w) A env λe s'=>R (.error e) s') s₁) (notedBy (model S.prog S.w) A env λe s'=>R (.error e) s') s)
    (n:Nat) (h:I n s):codeAny (model S.prog S.w) A (.compLoop (.ListComp elt [⟨target,iter,ifs,0⟩] scope pos) 0 it acc env) R s:=by
  refine codeAny_loop rfl I (λn s hI=>?_) n h
  show wpAny _ A ((compTurn (.ListComp elt [⟨target,iter,ifs,0⟩] scope pos) 0 it acc env).onRaise (λx=>do noteFrame x env;theTreesLotGoes x)) _ _ s
  refine wpAny_noted ?_
  rw[compTurn_list]
  refine wpAny_bind (wpAny_standAt (wpAny_bind (wpAny_mono (turn n s hI) (λr s₁ h₁=>?_) λ_ _ h'=>h')))
  induction r with
 |none=>exact wpAny_pure h₁
 |some v=>
    refine wpAny_bind (wpAny_mono h₁ (λ_ TC V1=>?_) λ_ _ h'=>h')
    refine wpAny_bind (wpAny_mono V1 (λ_ s₂ h₂=>wpAny_bind (wpAny_mono h₂ (λok s₃ h₃=>?_) λ_ _ h'=>h')) λ_ _ h'=>h')
    induction ok with
   |false=>exact wpAny_pure ⟨rfl,h₃⟩
   |true=>
      exact wpAny_bind (wpAny_bind (wpAny_mono h₃ (λx s₄ h₄=>wpAny_bind (wpAny_mono h₄ (λ_ s₅ h₅=>wpAny_pure (wpAny_pure ⟨rfl,h₅⟩)) λ_ _ h'=>h')) λ_ _ h'=>h'))
theorem qb{env:Env}{Q:Bool->Shared->Prop}:∀{xs:List Expr},Q false s ->
  wpAny (model S.prog S.w) A (forIn xs false λc r=>if r=true then do let ok ← PySem.isTrue c env (eval c env);pure (ForInStep.yield ok) else pure (ForInStep.yield r)) Q E s
 |[],q=>wpAny_pure q
 |x::r,q=>by
  rw[List.forIn_cons]
  refine wpAny_bind ?_
  rw[if_neg (by decide)]
  exact wpAny_pure (qb q)
theorem xe:∀{cs:List ME},eJ S call d cs->∀{l:Lo}{H H':Hp}{b:Bool},jy S.P call cs l H=some (b,H') ->
   ∀⦃nm:bm⦄⦃sl:Sl⦄⦃xs:List Expr⦄⦃s:Shared⦄⦃as:As⦄⦃T:TS⦄⦃env:Env⦄⦃A:Around⦄⦃E:Value->Shared->Prop⦄⦃Q:Bool->Shared->Prop⦄,gy A d->eC S.G cs nm sl xs=true->ER S as T env nm sl l s.heap->HR S as T H s.heap ->
   si S as T s H' b Q->wpAny (model S.prog S.w) A (forIn xs true λc r=>if r=true then do let ok ← PySem.isTrue c env (eval c env);pure (ForInStep.yield ok) else pure (ForInStep.yield r)) Q E s
 |[],_,_,_,_,_,e=>by
   intro nm sl xs s as T env A E Q ao c er hr q
   rw[Qm] at e;first|exact nn e|exact ff e|cases e
   induction xs using List.casesOn with
  |nil=>exact wpAny_pure (q s.heap s.toks as T (.refl ..) hr)
  |cons=>simp[eF,eG] at c
 |e0::r,hA,_,_,_,_,e=>by
   intro nm sl xs s as T env A E Q ao c er hr q
   obtain⟨_,he,dY⟩:=hA
   rw[Qn] at e
   refine ax e λa H1 e1 e=>?_
   induction xs using List.casesOn with
  |nil=>simp[eF,eG] at c
  |cons x ys=>
    simp only[eF,eG,dw] at c
    rw[List.forIn_cons]
    refine wpAny_bind ?_
    rw[if_pos rfl]
    split at e
    ·refine wpAny_bind (he e1 ao c.1.2 er hr λh1 cX aO T1 x1 aM=>wpAny_pure ?_)
     exact xe dY e ao c.2 (er.ext x1) aM (q.from x1)
    ·first|exact ff e|exact nn e|cases e
     refine wpAny_bind (he e1 ao c.1.2 er hr λh1 cX aO T1 x1 aM=>wpAny_pure ?_)
     exact qb (q _ _ _ _ x1 aM)
    ·first|exact ff e|exact nn e|exact ff e
theorem HR.adopt{S:b0}{as:As}{T:TS}{H:Hp}{h:Heap}{D:Addr}{vs:List V}{ws:List Value}{k:Nat}(x:HR S as T H h)(e:h.get? D=some (lst ws k))(ho:D ∉ owned as)(h0:S.h0.get? D=none)(hg:sysModules<D)(hv:bq S.fa as T vs ws)(hl:vs.length<=lim) :
  HR S (as++[(D,none)]) T (H++[.list vs]) h/\VR S.fa (as++[(D,none)]) T (.loc H.length) (.ref D):=by
 have m:eO as T (as++[(D,none)]) T:=⟨λn q e=>bE e,λ_ _ e=>e⟩
 refine⟨⟨x.base,by simp[x.len],λn q r e1 e2=>?_,?_,λa ha=>?_,x.im,x.t0,x.ro,x.two,λa ha=>?_⟩,?_⟩
 ·by_cases hn:n<H.length
  ·rw[dh hn] at e1
   rw[dh (by rw[x.len];exact hn)] at e2
   exact(x.obj n q r e1 e2).keep m (λ_ z=>z) (λ_ _ _ z=>z)
  ·have:n=H.length:=by
    have:=(eV.mp e1).1;simp at this;exact iQ (nt (am [_,_] (.d (.s ab) (.s ac) (.d (.s ac) ab .z)) rfl this)) (nt (am [_,_] (.d ab ac (.d (.s ac) ab .z)) rfl (fH.mp hn)))
   subst this
   rw[gS (aC _),iu] at e1
   rw[gS (by rw[x.len];exact aC _),x.len,iu] at e2
   cases e1;cases e2
   exact .list e hl (hv.mono m)
 ·rw[bA]
  refine zJ.mpr ⟨x.nd,by simp[owned],λa ha b hb q=>?_⟩
  simp[owned] at hb
  rw[q,hb] at ha
  exact ho ha
 ·rw[bA] at ha
  rcases eW.mp ha with q|q
  ·exact x.new a q
  ·simp[owned] at q;rw[q];exact h0
 ·rw[bA] at ha
  rcases eW.mp ha with q|q
  ·exact x.big a q
  ·simp[owned] at q;rw[q];exact hg
 ·exact .loc (p:=(D,none)) (by rw[gS (by rw[x.len];exact aC _),x.len,iu];rfl)
theorem IR.self{it:It}{I:Addr}{Q:Value->Shared->Prop}(x:IR S as T s.heap it I)(q:Q (.ref I) s):wpAny (model S.prog S.w) A (pyIter (.ref I)) Q E s:=by
  induction x with
 |tup a _ _=>exact wpAny_pyIter_tupleiter a q
 |str a _=>exact wpAny_pyIter_striter_ascii a q
 |lst a _=>exact wpAny_pyIter_listiter a q
 |cm a=>exact wpAny_pyIter_rangeiter a q
theorem oR{cond:Lo->Hp->Option (Bool×Hp)}{elt:Lo->Hp->Option (V×Hp)}{t:CT}{l:Lo}:∀{n:Nat}{it:It}{acc vs:List V}{H H':Hp},cP cond elt t l n it acc H=some (vs,H')->acc.length<=vs.length
 |0,_,_,_,_,_,e=>by rw[IQ] at e;first|exact nn e|exact ff e|exact nn e
 |n+1,it,acc,vs,H,H',e=>by
  rw[mw] at e
  split at e
  ·first|exact ff e|exact nn e|exact nn e
  ·cases e;simp
  ·split at e
   ·first|exact ff e|exact nn e|exact nn e
   ·refine ax e λb H1 e1 e=>?_
    split at e
    ·refine ax e λr H2 e2 e=>?_
     have:=oR e
     rw[cw] at this
     exact nt (am [_,_] (.d (.s ab) ac (.d (.s ac) ab .z)) rfl this)
    ·exact oR e
theorem uK{i:Nat}(c:kU sl i=true):∃ x,sl[i]?=some (some (x,false)):=by
  unfold kU at c
  cases h:sl[i]? with
 |none=>rw[h] at c;exact ff c
 |some z=>induction z with
   |none=>rw[h] at c;exact ff c
   |some z=>
     obtain⟨x,b⟩:=z
     induction b with
    |false=>exact⟨x,rfl⟩
    |true=>rw[h] at c;exact ff c
theorem xf{i:Nat}{v:V}{n:Str}{w:Value}{Q:Unit->Shared->Prop}(f:kU sl i=true)(x:ER S as T env nm sl l s.heap)(hr:HR S as T H s.heap)(c:cf nm sl i n=true)(vr:VR S.fa as T v w)
  (q:∀ h' tk,Ext (λb=>b=env.locals) as T s.heap as T h'->HR S as T H h'->ER S as T env nm sl (l.set i (some v)) h'->Q () { s with heap:=h',toks:=tk }):wpAny (model S.prog S.w) A (storeName env n w) Q E s:=by
 refine uy (X:=λb=>b=env.locals) rfl (λc e _=>?_) x hr c vr q
 obtain⟨y,hy⟩:=uK f
 rw[hy] at e;first|exact nn e|exact ff e|cases e
theorem uL:∀{is:List Nat}{vs:List V}{l l':Lo},iA is vs l=some l'->∀⦃xs:List Expr⦄⦃ws:List Value⦄⦃s:Shared⦄⦃E:Value->Shared->Prop⦄⦃Q:Unit->Shared->Prop⦄,is.all (kU sl)=true->oc nm sl is xs=true->ER S as T env nm sl l s.heap->HR S as T H s.heap->bq S.fa as T vs ws ->
   (∀ h' tk,Ext (λb=>b=env.locals) as T s.heap as T h'->HR S as T H h'->ER S as T env nm sl l' h'->Q () { s with heap:=h',toks:=tk })->wpAny (model S.prog S.w) A (assignInOrder ((assignEach xs env).map (·.2)) ws) Q E s
 |[],[],_,_,e=>by
   intro xs ws s E Q _ c er hr vr q
   rw[oy] at e;first|exact nn e|exact ff e|cases e
   cases vr
   cases Ew c
   exact wpAny_pure (q s.heap s.toks (.refl ..) hr er)
 |[],_::_,_,_,e=>nn e
 |_::_,[],_,_,e=>nn e
 |i::is,v::vs,l,l',e=>by
   intro xs ws s E Q f c er hr vr q
   rw[oz] at e
   cases vr with
  |@cons v0 w1 l0 JJ v1 v2=>
    refine tZ c λn p xs c1 c2=>?_
    obtain⟨f1,f2⟩:=ah (a:=kU sl i) (b:=is.all (kU sl)) f
    show wpAny _ A (do holding JJ (assign (.Name n p) env w1);assignInOrder ((assignEach xs env).map (·.2)) JJ) Q E s
    refine wpAny_bind (wpAny_holding (assign_Name (xf f1 er hr c1 v1 λh1 cX x1 aM fk=>?_)))
    exact uL e f2 c2 fk aM v2 λh2 iE x2 bK sD=>q h2 iE (x1.trans x2) bK sD
theorem JW{t:CT}{v:V}{l':Lo}{x:Expr}{w:Value}{Q:Unit->Shared->Prop}(e:dX t v l=some l')(f:Et sl t=true)(c:oe nm sl t x=true)(hh:A.handled=none)(er:ER S as T env nm sl l s.heap)(hr:HR S as T H s.heap)(vr:VR S.fa as T v w)
    (q:∀ h' tk,Ext (λb=>b=env.locals) as T s.heap as T h'->HR S as T H h'->ER S as T env nm sl l' h'->Q () { s with heap:=h',toks:=tk }):wpAny (model S.prog S.w) A (assign x env w) Q E s:=by
  induction t with
 |one i=>
    refine Gq c λn p c=>?_
    cases e
    exact assign_Name (xf f er hr c vr q)
 |many is=>
    refine t8 c λxs kk pos c=>?_
    induction v using V.casesOn with
   |tup vs=>
     obtain⟨c1,c2⟩:=oQ (G:=S.G) (env:=env) (qW c)
     refine wpAny_bind (wpAny_standAt ?_)
     unfold unpack
     rw[c2]
     refine wpAny_bind (wpAny_holding (uA (H:=H) (v:=.tup vs) (vs:=vs) rfl ?_ hh hr vr λws h' vv kp=>?_))
     ·rw[c1,cT]
      have:=oP (lf (ev:=λ_ _ _=>none) (H:=H) e)
      rw[cT] at this
      exact this
     ·have x0:Ext Nil as T s.heap as T h':=.keep kp
      refine uL e f c (er.ext x0) (hr.keep kp) vv λh2 iE x2 bK sD=>q h2 iE ?_ bK sD
      exact(Ext.nil (X:=λb=>b=env.locals) x0 (λb hb=>by rw[show b=env.locals from hb];exact er.frame.1)).trans x2
   |_=>exact nn e
theorem mL{j:Nat}:∀{is:List Nat}{vs:List V}{l l':Lo},iA is vs l=some l'->j ∉ is->l'[j]?=l[j]?
 |[],[],_,_,e,_=>by rw[oy] at e;cases e;rfl
 |[],_::_,_,_,e,_=>nn e
 |_::_,[],_,_,e,_=>nn e
 |i::is,v::vs,_,_,e,h=>by
  rw[oz] at e
  rw[mL e (λq=>h (.tail _ q)),iR (λq:i=j=>h (by rw[← q];exact .head _))]
theorem qc{t:CT}{v:V}{l':Lo}{j:Nat}{x:Str}(e:dX t v l=some l')(f:Et sl t=true)(hj:sl[j]?=some (some (x,true))):l'[j]?=l[j]?:=by
  have no:∀ i,kU sl i=true->j≠i:=λi fi q=>by
    obtain⟨y,hy⟩:=uK fi
    rw[← q,hj] at hy;cases hy
  induction t with
 |one=>
    cases e
    rw[iR (cR (no _ f))]
 |many is=>induction v using V.casesOn with
   |tup vs=>
     refine mL e λq=>?_
     exact no _ (gq.mp f _ q) rfl
   |_=>exact nn e
theorem ER.back{l':Lo}(x:ER S as T env nm sl l' h)(hl:l.length=sl.length)(h0:∀(i:Nat)(v:V)(y:Str),l[i]?=some (some v)->sl[i]?=some (some (y,false))->False)(h1:∀(i:Nat)(y:Str),sl[i]?=some (some (y,true))->l'[i]?=l[i]?):ER S as T env nm sl l h:=by
 obtain⟨m,hn,hm⟩:=x.loc
 refine⟨x.kind,x.glob,x.blt,x.names,x.Ar,hl,x.nd,⟨m,hn,λi v y e1 e2=>(h0 i v y e1 e2).elim⟩,λi y e1=>?_,x.oK,x.kX,x.frame,x.cells⟩
 obtain⟨c,w,g1,g2,g3⟩:=x.cell i y e1
 exact⟨c,w,g1,g2,λv hv=>g3 v (by rw[h1 i y e1];exact hv)⟩
theorem De{sc:Scope}(hk:env.scope.kind=.function):(relabel sc env).names=qN sc.names env.scope.names:=by
 unfold relabel qN
 refine List.map_congr_left λz _=>?_
 obtain⟨n,k⟩:=z
 show(if _ then _ else _)=(if _ then _ else _)
 have:(k==NameKind.free&&env.scope.kind==.function&&env.kindOf n==some .cell)=(fe k .free&&(match lQ n env.scope.names with|some k'=>fe k' .cell|none=>false)):=by
  rw[hk,ku]
  unfold Env.kindOf
  induction k <;> simp[fe] <;> (cases hq:List.lookup n env.scope.names with
   |none=>rfl
   |some k'=>induction k' <;> rfl)
 rw[this]
 all_goals rfl
theorem mM{nm:bm}:∀{names:bm},frees names nm sl=true->∀{x:Str}{k:NameKind},(x,k)∈names->k≠.cell/\(k=.free->nm.lookup x=some .cell/\∃ i:Nat,sl[i]?=some (some (x,true)))
 |[],_,x,k,h=>by simp at h
 |(y,j)::r,c,x,k,h=>by
  simp only[I1,I2,dw] at c
  rcases fm.mp h with e|e
  ·first|exact ff e|exact nn e|cases e
   have:=c.1
   induction j <;> simp only[ww,dw] at this
   ·exact⟨by decide,λq=>by cases q⟩
   ·refine⟨by decide,λ_=>⟨?_,?_⟩⟩
    ·have h1:=this.1
     split at h1
     ·rename_i k' hk
      rw[ku] at hk
      rw[hk,jk h1]
     ·first|exact ff h1|exact nn h1|exact ff h1
    ·obtain⟨z,hz,sC⟩:=List.any_eq_true.mp this.2
     obtain⟨i,hi⟩:=wn hz
     split at sC
     ·exact⟨i,by rw[hi,beq_iff_eq.mp sC]⟩
     ·first|exact ff sC|exact nn sC|exact ff sC
   ·exact⟨by decide,λq=>by cases q⟩
  ·exact mM c.2 e
theorem jl:∀{nm:bm}{i:Nat}{z:Option (Str×Bool)},(cW nm)[i]?=some z->∃ x,z=some (x,false)/\(x,NameKind.local)∈nm
 |[],i,z,e=>by simp[tD,kT] at e
 |(y,k)::r,i,z,e=>by
    rw[kT] at e
    split at e
    · rename_i hc
      simp only[dw] at hc
      have hk:=jk hc.1
      subst hk
      induction i using Nat.casesOn with
     |zero=>simp at e;subst e;exact⟨y,rfl,.head _⟩
     |succ i=>obtain⟨x,h1,h2⟩:=jl (nm:=r) (i:=i) (z:=z) (by simpa using e);exact⟨x,h1,.tail _ h2⟩
    · obtain⟨x,h1,h2⟩:=jl e;exact⟨x,h1,.tail _ h2⟩
theorem qY:∀{nm:bm},(nm.map (·.1)).Nodup->∀{i j:Nat}{x:Str},(cW nm)[i]?=some (some (x,false))->(cW nm)[j]?=some (some (x,false))->i=j
 |[],_,i,_,_,e,_=>by simp[tD,kT] at e
 |(y,k)::r,hn,i,j,x,e1,e2=>by
  obtain⟨h1,h2⟩:=iw.mp hn
  have no:∀{i:Nat},(cW r)[i]?=some (some (y,false))->False:=λe=>by
   obtain⟨x,q,hm⟩:=jl e
   cases q
   exact h1 (mf.mpr ⟨_,hm,rfl⟩)
  rw[kT] at e1 e2
  split at e1
  ·rename_i hc
   rw[if_pos hc] at e2
   induction i using Nat.casesOn <;> cases j
   ·rfl
   ·simp at e1 e2;subst e1;exact(no e2).elim
   ·simp at e1 e2;subst e2;exact(no e1).elim
   ·rename_i i j
    exact congrArg (· + 1) (qY h2 (i:=i) (j:=j) (x:=x) (by simpa using e1) (by simpa using e2))
  ·rename_i hc
   rw[if_neg hc] at e2
   exact qY h2 e1 e2
theorem qd{names:bm}{i:Nat}{x:Str}{b:Bool}(e:(fw sl names)[i]?=some (some (x,b))){zg:Prop}(zk:(b=true)->(sl[i]?=some (some (x,true)))->(names.lookup x=some .free)->zg):zg:=by
  unfold fw at e
  rw[iy] at e
  obtain⟨z,hz,e⟩:=Option.map_eq_some_iff.mp e
  split at e
  · rename_i y
    cases hq:lQ y names with
   |none=>rw[hq] at e;simp at e
   |some k=>
      rw[hq] at e
      cases hk:fe k .free with
     |false=>simp[hk] at e
     |true=>simp[hk] at e;obtain⟨rfl,rfl⟩:=e;exact zk rfl hz (by rw[← ku,hq,jk hk])
  · first|exact ff e|exact nn e|exact nn e
theorem Df{names:bm}{i:Nat}{x:Str}{b:Bool}(e:(fw sl names)[i]?=some (some (x,b))):b=true/\sl[i]?=some (some (x,true))/\names.lookup x=some .free:=qd e λcO cY iJ=>⟨cO,cY,iJ⟩
theorem Dg{names nm:bm}(h:jh names=true):jh (qN names nm)=true:=by
  induction names with
 |nil=>rfl
 |cons z r ih=>
   obtain⟨n,k⟩:=z
   simp only[Ac,Ad,dw] at h
   have this:∀(c:Prop)[Decidable c],((if c then(n,NameKind.cell) else(n,k)):Str×NameKind).fst=n:=by intro c _;split <;> rfl
   show jh ((if _ then(n,NameKind.cell) else(n,k))::qN r nm)=true
   simp only[jh,this,h.1,Bool.true_and]
   exact ih h.2
theorem gK{names:bm}{i:Nat}{y:Str}{b:Bool}(e:(fw sl names++cW names)[i]?=some (some (y,b))){zg:Prop}(k1:b=true->i<sl.length->sl[i]?=some (some (y,true))->names.lookup y=some .free->zg)(k2:b=false->sl.length<=i->(cW names)[i-sl.length]?=some (some (y,false))->zg):zg:=by
 have hH:(fw sl names).length=sl.length:=by unfold fw;rw[cT]
 by_cases hi:i<sl.length
 ·rw[dh (by rw[hH];exact hi)] at e
  exact qd e λh f1 f2=>k1 h hi f1 f2
 ·have hi:=fH.mp hi
  rw[gS (by rw[hH];exact hi),hH] at e
  obtain⟨z,q,_⟩:=jl e
  have q:=mm (bU q)
  exact k2 q.2 hi (q.2▸e)
theorem A4{sc:Scope}{k:Nat}{C:Addr}{g:Str->Option Value}(er:ER S as T env nm sl l h)(kp:∀ b o,h.get? b=some o->h'.get? b=some o)(hC:h.get? C=none)(hO:C ∉ owned as/\S.h0.get? C=none)(Jm:h'.Ns C g)(hk:kq sc=true)(hf:frees sc.names nm sl=true)
  (hn:(sc.names.map (·.1)).Nodup) (hi:(cW sc.names).length=k) :
  ER S as T (compEnvC sc (gv env.cells sc.names []) C env) (qN sc.names nm) (fw sl sc.names++cW sc.names) (l++List.replicate k none) h':=by
 have hk:=ah hk
 have V2:=ah hk.1
 have JX:=ah V2.1
 have kf:sc.kind=.function:=by
  have k2:=JX.2
  split at k2
  ·rename_i e;exact e
  ·exact ff k2
 have hH:(fw sl sc.names).length=sl.length:=by unfold fw;rw[cT]
 have old:∀{x:Str}{c:Addr},(gv env.cells sc.names []).lookup x=some c->env.cells.lookup x=some c:=λe=>(kH e).elim id λq=>nn q
 have un:∀{x:Str}{i:Nat},sc.names.lookup x=some .free->(cW sc.names)[i]?=some (some (x,false))->False:=λh1 h2=>by
  obtain⟨y,q,hm⟩:=jl h2
  rw[(mm (bU q)).1,hM hn hm] at h1;cases h1
 refine⟨kf,er.glob,er.blt,?_,Dg JX.1,?_,λi j y b c e1 e2=>gK e1 (λ_ h1 f1 f2=>gK e2 (λ_ _ g1 _=>er.nd i j y true true f1 g1) λ_ _ g=>(un f2 g).elim) λ_ h1 f=>gK e2 (λ_ _ _ g2=>(un g2 f).elim) λ_ h2 g=>?_,⟨g,Jm,λi v y e1 e2=>gK e2 (λq=>nomatch q) λ_ h _=>?_⟩,λi y e1=>gK e1 (λ_ h f1 f2=>?_) (λq=>nomatch q),λy z c e1 e2=>er.oK y z c (old e1) (old e2),λy c e1=>?_,hO,λy c e1=>er.cells y c (old e1)⟩
 ·show(relabel sc env).names=_
  rw[De er.kind,er.names]
 ·rw[aH,aH,List.length_replicate,hH,hi,er.len]
 ·have:=qY hn f g
  omega
 ·rw[gS (by rw[er.len];exact h),List.getElem?_replicate] at e1
  split at e1 <;> cases e1
 ·obtain⟨c,w,g1,g2,g3⟩:=er.cell i y f1
  exact⟨c,w,li (mem_of_lookup f2) g1,ek g2 λo=>kp _ o,λv hv=>g3 v ((dh (by rw[er.len];exact h)).symm.trans hv)⟩
 ·obtain⟨w,hw⟩:=er.kX y c (old e1)
  exact⟨w,ek hw λo=>kp _ o⟩
end
end Mine
namespace Mine
section
variable {S:b0}{call:bX}{d:Nat}{as as':As}{T T':TS}{H H':Hp}{h h':Heap}{s:Shared}{env:Env}{nm:bm}{sl:Sl}{l:Lo}{A:Around}{E:Value->Shared->Prop}
theorem Hl{h:Heap}{a:Addr}(ha:h.objs.size<=a):h.get? a=none:=by
  cases e:h.get? a with
 |none=>rfl
 |some o=>exact absurd (Heap.lt_size e) (fH.mpr ha)
theorem HR.fresh(hr:HR S as T H h){b:Addr}(hb:h.get? b=none):b ∉ owned as/\S.h0.get? b=none:=by
  refine⟨λq=>?_,?_⟩
  · obtain⟨o,ho⟩:=hr.alive q;rw[hb] at ho;exact nn ho
  · cases e:S.h0.get? b with
   |none=>rfl
   |some o=>have:=hr.base b o e;rw[hb] at this;exact nn this
theorem HR.JY(hr:HR S as T H h){a:Addr}{ws:List Value}{k:Nat}(e:h.get? a=some (lst ws k))(h0:S.h0.get? a=none)(i:Im):¬ T a i:=λt=>by
  have:=hr.im a i t
  induction i with
 |tup us=>obtain⟨o',e',c,_⟩:=this;rw[e] at e';cases e';simp[lst] at c
 |ro us=>obtain⟨o,q⟩:=hr.ro a us t;rw[h0] at q;exact nn q
 |cm i j l=>obtain⟨t,u,v,e'⟩:=this;have e2:=e.symm.trans e';simp[lst] at e2
theorem Ext.adopt{as aO:As}{T T1:TS}{h h1:Heap}{D:Addr}(x:Ext Nil as T h aO T1 h1)(hD:h.get? D=none):Ext Nil as T h (aO++[(D,none)]) T1 h1:=by
 refine⟨⟨λn p e=>bE (x.mono.GI n p e),x.mono.tx⟩,x.kp,x.al,λb hb=>?_⟩
 rw[bA] at hb
 rcases eW.mp hb with q|q
 ·exact x.own b q
 ·simp[owned] at q;subst q;exact .inr hD
theorem JZ{cs:Lo->Hp->Option (Bool×Hp)}{x:Lo->Hp->Option (V×Hp)}{t:CT}{n:Nat}{it:It}{acc:List V}{r:List V×Hp}(e:cP cs x t l (n+1) it acc H=some r){zg:Prop}(k1:dz H it=some none->(acc.reverse,H)=r->zg)
    (k2:∀ v et l1 b H1,dz H it=some (some (v,et))->dX t v l=some l1->cs l1 H=some (b,H1)->(if b then br (x l1 H1) λw H2=>cP cs x t l n et (w::acc) H2 else cP cs x t l n et acc H1)=some r->zg):zg:=by
  rw[mw] at e
  generalize hn:dz H it=o at e
  match o,e with
 |none,e=>exact nn e
 |some none,e=>exact k1 hn (bU e)
 |some (some (v,et)),e=>
    dsimp only at e
    generalize hs:dX t v l=o at e
    match o,e with
   |none,e=>exact nn e
   |some l1,e=>exact ax e λb H1 e1 e=>k2 v et l1 b H1 hn hs e1 e
inductive CJ(S:b0)(call:bX)(s:Shared)(env:Env)(nm:bm)(sl:Sl)(l:Lo)(I D:Addr)(aO:As)(T1:TS)(h1:Heap)(t:CT)(cs:List ME)(elt:ME)(vs:List V)(H2:Hp)(n:Nat):Shared->Prop where
 |mk (hN:Heap) (TD:_) (nQ:As) (TN:TS) (HN:Hp) (Rx:It) (acc:List V) (ws:List Value) (kN:Nat) (x:Ext Nil aO T1 h1 nQ TN hN) (r:HR S nQ TN HN hN) (er:ER S nQ TN env nm sl l hN) (ir:IR S nQ TN hN Rx I) (f:gU S nQ env I) (g:hN.get? D=some (lst ws kN)) (v:bq S.fa nQ TN acc.reverse ws) (fD:gU S nQ env D)
  (e:cP (λl H=>jy S.P call cs l H) (λl H=>av S.P call elt l H) t l n Rx acc HN=some (vs,H2)):CJ S call s env nm sl l I D aO T1 h1 t cs elt vs H2 n { s with heap:=hN,toks:=TD }
theorem A5{elt:ME}{t:CT}{cs:List ME}(uM:bw S call d elt)(vU:eJ S call d cs){x tg V3:Expr}{ifs:List Expr}{sc:Scope}{pos:Pos}{I D:Addr}{aO:As}{T1:TS}{h1:Heap}{R:Result->Shared->Prop}{vs:List V}{n:Nat}{vQ:It}{H2:Hp}(ao:gy A d)
    (c3:Et sl t=true) (c4:oe nm sl t tg=true) (c5:eC S.G cs nm sl ifs=true) (c6:aI S.G elt nm sl x=true) (sr:vs.length<=lim) (hI:h1.get? I=none) (Hm:h1.get? D=none) (Ho:h1.get? env.locals=none) (ID:I≠D) (IC:I≠env.locals) (J0:sysModules<D)
    (A6:∀(i:Nat)(v:V)(y:Str),l[i]?=some (some v)->sl[i]?=some (some (y,false))->False) (Nw:Ext Nil aO T1 h1 as T s.heap) (hr:HR S as T H s.heap) (er:ER S as T env nm sl l s.heap) (ir:IR S as T s.heap vQ I) (fI:gU S as env I) (D4:s.heap.get? D=some (lst [] 0)) (fD:gU S as env D)
    (e2:cP (λl H=>jy S.P call cs l H) (λl H=>av S.P call elt l H) t l n vQ [] H=some (vs,H2))
    (q:∀ h5 tk nQ TN m,h5.Ns env.locals m->Ext Nil aO T1 h1 nQ TN h5->HR S (nQ++[(D,none)]) TN (H2++[.list vs]) h5->VR S.fa (nQ++[(D,none)]) TN (.loc H2.length) (.ref D)->env.locals ∉ owned nQ->R (.ok .next) { s with heap:=h5,toks:=tk }) :
    codeAny (model S.prog S.w) A (.compLoop (.ListComp x [⟨tg,V3,ifs,0⟩] sc pos) 0 (.ref I) (.ref D) env) R s:=by
  have J1:=er.len
  refine A3 (CJ S call s env nm sl l I D aO T1 h1 t cs elt vs H2) (λn s' V4=>?_) n (.mk s.heap s.toks as T H vQ [] [] 0 Nw hr er ir fI D4 .nil fD e2)
  obtain⟨hN,TD,nQ,TN,HN,Rx,acc,ws,kN,xN,Nx,Ry,Ny,yO,DN,vN,Hq,eN⟩:=V4
  clear e2 D4 fI fD ir er hr Nw
  generalize notedBy (model S.prog S.w) A env (λe s'=>R (.error e) s')=E1
  induction n using Nat.casesOn with
 |zero=>exact nn eN
 |succ n=>
    refine JZ eN (λAY eN=>pU AY Ny yO.own Nx ao.handled λh5 k5=>?_) (λu et l5 b H7 AY e5 e7 eN=>pU AY Ny yO.own Nx ao.handled λwu h5 Q5 k5 TF ru=>EW TF ?_)
    · obtain⟨yP,Rz⟩:=(Nx.iter Ny yO k5).adopt (k5 _ _ (cR ID) DN) Hq.own Hq.old J0 vN (by rw[(mm eN).1];exact sr)
      exact Ry.loc.elim λm hm=>q h5 _ nQ TN m (mE hm.1 λo=>k5 _ o (cR IC)) (xN.off k5 hI (λz=>z)) ((mm eN).1▸(mm eN).2▸yP) ((mm eN).2▸Rz) Ry.frame.1
    · have AS:=Nx.iter Ny yO k5
      have Hi:=Ry.but yO k5
      have x5:=xN.off k5 hI (λz=>z)
      have D5:=k5 _ _ (cR ID) DN
      refine JW e5 c3 c4 ao.handled Hi AS ru λh6 Xv x6 yP TG=>?_
      have V5:Ext Nil aO T1 h1 nQ TN h6:=x5.close x6 λb hb=>by rw[show b=env.locals from hb];exact Ho
      have D6:=x6.kp _ _ Hq.own (λz=>Hq.loc z) D5
      have TH:=TF.ext x6 yO.own (λz=>yO.loc z)
      refine xe vU e7 ao c5 TG yP λh7 Xw V6 T7 x7 TJ=>?_
      have RA:=TG.ext x7
      have TK:=V5.trans x7
      have D7:=x7.kp _ _ Hq.own (λz=>z) D6
      have RB:=TH.kC λo ho _ _ _=>yO.ext x7 ho
      have RC:=Hq.ext x7 D6
      have RD:=TH.ext x7 yO.own (λz=>z)
      match b,eN with
     |true,eN=>
        refine ax eN λr H8 e8 eN=>uM e8 ao c6 RA TJ λwr h8 Xx TL T8 x8 TM rr=>?_
        have D8:=x8.kp _ _ RC.own (λz=>z) D7
        have V7:=RA.ext x8
        have V8:=RD.kC λo ho _ _ _=>RB.ext x8 ho
        have J2:=RC.ext x8 D7
        have V9:=RD.ext x8 RB.own (λz=>z)
        have v8:bq S.fa TL T8 acc.reverse ws:=(vN.mono x7.mono).mono x8.mono
        have hlen:ws.length<=lim:=by
          have:=oR eN
          rw[cw] at this
          have h2:=v8.length
          rw[jA] at h2
          exact nt (am [_,_,_,_] (.d ab ac (.d (.s ar) ab (.d aA ar (.d (.s ac) aA .z)))) rfl sr this (bk h2))
        refine append_at (its:=ws.toArray) (n:=kN) D8 (λh9 Wa e9=>?_) (by rw[gp];exact dJ hlen)
        have k9:∀ b o,b≠D->h8.get? b=some o->h9.get? b=some o:=λb o nb e=>(Wa.2 b nb).trans e
        refine⟨n,jB n,.mk h9 _ TL T8 H8 et (r::acc) (ws++[wr]) (kN+1) ((TK.trans x8).off k9 Hm (λz=>z)) (TM.but k9 J2.own J2.old (TM.JY D8 J2.old)) ?_ (V9.keep (.refl ..) λo=>k9 _ o ID) V8 (by rw[e9];simp[lst]) ?_ J2 eN⟩
        · exact(V7.but J2 k9).back J1 A6 λi y hy=>qc e5 c3 hy
        · rw[eM];exact v8.append (.cons rr .nil)
     |false,eN=>exact⟨n,jB n,.mk h7 _ V6 T7 H7 et acc ws kN TK TJ (RA.back J1 A6 λi y hy=>qc e5 c3 hy) RD RB D7 (vN.mono x7.mono) RC eN⟩
theorem xg{elt src:ME}{t:CT}{k:Nat}{cs:List ME}(A7:bw S call d src)(uM:bw S call d elt)(vU:eJ S call d cs){v:V}(e:av S.P call (.comp elt src t k cs) l H=some (v,H')){x tg it:Expr}{ifs:List Expr}{sc:Scope}{pos p:Pos}
   {use:Option (Value->Sem Unit)} {Q:Value->Shared->Prop} (ao:gy A d) (c:aI S.G (.comp elt src t k cs) nm sl (.ListComp x [⟨tg,it,ifs,0⟩] sc pos)=true) (er:ER S as T env nm sl l s.heap) (hr:HR S as T H s.heap)
   (q:∀ D C h' tk as' T' m,h'.Ns C m->Ext Nil as T s.heap as' T' h'->HR S as' T' H' h'->VR S.fa as' T' v (.ref D)->s.heap.get? C=none->C ∉ owned as'->compPost (model S.prog S.w) A E use Q (.ref D) C (.ok .next) { s with heap:=h',toks:=tk }) :
   wpAny (model S.prog S.w) A (comprehension (.ListComp x [⟨tg,it,ifs,0⟩] sc pos) sc env p (newList []) false (eval it env) use) Q E s:=by
 refine CG e λsv H1 vQ vs H2 e1 hit e2 sr RE=>?_
 subst RE
 intro RF
 subst RF
 obtain⟨TO,c0⟩:=ah (a:=gH it&&aI S.G src nm sl it) c
 obtain⟨Wb,Wc⟩:=ah TO
 obtain⟨d1,c8⟩:=ah (b:=frees sc.names nm sl) c0
 obtain⟨d2,c7⟩:=ah d1
 obtain⟨d3,c6⟩:=ah d2
 obtain⟨d4,c5⟩:=ah d3
 refine Mq d4 λc1 c2 c3 c4=>?_
 have MJ:=lh c7
 have kf:sc.kind=.function:=by
   have:=c2
   simp only[kq,dw] at this
   have:=this.1.1.2
   split at this
   ·rename_i e;exact e
   ·exact ff this
 have qZ:closureFor sc env=pure (gv env.cells sc.names []):=A2 λy hy=>by
   obtain⟨_,i,hi⟩:=(mM c8 hy).2 rfl
   obtain⟨c,w,g1,_⟩:=er.cell i y hi
   rw[g1];rfl
 refine wpAny_comprehension_free (use:=use) rfl (sp Wb env) qZ kf (λy hy hl=>by obtain⟨y1,y2⟩:=y;cases hl;exact hM MJ hy) ?_
 refine A7 e1 ao Wc er hr λw h1 cX aO T1 x1 aM vr=>?_
 refine AQ hit aM vr λI h2 hI AZ Nl=>?_
 have fk:=er.ext x1
 have nI:=aM.fresh hI
 have bK:=aM.keep AZ
 obtain⟨oI,TP,_⟩:=Nl.alive
 refine wpAny_newList ?_
 have O4:∀{b},h2.objs.size<=b->h1.get? b=none:=λ{b} hb=>by
   cases z:h1.get? b with
  |none=>rfl
  |some o=>exact absurd (Heap.lt_size (AZ _ _ z)) (fH.mpr hb)
 refine wpAny_newFunctionEnv (λy hy=>(mM c8 (x:=y.1) (k:=y.2) hy).1) (by intro y hy;simp at hy) (λh4 J3 J4=>?_) kf
 dsimp only at J3 J4 ⊢
 generalize hG:h2.push { cls:=Value.type "list",dict:=none,data:=Data.seq ([]:List Value).toArray }=G2 at J3 J4 ⊢
 have hC:G2.objs.size=h2.objs.size+1:=by rw[← hG,Heap.size_push]
 have Wd:∀ b o,h2.get? b=some o->G2.get? b=some o:=λb o e=>hG▸bT _ b o e
 have TQ:∀ b o,b≠G2.objs.size->G2.get? b=some o->h4.get? b=some o:=λb o nb e=>(J4.2 b nb).trans (bT _ b o e)
 have TR:∀{b o},h2.get? b=some o->b≠G2.objs.size:=λe=>by rw[hC];exact dt (wy (Heap.lt_size e))
 have EZ:∀ b o,h2.get? b=some o->h4.get? b=some o:=λb o e=>TQ b o (TR e) (Wd b o e)
 have dC:h2.objs.size≠G2.objs.size:=by rw[hC];exact dt (nl (am [_] (.d (.s ab) ab .z) rfl))
 have D4:h4.get? h2.objs.size=some (lst [] 0):=TQ _ _ dC (hG▸Heap.get?_push_size _ rfl)
 have Hm:h1.get? h2.objs.size=none:=O4 (aC _)
 have Ho:h1.get? G2.objs.size=none:=O4 (by rw[hC];exact nt (am [_] (.d (.s (.s ab)) ab .z) rfl))
 have nD:=aM.fresh Hm
 have J0:sysModules<h2.objs.size:=by
   obtain⟨o',I8⟩:=bK.two
   exact mh (show sysModules<cStatics by decide) (Heap.lt_size (bK.base _ _ I8))
 have nC:=aM.fresh Ho
 have ID:I≠h2.objs.size:=dt (Heap.lt_size TP)
 have IC:I≠G2.objs.size:=TR TP
 have Rq:=A4 (k:=k) fk (h':=h4) (λb o e=>EZ b o (AZ b o e)) Ho nC J3 c2 c8 MJ (of_decide_eq_true c1)
 have E2:∀{b:Addr},h1.get? b=none->∀ y,(gv env.cells sc.names []).lookup y≠some b:=λhb y q=>by
   rcases kH q with z|z
   ·obtain⟨w,hw⟩:=fk.kX y _ z
    obtain⟨o,ho⟩:=jM hw
    rw[hb] at ho;exact nn ho
   ·simp at z
 have fI:gU S aO (compEnvC sc (gv env.cells sc.names []) G2.objs.size env) I:=⟨nI.1,nI.2,IC,E2 hI⟩
 have fD:gU S aO (compEnvC sc (gv env.cells sc.names []) G2.objs.size env) h2.objs.size:=⟨nD.1,nD.2,dC,E2 Hm⟩
 have Hh:IR S aO T1 h4 vQ I:=Nl.keep (.refl ..) λo e=>EZ I o e
 have Nw:Ext Nil aO T1 h1 aO T1 h4:=.keep λb o e=>EZ b o (AZ b o e)
 have A6:∀(i:Nat)(v:V)(y:Str),(l++List.replicate k (none:Option V))[i]?=some (some v)->(fw sl sc.names++cW sc.names)[i]?=some (some (y,false))->False:=by
   intro i v y f1 f2
   have hH:(fw sl sc.names).length=l.length:=by unfold fw;rw[cT,er.len]
   by_cases hi:i<l.length
   ·rw[dh (by rw[hH];exact hi)] at f2
    obtain⟨z,_⟩:=Df f2
    exact ff z
   ·rw[gS (by exact nt (am [_,_] (.d ab ac (.d (.s ac) ab .z)) rfl (fH.mp hi))),List.getElem?_replicate] at f1
    split at f1 <;> cases f1
 have loop:∀ tk,codeAny (model S.prog S.w) A (.compLoop (.ListComp x [⟨tg,it,ifs,0⟩] sc pos) 0 (.ref I) (.ref h2.objs.size) (compEnvC sc (gv env.cells sc.names []) G2.objs.size env)) (compPost (model S.prog S.w) A E use Q (.ref h2.objs.size) G2.objs.size) { s with heap:=h4,toks:=tk }:=by
   intro tk
   refine A5 uM vU ao c3 c4 c5 c6 sr hI Hm Ho ID IC J0 A6 Nw (bK.keep EZ) Rq Hh fI D4 fD e2 λh5 Q5 nQ TN m hm xN yP Rz hO=>?_
   refine q _ _ h5 _ _ TN m hm (x1.trans (xN.adopt Hm)) yP Rz (x1.dead aM Ho) ?_
   rw[bA]
   intro z
   rcases eW.mp z with z|z
   ·exact hO z
   ·simp[owned] at z;exact dC z.symm
 exact codeAny_compStart_list (loop _) (Hh.self (loop _))
theorem E3{elt src:ME}{t:CT}{k:Nat}{cs:List ME}(A7:bw S call d src)(uM:bw S call d elt)(vU:eJ S call d cs):bw S call d (.comp elt src t k cs):=by
 intro l H H' v e nm sl x s as T env A E Q ao c er hr q
 refine tW c λy tg it ifs sc pos c=>?_
 ·rw[eval_ListComp]
  refine xg A7 uM vU (use:=none) e ao c er hr λD C h' tk as' T' m hm x' dY vr hC hO=>⟨m,hm,λRr sb=>?_⟩
  have kp:∀ b o,b≠C->h'.get? b=some o->Rr.get? b=some o:=λb o nb e=>(sb.2 b nb).trans e
  have We:=(hr.fresh hC).2
  exact q _ _ _ _ _ (x'.off kp hC (λz=>z)) (dY.but kp hO We (yq dY hm)) vr
end
end Mine
namespace Mine
section
variable {S:b0}{call:bX}{d:Nat}{as as':As}{T T':TS}{H H':Hp}{h h':Heap}{s:Shared}{env:Env}{nm:bm}{sl:Sl}{l:Lo}{A:Around}{E:Value->Shared->Prop}
theorem J5{n:Str}{py pos px:Pos}{x:Expr}{gens:List Comprehension}{sc:Scope}(er:ER S as T env nm sl l h)
  (c:(nm.lookup n==some .local&&py.line==px.line&&!(sc.names.any λ(z,k)=>z==n&&(k==.local || k==.cell)))=true):swapsWith (.ListComp x gens sc px) (some (.Name n py)) pos.line env=pure true:=by
 have hb:env.blockKind=.function:=by unfold Env.blockKind;rw[er.kind];rfl
 show(do return env.blockKind==.function&&env.kindOf n==some .local&&py.line==px.line&&!(sc.names.any λ(z,k)=>z==n&&(k==.local || k==.cell)):Sem Bool)=pure true
 have hk:env.kindOf n=nm.lookup n:=by unfold Env.kindOf;rw[er.names]
 rw[hb,hk]
 have:(ScopeKind.function==ScopeKind.function)=true:=rfl
 rw[this,Bool.true_and,c]
theorem Hr{i:Nat}{elt src:ME}{t:CT}{k:Nat}{cs:List ME}(A7:bw S call d src)(uM:bw S call d elt)(vU:eJ S call d cs){l':Lo}{fl:Fl}(e:dD S.P call (.asg (.loc i) (.comp elt src t k cs)) l H=some (fl,l',H')){n:Str}{py pos px:Pos}{x:Expr}{gens:List Comprehension}{sc:Scope}
  {as:As} {T:TS} {Q:Flow->Shared->Prop} (ao:gy A d) (c1:cf nm sl i n=true) (c2:aI S.G (.comp elt src t k cs) nm sl (.ListComp x gens sc px)=true)
  (c3:(nm.lookup n==some .local&&py.line==px.line&&!(sc.names.any λ(z,k)=>z==n&&(k==.local || k==.cell)))=true) (er:ER S as T env nm sl l s.heap) (hr:HR S as T H s.heap) (q:gJ S as T s env nm sl fl l' H' Q) :
  wpAny (model S.prog S.w) A (exec (.Assign [.Name n py] (.ListComp x gens sc px) pos) env) Q E s:=by
 refine tV (P:=λgens=>wpAny (model S.prog S.w) A (exec (.Assign [.Name n py] (.ListComp x gens sc px) pos) env) Q E s) c2 λtg it ifs c2=>?_
 refine qQ e λv H1 l1 H2 e1 e2 e=>?_
 have q:gJ S as T s env nm sl .next (l.set i (some v)) H1 Q:=(q.of e).mv e2
 clear e2 e
 rw[exec_Assign_Name_used _ _ _ _ (J5 er c3)]
 ·refine wpAny_bind (wpAny_standAt (wpAny_bind ?_))
  show wpAny _ A (do let _ ← comprehension (.ListComp x [⟨tg,it,ifs,0⟩] sc px) sc env _ (newList []) false (eval it env) (some (assign (.Name n py) env))) _ _ s
  refine wpAny_bind (wpAny_mono (xg (E:=E) A7 uM vU (use:=some (assign (.Name n py) env)) (Q:=λ_ s'=>Q .next s') e1 ao c2 er hr λD C h' tk as' T' m hm x' dY vr hC hO=>?_) (λ_ s' hq=>wpAny_pure (wpAny_pure hq)) λ_ _ e=>e)
  have fC:=er.fresh hr hC
  obtain⟨oC,Wf⟩:=kv hm
  have TV:gU S as' env C:=fC.ext x' (o:=oC) |> λ_=>⟨hO,fC.old,fC.loc,fC.cell⟩
  refine assign_Name (kD (er.ext x') dY c1 vr λh3 pT nP T3 x3 fN sE=>?_)
  have TX:=mE hm λo e=>x3.kp C o hO TV.C4 e
  refine⟨m,TX,λh4 sb=>?_⟩
  have kp:∀ b o,b≠C->h3.get? b=some o->h4.get? b=some o:=λb o nb e=>(sb.2 b nb).trans e
  have f3:gU S nP env C:=TV.ext x3 Wf
  exact q _ _ _ _ _ (((x'.nil er.lW).trans x3).off kp hC fC.C4) (fN.but kp f3.own f3.old (yq fN TX)) (sE.but f3 kp) .next
theorem yQ{e0:ME}{elt:Expr}{gens:List Comprehension}{sc:Scope}{px:Pos}(c:aI S.G e0 nm sl (.ListComp elt gens sc px)=true):e0=.bad\/∃ a b ct k cs,e0=.comp a b ct k cs:=by
  induction e0 using ME.casesOn with
 |comp=>exact .inr ⟨_,_,_,_,_,rfl⟩
 |bad=>exact .inl rfl
 |_=>exact ff c
theorem Nz{t:Tg}{e0:ME}(ht:yI S call d t)(h0:bw S call d e0)(hc:∀ elt src ct k cs,e0=.comp elt src ct k cs->bw S call d src/\bw S call d elt/\eJ S call d cs):pV S call d (.asg t e0):=by
  intro l l' H H' fl e nm sl x s as T env A E Q ao c er hr q
  refine wO c λy x p c1 c2 c3=>?_
  have c3:(bif fT x then wD nm sl t (tC nm y x) else Af nm y x t)=true:=c3
  cases hn:fT x with
 |true=>
   rw[hn] at c3
   exact pX ht h0 e ao c1 c2 hn c3 er hr q
 |false=>
   rw[hn] at c3
   refine Gj (P:=λy x t=>dD S.P call (.asg t e0) l H=some (fl,l',H')->mz S.G t nm sl y=true->aI S.G e0 nm sl x=true->wpAny (model S.prog S.w) A (exec (.Assign [y] x p) env) Q E s) (show Af nm y x t=true from c3) (λn py Xo gens sc px i c3 e c1 c2=>?_) e c1 c2
   rcases yQ c2 with h|⟨a,b,ct,k,cs,h⟩
   ·rw[h] at e;obtain⟨_,_,_,_,e1,_⟩:=Mu e;exact nn e1
   ·obtain⟨g1,g2,g3⟩:=hc _ _ _ _ _ h
    rw[h] at e c2
    exact Hr g1 g2 g3 e ao c1 c2 c3 er hr q
theorem HR.E4{D:Addr}{o:O}(x:HR S as T H h)(ho:D ∉ owned as)(h0:S.h0.get? D=none)(hg:sysModules<D)(hv:OR S (as++[(D,none)]) T h o (D,none)) :
  HR S (as++[(D,none)]) T (H++[o]) h:=by
 have m:eO as T (as++[(D,none)]) T:=⟨λn q e=>bE e,λ_ _ e=>e⟩
 refine⟨x.base,by rw[aH,aH,x.len];rfl,λn q r e1 e2=>?_,?_,λa ha=>?_,x.im,x.t0,x.ro,x.two,λa ha=>?_⟩
 ·by_cases hn:n<H.length
  ·rw[dh hn] at e1
   rw[dh (by rw[x.len];exact hn)] at e2
   exact(x.obj n q r e1 e2).keep m (λ_ z=>z) (λ_ _ _ z=>z)
  ·have hl:=(eV.mp e1).1
   rw[aH] at hl
   have:n=H.length:=iQ (Nat.le_of_lt_succ hl) (fH.mp hn)
   subst this
   rw[gS (aC _),iu] at e1
   rw[gS (by rw[x.len];exact aC _),x.len,iu] at e2
   cases e1;cases e2
   exact hv
 ·rw[bA]
  refine zJ.mpr ⟨x.nd,iw.mpr ⟨(λq=>nomatch q),.nil⟩,λa ha b hb q=>?_⟩
  rw[q,dA.mp hb] at ha
  exact ho ha
 ·rw[bA] at ha
  rcases eW.mp ha with q|q
  ·exact x.new a q
  ·rw[dA.mp q];exact h0
 ·rw[bA] at ha
  rcases eW.mp ha with q|q
  ·exact x.big a q
  ·rw[dA.mp q];exact hg
theorem HR.xh(hr:HR S as T H h):sysModules<h.objs.size:=by
 obtain⟨o',I8⟩:=hr.two
 exact mh (by decide) (Heap.lt_size (hr.base _ _ I8))
noncomputable def TY(S:b0)(as:As)(T:TS)(s:Shared)(H':Hp)(ds:List (List Nat×V))(Q:List (Value×Value)->Shared->Prop):Prop:=
 ∀ vs Ht h' tk as' T',Ext Nil as T s.heap as' T' h'->HR S as' T' H' h'->Carries (strKind S.prog S.w) vs Ht->DR S as' T' ds Ht->Q vs { s with heap:=h',toks:=tk }
theorem DR.off{k:List Nat}{es:List (List Nat×V)}{ds:List (Str×Value)}(h:DR S as T es ds)(e:(bD k es).isNone=true):(⟨k.toArray⟩:Str) ∉ ds.map (·.1):=by
  induction h with
 |nil=>exact λh=>nomatch h
 |@cons j v w es ds _ _ ih=>
   rw[pA] at e
   have hj:¬ (j==k)=true:=λh=>by rw[if_pos h] at e;exact ff e
   rw[if_neg hj] at e
   intro h
   rcases fm.mp h with h|h
   ·have h:=beq_iff_eq.mpr h
    rw[nr] at h
    exact hj (beq_iff_eq.mpr (beq_iff_eq.mp h).symm)
   ·exact ih e h
noncomputable def RG:List (List Nat×V)->Prop
 |[]=>True
 |(k,_)::r=>(bD k r).isNone=true/\RG r
theorem DR.nd{es:List (List Nat×V)}{ds:List (Str×Value)}(h:DR S as T es ds)(n:RG es):(ds.map (·.1)).Nodup:=by
  induction h with
 |nil=>exact .nil
 |cons _ h ih=>exact iw.mpr ⟨h.off n.1,ih n.2⟩
noncomputable def TZ(S:b0)(call:bX)(d:Nat)(es:List ME):Prop:=∀⦃l:Lo⦄⦃H H':Hp⦄⦃ds:List (List Nat×V)⦄,jx S.P call es l H=some (ds,H') ->
 ∀⦃nm:bm⦄⦃sl:Sl⦄⦃ks:List (Option Expr)⦄⦃us:List Expr⦄⦃s:Shared⦄⦃as:As⦄⦃T:TS⦄⦃env:Env⦄⦃A:Around⦄⦃E:Value->Shared->Prop⦄⦃Q:List (Value×Value)->Shared->Prop⦄⦃pos:Pos⦄,gy A d->yh S.G es nm sl ks us=true->ER S as T env nm sl l s.heap->HR S as T H s.heap ->
  TY S as T s H' ds Q->wpAny (model S.prog S.w) A (evalPairs (pairTrees ks us env pos)) Q E s
theorem RH{P:Pg}{k v:ME}{r:List ME}{l:Lo}{H:Hp}:jx P call (k::v::r) l H=br (av P call k l H) λk H=>br (av P call v l H) λv H=>br (jx P call r l H) λes H=>(match k with
 |.str s=>if(bD s es).isNone then some ((s,v)::es,H) else none
 |_=>none):=by rw[jx] <;> rfl
theorem uN{P:Pg}{k v:ME}{r:List ME}{ds:List (List Nat×V)}(e:jx P call (k::v::r) l H=some (ds,H')){zg:Prop}(zk:∀ z b es H1 H2,av P call k l H=some (.str z,H1)->av P call v l H1=some (b,H2)->jx P call r l H2=some (es,H')->(bD z es).isNone=true->ds=(z,b)::es->zg):zg:=by
  rw[RH] at e
  refine ax e λa H1 e1 e=>?_
  refine ax e λb H2 e2 e=>?_
  refine ax e λGY H3 e3 e=>?_
  induction a using V.casesOn with
 |str z=>
    have e:(if(bD z GY).isNone then some ((z,b)::GY,H3) else none)=some (ds,H'):=e
    cases hz:(bD z GY).isNone with
   |false=>rw[hz] at e;exact nn e
   |true=>rw[hz] at e;cases e;exact zk z b GY H1 H2 e1 e2 e3 hz rfl
 |_=>exact nn e
theorem oS{G:Str->Option GV}{k v:ME}{r:List ME}{ks:List (Option Expr)}{us:List Expr}{P:List (Option Expr)->List Expr->Prop}(c:yh G (k::v::r) nm sl ks us=true)(zk:∀ x ks y us,aI G k nm sl x=true->aI G v nm sl y=true->yh G r nm sl ks us=true->P (some x::ks) (y::us)):P ks us:=by
  induction ks using List.casesOn with
 |nil=>exact ff c
 |cons x ks=>induction x with
   |none=>exact ff c
   |some x=>induction us using List.casesOn with
    |nil=>exact ff c
    |cons y us=>
     have c1:(aI G k nm sl x&&aI G v nm sl y&&yh G r nm sl ks us)=true:=c
     exact zk x ks y us (ah (ah c1).1).1 (ah (ah c1).1).2 (ah c1).2
structure T6(ds:List (List Nat×V))(ks:List (Option Expr))(us:List Expr):Prop where
 nd:RG ds
 l1:ds.length=us.length
 l2:ks.length=us.length
 al:ks.all (·.isSome)=true
theorem A8{G:Str->Option GV}{P:Pg}:∀{es:List ME}{l:Lo}{H H':Hp}{ds:List (List Nat×V)}{ks:List (Option Expr)}{us:List Expr},jx P call es l H=some (ds,H')->yh G es nm sl ks us=true->T6 ds ks us
 |[],_,_,_,_,_,_,e,c=>by
  rw[jx] at e;cases e
  obtain⟨rfl,rfl⟩:=Ev c
  exact⟨trivial,rfl,rfl,rfl⟩
 |[_],_,_,_,_,_,_,e,_=>by rw[jx] at e;cases e
 |k::v::r,_,_,_,_,_,_,e,c=>
  uN e λz b es H1 H2 _ _ e3 hz hd=>oS (P:=λks us=>T6 _ ks us) c λx ks y us _ _ c3=>by
   have h:=A8 e3 c3
   subst hd
   exact⟨⟨hz,h.nd⟩,congrArg (· + 1) h.l1,congrArg (· + 1) h.l2,h.al⟩
theorem J6:∀{es:List ME},eJ S call d es->TZ S call d es
 |[],_=>by
  intro l H H' ds e nm sl ks us s as T env A E Q pos ao c er hr q
  rw[jx] at e;cases e
  obtain⟨rfl,rfl⟩:=Ev c
  exact pairTrees_nil_walk (q _ [] s.heap s.toks as T (.refl ..) hr trivial .nil)
 |[_],_=>by
  intro l H H' ds e
  rw[jx] at e;cases e
 |k::v::r,hA=>by
  intro l H H' ds e nm sl ks us s as T env A E Q pos ao c er hr q
  refine uN e λz b es H1 H2 e1 e2 e3 hz hd=>?_
  subst hd
  refine oS (P:=λks us=>wpAny (model S.prog S.w) A (evalPairs (pairTrees ks us env pos)) Q E s) c λx ks y us cx cy c3=>?_
  refine pairTrees_cons_walk (hA.1 e1 ao cx er hr λwk h1 cX aO T1 x1 aM rk=>?_)
  refine hA.2.2.1 e2 ao cy (er.ext x1) aM λwv h2 iE iC T2 x2 bK rv=>?_
  refine J6 hA.2.2.2.2 e3 ao c3 (er.ext (x1.trans x2)) bK λvs Ht h3 pT nP T3 x3 fN hc hd=>?_
  refine ED rk λt hw _=>?_
  subst hw
  exact q _ ((⟨z.toArray⟩,wv)::Ht) h3 pT nP T3 ((x1.trans x2).trans x3) fN ⟨beq_self_eq_true _,rfl,hc⟩ (.cons (rv.mono x3.mono) hd)
theorem E5{es:List ME}(hA:eJ S call d es):bw S call d (.dict es):=by
  intro l H H' v e nm sl x s as T env A E Q ao c er hr q
  refine CH e λvs H1 e1 RI RK=>?_
  replace q:=(q.GK RI).S5 RK
  refine tU c λks us p T9 cD=>?_
  have hD:s.heap.get? s.heap.objs.size=none:=Hl (aC _)
  have kp:=bT (h:=s.heap) { cls:=Value.type "dict",data:=Data.dict #[] }
  have x0:Ext Nil as T s.heap as T (s.heap.push { cls:=Value.type "dict",data:=Data.dict #[] }):=Ext.keep kp
  have A9:=A8 e1 cD
  have hf:=hr.fresh hD
  induction ks using List.casesOn with
 |nil=>
   have hu:us=[]:=xU.mp A9.l2.symm
   have hv:vs=[]:=xU.mp (A9.l1.trans (congrArg List.length hu))
   subst hu;subst hv
   have e0:H1=H:=by
     clear A9
     induction es using List.casesOn with
    |nil=>exact(mm (bU e1)).2.symm
    |cons k r=>induction r using List.casesOn with
      |nil=>exact nn e1
      |cons v r=>exact oS (P:=λks us=>ks=[]->H1=H) cD (λ_ _ _ _ _ _ _ h=>nomatch h) rfl
   subst e0
   refine wpAny_Dict_empty ?_
   have hd:(s.heap.push { cls:=Value.type "dict",data:=Data.dict #[] }).DictOf (strKind S.prog S.w) s.heap.objs.size []:=Heap.DictOf.new _
   have bK:=(hr.keep kp).E4 hf.1 hf.2 hr.xh (o:=.dict []) (.dict hd (cj _) .nil)
   exact q _ _ s.toks _ _ (x0.adopt hD) bK (.loc (p:=(s.heap.objs.size,none)) (by rw[gS (by rw[hr.len];exact aC _),hr.len,iu];rfl))
 |cons k0 ks=>
   refine wpAny_Dict_walk (knd:=strKind S.prog S.w) A9.al A9.l2 (λh=>nomatch h) (A9.l2▸T9) (J6 hA e1 (s:={ s with heap:=s.heap.push { cls:=Value.type "dict",data:=Data.dict #[] } }) ao cD (er.ext x0) (hr.keep kp) λps Ht h1 tk aO T1 x1 aM hc hd=>?_)
   have Ua:s.heap.objs.size ∉ owned aO:=λh=>(x1.own _ h).elim hf.1 λh=>by rw[Heap.get?_push_size] at h;cases h;rfl
   have Ub:h1.DictOf (strKind S.prog S.w) s.heap.objs.size []:=let ⟨o,es,ep,q,t⟩:=Heap.DictOf.new (knd:=strKind S.prog S.w) s.heap;⟨o,es,ep,x1.kp _ o hf.1 (λh=>h) q,t⟩
   refine⟨Ht,hc,Ub,λh' hm hs=>?_⟩
   rw[merged_nil_of_nodup _ (hd.nd A9.nd)] at hm
   have k:∀ b o,b≠s.heap.objs.size->h1.get? b=some o->h'.get? b=some o:=λb o hb e=>(hs.2 b hb).trans e
   have bK:=aM.but k Ua hf.2 (aM.wY Ub)
   have x2:Ext Nil as T s.heap (aO++[(s.heap.objs.size,none)]) T1 h':=((x0.trans x1).off k hD (λh=>h)).adopt hD
   have m:eO aO T1 (aO++[(s.heap.objs.size,none)]) T1:=⟨λn q e=>bE e,λ_ _ e=>e⟩
   have fN:=bK.E4 Ua hf.2 hr.xh (o:=.dict vs) (.dict hm (by rw[A9.l1];exact bj T9 (by decide)) (hd.mono m))
   exact q _ _ _ _ _ x2 fN (.loc (p:=(s.heap.objs.size,none)) (by rw[gS (by rw[aM.len];exact aC _),aM.len,iu];rfl))
theorem gV{e:ME}(h:bw S call d e)(hp:∀{G:Str->Option GV}{nm:bm}{sl:Sl}{x:Expr}{env:Env}{whole:Sem Value},aI G e nm sl x=true->PySem.isTrue x env whole=(do let v ← whole;standAt x.pos;holding [v] (truthy v))):mG S call d e:=by
 intro l H H' b e1 nm sl x s as T env A E Q ao c er hr q
 exact G9 (hp c) h e1 ao c er hr q
theorem gi:∀{es:List ME},eJ S call d es->mH S call d es
 |[],_=>QF
 |_::_,h=>MQ h.1 (gi h.2.2)
mutual
theorem bb(C:Cx S)(ca:fz S call d):∀ e:ME,bw S call d e/\mG S call d e
 |.bad=>⟨QG,λe=>nn e⟩
 |.lit v=>⟨Jt,gV Jt λc=>by refine qO c ?_;intros;rfl⟩
 |.loc i=>⟨Ju,gV Ju λc=>by refine nk c ?_;intros;rfl⟩
 |.glob v=>⟨EK C,gV (EK C) λc=>by refine tK c ?_;intros;rfl⟩
 |.tup es=>⟨Jv (gi (fh C ca es)),gV (Jv (gi (fh C ca es))) λc=>by refine wF c ?_;intros;rfl⟩
 |.lst es=>⟨Jw (gi (fh C ca es)),gV (Jw (gi (fh C ca es))) λc=>by refine wG c ?_;intros;rfl⟩
 |.dict es=>⟨E5 (fh C ca es),gV (E5 (fh C ca es)) λc=>by refine tU c ?_;intros;rfl⟩
 |.attr e a=>⟨EL C (bb C ca e).1,gV (EL C (bb C ca e).1) λc=>by refine tL c ?_;intros;rfl⟩
 |.idx e i=>⟨Jx (bb C ca e).1 (bb C ca i).1,gV (Jx (bb C ca e).1 (bb C ca i).1) λc=>by refine wH c ?_;intros;rfl⟩
 |.slice e lo hi st=>⟨AO (bb C ca e).1 (bb C ca lo).1 (bb C ca hi).1 (bb C ca st).1,gV (AO (bb C ca e).1 (bb C ca lo).1 (bb C ca hi).1 (bb C ca st).1) λc=>by refine r8 c ?_;intros;rfl⟩
 |.bin op a b=>⟨Jz (bb C ca a).1 (bb C ca b).1,gV (Jz (bb C ca a).1 (bb C ca b).1) λc=>by refine wI c ?_;intros;rfl⟩
 |.neg a=>⟨JA (bb C ca a).1,gV (JA (bb C ca a).1) λc=>by refine wJ c ?_;intros;rfl⟩
 |.not a=>⟨QM (bb C ca a).1,QO (bb C ca a).2⟩
 |.cmp op a b=>⟨QP (bb C ca a).1 (bb C ca b).1,QQ (bb C ca a).1 (bb C ca b).1⟩
 |.mn op jX a b z=>⟨MR (bb C ca a).1 (bb C ca b).1 (bb C ca z).1,MT (bb C ca a).1 (bb C ca b).1 (bb C ca z).1⟩
 |.and es=>⟨QT (fh C ca es),QU (fh C ca es)⟩
 |.or es=>⟨Tp (fh C ca es),Tq (fh C ca es)⟩
 |.ay t a b=>⟨QR (bb C ca t).2 (bb C ca a).1 (bb C ca b).1,QS (bb C ca t).2 (bb C ca a).2 (bb C ca b).2⟩
 |.call f es=>⟨s_call C ca (bb C ca f).1 (gi (fh C ca es)),gV (s_call C ca (bb C ca f).1 (gi (fh C ca es))) λc=>by refine tP c ?_;intros;rfl⟩
 |.new k es=>⟨JD C ca (gi (fh C ca es)),gV (JD C ca (gi (fh C ca es))) λc=>by refine wN c ?_;intros;rfl⟩
 |.bp o m es=>⟨EP C ca (bb C ca o).1 (gi (fh C ca es)),gV (EP C ca (bb C ca o).1 (gi (fh C ca es))) λc=>by refine tS c ?_;intros;rfl⟩
 |.aS o m es=>⟨AP (bb C ca o).1 (gi (fh C ca es)),gV (AP (bb C ca o).1 (gi (fh C ca es))) λc=>by refine jK c ?_;intros;rfl⟩
 |.prim p es=>⟨EO C (gi (fh C ca es)),gV (EO C (gi (fh C ca es))) λc=>by refine tQ c ?_;intros;rfl⟩
 |.isin e k=>⟨EQ C (bb C ca e).1,gV (EQ C (bb C ca e).1) λc=>by refine tT c ?_;intros;rfl⟩
 |.comp elt src t k cs=>⟨E3 (bb C ca src).1 (bb C ca elt).1 (fh C ca cs),gV (E3 (bb C ca src).1 (bb C ca elt).1 (fh C ca cs)) λc=>by refine tW c ?_;intros;rfl⟩
theorem fh(C:Cx S)(ca:fz S call d):∀ es:List ME,eJ S call d es
 |[]=>trivial
 |e::r=>⟨(bb C ca e).1,(bb C ca e).2,fh C ca r⟩
end
mutual
theorem O5(C:Cx S)(ca:fz S call d):∀ t:Tg,yI S call d t
 |.loc i=>yJ
 |.attr o a=>MY C (bb C ca o).1
 |.idx o i=>QY (bb C ca o).1 (bb C ca i).1
 |.tup ts=>JK (J7 C ca ts)
theorem J7(C:Cx S)(ca:fz S call d):∀ ts:List Tg,xd S call d ts
 |[]=>JH
 |t::r=>ES (O5 C ca t) (J7 C ca r)
end
mutual
theorem Uc(C:Cx S)(ca:fz S call d):∀ st:MS,pV S call d st
 |.bad=>Q1
 |.expr e=>M0 (bb C ca e).1
 |.ret e=>Q2 (bb C ca e).1
 |.asg t e=>Nz (O5 C ca t) (bb C ca e).1 λelt src ct k cs _=>⟨(bb C ca src).1,(bb C ca elt).1,fh C ca cs⟩
 |.aug i op e=>Q4 (bb C ca e).1
 |.lM o a op e=>M3 C (bb C ca o).1 (bb C ca e).1
 |.ay t b o=>M2 (bb C ca t).2 (xi C ca b) (xi C ca o)
 |.kj t b=>M9 (bb C ca t).2 (xi C ca b)
 |.for t e b=>Nj (bb C ca e).1 (xi C ca b)
 |.brk=>Q3
 |.cont=>M1
 |.rep i=>Nf
theorem xi(C:Cx S)(ca:fz S call d):∀ b:List MS,uC S call d b
 |[]=>Q0
 |st::r=>MZ (Uc C ca st) (xi C ca r)
end
theorem sound(C:Cx S)(d:Nat):fz S (ae S.P d) d:=JV C (λ_ ca b=>xi C ca b) d
end
end Mine
namespace Mine
noncomputable def uO(K:Frag)(a:Addr):Option (List Value):=match K.lookup a with
 |some o=>(match o.cls with
  |.type n=>(match o.data with|.seq us _=>bif n=="tuple" then some us.toList else none|_=>none)
  |_=>none)
 |none=>none
theorem vV{K:Frag}{a:Addr}{us:List Value}(h:uO K a=some us){zg:Prop}(zk:∀ d n sl,(K.lookup a=some ⟨.type "tuple",d,.seq us.toArray n,sl⟩)->zg):zg:=by
 obtain⟨d,n,sl,cO⟩:∃ d n sl,K.lookup a=some ⟨.type "tuple",d,.seq us.toArray n,sl⟩:=by
   unfold uO at h
   cases hk:K.lookup a with
  |none=>rw[hk] at h;exact nn h
  |some o=>
     rw[hk] at h
     obtain⟨c,d,da,sl⟩:=o
     dsimp only at h
     induction c with
    |type n=>induction da with
      |seq Wg k=>
        have h:(bif n=="tuple" then some Wg.toList else none)=some us:=h
        cases hn:n=="tuple" with
       |false=>rw[hn] at h;exact nn h
       |true=>rw[hn] at h;cases h;cases beq_iff_eq.mp hn;exact⟨d,k,sl,rfl⟩
      |_=>exact nn h
    |_=>exact nn h
 exact zk d n sl cO
mutual
noncomputable def yR(K:Frag):V->Value->Bool
 |.none,u=>(match u with|.none=>true|_=>false)
 |.bool b,u=>(match u with|.bool c=>b==c|_=>false)
 |.int i,u=>(match u with|.int j _=>i==j|_=>false)
 |.str s,u=>(match u with|.str x _=>s==x.cps.toList&&decide (s.length<=1000)|_=>false)
 |.tup l,u=>(match u with
  |.ref a=>(match uO K a with|some us=>decide (l.length<=1000)&&valsOk K l us|none=>false)
  |_=>false)
 |_,_=>false
noncomputable def valsOk(K:Frag):List V->List Value->Bool
 |[],us=>us.isEmpty
 |v::r,us=>(match us with|u::t=>yR K v u&&valsOk K r t|[]=>false)
end
noncomputable def isMissing(r:Option (Option Value)):Bool:=match r with|some none=>true|_=>false
noncomputable def isRef(r:Option (Option Value))(a:Nat):Bool:=match r with|some (some (.ref b))=>b==a|_=>false
noncomputable def xj(K:Frag)(fa ca:List Nat)(x:Str)(g:GV):Bool:=match g with
 |.fn k=>(match fa[k]? with|some a=>isRef (nsIn K mainGlobals x) a|none=>false)
 |.val v=>(match nsIn K mainGlobals x with|some (some u)=>yR K v u|_=>false)
 |.cls c=>(match ca[c]? with|some a=>isRef (nsIn K mainGlobals x) a&&x==IU.getD c Str.empty|none=>false)
 |.pr _=>isMissing (nsIn K mainGlobals x)
 |.IV=>isMissing (nsIn K mainGlobals x)&&x==Str.ofString "isinstance"
 |.typ _=>isMissing (nsIn K mainGlobals x)
noncomputable def lj(x:Str):List (Str×GV)->Option GV
 |[]=>none
 |(y,g)::r=>if x==y then some g else lj x r
theorem J8{x y g r}:lj x ((y,g)::r)=(if x==y then some g else lj x r):=rfl
theorem uP{x:Str}{g:GV}:∀{gl:List (Str×GV)},lj x gl=some g->(x,g)∈gl
 |(y,h)::r,e=>by
  rw[J8] at e
  split at e
  ·rename_i hb;cases e;rw[beq_iff_eq.mp hb];exact .head _
  ·exact .tail _ (uP e)
noncomputable def yS(K:Frag)(r:Option (Option Value))(fa:List Nat)(k:Nat):Bool:=match fa[k]? with
 |some a=>isRef r a&&(match typeIn K (.ref a) with|some t=>t==.type "function"|none=>false)
 |none=>false
noncomputable def RL(r:Option (Option Value))(id:String):Bool:=match r with|some (some (.builtin i))=>i==id|_=>false
noncomputable def Ud:Option (Option Addr)->Bool
 |some none=>true
 |_=>false
noncomputable def J9(K:Frag)(fa:List Nat)(C:Nat)(ci:CI):Bool:=
 makesIn K C&&yS K (findIn K (.ref C) "__init__") fa ci.init&&RL (findIn K (.ref C) "__getattribute__") "object.__getattribute__"&&isMissing (findIn K (.ref C) "__getattr__")&&hasDictIn K C &&
 (List.range 22).all (λi=>(match findIn K (.ref C) (dW i) with|some at'=>noGet K at'|none=>false)&&(match takerIn K C (dW i) with|some none=>true|_=>false)) &&
 RL (findIn K (.ref C) "__setattr__") "object.__setattr__"&&plainOver K C &&
 ci.meths.all (λp=>yS K (findIn K (.ref C) (mx p.1)) fa p.2&&(List.range 22).all λi=>!(dW i==mx p.1))
noncomputable def jQ(G:Str->Option GV)(K:Frag):List FI->List Nat->Bool
 |[],_=>true
 |fi::r,a::t=>Mn G K fi a&&jQ G K r t
 |_::_,[]=>false
theorem Hu{G K gA}:jQ G K ([]) gA=(true):=rfl
theorem Hv{G K fi r a t}:jQ G K (fi::r) (a::t)=(Mn G K fi a&&jQ G K r t):=rfl
theorem Hw{G K gA ya}:jQ G K (gA::ya) ([])=(false):=rfl
theorem uQ{G:Str->Option GV}{K:Frag}:∀{fns:List FI}{fa:List Nat},jQ G K fns fa=true->∀(k:Nat)(fi:FI),fns[k]?=some fi->∃ a:Nat,fa[k]?=some a/\Mn G K fi a=true
 |[],_,_,k,fi,e=>by simp at e
 |_::_,[],h,_,_,_=>ff h
 |fi::r,a::t,h,k,Wh,e=>by
   simp only[Hu,Hv,Hw,dw] at h
   induction k using Nat.casesOn with
  |zero=>simp at e;subst e;exact⟨a,rfl,h.1⟩
  |succ k=>obtain⟨b,h1,h2⟩:=uQ h.2 k Wh (by simpa using e);exact⟨b,by simpa using h1,h2⟩
noncomputable def Dh(K:Frag)(fa ca:List Nat)(gl:List (Str×GV))(cls:List CI):Bool:=
 gl.all (λp=>xj K fa ca p.1 p.2)&&fa.all (λa=>keepIn K (.ref a))&&ca.all (λa=>keepIn K (.ref a))&&sT K ca &&
 (List.range 5).all λc=>(match ca[c]?,cls[c]? with|some C,some ci=>J9 K fa C ci|_,_=>false)
noncomputable def Ba(K:Frag)(p:Addr)(ws:List Value):TS:=λa i=>(a=p/\i=.ro ws)\/∃ us d n sl,i=.tup us/\K.lookup a=some ⟨.type "tuple",d,.seq us.toArray n,sl⟩
mutual
theorem xk{fa:List Nat}{K:Frag}{p:Addr}{ws:List Value}:∀{v:V}{u:Value},yR K v u=true->VR fa [] (Ba K p ws) v u
 |.none,u,h=>by induction u with
  |none=>exact .none
  |_=>exact ff h
 |.bool b,u,h=>by induction u with
  |bool c=>rw[beq_iff_eq.mp h];exact .bool _
  |_=>exact ff h
 |.int i,u,h=>by induction u with
  |int c t=>rw[beq_iff_eq.mp h];exact .int _ _
  |_=>exact ff h
 |.str s,u,h=>by induction u with
  |str x t=>
    obtain⟨h1,h2⟩:=ah (a:=s==x.cps.toList) (b:=decide (s.length<=1000)) h
    have:=beq_iff_eq.mp h1
    subst this
    exact .str x.cps.toList t (by have:=of_decide_eq_true h2;unfold lim;exact nt (am [_] (.d ab (.n 1000) (.d (.s (.n 1048576)) ab .z)) rfl this))
  |_=>exact ff h
 |.tup l,u,h=>by induction u with
  |ref a=>
    have h:(match uO K a with|some us=>decide (l.length<=1000)&&valsOk K l us|none=>false)=true:=h
    cases hk:uO K a with
   |none=>rw[hk] at h;exact ff h
   |some us=>
     rw[hk] at h
     obtain⟨h1,h2⟩:=ah (a:=decide (l.length<=1000)) (b:=valsOk K l us) h
     refine vV hk λd n sl hk=>?_
     exact .tup (ws:=us) (.inr ⟨us,d,n,sl,rfl,hk⟩) (by have:=of_decide_eq_true h1;unfold lim;exact nt (am [_] (.d ab (.n 1000) (.d (.s (.n 1048576)) ab .z)) rfl this)) (uR h2)
  |_=>exact ff h
 |.loc n,u,h=>ff h
 |.cm a b c,u,h=>ff h
 |.fn k,u,h=>ff h
 |.ro l,u,h=>ff h
theorem uR{fa:List Nat}{K:Frag}{p:Addr}{ws:List Value}:∀{l:List V}{us:List Value},valsOk K l us=true->bq fa [] (Ba K p ws) l us
 |[],us,h=>by
   have:=List.isEmpty_iff.mp (show us.isEmpty=true from h)
   subst this;exact .nil
 |v::r,us,h=>by
   induction us using List.casesOn with
  |nil=>exact ff h
  |cons u t=>
    obtain⟨h1,h2⟩:=ah (a:=yR K v u) (b:=valsOk K r t) h
    exact .cons (xk h1) (uR h2)
end
theorem q5{r:Option (Option Value)}{a:Nat}(h:isRef r a=true):r=some (some (.ref a)):=by
  induction r with
 |none=>exact ff h
 |some r=>induction r with
   |none=>exact ff h
   |some v=>induction v with
    |ref b=>cases beq_iff_eq.mp (show(b==a)=true from h);rfl
    |_=>exact ff h
theorem ik{r:Option (Option Value)}(h:isMissing r=true):r=some none:=by
  induction r with
 |none=>exact ff h
 |some r=>induction r with
   |none=>rfl
   |some v=>exact ff h
theorem E6{r:Option (Option Value)}{id:String}(h:RL r id=true):r=some (some (.builtin id)):=by
  induction r with
 |none=>exact ff h
 |some r=>induction r with
   |none=>exact ff h
   |some v=>induction v with
    |builtin i=>cases beq_iff_eq.mp (show(i==id)=true from h);rfl
    |_=>exact ff h
theorem xl{K:Frag}{r:Option (Option Value)}{fa:List Nat}{k:Nat}(h:yS K r fa k=true):∃ a,fa[k]?=some a/\r=some (some (.ref a))/\typeIn K (.ref a)=some (.type "function"):=by
 unfold yS at h
 split at h
 ·rename_i a ha
  simp only[dw] at h
  refine⟨a,ha,q5 h.1,?_⟩
  have:=h.2
  split at this
  ·rename_i t ht;rw[ht,beq_iff_eq.mp this]
  ·first|exact ff this|exact nn this|exact nn this
 ·first|exact ff h|exact nn h|exact nn h
theorem oT{α:Type}{m:Nat}{v:α}:∀{l:List (Nat×α)},eg m l=some v->(m,v)∈l
 |(j,u)::r,h=>by
  rw[jc] at h
  split at h
  ·rename_i hb;cases h;rw[beq_iff_eq.mp hb];exact .head _
  ·exact .tail _ (oT h)
theorem RM{S:b0}{gl:List (Str×GV)}{mg mb:Str->Option Value}{p:Addr}{ws:List Value}(hG:∀ x,S.G x=lj x gl)(hT:S.T0=Ba S.K p ws)(X:S.K.In S.h0)(lm:S.h0.NoLimit)(g1:S.h0.Ns mainGlobals mg)(g2:S.h0.Ns builtinsNs mb)
  (g3:∀ x:Str,x≠"__name__"->mb x=bootBuiltins x) (c1:Dh S.K S.fa S.ca gl S.P.cls=true) (c2:jQ S.G S.K S.P.fns S.fa=true):Cx S:=by
 unfold Dh at c1
 simp only[dw] at c1
 obtain⟨⟨⟨⟨d1,d2⟩,d3⟩,d4⟩,d5⟩:=c1
 have gk:∀ x g,S.G x=some g->xj S.K S.fa S.ca x g=true:=λx g e=>gq.mp d1 (x,g) (uP ((hG x).symm.trans e))
 refine⟨X,lm,⟨mg,mb,g1,g2,g3⟩,λx k e=>?_,λx v e=>?_,λx c e=>?_,λx q e=>?_,λx e=>?_,λx k e=>?_,uQ c2,λk a e=>?_,λk a e=>?_,λc C h5 e=>?_,d4⟩
 ·have:=gk x _ e
  simp only[xj] at this
  split at this
  ·rename_i a ha;exact⟨a,ha,q5 this⟩
  ·first|exact ff this|exact nn this|exact nn this
 ·have:=gk x _ e
  unfold xj at this
  simp only at this
  split at this
  ·rename_i u hu;exact⟨u,hu,hT▸xk this⟩
  ·first|exact ff this|exact nn this|exact nn this
 ·have:=gk x _ e
  unfold xj at this
  simp only at this
  split at this
  ·rename_i a ha
   simp only[dw] at this
   exact⟨a,ha,q5 this.1,beq_iff_eq.mp this.2⟩
  ·first|exact ff this|exact nn this|exact nn this
 ·exact ik (gk x _ e)
 ·have:=gk x _ e
  simp only[xj,dw] at this
  exact⟨ik this.1,beq_iff_eq.mp this.2⟩
 ·exact ik (gk x _ e)
 ·exact gq.mp d2 a (pk e)
 ·exact gq.mp d3 a (pk e)
 ·have:=gq.mp d5 c (tf.mpr h5)
  rw[e] at this
  split at this
  ·rename_i C' ci Wi yx
   cases Wi
   refine⟨ci,yx,?_⟩
   unfold J9 at this
   simp only[dw] at this
   obtain⟨⟨⟨⟨⟨⟨⟨⟨a1,a2⟩,a3⟩,a4⟩,a5⟩,a6⟩,a7⟩,a8⟩,a9⟩:=this
   refine⟨a1,xl a2,⟨E6 a3,ik a4⟩,a5,λi hi=>?_,λi hi=>?_,E6 a7,a8,λm k hm=>?_,λm k i hm hi=>?_⟩
   ·have:=gq.mp a6 i (tf.mpr hi)
    simp only[dw] at this
    have:=this.1
    split at this
    ·rename_i at' ha;exact⟨at',ha,this⟩
    ·first|exact ff this|exact nn this|exact nn this
   ·have:=gq.mp a6 i (tf.mpr hi)
    simp only[dw] at this
    have:=this.2
    split at this
    ·assumption
    ·first|exact ff this|exact nn this|exact nn this
   ·have Ka:=oT hm
    have:=gq.mp a9 _ Ka
    simp only[dw] at this
    exact xl this.1
   ·have Ka:=oT hm
    have:=gq.mp a9 _ Ka
    simp only[dw] at this
    have:=gq.mp this.2 i (tf.mpr hi)
    simpa using this
  ·first|exact ff this|exact nn this|exact nn this
theorem xm{fa:List Nat}{as:As}{T:TS}:∀{ws:List Value}{ns:List Int},IntsAre ws ns->bq fa as T (ns.map .int) ws
 |_,_,.nil=>.nil
 |_,_,.cons n t r=>.cons (.int n t) (xm r)
theorem entry{S:b0}(C:Cx S){p:Addr}{ws:List Value}{ns:List Int}{k d:Nat}{a:Addr}{H':Hp}{A:Around}{E Q:Value->Shared->Prop}{s:Shared}(hT:S.T0=Ba S.K p ws)(hs:s.heap=S.h0)(hL:S.h0.IsList p ws.toArray)(hI:IntsAre ws ns)(hz:ns.length<=lim)(ao:AM A d)(ha:S.fa[k]?=some a)
  (hc:ae S.P d k [.ro (ns.map .int)] []=some (.bool true,H')) (q:∀ h' tk,(∀ b o,S.h0.get? b=some o->h'.get? b=some o)->Q (.bool true) { s with heap:=h',toks:=tk }):wpAny (model S.prog S.w) A (call (.ref a) [.ref p]) Q E s:=by
 have hr:HR S [] S.T0 [] s.heap:=by
  rw[hs]
  refine⟨λ_ _ e=>e,rfl,λn o q e=>by simp at e,.nil,λa h=>by simp[owned] at h,λb i t=>?_,λ_ _ t=>t,λb us t=>?_,?_,λa h=>by simp[owned] at h⟩
  ·rw[hT] at t
   rcases t with⟨rfl,rfl⟩|⟨us,d,n,sl,rfl,hk⟩
   ·exact hL
   ·exact⟨_,C.X _ _ hk,rfl,n,rfl⟩
  ·rw[hT] at t
   rcases t with⟨rfl,_⟩|⟨us,d,n,sl,q,hk⟩
   ·obtain⟨o,ho,_⟩:=hL;exact⟨o,ho⟩
   ·first|exact ff q|exact nn q|cases q
  ·obtain⟨mc,n,_⟩:=C.lim
   exact kv n
 refine wpAny_call (sound C d hc ao ha hr (.cons (.ro (ws:=ws) (hT▸.inl ⟨rfl,rfl⟩) (by rw[cT];exact hz) (xm hI)) .nil) λw h' tk as' T' x dY vr=>?_)
 cases k7 vr
 exact q h' tk dY.base
end Mine
namespace Mine
noncomputable def Hx:List MS:=[.asg (.tup [.loc 2,.loc 3]) (.tup [.lst [],.lst [.loc 0]]),.kj (.cmp .gt (.prim .len [.loc 3]) (.lit (.int 0))) [.asg (.loc 4) (.aS (.loc 3) .pop []),.ay (.cmp .eq (.idx (.loc 4) (.lit (.int 0))) (.loc 1)) [.expr (.aS (.loc 3) .extend [.lst [.idx (.loc 4) (.lit (.int 2)),.idx (.loc 4) (.lit (.int 1))]])] [.expr (.aS (.loc 2) .append [.loc 4])]],.ret (.loc 2)]
noncomputable def q6:List MS:=[.ret (.and [.cmp .eq (.idx (.loc 0) (.lit (.int 0))) (.lit (.str [99,104,97,114,115])),.isin (.idx (.loc 0) (.lit (.int 1))) .str])]
noncomputable def mN:List MS:=[.asg (.loc 1) (.lst []),.for (.one 2) (.loc 0) [.ay (.call (.glob (.fn 1)) [.loc 2]) [.ay (.cmp .eq (.idx (.loc 2) (.lit (.int 1))) (.lit (.str []))) [.cont] [],.ay (.and [.cmp .gt (.prim .len [.loc 1]) (.lit (.int 0)),.call (.glob (.fn 1)) [.idx (.loc 1) (.bin .sub (.prim .len [.loc 1]) (.lit (.int 1)))]]) [.asg (.loc 2) (.tup [.lit (.str [99,104,97,114,115]),.bin .add (.idx (.aS (.loc 1) .pop []) (.lit (.int 1))) (.idx (.loc 2) (.lit (.int 1)))])] []] [],.expr (.aS (.loc 1) .append [.loc 2])],.ret (.loc 1)]
noncomputable def nR:List MS:=[.asg (.attr (.loc 0) 0) (.lst [])]
noncomputable def nS:List MS:=[.expr (.aS (.attr (.loc 0) 0) .append [.loc 1]),.ret (.bin .sub (.prim .len [.attr (.loc 0) 0]) (.lit (.int 1)))]
noncomputable def oU:List MS:=[.asg (.loc 2) (.lst [.tup [.glob (.str [112,117,116]),.loc 1]]),.kj (.cmp .gt (.prim .len [.loc 2]) (.lit (.int 0))) [.asg (.tup [.loc 3,.loc 4]) (.aS (.loc 2) .pop []),.ay (.cmp .eq (.loc 3) (.glob (.str [112,117,116]))) [.expr (.aS (.loc 2) .extend [.slice (.bp (.loc 0) 103 [.loc 4]) (.lit .none) (.lit .none) (.neg (.lit (.int 1)))])] [.ay (.cmp .eq (.loc 3) (.glob (.str [101,109,105,116]))) [.expr (.bp (.loc 0) 101 [.loc 4])] [.expr (.bp (.loc 0) 106 [.loc 3,.loc 4])]]]]
noncomputable def mO:List MS:=[.asg (.loc 2) (.idx (.loc 1) (.lit (.int 0))),.ay (.cmp .eq (.loc 2) (.lit (.str [99,97,116]))) [.ret (.comp (.tup [.glob (.str [112,117,116]),.loc 3]) (.call (.glob (.fn 2)) [.call (.glob (.fn 0)) [.loc 1,.lit (.str [99,97,116])]]) (.one 3) 1 [])] [],.ay (.cmp .eq (.loc 2) (.lit (.str [97,108,116]))) [.ret (.bp (.loc 0) 104 [.call (.glob (.fn 0)) [.loc 1,.lit (.str [97,108,116])]])] [],.ay (.cmp .eq (.loc 2) (.lit (.str [97,114,98,110,111]))) [.ret (.bp (.loc 0) 105 [.idx (.loc 1) (.lit (.int 1))])] [],.ay (.or [.cmp .eq (.loc 2) (.lit (.str [108,97,116,101,114])),.cmp .eq (.loc 2) (.lit (.str [110,111,119]))]) [.expr (.bp (.loc 0) 101 [.tup [.glob (.str [109,97,114,107])]]),.ret (.lst [.tup [.glob (.str [112,117,116]),.idx (.loc 1) (.lit (.int 1))],.tup [.glob (.str [101,109,105,116]),.tup [.ay (.cmp .eq (.loc 2) (.lit (.str [108,97,116,101,114]))) (.glob (.str [110,97,109,101])) (.glob (.str [115,101,116])),.idx (.loc 1) (.lit (.int 2))]]])] [],.ay (.cmp .isin (.loc 2) (.glob (.tup [.str [99,104,97,114,115],.str [108,101,110],.str [112,111,115],.str [114,112,111,115],.str [116,97,98],.str [114,116,97,98],.str [97,110,121],.str [110,111,116,97,110,121],.str [115,112,97,110],.str [98,114,101,97,107],.str [114,101,109]]))) [.expr (.bp (.loc 0) 101 [.tup [.glob (.str [111,110,101]),.loc 2,.ay (.cmp .gt (.prim .len [.loc 1]) (.lit (.int 1))) (.idx (.loc 1) (.lit (.int 1))) (.lit (.none))]])] [.ay (.or [.cmp .eq (.loc 2) (.lit (.str [97,114,98])),.cmp .eq (.loc 2) (.lit (.str [98,97,108]))]) [.expr (.bp (.loc 0) 101 [.tup [.glob (.str [119,97,121,115]),.loc 2]])] [.expr (.bp (.loc 0) 101 [.ay (.cmp .isin (.loc 2) (.glob (.tup [.str [102,101,110,99,101],.str [102,97,105,108],.str [97,98,111,114,116],.str [115,117,99,99,101,101,100]]))) (.tup [.loc 2]) (.tup [.ay (.cmp .eq (.loc 2) (.lit (.str [99,117,114,115,111,114]))) (.glob (.str [112,108,97,99,101])) (.glob (.str [97,115,107])),.idx (.loc 1) (.lit (.int 1))])])]],.ret (.lst [])]
noncomputable def lX:List MS:=[.asg (.tup [.loc 2,.loc 3]) (.tup [.lst [],.lst [.neg (.lit (.int 1)),.lst []]]),.for (.one 4) (.slice (.loc 1) (.lit .none) (.bin .sub (.prim .len [.loc 1]) (.lit (.int 1))) (.lit .none)) [.expr (.aS (.loc 2) .extend [.lst [.tup [.glob (.str [111,112,101,110]),.loc 3],.tup [.glob (.str [112,117,116]),.loc 4],.tup [.glob (.str [115,104,117,116]),.loc 3]]])],.ret (.bin .add (.loc 2) (.lst [.tup [.glob (.str [112,117,116]),.idx (.loc 1) (.bin .sub (.prim .len [.loc 1]) (.lit (.int 1)))],.tup [.glob (.str [109,101,101,116]),.loc 3]]))]
noncomputable def lY:List MS:=[.asg (.loc 2) (.bp (.loc 0) 101 [.lit (.none)]),.asg (.loc 3) (.bp (.loc 0) 101 [.lit (.none)]),.asg (.idx (.attr (.loc 0) 0) (.loc 2)) (.tup [.glob (.str [115,112,108,105,116]),.prim .len [.attr (.loc 0) 0]]),.expr (.bp (.loc 0) 101 [.tup [.glob (.str [109,97,114,107])]]),.ret (.lst [.tup [.glob (.str [112,117,116]),.loc 1],.tup [.glob (.str [101,109,105,116]),.tup [.glob (.str [103,97,105,110])]],.tup [.glob (.str [101,109,105,116]),.tup [.glob (.str [106,117,109,112]),.loc 2]],.tup [.glob (.str [109,101,101,116]),.lst [.loc 2,.lst [.loc 3]]]])]
noncomputable def mP:List MS:=[.ay (.cmp .eq (.loc 1) (.glob (.str [111,112,101,110]))) [.asg (.idx (.loc 2) (.lit (.int 0))) (.bp (.loc 0) 101 [.lit (.none)])] [.ay (.cmp .eq (.loc 1) (.glob (.str [115,104,117,116]))) [.expr (.aS (.idx (.loc 2) (.lit (.int 1))) .append [.bp (.loc 0) 101 [.lit (.none)]]),.asg (.idx (.attr (.loc 0) 0) (.idx (.loc 2) (.lit (.int 0)))) (.tup [.glob (.str [115,112,108,105,116]),.prim .len [.attr (.loc 0) 0]])] [.for (.one 3) (.idx (.loc 2) (.lit (.int 1))) [.asg (.idx (.attr (.loc 0) 0) (.loc 3)) (.tup [.glob (.str [106,117,109,112]),.prim .len [.attr (.loc 0) 0]])]]]]
noncomputable def sF:List MS:=[.asg (.loc 1) (.lst []),.for (.one 2) (.loc 0) [.ay (.cmp .isin (.idx (.loc 2) (.lit (.int 0))) (.tup [.glob (.str [106,117,109,112]),.glob (.str [115,112,108,105,116])])) [.asg (.loc 3) (.idx (.loc 2) (.lit (.int 1))),.kj (.cmp .eq (.idx (.idx (.loc 0) (.loc 3)) (.lit (.int 0))) (.glob (.str [106,117,109,112]))) [.asg (.loc 3) (.idx (.idx (.loc 0) (.loc 3)) (.lit (.int 1)))],.asg (.loc 2) (.tup [.idx (.loc 2) (.lit (.int 0)),.loc 3])] [],.expr (.aS (.loc 1) .append [.loc 2])],.ret (.loc 1)]
noncomputable def oW:List MS:=[.asg (.loc 1) (.new 0 []),.expr (.bp (.loc 1) 102 [.loc 0]),.expr (.bp (.loc 1) 101 [.tup [.glob (.str [100,111,110,101])]]),.ret (.call (.glob (.fn 10)) [.attr (.loc 1) 0])]
noncomputable def nT:List MS:=[.bad]
noncomputable def sG:List MS:=[.bad]
noncomputable def sH:List MS:=[.bad]
noncomputable def sI:List MS:=[.asg (.attr (.loc 0) 15) (.loc 1),.asg (.attr (.loc 0) 16) (.loc 2),.asg (.attr (.loc 0) 17) (.loc 3)]
noncomputable def Di:List MS:=[.ret (.isin (.loc 0) (.cls 5))]
noncomputable def NA:List MS:=[.bad]
noncomputable def q7:List MS:=[.bad]
noncomputable def q8:List MS:=[.asg (.tup [.loc 1,.loc 2]) (.tup [.prim .abs [.loc 0],.lit (.str [])]),.kj (.or [.cmp .gt (.loc 1) (.lit (.int 0)),.cmp .eq (.loc 2) (.lit (.str []))]) [.asg (.loc 2) (.bin .add (.prim .chr [.bin .add (.lit (.int 48)) (.bin .mod (.loc 1) (.lit (.int 10)))]) (.loc 2)),.aug 1 .fdiv (.lit (.int 10))],.ret (.ay (.cmp .lt (.loc 0) (.lit (.int 0))) (.bin .add (.lit (.str [45])) (.loc 2)) (.loc 2))]
noncomputable def Bb:List MS:=[.bad]
noncomputable def Dj:List MS:=[.ay (.isin (.loc 0) .str) [.ret (.loc 0)] [],.ret (.ay (.isin (.loc 0) .int) (.call (.glob (.fn 19)) [.loc 0]) (.lit (.none)))]
noncomputable def yT:List MS:=[.bad]
noncomputable def uS:List MS:=[.bad]
noncomputable def uT:List MS:=[.bad]
noncomputable def vW:List MS:=[.ay (.isin (.loc 0) (.cls 6)) [.ret (.attr (.loc 0) 18)] [],.ay (.isin (.loc 0) (.cls 7)) [.ret (.tup [.lit (.str [100,101,108,97,121]),.attr (.loc 0) 19])] [],.asg (.loc 1) (.call (.glob (.fn 21)) [.loc 0]),.ay (.cmp .is (.loc 1) (.lit (.none))) [.bad] [],.ret (.tup [.lit (.str [99,104,97,114,115]),.loc 1])]
noncomputable def vX:List MS:=[.ret (.isin (.loc 0) .tuple)]
noncomputable def Dk:List MS:=[.ay (.or [.and [.cmp .i8 (.idx (.loc 0) (.lit (.int 0))) (.glob (.tup [.str [108,101,110],.str [112,111,115],.str [114,112,111,115],.str [116,97,98],.str [114,116,97,98]])),.cmp .i8 (.idx (.loc 0) (.lit (.int 0))) (.glob (.tup [.str [97,110,121],.str [110,111,116,97,110,121],.str [115,112,97,110],.str [98,114,101,97,107]]))],.not (.call (.glob (.fn 26)) [.idx (.loc 0) (.lit (.int 1))])]) [.ret (.loc 0)] [],.asg (.loc 2) (.bp (.loc 1) 116 [.idx (.idx (.loc 0) (.lit (.int 1))) (.lit (.int 1))]),.ay (.call (.glob (.fn 16)) [.loc 2]) [.ret (.lit (.none))] [],.ay (.cmp .isin (.idx (.loc 0) (.lit (.int 0))) (.glob (.tup [.str [108,101,110],.str [112,111,115],.str [114,112,111,115],.str [116,97,98],.str [114,116,97,98]]))) [.ret (.tup [.idx (.loc 0) (.lit (.int 0)),.call (.glob (.fn 23)) [.loc 2,.idx (.loc 0) (.lit (.int 0)),.attr (.loc 1) 12]])] [],.ret (.tup [.idx (.loc 0) (.lit (.int 0)),.call (.glob (.fn 24)) [.loc 2,.idx (.loc 0) (.lit (.int 0))]])]
noncomputable def yU:List MS:=[.asg (.loc 3) (.bin .add (.loc 1) (.prim .len [.loc 2])),.ret (.ay (.cmp .eq (.slice (.loc 0) (.loc 1) (.loc 3) (.lit .none)) (.loc 2)) (.loc 3) (.lit (.none)))]
noncomputable def Dl:List MS:=[.ret (.ay (.cmp .le (.bin .add (.loc 1) (.loc 2)) (.prim .len [.loc 0])) (.bin .add (.loc 1) (.loc 2)) (.lit (.none)))]
noncomputable def Dm:List MS:=[.ret (.ay (.cmp .eq (.loc 0) (.loc 1)) (.loc 0) (.lit (.none)))]
noncomputable def Be:List MS:=[.ret (.ay (.cmp .eq (.bin .sub (.prim .len [.loc 0]) (.loc 1)) (.loc 2)) (.loc 1) (.lit (.none)))]
noncomputable def Dn:List MS:=[.ret (.ay (.mn .le .le (.loc 1) (.loc 2) (.prim .len [.loc 0])) (.loc 2) (.lit (.none)))]
noncomputable def Bf:List MS:=[.asg (.loc 3) (.bin .sub (.prim .len [.loc 0]) (.loc 2)),.ret (.ay (.cmp .le (.loc 1) (.loc 3)) (.loc 3) (.lit (.none)))]
noncomputable def Do:List MS:=[.ret (.prim .len [.loc 0])]
noncomputable def Hy:List MS:=[.ret (.ay (.and [.cmp .lt (.loc 1) (.prim .len [.loc 0]),.cmp .isin (.idx (.loc 0) (.loc 1)) (.loc 2)]) (.bin .add (.loc 1) (.lit (.int 1))) (.lit (.none)))]
noncomputable def yV:List MS:=[.ret (.ay (.and [.cmp .lt (.loc 1) (.prim .len [.loc 0]),.cmp .i8 (.idx (.loc 0) (.loc 1)) (.loc 2)]) (.bin .add (.loc 1) (.lit (.int 1))) (.lit (.none)))]
noncomputable def Dp:List MS:=[.kj (.and [.cmp .lt (.loc 1) (.prim .len [.loc 0]),.cmp .eq (.cmp .isin (.idx (.loc 0) (.loc 1)) (.loc 2)) (.loc 3)]) [.aug 1 .add (.lit (.int 1))],.ret (.loc 1)]
noncomputable def Bg:List MS:=[.asg (.loc 3) (.call (.glob (.fn 37)) [.loc 0,.loc 1,.loc 2,.lit (.bool true)]),.ret (.ay (.cmp .gt (.loc 3) (.loc 1)) (.loc 3) (.lit (.none)))]
noncomputable def yW:List MS:=[.asg (.loc 3) (.call (.glob (.fn 37)) [.loc 0,.loc 1,.loc 2,.lit (.bool false)]),.ret (.ay (.cmp .lt (.loc 3) (.prim .len [.loc 0])) (.loc 3) (.lit (.none)))]
noncomputable def Bh:List MS:=[.ret (.prim .list [.prim .range [.loc 1,.bin .add (.prim .len [.loc 0]) (.lit (.int 1))]])]
noncomputable def Dq:List MS:=[.asg (.loc 2) (.lit (.int 0)),.kj (.cmp .lt (.loc 1) (.prim .len [.loc 0])) [.ay (.cmp .eq (.idx (.loc 0) (.loc 1)) (.glob (.str [40]))) [.aug 2 .add (.lit (.int 1))] [.ay (.cmp .eq (.idx (.loc 0) (.loc 1)) (.glob (.str [41]))) [.aug 2 .sub (.lit (.int 1))] []],.aug 1 .add (.lit (.int 1)),.ay (.cmp .lt (.loc 2) (.lit (.int 0))) [.ret (.lit (.none))] [],.ay (.cmp .eq (.loc 2) (.lit (.int 0))) [.ret (.loc 1)] []],.ret (.lit (.none))]
noncomputable def Bi:List MS:=[.asg (.tup [.loc 2,.loc 3]) (.tup [.lst [],.call (.glob (.fn 41)) [.loc 0,.loc 1]]),.kj (.cmp .eE (.loc 3) (.lit (.none))) [.expr (.aS (.loc 2) .append [.loc 3]),.asg (.loc 3) (.call (.glob (.fn 41)) [.loc 0,.loc 3])],.ret (.loc 2)]
noncomputable def Dr:List MS:=[.ay (.cmp .eq (.loc 0) (.lit (.str [99,104,97,114,115]))) [.ret (.call (.glob (.fn 28)) [.loc 1,.loc 2,.loc 3])] [],.ay (.cmp .eq (.loc 0) (.lit (.str [108,101,110]))) [.ret (.call (.glob (.fn 29)) [.loc 1,.loc 2,.loc 3])] [],.ay (.cmp .eq (.loc 0) (.lit (.str [112,111,115]))) [.ret (.call (.glob (.fn 30)) [.loc 2,.loc 3])] [],.ay (.cmp .eq (.loc 0) (.lit (.str [114,112,111,115]))) [.ret (.call (.glob (.fn 31)) [.loc 1,.loc 2,.loc 3])] [],.ay (.cmp .eq (.loc 0) (.lit (.str [116,97,98]))) [.ret (.call (.glob (.fn 32)) [.loc 1,.loc 2,.loc 3])] [],.ay (.cmp .eq (.loc 0) (.lit (.str [114,116,97,98]))) [.ret (.call (.glob (.fn 33)) [.loc 1,.loc 2,.loc 3])] [],.ay (.cmp .eq (.loc 0) (.lit (.str [97,110,121]))) [.ret (.call (.glob (.fn 35)) [.loc 1,.loc 2,.loc 3])] [],.ay (.cmp .eq (.loc 0) (.lit (.str [110,111,116,97,110,121]))) [.ret (.call (.glob (.fn 36)) [.loc 1,.loc 2,.loc 3])] [],.ay (.cmp .eq (.loc 0) (.lit (.str [115,112,97,110]))) [.ret (.call (.glob (.fn 38)) [.loc 1,.loc 2,.loc 3])] [],.ret (.call (.glob (.fn 39)) [.loc 1,.loc 2,.loc 3])]
noncomputable def yX:List MS:=[.ret (.ay (.cmp .eq (.idx (.loc 0) (.lit (.int 0))) (.lit (.str [114,101,109]))) (.call (.glob (.fn 34)) [.loc 1]) (.call (.glob (.fn 43)) [.idx (.loc 0) (.lit (.int 0)),.loc 1,.loc 2,.idx (.loc 0) (.lit (.int 1))]))]
noncomputable def Ds:List MS:=[.ay (.cmp .eq (.loc 0) (.lit (.str [97,114,98]))) [.ret (.call (.glob (.fn 40)) [.loc 1,.loc 2])] [],.ay (.cmp .eq (.loc 0) (.lit (.str [98,97,108]))) [.ret (.call (.glob (.fn 42)) [.loc 1,.loc 2])] [],.ay (.cmp .eq (.loc 0) (.lit (.str [114,101,109]))) [.ret (.lst [.call (.glob (.fn 34)) [.loc 1]])] [],.asg (.loc 4) (.call (.glob (.fn 43)) [.loc 0,.loc 1,.loc 2,.loc 3]),.ret (.ay (.cmp .is (.loc 4) (.lit (.none))) (.lst []) (.lst [.loc 4]))]
noncomputable def Bj:List MS:=[.asg (.attr (.loc 0) 0) (.loc 1),.asg (.attr (.loc 0) 1) (.loc 2),.asg (.attr (.loc 0) 2) (.loc 3),.asg (.attr (.loc 0) 3) (.loc 4),.asg (.attr (.loc 0) 4) (.loc 5),.asg (.attr (.loc 0) 5) (.loc 6)]
noncomputable def vY:List MS:=[.ret (.new 2 [.attr (.loc 0) 0,.loc 1,.attr (.loc 0) 2,.attr (.loc 0) 3,.attr (.loc 0) 4,.attr (.loc 0) 5])]
noncomputable def vZ:List MS:=[.asg (.attr (.loc 0) 6) (.loc 1),.asg (.attr (.loc 0) 7) (.loc 2),.asg (.attr (.loc 0) 8) (.lst [])]
noncomputable def yY:List MS:=[.asg (.loc 3) (.new 2 [.loc 1,.lit (.int 0),.loc 2,.lit (.none),.lit (.none),.lit (.none)]),.kj (.cmp .eE (.loc 3) (.lit (.none))) [.expr (.bp (.attr (.loc 0) 7) 118 []),.asg (.loc 4) (.idx (.attr (.loc 3) 0) (.attr (.loc 3) 1)),.ay (.and [.cmp .eq (.idx (.loc 4) (.lit (.int 0))) (.glob (.str [100,111,110,101])),.cmp .is (.attr (.loc 3) 5) (.lit (.none))]) [.ret (.tup [.glob (.int 0),.loc 3])] [],.ay (.cmp .eq (.idx (.loc 4) (.lit (.int 0))) (.glob (.str [97,98,111,114,116]))) [.ret (.tup [.glob (.int 2),.lit (.none)])] [],.ay (.not (.bp (.loc 0) 110 [.loc 4,.loc 3])) [.asg (.loc 3) (.bp (.loc 0) 109 []),.ay (.and [.cmp .eE (.loc 3) (.lit (.none)),.cmp .is (.attr (.loc 3) 0) (.lit (.none))]) [.ret (.tup [.glob (.int 2),.lit (.none)])] []] []],.ret (.tup [.glob (.int 1),.lit (.none)])]
noncomputable def qe:List MS:=[.ret (.ay (.cmp .gt (.prim .len [.attr (.loc 0) 8]) (.lit (.int 0))) (.aS (.attr (.loc 0) 8) .pop []) (.lit (.none)))]
noncomputable def v6:List MS:=[.asg (.loc 3) (.idx (.loc 1) (.lit (.int 0))),.ay (.cmp .eq (.loc 3) (.glob (.str [111,110,101]))) [.ret (.bp (.loc 0) 111 [.loc 1,.loc 2])] [],.ay (.cmp .eq (.loc 3) (.glob (.str [115,112,108,105,116]))) [.expr (.aS (.attr (.loc 0) 8) .append [.bp (.loc 2) 107 [.idx (.loc 1) (.lit (.int 1))]])] [.ay (.cmp .eq (.loc 3) (.glob (.str [106,117,109,112]))) [.asg (.attr (.loc 2) 1) (.idx (.loc 1) (.lit (.int 1))),.ret (.lit (.bool true))] [.ay (.cmp .eq (.loc 3) (.glob (.str [109,97,114,107]))) [.asg (.attr (.loc 2) 4) (.tup [.attr (.loc 2) 4,.attr (.loc 2) 2])] [.ay (.cmp .isin (.loc 3) (.tup [.glob (.str [110,97,109,101]),.glob (.str [115,101,116]),.glob (.str [103,97,105,110])])) [.ay (.not (.bp (.loc 0) 112 [.loc 1,.loc 2])) [.ret (.lit (.bool false))] []] [.ay (.cmp .eq (.loc 3) (.glob (.str [112,108,97,99,101]))) [.ay (.not (.bp (.attr (.loc 0) 7) 117 [.idx (.loc 1) (.lit (.int 1)),.attr (.loc 2) 2])) [.ret (.lit (.bool false))] []] [.ret (.bp (.loc 0) 113 [.loc 1,.loc 2])]]]]],.lM (.loc 2) 1 .add (.lit (.int 1)),.ret (.lit (.bool true))]
noncomputable def qf:List MS:=[.asg (.loc 3) (.idx (.loc 1) (.lit (.int 2))),.ay (.isin (.loc 3) .tuple) [.asg (.loc 4) (.call (.glob (.fn 27)) [.tup [.idx (.loc 1) (.lit (.int 1)),.loc 3],.attr (.loc 0) 7]),.ay (.cmp .is (.loc 4) (.lit (.none))) [.ret (.lit (.bool false))] [],.asg (.loc 3) (.idx (.loc 4) (.lit (.int 1)))] [],.asg (.loc 5) (.call (.glob (.fn 44)) [.tup [.idx (.loc 1) (.lit (.int 1)),.loc 3],.attr (.loc 0) 6,.attr (.loc 2) 2]),.ay (.cmp .is (.loc 5) (.lit (.none))) [.ret (.lit (.bool false))] [],.asg (.attr (.loc 2) 2) (.loc 5),.lM (.loc 2) 1 .add (.lit (.int 1)),.ret (.lit (.bool true))]
noncomputable def uU:List MS:=[.asg (.tup [.loc 3,.loc 4]) (.attr (.loc 2) 4),.asg (.attr (.loc 2) 4) (.loc 3),.asg (.loc 5) (.slice (.attr (.loc 0) 6) (.loc 4) (.attr (.loc 2) 2) (.lit .none)),.ay (.cmp .eq (.idx (.loc 1) (.lit (.int 0))) (.glob (.str [103,97,105,110]))) [.ret (.cmp .gt (.attr (.loc 2) 2) (.loc 4))] [],.ay (.cmp .eq (.idx (.loc 1) (.lit (.int 0))) (.glob (.str [115,101,116]))) [.ret (.bp (.attr (.loc 0) 7) 117 [.idx (.loc 1) (.lit (.int 1)),.loc 5])] [],.asg (.attr (.loc 2) 3) (.tup [.attr (.loc 2) 3,.tup [.idx (.loc 1) (.lit (.int 1)),.loc 5]]),.ret (.lit (.bool true))]
noncomputable def uV:List MS:=[.asg (.loc 3) (.idx (.loc 1) (.lit (.int 0))),.ay (.cmp .eq (.loc 3) (.glob (.str [102,97,105,108]))) [.ret (.lit (.bool false))] [],.ay (.cmp .eq (.loc 3) (.glob (.str [119,97,121,115]))) [.ret (.bp (.loc 0) 114 [.loc 2,.call (.glob (.fn 45)) [.idx (.loc 1) (.lit (.int 1)),.attr (.loc 0) 6,.attr (.loc 2) 2,.lit (.none)]])] [],.ay (.cmp .eq (.loc 3) (.glob (.str [97,115,107]))) [.ret (.bp (.loc 0) 115 [.idx (.loc 1) (.lit (.int 1)),.loc 2])] [],.ay (.cmp .eq (.loc 3) (.glob (.str [100,111,110,101]))) [.asg (.tup [.attr (.loc 2) 5,.tup [.attr (.loc 2) 0,.attr (.loc 2) 1]]) (.attr (.loc 2) 5),.ret (.lit (.bool true))] [],.ay (.cmp .eq (.loc 3) (.glob (.str [102,101,110,99,101]))) [.expr (.aS (.attr (.loc 0) 8) .append [.new 2 [.lit (.none),.lit (.int 0),.lit (.int 0),.lit (.none),.lit (.none),.lit (.none)]])] [.ay (.cmp .eq (.loc 3) (.glob (.str [115,117,99,99,101,101,100]))) [.expr (.aS (.attr (.loc 0) 8) .append [.bp (.loc 2) 107 [.attr (.loc 2) 1]])] []],.lM (.loc 2) 1 .add (.lit (.int 1)),.ret (.lit (.bool true))]
noncomputable def oX:List MS:=[.ay (.cmp .eq (.prim .len [.loc 2]) (.lit (.int 0))) [.ret (.lit (.bool false))] [],.lM (.loc 1) 1 .add (.lit (.int 1)),.for (.one 3) (.slice (.loc 2) (.lit .none) (.lit (.int 0)) (.neg (.lit (.int 1)))) [.asg (.loc 4) (.bp (.loc 1) 107 [.attr (.loc 1) 1]),.asg (.attr (.loc 4) 2) (.loc 3),.expr (.aS (.attr (.loc 0) 8) .append [.loc 4])],.asg (.attr (.loc 1) 2) (.idx (.loc 2) (.lit (.int 0))),.ret (.lit (.bool true))]
noncomputable def uW:List MS:=[.asg (.loc 3) (.bp (.attr (.loc 0) 7) 116 [.loc 1]),.ay (.call (.glob (.fn 16)) [.loc 3]) [.ret (.lit (.bool false))] [],.asg (.attr (.loc 2) 5) (.tup [.attr (.loc 2) 5,.tup [.attr (.loc 2) 0,.bin .add (.attr (.loc 2) 1) (.lit (.int 1))]]),.asg (.tup [.attr (.loc 2) 0,.attr (.loc 2) 1]) (.tup [.call (.glob (.fn 11)) [.call (.glob (.fn 25)) [.loc 3]],.lit (.int 0)]),.ret (.lit (.bool true))]
noncomputable def v7:List MS:=[.asg (.loc 1) (.lst []),.kj (.cmp .eE (.loc 0) (.lit (.none))) [.asg (.tup [.loc 0,.loc 2]) (.loc 0),.expr (.aS (.loc 1) .append [.loc 2])],.expr (.aS (.loc 1) .reverse []),.ret (.loc 1)]
noncomputable def sJ:List MS:=[.for (.one 4) (.prim .range [.ay (.loc 2) (.lit (.int 1)) (.bin .add (.prim .len [.loc 1]) (.lit (.int 1)))]) [.asg (.tup [.loc 5,.loc 6]) (.bp (.new 3 [.loc 1,.loc 3]) 108 [.loc 0,.loc 4]),.ay (.cmp .eq (.loc 5) (.glob (.int 0))) [.ret (.tup [.loc 4,.attr (.loc 6) 2,.call (.glob (.fn 57)) [.attr (.loc 6) 3]])] [],.ay (.cmp .eq (.loc 5) (.glob (.int 2))) [.ret (.lit (.none))] []],.ret (.lit (.none))]
noncomputable def qg:List MS:=[.ret (.call (.glob (.fn 58)) [.call (.glob (.fn 11)) [.loc 0],.loc 1,.loc 2,.loc 3])]
noncomputable def qh:List MS:=[.asg (.attr (.loc 0) 9) (.loc 1),.asg (.attr (.loc 0) 10) (.loc 2),.asg (.attr (.loc 0) 11) (.loc 3),.asg (.attr (.loc 0) 12) (.lit (.int 64)),.asg (.attr (.loc 0) 13) (.lit (.int 0)),.asg (.attr (.loc 0) 14) (.lst [])]
noncomputable def lZ:List MS:=[.ay (.cmp .eq (.idx (.loc 1) (.lit (.int 0))) (.lit (.str [110,97,109,101]))) [.ret (.aS (.attr (.loc 0) 9) .get [.idx (.loc 1) (.lit (.int 1)),.lit (.str [])])] [],.ret (.ay (.cmp .eq (.idx (.loc 1) (.lit (.int 0))) (.lit (.str [102,97,105,108,115]))) (.bad) (.idx (.loc 1) (.lit (.int 1))))]
noncomputable def nU:List MS:=[.ay (.cmp .isin (.attr (.loc 1) 17) (.attr (.loc 0) 11)) [.ret (.lit (.bool false))] [],.asg (.idx (.attr (.loc 0) 9) (.attr (.loc 1) 17)) (.loc 2),.expr (.aS (.attr (.loc 0) 14) .append [.tup [.attr (.loc 1) 17,.loc 2]]),.ret (.lit (.bool true))]
noncomputable def qi:List MS:=[.lM (.loc 0) 13 .add (.lit (.int 1)),.ay (.cmp .gt (.attr (.loc 0) 13) (.attr (.loc 0) 10)) [.bad] []]
noncomputable def uX:List MS:=[.for (.one 4) (.prim .range [.ay (.loc 2) (.lit (.int 1)) (.bin .add (.prim .len [.loc 1]) (.lit (.int 1)))]) [.asg (.loc 5) (.call (.glob (.fn 65)) [.loc 0,.loc 1,.loc 4,.loc 3]),.ay (.cmp .eE (.loc 5) (.lit (.none))) [.ret (.ay (.cmp .eq (.loc 5) (.glob (.str [108,111,115,116]))) (.lit (.none)) (.loc 5))] []],.ret (.lit (.none))]
noncomputable def Bk:List MS:=[.asg (.loc 4) (.call (.glob (.fn 66)) [.loc 0,.loc 1,.loc 2,.loc 3]),.ret (.ay (.or [.cmp .is (.loc 4) (.lit (.none)),.cmp .eq (.loc 4) (.glob (.str [108,111,115,116]))]) (.loc 4) (.tup [.loc 2,.idx (.loc 4) (.lit (.int 0)),.idx (.loc 4) (.lit (.int 1))]))]
noncomputable def Kb:List MS:=[.asg (.loc 4) (.lst [.tup [.tup [.loc 0,.lit (.none)],.loc 2,.tup []]]),.kj (.cmp .gt (.prim .len [.loc 4]) (.lit (.int 0))) [.asg (.loc 5) (.aS (.loc 4) .pop []),.ay (.cmp .is (.loc 5) (.lit (.none))) [.ret (.glob (.str [108,111,115,116]))] [],.asg (.tup [.loc 6,.loc 7,.loc 8]) (.loc 5),.kj (.cmp .eE (.loc 6) (.lit (.none))) [.expr (.bp (.loc 3) 118 []),.asg (.loc 5) (.call (.glob (.fn 67)) [.loc 6,.loc 7,.loc 8,.loc 1,.loc 4,.loc 3]),.ay (.cmp .is (.loc 5) (.lit (.none))) [.brk] [],.ay (.cmp .eq (.loc 5) (.glob (.str [108,111,115,116]))) [.ret (.glob (.str [108,111,115,116]))] [],.asg (.tup [.loc 6,.loc 7,.loc 8]) (.loc 5)],.ay (.cmp .is (.loc 6) (.lit (.none))) [.ret (.tup [.loc 7,.prim .list [.loc 8]])] []],.ret (.lit (.none))]
noncomputable def Bl:List MS:=[.asg (.tup [.loc 6,.loc 7]) (.loc 0),.asg (.loc 8) (.idx (.loc 6) (.lit (.int 0))),.ay (.cmp .isin (.loc 8) (.tup [.lit (.str [99,97,116]),.lit (.str [97,108,116]),.lit (.str [97,114,98,110,111]),.lit (.str [108,97,116,101,114]),.lit (.str [110,111,119])])) [.ret (.call (.glob (.fn 68)) [.loc 6,.loc 7,.loc 1,.loc 2,.loc 4])] [],.ay (.cmp .eq (.slice (.loc 8) (.lit .none) (.lit (.int 4)) (.lit .none)) (.lit (.str [101,110,100,32]))) [.ret (.call (.glob (.fn 69)) [.loc 6,.loc 7,.loc 1,.loc 2,.loc 3,.loc 4,.loc 5])] [],.ay (.cmp .eq (.loc 8) (.lit (.str [99,117,114,115,111,114]))) [.ret (.ay (.bp (.loc 5) 117 [.idx (.loc 6) (.lit (.int 1)),.loc 1]) (.tup [.loc 7,.loc 1,.loc 2]) (.lit (.none)))] [],.ay (.cmp .eq (.loc 8) (.lit (.str [100,101,108,97,121]))) [.asg (.loc 9) (.bp (.loc 5) 116 [.idx (.loc 6) (.lit (.int 1))]),.ret (.ay (.call (.glob (.fn 16)) [.loc 9]) (.lit (.none)) (.tup [.tup [.call (.glob (.fn 25)) [.loc 9],.loc 7],.loc 1,.loc 2]))] [],.ay (.cmp .isin (.loc 8) (.tup [.lit (.str [102,101,110,99,101]),.lit (.str [97,98,111,114,116]),.lit (.str [102,97,105,108]),.lit (.str [115,117,99,99,101,101,100])])) [.ret (.call (.glob (.fn 70)) [.loc 0,.loc 1,.loc 2,.loc 4])] [],.ret (.call (.glob (.fn 71)) [.loc 6,.loc 7,.loc 1,.loc 2,.loc 3,.loc 4,.loc 5])]
noncomputable def Hz:List MS:=[.asg (.loc 5) (.idx (.loc 0) (.lit (.int 0))),.ay (.cmp .eq (.loc 5) (.lit (.str [99,97,116]))) [.ret (.tup [.tup [.idx (.loc 0) (.lit (.int 1)),.tup [.idx (.loc 0) (.lit (.int 2)),.loc 1]],.loc 2,.loc 3])] [],.ay (.cmp .eq (.loc 5) (.lit (.str [97,108,116]))) [.expr (.aS (.loc 4) .append [.tup [.tup [.idx (.loc 0) (.lit (.int 2)),.loc 1],.loc 2,.loc 3]]),.ret (.tup [.tup [.idx (.loc 0) (.lit (.int 1)),.loc 1],.loc 2,.loc 3])] [],.ay (.cmp .eq (.loc 5) (.lit (.str [97,114,98,110,111]))) [.expr (.aS (.loc 4) .append [.tup [.tup [.idx (.loc 0) (.lit (.int 1)),.tup [.tup [.lit (.str [101,110,100,32,114,111,117,110,100]),.loc 0,.loc 2],.loc 1]],.loc 2,.loc 3]]),.ret (.tup [.loc 1,.loc 2,.loc 3])] [],.ret (.tup [.tup [.idx (.loc 0) (.lit (.int 1)),.tup [.tup [.bin .add (.lit (.str [101,110,100,32])) (.loc 5),.idx (.loc 0) (.lit (.int 2)),.loc 2],.loc 1]],.loc 2,.loc 3])]
noncomputable def Dt:List MS:=[.asg (.tup [.loc 7,.loc 8,.loc 9]) (.loc 0),.ay (.cmp .eq (.loc 7) (.lit (.str [101,110,100,32,108,97,116,101,114]))) [.ret (.tup [.loc 1,.loc 2,.bin .add (.loc 3) (.tup [.tup [.loc 8,.slice (.loc 4) (.loc 9) (.loc 2) (.lit .none)]])])] [],.ay (.cmp .eq (.loc 7) (.lit (.str [101,110,100,32,110,111,119]))) [.ret (.ay (.bp (.loc 6) 117 [.loc 8,.slice (.loc 4) (.loc 9) (.loc 2) (.lit .none)]) (.tup [.loc 1,.loc 2,.loc 3]) (.lit (.none)))] [],.ret (.ay (.cmp .eq (.loc 2) (.loc 9)) (.lit (.none)) (.tup [.tup [.loc 8,.loc 1],.loc 2,.loc 3]))]
noncomputable def Du:List MS:=[.asg (.tup [.loc 4,.loc 5]) (.tup [.idx (.idx (.loc 0) (.lit (.int 0))) (.lit (.int 0)),.idx (.loc 0) (.lit (.int 1))]),.ay (.cmp .eq (.loc 4) (.lit (.str [97,98,111,114,116]))) [.ret (.glob (.str [108,111,115,116]))] [],.ay (.cmp .eq (.loc 4) (.lit (.str [102,97,105,108]))) [.ret (.lit (.none))] [],.expr (.aS (.loc 3) .append [.ay (.cmp .eq (.loc 4) (.lit (.str [102,101,110,99,101]))) (.lit (.none)) (.tup [.loc 0,.loc 1,.loc 2])]),.ret (.tup [.loc 5,.loc 1,.loc 2])]
noncomputable def Kc:List MS:=[.asg (.loc 7) (.idx (.loc 0) (.lit (.int 0))),.ay (.cmp .eq (.loc 7) (.lit (.str [97,114,98]))) [.ay (.cmp .lt (.loc 2) (.prim .len [.loc 4])) [.expr (.aS (.loc 5) .append [.tup [.tup [.loc 0,.loc 1],.bin .add (.loc 2) (.lit (.int 1)),.loc 3]])] [],.ret (.tup [.loc 1,.loc 2,.loc 3])] [],.ay (.cmp .eq (.loc 7) (.lit (.str [98,97,108]))) [.asg (.loc 8) (.call (.glob (.fn 42)) [.loc 4,.loc 2]),.for (.one 9) (.slice (.loc 8) (.lit .none) (.lit (.int 0)) (.neg (.lit (.int 1)))) [.expr (.aS (.loc 5) .append [.tup [.loc 1,.loc 9,.loc 3]])],.ret (.ay (.cmp .gt (.prim .len [.loc 8]) (.lit (.int 0))) (.tup [.loc 1,.idx (.loc 8) (.lit (.int 0)),.loc 3]) (.lit (.none)))] [],.asg (.loc 10) (.call (.glob (.fn 27)) [.loc 0,.loc 6]),.ay (.cmp .is (.loc 10) (.lit (.none))) [.ret (.lit (.none))] [],.asg (.loc 9) (.call (.glob (.fn 44)) [.loc 10,.loc 4,.loc 2]),.ret (.ay (.cmp .is (.loc 9) (.lit (.none))) (.lit (.none)) (.tup [.loc 1,.loc 9,.loc 3]))]
noncomputable def O6:List FI:=[⟨2,5,Hx⟩,
 ⟨1,1,q6⟩,
 ⟨1,3,mN⟩,
 ⟨1,1,nR⟩,
 ⟨2,2,nS⟩,
 ⟨2,5,oU⟩,
 ⟨2,3,mO⟩,
 ⟨2,5,lX⟩,
 ⟨2,4,lY⟩,
 ⟨3,4,mP⟩,
 ⟨1,4,sF⟩,
 ⟨1,2,oW⟩,
 ⟨3,3,nT⟩,
 ⟨2,2,sG⟩,
 ⟨2,2,sH⟩,
 ⟨4,4,sI⟩,
 ⟨1,1,Di⟩,
 ⟨2,2,NA⟩,
 ⟨2,5,q7⟩,
 ⟨1,3,q8⟩,
 ⟨2,2,Bb⟩,
 ⟨1,1,Dj⟩,
 ⟨1,2,yT⟩,
 ⟨3,4,uS⟩,
 ⟨2,3,uT⟩,
 ⟨1,2,vW⟩,
 ⟨1,1,vX⟩,
 ⟨2,3,Dk⟩,
 ⟨3,4,yU⟩,
 ⟨3,3,Dl⟩,
 ⟨2,2,Dm⟩,
 ⟨3,3,Be⟩,
 ⟨3,3,Dn⟩,
 ⟨3,4,Bf⟩,
 ⟨1,1,Do⟩,
 ⟨3,3,Hy⟩,
 ⟨3,3,yV⟩,
 ⟨4,4,Dp⟩,
 ⟨3,4,Bg⟩,
 ⟨3,4,yW⟩,
 ⟨2,2,Bh⟩,
 ⟨2,3,Dq⟩,
 ⟨2,4,Bi⟩,
 ⟨4,4,Dr⟩,
 ⟨3,3,yX⟩,
 ⟨4,5,Ds⟩,
 ⟨7,7,Bj⟩,
 ⟨2,2,vY⟩,
 ⟨3,3,vZ⟩,
 ⟨3,5,yY⟩,
 ⟨1,1,qe⟩,
 ⟨3,4,v6⟩,
 ⟨3,6,qf⟩,
 ⟨3,6,uU⟩,
 ⟨3,4,uV⟩,
 ⟨3,5,oX⟩,
 ⟨3,4,uW⟩,
 ⟨1,3,v7⟩,
 ⟨4,7,sJ⟩,
 ⟨4,4,qg⟩,
 ⟨4,4,qh⟩,
 ⟨2,2,lZ⟩,
 ⟨3,3,nU⟩,
 ⟨1,1,qi⟩,
 ⟨4,6,uX⟩,
 ⟨4,5,Bk⟩,
 ⟨4,9,Kb⟩,
 ⟨6,10,Bl⟩,
 ⟨5,6,Hz⟩,
 ⟨7,10,Dt⟩,
 ⟨4,6,Du⟩,
 ⟨7,11,Kc⟩]
noncomputable def O7:List CI:=[⟨3,[(101,4),(102,5),(103,6),(104,7),(105,8),(106,9)]⟩,⟨15,[]⟩,⟨46,[(107,47)]⟩,⟨48,[(108,49),(109,50),(110,51),(111,52),(112,53),(113,54),(114,55),(115,56)]⟩,⟨60,[(116,61),(117,62),(118,63)]⟩,⟨0,[]⟩,⟨13,[]⟩,⟨14,[]⟩,⟨12,[]⟩]
end Mine
namespace Mine
namespace L2
noncomputable def Bm:List MS:=[.asg (.tup [.loc 2,.loc 3]) (.loc 0),.asg (.idx (.loc 0) (.lit (.int 1))) (.bin .add (.loc 3) (.lit (.int 1))),.ay (.cmp .lt (.loc 3) (.prim .len [.loc 2])) [.ret (.bin .mod (.prim .abs [.prim .int [.idx (.loc 2) (.loc 3)]]) (.loc 1))] [],.ret (.bin .mod (.bin .add (.bin .add (.bin .add (.bin .mul (.lit (.int 7)) (.loc 3)) (.bin .fdiv (.bin .mul (.loc 3) (.loc 3)) (.lit (.int 3)))) (.lit (.int 5))) (.prim .len [.loc 2])) (.loc 1))]
noncomputable def Bn:List MS:=[.asg (.loc 1) (.call (.glob (.fn 72)) [.loc 0,.lit (.int 13)]),.ay (.cmp .eq (.loc 1) (.lit (.int 0))) [.ret (.tup [.lit (.str [99,104,97,114,115]),.idx (.lst [.lit (.str [97]),.lit (.str [98]),.lit (.str [97,98]),.lit (.str [40]),.lit (.str [])]) (.call (.glob (.fn 72)) [.loc 0,.lit (.int 5)])])] [],.ay (.cmp .lt (.loc 1) (.lit (.int 6))) [.ret (.tup [.idx (.lst [.lit (.str [108,101,110]),.lit (.str [112,111,115]),.lit (.str [114,112,111,115]),.lit (.str [116,97,98]),.lit (.str [114,116,97,98])]) (.bin .sub (.loc 1) (.lit (.int 1))),.call (.glob (.fn 72)) [.loc 0,.lit (.int 4)]])] [],.ay (.cmp .lt (.loc 1) (.lit (.int 10))) [.ret (.tup [.idx (.lst [.lit (.str [97,110,121]),.lit (.str [110,111,116,97,110,121]),.lit (.str [115,112,97,110]),.lit (.str [98,114,101,97,107])]) (.bin .sub (.loc 1) (.lit (.int 6))),.idx (.lst [.lit (.str [97]),.lit (.str [98]),.lit (.str [97,98]),.lit (.str [41])]) (.call (.glob (.fn 72)) [.loc 0,.lit (.int 4)])])] [],.ret (.idx (.lst [.tup [.lit (.str [114,101,109])],.tup [.lit (.str [97,114,98])],.tup [.lit (.str [98,97,108])]]) (.bin .sub (.loc 1) (.lit (.int 10))))]
noncomputable def Bo:List MS:=[.asg (.loc 2) (.ay (.cmp .gt (.loc 1) (.lit (.int 0))) (.call (.glob (.fn 72)) [.loc 0,.lit (.int 7)]) (.lit (.int 0))),.ay (.cmp .lt (.loc 2) (.lit (.int 2))) [.ret (.call (.glob (.fn 73)) [.loc 0])] [],.ay (.cmp .lt (.loc 2) (.lit (.int 6))) [.ret (.tup [.idx (.lst [.lit (.str [99,97,116]),.lit (.str [97,108,116])]) (.bin .mod (.loc 2) (.lit (.int 2))),.call (.glob (.fn 74)) [.loc 0,.bin .sub (.loc 1) (.lit (.int 1))],.call (.glob (.fn 74)) [.loc 0,.bin .sub (.loc 1) (.lit (.int 1))]])] [],.ret (.tup [.lit (.str [97,114,98,110,111]),.call (.glob (.fn 74)) [.loc 0,.bin .sub (.loc 1) (.lit (.int 1))]])]
noncomputable def oY:List MS:=[.asg (.loc 0) (.aS (.lit (.str [])) .join [.comp (.loc 1) (.loc 0) (.one 1) 1 [.cmp .isin (.loc 1) (.lit (.str [40,41]))]]),.rep 0,.ret (.and [.cmp .i8 (.lit (.str [40])) (.loc 0),.cmp .i8 (.lit (.str [41])) (.loc 0)])]
noncomputable def Dv:List MS:=[.asg (.loc 4) (.slice (.loc 2) (.loc 3) (.lit .none) (.lit .none)),.ay (.cmp .isin (.loc 0) (.tup [.lit (.str [108,101,110]),.lit (.str [112,111,115]),.lit (.str [114,112,111,115])])) [.asg (.loc 5) (.idx (.dict [.lit (.str [108,101,110]),.cmp .le (.loc 1) (.prim .len [.loc 4]),.lit (.str [112,111,115]),.cmp .eq (.loc 3) (.loc 1),.lit (.str [114,112,111,115]),.cmp .eq (.prim .len [.loc 4]) (.loc 1)]) (.loc 0)),.ret (.ay (.loc 5) (.lst [.bin .add (.loc 3) (.ay (.cmp .eq (.loc 0) (.lit (.str [108,101,110]))) (.loc 1) (.lit (.int 0)))]) (.lst []))] [],.ay (.cmp .isin (.loc 0) (.tup [.lit (.str [116,97,98]),.lit (.str [114,116,97,98])])) [.asg (.loc 6) (.ay (.cmp .eq (.loc 0) (.lit (.str [116,97,98]))) (.loc 1) (.bin .sub (.prim .len [.loc 2]) (.loc 1))),.ret (.ay (.mn .le .le (.loc 3) (.loc 6) (.prim .len [.loc 2])) (.lst [.loc 6]) (.lst []))] [],.ay (.cmp .isin (.loc 0) (.tup [.lit (.str [97,110,121]),.lit (.str [110,111,116,97,110,121])])) [.ret (.ay (.and [.cmp .ne (.loc 4) (.lit (.str [])),.cmp .eq (.cmp .isin (.idx (.loc 4) (.lit (.int 0))) (.loc 1)) (.cmp .eq (.loc 0) (.lit (.str [97,110,121])))]) (.lst [.bin .add (.loc 3) (.lit (.int 1))]) (.lst []))] [],.asg (.loc 7) (.ay (.cmp .eq (.loc 0) (.lit (.str [115,112,97,110]))) (.bin .sub (.prim .len [.loc 4]) (.prim .len [.aS (.loc 4) .lstrip [.loc 1]])) (.prim .min [.comp (.prim .len [.idx (.aS (.loc 4) .split [.loc 8]) (.lit (.int 0))]) (.loc 1) (.one 8) 1 []])),.ret (.ay (.ay (.cmp .eq (.loc 0) (.lit (.str [115,112,97,110]))) (.cmp .gt (.loc 7) (.lit (.int 0))) (.cmp .lt (.loc 7) (.prim .len [.loc 4]))) (.lst [.bin .add (.loc 3) (.loc 7)]) (.lst []))]
noncomputable def Bp:List MS:=[.asg (.loc 3) (.idx (.loc 0) (.lit (.int 0))),.ay (.cmp .eq (.loc 3) (.lit (.str [99,104,97,114,115]))) [.ret (.ay (.aS (.slice (.loc 1) (.loc 2) (.lit .none) (.lit .none)) .startswith [.idx (.loc 0) (.lit (.int 1))]) (.lst [.bin .add (.loc 2) (.prim .len [.idx (.loc 0) (.lit (.int 1))])]) (.lst []))] [],.ay (.cmp .eq (.loc 3) (.lit (.str [114,101,109]))) [.ret (.lst [.prim .len [.loc 1]])] [],.ay (.or [.cmp .eq (.loc 3) (.lit (.str [97,114,98])),.cmp .eq (.loc 3) (.lit (.str [98,97,108]))]) [.asg (.loc 4) (.prim .list [.prim .range [.bin .add (.loc 2) (.prim .int [.cmp .eq (.loc 3) (.lit (.str [98,97,108]))]),.bin .add (.prim .len [.loc 1]) (.lit (.int 1))]]),.ret (.comp (.loc 7) (.loc 4) (.one 7) 1 [.or [.cmp .eq (.loc 3) (.lit (.str [97,114,98])),.call (.glob (.fn 75)) [.slice (.loc 1) (.loc 2) (.loc 7) (.lit .none)]]])] [],.ay (.cmp .eq (.loc 3) (.lit (.str [97,108,116]))) [.ret (.bin .add (.call (.glob (.fn 77)) [.idx (.loc 0) (.lit (.int 1)),.loc 1,.loc 2]) (.call (.glob (.fn 77)) [.idx (.loc 0) (.lit (.int 2)),.loc 1,.loc 2]))] [],.ay (.or [.cmp .eq (.loc 3) (.lit (.str [99,97,116])),.cmp .eq (.loc 3) (.lit (.str [97,114,98,110,111]))]) [.asg (.loc 6) (.ay (.cmp .eq (.loc 3) (.lit (.str [97,114,98,110,111]))) (.lst [.loc 2]) (.lst [])),.for (.one 5) (.call (.glob (.fn 77)) [.idx (.loc 0) (.lit (.int 1)),.loc 1,.loc 2]) [.ay (.or [.cmp .eq (.loc 3) (.lit (.str [99,97,116])),.cmp .gt (.loc 5) (.loc 2)]) [.expr (.aS (.loc 6) .extend [.call (.glob (.fn 77)) [.ay (.cmp .eq (.loc 3) (.lit (.str [99,97,116]))) (.idx (.loc 0) (.lit (.int 2))) (.loc 0),.loc 1,.loc 5]])] []],.ret (.loc 6)] [],.ret (.call (.glob (.fn 76)) [.loc 3,.idx (.loc 0) (.lit (.int 1)),.loc 1,.loc 2])]
noncomputable def RN:List MS:=[.asg (.loc 1) (.lst [.slice (.loc 0) (.lit .none) (.lit (.int 30)) (.lit .none),.lit (.int 0)]),.asg (.loc 2) (.aS (.lit (.str [])) .join [.comp (.idx (.lit (.str [97,98,40,41])) (.call (.glob (.fn 72)) [.loc 1,.lit (.int 4)])) (.prim .range [.call (.glob (.fn 72)) [.loc 1,.lit (.int 4)]]) (.one 8) 1 []]),.asg (.loc 3) (.call (.glob (.fn 74)) [.loc 1,.lit (.int 2)]),.asg (.loc 4) (.tup [.lit (.str [99,97,116]),.tup [.lit (.str [110,111,119]),.loc 3,.new 1 [.lit (.str [118,97,114]),.lit (.none),.lit (.str [86])]],.tup [.lit (.str [102,97,105,108])]]),.asg (.loc 5) (.comp (.tup [.lit (.str [86]),.slice (.loc 2) (.lit .none) (.loc 8) (.lit .none)]) (.call (.glob (.fn 77)) [.loc 3,.loc 2,.lit (.int 0)]) (.one 8) 1 []),.for (.one 6) (.tup [.glob (.fn 64),.glob (.fn 59)]) [.asg (.loc 7) (.new 4 [.dict [],.lit (.int 99999),.lst []]),.ay (.or [.cmp .eE (.call (.loc 6) [.loc 4,.loc 2,.lit (.bool true),.loc 7]) (.lit (.none)),.cmp .ne (.attr (.loc 7) 14) (.loc 5)]) [.ret (.lit (.bool false))] []],.ret (.cmp .eq (.call (.glob (.fn 59)) [.loc 3,.loc 2,.lit (.bool true),.new 4 [.dict [],.lit (.int 99999),.lst []]]) (.ay (.cmp .ne (.loc 5) (.lst [])) (.tup [.lit (.int 0),.prim .len [.idx (.idx (.loc 5) (.lit (.int 0))) (.lit (.int 1))],.lst []]) (.lit (.none))))]
noncomputable def Bq:List FI:=[⟨2,4,Bm⟩,
 ⟨1,2,Bn⟩,
 ⟨2,3,Bo⟩,
 ⟨1,1,oY⟩,
 ⟨4,8,Dv⟩,
 ⟨3,7,Bp⟩,
 ⟨1,8,RN⟩]
noncomputable def fns:List FI:=O6++Bq
noncomputable def pg:Pg:=⟨fns,O7⟩
noncomputable def gl:List (Str×GV):=[(Str.ofString "row_of",.fn 0),(Str.ofString "is_plain_text",.fn 1),(Str.ofString "with_texts_joined",.fn 2),(Str.ofString "straightened",.fn 10),(Str.ofString "compile_pattern",.fn 11),(Str.ofString "is_fail",.fn 16),(Str.ofString "fits",.fn 17),(Str.ofString "whole_of_text",.fn 18),(Str.ofString "text_of_whole",.fn 19),(Str.ofString "to_whole",.fn 20),(Str.ofString "to_text",.fn 21),(Str.ofString "need_text",.fn 22),(Str.ofString "plain_count",.fn 23),(Str.ofString "plain_signs",.fn 24),(Str.ofString "pattern_of",.fn 25),(Str.ofString "is_delayed",.fn 26),(Str.ofString "settled",.fn 27),(Str.ofString "chars_end",.fn 28),(Str.ofString "len_end",.fn 29),(Str.ofString "pos_end",.fn 30),(Str.ofString "rpos_end",.fn 31),(Str.ofString "tab_end",.fn 32),(Str.ofString "rtab_end",.fn 33),(Str.ofString "rem_end",.fn 34),(Str.ofString "any_at",.fn 35),(Str.ofString "notany_at",.fn 36),(Str.ofString "run_end",.fn 37),(Str.ofString "span_end",.fn 38),(Str.ofString "break_end",.fn 39),(Str.ofString "arb_ends",.fn 40),(Str.ofString "bal_end",.fn 41),(Str.ofString "bal_ends",.fn 42),(Str.ofString "one_end",.fn 43),(Str.ofString "plain_end",.fn 44),(Str.ofString "ends_of",.fn 45),(Str.ofString "named_rows",.fn 57),(Str.ofString "match_orders",.fn 58),(Str.ofString "match_compiled",.fn 59),(Str.ofString "match_plain",.fn 64),(Str.ofString "match_at",.fn 65),(Str.ofString "tried",.fn 66),(Str.ofString "advanced",.fn 67),(Str.ofString "led_in",.fn 68),(Str.ofString "led_out",.fn 69),(Str.ofString "steered",.fn 70),(Str.ofString "taken",.fn 71),(Str.ofString "_law_next",.fn 72),(Str.ofString "_law_leaf",.fn 73),(Str.ofString "_law_node",.fn 74),(Str.ofString "_law_is_balanced",.fn 75),(Str.ofString "_law_one",.fn 76),(Str.ofString "_law_ends",.fn 77),(Str.ofString "law",.fn 78),(Str.ofString "ONE",.val (.str [111,110,101])),(Str.ofString "WAYS",.val (.str [119,97,121,115])),(Str.ofString "SPLIT",.val (.str [115,112,108,105,116])),(Str.ofString "JUMP",.val (.str [106,117,109,112])),(Str.ofString "MARK",.val (.str [109,97,114,107])),(Str.ofString "NAME",.val (.str [110,97,109,101])),(Str.ofString "SET",.val (.str [115,101,116])),(Str.ofString "GAIN",.val (.str [103,97,105,110])),(Str.ofString "PLACE",.val (.str [112,108,97,99,101])),(Str.ofString "ASK",.val (.str [97,115,107])),(Str.ofString "FENCE",.val (.str [102,101,110,99,101])),(Str.ofString "FAIL",.val (.str [102,97,105,108])),(Str.ofString "ABORT",.val (.str [97,98,111,114,116])),(Str.ofString "SUCCEED",.val (.str [115,117,99,99,101,101,100])),(Str.ofString "DONE",.val (.str [100,111,110,101])),(Str.ofString "PUT",.val (.str [112,117,116])),(Str.ofString "EMIT",.val (.str [101,109,105,116])),(Str.ofString "OPEN",.val (.str [111,112,101,110])),(Str.ofString "SHUT",.val (.str [115,104,117,116])),(Str.ofString "MEET",.val (.str [109,101,101,116])),(Str.ofString "SINGLE",.val (.tup [.str [99,104,97,114,115],.str [108,101,110],.str [112,111,115],.str [114,112,111,115],.str [116,97,98],.str [114,116,97,98],.str [97,110,121],.str [110,111,116,97,110,121],.str [115,112,97,110],.str [98,114,101,97,107],.str [114,101,109]])),(Str.ofString "ALONE",.val (.tup [.str [102,101,110,99,101],.str [102,97,105,108],.str [97,98,111,114,116],.str [115,117,99,99,101,101,100]])),(Str.ofString "COUNTED",.val (.tup [.str [108,101,110],.str [112,111,115],.str [114,112,111,115],.str [116,97,98],.str [114,116,97,98]])),(Str.ofString "SIGNED",.val (.tup [.str [97,110,121],.str [110,111,116,97,110,121],.str [115,112,97,110],.str [98,114,101,97,107]])),(Str.ofString "WIDTH_OF_COUNT",.val (.int 64)),(Str.ofString "OPENING",.val (.str [40])),(Str.ofString "CLOSING",.val (.str [41])),(Str.ofString "MET",.val (.int 0)),(Str.ofString "FAILED",.val (.int 1)),(Str.ofString "OVER",.val (.int 2)),(Str.ofString "LOST",.val (.str [108,111,115,116])),(Str.ofString "PatternCode",.cls 0),(Str.ofString "NameRef",.cls 1),(Str.ofString "Way",.cls 2),(Str.ofString "Match",.cls 3),(Str.ofString "PlainHost",.cls 4),(Str.ofString "Failure",.cls 5),(Str.ofString "Pattern",.cls 6),(Str.ofString "Delayed",.cls 7),(Str.ofString "SnobolError",.cls 8),(Str.ofString "abs",.pr .abs),(Str.ofString "chr",.pr .chr),(Str.ofString "int",.pr .int),(Str.ofString "len",.pr .len),(Str.ofString "list",.pr .list),(Str.ofString "min",.pr .min),(Str.ofString "ord",.pr .ord),(Str.ofString "range",.pr .range),(Str.ofString "str",.pr .str),(Str.ofString "isinstance",.IV),(Str.ofString "tuple",.typ .tuple)]
noncomputable def fa:List Nat:=[23,30,37,51,58,65,70,77,84,91,105,112,129,163,184,205,219,226,233,240,247,254,261,271,278,285,292,299,306,313,320,327,334,341,348,355,362,369,376,383,390,397,404,411,418,425,439,446,467,474,481,488,495,502,509,516,523,537,544,551,565,572,579,586,600,607,614,621,628,635,642,649,656,663,670,675,680,685,690]
noncomputable def lj(x:Str):List (Str×GV)->Option GV
 |[]=>none
 |(y,g)::r=>if x==y then some g else lj x r
noncomputable def G(x:Str):Option GV:=lj x gl
end L2
end Mine
namespace Mine.Q
section
variable {P:Pg}{call:bX}{l l1 l2:Lo}{H H1 H2 H3 H4:Hp}{v u o i a b:V}{vs:List V}{e f c t x:ME}{es:List ME}{r:Option (V×Hp)}
theorem aF{α β:Type}{m:Option (α×Hp)}{a:α}{H:Hp}{g:α->Hp->Option β}(h:m=some (a,H)):br m g=g a H:=by rw[h];rfl
theorem aj:av P call (.lit v) l H=some (v,H):=rfl
theorem bz:av P call (.glob v) l H=some (v,H):=rfl
theorem aW:ei P call [] l H=some ([],H):=rfl
theorem db{i:Nat}(h:l[i]?=some (some v)):av P call (.loc i) l H=some (v,H):=by show(match l[i]? with|some (some v)=>some (v,H)|_=>none)=_;rw[h]
theorem aX(h1:av P call e l H=some (v,H1))(h2:ei P call es l H1=some (vs,H2)):ei P call (e::es) l H=some (v::vs,H2):=(aF h1).trans (aF h2)
theorem dm(h1:ei P call es l H=some (vs,H1)):av P call (.tup es) l H=some (.tup vs,H1):=aF h1
theorem aN(h1:ei P call es l H=some (vs,H1)):av P call (.lst es) l H=some (.loc H1.length,H1++[.list vs]):=aF h1
theorem Ke:av P call (.dict []) l H=some (.loc H.length,H++[.dict []]):=rfl
theorem aJ{a:Nat}(h1:av P call e l H=some (o,H1))(h2:lP H1 o a=some v):av P call (.attr e a) l H=some (v,H1):=(aF h1).trans (by rw[h2])
theorem bc(h1:av P call e l H=some (o,H1))(h2:av P call f l H1=some (i,H2))(h3:jg H2 o i=some v):av P call (.idx e f) l H=some (v,H2):=(aF h1).trans ((aF h2).trans (by rw[h3]))
theorem dp{w z:V}{lo hi st:ME}(h1:av P call e l H=some (o,H1))(h2:av P call lo l H1=some (u,H2))(h3:av P call hi l H2=some (w,H3))(h4:av P call st l H3=some (z,H4))(h5:jE o u w z H4=r):av P call (.slice e lo hi st) l H=r:=(aF h1).trans ((aF h2).trans ((aF h3).trans ((aF h4).trans h5)))
theorem cA{op:ki}(h1:av P call e l H=some (a,H1))(h2:av P call f l H1=some (b,H2))(h3:tn op a b H2=r):av P call (.bin op e f) l H=r:=(aF h1).trans ((aF h2).trans h3)
theorem q9{q:Bool}(h1:av P call e l H=some (.bool q,H1)):av P call (.not e) l H=some (.bool (!q),H1):=aF h1
theorem aq{op:lV}{q:Bool}(h1:av P call e l H=some (a,H1))(h2:av P call f l H1=some (b,H2))(h3:cE H2 op a b=some q):av P call (.cmp op e f) l H=some (.bool q,H2):=(aF h1).trans ((aF h2).trans (by rw[h3]))
theorem i1:av P call (.and []) l H=some (.bool true,H):=rfl
theorem dc(h1:av P call e l H=some (.bool true,H1))(h2:av P call (.and es) l H1=r):av P call (.and (e::es)) l H=r:=(aF h1).trans h2
theorem dO(h1:av P call e l H=some (.bool false,H1)):av P call (.and (e::es)) l H=some (.bool false,H1):=aF h1
theorem oZ:av P call (.or []) l H=some (.bool false,H):=rfl
theorem iT(h1:av P call e l H=some (.bool false,H1))(h2:av P call (.or es) l H1=r):av P call (.or (e::es)) l H=r:=(aF h1).trans h2
theorem yZ(h1:av P call e l H=some (.bool true,H1)):av P call (.or (e::es)) l H=some (.bool true,H1):=aF h1
theorem be(h1:av P call t l H=some (.bool true,H1))(h2:av P call e l H1=r):av P call (.ay t e f) l H=r:=(aF h1).trans h2
theorem aR(h1:av P call t l H=some (.bool false,H1))(h2:av P call f l H1=r):av P call (.ay t e f) l H=r:=(aF h1).trans h2
theorem sW{k:Nat}(h1:av P call e l H=some (.fn k,H1))(h2:ei P call es l H1=some (vs,H2))(h3:call k vs H2=r):av P call (.call e es) l H=r:=(aF h1).trans ((aF h2).trans h3)
theorem j5{c:Nat}{ci:CI}(h1:ei P call es l H=some (vs,H1))(h2:P.cls[c]?=some ci)(h3:call ci.init (.loc H1.length::vs) (H1++[.inst c []])=some (.none,H2)):av P call (.new c es) l H=some (.loc H1.length,H2):=
 (aF h1).trans (by rw[h2];exact(aF h3))
theorem aY{n c m k:Nat}{fs:List (Nat×V)}{ci:CI}(h1:av P call e l H=some (.loc n,H1))(h2:H1[n]?=some (.inst c fs))(h3:P.cls[c]?=some ci)(h4:eg m ci.meths=some k)(h5:ei P call es l H1=some (vs,H2))(h6:call k (.loc n::vs) H2=r):av P call (.bp e m es) l H=r:=by
 refine(aF h1).trans ?_
 dsimp only
 rw[h2];dsimp only;rw[h3];dsimp only;rw[h4]
 exact(aF h5).trans h6
theorem cn{m:BM}(h1:av P call e l H=some (o,H1))(h2:zZ m o H1=true)(h3:ei P call es l H1=some (vs,H2))(h4:qK m o vs H2=r):av P call (.aS e m es) l H=r:=(aF h1).trans (by rw[if_pos h2];exact(aF h3).trans h4)
theorem aT{p:Pr}(h1:ei P call es l H=some (vs,H1))(h2:gE p vs H1=r):av P call (.prim p es) l H=r:=(aF h1).trans h2
theorem E7{k:IK}{q:Bool}(h1:av P call e l H=some (v,H1))(h2:IP v k=some q):av P call (.isin e k) l H=some (.bool q,H1):=(aF h1).trans (by rw[h2])
theorem jS{ct:CT}{k:Nat}{cs:List ME}{it:It}(h1:av P call e l H=some (v,H1))(h2:gg H1 v=some it)(h3:cP (λl H=>jy P call cs l H) (λl H=>av P call x l H) ct (l++List.replicate k none) 1048576 it [] H1=some (vs,H2))(h4:vs.length<=lim):av P call (.comp x e ct k cs) l H=some (.loc H2.length,H2++[.list vs]):=
 (aF h1).trans (by rw[h2];exact(aF h3).trans (if_pos h4))
theorem gb{ev}{i:Nat}:fc ev (.loc i) v l H=some (l.set i (some v),H):=rfl
theorem qj{a:Nat}(h1:av P call e l H=some (o,H1))(h2:kn H1 o a v=some H2):fc (av P call) (.attr e a) v l H=some (l,H2):=(aF h1).trans (by rw[h2])
theorem lk(h1:av P call e l H=some (o,H1))(h2:av P call f l H1=some (i,H2))(h3:tq H2 o i v=some H3):fc (av P call) (.idx e f) v l H=some (l,H3):=(aF h1).trans ((aF h2).trans (by rw[h3]))
theorem sX{ev}{ts:List Tg}{q:Option (Lo×Hp)}(h1:jH H v=some vs)(h2:dN ev ts vs l H=q):fc ev (.tup ts) v l H=q:=by show(match jH H v with|some vs=>dN ev ts vs l H|none=>none)=_;rw[h1];exact h2
theorem qk{ev}{tt:Tg}{ts:List Tg}{q:Option (Lo×Hp)}(h1:fc ev tt v l H=some (l1,H1))(h2:dN ev ts vs l1 H1=q):dN ev (tt::ts) (v::vs) l H=q:=by rw[pG,h1];exact h2
theorem E8{ev}:dN ev [] [] l H=some (l,H):=rfl
theorem jm(h1:av P call e l H=some (v,H1)):dD P call (.expr e) l H=some (.next,l,H1):=aF h1
theorem E9(h1:av P call e l H=some (v,H1)):dD P call (.ret e) l H=some (.ret v,l,H1):=aF h1
theorem bl{tt:Tg}(h1:av P call e l H=some (v,H1))(h2:fc (av P call) tt v l H1=some (l2,H2)):dD P call (.asg tt e) l H=some (.next,l2,H2):=(aF h1).trans (by rw[h2];rfl)
theorem kI{k:Nat}{op:ki}(h1:av P call e l H=some (o,H1))(h2:lP H1 o k=some a)(h3:av P call f l H1=some (b,H2))(h4:lO op a b=some v)(h5:kn H2 o k v=some H3):dD P call (.lM e k op f) l H=some (.next,l,H3):=
 (aF h1).trans (by rw[h2];exact(aF h3).trans (by rw[h4];dsimp only;rw[h5]))
theorem bQ{s1 s2:List MS}{q:SR}(h1:av P call t l H=some (.bool true,H1))(h2:aQ P call s1 l H1=q):dD P call (.ay t s1 s2) l H=q:=(aF h1).trans h2
theorem cu{s1 s2:List MS}{q:SR}(h1:av P call t l H=some (.bool false,H1))(h2:aQ P call s2 l H1=q):dD P call (.ay t s1 s2) l H=q:=(aF h1).trans h2
theorem ak{s:MS}{ss:List MS}{q:SR}(h1:dD P call s l H=some (.next,l1,H1))(h2:aQ P call ss l1 H1=q):aQ P call (s::ss) l H=q:=by
 show(match dD P call s l H with|some (Fl.next,l,H)=>aQ P call ss l H|x=>x)=_
 rw[h1];exact h2
theorem gL{s:MS}{ss:List MS}(h1:dD P call s l H=some (.ret v,l1,H1)):aQ P call (s::ss) l H=some (.ret v,l1,H1):=by
 show(match dD P call s l H with|some (Fl.next,l,H)=>aQ P call ss l H|x=>x)=_
 rw[h1]
theorem xo{s:MS}{ss:List MS}(h1:dD P call s l H=some (.brk,l1,H1)):aQ P call (s::ss) l H=some (.brk,l1,H1):=by
 show(match dD P call s l H with|some (Fl.next,l,H)=>aQ P call ss l H|x=>x)=_
 rw[h1]
theorem rd{s:MS}{ss:List MS}(h1:dD P call s l H=some (.cont,l1,H1)):aQ P call (s::ss) l H=some (.cont,l1,H1):=by
 show(match dD P call s l H with|some (Fl.next,l,H)=>aQ P call ss l H|x=>x)=_
 rw[h1]
theorem aL:aQ P call [] l H=some (.next,l,H):=rfl
theorem NB:dD P call .brk l H=some (.brk,l,H):=rfl
theorem Kf:dD P call .cont l H=some (.cont,l,H):=rfl
theorem fA{ct:CT}{s1:List MS}{it:It}{q:SR}(h1:av P call e l H=some (v,H1))(h2:gg H1 v=some it)(h3:dF ct (λl H=>aQ P call s1 l H) 1048576 it l H1=q):dD P call (.for ct e s1) l H=q:=(aF h1).trans (by rw[h2];exact h3)
theorem fB{s1:List MS}{q:SR}(h:dj (av P call t) (λl H=>aQ P call s1 l H) 1048576 l H=q):dD P call (.kj t s1) l H=q:=h
theorem af{d k:Nat}{fi:FI}(h:P.fns[k]?=some fi)(h0:vs.length=fi.np)(h1:aQ P (ae P d) fi.body (vs.map some++List.replicate (fi.ns-fi.np) none) H=some (.ret v,l1,H1)):ae P (d+1) k vs H=some (v,H1):=by
 rw[ty,h];dsimp only;rw[if_pos h0,h1]
theorem em{d k:Nat}{fi:FI}(h:P.fns[k]?=some fi)(h0:vs.length=fi.np)(h1:aQ P (ae P d) fi.body (vs.map some++List.replicate (fi.ns-fi.np) none) H=some (.next,l1,H1)):ae P (d+1) k vs H=some (.none,H1):=by
 rw[ty,h];dsimp only;rw[if_pos h0,h1]
theorem aG{k:Nat}(h2:ei P call es l H=some (vs,H2))(h3:call k vs H2=r):av P call (.call (.glob (.fn k)) es) l H=r:=sW bz h2 h3
theorem b8(h1:av P call e l H=some (v,H1)):ei P call [e] l H=some ([v],H1):=aX h1 aW
theorem cF(h1:av P call e l H=some (v,H1))(h2:av P call f l H1=some (u,H2)):ei P call [e,f] l H=some ([v,u],H2):=aX h1 (aX h2 aW)
theorem az{ss:List MS}(h1:av P call e l H=some (v,H1)):aQ P call (.ret e::ss) l H=some (.ret v,l,H1):=gL (E9 h1)
theorem aU{s1 s2 ss:List MS}(h1:av P call t l H=some (.bool true,H1))(h2:aQ P call s1 l H1=some (.ret v,l2,H2)):aQ P call (.ay t s1 s2::ss) l H=some (.ret v,l2,H2):=gL (bQ h1 h2)
theorem ql{s1 s2 ss:List MS}(h1:av P call t l H=some (.bool false,H1))(h2:aQ P call s2 l H1=some (.ret v,l2,H2)):aQ P call (.ay t s1 s2::ss) l H=some (.ret v,l2,H2):=gL (cu h1 h2)
theorem aV{ss:List MS}{q:SR}{i:Nat}(h1:av P call e l H=some (v,H1))(h2:aQ P call ss (l.set i (some v)) H1=q):aQ P call (.asg (.loc i) e::ss) l H=q:=ak (bl h1 gb) h2
theorem bx{s1 ss:List MS}{q:SR}(h1:av P call t l H=some (.bool false,H1))(h2:aQ P call ss l H1=q):aQ P call (.ay t s1 []::ss) l H=q:=ak (cu h1 aL) h2
theorem mQ{ss:List MS}{q:SR}(h1:av P call e l H=some (v,H1))(h2:aQ P call ss l H1=q):aQ P call (.expr e::ss) l H=q:=ak (jm h1) h2
theorem fp(h1:av P call e l H=some (v,H1)):aQ P call [.expr e] l H=some (.next,l,H1):=ak (jm h1) aL
theorem dG{s1 s2:MS}{ss:List MS}{q:SR}(h1:dD P call s1 l H=some (.next,l1,H1))(h2:dD P call s2 l1 H1=some (.next,l2,H2))(h3:aQ P call ss l2 H2=q):aQ P call (s1::s2::ss) l H=q:=ak h1 (ak h2 h3)
theorem cM{l3:Lo}{s1 s2 s3:MS}{ss:List MS}{q:SR}(h1:dD P call s1 l H=some (.next,l1,H1))(h2:dD P call s2 l1 H1=some (.next,l2,H2))(h3:dD P call s3 l2 H2=some (.next,l3,H3))(h4:aQ P call ss l3 H3=q):aQ P call (s1::s2::s3::ss) l H=q:=ak h1 (ak h2 (ak h3 h4))
theorem eD{a:Nat}(h1:av P call e l H=some (v,H1))(h2:av P call f l H1=some (o,H2))(h3:kn H2 o a v=some H3):dD P call (.asg (.attr f a) e) l H=some (.next,l,H3):=bl h1 (qj h2 h3)
theorem aD{n c k:Nat}{fs:List (Nat×V)}(h:H[n]?=some (.inst c fs))(h2:eg k fs=some v):lP H (.loc n) k=some v:=by
 show zV H n _=_;unfold zV;rw[h];exact h2
theorem dE{n c k:Nat}{fs:List (Nat×V)}(h:H[n]?=some (.inst c fs)):kn H (.loc n) k v=some (H.set n (.inst c (putN k v fs))):=by
 show zV H n _=_;unfold zV;rw[h]
theorem cb{β:Type}{n:Nat}{ls:List V}{g:List V->Option β}(h:H[n]?=some (.list ls)):jd H n g=g ls:=by unfold jd;rw[h]
theorem dZ{β:Type}{c:Prop}[Decidable c]{x:β}(h:c):gd c x=some x:=if_pos h
theorem cQ{n:Nat}{ls:List V}{k:Int}(h:H[n]?=some (.list ls))(h2:fK ls k=some v):jg H (.loc n) (.int k)=some v:=(cb h).trans h2
theorem Fa{n:Nat}{ls:List V}(h:H[n]?=some (.list ls)):jH H (.loc n)=some ls:=cb h
theorem nB{n:Nat}{ls:List V}{k:Int}(h:H[n]?=some (.list ls))(h2:0<=k/\k.toNat<ls.length):tq H (.loc n) (.int k) v=some (H.set n (.list (ls.set k.toNat v))):=(cb h).trans (dZ h2)
theorem dq{n:Nat}{ls:List V}(h:H[n]?=some (.list ls)):gE .len [.loc n] H=some (.int ls.length,H):=by
 show(Eh (.loc n) H).map _=_
 rw[show Eh (.loc n) H=some ls.length from cb h];rfl
theorem bY{n:Nat}{ls:List V}(h:H[n]?=some (.list ls))(h2:ls.length<lim):qK .append (.loc n) [v] H=some (.none,H.set n (.list (ls++[v]))):=(cb h).trans (dZ h2)
theorem ll{n:Nat}{ls:List V}(h:H[n]?=some (.list (ls++[v]))):qK .pop (.loc n) [] H=some (v,H.set n (.list ls)):=by
 refine(cb h).trans ?_
 rw[List.getLast?_append,List.dropLast_concat];rfl
theorem aZ{n:Nat}{ls:List V}{m:BM}(h:H[n]?=some (.list ls))(hm:(match m with|.append=>true|.pop=>true|.extend=>true|.reverse=>true|_=>false)=true):zZ m (.loc n) H=true:=by
 unfold zZ;simp only[h];exact hm
theorem qm{ls:List V}{k:Nat}{j:Int}(hj:j=(k:Int))(h:ls[k]?=some v):fK ls j=some v:=by subst hj;unfold fK;rw[if_pos (n9 k),pq];exact h
theorem lq{i j:Int}(h:i<j):cE H .lt (.int i) (.int j)=some true:=by show some (decide _)=_;rw[decide_eq_true h]
theorem il{i j:Int}(h:¬ i<j):cE H .lt (.int i) (.int j)=some false:=by show some (decide _)=_;rw[decide_eq_false h]
theorem gM{i j:Int}(h:j<i):cE H .gt (.int i) (.int j)=some true:=by show some (decide _)=_;rw[decide_eq_true h]
theorem NC{i j:Int}(h:¬ j<i):cE H .gt (.int i) (.int j)=some false:=by show some (decide _)=_;rw[decide_eq_false h]
theorem Fb{i j:Int}(h:i=j):cE H .eq (.int i) (.int j)=some true:=by subst h;show some (i==i)=_;rw[beq_self_eq_true]
theorem sY{i j:Int}(h:i≠j):cE H .eq (.int i) (.int j)=some false:=by show some (i==j)=_;rw[beq_eq_false_iff_ne.mpr h]
theorem bu{s t:List Nat}{q:Bool}(h:(s==t)=q):cE H .eq (.str s) (.str t)=some q:=by show some (s==t)=_;rw[h]
theorem cv{n:Nat}{x:O}(h:H[n]?=some x):n<H.length:=(eV.mp h).1
theorem aw{n:Nat}{x y:O}(h:H[n]?=some y):(H.set n x)[n]?=some x:=xT (cv h)
theorem aa{n m:Nat}{x:O}{y:Option O}(h:n≠m)(h2:H[m]?=y):(H.set n x)[m]?=y:=(iR h).trans h2
theorem ag{n:Nat}{x:O}{y:Hp}(h:H[n]?=some x):(H++y)[n]?=some x:=by
 rw[dh (cv h)];exact h
theorem ai{x:O}:(H++[x])[H.length]?=some x:=by simp
theorem aE{n:Nat}{x:O}(h:H[n]?=some x):n≠H.length:=dt (cv h)
theorem aK{n:Nat}{x:O}(h:H[n]?=some x):H.length≠n:=cR (aE h)
variable {cs:Lo->Hp->Option (Bool×Hp)}{ev tv:Lo->Hp->Option (V×Hp)}{ct:CT}{it et:It}{acc:List V}{n:Nat}{bd:Lo->Hp->SR}
theorem uY:jy P call [] l H=some (true,H):=rfl
theorem y8{q:Option (Bool×Hp)}(h1:av P call e l H=some (.bool true,H1))(h2:jy P call es l H1=q):jy P call (e::es) l H=q:=(aF h1).trans h2
theorem xq(h1:av P call e l H=some (.bool false,H1)):jy P call (e::es) l H=some (false,H1):=aF h1
theorem lr(h:dz H it=some none):cP cs ev ct l (n+1) it acc H=some (acc.reverse,H):=by rw[mw,h]
theorem jn{w:V}{q:Option (List V×Hp)}(h1:dz H it=some (some (v,et)))(h2:dX ct v l=some l1)(h3:cs l1 H=some (true,H1))(h4:ev l1 H1=some (w,H2))(h5:cP cs ev ct l n et (w::acc) H2=q):cP cs ev ct l (n+1) it acc H=q:=by
 rw[mw,h1];dsimp only;rw[h2];dsimp only;rw[aF h3,if_pos rfl,aF h4];exact h5
theorem Br{q:Option (List V×Hp)}(h1:dz H it=some (some (v,et)))(h2:dX ct v l=some l1)(h3:cs l1 H=some (false,H1))(h5:cP cs ev ct l n et acc H1=q):cP cs ev ct l (n+1) it acc H=q:=by
 rw[mw,h1];dsimp only;rw[h2];dsimp only;rw[aF h3];exact h5
theorem lu(h:dz H it=some none):dF ct bd (n+1) it l H=some (.next,l,H):=by rw[pH,h]
theorem jo{q:SR}(h1:dz H it=some (some (v,et)))(h2:dX ct v l=some l1)(h3:bd l1 H=some (.next,l2,H2))(h4:dF ct bd n et l2 H2=q):dF ct bd (n+1) it l H=q:=by
 rw[pH,h1];dsimp only;rw[h2];dsimp only;rw[h3];exact h4
theorem Kg{q:SR}(h1:dz H it=some (some (v,et)))(h2:dX ct v l=some l1)(h3:bd l1 H=some (.cont,l2,H2))(h4:dF ct bd n et l2 H2=q):dF ct bd (n+1) it l H=q:=by
 rw[pH,h1];dsimp only;rw[h2];dsimp only;rw[h3];exact h4
theorem ND(h1:dz H it=some (some (v,et)))(h2:dX ct v l=some l1)(h3:bd l1 H=some (.ret u,l2,H2)):dF ct bd (n+1) it l H=some (.ret u,l2,H2):=by
 rw[pH,h1];dsimp only;rw[h2];dsimp only;rw[h3]
theorem gc(h1:tv l H=some (.bool false,H1)):dj tv bd (n+1) l H=some (.next,l,H1):=by rw[ng,aF h1]
theorem fV{q:SR}(h1:tv l H=some (.bool true,H1))(h2:bd l H1=some (.next,l2,H2))(h3:dj tv bd n l2 H2=q):dj tv bd (n+1) l H=q:=by
 rw[ng,aF h1];dsimp only;rw[h2];exact h3
theorem NE(h1:tv l H=some (.bool true,H1))(h2:bd l H1=some (.brk,l2,H2)):dj tv bd (n+1) l H=some (.next,l2,H2):=by
 rw[ng,aF h1];dsimp only;rw[h2]
theorem y9(h1:tv l H=some (.bool true,H1))(h2:bd l H1=some (.ret u,l2,H2)):dj tv bd (n+1) l H=some (.ret u,l2,H2):=by
 rw[ng,aF h1];dsimp only;rw[h2]
theorem j6{m j:Nat}{ls:List V}(h:H[m]?=some (.list ls))(h2:ls[j]?=some v):dz H (.lst m j)=some (some (v,.lst m (j+1))):=by rw[z0,cb h,h2]
theorem i2{m j:Nat}{ls:List V}(h:H[m]?=some (.list ls))(h2:ls[j]?=none):dz H (.lst m j)=some none:=by rw[z0,cb h,h2]
theorem gN{m:Nat}{ls:List V}(h:H[m]?=some (.list ls)):gg H (.loc m)=some (.lst m 0):=cb h
theorem Dw{p q k:Int}(h1:p.natAbs<1048576)(h2:q.natAbs<1048576)(h3:k=1):gg H (.cm p q k)=some (.cm p k (eZ p q k)):=if_pos ⟨h1,h2,h3⟩
theorem sZ{p q:Int}{m:Nat}(h:q=p+m):eZ p q 1=m:=by
 rw[h];show(p+m-p).toNat=m
 rw[Int.add_comm,zM,pq]
theorem Fc{m:Nat}{ls:List V}{ss:List (List Nat)}(h:H[m]?=some (.list ls))(h2:strsOf ls=some ss)(h3:(jG ss).length<=lim):qK .join (.str []) [.loc m] H=some (.str (jG ss),H):=by
 show(yb H m).map _=_
 have:yb H m=some (.str (jG ss)):=(cb h).trans (by unfold jf;rw[h2];exact dZ h3)
 rw[this];rfl
theorem re{a:Int}(h:a.natAbs<1048576):gE .range [.int a] H=some (.cm 0 a 1,H):=by
 show(gd (a.natAbs<1048576) (V.cm 0 a 1)).map _=_
 rw[dZ h];rfl
theorem rg{a b:Int}(h:a.natAbs<1048576/\b.natAbs<1048576):gE .range [.int a,.int b] H=some (.cm a b 1,H):=by
 show(gd (a.natAbs<1048576/\b.natAbs<1048576) (V.cm a b 1)).map _=_
 rw[dZ h];rfl
end
theorem iF{P:Pg}{call:bX}{t e f:ME}{l:Lo}{H H1 H2:Hp}{q:Bool}{u v:V}(h1:av P call t l H=some (.bool q,H1))(h2:av P call e l H1=some (u,H2))(h3:av P call f l H1=some (v,H2)):av P call (.ay t e f) l H=some (bif q then u else v,H2):=by
 cases q
 ·exact aR h1 h3
 ·exact be h1 h2
noncomputable abbrev au(own:List FI):Pg:=⟨O6++own,O7⟩
section
variable {own:List FI}{d:Nat}{H:Hp}
noncomputable abbrev cI(va rf lg:V)(m s:Int):O:=.inst 4 [(9,va),(10,.int m),(11,rf),(12,.int 64),(13,.int s),(14,lg)]
theorem qn{h:Nat}{va rf lg:V}{m s:Int}(hh:H[h]?=some (cI va rf lg m s))(hs:s<m):ae (au own) (d+1) 63 [.loc h] H=some (.none,H.set h (cI va rf lg m (s+1))):=
 em rfl rfl (ak (kI rfl (by exact aD (by solve_by_elim [ai,aw,aa,ag,aE,aK,cR]) rfl) aj (by rfl) (dE (by solve_by_elim [ai,aw,aa,ag,aE,aK,cR]))) (bx (aq (aJ rfl (by exact aD (by solve_by_elim [ai,aw,aa,ag,aE,aK,cR]) rfl)) (aJ rfl (by exact aD (by solve_by_elim [ai,aw,aa,ag,aE,aK,cR]) rfl)) (NC (by omega))) aL))
noncomputable abbrev Xy(t:List Nat):V:=.tup [.str [99,104,97,114,115],.str t]
theorem Kh{a b rest at' nm s p h:V}:ae (au own) (d+2) 67 [.tup [.tup [.str [99,97,116],a,b],rest],at',nm,s,p,h] H=some (.tup [.tup [a,.tup [b,rest]],at',nm],H):=by kernel_rfl
theorem Ki{a b rest at' nm:V}{p:Nat}{L:List V}(hp:H[p]?=some (.list L))(hl:L.length<lim):ae (au own) (d+1) 68 [.tup [.str [97,108,116],a,b],rest,at',nm,.loc p] H=some (.tup [.tup [a,rest],at',nm],H.set p (.list (L++[.tup [.tup [b,rest],at',nm]]))):=
 af rfl rfl (dG rfl rfl (aU rfl (mQ (cn rfl (aZ (by solve_by_elim [ai,aw,aa,ag,aE,aK,cR]) rfl) rfl (bY (by solve_by_elim [ai,aw,aa,ag,aE,aK,cR]) hl)) rfl)))
theorem Kj{a b rest at' nm s h:V}{p:Nat}{L:List V}(hp:H[p]?=some (.list L))(hl:L.length<lim):ae (au own) (d+2) 67 [.tup [.tup [.str [97,108,116],a,b],rest],at',nm,s,.loc p,h] H=some (.tup [.tup [a,rest],at',nm],H.set p (.list (L++[.tup [.tup [b,rest],at',nm]]))):=
 af rfl rfl (dG rfl rfl (aU rfl (az (aG rfl (Ki hp hl)))))
end
section
variable {P:Pg}{call:bX}{l:Lo}{H H1 H2 H3:Hp}{a b z u v:V}{e f g:ME}
theorem s4{op jX:lV}{q:Bool}(h1:av P call e l H=some (a,H1))(h2:av P call f l H1=some (b,H2))(h3:cE H2 op a b=some true)(h4:av P call g l H2=some (z,H3))(h5:cE H3 jX b z=some q):av P call (.mn op jX e f g) l H=some (.bool q,H3):=
 (aF h1).trans ((aF h2).trans (by rw[h3];exact(aF h4).trans (by rw[h5])))
theorem rh{op jX:lV}(h1:av P call e l H=some (a,H1))(h2:av P call f l H1=some (b,H2))(h3:cE H2 op a b=some false):av P call (.mn op jX e f g) l H=some (.bool false,H2):=
 (aF h1).trans ((aF h2).trans (by rw[h3]))
theorem gj{i j:Nat}{q:Bool}(h:decide (i<=j)=q):cE H .le (.int i) (.int j)=some q:=by
 show some (decide ((i:Int)<=j))=_
 rw[← h];congr 1;exact decide_eq_decide.mpr Int.ofNat_le
theorem fO{i j:Nat}{q:Bool}(h:decide (i<j)=q):cE H .lt (.int i) (.int j)=some q:=by
 show some (decide ((i:Int)<j))=_
 rw[← h];congr 1;exact decide_eq_decide.mpr Int.ofNat_lt
theorem o0{i j:Nat}{q:Bool}(h:decide (j<i)=q):cE H .gt (.int i) (.int j)=some q:=by
 show some (decide ((j:Int)<i))=_
 rw[← h];congr 1;exact decide_eq_decide.mpr Int.ofNat_lt
theorem fq{i j:Int}{q:Bool}(h:decide (i=j)=q):cE H .eq (.int i) (.int j)=some q:=by
 show some (i==j)=_
 rw[← h];congr 1
theorem za{i j:Int}{q:Bool}(h:decide (i<=j)=q):cE H .le (.int i) (.int j)=some q:=by show some (decide _)=_;rw[h]
theorem rj{x y q:Bool}(h:(x==y)=q):cE H .eq (.bool x) (.bool y)=some q:=by
 show pE H (.bool x) (.bool y)=_
 induction x <;> induction y <;> induction h <;> rfl
theorem j7{c:Nat}{t:List Nat}:cE H .isin (.str [c]) (.str t)=some (t.contains c):=rfl
theorem hU{c:Nat}{t:List Nat}:cE H .i8 (.str [c]) (.str t)=some (!(t.contains c)):=rfl
theorem RO{n:Nat}{s:List Nat}(h:H[n]?=some (.list [])):cE H .isin (.str s) (.loc n)=some false:=(cb h).trans rfl
theorem Bs{α:Type}{l:List α}{k:Nat}{x:α}(h:l[k]?=some x):fK l (k:Int)=some x:=by unfold fK;rw[if_pos (n9 k),pq];exact h
theorem io{s:List Nat}{k c:Nat}(h:s[k]?=some c):jg H (.str s) (.int k)=some (.str [c]):=by
 show(fK s k).map _=_
 rw[Bs h];rfl
theorem lw{β:Type}{n:Nat}{es:List (List Nat×V)}{k:List (List Nat×V)->Option β}(h:H[n]?=some (.dict es)):Cn H n k=k es:=by unfold Cn;rw[h]
theorem NF{n:Nat}{es:List (List Nat×V)}{k:List Nat}(h:H[n]?=some (.dict es))(h2:es.length<1024):tq H (.loc n) (.str k) v=some (H.set n (.dict (eY k v es))):=(lw h).trans (dZ h2)
end
noncomputable abbrev rm(k:List Nat):O:=.inst 1 [(15,.str [118,97,114]),(16,.none),(17,.str k)]
set_option genCtorIdx false in
inductive Sg where
 |ch (t:List Nat)|len (n:Nat)|pos (n:Nat)|fL (n:Nat)|tab (n:Nat)|fM (n:Nat)|any (t:List Nat)|fj (t:List Nat)|span (t:List Nat)|brk (t:List Nat)|rem
noncomputable def zb:Sg->List Nat
 |.ch _=>[99,104,97,114,115]
 |.len _=>[108,101,110]
 |.pos _=>[112,111,115]
 |.fL _=>[114,112,111,115]
 |.tab _=>[116,97,98]
 |.fM _=>[114,116,97,98]
 |.any _=>[97,110,121]
 |.fj _=>[110,111,116,97,110,121]
 |.span _=>[115,112,97,110]
 |.brk _=>[98,114,101,97,107]
 |.rem=>[114,101,109]
noncomputable def Xz:Sg->V
 |.ch t=>.str t
 |.len n=>.int n
 |.pos n=>.int n
 |.fL n=>.int n
 |.tab n=>.int n
 |.fM n=>.int n
 |.any t=>.str t
 |.fj t=>.str t
 |.span t=>.str t
 |.brk t=>.str t
 |.rem=>.none
noncomputable def Wj:Sg->List V
 |.ch t=>[.str t]
 |.len n=>[.int n]
 |.pos n=>[.int n]
 |.fL n=>[.int n]
 |.tab n=>[.int n]
 |.fM n=>[.int n]
 |.any t=>[.str t]
 |.fj t=>[.str t]
 |.span t=>[.str t]
 |.brk t=>[.str t]
 |.rem=>[]
noncomputable def uZ(x:Sg):V:=.tup (.str (zb x)::Wj x)
noncomputable def jT(s t:List Nat)(a:Nat):Bool:=(s.take (a+t.length)).drop a==t
noncomputable def eo(t:List Nat)(b:Bool):List Nat->Nat
 |[]=>0
 |c::r=>bif t.contains c==b then eo t b r+1 else 0
noncomputable def gW(s t:List Nat)(b:Bool)(a:Nat):Nat:=a+eo t b (s.drop a)
noncomputable def oN(b:Bool)(n:Nat):Option Nat:=bif b then some n else none
noncomputable def dT(s:List Nat)(a:Nat):Sg->Option Nat
 |.ch t=>oN (jT s t a) (a+t.length)
 |.len n=>oN (decide (a+n<=s.length)) (a+n)
 |.pos n=>oN (decide (a=n)) a
 |.fL n=>oN (decide (s.length=a+n)) a
 |.tab n=>oN (decide (a<=n)&&decide (n<=s.length)) n
 |.fM n=>oN (decide (a+n<=s.length)) (s.length-n)
 |.any t=>match s[a]? with|some c=>oN (t.contains c) (a+1)|none=>none
 |.fj t=>match s[a]? with|some c=>oN (!(t.contains c)) (a+1)|none=>none
 |.span t=>oN (decide (a<gW s t true a)) (gW s t true a)
 |.brk t=>oN (decide (gW s t false a<s.length)) (gW s t false a)
 |.rem=>some s.length
noncomputable def iO(x:Option Nat):V:=match x with|some n=>.int n|none=>.none
theorem lx{b:Bool}{n:Nat}:(bif b then V.int (n:Nat) else V.none)=iO (oN b n):=by induction b <;> rfl
section
variable {own:List FI}{d:Nat}{H:Hp}{s t:List Nat}{a n:Nat}
theorem Kk:ae (au own) (d+1) 28 [.str s,.int a,.str t] H=some (iO (dT s a (.ch t)),H):=
 ke (b:=some (bif jT s t a then .int (a+t.length:Nat) else .none,H)) (af rfl rfl (ak rfl (az (iF (aq rfl rfl (bu rfl)) rfl aj)))) (by rw[lx];rfl)
theorem RP:ae (au own) (d+1) 29 [.str s,.int a,.int n] H=some (iO (dT s a (.len n)),H):=
 ke (b:=some (bif decide (a+n<=s.length) then .int (a+n:Nat) else .none,H)) (af rfl rfl (az (iF (aq (cA rfl rfl (show _=some (V.int (a+n:Nat),_) from rfl)) rfl (gj (i:=a+n) (j:=s.length) rfl)) (cA rfl rfl (show _=some (V.int (a+n:Nat),_) from rfl)) aj))) (by rw[lx];rfl)
theorem RQ:ae (au own) (d+1) 30 [.int a,.int n] H=some (iO (dT s a (.pos n)),H):=
 ke (b:=some (bif decide (a=n) then .int a else .none,H)) (af rfl rfl (az (iF (aq rfl rfl (fq (i:=a) (j:=n) (q:=decide (a=n)) (decide_eq_decide.mpr Int.ofNat_inj))) rfl aj))) (by rw[lx];rfl)
theorem NG:ae (au own) (d+1) 31 [.str s,.int a,.int n] H=some (iO (dT s a (.fL n)),H):=
 ke (b:=some (bif decide (s.length=a+n) then .int a else .none,H)) (af rfl rfl (az (iF (aq (cA rfl rfl (show _=some (V.int ((s.length:Int)-a),_) from rfl)) rfl (fq (i:=(s.length:Int)-a) (j:=n) (q:=decide (s.length=a+n)) (decide_eq_decide.mpr (by omega)))) rfl aj))) (by rw[lx];rfl)
theorem RR:ae (au own) (d+1) 32 [.str s,.int a,.int n] H=some (iO (dT s a (.tab n)),H):=by
  show _=some (iO (oN (decide (a<=n)&&decide (n<=s.length)) n),H)
  cases h:decide (a<=n) with
 |false=>exact af rfl rfl (az (aR (rh rfl rfl (gj h)) aj))
 |true=>exact ke (b:=some (bif decide (n<=s.length) then .int n else .none,H)) (af rfl rfl (az (iF (s4 rfl rfl (gj h) rfl (gj rfl)) rfl aj))) (by rw[lx];rfl)
theorem NH:ae (au own) (d+1) 33 [.str s,.int a,.int n] H=some (iO (dT s a (.fM n)),H):=by
  refine ke (b:=some (bif decide (a+n<=s.length) then .int ((s.length:Int)-n) else .none,H)) (af rfl rfl (aV (cA rfl rfl (show _=some (V.int ((s.length:Int)-n),_) from rfl)) (az (iF (aq rfl rfl (za (i:=a) (j:=(s.length:Int)-n) (q:=decide (a+n<=s.length)) (decide_eq_decide.mpr (by omega)))) rfl aj)))) ?_
  show _=some (iO (oN (decide (a+n<=s.length)) (s.length-n)),H)
  cases h:decide (a+n<=s.length) with
 |false=>rfl
 |true=>rw[← Int.ofNat_sub (Nat.le_of_add_left_le (of_decide_eq_true h))];rfl
theorem Kl:ae (au own) (d+1) 34 [.str s] H=some (.int s.length,H):=
 af rfl rfl rfl
theorem RT:ae (au own) (d+1) 35 [.str s,.int a,.str t] H=some (iO (dT s a (.any t)),H):=by
  show _=some (iO (match s[a]? with|some c=>oN ((t.contains c)) (a+1)|none=>none),H)
  cases h:s[a]? with
 |none=>exact af rfl rfl (az (aR (dO (aq rfl rfl (fO (decide_eq_false (fH.mpr (lJ.mp h)))))) aj))
 |some c=>
    have hl:decide (a<s.length)=true:=decide_eq_true (eV.mp h).1
    dsimp only
    cases hc:t.contains c with
   |false=>exact af rfl rfl (az (aR (dc (aq rfl rfl (fO hl)) (dO (aq (bc rfl rfl (io h)) rfl (j7.trans (by rw[hc]))))) aj))
   |true=>exact af rfl rfl (az (be (dc (aq rfl rfl (fO hl)) (dc (aq (bc rfl rfl (io h)) rfl (j7.trans (by rw[hc]))) i1)) (cA rfl aj (show _=some (V.int (a+1:Nat),_) from rfl))))
theorem NI:ae (au own) (d+1) 36 [.str s,.int a,.str t] H=some (iO (dT s a (.fj t)),H):=by
  show _=some (iO (match s[a]? with|some c=>oN (!(t.contains c)) (a+1)|none=>none),H)
  cases h:s[a]? with
 |none=>exact af rfl rfl (az (aR (dO (aq rfl rfl (fO (decide_eq_false (fH.mpr (lJ.mp h)))))) aj))
 |some c=>
    have hl:decide (a<s.length)=true:=decide_eq_true (eV.mp h).1
    dsimp only
    cases hc:t.contains c with
   |true=>exact af rfl rfl (az (aR (dc (aq rfl rfl (fO hl)) (dO (aq (bc rfl rfl (io h)) rfl (hU.trans (by rw[hc];rfl))))) aj))
   |false=>exact af rfl rfl (az (be (dc (aq rfl rfl (fO hl)) (dc (aq (bc rfl rfl (io h)) rfl (hU.trans (by rw[hc];rfl))) i1)) (cA rfl aj (show _=some (V.int (a+1:Nat),_) from rfl))))
noncomputable def Ue:ME:=(.and [(.cmp .lt (.loc 1) (.prim .len [(.loc 0)])),(.cmp .eq (.cmp .isin (.idx (.loc 0) (.loc 1)) (.loc 2)) (.loc 3))])
noncomputable def Uf:List MS:=[(.aug 1 .add (.lit (.int 1)))]
theorem xr{b:Bool}:∀(r:List Nat)(a f:Nat),s.drop a=r->r.length<f->dj (av (au own) (ae (au own) d) Ue) (aQ (au own) (ae (au own) d) Uf) f [some (.str s),some (.int a),some (.str t),some (.bool b)] H=some (.next,[some (.str s),some (.int (a+eo t b r:Nat)),some (.str t),some (.bool b)],H)
 |[],a,f+1,hr,_=>gc (dO (aq rfl rfl (fO (decide_eq_false (fH.mpr (oa.mp hr))))))
 |c::r,a,f+1,hr,hf=>by
   have hc:s[a]?=some c:=by rw[← ml,hr];rfl
   have hl:decide (a<s.length)=true:=decide_eq_true (eV.mp hc).1
   have bK:s.drop (a+1)=r:=by rw[← mj,hr];rfl
   show _=some (Fl.next,[_,some (V.int ((a+(bif t.contains c==b then eo t b r+1 else 0):Nat):Int)),_,_],H)
   cases hb:t.contains c==b with
  |false=>exact gc (dc (aq rfl rfl (fO hl)) (dO (aq (aq (bc rfl rfl (io hc)) rfl j7) rfl (rj hb))))
  |true=>
    have ih:=xr (b:=b) r (a+1) f bK (iz hf)
    rw[show a+1+eo t b r=a+(eo t b r+1) from Nat.succ_add_eq_add_succ ..] at ih
    exact fV (dc (aq rfl rfl (fO hl)) (dc (aq (aq (bc rfl rfl (io hc)) rfl j7) rfl (rj hb)) i1)) rfl ih
theorem Fe{b:Bool}(hs:s.length<1048576):ae (au own) (d+1) 37 [.str s,.int a,.str t,.bool b] H=some (.int (gW s t b a),H):=
 af rfl rfl (ak (fB (xr (s.drop a) a 1048576 rfl (by rw[i7];omega))) rfl)
theorem NJ(hs:s.length<1048576):ae (au own) (d+2) 38 [.str s,.int a,.str t] H=some (iO (dT s a (.span t)),H):=
 ke (b:=some (bif decide (a<gW s t true a) then V.int (gW s t true a:Nat) else V.none,H)) (af rfl rfl (aV (aG rfl (Fe hs)) (az (iF (aq rfl rfl (o0 rfl)) rfl aj)))) (by rw[lx];rfl)
theorem RU(hs:s.length<1048576):ae (au own) (d+2) 39 [.str s,.int a,.str t] H=some (iO (dT s a (.brk t)),H):=
 ke (b:=some (bif decide (gW s t false a<s.length) then V.int (gW s t false a:Nat) else V.none,H)) (af rfl rfl (aV (aG rfl (Fe hs)) (az (iF (aq rfl rfl (fO rfl)) rfl aj)))) (by rw[lx];rfl)
theorem d6(hs:s.length<1048576):∀ x:Sg,ae (au own) (d+4) 44 [uZ x,.str s,.int a] H=some (iO (dT s a x),H)
 |.ch t=>af rfl rfl (az (aR rfl (aG rfl (af rfl rfl (aU rfl (az (aG rfl Kk)))))))
 |.len t=>af rfl rfl (az (aR rfl (aG rfl (af rfl rfl (ak rfl (aU rfl (az (aG rfl RP))))))))
 |.pos t=>af rfl rfl (az (aR rfl (aG rfl (af rfl rfl (dG rfl rfl (aU rfl (az (aG rfl RQ))))))))
 |.fL t=>af rfl rfl (az (aR rfl (aG rfl (af rfl rfl (cM rfl rfl rfl (aU rfl (az (aG rfl NG))))))))
 |.tab t=>af rfl rfl (az (aR rfl (aG rfl (af rfl rfl (ak rfl (cM rfl rfl rfl (aU rfl (az (aG rfl RR)))))))))
 |.fM t=>af rfl rfl (az (aR rfl (aG rfl (af rfl rfl (dG rfl rfl (cM rfl rfl rfl (aU rfl (az (aG rfl NH)))))))))
 |.any t=>af rfl rfl (az (aR rfl (aG rfl (af rfl rfl (cM rfl rfl rfl (cM rfl rfl rfl (aU rfl (az (aG rfl RT)))))))))
 |.fj t=>af rfl rfl (az (aR rfl (aG rfl (af rfl rfl (ak rfl (cM rfl rfl rfl (cM rfl rfl rfl (aU rfl (az (aG rfl NI))))))))))
 |.span t=>af rfl rfl (az (aR rfl (aG rfl (af rfl rfl (dG rfl rfl (cM rfl rfl rfl (cM rfl rfl rfl (aU rfl (az (aG rfl (NJ hs)))))))))))
 |.brk t=>af rfl rfl (az (aR rfl (aG rfl (af rfl rfl (cM rfl rfl rfl (cM rfl rfl rfl (cM rfl rfl rfl (az (aG rfl (RU hs))))))))))
 |.rem=>af rfl rfl (az (be rfl (aG rfl Kl)))
theorem su{h:V}:∀ x:Sg,ae (au own) (d+2) 27 [uZ x,h] H=some (uZ x,H)
 |.ch _=>by kernel_rfl
 |.len _=>by kernel_rfl
 |.pos _=>by kernel_rfl
 |.fL _=>by kernel_rfl
 |.tab _=>by kernel_rfl
 |.fM _=>by kernel_rfl
 |.any _=>by kernel_rfl
 |.fj _=>by kernel_rfl
 |.span _=>by kernel_rfl
 |.brk _=>by kernel_rfl
 |.rem=>by kernel_rfl
variable {h va rf lg r:Nat}{m k:Int}{v:V}{es:List (List Nat×V)}{log:List V}{key:List Nat}
theorem u2(hh:H[h]?=some (cI (.loc va) (.loc rf) (.loc lg) m k))(hr:H[r]?=some (rm key))(Wl:H[rf]?=some (.list []))(Wm:H[va]?=some (.dict es))(Km:es.length<1024)(NK:H[lg]?=some (.list log))(jp:log.length<lim)(n1:va≠h)(n2:va≠r)(n3:va≠lg):ae (au own) (d+1) 62 [.loc h,.loc r,v] H=some (.bool true,(H.set va (.dict (eY key v es))).set lg (.list (log++[.tup [.str key,v]]))):=
 af rfl rfl (bx (aq (aJ rfl (aD hr rfl)) (aJ rfl (aD hh rfl)) (RO Wl)) (ak (bl rfl (lk (aJ rfl (aD hh rfl)) (aJ rfl (aD hr rfl)) (NF Wm Km))) (mQ (cn (aJ rfl (aD (aa n1 hh) rfl)) (aZ (aa n3 NK) rfl) (b8 (dm (aX (aJ rfl (aD (aa n2 hr) rfl)) rfl))) (bY (aa n3 NK) jp)) rfl)))
end
noncomputable def lvl(c:Nat)(lv:Int):Int:=if c==40 then lv+1 else if c==41 then lv-1 else lv
noncomputable def kJ:List Nat->Int->Nat->Option Nat
 |[],_,_=>none
 |c::r,lv,a=>if lvl c lv<0 then none else if lvl c lv=0 then some (a+1) else kJ r (lvl c lv) (a+1)
theorem Ff{c:Nat}{r:List Nat}{lv:Int}{a:Nat}:kJ (c::r) lv a=if lvl c lv<0 then none else if lvl c lv=0 then some (a+1) else kJ r (lvl c lv) (a+1):=rfl
theorem qo{e:Nat}:∀(r:List Nat)(lv:Int)(a:Nat),kJ r lv a=some e->a<e/\e<=a+r.length
 |[],_,_,h=>nn h
 |c::r,lv,a,h=>by
  rw[Ff] at h
  by_cases h1:lvl c lv<0
  ·rw[if_pos h1] at h;exact nn h
  ·rw[if_neg h1] at h
   by_cases h2:lvl c lv=0
   ·rw[if_pos h2] at h;cases h;exact⟨jB _,jC (jz _) _⟩
   ·rw[if_neg h2] at h
    obtain⟨h3,h4⟩:=qo r _ _ h
    exact⟨Nat.lt_of_succ_lt h3,by rw[cw];exact nt (am [_,_,_] (.d ab (.a (.s ac) ar) (.d (.s (.a ac (.s ar))) ab .z)) rfl h4)⟩
noncomputable def om(s:List Nat):Nat->Nat->List Nat
 |0,_=>[]
 |n+1,a=>match kJ (s.drop a) 0 a with
  |none=>[]
  |some e=>e::om s n e
theorem zc{s:List Nat}{n a:Nat}:om s (n+1) a=(match kJ (s.drop a) 0 a with|none=>[]|some e=>e::om s n e):=rfl
noncomputable def eB(s:List Nat)(a:Nat):List Nat:=om s (s.length+1) a
theorem NL{H:Hp}{n:Nat}{x:O}(h:H[n]?=some x):H.set n x=H:=by
 obtain⟨h1,h2⟩:=eV.mp h
 rw[← h2];exact List.set_getElem_self h1
section
variable {own:List FI}{d:Nat}{H:Hp}{s t:List Nat}{a n e:Nat}
noncomputable def Fg:ME:=.cmp .lt (.loc 1) (.prim .len [.loc 0])
noncomputable def Kn:MS:=.ay (.cmp .eq (.idx (.loc 0) (.loc 1)) (.glob (.str [40]))) [.aug 2 .add (.lit (.int 1))] [.ay (.cmp .eq (.idx (.loc 0) (.loc 1)) (.glob (.str [41]))) [.aug 2 .sub (.lit (.int 1))] []]
noncomputable def Ko:List MS:=[Kn,.aug 1 .add (.lit (.int 1)),.ay (.cmp .lt (.loc 2) (.lit (.int 0))) [.ret (.lit (.none))] [],.ay (.cmp .eq (.loc 2) (.lit (.int 0))) [.ret (.loc 1)] []]
noncomputable abbrev Bt(s:List Nat)(a:Nat)(lv:Int):Lo:=[some (.str s),some (.int a),some (.int lv)]
theorem Dx{c:Nat}{lv:Int}(hc:s[a]?=some c):dD (au own) (ae (au own) d) Kn (Bt s a lv) H=some (.next,Bt s a (lvl c lv),H):=by
  unfold lvl
  cases h:c==40 with
 |true=>exact bQ (aq (bc rfl rfl (io hc)) bz (bu (by cases beq_iff_eq.mp h;rfl))) rfl
 |false=>
    have e1:([c]==([40]:List Nat))=false:=beq_eq_false_iff_ne.mpr λq=>by cases q;exact ff h.symm
    refine cu (aq (bc rfl rfl (io hc)) bz (bu e1)) ?_
    cases h2:c==41 with
   |true=>exact ak (bQ (aq (bc rfl rfl (io hc)) bz (bu (by cases beq_iff_eq.mp h2;rfl))) rfl) rfl
   |false=>
     have e2:([c]==([41]:List Nat))=false:=beq_eq_false_iff_ne.mpr λq=>by cases q;exact ff h2.symm
     exact ak (cu (aq (bc rfl rfl (io hc)) bz (bu e2)) rfl) rfl
noncomputable def rn(x:SR):SR:=match x with
 |some (.next,l,H)=>some (.ret .none,l,H)
 |x=>x
theorem xt:∀(r:List Nat)(a:Nat)(lv:Int)(f:Nat),s.drop a=r->r.length<f->∃ l',rn (dj (av (au own) (ae (au own) d) Fg) (aQ (au own) (ae (au own) d) Ko) f (Bt s a lv) H)=some (.ret (iO (kJ r lv a)),l',H)
 |[],a,lv,f+1,hr,_=>⟨_,congrArg rn (gc (aq rfl rfl (fO (decide_eq_false (fH.mpr (oa.mp hr))))))⟩
 |c::r,a,lv,f+1,hr,hf=>by
  have hc:s[a]?=some c:=by rw[← ml,hr];rfl
  have hl:decide (a<s.length)=true:=decide_eq_true (eV.mp hc).1
  have bK:s.drop (a+1)=r:=by rw[← mj,hr];rfl
  have ht:av (au own) (ae (au own) d) Fg (Bt s a lv) H=some (.bool true,H):=aq rfl rfl (fO hl)
  have h2:dD (au own) (ae (au own) d) (.aug 1 .add (.lit (.int 1))) (Bt s a (lvl c lv)) H=some (.next,Bt s (a+1) (lvl c lv),H):=rfl
  rw[Ff]
  by_cases h1:lvl c lv<0
  ·rw[if_pos h1]
   exact⟨_,congrArg rn (y9 ht (ak (Dx hc) (ak h2 (aU (aq rfl aj (lq h1)) (az aj)))))⟩
  ·rw[if_neg h1]
   by_cases h3:lvl c lv=0
   ·rw[if_pos h3]
    exact⟨_,congrArg rn (y9 ht (ak (Dx hc) (ak h2 (bx (aq rfl aj (il h1)) (aU (aq rfl aj (Fb h3)) (az rfl))))))⟩
   ·rw[if_neg h3]
    obtain⟨l',e⟩:=xt r (a+1) (lvl c lv) f bK (iz hf)
    exact⟨l',(congrArg rn (fV ht (ak (Dx hc) (ak h2 (bx (aq rfl aj (il h1)) (bx (aq rfl aj (sY h3)) aL)))) rfl)).trans e⟩
theorem sw(hs:s.length<1048576):ae (au own) (d+1) 41 [.str s,.int a] H=some (iO (kJ (s.drop a) 0 a),H):=by
 obtain⟨l',e⟩:=xt (own:=own) (d:=d) (s:=s) (H:=H) (s.drop a) a 0 1048576 rfl (by rw[i7];omega)
 refine af (l1:=l') rfl rfl (ak rfl ?_)
 generalize hw:dj (av (au own) (ae (au own) d) Fg) (aQ (au own) (ae (au own) d) Ko) 1048576 (Bt s a 0) H=x at e
 have hx:aQ (au own) (ae (au own) d) [.kj Fg Ko,.ret (.lit .none)] (Bt s a 0) H=rn x:=by rw[← hw];rfl
 exact hx.trans e
noncomputable def RV:List MS:=[.expr (.aS (.loc 2) .append [.loc 3]),.asg (.loc 3) (.call (.glob (.fn 41)) [.loc 0,.loc 3])]
noncomputable def RW:ME:=.cmp .eE (.loc 3) (.lit (.none))
noncomputable abbrev iL(L:List Nat):O:=.list (L.map λ(e:Nat)=>V.int e)
theorem HF{X:Hp}{x y:O}:(X++[x]).set X.length y=X++[y]:=by simp
theorem u3(hs:s.length<1048576){X:Hp}{a0:V}:∀(n e f:Nat)(L:List Nat),s.length<e+n->n<f->L.length+n<lim ->
   dj (av (au own) (ae (au own) (d+1)) RW) (aQ (au own) (ae (au own) (d+1)) RV) f [some (.str s),some a0,some (.loc X.length),some (iO (kJ (s.drop e) 0 e))] (X++[iL L])=some (.next,[some (.str s),some a0,some (.loc X.length),some .none],X++[iL (L++om s n e)])
 |0,e,f+1,L,h1,_,_=>by
   have:s.drop e=[]:=oa.mpr (n6 h1)
   rw[this,show L++om s 0 e=L from ce L]
   exact gc rfl
 |n+1,e,f+1,L,h1,h2,h3=>by
   rw[zc]
   cases hb:kJ (s.drop e) 0 e with
  |none=>
    rw[show L++(match (none:Option Nat) with|none=>[]|some e=>e::om s n e)=L from ce L]
    exact gc rfl
  |some e2=>
    have hg:=(qo _ _ _ hb).1
    have ih:=u3 hs (X:=X) (a0:=a0) n e2 f (L++[e2]) (by exact nl (am [_,_,_,_] (.d (.s ab) (.a ac (.s ar)) (.d (.s ac) aA (.d (.a aA ar) ab .z))) rfl h1 hg)) (iz h2) (by rw[aH];show L.length+1+n<lim;exact nl (am [_,_,_] (.d (.s (.a ab (.s ac))) ar (.d ar (.a (.s ab) ac) .z)) rfl h3))
    rw[bZ] at ih
    refine fV rfl (mQ (cn rfl (aZ ai rfl) rfl (bY ai (by rw[cT];exact nl (am [_,_,_] (.d (.s (.a ab (.s ac))) ar (.d ar ab .z)) rfl h3)))) ?_) ih
    rw[HF]
    refine aV (aG rfl (sw hs)) ?_
    show some (Fl.next,[some (V.str s),some a0,some (V.loc X.length),some (iO (kJ (s.drop e2) 0 e2))],X++[O.list (List.map (λ(e:Nat)=>V.int e) L++[V.int e2])])=_
    rw[show List.map (λ(e:Nat)=>V.int e) L++[V.int e2]=List.map (λ(e:Nat)=>V.int e) (L++[e2]) by rw[lK];rfl]
theorem ly(hs:s.length<1000):ae (au own) (d+2) 42 [.str s,.int a] H=some (.loc H.length,H++[iL (eB s a)]):=by
 refine af rfl rfl (ak (bl (dm (cF (aN rfl) (aG rfl (sw (by exact nl (am [_] (.d (.s ab) (.n 1000) (.d (.n 1048576) ab .z)) rfl hs)))))) rfl) (ak (fB (u3 (by exact nl (am [_] (.d (.s ab) (.n 1000) (.d (.n 1048576) ab .z)) rfl hs)) (X:=H) (a0:=.int a) (s.length+1) a 1048576 [] (by exact nl (am [_,_] (.d (.a ab (.s ac)) ac .z) rfl)) (by exact nl (am [_] (.d (.s ab) (.n 1000) (.d (.n 1048576) (.s ab) .z)) rfl hs)) (by show 0+(s.length+1)<1048576;exact nl (am [_] (.d (.s ab) (.n 1000) (.d (.n 1048576) (.a (.n 0) (.s ab)) .z)) rfl hs)))) (az rfl)))
theorem xu(hs:s.length<1000):ae (au own) (d+3) 45 [.str [98,97,108],.str s,.int a,.none] H=some (.loc H.length,H++[iL (eB s a)]):=
 af rfl rfl (ak rfl (aU rfl (az (aG rfl (ly hs)))))
theorem Dy{L:List Nat}:((L.map λ(e:Nat)=>V.int e).drop 1).reverse=(L.drop 1).reverse.map λ(e:Nat)=>V.int e:=by rw[← List.map_drop,zN]
theorem xw{n:Nat}{l:List V}(h:H[n]?=some (.list l)):jE (.loc n) .none (.int 0) (.int (-1)) H=some (.loc H.length,H++[.list (l.drop 1).reverse]):=by
 refine(cb h).trans ?_
 rfl
noncomputable def Wn:List MS:=[.expr (.aS (.loc 5) .append [.tup [.loc 1,.loc 9,.loc 3]])]
theorem u4{nd rest nm s' h:V}{a0:V}{p F G:Nat}{x7:V}{x10:Option V}(E0:List Nat)(hn:G≠p):∀(E:List Nat)(i f:Nat)(H:Hp)(L:List V)(x9:Option V),E.length<f->H[p]?=some (.list L)->H[G]?=some (iL E0)->E0.drop i=E->L.length+E.length<lim ->
  ∃ y,dF (.one 9) (λl H=>aQ (au own) (ae (au own) d) Wn l H) f (.lst G i) [some nd,some rest,some a0,some nm,some s',some (.loc p),some h,some x7,some (.loc F),x9,x10] H=some (.next,[some nd,some rest,some a0,some nm,some s',some (.loc p),some h,some x7,some (.loc F),y,x10],H.set p (.list (L++E.map λ(e:Nat)=>.tup [rest,.int e,nm])))
 |[],i,f+1,H,L,x9,_,hp,hg,hd,_=>by
  have:(E0.map λ(e:Nat)=>V.int e)[i]?=none:=by rw[iy,lJ.mpr (oa.mp hd)];rfl
  refine⟨x9,(lu (i2 hg this)).trans ?_⟩
  rw[rT,ce,NL hp]
 |e::E,i,f+1,H,L,x9,hf,hp,hg,hd,hl=>by
  have hx:(E0.map λ(e:Nat)=>V.int e)[i]?=some (.int e):=by rw[iy,← ml,hd];rfl
  have hd2:E0.drop (i+1)=E:=by rw[← mj,hd];rfl
  rw[cw] at hl hf
  obtain⟨y,ih⟩:=u4 (nd:=nd) (s':=s') (h:=h) (a0:=a0) (F:=F) (x7:=x7) (x10:=x10) E0 hn E (i+1) f (H.set p (.list (L++[.tup [rest,.int e,nm]]))) (L++[.tup [rest,.int e,nm]]) (some (.int e)) (iz hf) (aw hp) (aa hn.symm hg) hd2 (by rw[aH];show L.length+1+E.length<lim;exact nl (am [_,_,_] (.d (.s (.a ab (.s ac))) ar (.d ar (.a (.s ab) ac) .z)) rfl hl))
  refine⟨y,jo (j6 hg hx) rfl (fp (cn rfl (aZ hp rfl) rfl (bY hp (by exact nl (am [_,_,_] (.d (.s (.a ab (.s ac))) ar (.d ar ab .z)) rfl hl))))) (ih.trans ?_)⟩
  rw[rS,bZ];rfl
theorem zd{rest nm p h:V}(hs:s.length<1000)(hb:eB s a=[]):ae (au own) (d+3) 71 [.tup [.str [98,97,108]],rest,.int a,nm,.str s,p,h] H=some (.none,H++[iL []]++[iL []]):=by
 have e:=ly (own:=own) (d:=d) (H:=H) (a:=a) hs
 rw[hb] at e
 exact af rfl rfl (ak rfl (bx rfl (aU rfl (aV (aG rfl e) (ak (fA (dp rfl aj aj rfl (xw ai)) (gN ai) (lu (i2 ai rfl))) (az (aR (aq (aT rfl (dq (ag ai))) aj rfl) aj)))))))
theorem ze{rest nm h:V}{p e0:Nat}{E:List Nat}{L:List V}(hs:s.length<1000)(hb:eB s a=e0::E)(hp:H[p]?=some (.list L))(hl:L.length+E.length<lim)(hE:E.length<1000) :
  ae (au own) (d+3) 71 [.tup [.str [98,97,108]],rest,.int a,nm,.str s,.loc p,h] H=some (.tup [rest,.int e0,nm],(H++[iL (e0::E)]++[iL E.reverse]).set p (.list (L++E.reverse.map λ(e:Nat)=>.tup [rest,.int e,nm]))):=by
 have e:=ly (own:=own) (d:=d) (H:=H) (a:=a) hs
 rw[hb] at e
 have hH:=xw (ai (H:=H) (x:=iL (e0::E)))
 rw[Dy] at hH
 obtain⟨y,e2⟩:=u4 (own:=own) (d:=d+2) (nd:=.tup [.str [98,97,108]]) (rest:=rest) (nm:=nm) (s':=.str s) (h:=h) (a0:=.int a) (p:=p) (F:=H.length) (G:=(H++[iL (e0::E)]).length) (x7:=.str [98,97,108]) (x10:=none) E.reverse
  (by rw[aH];have:=cv hp;show H.length+1≠p;exact df (nl (am [_,_] (.d (.s ab) ac (.d (.s ac) ab .z)) rfl this))) E.reverse 0 1048576 (H++[iL (e0::E)]++[iL E.reverse]) L none (by rw[jA];exact nl (am [_] (.d (.s ab) (.n 1000) (.d (.n 1048576) ab .z)) rfl hE)) (ag (ag hp)) ai rfl (by rw[jA];exact hl)
 have hf:((H++[iL (e0::E)]++[iL E.reverse]).set p (.list (L++E.reverse.map λ(e:Nat)=>.tup [rest,.int e,nm])))[H.length]?=some (iL (e0::E)):=aa (aE hp) (ag ai)
 have hg:((((e0::E).map λ(e:Nat)=>V.int e).length:Nat):Int) > 0:=by rw[cT,cw];exact n8.mpr (jz _)
 exact af rfl rfl (ak rfl (bx rfl (aU rfl (aV (aG rfl e) (ak (fA (dp rfl aj aj rfl hH) (gN ai) e2) (az (be (aq (aT rfl (dq hf)) aj (gM hg)) (dm (aX rfl (aX (bc rfl aj (cQ hf rfl)) rfl))))))))))
theorem Bu{rest nm p h v:V}{H2:Hp}(e:ae (au own) (d+3) 71 [.tup [.str [98,97,108]],rest,.int a,nm,.str s,p,h] H=some (v,H2)):ae (au own) (d+4) 67 [.tup [.tup [.str [98,97,108]],rest],.int a,nm,.str s,p,h] H=some (v,H2):=
 af rfl rfl (ak rfl (cM rfl rfl rfl (cM rfl rfl rfl (az (aG rfl e)))))
end
structure KF(k:List Nat):Prop where
 f1:([[99,97,116],[97,108,116],[97,114,98,110,111],[108,97,116,101,114],[110,111,119]]:List (List Nat)).any (·==k)=false
 f2:(k.take 4==[101,110,100,32])=false
 f3:(k==[99,117,114,115,111,114])=false
 f4:(k==[100,101,108,97,121])=false
 f5:([[102,101,110,99,101],[97,98,111,114,116],[102,97,105,108],[115,117,99,99,101,101,100]]:List (List Nat)).any (·==k)=false
 f6:(k==[97,114,98])=false
 f7:(k==[98,97,108])=false
theorem kf:∀ x:Sg,KF (zb x)
 |.ch _=>⟨rfl,rfl,rfl,rfl,rfl,rfl,rfl⟩
 |.len _=>⟨rfl,rfl,rfl,rfl,rfl,rfl,rfl⟩
 |.pos _=>⟨rfl,rfl,rfl,rfl,rfl,rfl,rfl⟩
 |.fL _=>⟨rfl,rfl,rfl,rfl,rfl,rfl,rfl⟩
 |.tab _=>⟨rfl,rfl,rfl,rfl,rfl,rfl,rfl⟩
 |.fM _=>⟨rfl,rfl,rfl,rfl,rfl,rfl,rfl⟩
 |.any _=>⟨rfl,rfl,rfl,rfl,rfl,rfl,rfl⟩
 |.fj _=>⟨rfl,rfl,rfl,rfl,rfl,rfl,rfl⟩
 |.span _=>⟨rfl,rfl,rfl,rfl,rfl,rfl,rfl⟩
 |.brk _=>⟨rfl,rfl,rfl,rfl,rfl,rfl,rfl⟩
 |.rem=>⟨rfl,rfl,rfl,rfl,rfl,rfl,rfl⟩
inductive Ug:V->List Nat->Prop where
 |str (t:List Nat):Ug (.str t) t
 |int (n:Nat) (h:n<10):Ug (.int n) [48+n]
section
variable {own:List FI}{d:Nat}{H:Hp}{s t:List Nat}{a n e:Nat}{x:Sg}{rest nm p h:V}
theorem Kp(hs:s.length<1048576)(he:dT s a x=some e):ae (au own) (d+5) 71 [uZ x,rest,.int a,nm,.str s,p,h] H=some (.tup [rest,.int e,nm],H):=
 af rfl rfl (ak rfl (bx (aq rfl aj (bu (kf x).f6)) (bx (aq rfl aj (bu (kf x).f7)) (aV (aG rfl (su x)) (ak rfl (aV (aG rfl ((d6 hs x).trans (congrArg (λz=>some (iO z,H)) he))) rfl))))))
theorem Kq(hs:s.length<1048576)(he:dT s a x=none):ae (au own) (d+5) 71 [uZ x,rest,.int a,nm,.str s,p,h] H=some (.none,H):=
 af rfl rfl (ak rfl (bx (aq rfl aj (bu (kf x).f6)) (bx (aq rfl aj (bu (kf x).f7)) (aV (aG rfl (su x)) (ak rfl (aV (aG rfl ((d6 hs x).trans (congrArg (λz=>some (iO z,H)) he))) rfl))))))
theorem Fh{v:V}(hr:ae (au own) (d+5) 71 [uZ x,rest,.int a,nm,.str s,p,h] H=some (v,H)):ae (au own) (d+6) 67 [.tup [uZ x,rest],.int a,nm,.str s,p,h] H=some (v,H):=
 af rfl rfl (dG rfl rfl (bx (aq rfl rfl (congrArg some (kf x).f1)) (bx (aq rfl aj (bu (kf x).f2)) (bx (aq rfl aj (bu (kf x).f3)) (bx (aq rfl aj (bu (kf x).f4)) (bx (aq rfl rfl (congrArg some (kf x).f5)) (az (aG rfl hr))))))))
theorem Kr{b r at':V}{s:V}:ae (au own) (d+2) 67 [.tup [.tup [.str [110,111,119],b,r],rest],at',nm,s,p,h] H=some (.tup [.tup [b,.tup [.tup [.str [101,110,100,32,110,111,119],r,at'],rest]],at',nm],H):=by kernel_rfl
theorem HG{at':V}{s:V}:ae (au own) (d+2) 67 [.tup [.tup [.str [102,97,105,108]],rest],at',nm,s,p,h] H=some (.none,H):=by kernel_rfl
section
variable {p:Nat}{L:List V}{at' s:V}
theorem NM{b:V}(hp:H[p]?=some (.list L))(hl:L.length<lim):ae (au own) (d+1) 68 [.tup [.str [97,114,98,110,111],b],rest,at',nm,.loc p] H=some (.tup [rest,at',nm],H.set p (.list (L++[.tup [.tup [b,.tup [.tup [.str [101,110,100,32,114,111,117,110,100],.tup [.str [97,114,98,110,111],b],at'],rest]],at',nm]]))):=
 af rfl rfl (cM rfl rfl rfl (aU rfl (mQ (cn rfl (aZ hp rfl) rfl (bY hp hl)) rfl)))
theorem NN{b:V}(hp:H[p]?=some (.list L))(hl:L.length<lim):ae (au own) (d+2) 67 [.tup [.tup [.str [97,114,98,110,111],b],rest],at',nm,s,.loc p,h] H=some (.tup [rest,at',nm],H.set p (.list (L++[.tup [.tup [b,.tup [.tup [.str [101,110,100,32,114,111,117,110,100],.tup [.str [97,114,98,110,111],b],at'],rest]],at',nm]]))):=
 af rfl rfl (dG rfl rfl (aU rfl (az (aG rfl (NM hp hl)))))
end
section
variable {p:Nat}{L:List V}
theorem zf(hp:H[p]?=some (.list L))(hl:L.length<lim)(ha:a<s.length):ae (au own) (d+1) 71 [.tup [.str [97,114,98]],rest,.int a,nm,.str s,.loc p,h] H=some (.tup [rest,.int a,nm],H.set p (.list (L++[.tup [.tup [.tup [.str [97,114,98]],rest],.int (a+1:Nat),nm]]))):=
 af rfl rfl (ak rfl (aU rfl (ak (bQ (aq rfl rfl (fO (decide_eq_true ha))) (fp (cn rfl (aZ hp rfl) rfl (bY hp hl)))) rfl)))
theorem zh(ha:¬ a<s.length){p:V}:ae (au own) (d+1) 71 [.tup [.str [97,114,98]],rest,.int a,nm,.str s,p,h] H=some (.tup [rest,.int a,nm],H):=
 af rfl rfl (ak rfl (aU rfl (bx (aq rfl rfl (fO (decide_eq_false ha))) rfl)))
theorem Bv{v:V}{H2:Hp}{p:V}(e:ae (au own) (d+1) 71 [.tup [.str [97,114,98]],rest,.int a,nm,.str s,p,h] H=some (v,H2)):ae (au own) (d+2) 67 [.tup [.tup [.str [97,114,98]],rest],.int a,nm,.str s,p,h] H=some (v,H2):=
 af rfl rfl (ak rfl (cM rfl rfl rfl (cM rfl rfl rfl (az (aG rfl e)))))
end
theorem HH{b:V}:ae (au own) (d+2) 67 [.tup [.tup [.str [101,110,100,32,114,111,117,110,100],b,.int a],rest],.int a,nm,.str s,p,h] H=some (.none,H):=
 af rfl rfl (cM rfl rfl rfl (aU rfl (az (aG rfl (af rfl rfl (cM rfl rfl rfl (az (be (aq rfl rfl (fq (i:=a) (j:=a) (q:=true) (decide_eq_true rfl))) aj))))))))
theorem HI{b:V}(hn:n≠a):ae (au own) (d+2) 67 [.tup [.tup [.str [101,110,100,32,114,111,117,110,100],b,.int n],rest],.int a,nm,.str s,p,h] H=some (.tup [.tup [b,rest],.int a,nm],H):=
 af rfl rfl (cM rfl rfl rfl (aU rfl (az (aG rfl (af rfl rfl (cM rfl rfl rfl (az (aR (aq rfl rfl (fq (i:=a) (j:=n) (q:=false) (decide_eq_false λq=>hn (Int.ofNat_inj.mp q).symm))) rfl))))))))
section
variable {h:Nat}{v:V}{H2:Hp}{r:V}
theorem NO(e:ae (au own) (d+1) 62 [.loc h,r,.str ((s.take a).drop n)] H=some (.bool true,H2))(hh:∃ fs,H[h]?=some (.inst 4 fs)):ae (au own) (d+3) 67 [.tup [.tup [.str [101,110,100,32,110,111,119],r,.int n],rest],.int a,nm,.str s,p,.loc h] H=some (.tup [rest,.int a,nm],H2):=by
 obtain⟨fs,hh⟩:=hh
 exact af rfl rfl (cM rfl rfl rfl (aU rfl (az (aG rfl (af rfl rfl (dG rfl rfl (aU rfl (az (be (aY rfl hh rfl rfl (cF rfl (dp rfl rfl rfl aj ((by rfl)))) e) rfl)))))))))
end
end
set_option genCtorIdx false in
inductive Nd where
 |sg (x:Sg)|al (a b:Nd)|ca (a b:Nd)|rp (n:Nd)|nw (n:Nd) (r:Nat)|cg|fail|eU
set_option genCtorIdx false in
inductive Im where
 |nd (n:Nd)|en (r b:Nat)|er (n:Nd) (b:Nat)
noncomputable abbrev Nm:=List (Nat×List Nat)
noncomputable def nV:Nd->V
 |.sg x=>uZ x
 |.al a b=>.tup [.str [97,108,116],nV a,nV b]
 |.ca a b=>.tup [.str [99,97,116],nV a,nV b]
 |.rp n=>.tup [.str [97,114,98,110,111],nV n]
 |.nw n r=>.tup [.str [110,111,119],nV n,.loc r]
 |.cg=>.tup [.str [97,114,98]]
 |.fail=>.tup [.str [102,97,105,108]]
 |.eU=>.tup [.str [98,97,108]]
noncomputable def iV:Im->V
 |.nd n=>nV n
 |.en r b=>.tup [.str [101,110,100,32,110,111,119],.loc r,.int b]
 |.er n b=>.tup [.str [101,110,100,32,114,111,117,110,100],nV (.rp n),.int b]
noncomputable def cV:List Im->V
 |[]=>.none
 |i::r=>.tup [iV i,cV r]
noncomputable def qp(l:Nm):List V:=l.map λx=>.tup [.loc x.1,.str x.2]
structure Wy where
 c:List Im
 a:Nat
 nm:Nm
noncomputable def wV(w:Option Wy):V:=match w with
 |some w=>.tup [cV w.c,.int w.a,.tup (qp w.nm)]
 |none=>.none
structure Hs where
 vals:List (List Nat×V)
 log:List V
noncomputable def gO(σ:Hs)(k:List Nat)(v:V):Hs:=⟨eY k v σ.vals,σ.log++[.tup [.str k,v]]⟩
set_option genCtorIdx false in
inductive sK where
 |go (c:List Im) (a:Nat) (nm:Nm) (σ:Hs) (ps:List (Option Wy))|no
inductive Res where
 |met (a:Nat) (nm:Nm)|eK|ed
section
variable (kp:Nat->Option (List Nat))(s:List Nat)
inductive dP:Im->List Im->Nat->Nm->Hs->sK->Prop where
 |Uh {x r a nm σ e}:dT s a x=some e->dP (.nd (.sg x)) r a nm σ (.go r e nm σ [])
 |Ks {x r a nm σ}:dT s a x=none->dP (.nd (.sg x)) r a nm σ .no
 |ca {x y r a nm σ}:dP (.nd (.ca x y)) r a nm σ (.go (.nd x::.nd y::r) a nm σ [])
 |al {x y r a nm σ}:dP (.nd (.al x y)) r a nm σ (.go (.nd x::r) a nm σ [some ⟨.nd y::r,a,nm⟩])
 |rp {x r a nm σ}:dP (.nd (.rp x)) r a nm σ (.go r a nm σ [some ⟨.nd x::.er x a::r,a,nm⟩])
 |nw {x q r a nm σ}:dP (.nd (.nw x q)) r a nm σ (.go (.nd x::.en q a::r) a nm σ [])
 |Kt {r a nm σ}:a<s.length->dP (.nd .cg) r a nm σ (.go r a nm σ [some ⟨.nd .cg::r,a+1,nm⟩])
 |O8 {r a nm σ}:¬ a<s.length->dP (.nd .cg) r a nm σ (.go r a nm σ [])
 |u5 {r a nm σ e es}:eB s a=e::es->es.length<=3->s.length<1000->dP (.nd .eU) r a nm σ (.go r e nm σ (es.reverse.map λx=>some ⟨r,x,nm⟩))
 |qq {r a nm σ}:eB s a=[]->s.length<1000->dP (.nd .eU) r a nm σ .no
 |fail {r a nm σ}:dP (.nd .fail) r a nm σ .no
 |en {q b k r a nm σ}:kp q=some k->dP (.en q b) r a nm σ (.go r a nm (gO σ k (.str ((s.take a).drop b))) [])
 |HJ {x r a nm σ}:dP (.er x a) r a nm σ .no
 |Ui {x b r a nm σ}:b≠a->dP (.er x b) r a nm σ (.go (.nd (.rp x)::r) a nm σ [])
inductive Tr:List Im->Nat->Nm->Hs->List (Option Wy)->Nat->Res->Hs->Nat->Prop where
 |met {a nm σ L k}:Tr [] a nm σ L k (.met a nm) σ k
 |go {i r a nm σ L k R τ k' c' a' gZ σ' ps}:dP kp s i r a nm σ (.go c' a' gZ σ' ps)->Tr c' a' gZ σ' (L++ps) (k+1) R τ k'->Tr (i::r) a nm σ L k R τ k'
 |pop {i r a nm σ L k R τ k' w}:dP kp s i r a nm σ .no->Tr w.c w.a w.nm σ L (k+1) R τ k'->Tr (i::r) a nm σ (L++[some w]) k R τ k'
 |eK {i r a nm σ k}:dP kp s i r a nm σ .no->Tr (i::r) a nm σ [] k .eK σ (k+1)
 |ed {i r a nm σ L k}:dP kp s i r a nm σ .no->Tr (i::r) a nm σ (L++[none]) k .ed σ (k+1)
end
section
variable {kp:Nat->Option (List Nat)}{s:List Nat}
theorem Tr.mono{c:List Im}{a:Nat}{nm:Nm}{σ τ:Hs}{L:List (Option Wy)}{k k':Nat}{R:Res}(T:Tr kp s c a nm σ L k R τ k'):k<=k':=by
  induction T with
 |met=>exact aC _
 |go _ _ ih=>exact lL ih
 |pop _ _ ih=>exact lL ih
 |_=>exact eX _
end
noncomputable def jU(es:List (List Nat×V)):List (List Nat):=es.map (·.1)
theorem Fj{α:Type}[DecidableEq α]:∀(l K:List α),l.Nodup->(∀ x∈l,x∈K)->l.length<=K.length
 |[],K,_,_=>cj _
 |a::r,K,hn,hs=>by
  obtain⟨h1,h2⟩:=iw.mp hn
  have ha:=hs a (.head _)
  have:=Fj r (K.erase a) h2 λx hx=>(List.mem_erase_of_ne (λe=>h1 (by rw[← e];exact hx))).mpr (hs x (.tail _ hx))
  rw[List.length_erase_of_mem ha] at this
  have hp:=List.length_pos_of_mem ha
  rw[cw];omega
theorem jq(k:List Nat)(v:V):∀ es:List (List Nat×V),jU (eY k v es)=if k∈jU es then jU es else jU es++[k]
 |[]=>rfl
 |(j,u)::r=>by
   rw[sP]
   cases h:j==k with
  |true=>
    cases beq_iff_eq.mp h
    rw[if_pos rfl]
    exact(if_pos (show k∈k::jU r from wh ..)).symm
  |false=>
    have bn:k≠j:=λe=>by rw[e,beq_self_eq_true] at h;cases h
    rw[if_neg (by decide)]
    show j::jU (eY k v r)=if k∈j::jU r then j::jU r else(j::jU r)++[k]
    rw[jq k v r]
    by_cases hm:k∈jU r
    ·rw[if_pos hm,if_pos (.tail _ hm)]
    ·rw[if_neg hm,if_neg (λq=>(fm.mp q).elim bn hm)];rfl
structure Kd(K:List (List Nat))(es:List (List Nat×V)):Prop where
 nd:(jU es).Nodup
 sub:∀ x∈jU es,x∈K
theorem Kd.put{K:List (List Nat)}{es:List (List Nat×V)}(h:Kd K es){k:List Nat}(hk:k∈K)(v:V):Kd K (eY k v es):=by
 by_cases hm:k∈jU es
 ·exact⟨by rw[jq,if_pos hm];exact h.nd,by rw[jq,if_pos hm];exact h.sub⟩
 ·refine⟨?_,?_⟩
  ·rw[jq,if_neg hm]
   exact zJ.mpr ⟨h.nd,iw.mpr ⟨n7,.nil⟩,λa ha b hb e=>hm (by rw[dA.mp hb] at e;exact e▸ha)⟩
  ·rw[jq,if_neg hm]
   exact λx hx=>(eW.mp hx).elim (h.sub x) λq=>by rw[dA.mp q];exact hk
theorem Kd.len{K:List (List Nat)}{es:List (List Nat×V)}(h:Kd K es):es.length<=K.length:=by
 have:=Fj _ K h.nd h.sub
 rwa [jU,cT] at this
structure TS(kp:Nat->Option (List Nat))(H0:Hp)(p h va rf lg:Nat)(m:Int)(L:List V)(k:Nat)(σ:Hs)(H:Hp):Prop where
 len:H0.length<=H.length
 fW:H[p]?=some (.list L)
 host:H[h]?=some (cI (.loc va) (.loc rf) (.loc lg) m k)
 vals:H[va]?=some (.dict σ.vals)
 log:H[lg]?=some (.list σ.log)
 ref:H[rf]?=some (.list [])
 rk:∀ r key,kp r=some key->H[r]?=some (rm key)
 off:∀ i,i<H0.length->i≠p->i≠h->i≠va->i≠lg->H[i]?=H0[i]?
 n1:p≠lg
 n2:rf≠p
 n3:rf≠lg
theorem ba{H:Hp}{i j:Nat}{x y:O}(h1:H[i]?=some x)(h2:H[j]?=some y)(h:x≠y):i≠j:=λe=>h (bU (h1.symm.trans (e▸h2)))
section
variable {kp:Nat->Option (List Nat)}{own:List FI}{d:Nat}{H H0:Hp}{p h va rf lg:Nat}{m:Int}{L:List V}{k:Nat}{σ:Hs}{s:List Nat}
theorem TS.m1(t:TS kp H0 p h va rf lg m L k σ H):p≠h:=ba t.fW t.host (λe=>by cases e)
theorem TS.m2(t:TS kp H0 p h va rf lg m L k σ H):p≠va:=ba t.fW t.vals (λe=>by cases e)
theorem TS.m3(t:TS kp H0 p h va rf lg m L k σ H):h≠va:=ba t.host t.vals (λe=>by cases e)
theorem TS.m4(t:TS kp H0 p h va rf lg m L k σ H):h≠lg:=ba t.host t.log (λe=>by cases e)
theorem TS.m5(t:TS kp H0 p h va rf lg m L k σ H):va≠lg:=ba t.vals t.log (λe=>by cases e)
theorem TS.m6(t:TS kp H0 p h va rf lg m L k σ H):rf≠h:=ba t.ref t.host (λe=>by cases e)
theorem TS.m7(t:TS kp H0 p h va rf lg m L k σ H):rf≠va:=ba t.ref t.vals (λe=>by cases e)
theorem TS.step(t:TS kp H0 p h va rf lg m L k σ H):TS kp H0 p h va rf lg m L (k+1) σ (H.set h (cI (.loc va) (.loc rf) (.loc lg) m (k+1))):=
 {t with
  len:=by rw[dB];exact t.len
  fW:=aa t.m1.symm t.fW,host:=aw t.host,vals:=aa t.m3 t.vals,log:=aa t.m4 t.log,ref:=aa t.m6.symm t.ref
  rk:=λr key e=>aa (ba t.host (t.rk r key e) (λe=>by cases e)) (t.rk r key e)
  off:=λi h1 h2 h3 h4 h5=>aa h3.symm (t.off i h1 h2 h3 h4 h5) }
theorem TS.push(t:TS kp H0 p h va rf lg m L k σ H)(L':List V):TS kp H0 p h va rf lg m L' k σ (H.set p (.list L')):=
 {t with
  len:=by rw[dB];exact t.len
  fW:=aw t.fW,host:=aa t.m1 t.host,vals:=aa t.m2 t.vals,log:=aa t.n1 t.log,ref:=aa t.n2.symm t.ref
  rk:=λr key e=>aa (ba t.fW (t.rk r key e) (λe=>by cases e)) (t.rk r key e)
  off:=λi h1 h2 h3 h4 h5=>aa h2.symm (t.off i h1 h2 h3 h4 h5) }
theorem TS.app(t:TS kp H0 p h va rf lg m L k σ H)(x:O):TS kp H0 p h va rf lg m L k σ (H++[x]):=
 {t with
  len:=by rw[aH];exact zR t.len
  fW:=ag t.fW,host:=ag t.host,vals:=ag t.vals,log:=ag t.log,ref:=ag t.ref
  rk:=λr key e=>ag (t.rk r key e)
  off:=λi h1 h2 h3 h4 h5=>(dh (dM h1 t.len)).trans (t.off i h1 h2 h3 h4 h5) }
theorem TS.asg(t:TS kp H0 p h va rf lg m L k σ H)(key:List Nat)(v:V):TS kp H0 p h va rf lg m L k (gO σ key v) ((H.set va (.dict (eY key v σ.vals))).set lg (.list (σ.log++[.tup [.str key,v]]))):=
 {t with
  len:=by rw[dB,dB];exact t.len
  fW:=aa t.n1.symm (aa t.m2.symm t.fW),host:=aa t.m4.symm (aa t.m3.symm t.host),vals:=aa t.m5.symm (aw t.vals),log:=aw (aa t.m5 t.log),ref:=aa t.n3.symm (aa t.m7.symm t.ref)
  rk:=λr key e=>aa (ba t.log (t.rk r key e) (λe=>by cases e)) (aa (ba t.vals (t.rk r key e) (λe=>by cases e)) (t.rk r key e))
  off:=λi h1 h2 h3 h4 h5=>aa h5.symm (aa h4.symm (t.off i h1 h2 h3 h4 h5)) }
theorem du{α β:Type}(f:α->β)(l:List α)(x:α):(l++[x]).map f=l.map f++[f x]:=by rw[lK];rfl
noncomputable def Uj(A:sK):V:=match A with
 |.go c a nm _ _=>.tup [cV c,.int a,.tup (qp nm)]
 |.no=>.none
noncomputable def Fk(A:sK)(L:List V):List V:=match A with
 |.go _ _ _ _ ps=>L++ps.map wV
 |.no=>L
noncomputable def Uk(A:sK)(σ:Hs):Hs:=match A with
 |.go _ _ _ σ' _=>σ'
 |.no=>σ
structure Lm(L:List V)(nm:Nm)(σ:Hs):Prop where
 l4:L.length+4<lim
 n:nm.length+1<=lim
 v:σ.vals.length<1024
 g:σ.log.length<lim
theorem Lm.l{L:List V}{nm:Nm}{σ:Hs}(b:Lm L nm σ):L.length<lim:=ix (cC ..) b.l4
inductive Ul(own:List FI)(d:Nat)(kp:Nat->Option (List Nat))(s:List Nat)(H0:Hp)(p h va rf lg:Nat)(m:Int)(L:List V)(k:Nat)(σ:Hs)(H:Hp)(i:Im)(r:List Im)(a:Nat)(nm:Nm)(A:sK):Prop where
 |mk (H':Hp) (e:ae (au own) (d+6) 67 [.tup [iV i,cV r],.int a,.tup (qp nm),.str s,.loc p,.loc h] H=some (Uj A,H')) (t:TS kp H0 p h va rf lg m (Fk A L) k (Uk A σ) H'):Ul own d kp s H0 p h va rf lg m L k σ H i r a nm A
theorem TS.same(t:TS kp H0 p h va rf lg m L k σ H):TS kp H0 p h va rf lg m (L++([]:List (Option Wy)).map wV) k σ H:=by rw[rT,ce];exact t
theorem TS.pX(t:TS kp H0 p h va rf lg m L k σ H)(Km:σ.vals.length<1024)(jp:σ.log.length<lim){q:Nat}{key:List Nat}(hk:kp q=some key)(v:V)(d:Nat):ae (au own) (d+1) 62 [.loc h,.loc q,v] H=some (.bool true,(H.set va (.dict (eY key v σ.vals))).set lg (.list (σ.log++[.tup [.str key,v]]))):=
 u2 t.host (t.rk q key hk) t.ref t.vals Km t.log jp t.m3.symm (ba t.vals (t.rk q key hk) (λe=>by cases e)) t.m5
theorem s5(hs:s.length<1048576){i:Im}{r:List Im}{a:Nat}{nm:Nm}{A:sK}(X:dP kp s i r a nm σ A)(t:TS kp H0 p h va rf lg m L k σ H)(b:Lm L nm σ):Ul own d kp s H0 p h va rf lg m L k σ H i r a nm A:=by
  induction X with
 |Uh e=>exact⟨H,Fh (Kp hs e),t.same⟩
 |Ks e=>exact⟨H,Fh (Kq hs e),t⟩
 |ca=>exact⟨H,Kh,t.same⟩
 |al=>exact⟨_,Kj t.fW b.l,t.push _⟩
 |rp=>exact⟨_,NN t.fW b.l,t.push _⟩
 |nw=>exact⟨H,Kr,t.same⟩
 |Kt e=>exact⟨_,Bv (zf t.fW b.l e),t.push _⟩
 |O8 e=>exact⟨H,Bv (zh e),t.same⟩
 |@u5 r a nm σ e es e1 e2 e3=>
   refine⟨_,Bu (ze e3 e1 t.fW (ix (jC (gT e2) _) b.l4) (ix e2 (by decide))),?_⟩
   have h1:(es.reverse.map λx=>some (⟨r,x,nm⟩:Wy)).map wV=es.reverse.map λ(e:Nat)=>V.tup [cV r,.int e,.tup (qp nm)]:=by rw[te];rfl
   show TS _ _ _ _ _ _ _ _ (L++List.map wV (es.reverse.map λx=>some (⟨r,x,nm⟩:Wy))) _ _ _
   rw[h1]
   exact((t.app _).app _).push _
 |qq e1 e3=>exact⟨_,Bu (zd e3 e1),(t.app _).app _⟩
 |fail=>exact⟨H,HG,t⟩
 |en e=>exact⟨_,NO (t.pX b.v b.g e _ _) ⟨_,t.host⟩,(t.asg _ _).same⟩
 |HJ=>exact⟨H,HH,t⟩
 |Ui e=>exact⟨H,HI e,t.same⟩
noncomputable def tO:ME:=(.cmp .gt (.prim .len [(.loc 4)]) (.lit (.int 0)))
noncomputable def bO:List MS:=[(.asg (.loc 5) (.aS (.loc 4) .pop [])),(.ay (.cmp .is (.loc 5) (.lit .none)) [(.ret (.glob (.str [108,111,115,116])))] []),(.asg (.tup [(.loc 6),(.loc 7),(.loc 8)]) (.loc 5)),(.kj (.cmp .eE (.loc 6) (.lit .none)) [(.expr (.bp (.loc 3) 118 [])),(.asg (.loc 5) (.call (.glob (.fn 67)) [(.loc 6),(.loc 7),(.loc 8),(.loc 1),(.loc 4),(.loc 3)])),(.ay (.cmp .is (.loc 5) (.lit .none)) [.brk] []),(.ay (.cmp .eq (.loc 5) (.glob (.str [108,111,115,116]))) [(.ret (.glob (.str [108,111,115,116])))] []),(.asg (.tup [(.loc 6),(.loc 7),(.loc 8)]) (.loc 5))]),(.ay (.cmp .is (.loc 6) (.lit .none)) [(.ret (.tup [(.loc 7),(.prim .list [(.loc 8)])]))] [])]
noncomputable def tI:ME:=(.cmp .eE (.loc 6) (.lit .none))
noncomputable def bI:List MS:=[(.expr (.bp (.loc 3) 118 [])),(.asg (.loc 5) (.call (.glob (.fn 67)) [(.loc 6),(.loc 7),(.loc 8),(.loc 1),(.loc 4),(.loc 3)])),(.ay (.cmp .is (.loc 5) (.lit .none)) [.brk] []),(.ay (.cmp .eq (.loc 5) (.glob (.str [108,111,115,116]))) [(.ret (.glob (.str [108,111,115,116])))] []),(.asg (.tup [(.loc 6),(.loc 7),(.loc 8)]) (.loc 5))]
noncomputable def bF:List MS:=[(.ay (.cmp .is (.loc 6) (.lit .none)) [(.ret (.tup [(.loc 7),(.prim .list [(.loc 8)])]))] [])]
noncomputable def on(g:Lo->Hp->SR)(x:SR):SR:=match x with
 |some (Fl.next,l,H)=>g l H
 |some (Fl.cont,l,H)=>g l H
 |some (Fl.brk,l,H)=>some (Fl.next,l,H)
 |some (Fl.ret v,l,H)=>some (Fl.ret v,l,H)
 |none=>none
theorem Ku{tv:Lo->Hp->Option (V×Hp)}{bd:Lo->Hp->SR}{n:Nat}{l:Lo}{H H1:Hp}(h1:tv l H=some (.bool true,H1)):dj tv bd (n+1) l H=on (dj tv bd n) (bd l H1):=by
 rw[ng,aF h1];rfl
noncomputable def Bw(g:Lo->Hp->SR)(x:SR):SR:=match x with|some (Fl.next,l,H)=>g l H|x=>x
noncomputable abbrev tl(nd bg:V)(s:List Nat)(h p:Nat)(w:Option V)(c a nm:V):Lo:=[some nd,some (.str s),some bg,some (.loc h),some (.loc p),w,some c,some a,some nm]
theorem Kv{nd bg i r a nm c' a' n':V}{w:Option V}{va rf lg:V}{k:Int}{H2:Hp}(hh:H[h]?=some (cI va rf lg m k))(hk:k<m)(ha:ae (au own) (d+6) 67 [.tup [i,r],a,nm,.str s,.loc p,.loc h] (H.set h (cI va rf lg m (k+1)))=some (.tup [c',a',n'],H2)) :
  aQ (au own) (ae (au own) (d+6)) bI (tl nd bg s h p w (.tup [i,r]) a nm) H=some (.next,tl nd bg s h p (some (.tup [c',a',n'])) c' a' n',H2):=
 ak (jm (aY rfl hh rfl rfl aW (qn hh hk))) (aV (aG rfl ha) rfl)
theorem NP{nd bg i r a nm:V}{w:Option V}{va rf lg:V}{k:Int}{H2:Hp}(hh:H[h]?=some (cI va rf lg m k))(hk:k<m)(ha:ae (au own) (d+6) 67 [.tup [i,r],a,nm,.str s,.loc p,.loc h] (H.set h (cI va rf lg m (k+1)))=some (.none,H2)) :
  aQ (au own) (ae (au own) (d+6)) bI (tl nd bg s h p w (.tup [i,r]) a nm) H=some (.brk,tl nd bg s h p (some .none) (.tup [i,r]) a nm,H2):=
 ak (jm (aY rfl hh rfl rfl aW (qn hh hk))) (aV (aG rfl ha) (xo (bQ rfl (xo NB))))
theorem Bx{nd bg:V}{w x y z:Option V}{c a nm:V}(hp:H[p]?=some (.list (L++[.tup [c,a,nm]]))) :
  aQ (au own) (ae (au own) (d+6)) bO [some nd,some (.str s),some bg,some (.loc h),some (.loc p),w,x,y,z] H=Bw (aQ (au own) (ae (au own) (d+6)) bF) (dj (av (au own) (ae (au own) (d+6)) tI) (aQ (au own) (ae (au own) (d+6)) bI) 1048576 (tl nd bg s h p (some (.tup [c,a,nm])) c a nm) (H.set p (.list L))):=
 ak (bl (cn rfl (aZ hp rfl) aW (ll hp)) gb) rfl
theorem HK{nd bg:V}{w x y z:Option V}(hp:H[p]?=some (.list (L++[.none]))) :
  aQ (au own) (ae (au own) (d+6)) bO [some nd,some (.str s),some bg,some (.loc h),some (.loc p),w,x,y,z] H=some (.ret (.str [108,111,115,116]),[some nd,some (.str s),some bg,some (.loc h),some (.loc p),some .none,x,y,z],H.set p (.list L)):=
 ak (bl (cn rfl (aZ hp rfl) aW (ll hp)) gb) rfl
theorem RX{nd bg:V}{w:Option V}{a:V}{nm:List V} :
  aQ (au own) (ae (au own) (d+6)) bF (tl nd bg s h p w .none a (.tup nm)) H=some (.ret (.tup [a,.loc H.length]),tl nd bg s h p w .none a (.tup nm),H++[.list nm]):=
 gL rfl
theorem RY{nd bg:V}{w:Option V}{a nm i r:V} :
 aQ (au own) (ae (au own) (d+6)) bF (tl nd bg s h p w (.tup [i,r]) a nm) H=some (.next,tl nd bg s h p w (.tup [i,r]) a nm,H):=by kernel_rfl
theorem Kw{nd bg:V}{w x y z:Option V}{v:V}(hp:H[p]?=some (.list (L++[v]))):av (au own) (ae (au own) (d+6)) tO [some nd,some (.str s),some bg,some (.loc h),some (.loc p),w,x,y,z] H=some (.bool true,H):=
 aq (aT rfl (dq hp)) aj (gM (by rw[aH];exact n8.mpr (jz _)))
theorem Um{nd bg:V}{w x y z:Option V}(hp:H[p]?=some (.list [])):av (au own) (ae (au own) (d+6)) tO [some nd,some (.str s),some bg,some (.loc h),some (.loc p),w,x,y,z] H=some (.bool false,H):=
 aq (aT rfl (dq hp)) aj (by rfl)
theorem O9{nd bg:V}{w:Option V}{a nm i r:V}:av (au own) (ae (au own) (d+6)) tI (tl nd bg s h p w (.tup [i,r]) a nm) H=some (.bool true,H):=by kernel_rfl
theorem Un{nd bg:V}{w:Option V}{a nm:V}:av (au own) (ae (au own) (d+6)) tI (tl nd bg s h p w .none a nm) H=some (.bool false,H):=by kernel_rfl
noncomputable def Uo(R:Res)(l:Lo)(H:Hp):SR:=match R with
 |.met a nm=>some (.ret (.tup [.int a,.loc H.length]),l,H++[.list (qp nm)])
 |.eK=>some (.next,l,H)
 |.ed=>some (.ret (.str [108,111,115,116]),l,H)
noncomputable def XX(own:List FI)(d f F:Nat)(l:Lo)(H:Hp):SR:=on (dj (av (au own) (ae (au own) (d+6)) tO) (aQ (au own) (ae (au own) (d+6)) bO) F) (Bw (aQ (au own) (ae (au own) (d+6)) bF) (dj (av (au own) (ae (au own) (d+6)) tI) (aQ (au own) (ae (au own) (d+6)) bI) f l H))
theorem Kx{f F:Nat}{nd bg i r a nm c' a' n':V}{w:Option V}{H2:Hp}(t:TS kp H0 p h va rf lg m L k σ H)(hk:(k:Int)<m)(ha:ae (au own) (d+6) 67 [.tup [i,r],a,nm,.str s,.loc p,.loc h] (H.set h (cI (.loc va) (.loc rf) (.loc lg) m (k+1)))=some (.tup [c',a',n'],H2)) :
  XX own d (f+1) F (tl nd bg s h p w (.tup [i,r]) a nm) H=XX own d f F (tl nd bg s h p (some (.tup [c',a',n'])) c' a' n') H2:=
 congrArg (λz=>on _ (Bw _ z)) (fV O9 (Kv t.host hk ha) rfl)
theorem zi{f F:Nat}{nd bg i r a nm:V}{w:Option V}{H2:Hp}(t:TS kp H0 p h va rf lg m L k σ H)(hk:(k:Int)<m)(ha:ae (au own) (d+6) 67 [.tup [i,r],a,nm,.str s,.loc p,.loc h] (H.set h (cI (.loc va) (.loc rf) (.loc lg) m (k+1)))=some (.none,H2)) :
  XX own d (f+1) F (tl nd bg s h p w (.tup [i,r]) a nm) H=dj (av (au own) (ae (au own) (d+6)) tO) (aQ (au own) (ae (au own) (d+6)) bO) F (tl nd bg s h p (some .none) (.tup [i,r]) a nm) H2:=by
 refine(congrArg (λz=>on _ (Bw _ z)) (NE O9 (NP t.host hk ha))).trans ?_
 exact congrArg (on _) (RY (own:=own) (d:=d))
structure Nu(m:Int)(k k' f F:Nat):Prop where
 le:(k':Int)<=m
 f:k'<k+f
 F:k'<k+F
theorem Nu.step{m:Int}{k k' f F:Nat}(n:Nu m k k' f F)(h:k+1<=k'):∃ g,f=g+1/\(k:Int)<m/\Nu m (k+1) k' g F:=by
 obtain⟨a,b,c⟩:=n
 exact⟨f-1,by omega,by omega,a,by omega,by exact nl (am [_,_,_] (.d (.s ab) (.a ac ar) (.d (.a (.s ac) ar) ab .z)) rfl c)⟩
theorem Nu.pop{m:Int}{k k' f F:Nat}(n:Nu m k k' f F)(h:k+1<=k')(hm:m<100000):∃ g G,f=g+1/\F=G+1/\(k:Int)<m/\Nu m (k+1) k' 1048576 G:=by
 obtain⟨a,b,c⟩:=n
 exact⟨f-1,F-1,by omega,by omega,by omega,a,by omega,by omega⟩
structure Bd(K:List (List Nat))(j k:Nat)(L:List (Option Wy))(nm:Nm)(σ:Hs):Prop where
 l:L.length<=4*k
 n:nm.length<=k
 w:∀ w∈L,∀ z,w=some z->z.nm.length<=k
 g:σ.log.length<=j+k
 v:Kd K σ.vals
section
variable {K:List (List Nat)}{j:Nat}{L:List (Option Wy)}{nm:Nm}{w:Wy}
theorem Bd.pop(b:Bd K j k (L++[some w]) nm σ):Bd K j (k+1) L w.nm σ:=
 ⟨bj (bj (by rw[aH];exact cC ..) b.l) (wm 4 (eX k)),gT (b.w _ (ti _ (.head _)) w rfl),λw h z e=>gT (b.w w (pu _ h) z e),gT b.g,b.v⟩
theorem Bd.nil(b:Bd K j k L nm σ):Bd K j (k+1) (L++[]) nm σ:=by rw[ce];exact⟨bj b.l (wm 4 (eX k)),gT b.n,λw h z e=>gT (b.w w h z e),gT b.g,b.v⟩
theorem Bd.many(b:Bd K j k L nm σ){xs:List (Option Wy)}(hl:xs.length<=4)(hx:∀ x∈xs,∀ z,x=some z->z.nm=nm):Bd K j (k+1) (L++xs) nm σ:=
 ⟨by rw[aH];exact i6 b.l hl,gT b.n,λw h z e=>(eW.mp h).elim (λh=>gT (b.w w h z e)) (λh=>by rw[hx w h z e];exact gT b.n),gT b.g,b.v⟩
theorem Bd.one(b:Bd K j k L nm σ){x:Option Wy}(hx:∀ z,x=some z->z.nm=nm):Bd K j (k+1) (L++[x]) nm σ:=
 b.many (bj (aC 1) (by decide)) λy hy z e=>hx z ((dA.mp hy).symm.trans e)
theorem nE(σ:Hs)(key:List Nat)(v:V):(gO σ key v).log.length=σ.log.length+1:=by show(σ.log++_).length=_;rw[aH];rfl
theorem Bd.asg(b:Bd K j k L nm σ){key:List Nat}{v:V}(e:key∈K):Bd K j (k+1) (L++[]) nm (gO σ key v):=
 ⟨b.nil.l,b.nil.n,b.nil.w,by rw[nE];exact tc b.g,b.v.put e v⟩
noncomputable def Wo(K:List (List Nat))(j k:Nat)(L:List (Option Wy)):sK->Prop
 |.go _ _ nm σ ps=>Bd K j k (L++ps) nm σ
 |.no=>True
theorem Bd.Wp(hK:∀ q key,kp q=some key->key∈K){i:Im}{r:List Im}{a:Nat}{A:sK}(X:dP kp s i r a nm σ A):Bd K j k L nm σ->Wo K j (k+1) L A:=by
  induction X with
 |al=>exact λb=>b.one λz e=>by cases e;rfl
 |rp=>exact λb=>b.one λz e=>by cases e;rfl
 |Kt=>exact λb=>b.one λz e=>by cases e;rfl
 |u5 _ e2 _=>exact λb=>b.many (by rw[cT,jA];exact gT e2) λx hx z e=>by obtain⟨y,_,rfl⟩:=mf.mp hx;cases e;rfl
 |qq=>exact λ_=>trivial
 |en e=>exact λb=>b.asg (hK _ _ e)
 |Ks=>exact λ_=>trivial
 |fail=>exact λ_=>trivial
 |HJ=>exact λ_=>trivial
 |_=>exact Bd.nil
theorem Bd.go(hK:∀ q key,kp q=some key->key∈K)(b:Bd K j k L nm σ){i:Im}{r c':List Im}{a a':Nat}{gZ:Nm}{σ':Hs}{ps:List (Option Wy)}(X:dP kp s i r a nm σ (.go c' a' gZ σ' ps)):Bd K j (k+1) (L++ps) gZ σ':=Bd.Wp hK X b
theorem Bd.lm(b:Bd K j k L nm σ)(hk:(k:Int)<m)(hm:m<100000)(hj:j<=100000)(hK:K.length<1024):Lm (L.map wV) nm σ:=by
 have h1:=b.l
 have h2:=b.n
 have h3:=b.g
 exact⟨by rw[cT];unfold lim;omega,by unfold lim;omega,ix b.v.len hK,by unfold lim;omega⟩
end
inductive Ky(x:SR)(R:Res)(kp:Nat->Option (List Nat))(H0:Hp)(p h va rf lg:Nat)(m:Int)(τ:Hs)(k':Nat):Prop where
 |mk (l':Lo) (H':Hp) (e:x=Uo R l' H') (L':List V) (t:TS kp H0 p h va rf lg m L' k' τ H'):Ky x R kp H0 p h va rf lg m τ k'
noncomputable def Up(own:List FI)(d:Nat)(kp:Nat->Option (List Nat))(s:List Nat)(K:List (List Nat))(j:Nat)(H0:Hp)(p h va rf lg:Nat)(m:Int)(c:List Im)(a:Nat)(nm:Nm)(σ:Hs)(L:List (Option Wy))(k:Nat)(R:Res)(τ:Hs)(k':Nat):Prop:=
 ∀⦃H:Hp⦄⦃nd bg:V⦄⦃w:Option V⦄⦃f F:Nat⦄,TS kp H0 p h va rf lg m (L.map wV) k σ H->Nu m k k' f F->Bd K j k L nm σ->Ky (XX own d f F (tl nd bg s h p w (cV c) (.int a) (.tup (qp nm))) H) R kp H0 p h va rf lg m τ k'
theorem NQ(hs:s.length<1048576){K:List (List Nat)}{j:Nat}(hj:j<=100000)(hK:∀ q key,kp q=some key->key∈K)(NR:K.length<1024)(hm:m<100000){c:List Im}{a:Nat}{nm:Nm}{L:List (Option Wy)}{R:Res}{τ:Hs}{k':Nat}(T:Tr kp s c a nm σ L k R τ k'):Up own d kp s K j H0 p h va rf lg m c a nm σ L k R τ k':=by
  induction T with
 |met=>
   intro H nd bg w f F t n b
   obtain⟨f,rfl⟩:∃ g,f=g+1:=Nat.exists_eq_add_one.mpr (by have:=n.f;exact nl (am [_,_] (.d (.s ab) (.a ab ac) (.d ac (.n 0) .z)) rfl this))
   exact⟨_,H,(congrArg (λz=>on _ (Bw _ z)) (gc Un)).trans (congrArg (on _) (RX (own:=own) (d:=d))),_,t⟩
 |go X T ih=>
   intro H nd bg w f F t n b
   obtain⟨f,rfl,hk,n⟩:=n.step T.mono
   obtain⟨H1,e1,t1⟩:=s5 (own:=own) (d:=d) hs X t.step (b.lm hk hm hj NR)
   have t1:=t1
   rw[show Fk _ _=List.map wV _++List.map wV _ from rfl,← lK] at t1
   obtain⟨l',H',e,L',q⟩:=ih t1 n (b.go hK X)
   exact⟨l',H',(Kx t hk e1).trans e,L',q⟩
 |@pop i r a nm σ L k R τ k' w0 X T ih=>
   intro H nd bg w f F t n b
   obtain⟨f,F,rfl,rfl,hk,n⟩:=n.pop T.mono hm
   obtain⟨H1,e1,t1⟩:=s5 (own:=own) (d:=d) hs X t.step (b.lm hk hm hj NR)
   rw[show Fk .no (List.map wV (L++[some w0]))=_ from du ..] at t1
   obtain⟨l',H',e,L',q⟩:=ih (t1.push (L.map wV)) n b.pop
   exact⟨l',H',(zi t hk e1).trans ((Ku (Kw t1.fW)).trans ((congrArg (on _) (Bx t1.fW)).trans e)),L',q⟩
 |eK X=>
   intro H nd bg w f F t n b
   obtain⟨f,F,rfl,rfl,hk,n⟩:=n.pop (aC _) hm
   obtain⟨H1,e1,t1⟩:=s5 (own:=own) (d:=d) hs X t.step (b.lm hk hm hj NR)
   exact⟨_,_,(zi t hk e1).trans (gc (Um t1.fW)),_,t1⟩
 |@ed i r a nm σ L k X=>
   intro H nd bg w f F t n b
   obtain⟨f,F,rfl,rfl,hk,n⟩:=n.pop (aC _) hm
   obtain⟨H1,e1,t1⟩:=s5 (own:=own) (d:=d) hs X t.step (b.lm hk hm hj NR)
   rw[show Fk .no (List.map wV (L++[none]))=_ from du ..] at t1
   exact⟨_,_,(zi t hk e1).trans ((Ku (Kw t1.fW)).trans (congrArg (on _) (HK t1.fW))),_,t1.push _⟩
end
structure HX(kp:Nat->Option (List Nat))(h va rf lg:Nat)(m:Int)(k:Nat)(σ:Hs)(H:Hp):Prop where
 host:H[h]?=some (cI (.loc va) (.loc rf) (.loc lg) m k)
 vals:H[va]?=some (.dict σ.vals)
 log:H[lg]?=some (.list σ.log)
 ref:H[rf]?=some (.list [])
 rk:∀ r key,kp r=some key->H[r]?=some (rm key)
 n3:rf≠lg
structure HO(h va lg:Nat)(H H':Hp):Prop where
 len:H.length<=H'.length
 off:∀ i,i<H.length->i≠h->i≠va->i≠lg->H'[i]?=H[i]?
theorem HO.refl{h va lg:Nat}(H:Hp):HO h va lg H H:=⟨aC _,λ_ _ _ _ _=>rfl⟩
theorem HO.trans{h va lg:Nat}{H H1 H2:Hp}(a:HO h va lg H H1)(b:HO h va lg H1 H2):HO h va lg H H2:=
 ⟨bj a.len b.len,λi h1 h2 h3 h4=>(b.off i (dM h1 a.len) h2 h3 h4).trans (a.off i h1 h2 h3 h4)⟩
theorem HO.app{h va lg:Nat}{H:Hp}(l:Hp):HO h va lg H (H++l):=⟨by rw[aH];exact cC ..,λi h1 _ _ _=>dh h1⟩
theorem HX.app{kp:Nat->Option (List Nat)}{h va rf lg:Nat}{m:Int}{k:Nat}{σ:Hs}{H:Hp}(x:HX kp h va rf lg m k σ H)(l:Hp):HX kp h va rf lg m k σ (H++l):=
 ⟨ag x.host,ag x.vals,ag x.log,ag x.ref,λr key e=>ag (x.rk r key e),x.n3⟩
section
variable {kp:Nat->Option (List Nat)}{s:List Nat}{σ τ:Hs}{k k':Nat}
noncomputable def Wq(σ:Hs):sK->Prop
 |.go _ _ _ σ' _=>σ'.log.length<=σ.log.length+1
 |.no=>True
noncomputable def Wr(K:List (List Nat))(σ:Hs):sK->Prop
 |.go _ _ _ σ' _=>Kd K σ.vals->Kd K σ'.vals
 |.no=>True
theorem dP.gr{i:Im}{r:List Im}{a:Nat}{nm:Nm}{A:sK}(X:dP kp s i r a nm σ A):Wq σ A:=by
  induction X with
 |en=>exact bk (nE ..)
 |Ks=>trivial
 |fail=>trivial
 |HJ=>trivial
 |qq=>trivial
 |_=>exact eX _
theorem dP.Ws{K:List (List Nat)}(hK:∀ q key,kp q=some key->key∈K){i:Im}{r:List Im}{a:Nat}{nm:Nm}{A:sK}(X:dP kp s i r a nm σ A):Wr K σ A:=by
  induction X with
 |en e=>exact λh=>h.put (hK _ _ e) _
 |Ks=>trivial
 |fail=>trivial
 |HJ=>trivial
 |qq=>trivial
 |_=>exact id
theorem dP.grow{i:Im}{r c':List Im}{a a':Nat}{nm gZ:Nm}{σ':Hs}{ps:List (Option Wy)}(X:dP kp s i r a nm σ (.go c' a' gZ σ' ps)):σ'.log.length<=σ.log.length+1:=X.gr
theorem dP.kd{K:List (List Nat)}(hK:∀ q key,kp q=some key->key∈K){i:Im}{r c':List Im}{a a':Nat}{nm gZ:Nm}{σ':Hs}{ps:List (Option Wy)}(X:dP kp s i r a nm σ (.go c' a' gZ σ' ps))(h:Kd K σ.vals):Kd K σ'.vals:=X.Ws hK h
theorem Tr.grow{c:List Im}{a:Nat}{nm:Nm}{L:List (Option Wy)}{R:Res}(T:Tr kp s c a nm σ L k R τ k'):τ.log.length+k<=σ.log.length+k':=by
  induction T with
 |met=>exact aC _
 |go X T ih=>have:=X.grow;exact nt (am [_,_,_,_,_] (.d (.a ab (.s ac)) (.a ar aA) (.d ar (.s bH) (.d (.s (.a bH aA)) (.a ab ac) .z))) rfl ih this)
 |pop X T ih=>exact nt (am [_,_,_,_] (.d (.a ab (.s ac)) (.a ar aA) (.d (.s (.a ar aA)) (.a ab ac) .z)) rfl ih)
 |_=>exact nt (am [_,_] (.d (.s (.a ab (.s ac))) (.a ab ac) .z) rfl)
theorem Tr.kd{K:List (List Nat)}(hK:∀ q key,kp q=some key->key∈K){c:List Im}{a:Nat}{nm:Nm}{L:List (Option Wy)}{R:Res}(T:Tr kp s c a nm σ L k R τ k'):Kd K σ.vals->Kd K τ.vals:=by
  induction T with
 |go X T ih=>exact λh=>ih (X.kd hK h)
 |pop X T ih=>exact ih
 |_=>exact id
end
noncomputable def Rt(H:Hp)(R:Res)(v:V):Prop:=match R with
 |.met a nm=>∃ j,v=.tup [.int a,.loc j]/\H[j]?=some (.list (qp nm))
 |.eK=>v=.none
 |.ed=>v=.str [108,111,115,116]
noncomputable def Rb(H:Hp)(b:Nat)(R:Res)(v:V):Prop:=match R with
 |.met a nm=>∃ j,v=.tup [.int b,.int a,.loc j]/\H[j]?=some (.list (qp nm))
 |.eK=>v=.none
 |.ed=>v=.str [108,111,115,116]
noncomputable def R3(lo:Nat)(H:Hp)(R:Option (Nat×Nat×Nm))(v:V):Prop:=match R with
 |none=>v=.none
 |some (b,a,nm)=>∃ j,v=.tup [.int b,.int a,.loc j]/\H[j]?=some (.list (qp nm))/\lo<=j
theorem R3.mono{lo u6:Nat}{H:Hp}{R:Option (Nat×Nat×Nm)}{v:V}(h:R3 lo H R v)(le:u6<=lo):R3 u6 H R v:=by
  induction R with
 |none=>exact h
 |some z=>obtain⟨j,h1,h2,h3⟩:=h;exact⟨j,h1,h2,bj le h3⟩
inductive Ca(P:Pg)(d f:Nat)(vs:List V)(H:Hp)(kp:Nat->Option (List Nat))(h va rf lg:Nat)(m:Int)(k':Nat)(τ:Hs)(Rel:Hp->V->Prop):Prop where
 |mk (v:V) (H':Hp) (e:ae P d f vs H=some (v,H')) (x:HX kp h va rf lg m k' τ H') (o:HO h va lg H H') (r:Rel H' v):Ca P d f vs H kp h va rf lg m k' τ Rel
structure Gx(kp:Nat->Option (List Nat))(K:List (List Nat))(s:List Nat)(m:Int)(j:Nat):Prop where
 hK:∀ q key,kp q=some key->key∈K
 kl:K.length<1024
 hm:m<100000
 hj:j<=100000
 hs:s.length<1000
section
variable {kp:Nat->Option (List Nat)}{K:List (List Nat)}{s:List Nat}{own:List FI}{d:Nat}{H:Hp}{h va rf lg:Nat}{m:Int}{k k' j:Nat}{σ τ:Hs}{n:Nd}{a:Nat}{R:Res}
theorem HL(g:Gx kp K s m j)(x:HX kp h va rf lg m k σ H)(T:Tr kp s [.nd n] a [] σ [] k R τ k')(hk:(k':Int)<=m)(hl:σ.log.length<=j+k)(hv:Kd K σ.vals):Ca (au own) (d+7) 66 [nV n,.str s,.int a,.loc h] H kp h va rf lg m k' τ (λH' v=>Rt H' R v):=by
  have hm:=g.hm
  have j8:=T.mono
  let w0:Wy:=⟨[.nd n],a,[]⟩
  have t0:TS kp H H.length h va rf lg m (([]:List (Option Wy)).map wV) k σ ((H++[O.list [wV (some w0)]]).set H.length (O.list [])):=
   {len:=by rw[dB,aH];exact cC ..
    fW:=aw ai,host:=aa (aK x.host) (ag x.host),vals:=aa (aK x.vals) (ag x.vals),log:=aa (aK x.log) (ag x.log),ref:=aa (aK x.ref) (ag x.ref)
    rk:=λr key e=>aa (aK (x.rk r key e)) (ag (x.rk r key e))
    off:=λi h1 _ _ _ _=>(iR (df h1)).trans (dh h1)
    n1:=aK x.log,n2:=aE x.ref,n3:=x.n3 }
  obtain⟨l',H',e,L',t⟩:=NQ (own:=own) (d:=d) (K:=K) (j:=j) (mh g.hs (by decide)) g.hj g.hK g.kl hm T (nd:=nV n) (bg:=.int a) (w:=some (wV (some w0))) (f:=1048576) (F:=1048575) t0 ⟨hk,by omega,by omega⟩ ⟨cj _,cj _,(λw h=>nomatch h),hl,hv⟩
  replace e:=(Ku (n:=1048575) (Kw (own:=own) (d:=d) (L:=[]) (nd:=nV n) (bg:=.int a) (s:=s) (h:=h) (w:=none) (x:=none) (y:=none) (z:=none) (v:=wV (some w0)) (ai (H:=H)))).trans ((congrArg (on _) (Bx (L:=[]) ai)).trans e)
  have hx:HX kp h va rf lg m k' τ H':=⟨t.host,t.vals,t.log,t.ref,t.rk,t.n3⟩
  have ho:HO h va lg H H':=⟨t.len,λi h1 h2 h3 h4=>t.off i h1 (dt h1) h2 h3 h4⟩
  induction R with
 |eK=>exact⟨_,_,af rfl rfl (aV (aN rfl) (ak (fB e) rfl)),hx,ho,rfl⟩
 |ed=>exact⟨_,_,af rfl rfl (aV (aN rfl) (gL (fB e))),hx,ho,rfl⟩
 |met b nm=>exact⟨_,_,af rfl rfl (aV (aN rfl) (gL (fB e))),hx.app _,ho.trans (.app _),_,rfl,ai⟩
theorem lz(g:Gx kp K s m j)(x:HX kp h va rf lg m k σ H)(T:Tr kp s [.nd n] a [] σ [] k R τ k')(hk:(k':Int)<=m)(hl:σ.log.length<=j+k)(hv:Kd K σ.vals):Ca (au own) (d+8) 65 [nV n,.str s,.int a,.loc h] H kp h va rf lg m k' τ (λH' v=>Rb H' a R v):=by
  obtain⟨v,H',e,hx,ho,r⟩:=HL (own:=own) (d:=d) g x T hk hl hv
  induction R with
 |eK=>
   cases r
   exact⟨_,H',af rfl rfl (aV (aG rfl e) rfl),hx,ho,rfl⟩
 |ed=>
   cases r
   exact⟨_,H',af rfl rfl (aV (aG rfl e) rfl),hx,ho,rfl⟩
 |met b nm=>
   obtain⟨j,rfl,r⟩:=r
   exact⟨_,H',af rfl rfl (aV (aG rfl e) rfl),hx,ho,j,rfl,r⟩
inductive Mp(kp:Nat->Option (List Nat))(s:List Nat)(n:Nd):Nat->Nat->Hs->Nat->Option (Nat×Nat×Nm)->Hs->Nat->Prop where
 |z {b σ k}:Mp kp s n 0 b σ k none σ k
 |met {c b σ k a nm τ k'}:Tr kp s [.nd n] b [] σ [] k (.met a nm) τ k'->Mp kp s n (c+1) b σ k (some (b,a,nm)) τ k'
 |ed {c b σ k τ k'}:Tr kp s [.nd n] b [] σ [] k .ed τ k'->Mp kp s n (c+1) b σ k none τ k'
 |eK {c b σ k τ k1 R υ k'}:Tr kp s [.nd n] b [] σ [] k .eK τ k1->Mp kp s n c (b+1) τ k1 R υ k'->Mp kp s n (c+1) b σ k R υ k'
theorem Mp.mono{c b:Nat}{R:Option (Nat×Nat×Nm)}(T:Mp kp s n c b σ k R τ k'):k<=k':=by
  induction T with
 |z=>exact aC _
 |met T=>exact T.mono
 |ed T=>exact T.mono
 |eK T _ ih=>exact bj T.mono ih
noncomputable def bP:List MS:=[(.asg (.loc 5) (.call (.glob (.fn 65)) [(.loc 0),(.loc 1),(.loc 4),(.loc 3)])),(.ay (.cmp .eE (.loc 5) (.lit .none)) [(.ret (.ay (.cmp .eq (.loc 5) (.glob (.str [108,111,115,116]))) (.lit .none) (.loc 5)))] [])]
inductive Dz(own:List FI)(d lo:Nat)(q:SR)(H:Hp)(kp:Nat->Option (List Nat))(h va rf lg:Nat)(m:Int)(k':Nat)(τ:Hs)(R:Option (Nat×Nat×Nm)):Prop where
 |ret (v:V) (l:Lo) (H':Hp) (e:q=some (.ret v,l,H')) (x:HX kp h va rf lg m k' τ H') (o:HO h va lg H H') (r:R3 lo H' R v):Dz own d lo q H kp h va rf lg m k' τ R
 |HM (l:Lo) (H':Hp) (e:q=some (.next,l,H')) (x:HX kp h va rf lg m k' τ H') (o:HO h va lg H H') (r:R=none):Dz own d lo q H kp h va rf lg m k' τ R
section
variable {ct:CT}{bd:Lo->Hp->SR}{n:Nat}{it et:It}{l l1 l2:Lo}{H2:Hp}{v u:V}
theorem Fm(h0:0<n)(h:dz H it=some none):dF ct bd n it l H=some (.next,l,H):=by
  cases n with
 |zero=>exact absurd h0 (nZ 0)
 |succ n=>exact lu h
theorem By{q:SR}(h0:0<n)(h1:dz H it=some (some (v,et)))(h2:dX ct v l=some l1)(h3:bd l1 H=some (.next,l2,H2))(h4:dF ct bd (n-1) et l2 H2=q):dF ct bd n it l H=q:=by
  cases n with
 |zero=>exact absurd h0 (nZ 0)
 |succ n=>exact jo h1 h2 h3 h4
theorem s6(h0:0<n)(h1:dz H it=some (some (v,et)))(h2:dX ct v l=some l1)(h3:bd l1 H=some (.ret u,l2,H2)):dF ct bd n it l H=some (.ret u,l2,H2):=by
  cases n with
 |zero=>exact absurd h0 (nZ 0)
 |succ n=>exact ND h1 h2 h3
end
theorem Dz.pre{lo u6:Nat}{q q0:SR}{H1:Hp}{R:Option (Nat×Nat×Nm)}(x:Dz own d lo q H1 kp h va rf lg m k' τ R)(hl:u6<=lo)(e:q0=q)(o:HO h va lg H H1):Dz own d u6 q0 H kp h va rf lg m k' τ R:=by
  induction x with
 |ret v l H' e' x o' r=>exact .ret v l H' (e.trans e') x (o.trans o') (r.mono hl)
 |HM l H' e' x o' r=>exact .HM l H' (e.trans e') x (o.trans o') r
theorem Bz(g:Gx kp K s m j){c b:Nat}{R:Option (Nat×Nat×Nm)}(T:Mp kp s n c b σ k R τ k'):∀{f:Nat}{H:Hp}{an x y:Option V},c<f->HX kp h va rf lg m k σ H->(k':Int)<=m->σ.log.length<=j+k->Kd K σ.vals ->
   Dz own d 0 (dF (.one 4) (λl H=>aQ (au own) (ae (au own) (d+8)) bP l H) f (.cm b 1 c) [some (nV n),some (.str s),an,some (.loc h),x,y] H) H kp h va rf lg m k' τ R:=by
  induction T with
 |z=>
   intro f H an x y hf hx hk hl hv
   exact .HM _ H (Fm hf rfl) hx (.refl H) rfl
 |met T=>
   intro f H an x y hf hx hk hl hv
   obtain⟨v,H',e,Kz,ho,j,r0,r⟩:=lz (own:=own) (d:=d) g hx T hk hl hv
   rw[r0] at e
   exact .ret _ _ H' (s6 (ix (cj _) hf) rfl rfl (aV (aG rfl e) rfl)) Kz ho ⟨j,rfl,r,cj _⟩
 |ed T=>
   intro f H an x y hf hx hk hl hv
   obtain⟨v,H',e,Kz,ho,r⟩:=lz (own:=own) (d:=d) g hx T hk hl hv
   rw[show v=_ from r] at e
   exact .ret _ _ H' (s6 (ix (cj _) hf) rfl rfl (aV (aG rfl e) rfl)) Kz ho rfl
 |@eK c b σ k τ k1 R υ k' T M ih=>
   intro f H an x y hf hx hk hl hv
   have j8:=M.mono
   have hg:=T.grow
   obtain⟨v,H1,e,Kz,ho,r⟩:=lz (own:=own) (d:=d) g hx T (by omega) hl hv
   rw[show v=_ from r] at e
   exact(ih (f:=f-1) (an:=an) (x:=some (.int b)) (y:=some .none) (Nat.lt_sub_of_add_lt hf) Kz hk (by exact nt (am [_,_,_,_,_] (.d ab (.a ac ar) (.d (.a aA ar) (.a ab bH) (.d (.s (.a ac bH)) aA .z))) rfl hl hg)) (T.kd g.hK hv)).pre (aC _) (By (ix (cj _) hf) rfl rfl (aV (aG rfl e) rfl) rfl) ho
theorem BA{c:Nat}:eZ 0 (c:Int) 1=c:=sZ (by omega)
noncomputable def cnt(an:Bool)(s:List Nat):Nat:=bif an then 1 else s.length+1
theorem Fo{an:Bool}{s:List Nat}{P:Pg}{call:bX}{l:Lo}(h2:l[2]?=some (some (.bool an)))(h1:l[1]?=some (some (.str s))):av P call (.ay (.loc 2) (.lit (.int 1)) (.bin .add (.prim .len [.loc 1]) (.lit (.int 1)))) l H=some (.int (cnt an s),H):=by
 cases an
 ·exact aR (db h2) (cA (aT (b8 (db h1)) rfl) aj rfl)
 ·exact be (db h2) aj
theorem Fp(an:Bool)(g:Gx kp K s m j):cnt an s<=1000:=by
 have:=g.hs
 induction an <;> simp only[cnt,cond_true,cond_false] <;> omega
theorem sM(g:Gx kp K s m j){an:Bool}{R:Option (Nat×Nat×Nm)}(x:HX kp h va rf lg m k σ H)(T:Mp kp s n (cnt an s) 0 σ k R τ k')(hk:(k':Int)<=m)(hl:σ.log.length<=j+k)(hv:Kd K σ.vals) :
   Ca (au own) (d+9) 64 [nV n,.str s,.bool an,.loc h] H kp h va rf lg m k' τ (λH' v=>R3 0 H' R v):=by
  have hc:=Fp an g
  have q:=Bz (own:=own) (d:=d) g T (f:=1048576) (an:=some (.bool an)) (x:=none) (y:=none) (by exact nl (am [_] (.d ab (.n 1000) (.d (.n 1048576) ab .z)) rfl hc)) x hk hl hv
  have e0:∀{q:SR},dF (.one 4) (λl H=>aQ (au own) (ae (au own) (d+8)) bP l H) 1048576 (.cm (0:Nat) 1 (cnt an s)) [some (nV n),some (.str s),some (.bool an),some (.loc h),none,none] H=q->dD (au own) (ae (au own) (d+8)) (.for (.one 4) (.prim .range [.ay (.loc 2) (.lit (.int 1)) (.bin .add (.prim .len [.loc 1]) (.lit (.int 1)))]) bP) [some (nV n),some (.str s),some (.bool an),some (.loc h),none,none] H=q:=λ{q} hq=>
   fA (aT (b8 (Fo rfl rfl)) (re (by omega))) (Dw (by decide) (by omega) rfl) (by rw[BA];exact hq)
  induction q with
 |ret v l H' e x o r=>exact⟨v,H',af rfl rfl (gL (e0 e)),x,o,r⟩
 |HM l H' e x o r=>subst r;exact⟨.none,H',af rfl rfl (ak (e0 e) rfl),x,o,rfl⟩
end
noncomputable def BB(x:Sg):V:=match x with
 |.ch t=>.str t
 |.len n=>.int n
 |.pos n=>.int n
 |.fL n=>.int n
 |.tab n=>.int n
 |.fM n=>.int n
 |.any t=>.str t
 |.fj t=>.str t
 |.span t=>.str t
 |.brk t=>.str t
 |.rem=>.none
theorem ef{H:Hp}{c k:Nat}{fs:List (Nat×V)}{v:V}:kn (H++[.inst c fs]) (.loc H.length) k v=some (H++[.inst c (putN k v fs)]):=by
 rw[dE ai,zT _ _ (aC _),iu];rfl
noncomputable abbrev bL(o pc a:Nat)(nm mk ca:V):O:=.inst 2 [(0,.loc o),(1,.int pc),(2,.int a),(3,nm),(4,mk),(5,ca)]
noncomputable abbrev Pa:O:=.inst 2 [(0,.none),(1,.int 0),(2,.int 0),(3,.none),(4,.none),(5,.none)]
noncomputable abbrev dQ(s:List Nat)(h q:Nat):O:=.inst 3 [(6,.str s),(7,.loc h),(8,.loc q)]
section
variable {own:List FI}{d:Nat}{H H2:Hp}{h mo q o wl pc a:Nat}{va rf lg nm mk ca r:V}{m k:Int}{s:List Nat}{x:Sg}{e:Nat}
theorem BC(x:Sg):IP (BB x) .tuple=some false:=by induction x <;> rfl
theorem u7(hs:s.length<1048576):∀ x:Sg,ae (au own) (d+4) 44 [.tup [.str (zb x),BB x],.str s,.int a] H=some (iO (dT s a x),H)
 |.rem=>af rfl rfl (az (be rfl (aG rfl Kl)))
 |.ch t=>d6 hs (.ch t)
 |.len t=>d6 hs (.len t)
 |.pos t=>d6 hs (.pos t)
 |.fL t=>d6 hs (.fL t)
 |.tab t=>d6 hs (.tab t)
 |.fM t=>d6 hs (.fM t)
 |.any t=>d6 hs (.any t)
 |.fj t=>d6 hs (.fj t)
 |.span t=>d6 hs (.span t)
 |.brk t=>d6 hs (.brk t)
theorem nF{v0 v1 v2 v3 v4 v5:V}:ae (au own) (d+1) 46 [.loc H.length,v0,v1,v2,v3,v4,v5] (H++[.inst 2 []])=some (.none,H++[.inst 2 [(0,v0),(1,v1),(2,v2),(3,v3),(4,v4),(5,v5)]]):=
 em rfl rfl (ak (eD rfl rfl ef) (ak (eD rfl rfl ef) (ak (eD rfl rfl ef) (ak (eD rfl rfl ef) (ak (eD rfl rfl ef) (ak (eD rfl rfl ef) aL))))))
theorem u8{g:Nat}(hw:H[wl]?=some (bL o pc a nm mk ca)):ae (au own) (d+2) 47 [.loc wl,.int g] H=some (.loc H.length,H++[bL o g a nm mk ca]):=
 af rfl rfl (az (j5 (aX (aJ rfl (aD hw rfl)) (aX rfl (aX (aJ rfl (aD hw rfl)) (aX (aJ rfl (aD hw rfl)) (cF (aJ rfl (aD hw rfl)) (aJ rfl (aD hw rfl))))))) rfl nF))
theorem Fq{L:List V}{v:V}(hm:H[mo]?=some (dQ s h q))(hq:H[q]?=some (.list (L++[v]))):ae (au own) (d+1) 50 [.loc mo] H=some (v,H.set q (.list L)):=
 af rfl rfl (az (be (aq (aT (b8 (aJ rfl (aD hm rfl))) (dq hq)) aj (gM (by rw[aH];exact n8.mpr (jz _)))) (cn (aJ rfl (aD hm rfl)) (aZ hq rfl) aW (ll hq))))
theorem NS(hm:H[mo]?=some (dQ s h q))(hq:H[q]?=some (.list [])):ae (au own) (d+1) 50 [.loc mo] H=some (.none,H):=
 af rfl rfl (az (aR (aq (aT (b8 (aJ rfl (aD hm rfl))) (dq hq)) aj rfl) aj))
theorem NT(hs:s.length<1048576)(hm:H[mo]?=some (dQ s h q))(hw:H[wl]?=some (bL o pc a nm mk ca))(he:dT s a x=some e):ae (au own) (d+5) 52 [.loc mo,.tup [.str [111,110,101],.str (zb x),BB x],.loc wl] H=some (.bool true,H.set wl (bL o (pc+1) e nm mk ca)):=
 ke (b:=some (V.bool true,(H.set wl (bL o pc e nm mk ca)).set wl (bL o (pc+1) e nm mk ca))) (af rfl rfl (ak rfl (bx (E7 rfl (BC x)) (aV (aG (aX rfl (cF (aJ rfl (aD hm rfl)) (aJ rfl (aD hw rfl)))) ((u7 hs x).trans (congrArg (λz=>some (iO z,H)) he))) (ak rfl (ak (eD rfl rfl (dE hw)) (ak (kI rfl (aD (aw hw) rfl) aj rfl (dE (aw hw))) rfl))))))) (by rw[rS])
theorem NU(hs:s.length<1048576)(hm:H[mo]?=some (dQ s h q))(hw:H[wl]?=some (bL o pc a nm mk ca))(he:dT s a x=none):ae (au own) (d+5) 52 [.loc mo,.tup [.str [111,110,101],.str (zb x),BB x],.loc wl] H=some (.bool false,H):=
 af rfl rfl (ak rfl (bx (E7 rfl (BC x)) (aV (aG (aX rfl (cF (aJ rfl (aD hm rfl)) (aJ rfl (aD hw rfl)))) ((u7 hs x).trans (congrArg (λz=>some (iO z,H)) he))) rfl)))
theorem done_one{b:Bool}(hm:H[mo]?=some (dQ s h q))(e:ae (au own) (d+5) 52 [.loc mo,.tup [.str [111,110,101],.str (zb x),BB x],.loc wl] H=some (.bool b,H2)):ae (au own) (d+6) 51 [.loc mo,.tup [.str [111,110,101],.str (zb x),BB x],.loc wl] H=some (.bool b,H2):=
 af rfl rfl (ak rfl (aU rfl (az (aY rfl hm rfl rfl rfl e))))
theorem BD{L:List V}{g:Nat}(hm:H[mo]?=some (dQ s h q))(hw:H[wl]?=some (bL o pc a nm mk ca))(hq:H[q]?=some (.list L))(hl:L.length<lim)(bn:wl≠q):ae (au own) (d+6) 51 [.loc mo,.tup [.str [115,112,108,105,116],.int g],.loc wl] H=some (.bool true,((H++[bL o g a nm mk ca]).set q (.list (L++[.loc H.length]))).set wl (bL o (pc+1) a nm mk ca)):=
 af rfl rfl (dG rfl rfl (ak (bQ rfl (fp (cn (aJ rfl (aD hm rfl)) (aZ hq rfl) (b8 (aY rfl hw rfl rfl rfl (u8 hw))) (bY (ag hq) hl)))) (ak (kI rfl (aD (aa bn.symm (ag hw)) rfl) aj rfl (dE (aa bn.symm (ag hw)))) rfl)))
theorem DA{g:Nat}(hw:H[wl]?=some (bL o pc a nm mk ca)):ae (au own) (d+6) 51 [.loc mo,.tup [.str [106,117,109,112],.int g],.loc wl] H=some (.bool true,H.set wl (bL o g a nm mk ca)):=
 af rfl rfl (dG rfl rfl (ql rfl (aU rfl (ak (eD rfl rfl (dE (by solve_by_elim [ai,aw,aa,ag,aE,aK,cR]))) rfl))))
theorem DB(hw:H[wl]?=some (bL o pc a nm mk ca)):ae (au own) (d+6) 51 [.loc mo,.tup [.str [109,97,114,107]],.loc wl] H=some (.bool true,H.set wl (bL o (pc+1) a nm (.tup [mk,.int a]) ca)):=
 ke (b:=some (V.bool true,(H.set wl (bL o pc a nm (.tup [mk,.int a]) ca)).set wl (bL o (pc+1) a nm (.tup [mk,.int a]) ca))) (af rfl rfl (dG rfl rfl (ak (cu rfl (ak (cu rfl (ak (bQ rfl (ak (eD (dm (cF (aJ rfl (by exact aD (by solve_by_elim [ai,aw,aa,ag,aE,aK,cR]) rfl)) (aJ rfl (by exact aD (by solve_by_elim [ai,aw,aa,ag,aE,aK,cR]) rfl)))) rfl (dE (by solve_by_elim [ai,aw,aa,ag,aE,aK,cR]))) aL)) aL)) aL)) (ak (kI rfl (by exact aD (by solve_by_elim [ai,aw,aa,ag,aE,aK,cR]) rfl) aj (by rfl) (dE (by solve_by_elim [ai,aw,aa,ag,aE,aK,cR]))) rfl)))) (by rw[rS])
theorem DC{b:Nat}(hm:H[mo]?=some (dQ s h q))(hw:H[wl]?=some (bL o pc a nm (.tup [mk,.int b]) ca))(bn:mo≠wl)(e:ae (au own) (d+4) 62 [.loc h,r,.str ((s.take a).drop b)] (H.set wl (bL o pc a nm mk ca))=some (.bool true,H2))(hh:∃ fs,H[h]?=some (.inst 4 fs))(hn:h≠wl):ae (au own) (d+5) 53 [.loc mo,.tup [.str [115,101,116],r],.loc wl] H=some (.bool true,H2):=by
 obtain⟨fs,hh⟩:=hh
 exact af rfl rfl (ak (bl (aJ rfl (by exact aD (by solve_by_elim [ai,aw,aa,ag,aE,aK,cR]) rfl)) rfl) (ak (eD rfl rfl (dE (by solve_by_elim [ai,aw,aa,ag,aE,aK,cR]))) (aV (dp (aJ rfl (by exact aD (by solve_by_elim [ai,aw,aa,ag,aE,aK,cR]) rfl)) rfl (aJ rfl (by exact aD (by solve_by_elim [ai,aw,aa,ag,aE,aK,cR]) rfl)) aj (by rfl)) (ak rfl (aU rfl (az (aY (aJ rfl (aD (aa bn.symm hm) rfl)) (aa hn.symm hh) rfl rfl rfl e)))))))
theorem sx{b:Nat}(hm:H[mo]?=some (dQ s h q))(hw:H[wl]?=some (bL o pc a nm (.tup [mk,.int b]) ca))(bn:mo≠wl){g:Bool}(hg:decide (b<a)=g):ae (au own) (d+5) 53 [.loc mo,.tup [.str [103,97,105,110]],.loc wl] H=some (.bool g,H.set wl (bL o pc a nm mk ca)):=
 af rfl rfl (ak (bl (aJ rfl (by exact aD (by solve_by_elim [ai,aw,aa,ag,aE,aK,cR]) rfl)) rfl) (ak (eD rfl rfl (dE (by solve_by_elim [ai,aw,aa,ag,aE,aK,cR]))) (aV (dp (aJ rfl (by exact aD (by solve_by_elim [ai,aw,aa,ag,aE,aK,cR]) rfl)) rfl (aJ rfl (by exact aD (by solve_by_elim [ai,aw,aa,ag,aE,aK,cR]) rfl)) aj (by rfl)) (aU rfl (az (aq (aJ rfl (by exact aD (by solve_by_elim [ai,aw,aa,ag,aE,aK,cR]) rfl)) rfl (o0 hg)))))))
theorem sy{w:List Nat}{tl:List V}{nm2 mk2 ca2:V}{pc2 a2 o2:Nat}(v9:([[110,97,109,101],[115,101,116],[103,97,105,110]]:List (List Nat)).any (·==w)=true)(mR:(w==[111,110,101])=false)(KD:(w==[115,112,108,105,116])=false)(RZ:(w==[106,117,109,112])=false)(R0:(w==[109,97,114,107])=false)(hm:H[mo]?=some (dQ s h q))(e:ae (au own) (d+5) 53 [.loc mo,.tup (.str w::tl),.loc wl] H=some (.bool true,H2))(NV:H2[wl]?=some (bL o2 pc2 a2 nm2 mk2 ca2)):ae (au own) (d+6) 51 [.loc mo,.tup (.str w::tl),.loc wl] H=some (.bool true,H2.set wl (bL o2 (pc2+1) a2 nm2 mk2 ca2)):=
 af rfl rfl (ak rfl (bx (aq rfl bz (bu mR)) (ak (cu (aq rfl bz (bu KD)) (ak (cu (aq rfl bz (bu RZ)) (ak (cu (aq rfl bz (bu R0)) (ak (bQ (aq rfl rfl (congrArg some v9)) (bx (q9 (aY rfl hm rfl rfl rfl e)) aL)) aL)) aL)) aL)) (ak (kI rfl (aD NV rfl) aj rfl (dE NV)) rfl))))
theorem zj(hm:H[mo]?=some (dQ s h q))(e:ae (au own) (d+5) 53 [.loc mo,.tup [.str [103,97,105,110]],.loc wl] H=some (.bool false,H2)):ae (au own) (d+6) 51 [.loc mo,.tup [.str [103,97,105,110]],.loc wl] H=some (.bool false,H2):=
 af rfl rfl (dG rfl rfl (ql rfl (ql rfl (ql rfl (aU rfl (aU (q9 (aY rfl hm rfl rfl rfl e)) rfl))))))
theorem iG{w:List Nat}{tl:List V}{b:Bool}(v9:([[110,97,109,101],[115,101,116],[103,97,105,110]]:List (List Nat)).any (·==w)=false)(mR:(w==[111,110,101])=false)(KD:(w==[115,112,108,105,116])=false)(RZ:(w==[106,117,109,112])=false)(R0:(w==[109,97,114,107])=false)(NV:(w==[112,108,97,99,101])=false)(hm:H[mo]?=some (dQ s h q))(e:ae (au own) (d+5) 54 [.loc mo,.tup (.str w::tl),.loc wl] H=some (.bool b,H2)):ae (au own) (d+6) 51 [.loc mo,.tup (.str w::tl),.loc wl] H=some (.bool b,H2):=
 af rfl rfl (ak rfl (bx (aq rfl bz (bu mR)) (ql (aq rfl bz (bu KD)) (ql (aq rfl bz (bu RZ)) (ql (aq rfl bz (bu R0)) (ql (aq rfl rfl (congrArg some v9)) (ql (aq rfl bz (bu NV)) (az (aY rfl hm rfl rfl rfl e)))))))))
theorem HP:ae (au own) (d+5) 54 [.loc mo,.tup [.str [102,97,105,108]],.loc wl] H=some (.bool false,H):=
 af rfl rfl rfl
theorem HQ{ca2:V}{o2 pc2:Nat}(hw:H[wl]?=some (bL o pc a nm mk (.tup [ca2,.tup [.loc o2,.int pc2]]))):ae (au own) (d+5) 54 [.loc mo,.tup [.str [100,111,110,101]],.loc wl] H=some (.bool true,H.set wl (bL o2 pc2 a nm mk ca2)):=
 ke (b:=some (V.bool true,((H.set wl (bL o pc a nm mk ca2)).set wl (bL o2 pc a nm mk ca2)).set wl (bL o2 pc2 a nm mk ca2))) (af rfl rfl (ak rfl (cM rfl rfl rfl (aU rfl (ak (bl (aJ rfl (by exact aD (by solve_by_elim [ai,aw,aa,ag,aE,aK,cR]) rfl)) (sX (by rfl) (qk (qj rfl (dE (by solve_by_elim [ai,aw,aa,ag,aE,aK,cR]))) (qk (sX (by rfl) (qk (qj rfl (dE (by solve_by_elim [ai,aw,aa,ag,aE,aK,cR]))) (qk (qj rfl (dE (by solve_by_elim [ai,aw,aa,ag,aE,aK,cR]))) E8))) E8)))) rfl))))) (by rw[rS,rS])
theorem rq:∀(n a:Nat),rZ (a:Int) 1 n=(List.range' a n).map λ(x:Nat)=>(x:Int)
 |0,a=>rfl
 |n+1,a=>by
  rw[Eg]
  show(a:Int)::rZ ((a:Int)+1) 1 n=(a:Int)::(List.range' (a+1) n).map _
  rw[show((a:Int)+1)=((a+1:Nat):Int) from rfl,rq n (a+1)]
noncomputable def xy(s:List Nat)(a:Nat):List V:=(List.range' a (s.length+1-a)).map λ(x:Nat)=>V.int x
theorem zl(hs:s.length<1000)(ha:a<=s.length):ae (au own) (d+1) 40 [.str s,.int a] H=some (.loc H.length,H++[.list (xy s a)]):=by
 have h1:eZ (a:Int) ((s.length+1:Nat):Int) 1=s.length+1-a:=sZ (by omega)
 have h2:qJ (.cm a (s.length+1:Nat) 1) H=some (xy s a):=by
  show gd (eZ (a:Int) ((s.length+1:Nat):Int) 1<=1024/\_) _=_
  rw[h1,dZ ⟨by omega,by omega,by omega,rfl⟩,rq,te];rfl
 exact af rfl rfl (az (aT (b8 (aT rfl (rg (b:=((s.length+1:Nat):Int)) ⟨by omega,by omega⟩))) ((congrArg (λz=>z.map λl=>(V.loc H.length,H++[O.list l])) h2))))
theorem HS{v:V}{H2:Hp}(e:ae (au own) (d+1) 40 [.str s,.int a] H=some (v,H2)):ae (au own) (d+2) 45 [.str [97,114,98],.str s,.int a,.none] H=some (v,H2):=
 af rfl rfl (aU rfl (az (aG rfl e)))
noncomputable def bW:List MS:=[(.asg (.loc 4) (.bp (.loc 1) 107 [(.attr (.loc 1) 1)])),(.asg (.attr (.loc 4) 2) (.loc 3)),(.expr (.aS (.attr (.loc 0) 8) .append [(.loc 4)]))]
theorem HT{L:List V}{e:Nat}{y:Option V}{en:V}(hm:H[mo]?=some (dQ s h q))(hw:H[wl]?=some (bL o pc a nm mk ca))(hq:H[q]?=some (.list L))(hl:L.length<lim):aQ (au own) (ae (au own) (d+3)) bW [some (.loc mo),some (.loc wl),some en,some (.int e),y] H=some (.next,[some (.loc mo),some (.loc wl),some en,some (.int e),some (.loc H.length)],(H++[bL o pc e nm mk ca]).set q (.list (L++[.loc H.length]))):=
 ak (bl (aY rfl hw rfl rfl (b8 (aJ rfl (aD hw rfl))) (u8 hw)) gb) (ak (eD rfl rfl ef) (fp (cn (aJ rfl (aD (ag hm) rfl)) (aZ (ag hq) rfl) rfl (bY (ag hq) hl))))
theorem rs{v:V}{b:Bool}{H3:Hp}{kd:List Nat}(hm:H[mo]?=some (dQ s h q))(hw:H[wl]?=some (bL o pc a nm mk ca))(e:ae (au own) (d+4) 45 [.str kd,.str s,.int a,.none] H=some (v,H2))(KE:H2[mo]?=some (dQ s h q))(e2:ae (au own) (d+4) 55 [.loc mo,.loc wl,v] H2=some (.bool b,H3)):ae (au own) (d+5) 54 [.loc mo,.tup [.str [119,97,121,115],.str kd],.loc wl] H=some (.bool b,H3):=
 af rfl rfl (dG rfl rfl (aU rfl (az (aY rfl hm rfl rfl (cF rfl (aG (aX rfl (aX (aJ rfl (aD hm rfl)) (aX (aJ rfl (aD hw rfl)) rfl))) e)) e2))))
end
set_option genCtorIdx false in
inductive Od where
 |one (x:Sg)|lT|split (g:Nat)|dH (g:Nat)|mark|set (r:Nat)|jr|fail|done|ot
noncomputable def zm:Od->List Nat
 |.one _=>[111,110,101]
 |.lT=>[119,97,121,115]
 |.ot=>[119,97,121,115]
 |.split _=>[115,112,108,105,116]
 |.dH _=>[106,117,109,112]
 |.mark=>[109,97,114,107]
 |.set _=>[115,101,116]
 |.jr=>[103,97,105,110]
 |.fail=>[102,97,105,108]
 |.done=>[100,111,110,101]
noncomputable def Wt:Od->List V
 |.one x=>[.str (zb x),BB x]
 |.lT=>[.str [97,114,98]]
 |.ot=>[.str [98,97,108]]
 |.split g=>[.int g]
 |.dH g=>[.int g]
 |.set r=>[.loc r]
 |_=>[]
noncomputable def oV(od:Od):V:=.tup (.str (zm od)::Wt od)
structure CW where
 O:List Od
 pc:Nat
 a:Nat
 nm:Nm
 mS:List Nat
 cs:List (List Od×Nat)
noncomputable def kK:Nm->V
 |[]=>.none
 |x::r=>.tup [kK r,.tup [.loc x.1,.str x.2]]
noncomputable def mT:List Nat->V
 |[]=>.none
 |b::r=>.tup [mT r,.int b]
set_option genCtorIdx false in
inductive xz where
 |go (w:CW) (σ:Hs) (ps:List (Option CW))|no
inductive js where
 |met (w:CW)|eK|ed
section
variable (kp:Nat->Option (List Nat))(s:List Nat)
inductive hV:Od->CW->Hs->xz->Prop where
 |Pb {x w σ e}:dT s w.a x=some e->hV (.one x) w σ (.go { w with pc:=w.pc+1,a:=e } σ [])
 |KI {x w σ}:dT s w.a x=none->hV (.one x) w σ .no
 |lT {w σ}:w.a<=s.length->hV .lT w σ (.go { w with pc:=w.pc+1 } σ ((List.range' (w.a+1) (s.length-w.a)).reverse.map λe=>some { w with pc:=w.pc+1,a:=e }))
 |u5 {w σ e es}:eB s w.a=e::es->es.length<=3->es.length<=s.length->hV .ot w σ (.go { w with pc:=w.pc+1,a:=e } σ (es.reverse.map λx=>some { w with pc:=w.pc+1,a:=x }))
 |qq {w σ}:eB s w.a=[]->hV .ot w σ .no
 |split {g w σ}:hV (.split g) w σ (.go { w with pc:=w.pc+1 } σ [some { w with pc:=g }])
 |dH {g w σ}:hV (.dH g) w σ (.go { w with pc:=g } σ [])
 |mark {w σ}:hV .mark w σ (.go { w with pc:=w.pc+1,mS:=w.a::w.mS } σ [])
 |set {r key O pc a nm b mk cs σ}:kp r=some key->hV (.set r) ⟨O,pc,a,nm,b::mk,cs⟩ σ (.go ⟨O,pc+1,a,nm,mk,cs⟩ (gO σ key (.str ((s.take a).drop b))) [])
 |KJ {O pc a nm b mk cs σ}:b<a->hV .jr ⟨O,pc,a,nm,b::mk,cs⟩ σ (.go ⟨O,pc+1,a,nm,mk,cs⟩ σ [])
 |zn {O pc a nm b mk cs σ}:¬ b<a->hV .jr ⟨O,pc,a,nm,b::mk,cs⟩ σ .no
 |done {O pc a nm mk O2 pc2 cs σ}:hV .done ⟨O,pc,a,nm,mk,(O2,pc2)::cs⟩ σ (.go ⟨O2,pc2,a,nm,mk,cs⟩ σ [])
 |fail {w σ}:hV .fail w σ .no
inductive Rn:CW->List (Option CW)->Hs->Nat->js->Hs->Nat->Prop where
 |met {w L σ k}:w.O[w.pc]?=some .done->w.cs=[]->Rn w L σ k (.met w) σ (k+1)
 |go {w L σ k R τ k' od w' σ' ps}:w.O[w.pc]?=some od->hV kp s od w σ (.go w' σ' ps)->Rn w' (L++ps) σ' (k+1) R τ k'->Rn w L σ k R τ k'
 |pop {w L σ k R τ k' od w2}:w.O[w.pc]?=some od->hV kp s od w σ .no->Rn w2 L σ (k+1) R τ k'->Rn w (L++[some w2]) σ k R τ k'
 |eK {w σ k od}:w.O[w.pc]?=some od->hV kp s od w σ .no->Rn w [] σ k .eK σ (k+1)
 |ed {w L σ k od}:w.O[w.pc]?=some od->hV kp s od w σ .no->Rn w (L++[none]) σ k .ed σ (k+1)
end
theorem Rn.mono{kp:Nat->Option (List Nat)}{s:List Nat}{w:CW}{L:List (Option CW)}{σ τ:Hs}{k k':Nat}{R:js}(T:Rn kp s w L σ k R τ k'):k+1<=k':=by
  induction T with
 |go _ _ _ ih=>exact lL ih
 |pop _ _ _ ih=>exact lL ih
 |_=>exact aC _
noncomputable def LK(q lg:Nat)(H H':Hp):Prop:=∀ i l,H[i]?=some (.list l)->i≠q->i≠lg->H'[i]?=some (.list l)
theorem LK.trans{q lg:Nat}{H H1 H2:Hp}(a:LK q lg H H1)(b:LK q lg H1 H2):LK q lg H H2:=λi l e h1 h2=>b i l (a i l e h1 h2) h1 h2
theorem LK.set{q lg n:Nat}{H:Hp}{x y:O}(h:H[n]?=some x)(hx:n=q\/n=lg\/∀ l,x≠.list l):LK q lg H (H.set n y):=λi l e h1 h2=>
 aa (λe'=>by
  subst e'
  rcases hx with hx|hx|hx
  ·exact h1 hx
  ·exact h2 hx
  ·exact hx l (bU (h.symm.trans e))) e
theorem LK.app{q lg:Nat}{H:Hp}(l:Hp):LK q lg H (H++l):=λi l e _ _=>ag e
inductive lU(H:Hp)(q lg:Nat):List (List Od×Nat)->V->Prop where
 |nil:lU H q lg [] .none
 |cons {o O pc r v}:H[o]?=some (.list (List.map oV O))->o≠q->o≠lg->lU H q lg r v->lU H q lg ((O,pc)::r) (.tup [v,.tup [.loc o,.int pc]])
theorem lU.keep{H H':Hp}{q lg:Nat}(l:LK q lg H H'){cs:List (List Od×Nat)}{v:V}(c:lU H q lg cs v):lU H' q lg cs v:=by
  induction c with
 |nil=>exact .nil
 |cons h n1 n2 _ ih=>exact .cons (l _ _ h n1 n2) n1 n2 ih
inductive fX(H:Hp)(q lg wl:Nat)(w:CW):Prop where
 |mk (o:Nat) (ca:V) (hw:H[wl]?=some (bL o w.pc w.a (kK w.nm) (mT w.mS) ca)) (ho:H[o]?=some (.list (w.O.map oV))) (n1:o≠q) (n2:o≠lg) (hc:lU H q lg w.cs ca):fX H q lg wl w
theorem fX.keep{H H':Hp}{q lg wl:Nat}{w:CW}(l:LK q lg H H')(e:∀ x,H[wl]?=some x->H'[wl]?=some x)(c:fX H q lg wl w):fX H' q lg wl w:=by
 obtain⟨o,ca,hw,ho,n1,n2,hc⟩:=c
 exact⟨o,ca,e _ hw,l _ _ ho n1 n2,n1,n2,hc.keep l⟩
noncomputable def u9(H:Hp)(q lg i:Nat)(x:Option CW):Prop:=match x with
 |some w=>fX H q lg i w
 |none=>H[i]?=some Pa
theorem u9.inst{H:Hp}{q lg i:Nat}{x:Option CW}(c:u9 H q lg i x):∃ fs,H[i]?=some (.inst 2 fs):=by
  induction x with
 |none=>exact⟨_,c⟩
 |some w=>obtain⟨o,ca,hw,_⟩:=c;exact⟨_,hw⟩
theorem u9.keep{H H':Hp}{q lg i:Nat}{x:Option CW}(l:LK q lg H H')(e:∀ x,H[i]?=some x->H'[i]?=some x)(c:u9 H q lg i x):u9 H' q lg i x:=by
  induction x with
 |none=>exact e _ c
 |some w=>exact fX.keep l e c
structure CS(kp:Nat->Option (List Nat))(H0:Hp)(mo q h va rf lg:Nat)(m:Int)(s:List Nat)(wl:Nat)(hs:List (Nat×Option CW))(k:Nat)(σ:Hs)(H:Hp):Prop where
 len:H0.length<=H.length
 cK:H[mo]?=some (dQ s h q)
 dr:H[q]?=some (.list (hs.map λx=>.loc x.1))
 host:H[h]?=some (cI (.loc va) (.loc rf) (.loc lg) m k)
 vals:H[va]?=some (.dict σ.vals)
 log:H[lg]?=some (.list σ.log)
 ref:H[rf]?=some (.list [])
 rk:∀ r key,kp r=some key->H[r]?=some (rm key)
 ws:∀ x∈hs,u9 H q lg x.1 x.2
 way:∃ fs,H[wl]?=some (.inst 2 fs)
 nd:∀ x∈hs,x.1≠wl
 HU:hs.Pairwise λx y=>x.1≠y.1
 off:∀ i,i<H0.length->i≠h->i≠va->i≠lg->H[i]?=H0[i]?
 zo:H0.length<=wl
 xA:∀ x∈hs,H0.length<=x.1
 KL:H0.length<=q
 n3:rf≠lg
 n4:q≠lg
 n5:q≠rf
section
variable {kp:Nat->Option (List Nat)}{own:List FI}{d:Nat}{H H0:Hp}{mo q h va rf lg wl:Nat}{m:Int}{s:List Nat}{hs:List (Nat×Option CW)}{k:Nat}{σ:Hs}{w:CW}
theorem CS.m1(t:CS kp H0 mo q h va rf lg m s wl hs k σ H):mo≠h:=ba t.cK t.host (λe=>by cases e)
theorem CS.m2(t:CS kp H0 mo q h va rf lg m s wl hs k σ H):mo≠q:=ba t.cK t.dr (λe=>by cases e)
theorem CS.m3(t:CS kp H0 mo q h va rf lg m s wl hs k σ H):mo≠va:=ba t.cK t.vals (λe=>by cases e)
theorem CS.m4(t:CS kp H0 mo q h va rf lg m s wl hs k σ H):mo≠lg:=ba t.cK t.log (λe=>by cases e)
theorem CS.m5(t:CS kp H0 mo q h va rf lg m s wl hs k σ H):q≠h:=ba t.dr t.host (λe=>by cases e)
theorem CS.m6(t:CS kp H0 mo q h va rf lg m s wl hs k σ H):q≠va:=ba t.dr t.vals (λe=>by cases e)
theorem CS.m7(t:CS kp H0 mo q h va rf lg m s wl hs k σ H):h≠va:=ba t.host t.vals (λe=>by cases e)
theorem CS.m8(t:CS kp H0 mo q h va rf lg m s wl hs k σ H):h≠lg:=ba t.host t.log (λe=>by cases e)
theorem CS.m9(t:CS kp H0 mo q h va rf lg m s wl hs k σ H):va≠lg:=ba t.vals t.log (λe=>by cases e)
theorem CS.ma(t:CS kp H0 mo q h va rf lg m s wl hs k σ H):rf≠h:=ba t.ref t.host (λe=>by cases e)
theorem CS.mb(t:CS kp H0 mo q h va rf lg m s wl hs k σ H):rf≠va:=ba t.ref t.vals (λe=>by cases e)
theorem CS.w1(t:CS kp H0 mo q h va rf lg m s wl hs k σ H):wl≠mo:=by obtain⟨fs,e⟩:=t.way;exact ba e t.cK (λe=>by cases e)
theorem CS.w2(t:CS kp H0 mo q h va rf lg m s wl hs k σ H):wl≠q:=by obtain⟨fs,e⟩:=t.way;exact ba e t.dr (λe=>by cases e)
theorem CS.w3(t:CS kp H0 mo q h va rf lg m s wl hs k σ H):wl≠h:=by obtain⟨fs,e⟩:=t.way;exact ba e t.host (λe=>by cases e)
theorem CS.w4(t:CS kp H0 mo q h va rf lg m s wl hs k σ H):wl≠va:=by obtain⟨fs,e⟩:=t.way;exact ba e t.vals (λe=>by cases e)
theorem CS.w5(t:CS kp H0 mo q h va rf lg m s wl hs k σ H):wl≠lg:=by obtain⟨fs,e⟩:=t.way;exact ba e t.log (λe=>by cases e)
theorem CS.w6(t:CS kp H0 mo q h va rf lg m s wl hs k σ H):wl≠rf:=by obtain⟨fs,e⟩:=t.way;exact ba e t.ref (λe=>by cases e)
theorem CS.tick(t:CS kp H0 mo q h va rf lg m s wl hs k σ H):CS kp H0 mo q h va rf lg m s wl hs (k+1) σ (H.set h (cI (.loc va) (.loc rf) (.loc lg) m (k+1))):=
 have l:LK q lg H (H.set h (cI (.loc va) (.loc rf) (.loc lg) m (k+1))):=.set t.host (.inr (.inr λl e=>by cases e))
 {t with
  len:=by rw[dB];exact t.len
  cK:=aa t.m1.symm t.cK,dr:=aa t.m5.symm t.dr,host:=aw t.host,vals:=aa t.m7 t.vals,log:=aa t.m8 t.log,ref:=aa t.ma.symm t.ref
  rk:=λr key e=>aa (ba t.host (t.rk r key e) (λe=>by cases e)) (t.rk r key e)
  ws:=λx hx=>(t.ws x hx).keep l λy e=>by obtain⟨fs,e2⟩:=(t.ws x hx).inst;exact aa (ba t.host e2 (λe=>by cases e)) e
  way:=by obtain⟨fs,e⟩:=t.way;exact⟨fs,aa t.w3.symm e⟩
  off:=λi h1 h2 h3 h4=>aa h2.symm (t.off i h1 h2 h3 h4) }
theorem CS.vd(t:CS kp H0 mo q h va rf lg m s wl hs k σ H){w:CW}(hw:fX H q lg wl w):fX (H.set h (cI (.loc va) (.loc rf) (.loc lg) m (k+1))) q lg wl w:=
 hw.keep (.set t.host (.inr (.inr λl e=>by cases e))) λx e=>aa t.w3.symm e
theorem CS.upd(t:CS kp H0 mo q h va rf lg m s wl hs k σ H)(fs:List (Nat×V)):CS kp H0 mo q h va rf lg m s wl hs k σ (H.set wl (.inst 2 fs)):=by
 obtain⟨gs,hw⟩:=t.way
 have l:LK q lg H (H.set wl (.inst 2 fs)):=.set hw (.inr (.inr λl e=>by cases e))
 exact { t with
  len:=by rw[dB];exact t.len
  cK:=aa t.w1 t.cK,dr:=aa t.w2 t.dr,host:=aa t.w3 t.host,vals:=aa t.w4 t.vals,log:=aa t.w5 t.log,ref:=aa t.w6 t.ref
  rk:=λr key e=>aa (ba hw (t.rk r key e) (λe=>by cases e)) (t.rk r key e)
  ws:=λx hx=>(t.ws x hx).keep l λy e=>aa (t.nd x hx).symm e
  way:=⟨fs,aw hw⟩
  off:=λi h1 h2 h3 h4=>aa (df (dM h1 t.zo)) (t.off i h1 h2 h3 h4) }
theorem CS.asg(t:CS kp H0 mo q h va rf lg m s wl hs k σ H)(key:List Nat)(v:V):CS kp H0 mo q h va rf lg m s wl hs k (gO σ key v) ((H.set va (.dict (eY key v σ.vals))).set lg (.list (σ.log++[.tup [.str key,v]])))/\LK q lg H ((H.set va (.dict (eY key v σ.vals))).set lg (.list (σ.log++[.tup [.str key,v]]))):=by
 have l1:LK q lg H (H.set va (.dict (eY key v σ.vals))):=.set t.vals (.inr (.inr λl e=>by cases e))
 have l2:LK q lg (H.set va (.dict (eY key v σ.vals))) ((H.set va (.dict (eY key v σ.vals))).set lg (.list (σ.log++[.tup [.str key,v]]))):=.set (aa t.m9 t.log) (.inr (.inl rfl))
 refine⟨{ t with
  len:=by rw[dB,dB];exact t.len
  cK:=aa t.m4.symm (aa t.m3.symm t.cK),dr:=aa t.n4.symm (aa t.m6.symm t.dr),host:=aa t.m8.symm (aa t.m7.symm t.host),vals:=aa t.m9.symm (aw t.vals),log:=aw (aa t.m9 t.log),ref:=aa t.n3.symm (aa t.mb.symm t.ref)
  rk:=λr key e=>aa (ba t.log (t.rk r key e) (λe=>by cases e)) (aa (ba t.vals (t.rk r key e) (λe=>by cases e)) (t.rk r key e))
  ws:=λx hx=>(t.ws x hx).keep (l1.trans l2) λy e=>by obtain⟨fs,e2⟩:=(t.ws x hx).inst;exact aa (ba t.log e2 (λe=>by cases e)) (aa (ba t.vals e2 (λe=>by cases e)) e)
  way:=by obtain⟨fs,e⟩:=t.way;exact⟨fs,aa t.w5.symm (aa t.w4.symm e)⟩
  off:=λi h1 h2 h3 h4=>aa h4.symm (aa h3.symm (t.off i h1 h2 h3 h4)) },l1.trans l2⟩
theorem CS.push(t:CS kp H0 mo q h va rf lg m s wl hs k σ H)(fs:List (Nat×V))(z:Option CW)(hz:u9 ((H++[O.inst 2 fs]).set q (.list (hs.map (λx=>V.loc x.1)++[.loc H.length]))) q lg H.length z):CS kp H0 mo q h va rf lg m s wl (hs++[(H.length,z)]) k σ ((H++[O.inst 2 fs]).set q (.list (hs.map (λx=>V.loc x.1)++[.loc H.length]))):=by
 have l:LK q lg H ((H++[O.inst 2 fs]).set q (.list (hs.map (λx=>V.loc x.1)++[.loc H.length]))):=LK.trans (.app _) (.set (ag t.dr) (.inl rfl))
 obtain⟨gs,hw⟩:=t.way
 exact { t with
  len:=by rw[dB,aH];exact zR t.len
  cK:=aa t.m2.symm (ag t.cK),dr:=by rw[du];exact aw (ag t.dr),host:=aa t.m5 (ag t.host),vals:=aa t.m6 (ag t.vals),log:=aa t.n4 (ag t.log),ref:=aa t.n5 (ag t.ref)
  rk:=λr key e=>aa (ba t.dr (t.rk r key e) (λe=>by cases e)) (ag (t.rk r key e))
  ws:=λx hx=>(eW.mp hx).elim (λhx=>(t.ws x hx).keep l λy e=>by obtain⟨fs,e2⟩:=(t.ws x hx).inst;exact aa (ba t.dr e2 (λe=>by cases e)) (ag e)) (λhx=>by rw[dA.mp hx];exact hz)
  way:=⟨gs,aa t.w2.symm (ag hw)⟩
  nd:=λx hx=>(eW.mp hx).elim (t.nd x) (λhx=>by rw[dA.mp hx];exact aK hw)
  HU:=List.pairwise_append.mpr ⟨t.HU,List.pairwise_singleton ..,λx hx y hy=>by rw[dA.mp hy];obtain⟨fs,e2⟩:=(t.ws x hx).inst;exact aE e2⟩
  off:=λi h1 h2 h3 h4=>aa (df (dM h1 t.KL)) ((dh (dM h1 t.len)).trans (t.off i h1 h2 h3 h4))
  xA:=λx hx=>(eW.mp hx).elim (t.xA x) (λhx=>by rw[dA.mp hx];exact t.len) }
theorem CS.pop{z:Nat×Option CW}(t:CS kp H0 mo q h va rf lg m s wl (hs++[z]) k σ H):CS kp H0 mo q h va rf lg m s z.1 hs k σ (H.set q (.list (hs.map λx=>V.loc x.1)))/\u9 (H.set q (.list (hs.map λx=>V.loc x.1))) q lg z.1 z.2:=by
 have hz:z∈hs++[z]:=ti _ (.head _)
 have l:LK q lg H (H.set q (.list (hs.map λx=>V.loc x.1))):=.set t.dr (.inl rfl)
 have kw:∀ x∈hs++[z],u9 (H.set q (.list (hs.map λx=>V.loc x.1))) q lg x.1 x.2:=λx hx=>(t.ws x hx).keep l λy e=>by obtain⟨fs,e2⟩:=(t.ws x hx).inst;exact aa (ba t.dr e2 (λe=>by cases e)) e
 exact⟨{ t with
  len:=by rw[dB];exact t.len
  cK:=aa t.m2.symm t.cK,dr:=aw t.dr,host:=aa t.m5 t.host,vals:=aa t.m6 t.vals,log:=aa t.n4 t.log,ref:=aa t.n5 t.ref
  rk:=λr key e=>aa (ba t.dr (t.rk r key e) (λe=>by cases e)) (t.rk r key e)
  ws:=λx hx=>kw x (pu _ hx)
  way:=(kw z hz).inst
  nd:=λx hx=>(List.pairwise_append.mp t.HU).2.2 x hx z (.head _)
  HU:=(List.pairwise_append.mp t.HU).1
  off:=λi h1 h2 h3 h4=>aa (df (dM h1 t.KL)) (t.off i h1 h2 h3 h4)
  zo:=t.xA z hz
  xA:=λx hx=>t.xA x (pu _ hx) },kw z hz⟩
theorem CS.ext(t:CS kp H0 mo q h va rf lg m s wl hs k σ H){H':Hp}(hl:H.length<=H'.length)(hk:∀ i,i<H.length->H'[i]?=H[i]?):CS kp H0 mo q h va rf lg m s wl hs k σ H':=by
 have g:∀{i:Nat}{x:O},H[i]?=some x->H'[i]?=some x:=λ{i x} e=>(hk i (cv e)).trans e
 exact { t with
  len:=bj t.len hl
  cK:=g t.cK,dr:=g t.dr,host:=g t.host,vals:=g t.vals,log:=g t.log,ref:=g t.ref
  rk:=λr key e=>g (t.rk r key e)
  ws:=λx hx=>(t.ws x hx).keep (λi l e _ _=>g e) λy e=>g e
  way:=by obtain⟨fs,e⟩:=t.way;exact⟨fs,g e⟩
  off:=λi h1 h2 h3 h4=>(hk i (dM h1 t.len)).trans (t.off i h1 h2 h3 h4) }
end
inductive o6(own:List FI)(d:Nat)(t:List Nat)(H:Hp):Prop where
 |mk (o2:Nat) (H3:Hp) (e:ae (au own) (d+4) 11 [.tup [.str [99,104,97,114,115],.str t]] H=some (.loc o2,H3)) (lo:H.length<=o2) (ho:H3[o2]?=some (.list (List.map oV [.one (.ch t),.done]))) (hl:H.length<=H3.length) (hk:∀ i,i<H.length->H3[i]?=H[i]?):o6 own d t H
structure Lc(hs:List (Nat×Option CW))(σ:Hs)(s:List Nat):Prop where
 l:hs.length+s.length+1<lim
 v:σ.vals.length<1024
 g:σ.log.length<lim
 hs:s.length<1000
noncomputable def wd(own:List FI)(d:Nat)(kp:Nat->Option (List Nat))(H0:Hp)(mo q h va rf lg:Nat)(m:Int)(s:List Nat)(wl:Nat)(hs:List (Nat×Option CW))(k:Nat)(σ:Hs)(od:Od)(H:Hp):xz->Prop
 |.go w' σ' ps=>∀ zg:Prop,(∀(fP:List (Nat×Option CW))(H':Hp),ae (au own) (d+7) 51 [.loc mo,oV od,.loc wl] H=some (.bool true,H')->CS kp H0 mo q h va rf lg m s wl (hs++fP) k σ' H'->fX H' q lg wl w'->fP.map (·.2)=ps->zg)->zg
 |.no=>∀ zg:Prop,(∀(H':Hp),ae (au own) (d+7) 51 [.loc mo,oV od,.loc wl] H=some (.bool false,H')->CS kp H0 mo q h va rf lg m s wl hs k σ H'->zg)->zg
section
variable {kp:Nat->Option (List Nat)}{own:List FI}{d:Nat}{H H0:Hp}{mo q h va rf lg wl:Nat}{m:Int}{s:List Nat}{hs:List (Nat×Option CW)}{k:Nat}{σ:Hs}{w:CW}
theorem CS.ou(t:CS kp H0 mo q h va rf lg m s wl hs k σ H){w':CW}{o:Nat}{ca:V}(ho:H[o]?=some (.list (w'.O.map oV)))(n1:o≠q)(n2:o≠lg)(hc:lU H q lg w'.cs ca):fX (H.set wl (bL o w'.pc w'.a (kK w'.nm) (mT w'.mS) ca)) q lg wl w':=by
 obtain⟨gs,hw⟩:=t.way
 have l:LK q lg H (H.set wl (bL o w'.pc w'.a (kK w'.nm) (mT w'.mS) ca)):=.set hw (.inr (.inr λl e=>by cases e))
 exact⟨o,ca,aw hw,l _ _ ho n1 n2,n1,n2,hc.keep l⟩
theorem wd.go{od:Od}{w':CW}{σ':Hs}{ps:List (Option CW)}(fP:List (Nat×Option CW))(H':Hp)(e:ae (au own) (d+7) 51 [.loc mo,oV od,.loc wl] H=some (.bool true,H'))(t:CS kp H0 mo q h va rf lg m s wl (hs++fP) k σ' H')(w:fX H' q lg wl w')(hp:fP.map (·.2)=ps):wd own d kp H0 mo q h va rf lg m s wl hs k σ od H (.go w' σ' ps):=λ_ zk=>zk fP H' e t w hp
theorem wd.no{od:Od}(H':Hp)(e:ae (au own) (d+7) 51 [.loc mo,oV od,.loc wl] H=some (.bool false,H'))(t:CS kp H0 mo q h va rf lg m s wl hs k σ H'):wd own d kp H0 mo q h va rf lg m s wl hs k σ od H .no:=λ_ zk=>zk H' e t
theorem wd.same{od:Od}{w':CW}{H':Hp}(e:ae (au own) (d+7) 51 [.loc mo,oV od,.loc wl] H=some (.bool true,H'))(t:CS kp H0 mo q h va rf lg m s wl hs k σ H')(w:fX H' q lg wl w'):wd own d kp H0 mo q h va rf lg m s wl hs k σ od H (.go w' σ []):=
 .go [] H' e (by rw[ce];exact t) w rfl
theorem CS.Fs(t:CS kp H0 mo q h va rf lg m s wl hs k σ H)(x:O)(L:List V):LK q lg H ((H++[x]).set q (.list L)):=LK.trans (.app _) (.set (ag t.dr) (.inl rfl))
theorem CS.pX(t:CS kp H0 mo q h va rf lg m s wl hs k σ H)(Km:σ.vals.length<1024)(jp:σ.log.length<lim){r:Nat}{key:List Nat}(hk:kp r=some key)(v:V)(d:Nat):ae (au own) (d+1) 62 [.loc h,.loc r,v] H=some (.bool true,(H.set va (.dict (eY key v σ.vals))).set lg (.list (σ.log++[.tup [.str key,v]]))):=
 u2 t.host (t.rk r key hk) t.ref t.vals Km t.log jp t.m7.symm (ba t.vals (t.rk r key hk) (λe=>by cases e)) t.m9
noncomputable def XA:List V->List Nat->Prop:=λl E=>l=E.map λ(e:Nat)=>V.int e
theorem xB{en:V}{sl:Nat}:∀(E:List Nat)(i f:Nat)(H:Hp)(hs:List (Nat×Option CW))(LL:List V)(x y:Option V),E.length<f->CS kp H0 mo q h va rf lg m s wl hs k σ H->fX H q lg wl w->H[sl]?=some (.list LL)->sl≠q->sl≠lg->LL.drop i=E.map (λ(e:Nat)=>V.int e)->hs.length+E.length<lim ->
  ∃ l' H' fP,dF (.one 3) (λl H=>aQ (au own) (ae (au own) (d+3)) bW l H) f (.lst sl i) [some (.loc mo),some (.loc wl),some en,x,y] H=some (.next,[some (.loc mo),some (.loc wl),some en]++l',H')/\CS kp H0 mo q h va rf lg m s wl (hs++fP) k σ H'/\fX H' q lg wl w/\fP.map (·.2)=E.map (λe=>some { w with a:=e })/\LK q lg H H'
 |[],i,f+1,H,hs,LL,x,y,_,t,hw,hH,n1,n2,hd,_=>by
  have:LL[i]?=none:=lJ.mpr (oa.mp hd)
  exact⟨[x,y],H,[],lu (i2 hH this),by rw[ce];exact t,hw,rfl,λi l e _ _=>e⟩
 |e::E,i,f+1,H,hs,LL,x,y,hf,t,hw,hH,n1,n2,hd,sr=>by
  have hx:LL[i]?=some (.int e):=by rw[← ml,hd];rfl
  have hd2:LL.drop (i+1)=E.map (λ(e:Nat)=>V.int e):=by rw[← mj,hd];rfl
  obtain⟨o,ca,v9,ho,m1,m2,hc⟩:=hw
  have l:=t.Fs (bL o w.pc e (kK w.nm) (mT w.mS) ca) (hs.map (λx=>V.loc x.1)++[.loc H.length])
  have hz:u9 ((H++[bL o w.pc e (kK w.nm) (mT w.mS) ca]).set q (.list (hs.map (λx=>V.loc x.1)++[.loc H.length]))) q lg H.length (some { w with a:=e }):=
   ⟨o,ca,aa (aE t.dr) ai,l _ _ ho m1 m2,m1,m2,hc.keep l⟩
  have t1:=t.push _ _ hz
  have mR:fX ((H++[bL o w.pc e (kK w.nm) (mT w.mS) ca]).set q (.list (hs.map (λx=>V.loc x.1)++[.loc H.length]))) q lg wl w:=
   ⟨o,ca,aa t.w2.symm (ag v9),l _ _ ho m1 m2,m1,m2,hc.keep l⟩
  obtain⟨l',H',fP,e1,t2,w2,h2,l2⟩:=xB E (i+1) f _ _ LL (some (.int e)) (some (.loc H.length)) (iz hf) t1 mR (l _ _ hH n1 n2) n1 n2 hd2 (by rw[aH];show hs.length+1+E.length<lim;rw[cw] at sr;exact nl (am [_,_,_] (.d (.s (.a ab (.s ac))) ar (.d ar (.a (.s ab) ac) .z)) rfl sr))
  refine⟨l',H',(H.length,some { w with a:=e })::fP,jo (j6 hH hx) rfl (HT t.cK v9 t.dr (by rw[cT];exact nl (am [_,_,_] (.d (.s (.a ab ac)) ar (.d ar ab .z)) rfl sr))) e1,by rw[List.append_cons];exact t2,w2,?_,l.trans l2⟩
  show _::_=_::_
  rw[h2]
theorem DD{n:Nat}{l:List V}(h:H[n]?=some (.list l)):jE (.loc n) .none (.int 0) (.int (-1)) H=some (.loc H.length,H++[.list (l.drop 1).reverse]):=by
 refine(cb h).trans ?_
 rfl
theorem xC{e0:Nat}{E:List Nat}{en:Nat}(t:CS kp H0 mo q h va rf lg m s wl hs k σ H)(hw:fX H q lg wl w)(c:hs.length+E.length<lim)(hE:E.length<1000000)(we:H[en]?=some (.list ((e0::E).map λ(e:Nat)=>V.int e)))(q1:en≠q)(q2:en≠lg) :
  ∃ fP H',ae (au own) (d+4) 55 [.loc mo,.loc wl,.loc en] H=some (.bool true,H')/\CS kp H0 mo q h va rf lg m s wl (hs++fP) k σ H'/\fX H' q lg wl { w with pc:=w.pc+1,a:=e0 }/\fP.map (·.2)=E.reverse.map λe=>some { w with pc:=w.pc+1,a:=e }:=by
 obtain⟨o,ca,v9,ho,n1,n2,hc⟩:=hw
 have Wu:¬ ((((e0::E).map λ(e:Nat)=>V.int e).length:Int)=0):=by rw[cT,cw];omega
 have t2:=t.upd [(0,.loc o),(1,.int (w.pc+1:Nat)),(2,.int w.a),(3,kK w.nm),(4,mT w.mS),(5,ca)]
 have w2:fX (H.set wl (bL o (w.pc+1) w.a (kK w.nm) (mT w.mS) ca)) q lg wl { w with pc:=w.pc+1 }:=t.ou (w':={ w with pc:=w.pc+1 }) ho n1 n2 hc
 have l2:LK q lg H (H.set wl (bL o (w.pc+1) w.a (kK w.nm) (mT w.mS) ca)):=.set v9 (.inr (.inr λl e=>by cases e))
 have KO:=l2 _ _ we q1 q2
 generalize Wv:H.set wl (bL o (w.pc+1) w.a (kK w.nm) (mT w.mS) ca)=H1 at t2 w2 KO l2
 have Uq:=DD KO
 have hq:=cv t2.dr
 have NK:=cv t2.log
 have t3:=t2.ext (H':=H1++[.list ((((e0::E).map λ(e:Nat)=>V.int e).drop 1).reverse)]) (by rw[aH];exact cC ..) λi hi=>dh hi
 have w3:=w2.keep (H':=H1++[.list ((((e0::E).map λ(e:Nat)=>V.int e).drop 1).reverse)]) (.app _) λx e=>ag e
 have NW:(((e0::E).map λ(e:Nat)=>V.int e).drop 1).reverse=E.reverse.map (λ(e:Nat)=>V.int e):=zN.symm
 have hH:(H1++[O.list ((((e0::E).map λ(e:Nat)=>V.int e).drop 1).reverse)])[H1.length]?=some (.list (E.reverse.map (λ(e:Nat)=>V.int e))):=by rw[← NW];exact ai
 obtain⟨l',H',fP,e1,t4,w4,h4,l4⟩:=xB (own:=own) (d:=d) (en:=.loc en) (sl:=H1.length) E.reverse 0 1048576 _ hs _ none none (by rw[jA];exact nl (am [_] (.d (.s ab) (.n 1000000) (.d (.n 1048576) ab .z)) rfl hE)) t3 w3 hH (df hq) (df NK) rfl (by rw[jA];exact nl (am [_,_,_] (.d (.s (.a ab ac)) ar (.d ar (.a ab ac) .z)) rfl c))
 obtain⟨o4,Ww,KD,Wx,m1,m2,Wz⟩:=w4
 have Ur:H'[en]?=some (.list ((e0::E).map λ(e:Nat)=>V.int e)):=l4 _ _ (ag KO) q1 q2
 have WA:((e0::E).map λ(e:Nat)=>V.int e)[0]?=some (.int e0):=rfl
 refine⟨fP,H'.set wl (bL o4 (w.pc+1) e0 (kK w.nm) (mT w.mS) Ww),?_,t4.upd _,t4.ou (w':={ w with pc:=w.pc+1,a:=e0 }) Wx m1 m2 Wz,h4⟩
 subst Wv
 exact af rfl rfl (bx (aq (aT rfl (dq we)) aj (fq (q:=false) (decide_eq_false Wu))) (ak (kI rfl (aD v9 rfl) aj rfl (dE v9)) (ak (fA (dp rfl aj aj rfl Uq) (gN hH) e1) (ak (eD (bc rfl aj (cQ Ur (Bs (k:=0) WA))) rfl (dE KD)) rfl))))
theorem KP(t:CS kp H0 mo q h va rf lg m s wl hs k σ H)(hw:fX H q lg wl w)(ha:w.a<=s.length)(c:Lc hs σ s):wd own d kp H0 mo q h va rf lg m s wl hs k σ .lT H (.go { w with pc:=w.pc+1 } σ ((List.range' (w.a+1) (s.length-w.a)).reverse.map λe=>some { w with pc:=w.pc+1,a:=e })):=by
 have cl:=c.l
 have R1:=c.hs
 have WB:xy s w.a=(w.a::List.range' (w.a+1) (s.length-w.a)).map (λ(e:Nat)=>V.int e):=by
  show(List.range' w.a (s.length+1-w.a)).map _=_
  rw[show s.length+1-w.a=(s.length-w.a)+1 by omega,List.range'_succ]
 have t1:=t.ext (H':=H++[.list (xy s w.a)]) (by rw[aH];exact cC ..) λi hi=>dh hi
 have w1:=hw.keep (H':=H++[.list (xy s w.a)]) (.app _) λx e=>ag e
 obtain⟨o,ca,eP,ho,n1,n2,hc⟩:=hw
 have we:(H++[O.list (xy s w.a)])[H.length]?=some (.list ((w.a::List.range' (w.a+1) (s.length-w.a)).map (λ(e:Nat)=>V.int e))):=by rw[← WB];exact ai
 obtain⟨fP,H',e1,t4,w4,h4⟩:=xC (own:=own) (d:=d+1) t1 w1 (by rw[wz];omega) (by rw[wz];omega) we (df (cv t.dr)) (df (cv t.log))
 refine .go fP H' ?_ t4 w4 h4
 exact iG rfl rfl rfl rfl rfl rfl t.cK (rs t.cK eP (HS (zl R1 ha)) t1.cK e1)
theorem HV{wl mo en:V}{n:Nat}(we:H[n]?=some (.list [])):ae (au own) (d+1) 55 [mo,wl,.loc n] H=some (.bool false,H):=
 af rfl rfl (aU (aq (aT rfl (dq we)) aj rfl) (az aj))
theorem KQ{e0:Nat}{E:List Nat}(hb:eB s w.a=e0::E)(h3:E.length<=3)(h4:E.length<=s.length)(t:CS kp H0 mo q h va rf lg m s wl hs k σ H)(hw:fX H q lg wl w)(c:Lc hs σ s):wd own d kp H0 mo q h va rf lg m s wl hs k σ .ot H (.go { w with pc:=w.pc+1,a:=e0 } σ (E.reverse.map λe=>some { w with pc:=w.pc+1,a:=e })):=by
 have cl:=c.l
 have R1:=c.hs
 have t1:=t.ext (H':=H++[iL (eB s w.a)]) (by rw[aH];exact cC ..) λi hi=>dh hi
 have w1:=hw.keep (H':=H++[iL (eB s w.a)]) (.app _) λx e=>ag e
 obtain⟨o,ca,eP,ho,n1,n2,hc⟩:=hw
 have we:(H++[iL (eB s w.a)])[H.length]?=some (.list ((e0::E).map (λ(e:Nat)=>V.int e))):=by rw[hb];exact ai
 obtain⟨fP,H',e1,t4,w4,h4⟩:=xC (own:=own) (d:=d+1) t1 w1 (by omega) (by omega) we (df (cv t.dr)) (df (cv t.log))
 refine .go fP H' ?_ t4 w4 h4
 exact iG rfl rfl rfl rfl rfl rfl t.cK (rs t.cK eP (xu (d:=d+2) R1) t1.cK e1)
theorem KR(hb:eB s w.a=[])(t:CS kp H0 mo q h va rf lg m s wl hs k σ H)(hw:fX H q lg wl w)(c:Lc hs σ s):wd own d kp H0 mo q h va rf lg m s wl hs k σ .ot H .no:=by
 have t1:=t.ext (H':=H++[iL (eB s w.a)]) (by rw[aH];exact cC ..) λi hi=>dh hi
 obtain⟨o,ca,eP,ho,n1,n2,hc⟩:=hw
 have we:(H++[iL (eB s w.a)])[H.length]?=some (.list []):=by rw[hb];exact ai
 exact .no _ (iG rfl rfl rfl rfl rfl rfl t.cK (rs t.cK eP (xu (d:=d+2) c.hs) t1.cK (HV (en:=.none) we))) t1
end
section
variable {kp:Nat->Option (List Nat)}{own:List FI}{d:Nat}{H H0:Hp}{mo q h va rf lg wl:Nat}{m:Int}{s:List Nat}{hs:List (Nat×Option CW)}{k:Nat}{σ:Hs}{w:CW}
theorem qr(hC:∀ t H,o6 own d t H){od:Od}{A:xz}(X:hV kp s od w σ A)(t:CS kp H0 mo q h va rf lg m s wl hs k σ H)(hw:fX H q lg wl w)(c:Lc hs σ s):wd own d kp H0 mo q h va rf lg m s wl hs k σ od H A:=by
  have Us:s.length<1048576:=mh c.hs (by decide)
  have WC:(hs.map λx=>V.loc x.1).length<lim:=by rw[cT];have:=c.l;exact nl (am [_,_,_] (.d (.s (.s (.a ab ac))) ar (.d ar ab .z)) rfl this)
  induction X with
 |@Pb x w σ e0 e=>
    obtain⟨o,ca,eP,ho,n1,n2,hc⟩:=hw
    exact .same (done_one t.cK (NT Us t.cK eP e)) (t.upd _) (t.ou (w':={ w with pc:=w.pc+1,a:=_ }) ho n1 n2 hc)
 |@KI x w σ e=>
    obtain⟨o,ca,eP,ho,n1,n2,hc⟩:=hw
    exact .no H (done_one t.cK (NU Us t.cK eP e)) t
 |@lT w σ e=>exact KP t hw e c
 |@u5 w σ e es h1 h2 h3=>exact KQ h1 h2 h3 t hw c
 |@qq w σ h1=>exact KR h1 t hw c
 |@split g w σ=>
    obtain⟨o,ca,eP,ho,n1,n2,hc⟩:=hw
    have l:=t.Fs (bL o g w.a (kK w.nm) (mT w.mS) ca) (hs.map (λx=>V.loc x.1)++[.loc H.length])
    have t1:=t.push _ (some { w with pc:=g }) ⟨o,ca,aa (aE t.dr) ai,l _ _ ho n1 n2,n1,n2,hc.keep l⟩
    exact .go [(H.length,some { w with pc:=g })] _ (BD t.cK eP t.dr WC t.w2) (t1.upd _) (t1.ou (w':={ w with pc:=w.pc+1 }) (l _ _ ho n1 n2) n1 n2 (hc.keep l)) rfl
 |@dH g w σ=>
    obtain⟨o,ca,eP,ho,n1,n2,hc⟩:=hw
    exact .same (DA eP) (t.upd _) (t.ou (w':={ w with pc:=_ }) ho n1 n2 hc)
 |@mark w σ=>
    obtain⟨o,ca,eP,ho,n1,n2,hc⟩:=hw
    exact .same (DB eP) (t.upd _) (t.ou (w':={ w with pc:=w.pc+1,mS:=w.a::w.mS }) ho n1 n2 hc)
 |@set r key O pc a nm b mk cs σ e=>
    obtain⟨o,ca,eP,ho,n1,n2,hc⟩:=hw
    have t1:=t.upd [(0,.loc o),(1,.int pc),(2,.int a),(3,kK nm),(4,mT mk),(5,ca)]
    have w1:fX (H.set wl (bL o pc a (kK nm) (mT mk) ca)) q lg wl ⟨O,pc,a,nm,mk,cs⟩:=t.ou (w':=⟨O,pc,a,nm,mk,cs⟩) ho n1 n2 hc
    obtain⟨t2,l2⟩:=t1.asg key (.str ((s.take a).drop b))
    have w2:=w1.keep l2 λx e=>aa t1.w5.symm (aa t1.w4.symm e)
    obtain⟨o2,ca2,mR,nO,m1,m2,qs⟩:=w2
    exact .go [] _ (sy rfl rfl rfl rfl rfl t.cK (DC t.cK eP t.w1.symm (t1.pX c.v c.g e _ _) ⟨_,t.host⟩ t.w3.symm) mR) (by rw[ce];exact t2.upd _) (t2.ou (w':=⟨O,pc+1,a,nm,mk,cs⟩) nO m1 m2 qs) rfl
 |@KJ O pc a nm b mk cs σ e=>
    obtain⟨o,ca,eP,ho,n1,n2,hc⟩:=hw
    exact .same (ke (sy (o2:=o) (pc2:=pc) (a2:=a) (nm2:=kK nm) (mk2:=mT mk) (ca2:=ca) rfl rfl rfl rfl rfl t.cK (sx t.cK eP t.w1.symm (decide_eq_true e)) (aw eP)) (by rw[rS])) (t.upd _) (t.ou (w':=⟨O,pc+1,a,nm,mk,cs⟩) ho n1 n2 hc)
 |zn e=>
    obtain⟨o,ca,eP,ho,n1,n2,hc⟩:=hw
    exact .no _ (zj t.cK (sx t.cK eP t.w1.symm (decide_eq_false e))) (t.upd _)
 |@done O pc a nm mk O2 pc2 cs σ=>
    obtain⟨o,ca,eP,ho,n1,n2,hc⟩:=hw
    cases hc with
   |cons h2 m1 m2 qs=>exact .same (iG rfl rfl rfl rfl rfl rfl t.cK (HQ eP)) (t.upd _) (t.ou (w':=⟨O2,pc2,a,nm,mk,cs⟩) h2 m1 m2 qs)
 |fail=>exact .no H (iG rfl rfl rfl rfl rfl rfl t.cK HP) t
end
theorem R2(od:Od):(zm od==[97,98,111,114,116])=false:=by induction od <;> rfl
noncomputable def tR:ME:=(.cmp .eE (.loc 3) (.lit .none))
noncomputable def HW:List MS:=[(.ay (.not (.bp (.loc 0) 110 [(.loc 4),(.loc 3)])) [(.asg (.loc 3) (.bp (.loc 0) 109 [])),(.ay (.and [(.cmp .eE (.loc 3) (.lit .none)),(.cmp .is (.attr (.loc 3) 0) (.lit .none))]) [(.ret (.tup [(.glob (.int 2)),(.lit .none)]))] [])] [])]
noncomputable def bR:List MS:=(.expr (.bp (.attr (.loc 0) 7) 118 []))::(.asg (.loc 4) (.idx (.attr (.loc 3) 0) (.attr (.loc 3) 1)))::(.ay (.and [(.cmp .eq (.idx (.loc 4) (.lit (.int 0))) (.glob (.str [100,111,110,101]))),(.cmp .is (.attr (.loc 3) 5) (.lit .none))]) [(.ret (.tup [(.glob (.int 0)),(.loc 3)]))] [])::(.ay (.cmp .eq (.idx (.loc 4) (.lit (.int 0))) (.glob (.str [97,98,111,114,116]))) [(.ret (.tup [(.glob (.int 2)),(.lit .none)]))] [])::HW
noncomputable abbrev rl(mo:Nat)(o bg:V)(w y:V):Lo:=[some (.loc mo),some o,some bg,some w,some y]
section
variable {own:List FI}{d:Nat}{H:Hp}{h mo q o wl pc a:Nat}{va rf lg nm mk ca:V}{m k:Int}{s:List Nat}{OV:List V}{od:Od}{o1 bg:V}{y:Option V}{H2 H3:Hp}
theorem s7{R:SR}(hh:H[h]?=some (cI va rf lg m k))(hk:k<m)(hm:H[mo]?=some (dQ s h q))(hw:H[wl]?=some (bL o pc a nm mk ca))(ho:H[o]?=some (.list OV))(n2:wl≠h)(rx:OV[pc]?=some (oV od))(hx:(zm od==[100,111,110,101])=false\/fS ca=false)(hq:aQ (au own) (ae (au own) (d+7)) HW (rl mo o1 bg (.loc wl) (oV od)) (H.set h (cI va rf lg m (k+1)))=R):aQ (au own) (ae (au own) (d+7)) bR [some (.loc mo),some o1,some bg,some (.loc wl),y] H=R:=
 have n3:o≠h:=ba ho hh (λe=>by cases e)
 have Ut:=bx (aq rfl bz (bu (R2 od))) hq
 ak (jm (aY (aJ rfl (aD hm rfl)) hh rfl rfl aW (qn hh hk))) (aV (bc (aJ rfl (aD (aa n2.symm hw) rfl)) (aJ rfl (aD (aa n2.symm hw) rfl)) (cQ (aa n3.symm ho) (qm rfl rx)))
   (match Bool.eq_false_or_eq_true (zm od==[100,111,110,101]) with
  |.inr hx=>bx (dO (aq rfl bz (bu hx))) Ut
  |.inl h1=>bx (dc (aq rfl bz (bu h1)) (dO (aq (aJ rfl (aD (aa n2.symm hw) rfl)) aj (congrArg some (hx.resolve_left λe=>absurd (h1.symm.trans e) (by decide)))))) Ut))
theorem R4(n1:mo≠h)(hm:H[mo]?=some (dQ s h q))(hd:ae (au own) (d+7) 51 [.loc mo,oV od,.loc wl] (H.set h (cI va rf lg m (k+1)))=some (.bool true,H2)):aQ (au own) (ae (au own) (d+7)) HW (rl mo o1 bg (.loc wl) (oV od)) (H.set h (cI va rf lg m (k+1)))=some (.next,rl mo o1 bg (.loc wl) (oV od),H2):=
 bx (q9 (aY rfl (aa n1.symm hm) rfl rfl rfl hd)) aL
section
variable (n1:mo≠h)(hm:H[mo]?=some (dQ s h q))(hd:ae (au own) (d+7) 51 [.loc mo,oV od,.loc wl] (H.set h (cI va rf lg m (k+1)))=some (.bool false,H2))(KE:H2[mo]?=some (dQ s h q))
include n1 hm hd KE
theorem KS{o2:V}{w2:Nat}{fs:List (Nat×V)}(hb:ae (au own) (d+7) 50 [.loc mo] H2=some (.loc w2,H3))(mR:H3[w2]?=some (.inst 2 ((0,o2)::fs)))(nO:fS o2=false):aQ (au own) (ae (au own) (d+7)) HW (rl mo o1 bg (.loc wl) (oV od)) (H.set h (cI va rf lg m (k+1)))=some (.next,rl mo o1 bg (.loc w2) (oV od),H3):=
 ak (bQ (q9 (aY rfl (aa n1.symm hm) rfl rfl rfl hd)) (aV (aY rfl KE rfl rfl aW hb) (bx (dc rfl (dO (aq (aJ rfl (aD mR rfl)) aj (congrArg some nO)))) aL))) aL
theorem KU{w2:Nat}(hb:ae (au own) (d+7) 50 [.loc mo] H2=some (.loc w2,H3))(mR:H3[w2]?=some Pa):aQ (au own) (ae (au own) (d+7)) HW (rl mo o1 bg (.loc wl) (oV od)) (H.set h (cI va rf lg m (k+1)))=some (.ret (.tup [.int 2,.none]),rl mo o1 bg (.loc w2) (oV od),H3):=
 aU (q9 (aY rfl (aa n1.symm hm) rfl rfl rfl hd)) (aV (aY rfl KE rfl rfl aW hb) (aU (dc rfl (dc (aq (aJ rfl (aD mR rfl)) aj rfl) i1)) rfl))
theorem NX(hb:ae (au own) (d+7) 50 [.loc mo] H2=some (.none,H3)):aQ (au own) (ae (au own) (d+7)) HW (rl mo o1 bg (.loc wl) (oV od)) (H.set h (cI va rf lg m (k+1)))=some (.next,rl mo o1 bg .none (oV od),H3):=
 ak (bQ (q9 (aY rfl (aa n1.symm hm) rfl rfl rfl hd)) (aV (aY rfl KE rfl rfl aW hb) rfl)) aL
end
theorem NY(hh:H[h]?=some (cI va rf lg m k))(hk:k<m)(hm:H[mo]?=some (dQ s h q))(hw:H[wl]?=some (bL o pc a nm mk .none))(ho:H[o]?=some (.list OV))(n2:wl≠h)(rx:OV[pc]?=some (oV .done)):aQ (au own) (ae (au own) (d+7)) bR [some (.loc mo),some o1,some bg,some (.loc wl),y] H=some (.ret (.tup [.int 0,.loc wl]),rl mo o1 bg (.loc wl) (oV .done),(H.set h (cI va rf lg m (k+1)))):=
 have n3:o≠h:=ba ho hh (λe=>by cases e)
 ak (jm (aY (aJ rfl (aD hm rfl)) hh rfl rfl aW (qn hh hk))) (aV (bc (aJ rfl (aD (aa n2.symm hw) rfl)) (aJ rfl (aD (aa n2.symm hw) rfl)) (cQ (aa n3.symm ho) (qm rfl rx))) (aU (dc rfl (dc (aq (aJ rfl (aD (aa n2.symm hw) rfl)) aj rfl) i1)) rfl))
theorem BE:av (au own) (ae (au own) (d+7)) tR [some (.loc mo),some o1,some bg,some (.loc wl),y] H=some (.bool true,H):=by kernel_rfl
theorem Uu:av (au own) (ae (au own) (d+7)) tR [some (.loc mo),some o1,some bg,some .none,y] H=some (.bool false,H):=by kernel_rfl
end
structure Bc(K:List (List Nat))(s:List Nat)(j k:Nat)(L:List (Option CW))(w:CW)(σ:Hs):Prop where
 l:L.length<=k*(s.length+1)
 n:w.nm.length<=k
 ws:∀ z∈L,∀ u,z=some u->u.nm.length<=k
 g:σ.log.length<=j+k
 v:Kd K σ.vals
section
variable {kp:Nat->Option (List Nat)}{own:List FI}{d:Nat}{H H0:Hp}{mo q h va rf lg wl:Nat}{m:Int}{s:List Nat}{hs:List (Nat×Option CW)}{k j:Nat}{σ:Hs}{w:CW}{K:List (List Nat)}{L:List (Option CW)}
theorem Bc.pop{w2:CW}(b:Bc K s j k (L++[some w2]) w σ):Bc K s j (k+1) L w2 σ:=
 ⟨bj (bj (by rw[aH];exact cC ..) b.l) (tb _ (eX _)),gT (b.ws _ (ti _ (.head _)) w2 rfl),λz hz u e=>gT (b.ws z (pu _ hz) u e),gT b.g,b.v⟩
structure Uv(K:List (List Nat))(s:List Nat)(w w':CW)(σ σ':Hs)(ps:List (Option CW)):Prop where
 l:ps.length<=s.length+1
 n:w'.nm.length<=w.nm.length+1
 ws:∀ z∈ps,∀ u,z=some u->u.nm=w.nm
 g:σ'.log.length<=σ.log.length+1
 v:Kd K σ.vals->Kd K σ'.vals
theorem WD{w:CW}{z:Option CW}(hz:∀ u,z=some u->u.nm=w.nm):∀ y∈[z],∀ u,y=some u->u.nm=w.nm:=λy hy u e=>hz u ((dA.mp hy).symm.trans e)
noncomputable def WE(K:List (List Nat))(s:List Nat)(w:CW)(σ:Hs):xz->Prop
 |.go w' σ' ps=>Uv K s w w' σ σ' ps
 |.no=>True
theorem hV.R5(hK:∀ q key,kp q=some key->key∈K){od:Od}{A:xz}(X:hV kp s od w σ A):WE K s w σ A:=by
  induction X with
 |lT e=>exact⟨by rw[cT,jA,wz];omega,eX _,(λz hz u e=>by obtain⟨x,_,rfl⟩:=mf.mp hz;cases e;rfl),eX _,id⟩
 |u5 _ _ e3=>exact⟨by rw[cT,jA];omega,eX _,(λz hz u e=>by obtain⟨x,_,rfl⟩:=mf.mp hz;cases e;rfl),eX _,id⟩
 |qq=>trivial
 |split=>exact⟨fJ ..,eX _,(WD λu e=>by cases e;rfl),eX _,id⟩
 |set e=>exact⟨cj _,eX _,(λz hz=>nomatch hz),bk (nE ..),λh=>h.put (hK _ _ e) _⟩
 |KI=>trivial
 |zn=>trivial
 |fail=>trivial
 |_=>exact⟨cj _,eX _,(λz hz=>nomatch hz),eX _,id⟩
theorem hV.facts(hK:∀ q key,kp q=some key->key∈K){od:Od}{w':CW}{σ':Hs}{ps:List (Option CW)}(X:hV kp s od w σ (.go w' σ' ps)):Uv K s w w' σ σ' ps:=X.R5 hK
theorem Bc.go(hK:∀ q key,kp q=some key->key∈K)(b:Bc K s j k L w σ){od:Od}{w':CW}{σ':Hs}{ps:List (Option CW)}(X:hV kp s od w σ (.go w' σ' ps)):Bc K s j (k+1) (L++ps) w' σ':=by
 obtain⟨f1,f2,f3,f4,f5⟩:=X.facts hK
 have b1:=b.l
 have b2:=b.n
 have b3:=b.g
 exact⟨by rw[aH,Nat.succ_mul];exact nt (am [_,_,_,_] (.d ab (.s ac) (.d ar aA (.d (.s (.a aA (.s ac))) (.a ar ab) .z))) rfl f1 b1),by exact nt (am [_,_,_] (.d ab (.s ac) (.d ac ar (.d (.s (.s ar)) ab .z))) rfl f2 b2),λz hz u e=>(eW.mp hz).elim (λhz=>gT (b.ws z hz u e)) (λhz=>by rw[f3 z hz u e];exact nt (am [_,_] (.d ab ac (.d (.s (.s ac)) ab .z)) rfl b2)),by exact nt (am [_,_,_,_] (.d ab (.s ac) (.d ac (.a ar aA) (.d (.s (.a ar (.s aA))) ab .z))) rfl f4 b3),f5 b.v⟩
theorem Bc.lc(b:Bc K s j k L w σ)(hL:hs.map (·.2)=L)(hk:(k:Int)<m)(hm:m<100000)(hb:m*(s.length+1)<=1000000)(hj:j<=100000)(hK:K.length<1024)(kG:s.length<1000):Lc hs σ s:=by
 have b1:=b.l
 have b3:=b.g
 rw[← hL,cT] at b1
 have h1:((k*(s.length+1):Nat):Int)<=1000000:=by
  have:(k:Int)*((s.length+1:Nat):Int)<=m*((s.length+1:Nat):Int):=Int.mul_le_mul_of_nonneg_right (Int.le_of_lt hk) (n9 _)
  rw[Int.natCast_mul];exact Int.le_trans this hb
 exact⟨by unfold lim;omega,ix b.v.len hK,by unfold lim;omega,kG⟩
inductive lA(x:SR)(kp:Nat->Option (List Nat))(H0:Hp)(mo q h va rf lg:Nat)(m:Int)(s:List Nat)(τ:Hs)(k':Nat):js->Prop where
 |met (w:CW) (l':Lo) (H':Hp) (ve:Nat) (fP:List (Nat×Option CW)) (e:x=some (.ret (.tup [.int 0,.loc ve]),l',H')) (t:CS kp H0 mo q h va rf lg m s ve fP k' τ H') (hw:fX H' q lg ve w) (hn:w.nm.length<=k'):lA x kp H0 mo q h va rf lg m s τ k' (.met w)
 |eK (l':Lo) (H':Hp) (ve:Nat) (fP:List (Nat×Option CW)) (e:x=some (.next,l',H')) (t:CS kp H0 mo q h va rf lg m s ve fP k' τ H'):lA x kp H0 mo q h va rf lg m s τ k' .eK
 |ed (l':Lo) (H':Hp) (ve:Nat) (fP:List (Nat×Option CW)) (e:x=some (.ret (.tup [.int 2,.none]),l',H')) (t:CS kp H0 mo q h va rf lg m s ve fP k' τ H'):lA x kp H0 mo q h va rf lg m s τ k' .ed
theorem lA.of{x y:SR}(e0:x=y){τ:Hs}{k':Nat}{R:js}(r:lA y kp H0 mo q h va rf lg m s τ k' R):lA x kp H0 mo q h va rf lg m s τ k' R:=e0▸r
structure Rg(kp:Nat->Option (List Nat))(K:List (List Nat))(s:List Nat)(m:Int)(j:Nat):Prop where
 g:Gx kp K s m j
 hb:m*(s.length+1)<=1000000
theorem hV.dn{od:Od}{A:xz}{ca:V}{H:Hp}(X:hV kp s od w σ A)(hc:lU H q lg w.cs ca):(zm od==[100,111,110,101])=false\/fS ca=false:=by
  induction X with
 |done=>exact .inr (by cases hc;rfl)
 |_=>exact .inl rfl
theorem CS.Pc{kG:List (Nat×Option CW)}{i:Nat}{x:Option CW}{H:Hp}{wl:Nat}(t:CS kp H0 mo q h va rf lg m s wl hs k σ H)(e:hs=kG++[(i,x)]):CS kp H0 mo q h va rf lg m s i kG k σ (H.set q (.list (kG.map λx=>V.loc x.1)))/\u9 (H.set q (.list (kG.map λx=>V.loc x.1))) q lg i x:=(e▸t:CS kp H0 mo q h va rf lg m s wl (kG++[(i,x)]) k σ H).pop
theorem CS.KW{kG:List (Nat×Option CW)}{i:Nat}{x:Option CW}{H:Hp}{wl:Nat}(t:CS kp H0 mo q h va rf lg m s wl hs k σ H)(e:hs=kG++[(i,x)]):H[q]?=some (.list (kG.map (λx=>V.loc x.1)++[.loc i])):=by have:=t.dr;rw[e,du] at this;exact this
theorem CS.R6{H:Hp}{wl:Nat}(t:CS kp H0 mo q h va rf lg m s wl hs k σ H)(e:hs.map (·.2)=[]):H[q]?=some (.list []):=by have:=t.dr;rw[List.map_eq_nil_iff.mp e] at this;exact this
theorem fX.fst{H:Hp}{wl:Nat}(hw:fX H q lg wl w){zg:Prop}(zk:∀ o2 fs,H[wl]?=some (.inst 2 ((0,.loc o2)::fs))->zg):zg:=match hw with
 |⟨_,_,h,_,_,_,_⟩=>zk _ _ h
theorem lU.NZ{ca:V}{H:Hp}{cs:List (List Od×Nat)}(hc:lU H q lg cs ca)(e:cs=[]):ca=.none:=by induction hc <;> first|rfl|cases e
theorem xD{x:Option CW}(h:hs.map (·.2)=L++[x]){zg:Prop}(zk:∀ kG i,hs=kG++[(i,x)]->kG.map (·.2)=L->zg):zg:=by
 rcases List.eq_nil_or_concat hs with rfl|⟨kG,z,rfl⟩
 ·exact absurd h (by simp)
 ·rw[List.concat_eq_append,du] at h
  obtain⟨a,b⟩:=List.append_inj' h rfl
  cases List.singleton_inj.mp b
  exact zk kG z.1 List.concat_eq_append a
section
variable {tv:Lo->Hp->Option (V×Hp)}{bd:Lo->Hp->SR}{n:Nat}{l l2:Lo}{H1 H2:Hp}{u:V}
theorem N1(h0:0<n)(h1:tv l H=some (.bool false,H1)):dj tv bd n l H=some (.next,l,H1):=by
  induction n using Nat.casesOn with
 |zero=>exact absurd h0 (nZ 0)
 |succ n=>exact gc h1
theorem vf{q:SR}(h0:0<n)(h1:tv l H=some (.bool true,H1))(h2:bd l H1=some (.next,l2,H2))(h3:dj tv bd (n-1) l2 H2=q):dj tv bd n l H=q:=by
  induction n using Nat.casesOn with
 |zero=>exact absurd h0 (nZ 0)
 |succ n=>exact fV h1 h2 h3
theorem Ft(h0:0<n)(h1:tv l H=some (.bool true,H1))(h2:bd l H1=some (.ret u,l2,H2)):dj tv bd n l H=some (.ret u,l2,H2):=by
  induction n using Nat.casesOn with
 |zero=>exact absurd h0 (nZ 0)
 |succ n=>exact y9 h1 h2
end
theorem ry{k k' f:Nat}(h1:k+1<=k')(h2:k'<k+f):0<f:=Nat.pos_of_ne_zero λe=>by rw[e] at h2;exact nZ _ (dM (wy h2) h1)
theorem Fu{k k' f:Nat}(h1:k+1<=k')(h2:k'<k+f):k'<k+1+(f-1):=by rw[dU,Nat.add_sub_cancel' (ry h1 h2)];exact h2
theorem R7{k f:Nat}(h2:k+1<k+f):0<f-1:=Nat.sub_pos_of_lt (Nat.lt_of_add_lt_add_left h2)
theorem qt{k k':Nat}{m:Int}(h1:k+1<=k')(h:(k':Int)<=m):(k:Int)<m:=Int.lt_of_lt_of_le (Int.ofNat_lt.mpr h1) h
theorem fX.c7{od:Od}{H:Hp}{wl:Nat}(hw:fX H q lg wl w)(e0:w.O[w.pc]?=some od){zg:Prop}(zk:∀ o ca,H[wl]?=some (bL o w.pc w.a (kK w.nm) (mT w.mS) ca)->H[o]?=some (.list (w.O.map oV))->(w.O.map oV)[w.pc]?=some (oV od)->lU H q lg w.cs ca->zg):zg:=
  match hw with
 |⟨o,ca,eP,ho,_,_,hc⟩=>zk o ca eP ho (by rw[iy,e0];rfl) hc
theorem N2(hC:∀ t H,o6 own d t H)(g:Rg kp K s m j){R:js}{τ:Hs}{k':Nat}(T:Rn kp s w L σ k R τ k'):∀{H:Hp}{wl:Nat}{hs:List (Nat×Option CW)}{f:Nat}{o1 bg:V}{y:Option V},CS kp H0 mo q h va rf lg m s wl hs k σ H->fX H q lg wl w->hs.map (·.2)=L->(k':Int)<=m->k'<k+f->Bc K s j k L w σ ->
   lA (dj (av (au own) (ae (au own) (d+7)) tR) (aQ (au own) (ae (au own) (d+7)) bR) f [some (.loc mo),some o1,some bg,some (.loc wl),y] H) kp H0 mo q h va rf lg m s τ k' R:=by
  have hm:=g.g.hm
  induction T with
 |@met w L σ k e0 e1=>
   intro H wl hs f o1 bg y t hw hL hk hf b
   refine hw.c7 e0 λo ca eP ho rx hc=>?_
   exact .met w _ _ wl hs (Ft (ry (aC _) hf) BE (NY t.host (qt (aC _) hk) t.cK (hc.NZ e1▸eP) ho t.w3 rx)) t.tick (t.vd hw) (gT b.n)
 |@go w L σ k R τ k' od w' σ' ps e0 X T ih=>
   intro H wl hs f o1 bg y t hw hL hk hf b
   have j8:=lL T.mono
   refine hw.c7 e0 λo ca eP ho rx hc=>?_
   refine qr (own:=own) (d:=d) hC X t.tick (t.vd hw) (b.lc hL (qt j8 hk) hm g.hb g.g.hj g.g.kl g.g.hs) _ λfP H' e1 t1 w2 hp=>?_
   exact lA.of (vf (ry j8 hf) BE (s7 t.host (qt j8 hk) t.cK eP ho t.w3 rx (X.dn hc) (R4 t.m1 t.cK e1)) rfl) (ih t1 w2 (by rw[lK,hp,hL]) hk (Fu j8 hf) (b.go g.g.hK X))
 |@pop w L σ k R τ k' od w2 e0 X T ih=>
   intro H wl hs f o1 bg y t hw hL hk hf b
   have j8:=lL T.mono
   refine hw.c7 e0 λo ca eP ho rx hc=>xD hL λkG i eh Uw=>?_
   refine qr (own:=own) (d:=d) hC X t.tick (t.vd hw) (b.lc hL (qt j8 hk) hm g.hb g.g.hj g.g.kl g.g.hs) _ λH' e1 t1=>(t1.Pc eh).elim λt2 w3=>fX.fst w3 λ_ _ h4=>?_
   exact lA.of (vf (ry j8 hf) BE (s7 t.host (qt j8 hk) t.cK eP ho t.w3 rx (X.dn hc) (KS t.m1 t.cK e1 t1.cK (Fq (d:=d+6) t1.cK (t1.KW eh)) h4 rfl)) rfl) (ih t2 w3 Uw hk (Fu j8 hf) b.pop)
 |@eK w σ k od e0 X=>
   intro H wl hs f o1 bg y t hw hL hk hf b
   have j8:=aC (k+1)
   refine hw.c7 e0 λo ca eP ho rx hc=>?_
   refine qr (own:=own) (d:=d) hC X t.tick (t.vd hw) (b.lc hL (qt j8 hk) hm g.hb g.g.hj g.g.kl g.g.hs) _ λH' e1 t1=>?_
   exact .eK _ H' wl hs (vf (ry j8 hf) BE (s7 t.host (qt j8 hk) t.cK eP ho t.w3 rx (X.dn hc) (NX t.m1 t.cK e1 t1.cK (NS (d:=d+6) t1.cK (t1.R6 hL)))) (N1 (R7 hf) Uu)) t1
 |@ed w L σ k od e0 X=>
   intro H wl hs f o1 bg y t hw hL hk hf b
   have j8:=aC (k+1)
   refine hw.c7 e0 λo ca eP ho rx hc=>xD hL λkG i eh Uw=>?_
   refine qr (own:=own) (d:=d) hC X t.tick (t.vd hw) (b.lc hL (qt j8 hk) hm g.hb g.g.hj g.g.kl g.g.hs) _ λH' e1 t1=>(t1.Pc eh).elim λt2 w3=>?_
   exact .ed _ _ i kG (Ft (ry j8 hf) BE (s7 t.host (qt j8 hk) t.cK eP ho t.w3 rx (X.dn hc) (KU t.m1 t.cK e1 t1.cK (Fq (d:=d+6) t1.cK (t1.KW eh)) w3))) t2
end
theorem Pd{H:Hp}{x y:O}:(H++[x]).set H.length y=H++[y]:=by rw[zT _ _ (aC _),iu];rfl
theorem N3{H:Hp}{ls:List V}{v:V}(h:ls.length<lim):qK .append (.loc H.length) [v] (H++[.list ls])=some (.none,H++[.list (ls++[v])]):=by rw[bY ai h,Pd]
theorem N4{H:Hp}{ls:List V}:qK .reverse (.loc H.length) [] (H++[.list ls])=some (.none,H++[.list ls.reverse]):=(cb ai).trans (by rw[Pd])
section
variable {own:List FI}{d:Nat}{H H0:Hp}{h mo q o wl va rf lg:Nat}{m:Int}{k k' j:Nat}{s:List Nat}{σ τ:Hs}{kp:Nat->Option (List Nat)}{K:List (List Nat)}
noncomputable def tN:ME:=(.cmp .eE (.loc 0) (.lit .none))
noncomputable def bN:List MS:=[(.asg (.tup [(.loc 0),(.loc 2)]) (.loc 0)),(.expr (.aS (.loc 1) .append [(.loc 2)]))]
theorem DE{x:Nat×List Nat}{r:V}{y:Option V}{X:List V}(h:X.length<lim):aQ (au own) (ae (au own) d) bN [some (.tup [r,.tup [.loc x.1,.str x.2]]),some (.loc H.length),y] (H++[.list X])=some (.next,[some r,some (.loc H.length),some (.tup [.loc x.1,.str x.2])],H++[.list (X++[.tup [.loc x.1,.str x.2]])]):=
 ak rfl (fp (cn rfl (aZ (by solve_by_elim [ai,aw,aa,ag,aE,aK,cR]) rfl) rfl (N3 h)))
theorem vg:∀(nm:Nm)(X:List V)(f:Nat)(y:Option V),nm.length<f->X.length+nm.length<lim ->
  ∃ y',dj (av (au own) (ae (au own) d) tN) (aQ (au own) (ae (au own) d) bN) f [some (kK nm),some (.loc H.length),y] (H++[.list X])=some (.next,[some .none,some (.loc H.length),y'],H++[.list (X++qp nm)])
 |[],X,f+1,y,_,_=>⟨y,by rw[show X++qp []=X from ce X];exact gc rfl⟩
 |x::r,X,f+1,y,hf,hX=>by
  rw[cw] at hX
  obtain⟨y',e⟩:=vg r (X++[.tup [.loc x.1,.str x.2]]) f (some (.tup [.loc x.1,.str x.2])) (iz hf) (by rw[aH,List.length_singleton];exact nl (am [_,_,_] (.d (.s (.a ab (.s ac))) ar (.d ar (.a (.s ab) ac) .z)) rfl hX))
  refine⟨y',fV rfl (DE (by exact nl (am [_,_,_] (.d (.s (.a ab (.s ac))) ar (.d ar ab .z)) rfl hX))) (e.trans ?_)⟩
  rw[bZ];rfl
theorem KY{nm:Nm}(h:nm.length<1000000):ae (au own) (d+1) 57 [kK nm] H=some (.loc H.length,H++[.list (qp nm.reverse)]):=by
 obtain⟨y',e⟩:=vg (own:=own) (d:=d) (H:=H) nm [] 1048576 none (by exact nl (am [_] (.d (.s ab) (.n 1000000) (.d (.n 1048576) ab .z)) rfl h)) (by rw[List.length_nil];unfold lim;exact nl (am [_] (.d (.s ab) (.n 1000000) (.d (.n 1048576) (.a (.n 0) ab) .z)) rfl h))
 rw[qp,zN]
 exact af rfl rfl (aV (aN aW) (ak (fB e) (mQ (cn rfl ((by unfold zZ;simp only[ai])) aW N4) rfl)))
theorem rz:ae (au own) (d+1) 48 [.loc H.length,.str s,.loc h] (H++[.inst 3 []])=some (.none,(H++[O.inst 3 [(6,.str s),(7,.loc h)]]++[O.list []]).set H.length (dQ s h (H.length+1))):=
 em rfl rfl (ak (eD rfl rfl ef) (ak (eD rfl rfl ef) (ak (eD (aN aW) rfl ((dE (ag ai)).trans (by rw[aH];rfl))) aL)))
inductive BF(own:List FI)(d:Nat)(kp:Nat->Option (List Nat))(H0:Hp)(mo o b q h va rf lg:Nat)(m:Int)(τ:Hs)(k':Nat)(H:Hp):js->Prop where
 |met (w:CW) (wl:Nat) (H':Hp) (e:ae (au own) (d+8) 49 [.loc mo,.loc o,.int b] H=some (.tup [.int 0,.loc wl],H')) (x:HX kp h va rf lg m k' τ H') (ho:HO h va lg H0 H') (hw:fX H' q lg wl w) (hn:w.nm.length<=k'):BF own d kp H0 mo o b q h va rf lg m τ k' H (.met w)
 |eK (H':Hp) (e:ae (au own) (d+8) 49 [.loc mo,.loc o,.int b] H=some (.tup [.int 1,.none],H')) (x:HX kp h va rf lg m k' τ H') (ho:HO h va lg H0 H'):BF own d kp H0 mo o b q h va rf lg m τ k' H .eK
 |ed (H':Hp) (e:ae (au own) (d+8) 49 [.loc mo,.loc o,.int b] H=some (.tup [.int 2,.none],H')) (x:HX kp h va rf lg m k' τ H') (ho:HO h va lg H0 H'):BF own d kp H0 mo o b q h va rf lg m τ k' H .ed
theorem N5(hC:∀ t H,o6 own d t H)(g:Rg kp K s m j){Os:List Od}{R:js}{b:Nat}(hk:(k':Int)<=m)(T:Rn kp s ⟨Os,0,b,[],[],[]⟩ [] σ k R τ k')(x:HX kp h va rf lg m k σ H)(cK:H[mo]?=some (dQ s h q))(dr:H[q]?=some (.list []))(ord:H[o]?=some (.list (Os.map oV)))
   (hl:σ.log.length<=j+k) (hv:Kd K σ.vals) (len:H0.length<=H.length) (off:∀ i,i<H0.length->i≠h->i≠va->i≠lg->H[i]?=H0[i]?) (oq:o≠q) (ol:o≠lg) (KL:H0.length<=q) (n4:q≠lg) (n5:q≠rf):BF own d kp H0 mo o b q h va rf lg m τ k' H R:=by
  have hm:=g.g.hm
  have j8:=T.mono
  have c:CS kp H0 mo q h va rf lg m s H.length [] k σ (H++[bL o 0 b .none .none .none]):=
   {len:=by rw[aH];exact zR len
    cK:=ag cK,dr:=ag dr,host:=ag x.host,vals:=ag x.vals,log:=ag x.log,ref:=ag x.ref
    rk:=λr key e=>ag (x.rk r key e)
    ws:=λx h=>(nomatch h),way:=⟨_,ai⟩,nd:=λx h=>(nomatch h),HU:=.nil
    off:=λi h1 h2 h3 h4=>(dh (dM h1 len)).trans (off i h1 h2 h3 h4)
    zo:=len,xA:=λx h=>(nomatch h),KL:=KL,n3:=x.n3,n4:=n4,n5:=n5 }
  have hw:fX (H++[bL o 0 b .none .none .none]) q lg H.length ⟨Os,0,b,[],[],[]⟩:=⟨o,.none,ai,ag ord,oq,ol,.nil⟩
  have r:=N2 (own:=own) (d:=d) hC g T (o1:=.loc o) (bg:=.int b) (y:=none) (f:=1048576) c hw rfl hk (by omega) ⟨cj _,cj _,(λz h=>nomatch h),hl,hv⟩
  induction r with
 |met w l' H' ve fP e t hw hn=>exact .met w ve H' (af rfl rfl (aV (j5 rfl rfl nF) (gL (fB e)))) ⟨t.host,t.vals,t.log,t.ref,t.rk,t.n3⟩ ⟨t.len,t.off⟩ hw hn
 |eK l' H' ve fP e t=>exact .eK H' (af rfl rfl (aV (j5 rfl rfl nF) (ak (fB e) rfl))) ⟨t.host,t.vals,t.log,t.ref,t.rk,t.n3⟩ ⟨t.len,t.off⟩
 |ed l' H' ve fP e t=>exact .ed H' (af rfl rfl (aV (j5 rfl rfl nF) (gL (fB e)))) ⟨t.host,t.vals,t.log,t.ref,t.rk,t.n3⟩ ⟨t.len,t.off⟩
noncomputable def bM:List MS:=[(.asg (.tup [(.loc 5),(.loc 6)]) (.bp (.new 3 [(.loc 1),(.loc 3)]) 108 [(.loc 0),(.loc 4)])),(.ay (.cmp .eq (.loc 5) (.glob (.int 0))) [(.ret (.tup [(.loc 4),(.attr (.loc 6) 2),(.call (.glob (.fn 57)) [(.attr (.loc 6) 3)])]))] []),(.ay (.cmp .eq (.loc 5) (.glob (.int 2))) [(.ret (.lit .none))] [])]
theorem Ux{an x5 x6:Option V}{b:Nat}{H1 H2:Hp}(e1:ae (au own) (d+8) 48 [.loc H.length,.str s,.loc h] (H++[.inst 3 []])=some (.none,H1))(hm:H1[H.length]?=some (dQ s h q))(e2:ae (au own) (d+8) 49 [.loc H.length,.loc o,.int b] H1=some (.tup [.int 1,.none],H2)) :
  aQ (au own) (ae (au own) (d+8)) bM [some (.loc o),some (.str s),an,some (.loc h),some (.int b),x5,x6] H=some (.next,[some (.loc o),some (.str s),an,some (.loc h),some (.int b),some (.int 1),some .none],H2):=
 ak (bl (aY (j5 rfl rfl e1) (by solve_by_elim [ai,aw,aa,ag,aE,aK,cR]) rfl rfl rfl e2) rfl) rfl
theorem Uy{an x5 x6:Option V}{b:Nat}{H1 H2:Hp}(e1:ae (au own) (d+8) 48 [.loc H.length,.str s,.loc h] (H++[.inst 3 []])=some (.none,H1))(hm:H1[H.length]?=some (dQ s h q))(e2:ae (au own) (d+8) 49 [.loc H.length,.loc o,.int b] H1=some (.tup [.int 2,.none],H2)) :
  aQ (au own) (ae (au own) (d+8)) bM [some (.loc o),some (.str s),an,some (.loc h),some (.int b),x5,x6] H=some (.ret .none,[some (.loc o),some (.str s),an,some (.loc h),some (.int b),some (.int 2),some .none],H2):=
 ak (bl (aY (j5 rfl rfl e1) (by solve_by_elim [ai,aw,aa,ag,aE,aK,cR]) rfl rfl rfl e2) rfl) rfl
theorem Uz{an x5 x6:Option V}{b a pc o2:Nat}{nm:Nm}{mk ca:V}{H1 H2:Hp}(hl:nm.length<1000000)(e1:ae (au own) (d+8) 48 [.loc H.length,.str s,.loc h] (H++[.inst 3 []])=some (.none,H1))(hm:H1[H.length]?=some (dQ s h q))(e2:ae (au own) (d+8) 49 [.loc H.length,.loc o,.int b] H1=some (.tup [.int 0,.loc wl],H2))(hw:H2[wl]?=some (bL o2 pc a (kK nm) mk ca)) :
  ∃ l,aQ (au own) (ae (au own) (d+8)) bM [some (.loc o),some (.str s),an,some (.loc h),some (.int b),x5,x6] H=some (.ret (.tup [.int b,.int a,.loc H2.length]),l,H2++[.list (qp nm.reverse)]):=
 ⟨_,ak (bl (aY (j5 rfl rfl e1) (by solve_by_elim [ai,aw,aa,ag,aE,aK,cR]) rfl rfl rfl e2) rfl) (aU rfl (az (dm (aX rfl (cF (aJ rfl (by exact aD (by solve_by_elim [ai,aw,aa,ag,aE,aK,cR]) rfl)) (aG (b8 (aJ rfl (by exact aD (by solve_by_elim [ai,aw,aa,ag,aE,aK,cR]) rfl))) (KY hl)))))))⟩
inductive Mo(kp:Nat->Option (List Nat))(s:List Nat)(Os:List Od):Nat->Nat->Hs->Nat->Option (Nat×Nat×Nm)->Hs->Nat->Prop where
 |z {b σ k}:Mo kp s Os 0 b σ k none σ k
 |met {c b σ k w τ k'}:Rn kp s ⟨Os,0,b,[],[],[]⟩ [] σ k (.met w) τ k'->Mo kp s Os (c+1) b σ k (some (b,w.a,w.nm.reverse)) τ k'
 |ed {c b σ k τ k'}:Rn kp s ⟨Os,0,b,[],[],[]⟩ [] σ k .ed τ k'->Mo kp s Os (c+1) b σ k none τ k'
 |eK {c b σ k τ k1 R υ k'}:Rn kp s ⟨Os,0,b,[],[],[]⟩ [] σ k .eK τ k1->Mo kp s Os c (b+1) τ k1 R υ k'->Mo kp s Os (c+1) b σ k R υ k'
theorem Mo.mono{Os:List Od}{c b:Nat}{R:Option (Nat×Nat×Nm)}(T:Mo kp s Os c b σ k R τ k'):k<=k':=by
  induction T with
 |z=>exact aC _
 |met T=>exact lL T.mono
 |ed T=>exact lL T.mono
 |eK T _ ih=>exact bj (lL T.mono) ih
theorem Rn.grow{w:CW}{L:List (Option CW)}{R:js}(hK:∀ q key,kp q=some key->key∈K)(T:Rn kp s w L σ k R τ k'):τ.log.length+k<=σ.log.length+k':=by
  induction T with
 |go e X T ih=>have:=(X.facts hK).g;exact nt (am [_,_,_,_,_] (.d (.a ab (.s ac)) (.a ar aA) (.d ar (.s bH) (.d (.s (.a bH aA)) (.a ab ac) .z))) rfl ih this)
 |pop e X T ih=>exact nt (am [_,_,_,_] (.d (.a ab (.s ac)) (.a ar aA) (.d (.s (.a ar aA)) (.a ab ac) .z)) rfl ih)
 |_=>exact nt (am [_,_] (.d (.s (.a ab (.s ac))) (.a ab ac) .z) rfl)
theorem Rn.kd{w:CW}{L:List (Option CW)}{R:js}(hK:∀ q key,kp q=some key->key∈K)(T:Rn kp s w L σ k R τ k'):Kd K σ.vals->Kd K τ.vals:=by
  induction T with
 |go e X T ih=>exact λh=>ih ((X.facts hK).v h)
 |pop e X T ih=>exact ih
 |_=>exact id
theorem zp(hC:∀ t H,o6 own d t H)(g:Rg kp K s m j){Os:List Od}{c b:Nat}{R:Option (Nat×Nat×Nm)}(T:Mo kp s Os c b σ k R τ k'):∀{f:Nat}{H:Hp}{an x y z:Option V},c<f->HX kp h va rf lg m k σ H->H[o]?=some (.list (Os.map oV))->o≠lg->(k':Int)<=m->σ.log.length<=j+k->Kd K σ.vals ->
    Dz own d H.length (dF (.one 4) (λl H=>aQ (au own) (ae (au own) (d+8)) bM l H) f (.cm b 1 c) [some (.loc o),some (.str s),an,some (.loc h),x,y,z] H) H kp h va rf lg m k' τ R:=by
  have hm:=g.g.hm
  have start:∀{b:Nat}{σ:Hs}{k k1:Nat}{R:js}{τ:Hs}{H:Hp},Rn kp s ⟨Os,0,b,[],[],[]⟩ [] σ k R τ k1->(k1:Int)<=m->HX kp h va rf lg m k σ H->H[o]?=some (.list (Os.map oV))->o≠lg->σ.log.length<=j+k->Kd K σ.vals ->
     BF own d kp H H.length o b (H.length+1) h va rf lg m τ k1 ((H++[O.inst 3 [(6,.str s),(7,.loc h)]]++[O.list []]).set H.length (dQ s h (H.length+1))) R:=λ{b σ k k1 R τ H} T hk hx ho ol hl hv=>by
    have o7:((H++[O.inst 3 [(6,.str s),(7,.loc h)]]++[O.list []]).set H.length (dQ s h (H.length+1))).length=H.length+2:=by rw[dB,aH,aH];rfl
    have g0:∀ i x,H[i]?=some x->((H++[O.inst 3 [(6,.str s),(7,.loc h)]]++[O.list []]).set H.length (dQ s h (H.length+1)))[i]?=some x:=λi x hx=>aa (aK hx) (ag (ag hx))
    have hq:((H++[O.inst 3 [(6,.str s),(7,.loc h)]]++[O.list []]).set H.length (dQ s h (H.length+1)))[H.length+1]?=some (.list []):=by
     refine aa (by exact dt (nl (am [_] (.d (.s ab) ab .z) rfl))) ?_
     have:=ai (H:=H++[O.inst 3 [(6,.str s),(7,.loc h)]]) (x:=O.list [])
     rw[aH] at this;exact this
    have e1:=cv ho
    have e2:=cv hx.log
    have e3:=cv hx.ref
    exact N5 hC g hk T ⟨g0 _ _ hx.host,g0 _ _ hx.vals,g0 _ _ hx.log,g0 _ _ hx.ref,λr key e=>g0 _ _ (hx.rk r key e),hx.n3⟩ (aw (ag ai)) hq (g0 _ _ ho) hl hv (by exact nt (am [_,_] (.d (.a ab (.n 2)) ac (.d (.s ac) ab .z)) rfl (bk (bV o7)))) (λi h1 _ _ _=>(iR (df h1)).trans ((dh (by rw[aH];exact wy h1)).trans (dh h1))) (by exact dt (nl (am [_,_] (.d (.s ab) ac (.d (.s ac) ab .z)) rfl e1))) ol (by exact nt (am [_] (.d (.s (.s ab)) ab .z) rfl)) (by exact df (nl (am [_,_] (.d (.s ab) ac (.d (.s ac) ab .z)) rfl e2))) (by exact df (nl (am [_,_] (.d (.s ab) ac (.d (.s ac) ab .z)) rfl e3)))
  have mt:∀{H:Hp},((H++[O.inst 3 [(6,.str s),(7,.loc h)]]++[O.list []]).set H.length (dQ s h (H.length+1)))[H.length]?=some (dQ s h (H.length+1)):=aw (ag ai)
  induction T with
 |z=>
    intro f H an x y z hf hx ho ol hk hl hv
    exact .HM _ H (Fm hf rfl) hx (.refl H) rfl
 |met T=>
    intro f H an x y z hf hx ho ol hk hl hv
    have r:=start T hk hx ho ol hl hv
    cases r with
   |met w wl H' e x' o' hw hn=>
     obtain⟨o2,ca,eP,_,_,_,_⟩:=hw
     obtain⟨l,e4⟩:=Uz (own:=own) (d:=d) (an:=an) (x5:=y) (x6:=z) (by omega) rz mt e eP
     exact .ret _ l _ (s6 (ix (cj _) hf) rfl rfl e4) (x'.app _) (o'.trans (.app _)) ⟨_,rfl,ai,o'.len⟩
 |ed T=>
    intro f H an x y z hf hx ho ol hk hl hv
    have r:=start T hk hx ho ol hl hv
    cases r with
   |ed H' e x' o'=>exact .ret _ _ _ (s6 (ix (cj _) hf) rfl rfl (Uy rz mt e)) x' o' rfl
 |@eK c b σ k τ k1 R υ k' T M ih=>
    intro f H an x y z hf hx ho ol hk hl hv
    have j8:=M.mono
    have hg:=T.grow g.g.hK
    have r:=start T (by omega) hx ho ol hl hv
    cases r with
   |eK H' e x' o'=>
     exact(ih (f:=f-1) (an:=an) (x:=some (.int b)) (y:=some (.int 1)) (z:=some .none) (Nat.lt_sub_of_add_lt hf) x' ((o'.off o (cv ho) (ba ho hx.host (λe=>by cases e)) (ba ho hx.vals (λe=>by cases e)) ol).trans ho) ol hk (by exact nt (am [_,_,_,_,_] (.d ab (.a ac ar) (.d (.a aA ar) (.a ab bH) (.d (.s (.a ac bH)) aA .z))) rfl hl hg)) (T.kd g.g.hK hv)).pre o'.len (By (ix (cj _) hf) rfl rfl (Ux rz mt e) rfl) o'
theorem DF(hC:∀ t H,o6 own d t H)(g:Rg kp K s m j){Os:List Od}{an:Bool}{R:Option (Nat×Nat×Nm)}(x:HX kp h va rf lg m k σ H)(ho:H[o]?=some (.list (Os.map oV)))(ol:o≠lg)(T:Mo kp s Os (cnt an s) 0 σ k R τ k')(hk:(k':Int)<=m)(hl:σ.log.length<=j+k)(hv:Kd K σ.vals) :
   Ca (au own) (d+9) 58 [.loc o,.str s,.bool an,.loc h] H kp h va rf lg m k' τ (λH' v=>R3 H.length H' R v):=by
  have hc:=Fp an g.g
  have q:=zp (own:=own) (d:=d) hC g T (f:=1048576) (an:=some (.bool an)) (x:=none) (y:=none) (z:=none) (by exact nl (am [_] (.d ab (.n 1000) (.d (.n 1048576) ab .z)) rfl hc)) x ho ol hk hl hv
  have e0:∀{q:SR},dF (.one 4) (λl H=>aQ (au own) (ae (au own) (d+8)) bM l H) 1048576 (.cm (0:Nat) 1 (cnt an s)) [some (.loc o),some (.str s),some (.bool an),some (.loc h),none,none,none] H=q->dD (au own) (ae (au own) (d+8)) (.for (.one 4) (.prim .range [.ay (.loc 2) (.lit (.int 1)) (.bin .add (.prim .len [.loc 1]) (.lit (.int 1)))]) bM) [some (.loc o),some (.str s),some (.bool an),some (.loc h),none,none,none] H=q:=λ{q} hq=>
   fA (aT (b8 (Fo rfl rfl)) (re (by omega))) (Dw (by decide) (by omega) rfl) (by rw[BA];exact hq)
  induction q with
 |ret v l H' e x o r=>exact⟨v,H',af rfl rfl (gL (e0 e)),x,o,r⟩
 |HM l H' e x o r=>subst r;exact⟨.none,H',af rfl rfl (ak (e0 e) rfl),x,o,rfl⟩
end
theorem kL{H:Hp}{n k:Nat}{ls ms:List V}(h:H[n]?=some (.list ls))(h2:H[k]?=some (.list ms))(bn:n≠k)(hl:ls.length+ms.length<lim):qK .extend (.loc n) [.loc k] H=some (.none,H.set n (.list (ls++ms))):=
 (cb h).trans ((cb h2).trans (dZ ⟨bn,hl⟩))
section
variable {own:List FI}{d:Nat}{H:Hp}{f w co ol wl e e1:Nat}{X W L:List V}{a b c v:V}{y y2:Option V}{kd kx:List Nat}
noncomputable def KZ:ME:=(.cmp .gt (.prim .len [(.loc 3)]) (.lit (.int 0)))
noncomputable def K0:List MS:=[(.asg (.loc 4) (.aS (.loc 3) .pop [])),(.ay (.cmp .eq (.idx (.loc 4) (.lit (.int 0))) (.loc 1)) [(.expr (.aS (.loc 3) .extend [(.lst [(.idx (.loc 4) (.lit (.int 2))),(.idx (.loc 4) (.lit (.int 1)))])]))] [(.expr (.aS (.loc 2) .append [(.loc 4)]))])]
noncomputable abbrev BG(nd:V)(kd:List Nat)(f w:Nat)(y:Option V):Lo:=[some nd,some (.str kd),some (.loc f),some (.loc w),y]
theorem DG{nd:V}{kx:List Nat}(hw:H[w]?=some (.list (W++[.tup [.str kx,a,b]])))(hk:(kx==kd)=true)(hl:W.length+2<lim):aQ (au own) (ae (au own) d) K0 (BG nd kd f w y) H=some (.next,BG nd kd f w (some (.tup [.str kx,a,b])),(H.set w (O.list W)++[O.list [b,a]]).set w (O.list (W++[b,a]))):=
 ak (bl (cn rfl (aZ (by solve_by_elim [ai,aw,aa,ag,aE,aK,cR]) rfl) aW (ll hw)) gb) (ak (bQ (aq rfl rfl (bu hk)) (fp (cn rfl (aZ (aw hw) rfl) (b8 (aN rfl)) (kL (ag (aw hw)) ai (aE (aw hw)) hl)))) aL)
theorem HY{nd:V}{kx:List Nat}{r:List V}(hw:H[w]?=some (.list (W++[.tup (.str kx::r)])))(hf:H[f]?=some (.list X))(bn:w≠f)(hk:(kx==kd)=false)(hl:X.length<lim):aQ (au own) (ae (au own) d) K0 (BG nd kd f w y) H=some (.next,BG nd kd f w (some (.tup (.str kx::r))),(H.set w (.list W)).set f (.list (X++[.tup (.str kx::r)]))):=
 ak (bl (cn rfl (aZ (by solve_by_elim [ai,aw,aa,ag,aE,aK,cR]) rfl) aW (ll hw)) gb) (ak (cu (aq rfl rfl (bu hk)) (fp (cn rfl (aZ (by solve_by_elim [ai,aw,aa,ag,aE,aK,cR]) rfl) rfl (bY (by solve_by_elim [ai,aw,aa,ag,aE,aK,cR]) hl)))) aL)
theorem Fv{nd:V}(hw:H[w]?=some (.list (W++[v]))):av (au own) (ae (au own) d) KZ (BG nd kd f w y) H=some (.bool true,H):=
 aq (aT rfl (dq hw)) aj (gM (by rw[aH];exact n8.mpr (jz _)))
theorem N6{nd:V}(hw:H[w]?=some (.list [])):av (au own) (ae (au own) d) KZ (BG nd kd f w y) H=some (.bool false,H):=
 aq (aT rfl (dq hw)) aj (by rfl)
theorem eQ(hc:H[co]?=some (.inst 0 [(0,.loc ol)]))(ho:H[ol]?=some (.list X))(bn:co≠ol)(hl:X.length<lim):ae (au own) (d+1) 4 [.loc co,v] H=some (.int X.length,H.set ol (.list (X++[v]))):=
 af rfl rfl (mQ (cn (aJ rfl (by exact aD (by solve_by_elim [ai,aw,aa,ag,aE,aK,cR]) rfl)) (aZ (by solve_by_elim [ai,aw,aa,ag,aE,aK,cR]) rfl) rfl (bY ho hl)) (az (cA (aT (b8 (aJ rfl (by exact aD (by solve_by_elim [ai,aw,aa,ag,aE,aK,cR]) rfl))) (dq (aw ho))) aj (by rw[aH];show some (V.int ((X.length+1:Nat)-1),_)=_;rw[show((X.length+1:Nat):Int)-1=X.length by omega]))))
noncomputable abbrev K1(e:Nat):V:=.tup [.str [111,112,101,110],.loc e]
noncomputable abbrev K3(e:Nat):V:=.tup [.str [115,104,117,116],.loc e]
noncomputable abbrev xE(e:Nat):V:=.tup [.str [109,101,101,116],.loc e]
noncomputable abbrev iU(v:V):V:=.tup [.str [112,117,116],v]
noncomputable abbrev xF(v:V):V:=.tup [.str [101,109,105,116],v]
theorem BH(hc:H[co]?=some (.inst 0 [(0,.loc ol)]))(ho:H[ol]?=some (.list X))(bn:co≠ol)(hl:X.length<lim)(he:H[e]?=some (.list [v,.loc e1]))(K4:ol≠e):ae (au own) (d+2) 9 [.loc co,.str [111,112,101,110],.loc e] H=some (.none,(H.set ol (.list (X++[.none]))).set e (.list [.int X.length,.loc e1])):=
 em rfl rfl (ak (bQ rfl (ak (bl (aY rfl (by solve_by_elim [ai,aw,aa,ag,aE,aK,cR]) rfl rfl rfl (eQ hc ho bn hl)) (lk rfl aj (nB (aa K4 he) ⟨Int.le_refl _,jz _⟩))) aL)) aL)
theorem BI{p:Nat}(hc:H[co]?=some (.inst 0 [(0,.loc ol)]))(ho:H[ol]?=some (.list X))(bn:co≠ol)(hl:X.length<lim)(he:H[e]?=some (.list [.int p,.loc e1]))(kM:H[e1]?=some (.list L))(K4:ol≠e)(vh:ol≠e1)(R8:e1≠e)(UA:e1≠co)(hL:L.length<lim)(hp:p<X.length):ae (au own) (d+2) 9 [.loc co,.str [115,104,117,116],.loc e] H=some (.none,((H.set ol (.list (X++[.none]))).set e1 (.list (L++[.int X.length]))).set ol (O.list ((X++[V.none]).set p (oV (.split (X.length+1)))))):=
 em rfl rfl (ak (cu rfl (ak (bQ rfl (mQ (cn (bc rfl aj (cQ he rfl)) (aZ kM rfl) (b8 (aY rfl (by solve_by_elim [ai,aw,aa,ag,aE,aK,cR]) rfl rfl rfl (eQ hc ho bn hl))) (bY (aa vh kM) hL)) (ak (bl (dm (cF bz (aT (b8 (aJ rfl (aD (aa UA (aa bn.symm hc)) rfl))) (dq (aa vh.symm (aw ho)))))) (lk (aJ rfl (aD (aa UA (aa bn.symm hc)) rfl)) (bc rfl aj (cQ (aa R8 (aa K4 he)) rfl)) ((nB (aa vh.symm (aw ho)) ⟨n9 _,by rw[aH];exact wy hp⟩).trans (by rw[aH];rfl)))) aL))) aL)) aL)
end
noncomputable def zq(k:Bool):List Nat:=bif k then [99,97,116] else [97,108,116]
noncomputable def aP(k:Bool):Nd->List Nd
 |.al a b=>bif k then [.al a b] else aP k a++aP k b
 |.ca a b=>bif k then aP k a++aP k b else [.ca a b]
 |n=>[n]
noncomputable def sz:Nd->Nat
 |.al a b=>sz a+sz b+1
 |.ca a b=>sz a+sz b+1
 |.rp n=>sz n+1
 |.nw n _=>sz n+1
 |_=>1
theorem Fw{a b}:sz (.al a b)=sz a+sz b+1:=rfl
theorem Fy{a b}:sz (.ca a b)=sz a+sz b+1:=rfl
structure RS(H0:Hp)(f w:Nat)(X W:List V)(H:Hp):Prop where
 found:H[f]?=some (.list X)
 wait:H[w]?=some (.list W)
 len:H0.length<=H.length
 off:∀ i,i<H0.length->H[i]?=H0[i]?
 R9:H0.length<=f
 zo:H0.length<=w
 ne:w≠f
section
variable {own:List FI}{d:Nat}{H H0:Hp}{f w:Nat}{X W:List V}
noncomputable abbrev Pe(own:List FI)(d F:Nat)(nd:V)(kd:List Nat)(f w:Nat)(y:Option V)(H:Hp):SR:=dj (av (au own) (ae (au own) d) KZ) (aQ (au own) (ae (au own) d) K0) F (BG nd kd f w y) H
inductive rA(own:List FI)(d:Nat)(nd:V)(kd:List Nat)(H0:Hp)(f w:Nat)(X' W:List V)(J:Nat)(y:Option V)(H:Hp):Prop where
 |mk (j:Nat) (y':Option V) (H':Hp) (hj:j<=J) (t:RS H0 f w X' W H') (e:∀ F q,Pe own d F nd kd f w y' H'=q->Pe own d (j+F) nd kd f w y H=q):rA own d nd kd H0 f w X' W J y H
theorem ft{nd:V}{kd kx:List Nat}{r:List V}{y:Option V}(t:RS H0 f w X (W++[.tup (.str kx::r)]) H)(hk:(kx==kd)=false)(hl:X.length<lim):rA own d nd kd H0 f w (X++[.tup (.str kx::r)]) W 1 y H:=
 ⟨1,_,_,aC _,⟨aw (aa t.ne t.found),aa t.ne.symm (aw t.wait),by rw[dB,dB];exact t.len,λi h=>(iR (df (dM h t.R9))).trans ((iR (df (dM h t.zo))).trans (t.off i h)),t.R9,t.zo,t.ne⟩,λF q e=>by
  rw[kh 1 F];exact fV (Fv t.wait) (HY t.wait t.found t.ne hk hl) e⟩
theorem BJ{nd:V}{kd kx:List Nat}{a b:Nd}{y:Option V}{A B:List Nd}{ja jb:Nat}(t:RS H0 f w X (W++[.tup [.str kx,nV a,nV b]]) H)(hk:(kx==kd)=true)(hl:W.length+2<lim)
  (ha:∀{X W y H},RS H0 f w X (W++[nV a]) H->X.length+W.length+2*sz a<lim->rA own d nd kd H0 f w (X++A.map nV) W ja y H)
  (hb:∀{X W y H},RS H0 f w X (W++[nV b]) H->X.length+W.length+2*sz b<lim->rA own d nd kd H0 f w (X++B.map nV) W jb y H)
  (h1:X.length+(W.length+1)+2*sz a<lim) (h2:X.length+A.length+W.length+2*sz b<lim):rA own d nd kd H0 f w (X++(A++B).map nV) W (ja+jb+1) y H:=by
 have t1:RS H0 f w X (W++[nV b]++[nV a]) ((H.set w (O.list W)++[O.list [nV b,nV a]]).set w (O.list (W++[nV b,nV a]))):=
  ⟨aa t.ne (ag (aa t.ne t.found)),by rw[bZ];exact aw (ag (aw t.wait)),by rw[dB,aH,dB];exact zR t.len,λi h=>(iR (df (dM h t.zo))).trans ((dh (by rw[dB];exact dM h t.len)).trans ((iR (df (dM h t.zo))).trans (t.off i h))),t.R9,t.zo,t.ne⟩
 obtain⟨i,y1,H1,hi,g1,e1⟩:=ha (y:=some (.tup [.str kx,nV a,nV b])) t1 (by rw[aH];exact h1)
 obtain⟨j,y2,H2,hj,g2,e2⟩:=hb (y:=y1) g1 (by rw[aH,cT];exact h2)
 refine⟨i+j+1,y2,H2,by exact nt (am [_,_,_,_] (.d ab ac (.d ar aA (.d (.s (.s (.a ac aA))) (.s (.a ab ar)) .z))) rfl hi hj),by rw[lK,← bZ];exact g2,λF q e=>?_⟩
 rw[show i+j+1+F=i+(j+F)+1 by exact kS [_,_,_] (.a (.s (.a ab ac)) ar) (.s (.a ab (.a ac ar))) rfl]
 exact fV (Fv t.wait) (DG t.wait hk hl) (e1 _ _ (e2 _ _ e))
theorem fE(k:Bool):∀ n,(aP k n).length<=sz n
 |.sg _=>aC _
 |.cg=>aC _
 |.eU=>aC _
 |.fail=>aC _
 |.rp n=>fJ _ _
 |.nw n q=>fJ _ _
 |.al a b=>by
  have ha:=fE k a
  have hb:=fE k b
  cases k
  ·show(_++_:List Nd).length<=_+1
   rw[aH];exact nt (am [_,_,_,_] (.d ab ac (.d ar aA (.d (.s (.s (.a ac aA))) (.a ab ar) .z))) rfl ha hb)
  ·exact fJ _ _
 |.ca a b=>by
  have ha:=fE k a
  have hb:=fE k b
  cases k
  ·exact fJ _ _
  ·show(_++_:List Nd).length<=_+1
   rw[aH];exact nt (am [_,_,_,_] (.d ab ac (.d ar aA (.d (.s (.s (.a ac aA))) (.a ab ar) .z))) rfl ha hb)
theorem kO{nd:V}(k:Bool):∀(n:Nd){X W:List V}{y:Option V}{H:Hp},RS H0 f w X (W++[nV n]) H->X.length+W.length+2*sz n<lim->rA own d nd (zq k) H0 f w (X++(aP k n).map nV) W (sz n) y H
 |.sg x,X,W,y,H,t,hl=>ft t (by induction x <;> induction k <;> rfl) (by exact nl (am [_,_,_,_] (.d (.s (.a (.a ab ac) (.m 2 ar))) aA (.d aA ab .z)) rfl hl))
 |.cg,X,W,y,H,t,hl=>ft t (by induction k <;> rfl) (by exact nl (am [_,_,_,_] (.d (.s (.a (.a ab ac) (.m 2 ar))) aA (.d aA ab .z)) rfl hl))
 |.eU,X,W,y,H,t,hl=>ft t (by induction k <;> rfl) (by exact nl (am [_,_,_,_] (.d (.s (.a (.a ab ac) (.m 2 ar))) aA (.d aA ab .z)) rfl hl))
 |.fail,X,W,y,H,t,hl=>ft t (by induction k <;> rfl) (by exact nl (am [_,_,_,_] (.d (.s (.a (.a ab ac) (.m 2 ar))) aA (.d aA ab .z)) rfl hl))
 |.rp n,X,W,y,H,t,hl=>by
  obtain⟨j,y',H',hj,g,e⟩:=ft (own:=own) (d:=d) (nd:=nd) (kd:=zq k) (y:=y) t (by induction k <;> rfl) (by exact nl (am [_,_,_,_] (.d (.s (.a (.a ab ac) (.m 2 ar))) aA (.d aA ab .z)) rfl hl))
  exact⟨j,y',H',bj hj (fJ _ _),g,e⟩
 |.nw n q,X,W,y,H,t,hl=>by
  obtain⟨j,y',H',hj,g,e⟩:=ft (own:=own) (d:=d) (nd:=nd) (kd:=zq k) (y:=y) t (by induction k <;> rfl) (by exact nl (am [_,_,_,_] (.d (.s (.a (.a ab ac) (.m 2 ar))) aA (.d aA ab .z)) rfl hl))
  exact⟨j,y',H',bj hj (fJ _ _),g,e⟩
 |.al a b,X,W,y,H,t,hl=>by
  rw[Fw] at hl
  have Sa:=fE k a
  cases k
  ·exact BJ (kd:=zq false) (A:=aP false a) (B:=aP false b) t rfl (by exact nl (am [_,_,_,_,_] (.d (.s (.a (.a ab ac) (.m 2 (.s (.a ar aA))))) bH (.d bH (.a ac (.n 2)) .z)) rfl hl)) (kO false a) (kO false b) (by exact nl (am [_,_,_,_,_] (.d (.s (.a (.a ab ac) (.m 2 (.s (.a ar aA))))) bH (.d bH (.a (.a ab (.s ac)) (.m 2 ar)) .z)) rfl hl)) (by exact nl (am [_,_,_,_,_,_] (.d (.s (.a (.a ab ac) (.m 2 (.s (.a ar aA))))) bH (.d iK ar (.d bH (.a (.a (.a ab iK) ac) (.m 2 aA)) .z))) rfl hl Sa))
  ·obtain⟨j,y',H',hj,g,e⟩:=ft (own:=own) (d:=d) (nd:=nd) (kd:=zq true) (y:=y) t rfl (by exact nl (am [_,_,_,_,_] (.d (.s (.a (.a ab ac) (.m 2 (.s (.a ar aA))))) bH (.d bH ab .z)) rfl hl))
   exact⟨j,y',H',bj hj (fJ _ _),g,e⟩
 |.ca a b,X,W,y,H,t,hl=>by
  rw[Fy] at hl
  have Sa:=fE k a
  cases k
  ·obtain⟨j,y',H',hj,g,e⟩:=ft (own:=own) (d:=d) (nd:=nd) (kd:=zq false) (y:=y) t rfl (by exact nl (am [_,_,_,_,_] (.d (.s (.a (.a ab ac) (.m 2 (.s (.a ar aA))))) bH (.d bH ab .z)) rfl hl))
   exact⟨j,y',H',bj hj (fJ _ _),g,e⟩
  ·exact BJ (kd:=zq true) (A:=aP true a) (B:=aP true b) t rfl (by exact nl (am [_,_,_,_,_] (.d (.s (.a (.a ab ac) (.m 2 (.s (.a ar aA))))) bH (.d bH (.a ac (.n 2)) .z)) rfl hl)) (kO true a) (kO true b) (by exact nl (am [_,_,_,_,_] (.d (.s (.a (.a ab ac) (.m 2 (.s (.a ar aA))))) bH (.d bH (.a (.a ab (.s ac)) (.m 2 ar)) .z)) rfl hl)) (by exact nl (am [_,_,_,_,_,_] (.d (.s (.a (.a ab ac) (.m 2 (.s (.a ar aA))))) bH (.d iK ar (.d bH (.a (.a (.a ab iK) ac) (.m 2 aA)) .z))) rfl hl Sa))
structure Gr(H H':Hp):Prop where
 len:H.length<=H'.length
 off:∀ i,i<H.length->H'[i]?=H[i]?
theorem Gr.refl(H:Hp):Gr H H:=⟨aC _,λ_ _=>rfl⟩
theorem Gr.trans{H H1 H2:Hp}(a:Gr H H1)(b:Gr H1 H2):Gr H H2:=⟨bj a.len b.len,λi h=>(b.off i (dM h a.len)).trans (a.off i h)⟩
theorem Gr.at{H H1:Hp}(a:Gr H H1){i:Nat}{x:O}(h:H[i]?=some x):H1[i]?=some x:=(a.off i (cv h)).trans h
theorem Gr.app(H:Hp)(x:Hp):Gr H (H++x):=⟨by rw[aH];exact cC _ _,λi h=>dh h⟩
theorem xG(k:Bool)(n:Nd)(hn:sz n<1000){zg:Prop}(zk:∀ H',(ae (au own) (d+1) 0 [nV n,.str (zq k)] H=some (.loc H.length,H'))->(Gr H H')->(H'[H.length]?=some (.list ((aP k n).map nV)))->zg):zg:=by
 have t:RS H H.length (H.length+1) [] ([]++[nV n]) (H++[.list []]++[.list [nV n]]):=
  ⟨ag ai,by have:=ai (H:=H++[.list []]) (x:=.list [nV n]);rw[aH] at this;exact this,by rw[bZ,aH];exact cC _ _,λi h=>by rw[bZ];exact dh h,aC _,eX _,Nat.succ_ne_self _⟩
 obtain⟨j,y',H',hj,g,e⟩:=kO (own:=own) (d:=d) (nd:=nV n) k n (y:=none) t (by simp only[List.length_nil];unfold lim;exact nl (am [_] (.c 2 (.s ab) (.n 1000) (.d (.n 1048576) (.a (.a (.n 0) (.n 0)) (.m 2 ab)) .z)) rfl hn))
 obtain⟨F,hF⟩:∃ F,1048576=j+(F+1):=⟨1048575-j,by omega⟩
 have e2:=e (F+1) _ (gc (N6 g.wait))
 rw[← hF] at e2
 have hl:(H++[O.list []]).length=H.length+1:=by rw[aH];rfl
 exact zk H' (af rfl rfl (ak (bl (dm (cF (aN aW) (aN rfl))) rfl) (ak (fB (show _=some (Fl.next,BG (nV n) (zq k) H.length (H.length+1) y',H') from(by rw[hl];exact e2))) rfl))) (⟨g.len,g.off⟩) g.found
end
theorem kP{α σ:Type}{g:α->V}{body:Lo->Hp->SR}{k pl:Nat}{parts:List V}(st:σ->α->σ)(I:σ->Lo->Hp->Prop)(P:σ->List α->Prop)
  (hI:∀ s l H,I s l H->H[pl]?=some (.list parts))
  (hb:∀ s a r l H,I s l H->P s (a::r)->∃ fl l' H',(fl=Fl.next\/fl=Fl.cont)/\body (l.set k (some (g a))) H=some (fl,l',H')/\I (st s a) l' H'/\P (st s a) r) :
  ∀(ps:List α)(i f:Nat)(s:σ)(l:Lo)(H:Hp),(∀ j,parts[i+j]?=(ps.map g)[j]?)->ps.length<f->I s l H->P s ps->∃ l' H',dF (.one k) body f (.lst pl i) l H=some (.next,l',H')/\I (ps.foldl st s) l' H'
 |[],i,f+1,s,l,H,hp,_,h1,_=>⟨l,H,lu (i2 (hI _ _ _ h1) (hp 0)),h1⟩
 |a::r,i,f+1,s,l,H,hp,hf,h1,h2=>by
  obtain⟨fl,l',H',Rs,e,h3,h4⟩:=hb s a r l H h1 h2
  obtain⟨l2,H2,e2,h5⟩:=kP st I P hI hb r (i+1) f (st s a) l' H' (λj=>by rw[dU,kh 1 j];exact hp (j+1)) (iz hf) h3 h4
  refine⟨l2,H2,?_,h5⟩
  rcases Rs with rfl|rfl
  ·exact jo (j6 (hI _ _ _ h1) (hp 0)) rfl e e2
  ·exact Kg (j6 (hI _ _ _ h1) (hp 0)) rfl e e2
noncomputable def gP:Nd->Bool
 |.sg (.ch _)=>true
 |_=>false
noncomputable def jR(r:List Nd):Nd->List Nd
 |.sg (.ch [])=>r
 |.sg (.ch (c::t))=>(match r with|.sg (.ch u)::r'=>.sg (.ch (u++c::t))::r'|r=>.sg (.ch (c::t))::r)
 |n=>n::r
theorem K5(n:Nd):gP n=false\/∃ t,n=.sg (.ch t):=by
  induction n using Nd.casesOn with
 |sg x=>induction x with
   |ch t=>exact .inr ⟨t,rfl⟩
   |_=>exact .inl rfl
 |_=>exact .inl rfl
theorem UB{n:Nd}(h:gP n=false)(r:List Nd):jR r n=n::r:=by
  induction n using Nd.casesOn with
 |sg x=>induction x with
   |ch t=>cases h
   |_=>rfl
 |_=>rfl
theorem UC{z:Nd}(h:gP z=false)(c:Nat)(t:List Nat)(r:List Nd):jR (z::r) (.sg (.ch (c::t)))=.sg (.ch (c::t))::z::r:=by
  induction z using Nd.casesOn with
 |sg x=>induction x with
   |ch t=>cases h
   |_=>rfl
 |_=>rfl
theorem K6{P:List Nd->Nd->List Nd->Prop}(A:∀ r n,gP n=false->P r n (n::r))(B:∀ r,P r (.sg (.ch [])) r)(C:∀ c t,P [] (.sg (.ch (c::t))) [.sg (.ch (c::t))])(D:∀ c t z r,gP z=false->P (z::r) (.sg (.ch (c::t))) (.sg (.ch (c::t))::z::r))(E:∀ c t u r,P (.sg (.ch u)::r) (.sg (.ch (c::t))) (.sg (.ch (u++c::t))::r))(r:List Nd)(n:Nd):P r n (jR r n):=by
 rcases K5 n with h|⟨_|⟨c,t⟩,rfl⟩
 ·rw[UB h];exact A r n h
 ·exact B r
 ·rcases r with _|⟨z,r⟩
  ·exact C c t
  ·rcases K5 z with h|⟨u,rfl⟩
   ·rw[UC h];exact D c t z r h
   ·exact E c t u r
theorem qu{P:List Nd->Nd->List Nd->Prop}(A:∀ r n,P r n (n::r))(B:∀ r,P r (.sg (.ch [])) r)(E:∀ c t u r,P (.sg (.ch u)::r) (.sg (.ch (c::t))) (.sg (.ch (u++c::t))::r))(r:List Nd)(n:Nd):P r n (jR r n):=K6 (λr n _=>A r n) B (λ_ _=>A _ _) (λ_ _ _ _ _=>A _ _) E r n
noncomputable def gm(l:List Nd):List Nd:=(l.foldl jR []).reverse
noncomputable def tx:Nd->Nat
 |.sg (.ch t)=>t.length
 |_=>0
noncomputable def qv:List Nd->Nat
 |[]=>0
 |n::r=>tx n+qv r
theorem Sb{n r}:qv (n::r)=tx n+qv r:=rfl
theorem K7{α:Type}{ls:List α}{v:α}{k:Nat}{j:Int}(hj:j=(k:Int))(h:ls[k]?=some v):fK ls j=some v:=by subst hj;unfold fK;rw[if_pos (n9 k),pq];exact h
theorem vk{α:Type}(Y:List α)(z:α):fK (Y++[z]) (((Y++[z]).length:Int)-1)=some z:=
 K7 (k:=Y.length) (by rw[aH];show((Y.length+1:Nat):Int)-1=_;omega) (by rw[gS (aC _),iu];rfl)
section
variable {own:List FI}{d:Nat}{H:Hp}{f pl:Nat}{X:List V}
theorem plain1(n:Nd):ae (au own) (d+1) 1 [nV n] H=some (.bool (gP n),H):=by
  induction n using Nd.casesOn with
 |sg x=>induction x <;> kernel_rfl
 |_=>kernel_rfl
noncomputable def bJ:List MS:=[(.ay (.call (.glob (.fn 1)) [(.loc 2)]) [(.ay (.cmp .eq (.idx (.loc 2) (.lit (.int 1))) (.lit (.str []))) [.cont] []),(.ay (.and [(.cmp .gt (.prim .len [(.loc 1)]) (.lit (.int 0))),(.call (.glob (.fn 1)) [(.idx (.loc 1) (.bin .sub (.prim .len [(.loc 1)]) (.lit (.int 1))))])]) [(.asg (.loc 2) (.tup [(.lit (.str [99,104,97,114,115])),(.bin .add (.idx (.aS (.loc 1) .pop []) (.lit (.int 1))) (.idx (.loc 2) (.lit (.int 1))))]))] [])] []),(.expr (.aS (.loc 1) .append [(.loc 2)]))]
theorem WF{n:Nd}(hn:gP n=false)(hf:H[f]?=some (.list X))(hl:X.length<lim):aQ (au own) (ae (au own) (d+1)) bJ [some (.loc pl),some (.loc f),some (nV n)] H=some (.next,[some (.loc pl),some (.loc f),some (nV n)],H.set f (.list (X++[nV n]))):=by
 have hz:gP n=false:=hn
 exact ak (cu (aG rfl ((plain1 n).trans (by rw[hn]))) aL) (fp (cn rfl (aZ (by solve_by_elim [ai,aw,aa,ag,aE,aK,cR]) rfl) rfl (bY hf hl)))
theorem WG:aQ (au own) (ae (au own) (d+1)) bJ [some (.loc pl),some (.loc f),some (nV (.sg (.ch [])))] H=some (.cont,[some (.loc pl),some (.loc f),some (nV (.sg (.ch [])))],H):=
 rd (bQ (aG rfl (plain1 (.sg (.ch [])))) (rd (bQ rfl (rd Kf))))
theorem WH{c:Nat}{t:List Nat}(hf:H[f]?=some (.list [])):aQ (au own) (ae (au own) (d+1)) bJ [some (.loc pl),some (.loc f),some (nV (.sg (.ch (c::t))))] H=some (.next,[some (.loc pl),some (.loc f),some (nV (.sg (.ch (c::t))))],H.set f (.list [nV (.sg (.ch (c::t)))])):=
 ak (bQ (aG rfl (plain1 (.sg (.ch (c::t))))) (ak rfl (bx (dO (aq (aT rfl (dq hf)) aj (by rfl))) aL))) (fp (cn rfl (aZ (by solve_by_elim [ai,aw,aa,ag,aE,aK,cR]) rfl) rfl (bY hf (by decide))))
theorem WI{c:Nat}{t:List Nat}{Y:List V}{z:Nd}(hz:gP z=false)(hf:H[f]?=some (.list (Y++[nV z])))(hl:(Y++[nV z]).length<lim):aQ (au own) (ae (au own) (d+1)) bJ [some (.loc pl),some (.loc f),some (nV (.sg (.ch (c::t))))] H=some (.next,[some (.loc pl),some (.loc f),some (nV (.sg (.ch (c::t))))],H.set f (.list (Y++[nV z]++[nV (.sg (.ch (c::t)))]))):=
 ak (bQ (aG rfl (plain1 (.sg (.ch (c::t))))) (ak rfl (bx (dc (aq (aT rfl (dq hf)) aj (gM (by rw[aH];exact n8.mpr (jz _)))) (dO (aG (b8 (bc rfl (cA (aT rfl (dq hf)) aj (by rfl)) (cQ hf (vk Y (nV z))))) ((plain1 z).trans (by rw[hz]))))) aL))) (fp (cn rfl (aZ (by solve_by_elim [ai,aw,aa,ag,aE,aK,cR]) rfl) rfl (bY hf hl)))
theorem WK{c:Nat}{t u:List Nat}{Y:List V}(hf:H[f]?=some (.list (Y++[nV (.sg (.ch u))])))(hl:Y.length<lim)(hu:u.length+(c::t).length<=lim):aQ (au own) (ae (au own) (d+1)) bJ [some (.loc pl),some (.loc f),some (nV (.sg (.ch (c::t))))] H=some (.next,[some (.loc pl),some (.loc f),some (nV (.sg (.ch (u++c::t))))],(H.set f (.list Y)).set f (.list (Y++[nV (.sg (.ch (u++c::t)))]))):=
 ak (bQ (aG rfl (plain1 (.sg (.ch (c::t))))) (ak rfl (ak (bQ (dc (aq (aT rfl (dq hf)) aj (gM (by rw[aH];exact n8.mpr (jz _)))) (dc (aG (b8 (bc rfl (cA (aT rfl (dq hf)) aj (by rfl)) (cQ hf (vk Y (nV (.sg (.ch u))))))) (plain1 (.sg (.ch u)))) i1)) (aV (dm (cF aj (cA (bc (cn rfl (aZ hf rfl) aW (ll hf)) aj (by rfl)) rfl (by exact dZ hu)))) aL)) aL))) (fp (cn rfl (aZ (by solve_by_elim [ai,aw,aa,ag,aE,aK,cR]) rfl) rfl (bY (aw hf) hl)))
structure JI(H0:Hp)(pl f:Nat)(parts:List V)(r:List Nd)(l:Lo)(H:Hp):Prop where
 l:∃ x,l=[some (.loc pl),some (.loc f),x]
 pl:H[pl]?=some (.list parts)
 fo:H[f]?=some (.list (r.reverse.map nV))
 gr:Gr H0 H
theorem Gr.set{H0:Hp}{f:Nat}{x:O}(g:Gr H0 H)(h:H0.length<=f):Gr H0 (H.set f x):=⟨by rw[dB];exact g.len,λi hi=>(iR (df (dM hi h))).trans (g.off i hi)⟩
theorem JI.put{H0:Hp}{parts:List V}{r r':List Nd}{l:Lo}(j:JI H0 pl f parts r l H)(hf:H0.length<=f)(bn:f≠pl){x:Option V}:JI H0 pl f parts r' [some (.loc pl),some (.loc f),x] (H.set f (.list (r'.reverse.map nV))):=
 ⟨⟨_,rfl⟩,aa bn j.pl,aw j.fo,j.gr.set hf⟩
theorem dg{a:Nat}(h:a<100000):a<lim:=mh h (by decide)
noncomputable def JP(r ps:List Nd):Prop:=qv r+qv ps<100000/\r.length+ps.length<100000
theorem i4(n:Nd)(r:List Nd):(n::r).reverse.map nV=r.reverse.map nV++[nV n]:=by rw[eM,du]
theorem JP.cons{r ps:List Nd}{n:Nd}(p:JP r (n::ps)):JP (n::r) ps:=⟨by show tx n+qv r+qv ps<_;rw[kh (tx n),dU];exact p.1,by show r.length+1+ps.length<_;rw[dU,kh 1];exact p.2⟩
theorem JP.skip{r ps:List Nd}{n:Nd}(p:JP r (n::ps)):JP r ps:=⟨ix (jC (fJ _ _) _) p.1,Nat.lt_of_succ_lt p.2⟩
theorem JP.len{r ps:List Nd}(p:JP r ps):(r.reverse.map nV).length<lim:=by rw[cT,jA];exact dg (ix (cC _ _) p.2)
theorem JP.Sc{r ps:List Nd}{z:Nd}(p:JP (z::r) ps):(r.reverse.map nV).length<lim:=by rw[cT,jA];exact dg (ix (bj (eX _) (cC _ _)) p.2)
theorem JP.app{r ps:List Nd}{u t:List Nat}(p:JP (.sg (.ch u)::r) (.sg (.ch t)::ps)):JP (.sg (.ch (u++t))::r) ps:=⟨by
 have h:u.length+qv r+(t.length+qv ps)<100000:=p.1
 show(u++t).length+qv r+qv ps<_
 rw[aH,dU u.length,kh t.length,← dU u.length,dU];exact h,Nat.lt_of_succ_lt p.2⟩
theorem JP.ut{r ps:List Nd}{u t:List Nat}(p:JP (.sg (.ch u)::r) (.sg (.ch t)::ps)):u.length+t.length<=lim:=n6 (dg (ix (i6 (cC _ _) (cC _ _)) p.1))
noncomputable def K8(H0:Hp)(pl f:Nat)(parts:List V)(X:SR)(r ps:List Nd):Prop:=∃ fl l' H',(fl=Fl.next\/fl=Fl.cont)/\X=some (fl,l',H')/\JI H0 pl f parts r l' H'/\JP r ps
theorem N7{H0:Hp}{parts:List V}(UD:H0.length<=f)(bn:f≠pl)(r:List Nd)(n:Nd)(ps:List Nd)(l:Lo)(H:Hp)(j:JI H0 pl f parts r l H)(p:JP r (n::ps)):K8 H0 pl f parts (aQ (au own) (ae (au own) (d+1)) bJ (l.set 2 (some (nV n))) H) (jR r n) ps:=by
 obtain⟨x,rfl⟩:=j.l
 have push:∀{r n},JI H0 pl f parts r [some (.loc pl),some (.loc f),x] H->JP r (n::ps)->aQ (au own) (ae (au own) (d+1)) bJ [some (.loc pl),some (.loc f),some (nV n)] H=some (.next,[some (.loc pl),some (.loc f),some (nV n)],H.set f (.list (r.reverse.map nV++[nV n])))->K8 H0 pl f parts (aQ (au own) (ae (au own) (d+1)) bJ [some (.loc pl),some (.loc f),some (nV n)] H) (n::r) ps:=
  λj p e=>⟨.next,_,_,.inl rfl,e,i4 _ _▸j.put UD bn,p.cons⟩
 exact K6 (P:=λr n r'=>JI H0 pl f parts r [some (.loc pl),some (.loc f),x] H->JP r (n::ps)->K8 H0 pl f parts (aQ (au own) (ae (au own) (d+1)) bJ [some (.loc pl),some (.loc f),some (nV n)] H) r' ps)
  (λr n hn j p=>push j p (WF hn j.fo p.len))
  (λr j p=>⟨.cont,_,_,.inr rfl,WG,⟨⟨_,rfl⟩,j.pl,j.fo,j.gr⟩,p.skip⟩)
  (λc t j p=>push j p (WH j.fo))
  (λc t z r hz j p=>push j p (i4 z r▸WI hz (i4 z r▸j.fo) (i4 z r▸p.len)))
  (λc t u r j p=>⟨.next,_,_,.inl rfl,WK (i4 _ r▸j.fo) p.Sc p.ut,by rw[rS,← i4];exact j.put UD bn,p.app⟩) r n j p
theorem zr{ns:List Nd}(hp:H[pl]?=some (.list (ns.map nV)))(h1:qv ns<100000)(h2:ns.length<100000){zg:Prop}(zk:∀ H',(ae (au own) (d+2) 2 [.loc pl] H=some (.loc H.length,H'))->(Gr H H')->(H'[H.length]?=some (.list ((gm ns).map nV)))->zg):zg:=by
 obtain⟨l',H',e,j⟩:=kP (body:=aQ (au own) (ae (au own) (d+1)) bJ) (g:=nV) jR (JI H pl H.length (ns.map nV)) JP (λ_ _ _ j=>j.pl) (N7 (own:=own) (d:=d) (aC _) (aK hp)) ns 0 1048576 [] [some (.loc pl),some (.loc H.length),none] (H++[.list []]) (λj=>by rw[fG]) (by exact nl (am [_] (.d (.s ab) (.n 100000) (.d (.n 1048576) ab .z)) rfl h2)) ⟨⟨_,rfl⟩,ag hp,ai,Gr.app _ _⟩ ⟨by show 0+_<_;exact nl (am [_] (.d (.s ab) (.n 100000) (.d (.n 100000) (.a (.n 0) ab) .z)) rfl h1),by show 0+_<_;exact nl (am [_] (.d (.s ab) (.n 100000) (.d (.n 100000) (.a (.n 0) ab) .z)) rfl h2)⟩
 obtain⟨x2,rfl⟩:=j.l
 exact zk H' (af rfl rfl (aV (aN aW) (ak (fA rfl (gN (ag hp)) (show _=some (Fl.next,[some (.loc pl),some (.loc H.length),x2],H') from e)) rfl))) j.gr j.fo
end
section
variable {own:List FI}{d:Nat}{H H0:Hp}{f pl co ol wl:Nat}{X W:List V}{v:V}{y y2:Option V}
noncomputable def K9:ME:=(.cmp .gt (.prim .len [(.loc 2)]) (.lit (.int 0)))
noncomputable def BK:List MS:=[(.asg (.tup [(.loc 3),(.loc 4)]) (.aS (.loc 2) .pop [])),(.ay (.cmp .eq (.loc 3) (.glob (.str [112,117,116]))) [(.expr (.aS (.loc 2) .extend [(.slice (.bp (.loc 0) 103 [(.loc 4)]) (.lit .none) (.lit .none) (.neg (.lit (.int 1))))]))] [(.ay (.cmp .eq (.loc 3) (.glob (.str [101,109,105,116]))) [(.expr (.bp (.loc 0) 101 [(.loc 4)]))] [(.expr (.bp (.loc 0) 106 [(.loc 3),(.loc 4)]))])])]
noncomputable abbrev sN(co wl:Nat)(nd:V)(y y2:Option V):Lo:=[some (.loc co),some nd,some (.loc wl),y,y2]
theorem HZ{nd n0:V}{it:List V}{r:Nat}{H2:Hp}(hw:H[wl]?=some (.list (W++[iU nd])))(hc:H[co]?=some (.inst 0 [(0,.loc ol)]))(La:wl≠co)(hb:ae (au own) d 6 [.loc co,nd] (H.set wl (O.list W))=some (.loc r,H2))(hr:H2[r]?=some (.list it))(mR:H2[wl]?=some (.list W))(hl:W.length+it.reverse.length<lim) :
  aQ (au own) (ae (au own) d) BK (sN co wl n0 y y2) H=some (.next,sN co wl n0 (some (.str [112,117,116])) (some nd),(H2++[O.list it.reverse]).set wl (O.list (W++it.reverse))):=
 ak (bl (cn rfl (aZ hw rfl) aW (ll hw)) rfl) (ak (bQ rfl (fp (cn rfl (aZ (aw hw) rfl) (b8 (dp (aY rfl (aa La hc) rfl rfl rfl hb) aj aj rfl (by exact cb hr))) (kL (ag mR) ai (aE mR) hl)))) aL)
theorem Ia{x n0 v2:V}{H2:Hp}(hw:H[wl]?=some (.list (W++[xF x])))(hc:H[co]?=some (.inst 0 [(0,.loc ol)]))(La:wl≠co)(hb:ae (au own) d 4 [.loc co,x] (H.set wl (O.list W))=some (v2,H2)) :
  aQ (au own) (ae (au own) d) BK (sN co wl n0 y y2) H=some (.next,sN co wl n0 (some (.str [101,109,105,116])) (some x),H2):=
 ak (bl (cn rfl (aZ hw rfl) aW (ll hw)) rfl) (ak (cu rfl (ak (bQ rfl (fp (aY rfl (aa La hc) rfl rfl rfl hb))) aL)) aL)
theorem rB{e n0 v2:V}{kx:List Nat}{H2:Hp}(hw:H[wl]?=some (.list (W++[.tup [.str kx,e]])))(hc:H[co]?=some (.inst 0 [(0,.loc ol)]))(La:wl≠co)(h1:(kx==[112,117,116])=false)(h2:(kx==[101,109,105,116])=false)(hb:ae (au own) d 9 [.loc co,.str kx,e] (H.set wl (O.list W))=some (v2,H2)) :
  aQ (au own) (ae (au own) d) BK (sN co wl n0 y y2) H=some (.next,sN co wl n0 (some (.str kx)) (some e),H2):=
 ak (bl (cn rfl (aZ hw rfl) aW (ll hw)) rfl) (ak (cu (aq rfl bz (bu h1)) (ak (cu (aq rfl bz (bu h2)) (fp (aY rfl (aa La hc) rfl rfl rfl hb))) aL)) aL)
theorem N8{n0:V}(hw:H[wl]?=some (.list (W++[v]))):av (au own) (ae (au own) d) K9 (sN co wl n0 y y2) H=some (.bool true,H):=
 aq (aT rfl (dq hw)) aj (gM (by rw[aH];exact n8.mpr (jz _)))
theorem N9{n0:V}(hw:H[wl]?=some (.list [])):av (au own) (ae (au own) d) K9 (sN co wl n0 y y2) H=some (.bool false,H):=
 aq (aT rfl (dq hw)) aj (by rfl)
theorem BL{ps:List V}{z:V}(h:H[pl]?=some (.list (ps++[z]))):jE (.loc pl) .none (.int (((ps++[z]).length:Int)-1)) .none H=some (.loc H.length,H++[.list ps]):=by
 refine(cb h).trans ?_
 have e:((ps++[z]).length:Int)-1=(ps.length:Nat):=by rw[aH];show((ps.length+1:Nat):Int)-1=_;omega
 rw[e]
 show Option.map _ (gd (0<=((ps.length:Nat):Int)) _)=_
 rw[dZ (n9 _),pq,List.take_left']
 ·rfl
 ·rfl
noncomputable def bC:List MS:=[(.expr (.aS (.loc 2) .extend [(.lst [(.tup [(.glob (.str [111,112,101,110])),(.loc 3)]),(.tup [(.glob (.str [112,117,116])),(.loc 4)]),(.tup [(.glob (.str [115,104,117,116])),(.loc 3)])])]))]
theorem Lb{p e co:V}(hf:H[f]?=some (.list X))(hl:X.length+3<lim):aQ (au own) (ae (au own) d) bC [some co,some (.loc pl),some (.loc f),some e,some p] H=some (.next,[some co,some (.loc pl),some (.loc f),some e,some p],(H++[O.list [.tup [.str [111,112,101,110],e],iU p,.tup [.str [115,104,117,116],e]]]).set f (O.list (X++[.tup [.str [111,112,101,110],e],iU p,.tup [.str [115,104,117,116],e]]))):=
 ak (jm (cn rfl (aZ hf rfl) (b8 (aN rfl)) (kL (ag hf) ai (aE hf) hl))) aL
theorem Fz{e:Nat}:∀(ps X:List V),(ps.foldl (λX p=>X++[K1 e,iU p,K3 e]) X).length=X.length+3*ps.length
 |[],X=>rfl
 |p::r,X=>by
  rw[wp,Fz r,aH]
  show X.length+3+3*r.length=X.length+3*(r.length+1)
  exact kS [_,_] (.a (.a ab (.n 3)) (.m 3 ac)) (.a ab (.m 3 (.s ac))) rfl
noncomputable def sA(e:Nat)(X:List V)(p:V):List V:=X++[K1 e,iU p,K3 e]
structure Sd(H0:Hp)(pl f e sl:Nat)(co:V)(ps X:List V)(l:Lo)(H:Hp):Prop where
 l:∃ x,l=[some co,some (.loc pl),some (.loc f),some (.loc e),x]
 sl:H[sl]?=some (.list ps)
 fo:H[f]?=some (.list X)
 gr:∀ i x,i≠f->H0[i]?=some x->H[i]?=some x
 len:H0.length<=H.length
noncomputable def Oa(X ps:List V):Prop:=X.length+3*ps.length<100000
theorem Ld{e sl:Nat}{co:V}{ps:List V}(hs:sl≠f)(X:List V)(p:V)(r:List V)(l:Lo)(H:Hp)(c:Sd H0 pl f e sl co ps X l H)(q:Oa X (p::r)) :
  ∃ fl l' H',(fl=Fl.next\/fl=Fl.cont)/\aQ (au own) (ae (au own) d) bC (l.set 4 (some (id p))) H=some (fl,l',H')/\Sd H0 pl f e sl co ps (sA e X p) l' H'/\Oa (sA e X p) r:=by
 obtain⟨x,rfl⟩:=c.l
 unfold Oa at q
 rw[cw] at q
 refine⟨.next,_,_,.inl rfl,Lb c.fo (dg (by exact nl (am [_,_] (.d (.s (.a ab (.m 3 (.s ac)))) (.n 100000) (.d (.n 100000) (.a ab (.n 3)) .z)) rfl q))),⟨⟨_,rfl⟩,aa hs.symm (ag c.sl),aw (ag c.fo),λi x h1 h2=>aa h1.symm (ag (c.gr i x h1 h2)),by rw[dB,aH];exact zR c.len⟩,?_⟩
 show(X++[_,_,_]).length+_<_
 rw[aH]
 show _+3+_<_
 exact nl (am [_,_] (.d (.s (.a ab (.m 3 (.s ac)))) (.n 100000) (.d (.n 100000) (.a (.a ab (.n 3)) (.m 3 ac)) .z)) rfl q)
theorem zt{co:V}{ps:List V}{z:V}(hp:H[pl]?=some (.list (ps++[z])))(hn:ps.length<1000){zg:Prop}(zk:∀ H' r e,(ae (au own) (d+1) 7 [co,.loc pl] H=some (.loc r,H'))->(Gr H H')->(H'[r]?=some (.list (ps.foldl (sA e) []++[iU z,xE e])))->(H'[e]?=some (.list [.int (-1),.loc (H.length+1)]))->(H'[H.length+1]?=some (.list []))->(e=H.length+2)->zg):zg:=by
 have l1:(H++[O.list []]).length=H.length+1:=by rw[aH];rfl
 have l2:(H++[O.list []]++[O.list []]).length=H.length+2:=by rw[aH,l1];rfl
 have l3:(H++[O.list []]++[O.list []]++[O.list [.int (-1),.loc (H++[O.list []]).length]]).length=H.length+3:=by rw[aH,l2];rfl
 obtain⟨l',H',e,j⟩:=kP (k:=4) (pl:=(H++[O.list []]++[O.list []]++[O.list [.int (-1),.loc (H++[O.list []]).length]]).length) (body:=aQ (au own) (ae (au own) d) bC) (g:=id) (sA (H++[O.list []]++[O.list []]).length) (Sd (H++[O.list []]++[O.list []]++[O.list [.int (-1),.loc (H++[O.list []]).length]]++[O.list ps]) pl H.length (H++[O.list []]++[O.list []]).length _ co ps) Oa (λ_ _ _ j=>j.sl) (Ld (own:=own) (d:=d) (by rw[l3];exact df (nl (am [_] (.d (.a ab (.n 3)) ab .z) rfl)))) ps 0 1048576 [] [some co,some (.loc pl),some (.loc H.length),some (.loc (H++[O.list []]++[O.list []]).length),none] _ (λj=>by rw[fG,List.map_id]) (by exact nl (am [_] (.d (.s ab) (.n 1000) (.d (.n 1048576) ab .z)) rfl hn)) ⟨⟨_,rfl⟩,ai,ag (ag (ag ai)),λ_ _ _ h=>h,aC _⟩ (by show 0+_<_;exact nl (am [_] (.c 3 (.s ab) (.n 1000) (.d (.n 100000) (.a (.n 0) (.m 3 ab)) .z)) rfl hn))
 obtain⟨x,rfl⟩:=j.l
 have hf:H'.length > H.length:=dM (by rw[aH,l3];show H.length<H.length+3+1;exact nl (am [_] (.d (.s (.a ab (.n 3))) ab .z) rfl)) j.len
 have o7:(ps.foldl (sA (H++[O.list []]++[O.list []]).length) []).length + [iU z,xE (H++[O.list []]++[O.list []]).length].length<=lim:=by
  exact bj (bk (congrArg (· + 2) (Fz ps []))) (n6 (dg (by show 0+_+2<_;exact nl (am [_] (.c 3 (.s ab) (.n 1000) (.d (.n 100000) (.a (.a (.n 0) (.m 3 ab)) (.n 2)) .z)) rfl hn))))
 have Se:∀ i x,H[i]?=some x->H'[i]?=some x:=λi x h=>j.gr i x (aE h) (ag (ag (ag (ag h))))
 refine zk _ _ _ (af rfl rfl (ak (bl (dm (cF (aN aW) (aN (cF rfl (aN aW))))) rfl) (ak (fA (dp rfl aj (cA (aT rfl (dq (ag (ag (ag hp))))) aj (by rfl)) aj (by exact BL (ag (ag (ag hp))))) (gN ai) (show _=some (Fl.next,[some co,some (.loc pl),some (.loc H.length),some (.loc (H++[O.list []]++[O.list []]).length),x],H') from e)) (az (cA rfl (aN (aX (dm (cF bz (bc rfl (cA (aT rfl (dq (Se _ _ hp))) aj (by rfl)) (cQ (Se _ _ hp) (vk ps z))))) rfl)) ((cb (ag j.fo)).trans ((cb ai).trans (dZ o7)))))))) (⟨?_,λi h=>?_⟩) ai (ag (ag (j.gr _ _ (by rw[l2];exact df (nl (am [_] (.d (.a ab (.n 2)) ab .z) rfl))) (ag (by rw[← l1];exact ai))))) (ag (ag (j.gr _ _ (Nat.succ_ne_self _) (ag (ag (by rw[← l1];exact ai)))))) l2
 ·rw[aH,aH];exact nt (am [_,_,_,_] (.d (.s ab) ac (.d (.s (.a (.a ac ar) aA)) ab .z)) rfl hf)
 ·rw[bZ,dh (by exact nl (am [_,_,_] (.d (.s ab) ac (.d (.s ar) ab (.d ac ar .z))) rfl hf h))]
  have hx:=rR h
  rw[hx];exact Se _ _ hx
end
section
variable {own:List FI}{d:Nat}{H H0:Hp}{f pl co ol wl:Nat}{X W:List V}{v:V}{y y2:Option V}
structure KG(k:List Nat):Prop where
 g1:(k==[99,97,116])=false
 g2:(k==[97,108,116])=false
 g3:(k==[97,114,98,110,111])=false
 g4:(k==[108,97,116,101,114])=false
 g5:(k==[110,111,119])=false
 g6:([[99,104,97,114,115],[108,101,110],[112,111,115],[114,112,111,115],[116,97,98],[114,116,97,98],[97,110,121],[110,111,116,97,110,121],[115,112,97,110],[98,114,101,97,107],[114,101,109]]:List (List Nat)).any (·==k)=true
theorem kg:∀ x:Sg,KG (zb x)
 |.ch _=>⟨rfl,rfl,rfl,rfl,rfl,rfl⟩
 |.len _=>⟨rfl,rfl,rfl,rfl,rfl,rfl⟩
 |.pos _=>⟨rfl,rfl,rfl,rfl,rfl,rfl⟩
 |.fL _=>⟨rfl,rfl,rfl,rfl,rfl,rfl⟩
 |.tab _=>⟨rfl,rfl,rfl,rfl,rfl,rfl⟩
 |.fM _=>⟨rfl,rfl,rfl,rfl,rfl,rfl⟩
 |.any _=>⟨rfl,rfl,rfl,rfl,rfl,rfl⟩
 |.fj _=>⟨rfl,rfl,rfl,rfl,rfl,rfl⟩
 |.span _=>⟨rfl,rfl,rfl,rfl,rfl,rfl⟩
 |.brk _=>⟨rfl,rfl,rfl,rfl,rfl,rfl⟩
 |.rem=>⟨rfl,rfl,rfl,rfl,rfl,rfl⟩
theorem Ob{P:Pg}{call:bX}{l:Lo}{x:Sg}{H:Hp}(h:l[1]?=some (some (uZ x))):av P call (.ay (.cmp .gt (.prim .len [.loc 1]) (.lit (.int 1))) (.idx (.loc 1) (.lit (.int 1))) (.lit .none)) l H=some (BB x,H):=by
 induction x <;> first
  |exact be (aq (aT (b8 (db h)) rfl) aj rfl) (bc (db h) aj rfl)
  |exact aR (aq (aT (b8 (db h)) rfl) aj rfl) aj
theorem Ib{x:Sg}(hc:H[co]?=some (.inst 0 [(0,.loc ol)]))(ho:H[ol]?=some (.list X))(bn:co≠ol)(hl:X.length<lim):ae (au own) (d+2) 6 [.loc co,nV (.sg x)] H=some (.loc (H.set ol (.list (X++[oV (.one x)]))).length,H.set ol (.list (X++[oV (.one x)]))++[O.list []]):=
 af rfl rfl (ak rfl (bx (aq rfl aj (bu (kg x).g1)) (bx (aq rfl aj (bu (kg x).g2)) (bx (aq rfl aj (bu (kg x).g3)) (bx (iT (aq rfl aj (bu (kg x).g4)) (iT (aq rfl aj (bu (kg x).g5)) oZ)) (ak (bQ (aq rfl bz (congrArg some (kg x).g6)) (fp (aY rfl hc rfl rfl (b8 (dm (aX bz (cF rfl (Ob rfl))))) (eQ hc ho bn hl)))) (az (aN aW))))))))
theorem DH(hc:H[co]?=some (.inst 0 [(0,.loc ol)]))(ho:H[ol]?=some (.list X))(bn:co≠ol)(hl:X.length<lim):ae (au own) (d+2) 6 [.loc co,nV .cg] H=some (.loc (H.set ol (.list (X++[oV .lT]))).length,H.set ol (.list (X++[oV .lT]))++[O.list []]):=
 af rfl rfl (dG rfl rfl (cM rfl rfl rfl (ak (cu rfl (ak (bQ rfl (fp (aY rfl hc rfl rfl rfl (eQ hc ho bn hl)))) aL)) (az (aN aW)))))
theorem DI(hc:H[co]?=some (.inst 0 [(0,.loc ol)]))(ho:H[ol]?=some (.list X))(bn:co≠ol)(hl:X.length<lim):ae (au own) (d+2) 6 [.loc co,nV .eU] H=some (.loc (H.set ol (.list (X++[oV .ot]))).length,H.set ol (.list (X++[oV .ot]))++[O.list []]):=
 af rfl rfl (dG rfl rfl (cM rfl rfl rfl (ak (cu rfl (ak (bQ rfl (fp (aY rfl hc rfl rfl rfl (eQ hc ho bn hl)))) aL)) (az (aN aW)))))
theorem BN(hc:H[co]?=some (.inst 0 [(0,.loc ol)]))(ho:H[ol]?=some (.list X))(bn:co≠ol)(hl:X.length<lim):ae (au own) (d+2) 6 [.loc co,nV .fail] H=some (.loc (H.set ol (.list (X++[oV .fail]))).length,H.set ol (.list (X++[oV .fail]))++[O.list []]):=
 af rfl rfl (dG rfl rfl (cM rfl rfl rfl (ak (cu rfl (ak (cu rfl (fp (aY rfl hc rfl rfl rfl (eQ hc ho bn hl)))) aL)) (az (aN aW)))))
theorem Ic{n:Nd}{q:Nat}(hc:H[co]?=some (.inst 0 [(0,.loc ol)]))(ho:H[ol]?=some (.list X))(bn:co≠ol)(hl:X.length<lim):ae (au own) (d+2) 6 [.loc co,nV (.nw n q)] H=some (.loc (H.set ol (.list (X++[oV .mark]))).length,H.set ol (.list (X++[oV .mark]))++[O.list [iU (nV n),xF (oV (.set q))]]):=
 af rfl rfl (ak rfl (cM rfl rfl rfl (aU rfl (mQ (aY rfl hc rfl rfl rfl (eQ hc ho bn hl)) (az (aN rfl))))))
theorem BO{n:Nd}(hc:H[co]?=some (.inst 0 [(0,.loc ol)]))(ho:H[ol]?=some (.list X))(bn:co≠ol)(A6:X.length+3<lim){zg:Prop}
  (zk:∀(r e e1:Nat)(H':Hp),ae (au own) (d+3) 6 [.loc co,nV (.rp n)] H=some (.loc r,H')->H'[ol]?=some (.list (X++[oV (.split (X.length+2)),.none,oV .mark]))->H'[r]?=some (.list [iU (nV n),xF (oV .jr),xF (oV (.dH X.length)),xE e])->H'[e]?=some (.list [.int X.length,.loc e1])->H'[e1]?=some (.list [.int (X.length+1:Nat)])->H.length<=e1->e1<e->(∀ i x,i≠ol->H[i]?=some x->H'[i]?=some x)->H.length<=H'.length->zg):zg:=by
 have hl:X.length<lim:=by omega
 have Nc:(X++[V.none]).length<lim:=by rw[aH];show X.length+1<lim;omega
 have hb:0<=(X.length:Int)/\(X.length:Int).toNat<(X++[V.none]++[V.none]).length:=⟨n9 _,by rw[pq,aH,aH];show X.length<X.length+1+1;omega⟩
 have o7:((X++[V.none]++[V.none]).set (X.length:Int).toNat (.tup [.str [115,112,108,105,116],.int (X++[V.none]++[V.none]).length])).length<lim:=by rw[dB,aH,aH];show X.length+1+1<lim;omega
 have hX:(X++[V.none]++[V.none]).set (X.length:Int).toNat (.tup [.str [115,112,108,105,116],.int (X++[V.none]++[V.none]).length])++[oV .mark]=X++[oV (.split (X.length+2)),.none,oV .mark]:=by
  rw[pq,bZ,zT _ _ (aC _),iu,bZ,aH];rfl
 have e0:ae (au own) (d+2) 8 [.loc co,nV n] H=_:=af rfl rfl (aV (aY rfl hc rfl rfl rfl (eQ hc ho bn hl)) (aV (aY rfl (aa bn.symm hc) rfl rfl rfl (eQ (aa bn.symm hc) (aw ho) bn Nc)) (ak (bl (dm (cF bz (aT (b8 (aJ rfl (aD (aa bn.symm (aa bn.symm hc)) rfl))) (dq (aw (aw ho)))))) (lk (aJ rfl (aD (aa bn.symm (aa bn.symm hc)) rfl)) rfl (nB (aw (aw ho)) hb))) (mQ (aY rfl (aa bn.symm (aa bn.symm (aa bn.symm hc))) rfl rfl rfl (eQ (aa bn.symm (aa bn.symm (aa bn.symm hc))) (aw (aw (aw ho))) bn o7)) (az (aN (aX rfl (aX rfl (cF rfl (dm (cF bz (aN (cF rfl (aN rfl))))))))))))))
 have e1:ae (au own) (d+3) 6 [.loc co,nV (.rp n)] H=_:=af rfl rfl (cM rfl rfl rfl (aU rfl (az (aY rfl hc rfl rfl rfl e0))))
 refine zk _ _ _ _ e1 (ag (ag (ag ?_))) ?_ (ag ai) (ag (ag ?_)) ?_ ?_ (λi x h1 h=>ag (ag (ag (aa h1.symm (aa h1.symm (aa h1.symm (aa h1.symm h))))))) ?_
 ·exact(aw (aw (aw (aw ho)))).trans (congrArg (λz=>some (O.list z)) hX)
 ·exact ai
 ·refine ai.trans ?_
  rw[aH];rfl
 ·simp only[dB];exact aC _
 ·simp only[dB,aH];exact jB _
 ·simp only[dB,aH];omega
theorem xH{ps:List Nd}{P:Pg}{call:bX}{l:Lo}(hp:H[pl]?=some (.list (ps.map nV)))(Le:∀ v:V,(l.set 3 (some v))[3]?=some (some v)):∀(r:List Nd)(i f:Nat)(acc:List V),(∀ j,(ps.map nV)[i+j]?=(r.map nV)[j]?)->r.length<f ->
  cP (λl H=>jy P call [] l H) (λl H=>av P call (.tup [.glob (.str [112,117,116]),.loc 3]) l H) (.one 3) l f (.lst pl i) acc H=some (acc.reverse++r.map λn=>iU (nV n),H)
 |[],i,f+1,acc,h,_=>(lr (i2 hp (h 0))).trans (by rw[rT,ce])
 |n::r,i,f+1,acc,h,hf=>by
  refine(jn (j6 hp (h 0)) rfl uY (dm (cF bz (db (Le _)))) (xH hp Le r (i+1) f (iU (nV n)::acc) (λj=>by rw[dU,kh 1 j];exact h (j+1)) (iz hf))).trans ?_
  rw[eM,bZ];rfl
theorem vm(l:List Nd):(gm l).length<=l.length:=by
 have:∀(l r:List Nd),(l.foldl jR r).length<=r.length+l.length:=λl=>by
   induction l with
  |nil=>intro r;exact aC _
  |cons n l ih=>
    intro r
    refine bj (ih _) ?_
    rw[cw,kh l.length,← dU]
    exact tj (qu (P:=λr n r'=>r'.length<=r.length+1) (λ_ _=>aC _) (λ_=>eX _) (λ_ _ _ _=>eX _) r n) _
 rw[gm,jA]
 exact bj (this l []) (bk (fG _))
theorem BP{a b:Nd}(hn:sz (.ca a b)<1000)(ht:qv (aP true (.ca a b))<100000){zg:Prop}(zk:∀ r H',(ae (au own) (d+3) 6 [.loc co,nV (.ca a b)] H=some (.loc r,H'))->(Gr H H')->(H'[r]?=some (.list ((gm (aP true (.ca a b))).map λn=>iU (nV n))))->zg):zg:=by
 have hl:=fE true (.ca a b)
 refine xG (own:=own) (d:=d+1) (H:=H) true (.ca a b) hn λH1 e1 g1 h1=>?_
 refine zr (own:=own) (d:=d) h1 ht (by exact nl (am [_,_] (.d (.s ab) (.n 1000) (.d ac ab (.d (.n 100000) ac .z))) rfl hn hl)) λH2 e2 g2 hj=>?_
 have UE:=vm (aP true (.ca a b))
 have e3:=xH (P:=au own) (call:=ae (au own) (d+2)) (l:=[some (.loc co),some (nV (.ca a b)),some (.str [99,97,116])]++List.replicate 1 none) hj (λv=>rfl) _ 0 1048576 [] (λj=>by rw[fG]) (by exact nl (am [_,_,_] (.d (.s ab) (.n 1000) (.d ac ab (.d ar ac (.d (.n 1048576) ar .z)))) rfl hn hl UE))
 exact zk _ _ (af rfl rfl (ak rfl (aU rfl (az (jS (aG (b8 (aG rfl e1)) e2) (gN hj) e3 (by rw[pv,po,cT];exact n6 (dg (by exact nl (am [_,_,_] (.d (.s ab) (.n 1000) (.d ac ab (.d ar ac (.d (.n 100000) ar .z)))) rfl hn hl UE))))))))) ((g1.trans g2).trans (Gr.app _ _)) ai
theorem BQ{a b:Nd}{ps:List Nd}{z:Nd}(hc:H[co]?=some (.inst 0 [(0,.loc ol)]))(hn:sz (.al a b)<1000)(hr:aP false (.al a b)=ps++[z]){zg:Prop}(zk:∀ r e e1 H',(ae (au own) (d+3) 6 [.loc co,nV (.al a b)] H=some (.loc r,H'))->(Gr H H')->(H'[r]?=some (.list ((ps.map nV).foldl (sA e) []++[iU (nV z),xE e])))->(H'[e]?=some (.list [.int (-1),.loc e1]))->(H'[e1]?=some (.list []))->(H.length<=e1)->(e1<e)->zg):zg:=by
 have hl:=fE false (.al a b)
 refine xG (own:=own) (d:=d+1) (H:=H) false (.al a b) hn λH1 e1 g1 h1=>?_
 rw[hr,du] at h1
 rw[hr,aH] at hl
 refine zt (own:=own) (d:=d+1) (co:=.loc co) h1 (by rw[cT];exact nl (am [_,_,_] (.d (.s ab) (.n 1000) (.d (.a ac ar) ab (.d (.n 1000) ac .z))) rfl hn hl)) λH2 r e e2 g2 bK he kM R8=>?_
 exact zk r e (H1.length+1) H2 (af rfl rfl (dG rfl rfl (aU rfl (az (aY rfl hc rfl rfl (b8 (aG rfl e1)) e2))))) (g1.trans g2) bK he kM (gT g1.len) (by rw[R8];exact jB _)
noncomputable def Lf:List MS:=[(.asg (.idx (.attr (.loc 0) 0) (.loc 3)) (.tup [(.glob (.str [106,117,109,112])),(.prim .len [(.attr (.loc 0) 0)])]))]
noncomputable def qw(e:Nat):V:=oV (.dH e)
theorem Ie{kx e:V}{p:Nat}(hc:H[co]?=some (.inst 0 [(0,.loc ol)]))(ho:H[ol]?=some (.list X))(hb:0<=(p:Int)/\(p:Int).toNat<X.length):aQ (au own) (ae (au own) d) Lf [some (.loc co),some kx,some e,some (.int p)] H=some (.next,[some (.loc co),some kx,some e,some (.int p)],H.set ol (.list (X.set (p:Int).toNat (qw X.length)))):=
 ak (bl (dm (cF bz (aT (b8 (aJ rfl (aD hc rfl))) (dq ho)))) (lk (aJ rfl (aD hc rfl)) rfl (nB ho hb))) aL
structure MI(H0:Hp)(co ol e1:Nat)(kx e:V)(E:List V)(n:Nat)(X:List V)(l:Lo)(H:Hp):Prop where
 l:∃ x,l=[some (.loc co),some kx,some e,x]
 hc:H[co]?=some (.inst 0 [(0,.loc ol)])
 ho:H[ol]?=some (.list X)
 he:H[e1]?=some (.list E)
 gr:∀ i x,i≠ol->H0[i]?=some x->H[i]?=some x
 len:H0.length<=H.length
 n:X.length=n
theorem Ig{e1 n:Nat}{kx e:V}{E:List V}(bn:co≠ol)(K4:ol≠e1)(X:List V)(p:Nat)(r:List Nat)(l:Lo)(H:Hp)(c:MI H0 co ol e1 kx e E n X l H)(q:∀ p'∈p::r,p'<n) :
  ∃ fl l' H',(fl=Fl.next\/fl=Fl.cont)/\aQ (au own) (ae (au own) d) Lf (l.set 3 (some (.int p))) H=some (fl,l',H')/\MI H0 co ol e1 kx e E n (X.set p (qw n)) l' H'/\∀ p'∈r,p'<n:=by
 obtain⟨x,rfl⟩:=c.l
 have hl:=c.n
 subst hl
 exact⟨.next,_,_,.inl rfl,Ie c.hc c.ho ⟨n9 _,q p (.head _)⟩,⟨⟨_,rfl⟩,aa bn.symm c.hc,aw c.ho,aa K4 c.he,λi x h1 h2=>aa h1.symm (c.gr i x h1 h2),by rw[dB];exact c.len,dB ..⟩,λp' h=>q p' (.tail _ h)⟩
noncomputable def patch(n:Nat)(E:List Nat)(X:List V):List V:=E.foldl (λX p=>X.set p (qw n)) X
theorem zu{e e1:Nat}{E:List Nat}{v0:V}(hc:H[co]?=some (.inst 0 [(0,.loc ol)]))(ho:H[ol]?=some (.list X))(bn:co≠ol)(he:H[e]?=some (.list [v0,.loc e1]))(kM:H[e1]?=some (.list (E.map λ(p:Nat)=>V.int p)))(vh:ol≠e1)(hE:E.length<1000)(hb:∀ p∈E,p<X.length){zg:Prop}(zk:∀ H',(ae (au own) (d+1) 9 [.loc co,.str [109,101,101,116],.loc e] H=some (.none,H'))->(H.length<=H'.length)->(H'[ol]?=some (.list (patch X.length E X)))->(∀ i x,i≠ol->H[i]?=some x->H'[i]?=some x)->zg):zg:=by
 obtain⟨l',H',e3,j⟩:=kP (k:=3) (pl:=e1) (body:=aQ (au own) (ae (au own) d) Lf) (g:=λ(p:Nat)=>V.int p) (λY p=>Y.set p (qw X.length)) (λY=>MI H co ol e1 (.str [109,101,101,116]) (.loc e) (E.map λ(p:Nat)=>V.int p) X.length Y) (λ_ r=>∀ p∈r,p<X.length) (λ_ _ _ j=>j.he) (Ig (own:=own) (d:=d) bn vh) E 0 1048576 X [some (.loc co),some (.str [109,101,101,116]),some (.loc e),none] H (λj=>by rw[fG]) (by exact nl (am [_] (.d (.s ab) (.n 1000) (.d (.n 1048576) ab .z)) rfl hE)) ⟨⟨_,rfl⟩,hc,ho,kM,λ_ _ _ h=>h,aC _,rfl⟩ hb
 obtain⟨x,rfl⟩:=j.l
 exact zk H' (em rfl rfl (ak (cu rfl (ak (cu rfl (ak (fA (bc rfl aj (cQ he rfl)) (gN kM) e3) aL)) aL)) aL)) j.len j.ho j.gr
theorem DJ{e e1:Nat}{E:List Nat}{v0:V}(hc:H[co]?=some (.inst 0 [(0,.loc ol)]))(ho:H[ol]?=some (.list X))(bn:co≠ol)(he:H[e]?=some (.list [v0,.loc e1]))(kM:H[e1]?=some (.list (E.map λ(p:Nat)=>V.int p)))(vh:ol≠e1)(hE:E.length<1000)(hb:∀ p∈E,p<X.length):∃ H',ae (au own) (d+1) 9 [.loc co,.str [109,101,101,116],.loc e] H=some (.none,H')/\H.length<=H'.length/\H'[ol]?=some (.list (patch X.length E X))/\∀ i x,i≠ol->H[i]?=some x->H'[i]?=some x:=zu hc ho bn he kM vh hE hb λH' cO cY iJ CC=>⟨H',cO,cY,iJ,CC⟩
end
set_option genCtorIdx false in
inductive Wk where
 |put (n:Nd)|emit (x:Od)|Ih (e:Nat)|Ii (e:Nat)|met (e:Nat)
noncomputable def lB:Wk->V
 |.put n=>iU (nV n)
 |.emit x=>xF (oV x)
 |.Ih e=>K1 e
 |.Ii e=>K3 e
 |.met e=>xE e
noncomputable def Oe:Wk->Nat
 |.put n=>6*sz n
 |.emit _=>1
 |.Ih _=>2
 |.Ii _=>2
 |.met _=>1
noncomputable def i3:List Wk->Nat
 |[]=>0
 |k::r=>Oe k+i3 r
theorem Sf:i3 ([])=0:=rfl
theorem o8{k r}:i3 (k::r)=Oe k+i3 r:=rfl
theorem fu:∀(a b:List Wk),i3 (a++b)=i3 a+i3 b
 |[],b=>(fG _).symm
 |k::r,b=>by rw[td,o8,o8,fu r b,dU]
theorem qx:∀ a:List Wk,i3 a.reverse=i3 a
 |[]=>rfl
 |k::r=>by rw[eM,fu,qx r,o8,Sf,o8,Nat.add_zero,kh]
theorem qy(n:Nd):1<=sz n:=by
 induction n <;> first|exact aC _|exact fJ _ _
theorem iH:∀ a:List Wk,a.length<=i3 a
 |[]=>aC _
 |k::r=>by
  have h1:1<=Oe k:=by
    induction k with
   |put n=>have:=qy n;show 1<=6*sz n;exact nt (am [_] (.c 6 (.n 1) ab (.d (.s (.m 6 ab)) (.n 1) .z)) rfl this)
   |met e=>exact aC _
   |emit e=>exact aC _
   |_=>exact eX _
  have h2:=iH r
  rw[cw,o8];exact nt (am [_,_,_] (.d (.n 1) ab (.d ac ar (.d (.s (.a ab ar)) (.s ac) .z))) rfl h1 h2)
structure PS(co ol wl:Nat)(X:List V)(W:List Wk)(H:Hp):Prop where
 jt:H[co]?=some (.inst 0 [(0,.loc ol)])
 md:H[ol]?=some (.list X)
 iN:H[wl]?=some (.list (W.map lB))
 ne:ol≠wl
section
variable {own:List FI}{d:Nat}{H H0 H1 H2:Hp}{co ol wl:Nat}{X:List V}{W:List Wk}{n0:V}{y y2:Option V}
theorem PS.n1(t:PS co ol wl X W H):co≠ol:=ba t.jt t.md (λe=>by cases e)
theorem PS.n2(t:PS co ol wl X W H):wl≠co:=ba t.iN t.jt (λe=>by cases e)
structure Fx(ol wl:Nat)(H H':Hp):Prop where
 len:H.length<=H'.length
 off:∀ i x,i≠ol->i≠wl->H[i]?=some x->H'[i]?=some x
theorem Fx.trans(a:Fx ol wl H H1)(b:Fx ol wl H1 H2):Fx ol wl H H2:=⟨bj a.len b.len,λi x h1 h2 h=>b.off i x h1 h2 (a.off i x h1 h2 h)⟩
theorem Fx.refl:Fx ol wl H H:=⟨aC _,λ_ _ _ _ h=>h⟩
noncomputable abbrev Pf(own:List FI)(d co wl:Nat)(n0:V)(F:Nat)(y y2:Option V)(H:Hp):SR:=dj (av (au own) (ae (au own) d) K9) (aQ (au own) (ae (au own) d) BK) F (sN co wl n0 y y2) H
noncomputable def Lp(own:List FI)(d co wl:Nat)(n0:V)(J:Nat)(y y2:Option V)(H:Hp)(y' WL:Option V)(H':Hp):Prop:=∃ j,j<=J/\∀ F q,Pf own d co wl n0 F y' WL H'=q->Pf own d co wl n0 (j+F) y y2 H=q
theorem Lp.trans{J J':Nat}{a a2 b b2 c c2:Option V}(p:Lp own d co wl n0 J a a2 H b b2 H1)(q:Lp own d co wl n0 J' b b2 H1 c c2 H2):Lp own d co wl n0 (J+J') a a2 H c c2 H2:=by
 obtain⟨i,hi,e⟩:=p
 obtain⟨j,hj,e'⟩:=q
 exact⟨i+j,i6 hi hj,λF q h=>by rw[dU];exact e _ _ (e' _ _ h)⟩
theorem Lp.mono{J J':Nat}{a a2 b b2:Option V}(p:Lp own d co wl n0 J a a2 H b b2 H1)(h:J<=J'):Lp own d co wl n0 J' a a2 H b b2 H1:=by
 obtain⟨i,hi,e⟩:=p
 exact⟨i,bj hi h,e⟩
theorem Lp.one{k:Wk}{a b:V}(t:PS co ol wl X (W++[k]) H)(e:aQ (au own) (ae (au own) d) BK (sN co wl n0 y y2) H=some (.next,sN co wl n0 (some a) (some b),H1)):Lp own d co wl n0 1 y y2 H (some a) (some b) H1:=
 ⟨1,aC _,λF q h=>by
  rw[kh 1 F]
  have hw:=t.iN
  rw[du] at hw
  exact fV (N8 hw) e h⟩
theorem PS.top{k:Wk}(t:PS co ol wl X (W++[k]) H):H[wl]?=some (.list (W.map lB++[lB k])):=by rw[t.iN,du]
inductive Go(own:List FI)(d co ol wl:Nat)(n0:V)(X:List V)(W:List Wk)(J:Nat)(y y2:Option V)(B H:Hp):Prop where
 |mk (a b:Option V) (H3:Hp) (t:PS co ol wl X W H3) (f:Fx ol wl B H3) (l:Lp own d co wl n0 J y y2 H a b H3):Go own d co ol wl n0 X W J y y2 B H
inductive UF(own:List FI)(d co ol wl:Nat)(n0:V)(X:List V)(W:List Wk)(y y2:Option V)(H H2:Hp):Prop where
 |mk (a b:V) (H3:Hp) (t:PS co ol wl X W H3) (f:Fx ol wl H H3) (g:∀ i x,i≠wl->H2[i]?=some x->H3[i]?=some x) (n:H2.length<=H3.length) (l:Lp own d co wl n0 1 y y2 H (some a) (some b) H3):UF own d co ol wl n0 X W y y2 H H2
theorem qz{n:Nd}{r:Nat}{it:List Wk}{X':List V}(t:PS co ol wl X (W++[.put n]) H)(e:ae (au own) d 6 [.loc co,nV n] (H.set wl (.list (W.map lB)))=some (.loc r,H2))(hl:(H.set wl (.list (W.map lB))).length<=H2.length)(ho:H2[ol]?=some (.list X'))(hr:H2[r]?=some (.list (it.map lB)))
  (hf:∀ i x,i≠ol->(H.set wl (.list (W.map lB)))[i]?=some x->H2[i]?=some x) (hW:W.length+it.length<lim) :
  UF own d co ol wl n0 X' (W++it.reverse) y y2 H H2:=by
 have mR:H2[wl]?=some (.list (W.map lB)):=hf wl _ t.ne.symm (aw t.iN)
 have e2:=HZ (own:=own) (d:=d) (n0:=n0) (y:=y) (y2:=y2) t.top t.jt t.n2 e hr mR (by rw[jA,cT,cT];exact hW)
 have hg:∀ i x,i≠wl->H2[i]?=some x->((H2++[O.list (it.map lB).reverse]).set wl (O.list (W.map lB++(it.map lB).reverse)))[i]?=some x:=λi x h1 h=>aa h1.symm (ag h)
 rw[dB] at hl
 have Le:H2.length<=((H2++[O.list (it.map lB).reverse]).set wl (O.list (W.map lB++(it.map lB).reverse))).length:=by rw[dB,aH];exact cC _ _
 exact⟨_,_,_,⟨hg _ _ t.n2.symm (hf _ _ t.n1 (aa t.n2 t.jt)),hg _ _ t.ne ho,by rw[lK,zN];exact aw (ag mR),t.ne⟩,⟨bj hl Le,λi x h1 h2 h=>hg i x h2 (hf i x h1 (aa h2.symm h))⟩,hg,Le,Lp.one t e2⟩
theorem vp{x:Od}(t:PS co ol wl X (W++[.emit x]) H)(hl:X.length<lim):Go own (d+1) co ol wl n0 (X++[oV x]) W 1 y y2 H H:=
 ⟨_,_,_,⟨aa t.n1.symm (aa t.n2 t.jt),aw (aa t.ne.symm t.md),aa t.ne (aw t.iN),t.ne⟩,⟨by rw[dB,dB];exact aC _,λi x h1 h2 h=>aa h1.symm (aa h2.symm h)⟩,
  Lp.one t (Ia t.top t.jt t.n2 (eQ (aa t.n2 t.jt) (aa t.ne.symm t.md) t.n1 hl))⟩
structure Al(e e1:Nat)(v:V)(E:List Nat)(ol wl:Nat)(B H:Hp):Prop where
 he:H[e]?=some (.list [v,.loc e1])
 kM:H[e1]?=some (.list (E.map λ(p:Nat)=>V.int p))
 n1:ol≠e
 n2:ol≠e1
 n3:wl≠e
 n4:wl≠e1
 n5:e1≠e
 b1:B.length<=e
 b2:B.length<=e1
 fx:Fx ol wl B H
theorem Al.Lg{e e1:Nat}{v:V}{E:List Nat}(a:Al e e1 v E ol wl H0 H)(f:Fx ol wl H H1):Al e e1 v E ol wl H0 H1:=
 ⟨f.off _ _ a.n1.symm a.n3.symm a.he,f.off _ _ a.n2.symm a.n4.symm a.kM,a.n1,a.n2,a.n3,a.n4,a.n5,a.b1,a.b2,a.fx.trans f⟩
inductive Si(own:List FI)(d co ol wl:Nat)(n0:V)(X:List V)(W:List Wk)(e e1:Nat)(v:V)(E:List Nat)(y y2:Option V)(B H:Hp):Prop where
 |mk (a b:V) (H3:Hp) (t:PS co ol wl X W H3) (al:Al e e1 v E ol wl B H3) (l:Lp own d co wl n0 1 y y2 H (some a) (some b) H3):Si own d co ol wl n0 X W e e1 v E y y2 B H
theorem Og{e e1:Nat}{v:V}{E:List Nat}(t:PS co ol wl X (W++[.Ih e]) H)(a:Al e e1 v E ol wl H0 H)(hl:X.length<lim):Si own (d+2) co ol wl n0 (X++[.none]) W e e1 (.int X.length) E y y2 H0 H:=by
 have ne:e≠co:=ba a.he t.jt (λh=>by cases h)
 refine⟨_,_,_,⟨aa ne (aa t.n1.symm (aa t.n2 t.jt)),aa a.n1.symm (aw (aa t.ne.symm t.md)),aa a.n3.symm (aa t.ne (aw t.iN)),t.ne⟩,⟨aw (aa a.n1 (aa a.n3 a.he)),aa a.n5.symm (aa a.n2 (aa a.n4 a.kM)),a.n1,a.n2,a.n3,a.n4,a.n5,a.b1,a.b2,⟨?_,λi x h1 h2 h=>?_⟩⟩,
  Lp.one t (rB t.top t.jt t.n2 rfl rfl (BH (aa t.n2 t.jt) (aa t.ne.symm t.md) t.n1 hl (aa a.n3 a.he) a.n1))⟩
 ·rw[dB,dB,dB];exact a.fx.len
 ·exact aa (df (dM (cv h) a.b1)) (aa h1.symm (aa h2.symm (a.fx.off i x h1 h2 h)))
theorem Oh{e e1 p:Nat}{E:List Nat}(t:PS co ol wl X (W++[.Ii e]) H)(a:Al e e1 (.int p) E ol wl H0 H)(hl:X.length<lim)(hE:E.length<lim)(hp:p<X.length):Si own (d+2) co ol wl n0 ((X++[V.none]).set p (oV (.split (X.length+1)))) W e e1 (.int p) (E++[X.length]) y y2 H0 H:=by
 have ne:e≠co:=ba a.he t.jt (λh=>by cases h)
 have ne1:e1≠co:=ba a.kM t.jt (λh=>by cases h)
 refine⟨_,_,_,⟨aa t.n1.symm (aa ne1 (aa t.n1.symm (aa t.n2 t.jt))),aw (aa a.n2.symm (aw (aa t.ne.symm t.md))),aa t.ne (aa a.n4.symm (aa t.ne (aw t.iN))),t.ne⟩,⟨aa a.n1 (aa a.n5 (aa a.n1 (aa a.n3 a.he))),?_,a.n1,a.n2,a.n3,a.n4,a.n5,a.b1,a.b2,⟨?_,λi x h1 h2 h=>?_⟩⟩,
  Lp.one t (rB t.top t.jt t.n2 rfl rfl (BI (aa t.n2 t.jt) (aa t.ne.symm t.md) t.n1 hl (aa a.n3 a.he) (aa a.n4 a.kM) a.n1 a.n2 a.n5 ne1 (by rw[cT];exact hE) hp))⟩
 ·rw[du];exact aa a.n2 (aw (aa a.n2 (aa a.n4 a.kM)))
 ·rw[dB,dB,dB,dB];exact a.fx.len
 ·exact aa h1.symm (aa (df (dM (cv h) a.b2)) (aa h1.symm (aa h2.symm (a.fx.off i x h1 h2 h))))
theorem FA{e e1:Nat}{v:V}{E:List Nat}(t:PS co ol wl X (W++[.met e]) H)(a:Al e e1 v E ol wl H0 H)(hE:E.length<1000)(hb:∀ p∈E,p<X.length):Go own (d+1) co ol wl n0 (patch X.length E X) W 1 y y2 H0 H:=by
 obtain⟨H3,e3,l3,o3,f3⟩:=DJ (own:=own) (d:=d) (aa t.n2 t.jt) (aa t.ne.symm t.md) t.n1 (aa a.n3 a.he) (aa a.n4 a.kM) a.n2 hE hb
 refine⟨_,_,H3,⟨f3 _ _ t.n1 (aa t.n2 t.jt),o3,f3 _ _ t.ne.symm (aw t.iN),t.ne⟩,⟨?_,λi x h1 h2 h=>f3 i x h1 (aa h2.symm (a.fx.off i x h1 h2 h))⟩,Lp.one t (rB t.top t.jt t.n2 rfl rfl e3)⟩
 rw[dB] at l3
 exact bj a.fx.len l3
noncomputable def rC(g:Nd->Nat->List Od):List Nd->Nat->List Od
 |[],_=>[]
 |n::r,b=>g n b++rC g r (b+(g n b).length)
theorem Sj{g gA}:rC g ([]) gA=[]:=rfl
theorem zv{g n r b}:rC g (n::r) b=g n b++rC g r (b+(g n b).length):=rfl
noncomputable def mU(g:Nd->Nat->List Od)(e:Nat)(z:Nd):List Nd->Nat->List Od
 |[],b=>g z b
 |n::r,b=>.split (b+(g n (b+1)).length+2)::(g n (b+1)++.dH e::mU g e z r (b+(g n (b+1)).length+2))
theorem o9{g e z n r b}:mU g e z (n::r) b=.split (b+(g n (b+1)).length+2)::(g n (b+1)++.dH e::mU g e z r (b+(g n (b+1)).length+2)):=rfl
theorem vq(g:Nd->Nat->List Od)(e e':Nat)(z:Nd):∀(ps:List Nd)(b:Nat),(mU g e z ps b).length=(mU g e' z ps b).length
 |[],b=>rfl
 |n::r,b=>by rw[o9,o9,cw,cw,aH,aH,cw,cw,vq g e e' z r]
noncomputable def jV(g:Nd->Nat->List Od)(z:Nd)(ps:List Nd)(b:Nat):Nat:=b+(mU g 0 z ps b).length
noncomputable def NodeOk(own:List FI)(d co ol wl:Nat)(n0:V)(g:Nd->Nat->List Od)(n:Nd):Prop:=∀⦃X:List V⦄⦃W:List Wk⦄⦃H:Hp⦄⦃y y2:Option V⦄,PS co ol wl X (W++[.put n]) H->X.length+i3 W+6*sz n<100000 ->
 Go own d co ol wl n0 (X++(g n X.length).map oV) W (6*sz n) y y2 H H
theorem BR{g:Nd->Nat->List Od}(qA:∀ n b,(g n b).length<=6*sz n):∀(ps:List Nd),(∀ n∈ps,NodeOk own d co ol wl n0 g n)->∀{X:List V}{W:List Wk}{H:Hp}{y y2:Option V},PS co ol wl X (W++(ps.map Wk.put).reverse) H->X.length+i3 W+i3 (ps.map Wk.put)<100000 ->
  Go own d co ol wl n0 (X++(rC g ps X.length).map oV) W (i3 (ps.map Wk.put)) y y2 H H
 |[],hg,X,W,H,y,y2,t,hb=>⟨y,y2,H,by rw[Sj,rT,ce];rw[rT,pv,ce] at t;exact t,Fx.refl,0,aC _,λF q h=>by rw[fG];exact h⟩
 |n::r,hg,X,W,H,y,y2,t,hb=>by
  rw[fR,eM,← bZ] at t
  rw[fR,o8] at hb
  have hw:Oe (.put n)=6*sz n:=rfl
  rw[hw] at hb
  obtain⟨a,b,H1,t1,f1,l1⟩:=hg n (.head _) (y:=y) (y2:=y2) t (by rw[fu,qx];exact nl (am [_,_,_,_] (.d (.s (.a (.a ab ac) (.a (.m 6 ar) aA))) (.n 100000) (.d (.n 100000) (.a (.a ab (.a ac aA)) (.m 6 ar)) .z)) rfl hb))
  have hl:=qA n X.length
  have hx:(X++(g n X.length).map oV).length=X.length+(g n X.length).length:=by rw[aH,cT]
  obtain⟨a2,b2,H2,t2,f2,l2⟩:=BR qA r (λn h=>hg n (.tail _ h)) (y:=a) (y2:=b) t1 (by rw[hx];exact nl (am [_,_,_,_,_] (.d (.s (.a (.a ab ac) (.a (.m 6 ar) aA))) (.n 100000) (.d bH (.m 6 ar) (.d (.n 100000) (.a (.a (.a ab bH) ac) aA) .z))) rfl hb hl))
  rw[hx] at t2
  exact⟨a2,b2,H2,by rw[zv,lK,← bZ];exact t2,f1.trans f2,l1.trans l2⟩
noncomputable def nW(e:Nat)(z:Nd):List Nd->List Wk
 |[]=>[.put z,.met e]
 |p::r=>.Ih e::.put p::.Ii e::nW e z r
theorem Sk{e z p r}:nW e z (p::r)=.Ih e::.put p::.Ii e::nW e z r:=rfl
theorem FC(e:Nat)(z:Nd):∀(ps:List Nd)(Y:List V),(ps.map nV).foldl (sA e) Y++[iU (nV z),xE e]=Y++(nW e z ps).map lB
 |[],Y=>rfl
 |p::r,Y=>by rw[fR,wp,FC e z r,sA,bZ];rfl
theorem pa(n:Nat)(Y:List V):∀(E:List Nat)(X:List V),(∀ p∈E,p<X.length)->patch n E (X++Y)=patch n E X++Y
 |[],X,_=>rfl
 |p::r,X,h=>by
  show patch n r ((X++Y).set p (qw n))=patch n r (X.set p (qw n))++Y
  rw[List.set_append_left _ _ (h p (.head _)),pa n Y r _ λq hq=>by rw[dB];exact h q (.tail _ hq)]
theorem vw(n:Nat):∀(E:List Nat)(X:List V),(patch n E X).length=X.length
 |[],X=>rfl
 |p::r,X=>(vw n r _).trans (dB ..)
theorem BS(n p:Nat)(E:List Nat)(X:List V):patch n (E++[p]) X=(patch n E X).set p (qw n):=by rw[patch,List.foldl_append];rfl
theorem BU{α:Type}(A B:List α)(x y:α):(A++x::B).set A.length y=A++y::B:=by rw[zT _ _ (aC _),iu];rfl
theorem BV{g:Nd->Nat->List Od}(qA:∀ n b,(g n b).length<=6*sz n){e e1:Nat}{z:Nd}(hz:NodeOk own (d+2) co ol wl n0 g z):∀(ps:List Nd),(∀ n∈ps,NodeOk own (d+2) co ol wl n0 g n)->∀{X:List V}{W:List Wk}{H:Hp}{y y2:Option V}{v:V}{E:List Nat},PS co ol wl X (W++(nW e z ps).reverse) H->Al e e1 v E ol wl H0 H->X.length+i3 W+i3 (nW e z ps)<100000->E.length+ps.length<1000->(∀ p∈E,p<X.length) ->
  Go own (d+2) co ol wl n0 (patch (jV g z ps X.length) E X++(mU g (jV g z ps X.length) z ps X.length).map oV) W (i3 (nW e z ps)) y y2 H0 H
 |[],hg,X,W,H,y,y2,v,E,t,al,hb,hE,hp=>by
  have t':PS co ol wl X (W++[.met e]++[.put z]) H:=by rw[bZ];exact t
  have hw:i3 (nW e z [])=6*sz z+1:=rfl
  rw[hw] at hb
  obtain⟨a,b,H1,t1,f1,l1⟩:=hz (y:=y) (y2:=y2) t' (by rw[fu];show X.length+(i3 W+1)+_<_;exact nl (am [_,_,_] (.d (.s (.a (.a ab ac) (.s (.m 6 ar)))) (.n 100000) (.d (.n 100000) (.a (.a ab (.s ac)) (.m 6 ar)) .z)) rfl hb))
  have hx:(X++(g z X.length).map oV).length=X.length+(g z X.length).length:=by rw[aH,cT]
  obtain⟨a2,b2,H2,t2,f2,l2⟩:=FA (own:=own) (d:=d+1) (n0:=n0) (y:=a) (y2:=b) t1 (al.Lg f1) (by exact nl (am [_,_] (.d (.s (.a ab ac)) (.n 1000) (.d (.n 1000) ab .z)) rfl hE)) (λp h=>dM (hp p h) (by rw[hx];exact cC _ _))
  rw[pa _ _ _ _ hp,hx] at t2
  exact⟨_,_,H2,t2,f2,l1.trans l2⟩
 |p::r,hg,X,W,H,y,y2,v,E,t,al,hb,hE,hp=>by
  have t':PS co ol wl X (W++(nW e z r).reverse++[.Ii e]++[.put p]++[.Ih e]) H:=by
   rw[Sk,eM,eM,eM] at t
   simp only[bZ] at t ⊢
   exact t
  have hw:i3 (nW e z (p::r))=2+(6*sz p+(2+i3 (nW e z r))):=rfl
  rw[hw] at hb ⊢
  have WM:=iH (W++(nW e z r).reverse)
  rw[fu,qx] at WM
  rw[cw] at hE
  obtain⟨a,b,H1,t1,WN,l1⟩:=Og (own:=own) (d:=d) (n0:=n0) (y:=y) (y2:=y2) t' al (dg (by exact nl (am [_,_,_,_] (.d (.s (.a (.a ab ac) (.a (.n 2) (.a (.m 6 ar) (.a (.n 2) aA))))) (.n 100000) (.d (.n 100000) ab .z)) rfl hb)))
  have Sm:(X++[V.none]).length=X.length+1:=by rw[aH];rfl
  obtain⟨a2,b2,H2,t2,f2,l2⟩:=hg p (.head _) (y:=some a) (y2:=some b) t1 (by rw[Sm,fu,fu,qx];show _+(_+_+2)+_<_;exact nl (am [_,_,_,_] (.d (.s (.a (.a ab ac) (.a (.n 2) (.a (.m 6 ar) (.a (.n 2) aA))))) (.n 100000) (.d (.n 100000) (.a (.a (.s ab) (.a (.a ac aA) (.n 2))) (.m 6 ar)) .z)) rfl hb))
  rw[Sm] at t2
  have hl:=qA p (X.length+1)
  have Oi:(X++[V.none]++(g p (X.length+1)).map oV).length=X.length+1+(g p (X.length+1)).length:=by rw[aH,Sm,cT]
  obtain⟨a3,b3,H3,t3,UG,l3⟩:=Oh (own:=own) (d:=d) (n0:=n0) (y:=a2) (y2:=b2) t2 (WN.Lg f2) (dg (by rw[Oi];exact nl (am [_,_,_,_,_] (.d (.s (.a (.a ab ac) (.a (.n 2) (.a (.m 6 ar) (.a (.n 2) aA))))) (.n 100000) (.d bH (.m 6 ar) (.d (.n 100000) (.a (.s ab) bH) .z))) rfl hb hl))) (dg (by exact nl (am [_,_] (.d (.s (.a ab (.s ac))) (.n 1000) (.d (.n 100000) ab .z)) rfl hE))) (by rw[Oi];exact nl (am [_,_] (.d (.a (.s ab) ac) ab .z) rfl))
  have e3:(X++[V.none]++(g p (X.length+1)).map oV++[V.none]).set X.length (oV (.split ((X++[V.none]++(g p (X.length+1)).map oV).length+1)))=X++(oV (.split (X.length+(g p (X.length+1)).length+2))::(g p (X.length+1)).map oV++[V.none]):=by
   rw[Oi,show X.length+1+(g p (X.length+1)).length+1=X.length+(g p (X.length+1)).length+2 by exact kS [_,_] (.s (.a (.s ab) ac)) (.a (.a ab ac) (.n 2)) rfl]
   rw[bZ,bZ]
   exact BU _ _ _ _
  rw[e3] at t3
  rw[Oi] at UG
  have DK:(X++(oV (.split (X.length+(g p (X.length+1)).length+2))::(g p (X.length+1)).map oV++[V.none])).length=X.length+(g p (X.length+1)).length+2:=by
   rw[aH,td,cw,aH,cT]
   show _+(_+1+1)=_;exact kS [_,_] (.a ab (.s (.s ac))) (.a (.a ab ac) (.n 2)) rfl
  obtain⟨a4,b4,H4,t4,f4,l4⟩:=BV qA hz r (λn h=>hg n (.tail _ h)) (y:=some a3) (y2:=some b3) t3 UG (by rw[DK];exact nl (am [_,_,_,_,_] (.d (.s (.a (.a ab ac) (.a (.n 2) (.a (.m 6 ar) (.a (.n 2) aA))))) (.n 100000) (.d bH (.m 6 ar) (.d (.n 100000) (.a (.a (.a (.a ab bH) (.n 2)) ac) aA) .z))) rfl hb hl)) (by rw[aH];show _+1+_<_;exact nl (am [_,_] (.d (.s (.a ab (.s ac))) (.n 1000) (.d (.n 1000) (.a (.s ab) ac) .z)) rfl hE)) (λq hq=>by
   rw[DK]
   rcases eW.mp hq with hq|hq
   ·have:=hp q hq;exact nl (am [_,_,_] (.d (.s ab) ac (.d (.a (.a ac ar) (.n 2)) ab .z)) rfl this)
   ·rw[dA.mp hq];exact nl (am [_,_] (.d (.a (.a ab ac) (.n 2)) (.a (.s ab) ac) .z) rfl))
  rw[DK] at t4
  have ee:jV g z (p::r) X.length=jV g z r (X.length+(g p (X.length+1)).length+2):=by
   rw[jV,jV,o9,cw,aH,cw];exact kS [_,_,_] (.a ab (.s (.a ac (.s ar)))) (.a (.a (.a ab ac) (.n 2)) ar) rfl
  refine⟨a4,b4,H4,?_,f4,((l1.trans (l2.trans (l3.trans l4)))).mono (by exact nt (am [_,_] (.d (.s (.a (.n 2) (.a (.m 6 ab) (.a (.n 2) ac)))) (.a (.n 1) (.a (.m 6 ab) (.a (.n 1) ac))) .z) rfl))⟩
  rw[ee]
  generalize jV g z r (X.length+(g p (X.length+1)).length+2)=N at t4 ⊢
  have e4:patch N (E++[X.length+1+(g p (X.length+1)).length]) (X++(oV (.split (X.length+(g p (X.length+1)).length+2))::(g p (X.length+1)).map oV++[V.none]))=patch N E X++(oV (.split (X.length+(g p (X.length+1)).length+2))::(g p (X.length+1)).map oV++[qw N]):=by
   rw[BS,pa _ _ _ _ hp,← bZ,← bZ]
   have:X.length+1+(g p (X.length+1)).length=(patch N E X++oV (.split (X.length+(g p (X.length+1)).length+2))::(g p (X.length+1)).map oV).length:=by
    rw[aH,vw,cw,cT];exact kS [_,_] (.a (.s ab) ac) (.a ab (.s ac)) rfl
   rw[this]
   exact BU _ _ _ _
  rw[e4,bZ] at t4
  rw[o9,fR,lK,fR]
  have e5:∀(s j:V)(C D:List V),s::C++[j]++D=s::(C++j::D):=λs j C D=>by rw[bZ];rfl
  rw[e5] at t4
  exact t4
end
noncomputable def cp:Nat->Nd->Nat->List Od
 |0,_,_=>[]
 |F+1,.nw n q,b=>.mark::(cp F n (b+1)++[.set q])
 |F+1,.rp n,b=>.split (b+2)::.dH (b+3+(cp F n (b+3)).length+2)::.mark::(cp F n (b+3)++[.jr,.dH b])
 |F+1,.ca x y,b=>rC (cp F) (gm (aP true (.ca x y))) b
 |F+1,.al x y,b=>mU (cp F) (jV (cp F) ((aP false (.al x y)).getLastD .cg) (aP false (.al x y)).dropLast b) ((aP false (.al x y)).getLastD .cg) (aP false (.al x y)).dropLast b
 |_+1,.sg x,_=>[.one x]
 |_+1,.cg,_=>[.lT]
 |_+1,.eU,_=>[.ot]
 |_+1,.fail,_=>[.fail]
theorem Lh{F n q b}:cp (F+1) (.nw n q) b=.mark::(cp F n (b+1)++[.set q]):=rfl
theorem zw{F n b}:cp (F+1) (.rp n) b=.split (b+2)::.dH (b+3+(cp F n (b+3)).length+2)::.mark::(cp F n (b+3)++[.jr,.dH b]):=rfl
theorem Ph{F x y b}:cp (F+1) (.ca x y) b=rC (cp F) (gm (aP true (.ca x y))) b:=rfl
theorem FD{F x y b}:cp (F+1) (.al x y) b=mU (cp F) (jV (cp F) ((aP false (.al x y)).getLastD .cg) (aP false (.al x y)).dropLast b) ((aP false (.al x y)).getLastD .cg) (aP false (.al x y)).dropLast b:=rfl
noncomputable def gQ:List Nd->Nat
 |[]=>0
 |n::r=>sz n+gQ r
theorem Sn:gQ ([])=0:=rfl
theorem mV{n r}:gQ (n::r)=sz n+gQ r:=rfl
theorem mW:∀(a b:List Nd),gQ (a++b)=gQ a+gQ b
 |[],b=>(fG _).symm
 |k::r,b=>by rw[td,mV,mV,mW r b,dU]
theorem BW:∀ a:List Nd,gQ a.reverse=gQ a
 |[]=>rfl
 |k::r=>by rw[eM,mW,BW r,mV,Sn,mV,Nat.add_zero,kh]
theorem hZ(k:Bool):∀ n,gQ (aP k n)+(aP k n).length=sz n+1
 |.sg _=>rfl
 |.cg=>rfl
 |.eU=>rfl
 |.fail=>rfl
 |.rp _=>rfl
 |.nw _ _=>rfl
 |.al a b=>by
  have ha:=hZ k a
  have hb:=hZ k b
  cases k
  ·show gQ (_++_)+(_++_:List Nd).length=sz a+sz b+1+1
   rw[mW,aH];exact iQ (nt (am [_,_,_,_,_,_] (.d (.a ab ac) (.s ar) (.d (.a aA bH) (.s iK) (.d (.s (.s (.s (.a ar iK)))) (.a (.a ab aA) (.a ac bH)) .z))) rfl (bk ha) (bk hb))) (nt (am [_,_,_,_,_,_] (.d (.s ab) (.a ac ar) (.d (.s aA) (.a bH iK) (.d (.s (.a (.a ac bH) (.a ar iK))) (.s (.s (.a ab aA))) .z))) rfl (bk (bV ha)) (bk (bV hb))))
  ·rfl
 |.ca a b=>by
  have ha:=hZ k a
  have hb:=hZ k b
  cases k
  ·rfl
  ·show gQ (_++_)+(_++_:List Nd).length=sz a+sz b+1+1
   rw[mW,aH];exact iQ (nt (am [_,_,_,_,_,_] (.d (.a ab ac) (.s ar) (.d (.a aA bH) (.s iK) (.d (.s (.s (.s (.a ar iK)))) (.a (.a ab aA) (.a ac bH)) .z))) rfl (bk ha) (bk hb))) (nt (am [_,_,_,_,_,_] (.d (.s ab) (.a ac ar) (.d (.s aA) (.a bH iK) (.d (.s (.a (.a ac bH) (.a ar iK))) (.s (.s (.a ab aA))) .z))) rfl (bk (bV ha)) (bk (bV hb))))
theorem gw(k:Bool):∀ n,1<=(aP k n).length
 |.sg _=>aC _
 |.cg=>aC _
 |.eU=>aC _
 |.fail=>aC _
 |.rp _=>aC _
 |.nw _ _=>aC _
 |.al a b=>by
  have ha:=gw k a
  cases k
  ·show 1<=(_++_:List Nd).length
   rw[aH];exact nt (am [_,_] (.d (.n 1) ab (.d (.s (.a ab ac)) (.n 1) .z)) rfl ha)
  ·exact aC _
 |.ca a b=>by
  have ha:=gw k a
  cases k
  ·exact aC _
  ·show 1<=(_++_:List Nd).length
   rw[aH];exact nt (am [_,_] (.d (.n 1) ab (.d (.s (.a ab ac)) (.n 1) .z)) rfl ha)
theorem zx(a b:Nd):2<=(aP true (.ca a b)).length:=by
 have ha:=gw true a
 have hb:=gw true b
 show 2<=(_++_:List Nd).length
 rw[aH];exact nt (am [_,_] (.d (.n 1) ab (.d (.n 1) ac (.d (.s (.a ab ac)) (.n 2) .z))) rfl ha hb)
theorem qB(a b:Nd):2<=(aP false (.al a b)).length:=by
 have ha:=gw false a
 have hb:=gw false b
 show 2<=(_++_:List Nd).length
 rw[aH];exact nt (am [_,_] (.d (.n 1) ab (.d (.n 1) ac (.d (.s (.a ab ac)) (.n 2) .z))) rfl ha hb)
theorem Oj(r:List Nd)(n:Nd):gQ (jR r n)<=gQ r+sz n:=
 qu (P:=λr n r'=>gQ r'<=gQ r+sz n) (λ_ _=>bk (kh _ _)) (λ_=>cC _ _) (λ_ _ _ _=>cC _ _) r n
theorem ow:∀(l r:List Nd),gQ (l.foldl jR r)<=gQ r+gQ l
 |[],r=>aC _
 |n::l,r=>by
  have h1:=ow l (jR r n)
  have h2:=Oj r n
  rw[wp,mV];exact nt (am [_,_,_,_,_] (.d ab (.a ac ar) (.d ac (.a aA bH) (.d (.s (.a aA (.a bH ar))) ab .z))) rfl h1 h2)
theorem vy(l:List Nd):gQ (gm l)<=gQ l:=by
 rw[gm,BW]
 exact bj (ow l []) (bk (fG _))
theorem vz:∀ ps:List Nd,i3 (ps.map Wk.put)=6*gQ ps
 |[]=>rfl
 |n::r=>by rw[fR,o8,vz r,mV,Nat.mul_add];rfl
theorem FE(e:Nat)(z:Nd):∀ ps:List Nd,i3 (nW e z ps)=6*gQ ps+4*ps.length+6*sz z+1
 |[]=>by show 6*sz z+1=0+0+_+1;exact kS [_] (.s (.m 6 ab)) (.s (.a (.a (.n 0) (.n 0)) (.m 6 ab))) rfl
 |n::r=>by
  show 2+(6*sz n+(2+i3 (nW e z r)))=6*(sz n+gQ r)+4*(r.length+1)+6*sz z+1
  rw[FE e z r];exact kS [_,_,_,_] (.a (.n 2) (.a (.m 6 ab) (.a (.n 2) (.s (.a (.a (.m 6 ac) (.m 4 ar)) (.m 6 aA)))))) (.s (.a (.a (.m 6 (.a ab ac)) (.m 4 (.s ar))) (.m 6 aA))) rfl
theorem BX{g:Nd->Nat->List Od}(qA:∀ n b,(g n b).length<=6*sz n):∀(ps:List Nd)(b:Nat),(rC g ps b).length<=6*gQ ps
 |[],b=>aC _
 |n::r,b=>by
  have h1:=qA n b
  have h2:=BX qA r (b+(g n b).length)
  rw[zv,aH,mV];exact nt (am [_,_,_,_] (.d ab (.m 6 ac) (.d ar (.m 6 aA) (.d (.s (.m 6 (.a ac aA))) (.a ab ar) .z))) rfl h1 h2)
theorem FF{g:Nd->Nat->List Od}(qA:∀ n b,(g n b).length<=6*sz n)(e:Nat)(z:Nd):∀(ps:List Nd)(b:Nat),(mU g e z ps b).length<=6*gQ ps+2*ps.length+6*sz z
 |[],b=>by have:=qA z b;show(g z b).length<=0+0+_;exact nt (am [_,_] (.d ab (.m 6 ac) (.d (.s (.a (.a (.n 0) (.n 0)) (.m 6 ac))) ab .z)) rfl this)
 |n::r,b=>by
  have h1:=qA n (b+1)
  have h2:=FF qA e z r (b+(g n (b+1)).length+2)
  rw[o9,cw,aH,cw,mV,cw];exact nt (am [_,_,_,_,_,_] (.d ab (.m 6 ac) (.d ar (.a (.a (.m 6 aA) (.m 2 bH)) (.m 6 iK)) (.d (.s (.a (.a (.m 6 (.a ac aA)) (.m 2 (.s bH))) (.m 6 iK))) (.s (.a ab (.s ar))) .z))) rfl h1 h2)
theorem vA{l:List Nd}(h:1<=l.length)(x:Nd):l=l.dropLast++[l.getLastD x]:=by
  induction l using List.casesOn with
 |nil=>cases h
 |cons a r=>rw[List.getLastD_cons,← List.getLast_eq_getLastD (List.cons_ne_nil a r)];exact(List.dropLast_concat_getLast _).symm
theorem FG(a b:Nd):6*gQ (aP false (.al a b)).dropLast+4*(aP false (.al a b)).dropLast.length+6*sz ((aP false (.al a b)).getLastD .cg)+2<=6*sz (.al a b):=by
 have h2:=qB a b
 have h1:=hZ false (.al a b)
 have h3:=vA (lL h2) .cg
 rw[h3,mW,aH] at h1
 rw[h3,aH] at h2
 have h4:∀ z,gQ [z]=sz z:=λz=>rfl
 rw[h4] at h1
 have h5:∀ z:Nd,[z].length=1:=λz=>rfl
 rw[h5] at h1 h2
 exact nt (am [_,_,_,_] (.c 2 (.n 2) (.s ab) (.c 6 (.a (.a ac ar) (.s ab)) (.s aA) (.d (.s (.m 6 aA)) (.a (.a (.a (.m 6 ac) (.m 4 ab)) (.m 6 ar)) (.n 2)) .z))) rfl h2 (bk h1))
theorem ip:∀(F:Nat)(n:Nd)(b:Nat),(cp F n b).length<=6*sz n
 |0,n,b=>cj _
 |F+1,.sg _,b=>by show 1<=6*1;decide
 |F+1,.cg,b=>by show 1<=6*1;decide
 |F+1,.eU,b=>by show 1<=6*1;decide
 |F+1,.fail,b=>by show 1<=6*1;decide
 |F+1,.nw n q,b=>by
  have:=ip F n (b+1)
  rw[Lh,cw,aH]
  show _+1+1<=6*(sz n+1)
  exact nt (am [_,_] (.d ab (.m 6 ac) (.d (.s (.m 6 (.s ac))) (.s (.s ab)) .z)) rfl this)
 |F+1,.rp n,b=>by
  have:=ip F n (b+3)
  rw[zw,cw,cw,cw,aH]
  show _+2+1+1+1<=6*(sz n+1)
  exact nt (am [_,_] (.d ab (.m 6 ac) (.d (.s (.m 6 (.s ac))) (.s (.s (.s (.a ab (.n 2))))) .z)) rfl this)
 |F+1,.ca x y,b=>by
  have h:=BX (ip F) (gm (aP true (.ca x y))) b
  have h1:=hZ true (.ca x y)
  have h2:=gw true (.ca x y)
  have h3:=vy (aP true (.ca x y))
  rw[Ph];exact nt (am [_,_,_,_,_] (.d ab (.m 6 ac) (.c 6 (.a ar aA) (.s bH) (.c 6 (.n 1) aA (.c 6 ac ar (.d (.s (.m 6 bH)) ab .z))))) rfl h (bk h1) h2 h3)
 |F+1,.al x y,b=>by
  have h:=FF (ip F) (jV (cp F) ((aP false (.al x y)).getLastD .cg) (aP false (.al x y)).dropLast b) ((aP false (.al x y)).getLastD .cg) (aP false (.al x y)).dropLast b
  have h1:=FG x y
  rw[FD];exact nt (am [_,_,_,_,_] (.d ab (.a (.a (.m 6 ac) (.m 2 ar)) (.m 6 aA)) (.d (.a (.a (.a (.m 6 ac) (.m 4 ar)) (.m 6 aA)) (.n 2)) (.m 6 bH) (.d (.s (.m 6 bH)) ab .z))) rfl h h1)
noncomputable def sm:Nd->Prop
 |.sg (.ch t)=>t.length<=2
 |.rp n=>sm n
 |.nw n _=>sm n
 |.al a b=>sm a/\sm b
 |.ca a b=>sm a/\sm b
 |_=>True
theorem dK(k:Bool):∀(n p:Nd),p∈aP k n->sz p<=sz n/\(sm n->sm p)
 |.sg _,p,h=>by rw[dA.mp h];exact⟨aC _,id⟩
 |.cg,p,h=>by rw[dA.mp h];exact⟨aC _,id⟩
 |.eU,p,h=>by rw[dA.mp h];exact⟨aC _,id⟩
 |.fail,p,h=>by rw[dA.mp h];exact⟨aC _,id⟩
 |.rp _,p,h=>by rw[dA.mp h];exact⟨aC _,id⟩
 |.nw _ _,p,h=>by rw[dA.mp h];exact⟨aC _,id⟩
 |.al a b,p,h=>by
  cases k
  ·rcases eW.mp h with h|h
   ·obtain⟨h1,h2⟩:=dK false a p h
    exact⟨by rw[Fw];exact nt (am [_,_,_] (.d ab ac (.d (.s (.s (.a ac ar))) ab .z)) rfl h1),λs=>h2 s.1⟩
   ·obtain⟨h1,h2⟩:=dK false b p h
    exact⟨by rw[Fw];exact nt (am [_,_,_] (.d ab ac (.d (.s (.s (.a ar ac))) ab .z)) rfl h1),λs=>h2 s.2⟩
  ·rw[dA.mp h];exact⟨aC _,id⟩
 |.ca a b,p,h=>by
  cases k
  ·rw[dA.mp h];exact⟨aC _,id⟩
  ·rcases eW.mp h with h|h
   ·obtain⟨h1,h2⟩:=dK true a p h
    exact⟨by rw[Fy];exact nt (am [_,_,_] (.d ab ac (.d (.s (.s (.a ac ar))) ab .z)) rfl h1),λs=>h2 s.1⟩
   ·obtain⟨h1,h2⟩:=dK true b p h
    exact⟨by rw[Fy];exact nt (am [_,_,_] (.d ab ac (.d (.s (.s (.a ar ac))) ab .z)) rfl h1),λs=>h2 s.2⟩
theorem vB{a b p:Nd}(h:p∈aP true (.ca a b)):sz p<sz (.ca a b):=by
 have:=λh=>(dK true a p h).1
 have:=λh=>(dK true b p h).1
 rw[Fy]
 rcases eW.mp (show p∈aP true a++aP true b from h) with h|h
 ·have:=(dK true a p h).1;exact nl (am [_,_,_] (.d ab ac (.d (.s (.a ac ar)) ab .z)) rfl this)
 ·have:=(dK true b p h).1;exact nl (am [_,_,_] (.d ab ac (.d (.s (.a ar ac)) ab .z)) rfl this)
theorem vC{a b p:Nd}(h:p∈aP false (.al a b)):sz p<sz (.al a b):=by
 rw[Fw]
 rcases eW.mp (show p∈aP false a++aP false b from h) with h|h
 ·have:=(dK false a p h).1;exact nl (am [_,_,_] (.d ab ac (.d (.s (.a ac ar)) ab .z)) rfl this)
 ·have:=(dK false b p h).1;exact nl (am [_,_,_] (.d ab ac (.d (.s (.a ar ac)) ab .z)) rfl this)
theorem FH:∀ l:List Nd,(∀ p∈l,sm p)->qv l<=2*l.length
 |[],_=>aC _
 |n::r,h=>by
  have h1:tx n<=2:=by
    have:=h n (.head _)
    induction n using Nd.casesOn with
   |sg x=>induction x with
     |ch t=>exact this
     |_=>exact cj _
   |_=>exact cj _
  have h2:=FH r λp hp=>h p (.tail _ hp)
  rw[Sb,cw];exact nt (am [_,_,_] (.d ab (.n 2) (.d ac (.m 2 ar) (.d (.s (.m 2 (.s ar))) (.a ab ac) .z))) rfl h1 h2)
theorem Ok{r:List Nd}{n p:Nd}:p∈jR r n->p∈r\/p=n\/gP p=true:=
 qu (P:=λr n r'=>p∈r'->p∈r\/p=n\/gP p=true) (λ_ _ h=>(fm.mp h).elim (λh=>.inr (.inl h)) .inl) (λ_ h=>.inl h) (λ_ _ _ _ h=>(fm.mp h).elim (λh=>.inr (.inr (by rw[h];rfl))) λh=>.inl (.tail _ h)) r n
theorem vD{l:List Nd}{p:Nd}(h:p∈gm l):p∈l\/gP p=true:=by
  have:∀(l r:List Nd),p∈l.foldl jR r->p∈r\/p∈l\/gP p=true:=λl=>by
    induction l with
   |nil=>intro r h;exact .inl h
   |cons n l ih=>
      intro r h
      rcases ih _ h with h|h|h
      · rcases Ok h with h|h|h
        · exact .inl h
        · rw[h];exact .inr (.inl (.head _))
        · exact .inr (.inr h)
      · exact .inr (.inl (.tail _ h))
      · exact .inr (.inr h)
  rcases this l [] (List.mem_reverse.mp h) with h|h
  · cases h
  · exact h
theorem Li{p:Nd}(h:gP p=true):sz p=1:=by
  induction p using Nd.casesOn with
 |sg x=>rfl
 |_=>exact ff h
theorem FK{H y:Hp}{i:Nat}{x:O}:H.length<=(H.set i x++y).length:=by rw[aH,dB];exact cC _ _
section
variable {own:List FI}{d:Nat}{co ol wl:Nat}{n0:V}
noncomputable def UH(own:List FI)(d co:Nat)(n:Nd)(od:Od)(rl:List V):Prop:=∀⦃H:Hp⦄⦃ol:Nat⦄⦃X:List V⦄,H[co]?=some (.inst 0 [(0,.loc ol)])->H[ol]?=some (.list X)->co≠ol->X.length<lim->ae (au own) (d+2) 6 [.loc co,nV n] H=some (.loc (H.set ol (.list (X++[oV od]))).length,H.set ol (.list (X++[oV od]))++[O.list rl])
theorem nG{n:Nd}{od:Od}(bg:UH own (d+1) co n od [])(hs:6*sz n=6):NodeOk own (d+3) co ol wl n0 (λ_ _=>[od]) n:=λX W H y y2 t hb=>by
 have hW:=iH W
 obtain⟨a,b,H3,t3,f3,g3,l3,lp⟩:=qz (it:=[]) (n0:=n0) (y:=y) (y2:=y2) t (bg (aa t.n2 t.jt) (aa t.ne.symm t.md) t.n1 (dg (by exact nl (am [_,_,_] (.d (.s (.a (.a ab ac) (.m 6 ar))) (.n 100000) (.d (.n 6) (.m 6 ar) (.d (.n 100000) ab .z))) rfl hb (bk (bV hs)))))) FK (ag (aw (aa t.ne.symm t.md))) ai (λi x h1 h=>ag (aa h1.symm h)) (dg (by show W.length+0<_;exact nl (am [_,_,_,_] (.d (.s (.a (.a ab ac) (.m 6 ar))) (.n 100000) (.d (.n 6) (.m 6 ar) (.d aA ac (.d (.n 100000) (.a aA (.n 0)) .z)))) rfl hb (bk (bV hs)) hW)))
 rw[pv,ce] at t3
 exact⟨_,_,H3,t3,f3,lp.mono (by exact nt (am [_] (.d (.n 6) (.m 6 ab) (.d (.s (.m 6 ab)) (.n 1) .z)) rfl (bk (bV hs))))⟩
theorem DL{n n':Nd}{od:Od}{g:Nd->Nat->List Od}(bg:UH own (d+1) co n' .mark [iU (nV n),xF (oV od)])(hs:6*sz n'=6*sz n+6)(qA:∀ b,(g n b).length<=6*sz n)(hn:NodeOk own (d+3) co ol wl n0 g n):NodeOk own (d+3) co ol wl n0 (λ_ b=>.mark::(g n (b+1)++[od])) n':=λX W H y y2 t hb=>by
 have hW:=iH W
 obtain⟨a,b,H3,t3,f3,g3,l3,lp⟩:=qz (it:=[.put n,.emit od]) (n0:=n0) (y:=y) (y2:=y2) t (bg (aa t.n2 t.jt) (aa t.ne.symm t.md) t.n1 (dg (by exact nl (am [_,_,_,_] (.d (.s (.a (.a ab ac) (.m 6 ar))) (.n 100000) (.d (.a (.m 6 aA) (.n 6)) (.m 6 ar) (.d (.n 100000) ab .z))) rfl hb (bk (bV hs)))))) FK (ag (aw (aa t.ne.symm t.md))) ai (λi x h1 h=>ag (aa h1.symm h)) (dg (by show W.length+2<_;exact nl (am [_,_,_,_,_] (.d (.s (.a (.a ab ac) (.m 6 ar))) (.n 100000) (.d (.a (.m 6 aA) (.n 6)) (.m 6 ar) (.d bH ac (.d (.n 100000) (.a bH (.n 2)) .z)))) rfl hb (bk (bV hs)) hW)))
 have So:PS co ol wl (X++[oV .mark]) (W++[.emit od]++[.put n]) H3:=by rw[bZ];exact t3
 have hx:(X++[oV .mark]).length=X.length+1:=by rw[aH];rfl
 have hc:=qA (X.length+1)
 obtain⟨a4,b4,H4,t4,f4,DM⟩:=hn (y:=some a) (y2:=some b) So (by rw[hx,fu];show _+(_+1)+_<_;exact nl (am [_,_,_,_] (.d (.s (.a (.a ab ac) (.m 6 ar))) (.n 100000) (.d (.a (.m 6 aA) (.n 6)) (.m 6 ar) (.d (.n 100000) (.a (.a (.s ab) (.s ac)) (.m 6 aA)) .z))) rfl hb (bk (bV hs))))
 rw[hx] at t4
 obtain⟨a5,b5,H5,t5,f5,Sp⟩:=vp (own:=own) (d:=d+2) (n0:=n0) (y:=a4) (y2:=b4) t4 (dg (by rw[aH,hx,cT];exact nl (am [_,_,_,_,_] (.d (.s (.a (.a ab ac) (.m 6 ar))) (.n 100000) (.d (.a (.m 6 aA) (.n 6)) (.m 6 ar) (.d bH (.m 6 aA) (.d (.n 100000) (.a (.s ab) bH) .z)))) rfl hb (bk (bV hs)) hc)))
 refine⟨_,_,H5,?_,(f3.trans f4).trans f5,((lp.trans DM).trans Sp).mono (by exact nt (am [_,_] (.d (.a (.m 6 ab) (.n 6)) (.m 6 ac) (.d (.s (.m 6 ac)) (.s (.a (.n 1) (.m 6 ab))) .z)) rfl (bk (bV hs))))⟩
 rw[fR,lK]
 have e5:∀(X C:List V)(a b:V),X++[a]++C++[b]=X++a::(C++[b]):=λX C a b=>by rw[bZ,bZ];rfl
 rw[e5] at t5
 exact t5
theorem fv:∀(F:Nat)(n:Nd),sz n<=F->sz n<1000->(gP n=true\/sm n)->NodeOk own (d+3) co ol wl n0 (cp F) n
 |0,n,h,_,_=>absurd (qy n) (by exact am [_] (.d ab (.n 0) (.d (.n 1) ab .z)) rfl h)
 |F+1,.sg x,h,h1,h2=>λX W H y y2 t hb=>nG (λH ol X=>Ib) rfl t hb
 |F+1,.cg,h,h1,h2=>λX W H y y2 t hb=>nG (λH ol X=>DH) rfl t hb
 |F+1,.eU,h,h1,h2=>λX W H y y2 t hb=>nG (λH ol X=>DI) rfl t hb
 |F+1,.fail,h,h1,h2=>λX W H y y2 t hb=>nG (λH ol X=>BN) rfl t hb
 |F+1,.nw n q,h,h1,h2=>λX W H y y2 t hb=>DL (g:=cp F) (λH ol X=>Ic) (Nat.mul_add _ _ _) (ip F n) (fv F n (wj h) (Nat.lt_of_succ_lt h1) (h2.elim (λh=>by exact ff h) .inr)) t hb
 |F+1,.rp n,h,h1,h2=>λX W H y y2 t hb=>by
  have hs:6*sz (.rp n)=6*sz n+6:=Nat.mul_add _ _ _
  have hW:=iH W
  have h:sz n+1<=F+1:=h
  have h1:sz n+1<1000:=h1
  rw[hs] at hb
  refine BO (own:=own) (d:=d) (n:=n) (aa t.n2 t.jt) (aa t.ne.symm t.md) t.n1 (H:=H.set wl (.list (W.map lB))) (by unfold lim;exact nl (am [_,_,_] (.d (.s (.a (.a ab ac) (.a (.m 6 ar) (.n 6)))) (.n 100000) (.d (.n 1048576) (.a ab (.n 3)) .z)) rfl hb)) λr e e1 H2 e2 nO hr he kM rD pb hk hl=>?_
  obtain⟨a,b,H3,t3,f3,g3,l3,lp⟩:=qz (it:=[.put n,.emit .jr,.emit (.dH X.length),.met e]) (n0:=n0) (y:=y) (y2:=y2) t e2 hl nO hr (λi x h1 h=>hk i x h1 h) (dg (by show W.length+4<_;exact nl (am [_,_,_,_] (.d (.s (.a (.a ab ac) (.a (.m 6 ar) (.n 6)))) (.n 100000) (.d aA ac (.d (.n 100000) (.a aA (.n 4)) .z))) rfl hb hW)))
  have DK:(X++[oV (.split (X.length+2)),.none,oV .mark]).length=X.length+3:=by rw[aH];rfl
  have So:PS co ol wl (X++[oV (.split (X.length+2)),.none,oV .mark]) (W++[.met e]++[.emit (.dH X.length)]++[.emit .jr]++[.put n]) H3:=by
   simp only[bZ];exact t3
  rw[dB] at rD
  have k1:=dM (cv t.md) rD
  have k2:=dM (cv t.iN) rD
  have al:Al e e1 (.int X.length) [X.length+1] ol wl H H3:=⟨g3 _ _ (by exact df (nl (am [_,_,_] (.d (.s ab) ac (.d (.s ar) ab (.d ac ar .z))) rfl pb k2))) he,g3 _ _ (by exact df (nl (am [_,_] (.d (.s ab) ac (.d ac ab .z)) rfl k2))) kM,by exact dt (nl (am [_,_,_] (.d (.s ab) ac (.d (.s ar) ab (.d ac ar .z))) rfl pb k1)),by exact dt (nl (am [_,_] (.d (.s ab) ac (.d ac ab .z)) rfl k1)),by exact dt (nl (am [_,_,_] (.d (.s ab) ac (.d (.s ar) ab (.d ac ar .z))) rfl pb k2)),by exact dt (nl (am [_,_] (.d (.s ab) ac (.d ac ab .z)) rfl k2)),by exact dt (nl (am [_,_] (.d (.s ab) ac (.d ac ab .z)) rfl pb)),by exact nt (am [_,_,_] (.d ab ac (.d (.s ac) ar (.d (.s ar) ab .z))) rfl rD pb),rD,f3⟩
  have hc:=ip F n (X.length+3)
  obtain⟨a4,b4,H4,t4,f4,DM⟩:=fv F n (by exact nt (am [_,_] (.d (.s ab) (.s ac) (.d (.s ac) ab .z)) rfl h)) (by exact nl (am [_] (.d (.s (.s ab)) (.n 1000) (.d (.n 1000) ab .z)) rfl h1)) (h2.elim (λh=>by exact ff h) .inr) (y:=some a) (y2:=some b) So (by rw[DK,fu,fu,fu];show _+(_+1+1+1)+_<_;exact nl (am [_,_,_] (.d (.s (.a (.a ab ac) (.a (.m 6 ar) (.n 6)))) (.n 100000) (.d (.n 100000) (.a (.a (.a ab (.n 3)) (.s (.s (.s ac)))) (.m 6 ar)) .z)) rfl hb))
  rw[DK] at t4
  have UI:(X++[oV (.split (X.length+2)),.none,oV .mark]++(cp F n (X.length+3)).map oV).length=X.length+3+(cp F n (X.length+3)).length:=by rw[aH,DK,cT]
  obtain⟨a5,b5,H5,t5,f5,Sp⟩:=vp (own:=own) (d:=d+2) (n0:=n0) (y:=a4) (y2:=b4) t4 (dg (by rw[UI];exact nl (am [_,_,_,_] (.d (.s (.a (.a ab ac) (.a (.m 6 ar) (.n 6)))) (.n 100000) (.d aA (.m 6 ar) (.d (.n 100000) (.a (.a ab (.n 3)) aA) .z))) rfl hb hc)))
  have Ol:(X++[oV (.split (X.length+2)),.none,oV .mark]++(cp F n (X.length+3)).map oV++[oV .jr]).length=X.length+3+(cp F n (X.length+3)).length+1:=by rw[aH,UI];rfl
  obtain⟨a6,b6,H6,t6,f6,WO⟩:=vp (own:=own) (d:=d+2) (n0:=n0) (y:=a5) (y2:=b5) t5 (dg (by rw[Ol];exact nl (am [_,_,_,_] (.d (.s (.a (.a ab ac) (.a (.m 6 ar) (.n 6)))) (.n 100000) (.d aA (.m 6 ar) (.d (.n 100000) (.s (.a (.a ab (.n 3)) aA)) .z))) rfl hb hc)))
  have UJ:(X++[oV (.split (X.length+2)),.none,oV .mark]++(cp F n (X.length+3)).map oV++[oV .jr]++[oV (.dH X.length)]).length=X.length+3+(cp F n (X.length+3)).length+2:=by rw[aH,Ol];rfl
  obtain⟨a7,b7,H7,t7,f7,WP⟩:=FA (own:=own) (d:=d+2) (n0:=n0) (y:=a6) (y2:=b6) t6 (((al.Lg f4).Lg f5).Lg f6) (by show 1<1000;decide) (λp hp=>by rw[dA.mp hp,UJ];exact nl (am [_,_] (.d (.a (.a (.a ab (.n 3)) ac) (.n 2)) (.s ab) .z) rfl))
  refine⟨_,_,H7,?_,f7,((((lp.trans DM).trans Sp).trans WO).trans WP).mono (by rw[hs];exact nt (am [_] (.d (.s (.a (.m 6 ab) (.n 6))) (.s (.s (.s (.a (.n 1) (.m 6 ab))))) .z) rfl))⟩
  rw[UJ] at t7
  have hX:patch (X.length+3+(cp F n (X.length+3)).length+2) [X.length+1] (X++[oV (.split (X.length+2)),.none,oV .mark]++(cp F n (X.length+3)).map oV++[oV .jr]++[oV (.dH X.length)])=X++(cp (F+1) (.rp n) X.length).map oV:=by
   rw[zw]
   show(X++[oV (.split (X.length+2)),.none,oV .mark]++(cp F n (X.length+3)).map oV++[oV .jr]++[oV (.dH X.length)]).set (X.length+1) (qw (X.length+3+(cp F n (X.length+3)).length+2))=_
   rw[bZ,bZ,bZ]
   have e9:∀(A:List V)(p q z u:V)(B:List V),(A++([p,q,z]++B)).set (A.length+1) u=A++([p,u,z]++B):=λA p q z u B=>by
    rw[zT _ _ (cC _ 1),xW];rfl
   rw[e9,fR,fR,fR,lK];rfl
  rw[hX] at t7
  exact t7
 |F+1,.ca x y',h,h1,h2=>λX W H y y2 t hb=>by
  have hW:=iH W
  have r1:=hZ true (.ca x y')
  have r2:=zx x y'
  have r3:=vy (aP true (.ca x y'))
  have r4:=vm (aP true (.ca x y'))
  have Om:sm (.ca x y'):=h2.elim (λh=>by exact ff h) id
  have r5:=FH (aP true (.ca x y')) λp hp=>(dK true _ p hp).2 Om
  refine BP (own:=own) (d:=d) (co:=co) (H:=H.set wl (.list (W.map lB))) (a:=x) (b:=y') h1 (by exact nl (am [_,_,_,_] (.c 2 (.s ab) (.n 1000) (.c 2 (.a ac ar) (.s ab) (.d aA (.m 2 ar) (.d (.n 100000) aA .z)))) rfl h1 (bk r1) r5)) λr H2 e2 g2 hr=>?_
  obtain⟨a,b,H3,t3,f3,g3,l3,lp⟩:=qz (it:=(gm (aP true (.ca x y'))).map Wk.put) (n0:=n0) (y:=y) (y2:=y2) t e2 g2.len (g2.at (aa t.ne.symm t.md)) (by rw[te];exact hr) (λi x h1 h=>g2.at h) (dg (by rw[cT];exact nl (am [_,_,_,_,_,_,_] (.d (.s (.a (.a ab ac) (.m 6 ar))) (.n 100000) (.d aA ac (.c 6 (.a bH iK) (.s ar) (.c 5 (.n 2) iK (.d Gg iK (.d (.n 100000) (.a aA Gg) .z)))))) rfl hb hW (bk r1) r2 r4)))
  obtain⟨a4,b4,H4,t4,f4,DM⟩:=BR (own:=own) (d:=d+3) (n0:=n0) (g:=cp F) (ip F) (gm (aP true (.ca x y'))) (λn hn=>by
   rcases vD hn with hn|hn
   ·have:=vB hn
    exact fv F n (by exact nt (am [_,_,_] (.d ab (.s ac) (.d (.s ar) ab (.d (.s ac) ar .z))) rfl h this)) (by exact nl (am [_,_] (.d (.s ab) (.n 1000) (.d (.s ac) ab (.d (.n 1000) ac .z))) rfl h1 this)) (.inr ((dK true _ n hn).2 Om))
   ·have:=Li hn
    have:=qy x
    have h0:sz (.ca x y')=sz x+sz y'+1:=rfl
    exact fv F n (by omega) (by omega) (.inl hn)) (y:=some a) (y2:=some b) t3 (by rw[vz];exact nl (am [_,_,_,_,_,_] (.d (.s (.a (.a ab ac) (.m 6 ar))) (.n 100000) (.c 6 (.a aA bH) (.s ar) (.c 6 (.n 2) bH (.c 6 iK aA (.d (.n 100000) (.a (.a ab ac) (.m 6 iK)) .z))))) rfl hb (bk r1) r2 r3))
  exact⟨_,_,H4,t4,f3.trans f4,(lp.trans DM).mono (by rw[vz];exact nt (am [_,_,_,_] (.c 6 (.a ab ac) (.s ar) (.c 6 (.n 2) ac (.c 6 aA ab (.d (.s (.m 6 ar)) (.a (.n 1) (.m 6 aA)) .z)))) rfl (bk r1) r2 r3))⟩
 |F+1,.al x y',h,h1,h2=>λX W H y y2 t hb=>by
  have hW:=iH W
  have r1:=FG x y'
  have r2:=vA (lL (qB x y')) .cg
  have r3:=fE false (.al x y')
  have hm:∀ n∈aP false (.al x y'),NodeOk own (d+3) co ol wl n0 (cp F) n:=λn hn=>by
   have:=vC hn
   exact fv F n (by exact nt (am [_,_,_] (.d ab (.s ac) (.d (.s ar) ab (.d (.s ac) ar .z))) rfl h this)) (by exact nl (am [_,_] (.d (.s ab) (.n 1000) (.d (.s ac) ab (.d (.n 1000) ac .z))) rfl h1 this)) (.inr ((dK false _ n hn).2 (h2.elim (λh=>by exact ff h) id)))
  rw[FD]
  generalize (aP false (.al x y')).dropLast=ps at *
  generalize (aP false (.al x y')).getLastD .cg=z at *
  rw[r2] at r3 hm
  rw[aH] at r3
  have WQ:ps.length+1<=sz (.al x y'):=r3
  refine BQ (own:=own) (d:=d) (a:=x) (b:=y') (aa t.n2 t.jt) h1 r2 (H:=H.set wl (.list (W.map lB))) λr e e1 H2 e2 g2 hr he kM rD pb=>?_
  have Sq:=FE e z ps
  have MX:=iH (nW e z ps)
  rw[FC] at hr
  obtain⟨a,b,H3,t3,f3,g3,l3,lp⟩:=qz (it:=nW e z ps) (n0:=n0) (y:=y) (y2:=y2) t e2 g2.len (g2.at (aa t.ne.symm t.md)) hr (λi x h1 h=>g2.at h) (dg (by exact nl (am [_,_,_,_,_,_,_,_,_] (.d (.s (.a (.a ab ac) (.m 6 ar))) (.n 100000) (.d aA ac (.d (.a (.a (.a (.m 6 bH) (.m 4 iK)) (.m 6 Gg)) (.n 2)) (.m 6 ar) (.d (.v 7) (.s (.a (.a (.m 6 bH) (.m 4 iK)) (.m 6 Gg))) (.d (.v 8) (.v 7) (.d (.n 100000) (.a aA (.v 8)) .z)))))) rfl hb hW r1 (bk Sq) MX)))
  rw[dB] at rD
  have k1:=dM (cv t.md) rD
  have k2:=dM (cv t.iN) rD
  have al:Al e e1 (.int (-1)) [] ol wl H H3:=⟨g3 _ _ (by exact df (nl (am [_,_,_] (.d (.s ab) ac (.d (.s ar) ab (.d ac ar .z))) rfl pb k2))) he,g3 _ _ (by exact df (nl (am [_,_] (.d (.s ab) ac (.d ac ab .z)) rfl k2))) kM,by exact dt (nl (am [_,_,_] (.d (.s ab) ac (.d (.s ar) ab (.d ac ar .z))) rfl pb k1)),by exact dt (nl (am [_,_] (.d (.s ab) ac (.d ac ab .z)) rfl k1)),by exact dt (nl (am [_,_,_] (.d (.s ab) ac (.d (.s ar) ab (.d ac ar .z))) rfl pb k2)),by exact dt (nl (am [_,_] (.d (.s ab) ac (.d ac ab .z)) rfl k2)),by exact dt (nl (am [_,_] (.d (.s ab) ac (.d ac ab .z)) rfl pb)),by exact nt (am [_,_,_] (.d ab ac (.d (.s ac) ar (.d (.s ar) ab .z))) rfl rD pb),rD,f3⟩
  obtain⟨a4,b4,H4,t4,f4,DM⟩:=BV (own:=own) (d:=d+1) (n0:=n0) (g:=cp F) (ip F) (hm z (ti _ (.head _))) ps (λn hn=>hm n (pu _ hn)) (y:=some a) (y2:=some b) t3 al (by exact nl (am [_,_,_,_,_,_,_] (.d (.s (.a (.a ab ac) (.m 6 ar))) (.n 100000) (.d (.a (.a (.a (.m 6 aA) (.m 4 bH)) (.m 6 iK)) (.n 2)) (.m 6 ar) (.d Gg (.s (.a (.a (.m 6 aA) (.m 4 bH)) (.m 6 iK))) (.d (.n 100000) (.a (.a ab ac) Gg) .z)))) rfl hb r1 (bk Sq))) (by show 0+_<_;exact nl (am [_,_] (.d (.s ab) (.n 1000) (.d (.s ac) ab (.d (.n 1000) (.a (.n 0) ac) .z))) rfl h1 WQ)) (λp hp=>nomatch hp)
  exact⟨_,_,H4,t4,f4,(lp.trans DM).mono (by exact nt (am [_,_,_,_,_] (.d (.a (.a (.a (.m 6 ab) (.m 4 ac)) (.m 6 ar)) (.n 2)) (.m 6 aA) (.d bH (.s (.a (.a (.m 6 ab) (.m 4 ac)) (.m 6 ar))) (.d (.s (.m 6 aA)) (.a (.n 1) bH) .z))) rfl r1 (bk Sq)))⟩
end
section
variable {own:List FI}{d:Nat}{H:Hp}{co ol wl f:Nat}{X:List V}{n0:V}{y y2:Option V}
theorem Ij{n:Nd}(hc:H[co]?=some (.inst 0 [(0,.loc ol)]))(ho:H[ol]?=some (.list X))(hs:sz n<1000)(hx:X.length<10000)(hn:gP n=true\/sm n){zg:Prop}(zk:∀ H',(ae (au own) (d+4) 5 [.loc co,nV n] H=some (.none,H'))->(H.length<=H'.length)->(H'[ol]?=some (.list (X++(cp (sz n) n X.length).map oV)))->(∀ i x,i≠ol->H[i]?=some x->H'[i]?=some x)->zg):zg:=by
 have t:PS co ol H.length X ([]++[.put n]) (H++[.list [lB (.put n)]]):=⟨ag hc,ag ho,ai,aE ho⟩
 obtain⟨a,b,H',t',f',j,hj,lp⟩:=fv (own:=own) (d:=d) (n0:=nV n) (sz n) n (aC _) hs hn (y:=none) (y2:=none) t (by show _+0+_<_;exact nl (am [_,_] (.c 6 (.s ab) (.n 1000) (.d (.s ac) (.n 10000) (.d (.n 100000) (.a (.a ac (.n 0)) (.m 6 ab)) .z))) rfl hs hx))
 obtain⟨F,hF⟩:∃ F,1048576=j+(F+1):=⟨1048575-j,by omega⟩
 have e:=lp (F+1) _ (gc (N9 t'.iN))
 rw[← hF] at e
 refine zk H' (em rfl rfl (aV (aN rfl) (ak (fB (show _=some (Fl.next,sN co H.length (nV n) a b,H') from e)) aL))) ?_ t'.md (λi x h1 h=>f'.off i x h1 (aE h) (ag h))
 have:=f'.len
 rw[aH] at this
 exact lL this
theorem Lj{O:List Od}{pc:Nat}{x:Od}(h:O[pc]?=some x):(O.map oV)[pc]?=some (oV x):=by rw[iy,h];rfl
noncomputable def isJ:Od->Bool
 |.dH _=>true
 |_=>false
noncomputable def isJS:Od->Bool
 |.dH _=>true
 |.split _=>true
 |_=>false
theorem qC{x:Od}:jg H (oV x) (.int 0)=some (.str (zm x)):=by induction x <;> rfl
theorem Lk{x:Od}:cE H .eq (.str (zm x)) (.str [106,117,109,112])=some (isJ x):=by induction x <;> rfl
theorem Sr{x:Od}:cE H .isin (.str (zm x)) (.tup [.str [106,117,109,112],.str [115,112,108,105,116]])=some (isJS x):=by induction x <;> rfl
noncomputable def goal:Od->Nat
 |.dH g=>g
 |.split g=>g
 |_=>0
theorem Ll{x:Od}(h:isJS x=true):jg H (oV x) (.int 1)=some (.int (goal x)):=by induction x <;> first|rfl|exact ff h
noncomputable def tG:ME:=(.cmp .eq (.idx (.idx (.loc 0) (.loc 3)) (.lit (.int 0))) (.glob (.str [106,117,109,112])))
noncomputable def bG:List MS:=[(.asg (.loc 3) (.idx (.idx (.loc 0) (.loc 3)) (.lit (.int 1))))]
theorem Ln{O:List Od}{g:Nat}{x:Od}{y z:Option V}(ho:H[ol]?=some (.list (O.map oV)))(hx:O[g]?=some x):av (au own) (ae (au own) d) tG [some (.loc ol),y,z,some (.int g)] H=some (.bool (isJ x),H):=
 aq (bc (bc rfl rfl (cQ ho (qm rfl (Lj hx)))) aj qC) bz Lk
theorem Ss{O:List Od}{g:Nat}{x:Od}{y z:Option V}(ho:H[ol]?=some (.list (O.map oV)))(hx:O[g]?=some x)(hj:isJS x=true):aQ (au own) (ae (au own) d) bG [some (.loc ol),y,z,some (.int g)] H=some (.next,[some (.loc ol),y,z,some (.int (goal x))],H):=
 ak (bl (bc (bc rfl rfl (cQ ho (qm rfl (Lj hx)))) aj (Ll hj)) gb) aL
inductive Fi(O:List Od):Nat->Nat->Nat->Prop where
 |stop {g x}:O[g]?=some x->isJ x=false->Fi O 0 g g
 |go {n g x g'}:O[g]?=some x->isJ x=true->Fi O n (goal x) g'->Fi O (n+1) g g'
theorem DO{x:Od}(h:isJ x=true):isJS x=true:=by induction x <;> first|rfl|exact ff h
theorem DP{O:List Od}{y z:Option V}(ho:H[ol]?=some (.list (O.map oV))){n g g':Nat}(h:Fi O n g g'):∀ f,n<f->dj (av (au own) (ae (au own) d) tG) (aQ (au own) (ae (au own) d) bG) f [some (.loc ol),y,z,some (.int g)] H=some (.next,[some (.loc ol),y,z,some (.int g')],H):=by
  induction h with
 |stop hx hj=>
   intro f hf
   obtain⟨f,rfl⟩:∃ k,f=k+1:=Nat.exists_eq_add_one.mpr (by exact nl (am [_] (.d (.s (.n 0)) ab (.d ab (.n 0) .z)) rfl hf))
   exact gc ((Ln ho hx).trans (by rw[hj]))
 |go hx hj _ ih=>
   intro f hf
   obtain⟨f,rfl⟩:∃ k,f=k+1:=Nat.exists_eq_add_one.mpr (by exact nl (am [_,_] (.d (.s (.s ab)) ac (.d ac (.n 0) .z)) rfl hf))
   exact fV ((Ln ho hx).trans (by rw[hj])) (Ss ho hx (DO hj)) (ih f (by exact nl (am [_,_] (.d (.s (.s ab)) (.s ac) (.d ac ab .z)) rfl hf)))
noncomputable def ib(fn:Nat->Nat):Od->Od
 |.dH g=>.dH (fn g)
 |.split g=>.split (fn g)
 |x=>x
noncomputable def bS:List MS:=[(.ay (.cmp .isin (.idx (.loc 2) (.lit (.int 0))) (.tup [(.glob (.str [106,117,109,112])),(.glob (.str [115,112,108,105,116]))])) [(.asg (.loc 3) (.idx (.loc 2) (.lit (.int 1)))),(.kj (.cmp .eq (.idx (.idx (.loc 0) (.loc 3)) (.lit (.int 0))) (.glob (.str [106,117,109,112]))) [(.asg (.loc 3) (.idx (.idx (.loc 0) (.loc 3)) (.lit (.int 1))))]),(.asg (.loc 2) (.tup [(.idx (.loc 2) (.lit (.int 0))),(.loc 3)]))] []),(.expr (.aS (.loc 1) .append [(.loc 2)]))]
theorem UK{x:Od}{z:Option V}(hf:H[f]?=some (.list X))(hl:X.length<lim)(hx:isJS x=false):aQ (au own) (ae (au own) d) bS [some (.loc ol),some (.loc f),some (oV x),z] H=some (.next,[some (.loc ol),some (.loc f),some (oV x),z],H.set f (.list (X++[oV x]))):=by
 have hq:cE H .isin (.str (zm x)) (.tup [.str [106,117,109,112],.str [115,112,108,105,116]])=some false:=Sr.trans (by rw[hx])
 exact ak (cu (aq (bc rfl aj (by exact qC)) rfl (by exact hq)) aL) (fp (cn rfl (aZ (by solve_by_elim [ai,aw,aa,ag,aE,aK,cR]) rfl) rfl (bY hf hl)))
theorem On{O:List Od}{x:Od}{g' n:Nat}{z:Option V}(ho:H[ol]?=some (.list (O.map oV)))(hf:H[f]?=some (.list X))(hl:X.length<lim)(hx:isJS x=true)(h:Fi O n (goal x) g')(hn:n<1000){zg:Prop}(zk:∀ a b,(aQ (au own) (ae (au own) d) bS [some (.loc ol),some (.loc f),some (oV x),z] H=some (.next,[some (.loc ol),some (.loc f),a,b],H.set f (.list (X++[oV (ib (λ_=>g') x)]))))->zg):zg:=by
  have e:=DP (own:=own) (d:=d) (y:=some (.loc f)) (z:=some (oV x)) ho h 1048576 (by exact nl (am [_] (.d (.s ab) (.n 1000) (.d (.n 1048576) ab .z)) rfl hn))
  induction x with
 |dH g=>exact zk _ _ (ak (bQ (aq (bc rfl aj (by exact qC)) rfl (by rfl)) (ak rfl (ak (fB (show _=some (Fl.next,[some (.loc ol),some (.loc f),some (oV (.dH g)),some (.int g')],H) from e)) rfl))) (fp (cn rfl (aZ (by solve_by_elim [ai,aw,aa,ag,aE,aK,cR]) rfl) rfl (bY hf hl))))
 |split g=>exact zk _ _ (ak (bQ (aq (bc rfl aj (by exact qC)) rfl (by rfl)) (ak rfl (ak (fB (show _=some (Fl.next,[some (.loc ol),some (.loc f),some (oV (.split g)),some (.int g')],H) from e)) rfl))) (fp (cn rfl (aZ (by solve_by_elim [ai,aw,aa,ag,aE,aK,cR]) rfl) rfl (bY hf hl))))
 |_=>exact ff hx
structure SI(H0:Hp)(ol f:Nat)(O:List Od)(r:List Od)(l:Lo)(H:Hp):Prop where
 l:∃ x z,l=[some (.loc ol),some (.loc f),x,z]
 ho:H[ol]?=some (.list (O.map oV))
 fo:H[f]?=some (.list (r.map oV))
 gr:Gr H0 H
theorem vE{O:List Od}(fn:Nat->Nat)(ho:H[ol]?=some (.list (O.map oV)))(hl:O.length<10000)(hg:∀ x∈O,isJS x=true->∃ n,n<1000/\Fi O n (goal x) (fn (goal x))){zg:Prop}(zk:∀ H',(ae (au own) (d+1) 10 [.loc ol] H=some (.loc H.length,H'))->(Gr H H')->(H'[H.length]?=some (.list ((O.map (ib fn)).map oV)))->zg):zg:=by
 have bn:H.length≠ol:=aK ho
 obtain⟨l',H',e,j⟩:=kP (k:=2) (body:=aQ (au own) (ae (au own) d) bS) (g:=oV) (λ(r:List Od) x=>r++[ib fn x]) (SI H ol H.length O) (λr ps=>(∀ x∈ps,x∈O)/\r.length+ps.length<10000) (λ_ _ _ j=>j.ho) (λr x ps l G j p=>by
   obtain⟨a,z,rfl⟩:=j.l
   obtain⟨p1,p2⟩:=p
   rw[cw] at p2
   have hlen:(r.map oV).length<lim:=dg (by rw[cT];exact nl (am [_,_] (.d (.s (.a ab (.s ac))) (.n 10000) (.d (.n 100000) ab .z)) rfl p2))
   have hP:(∀ x∈ps,x∈O)/\(r++[ib fn x]).length+ps.length<10000:=⟨λy h=>p1 y (.tail _ h),by rw[aH];show _+1+_<_;exact nl (am [_,_] (.d (.s (.a ab (.s ac))) (.n 10000) (.d (.n 10000) (.a (.s ab) ac) .z)) rfl p2)⟩
   have hS:∀{a b:Option V},SI H ol H.length O (r++[ib fn x]) [some (.loc ol),some (.loc H.length),a,b] (G.set H.length (.list (r.map oV++[oV (ib fn x)]))):=λ{a b}=>⟨⟨_,_,rfl⟩,aa bn j.ho,by rw[du];exact aw j.fo,j.gr.set (aC _)⟩
   cases hx:isJS x with
  |false=>
    have hs:ib fn x=x:=by induction x <;> first|rfl|cases hx
    refine⟨.next,_,_,.inl rfl,UK j.fo hlen hx,?_,hP⟩
    have:=hS (a:=some (oV x)) (b:=z)
    rw[hs] at this ⊢;exact this
  |true=>
    obtain⟨n,hn,hf⟩:=hg x (p1 x (.head _)) hx
    refine On (own:=own) (d:=d) (z:=z) j.ho j.fo hlen hx hf hn λa' b' e=>?_
    have hs:ib (λ_=>fn (goal x)) x=ib fn x:=by induction x <;> first|rfl|exact nn hx
    rw[hs] at e
    exact⟨.next,_,_,.inl rfl,e,hS,hP⟩) O 0 1048576 [] [some (.loc ol),some (.loc H.length),none,none] (H++[.list []]) (λj=>by rw[fG]) (by exact nl (am [_] (.d (.s ab) (.n 10000) (.d (.n 1048576) ab .z)) rfl hl)) ⟨⟨_,_,rfl⟩,ag ho,ai,Gr.app _ _⟩ ⟨λx h=>h,by show 0+_<_;exact nl (am [_] (.d (.s ab) (.n 10000) (.d (.n 10000) (.a (.n 0) ab) .z)) rfl hl)⟩
 have WR:∀(O r:List Od),O.foldl (λ(r:List Od) x=>r++[ib fn x]) r=r++O.map (ib fn):=λO=>by
   induction O with
  |nil=>intro r;exact(ce _).symm
  |cons x O ih=>intro r;rw[wp,ih,bZ];rfl
 have Pj:=j.fo
 rw[WR,po] at Pj
 obtain⟨a,b,rfl⟩:=j.l
 exact zk H' (af rfl rfl (aV (aN aW) (ak (fA rfl (gN (ag ho)) (show _=some (Fl.next,_,H') from e)) rfl))) j.gr Pj
theorem DQ:ae (au own) (d+1) 3 [.loc H.length] (H++[.inst 0 []])=some (.none,(H++[O.inst 0 []]++[O.list []]).set H.length (O.inst 0 [(0,.loc (H.length+1))])):=
 em rfl rfl (ak (eD (aN aW) rfl ((dE (ag ai)).trans (by rw[aH];rfl))) aL)
theorem ox{n:Nd}(fn:Nat->Nat)(hs:sz n<1000)(hn:gP n=true\/sm n)(hg:∀ x∈cp (sz n) n 0++[Od.done],isJS x=true->∃ k,k<1000/\Fi (cp (sz n) n 0++[Od.done]) k (goal x) (fn (goal x))){zg:Prop}(zk:∀ r H',(ae (au own) (d+5) 11 [nV n] H=some (.loc r,H'))->(Gr H H')->(H.length<=r)->(H'[r]?=some (.list (((cp (sz n) n 0++[Od.done]).map (ib fn)).map oV)))->zg):zg:=by
 have l1:(H++[O.inst 0 []]).length=H.length+1:=by rw[aH];rfl
 have hc:((H++[O.inst 0 []]++[O.list []]).set H.length (O.inst 0 [(0,.loc (H.length+1))]))[H.length]?=some (.inst 0 [(0,.loc (H.length+1))]):=aw (ag ai)
 have ho:((H++[O.inst 0 []]++[O.list []]).set H.length (O.inst 0 [(0,.loc (H.length+1))]))[H.length+1]?=some (.list []):=aa (dt (jB _)) (by rw[← l1];exact ai)
 have Oo:Gr H ((H++[O.inst 0 []]++[O.list []]).set H.length (O.inst 0 [(0,.loc (H.length+1))])):=((Gr.app H _).trans (Gr.app _ _)).set (aC _)
 generalize hG:(H++[O.inst 0 []]++[O.list []]).set H.length (O.inst 0 [(0,.loc (H.length+1))])=G at hc ho Oo
 refine Ij (own:=own) (d:=d) hc ho hs (by show 0<_;exact nl (am [] (.d (.n 10000) (.n 0) .z) rfl)) hn λH2 UL o7 nO JX=>?_
 rw[po] at nO
 have qs:=JX _ _ (dt (jB _)) hc
 have bn:H.length≠H.length+1:=dt (jB _)
 have qZ:=ip (sz n) n 0
 have hl:((cp (sz n) n 0).map oV).length<lim:=dg (by rw[cT];exact nl (am [_,_] (.c 6 (.s ab) (.n 1000) (.d ac (.m 6 ab) (.d (.n 100000) ac .z))) rfl hs qZ))
 have WS:(H2.set (H.length+1) (.list ((cp (sz n) n 0).map oV++[oV Od.done])))[H.length+1]?=some (.list ((cp (sz n) n 0++[Od.done]).map oV)):=by rw[du];exact aw nO
 refine vE (own:=own) (d:=d+3) fn WS (by rw[aH];show _+1<_;exact nl (am [_,_] (.c 6 (.s ab) (.n 1000) (.d ac (.m 6 ab) (.d (.n 10000) (.s ac) .z))) rfl hs qZ)) hg λH3 C3 g3 fN=>?_
 have ci:=DQ (own:=own) (d:=d+3) (H:=H)
 rw[hG] at ci
 refine zk _ H3 (af rfl rfl (aV (j5 aW rfl ci) (mQ (aY rfl hc rfl rfl rfl UL) (mQ (aY rfl qs rfl rfl rfl (eQ qs nO bn hl)) (az (aG (b8 (aJ rfl (aD (aa bn.symm qs) rfl))) C3)))))) (⟨?_,λi h=>?_⟩) ?_ fN
 ·have:=g3.len
  rw[dB] at this
  exact bj Oo.len (bj o7 this)
 ·have hx:=rR h
  rw[hx]
  exact g3.at (aa (df (wy h)) (JX i _ (dt (wy h)) ((Oo.off i h).trans hx)))
 ·rw[dB];exact bj Oo.len o7
end
theorem Su{own:List FI}{d:Nat}(t:List Nat)(H:Hp):o6 own (d+1) t H:=
 ox (own:=own) (d:=d) (n:=.sg (.ch t)) (λg=>g) (by show 1<1000;decide) (.inl rfl) (λx hx hj=>by
  have hx:x∈[Od.one (.ch t),Od.done]:=hx
  rcases fm.mp hx with rfl|hx
  ·cases hj
  ·rw[dA.mp hx] at hj;cases hj) λr H' e gr lo ho=>.mk r H' e lo ho gr.len gr.off
noncomputable def Seg(O:List Od)(b:Nat)(c:List Od):Prop:=∀ i,i<c.length->O[b+i]?=c[i]?
section
variable {O:List Od}
theorem Seg.hd{b:Nat}{x:Od}{c:List Od}(h:Seg O b (x::c)):O[b]?=some x:=h 0 (jz _)
theorem Seg.tl{b:Nat}{x:Od}{c:List Od}(h:Seg O b (x::c)):Seg O (b+1) c:=λi hi=>by
 have:=h (i+1) (Nat.succ_lt_succ hi)
 rw[dU,kh 1 i];exact this
theorem Seg.l{b:Nat}{c c':List Od}(h:Seg O b (c++c')):Seg O b c:=λi hi=>(h i (by rw[aH];exact nl (am [_,_,_] (.d (.s ab) ac (.d (.a ac ar) ab .z)) rfl hi))).trans (dh hi)
theorem Seg.r{b:Nat}{c c':List Od}(h:Seg O b (c++c')):Seg O (b+c.length) c':=λi hi=>by
 have:=h (c.length+i) (by rw[aH];exact nl (am [_,_,_] (.d (.s ab) ac (.d (.a ar ac) (.a ar ab) .z)) rfl hi))
 rw[dU,this,gS (cC _ _),xW]
noncomputable def Sv(O:List Od)(e i:Nat)(x:Od):Prop:=isJS x=true->(i<goal x/\goal x<=e)\/∃ y,O[goal x]?=some y/\isJ y=false
noncomputable def j9(O:List Od)(e:Nat):Nat->List Od->Prop
 |_,[]=>True
 |b,x::c=>Sv O e b x/\j9 O e (b+1) c
theorem j9.app{e:Nat}:∀{c c':List Od}{b:Nat},j9 O e b c->j9 O e (b+c.length) c'->j9 O e b (c++c')
 |[],c',b,_,h=>h
 |x::c,c',b,h,h'=>⟨h.1,j9.app h.2 (by rw[cw] at h';rw[show b+1+c.length=b+(c.length+1) by exact kS [_,_] (.a (.s ab) ac) (.a ab (.s ac)) rfl];exact h')⟩
theorem j9.mono{e e':Nat}(he:e<=e'):∀{c:List Od}{b:Nat},j9 O e b c->j9 O e' b c
 |[],b,_=>trivial
 |x::c,b,h=>⟨λhj=>(h.1 hj).imp (λh=>⟨h.1,bj h.2 he⟩) id,j9.mono he h.2⟩
theorem Pk{g:Nd->Nat->List Od}:∀(ps:List Nd),(∀ p∈ps,∀ b,Seg O b (g p b)->j9 O (b+(g p b).length) b (g p b))->∀ b,Seg O b (rC g ps b)->j9 O (b+(rC g ps b).length) b (rC g ps b)
 |[],_,b,_=>trivial
 |n::r,h,b,hs=>by
  rw[zv] at hs ⊢
  rw[aH,← dU]
  exact((h n (.head _) b hs.l).mono (cC _ _)).app (Pk r (λp hp=>h p (.tail _ hp)) _ hs.r)
theorem Pl{g:Nd->Nat->List Od}{e:Nat}{z:Nd}(hz:∀ b,Seg O b (g z b)->j9 O (b+(g z b).length) b (g z b)):∀(ps:List Nd),(∀ p∈ps,∀ b,Seg O b (g p b)->j9 O (b+(g p b).length) b (g p b))->∀ b,Seg O b (mU g e z ps b)->b+(mU g e z ps b).length=e->j9 O e b (mU g e z ps b)
 |[],_,b,hs,h2=>by
  have Om:b+(g z b).length=e:=h2
  rw[← Om];exact hz b hs
 |n::r,h,b,hs,h2=>by
  rw[o9] at h2 hs ⊢
  rw[cw,aH,cw] at h2
  refine⟨λ_=>.inl ⟨?_,?_⟩,((h n (.head _) (b+1) hs.tl.l).mono (by exact nt (am [_,_,_,_] (.d (.a ab (.s (.a ac (.s ar)))) aA (.d (.s aA) (.a (.s ab) ac) .z)) rfl (bk h2)))).app ⟨λ_=>.inl ⟨?_,aC _⟩,?_⟩⟩
  ·show b<b+_+2;exact nl (am [_,_] (.d (.a (.a ab ac) (.n 2)) ab .z) rfl)
  ·show b+_+2<=e;exact nt (am [_,_,_,_] (.d (.a ab (.s (.a ac (.s ar)))) aA (.d (.s aA) (.a (.a ab ac) (.n 2)) .z)) rfl (bk h2))
  ·show b+1+_<e;exact nl (am [_,_,_,_] (.d (.a ab (.s (.a ac (.s ar)))) aA (.d aA (.a (.s ab) ac) .z)) rfl (bk h2))
  ·have fP:=hs.tl.r.tl
   rw[show b+1+(g n (b+1)).length+1=b+(g n (b+1)).length+2 by exact kS [_,_] (.s (.a (.s ab) ac)) (.a (.a ab ac) (.n 2)) rfl] at fP ⊢
   exact Pl hz r (λp hp=>h p (.tail _ hp)) _ fP (by exact iQ (nt (am [_,_,_,_] (.d (.a ab (.s (.a ac (.s ar)))) aA (.d (.s aA) (.a (.a (.a ab ac) (.n 2)) ar) .z)) rfl (bk h2))) (nt (am [_,_,_,_] (.d ab (.a ac (.s (.a ar (.s aA)))) (.d (.s (.a (.a (.a ac ar) (.n 2)) aA)) ab .z)) rfl (bk (bV h2)))))
theorem nj{e i:Nat}{x:Od}(h:isJS x=false):Sv O e i x:=λhj=>by rw[h] at hj;exact ff hj
theorem rE:∀(F:Nat)(n:Nd)(b:Nat),Seg O b (cp F n b)->j9 O (b+(cp F n b).length) b (cp F n b)
 |0,n,b,_=>trivial
 |F+1,.nw n q,b,hs=>by
  rw[Lh] at hs ⊢
  rw[cw,aH]
  exact⟨nj rfl,((rE F n (b+1) hs.tl.l).mono (by exact nt (am [_,_,_] (.d (.s (.a ab (.s (.a ac ar)))) (.a (.s ab) ac) .z) rfl))).app ⟨nj rfl,trivial⟩⟩
 |F+1,.rp n,b,hs=>by
  rw[zw] at hs ⊢
  rw[cw,cw,cw,aH]
  refine⟨λ_=>.inl ⟨?_,?_⟩,λ_=>.inl ⟨?_,?_⟩,nj rfl,((rE F n (b+3) hs.tl.tl.tl.l).mono (by exact nt (am [_,_,_] (.d (.s (.a ab (.s (.s (.s (.a ac ar)))))) (.a (.a ab (.n 3)) ac) .z) rfl))).app ⟨nj rfl,λ_=>.inr ⟨_,hs.hd,rfl⟩,trivial⟩⟩
  ·show b<b+2;exact nl (am [_] (.d (.a ab (.n 2)) ab .z) rfl)
  ·show b+2<=b+(_+2+1+1+1);exact nt (am [_,_] (.d (.s (.a ab (.s (.s (.s (.a ac (.n 2))))))) (.a ab (.n 2)) .z) rfl)
  ·show b+1<b+3+_+2;exact nl (am [_,_] (.d (.a (.a (.a ab (.n 3)) ac) (.n 2)) (.s ab) .z) rfl)
  ·show b+3+_+2<=b+(_+2+1+1+1);exact nt (am [_,_] (.d (.s (.a ab (.s (.s (.s (.a ac (.n 2))))))) (.a (.a (.a ab (.n 3)) ac) (.n 2)) .z) rfl)
 |F+1,.ca x y,b,hs=>Pk _ (λp _=>rE F p) b hs
 |F+1,.al x y,b,hs=>by
  rw[FD] at hs ⊢
  have he:b+(mU (cp F) (jV (cp F) ((aP false (.al x y)).getLastD .cg) (aP false (.al x y)).dropLast b) ((aP false (.al x y)).getLastD .cg) (aP false (.al x y)).dropLast b).length=jV (cp F) ((aP false (.al x y)).getLastD .cg) (aP false (.al x y)).dropLast b:=by rw[vq (cp F) _ 0];rfl
  rw[he]
  exact Pl (rE F _) _ (λp _=>rE F p) b hs he
 |F+1,.sg x,b,_=>⟨nj rfl,trivial⟩
 |F+1,.cg,b,_=>⟨nj rfl,trivial⟩
 |F+1,.eU,b,_=>⟨nj rfl,trivial⟩
 |F+1,.fail,b,_=>⟨nj rfl,trivial⟩
theorem j9.at{e:Nat}:∀{c:List Od}{b i:Nat}{x:Od},j9 O e b c->c[i]?=some x->Sv O e (b+i) x
 |y::c,b,0,x,h,hx=>by cases hx;exact h.1
 |y::c,b,i+1,x,h,hx=>by
  have:=j9.at h.2 (i:=i) hx
  rw[show b+1+i=b+(i+1) by exact kS [_,_] (.a (.s ab) ac) (.a ab (.s ac)) rfl] at this
  exact this
noncomputable def Sw(O:List Od):Prop:=∀ i x,O[i]?=some x->isJS x=true->goal x<O.length/\(i<goal x\/∃ y,O[goal x]?=some y/\isJ y=false)
noncomputable abbrev ic(n:Nd):List Od:=cp (sz n) n 0++[.done]
theorem rF(n:Nd):Sw (ic n):=λi x hx hj=>by
 have hs:Seg (ic n) 0 (cp (sz n) n 0):=λi hi=>by rw[fG];exact dh hi
 have h1:j9 (ic n) (0+(cp (sz n) n 0).length) 0 (ic n):=(rE (sz n) n 0 hs).app ⟨nj rfl,trivial⟩
 have h:=j9.at h1 hx hj
 rw[fG,fG] at h
 rcases h with⟨h1,h2⟩|⟨y,h1,h2⟩
 ·exact⟨by rw[aH];exact Nat.lt_succ_of_le h2,.inl h1⟩
 ·exact⟨(eV.mp h1).1,.inr ⟨y,h1,h2⟩⟩
end
noncomputable def xI(O:List Od):Nat->Nat->Nat
 |0,g=>g
 |f+1,g=>match O[g]? with
  |some x=>bif isJ x then xI O f (goal x) else g
  |none=>g
theorem vF{O:List Od}{f g:Nat}{x:Od}(h:O[g]?=some x):xI O (f+1) g=bif isJ x then xI O f (goal x) else g:=by rw[xI,h]
theorem zy{O:List Od}(w:Sw O):∀(f g:Nat),g<O.length->O.length<g+f->∃ n,n<=f/\Fi O n g (xI O f g)
 |0,g,h1,h2=>absurd (mh h1 h2) (nZ _)
 |f+1,g,h1,h2=>by
    have hx:O[g]?=some O[g]:=rR h1
    generalize O[g]=x at hx
    rw[vF hx]
    cases hj:isJ x with
   |false=>exact⟨0,cj _,.stop hx hj⟩
   |true=>
      obtain⟨l,h⟩:=w g x hx (DO hj)
      rcases h with h|⟨y,hy,hn⟩
      · obtain⟨n,hn,h⟩:=zy w f (goal x) l (by exact nl (am [_,_,_,_] (.d (.s ab) (.a ac (.s ar)) (.d (.s ac) aA (.d (.a aA ar) ab .z))) rfl h2 h))
        exact⟨n+1,tc hn,.go hx hj h⟩
      · induction f with
       |zero=>omega
       |succ f=>
          rw[cond_true,vF hy,hn,cond_false]
          exact⟨1,by exact nt (am [_] (.d (.s (.s (.s ab))) (.n 1) .z) rfl),.go hx hj (.stop hy hn)⟩
theorem Fi.uniq{O:List Od}{n m g a b:Nat}(h:Fi O n g a):Fi O m g b->a=b:=by
  induction h generalizing m with
 |stop hx hj=>
    intro h2
    induction h2 with
   |stop _ _=>rfl
   |go hy hk _=>rw[hx] at hy;cases hy;rw[hj] at hk;exact ff hk
 |go hx hj _ ih=>
    intro h2
    induction h2 with
   |stop hy hk=>rw[hx] at hy;cases hy;rw[hj] at hk;cases hk
   |go hy hk h2=>rw[hx] at hy;cases hy;exact ih h2
structure Fn(O:List Od)(fn:Nat->Nat):Prop where
 j:∀ g x,O[g]?=some x->isJ x=true->fn g=fn (goal x)
 n:∀ g x,O[g]?=some x->isJ x=false->fn g=g
noncomputable abbrev Lq(O:List Od):Nat->Nat:=xI O (O.length+1)
theorem Lr{O:List Od}(w:Sw O):Fn O (Lq O):=by
 refine⟨λg x hx hj=>?_,λg x hx hj=>by rw[Lq,vF hx,hj];rfl⟩
 have l:=(eV.mp hx).1
 obtain⟨n,_,h1⟩:=zy w (O.length+1) g l (by exact nl (am [_,_] (.d (.a ab (.s ac)) ac .z) rfl))
 obtain⟨m,_,h2⟩:=zy w (O.length+1) (goal x) (w g x hx (DO hj)).1 (by exact nl (am [_,_] (.d (.a ab (.s ac)) ac .z) rfl))
 exact h1.uniq (.go hx hj h2)
noncomputable abbrev codeS(n:Nd):List Od:=(ic n).map (ib (Lq (ic n)))
section
variable {kp:Nat->Option (List Nat)}{K:List (List Nat)}{s:List Nat}{own:List FI}{d:Nat}{H:Hp}{h va rf lg:Nat}{m:Int}{k k' j:Nat}{σ τ:Hs}{n:Nd}{R:Option (Nat×Nat×Nm)}
theorem ju(g:Rg kp K s m j){an:Bool}(hs:sz n<150)(hn:gP n=true\/sm n)(x:HX kp h va rf lg m k σ H)(T:Mo kp s (codeS n) (cnt an s) 0 σ k R τ k')(hk:(k':Int)<=m)(hl:σ.log.length<=j+k)(hv:Kd K σ.vals) :
  Ca (au own) (d+11) 59 [nV n,.str s,.bool an,.loc h] H kp h va rf lg m k' τ (λH' v=>R3 H.length H' R v):=by
 have w:=rF n
 have qZ:=ip (sz n) n 0
 have hlen:(ic n).length=(cp (sz n) n 0).length+1:=by rw[aH];rfl
 refine ox (own:=own) (d:=d+5) (H:=H) (n:=n) (Lq (ic n)) (by exact nl (am [_] (.d (.s ab) (.n 150) (.d (.n 1000) ab .z)) rfl hs)) hn (λx hx hj=>?_) λr H1 e1 gr lo ho=>?_
 ·obtain⟨i,hi⟩:=wn hx
  obtain⟨c,hc,hf⟩:=zy w ((ic n).length+1) (goal x) (w i x hi hj).1 (by exact nl (am [_,_] (.d (.a ab (.s ac)) ac .z) rfl))
  exact⟨c,by exact nl (am [_,_,_,_] (.c 6 (.s ab) (.n 150) (.d ac (.m 6 ab) (.d ar (.s ac) (.d aA (.s ar) (.d (.n 1000) aA .z))))) rfl hs qZ (bk hlen) hc),hf⟩
 ·have e3:=cv x.log
  obtain⟨v,H2,e2,x2,o2,r2⟩:=DF (own:=own) (d:=d+1) (λt H=>Su t H) g (H:=H1) ⟨gr.at x.host,gr.at x.vals,gr.at x.log,gr.at x.ref,λr key e=>gr.at (x.rk r key e),x.n3⟩ ho (by exact df (nl (am [_,_,_] (.d ab ac (.d (.s ar) ab (.d ac ar .z))) rfl lo e3))) T hk hl hv
  exact⟨v,H2,af rfl rfl (gL (E9 (sW bz (aX (sW bz (aX (db rfl) aW) e1) (aX (db rfl) (aX (db rfl) (aX (db rfl) aW)))) e2))),x2,⟨bj gr.len o2.len,λi h1 h2 h3 h4=>(o2.off i (dM h1 gr.len) h2 h3 h4).trans (gr.off i h1)⟩,r2.mono gr.len⟩
end
theorem fY{b:Bool}{n e:Nat}(h:oN b n=some e):b=true/\n=e:=by
  induction b with
 |false=>exact nn h
 |true=>exact⟨rfl,bU h⟩
theorem BY(t:List Nat)(b:Bool):∀ s:List Nat,eo t b s<=s.length
 |[]=>aC _
 |c::r=>by
  show(bif t.contains c==b then eo t b r+1 else 0)<=r.length+1
  cases t.contains c==b
  ·exact cj _
  ·exact tc (BY t b r)
theorem BZ{s t:List Nat}{b:Bool}{a:Nat}(h:a<=s.length):gW s t b a<=s.length:=by
 have:=BY t b (s.drop a)
 rw[i7] at this
 show a+_<=_;omega
theorem Ls{s t:List Nat}{a:Nat}(h:jT s t a=true)(ha:a<=s.length):a+t.length<=s.length:=by
 have h:=congrArg List.length (beq_iff_eq.mp h)
 rw[i7,zO] at h
 omega
theorem zz{s:List Nat}{a e:Nat}{x:Sg}(h:dT s a x=some e)(ha:a<=s.length):a<=e/\e<=s.length:=by
  induction x with
 |ch t=>obtain⟨h1,rfl⟩:=fY (b:=jT s t a) h;exact⟨cC _ _,Ls h1 ha⟩
 |len n=>obtain⟨h1,rfl⟩:=fY (b:=decide (a+n<=s.length)) h;exact⟨cC _ _,of_decide_eq_true h1⟩
 |pos n=>obtain⟨_,rfl⟩:=fY (b:=decide (a=n)) h;exact⟨aC _,ha⟩
 |fL n=>obtain⟨_,rfl⟩:=fY (b:=decide (s.length=a+n)) h;exact⟨aC _,ha⟩
 |tab n=>
    obtain⟨h1,rfl⟩:=fY (b:=decide (a<=n)&&decide (n<=s.length)) h
    have:=lI.mp h1
    exact⟨of_decide_eq_true this.1,of_decide_eq_true this.2⟩
 |fM n=>obtain⟨h1,rfl⟩:=fY (b:=decide (a+n<=s.length)) h;have:=of_decide_eq_true h1;exact⟨by omega,by omega⟩
 |any t=>
    have h:(match s[a]? with|some c=>oN (t.contains c) (a+1)|none=>none)=some e:=h
    cases hc:s[a]? with
   |none=>rw[hc] at h;exact nn h
   |some c=>rw[hc] at h;obtain⟨_,rfl⟩:=fY (b:=t.contains c) h;exact⟨eX _,(eV.mp hc).1⟩
 |fj t=>
    have h:(match s[a]? with|some c=>oN (!(t.contains c)) (a+1)|none=>none)=some e:=h
    cases hc:s[a]? with
   |none=>rw[hc] at h;exact nn h
   |some c=>rw[hc] at h;obtain⟨_,rfl⟩:=fY (b:=!(t.contains c)) h;exact⟨eX _,(eV.mp hc).1⟩
 |span t=>obtain⟨h1,rfl⟩:=fY (b:=decide (a<gW s t true a)) h;exact⟨cC _ _,BZ ha⟩
 |brk t=>obtain⟨h1,rfl⟩:=fY (b:=decide (gW s t false a<s.length)) h;exact⟨cC _ _,BZ ha⟩
 |rem=>cases h;exact⟨ha,aC _⟩
noncomputable def jv(f:Nat->List Nat):Nat->Nat->List Nat
 |0,a=>[a]
 |m+1,a=>a::(f a).flatMap λe=>if a<e then jv f m e else []
theorem rG{f:Nat->List Nat}{m a:Nat}:jv f (m+1) a=a::(f a).flatMap λe=>if a<e then jv f m e else []:=rfl
noncomputable def cG(s:List Nat)(x:Sg)(a:Nat):List Nat:=match dT s a x with
 |some e=>[e]
 |none=>[]
noncomputable def ends(s:List Nat):Nd->Nat->List Nat
 |.sg x,a=>cG s x a
 |.al x y,a=>ends s x a++ends s y a
 |.ca x y,a=>(ends s x a).flatMap (ends s y)
 |.rp x,a=>jv (ends s x) s.length a
 |.cg,a=>List.range' a (s.length+1-a)
 |.eU,a=>eB s a
 |_,_=>[]
theorem xJ{α β:Type}{f:α->List β}{l:List α}{b:β}(h:b∈l.flatMap f){p:Prop}(k:∀ a∈l,b∈f a->p):p:=by
 obtain⟨a,ha,hb⟩:=lH.mp h
 exact k a ha hb
noncomputable def FL(N:Nat)(f:Nat->List Nat):Prop:=∀ a,a<=N->∀ e∈f a,a<=e/\e<=N
theorem xK{s:List Nat}:∀(n a:Nat),a<=s.length->∀ e∈om s n a,a<e/\e<=s.length
 |0,a,_,e,h=>(n7 h).elim
 |n+1,a,ha,e,h=>by
   rw[zc] at h
   cases hb:kJ (s.drop a) 0 a with
  |none=>rw[hb] at h;exact(n7 h).elim
  |some e1=>
    rw[hb] at h
    have hg:=qo _ _ _ hb
    rw[i7] at hg
    rcases fm.mp h with h|h
    ·subst h;exact⟨hg.1,by omega⟩
    ·have:=xK n e1 (by omega) e h
     exact⟨mh hg.1 this.1,this.2⟩
theorem B1{N:Nat}{f:Nat->List Nat}(hf:FL N f):∀(m a:Nat),a<=N->∀ e∈jv f m a,a<=e/\e<=N
 |0,a,ha,e,h=>by rw[dA.mp h];exact⟨aC _,ha⟩
 |m+1,a,ha,e,h=>by
  rcases fm.mp h with h|h
  ·rw[h];exact⟨aC _,ha⟩
  ·refine xJ h λb hb h=>?_
   by_cases hl:a<b
   ·rw[if_pos hl] at h
    have h1:=hf a ha b hb
    have h2:=B1 hf m b h1.2 e h
    exact⟨bj h1.1 h2.1,h2.2⟩
   ·rw[if_neg hl] at h;exact(n7 h).elim
theorem xL{α β:Type}{f:α->List β}:∀{l:List α},(∀ a∈l,f a=[])->l.flatMap f=[]
 |[],_=>rfl
 |a::r,h=>by rw[mi,h a (.head _),xL (l:=r) λb hb=>h b (.tail _ hb)];rfl
theorem iI{α β:Type}{f g:α->List β}:∀{l:List α},(∀ a∈l,f a=g a)->l.flatMap f=l.flatMap g
 |[],_=>rfl
 |a::r,h=>by rw[mi,mi,h a (.head _),iI (l:=r) λb hb=>h b (.tail _ hb)]
theorem zA{N:Nat}{f:Nat->List Nat}(hf:FL N f)(m:Nat):jv f m N=[N]:=by
  induction m using Nat.casesOn with
 |zero=>rfl
 |succ m=>
   rw[rG,xL λb hb=>if_neg (fH.mpr (hf N (aC _) b hb).2)]
theorem nH{N:Nat}{f:Nat->List Nat}(hf:FL N f):∀(m n a:Nat),a<=N->N<=a+m->N<=a+n->jv f m a=jv f n a
 |0,n,a,ha,h1,h2=>by
  have:a=N:=iQ ha h1
  subst this
  rw[zA hf,zA hf]
 |m+1,0,a,ha,h1,h2=>by
  have:a=N:=iQ ha h2
  subst this
  rw[zA hf,zA hf]
 |m+1,n+1,a,ha,h1,h2=>by
  rw[rG,rG]
  congr 1
  refine iI λb hb=>?_
  have h3:=hf a ha b hb
  by_cases hl:a<b
  ·rw[if_pos hl,if_pos hl]
   exact nH hf m n b h3.2 (by exact nt (am [_,_,_,_] (.d ab (.a ac (.s ar)) (.d (.s ac) aA (.d (.s (.a aA ar)) ab .z))) rfl h1 hl)) (by exact nt (am [_,_,_,_] (.d ab (.a ac (.s ar)) (.d (.s ac) aA (.d (.s (.a aA ar)) ab .z))) rfl h2 hl))
  ·rw[if_neg hl,if_neg hl]
theorem dL(s:List Nat):∀ n:Nd,FL s.length (ends s n)
 |.sg x,a,ha,e,h=>by
   have h:e∈cG s x a:=h
   unfold cG at h
   cases hx:dT s a x with
  |none=>rw[hx] at h;exact(n7 h).elim
  |some b=>rw[hx] at h;rw[dA.mp h];exact zz hx ha
 |.al x y,a,ha,e,h=>(eW.mp h).elim (dL s x a ha e) (dL s y a ha e)
 |.ca x y,a,ha,e,h=>xJ h λb hb h=>by
   have h1:=dL s x a ha b hb
   have h2:=dL s y b h1.2 e h
   exact⟨bj h1.1 h2.1,h2.2⟩
 |.rp x,a,ha,e,h=>B1 (dL s x) _ a ha e h
 |.cg,a,ha,e,h=>by
   have:=List.mem_range'_1.mp h
   exact⟨this.1,by omega⟩
 |.eU,a,ha,e,h=>by have:=xK _ a ha e h;exact⟨n6 this.1,this.2⟩
 |.nw _ _,a,ha,e,h=>(n7 h).elim
 |.fail,a,ha,e,h=>(n7 h).elim
theorem rH{s:List Nat}{a:Nat}(ha:a<=s.length):(eB s a).length<=s.length-a:=by
 have:∀(n a:Nat),a<=s.length->(om s n a).length<=s.length-a:=λn=>by
   induction n with
  |zero=>exact λ_ _=>cj _
  |succ n ih=>
     intro a ha
     rw[zc]
     cases hb:kJ (s.drop a) 0 a with
    |none=>exact cj _
    |some e1=>
      have hg:=qo _ _ _ hb
      rw[i7] at hg
      have:=ih e1 (by omega)
      show(om s n e1).length+1<=_
      omega
 exact this _ a ha
noncomputable def Lu(C:(Nat->Nat)->Nat->Nat)(κ:Nat->Nat):Nat->Nat
 |0=>1+κ 0+C (λ_=>1) 0
 |m+1=>1+κ (m+1)+C (λ_=>1+Lu C κ m) (m+1)
noncomputable def zB:Nd->(Nat->Nat)->Nat->Nat
 |.sg _,κ,m=>1+κ m
 |.al a b,κ,m=>1+zB a κ m+zB b κ m
 |.ca a b,κ,m=>1+zB a (zB b κ) m
 |.rp n,κ,m=>Lu (zB n) κ m
 |.cg,κ,m=>(m+1)*(1+κ m)
 |.eU,κ,m=>1+(m+1)*κ m
 |_,_,_=>0
noncomputable def P2:Nd->Prop
 |.sg _=>True
 |.al a b=>P2 a/\P2 b
 |.ca a b=>P2 a/\P2 b
 |.rp n=>P2 n
 |.cg=>True
 |.eU=>True
 |_=>False
noncomputable abbrev Ef:=Nat->Hs->Hs
noncomputable def fo(g:Ef):List Nat->Hs->Hs
 |[],σ=>σ
 |e::r,σ=>fo g r (g e σ)
theorem FM{g:Ef}{e:Nat}{r:List Nat}{σ:Hs}:fo g (e::r) σ=fo g r (g e σ):=rfl
theorem zC{g:Ef}{b:List Nat}:∀{a:List Nat}{σ:Hs},fo g (a++b) σ=fo g b (fo g a σ)
 |[],_=>rfl
 |e::r,σ=>zC (a:=r)
theorem vG{g:Ef}{f:Nat->List Nat}:∀{l:List Nat}{σ:Hs},fo g (l.flatMap f) σ=fo (λe σ=>fo g (f e) σ) l σ
 |[],_=>rfl
 |e::r,σ=>by rw[mi,zC,FM,vG (l:=r)]
theorem Sx{l:List Nat}{σ:Hs}:fo (λ_ σ=>σ) l σ=σ:=by induction l with
 |nil=>rfl
 |cons e r ih=>exact ih
section
variable {kp:Nat->Option (List Nat)}{s:List Nat}{σ τ σ1 σ2:Hs}{k k':Nat}{R:Res}
noncomputable def DS(kp:Nat->Option (List Nat))(s:List Nat)(σ:Hs)(L:List (Option Wy))(k:Nat)(R:Res)(τ:Hs)(k':Nat):Prop:=
 (L=[]/\R=.eK/\τ=σ/\k'=k)\/(∃ L' w,L=L'++[some w]/\Tr kp s w.c w.a w.nm σ L' k R τ k')
theorem Tr.no{i:Im}{r:List Im}{a:Nat}{nm:Nm}{L:List (Option Wy)}(X:dP kp s i r a nm σ .no)(F:DS kp s σ L (k+1) R τ k'):Tr kp s (i::r) a nm σ L k R τ k':=by
 rcases F with⟨rfl,rfl,rfl,rfl⟩|⟨L',w,rfl,T⟩
 ·exact .eK X
 ·exact .pop X T
theorem Tr.nX{i:Im}{r c':List Im}{a a':Nat}{nm gZ:Nm}{σ':Hs}{L:List (Option Wy)}(X:dP kp s i r a nm σ (.go c' a' gZ σ' []))(T:Tr kp s c' a' gZ σ' L (k+1) R τ k'):Tr kp s (i::r) a nm σ L k R τ k':=
 .go X (by rw[ce];exact T)
inductive lC(kp:Nat->Option (List Nat))(s:List Nat)(c:List Im)(a:Nat)(nm:Nm)(σ:Hs)(L:List (Option Wy))(k m:Nat)(σ':Hs):Prop where
 |mk (j:Nat) (hj:j<=m) (T:∀ R τ k',DS kp s σ' L (k+j) R τ k'->Tr kp s c a nm σ L k R τ k'):lC kp s c a nm σ L k m σ'
noncomputable def nY(kp:Nat->Option (List Nat))(s:List Nat)(lo:Nat)(c:List Im)(κ:Nat->Nat)(g:Ef):Prop:=∀⦃m a:Nat⦄⦃nm:Nm⦄⦃σ:Hs⦄⦃L:List (Option Wy)⦄⦃k:Nat⦄,lo<=a->a<=s.length->s.length<=a+m->lC kp s c a nm σ L k (κ m) (g a σ)
theorem lC.to{c:List Im}{a m:Nat}{nm:Nm}{L:List (Option Wy)}(h:lC kp s c a nm σ L k m σ1)(e:σ1=σ2):lC kp s c a nm σ L k m σ2:=e▸h
theorem lC.pre{c c':List Im}{a a' j m m':Nat}{nm gZ:Nm}{σ':Hs}{L L':List (Option Wy)}(h:lC kp s c' a' gZ σ' L (k+j) m σ1)(hm:j+m<=m')(f:∀{R τ k'},Tr kp s c' a' gZ σ' L (k+j) R τ k'->Tr kp s c a nm σ L k R τ k'):lC kp s c a nm σ L k m' σ1:=by
 obtain⟨i,hi,T⟩:=h
 exact⟨j+i,by exact nt (am [_,_,_,_] (.d (.a ab ac) ar (.d aA ac (.d (.s ar) (.a ab aA) .z))) rfl hm hi),λR τ k' F=>f (T R τ k' (by rw[dU];exact F))⟩
theorem lC.two{c c':List Im}{a a' m1 m2 m':Nat}{nm gZ:Nm}{L:List (Option Wy)}{w:Wy}{σ0:Hs}(h:lC kp s c' a' gZ σ0 (L++[some w]) (k+1) m1 σ1)(hw:∀ k,lC kp s w.c w.a w.nm σ1 L k m2 σ2)(hm:1+m1+m2<=m')(f:∀{R τ k'},Tr kp s c' a' gZ σ0 (L++[some w]) (k+1) R τ k'->Tr kp s c a nm σ L k R τ k'):lC kp s c a nm σ L k m' σ2:=by
 obtain⟨i,hi,T⟩:=h
 exact(hw (k+(1+i))).pre (L':=L) (j:=1+i) (by exact nt (am [_,_,_,_] (.d (.a (.a (.n 1) ab) ac) ar (.d aA ab (.d (.s ar) (.a (.a (.n 1) aA) ac) .z))) rfl hm hi)) λT2=>f (T _ _ _ (.inr ⟨L,w,rfl,by rw[dU];exact T2⟩))
variable {r:List Im}{κ:Nat->Nat}{lo:Nat}{g:Ef}
theorem Lv{q b:Nat}{key:List Nat}(hq:kp q=some key)(h:nY kp s lo r κ g):nY kp s lo (.en q b::r) (λj=>1+κ j) (λa σ=>g a (gO σ key (.str ((s.take a).drop b)))):=λm a nm σ L k cH ha hm=>
 (h cH ha hm (nm:=nm) (L:=L) (k:=k+1)).pre (L':=L) (aC _) λT=>Tr.nX (.en hq) T
theorem B2:nY kp s lo (.nd .fail::r) (λ_=>1) (λ_ σ=>σ):=λm a nm σ L k cH ha hm=>⟨1,aC _,λR τ k' F=>Tr.no .fail F⟩
theorem Sy{x:Sg}(h:nY kp s lo r κ g):nY kp s lo (.nd (.sg x)::r) (λj=>1+κ j) (λa σ=>fo g (cG s x a) σ):=λm a nm σ L k cH ha hm=>by
  show lC kp s _ a nm σ L k (1+κ m) (fo g (cG s x a) σ)
  unfold cG
  cases he:dT s a x with
 |none=>exact⟨1,cC _ _,λR τ k' F=>Tr.no (.Ks he) F⟩
 |some e=>
   have:=zz he ha
   exact(h (bj cH this.1) this.2 (bj hm (tj this.1 m)) (nm:=nm) (L:=L) (k:=k+1)).pre (L':=L) (aC _) λT=>Tr.nX (.Uh he) T
theorem Op(h:nY kp s lo r κ g):∀(m a:Nat)(c:Nat)(nm:Nm)(σ:Hs)(L:List (Option Wy))(k:Nat),lo<=a->a+c=s.length->c<=m->lC kp s (.nd .cg::r) a nm σ L k ((c+1)*(1+κ m)) (fo g (List.range' a (c+1)) σ):=by
  intro m a c
  induction c generalizing a with
 |zero=>
   intro nm σ L k cH hc hm
   exact(h (m:=m) cH (by exact nt (am [_,_] (.d (.a ab (.n 0)) ac (.d (.s ac) ab .z)) rfl (bk hc))) (by exact nt (am [_,_,_] (.d ab (.a ac (.n 0)) (.d (.s (.a ac ar)) ab .z)) rfl (bk (bV hc)))) (nm:=nm) (L:=L) (k:=k+1)).pre (L':=L) (by omega) λT=>Tr.nX (.O8 (by exact am [_,_] (.d ab (.a ac (.n 0)) (.d (.s ac) ab .z)) rfl (bk (bV hc)))) T
 |succ c ih=>
   intro nm σ L k cH hc hm
   exact(h (m:=m) cH (by exact nt (am [_,_,_] (.d (.a ab (.s ac)) ar (.d (.s ar) ab .z)) rfl (bk hc))) (by exact nt (am [_,_,_,_] (.d ab (.a ac (.s ar)) (.d (.s ar) aA (.d (.s (.a ac aA)) ab .z))) rfl (bk (bV hc)) hm)) (nm:=nm) (L:=L++[some ⟨.nd .cg::r,a+1,nm⟩]) (k:=k+1)).two (λk=>ih (a+1) nm _ L k (by exact nt (am [_,_] (.d ab ac (.d (.s (.s ac)) ab .z)) rfl cH)) (by exact iQ (nt (am [_,_,_] (.d (.a ab (.s ac)) ar (.d (.s ar) (.a (.s ab) ac) .z)) rfl (bk hc))) (nt (am [_,_,_] (.d ab (.a ac (.s ar)) (.d (.s (.a (.s ac) ar)) ab .z)) rfl (bk (bV hc))))) (by exact nt (am [_,_] (.d (.s ab) ac (.d (.s ac) ab .z)) rfl hm))) (by rw[Nat.add_mul (c+1) 1];exact nt (am [_,_] (.d (.s (.a ab (.m 1 (.a (.n 1) ac)))) (.a (.a (.n 1) ac) ab) .z) rfl)) λT=>.go (.Kt (by exact nl (am [_,_,_] (.d (.a ab (.s ac)) ar (.d ar ab .z)) rfl (bk hc)))) T
theorem B3(h:nY kp s lo r κ g){m:Nat}{nm:Nm}{L:List (Option Wy)}:∀(es:List Nat)(e:Nat)(σ:Hs)(k:Nat),(∀ x∈e::es,lo<=x/\x<=s.length/\s.length<=x+m) ->
  ∃ j,j<=(es.length+1)*κ m/\∀ R τ k',DS kp s (fo g (e::es) σ) L (k+j) R τ k'->Tr kp s r e nm σ (L++(es.reverse.map λx=>some ⟨r,x,nm⟩)) k R τ k'
 |[],e,σ,k,hx=>by
  obtain⟨x1,x2,x3⟩:=hx e (.head _)
  obtain⟨i,hi,T⟩:=h x1 x2 x3 (nm:=nm) (σ:=σ) (L:=L) (k:=k)
  exact⟨i,by rw[List.length_nil,fG,Nat.one_mul];exact hi,λR τ k' F=>by rw[pv,rT,ce];exact T R τ k' F⟩
 |e1::es,e,σ,k,hx=>by
  obtain⟨x1,x2,x3⟩:=hx e (.head _)
  obtain⟨i,hi,T⟩:=h x1 x2 x3 (nm:=nm) (σ:=σ) (L:=L++(es.reverse.map λx=>some ⟨r,x,nm⟩)++[some ⟨r,e1,nm⟩]) (k:=k)
  obtain⟨j,hj,T2⟩:=B3 h es e1 (g e σ) (k+i) (λx hm=>hx x (.tail _ hm))
  refine⟨i+j,by rw[cw,Nat.add_mul (es.length+1) 1];exact nt (am [_,_,_,_] (.d ab ac (.d ar aA (.d (.s (.a aA (.m 1 ac))) (.a ab ar) .z))) rfl hi hj),λR τ k' F=>?_⟩
  rw[eM,du,← bZ]
  exact T R τ k' (.inr ⟨_,_,rfl,T2 R τ k' (by rw[dU];exact F)⟩)
theorem Oq(hs:s.length<=3)(h:nY kp s lo r κ g):nY kp s lo (.nd .eU::r) (λm=>1+(m+1)*κ m) (λa σ=>fo g (eB s a) σ):=λm a nm σ L k cH ha hm=>by
  have hl:=rH ha
  have hf:=dL s .eU a ha
  have hf:∀ e∈eB s a,a<=e/\e<=s.length:=hf
  show lC kp s _ a nm σ L k (1+(m+1)*κ m) (fo g (eB s a) σ)
  cases hb:eB s a with
 |nil=>exact⟨1,cC _ _,λR τ k' F=>Tr.no (.qq hb (by exact nl (am [_] (.d ab (.n 3) (.d (.n 1000) ab .z)) rfl hs))) F⟩
 |cons e es=>
   rw[hb] at hl hf
   rw[cw] at hl
   obtain⟨j,hj,T⟩:=B3 h (m:=m) (nm:=nm) (L:=L) es e σ (k+1) (λx hx=>⟨bj cH (hf x hx).1,(hf x hx).2,bj hm (tj (hf x hx).1 m)⟩)
   have hle:(es.length+1)*κ m<=(m+1)*κ m:=tb _ (by omega)
   exact⟨1+j,by exact nt (am [_,_,_] (.d ab ac (.d ac ar (.d (.s (.a (.n 1) ar)) (.a (.n 1) ab) .z))) rfl hj hle),λR τ k' F=>.go (.u5 hb (by omega) (by exact nl (am [_] (.d ab (.n 3) (.d (.n 1000) ab .z)) rfl hs))) (T R τ k' (by rw[dU];exact F))⟩
theorem Sz{x:Nd}{C:(Nat->Nat)->Nat->Nat}(hx:∀{lo r κ g},nY kp s lo r κ g->nY kp s lo (.nd x::r) (C κ) (λa σ=>fo g (ends s x a) σ))(h:nY kp s lo r κ g):∀(m:Nat)⦃a:Nat⦄⦃nm:Nm⦄⦃σ:Hs⦄⦃L:List (Option Wy)⦄⦃k:Nat⦄,lo<=a->a<=s.length->s.length<=a+m->lC kp s (.nd (.rp x)::r) a nm σ L k (Lu C κ m) (fo g (jv (ends s x) m a) σ):=by
  intro m
  induction m with
 |zero=>
   intro a nm σ L k cH ha hm
   have hb:nY kp s a (.er x a::r) (λ_=>1) (λ_ σ=>σ):=λm' a' gZ σ' L' k' h1 Dd WT=>by
    have:a'=a:=by exact iQ (nt (am [_,_,_] (.d ab (.a ac (.n 0)) (.d ar ab (.d (.s ac) ar .z))) rfl hm Dd)) (nt (am [_,_] (.d ab ac (.d (.s ac) ab .z)) rfl h1))
    subst this
    exact⟨1,aC _,λR τ k' F=>Tr.no .HJ F⟩
   exact(h (m:=0) cH ha hm (nm:=nm) (L:=L++[some ⟨.nd x::.er x a::r,a,nm⟩]) (k:=k+1)).two (λk=>(hx hb (m:=0) (aC _) ha hm).to Sx) (aC _) λT=>.go .rp T
 |succ m ih=>
   intro a nm σ L k cH ha hm
   have hb:nY kp s a (.er x a::r) (λ_=>1+Lu C κ m) (λe σ=>fo g (if a<e then jv (ends s x) m e else []) σ):=λm' a' gZ σ' L' k' h1 Dd WT=>by
    by_cases he:a'=a
    ·subst he
     show lC kp s _ a' gZ σ' L' k' _ (fo g (if a'<a' then jv (ends s x) m a' else []) σ')
     rw[if_neg (nZ _)]
     exact⟨1,cC _ _,λR τ k' F=>Tr.no .HJ F⟩
    ·show lC kp s _ a' gZ σ' L' k' _ (fo g (if a<a' then jv (ends s x) m a' else []) σ')
     rw[if_pos (by omega)]
     exact(ih (a:=a') (nm:=gZ) (σ:=σ') (L:=L') (k:=k'+1) (by exact nt (am [_,_,_] (.d ab ac (.d ac ar (.d (.s ar) ab .z))) rfl cH h1)) Dd (by omega)).pre (L':=L') (aC _) λT=>Tr.nX (.Ui λe=>he e.symm) T
   exact((h (m:=m+1) cH ha hm (nm:=nm) (L:=L++[some ⟨.nd x::.er x a::r,a,nm⟩]) (k:=k+1)).two (λk=>hx hb (m:=m+1) (aC _) ha hm) (aC _) λT=>.go .rp T).to (by rw[rG,FM,vG])
theorem jw(hs:s.length<=3):∀ n:Nd,P2 n->∀⦃lo:Nat⦄⦃r:List Im⦄⦃κ:Nat->Nat⦄⦃g:Ef⦄,nY kp s lo r κ g->nY kp s lo (.nd n::r) (zB n κ) (λa σ=>fo g (ends s n a) σ)
 |.sg x,_,_,_,_,_,h=>Sy h
 |.al x y,hk,lo,r,κ,g,h=>λm a nm σ L k cH ha hm=>
  ((jw hs x hk.1 h cH ha hm (nm:=nm) (L:=L++[some ⟨.nd y::r,a,nm⟩]) (k:=k+1)).two (λk=>jw hs y hk.2 h (m:=m) cH ha hm) (aC _) λT=>.go .al T).to zC.symm
 |.ca x y,hk,lo,r,κ,g,h=>λm a nm σ L k cH ha hm=>
  ((jw hs x hk.1 (jw hs y hk.2 h) cH ha hm (nm:=nm) (L:=L) (k:=k+1)).pre (L':=L) (aC _) λT=>Tr.nX .ca T).to vG.symm
 |.rp x,hk,lo,r,κ,g,h=>λm a nm σ L k cH ha hm=>
  (Sz (λh=>jw hs x hk h) h m cH ha hm).to (by rw[nH (dL s x) m s.length a ha hm (fJ _ _)];rfl)
 |.cg,_,lo,r,κ,g,h=>λm a nm σ L k cH ha hm=>by
  have e:s.length+1-a=s.length-a+1:=by omega
  show lC kp s _ a nm σ L k ((m+1)*(1+κ m)) (fo g (List.range' a (s.length+1-a)) σ)
  rw[e]
  obtain⟨j,hj,T⟩:=Op h m a (s.length-a) nm σ L k cH (by omega) (by omega)
  exact⟨j,bj hj (tb _ (by omega)),T⟩
 |.eU,_,lo,r,κ,g,h=>Oq hs h
 |.nw _ _,hk,_,_,_,_,_=>hk.elim
 |.fail,hk,_,_,_,_,_=>hk.elim
theorem Lw(hs:s.length<=3){n:Nd}(hn:P2 n){q:Nat}{key:List Nat}(hq:kp q=some key){nm:Nm}:∃ j,j<=2+zB n (λ_=>2) s.length/\Tr kp s [.nd (.ca (.nw n q) .fail)] 0 nm σ [] k .eK (fo (λe σ=>gO σ key (.str (s.take e))) (ends s n 0) σ) (k+j):=by
 have h:=jw hs n hn (Lv (b:=0) hq (B2 (kp:=kp) (s:=s) (lo:=0) (r:=[]))) (m:=s.length) (a:=0) (nm:=nm) (σ:=σ) (L:=[]) (k:=k+1+1) (aC _) (cj _) (fJ _ _)
 obtain⟨j,hj,T⟩:=h
 refine⟨2+j,jC hj 2,Tr.nX .ca (Tr.nX .nw (T _ _ _ (.inl ⟨rfl,rfl,rfl,by exact kS [_,_] (.a ab (.a (.n 2) ac)) (.a (.s (.s ab)) ac) rfl⟩)))⟩
end
set_option genCtorIdx false in
inductive Sh where
 |le|ca (a b:Sh)|al (a b:Sh)|rp (a:Sh)
noncomputable def rI(C:(Nat->Nat)->Nat->Nat)(κ:Nat->Nat):Nat->Nat
 |0=>4+κ 0+C (λ_=>1) 0
 |m+1=>4+κ (m+1)+C (λ_=>2+rI C κ m) (m+1)
noncomputable def lD:Sh->(Nat->Nat)->Nat->Nat
 |.le,κ,m=>(m+1)*(4+κ m)
 |.ca a b,κ,m=>1+lD a (lD b κ) m
 |.al a b,κ,m=>3+lD a κ m+lD b κ m
 |.rp a,κ,m=>rI (lD a) κ m
noncomputable def eR:Nd->Sh
 |.ca a b=>.ca (eR a) (eR b)
 |.al a b=>.al (eR a) (eR b)
 |.rp n=>.rp (eR n)
 |_=>.le
noncomputable def eO(C:(Nat->Nat)->Nat->Nat):Prop:=∀ κ κ':Nat->Nat,(∀ j,κ j<=κ' j)->∀ m,C κ m<=C κ' m
theorem Ik{C:(Nat->Nat)->Nat->Nat}(h:eO C):eO (rI C):=λκ κ' hk m=>by
  induction m with
 |zero=>exact i6 (jC (hk 0) 4) (aC _)
 |succ m ih=>exact i6 (jC (hk _) 4) (h _ _ (λ_=>jC ih 2) _)
theorem gx:∀ x:Sh,eO (lD x)
 |.le,κ,κ',h,m=>wm _ (jC (h m) 4)
 |.ca a b,κ,κ',h,m=>jC (gx a _ _ (gx b κ κ' h) m) 1
 |.al a b,κ,κ',h,m=>i6 (jC (gx a κ κ' h m) 3) (gx b κ κ' h m)
 |.rp a,κ,κ',h,m=>Ik (gx a) κ κ' h m
noncomputable def SA(C D:(Nat->Nat)->Nat->Nat):Prop:=∀ κ κ':Nat->Nat,(∀ j,κ j<=κ' j)->∀ m,C κ m<=D κ' m
theorem SD{C D:(Nat->Nat)->Nat->Nat}(h:SA C D):SA (Lu C) (rI D):=λκ κ' hk m=>by
  induction m with
 |zero=>exact i6 (i6 (by decide) (hk 0)) (h _ _ (λ_=>aC _) _)
 |succ m ih=>exact i6 (i6 (by decide) (hk _)) (h _ _ (λ_=>i6 (by decide) ih) _)
theorem vH{a b m:Nat}(h:a<=b):4+a<=(m+1)*(4+b):=by
 have:1*(4+b)<=(m+1)*(4+b):=tb _ (by exact nt (am [_] (.d (.s (.s ab)) (.n 1) .z) rfl))
 exact nt (am [_,_,_] (.d ab ac (.d (.m 1 (.a (.n 4) ac)) ar (.d (.s ar) (.a (.n 4) ab) .z))) rfl h this)
theorem lE:∀ n:Nd,SA (zB n) (lD (eR n))
 |.al a b,κ,κ',h,m=>i6 (i6 (by decide) (lE a κ κ' h m)) (lE b κ κ' h m)
 |.ca a b,κ,κ',h,m=>jC (lE a _ _ (lE b κ κ' h) m) 1
 |.rp n,κ,κ',h,m=>SD (lE n) κ κ' h m
 |.sg _,κ,κ',h,m=>bj (by show 1+κ m<=4+κ m;exact nt (am [_] (.d (.s (.a (.n 4) ab)) (.a (.n 1) ab) .z) rfl)) (vH (h m))
 |.cg,κ,κ',h,m=>wm _ (i6 (by decide) (h m))
 |.eU,κ,κ',h,m=>by
  have h1:(m+1)*κ m<=(m+1)*κ' m:=wm _ (h m)
  show 1+(m+1)*κ m<=(m+1)*(4+κ' m)
  rw[Nat.mul_add];exact nt (am [_,_,_] (.d ab ac (.d (.s (.a (.r (.s ar) 4) ac)) (.a (.n 1) ab) .z)) rfl h1)
 |.nw _ _,_,_,_,_=>cj _
 |.fail,_,_,_,_=>cj _
noncomputable abbrev Oc:=Hs×Option Nat
noncomputable abbrev Eo:=Nat->Hs->Oc
noncomputable def jW(o:Oc)(f:Hs->Oc):Oc:=match o.2 with
 |none=>f o.1
 |some _=>o
theorem Lx(o:Oc)(f g:Hs->Oc):jW (jW o f) g=jW o λσ=>jW (f σ) g:=by
 obtain⟨σ,b⟩:=o
 induction b <;> rfl
theorem B4(o:Oc):jW o (λσ=>(σ,none))=o:=by
 obtain⟨σ,b⟩:=o
 induction b <;> rfl
noncomputable def cr(g:Eo):List Nat->Hs->Oc
 |[],σ=>(σ,none)
 |e::r,σ=>jW (g e σ) (cr g r)
theorem lF{g:Eo}{e:Nat}{r:List Nat}{σ:Hs}:cr g (e::r) σ=jW (g e σ) (cr g r):=rfl
theorem s8{g:Eo}{e:Nat}{σ:Hs}:cr g [e] σ=g e σ:=B4 _
theorem rJ{g:Eo}{b:List Nat}:∀{a:List Nat}{σ:Hs},cr g (a++b) σ=jW (cr g a σ) (cr g b)
 |[],_=>rfl
 |e::r,σ=>by
  rw[td,lF,lF,Lx]
  exact congrArg (jW (g e σ)) (funext λσ=>rJ (a:=r))
theorem pd{g:Eo}{f:Nat->List Nat}:∀{l:List Nat}{σ:Hs},cr g (l.flatMap f) σ=cr (λe=>cr g (f e)) l σ
 |[],_=>rfl
 |e::r,σ=>by
  rw[mi,rJ,lF]
  exact congrArg (jW (cr g (f e) σ)) (funext λσ=>pd (l:=r))
theorem Ly{l:List Nat}{σ:Hs}:cr (λ_ σ=>(σ,none)) l σ=(σ,none):=by induction l with
 |nil=>rfl
 |cons e r ih=>exact ih
theorem mX{g h:Eo}:∀{l:List Nat}{σ:Hs},(∀ e∈l,∀ σ,g e σ=h e σ)->cr g l σ=cr h l σ
 |[],_,_=>rfl
 |e::r,σ,k=>by
  rw[lF,lF,k e (.head _)]
  exact congrArg (jW (h e σ)) (funext λσ=>mX (l:=r) λx hx=>k x (.tail _ hx))
theorem B5{g:Ef}:∀{l:List Nat}{σ:Hs},cr (λe σ=>(g e σ,none)) l σ=(fo g l σ,none)
 |[],_=>rfl
 |e::r,σ=>B5 (l:=r)
section
variable {kp:Nat->Option (List Nat)}{s:List Nat}{σ τ:Hs}{k k':Nat}
noncomputable def Lz(kp:Nat->Option (List Nat))(s:List Nat)(σ:Hs)(L:List (Option CW))(k:Nat)(R:js)(τ:Hs)(k':Nat):Prop:=
 (L=[]/\R=.eK/\τ=σ/\k'=k)\/(∃ L' w,L=L'++[some w]/\Rn kp s w L' σ k R τ k')
theorem Rn.no{w:CW}{od:Od}{L:List (Option CW)}{R:js}(h:w.O[w.pc]?=some od)(X:hV kp s od w σ .no)(F:Lz kp s σ L (k+1) R τ k'):Rn kp s w L σ k R τ k':=by
 rcases F with⟨rfl,rfl,rfl,rfl⟩|⟨L',w,rfl,T⟩
 ·exact .eK h X
 ·exact .pop h X T
theorem Rn.nX{w w':CW}{od:Od}{σ':Hs}{L:List (Option CW)}{R:js}(h:w.O[w.pc]?=some od)(X:hV kp s od w σ (.go w' σ' []))(T:Rn kp s w' L σ' (k+1) R τ k'):Rn kp s w L σ k R τ k':=
 .go h X (by rw[ce];exact T)
inductive rK(kp:Nat->Option (List Nat))(s:List Nat)(L:List (Option CW))(nm:Nm)(P:js->Hs->Nat->Prop)(k m:Nat)(o:Oc):Prop where
 |mY (j:Nat) (hj:j<=m) (ho:o.2=none) (T:∀ R τ k',Lz kp s o.1 L (k+j) R τ k'->P R τ k'):rK kp s L nm P k m o
 |fin (j:Nat) (hj:j<=m) (w:CW) (ho:o.2=some w.a) (hn:w.nm=nm) (T:P (.met w) o.1 (k+j)):rK kp s L nm P k m o
noncomputable abbrev pe(kp:Nat->Option (List Nat))(s:List Nat)(w:CW)(L:List (Option CW))(σ:Hs)(k m:Nat)(o:Oc):Prop:=rK kp s L w.nm (λR τ k'=>Rn kp s w L σ k R τ k') k m o
variable {L:List (Option CW)}{nm:Nm}{P P':js->Hs->Nat->Prop}{m m':Nat}{o:Oc}
theorem rK.pre{j:Nat}(h:rK kp s L nm P (k+j) m o)(hm:j+m<=m')(f:∀{R τ k'},P R τ k'->P' R τ k'):rK kp s L nm P' k m' o:=by
  induction h with
 |mY i hi ho T=>exact .mY (j+i) (by exact nt (am [_,_,_,_] (.d (.a ab ac) ar (.d aA ac (.d (.s ar) (.a ab aA) .z))) rfl hm hi)) ho λR τ k' F=>f (T R τ k' (by rw[dU];exact F))
 |fin i hi w ho hn T=>exact .fin (j+i) (by exact nt (am [_,_,_,_] (.d (.a ab ac) ar (.d aA ac (.d (.s ar) (.a ab aA) .z))) rfl hm hi)) w ho hn (by rw[← dU];exact f T)
theorem rK.two{w2:CW}{j m1 m2:Nat}{f:Hs->Oc}(h:rK kp s (L++[some w2]) nm P (k+j) m1 o)(hw:∀ k σ,pe kp s w2 L σ k m2 (f σ))(hn:w2.nm=nm)(hm:j+m1+m2<=m')(g:∀{R τ k'},P R τ k'->P' R τ k'):rK kp s L nm P' k m' (jW o f):=by
  obtain⟨σ,b⟩:=o
  induction h with
 |fin i hi w ho hn T=>
   have ho:b=some w.a:=ho
   subst ho
   exact .fin (j+i) (by exact nt (am [_,_,_,_,_] (.d (.a (.a ab ac) ar) aA (.d bH ac (.d (.s aA) (.a ab bH) .z))) rfl hm hi)) w rfl hn (by rw[← dU];exact g T)
 |mY i hi ho T=>
   have ho:b=none:=ho
   subst ho
   have h2:=hw (k+(j+i)) σ
   rw[pe,hn] at h2
   exact h2.pre (j:=j+i) (by exact nt (am [_,_,_,_,_] (.d (.a (.a ab ac) ar) aA (.d bH ac (.d (.s aA) (.a (.a ab bH) ar) .z))) rfl hm hi)) λT2=>g (T _ _ _ (.inr ⟨L,w2,rfl,by rw[dU];exact T2⟩))
theorem rK.le(h:rK kp s L nm P k m o)(hm:m<=m'):rK kp s L nm P k m' o:=h.pre (j:=0) (by exact nt (am [_,_] (.d ab ac (.d (.s ac) (.a (.n 0) ab) .z)) rfl hm)) id
variable (kp s) in
noncomputable def At(S:List Od)(lo:Nat)(mk:List Nat)(pc:Nat)(κ:Nat->Nat)(g:Eo):Prop:=∀⦃m a:Nat⦄⦃nm:Nm⦄⦃σ:Hs⦄⦃L:List (Option CW)⦄⦃k:Nat⦄,lo<=a->a<=s.length->s.length<=a+m->pe kp s ⟨S,pc,a,nm,mk,[]⟩ L σ k (κ m) (g a σ)
theorem At.to{S:List Od}{lo pc:Nat}{mk:List Nat}{κ κ':Nat->Nat}{g g':Eo}(h:At kp s S lo mk pc κ g)(hk:∀ j,κ j<=κ' j)(hg:∀ a,lo<=a->a<=s.length->∀ σ,g a σ=g' a σ):At kp s S lo mk pc κ' g':=λm a nm σ L k h1 h2 h3=>hg a h1 h2 σ▸(h h1 h2 h3).le (hk m)
theorem At.le{S:List Od}{lo pc:Nat}{mk:List Nat}{κ κ':Nat->Nat}{g:Eo}(h:At kp s S lo mk pc κ g)(hk:∀ j,κ j<=κ' j):At kp s S lo mk pc κ' g:=h.to hk λ_ _ _ _=>rfl
theorem At.lo{S:List Od}{lo u6 pc:Nat}{mk:List Nat}{κ:Nat->Nat}{g:Eo}(h:At kp s S lo mk pc κ g)(hl:lo<=u6):At kp s S u6 mk pc κ g:=λm a nm σ L k h1 h2 h3=>h (bj hl h1) h2 h3
variable (kp s) in
structure K2(S:List Od)(fn:Nat->Nat)(lo:Nat)(mk:List Nat)(e:Nat)(κ:Nat->Nat)(g:Eo):Prop where
 f:At kp s S lo mk (fn e) κ g
 e:At kp s S lo mk e (λj=>1+κ j) g
theorem K2.to{S:List Od}{fn:Nat->Nat}{lo e:Nat}{mk:List Nat}{κ κ':Nat->Nat}{g g':Eo}(h:K2 kp s S fn lo mk e κ g)(hk:∀ j,κ j<=κ' j)(hg:∀ a,lo<=a->a<=s.length->∀ σ,g a σ=g' a σ):K2 kp s S fn lo mk e κ' g':=⟨h.f.to hk hg,h.e.to (λj=>jC (hk j) 1) hg⟩
theorem K2.lo{S:List Od}{fn:Nat->Nat}{lo u6 e:Nat}{mk:List Nat}{κ:Nat->Nat}{g:Eo}(h:K2 kp s S fn lo mk e κ g)(hl:lo<=u6):K2 kp s S fn u6 mk e κ g:=⟨h.f.lo hl,h.e.lo hl⟩
theorem K2.of{S:List Od}{fn:Nat->Nat}{lo e:Nat}{mk:List Nat}{κ:Nat->Nat}{g:Eo}(h:At kp s S lo mk e κ g)(hf:fn e=e):K2 kp s S fn lo mk e κ g:=⟨by rw[hf];exact h,h.le λj=>fJ _ _⟩
end
section
variable {kp:Nat->Option (List Nat)}{s:List Nat}{S:List Od}{lo pc g q:Nat}{mk:List Nat}{κ κ2:Nat->Nat}{key:List Nat}{G G2:Eo}
theorem Ot{x:Sg}(h:S[pc]?=some (.one x))(c:At kp s S lo mk (pc+1) κ G):At kp s S lo mk pc (λj=>1+κ j) (λa σ=>cr G (cG s x a) σ):=λm a nm σ L k cH ha hm=>by
  show pe kp s _ L σ k (1+κ m) (cr G (cG s x a) σ)
  unfold cG
  cases he:dT s a x with
 |none=>exact .mY 1 (cC _ _) rfl λR τ k' F=>Rn.no h (.KI he) F
 |some e=>
   have:=zz he ha
   show pe kp s _ L σ k (1+κ m) (cr G [e] σ)
   rw[s8]
   exact(c (bj cH this.1) this.2 (bj hm (tj this.1 m))).pre (j:=1) (aC _) λT=>Rn.nX h (.Pb he) T
theorem B6(h:S[pc]?=some (.dH g))(c:At kp s S lo mk g κ G):At kp s S lo mk pc (λj=>1+κ j) G:=λm a nm σ L k cH ha hm=>
 (c cH ha hm).pre (j:=1) (aC _) λT=>Rn.nX h .dH T
theorem Il(h:S[pc]?=some (.split g))(c:At kp s S lo mk (pc+1) κ G)(c2:At kp s S lo mk g κ2 G2):At kp s S lo mk pc (λj=>1+κ j+κ2 j) (λa σ=>jW (G a σ) (G2 a)):=λm a nm σ L k cH ha hm=>
 (c cH ha hm (L:=L++[some ⟨S,g,a,nm,mk,[]⟩])).two (j:=1) (λk σ=>c2 cH ha hm) rfl (aC _) λT=>Rn.go h .split T
theorem LA(h:S[pc]?=some .mark)(c:∀ a,lo<=a->a<=s.length->At kp s S a (a::mk) (pc+1) κ (λe=>G e)):At kp s S lo mk pc (λj=>1+κ j) (λa σ=>G a σ):=λm a nm σ L k cH ha hm=>
 (c a cH ha (aC _) ha hm).pre (j:=1) (aC _) λT=>Rn.nX h .mark T
theorem Ou{b:Nat}(hq:kp q=some key)(h:S[pc]?=some (.set q))(c:At kp s S lo mk (pc+1) κ G):At kp s S lo (b::mk) pc (λj=>1+κ j) (λa σ=>G a (gO σ key (.str ((s.take a).drop b)))):=λm a nm σ L k cH ha hm=>
 (c cH ha hm).pre (j:=1) (aC _) λT=>Rn.nX h (.set hq) T
theorem LB(h:S[pc]?=some .fail):At kp s S lo mk pc (λ_=>1) (λ_ σ=>(σ,none)):=λm a nm σ L k cH ha hm=>.mY 1 (aC _) rfl λR τ k' F=>Rn.no h .fail F
theorem LC(h:S[pc]?=some .done):At kp s S lo mk pc (λ_=>1) (λa σ=>(σ,some a)):=λm a nm σ L k cH ha hm=>.fin 1 (aC _) ⟨S,pc,a,nm,mk,[]⟩ rfl rfl (.met h rfl)
theorem vI(c:At kp s S lo mk pc κ G){m:Nat}{nm:Nm}{L:List (Option CW)}:∀(es:List Nat)(e:Nat)(σ:Hs)(k:Nat),(∀ x∈e::es,lo<=x/\x<=s.length/\s.length<=x+m) ->
   rK kp s L nm (λR τ k'=>Rn kp s ⟨S,pc,e,nm,mk,[]⟩ (L++(es.reverse.map λx=>some ⟨S,pc,x,nm,mk,[]⟩)) σ k R τ k') k ((es.length+1)*κ m) (cr G (e::es) σ)
 |[],e,σ,k,hx=>by
   obtain⟨x1,x2,x3⟩:=hx e (.head _)
   rw[s8,List.length_nil,fG,Nat.one_mul,pv,rT,ce]
   exact c x1 x2 x3
 |e1::es,e,σ,k,hx=>by
   obtain⟨x1,x2,x3⟩:=hx e (.head _)
   rw[eM,du,← bZ,cw,Nat.add_mul (es.length+1) 1,Nat.one_mul,lF]
   have h1:=c x1 x2 x3 (nm:=nm) (σ:=σ) (L:=L++(es.reverse.map λx=>some (CW.mk S pc x nm mk []))++[some ⟨S,pc,e1,nm,mk,[]⟩]) (k:=k)
   have h2:=λk σ=>vI c (m:=m) (nm:=nm) (L:=L) es e1 σ k λx hm=>hx x (.tail _ hm)
   generalize G e σ=o at h1
   obtain⟨σ',b⟩:=o
   induction h1 with
  |fin i hi w ho hn T=>
    have ho:b=some w.a:=ho
    subst ho
    exact .fin i (by exact nt (am [_,_,_] (.d ab ac (.d (.s (.a ar ac)) ab .z)) rfl hi)) w rfl hn T
  |mY i hi ho T=>
    have ho:b=none:=ho
    subst ho
    exact(h2 (k+i) σ').pre (j:=i) (by exact nt (am [_,_,_] (.d ab ac (.d (.s (.a ar ac)) (.a ab ar) .z)) rfl hi)) λT2=>T _ _ _ (.inr ⟨_,_,rfl,T2⟩)
theorem Ov(h:S[pc]?=some .lT)(c:At kp s S lo mk (pc+1) κ G):At kp s S lo mk pc (λj=>1+(j+1)*κ j) (λa σ=>cr G (ends s .cg a) σ):=λm a nm σ L k cH ha hm=>by
 have hle:(s.length-a+1)*κ m<=(m+1)*κ m:=tb _ (by omega)
 have e:ends s .cg a=a::List.range' (a+1) (s.length-a):=by
  show List.range' a (s.length+1-a)=_
  rw[show s.length+1-a=s.length-a+1 by omega,List.range'_succ]
 have h1:=vI c (m:=m) (nm:=nm) (L:=L) (List.range' (a+1) (s.length-a)) a σ (k+1) λx hx=>by
  rcases fm.mp hx with h|h
  ·subst h;exact⟨cH,ha,hm⟩
  ·have:=List.mem_range'_1.mp h;exact⟨by exact nt (am [_,_,_] (.d ab ac (.d (.s ac) ar (.d (.s ar) ab .z))) rfl cH this.1),by omega,by exact nt (am [_,_,_,_] (.d ab (.a ac ar) (.d (.s ac) aA (.d (.s (.a aA ar)) ab .z))) rfl hm this.1)⟩
 rw[wz,← e] at h1
 exact h1.pre (j:=1) (by show _<=1+(m+1)*κ m;exact nt (am [_,_] (.d ab ac (.d (.s (.a (.n 1) ac)) (.a (.n 1) ab) .z)) rfl hle)) λT=>.go h (.lT ha) T
theorem Ow(hs:s.length<=3)(h:S[pc]?=some .ot)(c:At kp s S lo mk (pc+1) κ G):At kp s S lo mk pc (λj=>1+(j+1)*κ j) (λa σ=>cr G (eB s a) σ):=λm a nm σ L k cH ha hm=>by
  have hl:=rH ha
  have hf:∀ e∈eB s a,a<=e/\e<=s.length:=dL s .eU a ha
  show pe kp s _ L σ k (1+(m+1)*κ m) (cr G (eB s a) σ)
  cases hb:eB s a with
 |nil=>exact .mY 1 (cC _ _) rfl λR τ k' F=>Rn.no h (.qq hb) F
 |cons e es=>
   rw[hb] at hl hf
   rw[cw] at hl
   have hle:(es.length+1)*κ m<=(m+1)*κ m:=tb _ (by omega)
   have h1:=vI c (m:=m) (nm:=nm) (L:=L) es e σ (k+1) λx hx=>⟨bj cH (hf x hx).1,(hf x hx).2,bj hm (tj (hf x hx).1 m)⟩
   exact h1.pre (j:=1) (by exact nt (am [_,_] (.d ab ac (.d (.s (.a (.n 1) ac)) (.a (.n 1) ab) .z)) rfl hle)) λT=>.go h (.u5 hb (by omega) (by omega)) T
theorem LD{b n r:Nat}(h:S[pc]?=some .jr)(hb:s.length<=b+(n+1))(c:∀⦃a:Nat⦄⦃nm:Nm⦄⦃σ:Hs⦄⦃L:List (Option CW)⦄⦃k:Nat⦄,b<a->a<=s.length->pe kp s ⟨S,pc+1,a,nm,mk,[]⟩ L σ k r (G a σ)):At kp s S b (b::mk) pc (λ_=>1+r) (λa σ=>if b<a then G a σ else(σ,none)):=λm a nm σ L k cH ha hm=>by
 show pe kp s _ L σ k (1+r) (if b<a then G a σ else(σ,none))
 by_cases he:b<a
 ·rw[if_pos he]
  exact(c he ha).pre (j:=1) (aC _) λT=>Rn.nX h (.KJ he) T
 ·rw[if_neg he]
  exact .mY 1 (cC _ _) rfl λR τ k' F=>Rn.no h (.zn he) F
theorem Io{b:Nat}(h:S[pc]?=some .jr)(hb:s.length<=b):At kp s S b (b::mk) pc (λ_=>1) (λ_ σ=>(σ,none)):=λm a nm σ L k cH ha hm=>
 .mY 1 (aC _) rfl λR τ k' F=>Rn.no h (.zn (by exact am [_,_,_] (.d ab ac (.d ar ab (.d (.s ac) ar .z))) rfl hb ha)) F
end
theorem qD:∀(x:Sh)(κ:Nat->Nat)(m:Nat),κ m<=lD x κ m
 |.le,κ,m=>bj (by exact nt (am [_] (.d (.s (.a (.n 4) ab)) ab .z) rfl)) (vH (m:=m) (aC (κ m)))
 |.ca a b,κ,m=>bj (qD b κ m) (bj (qD a (lD b κ) m) (fJ _ _))
 |.al a b,κ,m=>bj (qD b κ m) (fJ _ _)
 |.rp a,κ,0=>by show κ 0<=4+κ 0+_;exact nt (am [_,_] (.d (.s (.a (.a (.n 4) ab) ac)) ab .z) rfl)
 |.rp a,κ,m+1=>by show κ (m+1)<=4+κ (m+1)+_;exact nt (am [_,_] (.d (.s (.a (.a (.n 4) ab) ac)) ab .z) rfl)
noncomputable abbrev cN(n:Nd):(Nat->Nat)->Nat->Nat:=lD (eR n)
noncomputable def cS:List Nd->(Nat->Nat)->Nat->Nat
 |[],κ=>κ
 |n::r,κ=>cN n (cS r κ)
theorem Pm{n:Nd}{r:List Nd}{κ:Nat->Nat}:cS (n::r) κ=cN n (cS r κ):=rfl
theorem lG:∀(A B:List Nd)(κ:Nat->Nat),cS (A++B) κ=cS A (cS B κ)
 |[],B,κ=>rfl
 |n::r,B,κ=>by rw[td,Pm,Pm,lG r B κ]
theorem qE:∀(A:List Nd),eO (cS A)
 |[]=>λκ κ' h m=>h m
 |n::r=>λκ κ' h m=>gx (eR n) _ _ (qE r κ κ' h) m
theorem zD:∀(n:Nd)(κ:Nat->Nat)(m:Nat),cS (aP true n) κ m<=cN n κ m
 |.ca x y,κ,m=>by
  show cS (aP true x++aP true y) κ m<=1+cN x (cN y κ) m
  rw[lG]
  exact bj (bj (qE _ _ _ (zD y κ) m) (zD x _ m)) (fJ _ _)
 |.al _ _,κ,m=>aC _
 |.sg _,κ,m=>aC _
 |.rp _,κ,m=>aC _
 |.nw _ _,κ,m=>aC _
 |.cg,κ,m=>aC _
 |.eU,κ,m=>aC _
 |.fail,κ,m=>aC _
theorem SE(r:List Nd)(n:Nd)(κ:Nat->Nat)(m:Nat):cS (jR r n).reverse κ m<=cS (r.reverse++[n]) κ m:=
 qu (P:=λr n r'=>cS r'.reverse κ m<=cS (r.reverse++[n]) κ m) (λr n=>by rw[eM];exact aC _) (λr=>by rw[lG];exact qE _ _ _ (λj=>qD _ _ _) m) (λc t u r=>by
  rw[eM,eM,bZ,lG,lG]
  exact qE _ _ _ (λj=>gx .le _ _ (λj=>qD .le κ j) j) m) r n
theorem Ip(l:List Nd)(κ:Nat->Nat)(m:Nat):cS (gm l) κ m<=cS l κ m:=by
 have:∀(l r:List Nd),∀ κ m,cS (l.foldl jR r).reverse κ m<=cS (r.reverse++l) κ m:=λl=>by
   induction l with
  |nil=>intro r κ m;rw[ce];exact aC _
  |cons n l ih=>
    intro r κ m
    refine bj (ih (jR r n) κ m) ?_
    rw[show r.reverse++n::l=(r.reverse++[n])++l from by rw[bZ];rfl,lG,lG]
    exact SE r n _ m
 exact this l [] κ m
noncomputable def cL:List Nd->(Nat->Nat)->Nat->Nat
 |[],_,_=>0
 |n::r,κ,m=>3+cN n κ m+cL r κ m
theorem zE:∀(A B:List Nd)(κ:Nat->Nat)(m:Nat),cL (A++B) κ m=cL A κ m+cL B κ m
 |[],B,κ,m=>(fG _).symm
 |n::r,B,κ,m=>by
  show 3+cN n κ m+cL (r++B) κ m=3+cN n κ m+cL r κ m+cL B κ m
  rw[zE r B,dU (3+cN n κ m)]
theorem zF:∀(n:Nd)(κ:Nat->Nat)(m:Nat),cL (aP false n) κ m<=3+cN n κ m
 |.al x y,κ,m=>by
  show cL (aP false x++aP false y) κ m<=3+(3+cN x κ m+cN y κ m)
  have h1:=zF x κ m
  have h2:=zF y κ m
  rw[zE];exact nt (am [_,_,_,_] (.d ab (.a (.n 3) ac) (.d ar (.a (.n 3) aA) (.d (.s (.a (.n 3) (.a (.a (.n 3) ac) aA))) (.a ab ar) .z))) rfl h1 h2)
 |.ca _ _,κ,m=>aC _
 |.sg _,κ,m=>aC _
 |.rp _,κ,m=>aC _
 |.nw _ _,κ,m=>aC _
 |.cg,κ,m=>aC _
 |.eU,κ,m=>aC _
 |.fail,κ,m=>aC _
noncomputable def eS(s:List Nat):List Nd->Eo->Eo
 |[],g=>g
 |n::r,g=>λa σ=>cr (eS s r g) (ends s n a) σ
noncomputable def eT(s:List Nat):List Nd->Nat->List Nat
 |[],a=>[a]
 |n::r,a=>(ends s n a).flatMap (eT s r)
theorem qF{s:List Nat}{n:Nd}{r:List Nd}{a:Nat}:eT s (n::r) a=(ends s n a).flatMap (eT s r):=rfl
theorem ie{s:List Nat}{B:List Nd}:∀{A:List Nd}{a:Nat},eT s (A++B) a=(eT s A a).flatMap (eT s B)
 |[],a=>by show eT s B a=[a].flatMap (eT s B);rw[mi,List.flatMap_nil,ce]
 |n::r,a=>by
  rw[td,qF,qF,List.flatMap_assoc]
  exact iI λb _=>ie (A:=r)
theorem iq{s:List Nat}{n:Nd}{a:Nat}:eT s [n] a=ends s n a:=by
 rw[qF]
 have:∀ l:List Nat,l.flatMap (eT s [])=l:=λl=>by induction l with
  |nil=>rfl
  |cons e r ih=>rw[mi,ih];rfl
 exact this _
theorem rL{s:List Nat}:∀(n:Nd)(a:Nat),eT s (aP true n) a=ends s n a
 |.ca x y,a=>by
  show eT s (aP true x++aP true y) a=(ends s x a).flatMap (ends s y)
  rw[ie,rL x a]
  exact iI λb _=>rL y b
 |.al _ _,a=>iq
 |.sg _,a=>iq
 |.rp _,a=>iq
 |.nw _ _,a=>iq
 |.cg,a=>iq
 |.eU,a=>iq
 |.fail,a=>iq
theorem DT{s:List Nat}:∀(n:Nd)(a:Nat),(aP false n).flatMap (λp=>ends s p a)=ends s n a
 |.al x y,a=>by
  show(aP false x++aP false y).flatMap _=ends s x a++ends s y a
  rw[List.flatMap_append,DT x a,DT y a]
 |.ca _ _,a=>ce _
 |.sg _,a=>ce _
 |.rp _,a=>ce _
 |.nw _ _,a=>ce _
 |.cg,a=>ce _
 |.eU,a=>ce _
 |.fail,a=>ce _
theorem mZ(s t:List Nat)(a:Nat):jT s t a=((s.drop a).take t.length==t):=by
 rw[jT,List.drop_take,xW]
theorem Iq(s:List Nat)(a:Nat):jT s [] a=true:=by rw[mZ];rfl
theorem Ir(s u v:List Nat)(a:Nat):jT s (u++v) a=(jT s u a&&jT s v (a+u.length)):=by
 rw[mZ,mZ,mZ,← mj]
 generalize s.drop a=X
 rw[aH,List.take_add,Bool.eq_iff_iff,dw,beq_iff_eq,beq_iff_eq,beq_iff_eq]
 constructor
 ·intro h
  have h1:=congrArg List.length h
  rw[aH,aH] at h1
  have h2:(X.take u.length).length<=u.length:=List.length_take_le _ _
  have h3:((X.drop u.length).take v.length).length<=v.length:=List.length_take_le _ _
  exact List.append_inj h (by exact iQ (nt (am [_,_] (.d ab ac (.d (.s ac) ab .z)) rfl h2)) (nt (am [_,_,_,_] (.d (.a ab ac) (.a ar aA) (.d aA ac (.d (.s ar) ab .z))) rfl (bk (bV h1)) h3)))
 ·intro⟨h1,h2⟩;rw[h1,h2]
theorem na{s t:List Nat}{a:Nat}:ends s (.sg (.ch t)) a=bif jT s t a then [a+t.length] else []:=by
 show(match oN (jT s t a) (a+t.length) with|some e=>[e]|none=>[])=_
 cases jT s t a <;> rfl
theorem LF{s:List Nat}(r:List Nd)(n:Nd)(a:Nat):eT s (jR r n).reverse a=eT s (r.reverse++[n]) a:=
 qu (P:=λr n r'=>eT s r'.reverse a=eT s (r.reverse++[n]) a) (λr n=>by rw[eM]) (λr=>by
   rw[ie]
   have:∀ l:List Nat,l.flatMap (eT s [Nd.sg (.ch [])])=l:=λl=>by induction l with
    |nil=>rfl
    |cons e r ih=>rw[mi,ih,iq,na,Iq];rfl
   exact(this _).symm) (λc t u r=>by
   rw[eM,eM,bZ,ie,ie]
   refine iI λb _=>?_
   show eT s [_] b=eT s [.sg (.ch u),.sg (.ch (c::t))] b
   rw[iq,qF,na,na,Ir]
   cases jT s u b with
  |false=>rfl
  |true=>
     show _=[b+u.length].flatMap (eT s [.sg (.ch (c::t))])
     rw[mi,List.flatMap_nil,ce,iq,na,aH,← dU];rfl) r n
theorem DU{s:List Nat}(l:List Nd)(a:Nat):eT s (gm l) a=eT s l a:=by
 have:∀(l r:List Nd),eT s (l.foldl jR r).reverse a=eT s (r.reverse++l) a:=λl=>by
   induction l with
  |nil=>intro r;rw[ce];rfl
  |cons n l ih=>
    intro r
    refine(ih (jR r n)).trans ?_
    rw[show r.reverse++n::l=(r.reverse++[n])++l from by rw[bZ];rfl,ie,LF,← ie]
 exact this l []
theorem B7{s:List Nat}{g:Eo}:∀{l:List Nd}{a:Nat}{σ:Hs},eS s l g a σ=cr g (eT s l a) σ
 |[],a,σ=>s8.symm
 |n::r,a,σ=>by
  rw[qF,pd]
  exact mX λb _ σ=>B7 (l:=r)
theorem SF{s:List Nat}{g:Eo}{x y:Nd}{a:Nat}{σ:Hs}:eS s (gm (aP true (.ca x y))) g a σ=cr g (ends s (.ca x y) a) σ:=by
 rw[B7,DU,rL]
section
variable {kp:Nat->Option (List Nat)}{s:List Nat}{O:List Od}{fn:Nat->Nat}
theorem nJ(k:Bool):∀ n:Nd,P2 n->∀ p∈aP k n,P2 p
 |.al a b,h=>by
  cases k
  ·exact λp hp=>(eW.mp hp).elim (nJ false a h.1 p) (nJ false b h.2 p)
  ·exact λp hp=>by rw[dA.mp hp];exact h
 |.ca a b,h=>by
  cases k
  ·exact λp hp=>by rw[dA.mp hp];exact h
  ·exact λp hp=>(eW.mp hp).elim (nJ true a h.1 p) (nJ true b h.2 p)
 |.sg _,h=>λp hp=>by rw[dA.mp hp];exact h
 |.rp _,h=>λp hp=>by rw[dA.mp hp];exact h
 |.cg,h=>λp hp=>by rw[dA.mp hp];exact h
 |.eU,h=>λp hp=>by rw[dA.mp hp];exact h
 |.nw _ _,h=>h.elim
 |.fail,h=>h.elim
theorem SG{p:Nd}(h:gP p=true):P2 p:=by
  induction p using Nd.casesOn with
 |sg x=>trivial
 |_=>exact ff h
theorem iW{i:Nat}{x:Od}(h:O[i]?=some x):(O.map (ib fn))[i]?=some (ib fn x):=by rw[iy,h];rfl
noncomputable abbrev KC(kp:Nat->Option (List Nat))(s:List Nat)(O:List Od)(fn:Nat->Nat):Nat->List Nat->Nat->(Nat->Nat)->Eo->Prop:=K2 kp s (O.map (ib fn)) fn
noncomputable def KN(kp:Nat->Option (List Nat))(s:List Nat)(O:List Od)(fn:Nat->Nat)(f:Nd->Nat->List Od)(n:Nd):Prop:=∀ lo mk b κ g,Seg O b (f n b)->KC kp s O fn lo mk (b+(f n b).length) κ g->KC kp s O fn lo mk b (cN n κ) (λa σ=>cr g (ends s n a) σ)
theorem Pn{f:Nd->Nat->List Od}:∀(ps:List Nd),(∀ p∈ps,KN kp s O fn f p)->∀ lo mk b κ g,Seg O b (rC f ps b)->KC kp s O fn lo mk (b+(rC f ps b).length) κ g->KC kp s O fn lo mk b (cS ps κ) (eS s ps g)
 |[],_,lo,mk,b,κ,g,hs,c=>c
 |n::r,h,lo,mk,b,κ,g,hs,c=>by
  rw[zv] at hs c
  rw[aH,← dU] at c
  exact h n (.head _) lo mk b _ _ hs.l (Pn r (λp hp=>h p (.tail _ hp)) lo mk _ κ g hs.r c)
theorem Po(hF:Fn O fn){f:Nd->Nat->List Od}{e:Nat}{z:Nd}(hz:KN kp s O fn f z):∀(ps:List Nd),(∀ p∈ps,KN kp s O fn f p)->∀ lo mk b κ g,Seg O b (mU f e z ps b)->b+(mU f e z ps b).length=e->KC kp s O fn lo mk e κ g->KC kp s O fn lo mk b (λm=>cL ps κ m+cN z κ m) (λa σ=>cr g ((ps++[z]).flatMap λp=>ends s p a) σ)
 |[],_,lo,mk,b,κ,g,hs,he,c=>by
  have WU:b+(f z b).length=e:=he
  exact(hz lo mk b κ g hs (by rw[WU];exact c)).to (λj=>by show _<=0+_;exact nt (am [_] (.d (.s (.a (.n 0) ab)) ab .z) rfl)) λa _ _ σ=>by show _=cr g (ends s z a++[]) σ;rw[ce]
 |n::r,h,lo,mk,b,κ,g,hs,he,c=>by
  rw[o9] at he hs
  rw[cw,aH,cw] at he
  have e1:b+(f n (b+1)).length+2=b+1+(f n (b+1)).length+1:=by exact kS [_,_] (.a (.a ab ac) (.n 2)) (.s (.a (.s ab) ac)) rfl
  have hb:=hs.hd
  have hj:=hs.tl.r.hd
  have Ox:=hF.n b _ hb rfl
  have WV:=hF.j _ _ hj rfl
  have c1:KC kp s O fn lo mk (b+1+(f n (b+1)).length) κ g:=⟨by rw[WV];exact c.f,B6 (iW hj) c.f⟩
  have a1:=(h n (.head _) lo mk (b+1) κ g hs.tl.l c1).e
  have c2:=Po hF hz r (λp hp=>h p (.tail _ hp)) lo mk (b+(f n (b+1)).length+2) κ g (by have:=hs.tl.r.tl;rw[e1];rw[e1] at this;exact this) (by exact iQ (nt (am [_,_,_,_] (.d (.a ab (.s (.a ac (.s ar)))) aA (.d (.s aA) (.a (.a (.a ab ac) (.n 2)) ar) .z)) rfl (bk he))) (nt (am [_,_,_,_] (.d ab (.a ac (.s (.a ar (.s aA)))) (.d (.s (.a (.a (.a ac ar) (.n 2)) aA)) ab .z)) rfl (bk (bV he))))) c
  exact K2.of ((Il (iW hb) a1 c2.f).to (λj=>by show 1+(1+cN n κ j)+(cL r κ j+cN z κ j)<=3+cN n κ j+cL r κ j+cN z κ j;exact nt (am [_,_,_] (.d (.s (.a (.a (.a (.n 3) ab) ac) ar)) (.a (.a (.n 1) (.a (.n 1) ab)) (.a ac ar)) .z) rfl)) λa _ _ σ=>by
   show _=cr g (ends s n a++(r++[z]).flatMap λp=>ends s p a) σ
   rw[rJ]) Ox
theorem vJ(hF:Fn O fn){lo b:Nat}{mk:List Nat}{κ κ2:Nat->Nat}{g:Eo}{x:Od}(hx:O[b]?=some x)(hj:isJ x=false)(h:At kp s (O.map (ib fn)) lo mk b κ2 g)(hk:∀ m,κ2 m<=(m+1)*(4+κ m)):KC kp s O fn lo mk b (lD .le κ) g:=
 K2.of (h.le hk) (hF.n _ _ hx hj)
theorem WW{a m:Nat}:1+(1+a)<=(m+1)*(4+a):=bj (by exact nt (am [_] (.d (.s (.a (.n 4) ab)) (.a (.n 1) (.a (.n 1) ab)) .z) rfl)) (vH (aC a))
theorem UM{a m:Nat}:1+(m+1)*(1+a)<=(m+1)*(4+a):=by
 rw[Nat.mul_add,Nat.mul_add];exact nt (am [_,_] (.d (.s (.a (.r (.s ab) 4) ac)) (.a (.n 1) (.a (.r (.s ab) 1) ac)) .z) rfl)
theorem pf(hF:Fn O fn)(hs:s.length<=3):∀(F:Nat)(n:Nd),sz n<=F->P2 n->KN kp s O fn (cp F) n
 |0,n,h,_=>absurd (qy n) (by exact am [_] (.d ab (.n 0) (.d (.n 1) ab .z)) rfl h)
 |F+1,.rp n,hz,hk=>λlo mk b κ g sg c=>by
    rw[zw] at sg c
    have hl:b+(Od.split (b+2)::.dH (b+3+(cp F n (b+3)).length+2)::.mark::(cp F n (b+3)++[.jr,.dH b])).length=b+3+(cp F n (b+3)).length+2:=by
      rw[cw,cw,cw,aH];show b+(_+2+1+1+1)=_;exact kS [_,_] (.a ab (.s (.s (.s (.a ac (.n 2)))))) (.a (.a (.a ab (.n 3)) ac) (.n 2)) rfl
    rw[hl] at c
    have hz:sz n<=F:=wj hz
    have hk:P2 n:=hk
    have hb:=sg.hd
    have rD:=sg.tl.hd
    have pb:=sg.tl.tl.hd
    have hg:=sg.tl.tl.tl.r.hd
    have hj:=sg.tl.tl.tl.r.tl.hd
    have Ox:=hF.n _ _ hb rfl
    have WX:=hF.n _ _ pb rfl
    have UN:=hF.n _ _ hg rfl
    have sb:(O.map (ib fn))[b]?=some (.split (b+2)):=(iW hb).trans (by show some (Od.split (fn (b+2)))=_;rw[show fn (b+2)=b+2 from WX])
    have sj:(O.map (ib fn))[b+1+1+1+(cp F n (b+3)).length+1]?=some (.dH b):=(iW hj).trans (by show some (Od.dH (fn b))=_;rw[Ox])
    have lv:At kp s (O.map (ib fn)) lo mk (b+1) (λj=>1+κ j) g:=B6 (iW rD) c.f
    have Iu:=dL s n
    have go:∀(m:Nat)⦃a:Nat⦄⦃nm:Nm⦄⦃σ:Hs⦄⦃L:List (Option CW)⦄⦃k:Nat⦄,lo<=a->a<=s.length->s.length<=a+m->pe kp s ⟨O.map (ib fn),b,a,nm,mk,[]⟩ L σ k (rI (cN n) κ m) (cr g (jv (ends s n) m a) σ):=λm=>by
      induction m with
     |zero=>
        intro a nm σ L k cH ha hm
        have SH:At kp s (O.map (ib fn)) a mk (b+2) (λj=>1+(1+cN n (λ_=>1) j)) (λ_ σ=>(σ,none)):=LA (iW pb) λa' Dd XB=>(pf hF hs F n hz hk a' (a'::mk) (b+3) _ _ sg.tl.tl.tl.l (K2.of (Io (iW hg) (by exact nt (am [_,_,_] (.d ab (.a ac (.n 0)) (.d ac ar (.d (.s ar) ab .z))) rfl hm Dd))) UN)).e.to (λ_=>aC _) λe _ _ σ=>Ly
        have h:=(lv cH ha hm (nm:=nm) (σ:=σ) (L:=L++[some ⟨_,b+2,a,nm,mk,[]⟩]) (k:=k+1)).two (j:=1) (P':=λR τ k'=>Rn kp s ⟨O.map (ib fn),b,a,nm,mk,[]⟩ L σ k R τ k') (λk σ=>SH (aC _) ha hm) rfl (m':=rI (cN n) κ 0) (by show 1+(1+κ 0)+(1+(1+cN n (λ_=>1) 0))<=4+κ 0+cN n (λ_=>1) 0;exact nt (am [_,_] (.d (.s (.a (.a (.n 4) ab) ac)) (.a (.a (.n 1) (.a (.n 1) ab)) (.a (.n 1) (.a (.n 1) ac))) .z) rfl)) λT=>Rn.go sb .split T
        rw[B4] at h
        show pe kp s _ L σ k _ (cr g [a] σ)
        rw[s8];exact h
     |succ m ih=>
        intro a nm σ L k cH ha hm
        have back:∀⦃a':Nat⦄⦃nm:Nm⦄⦃σ:Hs⦄⦃L:List (Option CW)⦄⦃k:Nat⦄,a<a'->a'<=s.length->pe kp s ⟨O.map (ib fn),b+1+1+1+(cp F n (b+3)).length+1,a',nm,mk,[]⟩ L σ k (1+rI (cN n) κ m) (cr g (jv (ends s n) m a') σ):=λa' nm σ L k h1 h2=>
          (ih (a:=a') (nm:=nm) (σ:=σ) (L:=L) (k:=k+1) (by exact nt (am [_,_,_] (.d ab ac (.d (.s ac) ar (.d (.s ar) ab .z))) rfl cH h1)) h2 (by exact nt (am [_,_,_,_] (.d ab (.a ac (.s ar)) (.d (.s ac) aA (.d (.s (.a aA ar)) ab .z))) rfl hm h1))).pre (j:=1) (aC _) λT=>Rn.nX sj .dH T
        have SH:∀⦃nm:Nm⦄⦃σ:Hs⦄⦃L:List (Option CW)⦄⦃k:Nat⦄,pe kp s ⟨O.map (ib fn),b+2,a,nm,mk,[]⟩ L σ k (2+cN n (λ_=>2+rI (cN n) κ m) (m+1)) (cr (λe σ=>if a<e then cr g (jv (ends s n) m e) σ else(σ,none)) (ends s n a) σ):=λnm σ L k=>by
          have body:=(pf hF hs F n hz hk a (a::mk) (b+3) _ _ sg.tl.tl.tl.l (K2.of ((LD (iW hg) hm back).le λj=>by show 1+(1+rI (cN n) κ m)<=2+rI (cN n) κ m;exact nt (am [_] (.d (.s (.a (.n 2) ab)) (.a (.n 1) (.a (.n 1) ab)) .z) rfl)) UN)).e
          exact(body (m:=m+1) (aC _) ha hm).pre (j:=1) (by show 1+(1+_)<=2+_;exact nt (am [_] (.d (.s (.a (.n 2) ab)) (.a (.n 1) (.a (.n 1) ab)) .z) rfl)) λT=>Rn.nX (iW pb) .mark T
        have h:=(lv cH ha hm (nm:=nm) (σ:=σ) (L:=L++[some ⟨_,b+2,a,nm,mk,[]⟩]) (k:=k+1)).two (j:=1) (w2:=⟨O.map (ib fn),b+2,a,nm,mk,[]⟩) (P':=λR τ k'=>Rn kp s ⟨O.map (ib fn),b,a,nm,mk,[]⟩ L σ k R τ k') (λk σ=>@SH nm σ L k) rfl (m':=rI (cN n) κ (m+1)) (by show 1+(1+κ (m+1))+(2+cN n (λ_=>2+rI (cN n) κ m) (m+1))<=4+κ (m+1)+cN n (λ_=>2+rI (cN n) κ m) (m+1);exact nt (am [_,_] (.d (.s (.a (.a (.n 4) ab) ac)) (.a (.a (.n 1) (.a (.n 1) ab)) (.a (.n 2) ac)) .z) rfl)) λT=>Rn.go sb .split T
        rw[rG,lF]
        refine Eq.mp (congrArg (pe kp s _ L σ k _) (congrArg (jW (g a σ)) (funext λσ'=>?_))) h
        rw[pd]
        refine mX λe _ σ=>?_
        show(if a<e then cr g (jv (ends s n) m e) σ else(σ,none))=cr g (if a<e then jv (ends s n) m e else []) σ
        by_cases hl:a<e
        · rw[if_pos hl,if_pos hl]
        · rw[if_neg hl,if_neg hl];rfl
    refine K2.of (λm a nm σ L k cH ha hm=>?_) Ox
    have h:=go m cH ha hm (nm:=nm) (σ:=σ) (L:=L) (k:=k)
    rw[nH Iu m s.length a ha hm (fJ _ _)] at h
    exact h
 |F+1,.ca x y,hz,hk=>λlo mk b κ g sg c=>by
    rw[Ph] at sg c
    refine(Pn _ (λp hp=>?_) lo mk b κ g sg c).to (λj=>bj (Ip _ κ j) (zD (.ca x y) κ j)) λa _ _ σ=>SF
    rcases vD hp with hn|hn
    · exact pf hF hs F p (Nat.le_of_lt_succ (dM (vB hn) hz)) (nJ true (.ca x y) hk p hn)
    · have h1:=Li hn
      have h2:=qy x
      have h0:sz (.ca x y)=sz x+sz y+1:=rfl
      exact pf hF hs F p (by exact nt (am [_,_,_,_,_] (.d ab (.s ac) (.d ar (.n 1) (.d (.n 1) aA (.d (.s (.a aA bH)) ab (.d (.s ac) ar .z))))) rfl hz (bk h1) h2 (bk (bV h0)))) (SG hn)
 |F+1,.al x y,hz,hk=>λlo mk b κ g sg c=>by
    rw[FD] at sg c
    have hr:=nJ false (.al x y) hk
    have LG:=vA (gw false (.al x y)) .cg
    have he:b+(mU (cp F) (jV (cp F) ((aP false (.al x y)).getLastD .cg) (aP false (.al x y)).dropLast b) ((aP false (.al x y)).getLastD .cg) (aP false (.al x y)).dropLast b).length=jV (cp F) ((aP false (.al x y)).getLastD .cg) (aP false (.al x y)).dropLast b:=by rw[vq (cp F) _ 0];rfl
    rw[he] at c
    have hp:∀ p∈aP false (.al x y),KN kp s O fn (cp F) p:=λp hp=>pf hF hs F p (Nat.le_of_lt_succ (dM (vC hp) hz)) (hr p hp)
    refine(Po hF (hp _ (by rw[LG];exact ti _ (by rw[← LG];exact .head _))) _ (λp h=>hp p (by rw[LG];exact pu _ h)) lo mk b κ g sg he c).to (λj=>?_) λa _ _ σ=>by rw[← LG,DT]
    have h1:=zF (.al x y) κ j
    rw[LG,zE] at h1
    have h2:cL [(aP false (.al x y)).getLastD .cg] κ j=3+cN ((aP false (.al x y)).getLastD .cg) κ j+0:=rfl
    exact nt (am [_,_,_,_] (.d (.a ab ac) (.a (.n 3) ar) (.d (.a (.a (.n 3) aA) (.n 0)) ac (.d (.s ar) (.a ab aA) .z))) rfl h1 (bk (bV h2)))
 |F+1,.sg x,hz,hk=>λlo mk b κ g sg c=>vJ hF sg.hd rfl (Ot (iW sg.hd) c.e) λm=>WW
 |F+1,.cg,hz,hk=>λlo mk b κ g sg c=>vJ hF sg.hd rfl (Ov (iW sg.hd) c.e) λm=>UM
 |F+1,.eU,hz,hk=>λlo mk b κ g sg c=>vJ hF sg.hd rfl (Ow hs (iW sg.hd) c.e) λm=>UM
 |F+1,.nw _ _,_,hk=>hk.elim
 |F+1,.fail,_,hk=>hk.elim
end
section
variable {kp:Nat->Option (List Nat)}{s:List Nat}{n:Nd}
theorem LH(hs:s.length<=3)(hk:P2 n):At kp s (codeS n) 0 [] 0 (λm=>1+lD (eR n) (λ_=>1) m) (λa σ=>cr (λa σ=>(σ,some a)) (ends s n a) σ):=by
 have hF:=Lr (rF n)
 have sg:Seg (ic n) 0 (cp (sz n) n 0):=λi hi=>by rw[fG];exact dh hi
 have hd:(ic n)[0+(cp (sz n) n 0).length]?=some .done:=by rw[fG,gS (aC _),iu];rfl
 exact(pf hF hs (sz n) n (aC _) hk 0 [] 0 _ _ sg (K2.of (LC (iW hd)) (hF.n _ _ hd rfl))).e
end
noncomputable abbrev iP(n:Nd)(q:Nat):Nd:=.ca (.nw n q) .fail
theorem Iv{n:Nd}{q:Nat}:cp (sz (iP n q)) (iP n q) 0=(.mark::(cp (sz n+1) n 1++[.set q]))++([.fail]++[]):=rfl
section
variable {kp:Nat->Option (List Nat)}{s:List Nat}{n:Nd}{q:Nat}{key:List Nat}{σ:Hs}{k:Nat}
theorem LI(hs:s.length<=3)(hk:P2 n)(hq:kp q=some key):∃ j,j<=2+lD (eR n) (λ_=>2) s.length/\Rn kp s ⟨codeS (iP n q),0,0,[],[],[]⟩ [] σ k .eK (fo (λe σ=>gO σ key (.str (s.take e))) (ends s n 0) σ) (k+j):=by
  have hF:=Lr (rF (iP n q))
  have sg:Seg (ic (iP n q)) 0 (cp (sz (iP n q)) (iP n q) 0):=λi hi=>by rw[fG];exact dh hi
  rw[Iv] at sg
  have hm:=sg.l.hd
  have Pp:=sg.l.tl.r.hd
  have hf:=sg.r.hd
  have e:0+1+(cp (sz n+1) n 1).length+1=0+(Od.mark::(cp (sz n+1) n 1++[Od.set q])).length:=by rw[cw,aH];show _=0+(_+1+1);exact kS [_] (.s (.a (.s (.n 0)) ab)) (.a (.n 0) (.s (.s ab))) rfl
  have c1:=K2.of (S:=codeS (iP n q)) (fn:=Lq (ic (iP n q))) (Ou (b:=0) hq (iW Pp) (by rw[e];exact LB (kp:=kp) (s:=s) (lo:=0) (mk:=[]) (iW hf))) (hF.n _ _ Pp rfl)
  have body:=(pf hF hs (sz n+1) n (eX _) hk 0 [0] 1 _ _ sg.l.tl.l c1).e
  have h:=body (m:=s.length) (a:=0) (nm:=[]) (σ:=σ) (L:=[]) (k:=k+1) (aC _) (cj _) (fJ _ _)
  have ho:(cr (λe σ=>((gO σ key (.str ((s.take e).drop 0)),none):Oc)) (ends s n 0) σ)=(fo (λe σ=>gO σ key (.str (s.take e))) (ends s n 0) σ,none):=B5
  change pe kp s _ [] σ (k+1) _ (cr (λe σ=>((gO σ key (.str ((s.take e).drop 0)),none):Oc)) (ends s n 0) σ) at h
  rw[ho] at h
  cases h with
 |fin j hj w h2 _ _=>cases h2
 |mY j hj _ T=>exact⟨1+j,by have hj:j<=1+lD (eR n) (λ_=>1+1) s.length:=hj;show _<=2+lD (eR n) (λ_=>1+1) s.length;exact nt (am [_,_] (.d ab (.a (.n 1) ac) (.d (.s (.a (.n 2) ac)) (.a (.n 1) ab) .z)) rfl hj),Rn.nX (w:=⟨codeS (iP n q),0,0,[],[],[]⟩) (iW hm) .mark (T _ _ _ (.inl ⟨rfl,rfl,rfl,(dU ..).symm⟩))⟩
theorem Iw{l:List Nat}:cr (λa σ=>(σ,some a)) l σ=(σ,l.head?):=by
  induction l with
 |nil=>rfl
 |cons e r ih=>rfl
theorem LJ(hs:s.length<=3)(hk:P2 n):∃ R k',k'<=k+(1+lD (eR n) (λ_=>1) s.length)/\Rn kp s ⟨codeS n,0,0,[],[],[]⟩ [] σ k R σ k'/\((∃ e w,(ends s n 0).head?=some e/\R=.met w/\w.a=e/\w.nm=[])\/((ends s n 0).head?=none/\R=.eK)):=by
  have h:=LH (kp:=kp) hs hk (m:=s.length) (a:=0) (nm:=[]) (σ:=σ) (L:=[]) (k:=k) (aC _) (cj _) (fJ _ _)
  have h:pe kp s ⟨codeS n,0,0,[],[],[]⟩ [] σ k (1+lD (eR n) (λ_=>1) s.length) (cr (λa σ=>(σ,some a)) (ends s n 0) σ):=h
  rw[Iw] at h
  cases h with
 |fin j hj w h2 hn T=>exact⟨_,_,jC hj k,T,.inl ⟨_,w,h2,rfl,rfl,hn⟩⟩
 |mY j hj h2 T=>exact⟨_,_,jC hj k,T _ _ _ (.inl ⟨rfl,rfl,rfl,rfl⟩),.inr ⟨h2,rfl⟩⟩
end
noncomputable def fQ:Sh->Nat
 |.le=>0
 |.ca a b=>max (fQ a) (fQ b)+1
 |.al a b=>max (fQ a) (fQ b)+1
 |.rp a=>fQ a+1
noncomputable def DV:Nat->List Sh
 |0=>[.le]
 |d+1=>.le::((DV d).map .rp++(DV d).flatMap (λa=>(DV d).map (.ca a))++(DV d).flatMap (λa=>(DV d).map (.al a)))
theorem kQ:∀(d:Nat)(x:Sh),fQ x<=d->x∈DV d
 |0,.le,_=>.head _
 |d+1,.le,_=>.head _
 |d+1,.rp a,h=>.tail _ (pu _ (pu _ (List.mem_map_of_mem (kQ d a (wj h)))))
 |d+1,.ca a b,h=>by
  have h':max (fQ a) (fQ b)<=d:=wj h
  exact .tail _ (pu _ (ti _ (lH.mpr ⟨a,kQ d a (by omega),List.mem_map_of_mem (kQ d b (by omega))⟩)))
 |d+1,.al a b,h=>by
  have h':max (fQ a) (fQ b)<=d:=wj h
  exact .tail _ (ti _ (lH.mpr ⟨a,kQ d a (by omega),List.mem_map_of_mem (kQ d b (by omega))⟩))
theorem Oy:(DV 2).all (λx=>(List.range 4).all λm=>decide (2+lD x (λ_=>2) m<=99999))=true:=by decide +kernel
theorem zG{x:Sh}{m:Nat}(h:fQ x<=2)(hm:m<=3):2+lD x (λ_=>2) m<=99999:=
 of_decide_eq_true (gq.mp (gq.mp Oy x (kQ 2 x h)) m (tf.mpr (Nat.lt_succ_of_le hm)))
section
variable {kp:Nat->Option (List Nat)}{s:List Nat}{n:Nd}{q:Nat}{key:List Nat}{σ:Hs}
theorem LM(hs:s.length<=3)(hk:P2 n)(hd:fQ (eR n)<=2)(hq:kp q=some key)(b:Bool):∃ k',k'<=99999/\(bif b then Mp kp s (iP n q) 1 0 σ 0 none (fo (λe σ=>gO σ key (.str (s.take e))) (ends s n 0) σ) k' else Mo kp s (codeS (iP n q)) 1 0 σ 0 none (fo (λe σ=>gO σ key (.str (s.take e))) (ends s n 0) σ) k'):=by
  have FN:=zG hd hs
  induction b with
 |true=>
   obtain⟨j,hj,T⟩:=Lw (σ:=σ) (k:=0) hs hk hq (nm:=[])
   have h2:=lE n (λ_=>2) (λ_=>2) (λ_=>aC _) s.length
   exact⟨0+j,by exact nt (am [_,_,_] (.d (.a (.n 2) ab) (.n 99999) (.d ac (.a (.n 2) ar) (.d ar ab (.d (.s (.n 99999)) (.a (.n 0) ac) .z)))) rfl FN hj h2),.eK T .z⟩
 |false=>
   obtain⟨j,hj,T⟩:=LI (σ:=σ) (k:=0) hs hk hq
   exact⟨0+j,by exact nt (am [_,_] (.d (.a (.n 2) ab) (.n 99999) (.d ac (.a (.n 2) ab) (.d (.s (.n 99999)) (.a (.n 0) ac) .z))) rfl FN hj),.eK T .z⟩
theorem LN(hs:s.length<=3)(hk:P2 n)(hd:fQ (eR n)<=2):∃ k',k'<=99999/\Mo kp s (codeS n) 1 0 σ 0 ((ends s n 0).head?.map λe=>(0,e,[])) σ k':=by
 have FN:=zG hd hs
 obtain⟨R,k',h1,T,h2⟩:=LJ (kp:=kp) (σ:=σ) (k:=0) hs hk
 have h3:=gx (eR n) (λ_=>1) (λ_=>2) (λ_=>by decide) s.length
 refine⟨k',by exact nt (am [_,_,_] (.d (.a (.n 2) ab) (.n 99999) (.d ac (.a (.n 0) (.a (.n 1) ar)) (.d ar ab (.d (.s (.n 99999)) ac .z)))) rfl FN h1 h3),?_⟩
 rcases h2 with⟨e,w,he,rfl,ha,hn⟩|⟨he,rfl⟩
 ·rw[he]
  have:=Mo.met (c:=0) T
  rw[ha,hn] at this
  exact this
 ·rw[he]
  exact .eK T .z
end
namespace L2
noncomputable abbrev PL:Pg:=au Mine.L2.Bq
section
variable {d:Nat}{H:Hp}{cells:List V}{ns:List Int}
structure Fd(cells:List V)(t:Nat)(H:Hp):Prop where
 h0:H[0]?=some (.list cells)
 h1:H[1]?=some (.list [.loc 0,.int t])
theorem gn{t:Nat}{m:Int}(f:Fd cells t H)(hc:cells=ns.map .int)(hl:ns.length<=30)(ht:t<1000)(hm:0<m){zg:Prop}(zk:∀ r,(0<=r)->(r<m)->(ae PL (d+1) 72 [.loc 1,.int m] H=some (.int r,H.set 1 (.list [.loc 0,.int (t+1:Nat)])))->zg):zg:=by
 have h0:=f.h0
 have h1:=f.h1
 have g0:(H.set 1 (.list [.loc 0,.int (t+1:Nat)]))[0]?=some (.list cells):=aa (by decide) h0
 have qZ:cells.length=ns.length:=by rw[hc,cT]
 by_cases vR:t<ns.length
 ·have hn:ns[t]?=some ns[t]:=rR vR
  have WY:fK cells t=some (.int ns[t]):=qm rfl (by rw[hc,iy,hn];rfl)
  exact zk ((ns[t].natAbs:Int) % m) (Int.emod_nonneg _ (by omega)) (Int.emod_lt_of_pos _ hm) (af rfl rfl (ak (bl rfl (sX (Fa h1) rfl)) (ak (bl rfl (lk rfl aj (nB h1 ⟨by decide,aC 2⟩))) (aU (aq rfl (aT rfl (dq g0)) (lq (by omega))) (az (cA (aT (b8 (aT (b8 (bc rfl rfl (cQ g0 WY))) (by rfl))) (by rfl)) rfl (by exact dZ hm)))))))
 ·have b1:(t:Int).natAbs<1152921504606846976:=by omega
  have b2:((t:Int)*t).natAbs<1152921504606846976:=by
   have h:=Nat.mul_le_mul (n6 ht) (n6 ht)
   rw[← Int.natCast_mul];omega
  exact zk ((7*(t:Int)+(t:Int)*t / 3+5+cells.length) % m) (Int.emod_nonneg _ (by omega)) (Int.emod_lt_of_pos _ hm) (af rfl rfl (ak (bl rfl (sX (Fa h1) rfl)) (ak (bl rfl (lk rfl aj (nB h1 ⟨by decide,aC 2⟩))) (bx (aq rfl (aT rfl (dq g0)) (il (by omega))) (az (cA (cA (cA (cA (cA aj rfl (dZ ⟨by decide,b1⟩)) (cA (cA rfl rfl (dZ ⟨b1,b1⟩)) aj (dZ ⟨by decide,b2,by decide⟩)) (by rfl)) aj (by rfl)) (aT rfl (dq g0)) (by rfl)) rfl (by exact dZ hm)))))))
theorem Fd.step{t:Nat}(f:Fd cells t H):Fd cells (t+1) (H.set 1 (.list [.loc 0,.int (t+1:Nat)])):=⟨aa (by decide) f.h0,aw f.h1⟩
theorem Fd.app{t:Nat}(f:Fd cells t H)(x:Hp):Fd cells t (H++x):=⟨ag f.h0,ag f.h1⟩
structure F1(H H':Hp):Prop where
 len:H.length<=H'.length
 off:∀ i x,i≠1->H[i]?=some x->H'[i]?=some x
theorem F1.refl:F1 H H:=⟨aC _,λ_ _ _ h=>h⟩
theorem F1.trans{H1 H2:Hp}(a:F1 H H1)(b:F1 H1 H2):F1 H H2:=⟨bj a.len b.len,λi x h1 h=>b.off i x h1 (a.off i x h1 h)⟩
theorem F1.set{x:O}:F1 H (H.set 1 x):=⟨by rw[dB];exact aC _,λi x h1 h=>aa h1.symm h⟩
theorem F1.app(x:Hp):F1 H (H++x):=⟨by rw[aH];exact cC _ _,λi x h1 h=>ag h⟩
noncomputable def eC:List (List Nat):=[[97],[98],[97,98],[40],[]]
noncomputable def SJ:Sg->Prop
 |.ch t=>t∈eC
 |.len n=>n<4
 |.pos n=>n<4
 |.fL n=>n<4
 |.tab n=>n<4
 |.fM n=>n<4
 |.any t=>t∈gY
 |.fj t=>t∈gY
 |.span t=>t∈gY
 |.brk t=>t∈gY
 |.rem=>True
noncomputable def Pw:Nd->Prop
 |.sg x=>SJ x
 |.al a b=>Pw a/\Pw b
 |.ca a b=>Pw a/\Pw b
 |.rp n=>Pw n
 |.cg=>True
 |.eU=>True
 |_=>False
theorem ig:∀ n:Nd,Pw n->P2 n
 |.sg _,_=>trivial
 |.al a b,h=>⟨ig a h.1,ig b h.2⟩
 |.ca a b,h=>⟨ig a h.1,ig b h.2⟩
 |.rp n,h=>ig n h
 |.cg,_=>trivial
 |.eU,_=>trivial
 |.nw _ _,h=>h
 |.fail,h=>h
theorem ph:∀ n:Nd,Pw n->sm n
 |.sg (.ch t),h=>by
  have:∀ t∈eC,t.length<=2:=by decide
  exact this t h
 |.sg (.len _),_=>trivial
 |.sg (.pos _),_=>trivial
 |.sg (.fL _),_=>trivial
 |.sg (.tab _),_=>trivial
 |.sg (.fM _),_=>trivial
 |.sg (.any _),_=>trivial
 |.sg (.fj _),_=>trivial
 |.sg (.span _),_=>trivial
 |.sg (.brk _),_=>trivial
 |.sg .rem,_=>trivial
 |.al a b,h=>⟨ph a h.1,ph b h.2⟩
 |.ca a b,h=>⟨ph a h.1,ph b h.2⟩
 |.rp n,h=>ph n h
 |.cg,_=>trivial
 |.eU,_=>trivial
 |.nw _ _,h=>h.elim
 |.fail,h=>h.elim
noncomputable def cc:Nat->Nat
 |0=>2
 |n+1=>2*cc n+2
structure Nk(cells:List V)(H:Hp)(t deep:Nat)(n:Nd)(t':Nat)(H':Hp):Prop where
 fd:Fd cells t' H'
 t:t'<=t+cc deep
 f1:F1 H H'
 pw:Pw n
 dep:fQ (eR n)<=deep
 sz:sz n+1<=2 ^ (deep+1)
noncomputable abbrev l2:List V:=[.str [108,101,110],.str [112,111,115],.str [114,112,111,115],.str [116,97,98],.str [114,116,97,98]]
noncomputable abbrev l3:List V:=[.str [97,110,121],.str [110,111,116,97,110,121],.str [115,112,97,110],.str [98,114,101,97,107]]
noncomputable abbrev l5:List V:=[.tup [.str [114,101,109]],.tup [.str [97,114,98]],.tup [.str [98,97,108]]]
noncomputable def LO(P:Nat->Prop):Nat->Prop
 |0=>True
 |n+1=>LO P n/\P n
theorem FO{P:Nat->Prop}:∀{n:Nat},LO P n->∀ k,k<n->P k
 |n+1,h,k,hk=>by
  by_cases e:k=n
  ·exact e▸h.2
  ·exact FO h.1 k (Nat.lt_of_le_of_ne (Nat.le_of_lt_succ hk) e)
theorem Ix{P:Int->Prop}(a n:Nat)(h:LO (λk=>P ((a+k:Nat):Int)) n)(r:Int)(h0:(a:Int)<=r)(h1:r<((a+n:Nat):Int)):P r:=by
 obtain⟨k,rfl⟩:=Int.eq_ofNat_of_zero_le (Int.le_trans (n9 a) h0)
 have:=FO h (k-a) (by omega)
 rwa [show a+(k-a)=k by omega] at this
theorem LP(r:Int)(h0:0<=r)(h1:r<5){zg:Prop}(zk:∀ t:List Nat,t∈eC->fK [V.str [97],.str [98],.str [97,98],.str [40],.str []] r=some (.str t)->zg):zg:=
 Ix (P:=λq=>q=r->zg) 0 5 ⟨⟨⟨⟨⟨trivial,λe=>zk [97] (by decide) (e▸rfl)⟩,λe=>zk [98] (by decide) (e▸rfl)⟩,λe=>zk [97,98] (by decide) (e▸rfl)⟩,λe=>zk [40] (by decide) (e▸rfl)⟩,λe=>zk [] (by decide) (e▸rfl)⟩ r h0 h1 rfl
theorem LQ(r:Int)(h0:0<=r)(h1:r<4){zg:Prop}(zk:∀ t:List Nat,t∈gY->fK [V.str [97],.str [98],.str [97,98],.str [41]] r=some (.str t)->zg):zg:=
 Ix (P:=λq=>q=r->zg) 0 4 ⟨⟨⟨⟨trivial,λe=>zk [97] (by decide) (e▸rfl)⟩,λe=>zk [98] (by decide) (e▸rfl)⟩,λe=>zk [97,98] (by decide) (e▸rfl)⟩,λe=>zk [41] (by decide) (e▸rfl)⟩ r h0 h1 rfl
inductive B8(D:Nat)(cells:List V)(H:Hp)(t:Nat):Prop where
 |mk (n:Nd) (t':Nat) (H':Hp) (e:ae PL (D+2) 73 [.loc 1] H=some (nV n,H')) (k:Nk cells H t 0 n t' H'):B8 D cells H t
theorem B9{D t:Nat}(hc:cells=ns.map .int)(hl:ns.length<=30)(f:Fd cells t H)(ht:t+2<1000):B8 D cells H t:=by
 refine gn (d:=D) (m:=13) f hc hl (by exact nl (am [_] (.d (.s (.a ab (.n 2))) (.n 1000) (.d (.n 1000) ab .z)) rfl ht)) (by decide) λr h0 h1 e0=>?_
 have f1:=f.step
 by_cases r2:r=0
 ·refine gn (d:=D) (m:=5) (f1.app [.list [.str [97],.str [98],.str [97,98],.str [40],.str []]]) hc hl (by exact nl (am [_] (.d (.s (.a ab (.n 2))) (.n 1000) (.d (.n 1000) (.s ab) .z)) rfl ht)) (by decide) λq h2 h3 e1=>?_
  refine LP q h2 h3 λs hs hx=>?_
  exact⟨.sg (.ch s),t+1+1,_,af rfl rfl (aV (aG rfl e0) (aU (aq rfl aj (Fb r2)) (az (dm (cF aj (bc (aN rfl) (aG rfl e1) (by exact cQ (aa (aE f1.h1) ai) hx))))))),(f1.app _).step,aC _,(F1.set.trans (F1.app _)).trans F1.set,hs,aC _,aC _⟩
 by_cases r7:r<6
 ·refine gn (d:=D) (m:=4) (f1.app [.list [.str [108,101,110],.str [112,111,115],.str [114,112,111,115],.str [116,97,98],.str [114,116,97,98]]]) hc hl (by exact nl (am [_] (.d (.s (.a ab (.n 2))) (.n 1000) (.d (.n 1000) (.s ab) .z)) rfl ht)) (by decide) λq h2 h3 e1=>?_
  obtain⟨k,rfl⟩:=Int.eq_ofNat_of_zero_le h2
  have hk:k<4:=Int.ofNat_lt.mp h3
  have ff:=(f1.app [.list [.str [108,101,110],.str [112,111,115],.str [114,112,111,115],.str [116,97,98],.str [114,116,97,98]]]).step
  have g:=((F1.set (H:=H) (x:=.list [.loc 0,.int (t+1:Nat)])).trans (F1.app [.list [.str [108,101,110],.str [112,111,115],.str [114,112,111,115],.str [116,97,98],.str [114,116,97,98]]])).trans (F1.set (x:=.list [.loc 0,.int (t+1+1:Nat)]))
  have go:∀(x:Sg)(w:List Nat),uZ x=.tup [.str w,.int k]->SJ x->fK l2 (r-1)=some (.str w)->B8 D cells H t:=λx w hv hp hx=>by
   refine⟨.sg x,t+1+1,_,?_,ff,aC _,g,hp,aC _,aC _⟩
   rw[show nV (.sg x)=.tup [.str w,.int k] from hv]
   exact af rfl rfl (aV (aG rfl e0) (bx (aq rfl aj (sY r2)) (aU (aq rfl aj (lq r7)) (az (dm (cF (bc (aN rfl) rfl (by exact cQ ai hx)) (aG rfl e1)))))))
  exact Ix (P:=λq=>q=r->B8 D cells H t) 1 5 ⟨⟨⟨⟨⟨trivial,λe=>go (.len k) _ rfl hk (e▸rfl)⟩,λe=>go (.pos k) _ rfl hk (e▸rfl)⟩,λe=>go (.fL k) _ rfl hk (e▸rfl)⟩,λe=>go (.tab k) _ rfl hk (e▸rfl)⟩,λe=>go (.fM k) _ rfl hk (e▸rfl)⟩ r (by omega) (by omega) rfl
 by_cases UO:r<10
 ·refine gn (d:=D) (m:=4) ((f1.app [.list [.str [97,110,121],.str [110,111,116,97,110,121],.str [115,112,97,110],.str [98,114,101,97,107]]]).app [.list [.str [97],.str [98],.str [97,98],.str [41]]]) hc hl (by exact nl (am [_] (.d (.s (.a ab (.n 2))) (.n 1000) (.d (.n 1000) (.s ab) .z)) rfl ht)) (by decide) λq h2 h3 e1=>?_
  refine LQ q h2 h3 λs hs hy=>?_
  have ff:=((f1.app [.list [.str [97,110,121],.str [110,111,116,97,110,121],.str [115,112,97,110],.str [98,114,101,97,107]]]).app [.list [.str [97],.str [98],.str [97,98],.str [41]]]).step
  have g:=(((F1.set (H:=H) (x:=.list [.loc 0,.int (t+1:Nat)])).trans (F1.app [.list [.str [97,110,121],.str [110,111,116,97,110,121],.str [115,112,97,110],.str [98,114,101,97,107]]])).trans (F1.app [.list [.str [97],.str [98],.str [97,98],.str [41]]])).trans (F1.set (x:=.list [.loc 0,.int (t+1+1:Nat)]))
  have go:∀(x:Sg)(w:List Nat),uZ x=.tup [.str w,.str s]->SJ x->fK l3 (r-6)=some (.str w)->B8 D cells H t:=λx w hv hp hx=>by
   refine⟨.sg x,t+1+1,_,?_,ff,aC _,g,hp,aC _,aC _⟩
   rw[show nV (.sg x)=.tup [.str w,.str s] from hv]
   exact af rfl rfl (aV (aG rfl e0) (bx (aq rfl aj (sY r2)) (bx (aq rfl aj (il r7)) (aU (aq rfl aj (lq UO)) (az (dm (cF (bc (aN rfl) rfl (by exact cQ ai hx)) (bc (aN rfl) (aG rfl e1) (by exact cQ (aa (aE (ag (y:=[O.list [.str [97,110,121],.str [110,111,116,97,110,121],.str [115,112,97,110],.str [98,114,101,97,107]]]) f1.h1)) ai) hy)))))))))
  exact Ix (P:=λq=>q=r->B8 D cells H t) 6 4 ⟨⟨⟨⟨trivial,λe=>go (.any s) _ rfl hs (e▸rfl)⟩,λe=>go (.fj s) _ rfl hs (e▸rfl)⟩,λe=>go (.span s) _ rfl hs (e▸rfl)⟩,λe=>go (.brk s) _ rfl hs (e▸rfl)⟩ r (by omega) (by omega) rfl
 have ff:=f1.app [.list [.tup [.str [114,101,109]],.tup [.str [97,114,98]],.tup [.str [98,97,108]]]]
 have g:=(F1.set (H:=H) (x:=.list [.loc 0,.int (t+1:Nat)])).trans (F1.app [.list [.tup [.str [114,101,109]],.tup [.str [97,114,98]],.tup [.str [98,97,108]]]])
 have go:∀(n:Nd),eR n=.le->sz n=1->Pw n->fK l5 (r-10)=some (nV n)->B8 D cells H t:=λn hn hz hp hx=>
  ⟨n,t+1,_,af rfl rfl (aV (aG rfl e0) (bx (aq rfl aj (sY r2)) (bx (aq rfl aj (il r7)) (bx (aq rfl aj (il UO)) (az (bc (aN rfl) rfl (by exact cQ ai hx))))))),ff,eX _,g,hp,by rw[hn];exact aC _,by rw[hz];exact aC _⟩
 exact Ix (P:=λq=>q=r->B8 D cells H t) 10 3 ⟨⟨⟨trivial,λe=>go (.sg .rem) rfl rfl trivial (e▸rfl)⟩,λe=>go .cg rfl rfl trivial (e▸rfl)⟩,λe=>go .eU rfl rfl trivial (e▸rfl)⟩ r (by omega) (by omega) rfl
theorem Oz{k:Nat}:(0:Int)<((k+1:Nat):Int):=n8.mpr (jz k)
theorem Cb{k:Nat}{H:Hp}:tn .sub (.int (k+1:Nat)) (.int 1) H=some (.int k,H):=by
 show some (V.int (((k+1:Nat):Int)-1),H)=_
 rw[show((k+1:Nat):Int)-1=k by omega]
noncomputable abbrev SK:List V:=[.str [99,97,116],.str [97,108,116]]
inductive LR(D:Nat)(cells:List V)(H:Hp)(t deep:Nat):Prop where
 |mk (n:Nd) (t':Nat) (H':Hp) (e:ae PL (D+deep+3) 74 [.loc 1,.int deep] H=some (nV n,H')) (k:Nk cells H t deep n t' H'):LR D cells H t deep
theorem fv{D:Nat}(hc:cells=ns.map .int)(hl:ns.length<=30):∀(deep t:Nat)(H:Hp),Fd cells t H->t+cc deep<1000->LR D cells H t deep
 |0,t,H,f,ht=>by
    obtain⟨n,t',H',e1,k⟩:=B9 (D:=D) hc hl f ht
    exact⟨n,t',H',af rfl rfl (ak rfl (aU rfl (az (aG rfl e1)))),k⟩
 |deep+1,t,H,f,ht=>by
    have vK:cc (deep+1)=2*cc deep+2:=rfl
    have LS:2 ^ (deep+1+1)=2*2 ^ (deep+1):=by rw[Nat.pow_succ,Nat.mul_comm]
    have WZ:2<=2 ^ (deep+1):=by rw[Nat.pow_succ];have:=Nat.two_pow_pos deep;exact nt (am [_] (.c 2 (.s (.n 0)) ab (.d (.s (.r ab 2)) (.n 2) .z)) rfl this)
    have qs:2<=cc deep:=by induction deep with
     |zero=>exact aC _
     |succ n=>show 2<=2*cc n+2;exact nt (am [_] (.d (.s (.a (.m 2 ab) (.n 2))) (.n 2) .z) rfl)
    refine gn (d:=D+deep+2) (m:=7) f hc hl (by exact nl (am [_,_,_] (.d (.s (.a ab ac)) (.n 1000) (.d (.a (.m 2 ar) (.n 2)) ac (.c 2 (.n 2) ar (.d (.n 1000) ab .z)))) rfl ht (bk (bV vK)) qs)) (by decide) λr h0 h1 e0=>?_
    have f1:=f.step
    by_cases hr:r<2
    · obtain⟨n,t',H',e1,k⟩:=B9 (D:=D+deep+1) hc hl f1 (by exact nl (am [_,_,_] (.d (.s (.a ab ac)) (.n 1000) (.d (.a (.m 2 ar) (.n 2)) ac (.c 2 (.n 2) ar (.d (.n 1000) (.a (.s ab) (.n 2)) .z)))) rfl ht (bk (bV vK)) qs))
      have kt:=k.t
      have kd:=k.dep
      have kz:=k.sz
      have h2:cc 0=2:=rfl
      exact⟨n,t',H',af rfl rfl (aV (be (aq rfl aj (gM Oz)) (aG rfl e0)) (aU (aq rfl aj (lq hr)) (az (aG rfl e1)))),k.fd,by exact nt (am [_,_,_,_,_] (.d (.a (.m 2 ab) (.n 2)) ac (.c 2 (.n 2) ab (.d ar (.a (.s aA) bH) (.d bH (.n 2) (.d (.s (.a aA ac)) ar .z))))) rfl (bk (bV vK)) qs kt (bk h2)),F1.set.trans k.f1,k.pw,by exact nt (am [_,_] (.d ab (.n 0) (.d (.s (.s ac)) ab .z)) rfl kd),by omega⟩
    by_cases yP:r<6
    · obtain⟨a,t2,H2,e1,ka⟩:=fv hc hl deep (t+1) _ (f1.app [.list SK]) (by exact nl (am [_,_,_] (.d (.s (.a ab ac)) (.n 1000) (.d (.a (.m 2 ar) (.n 2)) ac (.d (.n 2) ar (.d (.n 1000) (.a (.s ab) ar) .z)))) rfl ht (bk (bV vK)) qs))
      have kt:=ka.t
      have kz:=ka.sz
      obtain⟨b,t3,H3,e2,kb⟩:=fv hc hl deep t2 H2 ka.fd (by exact nl (am [_,_,_,_] (.d (.s (.a ab ac)) (.n 1000) (.d (.a (.m 2 ar) (.n 2)) ac (.d aA (.a (.s ab) ar) (.d (.n 1000) (.a aA ar) .z)))) rfl ht (bk (bV vK)) kt))
      have UP:=kb.t
      have UQ:=kb.sz
      have ff:=((F1.set (H:=H)).trans ((F1.app _).trans ka.f1)).trans kb.f1
      have Pq:max (fQ (eR a)) (fQ (eR b))+1<=deep+1:=tc (Nat.max_le.mpr ⟨ka.dep,kb.dep⟩)
      by_cases hm:r % 2=0
      · have hx:fK SK (r % 2)=some (.str [99,97,116]):=by rw[hm];rfl
        exact⟨.ca a b,t3,H3,af rfl rfl (aV (be (aq rfl aj (gM Oz)) (aG rfl e0)) (bx (aq rfl aj (il hr)) (aU (aq rfl aj (lq yP)) (az (dm (aX (bc (aN rfl) rfl (by exact cQ ai hx)) (cF (aG (cF rfl (cA rfl aj Cb)) e1) (aG (cF rfl (cA rfl aj Cb)) e2)))))))),kb.fd,by exact nt (am [_,_,_,_,_] (.d (.a (.m 2 ab) (.n 2)) ac (.d ar (.a (.s aA) ab) (.d bH (.a ar ab) (.d (.s (.a aA ac)) bH .z)))) rfl (bk (bV vK)) kt UP),ff,⟨ka.pw,kb.pw⟩,Pq,by show sz a+sz b+1+1<=_;exact nt (am [_,_,_,_] (.d (.m 2 ab) ac (.d (.s ar) ab (.d (.s aA) ab (.d (.s ac) (.s (.s (.a ar aA))) .z)))) rfl (bk (bV LS)) kz UQ)⟩
      · have hx:fK SK (r % 2)=some (.str [97,108,116]):=by rw[show r % 2=1 by omega];rfl
        exact⟨.al a b,t3,H3,af rfl rfl (aV (be (aq rfl aj (gM Oz)) (aG rfl e0)) (bx (aq rfl aj (il hr)) (aU (aq rfl aj (lq yP)) (az (dm (aX (bc (aN rfl) rfl (by exact cQ ai hx)) (cF (aG (cF rfl (cA rfl aj Cb)) e1) (aG (cF rfl (cA rfl aj Cb)) e2)))))))),kb.fd,by exact nt (am [_,_,_,_,_] (.d (.a (.m 2 ab) (.n 2)) ac (.d ar (.a (.s aA) ab) (.d bH (.a ar ab) (.d (.s (.a aA ac)) bH .z)))) rfl (bk (bV vK)) kt UP),ff,⟨ka.pw,kb.pw⟩,Pq,by show sz a+sz b+1+1<=_;exact nt (am [_,_,_,_] (.d (.m 2 ab) ac (.d (.s ar) ab (.d (.s aA) ab (.d (.s ac) (.s (.s (.a ar aA))) .z)))) rfl (bk (bV LS)) kz UQ)⟩
    · obtain⟨a,t2,H2,e1,ka⟩:=fv hc hl deep (t+1) _ f1 (by exact nl (am [_,_,_] (.d (.s (.a ab ac)) (.n 1000) (.d (.a (.m 2 ar) (.n 2)) ac (.d (.n 2) ar (.d (.n 1000) (.a (.s ab) ar) .z)))) rfl ht (bk (bV vK)) qs))
      have kt:=ka.t
      have kz:=ka.sz
      exact⟨.rp a,t2,H2,af rfl rfl (aV (be (aq rfl aj (gM Oz)) (aG rfl e0)) (bx (aq rfl aj (il hr)) (bx (aq rfl aj (il yP)) (az (dm (cF aj (aG (cF rfl (cA rfl aj Cb)) e1))))))),ka.fd,by exact nt (am [_,_,_,_] (.d (.a (.m 2 ab) (.n 2)) ac (.d (.n 2) ab (.d ar (.a (.s aA) ab) (.d (.s (.a aA ac)) ar .z)))) rfl (bk (bV vK)) qs kt),F1.set.trans ka.f1,ka.pw,tc ka.dep,by show sz a+1+1<=_;exact nt (am [_,_,_] (.d (.m 2 ab) ac (.d (.n 2) ab (.d (.s ar) ab (.d (.s ac) (.s (.s ar)) .z)))) rfl (bk (bV LS)) WZ kz)⟩
end
end L2
section
variable {P:Pg}{call:bX}{l:Lo}{H H1 H2 H3:Hp}{k e:ME}{r es:List ME}{z:List Nat}{b:V}{xs:List (List Nat×V)}
theorem rM:jx P call [] l H=some ([],H):=rfl
theorem dR(h1:av P call k l H=some (.str z,H1))(h2:av P call e l H1=some (b,H2))(h3:jx P call r l H2=some (xs,H3))(h4:bD z xs=none):jx P call (k::e::r) l H=some ((z,b)::xs,H3):=by
 rw[jx,h1]
 show br (av P call e l H1) _=_
 rw[h2]
 show br (jx P call r l H2) _=_
 rw[h3]
 show(if(bD z xs).isNone then _ else _)=_
 rw[h4];rfl
theorem kR(h1:jx P call es l H=some (xs,H1)):av P call (.dict es) l H=some (.loc H1.length,H1++[.dict xs]):=by
 show br (jx P call es l H) _=_
 rw[h1];rfl
theorem OA{i:Nat}{u v:List Nat}(h:l[i]?=some (some (.str u)))(h2:bD u iS=some v):dD P call (.rep i) l H=some (.next,l.set i (some (.str v)),H):=by
 show(match l[i]? with|some (some a)=>mq a λs=>(bD s iS).bind λr=>some (Fl.next,l.set i (some (.str r)),H)|_=>none)=_
 rw[h]
 show(bD u iS).bind _=_
 rw[h2];rfl
end
namespace L2
inductive gR(d k:Nat)(vs:List V)(H:Hp)(L:List Nat):Prop where
 |mk (o:Nat) (H':Hp) (e:ae PL d k vs H=some (.loc o,H')) (ho:H'[o]?=some (iL L)) (g:Gr H H') (lo:H.length<=o):gR d k vs H L
noncomputable def kc(t:List Nat):List V:=t.map λc=>.str [c]
theorem vL:∀ t:List Nat,strsOf (kc t)=some (t.map λc=>[c])
 |[]=>rfl
 |c::r=>by show strsOf (.str [c]::kc r)=_;rw[wB,vL r];rfl
theorem qG:∀ t:List Nat,jG (t.map λc=>[c])=t
 |[]=>rfl
 |c::r=>by rw[fR,sQ,qG r];rfl
noncomputable def sO(c:Nat):Bool:=([40,41]:List Nat).contains c
noncomputable def xM(s:List Nat):Bool:=match bD (s.filter sO) iS with
 |some r=>!(r.contains 40)&&!(r.contains 41)
 |none=>false
section
variable {d:Nat}{H:Hp}{s:List Nat}{a n:Nat}
theorem rN{v:V}:∀(r:List Nat)(n:Nat)(acc:List V)(z:Option V),r.length<n->cP (λl H=>jy PL (ae PL d) [.cmp .isin (.loc 1) (.lit (.str [40,41]))] l H) (λl H=>av PL (ae PL d) (.loc 1) l H) (.one 1) [some v,z] n (.seq (kc r)) acc H=some (acc.reverse++kc (r.filter sO),H)
 |[],n+1,acc,z,_=>(lr rfl).trans (by show _=some (acc.reverse++[],H);rw[ce])
 |c::r,n+1,acc,z,h=>by
   rw[List.filter_cons]
   cases hc:sO c with
  |true=>
    refine(jn (l1:=[some v,some (.str [c])]) rfl rfl (y8 (aq rfl aj (j7.trans (congrArg some hc))) uY) rfl (rN r n (.str [c]::acc) z (iz h))).trans ?_
    rw[eM,bZ];rfl
  |false=>exact Br (l1:=[some v,some (.str [c])]) rfl rfl (xq (aq rfl aj (j7.trans (congrArg some hc)))) (rN r n acc z (iz h))
theorem LU:∀ s∈gF 3,∃ r,bD (s.filter sO) iS=some r:=by
 have:∀ s∈gF 3,(bD (s.filter sO) iS).isSome=true:=by decide +kernel
 exact λs h=>zI.mp (this s h)
theorem OB(hw:b9 s=true):ae PL (d+1) 75 [.str s] H=some (.bool (xM s),H++[.list (kc (s.filter sO))]):=by
 obtain⟨r,hr⟩:=LU s (gf hw)
 have hl:s.length<=3:=of_decide_eq_true (dw _ _▸hw:_/\_).1
 have o7:(s.filter sO).length<=s.length:=List.length_filter_le _ _
 have hb:xM s=(!(r.contains 40)&&!(r.contains 41)):=by unfold xM;rw[hr]
 have mJ:∀ s∈gF 3,s.all (· < 128)=true:=by decide +kernel
 have hit:gg H (.str s)=some (.seq (kc s)):=dZ (mJ s (gf hw))
 have ii:=rN (d:=d) (H:=H) (v:=.str s) s 1048576 [] none (by exact nl (am [_] (.d ab (.n 3) (.d (.n 1048576) ab .z)) rfl hl))
 have LV:=Fc (H:=H++[O.list (kc (s.filter sO))]) ai (vL _) (by rw[qG];unfold lim;exact nt (am [_,_] (.d ab (.n 3) (.d ac ab (.d (.s (.n 1048576)) ac .z))) rfl hl o7))
 rw[qG] at LV
 have hlen:(kc (s.filter sO)).length<=lim:=by rw[kc,cT];unfold lim;exact nt (am [_,_] (.d ab (.n 3) (.d ac ab (.d (.s (.n 1048576)) ac .z))) rfl hl o7)
 rw[hb]
 have q2:aQ PL (ae PL d) [.ret (.and [.cmp .i8 (.lit (.str [40])) (.loc 0),.cmp .i8 (.lit (.str [41])) (.loc 0)])] [some (.str r)] (H++[.list (kc (s.filter sO))])=some (.ret (.bool (!(r.contains 40)&&!(r.contains 41))),[some (.str r)],H++[.list (kc (s.filter sO))]):=by
   cases h1:r.contains 40 with
  |true=>exact az (dO (aq aj rfl (hU.trans (by rw[h1];rfl))))
  |false=>
     cases h2:r.contains 41 with
    |true=>exact az (dc (aq aj rfl (hU.trans (by rw[h1];rfl))) (dO (aq aj rfl (hU.trans (by rw[h2];rfl)))))
    |false=>exact az (dc (aq aj rfl (hU.trans (by rw[h1];rfl))) (dc (aq aj rfl (hU.trans (by rw[h2];rfl))) i1))
 exact af rfl rfl (aV (cn aj rfl (b8 (jS rfl hit ii hlen)) LV) (ak (OA rfl hr) q2))
theorem DW(ha:a<=s.length):((s.drop a).length:Int)=(s.length:Int)-a:=by rw[i7];omega
theorem bh{k:Nat}{vs:List V}{D:Nat}{L:List Nat}{H':Hp}(e:ae PL D k vs H=some (.loc H'.length,H'++[iL L]))(g:Gr H H'):gR D k vs H L:=⟨_,_,e,ai,g.trans (Gr.app _ _),g.len⟩
theorem LW(ha:a<=s.length):gR (d+1) 76 [.str [108,101,110],.int n,.str s,.int a] H (cG s (.len n) a):=by
 have h2:decide ((a:Int)=n)=decide ((a:Int)=n):=rfl
 have h3:decide (((s.drop a).length:Int)=n)=decide (((s.drop a).length:Int)=n):=rfl
 by_cases h:a+n<=s.length
 ·have h1:decide (n<=(s.drop a).length)=true:=by rw[i7];exact decide_eq_true (by omega)
  rw[show cG s (.len n) a=[a+n] by unfold cG;rw[show dT s a (.len n)=some (a+n) by show oN _ _=_;rw[decide_eq_true h];rfl]]
  exact bh (af rfl rfl (ak rfl (aU rfl (aV (bc (kR (dR aj (aq rfl rfl (gj h1)) (dR aj (aq rfl rfl (fq h2)) (dR aj (aq rfl rfl (fq h3)) rM (by rfl)) (by rfl)) (by rfl))) rfl ((lw ai).trans rfl)) (az (be rfl (aN rfl))))))) (Gr.app _ _)
 ·have h1:decide (n<=(s.drop a).length)=false:=by rw[i7];exact decide_eq_false (by omega)
  rw[show cG s (.len n) a=[] by unfold cG;rw[show dT s a (.len n)=none by show oN _ _=_;rw[decide_eq_false h];rfl]]
  exact bh (af rfl rfl (ak rfl (aU rfl (aV (bc (kR (dR aj (aq rfl rfl (gj h1)) (dR aj (aq rfl rfl (fq h2)) (dR aj (aq rfl rfl (fq h3)) rM (by rfl)) (by rfl)) (by rfl))) rfl ((lw ai).trans rfl)) (az (aR rfl (aN aW))))))) (Gr.app _ _)
theorem one_pos:gR (d+1) 76 [.str [112,111,115],.int n,.str s,.int a] H (cG s (.pos n) a):=by
 have h1:decide (n<=(s.drop a).length)=decide (n<=(s.drop a).length):=rfl
 have h3:decide (((s.drop a).length:Int)=n)=decide (((s.drop a).length:Int)=n):=rfl
 by_cases h:a=n
 ·have h2:decide ((a:Int)=n)=true:=decide_eq_true (by omega)
  rw[show cG s (.pos n) a=[a] by unfold cG;rw[show dT s a (.pos n)=some a by show oN _ _=_;rw[decide_eq_true h];rfl]]
  exact bh (af rfl rfl (ak rfl (aU rfl (aV (bc (kR (dR aj (aq rfl rfl (gj h1)) (dR aj (aq rfl rfl (fq h2)) (dR aj (aq rfl rfl (fq h3)) rM (by rfl)) (by rfl)) (by rfl))) rfl ((lw ai).trans rfl)) (az (be rfl (aN rfl))))))) (Gr.app _ _)
 ·have h2:decide ((a:Int)=n)=false:=decide_eq_false (by omega)
  rw[show cG s (.pos n) a=[] by unfold cG;rw[show dT s a (.pos n)=none by show oN _ _=_;rw[decide_eq_false h];rfl]]
  exact bh (af rfl rfl (ak rfl (aU rfl (aV (bc (kR (dR aj (aq rfl rfl (gj h1)) (dR aj (aq rfl rfl (fq h2)) (dR aj (aq rfl rfl (fq h3)) rM (by rfl)) (by rfl)) (by rfl))) rfl ((lw ai).trans rfl)) (az (aR rfl (aN aW))))))) (Gr.app _ _)
theorem Iy(ha:a<=s.length):gR (d+1) 76 [.str [114,112,111,115],.int n,.str s,.int a] H (cG s (.fL n) a):=by
 have h1:decide (n<=(s.drop a).length)=decide (n<=(s.drop a).length):=rfl
 have h2:decide ((a:Int)=n)=decide ((a:Int)=n):=rfl
 have hd:=DW ha
 by_cases h:s.length=a+n
 ·have h3:decide (((s.drop a).length:Int)=n)=true:=decide_eq_true (by omega)
  rw[show cG s (.fL n) a=[a] by unfold cG;rw[show dT s a (.fL n)=some a by show oN _ _=_;rw[decide_eq_true h];rfl]]
  exact bh (af rfl rfl (ak rfl (aU rfl (aV (bc (kR (dR aj (aq rfl rfl (gj h1)) (dR aj (aq rfl rfl (fq h2)) (dR aj (aq rfl rfl (fq h3)) rM (by rfl)) (by rfl)) (by rfl))) rfl ((lw ai).trans rfl)) (az (be rfl (aN rfl))))))) (Gr.app _ _)
 ·have h3:decide (((s.drop a).length:Int)=n)=false:=decide_eq_false (by omega)
  rw[show cG s (.fL n) a=[] by unfold cG;rw[show dT s a (.fL n)=none by show oN _ _=_;rw[decide_eq_false h];rfl]]
  exact bh (af rfl rfl (ak rfl (aU rfl (aV (bc (kR (dR aj (aq rfl rfl (gj h1)) (dR aj (aq rfl rfl (fq h2)) (dR aj (aq rfl rfl (fq h3)) rM (by rfl)) (by rfl)) (by rfl))) rfl ((lw ai).trans rfl)) (az (aR rfl (aN aW))))))) (Gr.app _ _)
theorem LX:gR (d+1) 76 [.str [116,97,98],.int n,.str s,.int a] H (cG s (.tab n) a):=by
 by_cases ha:a<=n
 ·have h1:decide (a<=n)=true:=decide_eq_true ha
  by_cases hn:n<=s.length
  ·have h2:decide (n<=s.length)=true:=decide_eq_true hn
   rw[show cG s (.tab n) a=[n] by unfold cG;rw[show dT s a (.tab n)=some n by show oN _ _=_;rw[h1,h2];rfl]]
   exact bh (af rfl rfl (dG rfl rfl (aU rfl (ak rfl (az (be (s4 rfl rfl (gj h1) rfl (gj h2)) (aN rfl))))))) (Gr.refl _)
  ·have h2:decide (n<=s.length)=false:=decide_eq_false hn
   rw[show cG s (.tab n) a=[] by unfold cG;rw[show dT s a (.tab n)=none by show oN _ _=_;rw[h1,h2];rfl]]
   exact bh (af rfl rfl (dG rfl rfl (aU rfl (ak rfl (az (aR (s4 rfl rfl (gj h1) rfl (gj h2)) (aN aW))))))) (Gr.refl _)
 ·have h1:decide (a<=n)=false:=decide_eq_false ha
  rw[show cG s (.tab n) a=[] by unfold cG;rw[show dT s a (.tab n)=none by show oN _ _=_;rw[h1];rfl]]
  exact bh (af rfl rfl (dG rfl rfl (aU rfl (ak rfl (az (aR (rh rfl rfl (gj h1)) (aN aW))))))) (Gr.refl _)
theorem Iz:gR (d+1) 76 [.str [114,116,97,98],.int n,.str s,.int a] H (cG s (.fM n) a):=by
 by_cases h:a+n<=s.length
 ·have h1:decide ((a:Int)<=(s.length:Int)-n)=true:=decide_eq_true (by omega)
  have h2:decide ((s.length:Int)-n<=(s.length:Int))=true:=decide_eq_true (by omega)
  rw[show cG s (.fM n) a=[s.length-n] by unfold cG;rw[show dT s a (.fM n)=some (s.length-n) by show oN _ _=_;rw[decide_eq_true h];rfl]]
  have e:iL [s.length-n]=O.list [V.int ((s.length:Int)-n)]:=by show O.list [V.int ((s.length-n:Nat):Int)]=_;rw[show((s.length-n:Nat):Int)=(s.length:Int)-n by omega]
  refine bh (H':=H) ?_ (Gr.refl _)
  rw[e]
  exact af rfl rfl (dG rfl rfl (aU rfl (ak rfl (az (be (s4 rfl rfl (za h1) rfl (za h2)) (aN rfl))))))
 ·have h1:decide ((a:Int)<=(s.length:Int)-n)=false:=decide_eq_false (by omega)
  rw[show cG s (.fM n) a=[] by unfold cG;rw[show dT s a (.fM n)=none by show oN _ _=_;rw[decide_eq_false h];rfl]]
  exact bh (af rfl rfl (dG rfl rfl (aU rfl (ak rfl (az (aR (rh rfl rfl (za h1)) (aN aW))))))) (Gr.refl _)
theorem s9{c:Nat}{r:List Nat}(h:s.drop a=c::r):s[a]?=some c:=by rw[← ml,h];rfl
theorem FP(h:s.drop a=[]):s[a]?=none:=by rw[← ml,h];rfl
theorem OC{H:Hp}{w:List Nat}(h:s.drop a=w):jE (.str s) (.int a) .none .none H=some (.str w,H):=by subst h;rfl
theorem LY{t:List Nat}:gR (d+1) 76 [.str [97,110,121],.str t,.str s,.int a] H (cG s (.any t) a):=by
  cases hd:s.drop a with
 |nil=>
    have hs:=OC (H:=H) hd
    rw[show cG s (.any t) a=[] by unfold cG;rw[show dT s a (.any t)=none by show(match s[a]? with|some c=>_|none=>none)=_;rw[FP hd]]]
    exact bh (af rfl rfl (aV (dp rfl rfl aj aj hs) (dG rfl rfl (aU rfl (az (aR rfl (aN aW))))))) (Gr.refl _)
 |cons c r=>
    have hs:=OC (H:=H) hd
    cases hc:t.contains c with
   |true=>
     have h1:(t.contains c==true)=true:=by rw[hc];rfl
     rw[show cG s (.any t) a=[a+1] by unfold cG;rw[show dT s a (.any t)=some (a+1) by show(match s[a]? with|some c=>oN (t.contains c) (a+1)|none=>none)=_;rw[s9 hd];show oN (t.contains c) _=_;rw[hc];rfl]]
     exact bh (af rfl rfl (aV (dp rfl rfl aj aj hs) (dG rfl rfl (aU rfl (az (be (dc rfl (dc (aq (aq rfl rfl j7) rfl (rj h1)) i1)) (aN rfl))))))) (Gr.refl _)
   |false=>
     have h1:(t.contains c==true)=false:=by rw[hc];rfl
     rw[show cG s (.any t) a=[] by unfold cG;rw[show dT s a (.any t)=none by show(match s[a]? with|some c=>oN (t.contains c) (a+1)|none=>none)=_;rw[s9 hd];show oN (t.contains c) _=_;rw[hc];rfl]]
     exact bh (af rfl rfl (aV (dp rfl rfl aj aj hs) (dG rfl rfl (aU rfl (az (aR (dc rfl (dO (aq (aq rfl rfl j7) rfl (rj h1)))) (aN aW))))))) (Gr.refl _)
theorem IA{t:List Nat}:gR (d+1) 76 [.str [110,111,116,97,110,121],.str t,.str s,.int a] H (cG s (.fj t) a):=by
  cases hd:s.drop a with
 |nil=>
    have hs:=OC (H:=H) hd
    rw[show cG s (.fj t) a=[] by unfold cG;rw[show dT s a (.fj t)=none by show(match s[a]? with|some c=>_|none=>none)=_;rw[FP hd]]]
    exact bh (af rfl rfl (aV (dp rfl rfl aj aj hs) (dG rfl rfl (aU rfl (az (aR rfl (aN aW))))))) (Gr.refl _)
 |cons c r=>
    have hs:=OC (H:=H) hd
    cases hc:t.contains c with
   |false=>
     have h1:(t.contains c==false)=true:=by rw[hc];rfl
     rw[show cG s (.fj t) a=[a+1] by unfold cG;rw[show dT s a (.fj t)=some (a+1) by show(match s[a]? with|some c=>oN (!(t.contains c)) (a+1)|none=>none)=_;rw[s9 hd];show oN (!(t.contains c)) _=_;rw[hc];rfl]]
     exact bh (af rfl rfl (aV (dp rfl rfl aj aj hs) (dG rfl rfl (aU rfl (az (be (dc rfl (dc (aq (aq rfl rfl j7) rfl (rj h1)) i1)) (aN rfl))))))) (Gr.refl _)
   |true=>
     have h1:(t.contains c==false)=false:=by rw[hc];rfl
     rw[show cG s (.fj t) a=[] by unfold cG;rw[show dT s a (.fj t)=none by show(match s[a]? with|some c=>oN (!(t.contains c)) (a+1)|none=>none)=_;rw[s9 hd];show oN (!(t.contains c)) _=_;rw[hc];rfl]]
     exact bh (af rfl rfl (aV (dp rfl rfl aj aj hs) (dG rfl rfl (aU rfl (az (aR (dc rfl (dO (aq (aq rfl rfl j7) rfl (rj h1)))) (aN aW))))))) (Gr.refl _)
theorem vM{t:List Nat}:∀ r:List Nat,(ez t r).length+eo t true r=r.length
 |[]=>rfl
 |c::r=>by
   show(if t.contains c then ez t r else c::r).length+(bif t.contains c==true then eo t true r+1 else 0)=r.length+1
   have:=vM (t:=t) r
   cases t.contains c with
  |true=>show(ez t r).length+(eo t true r+1)=_;exact iQ (nt (am [_,_,_] (.d (.a ab ac) ar (.d (.s (.s ar)) (.a ab (.s ac)) .z)) rfl (bk this))) (nt (am [_,_,_] (.d ab (.a ac ar) (.d (.s (.a ac (.s ar))) (.s ab) .z)) rfl (bk (bV this))))
  |false=>rfl
theorem xO{w t:List Nat}(hw:b9 w=true)(ht:t∈gY):qK .lstrip (.str w) [.str t] H=some (.str (ez t w),H):=dZ ⟨hw,ht⟩
theorem g_split{w:List Nat}{c:Nat}(hw:b9 w=true)(hc:c∈d7):qK .split (.str w) [.str [c]] H=some (.loc H.length,H++[.list ((d8 c w).map .str)]):=dZ ⟨hw,hc⟩
theorem IB{t:List Nat}(hw:b9 (s.drop a)=true)(ht:t∈gY):gR (d+1) 76 [.str [115,112,97,110],.str t,.str s,.int a] H (cG s (.span t) a):=by
 have hc:=vM (t:=t) (s.drop a)
 have hsz:∀ H:Hp,tn .sub (.int ((s.drop a).length:Nat)) (.int ((ez t (s.drop a)).length:Nat)) H=some (.int (eo t true (s.drop a):Nat),H):=λH=>by
  show some (V.int (((s.drop a).length:Int)-((ez t (s.drop a)).length:Int)),H)=_
  rw[show((s.drop a).length:Int)-((ez t (s.drop a)).length:Int)=(eo t true (s.drop a):Nat) by omega]
 have hsz:=hsz H
 have hr:gW s t true a=a+eo t true (s.drop a):=rfl
 by_cases h:0<eo t true (s.drop a)
 ·have h1:decide (0<eo t true (s.drop a))=true:=decide_eq_true h
  rw[show cG s (.span t) a=[a+eo t true (s.drop a)] by unfold cG;rw[show dT s a (.span t)=some (a+eo t true (s.drop a)) by show oN (decide (a<gW s t true a)) _=_;rw[hr,decide_eq_true (by exact nl (am [_,_] (.d (.s (.n 0)) ab (.d (.a ac ab) ac .z)) rfl h))];rfl]]
  exact bh (af rfl rfl (ak rfl (cM rfl rfl rfl (aV (be rfl (cA rfl (aT (b8 (cn rfl (by rfl) rfl (xO hw ht))) (by rfl)) hsz)) (az (be (be rfl (aq rfl aj (o0 h1))) (aN rfl))))))) (Gr.refl _)
 ·have h1:decide (0<eo t true (s.drop a))=false:=decide_eq_false h
  rw[show cG s (.span t) a=[] by unfold cG;rw[show dT s a (.span t)=none by show oN (decide (a<gW s t true a)) _=_;rw[hr,decide_eq_false (by exact am [_,_] (.d ab (.n 0) (.d (.s ac) (.a ac ab) .z)) rfl (fH.mp h))];rfl]]
  exact bh (af rfl rfl (ak rfl (cM rfl rfl rfl (aV (be rfl (cA rfl (aT (b8 (cn rfl (by rfl) rfl (xO hw ht))) (by rfl)) hsz)) (az (aR (be rfl (aq rfl aj (o0 h1))) (aN aW))))))) (Gr.refl _)
noncomputable def nc(w:List Nat)(c:Nat):Nat:=((d8 c w).headD []).length
theorem Cc(w:List Nat)(c:Nat):∃ x xs,d8 c w=x::xs:=by
  induction w with
 |nil=>exact⟨_,_,rfl⟩
 |cons e r ih=>
   obtain⟨x,xs,h⟩:=ih
   show ∃ x xs,(if e==c then []::d8 c r else(match d8 c r with|w::ws=>(e::w)::ws|[]=>[[e]]))=x::xs
   rw[h]
   by_cases hc:(e==c)=true
   ·rw[if_pos hc];exact⟨_,_,rfl⟩
   ·rw[if_neg hc];exact⟨_,_,rfl⟩
theorem sB{w:List Nat}{l0:Lo}(hw:b9 w=true)(A6:∀ c:Nat,∃ l1,dX (.one 8) (.str [c]) l0=some l1/\l1[8]?=some (some (.str [c]))/\l1[4]?=some (some (.str w))):∀(r:List Nat)(n:Nat)(acc:List V)(H:Hp),(∀ c∈r,c∈d7)->r.length<n ->
  ∃ H',cP (λl H=>jy PL (ae PL d) [] l H) (λl H=>av PL (ae PL d) (.prim .len [.idx (.aS (.loc 4) .split [.loc 8]) (.lit (.int 0))]) l H) (.one 8) l0 n (.seq (kc r)) acc H=some (acc.reverse++r.map (λc=>V.int (nc w c)),H')/\Gr H H'
 |[],n+1,acc,H,_,_=>⟨H,(lr rfl).trans (by show _=some (acc.reverse++[],H);rw[ce]),Gr.refl _⟩
 |c::r,n+1,acc,H,hc,h=>by
  obtain⟨l1,k1,k2,k3⟩:=A6 c
  obtain⟨x,xs,hx⟩:=Cc w c
  obtain⟨H',e,g⟩:=sB hw A6 r n (.int (nc w c)::acc) (H++[.list ((d8 c w).map .str)]) (λc h=>hc c (.tail _ h)) (iz h)
  have hi:jg (H++[.list ((d8 c w).map .str)]) (.loc H.length) (.int 0)=some (.str x):=cQ ai (by rw[hx];rfl)
  have UR:nc w c=x.length:=by unfold nc;rw[hx];rfl
  refine⟨H',(jn rfl k1 uY (aT (b8 (bc (cn (db k3) rfl (b8 (db k2)) (g_split hw (hc c (.head _)))) aj hi)) (by rw[UR];rfl)) e).trans ?_,(Gr.app _ _).trans g⟩
  rw[eM,bZ];rfl
theorem ints_map:∀ L:List Nat,intsOf (L.map λ(n:Nat)=>V.int n)=some (L.map λ(n:Nat)=>(n:Int))
 |[]=>rfl
 |a::r=>by show intsOf (.int a::r.map _)=_;rw[Ge,ints_map r];rfl
noncomputable def US(w t:List Nat):Int:=match t.map (λc=>(nc w c:Int)) with
 |a::r=>jF a r
 |[]=>0
theorem IE:∀ w∈gF 3,∀ t∈gY,US w t=(eo t false w:Nat):=by decide +kernel
theorem LZ{t:List Nat}(hw:b9 (s.drop a)=true)(ht:t∈gY)(ha:a<=s.length):gR (d+1) 76 [.str [98,114,101,97,107],.str t,.str s,.int a] H (cG s (.brk t) a):=by
 have W0:∀ t∈gY,(∀ c∈t,c∈d7)/\t.length<=2/\t.all (· < 128)=true/\t≠[]:=by decide
 obtain⟨t1,t2,t3,t4⟩:=W0 t ht
 obtain⟨H',ii,g⟩:=sB (d:=d) (l0:=[some (.str [98,114,101,97,107]),some (.str t),some (.str s),some (.int a),some (.str (s.drop a)),none,none,none]++List.replicate 1 none) hw (λc=>⟨_,rfl,rfl,rfl⟩) t 1048576 [] H t1 (by exact nl (am [_] (.d ab (.n 2) (.d (.n 1048576) ab .z)) rfl t2))
 rw[pv,po] at ii
 have hit:gg H (.str t)=some (.seq (kc t)):=dZ t3
 have hlen:(t.map (λc=>V.int (nc (s.drop a) c))).length<=lim:=by rw[cT];unfold lim;exact nt (am [_] (.d ab (.n 2) (.d (.s (.n 1048576)) ab .z)) rfl t2)
 have hf:=IE _ (gf hw) t ht
 have Ps:gE .min [.loc H'.length] (H'++[.list (t.map (λc=>V.int (nc (s.drop a) c)))])=some (.int (eo t false (s.drop a):Nat),H'++[.list (t.map (λc=>V.int (nc (s.drop a) c)))]):=by
  show(Ej _ _).map _=_
  have e:Ej (H'++[.list (t.map (λc=>V.int (nc (s.drop a) c)))]) H'.length=some (.int (eo t false (s.drop a):Nat)):=by
    refine(cb ai).trans ?_
    rw[show(t.map (λc=>V.int (nc (s.drop a) c)))=(t.map (nc (s.drop a))).map (λ(n:Nat)=>V.int n) by rw[te];rfl,ints_map,te]
    rw[← hf]
    induction t with
   |nil=>exact absurd rfl t4
   |cons c r=>rfl
  rw[e];rfl
 have hr:gW s t false a=a+eo t false (s.drop a):=rfl
 have UT:(s.drop a).length=s.length-a:=i7
 by_cases h:eo t false (s.drop a)<(s.drop a).length
 ·have h1:decide (eo t false (s.drop a)<(s.drop a).length)=true:=decide_eq_true h
  rw[show cG s (.brk t) a=[a+eo t false (s.drop a)] by unfold cG;rw[show dT s a (.brk t)=some (a+eo t false (s.drop a)) by show oN (decide (gW s t false a<s.length)) _=_;rw[hr,decide_eq_true (by omega)];rfl]]
  exact bh (af rfl rfl (ak rfl (cM rfl rfl rfl (aV (aR rfl (aT (b8 (jS rfl hit ii hlen)) Ps)) (az (be (aR rfl (aq rfl rfl (fO h1))) (aN rfl))))))) (g.trans (Gr.app _ _))
 ·have h1:decide (eo t false (s.drop a)<(s.drop a).length)=false:=decide_eq_false h
  rw[show cG s (.brk t) a=[] by unfold cG;rw[show dT s a (.brk t)=none by show oN (decide (gW s t false a<s.length)) _=_;rw[hr,decide_eq_false (by omega)];rfl]]
  exact bh (af rfl rfl (ak rfl (cM rfl rfl rfl (aV (aR rfl (aT (b8 (jS rfl hit ii hlen)) Ps)) (az (aR (aR rfl (aq rfl rfl (fO h1))) (aN aW))))))) (g.trans (Gr.app _ _))
end
end L2
namespace L2
section
variable {kp:Nat->Option (List Nat)}{s:List Nat}
theorem OD{c:List Im}{a:Nat}{nm:Nm}{σ τ:Hs}{L:List (Option Wy)}{k k':Nat}{R:Res}(T:Tr kp s c a nm σ L k R τ k'):τ.log.length+k<=σ.log.length+k':=by
  induction T with
 |met=>exact aC _
 |go X _ ih=>have:=X.grow;exact nt (am [_,_,_,_,_] (.d (.a ab (.s ac)) (.a ar aA) (.d ar (.s bH) (.d (.s (.a bH aA)) (.a ab ac) .z))) rfl ih this)
 |pop _ _ ih=>exact nt (am [_,_,_,_] (.d (.a ab (.s ac)) (.a ar aA) (.d (.s (.a ar aA)) (.a ab ac) .z)) rfl ih)
 |eK _=>exact nt (am [_,_] (.d (.s (.a ab (.s ac))) (.a ab ac) .z) rfl)
 |ed _=>exact nt (am [_,_] (.d (.s (.a ab (.s ac))) (.a ab ac) .z) rfl)
theorem FQ{key:List Nat}{f:Nat->V}:∀(l:List Nat)(σ:Hs),(fo (λe σ=>gO σ key (f e)) l σ).log.length=σ.log.length+l.length
 |[],σ=>rfl
 |e::r,σ=>by rw[FM,FQ r,nE,cw];exact kS [_,_] (.a (.s ab) ac) (.a ab (.s ac)) rfl
theorem i5(hs:s.length<=3){n:Nd}(hn:P2 n)(hd:fQ (eR n)<=2){a:Nat}(ha:a<=s.length):(ends s n a).length<=99999:=by
 have h:=jw (kp:=λ_=>some []) hs n hn (Lv (q:=0) (b:=0) rfl (B2 (s:=s) (lo:=0) (r:=[]))) (m:=s.length) (a:=a) (nm:=[]) (σ:=⟨[],[]⟩) (L:=[]) (k:=0) (cj _) ha (fJ _ _)
 obtain⟨j,hj,T⟩:=h
 have h1:=OD (T _ _ _ (.inl ⟨rfl,rfl,rfl,rfl⟩))
 have h2:=lE n (λ_=>1+1) (λ_=>2) (λ_=>aC _) s.length
 have h3:=zG hd hs
 have h4:=FQ (key:=[]) (f:=λe=>.str ((s.take e).drop 0)) (ends s n a) ⟨[],[]⟩
 have h1:(fo (λe σ=>gO σ [] (.str ((s.take e).drop 0))) (ends s n a) ⟨[],[]⟩).log.length+0<=0+(0+j):=h1
 have h5:(⟨[],[]⟩:Hs).log.length=0:=rfl
 have hj:j<=zB n (λ_=>1+1) s.length:=hj
 exact nt (am [_,_,_,_,_,_] (.d ab ac (.d (.a (.n 2) ac) (.n 99999) (.d (.a ar aA) bH (.d (.a bH (.n 0)) (.a (.n 0) (.a (.n 0) iK)) (.d iK ab (.d (.s (.n 99999)) aA .z)))))) rfl h2 h3 (bk (bV h4)) h1 hj)
end
section
variable {d:Nat}{H:Hp}{s:List Nat}{a:Nat}
theorem xP:∀ t u:List Nat,(u.take t.length==t)=gz t u
 |[],u=>by cases u <;> rfl
 |x::r,[]=>rfl
 |x::r,y::u=>by
  rw[qH,← xP r u,cw,List.take_succ_cons]
  show(y==x&&List.take r.length u==r)=_
  rw[Bool.beq_comm (a:=x)]
theorem Cd{t w:List Nat}{b:Bool}(h:gz t w=b):qK .startswith (.str w) [.str t] H=some (.bool b,H):=by subst h;rfl
theorem DX{t:List Nat}:gR (d+1) 77 [nV (.sg (.ch t)),.str s,.int a] H (ends s (.sg (.ch t)) a):=by
  rw[na,mZ,xP]
  cases hm:gz t (s.drop a) with
 |true=>exact bh (af rfl rfl (ak rfl (aU rfl (az (be (cn rfl (by rfl) rfl (Cd hm)) (aN rfl)))))) (Gr.refl _)
 |false=>exact bh (af rfl rfl (ak rfl (aU rfl (az (aR (cn rfl (by rfl) rfl (Cd hm)) (aN aW)))))) (Gr.refl _)
theorem IF:gR (d+1) 77 [nV (.sg .rem),.str s,.int a] H (ends s (.sg .rem) a):=bh (af rfl rfl (dG rfl rfl (aU rfl (az (aN rfl))))) (Gr.refl _)
theorem fF{k:List Nat}{tv node:V}{L:List Nat}(h0:jg H node (.int 0)=some (.str k))(h1:jg H node (.int 1)=some tv)(c1:(k==[99,104,97,114,115])=false)(c2:(k==[114,101,109])=false)(c3:(k==[97,114,98])=false)(c4:(k==[98,97,108])=false)(c5:(k==[97,108,116])=false)(c6:(k==[99,97,116])=false)(c7:(k==[97,114,98,110,111])=false)(E:gR d 76 [.str k,tv,.str s,.int a] H L):gR (d+1) 77 [node,.str s,.int a] H L:=by
 obtain⟨o,H',e,ho,g,lo⟩:=E
 exact⟨o,H',af rfl rfl (aV (bc rfl aj h0) (bx (aq rfl aj (bu c1)) (bx (aq rfl aj (bu c2)) (bx (iT (aq rfl aj (bu c3)) (iT (aq rfl aj (bu c4)) oZ)) (bx (aq rfl aj (bu c5)) (bx (iT (aq rfl aj (bu c6)) (iT (aq rfl aj (bu c7)) oZ)) (az (aG (aX rfl (aX (bc rfl aj h1) rfl)) e)))))))),ho,g,lo⟩
theorem id_comp{l0:Lo}{G:Nat}{E0:List Nat}(h3:∀ v,∃ l1,dX (.one 7) v l0=some l1/\l1[3]?=some (some (.str [97,114,98]))/\l1[7]?=some (some v))(hG:H[G]?=some (iL E0)):∀(E:List Nat)(i n:Nat)(acc:List V),E0.drop i=E->E.length<n->cP (λl H=>jy PL (ae PL d) [.or [.cmp .eq (.loc 3) (.lit (.str [97,114,98])),.call (.glob (.fn 75)) [.slice (.loc 1) (.loc 2) (.loc 7) (.lit .none)]]] l H) (λl H=>av PL (ae PL d) (.loc 7) l H) (.one 7) l0 n (.lst G i) acc H=some (acc.reverse++E.map (λ(e:Nat)=>V.int e),H)
 |[],i,n+1,acc,hd,_=>by
  have:(E0.map λ(e:Nat)=>V.int e)[i]?=none:=by rw[iy,lJ.mpr (oa.mp hd)];rfl
  exact(lr (i2 hG this)).trans (by show _=some (acc.reverse++[],H);rw[ce])
 |e::E,i,n+1,acc,hd,h=>by
  obtain⟨l1,k1,k2,k3⟩:=h3 (.int e)
  have hx:(E0.map λ(e:Nat)=>V.int e)[i]?=some (.int e):=by rw[iy,← ml,hd];rfl
  have hd2:E0.drop (i+1)=E:=by rw[← mj,hd];rfl
  refine(jn (j6 hG hx) k1 (y8 (yZ (aq (db k2) aj rfl)) uY) (db k3) (id_comp h3 hG E (i+1) n (.int e::acc) hd2 (iz h))).trans ?_
  rw[eM,bZ];rfl
theorem pi(hw:b9 s=true)(e:Nat):b9 ((s.take e).drop a)=true:=by
 have h1:s.length<=3:=of_decide_eq_true (dw _ _▸hw:_/\_).1
 have h2:s.all d7.contains=true:=(dw _ _▸hw:_/\_).2
 refine lI.mpr ⟨decide_eq_true ?_,gq.mpr λx hx=>gq.mp h2 x (List.mem_of_mem_take (List.mem_of_mem_drop hx))⟩
 rw[i7,zO];omega
theorem Ce(hw:b9 s=true):b9 (s.drop a)=true:=by
 have:=pi (a:=a) hw s.length
 rwa [List.take_length] at this
theorem rO{l0:Lo}{G:Nat}{E0:List Nat}(hw:b9 s=true)(h3:∀ v,∃ l1,dX (.one 7) v l0=some l1/\l1[3]?=some (some (.str [98,97,108]))/\l1[7]?=some (some v)/\l1[1]?=some (some (.str s))/\l1[2]?=some (some (.int a))):∀(E:List Nat)(i n:Nat)(acc:List V)(H:Hp),H[G]?=some (iL E0)->E0.drop i=E->E.length<n->∃ H',cP (λl H=>jy PL (ae PL (d+1)) [.or [.cmp .eq (.loc 3) (.lit (.str [97,114,98])),.call (.glob (.fn 75)) [.slice (.loc 1) (.loc 2) (.loc 7) (.lit .none)]]] l H) (λl H=>av PL (ae PL (d+1)) (.loc 7) l H) (.one 7) l0 n (.lst G i) acc H=some (acc.reverse++(E.filter λe=>xM ((s.take e).drop a)).map (λ(e:Nat)=>V.int e),H')/\Gr H H'
 |[],i,n+1,acc,H,hG,hd,_=>by
   have:(E0.map λ(e:Nat)=>V.int e)[i]?=none:=by rw[iy,lJ.mpr (oa.mp hd)];rfl
   exact⟨H,(lr (i2 hG this)).trans (by show _=some (acc.reverse++[],H);rw[ce]),Gr.refl _⟩
 |e::E,i,n+1,acc,H,hG,hd,h=>by
   obtain⟨l1,k1,k2,k3,k4,k5⟩:=h3 (.int e)
   have hx:(E0.map λ(e:Nat)=>V.int e)[i]?=some (.int e):=by rw[iy,← ml,hd];rfl
   have hd2:E0.drop (i+1)=E:=by rw[← mj,hd];rfl
   have eb:=OB (d:=d) (H:=H) (pi (a:=a) hw e)
   have g1:=Gr.app H [O.list (kc (((s.take e).drop a).filter sO))]
   rw[List.filter_cons]
   cases hb:xM ((s.take e).drop a) with
  |true=>
    rw[hb] at eb
    obtain⟨H',e2,g2⟩:=rO hw h3 E (i+1) n (.int e::acc) _ (g1.at hG) hd2 (iz h)
    refine⟨H',(jn (j6 hG hx) k1 (y8 (iT (aq (db k2) aj rfl) (yZ (aG (b8 (dp (db k4) (db k5) (db k3) aj (by rfl))) eb))) uY) (db k3) e2).trans ?_,g1.trans g2⟩
    rw[eM,bZ];rfl
  |false=>
    rw[hb] at eb
    obtain⟨H',e2,g2⟩:=rO hw h3 E (i+1) n acc _ (g1.at hG) hd2 (iz h)
    exact⟨H',Br (j6 hG hx) k1 (xq (iT (aq (db k2) aj rfl) (iT (aG (b8 (dp (db k4) (db k5) (db k3) aj (by rfl))) eb) oZ))) e2,g1.trans g2⟩
theorem xQ{b:Nat}(hs:s.length<=3)(hb:b<=s.length+1){H:Hp}:qJ (.cm (b:Nat) ((s.length+1:Nat):Int) 1) H=some ((List.range' b (s.length+1-b)).map λ(x:Nat)=>V.int x):=by
 have h1:eZ (b:Int) ((s.length+1:Nat):Int) 1=s.length+1-b:=sZ (by omega)
 show gd (eZ (b:Int) ((s.length+1:Nat):Int) 1<=1024/\_) _=_
 rw[h1,dZ ⟨by omega,by omega,by omega,rfl⟩,rq,te];rfl
theorem DY(hs:s.length<=3)(ha:a<=s.length):gR (d+1) 77 [nV .cg,.str s,.int a] H (ends s .cg a):=by
 have hl:=xQ (H:=H) (b:=a) hs (by exact nt (am [_,_] (.d ab ac (.d (.s (.s ac)) ab .z)) rfl ha))
 have DZ:gE .list [.cm (a:Nat) ((s.length+1:Nat):Int) 1] H=some (.loc H.length,H++[iL (ends s .cg a)]):=by
  show(qJ _ H).map _=_
  rw[hl];rfl
 have L0:gE .range [.int (a:Nat),.int ((s.length+1:Nat):Int)] H=some (.cm (a:Nat) ((s.length+1:Nat):Int) 1,H):=rg ⟨by omega,by omega⟩
 have hn:(ends s .cg a).length<=4:=by show(List.range' a (s.length+1-a)).length<=4;rw[wz];omega
 have ii:=id_comp (d:=d) (H:=H++[iL (ends s .cg a)]) (l0:=[some (nV .cg),some (.str s),some (.int a),some (.str [97,114,98]),some (.loc H.length),none,none]++List.replicate 1 none) (λv=>⟨_,rfl,rfl,rfl⟩) ai (ends s .cg a) 0 1048576 [] rfl (by exact nl (am [_] (.d ab (.n 4) (.d (.n 1048576) ab .z)) rfl hn))
 have hlen:((ends s .cg a).map (λ(e:Nat)=>V.int e)).length<=lim:=by rw[cT];unfold lim;exact nt (am [_] (.d ab (.n 4) (.d (.s (.n 1048576)) ab .z)) rfl hn)
 exact bh (af rfl rfl (cM rfl rfl rfl (aU rfl (aV (aT (b8 (aT rfl L0)) DZ) (az (jS rfl (gN ai) ii hlen)))))) (Gr.app _ _)
theorem IG:∀ s∈gF 3,∀ a∈List.range 4,a<=s.length->(List.range' (a+1) (s.length+1-(a+1))).filter (λe=>xM ((s.take e).drop a))=eB s a:=by decide +kernel
theorem D0(hw:b9 s=true)(ha:a<=s.length):gR (d+2) 77 [nV .eU,.str s,.int a] H (ends s .eU a):=by
 have hs:s.length<=3:=of_decide_eq_true (dw _ _▸hw:_/\_).1
 have hl:=xQ (H:=H) (b:=a+1) hs (by exact nt (am [_,_] (.d ab ac (.d (.s (.s ac)) (.s ab) .z)) rfl ha))
 have DZ:gE .list [.cm ((a+1:Nat):Int) ((s.length+1:Nat):Int) 1] H=some (.loc H.length,H++[iL (List.range' (a+1) (s.length+1-(a+1)))]):=by
  show(qJ _ H).map _=_
  rw[hl];rfl
 have L0:gE .range [.int ((a+1:Nat):Int),.int ((s.length+1:Nat):Int)] H=some (.cm ((a+1:Nat):Int) ((s.length+1:Nat):Int) 1,H):=rg ⟨by omega,by omega⟩
 have hn:(List.range' (a+1) (s.length+1-(a+1))).length<=4:=by rw[wz];omega
 obtain⟨H',ii,g⟩:=rO (d:=d) (H:=H++[iL (List.range' (a+1) (s.length+1-(a+1)))]) (G:=H.length) (a:=a) (l0:=[some (nV .eU),some (.str s),some (.int a),some (.str [98,97,108]),some (.loc H.length),none,none]++List.replicate 1 none) hw (λv=>⟨_,rfl,rfl,rfl,rfl,rfl⟩) (List.range' (a+1) (s.length+1-(a+1))) 0 1048576 [] ai rfl (by exact nl (am [_] (.d ab (.n 4) (.d (.n 1048576) ab .z)) rfl hn))
 rw[IG s (gf hw) a (tf.mpr (by exact nl (am [_,_] (.d ab ac (.d ac (.n 3) (.d (.n 4) ab .z))) rfl ha hs))) ha,pv,po] at ii
 have hlen:((eB s a).map (λ(e:Nat)=>V.int e)).length<=lim:=by rw[cT];have:=rH ha;unfold lim;omega
 exact bh (af rfl rfl (cM rfl rfl rfl (aU rfl (aV (aT (b8 (aT rfl L0)) DZ) (az (jS rfl (gN ai) ii hlen)))))) ((Gr.app _ _).trans g)
structure Of(F:Nat)(H H':Hp):Prop where
 len:H.length<=H'.length
 off:∀ i x,i≠F->H[i]?=some x->H'[i]?=some x
theorem Of.refl{F:Nat}{H:Hp}:Of F H H:=⟨aC _,λ_ _ _ h=>h⟩
theorem Of.trans{F:Nat}{H H1 H2:Hp}(a:Of F H H1)(b:Of F H1 H2):Of F H H2:=⟨bj a.len b.len,λi x h1 h=>b.off i x h1 (a.off i x h1 h)⟩
noncomputable abbrev FB:List MS:=[(.ay (.or [(.cmp .eq (.loc 3) (.lit (.str [99,97,116]))),(.cmp .gt (.loc 5) (.loc 2))]) [(.expr (.aS (.loc 6) .extend [(.call (.glob (.fn 77)) [(.ay (.cmp .eq (.loc 3) (.lit (.str [99,97,116]))) (.idx (.loc 0) (.lit (.int 2))) (.loc 0)),(.loc 1),(.loc 5)])]))] [])]
theorem nK{node kd:V}{G F:Nat}{E0:List Nat}{f:Nat->List Nat}(bn:G≠F)(hb:∀ e∈E0,∀(acc:List Nat)(H:Hp),H[F]?=some (iL acc)->(acc++f e).length<=99999->∃ H',aQ PL (ae PL d) FB [some node,some (.str s),some (.int a),some kd,none,some (.int e),some (.loc F)] H=some (.next,[some node,some (.str s),some (.int a),some kd,none,some (.int e),some (.loc F)],H')/\H'[F]?=some (iL (acc++f e))/\Of F H H'):∀(E:List Nat)(i n:Nat)(acc:List Nat)(H:Hp)(y:Option V),H[G]?=some (iL E0)->H[F]?=some (iL acc)->E0.drop i=E->E.length<n->(acc++E.flatMap f).length<=99999 ->
  ∃ y' H',dF (.one 5) (λl H=>aQ PL (ae PL d) FB l H) n (.lst G i) [some node,some (.str s),some (.int a),some kd,none,y,some (.loc F)] H=some (.next,[some node,some (.str s),some (.int a),some kd,none,y',some (.loc F)],H')/\H'[F]?=some (iL (acc++E.flatMap f))/\Of F H H'
 |[],i,n+1,acc,H,y,hG,hF,hd,_,_=>by
  have:(E0.map λ(e:Nat)=>V.int e)[i]?=none:=by rw[iy,lJ.mpr (oa.mp hd)];rfl
  exact⟨y,H,lu (i2 hG this),by rw[List.flatMap_nil,ce];exact hF,.refl⟩
 |e::E,i,n+1,acc,H,y,hG,hF,hd,h,hl=>by
  have hx:(E0.map λ(e:Nat)=>V.int e)[i]?=some (.int e):=by rw[iy,← ml,hd];rfl
  have hd2:E0.drop (i+1)=E:=by rw[← mj,hd];rfl
  have hm:e∈E0:=List.mem_of_mem_drop (by rw[hd];exact wh)
  rw[mi,← bZ] at hl ⊢
  obtain⟨H1,e1,h1,o1⟩:=hb e hm acc H hF (bj (by rw[aH (as:=acc++f e)];exact cC ..) hl)
  obtain⟨y',H',e2,h2,o2⟩:=nK bn hb E (i+1) n (acc++f e) H1 (some (.int e)) (o1.off _ _ bn hG) h1 hd2 (iz h) hl
  exact⟨y',H',jo (j6 hG hx) rfl e1 e2,h2,o1.trans o2⟩
theorem gR.ext{F k:Nat}{vs:List V}{L acc:List Nat}{H:Hp}(E:gR d k vs H L)(hF:H[F]?=some (iL acc))(hl:(acc++L).length<=99999){zg:Prop}(zk:∀ o H',ae PL d k vs H=some (.loc o,H')->Gr H H'->H'[o]?=some (iL L)->F≠o->(acc.map λ(e:Nat)=>V.int e).length+(L.map λ(e:Nat)=>V.int e).length<lim->(H'.set F (.list ((acc.map λ(e:Nat)=>V.int e)++(L.map λ(e:Nat)=>V.int e))))[F]?=some (iL (acc++L))->Of F H (H'.set F (.list ((acc.map λ(e:Nat)=>V.int e)++(L.map λ(e:Nat)=>V.int e))))->zg):zg:=by
 obtain⟨o,H',e,ho,g,lo⟩:=E
 have h1:=cv hF
 refine zk o H' e g ho (by exact dt (nl (am [_,_,_] (.d ab ac (.d (.s ar) ab (.d ac ar .z))) rfl lo h1))) (by rw[cT,cT,← aH];unfold lim;exact nl (am [_] (.d ab (.n 99999) (.d (.n 1048576) ab .z)) rfl hl)) ?_ ⟨by rw[dB];exact g.len,λi x hi hx=>aa hi.symm (g.at hx)⟩
 rw[← lK]
 exact aw (g.at hF)
end
noncomputable def dn:Nd->Nat
 |.al a b=>1+max (dn a) (dn b)
 |.ca a b=>1+max (dn a) (dn b)
 |.rp x=>5+dn x
 |_=>3
section
variable {s:List Nat}
theorem Of.gr{F:Nat}{H H1 H':Hp}(g:Gr H H1)(o:Of F H1 H')(h:H.length<=F):Gr H H':=⟨bj g.len o.len,λi hi=>by
 have hx:H[i]?=some H[i]:=rR hi
 rw[o.off i _ (dt (dM hi h)) (g.at hx),hx]⟩
theorem vO{x:Nd}{a:Nat}(ha:a<=s.length):jv (ends s x) s.length a=[a]++(ends s x a).flatMap λe=>if a<e then jv (ends s x) s.length e else []:=by
 rw[nH (dL s x) s.length (s.length+1) a ha (fJ _ _) (by exact nt (am [_,_] (.d (.s (.a ab (.s ac))) ac .z) rfl)),rG];rfl
theorem L1{d:Nat}{x:Nd}(hx:∀(D' a:Nat)(H:Hp),d<=D'->a<=s.length->gR D' 77 [nV x,.str s,.int a] H (ends s x a))(IH:∀ a,a<=s.length->(ends s x a).length<=99999)(hlen:∀ a,a<=s.length->(jv (ends s x) s.length a).length<=99999):∀(m a:Nat)(D:Nat)(H:Hp),a<=s.length->s.length<=a+m->d+m<=D->gR (D+1) 77 [nV (.rp x),.str s,.int a] H (jv (ends s x) s.length a):=λm=>by
  have Iu:=dL s x
  induction m with
 |zero=>
   intro a D H ha hm hD
   obtain⟨o1,H1,e1,h1,g1,lo1⟩:=hx D a (H++[iL [a]]) (by exact nt (am [_,_] (.d (.a ab (.n 0)) ac (.d (.s ac) ab .z)) rfl hD)) ha
   have jp:=hlen a ha
   rw[vO ha] at jp ⊢
   have cH:o1≠H.length:=by rw[aH] at lo1;have:[iL [a]].length=1:=rfl;exact df (nl (am [_,_,_] (.d (.a ab ac) ar (.d (.n 1) ac (.d ar ab .z))) rfl lo1 (bk (bV this))))
   have Cf:=IH a ha
   obtain⟨y',H',eL,h2,o2⟩:=nK (d:=D) (s:=s) (a:=a) (node:=nV (.rp x)) (kd:=.str [97,114,98,110,111]) (G:=o1) (F:=H.length) (E0:=ends s x a) (f:=λe=>if a<e then jv (ends s x) s.length e else []) cH (λe he acc H hF hl=>by
    have:=Iu a ha e he
    have hg:decide (a<e)=false:=decide_eq_false (by exact am [_,_,_] (.d ab (.a ac (.n 0)) (.d ar ab (.d (.s ac) ar .z))) rfl hm this.2)
    have h0:¬ a<e:=by exact am [_,_,_] (.d ab (.a ac (.n 0)) (.d ar ab (.d (.s ac) ar .z))) rfl hm this.2
    exact⟨H,ak (cu (iT rfl (iT (aq rfl rfl (o0 hg)) oZ)) aL) aL,by rw[if_neg h0,ce];exact hF,.refl⟩) (ends s x a) 0 1048576 [a] H1 none h1 (g1.at ai) rfl (by exact nl (am [_] (.d ab (.n 99999) (.d (.n 1048576) ab .z)) rfl Cf)) jp
   exact⟨H.length,H',af rfl rfl (dG rfl rfl (cM rfl rfl rfl (aU rfl (aV (be rfl (aN rfl)) (ak (fA (aG rfl e1) (gN h1) eL) rfl))))),h2,Of.gr ((Gr.app _ _).trans g1) o2 (aC _),aC _⟩
 |succ m ih=>
   intro a D H ha hm hD
   obtain⟨o1,H1,e1,h1,g1,lo1⟩:=hx D a (H++[iL [a]]) (by exact nt (am [_,_,_] (.d (.a ab (.s ac)) ar (.d (.s ar) ab .z)) rfl hD)) ha
   have jp:=hlen a ha
   rw[vO ha] at jp ⊢
   have cH:o1≠H.length:=by rw[aH] at lo1;have:[iL [a]].length=1:=rfl;exact df (nl (am [_,_,_] (.d (.a ab ac) ar (.d (.n 1) ac (.d ar ab .z))) rfl lo1 (bk (bV this))))
   have Cf:=IH a ha
   obtain⟨D,rfl⟩:∃ D',D=D'+1:=⟨D-1,by omega⟩
   obtain⟨y',H',eL,h2,o2⟩:=nK (d:=D+1) (s:=s) (a:=a) (node:=nV (.rp x)) (kd:=.str [97,114,98,110,111]) (G:=o1) (F:=H.length) (E0:=ends s x a) (f:=λe=>if a<e then jv (ends s x) s.length e else []) cH (λe he acc H hF hl=>by
    have hf:=Iu a ha e he
    by_cases h0:a<e
    ·have hg:decide (a<e)=true:=decide_eq_true h0
     rw[if_pos h0] at hl ⊢
     exact(ih e D H hf.2 (by exact nt (am [_,_,_,_] (.d ab (.a ac (.s ar)) (.d (.s ac) aA (.d (.s (.a aA ar)) ab .z))) rfl hm h0)) (by exact nt (am [_,_,_] (.d (.a ab (.s ac)) (.s ar) (.d (.s ar) (.a ab ac) .z)) rfl hD))).ext hF hl λo H' e1 g ho bn o7 L3 SM=>⟨_,ak (bQ (iT rfl (yZ (aq rfl rfl (o0 hg)))) (fp (cn rfl (aZ hF rfl) (b8 (aG rfl e1)) (kL (g.at hF) ho bn o7)))) aL,L3,SM⟩
    ·have hg:decide (a<e)=false:=decide_eq_false h0
     exact⟨H,ak (cu (iT rfl (iT (aq rfl rfl (o0 hg)) oZ)) aL) aL,by rw[if_neg h0,ce];exact hF,.refl⟩) (ends s x a) 0 1048576 [a] H1 none h1 (g1.at ai) rfl (by exact nl (am [_] (.d ab (.n 99999) (.d (.n 1048576) ab .z)) rfl Cf)) jp
   exact⟨H.length,H',af rfl rfl (dG rfl rfl (cM rfl rfl rfl (aU rfl (aV (be rfl (aN rfl)) (ak (fA (aG rfl e1) (gN h1) eL) rfl))))),h2,Of.gr ((Gr.app _ _).trans g1) o2 (aC _),aC _⟩
theorem L4{D a:Nat}{H:Hp}{x y:Nd}(hx:∀(a:Nat)(H:Hp),a<=s.length->gR D 77 [nV x,.str s,.int a] H (ends s x a))(hy:∀(a:Nat)(H:Hp),a<=s.length->gR D 77 [nV y,.str s,.int a] H (ends s y a))(ha:a<=s.length)(Cf:(ends s x a).length<=99999)(jp:(ends s (.ca x y) a).length<=99999):gR (D+1) 77 [nV (.ca x y),.str s,.int a] H (ends s (.ca x y) a):=by
 obtain⟨o1,H1,e1,h1,g1,lo1⟩:=hx a (H++[iL []]) ha
 have cH:o1≠H.length:=by rw[aH] at lo1;have:[iL []].length=1:=rfl;exact df (nl (am [_,_,_] (.d (.a ab ac) ar (.d (.n 1) ac (.d ar ab .z))) rfl lo1 (bk (bV this))))
 obtain⟨y',H',eL,h2,o2⟩:=nK (d:=D) (s:=s) (a:=a) (node:=nV (.ca x y)) (kd:=.str [99,97,116]) (G:=o1) (F:=H.length) (E0:=ends s x a) (f:=ends s y) cH (λe he acc H hF hl=>
  (hy e H (dL s x a ha e he).2).ext hF hl λo H' e1 g ho bn o7 L3 SM=>⟨_,ak (bQ rfl (fp (cn rfl (aZ hF rfl) (b8 (aG rfl e1)) (kL (g.at hF) ho bn o7)))) aL,L3,SM⟩) (ends s x a) 0 1048576 [] H1 none h1 (g1.at ai) rfl (by exact nl (am [_] (.d ab (.n 99999) (.d (.n 1048576) ab .z)) rfl Cf)) jp
 exact⟨H.length,H',af rfl rfl (dG rfl rfl (cM rfl rfl rfl (aU rfl (aV (aR rfl (aN aW)) (ak (fA (aG rfl e1) (gN h1) eL) rfl))))),h2,Of.gr ((Gr.app _ _).trans g1) o2 (aC _),aC _⟩
theorem L5{D a:Nat}{H:Hp}{x y:Nd}(hx:∀(H:Hp),gR D 77 [nV x,.str s,.int a] H (ends s x a))(hy:∀(H:Hp),gR D 77 [nV y,.str s,.int a] H (ends s y a))(jp:(ends s (.al x y) a).length<=99999):gR (D+1) 77 [nV (.al x y),.str s,.int a] H (ends s (.al x y) a):=by
 obtain⟨o1,H1,e1,h1,g1,lo1⟩:=hx H
 obtain⟨o2,H2,e2,h2,g2,XC⟩:=hy H1
 have jp:(ends s x a++ends s y a).length<=99999:=jp
 have UU:tn .add (.loc o1) (.loc o2) H2=some (.loc H2.length,H2++[iL (ends s x a++ends s y a)]):=by
  refine(cb (g2.at h1)).trans ((cb h2).trans ?_)
  rw[← lK]
  exact dZ (by rw[cT,cT,← aH];unfold lim;exact nt (am [_] (.d ab (.n 99999) (.d (.s (.n 1048576)) ab .z)) rfl jp))
 exact bh (L:=ends s x a++ends s y a) (af rfl rfl (ak rfl (cM rfl rfl rfl (aU rfl (az (cA (aG rfl e1) (aG rfl e2) UU)))))) (g1.trans g2)
theorem L6(hw:b9 s=true):∀(n:Nd),Pw n->fQ (eR n)<=2->∀(D a:Nat)(H:Hp),dn n<=D->a<=s.length->gR D 77 [nV n,.str s,.int a] H (ends s n a):=by
  have hs:s.length<=3:=of_decide_eq_true (dw _ _▸hw:_/\_).1
  intro n
  induction n with
 |sg x=>
    intro hp _ D a H hD ha
    have hD:3<=D:=hD
    obtain⟨D,rfl⟩:∃ D',D=D'+3:=⟨D-3,by omega⟩
    have NW:=Ce (a:=a) hw
    induction x with
   |ch t=>exact DX
   |rem=>exact IF
   |len k=>exact fF rfl rfl rfl rfl rfl rfl rfl rfl rfl (LW ha)
   |pos k=>exact fF rfl rfl rfl rfl rfl rfl rfl rfl rfl one_pos
   |fL k=>exact fF rfl rfl rfl rfl rfl rfl rfl rfl rfl (Iy ha)
   |tab k=>exact fF rfl rfl rfl rfl rfl rfl rfl rfl rfl LX
   |fM k=>exact fF rfl rfl rfl rfl rfl rfl rfl rfl rfl Iz
   |any t=>exact fF rfl rfl rfl rfl rfl rfl rfl rfl rfl LY
   |fj t=>exact fF rfl rfl rfl rfl rfl rfl rfl rfl rfl IA
   |span t=>exact fF rfl rfl rfl rfl rfl rfl rfl rfl rfl (IB NW hp)
   |brk t=>exact fF rfl rfl rfl rfl rfl rfl rfl rfl rfl (LZ NW hp ha)
 |al x y L7 SN=>
    intro hp hd D a H hD ha
    have jp:=i5 hs (ig (.al x y) hp) hd ha
    have hd:max (fQ (eR x)) (fQ (eR y))+1<=2:=hd
    have hD:1+max (dn x) (dn y)<=D:=hD
    obtain⟨D,rfl⟩:∃ D',D=D'+1:=⟨D-1,by omega⟩
    exact L5 (λH=>L7 hp.1 (by omega) D a H (by omega) ha) (λH=>SN hp.2 (by omega) D a H (by omega) ha) jp
 |ca x y L7 SN=>
    intro hp hd D a H hD ha
    have jp:=i5 hs (ig (.ca x y) hp) hd ha
    have hd:max (fQ (eR x)) (fQ (eR y))+1<=2:=hd
    have IH:=i5 hs (ig x hp.1) (by omega) ha
    have hD:1+max (dn x) (dn y)<=D:=hD
    obtain⟨D,rfl⟩:∃ D',D=D'+1:=⟨D-1,by omega⟩
    exact L4 (λa H ha=>L7 hp.1 (by omega) D a H (by omega) ha) (λa H ha=>SN hp.2 (by omega) D a H (by omega) ha) ha IH jp
 |rp x L7=>
    intro hp hd D a H hD ha
    have jp:=λa ha=>i5 hs (ig (.rp x) hp) hd (a:=a) ha
    have hd:fQ (eR x)+1<=2:=hd
    have IH:=λa ha=>i5 hs (ig x hp) (by exact nt (am [_] (.d (.s ab) (.n 2) (.d (.s (.n 2)) ab .z)) rfl hd)) (a:=a) ha
    have hD:5+dn x<=D:=hD
    obtain⟨D,rfl⟩:∃ D',D=D'+1:=⟨D-1,by omega⟩
    exact L1 (d:=dn x) (λD' a H h ha=>L7 hp (by exact nt (am [_] (.d (.s ab) (.n 2) (.d (.s (.n 2)) ab .z)) rfl hd)) D' a H h ha) IH jp 3 a D H ha (by exact nt (am [_,_] (.d ab (.n 3) (.d (.s (.a ac (.n 3))) ab .z)) rfl hs)) (by exact nt (am [_,_] (.d (.a (.n 5) ab) (.s ac) (.d (.s ac) (.a ab (.n 3)) .z)) rfl hD))
 |cg=>
    intro _ _ D a H hD ha
    have hD:3<=D:=hD
    obtain⟨D,rfl⟩:∃ D',D=D'+3:=⟨D-3,by omega⟩
    exact DY hs ha
 |eU=>
    intro _ _ D a H hD ha
    have hD:3<=D:=hD
    obtain⟨D,rfl⟩:∃ D',D=D'+3:=⟨D-3,by omega⟩
    exact D0 hw ha
 |_=>exact λhp=>hp.elim
end
end L2
namespace L2
section
variable {d:Nat}{H:Hp}{s:List Nat}{a:Nat}
theorem rP:∀ n:Nd,dn n<=3+5*fQ (eR n)
 |.al a b=>by
  have h1:=rP a
  have h2:=rP b
  show 1+max (dn a) (dn b)<=3+5*(max (fQ (eR a)) (fQ (eR b))+1);omega
 |.ca a b=>by
  have h1:=rP a
  have h2:=rP b
  show 1+max (dn a) (dn b)<=3+5*(max (fQ (eR a)) (fQ (eR b))+1);omega
 |.rp x=>by
  have h1:=rP x
  show 5+dn x<=3+5*(fQ (eR x)+1);exact nt (am [_,_] (.d ab (.a (.n 3) (.m 5 ac)) (.d (.s (.a (.n 3) (.m 5 (.s ac)))) (.a (.n 5) ab) .z)) rfl h1)
 |.sg _=>cC _ _
 |.cg=>cC _ _
 |.eU=>cC _ _
 |.nw _ _=>cC _ _
 |.fail=>cC _ _
theorem II{v0 v1 v2:V}:ae PL (d+1) 15 [.loc H.length,v0,v1,v2] (H++[.inst 1 []])=some (.none,H++[.inst 1 [(15,v0),(16,v1),(17,v2)]]):=
 em rfl rfl (ak (eD rfl rfl ef) (ak (eD rfl rfl ef) (ak (eD rfl rfl ef) aL)))
theorem D1{v1 v3:V}{m:Int}:ae PL (d+1) 60 [.loc H.length,v1,.int m,v3] (H++[.inst 4 []])=some (.none,(H++[O.inst 4 [(9,v1),(10,.int m),(11,v3),(12,.int 64),(13,.int 0)]]++[O.list []]).set H.length (cI v1 v3 (.loc (H.length+1)) m (0:Nat))):=
 em rfl rfl (ak (eD rfl rfl ef) (ak (eD rfl rfl ef) (ak (eD rfl rfl ef) (ak (eD aj rfl ef) (ak (eD aj rfl ef) (ak (eD (aN aW) rfl ((dE (ag ai)).trans (by rw[aH];rfl))) aL))))))
noncomputable abbrev UV:ME:=.new 4 [.dict [],.lit (.int 99999),.lst []]
noncomputable abbrev hA(H:Hp):Hp:=H++[.dict []]++[.list []]
noncomputable def hB(H:Hp):Hp:=(hA H++[O.inst 4 [(9,.loc H.length),(10,.int 99999),(11,.loc (H++[O.dict []]).length),(12,.int 64),(13,.int 0)]]++[O.list []]).set (hA H).length (cI (.loc H.length) (.loc (H++[O.dict []]).length) (.loc ((hA H).length+1)) 99999 (0:Nat))
theorem rQ{l:Lo}:av PL (ae PL (d+1)) UV l H=some (.loc (H.length+2),hB H):=by
 have l3:(hA H).length=H.length+2:=by rw[aH,aH];rfl
 rw[← l3]
 exact j5 (aX Ke (cF aj (aN aW))) rfl D1
theorem OE:(hB H).length=H.length+4:=by
 unfold hB
 rw[dB,aH,aH,aH,aH];rfl
theorem pj:Gr H (hB H):=by
 refine⟨by rw[OE];exact nt (am [_] (.d (.s (.a ab (.n 4))) ab .z) rfl),λi hi=>?_⟩
 have l3:(hA H).length=H.length+2:=by rw[aH,aH];rfl
 unfold hB
 rw[iR (by exact df (nl (am [_,_,_] (.d (.s ab) ac (.d (.a ac (.n 2)) ar (.d ar ab .z))) rfl hi (bk (bV l3))))),dh (by rw[aH,l3];exact nl (am [_,_,_] (.d (.s ab) ac (.d (.a (.a ac (.n 2)) ar) ab .z)) rfl hi)),dh (by exact nl (am [_,_,_] (.d (.s ab) ac (.d (.a ac (.n 2)) ar (.d ar ab .z))) rfl hi (bk (bV l3)))),dh (by rw[aH];exact nl (am [_,_,_] (.d (.s ab) ac (.d (.a ac ar) ab .z)) rfl hi)),dh hi]
noncomputable def D2(q:Nat)(i:Nat):Option (List Nat):=if i=q then some [86] else none
noncomputable abbrev σ0:Hs:=⟨[],[]⟩
theorem L8{q:Nat}(hq:H[q]?=some (rm [86])):HX (D2 q) (H.length+2) H.length (H.length+1) (H.length+3) 99999 (0:Nat) σ0 (hB H):=by
 have l1:(H++[O.dict []]).length=H.length+1:=by rw[aH];rfl
 have l3:(hA H).length=H.length+2:=by rw[aH,l1];rfl
 have g:=pj (H:=H)
 have a0:(hA H)[H.length]?=some (.dict []):=ag ai
 have a1:(hA H)[H.length+1]?=some (.list []):=by rw[← l1];exact ai
 refine⟨?_,?_,?_,?_,λr key e=>?_,by exact dt (nl (am [_] (.d (.a ab (.n 3)) (.s ab) .z) rfl))⟩
 ·have:(hB H)[(hA H).length]?=some (cI (.loc H.length) (.loc (H++[O.dict []]).length) (.loc ((hA H).length+1)) 99999 (0:Nat)):=by unfold hB;exact aw (ag ai)
  rw[l1,l3] at this;exact this
 ·unfold hB;exact aa (by exact df (nl (am [_,_] (.d (.a ab (.n 2)) ac (.d ac ab .z)) rfl (bk (bV l3))))) (ag (ag a0))
 ·have:(hB H)[(hA H++[O.inst 4 [(9,.loc H.length),(10,.int 99999),(11,.loc (H++[O.dict []]).length),(12,.int 64),(13,.int 0)]]).length]?=some (.list []):=by unfold hB;exact aa (dt (by rw[aH (as:=hA H)];exact jB _)) ai
  rw[aH,l3] at this;exact this
 ·unfold hB;exact aa (by exact df (nl (am [_,_] (.d (.a ab (.n 2)) ac (.d ac (.s ab) .z)) rfl (bk (bV l3))))) (ag (ag a1))
 ·unfold D2 at e
  by_cases h:r=q
  ·rw[if_pos h] at e;cases e;subst h;exact g.at hq
  ·rw[if_neg h] at e;exact nn e
noncomputable def dS(s:List Nat):PyData:=.str ⟨s.toArray⟩
noncomputable def wg(d:PyData):Prop:=PyData.eqv d d=true
theorem eq_str(t:List Nat):wg (dS t):=by show PyData.eqv _ _=true;simp only[dS,PyData.eqv,beq_self_eq_true]
theorem eq_int(i:Int):wg (.int i):=by show PyData.eqv _ _=true;simp only[PyData.eqv,beq_self_eq_true]
theorem L9:wg .none:=by show PyData.eqv _ _=true;rw[PyData.eqv]
theorem vP:∀{ds:List PyData},(∀ d∈ds,wg d)->PyData.eqvAll ds ds=true
 |[],_=>by rw[PyData.eqvAll]
 |d::r,h=>by
  have h1:PyData.eqv d d=true:=h d (.head _)
  rw[PyData.eqvAll,h1,vP λd hd=>h d (.tail _ hd)];rfl
theorem FS{ds:List PyData}(h:∀ d∈ds,wg d):wg (.tuple ds):=by show PyData.eqv _ _=true;rw[PyData.eqv];exact vP h
theorem FT{ds:List PyData}(h:∀ d∈ds,wg d):wg (.list ds):=by show PyData.eqv _ _=true;rw[PyData.eqv];exact vP h
noncomputable abbrev nf(s:List Nat)(E:List Nat):List V:=E.map λe=>V.tup [.str [86],.str (s.take e)]
noncomputable abbrev OF(s:List Nat)(E:List Nat):List PyData:=E.map λe=>PyData.tuple [dS [86],dS (s.take e)]
theorem IJ(hw:b9 s=true)(e:Nat):(s.take e).all (· < 128)=true:=by
 have mJ:∀ s∈gF 3,s.all (· < 128)=true:=by decide +kernel
 have:=mJ _ (gf (pi (a:=0) hw e))
 exact this
theorem FU(hw:b9 s=true)(n:Nat):∀ E:List Nat,i9 (dat H (n+2)) (nf s E)=some (OF s E)
 |[]=>rfl
 |e::E=>by
  have h1:dat H (n+1) (.str (s.take e))=some (dS (s.take e)):=if_pos (IJ hw e)
  have h2:dat H (n+2) (.tup [.str [86],.str (s.take e)])=some (.tuple [dS [86],dS (s.take e)]):=by
   show(i9 (dat H (n+1)) [.str [86],.str (s.take e)]).map PyData.tuple=_
   rw[iX,show dat H (n+1) (.str [86])=some (dS [86]) from rfl,iX,h1,D9];rfl
  show i9 (dat H (n+2)) (_::nf s E)=some (_::OF s E)
  rw[iX,h2,FU hw n E]
theorem ta(hw:b9 s=true){E:List Nat}{o:Nat}(ho:H[o]?=some (.list (nf s E))):dat H 8 (.loc o)=some (.list (OF s E)):=by
 refine(cb ho).trans ?_
 rw[FU hw 5 E];rfl
theorem Ma(E:List Nat):wg (.list (OF s E)):=FT λx hx=>by
 obtain⟨e,_,rfl⟩:=mf.mp hx
 exact FS λy hy=>by
  rcases fm.mp hy with h|h
  ·rw[h];exact eq_str _
  ·rw[dA.mp h];exact eq_str _
theorem Cg(hw:b9 s=true){E:List Nat}{o p:Nat}(ho:H[o]?=some (.list (nf s E)))(hp:H[p]?=some (.list (nf s E))):cE H .ne (.loc o) (.loc p)=some false:=by
 show(pE H (.loc o) (.loc p)).map (!·)=_
 unfold pE
 rw[ta hw ho,ta hw hp]
 show some (!PyData.eqv _ _)=_
 rw[show PyData.eqv _ _=true from Ma E];rfl
theorem Mb(hw:b9 s=true){e:Nat}{E:List Nat}{o p:Nat}(ho:H[o]?=some (.list (nf s (e::E))))(hp:H[p]?=some (.list [])):cE H .ne (.loc o) (.loc p)=some true:=by
 show(pE H (.loc o) (.loc p)).map (!·)=_
 unfold pE
 rw[ta hw ho,ta (s:=s) hw (E:=[]) hp]
 show some (!PyData.eqv (.list (_::_)) (.list []))=_
 rw[PyData.eqv,PyData.eqvAll];rfl
theorem OG{e:Nat}{i j:Nat}(hi:H[i]?=some (.list []))(hj:H[j]?=some (.list [])):cE H .eq (.tup [.int (0:Nat),.int (e:Nat),.loc i]) (.tup [.int 0,.int (e:Nat),.loc j])=some true:=by
 have f:∀ k:Nat,H[k]?=some (.list [])->dat H 8 (.tup [.int 0,.int (e:Nat),.loc k])=some (.tuple [.int 0,.int e,.list []]):=λk hk=>by
  have h:dat H 7 (.loc k)=some (.list []):=(cb hk).trans rfl
  show(i9 (dat H 7) [.int 0,.int (e:Nat),.loc k]).map PyData.tuple=_
  rw[iX,iX,iX,h,D9];rfl
 show pE H (.tup [.int 0,.int (e:Nat),.loc i]) (.tup [.int 0,.int (e:Nat),.loc j])=_
 unfold pE
 rw[f i hi,f j hj]
 have:wg (.tuple [.int 0,.int e,.list []]):=FS λx hx=>by
  rcases fm.mp hx with h|h
  ·rw[h];exact eq_int _
  ·rcases fm.mp h with h|h
   ·rw[h];exact eq_int _
   ·rw[dA.mp h];exact FT λx hx=>(n7 hx).elim
 show some (PyData.eqv _ _)=_
 rw[show PyData.eqv _ _=true from this]
theorem SO:cE H .eq .none .none=some true:=by
 show pE H .none .none=_
 show some (PyData.eqv .none .none)=_
 rw[show PyData.eqv _ _=true from L9]
theorem Mc:∀(l:List Nat)(σ:Hs),(fo (λe σ=>gO σ [86] (.str (s.take e))) l σ).log=σ.log++nf s l
 |[],σ=>(ce _).symm
 |e::r,σ=>by rw[FM,Mc r];show(σ.log++[_])++_=_;rw[bZ];rfl
theorem xR{l0:Lo}{G:Nat}{E0:List Nat}(h3:∀ v,∃ l1,dX (.one 8) v l0=some l1/\l1[2]?=some (some (.str s))/\l1[8]?=some (some v))(hG:H[G]?=some (iL E0)):∀(E:List Nat)(i n:Nat)(acc:List V),E0.drop i=E->E.length<n->cP (λl H=>jy PL (ae PL d) [] l H) (λl H=>av PL (ae PL d) (.tup [.lit (.str [86]),.slice (.loc 2) (.lit .none) (.loc 8) (.lit .none)]) l H) (.one 8) l0 n (.lst G i) acc H=some (acc.reverse++nf s E,H)
 |[],i,n+1,acc,hd,_=>by
  have:(E0.map λ(e:Nat)=>V.int e)[i]?=none:=by rw[iy,lJ.mpr (oa.mp hd)];rfl
  exact(lr (i2 hG this)).trans (by show _=some (acc.reverse++[],H);rw[ce])
 |e::E,i,n+1,acc,hd,h=>by
  obtain⟨l1,k1,k2,k3⟩:=h3 (.int e)
  have hx:(E0.map λ(e:Nat)=>V.int e)[i]?=some (.int e):=by rw[iy,← ml,hd];rfl
  have hd2:E0.drop (i+1)=E:=by rw[← mj,hd];rfl
  refine(jn (j6 hG hx) k1 uY (dm (cF aj (dp (db k2) aj (db k3) aj (show _=some (V.str (s.take e),H) from rfl)))) (xR h3 hG E (i+1) n _ hd2 (iz h))).trans ?_
  rw[eM,bZ];rfl
theorem SP{q:Nat}(hs:s.length<=3):Rg (D2 q) [[86]] s 99999 0:=⟨⟨λr key h=>by
 unfold D2 at h
 by_cases e:r=q
 ·rw[if_pos e] at h;cases h;exact .head _
 ·rw[if_neg e] at h;exact nn h,by show 1<1024;decide,by decide,by decide,by exact nl (am [_] (.d ab (.n 3) (.d (.n 1000) ab .z)) rfl hs)⟩,by omega⟩
theorem SQ:Kd [[86]] σ0.vals:=⟨.nil,λx h=>(n7 h).elim⟩
theorem Ch(hs:s.length<=3){n:Nd}(hp:Pw n)(hd:fQ (eR n)<=2)(hz:sz n<100){q:Nat}(hq:H[q]?=some (rm [86]))(b:Bool):∃ H',ae PL (d+11) (bif b then 64 else 59) [nV (iP n q),.str s,.bool true,.loc (H.length+2)] (hB H)=some (.none,H')/\Gr H H'/\H'[H.length+3]?=some (.list (nf s (ends s n 0)))/\∃ fs,H'[H.length+2]?=some (.inst 4 fs)/\eg 14 fs=some (.loc (H.length+3)):=by
  have W1:D2 q q=some [86]:=if_pos rfl
  obtain⟨k',hk,T⟩:=LM (σ:=σ0) hs (ig n hp) hd W1 b
  have x:=L8 hq
  have fin:∀ f,Ca PL (d+11) f [nV (iP n q),.str s,.bool true,.loc (H.length+2)] (hB H) (D2 q) (H.length+2) H.length (H.length+1) (H.length+3) 99999 k' (fo (λe σ=>gO σ [86] (.str (s.take e))) (ends s n 0) σ0) (λH' v=>v=.none)->∃ H',ae PL (d+11) f [nV (iP n q),.str s,.bool true,.loc (H.length+2)] (hB H)=some (.none,H')/\Gr H H'/\H'[H.length+3]?=some (.list (nf s (ends s n 0)))/\∃ fs,H'[H.length+2]?=some (.inst 4 fs)/\eg 14 fs=some (.loc (H.length+3)):=λf C=>by
   obtain⟨v,H',e,x',o,rfl⟩:=C
   refine⟨H',e,⟨bj pj.len o.len,λi hi=>(o.off i (dM hi pj.len) (by exact dt (nl (am [_,_] (.d (.s ab) ac (.d (.a ac (.n 2)) ab .z)) rfl hi))) (by exact dt (nl (am [_,_] (.d (.s ab) ac (.d ac ab .z)) rfl hi))) (by exact dt (nl (am [_,_] (.d (.s ab) ac (.d (.a ac (.n 3)) ab .z)) rfl hi)))).trans (pj.off i hi)⟩,?_,_,x'.host,rfl⟩
   rw[x'.log,Mc];rfl
  induction b with
 |true=>exact fin 64 (sM (own:=Mine.L2.Bq) (d:=d+2) (SP hs).g (an:=true) x T (by omega) (cj _) SQ)
 |false=>
   obtain⟨v,H',e,x',o,r⟩:=ju (n:=iP n q) (own:=Mine.L2.Bq) (d:=d) (SP hs) (an:=true) (by show sz n+1+1+1<150;exact nl (am [_] (.d (.s ab) (.n 100) (.d (.n 150) (.s (.s (.s ab))) .z)) rfl hz)) (.inr (show sm (iP n q) from⟨ph n hp,trivial⟩)) x T (by omega) (cj _) SQ
   exact fin 59 ⟨v,H',e,x',o,r⟩
theorem Ci(hs:s.length<=3){n:Nd}(hp:Pw n)(hd:fQ (eR n)<=2)(hz:sz n<100){q:Nat}(hq:H[q]?=some (rm [86])):∃ v H',ae PL (d+11) 59 [nV n,.str s,.bool true,.loc (H.length+2)] (hB H)=some (v,H')/\Gr H H'/\(((ends s n 0).head?=none/\v=.none)\/∃ e j,(ends s n 0).head?=some e/\v=.tup [.int (0:Nat),.int (e:Nat),.loc j]/\H'[j]?=some (.list [])):=by
  have x:=L8 hq
  obtain⟨k',hk,T⟩:=LN (kp:=D2 q) (σ:=σ0) hs (ig n hp) hd
  obtain⟨v,H',e,x',o,r⟩:=ju (own:=Mine.L2.Bq) (d:=d) (SP hs) (an:=true) (by exact nl (am [_] (.d (.s ab) (.n 100) (.d (.n 150) ab .z)) rfl hz)) (.inr (ph n hp)) x T (by omega) (cj _) SQ
  refine⟨v,H',e,⟨bj pj.len o.len,λi hi=>(o.off i (dM hi pj.len) (by exact dt (nl (am [_,_] (.d (.s ab) ac (.d (.a ac (.n 2)) ab .z)) rfl hi))) (by exact dt (nl (am [_,_] (.d (.s ab) ac (.d ac ab .z)) rfl hi))) (by exact dt (nl (am [_,_] (.d (.s ab) ac (.d (.a ac (.n 3)) ab .z)) rfl hi)))).trans (pj.off i hi)⟩,?_⟩
  generalize (ends s n 0).head?=y at r
  induction y with
 |none=>exact .inl ⟨rfl,r⟩
 |some b=>obtain⟨j,h1,h2,_⟩:=r;exact .inr ⟨b,j,rfl,h1,h2⟩
end
end L2
namespace L2
noncomputable abbrev W2:ME:=.idx (.lit (.str [97,98,40,41])) (.call (.glob (.fn 72)) [.loc 1,.lit (.int 4)])
noncomputable abbrev y0:MS:=.asg (.loc 1) (.lst [(.slice (.loc 0) (.lit .none) (.lit (.int 30)) (.lit .none)),(.lit (.int 0))])
noncomputable abbrev y1:MS:=.asg (.loc 2) (.aS (.lit (.str [])) .join [(.comp (.idx (.lit (.str [97,98,40,41])) (.call (.glob (.fn 72)) [(.loc 1),(.lit (.int 4))])) (.prim .range [(.call (.glob (.fn 72)) [(.loc 1),(.lit (.int 4))])]) (.one 8) 1 [])])
noncomputable abbrev y2:MS:=.asg (.loc 3) (.call (.glob (.fn 74)) [(.loc 1),(.lit (.int 2))])
noncomputable abbrev y3:MS:=.asg (.loc 4) (.tup [(.lit (.str [99,97,116])),(.tup [(.lit (.str [110,111,119])),(.loc 3),(.new 1 [(.lit (.str [118,97,114])),(.lit .none),(.lit (.str [86]))])]),(.tup [(.lit (.str [102,97,105,108]))])])
noncomputable abbrev y4:MS:=.asg (.loc 5) (.comp (.tup [(.lit (.str [86])),(.slice (.loc 2) (.lit .none) (.loc 8) (.lit .none))]) (.call (.glob (.fn 77)) [(.loc 3),(.loc 2),(.lit (.int 0))]) (.one 8) 1 [])
noncomputable abbrev y5:MS:=.for (.one 6) (.tup [(.glob (.fn 64)),(.glob (.fn 59))]) [(.asg (.loc 7) (.new 4 [(.dict []),(.lit (.int 99999)),(.lst [])])),(.ay (.or [(.cmp .eE (.call (.loc 6) [(.loc 4),(.loc 2),(.lit (.bool true)),(.loc 7)]) (.lit .none)),(.cmp .ne (.attr (.loc 7) 14) (.loc 5))]) [(.ret (.lit (.bool false)))] [])]
noncomputable abbrev y6:MS:=.ret (.cmp .eq (.call (.glob (.fn 59)) [(.loc 3),(.loc 2),(.lit (.bool true)),(.new 4 [(.dict []),(.lit (.int 99999)),(.lst [])])]) (.ay (.cmp .ne (.loc 5) (.lst [])) (.tup [(.lit (.int 0)),(.prim .len [(.idx (.idx (.loc 5) (.lit (.int 0))) (.lit (.int 1)))]),(.lst [])]) (.lit .none)))
noncomputable abbrev FW:List MS:=[(.asg (.loc 7) (.new 4 [(.dict []),(.lit (.int 99999)),(.lst [])])),(.ay (.or [(.cmp .eE (.call (.loc 6) [(.loc 4),(.loc 2),(.lit (.bool true)),(.loc 7)]) (.lit .none)),(.cmp .ne (.attr (.loc 7) 14) (.loc 5))]) [(.ret (.lit (.bool false)))] [])]
section
variable {d:Nat}{H:Hp}{cells:List V}{ns:List Int}
theorem OH{a:Int}{H:Hp}(a1:0<=a)(a2:a<4){zg:Prop}(zk:∀ c:Nat,c∈d7->jg H (.str [97,98,40,41]) (.int a)=some (.str [c])->zg):zg:=
 Ix (P:=λa=>(∀ c:Nat,c∈d7->jg H (.str [97,98,40,41]) (.int a)=some (.str [c])->zg)->zg) 0 4 ⟨⟨⟨⟨trivial,λk=>k 97 (by decide) rfl⟩,λk=>k 98 (by decide) rfl⟩,λk=>k 40 (by decide) rfl⟩,λk=>k 41 (by decide) rfl⟩ a a1 a2 zk
noncomputable def W3(d:Nat)(l:Lo)(cells:List V)(k n:Nat)(x:Int)(t:Nat)(acc:List V)(H:Hp):Prop:=
 ∀ zg:Prop,(∀(cs:List Nat)(H':Hp),cs.length=k->(∀ c∈cs,c∈d7)->cP (λl H=>jy PL (ae PL (d+1)) [] l H) (λl H=>av PL (ae PL (d+1)) W2 l H) (.one 8) l n (.cm x 1 k) acc H=some (acc.reverse++kc cs,H')->Fd cells (t+k) H'->F1 H H'->zg)->zg
theorem D3{l:Lo}(hc:cells=ns.map .int)(hl:ns.length<=30)(h1:∀ v,(l.set 8 v)[1]?=some (some (.loc 1)))(k:Nat):∀(n:Nat)(x:Int)(t:Nat)(acc:List V)(H:Hp),k<n->Fd cells t H->t+k<1000->W3 d l cells k n x t acc H:=by
  induction k with
 |zero=>
    intro n x t acc H hn f _ zg zk
    match n,hn with
   |n+1,_=>exact zk [] H rfl (λc h=>(by cases h)) ((lr rfl).trans (by show _=some (acc.reverse++[],H);rw[ce])) f F1.refl
 |succ k ih=>
    intro n x t acc H hn f ht zg zk
    match n,hn with
   |n+1,hn=>
     refine gn (d:=d) (m:=4) f hc hl (by exact nl (am [_,_] (.d (.s (.a ab (.s ac))) (.n 1000) (.d (.n 1000) ab .z)) rfl ht)) (by decide) λa a1 a2 ea=>?_
     refine OH (H:=H.set 1 (.list [.loc 0,.int (t+1:Nat)])) a1 a2 λc vK hx=>?_
     refine ih n (x+1) (t+1) (.str [c]::acc) _ (iz hn) f.step (by exact nl (am [_,_] (.d (.s (.a ab (.s ac))) (.n 1000) (.d (.n 1000) (.a (.s ab) ac) .z)) rfl ht)) _ λcs H' vU ha e f' g=>?_
     refine zk (c::cs) H' (by rw[cw,vU]) (λy hy=>(fm.mp hy).elim (λe=>e▸vK) (ha y)) ((jn rfl rfl uY (bc aj (aG (aX (db (h1 _)) rfl) ea) hx) e).trans ?_) (by rw[show t+(k+1)=t+1+k by exact kS [_,_] (.a ab (.s ac)) (.a (.s ab) ac) rfl];exact f') (F1.set.trans g)
     rw[eM,bZ];rfl
theorem Cj{s:List Nat}(hw:b9 s=true){n:Nd}(hp:Pw n)(hd:fQ (eR n)<=2)(hz:sz n<100){q o5:Nat}{x0 x1:V}{y7:Option V}(hq:H[q]?=some (rm [86]))(h5:H[o5]?=some (.list (nf s (ends s n 0))))(b:Bool):∃ H',aQ PL (ae PL (d+11)) FW [some x0,some x1,some (.str s),some (nV n),some (nV (iP n q)),some (.loc o5),some (.fn (bif b then 64 else 59)),y7] H=some (.next,[some x0,some x1,some (.str s),some (nV n),some (nV (iP n q)),some (.loc o5),some (.fn (bif b then 64 else 59)),some (.loc (H.length+2))],H')/\Gr H H':=by
 have hs:s.length<=3:=of_decide_eq_true (dw _ _▸hw:_/\_).1
 obtain⟨H',ec,g,Jc,fs,W4,W5⟩:=Ch (d:=d) hs hp hd hz hq b
 have L3:lP H' (.loc (H.length+2)) 14=some (.loc (H.length+3)):=aD W4 W5
 have bn:=Cg hw Jc (g.at h5)
 exact⟨H',aV rQ (bx (iT (aq (sW rfl (aX rfl (aX rfl (cF aj rfl))) ec) aj (by rfl)) (iT (aq (aJ rfl L3) rfl bn) oZ)) aL),g⟩
theorem OI(hn:ns.length<=63):∃ H',ae PL 100 78 [.ro (ns.map .int)] []=some (.bool true,H'):=by
 have hc:(ns.map V.int).take 30=(ns.take 30).map .int:=List.map_take.symm
 have hl:(ns.take 30).length<=30:=by rw[zO];omega
 have f0:Fd ((ns.map V.int).take 30) 0 ([]++[O.list ((ns.map V.int).take 30)]++[O.list [V.loc 0,V.int 0]]):=⟨rfl,rfl⟩
 have q0:dD PL (ae PL 99) y0 [some (.ro (ns.map .int)),none,none,none,none,none,none,none] []=some (.next,[some (.ro (ns.map .int)),some (.loc 1),none,none,none,none,none,none],([]++[O.list ((ns.map V.int).take 30)]++[O.list [V.loc 0,V.int 0]])):=(bl (aN rfl) gb)
 refine gn (d:=98) (m:=4) f0 hc hl (by decide) (by decide) λk k0 k1 e1=>?_
 have f1:=f0.step
 refine(D3 (d:=98) (l:=[some (.ro (ns.map .int)),some (.loc 1),none,none,none,none,none,none]++List.replicate 1 none) hc hl (λv=>rfl) k.toNat 1048576 0 1 [] _ (by omega) f1 (by omega)) _ λcs H5 vU W6 e5 f5 g5=>?_
 have qZ:cs.length<=3:=by omega
 have hw:b9 cs=true:=lI.mpr ⟨decide_eq_true qZ,gq.mpr λc h=>List.contains_iff_mem.mpr (W6 c h)⟩
 have Ol:(kc cs).length<=lim:=by rw[kc,cT];unfold lim;exact nt (am [_] (.d ab (.n 3) (.d (.s (.n 1048576)) ab .z)) rfl qZ)
 have LV:=Fc (H:=H5++[O.list (kc cs)]) ai (vL cs) (by rw[qG];unfold lim;exact nt (am [_] (.d ab (.n 3) (.d (.s (.n 1048576)) ab .z)) rfl qZ))
 rw[qG] at LV
 have q1:dD PL (ae PL 99) y1 [some (.ro (ns.map .int)),some (.loc 1),none,none,none,none,none,none] ([]++[O.list ((ns.map V.int).take 30)]++[O.list [V.loc 0,V.int 0]])=some (.next,[some (.ro (ns.map .int)),some (.loc 1),some (.str cs),none,none,none,none,none],H5++[O.list (kc cs)]):=(bl (cn aj (by rfl) (b8 (jS (aT (b8 (aG rfl e1)) (re (by omega))) (Dw (by decide) (by omega) rfl) ((sZ (p:=0) (q:=k) (m:=k.toNat) (by omega)).symm▸e5) (by rw[pv,po];exact Ol))) (by exact LV)) gb)
 have f6:=f5.app [O.list (kc cs)]
 generalize H5++[O.list (kc cs)]=H6 at q1 f6
 obtain⟨n,t3,H7,e3,k3⟩:=fv (D:=94) hc hl 2 (1+k.toNat) H6 f6 (by have:cc 2=14:=rfl;omega)
 have q2:dD PL (ae PL 99) y2 [some (.ro (ns.map .int)),some (.loc 1),some (.str cs),none,none,none,none,none] H6=some (.next,[some (.ro (ns.map .int)),some (.loc 1),some (.str cs),some (nV n),none,none,none,none],H7):=(bl (aG rfl e3) gb)
 have hz:sz n<100:=by have:=k3.sz;have h8:(2:Nat) ^ (2+1)=8:=rfl;exact nl (am [_,_] (.d (.s ab) ac (.d ac (.n 8) (.d (.n 100) ab .z))) rfl this (bk h8))
 have hp:=k3.pw
 have hd:fQ (eR n)<=2:=k3.dep
 have q3:dD PL (ae PL 99) y3 [some (.ro (ns.map .int)),some (.loc 1),some (.str cs),some (nV n),none,none,none,none] H7=some (.next,[some (.ro (ns.map .int)),some (.loc 1),some (.str cs),some (nV n),some (nV (iP n H7.length)),none,none,none],H7++[rm [86]]):=(bl (dm (aX aj (cF (dm (aX aj (cF rfl (j5 rfl rfl II)))) (dm (b8 aj))))) gb)
 have hq:(H7++[rm [86]])[H7.length]?=some (rm [86]):=ai
 generalize H7++[rm [86]]=H8 at q3 hq
 generalize H7.length=q at q3 hq
 have W7:=rP n
 obtain⟨o1,H9,e4,h9,g9,_⟩:=L6 hw n hp hd 99 0 H8 (by exact nt (am [_,_] (.c 5 ab (.n 2) (.d ac (.a (.n 3) (.m 5 ab)) (.d (.s (.n 99)) ac .z))) rfl hd W7)) (cj _)
 have UW:=i5 qZ (ig n hp) hd (a:=0) (cj _)
 have ii:=xR (d:=99) (s:=cs) (H:=H9) (G:=o1) (l0:=[some (.ro (ns.map .int)),some (.loc 1),some (.str cs),some (nV n),some (nV (iP n q)),none,none,none]++List.replicate 1 none) (λv=>⟨_,rfl,rfl,rfl⟩) h9 (ends cs n 0) 0 1048576 [] rfl (by exact nl (am [_] (.d ab (.n 99999) (.d (.n 1048576) ab .z)) rfl UW))
 rw[pv,po] at ii
 have UT:(nf cs (ends cs n 0)).length<=lim:=by rw[cT];unfold lim;exact nt (am [_] (.d ab (.n 99999) (.d (.s (.n 1048576)) ab .z)) rfl UW)
 have q4:dD PL (ae PL 99) y4 [some (.ro (ns.map .int)),some (.loc 1),some (.str cs),some (nV n),some (nV (iP n q)),none,none,none] H8=some (.next,[some (.ro (ns.map .int)),some (.loc 1),some (.str cs),some (nV n),some (nV (iP n q)),some (.loc H9.length),none,none],H9++[O.list (nf cs (ends cs n 0))]):=(bl (jS (aG rfl e4) (gN h9) ii UT) gb)
 have OJ:(H9++[O.list (nf cs (ends cs n 0))])[q]?=some (rm [86]):=ag (g9.at hq)
 have h5:(H9++[O.list (nf cs (ends cs n 0))])[H9.length]?=some (.list (nf cs (ends cs n 0))):=ai
 generalize H9++[O.list (nf cs (ends cs n 0))]=HA at q4 OJ h5
 generalize H9.length=o5 at q4 h5
 obtain⟨HB,t1,gB⟩:=Cj (d:=88) (x0:=.ro (ns.map .int)) (x1:=.loc 1) (y7:=none) hw hp hd hz OJ h5 true
 obtain⟨HC,t2,gC⟩:=Cj (d:=88) (x0:=.ro (ns.map .int)) (x1:=.loc 1) (y7:=some (.loc (HA.length+2))) hw hp hd hz (gB.at OJ) (gB.at h5) false
 have UX:dF (.one 6) (λl H=>aQ PL (ae PL 99) FW l H) 1048576 (.seq [.fn 64,.fn 59]) [some (.ro (ns.map .int)),some (.loc 1),some (.str cs),some (nV n),some (nV (iP n q)),some (.loc o5),none,none] HA=some (.next,_,HC):=jo (n:=1048575) rfl rfl t1 (jo (n:=1048574) rfl rfl t2 (lu (n:=1048573) rfl))
 obtain⟨v,HD,e6,gD,hv⟩:=Ci (d:=88) (H:=HC) qZ hp hd hz ((gB.trans gC).at OJ)
 have Md:=gD.at ((gB.trans gC).at h5)
 have fin:∃ l HE,aQ PL (ae PL 99) [y6] [some (.ro (ns.map .int)),some (.loc 1),some (.str cs),some (nV n),some (nV (iP n q)),some (.loc o5),some (.fn 59),some (.loc (HB.length+2))] HC=some (.ret (.bool true),l,HE):=by
  rcases hv with⟨he,rfl⟩|⟨e,j,he,rfl,hj⟩
  ·have UY:ends cs n 0=[]:=List.head?_eq_none_iff.mp he
   rw[UY] at Md
   have h1:cE (HD++[O.list []]) .ne (.loc o5) (.loc HD.length)=some false:=Cg (s:=cs) (E:=[]) hw (ag Md) ai
   exact⟨_,_,az (aq (aG (aX rfl (aX rfl (cF aj rQ))) e6) (aR (aq rfl (aN aW) h1) aj) SO)⟩
  ·obtain⟨r,hr⟩:∃ r,ends cs n 0=e::r:=by
     cases hx:ends cs n 0 with
    |nil=>rw[hx] at he;cases he
    |cons a r=>rw[hx] at he;cases he;exact⟨r,rfl⟩
   have Iu:=dL cs n 0 (cj _) e (by rw[hr];exact .head _)
   rw[hr] at Md
   have h1:cE (HD++[O.list []]) .ne (.loc o5) (.loc HD.length)=some true:=Mb (s:=cs) hw (ag Md) ai
   have h2:jg (HD++[O.list []]) (.loc o5) (.int 0)=some (.tup [.str [86],.str (cs.take e)]):=cQ (ag Md) rfl
   have h3:gE .len [.str (cs.take e)] (HD++[O.list []])=some (.int (e:Nat),HD++[O.list []]):=by
     show some (V.int ((cs.take e).length:Nat),HD++[O.list []])=_
     rw[zO,Nat.min_eq_left Iu.2]
   have h4:=OG (H:=HD++[O.list []]++[O.list []]) (e:=e) (i:=j) (j:=(HD++[O.list []]).length) (ag (ag hj)) ai
   exact⟨_,_,az (aq (aG (aX rfl (aX rfl (cF aj rQ))) e6) (be (aq rfl (aN aW) h1) (dm (aX aj (cF (aT (b8 (bc (bc rfl aj h2) aj rfl)) h3) (aN aW))))) h4)⟩
 obtain⟨l,HE,e7⟩:=fin
 exact⟨HE,af rfl rfl (ak q0 (ak q1 (ak q2 (ak q3 (ak q4 (ak (fA rfl (by rfl) UX) e7))))))⟩
end
end L2
end Mine.Q
set_option maxRecDepth 100000
namespace Mine
namespace HD
noncomputable abbrev PW:Program:=PySem.Challenge.rw_sa0605_02.row.toRowW.1
noncomputable def bd:List Stmt:=PW.main.body
noncomputable def st(k:Nat):Stmt:=bd.getD k default
noncomputable def cB:Stmt->List Stmt|.ClassDef _ _ _ b _ _ _ _ _ _ _=>b|_=>[]
noncomputable def sc(k j:Nat):Stmt:=(cB (st k)).getD j default
noncomputable def OK:Stmt->Arguments|.FunctionDef _ a _ _ _ _ _ _ _ _=>a|_=>default
noncomputable def OL:Stmt->List Stmt|.FunctionDef _ _ b _ _ _ _ _ _ _=>b|_=>[]
noncomputable def OM:Stmt->Scope|.FunctionDef _ _ _ _ _ _ s _ _ _=>s|_=>default
noncomputable abbrev S(x:String):Str:=Str.ofString x
noncomputable abbrev s(x:String)(n:Nat):Value:=.str (S x) n
noncomputable abbrev r(n:Nat):Value:=.ref n
noncomputable abbrev i(n k:Nat):Value:=.int (.ofNat n) k
noncomputable abbrev KH:=PyData.keyHash
noncomputable abbrev E(P:Params)(x:String)(n:Nat)(v:Value):DictEntry:=⟨PyData.keyHash P (S x),.str (S x) n,v⟩
noncomputable abbrev N:=BT.node
noncomputable abbrev z:=BT.nil
noncomputable abbrev N0:Value:=.none
noncomputable abbrev vi(n k:Nat):Value:=.int (.ofNat n) k
noncomputable abbrev VT:=Value.type
noncomputable abbrev VB:=Value.builtin
noncomputable abbrev TU:Value:=.type "tuple"
noncomputable abbrev j(k:Nat):Value:=vi k 0
noncomputable abbrev j0:Value:=vi 0 0
noncomputable abbrev u(n:Nat):Value:=s "/claim/cut.py" n
noncomputable abbrev bt:Value:=.bool true
noncomputable abbrev bf:Value:=.bool false
noncomputable abbrev Ck:Value:=VB "__main__.__loader__#opaque"
noncomputable abbrev fl(t:Value)(l:List Value):Obj:=⟨t,none,.fields ⟨l⟩,⟨[]⟩⟩
noncomputable abbrev sq(l:List Value):Obj:=⟨TU,none,.seq ⟨l⟩ 0,⟨[]⟩⟩
noncomputable abbrev di(l:List DictEntry)(n:Nat):Obj:=⟨VT "dict",none,.dict ⟨l⟩ n,⟨[]⟩⟩
noncomputable abbrev f0(a b:String)(x:Stmt):Obj:=⟨N0,none,.func ⟨S a,S b,OK x,.stmts (OL x),OM x,0,[],N0,N0,N0,N0,none,N0,N0,0⟩,⟨[]⟩⟩
noncomputable abbrev f1(a b:String)(x:Stmt)(n:Nat)(m:Value)(k:Nat):Obj:=⟨VT "function",none,.func ⟨S a,S b,OK x,.stmts (OL x),OM x,n,[],N0,N0,N0,m,none,r k,N0,0⟩,⟨[]⟩⟩
noncomputable def alt:Bool->List Obj->List Obj
 |_,[]=>[]
 |true,a::r=>a::alt false r
 |false,_::r=>alt true r
noncomputable def me:Nat->List Obj->BT
 |0,_=>z
 |_,[]=>z
 |n+1,a::r=>N a (me n (alt true r)) (me n (alt false r))
noncomputable def sL:List String->Nat->List Value
 |[],_=>[]
 |a::r,n=>s a n::sL r (n+1)
noncomputable def tr:List (Nat×Nat×Nat)->List Value
 |[]=>[]
 |(a,b,c)::l=>j a::j b::r c::tr l
noncomputable abbrev xa(b:Nat):List Value:=[r b,bt,j 181,r (b+1),N0,r (b+2),r (b+3),r (b+4)]
noncomputable abbrev cq(a b:String)(n l k f:Nat)(x:List Value)(m:Nat):Obj:=fl (VT "code") ([s a n,s b (n+1),u (n+2),j l,j k,j0,j0,j f]++x++[j m,j l,u (m+1)])
noncomputable abbrev co(a:String)(n l k f:Nat)(x:List Value)(m:Nat):Obj:=cq a a n l k f x m
noncomputable abbrev g0(a:String)(k:Nat):Obj:=f0 a a (st k)
noncomputable abbrev g1(a:String)(k:Nat)(m:Value)(i:Nat):Obj:=f1 a a (st k) 3 m i
noncomputable def aB:Obj:=sq []
noncomputable def bv:Obj:=fl N0 []
noncomputable def SS(P:Params):List Obj:=[boot_o_0 P,boot_o_1 P,boot_o_2 P,boot_o_3 P,boot_o_4 P,boot_o_5 P,boot_o_6 P,boot_o_7 P,boot_o_8 P,boot_o_9 P,boot_o_10 P,aB,bv,co "<module>" 182 1 0 0 [(r 11),bf,(j 181),(r 12),N0,N0,N0,N0] 185,⟨(VT "frame"),none,Data.plain,⟨[(some (r 13)),(some (r 3)),(some (r 3)),none,(some (s "__main__" 164)),none,(some (r 0))]⟩⟩]
noncomputable def UZ(P:Params):BT:=me 12 (SS P)
noncomputable def U0(P:Params):List DictEntry:=[E P "__name__" 165 (s "snobol.compile_pattern" 187),E P "__doc__" 166 N0,E P "__package__" 167 N0,E P "__loader__" 168 Ck,E P "__spec__" 169 N0,E P "__annotations__" 170 (r 6),E P "__builtins__" 171 (r 4),E P "__file__" 173 (u 172),E P "__cached__" 174 N0,E P "ONE" 190 (s "one" 189),E P "WAYS" 192 (s "ways" 191),E P "SPLIT" 194 (s "split" 193),E P "JUMP" 196 (s "jump" 195),E P "MARK" 198 (s "mark" 197),E P "NAME" 200 (s "name" 199),E P "SET" 202 (s "set" 201),E P "GAIN" 204 (s "gain" 203),E P "PLACE" 206 (s "place" 205),E P "ASK" 208 (s "ask" 207),E P "FENCE" 210 (s "fence" 209),E P "FAIL" 212 (s "fail" 211),E P "ABORT" 214 (s "abort" 213),E P "SUCCEED" 216 (s "succeed" 215),E P "DONE" 218 (s "done" 217),E P "PUT" 220 (s "put" 219),E P "EMIT" 222 (s "emit" 221),E P "OPEN" 224 (s "open" 223),E P "SHUT" 226 (s "shut" 225),E P "MEET" 228 (s "meet" 227),E P "SINGLE" 240 (r 15),E P "ALONE" 245 (r 16),E P "row_of" 256 (r 23),E P "is_plain_text" 263 (r 30),E P "with_texts_joined" 272 (r 37)]
noncomputable def U1:List (Nat×Nat×Nat):=[(24,0,22),(33,0,29),(35,0,36)]
noncomputable abbrev m0:Value:=s "snobol.compile_pattern" 187
noncomputable def U2(P:Params):List Obj:=(((SS P).set 3 (di (U0 P) 34)).set 12 (fl N0 (tr U1)))++[sq (sL ["chars","len","pos","rpos","tab","rtab","any","notany","span","break","rem"] 229),sq (sL ["fence","fail","abort","succeed"] 241),aB,bv,sq (sL ["node","kind","found","waiting","part"] 249),aB,g0 "row_of" 23,co "row_of" 246 24 2 3 (xa 17) 254,g1 "row_of" 23 m0 22,aB,bv,sq [(s "node" 260)],aB,g0 "is_plain_text" 24,co "is_plain_text" 257 33 1 3 (xa 24) 261,g1 "is_plain_text" 24 m0 29,aB,bv,sq (sL ["parts","found","part"] 267),aB,g0 "with_texts_joined" 25,co "with_texts_joined" 264 35 1 3 (xa 31) 270,g1 "with_texts_joined" 25 m0 36]
noncomputable def U3(P:Params):BT:=me 12 (U2 P)
noncomputable def W8(P:Params):List DictEntry:=(U0 P)++[E P "PatternCode" 356 (r 94)]
noncomputable def W9:List (Nat×Nat×Nat):=U1++[(45,0,43)]
noncomputable def zH:Obj:=fl (VT "builtin_function_or_method") [(VB "type.__prepare__"),(VT "type")]
noncomputable def Xa(P:Params):List DictEntry:=[E P "__module__" 280 (s "snobol.compile_pattern" 187),E P "__qualname__" 282 (s "PatternCode" 281),E P "__firstlineno__" 284 (vi 45 283),E P "__init__" 291 (r 51),E P "emit" 299 (r 58),E P "put" 310 (r 65),E P "begun" 316 (r 70),E P "choice" 327 (r 77),E P "repeat" 337 (r 84),E P "bound" 347 (r 91),E P "__static_attributes__" 349 (r 92)]
noncomputable def Xb:List (Nat×Nat×Nat):=[(47,4,50),(50,4,57),(54,4,64),(65,4,69),(84,4,76),(90,4,83),(97,4,90)]
noncomputable def Xc(P:Params):List DictEntry:=[E P "__module__" 280 (s "snobol.compile_pattern" 187),E P "__firstlineno__" 284 (vi 45 283),E P "__init__" 291 (r 51),E P "emit" 299 (r 58),E P "put" 310 (r 65),E P "begun" 316 (r 70),E P "choice" 327 (r 77),E P "repeat" 337 (r 84),E P "bound" 347 (r 91),E P "__static_attributes__" 349 (r 92),E P "__dict__" 351 (r 95),E P "__weakref__" 353 (r 96),E P "__doc__" 354 N0]
noncomputable def Pt(P:Params):List Obj:=(((U2 P).set 3 (di (W8 P) 35)).set 12 (fl N0 (tr W9)))++[aB,zH,di (Xa P) 11,aB,fl N0 (tr Xb),co "PatternCode" 275 45 0 0 [(r 41),bf,(j 181),(r 42),N0,N0,N0,N0] 278,⟨(VT "frame"),none,Data.plain,⟨[(some (r 43)),(some (r 3)),(some (r 40)),none,(some (s "snobol.compile_pattern" 187)),none,(some (r 0))]⟩⟩,aB,bv,sq [(s "self" 288)],aB,f0 "__init__" "PatternCode.__init__" (sc 26 0),cq "__init__" "PatternCode.__init__" 285 47 1 3 (xa 45) 289,f1 "__init__" "PatternCode.__init__" (sc 26 0) 3 m0 50,aB,bv,sq (sL ["self","order"] 295),aB,f0 "emit" "PatternCode.emit" (sc 26 1),cq "emit" "PatternCode.emit" 292 50 2 3 (xa 52) 297,f1 "emit" "PatternCode.emit" (sc 26 1) 3 m0 57,aB,bv,sq (sL ["self","node","waiting","word","told"] 303),aB,f0 "put" "PatternCode.put" (sc 26 2),cq "put" "PatternCode.put" 300 54 2 3 (xa 59) 308,f1 "put" "PatternCode.put" (sc 26 2) 3 m0 64,aB,bv,f0 "begun" "PatternCode.begun" (sc 26 3),cq "begun" "PatternCode.begun" 311 65 2 3 [(r 66),bt,(j 181),(r 67),N0,N0,N0,(r 68)] 314,f1 "begun" "PatternCode.begun" (sc 26 3) 3 m0 69,aB,bv,sq (sL ["self","parts","found","ends","part"] 320),aB,f0 "choice" "PatternCode.choice" (sc 26 4),cq "choice" "PatternCode.choice" 317 84 2 3 (xa 71) 325,f1 "choice" "PatternCode.choice" (sc 26 4) 3 m0 76,aB,bv,sq (sL ["self","node","split","leave"] 331),aB,f0 "repeat" "PatternCode.repeat" (sc 26 5),cq "repeat" "PatternCode.repeat" 328 90 2 3 (xa 78) 335,f1 "repeat" "PatternCode.repeat" (sc 26 5) 3 m0 83,aB,bv,sq (sL ["self","word","ends","at"] 341),aB,f0 "bound" "PatternCode.bound" (sc 26 6),cq "bound" "PatternCode.bound" 338 97 3 3 (xa 85) 345,f1 "bound" "PatternCode.bound" (sc 26 6) 3 m0 90,sq [(s "orders" 348)],di (Xc P) 4,⟨(VT "type"),none,(.cls ⟨(S "PatternCode"),[(VT "object")],[(r 94),(VT "object")],93,(S "PatternCode"),true,[],[],false,none,false⟩),⟨[none,none,(some (s "PatternCode" 273)),(some (s "PatternCode" 281)),(some (VB "object.__new__")),(some bt)]⟩⟩,fl (VT "getset_descriptor") [(s "__dict__" 350),(r 94),(VB "function.__dict__"),(VB "function.__dict__#set")],fl (VT "getset_descriptor") [(s "__weakref__" 352),(r 94),(VB "ExceptionGroup.__weakref__"),N0],fl (VT "super") [(r 94),(r 94),(r 94)],fl (VT "builtin_function_or_method") [(VB "object.__init_subclass__"),(r 94)]]
noncomputable def Pu(P:Params):BT:=me 12 (Pt P)
noncomputable def U4(P:Params):List DictEntry:=[E P "__name__" 165 (s "snobol.values" 375),E P "__doc__" 166 N0,E P "__package__" 167 N0,E P "__loader__" 168 Ck,E P "__spec__" 169 N0,E P "__annotations__" 170 (r 6),E P "__builtins__" 171 (r 4),E P "__file__" 173 (u 172),E P "__cached__" 174 N0,E P "ONE" 190 (s "one" 189),E P "WAYS" 192 (s "ways" 191),E P "SPLIT" 194 (s "split" 193),E P "JUMP" 196 (s "jump" 195),E P "MARK" 198 (s "mark" 197),E P "NAME" 200 (s "name" 199),E P "SET" 202 (s "set" 201),E P "GAIN" 204 (s "gain" 203),E P "PLACE" 206 (s "place" 205),E P "ASK" 208 (s "ask" 207),E P "FENCE" 210 (s "fence" 209),E P "FAIL" 212 (s "fail" 211),E P "ABORT" 214 (s "abort" 213),E P "SUCCEED" 216 (s "succeed" 215),E P "DONE" 218 (s "done" 217),E P "PUT" 220 (s "put" 219),E P "EMIT" 222 (s "emit" 221),E P "OPEN" 224 (s "open" 223),E P "SHUT" 226 (s "shut" 225),E P "MEET" 228 (s "meet" 227),E P "SINGLE" 240 (r 15),E P "ALONE" 245 (r 16),E P "row_of" 256 (r 23),E P "is_plain_text" 263 (r 30),E P "with_texts_joined" 272 (r 37),E P "PatternCode" 356 (r 94),E P "straightened" 366 (r 105),E P "compile_pattern" 374 (r 112),E P "SnobolError" 410 (r 132)]
noncomputable def Xd:List (Nat×Nat×Nat):=[(24,0,22),(33,0,29),(35,0,36),(45,0,43),(106,0,104),(116,0,111),(122,0,119)]
noncomputable def Px(P:Params):List Obj:=((((Pt P).set 2 (⟨N0,none,(.dict ⟨[E P "type.__subclasses__.Exception.0" 407 (j 132),E P "type.__subclasses__.Exception.n" 408 (j 1)]⟩ 2),⟨[]⟩⟩)).set 3 (di (U4 P) 38)).set 12 (fl N0 (tr Xd)))++[aB,bv,sq (sL ["orders","found","order","goal"] 360),aB,g0 "straightened" 27,co "straightened" 357 106 1 3 (xa 99) 364,g1 "straightened" 27 m0 104,aB,bv,sq (sL ["node","code"] 370),aB,g0 "compile_pattern" 28,co "compile_pattern" 367 116 1 3 (xa 106) 372,g1 "compile_pattern" 28 m0 111,sq [(VT "Exception")],zH,di [E P "__module__" 384 (s "snobol.values" 375),E P "__qualname__" 386 (s "SnobolError" 385),E P "__firstlineno__" 388 (vi 122 387),E P "__init__" 399 (r 129),E P "__static_attributes__" 402 (r 130),E P "__classcell__" 403 (r 116)] 6,⟨(VT "cell"),none,(.cell (some (r 132))),⟨[]⟩⟩,aB,fl N0 [(j 124),(j 4),(r 128)],co "SnobolError" 379 122 0 0 [(r 117),bf,(j 181),(r 118),N0,N0,N0,N0] 382,⟨(VT "frame"),none,Data.plain,⟨[(some (r 119)),(some (r 3)),(some (r 115)),none,(some (s "snobol.values" 375)),none,(some (r 0))]⟩⟩,sq [(s "" 389)],sq [(r 116)],sq [(s "__class__" 393)],bv,sq (sL ["self","number","told"] 394),aB,f0 "__init__" "SnobolError.__init__" (sc 30 0),cq "__init__" "SnobolError.__init__" 390 124 3 3 (xa 123) 397,⟨(VT "function"),none,(.func ⟨(S "__init__"),(S "SnobolError.__init__"),OK (sc 30 0),.stmts (OL (sc 30 0)),OM (sc 30 0),3,[((S "__class__"),116)],(r 121),N0,N0,(s "snobol.values" 375),none,(r 128),(r 122),0⟩),⟨[]⟩⟩,sq (sL ["number","told"] 400),di [E P "__module__" 384 (s "snobol.values" 375),E P "__firstlineno__" 388 (vi 122 387),E P "__init__" 399 (r 129),E P "__static_attributes__" 402 (r 130),E P "__weakref__" 405 (r 133),E P "__doc__" 406 N0] 4,⟨(VT "type"),none,(.cls ⟨(S "SnobolError"),[(VT "Exception")],[(r 132),(VT "Exception"),(VT "BaseException"),(VT "object")],131,(S "SnobolError"),true,[],[],false,none,false⟩),⟨[(some (r 113)),none,(some (s "SnobolError" 377)),(some (s "SnobolError" 385)),(some (VB "Exception.__new__")),(some bt)]⟩⟩,fl (VT "getset_descriptor") [(s "__weakref__" 404),(r 132),(VB "ExceptionGroup.__weakref__"),N0],fl (VT "super") [(r 132),(r 132),(r 132)],fl (VT "builtin_function_or_method") [(VB "object.__init_subclass__"),(r 132)]]
noncomputable def Py(P:Params):BT:=me 12 (Px P)
noncomputable def Pz(P:Params):List DictEntry:=(U4 P)++[E P "Failure" 430 (r 145)]
noncomputable def PA:List (Nat×Nat×Nat):=[(24,0,22),(33,0,29),(35,0,36),(45,0,43),(106,0,104),(116,0,111),(122,0,119),(128,0,141)]
noncomputable def PB(P:Params):List Obj:=(((Px P).set 3 (di (Pz P) 39)).set 12 (fl N0 (tr PA)))++[aB,zH,di [E P "__module__" 418 (s "snobol.values" 375),E P "__qualname__" 420 (s "Failure" 419),E P "__firstlineno__" 422 (vi 128 421),E P "__static_attributes__" 423 (r 143)] 4,aB,bv,co "Failure" 413 128 0 0 [(r 139),bf,(j 181),(r 140),N0,N0,N0,N0] 416,⟨(VT "frame"),none,Data.plain,⟨[(some (r 141)),(some (r 3)),(some (r 138)),none,(some (s "snobol.values" 375)),none,(some (r 0))]⟩⟩,aB,di [E P "__module__" 418 (s "snobol.values" 375),E P "__firstlineno__" 422 (vi 128 421),E P "__static_attributes__" 423 (r 143),E P "__dict__" 425 (r 146),E P "__weakref__" 427 (r 147),E P "__doc__" 428 N0] 4,⟨(VT "type"),none,(.cls ⟨(S "Failure"),[(VT "object")],[(r 145),(VT "object")],144,(S "Failure"),true,[],[],false,none,false⟩),⟨[none,none,(some (s "Failure" 411)),(some (s "Failure" 419)),(some (VB "object.__new__")),(some bt)]⟩⟩,fl (VT "getset_descriptor") [(s "__dict__" 424),(r 145),(VB "function.__dict__"),(VB "function.__dict__#set")],fl (VT "getset_descriptor") [(s "__weakref__" 426),(r 145),(VB "ExceptionGroup.__weakref__"),N0],fl (VT "super") [(r 145),(r 145),(r 145)],fl (VT "builtin_function_or_method") [(VB "object.__init_subclass__"),(r 145)]]
noncomputable def PC(P:Params):BT:=me 12 (PB P)
noncomputable def U5(P:Params):List DictEntry:=(Pz P)++[E P "Pattern" 459 (r 166)]
noncomputable def PD:List (Nat×Nat×Nat):=PA++[(130,0,155)]
noncomputable abbrev m1:Value:=s "snobol.values" 375
noncomputable def U6(P:Params):List DictEntry:=[E P "__module__" 438 (s "snobol.values" 375),E P "__firstlineno__" 442 (vi 130 441),E P "__init__" 450 (r 163),E P "__static_attributes__" 452 (r 164),E P "__dict__" 454 (r 167),E P "__weakref__" 456 (r 168),E P "__doc__" 457 N0]
noncomputable def PE(P:Params):List Obj:=(((PB P).set 3 (di (U5 P) 40)).set 12 (fl N0 (tr PD)))++[aB,zH,di [E P "__module__" 438 (s "snobol.values" 375),E P "__qualname__" 440 (s "Pattern" 439),E P "__firstlineno__" 442 (vi 130 441),E P "__init__" 450 (r 163),E P "__static_attributes__" 452 (r 164)] 5,aB,fl N0 [(j 132),(j 4),(r 162)],co "Pattern" 433 130 0 0 [(r 153),bf,(j 181),(r 154),N0,N0,N0,N0] 436,⟨(VT "frame"),none,Data.plain,⟨[(some (r 155)),(some (r 3)),(some (r 152)),none,(some (s "snobol.values" 375)),none,(some (r 0))]⟩⟩,aB,bv,sq (sL ["self","node"] 446),aB,f0 "__init__" "Pattern.__init__" (sc 32 0),cq "__init__" "Pattern.__init__" 443 132 2 3 (xa 157) 448,f1 "__init__" "Pattern.__init__" (sc 32 0) 3 m1 162,sq [(s "node" 451)],di (U6 P) 4,⟨(VT "type"),none,(.cls ⟨(S "Pattern"),[(VT "object")],[(r 166),(VT "object")],165,(S "Pattern"),true,[],[],false,none,false⟩),⟨[none,none,(some (s "Pattern" 431)),(some (s "Pattern" 439)),(some (VB "object.__new__")),(some bt)]⟩⟩,fl (VT "getset_descriptor") [(s "__dict__" 453),(r 166),(VB "function.__dict__"),(VB "function.__dict__#set")],fl (VT "getset_descriptor") [(s "__weakref__" 455),(r 166),(VB "ExceptionGroup.__weakref__"),N0],fl (VT "super") [(r 166),(r 166),(r 166)],fl (VT "builtin_function_or_method") [(VB "object.__init_subclass__"),(r 166)]]
noncomputable def PF(P:Params):BT:=me 12 (PE P)
noncomputable def U7(P:Params):List DictEntry:=[E P "__name__" 165 (s "snobol.values" 375),E P "__doc__" 166 N0,E P "__package__" 167 N0,E P "__loader__" 168 Ck,E P "__spec__" 169 N0,E P "__annotations__" 170 (r 6),E P "__builtins__" 171 (r 4),E P "__file__" 173 (u 172),E P "__cached__" 174 N0,E P "ONE" 190 (s "one" 189),E P "WAYS" 192 (s "ways" 191),E P "SPLIT" 194 (s "split" 193),E P "JUMP" 196 (s "jump" 195),E P "MARK" 198 (s "mark" 197),E P "NAME" 200 (s "name" 199),E P "SET" 202 (s "set" 201),E P "GAIN" 204 (s "gain" 203),E P "PLACE" 206 (s "place" 205),E P "ASK" 208 (s "ask" 207),E P "FENCE" 210 (s "fence" 209),E P "FAIL" 212 (s "fail" 211),E P "ABORT" 214 (s "abort" 213),E P "SUCCEED" 216 (s "succeed" 215),E P "DONE" 218 (s "done" 217),E P "PUT" 220 (s "put" 219),E P "EMIT" 222 (s "emit" 221),E P "OPEN" 224 (s "open" 223),E P "SHUT" 226 (s "shut" 225),E P "MEET" 228 (s "meet" 227),E P "SINGLE" 240 (r 15),E P "ALONE" 245 (r 16),E P "row_of" 256 (r 23),E P "is_plain_text" 263 (r 30),E P "with_texts_joined" 272 (r 37),E P "PatternCode" 356 (r 94),E P "straightened" 366 (r 105),E P "compile_pattern" 374 (r 112),E P "SnobolError" 410 (r 132),E P "Failure" 430 (r 145),E P "Pattern" 459 (r 166),E P "Delayed" 488 (r 187)]
noncomputable def PG:List (Nat×Nat×Nat):=PD++[(134,0,176)]
noncomputable def U8(P:Params):List DictEntry:=[E P "__module__" 467 (s "snobol.values" 375),E P "__firstlineno__" 471 (vi 134 470),E P "__init__" 479 (r 184),E P "__static_attributes__" 481 (r 185),E P "__dict__" 483 (r 188),E P "__weakref__" 485 (r 189),E P "__doc__" 486 N0]
noncomputable def PH(P:Params):List Obj:=(((PE P).set 3 (di (U7 P) 41)).set 12 (fl N0 (tr PG)))++[aB,zH,di [E P "__module__" 467 (s "snobol.values" 375),E P "__qualname__" 469 (s "Delayed" 468),E P "__firstlineno__" 471 (vi 134 470),E P "__init__" 479 (r 184),E P "__static_attributes__" 481 (r 185)] 5,aB,fl N0 [(j 136),(j 4),(r 183)],co "Delayed" 462 134 0 0 [(r 174),bf,(j 181),(r 175),N0,N0,N0,N0] 465,⟨(VT "frame"),none,Data.plain,⟨[(some (r 176)),(some (r 3)),(some (r 173)),none,(some (s "snobol.values" 375)),none,(some (r 0))]⟩⟩,aB,bv,sq (sL ["self","tree"] 475),aB,f0 "__init__" "Delayed.__init__" (sc 33 0),cq "__init__" "Delayed.__init__" 472 136 2 3 (xa 178) 477,f1 "__init__" "Delayed.__init__" (sc 33 0) 3 m1 183,sq [(s "tree" 480)],di (U8 P) 4,⟨(VT "type"),none,(.cls ⟨(S "Delayed"),[(VT "object")],[(r 187),(VT "object")],186,(S "Delayed"),true,[],[],false,none,false⟩),⟨[none,none,(some (s "Delayed" 460)),(some (s "Delayed" 468)),(some (VB "object.__new__")),(some bt)]⟩⟩,fl (VT "getset_descriptor") [(s "__dict__" 482),(r 187),(VB "function.__dict__"),(VB "function.__dict__#set")],fl (VT "getset_descriptor") [(s "__weakref__" 484),(r 187),(VB "ExceptionGroup.__weakref__"),N0],fl (VT "super") [(r 187),(r 187),(r 187)],fl (VT "builtin_function_or_method") [(VB "object.__init_subclass__"),(r 187)]]
noncomputable def PI(P:Params):BT:=me 12 (PH P)
noncomputable def U9(P:Params):List DictEntry:=[E P "__name__" 165 (s "snobol.values" 375),E P "__doc__" 166 N0,E P "__package__" 167 N0,E P "__loader__" 168 Ck,E P "__spec__" 169 N0,E P "__annotations__" 170 (r 6),E P "__builtins__" 171 (r 4),E P "__file__" 173 (u 172),E P "__cached__" 174 N0,E P "ONE" 190 (s "one" 189),E P "WAYS" 192 (s "ways" 191),E P "SPLIT" 194 (s "split" 193),E P "JUMP" 196 (s "jump" 195),E P "MARK" 198 (s "mark" 197),E P "NAME" 200 (s "name" 199),E P "SET" 202 (s "set" 201),E P "GAIN" 204 (s "gain" 203),E P "PLACE" 206 (s "place" 205),E P "ASK" 208 (s "ask" 207),E P "FENCE" 210 (s "fence" 209),E P "FAIL" 212 (s "fail" 211),E P "ABORT" 214 (s "abort" 213),E P "SUCCEED" 216 (s "succeed" 215),E P "DONE" 218 (s "done" 217),E P "PUT" 220 (s "put" 219),E P "EMIT" 222 (s "emit" 221),E P "OPEN" 224 (s "open" 223),E P "SHUT" 226 (s "shut" 225),E P "MEET" 228 (s "meet" 227),E P "SINGLE" 240 (r 15),E P "ALONE" 245 (r 16),E P "row_of" 256 (r 23),E P "is_plain_text" 263 (r 30),E P "with_texts_joined" 272 (r 37),E P "PatternCode" 356 (r 94),E P "straightened" 366 (r 105),E P "compile_pattern" 374 (r 112),E P "SnobolError" 410 (r 132),E P "Failure" 430 (r 145),E P "Pattern" 459 (r 166),E P "Delayed" 488 (r 187),E P "NameRef" 521 (r 208),E P "is_fail" 528 (r 219),E P "fits" 536 (r 226),E P "whole_of_text" 547 (r 233),E P "text_of_whole" 556 (r 240),E P "to_whole" 564 (r 247)]
noncomputable def PJ:List (Nat×Nat×Nat):=PG++[(138,0,197),(144,0,218),(146,0,225),(148,0,232),(161,0,239),(167,0,246)]
noncomputable def Va(P:Params):List DictEntry:=[E P "__module__" 496 (s "snobol.values" 375),E P "__firstlineno__" 500 (vi 138 499),E P "__init__" 510 (r 205),E P "__static_attributes__" 514 (r 206),E P "__dict__" 516 (r 209),E P "__weakref__" 518 (r 210),E P "__doc__" 519 N0]
noncomputable def PK(P:Params):List Obj:=(((PH P).set 3 (di (U9 P) 47)).set 12 (fl N0 (tr PJ)))++[aB,zH,di [E P "__module__" 496 (s "snobol.values" 375),E P "__qualname__" 498 (s "NameRef" 497),E P "__firstlineno__" 500 (vi 138 499),E P "__init__" 510 (r 205),E P "__static_attributes__" 514 (r 206)] 5,aB,fl N0 [(j 140),(j 4),(r 204)],co "NameRef" 491 138 0 0 [(r 195),bf,(j 181),(r 196),N0,N0,N0,N0] 494,⟨(VT "frame"),none,Data.plain,⟨[(some (r 197)),(some (r 3)),(some (r 194)),none,(some (s "snobol.values" 375)),none,(some (r 0))]⟩⟩,aB,bv,sq (sL ["self","kind","owner","key"] 504),aB,f0 "__init__" "NameRef.__init__" (sc 34 0),cq "__init__" "NameRef.__init__" 501 140 4 3 (xa 199) 508,f1 "__init__" "NameRef.__init__" (sc 34 0) 3 m1 204,sq (sL ["key","kind","owner"] 511),di (Va P) 4,⟨(VT "type"),none,(.cls ⟨(S "NameRef"),[(VT "object")],[(r 208),(VT "object")],207,(S "NameRef"),true,[],[],false,none,false⟩),⟨[none,none,(some (s "NameRef" 489)),(some (s "NameRef" 497)),(some (VB "object.__new__")),(some bt)]⟩⟩,fl (VT "getset_descriptor") [(s "__dict__" 515),(r 208),(VB "function.__dict__"),(VB "function.__dict__#set")],fl (VT "getset_descriptor") [(s "__weakref__" 517),(r 208),(VB "ExceptionGroup.__weakref__"),N0],fl (VT "super") [(r 208),(r 208),(r 208)],fl (VT "builtin_function_or_method") [(VB "object.__init_subclass__"),(r 208)],aB,bv,sq [(s "value" 525)],aB,g0 "is_fail" 35,co "is_fail" 522 144 1 3 (xa 213) 526,g1 "is_fail" 35 m1 218,aB,bv,sq (sL ["number","width"] 532),aB,g0 "fits" 36,co "fits" 529 146 2 3 (xa 220) 534,g1 "fits" 36 m1 225,aB,bv,sq (sL ["text","width","digits","number","sign"] 540),aB,g0 "whole_of_text" 37,co "whole_of_text" 537 148 2 3 (xa 227) 545,g1 "whole_of_text" 37 m1 232,aB,bv,sq (sL ["number","left","found"] 551),aB,g0 "text_of_whole" 38,co "text_of_whole" 548 161 1 3 (xa 234) 554,g1 "text_of_whole" 38 m1 239,aB,bv,sq (sL ["value","width"] 560),aB,g0 "to_whole" 39,co "to_whole" 557 167 2 3 (xa 241) 562,g1 "to_whole" 39 m1 246]
noncomputable def PM(P:Params):BT:=me 12 (PK P)
noncomputable def PN(P:Params):List DictEntry:=[E P "__name__" 165 (s "snobol.primitives" 638),E P "__doc__" 166 N0,E P "__package__" 167 N0,E P "__loader__" 168 Ck,E P "__spec__" 169 N0,E P "__annotations__" 170 (r 6),E P "__builtins__" 171 (r 4),E P "__file__" 173 (u 172),E P "__cached__" 174 N0,E P "ONE" 190 (s "one" 189),E P "WAYS" 192 (s "ways" 191),E P "SPLIT" 194 (s "split" 193),E P "JUMP" 196 (s "jump" 195),E P "MARK" 198 (s "mark" 197),E P "NAME" 200 (s "name" 199),E P "SET" 202 (s "set" 201),E P "GAIN" 204 (s "gain" 203),E P "PLACE" 206 (s "place" 205),E P "ASK" 208 (s "ask" 207),E P "FENCE" 210 (s "fence" 209),E P "FAIL" 212 (s "fail" 211),E P "ABORT" 214 (s "abort" 213),E P "SUCCEED" 216 (s "succeed" 215),E P "DONE" 218 (s "done" 217),E P "PUT" 220 (s "put" 219),E P "EMIT" 222 (s "emit" 221),E P "OPEN" 224 (s "open" 223),E P "SHUT" 226 (s "shut" 225),E P "MEET" 228 (s "meet" 227),E P "SINGLE" 240 (r 15),E P "ALONE" 245 (r 16),E P "row_of" 256 (r 23),E P "is_plain_text" 263 (r 30),E P "with_texts_joined" 272 (r 37),E P "PatternCode" 356 (r 94),E P "straightened" 366 (r 105),E P "compile_pattern" 374 (r 112),E P "SnobolError" 410 (r 132),E P "Failure" 430 (r 145),E P "Pattern" 459 (r 166),E P "Delayed" 488 (r 187),E P "NameRef" 521 (r 208),E P "is_fail" 528 (r 219),E P "fits" 536 (r 226),E P "whole_of_text" 547 (r 233),E P "text_of_whole" 556 (r 240),E P "to_whole" 564 (r 247),E P "to_text" 571 (r 254),E P "need_text" 579 (r 261),E P "COUNTED" 587 (r 262),E P "SIGNED" 592 (r 263),E P "WIDTH_OF_COUNT" 594 (vi 64 593),E P "plain_count" 604 (r 271),E P "plain_signs" 613 (r 278),E P "pattern_of" 621 (r 285),E P "is_delayed" 628 (r 292),E P "settled" 637 (r 299),E P "OPENING" 641 (s "(" 640),E P "CLOSING" 643 (s ")" 642),E P "chars_end" 653 (r 306),E P "len_end" 662 (r 313),E P "pos_end" 670 (r 320)]
noncomputable def PO:List (Nat×Nat×Nat):=PJ++[(171,0,253),(175,0,260),(184,0,270),(191,0,277),(196,0,284),(205,0,291),(207,0,298),(219,0,305),(222,0,312),(224,0,319)]
noncomputable abbrev m2:Value:=s "snobol.nodes" 580
noncomputable abbrev m3:Value:=s "snobol.primitives" 638
noncomputable def PP(P:Params):List Obj:=(((PK P).set 3 (di (PN P) 62)).set 12 (fl N0 (tr PO)))++[aB,bv,sq [(s "value" 568)],aB,g0 "to_text" 40,co "to_text" 565 171 1 3 (xa 248) 569,g1 "to_text" 40 m1 253,aB,bv,sq (sL ["value","text"] 575),aB,g0 "need_text" 41,co "need_text" 572 175 1 3 (xa 255) 577,g1 "need_text" 41 m1 260,sq (sL ["len","pos","rpos","tab","rtab"] 582),sq (sL ["any","notany","span","break"] 588),sq [(vi 64 593)],aB,bv,sq (sL ["value","kind","width","count"] 598),aB,g0 "plain_count" 46,co "plain_count" 595 184 3 3 (xa 265) 602,⟨(VT "function"),none,(.func ⟨(S "plain_count"),(S "plain_count"),OK (st 46),.stmts (OL (st 46)),OM (st 46),3,[],(r 264),N0,N0,(s "snobol.nodes" 580),none,(r 270),N0,0⟩),⟨[]⟩⟩,aB,bv,sq (sL ["value","kind","text"] 608),aB,g0 "plain_signs" 47,co "plain_signs" 605 191 2 3 (xa 272) 611,g1 "plain_signs" 47 m2 277,aB,bv,sq (sL ["value","text"] 617),aB,g0 "pattern_of" 48,co "pattern_of" 614 196 1 3 (xa 279) 619,g1 "pattern_of" 48 m2 284,aB,bv,sq [(s "told" 625)],aB,g0 "is_delayed" 49,co "is_delayed" 622 205 1 3 (xa 286) 626,g1 "is_delayed" 49 m2 291,aB,bv,sq (sL ["node","host","value"] 632),aB,g0 "settled" 50,co "settled" 629 207 2 3 (xa 293) 635,g1 "settled" 50 m2 298,aB,bv,sq (sL ["subject","at","text","end"] 647),aB,g0 "chars_end" 54,co "chars_end" 644 219 3 3 (xa 300) 651,g1 "chars_end" 54 m3 305,aB,bv,sq (sL ["subject","at","many"] 657),aB,g0 "len_end" 55,co "len_end" 654 222 3 3 (xa 307) 660,g1 "len_end" 55 m3 312,aB,bv,sq (sL ["at","place"] 666),aB,g0 "pos_end" 56,co "pos_end" 663 224 2 3 (xa 314) 668,g1 "pos_end" 56 m3 319]
noncomputable def PQ(P:Params):BT:=me 12 (PP P)
noncomputable def PR(P:Params):List DictEntry:=(PN P)++[E P "rpos_end" 679 (r 327),E P "tab_end" 688 (r 334),E P "rtab_end" 698 (r 341),E P "rem_end" 705 (r 348),E P "any_at" 714 (r 355),E P "notany_at" 723 (r 362),E P "run_end" 733 (r 369),E P "span_end" 743 (r 376),E P "break_end" 753 (r 383),E P "arb_ends" 761 (r 390),E P "bal_end" 770 (r 397),E P "bal_ends" 780 (r 404)]
noncomputable def PT:List (Nat×Nat×Nat):=PO++[(226,0,326),(228,0,333),(230,0,340),(233,0,347),(235,0,354),(237,0,361),(239,0,368),(243,0,375),(246,0,382),(249,0,389),(251,0,396),(264,0,403)]
noncomputable def PU(P:Params):List Obj:=(((PP P).set 3 (di (PR P) 74)).set 12 (fl N0 (tr PT)))++[aB,bv,sq (sL ["subject","at","place"] 674),aB,g0 "rpos_end" 57,co "rpos_end" 671 226 3 3 (xa 321) 677,g1 "rpos_end" 57 m3 326,aB,bv,sq (sL ["subject","at","place"] 683),aB,g0 "tab_end" 58,co "tab_end" 680 228 3 3 (xa 328) 686,g1 "tab_end" 58 m3 333,aB,bv,sq (sL ["subject","at","place","goal"] 692),aB,g0 "rtab_end" 59,co "rtab_end" 689 230 3 3 (xa 335) 696,g1 "rtab_end" 59 m3 340,aB,bv,sq [(s "subject" 702)],aB,g0 "rem_end" 60,co "rem_end" 699 233 1 3 (xa 342) 703,g1 "rem_end" 60 m3 347,aB,bv,sq (sL ["subject","at","signs"] 709),aB,g0 "any_at" 61,co "any_at" 706 235 3 3 (xa 349) 712,g1 "any_at" 61 m3 354,aB,bv,sq (sL ["subject","at","signs"] 718),aB,g0 "notany_at" 62,co "notany_at" 715 237 3 3 (xa 356) 721,g1 "notany_at" 62 m3 361,aB,bv,sq (sL ["subject","at","signs","is_in"] 727),aB,g0 "run_end" 63,co "run_end" 724 239 4 3 (xa 363) 731,g1 "run_end" 63 m3 368,aB,bv,sq (sL ["subject","at","signs","end"] 737),aB,g0 "span_end" 64,co "span_end" 734 243 3 3 (xa 370) 741,g1 "span_end" 64 m3 375,aB,bv,sq (sL ["subject","at","signs","end"] 747),aB,g0 "break_end" 65,co "break_end" 744 246 3 3 (xa 377) 751,g1 "break_end" 65 m3 382,aB,bv,sq (sL ["subject","at"] 757),aB,g0 "arb_ends" 66,co "arb_ends" 754 249 2 3 (xa 384) 759,g1 "arb_ends" 66 m3 389,aB,bv,sq (sL ["subject","at","level"] 765),aB,g0 "bal_end" 67,co "bal_end" 762 251 2 3 (xa 391) 768,g1 "bal_end" 67 m3 396,aB,bv,sq (sL ["subject","at","found","end"] 774),aB,g0 "bal_ends" 68,co "bal_ends" 771 264 2 3 (xa 398) 778,g1 "bal_ends" 68 m3 403]
noncomputable def PV(P:Params):BT:=me 12 (PU P)
noncomputable def Vb(P:Params):List DictEntry:=((PR P).set 0 (E P "__name__" 165 (s "snobol.pattern_machine" 811)))++[E P "one_end" 790 (r 411),E P "plain_end" 799 (r 418),E P "ends_of" 810 (r 425),E P "MET" 814 (vi 0 813),E P "FAILED" 816 (vi 1 815),E P "OVER" 818 (vi 2 817),E P "Way" 865 (r 449)]
noncomputable def PX:List (Nat×Nat×Nat):=PT++[(270,0,410),(290,0,417),(292,0,424),(305,0,431)]
noncomputable abbrev m4:Value:=s "snobol.pattern_machine" 811
noncomputable def Vc(P:Params):List DictEntry:=[E P "__module__" 826 (s "snobol.pattern_machine" 811),E P "__firstlineno__" 830 (vi 305 829),E P "__init__" 843 (r 439),E P "copied" 851 (r 446),E P "__static_attributes__" 858 (r 447),E P "__dict__" 860 (r 450),E P "__weakref__" 862 (r 451),E P "__doc__" 863 N0]
noncomputable def PY(P:Params):List Obj:=(((PU P).set 3 (di (Vb P) 81)).set 12 (fl N0 (tr PX)))++[aB,bv,sq (sL ["kind","subject","at","told"] 784),aB,g0 "one_end" 69,co "one_end" 781 270 4 3 (xa 405) 788,g1 "one_end" 69 m3 410,aB,bv,sq (sL ["node","subject","at"] 794),aB,g0 "plain_end" 70,co "plain_end" 791 290 3 3 (xa 412) 797,g1 "plain_end" 70 m3 417,aB,bv,sq (sL ["kind","subject","at","told","end"] 803),aB,g0 "ends_of" 71,co "ends_of" 800 292 4 3 (xa 419) 808,g1 "ends_of" 71 m3 424,aB,zH,di [E P "__module__" 826 (s "snobol.pattern_machine" 811),E P "__qualname__" 828 (s "Way" 827),E P "__firstlineno__" 830 (vi 305 829),E P "__init__" 843 (r 439),E P "copied" 851 (r 446),E P "__static_attributes__" 858 (r 447)] 6,aB,fl N0 [(j 307),(j 4),(r 438),(j 315),(j 4),(r 445)],co "Way" 821 305 0 0 [(r 429),bf,(j 181),(r 430),N0,N0,N0,N0] 824,⟨(VT "frame"),none,Data.plain,⟨[(some (r 431)),(some (r 3)),(some (r 428)),none,(some (s "snobol.pattern_machine" 811)),none,(some (r 0))]⟩⟩,aB,bv,sq (sL ["self","orders","pc","at","named","marks","calls"] 834),aB,f0 "__init__" "Way.__init__" (sc 76 0),cq "__init__" "Way.__init__" 831 307 7 3 (xa 433) 841,f1 "__init__" "Way.__init__" (sc 76 0) 3 m4 438,aB,bv,sq (sL ["self","pc"] 847),aB,f0 "copied" "Way.copied" (sc 76 1),cq "copied" "Way.copied" 844 315 2 3 (xa 440) 849,f1 "copied" "Way.copied" (sc 76 1) 3 m4 445,sq (sL ["at","calls","marks","named","orders","pc"] 852),di (Vc P) 4,⟨(VT "type"),none,(.cls ⟨(S "Way"),[(VT "object")],[(r 449),(VT "object")],448,(S "Way"),true,[],[],false,none,false⟩),⟨[none,none,(some (s "Way" 819)),(some (s "Way" 827)),(some (VB "object.__new__")),(some bt)]⟩⟩,fl (VT "getset_descriptor") [(s "__dict__" 859),(r 449),(VB "function.__dict__"),(VB "function.__dict__#set")],fl (VT "getset_descriptor") [(s "__weakref__" 861),(r 449),(VB "ExceptionGroup.__weakref__"),N0],fl (VT "super") [(r 449),(r 449),(r 449)],fl (VT "builtin_function_or_method") [(VB "object.__init_subclass__"),(r 449)]]
noncomputable def PZ(P:Params):BT:=me 12 (PY P)
noncomputable def Vd(P:Params):List DictEntry:=[E P "__name__" 165 (s "snobol.pattern_machine" 811),E P "__doc__" 166 N0,E P "__package__" 167 N0,E P "__loader__" 168 Ck,E P "__spec__" 169 N0,E P "__annotations__" 170 (r 6),E P "__builtins__" 171 (r 4),E P "__file__" 173 (u 172),E P "__cached__" 174 N0,E P "ONE" 190 (s "one" 189),E P "WAYS" 192 (s "ways" 191),E P "SPLIT" 194 (s "split" 193),E P "JUMP" 196 (s "jump" 195),E P "MARK" 198 (s "mark" 197),E P "NAME" 200 (s "name" 199),E P "SET" 202 (s "set" 201),E P "GAIN" 204 (s "gain" 203),E P "PLACE" 206 (s "place" 205),E P "ASK" 208 (s "ask" 207),E P "FENCE" 210 (s "fence" 209),E P "FAIL" 212 (s "fail" 211),E P "ABORT" 214 (s "abort" 213),E P "SUCCEED" 216 (s "succeed" 215),E P "DONE" 218 (s "done" 217),E P "PUT" 220 (s "put" 219),E P "EMIT" 222 (s "emit" 221),E P "OPEN" 224 (s "open" 223),E P "SHUT" 226 (s "shut" 225),E P "MEET" 228 (s "meet" 227),E P "SINGLE" 240 (r 15),E P "ALONE" 245 (r 16),E P "row_of" 256 (r 23),E P "is_plain_text" 263 (r 30),E P "with_texts_joined" 272 (r 37),E P "PatternCode" 356 (r 94),E P "straightened" 366 (r 105),E P "compile_pattern" 374 (r 112),E P "SnobolError" 410 (r 132),E P "Failure" 430 (r 145),E P "Pattern" 459 (r 166),E P "Delayed" 488 (r 187),E P "NameRef" 521 (r 208),E P "is_fail" 528 (r 219),E P "fits" 536 (r 226),E P "whole_of_text" 547 (r 233),E P "text_of_whole" 556 (r 240),E P "to_whole" 564 (r 247),E P "to_text" 571 (r 254),E P "need_text" 579 (r 261),E P "COUNTED" 587 (r 262),E P "SIGNED" 592 (r 263),E P "WIDTH_OF_COUNT" 594 (vi 64 593),E P "plain_count" 604 (r 271),E P "plain_signs" 613 (r 278),E P "pattern_of" 621 (r 285),E P "is_delayed" 628 (r 292),E P "settled" 637 (r 299),E P "OPENING" 641 (s "(" 640),E P "CLOSING" 643 (s ")" 642),E P "chars_end" 653 (r 306),E P "len_end" 662 (r 313),E P "pos_end" 670 (r 320),E P "rpos_end" 679 (r 327),E P "tab_end" 688 (r 334),E P "rtab_end" 698 (r 341),E P "rem_end" 705 (r 348),E P "any_at" 714 (r 355),E P "notany_at" 723 (r 362),E P "run_end" 733 (r 369),E P "span_end" 743 (r 376),E P "break_end" 753 (r 383),E P "arb_ends" 761 (r 390),E P "bal_end" 770 (r 397),E P "bal_ends" 780 (r 404),E P "one_end" 790 (r 411),E P "plain_end" 799 (r 418),E P "ends_of" 810 (r 425),E P "MET" 814 (vi 0 813),E P "FAILED" 816 (vi 1 815),E P "OVER" 818 (vi 2 817),E P "Way" 865 (r 449),E P "Match" 980 (r 526)]
noncomputable def P0:List (Nat×Nat×Nat):=PX++[(317,0,459)]
noncomputable def Ve(P:Params):List DictEntry:=[E P "__module__" 873 (s "snobol.pattern_machine" 811),E P "__qualname__" 875 (s "Match" 874),E P "__firstlineno__" 877 (vi 317 876),E P "__init__" 886 (r 467),E P "run" 897 (r 474),E P "way_back" 904 (r 481),E P "done" 914 (r 488),E P "met_once" 926 (r 495),E P "ended" 938 (r 502),E P "other" 948 (r 509),E P "met_often" 959 (r 516),E P "asked" 969 (r 523),E P "__static_attributes__" 973 (r 524)]
noncomputable def Vf:List (Nat×Nat×Nat):=[(319,4,466),(324,4,473),(339,4,480),(342,4,487),(364,4,494),(378,4,501),(389,4,508),(407,4,515),(418,4,522)]
noncomputable def Vg(P:Params):List DictEntry:=[E P "__module__" 873 (s "snobol.pattern_machine" 811),E P "__firstlineno__" 877 (vi 317 876),E P "__init__" 886 (r 467),E P "run" 897 (r 474),E P "way_back" 904 (r 481),E P "done" 914 (r 488),E P "met_once" 926 (r 495),E P "ended" 938 (r 502),E P "other" 948 (r 509),E P "met_often" 959 (r 516),E P "asked" 969 (r 523),E P "__static_attributes__" 973 (r 524),E P "__dict__" 975 (r 527),E P "__weakref__" 977 (r 528),E P "__doc__" 978 N0]
noncomputable def P1(P:Params):List Obj:=(((PY P).set 3 (di (Vd P) 82)).set 12 (fl N0 (tr P0)))++[aB,zH,di (Ve P) 13,aB,fl N0 (tr Vf),co "Match" 868 317 0 0 [(r 457),bf,(j 181),(r 458),N0,N0,N0,N0] 871,⟨(VT "frame"),none,Data.plain,⟨[(some (r 459)),(some (r 3)),(some (r 456)),none,(some (s "snobol.pattern_machine" 811)),none,(some (r 0))]⟩⟩,aB,bv,sq (sL ["self","subject","host"] 881),aB,f0 "__init__" "Match.__init__" (sc 77 0),cq "__init__" "Match.__init__" 878 319 3 3 (xa 461) 884,f1 "__init__" "Match.__init__" (sc 77 0) 3 m4 466,aB,bv,sq (sL ["self","orders","begin","way","order"] 890),aB,f0 "run" "Match.run" (sc 77 1),cq "run" "Match.run" 887 324 3 3 (xa 468) 895,f1 "run" "Match.run" (sc 77 1) 3 m4 473,aB,bv,sq [(s "self" 901)],aB,f0 "way_back" "Match.way_back" (sc 77 2),cq "way_back" "Match.way_back" 898 339 1 3 (xa 475) 902,f1 "way_back" "Match.way_back" (sc 77 2) 3 m4 480,aB,bv,sq (sL ["self","order","way","word"] 908),aB,f0 "done" "Match.done" (sc 77 3),cq "done" "Match.done" 905 342 3 3 (xa 482) 912,f1 "done" "Match.done" (sc 77 3) 3 m4 487,aB,bv,sq (sL ["self","order","way","told","node","end"] 918),aB,f0 "met_once" "Match.met_once" (sc 77 4),cq "met_once" "Match.met_once" 915 364 3 3 (xa 489) 924,f1 "met_once" "Match.met_once" (sc 77 4) 3 m4 494,aB,bv,sq (sL ["self","order","way","marks","begin","text"] 930),aB,f0 "ended" "Match.ended" (sc 77 5),cq "ended" "Match.ended" 927 378 3 3 (xa 496) 936,f1 "ended" "Match.ended" (sc 77 5) 3 m4 501,aB,bv,sq (sL ["self","order","way","word"] 942),aB,f0 "other" "Match.other" (sc 77 6),cq "other" "Match.other" 939 389 3 3 (xa 503) 946,f1 "other" "Match.other" (sc 77 6) 3 m4 508,aB,bv,sq (sL ["self","way","ends","end","other"] 952),aB,f0 "met_often" "Match.met_often" (sc 77 7),cq "met_often" "Match.met_often" 949 407 3 3 (xa 510) 957,f1 "met_often" "Match.met_often" (sc 77 7) 3 m4 515,aB,bv,sq (sL ["self","tree","way","value"] 963),aB,f0 "asked" "Match.asked" (sc 77 8),cq "asked" "Match.asked" 960 418 3 3 (xa 517) 967,f1 "asked" "Match.asked" (sc 77 8) 3 m4 522,sq (sL ["history","host","subject"] 970),di (Vg P) 4,⟨(VT "type"),none,(.cls ⟨(S "Match"),[(VT "object")],[(r 526),(VT "object")],525,(S "Match"),true,[],[],false,none,false⟩),⟨[none,none,(some (s "Match" 866)),(some (s "Match" 874)),(some (VB "object.__new__")),(some bt)]⟩⟩,fl (VT "getset_descriptor") [(s "__dict__" 974),(r 526),(VB "function.__dict__"),(VB "function.__dict__#set")],fl (VT "getset_descriptor") [(s "__weakref__" 976),(r 526),(VB "ExceptionGroup.__weakref__"),N0],fl (VT "super") [(r 526),(r 526),(r 526)],fl (VT "builtin_function_or_method") [(VB "object.__init_subclass__"),(r 526)]]
noncomputable def P4(P:Params):BT:=me 12 (P1 P)
noncomputable def P5(P:Params):List DictEntry:=[E P "__name__" 165 (s "snobol.hosts" 1013),E P "__doc__" 166 N0,E P "__package__" 167 N0,E P "__loader__" 168 Ck,E P "__spec__" 169 N0,E P "__annotations__" 170 (r 6),E P "__builtins__" 171 (r 4),E P "__file__" 173 (u 172),E P "__cached__" 174 N0,E P "ONE" 190 (s "one" 189),E P "WAYS" 192 (s "ways" 191),E P "SPLIT" 194 (s "split" 193),E P "JUMP" 196 (s "jump" 195),E P "MARK" 198 (s "mark" 197),E P "NAME" 200 (s "name" 199),E P "SET" 202 (s "set" 201),E P "GAIN" 204 (s "gain" 203),E P "PLACE" 206 (s "place" 205),E P "ASK" 208 (s "ask" 207),E P "FENCE" 210 (s "fence" 209),E P "FAIL" 212 (s "fail" 211),E P "ABORT" 214 (s "abort" 213),E P "SUCCEED" 216 (s "succeed" 215),E P "DONE" 218 (s "done" 217),E P "PUT" 220 (s "put" 219),E P "EMIT" 222 (s "emit" 221),E P "OPEN" 224 (s "open" 223),E P "SHUT" 226 (s "shut" 225),E P "MEET" 228 (s "meet" 227),E P "SINGLE" 240 (r 15),E P "ALONE" 245 (r 16),E P "row_of" 256 (r 23),E P "is_plain_text" 263 (r 30),E P "with_texts_joined" 272 (r 37),E P "PatternCode" 356 (r 94),E P "straightened" 366 (r 105),E P "compile_pattern" 374 (r 112),E P "SnobolError" 410 (r 132),E P "Failure" 430 (r 145),E P "Pattern" 459 (r 166),E P "Delayed" 488 (r 187),E P "NameRef" 521 (r 208),E P "is_fail" 528 (r 219),E P "fits" 536 (r 226),E P "whole_of_text" 547 (r 233),E P "text_of_whole" 556 (r 240),E P "to_whole" 564 (r 247),E P "to_text" 571 (r 254),E P "need_text" 579 (r 261),E P "COUNTED" 587 (r 262),E P "SIGNED" 592 (r 263),E P "WIDTH_OF_COUNT" 594 (vi 64 593),E P "plain_count" 604 (r 271),E P "plain_signs" 613 (r 278),E P "pattern_of" 621 (r 285),E P "is_delayed" 628 (r 292),E P "settled" 637 (r 299),E P "OPENING" 641 (s "(" 640),E P "CLOSING" 643 (s ")" 642),E P "chars_end" 653 (r 306),E P "len_end" 662 (r 313),E P "pos_end" 670 (r 320),E P "rpos_end" 679 (r 327),E P "tab_end" 688 (r 334),E P "rtab_end" 698 (r 341),E P "rem_end" 705 (r 348),E P "any_at" 714 (r 355),E P "notany_at" 723 (r 362),E P "run_end" 733 (r 369),E P "span_end" 743 (r 376),E P "break_end" 753 (r 383),E P "arb_ends" 761 (r 390),E P "bal_end" 770 (r 397),E P "bal_ends" 780 (r 404),E P "one_end" 790 (r 411),E P "plain_end" 799 (r 418),E P "ends_of" 810 (r 425),E P "MET" 814 (vi 0 813),E P "FAILED" 816 (vi 1 815),E P "OVER" 818 (vi 2 817),E P "Way" 865 (r 449),E P "Match" 980 (r 526),E P "named_rows" 989 (r 537),E P "match_orders" 1002 (r 544),E P "match_compiled" 1012 (r 551)]
noncomputable def P6:List (Nat×Nat×Nat):=P0++[(425,0,536),(432,0,543),(440,0,550)]
noncomputable def P7(P:Params):List Obj:=(((P1 P).set 3 (di (P5 P) 85)).set 12 (fl N0 (tr P6)))++[aB,bv,sq (sL ["named","found","last"] 984),aB,g0 "named_rows" 78,co "named_rows" 981 425 1 3 (xa 531) 987,g1 "named_rows" 78 m4 536,aB,bv,sq (sL ["orders","subject","is_anchored","host","begin","how","way"] 993),aB,g0 "match_orders" 79,co "match_orders" 990 432 4 3 (xa 538) 1000,g1 "match_orders" 79 m4 543,aB,bv,sq (sL ["node","subject","is_anchored","host"] 1006),aB,g0 "match_compiled" 80,co "match_compiled" 1003 440 4 3 (xa 545) 1010,g1 "match_compiled" 80 m4 550]
noncomputable def P8(P:Params):BT:=me 12 (P7 P)
noncomputable def Vh(P:Params):List DictEntry:=((P5 P).set 0 (E P "__name__" 165 (s "snobol.trial" 1075)))++[E P "PlainHost" 1074 (r 589),E P "LOST" 1078 (s "lost" 1077),E P "match_plain" 1090 (r 600)]
noncomputable def P9:List (Nat×Nat×Nat):=P6++[(443,0,557),(471,0,599)]
noncomputable def Vi(P:Params):List DictEntry:=[E P "__module__" 1022 (s "snobol.hosts" 1013),E P "__qualname__" 1024 (s "PlainHost" 1023),E P "__firstlineno__" 1026 (vi 443 1025),E P "__init__" 1036 (r 565),E P "value_of" 1044 (r 572),E P "assign" 1053 (r 579),E P "step" 1060 (r 586),E P "__static_attributes__" 1067 (r 587)]
noncomputable def Vj:List (Nat×Nat×Nat):=[(445,4,564),(453,4,571),(458,4,578),(465,4,585)]
noncomputable abbrev m5:Value:=s "snobol.hosts" 1013
noncomputable def Vk(P:Params):List DictEntry:=[E P "__module__" 1022 (s "snobol.hosts" 1013),E P "__firstlineno__" 1026 (vi 443 1025),E P "__init__" 1036 (r 565),E P "value_of" 1044 (r 572),E P "assign" 1053 (r 579),E P "step" 1060 (r 586),E P "__static_attributes__" 1067 (r 587),E P "__dict__" 1069 (r 590),E P "__weakref__" 1071 (r 591),E P "__doc__" 1072 N0]
noncomputable abbrev m6:Value:=s "snobol.trial" 1075
noncomputable def Qa(P:Params):List Obj:=(((P7 P).set 3 (di (Vh P) 88)).set 12 (fl N0 (tr P9)))++[aB,zH,di (Vi P) 8,aB,fl N0 (tr Vj),co "PlainHost" 1017 443 0 0 [(r 555),bf,(j 181),(r 556),N0,N0,N0,N0] 1020,⟨(VT "frame"),none,Data.plain,⟨[(some (r 557)),(some (r 3)),(some (r 554)),none,(some (s "snobol.hosts" 1013)),none,(some (r 0))]⟩⟩,aB,bv,sq (sL ["self","values","limit","refused"] 1030),aB,f0 "__init__" "PlainHost.__init__" (sc 82 0),cq "__init__" "PlainHost.__init__" 1027 445 4 3 (xa 559) 1034,f1 "__init__" "PlainHost.__init__" (sc 82 0) 3 m5 564,aB,bv,sq (sL ["self","tree"] 1040),aB,f0 "value_of" "PlainHost.value_of" (sc 82 1),cq "value_of" "PlainHost.value_of" 1037 453 2 3 (xa 566) 1042,f1 "value_of" "PlainHost.value_of" (sc 82 1) 3 m5 571,aB,bv,sq (sL ["self","ref","value"] 1048),aB,f0 "assign" "PlainHost.assign" (sc 82 2),cq "assign" "PlainHost.assign" 1045 458 3 3 (xa 573) 1051,f1 "assign" "PlainHost.assign" (sc 82 2) 3 m5 578,aB,bv,sq [(s "self" 1057)],aB,f0 "step" "PlainHost.step" (sc 82 3),cq "step" "PlainHost.step" 1054 465 1 3 (xa 580) 1058,f1 "step" "PlainHost.step" (sc 82 3) 3 m5 585,sq (sL ["limit","log","refused","steps","values","width"] 1061),di (Vk P) 4,⟨(VT "type"),none,(.cls ⟨(S "PlainHost"),[(VT "object")],[(r 589),(VT "object")],588,(S "PlainHost"),true,[],[],false,none,false⟩),⟨[none,none,(some (s "PlainHost" 1015)),(some (s "PlainHost" 1023)),(some (VB "object.__new__")),(some bt)]⟩⟩,fl (VT "getset_descriptor") [(s "__dict__" 1068),(r 589),(VB "function.__dict__"),(VB "function.__dict__#set")],fl (VT "getset_descriptor") [(s "__weakref__" 1070),(r 589),(VB "ExceptionGroup.__weakref__"),N0],fl (VT "super") [(r 589),(r 589),(r 589)],fl (VT "builtin_function_or_method") [(VB "object.__init_subclass__"),(r 589)],aB,bv,sq (sL ["node","subject","is_anchored","host","begin","found"] 1082),aB,g0 "match_plain" 85,co "match_plain" 1079 471 4 3 (xa 594) 1088,g1 "match_plain" 85 m6 599]
noncomputable def Qb(P:Params):BT:=me 12 (Qa P)
noncomputable def Qc(P:Params):List DictEntry:=[E P "__name__" 165 (s "law_sa0605_02" 1190),E P "__doc__" 166 N0,E P "__package__" 167 N0,E P "__loader__" 168 Ck,E P "__spec__" 169 N0,E P "__annotations__" 170 (r 6),E P "__builtins__" 171 (r 4),E P "__file__" 173 (u 172),E P "__cached__" 174 N0,E P "ONE" 190 (s "one" 189),E P "WAYS" 192 (s "ways" 191),E P "SPLIT" 194 (s "split" 193),E P "JUMP" 196 (s "jump" 195),E P "MARK" 198 (s "mark" 197),E P "NAME" 200 (s "name" 199),E P "SET" 202 (s "set" 201),E P "GAIN" 204 (s "gain" 203),E P "PLACE" 206 (s "place" 205),E P "ASK" 208 (s "ask" 207),E P "FENCE" 210 (s "fence" 209),E P "FAIL" 212 (s "fail" 211),E P "ABORT" 214 (s "abort" 213),E P "SUCCEED" 216 (s "succeed" 215),E P "DONE" 218 (s "done" 217),E P "PUT" 220 (s "put" 219),E P "EMIT" 222 (s "emit" 221),E P "OPEN" 224 (s "open" 223),E P "SHUT" 226 (s "shut" 225),E P "MEET" 228 (s "meet" 227),E P "SINGLE" 240 (r 15),E P "ALONE" 245 (r 16),E P "row_of" 256 (r 23),E P "is_plain_text" 263 (r 30),E P "with_texts_joined" 272 (r 37),E P "PatternCode" 356 (r 94),E P "straightened" 366 (r 105),E P "compile_pattern" 374 (r 112),E P "SnobolError" 410 (r 132),E P "Failure" 430 (r 145),E P "Pattern" 459 (r 166),E P "Delayed" 488 (r 187),E P "NameRef" 521 (r 208),E P "is_fail" 528 (r 219),E P "fits" 536 (r 226),E P "whole_of_text" 547 (r 233),E P "text_of_whole" 556 (r 240),E P "to_whole" 564 (r 247),E P "to_text" 571 (r 254),E P "need_text" 579 (r 261),E P "COUNTED" 587 (r 262),E P "SIGNED" 592 (r 263),E P "WIDTH_OF_COUNT" 594 (vi 64 593),E P "plain_count" 604 (r 271),E P "plain_signs" 613 (r 278),E P "pattern_of" 621 (r 285),E P "is_delayed" 628 (r 292),E P "settled" 637 (r 299),E P "OPENING" 641 (s "(" 640),E P "CLOSING" 643 (s ")" 642),E P "chars_end" 653 (r 306),E P "len_end" 662 (r 313),E P "pos_end" 670 (r 320),E P "rpos_end" 679 (r 327),E P "tab_end" 688 (r 334),E P "rtab_end" 698 (r 341),E P "rem_end" 705 (r 348),E P "any_at" 714 (r 355),E P "notany_at" 723 (r 362),E P "run_end" 733 (r 369),E P "span_end" 743 (r 376),E P "break_end" 753 (r 383),E P "arb_ends" 761 (r 390),E P "bal_end" 770 (r 397),E P "bal_ends" 780 (r 404),E P "one_end" 790 (r 411),E P "plain_end" 799 (r 418),E P "ends_of" 810 (r 425),E P "MET" 814 (vi 0 813),E P "FAILED" 816 (vi 1 815),E P "OVER" 818 (vi 2 817),E P "Way" 865 (r 449),E P "Match" 980 (r 526),E P "named_rows" 989 (r 537),E P "match_orders" 1002 (r 544),E P "match_compiled" 1012 (r 551),E P "PlainHost" 1074 (r 589),E P "LOST" 1078 (s "lost" 1077),E P "match_plain" 1090 (r 600),E P "match_at" 1101 (r 607),E P "tried" 1116 (r 614),E P "advanced" 1132 (r 621),E P "led_in" 1144 (r 628),E P "led_out" 1160 (r 635),E P "steered" 1172 (r 642),E P "taken" 1189 (r 649),E P "_law_next" 1201 (r 656),E P "_law_leaf" 1209 (r 663),E P "_law_node" 1218 (r 670),E P "_law_is_balanced" 1224 (r 675)]
noncomputable def Qd:List (Nat×Nat×Nat):=P9++[(477,0,606),(480,0,613),(498,0,620),(513,0,627),(524,0,634),(531,0,641),(539,0,648),(556,0,655),(562,0,662),(571,0,669),(578,0,674)]
noncomputable abbrev m7:Value:=s "law_sa0605_02" 1190
noncomputable def Qe(P:Params):List Obj:=(((Qa P).set 3 (di (Qc P) 99)).set 12 (fl N0 (tr Qd)))++[aB,bv,sq (sL ["node","subject","begin","host","found"] 1094),aB,g0 "match_at" 86,co "match_at" 1091 477 4 3 (xa 601) 1099,g1 "match_at" 86 m6 606,aB,bv,sq (sL ["node","subject","begin","host","pile","way","chain","at","named"] 1105),aB,g0 "tried" 87,co "tried" 1102 480 4 3 (xa 608) 1114,g1 "tried" 87 m6 613,aB,bv,sq (sL ["chain","at","named","subject","pile","host","here","rest","kind","value"] 1120),aB,g0 "advanced" 88,co "advanced" 1117 498 6 3 (xa 615) 1130,g1 "advanced" 88 m6 620,aB,bv,sq (sL ["here","rest","at","named","pile","kind"] 1136),aB,g0 "led_in" 89,co "led_in" 1133 513 5 3 (xa 622) 1142,g1 "led_in" 89 m6 627,aB,bv,sq (sL ["here","rest","at","named","subject","pile","host","kind","told","begin"] 1148),aB,g0 "led_out" 90,co "led_out" 1145 524 7 3 (xa 629) 1158,g1 "led_out" 90 m6 634,aB,bv,sq (sL ["chain","at","named","pile","kind","rest"] 1164),aB,g0 "steered" 91,co "steered" 1161 531 4 3 (xa 636) 1170,g1 "steered" 91 m6 641,aB,bv,sq (sL ["here","rest","at","named","subject","pile","host","kind","ends","end","plain"] 1176),aB,g0 "taken" 92,co "taken" 1173 539 7 3 (xa 643) 1187,g1 "taken" 92 m6 648,aB,bv,sq (sL ["feed","many","cells","turn"] 1195),aB,g0 "_law_next" 94,co "_law_next" 1192 556 2 3 (xa 650) 1199,g1 "_law_next" 94 m7 655,aB,bv,sq (sL ["feed","form"] 1205),aB,g0 "_law_leaf" 95,co "_law_leaf" 1202 562 1 3 (xa 657) 1207,g1 "_law_leaf" 95 m7 662,aB,bv,sq (sL ["feed","deep","form"] 1213),aB,g0 "_law_node" 96,co "_law_node" 1210 571 2 3 (xa 664) 1216,g1 "_law_node" 96 m7 669,aB,bv,g0 "_law_is_balanced" 97,co "_law_is_balanced" 1219 578 1 3 [(r 671),bt,(j 181),(r 672),N0,N0,N0,(r 673)] 1222,g1 "_law_is_balanced" 97 m7 674]
noncomputable def Qf(P:Params):BT:=me 12 (Qe P)
noncomputable def Vl(P:Params):List DictEntry:=(Qc P)++[E P "_law_one" 1230 (r 680),E P "_law_ends" 1236 (r 685),E P "law" 1242 (r 690)]
noncomputable def Vm:List (Nat×Nat×Nat):=Qd++[(583,0,679),(595,0,684),(613,0,689)]
noncomputable def Me(P:Params):List Obj:=(((Qe P).set 3 (di (Vl P) 102)).set 12 (fl N0 (tr Vm)))++[aB,bv,g0 "_law_one" 98,co "_law_one" 1225 583 4 3 [(r 676),bt,(j 181),(r 677),N0,N0,N0,(r 678)] 1228,g1 "_law_one" 98 m7 679,aB,bv,g0 "_law_ends" 99,co "_law_ends" 1231 595 3 3 [(r 681),bt,(j 181),(r 682),N0,N0,N0,(r 683)] 1234,g1 "_law_ends" 99 m7 684,aB,bv,g0 "law" 100,co "law" 1237 613 1 3 [(r 686),bt,(j 181),(r 687),N0,N0,N0,(r 688)] 1240,g1 "law" 100 m7 689]
noncomputable def Qg(P:Params):BT:=me 12 (Me P)
noncomputable def Vn(P:Params):Heap:=⟨⟨SS P⟩,{}⟩
noncomputable def Cm(P:Params):Heap:=⟨⟨Me P⟩,{}⟩
noncomputable def Mf:List Stmt:=((behindTheImports PW).drop 0).take 26
noncomputable def Mg:List Stmt:=((behindTheImports PW).drop 26).take 1
noncomputable def FV:List Stmt:=((behindTheImports PW).drop 27).take 4
noncomputable def FX:List Stmt:=((behindTheImports PW).drop 31).take 1
noncomputable def FY:List Stmt:=((behindTheImports PW).drop 32).take 1
noncomputable def FZ:List Stmt:=((behindTheImports PW).drop 33).take 1
noncomputable def F0:List Stmt:=((behindTheImports PW).drop 34).take 6
noncomputable def F2:List Stmt:=((behindTheImports PW).drop 40).take 17
noncomputable def F3:List Stmt:=((behindTheImports PW).drop 57).take 12
noncomputable def F4:List Stmt:=((behindTheImports PW).drop 69).take 8
noncomputable def F5:List Stmt:=((behindTheImports PW).drop 77).take 1
noncomputable def F6:List Stmt:=((behindTheImports PW).drop 78).take 4
noncomputable def F7:List Stmt:=((behindTheImports PW).drop 82).take 4
noncomputable def F8:List Stmt:=((behindTheImports PW).drop 86).take 12
noncomputable def F9:List Stmt:=((behindTheImports PW).drop 98).take 3
noncomputable def env:Env:=⟨PW.main.scope,mainNs,mainNs,[],Str.empty,none,(r 13),(some 14),0⟩
noncomputable def Vo(l:List Stmt):List Nat->List Stmt|[]=>[]|k::r=>l.getD k default::Vo l r
noncomputable def view:Program:={ PW with main:={ PW.main with body:=Vo PW.main.body [1,2,3,4,5,6,7,8,9,10,11,12,13,14,15,16,17,18,19,20,21,22,23,24,25,26,27,28,30,31,32,33,34,35,36,37,38,39,40,41,43,44,45,47,48,49,50,52,53,54,55,56,57,58,59,60,61,62,63,64,65,66,67,68,69,70,71,73,74,75,76,77,78,79,80,82,84,85,86,87,88,89,90,91,92,94,95,96,97,98,99,100] } }
noncomputable def c0:Code:=.body (behindTheImports PW) env
noncomputable def KA:List Nat:=[2,3,15,16,17,19,20,22,23,24,26,27,29,30,31,33,34,36,37,45,47,48,50,51,52,54,55,57,58,59,61,62,64,65,66,69,70,71,73,74,76,77,78,80,81,83,84,85,87,88,90,91,92,93,94,95,96,99,101,102,104,105,106,108,109,111,112,113,116,121,122,123,125,126,128,129,130,131,132,133,143,144,145,146,147,157,159,160,162,163,164,165,166,167,168,178,180,181,183,184,185,186,187,188,189,199,201,202,204,205,206,207,208,209,210,213,215,216,218,219,220,222,223,225,226,227,229,230,232,233,234,236,237,239,240,241,243,244,246,247,248,250,251,253,254,255,257,258,260,261,262,263,264,265,267,268,270,271,272,274,275,277,278,279,281,282,284,285,286,288,289,291,292,293,295,296,298,299,300,302,303,305,306,307,309,310,312,313,314,316,317,319,320,321,323,324,326,327,328,330,331,333,334,335,337,338,340,341,342,344,345,347,348,349,351,352,354,355,356,358,359,361,362,363,365,366,368,369,370,372,373,375,376,377,379,380,382,383,384,386,387,389,390,391,393,394,396,397,398,400,401,403,404,405,407,408,410,411,412,414,415,417,418,419,421,422,424,425,433,435,436,438,439,440,442,443,445,446,447,448,449,450,451,461,463,464,466,467,468,470,471,473,474,475,477,478,480,481,482,484,485,487,488,489,491,492,494,495,496,498,499,501,502,503,505,506,508,509,510,512,513,515,516,517,519,520,522,523,524,525,526,527,528,531,533,534,536,537,538,540,541,543,544,545,547,548,550,551,559,561,562,564,565,566,568,569,571,572,573,575,576,578,579,580,582,583,585,586,587,588,589,590,591,594,596,597,599,600,601,603,604,606,607,608,610,611,613,614,615,617,618,620,621,622,624,625,627,628,629,631,632,634,635,636,638,639,641,642,643,645,646,648,649,650,652,653,655,656,657,659,660,662,663,664,666,667,669,670,671,674,675,676,679,680,681,684,685,686,689,690]
noncomputable def KF(P:Params):Frag:=KA.map λa=>(a,((Me P)[a]?).getD aB)
theorem Xe:∀ P,KA=(KF P).map (·.1):=λ_=>by kernel_rfl
noncomputable abbrev H:Hook:=kHook KF KA Xe
noncomputable abbrev q0:Pos:=⟨0,0,0,0⟩
noncomputable abbrev B0:List Frame:=[topFrame q0]
noncomputable abbrev an:Option Value:=some (.ref 6)
noncomputable def T(t:Params->BT)(n k:Nat)(w:World)(os:OsState):SharedT:=⟨t w.params,n,{},⟨[]⟩,{},k,os⟩
noncomputable def F1(w:World)(os:OsState):Shared:=⟨Cm w.params,⟨[]⟩,{},1243,os⟩
noncomputable def loose:List Str:=[S "SnobolError",S "plain_count"]
noncomputable def Xt(s:Shared):Bool:=xlAt view [] s&&recOk PySem.Challenge.rw_sa0605_02.row.records s
theorem de{p w m0 ann one n s th r}(h:Fast.tw10110043849684766642 Fast.tw14364793385576792824 p w m0 ann one n s th=r):segRunT treeTable p w m0 ann one n s th=r:=by
 rw[Fast.te10110043849684766642,Fast.te14364793385576792824];exact h
theorem p0(w:World)(os:OsState):segRunT treeTable PW w 11 an 1 318 (T UZ 15 187 w os) (piecesOf Mf env c0 ⟨0,0,0,0⟩ B0)=some (.next,T U3 38 273 w os,c0,⟨35,0,44,16⟩):=de (by kernel_rfl)
theorem p1(w:World)(os:OsState):segRunT treeTable PW w 11 an 1 420 (T U3 38 273 w os) (piecesOf Mg env c0 ⟨35,0,44,16⟩ B0)=some (.next,T Pu 99 357 w os,c0,⟨45,0,105,58⟩):=de (by kernel_rfl)
theorem p2(w:World)(os:OsState):segRunT treeTable PW w 11 an 1 320 (T Pu 99 357 w os) (piecesOf FV env c0 ⟨45,0,105,58⟩ B0)=some (.next,T Py 136 411 w os,c0,⟨122,0,127,24⟩):=de (by kernel_rfl)
theorem p3(w:World)(os:OsState):segRunT treeTable PW w 11 an 1 191 (T Py 136 411 w os) (piecesOf FX env c0 ⟨122,0,127,24⟩ B0)=some (.next,T PC 150 431 w os,c0,⟨128,0,129,8⟩):=de (by kernel_rfl)
theorem p4(w:World)(os:OsState):segRunT treeTable PW w 11 an 1 223 (T PC 150 431 w os) (piecesOf FY env c0 ⟨128,0,129,8⟩ B0)=some (.next,T PF 171 460 w os,c0,⟨130,0,133,24⟩):=de (by kernel_rfl)
theorem p5(w:World)(os:OsState):segRunT treeTable PW w 11 an 1 223 (T PF 171 460 w os) (piecesOf FZ env c0 ⟨130,0,133,24⟩ B0)=some (.next,T PI 192 489 w os,c0,⟨134,0,137,24⟩):=de (by kernel_rfl)
theorem p6(w:World)(os:OsState):segRunT treeTable PW w 11 an 1 380 (T PI 192 489 w os) (piecesOf F0 env c0 ⟨134,0,137,24⟩ B0)=some (.next,T PM 248 565 w os,c0,⟨167,0,170,74⟩):=de (by kernel_rfl)
theorem p7(w:World)(os:OsState):segRunT treeTable PW w 11 an 1 383 (T PM 248 565 w os) (piecesOf F2 env c0 ⟨167,0,170,74⟩ B0)=some (.next,T PQ 321 671 w os,c0,⟨224,0,225,38⟩):=de (by kernel_rfl)
theorem p8(w:World)(os:OsState):segRunT treeTable PW w 11 an 1 375 (T PQ 321 671 w os) (piecesOf F3 env c0 ⟨224,0,225,38⟩ B0)=some (.next,T PV 405 781 w os,c0,⟨264,0,269,16⟩):=de (by kernel_rfl)
theorem p9(w:World)(os:OsState):segRunT treeTable PW w 11 an 1 397 (T PV 405 781 w os) (piecesOf F4 env c0 ⟨264,0,269,16⟩ B0)=some (.next,T PZ 454 866 w os,c0,⟨305,0,316,80⟩):=de (by kernel_rfl)
theorem Nn(w:World)(os:OsState):segRunT treeTable PW w 11 an 1 501 (T PZ 454 866 w os) (piecesOf F5 env c0 ⟨305,0,316,80⟩ B0)=some (.next,T P4 531 981 w os,c0,⟨317,0,424,19⟩):=de (by kernel_rfl)
theorem No(w:World)(os:OsState):segRunT treeTable PW w 11 an 1 108 (T P4 531 981 w os) (piecesOf F6 env c0 ⟨317,0,424,19⟩ B0)=some (.next,T P8 552 1015 w os,c0,⟨442,0,442,8⟩):=de (by kernel_rfl)
theorem Np(w:World)(os:OsState):segRunT treeTable PW w 11 an 1 378 (T P8 552 1015 w os) (piecesOf F7 env c0 ⟨442,0,442,8⟩ B0)=some (.next,T Qb 601 1091 w os,c0,⟨471,0,476,15⟩):=de (by kernel_rfl)
theorem Nq(w:World)(os:OsState):segRunT treeTable PW w 11 an 1 382 (T Qb 601 1091 w os) (piecesOf F8 env c0 ⟨471,0,476,15⟩ B0)=some (.next,T Qf 676 1225 w os,c0,⟨578,0,582,46⟩):=de (by kernel_rfl)
theorem Nr(w:World)(os:OsState):segRunT treeTable PW w 11 an 1 79 (T Qf 676 1225 w os) (piecesOf F9 env c0 ⟨578,0,582,46⟩ B0)=some (.next,T Qg 691 1243 w os,c0,⟨613,0,623,124⟩):=de (by kernel_rfl)
theorem pre(w:World)(os:OsState):topGo treeTable PW w 11 an 12 ⟨boot_heap w.params,⟨[]⟩,boot_drawn,boot_toks,os⟩ (topStub PW)=some (⟨Vn w.params,⟨[]⟩,{},187,os⟩,⟨denote treeTable (.body (behindTheImports PW) env),c0,q0,B0⟩):=by
 rw[Fast.te15667345088766844465,Fast.te14364793385576792824,Fast.te11892475500146522536];kernel_rfl
theorem Xf(w:World)(os:OsState):segRun treeTable PW w 11 an 1 1 ⟨Vn w.params,⟨[]⟩,{},187,os⟩ (blockOf (behindTheImports PW) env c0 q0 B0)=some (.next,(T UZ 15 187 w os).abs,c0,⟨0,0,0,0⟩):=by
 rw[Fast.te14374325043358763698,Fast.te14364793385576792824];kernel_rfl
theorem fin(w:World)(os:OsState):topRun treeTable PW w 11 an 2 (T Qg 691 1243 w os).abs ⟨doneF .next,c0,⟨613,0,623,124⟩,B0⟩=some (F1 w os):=by
 rw[Fast.te14082659384304107361,Fast.te14364793385576792824];kernel_rfl
theorem Xg:behindTheImports PW=Mf++(Mg++(FV++(FX++(FY++(FZ++(F0++(F2++(F3++(F4++(F5++(F6++(F7++(F8++(F9++([]))))))))))))))):=by kernel_rfl
theorem run(w:World)(os:OsState):topRun treeTable PW w 11 an (12+(1+(318+(420+(320+(191+(223+(223+(380+(383+(375+(397+(501+(108+(378+(382+(79+(2)))))))))))))))))) ⟨boot_heap w.params,⟨[]⟩,boot_drawn,boot_toks,os⟩ (topStub PW)=some (F1 w os):=
 go_top (pre w os) (piece_block (Xf w os) (by rw[Xg];exact piece_app (segRun_of (p0 w os)) (piece_app (segRun_of (p1 w os)) (piece_app (segRun_of (p2 w os)) (piece_app (segRun_of (p3 w os)) (piece_app (segRun_of (p4 w os)) (piece_app (segRun_of (p5 w os)) (piece_app (segRun_of (p6 w os)) (piece_app (segRun_of (p7 w os)) (piece_app (segRun_of (p8 w os)) (piece_app (segRun_of (p9 w os)) (piece_app (segRun_of (Nn w os)) (piece_app (segRun_of (No w os)) (piece_app (segRun_of (Np w os)) (piece_app (segRun_of (Nq w os)) (piece_app (segRun_of (Nr w os)) (fin w os)))))))))))))))))
theorem e1:opening PW=plainProg PW.main.scope.names:=by kernel_rfl
theorem e2(s:Shared):fenceModules? PW s=some s:=by kernel_rfl
theorem size(w:World):((boot_heap w.params).isNs mainGlobals&&(⟨[]⟩:Array GenState).size==0,(boot_heap w.params).objs.size,(boot_heap w.params).nsMap mainGlobals (S "__annotations__"))=(true,11,an):=by kernel_rfl
theorem l1(w:World)(os:OsState):(staticsOk (importedModules PW.main.body) (boot_heap w.params) (Cm w.params)&&namesBound PW (Cm w.params)&&gensDone (F1 w os)&&laidKept (boot_heap w.params) (Cm w.params))=true:=by kernel_rfl
theorem l2(w:World)(os:OsState):seen ((recsOf view).map (·.name)) (ownsOf view) [] { F1 w os with gens:=#[] }=expectedOf view:=by rw[Fast.te5160383126252970620];kernel_rfl
theorem l3(w:World)(os:OsState):(F1 w os).heap.bltView=bltViewBooted:=by kernel_rfl
theorem l4(w:World)(os:OsState):((F1 w os).heap.keysOk (looseW view loose) ((recsOf view).map (·.name)) ((litsOf view).map (·.1)) ((clssOf view (looseW view loose)).map (·.name))&&(F1 w os).heap.accountedOkI (importedModules PW.main.body)&&(F1 w os).heap.isNs mainGlobals&&(F1 w os).heap.isNs builtinsNs&&tablesOk view (F1 w os).heap&&Xt (F1 w os)&&(if true then(F1 w os).gens.size==0 else !leftWithCleanup (F1 w os).gens))=true:=by kernel_rfl
theorem l5(w:World)(os:OsState):tabsOk view (F1 w os)=true:=by rw[Fast.te479339242167458305];kernel_rfl
theorem l6(w:World)(os:OsState):pinSeenD view (drecsOf view) (F1 w os)=pinGoodD (drecsOf view):=by kernel_rfl
theorem l7(w:World)(os:OsState):plainSeenE view (looseW view loose) (F1 w os)=plainGoodE view (looseW view loose):=by rw[Fast.te2386780881361962483];kernel_rfl
theorem l8(w:World)(os:OsState):plainSeenD view loose (F1 w os)=plainGoodD view loose:=by kernel_rfl
theorem l9(w:World)(os:OsState):wideSeen view (F1 w os)=wideGood view:=by rw[Fast.te7317090234206586261];kernel_rfl
theorem Xh(w:World)(os:OsState):clsSeenW view loose (F1 w os)=clsGoodW view loose:=by kernel_rfl
theorem Xi(w:World)(os:OsState):H.obs (F1 w os)=H.val w:=by kernel_rfl
theorem hl:LeftO PW view loose Xt H.obs H.val 9452 true:=
 LeftO.of_pieces (H₀:=boot_heap) (H₁:=Cm) (gs₀:=⟨[]⟩) (gs₁:=⟨[]⟩) (d₀:=boot_drawn) (d₁:={}) (k₀:=boot_toks) (k₁:=1243) (m₀:=11) (ann:=an) (M:=12+(1+(318+(420+(320+(191+(223+(223+(380+(383+(375+(397+(501+(108+(378+(382+(79+(2)))))))))))))))))) (boot_open e1 (by decide) e2) size run (by decide)
  λw=>funext λos=>looks_pair (l1 w os) (looks_pair (looks_pair (l2 w os) (looks_pair (l3 w os) (looks_pair (l4 w os) (looks_pair (l5 w os) (looks_pair (l6 w os) (looks_pair (l7 w os) (looks_pair (l8 w os) (looks_pair (l9 w os) (Xh w os))))))))) (Xi w os))
theorem well:PySem.Challenge.rw_sa0605_02.wellSaid=true:=by kernel_rfl
theorem Mh:(defOf view PySem.Challenge.rw_sa0605_02.row.name).isSome=true:=by kernel_rfl
noncomputable def dk:DefRec×List (Str×Expr):=(defOf view PySem.Challenge.rw_sa0605_02.row.name).get Mh
set_option maxHeartbeats 8000000 in
theorem top(hc:WalkO view loose (PySem.W.XL view []) H.says PySem.Challenge.rw_sa0605_02.row.toRowW dk.1 dk.2 λf vs=>PySem.call f vs):PySem.Challenge.rw_sa0605_02.Holds:=by
 refine holds_law well λVp=>?_
 refine PySem.W.holds_open (q:=view) (loose:=loose) (Xt:=Xt) (XP:=PySem.W.XL view []) (Yf:=H.obs) (Ya:=H.val) (YP:=H.says) (d:=dk.1) (kwd:=dk.2) hl H.of H.keeps (λs e=>xl_of s (lI.mp e).1) PySem.W.XL.keeps (Option.some_get Mh).symm (by kernel_rfl) (by kernel_rfl) (λs e=>recFacts_of (lI.mp e).2) (by rfl) Vp (by decide +kernel) ⟨rfl,rfl,rfl,rfl,rfl,by decide +kernel⟩ ?hw hc
 case hw=>w_witness2
end HD
end Mine
namespace Mine
namespace L2
noncomputable def ca:List Nat:=[94,208,449,526,589,145,166,187,132]
noncomputable def GG(x:Str):Option GV:=Mine.lj x gl
set_option maxRecDepth 100000 in
theorem Xj(P:Params):Dh (HD.KF P) fa ca gl pg.cls=true:=by kernel_rfl
set_option maxRecDepth 100000 in
theorem Xk(P:Params):jQ GG (HD.KF P) fns fa=true:=by kernel_rfl
set_option maxRecDepth 100000 in
theorem SU(P:Params):nsIn (HD.KF P) mainGlobals (Str.ofString "law")=some (some (.ref 690)):=by kernel_rfl
end L2
end Mine
set_option maxRecDepth 100000 in
set_option maxHeartbeats 8000000 in
theorem PySem.Challenge.cw_sa0605_02_holds : PySem.Challenge.rw_sa0605_02.Holds := by
 refine Mine.HD.top ?_
 intro w s₀ s₁ mg mb G Y fa o pm cd doc dV kV ho hd Xl hD Vq hg args vals as Vr Vs Xm iN cH
 have KX:=kIn_of Y
 refine Ground.open G ?_
 intro T B D TE TW
 wrow_args Vr Vs Xm iN cH
 rename_i ns _ _ _ _ _ _ _ p ws _ hL _ _ _ hI _ hlen _
 have Xn:fa=690:=by
  have h1:=mg_of KX T.g (Mine.L2.SU w.params)
  have h2:mg (Str.ofString "law")=some (.ref fa):=Vq
  rw[h1] at h2
  cases h2
  rfl
 have hn:ns.length<=63:=by omega
 obtain⟨H',hc⟩:=Mine.Q.L2.OI hn
 clear hd Xl hD Y Vq ho
 subst Xn
 let S:Mine.b0:=⟨PySem.Challenge.rw_sa0605_02.row.prog,w,Mine.L2.pg,Mine.HD.KF w.params,Mine.L2.fa,Mine.L2.ca,Mine.L2.GG,Mine.Ba (Mine.HD.KF w.params) p ws,s₁.heap⟩
 have C:Mine.Cx S:=Mine.RM (gl:=Mine.L2.gl) (p:=p) (ws:=ws) (λ_=>rfl) rfl KX T.nolimit T.g T.b T.builtins (Mine.L2.Xj w.params) (Mine.L2.Xk w.params)
 refine Mine.entry (S:=S) C (p:=p) (ws:=ws) (ns:=ns) (k:=78) (d:=100) (a:=690) rfl rfl hL hI (Nat.le_trans hn (by decide)) ⟨rfl,by decide +kernel,by decide +kernel⟩ rfl hc λh' tk kp=>?_
 have SW:PySem.Challenge.rw_sa0605_02.row.claim.post [ofPy (PyData.list (List.map PyData.int ns))] (WData.bool true) [ofPy (PyData.list (List.map PyData.int ns))]=true:=by
  first|rfl|wrow_post
 exact⟨.inl ⟨_,_,[],rfl,λ_=>rfl,ReadsW.bool true,SW,λ_=>⟨List.nodup_nil,λ_ hm=>(nomatch hm)⟩⟩,.of_keep kp,rfl,by rw[hg];exact AllBare.empty⟩
