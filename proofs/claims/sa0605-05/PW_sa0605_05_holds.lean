import PyProof.Rows.All
import Wide.All
import OpenK.AllK
import Wide.FinOn
import PySem.Challenge.RW_sa0605_05
open PySem PySem.W PyProof.Rows
set_option Elab.async false
set_option linter.unusedSimpArgs false
set_option linter.unusedVariables false
set_option genSizeOf false
set_option genInjectivity false
set_option bootstrap.genMatcherCode false
set_option maxRecDepth 10000
namespace Mine
def aE:=@Nat.le_refl
def aK:=@List.length_append
def bv:=@Nat.le_trans
def bx:=@Nat.le_of_eq
def cj:=@Option.some.inj
def cn:=@List.length_map
def cA:=@Ne.symm
def c9:=@List.length_cons
def db:=@List.mem_singleton
def dt:=@List.length_set
def cb:=@Nat.add_assoc
def cF:=@Nat.zero_le
def cG:=@List.append_assoc
def cJ:=@Bool.and_eq_true
def cP:=@Eq.symm
def dh:=@List.mem_append
def dp:=@Nat.ne_of_gt
def dq:=@Nat.le_add_right
def dB:=@List.getElem?_append_left
def dD:=@List.map_cons
def dE:=@List.map_append
def d8:=@Nat.lt_of_lt_of_le
def d9:=@Nat.ne_of_lt
def eC:=@List.mem_cons
def eD:=@Nat.le_succ_of_le
def eK:=@Nat.not_lt
def eL:=@Nat.le_add_left
def eS:=@List.getElem?_eq_some_iff
def eT:=@List.getElem?_append_right
def eU:=@List.append_nil
def fy:=@Nat.zero_add
def fz:=@List.all_eq_true
def fA:=@Nat.le_succ
def fW:=@List.size_toArray
def gb:=@List.reverse_cons
def gc:=@List.nodup_cons
def gC:=@Nat.add_le_add
def gZ:=@Nat.sub_self
def iC:=@Eq.trans
def iQ:=@List.getElem?_set_ne
def iR:=@Nat.add_comm
def iS:=@List.mem_append_left
def iT:=@Nat.le_of_succ_le_succ
def jh:=@Nat.le_of_lt
def jM:=@Nat.lt_of_le_of_lt
def jN:=@List.getElem?_map
def k8:=@Nat.le_antisymm
def lb:=@List.mem_of_getElem?
def lf:=@Nat.le_of_succ_le
def lG:=@Nat.succ_le_succ
def lH:=@List.mem_map
def lI:=@List.length_reverse
def lJ:=@Nat.lt_succ_self
def lK:=@List.mem_append_right
def lL:=@Nat.add_le_add_left
def nz:=@Bool.and_eq_true_iff
def nA:=@List.mem_flatMap
def nB:=@Nat.lt_trans
def nE:=@Nat.succ_pos
def nF:=@Int.natCast_nonneg
def oP:=@List.lookup_cons
def oQ:=@Nat.lt_irrefl
def oR:=@List.nil_append
def oS:=@List.map_id
def oT:=@Int.toNat_natCast
def oU:=@List.zip_cons_cons
def oW:=@Prod.mk.inj
def oX:=@Nat.lt_of_succ_lt_succ
def oY:=@List.set_set
def q8:=@List.foldl_cons
def q9:=@Int.natCast_pos
def rd:=@List.length_drop
def sJ:=@List.getElem?_eq_getElem
def sK:=@List.mem_range
def sM:=@List.getElem?_eq_none_iff
def sN:=@List.map_nil
def sO:=@List.reverse_nil
def vP:=@List.getElem?_of_mem
def vQ:=@List.map_reverse
def vR:=@Bool.false_eq_true
def vS:=@Nat.lt_succ_of_lt
def yZ:=@Nat.mul_le_mul_right
def za:=@List.nodup_append
def zb:=@List.cons_append
def zc:=@Int.add_sub_cancel
def zd:=@Nat.add_sub_cancel_left
def ze:=@PySem.F.plainAttrs_str
def zf:=@List.set_append_right
def DT:=@Option.isSome_iff_exists
def DU:=@List.getElem?_set_self
def DV:=@List.length_eq_zero_iff
def DW:=@List.length_take_le'
def DX:=@PySem.F.plainAttrs_list
def DY:=@List.getElem?_toArray
def DZ:=@Nat.le_add_right_of_le
end Mine
namespace Mine
theorem ff{p:Prop}(h:false=true):p:=by cases h
theorem nn{α:Type}{a:α}{p:Prop}(h:none=some a):p:=by cases h
inductive V where
 |none|bool (b:Bool)|int (i:Int)|str (s:List Nat)|tup (l:List V)|loc (n:Nat)|cQ (a b c:Int)|fn (k:Nat)|ro (l:List V)
inductive O where
 |list (l:List V)|dict (es:List (List Nat×V))|inst (c:Nat) (fs:List (Nat×V))
noncomputable abbrev Hp:=List O
noncomputable abbrev Lo:=List (Option V)
inductive jO where|add|sub|mul|fdiv|mod
inductive lw where|eq|ne|lt|le|gt|ge|is|fB|isin|nR
inductive BM where|append|pop|extend|reverse|join|replace|startswith|lstrip|split|get
inductive Pr where|len|abs|int|chr|ord|list|range|min|str
set_option genCtorIdx false in
inductive IK where|int|str|tuple|cls (k:Nat)
set_option genCtorIdx false in
inductive CT where|one (i:Nat)|many (is:List Nat)
set_option genCtorIdx false in
inductive ME where
 |bad
 |lit (v:V)|loc (i:Nat)|glob (v:V)
 |tup (es:List ME)|lst (es:List ME)|dict (es:List ME)
 |attr (e:ME) (a:Nat)|idx (e i:ME)|slice (e lo hi st:ME)
 |bin (op:jO) (a b:ME)|neg (a:ME)|not (a:ME)
 |cmp (op:lw) (a b:ME)|nG (op jC:lw) (a b c:ME)
 |and (es:List ME)|or (es:List ME)|aB (t a b:ME)
 |call (f:ME) (es:List ME)|new (c:Nat) (es:List ME)
 |bm (o:ME) (m:Nat) (es:List ME)|ba (o:ME) (m:BM) (es:List ME)
 |prim (p:Pr) (es:List ME)|isin (e:ME) (k:IK)
 |comp (elt src:ME) (t:CT) (k:Nat) (VF:List ME)
set_option genCtorIdx false in
inductive Tg where
 |loc (i:Nat)|attr (o:ME) (a:Nat)|idx (o i:ME)|tup (ts:List Tg)
set_option genCtorIdx false in
inductive MS where
 |bad
 |expr (e:ME)|ret (e:ME)|asg (t:Tg) (e:ME)|aug (i:Nat) (op:jO) (e:ME)|lh (o:ME) (a:Nat) (op:jO) (e:ME)
 |aB (t:ME) (b o:List MS)|lM (t:ME) (b:List MS)|for (t:CT) (it:ME) (b:List MS)|brk|cont
inductive Fl where|next|brk|cont|ret (v:V)
structure FI where
 np:Nat
 ns:Nat
 body:List MS
structure CI where
 init:Nat
 meths:List (Nat×Nat)
structure Pg where
 fns:List FI
 cls:List CI
noncomputable def lim:Nat:=1048576
noncomputable def big:Int:=1152921504606846976
noncomputable def gD{α β:Type}(f:α->Option β):List α->Option (List β)
 |[]=>some []
 |a::r=>match f a with
  |some b=>(match gD f r with|some bs=>some (b::bs)|Option.none=>Option.none)
  |Option.none=>Option.none
theorem sa{α β:Type}{f a r}:gD (α:=α) (β:=β) f (a::r)=(match f a with
 |some b=>(match gD f r with|some bs=>some (b::bs)|Option.none=>Option.none)
 |Option.none=>Option.none):=rfl
noncomputable def bz{α:Type}(k:List Nat):List (List Nat×α)->Option α
 |[]=>none
 |(j,v)::r=>if j==k then some v else bz k r
theorem zh{α:Type}{k}:bz (α:=α) k ([])=(none):=rfl
theorem eM{α:Type}{k j v r}:bz (α:=α) k ((j,v)::r)=(if j==k then some v else bz k r):=rfl
noncomputable def dF{α:Type}(k:List Nat)(v:α):List (List Nat×α)->List (List Nat×α)
 |[]=>[(k,v)]
 |(j,u)::r=>if j==k then(j,v)::r else(j,u)::dF k v r
theorem D0{α:Type}{k v}:dF (α:=α) k v ([])=([(k,v)]):=rfl
theorem sd{α:Type}{k v j u r}:dF (α:=α) k v ((j,u)::r)=(if j==k then(j,v)::r else(j,u)::dF k v r):=rfl
noncomputable def eF{α:Type}(k:Nat):List (Nat×α)->Option α
 |[]=>none
 |(j,v)::r=>if j==k then some v else eF k r
theorem jP{α:Type}{k}:eF (α:=α) k ([])=(none):=rfl
theorem iU{α:Type}{k j v r}:eF (α:=α) k ((j,v)::r)=(if j==k then some v else eF k r):=rfl
noncomputable def putN{α:Type}(k:Nat)(v:α):List (Nat×α)->List (Nat×α)
 |[]=>[(k,v)]
 |(j,u)::r=>if j==k then(j,v)::r else(j,u)::putN k v r
theorem oZ{α:Type}{k v}:putN (α:=α) k v ([])=([(k,v)]):=rfl
theorem o0{α:Type}{k v j u r}:putN (α:=α) k v ((j,u)::r)=(if j==k then(j,v)::r else(j,u)::putN k v r):=rfl
noncomputable def gM{β:Type}(a:V)(f:Int->Option β):Option β:=match a with|.int i=>f i|_=>none
noncomputable def zi{β:Type}(a:V)(f:List Nat->Option β):Option β:=match a with|.str s=>f s|_=>none
noncomputable def PR{β:Type}(a:V)(f:List V->Option β):Option β:=match a with|.tup s=>f s|_=>none
noncomputable def qs{β:Type}(a:V)(f:Nat->Option β):Option β:=match a with|.loc n=>f n|_=>none
noncomputable def iW{β:Type}(H:Hp)(n:Nat)(f:List V->Option β):Option β:=match H[n]? with|some (.list l)=>f l|_=>none
noncomputable def B3{β:Type}(H:Hp)(n:Nat)(f:List (List Nat×V)->Option β):Option β:=match H[n]? with|some (.dict l)=>f l|_=>none
noncomputable def zj{β:Type}(H:Hp)(n:Nat)(f:Nat->List (Nat×V)->Option β):Option β:=match H[n]? with|some (.inst c l)=>f c l|_=>none
noncomputable def F2{β:Type}(vs:List V)(f:Option β):Option β:=match vs with|[]=>f|_::_=>none
noncomputable def rL{β:Type}(vs:List V)(f:V->Option β):Option β:=match vs with|[]=>none|a::r=>F2 r (f a)
noncomputable def PT{β:Type}(vs:List V)(f:V->V->Option β):Option β:=match vs with|[]=>none|a::r=>rL r (f a)
noncomputable def gd{β:Type}(c:Prop)[Decidable c](x:β):Option β:=if c then some x else none
noncomputable def dat(H:Hp):Nat->V->Option PyData
 |0,_=>none
 |n+1,v=>match v with
  |.none=>some .none
  |.bool b=>some (.bool b)
  |.int i=>some (.int i)
  |.str s=>gd (s.all (· < 128)=true) (.str ⟨s.toArray⟩)
  |.tup l=>(gD (dat H n) l).map .tuple
  |.loc i=>iW H i λl=>(gD (dat H n) l).map .list
  |_=>none
noncomputable def fG(a:V):Bool:=match a with|.none=>true|_=>false
theorem zl{β:Type}{a:V}{f:Int->Option β}{r:β}(e:gM a f=some r){zg:Prop}(zk:∀ i,(a=.int i)->(f i=some r)->zg):zg:=by
 obtain⟨i,cR,cX⟩:∃ i,a=.int i/\f i=some r:=by
  induction a using V.casesOn <;> first|exact⟨_,rfl,e⟩|exact nn e
 exact zk i cR cX
theorem zm{β:Type}{a:V}{f:List Nat->Option β}{r:β}(e:zi a f=some r){zg:Prop}(zk:∀ i,(a=.str i)->(f i=some r)->zg):zg:=by
 obtain⟨i,cR,cX⟩:∃ i,a=.str i/\f i=some r:=by
  induction a using V.casesOn <;> first|exact⟨_,rfl,e⟩|exact nn e
 exact zk i cR cX
theorem zn{β:Type}{a:V}{f:List V->Option β}{r:β}(e:PR a f=some r){zg:Prop}(zk:∀ i,(a=.tup i)->(f i=some r)->zg):zg:=by
 obtain⟨i,cR,cX⟩:∃ i,a=.tup i/\f i=some r:=by
  induction a using V.casesOn <;> first|exact⟨_,rfl,e⟩|exact nn e
 exact zk i cR cX
theorem rh{β:Type}{a:V}{f:Nat->Option β}{r:β}(e:qs a f=some r){zg:Prop}(zk:∀ i,(a=.loc i)->(f i=some r)->zg):zg:=by
 obtain⟨i,cR,cX⟩:∃ i,a=.loc i/\f i=some r:=by
  induction a using V.casesOn <;> first|exact⟨_,rfl,e⟩|exact nn e
 exact zk i cR cX
theorem bj{β:Type}{H:Hp}{n:Nat}{f:List V->Option β}{r:β}(e:iW H n f=some r){zg:Prop}(zk:∀ l,(H[n]?=some (.list l))->(f l=some r)->zg):zg:=by
 obtain⟨l,cR,cX⟩:∃ l,H[n]?=some (.list l)/\f l=some r:=by
   unfold iW at e
   generalize H[n]?=o at e ⊢
   induction o with
  |none=>exact nn e
  |some o=>induction o with
    |list l=>exact⟨l,rfl,e⟩
    |_=>exact nn e
 exact zk l cR cX
theorem lN{β:Type}{H:Hp}{n:Nat}{f:List (List Nat×V)->Option β}{r:β}(e:B3 H n f=some r){zg:Prop}(zk:∀ l,(H[n]?=some (.dict l))->(f l=some r)->zg):zg:=by
 obtain⟨l,cR,cX⟩:∃ l,H[n]?=some (.dict l)/\f l=some r:=by
   unfold B3 at e
   generalize H[n]?=o at e ⊢
   induction o with
  |none=>exact nn e
  |some o=>induction o with
    |dict l=>exact⟨l,rfl,e⟩
    |_=>exact nn e
 exact zk l cR cX
theorem rj{β:Type}{H:Hp}{n:Nat}{f:Nat->List (Nat×V)->Option β}{r:β}(e:zj H n f=some r){zg:Prop}(zk:∀ c l,(H[n]?=some (.inst c l))->(f c l=some r)->zg):zg:=by
 obtain⟨c,l,cR,cX⟩:∃ c l,H[n]?=some (.inst c l)/\f c l=some r:=by
   unfold zj at e
   generalize H[n]?=o at e ⊢
   induction o with
  |none=>exact nn e
  |some o=>induction o with
    |inst c l=>exact⟨c,l,rfl,e⟩
    |_=>exact nn e
 exact zk c l cR cX
theorem vT{β:Type}{vs:List V}{f:Option β}{r:β}(e:F2 vs f=some r):vs=[]/\f=some r:=by
  induction vs using List.casesOn with
 |nil=>exact⟨rfl,e⟩
 |cons a l=>exact nn e
theorem rm{β:Type}{vs:List V}{f:V->Option β}{r:β}(e:rL vs f=some r){zg:Prop}(zk:∀ a,(vs=[a])->(f a=some r)->zg):zg:=by
  induction vs using List.casesOn with
 |nil=>exact nn e
 |cons a l=>obtain⟨rfl,e⟩:=vT (vs:=l) e;exact zk a rfl e
theorem F3{β:Type}{vs:List V}{f:V->Option β}{r:β}(e:rL vs f=some r):∃ a,vs=[a]/\f a=some r:=rm e λa cR cX=>⟨a,cR,cX⟩
theorem zo{β:Type}{vs:List V}{f:V->V->Option β}{r:β}(e:PT vs f=some r){zg:Prop}(zk:∀ a b,(vs=[a,b])->(f a b=some r)->zg):zg:=by
  induction vs using List.casesOn with
 |nil=>exact nn e
 |cons a l=>obtain⟨b,rfl,e⟩:=F3 (vs:=l) e;exact zk a b rfl e
theorem cT{β:Type}{c:Prop}[Decidable c]{x r:β}(e:gd c x=some r):c/\x=r:=by
 unfold gd at e
 by_cases h:c
 ·rw[if_pos h] at e;exact⟨h,cj e⟩
 ·rw[if_neg h] at e;exact nn e
theorem kr{β:Type}{c:Prop}[Decidable c]{x r:β}(e:gd c x=some r){zg:Prop}(zk:c->x=r->zg):zg:=zk (cT e).1 (cT e).2
theorem bK{α β:Type}{o:Option α}{f:α->β}{r:β}(e:o.map f=some r){zg:Prop}(zk:∀ a,(o=some a)->(f a=r)->zg):zg:=by
  induction o with
 |none=>exact nn e
 |some a=>exact zk a rfl (cj e)
theorem lO{a:V}(h:fG a=true):a=.none:=by induction a using V.casesOn <;> first|rfl|exact ff h
noncomputable def xj(H:Hp)(a b:V):Option Bool:=match dat H 8 a with
 |some x=>(match dat H 8 b with|some y=>some (PyData.eqv x y)|none=>none)
 |none=>none
theorem rn{H:Hp}{a b:V}{r:Bool}(e:xj H a b=some r){zg:Prop}(zk:∀ x y,(dat H 8 a=some x)->(dat H 8 b=some y)->(PyData.eqv x y=r)->zg):zg:=by
 obtain⟨x,y,cR,cX,io⟩:∃ x y,dat H 8 a=some x/\dat H 8 b=some y/\PyData.eqv x y=r:=by
   unfold xj at e
   cases h:dat H 8 a with
  |none=>rw[h] at e;exact nn e
  |some x=>
     rw[h] at e
     cases h':dat H 8 b with
    |none=>rw[h'] at e;exact nn e
    |some y=>rw[h'] at e;exact⟨x,y,rfl,rfl,cj e⟩
 exact zk x y cR cX io
noncomputable def D9(H:Hp)(a b:V):Option (Option Bool):=match a with
 |.str s=>(match b with|.str t=>some (some (s==t))|_=>none)
 |.int i=>(match b with|.int j=>some (some (i==j))|_=>none)
 |.tup _=>(match b with|.str _=>some (some false)|_=>none)
 |_=>none
noncomputable def PU(H:Hp)(a b:V):Option Bool:=match D9 H a b with
 |some r=>r
 |none=>xj H a b
noncomputable def LP:List Nat->List Nat->Bool
 |[],_=>true
 |_::_,[]=>false
 |a::r,b::t=>a==b&&LP r t
noncomputable def strsOf:List V->Option (List (List Nat))
 |[]=>some []
 |.str s::r=>(match strsOf r with|some l=>some (s::l)|none=>none)
 |_=>none
theorem F4{s r}:strsOf (.str s::r)=((match strsOf r with|some l=>some (s::l)|none=>none)):=rfl
noncomputable def iX{β:Type}(l:List V)(f:List (List Nat)->Option β):Option β:=match strsOf l with|some ss=>f ss|none=>none
theorem lj{β:Type}{l:List V}{f:List (List Nat)->Option β}{r:β}(e:iX l f=some r){zg:Prop}(zk:∀ ss,(strsOf l=some ss)->(f ss=some r)->zg):zg:=by
 obtain⟨ss,cR,cX⟩:∃ ss,strsOf l=some ss/\f ss=some r:=by
   unfold iX at e
   cases h:strsOf l with
  |none=>rw[h] at e;exact nn e
  |some ss=>rw[h] at e;exact⟨ss,rfl,e⟩
 exact zk ss cR cX
noncomputable def Il(H:Hp)(a b:V):Option Bool:=zi a λs=>match b with
 |.str t=>(match s with|[c]=>some (t.contains c)|_=>none)
 |.tup l=>iX l λss=>some (ss.any (·==s))
 |.loc n=>iW H n λl=>iX l λss=>some (ss.any (·==s))
 |_=>none
noncomputable def intsOf:List V->Option (List Int)
 |[]=>some []
 |.int i::r=>(match intsOf r with|some l=>some (i::l)|none=>none)
 |_=>none
noncomputable def ltV(H:Hp)(a b:V):Option Bool:=match a with
 |.int i=>gM b λj=>some (decide (i<j))
 |_=>none
noncomputable def Ea(a b:V):Option Bool:=zi a λs=>zi b λt=>some (!(s==t))
noncomputable def PV(H:Hp)(a b:V):Option Bool:=match Ea a b with
 |some r=>some r
 |none=>(xj H a b).map (!·)
noncomputable def sP(a b:V):Option Bool:=if fG b then some (fG a) else none
noncomputable def bY(H:Hp)(op:lw)(a b:V):Option Bool:=match op with
 |.eq=>PU H a b
 |.ne=>PV H a b
 |.lt=>ltV H a b
 |.le=>gM a λi=>gM b λj=>some (decide (i<=j))
 |.gt=>gM a λi=>gM b λj=>some (decide (j<i))
 |.ge=>none
 |.is=>sP a b
 |.fB=>(sP a b).map (!·)
 |.isin=>Il H a b
 |.nR=>(Il H a b).map (!·)
noncomputable def Ox(a b:V)(H:Hp):Option (V×Hp):=match a with
 |.int i=>gM b λj=>some (.int (i+j),H)
 |.str s=>zi b λt=>gd (s.length+t.length<=lim) (.str (s++t),H)
 |.tup s=>PR b λt=>gd (s.length+t.length<=lim) (.tup (s++t),H)
 |.loc i=>qs b λj=>iW H i λl=>iW H j λm=>gd (l.length+m.length<=lim) (.loc H.length,H++[.list (l++m)])
 |_=>none
noncomputable def Oy(a b:V)(H:Hp):Option (V×Hp):=match a with
 |.int i=>gM b λj=>gd (i.natAbs<1152921504606846976/\j.natAbs<1152921504606846976) (.int (i*j),H)
 |_=>none
noncomputable def zp(op:jO)(a b:V)(H:Hp):Option (V×Hp):=match op with
 |.add=>Ox a b H
 |.sub=>gM a λi=>gM b λj=>some (.int (i-j),H)
 |.mul=>Oy a b H
 |.fdiv=>gM a λi=>gM b λj=>gd (0<j/\i.natAbs<1152921504606846976/\j<1152921504606846976) (.int (i / j),H)
 |.mod=>gM a λi=>gM b λj=>gd (0<j) (.int (i % j),H)
noncomputable def lk(op:jO)(a b:V):Option V:=gM a λi=>gM b λj=>match op with
 |.add=>some (.int (i+j))
 |.fdiv=>gd (0<j/\i.natAbs<1152921504606846976/\j<1152921504606846976) (.int (i / j))
 |_=>none
noncomputable def eO{α:Type}(l:List α)(i:Int):Option α:=if 0<=i then l[i.toNat]? else none
noncomputable def gE(H:Hp)(a i:V):Option V:=match a with
 |.tup l=>gM i (eO l)
 |.str s=>gM i λi=>(eO s i).map λc=>.str [c]
 |.loc n=>(match i with
  |.int i=>iW H n λl=>eO l i
  |.str k=>B3 H n (bz k)
  |_=>none)
 |_=>none
noncomputable def qt{β:Type}(a:V)(x:Option β):Option β:=if fG a then x else none
theorem ji{β:Type}{a:V}{x:Option β}{r:β}(e:qt a x=some r):a=.none/\x=some r:=by
  unfold qt at e
  cases h:fG a with
 |true=>rw[h] at e;exact⟨lO h,e⟩
 |false=>rw[h] at e;exact nn e
noncomputable def Eb{α:Type}(l:List α)(lo hi st:V):Option (List α):=qt lo (match hi with
 |.none=>gM st λk=>gd (k=-1) l.reverse
 |.int j=>(match st with
  |.none=>gd (0<=j) (l.take j.toNat)
  |.int k=>gd (j=0/\k=-1) (l.drop 1).reverse
  |_=>none)
 |_=>none)
noncomputable def Oz{β:Type}(v:V)(f:Nat->Option β):Option β:=match v with
 |.none=>f 0
 |.int i=>if 0<=i then f i.toNat else none
 |_=>none
noncomputable def Io{β:Type}(v:V)(f:Nat->β)(d:β):Option β:=match v with
 |.none=>some d
 |.int j=>gd (0<=j) (f j.toNat)
 |_=>none
noncomputable def Ec{α:Type}(l:List α)(lo hi st:V):Option (List α):=qt st (Oz lo λi=>Io hi (λj=>(l.take j).drop i) (l.drop i))
noncomputable def mL(a lo hi st:V)(H:Hp):Option (V×Hp):=match a with
 |.str s=>(Ec s lo hi st).map λt=>(.str t,H)
 |.ro l=>qt lo (qt st (gM hi λj=>gd (0<=j) (.loc H.length,H++[.list (l.take j.toNat)])))
 |.loc n=>iW H n λl=>(Eb l lo hi st).map λt=>(.loc H.length,H++[.list t])
 |_=>none
noncomputable def VG:V->Option Nat
 |.int _=>some 0
 |.bool _=>some 1
 |.none=>some 2
 |.str _=>some 3
 |.tup _=>some 4
 |_=>none
noncomputable def Ip(n:Nat):IK->Option Bool
 |.int=>some (decide (n<2))
 |.str=>some (n==3)
 |.tuple=>some (n==4)
 |.cls _=>if n==0 || n==3 then some false else none
noncomputable def xk(v:V)(k:IK):Option Bool:=match VG v with
 |some n=>Ip n k
 |none=>none
noncomputable def fK(a b _c:Int):Nat:=(b-a).toNat
noncomputable def rq(a c:Int):Nat->List Int
 |0=>[]
 |n+1=>a::rq (a+c) c n
theorem Ed{a c n}:rq a c (n+1)=(a::rq (a+c) c n):=rfl
noncomputable def OA:Int->List Int->Int
 |m,[]=>m
 |m,a::r=>OA (if a<m then a else m) r
noncomputable def Ee(a:V)(H:Hp):Option Nat:=match a with
 |.str s=>some s.length
 |.tup s=>some s.length
 |.loc n=>iW H n λl=>some l.length
 |_=>none
noncomputable def OB(a:V):Option Int:=match a with
 |.int i=>some i
 |_=>none
noncomputable def B4(a:V)(H:Hp):Option (List V):=match a with
 |.tup l=>some l
 |.cQ a b c=>gd (fK a b c<=1024/\a.natAbs<1048576/\b.natAbs<1048576/\c=1) ((rq a c (fK a b c)).map .int)
 |_=>none
noncomputable def Ef(vs:List V):Option V:=match vs with
 |[]=>none
 |x::r=>gM x λa=>match r with
  |[]=>gd (a.natAbs<1048576) (.cQ 0 a 1)
  |y::r=>gM y λb=>F2 r (gd (a.natAbs<1048576/\b.natAbs<1048576) (.cQ a b 1))
noncomputable def XI(H:Hp)(n:Nat):Option V:=iW H n λl=>(match intsOf l with|some (a::r)=>some (.int (OA a r))|_=>none)
noncomputable def lP(p:Pr)(vs:List V)(H:Hp):Option (V×Hp):=match p with
 |.len=>rL vs λa=>(Ee a H).map λ(n:Nat)=>(V.int (n:Int),H)
 |.abs=>rL vs λa=>gM a λi=>some (.int i.natAbs,H)
 |.int=>rL vs λa=>(OB a).map λn=>(.int n,H)
 |.chr=>rL vs λa=>gM a λi=>gd (0<=i/\i<128) (.str [i.toNat],H)
 |.ord=>none
 |.list=>rL vs λa=>(B4 a H).map λl=>(.loc H.length,H++[.list l])
 |.range=>(Ef vs).map λv=>(v,H)
 |.min=>none
 |.str=>none
noncomputable def iY:List (List Nat)->List Nat
 |[]=>[]
 |s::r=>s++iY r
theorem LQ :iY ([])=([]):=rfl
theorem xl{s r}:iY (s::r)=(s++iY r):=rfl
noncomputable def Iq(cs:List Nat):List Nat->List Nat
 |[]=>[]
 |c::r=>if cs.contains c then Iq cs r else c::r
noncomputable def Eg(c:Nat):List Nat->List (List Nat)
 |[]=>[[]]
 |d::r=>if d==c then []::Eg c r else(match Eg c r with|w::ws=>(d::w)::ws|[]=>[[d]])
noncomputable def zq:List Nat->List Nat
 |40::41::r=>zq r
 |c::r=>c::zq r
 |[]=>[]
noncomputable def xm(H:Hp)(n:Nat):Option V:=iW H n λl=>iX l λss=>gd ((iY ss).length<=lim) (.str (iY ss))
noncomputable def XK(v:V)(x:List Nat):Bool:=match v with|.str s=>s==x|_=>false
noncomputable def sQ(m:BM)(o:V)(vs:List V)(H:Hp):Option (V×Hp):=match m with
 |.append=>qs o λn=>rL vs λv=>iW H n λl=>gd (l.length<lim) (.none,H.set n (.list (l++[v])))
 |.pop=>qs o λn=>F2 vs (iW H n λl=>(match l.getLast? with|some v=>some (v,H.set n (.list l.dropLast))|none=>none))
 |.extend=>qs o λn=>rL vs λa=>qs a λk=>iW H n λl=>iW H k λm=>gd (n≠k/\l.length+m.length<lim) (.none,H.set n (.list (l++m)))
 |.reverse=>qs o λn=>F2 vs (iW H n λl=>some (.none,H.set n (.list l.reverse)))
 |.join=>zi o λs=>rL vs λa=>qs a λn=>(match s with|[]=>(xm H n).map λv=>(v,H)|_::_=>none)
 |.replace=>none
 |.startswith=>none
 |.lstrip=>none
 |.split=>none
 |.get=>qs o λn=>PT vs λa d=>zi a λk=>B3 H n λes=>some ((bz k es).getD d,H)
noncomputable def vm(m:BM)(o:V)(H:Hp):Bool:=match o with
 |.str _=>(match m with|.join=>true|.replace=>true|.startswith=>true|.lstrip=>true|.split=>true|_=>false)
 |.loc n=>(match H[n]? with
  |some (.list _)=>(match m with|.append=>true|.pop=>true|.extend=>true|.reverse=>true|_=>false)
  |some (.dict _)=>(match m with|.get=>true|_=>false)
  |_=>false)
 |_=>false
noncomputable def lQ(H:Hp)(o:V)(a:Nat):Option V:=qs o λn=>zj H n λ_ fs=>eF a fs
noncomputable def jQ(H:Hp)(o:V)(a:Nat)(v:V):Option Hp:=qs o λn=>zj H n λc fs=>some (H.set n (.inst c (putN a v fs)))
noncomputable def sR(H:Hp)(o i v:V):Option Hp:=qs o λn=>match i with
 |.int i=>iW H n λl=>gd (0<=i/\i.toNat<l.length) (H.set n (.list (l.set i.toNat v)))
 |.str k=>B3 H n λes=>gd (es.length<1024) (H.set n (.dict (dF k v es)))
 |_=>none
set_option genCtorIdx false in
inductive It where
 |seq (l:List V)|lst (n i:Nat)|cQ (a c:Int) (k:Nat)
noncomputable def gN(H:Hp)(v:V):Option It:=match v with
 |.tup l=>some (.seq l)
 |.str s=>gd (s.all (· < 128)=true) (.seq (s.map λc=>.str [c]))
 |.loc n=>iW H n λ_=>some (.lst n 0)
 |.cQ a b c=>gd (a.natAbs<1048576/\b.natAbs<1048576/\c=1) (.cQ a c (fK a b c))
 |_=>none
noncomputable def du(H:Hp):It->Option (Option (V×It))
 |.seq []=>some none
 |.seq (v::r)=>some (some (v,.seq r))
 |.lst n i=>iW H n λl=>(match l[i]? with|some v=>some (some (v,.lst n (i+1)))|none=>some none)
 |.cQ _ _ 0=>some none
 |.cQ a c (k+1)=>some (some (.int a,.cQ (a+c) c k))
theorem zr{H n i}:du H (.lst n i)=(iW H n λl=>(match l[i]? with|some v=>some (some (v,.lst n (i+1)))|none=>some none)):=rfl
noncomputable def g7:List Nat->List V->Lo->Option Lo
 |[],[],l=>some l
 |i::is,v::vs,l=>g7 is vs (l.set i (some v))
 |_,_,_=>none
theorem nS{l}:g7 ([]) ([]) l=(some l):=rfl
theorem nT{i is v vs l}:g7 (i::is) (v::vs) l=(g7 is vs (l.set i (some v))):=rfl
noncomputable def eG(t:CT)(v:V)(l:Lo):Option Lo:=match t with
 |.one i=>some (l.set i (some v))
 |.many is=>(match v with|.tup vs=>g7 is vs l|_=>none)
noncomputable def bw{α β:Type}(m:Option (α×Hp))(f:α->Hp->Option β):Option β:=match m with
 |some (a,H)=>f a H
 |none=>none
noncomputable abbrev bT:=Nat->List V->Hp->Option (V×Hp)
noncomputable def dw(cond:Lo->Hp->Option (Bool×Hp))(elt:Lo->Hp->Option (V×Hp))(t:CT)(l:Lo):Nat->It->List V->Hp->Option (List V×Hp)
 |0,_,_,_=>none
 |n+1,it,acc,H=>match du H it with
  |none=>none
  |some none=>some (acc.reverse,H)
  |some (some (v,eB))=>(match eG t v l with
   |none=>none
   |some l'=>bw (cond l' H) λb H'=>if b then bw (elt l' H') λr PX=>dw cond elt t l n eB (r::acc) PX else dw cond elt t l n eB acc H')
theorem Ir{cond elt t l ip B5 VH}:dw cond elt t l 0 ip B5 VH=(none):=rfl
theorem o5{cond elt t l n it acc H}:dw cond elt t l (n+1) it acc H=(match du H it with
 |none=>none
 |some none=>some (acc.reverse,H)
 |some (some (v,eB))=>(match eG t v l with
  |none=>none
  |some l'=>bw (cond l' H) λb H'=>if b then bw (elt l' H') λr PX=>dw cond elt t l n eB (r::acc) PX else dw cond elt t l n eB acc H')):=rfl
section
variable (P:Pg)(call:bT)
mutual
noncomputable def av:ME->Lo->Hp->Option (V×Hp)
 |.bad,_,_=>none
 |.lit v,_,H=>some (v,H)
 |.loc i,l,H=>(match l[i]? with|some (some v)=>some (v,H)|_=>none)
 |.glob v,_,H=>some (v,H)
 |.tup es,l,H=>bw (ek es l H) λvs H=>some (.tup vs,H)
 |.lst es,l,H=>bw (ek es l H) λvs H=>some (.loc H.length,H++[.list vs])
 |.dict es,l,H=>bw (jf es l H) λes H=>some (.loc H.length,H++[.dict es])
 |.attr e a,l,H=>bw (av e l H) λo H=>(match lQ H o a with|some v=>some (v,H)|none=>none)
 |.idx e i,l,H=>bw (av e l H) λo H=>bw (av i l H) λi H=>(match gE H o i with|some v=>some (v,H)|none=>none)
 |.slice e lo hi st,l,H=>bw (av e l H) λo H=>bw (av lo l H) λlo H=>bw (av hi l H) λhi H=>bw (av st l H) λst H=>mL o lo hi st H
 |.bin op a b,l,H=>bw (av a l H) λa H=>bw (av b l H) λb H=>zp op a b H
 |.neg a,l,H=>bw (av a l H) λa H=>(match a with|.int i=>some (.int (-i),H)|_=>none)
 |.not a,l,H=>bw (av a l H) λa H=>(match a with|.bool b=>some (.bool (!b),H)|_=>none)
 |.cmp op a b,l,H=>bw (av a l H) λa H=>bw (av b l H) λb H=>(match bY H op a b with|some r=>some (.bool r,H)|none=>none)
 |.nG op jC a b c,l,H=>bw (av a l H) λa H=>bw (av b l H) λb H=>(match bY H op a b with
  |some true=>bw (av c l H) λc H=>(match bY H jC b c with|some r=>some (.bool r,H)|none=>none)
  |some false=>some (.bool false,H)
  |none=>none)
 |.and es,l,H=>jD es l H
 |.or es,l,H=>o6 es l H
 |.aB t a b,l,H=>bw (av t l H) λt H=>(match t with|.bool true=>av a l H|.bool false=>av b l H|_=>none)
 |.call f es,l,H=>bw (av f l H) λf H=>bw (ek es l H) λvs H=>(match f with|.fn k=>call k vs H|_=>none)
 |.new c es,l,H=>bw (ek es l H) λvs H=>(match P.cls[c]? with
  |some ci=>bw (call ci.init (.loc H.length::vs) (H++[.inst c []])) λr H'=>(match r with|.none=>some (.loc H.length,H')|_=>none)
  |none=>none)
 |.bm o m es,l,H=>bw (av o l H) λo H=>(match o with
  |.loc n=>(match H[n]? with
   |some (.inst c _)=>(match P.cls[c]? with
    |some ci=>(match eF m ci.meths with
      |some k=>bw (ek es l H) λvs H=>call k (o::vs) H
      |none=>none)
    |none=>none)
   |_=>none)
  |_=>none)
 |.ba o m es,l,H=>bw (av o l H) λo H=>if vm m o H then bw (ek es l H) λvs H=>sQ m o vs H else none
 |.prim p es,l,H=>bw (ek es l H) λvs H=>lP p vs H
 |.isin e k,l,H=>bw (av e l H) λv H=>(match xk v k with|some b=>some (.bool b,H)|none=>none)
 |.comp elt src t k cs,l,H=>bw (av src l H) λs H=>(match gN H s with
  |some it=>bw (dw (λl H=>nU cs l H) (λl H=>av elt l H) t (l++List.replicate k none) 1048576 it [] H) λvs H=>
     if vs.length<=lim then some (.loc H.length,H++[.list vs]) else none
  |none=>none)
noncomputable def ek:List ME->Lo->Hp->Option (List V×Hp)
 |[],_,H=>some ([],H)
 |e::r,l,H=>bw (av e l H) λv H=>bw (ek r l H) λvs H=>some (v::vs,H)
noncomputable def jf:List ME->Lo->Hp->Option (List (List Nat×V)×Hp)
 |[],_,H=>some ([],H)
 |[_],_,_=>none
 |k::v::r,l,H=>bw (av k l H) λk H=>bw (av v l H) λv H=>bw (jf r l H) λes H=>(match k with
  |.str s=>if(bz s es).isNone then some ((s,v)::es,H) else none
  |_=>none)
noncomputable def jD:List ME->Lo->Hp->Option (V×Hp)
 |[],_,H=>some (.bool true,H)
 |e::r,l,H=>bw (av e l H) λv H=>(match v with|.bool true=>jD r l H|.bool false=>some (.bool false,H)|_=>none)
noncomputable def o6:List ME->Lo->Hp->Option (V×Hp)
 |[],_,H=>some (.bool false,H)
 |e::r,l,H=>bw (av e l H) λv H=>(match v with|.bool false=>o6 r l H|.bool true=>some (.bool true,H)|_=>none)
noncomputable def nU:List ME->Lo->Hp->Option (Bool×Hp)
 |[],_,H=>some (true,H)
 |_::_,_,_=>none
end
theorem PY{ip H}:nU P call ([]) ip H=(some (true,H)):=rfl
theorem PZ{e r l H}:nU P call (e::r) l H=none:=rfl
theorem Eh{ip H}:o6 P call ([]) ip H=(some (.bool false,H)):=rfl
theorem Ei{e r l H}:o6 P call (e::r) l H=(bw (av P call e l H) λv H=>(match v with|.bool false=>o6 P call r l H|.bool true=>some (.bool true,H)|_=>none)):=rfl
theorem sS{ip H}:jD P call ([]) ip H=(some (.bool true,H)):=rfl
theorem sT{e r l H}:jD P call (e::r) l H=(bw (av P call e l H) λv H=>(match v with|.bool true=>jD P call r l H|.bool false=>some (.bool false,H)|_=>none)):=rfl
theorem Iu{ip H}:ek P call ([]) ip H=(some ([],H)):=rfl
theorem Iv{e r l H}:ek P call (e::r) l H=(bw (av P call e l H) λv H=>bw (ek P call r l H) λvs H=>some (v::vs,H)):=rfl
end
noncomputable def zt{β:Type}(m:Option (Lo×Hp))(f:Lo->Hp->Option β):Option β:=match m with
 |some (l,H)=>f l H
 |none=>none
noncomputable def jj(H:Hp)(v:V):Option (List V):=match v with
 |.tup vs=>some vs
 |.loc n=>iW H n some
 |_=>none
section
variable (ev:ME->Lo->Hp->Option (V×Hp))
mutual
noncomputable def eV:Tg->V->Lo->Hp->Option (Lo×Hp)
 |.loc i,v,l,H=>some (l.set i (some v),H)
 |.attr o a,v,l,H=>bw (ev o l H) λo H=>(match jQ H o a v with|some H=>some (l,H)|none=>none)
 |.idx o i,v,l,H=>bw (ev o l H) λo H=>bw (ev i l H) λi H=>(match sR H o i v with|some H=>some (l,H)|none=>none)
 |.tup ts,v,l,H=>(match jj H v with|some vs=>dM ts vs l H|none=>none)
noncomputable def dM:List Tg->List V->Lo->Hp->Option (Lo×Hp)
 |[],[],l,H=>some (l,H)
 |t::ts,v::vs,l,H=>zt (eV t v l H) λl H=>dM ts vs l H
 |_,_,_,_=>none
end
theorem Ej{i v l H}:eV ev (.loc i) v l H=(some (l.set i (some v),H)):=rfl
theorem LR{ts v l H}:eV ev (.tup ts) v l H=((match jj H v with|some vs=>dM ev ts vs l H|none=>none)):=rfl
theorem zu{l H}:dM ev ([]) ([]) l H=(some (l,H)):=rfl
theorem o7{t ts v vs l H}:dM ev (t::ts) (v::vs) l H=(zt (eV ev t v l H) λl H=>dM ev ts vs l H):=rfl
end
noncomputable abbrev SR:=Option (Fl×Lo×Hp)
noncomputable def dG(t:Lo->Hp->Option (V×Hp))(b:Lo->Hp->SR):Nat->Lo->Hp->SR
 |0,_,_=>none
 |n+1,l,H=>bw (t l H) λv H=>(match v with
  |.bool false=>some (.next,l,H)
  |.bool true=>(match b l H with
   |some (.next,l,H)=>dG t b n l H
   |some (.cont,l,H)=>dG t b n l H
   |some (.brk,l,H)=>some (.next,l,H)
   |some (.ret v,l,H)=>some (.ret v,l,H)
   |none=>none)
  |_=>none)
theorem mM{t b n l H}:dG t b (n+1) l H=(bw (t l H) λv H=>(match v with
 |.bool false=>some (.next,l,H)
 |.bool true=>(match b l H with
  |some (.next,l,H)=>dG t b n l H
  |some (.cont,l,H)=>dG t b n l H
  |some (.brk,l,H)=>some (.next,l,H)
  |some (.ret v,l,H)=>some (.ret v,l,H)
  |none=>none)
 |_=>none)):=rfl
noncomputable def dX(t:CT)(b:Lo->Hp->SR):Nat->It->Lo->Hp->SR
 |0,_,_,_=>none
 |n+1,it,l,H=>match du H it with
  |none=>none
  |some none=>some (.next,l,H)
  |some (some (v,eB))=>(match eG t v l with
   |none=>none
   |some l=>(match b l H with
    |some (.next,l,H)=>dX t b n eB l H
    |some (.cont,l,H)=>dX t b n eB l H
    |some (.brk,l,H)=>some (.next,l,H)
    |some (.ret v,l,H)=>some (.ret v,l,H)
    |none=>none))
theorem o8{t b n it l H}:dX t b (n+1) it l H=(match du H it with
 |none=>none
 |some none=>some (.next,l,H)
 |some (some (v,eB))=>(match eG t v l with
  |none=>none
  |some l=>(match b l H with
   |some (.next,l,H)=>dX t b n eB l H
   |some (.cont,l,H)=>dX t b n eB l H
   |some (.brk,l,H)=>some (.next,l,H)
   |some (.ret v,l,H)=>some (.ret v,l,H)
   |none=>none))):=rfl
section
variable (P:Pg)(call:bT)
mutual
noncomputable def cU:MS->Lo->Hp->SR
 |.bad,_,_=>none
 |.expr e,l,H=>bw (av P call e l H) λ_ H=>some (.next,l,H)
 |.ret e,l,H=>bw (av P call e l H) λv H=>some (.ret v,l,H)
 |.asg t e,l,H=>bw (av P call e l H) λv H=>zt (eV (av P call) t v l H) λl H=>some (.next,l,H)
 |.aug i op e,l,H=>(match l[i]? with
  |some (some a)=>bw (av P call e l H) λb H=>(match lk op a b with|some r=>some (.next,l.set i (some r),H)|none=>none)
  |_=>none)
 |.lh o a op e,l,H=>bw (av P call o l H) λo H=>(match lQ H o a with
  |some x=>bw (av P call e l H) λb H=>(match lk op x b with|some r=>(match jQ H o a r with|some H=>some (.next,l,H)|none=>none)|none=>none)
  |none=>none)
 |.aB t b o,l,H=>bw (av P call t l H) λv H=>(match v with|.bool true=>aS b l H|.bool false=>aS o l H|_=>none)
 |.lM t b,l,H=>dG (av P call t) (λl H=>aS b l H) 1048576 l H
 |.for t e b,l,H=>bw (av P call e l H) λv H=>(match gN H v with
  |some it=>dX t (λl H=>aS b l H) 1048576 it l H
  |none=>none)
 |.brk,l,H=>some (.brk,l,H)
 |.cont,l,H=>some (.cont,l,H)
noncomputable def aS:List MS->Lo->Hp->SR
 |[],l,H=>some (.next,l,H)
 |s::r,l,H=>match cU s l H with
  |some (.next,l,H)=>aS r l H
  |x=>x
end
theorem P0{l H}:aS P call ([]) l H=(some (.next,l,H)):=rfl
end
noncomputable def ae(P:Pg):Nat->bT
 |0,_,_,_=>none
 |d+1,f,vs,H=>match P.fns[f]? with
  |some fi=>if vs.length=fi.np then(match aS P (ae P d) fi.body (vs.map some++List.replicate (fi.ns-fi.np) none) H with
   |some (.ret v,_,H)=>some (v,H)
   |some (.next,_,H)=>some (.none,H)
   |_=>none) else none
  |none=>none
theorem sU{P d f vs H}:ae P (d+1) f vs H=(match P.fns[f]? with
 |some fi=>if vs.length=fi.np then(match aS P (ae P d) fi.body (vs.map some++List.replicate (fi.ns-fi.np) none) H with
  |some (.ret v,_,H)=>some (v,H)
  |some (.next,_,H)=>some (.none,H)
  |_=>none) else none
 |none=>none):=rfl
end Mine
namespace Mine
set_option genCtorIdx false in
inductive jE where
 |n (k:Nat)|v (i:Nat)|a (x y:jE)|m (k:Nat) (x:jE)|r (x:jE) (k:Nat)
set_option genCtorIdx false in
inductive xo where
 |z|c (k:Nat) (x y:jE) (r:xo)
noncomputable def F5:List Nat->Nat->Nat
 |[],_=>0
 |x::_,0=>x
 |_::r,i+1=>F5 r i
noncomputable def jE.ev(p:List Nat):jE->Nat
 |.n k=>k
 |.v i=>F5 p i
 |.a x y=>x.ev p+y.ev p
 |.m k x=>k*x.ev p
 |.r x k=>x.ev p*k
noncomputable def xo.den(p:List Nat):xo->Prop
 |.z=>False
 |.c _ x y r=>x.ev p<=y.ev p->r.den p
noncomputable def sV:List Nat->Nat->Nat->List Nat
 |[],0,k=>[k]
 |[],i+1,k=>0::sV [] i k
 |c::r,0,k=>(c+k)::r
 |c::r,i+1,k=>c::sV r i k
noncomputable def B6(s:Nat):jE->List Nat->Nat->(List Nat->Nat->Bool)->Bool
 |.n k,p,c,f=>f p (c+s*k)
 |.v i,p,c,f=>f (sV p i s) c
 |.a x y,p,c,f=>B6 s x p c λp c=>B6 s y p c f
 |.m k x,p,c,f=>B6 (s*k) x p c f
 |.r x k,p,c,f=>B6 (s*k) x p c f
noncomputable def LS:List Nat->List Nat->Bool
 |[],_=>true
 |c::r,[]=>Nat.beq c 0&&LS r []
 |c::r,d::s=>Nat.ble c d&&LS r s
noncomputable def zv:xo->List Nat->Nat->List Nat->Nat->Bool
 |.z,l,a,r,b=>LS r l&&Nat.ble (b+1) a
 |.c k x y f,l,a,r,b=>B6 k x l a λl a=>B6 k y r b λr b=>zv f l a r b
noncomputable def nW:List Nat->List Nat->Nat
 |[],_=>0
 |_::_,[]=>0
 |c::r,x::p=>c*x+nW r p
theorem sW:∀(q:List Nat)(i k:Nat)(p:List Nat),nW (sV q i k) p=nW q p+k*F5 p i
 |[],0,k,[]=>rfl
 |[],0,k,x::p=>by show k*x+0=0+k*x;omega
 |[],i+1,k,[]=>rfl
 |[],i+1,k,x::p=>by
  show 0*x+nW (sV [] i k) p=0+k*F5 p i
  rw[sW [] i k p,Nat.zero_mul,fy];rfl
 |c::r,0,k,[]=>rfl
 |c::r,0,k,x::p=>by
  show(c+k)*x+nW r p=c*x+nW r p+k*x
  rw[Nat.add_mul];omega
 |c::r,i+1,k,[]=>rfl
 |c::r,i+1,k,x::p=>by
  show c*x+nW (sV r i k) p=c*x+nW r p+k*F5 p i
  rw[sW r i k p,cb]
theorem mN{p:List Nat}:∀(e:jE)(s:Nat)(q:List Nat)(c:Nat)(f:List Nat->Nat->Bool),B6 s e q c f=true->∃ q' c',f q' c'=true/\nW q' p+c'=nW q p+c+s*e.ev p
 |.n k,s,q,c,f,h=>⟨q,c+s*k,h,(cb ..).symm⟩
 |.v i,s,q,c,f,h=>⟨sV q i s,c,h,by rw[sW];show _=_+s*F5 p i;omega⟩
 |.a x y,s,q,c,f,h=>by
  obtain⟨q1,c1,h1,e1⟩:=mN (p:=p) x s q c _ h
  obtain⟨q2,c2,h2,e2⟩:=mN (p:=p) y s q1 c1 _ h1
  refine⟨q2,c2,h2,?_⟩
  show _=_+s*(x.ev p+y.ev p)
  rw[Nat.mul_add];omega
 |.m k x,s,q,c,f,h=>by
  obtain⟨q1,c1,h1,e1⟩:=mN (p:=p) x (s*k) q c _ h
  refine⟨q1,c1,h1,e1.trans ?_⟩
  show _=_+s*(k*x.ev p)
  rw[Nat.mul_assoc]
 |.r x k,s,q,c,f,h=>by
  obtain⟨q1,c1,h1,e1⟩:=mN (p:=p) x (s*k) q c _ h
  refine⟨q1,c1,h1,e1.trans ?_⟩
  show _=_+s*(x.ev p*k)
  rw[Nat.mul_comm (x.ev p) k,Nat.mul_assoc]
theorem xq:∀(r l:List Nat),LS r l=true->∀ p,nW r p<=nW l p
 |[],l,_,p=>cF _
 |c::r,l,_,[]=>cF _
 |c::r,[],h,x::p=>by
  obtain⟨h1,h2⟩:=nz.mp h
  have:=xq r [] h2 p
  rw[Nat.eq_of_beq_eq_true h1]
  show 0*x+nW r p<=0
  rw[Nat.zero_mul,fy];exact this
 |c::r,d::l,h,x::p=>by
  obtain⟨h1,h2⟩:=nz.mp h
  exact gC (yZ x (Nat.le_of_ble_eq_true h1)) (xq r l h2 p)
theorem Ek{p:List Nat}:∀(f:xo)(l:List Nat)(a:Nat)(r:List Nat)(b:Nat),zv f l a r b=true->nW l p+a<=nW r p+b->f.den p
 |.z,l,a,r,b,h,e=>by
  obtain⟨h1,h2⟩:=nz.mp h
  have h3:=xq r l h1 p
  have h4:=Nat.le_of_ble_eq_true h2
  show False
  omega
 |.c k x y f,l,a,r,b,h,e=>λhx=>by
  obtain⟨l',a',h1,e1⟩:=mN (p:=p) x k l a _ h
  obtain⟨r',b',h2,e2⟩:=mN (p:=p) y k r b _ h1
  have:=Nat.mul_le_mul_left k hx
  exact Ek f l' a' r' b' h2 (by omega)
theorem aj(p:List Nat)(f:xo)(h:zv f [] 0 [] 0=true):f.den p:=Ek f [] 0 [] 0 h (aE _)
noncomputable def VI(x y:jE):Bool:=zv (.c 1 (.a x (.n 1)) y .z) [] 0 [] 0&&zv (.c 1 (.a y (.n 1)) x .z) [] 0 [] 0
theorem lx(p:List Nat)(x y:jE)(h:VI x y=true):x.ev p=y.ev p:=
 k8 (eK.mp (aj p _ (nz.mp h).2)) (eK.mp (aj p _ (nz.mp h).1))
noncomputable abbrev xo.d(x y:jE)(r:xo):xo:=.c 1 x y r
noncomputable abbrev jE.s(x:jE):jE:=.a x (.n 1)
noncomputable abbrev ab:jE:=.v 0
noncomputable abbrev af:jE:=.v 1
noncomputable abbrev aq:jE:=.v 2
noncomputable abbrev aA:jE:=.v 3
noncomputable abbrev bU:jE:=.v 4
noncomputable abbrev iZ:jE:=.v 5
noncomputable abbrev F6:jE:=.v 6
theorem nl{a b:Nat}(h:¬ a<=b):b<a:=Nat.not_le.mp h
theorem nt{a b:Nat}(h:¬ a<b):b<=a:=eK.mp h
end Mine
namespace Mine
noncomputable def xr:List Str:=(["orders","pc","at","named","marks","calls","subject","host","history","values","limit","refused","width","steps","log","kind","owner","key","node","tree","number","told"]:List String).map Str.ofString
noncomputable def VJ:List Str:=(["__init__","emit","put","begun","choice","repeat","bound","copied","run","way_back","done","met_once","ended","other","met_often","asked","value_of","assign","step"]:List String).map Str.ofString
noncomputable def Iw:List Str:=(["PatternCode","NameRef","Way","Match","PlainHost","Failure","Pattern","Delayed","SnobolError"]:List String).map Str.ofString
noncomputable def dY(a:Nat):Str:=xr.getD a Str.empty
noncomputable def lR(a:Nat):Str:=VJ.getD (a-100) Str.empty
noncomputable abbrev Sl:=List (Option (Str×Bool))
noncomputable abbrev bn:=List (Str×NameKind)
noncomputable def B7(c:Bool):NameKind:=if c then .cell else .local
noncomputable def isBad:ME->Bool
 |.bad=>true
 |_=>false
set_option genCtorIdx false in
inductive GV where
 |fn (k:Nat)|val (v:V)|cls (c:Nat)|pr (p:Pr)|Ix|typ (k:IK)
noncomputable def eW(k l:NameKind):Bool:=match k,l with
 |.local,.local=>true
 |.cell,.cell=>true
 |.free,.free=>true
 |.globalImplicit,.globalImplicit=>true
 |_,_=>false
noncomputable def ll(x:Str):bn->Option NameKind
 |[]=>none
 |(y,k)::r=>if x==y then some k else ll x r
theorem LU{x y k r}:ll x ((y,k)::r)=(if x==y then some k else ll x r):=rfl
noncomputable def cv(nm:bn)(sl:Sl)(i:Nat)(x:Str):Bool:=match sl[i]? with
 |some (some (y,c))=>x==y&&(match ll x nm with|some k=>eW k (B7 c)|none=>false)
 |_=>false
noncomputable def xt(nm:bn)(x:Str):Bool:=match ll x nm with|some k=>eW k .globalImplicit|none=>false
mutual
noncomputable def B8:V->V->Bool
 |.none,.none=>true
 |.bool a,.bool b=>a==b
 |.int a,.int b=>a==b
 |.str a,.str b=>a==b
 |.fn a,.fn b=>a==b
 |.tup a,.tup b=>xu a b
 |_,_=>false
noncomputable def xu:List V->List V->Bool
 |[],[]=>true
 |a::r,b::t=>B8 a b&&xu r t
 |_,_=>false
end
noncomputable def OC(v:V)(c:Const):Bool:=match v with
 |.none=>(match c with|.none=>true|_=>false)
 |.bool a=>(match c with|.bool b=>a==b|_=>false)
 |.int a=>(match c with|.int b=>a==b|_=>false)
 |.str a=>(match c with|.str b=>a==b.cps.toList&&decide (a.length<=1000)|_=>false)
 |_=>false
noncomputable def OD:jO->Operator
 |.add=>.Add
 |.sub=>.Sub
 |.mul=>.Mult
 |.fdiv=>.FloorDiv
 |.mod=>.Mod
noncomputable def lq(o:jO)(p:Operator):Bool:=decide (p=OD o)
noncomputable def P1:lw->CmpOp
 |.eq=>.Eq
 |.ne=>.NotEq
 |.lt=>.Lt
 |.le=>.LtE
 |.gt=>.Gt
 |.ge=>.GtE
 |.is=>.Is
 |.fB=>.IsNot
 |.isin=>.In
 |.nR=>.NotIn
noncomputable def lS(o:lw)(p:CmpOp):Bool:=decide (p=P1 o)
noncomputable def o9:BM->Str
 |.append=>Str.ofString "append"
 |.pop=>Str.ofString "pop"
 |.extend=>Str.ofString "extend"
 |.reverse=>Str.ofString "reverse"
 |.join=>Str.ofString "join"
 |.replace=>Str.ofString "replace"
 |.startswith=>Str.ofString "startswith"
 |.lstrip=>Str.ofString "lstrip"
 |.split=>Str.ofString "split"
 |.get=>Str.ofString "get"
noncomputable def mO:Pr->Str
 |.len=>Str.ofString "len"
 |.abs=>Str.ofString "abs"
 |.int=>Str.ofString "int"
 |.chr=>Str.ofString "chr"
 |.ord=>Str.ofString "ord"
 |.list=>Str.ofString "list"
 |.range=>Str.ofString "range"
 |.min=>Str.ofString "min"
 |.str=>Str.ofString "str"
noncomputable def se:IK->Str
 |.int=>Str.ofString "int"
 |.str=>Str.ofString "str"
 |.tuple=>Str.ofString "tuple"
 |.cls k=>Iw.getD k Str.empty
noncomputable def gf:ME->Bool
 |.lit .none=>true
 |_=>false
noncomputable def e0:Expr:=.Constant .none 0 default
structure XV where
 w:Expr
 t:Nat
 p:Pos
 a:Expr
 b:Expr
 d:Expr
 n:Nat
 s:Str
 l:List Expr
 bo:BoolOp
 op:Operator
 uo:UnaryOp
 ks:List (Option Expr)
 gs:List Comprehension
 sc:Scope
 co:List CmpOp
 kw:List Keyword
 c:Const
 o1:Option Expr
 o2:Option Expr
 o3:Option Expr
noncomputable def X0(x:Expr)(t:Nat)(p:Pos):XV:=⟨x,t,p,e0,e0,e0,0,default,[],default,default,default,[],[],default,[],[],.none,none,none,none⟩
noncomputable def xv(x:Expr):XV:=match x with
 |.BoolOp a b c=>{ X0 x 0 c with bo:=a,l:=b }
 |.BinOp a b c d=>{ X0 x 1 d with a:=a,op:=b,b:=c }
 |.UnaryOp a b c=>{ X0 x 2 c with uo:=a,a:=b }
 |.IfExp a b c d=>{ X0 x 3 d with a:=a,b:=b,d:=c }
 |.Dict a b c=>{ X0 x 4 c with ks:=a,l:=b }
 |.ListComp a b c d=>{ X0 x 5 d with a:=a,gs:=b,sc:=c }
 |.Compare a b c d=>{ X0 x 6 d with a:=a,co:=b,l:=c }
 |.Call a b c d=>{ X0 x 7 d with a:=a,l:=b,kw:=c }
 |.Constant a b c=>{ X0 x 8 c with c:=a,n:=b }
 |.Attribute a b c=>{ X0 x 9 c with a:=a,s:=b }
 |.Subscript a b c=>{ X0 x 10 c with a:=a,b:=b }
 |.Name a b=>{ X0 x 11 b with s:=a }
 |.List a b=>{ X0 x 12 b with l:=a }
 |.Tuple a b c=>{ X0 x 13 c with l:=a,n:=b }
 |.Slice a b c d=>{ X0 x 14 d with o1:=a,o2:=b,o3:=c }
 |.Starred ..=>X0 x 20 default
 |.Set ..=>X0 x 21 default
 |_=>X0 x 99 default
noncomputable def XV.back(v:XV)(n:Nat):Expr:=
 ([.BoolOp v.bo v.l v.p,.BinOp v.a v.op v.b v.p,.UnaryOp v.uo v.a v.p,.IfExp v.a v.b v.d v.p,.Dict v.ks v.l v.p,.ListComp v.a v.gs v.sc v.p,.Compare v.a v.co v.l v.p,.Call v.a v.l v.kw v.p,.Constant v.c v.n v.p,
  .Attribute v.a v.s v.p,.Subscript v.a v.b v.p,.Name v.s v.p,.List v.l v.p,.Tuple v.l v.n v.p,.Slice v.o1 v.o2 v.o3 v.p]:List Expr).getD n v.w
theorem P2(x:Expr):(xv x).back (xv x).t=x:=by induction x using PySem.Expr.casesOn <;> rfl
theorem inv{x:Expr}{n:Nat}{P:Expr->Prop}(h:Nat.beq (xv x).t n=true)(k:P ((xv x).back n)):P x:=by
 have e:=P2 x
 rw[Nat.eq_of_beq_eq_true h] at e
 exact e▸k
noncomputable def qu(v:XV)(f:BoolOp->List Expr->Pos->Bool):Bool:=Nat.beq v.t 0&&f v.bo v.l v.p
noncomputable def zw(v:XV)(f:Expr->Operator->Expr->Pos->Bool):Bool:=Nat.beq v.t 1&&f v.a v.op v.b v.p
noncomputable def nX(v:XV)(f:UnaryOp->Expr->Pos->Bool):Bool:=Nat.beq v.t 2&&f v.uo v.a v.p
noncomputable def zx(v:XV)(f:Expr->Expr->Expr->Pos->Bool):Bool:=Nat.beq v.t 3&&f v.a v.b v.d v.p
noncomputable def El(v:XV)(f:List (Option Expr)->List Expr->Pos->Bool):Bool:=Nat.beq v.t 4&&f v.ks v.l v.p
noncomputable def jk(v:XV)(f:Expr->List Comprehension->Scope->Pos->Bool):Bool:=Nat.beq v.t 5&&f v.a v.gs v.sc v.p
noncomputable def nY(v:XV)(f:Expr->List CmpOp->List Expr->Pos->Bool):Bool:=Nat.beq v.t 6&&f v.a v.co v.l v.p
noncomputable def iG(v:XV)(f:Expr->List Expr->List Keyword->Pos->Bool):Bool:=Nat.beq v.t 7&&f v.a v.l v.kw v.p
noncomputable def rs(v:XV)(f:Const->Nat->Pos->Bool):Bool:=Nat.beq v.t 8&&f v.c v.n v.p
noncomputable def eb(v:XV)(f:Expr->Str->Pos->Bool):Bool:=Nat.beq v.t 9&&f v.a v.s v.p
noncomputable def iH(v:XV)(f:Expr->Expr->Pos->Bool):Bool:=Nat.beq v.t 10&&f v.a v.b v.p
noncomputable def ez(v:XV)(f:Str->Pos->Bool):Bool:=Nat.beq v.t 11&&f v.s v.p
noncomputable def Em(v:XV)(f:List Expr->Pos->Bool):Bool:=Nat.beq v.t 12&&f v.l v.p
noncomputable def pa(v:XV)(f:List Expr->Nat->Pos->Bool):Bool:=Nat.beq v.t 13&&f v.l v.n v.p
noncomputable def zy(v:XV)(f:Option Expr->Option Expr->Option Expr->Pos->Bool):Bool:=Nat.beq v.t 14&&f v.o1 v.o2 v.o3 v.p
structure SV where
 w:Stmt
 t:Nat
 p:Pos
 a:Expr
 b:Expr
 o:Option Expr
 ts:List Expr
 op:Operator
 y:List Stmt
 z:List Stmt
noncomputable def S0(x:Stmt)(t:Nat)(p:Pos):SV:=⟨x,t,p,e0,e0,none,[],default,[],[]⟩
noncomputable def sv(x:Stmt):SV:=match x with
 |.Expr a b=>{ S0 x 0 b with a:=a }
 |.Return a b=>{ S0 x 1 b with o:=a }
 |.Assign a b c=>{ S0 x 2 c with ts:=a,a:=b }
 |.AugAssign a b c d=>{ S0 x 3 d with a:=a,op:=b,b:=c }
 |.If a b c d=>{ S0 x 4 d with a:=a,y:=b,z:=c }
 |.While a b c d=>{ S0 x 5 d with a:=a,y:=b,z:=c }
 |.For a b c d e=>{ S0 x 6 e with a:=a,b:=b,y:=c,z:=d }
 |.Break a=>S0 x 7 a
 |.Continue a=>S0 x 8 a
 |_=>S0 x 99 default
noncomputable def SV.back(v:SV)(n:Nat):Stmt:=
 ([.Expr v.a v.p,.Return v.o v.p,.Assign v.ts v.a v.p,.AugAssign v.a v.op v.b v.p,.If v.a v.y v.z v.p,.While v.a v.y v.z v.p,.For v.a v.b v.y v.z v.p,.Break v.p,.Continue v.p]:List Stmt).getD n v.w
theorem P4(x:Stmt):(sv x).back (sv x).t=x:=by induction x using PySem.Stmt.casesOn <;> rfl
theorem pb{x:Stmt}{n:Nat}{P:Stmt->Prop}(h:Nat.beq (sv x).t n=true)(k:P ((sv x).back n)):P x:=by
 have e:=P4 x
 rw[Nat.eq_of_beq_eq_true h] at e
 exact e▸k
noncomputable def zz(v:SV)(f:Expr->Pos->Bool):Bool:=Nat.beq v.t 0&&f v.a v.p
noncomputable def sX(v:SV)(f:Option Expr->Pos->Bool):Bool:=Nat.beq v.t 1&&f v.o v.p
noncomputable def sY(v:SV)(f:List Expr->Expr->Pos->Bool):Bool:=Nat.beq v.t 2&&f v.ts v.a v.p
noncomputable def jF(v:SV)(f:Expr->Operator->Expr->Pos->Bool):Bool:=Nat.beq v.t 3&&f v.a v.op v.b v.p
noncomputable def Iy(v:SV)(f:Expr->List Stmt->List Stmt->Pos->Bool):Bool:=Nat.beq v.t 4&&f v.a v.y v.z v.p
noncomputable def vU(v:SV)(f:Expr->List Stmt->List Stmt->Pos->Bool):Bool:=Nat.beq v.t 5&&f v.a v.y v.z v.p
noncomputable def En(v:SV)(f:Expr->Expr->List Stmt->List Stmt->Pos->Bool):Bool:=Nat.beq v.t 6&&f v.a v.b v.y v.z v.p
noncomputable def vV(v:SV)(f:Pos->Bool):Bool:=Nat.beq v.t 7&&f v.p
noncomputable def pd(v:SV)(f:Pos->Bool):Bool:=Nat.beq v.t 8&&f v.p
noncomputable def notStar(e:Expr):Bool:=!(Nat.beq (xv e).t 20)
noncomputable def gg(e:Expr):Bool:=!(Nat.beq (xv e).t 21)
noncomputable def dI:Expr->Bool
 |.Call (.Name _ _) [] [] _=>false
 |_=>true
noncomputable def hH:Expr->Bool
 |.ListComp ..=>false
 |.SetComp ..=>false
 |.DictComp ..=>false
 |_=>true
noncomputable def isStarred:Expr->Bool
 |.Starred ..=>true
 |_=>false
noncomputable def jS(nm:bn)(line:Nat):Expr->Option Str
 |.Name id pos=>if nm.lookup id==some .local&&pos.line==line then some id else none
 |_=>none
noncomputable def Iz(c1 c2 c3 c4 c5:Bool)(g:List Str):Option (Option (List Str)):=bif c1 then some none else bif c2 then some none else bif c3 then some none else bif c4 then some none else bif c5 then none else some (some g)
noncomputable def tupQ(nm:bn)(ts vs:List Expr):Option (Option (List Str)):=
 let g:=ts.filterMap (jS nm ((ts.head?.map (·.pos.line)).getD 0))
 Iz (!(ts.length==2 || ts.length==3) || vs.length != ts.length) (vs.any isStarred) (g.length != ts.length || g.eraseDups.length != g.length) (vs.all (foldedForSure 8)) (vs.all (constantsAlone 8)) g
noncomputable def zA(nm:bn)(y x:Expr):Option (Option (List Str)):=match y with
 |.Tuple ts _ _=>(match x with|.Tuple vs _ _=>tupQ nm ts vs|_=>some none)
 |.List ..=>none
 |_=>some none
noncomputable def isSlice:Expr->Bool
 |.Slice ..=>true
 |_=>false
noncomputable def qv(nm out:bn):bn:=nm.map λ(n,k)=>if eW k .free&&(match ll n out with|some k'=>eW k' .cell|none=>false) then(n,.cell) else(n,k)
noncomputable def gV(sl:Sl)(nm:bn):Sl:=sl.map λs=>match s with
 |some (x,true)=>if(match ll x nm with|some k=>eW k .free|none=>false) then some (x,true) else none
 |_=>none
noncomputable def dr:bn->Sl
 |[]=>[]
 |(x,k)::r=>if eW k .local&&!(x==(Str.ofString ".0")) then some (x,false)::dr r else dr r
theorem sZ :dr ([])=([]):=rfl
theorem ku{x k r}:dr ((x,k)::r)=(if eW k .local&&!(x==(Str.ofString ".0")) then some (x,false)::dr r else dr r):=rfl
noncomputable def nZ(x:Str):List Str->Bool
 |[]=>false
 |y::r=>x==y || nZ x r
theorem zB{x}:nZ x ([])=(false):=rfl
theorem zC{x y r}:nZ x (y::r)=(x==y || nZ x r):=rfl
noncomputable def n6:List Str->Bool
 |[]=>true
 |x::r=>!nZ x r&&n6 r
theorem IA :n6 ([])=(true):=rfl
theorem IB{x r}:n6 (x::r)=(!nZ x r&&n6 r):=rfl
noncomputable def nH(nm:bn)(sl:Sl):List Nat->List Expr->Bool
 |[],es=>(match es with|[]=>true|_=>false)
 |i::is,es=>(match es with|e::r=>(ez (xv e) λx _=>cv nm sl i x&&nH nm sl is r)|[]=>false)
noncomputable def nJ(nm:bn)(sl:Sl)(t:CT)(e:Expr):Bool:=match t with
 |.one i=>(ez (xv e) λx _=>cv nm sl i x)
 |.many is=>(pa (xv e) λes _ _=>nH nm sl is es)
noncomputable def kv(sl:Sl)(i:Nat):Bool:=match sl[i]? with|some (some (_,false))=>true|_=>false
noncomputable def Eo(sl:Sl):CT->Bool
 |.one i=>kv sl i
 |.many is=>is.all (kv sl)
noncomputable def i0:bn->Bool
 |[]=>true
 |(x,_)::r=>!(x==(Str.ofString "__debug__"))&&i0 r
theorem zD :i0 ([])=(true):=rfl
theorem zE{x ip r}:i0 ((x,ip)::r)=(!(x==(Str.ofString "__debug__"))&&i0 r):=rfl
noncomputable def i1(sc:Scope):Bool:=i0 sc.names&& (match sc.kind with|.function=>true|_=>false)&&!sc.isGenerator&&!sc.isCoroutine
noncomputable def IE(sl:Sl)(x:Str):Bool:=sl.any λz=>match z with|some (y,true)=>y==x|_=>false
noncomputable def frees:bn->bn->Sl->Bool
 |[],_,_=>true
 |(x,k)::r,nm,sl=>(match k with
  |.local=>true
  |.globalImplicit=>true
  |.free=>(match ll x nm with|some k'=>eW k' .cell|none=>false)&&IE sl x
  |_=>false)&&frees r nm sl
theorem IF{ip B5}:frees ([]) ip B5=(true):=rfl
theorem IG{x k r nm sl}:frees ((x,k)::r) nm sl=((match k with
 |.local=>true
 |.globalImplicit=>true
 |.free=>(match ll x nm with|some k'=>eW k' .cell|none=>false)&&IE sl x
 |_=>false)&&frees r nm sl):=rfl
section
variable (G:Str->Option GV)
noncomputable def jl(nm:bn)(sl:Sl):List Nat->List Str->Bool
 |[],ns=>(match ns with|[]=>true|_=>false)
 |i::is,ns=>(match ns with|n::ns=>cv nm sl i n&&jl nm sl is ns|[]=>false)
noncomputable def B9(t:Tg):Option Nat:=match t with|.loc i=>some i|_=>none
noncomputable def OE(nm:bn)(sl:Sl)(ts:List Tg)(ns:List Str):Bool:=match ts with
 |[]=>false
 |t::ts=>(match B9 t with
  |none=>false
  |some i=>(match ts with
   |[]=>false
   |t::ts=>(match B9 t with
    |none=>false
    |some j=>(match ts with|[]=>jl nm sl [i,j] ns|_::_=>false))))
noncomputable def Ep(nm:bn)(sl:Sl)(t:Tg)(r:Option (Option (List Str))):Bool:=match r with
 |some r=>(match r with
  |none=>true
  |some ns=>(match t with|.tup ts=>OE nm sl ts ns|_=>false))
 |none=>false
noncomputable def IH(g:GV):Bool:=match g with
 |.Ix=>true
 |_=>false
noncomputable def P6(k:IK)(g:GV):Bool:=match g with
 |.cls j=>(match k with|.cls i=>i==j|_=>false)
 |.pr _=>(match k with|.int=>true|.str=>true|_=>false)
 |.typ _=>(match k with|.tuple=>true|_=>false)
 |_=>false
noncomputable def II(v:V)(g:GV):Bool:=match g with
 |.fn k=>(match v with|.fn j=>k==j|_=>false)
 |.val u=>B8 u v
 |_=>false
noncomputable def nc(nm:bn)(x:Str)(p:GV->Bool):Bool:=xt nm x&&(match G x with|some g=>p g|none=>false)
noncomputable def Er{α:Type}(l:List α)(f:α->Bool):Bool:=match l with|[]=>false|a::r=>(match r with|[]=>f a|_::_=>false)
noncomputable def zF{α:Type}(l:List α)(f:α->α->Bool):Bool:=match l with|[]=>false|a::r=>Er r (f a)
noncomputable def jT{α:Type}(l:List α)(b:Bool):Bool:=match l with|[]=>b|_::_=>false
mutual
noncomputable def aL:ME->bn->Sl->Expr->Bool
 |.bad,_,_,_=>true
 |.lit v,_,_,e=>(rs (xv e) λc _ _=>OC v c)
 |.loc i,nm,sl,e=>(ez (xv e) λx _=>cv nm sl i x)
 |.glob v,nm,_,e=>(ez (xv e) λx _=>nc G nm x (II v))
 |.tup es,nm,sl,e=>(pa (xv e) λxs _ _=>decide (es.length<=100)&&fg es nm sl xs)
 |.lst es,nm,sl,e=>(Em (xv e) λxs _=>decide (es.length<=100)&&fg es nm sl xs)
 |.dict es,nm,sl,e=>(El (xv e) λks vs _=>decide (vs.length<=15)&&xw es nm sl ks vs)
 |.attr o a,nm,sl,e=>(eb (xv e) λx n _=>n==dY a&&decide (a<22)&&dI x&&aL o nm sl x)
 |.idx o i,nm,sl,e=>(iH (xv e) λx s _=>!isSlice s&&aL o nm sl x&&aL i nm sl s)
 |.slice o lo hi st,nm,sl,e=>(iH (xv e) λx y _=>(zy (xv y) λl u s _=>aL o nm sl x&&(match l with|some l=>aL lo nm sl l&&!gf lo|none=>gf lo) &&
  (match u with|some u=>aL hi nm sl u&&!gf hi|none=>gf hi)&&(match s with|some s=>aL st nm sl s&&!gf st|none=>gf st)))
 |.bin op a b,nm,sl,e=>(zw (xv e) λx o y _=>lq op o&&aL a nm sl x&&aL b nm sl y)
 |.neg a,nm,sl,e=>(nX (xv e) λo x _=>(match o with|.USub=>aL a nm sl x|_=>false))
 |.not a,nm,sl,e=>(nX (xv e) λo x _=>(match o with|.Not=>aL a nm sl x|_=>false))
 |.cmp op a b,nm,sl,e=>(nY (xv e) λx os ys _=>Er os λo=>Er ys λy=>lS op o&&gg y&&aL a nm sl x&&aL b nm sl y)
 |.nG op jC a b c,nm,sl,e=>(nY (xv e) λx os ys _=>zF os λo o'=>zF ys λy z=>lS op o&&lS jC o'&&gg z&&aL a nm sl x&&aL b nm sl y&&aL c nm sl z)
 |.and es,nm,sl,e=>(qu (xv e) λo xs _=>(match o with|.And=>decide (2<=xs.length)&&fg es nm sl xs|_=>false))
 |.or es,nm,sl,e=>(qu (xv e) λo xs _=>(match o with|.Or=>decide (2<=xs.length)&&fg es nm sl xs|_=>false))
 |.aB t a b,nm,sl,e=>(zx (xv e) λx y z _=>aL t nm sl x&&aL a nm sl y&&aL b nm sl z)
 |.call f es,nm,sl,e=>(iG (xv e) λf0 xs ks _=>(ez (xv f0) λx p=>jT ks (aL f nm sl (.Name x p)&&fg es nm sl xs)))
 |.new c es,nm,sl,e=>(iG (xv e) λf0 xs ks _=>(ez (xv f0) λx _=>jT ks (decide (c<5)&&nc G nm x (λg=>match g with|.cls k=>k==c|_=>false)&&fg es nm sl xs)))
 |.bm o m es,nm,sl,e=>(iG (xv e) λf0 xs ks p=>(eb (xv f0) λx n ap=>jT ks (n==lR m&&decide (100<=m/\m<119)&&decide (xs.length<20)&&(ap.endLine==p.line)&&dI x&&aL o nm sl x&&fg es nm sl xs)))
 |.ba o m es,nm,sl,e=>(iG (xv e) λf0 xs ks p=>(eb (xv f0) λx n ap=>jT ks (n==o9 m&&decide (xs.length<20)&&(ap.endLine==p.line)&&dI x&&aL o nm sl x&&fg es nm sl xs)))
 |.prim p es,nm,sl,e=>(iG (xv e) λf0 xs ks _=>(ez (xv f0) λx _=>jT ks (x==mO p&&nc G nm x (λg=>match g with|.pr _=>true|_=>false)&&fg es nm sl xs)))
 |.isin o k,nm,sl,e=>(iG (xv e) λf0 xs ks _=>(ez (xv f0) λx _=>jT ks (zF xs λy w=>(ez (xv w) λz _=>nc G nm x IH&&z==se k&&nc G nm z (P6 k)&&notStar y&&aL o nm sl y))))
 |.comp elt src t k cs,nm,sl,e=>(jk (xv e) λx gs sc _=>(match gs with|[⟨tg,it,ifs,0⟩]=>gg it&&aL src nm sl it&&(let fQ:=qv sc.names nm;let LV:=gV sl sc.names++dr sc.names
  decide ((dr sc.names).length=k)&&i1 sc&&Eo LV t&&nJ fQ LV t tg&&fg cs fQ LV ifs&&aL elt fQ LV x&&n6 (sc.names.map (·.1))&&frees sc.names nm sl)|_=>false))
noncomputable def fg:List ME->bn->Sl->List Expr->Bool
 |[],_,_,xs=>(match xs with|[]=>true|_=>false)
 |e::r,nm,sl,xs=>(match xs with|x::ys=>notStar x&&aL e nm sl x&&fg r nm sl ys|[]=>false)
noncomputable def xw:List ME->bn->Sl->List (Option Expr)->List Expr->Bool
 |[],_,_,ks,vs=>(match ks with|[]=>(match vs with|[]=>true|_=>false)|_=>false)
 |[_],_,_,_,_=>false
 |k::v::r,nm,sl,ks,vs=>(match ks with|x::ks=>(match x with|some x=>(match vs with|y::vs=>aL k nm sl x&&aL v nm sl y&&xw r nm sl ks vs|_=>false)|_=>false)|_=>false)
end
theorem fh{ip B5 xs}:fg G ([]) ip B5 xs=((match xs with|[]=>true|_=>false)):=rfl
theorem fj{e r nm sl xs}:fg G (e::r) nm sl xs=((match xs with|x::ys=>notStar x&&aL G e nm sl x&&fg G r nm sl ys|[]=>false)):=rfl
mutual
noncomputable def pe:Tg->bn->Sl->Expr->Bool
 |.loc i,nm,sl,e=>(ez (xv e) λx _=>cv nm sl i x)
 |.attr o a,nm,sl,e=>(eb (xv e) λx n _=>n==dY a&&decide (a<22)&&aL G o nm sl x)
 |.idx o i,nm,sl,e=>(iH (xv e) λx s _=>!isSlice s&&aL G o nm sl x&&aL G i nm sl s)
 |.tup ts,nm,sl,e=>(pa (xv e) λxs _ _=>lT ts nm sl xs)
noncomputable def lT:List Tg->bn->Sl->List Expr->Bool
 |[],_,_,xs=>(match xs with|[]=>true|_=>false)
 |t::r,nm,sl,xs=>(match xs with|x::ys=>pe t nm sl x&&lT r nm sl ys|[]=>false)
end
noncomputable def xy(t:Tg):Bool:=match t with|.loc _=>true|_=>false
noncomputable def Es(nm:bn)(y x:Expr)(t:Tg):Bool:=
 ez (xv y) λn py=>jk (xv x) λ_ _ sc px=>xy t&&(nm.lookup n==some .local&&py.line==px.line&&!(sc.names.any λ(z,k)=>z==n&&(k==.local || k==.cell)))
noncomputable def IJ(nm:bn)(sl:Sl)(t:Tg)(y x:Expr):Bool:=bif hH x then Ep nm sl t (zA nm y x) else Es nm y x t
mutual
noncomputable def qw:MS->bn->Sl->Stmt->Bool
 |.bad,_,_,_=>true
 |.expr e,nm,sl,s=>(zz (sv s) λx _=>hH x&&aL G e nm sl x)
 |.ret e,nm,sl,s=>(sX (sv s) λx _=>(match x with|some x=>aL G e nm sl x|_=>false))
 |.asg t e,nm,sl,s=>(sY (sv s) λts x _=>(match ts with|y::r=>(match r with|[]=>pe G t nm sl y&&aL G e nm sl x&&IJ nm sl t y x|_=>false)|[]=>false))
 |.aug i op e,nm,sl,s=>(jF (sv s) λz o y _=>(ez (xv z) λx _=>lq op o&&cv nm sl i x&&aL G e nm sl y))
 |.lh o a op e,nm,sl,s=>(jF (sv s) λz p y _=>(eb (xv z) λx n _=>lq op p&&n==dY a&&decide (a<22)&&dI x&&aL G o nm sl x&&aL G e nm sl y))
 |.aB t b o,nm,sl,s=>(Iy (sv s) λx y z _=>aL G t nm sl x&&jU b nm sl y&&jU o nm sl z)
 |.lM t b,nm,sl,s=>(vU (sv s) λx y o _=>jT o (aL G t nm sl x&&jU b nm sl y))
 |.for t e b,nm,sl,s=>(En (sv s) λy x z o _=>jT o (nJ nm sl t y&&gg x&&aL G e nm sl x&&jU b nm sl z))
 |.brk,_,_,s=>(vV (sv s) λ_=>true)
 |.cont,_,_,s=>(pd (sv s) λ_=>true)
noncomputable def jU:List MS->bn->Sl->List Stmt->Bool
 |[],_,_,xs=>(match xs with|[]=>true|_=>false)
 |s::r,nm,sl,xs=>(match xs with|x::ys=>qw s nm sl x&&jU r nm sl ys|[]=>false)
end
end
noncomputable def slotsOf:bn->Sl
 |[]=>[]
 |(x,k)::r=>match k with
  |.local=>some (x,false)::slotsOf r
  |.cell=>some (x,true)::slotsOf r
  |_=>slotsOf r
theorem n7 :slotsOf ([])=([]):=rfl
theorem gO{x k r}:slotsOf ((x,k)::r)=(match k with
 |.local=>some (x,false)::slotsOf r
 |.cell=>some (x,true)::slotsOf r
 |_=>slotsOf r):=rfl
noncomputable def hJ:List Arg->Sl->Bool
 |[],_=>true
 |a::r,some (x,_)::t=>a.arg==x&&hJ r t
 |_,_=>false
theorem s4{ip}:hJ ([]) ip=(true):=rfl
theorem s5{a r x ip t}:hJ (a::r) (some (x,ip)::t)=(a.arg==x&&hJ r t):=rfl
noncomputable def zG:List MS->Bool
 |[.bad]=>true
 |_=>false
noncomputable def S3(G:Str->Option GV)(fi:FI)(fd:FuncData):Bool:=
 fd.params.posonlyargs.isEmpty&&fd.params.vararg.isNone&&fd.params.kwonlyargs.isEmpty&&fd.params.kwarg.isNone&&(match fd.defaults with|.none=>true|_=>false) &&
 fd.closure.isEmpty&&fd.globals==mainGlobals&&fd.builtins==builtinsNs&&i1 fd.scope&&decide (fd.params.args.length=fi.np)&&decide ((slotsOf fd.scope.names).length=fi.ns) &&
 hJ fd.params.args (slotsOf fd.scope.names)&&n6 (fd.scope.names.map (·.1)) &&
 (match fd.body with|.stmts b=>jU G fi.body fd.scope.names (slotsOf fd.scope.names) b|_=>false)
noncomputable def LW(G:Str->Option GV)(K:Frag)(fi:FI)(a:Addr):Bool:=zG fi.body || (match K.lookup a with
 |some ⟨_,_,.func fd,_⟩=>S3 G fi fd&&codeIn K fd.code fd.qualname
 |_=>false)
end Mine
namespace Mine
theorem ai{a b:Bool}(h:(a&&b)=true):a=true/\b=true:=by
  induction a with
 |true=>exact⟨rfl,h⟩
 |false=>exact ff h
theorem LX{a b c d:Bool}(h:(a&&b&&c&&d)=true){zg:Prop}(zk:(a=true)->(b=true)->(c=true)->(d=true)->zg):zg:=by
 exact zk ((ai (ai (ai h).1).1).1) ((ai (ai (ai h).1).1).2) ((ai (ai h).1).2) ((ai h).2)
section
variable {G:Str->Option GV}{nm:bn}{sl:Sl}{x:Expr}{zP:Expr->Prop}
@[elab_as_elim] theorem pf{f:BoolOp->List Expr->Pos->Bool}(c:qu (xv x) f=true)(zk:∀ a b d,f a b d=true->zP (.BoolOp a b d)):zP x:=inv (n:=0) (P:=zP) (ai c).1 (zk _ _ _ (ai c).2)
@[elab_as_elim] theorem zH{f:Expr->Operator->Expr->Pos->Bool}(c:zw (xv x) f=true)(zk:∀ a b d g,f a b d g=true->zP (.BinOp a b d g)):zP x:=inv (n:=1) (P:=zP) (ai c).1 (zk _ _ _ _ (ai c).2)
@[elab_as_elim] theorem nK{f:UnaryOp->Expr->Pos->Bool}(c:nX (xv x) f=true)(zk:∀ a b d,f a b d=true->zP (.UnaryOp a b d)):zP x:=inv (n:=2) (P:=zP) (ai c).1 (zk _ _ _ (ai c).2)
@[elab_as_elim] theorem zI{f:Expr->Expr->Expr->Pos->Bool}(c:zx (xv x) f=true)(zk:∀ a b d g,f a b d g=true->zP (.IfExp a b d g)):zP x:=inv (n:=3) (P:=zP) (ai c).1 (zk _ _ _ _ (ai c).2)
@[elab_as_elim] theorem Cb{f:List (Option Expr)->List Expr->Pos->Bool}(c:El (xv x) f=true)(zk:∀ a b d,f a b d=true->zP (.Dict a b d)):zP x:=inv (n:=4) (P:=zP) (ai c).1 (zk _ _ _ (ai c).2)
@[elab_as_elim] theorem lU{f:Expr->List Comprehension->Scope->Pos->Bool}(c:jk (xv x) f=true)(zk:∀ a b d g,f a b d g=true->zP (.ListComp a b d g)):zP x:=inv (n:=5) (P:=zP) (ai c).1 (zk _ _ _ _ (ai c).2)
@[elab_as_elim] theorem nL{f:Expr->List CmpOp->List Expr->Pos->Bool}(c:nY (xv x) f=true)(zk:∀ a b d g,f a b d g=true->zP (.Compare a b d g)):zP x:=inv (n:=6) (P:=zP) (ai c).1 (zk _ _ _ _ (ai c).2)
@[elab_as_elim] theorem s6{f:Expr->List Expr->List Keyword->Pos->Bool}(c:iG (xv x) f=true)(zk:∀ a b d g,f a b d g=true->zP (.Call a b d g)):zP x:=inv (n:=7) (P:=zP) (ai c).1 (zk _ _ _ _ (ai c).2)
@[elab_as_elim] theorem s7{f:Const->Nat->Pos->Bool}(c:rs (xv x) f=true)(zk:∀ a b d,f a b d=true->zP (.Constant a b d)):zP x:=inv (n:=8) (P:=zP) (ai c).1 (zk _ _ _ (ai c).2)
@[elab_as_elim] theorem fL{f:Expr->Str->Pos->Bool}(c:eb (xv x) f=true)(zk:∀ a b d,f a b d=true->zP (.Attribute a b d)):zP x:=inv (n:=9) (P:=zP) (ai c).1 (zk _ _ _ (ai c).2)
@[elab_as_elim] theorem iq{f:Expr->Expr->Pos->Bool}(c:iH (xv x) f=true)(zk:∀ a b d,f a b d=true->zP (.Subscript a b d)):zP x:=inv (n:=10) (P:=zP) (ai c).1 (zk _ _ _ (ai c).2)
@[elab_as_elim] theorem eH{f:Str->Pos->Bool}(c:ez (xv x) f=true)(zk:∀ a b,f a b=true->zP (.Name a b)):zP x:=inv (n:=11) (P:=zP) (ai c).1 (zk _ _ (ai c).2)
@[elab_as_elim] theorem Cc{f:List Expr->Pos->Bool}(c:Em (xv x) f=true)(zk:∀ a b,f a b=true->zP (.List a b)):zP x:=inv (n:=12) (P:=zP) (ai c).1 (zk _ _ (ai c).2)
@[elab_as_elim] theorem lV{f:List Expr->Nat->Pos->Bool}(c:pa (xv x) f=true)(zk:∀ a b d,f a b d=true->zP (.Tuple a b d)):zP x:=inv (n:=13) (P:=zP) (ai c).1 (zk _ _ _ (ai c).2)
@[elab_as_elim] theorem zJ{f:Option Expr->Option Expr->Option Expr->Pos->Bool}(c:zy (xv x) f=true)(zk:∀ a b d g,f a b d g=true->zP (.Slice a b d g)):zP x:=inv (n:=14) (P:=zP) (ai c).1 (zk _ _ _ _ (ai c).2)
@[elab_as_elim] theorem vW{v:V}(c:aL G (.lit v) nm sl x=true)(zk:∀ k y z,OC v k=true->zP (.Constant k y z)):zP x:=s7 (zP:=zP) c zk
@[elab_as_elim] theorem vX{i:Nat}(c:aL G (.loc i) nm sl x=true)(zk:∀ n p,cv nm sl i n=true->zP (.Name n p)):zP x:=eH (zP:=zP) c zk
@[elab_as_elim] theorem s8{v:V}(c:aL G (.glob v) nm sl x=true)(zk:∀ n p,nc G nm n (II v)=true->zP (.Name n p)):zP x:=eH (zP:=zP) c zk
@[elab_as_elim] theorem vY{es:List ME}(c:aL G (.tup es) nm sl x=true)(zk:∀ xs k p,es.length<=100->fg G es nm sl xs=true->zP (.Tuple xs k p)):zP x:=lV (zP:=zP) c λa b d c=>zk a b d (of_decide_eq_true (ai c).1) (ai c).2
@[elab_as_elim] theorem vZ{es:List ME}(c:aL G (.lst es) nm sl x=true)(zk:∀ xs p,es.length<=100->fg G es nm sl xs=true->zP (.List xs p)):zP x:=Cc (zP:=zP) c λa b c=>zk a b (of_decide_eq_true (ai c).1) (ai c).2
theorem xz{b:Bool}(h:(!b)=true):b=false:=by induction b with|false=>rfl|true=>exact ff h
@[elab_as_elim] theorem s9{o:ME}{a:Nat}(c:aL G (.attr o a) nm sl x=true)(zk:∀ y p,a<22->dI y=true->aL G o nm sl y=true->zP (.Attribute y (dY a) p)):zP x:=
 fL (zP:=zP) c λy n p c=>
 let d:=ai (ai (ai c).1).1
 beq_iff_eq.mp d.1▸zk y p (of_decide_eq_true d.2) (ai (ai c).1).2 (ai c).2
@[elab_as_elim] theorem v6{o i:ME}(c:aL G (.idx o i) nm sl x=true)(zk:∀ y s p,isSlice s=false->aL G o nm sl y=true->aL G i nm sl s=true->zP (.Subscript y s p)):zP x:=
 iq (zP:=zP) c λy s p c=>zk y s p (xz (ai (ai c).1).1) (ai (ai c).1).2 (ai c).2
noncomputable def xA(G:Str->Option GV)(nm:bn)(sl:Sl)(m:ME)(x:Option Expr):Bool:=match x with|some x=>aL G m nm sl x&&!gf m|none=>gf m
@[elab_as_elim] theorem rx{o lo hi st:ME}(c:aL G (.slice o lo hi st) nm sl x=true)(zk:∀ y l u s p q,aL G o nm sl y=true->xA G nm sl lo l=true->xA G nm sl hi u=true->xA G nm sl st s=true->zP (.Subscript y (.Slice l u s p) q)):zP x:=
 iq (zP:=zP) c λy s q c=>
 zJ (zP:=λs=>zP (.Subscript y s q)) c λl u t p c=>
 zk y l u t p q (ai (ai (ai c).1).1).1 (ai (ai (ai c).1).1).2 (ai (ai c).1).2 (ai c).2
@[elab_as_elim] theorem v7{op:jO}{a b:ME}(c:aL G (.bin op a b) nm sl x=true)(zk:∀ y o z p,lq op o=true->aL G a nm sl y=true->aL G b nm sl z=true->zP (.BinOp y o z p)):zP x:=
 zH (zP:=zP) c λy o z p c=>zk y o z p (ai (ai c).1).1 (ai (ai c).1).2 (ai c).2
@[elab_as_elim] theorem v9{a:ME}(c:aL G (.neg a) nm sl x=true)(zk:∀ y p,aL G a nm sl y=true->zP (.UnaryOp .USub y p)):zP x:=
 nK (zP:=zP) c λo y p c=>by
   induction o with
  |USub=>exact zk y p c
  |_=>exact ff c
@[elab_as_elim] theorem wd{a:ME}(c:aL G (.not a) nm sl x=true)(zk:∀ y p,aL G a nm sl y=true->zP (.UnaryOp .Not y p)):zP x:=
 nK (zP:=zP) c λo y p c=>by
   induction o with
  |Not=>exact zk y p c
  |_=>exact ff c
theorem xB{α:Type}{l:List α}{f:α->Bool}{P:List α->Prop}(c:Er l f=true)(k:∀ a,f a=true->P [a]):P l:=by
  induction l using List.casesOn with
 |nil=>exact ff c
 |cons a r=>induction r using List.casesOn with
   |nil=>exact k a c
   |cons=>exact ff c
theorem ph{α:Type}{l:List α}{f:α->α->Bool}{P:List α->Prop}(c:zF l f=true)(k:∀ a b,f a b=true->P [a,b]):P l:=by
  induction l using List.casesOn with
 |nil=>exact ff c
 |cons a r=>exact xB (P:=λr=>P (a::r)) (f:=f a) c λb c=>k a b c
theorem nil_of{α:Type}{l:List α}{b:Bool}{P:List α->Prop}(c:jT l b=true)(k:b=true->P []):P l:=by
  induction l using List.casesOn with
 |nil=>exact k c
 |cons=>exact ff c
@[elab_as_elim] theorem we{op:lw}{a b:ME}(c:aL G (.cmp op a b) nm sl x=true)(zk:∀ y o z p,lS op o=true->gg z=true->aL G a nm sl y=true->aL G b nm sl z=true->zP (.Compare y [o] [z] p)):zP x:=
 nL (zP:=zP) c λy os zs p c=>
 xB (P:=λos=>zP (.Compare y os zs p)) c λo c=>
 xB (P:=λzs=>zP (.Compare y [o] zs p)) c λz c=>
 zk y o z p (ai (ai (ai c).1).1).1 (ai (ai (ai c).1).1).2 (ai (ai c).1).2 (ai c).2
@[elab_as_elim] theorem ta{op jC:lw}{a b d:ME}(c:aL G (.nG op jC a b d) nm sl x=true)(zk:∀ y o o' z w p,lS op o=true->lS jC o'=true->gg w=true->aL G a nm sl y=true->aL G b nm sl z=true->aL G d nm sl w=true->zP (.Compare y [o,o'] [z,w] p)):zP x:=
 nL (zP:=zP) c λy os zs p c=>
 ph (P:=λos=>zP (.Compare y os zs p)) c λo o' c=>
 ph (P:=λzs=>zP (.Compare y [o,o'] zs p)) c λz w c=>
 have c2:=(ai (ai (ai c).1).1)
 zk y o o' z w p (ai (ai c2.1).1).1 (ai (ai c2.1).1).2 (ai c2.1).2 c2.2 (ai (ai c).1).2 (ai c).2
@[elab_as_elim] theorem wg{es:List ME}(c:aL G (.and es) nm sl x=true)(zk:∀ xs p,2<=xs.length->fg G es nm sl xs=true->zP (.BoolOp .And xs p)):zP x:=
 pf (zP:=zP) c λo y p c=>by
   induction o with
  |And=>exact zk y p (of_decide_eq_true (ai c).1) (ai c).2
  |_=>exact ff c
@[elab_as_elim] theorem zK{es:List ME}(c:aL G (.or es) nm sl x=true)(zk:∀ xs p,2<=xs.length->fg G es nm sl xs=true->zP (.BoolOp .Or xs p)):zP x:=
 pf (zP:=zP) c λo y p c=>by
   induction o with
  |Or=>exact zk y p (of_decide_eq_true (ai c).1) (ai c).2
  |_=>exact ff c
@[elab_as_elim] theorem wh{t a b:ME}(c:aL G (.aB t a b) nm sl x=true)(zk:∀ y z w p,aL G t nm sl y=true->aL G a nm sl z=true->aL G b nm sl w=true->zP (.IfExp y z w p)):zP x:=
 zI (zP:=zP) c λy o z p c=>zk y o z p (ai (ai c).1).1 (ai (ai c).1).2 (ai c).2
@[elab_as_elim] theorem iI{P:Str->Pos->List Expr->Bool}(c:(iG (xv x) λf xs ks _=>(ez (xv f) λn p=>jT ks (P n p xs)))=true)(zk:∀ n p xs q,P n p xs=true->zP (.Call (.Name n p) xs [] q)):zP x:=
 s6 (zP:=zP) c λf xs ks q c=>
 eH (zP:=λf=>zP (.Call f xs ks q)) c λn p c=>
 nil_of (P:=λks=>zP (.Call (.Name n p) xs ks q)) c λc=>zk n p xs q c
@[elab_as_elim] theorem pi{P:Expr->Str->Pos->List Expr->Pos->Bool}(c:(iG (xv x) λf xs ks p=>(eb (xv f) λy n ap=>jT ks (P y n ap xs p)))=true)(zk:∀ y n ap xs p,P y n ap xs p=true->zP (.Call (.Attribute y n ap) xs [] p)):zP x:=
 s6 (zP:=zP) c λf xs ks q c=>
 fL (zP:=λf=>zP (.Call f xs ks q)) c λy n ap c=>
 nil_of (P:=λks=>zP (.Call (.Attribute y n ap) xs ks q)) c λc=>zk y n ap xs q c
@[elab_as_elim] theorem tb{f:ME}{es:List ME}(c:aL G (.call f es) nm sl x=true)(zk:∀ n p xs q,aL G f nm sl (.Name n p)=true->fg G es nm sl xs=true->zP (.Call (.Name n p) xs [] q)):zP x:=
 iI (zP:=zP) (P:=λn p xs=>aL G f nm sl (.Name n p)&&fg G es nm sl xs) c λn p xs q c=>zk n p xs q (ai c).1 (ai c).2
@[elab_as_elim] theorem wj{k:Nat}{es:List ME}(c:aL G (.new k es) nm sl x=true)(zk:∀ n p xs q,k<5->nc G nm n (λg=>match g with|.cls j=>j==k|_=>false)=true->fg G es nm sl xs=true->zP (.Call (.Name n p) xs [] q)):zP x:=
 iI (zP:=zP) (P:=λn p xs=>decide (k<5)&&nc G nm n (λg=>match g with|.cls j=>j==k|_=>false)&&fg G es nm sl xs) c λn p xs q c=>zk n p xs q (of_decide_eq_true (ai (ai c).1).1) (ai (ai c).1).2 (ai c).2
@[elab_as_elim] theorem tc{k:Pr}{es:List ME}(c:aL G (.prim k es) nm sl x=true)(zk:∀ p xs q,nc G nm (mO k) (λg=>match g with|.pr _=>true|_=>false)=true->fg G es nm sl xs=true->zP (.Call (.Name (mO k) p) xs [] q)):zP x:=
 iI (zP:=zP) (P:=λn p xs=>n==mO k&&nc G nm n (λg=>match g with|.pr _=>true|_=>false)&&fg G es nm sl xs) c λn p xs q c=>by
  cases beq_iff_eq.mp (ai (ai c).1).1
  exact zk p xs q (ai (ai c).1).2 (ai c).2
@[elab_as_elim] theorem td{o:ME}{m:Nat}{es:List ME}(c:aL G (.bm o m es) nm sl x=true)(zk:∀ y ap xs p,(100<=m/\m<119)->xs.length<20->(ap.endLine==p.line)=true->dI y=true->aL G o nm sl y=true->fg G es nm sl xs=true->zP (.Call (.Attribute y (lR m) ap) xs [] p)):zP x:=
 pi (zP:=zP) (P:=λy n ap xs p=>n==lR m&&decide (100<=m/\m<119)&&decide (xs.length<20)&&(ap.endLine==p.line)&&dI y&&aL G o nm sl y&&fg G es nm sl xs) c λy n ap xs p c=>by
  have d:=(ai (ai (ai c).1).1).1
  have g:=(ai (ai d).1).1
  cases beq_iff_eq.mp (ai g).1
  exact zk y ap xs p (of_decide_eq_true (ai g).2) (of_decide_eq_true (ai (ai d).1).2) (ai d).2 (ai (ai (ai c).1).1).2 (ai (ai c).1).2 (ai c).2
@[elab_as_elim] theorem ry{o:ME}{m:BM}{es:List ME}(c:aL G (.ba o m es) nm sl x=true)(zk:∀ y ap xs p,xs.length<20->(ap.endLine==p.line)=true->dI y=true->aL G o nm sl y=true->fg G es nm sl xs=true->zP (.Call (.Attribute y (o9 m) ap) xs [] p)):zP x:=
 pi (zP:=zP) (P:=λy n ap xs p=>n==o9 m&&decide (xs.length<20)&&(ap.endLine==p.line)&&dI y&&aL G o nm sl y&&fg G es nm sl xs) c λy n ap xs p c=>by
  have d:=(ai (ai (ai c).1).1).1
  cases beq_iff_eq.mp (ai (ai d).1).1
  exact zk y ap xs p (of_decide_eq_true (ai (ai d).1).2) (ai d).2 (ai (ai (ai c).1).1).2 (ai (ai c).1).2 (ai c).2
@[elab_as_elim] theorem te{o:ME}{k:IK}(c:aL G (.isin o k) nm sl x=true)(zk:∀ n p y pz q,nc G nm n IH=true->nc G nm (se k) (P6 k)=true->notStar y=true->aL G o nm sl y=true->zP (.Call (.Name n p) [y,.Name (se k) pz] [] q)):zP x:=
 iI (zP:=zP) (P:=λn _ xs=>zF xs λy w=>(ez (xv w) λz _=>nc G nm n IH&&z==se k&&nc G nm z (P6 k)&&notStar y&&aL G o nm sl y)) c λn p xs q c=>
 ph (P:=λxs=>zP (.Call (.Name n p) xs [] q)) c λy w c=>
 eH (zP:=λw=>zP (.Call (.Name n p) [y,w] [] q)) c λz pz c=>by
  have d:=(ai (ai c).1).1
  cases beq_iff_eq.mp (ai (ai d).1).2
  exact zk n p y pz q (ai (ai d).1).1 (ai d).2 (ai (ai c).1).2 (ai c).2
@[elab_as_elim] theorem tf{es:List ME}(c:aL G (.dict es) nm sl x=true)(zk:∀ ks us p,us.length<=15->xw G es nm sl ks us=true->zP (.Dict ks us p)):zP x:=
 Cb (zP:=zP) c λks us p c=>zk ks us p (of_decide_eq_true (ai c).1) (ai c).2
theorem ti{elt src:ME}{t:CT}{k:Nat}{cs:List ME}{gs:List Comprehension}{sc:Scope}{p:Pos}{P:List Comprehension->Prop}(c:aL G (.comp elt src t k cs) nm sl (.ListComp x gs sc p)=true)
    (zk:∀ tg it ifs,aL G (.comp elt src t k cs) nm sl (.ListComp x [⟨tg,it,ifs,0⟩] sc p)=true->P [⟨tg,it,ifs,0⟩]):P gs:=by
  induction gs using List.casesOn with
 |nil=>exact ff c
 |cons g gs=>
    obtain⟨tg,it,ifs,n⟩:=g
    induction n with
   |negSucc=>exact ff c
   |ofNat n=>induction n using Nat.casesOn with
     |succ=>exact ff c
     |zero=>induction gs using List.casesOn with
      |nil=>exact zk tg it ifs c
      |cons=>exact ff c
@[elab_as_elim] theorem tj{elt src:ME}{t:CT}{k:Nat}{cs:List ME}(c:aL G (.comp elt src t k cs) nm sl x=true)(zk:∀ y tg it ifs sc p,aL G (.comp elt src t k cs) nm sl (.ListComp y [⟨tg,it,ifs,0⟩] sc p)=true->zP (.ListComp y [⟨tg,it,ifs,0⟩] sc p)):zP x:=
 lU (zP:=λx=>aL G (.comp elt src t k cs) nm sl x=true->zP x) (f:=λ_ _ _ _=>true) (ai (b:=true) (show(Nat.beq (xv x).t 5&&true)=true from by rw[Bool.and_true];exact(ai c).1) |> λh=>show(Nat.beq (xv x).t 5&&true)=true from by rw[h.1];rfl)
  (λy gs sc p _ c=>ti (P:=λgs=>zP (.ListComp y gs sc p)) c λtg it ifs c=>zk y tg it ifs sc p c) c
section
variable {s:Stmt}{zS:Stmt->Prop}
@[elab_as_elim] theorem Cd{f:Expr->Pos->Bool}(c:zz (sv s) f=true)(zk:∀ a b,f a b=true->zS (.Expr a b)):zS s:=pb (n:=0) (P:=zS) (ai c).1 (zk _ _ (ai c).2)
@[elab_as_elim] theorem xC{f:Option Expr->Pos->Bool}(c:sX (sv s) f=true)(zk:∀ a b,f a b=true->zS (.Return a b)):zS s:=pb (n:=1) (P:=zS) (ai c).1 (zk _ _ (ai c).2)
@[elab_as_elim] theorem xD{f:List Expr->Expr->Pos->Bool}(c:sY (sv s) f=true)(zk:∀ a b d,f a b d=true->zS (.Assign a b d)):zS s:=pb (n:=2) (P:=zS) (ai c).1 (zk _ _ _ (ai c).2)
@[elab_as_elim] theorem lr{f:Expr->Operator->Expr->Pos->Bool}(c:jF (sv s) f=true)(zk:∀ a b d g,f a b d g=true->zS (.AugAssign a b d g)):zS s:=pb (n:=3) (P:=zS) (ai c).1 (zk _ _ _ _ (ai c).2)
@[elab_as_elim] theorem IL{f:Expr->List Stmt->List Stmt->Pos->Bool}(c:Iy (sv s) f=true)(zk:∀ a b d g,f a b d g=true->zS (.If a b d g)):zS s:=pb (n:=4) (P:=zS) (ai c).1 (zk _ _ _ _ (ai c).2)
@[elab_as_elim] theorem zM{f:Expr->List Stmt->List Stmt->Pos->Bool}(c:vU (sv s) f=true)(zk:∀ a b d g,f a b d g=true->zS (.While a b d g)):zS s:=pb (n:=5) (P:=zS) (ai c).1 (zk _ _ _ _ (ai c).2)
@[elab_as_elim] theorem F7{f:Expr->Expr->List Stmt->List Stmt->Pos->Bool}(c:En (sv s) f=true)(zk:∀ a b d g h,f a b d g h=true->zS (.For a b d g h)):zS s:=pb (n:=6) (P:=zS) (ai c).1 (zk _ _ _ _ _ (ai c).2)
@[elab_as_elim] theorem zN{f:Pos->Bool}(c:vV (sv s) f=true)(zk:∀ a,f a=true->zS (.Break a)):zS s:=pb (n:=7) (P:=zS) (ai c).1 (zk _ (ai c).2)
@[elab_as_elim] theorem tm{f:Pos->Bool}(c:pd (sv s) f=true)(zk:∀ a,f a=true->zS (.Continue a)):zS s:=pb (n:=8) (P:=zS) (ai c).1 (zk _ (ai c).2)
@[elab_as_elim] theorem Ce{e:ME}(c:qw G (.expr e) nm sl s=true)(zk:∀ x p,hH x=true->aL G e nm sl x=true->zS (.Expr x p)):zS s:=
 Cd (zS:=zS) (f:=λx _=>hH x&&aL G e nm sl x) c λx p c=>zk x p (ai c).1 (ai c).2
@[elab_as_elim] theorem F8{e:ME}(c:qw G (.ret e) nm sl s=true)(zk:∀ x p,aL G e nm sl x=true->zS (.Return (some x) p)):zS s:=
 xC (zS:=zS) (f:=λx _=>match x with|some x=>aL G e nm sl x|_=>false) c λx p c=>by
   induction x with
  |none=>exact ff c
  |some x=>exact zk x p c
@[elab_as_elim] theorem F9{t:Tg}{e:ME}(c:qw G (.asg t e) nm sl s=true)(zk:∀ y x p,pe G t nm sl y=true->aL G e nm sl x=true->IJ nm sl t y x=true->zS (.Assign [y] x p)):zS s:=
 xD (zS:=zS) (f:=λts x _=>match ts with|y::r=>(match r with|[]=>pe G t nm sl y&&aL G e nm sl x&&IJ nm sl t y x|_=>false)|[]=>false) c λts x p c=>by
   induction ts using List.casesOn with
  |nil=>exact ff c
  |cons y r=>induction r using List.casesOn with
    |nil=>exact zk y x p (ai (ai c).1).1 (ai (ai c).1).2 (ai c).2
    |cons=>exact ff c
theorem Ga{P:Expr->Expr->Tg->Prop}{y:Expr}{t:Tg}(c:Es nm y x t=true)(zk:∀ n py e g sc px i,(nm.lookup n==some .local&&py.line==px.line&&!(sc.names.any λ(z,k)=>z==n&&(k==.local || k==.cell)))=true->P (.Name n py) (.ListComp e g sc px) (.loc i)):P y x t:=
 eH (zP:=λy=>P y x t) (f:=λn py=>jk (xv x) λ_ _ sc px=>xy t&&(nm.lookup n==some .local&&py.line==px.line&&!(sc.names.any λ(z,k)=>z==n&&(k==.local || k==.cell)))) c λn py c=>
 lU (zP:=λx=>P (.Name n py) x t) (f:=λ_ _ sc px=>xy t&&(nm.lookup n==some .local&&py.line==px.line&&!(sc.names.any λ(z,k)=>z==n&&(k==.local || k==.cell)))) c λe g sc px c=>by
   induction t using Tg.casesOn with
  |loc i=>exact zk n py e g sc px i c
  |_=>exact ff c
theorem Et{ks:List (Option Expr)}{us:List Expr}(c:xw G [] nm sl ks us=true):ks=[]/\us=[]:=by
  induction ks using List.casesOn with
 |nil=>induction us using List.casesOn with
   |nil=>exact⟨rfl,rfl⟩
   |cons=>exact ff c
 |cons=>exact ff c
@[elab_as_elim] theorem Gb{i:Nat}{op:jO}{e:ME}(c:qw G (.aug i op e) nm sl s=true)(zk:∀ x xp o y p,lq op o=true->cv nm sl i x=true->aL G e nm sl y=true->zS (.AugAssign (.Name x xp) o y p)):zS s:=
 lr (zS:=zS) (f:=λz o y _=>(ez (xv z) λx _=>lq op o&&cv nm sl i x&&aL G e nm sl y)) c λz o y p c=>
 eH (zP:=λz=>zS (.AugAssign z o y p)) (f:=λx _=>lq op o&&cv nm sl i x&&aL G e nm sl y) c λx xp c=>zk x xp o y p (ai (ai c).1).1 (ai (ai c).1).2 (ai c).2
@[elab_as_elim] theorem Cf{o:ME}{a:Nat}{op:jO}{e:ME}(c:qw G (.lh o a op e) nm sl s=true)(zk:∀ x xp q y p,lq op q=true->a<22->dI x=true->aL G o nm sl x=true->aL G e nm sl y=true->zS (.AugAssign (.Attribute x (dY a) xp) q y p)):zS s:=
 lr (zS:=zS) (f:=λz q y _=>(eb (xv z) λx n _=>lq op q&&n==dY a&&decide (a<22)&&dI x&&aL G o nm sl x&&aL G e nm sl y)) c λz q y p c=>
 fL (zP:=λz=>zS (.AugAssign z q y p)) (f:=λx n _=>lq op q&&n==dY a&&decide (a<22)&&dI x&&aL G o nm sl x&&aL G e nm sl y) c λx n xp c=>by
  have d:=(ai (ai (ai c).1).1).1
  cases beq_iff_eq.mp (ai (ai d).1).2
  exact zk x xp q y p (ai (ai d).1).1 (of_decide_eq_true (ai d).2) (ai (ai (ai c).1).1).2 (ai (ai c).1).2 (ai c).2
@[elab_as_elim] theorem Gc{t:ME}{b o:List MS}(c:qw G (.aB t b o) nm sl s=true)(zk:∀ x y z p,aL G t nm sl x=true->jU G b nm sl y=true->jU G o nm sl z=true->zS (.If x y z p)):zS s:=
 IL (zS:=zS) (f:=λx y z _=>aL G t nm sl x&&jU G b nm sl y&&jU G o nm sl z) c λx y z p c=>zk x y z p (ai (ai c).1).1 (ai (ai c).1).2 (ai c).2
@[elab_as_elim] theorem Gd{t:ME}{b:List MS}(c:qw G (.lM t b) nm sl s=true)(zk:∀ x y p,aL G t nm sl x=true->jU G b nm sl y=true->zS (.While x y [] p)):zS s:=
 zM (zS:=zS) (f:=λx y z _=>jT z (aL G t nm sl x&&jU G b nm sl y)) c λx y z p c=>
 nil_of (P:=λz=>zS (.While x y z p)) c λc=>zk x y p (ai c).1 (ai c).2
@[elab_as_elim] theorem Ge{t:CT}{e:ME}{b:List MS}(c:qw G (.for t e b) nm sl s=true)(zk:∀ y x z p,nJ nm sl t y=true->gg x=true->aL G e nm sl x=true->jU G b nm sl z=true->zS (.For y x z [] p)):zS s:=
 F7 (zS:=zS) (f:=λy x z o _=>jT o (nJ nm sl t y&&gg x&&aL G e nm sl x&&jU G b nm sl z)) c λy x z o p c=>
 nil_of (P:=λo=>zS (.For y x z o p)) c λc=>zk y x z p (ai (ai (ai c).1).1).1 (ai (ai (ai c).1).1).2 (ai (ai c).1).2 (ai c).2
@[elab_as_elim] theorem LY(c:qw G .brk nm sl s=true)(zk:∀ p,zS (.Break p)):zS s:=zN (zS:=zS) (f:=λ_=>true) c λp _=>zk p
@[elab_as_elim] theorem IM(c:qw G .cont nm sl s=true)(zk:∀ p,zS (.Continue p)):zS s:=tm (zS:=zS) (f:=λ_=>true) c λp _=>zk p
theorem LZ{xs:List Stmt}(c:jU G [] nm sl xs=true):xs=[]:=by
  induction xs using List.casesOn with
 |nil=>rfl
 |cons=>exact ff c
@[elab_as_elim] theorem Cg{zL:List Stmt->Prop}{st:MS}{b:List MS}{xs:List Stmt}(c:jU G (st::b) nm sl xs=true)(zk:∀ x ys,qw G st nm sl x=true->jU G b nm sl ys=true->zL (x::ys)):zL xs:=by
  induction xs using List.casesOn with
 |nil=>exact ff c
 |cons x ys=>exact zk x ys (ai c).1 (ai c).2
@[elab_as_elim] theorem wm{i:Nat}(c:pe G (.loc i) nm sl x=true)(zk:∀ n p,cv nm sl i n=true->zP (.Name n p)):zP x:=eH (zP:=zP) (f:=λn _=>cv nm sl i n) c zk
@[elab_as_elim] theorem tn{o:ME}{a:Nat}(c:pe G (.attr o a) nm sl x=true)(zk:∀ y p,a<22->aL G o nm sl y=true->zP (.Attribute y (dY a) p)):zP x:=
 fL (zP:=zP) (f:=λx n _=>n==dY a&&decide (a<22)&&aL G o nm sl x) c λy n p c=>by
  cases beq_iff_eq.mp (ai (ai c).1).1
  exact zk y p (of_decide_eq_true (ai (ai c).1).2) (ai c).2
@[elab_as_elim] theorem wn{o i:ME}(c:pe G (.idx o i) nm sl x=true)(zk:∀ y s p,isSlice s=false->aL G o nm sl y=true->aL G i nm sl s=true->zP (.Subscript y s p)):zP x:=
 iq (zP:=zP) (f:=λx s _=>!isSlice s&&aL G o nm sl x&&aL G i nm sl s) c λy s p c=>zk y s p (xz (ai (ai c).1).1) (ai (ai c).1).2 (ai c).2
@[elab_as_elim] theorem wp{ts:List Tg}(c:pe G (.tup ts) nm sl x=true)(zk:∀ xs k p,lT G ts nm sl xs=true->zP (.Tuple xs k p)):zP x:=lV (zP:=zP) (f:=λxs _ _=>lT G ts nm sl xs) c zk
theorem zO{xs:List Expr}(c:lT G [] nm sl xs=true):xs=[]:=by
  induction xs using List.casesOn with
 |nil=>rfl
 |cons=>exact ff c
@[elab_as_elim] theorem rz{zL:List Expr->Prop}{t:Tg}{ts:List Tg}{xs:List Expr}(c:lT G (t::ts) nm sl xs=true)(zk:∀ x ys,pe G t nm sl x=true->lT G ts nm sl ys=true->zL (x::ys)):zL xs:=by
  induction xs using List.casesOn with
 |nil=>exact ff c
 |cons x ys=>exact zk x ys (ai c).1 (ai c).2
theorem Eu{xs:List Expr}(c:nH nm sl [] xs=true):xs=[]:=by
  induction xs using List.casesOn with
 |nil=>rfl
 |cons=>exact ff c
@[elab_as_elim] theorem to{zL:List Expr->Prop}{i:Nat}{is:List Nat}{xs:List Expr}(c:nH nm sl (i::is) xs=true)(zk:∀ n p ys,cv nm sl i n=true->nH nm sl is ys=true->zL (.Name n p::ys)):zL xs:=by
  induction xs using List.casesOn with
 |nil=>exact ff c
 |cons x ys=>exact eH (x:=x) (zP:=λx=>zL (x::ys)) (f:=λn _=>cv nm sl i n&&nH nm sl is ys) c λn p c=>zk n p ys (ai c).1 (ai c).2
@[elab_as_elim] theorem Gf{i:Nat}(c:nJ nm sl (.one i) x=true)(zk:∀ n p,cv nm sl i n=true->zP (.Name n p)):zP x:=eH (zP:=zP) (f:=λn _=>cv nm sl i n) c zk
@[elab_as_elim] theorem tq{is:List Nat}(c:nJ nm sl (.many is) x=true)(zk:∀ xs k p,nH nm sl is xs=true->zP (.Tuple xs k p)):zP x:=lV (zP:=zP) (f:=λxs _ _=>nH nm sl is xs) c zk
end
end
section
variable {P:Pg}{call:bT}{l:Lo}{H H':Hp}{v:V}
theorem aw{α β:Type}{m:Option (α×Hp)}{f:α->Hp->Option β}{r:β}(e:bw m f=some r){zg:Prop}(zk:∀ a H,(m=some (a,H))->(f a H=some r)->zg):zg:=by
 unfold bw at e
 split at e
 ·exact zk _ _ rfl e
 ·exact nn e
theorem Gg{α β:Type}{m:Option (α×Hp)}{f:α->Hp->Option β}{r:β}(e:bw m f=some r):∃ a H,m=some (a,H)/\f a H=some r:=aw e λa H cR cX=>⟨a,H,cR,cX⟩
theorem Ev{u:V}(e:av P call (.lit u) l H=some (v,H')):u=v/\H=H':=by
 have e:some (u,H)=some (v,H'):=e
 cases e;exact⟨rfl,rfl⟩
theorem IN{u:V}(e:av P call (.glob u) l H=some (v,H')):u=v/\H=H':=by
 have e:some (u,H)=some (v,H'):=e
 cases e;exact⟨rfl,rfl⟩
theorem L0{i:Nat}(e:av P call (.loc i) l H=some (v,H')):l[i]?=some (some v)/\H=H':=by
  have e:(match l[i]? with|some (some v)=>some (v,H)|_=>none)=some (v,H'):=e
  cases h:l[i]? with
 |none=>rw[h] at e;exact nn e
 |some o=>induction o with
   |none=>rw[h] at e;exact nn e
   |some u=>rw[h] at e;cases e;exact⟨rfl,rfl⟩
theorem Gh{es:List ME}(e:av P call (.tup es) l H=some (v,H')){zg:Prop}(zk:∀ vs,(ek P call es l H=some (vs,H'))->(v=.tup vs)->zg):zg:=by
 refine aw (m:=ek P call es l H) e λvs H1 e1 e=>?_
 cases e;exact zk vs e1 rfl
theorem Gi{es:List ME}(e:av P call (.lst es) l H=some (v,H')){zg:Prop}(zk:∀ vs H1,(ek P call es l H=some (vs,H1))->(v=.loc H1.length)->(H'=H1++[.list vs])->zg):zg:=by
 refine aw (m:=ek P call es l H) e λvs H1 e1 e=>?_
 cases e;exact zk vs H1 e1 rfl rfl
theorem Ch{o:ME}{a:Nat}(e:av P call (.attr o a) l H=some (v,H')){zg:Prop}(zk:∀ ov,(av P call o l H=some (ov,H'))->(lQ H' ov a=some v)->zg):zg:=by
  refine aw (m:=av P call o l H) e λov H1 e1 e=>?_
  cases h:lQ H1 ov a with
 |none=>rw[h] at e;exact nn e
 |some u=>rw[h] at e;cases e;exact zk ov e1 h
theorem Gj{o i:ME}(e:av P call (.idx o i) l H=some (v,H')){zg:Prop}(zk:∀ ov H1 iv,(av P call o l H=some (ov,H1))->(av P call i l H1=some (iv,H'))->(gE H' ov iv=some v)->zg):zg:=by
  refine aw (m:=av P call o l H) e λov H1 e1 e=>?_
  refine aw (m:=av P call i l H1) e λiv H2 e2 e=>?_
  cases h:gE H2 ov iv with
 |none=>rw[h] at e;exact nn e
 |some u=>rw[h] at e;cases e;exact zk ov H1 iv e1 e2 h
theorem zQ{o lo hi st:ME}{r:V×Hp}(e:av P call (.slice o lo hi st) l H=some r){zg:Prop}(zk:∀ ov H1 lv H2 uv H3 tv H4,(av P call o l H=some (ov,H1))->(av P call lo l H1=some (lv,H2))->(av P call hi l H2=some (uv,H3))->(av P call st l H3=some (tv,H4))->(mL ov lv uv tv H4=some r)->zg):zg:=by
 refine aw (m:=av P call o l H) e λov H1 e1 e=>?_
 refine aw (m:=av P call lo l H1) e λlv H2 e2 e=>?_
 refine aw (m:=av P call hi l H2) e λuv H3 e3 e=>?_
 refine aw (m:=av P call st l H3) e λtv H4 e4 e=>?_
 exact zk ov H1 lv H2 uv H3 tv H4 e1 e2 e3 e4 e
theorem Gk{op:jO}{a b:ME}{r:V×Hp}(e:av P call (.bin op a b) l H=some r){zg:Prop}(zk:∀ x H1 y H2,(av P call a l H=some (x,H1))->(av P call b l H1=some (y,H2))->(zp op x y H2=some r)->zg):zg:=by
 refine aw (m:=av P call a l H) e λov H1 e1 e=>?_
 refine aw (m:=av P call b l H1) e λiv H2 e2 e=>?_
 exact zk ov H1 iv H2 e1 e2 e
theorem Gl{a:ME}(e:av P call (.neg a) l H=some (v,H')){zg:Prop}(zk:∀ i,(av P call a l H=some (.int i,H'))->(v=.int (-i))->zg):zg:=by
 refine aw (m:=av P call a l H) e λov H1 e1 e=>?_
 induction ov using V.casesOn <;> first|(cases e;exact zk _ e1 rfl)|exact nn e
theorem wq{a:ME}(e:av P call (.not a) l H=some (v,H')){zg:Prop}(zk:∀ b,(av P call a l H=some (.bool b,H'))->(v=.bool (!b))->zg):zg:=by
 refine aw (m:=av P call a l H) e λov H1 e1 e=>?_
 induction ov using V.casesOn <;> first|(cases e;exact zk _ e1 rfl)|exact nn e
theorem lW{o:Option Bool}{H:Hp}{r:V×Hp}(e:(match o with|some r=>some (V.bool r,H)|none=>none)=some r){zg:Prop}(zk:∀ b,(o=some b)->((V.bool b,H)=r)->zg):zg:=by
  induction o with
 |none=>exact nn e
 |some b=>exact zk b rfl (cj e)
theorem Gm{op:lw}{a b:ME}{r:V×Hp}(e:av P call (.cmp op a b) l H=some r){zg:Prop}(zk:∀ x H1 y H2 q,(av P call a l H=some (x,H1))->(av P call b l H1=some (y,H2))->(bY H2 op x y=some q)->((V.bool q,H2)=r)->zg):zg:=by
 refine aw (m:=av P call a l H) e λov H1 e1 e=>?_
 refine aw (m:=av P call b l H1) e λiv H2 e2 e=>?_
 refine lW e λq h e=>?_
 exact zk ov H1 iv H2 q e1 e2 h e
theorem tu{op jC:lw}{a b c:ME}{r:V×Hp}(e:av P call (.nG op jC a b c) l H=some r){zg:Prop}(zk:∀ x H1 y H2,(av P call a l H=some (x,H1))->(av P call b l H1=some (y,H2))->(((bY H2 op x y=some true/\∃ z H3 q,av P call c l H2=some (z,H3)/\bY H3 jC y z=some q/\(V.bool q,H3)=r)\/(bY H2 op x y=some false/\(V.bool false,H2)=r)))->zg):zg:=by
  refine aw (m:=av P call a l H) (f:=λa H=>bw (av P call b l H) λb H=>(match bY H op a b with
   |some true=>bw (av P call c l H) λc H=>(match bY H jC b c with|some r=>some (V.bool r,H)|none=>none)
   |some false=>some (V.bool false,H)
   |none=>none)) e λov H1 e1 e=>?_
  refine aw (m:=av P call b l H1) e λiv H2 e2 e=>?_
  refine zk ov H1 iv H2 e1 e2 ?_
  cases h:bY H2 op ov iv with
 |none=>rw[h] at e;exact nn e
 |some q=>
    rw[h] at e
    induction q with
   |false=>exact .inr ⟨rfl,cj e⟩
   |true=>
     refine aw (m:=av P call c l H2) e λz H3 e3 e=>?_
     refine lW e λq h2 e=>?_
     exact .inl ⟨rfl,z,H3,q,e3,h2,e⟩
theorem Ew{t a b:ME}{r:V×Hp}(e:av P call (.aB t a b) l H=some r):∃ H1,(av P call t l H=some (.bool true,H1)/\av P call a l H1=some r)\/(av P call t l H=some (.bool false,H1)/\av P call b l H1=some r):=by
  refine aw (m:=av P call t l H) e λov H1 e1 e=>?_
  induction ov using V.casesOn with
 |bool q=>induction q with
   |true=>exact⟨H1,.inl ⟨e1,e⟩⟩
   |false=>exact⟨H1,.inr ⟨e1,e⟩⟩
 |_=>exact nn e
theorem Ci{f:ME}{es:List ME}{r:V×Hp}(e:av P call (.call f es) l H=some r){zg:Prop}(zk:∀ k H1 vs H2,(av P call f l H=some (.fn k,H1))->(ek P call es l H1=some (vs,H2))->(call k vs H2=some r)->zg):zg:=by
 obtain⟨k,H1,vs,H2,cR,cX,io⟩:∃ k H1 vs H2,av P call f l H=some (.fn k,H1)/\ek P call es l H1=some (vs,H2)/\call k vs H2=some r:=by
  refine aw (m:=av P call f l H) e λov H1 e1 e=>?_
  refine aw (m:=ek P call es l H1) e λvs H2 e2 e=>?_
  induction ov using V.casesOn <;> first|exact⟨_,_,_,_,e1,e2,e⟩|exact nn e
 exact zk k H1 vs H2 cR cX io
theorem Gn{c:Nat}{es:List ME}(e:av P call (.new c es) l H=some (v,H')){zg:Prop}(zk:∀ vs H1 ci,(ek P call es l H=some (vs,H1))->(P.cls[c]?=some ci)->(call ci.init (.loc H1.length::vs) (H1++[.inst c []])=some (.none,H'))->(v=.loc H1.length)->zg):zg:=by
 obtain⟨vs,H1,ci,cR,cX,io,Cj⟩:∃ vs H1 ci,ek P call es l H=some (vs,H1)/\P.cls[c]?=some ci/\call ci.init (.loc H1.length::vs) (H1++[.inst c []])=some (.none,H')/\v=.loc H1.length:=by
   refine aw (m:=ek P call es l H) (f:=λvs H=>(match P.cls[c]? with
    |some ci=>bw (call ci.init (.loc H.length::vs) (H++[.inst c []])) λr H'=>(match r with|.none=>some (V.loc H.length,H')|_=>none)
    |none=>none)) e λvs H1 e1 e=>?_
   cases h:P.cls[c]? with
  |none=>rw[h] at e;exact nn e
  |some ci=>
     rw[h] at e
     refine aw (m:=call ci.init (.loc H1.length::vs) (H1++[.inst c []])) e λr H2 e2 e=>?_
     induction r using V.casesOn <;> first|(cases e;exact⟨vs,H1,ci,e1,rfl,e2,rfl⟩)|exact nn e
 exact zk vs H1 ci cR cX io Cj
theorem Ck{o:ME}{m:Nat}{es:List ME}{r:V×Hp}(e:av P call (.bm o m es) l H=some r){zg:Prop}(zk:∀ n H1 c fs ci k vs H2,(av P call o l H=some (.loc n,H1))->(H1[n]?=some (.inst c fs))->(P.cls[c]?=some ci)->(eF m ci.meths=some k)->(ek P call es l H1=some (vs,H2))->(call k (.loc n::vs) H2=some r)->zg):zg:=by
  refine aw (m:=av P call o l H) (f:=λo H=>(match o with
   |.loc n=>(match H[n]? with
     |some (.inst c _)=>(match P.cls[c]? with
      |some ci=>(match eF m ci.meths with
        |some k=>bw (ek P call es l H) λvs H=>call k (o::vs) H
        |none=>none)
      |none=>none)
     |_=>none)
   |_=>none)) e λov H1 e1 e=>?_
  induction ov using V.casesOn with
 |loc n=>
    dsimp only at e
    cases h:H1[n]? with
   |none=>rw[h] at e;exact nn e
   |some ob=>induction ob with
     |inst c fs=>
       rw[h] at e
       dsimp only at e
       cases h2:P.cls[c]? with
      |none=>rw[h2] at e;exact nn e
      |some ci=>
         rw[h2] at e
         dsimp only at e
         cases h3:eF m ci.meths with
        |none=>rw[h3] at e;exact nn e
        |some k=>
          rw[h3] at e
          refine aw e λvs H2 e2 e=>?_
          exact zk n H1 c fs ci k vs H2 e1 h h2 h3 e2 e
     |_=>rw[h] at e;exact nn e
 |_=>exact nn e
theorem zR{o:ME}{m:BM}{es:List ME}{r:V×Hp}(e:av P call (.ba o m es) l H=some r){zg:Prop}(zk:∀ ov H1 vs H2,(av P call o l H=some (ov,H1))->(vm m ov H1=true)->(ek P call es l H1=some (vs,H2))->(sQ m ov vs H2=some r)->zg):zg:=by
  refine aw (m:=av P call o l H) e λov H1 e1 e=>?_
  cases h:vm m ov H1 with
 |false=>rw[h] at e;exact nn e
 |true=>
   rw[h] at e
   refine aw (m:=ek P call es l H1) e λvs H2 e2 e=>?_
   exact zk ov H1 vs H2 e1 h e2 e
theorem Cm{p:Pr}{es:List ME}{r:V×Hp}(e:av P call (.prim p es) l H=some r){zg:Prop}(zk:∀ vs H1,(ek P call es l H=some (vs,H1))->(lP p vs H1=some r)->zg):zg:=by
 obtain⟨vs,H1,cR,cX⟩:∃ vs H1,ek P call es l H=some (vs,H1)/\lP p vs H1=some r:=Gg (m:=ek P call es l H) e
 exact zk vs H1 cR cX
theorem Cn{o:ME}{k:IK}(e:av P call (.isin o k) l H=some (v,H')){zg:Prop}(zk:∀ ov b,(av P call o l H=some (ov,H'))->(xk ov k=some b)->(v=.bool b)->zg):zg:=by
 refine aw (m:=av P call o l H) e λov H1 e1 e=>?_
 refine lW e λb h e=>?_
 cases e;exact zk ov b e1 h rfl
theorem Co{elt src:ME}{t:CT}{k:Nat}{cs:List ME}(e:av P call (.comp elt src t k cs) l H=some (v,H')){zg:Prop}(zk:∀ sv H1 vp vs H2,(av P call src l H=some (sv,H1))->(gN H1 sv=some vp)->(dw (λl H=>nU P call cs l H) (λl H=>av P call elt l H) t (l++List.replicate k none) 1048576 vp [] H1=some (vs,H2))->(vs.length<=lim)->(v=.loc H2.length)->(H'=H2++[.list vs])->zg):zg:=by
  refine aw (m:=av P call src l H) (f:=λs H=>(match gN H s with
   |some it=>bw (dw (λl H=>nU P call cs l H) (λl H=>av P call elt l H) t (l++List.replicate k none) 1048576 it [] H) λvs H=>
      if vs.length<=lim then some (V.loc H.length,H++[O.list vs]) else none
   |none=>none)) e λsv H1 e1 e=>?_
  cases h:gN H1 sv with
 |none=>rw[h] at e;exact nn e
 |some vp=>
    rw[h] at e
    refine aw e λvs H2 e2 e=>?_
    by_cases hl:vs.length<=lim
    ·rw[if_pos hl] at e
     cases e
     exact zk sv H1 vp vs H2 e1 h e2 hl rfl rfl
    ·rw[if_neg hl] at e;exact nn e
theorem Cp{es:List ME}(e:av P call (.dict es) l H=some (v,H')){zg:Prop}(zk:∀ ds H1,(jf P call es l H=some (ds,H1))->(v=.loc H1.length)->(H'=H1++[.dict ds])->zg):zg:=by
 refine aw (m:=jf P call es l H) e λvs H1 e1 e=>?_
 cases e;exact zk vs H1 e1 rfl rfl
theorem pj{β:Type}{m:Option (Lo×Hp)}{f:Lo->Hp->Option β}{r:β}(e:zt m f=some r){zg:Prop}(zk:∀ l H,(m=some (l,H))->(f l H=some r)->zg):zg:=by
  induction m with
 |none=>exact nn e
 |some z=>exact zk z.1 z.2 rfl e
section
variable {r:Fl×Lo×Hp}
theorem Cq{e0:ME}(e:cU P call (.expr e0) l H=some r){zg:Prop}(zk:∀ v H1,(av P call e0 l H=some (v,H1))->((Fl.next,l,H1)=r)->zg):zg:=by
 refine aw (m:=av P call e0 l H) e λv H1 e1 e=>?_
 exact zk v H1 e1 (cj e)
theorem Gp{e0:ME}(e:cU P call (.ret e0) l H=some r){zg:Prop}(zk:∀ v H1,(av P call e0 l H=some (v,H1))->((Fl.ret v,l,H1)=r)->zg):zg:=by
 refine aw (m:=av P call e0 l H) e λv H1 e1 e=>?_
 exact zk v H1 e1 (cj e)
theorem qx{t:Tg}{e0:ME}(e:cU P call (.asg t e0) l H=some r){zg:Prop}(zk:∀ v H1 l1 H2,(av P call e0 l H=some (v,H1))->(eV (av P call) t v l H1=some (l1,H2))->((Fl.next,l1,H2)=r)->zg):zg:=by
 refine aw (m:=av P call e0 l H) e λv H1 e1 e=>?_
 refine pj (m:=eV (av P call) t v l H1) e λl1 H2 e2 e=>?_
 exact zk v H1 l1 H2 e1 e2 (cj e)
theorem sf{t:Tg}{e0:ME}(e:cU P call (.asg t e0) l H=some r):∃ v H1 l1 H2,av P call e0 l H=some (v,H1)/\eV (av P call) t v l H1=some (l1,H2)/\(Fl.next,l1,H2)=r:=qx e λv H1 l1 H2 cR cX io=>⟨v,H1,l1,H2,cR,cX,io⟩
theorem L1{t:ME}{b o:List MS}(e:cU P call (.aB t b o) l H=some r):∃ H1,(av P call t l H=some (.bool true,H1)/\aS P call b l H1=some r)\/(av P call t l H=some (.bool false,H1)/\aS P call o l H1=some r):=by
  refine aw (m:=av P call t l H) e λv H1 e1 e=>?_
  induction v using V.casesOn with
 |bool q=>induction q with
   |true=>exact⟨H1,.inl ⟨e1,e⟩⟩
   |false=>exact⟨H1,.inr ⟨e1,e⟩⟩
 |_=>exact nn e
theorem Gq{t:CT}{e0:ME}{b:List MS}(e:cU P call (.for t e0 b) l H=some r){zg:Prop}(zk:∀ v H1 it,(av P call e0 l H=some (v,H1))->(gN H1 v=some it)->(dX t (λl H=>aS P call b l H) 1048576 it l H1=some r)->zg):zg:=by
  refine aw (m:=av P call e0 l H) (f:=λv H=>(match gN H v with
   |some it=>dX t (λl H=>aS P call b l H) 1048576 it l H
   |none=>none)) e λv H1 e1 e=>?_
  cases h:gN H1 v with
 |none=>rw[h] at e;exact nn e
 |some it=>rw[h] at e;exact zk v H1 it e1 h e
theorem Gs{i:Nat}{op:jO}{e0:ME}(e:cU P call (.aug i op e0) l H=some r){zg:Prop}(zk:∀ a b H1 q,(l[i]?=some (some a))->(av P call e0 l H=some (b,H1))->(lk op a b=some q)->((Fl.next,l.set i (some q),H1)=r)->zg):zg:=by
 obtain⟨a,b,H1,q,cR,cX,io,Cj⟩:∃ a b H1 q,l[i]?=some (some a)/\av P call e0 l H=some (b,H1)/\lk op a b=some q/\(Fl.next,l.set i (some q),H1)=r:=by
   obtain⟨a,h,e⟩:∃ a,l[i]?=some (some a)/\bw (av P call e0 l H) (λb H=>(match lk op a b with|some r=>(some (.next,l.set i (some r),H):SR)|none=>none))=some r:=by
     have e:(match l[i]? with
      |some (some a)=>bw (av P call e0 l H) λb H=>(match lk op a b with|some r=>(some (.next,l.set i (some r),H):SR)|none=>none)
      |_=>none)=some r:=e
     cases h:l[i]? with
    |none=>rw[h] at e;exact nn e
    |some z=>induction z with
      |none=>rw[h] at e;exact nn e
      |some a=>rw[h] at e;exact⟨a,rfl,e⟩
   refine aw e λb H1 e1 e=>?_
   cases h2:lk op a b with
  |none=>rw[h2] at e;exact nn e
  |some q=>rw[h2] at e;exact⟨a,b,H1,q,h,e1,h2,cj e⟩
 exact zk a b H1 q cR cX io Cj
theorem Cr{o:ME}{a:Nat}{op:jO}{e0:ME}(e:cU P call (.lh o a op e0) l H=some r){zg:Prop}(zk:∀ ov H1 u b H2 q H3,(av P call o l H=some (ov,H1))->(lQ H1 ov a=some u)->(av P call e0 l H1=some (b,H2))->(lk op u b=some q)->(jQ H2 ov a q=some H3)->((Fl.next,l,H3)=r)->zg):zg:=by
  refine aw (m:=av P call o l H) (f:=λo H=>(match lQ H o a with
   |some x=>bw (av P call e0 l H) λb H=>(match lk op x b with|some r=>(match jQ H o a r with|some H=>(some (.next,l,H):SR)|none=>none)|none=>none)
   |none=>none)) e λov H1 e1 e=>?_
  cases h:lQ H1 ov a with
 |none=>rw[h] at e;exact nn e
 |some u=>
    rw[h] at e
    refine aw (m:=av P call e0 l H1) e λb H2 e2 e=>?_
    cases h2:lk op u b with
   |none=>rw[h2] at e;exact nn e
   |some q=>
      rw[h2] at e
      dsimp only at e
      cases h3:jQ H2 ov a q with
     |none=>rw[h3] at e;exact nn e
     |some H3=>rw[h3] at e;exact zk ov H1 u b H2 q H3 e1 h e2 h2 h3 (cj e)
end
section
variable {ev:ME->Lo->Hp->Option (V×Hp)}{l1:Lo}
theorem Cs{o:ME}{a:Nat}(e:eV ev (.attr o a) v l H=some (l1,H')){zg:Prop}(zk:∀ ov H1,(ev o l H=some (ov,H1))->(jQ H1 ov a v=some H')->(l=l1)->zg):zg:=by
  refine aw (m:=ev o l H) e λov H1 e1 e=>?_
  cases h:jQ H1 ov a v with
 |none=>rw[h] at e;exact nn e
 |some H2=>rw[h] at e;cases e;exact zk ov H1 e1 h rfl
theorem Gu{o i:ME}(e:eV ev (.idx o i) v l H=some (l1,H')){zg:Prop}(zk:∀ ov H1 iv H2,(ev o l H=some (ov,H1))->(ev i l H1=some (iv,H2))->(sR H2 ov iv v=some H')->(l=l1)->zg):zg:=by
  refine aw (m:=ev o l H) e λov H1 e1 e=>?_
  refine aw (m:=ev i l H1) e λiv H2 e2 e=>?_
  cases h:sR H2 ov iv v with
 |none=>rw[h] at e;exact nn e
 |some H3=>rw[h] at e;cases e;exact zk ov H1 iv H2 e1 e2 h rfl
theorem ww{ts:List Tg}{r:Lo×Hp}(e:eV ev (.tup ts) v l H=some r){zg:Prop}(zk:∀ vs,(jj H v=some vs)->(dM ev ts vs l H=some r)->zg):zg:=by
 obtain⟨vs,cR,cX⟩:∃ vs,jj H v=some vs/\dM ev ts vs l H=some r:=by
   have e:(match jj H v with|some vs=>dM ev ts vs l H|none=>none)=some r:=e
   cases h:jj H v with
  |none=>rw[h] at e;exact nn e
  |some vs=>rw[h] at e;exact⟨vs,rfl,e⟩
 exact zk vs cR cX
theorem L2{ts:List Tg}{r:Lo×Hp}(e:eV ev (.tup ts) v l H=some r):∃ vs,jj H v=some vs/\dM ev ts vs l H=some r:=ww e λvs cR cX=>⟨vs,cR,cX⟩
end
end
end Mine
namespace Mine
noncomputable abbrev As:=List (Addr×Option Addr)
noncomputable def owned(as:As):List Addr:=as.flatMap λp=>p.1::p.2.toList
inductive Im where
 |tup (ws:List Value)|ro (ws:List Value)|cQ (a b c:Int)
noncomputable abbrev TS:=Addr->Im->Prop
structure b0 where
 prog:Program
 w:World
 P:Pg
 K:Frag
 fa:List Nat
 ca:List Nat
 G:Str->Option GV
 T0:TS
 h0:Heap
mutual
inductive VR(fa:List Nat)(as:As)(T:TS):V->Value->Prop
 |none:VR fa as T .none .none
 |bool (b:Bool):VR fa as T (.bool b) (.bool b)
 |int (i:Int) (t:Tok):VR fa as T (.int i) (.int i t)
 |str (s:List Nat) (t:Tok):s.length<=lim->VR fa as T (.str s) (.str ⟨s.toArray⟩ t)
 |tup {a:Addr} {l:List V} {ws:List Value}:T a (.tup ws)->l.length<=lim->br fa as T l ws->VR fa as T (.tup l) (.ref a)
 |ro {a:Addr} {l:List V} {ws:List Value}:T a (.ro ws)->l.length<=lim->br fa as T l ws->VR fa as T (.ro l) (.ref a)
 |cQ {a:Addr} {i j k:Int}:T a (.cQ i j k)->VR fa as T (.cQ i j k) (.ref a)
 |loc {n:Nat} {p:Addr×Option Addr}:as[n]?=some p->VR fa as T (.loc n) (.ref p.1)
 |fn {k:Nat} {a:Addr}:fa[k]?=some a->VR fa as T (.fn k) (.ref a)
inductive br(fa:List Nat)(as:As)(T:TS):List V->List Value->Prop
 |nil:br fa as T [] []
 |cons {v:V} {w:Value} {l:List V} {ws:List Value}:VR fa as T v w->br fa as T l ws->br fa as T (v::l) (w::ws)
end
structure eP(as:As)(T:TS)(as':As)(T':TS):Prop where
 Gv:∀(n:Nat)(p:Addr×Option Addr),as[n]?=some p->as'[n]?=some p
 tx:∀(a:Addr)(i:Im),T a i->T' a i
theorem eP.refl(as:As)(T:TS):eP as T as T:=⟨λ_ _ e=>e,λ_ _ e=>e⟩
theorem eP.trans{as as' OF:As}{T T' S4:TS}(x:eP as T as' T')(y:eP as' T' OF S4):eP as T OF S4:=⟨λn p e=>y.Gv n p (x.Gv n p e),λa i e=>y.tx a i (x.tx a i e)⟩
theorem VR.mono{fa:List Nat}{as as':As}{T T':TS}(m:eP as T as' T'){v:V}{w:Value}(x:VR fa as T v w):VR fa as' T' v w:=
 VR.rec (motive_1:=λv w _=>VR fa as' T' v w) (motive_2:=λl ws _=>br fa as' T' l ws) .none .bool .int (λs t h=>.str s t h) (λh k _ r=>.tup (m.tx _ _ h) k r) (λh k _ r=>.ro (m.tx _ _ h) k r) (λh=>.cQ (m.tx _ _ h)) (λh=>.loc (m.Gv _ _ h)) (λh=>.fn h) .nil (λ_ _ h r=>.cons h r) x
section
variable {fa:List Nat}{as:As}{T:TS}
section
variable {P:List Value->Prop}{ws:List Value}
@[elab_as_elim] theorem nM(x:br fa as T [] ws)(zk:P []):P ws:=by cases x;exact zk
@[elab_as_elim] theorem jV{a:V}{r:List V}(x:br fa as T (a::r) ws)(zk:∀ w us,VR fa as T a w->br fa as T r us->P (w::us)):P ws:=by
  cases x with
 |cons h r=>exact zk _ _ h r
end
variable {l m:List V}{ws us:List Value}{v:V}{w:Value}
theorem br.mono{as':As}{T':TS}(m:eP as T as' T')(x:br fa as T l ws):br fa as' T' l ws:=by
  induction l generalizing ws with
 |nil=>exact nM x .nil
 |cons a r ih=>exact jV x λw us h y=>.cons (h.mono m) (ih y)
theorem br.length(x:br fa as T l ws):ws.length=l.length:=by
  induction l generalizing ws with
 |nil=>exact nM x rfl
 |cons a r ih=>exact jV x λw us _ y=>congrArg (· + 1) (ih y)
theorem br.get(n:Nat)(x:br fa as T l ws)(e:l[n]?=some v):∃ w,ws[n]?=some w/\VR fa as T v w:=by
  induction l generalizing ws n with
 |nil=>exact nn e
 |cons a r ih=>
    refine jV x λw us h y=>?_
    match n,e with
   |0,e=>exact⟨w,rfl,cj e▸h⟩
   |n+1,e=>exact ih n y e
theorem br.append(x:br fa as T l ws)(q:br fa as T m us):br fa as T (l++m) (ws++us):=by
  induction l generalizing ws with
 |nil=>exact nM x q
 |cons a r ih=>exact jV x λw us h y=>.cons h (ih y)
theorem br.set(n:Nat)(x:br fa as T l ws)(q:VR fa as T v w):br fa as T (l.set n v) (ws.set n w):=by
  induction l generalizing ws n with
 |nil=>exact nM x .nil
 |cons a r ih=>
    refine jV x λw us h y=>?_
    match n with
   |0=>exact .cons q y
   |n+1=>exact .cons h (ih n y)
theorem br.take(n:Nat)(x:br fa as T l ws):br fa as T (l.take n) (ws.take n):=by
  induction l generalizing ws n with
 |nil=>exact nM x (by rw[List.take_nil,List.take_nil];exact .nil)
 |cons a r ih=>
    refine jV x λw us h y=>?_
    match n with
   |0=>exact .nil
   |n+1=>exact .cons h (ih n y)
theorem br.drop(n:Nat)(x:br fa as T l ws):br fa as T (l.drop n) (ws.drop n):=by
  induction l generalizing ws n with
 |nil=>exact nM x (by rw[List.drop_nil,List.drop_nil];exact .nil)
 |cons a r ih=>
    match n with
   |0=>exact x
   |n+1=>exact jV x λw us h y=>ih n y
theorem br.reverse(x:br fa as T l ws):br fa as T l.reverse ws.reverse:=by
  induction l generalizing ws with
 |nil=>exact nM x .nil
 |cons a r ih=>
   refine jV x λw us h y=>?_
   rw[gb,gb]
   exact br.append (ih y) (.cons h .nil)
end
section
variable {as:As}{T:TS}{w:Value}{fa:List Nat}{β:Type}{a:V}{r:β}{zg:Prop}
theorem gW{f:Nat->Option β}(e:qs a f=some r)(v:VR fa as T a w)(zk:∀ n,VR fa as T (.loc n) w->f n=some r->zg):zg:=rh e λn h e1=>zk n (h▸v) e1
theorem L3{f:List V->Option β}(e:PR a f=some r)(v:VR fa as T a w)(zk:∀ n,VR fa as T (.tup n) w->f n=some r->zg):zg:=zn e λn h e1=>zk n (h▸v) e1
theorem mP{f:List Nat->Option β}(e:zi a f=some r)(v:VR fa as T a w)(zk:∀ n,VR fa as T (.str n) w->f n=some r->zg):zg:=zm e λn h e1=>zk n (h▸v) e1
theorem eX{f:Int->Option β}(e:gM a f=some r)(v:VR fa as T a w)(zk:∀ n,VR fa as T (.int n) w->f n=some r->zg):zg:=zl e λn h e1=>zk n (h▸v) e1
end
noncomputable def tw(h:Heap)(a:Addr):Im->Prop
 |.tup ws=>h.IsTuple a ws.toArray
 |.ro ws=>h.IsList a ws.toArray
 |.cQ i j k=>∃ t u v,IsRange h a i j k t u v
theorem tw.keep{h h':Heap}{a:Addr}{i:Im}(x:tw h a i)(k:∀ o,h.get? a=some o->h'.get? a=some o):tw h' a i:=by
  induction i with
 |tup ws=>obtain⟨o,e,r⟩:=x;exact⟨o,k _ e,r⟩
 |ro ws=>obtain⟨o,e,r⟩:=x;exact⟨o,k _ e,r⟩
 |cQ i j l=>obtain⟨t,u,v,e⟩:=x;exact⟨t,u,v,k _ e⟩
theorem tw.alive{h:Heap}{a:Addr}{i:Im}(x:tw h a i):∃ o,h.get? a=some o:=by
  induction i with
 |tup ws=>obtain⟨o,e,r⟩:=x;exact⟨o,e⟩
 |ro ws=>obtain⟨o,e,r⟩:=x;exact⟨o,e⟩
 |cQ i j l=>obtain⟨t,u,v,e⟩:=x;exact⟨_,e⟩
noncomputable def lst(ws:List Value)(n:Nat):Obj:={ cls:=.type "list",data:=.seq ws.toArray n }
inductive DR(S:b0)(as:As)(T:TS):List (List Nat×V)->List (Str×Value)->Prop
 |nil:DR S as T [] []
 |cons {k:List Nat} {v:V} {w:Value} {es:List (List Nat×V)} {ds:List (Str×Value)}:VR S.fa as T v w->DR S as T es ds->DR S as T ((k,v)::es) ((⟨k.toArray⟩,w)::ds)
noncomputable def FR(S:b0)(as:As)(T:TS)(fs:List (Nat×V))(m:Str->Option Value):Prop:=
 (∀ i v,eF i fs=some v->i<22/\∃ w,m (dY i)=some w/\VR S.fa as T v w)/\∀ x w,m x=some w->∃ i,i<22/\x=dY i/\(eF i fs).isSome
theorem DR.mono{S:b0}{as as':As}{T T':TS}(m:eP as T as' T'){es:List (List Nat×V)}{ds:List (Str×Value)}(x:DR S as T es ds):DR S as' T' es ds:=by
  induction x with
 |nil=>exact .nil
 |cons h _ ih=>exact .cons (h.mono m) ih
theorem FR.mono{S:b0}{as as':As}{T T':TS}(m:eP as T as' T'){fs:List (Nat×V)}{f:Str->Option Value}(h:FR S as T fs f):FR S as' T' fs f:=
 ⟨λi v e=>let ⟨a,w,b,c⟩:=h.1 i v e;⟨a,w,b,c.mono m⟩,h.2⟩
inductive OR(S:b0)(as:As)(T:TS)(h:Heap):O->Addr×Option Addr->Prop
 |list {l:List V} {a:Addr} {ws:List Value} {n:Nat}:h.get? a=some (lst ws n)->l.length<=lim->br S.fa as T l ws->OR S as T h (.list l) (a,none)
 |dict {es:List (List Nat×V)} {a:Addr} {ds:List (Str×Value)}:h.DictOf (strKind S.prog S.w) a ds->es.length<=1024->DR S as T es ds->OR S as T h (.dict es) (a,none)
 |inst {c:Nat} {fs:List (Nat×V)} {C a dx:Addr} {f:Str->Option Value}:c<5->S.ca[c]?=some C->h.get? a=some (instObj C dx)->h.Ns1 dx f->FR S as T fs f ->
  OR S as T h (.inst c fs) (a,some dx)
theorem i2{as:As}{n:Nat}{p:Addr×Option Addr}(h:as[n]?=some p):p.1∈owned as/\∀ d,p.2=some d->d∈owned as:=by
 have hm:=lb h
 refine⟨nA.mpr ⟨p,hm,.head _⟩,λd e=>nA.mpr ⟨p,hm,?_⟩⟩
 rw[e];exact .tail _ (.head _)
theorem OR.keep{S:b0}{as as':As}{T T':TS}{h h':Heap}{o:O}{p:Addr×Option Addr}(x:OR S as T h o p)(m:eP as T as' T')
   (k1:∀ q,h.get? p.1=some q->h'.get? p.1=some q) (k2:∀ d q,p.2=some d->h.get? d=some q->h'.get? d=some q):OR S as' T' h' o p:=by
  induction x with
 |list e z r=>exact .list (k1 _ e) z (r.mono m)
 |dict e z r=>exact .dict (let ⟨o,es,ep,q,t⟩:=e;⟨o,es,ep,k1 _ q,t⟩) z (r.mono m)
 |inst c5 c e1 e2 r=>exact .inst c5 c (k1 _ e1) (e2.at λo q=>k2 _ _ rfl q) (r.mono m)
structure HR(S:b0)(as:As)(T:TS)(H:Hp)(h:Heap):Prop where
 base:∀ b o,S.h0.get? b=some o->h.get? b=some o
 len:as.length=H.length
 obj:∀(n:Nat)(o:O)(p:Addr×Option Addr),H[n]?=some o->as[n]?=some p->OR S as T h o p
 nd:(owned as).Nodup
 new:∀ a∈owned as,S.h0.get? a=none
 im:∀ a i,T a i->tw h a i
 t0:∀ a i,S.T0 a i->T a i
 ro:∀ a ws,T a (.ro ws)->∃ o,S.h0.get? a=some o
 two:∃ o,S.h0.get? cStatics=some o
 big:∀ a∈owned as,sysModules<a
structure Ext(X:Addr->Prop)(as:As)(T:TS)(h:Heap)(as':As)(T':TS)(h':Heap):Prop where
 mono:eP as T as' T'
 kp:∀ b o,b ∉ owned as->¬ X b->h.get? b=some o->h'.get? b=some o
 al:∀ b,X b->(h.get? b).isSome->(h'.get? b).isSome
 own:∀ b∈owned as',b∈owned as\/h.get? b=none
noncomputable def Nil:Addr->Prop:=λ_=>False
theorem Ext.refl(X:Addr->Prop)(as:As)(T:TS)(h:Heap):Ext X as T h as T h:=⟨.refl ..,λ_ _ _ _ e=>e,λ_ _ e=>e,λ_ e=>.inl e⟩
theorem Ext.trans{X:Addr->Prop}{as aQ iu:As}{T T1 T2:TS}{h h1 h2:Heap}(x:Ext X as T h aQ T1 h1)(y:Ext X aQ T1 h1 iu T2 h2):Ext X as T h iu T2 h2:=by
  refine⟨x.mono.trans y.mono,λb o n1 n2 e=>?_,λb hb e=>y.al b hb (x.al b hb e),λb hb=>?_⟩
  · have e1:=x.kp b o n1 n2 e
    refine y.kp b o (λhb=>?_) n2 e1
    rcases x.own b hb with q|q
    · exact n1 q
    · rw[q] at e;first|exact nn e|exact ff e|exact nn e
  · rcases y.own b hb with q|q
    · exact x.own b q
    · cases e:h.get? b with
     |none=>exact .inr rfl
     |some o=>
        by_cases ho:b∈owned as
        · exact .inl ho
        · by_cases hX:X b
          · have:=x.al b hX (by rw[e];rfl);rw[q] at this;first|exact nn this|exact ff this|exact nn this
          · have:=x.kp b o ho hX e;rw[q] at this;first|exact nn this|exact ff this|exact nn this
theorem Ext.weak{X Y:Addr->Prop}{as aQ:As}{T T1:TS}{h h1:Heap}(x:Ext Nil as T h aQ T1 h1)(hY:∀ b,Y b->b ∉ owned as):Ext Y as T h aQ T1 h1:=
 ⟨x.mono,λb o n1 _ e=>x.kp b o n1 (λq=>q) e,λb hb e=>by
  obtain⟨o,e⟩:=DT.mp e
  rw[x.kp b o (hY b hb) (λq=>q) e];rfl,x.own⟩
theorem HR.keep{S:b0}{as:As}{T:TS}{H:Hp}{h h':Heap}(x:HR S as T H h)(k:∀ b o,h.get? b=some o->h'.get? b=some o):HR S as T H h':=
 ⟨λb o e=>k b o (x.base b o e),x.len,λn o p e1 e2=>(x.obj n o p e1 e2).keep (.refl ..) (λq=>k _ q) (λd q _=>k _ q),x.nd,x.new,λa i t=>(x.im a i t).keep (k a),x.t0,x.ro,x.two,x.big⟩
theorem HR.but{S:b0}{as:As}{T:TS}{H:Hp}{h h':Heap}{y:Addr}(x:HR S as T H h)(k:∀ b o,b≠y->h.get? b=some o->h'.get? b=some o)(ho:y ∉ owned as)(hb:S.h0.get? y=none)(hT:∀ i,¬ T y i):HR S as T H h':=by
 refine⟨λb o e=>k b o (λq=>by rw[q,hb] at e;exact nn e) (x.base b o e),x.len,λn o p e1 e2=>?_,x.nd,x.new,λa i t=>(x.im a i t).keep λo e=>k a o (λq=>hT i (q▸t)) e,x.t0,x.ro,x.two,x.big⟩
 have hm:=i2 e2
 exact(x.obj n o p e1 e2).keep (.refl ..) (λq=>k _ q λz=>ho (z▸hm.1)) (λd q hd=>k _ q λz=>ho (z▸hm.2 d hd))
theorem bE(as bs:As):owned (as++bs)=owned as++owned bs:=by simp[owned]
theorem bH{α:Type}{l m:List α}{n:Nat}{a:α}(h:l[n]?=some a):(l++m)[n]?=some a:=by
 rw[dB (by have:=eS.mp h;exact this.1)];exact h
theorem HR.alive{S:b0}{as:As}{T:TS}{H:Hp}{h:Heap}(x:HR S as T H h){b:Addr}(hb:b∈owned as):∃ q,h.get? b=some q:=by
  obtain⟨q,hq,hb⟩:=nA.mp hb
  obtain⟨n,hn⟩:=vP hq
  have hl:n<H.length:=by rw[← x.len];exact(eS.mp hn).1
  obtain⟨o,ho⟩:∃ o,H[n]?=some o:=⟨_,sJ hl⟩
  have:=x.obj n o q ho hn
  induction this with
 |list e _ _=>simp at hb;subst hb;exact⟨_,e⟩
 |dict e _ _=>simp at hb;subst hb;exact(let ⟨o,_,_,e,_⟩:=e;⟨o,e⟩)
 |inst _ _ e1 e2 _=>simp at hb;rcases hb with rfl|rfl;exact⟨_,e1⟩;exact(let ⟨o,_,_,e,_⟩:=e2;⟨o,e⟩)
theorem HR.alloc{S:b0}{as:As}{T:TS}{H:Hp}{h h':Heap}{o:O}{p:Addr×Option Addr}(x:HR S as T H h)(k:∀ b q,h.get? b=some q->h'.get? b=some q)
    (hn:(p.1::p.2.toList).Nodup) (hf:∀ a∈p.1::p.2.toList,h.objs.size<=a) (ho:OR S (as++[p]) T h' o p):HR S (as++[p]) T (H++[o]) h':=by
  have hs:=hf
  have hf:∀ a∈p.1::p.2.toList,h.get? a=none:=λa ha=>by
    cases e:h.get? a with
   |none=>rfl
   |some o=>exact absurd (Heap.lt_size e) (eK.mpr (hs a ha))
  have m:eP as T (as++[p]) T:=⟨λn q e=>bH e,λ_ _ e=>e⟩
  refine⟨λb q e=>k _ _ (x.base b q e),by simp[x.len],λn q r e1 e2=>?_,?_,λa ha=>?_,λa i t=>(x.im a i t).keep (k a),x.t0,x.ro,x.two,λa ha=>?_⟩
  · by_cases hl:n<H.length
    · rw[dB hl] at e1
      rw[dB (by rw[x.len];exact hl)] at e2
      exact(x.obj n q r e1 e2).keep m (k _) (λd z _=>k _ z)
    · have:n=H.length:=by
        have:=(eS.mp e1).1;simp at this;exact k8 (nt (aj [_,_] (.d (.s ab) (.s af) (.d (.s af) ab .z)) rfl this)) (nt (aj [_,_] (.d ab af (.d (.s af) ab .z)) rfl (eK.mp hl)))
      subst this
      rw[eT (aE _),gZ] at e1
      rw[eT (by rw[x.len];exact aE _),x.len,gZ] at e2
      cases e1;cases e2;exact ho
  · rw[bE]
    refine za.mpr ⟨x.nd,by simpa [owned] using hn,λa ha b hb e=>?_⟩
    obtain⟨q,hq⟩:=x.alive ha
    rw[e,hf b (by simpa [owned] using hb)] at hq;exact nn hq
  · rw[bE] at ha
    rcases dh.mp ha with q|q
    · exact x.new a q
    · cases e:S.h0.get? a with
     |none=>rfl
     |some o'=>have:=x.base a o' e;rw[hf a (by simpa [owned] using q)] at this;exact nn this
  · rw[bE] at ha
    rcases dh.mp ha with q|q
    · exact x.big a q
    · obtain⟨o',IP⟩:=x.two
      have h2:=Heap.lt_size (x.base _ _ IP)
      have h3:=hs a (by simpa [owned] using q)
      exact d8 (nB (by decide) h2) h3
theorem pk{α β:Type}{f:α->List β}:∀{l:List α}{i j:Nat}{a b:α},(l.flatMap f).Nodup->l[i]?=some a->l[j]?=some b->i≠j->∀ x∈f a,x ∉ f b:=by
  intro l
  induction l with
 |nil=>intro i j a b _ h;simp at h
 |cons c r ih=>
    intro i j a b hn hi hj L4 x hx hb
    rw[List.flatMap_cons] at hn
    obtain⟨n1,n2,n3⟩:=za.mp hn
    induction i using Nat.casesOn with
   |zero=>induction j using Nat.casesOn with
     |zero=>exact L4 rfl
     |succ j=>
      simp at hi hj;subst hi
      exact n3 x hx x (nA.mpr ⟨b,lb hj,hb⟩) rfl
   |succ i=>induction j using Nat.casesOn with
     |zero=>
      simp at hi hj;subst hj
      exact n3 x hb x (nA.mpr ⟨a,lb hi,hx⟩) rfl
     |succ j=>
      simp at hi hj
      exact ih n2 hi hj (λq=>L4 (by rw[q])) x hx hb
theorem HR.upd{S:b0}{as:As}{T:TS}{H:Hp}{h h':Heap}{n:Nat}{o:O}{p:Addr×Option Addr}{y:Addr}(x:HR S as T H h)(hp:as[n]?=some p)(hn:n<H.length)
  (hy:y∈p.1::p.2.toList) (k:∀ b q,b≠y->h.get? b=some q->h'.get? b=some q) (ho:OR S as T h' o p) (hT:∀ i,¬ T y i):HR S as T (H.set n o) h':=by
 have yo:y∈owned as:=nA.mpr ⟨p,lb hp,hy⟩
 refine⟨λb q e=>k _ _ (λz=>by rw[z,x.new y yo] at e;exact nn e) (x.base b q e),by simp[x.len],λm q r e1 e2=>?_,x.nd,x.new,λa i t=>(x.im a i t).keep λq e=>k _ _ (λz=>hT i (z▸t)) e,x.t0,x.ro,x.two,x.big⟩
 by_cases hm:m=n
 ·subst hm
  rw[DU hn] at e1
  rw[hp] at e2
  cases e1;cases e2;exact ho
 ·rw[iQ (cA hm)] at e1
  have ap:=pk (f:=λp:Addr×Option Addr=>p.1::p.2.toList) x.nd e2 hp hm
  exact(x.obj m q r e1 e2).keep (.refl ..) (λz=>k _ z λw=>ap _ (.head _) (w▸hy)) (λd z hd=>k _ z λw=>ap d (by rw[hd];exact .tail _ (.head _)) (w▸hy))
end Mine
namespace Mine
theorem i3{k l:NameKind}(h:eW k l=true):k=l:=by induction k <;> induction l <;> first|rfl|exact ff h|exact nn h|exact nn h
theorem jW(x:Str):∀ nm:bn,ll x nm=nm.lookup x
 |[]=>rfl
 |(y,k)::r=>by
   rw[LU,oP]
   cases h:(x==y) with
  |true=>simp
  |false=>simp;exact jW x r
theorem ky:∀{nm:bn}{x:Str}{k:NameKind},i0 nm=true->nm.lookup x=some k->(x==(Str.ofString "__debug__"))=false
 |(y,k')::r,x,k,h,e=>by
   simp only[zD,zE,cJ,Bool.not_eq_true'] at h
   rw[oP] at e
   cases q:(x==y) with
  |true=>rw[beq_iff_eq.mp q];exact h.1
  |false=>rw[q] at e;exact ky h.2 e
noncomputable def ty:Pr->Value
 |.len=>.builtin "len"
 |.abs=>.builtin "abs"
 |.int=>.type "int"
 |.chr=>.builtin "chr"
 |.ord=>.builtin "ord"
 |.list=>.type "list"
 |.range=>.type "range"
 |.min=>.builtin "min"
 |.str=>.type "str"
theorem gP(p:Pr):bootBuiltins (mO p)=some (ty p)/\mO p≠"__name__":=by induction p <;> exact⟨by kernel_rfl,by decide +kernel⟩
theorem wy:bootBuiltins (Str.ofString "isinstance")=some (.builtin "isinstance")/\Str.ofString "isinstance"≠"__name__":=⟨by kernel_rfl,by decide +kernel⟩
theorem boot_tuple:bootBuiltins (Str.ofString "tuple")=some (.type "tuple")/\Str.ofString "tuple"≠"__name__":=⟨by kernel_rfl,by decide +kernel⟩
structure P7(S:b0)(C:Addr)(ci:CI):Prop where
 makes:makesIn S.K C=true
 init:∃ a,S.fa[ci.init]?=some a/\findIn S.K (.ref C) "__init__"=some (some (.ref a))/\typeIn S.K (.ref a)=some (.type "function")
 get:findIn S.K (.ref C) "__getattribute__"=some (some (.builtin "object.__getattribute__"))/\findIn S.K (.ref C) "__getattr__"=some none
 hasDict:hasDictIn S.K C=true
 attr:∀ i,i<22->∃ at',findIn S.K (.ref C) (dY i)=some at'/\noGet S.K at'=true
 take:∀ i,i<22->takerIn S.K C (dY i)=some none
 set:findIn S.K (.ref C) "__setattr__"=some (some (.builtin "object.__setattr__"))
 over:plainOver S.K C=true
 bm:∀ m k,eF m ci.meths=some k->∃ a,S.fa[k]?=some a/\findIn S.K (.ref C) (lR m)=some (some (.ref a))/\typeIn S.K (.ref a)=some (.type "function")
 apart:∀ m k i,eF m ci.meths=some k->i<22->(dY i==lR m)=false
noncomputable def tz:List String:=["int","str","bool","NoneType","tuple"]
noncomputable def sh(K:Frag)(ca:List Nat):Bool:=
 tz.all (λt=>["int","str","tuple"].all λc=>kitOne K (.type t) (.type c)==some (t==c || (t=="bool"&&c=="int"))) &&
 ca.all λD=>kitOne K (.type "int") (.ref D)==some false&&kitOne K (.type "str") (.ref D)==some false
structure Cx(S:b0):Prop where
 X:S.K.In S.h0
 lim:S.h0.NoLimit
 ns:∃ mg mb,S.h0.Ns mainGlobals mg/\S.h0.Ns builtinsNs mb/\(∀ x:Str,x≠"__name__"->mb x=bootBuiltins x)
 VK:∀ x k,S.G x=some (.fn k)->∃ a,S.fa[k]?=some a/\nsIn S.K mainGlobals x=some (some (.ref a))
 S5:∀ x v,S.G x=some (.val v)->∃ u,nsIn S.K mainGlobals x=some (some u)/\VR S.fa [] S.T0 v u
 OG:∀ x c,S.G x=some (.cls c)->∃ C,S.ca[c]?=some C/\nsIn S.K mainGlobals x=some (some (.ref C))/\x=Iw.getD c Str.empty
 P8:∀ x p,S.G x=some (.pr p)->nsIn S.K mainGlobals x=some none
 S6:∀ x,S.G x=some .Ix->nsIn S.K mainGlobals x=some none/\x=Str.ofString "isinstance"
 S7:∀ x k,S.G x=some (.typ k)->nsIn S.K mainGlobals x=some none
 fns:∀(k:Nat)(fi:FI),S.P.fns[k]?=some fi->∃ a:Nat,S.fa[k]?=some a/\LW S.G S.K fi a=true
 keep:∀(k a:Nat),S.fa[k]?=some a->keepIn S.K (.ref a)=true
 P9:∀(c C:Nat),S.ca[c]?=some C->keepIn S.K (.ref C)=true
 cls:∀(c C:Nat),c<5->S.ca[c]?=some C->∃ ci:CI,S.P.cls[c]?=some ci/\P7 S C ci
 S8:sh S.K S.ca=true
structure gh(A:Around)(d:Nat):Prop where
 handled:A.handled=none
 depth:A.depth+4*d+8<=1000
 units:A.units+32*d+200<=9900
structure ER(S:b0)(as:As)(T:TS)(env:Env)(nm:bn)(sl:Sl)(l:Lo)(h:Heap):Prop where
 kind:env.scope.kind=.function
 glob:env.globals=mainGlobals
 blt:env.builtins=builtinsNs
 names:env.scope.names=nm
 zT:i0 nm=true
 len:l.length=sl.length
 nd:∀(i j:Nat)(x:Str)(b c:Bool),sl[i]?=some (some (x,b))->sl[j]?=some (some (x,c))->i=j
 loc:∃ m,h.Ns env.locals m/\∀(i:Nat)(v:V)(x:Str),l[i]?=some (some v)->sl[i]?=some (some (x,false))->∃ w,m x=some w/\VR S.fa as T v w
 cell:∀(i:Nat)(x:Str),sl[i]?=some (some (x,true))->∃ c w,env.cells.lookup x=some c/\h.IsCell c w/\∀ v,l[i]?=some (some v)->∃ u,w=some u/\VR S.fa as T v u
 n8:∀ x y c,env.cells.lookup x=some c->env.cells.lookup y=some c->x=y
 kA:∀ x c,env.cells.lookup x=some c->∃ w,h.IsCell c w
 frame:env.locals ∉ owned as/\S.h0.get? env.locals=none
 cells:∀ x c,env.cells.lookup x=some c->c ∉ owned as/\S.h0.get? c=none
noncomputable def EX(env:Env)(b:Addr):Prop:=b=env.locals\/∃ x,env.cells.lookup x=some b
section
variable {S:b0}{as as':As}{T T':TS}{H H':Hp}{h h':Heap}{env:Env}{nm:bn}{sl:Sl}{l:Lo}
theorem jX{a:Addr}{m:Str->Option Value}(n:h.Ns a m):∃ o,h.get? a=some o:=let ⟨o,_,_,e,_⟩:=n;⟨o,e⟩
theorem lX{a:Addr}{m:Str->Option Value}(n:h.Ns a m)(k:∀ o,h.get? a=some o->h'.get? a=some o):h'.Ns a m:=let ⟨o,es,ep,e,r⟩:=n;⟨o,es,ep,k _ e,r⟩
theorem jm{c:Addr}{w:Option Value}(n:h.IsCell c w):∃ o,h.get? c=some o:=let ⟨o,e,_⟩:=n;⟨o,e⟩
theorem em{c:Addr}{w:Option Value}(n:h.IsCell c w)(k:∀ o,h.get? c=some o->h'.get? c=some o):h'.IsCell c w:=let ⟨o,e,r⟩:=n;⟨o,k _ e,r⟩
theorem ER.ext(x:ER S as T env nm sl l h)(e:Ext Nil as T h as' T' h'):ER S as' T' env nm sl l h':=by
 have k:∀ b o,b ∉ owned as->h.get? b=some o->h'.get? b=some o:=λb o n q=>e.kp b o n (λz=>z) q
 have own:∀ b o,b ∉ owned as->h.get? b=some o->b ∉ owned as':=λb o n q hb=>by
  rcases e.own b hb with z|z
  ·exact n z
  ·rw[z] at q;first|exact nn q|exact ff q|exact nn q
 obtain⟨m,hn,hm⟩:=x.loc
 obtain⟨oL,hL⟩:=jX hn
 refine⟨x.kind,x.glob,x.blt,x.names,x.zT,x.len,x.nd,⟨m,lX hn λo=>k _ o x.frame.1,λi v y e1 e2=>?_⟩,λi y e1=>?_,x.n8,λy c e1=>?_,⟨own _ _ x.frame.1 hL,x.frame.2⟩,λy c e1=>?_⟩
 ·obtain⟨w,h1,h2⟩:=hm i v y e1 e2
  exact⟨w,h1,h2.mono e.mono⟩
 ·obtain⟨c,w,h1,h2,h3⟩:=x.cell i y e1
  refine⟨c,w,h1,em h2 λo=>k _ o (x.cells y c h1).1,λv hv=>?_⟩
  obtain⟨u,h4,h5⟩:=h3 v hv
  exact⟨u,h4,h5.mono e.mono⟩
 ·obtain⟨w,h2⟩:=x.kA y c e1
  exact⟨w,em h2 λo=>k _ o (x.cells y c e1).1⟩
 ·obtain⟨w,h2⟩:=x.kA y c e1
  obtain⟨o,ho⟩:=jm h2
  exact⟨own _ _ (x.cells y c e1).1 ho,(x.cells y c e1).2⟩
theorem xE(x:HR S as T H h){a:Addr}{m:Str->Option Value}(n:h.Ns a m)(i:Im):¬ T a i:=λt=>by
  have:=x.im a i t
  obtain⟨o,es,ep,e,d,_⟩:=n
  induction i with
 |tup ws=>obtain⟨o',e',_,k,d'⟩:=this;rw[e] at e';cases e';rw[d] at d';cases d'
 |ro ws=>obtain⟨o',e',_,k,d'⟩:=this;rw[e] at e';cases e';rw[d] at d';cases d'
 |cQ i j k=>obtain⟨t,u,v,e'⟩:=this;have e2:=e.symm.trans e';cases e2;cases d
theorem Gw(x:HR S as T H h){a:Addr}{w:Option Value}(n:h.IsCell a w)(i:Im):¬ T a i:=λt=>by
  have:=x.im a i t
  obtain⟨o,e,d⟩:=n
  induction i with
 |tup ws=>obtain⟨o',e',_,k,d'⟩:=this;rw[e] at e';cases e';rw[d] at d';cases d'
 |ro ws=>obtain⟨o',e',_,k,d'⟩:=this;rw[e] at e';cases e';rw[d] at d';cases d'
 |cQ i j k=>obtain⟨t,u,v,e'⟩:=this;have e2:=e.symm.trans e';cases e2;cases d
variable {M:Model}{A:Around}{E:Value->Shared->Prop}{s:Shared}{Q:Value->Shared->Prop}{pos:Pos}
theorem fH{i:Nat}{x:Str}(c:cv nm sl i x=true){zg:Prop}(zk:∀ b,(sl[i]?=some (some (x,b)))->(nm.lookup x=some (B7 b))->zg):zg:=by
 unfold cv at c
 split at c
 ·rename_i y b e
  simp only[cJ] at c
  obtain⟨c1,c2⟩:=c
  obtain rfl:=beq_iff_eq.mp c1
  split at c2
  ·rename_i k hk
   refine zk b e ?_
   rw[← jW,hk,i3 c2]
  ·first|exact ff c2|exact nn c2|exact nn c2
 ·first|exact ff c|exact nn c|exact nn c
theorem Gy(x:ER S as T env nm sl l s.heap){i:Nat}{v:V}{n:Str}(c:cv nm sl i n=true)(hv:l[i]?=some (some v))(k:∀ w,VR S.fa as T v w->Q w s):wpAny M A (eval (.Name n pos) env) Q E s:=by
  refine fH c λb e1 e2=>?_
  have hk:env.kindOf n=some (B7 b):=by unfold Env.kindOf;rw[x.names];exact e2
  have hd:=ky x.zT e2
  induction b with
 |false=>
   obtain⟨m,hn,hm⟩:=x.loc
   obtain⟨w,h1,h2⟩:=hm i v n hv e1
   exact wpAny_Name (wpAny_loadName_local x.kind hk hn h1 (k w h2)) hd
 |true=>
   obtain⟨c,w,h1,h2,h3⟩:=x.cell i n e1
   obtain⟨u,rfl,h5⟩:=h3 v hv
   exact wpAny_Name (wpAny_loadName_cell x.kind hk h1 h2 (k u h5)) hd
theorem xF{x:Str}(c:xt nm x=true):nm.lookup x=some .globalImplicit:=by
 unfold xt at c
 split at c
 ·rename_i k hk;rw[← jW,hk,i3 c]
 ·first|exact ff c|exact nn c|exact nn c
theorem hU{G:Str->Option GV}{x:Str}{p:GV->Bool}(c:nc G nm x p=true){zg:Prop}(zk:(nm.lookup x=some .globalImplicit)->∀ g,(G x=some g)->(p g=true)->zg):zg:=by
 obtain⟨cR,g,cX,io⟩:nm.lookup x=some .globalImplicit/\∃ g,G x=some g/\p g=true:=by
  unfold nc at c
  simp only[cJ] at c
  refine⟨xF c.1,?_⟩
  have:=c.2
  split at this
  ·rename_i g hg;exact⟨g,hg,this⟩
  ·first|exact ff this|exact nn this|exact nn this
 exact zk cR g cX io
theorem kB(C:Cx S)(x:ER S as T env nm sl l s.heap)(hr:HR S as T H s.heap){n:Str}(hg:nm.lookup n=some .globalImplicit){v:Value}(hv:nsIn S.K mainGlobals n=some (some v))(k:Q v s):wpAny M A (eval (.Name n pos) env) Q E s:=by
 obtain⟨mg,mb,h1,h2,h3⟩:=C.ns
 refine Calls.Name_function_global x.kind (by unfold Env.kindOf;rw[x.names];exact hg) (Calls.loadGlobal_global (mg:=mg) (by rw[x.glob];exact h1.keeps hr.base) (mg_of C.X h1 hv) k) (ky x.zT hg)
theorem jY(C:Cx S)(x:ER S as T env nm sl l s.heap)(hr:HR S as T H s.heap){n:Str}(hg:nm.lookup n=some .globalImplicit){v:Value}(hn:nsIn S.K mainGlobals n=some none)(hv:bootBuiltins n=some v)(h':n≠"__name__")(k:Q v s):wpAny M A (eval (.Name n pos) env) Q E s:=by
 obtain⟨mg,mb,h1,h2,h3⟩:=C.ns
 refine Calls.Name_function_global x.kind (by unfold Env.kindOf;rw[x.names];exact hg) (Calls.loadGlobal_builtin (mg:=mg) (mb:=mb) (by rw[x.glob];exact h1.keeps hr.base) (mg_none_of C.X h1 hn) (by rw[x.blt];exact h2.keeps hr.base) ((h3 n h').trans hv) k) (ky x.zT hg)
end
end Mine
namespace Mine
noncomputable def dz(S:b0)(as:As)(T:TS)(s:Shared)(H':Hp)(v:V)(Q:Value->Shared->Prop):Prop:=
 ∀ w h' tk as' T',Ext Nil as T s.heap as' T' h'->HR S as' T' H' h'->VR S.fa as' T' v w->Q w { s with heap:=h',toks:=tk }
noncomputable def wz(S:b0)(as:As)(T:TS)(s:Shared)(H':Hp)(Q:Unit->Shared->Prop):Prop:=
 ∀ h' tk as' T',Ext Nil as T s.heap as' T' h'->HR S as' T' H' h'->Q () { s with heap:=h',toks:=tk }
section
variable {S:b0}{as aQ:As}{T T1:TS}{H H':Hp}{h h' h1:Heap}{s:Shared}{v:V}{w:Value}{Q:Value->Shared->Prop}{A:Around}{E:Value->Shared->Prop}
theorem dz.from{tk:Tok}(k:dz S as T s H' v Q)(e:Ext Nil as T s.heap aQ T1 h1):dz S aQ T1 { s with heap:=h1,toks:=tk } H' v Q:=
 λw h' tA as' T' e' hr vr=>k w h' tA as' T' (e.trans e') hr vr
theorem wz.from{tk:Tok}{Q:Unit->Shared->Prop}(k:wz S as T s H' Q)(e:Ext Nil as T s.heap aQ T1 h1):wz S aQ T1 { s with heap:=h1,toks:=tk } H' Q:=
 λh' tA as' T' e' hr=>k h' tA as' T' (e.trans e') hr
theorem dz.now(k:dz S as T s H v Q)(hr:HR S as T H s.heap)(vr:VR S.fa as T v w):Q w s:=k w s.heap s.toks as T (.refl ..) hr vr
theorem dz.tok(k:dz S as T s H v Q)(hr:HR S as T H s.heap)(vr:VR S.fa as T v w)(tk:Tok):Q w { s with toks:=tk }:=k w s.heap tk as T (.refl ..) hr vr
theorem dz.of{H0:Hp}{v0:V}(e:(v0,H0)=(v,H'))(q:dz S as T s H' v Q):dz S as T s H0 v0 Q:=by cases e;exact q
theorem dz.rM{H0:Hp}{v0:V}(e:some (v0,H0)=some (v,H'))(q:dz S as T s H' v Q):dz S as T s H0 v0 Q:=q.of (cj e)
theorem Ext.keep(k:∀ b o,h.get? b=some o->h'.get? b=some o):Ext Nil as T h as T h':=⟨.refl ..,λb o _ _ e=>k b o e,λb hb _=>hb.elim,λb hb=>.inl hb⟩
theorem b8(o:Obj):∀ b q,h.get? b=some q->(h.push o).get? b=some q:=λ_ _ e=>Heap.get?_push_of_some o e
theorem kC:h.get? h.objs.size=none:=by
  cases e:h.get? h.objs.size with
 |none=>rfl
 |some o=>exact absurd (Heap.lt_size e) (oQ _)
theorem Ex(hr:HR S as T H h)(k:∀ b o,h.get? b=some o->h'.get? b=some o){a:Addr}{i:Im}(hi:tw h' a i)(VL:∀ ws,i≠.ro ws) :
  Ext Nil as T h as (λb j=>T b j\/(b=a/\j=i)) h'/\HR S as (λb j=>T b j\/(b=a/\j=i)) H h':=by
 have m:eP as T as (λb j=>T b j\/(b=a/\j=i)):=⟨λ_ _ e=>e,λ_ _ e=>.inl e⟩
 refine⟨⟨m,λb o _ _ e=>k b o e,λb hb _=>hb.elim,λb hb=>.inl hb⟩,?_⟩
 have r:=hr.keep k
 refine⟨r.base,r.len,λn o p e1 e2=>(hr.obj n o p e1 e2).keep m (k _) (λd q _=>k _ q),r.nd,r.new,λb j t=>?_,λb j t=>.inl (hr.t0 b j t),λb ws t=>?_,r.two,r.big⟩
 ·rcases t with t|⟨rfl,rfl⟩
  ·exact r.im b j t
  ·exact hi
 ·rcases t with t|⟨_,q⟩
  ·exact hr.ro b ws t
  ·exact absurd q.symm (VL ws)
theorem rA(hr:HR S as T H h){l:List V}{ws:List Value}(hv:br S.fa as T l ws)(hl:l.length<=lim){zg:Prop}(zk:∀ T',(Ext Nil as T h as T' (h.push { cls:=.type "tuple",data:=.seq ws.toArray }))->(HR S as T' H (h.push { cls:=.type "tuple",data:=.seq ws.toArray }))->(VR S.fa as T' (.tup l) (.ref h.objs.size))->zg):zg:=by
 obtain⟨e,r⟩:=Ex (a:=h.objs.size) (i:=.tup ws) hr (b8 { cls:=.type "tuple",data:=.seq ws.toArray }) ⟨_,Heap.get?_push_size _ rfl,rfl,0,rfl⟩ (λ_ q=>by cases q)
 exact zk _ e r (.tup (.inr ⟨rfl,rfl⟩) hl (hv.mono e.mono))
theorem rB(hr:HR S as T H h)(k:∀ b o,h.get? b=some o->h'.get? b=some o){a:Addr}(hsz:h.objs.size<=a){l:List V}{ws:List Value}{n:Nat}(ho:h'.get? a=some (lst ws n))(hv:br S.fa as T l ws)(hl:l.length<=lim){zg:Prop}(zk:(Ext Nil as T h (as++[(a,none)]) T h')->(HR S (as++[(a,none)]) T (H++[.list l]) h')->(VR S.fa (as++[(a,none)]) T (.loc H.length) (.ref a))->zg):zg:=by
  have ha:h.get? a=none:=by
    cases e:h.get? a with
   |none=>rfl
   |some o=>exact absurd (Heap.lt_size e) (eK.mpr hsz)
  have m:eP as T (as++[(a,none)]) T:=⟨λn q e=>bH e,λ_ _ e=>e⟩
  refine zk (⟨m,λb o _ _ e=>k b o e,λb hb _=>hb.elim,λb hb=>?_⟩) (hr.alloc k (by simp) (by simpa using hsz) (.list ho hl (hv.mono m))) ?_
  · rw[bE] at hb
    rcases dh.mp hb with q|q
    · exact .inl q
    · simp[owned] at q;subst q;exact .inr ha
  · exact .loc (p:=(a,none)) (by rw[eT (by rw[hr.len];exact aE _),hr.len,gZ];rfl)
theorem Gz(hr:HR S as T H h)(k:∀ b o,h.get? b=some o->h'.get? b=some o){a:Addr}(hsz:h.objs.size<=a){l:List V}{ws:List Value}{n:Nat}(ho:h'.get? a=some (lst ws n))(hv:br S.fa as T l ws)(hl:l.length<=lim):Ext Nil as T h (as++[(a,none)]) T h'/\HR S (as++[(a,none)]) T (H++[.list l]) h'/\VR S.fa (as++[(a,none)]) T (.loc H.length) (.ref a):=rB hr k hsz ho hv hl λcR cX io=>⟨cR,cX,io⟩
theorem xG(hr:HR S as T H h){l:List V}{ws:List Value}(hv:br S.fa as T l ws)(hl:l.length<=lim){zg:Prop}(zk:(Ext Nil as T h (as++[(h.objs.size,none)]) T (h.push { cls:=.type "list",data:=.seq ws.toArray }))->(HR S (as++[(h.objs.size,none)]) T (H++[.list l]) (h.push { cls:=.type "list",data:=.seq ws.toArray }))->(VR S.fa (as++[(h.objs.size,none)]) T (.loc H.length) (.ref h.objs.size))->zg):zg:=by
 obtain⟨cR,cX,io⟩:Ext Nil as T h (as++[(h.objs.size,none)]) T (h.push { cls:=.type "list",data:=.seq ws.toArray })/\HR S (as++[(h.objs.size,none)]) T (H++[.list l]) (h.push { cls:=.type "list",data:=.seq ws.toArray })/\VR S.fa (as++[(h.objs.size,none)]) T (.loc H.length) (.ref h.objs.size):=Gz (n:=0) hr (b8 { cls:=.type "list",data:=.seq ws.toArray }) (aE _) (Heap.get?_push_size _ rfl) hv hl
 exact zk cR cX io
theorem VR.xH{n:Nat}(x:VR S.fa as T (.loc n) w){zg:Prop}(zk:∀ p,(as[n]?=some p)->(w=.ref p.1)->zg):zg:=by
 cases x with|loc e=>exact zk _ e rfl
theorem HR.fX(hr:HR S as T H h){n:Nat}{l:List V}(hl:H[n]?=some (.list l))(x:VR S.fa as T (.loc n) w){zg:Prop}(zk:∀ a ws k,(w=.ref a)->(as[n]?=some (a,none))->(h.get? a=some (lst ws k))->(l.length<=lim)->(br S.fa as T l ws)->zg):zg:=by
  refine x.xH λp e S9=>?_
  subst S9
  have:=hr.obj n _ p hl e
  cases this with
 |list e1 e2 e3=>exact zk _ _ _ rfl e e1 e2 e3
theorem HR.qy(hr:HR S as T H h){n:Nat}{es:List (List Nat×V)}(hl:H[n]?=some (.dict es))(x:VR S.fa as T (.loc n) w){zg:Prop}(zk:∀ a ds,(w=.ref a)->(as[n]?=some (a,none))->(h.DictOf (strKind S.prog S.w) a ds)->(es.length<=1024)->(DR S as T es ds)->zg):zg:=by
  refine x.xH λp e Ta=>?_
  subst Ta
  have:=hr.obj n _ p hl e
  cases this with
 |dict e1 e2 e3=>exact zk _ _ rfl e e1 e2 e3
theorem HR.wA(hr:HR S as T H h){n c:Nat}{fs:List (Nat×V)}(hl:H[n]?=some (.inst c fs))(x:VR S.fa as T (.loc n) w){zg:Prop}(zk:∀ a dx C f,(w=.ref a)->(as[n]?=some (a,some dx))->(c<5)->(S.ca[c]?=some C)->(h.get? a=some (instObj C dx))->(h.Ns1 dx f)->(FR S as T fs f)->zg):zg:=by
  refine x.xH λp e Tb=>?_
  subst Tb
  have:=hr.obj n _ p hl e
  cases this with
 |inst e0 e1 e2 e3 e4=>exact zk _ _ _ _ rfl e e0 e1 e2 e3 e4
section
variable {P:Value->Prop}{n c:Nat}{l:List V}{es:List (List Nat×V)}{fs:List (Nat×V)}
@[elab_as_elim] theorem HR.eY(hr:HR S as T H h)(hl:H[n]?=some (.list l))(x:VR S.fa as T (.loc n) w)(zk:∀ a ws k,as[n]?=some (a,none)->h.get? a=some (lst ws k)->l.length<=lim->br S.fa as T l ws->P (.ref a)):P w:=hr.fX hl x λa ws k e p q r s=>e▸zk a ws k p q r s
@[elab_as_elim] theorem HR.Ey(hr:HR S as T H h)(hl:H[n]?=some (.dict es))(x:VR S.fa as T (.loc n) w)(zk:∀ a ds,as[n]?=some (a,none)->h.DictOf (strKind S.prog S.w) a ds->es.length<=1024->DR S as T es ds->P (.ref a)):P w:=hr.qy hl x λa ds e p q r s=>e▸zk a ds p q r s
@[elab_as_elim] theorem HR.Ez(hr:HR S as T H h)(hl:H[n]?=some (.inst c fs))(x:VR S.fa as T (.loc n) w)(zk:∀ a dx C f,as[n]?=some (a,some dx)->c<5->S.ca[c]?=some C->h.get? a=some (instObj C dx)->h.Ns1 dx f->FR S as T fs f->P (.ref a)):P w:=hr.wA hl x λa dx C f e p q r s t u=>e▸zk a dx C f p q r s t u
end
theorem HR.GA(hr:HR S as T H h){a:Addr}{ws:List Value}{k:Nat}(e:h.get? a=some (lst ws k))(ho:a∈owned as)(i:Im):¬ T a i:=λt=>by
  have:=hr.im a i t
  induction i with
 |tup us=>obtain⟨o',e',c,_⟩:=this;rw[e] at e';cases e';simp[lst] at c
 |ro us=>obtain⟨o,q⟩:=hr.ro a us t;rw[hr.new a ho] at q;exact nn q
 |cQ i j l=>obtain⟨t,u,v,e'⟩:=this;have e2:=e.symm.trans e';simp[lst] at e2
theorem HR.zU(hr:HR S as T H h){a:Addr}{o:Obj}(e:h.get? a=some o)(h1:o.cls≠.type "tuple")(h2:o.cls≠.type "list")(h3:o.cls≠.type "range")(i:Im):¬ T a i:=λt=>by
  have:=hr.im a i t
  induction i with
 |tup us=>obtain⟨o',e',c,_⟩:=this;rw[e] at e';cases e';exact h1 c
 |ro us=>obtain⟨o',e',c,_⟩:=this;rw[e] at e';cases e';exact h2 c
 |cQ i j l=>obtain⟨t,u,v,e'⟩:=this;have e2:=e.symm.trans e';cases e2;exact h3 rfl
theorem HR.wB(hr:HR S as T H h){a:Addr}{ds:List (Str×Value)}(e:h.DictOf (strKind S.prog S.w) a ds)(i:Im):¬ T a i:=by
 obtain⟨o,es,ep,q,x,_⟩:=e
 exact hr.zU q (by rw[x.1];decide) (by rw[x.1];decide) (by rw[x.1];decide) i
theorem Ext.upd{a:Addr}(ho:a∈owned as)(k:∀ b o,b≠a->h.get? b=some o->h'.get? b=some o):Ext Nil as T h as T h':=
 ⟨.refl ..,λb o n _ e=>k b o (λq=>n (q▸ho)) e,λb hb _=>hb.elim,λb hb=>.inl hb⟩
theorem list_set(hr:HR S as T H h){n:Nat}{l l':List V}{a:Addr}{ws ws':List Value}{k k':Nat}(hl:H[n]?=some (.list l))(hp:as[n]?=some (a,none))(e:h.get? a=some (lst ws k))
  (kp:∀ b o,b≠a->h.get? b=some o->h'.get? b=some o) (e':h'.get? a=some (lst ws' k')) (GB:l'.length<=lim) (hv:br S.fa as T l' ws'):Ext Nil as T h as T h'/\HR S as T (H.set n (.list l')) h':=by
 have ho:a∈owned as:=(i2 hp).1
 exact⟨.upd ho kp,hr.upd hp (eS.mp hl).1 (.head _) kp (.list e' GB hv) (hr.GA e ho)⟩
theorem fM{a:Addr}{f:Obj->Obj}:∀ b o,b≠a->h.get? b=some o->(h.update a f).get? b=some o:=λb o n e=>(Heap.get?_update_other h f (cA n)).trans e
theorem fq{a:Addr}{ws ws':List Value}{k:Nat}{f:Array Value->Array Value}(e:h.get? a=some (lst ws k))(hf:f ws.toArray=ws'.toArray):∃ k',(h.update a (Obj.mapSeq f)).get? a=some (lst ws' k'):=by
 have q:=IsL.update (h:=h) (l:=a) e f
 rw[hf] at q
 exact⟨_,q⟩
end
end Mine
namespace Mine
section
variable {S:b0}{as aQ:As}{T T1:TS}{H H':Hp}{h h' h1:Heap}{s:Shared}{v:V}{w:Value}{Q:Value->Shared->Prop}{A:Around}{E:Value->Shared->Prop}
theorem VR.handed(x:VR S.fa as T v w):handedIn w=true:=by cases x <;> rfl
theorem dJ{n:Nat}(h:n<=lim):n<=sizeLine:=bv h (by decide)
theorem kD{n:Nat}(h:n<=lim):(n:Int)<2 ^ 63:=by
 have:n<=1048576:=h
 omega
theorem Ct{es:Array DictEntry}{x:Str}{u:Value}(hf:nsFind es x=some u){zg:Prop}(zk:∀ e,(es.toList.find? (·.key.isStr x)=some e)->(e.val=u)->zg):zg:=by
 unfold nsFind findBy at hf
 rw[← Array.find?_toList] at hf
 obtain⟨e,h1,h2⟩:=Option.map_eq_some_iff.mp hf
 exact zk e h1 h2
theorem xI{od:Obj}{es:Array DictEntry}{ep:Nat}{x:Str}{u:Value}(hd:od.data=.dict es ep)(hf:nsFind es x=some u):lookIn x od=some (some u):=by
 refine Ct hf λe h1 Tc=>?_
 subst Tc
 unfold lookIn
 rw[hd]
 dsimp only
 rw[h1]
theorem xJ{od:Obj}{es:Array DictEntry}{ep:Nat}{x:Str}(hd:od.data=.dict es ep)(hk:StrKeys es)(hf:nsFind es x=none):lookIn x od=some none:=by
 unfold nsFind findBy at hf
 rw[← Array.find?_toList,Option.map_eq_none_iff] at hf
 unfold lookIn
 rw[hd]
 dsimp only
 rw[hf,if_neg]
 intro q
 obtain⟨e,he,hr⟩:=List.any_eq_true.mp q
 obtain⟨n,t,zV⟩:=hk e (Array.mem_toList_iff.mp he)
 rw[DictEntry.refKey,zV] at hr
 exact ff hr
theorem n9{a dx C:Addr}{f:Str->Option Value}(h1:h.get? a=some (instObj C dx))(h2:h.Ns1 dx f){zg:Prop}(zk:∀ od es ep,(W.InstAt h a (instObj C dx) C (some od))->(od.data=.dict es ep)->(StrKeys es)->(∀ x,nsFind es x=f x)->zg):zg:=by
 obtain⟨o,es,ep,e,d,k,_,g⟩:=h2
 exact zk o es ep (⟨h1,rfl,rfl,e⟩) d k g
theorem zW(C:Cx S)(hr:HR S as T H s.heap){o:V}{a:Nat}(x:VR S.fa as T o w)(e:lQ H o a=some v){ex:Bool}(k:∀ u tk,VR S.fa as T v u->Q u { s with toks:=tk }):wpAny (model S.prog S.w) A (getAttr w (dY a) ex) Q E s:=by
 refine rh e λn hx e1=>?_;subst hx;clear e;have e:=e1;clear e1
 refine rj e λc fs hn e=>?_
 refine hr.Ez hn x λp dx C' f hp c5 hC h1 h2 Td=>?_
 obtain⟨h3,h4⟩:=Td
 obtain⟨VM,u,hu,vr⟩:=h3 a v e
 obtain⟨ci,xK,ok⟩:=C.cls c C' c5 hC
 refine n9 h1 h2 λod es ep I d sk g=>?_
 obtain⟨at',ha,xL⟩:=ok.attr a VM
 exact get_value (C.X.keeps hr.base) I ok.get.1 (findObj_own ok.hasDict ha xL (xI d ((g _).trans hu))) vr.handed (k u _ vr)
theorem GC{i j:Nat}(hi:i<22)(hj:j<22)(e:dY i=dY j):i=j:=by
 have h:∀ i,i<22->∀ j,j<22->dY i=dY j->i=j:=by decide +kernel
 exact h i hi j hj e
theorem IQ{i:Nat}(hi:i<22):dY i∈xr:=by
 have h:∀ i,i<22->dY i∈xr:=by decide +kernel
 exact h i hi
theorem zX{fs:List (Nat×V)}{f:Str->Option Value}(x:FR S as T fs f):Within f xr:=by
  intro y hy
  cases e:f y with
 |none=>exact absurd e hy
 |some u=>
   obtain⟨i,hi,rfl,_⟩:=x.2 y u e
   have h:∀ i,i<22->dY i∈xr:=by decide +kernel
   exact h i hi
theorem jn{α:Type}(i j:Nat)(v:α):∀ fs:List (Nat×α),eF j (putN i v fs)=if j=i then some v else eF j fs
 |[]=>by
  simp only[oZ,o0,jP,iU]
  by_cases h:j=i
  ·subst h;simp
  ·have:¬ i=j:=λq=>h q.symm
   simp[h,this]
 |(k,u)::r=>by
  have ih:=jn i j v r
  by_cases hk:k=i
  ·subst hk
   by_cases h:j=k
   ·subst h;simp[oZ,o0,jP,iU]
   ·have:¬ k=j:=λq=>h q.symm
    simp[oZ,o0,jP,iU,h,this]
  ·by_cases h:k=j
   ·subst h;simp[oZ,o0,jP,iU,hk]
   ·simp[oZ,o0,jP,iU,hk,h,ih]
theorem xM{a dx C':Addr}{f:Str->Option Value}{name:Str}{u:Value}{Q:Unit->Shared->Prop}(C:Cx S)(hb:∀ b o,S.h0.get? b=some o->s.heap.get? b=some o)(h1:s.heap.get? a=some (instObj C' dx))(h2:s.heap.Ns1 dx f)
  (hs:findIn S.K (.ref C') "__setattr__"=some (some (.builtin "object.__setattr__"))) (hp:plainOver S.K C'=true) (ht:takerIn S.K C' name=some none) (hh:hasDictIn S.K C'=true) (hw:Within f xr) (hn:name∈xr)
  (k:∀ h' tk,h'.Ns1 dx (λx=>if x=name then some u else f x)->Heap.SameBut dx s.heap h'->Q () { s with heap:=h',toks:=tk }):wpAny (model S.prog S.w) A (setAttr (.ref a) name u) Q E s:=by
 refine n9 h1 h2 λod es ep I d sk g=>?_
 have X:=C.X.keeps hb
 refine set_plain X I hs (osa_open (s:={ s with toks:=s.toks+1 }) X I hp ht λb=>?_)
 obtain⟨cd,hc,VN⟩:=any_some hh
 refine wpAny_bind (wpAny_pure (wpAny_bind (wpAny_bind (wpAny_loadPart h1 (wpAny_bind (Looks.here (s:={ s with toks:=s.toks+1 }) (looks_clsIn X hc) ?_))))))
 rw[VN]
 refine wpAny_pure (a:=some dx) (wpAny_bind (wpAny_pure (wpAny_bind ?_)))
 refine wpAny_nsSet1EFk (s:={ s with toks:=s.toks+1 }) h2 λh' n' sb _=>?_
 obtain⟨oD,XM,XN,VO,VP,VQ⟩:=n'.count (ns:=name::xr) (Within.cons name u hw)
 refine wpAny_bind (wpAny_lookBehind VO (by rw[VP];exact pastItsLine_dict (bv VQ (by rw[c9,show xr.length=22 from by decide +kernel];decide))) ?_)
 exact wpAny_pure (k h' _ n' sb)
theorem IS(hr:HR S as T H h){dx:Addr}{f:Str->Option Value}(x:h.Ns1 dx f)(i:Im):¬ T dx i:=λt=>by
  obtain⟨o,es,ep,q,d,_⟩:=x
  have:=hr.im dx i t
  induction i with
 |tup us=>obtain⟨o',e',c,_,d'⟩:=this;rw[← cj (q.symm.trans e'),d] at d';cases d'
 |ro us=>obtain⟨o',e',c,_,d'⟩:=this;rw[← cj (q.symm.trans e'),d] at d';cases d'
 |cQ i j l=>obtain⟨t,u,v,e'⟩:=this;rw[cj (q.symm.trans e')] at d;cases d
theorem L6{p dx C dy:Addr}{f:Str->Option Value}(h1:h.get? p=some (instObj C dy))(x:h.Ns1 dx f):p≠dx:=λq=>by
 obtain⟨o,es,ep,q',d,_⟩:=x
 rw[← q,h1] at q'
 rw[← cj q'] at d;cases d
theorem zY(C:Cx S)(hr:HR S as T H s.heap){o:V}{a:Nat}{u:Value}{Q:Unit->Shared->Prop}(x:VR S.fa as T o w)(y:VR S.fa as T v u)(ha:a<22)(e:jQ H o a v=some H')(k:wz S as T s H' Q):wpAny (model S.prog S.w) A (setAttr w (dY a) u) Q E s:=by
 refine gW e x λn x e=>rj e λc fs hn e=>hr.Ez hn x λp dx C' f hp c5 hC h1 h2 h3=>?_
 obtain⟨ci,xK,ok⟩:=C.cls c C' c5 hC
 refine xM C hr.base h1 h2 ok.set ok.over (ok.take a ha) ok.hasDict (zX h3) (IQ ha) λh' tk n' sb=>?_
 have kp:∀ b o,b≠dx->s.heap.get? b=some o->h'.get? b=some o:=λb o hb e=>(sb.2 b hb).trans e
 refine k h' tk as T (.upd ((i2 hp).2 dx rfl) kp) (cj e▸hr.upd hp (eS.mp hn).1 (.tail _ (.head _)) kp (.inst c5 hC (kp _ _ (L6 h1 h2) h1) n' ⟨λi v' e=>?_,λz w' e=>?_⟩) (IS hr h2))
 ·rw[jn] at e
  by_cases hi:i=a
  ·rw[if_pos hi] at e
   exact⟨hi▸ha,u,if_pos (congrArg dY hi),cj e▸y⟩
  ·rw[if_neg hi] at e
   obtain⟨Te,VS,e1,e2⟩:=h3.1 i v' e
   exact⟨Te,VS,(if_neg (λq=>hi (GC Te ha q))).trans e1,e2⟩
 ·by_cases hz:z=dY a
  ·exact⟨a,ha,hz,by rw[jn];simp⟩
  ·obtain⟨i,hi,VU,hl⟩:=h3.2 z w' ((if_neg hz).symm.trans e)
   refine⟨i,hi,VU,?_⟩
   rw[jn]
   by_cases q:i=a
   ·simp[q]
   ·rw[if_neg q];exact hl
theorem IT(C:Cx S)(hr:HR S as T H s.heap){n c:Nat}{fs:List (Nat×V)}{ci:CI}{m k:Nat}{pl:Sem Bool}{Q:Value×List Value->Shared->Prop}(x:VR S.fa as T (.loc n) w)(hn:H[n]?=some (.inst c fs))(xK:S.P.cls[c]?=some ci)(hm:eF m ci.meths=some k)
   (q:∀ a,S.fa[k]?=some a->Q (.ref a,[w]) s):wpAny (model S.prog S.w) A (getMethod w (lR m) pl) Q E s:=by
 refine hr.wA hn x λp dx C' f ew hp c5 hC h1 h2 h3=>?_
 subst ew
 obtain⟨VV,EA,ok⟩:=C.cls c C' c5 hC
 rw[xK] at EA;cases EA
 refine n9 h1 h2 λod es ep I d sk g=>?_
 obtain⟨a,ha,hf,ht⟩:=ok.bm m k hm
 have VW:f (lR m)=none:=by
   cases e:f (lR m) with
  |none=>rfl
  |some u=>
    obtain⟨i,hi,q,_⟩:=h3.2 _ _ e
    have:=ok.apart m k i hm hi
    rw[← q] at this
    simp at this
 exact method_fn (C.X.keeps hr.base) I ok.get.1 ok.get.2 hf ht (by show(lookIn (lR m) od).map _=_;rw[xJ d sk ((g _).trans VW)];rfl) (q a ha)
end
end Mine
namespace Mine
section
variable {S:b0}{as aQ:As}{T T1:TS}{H H':Hp}{h h' h1:Heap}{s:Shared}{v:V}{w:Value}{Q:Value->Shared->Prop}{A:Around}{E:Value->Shared->Prop}
theorem mQ{n:Nat}{l l':List V}{a:Addr}{ws ws':List Value}{k k':Nat}{r:V}{u:Value}(hr:HR S as T H s.heap)(hl:H[n]?=some (.list l))(hp:as[n]?=some (a,none))(e:s.heap.get? a=some (lst ws k))
  (kp:∀ b o,b≠a->s.heap.get? b=some o->h'.get? b=some o) (e':h'.get? a=some (lst ws' k')) (GB:l'.length<=lim) (hv:br S.fa as T l' ws') (vr:VR S.fa as T r u) (q:dz S as T s (H.set n (.list l')) r Q) (tk:Tok):Q u { s with heap:=h',toks:=tk }:=by
 obtain⟨x1,x2⟩:=list_set hr hl hp e kp e' GB hv
 exact q u h' tk as T x1 x2 vr
theorem Cu{n:Nat}{l:List V}{x:V}{u:Value}(hr:HR S as T H s.heap)(vn:VR S.fa as T (.loc n) w)(vx:VR S.fa as T x u)(hl:H[n]?=some (.list l))(hlen:l.length<lim)(q:dz S as T s (H.set n (.list (l++[x]))) .none Q) :
  wpAny (model S.prog S.w) A (call (.builtin "list.append") [w,u]) Q E s:=by
 refine hr.eY hl vn λa ws k hp e hz hv=>?_
 have iw:=hv.length
 refine append_at (its:=ws.toArray) (n:=k) e (λh' sb e'=>?_) (by rw[fW,iw];exact dJ hz)
 exact mQ (ws':=ws++[u]) (k':=k+1) hr hl hp e (λb o nb q=>(sb.2 b nb).trans q) (by rw[e'];simp[lst]) (by simp;exact hlen) (hv.append (.cons vx .nil)) .none q _
theorem L7{n:Nat}{l:List V}{x:V}(hr:HR S as T H s.heap)(vn:VR S.fa as T (.loc n) w)(hl:H[n]?=some (.list l))(hx:l.getLast?=some x)(q:dz S as T s (H.set n (.list l.dropLast)) x Q) :
  wpAny (model S.prog S.w) A (call (.builtin "list.pop") [w]) Q E s:=by
 refine hr.eY hl vn λa ws k hp e hz hv=>?_
 have iw:=hv.length
 rw[List.getLast?_eq_getElem?] at hx
 obtain⟨u,hu,vu⟩:=hv.get _ hx
 have hy:ws.toArray[ws.toArray.size-1]?=some u:=by simp[iw,hu]
 obtain⟨k',e'⟩:=fq (ws':=ws.dropLast) (f:=λxs=>xs.eraseIdxIfInBounds (ws.toArray.size-1)) e (by
  apply Array.toList_inj.mp
  have vq:ws.length-1<ws.length:=by
   have:=(eS.mp hx).1;omega
  simp[Array.eraseIdxIfInBounds,vq,List.eraseIdx_eq_dropLast,List.dropLast_eq_take])
 refine call_meets PySem.F.slot_list_pop ⟨_,e,rfl⟩ PySem.F.entry_list_pop (PySem.F.args_list_pop_1 _) (PySem.MeetsSeq.list_pop_last a ws.toArray k u hy (by rw[fW,iw];exact dJ hz)) ⟨e,?_⟩
 have hd:br S.fa as T l.dropLast ws.dropLast:=by
  rw[List.dropLast_eq_take,List.dropLast_eq_take,iw];exact hv.take _
 exact mQ hr hl hp e fM e' (by simp;exact nt (aj [_,_] (.d ab af (.d (.s (.s af)) ab .z)) rfl hz)) hd vu q _
theorem Cv{n j:Nat}{l m:List V}{u:Value}(hr:HR S as T H s.heap)(vn:VR S.fa as T (.loc n) w)(vj:VR S.fa as T (.loc j) u)(hl:H[n]?=some (.list l))(hm:H[j]?=some (.list m))(hlen:l.length+m.length<lim)
  (q:dz S as T s (H.set n (.list (l++m))) .none Q):wpAny (model S.prog S.w) A (call (.builtin "list.extend") [w,u]) Q E s:=by
 refine hr.eY hl vn λa ws k hp e hz hv=>?_
 refine hr.eY hm vj λb us k2 VX e2 tB xO=>?_
 have iw:=hv.length
 have VY:=xO.length
 obtain⟨k',e'⟩:=fq (ws':=ws++us) (f:=λx=>x++us.toArray) e (by simp)
 have zZ:ws.toArray.size+us.toArray.size<=sizeLine:=by rw[fW,fW,iw,VY];exact dJ (jh hlen)
 refine call_meets PySem.F.slot_list_extend ⟨_,e,rfl⟩ PySem.F.entry_list_extend (PySem.F.args_list_extend_2 _ _) (PySem.AutoSeq1.list_extend_list_list_0 a ws.toArray k b us.toArray k2 ?_ (by exact nt (aj [_,_,_] (.d (.a ab af) aq (.d (.s aq) ab .z)) rfl zZ)) (by exact nt (aj [_,_,_] (.d (.a ab af) aq (.d (.s (.s aq)) (.a ab af) .z)) rfl zZ))) ⟨e,e2,?_⟩
 ·intro q'
  simp only[cJ,Builtin.List.listTooLong,decide_eq_true_eq] at q'
  have:=q'.2
  exact aj [_,_,_] (.d (.a ab af) aq (.d (.s aq) (.a ab af) .z)) rfl zZ q'.2
 ·exact mQ hr hl hp e fM e' (by simp;exact nt (aj [_,_,_] (.d (.s (.a ab af)) aq (.d (.s aq) (.a ab af) .z)) rfl hlen)) (hv.append xO) .none q _
theorem z5{n:Nat}{l:List V}(hr:HR S as T H s.heap)(vn:VR S.fa as T (.loc n) w)(hl:H[n]?=some (.list l))(q:dz S as T s (H.set n (.list l.reverse)) .none Q) :
  wpAny (model S.prog S.w) A (call (.builtin "list.reverse") [w]) Q E s:=by
 refine hr.eY hl vn λa ws k hp e hz hv=>?_
 have iw:=hv.length
 obtain⟨k',e'⟩:=fq (ws':=ws.reverse) (f:=λx=>x.reverse) e (by simp)
 refine call_meets PySem.F.slot_list_reverse ⟨_,e,rfl⟩ PySem.F.entry_list_reverse (PySem.F.args_list_reverse_1 _) (PySem.AutoSeq1.list_reverse_list_0 a ws.toArray k (by rw[fW,iw];exact dJ hz)) ⟨e,?_⟩
 exact mQ hr hl hp e fM e' (by simpa using hz) hv.reverse .none q _
theorem pn{l:List V}{ws:List Value}{n:Nat}(hr:HR S as T H s.heap)(k:∀ b o,s.heap.get? b=some o->h'.get? b=some o)(ho:h'.get? s.heap.objs.size=some (lst ws n))(hv:br S.fa as T l ws)(hl:l.length<=lim)
  (q:dz S as T s (H++[.list l]) (.loc H.length) Q) (tk:Tok):Q (.ref s.heap.objs.size) { s with heap:=h',toks:=tk }:=by
 refine rB hr k (aE _) ho hv hl λx1 x2 x3=>?_
 exact q _ h' tk _ _ x1 x2 x3
theorem z6{i j:Nat}{l m:List V}{u:Value}(hr:HR S as T H s.heap)(vn:VR S.fa as T (.loc i) w)(vj:VR S.fa as T (.loc j) u)(hl:H[i]?=some (.list l))(hm:H[j]?=some (.list m))(hlen:l.length+m.length<=lim)
  (q:dz S as T s (H++[.list (l++m)]) (.loc H.length) Q):wpAny (model S.prog S.w) A (binaryOp .Add w u) Q E s:=by
 refine hr.eY hl vn λa ws k hp e hz hv=>?_
 refine hr.eY hm vj λb us k2 VX e2 tB xO=>?_
 have zZ:ws.toArray.size+us.toArray.size<=sizeLine:=by rw[fW,fW,hv.length,xO.length];exact dJ hlen
 refine concat_meets ⟨_,e,rfl⟩ ⟨_,e2,rfl⟩ noFill_list_add seq_list_add PySem.F.slot_list_add PySem.F.entry_list_add (PySem.F.args_list_add_2 _ _) (list_addW a b ws.toArray us.toArray k k2 none none #[] #[] zZ) ⟨e,e2,?_⟩
 rw[show ws.toArray++us.toArray=(ws++us).toArray by simp]
 exact pn hr (b8 (lst (ws++us) 0)) (Heap.get?_push_size _ rfl) (hv.append xO) (by simpa using hlen) q _
theorem gX{l:List V}(hr:HR S as T H h)(x:VR S.fa as T (.tup l) w){zg:Prop}(zk:∀ a ws,(w=.ref a)->(h.IsTuple a ws.toArray)->(l.length<=lim)->(br S.fa as T l ws)->zg):zg:=by
  cases x with
 |tup t hl hv=>exact zk _ _ rfl (hr.im _ _ t) hl hv
theorem z7{l:List V}(hr:HR S as T H s.heap)(vn:VR S.fa as T (.tup l) w)(q:dz S as T s (H++[.list l]) (.loc H.length) Q):wpAny (model S.prog S.w) A (call (.type "list") [w]) Q E s:=by
 refine gX hr vn λa ws Tf=>?_
 subst Tf
 intro Th hz hv
 obtain⟨o,e,c,n,d⟩:=Th
 exact call_list_seq (hsz:=by rw[fW,hv.length];exact dJ hz) a (.inr rfl) e c d λh' c' hk hD=>pn hr hk hD hv hz q _
theorem vw{n:Nat}{l:List V}{i:Int}{t:Tok}{x:V}(hr:HR S as T H s.heap)(vn:VR S.fa as T (.loc n) w)(hl:H[n]?=some (.list l))(hi:0<=i)(hx:l[i.toNat]?=some x)(q:∀ u,VR S.fa as T x u->Q u s) :
  wpAny (model S.prog S.w) A (getItem w (.int i t)) Q E s:=by
 refine hr.eY hl vn λa ws k hp e hz hv=>?_
 obtain⟨u,hu,vu⟩:=hv.get _ hx
 have h1:=(eS.mp hx).1
 exact wpAny_getItem_list ⟨_,e,rfl,k,rfl⟩ hi (by have:=kD hz;omega) (by simpa using hu) (q u vu)
theorem xP{l:List V}{i:Int}{t:Tok}{x:V}(hr:HR S as T H s.heap)(vn:VR S.fa as T (.tup l) w)(hi:0<=i)(hx:l[i.toNat]?=some x)(q:∀ u,VR S.fa as T x u->Q u s) :
  wpAny (model S.prog S.w) A (getItem w (.int i t)) Q E s:=by
 refine gX hr vn λa ws Ti=>?_
 subst Ti
 intro e hz hv
 obtain⟨u,hu,vu⟩:=hv.get _ hx
 have h1:=(eS.mp hx).1
 have h2:=kD hz
 refine getItem_tuple (j:=i.toNat) e (by omega) (by omega) ?_ (by simpa using hu) (q u vu)
 unfold seqIndex?
 rw[fW,hv.length]
 simp only[show ¬ i<0 by omega,if_false]
 rw[if_pos (by simp;omega)]
theorem qz{n:Nat}{l:List V}{i:Int}{t:Tok}{x:V}{u:Value}{Q:Unit->Shared->Prop}(hr:HR S as T H s.heap)(vn:VR S.fa as T (.loc n) w)(vx:VR S.fa as T x u)(hl:H[n]?=some (.list l))(hi:0<=i)(hx:i.toNat<l.length)
  (q:wz S as T s (H.set n (.list (l.set i.toNat x))) Q):wpAny (model S.prog S.w) A (setItem w (.int i t) u) Q E s:=by
 refine hr.eY hl vn λa ws k hp e hz hv=>?_
 have iw:=hv.length
 refine ki_setAt e hi (by have:=kD hz;omega) (by rw[fW,iw];omega) ?_
 obtain⟨k',e'⟩:=fq (ws':=ws.set i.toNat u) (f:=λx=>x.setIfInBounds i.toNat u) e (by apply Array.toList_inj.mp;simp)
 obtain⟨x1,x2⟩:=list_set (l':=l.set i.toNat x) hr hl hp e fM e' (by simpa using hz) (hv.set _ vx)
 exact q _ _ as T x1 x2
theorem wC{i j:Int}(h:0<j):Int.fdiv i j=i / j:=Int.fdiv_eq_ediv_of_nonneg _ (Int.le_of_lt h)
theorem GD{i j:Int}(h:0<j):Int.fmod i j=i % j:=Int.fmod_eq_emod_of_nonneg _ (Int.le_of_lt h)
end
end Mine
namespace Mine
section
variable {S:b0}{as aQ:As}{T T1:TS}{H H':Hp}{h h' h1:Heap}{s:Shared}{v:V}{w:Value}{Q:Value->Shared->Prop}{A:Around}{E:Value->Shared->Prop}
theorem EB{x:List Nat}(h:VR S.fa as T (.str x) w){zg:Prop}(zk:∀ t,(w=.str ⟨x.toArray⟩ t)->(x.length<=lim)->zg):zg:=by
 cases h with|str _ t hl=>exact zk t rfl hl
theorem EC{i:Int}(h:VR S.fa as T (.int i) w):∃ t,w=.int i t:=by
 cases h with|int _ t=>exact⟨t,rfl⟩
theorem kE{b:Bool}(h:VR S.fa as T (.bool b) w):w=.bool b:=by cases h;rfl
theorem jG(h:VR S.fa as T .none w):w=.none:=by cases h;rfl
section
variable {P:Value->Prop}
@[elab_as_elim] theorem d6{x:List Nat}(h:VR S.fa as T (.str x) w)(zk:∀ t,x.length<=lim->P (.str ⟨x.toArray⟩ t)):P w:=EB h λt e hz=>e▸zk t hz
@[elab_as_elim] theorem dc{i:Int}(h:VR S.fa as T (.int i) w)(zk:∀ t,P (.int i t)):P w:=by obtain⟨t,rfl⟩:=EC h;exact zk t
@[elab_as_elim] theorem ED{b:Bool}(h:VR S.fa as T (.bool b) w)(zk:P (.bool b)):P w:=kE h▸zk
@[elab_as_elim] theorem si(h:VR S.fa as T .none w)(zk:P .none):P w:=jG h▸zk
end
theorem tC{i j:Int}(h1:0<j)(h2:j<1152921504606846976):Builtin.divisionGoesByPylong i j=false:=by
 unfold Builtin.divisionGoesByPylong
 dsimp only
 have hj:¬ (j==0)=true:=by intro q;have:=beq_iff_eq.mp q;omega
 have EE:j.natAbs.log2<61:=(Nat.log2_lt (by omega)).mpr (by omega)
 have:¬ (if(j==0)=true then 0 else j.natAbs.log2 / 30+1) > 300:=by rw[if_neg hj];omega
 rw[decide_eq_false this];rfl
theorem z8{i:Int}(h:i.natAbs<1152921504606846976):Builtin.Int.intBits i<=62:=by
 unfold Builtin.Int.intBits
 by_cases h0:i=0
 ·subst h0;decide
 ·have EE:i.natAbs.log2<60:=(Nat.log2_lt (by omega)).mpr (by omega)
  first|(split <;> omega)|omega|(simp;omega)
theorem Cw{i j:Int}(h:i.natAbs<1152921504606846976):IntMulOk i j:=by
 have:=z8 h
 unfold IntMulOk
 have h1:¬ Builtin.Int.intBits i > shortFactorBits:=by show ¬ _ > 64;omega
 rw[decide_eq_false h1]
 simp
theorem po{a:Addr}{ws:Array Value}(ht:h.IsTuple a ws){zg:Prop}(zk:∀ n dd sl,h.get? a=some ⟨.type "tuple",dd,.seq ws n,sl⟩->zg):zg:=by
 obtain⟨⟨cls,dd,data,sl⟩,ho,hc,n,hd⟩:=ht
 cases hc;cases hd
 exact zk n dd sl ho
theorem Cy{l m:List V}{u:Value}(hr:HR S as T H s.heap)(vn:VR S.fa as T (.tup l) w)(vj:VR S.fa as T (.tup m) u)(hlen:l.length+m.length<=lim)(q:dz S as T s H (.tup (l++m)) Q):wpAny (model S.prog S.w) A (binaryOp .Add w u) Q E s:=
 gX hr vn λa ws ew ht hz hv=>gX hr vj λb us eu hb tB xO=>po ht λn dd sl ho=>po hb λn2 Qa Qb ly=>by
 rw[ew,eu]
 by_cases hw:ws=[]
 ·refine concat_meets ⟨_,ho,rfl⟩ ⟨_,ly,rfl⟩ noFill_tuple_add seq_tuple_add PySem.F.slot_tuple_add PySem.F.entry_tuple_add (PySem.F.args_tuple_add_2 _ _)
   (tuple_addW0 a b ws.toArray us.toArray n n2 dd Qa sl Qb (by simp[hw])) ⟨ho,ly,?_⟩
  have:l=[]:=DV.mp (by rw[← hv.length,hw];rfl)
  exact dz.now q hr (by rw[this,oR];exact eu▸vj)
 ·by_cases hu:us=[]
  ·refine concat_meets ⟨_,ho,rfl⟩ ⟨_,ly,rfl⟩ noFill_tuple_add seq_tuple_add PySem.F.slot_tuple_add PySem.F.entry_tuple_add (PySem.F.args_tuple_add_2 _ _)
    (tuple_addW1 a b ws.toArray us.toArray n n2 dd Qa sl Qb (by simpa using hw) (by simp[hu])) ⟨ho,ly,?_⟩
   have:m=[]:=DV.mp (by rw[← xO.length,hu];rfl)
   exact dz.now q hr (by rw[this,eU];exact ew▸vn)
  ·refine concat_meets ⟨_,ho,rfl⟩ ⟨_,ly,rfl⟩ noFill_tuple_add seq_tuple_add PySem.F.slot_tuple_add PySem.F.entry_tuple_add (PySem.F.args_tuple_add_2 _ _)
    (tuple_addW2 a b ws.toArray us.toArray n n2 dd Qa sl Qb (by simpa using hw) (by simpa using hu) (by rw[fW,fW,hv.length,xO.length];exact dJ hlen)) ⟨ho,ly,?_⟩
   rw[show ws.toArray++us.toArray=(ws++us).toArray by simp]
   refine rA hr (hv.append xO) (by rw[aK];exact hlen) λT' x1 x2 x3=>?_
   exact q _ _ _ _ _ x1 x2 x3
theorem IU(x y:List Nat):(⟨x.toArray⟩:Str)++(⟨y.toArray⟩:Str)=(⟨(x++y).toArray⟩:Str):=by
 show(⟨x.toArray++y.toArray⟩:Str)=_
 simp
theorem str_len(x:List Nat):(⟨x.toArray⟩:Str).length=x.length:=by
 show x.toArray.size=_
 simp
theorem IV{a b r:V}{wa wb:Value}(e:Ox a b H=some (r,H'))(hr:HR S as T H s.heap)(va:VR S.fa as T a wa)(vb:VR S.fa as T b wb)(q:dz S as T s H' r Q):wpAny (model S.prog S.w) A (binaryOp .Add wa wb) Q E s:=by
  induction a using V.casesOn with
 |int i=>exact eX e vb λj vb e=>dc va λt=>dc vb λu=>add_int ((q.rM e).tok hr (.int _ _) _)
 |str x=>
   refine mP e vb λy vb e=>d6 va λt h1=>d6 vb λu h2=>?_
   obtain⟨hl,e⟩:=cT e
   refine SBL.add (λt' k _=>?_) (by rw[str_len,str_len];exact dJ hl)
   rw[IU]
   exact(q.of e).tok hr (.str _ _ (by rw[aK];exact hl)) _
 |tup l=>exact L3 e vb λm vb e=>kr e λhl e=>Cy hr va vb hl (q.of e)
 |loc i=>exact gW e vb λj vb e=>bj e λl h1 e=>bj e λm h2 e=>kr e λhl e=>z6 hr va vb h1 h2 hl (q.of e)
 |_=>exact nn e
theorem IW{a b r:V}{wa wb:Value}(e:Oy a b H=some (r,H'))(hr:HR S as T H s.heap)(va:VR S.fa as T a wa)(vb:VR S.fa as T b wb)(q:dz S as T s H' r Q):wpAny (model S.prog S.w) A (binaryOp .Mult wa wb) Q E s:=by
  induction a using V.casesOn with
 |int i=>
   refine eX e vb λj vb e=>dc va λt=>dc vb λu=>?_
   obtain⟨hl,e⟩:=cT e
   exact mul_int ((q.of e).tok hr (.int _ _) _) (Cw hl.1)
 |_=>exact nn e
theorem ints2{β:Type}{a b:V}{wa wb:Value}{f:Int->Int->Option β}{r:β}{P:Value->Value->Prop}(va:VR S.fa as T a wa)(vb:VR S.fa as T b wb)(e:gM a (λi=>gM b (f i))=some r)(k:∀ i j t u,f i j=some r->P (.int i t) (.int j u)):P wa wb:=
 eX e va λi va e=>eX e vb λj vb e=>dc va λt=>dc vb λu=>k i j t u e
theorem L8{op:jO}{o:Operator}{a b r:V}{wa wb:Value}(e:zp op a b H=some (r,H'))(c:lq op o=true)(hr:HR S as T H s.heap)(va:VR S.fa as T a wa)(vb:VR S.fa as T b wb)(q:dz S as T s H' r Q):wpAny (model S.prog S.w) A (binaryOp o wa wb) Q E s:=by
  obtain rfl:=of_decide_eq_true c
  induction op with
 |add=>exact IV e hr va vb q
 |mul=>exact IW e hr va vb q
 |sub=>exact ints2 (P:=λx y=>wpAny (model S.prog S.w) A (binaryOp .Sub x y) Q E s) va vb e λi j t u e=>sub_int ((q.rM e).tok hr (.int _ _) _)
 |fdiv=>exact ints2 (P:=λx y=>wpAny (model S.prog S.w) A (binaryOp .FloorDiv x y) Q E s) va vb e λi j t u e=>kr e λhl e=>
   floordiv_int (Int.ne_of_gt hl.1) (wC hl.1▸(q.of e).tok hr (.int _ _) _) (.inl (tC hl.1 hl.2.2))
 |mod=>exact ints2 (P:=λx y=>wpAny (model S.prog S.w) A (binaryOp .Mod x y) Q E s) va vb e λi j t u e=>kr e λhl e=>
   mod_int' (Int.ne_of_gt hl) (GD hl▸(q.of e).tok hr (.int _ _) _)
theorem EF{op:jO}{o:Operator}{a b r:V}{wa wb:Value}(e:lk op a b=some r)(c:lq op o=true)(hr:HR S as T H s.heap)(va:VR S.fa as T a wa)(vb:VR S.fa as T b wb)(q:dz S as T s H r Q):wpAny (model S.prog S.w) A (inplaceOp o wa wb) Q E s:=by
  obtain rfl:=of_decide_eq_true c
  refine ints2 (P:=λx y=>wpAny (model S.prog S.w) A (inplaceOp (OD op) x y) Q E s) va vb e λi j t u e=>?_
  induction op with
 |add=>exact iadd_int (q.tok hr (cj e▸.int _ _) _)
 |sub=>exact nn e
 |fdiv=>
   obtain⟨hl,e⟩:=cT e
   refine PySem.AutoIntOps.ifloordiv_1 (by simp;omega) (by rw[tC hl.1 hl.2.2];decide) ?_
   rw[wC hl.1]
   exact q.tok hr (e▸.int _ _) _
 |mul=>exact nn e
 |mod=>exact nn e
theorem xQ{x:List Nat}(h:x.all (· < 128)=true):PyData.strOk ⟨x.toArray⟩=true:=by
 unfold PyData.strOk
 rw[← Array.all_toList]
 refine fz.mpr λc hc=>?_
 have:=fz.mp h c (by simpa using hc)
 simp at this ⊢
 exact nl (aj [_] (.d (.s ab) (.n 128) (.d (.n 1114112) ab .z)) rfl this)
theorem tD{α β:Type}{f:α->Option β}{a:α}{r:List α}{l:List β}(e:gD f (a::r)=some l){g:Prop}(k:∀ b bs,f a=some b->gD f r=some bs->b::bs=l->g):g:=by
  cases h:f a with
 |none=>rw[sa,h] at e;exact nn e
 |some b=>
    cases h2:gD f r with
   |none=>rw[sa,h,h2] at e;exact nn e
   |some bs=>rw[sa,h,h2] at e;exact k b bs h h2 (cj e)
theorem kF(hr:HR S as T H h):∀(n:Nat){v:V}{w:Value}{d:PyData},dat H n v=some d->VR S.fa as T v w->∃ bs,Reads h w d bs:=by
  intro n
  induction n with
 |zero=>intro v w d e;exact nn e
 |succ n ih=>
    have all:∀{l:List V}{ws:List Value}{ds:List PyData},gD (dat H n) l=some ds->br S.fa as T l ws->∃ bs,ReadsAll h ws ds bs:=by
      intro l
      induction l with
     |nil=>intro ws ds e x;exact nM x (cj e▸⟨_,.nil⟩)
     |cons a r Qc=>
       intro ws ds e x
       exact jV x λw us y z=>tD e λd VZ hd qA e=>by
        obtain⟨_,r1⟩:=ih hd y
        obtain⟨_,r2⟩:=Qc qA z
        exact e▸⟨_,.cons r1 r2⟩
    intro v w d e x
    induction v using V.casesOn with
   |none=>exact si x (cj e▸⟨_,.none⟩)
   |bool=>exact ED x (cj e▸⟨_,.bool _⟩)
   |int=>exact dc x λt=>cj e▸⟨_,.int _ _⟩
   |str y=>exact d6 x λt _=>(cT e).2▸⟨_,.str _ _⟩
   |tup y=>
      exact bK e λds qA e=>gX hr x λa ws hw ht _ hv=>by
       obtain⟨o,e1,c,k,d1⟩:=ht
       obtain⟨bs,r⟩:=all qA hv
       exact hw▸e▸⟨_,.tuple e1 c d1 (by simpa using r)⟩
   |loc i=>
      exact bj e λl hl e=>bK e λds qA e=>hr.fX hl x λa ws k hw _ e1 _ hv=>by
       obtain⟨bs,r⟩:=all qA hv
       exact hw▸e▸⟨_,.list e1 rfl rfl (by simpa using r)⟩
   |_=>exact nn e
theorem Cz:∀(n:Nat){v:V}{d:PyData},dat H n v=some d->d.canLay0=true/\d.depth<=n:=by
  intro n
  induction n with
 |zero=>intro v d e;exact nn e
 |succ n ih=>
    have all:∀{l:List V}{ds:List PyData},gD (dat H n) l=some ds->PyData.canLayAll0 ds=true/\PyData.depthAll ds<=n:=by
      intro l
      induction l with
     |nil=>intro ds e;exact cj e▸⟨rfl,cF _⟩
     |cons a r Qc=>
       intro ds e
       refine tD e λd VZ hd qA e=>e▸?_
       have h1:=ih hd
       have h2:=Qc qA
       exact⟨by simp only[PyData.canLayAll0,h1.1,h2.1,Bool.and_self],Nat.max_le.mpr ⟨h1.2,h2.2⟩⟩
    intro v d e
    induction v using V.casesOn with
   |none=>exact cj e▸⟨rfl,cF _⟩
   |bool=>exact cj e▸⟨rfl,cF _⟩
   |int=>exact cj e▸⟨rfl,cF _⟩
   |str y=>exact kr e λha e=>e▸⟨xQ ha,cF _⟩
   |tup y=>exact bK e λds qA e=>e▸⟨(all qA).1,lG (all qA).2⟩
   |loc i=>exact bj e λl hl e=>bK e λds qA e=>e▸⟨(all qA).1,lG (all qA).2⟩
   |_=>exact nn e
theorem jo{v:V}{d:PyData}(e:dat H 8 v=some d):SeqAt.shaped d=true:=by
 have:=Cz 8 e
 unfold SeqAt.shaped
 rw[this.1,Bool.true_and]
 exact decide_eq_true (by exact nt (aj [_] (.d ab (.n 8) (.d (.s (.n 64)) ab .z)) rfl this.2))
end
end Mine
namespace Mine
section
variable {S:b0}{as aQ:As}{T T1:TS}{H H':Hp}{h h' h1:Heap}{s:Shared}{v:V}{w:Value}{Q:Value->Shared->Prop}{A:Around}{E:Value->Shared->Prop}
theorem mR(x y:List Nat):((⟨x.toArray⟩:Str)==(⟨y.toArray⟩:Str))=(x==y):=by
 by_cases h:x=y
 ·subst h;simp
 ·have:(⟨x.toArray⟩:Str)≠⟨y.toArray⟩:=λq=>h (by simpa using congrArg (λz=>z.cps.toList) q)
  rw[beq_eq_false_iff_ne.mpr this,beq_eq_false_iff_ne.mpr h]
theorem L9{a b:V}{wa wb:Value}{r:Bool}(hu:A.units+64<cLine)(e:xj H a b=some r)(hr:HR S as T H s.heap)(va:VR S.fa as T a wa)(vb:VR S.fa as T b wb)(q:∀ tk,Q (.bool r) { s with toks:=tk }):wpAny (model S.prog S.w) A (compareOp .Eq wa wb) Q E s:=by
 refine rn e λx y hx hy eo=>?_
 obtain⟨bs,r1⟩:=kF hr 8 hx va
 obtain⟨cs,r2⟩:=kF hr 8 hy vb
 exact SeqAt.compareEq_shaped r1 r2 (jo hx) (jo hy) hu (by rw[eo];exact q _)
theorem Qd{a b:V}{wa wb:Value}{r:Bool}(hu:A.units+64<cLine)(e:PU H a b=some r)(hr:HR S as T H s.heap)(va:VR S.fa as T a wa)(vb:VR S.fa as T b wb)(q:∀ tk,Q (.bool r) { s with toks:=tk }):wpAny (model S.prog S.w) A (compareOp .Eq wa wb) Q E s:=by
  unfold PU at e
  cases hf:D9 H a b with
 |none=>rw[hf] at e;exact L9 hu e hr va vb q
 |some r'=>
    rw[hf] at e
    replace hf:=hf.trans (congrArg some e)
    clear e r'
    induction a using V.casesOn with
   |str x=>
      induction b using V.casesOn with
     |str y=>exact d6 va λt _=>d6 vb λu _=>eq_str (by rw[mR,cj (cj hf)];exact q _)
     |_=>exact nn hf
   |int i=>
      induction b using V.casesOn with
     |int j=>exact dc va λt=>dc vb λu=>eq_int (cj (cj hf)▸q _)
     |_=>exact nn hf
   |tup l=>
      induction b using V.casesOn with
     |str y=>exact gX hr va λa' ws e ht hz hv=>d6 vb λu h2=>e▸SeqAt.RcAt.tuple_str _ _ ht (by exact nl (aj [_,_] (.d (.s (.a ab (.n 64))) af (.d af ab .z)) rfl hu)) S.prog S.w E Q (cj (cj hf)▸q _)
     |_=>exact nn hf
   |_=>exact nn hf
theorem Ma{a b:V}{wa wb:Value}{r:Bool}(hu:A.units+64<cLine)(e:(xj H a b).map (!·)=some r)(hr:HR S as T H s.heap)(va:VR S.fa as T a wa)(vb:VR S.fa as T b wb)(q:∀ tk,Q (.bool r) { s with toks:=tk }):wpAny (model S.prog S.w) A (compareOp .NotEq wa wb) Q E s:=by
 refine bK e λr' e h=>?_
 refine rn e λx y hx hy eo=>?_
 obtain⟨bs,r1⟩:=kF hr 8 hx va
 obtain⟨cs,r2⟩:=kF hr 8 hy vb
 exact SeqAt.compareNe_shaped r1 r2 (jo hx) (jo hy) hu (by rw[eo,h];exact q _)
theorem CA{a b:V}{wa wb:Value}{r:Bool}(hu:A.units+64<cLine)(e:PV H a b=some r)(hr:HR S as T H s.heap)(va:VR S.fa as T a wa)(vb:VR S.fa as T b wb)(q:∀ tk,Q (.bool r) { s with toks:=tk }):wpAny (model S.prog S.w) A (compareOp .NotEq wa wb) Q E s:=by
  unfold PV at e
  cases hf:Ea a b with
 |none=>rw[hf] at e;exact Ma hu e hr va vb q
 |some r'=>
   rw[hf] at e
   exact mP (hf.trans e) va λx va e=>mP e vb λy vb e=>d6 va λt _=>d6 vb λu _=>ne_str (by rw[bne,mR,cj e];exact q _)
theorem CB{l:List V}{ws:List Value}{ss:List (List Nat)}(e:strsOf l=some ss)(x:br S.fa as T l ws):StrsAre ws (ss.map λx=>(⟨x.toArray⟩:Str)):=by
  induction l generalizing ws ss with
 |nil=>exact nM x (cj e▸.nil)
 |cons a r ih=>
    refine jV x λw us h y=>?_
    induction a using V.casesOn with
   |str z=>
      rw[F4] at e
      generalize hl:strsOf r=o at e
      induction o with
     |none=>exact nn e
     |some l=>exact d6 h λt _=>cj e▸.cons _ _ (ih hl y)
   |_=>exact nn e
theorem wD(x:List Nat):∀{ws:List Value}{ss:List (List Nat)},StrsAre ws (ss.map λx=>(⟨x.toArray⟩:Str))->ws.any (λy=>y.isStr ⟨x.toArray⟩)=ss.any (·==x)
 |_,[],h=>by cases h;rfl
 |_,y::r,h=>by
   cases h with
  |cons _ _ h'=>
    rw[List.any_cons,List.any_cons,wD x h']
    congr 1
    exact mR y x
theorem CC(x:List Nat)(u:Tok):∀{ws:List Value}{ss:List Str},StrsAre ws ss->∀ y∈ws,SeqAt.EqAt A s y (.str ⟨x.toArray⟩ u) (y.isStr ⟨x.toArray⟩):=by
  intro ws ss h
  induction h with
 |nil=>intro y hy;cases hy
 |cons z t _ ih=>
    intro y hy
    cases hy with
   |head=>exact SeqAt.EqAt.str_str _ _ _ _
   |tail _ hy=>exact ih y hy
theorem IX{a b:V}{wa wb:Value}{r:Bool}{P:Value->Value->Prop}(e:Il H a b=some r)(hr:HR S as T H s.heap)(va:VR S.fa as T a wa)(vb:VR S.fa as T b wb)
    (ks:∀(c:Nat)(t:List Nat) t1 u,decide (c∈t)=r->P (.str ⟨[c].toArray⟩ t1) (.str ⟨t.toArray⟩ u))
    (kt:∀(x:List Nat) t1 a' (ws:List Value),s.heap.IsTuple a' ws.toArray->(∀ y∈ws.toArray,SeqAt.EqAt A s y (.str ⟨x.toArray⟩ t1) (y.isStr ⟨x.toArray⟩))->ws.toArray.any (λy=>y.isStr ⟨x.toArray⟩)=r->P (.str ⟨x.toArray⟩ t1) (.ref a'))
    (kl:∀(x:List Nat) t1 a' (ws:List Value),s.heap.IsList a' ws.toArray->(∀ y∈ws.toArray,SeqAt.EqAt A s y (.str ⟨x.toArray⟩ t1) (y.isStr ⟨x.toArray⟩))->ws.toArray.any (λy=>y.isStr ⟨x.toArray⟩)=r->P (.str ⟨x.toArray⟩ t1) (.ref a')):P wa wb:=by
  refine mP e va λx va e=>d6 va λt1 _=>?_
  have key:∀{l:List V}{ws:List Value},br S.fa as T l ws->(iX l λss=>some (ss.any (·==x)))=some r->(∀ y∈ws.toArray,SeqAt.EqAt A s y (.str ⟨x.toArray⟩ t1) (y.isStr ⟨x.toArray⟩))/\ws.toArray.any (λy=>y.isStr ⟨x.toArray⟩)=r:=λhv e=>lj e λss hs e=>
    ⟨λy hy=>CC x t1 (CB hs hv) y (by simpa using hy),by rw[← Array.any_toList,List.toList_toArray,wD x (CB hs hv)];exact cj e⟩
  induction b using V.casesOn with
 |str t=>
    refine d6 vb λu _=>?_
    match x,e with
   |[c],e=>exact ks c t t1 u (iC (by simp) (cj e))
   |[],e=>exact nn e
   |_::_::_,e=>exact nn e
 |tup l=>exact gX hr vb λa' ws h ht _ hv=>h▸kt x t1 a' ws ht (key hv e).1 (key hv e).2
 |loc n=>exact bj e λl hl e=>hr.fX hl vb λa' ws k h _ e1 _ hv=>h▸kl x t1 a' ws ⟨_,e1,rfl,k,rfl⟩ (key hv e).1 (key hv e).2
 |_=>exact nn e
theorem Qe{a b:V}{wa wb:Value}{r:Bool}(e:Il H a b=some r)(hr:HR S as T H s.heap)(va:VR S.fa as T a wa)(vb:VR S.fa as T b wb)(q:∀ tk,Q (.bool r) { s with toks:=tk }):wpAny (model S.prog S.w) A (compareOp .In wa wb) Q E s:=
 IX (P:=λx y=>wpAny (model S.prog S.w) A (compareOp .In x y) Q E s) e hr va vb
  (λc t t1 u h=>PyProof.Rows.in_str (by rw[StrLaws.found_one];exact h▸q _)) (λx t1 a' ws ht h1 h2=>SeqAt.in_tupleAt _ ht h1 (h2▸q _)) (λx t1 a' ws ht h1 h2=>SeqAt.in_listAt _ ht h1 (h2▸q _))
theorem GF{a b:V}{wa wb:Value}{r:Bool}(e:Il H a b=some r)(hr:HR S as T H s.heap)(va:VR S.fa as T a wa)(vb:VR S.fa as T b wb)(q:∀ tk,Q (.bool (!r)) { s with toks:=tk }):wpAny (model S.prog S.w) A (compareOp .NotIn wa wb) Q E s:=
 IX (P:=λx y=>wpAny (model S.prog S.w) A (compareOp .NotIn x y) Q E s) e hr va vb
  (λc t t1 u h=>PyProof.Rows.notIn_str (by rw[StrLaws.found_one];exact h▸q _)) (λx t1 a' ws ht h1 h2=>SeqAt.notIn_tupleAt _ ht h1 (h2▸q _)) (λx t1 a' ws ht h1 h2=>SeqAt.notIn_listAt _ ht h1 (h2▸q _))
theorem z9(x:VR S.fa as T v w):v≠.none->w≠.none:=
 VR.rec (motive_1:=λv w _=>v≠.none->w≠.none) (motive_2:=λ_ _ _=>True) (λh=>absurd rfl h) (λ_ _=>Value.noConfusion) (λ_ _ _=>Value.noConfusion) (λ_ _ _ _=>Value.noConfusion) (λ_ _ _ _ _=>Value.noConfusion) (λ_ _ _ _ _=>Value.noConfusion) (λ_ _=>Value.noConfusion) (λ_ _=>Value.noConfusion) (λ_ _=>Value.noConfusion) trivial (λ_ _ _ _=>trivial) x
theorem GH(x:VR S.fa as T v w):plainIs w .none=true:=
 VR.rec (motive_1:=λ_ w _=>plainIs w .none=true) (motive_2:=λ_ _ _=>True) rfl (λ_=>rfl) (λ_ _=>rfl) (λ_ _ _=>rfl) (λ_ _ _ _=>rfl) (λ_ _ _ _=>rfl) (λ_=>rfl) (λ_=>rfl) (λ_=>rfl) trivial (λ_ _ _ _=>trivial) x
theorem GI{a b:V}{r:Bool}(e:sP a b=some r):b=.none/\fG a=r:=by
  unfold sP at e
  cases h:fG b with
 |true=>rw[h] at e;exact⟨lO h,cj e⟩
 |false=>rw[h] at e;first|exact nn e|exact ff e|exact nn e
theorem IY{a b:V}{wa wb:Value}{r:Bool}{P:Value->Value->Prop}(e:sP a b=some r)(va:VR S.fa as T a wa)(vb:VR S.fa as T b wb)(kt:r=true->P .none .none)(kf:∀ w:Value,plainIs w .none=true->w≠.none->r=false->P w .none):P wa wb:=by
  obtain⟨hb,h⟩:=GI e
  refine si (hb▸vb:VR S.fa as T .none wb) ?_
  cases r with
 |true=>exact si (lO h▸va:VR S.fa as T .none wa) (kt rfl)
 |false=>exact kf wa (GH va) (z9 va λq=>by rw[q] at h;exact ff h.symm) rfl
theorem Qf{a b:V}{wa wb:Value}{r:Bool}(e:sP a b=some r)(va:VR S.fa as T a wa)(vb:VR S.fa as T b wb)(q:∀ tk,Q (.bool r) { s with toks:=tk }):wpAny (model S.prog S.w) A (compareOp .Is wa wb) Q E s:=
 IY (P:=λx y=>wpAny (model S.prog S.w) A (compareOp .Is x y) Q E s) e va vb (λh=>wpAny_is_self rfl (h▸q _)) λw h1 h2 h=>wpAny_is_other h1 h2 (h▸q _)
theorem GJ{a b:V}{wa wb:Value}{r:Bool}(e:sP a b=some r)(va:VR S.fa as T a wa)(vb:VR S.fa as T b wb)(q:∀ tk,Q (.bool (!r)) { s with toks:=tk }):wpAny (model S.prog S.w) A (compareOp .IsNot wa wb) Q E s:=
 IY (P:=λx y=>wpAny (model S.prog S.w) A (compareOp .IsNot x y) Q E s) e va vb (λh=>wpAny_isNot_self rfl (by have:=q s.toks;rw[h] at this;exact this)) λw h1 h2 h=>wpAny_isNot_other h1 h2 (by have:=q s.toks;rw[h] at this;exact this)
theorem Qg{a b:V}{wa wb:Value}{r:Bool}(hu:A.units+64<cLine)(e:ltV H a b=some r)(hr:HR S as T H s.heap)(va:VR S.fa as T a wa)(vb:VR S.fa as T b wb)(q:∀ tk,Q (.bool r) { s with toks:=tk }):wpAny (model S.prog S.w) A (compareOp .Lt wa wb) Q E s:=by
  induction a using V.casesOn with
 |int i=>exact eX e vb λj vb e=>dc va λt=>dc vb λu=>lt_int (cj e▸q _)
 |_=>exact nn e
theorem kG{op:lw}{o:CmpOp}{a b:V}{wa wb:Value}{r:Bool}(hu:A.units+64<cLine)(e:bY H op a b=some r)(c:lS op o=true)(hr:HR S as T H s.heap)(va:VR S.fa as T a wa)(vb:VR S.fa as T b wb)(q:∀ tk,Q (.bool r) { s with toks:=tk }) :
   wpAny (model S.prog S.w) A (compareOp o wa wb) Q E s:=by
  obtain rfl:=of_decide_eq_true c
  induction op with
 |eq=>exact Qd hu e hr va vb q
 |ne=>exact CA hu e hr va vb q
 |lt=>exact Qg hu e hr va vb q
 |le=>exact ints2 (P:=λx y=>wpAny (model S.prog S.w) A (compareOp .LtE x y) Q E s) va vb e λi j t u e=>by cases e;exact le_int (q _)
 |gt=>exact ints2 (P:=λx y=>wpAny (model S.prog S.w) A (compareOp .Gt x y) Q E s) va vb e λi j t u e=>by cases e;exact gt_int (q _)
 |ge=>exact nn e
 |is=>exact Qf e va vb q
 |fB=>exact bK e λr' h1 z=>by subst z;exact GJ h1 va vb q
 |isin=>exact Qe e hr va vb q
 |nR=>exact bK e λr' h1 z=>by subst z;exact GF h1 hr va vb q
end
end Mine
namespace Mine
section
variable {S:b0}{as aQ:As}{T T1:TS}{H H':Hp}{h h' h1:Heap}{s:Shared}{v:V}{w:Value}{Q:Value->Shared->Prop}{A:Around}{E:Value->Shared->Prop}
noncomputable def Sub(s:Shared)(w:Value):Prop:=∃ Ty id,s.TypeIs w Ty/\typeLookup (.type Ty) "__getitem__"=pure (some (.builtin id))
theorem oc{α:Type}{l:List α}{i:Int}{x:α}(e:eO l i=some x):0<=i/\l[i.toNat]?=some x:=by
 unfold eO at e
 split at e
 ·exact⟨by assumption,e⟩
 ·first|exact ff e|exact nn e|exact nn e
theorem rC{x y:List Nat}:(⟨x.toArray⟩:Str)=⟨y.toArray⟩↔x=y:=⟨λq=>by simpa using congrArg (λz=>z.cps.toList) q,λq=>by rw[q]⟩
theorem IZ{es:List (List Nat×V)}{ds:List (Str×Value)}(x:DR S as T es ds)(k:List Nat):match bz k es with
   |some v=>∃ w,valueAt ds ⟨k.toArray⟩=some w/\VR S.fa as T v w
   |none=>valueAt ds ⟨k.toArray⟩=none:=by
  induction x with
 |nil=>rfl
 |@cons k' v w es ds h r ih=>
    by_cases hk:k'=k
    ·subst hk
     have h1:bz k' ((k',v)::es)=some v:=by simp[zh,eM]
     rw[h1]
     exact⟨w,by simp[valueAt],h⟩
    ·have h1:bz k ((k',v)::es)=bz k es:=by simp[zh,eM,hk]
     have h2:valueAt ((⟨k'.toArray⟩,w)::ds) ⟨k.toArray⟩=valueAt ds ⟨k.toArray⟩:=by
      unfold valueAt
      rw[List.find?_cons_of_neg]
      simp only[decide_eq_true_eq]
      exact λq=>hk (rC.mp q)
     rw[h1,h2]
     exact ih
theorem GK{a:Addr}{ws:List Value}{k:Nat}(e:s.heap.get? a=some (lst ws k)):Sub s (.ref a):=⟨_,_,⟨_,e,rfl⟩,PySem.slot_list_getitem.lookup⟩
theorem Mb{a i r:V}{wa wi:Value}(e:gE H a i=some r)(hr:HR S as T H s.heap)(va:VR S.fa as T a wa)(vi:VR S.fa as T i wi)(q:∀ u tk,VR S.fa as T r u->Q u { s with toks:=tk }) :
    Sub s wa/\wpAny (model S.prog S.w) A (getItem wa wi) Q E s:=by
  induction a using V.casesOn with
 |tup l=>
    refine eX e vi λi vi e=>dc vi λt=>?_
    obtain⟨h1,h2⟩:=oc e
    exact⟨gX hr va λa' ws hw ht _ _=>po ht λn dd sl e1=>hw▸⟨_,_,⟨_,e1,rfl⟩,PySem.F.slot_tuple_getitem.lookup⟩,xP hr va h1 h2 λu vu=>q u s.toks vu⟩
 |str x=>
    refine eX e vi λi vi e=>dc vi λt=>bK e λc hc hw=>d6 va λu hz=>?_
    obtain⟨h1,h2⟩:=oc hc
    have vq:=(eS.mp h2).1
    have XO:=kD hz
    refine⟨⟨_,_,rfl,PySem.F.slot_str_getitem.lookup⟩,getItem_str (c:=c) (by simp;omega) ?_ (q _ _ (hw▸.str [c] _ (by simp[lim])))⟩
    have:seqIndex? i (⟨x.toArray⟩:Str).length=some i.toNat:=by
     unfold seqIndex?
     rw[str_len]
     simp only[show ¬ i<0 by omega,if_false]
     rw[if_pos (by simp;omega)]
    rw[this]
    simpa using h2
 |loc n=>
    induction i using V.casesOn with
   |int i=>
     refine bj e λl hl e=>dc vi λt=>?_
     obtain⟨h1,h2⟩:=oc e
     exact⟨hr.fX hl va λa' ws k hw _ e1 _ _=>hw▸GK e1,vw hr va hl h1 h2 λu vu=>q u s.toks vu⟩
   |str k=>
     refine lN e λes hl e=>d6 vi λt hz=>hr.qy hl va λa' ds hw hp e1 tB hv=>hw▸?_
     have:=IZ hv k
     rw[e] at this
     obtain⟨u,hu,vu⟩:=this
     refine⟨?_,wpAny_getItem_of (knd:=strKind S.prog S.w) (k:=⟨k.toArray⟩) (strKind_is _ _ _ _) e1.mapOf hu (q _ _ vu)⟩
     obtain⟨o,GL,ep,g,x,_⟩:=e1
     exact⟨_,_,⟨_,g,x.1⟩,PySem.F.slot_dict_getitem.lookup⟩
   |_=>exact nn e
 |_=>exact nn e
theorem Mc{es:List (List Nat×V)}{ds:List (Str×Value)}{u:V}{w:Value}(x:DR S as T es ds)(vr:VR S.fa as T u w)(k:List Nat)(hn:(ds.map (·.1)).Nodup):DR S as T (dF k u es) (stored ds ⟨k.toArray⟩ w):=by
  induction x with
 |nil=>exact .cons vr .nil
 |@cons k' v' w' es ds h r ih=>
   obtain⟨n1,n2⟩:=gc.mp hn
   by_cases hk:k'=k
   ·subst hk
    have h1:dF k' u ((k',v')::es)=(k',u)::es:=by simp[D0,sd]
    have h2:stored ((⟨k'.toArray⟩,w')::ds) ⟨k'.toArray⟩ w=(⟨k'.toArray⟩,w)::ds:=by
     unfold stored
     rw[if_pos (by simp),dD,if_pos rfl]
     congr 1
     rw[List.map_congr_left (g:=id),oS]
     intro z hz
     rw[if_neg];rfl
     intro q
     exact n1 (q▸lH.mpr ⟨z,hz,rfl⟩)
    rw[h1,h2]
    exact .cons vr r
   ·have be:(⟨k'.toArray⟩:Str)≠⟨k.toArray⟩:=λq=>hk (rC.mp q)
    have h1:dF k u ((k',v')::es)=(k',v')::dF k u es:=by simp[D0,sd,hk]
    have h2:stored ((⟨k'.toArray⟩,w')::ds) ⟨k.toArray⟩ w=(⟨k'.toArray⟩,w')::stored ds ⟨k.toArray⟩ w:=by
     unfold stored
     rw[List.any_cons,decide_eq_false be,Bool.false_or,dD,if_neg be,zb]
     split <;> rfl
    rw[h1,h2]
    exact .cons h (ih n2)
theorem Aa{α:Type}(k:List Nat)(u:α):∀ es:List (List Nat×α),(dF k u es).length<=es.length+1
 |[]=>aE _
 |(j,v)::r=>by
  rw[sd]
  split
  ·simp
  ·have:=Aa k u r;simp;exact nt (aj [_,_] (.d ab (.s af) (.d (.s (.s af)) ab .z)) rfl this)
theorem Md{es:List (List Nat×V)}{ds:List (Str×Value)}(x:DR S as T es ds):ds.length=es.length:=by
  induction x with
 |nil=>rfl
 |cons _ _ ih=>rw[c9,c9,ih]
theorem I0{o i x:V}{wo wi wx:Value}{Q:Unit->Shared->Prop}(e:sR H o i x=some H')(hr:HR S as T H s.heap)(vo:VR S.fa as T o wo)(vi:VR S.fa as T i wi)(vx:VR S.fa as T x wx)(q:wz S as T s H' Q) :
   wpAny (model S.prog S.w) A (setItem wo wi wx) Q E s:=by
  refine gW e vo λn vo e=>?_
  induction i using V.casesOn with
 |int i=>
   refine bj e λl hl e=>dc vi λt=>?_
   obtain⟨hc,e⟩:=cT e
   exact qz hr vo vx hl hc.1 hc.2 (e▸q)
 |str k=>
   refine lN e λes hl e=>d6 vi λt hz=>hr.qy hl vo λa ds hw hp e1 hz hv=>hw▸?_
   obtain⟨hc,e⟩:=cT e
   have ao:a∈owned as:=(i2 hp).1
   refine wpAny_setItem_pairs (knd:=strKind S.prog S.w) (k:=⟨k.toArray⟩) (strKind_is _ _ _ _) e1 (λh' e2 sb=>?_) (by rw[Md hv];exact bv hz (by decide))
   have kp:∀ b o,b≠a->s.heap.get? b=some o->h'.get? b=some o:=λb o nb e=>(sb.2 b nb).trans e
   have Me:(ds.map (·.1)).Nodup:=by obtain⟨_,_,_,_,_,_,_,_,z⟩:=e1;exact z
   exact q h' _ as T (.upd ao kp) (e▸hr.upd hp (eS.mp hl).1 (.head _) kp (.dict e2 (bv (Aa k x es) hc) (Mc hv vx k Me)) (hr.wB e1))
 |_=>exact nn e
noncomputable def KV(S:b0):IK->Value->Prop
 |.int,w=>w=.type "int"
 |.str,w=>w=.type "str"
 |.tuple,w=>w=.type "tuple"
 |.cls k,w=>∃ C:Nat,S.ca[k]?=some C/\w=.ref C
theorem xR(C:Cx S){t c:String}(ht:t∈tz)(hc:c∈["int","str","tuple"]):kitOne S.K (.type t) (.type c)=some (t==c || (t=="bool"&&c=="int")):=by
 have:=C.S8
 unfold sh at this
 simp only[cJ] at this
 exact beq_iff_eq.mp (fz.mp (fz.mp this.1 t ht) c hc)
theorem kit_cls(C:Cx S){D k:Nat}(hD:S.ca[k]?=some D):kitOne S.K (.type "int") (.ref D)=some false/\kitOne S.K (.type "str") (.ref D)=some false:=by
 have:=C.S8
 unfold sh at this
 simp only[cJ] at this
 have:=fz.mp this.2 D (lb hD)
 simp only[cJ] at this
 exact⟨beq_iff_eq.mp this.1,beq_iff_eq.mp this.2⟩
noncomputable def Ab:Nat->String
 |0=>"int"
 |1=>"bool"
 |2=>"NoneType"
 |3=>"str"
 |_=>"tuple"
theorem tE(C:Cx S){k:IK}{wk:Value}{n:Nat}{b:Bool}(hn:n<5)(hk:KV S k wk)(e:Ip n k=some b):kitOne S.K (.type (Ab n)) wk=some b:=by
  have hm:∀ n<5,Ab n∈tz:=by decide
  induction k with
 |int=>
    rw[show wk=.type "int" from hk,← e]
    exact(xR C (hm n hn) (by decide)).trans ((by decide:∀ n<5,some (Ab n=="int" || (Ab n=="bool"&&"int"=="int"))=Ip n .int) n hn)
 |str=>
    rw[show wk=.type "str" from hk,← e]
    exact(xR C (hm n hn) (by decide)).trans ((by decide:∀ n<5,some (Ab n=="str" || (Ab n=="bool"&&"str"=="int"))=Ip n .str) n hn)
 |tuple=>
    rw[show wk=.type "tuple" from hk,← e]
    exact(xR C (hm n hn) (by decide)).trans ((by decide:∀ n<5,some (Ab n=="tuple" || (Ab n=="bool"&&"tuple"=="int"))=Ip n .tuple) n hn)
 |cls k=>
    obtain⟨D,hD,rfl⟩:=hk
    match n,e with
   |0,e=>exact(kit_cls C hD).1.trans e
   |3,e=>exact(kit_cls C hD).2.trans e
   |1,e=>exact nn e
   |2,e=>exact nn e
   |n+4,e=>exact nn e
theorem Mf{x:V}{k:IK}{b:Bool}{wx wk:Value}(C:Cx S)(e:xk x k=some b)(hr:HR S as T H s.heap)(vx:VR S.fa as T x wx)(hk:KV S k wk)(q:∀ tk,Q (.bool b) { s with toks:=tk }) :
   wpAny (model S.prog S.w) A (call (.builtin "isinstance") [wx,wk]) Q E s:=by
  have X:=C.X.keeps hr.base
  induction x using V.casesOn with
 |none=>exact si vx (kia_one kitx_none X trivial (tE C (by decide) hk e) (by intro q;cases q) q)
 |bool=>exact ED vx (kia_one kitx_bool X trivial (tE C (by decide) hk e) (by intro q;cases q) q)
 |int=>exact dc vx λt=>kia_one kitx_int X trivial (tE C (by decide) hk e) (by intro q;cases q) q
 |str=>exact d6 vx λt _=>kia_one kitx_str X trivial (tE C (by decide) hk e) (by intro q;cases q) q
 |tup=>exact gX hr vx λa ws hw ht _ _=>po ht λn dd sl e1=>hw▸kia_one kitx_tuple X ⟨_,e1,rfl⟩ (tE C (by decide) hk e) (by intro q;cases q) q
 |_=>exact nn e
end
end Mine
namespace Mine
section
variable {S:b0}{as aQ:As}{T T1:TS}{H H':Hp}{h h' h1:Heap}{s:Shared}{v:V}{w:Value}{Q:Value->Shared->Prop}{A:Around}{E:Value->Shared->Prop}
theorem EG{fa:List Nat}{a:V}{ws:List Value}(x:br fa as T [a] ws){zg:Prop}(zk:∀ w,(ws=[w])->(VR fa as T a w)->zg):zg:=by
  cases x with
 |cons h r=>cases r;exact zk _ rfl h
theorem Tj{fa:List Nat}{a:V}{ws:List Value}(x:br fa as T [a] ws):∃ w,ws=[w]/\VR fa as T a w:=EG x λw cR cX=>⟨w,cR,cX⟩
theorem EH{fa:List Nat}{a b:V}{ws:List Value}(x:br fa as T [a,b] ws){zg:Prop}(zk:∀ w u,(ws=[w,u])->(VR fa as T a w)->(VR fa as T b u)->zg):zg:=by
  cases x with
 |cons h r=>obtain⟨u,rfl,k⟩:=Tj r;exact zk _ _ rfl h k
section
variable {fa:List Nat}{β:Type}{r:β}{P:List Value->Prop}{vs:List V}{ws:List Value}
@[elab_as_elim] theorem xS{f:Option β}(vv:br fa as T vs ws)(e:F2 vs f=some r)(k:f=some r->P []):P ws:=by
 obtain⟨rfl,e⟩:=vT e;cases vv;exact k e
@[elab_as_elim] theorem jp{f:V->Option β}(vv:br fa as T vs ws)(e:rL vs f=some r)(k:∀ a w,VR fa as T a w->f a=some r->P [w]):P ws:=by
 refine rm e λa hx e2=>?_;subst hx;exact EG vv λw h v=>h▸k a w v e2
@[elab_as_elim] theorem Mg{f:V->V->Option β}(vv:br fa as T vs ws)(e:PT vs f=some r)(k:∀ a b w u,VR fa as T a w->VR fa as T b u->f a b=some r->P [w,u]):P ws:=by
 refine zo e λa b hx e2=>?_;subst hx;exact EH vv λw u h v v2=>h▸k a b w u v v2 e2
end
theorem tF{a b:Int}:Builtin.Range.rangeSize a b 1=(fK a b 1:Nat):=by
 unfold Builtin.Range.rangeSize
 rw[if_pos (by decide),Int.ediv_one,Int.sub_add_cancel]
 show _=((b-a).toNat:Int)
 by_cases h:a<b
 ·rw[if_pos h,Int.toNat_of_nonneg (Int.sub_nonneg_of_le (Int.le_of_lt h))]
 ·rw[if_neg h,Int.toNat_of_nonpos (Int.sub_nonpos_of_le (Int.not_lt.mp h))];rfl
theorem CD{a b:Int}(ha:a.natAbs<1048576)(hb:b.natAbs<1048576):fK a b 1<8388608:=
 jM (bv (Int.toNat_le.mpr Int.le_natAbs) (Int.natAbs_sub_le b a)) (nB (Nat.add_lt_add hb ha) (by decide))
theorem tH{a b:Int}(ha:a.natAbs<1048576)(hb:b.natAbs<1048576):Builtin.Range.small a b 1=true:=by
 have f:∀ x:Int,x.natAbs<8388608->Builtin.Range.rangeFitsLong x=true:=λx h=>by
  unfold Builtin.Range.rangeFitsLong
  simp only[cJ,decide_eq_true_eq]
  omega
 have fb:=f b (nB hb (by decide))
 unfold Builtin.Range.small
 simp only[cJ,Bool.or_eq_true]
 refine⟨⟨⟨⟨f a (nB ha (by decide)),fb⟩,f 1 (by decide)⟩,by rw[tF];exact f _ (CD ha hb)⟩,.inr ?_⟩
 rw[if_pos (by decide)]
 show Builtin.Range.rangeFitsLong (b+0)=true
 rw[Int.add_zero];exact fb
theorem GN{acc:List Value}:∀{a:Int},(∀ j v,acc[j]?=some v->∃ t,v=Value.int (a+(j:Nat)*1) t)->br S.fa as T ((rq a 1 acc.length).map .int) acc:=by
  induction acc with
 |nil=>intro a _;exact .nil
 |cons v r ih=>
   intro a hv
   obtain⟨t,h⟩:=hv 0 v rfl
   refine .cons (by rw[h,show a+((0:Nat):Int)*1=a from Int.add_zero a];exact .int a t) (ih λj u hu=>?_)
   obtain⟨t,ht⟩:=hv (j+1) u hu
   exact⟨t,by rw[ht,Int.natCast_succ,Int.mul_one,Int.mul_one,Int.add_comm (j:Int),← Int.add_assoc]⟩
theorem wE(a c:Int):∀ n,(rq a c n).length=n
 |0=>rfl
 |n+1=>by rw[Ed,c9,wE]
theorem EI{a b c:Int}(hr:HR S as T H h)(x:VR S.fa as T (.cQ a b c) w){zg:Prop}(zk:∀ p t u v,(w=.ref p)->(IsRange h p a b c t u v)->zg):zg:=by
  cases x with
 |cQ t=>obtain⟨t1,u,v,e⟩:=hr.im _ _ t;exact zk _ _ _ _ rfl e
theorem Ac{a b c:Int}{t u x:Tok}(hr:HR S as T H s.heap)(q:dz S as T s H (.cQ a b c) Q)(tk:Tok) :
  Q (.ref s.heap.objs.size) { s with heap:=s.heap.push { cls:=.type "range",data:=.fields #[.int a t,.int b u,.int c x] },toks:=tk }:=by
 obtain⟨e,r⟩:=Ex (a:=s.heap.objs.size) (i:=.cQ a b c) hr (b8 { cls:=.type "range",data:=.fields #[.int a t,.int b u,.int c x] }) ⟨t,u,x,Heap.get?_push_size _ rfl⟩ (λ_ q=>by cases q)
 exact q _ _ _ _ _ e r (.cQ (.inr ⟨rfl,rfl⟩))
@[elab_as_elim] theorem Tk{P:Value->Prop}{l:List V}(x:VR S.fa as T (.ro l) w)(zk:∀ a ws,T a (.ro ws)->l.length<=lim->br S.fa as T l ws->P (.ref a)):P w:=by
  cases x with
 |ro t hz hv=>exact zk _ _ t hz hv
theorem CE{n:Nat}{l:List V}(hr:HR S as T H h)(hl:H[n]?=some (.list l))(x:VR S.fa as T (.loc n) w){zg:Prop}(zk:∀ a ws,(w=.ref a)->(h.IsList a ws.toArray)->(l.length<=lim)->(br S.fa as T l ws)->zg):zg:=
 hr.fX hl x λa ws k e _ e1 hz hv=>zk a ws e ⟨_,e1,rfl,k,rfl⟩ hz hv
@[elab_as_elim] theorem eY{P:Value->Prop}{n:Nat}{l:List V}(hr:HR S as T H h)(hl:H[n]?=some (.list l))(x:VR S.fa as T (.loc n) w)(zk:∀ a ws,h.IsList a ws.toArray->l.length<=lim->br S.fa as T l ws->P (.ref a)):P w:=CE hr hl x λa ws e hL hz hv=>e▸zk a ws hL hz hv
theorem Mh{a:V}{n:Nat}{w0:Value}(e:Ee a H=some n)(hr:HR S as T H s.heap)(v0:VR S.fa as T a w0)(q:dz S as T s H (.int n) Q):wpAny (model S.prog S.w) A (call (.builtin "len") [w0]) Q E s:=by
  induction a using V.casesOn with
 |str x=>exact d6 v0 λt hz=>PyProof.Rows.len_str (by rw[str_len];have:=kD hz;omega) (by rw[str_len];exact(cj e▸q:dz S as T s H (.int (x.length:Nat)) Q).tok hr (.int _ _) _)
 |tup l=>exact gX hr v0 λa ws hw ht hz hv=>hw▸len_tuple ht (by rw[fW,hv.length];exact kD hz) (by rw[fW,hv.length,cj e];exact q.tok hr (.int _ _) _)
 |loc n=>exact bj e λl hl e=>eY hr hl v0 λa ws ht hz hv=>len_list ht (by rw[fW,hv.length];exact kD hz) (by rw[fW,hv.length,cj e];exact q.tok hr (.int _ _) _)
 |_=>exact nn e
theorem Mi{a:V}{n:Int}{w0:Value}(e:OB a=some n)(hr:HR S as T H s.heap)(v0:VR S.fa as T a w0)(q:dz S as T s H (.int n) Q):wpAny (model S.prog S.w) A (call (.type "int") [w0]) Q E s:=by
  induction a using V.casesOn with
 |int i=>exact dc v0 λt=>call_int_int (q.now hr (cj e▸.int _ _))
 |_=>exact nn e
theorem I1{a:V}{l:List V}{w0:Value}(hh:A.handled=none)(e:B4 a H=some l)(hr:HR S as T H s.heap)(v0:VR S.fa as T a w0)(q:dz S as T s (H++[.list l]) (.loc H.length) Q):wpAny (model S.prog S.w) A (call (.type "list") [w0]) Q E s:=by
  induction a using V.casesOn with
 |tup l=>cases e;exact z7 hr v0 q
 |cQ a b c=>
   obtain⟨⟨h1,h2,h3,hc⟩,e⟩:=cT e
   refine EI hr (hc▸v0:VR S.fa as T (.cQ a b 1) w0) λp t u x hw hR=>hw▸?_
   refine PySem.call_list_range hh hR (tH h2 h3) tF (bv h1 (by decide)) λh' tk Tl c' kp hD hit=>?_
   have hv:=GN (S:=S) (as:=as) (T:=T) (a:=a) (acc:=Tl.toList) (λj v hj=>hit.2 j v (by simpa using hj))
   rw[Array.length_toList,hit.1,show fK a b 1=fK a b c from rfl,← hc,e] at hv
   exact pn hr kp (by rw[hD];simp[lst];rfl) hv (by rw[← e,cn,wE];exact bv h1 (by decide)) q tk
 |_=>exact nn e
theorem GO{vs:List V}{v:V}{ws:List Value}(e:Ef vs=some v)(hr:HR S as T H s.heap)(vv:br S.fa as T vs ws)(q:dz S as T s H v Q):wpAny (model S.prog S.w) A (call (.type "range") ws) Q E s:=by
  match vs,e with
 |[],e=>exact nn e
 |[x],e=>exact jV vv λw us v0 vv=>nM vv (eX e v0 λa v0 e=>kr e λ_ e=>dc v0 λt=>PySem.call_range_1 (Ac hr (e▸q) _))
 |x::y::r,e=>exact jV vv λw us v0 vv=>jV vv λw2 us v1 vv=>eX e v0 λa v0 e=>eX e v1 λb v1 e=>xS vv e λe=>kr e λ_ e=>dc v0 λt=>dc v1 λu=>PySem.call_range_2 (Ac hr (e▸q) _)
theorem I2{p:Pr}{r:V}{vs:List V}{ws:List Value}(hh:A.handled=none)(e:lP p vs H=some (r,H'))(hr:HR S as T H s.heap)(vv:br S.fa as T vs ws)(q:dz S as T s H' r Q) :
   wpAny (model S.prog S.w) A (call (ty p) ws) Q E s:=by
  induction p with
 |len=>exact jp vv e λa w0 v0 e=>bK e λn e1 h=>Mh e1 hr v0 (q.of h)
 |abs=>
   refine jp vv e λa w0 v0 e=>eX e v0 λi v0 e=>dc v0 λt=>PyProof.Rows.call_abs_int λu tk=>?_
   have:(if i<0 then -i else i)=(i.natAbs:Int):=by split <;> omega
   rw[this]
   exact(q.rM e).tok hr (.int _ _) _
 |int=>exact jp vv e λa w0 v0 e=>bK e λn e1 h=>Mi e1 hr v0 (q.of h)
 |chr=>
   refine jp vv e λa w0 v0 e=>eX e v0 λi v0 e=>dc v0 λt=>?_
   obtain⟨hc,e⟩:=cT e
   exact P.chr_of_int (by simp;omega) ((q.of e).tok hr (.str [i.toNat] _ (by simp[lim])) _)
 |ord=>exact nn e
 |list=>exact jp vv e λa w0 v0 e=>bK e λl e1 h=>I1 hh e1 hr v0 (q.of h)
 |range=>exact bK e λv e1 h=>GO e1 hr vv (q.of h)
 |min=>cases e
 |str=>exact nn e
end
end Mine
namespace Mine
section
variable {S:b0}{as aQ:As}{T T1:TS}{H H':Hp}{h h' h1:Heap}{s:Shared}{v:V}{w:Value}{Q:Value->Shared->Prop}{A:Around}{E:Value->Shared->Prop}
noncomputable def Ad:BM->String
 |.append=>"list"|.pop=>"list"|.extend=>"list"|.reverse=>"list"|.join=>"str"|.replace=>"str"|.startswith=>"str"|.lstrip=>"str"|.split=>"str"|.get=>"dict"
noncomputable def Ae:BM->String
 |.append=>"list.append"|.pop=>"list.pop"|.extend=>"list.extend"|.reverse=>"list.reverse"|.join=>"str.join"|.replace=>"str.replace"|.startswith=>"str.startswith"|.lstrip=>"str.lstrip"|.split=>"str.split"|.get=>"dict.get"
theorem tJ:∀{ws:List Value}{ss:List (List Nat)},StrsAre ws (ss.map λx=>(⟨x.toArray⟩:Str))->∃ l:List (Str×Tok),ws=strValues l/\l.map (·.1)=ss.map λx=>(⟨x.toArray⟩:Str)
 |_,[],h=>by cases h;exact⟨[],rfl,rfl⟩
 |_,y::r,h=>by
   cases h with
  |cons _ t h'=>
    obtain⟨l,h1,h2⟩:=tJ h'
    exact⟨(_,t)::l,by rw[h1];rfl,by rw[dD,h2,dD]⟩
theorem GP(ss:List (List Nat)):Txt.join (⟨#[]⟩:Str) (ss.map λx=>(⟨x.toArray⟩:Str))=⟨(iY ss).toArray⟩:=by
  have gen:∀(r:List (List Nat))(acc:List Nat),(List.foldl (λacc (p:Str)=>acc++(#[]:Array Nat)++p.cps) acc.toArray (r.map λx=>(⟨x.toArray⟩:Str)))=(acc++iY r).toArray:=by
    intro r
    induction r with
   |nil=>intro acc;simp[LQ,xl]
   |cons x r ih=>
     intro acc
     rw[dD,q8]
     have:acc.toArray++(#[]:Array Nat)++x.toArray=(acc++x).toArray:=by simp
     rw[this,ih,xl,cG]
  induction ss with
 |nil=>rfl
 |cons x r=>
    show(⟨List.foldl (λacc (p:Str)=>acc++(#[]:Array Nat)++p.cps) x.toArray (r.map λx=>(⟨x.toArray⟩:Str))⟩:Str)=_
    rw[gen];rfl
theorem Af:∀(ss:List (List Nat))(n:Nat),List.foldl (λx1 (x2:Str)=>x1+x2.length+(⟨#[]⟩:Str).length) n (ss.map λx=>(⟨x.toArray⟩:Str))=n+(iY ss).length
 |[],n=>rfl
 |x::r,n=>by
  rw[dD,q8,Af r,xl,aK,str_len]
  show n+x.length+0+_=_
  exact lx [_,_,_] (.a (.a (.a ab af) (.n 0)) aq) (.a ab (.a af aq)) rfl
theorem I3{n:Nat}{v:V}{wo w0:Value}(e:xm H n=some v)(hr:HR S as T H s.heap)(vo:VR S.fa as T (.str []) wo)(v0:VR S.fa as T (.loc n) w0)(q:dz S as T s H v Q) :
  wpAny (model S.prog S.w) A (call (.builtin "str.join") [wo,w0]) Q E s:=by
 refine bj e λl hl e1=>?_
 refine lj e1 λss hs e2=>?_
 obtain⟨hlen,he⟩:=cT e2
 cases he
 refine d6 vo λt hz=>?_
 refine eY hr hl v0 λa us hL tB hv=>?_
 obtain⟨lt,h1,h2⟩:=tJ (CB hs hv)
 subst h1
 refine SC.join (texts:=ss.map λx=>(⟨x.toArray⟩:Str)) hL h2 ?_ λt' k=>?_
 ·unfold JoinOk
  rw[← Array.foldl_toList,List.toList_toArray,Af]
  unfold Builtin.Str.tooLong
  simp only[Bool.not_eq_true',decide_eq_false_iff_not]
  have:=dJ hlen
  show ¬ 0+(iY ss).length > sizeLine
  omega
 ·rw[GP]
  exact q.tok hr (.str _ _ hlen) _
theorem I4{n:Nat}{k:List Nat}{es:List (List Nat×V)}{dv:V}{wo w0 w2:Value}(hl:H[n]?=some (.dict es))(hr:HR S as T H s.heap)(vo:VR S.fa as T (.loc n) wo)(v0:VR S.fa as T (.str k) w0)(v2:VR S.fa as T dv w2)(q:dz S as T s H ((bz k es).getD dv) Q) :
   wpAny (model S.prog S.w) A (call (.builtin "dict.get") [wo,w0,w2]) Q E s:=by
  refine d6 v0 λt hz=>?_
  refine hr.Ey hl vo λa ds hp e1 tB hv=>?_
  have hd:(a==sysModules)=false:=by
   rw[beq_eq_false_iff_ne]
   have:=hr.big a (i2 hp).1
   exact dp this
  have hm:=e1.mapOf
  refine call_meetsIn PySem.F.slot_dict_get hm.typeIs PySem.F.entry_dict_get (PySem.F.args_dict_get_3 _ _ _) (meets_dict_get_default (strKind S.prog S.w) (k:=⟨k.toArray⟩) a (strKind_is _ _ _ _) hd w2) ⟨_,hm,?_⟩
  have:=IZ hv k
  cases hk:bz k es with
 |some v=>
   rw[hk] at this q
   obtain⟨u,hu,vu⟩:=this
   rw[hu]
   exact q.tok hr vu _
 |none=>
   rw[hk] at this q
   rw[this]
   exact q.tok hr v2 _
theorem Ag{α:Type}{l:List V}{f:V->α}{r:α}(e:(match l.getLast? with|some v=>some (f v)|none=>none)=some r){zg:Prop}(zk:∀ v,l.getLast?=some v->f v=r->zg):zg:=by
  generalize l.getLast?=o at e zk
  induction o with
 |none=>exact nn e
 |some v=>exact zk v rfl (cj e)
theorem xT{α:Type}{x:List Nat}{f:Option α}{r:α}(e:(match x with|[]=>f|_::_=>none)=some r){zg:Prop}(zk:x=[]->f=some r->zg):zg:=by
  induction x using List.casesOn with
 |nil=>exact zk rfl e
 |cons=>exact nn e
theorem Qh{m:BM}{o r:V}{vs:List V}{wo:Value}{ws:List Value}(e:sQ m o vs H=some (r,H'))(hr:HR S as T H s.heap)(vo:VR S.fa as T o wo)(vv:br S.fa as T vs ws)(q:dz S as T s H' r Q) :
   wpAny (model S.prog S.w) A (call (.builtin (Ae m)) (wo::ws)) Q E s:=by
  induction m with
 |append=>exact gW e vo λn vo e=>jp vv e λa w v0 e=>bj e λl hl e=>kr e λhc e=>Cu hr vo v0 hl hc (q.of e)
 |pop=>exact gW e vo λn vo e=>xS vv e λe=>bj e λl hl e=>Ag e λv hv e=>L7 hr vo hl hv (q.of e)
 |extend=>exact gW e vo λn vo e=>jp vv e λa w v0 e=>gW e v0 λk v0 e=>bj e λl hl e=>bj e λm hm e=>kr e λhc e=>Cv hr vo v0 hl hm hc.2 (q.of e)
 |reverse=>exact gW e vo λn vo e=>xS vv e λe=>bj e λl hl e=>z5 hr vo hl (q.rM e)
 |join=>exact mP e vo λx vo e=>jp vv e λa w v0 e=>gW e v0 λn v0 e=>xT e λhx e=>bK e λv e he=>I3 e hr (hx▸vo) v0 (q.of he)
 |replace=>cases e
 |startswith=>cases e
 |lstrip=>cases e
 |split=>cases e
 |get=>exact gW e vo λn vo e=>Mg vv e λa dv w u v0 v2 e=>mP e v0 λk v0 e=>lN e λes hl e=>I4 hl hr vo v0 v2 (q.rM e)
theorem Mj(m:Nat):sliceRange (m:Int) 0 (-1)=((List.range m).map (1 + ·)).reverse:=by
 have c:(if(m:Int) > 0 then((m:Int)-0 - -1-1) / (- -1) else 0).toNat=m:=by
   rw[show(- -1:Int)=1 from rfl,Int.ediv_one,Int.sub_zero,Int.sub_neg,zc]
   induction m using Nat.casesOn with
  |zero=>rfl
  |succ m=>rw[if_pos (q9.mpr (nE m)),oT]
 show(List.range (if(m:Int) > 0 then((m:Int)-0 - -1-1) / (- -1) else 0).toNat).map (λ(k:Nat)=>((m:Int) + -1*(k:Int)).toNat)=_
 rw[c,← vQ,← krv_range,List.map_map]
 refine List.map_congr_left λk hk=>?_
 obtain⟨j,rfl⟩:=Nat.exists_eq_add_of_lt (sK.mp hk)
 show((k+j+1:Nat) + -1*(k:Int)).toNat=1+(k+j+1-1-k)
 rw[Nat.add_sub_cancel,zd,Int.neg_mul,Int.one_mul,cb,Int.natCast_add,Int.add_comm (k:Int),Int.add_neg_cancel_right,oT,iR]
theorem slice_list{items:Array Value}:slicePick items none (some 0) (some (-1))=((items.toList.drop 1).reverse).toArray:=by
 have key:∀ n:Nat,sliceRange (sliceBounds none (some 0) (some (-1)) n).1 (sliceBounds none (some 0) (some (-1)) n).2.1 (sliceBounds none (some 0) (some (-1)) n).2.2=((List.range (n-1)).map (1 + ·)).reverse:=λn=>by
   induction n with
  |zero=>rfl
  |succ m=>
    rw[show sliceBounds none (some 0) (some (-1)) (m+1)=((m:Int),0,-1) from Prod.ext (by show((m+1:Nat):Int)-1=_;rw[Int.natCast_add];exact zc ..) (Prod.ext (by show max (-1:Int) (min 0 (((m+1:Nat):Int)-1))=0;rw[Int.natCast_add,show(m:Int)+(1:Nat)-1=m from zc ..,Int.min_eq_left (nF m)];rfl) rfl)]
    exact Mj m
 show((sliceRange _ _ _).filterMap (items[·]?)).toArray=_
 rw[key,List.filterMap_reverse,pick_run,List.take_of_length_le (by rw[rd,Array.length_toList];exact aE _)]
theorem GQ{x:List Nat}{lo hi:Option (Int×Tok)}:slicePicked ⟨x.toArray⟩ lo hi none=sliceRange (sliceBounds (lo.map (·.1)) (hi.map (·.1)) none x.length).1 (sliceBounds (lo.map (·.1)) (hi.map (·.1)) none x.length).2.1 1:=by
 unfold slicePicked
 rw[str_len]
 rfl
theorem I5{α:Type}(x:List α)(i j:Nat):(x.drop (min i x.length)).take (min j x.length-min i x.length)=(x.take j).drop i:=by
 rw[← List.drop_take,← List.take_eq_take_min]
 rcases Nat.le_total i x.length with h|h
 ·rw[Nat.min_eq_left h]
 ·rw[Nat.min_eq_right h,List.drop_of_length_le (DW ..),List.drop_of_length_le (bv (DW ..) h)]
theorem so{α:Type}(x:List α)(i j:Nat):((x.take j).drop i).Sublist x:=(List.drop_sublist i _).trans (List.take_sublist j x)
theorem str_slice{x:List Nat}{t:Tok}{lo hi:Option (Int×Tok)}{i j:Nat}{sl:Addr}(hs:s.heap.IsSlice sl lo hi none)(hx:x.length<=lim)(h1:kms_lo (lo.map (·.1)) x.length=min i x.length)(h2:kms_hi (hi.map (·.1)) x.length=min j x.length)
  (q:∀ t' k,Q (.str ⟨((x.take j).drop i).toArray⟩ t') { s with toks:=k }):wpAny (model S.prog S.w) A (getItem (.str ⟨x.toArray⟩ t) (.ref sl)) Q E s:=by
 have e0:slicePicked ⟨x.toArray⟩ lo hi none=(List.range (min j x.length-min i x.length)).map (min i x.length + ·):=by
  rw[GQ,kms_bounds,h1,h2];exact sliceRange_one ..
 have hp:(slicePicked ⟨x.toArray⟩ lo hi none).filterMap (x.toArray[·]?)=(x.take j).drop i:=by rw[e0,pick_run];exact I5 x i j
 refine wpAny_getItem_str_slice hs (by rfl) ?_
 unfold sliceMade
 split
 ·rename_i hc
  have hl:min j x.length-min i x.length=x.length:=by
   have:=(nz.mp hc).2
   rw[e0,cn,List.length_range,str_len] at this;exact eq_of_beq this
  have:=(so x i j).eq_of_length (k8 (so x i j).length_le (by rw[← I5,List.length_take,rd,hl];exact Nat.le_min.mpr ⟨aE _,bv (bx hl.symm) (Nat.sub_le_sub_right (Nat.min_le_right ..) _)⟩))
  show Q (.str ⟨x.toArray⟩ t) s
  have q:=q t s.toks
  rw[this] at q
  exact q
 ·show(⟨((slicePicked ⟨x.toArray⟩ lo hi none).filterMap (x.toArray[·]?)).toArray⟩:Str).length<=sizeLine/\Q (.str ⟨((slicePicked ⟨x.toArray⟩ lo hi none).filterMap (x.toArray[·]?)).toArray⟩ s.toks) { s with toks:=s.toks+1 }
  rw[hp,str_len]
  exact⟨bv (so x i j).length_le (dJ hx),q _ _⟩
section
variable {β:Type}{r:β}{lo hi:V}{wl:Value}{zg:Prop}
theorem I6{f:Nat->Option β}(e:Oz lo f=some r)(vl:VR S.fa as T lo wl)(n:Nat)(zk:∀(p:Option (Int×Tok)) i,wl=partValue p->kms_lo (p.map (·.1)) n=min i n->f i=some r->zg):zg:=by
  induction lo using V.casesOn with
 |none=>exact zk none 0 (jG vl) (Nat.zero_min n).symm e
 |int i=>
   by_cases h:0<=i
   ·obtain⟨u,hu⟩:=EC vl
    exact zk (some (i,u)) i.toNat hu (if_neg (Int.not_lt.mpr h)) ((if_pos h).symm.trans e)
   ·exact nn ((if_neg h).symm.trans e)
 |_=>exact nn e
theorem GR{f:Nat->β}{d:β}(e:Io hi f d=some r)(vl:VR S.fa as T hi wl)(n:Nat)(hd:f n=d)(zk:∀(p:Option (Int×Tok)) j,wl=partValue p->kms_hi (p.map (·.1)) n=min j n->f j=r->zg):zg:=by
  induction hi using V.casesOn with
 |none=>exact zk none n (jG vl) (Nat.min_self n).symm (hd.trans (cj e))
 |int i=>
   obtain⟨h,e⟩:=cT e
   obtain⟨u,hu⟩:=EC vl
   exact zk (some (i,u)) i.toNat hu (if_neg (Int.not_lt.mpr h)) e
 |_=>exact nn e
end
theorem vy{x:List Nat}{lo hi st:V}{t:List Nat}{wa wl wu wt:Value}{sl:Addr}(ht:Ec x lo hi st=some t)(hr:HR S as T H s.heap)(va:VR S.fa as T (.str x) wa)(vl:VR S.fa as T lo wl)(vu:VR S.fa as T hi wu)(vt:VR S.fa as T st wt)
  (fE:s.heap.IsSliceOf sl wl wu wt) (q:dz S as T s H (.str t) Q):wpAny (model S.prog S.w) A (getItem wa (.ref sl)) Q E s:=by
 obtain⟨hn,ht⟩:=ji ht
 have hw:=jG (hn▸vt)
 refine I6 ht vl x.length λp i hl h1 e1=>GR e1 vu x.length (by rw[List.take_length]) λp2 j hu h2 e2=>d6 va λtk hz=>?_
 rw[hl,hu,hw] at fE
 exact str_slice (lo:=p) (hi:=p2) fE hz h1 h2 λt' k=>q.tok hr (e2▸.str _ _ (bv (so x i j).length_le hz)) k
theorem tK(ws:List Value){j:Int}(hj:0<=j):kms_pick ws none (some j)=ws.take j.toNat:=by
 show(ws.drop 0).take (kms_hi (some j) ws.length-0)=_
 rw[Nat.sub_zero,show kms_hi (some j) ws.length=min j.toNat ws.length from if_neg (Int.not_lt.mpr hj),List.drop_zero,← List.take_eq_take_min]
theorem tL{l:List V}{ws:List Value}(hr:HR S as T H s.heap)(hv:br S.fa as T l ws)(hl:l.length<=lim)(q:dz S as T s (H++[.list l]) (.loc H.length) Q):Q (.ref s.heap.objs.size) { s with heap:=s.heap.push { cls:=.type "list",data:=.seq ws.toArray } }:=
 pn hr (b8 (lst _ 0)) (Heap.get?_push_size _ rfl) hv hl q s.toks
theorem tM{l t:List V}{a:Addr}{ws:List Value}{lo hi st:V}{wl wu wt:Value}{sl:Addr}(ht:Eb l lo hi st=some t)(hr:HR S as T H s.heap)(hL:s.heap.IsList a ws.toArray)(hz:l.length<=lim)(hv:br S.fa as T l ws)(vl:VR S.fa as T lo wl)(vu:VR S.fa as T hi wu)(vt:VR S.fa as T st wt)
    (fE:s.heap.IsSliceOf sl wl wu wt) (q:dz S as T s (H++[.list t]) (.loc H.length) Q):wpAny (model S.prog S.w) A (getItem (.ref a) (.ref sl)) Q E s:=by
  have Tm:ws.toArray.size<=sizeLine:=by rw[fW,hv.length];exact dJ hz
  have fin:∀{lo hi st:Option Int}{t':List V}{ws':List Value},IsPart wl lo->IsPart wu hi->IsPart wt st->st≠some 0->slicePick ws.toArray lo hi st=ws'.toArray->br S.fa as T t' ws'->t'.length<=lim->t'=t->wpAny (model S.prog S.w) A (getItem (.ref a) (.ref sl)) Q E s:=
    λp1 p2 p3 h0 hp v hl e=>wpAny_getItem_list_slice hL fE p1 p2 p3 h0 (hp▸tL hr (e▸v) (e▸hl) q) Tm
  obtain⟨hn,ht⟩:=ji ht
  have hw:IsPart wl none:=jG (hn▸vl)▸.none
  induction hi using V.casesOn with
 |none=>
    refine eX ht vt λk vt e=>?_
    obtain⟨hk,e2⟩:=cT e
    exact fin hw (jG vu▸.none) (dc (hk▸vt:VR S.fa as T (.int (-1)) wt) λu=>.int _ u) (by simp) (krv_pick _) hv.reverse (by rw[lI];exact hz) e2
 |int j=>
    have p2:IsPart wu (some j):=dc vu λu=>.int j u
    induction st using V.casesOn with
   |none=>
     obtain⟨hj,e⟩:=cT ht
     exact fin hw p2 (jG vt▸.none) (by simp) ((kms_pick_eq ..).trans (congrArg _ (tK ws hj))) (hv.take _) (bv (DW ..) hz) e
   |int k=>
     obtain⟨⟨hj,hk⟩,e⟩:=cT ht
     exact fin hw (hj▸p2) (dc (hk▸vt:VR S.fa as T (.int (-1)) wt) λu=>.int _ u) (by simp) slice_list (hv.drop 1).reverse (by rw[lI,rd];exact bv (Nat.sub_le ..) hz) e
   |_=>exact nn ht
 |_=>exact nn ht
theorem tP{a:Addr}{ws:List Value}(hL:s.heap.IsList a ws.toArray):Sub s (.ref a):=by
 obtain⟨o,g1,g2,_⟩:=hL;exact⟨_,_,⟨_,g1,g2⟩,PySem.slot_list_getitem.lookup⟩
theorem GS{a lo hi st r:V}{wa wl wu wt:Value}{sl:Addr}(e:mL a lo hi st H=some (r,H'))(hr:HR S as T H s.heap)(va:VR S.fa as T a wa)(vl:VR S.fa as T lo wl)(vu:VR S.fa as T hi wu)(vt:VR S.fa as T st wt)
   (fE:s.heap.IsSliceOf sl wl wu wt) (q:dz S as T s H' r Q):Sub s wa/\wpAny (model S.prog S.w) A (getItem wa (.ref sl)) Q E s:=by
  induction a using V.casesOn with
 |str x=>exact bK e λt ht he=>⟨d6 va λtk hz=>⟨_,_,rfl,PySem.F.slot_str_getitem.lookup⟩,vy ht hr va vl vu vt fE (q.of he)⟩
 |ro l=>
   obtain⟨hn,e1⟩:=ji e
   obtain⟨GU,e2⟩:=ji e1
   refine eX e2 vu λj vu e3=>Tk va λa ws tt hz hv=>?_
   obtain⟨hj,he⟩:=cT e3
   have hL:s.heap.IsList a ws.toArray:=hr.im _ _ tt
   refine⟨tP hL,wpAny_getItem_list_slice hL fE (jG (hn▸vl)▸IsPart.none) (dc (P:=λw=>IsPart w (some j)) vu λu=>.int j u) (jG (GU▸vt)▸IsPart.none) (by simp) ?_ (by rw[fW,hv.length];exact dJ hz)⟩
   rw[kms_pick_eq,List.toList_toArray,tK ws hj]
   exact tL hr (hv.take _) (bv (DW ..) hz) (q.of he)
 |loc n=>
   refine bj e λl hl e1=>bK e1 λt ht he=>eY hr hl va λa ws hL hz hv=>?_
   exact⟨tP hL,tM ht hr hL hz hv vl vu vt fE (q.of he)⟩
 |_=>exact nn e
end
end Mine
namespace Mine
structure Ah(A:Around)(d:Nat):Prop where
 handled:A.handled=none
 depth:A.depth+4*d+6<=1000
 units:A.units+32*d+180<=9900
theorem gh.c{A:Around}{d:Nat}(x:gh A d):Ah A d:=⟨x.handled,by have:=x.depth;exact nt (aj [_,_] (.d (.a (.a ab (.m 4 af)) (.n 8)) (.n 1000) (.d (.s (.n 1000)) (.a (.a ab (.m 4 af)) (.n 6)) .z)) rfl this),by have:=x.units;exact nt (aj [_,_] (.d (.a (.a ab (.m 32 af)) (.n 200)) (.n 9900) (.d (.s (.n 9900)) (.a (.a ab (.m 32 af)) (.n 180)) .z)) rfl this)⟩
theorem gh.u{A:Around}{d:Nat}(x:gh A d):A.units+64<cLine:=by
 have:=x.units
 show A.units+64<9900
 exact nl (aj [_,_] (.d (.a (.a ab (.m 32 af)) (.n 200)) (.n 9900) (.d (.n 9900) (.a ab (.n 64)) .z)) rfl this)
noncomputable def ft(S:b0)(call:bT)(d:Nat):Prop:=∀{k:Nat}{vs:List V}{H H':Hp}{v:V},call k vs H=some (v,H') ->
 ∀{A:Around}{s:Shared}{as:As}{T:TS}{R:Result->Shared->Prop}{a:Addr}{ws:List Value},Ah A d->S.fa[k]?=some a->HR S as T H s.heap->br S.fa as T vs ws ->
  dz S as T s H' v (λw s'=>R (.ok (.ret w)) s')->codeAny (model S.prog S.w) A (Code.call (.ref a) { pos:=ws }) R s
section
variable {S:b0}{as aQ:As}{T T1:TS}{H H':Hp}{h h' h1:Heap}{s:Shared}{v:V}{w:Value}{Q:Value->Shared->Prop}{A:Around}{E:Value->Shared->Prop}
theorem Ai(m:BM){zg:Prop}(zk:(PlainAttrs (Ad m))->(Slot (Ad m) (o9 m) (Ae m))->(typeOf (.builtin (Ae m))=pure (.type "method_descriptor"))->zg):zg:=by
 obtain⟨cR,cX,io⟩:PlainAttrs (Ad m)/\Slot (Ad m) (o9 m) (Ae m)/\typeOf (.builtin (Ae m))=pure (.type "method_descriptor"):=by
  cases m
  ·exact⟨DX,PySem.F.slot_list_append,PySem.F.type_list_append⟩
  ·exact⟨DX,PySem.F.slot_list_pop,PySem.F.type_list_pop⟩
  ·exact⟨DX,PySem.F.slot_list_extend,PySem.F.type_list_extend⟩
  ·exact⟨DX,PySem.F.slot_list_reverse,PySem.F.type_list_reverse⟩
  ·exact⟨ze,PySem.F.slot_str_join,PySem.F.type_str_join⟩
  ·exact⟨ze,PySem.F.slot_str_replace,PySem.F.type_str_replace⟩
  ·exact⟨ze,PySem.F.slot_str_startswith,PySem.F.type_str_startswith⟩
  ·exact⟨ze,PySem.F.slot_str_lstrip,PySem.F.type_str_lstrip⟩
  ·exact⟨ze,PySem.F.slot_str_split,PySem.F.type_str_split⟩
  ·exact⟨PySem.F.plainAttrs_dict,PySem.F.slot_dict_get,PySem.F.type_dict_get⟩
 exact zk cR cX io
theorem I7{m:BM}{o:V}{wo:Value}(e:vm m o H=true)(hr:HR S as T H s.heap)(vo:VR S.fa as T o wo) :
    s.TypeIs wo (Ad m)/\∀ a,wo=.ref a->∃ ob,s.heap.get? a=some ob/\ob.dict=none:=by
  induction o using V.casesOn with
 |str s=>
    refine d6 vo λt _=>?_
    induction m <;> first|exact ff e|exact⟨rfl,λa q=>by cases q⟩
 |loc n=>
    have e:(match H[n]? with
     |some (.list _)=>(match (generalizing:=false) m with|.append=>true|.pop=>true|.extend=>true|.reverse=>true|_=>false)
     |some (.dict _)=>(match (generalizing:=false) m with|.get=>true|_=>false)
     |_=>false)=true:=e
    cases h:H[n]? with
   |none=>rw[h] at e;exact ff e
   |some ob=>
      rw[h] at e
      induction ob with
     |list l=>
       refine hr.eY h vo λa ws k hp e1 hz hv=>?_
       induction m <;> first|exact ff e|exact⟨⟨_,e1,rfl⟩,λb q=>by cases q;exact⟨_,e1,rfl⟩⟩
     |dict es=>
       refine hr.Ey h vo λa ds hp e1 hz hv=>?_
       obtain⟨ob,GL,ep,g,x,_⟩:=e1
       induction m <;> first|exact ff e|exact⟨⟨_,g,x.1⟩,λb q=>by cases q;exact⟨_,g,x.2.1⟩⟩
     |_=>exact ff e
 |_=>exact ff e
end
end Mine
namespace Mine
noncomputable def rD(S:b0)(as:As)(T:TS)(s:Shared)(H':Hp)(b:Bool)(Q:Bool->Shared->Prop):Prop:=
 ∀ h' tk as' T',Ext Nil as T s.heap as' T' h'->HR S as' T' H' h'->Q b { s with heap:=h',toks:=tk }
noncomputable def EJ(S:b0)(as:As)(T:TS)(s:Shared)(H':Hp)(vs:List V)(Q:List Value->Shared->Prop):Prop:=
 ∀ ws h' tk as' T',Ext Nil as T s.heap as' T' h'->HR S as' T' H' h'->br S.fa as' T' vs ws->Q ws { s with heap:=h',toks:=tk }
noncomputable def bu(S:b0)(call:bT)(d:Nat)(e:ME):Prop:=∀{l:Lo}{H H':Hp}{v:V},av S.P call e l H=some (v,H') ->
 ∀{nm:bn}{sl:Sl}{x:Expr}{s:Shared}{as:As}{T:TS}{env:Env}{A:Around}{E Q:Value->Shared->Prop},gh A d->aL S.G e nm sl x=true->ER S as T env nm sl l s.heap->HR S as T H s.heap ->
  dz S as T s H' v Q->wpAny (model S.prog S.w) A (eval x env) Q E s
noncomputable def lY(S:b0)(call:bT)(d:Nat)(e:ME):Prop:=∀{l:Lo}{H H':Hp}{b:Bool},av S.P call e l H=some (.bool b,H') ->
 ∀{nm:bn}{sl:Sl}{x:Expr}{s:Shared}{as:As}{T:TS}{env:Env}{A:Around}{E:Value->Shared->Prop}{Q:Bool->Shared->Prop},gh A d->aL S.G e nm sl x=true->ER S as T env nm sl l s.heap->HR S as T H s.heap ->
  rD S as T s H' b Q->wpAny (model S.prog S.w) A (PySem.isTrue x env (eval x env)) Q E s
noncomputable def lZ(S:b0)(call:bT)(d:Nat)(es:List ME):Prop:=∀{l:Lo}{H H':Hp}{vs:List V},ek S.P call es l H=some (vs,H') ->
 ∀{nm:bn}{sl:Sl}{xs:List Expr}{s:Shared}{as:As}{T:TS}{env:Env}{A:Around}{E:Value->Shared->Prop}{Q:List Value->Shared->Prop}{pos:Pos},gh A d->fg S.G es nm sl xs=true->ER S as T env nm sl l s.heap->HR S as T H s.heap ->
  EJ S as T s H' vs Q->wpAny (model S.prog S.w) A (spliced (backTo pos (starEach xs env))) Q E s
section
variable {S:b0}{call:bT}{d:Nat}
theorem rD.from{as aQ:As}{T T1:TS}{s:Shared}{H':Hp}{h1:Heap}{b:Bool}{Q:Bool->Shared->Prop}{tk:Tok}(k:rD S as T s H' b Q)(e:Ext Nil as T s.heap aQ T1 h1):rD S aQ T1 { s with heap:=h1,toks:=tk } H' b Q:=
 λh' tA as' T' e' hr=>k h' tA as' T' (e.trans e') hr
theorem EJ.from{as aQ:As}{T T1:TS}{s:Shared}{H':Hp}{h1:Heap}{vs:List V}{Q:List Value->Shared->Prop}{tk:Tok}(k:EJ S as T s H' vs Q)(e:Ext Nil as T s.heap aQ T1 h1):EJ S aQ T1 { s with heap:=h1,toks:=tk } H' vs Q:=
 λw h' tA as' T' e' hr vr=>k w h' tA as' T' (e.trans e') hr vr
theorem GW{e:ME}{x:Expr}{l:Lo}{H H':Hp}{b:Bool}{nm:bn}{sl:Sl}{s:Shared}{as:As}{T:TS}{env:Env}{A:Around}{E:Value->Shared->Prop}{Q:Bool->Shared->Prop}
  (he:PySem.isTrue x env (eval x env)=(do let v ← eval x env;standAt x.pos;holding [v] (truthy v))) (h:bu S call d e) (e1:av S.P call e l H=some (.bool b,H')) (ao:gh A d) (c:aL S.G e nm sl x=true)
  (er:ER S as T env nm sl l s.heap) (hr:HR S as T H s.heap) (q:rD S as T s H' b Q):wpAny (model S.prog S.w) A (PySem.isTrue x env (eval x env)) Q E s:=by
 refine wpAny_isTrue_value (h e1 ao c er hr λw h' tk as' T' x' eo vr=>?_) he
 cases kE vr
 exact wpAny_truthy_bool (q h' tk as' T' x' eo)
theorem pq{x:Expr}(h:notStar x=true)(rest:List Expr)(env:Env):starEach (x::rest) env=(false,eval x env)::starEach rest env:=by
 induction x using PySem.Expr.casesOn <;> first|rfl|exact ff h
noncomputable def noStar:List Expr->Bool
 |[]=>true
 |x::r=>notStar x&&noStar r
theorem mS :noStar ([])=(true):=rfl
theorem mT{x r}:noStar (x::r)=(notStar x&&noStar r):=rfl
theorem fu{G:Str->Option GV}{nm:bn}{sl:Sl}:∀{es:List ME}{xs:List Expr},fg G es nm sl xs=true->noStar xs=true
 |[],[],_=>rfl
 |[],_::_,h=>ff h
 |_::_,[],h=>ff h
 |e::r,x::ys,h=>by
  simp only[fh,fj,cJ] at h
  simp only[mS,mT,h.1.1,fu h.2,Bool.and_self]
theorem iM{pos:Pos}{env:Env}:∀{xs:List Expr},noStar xs=true->(backTo pos (starEach xs env)).any (·.1)=false
 |[],_=>rfl
 |x::r,h=>by
  simp only[mS,mT,cJ] at h
  rw[pq h.1]
  show(false || (backTo pos (starEach r env)).any (·.1))=false
  rw[iM h.2];rfl
theorem tQ{M:Model}{A:Around}{E:Value->Shared->Prop}{s:Shared}{env:Env}{pos:Pos}{f:Value}{xs:List Expr}{Q:Args->Shared->Prop}(h:noStar xs=true)
   (k:wpAny M A (spliced (backTo pos (starEach xs env))) (λvs s'=>Q { pos:=vs } s') E s):wpAny M A (evalArgs f true (backTo pos (starEach xs env)) []) Q E s:=by
  induction xs using List.casesOn with
 |nil=>exact wpAny_bind (m:=spliced []) (wpAny_mono k (λvs s' h'=>wpAny_bind (wpAny_pure (wpAny_holding (wpAny_bind (wpAny_pure (wpAny_pure h'))))) ) λ_ _ x=>x)
 |cons x r=>
   simp only[mS,mT,cJ] at h
   rw[pq h.1] at k ⊢
   exact Calls.evalArgs_plain k
theorem md{P:Pg}{call:bT}:∀{es:List ME}{l:Lo}{H H':Hp}{vs:List V},ek P call es l H=some (vs,H')->vs.length=es.length
 |[],_,_,_,_,e=>by rw[Iu] at e;cases e;rfl
 |_::r,_,_,_,_,e=>by
  rw[Iv] at e
  refine aw e λa H1 e1 e=>?_
  refine aw e λb H2 e2 e=>?_
  cases e
  rw[c9,md e2,c9]
theorem Qi:lZ S call d []:=by
  intro l H H' vs e nm sl xs s as T env A E Q pos ao c er hr q
  rw[Iu] at e;cases e
  induction xs using List.casesOn with
 |nil=>exact spliced_none (q [] s.heap s.toks as T (.refl ..) hr .nil)
 |cons=>simp[fh,fj] at c
theorem Mk{e:ME}{r:List ME}(he:bu S call d e)(hl:lZ S call d r):lZ S call d (e::r):=by
  intro l H H' vs e nm sl xs s as T env A E Q pos ao c er hr q
  rw[Iv] at e
  refine aw e λa H1 e1 e=>?_
  refine aw e λb H2 e2 e=>?_
  cases e
  induction xs using List.casesOn with
 |nil=>simp[fh,fj] at c
 |cons x ys=>
   simp only[fh,fj,cJ] at c
   refine spliced_more (he e1 ao c.1.2 er hr λwa h1 dm aQ T1 x1 aO ra=>?_) (pq c.1.1 _ _)
   exact hl e2 ao c.2 (er.ext x1) aO λws h2 ix iu T2 x2 bL rb=>q _ _ _ _ _ (x1.trans x2) bL (.cons (ra.mono x2.mono) rb)
theorem Qj:bu S call d .bad:=λe=>nn e
theorem I8{u:V}:bu S call d (.lit u):=by
  intro l H H' v e nm sl x s as T env A E Q ao c er hr q
  obtain⟨rfl,rfl⟩:=Ev e
  refine vW c λk y z c1=>?_
  induction u using V.casesOn with
 |none=>induction k with
   |none=>exact PyProof.Rows.Constant_none (q.now hr .none)
   |_=>exact ff c1
 |bool a=>induction k with
   |bool b=>cases beq_iff_eq.mp c1;exact PyProof.Rows.Constant_bool (q.now hr (.bool _))
   |_=>exact ff c1
 |int a=>induction k with
   |int b=>cases beq_iff_eq.mp c1;exact wpAny_Constant_int (q.tok hr (.int _ _) _)
   |_=>exact ff c1
 |str a=>induction k with
   |str b=>
    obtain⟨c2,c3⟩:=ai c1
    have:=beq_iff_eq.mp c2
    subst this
    exact PySem.wpAny_Constant_str (q.tok hr (.str b.cps.toList s.toks (by have:=of_decide_eq_true c3;unfold lim;exact nt (aj [_] (.d ab (.n 1000) (.d (.s (.n 1048576)) ab .z)) rfl this))) _)
   |_=>exact ff c1
 |_=>exact ff c1
theorem I9{i:Nat}:bu S call d (.loc i):=by
 intro l H H' v e nm sl x s as T env A E Q ao c er hr q
 obtain⟨hu,rfl⟩:=L0 e
 refine vX c λn p c1=>?_
 exact Gy er c1 hu λw vr=>q.now hr vr
mutual
theorem wF:∀{u v:V},B8 u v=true->u=v
 |.none,v,h=>by induction v using V.casesOn with
  |none=>rfl
  |_=>exact ff h
 |.bool a,v,h=>by induction v using V.casesOn with
  |bool b=>rw[beq_iff_eq.mp h]
  |_=>exact ff h
 |.int a,v,h=>by induction v using V.casesOn with
  |int b=>rw[beq_iff_eq.mp h]
  |_=>exact ff h
 |.str a,v,h=>by induction v using V.casesOn with
  |str b=>rw[beq_iff_eq.mp h]
  |_=>exact ff h
 |.fn a,v,h=>by induction v using V.casesOn with
  |fn b=>rw[beq_iff_eq.mp h]
  |_=>exact ff h
 |.tup a,v,h=>by induction v using V.casesOn with
  |tup b=>rw[tS (u:=a) (v:=b) h]
  |_=>exact ff h
 |.loc _,v,h=>by induction v using V.casesOn <;> exact ff h
 |.cQ _ _ _,v,h=>by induction v using V.casesOn <;> exact ff h
 |.ro _,v,h=>by induction v using V.casesOn <;> exact ff h
theorem tS:∀{u v:List V},xu u v=true->u=v
 |[],v,h=>by induction v using List.casesOn with
  |nil=>rfl
  |cons=>exact ff h
 |a::r,v,h=>by induction v using List.casesOn with
  |nil=>exact ff h
  |cons b t=>rw[wF (ai h).1,tS (ai h).2]
end
theorem EK(C:Cx S){u:V}:bu S call d (.glob u):=by
  intro l H H' v e nm sl x s as T env A E Q ao c er hr q
  obtain⟨rfl,rfl⟩:=IN e
  refine s8 c λn p c0=>?_
  refine hU c0 λhn g hg c1=>?_
  induction g with
 |fn k=>
    induction u using V.casesOn with
   |fn j=>
     cases beq_iff_eq.mp c1
     obtain⟨a,ha,hv⟩:=C.VK _ _ hg
     exact kB C er hr hn hv (q.now hr (.fn ha))
   |_=>exact ff c1
 |val u'=>
    cases wF c1
    obtain⟨w,hw,vr⟩:=C.S5 _ _ hg
    exact kB C er hr hn hw (q.now hr (vr.mono ⟨λ_ _ e=>by simp at e,hr.t0⟩))
 |_=>exact ff c1
theorem Ja{es:List ME}(hl:lZ S call d es):bu S call d (.tup es):=by
 intro l H H' v e nm sl x s as T env A E Q ao c er hr q
 refine Gh e λvs e1 Qk=>?_
 subst Qk
 refine vY c λxs k p Aj c2=>?_
 refine wpAny_Tuple_spliced (hl e1 ao c2 er hr λws h1 dm aQ T1 x1 aO ra=>⟨?_,?_⟩)
 ·rw[ra.length,md e1];exact bv Aj (by decide)
 ·refine rA aO ra (by rw[md e1];exact bv Aj (by decide)) λT2 x2 bL vr=>?_
  exact q _ _ _ _ _ (x1.trans x2) bL vr
theorem Jb{es:List ME}(hl:lZ S call d es):bu S call d (.lst es):=by
 intro l H H' v e nm sl x s as T env A E Q ao c er hr q
 refine Gi e λvs H1 e1 Ql=>?_
 subst Ql
 intro Qm
 subst Qm
 refine vZ c λxs p Aj c2=>?_
 refine wpAny_List_spliced (hl e1 ao c2 er hr λws h1 dm aQ T1 x1 aO ra=>⟨?_,?_⟩)
 ·rw[ra.length,md e1];exact bv Aj (by decide)
 ·refine xG aO ra (by rw[md e1];exact bv Aj (by decide)) λx2 bL vr=>?_
  exact q _ _ _ _ _ (x1.trans x2) bL vr
theorem tT{o:Expr}(h:dI o=true)(a:Str)(env:Env)(m:Sem Value):attributeBase o a env m=m:=by
  induction o using PySem.Expr.casesOn with
 |Call f xs ks p=>induction f using PySem.Expr.casesOn with
   |Name=>induction xs using List.casesOn with
    |nil=>induction ks using List.casesOn with
     |nil=>exact ff h
     |cons=>rfl
    |cons=>rfl
   |_=>rfl
 |_=>rfl
theorem EL(C:Cx S){o:ME}{a:Nat}(ho:bu S call d o):bu S call d (.attr o a):=by
 intro l H H' v e nm sl x s as T env A E Q ao c er hr q
 refine Ch e λov e1 hu=>?_
 refine s9 c λy p c2 c3 c4=>?_
 refine Attribute_any_ (ho e1 ao c4 er hr λwa h1 dm aQ T1 x1 aO ra=>?_) ?_
 ·exact zW C aO ra hu λu tk vr=>q _ _ _ _ _ x1 aO vr
 ·show(do
   let o ← attributeBase y (dY a) env (eval y env)
   standAt (Pos.atName p)
   let r ← holding [o] (getAttr o (dY a) true)
   letTemporaryGo y o r
   pure r)=_
  rw[tT c3]
theorem CF{x:Expr}(h:isSlice x=false)(o i:Value):subscripted x false o i=operate [o,i] (getItem o i):=by
 induction x using PySem.Expr.casesOn <;> first|rfl|cases h
theorem Jc{o i:ME}(ho:bu S call d o)(hi:bu S call d i):bu S call d (.idx o i):=by
 intro l H H' v e nm sl x s as T env A E Q ao c er hr q
 refine Gj e λov H1 iv e1 e2 hu=>?_
 refine v6 c λy sb p c1 c2 c3=>?_
 refine Subscript_ (ho e1 ao c2 er hr λwa h1 dm aQ T1 x1 aO ra=>?_)
 refine hi e2 ao c3 (er.ext x1) aO λwb h2 ix iu T2 x2 bL rb=>?_
 obtain⟨⟨Ty,id,t1,t2⟩,k⟩:=Mb (s:={ s with heap:=h2,toks:=ix }) (E:=E) (A:=A) (Q:=Q) hu bL (ra.mono x2.mono) rb λu tk vr=>q _ _ _ _ _ (x1.trans x2) bL vr
 exact tail_any t1 t2 k (CF c1 _ _)
theorem CG{l u st:Option Expr}{p:Pos}(o i:Value):∃ ops,subscripted (.Slice l u st p) false o i=operate ops (getItem o i):=by
  induction st with
 |none=>exact⟨_,rfl⟩
 |some _=>exact⟨_,rfl⟩
theorem tU{m:ME}(hm:bu S call d m){l:Lo}{H H':Hp}{v:V}(e:av S.P call m l H=some (v,H')){nm:bn}{sl:Sl}{x:Option Expr}{s:Shared}{as:As}{T:TS}{env:Env}{A:Around}{E Q:Value->Shared->Prop}(ao:gh A d)
   (c:xA S.G nm sl m x=true) (er:ER S as T env nm sl l s.heap) (hr:HR S as T H s.heap) (q:dz S as T s H' v Q):wpAny (model S.prog S.w) A (evalPart x env) Q E s:=by
  induction x with
 |none=>
   have:m=.lit .none:=by
     have c:gf m=true:=c
     induction m using ME.casesOn with
    |lit v=>induction v using V.casesOn with
      |none=>rfl
      |_=>exact ff c
    |_=>exact ff c
   subst this
   obtain⟨rfl,rfl⟩:=Ev e
   exact wpAny_evalPart_none (q.now hr .none)
 |some y=>exact wpAny_evalPart_some (hm e ao (ai c).1 er hr q)
theorem Ak{o lo hi st:ME}(ho:bu S call d o)(h1:bu S call d lo)(h2:bu S call d hi)(h3:bu S call d st):bu S call d (.slice o lo hi st):=by
 intro l H H' v e nm sl x s as T env A E Q ao c er hr q
 refine zQ e λov H1 lv H2 uv H3 tv H4 e1 e2 e3 e4 e=>?_
 refine rx c λxx l0 u0 s0 p0 p1 c1 c2 c3 c4=>?_
 refine Subscript_ (ho e1 ao c1 er hr λwa g1 dm aQ T1 x1 aO ra=>?_)
 refine wpAny_Slice (tU h1 e2 ao c2 (er.ext x1) aO λwl g2 ix iu T2 x2 bL rl=>?_)
 refine tU h2 e3 ao c3 ((er.ext x1).ext x2) bL λwu g3 rN pt T3 x3 fR ru=>?_
 refine tU h3 e4 ao c4 (((er.ext x1).ext x2).ext x3) fR λwt g4 Qn To T4 x4 Jd rt=>?_
 have kp:=b8 (h:=g4) { cls:=Value.type "slice",data:=Data.fields #[wl,wu,wt] }
 have Tp:=x4.mono
 have Tq:=x3.mono.trans Tp
 obtain⟨⟨Ty,id,t1,t2⟩,k⟩:=GS (s:={ s with heap:=g4.push { cls:=Value.type "slice",data:=Data.fields #[wl,wu,wt] },toks:=Qn }) (E:=E) (A:=A) (Q:=Q) (sl:=g4.objs.size) e (Jd.keep kp)
  (ra.mono (x2.mono.trans Tq)) (rl.mono Tq) (ru.mono Tp) rt ⟨_,Heap.get?_push_size _ rfl,rfl,rfl⟩ λw h' tk as' T' x' eo vr=>q _ _ _ _ _ ((((x1.trans x2).trans x3).trans x4).trans ((Ext.keep kp).trans x')) eo vr
 obtain⟨ops,hs⟩:=CG _ _
 exact tail_any t1 t2 k hs
theorem Je{op:jO}{a b:ME}(ha:bu S call d a)(hb:bu S call d b):bu S call d (.bin op a b):=by
 intro l H H' v e nm sl x s as T env A E Q ao c er hr q
 refine Gk e λva H1 vb H2 e1 e2 e=>?_
 refine v7 c λy o z p c1 c2 c3=>?_
 refine PySem.wpAny_BinOp (ha e1 ao c2 er hr λwa h1 dm aQ T1 x1 aO ra=>?_)
 refine hb e2 ao c3 (er.ext x1) aO λwb h2 ix iu T2 x2 bL rb=>?_
 exact L8 e c1 bL (ra.mono x2.mono) rb ((q.from x1).from x2)
theorem Jf{a:ME}(ha:bu S call d a):bu S call d (.neg a):=by
 intro l H H' v e nm sl x s as T env A E Q ao c er hr q
 refine Gl e λi e1 Qo=>?_
 subst Qo
 refine v9 c λy p c1=>?_
 refine PySem.wpAny_UnaryOp (ha e1 ao c1 er hr λwa h1 dm aQ T1 x1 aO ra=>?_)
 obtain⟨t,rfl⟩:=EC ra
 exact neg_int (q _ _ _ _ _ x1 aO (.int _ _))
theorem Qp{a:ME}(ha:bu S call d a):bu S call d (.not a):=by
 intro l H H' v e nm sl x s as T env A E Q ao c er hr q
 refine wq e λb e1 Qq=>?_
 subst Qq
 refine wd c λy p c1=>?_
 refine PySem.wpAny_UnaryOp (ha e1 ao c1 er hr λwa h1 dm aQ T1 x1 aO ra=>?_)
 cases kE ra
 exact not_of (wpAny_truthy_bool (q _ _ _ _ _ x1 aO (.bool _)))
theorem Qr{a:ME}(ha:lY S call d a):lY S call d (.not a):=by
 intro l H H' v e nm sl x s as T env A E Q ao c er hr q
 refine wq e λb' e1 hb=>?_
 cases hb
 refine wd c λy p c1=>?_
 exact isTrue_not (ha e1 ao c1 er hr q)
theorem mU{x:Expr}(h:gg x=true)(op:CmpOp):behindInMarks op x=false:=by
 induction x using PySem.Expr.casesOn <;> first|rfl|exact ff h
theorem OH{a b:ME}{op:lw}(ha:bu S call d a)(hb:bu S call d b){l:Lo}{H H':Hp}{v:V}(e:av S.P call (.cmp op a b) l H=some (v,H')){nm:bn}{sl:Sl}{x y:Expr}{o:CmpOp}{s:Shared}{as:As}{T:TS}{env:Env}{A:Around}{E Q:Value->Shared->Prop}
  (ao:gh A d) (c0:lS op o=true) (c1:aL S.G a nm sl x=true) (c2:aL S.G b nm sl y=true) (er:ER S as T env nm sl l s.heap) (hr:HR S as T H s.heap) (q:dz S as T s H' v Q) :
  wpAny (model S.prog S.w) A (eval x env) (λa s₁=>wpAny (model S.prog S.w) A (eval y env) (λb s₂=>wpAny (model S.prog S.w) A (compareOp o a b) Q E s₂) E s₁) E s:=by
 refine Gm e λva H1 vb H2 r e1 e2 eo e=>?_
 cases e
 refine ha e1 ao c1 er hr λwa h1 dm aQ T1 x1 aO ra=>?_
 refine hb e2 ao c2 (er.ext x1) aO λwb h2 ix iu T2 x2 bL rb=>?_
 exact kG ao.u eo c0 bL (ra.mono x2.mono) rb λtk=>q _ _ _ _ _ (x1.trans x2) bL (.bool _)
theorem Qs{a b:ME}{op:lw}(ha:bu S call d a)(hb:bu S call d b):bu S call d (.cmp op a b):=by
 intro l H H' v e nm sl x s as T env A E Q ao c er hr q
 refine we c λy o z p c1 c2 c3 c4=>?_
 exact PySem.wpAny_Compare1 (OH ha hb e ao c1 c3 c4 er hr q) (mU c2 _)
theorem Qt{a b:ME}{op:lw}(ha:bu S call d a)(hb:bu S call d b):lY S call d (.cmp op a b):=by
 intro l H H' v e nm sl x s as T env A E Q ao c er hr q
 refine we c λy o z p c1 c2 c3 c4=>?_
 refine wpAny_isTrue_Compare1 (OH ha hb e ao c1 c3 c4 er hr λw h' tk as' T' x' eo vr=>?_) (mU c2 _)
 cases kE vr
 exact wpAny_truthy_bool (q _ _ _ _ x' eo)
theorem Ml{a b z:ME}{op jC:lw}(ha:bu S call d a)(hb:bu S call d b)(hz:bu S call d z):bu S call d (.nG op jC a b z):=by
 intro l H H' v e nm sl x s as T env A E Q ao c er hr q
 refine tu e λva H1 vb H2 e1 e2 e=>?_
 refine ta c λy o o' z' w p c1 c2 c3 c4 c5 c6=>?_
 refine Compare_chain (ha e1 ao c4 er hr λwa h1 dm aQ T1 x1 aO ra=>?_) (mU c3 _)
 refine chain_link (hb e2 ao c5 (er.ext x1) aO λwb h2 ix iu T2 x2 bL rb=>?_)
 rcases e with⟨hc,vc,H3,r,e3,eo,e⟩|⟨hc,e⟩
 ·cases e
  refine kG ao.u hc c1 bL (ra.mono x2.mono) rb λtk=>wpAny_truthy_bool ?_
  rw[if_pos rfl]
  refine chain_last (hz e3 ao c6 ((er.ext x1).ext x2) bL λwc h3 rN pt T3 x3 fR rc=>?_)
  exact kG ao.u eo c2 fR (rb.mono x3.mono) rc λtk=>q _ _ _ _ _ ((x1.trans x2).trans x3) fR (.bool _)
 ·cases e
  refine kG ao.u hc c1 bL (ra.mono x2.mono) rb λtk=>wpAny_truthy_bool ?_
  rw[if_neg Bool.false_ne_true]
  exact q _ _ _ _ _ (x1.trans x2) bL (.bool _)
theorem Mm{a b z:ME}{op jC:lw}(ha:bu S call d a)(hb:bu S call d b)(hz:bu S call d z):lY S call d (.nG op jC a b z):=by
 intro l H H' v e nm sl x s as T env A E Q ao c er hr q
 refine tu e λva H1 vb H2 e1 e2 e=>?_
 refine ta c λy o o' z' w p c1 c2 c3 c4 c5 c6=>?_
 refine isTrue_chain (ha e1 ao c4 er hr λwa h1 dm aQ T1 x1 aO ra=>?_) (mU c3 _)
 refine test_link (hb e2 ao c5 (er.ext x1) aO λwb h2 ix iu T2 x2 bL rb=>?_)
 rcases e with⟨hc,vc,H3,r,e3,eo,e⟩|⟨hc,e⟩
 ·cases e
  refine kG ao.u hc c1 bL (ra.mono x2.mono) rb λtk=>wpAny_truthy_bool ?_
  rw[if_pos rfl]
  refine test_last (hz e3 ao c6 ((er.ext x1).ext x2) bL λwc h3 rN pt T3 x3 fR rc=>?_)
  exact kG ao.u eo c2 fR (rb.mono x3.mono) rc λtk=>wpAny_truthy_bool (q _ _ _ _ ((x1.trans x2).trans x3) fR)
 ·cases e
  refine kG ao.u hc c1 bL (ra.mono x2.mono) rb λtk=>wpAny_truthy_bool ?_
  rw[if_neg Bool.false_ne_true]
  exact q _ _ _ _ (x1.trans x2) bL
theorem Qu{t a b:ME}(ht:lY S call d t)(ha:bu S call d a)(hb:bu S call d b):bu S call d (.aB t a b):=by
 intro l H H' v e nm sl x s as T env A E Q ao c er hr q
 obtain⟨H1,e⟩:=Ew e
 refine wh c λy z w p c1 c2 c3=>?_
 rcases e with⟨e1,e⟩|⟨e1,e⟩
 ·exact IfExp_ (ht e1 ao c1 er hr λh1 dm aQ T1 x1 aO=>ha e ao c2 (er.ext x1) aO (q.from x1))
 ·exact IfExp_ (ht e1 ao c1 er hr λh1 dm aQ T1 x1 aO=>hb e ao c3 (er.ext x1) aO (q.from x1))
theorem Qv{t a b:ME}(ht:lY S call d t)(ha:lY S call d a)(hb:lY S call d b):lY S call d (.aB t a b):=by
 intro l H H' v e nm sl x s as T env A E Q ao c er hr q
 obtain⟨H1,e⟩:=Ew e
 refine wh c λy z w p c1 c2 c3=>?_
 rcases e with⟨e1,e⟩|⟨e1,e⟩
 ·exact isTrue_IfExp (ht e1 ao c1 er hr λh1 dm aQ T1 x1 aO=>ha e ao c2 (er.ext x1) aO (q.from x1))
 ·exact isTrue_IfExp (ht e1 ao c1 er hr λh1 dm aQ T1 x1 aO=>hb e ao c3 (er.ext x1) aO (q.from x1))
end
end Mine
namespace Mine
section
variable {S:b0}{call:bT}{d:Nat}
noncomputable def eI(S:b0)(call:bT)(d:Nat):List ME->Prop
 |[]=>True
 |e::r=>bu S call d e/\lY S call d e/\eI S call d r
theorem and_bool{P:Pg}:∀{es:List ME}{l:Lo}{H H':Hp}{v:V},jD P call es l H=some (v,H')->∃ b,v=.bool b
 |[],_,_,_,_,e=>by rw[sS] at e;cases e;exact⟨_,rfl⟩
 |_::r,_,_,_,_,e=>by
  rw[sT] at e
  refine aw e λa H1 e1 e=>?_
  split at e
  ·exact and_bool e
  ·cases e;exact⟨_,rfl⟩
  ·cases e
theorem EM:∀{es:List ME},eI S call d es->∀{l:Lo}{H H':Hp}{v:V},jD S.P call es l H=some (v,H') ->
   ∀⦃nm:bn⦄⦃sl:Sl⦄⦃xs:List Expr⦄⦃s:Shared⦄⦃as:As⦄⦃T:TS⦄⦃env:Env⦄⦃A:Around⦄⦃E Q:Value->Shared->Prop⦄⦃pos:Pos⦄,gh A d->fg S.G es nm sl xs=true->xs≠[]->ER S as T env nm sl l s.heap->HR S as T H s.heap ->
   dz S as T s H' v Q->wpAny (model S.prog S.w) A (eval (.BoolOp .And xs pos) env) Q E s
 |[],_,_,_,_,_,e=>by
   intro nm sl xs s as T env A E Q pos ao c be er hr q
   induction xs using List.casesOn with
  |nil=>exact absurd rfl be
  |cons=>simp[fh,fj] at c
 |e0::r,hA,_,_,_,_,e=>by
   intro nm sl xs s as T env A E Q pos ao c be er hr q
   obtain⟨he,_,eo⟩:=hA
   rw[sT] at e
   refine aw e λa H1 e1 e=>?_
   induction xs using List.casesOn with
  |nil=>exact absurd rfl be
  |cons x ys=>
     simp only[fh,fj,cJ] at c
     induction ys using List.casesOn with
    |nil=>
       refine BoolOp_one (he e1 ao c.1.2 er hr λw h1 dm aQ T1 x1 aO ra=>?_)
       induction r using List.casesOn with
      |cons=>have:=c.2;simp[fh,fj] at this
      |nil=>
        split at e
        ·rw[sS] at e;cases e;exact q _ _ _ _ _ x1 aO ra
        ·cases e;exact q _ _ _ _ _ x1 aO ra
        ·exact nn e
    |cons y zs=>
       refine PyProof.Rows.BoolOp_and (he e1 ao c.1.2 er hr λw h1 dm aQ T1 x1 aO ra=>?_)
       split at e
       ·cases kE ra
        refine wpAny_truthy_bool ?_
        simp only[if_true]
        exact EM eo e ao c.2 (by simp) (er.ext x1) aO (q.from x1)
       ·cases kE ra
        cases e
        refine wpAny_truthy_bool ?_
        simp only[vR,if_false]
        exact q _ _ _ _ _ x1 aO (.bool _)
       ·exact nn e
theorem EN:∀{es:List ME},eI S call d es->∀{l:Lo}{H H':Hp}{b:Bool},jD S.P call es l H=some (.bool b,H') ->
   ∀⦃nm:bn⦄⦃sl:Sl⦄⦃xs:List Expr⦄⦃s:Shared⦄⦃as:As⦄⦃T:TS⦄⦃env:Env⦄⦃A:Around⦄⦃E:Value->Shared->Prop⦄⦃Q:Bool->Shared->Prop⦄⦃pos:Pos⦄⦃whole:Sem Value⦄,gh A d->fg S.G es nm sl xs=true->ER S as T env nm sl l s.heap->HR S as T H s.heap ->
   rD S as T s H' b Q->wpAny (model S.prog S.w) A (PySem.isTrue (.BoolOp .And xs pos) env whole) Q E s
 |[],_,_,_,_,_,e=>by
   intro nm sl xs s as T env A E Q pos whole ao c er hr q
   rw[sS] at e;cases e
   induction xs using List.casesOn with
  |nil=>exact isTrue_and_nil (q s.heap s.toks as T (.refl ..) hr)
  |cons=>simp[fh,fj] at c
 |e0::r,hA,_,_,_,_,e=>by
   intro nm sl xs s as T env A E Q pos whole ao c er hr q
   obtain⟨_,he,eo⟩:=hA
   rw[sT] at e
   refine aw e λa H1 e1 e=>?_
   induction xs using List.casesOn with
  |nil=>simp[fh,fj] at c
  |cons x ys=>
    simp only[fh,fj,cJ] at c
    split at e
    ·exact isTrue_and (he e1 ao c.1.2 er hr λh1 dm aQ T1 x1 aO=>EN eo e ao c.2 (er.ext x1) aO (q.from x1))
    ·cases e
     exact isTrue_and (he e1 ao c.1.2 er hr λh1 dm aQ T1 x1 aO=>q _ _ _ _ x1 aO)
    ·cases e
theorem Jg:∀{es:List ME},eI S call d es->∀{l:Lo}{H H':Hp}{v:V},o6 S.P call es l H=some (v,H') ->
   ∀⦃nm:bn⦄⦃sl:Sl⦄⦃xs:List Expr⦄⦃s:Shared⦄⦃as:As⦄⦃T:TS⦄⦃env:Env⦄⦃A:Around⦄⦃E Q:Value->Shared->Prop⦄⦃pos:Pos⦄,gh A d->fg S.G es nm sl xs=true->xs≠[]->ER S as T env nm sl l s.heap->HR S as T H s.heap ->
   dz S as T s H' v Q->wpAny (model S.prog S.w) A (eval (.BoolOp .Or xs pos) env) Q E s
 |[],_,_,_,_,_,e=>by
   intro nm sl xs s as T env A E Q pos ao c be er hr q
   induction xs using List.casesOn with
  |nil=>exact absurd rfl be
  |cons=>simp[fh,fj] at c
 |e0::r,hA,_,_,_,_,e=>by
   intro nm sl xs s as T env A E Q pos ao c be er hr q
   obtain⟨he,_,eo⟩:=hA
   rw[Ei] at e
   refine aw e λa H1 e1 e=>?_
   induction xs using List.casesOn with
  |nil=>exact absurd rfl be
  |cons x ys=>
     simp only[fh,fj,cJ] at c
     induction ys using List.casesOn with
    |nil=>
       refine BoolOp_one (he e1 ao c.1.2 er hr λw h1 dm aQ T1 x1 aO ra=>?_)
       induction r using List.casesOn with
      |cons=>have:=c.2;simp[fh,fj] at this
      |nil=>
        split at e
        ·rw[Eh] at e;cases e;exact q _ _ _ _ _ x1 aO ra
        ·cases e;exact q _ _ _ _ _ x1 aO ra
        ·exact nn e
    |cons y zs=>
       refine PyProof.Rows.BoolOp_or (he e1 ao c.1.2 er hr λw h1 dm aQ T1 x1 aO ra=>?_)
       split at e
       ·cases kE ra
        refine wpAny_truthy_bool ?_
        simp only[vR,if_false]
        exact Jg eo e ao c.2 (by simp) (er.ext x1) aO (q.from x1)
       ·cases kE ra
        cases e
        refine wpAny_truthy_bool ?_
        simp only[if_true]
        exact q _ _ _ _ _ x1 aO (.bool _)
       ·exact nn e
theorem Jh:∀{es:List ME},eI S call d es->∀{l:Lo}{H H':Hp}{b:Bool},o6 S.P call es l H=some (.bool b,H') ->
   ∀⦃nm:bn⦄⦃sl:Sl⦄⦃xs:List Expr⦄⦃s:Shared⦄⦃as:As⦄⦃T:TS⦄⦃env:Env⦄⦃A:Around⦄⦃E:Value->Shared->Prop⦄⦃Q:Bool->Shared->Prop⦄⦃pos:Pos⦄⦃whole:Sem Value⦄,gh A d->fg S.G es nm sl xs=true->ER S as T env nm sl l s.heap->HR S as T H s.heap ->
   rD S as T s H' b Q->wpAny (model S.prog S.w) A (PySem.isTrue (.BoolOp .Or xs pos) env whole) Q E s
 |[],_,_,_,_,_,e=>by
   intro nm sl xs s as T env A E Q pos whole ao c er hr q
   rw[Eh] at e;cases e
   induction xs using List.casesOn with
  |nil=>exact isTrue_or_nil (q s.heap s.toks as T (.refl ..) hr)
  |cons=>simp[fh,fj] at c
 |e0::r,hA,_,_,_,_,e=>by
   intro nm sl xs s as T env A E Q pos whole ao c er hr q
   obtain⟨_,he,eo⟩:=hA
   rw[Ei] at e
   refine aw e λa H1 e1 e=>?_
   induction xs using List.casesOn with
  |nil=>simp[fh,fj] at c
  |cons x ys=>
    simp only[fh,fj,cJ] at c
    split at e
    ·exact isTrue_or (he e1 ao c.1.2 er hr λh1 dm aQ T1 x1 aO=>Jh eo e ao c.2 (er.ext x1) aO (q.from x1))
    ·cases e
     exact isTrue_or (he e1 ao c.1.2 er hr λh1 dm aQ T1 x1 aO=>q _ _ _ _ x1 aO)
    ·cases e
theorem Qw{es:List ME}(hA:eI S call d es):bu S call d (.and es):=by
 intro l H H' v e nm sl x s as T env A E Q ao c er hr q
 have e:jD S.P call es l H=_:=e
 refine wg c λxs p c1 c2=>?_
 exact EM hA e ao c2 (λhn=>by rw[hn] at c1;exact absurd c1 (by decide)) er hr q
theorem Qx{es:List ME}(hA:eI S call d es):lY S call d (.and es):=by
 intro l H H' v e nm sl x s as T env A E Q ao c er hr q
 have e:jD S.P call es l H=_:=e
 refine wg c λxs p c1 c2=>?_
 exact EN hA e ao c2 er hr q
theorem Ts{es:List ME}(hA:eI S call d es):bu S call d (.or es):=by
 intro l H H' v e nm sl x s as T env A E Q ao c er hr q
 have e:o6 S.P call es l H=_:=e
 refine zK c λxs p c1 c2=>?_
 exact Jg hA e ao c2 (λhn=>by rw[hn] at c1;exact absurd c1 (by decide)) er hr q
theorem Tt{es:List ME}(hA:eI S call d es):lY S call d (.or es):=by
 intro l H H' v e nm sl x s as T env A E Q ao c er hr q
 have e:o6 S.P call es l H=_:=e
 refine zK c λxs p c1 c2=>?_
 exact Jh hA e ao c2 er hr q
theorem qB{S:b0}{K:Frag}{f:Value}{first:List Value}{xs:List Expr}{env:Env}{pos:Pos}{A:Around}{E Q:Value->Shared->Prop}{s:Shared}(hk:keepIn K f=true)(hs:noStar xs=true)
  (k:wpAny (model S.prog S.w) A (spliced (backTo pos (starEach xs env))) (λvs s₁=>K.In s₁.heap/\wpAny (model S.prog S.w) A (PySem.call f (first++vs)) Q E s₁) E s):wpAny (model S.prog S.w) A (callWith pos f first (backTo pos (starEach xs env)) []) Q E s:=
 callWith_of (P:=λh=>K.In h) (by rw[iM hs];rfl) (keeps_K hk) (tQ hs k)
theorem qC{S:b0}{id:String}{first:List Value}{xs:List Expr}{env:Env}{pos:Pos}{A:Around}{E Q:Value->Shared->Prop}{s:Shared}(hs:noStar xs=true)
  (k:wpAny (model S.prog S.w) A (spliced (backTo pos (starEach xs env))) (λvs s₁=>wpAny (model S.prog S.w) A (PySem.call (.builtin id) (first++vs)) Q E s₁) E s):wpAny (model S.prog S.w) A (callWith pos (.builtin id) first (backTo pos (starEach xs env)) []) Q E s:=
 callWith_builtin_kwB (iM hs) rfl (tQ hs k)
theorem GX{S:b0}{id:String}{first:List Value}{xs:List Expr}{env:Env}{pos:Pos}{A:Around}{E Q:Value->Shared->Prop}{s:Shared}(hs:noStar xs=true)
  (k:wpAny (model S.prog S.w) A (spliced (backTo pos (starEach xs env))) (λvs s₁=>wpAny (model S.prog S.w) A (PySem.call (.type id) (first++vs)) Q E s₁) E s):wpAny (model S.prog S.w) A (callWith pos (.type id) first (backTo pos (starEach xs env)) []) Q E s:=
 PyProof.Rows.callWith_type (iM hs) (tQ hs k)
theorem wG(ca:ft S call d){k:Nat}{vs:List V}{H H':Hp}{v:V}(e:call k vs H=some (v,H')){A:Around}{s:Shared}{as:As}{T:TS}{a:Addr}{ws:List Value}{E Q:Value->Shared->Prop}(ao:gh A d)(ha:S.fa[k]?=some a)(hr:HR S as T H s.heap)
  (vv:br S.fa as T vs ws) (q:dz S as T s H' v Q):wpAny (model S.prog S.w) A (PySem.call (.ref a) ws) Q E s:=
 wpAny_call (ca e ao.c ha hr vv q)
theorem s_call(C:Cx S)(ca:ft S call d){f:ME}{es:List ME}(hf:bu S call d f)(hl:lZ S call d es):bu S call d (.call f es):=by
  intro l H H' v e nm sl x s as T env A E Q ao c er hr q
  refine Ci e λk H1 vs H2 e1 e2 e=>?_
  refine tb c λn p xs p' c1 c2=>?_
  refine wpAny_Call_ofName (hf e1 ao c1 er hr λwf h1 dm aQ T1 x1 aO rf=>?_)
  cases rf with
 |fn ha=>
   refine qB (C.keep _ _ ha) (fu c2) (hl e2 ao c2 (er.ext x1) aO λws h2 ix iu T2 x2 bL rv=>⟨C.X.keeps bL.base,?_⟩)
   exact wG ca e ao ha bL rv ((q.from x1).from x2)
theorem Am{o:ME}{m:BM}{es:List ME}(ho:bu S call d o)(hl:lZ S call d es):bu S call d (.ba o m es):=by
 intro l H H' v e nm sl x s as T env A E Q ao c er hr q
 refine zR e λov H1 vs H2 e1 hk e2 e=>?_
 refine ry c λy ap xs p c2 c3 c4 c5 c6=>?_
 refine Ai m λb1 b2 b3=>?_
 have Ji:=iM (pos:=p) (env:=env) (fu c6)
 refine wpAny_Call_method (tT c4 _ _ _) ?_ c3 b1 b2 b3 (ho e1 ao c5 er hr λwo h1 dm aQ T1 x1 aO ro=>?_)
 ·have An:(List.all (backTo p (starEach xs env)) λx=>!x.1)=true:=by
   rw[List.all_eq_not_any_not]
   simpa using Ji
  simp only[cJ,decide_eq_true_eq]
  exact⟨⟨An,rfl⟩,by simp;exact nl (aj [_] (.d (.s ab) (.n 20) (.d (.n 30) ab .z)) rfl c2)⟩
 ·obtain⟨k1,k2⟩:=I7 (s:={ s with heap:=h1,toks:=dm }) hk aO ro
  refine⟨k1,k2,qC (fu c6) (hl e2 ao c6 (er.ext x1) aO λws h2 ix iu T2 x2 bL rv=>?_)⟩
  exact Qh e bL (ro.mono x2.mono) rv ((q.from x1).from x2)
theorem EO(C:Cx S){p:Pr}{es:List ME}(hl:lZ S call d es):bu S call d (.prim p es):=by
  intro l H H' v e nm sl x s as T env A E Q ao c er hr q
  refine Cm e λvs H1 e1 e=>?_
  refine tc c λpp xs p' c2 c3=>?_
  refine hU c2 λhn g hg c2=>?_
  induction g with
 |pr g=>
    refine wpAny_Call_ofName (jY C er hr hn (C.P8 _ _ hg) (gP p).1 (gP p).2 ?_)
    have ev:wpAny (model S.prog S.w) A (spliced (backTo p' (starEach xs env))) (λws s'=>wpAny (model S.prog S.w) A (PySem.call (ty p) ws) Q E s') E s:=
     hl e1 ao c3 er hr λws h1 dm aQ T1 x1 aO rv=>I2 ao.handled e aO rv (q.from x1)
    induction p with
   |int|list|range|str=>exact GX (fu c3) ev
   |_=>exact qC (fu c3) ev
 |_=>exact ff c2
theorem GY{A:Around}{d:Nat}(ao:gh A d)(a:Addr)(ws:List Value):Ah (A.under (.builtin "type.__call__" ⟨.ref a::ws,[]⟩)) d:=by
 refine⟨ao.handled,?_,?_⟩
 ·have:=ao.depth
  have h2:(Code.builtin "type.__call__" ⟨.ref a::ws,[]⟩).weight=1:=by kernel_rfl
  show A.depth+(Code.builtin "type.__call__" ⟨.ref a::ws,[]⟩).weight+4*d+6<=1000
  exact nt (aj [_,_,_] (.d (.a (.a ab (.m 4 af)) (.n 8)) (.n 1000) (.d aq (.n 1) (.d (.s (.n 1000)) (.a (.a (.a ab aq) (.m 4 af)) (.n 6)) .z))) rfl this (bx h2))
 ·have:=ao.units
  have h2:(Code.builtin "type.__call__" ⟨.ref a::ws,[]⟩).cUnits=1:=by kernel_rfl
  show A.units+(Code.builtin "type.__call__" ⟨.ref a::ws,[]⟩).cUnits+32*d+180<=9900
  exact nt (aj [_,_,_] (.d (.a (.a ab (.m 32 af)) (.n 200)) (.n 9900) (.d aq (.n 1) (.d (.s (.n 9900)) (.a (.a (.a ab aq) (.m 32 af)) (.n 180)) .z))) rfl this (bx h2))
theorem Mn{as:As}{T:TS}:FR S as T [] (λ_=>none):=⟨λi v e=>by simp[jP,iU] at e,λx w e=>by simp at e⟩
theorem GZ{aQ:As}{T1:TS}{H1:Hp}{h1:Heap}{k:Nat}{Cl:Addr}(aO:HR S aQ T1 H1 h1)(c1:k<5)(hC:S.ca[k]?=some Cl) :
    HR S (aQ++[(h1.objs.size+1,some h1.objs.size)]) T1 (H1++[.inst k []]) ((h1.push emptyDict).push (instObj Cl h1.objs.size))/\Ext Nil aQ T1 h1 (aQ++[(h1.objs.size+1,some h1.objs.size)]) T1 ((h1.push emptyDict).push (instObj Cl h1.objs.size))/\VR S.fa (aQ++[(h1.objs.size+1,some h1.objs.size)]) T1 (.loc H1.length) (.ref (h1.objs.size+1)):=by
  have kp:∀ b o,h1.get? b=some o->((h1.push emptyDict).push (instObj Cl h1.objs.size)).get? b=some o:=λb o e=>b8 _ _ _ (b8 _ _ _ e)
  have sz:(h1.push emptyDict).objs.size=h1.objs.size+1:=Heap.size_push ..
  have o1:((h1.push emptyDict).push (instObj Cl h1.objs.size)).get? (h1.objs.size+1)=some (instObj Cl h1.objs.size):=by have:=Heap.get?_push_size (h1.push emptyDict) (o:=instObj Cl h1.objs.size) rfl;rw[sz] at this;exact this
  have o2:((h1.push emptyDict).push (instObj Cl h1.objs.size)).get? h1.objs.size=some emptyDict:=b8 _ _ _ (Heap.get?_push_size _ rfl)
  have lo:∀ b∈(h1.objs.size+1)::[h1.objs.size],h1.objs.size<=b:=λb hb=>(eC.mp hb).elim (λe=>e▸fA _) λhb=>bx (db.mp hb).symm
  refine⟨aO.alloc kp (by simp) lo (.inst (f:=λ_=>none) c1 hC o1 ⟨_,#[],_,o2,rfl,?_,?_,λ_=>rfl⟩ Mn),⟨⟨λn q e=>bH e,λ_ _ e=>e⟩,λb o _ _ e=>kp b o e,λb hb _=>hb.elim,λb hb=>?_⟩,.loc (p:=(h1.objs.size+1,some h1.objs.size)) (by rw[eT (by rw[aO.len];exact aE _),aO.len,gZ];rfl)⟩
  · intro e he;simp at he
  · first|(intro i j;simp)|simp[UniqKeys]|(intro e he;simp at he)
  · rw[bE] at hb
    refine(dh.mp hb).elim .inl λq=>.inr ?_
    cases e:h1.get? b with
   |none=>rfl
   |some o=>exact absurd (Heap.lt_size e) (eK.mpr (lo b (by simpa [owned] using q)))
theorem Jj(C:Cx S)(ca:ft S call d){k:Nat}{es:List ME}(hl:lZ S call d es):bu S call d (.new k es):=by
  intro l H H' v e nm sl x s as T env A E Q ao c er hr q
  refine Gn e λvs H1 ci e1 xK e2 ev=>wj c λn np xs p' c1 c2 c3=>hU c2 λhn g hg c2=>?_
  induction g with
 |cls g=>
   obtain⟨Cl,hC,hv,_⟩:=C.OG _ _ hg
   have hC:=beq_iff_eq.mp c2▸hC
   refine wpAny_Call_ofName (kB C er hr hn hv ?_)
   refine qB (C.P9 _ _ hC) (fu c3) (hl e1 ao c3 er hr λws h1 dm aQ T1 x1 aO rv=>⟨C.X.keeps aO.base,?_⟩)
   obtain⟨VV,EA,ok⟩:=C.cls k Cl c1 hC
   obtain⟨a,ha,hf,ht⟩:=ok.init
   have X:=C.X.keeps aO.base
   refine wpAny_call (make_core (init:=.ref a) (makes_of X ok.makes) (looks_findIn X hf) (λself=>bind_fn X self ht) (.inl rfl) ?_)
   obtain⟨bL,x2,vr⟩:=GZ aO c1 hC
   refine ca e2 (s:={ s with heap:=(h1.push emptyDict).push (instObj Cl h1.objs.size),toks:=dm }) (GY ao _ _) (cj (xK.symm.trans EA)▸ha) bL (.cons vr (rv.mono x2.mono)) λw h3 rN pt T3 x3 fR V0=>?_
   rw[jG V0]
   exact⟨rfl,q _ _ _ _ _ ((x1.trans x2).trans x3) fR (ev▸vr.mono x3.mono)⟩
 |_=>exact ff c2
theorem EP(C:Cx S)(ca:ft S call d){o:ME}{m:Nat}{es:List ME}(ho:bu S call d o)(hl:lZ S call d es):bu S call d (.bm o m es):=by
 intro l H H' v e nm sl x s as T env A E Q ao c er hr q
 refine Ck e λn H1 c0 fs ci k vs H2 e1 hn xK hk e2 e=>?_
 refine td c λy ap xs p XQ c2 c3 c4 c5 c6=>?_
 have Ji:=iM (pos:=p) (env:=env) (fu c6)
 have Qy:methodCallForm (xs.length+([]:List Keyword).length) (backTo p (starEach xs env)) (backToKw p (keywordEach [] env))=true:=by
  have An:(List.all (backTo p (starEach xs env)) λx=>!x.1)=true:=by
   rw[List.all_eq_not_any_not]
   simpa using Ji
  unfold methodCallForm
  have V1:backToKw p (keywordEach [] env)=[]:=rfl
  rw[V1]
  simp only[cJ,decide_eq_true_eq]
  exact⟨⟨An,rfl⟩,by simp;exact nl (aj [_] (.d (.s ab) (.n 20) (.d (.n 30) ab .z)) rfl c2)⟩
 have Tu:methodCallPos true y env ap p=pure p:=by unfold methodCallPos;simp[c3]
 rw[arm_eval_Call,tT c4]
 refine wpAny_bind (wpAny_mono (ho e1 ao c5 er hr λwo h1 dm aQ T1 x1 aO ro=>?_) (λ_ _ e=>e) λ_ _ e=>e)
 refine wpAny_bind (wpAny_standAt ?_)
 unfold methodCall
 rw[Qy]
 refine wpAny_bind (wpAny_holding (IT C aO ro hn xK hk λa ha=>?_))
 refine wpAny_bind (wpAny_of_eq Tu ?_)
 refine qB (C.keep _ _ ha) (fu c6) (hl e2 ao c6 (er.ext x1) aO λws h2 ix iu T2 x2 bL rv=>⟨C.X.keeps bL.base,?_⟩)
 exact wG ca e ao ha bL (.cons (ro.mono x2.mono) rv) ((q.from x1).from x2)
theorem EQ(C:Cx S){o:ME}{k:IK}(ho:bu S call d o):bu S call d (.isin o k):=by
  intro l H H' v e nm sl x s as T env A E Q ao c er hr q
  refine Cn e λov b e1 hb Qz=>?_
  subst Qz
  refine te c λn p y pz p' c1 c3 c4 c5=>?_
  refine hU c1 λhn g hg c1=>?_
  induction g with
 |Ix=>
    obtain⟨hz,xL⟩:=C.S6 _ hg
    refine wpAny_Call_ofName (jY C er hr hn hz (xL▸wy.1) (xL▸wy.2) ?_)
    refine qC (by simp only[mS,mT,c4,Bool.true_and];rfl) ?_
    refine spliced_more (ho e1 ao c5 er hr λwa h1 dm aQ T1 x1 aO ra=>?_) (pq c4 _ _)
    refine hU c3 λGU g2 Mq c3=>?_
    have done:∀ wk,KV S k wk->wpAny (model S.prog S.w) A (PySem.call (.builtin "isinstance") [wa,wk]) Q E { s with heap:=h1,toks:=dm }:=λwk hk=>Mf C hb aO ra hk λtk=>q _ _ _ _ _ x1 aO (.bool _)
    have gy:=er.ext x1
    induction g2 with
   |cls j=>
      induction k with
     |cls i=>
       obtain⟨Cl,hC,hv,_⟩:=C.OG _ _ Mq
       have hC:=(beq_iff_eq.mp c3)▸hC
       exact spliced_more (kB C gy aO GU hv (spliced_none (done _ ⟨Cl,hC,rfl⟩)))
     |_=>exact ff c3
   |pr g3=>
      induction k with
     |int=>exact spliced_more (jY C gy aO GU (C.P8 _ _ Mq) (gP .int).1 (gP .int).2 (spliced_none (done _ rfl)))
     |str=>exact spliced_more (jY C gy aO GU (C.P8 _ _ Mq) (gP .str).1 (gP .str).2 (spliced_none (done _ rfl)))
     |_=>exact ff c3
   |typ g3=>
      induction k with
     |tuple=>exact spliced_more (jY C gy aO GU (C.S7 _ _ Mq) boot_tuple.1 boot_tuple.2 (spliced_none (done _ rfl)))
     |_=>exact ff c3
   |_=>exact ff c3
 |_=>exact ff c1
end
end Mine
namespace Mine
section
variable {S:b0}{call:bT}{d:Nat}{as as':As}{T T':TS}{H H':Hp}{h h':Heap}{s:Shared}{env:Env}{nm:bn}{sl:Sl}{l:Lo}{A:Around}{E:Value->Shared->Prop}
structure gF(S:b0)(as:As)(env:Env)(I:Addr):Prop where
 own:I ∉ owned as
 old:S.h0.get? I=none
 loc:I≠env.locals
 cell:∀ x,env.cells.lookup x≠some I
theorem gF.CH{I:Addr}(f:gF S as env I):¬ EX env I:=λq=>by
 rcases q with q|⟨x,q⟩
 ·exact f.loc q
 ·exact f.cell x q
theorem gF.ext{X:Addr->Prop}{I:Addr}(f:gF S as env I)(e:Ext X as T h as' T' h'){o:Obj}(ho:h.get? I=some o):gF S as' env I:=
 have own:I ∉ owned as':=λq=>by
  rcases e.own I q with z|z
  ·exact f.own z
  ·rw[z] at ho;first|exact nn ho|exact ff ho|exact nn ho
 ⟨own,f.old,f.loc,f.cell⟩
theorem ER.but(x:ER S as T env nm sl l h){I:Addr}(f:gF S as env I)(k:∀ b o,b≠I->h.get? b=some o->h'.get? b=some o):ER S as T env nm sl l h':=by
 obtain⟨m,hn,hm⟩:=x.loc
 refine⟨x.kind,x.glob,x.blt,x.names,x.zT,x.len,x.nd,⟨m,lX hn λo=>k _ o (cA f.loc),hm⟩,λi y e1=>?_,x.n8,λy c e1=>?_,x.frame,x.cells⟩
 ·obtain⟨c,w,h1,h2,h3⟩:=x.cell i y e1
  exact⟨c,w,h1,em h2 λo=>k _ o λq=>f.cell y (q▸h1),h3⟩
 ·obtain⟨w,h2⟩:=x.kA y c e1
  exact⟨w,em h2 λo=>k _ o λq=>f.cell y (q▸e1)⟩
theorem ER.me(x:ER S as T env nm sl l h):∀ b,EX env b->b ∉ owned as:=λb q=>by
 rcases q with rfl|⟨y,q⟩
 ·exact x.frame.1
 ·exact(x.cells y b q).1
theorem ER.fresh(x:ER S as T env nm sl l h)(hr:HR S as T H h){I:Addr}(hI:h.get? I=none):gF S as env I:=by
  refine⟨λq=>?_,?_,λq=>?_,λy q=>?_⟩
  · obtain⟨o,ho⟩:=hr.alive q;rw[hI] at ho;first|exact nn ho|exact ff ho|exact nn ho
  · cases e:S.h0.get? I with
   |none=>rfl
   |some o=>have:=hr.base I o e;rw[hI] at this;first|exact nn this|exact ff this|exact nn this
  · obtain⟨m,hn,_⟩:=x.loc
    obtain⟨o,ho⟩:=jX hn
    rw[← q,hI] at ho;exact nn ho
  · obtain⟨w,hw⟩:=x.kA y I q
    obtain⟨o,ho⟩:=jm hw
    rw[hI] at ho;first|exact nn ho|exact ff ho|exact nn ho
inductive IR(S:b0)(as:As)(T:TS)(h:Heap):It->Addr->Prop
 |tup {l:List V} {ws:List Value} {I t:Addr} {i:Nat}:h.IsTupleIter I t i->T t (.tup ws)->br S.fa as T l (ws.drop i)->IR S as T h (.seq l) I
 |str {x:Str} {t:Tok} {I:Addr} {i:Nat} {cs:List Nat}:h.IsStrIter I "str_ascii_iterator" x t i->cs=x.cps.toList.drop i->IR S as T h (.seq (cs.map λc=>.str [c])) I
 |lst {n i:Nat} {I a:Addr}:h.IsListIter I a i->as[n]?=some (a,none)->IR S as T h (.lst n i) I
 |cQ {x c:Int} {k:Nat} {I:Addr}:IsRangeIter h I x k c->IR S as T h (.cQ x c k) I
theorem IR.jZ{it:It}{I:Addr}(x:IR S as T h it I){zg:Prop}(zk:∀ o,(h.get? I=some o)->(o.cls≠.type "tuple")->(o.cls≠.type "list")->(o.cls≠.type "range")->zg):zg:=by
  induction x with
 |tup a _ _=>obtain⟨o,e,c,_⟩:=a;exact zk o e (by rw[c];decide) (by rw[c];decide) (by rw[c];decide)
 |str a _=>obtain⟨o,e,c,_⟩:=a;exact zk o e (by rw[c];decide) (by rw[c];decide) (by rw[c];decide)
 |lst a _=>obtain⟨o,e,c,_⟩:=a;exact zk o e (by rw[c];decide) (by rw[c];decide) (by rw[c];decide)
 |cQ a=>exact zk _ a (by intro q;simp at q) (by intro q;simp at q) (by intro q;simp at q)
theorem IR.alive{it:It}{I:Addr}(x:IR S as T h it I):∃ o,h.get? I=some o/\o.cls≠.type "tuple"/\o.cls≠.type "list"/\o.cls≠.type "range":=IR.jZ x λo cR cX io Cj=>⟨o,cR,cX,io,Cj⟩
theorem IR.keep{it:It}{I:Addr}(x:IR S as T h it I)(m:eP as T as' T')(k:∀ o,h.get? I=some o->h'.get? I=some o):IR S as' T' h' it I:=by
  induction x with
 |tup a b c=>obtain⟨o,e,r⟩:=a;exact .tup ⟨o,k o e,r⟩ (m.tx _ _ b) (c.mono m)
 |str a b=>obtain⟨o,e,r⟩:=a;exact .str ⟨o,k o e,r⟩ b
 |lst a b=>obtain⟨o,e,r⟩:=a;exact .lst ⟨o,k o e,r⟩ (m.Gv _ _ b)
 |cQ a=>exact .cQ (k _ a)
theorem IR.ext{X:Addr->Prop}{it:It}{I:Addr}(x:IR S as T h it I)(e:Ext X as T h as' T' h')(ho:I ∉ owned as)(hX:¬ X I):IR S as' T' h' it I:=x.keep e.mono λo q=>e.kp I o ho hX q
theorem IR.V2{it:It}{I:Addr}(x:IR S as T h it I)(hr:HR S as T H h)(i:Im):¬ T I i:=by
 refine x.jZ λo e a b c=>?_
 exact hr.zU e a b c i
@[elab_as_elim] theorem OI{P:Value->Prop}{l:List V}{w:Value}(x:VR S.fa as T (.tup l) w)(zk:∀ a ws,T a (.tup ws)->l.length<=lim->br S.fa as T l ws->P (.ref a)):P w:=by
  cases x with
 |tup t hz hv=>exact zk _ _ t hz hv
theorem Ao{v:V}{it:It}{w:Value}{Q:Value->Shared->Prop}(e:gN H v=some it)(hr:HR S as T H s.heap)(vr:VR S.fa as T v w)
   (q:∀ I h',s.heap.get? I=none->(∀ b o,s.heap.get? b=some o->h'.get? b=some o)->IR S as T h' it I->Q (.ref I) { s with heap:=h' }):wpAny (model S.prog S.w) A (pyIter w) Q E s:=by
  induction v using V.casesOn with
 |tup l=>exact OI vr λa ws ht hz hv=>wpAny_pyIter_tuple (hr.im _ _ ht) (q _ _ kC (b8 _) (cj e▸.tup (i:=0) ⟨_,Heap.get?_push_size _ rfl,rfl,rfl⟩ ht hv))
 |str x=>
   obtain⟨ha,e⟩:=cT e
   refine d6 vr λt hz=>wpAny_pyIter_ascii ?_ (q _ _ kC (b8 _) (e▸.str (i:=0) (x:=⟨x.toArray⟩) ⟨_,Heap.get?_push_size _ rfl,rfl,rfl⟩ rfl))
   rw[← Array.all_toList]
   exact ha
 |loc n=>exact bj e λl hl e=>hr.fX hl vr λa ws k hw hp e1 hz hv=>hw▸wpAny_pyIter_list ⟨_,e1,rfl,k,rfl⟩ (q _ _ kC (b8 _) (cj e▸.lst ⟨_,Heap.get?_push_size _ rfl,rfl,rfl⟩ hp))
 |cQ a b c=>
   obtain⟨⟨h1,h2,h3⟩,e⟩:=cT e
   refine EI hr (h3▸vr:VR S.fa as T (.cQ a b 1) w) λp t u x hw hR=>hw▸wpAny_pyIter_range hR (tH h1 h2) (q _ _ kC (b8 _) (e▸?_))
   rw[tF,h3]
   exact .cQ (Heap.get?_push_size _ rfl)
 |_=>exact nn e
noncomputable def Mr(S:b0)(as:As)(T:TS)(s:Shared)(I:Addr)(Q:Option Value->Shared->Prop):Option (V×It)->Prop
 |none=>∀ h',Heap.ExtBut I s.heap h'->Q none { s with heap:=h' }
 |some (v,eB)=>∀ w h' tk,Heap.ExtBut I s.heap h'->IR S as T h' eB I->VR S.fa as T v w->Q (some w) { s with heap:=h',toks:=tk }
theorem Mr.of{I:Addr}{Q:Option Value->Shared->Prop}{r r0:Option (V×It)}(q:Mr S as T s I Q r)(e:some r0=some r):Mr S as T s I Q r0:=cj e▸q
theorem IR.el{it:It}{I:Addr}{P:It->Prop}(x:IR S as T h it I)
   (k1:∀ l ws t i,h.IsTupleIter I t i->T t (.tup ws)->br S.fa as T l (ws.drop i)->P (.seq l))
   (k2:∀ x t i,h.IsStrIter I "str_ascii_iterator" x t i->P (.seq ((x.cps.toList.drop i).map λc=>.str [c])))
   (k3:∀ n i a,h.IsListIter I a i->as[n]?=some (a,none)->P (.lst n i)) (k4:∀(x c:Int)(k:Nat),IsRangeIter h I x k c->P (.cQ x c k)):P it:=by
  induction x with
 |tup a b c=>exact k1 _ _ _ _ a b c
 |str a b=>exact b▸k2 _ _ _ a
 |lst a b=>exact k3 _ _ _ a b
 |cQ a=>exact k4 _ _ _ a
theorem pu{it:It}{I:Addr}{r:Option (V×It)}{Q:Option Value->Shared->Prop}(e:du H it=some r)(x:IR S as T s.heap it I)(hI:I ∉ owned as)(hr:HR S as T H s.heap)(hh:A.handled=none)(q:Mr S as T s I Q r):wpAny (model S.prog S.w) A (pyNext (.ref I)) Q E s:=by
  revert e
  refine x.el (P:=λit=>du H it=some r->_) (λl ws t i a b c e=>?_) (λx t i a e=>?_) (λn i la a b e=>?_) (λx c k a e=>?_)
  · match l,e with
   |[],e=>
      refine wpAny_pyNext_tuple_end hh a (hr.im _ _ b) ?_ (q.of e)
      have:=c.length
      rw[rd] at this
      rw[DY]
      exact sM.mpr (Nat.le_of_sub_eq_zero this)
   |v::l,e=>
      obtain⟨u,hu,vu⟩:=c.get 0 (v:=v) rfl
      rw[List.getElem?_drop] at hu
      refine wpAny_pyNext_tuple_item a (hr.im _ _ b) (x:=u) (by rw[DY];exact hu) λh' a' sb=>q.of e u h' s.toks sb.extBut (.tup a' b ?_) vu
      have:=c.drop 1
      rw[List.drop_drop] at this
      exact this
  · match hx:x.cps.toList.drop i,e with
   |[],e=>exact wpAny_pyNext_ascii_end hh a (by rw[← Array.getElem?_toList];exact sM.mpr (List.drop_eq_nil_iff.mp hx)) (q.of e)
   |c::cs,e=>
      refine wpAny_pyNext_ascii_item a (c:=c) (by rw[← Array.getElem?_toList,← List.head?_drop,hx];rfl) λh' a' sb=>q.of e _ h' _ sb.extBut (.str a' ?_) (.str [c] _ (show 1<=lim by decide))
      rw[← List.drop_drop,hx];rfl
  · refine bj e λl hl e=>hr.fX hl (.loc b) λa0 ws k e0 hp e1 hz hv=>?_
    have e1:=Value.ref.inj e0▸e1
    generalize nf:l[i]?=o at e
    match o,e with
   |some v,e=>
      obtain⟨u,hu,vu⟩:=hv.get _ nf
      exact wpAny_pyNext_list_item a ⟨_,e1,rfl,k,rfl⟩ (x:=u) (by rw[DY];exact hu) λh' a' sb=>q.of e u h' s.toks sb.extBut (.lst a' b) vu
   |none,e=>exact wpAny_pyNext_list_end hh a ⟨_,e1,rfl,k,rfl⟩ (by rw[DY];exact sM.mpr (by rw[hv.length];exact sM.mp nf)) (q.of e)
  · match k,e with
   |0,e=>exact wpAny_pyNext_range_end hh a (by simp) (q.of e)
   |k+1,e=>
      refine wpAny_pyNext_range_item a (q9.mpr (nE k)) λh' a' sb=>q.of e _ h' _ sb.extBut (.cQ ?_) (.int _ _)
      rw[show((k+1:Nat):Int)-1=(k:Int) from zc (k:Int) 1] at a'
      exact a'
theorem tV{a c:Addr}{m:Str->Option Value}{u:Option Value}(hn:h.Ns a m)(hc:h.IsCell c u):a≠c:=λq=>by
 obtain⟨oo,es,ep,q1,q2,_⟩:=hn
 obtain⟨o2,q3,q4⟩:=hc
 rw[← q,q1] at q3
 rw[← cj q3,q2] at q4;cases q4
noncomputable def nN(S:b0)(as:As)(T:TS)(s:Shared)(env:Env)(nm:bn)(sl:Sl)(l':Lo)(H':Hp)(Q:Unit->Shared->Prop):Prop:=
 ∀ h' tk as' T',Ext (EX env) as T s.heap as' T' h'->HR S as' T' H' h'->ER S as' T' env nm sl l' h'->Q () { s with heap:=h',toks:=tk }
theorem nN.from{aQ:As}{T1:TS}{h1:Heap}{tk:Tok}{l':Lo}{Q:Unit->Shared->Prop}(k:nN S as T s env nm sl l' H' Q)(e:Ext (EX env) as T s.heap aQ T1 h1):nN S aQ T1 { s with heap:=h1,toks:=tk } env nm sl l' H' Q:=
 λh' tA as' T' e' hr er=>k h' tA as' T' (e.trans e') hr er
theorem tW{X:Addr->Prop}{i:Nat}{v:V}{n:Str}{w:Value}{Q:Unit->Shared->Prop}(hX:X env.locals)(hC:∀ c,sl[i]?=some (some (n,true))->env.cells.lookup n=some c->X c)(x:ER S as T env nm sl l s.heap)(hr:HR S as T H s.heap)(c:cv nm sl i n=true)(vr:VR S.fa as T v w)
   (q:∀ h' tk,Ext X as T s.heap as T h'->HR S as T H h'->ER S as T env nm sl (l.set i (some v)) h'->Q () { s with heap:=h',toks:=tk }):wpAny (model S.prog S.w) A (storeName env n w) Q E s:=by
  refine fH c λb e1 e2=>?_
  have hk:env.kindOf n=some (B7 b):=by unfold Env.kindOf;rw[x.names];exact e2
  have Ms:i<l.length:=by rw[x.len];exact(eS.mp e1).1
  induction b with
 |false=>
   obtain⟨m,hn,hm⟩:=x.loc
   refine wpAny_storeName_local hk hn (λh' xL sb=>?_) (by rw[x.kind];rfl)
   have kp:∀ b o,b≠env.locals->s.heap.get? b=some o->h'.get? b=some o:=λb o nb e=>(sb.2 b nb).trans e
   have ex:Ext X as T s.heap as T h':=⟨.refl ..,λb o _ nx e=>kp b o (λq=>nx (q▸hX)) e,λb hb e=>?_,λb hb=>.inl hb⟩
   ·refine q h' _ ex (hr.but kp x.frame.1 x.frame.2 (xE hr hn)) ⟨x.kind,x.glob,x.blt,x.names,x.zT,by rw[dt];exact x.len,x.nd,⟨_,xL,λj u y f1 f2=>?_⟩,λj y f1=>?_,x.n8,λy c f1=>?_,x.frame,x.cells⟩
    ·by_cases hj:i=j
     ·subst hj
      rw[DU Ms] at f1
      cases f1
      rw[e1] at f2
      cases f2
      exact⟨w,by simp,vr⟩
     ·rw[iQ hj] at f1
      obtain⟨u',g1,g2⟩:=hm j u y f1 f2
      refine⟨u',?_,g2⟩
      rw[if_neg (λq=>hj (x.nd i j n false false e1 (by rw[← q];exact f2)))];exact g1
    ·obtain⟨c,u,g1,g2,g3⟩:=x.cell j y f1
     refine⟨c,u,g1,em g2 λo=>kp _ o (tV hn g2).symm,λv' nf=>?_⟩
     ·by_cases hj:i=j
      ·subst hj;rw[e1] at f1;first|exact nn f1|exact ff f1|cases f1
      ·rw[iQ hj] at nf
       exact g3 v' nf
    ·obtain⟨u,g2⟩:=x.kA y c f1
     exact⟨u,em g2 λo=>kp _ o (tV hn g2).symm⟩
   ·by_cases Jk:b=env.locals
    ·subst Jk
     obtain⟨o,ho⟩:=jX xL
     rw[ho];rfl
    ·rw[sb.2 b Jk];exact e
 |true=>
   obtain⟨c,u,h1,h2,h3⟩:=x.cell i n e1
   refine wpAny_storeName_cell x.kind hk h1 h2 λh' QA sb=>?_
   have kp:∀ b o,b≠c->s.heap.get? b=some o->h'.get? b=some o:=λb o nb e=>(sb.2 b nb).trans e
   have V3:env.locals≠c:=x.loc.elim λ_ hn=>tV hn.1 h2
   have ex:Ext X as T s.heap as T h':=⟨.refl ..,λb o _ nx e=>kp b o (λq=>nx (q▸hC c e1 h1)) e,λb hb e=>?_,λb hb=>.inl hb⟩
   ·obtain⟨m,hn,hm⟩:=x.loc
    refine q h' s.toks ex (hr.but kp (x.cells n c h1).1 (x.cells n c h1).2 (Gw hr h2)) ⟨x.kind,x.glob,x.blt,x.names,x.zT,by rw[dt];exact x.len,x.nd,⟨m,lX hn λo=>kp _ o V3,λj u y f1 f2=>?_⟩,λj y f1=>?_,x.n8,λy c' f1=>?_,x.frame,x.cells⟩
    ·by_cases hj:i=j
     ·subst hj;rw[e1] at f2;first|exact nn f2|exact ff f2|cases f2
     ·rw[iQ hj] at f1
      exact hm j u y f1 f2
    ·by_cases hj:i=j
     ·subst hj
      rw[e1] at f1;first|exact nn f1|exact ff f1|cases f1
      refine⟨c,some w,h1,QA,λv' nf=>?_⟩
      rw[DU Ms] at nf
      cases nf
      exact⟨w,rfl,vr⟩
     ·obtain⟨c',u',g1,g2,g3⟩:=x.cell j y f1
      refine⟨c',u',g1,em g2 λo=>kp _ o λq=>?_,λv' nf=>?_⟩
      ·have:=x.n8 n y c h1 (q▸g1)
       subst this
       exact hj (x.nd i j n true true e1 f1)
      ·rw[iQ hj] at nf
       exact g3 v' nf
    ·by_cases hc:c'=c
     ·subst hc;exact⟨_,QA⟩
     ·obtain⟨u',g2⟩:=x.kA y c' f1
      exact⟨u',em g2 λo=>kp _ o hc⟩
   ·by_cases Jk:b=c
    ·subst Jk
     obtain⟨o,ho⟩:=jm QA
     rw[ho];rfl
    ·rw[sb.2 b Jk];exact e
theorem j1{i:Nat}{v:V}{n:Str}{w:Value}{Q:Unit->Shared->Prop}(x:ER S as T env nm sl l s.heap)(hr:HR S as T H s.heap)(c:cv nm sl i n=true)(vr:VR S.fa as T v w)
  (q:nN S as T s env nm sl (l.set i (some v)) H Q):wpAny (model S.prog S.w) A (storeName env n w) Q E s:=
 tW (X:=EX env) (.inl rfl) (λc _ h=>.inr ⟨_,h⟩) x hr c vr λh' tk e eo Ap=>q h' tk as T e eo Ap
theorem Ext.nil{X:Addr->Prop}(e:Ext Nil as T h as' T' h')(x:∀ b,X b->b ∉ owned as):Ext X as T h as' T' h':=Ext.weak (X:=Nil) e x
noncomputable def xU(S:b0)(call:bT)(d:Nat)(t:Tg):Prop:=∀⦃v:V⦄⦃l l':Lo⦄⦃H H':Hp⦄,eV (av S.P call) t v l H=some (l',H') ->
 ∀⦃nm:bn⦄⦃sl:Sl⦄⦃x:Expr⦄⦃s:Shared⦄⦃as:As⦄⦃T:TS⦄⦃env:Env⦄⦃A:Around⦄⦃E:Value->Shared->Prop⦄⦃Q:Unit->Shared->Prop⦄⦃w:Value⦄,gh A d->pe S.G t nm sl x=true->ER S as T env nm sl l s.heap->HR S as T H s.heap->VR S.fa as T v w ->
  nN S as T s env nm sl l' H' Q->wpAny (model S.prog S.w) A (assign x env w) Q E s
noncomputable def wH(S:b0)(call:bT)(d:Nat)(ts:List Tg):Prop:=∀⦃vs:List V⦄⦃l l':Lo⦄⦃H H':Hp⦄,dM (av S.P call) ts vs l H=some (l',H') ->
 ∀⦃nm:bn⦄⦃sl:Sl⦄⦃xs:List Expr⦄⦃s:Shared⦄⦃as:As⦄⦃T:TS⦄⦃env:Env⦄⦃A:Around⦄⦃E:Value->Shared->Prop⦄⦃Q:Unit->Shared->Prop⦄⦃ws:List Value⦄,gh A d->lT S.G ts nm sl xs=true->ER S as T env nm sl l s.heap->HR S as T H s.heap->br S.fa as T vs ws ->
  nN S as T s env nm sl l' H' Q->wpAny (model S.prog S.w) A (assignInOrder ((assignEach xs env).map (·.2)) ws) Q E s
theorem nN.of{l' l0:Lo}{H0:Hp}{Q:Unit->Shared->Prop}(k:nN S as T s env nm sl l' H' Q)(e:some (l0,H0)=some (l',H')):nN S as T s env nm sl l0 H0 Q:=by cases e;exact k
theorem CK{i:Nat}:xU S call d (.loc i):=by
 intro v l l' H H' e nm sl x s as T env A E Q w ao c er hr vr q
 refine wm c λn p c=>?_
 exact assign_Name (j1 er hr c vr (q.of e))
theorem Mt(C:Cx S){o:ME}{a:Nat}(ho:bu S call d o):xU S call d (.attr o a):=by
 intro v l l' H H' e nm sl x s as T env A E Q w ao c er hr vr q
 refine Cs e λov H1 e1 hs hl=>?_
 rw[← hl] at q
 refine tn c λy p ca co=>?_
 refine wpAny_bind (wpAny_holding (wpAny_mono (ho e1 ao co er hr λwo h1 dm aQ T1 x1 aO ro=>?_) (λ_ _ e=>e) λ_ _ e=>e))
 refine wpAny_bind (wpAny_standAt (wpAny_bind (wpAny_holding ?_)))
 refine zY C aO ro (vr.mono x1.mono) ca hs λh2 ix iu T2 x2 bL=>wpAny_release ?_
 have gy:=er.ext x1
 exact q _ _ _ _ ((x1.nil er.me).trans (x2.nil gy.me)) bL (gy.ext x2)
theorem QB{o i:ME}(ho:bu S call d o)(hi:bu S call d i):xU S call d (.idx o i):=by
 intro v l l' H H' e nm sl x s as T env A E Q w ao c er hr vr q
 refine Gu e λov H1 iv H2 e1 e2 hs hl=>?_
 rw[← hl] at q
 refine wn c λy z p _ co ci=>?_
 refine wpAny_bind (wpAny_holding (wpAny_mono (ho e1 ao co er hr λwo h1 dm aQ T1 x1 aO ro=>?_) (λ_ _ e=>e) λ_ _ e=>e))
 refine wpAny_bind (wpAny_holding (wpAny_mono (hi e2 ao ci (er.ext x1) aO λwi h2 ix iu T2 x2 bL ri=>?_) (λ_ _ e=>e) λ_ _ e=>e))
 refine wpAny_bind (wpAny_standAt (wpAny_bind (wpAny_holding ?_)))
 refine I0 hs bL (ro.mono x2.mono) ri (vr.mono (x1.trans x2).mono) λh3 rN pt T3 x3 fR=>wpAny_release ?_
 have rO:=er.ext (x1.trans x2)
 exact q _ _ _ _ (((x1.trans x2).nil er.me).trans (x3.nil rO.me)) fR (rO.ext x3)
theorem tX{it t:Addr}{items:Array Value}(be:t≠it):∀(n i:Nat)(s:Shared)(Q:List Value->Shared->Prop),s.heap.IsListIter it t i->s.heap.IsList t items->i+n<=items.size ->
  (∀ h',h'.IsListIter it t (i+n)->Heap.SameBut it s.heap h'->Q ((items.toList.drop i).take n) { s with heap:=h' })->wpAny (model S.prog S.w) A (draw (.ref it) n) Q E s
 |0,i,s,Q,hit,_,_,hQ=>by
  show wpAny _ _ (pure []) Q E s
  exact wpAny_pure (by simpa using hQ s.heap hit (Heap.SameBut.refl ..))
 |n+1,i,s,Q,hit,ht,hle,hQ=>by
  have vq:i<items.size:=by exact nl (aj [_,_,_] (.d (.a ab (.s af)) aq (.d aq ab .z)) rfl hle)
  show wpAny _ _ (pyNext (.ref it) >>= _) Q E s
  refine wpAny_bind (wpAny_pyNext_list_item hit ht (x:=items[i]) (by simp[vq]) λh₁ Jl Jm=>?_)
  refine wpAny_bind (wpAny_holding (tX be n (i+1) _ _ Jl (ht.extBut Jm.extBut be) (by exact nt (aj [_,_,_] (.d (.a ab (.s af)) aq (.d (.s aq) (.a (.s ab) af) .z)) rfl hle)) λh₂ Tv V4=>wpAny_pure ?_))
  have hd:items.toList.drop i=items[i]::items.toList.drop (i+1):=by simp[List.drop_eq_getElem_cons,vq]
  have:=hQ h₂ (by rw[show i+(n+1)=i+1+n by exact lx [_,_] (.a ab (.s af)) (.a (.s ab) af) rfl];exact Tv) (Jm.trans V4)
  rw[hd,List.take_succ_cons] at this
  exact this
theorem xV{t:Addr}{items:Array Value}{Q:List Value->Shared->Prop}(hh:A.handled=none)(ht:s.heap.IsList t items)
  (hQ:∀ h',Heap.ExtBut s.heap.objs.size s.heap h'->Q items.toList { s with heap:=h' }):wpAny (model S.prog S.w) A (unpackItems (.ref t) items.size none) Q E s:=by
 have vq:t≠s.heap.objs.size:=by obtain⟨o,ho,_⟩:=ht;exact d9 (Heap.lt_size ho)
 unfold unpackItems
 refine wpAny_bind ?_
 unfold notIterableAtAll
 refine wpAny_bind (wpAny_specialOf ht.typeIs PySem.F.slot_list_iter.lookup ?_)
 refine wpAny_pure ?_
 simp only[vR,if_false]
 refine wpAny_bind (wpAny_holding (wpAny_pyIter_list ht ?_))
 refine wpAny_bind (wpAny_holding (tX vq items.size 0 _ _ ⟨_,Heap.get?_push_size _ rfl,rfl,rfl⟩ (ht.push _) (by exact nt (aj [_] (.d (.s ab) (.a (.n 0) ab) .z) rfl)) λh₁ Jl Jm=>?_))
 have An:List.take items.size (List.drop 0 items.toList)=items.toList:=by
  rw[List.drop_zero];exact List.take_of_length_le (by simp)
 rw[An]
 rw[if_neg (by simp)]
 have V5:h₁.IsList t items:=(ht.push _).extBut Jm.extBut vq
 refine wpAny_bind (wpAny_holding (wpAny_pyNext_list_end hh Jl V5 (by simp) λh₂ V6=>?_))
 simp only[Option.isSome_none,vR,if_false]
 exact wpAny_pure (hQ h₂ λb o hb e=>V6 b o hb (Jm.extBut b o hb (Heap.get?_push_of_some _ e)))
theorem tY{v:V}{vs:List V}{w:Value}{Q:List Value->Shared->Prop}{n:Nat}(e:jj H v=some vs)(hn:n=vs.length)(hh:A.handled=none)(hr:HR S as T H s.heap)(vr:VR S.fa as T v w)
   (q:∀ ws h',br S.fa as T vs ws->(∀ b o,s.heap.get? b=some o->h'.get? b=some o)->Q ws { s with heap:=h' }):wpAny (model S.prog S.w) A (unpackItems w n none) Q E s:=by
  have low:∀{h':Heap},Heap.ExtBut s.heap.objs.size s.heap h'->∀ b o,s.heap.get? b=some o->h'.get? b=some o:=λx b o e=>x b o (d9 (Heap.lt_size e)) e
  have sz:∀{l:List V}{ws:List Value},some l=some vs->br S.fa as T l ws->n=ws.toArray.size:=λe hv=>by rw[hn,fW,hv.length,cj e]
  induction v using V.casesOn with
 |tup l=>exact OI vr λa ws ht hz hv=>sz e hv▸wpAny_unpackItems_tuple hh (hr.im _ _ ht) λh' x=>q ws h' (cj e▸hv) (low x)
 |loc n'=>exact bj e λl hl e=>hr.fX hl vr λa ws k hw hp e1 hz hv=>hw▸sz e hv▸xV hh ⟨_,e1,rfl,k,rfl⟩ λh' x=>q ws h' (cj e▸hv) (low x)
 |_=>exact nn e
theorem oe{ev:ME->Lo->Hp->Option (V×Hp)}:∀{ts:List Tg}{vs:List V}{l l':Lo}{H H':Hp},dM ev ts vs l H=some (l',H')->ts.length=vs.length
 |[],[],_,_,_,_,_=>rfl
 |[],_::_,_,_,_,_,e=>nn e
 |_::_,[],_,_,_,_,e=>nn e
 |t::ts,v::vs,_,_,_,_,e=>by
  rw[o7] at e
  unfold zt at e
  split at e
  ·rw[c9,c9,oe e]
  ·first|exact ff e|exact nn e|exact nn e
theorem qD{G:Str->Option GV}{t:Tg}{x:Expr}(c:pe G t nm sl x=true):notStar x=true:=by
  induction t using Tg.casesOn with
 |loc=>refine wm c ?_;intros;rfl
 |attr=>refine tn c ?_;intros;rfl
 |idx=>refine wn c ?_;intros;rfl
 |tup=>refine wp c ?_;intros;rfl
theorem tZ{x:Expr}{xs:List Expr}(h:notStar x=true):assignEach (x::xs) env=(false,assign x env)::assignEach xs env:=by
 induction x using PySem.Expr.casesOn <;> first|rfl|exact ff h
theorem og{G:Str->Option GV}:∀{ts:List Tg}{xs:List Expr},lT G ts nm sl xs=true->(assignEach xs env).length=ts.length/\(assignEach xs env).findIdx? (·.1)=none
 |[],xs,c=>by cases zO c;exact⟨rfl,rfl⟩
 |t::ts,xs,c=>by
  refine rz c λx xs c1 c2=>?_
  obtain⟨h2,h3⟩:=og c2
  rw[tZ (qD c1)]
  refine⟨by rw[c9,c9,h2],?_⟩
  rw[List.findIdx?_cons,if_neg Bool.false_ne_true,h3];rfl
theorem Jn:wH S call d []:=by
  intro vs l l' H H' e nm sl xs s as T env A E Q ws ao c er hr vr q
  induction vs using List.casesOn with
 |nil=>
   rw[zu] at e;first|exact nn e|exact ff e|cases e
   cases vr
   cases zO c
   exact wpAny_pure (q s.heap s.toks as T (.refl ..) hr er)
 |cons=>exact nn e
theorem ES{t:Tg}{ts:List Tg}(ht:xU S call d t)(QC:wH S call d ts):wH S call d (t::ts):=by
  intro vs l l' H H' e nm sl xs s as T env A E Q ws ao c er hr vr q
  cases vr with
 |nil=>exact nn e
 |@cons v0 w1 l0 Jo v1 v2=>
   refine pj (m:=eV (av S.P call) t v0 l H) e λl1 H1 e1 e=>?_
   refine rz c λx xs c1 c2=>?_
   rw[tZ (qD c1)]
   show wpAny _ A (do holding Jo (assign x env w1);assignInOrder ((assignEach xs env).map (·.2)) Jo) Q E s
   refine wpAny_bind (wpAny_holding (ht e1 ao c1 er hr v1 λh' tk as' T' x' eo Ap=>?_))
   exact QC e ao c2 Ap eo (v2.mono x'.mono) (q.from x')
theorem Jp{ts:List Tg}(QC:wH S call d ts):xU S call d (.tup ts):=by
 intro v l l' H H' e nm sl x s as T env A E Q w ao c er hr vr q
 refine ww e λvs hu e=>?_
 refine wp c λxs _ pos c=>?_
 obtain⟨c1,c2⟩:=og (env:=env) c
 refine wpAny_bind (wpAny_standAt ?_)
 unfold unpack
 rw[c2]
 refine wpAny_bind (wpAny_holding (tY hu (c1.trans (oe e)) ao.handled hr vr λws h' vv kp=>?_))
 have x0:Ext Nil as T s.heap as T h':=.keep kp
 exact QC e ao c (er.ext x0) (hr.keep kp) vv ((q.from (tk:=s.toks) (x0.nil er.me)))
end
end Mine
namespace Mine
inductive xW(S:b0)(as:As)(T:TS):Fl->Flow->Prop
 |next:xW S as T .next .next
 |brk:xW S as T .brk .brk
 |cont:xW S as T .cont .cont
 |ret {v:V} {w:Value}:VR S.fa as T v w->xW S as T (.ret v) (.ret w)
noncomputable def jq(S:b0)(as:As)(T:TS)(s:Shared)(env:Env)(nm:bn)(sl:Sl)(fl:Fl)(l':Lo)(H':Hp)(Q:Flow->Shared->Prop):Prop:=
 ∀ h' tk as' T' f,Ext (EX env) as T s.heap as' T' h'->HR S as' T' H' h'->ER S as' T' env nm sl l' h'->xW S as' T' fl f->Q f { s with heap:=h',toks:=tk }
noncomputable def qE(S:b0)(call:bT)(d:Nat)(st:MS):Prop:=∀⦃l l':Lo⦄⦃H H':Hp⦄⦃fl:Fl⦄,cU S.P call st l H=some (fl,l',H') ->
 ∀⦃nm:bn⦄⦃sl:Sl⦄⦃x:Stmt⦄⦃s:Shared⦄⦃as:As⦄⦃T:TS⦄⦃env:Env⦄⦃A:Around⦄⦃E:Value->Shared->Prop⦄⦃Q:Flow->Shared->Prop⦄,gh A d->qw S.G st nm sl x=true->ER S as T env nm sl l s.heap->HR S as T H s.heap ->
  jq S as T s env nm sl fl l' H' Q->wpAny (model S.prog S.w) A (exec x env) Q E s
noncomputable def t8(S:b0)(call:bT)(d:Nat)(b:List MS):Prop:=∀⦃l l':Lo⦄⦃H H':Hp⦄⦃fl:Fl⦄,aS S.P call b l H=some (fl,l',H') ->
 ∀⦃nm:bn⦄⦃sl:Sl⦄⦃xs:List Stmt⦄⦃s:Shared⦄⦃as:As⦄⦃T:TS⦄⦃env:Env⦄⦃A:Around⦄⦃E:Value->Shared->Prop⦄⦃Q:Flow->Shared->Prop⦄,gh A d->jU S.G b nm sl xs=true->ER S as T env nm sl l s.heap->HR S as T H s.heap ->
  jq S as T s env nm sl fl l' H' Q->wpAny (model S.prog S.w) A (execs xs env) Q E s
section
variable {S:b0}{call:bT}{d:Nat}{as as':As}{T T':TS}{H H':Hp}{h h':Heap}{s:Shared}{env:Env}{nm:bn}{sl:Sl}{l:Lo}{A:Around}{E:Value->Shared->Prop}
theorem jq.from{aQ:As}{T1:TS}{h1:Heap}{tk:Tok}{fl:Fl}{l':Lo}{Q:Flow->Shared->Prop}(k:jq S as T s env nm sl fl l' H' Q)(e:Ext (EX env) as T s.heap aQ T1 h1):jq S aQ T1 { s with heap:=h1,toks:=tk } env nm sl fl l' H' Q:=
 λh' tA as' T' f e' hr er fr=>k h' tA as' T' f (e.trans e') hr er fr
theorem jq.of{fl f0:Fl}{l' l0:Lo}{H0:Hp}{Q:Flow->Shared->Prop}(k:jq S as T s env nm sl fl l' H' Q)(e:(f0,l0,H0)=(fl,l',H')):jq S as T s env nm sl f0 l0 H0 Q:=by cases e;exact k
theorem jq.rM{fl f0:Fl}{l' l0:Lo}{H0:Hp}{Q:Flow->Shared->Prop}(k:jq S as T s env nm sl fl l' H' Q)(e:some (f0,l0,H0)=some (fl,l',H')):jq S as T s env nm sl f0 l0 H0 Q:=k.of (cj e)
@[elab_as_elim] theorem xW.el{P:Fl->Flow->Prop}{f:Fl}{g:Flow}(x:xW S as T f g)(k1:P .next .next)(k2:P .brk .brk)(k3:P .cont .cont)(k4:∀ v w,VR S.fa as T v w->P (.ret v) (.ret w)):P f g:=by
  induction x with
 |next=>exact k1
 |brk=>exact k2
 |cont=>exact k3
 |ret h=>exact k4 _ _ h
theorem QD:t8 S call d []:=by
 intro l l' H H' fl e nm sl xs s as T env A E Q ao c er hr q
 rw[P0] at e;first|exact nn e|exact ff e|cases e
 cases LZ c
 exact wpAny_execs_nil (q s.heap s.toks as T _ (.refl ..) hr er .next)
theorem Mu{st:MS}{b:List MS}(h1:qE S call d st)(h2:t8 S call d b):t8 S call d (st::b):=by
  intro l l' H H' fl e nm sl xs s as T env A E Q ao c er hr q
  refine Cg c λx ys c1 c2=>?_
  have e:(match cU S.P call st l H with
   |some (.next,l,H)=>aS S.P call b l H
   |x=>x)=some (fl,l',H'):=e
  generalize e1:cU S.P call st l H=o at e
  match o,e with
 |none,e=>exact nn e
 |some (f,l1,H1),e=>
    refine wpAny_execs_cons (h1 e1 ao c1 er hr λh' tk as' T' g x' eo Ap fr=>?_)
    clear e1
    revert e
    exact fr.el (λe=>h2 e ao c2 Ap eo (q.from x')) (λe=>q.rM e _ _ _ _ _ x' eo Ap .brk) (λe=>q.rM e _ _ _ _ _ x' eo Ap .cont) λv w vr e=>q.rM e _ _ _ _ _ x' eo Ap (.ret vr)
theorem Jq(er:ER S as T env nm sl l h):interactive env=false:=by
 unfold interactive
 rw[er.kind];rfl
theorem Aq{x:Expr}(h:hH x=true)(t:Option Expr)(n:Nat):swapsWith x t n env=pure false:=by
 induction x using PySem.Expr.casesOn <;> first|rfl|exact ff h|exact nn h|exact nn h
theorem QE:qE S call d .bad:=by
 intro l l' H H' fl e;exact nn e
theorem Mv{e0:ME}(h0:bu S call d e0):qE S call d (.expr e0):=by
 intro l l' H H' fl e nm sl x s as T env A E Q ao c er hr q
 refine Cq e λv H1 e1 e=>?_
 cases e
 refine Ce c λy p c1 c2=>?_
 refine wpAny_Expr_any (h0 e1 ao c2 er hr λw h1 dm aQ T1 x1 aO vr=>?_) (Jq er) (Aq c1 _ _)
 exact q _ _ _ _ _ (x1.nil er.me) aO (er.ext x1) .next
theorem QF{e0:ME}(h0:bu S call d e0):qE S call d (.ret e0):=by
 intro l l' H H' fl e nm sl x s as T env A E Q ao c er hr q
 refine Gp e λv H1 e1 e=>?_
 cases e
 refine F8 c λy p c=>?_
 exact wpAny_Return_some (h0 e1 ao c er hr λw h1 dm aQ T1 x1 aO vr=>q _ _ _ _ _ (x1.nil er.me) aO (er.ext x1) (.ret vr))
theorem QG:qE S call d .brk:=by
 intro l l' H H' fl e nm sl x s as T env A E Q ao c er hr q
 have e:(some (Fl.brk,l,H):SR)=some (fl,l',H'):=e
 cases e
 refine LY c λp=>?_
 exact wpAny_Break (q s.heap s.toks as T _ (.refl ..) hr er .brk)
theorem Mw:qE S call d .cont:=by
 intro l l' H H' fl e nm sl x s as T env A E Q ao c er hr q
 have e:(some (Fl.cont,l,H):SR)=some (fl,l',H'):=e
 cases e
 refine IM c λp=>?_
 exact wpAny_Continue (q s.heap s.toks as T _ (.refl ..) hr er .cont)
theorem Mx{t:ME}{b o:List MS}(ht:lY S call d t)(hb:t8 S call d b)(ho:t8 S call d o):qE S call d (.aB t b o):=by
 intro l l' H H' fl e nm sl x s as T env A E Q ao c er hr q
 refine Gc c λy z w p c1 c2 c3=>?_
 obtain⟨H1,e⟩:=L1 e
 rcases e with⟨e1,e⟩|⟨e1,e⟩
 ·exact wpAny_If (ht e1 ao c1 er hr λh1 dm aQ T1 x1 aO=>hb e ao c2 (er.ext x1) aO (q.from (x1.nil er.me)))
 ·exact wpAny_If (ht e1 ao c1 er hr λh1 dm aQ T1 x1 aO=>ho e ao c3 (er.ext x1) aO (q.from (x1.nil er.me)))
theorem G0{M:Model}{Q:Value->Shared->Prop}(x:ER S as T env nm sl l s.heap){i:Nat}{v:V}{n:Str}(c:cv nm sl i n=true)(hv:l[i]?=some (some v))(k:∀ w,VR S.fa as T v w->Q w s):wpAny M A (loadName env n) Q E s:=by
  refine fH c λb e1 e2=>?_
  have hk:env.kindOf n=some (B7 b):=by unfold Env.kindOf;rw[x.names];exact e2
  induction b with
 |false=>
   obtain⟨m,hn,hm⟩:=x.loc
   obtain⟨w,h1,h2⟩:=hm i v n hv e1
   exact wpAny_loadName_local x.kind hk hn h1 (k w h2)
 |true=>
   obtain⟨c,w,h1,h2,h3⟩:=x.cell i n e1
   obtain⟨u,rfl,h5⟩:=h3 v hv
   exact wpAny_loadName_cell x.kind hk h1 h2 (k u h5)
theorem QH{i:Nat}{op:jO}{e0:ME}(h0:bu S call d e0):qE S call d (.aug i op e0):=by
 intro l l' H H' fl e nm sl x s as T env A E Q ao c er hr q
 refine Gs e λa b H1 r ha e1 eo e=>?_
 cases e
 refine Gb c λn np o y p c1 c2 c3=>?_
 refine wpAny_AugAssign_Name (G0 er c2 ha λwa ra=>?_)
 refine h0 e1 ao c3 er hr λwb h1 dm aQ T1 x1 aO rb=>?_
 have gy:=er.ext x1
 refine EF eo c1 aO (ra.mono x1.mono) rb λw h2 ix iu T2 x2 bL vr=>?_
 refine j1 (gy.ext x2) bL c2 vr λh3 rN pt T3 x3 fR vz=>?_
 exact q _ _ _ _ _ (((x1.trans x2).nil er.me).trans x3) fR vz .next
theorem My(C:Cx S){o:ME}{a:Nat}{op:jO}{e0:ME}(ho:bu S call d o)(h0:bu S call d e0):qE S call d (.lh o a op e0):=by
 intro l l' H H' fl e nm sl x s as T env A E Q ao c er hr q
 refine Cr e λov H1 u b H2 r H3 e1 hu e2 eo hs e=>?_
 cases e
 refine Cf c λy yp o' z p c1 c3 c4 c5 c6=>?_
 refine wpAny_AugAssign_AttributeAny (ho e1 ao c5 er hr λwo h1 dm aQ T1 x1 aO ro=>?_)
 refine zW C aO ro hu λwu ix ru=>?_
 refine h0 e2 ao c6 (s:={ s with heap:=h1,toks:=ix }) (er.ext x1) aO λwb h3 rN pt T3 x3 fR rb=>?_
 refine EF eo c1 fR (ru.mono x3.mono) rb λw h4 Qn To T4 x4 Jd vr=>?_
 refine zY C Jd (ro.mono (x3.trans x4).mono) vr c3 hs λh5 QI QJ T5 x5 xX=>?_
 have ex:=((x1.trans x3).trans x4).trans x5
 exact q _ _ _ _ _ (ex.nil er.me) xX (er.ext ex) .next
theorem CL{y x:Expr}{pos:Pos}{Q:Flow->Shared->Prop}(hy:notStar y=true)(hs:swapsWith x (some y) pos.line env=pure false)(hw:swappedStores [y] x env=pure none)
  (h:wpAny (model S.prog S.w) A (eval x env) (λv s₁=>wpAny (model S.prog S.w) A (assign y env v) (λ_=>Q .next) E s₁) E s):wpAny (model S.prog S.w) A (exec (.Assign [y] x pos) env) Q E s:=by
 refine wpAny_Assign_stores (wpAny_mono h (λv s₁ h₁=>?_) λ_ _ e=>e) hs hw
 have h1:assignEach [y] env=[(false,assign y env)]:=by induction y using PySem.Expr.casesOn <;> first|rfl|exact ff hy|exact nn hy|exact nn hy
 rw[h1]
 exact h₁
theorem Mz(ts vs:List Expr)(k k2:Nat)(p p2:Pos)(env:Env):swappedStores [.Tuple ts k p] (.Tuple vs k2 p2) env =
 (if(!(ts.length==2 || ts.length==3) || vs.length != ts.length || env.blockKind != .function)=true then pure none
 else if vs.any isStarred=true then pure none
 else if((ts.filterMap (jS env.scope.names ((ts.head?.map (·.pos.line)).getD 0))).length != ts.length || (ts.filterMap (jS env.scope.names ((ts.head?.map (·.pos.line)).getD 0))).eraseDups.length != (ts.filterMap (jS env.scope.names ((ts.head?.map (·.pos.line)).getD 0))).length)=true then pure none
 else if vs.all (foldedForSure 8)=true then pure none
 else if vs.all (constantsAlone 8)=true then(do unsupported "assign.tuple-of-constant-expressions:order-of-the-stores";pure (some (ts.filterMap (jS env.scope.names ((ts.head?.map (·.pos.line)).getD 0)))))
 else pure (some (ts.filterMap (jS env.scope.names ((ts.head?.map (·.pos.line)).getD 0))))):=rfl
theorem ET{m:Sem (Option (List Str))}{r:Option (List Str)}(h:some none=some r)(p:m=pure none):m=pure r:=by cases h;exact p
theorem Jr{m:Sem (Option (List Str))}{c1 c2 c3 c4 c5:Bool}{g:List Str}{r:Option (List Str)}(h:Iz c1 c2 c3 c4 c5 g=some r) :
    (if c1=true then pure none else if c2=true then pure none else if c3=true then pure none else if c4=true then pure none else if c5=true then m else pure (some g):Sem (Option (List Str)))=pure r:=by
  induction c1 with
 |true=>cases h;rfl
 |false=>induction c2 with
   |true=>cases h;rfl
   |false=>induction c3 with
     |true=>cases h;rfl
     |false=>induction c4 with
      |true=>cases h;rfl
      |false=>induction c5 with
       |true=>exact nn h
       |false=>cases h;rfl
theorem EU{y x:Expr}{r:Option (List Str)}(hk:env.scope.kind=.function)(h:zA env.scope.names y x=some r):swappedStores [y] x env=pure r:=by
  induction y using PySem.Expr.casesOn with
 |Tuple ts k p=>
    have h:(match (generalizing:=false) x with|.Tuple vs _ _=>tupQ env.scope.names ts vs|_=>some none)=some r:=h
    induction x using PySem.Expr.casesOn with
   |Tuple vs k2 p2=>
     have hb:env.blockKind=.function:=by unfold Env.blockKind;rw[hk];rfl
     rw[Mz,hb]
     simp only[bne_self_eq_false,Bool.or_false]
     exact Jr h
   |_=>exact ET h rfl
 |List=>exact nn h
 |_=>exact ET h rfl
theorem Js{y x:Expr}{pos:Pos}{ns:List Str}{Q:Flow->Shared->Prop}{ts:List Expr}{k:Nat}{tp:Pos}(hy:y=.Tuple ts k tp)(hs:swapsWith x (some y) pos.line env=pure false)(hw:swappedStores [y] x env=pure (some ns))
  (h:wpAny (model S.prog S.w) A (eval x env) (λv s₁=>wpAny (model S.prog S.w) A (unpackItems v ns.length none) (λitems s₂=>wpAny (model S.prog S.w) A (assignInOrder (ns.reverse.map λn=>bindName env n) items.reverse) (λ_=>Q .next) E s₂) E s₁) E s) :
  wpAny (model S.prog S.w) A (exec (.Assign [y] x pos) env) Q E s:=by
 subst hy
 exact Assign_Tuple_swapped h hs hw
theorem EV{w:Value}{ws:List Value}{ts:List (Value->Sem Unit)}{n:Str}{M:Model}{Q:Unit->Shared->Prop}(h:wpAny M A (storeName env n w) (λ_ s₁=>wpAny M A (assignInOrder ts ws) Q E s₁) E s) :
  wpAny M A (assignInOrder ((λw=>bindName env n w)::ts) (w::ws)) Q E s:=by
 show wpAny M A (do holding ws (bindName env n w);assignInOrder ts ws) Q E s
 exact wpAny_bind (wpAny_holding (wpAny_bindName h))
theorem QK{i j:Nat}{a b:Str}{v1 v2:V}{w1 w2:Value}{Q:Unit->Shared->Prop}(er:ER S as T env nm sl l s.heap)(hr:HR S as T H s.heap)(hn:a≠b)(c1:cv nm sl i a=true)(c2:cv nm sl j b=true)(r1:VR S.fa as T v1 w1)(r2:VR S.fa as T v2 w2)
  (q:nN S as T s env nm sl ((l.set i (some v1)).set j (some v2)) H Q):wpAny (model S.prog S.w) A (assignInOrder [λw=>bindName env b w,λw=>bindName env a w] [w2,w1]) Q E s:=by
 have L4:i≠j:=λq=>by
  refine fH c1 λb1 e1 _=>?_
  refine fH c2 λb2 e2 _=>?_
  rw[q] at e1;rw[e1] at e2;cases e2;exact hn rfl
 refine EV (j1 er hr c2 r2 λh1 dm aQ T1 x1 aO gy=>?_)
 refine EV (j1 gy aO c1 (r1.mono x1.mono) λh2 ix iu T2 x2 bL rO=>?_)
 rw[List.set_comm _ _ (cA L4)] at rO
 exact wpAny_pure (q _ _ _ _ (x1.trans x2) bL rO)
end
end Mine
namespace Mine
section
variable {S:b0}{call:bT}{d:Nat}{as as':As}{T T':TS}{H H':Hp}{h h':Heap}{s:Shared}{env:Env}{nm:bn}{sl:Sl}{l:Lo}{A:Around}{E:Value->Shared->Prop}
theorem sn{p:Prop}{ns:List Str}(h:(some none:Option (Option (List Str)))=some (some ns)):p:=by cases h
theorem CM{c1 c2 c3 c4 c5:Bool}{g ns:List Str}(h:Iz c1 c2 c3 c4 c5 g=some (some ns)):g=ns/\c3=false:=by
  induction c1 with
 |true=>cases h
 |false=>induction c2 with
   |true=>cases h
   |false=>induction c3 with
    |true=>cases h
    |false=>induction c4 with
     |true=>cases h
     |false=>induction c5 with
      |true=>exact nn h
      |false=>cases h;exact⟨rfl,rfl⟩
theorem CN{y x:Expr}{ns:List Str}(h:zA nm y x=some (some ns)):(∃ ts k p,y=.Tuple ts k p)/\ns.eraseDups.length=ns.length:=by
  induction y using PySem.Expr.casesOn with
 |Tuple ts k p=>
    refine⟨⟨_,_,_,rfl⟩,?_⟩
    have h:(match (generalizing:=false) x with|.Tuple vs _ _=>tupQ nm ts vs|_=>some none)=some (some ns):=h
    induction x using PySem.Expr.casesOn with
   |Tuple vs k2 p2=>
     obtain⟨rfl,h2⟩:=CM h
     exact Decidable.byContradiction λz=>ff (h2.symm.trans (by rw[bne_iff_ne.mpr z,Bool.or_true]))
   |_=>exact sn h
 |List=>exact nn h
 |_=>exact sn h
theorem QL{a b:Str}(h:[a,b].eraseDups.length=2):a≠b:=by
 intro q;subst q;simp[List.eraseDups_cons] at h
theorem QM{ns:List Str}(h:jl nm sl [] ns=true):ns=[]:=by
  induction ns using List.casesOn with
 |nil=>rfl
 |cons=>exact ff h
theorem pv{i:Nat}{is:List Nat}{ns:List Str}(h:jl nm sl (i::is) ns=true){zg:Prop}(zk:∀ a r,(ns=a::r)->(cv nm sl i a=true)->(jl nm sl is r=true)->zg):zg:=by
 obtain⟨a,r,cR,cX,io⟩:∃ a r,ns=a::r/\cv nm sl i a=true/\jl nm sl is r=true:=by
   induction ns using List.casesOn with
  |nil=>exact ff h
  |cons a r=>exact⟨a,r,rfl,ai h⟩
 exact zk a r cR cX io
theorem Jt{i j:Nat}{ns:List Str}(h:jl nm sl [i,j] ns=true){zg:Prop}(zk:∀ a b,(ns=[a,b])->(cv nm sl i a=true)->(cv nm sl j b=true)->zg):zg:=by
 refine pv h λa r QN=>?_
 subst QN
 intro h1 h
 refine pv h λb r QO=>?_
 subst QO
 intro h2 h
 cases QM h
 exact zk a b rfl h1 h2
section
variable {ev:ME->Lo->Hp->Option (V×Hp)}{v:V}{l1:Lo}{H2:Hp}
theorem CO{ts:List Tg}(e:eV ev (.tup ts) v l H=some (l1,H2)){zg:Prop}(zk:∀ vs,(jj H v=some vs)->(dM ev ts vs l H=some (l1,H2))->zg):zg:=by
 obtain⟨vs,cR,cX⟩:∃ vs,jj H v=some vs/\dM ev ts vs l H=some (l1,H2):=by
  exact L2 e
 exact zk vs cR cX
theorem Ar{vs:List V}(e:dM ev [] vs l H=some (l1,H2)){zg:Prop}(zk:(vs=[])->(l1=l)->(H2=H)->zg):zg:=by
  induction vs using List.casesOn with
 |nil=>rw[zu] at e;cases e;exact zk rfl rfl rfl
 |cons=>exact nn e
theorem rE{i:Nat}{ts:List Tg}{vs:List V}(e:dM ev (.loc i::ts) vs l H=some (l1,H2)){zg:Prop}(zk:∀ a r,(vs=a::r)->(dM ev ts r (l.set i (some a)) H=some (l1,H2))->zg):zg:=by
  induction vs using List.casesOn with
 |nil=>exact nn e
 |cons a r=>rw[o7,Ej] at e;exact zk a r rfl e
theorem MA{i j:Nat}(e:eV ev (.tup [.loc i,.loc j]) v l H=some (l1,H2)){zg:Prop}(zk:∀ a b,(jj H v=some [a,b])->(l1=(l.set i (some a)).set j (some b))->(H2=H)->zg):zg:=by
 refine CO e λvs hu e1=>?_
 refine rE e1 λa r1 QP=>?_
 subst QP
 intro e2
 refine rE e2 λb r2 QQ=>?_
 subst QQ
 intro e3
 refine Ar e3 λQR=>?_
 subst QR
 intro h1 h2
 exact zk a b hu h1 h2
end
theorem MB{t:Tg}{r:Option (Option (List Str))}(h:Ep nm sl t r=true):r=some none\/∃ ns i j,r=some (some ns)/\t=.tup [.loc i,.loc j]/\jl nm sl [i,j] ns=true:=by
  cases r with
 |none=>exact ff h
 |some r=>cases r with
   |none=>exact .inl rfl
   |some ns=>
     have lo:∀{t:Tg}{f:Nat->Bool},(match B9 t with|none=>false|some i=>f i)=true->∃ i,t=.loc i/\f i=true:=by
       intro t f h
       induction t using Tg.casesOn with
      |loc i=>exact⟨i,rfl,h⟩
      |_=>exact ff h
     induction t using Tg.casesOn with
    |tup ts=>
       have h:OE nm sl ts ns=true:=h
       induction ts using List.casesOn with
      |nil=>exact ff h
      |cons t ts=>
         obtain⟨i,rfl,h⟩:=lo h
         induction ts using List.casesOn with
        |nil=>exact ff h
        |cons t ts=>
           obtain⟨j,rfl,h⟩:=lo h
           induction ts using List.casesOn with
          |nil=>exact .inr ⟨ns,i,j,rfl,rfl,h⟩
          |cons=>exact ff h
    |_=>exact ff h
theorem kH{t:Tg}{e0:ME}(ht:xU S call d t)(h0:bu S call d e0){l':Lo}{fl:Fl}(e:cU S.P call (.asg t e0) l H=some (fl,l',H')){y x:Expr}{pos:Pos}{as:As}{T:TS}{Q:Flow->Shared->Prop}(ao:gh A d)
  (c1:pe S.G t nm sl y=true) (c2:aL S.G e0 nm sl x=true) (hc:hH x=true)
  (c3:Ep nm sl t (zA nm y x)=true) (er:ER S as T env nm sl l s.heap) (hr:HR S as T H s.heap) (q:jq S as T s env nm sl fl l' H' Q):wpAny (model S.prog S.w) A (exec (.Assign [y] x pos) env) Q E s:=by
 refine qx e λv H1 l1 H2 e1 e2 e=>?_
 cases e
 have hs:=Aq (env:=env) hc (some y) pos.line
 rcases MB c3 with hq|⟨ns,i,j,hq,rfl,c4⟩
 ·refine CL (qD c1) hs (EU er.kind (er.names▸hq)) (h0 e1 ao c2 er hr λw h1 dm aQ T1 x1 aO vr=>?_)
  exact ht e2 ao c1 (er.ext x1) aO vr λh2 ix iu T2 x2 bL rO=>q _ _ _ _ _ ((x1.nil er.me).trans x2) bL rO .next
 ·obtain⟨⟨ts,k,tp,hy⟩,hd⟩:=CN hq
  refine Js hy hs (EU er.kind (er.names▸hq)) (h0 e1 ao c2 er hr λw h1 dm aQ T1 x1 aO vr=>?_)
  have gy:=er.ext x1
  refine Jt c4 λa b QS=>?_
  subst QS
  intro g1 g2
  refine MA e2 λv1 v2 hu QT=>?_
  subst QT
  intro QU
  subst QU
  refine tY hu rfl ao.handled aO vr λws h2 vv kp=>?_
  refine EH vv λw1 w2 QV=>?_
  subst QV
  intro r1 r2
  refine QK (gy.ext (.keep kp)) (aO.keep kp) (QL hd) g1 g2 r1 r2 λh3 rN pt T3 x3 fR vz=>?_
  exact q _ _ _ _ _ (((x1.trans (.keep kp)).nil er.me).trans x3) fR vz .next
noncomputable def Ju(X:Lo->Hp->SR)(l2:Lo)(H2:Hp)(r:Fl×Lo×Hp):Fl->Prop
 |.next=>X l2 H2=some r
 |.cont=>X l2 H2=some r
 |.brk=>some (.next,l2,H2)=some r
 |.ret u=>some (.ret u,l2,H2)=some r
theorem MC{t:Lo->Hp->Option (V×Hp)}{b:Lo->Hp->SR}{n:Nat}{r:Fl×Lo×Hp}(e:dG t b (n+1) l H=some r){zg:Prop}(k1:∀ H1,t l H=some (.bool false,H1)->some (.next,l,H1)=some r->zg)
    (k2:∀ H1 f l2 H2,t l H=some (.bool true,H1)->b l H1=some (f,l2,H2)->Ju (dG t b n) l2 H2 r f->zg):zg:=by
  rw[mM] at e
  refine aw e λv H1 e1 e=>?_
  induction v using V.casesOn with
 |bool q=>
    induction q with
   |false=>exact k1 H1 e1 e
   |true=>
      dsimp only at e
      generalize hb:b l H1=o at e
      match o,e with
     |none,e=>exact nn e
     |some (f,l2,H2),e=>exact k2 H1 f l2 H2 e1 hb (by induction f <;> exact e)
 |_=>exact nn e
theorem MD{t:CT}{b:Lo->Hp->SR}{n:Nat}{it:It}{r:Fl×Lo×Hp}(e:dX t b (n+1) it l H=some r){zg:Prop}(k1:du H it=some none->some (.next,l,H)=some r->zg)
    (k2:∀ v eB l1 f l2 H2,du H it=some (some (v,eB))->eG t v l=some l1->b l1 H=some (f,l2,H2)->Ju (dX t b n eB) l2 H2 r f->zg):zg:=by
  rw[o8] at e
  generalize hn:du H it=o at e
  match o,e with
 |none,e=>exact nn e
 |some none,e=>exact k1 hn e
 |some (some (v,eB)),e=>
    dsimp only at e
    generalize hs:eG t v l=o at e
    match o,e with
   |none,e=>exact nn e
   |some l1,e=>
      dsimp only at e
      generalize hb:b l1 H=o at e
      match o,e with
     |none,e=>exact nn e
     |some (f,l2,H2),e=>exact k2 v eB l1 f l2 H2 hn hs hb (by induction f <;> exact e)
inductive WJ(S:b0)(call:bT)(as:As)(T:TS)(s:Shared)(env:Env)(nm:bn)(sl:Sl)(t:ME)(b:List MS)(fl:Fl)(l':Lo)(H':Hp)(n:Nat):Shared->Prop where
 |mk (h1:Heap) (dm:_) (aQ:As) (T1:TS) (l1:Lo) (H1:Hp) (x:Ext (EX env) as T s.heap aQ T1 h1) (r:HR S aQ T1 H1 h1) (er:ER S aQ T1 env nm sl l1 h1) (e:dG (av S.P call t) (λl H=>aS S.P call b l H) n l1 H1=some (fl,l',H')):WJ S call as T s env nm sl t b fl l' H' n { s with heap:=h1,toks:=dm }
theorem Au{t:ME}{b:List MS}(ht:lY S call d t)(hb:t8 S call d b){x:Expr}{y:List Stmt}{R:Result->Shared->Prop}{fl:Fl}{l':Lo}{n:Nat}(ao:gh A d)(c1:aL S.G t nm sl x=true)(c2:jU S.G b nm sl y=true)(er:ER S as T env nm sl l s.heap)(hr:HR S as T H s.heap)
   (e:dG (av S.P call t) (λl H=>aS S.P call b l H) n l H=some (fl,l',H')) (q:jq S as T s env nm sl fl l' H' (λf s'=>R (.ok f) s')):codeAny (model S.prog S.w) A (.whileLoop x y [] env) R s:=by
  refine codeAny_whileLoop (WJ S call as T s env nm sl t b fl l' H') (λn s1 hI=>?_) n (.mk s.heap s.toks as T l H (.refl ..) hr er e)
  obtain⟨h1,dm,aQ,T1,l1,H1,x1,aO,gy,e⟩:=hI
  generalize notedBy (model S.prog S.w) A env (λe s'=>R (.error e) s')=E1
  induction n using Nat.casesOn with
 |zero=>exact nn e
 |succ n=>
   refine MC e (λH2 e2 e=>ht e2 ao c1 gy aO λh2 ix iu T2 x2 bL=>?_) (λH2 f l3 H3 e2 e3 e=>ht e2 ao c1 gy aO λh2 ix iu T2 x2 bL=>?_)
   ·exact wpAny_execs_nil (q.rM e _ _ _ _ _ (x1.trans (x2.nil gy.me)) bL (gy.ext x2) .next)
   ·have MF:=x1.trans (x2.nil gy.me)
    refine hb e3 ao c2 (gy.ext x2) bL λh3 rN pt T3 g x3 fR vz fr=>?_
    clear e2 e3
    revert e
    exact fr.el (λe=>⟨n,lJ n,.mk h3 _ pt T3 _ _ (MF.trans x3) fR vz e⟩) (λe=>q.rM e _ _ _ _ _ (MF.trans x3) fR vz .next) (λe=>⟨n,lJ n,.mk h3 _ pt T3 _ _ (MF.trans x3) fR vz e⟩) λv w vr e=>q.rM e _ _ _ _ _ (MF.trans x3) fR vz (.ret vr)
theorem MG{t:ME}{b:List MS}(ht:lY S call d t)(hb:t8 S call d b):qE S call d (.lM t b):=by
 intro l l' H H' fl e nm sl x s as T env A E Q ao c er hr q
 refine Gd c λy z p c1 c2=>?_
 exact wpAny_While (Au ht hb ao c1 c2 er hr e q)
theorem EW{it:It}{I:Addr}{v:Value}{t:Expr}{Q:Unit->Shared->Prop}(x:IR S as T s.heap it I)(q:Q () s):wpAny (model S.prog S.w) A (letOwnedTupleGo t (.ref I) v) Q E s:=by
 obtain⟨o,ho,n,vs,hc,hd,hn⟩:∃ o,s.heap.get? I=some o/\∃ n vs,o.cls=.type n/\o.data=.fields vs /\
     (["enumerate","zip","dict_itemiterator","dict_reverseitemiterator","odict_iterator","itertools.zip_longest","itertools.pairwise"]:List String).contains n=false:=by
   induction x with
  |tup a _ _=>obtain⟨o,e,c,d⟩:=a;exact⟨o,e,_,_,c,d,by decide⟩
  |str a _=>obtain⟨o,e,c,d⟩:=a;exact⟨o,e,_,_,c,d,by decide⟩
  |lst a _=>obtain⟨o,e,c,d⟩:=a;exact⟨o,e,_,_,c,d,by decide⟩
  |cQ a=>exact⟨_,a,_,_,rfl,rfl,by decide⟩
 have go:∀ a:Addr,wpAny (model S.prog S.w) A (do
     let o ← load I
     match o.cls,o.data with
    |.type n,.fields vs=>
      if((["enumerate","zip","dict_itemiterator","dict_reverseitemiterator","odict_iterator","itertools.zip_longest","itertools.pairwise"]:List String).contains n&&vs[0]?==some (rawInt a))=true then do
       rule "for.unpacks-the-owned-tuple"
       updateField I 0 .none
      else pure ()
    |_,_=>pure ():Sem Unit) Q E s:=λa=>by
   refine wpAny_bind (wpAny_load ho ?_)
   rw[hc,hd]
   show wpAny _ A (if(_&&_)=true then _ else _) Q E s
   rw[hn,Bool.false_and,if_neg (by decide)]
   exact wpAny_pure q
 induction t using PySem.Expr.casesOn <;> first|exact wpAny_pure q|(induction v <;> first|exact wpAny_pure q|exact go _)
noncomputable def Jv:CT->Tg
 |.one i=>.loc i
 |.many is=>.tup (is.map .loc)
theorem Av:∀ is:List Nat,wH S call d (is.map .loc)
 |[]=>Jn
 |_::r=>ES CK (Av r)
theorem QW(t:CT):xU S call d (Jv t):=by
  induction t with
 |one i=>exact CK
 |many is=>exact Jp (Av is)
theorem kI{ev:ME->Lo->Hp->Option (V×Hp)}:∀{is:List Nat}{vs:List V}{l l':Lo},g7 is vs l=some l'->dM ev (is.map .loc) vs l H=some (l',H)
 |[],[],_,_,e=>by rw[nS] at e;cases e;rfl
 |[],_::_,_,_,e=>nn e
 |_::_,[],_,_,e=>nn e
 |i::is,v::vs,_,_,e=>by
  rw[nT] at e
  rw[dD,o7,Ej]
  exact kI e
theorem CP{ev:ME->Lo->Hp->Option (V×Hp)}{t:CT}{v:V}{l l':Lo}(e:eG t v l=some l'):eV ev (Jv t) v l H=some (l',H):=by
  induction t with
 |one=>cases e;rfl
 |many is=>induction v using V.casesOn with
   |tup vs=>
    show eV ev (.tup (is.map .loc)) (.tup vs) l H=some (l',H)
    rw[LR]
    exact kI e
   |_=>exact nn e
theorem qF{G:Str->Option GV}:∀{is:List Nat}{es:List Expr},nH nm sl is es=true->lT G (is.map .loc) nm sl es=true
 |[],es,c=>by cases Eu c;rfl
 |i::is,es,c=>by
  refine to c λn p es c1 c2=>?_
  exact(nz.mpr ⟨c1,qF c2⟩:(cv nm sl i n&&lT G (is.map .loc) nm sl es)=true)
theorem QX{G:Str->Option GV}{t:CT}{e:Expr}(c:nJ nm sl t e=true):pe G (Jv t) nm sl e=true:=by
  induction t with
 |one i=>exact c
 |many is=>
   refine tq c λxs k p c=>?_
   exact qF c
theorem rF{x:Expr}(h:gg x=true)(env:Env)(v:Value):foldedSetIterable x env v=pure v:=by
 induction x using PySem.Expr.casesOn <;> first|rfl|exact ff h|exact nn h|exact nn h
theorem Aw{as aQ:As}{T T1:TS}(m:eP as T aQ T1){b:Addr}(h:b∈owned as):b∈owned aQ:=by
 obtain⟨p,hp,hb⟩:=nA.mp h
 obtain⟨n,hn⟩:=vP hp
 exact nA.mpr ⟨p,lb (m.Gv n p hn),hb⟩
theorem Ext.dead{as aQ:As}{T T1:TS}{h h1:Heap}(x:Ext Nil as T h aQ T1 h1)(aO:HR S aQ T1 H' h1){I:Addr}(hI:h1.get? I=none):h.get? I=none:=by
  cases hz:h.get? I with
 |none=>rfl
 |some o=>
   by_cases hm:I∈owned as
   ·obtain⟨q,hq⟩:=aO.alive (Aw x.mono hm)
    rw[hI] at hq;first|exact nn hq|exact ff hq|exact nn hq
   ·have:=x.kp I o hm (λz=>z) hz
    rw[hI] at this;first|exact nn this|exact ff this|exact nn this
theorem Ext.off{X:Addr->Prop}{as aQ:As}{T T1:TS}{h h1 h2:Heap}{I:Addr}(x:Ext X as T h aQ T1 h1)(k:∀ b o,b≠I->h1.get? b=some o->h2.get? b=some o)(hI:h.get? I=none)(hX:¬ X I):Ext X as T h aQ T1 h2:=
 ⟨x.mono,λb o n1 n2 e=>k b o (λq=>by rw[q,hI] at e;exact nn e) (x.kp b o n1 n2 e),λb hb e=>by
  obtain⟨o,ho⟩:=DT.mp (x.al b hb e)
  rw[k b o (λq=>hX (q▸hb)) ho];rfl,x.own⟩
theorem HR.iter{it:It}{I:Addr}(hr:HR S as T H h)(x:IR S as T h it I)(f:gF S as env I)(k:Heap.ExtBut I h h'):HR S as T H h':=
 hr.but k f.own f.old (x.V2 hr)
inductive FJ(S:b0)(call:bT)(s:Shared)(env:Env)(nm:bn)(sl:Sl)(I:Addr)(CQ:As)(T0:TS)(h0:Heap)(t:CT)(b:List MS)(fl:Fl)(l':Lo)(H':Hp)(n:Nat):Shared->Prop where
 |mk (hn:Heap) (Tw:_) (G1:As) (Tn:TS) (ln:Lo) (Hn:Hp) (QY:It) (x:Ext (EX env) CQ T0 h0 G1 Tn hn) (r:HR S G1 Tn Hn hn) (er:ER S G1 Tn env nm sl ln hn) (ir:IR S G1 Tn hn QY I) (f:gF S G1 env I) (e:dX t (λl H=>aS S.P call b l H) n QY ln Hn=some (fl,l',H')):FJ S call s env nm sl I CQ T0 h0 t b fl l' H' n { s with heap:=hn,toks:=Tw }
theorem G3{t:CT}{b:List MS}(hb:t8 S call d b){y:Expr}{z:List Stmt}{R:Result->Shared->Prop}{I:Addr}{it:It}{fl:Fl}{l':Lo}{n:Nat}{CQ:As}{T0:TS}{h0:Heap}(ao:gh A d)(c1:nJ nm sl t y=true)(c4:jU S.G b nm sl z=true)(er:ER S as T env nm sl l s.heap)(hr:HR S as T H s.heap)
   (ir:IR S as T s.heap it I) (f:gF S as env I) (x0:Ext (EX env) CQ T0 h0 as T s.heap) (Tx:h0.get? I=none) (e:dX t (λl H=>aS S.P call b l H) n it l H=some (fl,l',H'))
   (q:∀ h' tk as' T' g,Ext (EX env) CQ T0 h0 as' T' h'->HR S as' T' H' h'->ER S as' T' env nm sl l' h'->xW S as' T' fl g->R (.ok g) { s with heap:=h',toks:=tk }):codeAny (model S.prog S.w) A (.forLoop y (.ref I) z [] env) R s:=by
  refine codeAny_forLoop_any (FJ S call s env nm sl I CQ T0 h0 t b fl l' H') (λn s1 hI=>?_) n (.mk s.heap s.toks as T l H it x0 hr er ir f e)
  obtain⟨hn,Tw,G1,Tn,ln,Hn,QY,xn,MH,Tz,MJ,fn,e⟩:=hI
  generalize notedBy (model S.prog S.w) A env (λe s'=>R (.error e) s')=E1
  have q':∀{f0:Fl}{l0:Lo}{H0:Hp},some (f0,l0,H0)=some (fl,l',H')->∀ h' tk as' T' g,Ext (EX env) CQ T0 h0 as' T' h'->HR S as' T' H0 h'->ER S as' T' env nm sl l0 h'->xW S as' T' f0 g->R (.ok g) { s with heap:=h',toks:=tk }:=λe=>by cases e;exact q
  induction n using Nat.casesOn with
 |zero=>exact nn e
 |succ n=>
   refine MD e (λAx e=>pu Ax MJ fn.own MH ao.handled λh3 k3=>?_) (λu eB l3 f l5 H5 Ax TA e5 e=>pu Ax MJ fn.own MH ao.handled λwu h3 rN k3 QZ ru=>EW QZ ?_)
   ·exact wpAny_execs_nil (q' e _ _ _ _ _ (xn.off k3 Tx fn.CH) (MH.iter MJ fn k3) (Tz.but fn k3) .next)
   ·refine QW (call:=call) (d:=d) t (CP TA) ao (QX c1) (Tz.but fn k3) (MH.iter MJ fn k3) ru λh4 Qn To T4 x4 Jd Q0=>?_
    have MK:=(xn.off k3 Tx fn.CH).trans x4
    have Jw:=QZ.jZ λo ho _ _ _=>fn.ext x4 ho
    have G4:=QZ.ext x4 fn.own fn.CH
    refine hb e5 ao c4 Q0 Jd λh5 QI QJ T5 g x5 xX G5 fr=>?_
    have TB:=G4.jZ λo ho _ _ _=>Jw.ext x5 ho
    clear Ax TA e5
    revert e
    exact fr.el (λe=>⟨n,lJ n,.mk h5 _ QJ T5 _ _ _ (MK.trans x5) xX G5 (G4.ext x5 Jw.own Jw.CH) TB e⟩) (λe=>q' e _ _ _ _ _ (MK.trans x5) xX G5 .next) (λe=>⟨n,lJ n,.mk h5 _ QJ T5 _ _ _ (MK.trans x5) xX G5 (G4.ext x5 Jw.own Jw.CH) TB e⟩) λv w vr e=>q' e _ _ _ _ _ (MK.trans x5) xX G5 (.ret vr)
theorem ML{t:CT}{e0:ME}{b:List MS}(h0:bu S call d e0)(hb:t8 S call d b):qE S call d (.for t e0 b):=by
 intro l l' H H' fl e nm sl x s as T env A E Q ao c er hr q
 refine Gq e λv H1 it e1 hit e=>?_
 refine Ge c λy z w p c1 c2 c3 c4=>?_
 refine wpAny_For (h0 e1 ao c3 er hr λw h1 dm aQ T1 x1 aO vr=>?_) (rF c2 env)
 have gy:=er.ext x1
 refine Ao hit aO vr λI h2 hI Ay MM=>?_
 exact G3 hb ao c1 c4 (gy.ext (T':=T1) (as':=aQ) (.keep Ay)) (aO.keep Ay) MM (gy.fresh aO hI) ((x1.trans (.keep Ay)).nil er.me) (x1.dead aO hI) e λh' tk as' T' g a b c d=>q h' tk as' T' g a b c d
end
end Mine
namespace Mine
section
variable {S:b0}{call:bT}{d:Nat}{as as':As}{T T':TS}{H H':Hp}{h h':Heap}{s:Shared}{env:Env}{nm:bn}{sl:Sl}{l:Lo}{A:Around}{E:Value->Shared->Prop}
theorem Ext.close{X:Addr->Prop}{as aQ iu:As}{T T1 T2:TS}{h h1 h2:Heap}(x:Ext Nil as T h aQ T1 h1)(y:Ext X aQ T1 h1 iu T2 h2)(hX:∀ b,X b->h.get? b=none):Ext Nil as T h iu T2 h2:=by
  refine⟨x.mono.trans y.mono,λb o n1 n2 e=>?_,λb hb=>hb.elim,λb hb=>?_⟩
  · have e1:=x.kp b o n1 n2 e
    refine y.kp b o (λhb=>?_) (λq=>by rw[hX b q] at e;exact nn e) e1
    rcases x.own b hb with q|q
    · exact n1 q
    · rw[q] at e;first|exact nn e|exact ff e|exact nn e
  · rcases y.own b hb with q|q
    · exact x.own b q
    · cases e:h.get? b with
     |none=>exact .inr rfl
     |some o=>
        by_cases ho:b∈owned as
        · exact .inl ho
        · have:=x.kp b o ho (λz=>z) e;rw[q] at this;first|exact nn this|exact ff this|exact nn this
theorem t9{x:Str}:∀{l:List Str},nZ x l=true↔x∈l
 |[]=>by simp[zB,zC]
 |y::r=>by simp only[zB,zC,Bool.or_eq_true,beq_iff_eq,eC,t9]
theorem kJ:∀{l:List Str},n6 l=true->l.Nodup
 |[],_=>.nil
 |x::r,h=>by
  simp only[IA,IB,cJ,Bool.not_eq_true'] at h
  refine gc.mpr ⟨λq=>?_,kJ h.2⟩
  rw[t9.mpr q] at h;cases h.1
theorem gQ:∀{nm:bn}{x:Str}{k:NameKind},(nm.map (·.1)).Nodup->(x,k)∈nm->nm.lookup x=some k
 |(y,j)::r,x,k,hn,hm=>by
  obtain⟨h1,h2⟩:=gc.mp hn
  rw[oP]
  rcases eC.mp hm with e|e
  ·cases e;simp
  ·have:x≠y:=λq=>h1 (q▸lH.mpr ⟨_,e,rfl⟩)
   rw[beq_eq_false_iff_ne.mpr this]
   exact gQ h2 e
theorem fS:∀{nm:bn}{i:Nat}{x:Str}{b:Bool},(slotsOf nm)[i]?=some (some (x,b))->(x,B7 b)∈nm
 |[],i,x,b,e=>by simp[n7,gO] at e
 |(y,k)::r,i,x,b,e=>by
    rw[gO] at e
    induction k <;> try exact .tail _ (fS e)
    · induction i using Nat.casesOn with
     |zero=>simp at e;obtain⟨rfl,rfl⟩:=e;exact .head _
     |succ i=>exact .tail _ (fS (by simpa using e))
    · induction i using Nat.casesOn with
     |zero=>simp at e;obtain⟨rfl,rfl⟩:=e;exact .head _
     |succ i=>exact .tail _ (fS (by simpa using e))
theorem mf:∀{nm:bn}{i:Nat}{z:Option (Str×Bool)},(slotsOf nm)[i]?=some z->∃ y,z=some y
 |[],i,z,e=>by simp[n7,gO] at e
 |(y,k)::r,i,z,e=>by
    rw[gO] at e
    induction k <;> try exact mf e
    · induction i using Nat.casesOn with
     |zero=>simp at e;exact⟨_,e.symm⟩
     |succ i=>exact mf (nm:=r) (i:=i) (by simpa using e)
    · induction i using Nat.casesOn with
     |zero=>simp at e;exact⟨_,e.symm⟩
     |succ i=>exact mf (nm:=r) (i:=i) (by simpa using e)
theorem j2:∀{nm:bn},(nm.map (·.1)).Nodup->∀{i j:Nat}{x:Str}{b c:Bool},(slotsOf nm)[i]?=some (some (x,b))->(slotsOf nm)[j]?=some (some (x,c))->i=j
 |[],_,i,_,_,_,_,e,_=>by simp[n7,gO] at e
 |(y,k)::r,hn,i,j,x,b,c,e1,e2=>by
  obtain⟨h1,h2⟩:=gc.mp hn
  have no:∀{i:Nat}{c:Bool},(slotsOf r)[i]?=some (some (y,c))->False:=λe=>h1 (lH.mpr ⟨_,fS e,rfl⟩)
  rw[gO] at e1 e2
  induction k <;> try exact j2 h2 e1 e2
  ·induction i using Nat.casesOn <;> cases j
   ·rfl
   ·simp at e1 e2;obtain⟨rfl,rfl⟩:=e1;exact(no e2).elim
   ·simp at e1 e2;obtain⟨rfl,rfl⟩:=e2;exact(no e1).elim
   ·rename_i i j
    exact congrArg (· + 1) (j2 h2 (i:=i) (j:=j) (x:=x) (b:=b) (c:=c) (by simpa using e1) (by simpa using e2))
  ·induction i using Nat.casesOn <;> cases j
   ·rfl
   ·simp at e1 e2;obtain⟨rfl,rfl⟩:=e1;exact(no e2).elim
   ·simp at e1 e2;obtain⟨rfl,rfl⟩:=e2;exact(no e1).elim
   ·rename_i i j
    exact congrArg (· + 1) (j2 h2 (i:=i) (j:=j) (x:=x) (b:=b) (c:=c) (by simpa using e1) (by simpa using e2))
theorem pA{kd:Str->Option NameKind}{x:Str}:∀{ps:List Str}{ws:List Value}{m:Str->Option Value},x ∉ ps->bindL kd (ps.zip ws) m x=m x
 |[],_,_,_=>rfl
 |_::_,[],_,_=>rfl
 |p::ps,w::ws,m,h=>by
  rw[oU,bindL,pA (λq=>h (.tail _ q))]
  split
  ·show(if x=p then some w else m x)=m x
   rw[if_neg (λq:x=p=>h (by rw[q];exact .head _))]
  ·rfl
theorem ua{kd:Str->Option NameKind}{x:Str}{w:Value}:∀{ps:List Str}{ws:List Value}{m:Str->Option Value}{i:Nat},ps.Nodup->ps[i]?=some x->ws[i]?=some w->kd x=some .local->bindL kd (ps.zip ws) m x=some w
 |[],_,_,_,_,e,_,_=>by simp at e
 |_::_,[],_,_,_,_,e,_=>by simp at e
 |p::ps,u::ws,m,0,hn,e1,e2,hk=>by
  simp at e1 e2;subst e1;subst e2
  rw[oU,bindL,pA (gc.mp hn).1,if_pos hk,if_pos rfl]
 |p::ps,u::ws,m,i+1,hn,e1,e2,hk=>by
  rw[oU,bindL]
  exact ua (gc.mp hn).2 (by simpa using e1) (by simpa using e2) hk
theorem pB{kd:Str->Option NameKind}{x:Str}:∀{ps:List Str}{ws:List Value}{m:Str->Option Value},x ∉ ps->bindC kd (ps.zip ws) m x=m x
 |[],_,_,_=>rfl
 |_::_,[],_,_=>rfl
 |p::ps,w::ws,m,h=>by
  rw[oU,bindC,pB (λq=>h (.tail _ q))]
  split
  ·rfl
  ·show(if x=p then some w else m x)=m x
   rw[if_neg (λq:x=p=>h (by rw[q];exact .head _))]
theorem ub{kd:Str->Option NameKind}{x:Str}{w:Value}:∀{ps:List Str}{ws:List Value}{m:Str->Option Value}{i:Nat},ps.Nodup->ps[i]?=some x->ws[i]?=some w->kd x=some .cell->bindC kd (ps.zip ws) m x=some w
 |[],_,_,_,_,e,_,_=>by simp at e
 |_::_,[],_,_,_,_,e,_=>by simp at e
 |p::ps,u::ws,m,0,hn,e1,e2,hk=>by
  simp at e1 e2;subst e1;subst e2
  rw[oU,bindC,pB (gc.mp hn).1,if_neg (by rw[hk];intro q;cases q),if_pos rfl]
 |p::ps,u::ws,m,i+1,hn,e1,e2,hk=>by
  rw[oU,bindC]
  exact ub (gc.mp hn).2 (by simpa using e1) (by simpa using e2) hk
theorem jr:∀{nm:bn}{n:Nat}{acc:List (Str×Addr)}{x:Str},((x,NameKind.cell)∈nm\/(acc.lookup x).isSome=true)->((cellsFrom n nm acc).lookup x).isSome=true
 |[],_,_,_,h=>by rcases h with h|h;simp at h;exact h
 |(y,k)::r,n,acc,x,h=>by
  unfold cellsFrom
  split
  ·refine jr ?_
   rcases h with h|h
   ·rcases eC.mp h with e|e
    ·cases e;right;simp[oP]
    ·exact .inl e
   ·right
    rw[oP]
    split
    ·rfl
    ·exact h
  ·rename_i hk
   refine jr ?_
   rcases h with h|h
   ·rcases eC.mp h with e|e
    ·cases e;exact absurd rfl hk
    ·exact .inl e
   ·exact .inr h
theorem Az:∀{ps:List Str}{ws:List Value},ps.Nodup->ws.length=ps.length->ps.filterMap (λn=>((ps.zip ws).lookup n).map (n,·))=ps.zip ws:=by
 have gen:∀(ps:List Str)(ws:List Value)(f:Str->Option Value),ps.Nodup->ws.length=ps.length->(∀(i:Nat)(x:Str)(w:Value),ps[i]?=some x->ws[i]?=some w->f x=some w)->ps.filterMap (λn=>(f n).map (n,·))=ps.zip ws:=by
   intro ps
   induction ps with
  |nil=>intro ws f _ _ _;rfl
  |cons p ps ih=>
     intro ws f hn hl hf
     induction ws with
    |nil=>simp at hl
    |cons w ws=>
       rw[List.filterMap_cons,hf 0 p w rfl rfl,oU]
       show(p,w)::_=_
       rw[ih ws f (gc.mp hn).2 (by simpa using hl) λi x u e1 e2=>hf (i+1) x u (by simpa using e1) (by simpa using e2)]
 intro ps ws hn hl
 refine gen ps ws _ hn hl ?_
 have look:∀(ps:List Str)(ws:List Value)(i:Nat)(x:Str)(w:Value),ps.Nodup->ps[i]?=some x->ws[i]?=some w->(ps.zip ws).lookup x=some w:=by
   intro ps
   induction ps with
  |nil=>intro ws i x w _ e;simp at e
  |cons p ps ih=>
     intro ws i x w hn e1 e2
     induction ws using List.casesOn with
    |nil=>simp at e2
    |cons u ws=>
       rw[oU,oP]
       induction i with
      |zero=>simp at e1 e2;subst e1;subst e2;simp
      |succ i=>
        have be:x≠p:=λq=>(gc.mp hn).1 (q▸lb (by simpa using e1))
        rw[beq_eq_false_iff_ne.mpr be]
        exact ih ws i x w (gc.mp hn).2 (by simpa using e1) (by simpa using e2)
 exact λi x w e1 e2=>look ps ws i x w hn e1 e2
theorem qG{ps:List Str}{ws:List Value}(hl:ws.length=ps.length):∀ n∈ps,((ps.zip ws).lookup n).isNone=false:=by
  induction ps generalizing ws with
 |nil=>intro n h;simp at h
 |cons p ps ih=>
    intro n h
    induction ws with
   |nil=>simp at hl
   |cons w ws=>
     rw[oU,oP]
     split
     ·rfl
     ·rename_i hb
      refine ih (by simpa using hl) n ?_
      rcases eC.mp h with e|e
      ·subst e;simp at hb
      ·exact e
theorem xY{fd:FuncData}{ws:List Value}(h1:fd.params.posonlyargs=[])(h2:fd.params.vararg=none)(h3:fd.params.kwonlyargs=[])(h4:fd.params.kwarg=none)(h5:fd.defaults=.none)(hn:(fd.params.args.map (·.arg)).Nodup)
  (hl:ws.length=fd.params.args.length):bindArgs fd ⟨ws,[]⟩=pure ((fd.params.args.map (·.arg)).zip ws):=by
 have GB:ws.length=(fd.params.args.map (·.arg)).length:=by rw[cn];exact hl
 have hm:((fd.params.args.map (·.arg)).take ((fd.params.args.map (·.arg)).length)).filter (λn=>(((fd.params.args.map (·.arg)).zip ws).lookup n).isNone)=[]:=by
  rw[List.take_length,List.filter_eq_nil_iff]
  intro n xL
  rw[qG GB n xL];simp
 have hs:seqItems? Value.none=pure none:=rfl
 have hg:decide (ws.length > (fd.params.args.map (·.arg)).length)=false:=decide_eq_false (by omega)
 unfold bindArgs
 simp only[h1,h2,h3,h4,h5,hs,sN,oR,eU,List.forIn_nil,pure_bind]
 simp only[Option.getD_none,Array.toList_empty,List.length_nil,List.drop_nil,List.zip_nil_right,List.forIn_nil,Nat.zero_sub,Nat.sub_zero,hg,Bool.false_and,vR,if_false,hm,List.isEmpty_nil,Bool.not_true,pure_bind]
 rw[Az hn GB]
end
end Mine
namespace Mine
section
variable {S:b0}{as as':As}{T T':TS}{H H':Hp}{h h':Heap}{s:Shared}{env:Env}{nm:bn}{sl:Sl}{l:Lo}{A:Around}{E:Value->Shared->Prop}
theorem j3:∀{ps:List Arg}{sl:Sl},hJ ps sl=true->∀{i:Nat}{a:Arg},ps[i]?=some a->∃ b,sl[i]?=some (some (a.arg,b))
 |[],_,_,i,a,e=>by simp at e
 |p::ps,[],h,_,_,_=>ff h
 |p::ps,none::sl,h,_,_,_=>ff h
 |p::ps,some (x,b)::sl,h,i,a,e=>by
   simp only[s4,s5,cJ] at h
   induction i using Nat.casesOn with
  |zero=>simp at e;subst e;exact⟨b,by rw[beq_iff_eq.mp h.1];rfl⟩
  |succ i=>
    obtain⟨c,hc⟩:=j3 h.2 (i:=i) (a:=a) (by simpa using e)
    exact⟨c,by simpa using hc⟩
theorem AA:∀{ps:List Arg}{sl:Sl},hJ ps sl=true->(∀{i j:Nat}{x:Str}{b c:Bool},sl[i]?=some (some (x,b))->sl[j]?=some (some (x,c))->i=j)->(ps.map (·.arg)).Nodup
 |[],_,_,_=>.nil
 |p::ps,[],h,_=>ff h
 |p::ps,none::sl,h,_=>ff h
 |p::ps,some (x,b)::sl,h,hn=>by
  have h':=h
  simp only[s4,s5,cJ] at h'
  rw[dD]
  refine gc.mpr ⟨λq=>?_,AA h'.2 λ{i j x b c} e1 e2=>?_⟩
  ·obtain⟨a,ha,he⟩:=lH.mp q
   obtain⟨i,hi⟩:=vP ha
   obtain⟨c,hc⟩:=j3 h'.2 hi
   have:=hn (i:=0) (j:=i+1) (x:=p.arg) (b:=b) (c:=c) (by rw[beq_iff_eq.mp h'.1];rfl) (by rw[← he];simpa using hc)
   exact aj [_] (.d (.s ab) (.n 0) .z) rfl (bx (cP this))
  ·have:=hn (i:=i+1) (j:=j+1) (x:=x) (b:=b) (c:=c) (by simpa using e1) (by simpa using e2)
   exact k8 (nt (aj [_,_] (.d (.s ab) (.s af) (.d (.s af) ab .z)) rfl (bx this))) (nt (aj [_,_] (.d (.s ab) (.s af) (.d (.s af) ab .z)) rfl (bx (cP this))))
theorem G6{b:List MS}(h:zG b=true):b=[.bad]:=by
  induction b using List.casesOn with
 |nil=>exact ff h
 |cons s r=>induction s using MS.casesOn with
   |bad=>induction r using List.casesOn with
    |nil=>rfl
    |cons=>exact ff h
   |_=>exact ff h
theorem G7{fd:FuncData}{fi:FI}{a:Addr}{vs:List V}{ws:List Value}{s1:Shared}(hr:HR S as T H s.heap)(vv:br S.fa as T vs ws)(hlen:vs.length=fi.np)(h1:fd.globals=mainGlobals)(h2:fd.builtins=builtinsNs)
    (h3:i1 fd.scope=true) (h4:fd.params.args.length=fi.np) (h5:(slotsOf fd.scope.names).length=fi.ns) (h6:hJ fd.params.args (slotsOf fd.scope.names)=true) (h7:(fd.scope.names.map (·.1)).Nodup) (Jx:(fd.params.args.map (·.arg)).Nodup) (hle:fi.np<=fi.ns)
    (x:InCallC s (callEnvC fd s.heap.objs.size a).locals (bindL (callEnvC fd s.heap.objs.size a).kindOf ((fd.params.args.map (·.arg)).zip ws) λ_=>none) (callEnvC fd s.heap.objs.size a).cells
        (bindC (callEnvC fd s.heap.objs.size a).kindOf ((fd.params.args.map (·.arg)).zip ws) λ_=>none) s1) :
    ER S as T (callEnvC fd s.heap.objs.size a) fd.scope.names (slotsOf fd.scope.names) (vs.map some++List.replicate (fi.ns-fi.np) none) s1.heap:=by
  have fresh:∀ b,s.heap.objs.size<=b->s.heap.get? b=none:=λb hb=>by
    cases e:s.heap.get? b with
   |none=>rfl
   |some o=>exact absurd (Heap.lt_size e) (eK.mpr hb)
  have fr:∀ b,s.heap.get? b=none->b ∉ owned as/\S.h0.get? b=none:=λb hb=>by
    refine⟨λq=>?_,?_⟩
    · obtain⟨o,ho⟩:=hr.alive q;rw[hb] at ho;first|exact nn ho|exact ff ho|exact nn ho
    · cases e:S.h0.get? b with
     |none=>rfl
     |some o=>have:=hr.base b o e;rw[hb] at this;first|exact nn this|exact ff this|exact nn this
  simp only[i1,cJ] at h3
  obtain⟨⟨⟨k1,k2⟩,k3⟩,k4⟩:=h3
  have kf:fd.scope.kind=.function:=by
    split at k2
    · rename_i e;exact e
    · first|exact ff k2|exact nn k2|exact nn k2
  have at_:∀{i:Nat}{v:V}{z:Str}{b:Bool},(vs.map some++List.replicate (fi.ns-fi.np) none)[i]?=some (some v)->(slotsOf fd.scope.names)[i]?=some (some (z,b))->∃ w,vs[i]?=some v/\ws[i]?=some w/\VR S.fa as T v w/\(fd.params.args.map (·.arg))[i]?=some z:=by
    intro i v z b e1 e2
    by_cases hi:i<vs.length
    · rw[dB (by rw[cn];exact hi),jN] at e1
      obtain⟨v',h',Q1⟩:=Option.map_eq_some_iff.mp e1
      cases Q1
      obtain⟨w,hw,vr⟩:=vv.get _ h'
      obtain⟨p,hp⟩:∃ p,fd.params.args[i]?=some p:=⟨_,sJ (by exact nl (aj [_,_,_,_] (.d ab af (.d af aq (.d (.s aA) ab (.d aq aA .z)))) rfl (bx hlen) (bx (cP h4)) hi))⟩
      obtain⟨c,hc⟩:=j3 h6 hp
      rw[e2] at hc;first|exact nn hc|exact ff hc|cases hc
      exact⟨w,h',hw,vr,by rw[jN,hp];rfl⟩
    · rw[eT (by rw[cn];exact nt (aj [_,_] (.d ab af (.d (.s af) ab .z)) rfl (eK.mp hi))),List.getElem?_replicate] at e1
      split at e1 <;> cases e1
  have kd:∀{i:Nat}{z:Str}{b:Bool},(slotsOf fd.scope.names)[i]?=some (some (z,b))->(callEnvC fd s.heap.objs.size a).kindOf z=some (B7 b):=λe=>gQ h7 (fS e)
  refine⟨kf,h1,h2,rfl,k1,?_,λi j y b c e1 e2=>j2 h7 e1 e2,⟨_,x.toInCall.ns,λi v y e1 e2=>?_⟩,λi y e1=>?_,λy z c e1 e2=>?_,λy c e1=>⟨_,x.cell y c e1⟩,fr _ (fresh _ x.toInCall.fresh),λy c e1=>?_⟩
  · rw[aK,cn,List.length_replicate,h5];omega
  · obtain⟨w,g1,g2,g3,g4⟩:=at_ e1 e2
    exact⟨w,ua Jx g4 g2 (kd e2),g3⟩
  · obtain⟨c,hc⟩:=DT.mp (jr (n:=s.heap.objs.size+1) (acc:=[]) (x:=y) (nm:=fd.scope.names) (.inl (fS e1)))
    refine⟨c,_,hc,x.cell y c hc,λv hv=>?_⟩
    obtain⟨w,g1,g2,g3,g4⟩:=at_ hv e1
    exact⟨w,ub Jx g4 g2 (kd e1),g3⟩
  · exact name_of_addr x.apart (mem_of_lookup e1) (mem_of_lookup e2)
  · have:=x.above y c (mem_of_lookup e1)
    exact fr _ (fresh _ (bv x.toInCall.fresh (jh this)))
theorem CR{d:Nat}(ao:Ah A (d+1))(env:Env):gh (A.deeper env) d:=by
 refine⟨ao.handled,?_,?_⟩
 ·have:=ao.depth
  show A.depth+1+4*d+8<=1000
  exact nt (aj [_,_] (.d (.a (.a ab (.m 4 (.s af))) (.n 6)) (.n 1000) (.d (.s (.n 1000)) (.a (.a (.s ab) (.m 4 af)) (.n 8)) .z)) rfl this)
 ·have:=ao.units
  show A.units+3+32*d+200<=9900
  exact nt (aj [_,_] (.d (.a (.a ab (.m 32 (.s af))) (.n 180)) (.n 9900) (.d (.s (.n 9900)) (.a (.a (.a ab (.n 3)) (.m 32 af)) (.n 200)) .z)) rfl this)
noncomputable def OJ(v:V):Fl->Prop
 |.next=>v=.none
 |.ret u=>v=u
 |_=>False
theorem Jy{P:Pg}{d k:Nat}{vs:List V}{v:V}(e:ae P (d+1) k vs H=some (v,H')){zg:Prop}(zk:∀ fi fl l2,P.fns[k]?=some fi->vs.length=fi.np->aS P (ae P d) fi.body (vs.map some++List.replicate (fi.ns-fi.np) none) H=some (fl,l2,H')->OJ v fl->zg):zg:=by
  rw[sU] at e
  generalize hf:P.fns[k]?=o at e
  match o,e with
 |none,e=>exact nn e
 |some fi,e=>
    dsimp only at e
    by_cases hl:vs.length=fi.np
    · rw[if_pos hl] at e
      generalize hx:aS P (ae P d) fi.body (vs.map some++List.replicate (fi.ns-fi.np) none) H=o at e
      match o,e with
     |none,e=>exact nn e
     |some (f,l2,H2),e=>
        have key:OJ v f/\H2=H':=by
          induction f with
         |ret u=>exact⟨(oW (cj e)).1.symm,(oW (cj e)).2⟩
         |next=>exact⟨(oW (cj e)).1.symm,(oW (cj e)).2⟩
         |brk=>exact nn e
         |cont=>exact nn e
        exact zk fi f l2 hf hl (key.2▸hx) key.1
    · rw[if_neg hl] at e;exact nn e
theorem Jz(C:Cx S)(hB:∀ d,ft S (ae S.P d) d->∀ b,t8 S (ae S.P d) d b):∀ d,ft S (ae S.P d) d:=by
  intro d
  induction d with
 |zero=>intro k vs H H' v e;exact nn e
 |succ d ih=>
    intro k vs H H' v e A s as T R a ws ao ha hr vv q
    refine Jy e λfi fl l2 V7 hlen e1 Q2=>?_
    obtain⟨a',CU,ck⟩:=C.fns k fi V7
    rcases Bool.or_eq_true_iff.mp ck with ck|ck
    · rw[G6 ck] at e1
      exact nn e1
    split at ck
    · rename_i c0 d0 fd XR hk
      have p1:=ai ck
      have p2:=ai p1.1
      have p3:=ai p2.1
      have p4:=ai p3.1
      have p5:=ai p4.1
      have p6:=ai p5.1
      have p7:=ai p6.1
      have p8:=ai p7.1
      have p9:=ai p8.1
      have MN:=ai p9.1
      have MO:=ai MN.1
      have MP:=ai MO.1
      have MQ:=ai MP.1
      have MR:=ai MQ.1
      have Q3:=p2.2
      split at Q3
      · rename_i body Q4
        have V8:fd.defaults=.none:=by have c5:=MO.2;split at c5;rename_i e;exact e;exact ff c5
        have X:=C.X.keeps hr.base
        have MT:=kJ p3.2
        have MU:=p4.2
        have hle:fi.np<=fi.ns:=by
          rw[← of_decide_eq_true p6.2,← of_decide_eq_true p5.2]
          by_cases hz:fd.params.args.length=0
          · exact nt (aj [_,_] (.d ab (.n 0) (.d (.s af) ab .z)) rfl (bx hz))
          · obtain⟨b,hb⟩:=j3 MU (i:=fd.params.args.length-1) (a:=fd.params.args[fd.params.args.length-1]) (sJ (by omega))
            have:=(eS.mp hb).1
            omega
        have Jx:(fd.params.args.map (·.arg)).Nodup:=
           AA MU λe1 e2=>j2 MT e1 e2
        have hl:ws.length=fd.params.args.length:=by rw[vv.length,hlen,of_decide_eq_true p6.2]
        have Q5:=xY (ws:=ws) (List.isEmpty_iff.mp MR.1) (Option.isNone_iff_eq_none.mp MR.2) (List.isEmpty_iff.mp MQ.2) (Option.isNone_iff_eq_none.mp MP.2) V8 Jx hl
        have kk:=ai p7.2
        have kf:fd.scope.kind=.function:=by
          have:=(ai (ai kk.1).1).2
          split at this
          · rename_i e;exact e
          · exact ff this
        refine codeAny_call_cells (by have:=ao.depth;show A.depth<1000;exact nl (aj [_,_] (.d (.a (.a ab (.m 4 (.s af))) (.n 6)) (.n 1000) (.d (.n 1000) ab .z)) rfl this)) (X _ _ (cj (CU.symm.trans ha)▸hk)) rfl (C.lim.keeps hr.base) (codeRec_of X p1.2) Q4 Q5 (List.isEmpty_iff.mp MN.2) (λz hz=>?_) (λs1 x=>?_) (xz kk.2) (xz (ai kk.1).2) kf
        · obtain⟨z1,z2⟩:=z
          have V9:=(List.of_mem_zip hz).1
          obtain⟨p,hp,rfl⟩:=lH.mp V9
          obtain⟨i,hi⟩:=vP hp
          obtain⟨b,hb⟩:=j3 MU hi
          have hm:=fS hb
          induction b with
         |false=>exact .inl (gQ MT hm)
         |true=>exact .inr ⟨gQ MT hm,jr (.inl hm)⟩
        · have er:=G7 hr vv hlen (beq_iff_eq.mp p9.2) (beq_iff_eq.mp p8.2) p7.2 (of_decide_eq_true p6.2) (of_decide_eq_true p5.2) MU MT Jx hle x
          obtain⟨h1,dm,j4⟩:=x.toInCall.same
          have kp:=x.toInCall.keep
          subst j4
          have x0:Ext Nil as T s.heap as T h1:=.keep kp
          refine hB d ih fi.body e1 (CR ao _) Q3 er (hr.keep kp) λh2 ix iu T2 f x2 bL rO fr=>?_
          have TC:Ext Nil as T s.heap iu T2 h2:=x0.close x2 λb hb=>by
            have low:∀ c,s.heap.objs.size<=c->s.heap.get? c=none:=λc hc=>by
              cases e:s.heap.get? c with
             |none=>rfl
             |some o=>exact absurd (Heap.lt_size e) (eK.mpr hc)
            rcases hb with rfl|⟨y,hy⟩
            · exact low _ x.toInCall.fresh
            · exact low _ (bv x.toInCall.fresh (jh (x.above y b (mem_of_lookup hy))))
          clear e1
          revert Q2
          exact fr.el (λh=>q _ _ _ _ _ TC bL (h▸.none)) (λh=>h.elim) (λh=>h.elim) λu w vr h=>q _ _ _ _ _ TC bL (h▸vr)
      · exact ff Q3
    · exact ff ck
end
end Mine
namespace Mine
noncomputable def fY(cells:List (Str×Addr)):bn->List (Str×Addr)->List (Str×Addr)
 |[],acc=>acc
 |(x,k)::r,acc=>match k with
  |.free=>(match cells.lookup x with|some c=>fY cells r ((x,c)::acc)|none=>fY cells r acc)
  |_=>fY cells r acc
theorem EY{cells acc}:fY cells ([]) acc=(acc):=rfl
theorem pC{cells x k r acc}:fY cells ((x,k)::r) acc=(match k with
 |.free=>(match cells.lookup x with|some c=>fY cells r ((x,c)::acc)|none=>fY cells r acc)
 |_=>fY cells r acc):=rfl
section
variable {S:b0}{call:bT}{d:Nat}{as as':As}{T T':TS}{H H':Hp}{h h':Heap}{s:Shared}{env:Env}{nm:bn}{sl:Sl}{l:Lo}{A:Around}{E:Value->Shared->Prop}
theorem jH{env:Env}:∀{names:bn}{acc:List (Str×Addr)},(∀ x,(x,NameKind.free)∈names->(env.cells.lookup x).isSome=true) ->
   (forIn names acc (λ(p:Str×NameKind) (cs:List (Str×Addr))=>(if p.2==.free then do let a ← cellOf env p.1;pure (ForInStep.yield ((p.1,a)::cs)) else pure (ForInStep.yield cs):Sem (ForInStep (List (Str×Addr))))))=pure (fY env.cells names acc)
 |[],acc,_=>rfl
 |(x,k)::r,acc,h=>by
   rw[List.forIn_cons]
   have hr:∀ y,(y,NameKind.free)∈r->(env.cells.lookup y).isSome=true:=λy hy=>h y (.tail _ hy)
   induction k with
  |free=>
    obtain⟨c,hc⟩:=DT.mp (h x (.head _))
    have:cellOf env x=pure c:=by unfold cellOf;rw[hc]
    simp only[beq_self_eq_true,if_true,this,pure_bind,EY,pC,hc]
    exact jH hr
  |_=>
    simp only[EY,pC]
    exact jH hr
theorem AB{sc:Scope}{env:Env}(h:∀ x,(x,NameKind.free)∈sc.names->(env.cells.lookup x).isSome=true):closureFor sc env=pure (fY env.cells sc.names []):=by
 have:=jH (acc:=[]) h
 unfold closureFor
 simp only[bind_pure]
 rw[← this]
theorem j5{cells:List (Str×Addr)}:∀{names:bn}{acc:List (Str×Addr)}{x:Str}{c:Addr},(fY cells names acc).lookup x=some c->cells.lookup x=some c\/acc.lookup x=some c
 |[],acc,x,c,e=>.inr e
 |(y,k)::r,acc,x,c,e=>by
  rw[pC] at e
  split at e
  ·split at e
   ·rename_i c' hc
    rcases j5 e with q|q
    ·exact .inl q
    ·rw[oP] at q
     split at q
     ·rename_i hb;cases q;exact .inl (beq_iff_eq.mp hb▸hc)
     ·exact .inr q
   ·exact j5 e
  ·exact j5 e
theorem mV{cells:List (Str×Addr)}:∀{names:bn}{acc:List (Str×Addr)}{x:Str}{c:Addr},cells.lookup x=some c->acc.lookup x=some c->(fY cells names acc).lookup x=some c
 |[],acc,x,c,_,e=>e
 |(y,k)::r,acc,x,c,h,e=>by
  rw[pC]
  split
  ·split
   ·rename_i c' hc
    refine mV h ?_
    rw[oP]
    split
    ·rename_i hb;rw[← beq_iff_eq.mp hb,h] at hc;rw[hc]
    ·exact e
   ·exact mV h e
  ·exact mV h e
theorem kK{cells:List (Str×Addr)}:∀{names:bn}{acc:List (Str×Addr)}{x:Str}{c:Addr},(x,NameKind.free)∈names->cells.lookup x=some c->(fY cells names acc).lookup x=some c
 |[],acc,x,c,h,_=>by simp at h
 |(y,k)::r,acc,x,c,h,e=>by
  rw[pC]
  rcases eC.mp h with q|q
  ·first|exact ff q|exact nn q|cases q
   simp only[e]
   exact mV e (by simp)
  ·split
   ·split
    ·exact kK q e
    ·exact kK q e
   ·exact kK q e
theorem AC{elt target iter:Expr}{ifs:List Expr}{scope:Scope}{pos:Pos}{it acc:Value}{env:Env}{R:Result->Shared->Prop}(I:Nat->Shared->Prop)
    (turn:∀ n s,I n s->wpAny (model S.prog S.w) A (pyNext it) (λr s₁=>match r with
     |none=>R (.ok .next) s₁
     |some v=>wpAny (model S.prog S.w) A (letOwnedTupleGo target it v) (λ_ TD=>wpAny (model S.prog S.w) A (assign target env v) (λ_ s₂=>
       wpAny (model S.prog S.w) A (forIn ifs true λc r=>if r=true then do let ok ← PySem.isTrue c env (eval c env);pure (ForInStep.yield ok) else pure (ForInStep.yield r)) (λok s₃=>
        if ok=true then wpAny (model S.prog S.w) A (eval elt env) (λx s₄=>
         wpAny (model S.prog S.w) A (PySem.call (.builtin "list.append") [acc,x]) (λ_ s₅=>∃ m,m<n/\I m s₅) (notedBy (model S.prog S.w) A env λe s'=>R (.error e) s') s₄) (notedBy (model S.prog S.w) A env λe s'=>R (.error e) s') s₃
        else ∃ m,m<n/\I m s₃) (notedBy (model S.prog S.w) A env λe s'=>R (.error e) s') s₂) (notedBy (model S.prog S.w) A env λe s'=>R (.error e) s') TD) (notedBy (model S.prog S.w) A env λe s'=>R (.error e) s') s₁) (notedBy (model S.prog S.w) A env λe s'=>R (.error e) s') s)
    (n:Nat) (h:I n s):codeAny (model S.prog S.w) A (.compLoop (.ListComp elt [⟨target,iter,ifs,0⟩] scope pos) 0 it acc env) R s:=by
  refine codeAny_loop rfl I (λn s hI=>?_) n h
  show wpAny _ A ((compTurn (.ListComp elt [⟨target,iter,ifs,0⟩] scope pos) 0 it acc env).onRaise (λx=>do noteFrame x env;theTreesLotGoes x)) _ _ s
  refine wpAny_noted ?_
  rw[compTurn_list]
  refine wpAny_bind (wpAny_standAt (wpAny_bind (wpAny_mono (turn n s hI) (λr s₁ h₁=>?_) λ_ _ h'=>h')))
  induction r with
 |none=>exact wpAny_pure h₁
 |some v=>
    refine wpAny_bind (wpAny_mono h₁ (λ_ TD Wa=>?_) λ_ _ h'=>h')
    refine wpAny_bind (wpAny_mono Wa (λ_ s₂ h₂=>wpAny_bind (wpAny_mono h₂ (λok s₃ h₃=>?_) λ_ _ h'=>h')) λ_ _ h'=>h')
    induction ok with
   |false=>exact wpAny_pure ⟨rfl,h₃⟩
   |true=>
      exact wpAny_bind (wpAny_bind (wpAny_mono h₃ (λx s₄ h₄=>wpAny_bind (wpAny_mono h₄ (λ_ s₅ h₅=>wpAny_pure (wpAny_pure ⟨rfl,h₅⟩)) λ_ _ h'=>h')) λ_ _ h'=>h'))
theorem xZ{env:Env}{Q:Bool->Shared->Prop}:∀{xs:List Expr},Q false s ->
  wpAny (model S.prog S.w) A (forIn xs false λc r=>if r=true then do let ok ← PySem.isTrue c env (eval c env);pure (ForInStep.yield ok) else pure (ForInStep.yield r)) Q E s
 |[],q=>wpAny_pure q
 |x::r,q=>by
  rw[List.forIn_cons]
  refine wpAny_bind ?_
  rw[if_neg (by decide)]
  exact wpAny_pure (xZ q)
theorem G8:∀{cs:List ME},eI S call d cs->∀{l:Lo}{H H':Hp}{b:Bool},nU S.P call cs l H=some (b,H') ->
   ∀⦃nm:bn⦄⦃sl:Sl⦄⦃xs:List Expr⦄⦃s:Shared⦄⦃as:As⦄⦃T:TS⦄⦃env:Env⦄⦃A:Around⦄⦃E:Value->Shared->Prop⦄⦃Q:Bool->Shared->Prop⦄,gh A d->fg S.G cs nm sl xs=true->ER S as T env nm sl l s.heap->HR S as T H s.heap ->
   rD S as T s H' b Q->wpAny (model S.prog S.w) A (forIn xs true λc r=>if r=true then do let ok ← PySem.isTrue c env (eval c env);pure (ForInStep.yield ok) else pure (ForInStep.yield r)) Q E s
 |[],_,_,_,_,_,e=>by
   intro nm sl xs s as T env A E Q ao c er hr q
   rw[PY] at e;first|exact nn e|exact ff e|cases e
   induction xs using List.casesOn with
  |nil=>exact wpAny_pure (q s.heap s.toks as T (.refl ..) hr)
  |cons=>simp[fh,fj] at c
 |e0::r,hA,_,_,_,_,e=>by rw[PZ] at e;cases e
theorem HR.adopt{S:b0}{as:As}{T:TS}{H:Hp}{h:Heap}{D:Addr}{vs:List V}{ws:List Value}{k:Nat}(x:HR S as T H h)(e:h.get? D=some (lst ws k))(ho:D ∉ owned as)(h0:S.h0.get? D=none)(hg:sysModules<D)(hv:br S.fa as T vs ws)(hl:vs.length<=lim) :
  HR S (as++[(D,none)]) T (H++[.list vs]) h/\VR S.fa (as++[(D,none)]) T (.loc H.length) (.ref D):=by
 have m:eP as T (as++[(D,none)]) T:=⟨λn q e=>bH e,λ_ _ e=>e⟩
 refine⟨⟨x.base,by simp[x.len],λn q r e1 e2=>?_,?_,λa ha=>?_,x.im,x.t0,x.ro,x.two,λa ha=>?_⟩,?_⟩
 ·by_cases hn:n<H.length
  ·rw[dB hn] at e1
   rw[dB (by rw[x.len];exact hn)] at e2
   exact(x.obj n q r e1 e2).keep m (λ_ z=>z) (λ_ _ _ z=>z)
  ·have:n=H.length:=by
    have:=(eS.mp e1).1;simp at this;exact k8 (nt (aj [_,_] (.d (.s ab) (.s af) (.d (.s af) ab .z)) rfl this)) (nt (aj [_,_] (.d ab af (.d (.s af) ab .z)) rfl (eK.mp hn)))
   subst this
   rw[eT (aE _),gZ] at e1
   rw[eT (by rw[x.len];exact aE _),x.len,gZ] at e2
   cases e1;cases e2
   exact .list e hl (hv.mono m)
 ·rw[bE]
  refine za.mpr ⟨x.nd,by simp[owned],λa ha b hb q=>?_⟩
  simp[owned] at hb
  rw[q,hb] at ha
  exact ho ha
 ·rw[bE] at ha
  rcases dh.mp ha with q|q
  ·exact x.new a q
  ·simp[owned] at q;rw[q];exact h0
 ·rw[bE] at ha
  rcases dh.mp ha with q|q
  ·exact x.big a q
  ·simp[owned] at q;rw[q];exact hg
 ·exact .loc (p:=(D,none)) (by rw[eT (by rw[x.len];exact aE _),x.len,gZ];rfl)
theorem IR.self{it:It}{I:Addr}{Q:Value->Shared->Prop}(x:IR S as T s.heap it I)(q:Q (.ref I) s):wpAny (model S.prog S.w) A (pyIter (.ref I)) Q E s:=by
  induction x with
 |tup a _ _=>exact wpAny_pyIter_tupleiter a q
 |str a _=>exact wpAny_pyIter_striter_ascii a q
 |lst a _=>exact wpAny_pyIter_listiter a q
 |cQ a=>exact wpAny_pyIter_rangeiter a q
theorem oh{cond:Lo->Hp->Option (Bool×Hp)}{elt:Lo->Hp->Option (V×Hp)}{t:CT}{l:Lo}:∀{n:Nat}{it:It}{acc vs:List V}{H H':Hp},dw cond elt t l n it acc H=some (vs,H')->acc.length<=vs.length
 |0,_,_,_,_,_,e=>by rw[Ir] at e;first|exact nn e|exact ff e|exact nn e
 |n+1,it,acc,vs,H,H',e=>by
  rw[o5] at e
  split at e
  ·first|exact ff e|exact nn e|exact nn e
  ·cases e;simp
  ·split at e
   ·first|exact ff e|exact nn e|exact nn e
   ·refine aw e λb H1 e1 e=>?_
    split at e
    ·refine aw e λr H2 e2 e=>?_
     have:=oh e
     rw[c9] at this
     exact nt (aj [_,_] (.d (.s ab) af (.d (.s af) ab .z)) rfl this)
    ·exact oh e
theorem uc{i:Nat}(c:kv sl i=true):∃ x,sl[i]?=some (some (x,false)):=by
  unfold kv at c
  cases h:sl[i]? with
 |none=>rw[h] at c;exact ff c
 |some z=>induction z with
   |none=>rw[h] at c;exact ff c
   |some z=>
     obtain⟨x,b⟩:=z
     induction b with
    |false=>exact⟨x,rfl⟩
    |true=>rw[h] at c;exact ff c
theorem wI{i:Nat}{v:V}{n:Str}{w:Value}{Q:Unit->Shared->Prop}(f:kv sl i=true)(x:ER S as T env nm sl l s.heap)(hr:HR S as T H s.heap)(c:cv nm sl i n=true)(vr:VR S.fa as T v w)
  (q:∀ h' tk,Ext (λb=>b=env.locals) as T s.heap as T h'->HR S as T H h'->ER S as T env nm sl (l.set i (some v)) h'->Q () { s with heap:=h',toks:=tk }):wpAny (model S.prog S.w) A (storeName env n w) Q E s:=by
 refine tW (X:=λb=>b=env.locals) rfl (λc e _=>?_) x hr c vr q
 obtain⟨y,hy⟩:=uc f
 rw[hy] at e;first|exact nn e|exact ff e|cases e
theorem ud:∀{is:List Nat}{vs:List V}{l l':Lo},g7 is vs l=some l'->∀⦃xs:List Expr⦄⦃ws:List Value⦄⦃s:Shared⦄⦃E:Value->Shared->Prop⦄⦃Q:Unit->Shared->Prop⦄,is.all (kv sl)=true->nH nm sl is xs=true->ER S as T env nm sl l s.heap->HR S as T H s.heap->br S.fa as T vs ws ->
   (∀ h' tk,Ext (λb=>b=env.locals) as T s.heap as T h'->HR S as T H h'->ER S as T env nm sl l' h'->Q () { s with heap:=h',toks:=tk })->wpAny (model S.prog S.w) A (assignInOrder ((assignEach xs env).map (·.2)) ws) Q E s
 |[],[],_,_,e=>by
   intro xs ws s E Q _ c er hr vr q
   rw[nS] at e;first|exact nn e|exact ff e|cases e
   cases vr
   cases Eu c
   exact wpAny_pure (q s.heap s.toks (.refl ..) hr er)
 |[],_::_,_,_,e=>nn e
 |_::_,[],_,_,e=>nn e
 |i::is,v::vs,l,l',e=>by
   intro xs ws s E Q f c er hr vr q
   rw[nT] at e
   cases vr with
  |@cons v0 w1 l0 Jo v1 v2=>
    refine to c λn p xs c1 c2=>?_
    obtain⟨f1,f2⟩:=ai (a:=kv sl i) (b:=is.all (kv sl)) f
    show wpAny _ A (do holding Jo (assign (.Name n p) env w1);assignInOrder ((assignEach xs env).map (·.2)) Jo) Q E s
    refine wpAny_bind (wpAny_holding (assign_Name (wI f1 er hr c1 v1 λh1 dm x1 aO gy=>?_)))
    exact ud e f2 c2 gy aO v2 λh2 ix x2 bL rO=>q h2 ix (x1.trans x2) bL rO
theorem JA{t:CT}{v:V}{l':Lo}{x:Expr}{w:Value}{Q:Unit->Shared->Prop}(e:eG t v l=some l')(f:Eo sl t=true)(c:nJ nm sl t x=true)(hh:A.handled=none)(er:ER S as T env nm sl l s.heap)(hr:HR S as T H s.heap)(vr:VR S.fa as T v w)
    (q:∀ h' tk,Ext (λb=>b=env.locals) as T s.heap as T h'->HR S as T H h'->ER S as T env nm sl l' h'->Q () { s with heap:=h',toks:=tk }):wpAny (model S.prog S.w) A (assign x env w) Q E s:=by
  induction t with
 |one i=>
    refine Gf c λn p c=>?_
    cases e
    exact assign_Name (wI f er hr c vr q)
 |many is=>
    refine tq c λxs kk pos c=>?_
    induction v using V.casesOn with
   |tup vs=>
     obtain⟨c1,c2⟩:=og (G:=S.G) (env:=env) (qF c)
     refine wpAny_bind (wpAny_standAt ?_)
     unfold unpack
     rw[c2]
     refine wpAny_bind (wpAny_holding (tY (H:=H) (v:=.tup vs) (vs:=vs) rfl ?_ hh hr vr λws h' vv kp=>?_))
     ·rw[c1,cn]
      have:=oe (kI (ev:=λ_ _ _=>none) (H:=H) e)
      rw[cn] at this
      exact this
     ·have x0:Ext Nil as T s.heap as T h':=.keep kp
      refine ud e f c (er.ext x0) (hr.keep kp) vv λh2 ix x2 bL rO=>q h2 ix ?_ bL rO
      exact(Ext.nil (X:=λb=>b=env.locals) x0 (λb hb=>by rw[show b=env.locals from hb];exact er.frame.1)).trans x2
   |_=>exact nn e
theorem mh{j:Nat}:∀{is:List Nat}{vs:List V}{l l':Lo},g7 is vs l=some l'->j ∉ is->l'[j]?=l[j]?
 |[],[],_,_,e,_=>by rw[nS] at e;cases e;rfl
 |[],_::_,_,_,e,_=>nn e
 |_::_,[],_,_,e,_=>nn e
 |i::is,v::vs,_,_,e,h=>by
  rw[nT] at e
  rw[mh e (λq=>h (.tail _ q)),iQ (λq:i=j=>h (by rw[← q];exact .head _))]
theorem pD{t:CT}{v:V}{l':Lo}{j:Nat}{x:Str}(e:eG t v l=some l')(f:Eo sl t=true)(hj:sl[j]?=some (some (x,true))):l'[j]?=l[j]?:=by
  have no:∀ i,kv sl i=true->j≠i:=λi fi q=>by
    obtain⟨y,hy⟩:=uc fi
    rw[← q,hj] at hy;cases hy
  induction t with
 |one=>
    cases e
    rw[iQ (cA (no _ f))]
 |many is=>induction v using V.casesOn with
   |tup vs=>
     refine mh e λq=>?_
     exact no _ (fz.mp f _ q) rfl
   |_=>exact nn e
theorem ER.back{l':Lo}(x:ER S as T env nm sl l' h)(hl:l.length=sl.length)(h0:∀(i:Nat)(v:V)(y:Str),l[i]?=some (some v)->sl[i]?=some (some (y,false))->False)(h1:∀(i:Nat)(y:Str),sl[i]?=some (some (y,true))->l'[i]?=l[i]?):ER S as T env nm sl l h:=by
 obtain⟨m,hn,hm⟩:=x.loc
 refine⟨x.kind,x.glob,x.blt,x.names,x.zT,hl,x.nd,⟨m,hn,λi v y e1 e2=>(h0 i v y e1 e2).elim⟩,λi y e1=>?_,x.n8,x.kA,x.frame,x.cells⟩
 obtain⟨c,w,g1,g2,g3⟩:=x.cell i y e1
 exact⟨c,w,g1,g2,λv hv=>g3 v (by rw[h1 i y e1];exact hv)⟩
theorem CV{sc:Scope}(hk:env.scope.kind=.function):(relabel sc env).names=qv sc.names env.scope.names:=by
 unfold relabel qv
 refine List.map_congr_left λz _=>?_
 obtain⟨n,k⟩:=z
 show(if _ then _ else _)=(if _ then _ else _)
 have:(k==NameKind.free&&env.scope.kind==.function&&env.kindOf n==some .cell)=(eW k .free&&(match ll n env.scope.names with|some k'=>eW k' .cell|none=>false)):=by
  rw[hk,jW]
  unfold Env.kindOf
  induction k <;> simp[eW] <;> (cases hq:List.lookup n env.scope.names with
   |none=>rfl
   |some k'=>induction k' <;> rfl)
 rw[this]
 all_goals rfl
theorem mi{nm:bn}:∀{names:bn},frees names nm sl=true->∀{x:Str}{k:NameKind},(x,k)∈names->k≠.cell/\(k=.free->nm.lookup x=some .cell/\∃ i:Nat,sl[i]?=some (some (x,true)))
 |[],_,x,k,h=>by simp at h
 |(y,j)::r,c,x,k,h=>by
  simp only[IF,IG,cJ] at c
  rcases eC.mp h with e|e
  ·first|exact ff e|exact nn e|cases e
   have:=c.1
   induction j <;> simp only[vR,cJ] at this
   ·exact⟨by decide,λq=>by cases q⟩
   ·refine⟨by decide,λ_=>⟨?_,?_⟩⟩
    ·have h1:=this.1
     split at h1
     ·rename_i k' hk
      rw[jW] at hk
      rw[hk,i3 h1]
     ·first|exact ff h1|exact nn h1|exact ff h1
    ·obtain⟨z,hz,tB⟩:=List.any_eq_true.mp this.2
     obtain⟨i,hi⟩:=vP hz
     split at tB
     ·exact⟨i,by rw[hi,beq_iff_eq.mp tB]⟩
     ·first|exact ff tB|exact nn tB|exact ff tB
   ·exact⟨by decide,λq=>by cases q⟩
  ·exact mi c.2 e
theorem fk:∀{nm:bn}{i:Nat}{z:Option (Str×Bool)},(dr nm)[i]?=some z->∃ x,z=some (x,false)/\(x,NameKind.local)∈nm
 |[],i,z,e=>by simp[sZ,ku] at e
 |(y,k)::r,i,z,e=>by
    rw[ku] at e
    split at e
    · rename_i hc
      simp only[cJ] at hc
      have hk:=i3 hc.1
      subst hk
      induction i using Nat.casesOn with
     |zero=>simp at e;subst e;exact⟨y,rfl,.head _⟩
     |succ i=>obtain⟨x,h1,h2⟩:=fk (nm:=r) (i:=i) (z:=z) (by simpa using e);exact⟨x,h1,.tail _ h2⟩
    · obtain⟨x,h1,h2⟩:=fk e;exact⟨x,h1,.tail _ h2⟩
theorem qH:∀{nm:bn},(nm.map (·.1)).Nodup->∀{i j:Nat}{x:Str},(dr nm)[i]?=some (some (x,false))->(dr nm)[j]?=some (some (x,false))->i=j
 |[],_,i,_,_,e,_=>by simp[sZ,ku] at e
 |(y,k)::r,hn,i,j,x,e1,e2=>by
  obtain⟨h1,h2⟩:=gc.mp hn
  have no:∀{i:Nat},(dr r)[i]?=some (some (y,false))->False:=λe=>by
   obtain⟨x,q,hm⟩:=fk e
   cases q
   exact h1 (lH.mpr ⟨_,hm,rfl⟩)
  rw[ku] at e1 e2
  split at e1
  ·rename_i hc
   rw[if_pos hc] at e2
   induction i using Nat.casesOn <;> cases j
   ·rfl
   ·simp at e1 e2;subst e1;exact(no e2).elim
   ·simp at e1 e2;subst e2;exact(no e1).elim
   ·rename_i i j
    exact congrArg (· + 1) (qH h2 (i:=i) (j:=j) (x:=x) (by simpa using e1) (by simpa using e2))
  ·rename_i hc
   rw[if_neg hc] at e2
   exact qH h2 e1 e2
theorem gi{names:bn}{i:Nat}{x:Str}{b:Bool}(e:(gV sl names)[i]?=some (some (x,b))){zg:Prop}(zk:(b=true)->(sl[i]?=some (some (x,true)))->(names.lookup x=some .free)->zg):zg:=by
  unfold gV at e
  rw[jN] at e
  obtain⟨z,hz,e⟩:=Option.map_eq_some_iff.mp e
  split at e
  · rename_i y
    cases hq:ll y names with
   |none=>rw[hq] at e;simp at e
   |some k=>
      rw[hq] at e
      cases hk:eW k .free with
     |false=>simp[hk] at e
     |true=>simp[hk] at e;obtain⟨rfl,rfl⟩:=e;exact zk rfl hz (by rw[← jW,hq,i3 hk])
  · first|exact ff e|exact nn e|exact nn e
theorem ue{names:bn}{i:Nat}{x:Str}{b:Bool}(e:(gV sl names)[i]?=some (some (x,b))):b=true/\sl[i]?=some (some (x,true))/\names.lookup x=some .free:=gi e λcR cX io=>⟨cR,cX,io⟩
theorem CX{names nm:bn}(h:i0 names=true):i0 (qv names nm)=true:=by
  induction names with
 |nil=>rfl
 |cons z r ih=>
   obtain⟨n,k⟩:=z
   simp only[zD,zE,cJ] at h
   have this:∀(c:Prop)[Decidable c],((if c then(n,NameKind.cell) else(n,k)):Str×NameKind).fst=n:=by intro c _;split <;> rfl
   show i0 ((if _ then(n,NameKind.cell) else(n,k))::qv r nm)=true
   simp only[i0,this,h.1,Bool.true_and]
   exact ih h.2
theorem AD{sc:Scope}{k:Nat}{C:Addr}{g:Str->Option Value}(er:ER S as T env nm sl l h)(kp:∀ b o,h.get? b=some o->h'.get? b=some o)(hC:h.get? C=none)(hO:C ∉ owned as/\S.h0.get? C=none)(Wb:h'.Ns C g)(hk:i1 sc=true)(hf:frees sc.names nm sl=true)
  (hn:(sc.names.map (·.1)).Nodup) (hi:(dr sc.names).length=k) :
  ER S as T (compEnvC sc (fY env.cells sc.names []) C env) (qv sc.names nm) (gV sl sc.names++dr sc.names) (l++List.replicate k none) h':=by
 simp only[i1,cJ] at hk
 obtain⟨⟨⟨k1,k2⟩,k3⟩,k4⟩:=hk
 have kf:sc.kind=.function:=by
  split at k2
  ·rename_i e;exact e
  ·first|exact ff k2|exact nn k2|cases k2
 have fE:(gV sl sc.names).length=sl.length:=by unfold gV;rw[cn]
 have old:∀{x:Str}{c:Addr},(fY env.cells sc.names []).lookup x=some c->env.cells.lookup x=some c:=λe=>by
  rcases j5 e with q|q
  ·exact q
  ·simp at q
 have un:∀{x:Str}{i:Nat}{z:Option (Str×Bool)},sc.names.lookup x=some .free->(dr sc.names)[i]?=some z->z=some (x,false)->False:=λh1 h2 h3=>by
  obtain⟨y,q,hm⟩:=fk h2
  rw[h3] at q;first|exact nn q|exact ff q|cases q
  rw[gQ hn hm] at h1;cases h1
 have li:∀{i:Nat},i<sl.length->(l++List.replicate k (none:Option V))[i]?=l[i]?:=λWc=>dB (by rw[er.len];exact Wc)
 refine⟨kf,er.glob,er.blt,?_,CX k1,?_,λi j y b c e1 e2=>?_,⟨g,Wb,λi v y e1 e2=>?_⟩,λi y e1=>?_,λy z c e1 e2=>er.n8 y z c (old e1) (old e2),λy c e1=>?_,hO,λy c e1=>er.cells y c (old e1)⟩
 ·show(relabel sc env).names=_
  rw[CV er.kind,er.names]
 ·rw[aK,aK,List.length_replicate,fE,hi,er.len]
 ·by_cases x9:i<sl.length
  ·rw[dB (by rw[fE];exact x9)] at e1
   refine gi e1 λQ6=>?_
   subst Q6
   intro f1 f2
   by_cases JB:j<sl.length
   ·rw[dB (by rw[fE];exact JB)] at e2
    refine gi e2 λQ7=>?_
    subst Q7
    intro g1 g2
    exact er.nd i j y true true f1 g1
   ·rw[eT (by rw[fE];exact nt (aj [_,_] (.d ab af (.d (.s af) ab .z)) rfl (eK.mp JB)))] at e2
    obtain⟨z,q,_⟩:=fk e2
    cases q
    exact(un f2 e2 rfl).elim
  ·rw[eT (by rw[fE];exact nt (aj [_,_] (.d ab af (.d (.s af) ab .z)) rfl (eK.mp x9)))] at e1
   obtain⟨z,q,_⟩:=fk e1
   cases q
   by_cases JB:j<sl.length
   ·rw[dB (by rw[fE];exact JB)] at e2
    refine gi e2 λQ8=>?_
    subst Q8
    intro g1 g2
    exact(un g2 e1 rfl).elim
   ·rw[eT (by rw[fE];exact nt (aj [_,_] (.d ab af (.d (.s af) ab .z)) rfl (eK.mp JB)))] at e2
    obtain⟨z,q,_⟩:=fk e2
    cases q
    have:=qH hn e1 e2
    rw[fE] at this
    omega
 ·by_cases x9:i<sl.length
  ·rw[dB (by rw[fE];exact x9)] at e2
   obtain⟨q,_⟩:=ue e2
   exact ff q
  ·rw[eT (by rw[er.len];exact nt (aj [_,_] (.d ab af (.d (.s af) ab .z)) rfl (eK.mp x9))),List.getElem?_replicate] at e1
   split at e1 <;> cases e1
 ·by_cases x9:i<sl.length
  ·rw[dB (by rw[fE];exact x9)] at e1
   refine gi e1 λ_ f1 f2=>?_
   obtain⟨c,w,g1,g2,g3⟩:=er.cell i y f1
   refine⟨c,w,kK (mem_of_lookup f2) g1,em g2 λo=>kp _ o,λv hv=>g3 v (by rw[← li x9];exact hv)⟩
  ·rw[eT (by rw[fE];exact nt (aj [_,_] (.d ab af (.d (.s af) ab .z)) rfl (eK.mp x9)))] at e1
   obtain⟨z,q,_⟩:=fk e1
   cases q
 ·obtain⟨w,hw⟩:=er.kA y c (old e1)
  exact⟨w,em hw λo=>kp _ o⟩
end
end Mine
namespace Mine
section
variable {S:b0}{call:bT}{d:Nat}{as as':As}{T T':TS}{H H':Hp}{h h':Heap}{s:Shared}{env:Env}{nm:bn}{sl:Sl}{l:Lo}{A:Around}{E:Value->Shared->Prop}
theorem G9{h:Heap}{a:Addr}(ha:h.objs.size<=a):h.get? a=none:=by
  cases e:h.get? a with
 |none=>rfl
 |some o=>exact absurd (Heap.lt_size e) (eK.mpr ha)
theorem HR.fresh(hr:HR S as T H h){b:Addr}(hb:h.get? b=none):b ∉ owned as/\S.h0.get? b=none:=by
  refine⟨λq=>?_,?_⟩
  · obtain⟨o,ho⟩:=hr.alive q;rw[hb] at ho;exact nn ho
  · cases e:S.h0.get? b with
   |none=>rfl
   |some o=>have:=hr.base b o e;rw[hb] at this;exact nn this
theorem HR.JC(hr:HR S as T H h){a:Addr}{ws:List Value}{k:Nat}(e:h.get? a=some (lst ws k))(h0:S.h0.get? a=none)(i:Im):¬ T a i:=λt=>by
  have:=hr.im a i t
  induction i with
 |tup us=>obtain⟨o',e',c,_⟩:=this;rw[e] at e';cases e';simp[lst] at c
 |ro us=>obtain⟨o,q⟩:=hr.ro a us t;rw[h0] at q;exact nn q
 |cQ i j l=>obtain⟨t,u,v,e'⟩:=this;have e2:=e.symm.trans e';simp[lst] at e2
theorem Ext.adopt{as aQ:As}{T T1:TS}{h h1:Heap}{D:Addr}(x:Ext Nil as T h aQ T1 h1)(hD:h.get? D=none):Ext Nil as T h (aQ++[(D,none)]) T1 h1:=by
 refine⟨⟨λn p e=>bH (x.mono.Gv n p e),x.mono.tx⟩,x.kp,x.al,λb hb=>?_⟩
 rw[bE] at hb
 rcases dh.mp hb with q|q
 ·exact x.own b q
 ·simp[owned] at q;subst q;exact .inr hD
theorem JD{cs:Lo->Hp->Option (Bool×Hp)}{x:Lo->Hp->Option (V×Hp)}{t:CT}{n:Nat}{it:It}{acc:List V}{r:List V×Hp}(e:dw cs x t l (n+1) it acc H=some r){zg:Prop}(k1:du H it=some none->(acc.reverse,H)=r->zg)
    (k2:∀ v eB l1 b H1,du H it=some (some (v,eB))->eG t v l=some l1->cs l1 H=some (b,H1)->(if b then bw (x l1 H1) λw H2=>dw cs x t l n eB (w::acc) H2 else dw cs x t l n eB acc H1)=some r->zg):zg:=by
  rw[o5] at e
  generalize hn:du H it=o at e
  match o,e with
 |none,e=>exact nn e
 |some none,e=>exact k1 hn (cj e)
 |some (some (v,eB)),e=>
    dsimp only at e
    generalize hs:eG t v l=o at e
    match o,e with
   |none,e=>exact nn e
   |some l1,e=>exact aw e λb H1 e1 e=>k2 v eB l1 b H1 hn hs e1 e
inductive CJ(S:b0)(call:bT)(s:Shared)(env:Env)(nm:bn)(sl:Sl)(l:Lo)(I D:Addr)(aQ:As)(T1:TS)(h1:Heap)(t:CT)(cs:List ME)(elt:ME)(vs:List V)(H2:Hp)(n:Nat):Shared->Prop where
 |mk (hN:Heap) (TF:_) (ng:As) (TN:TS) (HN:Hp) (bZ:It) (acc:List V) (ws:List Value) (kN:Nat) (x:Ext Nil aQ T1 h1 ng TN hN) (r:HR S ng TN HN hN) (er:ER S ng TN env nm sl l hN) (ir:IR S ng TN hN bZ I) (f:gF S ng env I) (g:hN.get? D=some (lst ws kN)) (v:br S.fa ng TN acc.reverse ws) (fD:gF S ng env D)
  (e:dw (λl H=>nU S.P call cs l H) (λl H=>av S.P call elt l H) t l n bZ acc HN=some (vs,H2)):CJ S call s env nm sl l I D aQ T1 h1 t cs elt vs H2 n { s with heap:=hN,toks:=TF }
theorem AE{elt:ME}{t:CT}{cs:List ME}(uf:bu S call d elt)(rP:eI S call d cs){x tg Wd:Expr}{ifs:List Expr}{sc:Scope}{pos:Pos}{I D:Addr}{aQ:As}{T1:TS}{h1:Heap}{R:Result->Shared->Prop}{vs:List V}{n:Nat}{vp:It}{H2:Hp}(ao:gh A d)
    (c3:Eo sl t=true) (c4:nJ nm sl t tg=true) (c5:fg S.G cs nm sl ifs=true) (c6:aL S.G elt nm sl x=true) (rG:vs.length<=lim) (hI:h1.get? I=none) (Ha:h1.get? D=none) (Hb:h1.get? env.locals=none) (ID:I≠D) (IC:I≠env.locals) (JE:sysModules<D)
    (JF:∀(i:Nat)(v:V)(y:Str),l[i]?=some (some v)->sl[i]?=some (some (y,false))->False) (MV:Ext Nil aQ T1 h1 as T s.heap) (hr:HR S as T H s.heap) (er:ER S as T env nm sl l s.heap) (ir:IR S as T s.heap vp I) (fI:gF S as env I) (D4:s.heap.get? D=some (lst [] 0)) (fD:gF S as env D)
    (e2:dw (λl H=>nU S.P call cs l H) (λl H=>av S.P call elt l H) t l n vp [] H=some (vs,H2))
    (q:∀ h5 tk ng TN m,h5.Ns env.locals m->Ext Nil aQ T1 h1 ng TN h5->HR S (ng++[(D,none)]) TN (H2++[.list vs]) h5->VR S.fa (ng++[(D,none)]) TN (.loc H2.length) (.ref D)->env.locals ∉ owned ng->R (.ok .next) { s with heap:=h5,toks:=tk }) :
    codeAny (model S.prog S.w) A (.compLoop (.ListComp x [⟨tg,Wd,ifs,0⟩] sc pos) 0 (.ref I) (.ref D) env) R s:=by
  have JG:=er.len
  refine AC (CJ S call s env nm sl l I D aQ T1 h1 t cs elt vs H2) (λn s' We=>?_) n (.mk s.heap s.toks as T H vp [] [] 0 MV hr er ir fI D4 .nil fD e2)
  obtain⟨hN,TF,ng,TN,HN,bZ,acc,ws,kN,xN,MW,Q9,MX,ya,DN,vN,Hc,eN⟩:=We
  clear e2 D4 fI fD ir er hr MV
  generalize notedBy (model S.prog S.w) A env (λe s'=>R (.error e) s')=E1
  induction n using Nat.casesOn with
 |zero=>exact nn eN
 |succ n=>
    refine JD eN (λAx eN=>pu Ax MX ya.own MW ao.handled λh5 k5=>?_) (λu eB l5 b H7 Ax e5 e7 eN=>pu Ax MX ya.own MW ao.handled λwu h5 QI k5 TG ru=>EW TG ?_)
    · obtain⟨JH,Ra⟩:=(MW.iter MX ya k5).adopt (k5 _ _ (cA ID) DN) Hc.own Hc.old JE vN (by rw[(oW eN).1];exact rG)
      exact Q9.loc.elim λm hm=>q h5 _ ng TN m (lX hm.1 λo=>k5 _ o (cA IC)) (xN.off k5 hI (λz=>z)) ((oW eN).1▸(oW eN).2▸JH) ((oW eN).2▸Ra) Q9.frame.1
    · have xX:=MW.iter MX ya k5
      have G5:=Q9.but ya k5
      have x5:=xN.off k5 hI (λz=>z)
      have D5:=k5 _ _ (cA ID) DN
      refine JA e5 c3 c4 ao.handled G5 xX ru λh6 XS x6 JH TH=>?_
      have Wf:Ext Nil aQ T1 h1 ng TN h6:=x5.close x6 λb hb=>by rw[show b=env.locals from hb];exact Hb
      have D6:=x6.kp _ _ Hc.own (λz=>Hc.loc z) D5
      have TJ:=TG.ext x6 ya.own (λz=>ya.loc z)
      refine G8 rP e7 ao c5 TH JH λh7 XT Wg T7 x7 TK=>?_
      have Rc:=TH.ext x7
      have TL:=Wf.trans x7
      have D7:=x7.kp _ _ Hc.own (λz=>z) D6
      have Rd:=TJ.jZ λo ho _ _ _=>ya.ext x7 ho
      have Re:=Hc.ext x7 D6
      have Rf:=TJ.ext x7 ya.own (λz=>z)
      match b,eN with
     |true,eN=>
        refine aw eN λr H8 e8 eN=>uf e8 ao c6 Rc TK λwr h8 XU TM T8 x8 MY rr=>?_
        have D8:=x8.kp _ _ Re.own (λz=>z) D7
        have Wh:=Rc.ext x8
        have Wi:=Rf.jZ λo ho _ _ _=>Rd.ext x8 ho
        have JJ:=Re.ext x8 D7
        have Wj:=Rf.ext x8 Rd.own (λz=>z)
        have v8:br S.fa TM T8 acc.reverse ws:=(vN.mono x7.mono).mono x8.mono
        have hlen:ws.length<=lim:=by
          have:=oh eN
          rw[c9] at this
          have h2:=v8.length
          rw[lI] at h2
          exact nt (aj [_,_,_,_] (.d ab af (.d (.s aq) ab (.d aA aq (.d (.s af) aA .z)))) rfl rG this (bx h2))
        refine append_at (its:=ws.toArray) (n:=kN) D8 (λh9 Wl e9=>?_) (by rw[fW];exact dJ hlen)
        have k9:∀ b o,b≠D->h8.get? b=some o->h9.get? b=some o:=λb o nb e=>(Wl.2 b nb).trans e
        refine⟨n,lJ n,.mk h9 _ TM T8 H8 eB (r::acc) (ws++[wr]) (kN+1) ((TL.trans x8).off k9 Ha (λz=>z)) (MY.but k9 JJ.own JJ.old (MY.JC D8 JJ.old)) ?_ (Wj.keep (.refl ..) λo=>k9 _ o ID) Wi (by rw[e9];simp[lst]) ?_ JJ eN⟩
        · exact(Wh.but JJ k9).back JG JF λi y hy=>pD e5 c3 hy
        · rw[gb];exact v8.append (.cons rr .nil)
     |false,eN=>exact⟨n,lJ n,.mk h7 _ Wg T7 H7 eB acc ws kN TL TK (Rc.back JG JF λi y hy=>pD e5 c3 hy) Rf Rd D7 (vN.mono x7.mono) Re eN⟩
theorem wJ{elt src:ME}{t:CT}{k:Nat}{cs:List ME}(AF:bu S call d src)(uf:bu S call d elt)(rP:eI S call d cs){v:V}(e:av S.P call (.comp elt src t k cs) l H=some (v,H')){x tg it:Expr}{ifs:List Expr}{sc:Scope}{pos p:Pos}
   {use:Option (Value->Sem Unit)} {Q:Value->Shared->Prop} (ao:gh A d) (c:aL S.G (.comp elt src t k cs) nm sl (.ListComp x [⟨tg,it,ifs,0⟩] sc pos)=true) (er:ER S as T env nm sl l s.heap) (hr:HR S as T H s.heap)
   (q:∀ D C h' tk as' T' m,h'.Ns C m->Ext Nil as T s.heap as' T' h'->HR S as' T' H' h'->VR S.fa as' T' v (.ref D)->s.heap.get? C=none->C ∉ owned as'->compPost (model S.prog S.w) A E use Q (.ref D) C (.ok .next) { s with heap:=h',toks:=tk }) :
   wpAny (model S.prog S.w) A (comprehension (.ListComp x [⟨tg,it,ifs,0⟩] sc pos) sc env p (newList []) false (eval it env) use) Q E s:=by
 refine Co e λsv H1 vp vs H2 e1 hit e2 rG Rh=>?_
 subst Rh
 intro Ri
 subst Ri
 obtain⟨TO,c0⟩:=ai (a:=gg it&&aL S.G src nm sl it) c
 obtain⟨Wm,Wn⟩:=ai TO
 obtain⟨d1,c8⟩:=ai (b:=frees sc.names nm sl) c0
 obtain⟨d2,c7⟩:=ai d1
 obtain⟨d3,c6⟩:=ai d2
 obtain⟨d4,c5⟩:=ai d3
 refine LX d4 λc1 c2 c3 c4=>?_
 have Me:=kJ c7
 have kf:sc.kind=.function:=by
   have:=c2
   simp only[i1,cJ] at this
   have:=this.1.1.2
   split at this
   ·rename_i e;exact e
   ·exact ff this
 have CY:closureFor sc env=pure (fY env.cells sc.names []):=AB λy hy=>by
   obtain⟨_,i,hi⟩:=(mi c8 hy).2 rfl
   obtain⟨c,w,g1,_⟩:=er.cell i y hi
   rw[g1];rfl
 refine wpAny_comprehension_free (use:=use) rfl (rF Wm env) CY kf (λy hy hl=>by obtain⟨y1,y2⟩:=y;cases hl;exact gQ Me hy) ?_
 refine AF e1 ao Wn er hr λw h1 dm aQ T1 x1 aO vr=>?_
 refine Ao hit aO vr λI h2 hI Ay MM=>?_
 have gy:=er.ext x1
 have nI:=aO.fresh hI
 have bL:=aO.keep Ay
 obtain⟨oI,TP,_⟩:=MM.alive
 refine wpAny_newList ?_
 have OK:∀{b},h2.objs.size<=b->h1.get? b=none:=λ{b} hb=>by
   cases z:h1.get? b with
  |none=>rfl
  |some o=>exact absurd (Heap.lt_size (Ay _ _ z)) (eK.mpr hb)
 refine wpAny_newFunctionEnv (λy hy=>(mi c8 (x:=y.1) (k:=y.2) hy).1) (by intro y hy;simp at hy) (λh4 JK JL=>?_) kf
 dsimp only at JK JL ⊢
 generalize hG:h2.push { cls:=Value.type "list",dict:=none,data:=Data.seq ([]:List Value).toArray }=G2 at JK JL ⊢
 have hC:G2.objs.size=h2.objs.size+1:=by rw[← hG,Heap.size_push]
 have Wo:∀ b o,h2.get? b=some o->G2.get? b=some o:=λb o e=>hG▸b8 _ b o e
 have TQ:∀ b o,b≠G2.objs.size->G2.get? b=some o->h4.get? b=some o:=λb o nb e=>(JL.2 b nb).trans (b8 _ b o e)
 have TR:∀{b o},h2.get? b=some o->b≠G2.objs.size:=λe=>by rw[hC];exact d9 (vS (Heap.lt_size e))
 have EZ:∀ b o,h2.get? b=some o->h4.get? b=some o:=λb o e=>TQ b o (TR e) (Wo b o e)
 have dC:h2.objs.size≠G2.objs.size:=by rw[hC];exact d9 (nl (aj [_] (.d (.s ab) ab .z) rfl))
 have D4:h4.get? h2.objs.size=some (lst [] 0):=TQ _ _ dC (hG▸Heap.get?_push_size _ rfl)
 have Ha:h1.get? h2.objs.size=none:=OK (aE _)
 have Hb:h1.get? G2.objs.size=none:=OK (by rw[hC];exact nt (aj [_] (.d (.s (.s ab)) ab .z) rfl))
 have nD:=aO.fresh Ha
 have JE:sysModules<h2.objs.size:=by
   obtain⟨o',IP⟩:=bL.two
   exact nB (show sysModules<cStatics by decide) (Heap.lt_size (bL.base _ _ IP))
 have nC:=aO.fresh Hb
 have ID:I≠h2.objs.size:=d9 (Heap.lt_size TP)
 have IC:I≠G2.objs.size:=TR TP
 have Q0:=AD (k:=k) gy (h':=h4) (λb o e=>EZ b o (Ay b o e)) Hb nC JK c2 c8 Me (of_decide_eq_true c1)
 have E0:∀{b:Addr},h1.get? b=none->∀ y,(fY env.cells sc.names []).lookup y≠some b:=λhb y q=>by
   rcases j5 q with z|z
   ·obtain⟨w,hw⟩:=gy.kA y _ z
    obtain⟨o,ho⟩:=jm hw
    rw[hb] at ho;exact nn ho
   ·simp at z
 have fI:gF S aQ (compEnvC sc (fY env.cells sc.names []) G2.objs.size env) I:=⟨nI.1,nI.2,IC,E0 hI⟩
 have fD:gF S aQ (compEnvC sc (fY env.cells sc.names []) G2.objs.size env) h2.objs.size:=⟨nD.1,nD.2,dC,E0 Ha⟩
 have G4:IR S aQ T1 h4 vp I:=MM.keep (.refl ..) λo e=>EZ I o e
 have MV:Ext Nil aQ T1 h1 aQ T1 h4:=.keep λb o e=>EZ b o (Ay b o e)
 have JF:∀(i:Nat)(v:V)(y:Str),(l++List.replicate k (none:Option V))[i]?=some (some v)->(gV sl sc.names++dr sc.names)[i]?=some (some (y,false))->False:=by
   intro i v y f1 f2
   have fE:(gV sl sc.names).length=l.length:=by unfold gV;rw[cn,er.len]
   by_cases hi:i<l.length
   ·rw[dB (by rw[fE];exact hi)] at f2
    obtain⟨z,_⟩:=ue f2
    exact ff z
   ·rw[eT (by exact nt (aj [_,_] (.d ab af (.d (.s af) ab .z)) rfl (eK.mp hi))),List.getElem?_replicate] at f1
    split at f1 <;> cases f1
 have loop:∀ tk,codeAny (model S.prog S.w) A (.compLoop (.ListComp x [⟨tg,it,ifs,0⟩] sc pos) 0 (.ref I) (.ref h2.objs.size) (compEnvC sc (fY env.cells sc.names []) G2.objs.size env)) (compPost (model S.prog S.w) A E use Q (.ref h2.objs.size) G2.objs.size) { s with heap:=h4,toks:=tk }:=by
   intro tk
   refine AE uf rP ao c3 c4 c5 c6 rG hI Ha Hb ID IC JE JF MV (bL.keep EZ) Q0 G4 fI D4 fD e2 λh5 QI ng TN m hm xN JH Ra hO=>?_
   refine q _ _ h5 _ _ TN m hm (x1.trans (xN.adopt Ha)) JH Ra (x1.dead aO Hb) ?_
   rw[bE]
   intro z
   rcases dh.mp z with z|z
   ·exact hO z
   ·simp[owned] at z;exact dC z.symm
 exact codeAny_compStart_list (loop _) (G4.self (loop _))
theorem E2{elt src:ME}{t:CT}{k:Nat}{cs:List ME}(AF:bu S call d src)(uf:bu S call d elt)(rP:eI S call d cs):bu S call d (.comp elt src t k cs):=by
 intro l H H' v e nm sl x s as T env A E Q ao c er hr q
 refine tj c λy tg it ifs sc pos c=>?_
 ·rw[eval_ListComp]
  refine wJ AF uf rP (use:=none) e ao c er hr λD C h' tk as' T' m hm x' eo vr hC hO=>⟨m,hm,λQ1 sb=>?_⟩
  have kp:∀ b o,b≠C->h'.get? b=some o->Q1.get? b=some o:=λb o nb e=>(sb.2 b nb).trans e
  have Wp:=(hr.fresh hC).2
  exact q _ _ _ _ _ (x'.off kp hC (λz=>z)) (eo.but kp hO Wp (xE eo hm)) vr
end
end Mine
namespace Mine
section
variable {S:b0}{call:bT}{d:Nat}{as as':As}{T T':TS}{H H':Hp}{h h':Heap}{s:Shared}{env:Env}{nm:bn}{sl:Sl}{l:Lo}{A:Around}{E:Value->Shared->Prop}
theorem JM{n:Str}{py pos px:Pos}{x:Expr}{gens:List Comprehension}{sc:Scope}(er:ER S as T env nm sl l h)
  (c:(nm.lookup n==some .local&&py.line==px.line&&!(sc.names.any λ(z,k)=>z==n&&(k==.local || k==.cell)))=true):swapsWith (.ListComp x gens sc px) (some (.Name n py)) pos.line env=pure true:=by
 have hb:env.blockKind=.function:=by unfold Env.blockKind;rw[er.kind];rfl
 show(do return env.blockKind==.function&&env.kindOf n==some .local&&py.line==px.line&&!(sc.names.any λ(z,k)=>z==n&&(k==.local || k==.cell)):Sem Bool)=pure true
 have hk:env.kindOf n=nm.lookup n:=by unfold Env.kindOf;rw[er.names]
 rw[hb,hk]
 have:(ScopeKind.function==ScopeKind.function)=true:=rfl
 rw[this,Bool.true_and,c]
theorem Hd{i:Nat}{elt src:ME}{t:CT}{k:Nat}{cs:List ME}(AF:bu S call d src)(uf:bu S call d elt)(rP:eI S call d cs){l':Lo}{fl:Fl}(e:cU S.P call (.asg (.loc i) (.comp elt src t k cs)) l H=some (fl,l',H')){n:Str}{py pos px:Pos}{x:Expr}{gens:List Comprehension}{sc:Scope}
  {as:As} {T:TS} {Q:Flow->Shared->Prop} (ao:gh A d) (c1:cv nm sl i n=true) (c2:aL S.G (.comp elt src t k cs) nm sl (.ListComp x gens sc px)=true)
  (c3:(nm.lookup n==some .local&&py.line==px.line&&!(sc.names.any λ(z,k)=>z==n&&(k==.local || k==.cell)))=true) (er:ER S as T env nm sl l s.heap) (hr:HR S as T H s.heap) (q:jq S as T s env nm sl fl l' H' Q) :
  wpAny (model S.prog S.w) A (exec (.Assign [.Name n py] (.ListComp x gens sc px) pos) env) Q E s:=by
 refine ti (P:=λgens=>wpAny (model S.prog S.w) A (exec (.Assign [.Name n py] (.ListComp x gens sc px) pos) env) Q E s) c2 λtg it ifs c2=>?_
 refine qx e λv H1 l1 H2 e1 e2 e=>?_
 cases e
 have e2:some (l.set i (some v),H1)=some (l',H'):=e2
 cases e2
 rw[exec_Assign_Name_used _ _ _ _ (JM er c3)]
 ·refine wpAny_bind (wpAny_standAt (wpAny_bind ?_))
  show wpAny _ A (do let _ ← comprehension (.ListComp x [⟨tg,it,ifs,0⟩] sc px) sc env _ (newList []) false (eval it env) (some (assign (.Name n py) env))) _ _ s
  refine wpAny_bind (wpAny_mono (wJ (E:=E) AF uf rP (use:=some (assign (.Name n py) env)) (Q:=λ_ s'=>Q .next s') e1 ao c2 er hr λD C h' tk as' T' m hm x' eo vr hC hO=>?_) (λ_ s' hq=>wpAny_pure (wpAny_pure hq)) λ_ _ e=>e)
  have fC:=er.fresh hr hC
  obtain⟨oC,Wq⟩:=jX hm
  have TV:gF S as' env C:=fC.ext x' (o:=oC) |> λ_=>⟨hO,fC.old,fC.loc,fC.cell⟩
  refine assign_Name (j1 (er.ext x') eo c1 vr λh3 rN pt T3 x3 fR vz=>?_)
  have TX:=lX hm λo e=>x3.kp C o hO TV.CH e
  refine⟨m,TX,λh4 sb=>?_⟩
  have kp:∀ b o,b≠C->h3.get? b=some o->h4.get? b=some o:=λb o nb e=>(sb.2 b nb).trans e
  have f3:gF S pt env C:=TV.ext x3 Wq
  exact q _ _ _ _ _ (((x'.nil er.me).trans x3).off kp hC fC.CH) (fR.but kp f3.own f3.old (xE fR TX)) (vz.but f3 kp) .next
theorem yb{e0:ME}{elt:Expr}{gens:List Comprehension}{sc:Scope}{px:Pos}(c:aL S.G e0 nm sl (.ListComp elt gens sc px)=true):e0=.bad\/∃ a b ct k cs,e0=.comp a b ct k cs:=by
  induction e0 using ME.casesOn with
 |comp=>exact .inr ⟨_,_,_,_,_,rfl⟩
 |bad=>exact .inl rfl
 |_=>exact ff c
theorem MZ{t:Tg}{e0:ME}(ht:xU S call d t)(h0:bu S call d e0)(hc:∀ elt src ct k cs,e0=.comp elt src ct k cs->bu S call d src/\bu S call d elt/\eI S call d cs):qE S call d (.asg t e0):=by
  intro l l' H H' fl e nm sl x s as T env A E Q ao c er hr q
  refine F9 c λy x p c1 c2 c3=>?_
  have c3:(bif hH x then Ep nm sl t (zA nm y x) else Es nm y x t)=true:=c3
  cases hn:hH x with
 |true=>
   rw[hn] at c3
   exact kH ht h0 e ao c1 c2 hn c3 er hr q
 |false=>
   rw[hn] at c3
   refine Ga (P:=λy x t=>cU S.P call (.asg t e0) l H=some (fl,l',H')->pe S.G t nm sl y=true->aL S.G e0 nm sl x=true->wpAny (model S.prog S.w) A (exec (.Assign [y] x p) env) Q E s) (show Es nm y x t=true from c3) (λn py XJ gens sc px i c3 e c1 c2=>?_) e c1 c2
   rcases yb c2 with h|⟨a,b,ct,k,cs,h⟩
   ·rw[h] at e;obtain⟨_,_,_,_,e1,_⟩:=sf e;exact nn e1
   ·obtain⟨g1,g2,g3⟩:=hc _ _ _ _ _ h
    rw[h] at e c2
    exact Hd g1 g2 g3 e ao c1 c2 c3 er hr q
theorem HR.E3{D:Addr}{o:O}(x:HR S as T H h)(ho:D ∉ owned as)(h0:S.h0.get? D=none)(hg:sysModules<D)(hv:OR S (as++[(D,none)]) T h o (D,none)) :
  HR S (as++[(D,none)]) T (H++[o]) h:=by
 have m:eP as T (as++[(D,none)]) T:=⟨λn q e=>bH e,λ_ _ e=>e⟩
 refine⟨x.base,by rw[aK,aK,x.len];rfl,λn q r e1 e2=>?_,?_,λa ha=>?_,x.im,x.t0,x.ro,x.two,λa ha=>?_⟩
 ·by_cases hn:n<H.length
  ·rw[dB hn] at e1
   rw[dB (by rw[x.len];exact hn)] at e2
   exact(x.obj n q r e1 e2).keep m (λ_ z=>z) (λ_ _ _ z=>z)
  ·have hl:=(eS.mp e1).1
   rw[aK] at hl
   have:n=H.length:=k8 (Nat.le_of_lt_succ hl) (eK.mp hn)
   subst this
   rw[eT (aE _),gZ] at e1
   rw[eT (by rw[x.len];exact aE _),x.len,gZ] at e2
   cases e1;cases e2
   exact hv
 ·rw[bE]
  refine za.mpr ⟨x.nd,gc.mpr ⟨(λq=>nomatch q),.nil⟩,λa ha b hb q=>?_⟩
  rw[q,db.mp hb] at ha
  exact ho ha
 ·rw[bE] at ha
  rcases dh.mp ha with q|q
  ·exact x.new a q
  ·rw[db.mp q];exact h0
 ·rw[bE] at ha
  rcases dh.mp ha with q|q
  ·exact x.big a q
  ·rw[db.mp q];exact hg
theorem HR.wK(hr:HR S as T H h):sysModules<h.objs.size:=by
 obtain⟨o',IP⟩:=hr.two
 exact nB (by decide) (Heap.lt_size (hr.base _ _ IP))
noncomputable def TY(S:b0)(as:As)(T:TS)(s:Shared)(H':Hp)(ds:List (List Nat×V))(Q:List (Value×Value)->Shared->Prop):Prop:=
 ∀ vs He h' tk as' T',Ext Nil as T s.heap as' T' h'->HR S as' T' H' h'->Carries (strKind S.prog S.w) vs He->DR S as' T' ds He->Q vs { s with heap:=h',toks:=tk }
theorem DR.off{k:List Nat}{es:List (List Nat×V)}{ds:List (Str×Value)}(h:DR S as T es ds)(e:(bz k es).isNone=true):(⟨k.toArray⟩:Str) ∉ ds.map (·.1):=by
  induction h with
 |nil=>exact λh=>nomatch h
 |@cons j v w es ds _ _ ih=>
   rw[eM] at e
   have hj:¬ (j==k)=true:=λh=>by rw[if_pos h] at e;exact ff e
   rw[if_neg hj] at e
   intro h
   rcases eC.mp h with h|h
   ·have h:=beq_iff_eq.mpr h
    rw[mR] at h
    exact hj (beq_iff_eq.mpr (beq_iff_eq.mp h).symm)
   ·exact ih e h
noncomputable def Rj:List (List Nat×V)->Prop
 |[]=>True
 |(k,_)::r=>(bz k r).isNone=true/\Rj r
theorem DR.nd{es:List (List Nat×V)}{ds:List (Str×Value)}(h:DR S as T es ds)(n:Rj es):(ds.map (·.1)).Nodup:=by
  induction h with
 |nil=>exact .nil
 |cons _ h ih=>exact gc.mpr ⟨h.off n.1,ih n.2⟩
noncomputable def TZ(S:b0)(call:bT)(d:Nat)(es:List ME):Prop:=∀⦃l:Lo⦄⦃H H':Hp⦄⦃ds:List (List Nat×V)⦄,jf S.P call es l H=some (ds,H') ->
 ∀⦃nm:bn⦄⦃sl:Sl⦄⦃ks:List (Option Expr)⦄⦃us:List Expr⦄⦃s:Shared⦄⦃as:As⦄⦃T:TS⦄⦃env:Env⦄⦃A:Around⦄⦃E:Value->Shared->Prop⦄⦃Q:List (Value×Value)->Shared->Prop⦄⦃pos:Pos⦄,gh A d->xw S.G es nm sl ks us=true->ER S as T env nm sl l s.heap->HR S as T H s.heap ->
  TY S as T s H' ds Q->wpAny (model S.prog S.w) A (evalPairs (pairTrees ks us env pos)) Q E s
theorem Rk{P:Pg}{k v:ME}{r:List ME}{l:Lo}{H:Hp}:jf P call (k::v::r) l H=bw (av P call k l H) λk H=>bw (av P call v l H) λv H=>bw (jf P call r l H) λes H=>(match k with
 |.str s=>if(bz s es).isNone then some ((s,v)::es,H) else none
 |_=>none):=by rw[jf] <;> rfl
theorem ug{P:Pg}{k v:ME}{r:List ME}{ds:List (List Nat×V)}(e:jf P call (k::v::r) l H=some (ds,H')){zg:Prop}(zk:∀ z b es H1 H2,av P call k l H=some (.str z,H1)->av P call v l H1=some (b,H2)->jf P call r l H2=some (es,H')->(bz z es).isNone=true->ds=(z,b)::es->zg):zg:=by
  rw[Rk] at e
  refine aw e λa H1 e1 e=>?_
  refine aw e λb H2 e2 e=>?_
  refine aw e λGL H3 e3 e=>?_
  induction a using V.casesOn with
 |str z=>
    have e:(if(bz z GL).isNone then some ((z,b)::GL,H3) else none)=some (ds,H'):=e
    cases hz:(bz z GL).isNone with
   |false=>rw[hz] at e;exact nn e
   |true=>rw[hz] at e;cases e;exact zk z b GL H1 H2 e1 e2 e3 hz rfl
 |_=>exact nn e
theorem oi{G:Str->Option GV}{k v:ME}{r:List ME}{ks:List (Option Expr)}{us:List Expr}{P:List (Option Expr)->List Expr->Prop}(c:xw G (k::v::r) nm sl ks us=true)(zk:∀ x ks y us,aL G k nm sl x=true->aL G v nm sl y=true->xw G r nm sl ks us=true->P (some x::ks) (y::us)):P ks us:=by
  induction ks using List.casesOn with
 |nil=>exact ff c
 |cons x ks=>induction x with
   |none=>exact ff c
   |some x=>induction us using List.casesOn with
    |nil=>exact ff c
    |cons y us=>
     have c1:(aL G k nm sl x&&aL G v nm sl y&&xw G r nm sl ks us)=true:=c
     exact zk x ks y us (ai (ai c1).1).1 (ai (ai c1).1).2 (ai c1).2
structure T6(ds:List (List Nat×V))(ks:List (Option Expr))(us:List Expr):Prop where
 nd:Rj ds
 l1:ds.length=us.length
 l2:ks.length=us.length
 al:ks.all (·.isSome)=true
theorem AG{G:Str->Option GV}{P:Pg}:∀{es:List ME}{l:Lo}{H H':Hp}{ds:List (List Nat×V)}{ks:List (Option Expr)}{us:List Expr},jf P call es l H=some (ds,H')->xw G es nm sl ks us=true->T6 ds ks us
 |[],_,_,_,_,_,_,e,c=>by
  rw[jf] at e;cases e
  obtain⟨rfl,rfl⟩:=Et c
  exact⟨trivial,rfl,rfl,rfl⟩
 |[_],_,_,_,_,_,_,e,_=>by rw[jf] at e;cases e
 |k::v::r,_,_,_,_,_,_,e,c=>
  ug e λz b es H1 H2 _ _ e3 hz hd=>oi (P:=λks us=>T6 _ ks us) c λx ks y us _ _ c3=>by
   have h:=AG e3 c3
   subst hd
   exact⟨⟨hz,h.nd⟩,congrArg (· + 1) h.l1,congrArg (· + 1) h.l2,h.al⟩
theorem JN:∀{es:List ME},eI S call d es->TZ S call d es
 |[],_=>by
  intro l H H' ds e nm sl ks us s as T env A E Q pos ao c er hr q
  rw[jf] at e;cases e
  obtain⟨rfl,rfl⟩:=Et c
  exact pairTrees_nil_walk (q _ [] s.heap s.toks as T (.refl ..) hr trivial .nil)
 |[_],_=>by
  intro l H H' ds e
  rw[jf] at e;cases e
 |k::v::r,hA=>by
  intro l H H' ds e nm sl ks us s as T env A E Q pos ao c er hr q
  refine ug e λz b es H1 H2 e1 e2 e3 hz hd=>?_
  subst hd
  refine oi (P:=λks us=>wpAny (model S.prog S.w) A (evalPairs (pairTrees ks us env pos)) Q E s) c λx ks y us cx cy c3=>?_
  refine pairTrees_cons_walk (hA.1 e1 ao cx er hr λwk h1 dm aQ T1 x1 aO rk=>?_)
  refine hA.2.2.1 e2 ao cy (er.ext x1) aO λwv h2 ix iu T2 x2 bL rv=>?_
  refine JN hA.2.2.2.2 e3 ao c3 (er.ext (x1.trans x2)) bL λvs He h3 rN pt T3 x3 fR hc hd=>?_
  refine EB rk λt hw _=>?_
  subst hw
  exact q _ ((⟨z.toArray⟩,wv)::He) h3 rN pt T3 ((x1.trans x2).trans x3) fR ⟨beq_self_eq_true _,rfl,hc⟩ (.cons (rv.mono x3.mono) hd)
theorem E4{es:List ME}(hA:eI S call d es):bu S call d (.dict es):=by
  intro l H H' v e nm sl x s as T env A E Q ao c er hr q
  refine Cp e λvs H1 e1 Rl=>?_
  subst Rl
  intro Rm
  subst Rm
  refine tf c λks us p T9 cD=>?_
  have hD:s.heap.get? s.heap.objs.size=none:=G9 (aE _)
  have kp:=b8 (h:=s.heap) { cls:=Value.type "dict",data:=Data.dict #[] }
  have x0:Ext Nil as T s.heap as T (s.heap.push { cls:=Value.type "dict",data:=Data.dict #[] }):=Ext.keep kp
  have AH:=AG e1 cD
  have hf:=hr.fresh hD
  induction ks using List.casesOn with
 |nil=>
   have hu:us=[]:=DV.mp AH.l2.symm
   have hv:vs=[]:=DV.mp (AH.l1.trans (congrArg List.length hu))
   subst hu;subst hv
   have e0:H1=H:=by
     clear AH
     induction es using List.casesOn with
    |nil=>exact(oW (cj e1)).2.symm
    |cons k r=>induction r using List.casesOn with
      |nil=>exact nn e1
      |cons v r=>exact oi (P:=λks us=>ks=[]->H1=H) cD (λ_ _ _ _ _ _ _ h=>nomatch h) rfl
   subst e0
   refine wpAny_Dict_empty ?_
   have hd:(s.heap.push { cls:=Value.type "dict",data:=Data.dict #[] }).DictOf (strKind S.prog S.w) s.heap.objs.size []:=Heap.DictOf.new _
   have bL:=(hr.keep kp).E3 hf.1 hf.2 hr.wK (o:=.dict []) (.dict hd (cF _) .nil)
   exact q _ _ s.toks _ _ (x0.adopt hD) bL (.loc (p:=(s.heap.objs.size,none)) (by rw[eT (by rw[hr.len];exact aE _),hr.len,gZ];rfl))
 |cons k0 ks=>
   refine wpAny_Dict_walk (knd:=strKind S.prog S.w) AH.al AH.l2 (λh=>nomatch h) (AH.l2▸T9) (JN hA e1 (s:={ s with heap:=s.heap.push { cls:=Value.type "dict",data:=Data.dict #[] } }) ao cD (er.ext x0) (hr.keep kp) λps He h1 tk aQ T1 x1 aO hc hd=>?_)
   have Ua:s.heap.objs.size ∉ owned aQ:=λh=>(x1.own _ h).elim hf.1 λh=>by rw[Heap.get?_push_size] at h;cases h;rfl
   have Ub:h1.DictOf (strKind S.prog S.w) s.heap.objs.size []:=let ⟨o,es,ep,q,t⟩:=Heap.DictOf.new (knd:=strKind S.prog S.w) s.heap;⟨o,es,ep,x1.kp _ o hf.1 (λh=>h) q,t⟩
   refine⟨He,hc,Ub,λh' hm hs=>?_⟩
   rw[merged_nil_of_nodup _ (hd.nd AH.nd)] at hm
   have k:∀ b o,b≠s.heap.objs.size->h1.get? b=some o->h'.get? b=some o:=λb o hb e=>(hs.2 b hb).trans e
   have bL:=aO.but k Ua hf.2 (aO.wB Ub)
   have x2:Ext Nil as T s.heap (aQ++[(s.heap.objs.size,none)]) T1 h':=((x0.trans x1).off k hD (λh=>h)).adopt hD
   have m:eP aQ T1 (aQ++[(s.heap.objs.size,none)]) T1:=⟨λn q e=>bH e,λ_ _ e=>e⟩
   have fR:=bL.E3 Ua hf.2 hr.wK (o:=.dict vs) (.dict hm (by rw[AH.l1];exact bv T9 (by decide)) (hd.mono m))
   exact q _ _ _ _ _ x2 fR (.loc (p:=(s.heap.objs.size,none)) (by rw[eT (by rw[aO.len];exact aE _),aO.len,gZ];rfl))
theorem gG{e:ME}(h:bu S call d e)(hp:∀{G:Str->Option GV}{nm:bn}{sl:Sl}{x:Expr}{env:Env}{whole:Sem Value},aL G e nm sl x=true->PySem.isTrue x env whole=(do let v ← whole;standAt x.pos;holding [v] (truthy v))):lY S call d e:=by
 intro l H H' b e1 nm sl x s as T env A E Q ao c er hr q
 exact GW (hp c) h e1 ao c er hr q
theorem fT:∀{es:List ME},eI S call d es->lZ S call d es
 |[],_=>Qi
 |_::_,h=>Mk h.1 (fT h.2.2)
mutual
theorem aZ(C:Cx S)(ca:ft S call d):∀ e:ME,bu S call d e/\lY S call d e
 |.bad=>⟨Qj,λe=>nn e⟩
 |.lit v=>⟨I8,gG I8 λc=>by refine vW c ?_;intros;rfl⟩
 |.loc i=>⟨I9,gG I9 λc=>by refine vX c ?_;intros;rfl⟩
 |.glob v=>⟨EK C,gG (EK C) λc=>by refine s8 c ?_;intros;rfl⟩
 |.tup es=>⟨Ja (fT (eZ C ca es)),gG (Ja (fT (eZ C ca es))) λc=>by refine vY c ?_;intros;rfl⟩
 |.lst es=>⟨Jb (fT (eZ C ca es)),gG (Jb (fT (eZ C ca es))) λc=>by refine vZ c ?_;intros;rfl⟩
 |.dict es=>⟨E4 (eZ C ca es),gG (E4 (eZ C ca es)) λc=>by refine tf c ?_;intros;rfl⟩
 |.attr e a=>⟨EL C (aZ C ca e).1,gG (EL C (aZ C ca e).1) λc=>by refine s9 c ?_;intros;rfl⟩
 |.idx e i=>⟨Jc (aZ C ca e).1 (aZ C ca i).1,gG (Jc (aZ C ca e).1 (aZ C ca i).1) λc=>by refine v6 c ?_;intros;rfl⟩
 |.slice e lo hi st=>⟨Ak (aZ C ca e).1 (aZ C ca lo).1 (aZ C ca hi).1 (aZ C ca st).1,gG (Ak (aZ C ca e).1 (aZ C ca lo).1 (aZ C ca hi).1 (aZ C ca st).1) λc=>by refine rx c ?_;intros;rfl⟩
 |.bin op a b=>⟨Je (aZ C ca a).1 (aZ C ca b).1,gG (Je (aZ C ca a).1 (aZ C ca b).1) λc=>by refine v7 c ?_;intros;rfl⟩
 |.neg a=>⟨Jf (aZ C ca a).1,gG (Jf (aZ C ca a).1) λc=>by refine v9 c ?_;intros;rfl⟩
 |.not a=>⟨Qp (aZ C ca a).1,Qr (aZ C ca a).2⟩
 |.cmp op a b=>⟨Qs (aZ C ca a).1 (aZ C ca b).1,Qt (aZ C ca a).1 (aZ C ca b).1⟩
 |.nG op jC a b z=>⟨Ml (aZ C ca a).1 (aZ C ca b).1 (aZ C ca z).1,Mm (aZ C ca a).1 (aZ C ca b).1 (aZ C ca z).1⟩
 |.and es=>⟨Qw (eZ C ca es),Qx (eZ C ca es)⟩
 |.or es=>⟨Ts (eZ C ca es),Tt (eZ C ca es)⟩
 |.aB t a b=>⟨Qu (aZ C ca t).2 (aZ C ca a).1 (aZ C ca b).1,Qv (aZ C ca t).2 (aZ C ca a).2 (aZ C ca b).2⟩
 |.call f es=>⟨s_call C ca (aZ C ca f).1 (fT (eZ C ca es)),gG (s_call C ca (aZ C ca f).1 (fT (eZ C ca es))) λc=>by refine tb c ?_;intros;rfl⟩
 |.new k es=>⟨Jj C ca (fT (eZ C ca es)),gG (Jj C ca (fT (eZ C ca es))) λc=>by refine wj c ?_;intros;rfl⟩
 |.bm o m es=>⟨EP C ca (aZ C ca o).1 (fT (eZ C ca es)),gG (EP C ca (aZ C ca o).1 (fT (eZ C ca es))) λc=>by refine td c ?_;intros;rfl⟩
 |.ba o m es=>⟨Am (aZ C ca o).1 (fT (eZ C ca es)),gG (Am (aZ C ca o).1 (fT (eZ C ca es))) λc=>by refine ry c ?_;intros;rfl⟩
 |.prim p es=>⟨EO C (fT (eZ C ca es)),gG (EO C (fT (eZ C ca es))) λc=>by refine tc c ?_;intros;rfl⟩
 |.isin e k=>⟨EQ C (aZ C ca e).1,gG (EQ C (aZ C ca e).1) λc=>by refine te c ?_;intros;rfl⟩
 |.comp elt src t k cs=>⟨E2 (aZ C ca src).1 (aZ C ca elt).1 (eZ C ca cs),gG (E2 (aZ C ca src).1 (aZ C ca elt).1 (eZ C ca cs)) λc=>by refine tj c ?_;intros;rfl⟩
theorem eZ(C:Cx S)(ca:ft S call d):∀ es:List ME,eI S call d es
 |[]=>trivial
 |e::r=>⟨(aZ C ca e).1,(aZ C ca e).2,eZ C ca r⟩
end
mutual
theorem OL(C:Cx S)(ca:ft S call d):∀ t:Tg,xU S call d t
 |.loc i=>CK
 |.attr o a=>Mt C (aZ C ca o).1
 |.idx o i=>QB (aZ C ca o).1 (aZ C ca i).1
 |.tup ts=>Jp (JO C ca ts)
theorem JO(C:Cx S)(ca:ft S call d):∀ ts:List Tg,wH S call d ts
 |[]=>Jn
 |t::r=>ES (OL C ca t) (JO C ca r)
end
mutual
theorem Uc(C:Cx S)(ca:ft S call d):∀ st:MS,qE S call d st
 |.bad=>QE
 |.expr e=>Mv (aZ C ca e).1
 |.ret e=>QF (aZ C ca e).1
 |.asg t e=>MZ (OL C ca t) (aZ C ca e).1 λelt src ct k cs _=>⟨(aZ C ca src).1,(aZ C ca elt).1,eZ C ca cs⟩
 |.aug i op e=>QH (aZ C ca e).1
 |.lh o a op e=>My C (aZ C ca o).1 (aZ C ca e).1
 |.aB t b o=>Mx (aZ C ca t).2 (wL C ca b) (wL C ca o)
 |.lM t b=>MG (aZ C ca t).2 (wL C ca b)
 |.for t e b=>ML (aZ C ca e).1 (wL C ca b)
 |.brk=>QG
 |.cont=>Mw
theorem wL(C:Cx S)(ca:ft S call d):∀ b:List MS,t8 S call d b
 |[]=>QD
 |st::r=>Mu (Uc C ca st) (wL C ca r)
end
theorem sound(C:Cx S)(d:Nat):ft S (ae S.P d) d:=Jz C (λ_ ca b=>wL C ca b) d
end
end Mine
namespace Mine
noncomputable def uh(K:Frag)(a:Addr):Option (List Value):=match K.lookup a with
 |some o=>(match o.cls with
  |.type n=>(match o.data with|.seq us _=>bif n=="tuple" then some us.toList else none|_=>none)
  |_=>none)
 |none=>none
theorem vA{K:Frag}{a:Addr}{us:List Value}(h:uh K a=some us){zg:Prop}(zk:∀ d n sl,(K.lookup a=some ⟨.type "tuple",d,.seq us.toArray n,sl⟩)->zg):zg:=by
 obtain⟨d,n,sl,cR⟩:∃ d n sl,K.lookup a=some ⟨.type "tuple",d,.seq us.toArray n,sl⟩:=by
   unfold uh at h
   cases hk:K.lookup a with
  |none=>rw[hk] at h;exact nn h
  |some o=>
     rw[hk] at h
     obtain⟨c,d,da,sl⟩:=o
     dsimp only at h
     induction c with
    |type n=>induction da with
      |seq Wr k=>
        have h:(bif n=="tuple" then some Wr.toList else none)=some us:=h
        cases hn:n=="tuple" with
       |false=>rw[hn] at h;exact nn h
       |true=>rw[hn] at h;cases h;cases beq_iff_eq.mp hn;exact⟨d,k,sl,rfl⟩
      |_=>exact nn h
    |_=>exact nn h
 exact zk d n sl cR
mutual
noncomputable def yc(K:Frag):V->Value->Bool
 |.none,u=>(match u with|.none=>true|_=>false)
 |.bool b,u=>(match u with|.bool c=>b==c|_=>false)
 |.int i,u=>(match u with|.int j _=>i==j|_=>false)
 |.str s,u=>(match u with|.str x _=>s==x.cps.toList&&decide (s.length<=1000)|_=>false)
 |.tup l,u=>(match u with
  |.ref a=>(match uh K a with|some us=>decide (l.length<=1000)&&valsOk K l us|none=>false)
  |_=>false)
 |_,_=>false
noncomputable def valsOk(K:Frag):List V->List Value->Bool
 |[],us=>us.isEmpty
 |v::r,us=>(match us with|u::t=>yc K v u&&valsOk K r t|[]=>false)
end
noncomputable def isMissing(r:Option (Option Value)):Bool:=match r with|some none=>true|_=>false
noncomputable def isRef(r:Option (Option Value))(a:Nat):Bool:=match r with|some (some (.ref b))=>b==a|_=>false
noncomputable def wM(K:Frag)(fa ca:List Nat)(x:Str)(g:GV):Bool:=match g with
 |.fn k=>(match fa[k]? with|some a=>isRef (nsIn K mainGlobals x) a|none=>false)
 |.val v=>(match nsIn K mainGlobals x with|some (some u)=>yc K v u|_=>false)
 |.cls c=>(match ca[c]? with|some a=>isRef (nsIn K mainGlobals x) a&&x==Iw.getD c Str.empty|none=>false)
 |.pr _=>isMissing (nsIn K mainGlobals x)
 |.Ix=>isMissing (nsIn K mainGlobals x)&&x==Str.ofString "isinstance"
 |.typ _=>isMissing (nsIn K mainGlobals x)
noncomputable def kL(x:Str):List (Str×GV)->Option GV
 |[]=>none
 |(y,g)::r=>if x==y then some g else kL x r
theorem JQ{x y g r}:kL x ((y,g)::r)=(if x==y then some g else kL x r):=rfl
theorem ui{x:Str}{g:GV}:∀{gl:List (Str×GV)},kL x gl=some g->(x,g)∈gl
 |(y,h)::r,e=>by
  rw[JQ] at e
  split at e
  ·rename_i hb;cases e;rw[beq_iff_eq.mp hb];exact .head _
  ·exact .tail _ (ui e)
noncomputable def yd(K:Frag)(r:Option (Option Value))(fa:List Nat)(k:Nat):Bool:=match fa[k]? with
 |some a=>isRef r a&&(match typeIn K (.ref a) with|some t=>t==.type "function"|none=>false)
 |none=>false
noncomputable def Ro(r:Option (Option Value))(id:String):Bool:=match r with|some (some (.builtin i))=>i==id|_=>false
noncomputable def Ud:Option (Option Addr)->Bool
 |some none=>true
 |_=>false
noncomputable def JR(K:Frag)(fa:List Nat)(C:Nat)(ci:CI):Bool:=
 makesIn K C&&yd K (findIn K (.ref C) "__init__") fa ci.init&&Ro (findIn K (.ref C) "__getattribute__") "object.__getattribute__"&&isMissing (findIn K (.ref C) "__getattr__")&&hasDictIn K C &&
 (List.range 22).all (λi=>(match findIn K (.ref C) (dY i) with|some at'=>noGet K at'|none=>false)&&(match takerIn K C (dY i) with|some none=>true|_=>false)) &&
 Ro (findIn K (.ref C) "__setattr__") "object.__setattr__"&&plainOver K C &&
 ci.meths.all (λp=>yd K (findIn K (.ref C) (lR p.1)) fa p.2&&(List.range 22).all λi=>!(dY i==lR p.1))
noncomputable def js(G:Str->Option GV)(K:Frag):List FI->List Nat->Bool
 |[],_=>true
 |fi::r,a::t=>LW G K fi a&&js G K r t
 |_::_,[]=>false
theorem Hf{G K ip}:js G K ([]) ip=(true):=rfl
theorem Hg{G K fi r a t}:js G K (fi::r) (a::t)=(LW G K fi a&&js G K r t):=rfl
theorem Hh{G K ip B5}:js G K (ip::B5) ([])=(false):=rfl
theorem uj{G:Str->Option GV}{K:Frag}:∀{fns:List FI}{fa:List Nat},js G K fns fa=true->∀(k:Nat)(fi:FI),fns[k]?=some fi->∃ a:Nat,fa[k]?=some a/\LW G K fi a=true
 |[],_,_,k,fi,e=>by simp at e
 |_::_,[],h,_,_,_=>ff h
 |fi::r,a::t,h,k,Ws,e=>by
   simp only[Hf,Hg,Hh,cJ] at h
   induction k using Nat.casesOn with
  |zero=>simp at e;subst e;exact⟨a,rfl,h.1⟩
  |succ k=>obtain⟨b,h1,h2⟩:=uj h.2 k Ws (by simpa using e);exact⟨b,by simpa using h1,h2⟩
noncomputable def CZ(K:Frag)(fa ca:List Nat)(gl:List (Str×GV))(cls:List CI):Bool:=
 gl.all (λp=>wM K fa ca p.1 p.2)&&fa.all (λa=>keepIn K (.ref a))&&ca.all (λa=>keepIn K (.ref a))&&sh K ca &&
 (List.range 5).all λc=>(match ca[c]?,cls[c]? with|some C,some ci=>JR K fa C ci|_,_=>false)
noncomputable def AI(K:Frag)(p:Addr)(ws:List Value):TS:=λa i=>(a=p/\i=.ro ws)\/∃ us d n sl,i=.tup us/\K.lookup a=some ⟨.type "tuple",d,.seq us.toArray n,sl⟩
mutual
theorem wN{fa:List Nat}{K:Frag}{p:Addr}{ws:List Value}:∀{v:V}{u:Value},yc K v u=true->VR fa [] (AI K p ws) v u
 |.none,u,h=>by induction u with
  |none=>exact .none
  |_=>exact ff h
 |.bool b,u,h=>by induction u with
  |bool c=>rw[beq_iff_eq.mp h];exact .bool _
  |_=>exact ff h
 |.int i,u,h=>by induction u with
  |int c t=>rw[beq_iff_eq.mp h];exact .int _ _
  |_=>exact ff h
 |.str s,u,h=>by induction u with
  |str x t=>
    obtain⟨h1,h2⟩:=ai (a:=s==x.cps.toList) (b:=decide (s.length<=1000)) h
    have:=beq_iff_eq.mp h1
    subst this
    exact .str x.cps.toList t (by have:=of_decide_eq_true h2;unfold lim;exact nt (aj [_] (.d ab (.n 1000) (.d (.s (.n 1048576)) ab .z)) rfl this))
  |_=>exact ff h
 |.tup l,u,h=>by induction u with
  |ref a=>
    have h:(match uh K a with|some us=>decide (l.length<=1000)&&valsOk K l us|none=>false)=true:=h
    cases hk:uh K a with
   |none=>rw[hk] at h;exact ff h
   |some us=>
     rw[hk] at h
     obtain⟨h1,h2⟩:=ai (a:=decide (l.length<=1000)) (b:=valsOk K l us) h
     refine vA hk λd n sl hk=>?_
     exact .tup (ws:=us) (.inr ⟨us,d,n,sl,rfl,hk⟩) (by have:=of_decide_eq_true h1;unfold lim;exact nt (aj [_] (.d ab (.n 1000) (.d (.s (.n 1048576)) ab .z)) rfl this)) (uk h2)
  |_=>exact ff h
 |.loc n,u,h=>ff h
 |.cQ a b c,u,h=>ff h
 |.fn k,u,h=>ff h
 |.ro l,u,h=>ff h
theorem uk{fa:List Nat}{K:Frag}{p:Addr}{ws:List Value}:∀{l:List V}{us:List Value},valsOk K l us=true->br fa [] (AI K p ws) l us
 |[],us,h=>by
   have:=List.isEmpty_iff.mp (show us.isEmpty=true from h)
   subst this;exact .nil
 |v::r,us,h=>by
   induction us using List.casesOn with
  |nil=>exact ff h
  |cons u t=>
    obtain⟨h1,h2⟩:=ai (a:=yc K v u) (b:=valsOk K r t) h
    exact .cons (wN h1) (uk h2)
end
theorem qI{r:Option (Option Value)}{a:Nat}(h:isRef r a=true):r=some (some (.ref a)):=by
  induction r with
 |none=>exact ff h
 |some r=>induction r with
   |none=>exact ff h
   |some v=>induction v with
    |ref b=>cases beq_iff_eq.mp (show(b==a)=true from h);rfl
    |_=>exact ff h
theorem gY{r:Option (Option Value)}(h:isMissing r=true):r=some none:=by
  induction r with
 |none=>exact ff h
 |some r=>induction r with
   |none=>rfl
   |some v=>exact ff h
theorem E5{r:Option (Option Value)}{id:String}(h:Ro r id=true):r=some (some (.builtin id)):=by
  induction r with
 |none=>exact ff h
 |some r=>induction r with
   |none=>exact ff h
   |some v=>induction v with
    |builtin i=>cases beq_iff_eq.mp (show(i==id)=true from h);rfl
    |_=>exact ff h
theorem wO{K:Frag}{r:Option (Option Value)}{fa:List Nat}{k:Nat}(h:yd K r fa k=true):∃ a,fa[k]?=some a/\r=some (some (.ref a))/\typeIn K (.ref a)=some (.type "function"):=by
 unfold yd at h
 split at h
 ·rename_i a ha
  simp only[cJ] at h
  refine⟨a,ha,qI h.1,?_⟩
  have:=h.2
  split at this
  ·rename_i t ht;rw[ht,beq_iff_eq.mp this]
  ·first|exact ff this|exact nn this|exact nn this
 ·first|exact ff h|exact nn h|exact nn h
theorem oj{α:Type}{m:Nat}{v:α}:∀{l:List (Nat×α)},eF m l=some v->(m,v)∈l
 |(j,u)::r,h=>by
  rw[iU] at h
  split at h
  ·rename_i hb;cases h;rw[beq_iff_eq.mp hb];exact .head _
  ·exact .tail _ (oj h)
theorem Rp{S:b0}{gl:List (Str×GV)}{mg mb:Str->Option Value}{p:Addr}{ws:List Value}(hG:∀ x,S.G x=kL x gl)(hT:S.T0=AI S.K p ws)(X:S.K.In S.h0)(lm:S.h0.NoLimit)(g1:S.h0.Ns mainGlobals mg)(g2:S.h0.Ns builtinsNs mb)
  (g3:∀ x:Str,x≠"__name__"->mb x=bootBuiltins x) (c1:CZ S.K S.fa S.ca gl S.P.cls=true) (c2:js S.G S.K S.P.fns S.fa=true):Cx S:=by
 unfold CZ at c1
 simp only[cJ] at c1
 obtain⟨⟨⟨⟨d1,d2⟩,d3⟩,d4⟩,d5⟩:=c1
 have gk:∀ x g,S.G x=some g->wM S.K S.fa S.ca x g=true:=λx g e=>fz.mp d1 (x,g) (ui ((hG x).symm.trans e))
 refine⟨X,lm,⟨mg,mb,g1,g2,g3⟩,λx k e=>?_,λx v e=>?_,λx c e=>?_,λx q e=>?_,λx e=>?_,λx k e=>?_,uj c2,λk a e=>?_,λk a e=>?_,λc C h5 e=>?_,d4⟩
 ·have:=gk x _ e
  simp only[wM] at this
  split at this
  ·rename_i a ha;exact⟨a,ha,qI this⟩
  ·first|exact ff this|exact nn this|exact nn this
 ·have:=gk x _ e
  unfold wM at this
  simp only at this
  split at this
  ·rename_i u hu;exact⟨u,hu,hT▸wN this⟩
  ·first|exact ff this|exact nn this|exact nn this
 ·have:=gk x _ e
  unfold wM at this
  simp only at this
  split at this
  ·rename_i a ha
   simp only[cJ] at this
   exact⟨a,ha,qI this.1,beq_iff_eq.mp this.2⟩
  ·first|exact ff this|exact nn this|exact nn this
 ·exact gY (gk x _ e)
 ·have:=gk x _ e
  simp only[wM,cJ] at this
  exact⟨gY this.1,beq_iff_eq.mp this.2⟩
 ·exact gY (gk x _ e)
 ·exact fz.mp d2 a (lb e)
 ·exact fz.mp d3 a (lb e)
 ·have:=fz.mp d5 c (sK.mpr h5)
  rw[e] at this
  split at this
  ·rename_i C' ci Wt xK
   cases Wt
   refine⟨ci,xK,?_⟩
   unfold JR at this
   simp only[cJ] at this
   obtain⟨⟨⟨⟨⟨⟨⟨⟨a1,a2⟩,a3⟩,a4⟩,a5⟩,a6⟩,a7⟩,a8⟩,a9⟩:=this
   refine⟨a1,wO a2,⟨E5 a3,gY a4⟩,a5,λi hi=>?_,λi hi=>?_,E5 a7,a8,λm k hm=>?_,λm k i hm hi=>?_⟩
   ·have:=fz.mp a6 i (sK.mpr hi)
    simp only[cJ] at this
    have:=this.1
    split at this
    ·rename_i at' ha;exact⟨at',ha,this⟩
    ·first|exact ff this|exact nn this|exact nn this
   ·have:=fz.mp a6 i (sK.mpr hi)
    simp only[cJ] at this
    have:=this.2
    split at this
    ·assumption
    ·first|exact ff this|exact nn this|exact nn this
   ·have JS:=oj hm
    have:=fz.mp a9 _ JS
    simp only[cJ] at this
    exact wO this.1
   ·have JS:=oj hm
    have:=fz.mp a9 _ JS
    simp only[cJ] at this
    have:=fz.mp this.2 i (sK.mpr hi)
    simpa using this
  ·first|exact ff this|exact nn this|exact nn this
theorem wP{fa:List Nat}{as:As}{T:TS}:∀{ws:List Value}{ns:List Int},IntsAre ws ns->br fa as T (ns.map .int) ws
 |_,_,.nil=>.nil
 |_,_,.cons n t r=>.cons (.int n t) (wP r)
theorem entry{S:b0}(C:Cx S){p:Addr}{ws:List Value}{ns:List Int}{k d:Nat}{a:Addr}{H':Hp}{A:Around}{E Q:Value->Shared->Prop}{s:Shared}(hT:S.T0=AI S.K p ws)(hs:s.heap=S.h0)(hL:S.h0.IsList p ws.toArray)(hI:IntsAre ws ns)(hz:ns.length<=lim)(ao:Ah A d)(ha:S.fa[k]?=some a)
  (hc:ae S.P d k [.ro (ns.map .int)] []=some (.bool true,H')) (q:∀ h' tk,(∀ b o,S.h0.get? b=some o->h'.get? b=some o)->Q (.bool true) { s with heap:=h',toks:=tk }):wpAny (model S.prog S.w) A (call (.ref a) [.ref p]) Q E s:=by
 have hr:HR S [] S.T0 [] s.heap:=by
  rw[hs]
  refine⟨λ_ _ e=>e,rfl,λn o q e=>by simp at e,.nil,λa h=>by simp[owned] at h,λb i t=>?_,λ_ _ t=>t,λb us t=>?_,?_,λa h=>by simp[owned] at h⟩
  ·rw[hT] at t
   rcases t with⟨rfl,rfl⟩|⟨us,d,n,sl,rfl,hk⟩
   ·exact hL
   ·exact⟨_,C.X _ _ hk,rfl,n,rfl⟩
  ·rw[hT] at t
   rcases t with⟨rfl,_⟩|⟨us,d,n,sl,q,hk⟩
   ·obtain⟨o,ho,_⟩:=hL;exact⟨o,ho⟩
   ·first|exact ff q|exact nn q|cases q
  ·obtain⟨mc,n,_⟩:=C.lim
   exact jX n
 refine wpAny_call (sound C d hc ao ha hr (.cons (.ro (ws:=ws) (hT▸.inl ⟨rfl,rfl⟩) (by rw[cn];exact hz) (wP hI)) .nil) λw h' tk as' T' x eo vr=>?_)
 cases kE vr
 exact q h' tk eo.base
end Mine
namespace Mine
noncomputable def Hi:List MS:=[.asg (.tup [.loc 2,.loc 3]) (.tup [.lst [],.lst [.loc 0]]),.lM (.cmp .gt (.prim .len [.loc 3]) (.lit (.int 0))) [.asg (.loc 4) (.ba (.loc 3) .pop []),.aB (.cmp .eq (.idx (.loc 4) (.lit (.int 0))) (.loc 1)) [.expr (.ba (.loc 3) .extend [.lst [.idx (.loc 4) (.lit (.int 2)),.idx (.loc 4) (.lit (.int 1))]])] [.expr (.ba (.loc 2) .append [.loc 4])]],.ret (.loc 2)]
noncomputable def qJ:List MS:=[.ret (.and [.cmp .eq (.idx (.loc 0) (.lit (.int 0))) (.lit (.str [99,104,97,114,115])),.isin (.idx (.loc 0) (.lit (.int 1))) .str])]
noncomputable def mj:List MS:=[.asg (.loc 1) (.lst []),.for (.one 2) (.loc 0) [.aB (.call (.glob (.fn 1)) [.loc 2]) [.aB (.cmp .eq (.idx (.loc 2) (.lit (.int 1))) (.lit (.str []))) [.cont] [],.aB (.and [.cmp .gt (.prim .len [.loc 1]) (.lit (.int 0)),.call (.glob (.fn 1)) [.idx (.loc 1) (.bin .sub (.prim .len [.loc 1]) (.lit (.int 1)))]]) [.asg (.loc 2) (.tup [.lit (.str [99,104,97,114,115]),.bin .add (.idx (.ba (.loc 1) .pop []) (.lit (.int 1))) (.idx (.loc 2) (.lit (.int 1)))])] []] [],.expr (.ba (.loc 1) .append [.loc 2])],.ret (.loc 1)]
noncomputable def nh:List MS:=[.asg (.attr (.loc 0) 0) (.lst [])]
noncomputable def ni:List MS:=[.expr (.ba (.attr (.loc 0) 0) .append [.loc 1]),.ret (.bin .sub (.prim .len [.attr (.loc 0) 0]) (.lit (.int 1)))]
noncomputable def om:List MS:=[.asg (.loc 2) (.lst [.tup [.glob (.str [112,117,116]),.loc 1]]),.lM (.cmp .gt (.prim .len [.loc 2]) (.lit (.int 0))) [.asg (.tup [.loc 3,.loc 4]) (.ba (.loc 2) .pop []),.aB (.cmp .eq (.loc 3) (.glob (.str [112,117,116]))) [.expr (.ba (.loc 2) .extend [.slice (.bm (.loc 0) 103 [.loc 4]) (.lit .none) (.lit .none) (.neg (.lit (.int 1)))])] [.aB (.cmp .eq (.loc 3) (.glob (.str [101,109,105,116]))) [.expr (.bm (.loc 0) 101 [.loc 4])] [.expr (.bm (.loc 0) 106 [.loc 3,.loc 4])]]]]
noncomputable def ml:List MS:=[.asg (.loc 2) (.idx (.loc 1) (.lit (.int 0))),.aB (.cmp .eq (.loc 2) (.lit (.str [99,97,116]))) [.ret (.comp (.tup [.glob (.str [112,117,116]),.loc 3]) (.call (.glob (.fn 2)) [.call (.glob (.fn 0)) [.loc 1,.lit (.str [99,97,116])]]) (.one 3) 1 [])] [],.aB (.cmp .eq (.loc 2) (.lit (.str [97,108,116]))) [.ret (.bm (.loc 0) 104 [.call (.glob (.fn 0)) [.loc 1,.lit (.str [97,108,116])]])] [],.aB (.cmp .eq (.loc 2) (.lit (.str [97,114,98,110,111]))) [.ret (.bm (.loc 0) 105 [.idx (.loc 1) (.lit (.int 1))])] [],.aB (.or [.cmp .eq (.loc 2) (.lit (.str [108,97,116,101,114])),.cmp .eq (.loc 2) (.lit (.str [110,111,119]))]) [.expr (.bm (.loc 0) 101 [.tup [.glob (.str [109,97,114,107])]]),.ret (.lst [.tup [.glob (.str [112,117,116]),.idx (.loc 1) (.lit (.int 1))],.tup [.glob (.str [101,109,105,116]),.tup [.aB (.cmp .eq (.loc 2) (.lit (.str [108,97,116,101,114]))) (.glob (.str [110,97,109,101])) (.glob (.str [115,101,116])),.idx (.loc 1) (.lit (.int 2))]]])] [],.aB (.cmp .isin (.loc 2) (.glob (.tup [.str [99,104,97,114,115],.str [108,101,110],.str [112,111,115],.str [114,112,111,115],.str [116,97,98],.str [114,116,97,98],.str [97,110,121],.str [110,111,116,97,110,121],.str [115,112,97,110],.str [98,114,101,97,107],.str [114,101,109]]))) [.expr (.bm (.loc 0) 101 [.tup [.glob (.str [111,110,101]),.loc 2,.aB (.cmp .gt (.prim .len [.loc 1]) (.lit (.int 1))) (.idx (.loc 1) (.lit (.int 1))) (.lit (.none))]])] [.aB (.or [.cmp .eq (.loc 2) (.lit (.str [97,114,98])),.cmp .eq (.loc 2) (.lit (.str [98,97,108]))]) [.expr (.bm (.loc 0) 101 [.tup [.glob (.str [119,97,121,115]),.loc 2]])] [.expr (.bm (.loc 0) 101 [.aB (.cmp .isin (.loc 2) (.glob (.tup [.str [102,101,110,99,101],.str [102,97,105,108],.str [97,98,111,114,116],.str [115,117,99,99,101,101,100]]))) (.tup [.loc 2]) (.tup [.aB (.cmp .eq (.loc 2) (.lit (.str [99,117,114,115,111,114]))) (.glob (.str [112,108,97,99,101])) (.glob (.str [97,115,107])),.idx (.loc 1) (.lit (.int 1))])])]],.ret (.lst [])]
noncomputable def lz:List MS:=[.asg (.tup [.loc 2,.loc 3]) (.tup [.lst [],.lst [.neg (.lit (.int 1)),.lst []]]),.for (.one 4) (.slice (.loc 1) (.lit .none) (.bin .sub (.prim .len [.loc 1]) (.lit (.int 1))) (.lit .none)) [.expr (.ba (.loc 2) .extend [.lst [.tup [.glob (.str [111,112,101,110]),.loc 3],.tup [.glob (.str [112,117,116]),.loc 4],.tup [.glob (.str [115,104,117,116]),.loc 3]]])],.ret (.bin .add (.loc 2) (.lst [.tup [.glob (.str [112,117,116]),.idx (.loc 1) (.bin .sub (.prim .len [.loc 1]) (.lit (.int 1)))],.tup [.glob (.str [109,101,101,116]),.loc 3]]))]
noncomputable def lA:List MS:=[.asg (.loc 2) (.bm (.loc 0) 101 [.lit (.none)]),.asg (.loc 3) (.bm (.loc 0) 101 [.lit (.none)]),.asg (.idx (.attr (.loc 0) 0) (.loc 2)) (.tup [.glob (.str [115,112,108,105,116]),.prim .len [.attr (.loc 0) 0]]),.expr (.bm (.loc 0) 101 [.tup [.glob (.str [109,97,114,107])]]),.ret (.lst [.tup [.glob (.str [112,117,116]),.loc 1],.tup [.glob (.str [101,109,105,116]),.tup [.glob (.str [103,97,105,110])]],.tup [.glob (.str [101,109,105,116]),.tup [.glob (.str [106,117,109,112]),.loc 2]],.tup [.glob (.str [109,101,101,116]),.lst [.loc 2,.lst [.loc 3]]]])]
noncomputable def mm:List MS:=[.aB (.cmp .eq (.loc 1) (.glob (.str [111,112,101,110]))) [.asg (.idx (.loc 2) (.lit (.int 0))) (.bm (.loc 0) 101 [.lit (.none)])] [.aB (.cmp .eq (.loc 1) (.glob (.str [115,104,117,116]))) [.expr (.ba (.idx (.loc 2) (.lit (.int 1))) .append [.bm (.loc 0) 101 [.lit (.none)]]),.asg (.idx (.attr (.loc 0) 0) (.idx (.loc 2) (.lit (.int 0)))) (.tup [.glob (.str [115,112,108,105,116]),.prim .len [.attr (.loc 0) 0]])] [.for (.one 3) (.idx (.loc 2) (.lit (.int 1))) [.asg (.idx (.attr (.loc 0) 0) (.loc 3)) (.tup [.glob (.str [106,117,109,112]),.prim .len [.attr (.loc 0) 0]])]]]]
noncomputable def rQ:List MS:=[.asg (.loc 1) (.lst []),.for (.one 2) (.loc 0) [.aB (.cmp .isin (.idx (.loc 2) (.lit (.int 0))) (.tup [.glob (.str [106,117,109,112]),.glob (.str [115,112,108,105,116])])) [.asg (.loc 3) (.idx (.loc 2) (.lit (.int 1))),.lM (.cmp .eq (.idx (.idx (.loc 0) (.loc 3)) (.lit (.int 0))) (.glob (.str [106,117,109,112]))) [.asg (.loc 3) (.idx (.idx (.loc 0) (.loc 3)) (.lit (.int 1)))],.asg (.loc 2) (.tup [.idx (.loc 2) (.lit (.int 0)),.loc 3])] [],.expr (.ba (.loc 1) .append [.loc 2])],.ret (.loc 1)]
noncomputable def on:List MS:=[.asg (.loc 1) (.new 0 []),.expr (.bm (.loc 1) 102 [.loc 0]),.expr (.bm (.loc 1) 101 [.tup [.glob (.str [100,111,110,101])]]),.ret (.call (.glob (.fn 10)) [.attr (.loc 1) 0])]
noncomputable def nk:List MS:=[.bad]
noncomputable def rR:List MS:=[.bad]
noncomputable def rS:List MS:=[.bad]
noncomputable def rT:List MS:=[.asg (.attr (.loc 0) 15) (.loc 1),.asg (.attr (.loc 0) 16) (.loc 2),.asg (.attr (.loc 0) 17) (.loc 3)]
noncomputable def C0:List MS:=[.ret (.isin (.loc 0) (.cls 5))]
noncomputable def M0:List MS:=[.bad]
noncomputable def qK:List MS:=[.bad]
noncomputable def qL:List MS:=[.asg (.tup [.loc 1,.loc 2]) (.tup [.prim .abs [.loc 0],.lit (.str [])]),.lM (.or [.cmp .gt (.loc 1) (.lit (.int 0)),.cmp .eq (.loc 2) (.lit (.str []))]) [.asg (.loc 2) (.bin .add (.prim .chr [.bin .add (.lit (.int 48)) (.bin .mod (.loc 1) (.lit (.int 10)))]) (.loc 2)),.aug 1 .fdiv (.lit (.int 10))],.ret (.aB (.cmp .lt (.loc 0) (.lit (.int 0))) (.bin .add (.lit (.str [45])) (.loc 2)) (.loc 2))]
noncomputable def AJ:List MS:=[.bad]
noncomputable def C1:List MS:=[.aB (.isin (.loc 0) .str) [.ret (.loc 0)] [],.ret (.aB (.isin (.loc 0) .int) (.call (.glob (.fn 19)) [.loc 0]) (.lit (.none)))]
noncomputable def ye:List MS:=[.bad]
noncomputable def ul:List MS:=[.bad]
noncomputable def um:List MS:=[.bad]
noncomputable def vB:List MS:=[.aB (.isin (.loc 0) (.cls 6)) [.ret (.attr (.loc 0) 18)] [],.aB (.isin (.loc 0) (.cls 7)) [.ret (.tup [.lit (.str [100,101,108,97,121]),.attr (.loc 0) 19])] [],.asg (.loc 1) (.call (.glob (.fn 21)) [.loc 0]),.aB (.cmp .is (.loc 1) (.lit (.none))) [.bad] [],.ret (.tup [.lit (.str [99,104,97,114,115]),.loc 1])]
noncomputable def vC:List MS:=[.ret (.isin (.loc 0) .tuple)]
noncomputable def C2:List MS:=[.aB (.or [.and [.cmp .nR (.idx (.loc 0) (.lit (.int 0))) (.glob (.tup [.str [108,101,110],.str [112,111,115],.str [114,112,111,115],.str [116,97,98],.str [114,116,97,98]])),.cmp .nR (.idx (.loc 0) (.lit (.int 0))) (.glob (.tup [.str [97,110,121],.str [110,111,116,97,110,121],.str [115,112,97,110],.str [98,114,101,97,107]]))],.not (.call (.glob (.fn 26)) [.idx (.loc 0) (.lit (.int 1))])]) [.ret (.loc 0)] [],.asg (.loc 2) (.bm (.loc 1) 116 [.idx (.idx (.loc 0) (.lit (.int 1))) (.lit (.int 1))]),.aB (.call (.glob (.fn 16)) [.loc 2]) [.ret (.lit (.none))] [],.aB (.cmp .isin (.idx (.loc 0) (.lit (.int 0))) (.glob (.tup [.str [108,101,110],.str [112,111,115],.str [114,112,111,115],.str [116,97,98],.str [114,116,97,98]]))) [.ret (.tup [.idx (.loc 0) (.lit (.int 0)),.call (.glob (.fn 23)) [.loc 2,.idx (.loc 0) (.lit (.int 0)),.attr (.loc 1) 12]])] [],.ret (.tup [.idx (.loc 0) (.lit (.int 0)),.call (.glob (.fn 24)) [.loc 2,.idx (.loc 0) (.lit (.int 0))]])]
noncomputable def yf:List MS:=[.asg (.loc 3) (.bin .add (.loc 1) (.prim .len [.loc 2])),.ret (.aB (.cmp .eq (.slice (.loc 0) (.loc 1) (.loc 3) (.lit .none)) (.loc 2)) (.loc 3) (.lit (.none)))]
noncomputable def C3:List MS:=[.ret (.aB (.cmp .le (.bin .add (.loc 1) (.loc 2)) (.prim .len [.loc 0])) (.bin .add (.loc 1) (.loc 2)) (.lit (.none)))]
noncomputable def C4:List MS:=[.ret (.aB (.cmp .eq (.loc 0) (.loc 1)) (.loc 0) (.lit (.none)))]
noncomputable def AK:List MS:=[.ret (.aB (.cmp .eq (.bin .sub (.prim .len [.loc 0]) (.loc 1)) (.loc 2)) (.loc 1) (.lit (.none)))]
noncomputable def C5:List MS:=[.ret (.aB (.nG .le .le (.loc 1) (.loc 2) (.prim .len [.loc 0])) (.loc 2) (.lit (.none)))]
noncomputable def AL:List MS:=[.asg (.loc 3) (.bin .sub (.prim .len [.loc 0]) (.loc 2)),.ret (.aB (.cmp .le (.loc 1) (.loc 3)) (.loc 3) (.lit (.none)))]
noncomputable def C6:List MS:=[.ret (.prim .len [.loc 0])]
noncomputable def Hj:List MS:=[.ret (.aB (.and [.cmp .lt (.loc 1) (.prim .len [.loc 0]),.cmp .isin (.idx (.loc 0) (.loc 1)) (.loc 2)]) (.bin .add (.loc 1) (.lit (.int 1))) (.lit (.none)))]
noncomputable def yg:List MS:=[.ret (.aB (.and [.cmp .lt (.loc 1) (.prim .len [.loc 0]),.cmp .nR (.idx (.loc 0) (.loc 1)) (.loc 2)]) (.bin .add (.loc 1) (.lit (.int 1))) (.lit (.none)))]
noncomputable def C7:List MS:=[.lM (.and [.cmp .lt (.loc 1) (.prim .len [.loc 0]),.cmp .eq (.cmp .isin (.idx (.loc 0) (.loc 1)) (.loc 2)) (.loc 3)]) [.aug 1 .add (.lit (.int 1))],.ret (.loc 1)]
noncomputable def AM:List MS:=[.asg (.loc 3) (.call (.glob (.fn 37)) [.loc 0,.loc 1,.loc 2,.lit (.bool true)]),.ret (.aB (.cmp .gt (.loc 3) (.loc 1)) (.loc 3) (.lit (.none)))]
noncomputable def yh:List MS:=[.asg (.loc 3) (.call (.glob (.fn 37)) [.loc 0,.loc 1,.loc 2,.lit (.bool false)]),.ret (.aB (.cmp .lt (.loc 3) (.prim .len [.loc 0])) (.loc 3) (.lit (.none)))]
noncomputable def AN:List MS:=[.ret (.prim .list [.prim .range [.loc 1,.bin .add (.prim .len [.loc 0]) (.lit (.int 1))]])]
noncomputable def C8:List MS:=[.bad]
noncomputable def AO:List MS:=[.bad]
noncomputable def C9:List MS:=[.aB (.cmp .eq (.loc 0) (.lit (.str [99,104,97,114,115]))) [.ret (.call (.glob (.fn 28)) [.loc 1,.loc 2,.loc 3])] [],.aB (.cmp .eq (.loc 0) (.lit (.str [108,101,110]))) [.ret (.call (.glob (.fn 29)) [.loc 1,.loc 2,.loc 3])] [],.aB (.cmp .eq (.loc 0) (.lit (.str [112,111,115]))) [.ret (.call (.glob (.fn 30)) [.loc 2,.loc 3])] [],.aB (.cmp .eq (.loc 0) (.lit (.str [114,112,111,115]))) [.ret (.call (.glob (.fn 31)) [.loc 1,.loc 2,.loc 3])] [],.aB (.cmp .eq (.loc 0) (.lit (.str [116,97,98]))) [.ret (.call (.glob (.fn 32)) [.loc 1,.loc 2,.loc 3])] [],.aB (.cmp .eq (.loc 0) (.lit (.str [114,116,97,98]))) [.ret (.call (.glob (.fn 33)) [.loc 1,.loc 2,.loc 3])] [],.aB (.cmp .eq (.loc 0) (.lit (.str [97,110,121]))) [.ret (.call (.glob (.fn 35)) [.loc 1,.loc 2,.loc 3])] [],.aB (.cmp .eq (.loc 0) (.lit (.str [110,111,116,97,110,121]))) [.ret (.call (.glob (.fn 36)) [.loc 1,.loc 2,.loc 3])] [],.aB (.cmp .eq (.loc 0) (.lit (.str [115,112,97,110]))) [.ret (.call (.glob (.fn 38)) [.loc 1,.loc 2,.loc 3])] [],.ret (.call (.glob (.fn 39)) [.loc 1,.loc 2,.loc 3])]
noncomputable def yi:List MS:=[.ret (.aB (.cmp .eq (.idx (.loc 0) (.lit (.int 0))) (.lit (.str [114,101,109]))) (.call (.glob (.fn 34)) [.loc 1]) (.call (.glob (.fn 43)) [.idx (.loc 0) (.lit (.int 0)),.loc 1,.loc 2,.idx (.loc 0) (.lit (.int 1))]))]
noncomputable def Db:List MS:=[.aB (.cmp .eq (.loc 0) (.lit (.str [97,114,98]))) [.ret (.call (.glob (.fn 40)) [.loc 1,.loc 2])] [],.aB (.cmp .eq (.loc 0) (.lit (.str [98,97,108]))) [.ret (.call (.glob (.fn 42)) [.loc 1,.loc 2])] [],.aB (.cmp .eq (.loc 0) (.lit (.str [114,101,109]))) [.ret (.lst [.call (.glob (.fn 34)) [.loc 1]])] [],.asg (.loc 4) (.call (.glob (.fn 43)) [.loc 0,.loc 1,.loc 2,.loc 3]),.ret (.aB (.cmp .is (.loc 4) (.lit (.none))) (.lst []) (.lst [.loc 4]))]
noncomputable def AP:List MS:=[.asg (.attr (.loc 0) 0) (.loc 1),.asg (.attr (.loc 0) 1) (.loc 2),.asg (.attr (.loc 0) 2) (.loc 3),.asg (.attr (.loc 0) 3) (.loc 4),.asg (.attr (.loc 0) 4) (.loc 5),.asg (.attr (.loc 0) 5) (.loc 6)]
noncomputable def vD:List MS:=[.ret (.new 2 [.attr (.loc 0) 0,.loc 1,.attr (.loc 0) 2,.attr (.loc 0) 3,.attr (.loc 0) 4,.attr (.loc 0) 5])]
noncomputable def vE:List MS:=[.asg (.attr (.loc 0) 6) (.loc 1),.asg (.attr (.loc 0) 7) (.loc 2),.asg (.attr (.loc 0) 8) (.lst [])]
noncomputable def yj:List MS:=[.asg (.loc 3) (.new 2 [.loc 1,.lit (.int 0),.loc 2,.lit (.none),.lit (.none),.lit (.none)]),.lM (.cmp .fB (.loc 3) (.lit (.none))) [.expr (.bm (.attr (.loc 0) 7) 118 []),.asg (.loc 4) (.idx (.attr (.loc 3) 0) (.attr (.loc 3) 1)),.aB (.and [.cmp .eq (.idx (.loc 4) (.lit (.int 0))) (.glob (.str [100,111,110,101])),.cmp .is (.attr (.loc 3) 5) (.lit (.none))]) [.ret (.tup [.glob (.int 0),.loc 3])] [],.aB (.cmp .eq (.idx (.loc 4) (.lit (.int 0))) (.glob (.str [97,98,111,114,116]))) [.ret (.tup [.glob (.int 2),.lit (.none)])] [],.aB (.not (.bm (.loc 0) 110 [.loc 4,.loc 3])) [.asg (.loc 3) (.bm (.loc 0) 109 []),.aB (.and [.cmp .fB (.loc 3) (.lit (.none)),.cmp .is (.attr (.loc 3) 0) (.lit (.none))]) [.ret (.tup [.glob (.int 2),.lit (.none)])] []] []],.ret (.tup [.glob (.int 1),.lit (.none)])]
noncomputable def pE:List MS:=[.ret (.aB (.cmp .gt (.prim .len [.attr (.loc 0) 8]) (.lit (.int 0))) (.ba (.attr (.loc 0) 8) .pop []) (.lit (.none)))]
noncomputable def vF:List MS:=[.asg (.loc 3) (.idx (.loc 1) (.lit (.int 0))),.aB (.cmp .eq (.loc 3) (.glob (.str [111,110,101]))) [.ret (.bm (.loc 0) 111 [.loc 1,.loc 2])] [],.aB (.cmp .eq (.loc 3) (.glob (.str [115,112,108,105,116]))) [.expr (.ba (.attr (.loc 0) 8) .append [.bm (.loc 2) 107 [.idx (.loc 1) (.lit (.int 1))]])] [.aB (.cmp .eq (.loc 3) (.glob (.str [106,117,109,112]))) [.asg (.attr (.loc 2) 1) (.idx (.loc 1) (.lit (.int 1))),.ret (.lit (.bool true))] [.aB (.cmp .eq (.loc 3) (.glob (.str [109,97,114,107]))) [.asg (.attr (.loc 2) 4) (.tup [.attr (.loc 2) 4,.attr (.loc 2) 2])] [.aB (.cmp .isin (.loc 3) (.tup [.glob (.str [110,97,109,101]),.glob (.str [115,101,116]),.glob (.str [103,97,105,110])])) [.aB (.not (.bm (.loc 0) 112 [.loc 1,.loc 2])) [.ret (.lit (.bool false))] []] [.aB (.cmp .eq (.loc 3) (.glob (.str [112,108,97,99,101]))) [.aB (.not (.bm (.attr (.loc 0) 7) 117 [.idx (.loc 1) (.lit (.int 1)),.attr (.loc 2) 2])) [.ret (.lit (.bool false))] []] [.ret (.bm (.loc 0) 113 [.loc 1,.loc 2])]]]]],.lh (.loc 2) 1 .add (.lit (.int 1)),.ret (.lit (.bool true))]
noncomputable def pF:List MS:=[.asg (.loc 3) (.idx (.loc 1) (.lit (.int 2))),.aB (.isin (.loc 3) .tuple) [.asg (.loc 4) (.call (.glob (.fn 27)) [.tup [.idx (.loc 1) (.lit (.int 1)),.loc 3],.attr (.loc 0) 7]),.aB (.cmp .is (.loc 4) (.lit (.none))) [.ret (.lit (.bool false))] [],.asg (.loc 3) (.idx (.loc 4) (.lit (.int 1)))] [],.asg (.loc 5) (.call (.glob (.fn 44)) [.tup [.idx (.loc 1) (.lit (.int 1)),.loc 3],.attr (.loc 0) 6,.attr (.loc 2) 2]),.aB (.cmp .is (.loc 5) (.lit (.none))) [.ret (.lit (.bool false))] [],.asg (.attr (.loc 2) 2) (.loc 5),.lh (.loc 2) 1 .add (.lit (.int 1)),.ret (.lit (.bool true))]
noncomputable def up:List MS:=[.asg (.tup [.loc 3,.loc 4]) (.attr (.loc 2) 4),.asg (.attr (.loc 2) 4) (.loc 3),.asg (.loc 5) (.slice (.attr (.loc 0) 6) (.loc 4) (.attr (.loc 2) 2) (.lit .none)),.aB (.cmp .eq (.idx (.loc 1) (.lit (.int 0))) (.glob (.str [103,97,105,110]))) [.ret (.cmp .gt (.attr (.loc 2) 2) (.loc 4))] [],.aB (.cmp .eq (.idx (.loc 1) (.lit (.int 0))) (.glob (.str [115,101,116]))) [.ret (.bm (.attr (.loc 0) 7) 117 [.idx (.loc 1) (.lit (.int 1)),.loc 5])] [],.asg (.attr (.loc 2) 3) (.tup [.attr (.loc 2) 3,.tup [.idx (.loc 1) (.lit (.int 1)),.loc 5]]),.ret (.lit (.bool true))]
noncomputable def uq:List MS:=[.asg (.loc 3) (.idx (.loc 1) (.lit (.int 0))),.aB (.cmp .eq (.loc 3) (.glob (.str [102,97,105,108]))) [.ret (.lit (.bool false))] [],.aB (.cmp .eq (.loc 3) (.glob (.str [119,97,121,115]))) [.ret (.bm (.loc 0) 114 [.loc 2,.call (.glob (.fn 45)) [.idx (.loc 1) (.lit (.int 1)),.attr (.loc 0) 6,.attr (.loc 2) 2,.lit (.none)]])] [],.aB (.cmp .eq (.loc 3) (.glob (.str [97,115,107]))) [.ret (.bm (.loc 0) 115 [.idx (.loc 1) (.lit (.int 1)),.loc 2])] [],.aB (.cmp .eq (.loc 3) (.glob (.str [100,111,110,101]))) [.asg (.tup [.attr (.loc 2) 5,.tup [.attr (.loc 2) 0,.attr (.loc 2) 1]]) (.attr (.loc 2) 5),.ret (.lit (.bool true))] [],.aB (.cmp .eq (.loc 3) (.glob (.str [102,101,110,99,101]))) [.expr (.ba (.attr (.loc 0) 8) .append [.new 2 [.lit (.none),.lit (.int 0),.lit (.int 0),.lit (.none),.lit (.none),.lit (.none)]])] [.aB (.cmp .eq (.loc 3) (.glob (.str [115,117,99,99,101,101,100]))) [.expr (.ba (.attr (.loc 0) 8) .append [.bm (.loc 2) 107 [.attr (.loc 2) 1]])] []],.lh (.loc 2) 1 .add (.lit (.int 1)),.ret (.lit (.bool true))]
noncomputable def ot:List MS:=[.aB (.cmp .eq (.prim .len [.loc 2]) (.lit (.int 0))) [.ret (.lit (.bool false))] [],.lh (.loc 1) 1 .add (.lit (.int 1)),.for (.one 3) (.slice (.loc 2) (.lit .none) (.lit (.int 0)) (.neg (.lit (.int 1)))) [.asg (.loc 4) (.bm (.loc 1) 107 [.attr (.loc 1) 1]),.asg (.attr (.loc 4) 2) (.loc 3),.expr (.ba (.attr (.loc 0) 8) .append [.loc 4])],.asg (.attr (.loc 1) 2) (.idx (.loc 2) (.lit (.int 0))),.ret (.lit (.bool true))]
noncomputable def ur:List MS:=[.asg (.loc 3) (.bm (.attr (.loc 0) 7) 116 [.loc 1]),.aB (.call (.glob (.fn 16)) [.loc 3]) [.ret (.lit (.bool false))] [],.asg (.attr (.loc 2) 5) (.tup [.attr (.loc 2) 5,.tup [.attr (.loc 2) 0,.bin .add (.attr (.loc 2) 1) (.lit (.int 1))]]),.asg (.tup [.attr (.loc 2) 0,.attr (.loc 2) 1]) (.tup [.call (.glob (.fn 11)) [.call (.glob (.fn 25)) [.loc 3]],.lit (.int 0)]),.ret (.lit (.bool true))]
noncomputable def vG:List MS:=[.asg (.loc 1) (.lst []),.lM (.cmp .fB (.loc 0) (.lit (.none))) [.asg (.tup [.loc 0,.loc 2]) (.loc 0),.expr (.ba (.loc 1) .append [.loc 2])],.expr (.ba (.loc 1) .reverse []),.ret (.loc 1)]
noncomputable def rU:List MS:=[.for (.one 4) (.prim .range [.aB (.loc 2) (.lit (.int 1)) (.bin .add (.prim .len [.loc 1]) (.lit (.int 1)))]) [.asg (.tup [.loc 5,.loc 6]) (.bm (.new 3 [.loc 1,.loc 3]) 108 [.loc 0,.loc 4]),.aB (.cmp .eq (.loc 5) (.glob (.int 0))) [.ret (.tup [.loc 4,.attr (.loc 6) 2,.call (.glob (.fn 57)) [.attr (.loc 6) 3]])] [],.aB (.cmp .eq (.loc 5) (.glob (.int 2))) [.ret (.lit (.none))] []],.ret (.lit (.none))]
noncomputable def pG:List MS:=[.ret (.call (.glob (.fn 58)) [.call (.glob (.fn 11)) [.loc 0],.loc 1,.loc 2,.loc 3])]
noncomputable def pH:List MS:=[.asg (.attr (.loc 0) 9) (.loc 1),.asg (.attr (.loc 0) 10) (.loc 2),.asg (.attr (.loc 0) 11) (.loc 3),.asg (.attr (.loc 0) 12) (.lit (.int 64)),.asg (.attr (.loc 0) 13) (.lit (.int 0)),.asg (.attr (.loc 0) 14) (.lst [])]
noncomputable def lB:List MS:=[.aB (.cmp .eq (.idx (.loc 1) (.lit (.int 0))) (.lit (.str [110,97,109,101]))) [.ret (.ba (.attr (.loc 0) 9) .get [.idx (.loc 1) (.lit (.int 1)),.lit (.str [])])] [],.ret (.aB (.cmp .eq (.idx (.loc 1) (.lit (.int 0))) (.lit (.str [102,97,105,108,115]))) (.bad) (.idx (.loc 1) (.lit (.int 1))))]
noncomputable def nq:List MS:=[.aB (.cmp .isin (.attr (.loc 1) 17) (.attr (.loc 0) 11)) [.ret (.lit (.bool false))] [],.asg (.idx (.attr (.loc 0) 9) (.attr (.loc 1) 17)) (.loc 2),.expr (.ba (.attr (.loc 0) 14) .append [.tup [.attr (.loc 1) 17,.loc 2]]),.ret (.lit (.bool true))]
noncomputable def pI:List MS:=[.lh (.loc 0) 13 .add (.lit (.int 1)),.aB (.cmp .gt (.attr (.loc 0) 13) (.attr (.loc 0) 10)) [.bad] []]
noncomputable def uu:List MS:=[.for (.one 4) (.prim .range [.aB (.loc 2) (.lit (.int 1)) (.bin .add (.prim .len [.loc 1]) (.lit (.int 1)))]) [.asg (.loc 5) (.call (.glob (.fn 65)) [.loc 0,.loc 1,.loc 4,.loc 3]),.aB (.cmp .fB (.loc 5) (.lit (.none))) [.ret (.aB (.cmp .eq (.loc 5) (.glob (.str [108,111,115,116]))) (.lit (.none)) (.loc 5))] []],.ret (.lit (.none))]
noncomputable def AQ:List MS:=[.asg (.loc 4) (.call (.glob (.fn 66)) [.loc 0,.loc 1,.loc 2,.loc 3]),.ret (.aB (.or [.cmp .is (.loc 4) (.lit (.none)),.cmp .eq (.loc 4) (.glob (.str [108,111,115,116]))]) (.loc 4) (.tup [.loc 2,.idx (.loc 4) (.lit (.int 0)),.idx (.loc 4) (.lit (.int 1))]))]
noncomputable def JT:List MS:=[.asg (.loc 4) (.lst [.tup [.tup [.loc 0,.lit (.none)],.loc 2,.tup []]]),.lM (.cmp .gt (.prim .len [.loc 4]) (.lit (.int 0))) [.asg (.loc 5) (.ba (.loc 4) .pop []),.aB (.cmp .is (.loc 5) (.lit (.none))) [.ret (.glob (.str [108,111,115,116]))] [],.asg (.tup [.loc 6,.loc 7,.loc 8]) (.loc 5),.lM (.cmp .fB (.loc 6) (.lit (.none))) [.expr (.bm (.loc 3) 118 []),.asg (.loc 5) (.call (.glob (.fn 67)) [.loc 6,.loc 7,.loc 8,.loc 1,.loc 4,.loc 3]),.aB (.cmp .is (.loc 5) (.lit (.none))) [.brk] [],.aB (.cmp .eq (.loc 5) (.glob (.str [108,111,115,116]))) [.ret (.glob (.str [108,111,115,116]))] [],.asg (.tup [.loc 6,.loc 7,.loc 8]) (.loc 5)],.aB (.cmp .is (.loc 6) (.lit (.none))) [.ret (.tup [.loc 7,.prim .list [.loc 8]])] []],.ret (.lit (.none))]
noncomputable def AR:List MS:=[.asg (.tup [.loc 6,.loc 7]) (.loc 0),.asg (.loc 8) (.idx (.loc 6) (.lit (.int 0))),.aB (.cmp .isin (.loc 8) (.tup [.lit (.str [99,97,116]),.lit (.str [97,108,116]),.lit (.str [97,114,98,110,111]),.lit (.str [108,97,116,101,114]),.lit (.str [110,111,119])])) [.ret (.call (.glob (.fn 68)) [.loc 6,.loc 7,.loc 1,.loc 2,.loc 4])] [],.aB (.cmp .eq (.slice (.loc 8) (.lit .none) (.lit (.int 4)) (.lit .none)) (.lit (.str [101,110,100,32]))) [.ret (.call (.glob (.fn 69)) [.loc 6,.loc 7,.loc 1,.loc 2,.loc 3,.loc 4,.loc 5])] [],.aB (.cmp .eq (.loc 8) (.lit (.str [99,117,114,115,111,114]))) [.ret (.aB (.bm (.loc 5) 117 [.idx (.loc 6) (.lit (.int 1)),.loc 1]) (.tup [.loc 7,.loc 1,.loc 2]) (.lit (.none)))] [],.aB (.cmp .eq (.loc 8) (.lit (.str [100,101,108,97,121]))) [.asg (.loc 9) (.bm (.loc 5) 116 [.idx (.loc 6) (.lit (.int 1))]),.ret (.aB (.call (.glob (.fn 16)) [.loc 9]) (.lit (.none)) (.tup [.tup [.call (.glob (.fn 25)) [.loc 9],.loc 7],.loc 1,.loc 2]))] [],.aB (.cmp .isin (.loc 8) (.tup [.lit (.str [102,101,110,99,101]),.lit (.str [97,98,111,114,116]),.lit (.str [102,97,105,108]),.lit (.str [115,117,99,99,101,101,100])])) [.ret (.call (.glob (.fn 70)) [.loc 0,.loc 1,.loc 2,.loc 4])] [],.ret (.call (.glob (.fn 71)) [.loc 6,.loc 7,.loc 1,.loc 2,.loc 3,.loc 4,.loc 5])]
noncomputable def Hk:List MS:=[.asg (.loc 5) (.idx (.loc 0) (.lit (.int 0))),.aB (.cmp .eq (.loc 5) (.lit (.str [99,97,116]))) [.ret (.tup [.tup [.idx (.loc 0) (.lit (.int 1)),.tup [.idx (.loc 0) (.lit (.int 2)),.loc 1]],.loc 2,.loc 3])] [],.aB (.cmp .eq (.loc 5) (.lit (.str [97,108,116]))) [.expr (.ba (.loc 4) .append [.tup [.tup [.idx (.loc 0) (.lit (.int 2)),.loc 1],.loc 2,.loc 3]]),.ret (.tup [.tup [.idx (.loc 0) (.lit (.int 1)),.loc 1],.loc 2,.loc 3])] [],.aB (.cmp .eq (.loc 5) (.lit (.str [97,114,98,110,111]))) [.expr (.ba (.loc 4) .append [.tup [.tup [.idx (.loc 0) (.lit (.int 1)),.tup [.tup [.lit (.str [101,110,100,32,114,111,117,110,100]),.loc 0,.loc 2],.loc 1]],.loc 2,.loc 3]]),.ret (.tup [.loc 1,.loc 2,.loc 3])] [],.ret (.tup [.tup [.idx (.loc 0) (.lit (.int 1)),.tup [.tup [.bin .add (.lit (.str [101,110,100,32])) (.loc 5),.idx (.loc 0) (.lit (.int 2)),.loc 2],.loc 1]],.loc 2,.loc 3])]
noncomputable def Dc:List MS:=[.asg (.tup [.loc 7,.loc 8,.loc 9]) (.loc 0),.aB (.cmp .eq (.loc 7) (.lit (.str [101,110,100,32,108,97,116,101,114]))) [.ret (.tup [.loc 1,.loc 2,.bin .add (.loc 3) (.tup [.tup [.loc 8,.slice (.loc 4) (.loc 9) (.loc 2) (.lit .none)]])])] [],.aB (.cmp .eq (.loc 7) (.lit (.str [101,110,100,32,110,111,119]))) [.ret (.aB (.bm (.loc 6) 117 [.loc 8,.slice (.loc 4) (.loc 9) (.loc 2) (.lit .none)]) (.tup [.loc 1,.loc 2,.loc 3]) (.lit (.none)))] [],.ret (.aB (.cmp .eq (.loc 2) (.loc 9)) (.lit (.none)) (.tup [.tup [.loc 8,.loc 1],.loc 2,.loc 3]))]
noncomputable def Dd:List MS:=[.asg (.tup [.loc 4,.loc 5]) (.tup [.idx (.idx (.loc 0) (.lit (.int 0))) (.lit (.int 0)),.idx (.loc 0) (.lit (.int 1))]),.aB (.cmp .eq (.loc 4) (.lit (.str [97,98,111,114,116]))) [.ret (.glob (.str [108,111,115,116]))] [],.aB (.cmp .eq (.loc 4) (.lit (.str [102,97,105,108]))) [.ret (.lit (.none))] [],.expr (.ba (.loc 3) .append [.aB (.cmp .eq (.loc 4) (.lit (.str [102,101,110,99,101]))) (.lit (.none)) (.tup [.loc 0,.loc 1,.loc 2])]),.ret (.tup [.loc 5,.loc 1,.loc 2])]
noncomputable def JU:List MS:=[.asg (.loc 7) (.idx (.loc 0) (.lit (.int 0))),.aB (.cmp .eq (.loc 7) (.lit (.str [97,114,98]))) [.aB (.cmp .lt (.loc 2) (.prim .len [.loc 4])) [.expr (.ba (.loc 5) .append [.tup [.tup [.loc 0,.loc 1],.bin .add (.loc 2) (.lit (.int 1)),.loc 3]])] [],.ret (.tup [.loc 1,.loc 2,.loc 3])] [],.aB (.cmp .eq (.loc 7) (.lit (.str [98,97,108]))) [.asg (.loc 8) (.call (.glob (.fn 42)) [.loc 4,.loc 2]),.for (.one 9) (.slice (.loc 8) (.lit .none) (.lit (.int 0)) (.neg (.lit (.int 1)))) [.expr (.ba (.loc 5) .append [.tup [.loc 1,.loc 9,.loc 3]])],.ret (.aB (.cmp .gt (.prim .len [.loc 8]) (.lit (.int 0))) (.tup [.loc 1,.idx (.loc 8) (.lit (.int 0)),.loc 3]) (.lit (.none)))] [],.asg (.loc 10) (.call (.glob (.fn 27)) [.loc 0,.loc 6]),.aB (.cmp .is (.loc 10) (.lit (.none))) [.ret (.lit (.none))] [],.asg (.loc 9) (.call (.glob (.fn 44)) [.loc 10,.loc 4,.loc 2]),.ret (.aB (.cmp .is (.loc 9) (.lit (.none))) (.lit (.none)) (.tup [.loc 1,.loc 9,.loc 3]))]
noncomputable def OM:List FI:=[⟨2,5,Hi⟩,
 ⟨1,1,qJ⟩,
 ⟨1,3,mj⟩,
 ⟨1,1,nh⟩,
 ⟨2,2,ni⟩,
 ⟨2,5,om⟩,
 ⟨2,3,ml⟩,
 ⟨2,5,lz⟩,
 ⟨2,4,lA⟩,
 ⟨3,4,mm⟩,
 ⟨1,4,rQ⟩,
 ⟨1,2,on⟩,
 ⟨3,3,nk⟩,
 ⟨2,2,rR⟩,
 ⟨2,2,rS⟩,
 ⟨4,4,rT⟩,
 ⟨1,1,C0⟩,
 ⟨2,2,M0⟩,
 ⟨2,5,qK⟩,
 ⟨1,3,qL⟩,
 ⟨2,2,AJ⟩,
 ⟨1,1,C1⟩,
 ⟨1,2,ye⟩,
 ⟨3,4,ul⟩,
 ⟨2,3,um⟩,
 ⟨1,2,vB⟩,
 ⟨1,1,vC⟩,
 ⟨2,3,C2⟩,
 ⟨3,4,yf⟩,
 ⟨3,3,C3⟩,
 ⟨2,2,C4⟩,
 ⟨3,3,AK⟩,
 ⟨3,3,C5⟩,
 ⟨3,4,AL⟩,
 ⟨1,1,C6⟩,
 ⟨3,3,Hj⟩,
 ⟨3,3,yg⟩,
 ⟨4,4,C7⟩,
 ⟨3,4,AM⟩,
 ⟨3,4,yh⟩,
 ⟨2,2,AN⟩,
 ⟨2,3,C8⟩,
 ⟨2,4,AO⟩,
 ⟨4,4,C9⟩,
 ⟨3,3,yi⟩,
 ⟨4,5,Db⟩,
 ⟨7,7,AP⟩,
 ⟨2,2,vD⟩,
 ⟨3,3,vE⟩,
 ⟨3,5,yj⟩,
 ⟨1,1,pE⟩,
 ⟨3,4,vF⟩,
 ⟨3,6,pF⟩,
 ⟨3,6,up⟩,
 ⟨3,4,uq⟩,
 ⟨3,5,ot⟩,
 ⟨3,4,ur⟩,
 ⟨1,3,vG⟩,
 ⟨4,7,rU⟩,
 ⟨4,4,pG⟩,
 ⟨4,4,pH⟩,
 ⟨2,2,lB⟩,
 ⟨3,3,nq⟩,
 ⟨1,1,pI⟩,
 ⟨4,6,uu⟩,
 ⟨4,5,AQ⟩,
 ⟨4,9,JT⟩,
 ⟨6,10,AR⟩,
 ⟨5,6,Hk⟩,
 ⟨7,10,Dc⟩,
 ⟨4,6,Dd⟩,
 ⟨7,11,JU⟩]
noncomputable def ON:List CI:=[⟨3,[(101,4),(102,5),(103,6),(104,7),(105,8),(106,9)]⟩,⟨15,[]⟩,⟨46,[(107,47)]⟩,⟨48,[(108,49),(109,50),(110,51),(111,52),(112,53),(113,54),(114,55),(115,56)]⟩,⟨60,[(116,61),(117,62),(118,63)]⟩,⟨0,[]⟩,⟨13,[]⟩,⟨14,[]⟩,⟨12,[]⟩]
end Mine
namespace Mine
namespace L5
noncomputable def AS:List MS:=[.asg (.tup [.loc 2,.loc 3]) (.loc 0),.asg (.idx (.loc 0) (.lit (.int 1))) (.bin .add (.loc 3) (.lit (.int 1))),.aB (.cmp .lt (.loc 3) (.prim .len [.loc 2])) [.ret (.bin .mod (.prim .abs [.prim .int [.idx (.loc 2) (.loc 3)]]) (.loc 1))] [],.ret (.bin .mod (.bin .add (.bin .add (.bin .add (.bin .mul (.lit (.int 5)) (.loc 3)) (.bin .fdiv (.bin .mul (.loc 3) (.loc 3)) (.lit (.int 3)))) (.lit (.int 10))) (.prim .len [.loc 2])) (.loc 1))]
noncomputable def AT:List MS:=[.asg (.loc 1) (.call (.glob (.fn 72)) [.loc 0,.lit (.int 16)]),.aB (.cmp .lt (.loc 1) (.lit (.int 2))) [.ret (.tup [.lit (.str [99,104,97,114,115]),.idx (.lst [.lit (.str [97]),.lit (.str [98]),.lit (.str [98,99]),.lit (.str [99,97]),.lit (.str [])]) (.call (.glob (.fn 72)) [.loc 0,.lit (.int 5)])])] [],.aB (.cmp .lt (.loc 1) (.lit (.int 7))) [.ret (.tup [.idx (.lst [.lit (.str [108,101,110]),.lit (.str [112,111,115]),.lit (.str [114,112,111,115]),.lit (.str [116,97,98]),.lit (.str [114,116,97,98])]) (.bin .sub (.loc 1) (.lit (.int 2))),.call (.glob (.fn 72)) [.loc 0,.lit (.int 4)]])] [],.aB (.cmp .lt (.loc 1) (.lit (.int 11))) [.ret (.tup [.idx (.lst [.lit (.str [97,110,121]),.lit (.str [110,111,116,97,110,121]),.lit (.str [98,114,101,97,107]),.lit (.str [115,112,97,110])]) (.bin .sub (.loc 1) (.lit (.int 7))),.idx (.lst [.lit (.str [97]),.lit (.str [98,99]),.lit (.str [97,99])]) (.call (.glob (.fn 72)) [.loc 0,.lit (.int 3)])])] [],.aB (.cmp .eq (.loc 1) (.lit (.int 11))) [.ret (.tup [.lit (.str [99,117,114,115,111,114]),.idx (.lit (.str [80,81])) (.call (.glob (.fn 72)) [.loc 0,.lit (.int 2)])])] [],.ret (.idx (.lst [.tup [.lit (.str [114,101,109])],.tup [.lit (.str [97,114,98])],.tup [.lit (.str [102,101,110,99,101])],.tup [.lit (.str [100,101,108,97,121]),.tup [.lit (.str [110,97,109,101]),.idx (.lit (.str [80,81])) (.call (.glob (.fn 72)) [.loc 0,.lit (.int 2)])]]]) (.bin .sub (.loc 1) (.lit (.int 12))))]
noncomputable def AU:List MS:=[.asg (.loc 2) (.aB (.cmp .gt (.loc 1) (.lit (.int 0))) (.call (.glob (.fn 72)) [.loc 0,.lit (.int 9)]) (.lit (.int 0))),.aB (.cmp .lt (.loc 2) (.lit (.int 2))) [.ret (.call (.glob (.fn 73)) [.loc 0])] [],.aB (.cmp .eq (.loc 2) (.lit (.int 8))) [.ret (.tup [.lit (.str [97,114,98,110,111]),.call (.glob (.fn 74)) [.loc 0,.bin .sub (.loc 1) (.lit (.int 1))]])] [],.aB (.cmp .gt (.loc 2) (.lit (.int 5))) [.ret (.tup [.idx (.lst [.lit (.str [108,97,116,101,114]),.lit (.str [110,111,119])]) (.bin .sub (.loc 2) (.lit (.int 6))),.call (.glob (.fn 74)) [.loc 0,.bin .sub (.loc 1) (.lit (.int 1))],.idx (.lit (.str [80,81])) (.call (.glob (.fn 72)) [.loc 0,.lit (.int 2)])])] [],.ret (.tup [.idx (.lst [.lit (.str [99,97,116]),.lit (.str [97,108,116])]) (.bin .mod (.loc 2) (.lit (.int 2))),.call (.glob (.fn 74)) [.loc 0,.bin .sub (.loc 1) (.lit (.int 1))],.call (.glob (.fn 74)) [.loc 0,.bin .sub (.loc 1) (.lit (.int 1))]])]
noncomputable def pJ:List MS:=[.aB (.cmp .isin (.idx (.loc 0) (.lit (.int 0))) (.tup [.lit (.str [99,97,116]),.lit (.str [97,108,116])])) [.ret (.or [.call (.glob (.fn 75)) [.idx (.loc 0) (.lit (.int 1))],.call (.glob (.fn 75)) [.idx (.loc 0) (.lit (.int 2))]])] [],.ret (.or [.cmp .eq (.idx (.loc 0) (.lit (.int 0))) (.lit (.str [97,114,98,110,111])),.and [.cmp .isin (.idx (.loc 0) (.lit (.int 0))) (.tup [.lit (.str [108,97,116,101,114]),.lit (.str [110,111,119])]),.call (.glob (.fn 75)) [.idx (.loc 0) (.lit (.int 1))]]])]
noncomputable def AV:List MS:=[.ret (.ba (.lit (.str [])) .join [.comp (.idx (.loc 1) (.loc 2)) (.loc 0) (.one 2) 1 []])]
noncomputable def AW:List MS:=[.asg (.loc 3) (.idx (.loc 0) (.lit (.int 0))),.aB (.cmp .isin (.loc 3) (.tup [.lit (.str [99,104,97,114,115]),.lit (.str [97,110,121]),.lit (.str [110,111,116,97,110,121]),.lit (.str [98,114,101,97,107]),.lit (.str [115,112,97,110])])) [.ret (.tup [.loc 3,.call (.glob (.fn 76)) [.idx (.loc 0) (.lit (.int 1)),.loc 1]])] [],.aB (.cmp .isin (.loc 3) (.tup [.lit (.str [99,97,116]),.lit (.str [97,108,116])])) [.ret (.tup [.loc 3,.call (.glob (.fn 77)) [.idx (.loc 0) (.lit (.int 1)),.loc 1,.loc 2],.call (.glob (.fn 77)) [.idx (.loc 0) (.lit (.int 2)),.loc 1,.loc 2]])] [],.aB (.cmp .isin (.loc 3) (.tup [.lit (.str [108,97,116,101,114]),.lit (.str [110,111,119])])) [.ret (.tup [.loc 3,.call (.glob (.fn 77)) [.idx (.loc 0) (.lit (.int 1)),.loc 1,.loc 2],.new 1 [.lit (.str [118,97,114]),.lit (.none),.idx (.loc 2) (.idx (.loc 0) (.lit (.int 2)))]])] [],.aB (.cmp .eq (.loc 3) (.lit (.str [99,117,114,115,111,114]))) [.ret (.tup [.loc 3,.new 1 [.lit (.str [118,97,114]),.lit (.none),.idx (.loc 2) (.idx (.loc 0) (.lit (.int 1)))]])] [],.aB (.cmp .eq (.loc 3) (.lit (.str [100,101,108,97,121]))) [.ret (.tup [.loc 3,.tup [.lit (.str [110,97,109,101]),.idx (.loc 2) (.idx (.idx (.loc 0) (.lit (.int 1))) (.lit (.int 1)))]])] [],.ret (.aB (.cmp .eq (.loc 3) (.lit (.str [97,114,98,110,111]))) (.tup [.lit (.str [97,114,98,110,111]),.call (.glob (.fn 77)) [.idx (.loc 0) (.lit (.int 1)),.loc 1,.loc 2]]) (.loc 0))]
noncomputable def yk:List MS:=[.asg (.tup [.loc 6,.loc 7]) (.tup [.new 4 [.dict [.idx (.loc 5) (.lit (.str [80])),.call (.glob (.fn 76)) [.lit (.str [98]),.loc 4],.idx (.loc 5) (.lit (.str [81])),.lit (.str [])],.lit (.int 99999),.lst []],.call (.glob (.fn 77)) [.loc 0,.loc 4,.loc 5]]),.asg (.loc 8) (.call (.glob (.fn 76)) [.loc 1,.loc 4]),.asg (.loc 9) (.aB (.loc 3) (.call (.glob (.fn 64)) [.loc 7,.loc 8,.loc 2,.loc 6]) (.call (.glob (.fn 59)) [.loc 7,.loc 8,.loc 2,.loc 6])),.aB (.cmp .fB (.loc 9) (.lit (.none))) [.asg (.loc 9) (.tup [.idx (.loc 9) (.lit (.int 0)),.idx (.loc 9) (.lit (.int 1)),.comp (.tup [.attr (.loc 10) 17,.loc 11]) (.idx (.loc 9) (.lit (.int 2))) (.many [10,11]) 2 []])] [],.ret (.tup [.loc 9,.attr (.loc 6) 14,.attr (.loc 6) 13])]
noncomputable def AX:List MS:=[.ret (.comp (.tup [.idx (.loc 2) (.loc 3),.aB (.isin (.loc 4) .int) (.loc 4) (.call (.glob (.fn 76)) [.loc 4,.loc 1])]) (.loc 0) (.many [3,4]) 2 [])]
noncomputable def Rq:List MS:=[.asg (.loc 1) (.lst [.slice (.loc 0) (.lit .none) (.lit (.int 40)) (.lit .none),.lit (.int 0)]),.asg (.loc 2) (.cmp .eq (.call (.glob (.fn 72)) [.loc 1,.lit (.int 2)]) (.lit (.int 1))),.asg (.loc 3) (.lst [.lst [.lit (.str [109]),.lit (.str [110]),.lit (.str [97])],.lst [.lit (.str [98]),.lit (.str [99]),.lit (.str [97])],.lst [.lit (.str [99]),.lit (.str [98]),.lit (.str [97])],.lst [.lit (.str [97]),.lit (.str [40]),.lit (.str [98])],.lst [.lit (.str [110]),.lit (.str [97]),.lit (.str [109])],.lst [.lit (.str [39]),.lit (.str [32]),.lit (.str [98])]]),.asg (.tup [.loc 4,.loc 5]) (.tup [.idx (.loc 3) (.call (.glob (.fn 72)) [.loc 1,.lit (.int 6)]),.call (.glob (.fn 74)) [.loc 1,.lit (.int 2)]]),.asg (.loc 6) (.call (.glob (.fn 72)) [.loc 1,.aB (.call (.glob (.fn 75)) [.loc 5]) (.lit (.int 3)) (.lit (.int 5))]),.asg (.loc 7) (.ba (.lit (.str [])) .join [.comp (.idx (.lit (.str [97,98,99])) (.call (.glob (.fn 72)) [.loc 1,.lit (.int 3)])) (.prim .range [.loc 6]) (.one 16) 1 []]),.asg (.tup [.loc 8,.loc 9]) (.tup [.dict [.lit (.str [97]),.idx (.loc 4) (.lit (.int 0)),.lit (.str [98]),.idx (.loc 4) (.lit (.int 1)),.lit (.str [99]),.idx (.loc 4) (.lit (.int 2))],.dict [.lit (.str [80]),.lit (.str [82]),.lit (.str [81]),.lit (.str [80])]]),.asg (.tup [.loc 10,.loc 11]) (.tup [.dict [.lit (.str [97]),.lit (.str [97]),.lit (.str [98]),.lit (.str [98]),.lit (.str [99]),.lit (.str [99])],.dict [.lit (.str [80]),.lit (.str [80]),.lit (.str [81]),.lit (.str [81])]]),.for (.one 12) (.tup [.lit (.bool false),.lit (.bool true)]) [.asg (.loc 13) (.call (.glob (.fn 78)) [.loc 5,.loc 7,.loc 2,.loc 12,.loc 10,.loc 11]),.asg (.loc 14) (.call (.glob (.fn 78)) [.loc 5,.loc 7,.loc 2,.loc 12,.loc 8,.loc 9]),.asg (.loc 15) (.aB (.cmp .is (.idx (.loc 13) (.lit (.int 0))) (.lit (.none))) (.lit (.none)) (.tup [.idx (.idx (.loc 13) (.lit (.int 0))) (.lit (.int 0)),.idx (.idx (.loc 13) (.lit (.int 0))) (.lit (.int 1)),.call (.glob (.fn 79)) [.idx (.idx (.loc 13) (.lit (.int 0))) (.lit (.int 2)),.loc 8,.loc 9]])),.aB (.cmp .ne (.loc 14) (.tup [.loc 15,.call (.glob (.fn 79)) [.idx (.loc 13) (.lit (.int 1)),.loc 8,.loc 9],.idx (.loc 13) (.lit (.int 2))])) [.ret (.lit (.bool false))] []],.ret (.lit (.bool true))]
noncomputable def JV:List FI:=[⟨2,4,AS⟩,
 ⟨1,2,AT⟩,
 ⟨2,3,AU⟩,
 ⟨1,1,pJ⟩,
 ⟨2,2,AV⟩,
 ⟨3,4,AW⟩,
 ⟨6,10,yk⟩,
 ⟨3,3,AX⟩,
 ⟨1,16,Rq⟩]
noncomputable def fns:List FI:=OM++JV
noncomputable def pg:Pg:=⟨fns,ON⟩
noncomputable def gl:List (Str×GV):=[(Str.ofString "row_of",.fn 0),(Str.ofString "is_plain_text",.fn 1),(Str.ofString "with_texts_joined",.fn 2),(Str.ofString "straightened",.fn 10),(Str.ofString "compile_pattern",.fn 11),(Str.ofString "is_fail",.fn 16),(Str.ofString "fits",.fn 17),(Str.ofString "whole_of_text",.fn 18),(Str.ofString "text_of_whole",.fn 19),(Str.ofString "to_whole",.fn 20),(Str.ofString "to_text",.fn 21),(Str.ofString "need_text",.fn 22),(Str.ofString "plain_count",.fn 23),(Str.ofString "plain_signs",.fn 24),(Str.ofString "pattern_of",.fn 25),(Str.ofString "is_delayed",.fn 26),(Str.ofString "settled",.fn 27),(Str.ofString "chars_end",.fn 28),(Str.ofString "len_end",.fn 29),(Str.ofString "pos_end",.fn 30),(Str.ofString "rpos_end",.fn 31),(Str.ofString "tab_end",.fn 32),(Str.ofString "rtab_end",.fn 33),(Str.ofString "rem_end",.fn 34),(Str.ofString "any_at",.fn 35),(Str.ofString "notany_at",.fn 36),(Str.ofString "run_end",.fn 37),(Str.ofString "span_end",.fn 38),(Str.ofString "break_end",.fn 39),(Str.ofString "arb_ends",.fn 40),(Str.ofString "bal_end",.fn 41),(Str.ofString "bal_ends",.fn 42),(Str.ofString "one_end",.fn 43),(Str.ofString "plain_end",.fn 44),(Str.ofString "ends_of",.fn 45),(Str.ofString "named_rows",.fn 57),(Str.ofString "match_orders",.fn 58),(Str.ofString "match_compiled",.fn 59),(Str.ofString "match_plain",.fn 64),(Str.ofString "match_at",.fn 65),(Str.ofString "tried",.fn 66),(Str.ofString "advanced",.fn 67),(Str.ofString "led_in",.fn 68),(Str.ofString "led_out",.fn 69),(Str.ofString "steered",.fn 70),(Str.ofString "taken",.fn 71),(Str.ofString "_law_next",.fn 72),(Str.ofString "_law_leaf",.fn 73),(Str.ofString "_law_node",.fn 74),(Str.ofString "_law_has_rounds",.fn 75),(Str.ofString "_law_text",.fn 76),(Str.ofString "_law_made",.fn 77),(Str.ofString "_law_found",.fn 78),(Str.ofString "_law_back",.fn 79),(Str.ofString "law",.fn 80),(Str.ofString "ONE",.val (.str [111,110,101])),(Str.ofString "WAYS",.val (.str [119,97,121,115])),(Str.ofString "SPLIT",.val (.str [115,112,108,105,116])),(Str.ofString "JUMP",.val (.str [106,117,109,112])),(Str.ofString "MARK",.val (.str [109,97,114,107])),(Str.ofString "NAME",.val (.str [110,97,109,101])),(Str.ofString "SET",.val (.str [115,101,116])),(Str.ofString "GAIN",.val (.str [103,97,105,110])),(Str.ofString "PLACE",.val (.str [112,108,97,99,101])),(Str.ofString "ASK",.val (.str [97,115,107])),(Str.ofString "FENCE",.val (.str [102,101,110,99,101])),(Str.ofString "FAIL",.val (.str [102,97,105,108])),(Str.ofString "ABORT",.val (.str [97,98,111,114,116])),(Str.ofString "SUCCEED",.val (.str [115,117,99,99,101,101,100])),(Str.ofString "DONE",.val (.str [100,111,110,101])),(Str.ofString "PUT",.val (.str [112,117,116])),(Str.ofString "EMIT",.val (.str [101,109,105,116])),(Str.ofString "OPEN",.val (.str [111,112,101,110])),(Str.ofString "SHUT",.val (.str [115,104,117,116])),(Str.ofString "MEET",.val (.str [109,101,101,116])),(Str.ofString "SINGLE",.val (.tup [.str [99,104,97,114,115],.str [108,101,110],.str [112,111,115],.str [114,112,111,115],.str [116,97,98],.str [114,116,97,98],.str [97,110,121],.str [110,111,116,97,110,121],.str [115,112,97,110],.str [98,114,101,97,107],.str [114,101,109]])),(Str.ofString "ALONE",.val (.tup [.str [102,101,110,99,101],.str [102,97,105,108],.str [97,98,111,114,116],.str [115,117,99,99,101,101,100]])),(Str.ofString "COUNTED",.val (.tup [.str [108,101,110],.str [112,111,115],.str [114,112,111,115],.str [116,97,98],.str [114,116,97,98]])),(Str.ofString "SIGNED",.val (.tup [.str [97,110,121],.str [110,111,116,97,110,121],.str [115,112,97,110],.str [98,114,101,97,107]])),(Str.ofString "WIDTH_OF_COUNT",.val (.int 64)),(Str.ofString "OPENING",.val (.str [40])),(Str.ofString "CLOSING",.val (.str [41])),(Str.ofString "MET",.val (.int 0)),(Str.ofString "FAILED",.val (.int 1)),(Str.ofString "OVER",.val (.int 2)),(Str.ofString "LOST",.val (.str [108,111,115,116])),(Str.ofString "PatternCode",.cls 0),(Str.ofString "NameRef",.cls 1),(Str.ofString "Way",.cls 2),(Str.ofString "Match",.cls 3),(Str.ofString "PlainHost",.cls 4),(Str.ofString "Failure",.cls 5),(Str.ofString "Pattern",.cls 6),(Str.ofString "Delayed",.cls 7),(Str.ofString "SnobolError",.cls 8),(Str.ofString "abs",.pr .abs),(Str.ofString "chr",.pr .chr),(Str.ofString "int",.pr .int),(Str.ofString "len",.pr .len),(Str.ofString "list",.pr .list),(Str.ofString "min",.pr .min),(Str.ofString "ord",.pr .ord),(Str.ofString "range",.pr .range),(Str.ofString "str",.pr .str),(Str.ofString "isinstance",.Ix),(Str.ofString "tuple",.typ .tuple)]
noncomputable def fa:List Nat:=[23,30,37,51,58,65,70,77,84,91,105,112,129,163,184,205,219,226,233,240,247,254,261,271,278,285,292,299,306,313,320,327,334,341,348,355,362,369,376,383,390,397,404,411,418,425,439,446,467,474,481,488,495,502,509,516,523,537,544,551,565,572,579,586,600,607,614,621,628,635,642,649,656,663,670,677,682,689,694,699,704]
noncomputable def kL(x:Str):List (Str×GV)->Option GV
 |[]=>none
 |(y,g)::r=>if x==y then some g else kL x r
noncomputable def G(x:Str):Option GV:=kL x gl
end L5
end Mine
namespace Mine.Q
section
variable {P:Pg}{call:bT}{l l1 l2:Lo}{H H1 H2 H3 H4:Hp}{v u o i a b:V}{vs:List V}{e f c t x:ME}{es:List ME}{r:Option (V×Hp)}
theorem aI{α β:Type}{m:Option (α×Hp)}{a:α}{H:Hp}{g:α->Hp->Option β}(h:m=some (a,H)):bw m g=g a H:=by rw[h];rfl
theorem ak:av P call (.lit v) l H=some (v,H):=rfl
theorem ce:av P call (.glob v) l H=some (v,H):=rfl
theorem bA:ek P call [] l H=some ([],H):=rfl
theorem gj{i:Nat}(h:l[i]?=some (some v)):av P call (.loc i) l H=some (v,H):=by show(match l[i]? with|some (some v)=>some (v,H)|_=>none)=_;rw[h]
theorem aM(h1:av P call e l H=some (v,H1))(h2:ek P call es l H1=some (vs,H2)):ek P call (e::es) l H=some (v::vs,H2):=(aI h1).trans (aI h2)
theorem aU(h1:ek P call es l H=some (vs,H1)):av P call (.tup es) l H=some (.tup vs,H1):=aI h1
theorem bq(h1:ek P call es l H=some (vs,H1)):av P call (.lst es) l H=some (.loc H1.length,H1++[.list vs]):=aI h1
theorem aC{a:Nat}(h1:av P call e l H=some (o,H1))(h2:lQ H1 o a=some v):av P call (.attr e a) l H=some (v,H1):=(aI h1).trans (by rw[h2])
theorem aR(h1:av P call e l H=some (o,H1))(h2:av P call f l H1=some (i,H2))(h3:gE H2 o i=some v):av P call (.idx e f) l H=some (v,H2):=(aI h1).trans ((aI h2).trans (by rw[h3]))
theorem i4{w z:V}{lo hi st:ME}(h1:av P call e l H=some (o,H1))(h2:av P call lo l H1=some (u,H2))(h3:av P call hi l H2=some (w,H3))(h4:av P call st l H3=some (z,H4))(h5:mL o u w z H4=r):av P call (.slice e lo hi st) l H=r:=(aI h1).trans ((aI h2).trans ((aI h3).trans ((aI h4).trans h5)))
theorem cw{op:jO}(h1:av P call e l H=some (a,H1))(h2:av P call f l H1=some (b,H2))(h3:zp op a b H2=r):av P call (.bin op e f) l H=r:=(aI h1).trans ((aI h2).trans h3)
theorem ou{q:Bool}(h1:av P call e l H=some (.bool q,H1)):av P call (.not e) l H=some (.bool (!q),H1):=aI h1
theorem ax{op:lw}{q:Bool}(h1:av P call e l H=some (a,H1))(h2:av P call f l H1=some (b,H2))(h3:bY H2 op a b=some q):av P call (.cmp op e f) l H=some (.bool q,H2):=(aI h1).trans ((aI h2).trans (by rw[h3]))
theorem jt:av P call (.and []) l H=some (.bool true,H):=rfl
theorem dA(h1:av P call e l H=some (.bool true,H1))(h2:av P call (.and es) l H1=r):av P call (.and (e::es)) l H=r:=(aI h1).trans h2
theorem ed(h1:av P call e l H=some (.bool false,H1)):av P call (.and (e::es)) l H=some (.bool false,H1):=aI h1
theorem qM:av P call (.or []) l H=some (.bool false,H):=rfl
theorem iD(h1:av P call e l H=some (.bool false,H1))(h2:av P call (.or es) l H1=r):av P call (.or (e::es)) l H=r:=(aI h1).trans h2
theorem mW(h1:av P call e l H=some (.bool true,H1)):av P call (.or (e::es)) l H=some (.bool true,H1):=aI h1
theorem cK(h1:av P call t l H=some (.bool true,H1))(h2:av P call e l H1=r):av P call (.aB t e f) l H=r:=(aI h1).trans h2
theorem bB(h1:av P call t l H=some (.bool false,H1))(h2:av P call f l H1=r):av P call (.aB t e f) l H=r:=(aI h1).trans h2
theorem yl{k:Nat}(h1:av P call e l H=some (.fn k,H1))(h2:ek P call es l H1=some (vs,H2))(h3:call k vs H2=r):av P call (.call e es) l H=r:=(aI h1).trans ((aI h2).trans h3)
theorem gR{c:Nat}{ci:CI}(h1:ek P call es l H=some (vs,H1))(h2:P.cls[c]?=some ci)(h3:call ci.init (.loc H1.length::vs) (H1++[.inst c []])=some (.none,H2)):av P call (.new c es) l H=some (.loc H1.length,H2):=
 (aI h1).trans (by rw[h2];exact(aI h3))
theorem aP{n c m k:Nat}{fs:List (Nat×V)}{ci:CI}(h1:av P call e l H=some (.loc n,H1))(h2:H1[n]?=some (.inst c fs))(h3:P.cls[c]?=some ci)(h4:eF m ci.meths=some k)(h5:ek P call es l H1=some (vs,H2))(h6:call k (.loc n::vs) H2=r):av P call (.bm e m es) l H=r:=by
 refine(aI h1).trans ?_
 dsimp only
 rw[h2];dsimp only;rw[h3];dsimp only;rw[h4]
 exact(aI h5).trans h6
theorem de{m:BM}(h1:av P call e l H=some (o,H1))(h2:vm m o H1=true)(h3:ek P call es l H1=some (vs,H2))(h4:sQ m o vs H2=r):av P call (.ba e m es) l H=r:=(aI h1).trans (by rw[if_pos h2];exact(aI h3).trans h4)
theorem bl{p:Pr}(h1:ek P call es l H=some (vs,H1))(h2:lP p vs H1=r):av P call (.prim p es) l H=r:=(aI h1).trans h2
theorem mX{k:IK}{q:Bool}(h1:av P call e l H=some (v,H1))(h2:xk v k=some q):av P call (.isin e k) l H=some (.bool q,H1):=(aI h1).trans (by rw[h2])
theorem pK{ct:CT}{k:Nat}{cs:List ME}{it:It}(h1:av P call e l H=some (v,H1))(h2:gN H1 v=some it)(h3:dw (λl H=>nU P call cs l H) (λl H=>av P call x l H) ct (l++List.replicate k none) 1048576 it [] H1=some (vs,H2))(h4:vs.length<=lim):av P call (.comp x e ct k cs) l H=some (.loc H2.length,H2++[.list vs]):=
 (aI h1).trans (by rw[h2];exact(aI h3).trans (if_pos h4))
theorem ef{ev}{i:Nat}:eV ev (.loc i) v l H=some (l.set i (some v),H):=rfl
theorem j6{a:Nat}(h1:av P call e l H=some (o,H1))(h2:jQ H1 o a v=some H2):eV (av P call) (.attr e a) v l H=some (l,H2):=(aI h1).trans (by rw[h2])
theorem kM(h1:av P call e l H=some (o,H1))(h2:av P call f l H1=some (i,H2))(h3:sR H2 o i v=some H3):eV (av P call) (.idx e f) v l H=some (l,H3):=(aI h1).trans ((aI h2).trans (by rw[h3]))
theorem pL{ev}{ts:List Tg}{q:Option (Lo×Hp)}(h1:jj H v=some vs)(h2:dM ev ts vs l H=q):eV ev (.tup ts) v l H=q:=by show(match jj H v with|some vs=>dM ev ts vs l H|none=>none)=_;rw[h1];exact h2
theorem j7{ev}{tt:Tg}{ts:List Tg}{q:Option (Lo×Hp)}(h1:eV ev tt v l H=some (l1,H1))(h2:dM ev ts vs l1 H1=q):dM ev (tt::ts) (v::vs) l H=q:=by rw[o7,h1];exact h2
theorem ym{ev}:dM ev [] [] l H=some (l,H):=rfl
theorem i5(h1:av P call e l H=some (v,H1)):cU P call (.expr e) l H=some (.next,l,H1):=aI h1
theorem E6(h1:av P call e l H=some (v,H1)):cU P call (.ret e) l H=some (.ret v,l,H1):=aI h1
theorem aT{tt:Tg}(h1:av P call e l H=some (v,H1))(h2:eV (av P call) tt v l H1=some (l2,H2)):cU P call (.asg tt e) l H=some (.next,l2,H2):=(aI h1).trans (by rw[h2];rfl)
theorem hV{k:Nat}{op:jO}(h1:av P call e l H=some (o,H1))(h2:lQ H1 o k=some a)(h3:av P call f l H1=some (b,H2))(h4:lk op a b=some v)(h5:jQ H2 o k v=some H3):cU P call (.lh e k op f) l H=some (.next,l,H3):=
 (aI h1).trans (by rw[h2];exact(aI h3).trans (by rw[h4];dsimp only;rw[h5]))
theorem cf{s1 s2:List MS}{q:SR}(h1:av P call t l H=some (.bool true,H1))(h2:aS P call s1 l H1=q):cU P call (.aB t s1 s2) l H=q:=(aI h1).trans h2
theorem bD{s1 s2:List MS}{q:SR}(h1:av P call t l H=some (.bool false,H1))(h2:aS P call s2 l H1=q):cU P call (.aB t s1 s2) l H=q:=(aI h1).trans h2
theorem ah{s:MS}{ss:List MS}{q:SR}(h1:cU P call s l H=some (.next,l1,H1))(h2:aS P call ss l1 H1=q):aS P call (s::ss) l H=q:=by
 show(match cU P call s l H with|some (Fl.next,l,H)=>aS P call ss l H|x=>x)=_
 rw[h1];exact h2
theorem gm{s:MS}{ss:List MS}(h1:cU P call s l H=some (.ret v,l1,H1)):aS P call (s::ss) l H=some (.ret v,l1,H1):=by
 show(match cU P call s l H with|some (Fl.next,l,H)=>aS P call ss l H|x=>x)=_
 rw[h1]
theorem wQ{s:MS}{ss:List MS}(h1:cU P call s l H=some (.brk,l1,H1)):aS P call (s::ss) l H=some (.brk,l1,H1):=by
 show(match cU P call s l H with|some (Fl.next,l,H)=>aS P call ss l H|x=>x)=_
 rw[h1]
theorem qN{s:MS}{ss:List MS}(h1:cU P call s l H=some (.cont,l1,H1)):aS P call (s::ss) l H=some (.cont,l1,H1):=by
 show(match cU P call s l H with|some (Fl.next,l,H)=>aS P call ss l H|x=>x)=_
 rw[h1]
theorem aJ:aS P call [] l H=some (.next,l,H):=rfl
theorem M1:cU P call .brk l H=some (.brk,l,H):=rfl
theorem JW:cU P call .cont l H=some (.cont,l,H):=rfl
theorem ju{ct:CT}{s1:List MS}{it:It}{q:SR}(h1:av P call e l H=some (v,H1))(h2:gN H1 v=some it)(h3:dX ct (λl H=>aS P call s1 l H) 1048576 it l H1=q):cU P call (.for ct e s1) l H=q:=(aI h1).trans (by rw[h2];exact h3)
theorem fN{s1:List MS}{q:SR}(h:dG (av P call t) (λl H=>aS P call s1 l H) 1048576 l H=q):cU P call (.lM t s1) l H=q:=h
theorem ac{d k:Nat}{fi:FI}(h:P.fns[k]?=some fi)(h0:vs.length=fi.np)(h1:aS P (ae P d) fi.body (vs.map some++List.replicate (fi.ns-fi.np) none) H=some (.ret v,l1,H1)):ae P (d+1) k vs H=some (v,H1):=by
 rw[sU,h];dsimp only;rw[if_pos h0,h1]
theorem et{d k:Nat}{fi:FI}(h:P.fns[k]?=some fi)(h0:vs.length=fi.np)(h1:aS P (ae P d) fi.body (vs.map some++List.replicate (fi.ns-fi.np) none) H=some (.next,l1,H1)):ae P (d+1) k vs H=some (.none,H1):=by
 rw[sU,h];dsimp only;rw[if_pos h0,h1]
theorem az{k:Nat}(h2:ek P call es l H=some (vs,H2))(h3:call k vs H2=r):av P call (.call (.glob (.fn k)) es) l H=r:=yl ce h2 h3
theorem dH(h1:av P call e l H=some (v,H1)):ek P call [e] l H=some ([v],H1):=aM h1 bA
theorem aV(h1:av P call e l H=some (v,H1))(h2:av P call f l H1=some (u,H2)):ek P call [e,f] l H=some ([v,u],H2):=aM h1 (aM h2 bA)
theorem aD{ss:List MS}(h1:av P call e l H=some (v,H1)):aS P call (.ret e::ss) l H=some (.ret v,l,H1):=gm (E6 h1)
theorem aW{s1 s2 ss:List MS}(h1:av P call t l H=some (.bool true,H1))(h2:aS P call s1 l H1=some (.ret v,l2,H2)):aS P call (.aB t s1 s2::ss) l H=some (.ret v,l2,H2):=gm (cf h1 h2)
theorem pM{s1 s2 ss:List MS}(h1:av P call t l H=some (.bool false,H1))(h2:aS P call s2 l H1=some (.ret v,l2,H2)):aS P call (.aB t s1 s2::ss) l H=some (.ret v,l2,H2):=gm (bD h1 h2)
theorem bk{ss:List MS}{q:SR}{i:Nat}(h1:av P call e l H=some (v,H1))(h2:aS P call ss (l.set i (some v)) H1=q):aS P call (.asg (.loc i) e::ss) l H=q:=ah (aT h1 ef) h2
theorem bh{s1 ss:List MS}{q:SR}(h1:av P call t l H=some (.bool false,H1))(h2:aS P call ss l H1=q):aS P call (.aB t s1 []::ss) l H=q:=ah (bD h1 aJ) h2
theorem lu{ss:List MS}{q:SR}(h1:av P call e l H=some (v,H1))(h2:aS P call ss l H1=q):aS P call (.expr e::ss) l H=q:=ah (i5 h1) h2
theorem fm(h1:av P call e l H=some (v,H1)):aS P call [.expr e] l H=some (.next,l,H1):=ah (i5 h1) aJ
theorem eE{s1 s2:MS}{ss:List MS}{q:SR}(h1:cU P call s1 l H=some (.next,l1,H1))(h2:cU P call s2 l1 H1=some (.next,l2,H2))(h3:aS P call ss l2 H2=q):aS P call (s1::s2::ss) l H=q:=ah h1 (ah h2 h3)
theorem cm{l3:Lo}{s1 s2 s3:MS}{ss:List MS}{q:SR}(h1:cU P call s1 l H=some (.next,l1,H1))(h2:cU P call s2 l1 H1=some (.next,l2,H2))(h3:cU P call s3 l2 H2=some (.next,l3,H3))(h4:aS P call ss l3 H3=q):aS P call (s1::s2::s3::ss) l H=q:=ah h1 (ah h2 (ah h3 h4))
theorem eg{a:Nat}(h1:av P call e l H=some (v,H1))(h2:av P call f l H1=some (o,H2))(h3:jQ H2 o a v=some H3):cU P call (.asg (.attr f a) e) l H=some (.next,l,H3):=aT h1 (j6 h2 h3)
theorem ay{n c k:Nat}{fs:List (Nat×V)}(h:H[n]?=some (.inst c fs))(h2:eF k fs=some v):lQ H (.loc n) k=some v:=by
 show zj H n _=_;unfold zj;rw[h];exact h2
theorem cg{n c k:Nat}{fs:List (Nat×V)}(h:H[n]?=some (.inst c fs)):jQ H (.loc n) k v=some (H.set n (.inst c (putN k v fs))):=by
 show zj H n _=_;unfold zj;rw[h]
theorem dj{β:Type}{n:Nat}{ls:List V}{g:List V->Option β}(h:H[n]?=some (.list ls)):iW H n g=g ls:=by unfold iW;rw[h]
theorem eQ{β:Type}{c:Prop}[Decidable c]{x:β}(h:c):gd c x=some x:=if_pos h
theorem cr{n:Nat}{ls:List V}{k:Int}(h:H[n]?=some (.list ls))(h2:eO ls k=some v):gE H (.loc n) (.int k)=some v:=(dj h).trans h2
theorem E7{n:Nat}{ls:List V}(h:H[n]?=some (.list ls)):jj H (.loc n)=some ls:=dj h
theorem mY{n:Nat}{ls:List V}{k:Int}(h:H[n]?=some (.list ls))(h2:0<=k/\k.toNat<ls.length):sR H (.loc n) (.int k) v=some (H.set n (.list (ls.set k.toNat v))):=(dj h).trans (eQ h2)
theorem dN{n:Nat}{ls:List V}(h:H[n]?=some (.list ls)):lP .len [.loc n] H=some (.int ls.length,H):=by
 show(Ee (.loc n) H).map _=_
 rw[show Ee (.loc n) H=some ls.length from dj h];rfl
theorem bV{n:Nat}{ls:List V}(h:H[n]?=some (.list ls))(h2:ls.length<lim):sQ .append (.loc n) [v] H=some (.none,H.set n (.list (ls++[v]))):=(dj h).trans (eQ h2)
theorem kO{n:Nat}{ls:List V}(h:H[n]?=some (.list (ls++[v]))):sQ .pop (.loc n) [] H=some (v,H.set n (.list ls)):=by
 refine(dj h).trans ?_
 rw[List.getLast?_append,List.dropLast_concat];rfl
theorem bb{n:Nat}{ls:List V}{m:BM}(h:H[n]?=some (.list ls))(hm:(match m with|.append=>true|.pop=>true|.extend=>true|.reverse=>true|_=>false)=true):vm m (.loc n) H=true:=by
 unfold vm;simp only[h];exact hm
theorem pN{ls:List V}{k:Nat}{j:Int}(hj:j=(k:Int))(h:ls[k]?=some v):eO ls j=some v:=by subst hj;unfold eO;rw[if_pos (nF k),oT];exact h
theorem pO{i j:Int}(h:i<j):bY H .lt (.int i) (.int j)=some true:=by show some (decide _)=_;rw[decide_eq_true h]
theorem eJ{i j:Int}(h:¬ i<j):bY H .lt (.int i) (.int j)=some false:=by show some (decide _)=_;rw[decide_eq_false h]
theorem e6{i j:Int}(h:j<i):bY H .gt (.int i) (.int j)=some true:=by show some (decide _)=_;rw[decide_eq_true h]
theorem yn{i j:Int}(h:¬ j<i):bY H .gt (.int i) (.int j)=some false:=by show some (decide _)=_;rw[decide_eq_false h]
theorem M2{i j:Int}(h:i=j):bY H .eq (.int i) (.int j)=some true:=by subst h;show some (i==i)=_;rw[beq_self_eq_true]
theorem yq{i j:Int}(h:i≠j):bY H .eq (.int i) (.int j)=some false:=by show some (i==j)=_;rw[beq_eq_false_iff_ne.mpr h]
theorem cM{s t:List Nat}{q:Bool}(h:(s==t)=q):bY H .eq (.str s) (.str t)=some q:=by show some (s==t)=_;rw[h]
theorem cC{n:Nat}{x:O}(h:H[n]?=some x):n<H.length:=(eS.mp h).1
theorem au{n:Nat}{x y:O}(h:H[n]?=some y):(H.set n x)[n]?=some x:=DU (cC h)
theorem aa{n m:Nat}{x:O}{y:Option O}(h:n≠m)(h2:H[m]?=y):(H.set n x)[m]?=y:=(iQ h).trans h2
theorem ag{n:Nat}{x:O}{y:Hp}(h:H[n]?=some x):(H++y)[n]?=some x:=by
 rw[dB (cC h)];exact h
theorem am{x:O}:(H++[x])[H.length]?=some x:=by simp
theorem aG{n:Nat}{x:O}(h:H[n]?=some x):n≠H.length:=d9 (cC h)
theorem aH{n:Nat}{x:O}(h:H[n]?=some x):H.length≠n:=cA (aG h)
variable {cs:Lo->Hp->Option (Bool×Hp)}{ev tv:Lo->Hp->Option (V×Hp)}{ct:CT}{it eB:It}{acc:List V}{n:Nat}{bd:Lo->Hp->SR}
theorem AY:nU P call [] l H=some (true,H):=rfl
theorem pP(h:du H it=some none):dw cs ev ct l (n+1) it acc H=some (acc.reverse,H):=by rw[o5,h]
theorem mn{w:V}{q:Option (List V×Hp)}(h1:du H it=some (some (v,eB)))(h2:eG ct v l=some l1)(h3:cs l1 H=some (true,H1))(h4:ev l1 H1=some (w,H2))(h5:dw cs ev ct l n eB (w::acc) H2=q):dw cs ev ct l (n+1) it acc H=q:=by
 rw[o5,h1];dsimp only;rw[h2];dsimp only;rw[aI h3,if_pos rfl,aI h4];exact h5
theorem sp(h:du H it=some none):dX ct bd (n+1) it l H=some (.next,l,H):=by rw[o8,h]
theorem mq{q:SR}(h1:du H it=some (some (v,eB)))(h2:eG ct v l=some l1)(h3:bd l1 H=some (.next,l2,H2))(h4:dX ct bd n eB l2 H2=q):dX ct bd (n+1) it l H=q:=by
 rw[o8,h1];dsimp only;rw[h2];dsimp only;rw[h3];exact h4
theorem JX{q:SR}(h1:du H it=some (some (v,eB)))(h2:eG ct v l=some l1)(h3:bd l1 H=some (.cont,l2,H2))(h4:dX ct bd n eB l2 H2=q):dX ct bd (n+1) it l H=q:=by
 rw[o8,h1];dsimp only;rw[h2];dsimp only;rw[h3];exact h4
theorem M3(h1:du H it=some (some (v,eB)))(h2:eG ct v l=some l1)(h3:bd l1 H=some (.ret u,l2,H2)):dX ct bd (n+1) it l H=some (.ret u,l2,H2):=by
 rw[o8,h1];dsimp only;rw[h2];dsimp only;rw[h3]
theorem iJ(h1:tv l H=some (.bool false,H1)):dG tv bd (n+1) l H=some (.next,l,H1):=by rw[mM,aI h1]
theorem hZ{q:SR}(h1:tv l H=some (.bool true,H1))(h2:bd l H1=some (.next,l2,H2))(h3:dG tv bd n l2 H2=q):dG tv bd (n+1) l H=q:=by
 rw[mM,aI h1];dsimp only;rw[h2];exact h3
theorem M4(h1:tv l H=some (.bool true,H1))(h2:bd l H1=some (.brk,l2,H2)):dG tv bd (n+1) l H=some (.next,l2,H2):=by
 rw[mM,aI h1];dsimp only;rw[h2]
theorem M5(h1:tv l H=some (.bool true,H1))(h2:bd l H1=some (.ret u,l2,H2)):dG tv bd (n+1) l H=some (.ret u,l2,H2):=by
 rw[mM,aI h1];dsimp only;rw[h2]
theorem qO{m j:Nat}{ls:List V}(h:H[m]?=some (.list ls))(h2:ls[j]?=some v):du H (.lst m j)=some (some (v,.lst m (j+1))):=by rw[zr,dj h,h2]
theorem pQ{m j:Nat}{ls:List V}(h:H[m]?=some (.list ls))(h2:ls[j]?=none):du H (.lst m j)=some none:=by rw[zr,dj h,h2]
theorem mr{m:Nat}{ls:List V}(h:H[m]?=some (.list ls)):gN H (.loc m)=some (.lst m 0):=dj h
theorem De{p q k:Int}(h1:p.natAbs<1048576)(h2:q.natAbs<1048576)(h3:k=1):gN H (.cQ p q k)=some (.cQ p k (fK p q k)):=if_pos ⟨h1,h2,h3⟩
theorem yr{p q:Int}{m:Nat}(h:q=p+m):fK p q 1=m:=by
 rw[h];show(p+m-p).toNat=m
 rw[Int.add_comm,zc,oT]
theorem E8{m:Nat}{ls:List V}{ss:List (List Nat)}(h:H[m]?=some (.list ls))(h2:strsOf ls=some ss)(h3:(iY ss).length<=lim):sQ .join (.str []) [.loc m] H=some (.str (iY ss),H):=by
 show(xm H m).map _=_
 have:xm H m=some (.str (iY ss)):=(dj h).trans (by unfold iX;rw[h2];exact eQ h3)
 rw[this];rfl
theorem qP{a:Int}(h:a.natAbs<1048576):lP .range [.int a] H=some (.cQ 0 a 1,H):=by
 show(gd (a.natAbs<1048576) (V.cQ 0 a 1)).map _=_
 rw[eQ h];rfl
theorem Hl{a b:Int}(h:a.natAbs<1048576/\b.natAbs<1048576):lP .range [.int a,.int b] H=some (.cQ a b 1,H):=by
 show(gd (a.natAbs<1048576/\b.natAbs<1048576) (V.cQ a b 1)).map _=_
 rw[eQ h];rfl
end
theorem gn{P:Pg}{call:bT}{t e f:ME}{l:Lo}{H H1 H2:Hp}{q:Bool}{u v:V}(h1:av P call t l H=some (.bool q,H1))(h2:av P call e l H1=some (u,H2))(h3:av P call f l H1=some (v,H2)):av P call (.aB t e f) l H=some (bif q then u else v,H2):=by
 cases q
 ·exact bB h1 h3
 ·exact cK h1 h2
noncomputable abbrev ar(own:List FI):Pg:=⟨OM++own,ON⟩
section
variable {own:List FI}{d:Nat}{H:Hp}
noncomputable abbrev cE(va rf lg:V)(m s:Int):O:=.inst 4 [(9,va),(10,.int m),(11,rf),(12,.int 64),(13,.int s),(14,lg)]
theorem pR{h:Nat}{va rf lg:V}{m s:Int}(hh:H[h]?=some (cE va rf lg m s))(hs:s<m):ae (ar own) (d+1) 63 [.loc h] H=some (.none,H.set h (cE va rf lg m (s+1))):=
 et rfl rfl (ah (hV rfl (by exact ay (by solve_by_elim [am,au,aa,ag,aG,aH,cA]) rfl) ak (by rfl) (cg (by solve_by_elim [am,au,aa,ag,aG,aH,cA]))) (bh (ax (aC rfl (by exact ay (by solve_by_elim [am,au,aa,ag,aG,aH,cA]) rfl)) (aC rfl (by exact ay (by solve_by_elim [am,au,aa,ag,aG,aH,cA]) rfl)) (yn (by omega))) aJ))
noncomputable abbrev XW(t:List Nat):V:=.tup [.str [99,104,97,114,115],.str t]
theorem JY{a b rest at' nm s p h:V}:ae (ar own) (d+2) 67 [.tup [.tup [.str [99,97,116],a,b],rest],at',nm,s,p,h] H=some (.tup [.tup [a,.tup [b,rest]],at',nm],H):=by kernel_rfl
theorem Df{a r rest at' nm s p h:V}:ae (ar own) (d+2) 67 [.tup [.tup [.str [108,97,116,101,114],a,r],rest],at',nm,s,p,h] H=some (.tup [.tup [a,.tup [.tup [.str [101,110,100,32,108,97,116,101,114],r,at'],rest]],at',nm],H):=by kernel_rfl
theorem JZ{a b rest at' nm:V}{p:Nat}{L:List V}(hp:H[p]?=some (.list L))(hl:L.length<lim):ae (ar own) (d+1) 68 [.tup [.str [97,108,116],a,b],rest,at',nm,.loc p] H=some (.tup [.tup [a,rest],at',nm],H.set p (.list (L++[.tup [.tup [b,rest],at',nm]]))):=
 ac rfl rfl (eE rfl rfl (aW rfl (lu (de rfl (bb (by solve_by_elim [am,au,aa,ag,aG,aH,cA]) rfl) rfl (bV (by solve_by_elim [am,au,aa,ag,aG,aH,cA]) hl)) rfl)))
theorem J0{a b rest at' nm s h:V}{p:Nat}{L:List V}(hp:H[p]?=some (.list L))(hl:L.length<lim):ae (ar own) (d+2) 67 [.tup [.tup [.str [97,108,116],a,b],rest],at',nm,s,.loc p,h] H=some (.tup [.tup [a,rest],at',nm],H.set p (.list (L++[.tup [.tup [b,rest],at',nm]]))):=
 ac rfl rfl (eE rfl rfl (aW rfl (aD (az rfl (JZ hp hl)))))
theorem Hm{r rest p h:V}{s:List Nat}{a b:Nat}{nm:List V}(hl:nm.length+1<=lim):ae (ar own) (d+1) 69 [.tup [.str [101,110,100,32,108,97,116,101,114],r,.int b],rest,.int a,.tup nm,.str s,p,h] H=some (.tup [rest,.int a,.tup (nm++[.tup [r,.str ((s.take a).drop b)]])],H):=
 ac rfl rfl (ah rfl (aW rfl (aD (aU (aM rfl (aV rfl (cw rfl rfl (eQ hl))))))))
theorem Ho{r rest p h:V}{s:List Nat}{a b:Nat}{nm:List V}(hl:nm.length+1<=lim):ae (ar own) (d+2) 67 [.tup [.tup [.str [101,110,100,32,108,97,116,101,114],r,.int b],rest],.int a,.tup nm,.str s,p,h] H=some (.tup [rest,.int a,.tup (nm++[.tup [r,.str ((s.take a).drop b)]])],H):=
 ac rfl rfl (cm rfl rfl rfl (aW rfl (aD (az rfl (Hm hl)))))
end
section
variable {P:Pg}{call:bT}{l:Lo}{H H1 H2 H3:Hp}{a b z u v:V}{e f g:ME}
theorem M6{op jC:lw}{q:Bool}(h1:av P call e l H=some (a,H1))(h2:av P call f l H1=some (b,H2))(h3:bY H2 op a b=some true)(h4:av P call g l H2=some (z,H3))(h5:bY H3 jC b z=some q):av P call (.nG op jC e f g) l H=some (.bool q,H3):=
 (aI h1).trans ((aI h2).trans (by rw[h3];exact(aI h4).trans (by rw[h5])))
theorem Hq{op jC:lw}(h1:av P call e l H=some (a,H1))(h2:av P call f l H1=some (b,H2))(h3:bY H2 op a b=some false):av P call (.nG op jC e f g) l H=some (.bool false,H2):=
 (aI h1).trans ((aI h2).trans (by rw[h3]))
theorem yt{i j:Nat}{q:Bool}(h:decide (i<=j)=q):bY H .le (.int i) (.int j)=some q:=by
 show some (decide ((i:Int)<=j))=_
 rw[← h];congr 1;exact decide_eq_decide.mpr Int.ofNat_le
theorem iy{i j:Nat}{q:Bool}(h:decide (i<j)=q):bY H .lt (.int i) (.int j)=some q:=by
 show some (decide ((i:Int)<j))=_
 rw[← h];congr 1;exact decide_eq_decide.mpr Int.ofNat_lt
theorem J1{i j:Nat}{q:Bool}(h:decide (j<i)=q):bY H .gt (.int i) (.int j)=some q:=by
 show some (decide ((j:Int)<i))=_
 rw[← h];congr 1;exact decide_eq_decide.mpr Int.ofNat_lt
theorem uw{i j:Int}{q:Bool}(h:decide (i=j)=q):bY H .eq (.int i) (.int j)=some q:=by
 show some (i==j)=_
 rw[← h];congr 1
theorem Rr{i j:Int}{q:Bool}(h:decide (i<=j)=q):bY H .le (.int i) (.int j)=some q:=by show some (decide _)=_;rw[h]
theorem J2{x y q:Bool}(h:(x==y)=q):bY H .eq (.bool x) (.bool y)=some q:=by
 show xj H (.bool x) (.bool y)=_
 induction x <;> induction y <;> induction h <;> rfl
theorem yu{c:Nat}{t:List Nat}:bY H .isin (.str [c]) (.str t)=some (t.contains c):=rfl
theorem wR{c:Nat}{t:List Nat}:bY H .nR (.str [c]) (.str t)=some (!(t.contains c)):=rfl
theorem Rs{n:Nat}{s:List Nat}(h:H[n]?=some (.list [])):bY H .isin (.str s) (.loc n)=some false:=(dj h).trans rfl
theorem AZ{α:Type}{l:List α}{k:Nat}{x:α}(h:l[k]?=some x):eO l (k:Int)=some x:=by unfold eO;rw[if_pos (nF k),oT];exact h
theorem mZ{s:List Nat}{k c:Nat}(h:s[k]?=some c):gE H (.str s) (.int k)=some (.str [c]):=by
 show(eO s k).map _=_
 rw[AZ h];rfl
theorem sr{β:Type}{n:Nat}{es:List (List Nat×V)}{k:List (List Nat×V)->Option β}(h:H[n]?=some (.dict es)):B3 H n k=k es:=by unfold B3;rw[h]
theorem M7{n:Nat}{es:List (List Nat×V)}{k:List Nat}(h:H[n]?=some (.dict es))(h2:es.length<1024):sR H (.loc n) (.str k) v=some (H.set n (.dict (dF k v es))):=(sr h).trans (eQ h2)
theorem Ru{n:Nat}{es:List (List Nat×V)}{k:List Nat}(h:H[n]?=some (.dict es)):sQ .get (.loc n) [.str k,v] H=some ((bz k es).getD v,H):=sr h
theorem J3{n:Nat}{es:List (List Nat×V)}(h:H[n]?=some (.dict es)):vm .get (.loc n) H=true:=by unfold vm;simp only[h]
end
noncomputable abbrev A0(k:List Nat):O:=.inst 1 [(15,.str [118,97,114]),(16,.none),(17,.str k)]
set_option genCtorIdx false in
inductive Sg where
 |ch (t:List Nat)|len (n:Nat)|pos (n:Nat)|gH (n:Nat)|tab (n:Nat)|gI (n:Nat)|any (t:List Nat)|fc (t:List Nat)|span (t:List Nat)|brk (t:List Nat)|rem
noncomputable def vH:Sg->List Nat
 |.ch _=>[99,104,97,114,115]
 |.len _=>[108,101,110]
 |.pos _=>[112,111,115]
 |.gH _=>[114,112,111,115]
 |.tab _=>[116,97,98]
 |.gI _=>[114,116,97,98]
 |.any _=>[97,110,121]
 |.fc _=>[110,111,116,97,110,121]
 |.span _=>[115,112,97,110]
 |.brk _=>[98,114,101,97,107]
 |.rem=>[114,101,109]
noncomputable def XY:Sg->V
 |.ch t=>.str t
 |.len n=>.int n
 |.pos n=>.int n
 |.gH n=>.int n
 |.tab n=>.int n
 |.gI n=>.int n
 |.any t=>.str t
 |.fc t=>.str t
 |.span t=>.str t
 |.brk t=>.str t
 |.rem=>.none
noncomputable def Wu:Sg->List V
 |.ch t=>[.str t]
 |.len n=>[.int n]
 |.pos n=>[.int n]
 |.gH n=>[.int n]
 |.tab n=>[.int n]
 |.gI n=>[.int n]
 |.any t=>[.str t]
 |.fc t=>[.str t]
 |.span t=>[.str t]
 |.brk t=>[.str t]
 |.rem=>[]
noncomputable def rV(x:Sg):V:=.tup (.str (vH x)::Wu x)
noncomputable def ux(s t:List Nat)(a:Nat):Bool:=(s.take (a+t.length)).drop a==t
noncomputable def j8(t:List Nat)(b:Bool):List Nat->Nat
 |[]=>0
 |c::r=>bif t.contains c==b then j8 t b r+1 else 0
noncomputable def gJ(s t:List Nat)(b:Bool)(a:Nat):Nat:=a+j8 t b (s.drop a)
noncomputable def oN(b:Bool)(n:Nat):Option Nat:=bif b then some n else none
noncomputable def ia(s:List Nat)(a:Nat):Sg->Option Nat
 |.ch t=>oN (ux s t a) (a+t.length)
 |.len n=>oN (decide (a+n<=s.length)) (a+n)
 |.pos n=>oN (decide (a=n)) a
 |.gH n=>oN (decide (s.length=a+n)) a
 |.tab n=>oN (decide (a<=n)&&decide (n<=s.length)) n
 |.gI n=>oN (decide (a+n<=s.length)) (s.length-n)
 |.any t=>match s[a]? with|some c=>oN (t.contains c) (a+1)|none=>none
 |.fc t=>match s[a]? with|some c=>oN (!(t.contains c)) (a+1)|none=>none
 |.span t=>oN (decide (a<gJ s t true a)) (gJ s t true a)
 |.brk t=>oN (decide (gJ s t false a<s.length)) (gJ s t false a)
 |.rem=>some s.length
noncomputable def jI(x:Option Nat):V:=match x with|some n=>.int n|none=>.none
theorem kP{b:Bool}{n:Nat}:(bif b then V.int (n:Nat) else V.none)=jI (oN b n):=by induction b <;> rfl
section
variable {own:List FI}{d:Nat}{H:Hp}{s t:List Nat}{a n:Nat}
theorem J4:ae (ar own) (d+1) 28 [.str s,.int a,.str t] H=some (jI (ia s a (.ch t)),H):=
 iC (b:=some (bif ux s t a then .int (a+t.length:Nat) else .none,H)) (ac rfl rfl (ah rfl (aD (gn (ax rfl rfl (cM rfl)) rfl ak)))) (by rw[kP];rfl)
theorem Rv:ae (ar own) (d+1) 29 [.str s,.int a,.int n] H=some (jI (ia s a (.len n)),H):=
 iC (b:=some (bif decide (a+n<=s.length) then .int (a+n:Nat) else .none,H)) (ac rfl rfl (aD (gn (ax (cw rfl rfl (show _=some (V.int (a+n:Nat),_) from rfl)) rfl (yt (i:=a+n) (j:=s.length) rfl)) (cw rfl rfl (show _=some (V.int (a+n:Nat),_) from rfl)) ak))) (by rw[kP];rfl)
theorem Rw:ae (ar own) (d+1) 30 [.int a,.int n] H=some (jI (ia s a (.pos n)),H):=
 iC (b:=some (bif decide (a=n) then .int a else .none,H)) (ac rfl rfl (aD (gn (ax rfl rfl (uw (i:=a) (j:=n) (q:=decide (a=n)) (decide_eq_decide.mpr Int.ofNat_inj))) rfl ak))) (by rw[kP];rfl)
theorem M8:ae (ar own) (d+1) 31 [.str s,.int a,.int n] H=some (jI (ia s a (.gH n)),H):=
 iC (b:=some (bif decide (s.length=a+n) then .int a else .none,H)) (ac rfl rfl (aD (gn (ax (cw rfl rfl (show _=some (V.int ((s.length:Int)-a),_) from rfl)) rfl (uw (i:=(s.length:Int)-a) (j:=n) (q:=decide (s.length=a+n)) (decide_eq_decide.mpr (by omega)))) rfl ak))) (by rw[kP];rfl)
theorem Rx:ae (ar own) (d+1) 32 [.str s,.int a,.int n] H=some (jI (ia s a (.tab n)),H):=by
  show _=some (jI (oN (decide (a<=n)&&decide (n<=s.length)) n),H)
  cases h:decide (a<=n) with
 |false=>exact ac rfl rfl (aD (bB (Hq rfl rfl (yt h)) ak))
 |true=>exact iC (b:=some (bif decide (n<=s.length) then .int n else .none,H)) (ac rfl rfl (aD (gn (M6 rfl rfl (yt h) rfl (yt rfl)) rfl ak))) (by rw[kP];rfl)
theorem M9:ae (ar own) (d+1) 33 [.str s,.int a,.int n] H=some (jI (ia s a (.gI n)),H):=by
  refine iC (b:=some (bif decide (a+n<=s.length) then .int ((s.length:Int)-n) else .none,H)) (ac rfl rfl (bk (cw rfl rfl (show _=some (V.int ((s.length:Int)-n),_) from rfl)) (aD (gn (ax rfl rfl (Rr (i:=a) (j:=(s.length:Int)-n) (q:=decide (a+n<=s.length)) (decide_eq_decide.mpr (by omega)))) rfl ak)))) ?_
  show _=some (jI (oN (decide (a+n<=s.length)) (s.length-n)),H)
  cases h:decide (a+n<=s.length) with
 |false=>rfl
 |true=>rw[← Int.ofNat_sub (Nat.le_of_add_left_le (of_decide_eq_true h))];rfl
theorem J5:ae (ar own) (d+1) 34 [.str s] H=some (.int s.length,H):=
 ac rfl rfl rfl
theorem Ry:ae (ar own) (d+1) 35 [.str s,.int a,.str t] H=some (jI (ia s a (.any t)),H):=by
  show _=some (jI (match s[a]? with|some c=>oN ((t.contains c)) (a+1)|none=>none),H)
  cases h:s[a]? with
 |none=>exact ac rfl rfl (aD (bB (ed (ax rfl rfl (iy (decide_eq_false (eK.mpr (sM.mp h)))))) ak))
 |some c=>
    have hl:decide (a<s.length)=true:=decide_eq_true (eS.mp h).1
    dsimp only
    cases hc:t.contains c with
   |false=>exact ac rfl rfl (aD (bB (dA (ax rfl rfl (iy hl)) (ed (ax (aR rfl rfl (mZ h)) rfl (yu.trans (by rw[hc]))))) ak))
   |true=>exact ac rfl rfl (aD (cK (dA (ax rfl rfl (iy hl)) (dA (ax (aR rfl rfl (mZ h)) rfl (yu.trans (by rw[hc]))) jt)) (cw rfl ak (show _=some (V.int (a+1:Nat),_) from rfl))))
theorem Na:ae (ar own) (d+1) 36 [.str s,.int a,.str t] H=some (jI (ia s a (.fc t)),H):=by
  show _=some (jI (match s[a]? with|some c=>oN (!(t.contains c)) (a+1)|none=>none),H)
  cases h:s[a]? with
 |none=>exact ac rfl rfl (aD (bB (ed (ax rfl rfl (iy (decide_eq_false (eK.mpr (sM.mp h)))))) ak))
 |some c=>
    have hl:decide (a<s.length)=true:=decide_eq_true (eS.mp h).1
    dsimp only
    cases hc:t.contains c with
   |true=>exact ac rfl rfl (aD (bB (dA (ax rfl rfl (iy hl)) (ed (ax (aR rfl rfl (mZ h)) rfl (wR.trans (by rw[hc];rfl))))) ak))
   |false=>exact ac rfl rfl (aD (cK (dA (ax rfl rfl (iy hl)) (dA (ax (aR rfl rfl (mZ h)) rfl (wR.trans (by rw[hc];rfl))) jt)) (cw rfl ak (show _=some (V.int (a+1:Nat),_) from rfl))))
noncomputable def Ue:ME:=(.and [(.cmp .lt (.loc 1) (.prim .len [(.loc 0)])),(.cmp .eq (.cmp .isin (.idx (.loc 0) (.loc 1)) (.loc 2)) (.loc 3))])
noncomputable def Uf:List MS:=[(.aug 1 .add (.lit (.int 1)))]
theorem wS{b:Bool}:∀(r:List Nat)(a f:Nat),s.drop a=r->r.length<f->dG (av (ar own) (ae (ar own) d) Ue) (aS (ar own) (ae (ar own) d) Uf) f [some (.str s),some (.int a),some (.str t),some (.bool b)] H=some (.next,[some (.str s),some (.int (a+j8 t b r:Nat)),some (.str t),some (.bool b)],H)
 |[],a,f+1,hr,_=>iJ (ed (ax rfl rfl (iy (decide_eq_false (eK.mpr (List.drop_eq_nil_iff.mp hr))))))
 |c::r,a,f+1,hr,hf=>by
   have hc:s[a]?=some c:=by rw[← List.head?_drop,hr];rfl
   have hl:decide (a<s.length)=true:=decide_eq_true (eS.mp hc).1
   have bL:s.drop (a+1)=r:=by rw[← List.drop_drop,hr];rfl
   show _=some (Fl.next,[_,some (V.int ((a+(bif t.contains c==b then j8 t b r+1 else 0):Nat):Int)),_,_],H)
   cases hb:t.contains c==b with
  |false=>exact iJ (dA (ax rfl rfl (iy hl)) (ed (ax (ax (aR rfl rfl (mZ hc)) rfl yu) rfl (J2 hb))))
  |true=>
    have ih:=wS (b:=b) r (a+1) f bL (oX hf)
    rw[show a+1+j8 t b r=a+(j8 t b r+1) from Nat.succ_add_eq_add_succ ..] at ih
    exact hZ (dA (ax rfl rfl (iy hl)) (dA (ax (ax (aR rfl rfl (mZ hc)) rfl yu) rfl (J2 hb)) jt)) rfl ih
theorem E9{b:Bool}(hs:s.length<1048576):ae (ar own) (d+1) 37 [.str s,.int a,.str t,.bool b] H=some (.int (gJ s t b a),H):=
 ac rfl rfl (ah (fN (wS (s.drop a) a 1048576 rfl (by rw[rd];omega))) rfl)
theorem Nb(hs:s.length<1048576):ae (ar own) (d+2) 38 [.str s,.int a,.str t] H=some (jI (ia s a (.span t)),H):=
 iC (b:=some (bif decide (a<gJ s t true a) then V.int (gJ s t true a:Nat) else V.none,H)) (ac rfl rfl (bk (az rfl (E9 hs)) (aD (gn (ax rfl rfl (J1 rfl)) rfl ak)))) (by rw[kP];rfl)
theorem Rz(hs:s.length<1048576):ae (ar own) (d+2) 39 [.str s,.int a,.str t] H=some (jI (ia s a (.brk t)),H):=
 iC (b:=some (bif decide (gJ s t false a<s.length) then V.int (gJ s t false a:Nat) else V.none,H)) (ac rfl rfl (bk (az rfl (E9 hs)) (aD (gn (ax rfl rfl (iy rfl)) rfl ak)))) (by rw[kP];rfl)
theorem d7(hs:s.length<1048576):∀ x:Sg,ae (ar own) (d+4) 44 [rV x,.str s,.int a] H=some (jI (ia s a x),H)
 |.ch t=>ac rfl rfl (aD (bB rfl (az rfl (ac rfl rfl (aW rfl (aD (az rfl J4)))))))
 |.len t=>ac rfl rfl (aD (bB rfl (az rfl (ac rfl rfl (ah rfl (aW rfl (aD (az rfl Rv))))))))
 |.pos t=>ac rfl rfl (aD (bB rfl (az rfl (ac rfl rfl (eE rfl rfl (aW rfl (aD (az rfl Rw))))))))
 |.gH t=>ac rfl rfl (aD (bB rfl (az rfl (ac rfl rfl (cm rfl rfl rfl (aW rfl (aD (az rfl M8))))))))
 |.tab t=>ac rfl rfl (aD (bB rfl (az rfl (ac rfl rfl (ah rfl (cm rfl rfl rfl (aW rfl (aD (az rfl Rx)))))))))
 |.gI t=>ac rfl rfl (aD (bB rfl (az rfl (ac rfl rfl (eE rfl rfl (cm rfl rfl rfl (aW rfl (aD (az rfl M9)))))))))
 |.any t=>ac rfl rfl (aD (bB rfl (az rfl (ac rfl rfl (cm rfl rfl rfl (cm rfl rfl rfl (aW rfl (aD (az rfl Ry)))))))))
 |.fc t=>ac rfl rfl (aD (bB rfl (az rfl (ac rfl rfl (ah rfl (cm rfl rfl rfl (cm rfl rfl rfl (aW rfl (aD (az rfl Na))))))))))
 |.span t=>ac rfl rfl (aD (bB rfl (az rfl (ac rfl rfl (eE rfl rfl (cm rfl rfl rfl (cm rfl rfl rfl (aW rfl (aD (az rfl (Nb hs)))))))))))
 |.brk t=>ac rfl rfl (aD (bB rfl (az rfl (ac rfl rfl (cm rfl rfl rfl (cm rfl rfl rfl (cm rfl rfl rfl (aD (az rfl (Rz hs))))))))))
 |.rem=>ac rfl rfl (aD (cK rfl (az rfl J5)))
theorem rH{h:V}:∀ x:Sg,ae (ar own) (d+2) 27 [rV x,h] H=some (rV x,H)
 |.ch _=>by kernel_rfl
 |.len _=>by kernel_rfl
 |.pos _=>by kernel_rfl
 |.gH _=>by kernel_rfl
 |.tab _=>by kernel_rfl
 |.gI _=>by kernel_rfl
 |.any _=>by kernel_rfl
 |.fc _=>by kernel_rfl
 |.span _=>by kernel_rfl
 |.brk _=>by kernel_rfl
 |.rem=>by kernel_rfl
variable {h va rf lg r:Nat}{m k:Int}{v:V}{es:List (List Nat×V)}{log:List V}{key:List Nat}
theorem uy(hh:H[h]?=some (cE (.loc va) (.loc rf) (.loc lg) m k))(hr:H[r]?=some (A0 key))(Wv:H[rf]?=some (.list []))(Nc:H[va]?=some (.dict es))(J6:es.length<1024)(Nf:H[lg]?=some (.list log))(J7:log.length<lim)(n1:va≠h)(n2:va≠r)(n3:va≠lg):ae (ar own) (d+1) 62 [.loc h,.loc r,v] H=some (.bool true,(H.set va (.dict (dF key v es))).set lg (.list (log++[.tup [.str key,v]]))):=
 ac rfl rfl (bh (ax (aC rfl (ay hr rfl)) (aC rfl (ay hh rfl)) (Rs Wv)) (ah (aT rfl (kM (aC rfl (ay hh rfl)) (aC rfl (ay hr rfl)) (M7 Nc J6))) (lu (de (aC rfl (ay (aa n1 hh) rfl)) (bb (aa n3 Nf) rfl) (dH (aU (aM (aC rfl (ay (aa n2 hr) rfl)) rfl))) (bV (aa n3 Nf) J7)) rfl)))
theorem wT(hh:H[h]?=some (cE (.loc va) (.loc rf) (.loc lg) m k))(Nc:H[va]?=some (.dict es)):ae (ar own) (d+1) 61 [.loc h,.tup [.str [110,97,109,101],.str key]] H=some ((bz key es).getD (.str []),H):=
 ac rfl rfl (aW rfl (aD (de (aC rfl (ay hh rfl)) (J3 Nc) rfl (Ru Nc))))
end
structure KF(k:List Nat):Prop where
 f1:([[99,97,116],[97,108,116],[97,114,98,110,111],[108,97,116,101,114],[110,111,119]]:List (List Nat)).any (·==k)=false
 f2:(k.take 4==[101,110,100,32])=false
 f3:(k==[99,117,114,115,111,114])=false
 f4:(k==[100,101,108,97,121])=false
 f5:([[102,101,110,99,101],[97,98,111,114,116],[102,97,105,108],[115,117,99,99,101,101,100]]:List (List Nat)).any (·==k)=false
 f6:(k==[97,114,98])=false
 f7:(k==[98,97,108])=false
theorem kf:∀ x:Sg,KF (vH x)
 |.ch _=>⟨rfl,rfl,rfl,rfl,rfl,rfl,rfl⟩
 |.len _=>⟨rfl,rfl,rfl,rfl,rfl,rfl,rfl⟩
 |.pos _=>⟨rfl,rfl,rfl,rfl,rfl,rfl,rfl⟩
 |.gH _=>⟨rfl,rfl,rfl,rfl,rfl,rfl,rfl⟩
 |.tab _=>⟨rfl,rfl,rfl,rfl,rfl,rfl,rfl⟩
 |.gI _=>⟨rfl,rfl,rfl,rfl,rfl,rfl,rfl⟩
 |.any _=>⟨rfl,rfl,rfl,rfl,rfl,rfl,rfl⟩
 |.fc _=>⟨rfl,rfl,rfl,rfl,rfl,rfl,rfl⟩
 |.span _=>⟨rfl,rfl,rfl,rfl,rfl,rfl,rfl⟩
 |.brk _=>⟨rfl,rfl,rfl,rfl,rfl,rfl,rfl⟩
 |.rem=>⟨rfl,rfl,rfl,rfl,rfl,rfl,rfl⟩
inductive pS:V->List Nat->Prop where
 |str (t:List Nat):pS (.str t) t
 |int (n:Nat) (h:n<10):pS (.int n) [48+n]
section
variable {own:List FI}{d:Nat}{H:Hp}{s t:List Nat}{a n e:Nat}{x:Sg}{rest nm p h:V}
theorem J8(hs:s.length<1048576)(he:ia s a x=some e):ae (ar own) (d+5) 71 [rV x,rest,.int a,nm,.str s,p,h] H=some (.tup [rest,.int e,nm],H):=
 ac rfl rfl (ah rfl (bh (ax rfl ak (cM (kf x).f6)) (bh (ax rfl ak (cM (kf x).f7)) (bk (az rfl (rH x)) (ah rfl (bk (az rfl ((d7 hs x).trans (congrArg (λz=>some (jI z,H)) he))) rfl))))))
theorem J9(hs:s.length<1048576)(he:ia s a x=none):ae (ar own) (d+5) 71 [rV x,rest,.int a,nm,.str s,p,h] H=some (.none,H):=
 ac rfl rfl (ah rfl (bh (ax rfl ak (cM (kf x).f6)) (bh (ax rfl ak (cM (kf x).f7)) (bk (az rfl (rH x)) (ah rfl (bk (az rfl ((d7 hs x).trans (congrArg (λz=>some (jI z,H)) he))) rfl))))))
theorem Fa{v:V}(hr:ae (ar own) (d+5) 71 [rV x,rest,.int a,nm,.str s,p,h] H=some (v,H)):ae (ar own) (d+6) 67 [.tup [rV x,rest],.int a,nm,.str s,p,h] H=some (v,H):=
 ac rfl rfl (eE rfl rfl (bh (ax rfl rfl (congrArg some (kf x).f1)) (bh (ax rfl ak (cM (kf x).f2)) (bh (ax rfl ak (cM (kf x).f3)) (bh (ax rfl ak (cM (kf x).f4)) (bh (ax rfl rfl (congrArg some (kf x).f5)) (aD (az rfl hr))))))))
theorem Ka{b r at':V}{s:V}:ae (ar own) (d+2) 67 [.tup [.tup [.str [110,111,119],b,r],rest],at',nm,s,p,h] H=some (.tup [.tup [b,.tup [.tup [.str [101,110,100,32,110,111,119],r,at'],rest]],at',nm],H):=by kernel_rfl
theorem Hr{at':V}{s:V}:ae (ar own) (d+2) 67 [.tup [.tup [.str [102,97,105,108]],rest],at',nm,s,p,h] H=some (.none,H):=by kernel_rfl
section
variable {p:Nat}{L:List V}{at' s:V}
theorem Ng{b:V}(hp:H[p]?=some (.list L))(hl:L.length<lim):ae (ar own) (d+1) 68 [.tup [.str [97,114,98,110,111],b],rest,at',nm,.loc p] H=some (.tup [rest,at',nm],H.set p (.list (L++[.tup [.tup [b,.tup [.tup [.str [101,110,100,32,114,111,117,110,100],.tup [.str [97,114,98,110,111],b],at'],rest]],at',nm]]))):=
 ac rfl rfl (cm rfl rfl rfl (aW rfl (lu (de rfl (bb hp rfl) rfl (bV hp hl)) rfl)))
theorem Nh{b:V}(hp:H[p]?=some (.list L))(hl:L.length<lim):ae (ar own) (d+2) 67 [.tup [.tup [.str [97,114,98,110,111],b],rest],at',nm,s,.loc p,h] H=some (.tup [rest,at',nm],H.set p (.list (L++[.tup [.tup [b,.tup [.tup [.str [101,110,100,32,114,111,117,110,100],.tup [.str [97,114,98,110,111],b],at'],rest]],at',nm]]))):=
 ac rfl rfl (eE rfl rfl (aW rfl (aD (az rfl (Ng hp hl)))))
theorem Dg(hp:H[p]?=some (.list L))(hl:L.length<lim):ae (ar own) (d+1) 70 [.tup [.tup [.str [102,101,110,99,101]],rest],at',nm,.loc p] H=some (.tup [rest,at',nm],H.set p (.list (L++[.none]))):=
 ac rfl rfl (cm rfl rfl rfl (lu (de rfl (bb hp rfl) rfl (bV hp hl)) rfl))
theorem Kb(hp:H[p]?=some (.list L))(hl:L.length<lim):ae (ar own) (d+2) 67 [.tup [.tup [.str [102,101,110,99,101]],rest],at',nm,s,.loc p,h] H=some (.tup [rest,at',nm],H.set p (.list (L++[.none]))):=
 ac rfl rfl (cm rfl rfl rfl (cm rfl rfl rfl (aW rfl (aD (az rfl (Dg hp hl))))))
end
section
variable {p:Nat}{L:List V}
theorem yv(hp:H[p]?=some (.list L))(hl:L.length<lim)(ha:a<s.length):ae (ar own) (d+1) 71 [.tup [.str [97,114,98]],rest,.int a,nm,.str s,.loc p,h] H=some (.tup [rest,.int a,nm],H.set p (.list (L++[.tup [.tup [.tup [.str [97,114,98]],rest],.int (a+1:Nat),nm]]))):=
 ac rfl rfl (ah rfl (aW rfl (ah (cf (ax rfl rfl (iy (decide_eq_true ha))) (fm (de rfl (bb hp rfl) rfl (bV hp hl)))) rfl)))
theorem yw(ha:¬ a<s.length){p:V}:ae (ar own) (d+1) 71 [.tup [.str [97,114,98]],rest,.int a,nm,.str s,p,h] H=some (.tup [rest,.int a,nm],H):=
 ac rfl rfl (ah rfl (aW rfl (bh (ax rfl rfl (iy (decide_eq_false ha))) rfl)))
theorem A1{v:V}{H2:Hp}{p:V}(e:ae (ar own) (d+1) 71 [.tup [.str [97,114,98]],rest,.int a,nm,.str s,p,h] H=some (v,H2)):ae (ar own) (d+2) 67 [.tup [.tup [.str [97,114,98]],rest],.int a,nm,.str s,p,h] H=some (v,H2):=
 ac rfl rfl (ah rfl (cm rfl rfl rfl (cm rfl rfl rfl (aD (az rfl e)))))
end
theorem Ht{b:V}:ae (ar own) (d+2) 67 [.tup [.tup [.str [101,110,100,32,114,111,117,110,100],b,.int a],rest],.int a,nm,.str s,p,h] H=some (.none,H):=
 ac rfl rfl (cm rfl rfl rfl (aW rfl (aD (az rfl (ac rfl rfl (cm rfl rfl rfl (aD (cK (ax rfl rfl (uw (i:=a) (j:=a) (q:=true) (decide_eq_true rfl))) ak))))))))
theorem Hu{b:V}(hn:n≠a):ae (ar own) (d+2) 67 [.tup [.tup [.str [101,110,100,32,114,111,117,110,100],b,.int n],rest],.int a,nm,.str s,p,h] H=some (.tup [.tup [b,rest],.int a,nm],H):=
 ac rfl rfl (cm rfl rfl rfl (aW rfl (aD (az rfl (ac rfl rfl (cm rfl rfl rfl (aD (bB (ax rfl rfl (uw (i:=a) (j:=n) (q:=false) (decide_eq_false λq=>hn (Int.ofNat_inj.mp q).symm))) rfl))))))))
section
variable {h:Nat}{v:V}{H2:Hp}{r:V}
theorem Kc{s:V}(e:ae (ar own) (d+1) 62 [.loc h,r,.int a] H=some (.bool true,H2))(hh:∃ fs,H[h]?=some (.inst 4 fs)):ae (ar own) (d+2) 67 [.tup [.tup [.str [99,117,114,115,111,114],r],rest],.int a,nm,s,p,.loc h] H=some (.tup [rest,.int a,nm],H2):=by
 obtain⟨fs,hh⟩:=hh
 exact ac rfl rfl (ah rfl (cm rfl rfl rfl (aW rfl (aD (cK (aP rfl hh rfl rfl rfl e) rfl)))))
theorem Ni(e:ae (ar own) (d+1) 62 [.loc h,r,.str ((s.take a).drop n)] H=some (.bool true,H2))(hh:∃ fs,H[h]?=some (.inst 4 fs)):ae (ar own) (d+3) 67 [.tup [.tup [.str [101,110,100,32,110,111,119],r,.int n],rest],.int a,nm,.str s,p,.loc h] H=some (.tup [rest,.int a,nm],H2):=by
 obtain⟨fs,hh⟩:=hh
 exact ac rfl rfl (cm rfl rfl rfl (aW rfl (aD (az rfl (ac rfl rfl (eE rfl rfl (aW rfl (aD (cK (aP rfl hh rfl rfl (aV rfl (i4 rfl rfl rfl ak ((by rfl)))) e) rfl)))))))))
end
theorem Dh{v:V}(hv:pS v t):ae (ar own) (d+2) 21 [v] H=some (.str t,H):=by
  induction hv with
 |str=>exact ac rfl rfl rfl
 |int n hn=>
    match n,hn with
   |0,_=>kernel_rfl
   |1,_=>kernel_rfl
   |2,_=>kernel_rfl
   |3,_=>kernel_rfl
   |4,_=>kernel_rfl
   |5,_=>kernel_rfl
   |6,_=>kernel_rfl
   |7,_=>kernel_rfl
   |8,_=>kernel_rfl
   |9,_=>kernel_rfl
   |n+10,h=>exact absurd h (eK.mpr (eL _ _))
theorem wU{v:V}(hv:pS v t):ae (ar own) (d+3) 25 [v] H=some (.tup [.str [99,104,97,114,115],.str t],H):=by
 have h1:xk v (.cls 6)=some false:=by induction hv <;> rfl
 have h2:xk v (.cls 7)=some false:=by induction hv <;> rfl
 exact ac rfl rfl (bh (mX rfl h1) (bh (mX rfl h2) (bk (az rfl (Dh hv)) rfl)))
theorem Ke{h:Nat}{k:List Nat}{v s at':V}(e:ae (ar own) (d+1) 61 [.loc h,.tup [.str [110,97,109,101],.str k]] H=some (v,H))(hv:pS v t)(hh:∃ fs,H[h]?=some (.inst 4 fs)):ae (ar own) (d+4) 67 [.tup [.tup [.str [100,101,108,97,121],.tup [.str [110,97,109,101],.str k]],rest],at',nm,s,p,.loc h] H=some (.tup [.tup [.tup [.str [99,104,97,114,115],.str t],rest],at',nm],H):=by
 obtain⟨fs,hh⟩:=hh
 have h1:xk v (.cls 5)=some false:=by induction hv <;> rfl
 exact ac rfl rfl (eE rfl rfl (cm rfl rfl rfl (aW rfl (bk (aP rfl hh rfl rfl rfl e) (aD (bB (az rfl (ac rfl rfl (aD (mX rfl h1)))) (aU (aM (aU (aM (az rfl (wU hv)) rfl)) rfl))))))))
end
set_option genCtorIdx false in
inductive Nd where
 |sg (x:Sg)|al (a b:Nd)|ca (a b:Nd)|rp (n:Nd)|lt (n:Nd) (r:Nat)|nw (n:Nd) (r:Nat)|cu|dT|fail|cur (r:Nat)|dU (k:List Nat)
set_option genCtorIdx false in
inductive Im where
 |nd (n:Nd)|el (r b:Nat)|en (r b:Nat)|er (n:Nd) (b:Nat)
noncomputable abbrev Nm:=List (Nat×List Nat)
noncomputable def nV:Nd->V
 |.sg x=>rV x
 |.al a b=>.tup [.str [97,108,116],nV a,nV b]
 |.ca a b=>.tup [.str [99,97,116],nV a,nV b]
 |.rp n=>.tup [.str [97,114,98,110,111],nV n]
 |.lt n r=>.tup [.str [108,97,116,101,114],nV n,.loc r]
 |.nw n r=>.tup [.str [110,111,119],nV n,.loc r]
 |.cu=>.tup [.str [97,114,98]]
 |.dT=>.tup [.str [102,101,110,99,101]]
 |.fail=>.tup [.str [102,97,105,108]]
 |.cur r=>.tup [.str [99,117,114,115,111,114],.loc r]
 |.dU k=>.tup [.str [100,101,108,97,121],.tup [.str [110,97,109,101],.str k]]
noncomputable def iV:Im->V
 |.nd n=>nV n
 |.el r b=>.tup [.str [101,110,100,32,108,97,116,101,114],.loc r,.int b]
 |.en r b=>.tup [.str [101,110,100,32,110,111,119],.loc r,.int b]
 |.er n b=>.tup [.str [101,110,100,32,114,111,117,110,100],nV (.rp n),.int b]
noncomputable def cV:List Im->V
 |[]=>.none
 |i::r=>.tup [iV i,cV r]
noncomputable def j9(l:Nm):List V:=l.map λx=>.tup [.loc x.1,.str x.2]
structure Wy where
 c:List Im
 a:Nat
 nm:Nm
noncomputable def wV(w:Option Wy):V:=match w with
 |some w=>.tup [cV w.c,.int w.a,.tup (j9 w.nm)]
 |none=>.none
structure Hs where
 vals:List (List Nat×V)
 log:List V
noncomputable def iE(σ:Hs)(k:List Nat)(v:V):Hs:=⟨dF k v σ.vals,σ.log++[.tup [.str k,v]]⟩
set_option genCtorIdx false in
inductive mu where
 |go (c:List Im) (a:Nat) (nm:Nm) (σ:Hs) (ps:List (Option Wy))|no
inductive Res where
 |met (a:Nat) (nm:Nm)|cz|bi
section
variable (kp:Nat->Option (List Nat))(s:List Nat)
inductive cH:Im->List Im->Nat->Nm->Hs->mu->Prop where
 |Kf {x r a nm σ e}:ia s a x=some e->cH (.nd (.sg x)) r a nm σ (.go r e nm σ [])
 |A2 {x r a nm σ}:ia s a x=none->cH (.nd (.sg x)) r a nm σ .no
 |ca {x y r a nm σ}:cH (.nd (.ca x y)) r a nm σ (.go (.nd x::.nd y::r) a nm σ [])
 |al {x y r a nm σ}:cH (.nd (.al x y)) r a nm σ (.go (.nd x::r) a nm σ [some ⟨.nd y::r,a,nm⟩])
 |rp {x r a nm σ}:cH (.nd (.rp x)) r a nm σ (.go r a nm σ [some ⟨.nd x::.er x a::r,a,nm⟩])
 |lt {x q r a nm σ}:cH (.nd (.lt x q)) r a nm σ (.go (.nd x::.el q a::r) a nm σ [])
 |nw {x q r a nm σ}:cH (.nd (.nw x q)) r a nm σ (.go (.nd x::.en q a::r) a nm σ [])
 |wW {r a nm σ}:a<s.length->cH (.nd .cu) r a nm σ (.go r a nm σ [some ⟨.nd .cu::r,a+1,nm⟩])
 |wX {r a nm σ}:¬ a<s.length->cH (.nd .cu) r a nm σ (.go r a nm σ [])
 |dT {r a nm σ}:cH (.nd .dT) r a nm σ (.go r a nm σ [none])
 |fail {r a nm σ}:cH (.nd .fail) r a nm σ .no
 |cur {q k r a nm σ}:kp q=some k->cH (.nd (.cur q)) r a nm σ (.go r a nm (iE σ k (.int a)) [])
 |dU {k t r a nm σ}:pS ((bz k σ.vals).getD (.str [])) t->cH (.nd (.dU k)) r a nm σ (.go (.nd (.sg (.ch t))::r) a nm σ [])
 |el {q b r a nm σ}:cH (.el q b) r a nm σ (.go r a (nm++[(q,(s.take a).drop b)]) σ [])
 |en {q b k r a nm σ}:kp q=some k->cH (.en q b) r a nm σ (.go r a nm (iE σ k (.str ((s.take a).drop b))) [])
 |yx {x r a nm σ}:cH (.er x a) r a nm σ .no
 |Kg {x b r a nm σ}:b≠a->cH (.er x b) r a nm σ (.go (.nd (.rp x)::r) a nm σ [])
inductive Tr:List Im->Nat->Nm->Hs->List (Option Wy)->Nat->Res->Hs->Nat->Prop where
 |met {a nm σ L k}:Tr [] a nm σ L k (.met a nm) σ k
 |go {i r a nm σ L k R τ k' c' a' fQ σ' ps}:cH kp s i r a nm σ (.go c' a' fQ σ' ps)->Tr c' a' fQ σ' (L++ps) (k+1) R τ k'->Tr (i::r) a nm σ L k R τ k'
 |pop {i r a nm σ L k R τ k' w}:cH kp s i r a nm σ .no->Tr w.c w.a w.nm σ L (k+1) R τ k'->Tr (i::r) a nm σ (L++[some w]) k R τ k'
 |cz {i r a nm σ k}:cH kp s i r a nm σ .no->Tr (i::r) a nm σ [] k .cz σ (k+1)
 |bi {i r a nm σ L k}:cH kp s i r a nm σ .no->Tr (i::r) a nm σ (L++[none]) k .bi σ (k+1)
end
section
variable {kp:Nat->Option (List Nat)}{s:List Nat}
theorem Tr.mono{c:List Im}{a:Nat}{nm:Nm}{σ τ:Hs}{L:List (Option Wy)}{k k':Nat}{R:Res}(T:Tr kp s c a nm σ L k R τ k'):k<=k':=by
  induction T with
 |met=>exact aE _
 |go _ _ ih=>exact lf ih
 |pop _ _ ih=>exact lf ih
 |_=>exact fA _
end
noncomputable def jv(es:List (List Nat×V)):List (List Nat):=es.map (·.1)
theorem Fb{α:Type}[DecidableEq α]:∀(l K:List α),l.Nodup->(∀ x∈l,x∈K)->l.length<=K.length
 |[],K,_,_=>cF _
 |a::r,K,hn,hs=>by
  obtain⟨h1,h2⟩:=gc.mp hn
  have ha:=hs a (.head _)
  have:=Fb r (K.erase a) h2 λx hx=>(List.mem_erase_of_ne (λe=>h1 (by rw[← e];exact hx))).mpr (hs x (.tail _ hx))
  rw[List.length_erase_of_mem ha] at this
  have hp:=List.length_pos_of_mem ha
  rw[c9];omega
theorem i6(k:List Nat)(v:V):∀ es:List (List Nat×V),jv (dF k v es)=if k∈jv es then jv es else jv es++[k]
 |[]=>rfl
 |(j,u)::r=>by
   rw[sd]
   cases h:j==k with
  |true=>
    cases beq_iff_eq.mp h
    rw[if_pos rfl]
    exact(if_pos (show k∈k::jv r from List.mem_cons_self ..)).symm
  |false=>
    have be:k≠j:=λe=>by rw[e,beq_self_eq_true] at h;cases h
    rw[if_neg (by decide)]
    show j::jv (dF k v r)=if k∈j::jv r then j::jv r else(j::jv r)++[k]
    rw[i6 k v r]
    by_cases hm:k∈jv r
    ·rw[if_pos hm,if_pos (.tail _ hm)]
    ·rw[if_neg hm,if_neg (λq=>(eC.mp q).elim be hm)];rfl
structure Kd(K:List (List Nat))(es:List (List Nat×V)):Prop where
 nd:(jv es).Nodup
 sub:∀ x∈jv es,x∈K
theorem Kd.put{K:List (List Nat)}{es:List (List Nat×V)}(h:Kd K es){k:List Nat}(hk:k∈K)(v:V):Kd K (dF k v es):=by
 by_cases hm:k∈jv es
 ·exact⟨by rw[i6,if_pos hm];exact h.nd,by rw[i6,if_pos hm];exact h.sub⟩
 ·refine⟨?_,?_⟩
  ·rw[i6,if_neg hm]
   exact za.mpr ⟨h.nd,gc.mpr ⟨List.not_mem_nil,.nil⟩,λa ha b hb e=>hm (by rw[db.mp hb] at e;exact e▸ha)⟩
  ·rw[i6,if_neg hm]
   exact λx hx=>(dh.mp hx).elim (h.sub x) λq=>by rw[db.mp q];exact hk
theorem Kd.len{K:List (List Nat)}{es:List (List Nat×V)}(h:Kd K es):es.length<=K.length:=by
 have:=Fb _ K h.nd h.sub
 rwa [jv,cn] at this
structure TS(kp:Nat->Option (List Nat))(H0:Hp)(p h va rf lg:Nat)(m:Int)(L:List V)(k:Nat)(σ:Hs)(H:Hp):Prop where
 len:H0.length<=H.length
 gp:H[p]?=some (.list L)
 host:H[h]?=some (cE (.loc va) (.loc rf) (.loc lg) m k)
 vals:H[va]?=some (.dict σ.vals)
 log:H[lg]?=some (.list σ.log)
 ref:H[rf]?=some (.list [])
 rk:∀ r key,kp r=some key->H[r]?=some (A0 key)
 off:∀ i,i<H0.length->i≠p->i≠h->i≠va->i≠lg->H[i]?=H0[i]?
 n1:p≠lg
 n2:rf≠p
 n3:rf≠lg
theorem aX{H:Hp}{i j:Nat}{x y:O}(h1:H[i]?=some x)(h2:H[j]?=some y)(h:x≠y):i≠j:=λe=>h (cj (h1.symm.trans (e▸h2)))
section
variable {kp:Nat->Option (List Nat)}{own:List FI}{d:Nat}{H H0:Hp}{p h va rf lg:Nat}{m:Int}{L:List V}{k:Nat}{σ:Hs}{s:List Nat}
theorem TS.m1(t:TS kp H0 p h va rf lg m L k σ H):p≠h:=aX t.gp t.host (λe=>by cases e)
theorem TS.m2(t:TS kp H0 p h va rf lg m L k σ H):p≠va:=aX t.gp t.vals (λe=>by cases e)
theorem TS.m3(t:TS kp H0 p h va rf lg m L k σ H):h≠va:=aX t.host t.vals (λe=>by cases e)
theorem TS.m4(t:TS kp H0 p h va rf lg m L k σ H):h≠lg:=aX t.host t.log (λe=>by cases e)
theorem TS.m5(t:TS kp H0 p h va rf lg m L k σ H):va≠lg:=aX t.vals t.log (λe=>by cases e)
theorem TS.m6(t:TS kp H0 p h va rf lg m L k σ H):rf≠h:=aX t.ref t.host (λe=>by cases e)
theorem TS.m7(t:TS kp H0 p h va rf lg m L k σ H):rf≠va:=aX t.ref t.vals (λe=>by cases e)
theorem TS.step(t:TS kp H0 p h va rf lg m L k σ H):TS kp H0 p h va rf lg m L (k+1) σ (H.set h (cE (.loc va) (.loc rf) (.loc lg) m (k+1))):=
 {t with
  len:=by rw[dt];exact t.len
  gp:=aa t.m1.symm t.gp,host:=au t.host,vals:=aa t.m3 t.vals,log:=aa t.m4 t.log,ref:=aa t.m6.symm t.ref
  rk:=λr key e=>aa (aX t.host (t.rk r key e) (λe=>by cases e)) (t.rk r key e)
  off:=λi h1 h2 h3 h4 h5=>aa h3.symm (t.off i h1 h2 h3 h4 h5) }
theorem TS.push(t:TS kp H0 p h va rf lg m L k σ H)(L':List V):TS kp H0 p h va rf lg m L' k σ (H.set p (.list L')):=
 {t with
  len:=by rw[dt];exact t.len
  gp:=au t.gp,host:=aa t.m1 t.host,vals:=aa t.m2 t.vals,log:=aa t.n1 t.log,ref:=aa t.n2.symm t.ref
  rk:=λr key e=>aa (aX t.gp (t.rk r key e) (λe=>by cases e)) (t.rk r key e)
  off:=λi h1 h2 h3 h4 h5=>aa h2.symm (t.off i h1 h2 h3 h4 h5) }
theorem TS.asg(t:TS kp H0 p h va rf lg m L k σ H)(key:List Nat)(v:V):TS kp H0 p h va rf lg m L k (iE σ key v) ((H.set va (.dict (dF key v σ.vals))).set lg (.list (σ.log++[.tup [.str key,v]]))):=
 {t with
  len:=by rw[dt,dt];exact t.len
  gp:=aa t.n1.symm (aa t.m2.symm t.gp),host:=aa t.m4.symm (aa t.m3.symm t.host),vals:=aa t.m5.symm (au t.vals),log:=au (aa t.m5 t.log),ref:=aa t.n3.symm (aa t.m7.symm t.ref)
  rk:=λr key e=>aa (aX t.log (t.rk r key e) (λe=>by cases e)) (aa (aX t.vals (t.rk r key e) (λe=>by cases e)) (t.rk r key e))
  off:=λi h1 h2 h3 h4 h5=>aa h5.symm (aa h4.symm (t.off i h1 h2 h3 h4 h5)) }
theorem dK{α β:Type}(f:α->β)(l:List α)(x:α):(l++[x]).map f=l.map f++[f x]:=by rw[dE];rfl
theorem Kh(nm:Nm):(j9 nm).length=nm.length:=cn ..
noncomputable def Ug(A:mu):V:=match A with
 |.go c a nm _ _=>.tup [cV c,.int a,.tup (j9 nm)]
 |.no=>.none
noncomputable def Fc(A:mu)(L:List V):List V:=match A with
 |.go _ _ _ _ ps=>L++ps.map wV
 |.no=>L
noncomputable def Uh(A:mu)(σ:Hs):Hs:=match A with
 |.go _ _ _ σ' _=>σ'
 |.no=>σ
structure Lm(L:List V)(nm:Nm)(σ:Hs):Prop where
 l:L.length<lim
 n:nm.length+1<=lim
 v:σ.vals.length<1024
 g:σ.log.length<lim
inductive Ui(own:List FI)(d:Nat)(kp:Nat->Option (List Nat))(s:List Nat)(H0:Hp)(p h va rf lg:Nat)(m:Int)(L:List V)(k:Nat)(σ:Hs)(H:Hp)(i:Im)(r:List Im)(a:Nat)(nm:Nm)(A:mu):Prop where
 |mk (H':Hp) (e:ae (ar own) (d+6) 67 [.tup [iV i,cV r],.int a,.tup (j9 nm),.str s,.loc p,.loc h] H=some (Ug A,H')) (t:TS kp H0 p h va rf lg m (Fc A L) k (Uh A σ) H'):Ui own d kp s H0 p h va rf lg m L k σ H i r a nm A
theorem TS.same(t:TS kp H0 p h va rf lg m L k σ H):TS kp H0 p h va rf lg m (L++([]:List (Option Wy)).map wV) k σ H:=by rw[sN,eU];exact t
theorem TS.kH(t:TS kp H0 p h va rf lg m L k σ H)(J6:σ.vals.length<1024)(J7:σ.log.length<lim){q:Nat}{key:List Nat}(hk:kp q=some key)(v:V)(d:Nat):ae (ar own) (d+1) 62 [.loc h,.loc q,v] H=some (.bool true,(H.set va (.dict (dF key v σ.vals))).set lg (.list (σ.log++[.tup [.str key,v]]))):=
 uy t.host (t.rk q key hk) t.ref t.vals J6 t.log J7 t.m3.symm (aX t.vals (t.rk q key hk) (λe=>by cases e)) t.m5
theorem su(hs:s.length<1048576){i:Im}{r:List Im}{a:Nat}{nm:Nm}{A:mu}(X:cH kp s i r a nm σ A)(t:TS kp H0 p h va rf lg m L k σ H)(b:Lm L nm σ):Ui own d kp s H0 p h va rf lg m L k σ H i r a nm A:=by
  induction X with
 |Kf e=>exact⟨H,Fa (J8 hs e),t.same⟩
 |A2 e=>exact⟨H,Fa (J9 hs e),t⟩
 |ca=>exact⟨H,JY,t.same⟩
 |al=>exact⟨_,J0 t.gp b.l,t.push _⟩
 |rp=>exact⟨_,Nh t.gp b.l,t.push _⟩
 |lt=>exact⟨H,Df,t.same⟩
 |nw=>exact⟨H,Ka,t.same⟩
 |wW e=>exact⟨_,A1 (yv t.gp b.l e),t.push _⟩
 |wX e=>exact⟨H,A1 (yw e),t.same⟩
 |dT=>exact⟨_,Kb t.gp b.l,t.push _⟩
 |fail=>exact⟨H,Hr,t⟩
 |cur e=>exact⟨_,Kc (t.kH b.v b.g e _ _) ⟨_,t.host⟩,(t.asg _ _).same⟩
 |dU e=>exact⟨H,Ke (wT t.host t.vals) e ⟨_,t.host⟩,t.same⟩
 |el=>exact⟨H,(Ho (by rw[Kh];exact b.n)).trans (by show _=some (V.tup [_,_,.tup (j9 _)],H);rw[j9,j9,dK]),t.same⟩
 |en e=>exact⟨_,Ni (t.kH b.v b.g e _ _) ⟨_,t.host⟩,(t.asg _ _).same⟩
 |yx=>exact⟨H,Ht,t⟩
 |Kg e=>exact⟨H,Hu e,t.same⟩
noncomputable def tO:ME:=(.cmp .gt (.prim .len [(.loc 4)]) (.lit (.int 0)))
noncomputable def bO:List MS:=[(.asg (.loc 5) (.ba (.loc 4) .pop [])),(.aB (.cmp .is (.loc 5) (.lit .none)) [(.ret (.glob (.str [108,111,115,116])))] []),(.asg (.tup [(.loc 6),(.loc 7),(.loc 8)]) (.loc 5)),(.lM (.cmp .fB (.loc 6) (.lit .none)) [(.expr (.bm (.loc 3) 118 [])),(.asg (.loc 5) (.call (.glob (.fn 67)) [(.loc 6),(.loc 7),(.loc 8),(.loc 1),(.loc 4),(.loc 3)])),(.aB (.cmp .is (.loc 5) (.lit .none)) [.brk] []),(.aB (.cmp .eq (.loc 5) (.glob (.str [108,111,115,116]))) [(.ret (.glob (.str [108,111,115,116])))] []),(.asg (.tup [(.loc 6),(.loc 7),(.loc 8)]) (.loc 5))]),(.aB (.cmp .is (.loc 6) (.lit .none)) [(.ret (.tup [(.loc 7),(.prim .list [(.loc 8)])]))] [])]
noncomputable def tI:ME:=(.cmp .fB (.loc 6) (.lit .none))
noncomputable def bI:List MS:=[(.expr (.bm (.loc 3) 118 [])),(.asg (.loc 5) (.call (.glob (.fn 67)) [(.loc 6),(.loc 7),(.loc 8),(.loc 1),(.loc 4),(.loc 3)])),(.aB (.cmp .is (.loc 5) (.lit .none)) [.brk] []),(.aB (.cmp .eq (.loc 5) (.glob (.str [108,111,115,116]))) [(.ret (.glob (.str [108,111,115,116])))] []),(.asg (.tup [(.loc 6),(.loc 7),(.loc 8)]) (.loc 5))]
noncomputable def bF:List MS:=[(.aB (.cmp .is (.loc 6) (.lit .none)) [(.ret (.tup [(.loc 7),(.prim .list [(.loc 8)])]))] [])]
noncomputable def nO(g:Lo->Hp->SR)(x:SR):SR:=match x with
 |some (Fl.next,l,H)=>g l H
 |some (Fl.cont,l,H)=>g l H
 |some (Fl.brk,l,H)=>some (Fl.next,l,H)
 |some (Fl.ret v,l,H)=>some (Fl.ret v,l,H)
 |none=>none
theorem Ki{tv:Lo->Hp->Option (V×Hp)}{bd:Lo->Hp->SR}{n:Nat}{l:Lo}{H H1:Hp}(h1:tv l H=some (.bool true,H1)):dG tv bd (n+1) l H=nO (dG tv bd n) (bd l H1):=by
 rw[mM,aI h1];rfl
noncomputable def A3(g:Lo->Hp->SR)(x:SR):SR:=match x with|some (Fl.next,l,H)=>g l H|x=>x
noncomputable abbrev tl(nd bg:V)(s:List Nat)(h p:Nat)(w:Option V)(c a nm:V):Lo:=[some nd,some (.str s),some bg,some (.loc h),some (.loc p),w,some c,some a,some nm]
theorem Kj{nd bg i r a nm c' a' n':V}{w:Option V}{va rf lg:V}{k:Int}{H2:Hp}(hh:H[h]?=some (cE va rf lg m k))(hk:k<m)(ha:ae (ar own) (d+6) 67 [.tup [i,r],a,nm,.str s,.loc p,.loc h] (H.set h (cE va rf lg m (k+1)))=some (.tup [c',a',n'],H2)) :
  aS (ar own) (ae (ar own) (d+6)) bI (tl nd bg s h p w (.tup [i,r]) a nm) H=some (.next,tl nd bg s h p (some (.tup [c',a',n'])) c' a' n',H2):=
 ah (i5 (aP rfl hh rfl rfl bA (pR hh hk))) (bk (az rfl ha) rfl)
theorem Nj{nd bg i r a nm:V}{w:Option V}{va rf lg:V}{k:Int}{H2:Hp}(hh:H[h]?=some (cE va rf lg m k))(hk:k<m)(ha:ae (ar own) (d+6) 67 [.tup [i,r],a,nm,.str s,.loc p,.loc h] (H.set h (cE va rf lg m (k+1)))=some (.none,H2)) :
  aS (ar own) (ae (ar own) (d+6)) bI (tl nd bg s h p w (.tup [i,r]) a nm) H=some (.brk,tl nd bg s h p (some .none) (.tup [i,r]) a nm,H2):=
 ah (i5 (aP rfl hh rfl rfl bA (pR hh hk))) (bk (az rfl ha) (wQ (cf rfl (wQ M1))))
theorem A4{nd bg:V}{w x y z:Option V}{c a nm:V}(hp:H[p]?=some (.list (L++[.tup [c,a,nm]]))) :
  aS (ar own) (ae (ar own) (d+6)) bO [some nd,some (.str s),some bg,some (.loc h),some (.loc p),w,x,y,z] H=A3 (aS (ar own) (ae (ar own) (d+6)) bF) (dG (av (ar own) (ae (ar own) (d+6)) tI) (aS (ar own) (ae (ar own) (d+6)) bI) 1048576 (tl nd bg s h p (some (.tup [c,a,nm])) c a nm) (H.set p (.list L))):=
 ah (aT (de rfl (bb hp rfl) bA (kO hp)) ef) rfl
theorem Hv{nd bg:V}{w x y z:Option V}(hp:H[p]?=some (.list (L++[.none]))) :
  aS (ar own) (ae (ar own) (d+6)) bO [some nd,some (.str s),some bg,some (.loc h),some (.loc p),w,x,y,z] H=some (.ret (.str [108,111,115,116]),[some nd,some (.str s),some bg,some (.loc h),some (.loc p),some .none,x,y,z],H.set p (.list L)):=
 ah (aT (de rfl (bb hp rfl) bA (kO hp)) ef) rfl
theorem RA{nd bg:V}{w:Option V}{a:V}{nm:List V} :
  aS (ar own) (ae (ar own) (d+6)) bF (tl nd bg s h p w .none a (.tup nm)) H=some (.ret (.tup [a,.loc H.length]),tl nd bg s h p w .none a (.tup nm),H++[.list nm]):=
 gm rfl
theorem RB{nd bg:V}{w:Option V}{a nm i r:V} :
 aS (ar own) (ae (ar own) (d+6)) bF (tl nd bg s h p w (.tup [i,r]) a nm) H=some (.next,tl nd bg s h p w (.tup [i,r]) a nm,H):=by kernel_rfl
theorem Kk{nd bg:V}{w x y z:Option V}{v:V}(hp:H[p]?=some (.list (L++[v]))):av (ar own) (ae (ar own) (d+6)) tO [some nd,some (.str s),some bg,some (.loc h),some (.loc p),w,x,y,z] H=some (.bool true,H):=
 ax (bl rfl (dN hp)) ak (e6 (by rw[aK];exact q9.mpr (nE _)))
theorem Uj{nd bg:V}{w x y z:Option V}(hp:H[p]?=some (.list [])):av (ar own) (ae (ar own) (d+6)) tO [some nd,some (.str s),some bg,some (.loc h),some (.loc p),w,x,y,z] H=some (.bool false,H):=
 ax (bl rfl (dN hp)) ak (by rfl)
theorem OO{nd bg:V}{w:Option V}{a nm i r:V}:av (ar own) (ae (ar own) (d+6)) tI (tl nd bg s h p w (.tup [i,r]) a nm) H=some (.bool true,H):=by kernel_rfl
theorem Uk{nd bg:V}{w:Option V}{a nm:V}:av (ar own) (ae (ar own) (d+6)) tI (tl nd bg s h p w .none a nm) H=some (.bool false,H):=by kernel_rfl
noncomputable def Ul(R:Res)(l:Lo)(H:Hp):SR:=match R with
 |.met a nm=>some (.ret (.tup [.int a,.loc H.length]),l,H++[.list (j9 nm)])
 |.cz=>some (.next,l,H)
 |.bi=>some (.ret (.str [108,111,115,116]),l,H)
noncomputable def XX(own:List FI)(d f F:Nat)(l:Lo)(H:Hp):SR:=nO (dG (av (ar own) (ae (ar own) (d+6)) tO) (aS (ar own) (ae (ar own) (d+6)) bO) F) (A3 (aS (ar own) (ae (ar own) (d+6)) bF) (dG (av (ar own) (ae (ar own) (d+6)) tI) (aS (ar own) (ae (ar own) (d+6)) bI) f l H))
theorem Kl{f F:Nat}{nd bg i r a nm c' a' n':V}{w:Option V}{H2:Hp}(t:TS kp H0 p h va rf lg m L k σ H)(hk:(k:Int)<m)(ha:ae (ar own) (d+6) 67 [.tup [i,r],a,nm,.str s,.loc p,.loc h] (H.set h (cE (.loc va) (.loc rf) (.loc lg) m (k+1)))=some (.tup [c',a',n'],H2)) :
  XX own d (f+1) F (tl nd bg s h p w (.tup [i,r]) a nm) H=XX own d f F (tl nd bg s h p (some (.tup [c',a',n'])) c' a' n') H2:=
 congrArg (λz=>nO _ (A3 _ z)) (hZ OO (Kj t.host hk ha) rfl)
theorem yy{f F:Nat}{nd bg i r a nm:V}{w:Option V}{H2:Hp}(t:TS kp H0 p h va rf lg m L k σ H)(hk:(k:Int)<m)(ha:ae (ar own) (d+6) 67 [.tup [i,r],a,nm,.str s,.loc p,.loc h] (H.set h (cE (.loc va) (.loc rf) (.loc lg) m (k+1)))=some (.none,H2)) :
  XX own d (f+1) F (tl nd bg s h p w (.tup [i,r]) a nm) H=dG (av (ar own) (ae (ar own) (d+6)) tO) (aS (ar own) (ae (ar own) (d+6)) bO) F (tl nd bg s h p (some .none) (.tup [i,r]) a nm) H2:=by
 refine(congrArg (λz=>nO _ (A3 _ z)) (M4 OO (Nj t.host hk ha))).trans ?_
 exact congrArg (nO _) (RB (own:=own) (d:=d))
structure Nu(m:Int)(k k' f F:Nat):Prop where
 le:(k':Int)<=m
 f:k'<k+f
 F:k'<k+F
theorem Nu.step{m:Int}{k k' f F:Nat}(n:Nu m k k' f F)(h:k+1<=k'):∃ g,f=g+1/\(k:Int)<m/\Nu m (k+1) k' g F:=by
 obtain⟨a,b,c⟩:=n
 exact⟨f-1,by omega,by omega,a,by omega,by exact nl (aj [_,_,_] (.d (.s ab) (.a af aq) (.d (.a (.s af) aq) ab .z)) rfl c)⟩
theorem Nu.pop{m:Int}{k k' f F:Nat}(n:Nu m k k' f F)(h:k+1<=k')(hm:m<100000):∃ g G,f=g+1/\F=G+1/\(k:Int)<m/\Nu m (k+1) k' 1048576 G:=by
 obtain⟨a,b,c⟩:=n
 exact⟨f-1,F-1,by omega,by omega,by omega,a,by omega,by omega⟩
structure Bd(K:List (List Nat))(j k:Nat)(L:List (Option Wy))(nm:Nm)(σ:Hs):Prop where
 l:L.length<=k
 n:nm.length<=k
 w:∀ w∈L,∀ z,w=some z->z.nm.length<=k
 g:σ.log.length<=j+k
 v:Kd K σ.vals
section
variable {K:List (List Nat)}{j:Nat}{L:List (Option Wy)}{nm:Nm}{w:Wy}
theorem Bd.pop(b:Bd K j k (L++[some w]) nm σ):Bd K j (k+1) L w.nm σ:=
 ⟨eD (bv (by rw[aK];exact dq ..) b.l),eD (b.w _ (lK _ (.head _)) w rfl),λw h z e=>eD (b.w w (iS _ h) z e),eD b.g,b.v⟩
theorem Bd.nil(b:Bd K j k L nm σ):Bd K j (k+1) (L++[]) nm σ:=by rw[eU];exact⟨eD b.l,eD b.n,λw h z e=>eD (b.w w h z e),eD b.g,b.v⟩
theorem Bd.one(b:Bd K j k L nm σ){x:Option Wy}(hx:∀ z,x=some z->z.nm=nm):Bd K j (k+1) (L++[x]) nm σ:=
 ⟨by rw[aK];exact lG b.l,eD b.n,λw h z e=>(dh.mp h).elim (λh=>eD (b.w w h z e)) (λh=>by rw[hx z ((db.mp h).symm.trans e)];exact eD b.n),eD b.g,b.v⟩
theorem kc(σ:Hs)(key:List Nat)(v:V):(iE σ key v).log.length=σ.log.length+1:=by show(σ.log++_).length=_;rw[aK];rfl
theorem Bd.asg(b:Bd K j k L nm σ){key:List Nat}{v:V}(e:key∈K):Bd K j (k+1) (L++[]) nm (iE σ key v):=
 ⟨b.nil.l,b.nil.n,b.nil.w,by rw[kc];exact lG b.g,b.v.put e v⟩
noncomputable def Ww(K:List (List Nat))(j k:Nat)(L:List (Option Wy)):mu->Prop
 |.go _ _ nm σ ps=>Bd K j k (L++ps) nm σ
 |.no=>True
theorem Bd.Wx(hK:∀ q key,kp q=some key->key∈K){i:Im}{r:List Im}{a:Nat}{A:mu}(X:cH kp s i r a nm σ A):Bd K j k L nm σ->Ww K j (k+1) L A:=by
  induction X with
 |al=>exact λb=>b.one λz e=>by cases e;rfl
 |rp=>exact λb=>b.one λz e=>by cases e;rfl
 |wW=>exact λb=>b.one λz e=>by cases e;rfl
 |dT=>exact λb=>b.one λz e=>by cases e
 |cur e=>exact λb=>b.asg (hK _ _ e)
 |en e=>exact λb=>b.asg (hK _ _ e)
 |el=>exact λb=>⟨b.nil.l,by rw[aK];exact lG b.n,b.nil.w,b.nil.g,b.nil.v⟩
 |A2=>exact λ_=>trivial
 |fail=>exact λ_=>trivial
 |yx=>exact λ_=>trivial
 |_=>exact Bd.nil
theorem Bd.go(hK:∀ q key,kp q=some key->key∈K)(b:Bd K j k L nm σ){i:Im}{r c':List Im}{a a':Nat}{fQ:Nm}{σ':Hs}{ps:List (Option Wy)}(X:cH kp s i r a nm σ (.go c' a' fQ σ' ps)):Bd K j (k+1) (L++ps) fQ σ':=Bd.Wx hK X b
theorem Bd.lm(b:Bd K j k L nm σ)(hk:(k:Int)<m)(hm:m<100000)(hj:j<=100000)(hK:K.length<1024):Lm (L.map wV) nm σ:=by
 have h1:=b.l
 have h2:=b.n
 have h3:=b.g
 exact⟨by rw[cn];unfold lim;omega,by unfold lim;omega,jM b.v.len hK,by unfold lim;omega⟩
end
inductive Km(x:SR)(R:Res)(kp:Nat->Option (List Nat))(H0:Hp)(p h va rf lg:Nat)(m:Int)(τ:Hs)(k':Nat):Prop where
 |mk (l':Lo) (H':Hp) (e:x=Ul R l' H') (L':List V) (t:TS kp H0 p h va rf lg m L' k' τ H'):Km x R kp H0 p h va rf lg m τ k'
noncomputable def Um(own:List FI)(d:Nat)(kp:Nat->Option (List Nat))(s:List Nat)(K:List (List Nat))(j:Nat)(H0:Hp)(p h va rf lg:Nat)(m:Int)(c:List Im)(a:Nat)(nm:Nm)(σ:Hs)(L:List (Option Wy))(k:Nat)(R:Res)(τ:Hs)(k':Nat):Prop:=
 ∀⦃H:Hp⦄⦃nd bg:V⦄⦃w:Option V⦄⦃f F:Nat⦄,TS kp H0 p h va rf lg m (L.map wV) k σ H->Nu m k k' f F->Bd K j k L nm σ->Km (XX own d f F (tl nd bg s h p w (cV c) (.int a) (.tup (j9 nm))) H) R kp H0 p h va rf lg m τ k'
theorem Nl(hs:s.length<1048576){K:List (List Nat)}{j:Nat}(hj:j<=100000)(hK:∀ q key,kp q=some key->key∈K)(Nn:K.length<1024)(hm:m<100000){c:List Im}{a:Nat}{nm:Nm}{L:List (Option Wy)}{R:Res}{τ:Hs}{k':Nat}(T:Tr kp s c a nm σ L k R τ k'):Um own d kp s K j H0 p h va rf lg m c a nm σ L k R τ k':=by
  induction T with
 |met=>
   intro H nd bg w f F t n b
   obtain⟨f,rfl⟩:∃ g,f=g+1:=Nat.exists_eq_add_one.mpr (by have:=n.f;exact nl (aj [_,_] (.d (.s ab) (.a ab af) (.d af (.n 0) .z)) rfl this))
   exact⟨_,H,(congrArg (λz=>nO _ (A3 _ z)) (iJ Uk)).trans (congrArg (nO _) (RA (own:=own) (d:=d))),_,t⟩
 |go X T ih=>
   intro H nd bg w f F t n b
   obtain⟨f,rfl,hk,n⟩:=n.step T.mono
   obtain⟨H1,e1,t1⟩:=su (own:=own) (d:=d) hs X t.step (b.lm hk hm hj Nn)
   have t1:=t1
   rw[show Fc _ _=List.map wV _++List.map wV _ from rfl,← dE] at t1
   obtain⟨l',H',e,L',q⟩:=ih t1 n (b.go hK X)
   exact⟨l',H',(Kl t hk e1).trans e,L',q⟩
 |@pop i r a nm σ L k R τ k' w0 X T ih=>
   intro H nd bg w f F t n b
   obtain⟨f,F,rfl,rfl,hk,n⟩:=n.pop T.mono hm
   obtain⟨H1,e1,t1⟩:=su (own:=own) (d:=d) hs X t.step (b.lm hk hm hj Nn)
   rw[show Fc .no (List.map wV (L++[some w0]))=_ from dK ..] at t1
   obtain⟨l',H',e,L',q⟩:=ih (t1.push (L.map wV)) n b.pop
   exact⟨l',H',(yy t hk e1).trans ((Ki (Kk t1.gp)).trans ((congrArg (nO _) (A4 t1.gp)).trans e)),L',q⟩
 |cz X=>
   intro H nd bg w f F t n b
   obtain⟨f,F,rfl,rfl,hk,n⟩:=n.pop (aE _) hm
   obtain⟨H1,e1,t1⟩:=su (own:=own) (d:=d) hs X t.step (b.lm hk hm hj Nn)
   exact⟨_,_,(yy t hk e1).trans (iJ (Uj t1.gp)),_,t1⟩
 |@bi i r a nm σ L k X=>
   intro H nd bg w f F t n b
   obtain⟨f,F,rfl,rfl,hk,n⟩:=n.pop (aE _) hm
   obtain⟨H1,e1,t1⟩:=su (own:=own) (d:=d) hs X t.step (b.lm hk hm hj Nn)
   rw[show Fc .no (List.map wV (L++[none]))=_ from dK ..] at t1
   exact⟨_,_,(yy t hk e1).trans ((Ki (Kk t1.gp)).trans (congrArg (nO _) (Hv t1.gp))),_,t1.push _⟩
end
structure HX(kp:Nat->Option (List Nat))(h va rf lg:Nat)(m:Int)(k:Nat)(σ:Hs)(H:Hp):Prop where
 host:H[h]?=some (cE (.loc va) (.loc rf) (.loc lg) m k)
 vals:H[va]?=some (.dict σ.vals)
 log:H[lg]?=some (.list σ.log)
 ref:H[rf]?=some (.list [])
 rk:∀ r key,kp r=some key->H[r]?=some (A0 key)
 n3:rf≠lg
structure HO(h va lg:Nat)(H H':Hp):Prop where
 len:H.length<=H'.length
 off:∀ i,i<H.length->i≠h->i≠va->i≠lg->H'[i]?=H[i]?
theorem HO.refl{h va lg:Nat}(H:Hp):HO h va lg H H:=⟨aE _,λ_ _ _ _ _=>rfl⟩
theorem HO.trans{h va lg:Nat}{H H1 H2:Hp}(a:HO h va lg H H1)(b:HO h va lg H1 H2):HO h va lg H H2:=
 ⟨bv a.len b.len,λi h1 h2 h3 h4=>(b.off i (d8 h1 a.len) h2 h3 h4).trans (a.off i h1 h2 h3 h4)⟩
theorem HO.app{h va lg:Nat}{H:Hp}(l:Hp):HO h va lg H (H++l):=⟨by rw[aK];exact dq ..,λi h1 _ _ _=>dB h1⟩
theorem HX.app{kp:Nat->Option (List Nat)}{h va rf lg:Nat}{m:Int}{k:Nat}{σ:Hs}{H:Hp}(x:HX kp h va rf lg m k σ H)(l:Hp):HX kp h va rf lg m k σ (H++l):=
 ⟨ag x.host,ag x.vals,ag x.log,ag x.ref,λr key e=>ag (x.rk r key e),x.n3⟩
section
variable {kp:Nat->Option (List Nat)}{s:List Nat}{σ τ:Hs}{k k':Nat}
noncomputable def Wz(σ:Hs):mu->Prop
 |.go _ _ _ σ' _=>σ'.log.length<=σ.log.length+1
 |.no=>True
noncomputable def WA(K:List (List Nat))(σ:Hs):mu->Prop
 |.go _ _ _ σ' _=>Kd K σ.vals->Kd K σ'.vals
 |.no=>True
theorem cH.gr{i:Im}{r:List Im}{a:Nat}{nm:Nm}{A:mu}(X:cH kp s i r a nm σ A):Wz σ A:=by
  induction X with
 |cur=>exact bx (kc ..)
 |en=>exact bx (kc ..)
 |A2=>trivial
 |fail=>trivial
 |yx=>trivial
 |_=>exact fA _
theorem cH.WB{K:List (List Nat)}(hK:∀ q key,kp q=some key->key∈K){i:Im}{r:List Im}{a:Nat}{nm:Nm}{A:mu}(X:cH kp s i r a nm σ A):WA K σ A:=by
  induction X with
 |cur e=>exact λh=>h.put (hK _ _ e) _
 |en e=>exact λh=>h.put (hK _ _ e) _
 |A2=>trivial
 |fail=>trivial
 |yx=>trivial
 |_=>exact id
theorem cH.grow{i:Im}{r c':List Im}{a a':Nat}{nm fQ:Nm}{σ':Hs}{ps:List (Option Wy)}(X:cH kp s i r a nm σ (.go c' a' fQ σ' ps)):σ'.log.length<=σ.log.length+1:=X.gr
theorem cH.kd{K:List (List Nat)}(hK:∀ q key,kp q=some key->key∈K){i:Im}{r c':List Im}{a a':Nat}{nm fQ:Nm}{σ':Hs}{ps:List (Option Wy)}(X:cH kp s i r a nm σ (.go c' a' fQ σ' ps))(h:Kd K σ.vals):Kd K σ'.vals:=X.WB hK h
theorem Tr.grow{c:List Im}{a:Nat}{nm:Nm}{L:List (Option Wy)}{R:Res}(T:Tr kp s c a nm σ L k R τ k'):τ.log.length+k<=σ.log.length+k':=by
  induction T with
 |met=>exact aE _
 |go X T ih=>have:=X.grow;exact nt (aj [_,_,_,_,_] (.d (.a ab (.s af)) (.a aq aA) (.d aq (.s bU) (.d (.s (.a bU aA)) (.a ab af) .z))) rfl ih this)
 |pop X T ih=>exact nt (aj [_,_,_,_] (.d (.a ab (.s af)) (.a aq aA) (.d (.s (.a aq aA)) (.a ab af) .z)) rfl ih)
 |_=>exact nt (aj [_,_] (.d (.s (.a ab (.s af))) (.a ab af) .z) rfl)
theorem Tr.kd{K:List (List Nat)}(hK:∀ q key,kp q=some key->key∈K){c:List Im}{a:Nat}{nm:Nm}{L:List (Option Wy)}{R:Res}(T:Tr kp s c a nm σ L k R τ k'):Kd K σ.vals->Kd K τ.vals:=by
  induction T with
 |go X T ih=>exact λh=>ih (X.kd hK h)
 |pop X T ih=>exact ih
 |_=>exact id
end
noncomputable def Rt(H:Hp)(R:Res)(v:V):Prop:=match R with
 |.met a nm=>∃ j,v=.tup [.int a,.loc j]/\H[j]?=some (.list (j9 nm))
 |.cz=>v=.none
 |.bi=>v=.str [108,111,115,116]
noncomputable def Rb(H:Hp)(b:Nat)(R:Res)(v:V):Prop:=match R with
 |.met a nm=>∃ j,v=.tup [.int b,.int a,.loc j]/\H[j]?=some (.list (j9 nm))
 |.cz=>v=.none
 |.bi=>v=.str [108,111,115,116]
noncomputable def R3(lo:Nat)(H:Hp)(R:Option (Nat×Nat×Nm))(v:V):Prop:=match R with
 |none=>v=.none
 |some (b,a,nm)=>∃ j,v=.tup [.int b,.int a,.loc j]/\H[j]?=some (.list (j9 nm))/\lo<=j
theorem R3.mono{lo uz:Nat}{H:Hp}{R:Option (Nat×Nat×Nm)}{v:V}(h:R3 lo H R v)(le:uz<=lo):R3 uz H R v:=by
  induction R with
 |none=>exact h
 |some z=>obtain⟨j,h1,h2,h3⟩:=h;exact⟨j,h1,h2,bv le h3⟩
inductive Ca(P:Pg)(d f:Nat)(vs:List V)(H:Hp)(kp:Nat->Option (List Nat))(h va rf lg:Nat)(m:Int)(k':Nat)(τ:Hs)(Rel:Hp->V->Prop):Prop where
 |mk (v:V) (H':Hp) (e:ae P d f vs H=some (v,H')) (x:HX kp h va rf lg m k' τ H') (o:HO h va lg H H') (r:Rel H' v):Ca P d f vs H kp h va rf lg m k' τ Rel
structure Gx(kp:Nat->Option (List Nat))(K:List (List Nat))(s:List Nat)(m:Int)(j:Nat):Prop where
 hK:∀ q key,kp q=some key->key∈K
 kl:K.length<1024
 hm:m<100000
 hj:j<=100000
 hs:s.length<1000
section
variable {kp:Nat->Option (List Nat)}{K:List (List Nat)}{s:List Nat}{own:List FI}{d:Nat}{H:Hp}{h va rf lg:Nat}{m:Int}{k k' j:Nat}{σ τ:Hs}{n:Nd}{a:Nat}{R:Res}
theorem Hw(g:Gx kp K s m j)(x:HX kp h va rf lg m k σ H)(T:Tr kp s [.nd n] a [] σ [] k R τ k')(hk:(k':Int)<=m)(hl:σ.log.length<=j+k)(hv:Kd K σ.vals):Ca (ar own) (d+7) 66 [nV n,.str s,.int a,.loc h] H kp h va rf lg m k' τ (λH' v=>Rt H' R v):=by
  have hm:=g.hm
  have jJ:=T.mono
  let w0:Wy:=⟨[.nd n],a,[]⟩
  have t0:TS kp H H.length h va rf lg m (([]:List (Option Wy)).map wV) k σ ((H++[O.list [wV (some w0)]]).set H.length (O.list [])):=
   {len:=by rw[dt,aK];exact dq ..
    gp:=au am,host:=aa (aH x.host) (ag x.host),vals:=aa (aH x.vals) (ag x.vals),log:=aa (aH x.log) (ag x.log),ref:=aa (aH x.ref) (ag x.ref)
    rk:=λr key e=>aa (aH (x.rk r key e)) (ag (x.rk r key e))
    off:=λi h1 _ _ _ _=>(iQ (dp h1)).trans (dB h1)
    n1:=aH x.log,n2:=aG x.ref,n3:=x.n3 }
  obtain⟨l',H',e,L',t⟩:=Nl (own:=own) (d:=d) (K:=K) (j:=j) (nB g.hs (by decide)) g.hj g.hK g.kl hm T (nd:=nV n) (bg:=.int a) (w:=some (wV (some w0))) (f:=1048576) (F:=1048575) t0 ⟨hk,by omega,by omega⟩ ⟨cF _,cF _,(λw h=>nomatch h),hl,hv⟩
  replace e:=(Ki (n:=1048575) (Kk (own:=own) (d:=d) (L:=[]) (nd:=nV n) (bg:=.int a) (s:=s) (h:=h) (w:=none) (x:=none) (y:=none) (z:=none) (v:=wV (some w0)) (am (H:=H)))).trans ((congrArg (nO _) (A4 (L:=[]) am)).trans e)
  have hx:HX kp h va rf lg m k' τ H':=⟨t.host,t.vals,t.log,t.ref,t.rk,t.n3⟩
  have ho:HO h va lg H H':=⟨t.len,λi h1 h2 h3 h4=>t.off i h1 (d9 h1) h2 h3 h4⟩
  induction R with
 |cz=>exact⟨_,_,ac rfl rfl (bk (bq rfl) (ah (fN e) rfl)),hx,ho,rfl⟩
 |bi=>exact⟨_,_,ac rfl rfl (bk (bq rfl) (gm (fN e))),hx,ho,rfl⟩
 |met b nm=>exact⟨_,_,ac rfl rfl (bk (bq rfl) (gm (fN e))),hx.app _,ho.trans (.app _),_,rfl,am⟩
theorem kQ(g:Gx kp K s m j)(x:HX kp h va rf lg m k σ H)(T:Tr kp s [.nd n] a [] σ [] k R τ k')(hk:(k':Int)<=m)(hl:σ.log.length<=j+k)(hv:Kd K σ.vals):Ca (ar own) (d+8) 65 [nV n,.str s,.int a,.loc h] H kp h va rf lg m k' τ (λH' v=>Rb H' a R v):=by
  obtain⟨v,H',e,hx,ho,r⟩:=Hw (own:=own) (d:=d) g x T hk hl hv
  induction R with
 |cz=>
   cases r
   exact⟨_,H',ac rfl rfl (bk (az rfl e) rfl),hx,ho,rfl⟩
 |bi=>
   cases r
   exact⟨_,H',ac rfl rfl (bk (az rfl e) rfl),hx,ho,rfl⟩
 |met b nm=>
   obtain⟨j,rfl,r⟩:=r
   exact⟨_,H',ac rfl rfl (bk (az rfl e) rfl),hx,ho,j,rfl,r⟩
inductive Mp(kp:Nat->Option (List Nat))(s:List Nat)(n:Nd):Nat->Nat->Hs->Nat->Option (Nat×Nat×Nm)->Hs->Nat->Prop where
 |z {b σ k}:Mp kp s n 0 b σ k none σ k
 |met {c b σ k a nm τ k'}:Tr kp s [.nd n] b [] σ [] k (.met a nm) τ k'->Mp kp s n (c+1) b σ k (some (b,a,nm)) τ k'
 |bi {c b σ k τ k'}:Tr kp s [.nd n] b [] σ [] k .bi τ k'->Mp kp s n (c+1) b σ k none τ k'
 |cz {c b σ k τ k1 R υ k'}:Tr kp s [.nd n] b [] σ [] k .cz τ k1->Mp kp s n c (b+1) τ k1 R υ k'->Mp kp s n (c+1) b σ k R υ k'
theorem Mp.mono{c b:Nat}{R:Option (Nat×Nat×Nm)}(T:Mp kp s n c b σ k R τ k'):k<=k':=by
  induction T with
 |z=>exact aE _
 |met T=>exact T.mono
 |bi T=>exact T.mono
 |cz T _ ih=>exact bv T.mono ih
noncomputable def bP:List MS:=[(.asg (.loc 5) (.call (.glob (.fn 65)) [(.loc 0),(.loc 1),(.loc 4),(.loc 3)])),(.aB (.cmp .fB (.loc 5) (.lit .none)) [(.ret (.aB (.cmp .eq (.loc 5) (.glob (.str [108,111,115,116]))) (.lit .none) (.loc 5)))] [])]
inductive Di(own:List FI)(d lo:Nat)(q:SR)(H:Hp)(kp:Nat->Option (List Nat))(h va rf lg:Nat)(m:Int)(k':Nat)(τ:Hs)(R:Option (Nat×Nat×Nm)):Prop where
 |ret (v:V) (l:Lo) (H':Hp) (e:q=some (.ret v,l,H')) (x:HX kp h va rf lg m k' τ H') (o:HO h va lg H H') (r:R3 lo H' R v):Di own d lo q H kp h va rf lg m k' τ R
 |Hx (l:Lo) (H':Hp) (e:q=some (.next,l,H')) (x:HX kp h va rf lg m k' τ H') (o:HO h va lg H H') (r:R=none):Di own d lo q H kp h va rf lg m k' τ R
section
variable {ct:CT}{bd:Lo->Hp->SR}{n:Nat}{it eB:It}{l l1 l2:Lo}{H2:Hp}{v u:V}
theorem Fe(h0:0<n)(h:du H it=some none):dX ct bd n it l H=some (.next,l,H):=by
  cases n with
 |zero=>exact absurd h0 (oQ 0)
 |succ n=>exact sp h
theorem A5{q:SR}(h0:0<n)(h1:du H it=some (some (v,eB)))(h2:eG ct v l=some l1)(h3:bd l1 H=some (.next,l2,H2))(h4:dX ct bd (n-1) eB l2 H2=q):dX ct bd n it l H=q:=by
  cases n with
 |zero=>exact absurd h0 (oQ 0)
 |succ n=>exact mq h1 h2 h3 h4
theorem sx(h0:0<n)(h1:du H it=some (some (v,eB)))(h2:eG ct v l=some l1)(h3:bd l1 H=some (.ret u,l2,H2)):dX ct bd n it l H=some (.ret u,l2,H2):=by
  cases n with
 |zero=>exact absurd h0 (oQ 0)
 |succ n=>exact M3 h1 h2 h3
end
theorem Di.pre{lo uz:Nat}{q q0:SR}{H1:Hp}{R:Option (Nat×Nat×Nm)}(x:Di own d lo q H1 kp h va rf lg m k' τ R)(hl:uz<=lo)(e:q0=q)(o:HO h va lg H H1):Di own d uz q0 H kp h va rf lg m k' τ R:=by
  induction x with
 |ret v l H' e' x o' r=>exact .ret v l H' (e.trans e') x (o.trans o') (r.mono hl)
 |Hx l H' e' x o' r=>exact .Hx l H' (e.trans e') x (o.trans o') r
theorem A6(g:Gx kp K s m j){c b:Nat}{R:Option (Nat×Nat×Nm)}(T:Mp kp s n c b σ k R τ k'):∀{f:Nat}{H:Hp}{an x y:Option V},c<f->HX kp h va rf lg m k σ H->(k':Int)<=m->σ.log.length<=j+k->Kd K σ.vals ->
   Di own d 0 (dX (.one 4) (λl H=>aS (ar own) (ae (ar own) (d+8)) bP l H) f (.cQ b 1 c) [some (nV n),some (.str s),an,some (.loc h),x,y] H) H kp h va rf lg m k' τ R:=by
  induction T with
 |z=>
   intro f H an x y hf hx hk hl hv
   exact .Hx _ H (Fe hf rfl) hx (.refl H) rfl
 |met T=>
   intro f H an x y hf hx hk hl hv
   obtain⟨v,H',e,Kn,ho,j,r0,r⟩:=kQ (own:=own) (d:=d) g hx T hk hl hv
   rw[r0] at e
   exact .ret _ _ H' (sx (jM (cF _) hf) rfl rfl (bk (az rfl e) rfl)) Kn ho ⟨j,rfl,r,cF _⟩
 |bi T=>
   intro f H an x y hf hx hk hl hv
   obtain⟨v,H',e,Kn,ho,r⟩:=kQ (own:=own) (d:=d) g hx T hk hl hv
   rw[show v=_ from r] at e
   exact .ret _ _ H' (sx (jM (cF _) hf) rfl rfl (bk (az rfl e) rfl)) Kn ho rfl
 |@cz c b σ k τ k1 R υ k' T M ih=>
   intro f H an x y hf hx hk hl hv
   have jJ:=M.mono
   have hg:=T.grow
   obtain⟨v,H1,e,Kn,ho,r⟩:=kQ (own:=own) (d:=d) g hx T (by omega) hl hv
   rw[show v=_ from r] at e
   exact(ih (f:=f-1) (an:=an) (x:=some (.int b)) (y:=some .none) (Nat.lt_sub_of_add_lt hf) Kn hk (by exact nt (aj [_,_,_,_,_] (.d ab (.a af aq) (.d (.a aA aq) (.a ab bU) (.d (.s (.a af bU)) aA .z))) rfl hl hg)) (T.kd g.hK hv)).pre (aE _) (A5 (jM (cF _) hf) rfl rfl (bk (az rfl e) rfl) rfl) ho
theorem A7{c:Nat}:fK 0 (c:Int) 1=c:=yr (by omega)
noncomputable def cnt(an:Bool)(s:List Nat):Nat:=bif an then 1 else s.length+1
theorem Ff{an:Bool}{s:List Nat}{P:Pg}{call:bT}{l:Lo}(h2:l[2]?=some (some (.bool an)))(h1:l[1]?=some (some (.str s))):av P call (.aB (.loc 2) (.lit (.int 1)) (.bin .add (.prim .len [.loc 1]) (.lit (.int 1)))) l H=some (.int (cnt an s),H):=by
 cases an
 ·exact bB (gj h2) (cw (bl (dH (gj h1)) rfl) ak rfl)
 ·exact cK (gj h2) ak
theorem Fg(an:Bool)(g:Gx kp K s m j):cnt an s<=1000:=by
 have:=g.hs
 induction an <;> simp only[cnt,cond_true,cond_false] <;> omega
theorem rW(g:Gx kp K s m j){an:Bool}{R:Option (Nat×Nat×Nm)}(x:HX kp h va rf lg m k σ H)(T:Mp kp s n (cnt an s) 0 σ k R τ k')(hk:(k':Int)<=m)(hl:σ.log.length<=j+k)(hv:Kd K σ.vals) :
   Ca (ar own) (d+9) 64 [nV n,.str s,.bool an,.loc h] H kp h va rf lg m k' τ (λH' v=>R3 0 H' R v):=by
  have hc:=Fg an g
  have q:=A6 (own:=own) (d:=d) g T (f:=1048576) (an:=some (.bool an)) (x:=none) (y:=none) (by exact nl (aj [_] (.d ab (.n 1000) (.d (.n 1048576) ab .z)) rfl hc)) x hk hl hv
  have e0:∀{q:SR},dX (.one 4) (λl H=>aS (ar own) (ae (ar own) (d+8)) bP l H) 1048576 (.cQ (0:Nat) 1 (cnt an s)) [some (nV n),some (.str s),some (.bool an),some (.loc h),none,none] H=q->cU (ar own) (ae (ar own) (d+8)) (.for (.one 4) (.prim .range [.aB (.loc 2) (.lit (.int 1)) (.bin .add (.prim .len [.loc 1]) (.lit (.int 1)))]) bP) [some (nV n),some (.str s),some (.bool an),some (.loc h),none,none] H=q:=λ{q} hq=>
   ju (bl (dH (Ff rfl rfl)) (qP (by omega))) (De (by decide) (by omega) rfl) (by rw[A7];exact hq)
  induction q with
 |ret v l H' e x o r=>exact⟨v,H',ac rfl rfl (gm (e0 e)),x,o,r⟩
 |Hx l H' e x o r=>subst r;exact⟨.none,H',ac rfl rfl (ah (e0 e) rfl),x,o,rfl⟩
end
noncomputable def A8(x:Sg):V:=match x with
 |.ch t=>.str t
 |.len n=>.int n
 |.pos n=>.int n
 |.gH n=>.int n
 |.tab n=>.int n
 |.gI n=>.int n
 |.any t=>.str t
 |.fc t=>.str t
 |.span t=>.str t
 |.brk t=>.str t
 |.rem=>.none
theorem ei{H:Hp}{c k:Nat}{fs:List (Nat×V)}{v:V}:jQ (H++[.inst c fs]) (.loc H.length) k v=some (H++[.inst c (putN k v fs)]):=by
 rw[cg am,zf _ _ (aE _),gZ];rfl
noncomputable abbrev aY(o pc a:Nat)(nm mk ca:V):O:=.inst 2 [(0,.loc o),(1,.int pc),(2,.int a),(3,nm),(4,mk),(5,ca)]
noncomputable abbrev A9:O:=.inst 2 [(0,.none),(1,.int 0),(2,.int 0),(3,.none),(4,.none),(5,.none)]
noncomputable abbrev cZ(s:List Nat)(h q:Nat):O:=.inst 3 [(6,.str s),(7,.loc h),(8,.loc q)]
section
variable {own:List FI}{d:Nat}{H H2:Hp}{h mo q o wl pc a:Nat}{va rf lg nm mk ca r:V}{m k:Int}{s:List Nat}{x:Sg}{e:Nat}
theorem Ba(x:Sg):xk (A8 x) .tuple=some false:=by induction x <;> rfl
theorem uA(hs:s.length<1048576):∀ x:Sg,ae (ar own) (d+4) 44 [.tup [.str (vH x),A8 x],.str s,.int a] H=some (jI (ia s a x),H)
 |.rem=>ac rfl rfl (aD (cK rfl (az rfl J5)))
 |.ch t=>d7 hs (.ch t)
 |.len t=>d7 hs (.len t)
 |.pos t=>d7 hs (.pos t)
 |.gH t=>d7 hs (.gH t)
 |.tab t=>d7 hs (.tab t)
 |.gI t=>d7 hs (.gI t)
 |.any t=>d7 hs (.any t)
 |.fc t=>d7 hs (.fc t)
 |.span t=>d7 hs (.span t)
 |.brk t=>d7 hs (.brk t)
theorem ke{v0 v1 v2 v3 v4 v5:V}:ae (ar own) (d+1) 46 [.loc H.length,v0,v1,v2,v3,v4,v5] (H++[.inst 2 []])=some (.none,H++[.inst 2 [(0,v0),(1,v1),(2,v2),(3,v3),(4,v4),(5,v5)]]):=
 et rfl rfl (ah (eg rfl rfl ei) (ah (eg rfl rfl ei) (ah (eg rfl rfl ei) (ah (eg rfl rfl ei) (ah (eg rfl rfl ei) (ah (eg rfl rfl ei) aJ))))))
theorem uB{g:Nat}(hw:H[wl]?=some (aY o pc a nm mk ca)):ae (ar own) (d+2) 47 [.loc wl,.int g] H=some (.loc H.length,H++[aY o g a nm mk ca]):=
 ac rfl rfl (aD (gR (aM (aC rfl (ay hw rfl)) (aM rfl (aM (aC rfl (ay hw rfl)) (aM (aC rfl (ay hw rfl)) (aV (aC rfl (ay hw rfl)) (aC rfl (ay hw rfl))))))) rfl ke))
theorem Fh{L:List V}{v:V}(hm:H[mo]?=some (cZ s h q))(hq:H[q]?=some (.list (L++[v]))):ae (ar own) (d+1) 50 [.loc mo] H=some (v,H.set q (.list L)):=
 ac rfl rfl (aD (cK (ax (bl (dH (aC rfl (ay hm rfl))) (dN hq)) ak (e6 (by rw[aK];exact q9.mpr (nE _)))) (de (aC rfl (ay hm rfl)) (bb hq rfl) bA (kO hq))))
theorem No(hm:H[mo]?=some (cZ s h q))(hq:H[q]?=some (.list [])):ae (ar own) (d+1) 50 [.loc mo] H=some (.none,H):=
 ac rfl rfl (aD (bB (ax (bl (dH (aC rfl (ay hm rfl))) (dN hq)) ak rfl) ak))
theorem Np(hs:s.length<1048576)(hm:H[mo]?=some (cZ s h q))(hw:H[wl]?=some (aY o pc a nm mk ca))(he:ia s a x=some e):ae (ar own) (d+5) 52 [.loc mo,.tup [.str [111,110,101],.str (vH x),A8 x],.loc wl] H=some (.bool true,H.set wl (aY o (pc+1) e nm mk ca)):=
 iC (b:=some (V.bool true,(H.set wl (aY o pc e nm mk ca)).set wl (aY o (pc+1) e nm mk ca))) (ac rfl rfl (ah rfl (bh (mX rfl (Ba x)) (bk (az (aM rfl (aV (aC rfl (ay hm rfl)) (aC rfl (ay hw rfl)))) ((uA hs x).trans (congrArg (λz=>some (jI z,H)) he))) (ah rfl (ah (eg rfl rfl (cg hw)) (ah (hV rfl (ay (au hw) rfl) ak rfl (cg (au hw))) rfl))))))) (by rw[oY])
theorem Nq(hs:s.length<1048576)(hm:H[mo]?=some (cZ s h q))(hw:H[wl]?=some (aY o pc a nm mk ca))(he:ia s a x=none):ae (ar own) (d+5) 52 [.loc mo,.tup [.str [111,110,101],.str (vH x),A8 x],.loc wl] H=some (.bool false,H):=
 ac rfl rfl (ah rfl (bh (mX rfl (Ba x)) (bk (az (aM rfl (aV (aC rfl (ay hm rfl)) (aC rfl (ay hw rfl)))) ((uA hs x).trans (congrArg (λz=>some (jI z,H)) he))) rfl)))
theorem done_one{b:Bool}(hm:H[mo]?=some (cZ s h q))(e:ae (ar own) (d+5) 52 [.loc mo,.tup [.str [111,110,101],.str (vH x),A8 x],.loc wl] H=some (.bool b,H2)):ae (ar own) (d+6) 51 [.loc mo,.tup [.str [111,110,101],.str (vH x),A8 x],.loc wl] H=some (.bool b,H2):=
 ac rfl rfl (ah rfl (aW rfl (aD (aP rfl hm rfl rfl rfl e))))
theorem Bb{L:List V}{g:Nat}(hm:H[mo]?=some (cZ s h q))(hw:H[wl]?=some (aY o pc a nm mk ca))(hq:H[q]?=some (.list L))(hl:L.length<lim)(be:wl≠q):ae (ar own) (d+6) 51 [.loc mo,.tup [.str [115,112,108,105,116],.int g],.loc wl] H=some (.bool true,((H++[aY o g a nm mk ca]).set q (.list (L++[.loc H.length]))).set wl (aY o (pc+1) a nm mk ca)):=
 ac rfl rfl (eE rfl rfl (ah (cf rfl (fm (de (aC rfl (ay hm rfl)) (bb hq rfl) (dH (aP rfl hw rfl rfl rfl (uB hw))) (bV (ag hq) hl)))) (ah (hV rfl (ay (aa be.symm (ag hw)) rfl) ak rfl (cg (aa be.symm (ag hw)))) rfl)))
theorem Dj{g:Nat}(hw:H[wl]?=some (aY o pc a nm mk ca)):ae (ar own) (d+6) 51 [.loc mo,.tup [.str [106,117,109,112],.int g],.loc wl] H=some (.bool true,H.set wl (aY o g a nm mk ca)):=
 ac rfl rfl (eE rfl rfl (pM rfl (aW rfl (ah (eg rfl rfl (cg (by solve_by_elim [am,au,aa,ag,aG,aH,cA]))) rfl))))
theorem Dk(hw:H[wl]?=some (aY o pc a nm mk ca)):ae (ar own) (d+6) 51 [.loc mo,.tup [.str [109,97,114,107]],.loc wl] H=some (.bool true,H.set wl (aY o (pc+1) a nm (.tup [mk,.int a]) ca)):=
 iC (b:=some (V.bool true,(H.set wl (aY o pc a nm (.tup [mk,.int a]) ca)).set wl (aY o (pc+1) a nm (.tup [mk,.int a]) ca))) (ac rfl rfl (eE rfl rfl (ah (bD rfl (ah (bD rfl (ah (cf rfl (ah (eg (aU (aV (aC rfl (by exact ay (by solve_by_elim [am,au,aa,ag,aG,aH,cA]) rfl)) (aC rfl (by exact ay (by solve_by_elim [am,au,aa,ag,aG,aH,cA]) rfl)))) rfl (cg (by solve_by_elim [am,au,aa,ag,aG,aH,cA]))) aJ)) aJ)) aJ)) (ah (hV rfl (by exact ay (by solve_by_elim [am,au,aa,ag,aG,aH,cA]) rfl) ak (by rfl) (cg (by solve_by_elim [am,au,aa,ag,aG,aH,cA]))) rfl)))) (by rw[oY])
theorem Be{b:Nat}(hm:H[mo]?=some (cZ s h q))(hw:H[wl]?=some (aY o pc a nm (.tup [mk,.int b]) ca))(be:mo≠wl):ae (ar own) (d+5) 53 [.loc mo,.tup [.str [110,97,109,101],r],.loc wl] H=some (.bool true,H.set wl (aY o pc a (.tup [nm,.tup [r,.str ((s.take a).drop b)]]) mk ca)):=
 iC (b:=some (V.bool true,(H.set wl (aY o pc a nm mk ca)).set wl (aY o pc a (.tup [nm,.tup [r,.str ((s.take a).drop b)]]) mk ca))) (ac rfl rfl (ah (aT (aC rfl (by exact ay (by solve_by_elim [am,au,aa,ag,aG,aH,cA]) rfl)) rfl) (ah (eg rfl rfl (cg (by solve_by_elim [am,au,aa,ag,aG,aH,cA]))) (bk (i4 (aC rfl (by exact ay (by solve_by_elim [am,au,aa,ag,aG,aH,cA]) rfl)) rfl (aC rfl (by exact ay (by solve_by_elim [am,au,aa,ag,aG,aH,cA]) rfl)) ak (by rfl)) (eE rfl rfl (ah (eg (aU (aM (aC rfl (by exact ay (by solve_by_elim [am,au,aa,ag,aG,aH,cA]) rfl)) rfl)) rfl (cg (by solve_by_elim [am,au,aa,ag,aG,aH,cA]))) rfl)))))) (by rw[oY])
theorem Dl{b:Nat}(hm:H[mo]?=some (cZ s h q))(hw:H[wl]?=some (aY o pc a nm (.tup [mk,.int b]) ca))(be:mo≠wl)(e:ae (ar own) (d+4) 62 [.loc h,r,.str ((s.take a).drop b)] (H.set wl (aY o pc a nm mk ca))=some (.bool true,H2))(hh:∃ fs,H[h]?=some (.inst 4 fs))(hn:h≠wl):ae (ar own) (d+5) 53 [.loc mo,.tup [.str [115,101,116],r],.loc wl] H=some (.bool true,H2):=by
 obtain⟨fs,hh⟩:=hh
 exact ac rfl rfl (ah (aT (aC rfl (by exact ay (by solve_by_elim [am,au,aa,ag,aG,aH,cA]) rfl)) rfl) (ah (eg rfl rfl (cg (by solve_by_elim [am,au,aa,ag,aG,aH,cA]))) (bk (i4 (aC rfl (by exact ay (by solve_by_elim [am,au,aa,ag,aG,aH,cA]) rfl)) rfl (aC rfl (by exact ay (by solve_by_elim [am,au,aa,ag,aG,aH,cA]) rfl)) ak (by rfl)) (ah rfl (aW rfl (aD (aP (aC rfl (ay (aa be.symm hm) rfl)) (aa hn.symm hh) rfl rfl rfl e)))))))
theorem rI{b:Nat}(hm:H[mo]?=some (cZ s h q))(hw:H[wl]?=some (aY o pc a nm (.tup [mk,.int b]) ca))(be:mo≠wl){g:Bool}(hg:decide (b<a)=g):ae (ar own) (d+5) 53 [.loc mo,.tup [.str [103,97,105,110]],.loc wl] H=some (.bool g,H.set wl (aY o pc a nm mk ca)):=
 ac rfl rfl (ah (aT (aC rfl (by exact ay (by solve_by_elim [am,au,aa,ag,aG,aH,cA]) rfl)) rfl) (ah (eg rfl rfl (cg (by solve_by_elim [am,au,aa,ag,aG,aH,cA]))) (bk (i4 (aC rfl (by exact ay (by solve_by_elim [am,au,aa,ag,aG,aH,cA]) rfl)) rfl (aC rfl (by exact ay (by solve_by_elim [am,au,aa,ag,aG,aH,cA]) rfl)) ak (by rfl)) (aW rfl (aD (ax (aC rfl (by exact ay (by solve_by_elim [am,au,aa,ag,aG,aH,cA]) rfl)) rfl (J1 hg)))))))
theorem mv{w:List Nat}{tl:List V}{nm2 mk2 ca2:V}{pc2 a2 o2:Nat}(vI:([[110,97,109,101],[115,101,116],[103,97,105,110]]:List (List Nat)).any (·==w)=true)(kR:(w==[111,110,101])=false)(vJ:(w==[115,112,108,105,116])=false)(RC:(w==[106,117,109,112])=false)(RD:(w==[109,97,114,107])=false)(hm:H[mo]?=some (cZ s h q))(e:ae (ar own) (d+5) 53 [.loc mo,.tup (.str w::tl),.loc wl] H=some (.bool true,H2))(Dm:H2[wl]?=some (aY o2 pc2 a2 nm2 mk2 ca2)):ae (ar own) (d+6) 51 [.loc mo,.tup (.str w::tl),.loc wl] H=some (.bool true,H2.set wl (aY o2 (pc2+1) a2 nm2 mk2 ca2)):=
 ac rfl rfl (ah rfl (bh (ax rfl ce (cM kR)) (ah (bD (ax rfl ce (cM vJ)) (ah (bD (ax rfl ce (cM RC)) (ah (bD (ax rfl ce (cM RD)) (ah (cf (ax rfl rfl (congrArg some vI)) (bh (ou (aP rfl hm rfl rfl rfl e)) aJ)) aJ)) aJ)) aJ)) (ah (hV rfl (ay Dm rfl) ak rfl (cg Dm)) rfl))))
theorem yz(hm:H[mo]?=some (cZ s h q))(e:ae (ar own) (d+5) 53 [.loc mo,.tup [.str [103,97,105,110]],.loc wl] H=some (.bool false,H2)):ae (ar own) (d+6) 51 [.loc mo,.tup [.str [103,97,105,110]],.loc wl] H=some (.bool false,H2):=
 ac rfl rfl (eE rfl rfl (pM rfl (pM rfl (pM rfl (aW rfl (aW (ou (aP rfl hm rfl rfl rfl e)) rfl))))))
theorem Bf{nm2 mk2 ca2:V}{pc2 a2 o2:Nat}(hm:H[mo]?=some (cZ s h q))(hw:H[wl]?=some (aY o pc a nm mk ca))(e:ae (ar own) (d+5) 62 [.loc h,r,.int a] H=some (.bool true,H2))(hh:∃ fs,H[h]?=some (.inst 4 fs))(Dm:H2[wl]?=some (aY o2 pc2 a2 nm2 mk2 ca2)):ae (ar own) (d+6) 51 [.loc mo,.tup [.str [112,108,97,99,101],r],.loc wl] H=some (.bool true,H2.set wl (aY o2 (pc2+1) a2 nm2 mk2 ca2)):=by
 obtain⟨fs,hh⟩:=hh
 exact ac rfl rfl (eE rfl rfl (ah (bD rfl (ah (bD rfl (ah (bD rfl (ah (bD rfl (ah (cf rfl (bh (ou (aP (aC rfl (ay hm rfl)) hh rfl rfl (aV rfl (aC rfl (ay hw rfl))) e)) aJ)) aJ)) aJ)) aJ)) aJ)) (ah (hV rfl (ay Dm rfl) ak rfl (cg Dm)) rfl)))
theorem ib{w:List Nat}{tl:List V}{b:Bool}(vI:([[110,97,109,101],[115,101,116],[103,97,105,110]]:List (List Nat)).any (·==w)=false)(kR:(w==[111,110,101])=false)(vJ:(w==[115,112,108,105,116])=false)(RC:(w==[106,117,109,112])=false)(RD:(w==[109,97,114,107])=false)(Dm:(w==[112,108,97,99,101])=false)(hm:H[mo]?=some (cZ s h q))(e:ae (ar own) (d+5) 54 [.loc mo,.tup (.str w::tl),.loc wl] H=some (.bool b,H2)):ae (ar own) (d+6) 51 [.loc mo,.tup (.str w::tl),.loc wl] H=some (.bool b,H2):=
 ac rfl rfl (ah rfl (bh (ax rfl ce (cM kR)) (pM (ax rfl ce (cM vJ)) (pM (ax rfl ce (cM RC)) (pM (ax rfl ce (cM RD)) (pM (ax rfl rfl (congrArg some vI)) (pM (ax rfl ce (cM Dm)) (aD (aP rfl hm rfl rfl rfl e)))))))))
theorem Hy:ae (ar own) (d+5) 54 [.loc mo,.tup [.str [102,97,105,108]],.loc wl] H=some (.bool false,H):=
 ac rfl rfl rfl
theorem Hz{ca2:V}{o2 pc2:Nat}(hw:H[wl]?=some (aY o pc a nm mk (.tup [ca2,.tup [.loc o2,.int pc2]]))):ae (ar own) (d+5) 54 [.loc mo,.tup [.str [100,111,110,101]],.loc wl] H=some (.bool true,H.set wl (aY o2 pc2 a nm mk ca2)):=
 iC (b:=some (V.bool true,((H.set wl (aY o pc a nm mk ca2)).set wl (aY o2 pc a nm mk ca2)).set wl (aY o2 pc2 a nm mk ca2))) (ac rfl rfl (ah rfl (cm rfl rfl rfl (aW rfl (ah (aT (aC rfl (by exact ay (by solve_by_elim [am,au,aa,ag,aG,aH,cA]) rfl)) (pL (by rfl) (j7 (j6 rfl (cg (by solve_by_elim [am,au,aa,ag,aG,aH,cA]))) (j7 (pL (by rfl) (j7 (j6 rfl (cg (by solve_by_elim [am,au,aa,ag,aG,aH,cA]))) (j7 (j6 rfl (cg (by solve_by_elim [am,au,aa,ag,aG,aH,cA]))) ym))) ym)))) rfl))))) (by rw[oY,oY])
theorem Dn{L:List V}(hm:H[mo]?=some (cZ s h q))(hw:H[wl]?=some (aY o pc a nm mk ca))(hq:H[q]?=some (.list L))(hl:L.length<lim)(be:wl≠q):ae (ar own) (d+5) 54 [.loc mo,.tup [.str [102,101,110,99,101]],.loc wl] H=some (.bool true,((H++[A9]).set q (.list (L++[.loc H.length]))).set wl (aY o (pc+1) a nm mk ca)):=
 ac rfl rfl (eE rfl rfl (cm rfl rfl rfl (ah (cf rfl (fm (de (aC rfl (ay hm rfl)) (bb hq rfl) (dH (gR rfl rfl ke)) (bV (ag hq) hl)))) (ah (hV rfl (ay (aa be.symm (ag hw)) rfl) ak rfl (cg (aa be.symm (ag hw)))) rfl))))
theorem HA{t:List Nat}{v:V}{o2:Nat}{H3:Hp}{key:List Nat}(hm:H[mo]?=some (cZ s h q))(hw:H[wl]?=some (aY o pc a nm mk ca))(hh:∃ fs,H[h]?=some (.inst 4 fs))(e:ae (ar own) (d+4) 61 [.loc h,.tup [.str [110,97,109,101],.str key]] H=some (v,H))(hv:pS v t)(ec:ae (ar own) (d+4) 11 [.tup [.str [99,104,97,114,115],.str t]] (H.set wl (aY o pc a nm mk (.tup [ca,.tup [.loc o,.int (pc+1:Nat)]])))=some (.loc o2,H3))(vJ:H3[wl]?=some (aY o pc a nm mk (.tup [ca,.tup [.loc o,.int (pc+1:Nat)]]))):ae (ar own) (d+5) 56 [.loc mo,.tup [.str [110,97,109,101],.str key],.loc wl] H=some (.bool true,H3.set wl (aY o2 0 a nm mk (.tup [ca,.tup [.loc o,.int (pc+1:Nat)]]))):=by
 obtain⟨fs,hh⟩:=hh
 have h1:xk v (.cls 5)=some false:=by induction hv <;> rfl
 exact iC (b:=some (V.bool true,(H3.set wl (aY o2 pc a nm mk (.tup [ca,.tup [.loc o,.int (pc+1:Nat)]]))).set wl (aY o2 0 a nm mk (.tup [ca,.tup [.loc o,.int (pc+1:Nat)]])))) (ac rfl rfl (bk (aP (aC rfl (ay hm rfl)) hh rfl rfl rfl e) (bh (az rfl (ac rfl rfl (aD (mX rfl h1)))) (ah (eg (aU (aV (aC rfl (ay hw rfl)) (aU (aV (aC rfl (ay hw rfl)) (cw (aC rfl (ay hw rfl)) ak rfl))))) rfl (cg hw)) (ah (aT (aU (aM (az (dH (az rfl (wU hv))) ec) rfl)) (pL rfl (j7 (j6 rfl (cg vJ)) (j7 (j6 rfl (cg (au vJ))) ym)))) rfl))))) (by rw[oY])
theorem Kp{tr:V}(hm:H[mo]?=some (cZ s h q))(e:ae (ar own) (d+5) 56 [.loc mo,tr,.loc wl] H=some (.bool true,H2)):ae (ar own) (d+6) 54 [.loc mo,.tup [.str [97,115,107],tr],.loc wl] H=some (.bool true,H2):=
 ac rfl rfl (cm rfl rfl rfl (aW rfl (aD (aP rfl hm rfl rfl rfl e))))
theorem wY:∀(n a:Nat),rq (a:Int) 1 n=(List.range' a n).map λ(x:Nat)=>(x:Int)
 |0,a=>rfl
 |n+1,a=>by
  rw[Ed]
  show(a:Int)::rq ((a:Int)+1) 1 n=(a:Int)::(List.range' (a+1) n).map _
  rw[show((a:Int)+1)=((a+1:Nat):Int) from rfl,wY n (a+1)]
noncomputable def wZ(s:List Nat)(a:Nat):List V:=(List.range' a (s.length+1-a)).map λ(x:Nat)=>V.int x
theorem yA(hs:s.length<1000)(ha:a<=s.length):ae (ar own) (d+1) 40 [.str s,.int a] H=some (.loc H.length,H++[.list (wZ s a)]):=by
 have h1:fK (a:Int) ((s.length+1:Nat):Int) 1=s.length+1-a:=yr (by omega)
 have h2:B4 (.cQ a (s.length+1:Nat) 1) H=some (wZ s a):=by
  show gd (fK (a:Int) ((s.length+1:Nat):Int) 1<=1024/\_) _=_
  rw[h1,eQ ⟨by omega,by omega,by omega,rfl⟩,wY,List.map_map];rfl
 exact ac rfl rfl (aD (bl (dH (bl rfl (Hl (b:=((s.length+1:Nat):Int)) ⟨by omega,by omega⟩))) ((congrArg (λz=>z.map λl=>(V.loc H.length,H++[O.list l])) h2))))
theorem HB{v:V}{H2:Hp}(e:ae (ar own) (d+1) 40 [.str s,.int a] H=some (v,H2)):ae (ar own) (d+2) 45 [.str [97,114,98],.str s,.int a,.none] H=some (v,H2):=
 ac rfl rfl (aW rfl (aD (az rfl e)))
noncomputable def bW:List MS:=[(.asg (.loc 4) (.bm (.loc 1) 107 [(.attr (.loc 1) 1)])),(.asg (.attr (.loc 4) 2) (.loc 3)),(.expr (.ba (.attr (.loc 0) 8) .append [(.loc 4)]))]
theorem HC{L:List V}{e:Nat}{y:Option V}{en:V}(hm:H[mo]?=some (cZ s h q))(hw:H[wl]?=some (aY o pc a nm mk ca))(hq:H[q]?=some (.list L))(hl:L.length<lim):aS (ar own) (ae (ar own) (d+3)) bW [some (.loc mo),some (.loc wl),some en,some (.int e),y] H=some (.next,[some (.loc mo),some (.loc wl),some en,some (.int e),some (.loc H.length)],(H++[aY o pc e nm mk ca]).set q (.list (L++[.loc H.length]))):=
 ah (aT (aP rfl hw rfl rfl (dH (aC rfl (ay hw rfl))) (uB hw)) ef) (ah (eg rfl rfl ei) (fm (de (aC rfl (ay (ag hm) rfl)) (bb (ag hq) rfl) rfl (bV (ag hq) hl))))
theorem HE{v:V}{b:Bool}{H3:Hp}(hm:H[mo]?=some (cZ s h q))(hw:H[wl]?=some (aY o pc a nm mk ca))(e:ae (ar own) (d+4) 45 [.str [97,114,98],.str s,.int a,.none] H=some (v,H2))(Kq:H2[mo]?=some (cZ s h q))(e2:ae (ar own) (d+4) 55 [.loc mo,.loc wl,v] H2=some (.bool b,H3)):ae (ar own) (d+5) 54 [.loc mo,.tup [.str [119,97,121,115],.str [97,114,98]],.loc wl] H=some (.bool b,H3):=
 ac rfl rfl (eE rfl rfl (aW rfl (aD (aP rfl hm rfl rfl (aV rfl (az (aM rfl (aM (aC rfl (ay hm rfl)) (aM (aC rfl (ay hw rfl)) rfl))) e)) e2))))
end
set_option genCtorIdx false in
inductive Od where
 |one (x:Sg)|iF|split (g:Nat)|df (g:Nat)|mark|name (r:Nat)|set (r:Nat)|i7|place (r:Nat)|ask (k:List Nat)|fence|fail|done
noncomputable def yB:Od->List Nat
 |.one _=>[111,110,101]
 |.iF=>[119,97,121,115]
 |.split _=>[115,112,108,105,116]
 |.df _=>[106,117,109,112]
 |.mark=>[109,97,114,107]
 |.name _=>[110,97,109,101]
 |.set _=>[115,101,116]
 |.i7=>[103,97,105,110]
 |.place _=>[112,108,97,99,101]
 |.ask _=>[97,115,107]
 |.fence=>[102,101,110,99,101]
 |.fail=>[102,97,105,108]
 |.done=>[100,111,110,101]
noncomputable def WC:Od->List V
 |.one x=>[.str (vH x),A8 x]
 |.iF=>[.str [97,114,98]]
 |.split g=>[.int g]
 |.df g=>[.int g]
 |.name r=>[.loc r]
 |.set r=>[.loc r]
 |.place r=>[.loc r]
 |.ask k=>[.tup [.str [110,97,109,101],.str k]]
 |_=>[]
noncomputable def oV(od:Od):V:=.tup (.str (yB od)::WC od)
structure CW where
 O:List Od
 pc:Nat
 a:Nat
 nm:Nm
 i8:List Nat
 cs:List (List Od×Nat)
noncomputable def ic:Nm->V
 |[]=>.none
 |x::r=>.tup [ic r,.tup [.loc x.1,.str x.2]]
noncomputable def i9:List Nat->V
 |[]=>.none
 |b::r=>.tup [i9 r,.int b]
set_option genCtorIdx false in
inductive mw where
 |go (w:CW) (σ:Hs) (ps:List (Option CW))|no
inductive fe where
 |met (w:CW)|cz|bi
section
variable (kp:Nat->Option (List Nat))(s:List Nat)
inductive eR:Od->CW->Hs->mw->Prop where
 |w7 {x w σ e}:ia s w.a x=some e->eR (.one x) w σ (.go { w with pc:=w.pc+1,a:=e } σ [])
 |uC {x w σ}:ia s w.a x=none->eR (.one x) w σ .no
 |iF {w σ}:w.a<=s.length->eR .iF w σ (.go { w with pc:=w.pc+1 } σ ((List.range' (w.a+1) (s.length-w.a)).reverse.map λe=>some { w with pc:=w.pc+1,a:=e }))
 |split {g w σ}:eR (.split g) w σ (.go { w with pc:=w.pc+1 } σ [some { w with pc:=g }])
 |df {g w σ}:eR (.df g) w σ (.go { w with pc:=g } σ [])
 |mark {w σ}:eR .mark w σ (.go { w with pc:=w.pc+1,i8:=w.a::w.i8 } σ [])
 |name {r O pc a nm b mk cs σ}:eR (.name r) ⟨O,pc,a,nm,b::mk,cs⟩ σ (.go ⟨O,pc+1,a,(r,(s.take a).drop b)::nm,mk,cs⟩ σ [])
 |set {r key O pc a nm b mk cs σ}:kp r=some key->eR (.set r) ⟨O,pc,a,nm,b::mk,cs⟩ σ (.go ⟨O,pc+1,a,nm,mk,cs⟩ (iE σ key (.str ((s.take a).drop b))) [])
 |uD {O pc a nm b mk cs σ}:b<a->eR .i7 ⟨O,pc,a,nm,b::mk,cs⟩ σ (.go ⟨O,pc+1,a,nm,mk,cs⟩ σ [])
 |ow {O pc a nm b mk cs σ}:¬ b<a->eR .i7 ⟨O,pc,a,nm,b::mk,cs⟩ σ .no
 |place {r key w σ}:kp r=some key->eR (.place r) w σ (.go { w with pc:=w.pc+1 } (iE σ key (.int w.a)) [])
 |ask {k t w σ}:pS ((bz k σ.vals).getD (.str [])) t->eR (.ask k) w σ (.go { w with O:=[.one (.ch t),.done],pc:=0,cs:=(w.O,w.pc+1)::w.cs } σ [])
 |done {O pc a nm mk O2 pc2 cs σ}:eR .done ⟨O,pc,a,nm,mk,(O2,pc2)::cs⟩ σ (.go ⟨O2,pc2,a,nm,mk,cs⟩ σ [])
 |fence {w σ}:eR .fence w σ (.go { w with pc:=w.pc+1 } σ [none])
 |fail {w σ}:eR .fail w σ .no
inductive Rn:CW->List (Option CW)->Hs->Nat->fe->Hs->Nat->Prop where
 |met {w L σ k}:w.O[w.pc]?=some .done->w.cs=[]->Rn w L σ k (.met w) σ (k+1)
 |go {w L σ k R τ k' od w' σ' ps}:w.O[w.pc]?=some od->eR kp s od w σ (.go w' σ' ps)->Rn w' (L++ps) σ' (k+1) R τ k'->Rn w L σ k R τ k'
 |pop {w L σ k R τ k' od w2}:w.O[w.pc]?=some od->eR kp s od w σ .no->Rn w2 L σ (k+1) R τ k'->Rn w (L++[some w2]) σ k R τ k'
 |cz {w σ k od}:w.O[w.pc]?=some od->eR kp s od w σ .no->Rn w [] σ k .cz σ (k+1)
 |bi {w L σ k od}:w.O[w.pc]?=some od->eR kp s od w σ .no->Rn w (L++[none]) σ k .bi σ (k+1)
end
theorem Rn.mono{kp:Nat->Option (List Nat)}{s:List Nat}{w:CW}{L:List (Option CW)}{σ τ:Hs}{k k':Nat}{R:fe}(T:Rn kp s w L σ k R τ k'):k+1<=k':=by
  induction T with
 |go _ _ _ ih=>exact lf ih
 |pop _ _ _ ih=>exact lf ih
 |_=>exact aE _
noncomputable def LK(q lg:Nat)(H H':Hp):Prop:=∀ i l,H[i]?=some (.list l)->i≠q->i≠lg->H'[i]?=some (.list l)
theorem LK.trans{q lg:Nat}{H H1 H2:Hp}(a:LK q lg H H1)(b:LK q lg H1 H2):LK q lg H H2:=λi l e h1 h2=>b i l (a i l e h1 h2) h1 h2
theorem LK.set{q lg n:Nat}{H:Hp}{x y:O}(h:H[n]?=some x)(hx:n=q\/n=lg\/∀ l,x≠.list l):LK q lg H (H.set n y):=λi l e h1 h2=>
 aa (λe'=>by
  subst e'
  rcases hx with hx|hx|hx
  ·exact h1 hx
  ·exact h2 hx
  ·exact hx l (cj (h.symm.trans e))) e
theorem LK.app{q lg:Nat}{H:Hp}(l:Hp):LK q lg H (H++l):=λi l e _ _=>ag e
inductive kh(H:Hp)(q lg:Nat):List (List Od×Nat)->V->Prop where
 |nil:kh H q lg [] .none
 |cons {o O pc r v}:H[o]?=some (.list (List.map oV O))->o≠q->o≠lg->kh H q lg r v->kh H q lg ((O,pc)::r) (.tup [v,.tup [.loc o,.int pc]])
theorem kh.keep{H H':Hp}{q lg:Nat}(l:LK q lg H H'){cs:List (List Od×Nat)}{v:V}(c:kh H q lg cs v):kh H' q lg cs v:=by
  induction c with
 |nil=>exact .nil
 |cons h n1 n2 _ ih=>exact .cons (l _ _ h n1 n2) n1 n2 ih
inductive f9(H:Hp)(q lg wl:Nat)(w:CW):Prop where
 |mk (o:Nat) (ca:V) (hw:H[wl]?=some (aY o w.pc w.a (ic w.nm) (i9 w.i8) ca)) (ho:H[o]?=some (.list (w.O.map oV))) (n1:o≠q) (n2:o≠lg) (hc:kh H q lg w.cs ca):f9 H q lg wl w
theorem f9.keep{H H':Hp}{q lg wl:Nat}{w:CW}(l:LK q lg H H')(e:∀ x,H[wl]?=some x->H'[wl]?=some x)(c:f9 H q lg wl w):f9 H' q lg wl w:=by
 obtain⟨o,ca,hw,ho,n1,n2,hc⟩:=c
 exact⟨o,ca,e _ hw,l _ _ ho n1 n2,n1,n2,hc.keep l⟩
noncomputable def uE(H:Hp)(q lg i:Nat)(x:Option CW):Prop:=match x with
 |some w=>f9 H q lg i w
 |none=>H[i]?=some A9
theorem uE.inst{H:Hp}{q lg i:Nat}{x:Option CW}(c:uE H q lg i x):∃ fs,H[i]?=some (.inst 2 fs):=by
  induction x with
 |none=>exact⟨_,c⟩
 |some w=>obtain⟨o,ca,hw,_⟩:=c;exact⟨_,hw⟩
theorem uE.keep{H H':Hp}{q lg i:Nat}{x:Option CW}(l:LK q lg H H')(e:∀ x,H[i]?=some x->H'[i]?=some x)(c:uE H q lg i x):uE H' q lg i x:=by
  induction x with
 |none=>exact e _ c
 |some w=>exact f9.keep l e c
structure CS(kp:Nat->Option (List Nat))(H0:Hp)(mo q h va rf lg:Nat)(m:Int)(s:List Nat)(wl:Nat)(hs:List (Nat×Option CW))(k:Nat)(σ:Hs)(H:Hp):Prop where
 len:H0.length<=H.length
 cI:H[mo]?=some (cZ s h q)
 cW:H[q]?=some (.list (hs.map λx=>.loc x.1))
 host:H[h]?=some (cE (.loc va) (.loc rf) (.loc lg) m k)
 vals:H[va]?=some (.dict σ.vals)
 log:H[lg]?=some (.list σ.log)
 ref:H[rf]?=some (.list [])
 rk:∀ r key,kp r=some key->H[r]?=some (A0 key)
 ws:∀ x∈hs,uE H q lg x.1 x.2
 way:∃ fs,H[wl]?=some (.inst 2 fs)
 nd:∀ x∈hs,x.1≠wl
 HF:hs.Pairwise λx y=>x.1≠y.1
 off:∀ i,i<H0.length->i≠h->i≠va->i≠lg->H[i]?=H0[i]?
 yC:H0.length<=wl
 w8:∀ x∈hs,H0.length<=x.1
 Kr:H0.length<=q
 n3:rf≠lg
 n4:q≠lg
 n5:q≠rf
section
variable {kp:Nat->Option (List Nat)}{own:List FI}{d:Nat}{H H0:Hp}{mo q h va rf lg wl:Nat}{m:Int}{s:List Nat}{hs:List (Nat×Option CW)}{k:Nat}{σ:Hs}{w:CW}
theorem CS.m1(t:CS kp H0 mo q h va rf lg m s wl hs k σ H):mo≠h:=aX t.cI t.host (λe=>by cases e)
theorem CS.m2(t:CS kp H0 mo q h va rf lg m s wl hs k σ H):mo≠q:=aX t.cI t.cW (λe=>by cases e)
theorem CS.m3(t:CS kp H0 mo q h va rf lg m s wl hs k σ H):mo≠va:=aX t.cI t.vals (λe=>by cases e)
theorem CS.m4(t:CS kp H0 mo q h va rf lg m s wl hs k σ H):mo≠lg:=aX t.cI t.log (λe=>by cases e)
theorem CS.m5(t:CS kp H0 mo q h va rf lg m s wl hs k σ H):q≠h:=aX t.cW t.host (λe=>by cases e)
theorem CS.m6(t:CS kp H0 mo q h va rf lg m s wl hs k σ H):q≠va:=aX t.cW t.vals (λe=>by cases e)
theorem CS.m7(t:CS kp H0 mo q h va rf lg m s wl hs k σ H):h≠va:=aX t.host t.vals (λe=>by cases e)
theorem CS.m8(t:CS kp H0 mo q h va rf lg m s wl hs k σ H):h≠lg:=aX t.host t.log (λe=>by cases e)
theorem CS.m9(t:CS kp H0 mo q h va rf lg m s wl hs k σ H):va≠lg:=aX t.vals t.log (λe=>by cases e)
theorem CS.ma(t:CS kp H0 mo q h va rf lg m s wl hs k σ H):rf≠h:=aX t.ref t.host (λe=>by cases e)
theorem CS.mb(t:CS kp H0 mo q h va rf lg m s wl hs k σ H):rf≠va:=aX t.ref t.vals (λe=>by cases e)
theorem CS.w1(t:CS kp H0 mo q h va rf lg m s wl hs k σ H):wl≠mo:=by obtain⟨fs,e⟩:=t.way;exact aX e t.cI (λe=>by cases e)
theorem CS.w2(t:CS kp H0 mo q h va rf lg m s wl hs k σ H):wl≠q:=by obtain⟨fs,e⟩:=t.way;exact aX e t.cW (λe=>by cases e)
theorem CS.w3(t:CS kp H0 mo q h va rf lg m s wl hs k σ H):wl≠h:=by obtain⟨fs,e⟩:=t.way;exact aX e t.host (λe=>by cases e)
theorem CS.w4(t:CS kp H0 mo q h va rf lg m s wl hs k σ H):wl≠va:=by obtain⟨fs,e⟩:=t.way;exact aX e t.vals (λe=>by cases e)
theorem CS.w5(t:CS kp H0 mo q h va rf lg m s wl hs k σ H):wl≠lg:=by obtain⟨fs,e⟩:=t.way;exact aX e t.log (λe=>by cases e)
theorem CS.w6(t:CS kp H0 mo q h va rf lg m s wl hs k σ H):wl≠rf:=by obtain⟨fs,e⟩:=t.way;exact aX e t.ref (λe=>by cases e)
theorem CS.tick(t:CS kp H0 mo q h va rf lg m s wl hs k σ H):CS kp H0 mo q h va rf lg m s wl hs (k+1) σ (H.set h (cE (.loc va) (.loc rf) (.loc lg) m (k+1))):=
 have l:LK q lg H (H.set h (cE (.loc va) (.loc rf) (.loc lg) m (k+1))):=.set t.host (.inr (.inr λl e=>by cases e))
 {t with
  len:=by rw[dt];exact t.len
  cI:=aa t.m1.symm t.cI,cW:=aa t.m5.symm t.cW,host:=au t.host,vals:=aa t.m7 t.vals,log:=aa t.m8 t.log,ref:=aa t.ma.symm t.ref
  rk:=λr key e=>aa (aX t.host (t.rk r key e) (λe=>by cases e)) (t.rk r key e)
  ws:=λx hx=>(t.ws x hx).keep l λy e=>by obtain⟨fs,e2⟩:=(t.ws x hx).inst;exact aa (aX t.host e2 (λe=>by cases e)) e
  way:=by obtain⟨fs,e⟩:=t.way;exact⟨fs,aa t.w3.symm e⟩
  off:=λi h1 h2 h3 h4=>aa h2.symm (t.off i h1 h2 h3 h4) }
theorem CS.uF(t:CS kp H0 mo q h va rf lg m s wl hs k σ H){w:CW}(hw:f9 H q lg wl w):f9 (H.set h (cE (.loc va) (.loc rf) (.loc lg) m (k+1))) q lg wl w:=
 hw.keep (.set t.host (.inr (.inr λl e=>by cases e))) λx e=>aa t.w3.symm e
theorem CS.upd(t:CS kp H0 mo q h va rf lg m s wl hs k σ H)(fs:List (Nat×V)):CS kp H0 mo q h va rf lg m s wl hs k σ (H.set wl (.inst 2 fs)):=by
 obtain⟨gs,hw⟩:=t.way
 have l:LK q lg H (H.set wl (.inst 2 fs)):=.set hw (.inr (.inr λl e=>by cases e))
 exact { t with
  len:=by rw[dt];exact t.len
  cI:=aa t.w1 t.cI,cW:=aa t.w2 t.cW,host:=aa t.w3 t.host,vals:=aa t.w4 t.vals,log:=aa t.w5 t.log,ref:=aa t.w6 t.ref
  rk:=λr key e=>aa (aX hw (t.rk r key e) (λe=>by cases e)) (t.rk r key e)
  ws:=λx hx=>(t.ws x hx).keep l λy e=>aa (t.nd x hx).symm e
  way:=⟨fs,au hw⟩
  off:=λi h1 h2 h3 h4=>aa (dp (d8 h1 t.yC)) (t.off i h1 h2 h3 h4) }
theorem CS.asg(t:CS kp H0 mo q h va rf lg m s wl hs k σ H)(key:List Nat)(v:V):CS kp H0 mo q h va rf lg m s wl hs k (iE σ key v) ((H.set va (.dict (dF key v σ.vals))).set lg (.list (σ.log++[.tup [.str key,v]])))/\LK q lg H ((H.set va (.dict (dF key v σ.vals))).set lg (.list (σ.log++[.tup [.str key,v]]))):=by
 have l1:LK q lg H (H.set va (.dict (dF key v σ.vals))):=.set t.vals (.inr (.inr λl e=>by cases e))
 have l2:LK q lg (H.set va (.dict (dF key v σ.vals))) ((H.set va (.dict (dF key v σ.vals))).set lg (.list (σ.log++[.tup [.str key,v]]))):=.set (aa t.m9 t.log) (.inr (.inl rfl))
 refine⟨{ t with
  len:=by rw[dt,dt];exact t.len
  cI:=aa t.m4.symm (aa t.m3.symm t.cI),cW:=aa t.n4.symm (aa t.m6.symm t.cW),host:=aa t.m8.symm (aa t.m7.symm t.host),vals:=aa t.m9.symm (au t.vals),log:=au (aa t.m9 t.log),ref:=aa t.n3.symm (aa t.mb.symm t.ref)
  rk:=λr key e=>aa (aX t.log (t.rk r key e) (λe=>by cases e)) (aa (aX t.vals (t.rk r key e) (λe=>by cases e)) (t.rk r key e))
  ws:=λx hx=>(t.ws x hx).keep (l1.trans l2) λy e=>by obtain⟨fs,e2⟩:=(t.ws x hx).inst;exact aa (aX t.log e2 (λe=>by cases e)) (aa (aX t.vals e2 (λe=>by cases e)) e)
  way:=by obtain⟨fs,e⟩:=t.way;exact⟨fs,aa t.w5.symm (aa t.w4.symm e)⟩
  off:=λi h1 h2 h3 h4=>aa h4.symm (aa h3.symm (t.off i h1 h2 h3 h4)) },l1.trans l2⟩
theorem CS.push(t:CS kp H0 mo q h va rf lg m s wl hs k σ H)(fs:List (Nat×V))(z:Option CW)(hz:uE ((H++[O.inst 2 fs]).set q (.list (hs.map (λx=>V.loc x.1)++[.loc H.length]))) q lg H.length z):CS kp H0 mo q h va rf lg m s wl (hs++[(H.length,z)]) k σ ((H++[O.inst 2 fs]).set q (.list (hs.map (λx=>V.loc x.1)++[.loc H.length]))):=by
 have l:LK q lg H ((H++[O.inst 2 fs]).set q (.list (hs.map (λx=>V.loc x.1)++[.loc H.length]))):=LK.trans (.app _) (.set (ag t.cW) (.inl rfl))
 obtain⟨gs,hw⟩:=t.way
 exact { t with
  len:=by rw[dt,aK];exact DZ t.len
  cI:=aa t.m2.symm (ag t.cI),cW:=by rw[dK];exact au (ag t.cW),host:=aa t.m5 (ag t.host),vals:=aa t.m6 (ag t.vals),log:=aa t.n4 (ag t.log),ref:=aa t.n5 (ag t.ref)
  rk:=λr key e=>aa (aX t.cW (t.rk r key e) (λe=>by cases e)) (ag (t.rk r key e))
  ws:=λx hx=>(dh.mp hx).elim (λhx=>(t.ws x hx).keep l λy e=>by obtain⟨fs,e2⟩:=(t.ws x hx).inst;exact aa (aX t.cW e2 (λe=>by cases e)) (ag e)) (λhx=>by rw[db.mp hx];exact hz)
  way:=⟨gs,aa t.w2.symm (ag hw)⟩
  nd:=λx hx=>(dh.mp hx).elim (t.nd x) (λhx=>by rw[db.mp hx];exact aH hw)
  HF:=List.pairwise_append.mpr ⟨t.HF,List.pairwise_singleton ..,λx hx y hy=>by rw[db.mp hy];obtain⟨fs,e2⟩:=(t.ws x hx).inst;exact aG e2⟩
  off:=λi h1 h2 h3 h4=>aa (dp (d8 h1 t.Kr)) ((dB (d8 h1 t.len)).trans (t.off i h1 h2 h3 h4))
  w8:=λx hx=>(dh.mp hx).elim (t.w8 x) (λhx=>by rw[db.mp hx];exact t.len) }
theorem CS.pop{z:Nat×Option CW}(t:CS kp H0 mo q h va rf lg m s wl (hs++[z]) k σ H):CS kp H0 mo q h va rf lg m s z.1 hs k σ (H.set q (.list (hs.map λx=>V.loc x.1)))/\uE (H.set q (.list (hs.map λx=>V.loc x.1))) q lg z.1 z.2:=by
 have hz:z∈hs++[z]:=lK _ (.head _)
 have l:LK q lg H (H.set q (.list (hs.map λx=>V.loc x.1))):=.set t.cW (.inl rfl)
 have kw:∀ x∈hs++[z],uE (H.set q (.list (hs.map λx=>V.loc x.1))) q lg x.1 x.2:=λx hx=>(t.ws x hx).keep l λy e=>by obtain⟨fs,e2⟩:=(t.ws x hx).inst;exact aa (aX t.cW e2 (λe=>by cases e)) e
 exact⟨{ t with
  len:=by rw[dt];exact t.len
  cI:=aa t.m2.symm t.cI,cW:=au t.cW,host:=aa t.m5 t.host,vals:=aa t.m6 t.vals,log:=aa t.n4 t.log,ref:=aa t.n5 t.ref
  rk:=λr key e=>aa (aX t.cW (t.rk r key e) (λe=>by cases e)) (t.rk r key e)
  ws:=λx hx=>kw x (iS _ hx)
  way:=(kw z hz).inst
  nd:=λx hx=>(List.pairwise_append.mp t.HF).2.2 x hx z (.head _)
  HF:=(List.pairwise_append.mp t.HF).1
  off:=λi h1 h2 h3 h4=>aa (dp (d8 h1 t.Kr)) (t.off i h1 h2 h3 h4)
  yC:=t.w8 z hz
  w8:=λx hx=>t.w8 x (iS _ hx) },kw z hz⟩
theorem CS.ext(t:CS kp H0 mo q h va rf lg m s wl hs k σ H){H':Hp}(hl:H.length<=H'.length)(hk:∀ i,i<H.length->H'[i]?=H[i]?):CS kp H0 mo q h va rf lg m s wl hs k σ H':=by
 have g:∀{i:Nat}{x:O},H[i]?=some x->H'[i]?=some x:=λ{i x} e=>(hk i (cC e)).trans e
 exact { t with
  len:=bv t.len hl
  cI:=g t.cI,cW:=g t.cW,host:=g t.host,vals:=g t.vals,log:=g t.log,ref:=g t.ref
  rk:=λr key e=>g (t.rk r key e)
  ws:=λx hx=>(t.ws x hx).keep (λi l e _ _=>g e) λy e=>g e
  way:=by obtain⟨fs,e⟩:=t.way;exact⟨fs,g e⟩
  off:=λi h1 h2 h3 h4=>(hk i (d8 h1 t.len)).trans (t.off i h1 h2 h3 h4) }
end
inductive ox(own:List FI)(d:Nat)(t:List Nat)(H:Hp):Prop where
 |mk (o2:Nat) (H3:Hp) (e:ae (ar own) (d+4) 11 [.tup [.str [99,104,97,114,115],.str t]] H=some (.loc o2,H3)) (lo:H.length<=o2) (ho:H3[o2]?=some (.list (List.map oV [.one (.ch t),.done]))) (hl:H.length<=H3.length) (hk:∀ i,i<H.length->H3[i]?=H[i]?):ox own d t H
structure Lc(hs:List (Nat×Option CW))(σ:Hs)(s:List Nat):Prop where
 l:hs.length+s.length+1<lim
 v:σ.vals.length<1024
 g:σ.log.length<lim
 hs:s.length<1000
noncomputable def Bg(own:List FI)(d:Nat)(kp:Nat->Option (List Nat))(H0:Hp)(mo q h va rf lg:Nat)(m:Int)(s:List Nat)(wl:Nat)(hs:List (Nat×Option CW))(k:Nat)(σ:Hs)(od:Od)(H:Hp):mw->Prop
 |.go w' σ' ps=>∀ zg:Prop,(∀(fU:List (Nat×Option CW))(H':Hp),ae (ar own) (d+7) 51 [.loc mo,oV od,.loc wl] H=some (.bool true,H')->CS kp H0 mo q h va rf lg m s wl (hs++fU) k σ' H'->f9 H' q lg wl w'->fU.map (·.2)=ps->zg)->zg
 |.no=>∀ zg:Prop,(∀(H':Hp),ae (ar own) (d+7) 51 [.loc mo,oV od,.loc wl] H=some (.bool false,H')->CS kp H0 mo q h va rf lg m s wl hs k σ H'->zg)->zg
section
variable {kp:Nat->Option (List Nat)}{own:List FI}{d:Nat}{H H0:Hp}{mo q h va rf lg wl:Nat}{m:Int}{s:List Nat}{hs:List (Nat×Option CW)}{k:Nat}{σ:Hs}{w:CW}
theorem CS.jw(t:CS kp H0 mo q h va rf lg m s wl hs k σ H){w':CW}{o:Nat}{ca:V}(ho:H[o]?=some (.list (w'.O.map oV)))(n1:o≠q)(n2:o≠lg)(hc:kh H q lg w'.cs ca):f9 (H.set wl (aY o w'.pc w'.a (ic w'.nm) (i9 w'.i8) ca)) q lg wl w':=by
 obtain⟨gs,hw⟩:=t.way
 have l:LK q lg H (H.set wl (aY o w'.pc w'.a (ic w'.nm) (i9 w'.i8) ca)):=.set hw (.inr (.inr λl e=>by cases e))
 exact⟨o,ca,au hw,l _ _ ho n1 n2,n1,n2,hc.keep l⟩
theorem Bg.go{od:Od}{w':CW}{σ':Hs}{ps:List (Option CW)}(fU:List (Nat×Option CW))(H':Hp)(e:ae (ar own) (d+7) 51 [.loc mo,oV od,.loc wl] H=some (.bool true,H'))(t:CS kp H0 mo q h va rf lg m s wl (hs++fU) k σ' H')(w:f9 H' q lg wl w')(hp:fU.map (·.2)=ps):Bg own d kp H0 mo q h va rf lg m s wl hs k σ od H (.go w' σ' ps):=λ_ zk=>zk fU H' e t w hp
theorem Bg.no{od:Od}(H':Hp)(e:ae (ar own) (d+7) 51 [.loc mo,oV od,.loc wl] H=some (.bool false,H'))(t:CS kp H0 mo q h va rf lg m s wl hs k σ H'):Bg own d kp H0 mo q h va rf lg m s wl hs k σ od H .no:=λ_ zk=>zk H' e t
theorem Bg.same{od:Od}{w':CW}{H':Hp}(e:ae (ar own) (d+7) 51 [.loc mo,oV od,.loc wl] H=some (.bool true,H'))(t:CS kp H0 mo q h va rf lg m s wl hs k σ H')(w:f9 H' q lg wl w'):Bg own d kp H0 mo q h va rf lg m s wl hs k σ od H (.go w' σ []):=
 .go [] H' e (by rw[eU];exact t) w rfl
theorem CS.yD(t:CS kp H0 mo q h va rf lg m s wl hs k σ H)(x:O)(L:List V):LK q lg H ((H++[x]).set q (.list L)):=LK.trans (.app _) (.set (ag t.cW) (.inl rfl))
theorem CS.kH(t:CS kp H0 mo q h va rf lg m s wl hs k σ H)(J6:σ.vals.length<1024)(J7:σ.log.length<lim){r:Nat}{key:List Nat}(hk:kp r=some key)(v:V)(d:Nat):ae (ar own) (d+1) 62 [.loc h,.loc r,v] H=some (.bool true,(H.set va (.dict (dF key v σ.vals))).set lg (.list (σ.log++[.tup [.str key,v]]))):=
 uy t.host (t.rk r key hk) t.ref t.vals J6 t.log J7 t.m7.symm (aX t.vals (t.rk r key hk) (λe=>by cases e)) t.m9
noncomputable def XZ:List V->List Nat->Prop:=λl E=>l=E.map λ(e:Nat)=>V.int e
theorem w9{en:V}{sl:Nat}:∀(E:List Nat)(i f:Nat)(H:Hp)(hs:List (Nat×Option CW))(LL:List V)(x y:Option V),E.length<f->CS kp H0 mo q h va rf lg m s wl hs k σ H->f9 H q lg wl w->H[sl]?=some (.list LL)->sl≠q->sl≠lg->LL.drop i=E.map (λ(e:Nat)=>V.int e)->hs.length+E.length<lim ->
  ∃ l' H' fU,dX (.one 3) (λl H=>aS (ar own) (ae (ar own) (d+3)) bW l H) f (.lst sl i) [some (.loc mo),some (.loc wl),some en,x,y] H=some (.next,[some (.loc mo),some (.loc wl),some en]++l',H')/\CS kp H0 mo q h va rf lg m s wl (hs++fU) k σ H'/\f9 H' q lg wl w/\fU.map (·.2)=E.map (λe=>some { w with a:=e })/\LK q lg H H'
 |[],i,f+1,H,hs,LL,x,y,_,t,hw,fE,n1,n2,hd,_=>by
  have:LL[i]?=none:=sM.mpr (List.drop_eq_nil_iff.mp hd)
  exact⟨[x,y],H,[],sp (pQ fE this),by rw[eU];exact t,hw,rfl,λi l e _ _=>e⟩
 |e::E,i,f+1,H,hs,LL,x,y,hf,t,hw,fE,n1,n2,hd,rG=>by
  have hx:LL[i]?=some (.int e):=by rw[← List.head?_drop,hd];rfl
  have hd2:LL.drop (i+1)=E.map (λ(e:Nat)=>V.int e):=by rw[← List.drop_drop,hd];rfl
  obtain⟨o,ca,vI,ho,m1,m2,hc⟩:=hw
  have l:=t.yD (aY o w.pc e (ic w.nm) (i9 w.i8) ca) (hs.map (λx=>V.loc x.1)++[.loc H.length])
  have hz:uE ((H++[aY o w.pc e (ic w.nm) (i9 w.i8) ca]).set q (.list (hs.map (λx=>V.loc x.1)++[.loc H.length]))) q lg H.length (some { w with a:=e }):=
   ⟨o,ca,aa (aG t.cW) am,l _ _ ho m1 m2,m1,m2,hc.keep l⟩
  have t1:=t.push _ _ hz
  have kR:f9 ((H++[aY o w.pc e (ic w.nm) (i9 w.i8) ca]).set q (.list (hs.map (λx=>V.loc x.1)++[.loc H.length]))) q lg wl w:=
   ⟨o,ca,aa t.w2.symm (ag vI),l _ _ ho m1 m2,m1,m2,hc.keep l⟩
  obtain⟨l',H',fU,e1,t2,w2,h2,l2⟩:=w9 E (i+1) f _ _ LL (some (.int e)) (some (.loc H.length)) (oX hf) t1 kR (l _ _ fE n1 n2) n1 n2 hd2 (by rw[aK];show hs.length+1+E.length<lim;rw[c9] at rG;exact nl (aj [_,_,_] (.d (.s (.a ab (.s af))) aq (.d aq (.a (.s ab) af) .z)) rfl rG))
  refine⟨l',H',(H.length,some { w with a:=e })::fU,mq (qO fE hx) rfl (HC t.cI vI t.cW (by rw[cn];exact nl (aj [_,_,_] (.d (.s (.a ab af)) aq (.d aq ab .z)) rfl rG))) e1,by rw[List.append_cons];exact t2,w2,?_,l.trans l2⟩
  show _::_=_::_
  rw[h2]
theorem Do{n:Nat}{l:List V}(h:H[n]?=some (.list l)):mL (.loc n) .none (.int 0) (.int (-1)) H=some (.loc H.length,H++[.list (l.drop 1).reverse]):=by
 refine(dj h).trans ?_
 rfl
theorem HG{e0:Nat}{E:List Nat}{en:Nat}(t:CS kp H0 mo q h va rf lg m s wl hs k σ H)(hw:f9 H q lg wl w)(c:hs.length+E.length<lim)(hE:E.length<1000000)(Nr:H[en]?=some (.list ((e0::E).map λ(e:Nat)=>V.int e)))(q1:en≠q)(q2:en≠lg) :
  ∃ fU H',ae (ar own) (d+4) 55 [.loc mo,.loc wl,.loc en] H=some (.bool true,H')/\CS kp H0 mo q h va rf lg m s wl (hs++fU) k σ H'/\f9 H' q lg wl { w with pc:=w.pc+1,a:=e0 }/\fU.map (·.2)=E.reverse.map λe=>some { w with pc:=w.pc+1,a:=e }:=by
 obtain⟨o,ca,vI,ho,n1,n2,hc⟩:=hw
 have WD:¬ ((((e0::E).map λ(e:Nat)=>V.int e).length:Int)=0):=by rw[cn,c9];omega
 have t2:=t.upd [(0,.loc o),(1,.int (w.pc+1:Nat)),(2,.int w.a),(3,ic w.nm),(4,i9 w.i8),(5,ca)]
 have w2:f9 (H.set wl (aY o (w.pc+1) w.a (ic w.nm) (i9 w.i8) ca)) q lg wl { w with pc:=w.pc+1 }:=t.jw (w':={ w with pc:=w.pc+1 }) ho n1 n2 hc
 have l2:LK q lg H (H.set wl (aY o (w.pc+1) w.a (ic w.nm) (i9 w.i8) ca)):=.set vI (.inr (.inr λl e=>by cases e))
 have Ks:=l2 _ _ Nr q1 q2
 generalize Un:H.set wl (aY o (w.pc+1) w.a (ic w.nm) (i9 w.i8) ca)=H1 at t2 w2 Ks l2
 have Uo:=Do Ks
 have hq:=cC t2.cW
 have Nf:=cC t2.log
 have t3:=t2.ext (H':=H1++[.list ((((e0::E).map λ(e:Nat)=>V.int e).drop 1).reverse)]) (by rw[aK];exact dq ..) λi hi=>dB hi
 have w3:=w2.keep (H':=H1++[.list ((((e0::E).map λ(e:Nat)=>V.int e).drop 1).reverse)]) (.app _) λx e=>ag e
 have WE:(((e0::E).map λ(e:Nat)=>V.int e).drop 1).reverse=E.reverse.map (λ(e:Nat)=>V.int e):=vQ.symm
 have fE:(H1++[O.list ((((e0::E).map λ(e:Nat)=>V.int e).drop 1).reverse)])[H1.length]?=some (.list (E.reverse.map (λ(e:Nat)=>V.int e))):=by rw[← WE];exact am
 obtain⟨l',H',fU,e1,t4,w4,h4,l4⟩:=w9 (own:=own) (d:=d) (en:=.loc en) (sl:=H1.length) E.reverse 0 1048576 _ hs _ none none (by rw[lI];exact nl (aj [_] (.d (.s ab) (.n 1000000) (.d (.n 1048576) ab .z)) rfl hE)) t3 w3 fE (dp hq) (dp Nf) rfl (by rw[lI];exact nl (aj [_,_,_] (.d (.s (.a ab af)) aq (.d aq (.a ab af) .z)) rfl c))
 obtain⟨o4,WF,vJ,WG,m1,m2,WH⟩:=w4
 have Up:H'[en]?=some (.list ((e0::E).map λ(e:Nat)=>V.int e)):=l4 _ _ (ag Ks) q1 q2
 have WI:((e0::E).map λ(e:Nat)=>V.int e)[0]?=some (.int e0):=rfl
 refine⟨fU,H'.set wl (aY o4 (w.pc+1) e0 (ic w.nm) (i9 w.i8) WF),?_,t4.upd _,t4.jw (w':={ w with pc:=w.pc+1,a:=e0 }) WG m1 m2 WH,h4⟩
 subst Un
 exact ac rfl rfl (bh (ax (bl rfl (dN Nr)) ak (uw (q:=false) (decide_eq_false WD))) (ah (hV rfl (ay vI rfl) ak rfl (cg vI)) (ah (ju (i4 rfl ak ak rfl Uo) (mr fE) e1) (ah (eg (aR rfl ak (cr Up (AZ (k:=0) WI))) rfl (cg vJ)) rfl))))
theorem Kt(t:CS kp H0 mo q h va rf lg m s wl hs k σ H)(hw:f9 H q lg wl w)(ha:w.a<=s.length)(c:Lc hs σ s):Bg own d kp H0 mo q h va rf lg m s wl hs k σ .iF H (.go { w with pc:=w.pc+1 } σ ((List.range' (w.a+1) (s.length-w.a)).reverse.map λe=>some { w with pc:=w.pc+1,a:=e })):=by
 have cl:=c.l
 have WK:=c.hs
 have WL:wZ s w.a=(w.a::List.range' (w.a+1) (s.length-w.a)).map (λ(e:Nat)=>V.int e):=by
  show(List.range' w.a (s.length+1-w.a)).map _=_
  rw[show s.length+1-w.a=(s.length-w.a)+1 by omega,List.range'_succ]
 have t1:=t.ext (H':=H++[.list (wZ s w.a)]) (by rw[aK];exact dq ..) λi hi=>dB hi
 have w1:=hw.keep (H':=H++[.list (wZ s w.a)]) (.app _) λx e=>ag e
 obtain⟨o,ca,dW,ho,n1,n2,hc⟩:=hw
 have Nr:(H++[O.list (wZ s w.a)])[H.length]?=some (.list ((w.a::List.range' (w.a+1) (s.length-w.a)).map (λ(e:Nat)=>V.int e))):=by rw[← WL];exact am
 obtain⟨fU,H',e1,t4,w4,h4⟩:=HG (own:=own) (d:=d+1) t1 w1 (by rw[List.length_range'];omega) (by rw[List.length_range'];omega) Nr (dp (cC t.cW)) (dp (cC t.log))
 refine .go fU H' ?_ t4 w4 h4
 exact ib rfl rfl rfl rfl rfl rfl t.cI (HE t.cI dW (HB (yA WK ha)) t1.cI e1)
end
section
variable {kp:Nat->Option (List Nat)}{own:List FI}{d:Nat}{H H0:Hp}{mo q h va rf lg wl:Nat}{m:Int}{s:List Nat}{hs:List (Nat×Option CW)}{k:Nat}{σ:Hs}{w:CW}
theorem pT(hC:∀ t H,ox own d t H){od:Od}{A:mw}(X:eR kp s od w σ A)(t:CS kp H0 mo q h va rf lg m s wl hs k σ H)(hw:f9 H q lg wl w)(c:Lc hs σ s):Bg own d kp H0 mo q h va rf lg m s wl hs k σ od H A:=by
  have Uq:s.length<1048576:=nB c.hs (by decide)
  have Ur:(hs.map λx=>V.loc x.1).length<lim:=by rw[cn];have:=c.l;exact nl (aj [_,_,_] (.d (.s (.s (.a ab af))) aq (.d aq ab .z)) rfl this)
  induction X with
 |@w7 x w σ e0 e=>
    obtain⟨o,ca,dW,ho,n1,n2,hc⟩:=hw
    exact .same (done_one t.cI (Np Uq t.cI dW e)) (t.upd _) (t.jw (w':={ w with pc:=w.pc+1,a:=_ }) ho n1 n2 hc)
 |@uC x w σ e=>
    obtain⟨o,ca,dW,ho,n1,n2,hc⟩:=hw
    exact .no H (done_one t.cI (Nq Uq t.cI dW e)) t
 |@iF w σ e=>exact Kt t hw e c
 |@split g w σ=>
    obtain⟨o,ca,dW,ho,n1,n2,hc⟩:=hw
    have l:=t.yD (aY o g w.a (ic w.nm) (i9 w.i8) ca) (hs.map (λx=>V.loc x.1)++[.loc H.length])
    have t1:=t.push _ (some { w with pc:=g }) ⟨o,ca,aa (aG t.cW) am,l _ _ ho n1 n2,n1,n2,hc.keep l⟩
    exact .go [(H.length,some { w with pc:=g })] _ (Bb t.cI dW t.cW Ur t.w2) (t1.upd _) (t1.jw (w':={ w with pc:=w.pc+1 }) (l _ _ ho n1 n2) n1 n2 (hc.keep l)) rfl
 |@df g w σ=>
    obtain⟨o,ca,dW,ho,n1,n2,hc⟩:=hw
    exact .same (Dj dW) (t.upd _) (t.jw (w':={ w with pc:=_ }) ho n1 n2 hc)
 |@mark w σ=>
    obtain⟨o,ca,dW,ho,n1,n2,hc⟩:=hw
    exact .same (Dk dW) (t.upd _) (t.jw (w':={ w with pc:=w.pc+1,i8:=w.a::w.i8 }) ho n1 n2 hc)
 |@name r O pc a nm b mk cs σ=>
    obtain⟨o,ca,dW,ho,n1,n2,hc⟩:=hw
    exact .same (iC (mv (o2:=o) (pc2:=pc) (a2:=a) (nm2:=ic ((r,(s.take a).drop b)::nm)) (mk2:=i9 mk) (ca2:=ca) rfl rfl rfl rfl rfl t.cI (Be t.cI dW t.w1.symm) (au dW)) (by rw[oY])) (t.upd _) (t.jw (w':=⟨O,pc+1,a,(r,(s.take a).drop b)::nm,mk,cs⟩) ho n1 n2 hc)
 |@set r key O pc a nm b mk cs σ e=>
    obtain⟨o,ca,dW,ho,n1,n2,hc⟩:=hw
    have t1:=t.upd [(0,.loc o),(1,.int pc),(2,.int a),(3,ic nm),(4,i9 mk),(5,ca)]
    have w1:f9 (H.set wl (aY o pc a (ic nm) (i9 mk) ca)) q lg wl ⟨O,pc,a,nm,mk,cs⟩:=t.jw (w':=⟨O,pc,a,nm,mk,cs⟩) ho n1 n2 hc
    obtain⟨t2,l2⟩:=t1.asg key (.str ((s.take a).drop b))
    have w2:=w1.keep l2 λx e=>aa t1.w5.symm (aa t1.w4.symm e)
    obtain⟨o2,ca2,kR,ly,m1,m2,jg⟩:=w2
    exact .go [] _ (mv rfl rfl rfl rfl rfl t.cI (Dl t.cI dW t.w1.symm (t1.kH c.v c.g e _ _) ⟨_,t.host⟩ t.w3.symm) kR) (by rw[eU];exact t2.upd _) (t2.jw (w':=⟨O,pc+1,a,nm,mk,cs⟩) ly m1 m2 jg) rfl
 |@uD O pc a nm b mk cs σ e=>
    obtain⟨o,ca,dW,ho,n1,n2,hc⟩:=hw
    exact .same (iC (mv (o2:=o) (pc2:=pc) (a2:=a) (nm2:=ic nm) (mk2:=i9 mk) (ca2:=ca) rfl rfl rfl rfl rfl t.cI (rI t.cI dW t.w1.symm (decide_eq_true e)) (au dW)) (by rw[oY])) (t.upd _) (t.jw (w':=⟨O,pc+1,a,nm,mk,cs⟩) ho n1 n2 hc)
 |ow e=>
    obtain⟨o,ca,dW,ho,n1,n2,hc⟩:=hw
    exact .no _ (yz t.cI (rI t.cI dW t.w1.symm (decide_eq_false e))) (t.upd _)
 |@place r key w σ e=>
    have Us:=hw
    obtain⟨o,ca,dW,ho,n1,n2,hc⟩:=hw
    obtain⟨t2,l2⟩:=t.asg key (.int w.a)
    have w2:=Us.keep l2 λx e=>aa t.w5.symm (aa t.w4.symm e)
    obtain⟨o2,ca2,kR,ly,m1,m2,jg⟩:=w2
    exact .go [] _ (Bf t.cI dW (t.kH c.v c.g e _ _) ⟨_,t.host⟩ kR) (by rw[eU];exact t2.upd _) (t2.jw (w':={ w with pc:=w.pc+1 }) ly m1 m2 jg) rfl
 |@ask key tx w σ e=>
    obtain⟨o,ca,dW,ho,n1,n2,hc⟩:=hw
    have jg:kh H q lg ((w.O,w.pc+1)::w.cs) (.tup [ca,.tup [.loc o,.int (w.pc+1:Nat)]]):=.cons ho n1 n2 hc
    have t1:=t.upd [(0,.loc o),(1,.int w.pc),(2,.int w.a),(3,ic w.nm),(4,i9 w.i8),(5,.tup [ca,.tup [.loc o,.int (w.pc+1:Nat)]])]
    have l1:LK q lg H (H.set wl (aY o w.pc w.a (ic w.nm) (i9 w.i8) (.tup [ca,.tup [.loc o,.int (w.pc+1:Nat)]]))):=.set dW (.inr (.inr λl e=>by cases e))
    obtain⟨o2,H3,ec,lo,RE,Dp,RF⟩:=hC tx (H.set wl (aY o w.pc w.a (ic w.nm) (i9 w.i8) (.tup [ca,.tup [.loc o,.int (w.pc+1:Nat)]])))
    have t2:=t1.ext Dp RF
    have l3:LK q lg (H.set wl (aY o w.pc w.a (ic w.nm) (i9 w.i8) (.tup [ca,.tup [.loc o,.int (w.pc+1:Nat)]]))) H3:=λi l e _ _=>(RF i (cC e)).trans e
    have vJ:H3[wl]?=some (aY o w.pc w.a (ic w.nm) (i9 w.i8) (.tup [ca,.tup [.loc o,.int (w.pc+1:Nat)]])):=(RF wl (by rw[dt];exact cC dW)).trans (au dW)
    have q1:o2≠q:=dp (d8 (cC t1.cW) lo)
    have q2:o2≠lg:=dp (d8 (cC t1.log) lo)
    exact .same (ib rfl rfl rfl rfl rfl rfl t.cI (Kp t.cI (HA t.cI dW ⟨_,t.host⟩ (wT t.host t.vals) e ec vJ))) (t2.upd _) (t2.jw (w':={ w with O:=[.one (.ch tx),.done],pc:=0,cs:=(w.O,w.pc+1)::w.cs }) RE q1 q2 (jg.keep (l1.trans l3)))
 |@done O pc a nm mk O2 pc2 cs σ=>
    obtain⟨o,ca,dW,ho,n1,n2,hc⟩:=hw
    cases hc with
   |cons h2 m1 m2 jg=>exact .same (ib rfl rfl rfl rfl rfl rfl t.cI (Hz dW)) (t.upd _) (t.jw (w':=⟨O2,pc2,a,nm,mk,cs⟩) h2 m1 m2 jg)
 |@fence w σ=>
    have Us:=hw
    obtain⟨o,ca,dW,ho,n1,n2,hc⟩:=hw
    have l:=t.yD A9 (hs.map (λx=>V.loc x.1)++[.loc H.length])
    have t1:=t.push _ none (show _=some A9 from aa (aG t.cW) am)
    exact .go [(H.length,none)] _ (ib rfl rfl rfl rfl rfl rfl t.cI (Dn t.cI dW t.cW Ur t.w2)) (t1.upd _) (t1.jw (w':={ w with pc:=w.pc+1 }) (l _ _ ho n1 n2) n1 n2 (hc.keep l)) rfl
 |fail=>exact .no H (ib rfl rfl rfl rfl rfl rfl t.cI Hy) t
end
theorem RG(od:Od):(yB od==[97,98,111,114,116])=false:=by induction od <;> rfl
noncomputable def tR:ME:=(.cmp .fB (.loc 3) (.lit .none))
noncomputable def HH:List MS:=[(.aB (.not (.bm (.loc 0) 110 [(.loc 4),(.loc 3)])) [(.asg (.loc 3) (.bm (.loc 0) 109 [])),(.aB (.and [(.cmp .fB (.loc 3) (.lit .none)),(.cmp .is (.attr (.loc 3) 0) (.lit .none))]) [(.ret (.tup [(.glob (.int 2)),(.lit .none)]))] [])] [])]
noncomputable def bR:List MS:=(.expr (.bm (.attr (.loc 0) 7) 118 []))::(.asg (.loc 4) (.idx (.attr (.loc 3) 0) (.attr (.loc 3) 1)))::(.aB (.and [(.cmp .eq (.idx (.loc 4) (.lit (.int 0))) (.glob (.str [100,111,110,101]))),(.cmp .is (.attr (.loc 3) 5) (.lit .none))]) [(.ret (.tup [(.glob (.int 0)),(.loc 3)]))] [])::(.aB (.cmp .eq (.idx (.loc 4) (.lit (.int 0))) (.glob (.str [97,98,111,114,116]))) [(.ret (.tup [(.glob (.int 2)),(.lit .none)]))] [])::HH
noncomputable abbrev rl(mo:Nat)(o bg:V)(w y:V):Lo:=[some (.loc mo),some o,some bg,some w,some y]
section
variable {own:List FI}{d:Nat}{H:Hp}{h mo q o wl pc a:Nat}{va rf lg nm mk ca:V}{m k:Int}{s:List Nat}{OV:List V}{od:Od}{o1 bg:V}{y:Option V}{H2 H3:Hp}
theorem sy{R:SR}(hh:H[h]?=some (cE va rf lg m k))(hk:k<m)(hm:H[mo]?=some (cZ s h q))(hw:H[wl]?=some (aY o pc a nm mk ca))(ho:H[o]?=some (.list OV))(n2:wl≠h)(qQ:OV[pc]?=some (oV od))(hx:(yB od==[100,111,110,101])=false\/fG ca=false)(hq:aS (ar own) (ae (ar own) (d+7)) HH (rl mo o1 bg (.loc wl) (oV od)) (H.set h (cE va rf lg m (k+1)))=R):aS (ar own) (ae (ar own) (d+7)) bR [some (.loc mo),some o1,some bg,some (.loc wl),y] H=R:=
 have n3:o≠h:=aX ho hh (λe=>by cases e)
 have Ut:=bh (ax rfl ce (cM (RG od))) hq
 ah (i5 (aP (aC rfl (ay hm rfl)) hh rfl rfl bA (pR hh hk))) (bk (aR (aC rfl (ay (aa n2.symm hw) rfl)) (aC rfl (ay (aa n2.symm hw) rfl)) (cr (aa n3.symm ho) (pN rfl qQ)))
   (match Bool.eq_false_or_eq_true (yB od==[100,111,110,101]) with
  |.inr hx=>bh (ed (ax rfl ce (cM hx))) Ut
  |.inl h1=>bh (dA (ax rfl ce (cM h1)) (ed (ax (aC rfl (ay (aa n2.symm hw) rfl)) ak (congrArg some (hx.resolve_left λe=>absurd (h1.symm.trans e) (by decide)))))) Ut))
theorem RH(n1:mo≠h)(hm:H[mo]?=some (cZ s h q))(hd:ae (ar own) (d+7) 51 [.loc mo,oV od,.loc wl] (H.set h (cE va rf lg m (k+1)))=some (.bool true,H2)):aS (ar own) (ae (ar own) (d+7)) HH (rl mo o1 bg (.loc wl) (oV od)) (H.set h (cE va rf lg m (k+1)))=some (.next,rl mo o1 bg (.loc wl) (oV od),H2):=
 bh (ou (aP rfl (aa n1.symm hm) rfl rfl rfl hd)) aJ
section
variable (n1:mo≠h)(hm:H[mo]?=some (cZ s h q))(hd:ae (ar own) (d+7) 51 [.loc mo,oV od,.loc wl] (H.set h (cE va rf lg m (k+1)))=some (.bool false,H2))(Kq:H2[mo]?=some (cZ s h q))
include n1 hm hd Kq
theorem Ku{o2:V}{w2:Nat}{fs:List (Nat×V)}(hb:ae (ar own) (d+7) 50 [.loc mo] H2=some (.loc w2,H3))(kR:H3[w2]?=some (.inst 2 ((0,o2)::fs)))(ly:fG o2=false):aS (ar own) (ae (ar own) (d+7)) HH (rl mo o1 bg (.loc wl) (oV od)) (H.set h (cE va rf lg m (k+1)))=some (.next,rl mo o1 bg (.loc w2) (oV od),H3):=
 ah (cf (ou (aP rfl (aa n1.symm hm) rfl rfl rfl hd)) (bk (aP rfl Kq rfl rfl bA hb) (bh (dA rfl (ed (ax (aC rfl (ay kR rfl)) ak (congrArg some ly)))) aJ))) aJ
theorem Kv{w2:Nat}(hb:ae (ar own) (d+7) 50 [.loc mo] H2=some (.loc w2,H3))(kR:H3[w2]?=some A9):aS (ar own) (ae (ar own) (d+7)) HH (rl mo o1 bg (.loc wl) (oV od)) (H.set h (cE va rf lg m (k+1)))=some (.ret (.tup [.int 2,.none]),rl mo o1 bg (.loc w2) (oV od),H3):=
 aW (ou (aP rfl (aa n1.symm hm) rfl rfl rfl hd)) (bk (aP rfl Kq rfl rfl bA hb) (aW (dA rfl (dA (ax (aC rfl (ay kR rfl)) ak rfl) jt)) rfl))
theorem Nt(hb:ae (ar own) (d+7) 50 [.loc mo] H2=some (.none,H3)):aS (ar own) (ae (ar own) (d+7)) HH (rl mo o1 bg (.loc wl) (oV od)) (H.set h (cE va rf lg m (k+1)))=some (.next,rl mo o1 bg .none (oV od),H3):=
 ah (cf (ou (aP rfl (aa n1.symm hm) rfl rfl rfl hd)) (bk (aP rfl Kq rfl rfl bA hb) rfl)) aJ
end
theorem Nv(hh:H[h]?=some (cE va rf lg m k))(hk:k<m)(hm:H[mo]?=some (cZ s h q))(hw:H[wl]?=some (aY o pc a nm mk .none))(ho:H[o]?=some (.list OV))(n2:wl≠h)(qQ:OV[pc]?=some (oV .done)):aS (ar own) (ae (ar own) (d+7)) bR [some (.loc mo),some o1,some bg,some (.loc wl),y] H=some (.ret (.tup [.int 0,.loc wl]),rl mo o1 bg (.loc wl) (oV .done),(H.set h (cE va rf lg m (k+1)))):=
 have n3:o≠h:=aX ho hh (λe=>by cases e)
 ah (i5 (aP (aC rfl (ay hm rfl)) hh rfl rfl bA (pR hh hk))) (bk (aR (aC rfl (ay (aa n2.symm hw) rfl)) (aC rfl (ay (aa n2.symm hw) rfl)) (cr (aa n3.symm ho) (pN rfl qQ))) (aW (dA rfl (dA (ax (aC rfl (ay (aa n2.symm hw) rfl)) ak rfl) jt)) rfl))
theorem Bh:av (ar own) (ae (ar own) (d+7)) tR [some (.loc mo),some o1,some bg,some (.loc wl),y] H=some (.bool true,H):=by kernel_rfl
theorem Uu:av (ar own) (ae (ar own) (d+7)) tR [some (.loc mo),some o1,some bg,some .none,y] H=some (.bool false,H):=by kernel_rfl
end
structure Bc(K:List (List Nat))(s:List Nat)(j k:Nat)(L:List (Option CW))(w:CW)(σ:Hs):Prop where
 l:L.length<=k*(s.length+1)
 n:w.nm.length<=k
 ws:∀ z∈L,∀ u,z=some u->u.nm.length<=k
 g:σ.log.length<=j+k
 v:Kd K σ.vals
section
variable {kp:Nat->Option (List Nat)}{own:List FI}{d:Nat}{H H0:Hp}{mo q h va rf lg wl:Nat}{m:Int}{s:List Nat}{hs:List (Nat×Option CW)}{k j:Nat}{σ:Hs}{w:CW}{K:List (List Nat)}{L:List (Option CW)}
theorem Bc.pop{w2:CW}(b:Bc K s j k (L++[some w2]) w σ):Bc K s j (k+1) L w2 σ:=
 ⟨bv (bv (by rw[aK];exact dq ..) b.l) (yZ _ (fA _)),eD (b.ws _ (lK _ (.head _)) w2 rfl),λz hz u e=>eD (b.ws z (iS _ hz) u e),eD b.g,b.v⟩
structure Uv(K:List (List Nat))(s:List Nat)(w w':CW)(σ σ':Hs)(ps:List (Option CW)):Prop where
 l:ps.length<=s.length+1
 n:w'.nm.length<=w.nm.length+1
 ws:∀ z∈ps,∀ u,z=some u->u.nm=w.nm
 g:σ'.log.length<=σ.log.length+1
 v:Kd K σ.vals->Kd K σ'.vals
theorem Uw{w:CW}{z:Option CW}(hz:∀ u,z=some u->u.nm=w.nm):∀ y∈[z],∀ u,y=some u->u.nm=w.nm:=λy hy u e=>hz u ((db.mp hy).symm.trans e)
noncomputable def WM(K:List (List Nat))(s:List Nat)(w:CW)(σ:Hs):mw->Prop
 |.go w' σ' ps=>Uv K s w w' σ σ' ps
 |.no=>True
theorem eR.RI(hK:∀ q key,kp q=some key->key∈K){od:Od}{A:mw}(X:eR kp s od w σ A):WM K s w σ A:=by
  induction X with
 |iF e=>exact⟨by rw[cn,lI,List.length_range'];omega,fA _,(λz hz u e=>by obtain⟨x,_,rfl⟩:=lH.mp hz;cases e;rfl),fA _,id⟩
 |split=>exact⟨eL ..,fA _,(Uw λu e=>by cases e;rfl),fA _,id⟩
 |fence=>exact⟨eL ..,fA _,(Uw λu e=>by cases e),fA _,id⟩
 |set e=>exact⟨cF _,fA _,(λz hz=>nomatch hz),bx (kc ..),λh=>h.put (hK _ _ e) _⟩
 |place e=>exact⟨cF _,fA _,(λz hz=>nomatch hz),bx (kc ..),λh=>h.put (hK _ _ e) _⟩
 |name=>exact⟨cF _,aE _,(λz hz=>nomatch hz),fA _,id⟩
 |uC=>trivial
 |ow=>trivial
 |fail=>trivial
 |_=>exact⟨cF _,fA _,(λz hz=>nomatch hz),fA _,id⟩
theorem eR.facts(hK:∀ q key,kp q=some key->key∈K){od:Od}{w':CW}{σ':Hs}{ps:List (Option CW)}(X:eR kp s od w σ (.go w' σ' ps)):Uv K s w w' σ σ' ps:=X.RI hK
theorem Bc.go(hK:∀ q key,kp q=some key->key∈K)(b:Bc K s j k L w σ){od:Od}{w':CW}{σ':Hs}{ps:List (Option CW)}(X:eR kp s od w σ (.go w' σ' ps)):Bc K s j (k+1) (L++ps) w' σ':=by
 obtain⟨f1,f2,f3,f4,f5⟩:=X.facts hK
 have b1:=b.l
 have b2:=b.n
 have b3:=b.g
 exact⟨by rw[aK,Nat.succ_mul];exact nt (aj [_,_,_,_] (.d ab (.s af) (.d aq aA (.d (.s (.a aA (.s af))) (.a aq ab) .z))) rfl f1 b1),by exact nt (aj [_,_,_] (.d ab (.s af) (.d af aq (.d (.s (.s aq)) ab .z))) rfl f2 b2),λz hz u e=>(dh.mp hz).elim (λhz=>eD (b.ws z hz u e)) (λhz=>by rw[f3 z hz u e];exact nt (aj [_,_] (.d ab af (.d (.s (.s af)) ab .z)) rfl b2)),by exact nt (aj [_,_,_,_] (.d ab (.s af) (.d af (.a aq aA) (.d (.s (.a aq (.s aA))) ab .z))) rfl f4 b3),f5 b.v⟩
theorem Bc.lc(b:Bc K s j k L w σ)(hL:hs.map (·.2)=L)(hk:(k:Int)<m)(hm:m<100000)(hb:m*(s.length+1)<=1000000)(hj:j<=100000)(hK:K.length<1024)(j4:s.length<1000):Lc hs σ s:=by
 have b1:=b.l
 have b3:=b.g
 rw[← hL,cn] at b1
 have h1:((k*(s.length+1):Nat):Int)<=1000000:=by
  have:(k:Int)*((s.length+1:Nat):Int)<=m*((s.length+1:Nat):Int):=Int.mul_le_mul_of_nonneg_right (Int.le_of_lt hk) (nF _)
  rw[Int.natCast_mul];exact Int.le_trans this hb
 exact⟨by unfold lim;omega,jM b.v.len hK,by unfold lim;omega,j4⟩
inductive kS(x:SR)(kp:Nat->Option (List Nat))(H0:Hp)(mo q h va rf lg:Nat)(m:Int)(s:List Nat)(τ:Hs)(k':Nat):fe->Prop where
 |met (w:CW) (l':Lo) (H':Hp) (uG:Nat) (fU:List (Nat×Option CW)) (e:x=some (.ret (.tup [.int 0,.loc uG]),l',H')) (t:CS kp H0 mo q h va rf lg m s uG fU k' τ H') (hw:f9 H' q lg uG w) (hn:w.nm.length<=k'):kS x kp H0 mo q h va rf lg m s τ k' (.met w)
 |cz (l':Lo) (H':Hp) (uG:Nat) (fU:List (Nat×Option CW)) (e:x=some (.next,l',H')) (t:CS kp H0 mo q h va rf lg m s uG fU k' τ H'):kS x kp H0 mo q h va rf lg m s τ k' .cz
 |bi (l':Lo) (H':Hp) (uG:Nat) (fU:List (Nat×Option CW)) (e:x=some (.ret (.tup [.int 2,.none]),l',H')) (t:CS kp H0 mo q h va rf lg m s uG fU k' τ H'):kS x kp H0 mo q h va rf lg m s τ k' .bi
theorem kS.of{x y:SR}(e0:x=y){τ:Hs}{k':Nat}{R:fe}(r:kS y kp H0 mo q h va rf lg m s τ k' R):kS x kp H0 mo q h va rf lg m s τ k' R:=e0▸r
structure Rg(kp:Nat->Option (List Nat))(K:List (List Nat))(s:List Nat)(m:Int)(j:Nat):Prop where
 g:Gx kp K s m j
 hb:m*(s.length+1)<=1000000
theorem eR.dn{od:Od}{A:mw}{ca:V}{H:Hp}(X:eR kp s od w σ A)(hc:kh H q lg w.cs ca):(yB od==[100,111,110,101])=false\/fG ca=false:=by
  induction X with
 |done=>exact .inr (by cases hc;rfl)
 |_=>exact .inl rfl
theorem CS.OP{j4:List (Nat×Option CW)}{i:Nat}{x:Option CW}{H:Hp}{wl:Nat}(t:CS kp H0 mo q h va rf lg m s wl hs k σ H)(e:hs=j4++[(i,x)]):CS kp H0 mo q h va rf lg m s i j4 k σ (H.set q (.list (j4.map λx=>V.loc x.1)))/\uE (H.set q (.list (j4.map λx=>V.loc x.1))) q lg i x:=(e▸t:CS kp H0 mo q h va rf lg m s wl (j4++[(i,x)]) k σ H).pop
theorem CS.Kw{j4:List (Nat×Option CW)}{i:Nat}{x:Option CW}{H:Hp}{wl:Nat}(t:CS kp H0 mo q h va rf lg m s wl hs k σ H)(e:hs=j4++[(i,x)]):H[q]?=some (.list (j4.map (λx=>V.loc x.1)++[.loc i])):=by have:=t.cW;rw[e,dK] at this;exact this
theorem CS.RJ{H:Hp}{wl:Nat}(t:CS kp H0 mo q h va rf lg m s wl hs k σ H)(e:hs.map (·.2)=[]):H[q]?=some (.list []):=by have:=t.cW;rw[List.map_eq_nil_iff.mp e] at this;exact this
theorem f9.fst{H:Hp}{wl:Nat}(hw:f9 H q lg wl w){zg:Prop}(zk:∀ o2 fs,H[wl]?=some (.inst 2 ((0,.loc o2)::fs))->zg):zg:=match hw with
 |⟨_,_,h,_,_,_,_⟩=>zk _ _ h
theorem kh.Nw{ca:V}{H:Hp}{cs:List (List Od×Nat)}(hc:kh H q lg cs ca)(e:cs=[]):ca=.none:=by induction hc <;> first|rfl|cases e
theorem xb{x:Option CW}(h:hs.map (·.2)=L++[x]){zg:Prop}(zk:∀ j4 i,hs=j4++[(i,x)]->j4.map (·.2)=L->zg):zg:=by
 rcases List.eq_nil_or_concat hs with rfl|⟨j4,z,rfl⟩
 ·exact absurd h (by simp)
 ·rw[List.concat_eq_append,dK] at h
  obtain⟨a,b⟩:=List.append_inj' h rfl
  cases List.singleton_inj.mp b
  exact zk j4 z.1 List.concat_eq_append a
section
variable {tv:Lo->Hp->Option (V×Hp)}{bd:Lo->Hp->SR}{n:Nat}{l l2:Lo}{H1 H2:Hp}{u:V}
theorem Nx(h0:0<n)(h1:tv l H=some (.bool false,H1)):dG tv bd n l H=some (.next,l,H1):=by
  induction n using Nat.casesOn with
 |zero=>exact absurd h0 (oQ 0)
 |succ n=>exact iJ h1
theorem uH{q:SR}(h0:0<n)(h1:tv l H=some (.bool true,H1))(h2:bd l H1=some (.next,l2,H2))(h3:dG tv bd (n-1) l2 H2=q):dG tv bd n l H=q:=by
  induction n using Nat.casesOn with
 |zero=>exact absurd h0 (oQ 0)
 |succ n=>exact hZ h1 h2 h3
theorem Fj(h0:0<n)(h1:tv l H=some (.bool true,H1))(h2:bd l H1=some (.ret u,l2,H2)):dG tv bd n l H=some (.ret u,l2,H2):=by
  induction n using Nat.casesOn with
 |zero=>exact absurd h0 (oQ 0)
 |succ n=>exact M5 h1 h2
end
theorem qR{k k' f:Nat}(h1:k+1<=k')(h2:k'<k+f):0<f:=Nat.pos_of_ne_zero λe=>by rw[e] at h2;exact oQ _ (d8 (vS h2) h1)
theorem Fk{k k' f:Nat}(h1:k+1<=k')(h2:k'<k+f):k'<k+1+(f-1):=by rw[cb,Nat.add_sub_cancel' (qR h1 h2)];exact h2
theorem RK{k f:Nat}(h2:k+1<k+f):0<f-1:=Nat.sub_pos_of_lt (Nat.lt_of_add_lt_add_left h2)
theorem pU{k k':Nat}{m:Int}(h1:k+1<=k')(h:(k':Int)<=m):(k:Int)<m:=Int.lt_of_lt_of_le (Int.ofNat_lt.mpr h1) h
theorem f9.c7{od:Od}{H:Hp}{wl:Nat}(hw:f9 H q lg wl w)(e0:w.O[w.pc]?=some od){zg:Prop}(zk:∀ o ca,H[wl]?=some (aY o w.pc w.a (ic w.nm) (i9 w.i8) ca)->H[o]?=some (.list (w.O.map oV))->(w.O.map oV)[w.pc]?=some (oV od)->kh H q lg w.cs ca->zg):zg:=
  match hw with
 |⟨o,ca,dW,ho,_,_,hc⟩=>zk o ca dW ho (by rw[jN,e0];rfl) hc
theorem Ny(hC:∀ t H,ox own d t H)(g:Rg kp K s m j){R:fe}{τ:Hs}{k':Nat}(T:Rn kp s w L σ k R τ k'):∀{H:Hp}{wl:Nat}{hs:List (Nat×Option CW)}{f:Nat}{o1 bg:V}{y:Option V},CS kp H0 mo q h va rf lg m s wl hs k σ H->f9 H q lg wl w->hs.map (·.2)=L->(k':Int)<=m->k'<k+f->Bc K s j k L w σ ->
   kS (dG (av (ar own) (ae (ar own) (d+7)) tR) (aS (ar own) (ae (ar own) (d+7)) bR) f [some (.loc mo),some o1,some bg,some (.loc wl),y] H) kp H0 mo q h va rf lg m s τ k' R:=by
  have hm:=g.g.hm
  induction T with
 |@met w L σ k e0 e1=>
   intro H wl hs f o1 bg y t hw hL hk hf b
   refine hw.c7 e0 λo ca dW ho qQ hc=>?_
   exact .met w _ _ wl hs (Fj (qR (aE _) hf) Bh (Nv t.host (pU (aE _) hk) t.cI (hc.Nw e1▸dW) ho t.w3 qQ)) t.tick (t.uF hw) (eD b.n)
 |@go w L σ k R τ k' od w' σ' ps e0 X T ih=>
   intro H wl hs f o1 bg y t hw hL hk hf b
   have jJ:=lf T.mono
   refine hw.c7 e0 λo ca dW ho qQ hc=>?_
   refine pT (own:=own) (d:=d) hC X t.tick (t.uF hw) (b.lc hL (pU jJ hk) hm g.hb g.g.hj g.g.kl g.g.hs) _ λfU H' e1 t1 w2 hp=>?_
   exact kS.of (uH (qR jJ hf) Bh (sy t.host (pU jJ hk) t.cI dW ho t.w3 qQ (X.dn hc) (RH t.m1 t.cI e1)) rfl) (ih t1 w2 (by rw[dE,hp,hL]) hk (Fk jJ hf) (b.go g.g.hK X))
 |@pop w L σ k R τ k' od w2 e0 X T ih=>
   intro H wl hs f o1 bg y t hw hL hk hf b
   have jJ:=lf T.mono
   refine hw.c7 e0 λo ca dW ho qQ hc=>xb hL λj4 i eh Ux=>?_
   refine pT (own:=own) (d:=d) hC X t.tick (t.uF hw) (b.lc hL (pU jJ hk) hm g.hb g.g.hj g.g.kl g.g.hs) _ λH' e1 t1=>(t1.OP eh).elim λt2 w3=>f9.fst w3 λ_ _ h4=>?_
   exact kS.of (uH (qR jJ hf) Bh (sy t.host (pU jJ hk) t.cI dW ho t.w3 qQ (X.dn hc) (Ku t.m1 t.cI e1 t1.cI (Fh (d:=d+6) t1.cI (t1.Kw eh)) h4 rfl)) rfl) (ih t2 w3 Ux hk (Fk jJ hf) b.pop)
 |@cz w σ k od e0 X=>
   intro H wl hs f o1 bg y t hw hL hk hf b
   have jJ:=aE (k+1)
   refine hw.c7 e0 λo ca dW ho qQ hc=>?_
   refine pT (own:=own) (d:=d) hC X t.tick (t.uF hw) (b.lc hL (pU jJ hk) hm g.hb g.g.hj g.g.kl g.g.hs) _ λH' e1 t1=>?_
   exact .cz _ H' wl hs (uH (qR jJ hf) Bh (sy t.host (pU jJ hk) t.cI dW ho t.w3 qQ (X.dn hc) (Nt t.m1 t.cI e1 t1.cI (No (d:=d+6) t1.cI (t1.RJ hL)))) (Nx (RK hf) Uu)) t1
 |@bi w L σ k od e0 X=>
   intro H wl hs f o1 bg y t hw hL hk hf b
   have jJ:=aE (k+1)
   refine hw.c7 e0 λo ca dW ho qQ hc=>xb hL λj4 i eh Ux=>?_
   refine pT (own:=own) (d:=d) hC X t.tick (t.uF hw) (b.lc hL (pU jJ hk) hm g.hb g.g.hj g.g.kl g.g.hs) _ λH' e1 t1=>(t1.OP eh).elim λt2 w3=>?_
   exact .bi _ _ i j4 (Fj (qR jJ hf) Bh (sy t.host (pU jJ hk) t.cI dW ho t.w3 qQ (X.dn hc) (Kv t.m1 t.cI e1 t1.cI (Fh (d:=d+6) t1.cI (t1.Kw eh)) w3))) t2
end
theorem OQ{H:Hp}{x y:O}:(H++[x]).set H.length y=H++[y]:=by rw[zf _ _ (aE _),gZ];rfl
theorem Nz{H:Hp}{ls:List V}{v:V}(h:ls.length<lim):sQ .append (.loc H.length) [v] (H++[.list ls])=some (.none,H++[.list (ls++[v])]):=by rw[bV am h,OQ]
theorem NA{H:Hp}{ls:List V}:sQ .reverse (.loc H.length) [] (H++[.list ls])=some (.none,H++[.list ls.reverse]):=(dj am).trans (by rw[OQ])
section
variable {own:List FI}{d:Nat}{H H0:Hp}{h mo q o wl va rf lg:Nat}{m:Int}{k k' j:Nat}{s:List Nat}{σ τ:Hs}{kp:Nat->Option (List Nat)}{K:List (List Nat)}
noncomputable def tN:ME:=(.cmp .fB (.loc 0) (.lit .none))
noncomputable def bN:List MS:=[(.asg (.tup [(.loc 0),(.loc 2)]) (.loc 0)),(.expr (.ba (.loc 1) .append [(.loc 2)]))]
theorem Dq{x:Nat×List Nat}{r:V}{y:Option V}{X:List V}(h:X.length<lim):aS (ar own) (ae (ar own) d) bN [some (.tup [r,.tup [.loc x.1,.str x.2]]),some (.loc H.length),y] (H++[.list X])=some (.next,[some r,some (.loc H.length),some (.tup [.loc x.1,.str x.2])],H++[.list (X++[.tup [.loc x.1,.str x.2]])]):=
 ah rfl (fm (de rfl (bb (by solve_by_elim [am,au,aa,ag,aG,aH,cA]) rfl) rfl (Nz h)))
theorem uI:∀(nm:Nm)(X:List V)(f:Nat)(y:Option V),nm.length<f->X.length+nm.length<lim ->
  ∃ y',dG (av (ar own) (ae (ar own) d) tN) (aS (ar own) (ae (ar own) d) bN) f [some (ic nm),some (.loc H.length),y] (H++[.list X])=some (.next,[some .none,some (.loc H.length),y'],H++[.list (X++j9 nm)])
 |[],X,f+1,y,_,_=>⟨y,by rw[show X++j9 []=X from eU X];exact iJ rfl⟩
 |x::r,X,f+1,y,hf,hX=>by
  rw[c9] at hX
  obtain⟨y',e⟩:=uI r (X++[.tup [.loc x.1,.str x.2]]) f (some (.tup [.loc x.1,.str x.2])) (oX hf) (by rw[aK,List.length_singleton];exact nl (aj [_,_,_] (.d (.s (.a ab (.s af))) aq (.d aq (.a (.s ab) af) .z)) rfl hX))
  refine⟨y',hZ rfl (Dq (by exact nl (aj [_,_,_] (.d (.s (.a ab (.s af))) aq (.d aq ab .z)) rfl hX))) (e.trans ?_)⟩
  rw[cG];rfl
theorem Kx{nm:Nm}(h:nm.length<1000000):ae (ar own) (d+1) 57 [ic nm] H=some (.loc H.length,H++[.list (j9 nm.reverse)]):=by
 obtain⟨y',e⟩:=uI (own:=own) (d:=d) (H:=H) nm [] 1048576 none (by exact nl (aj [_] (.d (.s ab) (.n 1000000) (.d (.n 1048576) ab .z)) rfl h)) (by rw[List.length_nil];unfold lim;exact nl (aj [_] (.d (.s ab) (.n 1000000) (.d (.n 1048576) (.a (.n 0) ab) .z)) rfl h))
 rw[j9,vQ]
 exact ac rfl rfl (bk (bq bA) (ah (fN e) (lu (de rfl ((by unfold vm;simp only[am])) bA NA) rfl)))
theorem qS:ae (ar own) (d+1) 48 [.loc H.length,.str s,.loc h] (H++[.inst 3 []])=some (.none,(H++[O.inst 3 [(6,.str s),(7,.loc h)]]++[O.list []]).set H.length (cZ s h (H.length+1))):=
 et rfl rfl (ah (eg rfl rfl ei) (ah (eg rfl rfl ei) (ah (eg (bq bA) rfl ((cg (ag am)).trans (by rw[aK];rfl))) aJ)))
inductive Bi(own:List FI)(d:Nat)(kp:Nat->Option (List Nat))(H0:Hp)(mo o b q h va rf lg:Nat)(m:Int)(τ:Hs)(k':Nat)(H:Hp):fe->Prop where
 |met (w:CW) (wl:Nat) (H':Hp) (e:ae (ar own) (d+8) 49 [.loc mo,.loc o,.int b] H=some (.tup [.int 0,.loc wl],H')) (x:HX kp h va rf lg m k' τ H') (ho:HO h va lg H0 H') (hw:f9 H' q lg wl w) (hn:w.nm.length<=k'):Bi own d kp H0 mo o b q h va rf lg m τ k' H (.met w)
 |cz (H':Hp) (e:ae (ar own) (d+8) 49 [.loc mo,.loc o,.int b] H=some (.tup [.int 1,.none],H')) (x:HX kp h va rf lg m k' τ H') (ho:HO h va lg H0 H'):Bi own d kp H0 mo o b q h va rf lg m τ k' H .cz
 |bi (H':Hp) (e:ae (ar own) (d+8) 49 [.loc mo,.loc o,.int b] H=some (.tup [.int 2,.none],H')) (x:HX kp h va rf lg m k' τ H') (ho:HO h va lg H0 H'):Bi own d kp H0 mo o b q h va rf lg m τ k' H .bi
theorem NB(hC:∀ t H,ox own d t H)(g:Rg kp K s m j){Os:List Od}{R:fe}{b:Nat}(hk:(k':Int)<=m)(T:Rn kp s ⟨Os,0,b,[],[],[]⟩ [] σ k R τ k')(x:HX kp h va rf lg m k σ H)(cI:H[mo]?=some (cZ s h q))(cW:H[q]?=some (.list []))(ord:H[o]?=some (.list (Os.map oV)))
   (hl:σ.log.length<=j+k) (hv:Kd K σ.vals) (len:H0.length<=H.length) (off:∀ i,i<H0.length->i≠h->i≠va->i≠lg->H[i]?=H0[i]?) (oq:o≠q) (ol:o≠lg) (Kr:H0.length<=q) (n4:q≠lg) (n5:q≠rf):Bi own d kp H0 mo o b q h va rf lg m τ k' H R:=by
  have hm:=g.g.hm
  have jJ:=T.mono
  have c:CS kp H0 mo q h va rf lg m s H.length [] k σ (H++[aY o 0 b .none .none .none]):=
   {len:=by rw[aK];exact DZ len
    cI:=ag cI,cW:=ag cW,host:=ag x.host,vals:=ag x.vals,log:=ag x.log,ref:=ag x.ref
    rk:=λr key e=>ag (x.rk r key e)
    ws:=λx h=>(nomatch h),way:=⟨_,am⟩,nd:=λx h=>(nomatch h),HF:=.nil
    off:=λi h1 h2 h3 h4=>(dB (d8 h1 len)).trans (off i h1 h2 h3 h4)
    yC:=len,w8:=λx h=>(nomatch h),Kr:=Kr,n3:=x.n3,n4:=n4,n5:=n5 }
  have hw:f9 (H++[aY o 0 b .none .none .none]) q lg H.length ⟨Os,0,b,[],[],[]⟩:=⟨o,.none,am,ag ord,oq,ol,.nil⟩
  have r:=Ny (own:=own) (d:=d) hC g T (o1:=.loc o) (bg:=.int b) (y:=none) (f:=1048576) c hw rfl hk (by omega) ⟨cF _,cF _,(λz h=>nomatch h),hl,hv⟩
  induction r with
 |met w l' H' uG fU e t hw hn=>exact .met w uG H' (ac rfl rfl (bk (gR rfl rfl ke) (gm (fN e)))) ⟨t.host,t.vals,t.log,t.ref,t.rk,t.n3⟩ ⟨t.len,t.off⟩ hw hn
 |cz l' H' uG fU e t=>exact .cz H' (ac rfl rfl (bk (gR rfl rfl ke) (ah (fN e) rfl))) ⟨t.host,t.vals,t.log,t.ref,t.rk,t.n3⟩ ⟨t.len,t.off⟩
 |bi l' H' uG fU e t=>exact .bi H' (ac rfl rfl (bk (gR rfl rfl ke) (gm (fN e)))) ⟨t.host,t.vals,t.log,t.ref,t.rk,t.n3⟩ ⟨t.len,t.off⟩
noncomputable def bM:List MS:=[(.asg (.tup [(.loc 5),(.loc 6)]) (.bm (.new 3 [(.loc 1),(.loc 3)]) 108 [(.loc 0),(.loc 4)])),(.aB (.cmp .eq (.loc 5) (.glob (.int 0))) [(.ret (.tup [(.loc 4),(.attr (.loc 6) 2),(.call (.glob (.fn 57)) [(.attr (.loc 6) 3)])]))] []),(.aB (.cmp .eq (.loc 5) (.glob (.int 2))) [(.ret (.lit .none))] [])]
theorem Uy{an x5 x6:Option V}{b:Nat}{H1 H2:Hp}(e1:ae (ar own) (d+8) 48 [.loc H.length,.str s,.loc h] (H++[.inst 3 []])=some (.none,H1))(hm:H1[H.length]?=some (cZ s h q))(e2:ae (ar own) (d+8) 49 [.loc H.length,.loc o,.int b] H1=some (.tup [.int 1,.none],H2)) :
  aS (ar own) (ae (ar own) (d+8)) bM [some (.loc o),some (.str s),an,some (.loc h),some (.int b),x5,x6] H=some (.next,[some (.loc o),some (.str s),an,some (.loc h),some (.int b),some (.int 1),some .none],H2):=
 ah (aT (aP (gR rfl rfl e1) (by solve_by_elim [am,au,aa,ag,aG,aH,cA]) rfl rfl rfl e2) rfl) rfl
theorem Uz{an x5 x6:Option V}{b:Nat}{H1 H2:Hp}(e1:ae (ar own) (d+8) 48 [.loc H.length,.str s,.loc h] (H++[.inst 3 []])=some (.none,H1))(hm:H1[H.length]?=some (cZ s h q))(e2:ae (ar own) (d+8) 49 [.loc H.length,.loc o,.int b] H1=some (.tup [.int 2,.none],H2)) :
  aS (ar own) (ae (ar own) (d+8)) bM [some (.loc o),some (.str s),an,some (.loc h),some (.int b),x5,x6] H=some (.ret .none,[some (.loc o),some (.str s),an,some (.loc h),some (.int b),some (.int 2),some .none],H2):=
 ah (aT (aP (gR rfl rfl e1) (by solve_by_elim [am,au,aa,ag,aG,aH,cA]) rfl rfl rfl e2) rfl) rfl
theorem UA{an x5 x6:Option V}{b a pc o2:Nat}{nm:Nm}{mk ca:V}{H1 H2:Hp}(hl:nm.length<1000000)(e1:ae (ar own) (d+8) 48 [.loc H.length,.str s,.loc h] (H++[.inst 3 []])=some (.none,H1))(hm:H1[H.length]?=some (cZ s h q))(e2:ae (ar own) (d+8) 49 [.loc H.length,.loc o,.int b] H1=some (.tup [.int 0,.loc wl],H2))(hw:H2[wl]?=some (aY o2 pc a (ic nm) mk ca)) :
  ∃ l,aS (ar own) (ae (ar own) (d+8)) bM [some (.loc o),some (.str s),an,some (.loc h),some (.int b),x5,x6] H=some (.ret (.tup [.int b,.int a,.loc H2.length]),l,H2++[.list (j9 nm.reverse)]):=
 ⟨_,ah (aT (aP (gR rfl rfl e1) (by solve_by_elim [am,au,aa,ag,aG,aH,cA]) rfl rfl rfl e2) rfl) (aW rfl (aD (aU (aM rfl (aV (aC rfl (by exact ay (by solve_by_elim [am,au,aa,ag,aG,aH,cA]) rfl)) (az (dH (aC rfl (by exact ay (by solve_by_elim [am,au,aa,ag,aG,aH,cA]) rfl))) (Kx hl)))))))⟩
inductive Mo(kp:Nat->Option (List Nat))(s:List Nat)(Os:List Od):Nat->Nat->Hs->Nat->Option (Nat×Nat×Nm)->Hs->Nat->Prop where
 |z {b σ k}:Mo kp s Os 0 b σ k none σ k
 |met {c b σ k w τ k'}:Rn kp s ⟨Os,0,b,[],[],[]⟩ [] σ k (.met w) τ k'->Mo kp s Os (c+1) b σ k (some (b,w.a,w.nm.reverse)) τ k'
 |bi {c b σ k τ k'}:Rn kp s ⟨Os,0,b,[],[],[]⟩ [] σ k .bi τ k'->Mo kp s Os (c+1) b σ k none τ k'
 |cz {c b σ k τ k1 R υ k'}:Rn kp s ⟨Os,0,b,[],[],[]⟩ [] σ k .cz τ k1->Mo kp s Os c (b+1) τ k1 R υ k'->Mo kp s Os (c+1) b σ k R υ k'
theorem Mo.mono{Os:List Od}{c b:Nat}{R:Option (Nat×Nat×Nm)}(T:Mo kp s Os c b σ k R τ k'):k<=k':=by
  induction T with
 |z=>exact aE _
 |met T=>exact lf T.mono
 |bi T=>exact lf T.mono
 |cz T _ ih=>exact bv (lf T.mono) ih
theorem Rn.grow{w:CW}{L:List (Option CW)}{R:fe}(hK:∀ q key,kp q=some key->key∈K)(T:Rn kp s w L σ k R τ k'):τ.log.length+k<=σ.log.length+k':=by
  induction T with
 |go e X T ih=>have:=(X.facts hK).g;exact nt (aj [_,_,_,_,_] (.d (.a ab (.s af)) (.a aq aA) (.d aq (.s bU) (.d (.s (.a bU aA)) (.a ab af) .z))) rfl ih this)
 |pop e X T ih=>exact nt (aj [_,_,_,_] (.d (.a ab (.s af)) (.a aq aA) (.d (.s (.a aq aA)) (.a ab af) .z)) rfl ih)
 |_=>exact nt (aj [_,_] (.d (.s (.a ab (.s af))) (.a ab af) .z) rfl)
theorem Rn.kd{w:CW}{L:List (Option CW)}{R:fe}(hK:∀ q key,kp q=some key->key∈K)(T:Rn kp s w L σ k R τ k'):Kd K σ.vals->Kd K τ.vals:=by
  induction T with
 |go e X T ih=>exact λh=>ih ((X.facts hK).v h)
 |pop e X T ih=>exact ih
 |_=>exact id
theorem yE(hC:∀ t H,ox own d t H)(g:Rg kp K s m j){Os:List Od}{c b:Nat}{R:Option (Nat×Nat×Nm)}(T:Mo kp s Os c b σ k R τ k'):∀{f:Nat}{H:Hp}{an x y z:Option V},c<f->HX kp h va rf lg m k σ H->H[o]?=some (.list (Os.map oV))->o≠lg->(k':Int)<=m->σ.log.length<=j+k->Kd K σ.vals ->
    Di own d H.length (dX (.one 4) (λl H=>aS (ar own) (ae (ar own) (d+8)) bM l H) f (.cQ b 1 c) [some (.loc o),some (.str s),an,some (.loc h),x,y,z] H) H kp h va rf lg m k' τ R:=by
  have hm:=g.g.hm
  have start:∀{b:Nat}{σ:Hs}{k k1:Nat}{R:fe}{τ:Hs}{H:Hp},Rn kp s ⟨Os,0,b,[],[],[]⟩ [] σ k R τ k1->(k1:Int)<=m->HX kp h va rf lg m k σ H->H[o]?=some (.list (Os.map oV))->o≠lg->σ.log.length<=j+k->Kd K σ.vals ->
     Bi own d kp H H.length o b (H.length+1) h va rf lg m τ k1 ((H++[O.inst 3 [(6,.str s),(7,.loc h)]]++[O.list []]).set H.length (cZ s h (H.length+1))) R:=λ{b σ k k1 R τ H} T hk hx ho ol hl hv=>by
    have rX:((H++[O.inst 3 [(6,.str s),(7,.loc h)]]++[O.list []]).set H.length (cZ s h (H.length+1))).length=H.length+2:=by rw[dt,aK,aK];rfl
    have g0:∀ i x,H[i]?=some x->((H++[O.inst 3 [(6,.str s),(7,.loc h)]]++[O.list []]).set H.length (cZ s h (H.length+1)))[i]?=some x:=λi x hx=>aa (aH hx) (ag (ag hx))
    have hq:((H++[O.inst 3 [(6,.str s),(7,.loc h)]]++[O.list []]).set H.length (cZ s h (H.length+1)))[H.length+1]?=some (.list []):=by
     refine aa (by exact d9 (nl (aj [_] (.d (.s ab) ab .z) rfl))) ?_
     have:=am (H:=H++[O.inst 3 [(6,.str s),(7,.loc h)]]) (x:=O.list [])
     rw[aK] at this;exact this
    have e1:=cC ho
    have e2:=cC hx.log
    have e3:=cC hx.ref
    exact NB hC g hk T ⟨g0 _ _ hx.host,g0 _ _ hx.vals,g0 _ _ hx.log,g0 _ _ hx.ref,λr key e=>g0 _ _ (hx.rk r key e),hx.n3⟩ (au (ag am)) hq (g0 _ _ ho) hl hv (by exact nt (aj [_,_] (.d (.a ab (.n 2)) af (.d (.s af) ab .z)) rfl (bx (cP rX)))) (λi h1 _ _ _=>(iQ (dp h1)).trans ((dB (by rw[aK];exact vS h1)).trans (dB h1))) (by exact d9 (nl (aj [_,_] (.d (.s ab) af (.d (.s af) ab .z)) rfl e1))) ol (by exact nt (aj [_] (.d (.s (.s ab)) ab .z) rfl)) (by exact dp (nl (aj [_,_] (.d (.s ab) af (.d (.s af) ab .z)) rfl e2))) (by exact dp (nl (aj [_,_] (.d (.s ab) af (.d (.s af) ab .z)) rfl e3)))
  have mt:∀{H:Hp},((H++[O.inst 3 [(6,.str s),(7,.loc h)]]++[O.list []]).set H.length (cZ s h (H.length+1)))[H.length]?=some (cZ s h (H.length+1)):=au (ag am)
  induction T with
 |z=>
    intro f H an x y z hf hx ho ol hk hl hv
    exact .Hx _ H (Fe hf rfl) hx (.refl H) rfl
 |met T=>
    intro f H an x y z hf hx ho ol hk hl hv
    have r:=start T hk hx ho ol hl hv
    cases r with
   |met w wl H' e x' o' hw hn=>
     obtain⟨o2,ca,dW,_,_,_,_⟩:=hw
     obtain⟨l,e4⟩:=UA (own:=own) (d:=d) (an:=an) (x5:=y) (x6:=z) (by omega) qS mt e dW
     exact .ret _ l _ (sx (jM (cF _) hf) rfl rfl e4) (x'.app _) (o'.trans (.app _)) ⟨_,rfl,am,o'.len⟩
 |bi T=>
    intro f H an x y z hf hx ho ol hk hl hv
    have r:=start T hk hx ho ol hl hv
    cases r with
   |bi H' e x' o'=>exact .ret _ _ _ (sx (jM (cF _) hf) rfl rfl (Uz qS mt e)) x' o' rfl
 |@cz c b σ k τ k1 R υ k' T M ih=>
    intro f H an x y z hf hx ho ol hk hl hv
    have jJ:=M.mono
    have hg:=T.grow g.g.hK
    have r:=start T (by omega) hx ho ol hl hv
    cases r with
   |cz H' e x' o'=>
     exact(ih (f:=f-1) (an:=an) (x:=some (.int b)) (y:=some (.int 1)) (z:=some .none) (Nat.lt_sub_of_add_lt hf) x' ((o'.off o (cC ho) (aX ho hx.host (λe=>by cases e)) (aX ho hx.vals (λe=>by cases e)) ol).trans ho) ol hk (by exact nt (aj [_,_,_,_,_] (.d ab (.a af aq) (.d (.a aA aq) (.a ab bU) (.d (.s (.a af bU)) aA .z))) rfl hl hg)) (T.kd g.g.hK hv)).pre o'.len (A5 (jM (cF _) hf) rfl rfl (Uy qS mt e) rfl) o'
theorem Dr(hC:∀ t H,ox own d t H)(g:Rg kp K s m j){Os:List Od}{an:Bool}{R:Option (Nat×Nat×Nm)}(x:HX kp h va rf lg m k σ H)(ho:H[o]?=some (.list (Os.map oV)))(ol:o≠lg)(T:Mo kp s Os (cnt an s) 0 σ k R τ k')(hk:(k':Int)<=m)(hl:σ.log.length<=j+k)(hv:Kd K σ.vals) :
   Ca (ar own) (d+9) 58 [.loc o,.str s,.bool an,.loc h] H kp h va rf lg m k' τ (λH' v=>R3 H.length H' R v):=by
  have hc:=Fg an g.g
  have q:=yE (own:=own) (d:=d) hC g T (f:=1048576) (an:=some (.bool an)) (x:=none) (y:=none) (z:=none) (by exact nl (aj [_] (.d ab (.n 1000) (.d (.n 1048576) ab .z)) rfl hc)) x ho ol hk hl hv
  have e0:∀{q:SR},dX (.one 4) (λl H=>aS (ar own) (ae (ar own) (d+8)) bM l H) 1048576 (.cQ (0:Nat) 1 (cnt an s)) [some (.loc o),some (.str s),some (.bool an),some (.loc h),none,none,none] H=q->cU (ar own) (ae (ar own) (d+8)) (.for (.one 4) (.prim .range [.aB (.loc 2) (.lit (.int 1)) (.bin .add (.prim .len [.loc 1]) (.lit (.int 1)))]) bM) [some (.loc o),some (.str s),some (.bool an),some (.loc h),none,none,none] H=q:=λ{q} hq=>
   ju (bl (dH (Ff rfl rfl)) (qP (by omega))) (De (by decide) (by omega) rfl) (by rw[A7];exact hq)
  induction q with
 |ret v l H' e x o r=>exact⟨v,H',ac rfl rfl (gm (e0 e)),x,o,r⟩
 |Hx l H' e x o r=>subst r;exact⟨.none,H',ac rfl rfl (ah (e0 e) rfl),x,o,rfl⟩
end
theorem qT{H:Hp}{n k:Nat}{ls ms:List V}(h:H[n]?=some (.list ls))(h2:H[k]?=some (.list ms))(be:n≠k)(hl:ls.length+ms.length<lim):sQ .extend (.loc n) [.loc k] H=some (.none,H.set n (.list (ls++ms))):=
 (dj h).trans ((dj h2).trans (eQ ⟨be,hl⟩))
section
variable {own:List FI}{d:Nat}{H:Hp}{f w co ol wl e e1:Nat}{X W L:List V}{a b c v:V}{y y2:Option V}{kd kx:List Nat}
noncomputable def Kz:ME:=(.cmp .gt (.prim .len [(.loc 3)]) (.lit (.int 0)))
noncomputable def KD:List MS:=[(.asg (.loc 4) (.ba (.loc 3) .pop [])),(.aB (.cmp .eq (.idx (.loc 4) (.lit (.int 0))) (.loc 1)) [(.expr (.ba (.loc 3) .extend [(.lst [(.idx (.loc 4) (.lit (.int 2))),(.idx (.loc 4) (.lit (.int 1)))])]))] [(.expr (.ba (.loc 2) .append [(.loc 4)]))])]
noncomputable abbrev Bj(nd:V)(kd:List Nat)(f w:Nat)(y:Option V):Lo:=[some nd,some (.str kd),some (.loc f),some (.loc w),y]
theorem Ds{nd:V}{kx:List Nat}(hw:H[w]?=some (.list (W++[.tup [.str kx,a,b]])))(hk:(kx==kd)=true)(hl:W.length+2<lim):aS (ar own) (ae (ar own) d) KD (Bj nd kd f w y) H=some (.next,Bj nd kd f w (some (.tup [.str kx,a,b])),(H.set w (O.list W)++[O.list [b,a]]).set w (O.list (W++[b,a]))):=
 ah (aT (de rfl (bb (by solve_by_elim [am,au,aa,ag,aG,aH,cA]) rfl) bA (kO hw)) ef) (ah (cf (ax rfl rfl (cM hk)) (fm (de rfl (bb (au hw) rfl) (dH (bq rfl)) (qT (ag (au hw)) am (aG (au hw)) hl)))) aJ)
theorem HI{nd:V}{kx:List Nat}{r:List V}(hw:H[w]?=some (.list (W++[.tup (.str kx::r)])))(hf:H[f]?=some (.list X))(be:w≠f)(hk:(kx==kd)=false)(hl:X.length<lim):aS (ar own) (ae (ar own) d) KD (Bj nd kd f w y) H=some (.next,Bj nd kd f w (some (.tup (.str kx::r))),(H.set w (.list W)).set f (.list (X++[.tup (.str kx::r)]))):=
 ah (aT (de rfl (bb (by solve_by_elim [am,au,aa,ag,aG,aH,cA]) rfl) bA (kO hw)) ef) (ah (bD (ax rfl rfl (cM hk)) (fm (de rfl (bb (by solve_by_elim [am,au,aa,ag,aG,aH,cA]) rfl) rfl (bV (by solve_by_elim [am,au,aa,ag,aG,aH,cA]) hl)))) aJ)
theorem Fm{nd:V}(hw:H[w]?=some (.list (W++[v]))):av (ar own) (ae (ar own) d) Kz (Bj nd kd f w y) H=some (.bool true,H):=
 ax (bl rfl (dN hw)) ak (e6 (by rw[aK];exact q9.mpr (nE _)))
theorem NC{nd:V}(hw:H[w]?=some (.list [])):av (ar own) (ae (ar own) d) Kz (Bj nd kd f w y) H=some (.bool false,H):=
 ax (bl rfl (dN hw)) ak (by rfl)
theorem dO(hc:H[co]?=some (.inst 0 [(0,.loc ol)]))(ho:H[ol]?=some (.list X))(be:co≠ol)(hl:X.length<lim):ae (ar own) (d+1) 4 [.loc co,v] H=some (.int X.length,H.set ol (.list (X++[v]))):=
 ac rfl rfl (lu (de (aC rfl (by exact ay (by solve_by_elim [am,au,aa,ag,aG,aH,cA]) rfl)) (bb (by solve_by_elim [am,au,aa,ag,aG,aH,cA]) rfl) rfl (bV ho hl)) (aD (cw (bl (dH (aC rfl (by exact ay (by solve_by_elim [am,au,aa,ag,aG,aH,cA]) rfl))) (dN (au ho))) ak (by rw[aK];show some (V.int ((X.length+1:Nat)-1),_)=_;rw[show((X.length+1:Nat):Int)-1=X.length by omega]))))
noncomputable abbrev KE(e:Nat):V:=.tup [.str [111,112,101,110],.loc e]
noncomputable abbrev KI(e:Nat):V:=.tup [.str [115,104,117,116],.loc e]
noncomputable abbrev xc(e:Nat):V:=.tup [.str [109,101,101,116],.loc e]
noncomputable abbrev ie(v:V):V:=.tup [.str [112,117,116],v]
noncomputable abbrev uJ(v:V):V:=.tup [.str [101,109,105,116],v]
theorem Bk(hc:H[co]?=some (.inst 0 [(0,.loc ol)]))(ho:H[ol]?=some (.list X))(be:co≠ol)(hl:X.length<lim)(he:H[e]?=some (.list [v,.loc e1]))(KJ:ol≠e):ae (ar own) (d+2) 9 [.loc co,.str [111,112,101,110],.loc e] H=some (.none,(H.set ol (.list (X++[.none]))).set e (.list [.int X.length,.loc e1])):=
 et rfl rfl (ah (cf rfl (ah (aT (aP rfl (by solve_by_elim [am,au,aa,ag,aG,aH,cA]) rfl rfl rfl (dO hc ho be hl)) (kM rfl ak (mY (aa KJ he) ⟨Int.le_refl _,nE _⟩))) aJ)) aJ)
theorem Bl{p:Nat}(hc:H[co]?=some (.inst 0 [(0,.loc ol)]))(ho:H[ol]?=some (.list X))(be:co≠ol)(hl:X.length<lim)(he:H[e]?=some (.list [.int p,.loc e1]))(kj:H[e1]?=some (.list L))(KJ:ol≠e)(uK:ol≠e1)(RL:e1≠e)(UB:e1≠co)(hL:L.length<lim)(hp:p<X.length):ae (ar own) (d+2) 9 [.loc co,.str [115,104,117,116],.loc e] H=some (.none,((H.set ol (.list (X++[.none]))).set e1 (.list (L++[.int X.length]))).set ol (O.list ((X++[V.none]).set p (oV (.split (X.length+1)))))):=
 et rfl rfl (ah (bD rfl (ah (cf rfl (lu (de (aR rfl ak (cr he rfl)) (bb kj rfl) (dH (aP rfl (by solve_by_elim [am,au,aa,ag,aG,aH,cA]) rfl rfl rfl (dO hc ho be hl))) (bV (aa uK kj) hL)) (ah (aT (aU (aV ce (bl (dH (aC rfl (ay (aa UB (aa be.symm hc)) rfl))) (dN (aa uK.symm (au ho)))))) (kM (aC rfl (ay (aa UB (aa be.symm hc)) rfl)) (aR rfl ak (cr (aa RL (aa KJ he)) rfl)) ((mY (aa uK.symm (au ho)) ⟨nF _,by rw[aK];exact vS hp⟩).trans (by rw[aK];rfl)))) aJ))) aJ)) aJ)
end
noncomputable def vK(k:Bool):List Nat:=bif k then [99,97,116] else [97,108,116]
noncomputable def aN(k:Bool):Nd->List Nd
 |.al a b=>bif k then [.al a b] else aN k a++aN k b
 |.ca a b=>bif k then aN k a++aN k b else [.ca a b]
 |n=>[n]
noncomputable def sz:Nd->Nat
 |.al a b=>sz a+sz b+1
 |.ca a b=>sz a+sz b+1
 |.rp n=>sz n+1
 |.lt n _=>sz n+1
 |.nw n _=>sz n+1
 |_=>1
theorem Fo{a b}:sz (.al a b)=sz a+sz b+1:=rfl
theorem Fp{a b}:sz (.ca a b)=sz a+sz b+1:=rfl
structure RS(H0:Hp)(f w:Nat)(X W:List V)(H:Hp):Prop where
 found:H[f]?=some (.list X)
 wait:H[w]?=some (.list W)
 len:H0.length<=H.length
 off:∀ i,i<H0.length->H[i]?=H0[i]?
 RM:H0.length<=f
 yC:H0.length<=w
 ne:w≠f
section
variable {own:List FI}{d:Nat}{H H0:Hp}{f w:Nat}{X W:List V}
noncomputable abbrev OS(own:List FI)(d F:Nat)(nd:V)(kd:List Nat)(f w:Nat)(y:Option V)(H:Hp):SR:=dG (av (ar own) (ae (ar own) d) Kz) (aS (ar own) (ae (ar own) d) KD) F (Bj nd kd f w y) H
inductive qU(own:List FI)(d:Nat)(nd:V)(kd:List Nat)(H0:Hp)(f w:Nat)(X' W:List V)(J:Nat)(y:Option V)(H:Hp):Prop where
 |mk (j:Nat) (y':Option V) (H':Hp) (hj:j<=J) (t:RS H0 f w X' W H') (e:∀ F q,OS own d F nd kd f w y' H'=q->OS own d (j+F) nd kd f w y H=q):qU own d nd kd H0 f w X' W J y H
theorem dP{nd:V}{kd kx:List Nat}{r:List V}{y:Option V}(t:RS H0 f w X (W++[.tup (.str kx::r)]) H)(hk:(kx==kd)=false)(hl:X.length<lim):qU own d nd kd H0 f w (X++[.tup (.str kx::r)]) W 1 y H:=
 ⟨1,_,_,aE _,⟨au (aa t.ne t.found),aa t.ne.symm (au t.wait),by rw[dt,dt];exact t.len,λi h=>(iQ (dp (d8 h t.RM))).trans ((iQ (dp (d8 h t.yC))).trans (t.off i h)),t.RM,t.yC,t.ne⟩,λF q e=>by
  rw[iR 1 F];exact hZ (Fm t.wait) (HI t.wait t.found t.ne hk hl) e⟩
theorem Bm{nd:V}{kd kx:List Nat}{a b:Nd}{y:Option V}{A B:List Nd}{ja jb:Nat}(t:RS H0 f w X (W++[.tup [.str kx,nV a,nV b]]) H)(hk:(kx==kd)=true)(hl:W.length+2<lim)
  (ha:∀{X W y H},RS H0 f w X (W++[nV a]) H->X.length+W.length+2*sz a<lim->qU own d nd kd H0 f w (X++A.map nV) W ja y H)
  (hb:∀{X W y H},RS H0 f w X (W++[nV b]) H->X.length+W.length+2*sz b<lim->qU own d nd kd H0 f w (X++B.map nV) W jb y H)
  (h1:X.length+(W.length+1)+2*sz a<lim) (h2:X.length+A.length+W.length+2*sz b<lim):qU own d nd kd H0 f w (X++(A++B).map nV) W (ja+jb+1) y H:=by
 have t1:RS H0 f w X (W++[nV b]++[nV a]) ((H.set w (O.list W)++[O.list [nV b,nV a]]).set w (O.list (W++[nV b,nV a]))):=
  ⟨aa t.ne (ag (aa t.ne t.found)),by rw[cG];exact au (ag (au t.wait)),by rw[dt,aK,dt];exact DZ t.len,λi h=>(iQ (dp (d8 h t.yC))).trans ((dB (by rw[dt];exact d8 h t.len)).trans ((iQ (dp (d8 h t.yC))).trans (t.off i h))),t.RM,t.yC,t.ne⟩
 obtain⟨i,y1,H1,hi,g1,e1⟩:=ha (y:=some (.tup [.str kx,nV a,nV b])) t1 (by rw[aK];exact h1)
 obtain⟨j,y2,H2,hj,g2,e2⟩:=hb (y:=y1) g1 (by rw[aK,cn];exact h2)
 refine⟨i+j+1,y2,H2,by exact nt (aj [_,_,_,_] (.d ab af (.d aq aA (.d (.s (.s (.a af aA))) (.s (.a ab aq)) .z))) rfl hi hj),by rw[dE,← cG];exact g2,λF q e=>?_⟩
 rw[show i+j+1+F=i+(j+F)+1 by exact lx [_,_,_] (.a (.s (.a ab af)) aq) (.s (.a ab (.a af aq))) rfl]
 exact hZ (Fm t.wait) (Ds t.wait hk hl) (e1 _ _ (e2 _ _ e))
theorem fv(k:Bool):∀ n,(aN k n).length<=sz n
 |.sg _=>aE _
 |.cu=>aE _
 |.dT=>aE _
 |.fail=>aE _
 |.cur _=>aE _
 |.dU _=>aE _
 |.rp n=>eL _ _
 |.lt n q=>eL _ _
 |.nw n q=>eL _ _
 |.al a b=>by
  have ha:=fv k a
  have hb:=fv k b
  cases k
  ·show(_++_:List Nd).length<=_+1
   rw[aK];exact nt (aj [_,_,_,_] (.d ab af (.d aq aA (.d (.s (.s (.a af aA))) (.a ab aq) .z))) rfl ha hb)
  ·exact eL _ _
 |.ca a b=>by
  have ha:=fv k a
  have hb:=fv k b
  cases k
  ·exact eL _ _
  ·show(_++_:List Nd).length<=_+1
   rw[aK];exact nt (aj [_,_,_,_] (.d ab af (.d aq aA (.d (.s (.s (.a af aA))) (.a ab aq) .z))) rfl ha hb)
theorem km{nd:V}(k:Bool):∀(n:Nd){X W:List V}{y:Option V}{H:Hp},RS H0 f w X (W++[nV n]) H->X.length+W.length+2*sz n<lim->qU own d nd (vK k) H0 f w (X++(aN k n).map nV) W (sz n) y H
 |.sg x,X,W,y,H,t,hl=>dP t (by induction x <;> induction k <;> rfl) (by exact nl (aj [_,_,_,_] (.d (.s (.a (.a ab af) (.m 2 aq))) aA (.d aA ab .z)) rfl hl))
 |.cu,X,W,y,H,t,hl=>dP t (by induction k <;> rfl) (by exact nl (aj [_,_,_,_] (.d (.s (.a (.a ab af) (.m 2 aq))) aA (.d aA ab .z)) rfl hl))
 |.dT,X,W,y,H,t,hl=>dP t (by induction k <;> rfl) (by exact nl (aj [_,_,_,_] (.d (.s (.a (.a ab af) (.m 2 aq))) aA (.d aA ab .z)) rfl hl))
 |.fail,X,W,y,H,t,hl=>dP t (by induction k <;> rfl) (by exact nl (aj [_,_,_,_] (.d (.s (.a (.a ab af) (.m 2 aq))) aA (.d aA ab .z)) rfl hl))
 |.cur q,X,W,y,H,t,hl=>dP t (by induction k <;> rfl) (by exact nl (aj [_,_,_,_] (.d (.s (.a (.a ab af) (.m 2 aq))) aA (.d aA ab .z)) rfl hl))
 |.dU q,X,W,y,H,t,hl=>dP t (by induction k <;> rfl) (by exact nl (aj [_,_,_,_] (.d (.s (.a (.a ab af) (.m 2 aq))) aA (.d aA ab .z)) rfl hl))
 |.rp n,X,W,y,H,t,hl=>by
  obtain⟨j,y',H',hj,g,e⟩:=dP (own:=own) (d:=d) (nd:=nd) (kd:=vK k) (y:=y) t (by induction k <;> rfl) (by exact nl (aj [_,_,_,_] (.d (.s (.a (.a ab af) (.m 2 aq))) aA (.d aA ab .z)) rfl hl))
  exact⟨j,y',H',bv hj (eL _ _),g,e⟩
 |.lt n q,X,W,y,H,t,hl=>by
  obtain⟨j,y',H',hj,g,e⟩:=dP (own:=own) (d:=d) (nd:=nd) (kd:=vK k) (y:=y) t (by induction k <;> rfl) (by exact nl (aj [_,_,_,_] (.d (.s (.a (.a ab af) (.m 2 aq))) aA (.d aA ab .z)) rfl hl))
  exact⟨j,y',H',bv hj (eL _ _),g,e⟩
 |.nw n q,X,W,y,H,t,hl=>by
  obtain⟨j,y',H',hj,g,e⟩:=dP (own:=own) (d:=d) (nd:=nd) (kd:=vK k) (y:=y) t (by induction k <;> rfl) (by exact nl (aj [_,_,_,_] (.d (.s (.a (.a ab af) (.m 2 aq))) aA (.d aA ab .z)) rfl hl))
  exact⟨j,y',H',bv hj (eL _ _),g,e⟩
 |.al a b,X,W,y,H,t,hl=>by
  rw[Fo] at hl
  have RN:=fv k a
  cases k
  ·exact Bm (kd:=vK false) (A:=aN false a) (B:=aN false b) t rfl (by exact nl (aj [_,_,_,_,_] (.d (.s (.a (.a ab af) (.m 2 (.s (.a aq aA))))) bU (.d bU (.a af (.n 2)) .z)) rfl hl)) (km false a) (km false b) (by exact nl (aj [_,_,_,_,_] (.d (.s (.a (.a ab af) (.m 2 (.s (.a aq aA))))) bU (.d bU (.a (.a ab (.s af)) (.m 2 aq)) .z)) rfl hl)) (by exact nl (aj [_,_,_,_,_,_] (.d (.s (.a (.a ab af) (.m 2 (.s (.a aq aA))))) bU (.d iZ aq (.d bU (.a (.a (.a ab iZ) af) (.m 2 aA)) .z))) rfl hl RN))
  ·obtain⟨j,y',H',hj,g,e⟩:=dP (own:=own) (d:=d) (nd:=nd) (kd:=vK true) (y:=y) t rfl (by exact nl (aj [_,_,_,_,_] (.d (.s (.a (.a ab af) (.m 2 (.s (.a aq aA))))) bU (.d bU ab .z)) rfl hl))
   exact⟨j,y',H',bv hj (eL _ _),g,e⟩
 |.ca a b,X,W,y,H,t,hl=>by
  rw[Fp] at hl
  have RN:=fv k a
  cases k
  ·obtain⟨j,y',H',hj,g,e⟩:=dP (own:=own) (d:=d) (nd:=nd) (kd:=vK false) (y:=y) t rfl (by exact nl (aj [_,_,_,_,_] (.d (.s (.a (.a ab af) (.m 2 (.s (.a aq aA))))) bU (.d bU ab .z)) rfl hl))
   exact⟨j,y',H',bv hj (eL _ _),g,e⟩
  ·exact Bm (kd:=vK true) (A:=aN true a) (B:=aN true b) t rfl (by exact nl (aj [_,_,_,_,_] (.d (.s (.a (.a ab af) (.m 2 (.s (.a aq aA))))) bU (.d bU (.a af (.n 2)) .z)) rfl hl)) (km true a) (km true b) (by exact nl (aj [_,_,_,_,_] (.d (.s (.a (.a ab af) (.m 2 (.s (.a aq aA))))) bU (.d bU (.a (.a ab (.s af)) (.m 2 aq)) .z)) rfl hl)) (by exact nl (aj [_,_,_,_,_,_] (.d (.s (.a (.a ab af) (.m 2 (.s (.a aq aA))))) bU (.d iZ aq (.d bU (.a (.a (.a ab iZ) af) (.m 2 aA)) .z))) rfl hl RN))
structure Gr(H H':Hp):Prop where
 len:H.length<=H'.length
 off:∀ i,i<H.length->H'[i]?=H[i]?
theorem Gr.refl(H:Hp):Gr H H:=⟨aE _,λ_ _=>rfl⟩
theorem Gr.trans{H H1 H2:Hp}(a:Gr H H1)(b:Gr H1 H2):Gr H H2:=⟨bv a.len b.len,λi h=>(b.off i (d8 h a.len)).trans (a.off i h)⟩
theorem Gr.at{H H1:Hp}(a:Gr H H1){i:Nat}{x:O}(h:H[i]?=some x):H1[i]?=some x:=(a.off i (cC h)).trans h
theorem Gr.app(H:Hp)(x:Hp):Gr H (H++x):=⟨by rw[aK];exact dq _ _,λi h=>dB h⟩
theorem xd(k:Bool)(n:Nd)(hn:sz n<1000){zg:Prop}(zk:∀ H',(ae (ar own) (d+1) 0 [nV n,.str (vK k)] H=some (.loc H.length,H'))->(Gr H H')->(H'[H.length]?=some (.list ((aN k n).map nV)))->zg):zg:=by
 have t:RS H H.length (H.length+1) [] ([]++[nV n]) (H++[.list []]++[.list [nV n]]):=
  ⟨ag am,by have:=am (H:=H++[.list []]) (x:=.list [nV n]);rw[aK] at this;exact this,by rw[cG,aK];exact dq _ _,λi h=>by rw[cG];exact dB h,aE _,fA _,Nat.succ_ne_self _⟩
 obtain⟨j,y',H',hj,g,e⟩:=km (own:=own) (d:=d) (nd:=nV n) k n (y:=none) t (by simp only[List.length_nil];unfold lim;exact nl (aj [_] (.c 2 (.s ab) (.n 1000) (.d (.n 1048576) (.a (.a (.n 0) (.n 0)) (.m 2 ab)) .z)) rfl hn))
 obtain⟨F,hF⟩:∃ F,1048576=j+(F+1):=⟨1048575-j,by omega⟩
 have e2:=e (F+1) _ (iJ (NC g.wait))
 rw[← hF] at e2
 have hl:(H++[O.list []]).length=H.length+1:=by rw[aK];rfl
 exact zk H' (ac rfl rfl (ah (aT (aU (aV (bq bA) (bq rfl))) rfl) (ah (fN (show _=some (Fl.next,Bj (nV n) (vK k) H.length (H.length+1) y',H') from(by rw[hl];exact e2))) rfl))) (⟨g.len,g.off⟩) g.found
end
theorem kn{α σ:Type}{g:α->V}{body:Lo->Hp->SR}{k pl:Nat}{parts:List V}(st:σ->α->σ)(I:σ->Lo->Hp->Prop)(P:σ->List α->Prop)
  (hI:∀ s l H,I s l H->H[pl]?=some (.list parts))
  (hb:∀ s a r l H,I s l H->P s (a::r)->∃ fl l' H',(fl=Fl.next\/fl=Fl.cont)/\body (l.set k (some (g a))) H=some (fl,l',H')/\I (st s a) l' H'/\P (st s a) r) :
  ∀(ps:List α)(i f:Nat)(s:σ)(l:Lo)(H:Hp),(∀ j,parts[i+j]?=(ps.map g)[j]?)->ps.length<f->I s l H->P s ps->∃ l' H',dX (.one k) body f (.lst pl i) l H=some (.next,l',H')/\I (ps.foldl st s) l' H'
 |[],i,f+1,s,l,H,hp,_,h1,_=>⟨l,H,sp (pQ (hI _ _ _ h1) (hp 0)),h1⟩
 |a::r,i,f+1,s,l,H,hp,hf,h1,h2=>by
  obtain⟨fl,l',H',Q2,e,h3,h4⟩:=hb s a r l H h1 h2
  obtain⟨l2,H2,e2,h5⟩:=kn st I P hI hb r (i+1) f (st s a) l' H' (λj=>by rw[cb,iR 1 j];exact hp (j+1)) (oX hf) h3 h4
  refine⟨l2,H2,?_,h5⟩
  rcases Q2 with rfl|rfl
  ·exact mq (qO (hI _ _ _ h1) (hp 0)) rfl e e2
  ·exact JX (qO (hI _ _ _ h1) (hp 0)) rfl e e2
noncomputable def gK:Nd->Bool
 |.sg (.ch _)=>true
 |_=>false
noncomputable def jR(r:List Nd):Nd->List Nd
 |.sg (.ch [])=>r
 |.sg (.ch (c::t))=>(match r with|.sg (.ch u)::r'=>.sg (.ch (u++c::t))::r'|r=>.sg (.ch (c::t))::r)
 |n=>n::r
theorem KL(n:Nd):gK n=false\/∃ t,n=.sg (.ch t):=by
  induction n using Nd.casesOn with
 |sg x=>induction x with
   |ch t=>exact .inr ⟨t,rfl⟩
   |_=>exact .inl rfl
 |_=>exact .inl rfl
theorem UC{n:Nd}(h:gK n=false)(r:List Nd):jR r n=n::r:=by
  induction n using Nd.casesOn with
 |sg x=>induction x with
   |ch t=>cases h
   |_=>rfl
 |_=>rfl
theorem UD{z:Nd}(h:gK z=false)(c:Nat)(t:List Nat)(r:List Nd):jR (z::r) (.sg (.ch (c::t)))=.sg (.ch (c::t))::z::r:=by
  induction z using Nd.casesOn with
 |sg x=>induction x with
   |ch t=>cases h
   |_=>rfl
 |_=>rfl
theorem KN{P:List Nd->Nd->List Nd->Prop}(A:∀ r n,gK n=false->P r n (n::r))(B:∀ r,P r (.sg (.ch [])) r)(C:∀ c t,P [] (.sg (.ch (c::t))) [.sg (.ch (c::t))])(D:∀ c t z r,gK z=false->P (z::r) (.sg (.ch (c::t))) (.sg (.ch (c::t))::z::r))(E:∀ c t u r,P (.sg (.ch u)::r) (.sg (.ch (c::t))) (.sg (.ch (u++c::t))::r))(r:List Nd)(n:Nd):P r n (jR r n):=by
 rcases KL n with h|⟨_|⟨c,t⟩,rfl⟩
 ·rw[UC h];exact A r n h
 ·exact B r
 ·rcases r with _|⟨z,r⟩
  ·exact C c t
  ·rcases KL z with h|⟨u,rfl⟩
   ·rw[UD h];exact D c t z r h
   ·exact E c t u r
theorem pW{P:List Nd->Nd->List Nd->Prop}(A:∀ r n,P r n (n::r))(B:∀ r,P r (.sg (.ch [])) r)(E:∀ c t u r,P (.sg (.ch u)::r) (.sg (.ch (c::t))) (.sg (.ch (u++c::t))::r))(r:List Nd)(n:Nd):P r n (jR r n):=KN (λr n _=>A r n) B (λ_ _=>A _ _) (λ_ _ _ _ _=>A _ _) E r n
noncomputable def fF(l:List Nd):List Nd:=(l.foldl jR []).reverse
noncomputable def tx:Nd->Nat
 |.sg (.ch t)=>t.length
 |_=>0
noncomputable def pX:List Nd->Nat
 |[]=>0
 |n::r=>tx n+pX r
theorem RO{n r}:pX (n::r)=tx n+pX r:=rfl
theorem KO{α:Type}{ls:List α}{v:α}{k:Nat}{j:Int}(hj:j=(k:Int))(h:ls[k]?=some v):eO ls j=some v:=by subst hj;unfold eO;rw[if_pos (nF k),oT];exact h
theorem uL{α:Type}(Y:List α)(z:α):eO (Y++[z]) (((Y++[z]).length:Int)-1)=some z:=
 KO (k:=Y.length) (by rw[aK];show((Y.length+1:Nat):Int)-1=_;omega) (by rw[eT (aE _),gZ];rfl)
section
variable {own:List FI}{d:Nat}{H:Hp}{f pl:Nat}{X:List V}
theorem plain1(n:Nd):ae (ar own) (d+1) 1 [nV n] H=some (.bool (gK n),H):=by
  induction n using Nd.casesOn with
 |sg x=>induction x <;> kernel_rfl
 |_=>kernel_rfl
noncomputable def bJ:List MS:=[(.aB (.call (.glob (.fn 1)) [(.loc 2)]) [(.aB (.cmp .eq (.idx (.loc 2) (.lit (.int 1))) (.lit (.str []))) [.cont] []),(.aB (.and [(.cmp .gt (.prim .len [(.loc 1)]) (.lit (.int 0))),(.call (.glob (.fn 1)) [(.idx (.loc 1) (.bin .sub (.prim .len [(.loc 1)]) (.lit (.int 1))))])]) [(.asg (.loc 2) (.tup [(.lit (.str [99,104,97,114,115])),(.bin .add (.idx (.ba (.loc 1) .pop []) (.lit (.int 1))) (.idx (.loc 2) (.lit (.int 1))))]))] [])] []),(.expr (.ba (.loc 1) .append [(.loc 2)]))]
theorem WN{n:Nd}(hn:gK n=false)(hf:H[f]?=some (.list X))(hl:X.length<lim):aS (ar own) (ae (ar own) (d+1)) bJ [some (.loc pl),some (.loc f),some (nV n)] H=some (.next,[some (.loc pl),some (.loc f),some (nV n)],H.set f (.list (X++[nV n]))):=by
 have hz:gK n=false:=hn
 exact ah (bD (az rfl ((plain1 n).trans (by rw[hn]))) aJ) (fm (de rfl (bb (by solve_by_elim [am,au,aa,ag,aG,aH,cA]) rfl) rfl (bV hf hl)))
theorem WO:aS (ar own) (ae (ar own) (d+1)) bJ [some (.loc pl),some (.loc f),some (nV (.sg (.ch [])))] H=some (.cont,[some (.loc pl),some (.loc f),some (nV (.sg (.ch [])))],H):=
 qN (cf (az rfl (plain1 (.sg (.ch [])))) (qN (cf rfl (qN JW))))
theorem WP{c:Nat}{t:List Nat}(hf:H[f]?=some (.list [])):aS (ar own) (ae (ar own) (d+1)) bJ [some (.loc pl),some (.loc f),some (nV (.sg (.ch (c::t))))] H=some (.next,[some (.loc pl),some (.loc f),some (nV (.sg (.ch (c::t))))],H.set f (.list [nV (.sg (.ch (c::t)))])):=
 ah (cf (az rfl (plain1 (.sg (.ch (c::t))))) (ah rfl (bh (ed (ax (bl rfl (dN hf)) ak (by rfl))) aJ))) (fm (de rfl (bb (by solve_by_elim [am,au,aa,ag,aG,aH,cA]) rfl) rfl (bV hf (by decide))))
theorem WQ{c:Nat}{t:List Nat}{Y:List V}{z:Nd}(hz:gK z=false)(hf:H[f]?=some (.list (Y++[nV z])))(hl:(Y++[nV z]).length<lim):aS (ar own) (ae (ar own) (d+1)) bJ [some (.loc pl),some (.loc f),some (nV (.sg (.ch (c::t))))] H=some (.next,[some (.loc pl),some (.loc f),some (nV (.sg (.ch (c::t))))],H.set f (.list (Y++[nV z]++[nV (.sg (.ch (c::t)))]))):=
 ah (cf (az rfl (plain1 (.sg (.ch (c::t))))) (ah rfl (bh (dA (ax (bl rfl (dN hf)) ak (e6 (by rw[aK];exact q9.mpr (nE _)))) (ed (az (dH (aR rfl (cw (bl rfl (dN hf)) ak (by rfl)) (cr hf (uL Y (nV z))))) ((plain1 z).trans (by rw[hz]))))) aJ))) (fm (de rfl (bb (by solve_by_elim [am,au,aa,ag,aG,aH,cA]) rfl) rfl (bV hf hl)))
theorem WR{c:Nat}{t u:List Nat}{Y:List V}(hf:H[f]?=some (.list (Y++[nV (.sg (.ch u))])))(hl:Y.length<lim)(hu:u.length+(c::t).length<=lim):aS (ar own) (ae (ar own) (d+1)) bJ [some (.loc pl),some (.loc f),some (nV (.sg (.ch (c::t))))] H=some (.next,[some (.loc pl),some (.loc f),some (nV (.sg (.ch (u++c::t))))],(H.set f (.list Y)).set f (.list (Y++[nV (.sg (.ch (u++c::t)))]))):=
 ah (cf (az rfl (plain1 (.sg (.ch (c::t))))) (ah rfl (ah (cf (dA (ax (bl rfl (dN hf)) ak (e6 (by rw[aK];exact q9.mpr (nE _)))) (dA (az (dH (aR rfl (cw (bl rfl (dN hf)) ak (by rfl)) (cr hf (uL Y (nV (.sg (.ch u))))))) (plain1 (.sg (.ch u)))) jt)) (bk (aU (aV ak (cw (aR (de rfl (bb hf rfl) bA (kO hf)) ak (by rfl)) rfl (by exact eQ hu)))) aJ)) aJ))) (fm (de rfl (bb (by solve_by_elim [am,au,aa,ag,aG,aH,cA]) rfl) rfl (bV (au hf) hl)))
structure JI(H0:Hp)(pl f:Nat)(parts:List V)(r:List Nd)(l:Lo)(H:Hp):Prop where
 l:∃ x,l=[some (.loc pl),some (.loc f),x]
 pl:H[pl]?=some (.list parts)
 fo:H[f]?=some (.list (r.reverse.map nV))
 gr:Gr H0 H
theorem Gr.set{H0:Hp}{f:Nat}{x:O}(g:Gr H0 H)(h:H0.length<=f):Gr H0 (H.set f x):=⟨by rw[dt];exact g.len,λi hi=>(iQ (dp (d8 hi h))).trans (g.off i hi)⟩
theorem JI.put{H0:Hp}{parts:List V}{r r':List Nd}{l:Lo}(j:JI H0 pl f parts r l H)(hf:H0.length<=f)(be:f≠pl){x:Option V}:JI H0 pl f parts r' [some (.loc pl),some (.loc f),x] (H.set f (.list (r'.reverse.map nV))):=
 ⟨⟨_,rfl⟩,aa be j.pl,au j.fo,j.gr.set hf⟩
theorem bX{a:Nat}(h:a<100000):a<lim:=nB h (by decide)
noncomputable def JP(r ps:List Nd):Prop:=pX r+pX ps<100000/\r.length+ps.length<100000
theorem iN(n:Nd)(r:List Nd):(n::r).reverse.map nV=r.reverse.map nV++[nV n]:=by rw[gb,dK]
theorem JP.cons{r ps:List Nd}{n:Nd}(p:JP r (n::ps)):JP (n::r) ps:=⟨by show tx n+pX r+pX ps<_;rw[iR (tx n),cb];exact p.1,by show r.length+1+ps.length<_;rw[cb,iR 1];exact p.2⟩
theorem JP.skip{r ps:List Nd}{n:Nd}(p:JP r (n::ps)):JP r ps:=⟨jM (lL (eL _ _) _) p.1,Nat.lt_of_succ_lt p.2⟩
theorem JP.len{r ps:List Nd}(p:JP r ps):(r.reverse.map nV).length<lim:=by rw[cn,lI];exact bX (jM (dq _ _) p.2)
theorem JP.RP{r ps:List Nd}{z:Nd}(p:JP (z::r) ps):(r.reverse.map nV).length<lim:=by rw[cn,lI];exact bX (jM (bv (fA _) (dq _ _)) p.2)
theorem JP.app{r ps:List Nd}{u t:List Nat}(p:JP (.sg (.ch u)::r) (.sg (.ch t)::ps)):JP (.sg (.ch (u++t))::r) ps:=⟨by
 have h:u.length+pX r+(t.length+pX ps)<100000:=p.1
 show(u++t).length+pX r+pX ps<_
 rw[aK,cb u.length,iR t.length,← cb u.length,cb];exact h,Nat.lt_of_succ_lt p.2⟩
theorem JP.ut{r ps:List Nd}{u t:List Nat}(p:JP (.sg (.ch u)::r) (.sg (.ch t)::ps)):u.length+t.length<=lim:=jh (bX (jM (gC (dq _ _) (dq _ _)) p.1))
noncomputable def KP(H0:Hp)(pl f:Nat)(parts:List V)(X:SR)(r ps:List Nd):Prop:=∃ fl l' H',(fl=Fl.next\/fl=Fl.cont)/\X=some (fl,l',H')/\JI H0 pl f parts r l' H'/\JP r ps
theorem ND{H0:Hp}{parts:List V}(UE:H0.length<=f)(be:f≠pl)(r:List Nd)(n:Nd)(ps:List Nd)(l:Lo)(H:Hp)(j:JI H0 pl f parts r l H)(p:JP r (n::ps)):KP H0 pl f parts (aS (ar own) (ae (ar own) (d+1)) bJ (l.set 2 (some (nV n))) H) (jR r n) ps:=by
 obtain⟨x,rfl⟩:=j.l
 have push:∀{r n},JI H0 pl f parts r [some (.loc pl),some (.loc f),x] H->JP r (n::ps)->aS (ar own) (ae (ar own) (d+1)) bJ [some (.loc pl),some (.loc f),some (nV n)] H=some (.next,[some (.loc pl),some (.loc f),some (nV n)],H.set f (.list (r.reverse.map nV++[nV n])))->KP H0 pl f parts (aS (ar own) (ae (ar own) (d+1)) bJ [some (.loc pl),some (.loc f),some (nV n)] H) (n::r) ps:=
  λj p e=>⟨.next,_,_,.inl rfl,e,iN _ _▸j.put UE be,p.cons⟩
 exact KN (P:=λr n r'=>JI H0 pl f parts r [some (.loc pl),some (.loc f),x] H->JP r (n::ps)->KP H0 pl f parts (aS (ar own) (ae (ar own) (d+1)) bJ [some (.loc pl),some (.loc f),some (nV n)] H) r' ps)
  (λr n hn j p=>push j p (WN hn j.fo p.len))
  (λr j p=>⟨.cont,_,_,.inr rfl,WO,⟨⟨_,rfl⟩,j.pl,j.fo,j.gr⟩,p.skip⟩)
  (λc t j p=>push j p (WP j.fo))
  (λc t z r hz j p=>push j p (iN z r▸WQ hz (iN z r▸j.fo) (iN z r▸p.len)))
  (λc t u r j p=>⟨.next,_,_,.inl rfl,WR (iN _ r▸j.fo) p.RP p.ut,by rw[oY,← iN];exact j.put UE be,p.app⟩) r n j p
theorem yF{ns:List Nd}(hp:H[pl]?=some (.list (ns.map nV)))(h1:pX ns<100000)(h2:ns.length<100000){zg:Prop}(zk:∀ H',(ae (ar own) (d+2) 2 [.loc pl] H=some (.loc H.length,H'))->(Gr H H')->(H'[H.length]?=some (.list ((fF ns).map nV)))->zg):zg:=by
 obtain⟨l',H',e,j⟩:=kn (body:=aS (ar own) (ae (ar own) (d+1)) bJ) (g:=nV) jR (JI H pl H.length (ns.map nV)) JP (λ_ _ _ j=>j.pl) (ND (own:=own) (d:=d) (aE _) (aH hp)) ns 0 1048576 [] [some (.loc pl),some (.loc H.length),none] (H++[.list []]) (λj=>by rw[fy]) (by exact nl (aj [_] (.d (.s ab) (.n 100000) (.d (.n 1048576) ab .z)) rfl h2)) ⟨⟨_,rfl⟩,ag hp,am,Gr.app _ _⟩ ⟨by show 0+_<_;exact nl (aj [_] (.d (.s ab) (.n 100000) (.d (.n 100000) (.a (.n 0) ab) .z)) rfl h1),by show 0+_<_;exact nl (aj [_] (.d (.s ab) (.n 100000) (.d (.n 100000) (.a (.n 0) ab) .z)) rfl h2)⟩
 obtain⟨x2,rfl⟩:=j.l
 exact zk H' (ac rfl rfl (bk (bq bA) (ah (ju rfl (mr (ag hp)) (show _=some (Fl.next,[some (.loc pl),some (.loc H.length),x2],H') from e)) rfl))) j.gr j.fo
end
section
variable {own:List FI}{d:Nat}{H H0:Hp}{f pl co ol wl:Nat}{X W:List V}{v:V}{y y2:Option V}
noncomputable def KQ:ME:=(.cmp .gt (.prim .len [(.loc 2)]) (.lit (.int 0)))
noncomputable def Bn:List MS:=[(.asg (.tup [(.loc 3),(.loc 4)]) (.ba (.loc 2) .pop [])),(.aB (.cmp .eq (.loc 3) (.glob (.str [112,117,116]))) [(.expr (.ba (.loc 2) .extend [(.slice (.bm (.loc 0) 103 [(.loc 4)]) (.lit .none) (.lit .none) (.neg (.lit (.int 1))))]))] [(.aB (.cmp .eq (.loc 3) (.glob (.str [101,109,105,116]))) [(.expr (.bm (.loc 0) 101 [(.loc 4)]))] [(.expr (.bm (.loc 0) 106 [(.loc 3),(.loc 4)]))])])]
noncomputable abbrev rY(co wl:Nat)(nd:V)(y y2:Option V):Lo:=[some (.loc co),some nd,some (.loc wl),y,y2]
theorem HJ{nd n0:V}{it:List V}{r:Nat}{H2:Hp}(hw:H[wl]?=some (.list (W++[ie nd])))(hc:H[co]?=some (.inst 0 [(0,.loc ol)]))(KR:wl≠co)(hb:ae (ar own) d 6 [.loc co,nd] (H.set wl (O.list W))=some (.loc r,H2))(hr:H2[r]?=some (.list it))(kR:H2[wl]?=some (.list W))(hl:W.length+it.reverse.length<lim) :
  aS (ar own) (ae (ar own) d) Bn (rY co wl n0 y y2) H=some (.next,rY co wl n0 (some (.str [112,117,116])) (some nd),(H2++[O.list it.reverse]).set wl (O.list (W++it.reverse))):=
 ah (aT (de rfl (bb hw rfl) bA (kO hw)) rfl) (ah (cf rfl (fm (de rfl (bb (au hw) rfl) (dH (i4 (aP rfl (aa KR hc) rfl rfl rfl hb) ak ak rfl (by exact dj hr))) (qT (ag kR) am (aG kR) hl)))) aJ)
theorem HK{x n0 v2:V}{H2:Hp}(hw:H[wl]?=some (.list (W++[uJ x])))(hc:H[co]?=some (.inst 0 [(0,.loc ol)]))(KR:wl≠co)(hb:ae (ar own) d 4 [.loc co,x] (H.set wl (O.list W))=some (v2,H2)) :
  aS (ar own) (ae (ar own) d) Bn (rY co wl n0 y y2) H=some (.next,rY co wl n0 (some (.str [101,109,105,116])) (some x),H2):=
 ah (aT (de rfl (bb hw rfl) bA (kO hw)) rfl) (ah (bD rfl (ah (cf rfl (fm (aP rfl (aa KR hc) rfl rfl rfl hb))) aJ)) aJ)
theorem qV{e n0 v2:V}{kx:List Nat}{H2:Hp}(hw:H[wl]?=some (.list (W++[.tup [.str kx,e]])))(hc:H[co]?=some (.inst 0 [(0,.loc ol)]))(KR:wl≠co)(h1:(kx==[112,117,116])=false)(h2:(kx==[101,109,105,116])=false)(hb:ae (ar own) d 9 [.loc co,.str kx,e] (H.set wl (O.list W))=some (v2,H2)) :
  aS (ar own) (ae (ar own) d) Bn (rY co wl n0 y y2) H=some (.next,rY co wl n0 (some (.str kx)) (some e),H2):=
 ah (aT (de rfl (bb hw rfl) bA (kO hw)) rfl) (ah (bD (ax rfl ce (cM h1)) (ah (bD (ax rfl ce (cM h2)) (fm (aP rfl (aa KR hc) rfl rfl rfl hb))) aJ)) aJ)
theorem NE{n0:V}(hw:H[wl]?=some (.list (W++[v]))):av (ar own) (ae (ar own) d) KQ (rY co wl n0 y y2) H=some (.bool true,H):=
 ax (bl rfl (dN hw)) ak (e6 (by rw[aK];exact q9.mpr (nE _)))
theorem NF{n0:V}(hw:H[wl]?=some (.list [])):av (ar own) (ae (ar own) d) KQ (rY co wl n0 y y2) H=some (.bool false,H):=
 ax (bl rfl (dN hw)) ak (by rfl)
theorem Bo{ps:List V}{z:V}(h:H[pl]?=some (.list (ps++[z]))):mL (.loc pl) .none (.int (((ps++[z]).length:Int)-1)) .none H=some (.loc H.length,H++[.list ps]):=by
 refine(dj h).trans ?_
 have e:((ps++[z]).length:Int)-1=(ps.length:Nat):=by rw[aK];show((ps.length+1:Nat):Int)-1=_;omega
 rw[e]
 show Option.map _ (gd (0<=((ps.length:Nat):Int)) _)=_
 rw[eQ (nF _),oT,List.take_left']
 ·rfl
 ·rfl
noncomputable def bC:List MS:=[(.expr (.ba (.loc 2) .extend [(.lst [(.tup [(.glob (.str [111,112,101,110])),(.loc 3)]),(.tup [(.glob (.str [112,117,116])),(.loc 4)]),(.tup [(.glob (.str [115,104,117,116])),(.loc 3)])])]))]
theorem KS{p e co:V}(hf:H[f]?=some (.list X))(hl:X.length+3<lim):aS (ar own) (ae (ar own) d) bC [some co,some (.loc pl),some (.loc f),some e,some p] H=some (.next,[some co,some (.loc pl),some (.loc f),some e,some p],(H++[O.list [.tup [.str [111,112,101,110],e],ie p,.tup [.str [115,104,117,116],e]]]).set f (O.list (X++[.tup [.str [111,112,101,110],e],ie p,.tup [.str [115,104,117,116],e]]))):=
 ah (i5 (de rfl (bb hf rfl) (dH (bq rfl)) (qT (ag hf) am (aG hf) hl))) aJ
theorem Fq{e:Nat}:∀(ps X:List V),(ps.foldl (λX p=>X++[KE e,ie p,KI e]) X).length=X.length+3*ps.length
 |[],X=>rfl
 |p::r,X=>by
  rw[q8,Fq r,aK]
  show X.length+3+3*r.length=X.length+3*(r.length+1)
  exact lx [_,_] (.a (.a ab (.n 3)) (.m 3 af)) (.a ab (.m 3 (.s af))) rfl
noncomputable def rJ(e:Nat)(X:List V)(p:V):List V:=X++[KE e,ie p,KI e]
structure RQ(H0:Hp)(pl f e sl:Nat)(co:V)(ps X:List V)(l:Lo)(H:Hp):Prop where
 l:∃ x,l=[some co,some (.loc pl),some (.loc f),some (.loc e),x]
 sl:H[sl]?=some (.list ps)
 fo:H[f]?=some (.list X)
 gr:∀ i x,i≠f->H0[i]?=some x->H[i]?=some x
 len:H0.length<=H.length
noncomputable def NG(X ps:List V):Prop:=X.length+3*ps.length<100000
theorem KU{e sl:Nat}{co:V}{ps:List V}(hs:sl≠f)(X:List V)(p:V)(r:List V)(l:Lo)(H:Hp)(c:RQ H0 pl f e sl co ps X l H)(q:NG X (p::r)) :
  ∃ fl l' H',(fl=Fl.next\/fl=Fl.cont)/\aS (ar own) (ae (ar own) d) bC (l.set 4 (some (id p))) H=some (fl,l',H')/\RQ H0 pl f e sl co ps (rJ e X p) l' H'/\NG (rJ e X p) r:=by
 obtain⟨x,rfl⟩:=c.l
 unfold NG at q
 rw[c9] at q
 refine⟨.next,_,_,.inl rfl,KS c.fo (bX (by exact nl (aj [_,_] (.d (.s (.a ab (.m 3 (.s af)))) (.n 100000) (.d (.n 100000) (.a ab (.n 3)) .z)) rfl q))),⟨⟨_,rfl⟩,aa hs.symm (ag c.sl),au (ag c.fo),λi x h1 h2=>aa h1.symm (ag (c.gr i x h1 h2)),by rw[dt,aK];exact DZ c.len⟩,?_⟩
 show(X++[_,_,_]).length+_<_
 rw[aK]
 show _+3+_<_
 exact nl (aj [_,_] (.d (.s (.a ab (.m 3 (.s af)))) (.n 100000) (.d (.n 100000) (.a (.a ab (.n 3)) (.m 3 af)) .z)) rfl q)
theorem yG{co:V}{ps:List V}{z:V}(hp:H[pl]?=some (.list (ps++[z])))(hn:ps.length<1000){zg:Prop}(zk:∀ H' r e,(ae (ar own) (d+1) 7 [co,.loc pl] H=some (.loc r,H'))->(Gr H H')->(H'[r]?=some (.list (ps.foldl (rJ e) []++[ie z,xc e])))->(H'[e]?=some (.list [.int (-1),.loc (H.length+1)]))->(H'[H.length+1]?=some (.list []))->(e=H.length+2)->zg):zg:=by
 have l1:(H++[O.list []]).length=H.length+1:=by rw[aK];rfl
 have l2:(H++[O.list []]++[O.list []]).length=H.length+2:=by rw[aK,l1];rfl
 have l3:(H++[O.list []]++[O.list []]++[O.list [.int (-1),.loc (H++[O.list []]).length]]).length=H.length+3:=by rw[aK,l2];rfl
 obtain⟨l',H',e,j⟩:=kn (k:=4) (pl:=(H++[O.list []]++[O.list []]++[O.list [.int (-1),.loc (H++[O.list []]).length]]).length) (body:=aS (ar own) (ae (ar own) d) bC) (g:=id) (rJ (H++[O.list []]++[O.list []]).length) (RQ (H++[O.list []]++[O.list []]++[O.list [.int (-1),.loc (H++[O.list []]).length]]++[O.list ps]) pl H.length (H++[O.list []]++[O.list []]).length _ co ps) NG (λ_ _ _ j=>j.sl) (KU (own:=own) (d:=d) (by rw[l3];exact dp (nl (aj [_] (.d (.a ab (.n 3)) ab .z) rfl)))) ps 0 1048576 [] [some co,some (.loc pl),some (.loc H.length),some (.loc (H++[O.list []]++[O.list []]).length),none] _ (λj=>by rw[fy,oS]) (by exact nl (aj [_] (.d (.s ab) (.n 1000) (.d (.n 1048576) ab .z)) rfl hn)) ⟨⟨_,rfl⟩,am,ag (ag (ag am)),λ_ _ _ h=>h,aE _⟩ (by show 0+_<_;exact nl (aj [_] (.c 3 (.s ab) (.n 1000) (.d (.n 100000) (.a (.n 0) (.m 3 ab)) .z)) rfl hn))
 obtain⟨x,rfl⟩:=j.l
 have hf:H'.length > H.length:=d8 (by rw[aK,l3];show H.length<H.length+3+1;exact nl (aj [_] (.d (.s (.a ab (.n 3))) ab .z) rfl)) j.len
 have rX:(ps.foldl (rJ (H++[O.list []]++[O.list []]).length) []).length + [ie z,xc (H++[O.list []]++[O.list []]).length].length<=lim:=by
  exact bv (bx (congrArg (· + 2) (Fq ps []))) (jh (bX (by show 0+_+2<_;exact nl (aj [_] (.c 3 (.s ab) (.n 1000) (.d (.n 100000) (.a (.a (.n 0) (.m 3 ab)) (.n 2)) .z)) rfl hn))))
 have RR:∀ i x,H[i]?=some x->H'[i]?=some x:=λi x h=>j.gr i x (aG h) (ag (ag (ag (ag h))))
 refine zk _ _ _ (ac rfl rfl (ah (aT (aU (aV (bq bA) (bq (aV rfl (bq bA))))) rfl) (ah (ju (i4 rfl ak (cw (bl rfl (dN (ag (ag (ag hp))))) ak (by rfl)) ak (by exact Bo (ag (ag (ag hp))))) (mr am) (show _=some (Fl.next,[some co,some (.loc pl),some (.loc H.length),some (.loc (H++[O.list []]++[O.list []]).length),x],H') from e)) (aD (cw rfl (bq (aM (aU (aV ce (aR rfl (cw (bl rfl (dN (RR _ _ hp))) ak (by rfl)) (cr (RR _ _ hp) (uL ps z))))) rfl)) ((dj (ag j.fo)).trans ((dj am).trans (eQ rX)))))))) (⟨?_,λi h=>?_⟩) am (ag (ag (j.gr _ _ (by rw[l2];exact dp (nl (aj [_] (.d (.a ab (.n 2)) ab .z) rfl))) (ag (by rw[← l1];exact am))))) (ag (ag (j.gr _ _ (Nat.succ_ne_self _) (ag (ag (by rw[← l1];exact am)))))) l2
 ·rw[aK,aK];exact nt (aj [_,_,_,_] (.d (.s ab) af (.d (.s (.a (.a af aq) aA)) ab .z)) rfl hf)
 ·rw[cG,dB (by exact nl (aj [_,_,_] (.d (.s ab) af (.d (.s aq) ab (.d af aq .z))) rfl hf h))]
  have hx:=sJ h
  rw[hx];exact RR _ _ hx
end
section
variable {own:List FI}{d:Nat}{H H0:Hp}{f pl co ol wl:Nat}{X W:List V}{v:V}{y y2:Option V}
structure KG(k:List Nat):Prop where
 g1:(k==[99,97,116])=false
 g2:(k==[97,108,116])=false
 g3:(k==[97,114,98,110,111])=false
 g4:(k==[108,97,116,101,114])=false
 g5:(k==[110,111,119])=false
 g6:([[99,104,97,114,115],[108,101,110],[112,111,115],[114,112,111,115],[116,97,98],[114,116,97,98],[97,110,121],[110,111,116,97,110,121],[115,112,97,110],[98,114,101,97,107],[114,101,109]]:List (List Nat)).any (·==k)=true
theorem kg:∀ x:Sg,KG (vH x)
 |.ch _=>⟨rfl,rfl,rfl,rfl,rfl,rfl⟩
 |.len _=>⟨rfl,rfl,rfl,rfl,rfl,rfl⟩
 |.pos _=>⟨rfl,rfl,rfl,rfl,rfl,rfl⟩
 |.gH _=>⟨rfl,rfl,rfl,rfl,rfl,rfl⟩
 |.tab _=>⟨rfl,rfl,rfl,rfl,rfl,rfl⟩
 |.gI _=>⟨rfl,rfl,rfl,rfl,rfl,rfl⟩
 |.any _=>⟨rfl,rfl,rfl,rfl,rfl,rfl⟩
 |.fc _=>⟨rfl,rfl,rfl,rfl,rfl,rfl⟩
 |.span _=>⟨rfl,rfl,rfl,rfl,rfl,rfl⟩
 |.brk _=>⟨rfl,rfl,rfl,rfl,rfl,rfl⟩
 |.rem=>⟨rfl,rfl,rfl,rfl,rfl,rfl⟩
theorem NH{P:Pg}{call:bT}{l:Lo}{x:Sg}{H:Hp}(h:l[1]?=some (some (rV x))):av P call (.aB (.cmp .gt (.prim .len [.loc 1]) (.lit (.int 1))) (.idx (.loc 1) (.lit (.int 1))) (.lit .none)) l H=some (A8 x,H):=by
 induction x <;> first
  |exact cK (ax (bl (dH (gj h)) rfl) ak rfl) (aR (gj h) ak rfl)
  |exact bB (ax (bl (dH (gj h)) rfl) ak rfl) ak
theorem HL{x:Sg}(hc:H[co]?=some (.inst 0 [(0,.loc ol)]))(ho:H[ol]?=some (.list X))(be:co≠ol)(hl:X.length<lim):ae (ar own) (d+2) 6 [.loc co,nV (.sg x)] H=some (.loc (H.set ol (.list (X++[oV (.one x)]))).length,H.set ol (.list (X++[oV (.one x)]))++[O.list []]):=
 ac rfl rfl (ah rfl (bh (ax rfl ak (cM (kg x).g1)) (bh (ax rfl ak (cM (kg x).g2)) (bh (ax rfl ak (cM (kg x).g3)) (bh (iD (ax rfl ak (cM (kg x).g4)) (iD (ax rfl ak (cM (kg x).g5)) qM)) (ah (cf (ax rfl ce (congrArg some (kg x).g6)) (fm (aP rfl hc rfl rfl (dH (aU (aM ce (aV rfl (NH rfl))))) (dO hc ho be hl)))) (aD (bq bA))))))))
theorem Dt(hc:H[co]?=some (.inst 0 [(0,.loc ol)]))(ho:H[ol]?=some (.list X))(be:co≠ol)(hl:X.length<lim):ae (ar own) (d+2) 6 [.loc co,nV .cu] H=some (.loc (H.set ol (.list (X++[oV .iF]))).length,H.set ol (.list (X++[oV .iF]))++[O.list []]):=
 ac rfl rfl (eE rfl rfl (cm rfl rfl rfl (ah (bD rfl (ah (cf rfl (fm (aP rfl hc rfl rfl rfl (dO hc ho be hl)))) aJ)) (aD (bq bA)))))
theorem Du(hc:H[co]?=some (.inst 0 [(0,.loc ol)]))(ho:H[ol]?=some (.list X))(be:co≠ol)(hl:X.length<lim):ae (ar own) (d+2) 6 [.loc co,nV .dT] H=some (.loc (H.set ol (.list (X++[oV .fence]))).length,H.set ol (.list (X++[oV .fence]))++[O.list []]):=
 ac rfl rfl (eE rfl rfl (cm rfl rfl rfl (ah (bD rfl (ah (bD rfl (fm (aP rfl hc rfl rfl rfl (dO hc ho be hl)))) aJ)) (aD (bq bA)))))
theorem Bp(hc:H[co]?=some (.inst 0 [(0,.loc ol)]))(ho:H[ol]?=some (.list X))(be:co≠ol)(hl:X.length<lim):ae (ar own) (d+2) 6 [.loc co,nV .fail] H=some (.loc (H.set ol (.list (X++[oV .fail]))).length,H.set ol (.list (X++[oV .fail]))++[O.list []]):=
 ac rfl rfl (eE rfl rfl (cm rfl rfl rfl (ah (bD rfl (ah (bD rfl (fm (aP rfl hc rfl rfl rfl (dO hc ho be hl)))) aJ)) (aD (bq bA)))))
theorem Dv{q:Nat}(hc:H[co]?=some (.inst 0 [(0,.loc ol)]))(ho:H[ol]?=some (.list X))(be:co≠ol)(hl:X.length<lim):ae (ar own) (d+2) 6 [.loc co,nV (.cur q)] H=some (.loc (H.set ol (.list (X++[oV (.place q)]))).length,H.set ol (.list (X++[oV (.place q)]))++[O.list []]):=
 ac rfl rfl (eE rfl rfl (cm rfl rfl rfl (ah (bD rfl (ah (bD rfl (fm (aP rfl hc rfl rfl rfl (dO hc ho be hl)))) aJ)) (aD (bq bA)))))
theorem Dw{k:List Nat}(hc:H[co]?=some (.inst 0 [(0,.loc ol)]))(ho:H[ol]?=some (.list X))(be:co≠ol)(hl:X.length<lim):ae (ar own) (d+2) 6 [.loc co,nV (.dU k)] H=some (.loc (H.set ol (.list (X++[oV (.ask k)]))).length,H.set ol (.list (X++[oV (.ask k)]))++[O.list []]):=
 ac rfl rfl (eE rfl rfl (cm rfl rfl rfl (ah (bD rfl (ah (bD rfl (fm (aP rfl hc rfl rfl rfl (dO hc ho be hl)))) aJ)) (aD (bq bA)))))
theorem HM{n:Nd}{q:Nat}(hc:H[co]?=some (.inst 0 [(0,.loc ol)]))(ho:H[ol]?=some (.list X))(be:co≠ol)(hl:X.length<lim):ae (ar own) (d+2) 6 [.loc co,nV (.lt n q)] H=some (.loc (H.set ol (.list (X++[oV .mark]))).length,H.set ol (.list (X++[oV .mark]))++[O.list [ie (nV n),uJ (oV (.name q))]]):=
 ac rfl rfl (ah rfl (cm rfl rfl rfl (aW rfl (lu (aP rfl hc rfl rfl rfl (dO hc ho be hl)) (aD (bq rfl))))))
theorem HP{n:Nd}{q:Nat}(hc:H[co]?=some (.inst 0 [(0,.loc ol)]))(ho:H[ol]?=some (.list X))(be:co≠ol)(hl:X.length<lim):ae (ar own) (d+2) 6 [.loc co,nV (.nw n q)] H=some (.loc (H.set ol (.list (X++[oV .mark]))).length,H.set ol (.list (X++[oV .mark]))++[O.list [ie (nV n),uJ (oV (.set q))]]):=
 ac rfl rfl (ah rfl (cm rfl rfl rfl (aW rfl (lu (aP rfl hc rfl rfl rfl (dO hc ho be hl)) (aD (bq rfl))))))
theorem Bq{n:Nd}(hc:H[co]?=some (.inst 0 [(0,.loc ol)]))(ho:H[ol]?=some (.list X))(be:co≠ol)(JF:X.length+3<lim){zg:Prop}
  (zk:∀(r e e1:Nat)(H':Hp),ae (ar own) (d+3) 6 [.loc co,nV (.rp n)] H=some (.loc r,H')->H'[ol]?=some (.list (X++[oV (.split (X.length+2)),.none,oV .mark]))->H'[r]?=some (.list [ie (nV n),uJ (oV .i7),uJ (oV (.df X.length)),xc e])->H'[e]?=some (.list [.int X.length,.loc e1])->H'[e1]?=some (.list [.int (X.length+1:Nat)])->H.length<=e1->e1<e->(∀ i x,i≠ol->H[i]?=some x->H'[i]?=some x)->H.length<=H'.length->zg):zg:=by
 have hl:X.length<lim:=by omega
 have RT:(X++[V.none]).length<lim:=by rw[aK];show X.length+1<lim;omega
 have hb:0<=(X.length:Int)/\(X.length:Int).toNat<(X++[V.none]++[V.none]).length:=⟨nF _,by rw[oT,aK,aK];show X.length<X.length+1+1;omega⟩
 have rX:((X++[V.none]++[V.none]).set (X.length:Int).toNat (.tup [.str [115,112,108,105,116],.int (X++[V.none]++[V.none]).length])).length<lim:=by rw[dt,aK,aK];show X.length+1+1<lim;omega
 have hX:(X++[V.none]++[V.none]).set (X.length:Int).toNat (.tup [.str [115,112,108,105,116],.int (X++[V.none]++[V.none]).length])++[oV .mark]=X++[oV (.split (X.length+2)),.none,oV .mark]:=by
  rw[oT,cG,zf _ _ (aE _),gZ,cG,aK];rfl
 have e0:ae (ar own) (d+2) 8 [.loc co,nV n] H=_:=ac rfl rfl (bk (aP rfl hc rfl rfl rfl (dO hc ho be hl)) (bk (aP rfl (aa be.symm hc) rfl rfl rfl (dO (aa be.symm hc) (au ho) be RT)) (ah (aT (aU (aV ce (bl (dH (aC rfl (ay (aa be.symm (aa be.symm hc)) rfl))) (dN (au (au ho)))))) (kM (aC rfl (ay (aa be.symm (aa be.symm hc)) rfl)) rfl (mY (au (au ho)) hb))) (lu (aP rfl (aa be.symm (aa be.symm (aa be.symm hc))) rfl rfl rfl (dO (aa be.symm (aa be.symm (aa be.symm hc))) (au (au (au ho))) be rX)) (aD (bq (aM rfl (aM rfl (aV rfl (aU (aV ce (bq (aV rfl (bq rfl))))))))))))))
 have e1:ae (ar own) (d+3) 6 [.loc co,nV (.rp n)] H=_:=ac rfl rfl (cm rfl rfl rfl (aW rfl (aD (aP rfl hc rfl rfl rfl e0))))
 refine zk _ _ _ _ e1 (ag (ag (ag ?_))) ?_ (ag am) (ag (ag ?_)) ?_ ?_ (λi x h1 h=>ag (ag (ag (aa h1.symm (aa h1.symm (aa h1.symm (aa h1.symm h))))))) ?_
 ·exact(au (au (au (au ho)))).trans (congrArg (λz=>some (O.list z)) hX)
 ·exact am
 ·refine am.trans ?_
  rw[aK];rfl
 ·simp only[dt];exact aE _
 ·simp only[dt,aK];exact lJ _
 ·simp only[dt,aK];omega
theorem xe{ps:List Nd}{P:Pg}{call:bT}{l:Lo}(hp:H[pl]?=some (.list (ps.map nV)))(Dp:∀ v:V,(l.set 3 (some v))[3]?=some (some v)):∀(r:List Nd)(i f:Nat)(acc:List V),(∀ j,(ps.map nV)[i+j]?=(r.map nV)[j]?)->r.length<f ->
  dw (λl H=>nU P call [] l H) (λl H=>av P call (.tup [.glob (.str [112,117,116]),.loc 3]) l H) (.one 3) l f (.lst pl i) acc H=some (acc.reverse++r.map λn=>ie (nV n),H)
 |[],i,f+1,acc,h,_=>(pP (pQ hp (h 0))).trans (by rw[sN,eU])
 |n::r,i,f+1,acc,h,hf=>by
  refine(mn (qO hp (h 0)) rfl AY (aU (aV ce (gj (Dp _)))) (xe hp Dp r (i+1) f (ie (nV n)::acc) (λj=>by rw[cb,iR 1 j];exact h (j+1)) (oX hf))).trans ?_
  rw[gb,cG];rfl
theorem uM(l:List Nd):(fF l).length<=l.length:=by
 have:∀(l r:List Nd),(l.foldl jR r).length<=r.length+l.length:=λl=>by
   induction l with
  |nil=>intro r;exact aE _
  |cons n l ih=>
    intro r
    refine bv (ih _) ?_
    rw[c9,iR l.length,← cb]
    exact Nat.add_le_add_right (pW (P:=λr n r'=>r'.length<=r.length+1) (λ_ _=>aE _) (λ_=>fA _) (λ_ _ _ _=>fA _) r n) _
 rw[fF,lI]
 exact bv (this l []) (bx (fy _))
theorem Br{a b:Nd}(hn:sz (.ca a b)<1000)(ht:pX (aN true (.ca a b))<100000){zg:Prop}(zk:∀ r H',(ae (ar own) (d+3) 6 [.loc co,nV (.ca a b)] H=some (.loc r,H'))->(Gr H H')->(H'[r]?=some (.list ((fF (aN true (.ca a b))).map λn=>ie (nV n))))->zg):zg:=by
 have hl:=fv true (.ca a b)
 refine xd (own:=own) (d:=d+1) (H:=H) true (.ca a b) hn λH1 e1 g1 h1=>?_
 refine yF (own:=own) (d:=d) h1 ht (by exact nl (aj [_,_] (.d (.s ab) (.n 1000) (.d af ab (.d (.n 100000) af .z))) rfl hn hl)) λH2 e2 g2 hj=>?_
 have UF:=uM (aN true (.ca a b))
 have e3:=xe (P:=ar own) (call:=ae (ar own) (d+2)) (l:=[some (.loc co),some (nV (.ca a b)),some (.str [99,97,116])]++List.replicate 1 none) hj (λv=>rfl) _ 0 1048576 [] (λj=>by rw[fy]) (by exact nl (aj [_,_,_] (.d (.s ab) (.n 1000) (.d af ab (.d aq af (.d (.n 1048576) aq .z)))) rfl hn hl UF))
 exact zk _ _ (ac rfl rfl (ah rfl (aW rfl (aD (pK (az (dH (az rfl e1)) e2) (mr hj) e3 (by rw[sO,oR,cn];exact jh (bX (by exact nl (aj [_,_,_] (.d (.s ab) (.n 1000) (.d af ab (.d aq af (.d (.n 100000) aq .z)))) rfl hn hl UF))))))))) ((g1.trans g2).trans (Gr.app _ _)) am
theorem Bs{a b:Nd}{ps:List Nd}{z:Nd}(hc:H[co]?=some (.inst 0 [(0,.loc ol)]))(hn:sz (.al a b)<1000)(hr:aN false (.al a b)=ps++[z]){zg:Prop}(zk:∀ r e e1 H',(ae (ar own) (d+3) 6 [.loc co,nV (.al a b)] H=some (.loc r,H'))->(Gr H H')->(H'[r]?=some (.list ((ps.map nV).foldl (rJ e) []++[ie (nV z),xc e])))->(H'[e]?=some (.list [.int (-1),.loc e1]))->(H'[e1]?=some (.list []))->(H.length<=e1)->(e1<e)->zg):zg:=by
 have hl:=fv false (.al a b)
 refine xd (own:=own) (d:=d+1) (H:=H) false (.al a b) hn λH1 e1 g1 h1=>?_
 rw[hr,dK] at h1
 rw[hr,aK] at hl
 refine yG (own:=own) (d:=d+1) (co:=.loc co) h1 (by rw[cn];exact nl (aj [_,_,_] (.d (.s ab) (.n 1000) (.d (.a af aq) ab (.d (.n 1000) af .z))) rfl hn hl)) λH2 r e e2 g2 bL he kj RL=>?_
 exact zk r e (H1.length+1) H2 (ac rfl rfl (eE rfl rfl (aW rfl (aD (aP rfl hc rfl rfl (dH (az rfl e1)) e2))))) (g1.trans g2) bL he kj (eD g1.len) (by rw[RL];exact lJ _)
noncomputable def KW:List MS:=[(.asg (.idx (.attr (.loc 0) 0) (.loc 3)) (.tup [(.glob (.str [106,117,109,112])),(.prim .len [(.attr (.loc 0) 0)])]))]
noncomputable def pY(e:Nat):V:=oV (.df e)
theorem HQ{kx e:V}{p:Nat}(hc:H[co]?=some (.inst 0 [(0,.loc ol)]))(ho:H[ol]?=some (.list X))(hb:0<=(p:Int)/\(p:Int).toNat<X.length):aS (ar own) (ae (ar own) d) KW [some (.loc co),some kx,some e,some (.int p)] H=some (.next,[some (.loc co),some kx,some e,some (.int p)],H.set ol (.list (X.set (p:Int).toNat (pY X.length)))):=
 ah (aT (aU (aV ce (bl (dH (aC rfl (ay hc rfl))) (dN ho)))) (kM (aC rfl (ay hc rfl)) rfl (mY ho hb))) aJ
structure MI(H0:Hp)(co ol e1:Nat)(kx e:V)(E:List V)(n:Nat)(X:List V)(l:Lo)(H:Hp):Prop where
 l:∃ x,l=[some (.loc co),some kx,some e,x]
 hc:H[co]?=some (.inst 0 [(0,.loc ol)])
 ho:H[ol]?=some (.list X)
 he:H[e1]?=some (.list E)
 gr:∀ i x,i≠ol->H0[i]?=some x->H[i]?=some x
 len:H0.length<=H.length
 n:X.length=n
theorem HS{e1 n:Nat}{kx e:V}{E:List V}(be:co≠ol)(KJ:ol≠e1)(X:List V)(p:Nat)(r:List Nat)(l:Lo)(H:Hp)(c:MI H0 co ol e1 kx e E n X l H)(q:∀ p'∈p::r,p'<n) :
  ∃ fl l' H',(fl=Fl.next\/fl=Fl.cont)/\aS (ar own) (ae (ar own) d) KW (l.set 3 (some (.int p))) H=some (fl,l',H')/\MI H0 co ol e1 kx e E n (X.set p (pY n)) l' H'/\∀ p'∈r,p'<n:=by
 obtain⟨x,rfl⟩:=c.l
 have hl:=c.n
 subst hl
 exact⟨.next,_,_,.inl rfl,HQ c.hc c.ho ⟨nF _,q p (.head _)⟩,⟨⟨_,rfl⟩,aa be.symm c.hc,au c.ho,aa KJ c.he,λi x h1 h2=>aa h1.symm (c.gr i x h1 h2),by rw[dt];exact c.len,dt ..⟩,λp' h=>q p' (.tail _ h)⟩
noncomputable def patch(n:Nat)(E:List Nat)(X:List V):List V:=E.foldl (λX p=>X.set p (pY n)) X
theorem yH{e e1:Nat}{E:List Nat}{v0:V}(hc:H[co]?=some (.inst 0 [(0,.loc ol)]))(ho:H[ol]?=some (.list X))(be:co≠ol)(he:H[e]?=some (.list [v0,.loc e1]))(kj:H[e1]?=some (.list (E.map λ(p:Nat)=>V.int p)))(uK:ol≠e1)(hE:E.length<1000)(hb:∀ p∈E,p<X.length){zg:Prop}(zk:∀ H',(ae (ar own) (d+1) 9 [.loc co,.str [109,101,101,116],.loc e] H=some (.none,H'))->(H.length<=H'.length)->(H'[ol]?=some (.list (patch X.length E X)))->(∀ i x,i≠ol->H[i]?=some x->H'[i]?=some x)->zg):zg:=by
 obtain⟨l',H',e3,j⟩:=kn (k:=3) (pl:=e1) (body:=aS (ar own) (ae (ar own) d) KW) (g:=λ(p:Nat)=>V.int p) (λY p=>Y.set p (pY X.length)) (λY=>MI H co ol e1 (.str [109,101,101,116]) (.loc e) (E.map λ(p:Nat)=>V.int p) X.length Y) (λ_ r=>∀ p∈r,p<X.length) (λ_ _ _ j=>j.he) (HS (own:=own) (d:=d) be uK) E 0 1048576 X [some (.loc co),some (.str [109,101,101,116]),some (.loc e),none] H (λj=>by rw[fy]) (by exact nl (aj [_] (.d (.s ab) (.n 1000) (.d (.n 1048576) ab .z)) rfl hE)) ⟨⟨_,rfl⟩,hc,ho,kj,λ_ _ _ h=>h,aE _,rfl⟩ hb
 obtain⟨x,rfl⟩:=j.l
 exact zk H' (et rfl rfl (ah (bD rfl (ah (bD rfl (ah (ju (aR rfl ak (cr he rfl)) (mr kj) e3) aJ)) aJ)) aJ)) j.len j.ho j.gr
theorem Dy{e e1:Nat}{E:List Nat}{v0:V}(hc:H[co]?=some (.inst 0 [(0,.loc ol)]))(ho:H[ol]?=some (.list X))(be:co≠ol)(he:H[e]?=some (.list [v0,.loc e1]))(kj:H[e1]?=some (.list (E.map λ(p:Nat)=>V.int p)))(uK:ol≠e1)(hE:E.length<1000)(hb:∀ p∈E,p<X.length):∃ H',ae (ar own) (d+1) 9 [.loc co,.str [109,101,101,116],.loc e] H=some (.none,H')/\H.length<=H'.length/\H'[ol]?=some (.list (patch X.length E X))/\∀ i x,i≠ol->H[i]?=some x->H'[i]?=some x:=yH hc ho be he kj uK hE hb λH' cR cX io Cj=>⟨H',cR,cX,io,Cj⟩
end
set_option genCtorIdx false in
inductive Wk where
 |put (n:Nd)|emit (x:Od)|HT (e:Nat)|HU (e:Nat)|met (e:Nat)
noncomputable def kT:Wk->V
 |.put n=>ie (nV n)
 |.emit x=>uJ (oV x)
 |.HT e=>KE e
 |.HU e=>KI e
 |.met e=>xc e
noncomputable def NI:Wk->Nat
 |.put n=>6*sz n
 |.emit _=>1
 |.HT _=>2
 |.HU _=>2
 |.met _=>1
noncomputable def iK:List Wk->Nat
 |[]=>0
 |k::r=>NI k+iK r
theorem RU:iK ([])=0:=rfl
theorem oy{k r}:iK (k::r)=NI k+iK r:=rfl
theorem fp:∀(a b:List Wk),iK (a++b)=iK a+iK b
 |[],b=>(fy _).symm
 |k::r,b=>by rw[zb,oy,oy,fp r b,cb]
theorem pZ:∀ a:List Wk,iK a.reverse=iK a
 |[]=>rfl
 |k::r=>by rw[gb,fp,pZ r,oy,RU,oy,Nat.add_zero,iR]
theorem yI(n:Nd):1<=sz n:=by
 induction n <;> first|exact aE _|exact eL _ _
theorem ig:∀ a:List Wk,a.length<=iK a
 |[]=>aE _
 |k::r=>by
  have h1:1<=NI k:=by
    induction k with
   |put n=>have:=yI n;show 1<=6*sz n;exact nt (aj [_] (.c 6 (.n 1) ab (.d (.s (.m 6 ab)) (.n 1) .z)) rfl this)
   |met e=>exact aE _
   |emit e=>exact aE _
   |_=>exact fA _
  have h2:=ig r
  rw[c9,oy];exact nt (aj [_,_,_] (.d (.n 1) ab (.d af aq (.d (.s (.a ab aq)) (.s af) .z))) rfl h1 h2)
structure PS(co ol wl:Nat)(X:List V)(W:List Wk)(H:Hp):Prop where
 jc:H[co]?=some (.inst 0 [(0,.loc ol)])
 lC:H[ol]?=some (.list X)
 iw:H[wl]?=some (.list (W.map kT))
 ne:ol≠wl
section
variable {own:List FI}{d:Nat}{H H0 H1 H2:Hp}{co ol wl:Nat}{X:List V}{W:List Wk}{n0:V}{y y2:Option V}
theorem PS.n1(t:PS co ol wl X W H):co≠ol:=aX t.jc t.lC (λe=>by cases e)
theorem PS.n2(t:PS co ol wl X W H):wl≠co:=aX t.iw t.jc (λe=>by cases e)
structure Fx(ol wl:Nat)(H H':Hp):Prop where
 len:H.length<=H'.length
 off:∀ i x,i≠ol->i≠wl->H[i]?=some x->H'[i]?=some x
theorem Fx.trans(a:Fx ol wl H H1)(b:Fx ol wl H1 H2):Fx ol wl H H2:=⟨bv a.len b.len,λi x h1 h2 h=>b.off i x h1 h2 (a.off i x h1 h2 h)⟩
theorem Fx.refl:Fx ol wl H H:=⟨aE _,λ_ _ _ _ h=>h⟩
noncomputable abbrev OT(own:List FI)(d co wl:Nat)(n0:V)(F:Nat)(y y2:Option V)(H:Hp):SR:=dG (av (ar own) (ae (ar own) d) KQ) (aS (ar own) (ae (ar own) d) Bn) F (rY co wl n0 y y2) H
noncomputable def Lp(own:List FI)(d co wl:Nat)(n0:V)(J:Nat)(y y2:Option V)(H:Hp)(y' WS:Option V)(H':Hp):Prop:=∃ j,j<=J/\∀ F q,OT own d co wl n0 F y' WS H'=q->OT own d co wl n0 (j+F) y y2 H=q
theorem Lp.trans{J J':Nat}{a a2 b b2 c c2:Option V}(p:Lp own d co wl n0 J a a2 H b b2 H1)(q:Lp own d co wl n0 J' b b2 H1 c c2 H2):Lp own d co wl n0 (J+J') a a2 H c c2 H2:=by
 obtain⟨i,hi,e⟩:=p
 obtain⟨j,hj,e'⟩:=q
 exact⟨i+j,gC hi hj,λF q h=>by rw[cb];exact e _ _ (e' _ _ h)⟩
theorem Lp.mono{J J':Nat}{a a2 b b2:Option V}(p:Lp own d co wl n0 J a a2 H b b2 H1)(h:J<=J'):Lp own d co wl n0 J' a a2 H b b2 H1:=by
 obtain⟨i,hi,e⟩:=p
 exact⟨i,bv hi h,e⟩
theorem Lp.one{k:Wk}{a b:V}(t:PS co ol wl X (W++[k]) H)(e:aS (ar own) (ae (ar own) d) Bn (rY co wl n0 y y2) H=some (.next,rY co wl n0 (some a) (some b),H1)):Lp own d co wl n0 1 y y2 H (some a) (some b) H1:=
 ⟨1,aE _,λF q h=>by
  rw[iR 1 F]
  have hw:=t.iw
  rw[dK] at hw
  exact hZ (NE hw) e h⟩
theorem PS.top{k:Wk}(t:PS co ol wl X (W++[k]) H):H[wl]?=some (.list (W.map kT++[kT k])):=by rw[t.iw,dK]
inductive Go(own:List FI)(d co ol wl:Nat)(n0:V)(X:List V)(W:List Wk)(J:Nat)(y y2:Option V)(B H:Hp):Prop where
 |mk (a b:Option V) (H3:Hp) (t:PS co ol wl X W H3) (f:Fx ol wl B H3) (l:Lp own d co wl n0 J y y2 H a b H3):Go own d co ol wl n0 X W J y y2 B H
inductive UG(own:List FI)(d co ol wl:Nat)(n0:V)(X:List V)(W:List Wk)(y y2:Option V)(H H2:Hp):Prop where
 |mk (a b:V) (H3:Hp) (t:PS co ol wl X W H3) (f:Fx ol wl H H3) (g:∀ i x,i≠wl->H2[i]?=some x->H3[i]?=some x) (n:H2.length<=H3.length) (l:Lp own d co wl n0 1 y y2 H (some a) (some b) H3):UG own d co ol wl n0 X W y y2 H H2
theorem qa{n:Nd}{r:Nat}{it:List Wk}{X':List V}(t:PS co ol wl X (W++[.put n]) H)(e:ae (ar own) d 6 [.loc co,nV n] (H.set wl (.list (W.map kT)))=some (.loc r,H2))(hl:(H.set wl (.list (W.map kT))).length<=H2.length)(ho:H2[ol]?=some (.list X'))(hr:H2[r]?=some (.list (it.map kT)))
  (hf:∀ i x,i≠ol->(H.set wl (.list (W.map kT)))[i]?=some x->H2[i]?=some x) (hW:W.length+it.length<lim) :
  UG own d co ol wl n0 X' (W++it.reverse) y y2 H H2:=by
 have kR:H2[wl]?=some (.list (W.map kT)):=hf wl _ t.ne.symm (au t.iw)
 have e2:=HJ (own:=own) (d:=d) (n0:=n0) (y:=y) (y2:=y2) t.top t.jc t.n2 e hr kR (by rw[lI,cn,cn];exact hW)
 have hg:∀ i x,i≠wl->H2[i]?=some x->((H2++[O.list (it.map kT).reverse]).set wl (O.list (W.map kT++(it.map kT).reverse)))[i]?=some x:=λi x h1 h=>aa h1.symm (ag h)
 rw[dt] at hl
 have Dp:H2.length<=((H2++[O.list (it.map kT).reverse]).set wl (O.list (W.map kT++(it.map kT).reverse))).length:=by rw[dt,aK];exact dq _ _
 exact⟨_,_,_,⟨hg _ _ t.n2.symm (hf _ _ t.n1 (aa t.n2 t.jc)),hg _ _ t.ne ho,by rw[dE,vQ];exact au (ag kR),t.ne⟩,⟨bv hl Dp,λi x h1 h2 h=>hg i x h2 (hf i x h1 (aa h2.symm h))⟩,hg,Dp,Lp.one t e2⟩
theorem uN{x:Od}(t:PS co ol wl X (W++[.emit x]) H)(hl:X.length<lim):Go own (d+1) co ol wl n0 (X++[oV x]) W 1 y y2 H H:=
 ⟨_,_,_,⟨aa t.n1.symm (aa t.n2 t.jc),au (aa t.ne.symm t.lC),aa t.ne (au t.iw),t.ne⟩,⟨by rw[dt,dt];exact aE _,λi x h1 h2 h=>aa h1.symm (aa h2.symm h)⟩,
  Lp.one t (HK t.top t.jc t.n2 (dO (aa t.n2 t.jc) (aa t.ne.symm t.lC) t.n1 hl))⟩
structure Al(e e1:Nat)(v:V)(E:List Nat)(ol wl:Nat)(B H:Hp):Prop where
 he:H[e]?=some (.list [v,.loc e1])
 kj:H[e1]?=some (.list (E.map λ(p:Nat)=>V.int p))
 n1:ol≠e
 n2:ol≠e1
 n3:wl≠e
 n4:wl≠e1
 n5:e1≠e
 b1:B.length<=e
 b2:B.length<=e1
 fx:Fx ol wl B H
theorem Al.KY{e e1:Nat}{v:V}{E:List Nat}(a:Al e e1 v E ol wl H0 H)(f:Fx ol wl H H1):Al e e1 v E ol wl H0 H1:=
 ⟨f.off _ _ a.n1.symm a.n3.symm a.he,f.off _ _ a.n2.symm a.n4.symm a.kj,a.n1,a.n2,a.n3,a.n4,a.n5,a.b1,a.b2,a.fx.trans f⟩
inductive RV(own:List FI)(d co ol wl:Nat)(n0:V)(X:List V)(W:List Wk)(e e1:Nat)(v:V)(E:List Nat)(y y2:Option V)(B H:Hp):Prop where
 |mk (a b:V) (H3:Hp) (t:PS co ol wl X W H3) (al:Al e e1 v E ol wl B H3) (l:Lp own d co wl n0 1 y y2 H (some a) (some b) H3):RV own d co ol wl n0 X W e e1 v E y y2 B H
theorem NJ{e e1:Nat}{v:V}{E:List Nat}(t:PS co ol wl X (W++[.HT e]) H)(a:Al e e1 v E ol wl H0 H)(hl:X.length<lim):RV own (d+2) co ol wl n0 (X++[.none]) W e e1 (.int X.length) E y y2 H0 H:=by
 have ne:e≠co:=aX a.he t.jc (λh=>by cases h)
 refine⟨_,_,_,⟨aa ne (aa t.n1.symm (aa t.n2 t.jc)),aa a.n1.symm (au (aa t.ne.symm t.lC)),aa a.n3.symm (aa t.ne (au t.iw)),t.ne⟩,⟨au (aa a.n1 (aa a.n3 a.he)),aa a.n5.symm (aa a.n2 (aa a.n4 a.kj)),a.n1,a.n2,a.n3,a.n4,a.n5,a.b1,a.b2,⟨?_,λi x h1 h2 h=>?_⟩⟩,
  Lp.one t (qV t.top t.jc t.n2 rfl rfl (Bk (aa t.n2 t.jc) (aa t.ne.symm t.lC) t.n1 hl (aa a.n3 a.he) a.n1))⟩
 ·rw[dt,dt,dt];exact a.fx.len
 ·exact aa (dp (d8 (cC h) a.b1)) (aa h1.symm (aa h2.symm (a.fx.off i x h1 h2 h)))
theorem NK{e e1 p:Nat}{E:List Nat}(t:PS co ol wl X (W++[.HU e]) H)(a:Al e e1 (.int p) E ol wl H0 H)(hl:X.length<lim)(hE:E.length<lim)(hp:p<X.length):RV own (d+2) co ol wl n0 ((X++[V.none]).set p (oV (.split (X.length+1)))) W e e1 (.int p) (E++[X.length]) y y2 H0 H:=by
 have ne:e≠co:=aX a.he t.jc (λh=>by cases h)
 have ne1:e1≠co:=aX a.kj t.jc (λh=>by cases h)
 refine⟨_,_,_,⟨aa t.n1.symm (aa ne1 (aa t.n1.symm (aa t.n2 t.jc))),au (aa a.n2.symm (au (aa t.ne.symm t.lC))),aa t.ne (aa a.n4.symm (aa t.ne (au t.iw))),t.ne⟩,⟨aa a.n1 (aa a.n5 (aa a.n1 (aa a.n3 a.he))),?_,a.n1,a.n2,a.n3,a.n4,a.n5,a.b1,a.b2,⟨?_,λi x h1 h2 h=>?_⟩⟩,
  Lp.one t (qV t.top t.jc t.n2 rfl rfl (Bl (aa t.n2 t.jc) (aa t.ne.symm t.lC) t.n1 hl (aa a.n3 a.he) (aa a.n4 a.kj) a.n1 a.n2 a.n5 ne1 (by rw[cn];exact hE) hp))⟩
 ·rw[dK];exact aa a.n2 (au (aa a.n2 (aa a.n4 a.kj)))
 ·rw[dt,dt,dt,dt];exact a.fx.len
 ·exact aa h1.symm (aa (dp (d8 (cC h) a.b2)) (aa h1.symm (aa h2.symm (a.fx.off i x h1 h2 h))))
theorem Fs{e e1:Nat}{v:V}{E:List Nat}(t:PS co ol wl X (W++[.met e]) H)(a:Al e e1 v E ol wl H0 H)(hE:E.length<1000)(hb:∀ p∈E,p<X.length):Go own (d+1) co ol wl n0 (patch X.length E X) W 1 y y2 H0 H:=by
 obtain⟨H3,e3,l3,o3,f3⟩:=Dy (own:=own) (d:=d) (aa t.n2 t.jc) (aa t.ne.symm t.lC) t.n1 (aa a.n3 a.he) (aa a.n4 a.kj) a.n2 hE hb
 refine⟨_,_,H3,⟨f3 _ _ t.n1 (aa t.n2 t.jc),o3,f3 _ _ t.ne.symm (au t.iw),t.ne⟩,⟨?_,λi x h1 h2 h=>f3 i x h1 (aa h2.symm (a.fx.off i x h1 h2 h))⟩,Lp.one t (qV t.top t.jc t.n2 rfl rfl e3)⟩
 rw[dt] at l3
 exact bv a.fx.len l3
noncomputable def nr(g:Nd->Nat->List Od):List Nd->Nat->List Od
 |[],_=>[]
 |n::r,b=>g n b++nr g r (b+(g n b).length)
theorem RW{g ip}:nr g ([]) ip=[]:=rfl
theorem qW{g n r b}:nr g (n::r) b=g n b++nr g r (b+(g n b).length):=rfl
noncomputable def iL(g:Nd->Nat->List Od)(e:Nat)(z:Nd):List Nd->Nat->List Od
 |[],b=>g z b
 |n::r,b=>.split (b+(g n (b+1)).length+2)::(g n (b+1)++.df e::iL g e z r (b+(g n (b+1)).length+2))
theorem jK{g e z n r b}:iL g e z (n::r) b=.split (b+(g n (b+1)).length+2)::(g n (b+1)++.df e::iL g e z r (b+(g n (b+1)).length+2)):=rfl
theorem uO(g:Nd->Nat->List Od)(e e':Nat)(z:Nd):∀(ps:List Nd)(b:Nat),(iL g e z ps b).length=(iL g e' z ps b).length
 |[],b=>rfl
 |n::r,b=>by rw[jK,jK,c9,c9,aK,aK,c9,c9,uO g e e' z r]
noncomputable def jx(g:Nd->Nat->List Od)(z:Nd)(ps:List Nd)(b:Nat):Nat:=b+(iL g 0 z ps b).length
noncomputable def NodeOk(own:List FI)(d co ol wl:Nat)(n0:V)(g:Nd->Nat->List Od)(n:Nd):Prop:=∀⦃X:List V⦄⦃W:List Wk⦄⦃H:Hp⦄⦃y y2:Option V⦄,PS co ol wl X (W++[.put n]) H->X.length+iK W+6*sz n<100000 ->
 Go own d co ol wl n0 (X++(g n X.length).map oV) W (6*sz n) y y2 H H
theorem Bt{g:Nd->Nat->List Od}(qb:∀ n b,(g n b).length<=6*sz n):∀(ps:List Nd),(∀ n∈ps,NodeOk own d co ol wl n0 g n)->∀{X:List V}{W:List Wk}{H:Hp}{y y2:Option V},PS co ol wl X (W++(ps.map Wk.put).reverse) H->X.length+iK W+iK (ps.map Wk.put)<100000 ->
  Go own d co ol wl n0 (X++(nr g ps X.length).map oV) W (iK (ps.map Wk.put)) y y2 H H
 |[],hg,X,W,H,y,y2,t,hb=>⟨y,y2,H,by rw[RW,sN,eU];rw[sN,sO,eU] at t;exact t,Fx.refl,0,aE _,λF q h=>by rw[fy];exact h⟩
 |n::r,hg,X,W,H,y,y2,t,hb=>by
  rw[dD,gb,← cG] at t
  rw[dD,oy] at hb
  have hw:NI (.put n)=6*sz n:=rfl
  rw[hw] at hb
  obtain⟨a,b,H1,t1,f1,l1⟩:=hg n (.head _) (y:=y) (y2:=y2) t (by rw[fp,pZ];exact nl (aj [_,_,_,_] (.d (.s (.a (.a ab af) (.a (.m 6 aq) aA))) (.n 100000) (.d (.n 100000) (.a (.a ab (.a af aA)) (.m 6 aq)) .z)) rfl hb))
  have hl:=qb n X.length
  have hx:(X++(g n X.length).map oV).length=X.length+(g n X.length).length:=by rw[aK,cn]
  obtain⟨a2,b2,H2,t2,f2,l2⟩:=Bt qb r (λn h=>hg n (.tail _ h)) (y:=a) (y2:=b) t1 (by rw[hx];exact nl (aj [_,_,_,_,_] (.d (.s (.a (.a ab af) (.a (.m 6 aq) aA))) (.n 100000) (.d bU (.m 6 aq) (.d (.n 100000) (.a (.a (.a ab bU) af) aA) .z))) rfl hb hl))
  rw[hx] at t2
  exact⟨a2,b2,H2,by rw[qW,dE,← cG];exact t2,f1.trans f2,l1.trans l2⟩
noncomputable def nu(e:Nat)(z:Nd):List Nd->List Wk
 |[]=>[.put z,.met e]
 |p::r=>.HT e::.put p::.HU e::nu e z r
theorem RX{e z p r}:nu e z (p::r)=.HT e::.put p::.HU e::nu e z r:=rfl
theorem Ft(e:Nat)(z:Nd):∀(ps:List Nd)(Y:List V),(ps.map nV).foldl (rJ e) Y++[ie (nV z),xc e]=Y++(nu e z ps).map kT
 |[],Y=>rfl
 |p::r,Y=>by rw[dD,q8,Ft e z r,rJ,cG];rfl
theorem oz(n:Nat)(Y:List V):∀(E:List Nat)(X:List V),(∀ p∈E,p<X.length)->patch n E (X++Y)=patch n E X++Y
 |[],X,_=>rfl
 |p::r,X,h=>by
  show patch n r ((X++Y).set p (pY n))=patch n r (X.set p (pY n))++Y
  rw[List.set_append_left _ _ (h p (.head _)),oz n Y r _ λq hq=>by rw[dt];exact h q (.tail _ hq)]
theorem uP(n:Nat):∀(E:List Nat)(X:List V),(patch n E X).length=X.length
 |[],X=>rfl
 |p::r,X=>(uP n r _).trans (dt ..)
theorem Bu(n p:Nat)(E:List Nat)(X:List V):patch n (E++[p]) X=(patch n E X).set p (pY n):=by rw[patch,List.foldl_append];rfl
theorem Bv{α:Type}(A B:List α)(x y:α):(A++x::B).set A.length y=A++y::B:=by rw[zf _ _ (aE _),gZ];rfl
theorem Bw{g:Nd->Nat->List Od}(qb:∀ n b,(g n b).length<=6*sz n){e e1:Nat}{z:Nd}(hz:NodeOk own (d+2) co ol wl n0 g z):∀(ps:List Nd),(∀ n∈ps,NodeOk own (d+2) co ol wl n0 g n)->∀{X:List V}{W:List Wk}{H:Hp}{y y2:Option V}{v:V}{E:List Nat},PS co ol wl X (W++(nu e z ps).reverse) H->Al e e1 v E ol wl H0 H->X.length+iK W+iK (nu e z ps)<100000->E.length+ps.length<1000->(∀ p∈E,p<X.length) ->
  Go own (d+2) co ol wl n0 (patch (jx g z ps X.length) E X++(iL g (jx g z ps X.length) z ps X.length).map oV) W (iK (nu e z ps)) y y2 H0 H
 |[],hg,X,W,H,y,y2,v,E,t,al,hb,hE,hp=>by
  have t':PS co ol wl X (W++[.met e]++[.put z]) H:=by rw[cG];exact t
  have hw:iK (nu e z [])=6*sz z+1:=rfl
  rw[hw] at hb
  obtain⟨a,b,H1,t1,f1,l1⟩:=hz (y:=y) (y2:=y2) t' (by rw[fp];show X.length+(iK W+1)+_<_;exact nl (aj [_,_,_] (.d (.s (.a (.a ab af) (.s (.m 6 aq)))) (.n 100000) (.d (.n 100000) (.a (.a ab (.s af)) (.m 6 aq)) .z)) rfl hb))
  have hx:(X++(g z X.length).map oV).length=X.length+(g z X.length).length:=by rw[aK,cn]
  obtain⟨a2,b2,H2,t2,f2,l2⟩:=Fs (own:=own) (d:=d+1) (n0:=n0) (y:=a) (y2:=b) t1 (al.KY f1) (by exact nl (aj [_,_] (.d (.s (.a ab af)) (.n 1000) (.d (.n 1000) ab .z)) rfl hE)) (λp h=>d8 (hp p h) (by rw[hx];exact dq _ _))
  rw[oz _ _ _ _ hp,hx] at t2
  exact⟨_,_,H2,t2,f2,l1.trans l2⟩
 |p::r,hg,X,W,H,y,y2,v,E,t,al,hb,hE,hp=>by
  have t':PS co ol wl X (W++(nu e z r).reverse++[.HU e]++[.put p]++[.HT e]) H:=by
   rw[RX,gb,gb,gb] at t
   simp only[cG] at t ⊢
   exact t
  have hw:iK (nu e z (p::r))=2+(6*sz p+(2+iK (nu e z r))):=rfl
  rw[hw] at hb ⊢
  have WT:=ig (W++(nu e z r).reverse)
  rw[fp,pZ] at WT
  rw[c9] at hE
  obtain⟨a,b,H1,t1,WU,l1⟩:=NJ (own:=own) (d:=d) (n0:=n0) (y:=y) (y2:=y2) t' al (bX (by exact nl (aj [_,_,_,_] (.d (.s (.a (.a ab af) (.a (.n 2) (.a (.m 6 aq) (.a (.n 2) aA))))) (.n 100000) (.d (.n 100000) ab .z)) rfl hb)))
  have KZ:(X++[V.none]).length=X.length+1:=by rw[aK];rfl
  obtain⟨a2,b2,H2,t2,f2,l2⟩:=hg p (.head _) (y:=some a) (y2:=some b) t1 (by rw[KZ,fp,fp,pZ];show _+(_+_+2)+_<_;exact nl (aj [_,_,_,_] (.d (.s (.a (.a ab af) (.a (.n 2) (.a (.m 6 aq) (.a (.n 2) aA))))) (.n 100000) (.d (.n 100000) (.a (.a (.s ab) (.a (.a af aA) (.n 2))) (.m 6 aq)) .z)) rfl hb))
  rw[KZ] at t2
  have hl:=qb p (X.length+1)
  have NL:(X++[V.none]++(g p (X.length+1)).map oV).length=X.length+1+(g p (X.length+1)).length:=by rw[aK,KZ,cn]
  obtain⟨a3,b3,H3,t3,UH,l3⟩:=NK (own:=own) (d:=d) (n0:=n0) (y:=a2) (y2:=b2) t2 (WU.KY f2) (bX (by rw[NL];exact nl (aj [_,_,_,_,_] (.d (.s (.a (.a ab af) (.a (.n 2) (.a (.m 6 aq) (.a (.n 2) aA))))) (.n 100000) (.d bU (.m 6 aq) (.d (.n 100000) (.a (.s ab) bU) .z))) rfl hb hl))) (bX (by exact nl (aj [_,_] (.d (.s (.a ab (.s af))) (.n 1000) (.d (.n 100000) ab .z)) rfl hE))) (by rw[NL];exact nl (aj [_,_] (.d (.a (.s ab) af) ab .z) rfl))
  have e3:(X++[V.none]++(g p (X.length+1)).map oV++[V.none]).set X.length (oV (.split ((X++[V.none]++(g p (X.length+1)).map oV).length+1)))=X++(oV (.split (X.length+(g p (X.length+1)).length+2))::(g p (X.length+1)).map oV++[V.none]):=by
   rw[NL,show X.length+1+(g p (X.length+1)).length+1=X.length+(g p (X.length+1)).length+2 by exact lx [_,_] (.s (.a (.s ab) af)) (.a (.a ab af) (.n 2)) rfl]
   rw[cG,cG]
   exact Bv _ _ _ _
  rw[e3] at t3
  rw[NL] at UH
  have Dz:(X++(oV (.split (X.length+(g p (X.length+1)).length+2))::(g p (X.length+1)).map oV++[V.none])).length=X.length+(g p (X.length+1)).length+2:=by
   rw[aK,zb,c9,aK,cn]
   show _+(_+1+1)=_;exact lx [_,_] (.a ab (.s (.s af))) (.a (.a ab af) (.n 2)) rfl
  obtain⟨a4,b4,H4,t4,f4,l4⟩:=Bw qb hz r (λn h=>hg n (.tail _ h)) (y:=some a3) (y2:=some b3) t3 UH (by rw[Dz];exact nl (aj [_,_,_,_,_] (.d (.s (.a (.a ab af) (.a (.n 2) (.a (.m 6 aq) (.a (.n 2) aA))))) (.n 100000) (.d bU (.m 6 aq) (.d (.n 100000) (.a (.a (.a (.a ab bU) (.n 2)) af) aA) .z))) rfl hb hl)) (by rw[aK];show _+1+_<_;exact nl (aj [_,_] (.d (.s (.a ab (.s af))) (.n 1000) (.d (.n 1000) (.a (.s ab) af) .z)) rfl hE)) (λq hq=>by
   rw[Dz]
   rcases dh.mp hq with hq|hq
   ·have:=hp q hq;exact nl (aj [_,_,_] (.d (.s ab) af (.d (.a (.a af aq) (.n 2)) ab .z)) rfl this)
   ·rw[db.mp hq];exact nl (aj [_,_] (.d (.a (.a ab af) (.n 2)) (.a (.s ab) af) .z) rfl))
  rw[Dz] at t4
  have ee:jx g z (p::r) X.length=jx g z r (X.length+(g p (X.length+1)).length+2):=by
   rw[jx,jx,jK,c9,aK,c9];exact lx [_,_,_] (.a ab (.s (.a af (.s aq)))) (.a (.a (.a ab af) (.n 2)) aq) rfl
  refine⟨a4,b4,H4,?_,f4,((l1.trans (l2.trans (l3.trans l4)))).mono (by exact nt (aj [_,_] (.d (.s (.a (.n 2) (.a (.m 6 ab) (.a (.n 2) af)))) (.a (.n 1) (.a (.m 6 ab) (.a (.n 1) af))) .z) rfl))⟩
  rw[ee]
  generalize jx g z r (X.length+(g p (X.length+1)).length+2)=N at t4 ⊢
  have e4:patch N (E++[X.length+1+(g p (X.length+1)).length]) (X++(oV (.split (X.length+(g p (X.length+1)).length+2))::(g p (X.length+1)).map oV++[V.none]))=patch N E X++(oV (.split (X.length+(g p (X.length+1)).length+2))::(g p (X.length+1)).map oV++[pY N]):=by
   rw[Bu,oz _ _ _ _ hp,← cG,← cG]
   have:X.length+1+(g p (X.length+1)).length=(patch N E X++oV (.split (X.length+(g p (X.length+1)).length+2))::(g p (X.length+1)).map oV).length:=by
    rw[aK,uP,c9,cn];exact lx [_,_] (.a (.s ab) af) (.a ab (.s af)) rfl
   rw[this]
   exact Bv _ _ _ _
  rw[e4,cG] at t4
  rw[jK,dD,dE,dD]
  have e5:∀(s j:V)(C D:List V),s::C++[j]++D=s::(C++j::D):=λs j C D=>by rw[cG];rfl
  rw[e5] at t4
  exact t4
end
noncomputable def cp:Nat->Nd->Nat->List Od
 |0,_,_=>[]
 |F+1,.lt n q,b=>.mark::(cp F n (b+1)++[.name q])
 |F+1,.nw n q,b=>.mark::(cp F n (b+1)++[.set q])
 |F+1,.rp n,b=>.split (b+2)::.df (b+3+(cp F n (b+3)).length+2)::.mark::(cp F n (b+3)++[.i7,.df b])
 |F+1,.ca x y,b=>nr (cp F) (fF (aN true (.ca x y))) b
 |F+1,.al x y,b=>iL (cp F) (jx (cp F) ((aN false (.al x y)).getLastD .cu) (aN false (.al x y)).dropLast b) ((aN false (.al x y)).getLastD .cu) (aN false (.al x y)).dropLast b
 |_+1,.sg x,_=>[.one x]
 |_+1,.cu,_=>[.iF]
 |_+1,.dT,_=>[.fence]
 |_+1,.fail,_=>[.fail]
 |_+1,.cur q,_=>[.place q]
 |_+1,.dU k,_=>[.ask k]
theorem xf{F n q b}:cp (F+1) (.lt n q) b=.mark::(cp F n (b+1)++[.name q]):=rfl
theorem qX{F n q b}:cp (F+1) (.nw n q) b=.mark::(cp F n (b+1)++[.set q]):=rfl
theorem oA{F n b}:cp (F+1) (.rp n) b=.split (b+2)::.df (b+3+(cp F n (b+3)).length+2)::.mark::(cp F n (b+3)++[.i7,.df b]):=rfl
theorem Bx{F x y b}:cp (F+1) (.ca x y) b=nr (cp F) (fF (aN true (.ca x y))) b:=rfl
theorem uQ{F x y b}:cp (F+1) (.al x y) b=iL (cp F) (jx (cp F) ((aN false (.al x y)).getLastD .cu) (aN false (.al x y)).dropLast b) ((aN false (.al x y)).getLastD .cu) (aN false (.al x y)).dropLast b:=rfl
noncomputable def gz:List Nd->Nat
 |[]=>0
 |n::r=>sz n+gz r
theorem RY:gz ([])=0:=rfl
theorem mx{n r}:gz (n::r)=sz n+gz r:=rfl
theorem my:∀(a b:List Nd),gz (a++b)=gz a+gz b
 |[],b=>(fy _).symm
 |k::r,b=>by rw[zb,mx,mx,my r b,cb]
theorem By:∀ a:List Nd,gz a.reverse=gz a
 |[]=>rfl
 |k::r=>by rw[gb,my,By r,mx,RY,mx,Nat.add_zero,iR]
theorem gS(k:Bool):∀ n,gz (aN k n)+(aN k n).length=sz n+1
 |.sg _=>rfl
 |.cu=>rfl
 |.dT=>rfl
 |.fail=>rfl
 |.cur _=>rfl
 |.dU _=>rfl
 |.rp _=>rfl
 |.lt _ _=>rfl
 |.nw _ _=>rfl
 |.al a b=>by
  have ha:=gS k a
  have hb:=gS k b
  cases k
  ·show gz (_++_)+(_++_:List Nd).length=sz a+sz b+1+1
   rw[my,aK];exact k8 (nt (aj [_,_,_,_,_,_] (.d (.a ab af) (.s aq) (.d (.a aA bU) (.s iZ) (.d (.s (.s (.s (.a aq iZ)))) (.a (.a ab aA) (.a af bU)) .z))) rfl (bx ha) (bx hb))) (nt (aj [_,_,_,_,_,_] (.d (.s ab) (.a af aq) (.d (.s aA) (.a bU iZ) (.d (.s (.a (.a af bU) (.a aq iZ))) (.s (.s (.a ab aA))) .z))) rfl (bx (cP ha)) (bx (cP hb))))
  ·rfl
 |.ca a b=>by
  have ha:=gS k a
  have hb:=gS k b
  cases k
  ·rfl
  ·show gz (_++_)+(_++_:List Nd).length=sz a+sz b+1+1
   rw[my,aK];exact k8 (nt (aj [_,_,_,_,_,_] (.d (.a ab af) (.s aq) (.d (.a aA bU) (.s iZ) (.d (.s (.s (.s (.a aq iZ)))) (.a (.a ab aA) (.a af bU)) .z))) rfl (bx ha) (bx hb))) (nt (aj [_,_,_,_,_,_] (.d (.s ab) (.a af aq) (.d (.s aA) (.a bU iZ) (.d (.s (.a (.a af bU) (.a aq iZ))) (.s (.s (.a ab aA))) .z))) rfl (bx (cP ha)) (bx (cP hb))))
theorem fw(k:Bool):∀ n,1<=(aN k n).length
 |.sg _=>aE _
 |.cu=>aE _
 |.dT=>aE _
 |.fail=>aE _
 |.cur _=>aE _
 |.dU _=>aE _
 |.rp _=>aE _
 |.lt _ _=>aE _
 |.nw _ _=>aE _
 |.al a b=>by
  have ha:=fw k a
  cases k
  ·show 1<=(_++_:List Nd).length
   rw[aK];exact nt (aj [_,_] (.d (.n 1) ab (.d (.s (.a ab af)) (.n 1) .z)) rfl ha)
  ·exact aE _
 |.ca a b=>by
  have ha:=fw k a
  cases k
  ·exact aE _
  ·show 1<=(_++_:List Nd).length
   rw[aK];exact nt (aj [_,_] (.d (.n 1) ab (.d (.s (.a ab af)) (.n 1) .z)) rfl ha)
theorem yJ(a b:Nd):2<=(aN true (.ca a b)).length:=by
 have ha:=fw true a
 have hb:=fw true b
 show 2<=(_++_:List Nd).length
 rw[aK];exact nt (aj [_,_] (.d (.n 1) ab (.d (.n 1) af (.d (.s (.a ab af)) (.n 2) .z))) rfl ha hb)
theorem qc(a b:Nd):2<=(aN false (.al a b)).length:=by
 have ha:=fw false a
 have hb:=fw false b
 show 2<=(_++_:List Nd).length
 rw[aK];exact nt (aj [_,_] (.d (.n 1) ab (.d (.n 1) af (.d (.s (.a ab af)) (.n 2) .z))) rfl ha hb)
theorem NM(r:List Nd)(n:Nd):gz (jR r n)<=gz r+sz n:=
 pW (P:=λr n r'=>gz r'<=gz r+sz n) (λ_ _=>bx (iR _ _)) (λ_=>dq _ _) (λ_ _ _ _=>dq _ _) r n
theorem nP:∀(l r:List Nd),gz (l.foldl jR r)<=gz r+gz l
 |[],r=>aE _
 |n::l,r=>by
  have h1:=nP l (jR r n)
  have h2:=NM r n
  rw[q8,mx];exact nt (aj [_,_,_,_,_] (.d ab (.a af aq) (.d af (.a aA bU) (.d (.s (.a aA (.a bU aq))) ab .z))) rfl h1 h2)
theorem uR(l:List Nd):gz (fF l)<=gz l:=by
 rw[fF,By]
 exact bv (nP l []) (bx (fy _))
theorem uS:∀ ps:List Nd,iK (ps.map Wk.put)=6*gz ps
 |[]=>rfl
 |n::r=>by rw[dD,oy,uS r,mx,Nat.mul_add];rfl
theorem Fu(e:Nat)(z:Nd):∀ ps:List Nd,iK (nu e z ps)=6*gz ps+4*ps.length+6*sz z+1
 |[]=>by show 6*sz z+1=0+0+_+1;exact lx [_] (.s (.m 6 ab)) (.s (.a (.a (.n 0) (.n 0)) (.m 6 ab))) rfl
 |n::r=>by
  show 2+(6*sz n+(2+iK (nu e z r)))=6*(sz n+gz r)+4*(r.length+1)+6*sz z+1
  rw[Fu e z r];exact lx [_,_,_,_] (.a (.n 2) (.a (.m 6 ab) (.a (.n 2) (.s (.a (.a (.m 6 af) (.m 4 aq)) (.m 6 aA)))))) (.s (.a (.a (.m 6 (.a ab af)) (.m 4 (.s aq))) (.m 6 aA))) rfl
theorem Bz{g:Nd->Nat->List Od}(qb:∀ n b,(g n b).length<=6*sz n):∀(ps:List Nd)(b:Nat),(nr g ps b).length<=6*gz ps
 |[],b=>aE _
 |n::r,b=>by
  have h1:=qb n b
  have h2:=Bz qb r (b+(g n b).length)
  rw[qW,aK,mx];exact nt (aj [_,_,_,_] (.d ab (.m 6 af) (.d aq (.m 6 aA) (.d (.s (.m 6 (.a af aA))) (.a ab aq) .z))) rfl h1 h2)
theorem Fv{g:Nd->Nat->List Od}(qb:∀ n b,(g n b).length<=6*sz n)(e:Nat)(z:Nd):∀(ps:List Nd)(b:Nat),(iL g e z ps b).length<=6*gz ps+2*ps.length+6*sz z
 |[],b=>by have:=qb z b;show(g z b).length<=0+0+_;exact nt (aj [_,_] (.d ab (.m 6 af) (.d (.s (.a (.a (.n 0) (.n 0)) (.m 6 af))) ab .z)) rfl this)
 |n::r,b=>by
  have h1:=qb n (b+1)
  have h2:=Fv qb e z r (b+(g n (b+1)).length+2)
  rw[jK,c9,aK,c9,mx,c9];exact nt (aj [_,_,_,_,_,_] (.d ab (.m 6 af) (.d aq (.a (.a (.m 6 aA) (.m 2 bU)) (.m 6 iZ)) (.d (.s (.a (.a (.m 6 (.a af aA)) (.m 2 (.s bU))) (.m 6 iZ))) (.s (.a ab (.s aq))) .z))) rfl h1 h2)
theorem qd{l:List Nd}(h:1<=l.length)(x:Nd):l=l.dropLast++[l.getLastD x]:=by
  induction l using List.casesOn with
 |nil=>cases h
 |cons a r=>rw[List.getLastD_cons,← List.getLast_eq_getLastD (List.cons_ne_nil a r)];exact(List.dropLast_concat_getLast _).symm
theorem Fw(a b:Nd):6*gz (aN false (.al a b)).dropLast+4*(aN false (.al a b)).dropLast.length+6*sz ((aN false (.al a b)).getLastD .cu)+2<=6*sz (.al a b):=by
 have h2:=qc a b
 have h1:=gS false (.al a b)
 have h3:=qd (lf h2) .cu
 rw[h3,my,aK] at h1
 rw[h3,aK] at h2
 have h4:∀ z,gz [z]=sz z:=λz=>rfl
 rw[h4] at h1
 have h5:∀ z:Nd,[z].length=1:=λz=>rfl
 rw[h5] at h1 h2
 exact nt (aj [_,_,_,_] (.c 2 (.n 2) (.s ab) (.c 6 (.a (.a af aq) (.s ab)) (.s aA) (.d (.s (.m 6 aA)) (.a (.a (.a (.m 6 af) (.m 4 ab)) (.m 6 aq)) (.n 2)) .z))) rfl h2 (bx h1))
theorem fO:∀(F:Nat)(n:Nd)(b:Nat),(cp F n b).length<=6*sz n
 |0,n,b=>cF _
 |F+1,.sg _,b=>by show 1<=6*1;decide
 |F+1,.cu,b=>by show 1<=6*1;decide
 |F+1,.dT,b=>by show 1<=6*1;decide
 |F+1,.fail,b=>by show 1<=6*1;decide
 |F+1,.cur _,b=>by show 1<=6*1;decide
 |F+1,.dU _,b=>by show 1<=6*1;decide
 |F+1,.lt n q,b=>by
  have:=fO F n (b+1)
  rw[xf,c9,aK]
  show _+1+1<=6*(sz n+1)
  exact nt (aj [_,_] (.d ab (.m 6 af) (.d (.s (.m 6 (.s af))) (.s (.s ab)) .z)) rfl this)
 |F+1,.nw n q,b=>by
  have:=fO F n (b+1)
  rw[qX,c9,aK]
  show _+1+1<=6*(sz n+1)
  exact nt (aj [_,_] (.d ab (.m 6 af) (.d (.s (.m 6 (.s af))) (.s (.s ab)) .z)) rfl this)
 |F+1,.rp n,b=>by
  have:=fO F n (b+3)
  rw[oA,c9,c9,c9,aK]
  show _+2+1+1+1<=6*(sz n+1)
  exact nt (aj [_,_] (.d ab (.m 6 af) (.d (.s (.m 6 (.s af))) (.s (.s (.s (.a ab (.n 2))))) .z)) rfl this)
 |F+1,.ca x y,b=>by
  have h:=Bz (fO F) (fF (aN true (.ca x y))) b
  have h1:=gS true (.ca x y)
  have h2:=fw true (.ca x y)
  have h3:=uR (aN true (.ca x y))
  rw[Bx];exact nt (aj [_,_,_,_,_] (.d ab (.m 6 af) (.c 6 (.a aq aA) (.s bU) (.c 6 (.n 1) aA (.c 6 af aq (.d (.s (.m 6 bU)) ab .z))))) rfl h (bx h1) h2 h3)
 |F+1,.al x y,b=>by
  have h:=Fv (fO F) (jx (cp F) ((aN false (.al x y)).getLastD .cu) (aN false (.al x y)).dropLast b) ((aN false (.al x y)).getLastD .cu) (aN false (.al x y)).dropLast b
  have h1:=Fw x y
  rw[uQ];exact nt (aj [_,_,_,_,_] (.d ab (.a (.a (.m 6 af) (.m 2 aq)) (.m 6 aA)) (.d (.a (.a (.a (.m 6 af) (.m 4 aq)) (.m 6 aA)) (.n 2)) (.m 6 bU) (.d (.s (.m 6 bU)) ab .z))) rfl h h1)
noncomputable def sm:Nd->Prop
 |.sg (.ch t)=>t.length<=2
 |.rp n=>sm n
 |.lt n _=>sm n
 |.nw n _=>sm n
 |.al a b=>sm a/\sm b
 |.ca a b=>sm a/\sm b
 |_=>True
theorem dL(k:Bool):∀(n p:Nd),p∈aN k n->sz p<=sz n/\(sm n->sm p)
 |.sg _,p,h=>by rw[db.mp h];exact⟨aE _,id⟩
 |.cu,p,h=>by rw[db.mp h];exact⟨aE _,id⟩
 |.dT,p,h=>by rw[db.mp h];exact⟨aE _,id⟩
 |.fail,p,h=>by rw[db.mp h];exact⟨aE _,id⟩
 |.cur _,p,h=>by rw[db.mp h];exact⟨aE _,id⟩
 |.dU _,p,h=>by rw[db.mp h];exact⟨aE _,id⟩
 |.rp _,p,h=>by rw[db.mp h];exact⟨aE _,id⟩
 |.lt _ _,p,h=>by rw[db.mp h];exact⟨aE _,id⟩
 |.nw _ _,p,h=>by rw[db.mp h];exact⟨aE _,id⟩
 |.al a b,p,h=>by
  cases k
  ·rcases dh.mp h with h|h
   ·obtain⟨h1,h2⟩:=dL false a p h
    exact⟨by rw[Fo];exact nt (aj [_,_,_] (.d ab af (.d (.s (.s (.a af aq))) ab .z)) rfl h1),λs=>h2 s.1⟩
   ·obtain⟨h1,h2⟩:=dL false b p h
    exact⟨by rw[Fo];exact nt (aj [_,_,_] (.d ab af (.d (.s (.s (.a aq af))) ab .z)) rfl h1),λs=>h2 s.2⟩
  ·rw[db.mp h];exact⟨aE _,id⟩
 |.ca a b,p,h=>by
  cases k
  ·rw[db.mp h];exact⟨aE _,id⟩
  ·rcases dh.mp h with h|h
   ·obtain⟨h1,h2⟩:=dL true a p h
    exact⟨by rw[Fp];exact nt (aj [_,_,_] (.d ab af (.d (.s (.s (.a af aq))) ab .z)) rfl h1),λs=>h2 s.1⟩
   ·obtain⟨h1,h2⟩:=dL true b p h
    exact⟨by rw[Fp];exact nt (aj [_,_,_] (.d ab af (.d (.s (.s (.a aq af))) ab .z)) rfl h1),λs=>h2 s.2⟩
theorem DA{a b p:Nd}(h:p∈aN true (.ca a b)):sz p<sz (.ca a b):=by
 have:=λh=>(dL true a p h).1
 have:=λh=>(dL true b p h).1
 rw[Fp]
 rcases dh.mp (show p∈aN true a++aN true b from h) with h|h
 ·have:=(dL true a p h).1;exact nl (aj [_,_,_] (.d ab af (.d (.s (.a af aq)) ab .z)) rfl this)
 ·have:=(dL true b p h).1;exact nl (aj [_,_,_] (.d ab af (.d (.s (.a aq af)) ab .z)) rfl this)
theorem DB{a b p:Nd}(h:p∈aN false (.al a b)):sz p<sz (.al a b):=by
 rw[Fo]
 rcases dh.mp (show p∈aN false a++aN false b from h) with h|h
 ·have:=(dL false a p h).1;exact nl (aj [_,_,_] (.d ab af (.d (.s (.a af aq)) ab .z)) rfl this)
 ·have:=(dL false b p h).1;exact nl (aj [_,_,_] (.d ab af (.d (.s (.a aq af)) ab .z)) rfl this)
theorem Fy:∀ l:List Nd,(∀ p∈l,sm p)->pX l<=2*l.length
 |[],_=>aE _
 |n::r,h=>by
  have h1:tx n<=2:=by
    have:=h n (.head _)
    induction n using Nd.casesOn with
   |sg x=>induction x with
     |ch t=>exact this
     |_=>exact cF _
   |_=>exact cF _
  have h2:=Fy r λp hp=>h p (.tail _ hp)
  rw[RO,c9];exact nt (aj [_,_,_] (.d ab (.n 2) (.d af (.m 2 aq) (.d (.s (.m 2 (.s aq))) (.a ab af) .z))) rfl h1 h2)
theorem NN{r:List Nd}{n p:Nd}:p∈jR r n->p∈r\/p=n\/gK p=true:=
 pW (P:=λr n r'=>p∈r'->p∈r\/p=n\/gK p=true) (λ_ _ h=>(eC.mp h).elim (λh=>.inr (.inl h)) .inl) (λ_ h=>.inl h) (λ_ _ _ _ h=>(eC.mp h).elim (λh=>.inr (.inr (by rw[h];rfl))) λh=>.inl (.tail _ h)) r n
theorem DC{l:List Nd}{p:Nd}(h:p∈fF l):p∈l\/gK p=true:=by
  have:∀(l r:List Nd),p∈l.foldl jR r->p∈r\/p∈l\/gK p=true:=λl=>by
    induction l with
   |nil=>intro r h;exact .inl h
   |cons n l ih=>
      intro r h
      rcases ih _ h with h|h|h
      · rcases NN h with h|h|h
        · exact .inl h
        · rw[h];exact .inr (.inl (.head _))
        · exact .inr (.inr h)
      · exact .inr (.inl (.tail _ h))
      · exact .inr (.inr h)
  rcases this l [] (List.mem_reverse.mp h) with h|h
  · cases h
  · exact h
theorem RZ{p:Nd}(h:gK p=true):sz p=1:=by
  induction p using Nd.casesOn with
 |sg x=>rfl
 |_=>exact ff h
theorem Fz{H y:Hp}{i:Nat}{x:O}:H.length<=(H.set i x++y).length:=by rw[aK,dt];exact dq _ _
section
variable {own:List FI}{d:Nat}{co ol wl:Nat}{n0:V}
noncomputable def UI(own:List FI)(d co:Nat)(n:Nd)(od:Od)(rl:List V):Prop:=∀⦃H:Hp⦄⦃ol:Nat⦄⦃X:List V⦄,H[co]?=some (.inst 0 [(0,.loc ol)])->H[ol]?=some (.list X)->co≠ol->X.length<lim->ae (ar own) (d+2) 6 [.loc co,nV n] H=some (.loc (H.set ol (.list (X++[oV od]))).length,H.set ol (.list (X++[oV od]))++[O.list rl])
theorem iO{n:Nd}{od:Od}(bg:UI own (d+1) co n od [])(hs:6*sz n=6):NodeOk own (d+3) co ol wl n0 (λ_ _=>[od]) n:=λX W H y y2 t hb=>by
 have hW:=ig W
 obtain⟨a,b,H3,t3,f3,g3,l3,lp⟩:=qa (it:=[]) (n0:=n0) (y:=y) (y2:=y2) t (bg (aa t.n2 t.jc) (aa t.ne.symm t.lC) t.n1 (bX (by exact nl (aj [_,_,_] (.d (.s (.a (.a ab af) (.m 6 aq))) (.n 100000) (.d (.n 6) (.m 6 aq) (.d (.n 100000) ab .z))) rfl hb (bx (cP hs)))))) Fz (ag (au (aa t.ne.symm t.lC))) am (λi x h1 h=>ag (aa h1.symm h)) (bX (by show W.length+0<_;exact nl (aj [_,_,_,_] (.d (.s (.a (.a ab af) (.m 6 aq))) (.n 100000) (.d (.n 6) (.m 6 aq) (.d aA af (.d (.n 100000) (.a aA (.n 0)) .z)))) rfl hb (bx (cP hs)) hW)))
 rw[sO,eU] at t3
 exact⟨_,_,H3,t3,f3,lp.mono (by exact nt (aj [_] (.d (.n 6) (.m 6 ab) (.d (.s (.m 6 ab)) (.n 1) .z)) rfl (bx (cP hs))))⟩
theorem uT{n n':Nd}{od:Od}{g:Nd->Nat->List Od}(bg:UI own (d+1) co n' .mark [ie (nV n),uJ (oV od)])(hs:6*sz n'=6*sz n+6)(qb:∀ b,(g n b).length<=6*sz n)(hn:NodeOk own (d+3) co ol wl n0 g n):NodeOk own (d+3) co ol wl n0 (λ_ b=>.mark::(g n (b+1)++[od])) n':=λX W H y y2 t hb=>by
 have hW:=ig W
 obtain⟨a,b,H3,t3,f3,g3,l3,lp⟩:=qa (it:=[.put n,.emit od]) (n0:=n0) (y:=y) (y2:=y2) t (bg (aa t.n2 t.jc) (aa t.ne.symm t.lC) t.n1 (bX (by exact nl (aj [_,_,_,_] (.d (.s (.a (.a ab af) (.m 6 aq))) (.n 100000) (.d (.a (.m 6 aA) (.n 6)) (.m 6 aq) (.d (.n 100000) ab .z))) rfl hb (bx (cP hs)))))) Fz (ag (au (aa t.ne.symm t.lC))) am (λi x h1 h=>ag (aa h1.symm h)) (bX (by show W.length+2<_;exact nl (aj [_,_,_,_,_] (.d (.s (.a (.a ab af) (.m 6 aq))) (.n 100000) (.d (.a (.m 6 aA) (.n 6)) (.m 6 aq) (.d bU af (.d (.n 100000) (.a bU (.n 2)) .z)))) rfl hb (bx (cP hs)) hW)))
 have R0:PS co ol wl (X++[oV .mark]) (W++[.emit od]++[.put n]) H3:=by rw[cG];exact t3
 have hx:(X++[oV .mark]).length=X.length+1:=by rw[aK];rfl
 have hc:=qb (X.length+1)
 obtain⟨a4,b4,H4,t4,f4,DD⟩:=hn (y:=some a) (y2:=some b) R0 (by rw[hx,fp];show _+(_+1)+_<_;exact nl (aj [_,_,_,_] (.d (.s (.a (.a ab af) (.m 6 aq))) (.n 100000) (.d (.a (.m 6 aA) (.n 6)) (.m 6 aq) (.d (.n 100000) (.a (.a (.s ab) (.s af)) (.m 6 aA)) .z))) rfl hb (bx (cP hs))))
 rw[hx] at t4
 obtain⟨a5,b5,H5,t5,f5,R1⟩:=uN (own:=own) (d:=d+2) (n0:=n0) (y:=a4) (y2:=b4) t4 (bX (by rw[aK,hx,cn];exact nl (aj [_,_,_,_,_] (.d (.s (.a (.a ab af) (.m 6 aq))) (.n 100000) (.d (.a (.m 6 aA) (.n 6)) (.m 6 aq) (.d bU (.m 6 aA) (.d (.n 100000) (.a (.s ab) bU) .z)))) rfl hb (bx (cP hs)) hc)))
 refine⟨_,_,H5,?_,(f3.trans f4).trans f5,((lp.trans DD).trans R1).mono (by exact nt (aj [_,_] (.d (.a (.m 6 ab) (.n 6)) (.m 6 af) (.d (.s (.m 6 af)) (.s (.a (.n 1) (.m 6 ab))) .z)) rfl (bx (cP hs))))⟩
 rw[dD,dE]
 have e5:∀(X C:List V)(a b:V),X++[a]++C++[b]=X++a::(C++[b]):=λX C a b=>by rw[cG,cG];rfl
 rw[e5] at t5
 exact t5
theorem eA:∀(F:Nat)(n:Nd),sz n<=F->sz n<1000->(gK n=true\/sm n)->NodeOk own (d+3) co ol wl n0 (cp F) n
 |0,n,h,_,_=>absurd (yI n) (by exact aj [_] (.d ab (.n 0) (.d (.n 1) ab .z)) rfl h)
 |F+1,.sg x,h,h1,h2=>λX W H y y2 t hb=>iO (λH ol X=>HL) rfl t hb
 |F+1,.cu,h,h1,h2=>λX W H y y2 t hb=>iO (λH ol X=>Dt) rfl t hb
 |F+1,.dT,h,h1,h2=>λX W H y y2 t hb=>iO (λH ol X=>Du) rfl t hb
 |F+1,.fail,h,h1,h2=>λX W H y y2 t hb=>iO (λH ol X=>Bp) rfl t hb
 |F+1,.cur q,h,h1,h2=>λX W H y y2 t hb=>iO (λH ol X=>Dv) rfl t hb
 |F+1,.dU q,h,h1,h2=>λX W H y y2 t hb=>iO (λH ol X=>Dw) rfl t hb
 |F+1,.lt n q,h,h1,h2=>λX W H y y2 t hb=>uT (g:=cp F) (λH ol X=>HM) (Nat.mul_add _ _ _) (fO F n) (eA F n (iT h) (Nat.lt_of_succ_lt h1) (h2.elim (λh=>by exact ff h) .inr)) t hb
 |F+1,.nw n q,h,h1,h2=>λX W H y y2 t hb=>uT (g:=cp F) (λH ol X=>HP) (Nat.mul_add _ _ _) (fO F n) (eA F n (iT h) (Nat.lt_of_succ_lt h1) (h2.elim (λh=>by exact ff h) .inr)) t hb
 |F+1,.rp n,h,h1,h2=>λX W H y y2 t hb=>by
  have hs:6*sz (.rp n)=6*sz n+6:=Nat.mul_add _ _ _
  have hW:=ig W
  have h:sz n+1<=F+1:=h
  have h1:sz n+1<1000:=h1
  rw[hs] at hb
  refine Bq (own:=own) (d:=d) (n:=n) (aa t.n2 t.jc) (aa t.ne.symm t.lC) t.n1 (H:=H.set wl (.list (W.map kT))) (by unfold lim;exact nl (aj [_,_,_] (.d (.s (.a (.a ab af) (.a (.m 6 aq) (.n 6)))) (.n 100000) (.d (.n 1048576) (.a ab (.n 3)) .z)) rfl hb)) λr e e1 H2 e2 ly hr he kj qY oB hk hl=>?_
  obtain⟨a,b,H3,t3,f3,g3,l3,lp⟩:=qa (it:=[.put n,.emit .i7,.emit (.df X.length),.met e]) (n0:=n0) (y:=y) (y2:=y2) t e2 hl ly hr (λi x h1 h=>hk i x h1 h) (bX (by show W.length+4<_;exact nl (aj [_,_,_,_] (.d (.s (.a (.a ab af) (.a (.m 6 aq) (.n 6)))) (.n 100000) (.d aA af (.d (.n 100000) (.a aA (.n 4)) .z))) rfl hb hW)))
  have Dz:(X++[oV (.split (X.length+2)),.none,oV .mark]).length=X.length+3:=by rw[aK];rfl
  have R0:PS co ol wl (X++[oV (.split (X.length+2)),.none,oV .mark]) (W++[.met e]++[.emit (.df X.length)]++[.emit .i7]++[.put n]) H3:=by
   simp only[cG];exact t3
  rw[dt] at qY
  have k1:=d8 (cC t.lC) qY
  have k2:=d8 (cC t.iw) qY
  have al:Al e e1 (.int X.length) [X.length+1] ol wl H H3:=⟨g3 _ _ (by exact dp (nl (aj [_,_,_] (.d (.s ab) af (.d (.s aq) ab (.d af aq .z))) rfl oB k2))) he,g3 _ _ (by exact dp (nl (aj [_,_] (.d (.s ab) af (.d af ab .z)) rfl k2))) kj,by exact d9 (nl (aj [_,_,_] (.d (.s ab) af (.d (.s aq) ab (.d af aq .z))) rfl oB k1)),by exact d9 (nl (aj [_,_] (.d (.s ab) af (.d af ab .z)) rfl k1)),by exact d9 (nl (aj [_,_,_] (.d (.s ab) af (.d (.s aq) ab (.d af aq .z))) rfl oB k2)),by exact d9 (nl (aj [_,_] (.d (.s ab) af (.d af ab .z)) rfl k2)),by exact d9 (nl (aj [_,_] (.d (.s ab) af (.d af ab .z)) rfl oB)),by exact nt (aj [_,_,_] (.d ab af (.d (.s af) aq (.d (.s aq) ab .z))) rfl qY oB),qY,f3⟩
  have hc:=fO F n (X.length+3)
  obtain⟨a4,b4,H4,t4,f4,DD⟩:=eA F n (by exact nt (aj [_,_] (.d (.s ab) (.s af) (.d (.s af) ab .z)) rfl h)) (by exact nl (aj [_] (.d (.s (.s ab)) (.n 1000) (.d (.n 1000) ab .z)) rfl h1)) (h2.elim (λh=>by exact ff h) .inr) (y:=some a) (y2:=some b) R0 (by rw[Dz,fp,fp,fp];show _+(_+1+1+1)+_<_;exact nl (aj [_,_,_] (.d (.s (.a (.a ab af) (.a (.m 6 aq) (.n 6)))) (.n 100000) (.d (.n 100000) (.a (.a (.a ab (.n 3)) (.s (.s (.s af)))) (.m 6 aq)) .z)) rfl hb))
  rw[Dz] at t4
  have yK:(X++[oV (.split (X.length+2)),.none,oV .mark]++(cp F n (X.length+3)).map oV).length=X.length+3+(cp F n (X.length+3)).length:=by rw[aK,Dz,cn]
  obtain⟨a5,b5,H5,t5,f5,R1⟩:=uN (own:=own) (d:=d+2) (n0:=n0) (y:=a4) (y2:=b4) t4 (bX (by rw[yK];exact nl (aj [_,_,_,_] (.d (.s (.a (.a ab af) (.a (.m 6 aq) (.n 6)))) (.n 100000) (.d aA (.m 6 aq) (.d (.n 100000) (.a (.a ab (.n 3)) aA) .z))) rfl hb hc)))
  have NO:(X++[oV (.split (X.length+2)),.none,oV .mark]++(cp F n (X.length+3)).map oV++[oV .i7]).length=X.length+3+(cp F n (X.length+3)).length+1:=by rw[aK,yK];rfl
  obtain⟨a6,b6,H6,t6,f6,WV⟩:=uN (own:=own) (d:=d+2) (n0:=n0) (y:=a5) (y2:=b5) t5 (bX (by rw[NO];exact nl (aj [_,_,_,_] (.d (.s (.a (.a ab af) (.a (.m 6 aq) (.n 6)))) (.n 100000) (.d aA (.m 6 aq) (.d (.n 100000) (.s (.a (.a ab (.n 3)) aA)) .z))) rfl hb hc)))
  have UJ:(X++[oV (.split (X.length+2)),.none,oV .mark]++(cp F n (X.length+3)).map oV++[oV .i7]++[oV (.df X.length)]).length=X.length+3+(cp F n (X.length+3)).length+2:=by rw[aK,NO];rfl
  obtain⟨a7,b7,H7,t7,f7,WW⟩:=Fs (own:=own) (d:=d+2) (n0:=n0) (y:=a6) (y2:=b6) t6 (((al.KY f4).KY f5).KY f6) (by show 1<1000;decide) (λp hp=>by rw[db.mp hp,UJ];exact nl (aj [_,_] (.d (.a (.a (.a ab (.n 3)) af) (.n 2)) (.s ab) .z) rfl))
  refine⟨_,_,H7,?_,f7,((((lp.trans DD).trans R1).trans WV).trans WW).mono (by rw[hs];exact nt (aj [_] (.d (.s (.a (.m 6 ab) (.n 6))) (.s (.s (.s (.a (.n 1) (.m 6 ab))))) .z) rfl))⟩
  rw[UJ] at t7
  have hX:patch (X.length+3+(cp F n (X.length+3)).length+2) [X.length+1] (X++[oV (.split (X.length+2)),.none,oV .mark]++(cp F n (X.length+3)).map oV++[oV .i7]++[oV (.df X.length)])=X++(cp (F+1) (.rp n) X.length).map oV:=by
   rw[oA]
   show(X++[oV (.split (X.length+2)),.none,oV .mark]++(cp F n (X.length+3)).map oV++[oV .i7]++[oV (.df X.length)]).set (X.length+1) (pY (X.length+3+(cp F n (X.length+3)).length+2))=_
   rw[cG,cG,cG]
   have e9:∀(A:List V)(p q z u:V)(B:List V),(A++([p,q,z]++B)).set (A.length+1) u=A++([p,u,z]++B):=λA p q z u B=>by
    rw[zf _ _ (dq _ 1),zd];rfl
   rw[e9,dD,dD,dD,dE];rfl
  rw[hX] at t7
  exact t7
 |F+1,.ca x y',h,h1,h2=>λX W H y y2 t hb=>by
  have hW:=ig W
  have r1:=gS true (.ca x y')
  have r2:=yJ x y'
  have r3:=uR (aN true (.ca x y'))
  have r4:=uM (aN true (.ca x y'))
  have NP:sm (.ca x y'):=h2.elim (λh=>by exact ff h) id
  have r5:=Fy (aN true (.ca x y')) λp hp=>(dL true _ p hp).2 NP
  refine Br (own:=own) (d:=d) (co:=co) (H:=H.set wl (.list (W.map kT))) (a:=x) (b:=y') h1 (by exact nl (aj [_,_,_,_] (.c 2 (.s ab) (.n 1000) (.c 2 (.a af aq) (.s ab) (.d aA (.m 2 aq) (.d (.n 100000) aA .z)))) rfl h1 (bx r1) r5)) λr H2 e2 g2 hr=>?_
  obtain⟨a,b,H3,t3,f3,g3,l3,lp⟩:=qa (it:=(fF (aN true (.ca x y'))).map Wk.put) (n0:=n0) (y:=y) (y2:=y2) t e2 g2.len (g2.at (aa t.ne.symm t.lC)) (by rw[List.map_map];exact hr) (λi x h1 h=>g2.at h) (bX (by rw[cn];exact nl (aj [_,_,_,_,_,_,_] (.d (.s (.a (.a ab af) (.m 6 aq))) (.n 100000) (.d aA af (.c 6 (.a bU iZ) (.s aq) (.c 5 (.n 2) iZ (.d F6 iZ (.d (.n 100000) (.a aA F6) .z)))))) rfl hb hW (bx r1) r2 r4)))
  obtain⟨a4,b4,H4,t4,f4,DD⟩:=Bt (own:=own) (d:=d+3) (n0:=n0) (g:=cp F) (fO F) (fF (aN true (.ca x y'))) (λn hn=>by
   rcases DC hn with hn|hn
   ·have:=DA hn
    exact eA F n (by exact nt (aj [_,_,_] (.d ab (.s af) (.d (.s aq) ab (.d (.s af) aq .z))) rfl h this)) (by exact nl (aj [_,_] (.d (.s ab) (.n 1000) (.d (.s af) ab (.d (.n 1000) af .z))) rfl h1 this)) (.inr ((dL true _ n hn).2 NP))
   ·have:=RZ hn
    have:=yI x
    have h0:sz (.ca x y')=sz x+sz y'+1:=rfl
    exact eA F n (by omega) (by omega) (.inl hn)) (y:=some a) (y2:=some b) t3 (by rw[uS];exact nl (aj [_,_,_,_,_,_] (.d (.s (.a (.a ab af) (.m 6 aq))) (.n 100000) (.c 6 (.a aA bU) (.s aq) (.c 6 (.n 2) bU (.c 6 iZ aA (.d (.n 100000) (.a (.a ab af) (.m 6 iZ)) .z))))) rfl hb (bx r1) r2 r3))
  exact⟨_,_,H4,t4,f3.trans f4,(lp.trans DD).mono (by rw[uS];exact nt (aj [_,_,_,_] (.c 6 (.a ab af) (.s aq) (.c 6 (.n 2) af (.c 6 aA ab (.d (.s (.m 6 aq)) (.a (.n 1) (.m 6 aA)) .z)))) rfl (bx r1) r2 r3))⟩
 |F+1,.al x y',h,h1,h2=>λX W H y y2 t hb=>by
  have hW:=ig W
  have r1:=Fw x y'
  have r2:=qd (lf (qc x y')) .cu
  have r3:=fv false (.al x y')
  have hm:∀ n∈aN false (.al x y'),NodeOk own (d+3) co ol wl n0 (cp F) n:=λn hn=>by
   have:=DB hn
   exact eA F n (by exact nt (aj [_,_,_] (.d ab (.s af) (.d (.s aq) ab (.d (.s af) aq .z))) rfl h this)) (by exact nl (aj [_,_] (.d (.s ab) (.n 1000) (.d (.s af) ab (.d (.n 1000) af .z))) rfl h1 this)) (.inr ((dL false _ n hn).2 (h2.elim (λh=>by exact ff h) id)))
  rw[uQ]
  generalize (aN false (.al x y')).dropLast=ps at *
  generalize (aN false (.al x y')).getLastD .cu=z at *
  rw[r2] at r3 hm
  rw[aK] at r3
  have WX:ps.length+1<=sz (.al x y'):=r3
  refine Bs (own:=own) (d:=d) (a:=x) (b:=y') (aa t.n2 t.jc) h1 r2 (H:=H.set wl (.list (W.map kT))) λr e e1 H2 e2 g2 hr he kj qY oB=>?_
  have R2:=Fu e z ps
  have Ms:=ig (nu e z ps)
  rw[Ft] at hr
  obtain⟨a,b,H3,t3,f3,g3,l3,lp⟩:=qa (it:=nu e z ps) (n0:=n0) (y:=y) (y2:=y2) t e2 g2.len (g2.at (aa t.ne.symm t.lC)) hr (λi x h1 h=>g2.at h) (bX (by exact nl (aj [_,_,_,_,_,_,_,_,_] (.d (.s (.a (.a ab af) (.m 6 aq))) (.n 100000) (.d aA af (.d (.a (.a (.a (.m 6 bU) (.m 4 iZ)) (.m 6 F6)) (.n 2)) (.m 6 aq) (.d (.v 7) (.s (.a (.a (.m 6 bU) (.m 4 iZ)) (.m 6 F6))) (.d (.v 8) (.v 7) (.d (.n 100000) (.a aA (.v 8)) .z)))))) rfl hb hW r1 (bx R2) Ms)))
  rw[dt] at qY
  have k1:=d8 (cC t.lC) qY
  have k2:=d8 (cC t.iw) qY
  have al:Al e e1 (.int (-1)) [] ol wl H H3:=⟨g3 _ _ (by exact dp (nl (aj [_,_,_] (.d (.s ab) af (.d (.s aq) ab (.d af aq .z))) rfl oB k2))) he,g3 _ _ (by exact dp (nl (aj [_,_] (.d (.s ab) af (.d af ab .z)) rfl k2))) kj,by exact d9 (nl (aj [_,_,_] (.d (.s ab) af (.d (.s aq) ab (.d af aq .z))) rfl oB k1)),by exact d9 (nl (aj [_,_] (.d (.s ab) af (.d af ab .z)) rfl k1)),by exact d9 (nl (aj [_,_,_] (.d (.s ab) af (.d (.s aq) ab (.d af aq .z))) rfl oB k2)),by exact d9 (nl (aj [_,_] (.d (.s ab) af (.d af ab .z)) rfl k2)),by exact d9 (nl (aj [_,_] (.d (.s ab) af (.d af ab .z)) rfl oB)),by exact nt (aj [_,_,_] (.d ab af (.d (.s af) aq (.d (.s aq) ab .z))) rfl qY oB),qY,f3⟩
  obtain⟨a4,b4,H4,t4,f4,DD⟩:=Bw (own:=own) (d:=d+1) (n0:=n0) (g:=cp F) (fO F) (hm z (lK _ (.head _))) ps (λn hn=>hm n (iS _ hn)) (y:=some a) (y2:=some b) t3 al (by exact nl (aj [_,_,_,_,_,_,_] (.d (.s (.a (.a ab af) (.m 6 aq))) (.n 100000) (.d (.a (.a (.a (.m 6 aA) (.m 4 bU)) (.m 6 iZ)) (.n 2)) (.m 6 aq) (.d F6 (.s (.a (.a (.m 6 aA) (.m 4 bU)) (.m 6 iZ))) (.d (.n 100000) (.a (.a ab af) F6) .z)))) rfl hb r1 (bx R2))) (by show 0+_<_;exact nl (aj [_,_] (.d (.s ab) (.n 1000) (.d (.s af) ab (.d (.n 1000) (.a (.n 0) af) .z))) rfl h1 WX)) (λp hp=>nomatch hp)
  exact⟨_,_,H4,t4,f4,(lp.trans DD).mono (by exact nt (aj [_,_,_,_,_] (.d (.a (.a (.a (.m 6 ab) (.m 4 af)) (.m 6 aq)) (.n 2)) (.m 6 aA) (.d bU (.s (.a (.a (.m 6 ab) (.m 4 af)) (.m 6 aq))) (.d (.s (.m 6 aA)) (.a (.n 1) bU) .z))) rfl r1 (bx R2)))⟩
end
section
variable {own:List FI}{d:Nat}{H:Hp}{co ol wl f:Nat}{X:List V}{n0:V}{y y2:Option V}
theorem HV{n:Nd}(hc:H[co]?=some (.inst 0 [(0,.loc ol)]))(ho:H[ol]?=some (.list X))(hs:sz n<1000)(hx:X.length<10000)(hn:gK n=true\/sm n){zg:Prop}(zk:∀ H',(ae (ar own) (d+4) 5 [.loc co,nV n] H=some (.none,H'))->(H.length<=H'.length)->(H'[ol]?=some (.list (X++(cp (sz n) n X.length).map oV)))->(∀ i x,i≠ol->H[i]?=some x->H'[i]?=some x)->zg):zg:=by
 have t:PS co ol H.length X ([]++[.put n]) (H++[.list [kT (.put n)]]):=⟨ag hc,ag ho,am,aG ho⟩
 obtain⟨a,b,H',t',f',j,hj,lp⟩:=eA (own:=own) (d:=d) (n0:=nV n) (sz n) n (aE _) hs hn (y:=none) (y2:=none) t (by show _+0+_<_;exact nl (aj [_,_] (.c 6 (.s ab) (.n 1000) (.d (.s af) (.n 10000) (.d (.n 100000) (.a (.a af (.n 0)) (.m 6 ab)) .z))) rfl hs hx))
 obtain⟨F,hF⟩:∃ F,1048576=j+(F+1):=⟨1048575-j,by omega⟩
 have e:=lp (F+1) _ (iJ (NF t'.iw))
 rw[← hF] at e
 refine zk H' (et rfl rfl (bk (bq rfl) (ah (fN (show _=some (Fl.next,rY co H.length (nV n) a b,H') from e)) aJ))) ?_ t'.lC (λi x h1 h=>f'.off i x h1 (aG h) (ag h))
 have:=f'.len
 rw[aK] at this
 exact lf this
theorem K0{O:List Od}{pc:Nat}{x:Od}(h:O[pc]?=some x):(O.map oV)[pc]?=some (oV x):=by rw[jN,h];rfl
noncomputable def isJ:Od->Bool
 |.df _=>true
 |_=>false
noncomputable def isJS:Od->Bool
 |.df _=>true
 |.split _=>true
 |_=>false
theorem qe{x:Od}:gE H (oV x) (.int 0)=some (.str (yB x)):=by induction x <;> rfl
theorem K1{x:Od}:bY H .eq (.str (yB x)) (.str [106,117,109,112])=some (isJ x):=by induction x <;> rfl
theorem R4{x:Od}:bY H .isin (.str (yB x)) (.tup [.str [106,117,109,112],.str [115,112,108,105,116]])=some (isJS x):=by induction x <;> rfl
noncomputable def goal:Od->Nat
 |.df g=>g
 |.split g=>g
 |_=>0
theorem K3{x:Od}(h:isJS x=true):gE H (oV x) (.int 1)=some (.int (goal x)):=by induction x <;> first|rfl|exact ff h
noncomputable def tG:ME:=(.cmp .eq (.idx (.idx (.loc 0) (.loc 3)) (.lit (.int 0))) (.glob (.str [106,117,109,112])))
noncomputable def bG:List MS:=[(.asg (.loc 3) (.idx (.idx (.loc 0) (.loc 3)) (.lit (.int 1))))]
theorem K4{O:List Od}{g:Nat}{x:Od}{y z:Option V}(ho:H[ol]?=some (.list (O.map oV)))(hx:O[g]?=some x):av (ar own) (ae (ar own) d) tG [some (.loc ol),y,z,some (.int g)] H=some (.bool (isJ x),H):=
 ax (aR (aR rfl rfl (cr ho (pN rfl (K0 hx)))) ak qe) ce K1
theorem R5{O:List Od}{g:Nat}{x:Od}{y z:Option V}(ho:H[ol]?=some (.list (O.map oV)))(hx:O[g]?=some x)(hj:isJS x=true):aS (ar own) (ae (ar own) d) bG [some (.loc ol),y,z,some (.int g)] H=some (.next,[some (.loc ol),y,z,some (.int (goal x))],H):=
 ah (aT (aR (aR rfl rfl (cr ho (pN rfl (K0 hx)))) ak (K3 hj)) ef) aJ
inductive Fi(O:List Od):Nat->Nat->Nat->Prop where
 |stop {g x}:O[g]?=some x->isJ x=false->Fi O 0 g g
 |go {n g x g'}:O[g]?=some x->isJ x=true->Fi O n (goal x) g'->Fi O (n+1) g g'
theorem DE{x:Od}(h:isJ x=true):isJS x=true:=by induction x <;> first|rfl|exact ff h
theorem DF{O:List Od}{y z:Option V}(ho:H[ol]?=some (.list (O.map oV))){n g g':Nat}(h:Fi O n g g'):∀ f,n<f->dG (av (ar own) (ae (ar own) d) tG) (aS (ar own) (ae (ar own) d) bG) f [some (.loc ol),y,z,some (.int g)] H=some (.next,[some (.loc ol),y,z,some (.int g')],H):=by
  induction h with
 |stop hx hj=>
   intro f hf
   obtain⟨f,rfl⟩:∃ k,f=k+1:=Nat.exists_eq_add_one.mpr (by exact nl (aj [_] (.d (.s (.n 0)) ab (.d ab (.n 0) .z)) rfl hf))
   exact iJ ((K4 ho hx).trans (by rw[hj]))
 |go hx hj _ ih=>
   intro f hf
   obtain⟨f,rfl⟩:∃ k,f=k+1:=Nat.exists_eq_add_one.mpr (by exact nl (aj [_,_] (.d (.s (.s ab)) af (.d af (.n 0) .z)) rfl hf))
   exact hZ ((K4 ho hx).trans (by rw[hj])) (R5 ho hx (DE hj)) (ih f (by exact nl (aj [_,_] (.d (.s (.s ab)) (.s af) (.d af ab .z)) rfl hf)))
noncomputable def gA(fn:Nat->Nat):Od->Od
 |.df g=>.df (fn g)
 |.split g=>.split (fn g)
 |x=>x
noncomputable def bS:List MS:=[(.aB (.cmp .isin (.idx (.loc 2) (.lit (.int 0))) (.tup [(.glob (.str [106,117,109,112])),(.glob (.str [115,112,108,105,116]))])) [(.asg (.loc 3) (.idx (.loc 2) (.lit (.int 1)))),(.lM (.cmp .eq (.idx (.idx (.loc 0) (.loc 3)) (.lit (.int 0))) (.glob (.str [106,117,109,112]))) [(.asg (.loc 3) (.idx (.idx (.loc 0) (.loc 3)) (.lit (.int 1))))]),(.asg (.loc 2) (.tup [(.idx (.loc 2) (.lit (.int 0))),(.loc 3)]))] []),(.expr (.ba (.loc 1) .append [(.loc 2)]))]
theorem UK{x:Od}{z:Option V}(hf:H[f]?=some (.list X))(hl:X.length<lim)(hx:isJS x=false):aS (ar own) (ae (ar own) d) bS [some (.loc ol),some (.loc f),some (oV x),z] H=some (.next,[some (.loc ol),some (.loc f),some (oV x),z],H.set f (.list (X++[oV x]))):=by
 have hq:bY H .isin (.str (yB x)) (.tup [.str [106,117,109,112],.str [115,112,108,105,116]])=some false:=R4.trans (by rw[hx])
 exact ah (bD (ax (aR rfl ak (by exact qe)) rfl (by exact hq)) aJ) (fm (de rfl (bb (by solve_by_elim [am,au,aa,ag,aG,aH,cA]) rfl) rfl (bV hf hl)))
theorem NQ{O:List Od}{x:Od}{g' n:Nat}{z:Option V}(ho:H[ol]?=some (.list (O.map oV)))(hf:H[f]?=some (.list X))(hl:X.length<lim)(hx:isJS x=true)(h:Fi O n (goal x) g')(hn:n<1000){zg:Prop}(zk:∀ a b,(aS (ar own) (ae (ar own) d) bS [some (.loc ol),some (.loc f),some (oV x),z] H=some (.next,[some (.loc ol),some (.loc f),a,b],H.set f (.list (X++[oV (gA (λ_=>g') x)]))))->zg):zg:=by
  have e:=DF (own:=own) (d:=d) (y:=some (.loc f)) (z:=some (oV x)) ho h 1048576 (by exact nl (aj [_] (.d (.s ab) (.n 1000) (.d (.n 1048576) ab .z)) rfl hn))
  induction x with
 |df g=>exact zk _ _ (ah (cf (ax (aR rfl ak (by exact qe)) rfl (by rfl)) (ah rfl (ah (fN (show _=some (Fl.next,[some (.loc ol),some (.loc f),some (oV (.df g)),some (.int g')],H) from e)) rfl))) (fm (de rfl (bb (by solve_by_elim [am,au,aa,ag,aG,aH,cA]) rfl) rfl (bV hf hl))))
 |split g=>exact zk _ _ (ah (cf (ax (aR rfl ak (by exact qe)) rfl (by rfl)) (ah rfl (ah (fN (show _=some (Fl.next,[some (.loc ol),some (.loc f),some (oV (.split g)),some (.int g')],H) from e)) rfl))) (fm (de rfl (bb (by solve_by_elim [am,au,aa,ag,aG,aH,cA]) rfl) rfl (bV hf hl))))
 |_=>exact ff hx
structure SI(H0:Hp)(ol f:Nat)(O:List Od)(r:List Od)(l:Lo)(H:Hp):Prop where
 l:∃ x z,l=[some (.loc ol),some (.loc f),x,z]
 ho:H[ol]?=some (.list (O.map oV))
 fo:H[f]?=some (.list (r.map oV))
 gr:Gr H0 H
theorem uU{O:List Od}(fn:Nat->Nat)(ho:H[ol]?=some (.list (O.map oV)))(hl:O.length<10000)(hg:∀ x∈O,isJS x=true->∃ n,n<1000/\Fi O n (goal x) (fn (goal x))){zg:Prop}(zk:∀ H',(ae (ar own) (d+1) 10 [.loc ol] H=some (.loc H.length,H'))->(Gr H H')->(H'[H.length]?=some (.list ((O.map (gA fn)).map oV)))->zg):zg:=by
 have be:H.length≠ol:=aH ho
 obtain⟨l',H',e,j⟩:=kn (k:=2) (body:=aS (ar own) (ae (ar own) d) bS) (g:=oV) (λ(r:List Od) x=>r++[gA fn x]) (SI H ol H.length O) (λr ps=>(∀ x∈ps,x∈O)/\r.length+ps.length<10000) (λ_ _ _ j=>j.ho) (λr x ps l G j p=>by
   obtain⟨a,z,rfl⟩:=j.l
   obtain⟨p1,p2⟩:=p
   rw[c9] at p2
   have hlen:(r.map oV).length<lim:=bX (by rw[cn];exact nl (aj [_,_] (.d (.s (.a ab (.s af))) (.n 10000) (.d (.n 100000) ab .z)) rfl p2))
   have hP:(∀ x∈ps,x∈O)/\(r++[gA fn x]).length+ps.length<10000:=⟨λy h=>p1 y (.tail _ h),by rw[aK];show _+1+_<_;exact nl (aj [_,_] (.d (.s (.a ab (.s af))) (.n 10000) (.d (.n 10000) (.a (.s ab) af) .z)) rfl p2)⟩
   have hS:∀{a b:Option V},SI H ol H.length O (r++[gA fn x]) [some (.loc ol),some (.loc H.length),a,b] (G.set H.length (.list (r.map oV++[oV (gA fn x)]))):=λ{a b}=>⟨⟨_,_,rfl⟩,aa be j.ho,by rw[dK];exact au j.fo,j.gr.set (aE _)⟩
   cases hx:isJS x with
  |false=>
    have hs:gA fn x=x:=by induction x <;> first|rfl|cases hx
    refine⟨.next,_,_,.inl rfl,UK j.fo hlen hx,?_,hP⟩
    have:=hS (a:=some (oV x)) (b:=z)
    rw[hs] at this ⊢;exact this
  |true=>
    obtain⟨n,hn,hf⟩:=hg x (p1 x (.head _)) hx
    refine NQ (own:=own) (d:=d) (z:=z) j.ho j.fo hlen hx hf hn λa' b' e=>?_
    have hs:gA (λ_=>fn (goal x)) x=gA fn x:=by induction x <;> first|rfl|exact nn hx
    rw[hs] at e
    exact⟨.next,_,_,.inl rfl,e,hS,hP⟩) O 0 1048576 [] [some (.loc ol),some (.loc H.length),none,none] (H++[.list []]) (λj=>by rw[fy]) (by exact nl (aj [_] (.d (.s ab) (.n 10000) (.d (.n 1048576) ab .z)) rfl hl)) ⟨⟨_,_,rfl⟩,ag ho,am,Gr.app _ _⟩ ⟨λx h=>h,by show 0+_<_;exact nl (aj [_] (.d (.s ab) (.n 10000) (.d (.n 10000) (.a (.n 0) ab) .z)) rfl hl)⟩
 have WY:∀(O r:List Od),O.foldl (λ(r:List Od) x=>r++[gA fn x]) r=r++O.map (gA fn):=λO=>by
   induction O with
  |nil=>intro r;exact(eU _).symm
  |cons x O ih=>intro r;rw[q8,ih,cG];rfl
 have OU:=j.fo
 rw[WY,oR] at OU
 obtain⟨a,b,rfl⟩:=j.l
 exact zk H' (ac rfl rfl (bk (bq bA) (ah (ju rfl (mr (ag ho)) (show _=some (Fl.next,_,H') from e)) rfl))) j.gr OU
theorem DG:ae (ar own) (d+1) 3 [.loc H.length] (H++[.inst 0 []])=some (.none,(H++[O.inst 0 []]++[O.list []]).set H.length (O.inst 0 [(0,.loc (H.length+1))])):=
 et rfl rfl (ah (eg (bq bA) rfl ((cg (ag am)).trans (by rw[aK];rfl))) aJ)
theorem nQ{n:Nd}(fn:Nat->Nat)(hs:sz n<1000)(hn:gK n=true\/sm n)(hg:∀ x∈cp (sz n) n 0++[Od.done],isJS x=true->∃ k,k<1000/\Fi (cp (sz n) n 0++[Od.done]) k (goal x) (fn (goal x))){zg:Prop}(zk:∀ r H',(ae (ar own) (d+5) 11 [nV n] H=some (.loc r,H'))->(Gr H H')->(H.length<=r)->(H'[r]?=some (.list (((cp (sz n) n 0++[Od.done]).map (gA fn)).map oV)))->zg):zg:=by
 have l1:(H++[O.inst 0 []]).length=H.length+1:=by rw[aK];rfl
 have hc:((H++[O.inst 0 []]++[O.list []]).set H.length (O.inst 0 [(0,.loc (H.length+1))]))[H.length]?=some (.inst 0 [(0,.loc (H.length+1))]):=au (ag am)
 have ho:((H++[O.inst 0 []]++[O.list []]).set H.length (O.inst 0 [(0,.loc (H.length+1))]))[H.length+1]?=some (.list []):=aa (d9 (lJ _)) (by rw[← l1];exact am)
 have NR:Gr H ((H++[O.inst 0 []]++[O.list []]).set H.length (O.inst 0 [(0,.loc (H.length+1))])):=((Gr.app H _).trans (Gr.app _ _)).set (aE _)
 generalize hG:(H++[O.inst 0 []]++[O.list []]).set H.length (O.inst 0 [(0,.loc (H.length+1))])=G at hc ho NR
 refine HV (own:=own) (d:=d) hc ho hs (by show 0<_;exact nl (aj [] (.d (.n 10000) (.n 0) .z) rfl)) hn λH2 UL rX ly UM=>?_
 rw[oR] at ly
 have jg:=UM _ _ (d9 (lJ _)) hc
 have be:H.length≠H.length+1:=d9 (lJ _)
 have CY:=fO (sz n) n 0
 have hl:((cp (sz n) n 0).map oV).length<lim:=bX (by rw[cn];exact nl (aj [_,_] (.c 6 (.s ab) (.n 1000) (.d af (.m 6 ab) (.d (.n 100000) af .z))) rfl hs CY))
 have RE:(H2.set (H.length+1) (.list ((cp (sz n) n 0).map oV++[oV Od.done])))[H.length+1]?=some (.list ((cp (sz n) n 0++[Od.done]).map oV)):=by rw[dK];exact au ly
 refine uU (own:=own) (d:=d+3) fn RE (by rw[aK];show _+1<_;exact nl (aj [_,_] (.c 6 (.s ab) (.n 1000) (.d af (.m 6 ab) (.d (.n 10000) (.s af) .z))) rfl hs CY)) hg λH3 Ji g3 fR=>?_
 have ci:=DG (own:=own) (d:=d+3) (H:=H)
 rw[hG] at ci
 refine zk _ H3 (ac rfl rfl (bk (gR bA rfl ci) (lu (aP rfl hc rfl rfl rfl UL) (lu (aP rfl jg rfl rfl rfl (dO jg ly be hl)) (aD (az (dH (aC rfl (ay (aa be.symm jg) rfl))) Ji)))))) (⟨?_,λi h=>?_⟩) ?_ fR
 ·have:=g3.len
  rw[dt] at this
  exact bv NR.len (bv rX this)
 ·have hx:=sJ h
  rw[hx]
  exact g3.at (aa (dp (vS h)) (UM i _ (d9 (vS h)) ((NR.off i h).trans hx)))
 ·rw[dt];exact bv NR.len rX
end
theorem R6{own:List FI}{d:Nat}(t:List Nat)(H:Hp):ox own (d+1) t H:=
 nQ (own:=own) (d:=d) (n:=.sg (.ch t)) (λg=>g) (by show 1<1000;decide) (.inl rfl) (λx hx hj=>by
  have hx:x∈[Od.one (.ch t),Od.done]:=hx
  rcases eC.mp hx with rfl|hx
  ·cases hj
  ·rw[db.mp hx] at hj;cases hj) λr H' e gr lo ho=>.mk r H' e lo ho gr.len gr.off
noncomputable def Seg(O:List Od)(b:Nat)(c:List Od):Prop:=∀ i,i<c.length->O[b+i]?=c[i]?
section
variable {O:List Od}
theorem Seg.hd{b:Nat}{x:Od}{c:List Od}(h:Seg O b (x::c)):O[b]?=some x:=h 0 (nE _)
theorem Seg.tl{b:Nat}{x:Od}{c:List Od}(h:Seg O b (x::c)):Seg O (b+1) c:=λi hi=>by
 have:=h (i+1) (Nat.succ_lt_succ hi)
 rw[cb,iR 1 i];exact this
theorem Seg.l{b:Nat}{c c':List Od}(h:Seg O b (c++c')):Seg O b c:=λi hi=>(h i (by rw[aK];exact nl (aj [_,_,_] (.d (.s ab) af (.d (.a af aq) ab .z)) rfl hi))).trans (dB hi)
theorem Seg.r{b:Nat}{c c':List Od}(h:Seg O b (c++c')):Seg O (b+c.length) c':=λi hi=>by
 have:=h (c.length+i) (by rw[aK];exact nl (aj [_,_,_] (.d (.s ab) af (.d (.a aq af) (.a aq ab) .z)) rfl hi))
 rw[cb,this,eT (dq _ _),zd]
noncomputable def R7(O:List Od)(e i:Nat)(x:Od):Prop:=isJS x=true->(i<goal x/\goal x<=e)\/∃ y,O[goal x]?=some y/\isJ y=false
noncomputable def jL(O:List Od)(e:Nat):Nat->List Od->Prop
 |_,[]=>True
 |b,x::c=>R7 O e b x/\jL O e (b+1) c
theorem jL.app{e:Nat}:∀{c c':List Od}{b:Nat},jL O e b c->jL O e (b+c.length) c'->jL O e b (c++c')
 |[],c',b,_,h=>h
 |x::c,c',b,h,h'=>⟨h.1,jL.app h.2 (by rw[c9] at h';rw[show b+1+c.length=b+(c.length+1) by exact lx [_,_] (.a (.s ab) af) (.a ab (.s af)) rfl];exact h')⟩
theorem jL.mono{e e':Nat}(he:e<=e'):∀{c:List Od}{b:Nat},jL O e b c->jL O e' b c
 |[],b,_=>trivial
 |x::c,b,h=>⟨λhj=>(h.1 hj).imp (λh=>⟨h.1,bv h.2 he⟩) id,jL.mono he h.2⟩
theorem OW{g:Nd->Nat->List Od}:∀(ps:List Nd),(∀ p∈ps,∀ b,Seg O b (g p b)->jL O (b+(g p b).length) b (g p b))->∀ b,Seg O b (nr g ps b)->jL O (b+(nr g ps b).length) b (nr g ps b)
 |[],_,b,_=>trivial
 |n::r,h,b,hs=>by
  rw[qW] at hs ⊢
  rw[aK,← cb]
  exact((h n (.head _) b hs.l).mono (dq _ _)).app (OW r (λp hp=>h p (.tail _ hp)) _ hs.r)
theorem OX{g:Nd->Nat->List Od}{e:Nat}{z:Nd}(hz:∀ b,Seg O b (g z b)->jL O (b+(g z b).length) b (g z b)):∀(ps:List Nd),(∀ p∈ps,∀ b,Seg O b (g p b)->jL O (b+(g p b).length) b (g p b))->∀ b,Seg O b (iL g e z ps b)->b+(iL g e z ps b).length=e->jL O e b (iL g e z ps b)
 |[],_,b,hs,h2=>by
  have NP:b+(g z b).length=e:=h2
  rw[← NP];exact hz b hs
 |n::r,h,b,hs,h2=>by
  rw[jK] at h2 hs ⊢
  rw[c9,aK,c9] at h2
  refine⟨λ_=>.inl ⟨?_,?_⟩,((h n (.head _) (b+1) hs.tl.l).mono (by exact nt (aj [_,_,_,_] (.d (.a ab (.s (.a af (.s aq)))) aA (.d (.s aA) (.a (.s ab) af) .z)) rfl (bx h2)))).app ⟨λ_=>.inl ⟨?_,aE _⟩,?_⟩⟩
  ·show b<b+_+2;exact nl (aj [_,_] (.d (.a (.a ab af) (.n 2)) ab .z) rfl)
  ·show b+_+2<=e;exact nt (aj [_,_,_,_] (.d (.a ab (.s (.a af (.s aq)))) aA (.d (.s aA) (.a (.a ab af) (.n 2)) .z)) rfl (bx h2))
  ·show b+1+_<e;exact nl (aj [_,_,_,_] (.d (.a ab (.s (.a af (.s aq)))) aA (.d aA (.a (.s ab) af) .z)) rfl (bx h2))
  ·have fU:=hs.tl.r.tl
   rw[show b+1+(g n (b+1)).length+1=b+(g n (b+1)).length+2 by exact lx [_,_] (.s (.a (.s ab) af)) (.a (.a ab af) (.n 2)) rfl] at fU ⊢
   exact OX hz r (λp hp=>h p (.tail _ hp)) _ fU (by exact k8 (nt (aj [_,_,_,_] (.d (.a ab (.s (.a af (.s aq)))) aA (.d (.s aA) (.a (.a (.a ab af) (.n 2)) aq) .z)) rfl (bx h2))) (nt (aj [_,_,_,_] (.d ab (.a af (.s (.a aq (.s aA)))) (.d (.s (.a (.a (.a af aq) (.n 2)) aA)) ab .z)) rfl (bx (cP h2)))))
theorem nj{e i:Nat}{x:Od}(h:isJS x=false):R7 O e i x:=λhj=>by rw[h] at hj;exact ff hj
theorem oE:∀(F:Nat)(n:Nd)(b:Nat),Seg O b (cp F n b)->jL O (b+(cp F n b).length) b (cp F n b)
 |0,n,b,_=>trivial
 |F+1,.lt n q,b,hs=>by
  rw[xf] at hs ⊢
  rw[c9,aK]
  exact⟨nj rfl,((oE F n (b+1) hs.tl.l).mono (by exact nt (aj [_,_,_] (.d (.s (.a ab (.s (.a af aq)))) (.a (.s ab) af) .z) rfl))).app ⟨nj rfl,trivial⟩⟩
 |F+1,.nw n q,b,hs=>by
  rw[qX] at hs ⊢
  rw[c9,aK]
  exact⟨nj rfl,((oE F n (b+1) hs.tl.l).mono (by exact nt (aj [_,_,_] (.d (.s (.a ab (.s (.a af aq)))) (.a (.s ab) af) .z) rfl))).app ⟨nj rfl,trivial⟩⟩
 |F+1,.rp n,b,hs=>by
  rw[oA] at hs ⊢
  rw[c9,c9,c9,aK]
  refine⟨λ_=>.inl ⟨?_,?_⟩,λ_=>.inl ⟨?_,?_⟩,nj rfl,((oE F n (b+3) hs.tl.tl.tl.l).mono (by exact nt (aj [_,_,_] (.d (.s (.a ab (.s (.s (.s (.a af aq)))))) (.a (.a ab (.n 3)) af) .z) rfl))).app ⟨nj rfl,λ_=>.inr ⟨_,hs.hd,rfl⟩,trivial⟩⟩
  ·show b<b+2;exact nl (aj [_] (.d (.a ab (.n 2)) ab .z) rfl)
  ·show b+2<=b+(_+2+1+1+1);exact nt (aj [_,_] (.d (.s (.a ab (.s (.s (.s (.a af (.n 2))))))) (.a ab (.n 2)) .z) rfl)
  ·show b+1<b+3+_+2;exact nl (aj [_,_] (.d (.a (.a (.a ab (.n 3)) af) (.n 2)) (.s ab) .z) rfl)
  ·show b+3+_+2<=b+(_+2+1+1+1);exact nt (aj [_,_] (.d (.s (.a ab (.s (.s (.s (.a af (.n 2))))))) (.a (.a (.a ab (.n 3)) af) (.n 2)) .z) rfl)
 |F+1,.ca x y,b,hs=>OW _ (λp _=>oE F p) b hs
 |F+1,.al x y,b,hs=>by
  rw[uQ] at hs ⊢
  have he:b+(iL (cp F) (jx (cp F) ((aN false (.al x y)).getLastD .cu) (aN false (.al x y)).dropLast b) ((aN false (.al x y)).getLastD .cu) (aN false (.al x y)).dropLast b).length=jx (cp F) ((aN false (.al x y)).getLastD .cu) (aN false (.al x y)).dropLast b:=by rw[uO (cp F) _ 0];rfl
  rw[he]
  exact OX (oE F _) _ (λp _=>oE F p) b hs he
 |F+1,.sg x,b,_=>⟨nj rfl,trivial⟩
 |F+1,.cu,b,_=>⟨nj rfl,trivial⟩
 |F+1,.dT,b,_=>⟨nj rfl,trivial⟩
 |F+1,.fail,b,_=>⟨nj rfl,trivial⟩
 |F+1,.cur q,b,_=>⟨nj rfl,trivial⟩
 |F+1,.dU k,b,_=>⟨nj rfl,trivial⟩
theorem jL.at{e:Nat}:∀{c:List Od}{b i:Nat}{x:Od},jL O e b c->c[i]?=some x->R7 O e (b+i) x
 |y::c,b,0,x,h,hx=>by cases hx;exact h.1
 |y::c,b,i+1,x,h,hx=>by
  have:=jL.at h.2 (i:=i) hx
  rw[show b+1+i=b+(i+1) by exact lx [_,_] (.a (.s ab) af) (.a ab (.s af)) rfl] at this
  exact this
noncomputable def R8(O:List Od):Prop:=∀ i x,O[i]?=some x->isJS x=true->goal x<O.length/\(i<goal x\/∃ y,O[goal x]?=some y/\isJ y=false)
noncomputable abbrev ey(n:Nd):List Od:=cp (sz n) n 0++[.done]
theorem xg(n:Nd):R8 (ey n):=λi x hx hj=>by
 have hs:Seg (ey n) 0 (cp (sz n) n 0):=λi hi=>by rw[fy];exact dB hi
 have h1:jL (ey n) (0+(cp (sz n) n 0).length) 0 (ey n):=(oE (sz n) n 0 hs).app ⟨nj rfl,trivial⟩
 have h:=jL.at h1 hx hj
 rw[fy,fy] at h
 rcases h with⟨h1,h2⟩|⟨y,h1,h2⟩
 ·exact⟨by rw[aK];exact Nat.lt_succ_of_le h2,.inl h1⟩
 ·exact⟨(eS.mp h1).1,.inr ⟨y,h1,h2⟩⟩
end
noncomputable def ko(O:List Od):Nat->Nat->Nat
 |0,g=>g
 |f+1,g=>match O[g]? with
  |some x=>bif isJ x then ko O f (goal x) else g
  |none=>g
theorem uV{O:List Od}{f g:Nat}{x:Od}(h:O[g]?=some x):ko O (f+1) g=bif isJ x then ko O f (goal x) else g:=by rw[ko,h]
theorem yL{O:List Od}(w:R8 O):∀(f g:Nat),g<O.length->O.length<g+f->∃ n,n<=f/\Fi O n g (ko O f g)
 |0,g,h1,h2=>absurd (nB h1 h2) (oQ _)
 |f+1,g,h1,h2=>by
    have hx:O[g]?=some O[g]:=sJ h1
    generalize O[g]=x at hx
    rw[uV hx]
    cases hj:isJ x with
   |false=>exact⟨0,cF _,.stop hx hj⟩
   |true=>
      obtain⟨l,h⟩:=w g x hx (DE hj)
      rcases h with h|⟨y,hy,hn⟩
      · obtain⟨n,hn,h⟩:=yL w f (goal x) l (by exact nl (aj [_,_,_,_] (.d (.s ab) (.a af (.s aq)) (.d (.s af) aA (.d (.a aA aq) ab .z))) rfl h2 h))
        exact⟨n+1,lG hn,.go hx hj h⟩
      · induction f with
       |zero=>omega
       |succ f=>
          rw[cond_true,uV hy,hn,cond_false]
          exact⟨1,by exact nt (aj [_] (.d (.s (.s (.s ab))) (.n 1) .z) rfl),.go hx hj (.stop hy hn)⟩
theorem Fi.uniq{O:List Od}{n m g a b:Nat}(h:Fi O n g a):Fi O m g b->a=b:=by
  induction h generalizing m with
 |stop hx hj=>
    intro h2
    induction h2 with
   |stop _ _=>rfl
   |go hy hk _=>rw[hx] at hy;cases hy;rw[hj] at hk;exact ff hk
 |go hx hj _ ih=>
    intro h2
    induction h2 with
   |stop hy hk=>rw[hx] at hy;cases hy;rw[hj] at hk;cases hk
   |go hy hk h2=>rw[hx] at hy;cases hy;exact ih h2
structure Fn(O:List Od)(fn:Nat->Nat):Prop where
 j:∀ g x,O[g]?=some x->isJ x=true->fn g=fn (goal x)
 n:∀ g x,O[g]?=some x->isJ x=false->fn g=g
noncomputable abbrev BA(O:List Od):Nat->Nat:=ko O (O.length+1)
theorem R9{O:List Od}(w:R8 O):Fn O (BA O):=by
 refine⟨λg x hx hj=>?_,λg x hx hj=>by rw[BA,uV hx,hj];rfl⟩
 have l:=(eS.mp hx).1
 obtain⟨n,_,h1⟩:=yL w (O.length+1) g l (by exact nl (aj [_,_] (.d (.a ab (.s af)) af .z) rfl))
 obtain⟨m,_,h2⟩:=yL w (O.length+1) (goal x) (w g x hx (DE hj)).1 (by exact nl (aj [_,_] (.d (.a ab (.s af)) af .z) rfl))
 exact h1.uniq (.go hx hj h2)
noncomputable abbrev codeS(n:Nd):List Od:=(ey n).map (gA (BA (ey n)))
section
variable {kp:Nat->Option (List Nat)}{K:List (List Nat)}{s:List Nat}{own:List FI}{d:Nat}{H:Hp}{h va rf lg:Nat}{m:Int}{k k' j:Nat}{σ τ:Hs}{n:Nd}{R:Option (Nat×Nat×Nm)}
theorem oF(g:Rg kp K s m j){an:Bool}(hs:sz n<150)(hn:gK n=true\/sm n)(x:HX kp h va rf lg m k σ H)(T:Mo kp s (codeS n) (cnt an s) 0 σ k R τ k')(hk:(k':Int)<=m)(hl:σ.log.length<=j+k)(hv:Kd K σ.vals) :
  Ca (ar own) (d+11) 59 [nV n,.str s,.bool an,.loc h] H kp h va rf lg m k' τ (λH' v=>R3 H.length H' R v):=by
 have w:=xg n
 have CY:=fO (sz n) n 0
 have hlen:(ey n).length=(cp (sz n) n 0).length+1:=by rw[aK];rfl
 refine nQ (own:=own) (d:=d+5) (H:=H) (n:=n) (BA (ey n)) (by exact nl (aj [_] (.d (.s ab) (.n 150) (.d (.n 1000) ab .z)) rfl hs)) hn (λx hx hj=>?_) λr H1 e1 gr lo ho=>?_
 ·obtain⟨i,hi⟩:=vP hx
  obtain⟨c,hc,hf⟩:=yL w ((ey n).length+1) (goal x) (w i x hi hj).1 (by exact nl (aj [_,_] (.d (.a ab (.s af)) af .z) rfl))
  exact⟨c,by exact nl (aj [_,_,_,_] (.c 6 (.s ab) (.n 150) (.d af (.m 6 ab) (.d aq (.s af) (.d aA (.s aq) (.d (.n 1000) aA .z))))) rfl hs CY (bx hlen) hc),hf⟩
 ·have e3:=cC x.log
  obtain⟨v,H2,e2,x2,o2,r2⟩:=Dr (own:=own) (d:=d+1) (λt H=>R6 t H) g (H:=H1) ⟨gr.at x.host,gr.at x.vals,gr.at x.log,gr.at x.ref,λr key e=>gr.at (x.rk r key e),x.n3⟩ ho (by exact dp (nl (aj [_,_,_] (.d ab af (.d (.s aq) ab (.d af aq .z))) rfl lo e3))) T hk hl hv
  exact⟨v,H2,ac rfl rfl (gm (E6 (yl ce (aM (yl ce (aM (gj rfl) bA) e1) (aM (gj rfl) (aM (gj rfl) (aM (gj rfl) bA)))) e2))),x2,⟨bv gr.len o2.len,λi h1 h2 h3 h4=>(o2.off i (d8 h1 gr.len) h2 h3 h4).trans (gr.off i h1)⟩,r2.mono gr.len⟩
end
structure kU where
 f:Nat->Nat
 κ:List Nat->List Nat
 r:Nat->Nat
 fi:∀ x y,f x=f y->x=y
 ki:∀ x y,κ x=κ y->x=y
 dg:∀ n,n<10->f (48+n)=48+n
section
variable (ρ:kU)
noncomputable abbrev kU.s(t:List Nat):List Nat:=t.map ρ.f
noncomputable def NS:Sg->Sg
 |.ch t=>.ch (ρ.s t)
 |.len n=>.len n
 |.pos n=>.pos n
 |.gH n=>.gH n
 |.tab n=>.tab n
 |.gI n=>.gI n
 |.any t=>.any (ρ.s t)
 |.fc t=>.fc (ρ.s t)
 |.span t=>.span (ρ.s t)
 |.brk t=>.brk (ρ.s t)
 |.rem=>.rem
noncomputable def b9:Nd->Nd
 |.sg x=>.sg (NS ρ x)
 |.al a b=>.al (b9 a) (b9 b)
 |.ca a b=>.ca (b9 a) (b9 b)
 |.rp n=>.rp (b9 n)
 |.lt n q=>.lt (b9 n) (ρ.r q)
 |.nw n q=>.nw (b9 n) (ρ.r q)
 |.cu=>.cu
 |.dT=>.dT
 |.fail=>.fail
 |.cur q=>.cur (ρ.r q)
 |.dU k=>.dU (ρ.κ k)
noncomputable def BB:Im->Im
 |.nd n=>.nd (b9 ρ n)
 |.el q b=>.el (ρ.r q) b
 |.en q b=>.en (ρ.r q) b
 |.er n b=>.er (b9 ρ n) b
noncomputable def ii(nm:Nm):Nm:=nm.map λx=>(ρ.r x.1,ρ.s x.2)
noncomputable def rZ:V->V
 |.str t=>.str (ρ.s t)
 |v=>v
noncomputable def iz:V->V
 |.tup [.str k,v]=>.tup [.str (ρ.κ k),rZ ρ v]
 |v=>v
noncomputable def gq(σ:Hs):Hs:=⟨σ.vals.map λx=>(ρ.κ x.1,rZ ρ x.2),σ.log.map (iz ρ)⟩
noncomputable def UN(w:Wy):Wy:=⟨w.c.map (BB ρ),w.a,ii ρ w.nm⟩
noncomputable def WZ:Res->Res
 |.met a nm=>.met a (ii ρ nm)
 |.cz=>.cz
 |.bi=>.bi
variable {ρ}
theorem NT{t u:List Nat}:(ρ.s t==ρ.s u)=(t==u):=by
 rw[Bool.eq_iff_iff,beq_iff_eq,beq_iff_eq]
 exact⟨λh=>(List.map_inj_right ρ.fi).mp h,λh=>congrArg _ h⟩
theorem uW{t:List Nat}{c:Nat}:(t.map ρ.f).contains (ρ.f c)=t.contains c:=by
  induction t with
 |nil=>rfl
 |cons x t ih=>
   have h:(ρ.f c==ρ.f x)=(c==x):=by rw[Bool.eq_iff_iff,beq_iff_eq,beq_iff_eq];exact⟨ρ.fi _ _,congrArg _⟩
   rw[dD,List.contains_cons,List.contains_cons,ih,h]
theorem NU{s t:List Nat}{a:Nat}:ux (ρ.s s) (ρ.s t) a=ux s t a:=by
 show(((s.map ρ.f).take (a+(t.map ρ.f).length)).drop a==ρ.s t)=_
 rw[cn,← List.map_take,← List.map_drop]
 exact NT
theorem FA{t:List Nat}{b:Bool}:∀ s:List Nat,j8 (ρ.s t) b (ρ.s s)=j8 t b s
 |[]=>rfl
 |c::r=>by
  show(bif (ρ.s t).contains (ρ.f c)==b then j8 (ρ.s t) b (ρ.s r)+1 else 0)=bif t.contains c==b then j8 t b r+1 else 0
  rw[uW,FA r]
theorem FC{s t:List Nat}{b:Bool}{a:Nat}:gJ (ρ.s s) (ρ.s t) b a=gJ s t b a:=by
 show a+j8 (ρ.s t) b ((s.map ρ.f).drop a)=_
 rw[← List.map_drop,FA];rfl
theorem sA{s:List Nat}{a:Nat}:∀ x:Sg,ia (ρ.s s) a (NS ρ x)=ia s a x
 |.ch t=>by show oN (ux (ρ.s s) (ρ.s t) a) (a+(t.map ρ.f).length)=_;rw[NU,cn];rfl
 |.len n=>by show oN (decide (a+n<=(s.map ρ.f).length)) _=_;rw[cn];rfl
 |.pos n=>rfl
 |.gH n=>by show oN (decide ((s.map ρ.f).length=a+n)) _=_;rw[cn];rfl
 |.tab n=>by show oN (decide (a<=n)&&decide (n<=(s.map ρ.f).length)) _=_;rw[cn];rfl
 |.gI n=>by show oN (decide (a+n<=(s.map ρ.f).length)) ((s.map ρ.f).length-n)=_;rw[cn];rfl
 |.any t=>by
   show(match (s.map ρ.f)[a]? with|some c=>oN ((ρ.s t).contains c) (a+1)|none=>none)=match s[a]? with|some c=>oN (t.contains c) (a+1)|none=>none
   rw[jN]
   cases s[a]? with
  |none=>rfl
  |some c=>show oN ((ρ.s t).contains (ρ.f c)) _=oN (t.contains c) _;rw[uW]
 |.fc t=>by
   show(match (s.map ρ.f)[a]? with|some c=>oN (!((ρ.s t).contains c)) (a+1)|none=>none)=match s[a]? with|some c=>oN (!(t.contains c)) (a+1)|none=>none
   rw[jN]
   cases s[a]? with
  |none=>rfl
  |some c=>show oN (!((ρ.s t).contains (ρ.f c))) _=oN (!(t.contains c)) _;rw[uW]
 |.span t=>by show oN (decide (a<gJ (ρ.s s) (ρ.s t) true a)) (gJ (ρ.s s) (ρ.s t) true a)=_;rw[FC];rfl
 |.brk t=>by show oN (decide (gJ (ρ.s s) (ρ.s t) false a<(s.map ρ.f).length)) (gJ (ρ.s s) (ρ.s t) false a)=_;rw[FC,cn];rfl
 |.rem=>by show some (s.map ρ.f).length=_;rw[cn];rfl
theorem uX{k:List Nat}:∀ es:List (List Nat×V),bz (ρ.κ k) (es.map λx=>(ρ.κ x.1,rZ ρ x.2))=(bz k es).map (rZ ρ)
 |[]=>rfl
 |(j,v)::r=>by
  have h:(ρ.κ j==ρ.κ k)=(j==k):=by rw[Bool.eq_iff_iff,beq_iff_eq,beq_iff_eq];exact⟨ρ.ki _ _,congrArg _⟩
  rw[dD,eM,eM,h,uX r]
  cases j==k <;> rfl
theorem FD{k:List Nat}{v:V}:∀ es:List (List Nat×V),dF (ρ.κ k) (rZ ρ v) (es.map λx=>(ρ.κ x.1,rZ ρ x.2))=(dF k v es).map λx=>(ρ.κ x.1,rZ ρ x.2)
 |[]=>rfl
 |(j,u)::r=>by
  have h:(ρ.κ j==ρ.κ k)=(j==k):=by rw[Bool.eq_iff_iff,beq_iff_eq,beq_iff_eq];exact⟨ρ.ki _ _,congrArg _⟩
  have e:∀(k:List Nat)(v:V)(j:List Nat)(u:V)(r:List (List Nat×V)),dF k v ((j,u)::r)=if j==k then(j,v)::r else(j,u)::dF k v r:=λ_ _ _ _ _=>rfl
  rw[dD,e,e,h,FD r]
  cases j==k <;> rfl
theorem sf{σ:Hs}{k:List Nat}{v:V}:iE (gq ρ σ) (ρ.κ k) (rZ ρ v)=gq ρ (iE σ k v):=by
 show Hs.mk _ _=Hs.mk _ _
 rw[show(gq ρ σ).vals=σ.vals.map λx=>(ρ.κ x.1,rZ ρ x.2) from rfl,FD]
 congr 1
 show σ.log.map (iz ρ)++_=(σ.log++_).map (iz ρ)
 rw[dE];rfl
theorem BC{σ:Hs}{k:List Nat}{i:Int}:iE (gq ρ σ) (ρ.κ k) (.int i)=gq ρ (iE σ k (.int i)):=sf (v:=.int i)
theorem BD{σ:Hs}{k t:List Nat}:iE (gq ρ σ) (ρ.κ k) (.str (ρ.s t))=gq ρ (iE σ k (.str t)):=sf (v:=.str t)
theorem K5{v:V}{t:List Nat}(h:pS v t):pS (rZ ρ v) (ρ.s t):=by
  induction h with
 |str t=>exact .str _
 |int n hn=>rw[show ρ.s [48+n]=[48+n] by show [ρ.f (48+n)]=_;rw[ρ.dg n hn]];exact .int n hn
theorem sB{s:List Nat}{a b:Nat}:((ρ.s s).take a).drop b=ρ.s ((s.take a).drop b):=by
 show((s.map ρ.f).take a).drop b=_
 rw[← List.map_take,← List.map_drop]
theorem Sa{nm:Nm}{x:Nat×List Nat}:ii ρ (nm++[x])=ii ρ nm++[(ρ.r x.1,ρ.s x.2)]:=by
 show List.map _ _=_;rw[dE];rfl
noncomputable def W0(ρ:kU):mu->mu
 |.go c a nm σ ps=>.go (c.map (BB ρ)) a (ii ρ nm) (gq ρ σ) (ps.map λw=>w.map (UN ρ))
 |.no=>.no
theorem sC{kp gB:Nat->Option (List Nat)}(hk:∀ q k,kp q=some k->gB (ρ.r q)=some (ρ.κ k)){s:List Nat}{i:Im}{r:List Im}{a:Nat}{nm:Nm}{σ:Hs}{A:mu}(X:cH kp s i r a nm σ A):cH gB (ρ.s s) (BB ρ i) (r.map (BB ρ)) a (ii ρ nm) (gq ρ σ) (W0 ρ A):=by
  have sl:(ρ.s s).length=s.length:=cn ..
  induction X with
 |Kf h=>exact .Kf ((sA _).trans h)
 |A2 h=>exact .A2 ((sA _).trans h)
 |ca=>exact .ca
 |al=>exact .al
 |rp=>exact .rp
 |lt=>exact .lt
 |nw=>exact .nw
 |wW h=>exact .wW (by rw[sl];exact h)
 |wX h=>exact .wX (by rw[sl];exact h)
 |dT=>exact .dT
 |fail=>exact .fail
 |@cur q k r a nm σ e=>
    have h:=cH.cur (s:=ρ.s s) (a:=a) (nm:=ii ρ nm) (σ:=gq ρ σ) (r:=r.map (BB ρ)) (hk _ _ e)
    rw[BC] at h
    exact h
 |@dU k t r a nm σ h=>
    refine .dU ?_
    have:=K5 (ρ:=ρ) h
    rw[show(gq ρ σ).vals=σ.vals.map λx=>(ρ.κ x.1,rZ ρ x.2) from rfl,uX]
    cases hl:bz _ σ.vals with
   |none=>rw[hl] at this;exact this
   |some v=>rw[hl] at this;exact this
 |@el q b r a nm σ=>rw[show ∀ x y,BB ρ (.el x y)=.el (ρ.r x) y from λ_ _=>rfl];show cH _ _ _ _ _ _ _ (.go _ _ (ii ρ (nm++[_])) _ _);rw[Sa,← sB];exact .el
 |@en q b k r a nm σ e=>
    have h:=cH.en (s:=ρ.s s) (b:=b) (a:=a) (nm:=ii ρ nm) (σ:=gq ρ σ) (r:=r.map (BB ρ)) (hk _ _ e)
    rw[sB,BD] at h
    exact h
 |yx=>exact .yx
 |Kg h=>exact .Kg h
theorem DH{kp gB:Nat->Option (List Nat)}(hk:∀ q k,kp q=some k->gB (ρ.r q)=some (ρ.κ k)){s:List Nat}{c:List Im}{a:Nat}{nm:Nm}{σ τ:Hs}{L:List (Option Wy)}{k k':Nat}{R:Res}(T:Tr kp s c a nm σ L k R τ k'):Tr gB (ρ.s s) (c.map (BB ρ)) a (ii ρ nm) (gq ρ σ) (L.map λw=>w.map (UN ρ)) k (WZ ρ R) (gq ρ τ) k':=by
  induction T with
 |met=>exact .met
 |go X _ ih=>
   rw[dE] at ih
   exact .go (sC hk X) ih
 |pop X _ ih=>rw[dE];exact .pop (sC hk X) ih
 |cz X=>exact .cz (sC hk X)
 |bi X=>rw[dE];exact .bi (sC hk X)
end
section
variable (ρ:kU)
noncomputable def gT:Od->Od
 |.one x=>.one (NS ρ x)
 |.name q=>.name (ρ.r q)
 |.set q=>.set (ρ.r q)
 |.place q=>.place (ρ.r q)
 |.ask k=>.ask (ρ.κ k)
 |x=>x
noncomputable def uY(w:CW):CW:=⟨w.O.map (gT ρ),w.pc,w.a,ii ρ w.nm,w.i8,w.cs.map λx=>(x.1.map (gT ρ),x.2)⟩
noncomputable def UO:mw->mw
 |.go w σ ps=>.go (uY ρ w) (gq ρ σ) (ps.map λw=>w.map (uY ρ))
 |.no=>.no
noncomputable def UP:fe->fe
 |.met w=>.met (uY ρ w)
 |.cz=>.cz
 |.bi=>.bi
variable {ρ}
theorem uZ{w:CW}{od:Od}(h:w.O[w.pc]?=some od):(uY ρ w).O[(uY ρ w).pc]?=some (gT ρ od):=by
 show(w.O.map (gT ρ))[w.pc]?=_;rw[jN,h];rfl
theorem sD{kp gB:Nat->Option (List Nat)}(hk:∀ q k,kp q=some k->gB (ρ.r q)=some (ρ.κ k)){s:List Nat}{od:Od}{w:CW}{σ:Hs}{A:mw}(X:eR kp s od w σ A):eR gB (ρ.s s) (gT ρ od) (uY ρ w) (gq ρ σ) (UO ρ A):=by
  have sl:(ρ.s s).length=s.length:=cn ..
  induction X with
 |w7 h=>exact .w7 ((sA _).trans h)
 |uC h=>exact .uC ((sA _).trans h)
 |@iF w σ h=>
    have h2:=eR.iF (kp:=gB) (s:=ρ.s s) (w:=uY ρ w) (σ:=gq ρ σ) (by rw[sl];exact h)
    rw[sl] at h2
    show eR _ _ _ _ _ (.go _ _ (List.map _ (List.map _ _)))
    rw[List.map_map]
    exact h2
 |split=>exact .split
 |df=>exact .df
 |mark=>exact .mark
 |@name r O pc a nm b mk cs σ=>
    have h:=eR.name (kp:=gB) (s:=ρ.s s) (r:=ρ.r r) (O:=O.map (gT ρ)) (pc:=pc) (a:=a) (nm:=ii ρ nm) (b:=b) (mk:=mk) (cs:=cs.map λx=>(x.1.map (gT ρ),x.2)) (σ:=gq ρ σ)
    rw[sB] at h
    exact h
 |@set r key O pc a nm b mk cs σ e=>
    have h:=eR.set (s:=ρ.s s) (O:=O.map (gT ρ)) (pc:=pc) (a:=a) (nm:=ii ρ nm) (b:=b) (mk:=mk) (cs:=cs.map λx=>(x.1.map (gT ρ),x.2)) (σ:=gq ρ σ) (hk _ _ e)
    rw[sB,BD] at h
    exact h
 |uD h=>exact .uD h
 |ow h=>exact .ow h
 |@place r key w σ e=>
    have h:=eR.place (s:=ρ.s s) (w:=uY ρ w) (σ:=gq ρ σ) (hk _ _ e)
    rw[BC] at h
    exact h
 |@ask k t w σ h=>
    refine .ask ?_
    have:=K5 (ρ:=ρ) h
    rw[show(gq ρ σ).vals=σ.vals.map λx=>(ρ.κ x.1,rZ ρ x.2) from rfl,uX]
    cases hl:bz _ σ.vals with
   |none=>rw[hl] at this;exact this
   |some v=>rw[hl] at this;exact this
 |done=>exact .done
 |fence=>exact .fence
 |fail=>exact .fail
theorem DI{kp gB:Nat->Option (List Nat)}(hk:∀ q k,kp q=some k->gB (ρ.r q)=some (ρ.κ k)){s:List Nat}{w:CW}{σ τ:Hs}{L:List (Option CW)}{k k':Nat}{R:fe}(T:Rn kp s w L σ k R τ k'):Rn gB (ρ.s s) (uY ρ w) (L.map λw=>w.map (uY ρ)) (gq ρ σ) k (UP ρ R) (gq ρ τ) k':=by
  induction T with
 |met h hc=>exact .met (uZ h) (by show List.map _ _=_;rw[hc];rfl)
 |go h X _ ih=>
   rw[dE] at ih
   exact .go (uZ h) (sD hk X) ih
 |pop h X _ ih=>rw[dE];exact .pop (uZ h) (sD hk X) ih
 |cz h X=>exact .cz (uZ h) (sD hk X)
 |bi h X=>rw[dE];exact .bi (uZ h) (sD hk X)
noncomputable def Sb(ρ:kU)(x:Option (Nat×Nat×Nm)):Option (Nat×Nat×Nm):=x.map λz=>(z.1,z.2.1,ii ρ z.2.2)
theorem Sc{kp gB:Nat->Option (List Nat)}(hk:∀ q k,kp q=some k->gB (ρ.r q)=some (ρ.κ k)){s:List Nat}{n:Nd}{c b:Nat}{σ τ:Hs}{k k':Nat}{R:Option (Nat×Nat×Nm)}(T:Mp kp s n c b σ k R τ k'):Mp gB (ρ.s s) (b9 ρ n) c b (gq ρ σ) k (Sb ρ R) (gq ρ τ) k':=by
  induction T with
 |z=>exact .z
 |met T=>exact .met (DH hk T)
 |bi T=>exact .bi (DH hk T)
 |cz T _ ih=>exact .cz (DH hk T) ih
theorem Sd{kp gB:Nat->Option (List Nat)}(hk:∀ q k,kp q=some k->gB (ρ.r q)=some (ρ.κ k)){s:List Nat}{Os:List Od}{c b:Nat}{σ τ:Hs}{k k':Nat}{R:Option (Nat×Nat×Nm)}(T:Mo kp s Os c b σ k R τ k'):Mo gB (ρ.s s) (Os.map (gT ρ)) c b (gq ρ σ) k (Sb ρ R) (gq ρ τ) k':=by
  induction T with
 |z=>exact .z
 |@met c b σ k w τ k' T=>
   have h:=Mo.met (c:=c) (DI hk T)
   rw[show(uY ρ w).nm.reverse=ii ρ w.nm.reverse from vQ.symm] at h
   exact h
 |bi T=>exact .bi (DI hk T)
 |cz T _ ih=>exact .cz (DI hk T) ih
end
section
variable {ρ:kU}
theorem mz:∀ n:Nd,sz (b9 ρ n)=sz n
 |.al a b=>by show sz (b9 ρ a)+sz (b9 ρ b)+1=sz a+sz b+1;rw[mz a,mz b]
 |.ca a b=>by show sz (b9 ρ a)+sz (b9 ρ b)+1=sz a+sz b+1;rw[mz a,mz b]
 |.rp n=>congrArg (· + 1) (mz n)
 |.lt n _=>congrArg (· + 1) (mz n)
 |.nw n _=>congrArg (· + 1) (mz n)
 |.sg _=>rfl
 |.cu=>rfl
 |.dT=>rfl
 |.fail=>rfl
 |.cur _=>rfl
 |.dU _=>rfl
theorem na(k:Bool):∀ n:Nd,aN k (b9 ρ n)=(aN k n).map (b9 ρ)
 |.al a b=>by
  cases k
  ·show aN false (b9 ρ a)++aN false (b9 ρ b)=(aN false a++aN false b).map _
   rw[na false a,na false b,dE]
  ·rfl
 |.ca a b=>by
  cases k
  ·rfl
  ·show aN true (b9 ρ a)++aN true (b9 ρ b)=(aN true a++aN true b).map _
   rw[na true a,na true b,dE]
 |.rp _=>rfl
 |.lt _ _=>rfl
 |.nw _ _=>rfl
 |.sg _=>rfl
 |.cu=>rfl
 |.dT=>rfl
 |.fail=>rfl
 |.cur _=>rfl
 |.dU _=>rfl
theorem Se(r:List Nd)(n:Nd):jR (r.map (b9 ρ)) (b9 ρ n)=(jR r n).map (b9 ρ):=by
  induction n using Nd.casesOn with
 |sg x=>induction x with
   |ch t=>induction t using List.casesOn with
    |nil=>rfl
    |cons c t=>induction r using List.casesOn with
     |nil=>rfl
     |cons z r=>induction z using Nd.casesOn with
      |sg x=>induction x with
       |ch u=>show Nd.sg (.ch (ρ.s u++ρ.s (c::t)))::_=Nd.sg (.ch (ρ.s (u++c::t)))::_;rw[← dE]
       |_=>rfl
      |_=>rfl
   |_=>rfl
 |_=>rfl
theorem BE:∀(l r:List Nd),(l.map (b9 ρ)).foldl jR (r.map (b9 ρ))=(l.foldl jR r).map (b9 ρ)
 |[],r=>rfl
 |n::l,r=>by rw[dD,q8,q8,Se,BE l]
theorem K6(l:List Nd):fF (l.map (b9 ρ))=(fF l).map (b9 ρ):=by
 show((l.map (b9 ρ)).foldl jR (([]:List Nd).map (b9 ρ))).reverse=((l.foldl jR []).reverse).map _
 rw[BE,vQ]
theorem FE{g:Nd->Nat->List Od}(h:∀ n b,g (b9 ρ n) b=(g n b).map (gT ρ)):∀(ps:List Nd)(b:Nat),nr g (ps.map (b9 ρ)) b=(nr g ps b).map (gT ρ)
 |[],b=>rfl
 |n::r,b=>by rw[dD,qW,qW,h,cn,FE h r,dE]
theorem yM{g:Nd->Nat->List Od}(h:∀ n b,g (b9 ρ n) b=(g n b).map (gT ρ))(e:Nat)(z:Nd):∀(ps:List Nd)(b:Nat),iL g e (b9 ρ z) (ps.map (b9 ρ)) b=(iL g e z ps b).map (gT ρ)
 |[],b=>h z b
 |n::r,b=>by rw[dD,jK,jK,h,cn,yM h e z r,dD,dE,dD];rfl
theorem BF:∀(l:List Nd),(l.map (b9 ρ)).getLastD .cu=b9 ρ (l.getLastD .cu)
 |[]=>rfl
 |[x]=>rfl
 |x::y::r=>BF (y::r)
theorem oG:∀(F:Nat)(n:Nd)(b:Nat),cp F (b9 ρ n) b=(cp F n b).map (gT ρ)
 |0,_,_=>rfl
 |F+1,.lt n q,b=>by
  show cp (F+1) (.lt (b9 ρ n) (ρ.r q)) b=_
  rw[xf,xf,oG F n,dD,dE];rfl
 |F+1,.nw n q,b=>by
  show cp (F+1) (.nw (b9 ρ n) (ρ.r q)) b=_
  rw[qX,qX,oG F n,dD,dE];rfl
 |F+1,.rp n,b=>by
  show cp (F+1) (.rp (b9 ρ n)) b=_
  rw[oA,oA,oG F n,cn,dD,dD,dD,dE];rfl
 |F+1,.ca x y,b=>by
  show cp (F+1) (.ca (b9 ρ x) (b9 ρ y)) b=_
  rw[Bx,Bx,show Nd.ca (b9 ρ x) (b9 ρ y)=b9 ρ (.ca x y) from rfl,na,K6,FE (oG F)]
 |F+1,.al x y,b=>by
  show cp (F+1) (.al (b9 ρ x) (b9 ρ y)) b=_
  rw[uQ,uQ,show Nd.al (b9 ρ x) (b9 ρ y)=b9 ρ (.al x y) from rfl,na,BF,← List.map_dropLast,yM (oG F)]
  show(iL (cp F) (b+(iL (cp F) 0 _ _ b).length) _ _ b).map _=(iL (cp F) (b+(iL (cp F) 0 _ _ b).length) _ _ b).map _
  rw[yM (oG F),cn]
 |F+1,.sg _,_=>rfl
 |F+1,.cu,_=>rfl
 |F+1,.dT,_=>rfl
 |F+1,.fail,_=>rfl
 |F+1,.cur _,_=>rfl
 |F+1,.dU _,_=>rfl
theorem UQ(x:Od):isJ (gT ρ x)=isJ x:=by induction x <;> rfl
theorem K7(x:Od):goal (gT ρ x)=goal x:=by induction x <;> rfl
theorem FF{O:List Od}:∀ f g,ko (O.map (gT ρ)) f g=ko O f g
 |0,g=>rfl
 |f+1,g=>by
   rw[ko,ko,jN]
   cases O[g]? with
  |none=>rfl
  |some x=>show(bif isJ (gT ρ x) then ko (O.map (gT ρ)) f (goal (gT ρ x)) else g)=bif isJ x then ko O f (goal x) else g;rw[UQ,K7,FF f]
theorem Sf(fn:Nat->Nat)(x:Od):gA fn (gT ρ x)=gT ρ (gA fn x):=by induction x <;> rfl
theorem HW(n:Nd):ey (b9 ρ n)=(ey n).map (gT ρ):=by
 show cp (sz (b9 ρ n)) (b9 ρ n) 0++[Od.done]=(cp (sz n) n 0++[Od.done]).map _
 rw[mz,oG,dE];rfl
theorem K8(n:Nd):codeS (b9 ρ n)=(codeS n).map (gT ρ):=by
 show(ey (b9 ρ n)).map (gA (BA (ey (b9 ρ n))))=((ey n).map (gA (BA (ey n)))).map _
 rw[HW,show BA ((ey n).map (gT ρ))=BA (ey n) from funext λg=>by show ko _ ((ey n).map (gT ρ)).length.succ g=_;rw[cn];exact FF _ _,List.map_map,List.map_map]
 exact congrArg (λf=>List.map f (ey n)) (funext λx=>Sf _ x)
end
noncomputable def K9(C:(Nat->Nat)->Nat->Nat)(κ:Nat->Nat):Nat->Nat
 |0=>1+κ 0+C (λ_=>1) 0
 |m+1=>1+κ (m+1)+C (λ_=>1+K9 C κ m) (m+1)
noncomputable def yN:Nd->(Nat->Nat)->Nat->Nat
 |.sg _,κ,m=>1+κ m
 |.al a b,κ,m=>1+yN a κ m+yN b κ m
 |.ca a b,κ,m=>1+yN a (yN b κ) m
 |.rp n,κ,m=>K9 (yN n) κ m
 |.lt n _,κ,m=>1+yN n (λj=>1+κ j) m
 |.nw n _,κ,m=>1+yN n (λj=>1+κ j) m
 |.cu,κ,m=>(m+1)*(1+κ m)
 |.dT,κ,m=>1+κ m
 |.fail,_,_=>1
 |.cur _,κ,m=>1+κ m
 |.dU _,κ,m=>2+κ m
noncomputable def Ky(kp:Nat->Option (List Nat)):Nd->Prop
 |.al a b=>Ky kp a/\Ky kp b
 |.ca a b=>Ky kp a/\Ky kp b
 |.rp n=>Ky kp n
 |.lt n q=>Ky kp n/\∃ k,kp q=some k
 |.nw n q=>Ky kp n/\∃ k,kp q=some k
 |.cur q=>∃ k,kp q=some k
 |_=>True
noncomputable def jd(σ:Hs):Prop:=∀ k,∃ t,pS ((bz k σ.vals).getD (.str [])) t
section
variable {kp:Nat->Option (List Nat)}{s:List Nat}{σ τ:Hs}{k k':Nat}{R:Res}
noncomputable def La(kp:Nat->Option (List Nat))(s:List Nat)(σ:Hs)(L:List (Option Wy))(k:Nat)(R:Res)(τ:Hs)(k':Nat):Prop:=
 (L=[]/\R=.cz/\τ=σ/\k'=k)\/(∃ L' w,L=L'++[some w]/\Tr kp s w.c w.a w.nm σ L' k R τ k')\/(∃ L',L=L'++[none]/\R=.bi/\τ=σ/\k'=k)
theorem Tr.no{i:Im}{r:List Im}{a:Nat}{nm:Nm}{L:List (Option Wy)}(X:cH kp s i r a nm σ .no)(F:La kp s σ L (k+1) R τ k'):Tr kp s (i::r) a nm σ L k R τ k':=by
 rcases F with⟨rfl,rfl,rfl,rfl⟩|⟨L',w,rfl,T⟩|⟨L',rfl,rfl,rfl,rfl⟩
 ·exact .cz X
 ·exact .pop X T
 ·exact .bi X
theorem Tr.iA{i:Im}{r c':List Im}{a a':Nat}{nm fQ:Nm}{σ':Hs}{L:List (Option Wy)}(X:cH kp s i r a nm σ (.go c' a' fQ σ' []))(T:Tr kp s c' a' fQ σ' L (k+1) R τ k'):Tr kp s (i::r) a nm σ L k R τ k':=
 .go X (by rw[eU];exact T)
inductive u4(kp:Nat->Option (List Nat))(s:List Nat)(c:List Im)(a:Nat)(nm:Nm)(σ:Hs)(L:List (Option Wy))(k m:Nat):Prop where
 |fin (j:Nat) (R:Res) (τ:Hs) (hj:j<=m) (hR:R≠.cz) (T:Tr kp s c a nm σ L k R τ (k+j)):u4 kp s c a nm σ L k m
 |dZ (j:Nat) (σ':Hs) (hj:j<=m) (hv:jd σ') (T:∀ R τ k',La kp s σ' L (k+j) R τ k'->Tr kp s c a nm σ L k R τ k'):u4 kp s c a nm σ L k m
noncomputable def lD(kp:Nat->Option (List Nat))(s:List Nat)(lo:Nat)(c:List Im)(κ:Nat->Nat):Prop:=∀⦃m a:Nat⦄⦃nm:Nm⦄⦃σ:Hs⦄⦃L:List (Option Wy)⦄⦃k:Nat⦄,lo<=a->a<=s.length->s.length<=a+m->jd σ->u4 kp s c a nm σ L k (κ m)
theorem lD.nil{lo:Nat}:lD kp s lo [] (λ_=>0):=λm a nm σ L k _ _ _ _=>.fin 0 _ _ (aE _) (λh=>by cases h) .met
theorem u4.pre{c c':List Im}{a a' j m m':Nat}{nm fQ:Nm}{σ':Hs}{L:List (Option Wy)}(h:u4 kp s c' a' fQ σ' L (k+j) m)(hm:j+m<=m')(f:∀{R τ k'},Tr kp s c' a' fQ σ' L (k+j) R τ k'->Tr kp s c a nm σ L k R τ k'):u4 kp s c a nm σ L k m':=by
  induction h with
 |fin i R τ hi hR T=>exact .fin (j+i) R τ (by exact nt (aj [_,_,_,_] (.d (.a ab af) aq (.d aA af (.d (.s aq) (.a ab aA) .z))) rfl hm hi)) hR (f (by rw[cb] at T;exact T))
 |dZ i σ' hi hv T=>exact .dZ (j+i) σ' (by exact nt (aj [_,_,_,_] (.d (.a ab af) aq (.d aA af (.d (.s aq) (.a ab aA) .z))) rfl hm hi)) hv λR τ k' F=>f (T R τ k' (by rw[cb];exact F))
theorem u4.two{c c':List Im}{a a' m1 m2 m':Nat}{nm fQ:Nm}{L:List (Option Wy)}{w:Wy}{σ1:Hs}(h:u4 kp s c' a' fQ σ1 (L++[some w]) (k+1) m1)(hw:∀ k σ,jd σ->u4 kp s w.c w.a w.nm σ L k m2)(hm:1+m1+m2<=m')(f:∀{R τ k'},Tr kp s c' a' fQ σ1 (L++[some w]) (k+1) R τ k'->Tr kp s c a nm σ L k R τ k'):u4 kp s c a nm σ L k m':=by
  induction h with
 |fin i R τ hi hR T=>exact .fin (1+i) R τ (by exact nt (aj [_,_,_,_] (.d (.a (.a (.n 1) ab) af) aq (.d aA ab (.d (.s aq) (.a (.n 1) aA) .z))) rfl hm hi)) hR (f (by rw[cb] at T;exact T))
 |dZ i σ' hi hv T=>
   exact(hw (k+(1+i)) σ' hv).pre (j:=1+i) (by exact nt (aj [_,_,_,_] (.d (.a (.a (.n 1) ab) af) aq (.d aA ab (.d (.s aq) (.a (.a (.n 1) aA) af) .z))) rfl hm hi)) λT2=>f (T _ _ _ (.inr (.inl ⟨L,w,rfl,by rw[cb];exact T2⟩)))
end
theorem fJ{b:Bool}{n e:Nat}(h:oN b n=some e):b=true/\n=e:=by
  induction b with
 |false=>exact nn h
 |true=>exact⟨rfl,cj h⟩
theorem BG(t:List Nat)(b:Bool):∀ s:List Nat,j8 t b s<=s.length
 |[]=>aE _
 |c::r=>by
  show(bif t.contains c==b then j8 t b r+1 else 0)<=r.length+1
  cases t.contains c==b
  ·exact cF _
  ·exact lG (BG t b r)
theorem BH{s t:List Nat}{b:Bool}{a:Nat}(h:a<=s.length):gJ s t b a<=s.length:=by
 have:=BG t b (s.drop a)
 rw[rd] at this
 show a+_<=_;omega
theorem Lb{s t:List Nat}{a:Nat}(h:ux s t a=true)(ha:a<=s.length):a+t.length<=s.length:=by
 have h:=congrArg List.length (beq_iff_eq.mp h)
 rw[rd,List.length_take] at h
 omega
theorem yO{s:List Nat}{a e:Nat}{x:Sg}(h:ia s a x=some e)(ha:a<=s.length):a<=e/\e<=s.length:=by
  induction x with
 |ch t=>obtain⟨h1,rfl⟩:=fJ (b:=ux s t a) h;exact⟨dq _ _,Lb h1 ha⟩
 |len n=>obtain⟨h1,rfl⟩:=fJ (b:=decide (a+n<=s.length)) h;exact⟨dq _ _,of_decide_eq_true h1⟩
 |pos n=>obtain⟨_,rfl⟩:=fJ (b:=decide (a=n)) h;exact⟨aE _,ha⟩
 |gH n=>obtain⟨_,rfl⟩:=fJ (b:=decide (s.length=a+n)) h;exact⟨aE _,ha⟩
 |tab n=>
    obtain⟨h1,rfl⟩:=fJ (b:=decide (a<=n)&&decide (n<=s.length)) h
    have:=nz.mp h1
    exact⟨of_decide_eq_true this.1,of_decide_eq_true this.2⟩
 |gI n=>obtain⟨h1,rfl⟩:=fJ (b:=decide (a+n<=s.length)) h;have:=of_decide_eq_true h1;exact⟨by omega,by omega⟩
 |any t=>
    have h:(match s[a]? with|some c=>oN (t.contains c) (a+1)|none=>none)=some e:=h
    cases hc:s[a]? with
   |none=>rw[hc] at h;exact nn h
   |some c=>rw[hc] at h;obtain⟨_,rfl⟩:=fJ (b:=t.contains c) h;exact⟨fA _,(eS.mp hc).1⟩
 |fc t=>
    have h:(match s[a]? with|some c=>oN (!(t.contains c)) (a+1)|none=>none)=some e:=h
    cases hc:s[a]? with
   |none=>rw[hc] at h;exact nn h
   |some c=>rw[hc] at h;obtain⟨_,rfl⟩:=fJ (b:=!(t.contains c)) h;exact⟨fA _,(eS.mp hc).1⟩
 |span t=>obtain⟨h1,rfl⟩:=fJ (b:=decide (a<gJ s t true a)) h;exact⟨dq _ _,BH ha⟩
 |brk t=>obtain⟨h1,rfl⟩:=fJ (b:=decide (gJ s t false a<s.length)) h;exact⟨dq _ _,BH ha⟩
 |rem=>cases h;exact⟨ha,aE _⟩
theorem xh{k j:List Nat}{v:V}:∀ es:List (List Nat×V),bz j (dF k v es)=if k==j then some v else bz j es
 |[]=>rfl
 |(i,u)::r=>by
  have e:dF k v ((i,u)::r)=if i==k then(i,v)::r else(i,u)::dF k v r:=rfl
  rw[e]
  by_cases h:(i==k)=true
  ·rw[if_pos h]
   cases beq_iff_eq.mp h
   rw[eM,eM]
   cases hb:k==j <;> rfl
  ·rw[if_neg h,eM,eM,xh r]
   by_cases h2:(i==j)=true
   ·rw[if_pos h2,if_pos h2]
    have:(k==j)=false:=by
     cases beq_iff_eq.mp h2
     rw[beq_eq_false_iff_ne];intro h3;exact h (beq_iff_eq.mpr h3.symm)
    rw[this];rfl
   ·rw[if_neg h2,if_neg h2]
theorem jd.put{σ:Hs}(h:jd σ){k:List Nat}{v:V}{t:List Nat}(hv:pS v t):jd (iE σ k v):=λj=>by
  show ∃ t,pS ((bz j (dF k v σ.vals)).getD (.str [])) t
  rw[xh]
  cases k==j with
 |true=>exact⟨t,hv⟩
 |false=>exact h j
section
variable {kp:Nat->Option (List Nat)}{s:List Nat}{r:List Im}{κ:Nat->Nat}{lo:Nat}
theorem Si{q b:Nat}(h:lD kp s lo r κ):lD kp s lo (.el q b::r) (λj=>1+κ j):=λm a nm σ L k bQ ha hm hv=>
 (h bQ ha hm hv (nm:=nm++[(q,(s.take a).drop b)]) (L:=L) (k:=k+1)).pre (aE _) λT=>Tr.iA .el T
theorem Sj{q b:Nat}{key:List Nat}(hq:kp q=some key)(h:lD kp s lo r κ):lD kp s lo (.en q b::r) (λj=>1+κ j):=λm a nm σ L k bQ ha hm hv=>
 (h bQ ha hm (hv.put (.str _)) (nm:=nm) (L:=L) (k:=k+1)).pre (aE _) λT=>Tr.iA (.en hq) T
theorem Ld{x:Sg}(h:lD kp s lo r κ):lD kp s lo (.nd (.sg x)::r) (λj=>1+κ j):=λm a nm σ L k bQ ha hm hv=>by
  cases he:ia s a x with
 |none=>exact .dZ 1 σ (dq _ _) hv λR τ k' F=>Tr.no (.A2 he) F
 |some e=>
   have:=yO he ha
   exact(h (bv bQ this.1) this.2 (by exact nt (aj [_,_,_,_] (.d ab (.a af aq) (.d af aA (.d (.s (.a aA aq)) ab .z))) rfl hm this.1)) hv (nm:=nm) (L:=L) (k:=k+1)).pre (aE _) λT=>Tr.iA (.Kf he) T
theorem NV(h:lD kp s lo r κ):∀(m a:Nat)(c:Nat)(nm:Nm)(σ:Hs)(L:List (Option Wy))(k:Nat),lo<=a->a<=s.length->s.length<=a+c->c<=m->jd σ->u4 kp s (.nd .cu::r) a nm σ L k ((c+1)*(1+κ m)):=by
  intro m a c
  induction c generalizing a with
 |zero=>
   intro nm σ L k bQ ha hc hm hv
   exact(h (m:=m) bQ ha (by exact nt (aj [_,_,_] (.d ab (.a af (.n 0)) (.d (.s (.a af aq)) ab .z)) rfl hc)) hv (nm:=nm) (L:=L) (k:=k+1)).pre (by omega) λT=>Tr.iA (.wX (by exact aj [_,_] (.d ab (.a af (.n 0)) (.d (.s af) ab .z)) rfl hc)) T
 |succ c ih=>
   intro nm σ L k bQ ha hc hm hv
   by_cases hl:a<s.length
   ·exact(h (m:=m) bQ ha (by exact nt (aj [_,_,_,_] (.d ab (.a af (.s aq)) (.d (.s aq) aA (.d (.s (.a af aA)) ab .z))) rfl hc hm)) hv (nm:=nm) (L:=L++[some ⟨.nd .cu::r,a+1,nm⟩]) (k:=k+1)).two (λk σ hv=>ih (a+1) nm σ L k (eD bQ) hl (by exact nt (aj [_,_,_] (.d ab (.a af (.s aq)) (.d (.s (.a (.s af) aq)) ab .z)) rfl hc)) (by exact nt (aj [_,_] (.d (.s ab) af (.d (.s af) ab .z)) rfl hm)) hv) (by rw[Nat.add_mul (c+1) 1];exact nt (aj [_,_] (.d (.s (.a ab (.m 1 (.a (.n 1) af)))) (.a (.a (.n 1) af) ab) .z) rfl)) λT=>.go (.wW hl) T
   ·exact(h (m:=m) bQ ha (by exact nt (aj [_,_,_,_] (.d (.s ab) af (.d aq aA (.d (.s (.a aA af)) aq .z))) rfl hm (eK.mp hl))) hv (nm:=nm) (L:=L) (k:=k+1)).pre (by rw[Nat.add_mul (c+1) 1];exact nt (aj [_,_] (.d (.s (.a ab (.m 1 (.a (.n 1) af)))) (.a (.n 1) af) .z) rfl)) λT=>Tr.iA (.wX hl) T
theorem Sk{x:Nd}{C:(Nat->Nat)->Nat->Nat}(hx:∀{lo r κ},lD kp s lo r κ->lD kp s lo (.nd x::r) (C κ))(h:lD kp s lo r κ):lD kp s lo (.nd (.rp x)::r) (K9 C κ):=by
  intro m
  induction m with
 |zero=>
   intro a nm σ L k bQ ha hm hv
   have hb:lD kp s a (.er x a::r) (λ_=>1):=λm' a' fQ σ' L' k' h1 CU W1 nf=>by
    have:a'=a:=by exact k8 (nt (aj [_,_,_] (.d ab (.a af (.n 0)) (.d aq ab (.d (.s af) aq .z))) rfl hm CU)) (nt (aj [_,_] (.d ab af (.d (.s af) ab .z)) rfl h1))
    subst this
    exact .dZ 1 σ' (aE _) nf λR τ k' F=>Tr.no .yx F
   exact(h (m:=0) bQ ha hm hv (nm:=nm) (L:=L++[some ⟨.nd x::.er x a::r,a,nm⟩]) (k:=k+1)).two (λk σ hv=>hx hb (m:=0) (aE _) ha hm hv) (aE _) λT=>.go .rp T
 |succ m ih=>
   intro a nm σ L k bQ ha hm hv
   have hb:lD kp s a (.er x a::r) (λ_=>1+K9 C κ m):=λm' a' fQ σ' L' k' h1 CU W1 nf=>by
    by_cases he:a'=a
    ·subst he
     exact .dZ 1 σ' (dq _ _) nf λR τ k' F=>Tr.no .yx F
    ·exact(ih (a:=a') (nm:=fQ) (σ:=σ') (L:=L') (k:=k'+1) (by exact nt (aj [_,_,_] (.d ab af (.d af aq (.d (.s aq) ab .z))) rfl bQ h1)) CU (by omega) nf).pre (aE _) λT=>Tr.iA (.Kg λe=>he e.symm) T
   exact(h (m:=m+1) bQ ha hm hv (nm:=nm) (L:=L++[some ⟨.nd x::.er x a::r,a,nm⟩]) (k:=k+1)).two (λk σ hv=>hx hb (m:=m+1) (aE _) ha hm hv) (aE _) λT=>.go .rp T
end
section
variable {kp:Nat->Option (List Nat)}{s:List Nat}
theorem ij(hs:s.length<10):∀ n:Nd,Ky kp n->∀⦃lo:Nat⦄⦃r:List Im⦄⦃κ:Nat->Nat⦄,lD kp s lo r κ->lD kp s lo (.nd n::r) (yN n κ)
 |.sg x,_,_,_,_,h=>Ld h
 |.al x y,hk,lo,r,κ,h=>λm a nm σ L k bQ ha hm hv=>
   (ij hs x hk.1 h bQ ha hm hv (nm:=nm) (L:=L++[some ⟨.nd y::r,a,nm⟩]) (k:=k+1)).two (λk σ hv=>ij hs y hk.2 h (m:=m) bQ ha hm hv) (aE _) λT=>.go .al T
 |.ca x y,hk,lo,r,κ,h=>λm a nm σ L k bQ ha hm hv=>
   (ij hs x hk.1 (ij hs y hk.2 h) bQ ha hm hv (nm:=nm) (L:=L) (k:=k+1)).pre (aE _) λT=>Tr.iA .ca T
 |.rp x,hk,lo,r,κ,h=>Sk (λh=>ij hs x hk h) h
 |.lt x q,hk,lo,r,κ,h=>λm a nm σ L k bQ ha hm hv=>
   (ij hs x hk.1 (Si (q:=q) (b:=a) h) bQ ha hm hv (nm:=nm) (L:=L) (k:=k+1)).pre (aE _) λT=>Tr.iA .lt T
 |.nw x q,hk,lo,r,κ,h=>λm a nm σ L k bQ ha hm hv=>by
   obtain⟨key,hq⟩:=hk.2
   exact(ij hs x hk.1 (Sj (b:=a) hq h) bQ ha hm hv (nm:=nm) (L:=L) (k:=k+1)).pre (aE _) λT=>Tr.iA .nw T
 |.cu,_,lo,r,κ,h=>λm a nm σ L k bQ ha hm hv=>NV h m a m nm σ L k bQ ha hm (aE _) hv
 |.dT,_,lo,r,κ,h=>λm a nm σ L k bQ ha hm hv=>by
   cases h bQ ha hm hv (nm:=nm) (L:=L++[none]) (k:=k+1) with
  |fin i R τ hi hR T=>exact .fin (1+i) R τ (by show _<=1+κ m;exact nt (aj [_,_] (.d ab af (.d (.s (.a (.n 1) af)) (.a (.n 1) ab) .z)) rfl hi)) hR (.go .dT (by rw[← cb];exact T))
  |dZ i σ' hi hv T=>exact .fin (1+i) .bi σ' (by show _<=1+κ m;exact nt (aj [_,_] (.d ab af (.d (.s (.a (.n 1) af)) (.a (.n 1) ab) .z)) rfl hi)) (λh=>by cases h) (.go .dT (T _ _ _ (.inr (.inr ⟨L,rfl,rfl,rfl,(cb ..).symm⟩))))
 |.fail,_,lo,r,κ,h=>λm a nm σ L k bQ ha hm hv=>.dZ 1 σ (aE _) hv λR τ k' F=>Tr.no .fail F
 |.cur q,hk,lo,r,κ,h=>λm a nm σ L k bQ ha hm hv=>by
   obtain⟨key,hq⟩:=hk
   exact(h bQ ha hm (hv.put (.int a (by exact nl (aj [_,_] (.d (.s ab) (.n 10) (.d af ab (.d (.n 10) af .z))) rfl hs ha)))) (nm:=nm) (L:=L) (k:=k+1)).pre (aE _) λT=>Tr.iA (.cur hq) T
 |.dU key,_,lo,r,κ,h=>λm a nm σ L k bQ ha hm hv=>by
   obtain⟨t,ht⟩:=hv key
   exact(Ld (x:=.ch t) h bQ ha hm hv (nm:=nm) (L:=L) (k:=k+1)).pre (by show 1+(1+κ m)<=2+κ m;exact nt (aj [_] (.d (.s (.a (.n 2) ab)) (.a (.n 1) (.a (.n 1) ab)) .z) rfl)) λT=>Tr.iA (.dU ht) T
end
set_option genCtorIdx false in
inductive Sh where
 |le|ca (a b:Sh)|al (a b:Sh)|rp (a:Sh)|lt (a:Sh)
noncomputable def vL(C:(Nat->Nat)->Nat->Nat)(κ:Nat->Nat):Nat->Nat
 |0=>4+κ 0+C (λ_=>1) 0
 |m+1=>4+κ (m+1)+C (λ_=>2+vL C κ m) (m+1)
noncomputable def qf:Sh->(Nat->Nat)->Nat->Nat
 |.le,κ,m=>(m+1)*(4+κ m)
 |.ca a b,κ,m=>1+qf a (qf b κ) m
 |.al a b,κ,m=>3+qf a κ m+qf b κ m
 |.rp a,κ,m=>vL (qf a) κ m
 |.lt a,κ,m=>2+qf a (λj=>2+κ j) m
noncomputable def cO:Nd->Sh
 |.ca a b=>.ca (cO a) (cO b)
 |.al a b=>.al (cO a) (cO b)
 |.rp n=>.rp (cO n)
 |.lt n _=>.lt (cO n)
 |.nw n _=>.lt (cO n)
 |_=>.le
noncomputable def eP(C:(Nat->Nat)->Nat->Nat):Prop:=∀ κ κ':Nat->Nat,(∀ j,κ j<=κ' j)->∀ m,C κ m<=C κ' m
theorem HY{C:(Nat->Nat)->Nat->Nat}(h:eP C):eP (vL C):=λκ κ' hk m=>by
  induction m with
 |zero=>exact gC (lL (hk 0) 4) (aE _)
 |succ m ih=>exact gC (lL (hk _) 4) (h _ _ (λ_=>lL ih 2) _)
theorem fZ:∀ x:Sh,eP (qf x)
 |.le,κ,κ',h,m=>Nat.mul_le_mul_left _ (lL (h m) 4)
 |.ca a b,κ,κ',h,m=>lL (fZ a _ _ (fZ b κ κ' h) m) 1
 |.al a b,κ,κ',h,m=>gC (lL (fZ a κ κ' h m) 3) (fZ b κ κ' h m)
 |.rp a,κ,κ',h,m=>HY (fZ a) κ κ' h m
 |.lt a,κ,κ',h,m=>lL (fZ a _ _ (λj=>lL (h j) 2) m) 2
noncomputable def Sm(C D:(Nat->Nat)->Nat->Nat):Prop:=∀ κ κ':Nat->Nat,(∀ j,κ j<=κ' j)->∀ m,C κ m<=D κ' m
theorem Sn{C D:(Nat->Nat)->Nat->Nat}(h:Sm C D):Sm (K9 C) (vL D):=λκ κ' hk m=>by
  induction m with
 |zero=>exact gC (gC (by decide) (hk 0)) (h _ _ (λ_=>aE _) _)
 |succ m ih=>exact gC (gC (by decide) (hk _)) (h _ _ (λ_=>gC (by decide) ih) _)
theorem gu{a b m:Nat}(h:a<=b):4+a<=(m+1)*(4+b):=by
 have:1*(4+b)<=(m+1)*(4+b):=yZ _ (by exact nt (aj [_] (.d (.s (.s ab)) (.n 1) .z) rfl))
 exact nt (aj [_,_,_] (.d ab af (.d (.m 1 (.a (.n 4) af)) aq (.d (.s aq) (.a (.n 4) ab) .z))) rfl h this)
theorem jy:∀ n:Nd,Sm (yN n) (qf (cO n))
 |.al a b,κ,κ',h,m=>gC (gC (by decide) (jy a κ κ' h m)) (jy b κ κ' h m)
 |.ca a b,κ,κ',h,m=>lL (jy a _ _ (jy b κ κ' h) m) 1
 |.rp n,κ,κ',h,m=>Sn (jy n) κ κ' h m
 |.lt n _,κ,κ',h,m=>gC (by decide) (jy n _ _ (λj=>gC (by decide) (h j)) m)
 |.nw n _,κ,κ',h,m=>gC (by decide) (jy n _ _ (λj=>gC (by decide) (h j)) m)
 |.sg _,κ,κ',h,m=>bv (by show 1+κ m<=4+κ m;exact nt (aj [_] (.d (.s (.a (.n 4) ab)) (.a (.n 1) ab) .z) rfl)) (gu (h m))
 |.cu,κ,κ',h,m=>Nat.mul_le_mul_left _ (gC (by decide) (h m))
 |.dT,κ,κ',h,m=>bv (by show 1+κ m<=4+κ m;exact nt (aj [_] (.d (.s (.a (.n 4) ab)) (.a (.n 1) ab) .z) rfl)) (gu (h m))
 |.fail,κ,κ',h,m=>bv (by show 1<=4+κ m;exact nt (aj [_] (.d (.s (.a (.n 4) ab)) (.n 1) .z) rfl)) (gu (h m))
 |.cur _,κ,κ',h,m=>bv (by show 1+κ m<=4+κ m;exact nt (aj [_] (.d (.s (.a (.n 4) ab)) (.a (.n 1) ab) .z) rfl)) (gu (h m))
 |.dU _,κ,κ',h,m=>bv (by show 2+κ m<=4+κ m;exact nt (aj [_] (.d (.s (.a (.n 4) ab)) (.a (.n 2) ab) .z) rfl)) (gu (h m))
section
variable {kp:Nat->Option (List Nat)}{s:List Nat}{σ τ:Hs}{k k':Nat}
noncomputable def DJ(kp:Nat->Option (List Nat))(s:List Nat)(σ:Hs)(L:List (Option CW))(k:Nat)(R:fe)(τ:Hs)(k':Nat):Prop:=
 (L=[]/\R=.cz/\τ=σ/\k'=k)\/(∃ L' w,L=L'++[some w]/\Rn kp s w L' σ k R τ k')\/(∃ L',L=L'++[none]/\R=.bi/\τ=σ/\k'=k)
theorem Rn.no{w:CW}{od:Od}{L:List (Option CW)}{R:fe}(h:w.O[w.pc]?=some od)(X:eR kp s od w σ .no)(F:DJ kp s σ L (k+1) R τ k'):Rn kp s w L σ k R τ k':=by
 rcases F with⟨rfl,rfl,rfl,rfl⟩|⟨L',w,rfl,T⟩|⟨L',rfl,rfl,rfl,rfl⟩
 ·exact .cz h X
 ·exact .pop h X T
 ·exact .bi h X
theorem Rn.iA{w w':CW}{od:Od}{σ':Hs}{L:List (Option CW)}{R:fe}(h:w.O[w.pc]?=some od)(X:eR kp s od w σ (.go w' σ' []))(T:Rn kp s w' L σ' (k+1) R τ k'):Rn kp s w L σ k R τ k':=
 .go h X (by rw[eU];exact T)
inductive nv(kp:Nat->Option (List Nat))(s:List Nat)(w:CW)(L:List (Option CW))(σ:Hs)(k m:Nat):Prop where
 |fin (j:Nat) (R:fe) (τ:Hs) (hj:j<=m) (hR:R≠.cz) (T:Rn kp s w L σ k R τ (k+j)):nv kp s w L σ k m
 |dZ (j:Nat) (σ':Hs) (hj:j<=m) (hv:jd σ') (T:∀ R τ k',DJ kp s σ' L (k+j) R τ k'->Rn kp s w L σ k R τ k'):nv kp s w L σ k m
theorem nv.pre{w w':CW}{j m m':Nat}{σ':Hs}{L:List (Option CW)}(h:nv kp s w' L σ' (k+j) m)(hm:j+m<=m')(f:∀{R τ k'},Rn kp s w' L σ' (k+j) R τ k'->Rn kp s w L σ k R τ k'):nv kp s w L σ k m':=by
  induction h with
 |fin i R τ hi hR T=>exact .fin (j+i) R τ (by exact nt (aj [_,_,_,_] (.d (.a ab af) aq (.d aA af (.d (.s aq) (.a ab aA) .z))) rfl hm hi)) hR (f (by rw[cb] at T;exact T))
 |dZ i σ' hi hv T=>exact .dZ (j+i) σ' (by exact nt (aj [_,_,_,_] (.d (.a ab af) aq (.d aA af (.d (.s aq) (.a ab aA) .z))) rfl hm hi)) hv λR τ k' F=>f (T R τ k' (by rw[cb];exact F))
theorem nv.two{w w' w2:CW}{m1 m2 m':Nat}{L:List (Option CW)}{σ1:Hs}(h:nv kp s w' (L++[some w2]) σ1 (k+1) m1)(hw:∀ k σ,jd σ->nv kp s w2 L σ k m2)(hm:1+m1+m2<=m')(f:∀{R τ k'},Rn kp s w' (L++[some w2]) σ1 (k+1) R τ k'->Rn kp s w L σ k R τ k'):nv kp s w L σ k m':=by
  induction h with
 |fin i R τ hi hR T=>exact .fin (1+i) R τ (by exact nt (aj [_,_,_,_] (.d (.a (.a (.n 1) ab) af) aq (.d aA ab (.d (.s aq) (.a (.n 1) aA) .z))) rfl hm hi)) hR (f (by rw[cb] at T;exact T))
 |dZ i σ' hi hv T=>
   exact(hw (k+(1+i)) σ' hv).pre (j:=1+i) (by exact nt (aj [_,_,_,_] (.d (.a (.a (.n 1) ab) af) aq (.d aA ab (.d (.s aq) (.a (.a (.n 1) aA) af) .z))) rfl hm hi)) λT2=>f (T _ _ _ (.inr (.inl ⟨L,w2,rfl,by rw[cb];exact T2⟩)))
theorem nv.le{w:CW}{L:List (Option CW)}{m m':Nat}(h:nv kp s w L σ k m)(hm:m<=m'):nv kp s w L σ k m':=by
  induction h with
 |fin i R τ hi hR T=>exact .fin i R τ (bv hi hm) hR T
 |dZ i σ' hi hv T=>exact .dZ i σ' (bv hi hm) hv T
variable (kp s) in
noncomputable def At(S:List Od)(lo:Nat)(mk:List Nat)(pc:Nat)(κ:Nat->Nat):Prop:=∀⦃m a:Nat⦄⦃nm:Nm⦄⦃σ:Hs⦄⦃L:List (Option CW)⦄⦃k:Nat⦄,lo<=a->a<=s.length->s.length<=a+m->jd σ->nv kp s ⟨S,pc,a,nm,mk,[]⟩ L σ k (κ m)
theorem At.le{S:List Od}{lo pc:Nat}{mk:List Nat}{κ κ':Nat->Nat}(h:At kp s S lo mk pc κ)(hk:∀ j,κ j<=κ' j):At kp s S lo mk pc κ':=λm a nm σ L k h1 h2 h3 h4=>(h h1 h2 h3 h4).le (hk m)
theorem At.lo{S:List Od}{lo uz pc:Nat}{mk:List Nat}{κ:Nat->Nat}(h:At kp s S lo mk pc κ)(hl:lo<=uz):At kp s S uz mk pc κ:=λm a nm σ L k h1 h2 h3 h4=>h (bv hl h1) h2 h3 h4
variable (kp s) in
structure K2(S:List Od)(fn:Nat->Nat)(lo:Nat)(mk:List Nat)(e:Nat)(κ:Nat->Nat):Prop where
 f:At kp s S lo mk (fn e) κ
 e:At kp s S lo mk e (λj=>1+κ j)
theorem K2.le{S:List Od}{fn:Nat->Nat}{lo e:Nat}{mk:List Nat}{κ κ':Nat->Nat}(h:K2 kp s S fn lo mk e κ)(hk:∀ j,κ j<=κ' j):K2 kp s S fn lo mk e κ':=⟨h.f.le hk,h.e.le λj=>lL (hk j) 1⟩
theorem K2.lo{S:List Od}{fn:Nat->Nat}{lo uz e:Nat}{mk:List Nat}{κ:Nat->Nat}(h:K2 kp s S fn lo mk e κ)(hl:lo<=uz):K2 kp s S fn uz mk e κ:=⟨h.f.lo hl,h.e.lo hl⟩
theorem K2.of{S:List Od}{fn:Nat->Nat}{lo e:Nat}{mk:List Nat}{κ:Nat->Nat}(h:At kp s S lo mk e κ)(hf:fn e=e):K2 kp s S fn lo mk e κ:=⟨by rw[hf];exact h,h.le λj=>eL _ _⟩
end
section
variable {kp:Nat->Option (List Nat)}{s:List Nat}{S:List Od}{lo pc g q:Nat}{mk:List Nat}{κ κ2:Nat->Nat}{key:List Nat}
theorem NW{x:Sg}(h:S[pc]?=some (.one x))(c:At kp s S lo mk (pc+1) κ):At kp s S lo mk pc (λj=>1+κ j):=λm a nm σ L k bQ ha hm hv=>by
  cases he:ia s a x with
 |none=>exact .dZ 1 σ (dq _ _) hv λR τ k' F=>Rn.no h (.uC he) F
 |some e=>
   have:=yO he ha
   exact(c (bv bQ this.1) this.2 (by exact nt (aj [_,_,_,_] (.d ab (.a af aq) (.d af aA (.d (.s (.a aA aq)) ab .z))) rfl hm this.1)) hv).pre (j:=1) (aE _) λT=>Rn.iA h (.w7 he) T
theorem BI(h:S[pc]?=some (.df g))(c:At kp s S lo mk g κ):At kp s S lo mk pc (λj=>1+κ j):=λm a nm σ L k bQ ha hm hv=>
 (c bQ ha hm hv).pre (j:=1) (aE _) λT=>Rn.iA h .df T
theorem HZ(h:S[pc]?=some (.split g))(c:At kp s S lo mk (pc+1) κ)(c2:At kp s S lo mk g κ2):At kp s S lo mk pc (λj=>1+κ j+κ2 j):=λm a nm σ L k bQ ha hm hv=>
 (c bQ ha hm hv).two (λk σ hv=>c2 bQ ha hm hv) (aE _) λT=>Rn.go h .split T
theorem u5(h:S[pc]?=some .mark)(c:∀ a,lo<=a->At kp s S a (a::mk) (pc+1) κ):At kp s S lo mk pc (λj=>1+κ j):=λm a nm σ L k bQ ha hm hv=>
 (c a bQ (aE _) ha hm hv).pre (j:=1) (aE _) λT=>Rn.iA h .mark T
theorem Le{b:Nat}(h:S[pc]?=some (.name q))(c:At kp s S lo mk (pc+1) κ):At kp s S lo (b::mk) pc (λj=>1+κ j):=λm a nm σ L k bQ ha hm hv=>
 (c bQ ha hm hv).pre (j:=1) (aE _) λT=>Rn.iA h .name T
theorem NX{b:Nat}(hq:kp q=some key)(h:S[pc]?=some (.set q))(c:At kp s S lo mk (pc+1) κ):At kp s S lo (b::mk) pc (λj=>1+κ j):=λm a nm σ L k bQ ha hm hv=>
 (c bQ ha hm (hv.put (.str _))).pre (j:=1) (aE _) λT=>Rn.iA h (.set hq) T
theorem Ia(hs:s.length<10)(hq:kp q=some key)(h:S[pc]?=some (.place q))(c:At kp s S lo mk (pc+1) κ):At kp s S lo mk pc (λj=>1+κ j):=λm a nm σ L k bQ ha hm hv=>
 (c bQ ha hm (hv.put (.int a (by exact nl (aj [_,_] (.d (.s ab) (.n 10) (.d af ab (.d (.n 10) af .z))) rfl hs ha))))).pre (j:=1) (aE _) λT=>Rn.iA h (.place hq) T
theorem Lf(h:S[pc]?=some .fail):At kp s S lo mk pc (λ_=>1):=λm a nm σ L k bQ ha hm hv=>.dZ 1 σ (aE _) hv λR τ k' F=>Rn.no h .fail F
theorem Ib(h:S[pc]?=some .fence)(c:At kp s S lo mk (pc+1) κ):At kp s S lo mk pc (λj=>1+κ j):=λm a nm σ L k bQ ha hm hv=>by
  cases c bQ ha hm hv (nm:=nm) (L:=L++[none]) (k:=k+1) with
 |fin i R τ hi hR T=>exact .fin (1+i) R τ (by show _<=1+κ m;exact nt (aj [_,_] (.d ab af (.d (.s (.a (.n 1) af)) (.a (.n 1) ab) .z)) rfl hi)) hR (.go h .fence (by rw[← cb];exact T))
 |dZ i σ' hi hv T=>exact .fin (1+i) .bi σ' (by show _<=1+κ m;exact nt (aj [_,_] (.d ab af (.d (.s (.a (.n 1) af)) (.a (.n 1) ab) .z)) rfl hi)) (λh=>by cases h) (.go h .fence (T _ _ _ (.inr (.inr ⟨L,rfl,rfl,rfl,(cb ..).symm⟩))))
theorem NY(h:S[pc]?=some (.ask key))(c:At kp s S lo mk (pc+1) κ):At kp s S lo mk pc (λj=>3+κ j):=λm a nm σ L k bQ ha hm hv=>by
  obtain⟨t,ht⟩:=hv key
  cases he:ia s a (.ch t) with
 |none=>exact .dZ 2 σ (by show 2<=3+_;exact nt (aj [_] (.d (.s (.a (.n 3) ab)) (.n 2) .z) rfl)) hv λR τ k' F=>Rn.iA h (.ask ht) (Rn.no (w:=⟨[.one (.ch t),.done],0,a,nm,mk,[(S,pc+1)]⟩) rfl (.uC he) F)
 |some e=>
   have:=yO he ha
   exact(c (bv bQ this.1) this.2 (by exact nt (aj [_,_,_,_] (.d ab (.a af aq) (.d af aA (.d (.s (.a aA aq)) ab .z))) rfl hm this.1)) hv).pre (j:=3) (aE _) λT=>Rn.iA h (.ask ht) (Rn.iA (w:=⟨[.one (.ch t),.done],0,a,nm,mk,[(S,pc+1)]⟩) rfl (.w7 he) (Rn.iA rfl .done T))
inductive NZ(kp:Nat->Option (List Nat))(s:List Nat)(L:List (Option CW))(P:fe->Hs->Nat->Prop)(k m:Nat):Prop where
 |fin (j:Nat) (R:fe) (τ:Hs) (hj:j<=m) (hR:R≠.cz) (T:P R τ (k+j)):NZ kp s L P k m
 |dZ (j:Nat) (σ':Hs) (hj:j<=m) (hv:jd σ') (T:∀ R τ k',DJ kp s σ' L (k+j) R τ k'->P R τ k'):NZ kp s L P k m
theorem Lg(c:At kp s S lo mk pc κ){m:Nat}{nm:Nm}{L:List (Option CW)}:∀(n a:Nat)(σ:Hs)(k:Nat),lo<=a->a+n=s.length->s.length<=a+m->jd σ ->
   NZ kp s L (λR τ k'=>Rn kp s ⟨S,pc,a,nm,mk,[]⟩ (L++((List.range' (a+1) n).reverse.map λe=>some ⟨S,pc,e,nm,mk,[]⟩)) σ k R τ k') k ((n+1)*κ m)
 |0,a,σ,k,bQ,hn,hm,hv=>by
   have hc:=c bQ (by exact nt (aj [_,_] (.d (.a ab (.n 0)) af (.d (.s af) ab .z)) rfl (bx hn))) hm hv (nm:=nm) (L:=L) (k:=k)
   rw[show(0+1)*κ m=κ m by omega]
   show NZ kp s L (λR τ k'=>Rn kp s _ (L++[]) σ k R τ k') k _
   rw[eU]
   induction hc with
  |fin i R τ hi hR T=>exact .fin i R τ hi hR T
  |dZ i σ' hi hv T=>exact .dZ i σ' hi hv T
 |n+1,a,σ,k,bQ,hn,hm,hv=>by
   rw[List.range'_succ,gb,dE,← cG,Nat.add_mul (n+1) 1,Nat.one_mul]
   have hc:=c bQ (by exact nt (aj [_,_,_] (.d (.a ab (.s af)) aq (.d (.s aq) ab .z)) rfl (bx hn))) hm hv (nm:=nm) (L:=L++((List.range' (a+1+1) n).reverse.map λe=>some (CW.mk S pc e nm mk []))++[some ⟨S,pc,a+1,nm,mk,[]⟩]) (k:=k)
   induction hc with
  |fin i R τ hi hR T=>exact .fin i R τ (by exact nt (aj [_,_,_] (.d ab af (.d (.s (.a aq af)) ab .z)) rfl hi)) hR T
  |dZ i σ' hi hv T=>
     cases Lg c (m:=m) (nm:=nm) (L:=L) n (a+1) σ' (k+i) (by exact nt (aj [_,_] (.d ab af (.d (.s (.s af)) ab .z)) rfl bQ)) (by exact k8 (nt (aj [_,_,_] (.d (.a ab (.s af)) aq (.d (.s aq) (.a (.s ab) af) .z)) rfl (bx hn))) (nt (aj [_,_,_] (.d ab (.a af (.s aq)) (.d (.s (.a (.s af) aq)) ab .z)) rfl (bx (cP hn))))) (by exact nt (aj [_,_,_] (.d ab (.a af aq) (.d (.s (.a (.s af) aq)) ab .z)) rfl hm)) hv with
    |fin j R τ hj hR T2=>exact .fin (i+j) R τ (by exact nt (aj [_,_,_,_] (.d ab af (.d aq aA (.d (.s (.a aA af)) (.a ab aq) .z))) rfl hi hj)) hR (T _ _ _ (.inr (.inl ⟨_,_,rfl,by rw[← cb];exact T2⟩)))
    |dZ j σ2 hj hv T2=>exact .dZ (i+j) σ2 (by exact nt (aj [_,_,_,_] (.d ab af (.d aq aA (.d (.s (.a aA af)) (.a ab aq) .z))) rfl hi hj)) hv λR τ k' F=>T _ _ _ (.inr (.inl ⟨_,_,rfl,T2 R τ k' (by rw[cb];exact F)⟩))
theorem N1(h:S[pc]?=some .iF)(c:At kp s S lo mk (pc+1) κ):At kp s S lo mk pc (λj=>1+(j+1)*κ j):=λm a nm σ L k bQ ha hm hv=>by
  have hle:(s.length-a+1)*κ m<=(m+1)*κ m:=yZ _ (by omega)
  cases Lg c (m:=m) (nm:=nm) (L:=L) (s.length-a) a σ (k+1) bQ (by omega) hm hv with
 |fin i R τ hi hR T=>exact .fin (1+i) R τ (by show _<=1+_;exact nt (aj [_,_,_] (.d ab af (.d aq ab (.d (.s (.a (.n 1) af)) (.a (.n 1) aq) .z))) rfl hle hi)) hR (.go h (.iF ha) (by rw[← cb];exact T))
 |dZ i σ' hi hv T=>exact .dZ (1+i) σ' (by show _<=1+_;exact nt (aj [_,_,_] (.d ab af (.d aq ab (.d (.s (.a (.n 1) af)) (.a (.n 1) aq) .z))) rfl hle hi)) hv λR τ k' F=>.go h (.iF ha) (T R τ k' (by rw[cb];exact F))
theorem Lh{b n:Nat}{r:Nat}(h:S[pc]?=some .i7)(hb:s.length<=b+(n+1))(c:∀⦃a:Nat⦄⦃nm:Nm⦄⦃σ:Hs⦄⦃L:List (Option CW)⦄⦃k:Nat⦄,b<a->a<=s.length->jd σ->nv kp s ⟨S,pc+1,a,nm,mk,[]⟩ L σ k r):At kp s S b (b::mk) pc (λ_=>1+r):=λm a nm σ L k bQ ha hm hv=>by
 by_cases he:b<a
 ·exact(c he ha hv).pre (j:=1) (aE _) λT=>Rn.iA h (.uD he) T
 ·exact .dZ 1 σ (dq _ _) hv λR τ k' F=>Rn.no h (.ow he) F
theorem Ic{b:Nat}(h:S[pc]?=some .i7)(hb:s.length<=b):At kp s S b (b::mk) pc (λ_=>1):=λm a nm σ L k bQ ha hm hv=>
 .dZ 1 σ (aE _) hv λR τ k' F=>Rn.no h (.ow (by exact aj [_,_,_] (.d ab af (.d aq ab (.d (.s af) aq .z))) rfl hb ha)) F
end
theorem kW:∀(x:Sh)(κ:Nat->Nat)(m:Nat),κ m<=qf x κ m
 |.le,κ,m=>bv (by exact nt (aj [_] (.d (.s (.a (.n 4) ab)) ab .z) rfl)) (gu (m:=m) (aE (κ m)))
 |.ca a b,κ,m=>bv (kW b κ m) (bv (kW a (qf b κ) m) (eL _ _))
 |.al a b,κ,m=>bv (kW b κ m) (eL _ _)
 |.rp a,κ,0=>by show κ 0<=4+κ 0+_;exact nt (aj [_,_] (.d (.s (.a (.a (.n 4) ab) af)) ab .z) rfl)
 |.rp a,κ,m+1=>by show κ (m+1)<=4+κ (m+1)+_;exact nt (aj [_,_] (.d (.s (.a (.a (.n 4) ab) af)) ab .z) rfl)
 |.lt a,κ,m=>bv (bv (eL (κ m) 2) (kW a (λj=>2+κ j) m)) (eL _ _)
noncomputable abbrev cN(n:Nd):(Nat->Nat)->Nat->Nat:=qf (cO n)
noncomputable def cS:List Nd->(Nat->Nat)->Nat->Nat
 |[],κ=>κ
 |n::r,κ=>cN n (cS r κ)
theorem OY{n:Nd}{r:List Nd}{κ:Nat->Nat}:cS (n::r) κ=cN n (cS r κ):=rfl
theorem kX:∀(A B:List Nd)(κ:Nat->Nat),cS (A++B) κ=cS A (cS B κ)
 |[],B,κ=>rfl
 |n::r,B,κ=>by rw[zb,OY,OY,kX r B κ]
theorem qg:∀(A:List Nd),eP (cS A)
 |[]=>λκ κ' h m=>h m
 |n::r=>λκ κ' h m=>fZ (cO n) _ _ (qg r κ κ' h) m
theorem yP:∀(n:Nd)(κ:Nat->Nat)(m:Nat),cS (aN true n) κ m<=cN n κ m
 |.ca x y,κ,m=>by
  show cS (aN true x++aN true y) κ m<=1+cN x (cN y κ) m
  rw[kX]
  exact bv (bv (qg _ _ _ (yP y κ) m) (yP x _ m)) (eL _ _)
 |.al _ _,κ,m=>aE _
 |.sg _,κ,m=>aE _
 |.rp _,κ,m=>aE _
 |.lt _ _,κ,m=>aE _
 |.nw _ _,κ,m=>aE _
 |.cu,κ,m=>aE _
 |.dT,κ,m=>aE _
 |.fail,κ,m=>aE _
 |.cur _,κ,m=>aE _
 |.dU _,κ,m=>aE _
theorem So(r:List Nd)(n:Nd)(κ:Nat->Nat)(m:Nat):cS (jR r n).reverse κ m<=cS (r.reverse++[n]) κ m:=
 pW (P:=λr n r'=>cS r'.reverse κ m<=cS (r.reverse++[n]) κ m) (λr n=>by rw[gb];exact aE _) (λr=>by rw[kX];exact qg _ _ _ (λj=>kW _ _ _) m) (λc t u r=>by
  rw[gb,gb,cG,kX,kX]
  exact qg _ _ _ (λj=>fZ .le _ _ (λj=>kW .le κ j) j) m) r n
theorem Ie(l:List Nd)(κ:Nat->Nat)(m:Nat):cS (fF l) κ m<=cS l κ m:=by
 have:∀(l r:List Nd),∀ κ m,cS (l.foldl jR r).reverse κ m<=cS (r.reverse++l) κ m:=λl=>by
   induction l with
  |nil=>intro r κ m;rw[eU];exact aE _
  |cons n l ih=>
    intro r κ m
    refine bv (ih (jR r n) κ m) ?_
    rw[show r.reverse++n::l=(r.reverse++[n])++l from by rw[cG];rfl,kX,kX]
    exact So r n _ m
 exact this l [] κ m
noncomputable def cL:List Nd->(Nat->Nat)->Nat->Nat
 |[],_,_=>0
 |n::r,κ,m=>3+cN n κ m+cL r κ m
theorem yQ:∀(A B:List Nd)(κ:Nat->Nat)(m:Nat),cL (A++B) κ m=cL A κ m+cL B κ m
 |[],B,κ,m=>(fy _).symm
 |n::r,B,κ,m=>by
  show 3+cN n κ m+cL (r++B) κ m=3+cN n κ m+cL r κ m+cL B κ m
  rw[yQ r B,cb (3+cN n κ m)]
theorem yR:∀(n:Nd)(κ:Nat->Nat)(m:Nat),cL (aN false n) κ m<=3+cN n κ m
 |.al x y,κ,m=>by
  show cL (aN false x++aN false y) κ m<=3+(3+cN x κ m+cN y κ m)
  have h1:=yR x κ m
  have h2:=yR y κ m
  rw[yQ];exact nt (aj [_,_,_,_] (.d ab (.a (.n 3) af) (.d aq (.a (.n 3) aA) (.d (.s (.a (.n 3) (.a (.a (.n 3) af) aA))) (.a ab aq) .z))) rfl h1 h2)
 |.ca _ _,κ,m=>aE _
 |.sg _,κ,m=>aE _
 |.rp _,κ,m=>aE _
 |.lt _ _,κ,m=>aE _
 |.nw _ _,κ,m=>aE _
 |.cu,κ,m=>aE _
 |.dT,κ,m=>aE _
 |.fail,κ,m=>aE _
 |.cur _,κ,m=>aE _
 |.dU _,κ,m=>aE _
section
variable {kp:Nat->Option (List Nat)}{s:List Nat}{O:List Od}{fn:Nat->Nat}
theorem jz(k:Bool):∀ n:Nd,Ky kp n->∀ p∈aN k n,Ky kp p
 |.al a b,h=>by
  cases k
  ·exact λp hp=>(dh.mp hp).elim (jz false a h.1 p) (jz false b h.2 p)
  ·exact λp hp=>by rw[db.mp hp];exact h
 |.ca a b,h=>by
  cases k
  ·exact λp hp=>by rw[db.mp hp];exact h
  ·exact λp hp=>(dh.mp hp).elim (jz true a h.1 p) (jz true b h.2 p)
 |.sg _,h=>λp hp=>by rw[db.mp hp];exact h
 |.rp _,h=>λp hp=>by rw[db.mp hp];exact h
 |.lt _ _,h=>λp hp=>by rw[db.mp hp];exact h
 |.nw _ _,h=>λp hp=>by rw[db.mp hp];exact h
 |.cu,h=>λp hp=>by rw[db.mp hp];exact h
 |.dT,h=>λp hp=>by rw[db.mp hp];exact h
 |.fail,h=>λp hp=>by rw[db.mp hp];exact h
 |.cur _,h=>λp hp=>by rw[db.mp hp];exact h
 |.dU _,h=>λp hp=>by rw[db.mp hp];exact h
theorem Sp{r:List Nd}{n:Nd}(hr:∀ p∈r,Ky kp p)(hn:Ky kp n):∀ p∈jR r n,Ky kp p:=
 pW (P:=λr n r'=>(∀ p∈r,Ky kp p)->Ky kp n->∀ p∈r',Ky kp p) (λ_ _ hr hn p hp=>(eC.mp hp).elim (λe=>by rw[e];exact hn) (hr p)) (λ_ hr _=>hr) (λ_ _ _ _ hr _ p hp=>(eC.mp hp).elim (λe=>by rw[e];trivial) λhp=>hr p (.tail _ hp)) r n hr hn
theorem BJ(l:List Nd)(h:∀ p∈l,Ky kp p):∀ p∈fF l,Ky kp p:=by
 have:∀(l r:List Nd),(∀ p∈l,Ky kp p)->(∀ p∈r,Ky kp p)->∀ p∈l.foldl jR r,Ky kp p:=λl=>by
   induction l with
  |nil=>exact λr _ hr=>hr
  |cons n l ih=>exact λr hl hr=>ih _ (λp hp=>hl p (.tail _ hp)) (Sp hr (hl n (.head _)))
 exact λp hp=>this l [] h (λp hp=>by cases hp) p (List.mem_reverse.mp hp)
theorem f8{i:Nat}{x:Od}(h:O[i]?=some x):(O.map (gA fn))[i]?=some (gA fn x):=by rw[jN,h];rfl
noncomputable abbrev KC(kp:Nat->Option (List Nat))(s:List Nat)(O:List Od)(fn:Nat->Nat):Nat->List Nat->Nat->(Nat->Nat)->Prop:=K2 kp s (O.map (gA fn)) fn
theorem OZ{g:Nd->Nat->List Od}:∀(ps:List Nd),(∀ p∈ps,∀ lo mk b κ,Seg O b (g p b)->KC kp s O fn lo mk (b+(g p b).length) κ->KC kp s O fn lo mk b (cN p κ))->∀ lo mk b κ,Seg O b (nr g ps b)->KC kp s O fn lo mk (b+(nr g ps b).length) κ->KC kp s O fn lo mk b (cS ps κ)
 |[],_,lo,mk,b,κ,hs,c=>c
 |n::r,h,lo,mk,b,κ,hs,c=>by
  rw[qW] at hs c
  rw[aK,← cb] at c
  exact h n (.head _) lo mk b _ hs.l (OZ r (λp hp=>h p (.tail _ hp)) lo mk _ κ hs.r c)
theorem O0(hF:Fn O fn){g:Nd->Nat->List Od}{e:Nat}{z:Nd}(hz:∀ lo mk b κ,Seg O b (g z b)->KC kp s O fn lo mk (b+(g z b).length) κ->KC kp s O fn lo mk b (cN z κ)):∀(ps:List Nd),(∀ p∈ps,∀ lo mk b κ,Seg O b (g p b)->KC kp s O fn lo mk (b+(g p b).length) κ->KC kp s O fn lo mk b (cN p κ))->∀ lo mk b κ,Seg O b (iL g e z ps b)->b+(iL g e z ps b).length=e->KC kp s O fn lo mk e κ->KC kp s O fn lo mk b (λm=>cL ps κ m+cN z κ m)
 |[],_,lo,mk,b,κ,hs,he,c=>by
  have W2:b+(g z b).length=e:=he
  exact(hz lo mk b κ hs (by rw[W2];exact c)).le λj=>by show _<=0+_;exact nt (aj [_] (.d (.s (.a (.n 0) ab)) ab .z) rfl)
 |n::r,h,lo,mk,b,κ,hs,he,c=>by
  rw[jK] at he hs
  rw[c9,aK,c9] at he
  have e1:b+(g n (b+1)).length+2=b+1+(g n (b+1)).length+1:=by exact lx [_,_] (.a (.a ab af) (.n 2)) (.s (.a (.s ab) af)) rfl
  have hb:=hs.hd
  have hj:=hs.tl.r.hd
  have N2:=hF.n b _ hb rfl
  have W3:=hF.j _ _ hj rfl
  have X1:fn (b+(g n (b+1)).length+2)=fn (b+(g n (b+1)).length+2):=rfl
  have c1:KC kp s O fn lo mk (b+1+(g n (b+1)).length) κ:=⟨by rw[W3];exact c.f,BI (f8 hj) c.f⟩
  have a1:=(h n (.head _) lo mk (b+1) κ hs.tl.l c1).e
  have c2:=O0 hF hz r (λp hp=>h p (.tail _ hp)) lo mk (b+(g n (b+1)).length+2) κ (by have:=hs.tl.r.tl;rw[e1];rw[e1] at this;exact this) (by exact k8 (nt (aj [_,_,_,_] (.d (.a ab (.s (.a af (.s aq)))) aA (.d (.s aA) (.a (.a (.a ab af) (.n 2)) aq) .z)) rfl (bx he))) (nt (aj [_,_,_,_] (.d ab (.a af (.s (.a aq (.s aA)))) (.d (.s (.a (.a (.a af aq) (.n 2)) aA)) ab .z)) rfl (bx (cP he))))) c
  exact K2.of ((HZ (f8 hb) a1 c2.f).le λj=>by show 1+(1+cN n κ j)+(cL r κ j+cN z κ j)<=3+cN n κ j+cL r κ j+cN z κ j;exact nt (aj [_,_,_] (.d (.s (.a (.a (.a (.n 3) ab) af) aq)) (.a (.a (.n 1) (.a (.n 1) ab)) (.a af aq)) .z) rfl)) N2
theorem kq(hF:Fn O fn){lo b:Nat}{mk:List Nat}{κ κ2:Nat->Nat}{x:Od}(hx:O[b]?=some x)(hj:isJ x=false)(h:At kp s (O.map (gA fn)) lo mk b κ2)(hk:∀ m,κ2 m<=(m+1)*(4+κ m)):KC kp s O fn lo mk b (qf .le κ):=
 K2.of (h.le hk) (hF.n _ _ hx hj)
theorem Sq{a m:Nat}:1+(1+a)<=(m+1)*(4+a):=bv (by exact nt (aj [_] (.d (.s (.a (.n 4) ab)) (.a (.n 1) (.a (.n 1) ab)) .z) rfl)) (gu (aE a))
theorem mA(hF:Fn O fn)(hs:s.length<10):∀(F:Nat)(n:Nd),Ky kp n->∀(lo:Nat)(mk:List Nat)(b:Nat)(κ:Nat->Nat),Seg O b (cp F n b)->KC kp s O fn lo mk (b+(cp F n b).length) κ->KC kp s O fn lo mk b (cN n κ)
 |0,n,_,lo,mk,b,κ,_,c=>c.le λj=>kW _ _ _
 |F+1,.lt n q,hk,lo,mk,b,κ,sg,c=>by
   rw[xf] at sg c
   rw[c9,aK] at c
   have hb:=sg.hd
   have hq:=sg.tl.r.hd
   have e:b+1+(cp F n (b+1)).length+1=b+((cp F n (b+1)).length + [Od.name q].length+1):=by show _=b+(_+1+1);exact lx [_,_] (.s (.a (.s ab) af)) (.a ab (.s (.s af))) rfl
   have c1:∀ a,lo<=a->KC kp s O fn a (a::mk) (b+1+(cp F n (b+1)).length) (λj=>2+κ j):=λa ha=>
    K2.of ((Le (f8 hq) (by rw[e];exact c.e.lo ha)).le λj=>by exact nt (aj [_] (.d (.s (.a (.n 2) ab)) (.a (.n 1) (.a (.n 1) ab)) .z) rfl)) (hF.n _ _ hq rfl)
   exact K2.of ((u5 (f8 hb) λa ha=>(mA hF hs F n hk.1 a (a::mk) (b+1) _ sg.tl.l (c1 a ha)).e).le λj=>by show 1+(1+cN n (λj=>2+κ j) j)<=2+cN n (λj=>2+κ j) j;exact nt (aj [_] (.d (.s (.a (.n 2) ab)) (.a (.n 1) (.a (.n 1) ab)) .z) rfl)) (hF.n _ _ hb rfl)
 |F+1,.nw n q,hk,lo,mk,b,κ,sg,c=>by
   rw[qX] at sg c
   rw[c9,aK] at c
   have hb:=sg.hd
   have hq:=sg.tl.r.hd
   obtain⟨hk,key,zV⟩:=hk
   have e:b+1+(cp F n (b+1)).length+1=b+((cp F n (b+1)).length + [Od.set q].length+1):=by show _=b+(_+1+1);exact lx [_,_] (.s (.a (.s ab) af)) (.a ab (.s (.s af))) rfl
   have c1:∀ a,lo<=a->KC kp s O fn a (a::mk) (b+1+(cp F n (b+1)).length) (λj=>2+κ j):=λa ha=>
    K2.of ((NX zV (f8 hq) (by rw[e];exact c.e.lo ha)).le λj=>by exact nt (aj [_] (.d (.s (.a (.n 2) ab)) (.a (.n 1) (.a (.n 1) ab)) .z) rfl)) (hF.n _ _ hq rfl)
   exact K2.of ((u5 (f8 hb) λa ha=>(mA hF hs F n hk a (a::mk) (b+1) _ sg.tl.l (c1 a ha)).e).le λj=>by show 1+(1+cN n (λj=>2+κ j) j)<=2+cN n (λj=>2+κ j) j;exact nt (aj [_] (.d (.s (.a (.n 2) ab)) (.a (.n 1) (.a (.n 1) ab)) .z) rfl)) (hF.n _ _ hb rfl)
 |F+1,.rp n,hk,lo,mk,b,κ,sg,c=>by
   rw[oA] at sg c
   have hl:b+(Od.split (b+2)::.df (b+3+(cp F n (b+3)).length+2)::.mark::(cp F n (b+3)++[.i7,.df b])).length=b+3+(cp F n (b+3)).length+2:=by
    rw[c9,c9,c9,aK];show b+(_+2+1+1+1)=_;exact lx [_,_] (.a ab (.s (.s (.s (.a af (.n 2)))))) (.a (.a (.a ab (.n 3)) af) (.n 2)) rfl
   rw[hl] at c
   have hb:=sg.hd
   have qY:=sg.tl.hd
   have oB:=sg.tl.tl.hd
   have hg:=sg.tl.tl.tl.r.hd
   have hj:=sg.tl.tl.tl.r.tl.hd
   have N2:=hF.n _ _ hb rfl
   have W4:=hF.n _ _ oB rfl
   have UR:=hF.n _ _ hg rfl
   have sb:(O.map (gA fn))[b]?=some (.split (b+2)):=(f8 hb).trans (by show some (Od.split (fn (b+2)))=_;rw[show fn (b+2)=b+2 from W4])
   have sj:(O.map (gA fn))[b+1+1+1+(cp F n (b+3)).length+1]?=some (.df b):=(f8 hj).trans (by show some (Od.df (fn b))=_;rw[N2])
   have lv:At kp s (O.map (gA fn)) lo mk (b+1) (λj=>1+κ j):=BI (f8 qY) c.f
   refine K2.of (λm=>?_) N2
   induction m with
  |zero=>
    intro a nm σ L k bQ ha hm hv
    have Sr:At kp s (O.map (gA fn)) a mk (b+2) (λj=>2+cN n (λ_=>1) j):=(u5 (f8 oB) λa' CU=>(mA hF hs F n hk a' (a'::mk) (b+3) _ sg.tl.tl.tl.l (K2.of (Ic (f8 hg) (by exact nt (aj [_,_,_] (.d ab (.a af (.n 0)) (.d af aq (.d (.s aq) ab .z))) rfl hm CU))) UR)).e).le λj=>by show 1+(1+_)<=2+_;exact nt (aj [_] (.d (.s (.a (.n 2) ab)) (.a (.n 1) (.a (.n 1) ab)) .z) rfl)
    exact(lv bQ ha hm hv (nm:=nm) (L:=L++[some ⟨_,b+2,a,nm,mk,[]⟩]) (k:=k+1)).two (λk σ hv=>Sr (aE _) ha hm hv) (by show 1+(1+κ 0)+(2+cN n (λ_=>1) 0)<=4+κ 0+cN n (λ_=>1) 0;exact nt (aj [_,_] (.d (.s (.a (.a (.n 4) ab) af)) (.a (.a (.n 1) (.a (.n 1) ab)) (.a (.n 2) af)) .z) rfl)) λT=>.go sb .split T
  |succ m ih=>
    intro a nm σ L k bQ ha hm hv
    have back:∀⦃a':Nat⦄⦃nm:Nm⦄⦃σ:Hs⦄⦃L:List (Option CW)⦄⦃k:Nat⦄,a<a'->a'<=s.length->jd σ->nv kp s ⟨O.map (gA fn),b+1+1+1+(cp F n (b+3)).length+1,a',nm,mk,[]⟩ L σ k (1+vL (cN n) κ m):=λa' nm σ L k h1 h2 h3=>
     (ih (a:=a') (nm:=nm) (σ:=σ) (L:=L) (k:=k+1) (by exact nt (aj [_,_,_] (.d ab af (.d (.s af) aq (.d (.s aq) ab .z))) rfl bQ h1)) h2 (by exact nt (aj [_,_,_,_] (.d ab (.a af (.s aq)) (.d (.s af) aA (.d (.s (.a aA aq)) ab .z))) rfl hm h1)) h3).pre (aE _) λT=>Rn.iA sj .df T
    have Sr:∀⦃nm:Nm⦄⦃σ:Hs⦄⦃L:List (Option CW)⦄⦃k:Nat⦄,jd σ->nv kp s ⟨O.map (gA fn),b+2,a,nm,mk,[]⟩ L σ k (2+cN n (λ_=>2+vL (cN n) κ m) (m+1)):=λnm σ L k hv=>by
     have body:=(mA hF hs F n hk a (a::mk) (b+3) _ sg.tl.tl.tl.l (K2.of ((Lh (f8 hg) hm back).le λj=>by show 1+(1+vL (cN n) κ m)<=2+vL (cN n) κ m;exact nt (aj [_] (.d (.s (.a (.n 2) ab)) (.a (.n 1) (.a (.n 1) ab)) .z) rfl)) UR)).e
     exact(body (m:=m+1) (aE _) ha hm hv).pre (j:=1) (by show 1+(1+_)<=2+_;exact nt (aj [_] (.d (.s (.a (.n 2) ab)) (.a (.n 1) (.a (.n 1) ab)) .z) rfl)) λT=>Rn.iA (f8 oB) .mark T
    exact(lv bQ ha hm hv (nm:=nm) (L:=L++[some ⟨_,b+2,a,nm,mk,[]⟩]) (k:=k+1)).two (λk σ hv=>Sr hv) (by show 1+(1+κ (m+1))+(2+cN n (λ_=>2+vL (cN n) κ m) (m+1))<=4+κ (m+1)+cN n (λ_=>2+vL (cN n) κ m) (m+1);exact nt (aj [_,_] (.d (.s (.a (.a (.n 4) ab) af)) (.a (.a (.n 1) (.a (.n 1) ab)) (.a (.n 2) af)) .z) rfl)) λT=>.go sb .split T
 |F+1,.ca x y,hk,lo,mk,b,κ,sg,c=>by
   rw[Bx] at sg c
   exact(OZ _ (λp hp=>mA hF hs F p (BJ _ (jz true (.ca x y) hk) p hp)) lo mk b κ sg c).le λj=>bv (Ie _ κ j) (yP (.ca x y) κ j)
 |F+1,.al x y,hk,lo,mk,b,κ,sg,c=>by
   rw[uQ] at sg c
   have hr:=jz false (.al x y) hk
   have BK:=qd (fw false (.al x y)) .cu
   have he:b+(iL (cp F) (jx (cp F) ((aN false (.al x y)).getLastD .cu) (aN false (.al x y)).dropLast b) ((aN false (.al x y)).getLastD .cu) (aN false (.al x y)).dropLast b).length=jx (cp F) ((aN false (.al x y)).getLastD .cu) (aN false (.al x y)).dropLast b:=by rw[uO (cp F) _ 0];rfl
   rw[he] at c
   refine(O0 hF (λlo mk b κ=>mA hF hs F _ (hr _ (by rw[BK];exact lK _ (by rw[← BK];exact .head _))) lo mk b κ) _ (λp hp=>mA hF hs F p (hr p (by rw[BK];exact iS _ hp))) lo mk b κ sg he c).le λj=>?_
   have h1:=yR (.al x y) κ j
   rw[BK,yQ] at h1
   have h2:cL [(aN false (.al x y)).getLastD .cu] κ j=3+cN ((aN false (.al x y)).getLastD .cu) κ j+0:=rfl
   exact nt (aj [_,_,_,_] (.d (.a ab af) (.a (.n 3) aq) (.d (.a (.a (.n 3) aA) (.n 0)) af (.d (.s aq) (.a ab aA) .z))) rfl h1 (bx (cP h2)))
 |F+1,.sg x,hk,lo,mk,b,κ,sg,c=>kq hF sg.hd rfl (NW (f8 sg.hd) c.e) λm=>Sq
 |F+1,.cu,hk,lo,mk,b,κ,sg,c=>kq hF sg.hd rfl (N1 (f8 sg.hd) c.e) λm=>by show 1+(m+1)*(1+κ m)<=(m+1)*(4+κ m);rw[Nat.mul_add,Nat.mul_add];exact nt (aj [_,_] (.d (.s (.a (.r (.s ab) 4) af)) (.a (.n 1) (.a (.r (.s ab) 1) af)) .z) rfl)
 |F+1,.dT,hk,lo,mk,b,κ,sg,c=>kq hF sg.hd rfl (Ib (f8 sg.hd) c.e) λm=>Sq
 |F+1,.fail,hk,lo,mk,b,κ,sg,c=>kq hF sg.hd rfl (Lf (f8 sg.hd)) λm=>bv (by exact nt (aj [_] (.d (.s (.a (.n 4) ab)) (.n 1) .z) rfl)) (gu (aE (κ m)))
 |F+1,.cur q,hk,lo,mk,b,κ,sg,c=>by
   obtain⟨key,zV⟩:=hk
   exact kq hF sg.hd rfl (Ia hs zV (f8 sg.hd) c.e) λm=>Sq
 |F+1,.dU k,hk,lo,mk,b,κ,sg,c=>kq hF sg.hd rfl (NY (f8 sg.hd) c.e) λm=>bv (by exact nt (aj [_] (.d (.s (.a (.n 4) ab)) (.a (.n 3) (.a (.n 1) ab)) .z) rfl)) (gu (aE (κ m)))
end
noncomputable def gU:Sh->Nat
 |.le=>0
 |.ca a b=>max (gU a) (gU b)+1
 |.al a b=>max (gU a) (gU b)+1
 |.rp a=>gU a+1
 |.lt a=>gU a+1
noncomputable def BL:Nat->List Sh
 |0=>[.le]
 |d+1=>.le::((BL d).map .rp++(BL d).map .lt++(BL d).flatMap (λa=>(BL d).map (.ca a))++(BL d).flatMap (λa=>(BL d).map (.al a)))
theorem je:∀(d:Nat)(x:Sh),gU x<=d->x∈BL d
 |0,.le,_=>.head _
 |d+1,.le,_=>.head _
 |d+1,.rp a,h=>.tail _ (iS _ (iS _ (iS _ (List.mem_map_of_mem (je d a (iT h))))))
 |d+1,.lt a,h=>.tail _ (iS _ (iS _ (lK _ (List.mem_map_of_mem (je d a (iT h))))))
 |d+1,.ca a b,h=>by
  have h':max (gU a) (gU b)<=d:=iT h
  exact .tail _ (iS _ (lK _ (nA.mpr ⟨a,je d a (by omega),List.mem_map_of_mem (je d b (by omega))⟩)))
 |d+1,.al a b,h=>by
  have h':max (gU a) (gU b)<=d:=iT h
  exact .tail _ (lK _ (nA.mpr ⟨a,je d a (by omega),List.mem_map_of_mem (je d b (by omega))⟩))
noncomputable def qh(x:Sh)(m:Nat):Nat:=1+qf x (λ_=>1) m
noncomputable def ej:Sh->Bool
 |.le=>false
 |.ca a b=>ej a || ej b
 |.al a b=>ej a || ej b
 |.rp _=>true
 |.lt a=>ej a
theorem N3:(BL 2).all (λx=>(List.range (bif ej x then 3 else 5)).all λm=>decide ((m+1)*qh x m<=99999))=true:=by decide +kernel
theorem N4{x:Sh}{m:Nat}(h:gU x<=2)(hm:m<(bif ej x then 3 else 5)):(m+1)*qh x m<=99999:=
 of_decide_eq_true (fz.mp (fz.mp N3 x (je 2 x h)) m (sK.mpr hm))
section
variable {kp:Nat->Option (List Nat)}{s:List Nat}{n:Nd}
theorem Ss(hs:s.length<10)(hk:Ky kp n){a:Nat}(ha:a<=s.length){σ:Hs}(hv:jd σ)(k:Nat):∃(R:Res)(τ:Hs)(j:Nat),j<=qh (cO n) s.length/\Tr kp s [.nd n] a [] σ [] k R τ (k+j)/\(R=.cz->jd τ):=by
  have hc:=jy n (λ_=>0) (λ_=>1) (λ_=>cF _) s.length
  cases ij hs n hk (lD.nil (lo:=0)) (m:=s.length) (nm:=[]) (L:=[]) (k:=k) (cF _) ha (eL _ _) hv with
 |fin j R τ hj hR T=>exact⟨R,τ,j,bv (bv hj hc) (eL _ _),T,λe=>absurd e hR⟩
 |dZ j σ' hj hv T=>exact⟨.cz,σ',j,bv (bv hj hc) (eL _ _),T _ _ _ (.inl ⟨rfl,rfl,rfl,rfl⟩),λ_=>hv⟩
theorem Li(hs:s.length<10)(hk:Ky kp n):∀(c b:Nat)(σ:Hs)(k:Nat),b+c<=s.length+1->jd σ->∃(R:Option (Nat×Nat×Nm))(τ:Hs)(k':Nat),Mp kp s n c b σ k R τ k'/\k'<=k+c*qh (cO n) s.length
 |0,b,σ,k,_,_=>⟨none,σ,k,.z,dq _ _⟩
 |c+1,b,σ,k,hb,hv=>by
   obtain⟨R,τ,j,hj,T,hn⟩:=Ss hs hk (a:=b) (by exact nt (aj [_,_,_] (.d (.a ab (.s af)) (.s aq) (.d (.s aq) ab .z)) rfl hb)) hv k
   rw[Nat.add_mul,Nat.one_mul]
   induction R with
  |met a nm=>exact⟨_,τ,_,.met T,by exact nt (aj [_,_,_,_] (.d ab af (.d (.s (.a aq (.a aA af))) (.a aq ab) .z)) rfl hj)⟩
  |bi=>exact⟨_,τ,_,.bi T,by exact nt (aj [_,_,_,_] (.d ab af (.d (.s (.a aq (.a aA af))) (.a aq ab) .z)) rfl hj)⟩
  |cz=>
    obtain⟨R,υ,k',M,Ig⟩:=Li hs hk c (b+1) τ (k+j) (by exact nt (aj [_,_,_] (.d (.a ab (.s af)) (.s aq) (.d (.s (.s aq)) (.a (.s ab) af) .z)) rfl hb)) (hn rfl)
    exact⟨R,υ,k',.cz T M,by exact nt (aj [_,_,_,_,_] (.d ab af (.d aq (.a (.a aA ab) bU) (.d (.s (.a aA (.a bU af))) aq .z))) rfl hj Ig)⟩
theorem code_at(hs:s.length<10)(hk:Ky kp n):At kp s (codeS n) 0 [] 0 (λm=>1+qf (cO n) (λ_=>1) m):=by
 have hF:=R9 (xg n)
 have sg:Seg (ey n) 0 (cp (sz n) n 0):=λi hi=>by rw[fy];exact dB hi
 have hd:(ey n)[0+(cp (sz n) n 0).length]?=some .done:=by rw[fy,eT (aE _),gZ];rfl
 have c:At kp s (codeS n) 0 [] (0+(cp (sz n) n 0).length) (λ_=>1):=λm a nm σ L k _ _ _ _=>.fin 1 (.met _) σ (aE _) (λh=>by cases h) (.met (f8 hd) rfl)
 exact(mA hF hs (sz n) n hk 0 [] 0 _ sg (K2.of c (hF.n _ _ hd rfl))).e
theorem Su(hs:s.length<10)(hk:Ky kp n){a:Nat}(ha:a<=s.length){σ:Hs}(hv:jd σ)(k:Nat):∃(R:fe)(τ:Hs)(j:Nat),j<=qh (cO n) s.length/\Rn kp s ⟨codeS n,0,a,[],[],[]⟩ [] σ k R τ (k+j)/\(R=.cz->jd τ):=by
  cases code_at hs hk (m:=s.length) (nm:=[]) (L:=[]) (k:=k) (cF _) ha (eL _ _) hv with
 |fin j R τ hj hR T=>exact⟨R,τ,j,hj,T,λe=>absurd e hR⟩
 |dZ j σ' hj hv T=>exact⟨.cz,σ',j,hj,T _ _ _ (.inl ⟨rfl,rfl,rfl,rfl⟩),λ_=>hv⟩
theorem Lj(hs:s.length<10)(hk:Ky kp n):∀(c b:Nat)(σ:Hs)(k:Nat),b+c<=s.length+1->jd σ->∃(R:Option (Nat×Nat×Nm))(τ:Hs)(k':Nat),Mo kp s (codeS n) c b σ k R τ k'/\k'<=k+c*qh (cO n) s.length
 |0,b,σ,k,_,_=>⟨none,σ,k,.z,dq _ _⟩
 |c+1,b,σ,k,hb,hv=>by
   obtain⟨R,τ,j,hj,T,hn⟩:=Su hs hk (a:=b) (by exact nt (aj [_,_,_] (.d (.a ab (.s af)) (.s aq) (.d (.s aq) ab .z)) rfl hb)) hv k
   rw[Nat.add_mul,Nat.one_mul]
   induction R with
  |met w=>exact⟨_,τ,_,.met T,by exact nt (aj [_,_,_,_] (.d ab af (.d (.s (.a aq (.a aA af))) (.a aq ab) .z)) rfl hj)⟩
  |bi=>exact⟨_,τ,_,.bi T,by exact nt (aj [_,_,_,_] (.d ab af (.d (.s (.a aq (.a aA af))) (.a aq ab) .z)) rfl hj)⟩
  |cz=>
    obtain⟨R,υ,k',M,Ig⟩:=Lj hs hk c (b+1) τ (k+j) (by exact nt (aj [_,_,_] (.d (.a ab (.s af)) (.s aq) (.d (.s (.s aq)) (.a (.s ab) af) .z)) rfl hb)) (hn rfl)
    exact⟨R,υ,k',.cz T M,by exact nt (aj [_,_,_,_,_] (.d ab af (.d aq (.a (.a aA ab) bU) (.d (.s (.a aA (.a bU af))) aq .z))) rfl hj Ig)⟩
end
section
variable {kp:Nat->Option (List Nat)}{s:List Nat}
noncomputable def Ih(s t:List Nat):Prop:=(∀ c∈t,c∈s)/\t.length<=s.length
noncomputable def kY(kp:Nat->Option (List Nat))(s:List Nat)(nm:Nm):Prop:=∀ x∈nm,(∃ k,kp x.1=some k)/\Ih s x.2
inductive N5(kp:Nat->Option (List Nat))(s:List Nat):V->Prop where
 |i {q:Nat} {k:List Nat} {n:Nat}:kp q=some k->N5 kp s (.tup [.str k,.int n])
 |s {q:Nat} {k t:List Nat}:kp q=some k->Ih s t->N5 kp s (.tup [.str k,.str t])
noncomputable def lE(kp:Nat->Option (List Nat))(s:List Nat)(σ:Hs):Prop:=∀ e∈σ.log,N5 kp s e
noncomputable def Sv(kp:Nat->Option (List Nat)):Im->Prop
 |.nd n=>Ky kp n
 |.el q _=>∃ k,kp q=some k
 |.en _ _=>True
 |.er n _=>Ky kp n
noncomputable def BN(kp:Nat->Option (List Nat))(c:List Im):Prop:=∀ i∈c,Sv kp i
structure Sw(kp:Nat->Option (List Nat))(s:List Nat)(w:Wy):Prop where
 c:BN kp w.c
 n:kY kp s w.nm
noncomputable def oH(kp:Nat->Option (List Nat))(s:List Nat)(L:List (Option Wy)):Prop:=∀ w,some w∈L->Sw kp s w
theorem sE{a b:Nat}:Ih s ((s.take a).drop b):=⟨λc h=>List.mem_of_mem_take (List.mem_of_mem_drop h),by rw[rd,List.length_take];omega⟩
theorem kY.snoc{nm:Nm}{x:Nat×List Nat}(h:kY kp s nm)(h1:∃ k,kp x.1=some k)(h2:Ih s x.2):kY kp s (nm++[x]):=λy hy=>(dh.mp hy).elim (h y) λe=>by rw[db.mp e];exact⟨h1,h2⟩
theorem lE.snoc{σ:Hs}{k:List Nat}{v:V}(h:lE kp s σ)(h1:N5 kp s (.tup [.str k,v])):lE kp s (iE σ k v):=λy hy=>(dh.mp hy).elim (h y) λe=>by rw[db.mp e];exact h1
theorem BN.cons{i:Im}{c:List Im}(h:Sv kp i)(hc:BN kp c):BN kp (i::c):=λj hj=>(eC.mp hj).elim (λe=>by rw[e];exact h) (hc j)
theorem oH.nil:oH kp s []:=λw h=>by cases h
theorem oH.one{w:Wy}(h:Sw kp s w):oH kp s [some w]:=λx hx=>by cases db.mp hx;exact h
theorem oH.DK:oH kp s [none]:=λx hx=>by cases db.mp hx
structure W5(kp:Nat->Option (List Nat))(s:List Nat)(c:List Im)(nm:Nm)(σ:Hs)(ps:List (Option Wy)):Prop where
 c:BN kp c
 n:kY kp s nm
 l:lE kp s σ
 p:oH kp s ps
noncomputable def W6(kp:Nat->Option (List Nat))(s:List Nat):mu->Prop
 |.go c a nm σ ps=>W5 kp s c nm σ ps
 |.no=>True
theorem N6{i:Im}{r:List Im}{a:Nat}{nm:Nm}{σ:Hs}{A:mu}(X:cH kp s i r a nm σ A)(hi:Sv kp i)(hr:BN kp r)(hn:kY kp s nm)(hl:lE kp s σ):W6 kp s A:=by
  induction X with
 |Kf h=>exact⟨hr,hn,hl,.nil⟩
 |A2 h=>trivial
 |ca=>exact⟨hr.cons (i:=.nd _) hi.2 |>.cons (i:=.nd _) hi.1,hn,hl,.nil⟩
 |al=>exact⟨hr.cons (i:=.nd _) hi.1,hn,hl,.one ⟨hr.cons (i:=.nd _) hi.2,hn⟩⟩
 |@rp x r a nm σ=>exact⟨hr,hn,hl,.one ⟨(hr.cons (i:=.er x a) hi).cons (i:=.nd x) hi,hn⟩⟩
 |lt=>exact⟨(hr.cons (i:=.el _ _) hi.2).cons (i:=.nd _) hi.1,hn,hl,.nil⟩
 |nw=>exact⟨(hr.cons (i:=.en _ _) trivial).cons (i:=.nd _) hi.1,hn,hl,.nil⟩
 |wW h=>exact⟨hr,hn,hl,.one ⟨hr.cons (i:=.nd _) hi,hn⟩⟩
 |wX h=>exact⟨hr,hn,hl,.nil⟩
 |dT=>exact⟨hr,hn,hl,.DK⟩
 |fail=>trivial
 |cur e=>exact⟨hr,hn,hl.snoc (.i e),.nil⟩
 |dU h=>exact⟨hr.cons (i:=.nd _) trivial,hn,hl,.nil⟩
 |el=>exact⟨hr,hn.snoc hi sE,hl,.nil⟩
 |en e=>exact⟨hr,hn,hl.snoc (.s e sE),.nil⟩
 |yx=>trivial
 |Kg h=>exact⟨hr.cons (i:=.nd _) hi,hn,hl,.nil⟩
noncomputable def W7(kp:Nat->Option (List Nat))(s:List Nat):Res->Prop
 |.met _ nm=>kY kp s nm
 |_=>True
theorem oH.app{L ps:List (Option Wy)}(h:oH kp s L)(h2:oH kp s ps):oH kp s (L++ps):=λw hw=>(dh.mp hw).elim (h w) (h2 w)
theorem oH.l{L ps:List (Option Wy)}(h:oH kp s (L++ps)):oH kp s L:=λw hw=>h w (iS _ hw)
theorem DL{c:List Im}{a:Nat}{nm:Nm}{σ τ:Hs}{L:List (Option Wy)}{k k':Nat}{R:Res}(T:Tr kp s c a nm σ L k R τ k'):BN kp c->kY kp s nm->oH kp s L->lE kp s σ->W7 kp s R/\lE kp s τ:=by
  induction T with
 |met=>exact λ_ hn _ hl=>⟨hn,hl⟩
 |go X _ ih=>
   intro hc hn hL hl
   have g:=N6 X (hc _ (.head _)) (λi h=>hc i (.tail _ h)) hn hl
   exact ih g.c g.n (hL.app g.p) g.l
 |@pop i r a nm σ L k R τ k' w X _ ih=>
   intro hc hn hL hl
   have hw:Sw kp s w:=hL w (lK _ (.head _))
   exact ih hw.c hw.n hL.l hl
 |cz X=>exact λ_ _ _ hl=>⟨trivial,hl⟩
 |bi X=>exact λ_ _ _ hl=>⟨trivial,hl⟩
noncomputable def N7(kp:Nat->Option (List Nat))(s:List Nat):Option (Nat×Nat×Nm)->Prop
 |some (_,_,nm)=>kY kp s nm
 |none=>True
theorem Sx{n:Nd}{c b:Nat}{σ τ:Hs}{k k':Nat}{R:Option (Nat×Nat×Nm)}(hk:Ky kp n)(T:Mp kp s n c b σ k R τ k'):lE kp s σ->N7 kp s R/\lE kp s τ:=by
  have hc:BN kp [.nd n]:=λi h=>by rw[db.mp h];exact hk
  have hn:kY kp s []:=λx h=>by cases h
  induction T with
 |z=>exact λh=>⟨trivial,h⟩
 |met T=>exact λh=>DL T hc hn .nil h
 |bi T=>exact λh=>⟨trivial,(DL T hc hn .nil h).2⟩
 |cz T _ ih=>exact λh=>ih (DL T hc hn .nil h).2
noncomputable def N8(kp:Nat->Option (List Nat)):Od->Prop
 |.name q=>∃ k,kp q=some k
 |_=>True
noncomputable def gL(kp:Nat->Option (List Nat))(O:List Od):Prop:=∀ x∈O,N8 kp x
structure Ii(kp:Nat->Option (List Nat))(s:List Nat)(w:CW):Prop where
 o:gL kp w.O
 n:kY kp s w.nm
 cs:∀ x∈w.cs,gL kp x.1
noncomputable def oJ(kp:Nat->Option (List Nat))(s:List Nat)(L:List (Option CW)):Prop:=∀ w,some w∈L->Ii kp s w
theorem oJ.nil:oJ kp s []:=λw h=>by cases h
theorem oJ.one{w:CW}(h:Ii kp s w):oJ kp s [some w]:=λx hx=>by cases db.mp hx;exact h
theorem oJ.DK:oJ kp s [none]:=λx hx=>by cases db.mp hx
theorem oJ.app{L ps:List (Option CW)}(h:oJ kp s L)(h2:oJ kp s ps):oJ kp s (L++ps):=λw hw=>(dh.mp hw).elim (h w) (h2 w)
theorem oJ.l{L ps:List (Option CW)}(h:oJ kp s (L++ps)):oJ kp s L:=λw hw=>h w (iS _ hw)
structure W8(kp:Nat->Option (List Nat))(s:List Nat)(w:CW)(σ:Hs)(ps:List (Option CW)):Prop where
 w:Ii kp s w
 l:lE kp s σ
 p:oJ kp s ps
noncomputable def W9(kp:Nat->Option (List Nat))(s:List Nat):mw->Prop
 |.go w σ ps=>W8 kp s w σ ps
 |.no=>True
theorem kY.cons{nm:Nm}{x:Nat×List Nat}(h:kY kp s nm)(h1:∃ k,kp x.1=some k)(h2:Ih s x.2):kY kp s (x::nm):=λy hy=>(eC.mp hy).elim (λe=>by rw[e];exact⟨h1,h2⟩) (h y)
theorem N9{od:Od}{w:CW}{σ:Hs}{A:mw}(X:eR kp s od w σ A)(ho:N8 kp od)(hw:Ii kp s w)(hl:lE kp s σ):W9 kp s A:=by
  induction X with
 |w7 h=>exact⟨⟨hw.o,hw.n,hw.cs⟩,hl,.nil⟩
 |uC h=>trivial
 |iF h=>
   refine⟨⟨hw.o,hw.n,hw.cs⟩,hl,λx hx=>?_⟩
   obtain⟨e,_,he⟩:=lH.mp hx
   cases he
   exact⟨hw.o,hw.n,hw.cs⟩
 |split=>exact⟨⟨hw.o,hw.n,hw.cs⟩,hl,.one ⟨hw.o,hw.n,hw.cs⟩⟩
 |df=>exact⟨⟨hw.o,hw.n,hw.cs⟩,hl,.nil⟩
 |mark=>exact⟨⟨hw.o,hw.n,hw.cs⟩,hl,.nil⟩
 |name=>exact⟨⟨hw.o,kY.cons hw.n ho sE,hw.cs⟩,hl,.nil⟩
 |set e=>exact⟨⟨hw.o,hw.n,hw.cs⟩,hl.snoc (.s e sE),.nil⟩
 |uD h=>exact⟨⟨hw.o,hw.n,hw.cs⟩,hl,.nil⟩
 |ow h=>trivial
 |place e=>exact⟨⟨hw.o,hw.n,hw.cs⟩,hl.snoc (.i e),.nil⟩
 |@ask k t w σ h=>exact⟨⟨λx hx=>by
    rcases eC.mp hx with e|e
    ·rw[e];trivial
    ·rw[db.mp e];trivial,hw.n,λx hx=>(eC.mp hx).elim (λe=>by rw[e];exact hw.o) (hw.cs x)⟩,hl,.nil⟩
 |done=>exact⟨⟨hw.cs _ (.head _),hw.n,λx hx=>hw.cs x (.tail _ hx)⟩,hl,.nil⟩
 |fence=>exact⟨⟨hw.o,hw.n,hw.cs⟩,hl,.DK⟩
 |fail=>trivial
noncomputable def US(kp:Nat->Option (List Nat))(s:List Nat):fe->Prop
 |.met w=>kY kp s w.nm
 |_=>True
theorem DM{w:CW}{σ τ:Hs}{L:List (Option CW)}{k k':Nat}{R:fe}(T:Rn kp s w L σ k R τ k'):Ii kp s w->oJ kp s L->lE kp s σ->US kp s R/\lE kp s τ:=by
  induction T with
 |met _ _=>exact λhw _ hl=>⟨hw.n,hl⟩
 |go h X _ ih=>
   intro hw hL hl
   have g:=N9 X (hw.o _ (lb h)) hw hl
   exact ih g.w (hL.app g.p) g.l
 |@pop w L σ k R τ k' od w2 h X _ ih=>exact λhw hL hl=>ih (hL w2 (lK _ (.head _))) hL.l hl
 |cz _ _=>exact λ_ _ hl=>⟨trivial,hl⟩
 |bi _ _=>exact λ_ _ hl=>⟨trivial,hl⟩
theorem Sy{O:List Od}{c b:Nat}{σ τ:Hs}{k k':Nat}{R:Option (Nat×Nat×Nm)}(hk:gL kp O)(T:Mo kp s O c b σ k R τ k'):lE kp s σ->N7 kp s R/\lE kp s τ:=by
  have hw:∀ b,Ii kp s ⟨O,0,b,[],[],[]⟩:=λb=>⟨hk,λx h=>(by cases h),λx h=>(by cases h)⟩
  induction T with
 |z=>exact λh=>⟨trivial,h⟩
 |met T=>
   intro h
   have g:=DM T (hw _) .nil h
   exact⟨λx hx=>g.1 x (List.mem_reverse.mp hx),g.2⟩
 |bi T=>exact λh=>⟨trivial,(DM T (hw _) .nil h).2⟩
 |cz T _ ih=>exact λh=>ih (DM T (hw _) .nil h).2
theorem Lk{g:Nd->Nat->List Od}:∀(ps:List Nd),(∀ p∈ps,∀ b,gL kp (g p b))->∀ b,gL kp (nr g ps b)
 |[],_,b=>λx h=>by cases h
 |n::r,h,b=>λx hx=>(dh.mp hx).elim (h n (.head _) b x) (Lk r (λp hp=>h p (.tail _ hp)) _ x)
theorem Ll{g:Nd->Nat->List Od}{e:Nat}{z:Nd}(hz:∀ b,gL kp (g z b)):∀(ps:List Nd),(∀ p∈ps,∀ b,gL kp (g p b))->∀ b,gL kp (iL g e z ps b)
 |[],_,b=>hz b
 |n::r,h,b=>λx hx=>by
  rw[jK] at hx
  rcases eC.mp hx with e|hx
  ·rw[e];trivial
  rcases dh.mp hx with hx|hx
  ·exact h n (.head _) _ x hx
  rcases eC.mp hx with e|hx
  ·rw[e];trivial
  ·exact Ll hz r (λp hp=>h p (.tail _ hp)) _ x hx
theorem mB{x:Od}(h:N8 kp x):gL kp [x]:=λy hy=>by rw[db.mp hy];exact h
theorem mC{A B:List Od}(a:gL kp A)(b:gL kp B):gL kp (A++B):=λx hx=>(dh.mp hx).elim (a x) (b x)
theorem iP{x:Od}{A:List Od}(h:N8 kp x)(a:gL kp A):gL kp (x::A):=mC (mB h) a
theorem kZ:∀(F:Nat)(n:Nd),Ky kp n->∀ b,gL kp (cp F n b)
 |0,n,_,b=>λx h=>by cases h
 |F+1,.lt n q,h,b=>by rw[xf];exact iP trivial (mC (kZ F n h.1 _) (mB h.2))
 |F+1,.nw n q,h,b=>by rw[qX];exact iP trivial (mC (kZ F n h.1 _) (mB trivial))
 |F+1,.rp n,h,b=>by rw[oA];exact iP trivial (iP trivial (iP trivial (mC (kZ F n h _) (iP trivial (mB trivial)))))
 |F+1,.ca x y,h,b=>by rw[Bx];exact Lk _ (λp hp=>kZ F p (BJ _ (jz true (.ca x y) h) p hp)) b
 |F+1,.al x y,h,b=>by
  rw[uQ]
  have hr:=jz false (.al x y) h
  have BK:=qd (fw false (.al x y)) .cu
  exact Ll (kZ F _ (hr _ (by rw[BK];exact lK _ (by rw[← BK];exact .head _)))) _ (λp hp=>kZ F p (hr p (by rw[BK];exact iS _ hp))) b
 |F+1,.sg x,h,b=>mB trivial
 |F+1,.cu,h,b=>mB trivial
 |F+1,.dT,h,b=>mB trivial
 |F+1,.fail,h,b=>mB trivial
 |F+1,.cur q,h,b=>mB trivial
 |F+1,.dU k,h,b=>mB trivial
theorem Oa{O:List Od}(fn:Nat->Nat)(h:gL kp O):gL kp (O.map (gA fn)):=λx hx=>by
 obtain⟨y,hy,rfl⟩:=lH.mp hx
 have:=h y hy
 induction y <;> exact this
theorem Ij{n:Nd}(h:Ky kp n):gL kp (codeS n):=Oa _ (mC (kZ _ n h 0) (mB trivial))
end
section
variable {kp:Nat->Option (List Nat)}{s:List Nat}{K:List (List Nat)}{j:Nat}
noncomputable def Xa(R:Res)(k:Nat):Prop:=match R with
 |.met _ nm=>nm.length<=k
 |_=>True
noncomputable def Xb(R:fe)(k:Nat):Prop:=match R with
 |.met w=>w.nm.length<=k
 |_=>True
noncomputable def Ob(R:Option (Nat×Nat×Nm))(k:Nat):Prop:=match R with
 |some z=>z.2.2.length<=k
 |none=>True
structure oK(K:List (List Nat))(j k:Nat)(σ:Hs):Prop where
 g:σ.log.length<=j+k
 v:Kd K σ.vals
theorem oK.nx{k:Nat}{σ:Hs}(h:oK K j k σ):oK K j (k+1) σ:=⟨eD h.g,h.v⟩
theorem DO(hK:∀ q key,kp q=some key->key∈K){c:List Im}{a:Nat}{nm:Nm}{σ τ:Hs}{L:List (Option Wy)}{k k':Nat}{R:Res}(T:Tr kp s c a nm σ L k R τ k'):Bd K j k L nm σ->Xa R k'/\oK K j k' τ:=by
  induction T with
 |met=>exact λb=>⟨b.n,b.g,b.v⟩
 |go X _ ih=>exact λb=>ih (b.go hK X)
 |pop X _ ih=>exact λb=>ih b.pop
 |cz X=>exact λb=>⟨trivial,eD b.g,b.v⟩
 |bi X=>exact λb=>⟨trivial,eD b.g,b.v⟩
theorem yS(hK:∀ q key,kp q=some key->key∈K){w:CW}{σ τ:Hs}{L:List (Option CW)}{k k':Nat}{R:fe}(T:Rn kp s w L σ k R τ k'):Bc K s j k L w σ->Xb R k'/\oK K j k' τ:=by
  induction T with
 |met _ _=>exact λb=>⟨eD b.n,eD b.g,b.v⟩
 |go _ X _ ih=>exact λb=>ih (b.go hK X)
 |pop _ X _ ih=>exact λb=>ih b.pop
 |cz _ X=>exact λb=>⟨trivial,eD b.g,b.v⟩
 |bi _ X=>exact λb=>⟨trivial,eD b.g,b.v⟩
theorem oK.bd{k:Nat}{σ:Hs}(h:oK K j k σ):Bd K j k [] [] σ:=⟨cF _,cF _,λw h=>(by cases h),h.g,h.v⟩
theorem oK.bc{k:Nat}{σ:Hs}{O:List Od}{b:Nat}(h:oK K j k σ):Bc K s j k [] ⟨O,0,b,[],[],[]⟩ σ:=⟨cF _,cF _,λw h=>(by cases h),h.g,h.v⟩
theorem Sz(hK:∀ q key,kp q=some key->key∈K){n:Nd}{c b:Nat}{σ τ:Hs}{k k':Nat}{R:Option (Nat×Nat×Nm)}(T:Mp kp s n c b σ k R τ k'):oK K j k σ->Ob R k'/\oK K j k' τ:=by
  induction T with
 |z=>exact λh=>⟨trivial,h⟩
 |met T=>exact λh=>DO hK T h.bd
 |bi T=>exact λh=>⟨trivial,(DO hK T h.bd).2⟩
 |cz T _ ih=>exact λh=>ih (DO hK T h.bd).2
theorem SA(hK:∀ q key,kp q=some key->key∈K){O:List Od}{c b:Nat}{σ τ:Hs}{k k':Nat}{R:Option (Nat×Nat×Nm)}(T:Mo kp s O c b σ k R τ k'):oK K j k σ->Ob R k'/\oK K j k' τ:=by
  induction T with
 |z=>exact λh=>⟨trivial,h⟩
 |@met c b σ k w τ k' T=>exact λh=>⟨by have:=(yS hK T h.bc).1;show(List.reverse w.nm).length<=k';rw[lI];exact this,(yS hK T h.bc).2⟩
 |bi T=>exact λh=>⟨trivial,(yS hK T h.bc).2⟩
 |cz T _ ih=>exact λh=>ih (yS hK T h.bc).2
noncomputable def u6(tr:Bool)(kp:Nat->Option (List Nat))(s:List Nat)(n:Nd)(c:Nat)(σ:Hs)(R:Option (Nat×Nat×Nm))(τ:Hs)(k':Nat):Prop:=match tr with
 |true=>Mp kp s n c 0 σ 0 R τ k'
 |false=>Mo kp s (codeS n) c 0 σ 0 R τ k'
theorem Oc{n:Nd}{σ:Hs}{c:Nat}(tr:Bool)(hs:s.length<10)(hk:Ky kp n)(hc:c<=s.length+1)(hv:jd σ):∃(R:Option (Nat×Nat×Nm))(τ:Hs)(k':Nat),u6 tr kp s n c σ R τ k'/\k'<=c*qh (cO n) s.length:=by
  induction tr with
 |true=>
   obtain⟨R,τ,k',T,h⟩:=Li hs hk c 0 σ 0 (by exact nt (aj [_,_] (.d ab (.s af) (.d (.s (.s af)) (.a (.n 0) ab) .z)) rfl hc)) hv
   exact⟨R,τ,k',T,by rw[fy] at h;exact h⟩
 |false=>
   obtain⟨R,τ,k',T,h⟩:=Lj hs hk c 0 σ 0 (by exact nt (aj [_,_] (.d ab (.s af) (.d (.s (.s af)) (.a (.n 0) ab) .z)) rfl hc)) hv
   exact⟨R,τ,k',T,by rw[fy] at h;exact h⟩
theorem FG{n:Nd}{σ τ:Hs}{c k':Nat}{R:Option (Nat×Nat×Nm)}{tr:Bool}(hk:Ky kp n)(T:u6 tr kp s n c σ R τ k')(h:lE kp s σ):N7 kp s R/\lE kp s τ:=by
  induction tr with
 |true=>exact Sx hk T h
 |false=>exact Sy (Ij hk) T h
theorem FH{n:Nd}{σ τ:Hs}{c k':Nat}{R:Option (Nat×Nat×Nm)}{tr:Bool}(hK:∀ q key,kp q=some key->key∈K)(T:u6 tr kp s n c σ R τ k')(h:oK K j 0 σ):Ob R k'/\oK K j k' τ:=by
  induction tr with
 |true=>exact Sz hK T h
 |false=>exact SA hK T h
theorem Oe{ρ:kU}{gB:Nat->Option (List Nat)}{n:Nd}{σ τ:Hs}{c k':Nat}{R:Option (Nat×Nat×Nm)}{tr:Bool}(hk:∀ q k,kp q=some k->gB (ρ.r q)=some (ρ.κ k))(T:u6 tr kp s n c σ R τ k'):u6 tr gB (ρ.s s) (b9 ρ n) c (gq ρ σ) (Sb ρ R) (gq ρ τ) k':=by
  induction tr with
 |true=>exact Sc hk T
 |false=>
   show Mo gB (ρ.s s) (codeS (b9 ρ n)) c 0 _ 0 _ _ _
   rw[K8]
   exact Sd hk T
theorem Ln{own:List FI}{d:Nat}{H:Hp}{h va rf lg:Nat}{m:Int}{σ τ:Hs}{n:Nd}{k':Nat}{R:Option (Nat×Nat×Nm)}{tr:Bool}(g:Rg kp K s m j){an:Bool}(hs:sz n<150)(hn:sm n)(x:HX kp h va rf lg m (0:Nat) σ H)(T:u6 tr kp s n (cnt an s) σ R τ k')(hk:(k':Int)<=m)(hl:σ.log.length<=j)(hv:Kd K σ.vals) :
   Ca (ar own) (d+11) (bif tr then 64 else 59) [nV n,.str s,.bool an,.loc h] H kp h va rf lg m k' τ (λH' v=>R3 0 H' R v):=by
  induction tr with
 |true=>exact rW (d:=d+2) g.g x T hk hl hv
 |false=>
   obtain⟨v,H',e,x',o,r⟩:=oF (d:=d) g hs (.inr hn) x T hk hl hv
   exact⟨v,H',e,x',o,r.mono (cF _)⟩
end
namespace L5
noncomputable abbrev P5:Pg:=ar Mine.L5.JV
section
variable {d:Nat}{H:Hp}{cells:List V}{ns:List Int}
structure Fd(cells:List V)(t:Nat)(H:Hp):Prop where
 h0:H[0]?=some (.list cells)
 h1:H[1]?=some (.list [.loc 0,.int t])
theorem dQ{t:Nat}{m:Int}(f:Fd cells t H)(hc:cells=ns.map .int)(hl:ns.length<=40)(ht:t<1000)(hm:0<m){zg:Prop}(zk:∀ r,(0<=r)->(r<m)->(ae P5 (d+1) 72 [.loc 1,.int m] H=some (.int r,H.set 1 (.list [.loc 0,.int (t+1:Nat)])))->zg):zg:=by
 have h0:=f.h0
 have h1:=f.h1
 have g0:(H.set 1 (.list [.loc 0,.int (t+1:Nat)]))[0]?=some (.list cells):=aa (by decide) h0
 have CY:cells.length=ns.length:=by rw[hc,cn]
 by_cases vq:t<ns.length
 ·have hn:ns[t]?=some ns[t]:=sJ vq
  have Xc:eO cells t=some (.int ns[t]):=pN rfl (by rw[hc,jN,hn];rfl)
  exact zk ((ns[t].natAbs:Int) % m) (Int.emod_nonneg _ (by omega)) (Int.emod_lt_of_pos _ hm) (ac rfl rfl (ah (aT rfl (pL (E7 h1) rfl)) (ah (aT rfl (kM rfl ak (mY h1 ⟨by decide,aE 2⟩))) (aW (ax rfl (bl rfl (dN g0)) (pO (by omega))) (aD (cw (bl (dH (bl (dH (aR rfl rfl (cr g0 Xc))) (by rfl))) (by rfl)) rfl (by exact eQ hm)))))))
 ·have b1:(t:Int).natAbs<1152921504606846976:=by omega
  have b2:((t:Int)*t).natAbs<1152921504606846976:=by
   have h:=Nat.mul_le_mul (jh ht) (jh ht)
   rw[← Int.natCast_mul];omega
  exact zk ((5*(t:Int)+(t:Int)*t / 3+10+cells.length) % m) (Int.emod_nonneg _ (by omega)) (Int.emod_lt_of_pos _ hm) (ac rfl rfl (ah (aT rfl (pL (E7 h1) rfl)) (ah (aT rfl (kM rfl ak (mY h1 ⟨by decide,aE 2⟩))) (bh (ax rfl (bl rfl (dN g0)) (eJ (by omega))) (aD (cw (cw (cw (cw (cw ak rfl (eQ ⟨by decide,b1⟩)) (cw (cw rfl rfl (eQ ⟨b1,b1⟩)) ak (eQ ⟨by decide,b2,by decide⟩)) (by rfl)) ak (by rfl)) (bl rfl (dN g0)) (by rfl)) rfl (by exact eQ hm)))))))
theorem Fd.step{t:Nat}(f:Fd cells t H):Fd cells (t+1) (H.set 1 (.list [.loc 0,.int (t+1:Nat)])):=⟨aa (by decide) f.h0,au f.h1⟩
theorem Fd.app{t:Nat}(f:Fd cells t H)(x:Hp):Fd cells t (H++x):=⟨ag f.h0,ag f.h1⟩
structure F1(H H':Hp):Prop where
 len:H.length<=H'.length
 off:∀ i x,i≠1->H[i]?=some x->H'[i]?=some x
theorem F1.refl:F1 H H:=⟨aE _,λ_ _ _ h=>h⟩
theorem F1.trans{H1 H2:Hp}(a:F1 H H1)(b:F1 H1 H2):F1 H H2:=⟨bv a.len b.len,λi x h1 h=>b.off i x h1 (a.off i x h1 h)⟩
theorem F1.set{x:O}:F1 H (H.set 1 x):=⟨by rw[dt];exact aE _,λi x h1 h=>aa h1.symm h⟩
theorem F1.app(x:Hp):F1 H (H++x):=⟨by rw[aK];exact dq _ _,λi x h1 h=>ag h⟩
noncomputable def pV:Nd->V
 |.sg x=>rV x
 |.al a b=>.tup [.str [97,108,116],pV a,pV b]
 |.ca a b=>.tup [.str [99,97,116],pV a,pV b]
 |.rp n=>.tup [.str [97,114,98,110,111],pV n]
 |.lt n q=>.tup [.str [108,97,116,101,114],pV n,.str [q]]
 |.nw n q=>.tup [.str [110,111,119],pV n,.str [q]]
 |.cu=>.tup [.str [97,114,98]]
 |.dT=>.tup [.str [102,101,110,99,101]]
 |.fail=>.tup [.str [102,97,105,108]]
 |.cur q=>.tup [.str [99,117,114,115,111,114],.str [q]]
 |.dU k=>.tup [.str [100,101,108,97,121],.tup [.str [110,97,109,101],.str k]]
noncomputable def Abc(t:List Nat):Prop:=∀ c∈t,c=97\/c=98\/c=99
noncomputable def Pq(q:Nat):Prop:=q=80\/q=81
noncomputable def SD:Sg->Prop
 |.ch t=>Abc t/\t.length<=2
 |.any t=>Abc t/\t.length<=2
 |.fc t=>Abc t/\t.length<=2
 |.span t=>Abc t/\t.length<=2
 |.brk t=>Abc t/\t.length<=2
 |_=>True
noncomputable def Pw:Nd->Prop
 |.sg x=>SD x
 |.al a b=>Pw a/\Pw b
 |.ca a b=>Pw a/\Pw b
 |.rp n=>Pw n
 |.lt n q=>Pw n/\Pq q
 |.nw n q=>Pw n/\Pq q
 |.cu=>True
 |.dT=>True
 |.fail=>False
 |.cur q=>Pq q
 |.dU k=>∃ q,k=[q]/\Pq q
noncomputable def cc:Nat->Nat
 |0=>2
 |n+1=>2*cc n+2
structure Nk(cells:List V)(H:Hp)(t deep:Nat)(n:Nd)(t':Nat)(H':Hp):Prop where
 fd:Fd cells t' H'
 t:t'<=t+cc deep
 f1:F1 H H'
 pw:Pw n
 dep:gU (cO n)<=deep
 sz:sz n+1<=2 ^ (deep+1)
noncomputable abbrev l2:List V:=[.str [108,101,110],.str [112,111,115],.str [114,112,111,115],.str [116,97,98],.str [114,116,97,98]]
noncomputable abbrev l3:List V:=[.str [97,110,121],.str [110,111,116,97,110,121],.str [98,114,101,97,107],.str [115,112,97,110]]
noncomputable abbrev l5(q:Nat):List V:=[.tup [.str [114,101,109]],.tup [.str [97,114,98]],.tup [.str [102,101,110,99,101]],.tup [.str [100,101,108,97,121],.tup [.str [110,97,109,101],.str [q]]]]
theorem jA{t:List Nat}(h:t.all (λc=>c==97 || c==98 || c==99)=true):Abc t:=λc hc=>by
 have:=fz.mp h c hc
 rw[Bool.or_eq_true,Bool.or_eq_true,beq_iff_eq,beq_iff_eq,beq_iff_eq] at this
 rcases this with(h|h)|h
 ·exact .inl h
 ·exact .inr (.inl h)
 ·exact .inr (.inr h)
noncomputable def Lq(P:Nat->Prop):Nat->Prop
 |0=>True
 |n+1=>Lq P n/\P n
theorem FK{P:Nat->Prop}:∀{n:Nat},Lq P n->∀ k,k<n->P k
 |n+1,h,k,hk=>by
  by_cases e:k=n
  ·exact e▸h.2
  ·exact FK h.1 k (Nat.lt_of_le_of_ne (Nat.le_of_lt_succ hk) e)
theorem DP{P:Int->Prop}(a n:Nat)(h:Lq (λk=>P ((a+k:Nat):Int)) n)(r:Int)(h0:(a:Int)<=r)(h1:r<((a+n:Nat):Int)):P r:=by
 obtain⟨k,rfl⟩:=Int.eq_ofNat_of_zero_le (Int.le_trans (nF a) h0)
 have:=FK h (k-a) (by omega)
 rwa [show a+(k-a)=k by omega] at this
theorem Lr(r:Int)(h0:0<=r)(h1:r<5){zg:Prop}(zk:∀ t:List Nat,Abc t/\t.length<=2->eO [V.str [97],.str [98],.str [98,99],.str [99,97],.str []] r=some (.str t)->zg):zg:=by
 exact DP (P:=λq=>q=r->zg) 0 5 ⟨⟨⟨⟨⟨trivial,λe=>zk [97] ⟨jA (by decide),by decide⟩ (e▸rfl)⟩,λe=>zk [98] ⟨jA (by decide),by decide⟩ (e▸rfl)⟩,λe=>zk [98,99] ⟨jA (by decide),by decide⟩ (e▸rfl)⟩,λe=>zk [99,97] ⟨jA (by decide),by decide⟩ (e▸rfl)⟩,λe=>zk [] ⟨jA (by decide),by decide⟩ (e▸rfl)⟩ r h0 h1 rfl
theorem Ls(r:Int)(h0:0<=r)(h1:r<3){zg:Prop}(zk:∀ t:List Nat,Abc t/\t.length<=2->eO [V.str [97],.str [98,99],.str [97,99]] r=some (.str t)->zg):zg:=by
 exact DP (P:=λq=>q=r->zg) 0 3 ⟨⟨⟨trivial,λe=>zk [97] ⟨jA (by decide),by decide⟩ (e▸rfl)⟩,λe=>zk [98,99] ⟨jA (by decide),by decide⟩ (e▸rfl)⟩,λe=>zk [97,99] ⟨jA (by decide),by decide⟩ (e▸rfl)⟩ r h0 h1 rfl
theorem O1(r:Int)(h0:0<=r)(h1:r<2){zg:Prop}(zk:∀ q:Nat,Pq q->(∀ H:Hp,gE H (.str [80,81]) (.int r)=some (.str [q]))->zg):zg:=by
 have:r=0\/r=1:=by omega
 rcases this with rfl|rfl
 ·exact zk 80 (.inl rfl) λ_=>rfl
 ·exact zk 81 (.inr rfl) λ_=>rfl
inductive BO(D:Nat)(cells:List V)(H:Hp)(t:Nat):Prop where
 |mk (n:Nd) (t':Nat) (H':Hp) (e:ae P5 (D+2) 73 [.loc 1] H=some (pV n,H')) (k:Nk cells H t 0 n t' H'):BO D cells H t
theorem BP{D t:Nat}(hc:cells=ns.map .int)(hl:ns.length<=40)(f:Fd cells t H)(ht:t+2<1000):BO D cells H t:=by
 refine dQ (d:=D) (m:=16) f hc hl (by exact nl (aj [_] (.d (.s (.a ab (.n 2))) (.n 1000) (.d (.n 1000) ab .z)) rfl ht)) (by decide) λr h0 h1 e0=>?_
 have f1:=f.step
 by_cases r2:r<2
 ·refine dQ (d:=D) (m:=5) (f1.app [.list [.str [97],.str [98],.str [98,99],.str [99,97],.str []]]) hc hl (by exact nl (aj [_] (.d (.s (.a ab (.n 2))) (.n 1000) (.d (.n 1000) (.s ab) .z)) rfl ht)) (by decide) λq h2 h3 e1=>?_
  refine Lr q h2 h3 λs hs hx=>?_
  exact⟨.sg (.ch s),t+1+1,_,ac rfl rfl (bk (az rfl e0) (aW (ax rfl ak (pO (by omega))) (aD (aU (aV ak (aR (bq rfl) (az rfl e1) (by exact cr (aa (aG f1.h1) am) hx))))))),(f1.app _).step,aE _,(F1.set.trans (F1.app _)).trans F1.set,hs,aE _,aE _⟩
 by_cases r7:r<7
 ·refine dQ (d:=D) (m:=4) (f1.app [.list [.str [108,101,110],.str [112,111,115],.str [114,112,111,115],.str [116,97,98],.str [114,116,97,98]]]) hc hl (by exact nl (aj [_] (.d (.s (.a ab (.n 2))) (.n 1000) (.d (.n 1000) (.s ab) .z)) rfl ht)) (by decide) λq h2 h3 e1=>?_
  obtain⟨k,rfl⟩:=Int.eq_ofNat_of_zero_le h2
  have ff:=(f1.app [.list [.str [108,101,110],.str [112,111,115],.str [114,112,111,115],.str [116,97,98],.str [114,116,97,98]]]).step
  have g:=((F1.set (H:=H) (x:=.list [.loc 0,.int (t+1:Nat)])).trans (F1.app [.list [.str [108,101,110],.str [112,111,115],.str [114,112,111,115],.str [116,97,98],.str [114,116,97,98]]])).trans (F1.set (x:=.list [.loc 0,.int (t+1+1:Nat)]))
  have go:∀(x:Sg)(w:List Nat),rV x=.tup [.str w,.int k]->SD x->eO l2 (r-2)=some (.str w)->BO D cells H t:=λx w hv hp hx=>by
   refine⟨.sg x,t+1+1,_,?_,ff,aE _,g,hp,aE _,aE _⟩
   rw[show pV (.sg x)=.tup [.str w,.int k] from hv]
   exact ac rfl rfl (bk (az rfl e0) (bh (ax rfl ak (eJ (by omega))) (aW (ax rfl ak (pO (by omega))) (aD (aU (aV (aR (bq rfl) rfl (by exact cr am hx)) (az rfl e1)))))))
  exact DP (P:=λq=>q=r->BO D cells H t) 2 5 ⟨⟨⟨⟨⟨trivial,λe=>go (.len k) _ rfl trivial (e▸rfl)⟩,λe=>go (.pos k) _ rfl trivial (e▸rfl)⟩,λe=>go (.gH k) _ rfl trivial (e▸rfl)⟩,λe=>go (.tab k) _ rfl trivial (e▸rfl)⟩,λe=>go (.gI k) _ rfl trivial (e▸rfl)⟩ r (by omega) (by omega) rfl
 by_cases X2:r<11
 ·refine dQ (d:=D) (m:=3) ((f1.app [.list [.str [97,110,121],.str [110,111,116,97,110,121],.str [98,114,101,97,107],.str [115,112,97,110]]]).app [.list [.str [97],.str [98,99],.str [97,99]]]) hc hl (by exact nl (aj [_] (.d (.s (.a ab (.n 2))) (.n 1000) (.d (.n 1000) (.s ab) .z)) rfl ht)) (by decide) λq h2 h3 e1=>?_
  refine Ls q h2 h3 λs hs hy=>?_
  have ff:=((f1.app [.list [.str [97,110,121],.str [110,111,116,97,110,121],.str [98,114,101,97,107],.str [115,112,97,110]]]).app [.list [.str [97],.str [98,99],.str [97,99]]]).step
  have g:=(((F1.set (H:=H) (x:=.list [.loc 0,.int (t+1:Nat)])).trans (F1.app [.list [.str [97,110,121],.str [110,111,116,97,110,121],.str [98,114,101,97,107],.str [115,112,97,110]]])).trans (F1.app [.list [.str [97],.str [98,99],.str [97,99]]])).trans (F1.set (x:=.list [.loc 0,.int (t+1+1:Nat)]))
  have go:∀(x:Sg)(w:List Nat),rV x=.tup [.str w,.str s]->SD x->eO l3 (r-7)=some (.str w)->BO D cells H t:=λx w hv hp hx=>by
   refine⟨.sg x,t+1+1,_,?_,ff,aE _,g,hp,aE _,aE _⟩
   rw[show pV (.sg x)=.tup [.str w,.str s] from hv]
   exact ac rfl rfl (bk (az rfl e0) (bh (ax rfl ak (eJ (by omega))) (bh (ax rfl ak (eJ (by omega))) (aW (ax rfl ak (pO (by omega))) (aD (aU (aV (aR (bq rfl) rfl (by exact cr am hx)) (aR (bq rfl) (az rfl e1) (by exact cr (aa (aG (ag (y:=[O.list [.str [97,110,121],.str [110,111,116,97,110,121],.str [98,114,101,97,107],.str [115,112,97,110]]]) f1.h1)) am) hy)))))))))
  exact DP (P:=λq=>q=r->BO D cells H t) 7 4 ⟨⟨⟨⟨trivial,λe=>go (.any s) _ rfl hs (e▸rfl)⟩,λe=>go (.fc s) _ rfl hs (e▸rfl)⟩,λe=>go (.brk s) _ rfl hs (e▸rfl)⟩,λe=>go (.span s) _ rfl hs (e▸rfl)⟩ r (by omega) (by omega) rfl
 refine dQ (d:=D) (m:=2) f1 hc hl (by exact nl (aj [_] (.d (.s (.a ab (.n 2))) (.n 1000) (.d (.n 1000) (.s ab) .z)) rfl ht)) (by decide) λq h2 h3 e1=>?_
 refine O1 q h2 h3 λq hq hy=>?_
 by_cases re:r=11
 ·exact⟨.cur q,t+1+1,_,ac rfl rfl (bk (az rfl e0) (bh (ax rfl ak (eJ (by omega))) (bh (ax rfl ak (eJ (by omega))) (bh (ax rfl ak (eJ (by omega))) (aW (ax rfl ak (M2 (by omega))) (aD (aU (aV ak (aR ak (az rfl e1) (hy _)))))))))),f1.step,aE _,F1.set.trans F1.set,hq,aE _,aE _⟩
 have ff:=f1.step.app [.list [.tup [.str [114,101,109]],.tup [.str [97,114,98]],.tup [.str [102,101,110,99,101]],.tup [.str [100,101,108,97,121],.tup [.str [110,97,109,101],.str [q]]]]]
 have g:=((F1.set (H:=H) (x:=.list [.loc 0,.int (t+1:Nat)])).trans (F1.set (x:=.list [.loc 0,.int (t+1+1:Nat)]))).trans (F1.app [.list [.tup [.str [114,101,109]],.tup [.str [97,114,98]],.tup [.str [102,101,110,99,101]],.tup [.str [100,101,108,97,121],.tup [.str [110,97,109,101],.str [q]]]]])
 have go:∀(n:Nd),cO n=.le->sz n=1->Pw n->eO (l5 q) (r-12)=some (pV n)->BO D cells H t:=λn hn hz hp hx=>
  ⟨n,t+1+1,_,ac rfl rfl (bk (az rfl e0) (bh (ax rfl ak (eJ (by omega))) (bh (ax rfl ak (eJ (by omega))) (bh (ax rfl ak (eJ (by omega))) (bh (ax rfl ak (yq (by omega))) (aD (aR (bq (aM rfl (aM rfl (aV rfl (aU (aV ak (aU (aV ak (aR ak (az rfl e1) (hy _)))))))))) rfl (by exact cr am hx)))))))),ff,aE _,g,hp,by rw[hn];exact aE _,by rw[hz];exact aE _⟩
 exact DP (P:=λq=>q=r->BO D cells H t) 12 4 ⟨⟨⟨⟨trivial,λe=>go (.sg .rem) rfl rfl trivial (e▸rfl)⟩,λe=>go .cu rfl rfl trivial (e▸rfl)⟩,λe=>go .dT rfl rfl trivial (e▸rfl)⟩,λe=>go (.dU [q]) rfl rfl ⟨q,rfl,hq⟩ (e▸rfl)⟩ r (by omega) (by omega) rfl
end
end L5
namespace L5
section
variable {D:Nat}{H:Hp}{cells:List V}{ns:List Int}
theorem u7{k:Nat}{H:Hp}:zp .sub (.int (k+1:Nat)) (.int 1) H=some (.int k,H):=by
 show some (V.int (((k+1:Nat):Int)-1),H)=_
 rw[show((k+1:Nat):Int)-1=k by omega]
noncomputable abbrev Of:List V:=[.str [108,97,116,101,114],.str [110,111,119]]
noncomputable abbrev SE:List V:=[.str [99,97,116],.str [97,108,116]]
inductive Lu(D:Nat)(cells:List V)(H:Hp)(t deep:Nat):Prop where
 |mk (n:Nd) (t':Nat) (H':Hp) (e:ae P5 (D+deep+3) 74 [.loc 1,.int deep] H=some (pV n,H')) (k:Nk cells H t deep n t' H'):Lu D cells H t deep
theorem eA(hc:cells=ns.map .int)(hl:ns.length<=40):∀(deep t:Nat)(H:Hp),Fd cells t H->t+cc deep<1000->Lu D cells H t deep
 |0,t,H,f,ht=>by
    obtain⟨n,t',H',e1,k⟩:=BP (D:=D) hc hl f ht
    exact⟨n,t',H',ac rfl rfl (ah rfl (aW rfl (aD (az rfl e1)))),k⟩
 |deep+1,t,H,f,ht=>by
    have oM:cc (deep+1)=2*cc deep+2:=rfl
    have BQ:2 ^ (deep+1+1)=2*2 ^ (deep+1):=by rw[Nat.pow_succ,Nat.mul_comm]
    have SF:2<=2 ^ (deep+1):=by rw[Nat.pow_succ];have:=Nat.two_pow_pos deep;exact nt (aj [_] (.c 2 (.s (.n 0)) ab (.d (.s (.r ab 2)) (.n 2) .z)) rfl this)
    have jg:2<=cc deep:=by induction deep with
     |zero=>exact aE _
     |succ n=>show 2<=2*cc n+2;exact nt (aj [_] (.d (.s (.a (.m 2 ab) (.n 2))) (.n 2) .z) rfl)
    refine dQ (d:=D+deep+2) (m:=9) f hc hl (by exact nl (aj [_,_,_] (.d (.s (.a ab af)) (.n 1000) (.d (.a (.m 2 aq) (.n 2)) af (.c 2 (.n 2) aq (.d (.n 1000) ab .z)))) rfl ht (bx (cP oM)) jg)) (by decide) λr h0 h1 e0=>?_
    have f1:=f.step
    by_cases hr:r<2
    · obtain⟨n,t',H',e1,k⟩:=BP (D:=D+deep+1) hc hl f1 (by exact nl (aj [_,_,_] (.d (.s (.a ab af)) (.n 1000) (.d (.a (.m 2 aq) (.n 2)) af (.c 2 (.n 2) aq (.d (.n 1000) (.a (.s ab) (.n 2)) .z)))) rfl ht (bx (cP oM)) jg))
      have kt:=k.t
      have kd:=k.dep
      have kz:=k.sz
      have h2:cc 0=2:=rfl
      exact⟨n,t',H',ac rfl rfl (bk (cK (ax rfl ak (e6 (by omega))) (az rfl e0)) (aW (ax rfl ak (pO (by omega))) (aD (az rfl e1)))),k.fd,by exact nt (aj [_,_,_,_,_] (.d (.a (.m 2 ab) (.n 2)) af (.c 2 (.n 2) ab (.d aq (.a (.s aA) bU) (.d bU (.n 2) (.d (.s (.a aA af)) aq .z))))) rfl (bx (cP oM)) jg kt (bx h2)),F1.set.trans k.f1,k.pw,by exact nt (aj [_,_] (.d ab (.n 0) (.d (.s (.s af)) ab .z)) rfl kd),by omega⟩
    by_cases MY:r=8
    · subst MY
      obtain⟨a,t2,H2,e1,ka⟩:=eA hc hl deep (t+1) _ f1 (by exact nl (aj [_,_,_] (.d (.s (.a ab af)) (.n 1000) (.d (.a (.m 2 aq) (.n 2)) af (.d (.n 2) aq (.d (.n 1000) (.a (.s ab) aq) .z)))) rfl ht (bx (cP oM)) jg))
      have kt:=ka.t
      have kz:=ka.sz
      exact⟨.rp a,t2,H2,ac rfl rfl (bk (cK (ax rfl ak (e6 (by omega))) (az rfl e0)) (bh (ax rfl ak (eJ (by omega))) (aW rfl (aD (aU (aV ak (az (aV rfl (cw rfl ak u7)) e1))))))),ka.fd,by exact nt (aj [_,_,_,_] (.d (.a (.m 2 ab) (.n 2)) af (.d (.n 2) ab (.d aq (.a (.s aA) ab) (.d (.s (.a aA af)) aq .z)))) rfl (bx (cP oM)) jg kt),F1.set.trans ka.f1,ka.pw,lG ka.dep,by show sz a+1+1<=_;exact nt (aj [_,_,_] (.d (.m 2 ab) af (.d (.n 2) ab (.d (.s aq) ab (.d (.s af) (.s (.s aq)) .z)))) rfl (bx (cP BQ)) SF kz)⟩
    by_cases xX:5<r
    · obtain⟨a,t2,H2,e1,ka⟩:=eA hc hl deep (t+1) _ (f1.app [.list Of]) (by exact nl (aj [_,_,_] (.d (.s (.a ab af)) (.n 1000) (.d (.a (.m 2 aq) (.n 2)) af (.d (.n 2) aq (.d (.n 1000) (.a (.s ab) aq) .z)))) rfl ht (bx (cP oM)) jg))
      have kt:=ka.t
      have kz:=ka.sz
      refine dQ (d:=D+deep+2) (m:=2) ka.fd hc hl (by exact nl (aj [_,_,_,_] (.d (.s (.a ab af)) (.n 1000) (.d (.a (.m 2 aq) (.n 2)) af (.d (.n 2) aq (.d aA (.a (.s ab) aq) (.d (.n 1000) aA .z))))) rfl ht (bx (cP oM)) jg kt)) (by decide) λq h2 h3 e2=>?_
      refine O1 q h2 h3 λk hq hk=>?_
      have ff:=ka.fd.step
      have g:=((F1.set (H:=H) (x:=.list [.loc 0,.int (t+1:Nat)])).trans ((F1.app [.list Of]).trans ka.f1)).trans (F1.set (x:=.list [.loc 0,.int (t2+1:Nat)]))
      have:r=6\/r=7:=by omega
      rcases this with rfl|rfl
      · have hx:eO Of ((6:Int)-6)=some (.str [108,97,116,101,114]):=rfl
        exact⟨.lt a k,t2+1,_,ac rfl rfl (bk (cK (ax rfl ak (e6 (by omega))) (az rfl e0)) (bh (ax rfl ak (eJ (by omega))) (ah rfl (aW (ax rfl ak (e6 (by omega))) (aD (aU (aM (aR (bq rfl) rfl (by exact cr am hx)) (aV (az (aV rfl (cw rfl ak u7)) e1) (aR ak (az rfl e2) ((hk _))))))))))),ff,by exact nt (aj [_,_,_,_] (.d (.a (.m 2 ab) (.n 2)) af (.d (.n 2) ab (.d aq (.a (.s aA) ab) (.d (.s (.a aA af)) (.s aq) .z)))) rfl (bx (cP oM)) jg kt),g,⟨ka.pw,hq⟩,lG ka.dep,by show sz a+1+1<=_;exact nt (aj [_,_,_] (.d (.m 2 ab) af (.d (.n 2) ab (.d (.s aq) ab (.d (.s af) (.s (.s aq)) .z)))) rfl (bx (cP BQ)) SF kz)⟩
      · have hx:eO Of ((7:Int)-6)=some (.str [110,111,119]):=rfl
        exact⟨.nw a k,t2+1,_,ac rfl rfl (bk (cK (ax rfl ak (e6 (by omega))) (az rfl e0)) (bh (ax rfl ak (eJ (by omega))) (ah rfl (aW (ax rfl ak (e6 (by omega))) (aD (aU (aM (aR (bq rfl) rfl (by exact cr am hx)) (aV (az (aV rfl (cw rfl ak u7)) e1) (aR ak (az rfl e2) ((hk _))))))))))),ff,by exact nt (aj [_,_,_,_] (.d (.a (.m 2 ab) (.n 2)) af (.d (.n 2) ab (.d aq (.a (.s aA) ab) (.d (.s (.a aA af)) (.s aq) .z)))) rfl (bx (cP oM)) jg kt),g,⟨ka.pw,hq⟩,lG ka.dep,by show sz a+1+1<=_;exact nt (aj [_,_,_] (.d (.m 2 ab) af (.d (.n 2) ab (.d (.s aq) ab (.d (.s af) (.s (.s aq)) .z)))) rfl (bx (cP BQ)) SF kz)⟩
    · obtain⟨a,t2,H2,e1,ka⟩:=eA hc hl deep (t+1) _ (f1.app [.list SE]) (by exact nl (aj [_,_,_] (.d (.s (.a ab af)) (.n 1000) (.d (.a (.m 2 aq) (.n 2)) af (.d (.n 2) aq (.d (.n 1000) (.a (.s ab) aq) .z)))) rfl ht (bx (cP oM)) jg))
      have kt:=ka.t
      have kz:=ka.sz
      obtain⟨b,t3,H3,e2,kb⟩:=eA hc hl deep t2 H2 ka.fd (by exact nl (aj [_,_,_,_] (.d (.s (.a ab af)) (.n 1000) (.d (.a (.m 2 aq) (.n 2)) af (.d aA (.a (.s ab) aq) (.d (.n 1000) (.a aA aq) .z)))) rfl ht (bx (cP oM)) kt))
      have UT:=kb.t
      have UU:=kb.sz
      have ff:=((F1.set (H:=H)).trans ((F1.app _).trans ka.f1)).trans kb.f1
      have O3:max (gU (cO a)) (gU (cO b))+1<=deep+1:=lG (Nat.max_le.mpr ⟨ka.dep,kb.dep⟩)
      by_cases hm:r % 2=0
      · have hx:eO SE (r % 2)=some (.str [99,97,116]):=by rw[hm];rfl
        exact⟨.ca a b,t3,H3,ac rfl rfl (bk (cK (ax rfl ak (e6 (by omega))) (az rfl e0)) (bh (ax rfl ak (eJ (by omega))) (bh (ax rfl ak (yq (by omega))) (bh (ax rfl ak (yn (by omega))) (aD (aU (aM (aR (bq rfl) rfl (by exact cr am hx)) (aV (az (aV rfl (cw rfl ak u7)) e1) (az (aV rfl (cw rfl ak u7)) e2))))))))),kb.fd,by exact nt (aj [_,_,_,_,_] (.d (.a (.m 2 ab) (.n 2)) af (.d aq (.a (.s aA) ab) (.d bU (.a aq ab) (.d (.s (.a aA af)) bU .z)))) rfl (bx (cP oM)) kt UT),ff,⟨ka.pw,kb.pw⟩,O3,by show sz a+sz b+1+1<=_;exact nt (aj [_,_,_,_] (.d (.m 2 ab) af (.d (.s aq) ab (.d (.s aA) ab (.d (.s af) (.s (.s (.a aq aA))) .z)))) rfl (bx (cP BQ)) kz UU)⟩
      · have hx:eO SE (r % 2)=some (.str [97,108,116]):=by rw[show r % 2=1 by omega];rfl
        exact⟨.al a b,t3,H3,ac rfl rfl (bk (cK (ax rfl ak (e6 (by omega))) (az rfl e0)) (bh (ax rfl ak (eJ (by omega))) (bh (ax rfl ak (yq (by omega))) (bh (ax rfl ak (yn (by omega))) (aD (aU (aM (aR (bq rfl) rfl (by exact cr am hx)) (aV (az (aV rfl (cw rfl ak u7)) e1) (az (aV rfl (cw rfl ak u7)) e2))))))))),kb.fd,by exact nt (aj [_,_,_,_,_] (.d (.a (.m 2 ab) (.n 2)) af (.d aq (.a (.s aA) ab) (.d bU (.a aq ab) (.d (.s (.a aA af)) bU .z)))) rfl (bx (cP oM)) kt UT),ff,⟨ka.pw,kb.pw⟩,O3,by show sz a+sz b+1+1<=_;exact nt (aj [_,_,_,_] (.d (.m 2 ab) af (.d (.s aq) ab (.d (.s aA) ab (.d (.s af) (.s (.s (.a aq aA))) .z)))) rfl (bx (cP BQ)) kz UU)⟩
noncomputable abbrev X3(D:Nat)(H:Hp)(n:Nd):Prop:=∀ d,D<=d->ae P5 d 75 [pV n] H=some (.bool (ej (cO n)),H)
theorem mD{n:Nd}{w:List Nat}(hn:ej (cO n)=false)(h0:gE H (pV n) (.int 0)=some (.str w))(h1:bY H .isin (.str w) (.tup [.str [99,97,116],.str [97,108,116]])=some false)(h2:bY H .eq (.str w) (.str [97,114,98,110,111])=some false)(h3:bY H .isin (.str w) (.tup [.str [108,97,116,101,114],.str [110,111,119]])=some false):∀ d,ae P5 (d+1) 75 [pV n] H=some (.bool (ej (cO n)),H):=λd=>by
 rw[hn];exact ac rfl rfl (bh (ax (aR rfl ak h0) rfl h1) (aD (iD (ax (aR rfl ak h0) ak h2) (iD (ed (ax (aR rfl ak h0) rfl h3)) qM))))
theorem fV:∀(n:Nd),Pw n->∀ deep d,gU (cO n)<=deep->ae P5 (d+deep+1) 75 [pV n] H=some (.bool (ej (cO n)),H)
 |.sg x,_,deep,d,_=>mD (w:=vH x) rfl (by induction x <;> rfl) (by induction x <;> rfl) (by induction x <;> rfl) (by induction x <;> rfl) _
 |.cu,_,deep,d,_=>mD (n:=.cu) rfl rfl rfl rfl rfl _
 |.dT,_,deep,d,_=>mD (n:=.dT) rfl rfl rfl rfl rfl _
 |.cur q,_,deep,d,_=>mD (n:=.cur q) rfl rfl rfl rfl rfl _
 |.dU k,_,deep,d,_=>mD (n:=.dU k) rfl rfl rfl rfl rfl _
 |.rp n,_,deep,d,_=>ac rfl rfl rfl
 |.lt n q,h,deep+1,d,hd=>by
   have e1:=fV n h.1 deep d (iT hd)
   show _=some (V.bool (ej (cO n)),H)
   revert e1
   cases ej (cO n) with
  |true=>intro e1;exact ac rfl rfl (ah rfl (aD (iD rfl (mW (dA rfl (dA (az rfl e1) jt))))))
  |false=>intro e1;exact ac rfl rfl (ah rfl (aD (iD rfl (iD (dA rfl (ed (az rfl e1))) qM))))
 |.nw n q,h,deep+1,d,hd=>by
   have e1:=fV n h.1 deep d (iT hd)
   show _=some (V.bool (ej (cO n)),H)
   revert e1
   cases ej (cO n) with
  |true=>intro e1;exact ac rfl rfl (ah rfl (aD (iD rfl (mW (dA rfl (dA (az rfl e1) jt))))))
  |false=>intro e1;exact ac rfl rfl (ah rfl (aD (iD rfl (iD (dA rfl (ed (az rfl e1))) qM))))
 |.ca a b,h,deep+1,d,hd=>by
   have hd:max (gU (cO a)) (gU (cO b))<=deep:=iT hd
   have e1:=fV a h.1 deep d (by omega)
   have e2:=fV b h.2 deep d (by omega)
   show _=some (V.bool (ej (cO a) || ej (cO b)),H)
   revert e1 e2
   cases ej (cO a) with
  |true=>intro e1 e2;exact ac rfl rfl (aW rfl (aD (mW (az rfl e1))))
  |false=>cases ej (cO b) with
    |true=>intro e1 e2;exact ac rfl rfl (aW rfl (aD (iD (az rfl e1) (mW (az rfl e2)))))
    |false=>intro e1 e2;exact ac rfl rfl (aW rfl (aD (iD (az rfl e1) (iD (az rfl e2) qM))))
 |.al a b,h,deep+1,d,hd=>by
   have hd:max (gU (cO a)) (gU (cO b))<=deep:=iT hd
   have e1:=fV a h.1 deep d (by omega)
   have e2:=fV b h.2 deep d (by omega)
   show _=some (V.bool (ej (cO a) || ej (cO b)),H)
   revert e1 e2
   cases ej (cO a) with
  |true=>intro e1 e2;exact ac rfl rfl (aW rfl (aD (mW (az rfl e1))))
  |false=>cases ej (cO b) with
    |true=>intro e1 e2;exact ac rfl rfl (aW rfl (aD (iD (az rfl e1) (mW (az rfl e2)))))
    |false=>intro e1 e2;exact ac rfl rfl (aW rfl (aD (iD (az rfl e1) (iD (az rfl e2) qM))))
end
end L5
namespace L5
noncomputable def SG(f:Nat->Nat):Sg->Sg
 |.ch t=>.ch (t.map f)
 |.any t=>.any (t.map f)
 |.fc t=>.fc (t.map f)
 |.span t=>.span (t.map f)
 |.brk t=>.brk (t.map f)
 |x=>x
noncomputable def Xd(f:Nat->Nat):Sg->List (Bool×List Nat)
 |.ch t=>[(false,t.map f)]
 |.any t=>[(false,t.map f)]
 |.fc t=>[(false,t.map f)]
 |.span t=>[(false,t.map f)]
 |.brk t=>[(false,t.map f)]
 |_=>[]
noncomputable def bZ(f:Nat->Nat)(κ:List Nat->List Nat):Nd->List (Bool×List Nat)
 |.sg x=>Xd f x
 |.al a b=>bZ f κ a++bZ f κ b
 |.ca a b=>bZ f κ a++bZ f κ b
 |.rp n=>bZ f κ n
 |.lt n q=>bZ f κ n++[(true,κ [q])]
 |.nw n q=>bZ f κ n++[(true,κ [q])]
 |.cur q=>[(true,κ [q])]
 |_=>[]
noncomputable def gv(f:Nat->Nat)(κ:List Nat->List Nat):Nd->Nat->Nd
 |.sg x,_=>.sg (SG f x)
 |.al a b,N=>.al (gv f κ a N) (gv f κ b (N+(bZ f κ a).length))
 |.ca a b,N=>.ca (gv f κ a N) (gv f κ b (N+(bZ f κ a).length))
 |.rp n,N=>.rp (gv f κ n N)
 |.lt n _,N=>.lt (gv f κ n N) (N+(bZ f κ n).length)
 |.nw n _,N=>.nw (gv f κ n N) (N+(bZ f κ n).length)
 |.cur _,N=>.cur N
 |.dU k,_=>.dU (κ k)
 |n,_=>n
noncomputable def ga(t:List Nat):List V:=t.map λc=>.str [c]
noncomputable def Xe(x:Bool×List Nat):O:=bif x.1 then A0 x.2 else .list (ga x.2)
noncomputable def iB(l:List (Bool×List Nat)):Hp:=l.map Xe
theorem qi(a b:List (Bool×List Nat)):iB (a++b)=iB a++iB b:=dE
theorem qj(a:List (Bool×List Nat)):(iB a).length=a.length:=cn ..
structure Dx(f:Nat->Nat)(κ:List Nat->List Nat)(sg nm:Nat)(H:Hp):Prop where
 s:∃ es,H[sg]?=some (.dict es)/\∀ c,(c=97\/c=98\/c=99)->bz [c] es=some (.str [f c])
 n:∃ es,H[nm]?=some (.dict es)/\∀ q,Pq q->bz [q] es=some (.str (κ [q]))
section
variable {f:Nat->Nat}{κ:List Nat->List Nat}{sg nm d:Nat}{H G:Hp}
theorem Dx.gr(x:Dx f κ sg nm H)(g:Gr H G):Dx f κ sg nm G:=by
 obtain⟨⟨es,h1,h2⟩,⟨fs,h3,h4⟩⟩:=x
 exact⟨⟨es,g.at h1,h2⟩,⟨fs,g.at h3,h4⟩⟩
theorem Dx.sign(x:Dx f κ sg nm H){c:Nat}(hc:c=97\/c=98\/c=99):gE H (.loc sg) (.str [c])=some (.str [f c]):=by
 obtain⟨es,h1,h2⟩:=x.s
 exact(sr h1).trans (h2 c hc)
theorem Dx.name(x:Dx f κ sg nm H){q:Nat}(hq:Pq q):gE H (.loc nm) (.str [q])=some (.str (κ [q])):=by
 obtain⟨es,h1,h2⟩:=x.n
 exact(sr h1).trans (h2 q hq)
theorem u8:∀ t:List Nat,strsOf (ga t)=some (t.map λc=>[c])
 |[]=>rfl
 |c::r=>by show strsOf (.str [c]::ga r)=_;rw[strsOf,u8 r];rfl
theorem qk:∀ t:List Nat,iY (t.map λc=>[c])=t
 |[]=>rfl
 |c::r=>by rw[dD,iY,qk r];rfl
theorem Lv{t:List Nat}(h:Abc t):t.all (· < 128)=true:=fz.mpr λc hc=>decide_eq_true (by rcases h c hc with h|h|h <;> omega)
theorem u9{t:V}(x:Dx f κ sg nm H):∀(r:List Nat),Abc r->∀(n:Nat)(acc:List V)(z:Option V),r.length<n->dw (λl H=>nU P5 (ae P5 d) [] l H) (λl H=>av P5 (ae P5 d) (.idx (.loc 1) (.loc 2)) l H) (.one 2) [some t,some (.loc sg),z] n (.seq (ga r)) acc H=some (acc.reverse++ga (r.map f),H)
 |[],_,n+1,acc,z,_=>(pP rfl).trans (by show _=some (acc.reverse++[],H);rw[eU])
 |c::r,ha,n+1,acc,z,hn=>by
  refine(mn rfl rfl AY (aR rfl rfl (x.sign (ha c (.head _)))) (u9 x r (λc h=>ha c (.tail _ h)) n (.str [f c]::acc) _ (oX hn))).trans ?_
  rw[gb,cG];rfl
theorem ql{t:List Nat}(x:Dx f κ sg nm H)(hb:Abc t)(hl:t.length<1000):ae P5 (d+1) 76 [.str t,.loc sg] H=some (.str (t.map f),H++[.list (ga (t.map f))]):=by
 have ha:=Lv hb
 have mE:=u9 (d:=d) (t:=.str t) x t hb 1048576 [] none (by exact nl (aj [_] (.d (.s ab) (.n 1000) (.d (.n 1048576) ab .z)) rfl hl))
 have rX:(ga (t.map f)).length<=lim:=jh (bX (by rw[ga,cn,cn];exact nl (aj [_] (.d (.s ab) (.n 1000) (.d (.n 100000) ab .z)) rfl hl)))
 have Lw:=E8 (H:=H++[O.list (ga (t.map f))]) am (u8 (t.map f)) (by rw[qk,cn];exact jh (bX (by exact nl (aj [_] (.d (.s ab) (.n 1000) (.d (.n 100000) ab .z)) rfl hl))))
 rw[qk] at Lw
 rw[sO,oR] at mE
 exact ac rfl rfl (aD (de ak (by rfl) (dH (pK rfl (eQ ha) mE (by exact rX))) (by exact Lw)))
theorem qZ{v0 v1 v2:V}:ae P5 (d+1) 15 [.loc H.length,v0,v1,v2] (H++[.inst 1 []])=some (.none,H++[.inst 1 [(15,v0),(16,v1),(17,v2)]]):=
 et rfl rfl (ah (eg rfl rfl ei) (ah (eg rfl rfl ei) (ah (eg rfl rfl ei) aJ)))
noncomputable abbrev r6(d deep sg nm:Nat)(f:Nat->Nat)(κ:List Nat->List Nat)(H:Hp)(n:Nd):Prop:=ae P5 (d+deep+2) 77 [pV n,.loc sg,.loc nm] H=some (nV (gv f κ n H.length),H++iB (bZ f κ n))
theorem mF{deep:Nat}{t w:List Nat}{v:V}(x:Dx f κ sg nm H)(hb:Abc t)(hl:t.length<=2)(h0:gE H v (.int 0)=some (.str w))(h1:bY H .isin (.str w) (.tup [.str [99,104,97,114,115],.str [97,110,121],.str [110,111,116,97,110,121],.str [98,114,101,97,107],.str [115,112,97,110]])=some true)(h2:gE H v (.int 1)=some (.str t)):ae P5 (d+deep+2) 77 [v,.loc sg,.loc nm] H=some (.tup [.str w,.str (t.map f)],H++[.list (ga (t.map f))]):=by
 have e1:=ql (d:=d+deep) x hb (by exact nl (aj [_] (.d ab (.n 2) (.d (.n 1000) ab .z)) rfl hl))
 exact ac rfl rfl (bk (aR rfl ak h0) (aW (ax rfl rfl h1) (aD (aU (aV rfl (az (aM (aR rfl ak h2) rfl) e1))))))
theorem ik{deep:Nat}{w:List Nat}{v:V}(h0:gE H v (.int 0)=some (.str w))(h1:bY H .isin (.str w) (.tup [.str [99,104,97,114,115],.str [97,110,121],.str [110,111,116,97,110,121],.str [98,114,101,97,107],.str [115,112,97,110]])=some false)(h2:bY H .isin (.str w) (.tup [.str [99,97,116],.str [97,108,116]])=some false)(h3:bY H .isin (.str w) (.tup [.str [108,97,116,101,114],.str [110,111,119]])=some false)(h4:bY H .eq (.str w) (.str [99,117,114,115,111,114])=some false)(h5:bY H .eq (.str w) (.str [100,101,108,97,121])=some false)(h6:bY H .eq (.str w) (.str [97,114,98,110,111])=some false):ae P5 (d+deep+2) 77 [v,.loc sg,.loc nm] H=some (v,H++[]):=by
 rw[eU]
 exact ac rfl rfl (bk (aR rfl ak h0) (bh (ax rfl rfl h1) (bh (ax rfl rfl h2) (bh (ax rfl rfl h3) (bh (ax rfl ak h4) (bh (ax rfl ak h5) (aD (bB (ax rfl ak h6) rfl))))))))
theorem il:∀(n:Nd),Pw n->∀(deep:Nat)(H:Hp),gU (cO n)<=deep->Dx f κ sg nm H->r6 d deep sg nm f κ H n
 |.sg (.ch t),h,deep,H,_,x=>mF x h.1 h.2 rfl rfl rfl
 |.sg (.any t),h,deep,H,_,x=>mF x h.1 h.2 rfl rfl rfl
 |.sg (.fc t),h,deep,H,_,x=>mF x h.1 h.2 rfl rfl rfl
 |.sg (.span t),h,deep,H,_,x=>mF x h.1 h.2 rfl rfl rfl
 |.sg (.brk t),h,deep,H,_,x=>mF x h.1 h.2 rfl rfl rfl
 |.sg (.len n),h,deep,H,_,x=>ik rfl rfl rfl rfl rfl rfl rfl
 |.sg (.pos n),h,deep,H,_,x=>ik rfl rfl rfl rfl rfl rfl rfl
 |.sg (.gH n),h,deep,H,_,x=>ik rfl rfl rfl rfl rfl rfl rfl
 |.sg (.tab n),h,deep,H,_,x=>ik rfl rfl rfl rfl rfl rfl rfl
 |.sg (.gI n),h,deep,H,_,x=>ik rfl rfl rfl rfl rfl rfl rfl
 |.sg .rem,h,deep,H,_,x=>ik rfl rfl rfl rfl rfl rfl rfl
 |.cu,h,deep,H,_,x=>ik rfl rfl rfl rfl rfl rfl rfl
 |.dT,h,deep,H,_,x=>ik rfl rfl rfl rfl rfl rfl rfl
 |.cur q,h,deep,H,_,x=>by
  have hq:=x.name h
  exact ac rfl rfl (ah rfl (cm rfl rfl rfl (aW rfl (aD (aU (aV rfl (gR (aM ak (aV ak (aR rfl rfl hq))) rfl qZ)))))))
 |.dU k,h,deep,H,_,x=>by
  obtain⟨q,rfl,h⟩:=h
  have hq:=x.name h
  show _=some (_,H++[])
  rw[eU]
  exact ac rfl rfl (eE rfl rfl (cm rfl rfl rfl (aW rfl (aD (aU (aV rfl (aU (aV ak (aR rfl rfl hq)))))))))
 |.rp n,h,deep+1,H,hd,x=>by
  have e1:r6 d deep sg nm f κ H n:=il n h deep H (iT hd) x
  exact ac rfl rfl (cm rfl rfl rfl (cm rfl rfl rfl (aD (cK rfl (aU (aV ak (az rfl e1)))))))
 |.lt n q,h,deep+1,H,hd,x=>by
  have e1:r6 d deep sg nm f κ H n:=il n h.1 deep H (iT hd) x
  have hq:=(x.gr (Gr.app H (iB (bZ f κ n)))).name h.2
  show _=some (nV (.lt (gv f κ n H.length) (H.length+(bZ f κ n).length)),H++iB (bZ f κ n++[(true,κ [q])]))
  rw[qi,← cG,show H.length+(bZ f κ n).length=(H++iB (bZ f κ n)).length by rw[aK,qj]]
  exact ac rfl rfl (cm rfl rfl rfl (aW rfl (aD (aU (aM rfl (aV (az rfl e1) (gR (aM ak (aV ak (aR rfl rfl hq))) rfl qZ)))))))
 |.nw n q,h,deep+1,H,hd,x=>by
  have e1:r6 d deep sg nm f κ H n:=il n h.1 deep H (iT hd) x
  have hq:=(x.gr (Gr.app H (iB (bZ f κ n)))).name h.2
  show _=some (nV (.nw (gv f κ n H.length) (H.length+(bZ f κ n).length)),H++iB (bZ f κ n++[(true,κ [q])]))
  rw[qi,← cG,show H.length+(bZ f κ n).length=(H++iB (bZ f κ n)).length by rw[aK,qj]]
  exact ac rfl rfl (cm rfl rfl rfl (aW rfl (aD (aU (aM rfl (aV (az rfl e1) (gR (aM ak (aV ak (aR rfl rfl hq))) rfl qZ)))))))
 |.ca a b,h,deep+1,H,hd,x=>by
  have hd:max (gU (cO a)) (gU (cO b))<=deep:=iT hd
  have e1:r6 d deep sg nm f κ H a:=il a h.1 deep H (by omega) x
  have e2:r6 d deep sg nm f κ (H++iB (bZ f κ a)) b:=il b h.2 deep _ (by omega) (x.gr (Gr.app H _))
  unfold r6 at e2
  rw[aK,qj] at e2
  show _=some (nV (.ca (gv f κ a H.length) (gv f κ b (H.length+(bZ f κ a).length))),H++iB (bZ f κ a++bZ f κ b))
  rw[qi,← cG]
  exact ac rfl rfl (eE rfl rfl (aW rfl (aD (aU (aM rfl (aV (az rfl e1) (az rfl e2)))))))
 |.al a b,h,deep+1,H,hd,x=>by
  have hd:max (gU (cO a)) (gU (cO b))<=deep:=iT hd
  have e1:r6 d deep sg nm f κ H a:=il a h.1 deep H (by omega) x
  have e2:r6 d deep sg nm f κ (H++iB (bZ f κ a)) b:=il b h.2 deep _ (by omega) (x.gr (Gr.app H _))
  unfold r6 at e2
  rw[aK,qj] at e2
  show _=some (nV (.al (gv f κ a H.length) (gv f κ b (H.length+(bZ f κ a).length))),H++iB (bZ f κ a++bZ f κ b))
  rw[qi,← cG]
  exact ac rfl rfl (eE rfl rfl (aW rfl (aD (aU (aM rfl (aV (az rfl e1) (az rfl e2)))))))
end
end L5
namespace L5
section
variable {f:Nat->Nat}{κ:List Nat->List Nat}
theorem jB:∀(n:Nd)(N:Nat),cO (gv f κ n N)=cO n
 |.sg _,N=>rfl
 |.al a b,N=>by show Sh.al _ _=Sh.al _ _;rw[jB a,jB b]
 |.ca a b,N=>by show Sh.ca _ _=Sh.ca _ _;rw[jB a,jB b]
 |.rp n,N=>congrArg Sh.rp (jB n N)
 |.lt n _,N=>congrArg Sh.lt (jB n N)
 |.nw n _,N=>congrArg Sh.lt (jB n N)
 |.cu,N=>rfl
 |.dT,N=>rfl
 |.fail,N=>rfl
 |.cur _,N=>rfl
 |.dU _,N=>rfl
theorem mG:∀(n:Nd)(N:Nat),sz (gv f κ n N)=sz n
 |.sg _,N=>rfl
 |.al a b,N=>by show sz _+sz _+1=sz a+sz b+1;rw[mG a,mG b]
 |.ca a b,N=>by show sz _+sz _+1=sz a+sz b+1;rw[mG a,mG b]
 |.rp n,N=>congrArg (· + 1) (mG n N)
 |.lt n _,N=>congrArg (· + 1) (mG n N)
 |.nw n _,N=>congrArg (· + 1) (mG n N)
 |.cu,N=>rfl
 |.dT,N=>rfl
 |.fail,N=>rfl
 |.cur _,N=>rfl
 |.dU _,N=>rfl
theorem mH:∀(n:Nd)(N:Nat),Pw n->sm (gv f κ n N)
 |.sg x,N,h=>by
   induction x with
  |ch t=>show(t.map f).length<=2;rw[cn];exact h.2
  |_=>trivial
 |.al a b,N,h=>⟨mH a N h.1,mH b _ h.2⟩
 |.ca a b,N,h=>⟨mH a N h.1,mH b _ h.2⟩
 |.rp n,N,h=>mH n N h
 |.lt n _,N,h=>mH n N h.1
 |.nw n _,N,h=>mH n N h.1
 |.cu,N,_=>trivial
 |.dT,N,_=>trivial
 |.cur _,N,_=>trivial
 |.dU _,N,_=>trivial
theorem k6{kp:Nat->Option (List Nat)}:∀(n:Nd)(N:Nat),Pw n->(∀ i k,(bZ f κ n)[i]?=some (true,k)->kp (N+i)=some k)->Ky kp (gv f κ n N)
 |.sg _,N,_,_=>trivial
 |.al a b,N,h,hs=>⟨k6 a N h.1 λi k hi=>hs i k (FL hi),k6 b _ h.2 λi k hi=>by rw[cb];exact hs _ k (FM hi)⟩
 |.ca a b,N,h,hs=>⟨k6 a N h.1 λi k hi=>hs i k (FL hi),k6 b _ h.2 λi k hi=>by rw[cb];exact hs _ k (FM hi)⟩
 |.rp n,N,h,hs=>k6 n N h hs
 |.lt n q,N,h,hs=>⟨k6 n N h.1 λi k hi=>hs i k (FL hi),_,hs _ _ (FM (i:=0) rfl)⟩
 |.nw n q,N,h,hs=>⟨k6 n N h.1 λi k hi=>hs i k (FL hi),_,hs _ _ (FM (i:=0) rfl)⟩
 |.cu,N,_,_=>trivial
 |.dT,N,_,_=>trivial
 |.cur q,N,_,hs=>⟨_,hs 0 _ rfl⟩
 |.dU _,N,_,_=>trivial
where
 FL {A B:List (Bool×List Nat)} {i:Nat} {x:Bool×List Nat} (h:A[i]?=some x):(A++B)[i]?=some x:=by
  rw[dB (eS.mp h).1];exact h
 FM {A B:List (Bool×List Nat)} {i:Nat} {x:Bool×List Nat} (h:B[i]?=some x):(A++B)[A.length+i]?=some x:=by
  rw[eT (dq _ _),zd];exact h
theorem gw:∀(n:Nd),Pw n->∀ x∈bZ f κ n,x.1=true->∃ q,Pq q/\x.2=κ [q]
 |.sg x,_,y,hy,h=>by
  induction x <;> first|(rw[db.mp hy] at h;exact ff h)|cases hy
 |.al a b,h,x,hx,hb=>(dh.mp hx).elim (λhx=>gw a h.1 x hx hb) λhx=>gw b h.2 x hx hb
 |.ca a b,h,x,hx,hb=>(dh.mp hx).elim (λhx=>gw a h.1 x hx hb) λhx=>gw b h.2 x hx hb
 |.rp n,h,x,hx,hb=>gw n h x hx hb
 |.lt n q,h,x,hx,hb=>(dh.mp hx).elim (λhx=>gw n h.1 x hx hb) λhx=>⟨q,h.2,by rw[db.mp hx]⟩
 |.nw n q,h,x,hx,hb=>(dh.mp hx).elim (λhx=>gw n h.1 x hx hb) λhx=>⟨q,h.2,by rw[db.mp hx]⟩
 |.cu,_,x,hx,_=>by cases hx
 |.dT,_,x,hx,_=>by cases hx
 |.cur q,h,x,hx,hb=>⟨q,h,by rw[db.mp hx]⟩
 |.dU _,_,x,hx,_=>by cases hx
end
noncomputable def r8(it:List (Bool×List Nat))(N q:Nat):Option (List Nat):=bif decide (N<=q) then(match it[q-N]? with|some x=>bif x.1 then some x.2 else none|none=>none) else none
theorem qm{it:List (Bool×List Nat)}{N q:Nat}{k:List Nat}(h:r8 it N q=some k):N<=q/\it[q-N]?=some (true,k):=by
  unfold r8 at h
  cases hb:decide (N<=q) with
 |false=>rw[hb] at h;exact nn h
 |true=>
    rw[hb] at h
    refine⟨of_decide_eq_true hb,?_⟩
    cases hx:it[q-N]? with
   |none=>rw[hx] at h;exact nn h
   |some x=>
      rw[hx] at h
      obtain⟨b,t⟩:=x
      induction b with
     |false=>exact nn h
     |true=>cases h;rfl
theorem yT{it:List (Bool×List Nat)}{N i:Nat}{k:List Nat}(h:it[i]?=some (true,k)):r8 it N (N+i)=some k:=by
 unfold r8
 rw[decide_eq_true (dq N i),zd,h];rfl
theorem Og{it:List (Bool×List Nat)}{H G:Hp}{q:Nat}{k:List Nat}(h:r8 it H.length q=some k):(H++iB it++G)[q]?=some (A0 k):=by
 obtain⟨h1,h2⟩:=qm h
 have:(iB it)[q-H.length]?=some (A0 k):=by rw[iB,jN,h2];rfl
 refine ag ?_
 rw[eT h1];exact this
section
variable (ρ:kU)
noncomputable def Xf(x:Bool×List Nat):Bool×List Nat:=(x.1,bif x.1 then ρ.κ x.2 else x.2.map ρ.f)
theorem k7:∀ n:Nd,bZ ρ.f ρ.κ n=(bZ id id n).map (Xf ρ)
 |.sg x=>by
  induction x <;> first|rfl|(show [(false,_)]=[(false,List.map ρ.f (List.map id _))];rw[oS])
 |.al a b=>by show bZ ρ.f ρ.κ a++bZ ρ.f ρ.κ b=(bZ id id a++bZ id id b).map _;rw[k7 a,k7 b,dE]
 |.ca a b=>by show bZ ρ.f ρ.κ a++bZ ρ.f ρ.κ b=(bZ id id a++bZ id id b).map _;rw[k7 a,k7 b,dE]
 |.rp n=>k7 n
 |.lt n q=>by show bZ ρ.f ρ.κ n++[_]=(bZ id id n++[_]).map _;rw[k7 n,dE];rfl
 |.nw n q=>by show bZ ρ.f ρ.κ n++[_]=(bZ id id n++[_]).map _;rw[k7 n,dE];rfl
 |.cu=>rfl
 |.dT=>rfl
 |.fail=>rfl
 |.cur _=>rfl
 |.dU _=>rfl
theorem sF(n:Nd):(bZ ρ.f ρ.κ n).length=(bZ id id n).length:=by rw[k7,cn]
theorem Oh(x:Sg):NS ρ (SG id x)=SG ρ.f x:=by
 induction x <;> first|rfl|(show _=Sg.ch _;exact congrArg Sg.ch (congrArg _ (oS _)))|(show _=Sg.any _;exact congrArg Sg.any (congrArg _ (oS _)))|(show _=Sg.fc _;exact congrArg Sg.fc (congrArg _ (oS _)))|(show _=Sg.span _;exact congrArg Sg.span (congrArg _ (oS _)))|(show _=Sg.brk _;exact congrArg Sg.brk (congrArg _ (oS _)))
theorem mI:∀(n:Nd)(N M:Nat),(∀ i,ρ.r (N+i)=M+i)->b9 ρ (gv id id n N)=gv ρ.f ρ.κ n M
 |.sg x,N,M,h=>congrArg Nd.sg (Oh ρ x)
 |.al a b,N,M,h=>by
  show Nd.al (b9 ρ _) (b9 ρ _)=Nd.al _ _
  rw[mI a N M h,mI b _ (M+(bZ ρ.f ρ.κ a).length) λi=>by rw[sF,cb,h,cb]]
 |.ca a b,N,M,h=>by
  show Nd.ca (b9 ρ _) (b9 ρ _)=Nd.ca _ _
  rw[mI a N M h,mI b _ (M+(bZ ρ.f ρ.κ a).length) λi=>by rw[sF,cb,h,cb]]
 |.rp n,N,M,h=>congrArg Nd.rp (mI n N M h)
 |.lt n q,N,M,h=>by
  show Nd.lt (b9 ρ _) (ρ.r _)=Nd.lt _ _
  rw[mI n N M h,h,sF]
 |.nw n q,N,M,h=>by
  show Nd.nw (b9 ρ _) (ρ.r _)=Nd.nw _ _
  rw[mI n N M h,h,sF]
 |.cu,N,M,h=>rfl
 |.dT,N,M,h=>rfl
 |.fail,N,M,h=>rfl
 |.cur q,N,M,h=>by show Nd.cur (ρ.r N)=Nd.cur M;rw[show ρ.r N=M from h 0]
 |.dU k,N,M,h=>rfl
theorem Oi{n:Nd}{N M:Nat}(h:∀ i,ρ.r (N+i)=M+i):∀ q k,r8 (bZ id id n) N q=some k->r8 (bZ ρ.f ρ.κ n) M (ρ.r q)=some (ρ.κ k):=λq k hq=>by
 obtain⟨h1,h2⟩:=qm hq
 have e:q=N+(q-N):=by omega
 rw[e,h]
 refine yT ?_
 rw[k7,jN,h2];rfl
end
end L5
section
variable {P:Pg}{call:bT}{l:Lo}{H H1 H2 H3:Hp}{k e:ME}{r es:List ME}{z:List Nat}{b:V}{xs:List (List Nat×V)}
theorem vd:jf P call [] l H=some ([],H):=rfl
theorem fP(h1:av P call k l H=some (.str z,H1))(h2:av P call e l H1=some (b,H2))(h3:jf P call r l H2=some (xs,H3))(h4:bz z xs=none):jf P call (k::e::r) l H=some ((z,b)::xs,H3):=by
 rw[jf,h1]
 show bw (av P call e l H1) _=_
 rw[h2]
 show bw (jf P call r l H2) _=_
 rw[h3]
 show(if(bz z xs).isNone then _ else _)=_
 rw[h4];rfl
theorem mJ(h1:jf P call es l H=some (xs,H1)):av P call (.dict es) l H=some (.loc H1.length,H1++[.dict xs]):=by
 show bw (jf P call es l H) _=_
 rw[h1];rfl
end
namespace L5
theorem DQ{d:Nat}{H:Hp}{v1 v3:V}{m:Int}:ae P5 (d+1) 60 [.loc H.length,v1,.int m,v3] (H++[.inst 4 []])=some (.none,(H++[O.inst 4 [(9,v1),(10,.int m),(11,v3),(12,.int 64),(13,.int 0)]]++[O.list []]).set H.length (cE v1 v3 (.loc (H.length+1)) m (0:Nat))):=
 et rfl rfl (ah (eg rfl rfl ei) (ah (eg rfl rfl ei) (ah (eg rfl rfl ei) (ah (eg ak rfl ei) (ah (eg ak rfl ei) (ah (eg (bq bA) rfl ((cg (ag am)).trans (by rw[aK];rfl))) aJ))))))
noncomputable abbrev z0:MS:=.asg (.tup [(.loc 6),(.loc 7)]) (.tup [(.new 4 [(.dict [(.idx (.loc 5) (.lit (.str [80]))),(.call (.glob (.fn 76)) [(.lit (.str [98])),(.loc 4)]),(.idx (.loc 5) (.lit (.str [81]))),(.lit (.str []))]),(.lit (.int 99999)),(.lst [])]),(.call (.glob (.fn 77)) [(.loc 0),(.loc 4),(.loc 5)])])
noncomputable abbrev z1:MS:=.asg (.loc 8) (.call (.glob (.fn 76)) [(.loc 1),(.loc 4)])
noncomputable abbrev z2:MS:=.asg (.loc 9) (.aB (.loc 3) (.call (.glob (.fn 64)) [(.loc 7),(.loc 8),(.loc 2),(.loc 6)]) (.call (.glob (.fn 59)) [(.loc 7),(.loc 8),(.loc 2),(.loc 6)]))
noncomputable abbrev z3:MS:=.aB (.cmp .fB (.loc 9) (.lit .none)) [(.asg (.loc 9) (.tup [(.idx (.loc 9) (.lit (.int 0))),(.idx (.loc 9) (.lit (.int 1))),(.comp (.tup [(.attr (.loc 10) 17),(.loc 11)]) (.idx (.loc 9) (.lit (.int 2))) (.many [10,11]) 2 [])]))] []
noncomputable abbrev z4:MS:=.ret (.tup [(.loc 9),(.attr (.loc 6) 14),(.attr (.loc 6) 13)])
noncomputable abbrev σ5(f:Nat->Nat)(κ:List Nat->List Nat):Hs:=⟨[(κ [80],.str [f 98]),(κ [81],.str [])],[]⟩
noncomputable abbrev vM(f:Nat->Nat)(κ:List Nat->List Nat)(H:Hp):Hp:=H++[.list (ga [f 98])]++[.dict (σ5 f κ).vals]++[.list []]
noncomputable def r9(f:Nat->Nat)(κ:List Nat->List Nat)(H:Hp):Hp:=(vM f κ H++[O.inst 4 [(9,.loc (H++[O.list (ga [f 98])]).length),(10,.int 99999),(11,.loc (H++[O.list (ga [f 98])]++[O.dict (σ5 f κ).vals]).length),(12,.int 64),(13,.int 0)]]++[O.list []]).set (vM f κ H).length (cE (.loc (H++[O.list (ga [f 98])]).length) (.loc (H++[O.list (ga [f 98])]++[O.dict (σ5 f κ).vals]).length) (.loc ((vM f κ H).length+1)) 99999 (0:Nat))
noncomputable def SH(f:Nat->Nat)(κ:List Nat->List Nat)(H:Hp)(n:Nd)(s:List Nat):Hp:=r9 f κ H++iB (bZ f κ n)++[.list (ga (s.map f))]
section
variable {f:Nat->Nat}{κ:List Nat->List Nat}{sg nm d:Nat}{H G:Hp}{n:Nd}{s:List Nat}
theorem BR:(r9 f κ H).length=H.length+5:=by
 unfold r9 vM
 rw[dt,aK,aK,aK,aK,aK];rfl
theorem sG:Gr H (r9 f κ H):=(((((Gr.app H _).trans (Gr.app _ _)).trans (Gr.app _ _)).trans (Gr.app _ _)).trans (Gr.app _ _)).set (by unfold vM;rw[aK,aK,aK];exact nt (aj [_,_,_,_] (.d (.s (.a (.a (.a ab af) aq) aA)) ab .z) rfl))
theorem Oj:(r9 f κ H)[H.length+1]?=some (.dict (σ5 f κ).vals)/\(r9 f κ H)[H.length+2]?=some (.list [])/\(r9 f κ H)[H.length+3]?=some (cE (.loc (H.length+1)) (.loc (H.length+2)) (.loc (H.length+4)) 99999 (0:Nat))/\(r9 f κ H)[H.length+4]?=some (.list []):=by
 have l1:(H++[O.list (ga [f 98])]).length=H.length+1:=by rw[aK];rfl
 have l2:(H++[O.list (ga [f 98])]++[O.dict (σ5 f κ).vals]).length=H.length+2:=by rw[aK,l1];rfl
 have l3:(vM f κ H).length=H.length+3:=by rw[aK,l2];rfl
 have a1:(H++[O.list (ga [f 98])]++[O.dict (σ5 f κ).vals])[H.length+1]?=some (.dict (σ5 f κ).vals):=by rw[← l1];exact am
 have a2:(vM f κ H)[H.length+2]?=some (.list []):=by rw[← l2];exact am
 unfold r9
 rw[l1,l2,l3]
 refine⟨aa (by exact dp (nl (aj [_] (.d (.a ab (.n 3)) (.s ab) .z) rfl))) (ag (ag (ag a1))),aa (by exact dp (nl (aj [_] (.d (.a ab (.n 3)) (.a ab (.n 2)) .z) rfl))) (ag (ag a2)),au (ag (by rw[← l3];exact am)),aa (by exact d9 (nl (aj [_] (.d (.a ab (.n 4)) (.a ab (.n 3)) .z) rfl))) ?_⟩
 rw[show H.length+4=(vM f κ H++[O.inst 4 [(9,.loc (H.length+1)),(10,.int 99999),(11,.loc (H.length+2)),(12,.int 64),(13,.int 0)]]).length by rw[aK,l3];rfl]
 exact am
noncomputable abbrev mK(f:Nat->Nat)(κ:List Nat->List Nat)(n:Nd)(H:Hp):Nat->Option (List Nat):=r8 (bZ f κ n) (H.length+5)
theorem Ok:HX (mK f κ n H) (H.length+3) (H.length+1) (H.length+2) (H.length+4) 99999 (0:Nat) (σ5 f κ) (SH f κ H n s):=by
 obtain⟨h1,h2,h3,h4⟩:=Oj (f:=f) (κ:=κ) (H:=H)
 refine⟨ag (ag h3),ag (ag h1),ag (ag h4),ag (ag h2),λr key e=>?_,by exact d9 (nl (aj [_] (.d (.a ab (.n 4)) (.a ab (.n 2)) .z) rfl))⟩
 unfold mK at e
 rw[← BR (f:=f) (κ:=κ) (H:=H)] at e
 exact Og e
noncomputable def oO(kp:Nat->Option (List Nat))(l:Nm):List V:=l.map λx=>.tup [.str ((kp x.1).getD []),.str x.2]
theorem BS{kp:Nat->Option (List Nat)}(a:Nm):(oO kp a).length=a.length:=cn ..
noncomputable abbrev Xg:ME:=.tup [.attr (.loc 10) 17,.loc 11]
theorem rK{kp:Nat->Option (List Nat)}{l:Lo}{pl:Nat}{X:Nm}(hp:H[pl]?=some (.list (j9 X)))(hk:∀ r key,kp r=some key->H[r]?=some (A0 key))(hl:∀ u v:V,∃ l1,eG (.many [10,11]) (.tup [u,v]) l=some l1/\l1[10]?=some (some u)/\l1[11]?=some (some v)):∀(nm:Nm)(i n:Nat)(acc:List V),(∀ j,(j9 X)[i+j]?=(j9 nm)[j]?)->(∀ x∈nm,∃ k,kp x.1=some k)->nm.length<n ->
  dw (λl H=>nU P5 (ae P5 d) [] l H) (λl H=>av P5 (ae P5 d) Xg l H) (.many [10,11]) l n (.lst pl i) acc H=some (acc.reverse++oO kp nm,H)
 |[],i,n+1,acc,hj,_,_=>(pP (pQ hp (hj 0))).trans (by rw[oO,sN,eU])
 |x::r,i,n+1,acc,hj,ho,hn=>by
  obtain⟨l1,h1,h8,h9⟩:=hl (.loc x.1) (.str x.2)
  obtain⟨k,UV⟩:=ho x (.head _)
  refine(mn (qO hp (hj 0)) h1 AY (aU (aV (aC (gj h8) (ay (hk _ _ UV) rfl)) (gj h9))) (rK hp hk hl r (i+1) n (.tup [.str k,.str x.2]::acc) (λj=>by rw[cb,iR 1 j];exact hj (j+1)) (λx h=>ho x (.tail _ h)) (oX hn))).trans ?_
  rw[gb,cG]
  show some (acc.reverse++(.tup [.str k,.str x.2]::oO kp r),H)=some (acc.reverse++(.tup [.str ((kp x.1).getD []),.str x.2]::oO kp r),H)
  rw[UV];rfl
noncomputable def Xh(kp:Nat->Option (List Nat))(H:Hp)(R:Option (Nat×Nat×Nm))(v:V):Prop:=match R with
 |none=>v=.none
 |some z=>∃ j,v=.tup [.int z.1,.int z.2.1,.loc j]/\H[j]?=some (.list (oO kp z.2.2))
inductive UW(d:Nat)(tr an:Bool)(f:Nat->Nat)(κ:List Nat->List Nat)(n:Nd)(s:List Nat)(sg nm:Nat)(H:Hp)(R:Option (Nat×Nat×Nm))(τ:Hs)(k':Nat):Prop where
 |mk (v:V) (lg:Nat) (H':Hp) (e:ae P5 (d+12) 78 [pV n,.str s,.bool an,.bool tr,.loc sg,.loc nm] H=some (.tup [v,.loc lg,.int k'],H')) (g:Gr H H') (hl:H'[lg]?=some (.list τ.log)) (r:Xh (mK f κ n H) H' R v):UW d tr an f κ n s sg nm H R τ k'
theorem SJ:Abc [98]:=λc h=>.inr (.inl (db.mp h))
theorem SK{k1 k2:List Nat}{t:V}(h:k1≠k2):bz k1 [(k2,t)]=none:=by
 rw[eM,if_neg (λe=>h (beq_iff_eq.mp e).symm)];rfl
structure Ko(κ:List Nat->List Nat):Prop where
 ne:κ [80]≠κ [81]
theorem yU(hp:Pw n):∀ q key,mK f κ n H q=some key->key∈[κ [80],κ [81]]:=λq key h=>by
 obtain⟨_,h⟩:=qm h
 obtain⟨q,hq,hk⟩:=gw (f:=f) (κ:=κ) n hp _ (lb h) rfl
 rw[show key=κ [q] from hk]
 rcases hq with rfl|rfl
 ·exact .head _
 ·exact .tail _ (.head _)
theorem SM(hκ:κ [80]≠κ [81]):Kd [κ [80],κ [81]] (σ5 f κ).vals:=
 ⟨gc.mpr ⟨λh=>hκ (db.mp h),gc.mpr ⟨List.not_mem_nil,.nil⟩⟩,λx h=>h⟩
theorem xi{tr an:Bool}{R:Option (Nat×Nat×Nm)}{τ:Hs}{k':Nat}(hx:Dx f κ sg nm H)(hp:Pw n)(Lx:gU (cO n)<=2)(hz:sz n<150)(hs:Abc s)(fE:s.length<=4)(hκ:κ [80]≠κ [81])(T:u6 tr (mK f κ n H) (s.map f) (gv f κ n (H.length+5)) (cnt an (s.map f)) (σ5 f κ) R τ k')(hk:k'<=99999)(hN:N7 (mK f κ n H) (s.map f) R)(hM:Ob R k'):UW d tr an f κ n s sg nm H R τ k':=by
  have be:bz (κ [80]) [(κ [81],V.str [])]=none:=SK hκ
  have KZ:=hx.gr (Gr.app H [.list (ga [f 98])])
  have UX:=hx.gr (sG (f:=f) (κ:=κ) (H:=H))
  have e1:r6 (d+7) 2 sg nm f κ (r9 f κ H) n:=il n hp 2 _ Lx UX
  unfold r6 at e1
  rw[BR] at e1
  have e2:=ql (d:=d+10) (UX.gr (Gr.app _ (iB (bZ f κ n)))) hs (by exact nl (aj [_] (.d ab (.n 4) (.d (.n 1000) ab .z)) rfl fE))
  have UY:(s.map f).length<=4:=by rw[cn];exact fE
  have rg:Rg (mK f κ n H) [κ [80],κ [81]] (s.map f) 99999 0:=⟨⟨yU hp,(by show 2<1024;decide),by decide,by decide,by exact nl (aj [_] (.d ab (.n 4) (.d (.n 1000) ab .z)) rfl UY)⟩,by omega⟩
  obtain⟨v,H4,e3,x4,o4,r4⟩:=Ln (own:=Mine.L5.JV) (d:=d) rg (an:=an) (by rw[mG];exact hz) (mH n _ hp) (Ok (s:=s)) T (by omega) (cF _) (SM hκ)
  have g4:Gr H H4:=⟨bv ((sG (f:=f) (κ:=κ)).trans ((Gr.app _ (iB (bZ f κ n))).trans (Gr.app _ [.list (ga (s.map f))]))).len o4.len,λi hi=>(o4.off i (d8 hi ((sG (f:=f) (κ:=κ)).trans ((Gr.app _ (iB (bZ f κ n))).trans (Gr.app _ [.list (ga (s.map f))]))).len) (by exact d9 (nl (aj [_,_] (.d (.s ab) af (.d (.a af (.n 3)) ab .z)) rfl hi))) (by exact d9 (nl (aj [_,_] (.d (.s ab) af (.d (.s af) ab .z)) rfl hi))) (by exact d9 (nl (aj [_,_] (.d (.s ab) af (.d (.a af (.n 4)) ab .z)) rfl hi)))).trans (((sG (f:=f) (κ:=κ)).trans ((Gr.app _ (iB (bZ f κ n))).trans (Gr.app _ [.list (ga (s.map f))]))).off i hi)⟩
  have l3:(vM f κ H).length=H.length+3:=by rw[aK,aK,aK];rfl
  have q0:cU P5 (ae P5 (d+11)) z0 [some (pV n),some (.str s),some (.bool an),some (.bool tr),some (.loc sg),some (.loc nm),none,none,none,none] H=some (.next,[some (pV n),some (.str s),some (.bool an),some (.bool tr),some (.loc sg),some (.loc nm),some (.loc (vM f κ H).length),some (nV (gv f κ n (H.length+5))),none,none],(r9 f κ H)++iB (bZ f κ n)):=(aT (aU (aV (gR (aM (mJ (fP (aR rfl ak (hx.name (.inl rfl))) (az rfl (ql (d:=d+10) hx (t:=[98]) SJ (by decide))) (fP (aR rfl ak (KZ.name (.inr rfl))) ak vd (by rfl)) be)) (aV ak (bq bA))) rfl DQ) (az rfl e1))) rfl)
  rw[l3] at q0
  have q1:cU P5 (ae P5 (d+11)) z1 [some (pV n),some (.str s),some (.bool an),some (.bool tr),some (.loc sg),some (.loc nm),some (.loc (H.length+3)),some (nV (gv f κ n (H.length+5))),none,none] ((r9 f κ H)++iB (bZ f κ n))=some (.next,[some (pV n),some (.str s),some (.bool an),some (.bool tr),some (.loc sg),some (.loc nm),some (.loc (H.length+3)),some (nV (gv f κ n (H.length+5))),some (.str (s.map f)),none],(SH f κ H n s)):=(aT (az rfl e2) ef)
  have q2:cU P5 (ae P5 (d+11)) z2 [some (pV n),some (.str s),some (.bool an),some (.bool tr),some (.loc sg),some (.loc nm),some (.loc (H.length+3)),some (nV (gv f κ n (H.length+5))),some (.str (s.map f)),none] (SH f κ H n s)=some (.next,[some (pV n),some (.str s),some (.bool an),some (.bool tr),some (.loc sg),some (.loc nm),some (.loc (H.length+3)),some (nV (gv f κ n (H.length+5))),some (.str (s.map f)),some (v)],H4):=by
    induction tr with
   |true=>exact(aT (cK rfl (az rfl e3)) ef)
   |false=>exact(aT (bB rfl (az rfl e3)) ef)
  induction R with
 |none=>
    cases r4
    exact .mk .none (H.length+4) H4 (ac rfl rfl (ah q0 (ah q1 (ah q2 (ah rfl (aD (aU (aM rfl (aV (aC rfl (ay x4.host rfl)) (aC rfl (ay x4.host rfl))))))))))) g4 x4.log rfl
 |some z=>
    obtain⟨b,a,fQ⟩:=z
    obtain⟨j,rfl,hj,_⟩:=r4
    have Xi:kY (mK f κ n H) (s.map f) fQ:=hN
    have UZ:fQ.length<=k':=hM
    have mE:=rK (d:=d+11) (kp:=mK f κ n H) (l:=[some (pV n),some (.str s),some (.bool an),some (.bool tr),some (.loc sg),some (.loc nm),some (.loc (H.length+3)),some (nV (gv f κ n (H.length+5))),some (.str (s.map f)),some (.tup [.int b,.int a,.loc j])]++List.replicate 2 none) hj x4.rk (λu v=>⟨_,rfl,rfl,rfl⟩) fQ 0 1048576 [] (λj=>by rw[fy]) (λx h=>(Xi x h).1) (by exact nl (aj [_,_] (.d ab (.n 99999) (.d af ab (.d (.n 1048576) af .z))) rfl hk UZ))
    rw[sO,oR] at mE
    have hlen:(oO (mK f κ n H) fQ).length<=lim:=jh (bX (by rw[BS];exact nl (aj [_,_] (.d ab (.n 99999) (.d af ab (.d (.n 100000) af .z))) rfl hk UZ)))
    exact .mk (.tup [.int b,.int a,.loc H4.length]) (H.length+4) (H4++[.list (oO (mK f κ n H) fQ)]) (ac rfl rfl (ah q0 (ah q1 (ah q2 (ah (cf rfl (bk (aU (aM rfl (aV rfl (pK rfl (mr hj) mE (by exact hlen))))) aJ)) (aD (aU (aM rfl (aV (aC rfl (ay (ag x4.host) rfl)) (aC rfl (ay (ag x4.host) rfl))))))))))) (g4.trans (Gr.app _ _)) (ag x4.log) ⟨H4.length,rfl,am⟩
end
end L5
namespace L5
inductive gx:V->Prop where
 |i {q n:Nat}:Pq q->gx (.tup [.str [q],.int n])
 |s {q:Nat} {t:List Nat}:Pq q->Abc t->t.length<1000->gx (.tup [.str [q],.str t])
section
variable {ρ:kU}{sg nm d:Nat}{H G:Hp}
noncomputable abbrev U0:ME:=.tup [(.idx (.loc 2) (.loc 3)),(.aB (.isin (.loc 4) .int) (.loc 4) (.call (.glob (.fn 76)) [(.loc 4),(.loc 1)]))]
structure U1(d:Nat)(l:Lo)(n pl i:Nat)(acc:List V)(H:Hp)(ρ:kU)(es:List V):Prop where
 e:∃ H',dw (λl H=>nU P5 (ae P5 (d+1)) [] l H) (λl H=>av P5 (ae P5 (d+1)) U0 l H) (.many [3,4]) l n (.lst pl i) acc H=some (acc.reverse++es.map (iz ρ),H')/\Gr H H'
theorem Ly{v:V}{x0 x3 x4:Option V}(hv:gx v)(hx:Dx ρ.f ρ.κ sg nm H):∃(l1:Lo)(H':Hp),eG (.many [3,4]) v [x0,some (.loc sg),some (.loc nm),x3,x4]=some l1/\av P5 (ae P5 (d+1)) U0 l1 H=some (iz ρ v,H')/\Gr H H':=by
  induction hv with
 |@i q n hq=>
   have hq:=hx.name hq
   exact⟨_,_,rfl,(aU (aM (aR rfl rfl hq) rfl)),Gr.refl H⟩
 |@s q t hq ha hl=>
   have hq:=hx.name hq
   have ht:=ql (d:=d) hx ha hl
   exact⟨_,_,rfl,(aU (aV (aR rfl rfl hq) (bB rfl (az rfl ht)))),Gr.app _ _⟩
theorem ve{X:List V}{pl:Nat}{x0:Option V}:∀(es:List V)(H:Hp),(∀ v∈es,gx v)->Dx ρ.f ρ.κ sg nm H->H[pl]?=some (.list X)->∀(i n:Nat)(acc:List V)(x3 x4:Option V),(∀ j,X[i+j]?=es[j]?)->es.length<n->U1 d [x0,some (.loc sg),some (.loc nm),x3,x4] n pl i acc H ρ es
 |[],H,_,hx,hp,i,n+1,acc,x3,x4,hj,_=>⟨H,(pP (pQ hp (hj 0))).trans (by rw[sN,eU]),Gr.refl H⟩
 |v::es,H,hg,hx,hp,i,n+1,acc,x3,x4,hj,hn=>by
  obtain⟨l1,H1,h1,h2,g1⟩:=Ly (d:=d) (x0:=x0) (x3:=x3) (x4:=x4) (hg v (.head _)) hx
  have hb:U1 d [x0,some (.loc sg),some (.loc nm),x3,x4] n pl (i+1) (iz ρ v::acc) H1 ρ es:=ve es H1 (λv h=>hg v (.tail _ h)) (hx.gr g1) (g1.at hp) (i+1) n (iz ρ v::acc) x3 x4 (λj=>by rw[cb,iR 1 j];exact hj (j+1)) (oX hn)
  obtain⟨H2,e,g2⟩:=hb
  refine⟨H2,(mn (qO hp (hj 0)) h1 AY h2 e).trans ?_,g1.trans g2⟩
  rw[gb,cG];rfl
theorem BU{pl:Nat}{es:List V}(hg:∀ v∈es,gx v)(hl:es.length<100000)(hx:Dx ρ.f ρ.κ sg nm H)(hp:H[pl]?=some (.list es)):∃ H1,Gr H H1/\ae P5 (d+2) 79 [.loc pl,.loc sg,.loc nm] H=some (.loc H1.length,H1++[.list (es.map (iz ρ))]):=by
 obtain⟨H1,mE,g⟩:=(ve (d:=d) (x0:=some (.loc pl)) es H hg hx hp 0 1048576 [] none none (λj=>by rw[fy]) (by exact nl (aj [_] (.d (.s ab) (.n 100000) (.d (.n 1048576) ab .z)) rfl hl))).e
 rw[sO,oR] at mE
 have hlen:(es.map (iz ρ)).length<=lim:=jh (bX (by rw[cn];exact nl (aj [_] (.d (.s ab) (.n 100000) (.d (.n 100000) ab .z)) rfl hl)))
 exact⟨H1,g,ac rfl rfl (aD (pK rfl (mr hp) mE (by exact hlen)))⟩
noncomputable def dS(s:List Nat):PyData:=.str ⟨s.toArray⟩
noncomputable def SN(t:List Nat):Prop:=t.all (· < 128)=true
structure vO(ρ:kU):Prop where
 f:∀ c,(c=97\/c=98\/c=99)->ρ.f c<128
 k:∀ q,Pq q->SN (ρ.κ [q])
theorem vO.s(a:vO ρ){t:List Nat}(h:Abc t):SN (t.map ρ.f):=fz.mpr λc hc=>by
 obtain⟨b,hb,rfl⟩:=lH.mp hc
 exact decide_eq_true (a.f b (h b hb))
noncomputable def ny(d:PyData):Prop:=PyData.eqv d d=true
theorem eq_str(t:List Nat):ny (dS t):=by show PyData.eqv _ _=true;simp only[dS,PyData.eqv,beq_self_eq_true]
theorem eq_int(i:Int):ny (.int i):=by show PyData.eqv _ _=true;simp only[PyData.eqv,beq_self_eq_true]
theorem Lz:ny .none:=by show PyData.eqv _ _=true;rw[PyData.eqv]
theorem vf:∀{ds:List PyData},(∀ d∈ds,ny d)->PyData.eqvAll ds ds=true
 |[],_=>by rw[PyData.eqvAll]
 |d::r,h=>by
  have h1:PyData.eqv d d=true:=h d (.head _)
  rw[PyData.eqvAll,h1,vf λd hd=>h d (.tail _ hd)];rfl
theorem sH{ds:List PyData}(h:∀ d∈ds,ny d):ny (.tuple ds):=by show PyData.eqv _ _=true;rw[PyData.eqv];exact vf h
theorem Ol{ds:List PyData}(h:∀ d∈ds,ny d):ny (.list ds):=by show PyData.eqv _ _=true;rw[PyData.eqv];exact vf h
theorem dR{α β:Type}{f:α->Option β}{a:α}{r:List α}{b:β}{bs:List β}(h1:f a=some b)(h2:gD f r=some bs):gD f (a::r)=some (b::bs):=by rw[sa,h1,h2]
theorem sI{a b:PyData}(ha:ny a)(hb:ny b):∀ d∈[a,b],ny d:=λd h=>(eC.mp h).elim (λe=>e▸ha) λh=>db.mp h▸hb
theorem vg(n:Nat){s:List Nat}(h:SN s):dat H (n+1) (.str s)=some (dS s):=if_pos h
theorem Om(a:vO ρ)(n:Nat){v:V}(hv:gx v):∃ x,(∀ H,dat H (n+2) (iz ρ v)=some x)/\ny x:=by
  induction hv with
 |@i q m hq=>exact⟨.tuple [dS (ρ.κ [q]),.int m],λH=>by show(gD (dat H (n+1)) [.str (ρ.κ [q]),.int m]).map PyData.tuple=_;rw[dR (vg n (a.k q hq)) (dR (f:=dat H (n+1)) (b:=.int m) rfl rfl)];rfl,sH (sI (eq_str _) (eq_int _))⟩
 |@s q t hq ha hl=>exact⟨.tuple [dS (ρ.κ [q]),dS (t.map ρ.f)],λH=>by show(gD (dat H (n+1)) [.str (ρ.κ [q]),.str (t.map ρ.f)]).map PyData.tuple=_;rw[dR (vg n (a.k q hq)) (dR (vg n (a.s ha)) rfl)];rfl,sH (sI (eq_str _) (eq_str _))⟩
theorem BV(a:vO ρ)(n:Nat):∀(es:List V),(∀ v∈es,gx v)->∃ ds,(∀ H,gD (dat H (n+2)) (es.map (iz ρ))=some ds)/\∀ d∈ds,ny d
 |[],_=>⟨[],λH=>rfl,λd h=>(by cases h)⟩
 |v::es,h=>by
  obtain⟨x,h1,h2⟩:=Om a n (h v (.head _))
  obtain⟨ds,h3,h4⟩:=BV a n es λv hv=>h v (.tail _ hv)
  exact⟨x::ds,λH=>dR (h1 H) (h3 H),λd hd=>(eC.mp hd).elim (λe=>e▸h2) (h4 d)⟩
theorem BW(a:vO ρ)(n:Nat){es:List V}(h:∀ v∈es,gx v):∃ x,(∀(H:Hp)(j:Nat),H[j]?=some (.list (es.map (iz ρ)))->dat H (n+3) (.loc j)=some x)/\ny x:=by
 obtain⟨ds,h1,h2⟩:=BV a n es h
 refine⟨.list ds,λH j hj=>(dj hj).trans ?_,Ol h2⟩
 show(gD (dat H (n+2)) (es.map (iz ρ))).map PyData.list=_
 rw[h1];rfl
noncomputable def yV(ρ:kU)(H:Hp)(R:Option (Nat×Nat×List V))(v:V):Prop:=match R with
 |none=>v=.none
 |some z=>∃ j,v=.tup [.int z.1,.int z.2.1,.loc j]/\H[j]?=some (.list (z.2.2.map (iz ρ)))
theorem yV.gr{R:Option (Nat×Nat×List V)}{v:V}(h:yV ρ H R v)(g:Gr H G):yV ρ G R v:=by
  induction R with
 |none=>exact h
 |some z=>obtain⟨j,h1,h2⟩:=h;exact⟨j,h1,g.at h2⟩
theorem LA(a:vO ρ){R:Option (Nat×Nat×List V)}(hR:∀ z,R=some z->∀ v∈z.2.2,gx v):∃ x,(∀ H v,yV ρ H R v->dat H 7 v=some x)/\ny x:=by
  induction R with
 |none=>exact⟨.none,λH v h=>by cases h;rfl,Lz⟩
 |some z=>
   obtain⟨b,c,es⟩:=z
   obtain⟨x,h1,h2⟩:=BW a 3 (hR _ rfl)
   refine⟨.tuple [.int b,.int c,x],λH v h=>?_,sH λd h=>(eC.mp h).elim (λe=>e▸eq_int _) (sI (eq_int _) h2 d)⟩
   obtain⟨j,rfl,hj⟩:=h
   show(gD (dat H 6) [.int b,.int c,.loc j]).map PyData.tuple=_
   rw[dR (f:=dat H 6) (b:=.int b) rfl (dR (f:=dat H 6) (b:=.int c) rfl (dR (f:=dat H 6) (h1 H j hj) rfl))];rfl
theorem CA(a:vO ρ){R:Option (Nat×Nat×List V)}{lg:List V}{v w:V}{i j:Nat}{k:Int}(hR:∀ z,R=some z->∀ v∈z.2.2,gx v)(hL:∀ v∈lg,gx v)(hv:yV ρ H R v)(hw:yV ρ H R w)(hi:H[i]?=some (.list (lg.map (iz ρ))))(hj:H[j]?=some (.list (lg.map (iz ρ)))):bY H .ne (.tup [v,.loc i,.int k]) (.tup [w,.loc j,.int k])=some false:=by
 obtain⟨x,h1,h2⟩:=LA a hR
 obtain⟨y,h3,h4⟩:=BW a 4 hL
 have hd:∀ v i,yV ρ H R v->H[i]?=some (.list (lg.map (iz ρ)))->dat H 8 (.tup [v,.loc i,.int k])=some (.tuple [x,y,.int k]):=λv i hv hi=>by
  show(gD (dat H 7) [v,.loc i,.int k]).map PyData.tuple=_
  rw[dR (h1 H v hv) (dR (h3 H i hi) (dR (f:=dat H 7) (b:=.int k) rfl rfl))];rfl
 show(xj H _ _).map _=_
 unfold xj
 rw[hd v i hv hi,hd w j hw hj]
 have he:ny (.tuple [x,y,.int k]):=sH λd h=>(eC.mp h).elim (λe=>e▸h2) (sI h4 (eq_int _) d)
 show some (!PyData.eqv _ _)=_
 rw[show PyData.eqv _ _=true from he];rfl
noncomputable abbrev c0:MS:=.asg (.loc 13) (.call (.glob (.fn 78)) [(.loc 5),(.loc 7),(.loc 2),(.loc 12),(.loc 10),(.loc 11)])
noncomputable abbrev c1:MS:=.asg (.loc 14) (.call (.glob (.fn 78)) [(.loc 5),(.loc 7),(.loc 2),(.loc 12),(.loc 8),(.loc 9)])
noncomputable abbrev c2:MS:=.asg (.loc 15) (.aB (.cmp .is (.idx (.loc 13) (.lit (.int 0))) (.lit .none)) (.lit .none) (.tup [(.idx (.idx (.loc 13) (.lit (.int 0))) (.lit (.int 0))),(.idx (.idx (.loc 13) (.lit (.int 0))) (.lit (.int 1))),(.call (.glob (.fn 79)) [(.idx (.idx (.loc 13) (.lit (.int 0))) (.lit (.int 2))),(.loc 8),(.loc 9)])]))
noncomputable abbrev c3:MS:=.aB (.cmp .ne (.loc 14) (.tup [(.loc 15),(.call (.glob (.fn 79)) [(.idx (.loc 13) (.lit (.int 1))),(.loc 8),(.loc 9)]),(.idx (.loc 13) (.lit (.int 2)))])) [(.ret (.lit (.bool false)))] []
theorem yW{n:Nd}{q N:Nat}{k:List Nat}(hp:Pw n)(h:r8 (bZ id id n) N q=some k):∃ p,Pq p/\k=[p]:=by
 obtain⟨_,h⟩:=qm h
 exact gw (f:=id) (κ:=id) n hp _ (lb h) rfl
theorem qn{s t:List Nat}(hs:Abc s)(hl:s.length<=4)(h:Ih s t):Abc t/\t.length<1000:=⟨λc hc=>hs c (h.1 c hc),by have:=h.2;exact nl (aj [_,_] (.d ab (.n 4) (.d af ab (.d (.n 1000) af .z))) rfl hl this)⟩
theorem LB{n:Nd}{N:Nat}{s:List Nat}{nm:Nm}(hp:Pw n)(hs:Abc s)(hl:s.length<=4)(h:kY (r8 (bZ id id n) N) s nm):∀ v∈oO (r8 (bZ id id n) N) nm,gx v:=λv hv=>by
 obtain⟨x,hx,rfl⟩:=lH.mp hv
 obtain⟨⟨k,hk⟩,ht⟩:=h x hx
 obtain⟨p,hq,rfl⟩:=yW hp hk
 rw[hk]
 exact .s hq (qn hs hl ht).1 (qn hs hl ht).2
theorem On{n:Nd}{N:Nat}{s:List Nat}{σ:Hs}(hp:Pw n)(hs:Abc s)(hl:s.length<=4)(h:lE (r8 (bZ id id n) N) s σ):∀ v∈σ.log,gx v:=λv hv=>by
  cases h v hv with
 |i hk=>obtain⟨p,hq,rfl⟩:=yW hp hk;exact .i hq
 |s hk ht=>obtain⟨p,hq,rfl⟩:=yW hp hk;exact .s hq (qn hs hl ht).1 (qn hs hl ht).2
noncomputable def SO(kp:Nat->Option (List Nat))(R:Option (Nat×Nat×Nm)):Option (Nat×Nat×List V):=R.map λz=>(z.1,z.2.1,oO kp z.2.2)
theorem LC{kp gB:Nat->Option (List Nat)}(hk:∀ q k,kp q=some k->gB (ρ.r q)=some (ρ.κ k)){s:List Nat}:∀(nm:Nm),kY kp s nm->oO gB (ii ρ nm)=(oO kp nm).map (iz ρ)
 |[],_=>rfl
 |x::r,h=>by
  obtain⟨⟨k,hx⟩,_⟩:=h x (.head _)
  have ih:=LC hk r λy hy=>h y (.tail _ hy)
  show .tup [.str ((gB (ρ.r x.1)).getD []),.str (ρ.s x.2)]::oO gB (ii ρ r)=iz ρ (.tup [.str ((kp x.1).getD []),.str x.2])::(oO kp r).map (iz ρ)
  rw[ih,hx,hk _ _ hx];rfl
end
section
variable {d:Nat}{H:Hp}{n:Nd}{s:List Nat}{an tr:Bool}{qo qp qq qr:Nat}{x0 x1 x3 x4 x6:V}
theorem U2{f:Nat->Nat}{κ:List Nat->List Nat}:jd (σ5 f κ):=λk=>by
  show ∃ t,pS ((bz k [(κ [80],.str [f 98]),(κ [81],.str [])]).getD (.str [])) t
  rw[eM,eM]
  cases κ [80]==k with
 |true=>exact⟨_,.str _⟩
 |false=>cases κ [81]==k with
   |true=>exact⟨_,.str _⟩
   |false=>exact⟨_,.str _⟩
noncomputable def yX(ρ:kU)(N M:Nat):kU:={ ρ with r:=λq=>q-N+M }
theorem Oo(ρ:kU)(N M:Nat):iz (yX ρ N M)=iz ρ:=rfl
theorem BX(ρ:kU)(N M i:Nat):(yX ρ N M).r (N+i)=M+i:=by show N+i-N+M=M+i;omega
theorem LD{f:Nat->Nat}:cnt an (s.map f)=cnt an s:=by induction an <;> simp only[cnt,cn]
inductive U3(d:Nat)(n:Nd)(s:List Nat)(an tr:Bool)(qo qp qq qr:Nat)(x0 x1 x3 x4 x6:V)(y13 y14 y15:Option V)(H:Hp):Prop where
 |mk (a b c:V) (H':Hp) (e:aS P5 (ae P5 (d+12)) [c0,c1,c2,c3] [some (x0),some (x1),some (.bool an),some (x3),some (x4),some (pV n),some (x6),some (.str s),some (.loc qq),some (.loc qr),some (.loc qo),some (.loc qp),some (.bool tr),y13,y14,y15] H=some (.next,[some (x0),some (x1),some (.bool an),some (x3),some (x4),some (pV n),some (x6),some (.str s),some (.loc qq),some (.loc qr),some (.loc qo),some (.loc qp),some (.bool tr),some a,some b,some c],H')) (g:Gr H H'):U3 d n s an tr qo qp qq qr x0 x1 x3 x4 x6 y13 y14 y15 H
theorem BY(ρ:kU)(hρ:vO ρ)(hκ:ρ.κ [80]≠ρ.κ [81])(Xj:Dx id id qo qp H)(SP:Dx ρ.f ρ.κ qq qr H)(hp:Pw n)(Lx:gU (cO n)<=2)(hz:sz n<150)(hs:Abc s)(hl:s.length<(bif ej (cO n) then 3 else 5)){y13 y14 y15:Option V}:U3 d n s an tr qo qp qq qr x0 x1 x3 x4 x6 y13 y14 y15 H:=by
 have yK:s.length<=4:=by
   revert hl
   cases ej (cO n) with
  |true=>intro hl;have hl:s.length<3:=hl;exact nt (aj [_] (.d (.s ab) (.n 3) (.d (.s (.n 4)) ab .z)) rfl hl)
  |false=>intro hl;have hl:s.length<5:=hl;exact nt (aj [_] (.d (.s ab) (.n 5) (.d (.s (.n 4)) ab .z)) rfl hl)
 have U4:s.map id=s:=oS s
 have k1:Ky (mK id id n H) (gv id id n (H.length+5)):=k6 n _ hp λi k h=>yT h
 obtain⟨R,τ,k',T,Ig⟩:=Oc (s:=s) (c:=cnt an s) (σ:=σ5 id id) tr (by exact nl (aj [_] (.d ab (.n 4) (.d (.n 10) ab .z)) rfl yK)) k1 (by induction an <;> simp only[cnt,cond_true,cond_false] <;> omega) U2
 have Op:k'<=99999:=by
   have h1:=N4 Lx hl
   rw[jB] at Ig
   have h2:cnt an s*qh (cO n) s.length<=(s.length+1)*qh (cO n) s.length:=yZ _ (by induction an <;> simp only[cnt,cond_true,cond_false] <;> omega)
   exact nt (aj [_,_,_] (.d ab af (.d aq (.n 99999) (.d af aq (.d (.s (.n 99999)) ab .z)))) rfl Ig h1 h2)
 have gd:=FG k1 T (λe h=>by cases h)
 have bd:=FH (K:=[[80],[81]]) (j:=0) (λq key h=>yU (f:=id) (κ:=id) hp q key h) T ⟨cF _,SM (f:=id) (κ:=id) (by decide)⟩
 obtain⟨v1,l1,H1,e1,g1,RT,r1⟩:=xi (d:=d) (an:=an) Xj hp Lx hz hs yK (by decide) (by rw[U4];exact T) Op (by rw[U4];exact gd.1) bd.1
 have hk:=Oi (n:=n) (yX ρ (H.length+5) (H1.length+5)) (BX ρ (H.length+5) (H1.length+5))
 have T2:=Oe (ρ:=yX ρ (H.length+5) (H1.length+5)) hk T
 rw[mI _ n _ _ (BX ρ (H.length+5) (H1.length+5))] at T2
 have k2:Ky (mK ρ.f ρ.κ n H1) (gv ρ.f ρ.κ n (H1.length+5)):=k6 n _ hp λi k h=>yT h
 have Xk:=FG k2 T2 (λe h=>by cases h)
 have Xl:=FH (K:=[ρ.κ [80],ρ.κ [81]]) (j:=0) (λq key h=>yU (f:=ρ.f) (κ:=ρ.κ) (H:=H1) hp q key h) T2 ⟨cF _,SM (f:=ρ.f) (κ:=ρ.κ) hκ⟩
 obtain⟨v2,l2,H2,e2,g2,rX,r2⟩:=xi (d:=d) (an:=an) (H:=H1) (f:=ρ.f) (κ:=ρ.κ) (SP.gr g1) hp Lx hz hs yK hκ (by rw[LD];exact T2) Op Xk.1 Xl.1
 have EE:=On hp hs yK gd.2
 have hlen:=bd.2.g
 have Xm:∀ z,SO (mK id id n H) R=some z->∀ v∈z.2.2,gx v:=λz hz=>by
   induction R with
  |none=>cases hz
  |some z'=>cases hz;exact LB hp hs yK gd.1
 have f2:yV ρ H2 (SO (mK id id n H) R) v2:=by
   induction R with
  |none=>exact r2
  |some z=>
    obtain⟨j,h1,h2⟩:=r2
    have e:=LC hk z.2.2 gd.1
    rw[Oo] at e
    exact⟨j,h1,h2.trans (congrArg (λx=>some (O.list x)) e)⟩
 have q0:cU P5 (ae P5 (d+12)) c0 [some (x0),some (x1),some (.bool an),some (x3),some (x4),some (pV n),some (x6),some (.str s),some (.loc qq),some (.loc qr),some (.loc qo),some (.loc qp),some (.bool tr),y13,y14,y15] H=some (.next,[some (x0),some (x1),some (.bool an),some (x3),some (x4),some (pV n),some (x6),some (.str s),some (.loc qq),some (.loc qr),some (.loc qo),some (.loc qp),some (.bool tr),some (.tup [v1,.loc l1,.int k']),y14,y15],H1):=(aT (az rfl e1) ef)
 have q1:cU P5 (ae P5 (d+12)) c1 [some (x0),some (x1),some (.bool an),some (x3),some (x4),some (pV n),some (x6),some (.str s),some (.loc qq),some (.loc qr),some (.loc qo),some (.loc qp),some (.bool tr),some (.tup [v1,.loc l1,.int k']),y14,y15] H1=some (.next,[some (x0),some (x1),some (.bool an),some (x3),some (x4),some (pV n),some (x6),some (.str s),some (.loc qq),some (.loc qr),some (.loc qo),some (.loc qp),some (.bool tr),some (.tup [v1,.loc l1,.int k']),some (.tup [v2,.loc l2,.int k']),y15],H2):=(aT (az rfl e2) ef)
 have q2:∃(u:V)(H3:Hp),cU P5 (ae P5 (d+12)) c2 [some (x0),some (x1),some (.bool an),some (x3),some (x4),some (pV n),some (x6),some (.str s),some (.loc qq),some (.loc qr),some (.loc qo),some (.loc qp),some (.bool tr),some (.tup [v1,.loc l1,.int k']),some (.tup [v2,.loc l2,.int k']),y15] H2=some (.next,[some (x0),some (x1),some (.bool an),some (x3),some (x4),some (pV n),some (x6),some (.str s),some (.loc qq),some (.loc qr),some (.loc qo),some (.loc qp),some (.bool tr),some (.tup [v1,.loc l1,.int k']),some (.tup [v2,.loc l2,.int k']),some u],H3)/\Gr H2 H3/\yV ρ H3 (SO (mK id id n H) R) u:=by
   induction R with
  |none=>
    cases r1
    exact⟨.none,H2,rfl,Gr.refl _,rfl⟩
  |some z=>
    obtain⟨j,rfl,hj⟩:=r1
    have hM:z.2.2.length<=k':=bd.1
    obtain⟨H3,g3,e3⟩:=BU (d:=d+10) (ρ:=ρ) (es:=oO (mK id id n H) z.2.2) (LB hp hs yK gd.1) (by rw[BS];exact nl (aj [_,_] (.d ab (.n 99999) (.d af ab (.d (.n 100000) af .z))) rfl Op hM)) (SP.gr (g1.trans g2)) (g2.at hj)
    exact⟨.tup [.int z.1,.int z.2.1,.loc H3.length],_,(aT (bB rfl (aU (aM rfl (aV rfl (az rfl e3))))) ef),g3.trans (Gr.app _ _),H3.length,rfl,am⟩
 obtain⟨u,H3,q2,g3,f3⟩:=q2
 obtain⟨H4,g4,e4⟩:=BU (d:=d+10) (ρ:=ρ) EE (by exact nl (aj [_,_] (.d ab (.n 99999) (.d af (.a (.n 0) ab) (.d (.n 100000) af .z))) rfl Op hlen)) (SP.gr ((g1.trans g2).trans g3)) ((g2.trans g3).at RT)
 have g5:=g4.trans (Gr.app H4 [.list (τ.log.map (iz ρ))])
 have be:=CA (H:=H4++[.list (τ.log.map (iz ρ))]) (k:=(k':Int)) (i:=l2) (j:=H4.length) hρ Xm EE (f2.gr (g3.trans g5)) (f3.gr g5) ((g3.trans g5).at rX) am
 have q3:cU P5 (ae P5 (d+12)) c3 [some (x0),some (x1),some (.bool an),some (x3),some (x4),some (pV n),some (x6),some (.str s),some (.loc qq),some (.loc qr),some (.loc qo),some (.loc qp),some (.bool tr),some (.tup [v1,.loc l1,.int k']),some (.tup [v2,.loc l2,.int k']),some u] H3=some (.next,[some (x0),some (x1),some (.bool an),some (x3),some (x4),some (pV n),some (x6),some (.str s),some (.loc qq),some (.loc qr),some (.loc qo),some (.loc qp),some (.bool tr),some (.tup [v1,.loc l1,.int k']),some (.tup [v2,.loc l2,.int k']),some u],H4++[.list (τ.log.map (iz ρ))]):=(bD (ax rfl (aU (aM rfl (aM (az rfl e4) rfl))) be) aJ)
 exact .mk _ _ _ _ (ah q0 (ah q1 (ah q2 (ah q3 aJ)))) (((g1.trans g2).trans g3).trans g5)
end
end L5
namespace L5
noncomputable def sw{α:Type}[DecidableEq α](a b x:α):α:=if x=a then b else if x=b then a else x
theorem LF{α:Type}[DecidableEq α](a b x:α):sw a b (sw a b x)=x:=by
 by_cases h1:x=a
 ·have e:sw a b x=b:=if_pos h1
  rw[e,h1]
  by_cases h2:b=a
  ·rw[h2];exact if_pos rfl
  ·show(if b=a then b else if b=b then a else b)=a
   rw[if_neg h2,if_pos rfl]
 ·by_cases h2:x=b
  ·have e:sw a b x=a:=by show(if x=a then b else if x=b then a else x)=a;rw[if_neg h1,if_pos h2]
   rw[e,h2];exact if_pos rfl
  ·have e:sw a b x=x:=by show(if x=a then b else if x=b then a else x)=x;rw[if_neg h1,if_neg h2]
   rw[e,e]
noncomputable def BZ{α:Type}[DecidableEq α]:List (α×α)->α->α
 |[],x=>x
 |p::r,x=>BZ r (sw p.1 p.2 x)
theorem vh{α:Type}[DecidableEq α]:∀(l:List (α×α))(x y:α),BZ l x=BZ l y->x=y
 |[],x,y,h=>h
 |p::r,x,y,h=>by
  have h:=congrArg (sw p.1 p.2) (vh r _ _ h)
  rw[LF,LF] at h;exact h
noncomputable def vk(l:List (Nat×Nat))(h:(List.range 10).all (λn=>BZ l (48+n)==48+n)=true):kU:=
 ⟨BZ l,BZ [([80],[82]),([80],[81])],id,vh l,vh _,λn hn=>beq_iff_eq.mp (fz.mp h n (sK.mpr hn))⟩
theorem Ik{l:List (Nat×Nat)}{h:(List.range 10).all (λn=>BZ l (48+n)==48+n)=true}(h2:[97,98,99].all (λc=>decide (BZ l c<128))=true):vO (vk l h):=⟨λc hc=>of_decide_eq_true (fz.mp h2 c (by rcases hc with rfl|rfl|rfl <;> decide)),λq hq=>by rcases hq with rfl|rfl <;> rfl⟩
noncomputable def rws:List O:=[.list [.str [109],.str [110],.str [97]],.list [.str [98],.str [99],.str [97]],.list [.str [99],.str [98],.str [97]],.list [.str [97],.str [40],.str [98]],.list [.str [110],.str [97],.str [109]],.list [.str [39],.str [32],.str [98]]]
noncomputable abbrev LG:List V:=[.loc 2,.loc 3,.loc 4,.loc 5,.loc 6,.loc 7]
theorem SQ(r:Int)(h0:0<=r)(h1:r<6){zg:Prop}(zk:∀(ρ:kU)(i:Nat),vO ρ->ρ.κ [80]=[82]->ρ.κ [81]=[80]->rws[i]?=some (.list [.str [ρ.f 97],.str [ρ.f 98],.str [ρ.f 99]])->eO LG r=some (.loc (2+i))->zg):zg:=by
 exact DP (P:=λq=>q=r->zg) 0 6 ⟨⟨⟨⟨⟨⟨trivial,λe=>zk (vk [(97,109),(97,98),(97,110),(97,99)] (by decide)) 0 (Ik (by decide)) rfl rfl rfl (e▸rfl)⟩,λe=>zk (vk [(97,98),(97,99)] (by decide)) 1 (Ik (by decide)) rfl rfl rfl (e▸rfl)⟩,λe=>zk (vk [(97,99)] (by decide)) 2 (Ik (by decide)) rfl rfl rfl (e▸rfl)⟩,λe=>zk (vk [(98,40),(98,99)] (by decide)) 3 (Ik (by decide)) rfl rfl rfl (e▸rfl)⟩,λe=>zk (vk [(97,110),(97,99),(97,109),(97,98)] (by decide)) 4 (Ik (by decide)) rfl rfl rfl (e▸rfl)⟩,λe=>zk (vk [(97,39),(98,32),(98,99)] (by decide)) 5 (Ik (by decide)) rfl rfl rfl (e▸rfl)⟩ r h0 h1 rfl
noncomputable abbrev y0:MS:=.asg (.loc 1) (.lst [(.slice (.loc 0) (.lit .none) (.lit (.int 40)) (.lit .none)),(.lit (.int 0))])
noncomputable abbrev y1:MS:=.asg (.loc 2) (.cmp .eq (.call (.glob (.fn 72)) [(.loc 1),(.lit (.int 2))]) (.lit (.int 1)))
noncomputable abbrev y2:MS:=.asg (.loc 3) (.lst [(.lst [(.lit (.str [109])),(.lit (.str [110])),(.lit (.str [97]))]),(.lst [(.lit (.str [98])),(.lit (.str [99])),(.lit (.str [97]))]),(.lst [(.lit (.str [99])),(.lit (.str [98])),(.lit (.str [97]))]),(.lst [(.lit (.str [97])),(.lit (.str [40])),(.lit (.str [98]))]),(.lst [(.lit (.str [110])),(.lit (.str [97])),(.lit (.str [109]))]),(.lst [(.lit (.str [39])),(.lit (.str [32])),(.lit (.str [98]))])])
noncomputable abbrev y3:MS:=.asg (.tup [(.loc 4),(.loc 5)]) (.tup [(.idx (.loc 3) (.call (.glob (.fn 72)) [(.loc 1),(.lit (.int 6))])),(.call (.glob (.fn 74)) [(.loc 1),(.lit (.int 2))])])
noncomputable abbrev y4:MS:=.asg (.loc 6) (.call (.glob (.fn 72)) [(.loc 1),(.aB (.call (.glob (.fn 75)) [(.loc 5)]) (.lit (.int 3)) (.lit (.int 5)))])
noncomputable abbrev y5:MS:=.asg (.loc 7) (.ba (.lit (.str [])) .join [(.comp (.idx (.lit (.str [97,98,99])) (.call (.glob (.fn 72)) [(.loc 1),(.lit (.int 3))])) (.prim .range [(.loc 6)]) (.one 16) 1 [])])
noncomputable abbrev y6:MS:=.asg (.tup [(.loc 8),(.loc 9)]) (.tup [(.dict [(.lit (.str [97])),(.idx (.loc 4) (.lit (.int 0))),(.lit (.str [98])),(.idx (.loc 4) (.lit (.int 1))),(.lit (.str [99])),(.idx (.loc 4) (.lit (.int 2)))]),(.dict [(.lit (.str [80])),(.lit (.str [82])),(.lit (.str [81])),(.lit (.str [80]))])])
noncomputable abbrev y7:MS:=.asg (.tup [(.loc 10),(.loc 11)]) (.tup [(.dict [(.lit (.str [97])),(.lit (.str [97])),(.lit (.str [98])),(.lit (.str [98])),(.lit (.str [99])),(.lit (.str [99]))]),(.dict [(.lit (.str [80])),(.lit (.str [80])),(.lit (.str [81])),(.lit (.str [81]))])])
noncomputable abbrev y8:MS:=.for (.one 12) (.tup [(.lit (.bool false)),(.lit (.bool true))]) [(.asg (.loc 13) (.call (.glob (.fn 78)) [(.loc 5),(.loc 7),(.loc 2),(.loc 12),(.loc 10),(.loc 11)])),(.asg (.loc 14) (.call (.glob (.fn 78)) [(.loc 5),(.loc 7),(.loc 2),(.loc 12),(.loc 8),(.loc 9)])),(.asg (.loc 15) (.aB (.cmp .is (.idx (.loc 13) (.lit (.int 0))) (.lit .none)) (.lit .none) (.tup [(.idx (.idx (.loc 13) (.lit (.int 0))) (.lit (.int 0))),(.idx (.idx (.loc 13) (.lit (.int 0))) (.lit (.int 1))),(.call (.glob (.fn 79)) [(.idx (.idx (.loc 13) (.lit (.int 0))) (.lit (.int 2))),(.loc 8),(.loc 9)])]))),(.aB (.cmp .ne (.loc 14) (.tup [(.loc 15),(.call (.glob (.fn 79)) [(.idx (.loc 13) (.lit (.int 1))),(.loc 8),(.loc 9)]),(.idx (.loc 13) (.lit (.int 2)))])) [(.ret (.lit (.bool false)))] [])]
noncomputable abbrev y9:MS:=.ret (.lit (.bool true))
noncomputable abbrev Xn:ME:=(.idx (.lit (.str [97,98,99])) (.call (.glob (.fn 72)) [.loc 1,.lit (.int 3)]))
section
variable {d:Nat}{H:Hp}{cells:List V}{ns:List Int}
noncomputable def Xo(d:Nat)(l:Lo)(cells:List V)(k n:Nat)(x:Int)(t:Nat)(acc:List V)(H:Hp):Prop:=
 ∀ zg:Prop,(∀(cs:List Nat)(H':Hp),cs.length=k->Abc cs->dw (λl H=>nU P5 (ae P5 (d+1)) [] l H) (λl H=>av P5 (ae P5 (d+1)) Xn l H) (.one 16) l n (.cQ x 1 k) acc H=some (acc.reverse++ga cs,H')->Fd cells (t+k) H'->F1 H H'->zg)->zg
theorem Oq{a:Int}{H:Hp}(a1:0<=a)(a2:a<3){zg:Prop}(zk:∀ c:Nat,(c=97\/c=98\/c=99)->gE H (.str [97,98,99]) (.int a)=some (.str [c])->zg):zg:=
 DP (P:=λa=>(∀ c:Nat,(c=97\/c=98\/c=99)->gE H (.str [97,98,99]) (.int a)=some (.str [c])->zg)->zg) 0 3 ⟨⟨⟨trivial,λk=>k 97 (.inl rfl) rfl⟩,λk=>k 98 (.inr (.inl rfl)) rfl⟩,λk=>k 99 (.inr (.inr rfl)) rfl⟩ a a1 a2 zk
theorem DS{l:Lo}(hc:cells=ns.map .int)(hl:ns.length<=40)(h1:∀ v,(l.set 16 v)[1]?=some (some (.loc 1)))(k:Nat):∀(n:Nat)(x:Int)(t:Nat)(acc:List V)(H:Hp),k<n->Fd cells t H->t+k<1000->Xo d l cells k n x t acc H:=by
  induction k with
 |zero=>
    intro n x t acc H hn f _ zg zk
    match n,hn with
   |n+1,_=>exact zk [] H rfl (λc h=>(by cases h)) ((pP rfl).trans (by show _=some (acc.reverse++[],H);rw[eU])) f F1.refl
 |succ k ih=>
    intro n x t acc H hn f ht zg zk
    match n,hn with
   |n+1,hn=>
     refine dQ (d:=d) (m:=3) f hc hl (by exact nl (aj [_,_] (.d (.s (.a ab (.s af))) (.n 1000) (.d (.n 1000) ab .z)) rfl ht)) (by decide) λa a1 a2 ea=>?_
     refine Oq (H:=H.set 1 (.list [.loc 0,.int (t+1:Nat)])) a1 a2 λc oM hx=>?_
     refine ih n (x+1) (t+1) (.str [c]::acc) _ (oX hn) f.step (by exact nl (aj [_,_] (.d (.s (.a ab (.s af))) (.n 1000) (.d (.n 1000) (.a (.s ab) af) .z)) rfl ht)) _ λcs H' rP ha e f' g=>?_
     refine zk (c::cs) H' (by rw[c9,rP]) (λy hy=>(eC.mp hy).elim (λe=>e▸oM) (ha y)) ((mn rfl rfl AY (aR ak (az (aM (gj (h1 _)) rfl) ea) hx) e).trans ?_) (by rw[show t+(k+1)=t+1+k by exact lx [_,_] (.a ab (.s af)) (.a (.s ab) af) rfl];exact f') (F1.set.trans g)
     rw[gb,cG];rfl
theorem ph{H:Hp}(h:H.length=2):∃ a b,H=[a,b]:=by
  match H,h with
 |[a,b],_=>exact⟨a,b,rfl⟩
theorem Ot(hn:ns.length<=63):∃ H',ae P5 100 80 [.ro (ns.map .int)] []=some (.bool true,H'):=by
 have hc:(ns.map V.int).take 40=(ns.take 40).map .int:=List.map_take.symm
 have hl:(ns.take 40).length<=40:=by rw[List.length_take];omega
 have f0:Fd ((ns.map V.int).take 40) 0 ([]++[O.list ((ns.map V.int).take 40)]++[O.list [V.loc 0,V.int 0]]):=⟨rfl,rfl⟩
 refine dQ (d:=98) (m:=2) f0 hc hl (by decide) (by decide) λa a0 a1 e1=>?_
 have q0:cU P5 (ae P5 99) y0 [some (.ro (ns.map .int)),none,none,none,none,none,none,none,none,none,none,none,none,none,none,none] []=some (.next,[some (.ro (ns.map .int)),some (.loc 1),none,none,none,none,none,none,none,none,none,none,none,none,none,none],([]++[O.list ((ns.map V.int).take 40)]++[O.list [V.loc 0,V.int 0]])):=(aT (bq rfl) ef)
 have f1:=f0.step
 have l1:(([]++[O.list ((ns.map V.int).take 40)]++[O.list [V.loc 0,V.int 0]]).set 1 (.list [.loc 0,.int (0+1:Nat)])).length=2:=rfl
 generalize Un:([]++[O.list ((ns.map V.int).take 40)]++[O.list [V.loc 0,V.int 0]]).set 1 (.list [.loc 0,.int (0+1:Nat)])=H1 at e1 f1 l1
 have q1:cU P5 (ae P5 99) y1 [some (.ro (ns.map .int)),some (.loc 1),none,none,none,none,none,none,none,none,none,none,none,none,none,none] ([]++[O.list ((ns.map V.int).take 40)]++[O.list [V.loc 0,V.int 0]])=some (.next,[some (.ro (ns.map .int)),some (.loc 1),some (.bool (a==1)),none,none,none,none,none,none,none,none,none,none,none,none,none],H1):=(aT (ax (az rfl e1) ak (by rfl)) ef)
 obtain⟨oa,ob,rfl⟩:=ph l1
 have q2:cU P5 (ae P5 99) y2 [some (.ro (ns.map .int)),some (.loc 1),some (.bool (a==1)),none,none,none,none,none,none,none,none,none,none,none,none,none] [oa,ob]=some (.next,[some (.ro (ns.map .int)),some (.loc 1),some (.bool (a==1)),some (.loc 8),none,none,none,none,none,none,none,none,none,none,none,none],[oa,ob]++rws++[.list LG]):=by kernel_rfl
 have f2:Fd ((ns.map V.int).take 40) (0+1) ([oa,ob]++rws++[.list LG]):=(f1.app rws).app [.list LG]
 refine dQ (d:=98) (m:=6) f2 hc hl (by decide) (by decide) λr r0 r1 e2=>?_
 refine SQ r r0 r1 λρ i ha U5 U6 U7 Xp=>?_
 have f3:=f2.step
 have hi:i<6:=(eS.mp U7).1
 obtain⟨n,t3,H3,e3,k3⟩:=eA (D:=94) hc hl 2 (0+1+1) _ f3 (by decide)
 have Xq:t3<=0+1+1+14:=k3.t
 have SS:H3[2+i]?=some (.list [.str [ρ.f 97],.str [ρ.f 98],.str [ρ.f 99]]):=by
  refine k3.f1.off _ _ (by exact dp (nl (aj [_] (.d (.a (.n 2) ab) (.n 1) .z) rfl))) (aa (by exact d9 (nl (aj [_] (.d (.a (.n 2) ab) (.n 1) .z) rfl))) ?_)
  refine ag ?_
  rw[eT (by show 2<=2+i;exact nt (aj [_] (.d (.s (.a (.n 2) ab)) (.n 2) .z) rfl))]
  show rws[2+i-2]?=_
  rw[show 2+i-2=i by omega];exact U7
 have q3:cU P5 (ae P5 99) y3 [some (.ro (ns.map .int)),some (.loc 1),some (.bool (a==1)),some (.loc 8),none,none,none,none,none,none,none,none,none,none,none,none] ([oa,ob]++rws++[.list LG])=some (.next,[some (.ro (ns.map .int)),some (.loc 1),some (.bool (a==1)),some (.loc 8),some (.loc (2+i)),some (pV n),none,none,none,none,none,none,none,none,none,none],H3):=(aT (aU (aV (aR rfl (az rfl e2) (by exact cr rfl Xp)) (az rfl e3))) rfl)
 have er:=fV (H:=H3) n k3.pw 2 96 k3.dep
 have hm:∀ b:Bool,(bif b then V.int 3 else V.int 5)=V.int ((bif b then 3 else 5:Nat):Int):=λb=>by cases b <;> rfl
 refine dQ (d:=98) (m:=((bif ej (cO n) then 3 else 5:Nat):Int)) k3.fd hc hl (by exact nl (aj [_] (.d ab (.a (.s (.s (.n 0))) (.n 14)) (.d (.n 1000) ab .z)) rfl Xq)) (by cases ej (cO n) <;> decide) λk k0 k1 e4=>?_
 rw[← hm] at e4
 have q4:cU P5 (ae P5 99) y4 [some (.ro (ns.map .int)),some (.loc 1),some (.bool (a==1)),some (.loc 8),some (.loc (2+i)),some (pV n),none,none,none,none,none,none,none,none,none,none] H3=some (.next,[some (.ro (ns.map .int)),some (.loc 1),some (.bool (a==1)),some (.loc 8),some (.loc (2+i)),some (pV n),some (.int k),none,none,none,none,none,none,none,none,none],_):=(aT (az (aV rfl (gn (az rfl er) ak ak)) e4) ef)
 have SU:k.toNat<(bif ej (cO n) then 3 else 5):=(Int.toNat_lt k0).mpr k1
 have f4:=k3.fd.step
 have g4:F1 H3 (H3.set 1 (.list [.loc 0,.int (t3+1:Nat)])):=F1.set
 generalize H3.set 1 (.list [.loc 0,.int (t3+1:Nat)])=H4 at q4 f4 g4
 have X4:k.toNat<=4:=Nat.le_of_lt_succ (d8 SU (by cases ej (cO n) <;> decide))
 refine(DS (d:=98) (l:=[some (.ro (ns.map .int)),some (.loc 1),some (.bool (a==1)),some (.loc 8),some (.loc (2+i)),some (pV n),some (.int k),none,none,none,none,none,none,none,none,none]++List.replicate 1 none) hc hl (λv=>rfl) k.toNat 1048576 0 (t3+1) [] H4 (by omega) f4 (by omega)) _ λcs H5 rP U8 e5 f5 g5=>?_
 have NO:(ga cs).length<=lim:=jh (bX (by rw[ga,cn];omega))
 have Lw:=E8 (H:=H5++[O.list (ga cs)]) am (u8 cs) (by rw[qk];exact jh (bX (by omega)))
 rw[qk] at Lw
 have q5:cU P5 (ae P5 99) y5 [some (.ro (ns.map .int)),some (.loc 1),some (.bool (a==1)),some (.loc 8),some (.loc (2+i)),some (pV n),some (.int k),none,none,none,none,none,none,none,none,none] H4=some (.next,[some (.ro (ns.map .int)),some (.loc 1),some (.bool (a==1)),some (.loc 8),some (.loc (2+i)),some (pV n),some (.int k),some (.str cs),none,none,none,none,none,none,none,none],H5++[O.list (ga cs)]):=(aT (de ak (by rfl) (dH (pK (bl rfl (qP (by omega))) (De (by decide) (by omega) rfl) ((yr (p:=0) (q:=k) (m:=k.toNat) (by omega)).symm▸e5) (by rw[sO,oR];exact NO))) (by exact Lw)) ef)
 have LH:(H5++[O.list (ga cs)])[2+i]?=some (.list [.str [ρ.f 97],.str [ρ.f 98],.str [ρ.f 99]]):=ag ((g4.trans g5).off _ _ (by exact dp (nl (aj [_] (.d (.a (.n 2) ab) (.n 1) .z) rfl))) SS)
 generalize H5++[O.list (ga cs)]=H6 at q5 LH
 have LI:=LH
 let D1:O:=.dict [([97],.str [ρ.f 97]),([98],.str [ρ.f 98]),([99],.str [ρ.f 99])]
 let D2:O:=.dict [([80],.str [82]),([81],.str [80])]
 let D3:O:=.dict [([97],.str [97]),([98],.str [98]),([99],.str [99])]
 let D4:O:=.dict [([80],.str [80]),([81],.str [81])]
 have q6:cU P5 (ae P5 99) y6 [some (.ro (ns.map .int)),some (.loc 1),some (.bool (a==1)),some (.loc 8),some (.loc (2+i)),some (pV n),some (.int k),some (.str cs),none,none,none,none,none,none,none,none] H6=some (.next,[some (.ro (ns.map .int)),some (.loc 1),some (.bool (a==1)),some (.loc 8),some (.loc (2+i)),some (pV n),some (.int k),some (.str cs),some (.loc H6.length),some (.loc (H6++[D1]).length),none,none,none,none,none,none],H6++[D1]++[D2]):=(aT (aU (aV (mJ (fP ak (aR rfl ak (by exact cr LI rfl)) (fP ak (aR rfl ak (by exact cr LI rfl)) (fP ak (aR rfl ak (by exact cr LI rfl)) vd (by rfl)) (by rfl)) (by rfl))) (mJ (fP ak ak (fP ak ak vd (by rfl)) (by rfl))))) rfl)
 have q7:cU P5 (ae P5 99) y7 [some (.ro (ns.map .int)),some (.loc 1),some (.bool (a==1)),some (.loc 8),some (.loc (2+i)),some (pV n),some (.int k),some (.str cs),some (.loc H6.length),some (.loc (H6++[D1]).length),none,none,none,none,none,none] (H6++[D1]++[D2])=some (.next,[some (.ro (ns.map .int)),some (.loc 1),some (.bool (a==1)),some (.loc 8),some (.loc (2+i)),some (pV n),some (.int k),some (.str cs),some (.loc H6.length),some (.loc (H6++[D1]).length),some (.loc (H6++[D1]++[D2]).length),some (.loc (H6++[D1]++[D2]++[D3]).length),none,none,none,none],H6++[D1]++[D2]++[D3]++[D4]):=(aT (aU (aV (mJ (fP ak ak (fP ak ak (fP ak ak vd (by rfl)) (by rfl)) (by rfl))) (mJ (fP ak ak (fP ak ak vd (by rfl)) (by rfl))))) rfl)
 have SW:Dx ρ.f ρ.κ H6.length (H6++[D1]).length (H6++[D1]++[D2]++[D3]++[D4]):=⟨⟨_,ag (ag (ag am)),λc hc=>by rcases hc with rfl|rfl|rfl <;> rfl⟩,⟨_,ag (ag am),λq hq=>by
  rcases hq with rfl|rfl
  ·rw[U5];rfl
  ·rw[U6];rfl⟩⟩
 have SX:Dx id id (H6++[D1]++[D2]).length (H6++[D1]++[D2]++[D3]).length (H6++[D1]++[D2]++[D3]++[D4]):=⟨⟨_,ag am,λc hc=>by rcases hc with rfl|rfl|rfl <;> rfl⟩,⟨_,am,λq hq=>by rcases hq with rfl|rfl <;> rfl⟩⟩
 have hsz:sz n<150:=by have:=k3.sz;have h8:(2:Nat) ^ (2+1)=8:=rfl;exact nl (aj [_,_] (.d (.s ab) af (.d af (.n 8) (.d (.n 150) ab .z))) rfl this (bx h8))
 have hκ:ρ.κ [80]≠ρ.κ [81]:=by rw[U5,U6];decide
 generalize H6++[D1]++[D2]++[D3]++[D4]=H7 at q7 SX SW
 obtain⟨u1,u2,u3,H8,t1,g8⟩:=BY (d:=87) (n:=n) (s:=cs) (an:=a==1) (tr:=false) (x0:=.ro (ns.map .int)) (x1:=.loc 1) (x3:=.loc 8) (x4:=.loc (2+i)) (x6:=.int k) (y13:=none) (y14:=none) (y15:=none) ρ ha hκ SX SW k3.pw k3.dep hsz U8 (by rw[rP];exact SU)
 obtain⟨w1,w2,w3,H9,t2,g9⟩:=BY (d:=87) (n:=n) (s:=cs) (an:=a==1) (tr:=true) (x0:=.ro (ns.map .int)) (x1:=.loc 1) (x3:=.loc 8) (x4:=.loc (2+i)) (x6:=.int k) (y13:=some u1) (y14:=some u2) (y15:=some u3) ρ ha hκ (SX.gr g8) (SW.gr g8) k3.pw k3.dep hsz U8 (by rw[rP];exact SU)
 have U9:dX (.one 12) (λl H=>aS P5 (ae P5 99) [c0,c1,c2,c3] l H) 1048576 (.seq [.bool false,.bool true]) [some (.ro (ns.map .int)),some (.loc 1),some (.bool (a==1)),some (.loc 8),some (.loc (2+i)),some (pV n),some (.int k),some (.str cs),some (.loc H6.length),some (.loc (H6++[D1]).length),some (.loc (H6++[D1]++[D2]).length),some (.loc (H6++[D1]++[D2]++[D3]).length),none,none,none,none] H7=some (.next,_,H9):=mq (n:=1048575) rfl rfl t1 (mq (n:=1048574) rfl rfl t2 (sp (n:=1048573) rfl))
 exact⟨H9,ac rfl rfl (ah q0 (ah q1 (ah q2 (ah q3 (ah q4 (ah q5 (ah q6 (ah q7 (ah (ju rfl (by rfl) U9) rfl)))))))))⟩
end
end L5
end Mine.Q
set_option maxRecDepth 100000
namespace Mine
namespace HD
noncomputable abbrev PW:Program:=PySem.Challenge.rw_sa0605_05.row.toRowW.1
noncomputable def bd:List Stmt:=PW.main.body
noncomputable def st(k:Nat):Stmt:=bd.getD k default
noncomputable def cB:Stmt->List Stmt|.ClassDef _ _ _ b _ _ _ _ _ _ _=>b|_=>[]
noncomputable def sc(k j:Nat):Stmt:=(cB (st k)).getD j default
noncomputable def Ou:Stmt->Arguments|.FunctionDef _ a _ _ _ _ _ _ _ _=>a|_=>default
noncomputable def Ov:Stmt->List Stmt|.FunctionDef _ _ b _ _ _ _ _ _ _=>b|_=>[]
noncomputable def Ow:Stmt->Scope|.FunctionDef _ _ _ _ _ _ s _ _ _=>s|_=>default
noncomputable abbrev S(x:String):Str:=Str.ofString x
noncomputable abbrev s(x:String)(n:Nat):Value:=.str (S x) n
noncomputable abbrev r(n:Nat):Value:=.ref n
noncomputable abbrev i(n k:Nat):Value:=.int (.ofNat n) k
noncomputable abbrev KH:=PyData.keyHash
noncomputable abbrev E(P:Params)(x:String)(n:Nat)(v:Value):DictEntry:=⟨PyData.keyHash P (S x),.str (S x) n,v⟩
noncomputable abbrev N:=BT.node
noncomputable abbrev z:=BT.nil
noncomputable abbrev N0:Value:=.none
noncomputable abbrev vi(n k:Nat):Value:=.int (.ofNat n) k
noncomputable abbrev VT:=Value.type
noncomputable abbrev VB:=Value.builtin
noncomputable abbrev TU:Value:=.type "tuple"
noncomputable abbrev j(k:Nat):Value:=vi k 0
noncomputable abbrev j0:Value:=vi 0 0
noncomputable abbrev u(n:Nat):Value:=s "/claim/cut.py" n
noncomputable abbrev bt:Value:=.bool true
noncomputable abbrev bf:Value:=.bool false
noncomputable abbrev B1:Value:=VB "__main__.__loader__#opaque"
noncomputable abbrev fl(t:Value)(l:List Value):Obj:=⟨t,none,.fields ⟨l⟩,⟨[]⟩⟩
noncomputable abbrev sq(l:List Value):Obj:=⟨TU,none,.seq ⟨l⟩ 0,⟨[]⟩⟩
noncomputable abbrev di(l:List DictEntry)(n:Nat):Obj:=⟨VT "dict",none,.dict ⟨l⟩ n,⟨[]⟩⟩
noncomputable abbrev f0(a b:String)(x:Stmt):Obj:=⟨N0,none,.func ⟨S a,S b,Ou x,.stmts (Ov x),Ow x,0,[],N0,N0,N0,N0,none,N0,N0,0⟩,⟨[]⟩⟩
noncomputable abbrev f1(a b:String)(x:Stmt)(n:Nat)(m:Value)(k:Nat):Obj:=⟨VT "function",none,.func ⟨S a,S b,Ou x,.stmts (Ov x),Ow x,n,[],N0,N0,N0,m,none,r k,N0,0⟩,⟨[]⟩⟩
noncomputable def alt:Bool->List Obj->List Obj
 |_,[]=>[]
 |true,a::r=>a::alt false r
 |false,_::r=>alt true r
noncomputable def lF:Nat->List Obj->BT
 |0,_=>z
 |_,[]=>z
 |n+1,a::r=>N a (lF n (alt true r)) (lF n (alt false r))
noncomputable def sL:List String->Nat->List Value
 |[],_=>[]
 |a::r,n=>s a n::sL r (n+1)
noncomputable def tr:List (Nat×Nat×Nat)->List Value
 |[]=>[]
 |(a,b,c)::l=>j a::j b::r c::tr l
noncomputable abbrev xa(b:Nat):List Value:=[r b,bt,j 181,r (b+1),N0,r (b+2),r (b+3),r (b+4)]
noncomputable abbrev cq(a b:String)(n l k f:Nat)(x:List Value)(m:Nat):Obj:=fl (VT "code") ([s a n,s b (n+1),u (n+2),j l,j k,j0,j0,j f]++x++[j m,j l,u (m+1)])
noncomputable abbrev co(a:String)(n l k f:Nat)(x:List Value)(m:Nat):Obj:=cq a a n l k f x m
noncomputable abbrev g0(a:String)(k:Nat):Obj:=f0 a a (st k)
noncomputable abbrev g1(a:String)(k:Nat)(m:Value)(i:Nat):Obj:=f1 a a (st k) 3 m i
noncomputable def aF:Obj:=sq []
noncomputable def bp:Obj:=fl N0 []
noncomputable def SY(P:Params):List Obj:=[boot_o_0 P,boot_o_1 P,boot_o_2 P,boot_o_3 P,boot_o_4 P,boot_o_5 P,boot_o_6 P,boot_o_7 P,boot_o_8 P,boot_o_9 P,boot_o_10 P,aF,bp,co "<module>" 182 1 0 0 [(r 11),bf,(j 181),(r 12),N0,N0,N0,N0] 185,⟨(VT "frame"),none,Data.plain,⟨[(some (r 13)),(some (r 3)),(some (r 3)),none,(some (s "__main__" 164)),none,(some (r 0))]⟩⟩]
noncomputable def Va(P:Params):BT:=lF 12 (SY P)
noncomputable def Vb(P:Params):List DictEntry:=[E P "__name__" 165 (s "snobol.compile_pattern" 187),E P "__doc__" 166 N0,E P "__package__" 167 N0,E P "__loader__" 168 B1,E P "__spec__" 169 N0,E P "__annotations__" 170 (r 6),E P "__builtins__" 171 (r 4),E P "__file__" 173 (u 172),E P "__cached__" 174 N0,E P "ONE" 190 (s "one" 189),E P "WAYS" 192 (s "ways" 191),E P "SPLIT" 194 (s "split" 193),E P "JUMP" 196 (s "jump" 195),E P "MARK" 198 (s "mark" 197),E P "NAME" 200 (s "name" 199),E P "SET" 202 (s "set" 201),E P "GAIN" 204 (s "gain" 203),E P "PLACE" 206 (s "place" 205),E P "ASK" 208 (s "ask" 207),E P "FENCE" 210 (s "fence" 209),E P "FAIL" 212 (s "fail" 211),E P "ABORT" 214 (s "abort" 213),E P "SUCCEED" 216 (s "succeed" 215),E P "DONE" 218 (s "done" 217),E P "PUT" 220 (s "put" 219),E P "EMIT" 222 (s "emit" 221),E P "OPEN" 224 (s "open" 223),E P "SHUT" 226 (s "shut" 225),E P "MEET" 228 (s "meet" 227),E P "SINGLE" 240 (r 15),E P "ALONE" 245 (r 16),E P "row_of" 256 (r 23),E P "is_plain_text" 263 (r 30),E P "with_texts_joined" 272 (r 37)]
noncomputable def Vc:List (Nat×Nat×Nat):=[(24,0,22),(33,0,29),(35,0,36)]
noncomputable abbrev m0:Value:=s "snobol.compile_pattern" 187
noncomputable def Vd(P:Params):List Obj:=(((SY P).set 3 (di (Vb P) 34)).set 12 (fl N0 (tr Vc)))++[sq (sL ["chars","len","pos","rpos","tab","rtab","any","notany","span","break","rem"] 229),sq (sL ["fence","fail","abort","succeed"] 241),aF,bp,sq (sL ["node","kind","found","waiting","part"] 249),aF,g0 "row_of" 23,co "row_of" 246 24 2 3 (xa 17) 254,g1 "row_of" 23 m0 22,aF,bp,sq [(s "node" 260)],aF,g0 "is_plain_text" 24,co "is_plain_text" 257 33 1 3 (xa 24) 261,g1 "is_plain_text" 24 m0 29,aF,bp,sq (sL ["parts","found","part"] 267),aF,g0 "with_texts_joined" 25,co "with_texts_joined" 264 35 1 3 (xa 31) 270,g1 "with_texts_joined" 25 m0 36]
noncomputable def Ve(P:Params):BT:=lF 12 (Vd P)
noncomputable def Xr(P:Params):List DictEntry:=(Vb P)++[E P "PatternCode" 356 (r 94)]
noncomputable def Xs:List (Nat×Nat×Nat):=Vc++[(45,0,43)]
noncomputable def yY:Obj:=fl (VT "builtin_function_or_method") [(VB "type.__prepare__"),(VT "type")]
noncomputable def Xu(P:Params):List DictEntry:=[E P "__module__" 280 (s "snobol.compile_pattern" 187),E P "__qualname__" 282 (s "PatternCode" 281),E P "__firstlineno__" 284 (vi 45 283),E P "__init__" 291 (r 51),E P "emit" 299 (r 58),E P "put" 310 (r 65),E P "begun" 316 (r 70),E P "choice" 327 (r 77),E P "repeat" 337 (r 84),E P "bound" 347 (r 91),E P "__static_attributes__" 349 (r 92)]
noncomputable def Xv:List (Nat×Nat×Nat):=[(47,4,50),(50,4,57),(54,4,64),(65,4,69),(84,4,76),(90,4,83),(97,4,90)]
noncomputable def Xw(P:Params):List DictEntry:=[E P "__module__" 280 (s "snobol.compile_pattern" 187),E P "__firstlineno__" 284 (vi 45 283),E P "__init__" 291 (r 51),E P "emit" 299 (r 58),E P "put" 310 (r 65),E P "begun" 316 (r 70),E P "choice" 327 (r 77),E P "repeat" 337 (r 84),E P "bound" 347 (r 91),E P "__static_attributes__" 349 (r 92),E P "__dict__" 351 (r 95),E P "__weakref__" 353 (r 96),E P "__doc__" 354 N0]
noncomputable def O4(P:Params):List Obj:=(((Vd P).set 3 (di (Xr P) 35)).set 12 (fl N0 (tr Xs)))++[aF,yY,di (Xu P) 11,aF,fl N0 (tr Xv),co "PatternCode" 275 45 0 0 [(r 41),bf,(j 181),(r 42),N0,N0,N0,N0] 278,⟨(VT "frame"),none,Data.plain,⟨[(some (r 43)),(some (r 3)),(some (r 40)),none,(some (s "snobol.compile_pattern" 187)),none,(some (r 0))]⟩⟩,aF,bp,sq [(s "self" 288)],aF,f0 "__init__" "PatternCode.__init__" (sc 26 0),cq "__init__" "PatternCode.__init__" 285 47 1 3 (xa 45) 289,f1 "__init__" "PatternCode.__init__" (sc 26 0) 3 m0 50,aF,bp,sq (sL ["self","order"] 295),aF,f0 "emit" "PatternCode.emit" (sc 26 1),cq "emit" "PatternCode.emit" 292 50 2 3 (xa 52) 297,f1 "emit" "PatternCode.emit" (sc 26 1) 3 m0 57,aF,bp,sq (sL ["self","node","waiting","word","told"] 303),aF,f0 "put" "PatternCode.put" (sc 26 2),cq "put" "PatternCode.put" 300 54 2 3 (xa 59) 308,f1 "put" "PatternCode.put" (sc 26 2) 3 m0 64,aF,bp,f0 "begun" "PatternCode.begun" (sc 26 3),cq "begun" "PatternCode.begun" 311 65 2 3 [(r 66),bt,(j 181),(r 67),N0,N0,N0,(r 68)] 314,f1 "begun" "PatternCode.begun" (sc 26 3) 3 m0 69,aF,bp,sq (sL ["self","parts","found","ends","part"] 320),aF,f0 "choice" "PatternCode.choice" (sc 26 4),cq "choice" "PatternCode.choice" 317 84 2 3 (xa 71) 325,f1 "choice" "PatternCode.choice" (sc 26 4) 3 m0 76,aF,bp,sq (sL ["self","node","split","leave"] 331),aF,f0 "repeat" "PatternCode.repeat" (sc 26 5),cq "repeat" "PatternCode.repeat" 328 90 2 3 (xa 78) 335,f1 "repeat" "PatternCode.repeat" (sc 26 5) 3 m0 83,aF,bp,sq (sL ["self","word","ends","at"] 341),aF,f0 "bound" "PatternCode.bound" (sc 26 6),cq "bound" "PatternCode.bound" 338 97 3 3 (xa 85) 345,f1 "bound" "PatternCode.bound" (sc 26 6) 3 m0 90,sq [(s "orders" 348)],di (Xw P) 4,⟨(VT "type"),none,(.cls ⟨(S "PatternCode"),[(VT "object")],[(r 94),(VT "object")],93,(S "PatternCode"),true,[],[],false,none,false⟩),⟨[none,none,(some (s "PatternCode" 273)),(some (s "PatternCode" 281)),(some (VB "object.__new__")),(some bt)]⟩⟩,fl (VT "getset_descriptor") [(s "__dict__" 350),(r 94),(VB "function.__dict__"),(VB "function.__dict__#set")],fl (VT "getset_descriptor") [(s "__weakref__" 352),(r 94),(VB "ExceptionGroup.__weakref__"),N0],fl (VT "super") [(r 94),(r 94),(r 94)],fl (VT "builtin_function_or_method") [(VB "object.__init_subclass__"),(r 94)]]
noncomputable def O5(P:Params):BT:=lF 12 (O4 P)
noncomputable def Vf(P:Params):List DictEntry:=[E P "__name__" 165 (s "snobol.values" 375),E P "__doc__" 166 N0,E P "__package__" 167 N0,E P "__loader__" 168 B1,E P "__spec__" 169 N0,E P "__annotations__" 170 (r 6),E P "__builtins__" 171 (r 4),E P "__file__" 173 (u 172),E P "__cached__" 174 N0,E P "ONE" 190 (s "one" 189),E P "WAYS" 192 (s "ways" 191),E P "SPLIT" 194 (s "split" 193),E P "JUMP" 196 (s "jump" 195),E P "MARK" 198 (s "mark" 197),E P "NAME" 200 (s "name" 199),E P "SET" 202 (s "set" 201),E P "GAIN" 204 (s "gain" 203),E P "PLACE" 206 (s "place" 205),E P "ASK" 208 (s "ask" 207),E P "FENCE" 210 (s "fence" 209),E P "FAIL" 212 (s "fail" 211),E P "ABORT" 214 (s "abort" 213),E P "SUCCEED" 216 (s "succeed" 215),E P "DONE" 218 (s "done" 217),E P "PUT" 220 (s "put" 219),E P "EMIT" 222 (s "emit" 221),E P "OPEN" 224 (s "open" 223),E P "SHUT" 226 (s "shut" 225),E P "MEET" 228 (s "meet" 227),E P "SINGLE" 240 (r 15),E P "ALONE" 245 (r 16),E P "row_of" 256 (r 23),E P "is_plain_text" 263 (r 30),E P "with_texts_joined" 272 (r 37),E P "PatternCode" 356 (r 94),E P "straightened" 366 (r 105),E P "compile_pattern" 374 (r 112),E P "SnobolError" 410 (r 132)]
noncomputable def Xx:List (Nat×Nat×Nat):=[(24,0,22),(33,0,29),(35,0,36),(45,0,43),(106,0,104),(116,0,111),(122,0,119)]
noncomputable def O6(P:Params):List Obj:=((((O4 P).set 2 (⟨N0,none,(.dict ⟨[E P "type.__subclasses__.Exception.0" 407 (j 132),E P "type.__subclasses__.Exception.n" 408 (j 1)]⟩ 2),⟨[]⟩⟩)).set 3 (di (Vf P) 38)).set 12 (fl N0 (tr Xx)))++[aF,bp,sq (sL ["orders","found","order","goal"] 360),aF,g0 "straightened" 27,co "straightened" 357 106 1 3 (xa 99) 364,g1 "straightened" 27 m0 104,aF,bp,sq (sL ["node","code"] 370),aF,g0 "compile_pattern" 28,co "compile_pattern" 367 116 1 3 (xa 106) 372,g1 "compile_pattern" 28 m0 111,sq [(VT "Exception")],yY,di [E P "__module__" 384 (s "snobol.values" 375),E P "__qualname__" 386 (s "SnobolError" 385),E P "__firstlineno__" 388 (vi 122 387),E P "__init__" 399 (r 129),E P "__static_attributes__" 402 (r 130),E P "__classcell__" 403 (r 116)] 6,⟨(VT "cell"),none,(.cell (some (r 132))),⟨[]⟩⟩,aF,fl N0 [(j 124),(j 4),(r 128)],co "SnobolError" 379 122 0 0 [(r 117),bf,(j 181),(r 118),N0,N0,N0,N0] 382,⟨(VT "frame"),none,Data.plain,⟨[(some (r 119)),(some (r 3)),(some (r 115)),none,(some (s "snobol.values" 375)),none,(some (r 0))]⟩⟩,sq [(s "" 389)],sq [(r 116)],sq [(s "__class__" 393)],bp,sq (sL ["self","number","told"] 394),aF,f0 "__init__" "SnobolError.__init__" (sc 30 0),cq "__init__" "SnobolError.__init__" 390 124 3 3 (xa 123) 397,⟨(VT "function"),none,(.func ⟨(S "__init__"),(S "SnobolError.__init__"),Ou (sc 30 0),.stmts (Ov (sc 30 0)),Ow (sc 30 0),3,[((S "__class__"),116)],(r 121),N0,N0,(s "snobol.values" 375),none,(r 128),(r 122),0⟩),⟨[]⟩⟩,sq (sL ["number","told"] 400),di [E P "__module__" 384 (s "snobol.values" 375),E P "__firstlineno__" 388 (vi 122 387),E P "__init__" 399 (r 129),E P "__static_attributes__" 402 (r 130),E P "__weakref__" 405 (r 133),E P "__doc__" 406 N0] 4,⟨(VT "type"),none,(.cls ⟨(S "SnobolError"),[(VT "Exception")],[(r 132),(VT "Exception"),(VT "BaseException"),(VT "object")],131,(S "SnobolError"),true,[],[],false,none,false⟩),⟨[(some (r 113)),none,(some (s "SnobolError" 377)),(some (s "SnobolError" 385)),(some (VB "Exception.__new__")),(some bt)]⟩⟩,fl (VT "getset_descriptor") [(s "__weakref__" 404),(r 132),(VB "ExceptionGroup.__weakref__"),N0],fl (VT "super") [(r 132),(r 132),(r 132)],fl (VT "builtin_function_or_method") [(VB "object.__init_subclass__"),(r 132)]]
noncomputable def O7(P:Params):BT:=lF 12 (O6 P)
noncomputable def O8(P:Params):List DictEntry:=(Vf P)++[E P "Failure" 430 (r 145)]
noncomputable def O9:List (Nat×Nat×Nat):=[(24,0,22),(33,0,29),(35,0,36),(45,0,43),(106,0,104),(116,0,111),(122,0,119),(128,0,141)]
noncomputable def Pa(P:Params):List Obj:=(((O6 P).set 3 (di (O8 P) 39)).set 12 (fl N0 (tr O9)))++[aF,yY,di [E P "__module__" 418 (s "snobol.values" 375),E P "__qualname__" 420 (s "Failure" 419),E P "__firstlineno__" 422 (vi 128 421),E P "__static_attributes__" 423 (r 143)] 4,aF,bp,co "Failure" 413 128 0 0 [(r 139),bf,(j 181),(r 140),N0,N0,N0,N0] 416,⟨(VT "frame"),none,Data.plain,⟨[(some (r 141)),(some (r 3)),(some (r 138)),none,(some (s "snobol.values" 375)),none,(some (r 0))]⟩⟩,aF,di [E P "__module__" 418 (s "snobol.values" 375),E P "__firstlineno__" 422 (vi 128 421),E P "__static_attributes__" 423 (r 143),E P "__dict__" 425 (r 146),E P "__weakref__" 427 (r 147),E P "__doc__" 428 N0] 4,⟨(VT "type"),none,(.cls ⟨(S "Failure"),[(VT "object")],[(r 145),(VT "object")],144,(S "Failure"),true,[],[],false,none,false⟩),⟨[none,none,(some (s "Failure" 411)),(some (s "Failure" 419)),(some (VB "object.__new__")),(some bt)]⟩⟩,fl (VT "getset_descriptor") [(s "__dict__" 424),(r 145),(VB "function.__dict__"),(VB "function.__dict__#set")],fl (VT "getset_descriptor") [(s "__weakref__" 426),(r 145),(VB "ExceptionGroup.__weakref__"),N0],fl (VT "super") [(r 145),(r 145),(r 145)],fl (VT "builtin_function_or_method") [(VB "object.__init_subclass__"),(r 145)]]
noncomputable def Pb(P:Params):BT:=lF 12 (Pa P)
noncomputable def Vg(P:Params):List DictEntry:=(O8 P)++[E P "Pattern" 459 (r 166)]
noncomputable def Pc:List (Nat×Nat×Nat):=O9++[(130,0,155)]
noncomputable abbrev m1:Value:=s "snobol.values" 375
noncomputable def Vh(P:Params):List DictEntry:=[E P "__module__" 438 (s "snobol.values" 375),E P "__firstlineno__" 442 (vi 130 441),E P "__init__" 450 (r 163),E P "__static_attributes__" 452 (r 164),E P "__dict__" 454 (r 167),E P "__weakref__" 456 (r 168),E P "__doc__" 457 N0]
noncomputable def Pd(P:Params):List Obj:=(((Pa P).set 3 (di (Vg P) 40)).set 12 (fl N0 (tr Pc)))++[aF,yY,di [E P "__module__" 438 (s "snobol.values" 375),E P "__qualname__" 440 (s "Pattern" 439),E P "__firstlineno__" 442 (vi 130 441),E P "__init__" 450 (r 163),E P "__static_attributes__" 452 (r 164)] 5,aF,fl N0 [(j 132),(j 4),(r 162)],co "Pattern" 433 130 0 0 [(r 153),bf,(j 181),(r 154),N0,N0,N0,N0] 436,⟨(VT "frame"),none,Data.plain,⟨[(some (r 155)),(some (r 3)),(some (r 152)),none,(some (s "snobol.values" 375)),none,(some (r 0))]⟩⟩,aF,bp,sq (sL ["self","node"] 446),aF,f0 "__init__" "Pattern.__init__" (sc 32 0),cq "__init__" "Pattern.__init__" 443 132 2 3 (xa 157) 448,f1 "__init__" "Pattern.__init__" (sc 32 0) 3 m1 162,sq [(s "node" 451)],di (Vh P) 4,⟨(VT "type"),none,(.cls ⟨(S "Pattern"),[(VT "object")],[(r 166),(VT "object")],165,(S "Pattern"),true,[],[],false,none,false⟩),⟨[none,none,(some (s "Pattern" 431)),(some (s "Pattern" 439)),(some (VB "object.__new__")),(some bt)]⟩⟩,fl (VT "getset_descriptor") [(s "__dict__" 453),(r 166),(VB "function.__dict__"),(VB "function.__dict__#set")],fl (VT "getset_descriptor") [(s "__weakref__" 455),(r 166),(VB "ExceptionGroup.__weakref__"),N0],fl (VT "super") [(r 166),(r 166),(r 166)],fl (VT "builtin_function_or_method") [(VB "object.__init_subclass__"),(r 166)]]
noncomputable def Pe(P:Params):BT:=lF 12 (Pd P)
noncomputable def Vi(P:Params):List DictEntry:=[E P "__name__" 165 (s "snobol.values" 375),E P "__doc__" 166 N0,E P "__package__" 167 N0,E P "__loader__" 168 B1,E P "__spec__" 169 N0,E P "__annotations__" 170 (r 6),E P "__builtins__" 171 (r 4),E P "__file__" 173 (u 172),E P "__cached__" 174 N0,E P "ONE" 190 (s "one" 189),E P "WAYS" 192 (s "ways" 191),E P "SPLIT" 194 (s "split" 193),E P "JUMP" 196 (s "jump" 195),E P "MARK" 198 (s "mark" 197),E P "NAME" 200 (s "name" 199),E P "SET" 202 (s "set" 201),E P "GAIN" 204 (s "gain" 203),E P "PLACE" 206 (s "place" 205),E P "ASK" 208 (s "ask" 207),E P "FENCE" 210 (s "fence" 209),E P "FAIL" 212 (s "fail" 211),E P "ABORT" 214 (s "abort" 213),E P "SUCCEED" 216 (s "succeed" 215),E P "DONE" 218 (s "done" 217),E P "PUT" 220 (s "put" 219),E P "EMIT" 222 (s "emit" 221),E P "OPEN" 224 (s "open" 223),E P "SHUT" 226 (s "shut" 225),E P "MEET" 228 (s "meet" 227),E P "SINGLE" 240 (r 15),E P "ALONE" 245 (r 16),E P "row_of" 256 (r 23),E P "is_plain_text" 263 (r 30),E P "with_texts_joined" 272 (r 37),E P "PatternCode" 356 (r 94),E P "straightened" 366 (r 105),E P "compile_pattern" 374 (r 112),E P "SnobolError" 410 (r 132),E P "Failure" 430 (r 145),E P "Pattern" 459 (r 166),E P "Delayed" 488 (r 187)]
noncomputable def Pf:List (Nat×Nat×Nat):=Pc++[(134,0,176)]
noncomputable def Vj(P:Params):List DictEntry:=[E P "__module__" 467 (s "snobol.values" 375),E P "__firstlineno__" 471 (vi 134 470),E P "__init__" 479 (r 184),E P "__static_attributes__" 481 (r 185),E P "__dict__" 483 (r 188),E P "__weakref__" 485 (r 189),E P "__doc__" 486 N0]
noncomputable def Ph(P:Params):List Obj:=(((Pd P).set 3 (di (Vi P) 41)).set 12 (fl N0 (tr Pf)))++[aF,yY,di [E P "__module__" 467 (s "snobol.values" 375),E P "__qualname__" 469 (s "Delayed" 468),E P "__firstlineno__" 471 (vi 134 470),E P "__init__" 479 (r 184),E P "__static_attributes__" 481 (r 185)] 5,aF,fl N0 [(j 136),(j 4),(r 183)],co "Delayed" 462 134 0 0 [(r 174),bf,(j 181),(r 175),N0,N0,N0,N0] 465,⟨(VT "frame"),none,Data.plain,⟨[(some (r 176)),(some (r 3)),(some (r 173)),none,(some (s "snobol.values" 375)),none,(some (r 0))]⟩⟩,aF,bp,sq (sL ["self","tree"] 475),aF,f0 "__init__" "Delayed.__init__" (sc 33 0),cq "__init__" "Delayed.__init__" 472 136 2 3 (xa 178) 477,f1 "__init__" "Delayed.__init__" (sc 33 0) 3 m1 183,sq [(s "tree" 480)],di (Vj P) 4,⟨(VT "type"),none,(.cls ⟨(S "Delayed"),[(VT "object")],[(r 187),(VT "object")],186,(S "Delayed"),true,[],[],false,none,false⟩),⟨[none,none,(some (s "Delayed" 460)),(some (s "Delayed" 468)),(some (VB "object.__new__")),(some bt)]⟩⟩,fl (VT "getset_descriptor") [(s "__dict__" 482),(r 187),(VB "function.__dict__"),(VB "function.__dict__#set")],fl (VT "getset_descriptor") [(s "__weakref__" 484),(r 187),(VB "ExceptionGroup.__weakref__"),N0],fl (VT "super") [(r 187),(r 187),(r 187)],fl (VT "builtin_function_or_method") [(VB "object.__init_subclass__"),(r 187)]]
noncomputable def Pj(P:Params):BT:=lF 12 (Ph P)
noncomputable def Vk(P:Params):List DictEntry:=[E P "__name__" 165 (s "snobol.values" 375),E P "__doc__" 166 N0,E P "__package__" 167 N0,E P "__loader__" 168 B1,E P "__spec__" 169 N0,E P "__annotations__" 170 (r 6),E P "__builtins__" 171 (r 4),E P "__file__" 173 (u 172),E P "__cached__" 174 N0,E P "ONE" 190 (s "one" 189),E P "WAYS" 192 (s "ways" 191),E P "SPLIT" 194 (s "split" 193),E P "JUMP" 196 (s "jump" 195),E P "MARK" 198 (s "mark" 197),E P "NAME" 200 (s "name" 199),E P "SET" 202 (s "set" 201),E P "GAIN" 204 (s "gain" 203),E P "PLACE" 206 (s "place" 205),E P "ASK" 208 (s "ask" 207),E P "FENCE" 210 (s "fence" 209),E P "FAIL" 212 (s "fail" 211),E P "ABORT" 214 (s "abort" 213),E P "SUCCEED" 216 (s "succeed" 215),E P "DONE" 218 (s "done" 217),E P "PUT" 220 (s "put" 219),E P "EMIT" 222 (s "emit" 221),E P "OPEN" 224 (s "open" 223),E P "SHUT" 226 (s "shut" 225),E P "MEET" 228 (s "meet" 227),E P "SINGLE" 240 (r 15),E P "ALONE" 245 (r 16),E P "row_of" 256 (r 23),E P "is_plain_text" 263 (r 30),E P "with_texts_joined" 272 (r 37),E P "PatternCode" 356 (r 94),E P "straightened" 366 (r 105),E P "compile_pattern" 374 (r 112),E P "SnobolError" 410 (r 132),E P "Failure" 430 (r 145),E P "Pattern" 459 (r 166),E P "Delayed" 488 (r 187),E P "NameRef" 521 (r 208),E P "is_fail" 528 (r 219),E P "fits" 536 (r 226),E P "whole_of_text" 547 (r 233),E P "text_of_whole" 556 (r 240),E P "to_whole" 564 (r 247)]
noncomputable def Pk:List (Nat×Nat×Nat):=Pf++[(138,0,197),(144,0,218),(146,0,225),(148,0,232),(161,0,239),(167,0,246)]
noncomputable def Vl(P:Params):List DictEntry:=[E P "__module__" 496 (s "snobol.values" 375),E P "__firstlineno__" 500 (vi 138 499),E P "__init__" 510 (r 205),E P "__static_attributes__" 514 (r 206),E P "__dict__" 516 (r 209),E P "__weakref__" 518 (r 210),E P "__doc__" 519 N0]
noncomputable def Pl(P:Params):List Obj:=(((Ph P).set 3 (di (Vk P) 47)).set 12 (fl N0 (tr Pk)))++[aF,yY,di [E P "__module__" 496 (s "snobol.values" 375),E P "__qualname__" 498 (s "NameRef" 497),E P "__firstlineno__" 500 (vi 138 499),E P "__init__" 510 (r 205),E P "__static_attributes__" 514 (r 206)] 5,aF,fl N0 [(j 140),(j 4),(r 204)],co "NameRef" 491 138 0 0 [(r 195),bf,(j 181),(r 196),N0,N0,N0,N0] 494,⟨(VT "frame"),none,Data.plain,⟨[(some (r 197)),(some (r 3)),(some (r 194)),none,(some (s "snobol.values" 375)),none,(some (r 0))]⟩⟩,aF,bp,sq (sL ["self","kind","owner","key"] 504),aF,f0 "__init__" "NameRef.__init__" (sc 34 0),cq "__init__" "NameRef.__init__" 501 140 4 3 (xa 199) 508,f1 "__init__" "NameRef.__init__" (sc 34 0) 3 m1 204,sq (sL ["key","kind","owner"] 511),di (Vl P) 4,⟨(VT "type"),none,(.cls ⟨(S "NameRef"),[(VT "object")],[(r 208),(VT "object")],207,(S "NameRef"),true,[],[],false,none,false⟩),⟨[none,none,(some (s "NameRef" 489)),(some (s "NameRef" 497)),(some (VB "object.__new__")),(some bt)]⟩⟩,fl (VT "getset_descriptor") [(s "__dict__" 515),(r 208),(VB "function.__dict__"),(VB "function.__dict__#set")],fl (VT "getset_descriptor") [(s "__weakref__" 517),(r 208),(VB "ExceptionGroup.__weakref__"),N0],fl (VT "super") [(r 208),(r 208),(r 208)],fl (VT "builtin_function_or_method") [(VB "object.__init_subclass__"),(r 208)],aF,bp,sq [(s "value" 525)],aF,g0 "is_fail" 35,co "is_fail" 522 144 1 3 (xa 213) 526,g1 "is_fail" 35 m1 218,aF,bp,sq (sL ["number","width"] 532),aF,g0 "fits" 36,co "fits" 529 146 2 3 (xa 220) 534,g1 "fits" 36 m1 225,aF,bp,sq (sL ["text","width","digits","number","sign"] 540),aF,g0 "whole_of_text" 37,co "whole_of_text" 537 148 2 3 (xa 227) 545,g1 "whole_of_text" 37 m1 232,aF,bp,sq (sL ["number","left","found"] 551),aF,g0 "text_of_whole" 38,co "text_of_whole" 548 161 1 3 (xa 234) 554,g1 "text_of_whole" 38 m1 239,aF,bp,sq (sL ["value","width"] 560),aF,g0 "to_whole" 39,co "to_whole" 557 167 2 3 (xa 241) 562,g1 "to_whole" 39 m1 246]
noncomputable def Pm(P:Params):BT:=lF 12 (Pl P)
noncomputable def Pn(P:Params):List DictEntry:=[E P "__name__" 165 (s "snobol.primitives" 638),E P "__doc__" 166 N0,E P "__package__" 167 N0,E P "__loader__" 168 B1,E P "__spec__" 169 N0,E P "__annotations__" 170 (r 6),E P "__builtins__" 171 (r 4),E P "__file__" 173 (u 172),E P "__cached__" 174 N0,E P "ONE" 190 (s "one" 189),E P "WAYS" 192 (s "ways" 191),E P "SPLIT" 194 (s "split" 193),E P "JUMP" 196 (s "jump" 195),E P "MARK" 198 (s "mark" 197),E P "NAME" 200 (s "name" 199),E P "SET" 202 (s "set" 201),E P "GAIN" 204 (s "gain" 203),E P "PLACE" 206 (s "place" 205),E P "ASK" 208 (s "ask" 207),E P "FENCE" 210 (s "fence" 209),E P "FAIL" 212 (s "fail" 211),E P "ABORT" 214 (s "abort" 213),E P "SUCCEED" 216 (s "succeed" 215),E P "DONE" 218 (s "done" 217),E P "PUT" 220 (s "put" 219),E P "EMIT" 222 (s "emit" 221),E P "OPEN" 224 (s "open" 223),E P "SHUT" 226 (s "shut" 225),E P "MEET" 228 (s "meet" 227),E P "SINGLE" 240 (r 15),E P "ALONE" 245 (r 16),E P "row_of" 256 (r 23),E P "is_plain_text" 263 (r 30),E P "with_texts_joined" 272 (r 37),E P "PatternCode" 356 (r 94),E P "straightened" 366 (r 105),E P "compile_pattern" 374 (r 112),E P "SnobolError" 410 (r 132),E P "Failure" 430 (r 145),E P "Pattern" 459 (r 166),E P "Delayed" 488 (r 187),E P "NameRef" 521 (r 208),E P "is_fail" 528 (r 219),E P "fits" 536 (r 226),E P "whole_of_text" 547 (r 233),E P "text_of_whole" 556 (r 240),E P "to_whole" 564 (r 247),E P "to_text" 571 (r 254),E P "need_text" 579 (r 261),E P "COUNTED" 587 (r 262),E P "SIGNED" 592 (r 263),E P "WIDTH_OF_COUNT" 594 (vi 64 593),E P "plain_count" 604 (r 271),E P "plain_signs" 613 (r 278),E P "pattern_of" 621 (r 285),E P "is_delayed" 628 (r 292),E P "settled" 637 (r 299),E P "OPENING" 641 (s "(" 640),E P "CLOSING" 643 (s ")" 642),E P "chars_end" 653 (r 306),E P "len_end" 662 (r 313),E P "pos_end" 670 (r 320)]
noncomputable def Po:List (Nat×Nat×Nat):=Pk++[(171,0,253),(175,0,260),(184,0,270),(191,0,277),(196,0,284),(205,0,291),(207,0,298),(219,0,305),(222,0,312),(224,0,319)]
noncomputable abbrev m2:Value:=s "snobol.nodes" 580
noncomputable abbrev m3:Value:=s "snobol.primitives" 638
noncomputable def Pp(P:Params):List Obj:=(((Pl P).set 3 (di (Pn P) 62)).set 12 (fl N0 (tr Po)))++[aF,bp,sq [(s "value" 568)],aF,g0 "to_text" 40,co "to_text" 565 171 1 3 (xa 248) 569,g1 "to_text" 40 m1 253,aF,bp,sq (sL ["value","text"] 575),aF,g0 "need_text" 41,co "need_text" 572 175 1 3 (xa 255) 577,g1 "need_text" 41 m1 260,sq (sL ["len","pos","rpos","tab","rtab"] 582),sq (sL ["any","notany","span","break"] 588),sq [(vi 64 593)],aF,bp,sq (sL ["value","kind","width","count"] 598),aF,g0 "plain_count" 46,co "plain_count" 595 184 3 3 (xa 265) 602,⟨(VT "function"),none,(.func ⟨(S "plain_count"),(S "plain_count"),Ou (st 46),.stmts (Ov (st 46)),Ow (st 46),3,[],(r 264),N0,N0,(s "snobol.nodes" 580),none,(r 270),N0,0⟩),⟨[]⟩⟩,aF,bp,sq (sL ["value","kind","text"] 608),aF,g0 "plain_signs" 47,co "plain_signs" 605 191 2 3 (xa 272) 611,g1 "plain_signs" 47 m2 277,aF,bp,sq (sL ["value","text"] 617),aF,g0 "pattern_of" 48,co "pattern_of" 614 196 1 3 (xa 279) 619,g1 "pattern_of" 48 m2 284,aF,bp,sq [(s "told" 625)],aF,g0 "is_delayed" 49,co "is_delayed" 622 205 1 3 (xa 286) 626,g1 "is_delayed" 49 m2 291,aF,bp,sq (sL ["node","host","value"] 632),aF,g0 "settled" 50,co "settled" 629 207 2 3 (xa 293) 635,g1 "settled" 50 m2 298,aF,bp,sq (sL ["subject","at","text","end"] 647),aF,g0 "chars_end" 54,co "chars_end" 644 219 3 3 (xa 300) 651,g1 "chars_end" 54 m3 305,aF,bp,sq (sL ["subject","at","many"] 657),aF,g0 "len_end" 55,co "len_end" 654 222 3 3 (xa 307) 660,g1 "len_end" 55 m3 312,aF,bp,sq (sL ["at","place"] 666),aF,g0 "pos_end" 56,co "pos_end" 663 224 2 3 (xa 314) 668,g1 "pos_end" 56 m3 319]
noncomputable def Ps(P:Params):BT:=lF 12 (Pp P)
noncomputable def Pt(P:Params):List DictEntry:=(Pn P)++[E P "rpos_end" 679 (r 327),E P "tab_end" 688 (r 334),E P "rtab_end" 698 (r 341),E P "rem_end" 705 (r 348),E P "any_at" 714 (r 355),E P "notany_at" 723 (r 362),E P "run_end" 733 (r 369),E P "span_end" 743 (r 376),E P "break_end" 753 (r 383),E P "arb_ends" 761 (r 390),E P "bal_end" 770 (r 397),E P "bal_ends" 780 (r 404)]
noncomputable def Pu:List (Nat×Nat×Nat):=Po++[(226,0,326),(228,0,333),(230,0,340),(233,0,347),(235,0,354),(237,0,361),(239,0,368),(243,0,375),(246,0,382),(249,0,389),(251,0,396),(264,0,403)]
noncomputable def Px(P:Params):List Obj:=(((Pp P).set 3 (di (Pt P) 74)).set 12 (fl N0 (tr Pu)))++[aF,bp,sq (sL ["subject","at","place"] 674),aF,g0 "rpos_end" 57,co "rpos_end" 671 226 3 3 (xa 321) 677,g1 "rpos_end" 57 m3 326,aF,bp,sq (sL ["subject","at","place"] 683),aF,g0 "tab_end" 58,co "tab_end" 680 228 3 3 (xa 328) 686,g1 "tab_end" 58 m3 333,aF,bp,sq (sL ["subject","at","place","goal"] 692),aF,g0 "rtab_end" 59,co "rtab_end" 689 230 3 3 (xa 335) 696,g1 "rtab_end" 59 m3 340,aF,bp,sq [(s "subject" 702)],aF,g0 "rem_end" 60,co "rem_end" 699 233 1 3 (xa 342) 703,g1 "rem_end" 60 m3 347,aF,bp,sq (sL ["subject","at","signs"] 709),aF,g0 "any_at" 61,co "any_at" 706 235 3 3 (xa 349) 712,g1 "any_at" 61 m3 354,aF,bp,sq (sL ["subject","at","signs"] 718),aF,g0 "notany_at" 62,co "notany_at" 715 237 3 3 (xa 356) 721,g1 "notany_at" 62 m3 361,aF,bp,sq (sL ["subject","at","signs","is_in"] 727),aF,g0 "run_end" 63,co "run_end" 724 239 4 3 (xa 363) 731,g1 "run_end" 63 m3 368,aF,bp,sq (sL ["subject","at","signs","end"] 737),aF,g0 "span_end" 64,co "span_end" 734 243 3 3 (xa 370) 741,g1 "span_end" 64 m3 375,aF,bp,sq (sL ["subject","at","signs","end"] 747),aF,g0 "break_end" 65,co "break_end" 744 246 3 3 (xa 377) 751,g1 "break_end" 65 m3 382,aF,bp,sq (sL ["subject","at"] 757),aF,g0 "arb_ends" 66,co "arb_ends" 754 249 2 3 (xa 384) 759,g1 "arb_ends" 66 m3 389,aF,bp,sq (sL ["subject","at","level"] 765),aF,g0 "bal_end" 67,co "bal_end" 762 251 2 3 (xa 391) 768,g1 "bal_end" 67 m3 396,aF,bp,sq (sL ["subject","at","found","end"] 774),aF,g0 "bal_ends" 68,co "bal_ends" 771 264 2 3 (xa 398) 778,g1 "bal_ends" 68 m3 403]
noncomputable def Py(P:Params):BT:=lF 12 (Px P)
noncomputable def Vm(P:Params):List DictEntry:=((Pt P).set 0 (E P "__name__" 165 (s "snobol.pattern_machine" 811)))++[E P "one_end" 790 (r 411),E P "plain_end" 799 (r 418),E P "ends_of" 810 (r 425),E P "MET" 814 (vi 0 813),E P "FAILED" 816 (vi 1 815),E P "OVER" 818 (vi 2 817),E P "Way" 865 (r 449)]
noncomputable def Pz:List (Nat×Nat×Nat):=Pu++[(270,0,410),(290,0,417),(292,0,424),(305,0,431)]
noncomputable abbrev m4:Value:=s "snobol.pattern_machine" 811
noncomputable def Vn(P:Params):List DictEntry:=[E P "__module__" 826 (s "snobol.pattern_machine" 811),E P "__firstlineno__" 830 (vi 305 829),E P "__init__" 843 (r 439),E P "copied" 851 (r 446),E P "__static_attributes__" 858 (r 447),E P "__dict__" 860 (r 450),E P "__weakref__" 862 (r 451),E P "__doc__" 863 N0]
noncomputable def PA(P:Params):List Obj:=(((Px P).set 3 (di (Vm P) 81)).set 12 (fl N0 (tr Pz)))++[aF,bp,sq (sL ["kind","subject","at","told"] 784),aF,g0 "one_end" 69,co "one_end" 781 270 4 3 (xa 405) 788,g1 "one_end" 69 m3 410,aF,bp,sq (sL ["node","subject","at"] 794),aF,g0 "plain_end" 70,co "plain_end" 791 290 3 3 (xa 412) 797,g1 "plain_end" 70 m3 417,aF,bp,sq (sL ["kind","subject","at","told","end"] 803),aF,g0 "ends_of" 71,co "ends_of" 800 292 4 3 (xa 419) 808,g1 "ends_of" 71 m3 424,aF,yY,di [E P "__module__" 826 (s "snobol.pattern_machine" 811),E P "__qualname__" 828 (s "Way" 827),E P "__firstlineno__" 830 (vi 305 829),E P "__init__" 843 (r 439),E P "copied" 851 (r 446),E P "__static_attributes__" 858 (r 447)] 6,aF,fl N0 [(j 307),(j 4),(r 438),(j 315),(j 4),(r 445)],co "Way" 821 305 0 0 [(r 429),bf,(j 181),(r 430),N0,N0,N0,N0] 824,⟨(VT "frame"),none,Data.plain,⟨[(some (r 431)),(some (r 3)),(some (r 428)),none,(some (s "snobol.pattern_machine" 811)),none,(some (r 0))]⟩⟩,aF,bp,sq (sL ["self","orders","pc","at","named","marks","calls"] 834),aF,f0 "__init__" "Way.__init__" (sc 76 0),cq "__init__" "Way.__init__" 831 307 7 3 (xa 433) 841,f1 "__init__" "Way.__init__" (sc 76 0) 3 m4 438,aF,bp,sq (sL ["self","pc"] 847),aF,f0 "copied" "Way.copied" (sc 76 1),cq "copied" "Way.copied" 844 315 2 3 (xa 440) 849,f1 "copied" "Way.copied" (sc 76 1) 3 m4 445,sq (sL ["at","calls","marks","named","orders","pc"] 852),di (Vn P) 4,⟨(VT "type"),none,(.cls ⟨(S "Way"),[(VT "object")],[(r 449),(VT "object")],448,(S "Way"),true,[],[],false,none,false⟩),⟨[none,none,(some (s "Way" 819)),(some (s "Way" 827)),(some (VB "object.__new__")),(some bt)]⟩⟩,fl (VT "getset_descriptor") [(s "__dict__" 859),(r 449),(VB "function.__dict__"),(VB "function.__dict__#set")],fl (VT "getset_descriptor") [(s "__weakref__" 861),(r 449),(VB "ExceptionGroup.__weakref__"),N0],fl (VT "super") [(r 449),(r 449),(r 449)],fl (VT "builtin_function_or_method") [(VB "object.__init_subclass__"),(r 449)]]
noncomputable def PB(P:Params):BT:=lF 12 (PA P)
noncomputable def Vo(P:Params):List DictEntry:=[E P "__name__" 165 (s "snobol.pattern_machine" 811),E P "__doc__" 166 N0,E P "__package__" 167 N0,E P "__loader__" 168 B1,E P "__spec__" 169 N0,E P "__annotations__" 170 (r 6),E P "__builtins__" 171 (r 4),E P "__file__" 173 (u 172),E P "__cached__" 174 N0,E P "ONE" 190 (s "one" 189),E P "WAYS" 192 (s "ways" 191),E P "SPLIT" 194 (s "split" 193),E P "JUMP" 196 (s "jump" 195),E P "MARK" 198 (s "mark" 197),E P "NAME" 200 (s "name" 199),E P "SET" 202 (s "set" 201),E P "GAIN" 204 (s "gain" 203),E P "PLACE" 206 (s "place" 205),E P "ASK" 208 (s "ask" 207),E P "FENCE" 210 (s "fence" 209),E P "FAIL" 212 (s "fail" 211),E P "ABORT" 214 (s "abort" 213),E P "SUCCEED" 216 (s "succeed" 215),E P "DONE" 218 (s "done" 217),E P "PUT" 220 (s "put" 219),E P "EMIT" 222 (s "emit" 221),E P "OPEN" 224 (s "open" 223),E P "SHUT" 226 (s "shut" 225),E P "MEET" 228 (s "meet" 227),E P "SINGLE" 240 (r 15),E P "ALONE" 245 (r 16),E P "row_of" 256 (r 23),E P "is_plain_text" 263 (r 30),E P "with_texts_joined" 272 (r 37),E P "PatternCode" 356 (r 94),E P "straightened" 366 (r 105),E P "compile_pattern" 374 (r 112),E P "SnobolError" 410 (r 132),E P "Failure" 430 (r 145),E P "Pattern" 459 (r 166),E P "Delayed" 488 (r 187),E P "NameRef" 521 (r 208),E P "is_fail" 528 (r 219),E P "fits" 536 (r 226),E P "whole_of_text" 547 (r 233),E P "text_of_whole" 556 (r 240),E P "to_whole" 564 (r 247),E P "to_text" 571 (r 254),E P "need_text" 579 (r 261),E P "COUNTED" 587 (r 262),E P "SIGNED" 592 (r 263),E P "WIDTH_OF_COUNT" 594 (vi 64 593),E P "plain_count" 604 (r 271),E P "plain_signs" 613 (r 278),E P "pattern_of" 621 (r 285),E P "is_delayed" 628 (r 292),E P "settled" 637 (r 299),E P "OPENING" 641 (s "(" 640),E P "CLOSING" 643 (s ")" 642),E P "chars_end" 653 (r 306),E P "len_end" 662 (r 313),E P "pos_end" 670 (r 320),E P "rpos_end" 679 (r 327),E P "tab_end" 688 (r 334),E P "rtab_end" 698 (r 341),E P "rem_end" 705 (r 348),E P "any_at" 714 (r 355),E P "notany_at" 723 (r 362),E P "run_end" 733 (r 369),E P "span_end" 743 (r 376),E P "break_end" 753 (r 383),E P "arb_ends" 761 (r 390),E P "bal_end" 770 (r 397),E P "bal_ends" 780 (r 404),E P "one_end" 790 (r 411),E P "plain_end" 799 (r 418),E P "ends_of" 810 (r 425),E P "MET" 814 (vi 0 813),E P "FAILED" 816 (vi 1 815),E P "OVER" 818 (vi 2 817),E P "Way" 865 (r 449),E P "Match" 980 (r 526)]
noncomputable def PC:List (Nat×Nat×Nat):=Pz++[(317,0,459)]
noncomputable def Vp(P:Params):List DictEntry:=[E P "__module__" 873 (s "snobol.pattern_machine" 811),E P "__qualname__" 875 (s "Match" 874),E P "__firstlineno__" 877 (vi 317 876),E P "__init__" 886 (r 467),E P "run" 897 (r 474),E P "way_back" 904 (r 481),E P "done" 914 (r 488),E P "met_once" 926 (r 495),E P "ended" 938 (r 502),E P "other" 948 (r 509),E P "met_often" 959 (r 516),E P "asked" 969 (r 523),E P "__static_attributes__" 973 (r 524)]
noncomputable def Vq:List (Nat×Nat×Nat):=[(319,4,466),(324,4,473),(339,4,480),(342,4,487),(364,4,494),(378,4,501),(389,4,508),(407,4,515),(418,4,522)]
noncomputable def Vr(P:Params):List DictEntry:=[E P "__module__" 873 (s "snobol.pattern_machine" 811),E P "__firstlineno__" 877 (vi 317 876),E P "__init__" 886 (r 467),E P "run" 897 (r 474),E P "way_back" 904 (r 481),E P "done" 914 (r 488),E P "met_once" 926 (r 495),E P "ended" 938 (r 502),E P "other" 948 (r 509),E P "met_often" 959 (r 516),E P "asked" 969 (r 523),E P "__static_attributes__" 973 (r 524),E P "__dict__" 975 (r 527),E P "__weakref__" 977 (r 528),E P "__doc__" 978 N0]
noncomputable def PD(P:Params):List Obj:=(((PA P).set 3 (di (Vo P) 82)).set 12 (fl N0 (tr PC)))++[aF,yY,di (Vp P) 13,aF,fl N0 (tr Vq),co "Match" 868 317 0 0 [(r 457),bf,(j 181),(r 458),N0,N0,N0,N0] 871,⟨(VT "frame"),none,Data.plain,⟨[(some (r 459)),(some (r 3)),(some (r 456)),none,(some (s "snobol.pattern_machine" 811)),none,(some (r 0))]⟩⟩,aF,bp,sq (sL ["self","subject","host"] 881),aF,f0 "__init__" "Match.__init__" (sc 77 0),cq "__init__" "Match.__init__" 878 319 3 3 (xa 461) 884,f1 "__init__" "Match.__init__" (sc 77 0) 3 m4 466,aF,bp,sq (sL ["self","orders","begin","way","order"] 890),aF,f0 "run" "Match.run" (sc 77 1),cq "run" "Match.run" 887 324 3 3 (xa 468) 895,f1 "run" "Match.run" (sc 77 1) 3 m4 473,aF,bp,sq [(s "self" 901)],aF,f0 "way_back" "Match.way_back" (sc 77 2),cq "way_back" "Match.way_back" 898 339 1 3 (xa 475) 902,f1 "way_back" "Match.way_back" (sc 77 2) 3 m4 480,aF,bp,sq (sL ["self","order","way","word"] 908),aF,f0 "done" "Match.done" (sc 77 3),cq "done" "Match.done" 905 342 3 3 (xa 482) 912,f1 "done" "Match.done" (sc 77 3) 3 m4 487,aF,bp,sq (sL ["self","order","way","told","node","end"] 918),aF,f0 "met_once" "Match.met_once" (sc 77 4),cq "met_once" "Match.met_once" 915 364 3 3 (xa 489) 924,f1 "met_once" "Match.met_once" (sc 77 4) 3 m4 494,aF,bp,sq (sL ["self","order","way","marks","begin","text"] 930),aF,f0 "ended" "Match.ended" (sc 77 5),cq "ended" "Match.ended" 927 378 3 3 (xa 496) 936,f1 "ended" "Match.ended" (sc 77 5) 3 m4 501,aF,bp,sq (sL ["self","order","way","word"] 942),aF,f0 "other" "Match.other" (sc 77 6),cq "other" "Match.other" 939 389 3 3 (xa 503) 946,f1 "other" "Match.other" (sc 77 6) 3 m4 508,aF,bp,sq (sL ["self","way","ends","end","other"] 952),aF,f0 "met_often" "Match.met_often" (sc 77 7),cq "met_often" "Match.met_often" 949 407 3 3 (xa 510) 957,f1 "met_often" "Match.met_often" (sc 77 7) 3 m4 515,aF,bp,sq (sL ["self","tree","way","value"] 963),aF,f0 "asked" "Match.asked" (sc 77 8),cq "asked" "Match.asked" 960 418 3 3 (xa 517) 967,f1 "asked" "Match.asked" (sc 77 8) 3 m4 522,sq (sL ["history","host","subject"] 970),di (Vr P) 4,⟨(VT "type"),none,(.cls ⟨(S "Match"),[(VT "object")],[(r 526),(VT "object")],525,(S "Match"),true,[],[],false,none,false⟩),⟨[none,none,(some (s "Match" 866)),(some (s "Match" 874)),(some (VB "object.__new__")),(some bt)]⟩⟩,fl (VT "getset_descriptor") [(s "__dict__" 974),(r 526),(VB "function.__dict__"),(VB "function.__dict__#set")],fl (VT "getset_descriptor") [(s "__weakref__" 976),(r 526),(VB "ExceptionGroup.__weakref__"),N0],fl (VT "super") [(r 526),(r 526),(r 526)],fl (VT "builtin_function_or_method") [(VB "object.__init_subclass__"),(r 526)]]
noncomputable def PE(P:Params):BT:=lF 12 (PD P)
noncomputable def PF(P:Params):List DictEntry:=[E P "__name__" 165 (s "snobol.hosts" 1013),E P "__doc__" 166 N0,E P "__package__" 167 N0,E P "__loader__" 168 B1,E P "__spec__" 169 N0,E P "__annotations__" 170 (r 6),E P "__builtins__" 171 (r 4),E P "__file__" 173 (u 172),E P "__cached__" 174 N0,E P "ONE" 190 (s "one" 189),E P "WAYS" 192 (s "ways" 191),E P "SPLIT" 194 (s "split" 193),E P "JUMP" 196 (s "jump" 195),E P "MARK" 198 (s "mark" 197),E P "NAME" 200 (s "name" 199),E P "SET" 202 (s "set" 201),E P "GAIN" 204 (s "gain" 203),E P "PLACE" 206 (s "place" 205),E P "ASK" 208 (s "ask" 207),E P "FENCE" 210 (s "fence" 209),E P "FAIL" 212 (s "fail" 211),E P "ABORT" 214 (s "abort" 213),E P "SUCCEED" 216 (s "succeed" 215),E P "DONE" 218 (s "done" 217),E P "PUT" 220 (s "put" 219),E P "EMIT" 222 (s "emit" 221),E P "OPEN" 224 (s "open" 223),E P "SHUT" 226 (s "shut" 225),E P "MEET" 228 (s "meet" 227),E P "SINGLE" 240 (r 15),E P "ALONE" 245 (r 16),E P "row_of" 256 (r 23),E P "is_plain_text" 263 (r 30),E P "with_texts_joined" 272 (r 37),E P "PatternCode" 356 (r 94),E P "straightened" 366 (r 105),E P "compile_pattern" 374 (r 112),E P "SnobolError" 410 (r 132),E P "Failure" 430 (r 145),E P "Pattern" 459 (r 166),E P "Delayed" 488 (r 187),E P "NameRef" 521 (r 208),E P "is_fail" 528 (r 219),E P "fits" 536 (r 226),E P "whole_of_text" 547 (r 233),E P "text_of_whole" 556 (r 240),E P "to_whole" 564 (r 247),E P "to_text" 571 (r 254),E P "need_text" 579 (r 261),E P "COUNTED" 587 (r 262),E P "SIGNED" 592 (r 263),E P "WIDTH_OF_COUNT" 594 (vi 64 593),E P "plain_count" 604 (r 271),E P "plain_signs" 613 (r 278),E P "pattern_of" 621 (r 285),E P "is_delayed" 628 (r 292),E P "settled" 637 (r 299),E P "OPENING" 641 (s "(" 640),E P "CLOSING" 643 (s ")" 642),E P "chars_end" 653 (r 306),E P "len_end" 662 (r 313),E P "pos_end" 670 (r 320),E P "rpos_end" 679 (r 327),E P "tab_end" 688 (r 334),E P "rtab_end" 698 (r 341),E P "rem_end" 705 (r 348),E P "any_at" 714 (r 355),E P "notany_at" 723 (r 362),E P "run_end" 733 (r 369),E P "span_end" 743 (r 376),E P "break_end" 753 (r 383),E P "arb_ends" 761 (r 390),E P "bal_end" 770 (r 397),E P "bal_ends" 780 (r 404),E P "one_end" 790 (r 411),E P "plain_end" 799 (r 418),E P "ends_of" 810 (r 425),E P "MET" 814 (vi 0 813),E P "FAILED" 816 (vi 1 815),E P "OVER" 818 (vi 2 817),E P "Way" 865 (r 449),E P "Match" 980 (r 526),E P "named_rows" 989 (r 537),E P "match_orders" 1002 (r 544),E P "match_compiled" 1012 (r 551)]
noncomputable def PG:List (Nat×Nat×Nat):=PC++[(425,0,536),(432,0,543),(440,0,550)]
noncomputable def PH(P:Params):List Obj:=(((PD P).set 3 (di (PF P) 85)).set 12 (fl N0 (tr PG)))++[aF,bp,sq (sL ["named","found","last"] 984),aF,g0 "named_rows" 78,co "named_rows" 981 425 1 3 (xa 531) 987,g1 "named_rows" 78 m4 536,aF,bp,sq (sL ["orders","subject","is_anchored","host","begin","how","way"] 993),aF,g0 "match_orders" 79,co "match_orders" 990 432 4 3 (xa 538) 1000,g1 "match_orders" 79 m4 543,aF,bp,sq (sL ["node","subject","is_anchored","host"] 1006),aF,g0 "match_compiled" 80,co "match_compiled" 1003 440 4 3 (xa 545) 1010,g1 "match_compiled" 80 m4 550]
noncomputable def PI(P:Params):BT:=lF 12 (PH P)
noncomputable def Vs(P:Params):List DictEntry:=((PF P).set 0 (E P "__name__" 165 (s "snobol.trial" 1075)))++[E P "PlainHost" 1074 (r 589),E P "LOST" 1078 (s "lost" 1077),E P "match_plain" 1090 (r 600)]
noncomputable def PJ:List (Nat×Nat×Nat):=PG++[(443,0,557),(471,0,599)]
noncomputable def Vt(P:Params):List DictEntry:=[E P "__module__" 1022 (s "snobol.hosts" 1013),E P "__qualname__" 1024 (s "PlainHost" 1023),E P "__firstlineno__" 1026 (vi 443 1025),E P "__init__" 1036 (r 565),E P "value_of" 1044 (r 572),E P "assign" 1053 (r 579),E P "step" 1060 (r 586),E P "__static_attributes__" 1067 (r 587)]
noncomputable def Vu:List (Nat×Nat×Nat):=[(445,4,564),(453,4,571),(458,4,578),(465,4,585)]
noncomputable abbrev m5:Value:=s "snobol.hosts" 1013
noncomputable def Vv(P:Params):List DictEntry:=[E P "__module__" 1022 (s "snobol.hosts" 1013),E P "__firstlineno__" 1026 (vi 443 1025),E P "__init__" 1036 (r 565),E P "value_of" 1044 (r 572),E P "assign" 1053 (r 579),E P "step" 1060 (r 586),E P "__static_attributes__" 1067 (r 587),E P "__dict__" 1069 (r 590),E P "__weakref__" 1071 (r 591),E P "__doc__" 1072 N0]
noncomputable abbrev m6:Value:=s "snobol.trial" 1075
noncomputable def PK(P:Params):List Obj:=(((PH P).set 3 (di (Vs P) 88)).set 12 (fl N0 (tr PJ)))++[aF,yY,di (Vt P) 8,aF,fl N0 (tr Vu),co "PlainHost" 1017 443 0 0 [(r 555),bf,(j 181),(r 556),N0,N0,N0,N0] 1020,⟨(VT "frame"),none,Data.plain,⟨[(some (r 557)),(some (r 3)),(some (r 554)),none,(some (s "snobol.hosts" 1013)),none,(some (r 0))]⟩⟩,aF,bp,sq (sL ["self","values","limit","refused"] 1030),aF,f0 "__init__" "PlainHost.__init__" (sc 82 0),cq "__init__" "PlainHost.__init__" 1027 445 4 3 (xa 559) 1034,f1 "__init__" "PlainHost.__init__" (sc 82 0) 3 m5 564,aF,bp,sq (sL ["self","tree"] 1040),aF,f0 "value_of" "PlainHost.value_of" (sc 82 1),cq "value_of" "PlainHost.value_of" 1037 453 2 3 (xa 566) 1042,f1 "value_of" "PlainHost.value_of" (sc 82 1) 3 m5 571,aF,bp,sq (sL ["self","ref","value"] 1048),aF,f0 "assign" "PlainHost.assign" (sc 82 2),cq "assign" "PlainHost.assign" 1045 458 3 3 (xa 573) 1051,f1 "assign" "PlainHost.assign" (sc 82 2) 3 m5 578,aF,bp,sq [(s "self" 1057)],aF,f0 "step" "PlainHost.step" (sc 82 3),cq "step" "PlainHost.step" 1054 465 1 3 (xa 580) 1058,f1 "step" "PlainHost.step" (sc 82 3) 3 m5 585,sq (sL ["limit","log","refused","steps","values","width"] 1061),di (Vv P) 4,⟨(VT "type"),none,(.cls ⟨(S "PlainHost"),[(VT "object")],[(r 589),(VT "object")],588,(S "PlainHost"),true,[],[],false,none,false⟩),⟨[none,none,(some (s "PlainHost" 1015)),(some (s "PlainHost" 1023)),(some (VB "object.__new__")),(some bt)]⟩⟩,fl (VT "getset_descriptor") [(s "__dict__" 1068),(r 589),(VB "function.__dict__"),(VB "function.__dict__#set")],fl (VT "getset_descriptor") [(s "__weakref__" 1070),(r 589),(VB "ExceptionGroup.__weakref__"),N0],fl (VT "super") [(r 589),(r 589),(r 589)],fl (VT "builtin_function_or_method") [(VB "object.__init_subclass__"),(r 589)],aF,bp,sq (sL ["node","subject","is_anchored","host","begin","found"] 1082),aF,g0 "match_plain" 85,co "match_plain" 1079 471 4 3 (xa 594) 1088,g1 "match_plain" 85 m6 599]
noncomputable def PL(P:Params):BT:=lF 12 (PK P)
noncomputable def PM(P:Params):List DictEntry:=[E P "__name__" 165 (s "law_sa0605_05" 1190),E P "__doc__" 166 N0,E P "__package__" 167 N0,E P "__loader__" 168 B1,E P "__spec__" 169 N0,E P "__annotations__" 170 (r 6),E P "__builtins__" 171 (r 4),E P "__file__" 173 (u 172),E P "__cached__" 174 N0,E P "ONE" 190 (s "one" 189),E P "WAYS" 192 (s "ways" 191),E P "SPLIT" 194 (s "split" 193),E P "JUMP" 196 (s "jump" 195),E P "MARK" 198 (s "mark" 197),E P "NAME" 200 (s "name" 199),E P "SET" 202 (s "set" 201),E P "GAIN" 204 (s "gain" 203),E P "PLACE" 206 (s "place" 205),E P "ASK" 208 (s "ask" 207),E P "FENCE" 210 (s "fence" 209),E P "FAIL" 212 (s "fail" 211),E P "ABORT" 214 (s "abort" 213),E P "SUCCEED" 216 (s "succeed" 215),E P "DONE" 218 (s "done" 217),E P "PUT" 220 (s "put" 219),E P "EMIT" 222 (s "emit" 221),E P "OPEN" 224 (s "open" 223),E P "SHUT" 226 (s "shut" 225),E P "MEET" 228 (s "meet" 227),E P "SINGLE" 240 (r 15),E P "ALONE" 245 (r 16),E P "row_of" 256 (r 23),E P "is_plain_text" 263 (r 30),E P "with_texts_joined" 272 (r 37),E P "PatternCode" 356 (r 94),E P "straightened" 366 (r 105),E P "compile_pattern" 374 (r 112),E P "SnobolError" 410 (r 132),E P "Failure" 430 (r 145),E P "Pattern" 459 (r 166),E P "Delayed" 488 (r 187),E P "NameRef" 521 (r 208),E P "is_fail" 528 (r 219),E P "fits" 536 (r 226),E P "whole_of_text" 547 (r 233),E P "text_of_whole" 556 (r 240),E P "to_whole" 564 (r 247),E P "to_text" 571 (r 254),E P "need_text" 579 (r 261),E P "COUNTED" 587 (r 262),E P "SIGNED" 592 (r 263),E P "WIDTH_OF_COUNT" 594 (vi 64 593),E P "plain_count" 604 (r 271),E P "plain_signs" 613 (r 278),E P "pattern_of" 621 (r 285),E P "is_delayed" 628 (r 292),E P "settled" 637 (r 299),E P "OPENING" 641 (s "(" 640),E P "CLOSING" 643 (s ")" 642),E P "chars_end" 653 (r 306),E P "len_end" 662 (r 313),E P "pos_end" 670 (r 320),E P "rpos_end" 679 (r 327),E P "tab_end" 688 (r 334),E P "rtab_end" 698 (r 341),E P "rem_end" 705 (r 348),E P "any_at" 714 (r 355),E P "notany_at" 723 (r 362),E P "run_end" 733 (r 369),E P "span_end" 743 (r 376),E P "break_end" 753 (r 383),E P "arb_ends" 761 (r 390),E P "bal_end" 770 (r 397),E P "bal_ends" 780 (r 404),E P "one_end" 790 (r 411),E P "plain_end" 799 (r 418),E P "ends_of" 810 (r 425),E P "MET" 814 (vi 0 813),E P "FAILED" 816 (vi 1 815),E P "OVER" 818 (vi 2 817),E P "Way" 865 (r 449),E P "Match" 980 (r 526),E P "named_rows" 989 (r 537),E P "match_orders" 1002 (r 544),E P "match_compiled" 1012 (r 551),E P "PlainHost" 1074 (r 589),E P "LOST" 1078 (s "lost" 1077),E P "match_plain" 1090 (r 600),E P "match_at" 1101 (r 607),E P "tried" 1116 (r 614),E P "advanced" 1132 (r 621),E P "led_in" 1144 (r 628),E P "led_out" 1160 (r 635),E P "steered" 1172 (r 642),E P "taken" 1189 (r 649),E P "_law_next" 1201 (r 656),E P "_law_leaf" 1209 (r 663),E P "_law_node" 1218 (r 670),E P "_law_has_rounds" 1225 (r 677)]
noncomputable def PN:List (Nat×Nat×Nat):=PJ++[(477,0,606),(480,0,613),(498,0,620),(513,0,627),(524,0,634),(531,0,641),(539,0,648),(556,0,655),(562,0,662),(573,0,669),(582,0,676)]
noncomputable abbrev m7:Value:=s "law_sa0605_05" 1190
noncomputable def PO(P:Params):List Obj:=(((PK P).set 3 (di (PM P) 99)).set 12 (fl N0 (tr PN)))++[aF,bp,sq (sL ["node","subject","begin","host","found"] 1094),aF,g0 "match_at" 86,co "match_at" 1091 477 4 3 (xa 601) 1099,g1 "match_at" 86 m6 606,aF,bp,sq (sL ["node","subject","begin","host","pile","way","chain","at","named"] 1105),aF,g0 "tried" 87,co "tried" 1102 480 4 3 (xa 608) 1114,g1 "tried" 87 m6 613,aF,bp,sq (sL ["chain","at","named","subject","pile","host","here","rest","kind","value"] 1120),aF,g0 "advanced" 88,co "advanced" 1117 498 6 3 (xa 615) 1130,g1 "advanced" 88 m6 620,aF,bp,sq (sL ["here","rest","at","named","pile","kind"] 1136),aF,g0 "led_in" 89,co "led_in" 1133 513 5 3 (xa 622) 1142,g1 "led_in" 89 m6 627,aF,bp,sq (sL ["here","rest","at","named","subject","pile","host","kind","told","begin"] 1148),aF,g0 "led_out" 90,co "led_out" 1145 524 7 3 (xa 629) 1158,g1 "led_out" 90 m6 634,aF,bp,sq (sL ["chain","at","named","pile","kind","rest"] 1164),aF,g0 "steered" 91,co "steered" 1161 531 4 3 (xa 636) 1170,g1 "steered" 91 m6 641,aF,bp,sq (sL ["here","rest","at","named","subject","pile","host","kind","ends","end","plain"] 1176),aF,g0 "taken" 92,co "taken" 1173 539 7 3 (xa 643) 1187,g1 "taken" 92 m6 648,aF,bp,sq (sL ["feed","many","cells","turn"] 1195),aF,g0 "_law_next" 94,co "_law_next" 1192 556 2 3 (xa 650) 1199,g1 "_law_next" 94 m7 655,aF,bp,sq (sL ["feed","kind"] 1205),aF,g0 "_law_leaf" 95,co "_law_leaf" 1202 562 1 3 (xa 657) 1207,g1 "_law_leaf" 95 m7 662,aF,bp,sq (sL ["feed","deep","form"] 1213),aF,g0 "_law_node" 96,co "_law_node" 1210 573 2 3 (xa 664) 1216,g1 "_law_node" 96 m7 669,aF,bp,sq [(s "node" 1222)],aF,g0 "_law_has_rounds" 97,co "_law_has_rounds" 1219 582 1 3 (xa 671) 1223,g1 "_law_has_rounds" 97 m7 676]
noncomputable def PP(P:Params):BT:=lF 12 (PO P)
noncomputable def Vw(P:Params):List DictEntry:=(PM P)++[E P "_law_text" 1231 (r 682),E P "_law_made" 1241 (r 689),E P "_law_found" 1247 (r 694),E P "_law_back" 1253 (r 699),E P "law" 1259 (r 704)]
noncomputable def Vx:List (Nat×Nat×Nat):=PN++[(586,0,681),(588,0,688),(601,0,693),(608,0,698),(610,0,703)]
noncomputable def LJ(P:Params):List Obj:=(((PO P).set 3 (di (Vw P) 104)).set 12 (fl N0 (tr Vx)))++[aF,bp,g0 "_law_text" 98,co "_law_text" 1226 586 2 3 [(r 678),bt,(j 181),(r 679),N0,N0,N0,(r 680)] 1229,g1 "_law_text" 98 m7 681,aF,bp,sq (sL ["node","signs","names","kind"] 1235),aF,g0 "_law_made" 99,co "_law_made" 1232 588 3 3 (xa 683) 1239,g1 "_law_made" 99 m7 688,aF,bp,g0 "_law_found" 100,co "_law_found" 1242 601 6 3 [(r 690),bt,(j 181),(r 691),N0,N0,N0,(r 692)] 1245,g1 "_law_found" 100 m7 693,aF,bp,g0 "_law_back" 101,co "_law_back" 1248 608 3 3 [(r 695),bt,(j 181),(r 696),N0,N0,N0,(r 697)] 1251,g1 "_law_back" 101 m7 698,aF,bp,g0 "law" 102,co "law" 1254 610 1 3 [(r 700),bt,(j 181),(r 701),N0,N0,N0,(r 702)] 1257,g1 "law" 102 m7 703]
noncomputable def PQ(P:Params):BT:=lF 12 (LJ P)
noncomputable def Vy(P:Params):Heap:=⟨⟨SY P⟩,{}⟩
noncomputable def B2(P:Params):Heap:=⟨⟨LJ P⟩,{}⟩
noncomputable def LM:List Stmt:=((behindTheImports PW).drop 0).take 26
noncomputable def LN:List Stmt:=((behindTheImports PW).drop 26).take 1
noncomputable def FN:List Stmt:=((behindTheImports PW).drop 27).take 4
noncomputable def FO:List Stmt:=((behindTheImports PW).drop 31).take 1
noncomputable def FP:List Stmt:=((behindTheImports PW).drop 32).take 1
noncomputable def FQ:List Stmt:=((behindTheImports PW).drop 33).take 1
noncomputable def FS:List Stmt:=((behindTheImports PW).drop 34).take 6
noncomputable def FT:List Stmt:=((behindTheImports PW).drop 40).take 17
noncomputable def FU:List Stmt:=((behindTheImports PW).drop 57).take 12
noncomputable def FV:List Stmt:=((behindTheImports PW).drop 69).take 8
noncomputable def FW:List Stmt:=((behindTheImports PW).drop 77).take 1
noncomputable def FX:List Stmt:=((behindTheImports PW).drop 78).take 4
noncomputable def FY:List Stmt:=((behindTheImports PW).drop 82).take 4
noncomputable def FZ:List Stmt:=((behindTheImports PW).drop 86).take 12
noncomputable def F0:List Stmt:=((behindTheImports PW).drop 98).take 5
noncomputable def env:Env:=⟨PW.main.scope,mainNs,mainNs,[],Str.empty,none,(r 13),(some 14),0⟩
noncomputable def Vz(l:List Stmt):List Nat->List Stmt|[]=>[]|k::r=>l.getD k default::Vz l r
noncomputable def view:Program:={ PW with main:={ PW.main with body:=Vz PW.main.body [1,2,3,4,5,6,7,8,9,10,11,12,13,14,15,16,17,18,19,20,21,22,23,24,25,26,27,28,30,31,32,33,34,35,36,37,38,39,40,41,43,44,45,47,48,49,50,52,53,54,55,56,57,58,59,60,61,62,63,64,65,66,67,68,69,70,71,73,74,75,76,77,78,79,80,82,84,85,86,87,88,89,90,91,92,94,95,96,97,98,99,100,101,102] } }
noncomputable def c0:Code:=.body (behindTheImports PW) env
noncomputable def KA:List Nat:=[2,3,15,16,17,19,20,22,23,24,26,27,29,30,31,33,34,36,37,45,47,48,50,51,52,54,55,57,58,59,61,62,64,65,66,69,70,71,73,74,76,77,78,80,81,83,84,85,87,88,90,91,92,93,94,95,96,99,101,102,104,105,106,108,109,111,112,113,116,121,122,123,125,126,128,129,130,131,132,133,143,144,145,146,147,157,159,160,162,163,164,165,166,167,168,178,180,181,183,184,185,186,187,188,189,199,201,202,204,205,206,207,208,209,210,213,215,216,218,219,220,222,223,225,226,227,229,230,232,233,234,236,237,239,240,241,243,244,246,247,248,250,251,253,254,255,257,258,260,261,262,263,264,265,267,268,270,271,272,274,275,277,278,279,281,282,284,285,286,288,289,291,292,293,295,296,298,299,300,302,303,305,306,307,309,310,312,313,314,316,317,319,320,321,323,324,326,327,328,330,331,333,334,335,337,338,340,341,342,344,345,347,348,349,351,352,354,355,356,358,359,361,362,363,365,366,368,369,370,372,373,375,376,377,379,380,382,383,384,386,387,389,390,391,393,394,396,397,398,400,401,403,404,405,407,408,410,411,412,414,415,417,418,419,421,422,424,425,433,435,436,438,439,440,442,443,445,446,447,448,449,450,451,461,463,464,466,467,468,470,471,473,474,475,477,478,480,481,482,484,485,487,488,489,491,492,494,495,496,498,499,501,502,503,505,506,508,509,510,512,513,515,516,517,519,520,522,523,524,525,526,527,528,531,533,534,536,537,538,540,541,543,544,545,547,548,550,551,559,561,562,564,565,566,568,569,571,572,573,575,576,578,579,580,582,583,585,586,587,588,589,590,591,594,596,597,599,600,601,603,604,606,607,608,610,611,613,614,615,617,618,620,621,622,624,625,627,628,629,631,632,634,635,636,638,639,641,642,643,645,646,648,649,650,652,653,655,656,657,659,660,662,663,664,666,667,669,670,671,673,674,676,677,678,681,682,683,685,686,688,689,690,693,694,695,698,699,700,703,704]
noncomputable def KF(P:Params):Frag:=KA.map λa=>(a,((LJ P)[a]?).getD aF)
theorem Xy:∀ P,KA=(KF P).map (·.1):=λ_=>by kernel_rfl
noncomputable abbrev H:Hook:=kHook KF KA Xy
noncomputable abbrev q0:Pos:=⟨0,0,0,0⟩
noncomputable abbrev B0:List Frame:=[topFrame q0]
noncomputable abbrev an:Option Value:=some (.ref 6)
noncomputable def T(t:Params->BT)(n k:Nat)(w:World)(os:OsState):SharedT:=⟨t w.params,n,{},⟨[]⟩,{},k,os⟩
noncomputable def F1(w:World)(os:OsState):Shared:=⟨B2 w.params,⟨[]⟩,{},1260,os⟩
noncomputable def loose:List Str:=[S "SnobolError",S "plain_count"]
noncomputable def Xt(s:Shared):Bool:=xlAt view [] s&&recOk PySem.Challenge.rw_sa0605_05.row.records s
theorem cY{p w m0 ann one n s th r}(h:Fast.tw10110043849684766642 Fast.tw14364793385576792824 p w m0 ann one n s th=r):segRunT treeTable p w m0 ann one n s th=r:=by
 rw[Fast.te10110043849684766642,Fast.te14364793385576792824];exact h
theorem p0(w:World)(os:OsState):segRunT treeTable PW w 11 an 1 318 (T Va 15 187 w os) (piecesOf LM env c0 ⟨0,0,0,0⟩ B0)=some (.next,T Ve 38 273 w os,c0,⟨35,0,44,16⟩):=cY (by kernel_rfl)
theorem p1(w:World)(os:OsState):segRunT treeTable PW w 11 an 1 420 (T Ve 38 273 w os) (piecesOf LN env c0 ⟨35,0,44,16⟩ B0)=some (.next,T O5 99 357 w os,c0,⟨45,0,105,58⟩):=cY (by kernel_rfl)
theorem p2(w:World)(os:OsState):segRunT treeTable PW w 11 an 1 320 (T O5 99 357 w os) (piecesOf FN env c0 ⟨45,0,105,58⟩ B0)=some (.next,T O7 136 411 w os,c0,⟨122,0,127,24⟩):=cY (by kernel_rfl)
theorem p3(w:World)(os:OsState):segRunT treeTable PW w 11 an 1 191 (T O7 136 411 w os) (piecesOf FO env c0 ⟨122,0,127,24⟩ B0)=some (.next,T Pb 150 431 w os,c0,⟨128,0,129,8⟩):=cY (by kernel_rfl)
theorem p4(w:World)(os:OsState):segRunT treeTable PW w 11 an 1 223 (T Pb 150 431 w os) (piecesOf FP env c0 ⟨128,0,129,8⟩ B0)=some (.next,T Pe 171 460 w os,c0,⟨130,0,133,24⟩):=cY (by kernel_rfl)
theorem p5(w:World)(os:OsState):segRunT treeTable PW w 11 an 1 223 (T Pe 171 460 w os) (piecesOf FQ env c0 ⟨130,0,133,24⟩ B0)=some (.next,T Pj 192 489 w os,c0,⟨134,0,137,24⟩):=cY (by kernel_rfl)
theorem p6(w:World)(os:OsState):segRunT treeTable PW w 11 an 1 380 (T Pj 192 489 w os) (piecesOf FS env c0 ⟨134,0,137,24⟩ B0)=some (.next,T Pm 248 565 w os,c0,⟨167,0,170,74⟩):=cY (by kernel_rfl)
theorem p7(w:World)(os:OsState):segRunT treeTable PW w 11 an 1 383 (T Pm 248 565 w os) (piecesOf FT env c0 ⟨167,0,170,74⟩ B0)=some (.next,T Ps 321 671 w os,c0,⟨224,0,225,38⟩):=cY (by kernel_rfl)
theorem p8(w:World)(os:OsState):segRunT treeTable PW w 11 an 1 375 (T Ps 321 671 w os) (piecesOf FU env c0 ⟨224,0,225,38⟩ B0)=some (.next,T Py 405 781 w os,c0,⟨264,0,269,16⟩):=cY (by kernel_rfl)
theorem p9(w:World)(os:OsState):segRunT treeTable PW w 11 an 1 397 (T Py 405 781 w os) (piecesOf FV env c0 ⟨264,0,269,16⟩ B0)=some (.next,T PB 454 866 w os,c0,⟨305,0,316,80⟩):=cY (by kernel_rfl)
theorem MN(w:World)(os:OsState):segRunT treeTable PW w 11 an 1 501 (T PB 454 866 w os) (piecesOf FW env c0 ⟨305,0,316,80⟩ B0)=some (.next,T PE 531 981 w os,c0,⟨317,0,424,19⟩):=cY (by kernel_rfl)
theorem MO(w:World)(os:OsState):segRunT treeTable PW w 11 an 1 108 (T PE 531 981 w os) (piecesOf FX env c0 ⟨317,0,424,19⟩ B0)=some (.next,T PI 552 1015 w os,c0,⟨442,0,442,8⟩):=cY (by kernel_rfl)
theorem MP(w:World)(os:OsState):segRunT treeTable PW w 11 an 1 378 (T PI 552 1015 w os) (piecesOf FY env c0 ⟨442,0,442,8⟩ B0)=some (.next,T PL 601 1091 w os,c0,⟨471,0,476,15⟩):=cY (by kernel_rfl)
theorem MQ(w:World)(os:OsState):segRunT treeTable PW w 11 an 1 385 (T PL 601 1091 w os) (piecesOf FZ env c0 ⟨471,0,476,15⟩ B0)=some (.next,T PP 678 1226 w os,c0,⟨582,0,585,91⟩):=cY (by kernel_rfl)
theorem MR(w:World)(os:OsState):segRunT treeTable PW w 11 an 1 137 (T PP 678 1226 w os) (piecesOf F0 env c0 ⟨582,0,585,91⟩ B0)=some (.next,T PQ 705 1260 w os,c0,⟨610,0,625,15⟩):=cY (by kernel_rfl)
theorem pre(w:World)(os:OsState):topGo treeTable PW w 11 an 12 ⟨boot_heap w.params,⟨[]⟩,boot_drawn,boot_toks,os⟩ (topStub PW)=some (⟨Vy w.params,⟨[]⟩,{},187,os⟩,⟨denote treeTable (.body (behindTheImports PW) env),c0,q0,B0⟩):=by
 rw[Fast.te15667345088766844465,Fast.te14364793385576792824,Fast.te11892475500146522536];kernel_rfl
theorem Xz(w:World)(os:OsState):segRun treeTable PW w 11 an 1 1 ⟨Vy w.params,⟨[]⟩,{},187,os⟩ (blockOf (behindTheImports PW) env c0 q0 B0)=some (.next,(T Va 15 187 w os).abs,c0,⟨0,0,0,0⟩):=by
 rw[Fast.te14374325043358763698,Fast.te14364793385576792824];kernel_rfl
theorem fin(w:World)(os:OsState):topRun treeTable PW w 11 an 2 (T PQ 705 1260 w os).abs ⟨doneF .next,c0,⟨610,0,625,15⟩,B0⟩=some (F1 w os):=by
 rw[Fast.te14082659384304107361,Fast.te14364793385576792824];kernel_rfl
theorem XA:behindTheImports PW=LM++(LN++(FN++(FO++(FP++(FQ++(FS++(FT++(FU++(FV++(FW++(FX++(FY++(FZ++(F0++([]))))))))))))))):=by kernel_rfl
theorem run(w:World)(os:OsState):topRun treeTable PW w 11 an (12+(1+(318+(420+(320+(191+(223+(223+(380+(383+(375+(397+(501+(108+(378+(385+(137+(2)))))))))))))))))) ⟨boot_heap w.params,⟨[]⟩,boot_drawn,boot_toks,os⟩ (topStub PW)=some (F1 w os):=
 go_top (pre w os) (piece_block (Xz w os) (by rw[XA];exact piece_app (segRun_of (p0 w os)) (piece_app (segRun_of (p1 w os)) (piece_app (segRun_of (p2 w os)) (piece_app (segRun_of (p3 w os)) (piece_app (segRun_of (p4 w os)) (piece_app (segRun_of (p5 w os)) (piece_app (segRun_of (p6 w os)) (piece_app (segRun_of (p7 w os)) (piece_app (segRun_of (p8 w os)) (piece_app (segRun_of (p9 w os)) (piece_app (segRun_of (MN w os)) (piece_app (segRun_of (MO w os)) (piece_app (segRun_of (MP w os)) (piece_app (segRun_of (MQ w os)) (piece_app (segRun_of (MR w os)) (fin w os)))))))))))))))))
theorem e1:opening PW=plainProg PW.main.scope.names:=by kernel_rfl
theorem e2(s:Shared):fenceModules? PW s=some s:=by kernel_rfl
theorem size(w:World):((boot_heap w.params).isNs mainGlobals&&(⟨[]⟩:Array GenState).size==0,(boot_heap w.params).objs.size,(boot_heap w.params).nsMap mainGlobals (S "__annotations__"))=(true,11,an):=by kernel_rfl
theorem l1(w:World)(os:OsState):(staticsOk (importedModules PW.main.body) (boot_heap w.params) (B2 w.params)&&namesBound PW (B2 w.params)&&gensDone (F1 w os)&&laidKept (boot_heap w.params) (B2 w.params))=true:=by kernel_rfl
theorem l2(w:World)(os:OsState):seen ((recsOf view).map (·.name)) (ownsOf view) [] { F1 w os with gens:=#[] }=expectedOf view:=by rw[Fast.te5160383126252970620];kernel_rfl
theorem l3(w:World)(os:OsState):(F1 w os).heap.bltView=bltViewBooted:=by kernel_rfl
theorem l4(w:World)(os:OsState):((F1 w os).heap.keysOk (looseW view loose) ((recsOf view).map (·.name)) ((litsOf view).map (·.1)) ((clssOf view (looseW view loose)).map (·.name))&&(F1 w os).heap.accountedOkI (importedModules PW.main.body)&&(F1 w os).heap.isNs mainGlobals&&(F1 w os).heap.isNs builtinsNs&&tablesOk view (F1 w os).heap&&Xt (F1 w os)&&(if true then(F1 w os).gens.size==0 else !leftWithCleanup (F1 w os).gens))=true:=by kernel_rfl
theorem l5(w:World)(os:OsState):tabsOk view (F1 w os)=true:=by rw[Fast.te479339242167458305];kernel_rfl
theorem l6(w:World)(os:OsState):pinSeenD view (drecsOf view) (F1 w os)=pinGoodD (drecsOf view):=by kernel_rfl
theorem l7(w:World)(os:OsState):plainSeenE view (looseW view loose) (F1 w os)=plainGoodE view (looseW view loose):=by rw[Fast.te2386780881361962483];kernel_rfl
theorem l8(w:World)(os:OsState):plainSeenD view loose (F1 w os)=plainGoodD view loose:=by kernel_rfl
theorem l9(w:World)(os:OsState):wideSeen view (F1 w os)=wideGood view:=by rw[Fast.te7317090234206586261];kernel_rfl
theorem XB(w:World)(os:OsState):clsSeenW view loose (F1 w os)=clsGoodW view loose:=by kernel_rfl
theorem XC(w:World)(os:OsState):H.obs (F1 w os)=H.val w:=by kernel_rfl
theorem hl:LeftO PW view loose Xt H.obs H.val 9574 true:=
 LeftO.of_pieces (H₀:=boot_heap) (H₁:=B2) (gs₀:=⟨[]⟩) (gs₁:=⟨[]⟩) (d₀:=boot_drawn) (d₁:={}) (k₀:=boot_toks) (k₁:=1260) (m₀:=11) (ann:=an) (M:=12+(1+(318+(420+(320+(191+(223+(223+(380+(383+(375+(397+(501+(108+(378+(385+(137+(2)))))))))))))))))) (boot_open e1 (by decide) e2) size run (by decide)
  λw=>funext λos=>looks_pair (l1 w os) (looks_pair (looks_pair (l2 w os) (looks_pair (l3 w os) (looks_pair (l4 w os) (looks_pair (l5 w os) (looks_pair (l6 w os) (looks_pair (l7 w os) (looks_pair (l8 w os) (looks_pair (l9 w os) (XB w os))))))))) (XC w os))
theorem well:PySem.Challenge.rw_sa0605_05.wellSaid=true:=by kernel_rfl
theorem LO:(defOf view PySem.Challenge.rw_sa0605_05.row.name).isSome=true:=by kernel_rfl
noncomputable def dk:DefRec×List (Str×Expr):=(defOf view PySem.Challenge.rw_sa0605_05.row.name).get LO
set_option maxHeartbeats 8000000 in
theorem top(hc:WalkO view loose (PySem.W.XL view []) H.says PySem.Challenge.rw_sa0605_05.row.toRowW dk.1 dk.2 λf vs=>PySem.call f vs):PySem.Challenge.rw_sa0605_05.Holds:=by
 refine holds_law well λVA=>?_
 refine PySem.W.holds_open (q:=view) (loose:=loose) (Xt:=Xt) (XP:=PySem.W.XL view []) (Yf:=H.obs) (Ya:=H.val) (YP:=H.says) (d:=dk.1) (kwd:=dk.2) hl H.of H.keeps (λs e=>xl_of s (nz.mp e).1) PySem.W.XL.keeps (Option.some_get LO).symm (by kernel_rfl) (by kernel_rfl) (λs e=>recFacts_of (nz.mp e).2) (by rfl) VA (by decide +kernel) ⟨rfl,rfl,rfl,rfl,rfl,by decide +kernel⟩ ?hw hc
 case hw=>w_witness2
end HD
end Mine
namespace Mine
namespace L5
noncomputable def ca:List Nat:=[94,208,449,526,589,145,166,187,132]
noncomputable def GG(x:Str):Option GV:=Mine.kL x gl
set_option maxRecDepth 100000 in
theorem XD(P:Params):CZ (HD.KF P) fa ca gl pg.cls=true:=by kernel_rfl
set_option maxRecDepth 100000 in
theorem XE(P:Params):js GG (HD.KF P) fns fa=true:=by kernel_rfl
set_option maxRecDepth 100000 in
theorem S1(P:Params):nsIn (HD.KF P) mainGlobals (Str.ofString "law")=some (some (.ref 704)):=by kernel_rfl
end L5
end Mine
set_option maxRecDepth 100000 in
set_option maxHeartbeats 8000000 in
theorem PySem.Challenge.cw_sa0605_05_holds : PySem.Challenge.rw_sa0605_05.Holds := by
 refine Mine.HD.top ?_
 intro w s₀ s₁ mg mb G Y fa o pm cd doc dV kV ho hd XF hD VC hg args vals as VD VE XG iw bQ
 have KX:=kIn_of Y
 refine Ground.open G ?_
 intro T B D TE TW
 wrow_args VD VE XG iw bQ
 rename_i ns _ _ _ _ _ _ _ p ws _ hL _ _ _ hI _ hlen _
 have XH:fa=704:=by
  have h1:=mg_of KX T.g (Mine.L5.S1 w.params)
  have h2:mg (Str.ofString "law")=some (.ref fa):=VC
  rw[h1] at h2
  cases h2
  rfl
 have hn:ns.length<=63:=by omega
 obtain⟨H',hc⟩:=Mine.Q.L5.Ot hn
 clear hd XF hD Y VC ho
 subst XH
 let S:Mine.b0:=⟨PySem.Challenge.rw_sa0605_05.row.prog,w,Mine.L5.pg,Mine.HD.KF w.params,Mine.L5.fa,Mine.L5.ca,Mine.L5.GG,Mine.AI (Mine.HD.KF w.params) p ws,s₁.heap⟩
 have C:Mine.Cx S:=Mine.Rp (gl:=Mine.L5.gl) (p:=p) (ws:=ws) (λ_=>rfl) rfl KX T.nolimit T.g T.b T.builtins (Mine.L5.XD w.params) (Mine.L5.XE w.params)
 refine Mine.entry (S:=S) C (p:=p) (ws:=ws) (ns:=ns) (k:=80) (d:=100) (a:=704) rfl rfl hL hI (Nat.le_trans hn (by decide)) ⟨rfl,by decide +kernel,by decide +kernel⟩ rfl hc λh' tk kp=>?_
 have S2:PySem.Challenge.rw_sa0605_05.row.claim.post [ofPy (PyData.list (List.map PyData.int ns))] (WData.bool true) [ofPy (PyData.list (List.map PyData.int ns))]=true:=by
  first|rfl|wrow_post
 exact⟨.inl ⟨_,_,[],rfl,λ_=>rfl,ReadsW.bool true,S2,λ_=>⟨List.nodup_nil,λ_ hm=>(nomatch hm)⟩⟩,.of_keep kp,rfl,by rw[hg];exact AllBare.empty⟩
