import PyProof.Rows.All
import Wide.All
import OpenK.AllK
import Wide.FinOn
import PySem.Challenge.RW_sa0605_03
open PySem PySem.W PyProof.Rows
set_option Elab.async false
set_option linter.unusedSimpArgs false
set_option linter.unusedVariables false
set_option genSizeOf false
set_option genInjectivity false
set_option bootstrap.genMatcherCode false
set_option maxRecDepth 10000
namespace Mine
theorem ff {p:Prop} (h:false=true):p:=by cases h
theorem nn {α:Type} {a:α} {p:Prop} (h:none=some a):p:=by cases h
inductive V where
  | none | bool (b:Bool) | int (i:Int) | str (s:List Nat) | tup (l:List V) | loc (n:Nat) | rng (a b c:Int) | fn (k:Nat) | ro (l:List V)
inductive O where
  | list (l:List V) | dict (es:List (List Nat×V)) | inst (c:Nat) (fs:List (Nat×V))
noncomputable abbrev Hp:=List O
noncomputable abbrev Lo:=List (Option V)
inductive BOp where | add | sub | mul | fdiv | mod
inductive COp where | eq | ne | lt | le | gt | ge | is | isnot | isin | notin
inductive BM where | append | pop | extend | reverse | join | replace | startswith | lstrip | split | get
inductive Pr where | len | abs | int | chr | ord | list | range | min | str
set_option genCtorIdx false in
inductive IK where | int | str | tuple | cls (k:Nat)
set_option genCtorIdx false in
inductive CT where | one (i:Nat) | many (is:List Nat)
inductive ME where
  | bad
  | lit (v:V) | loc (i:Nat) | glob (v:V)
  | tup (es:List ME) | lst (es:List ME) | dict (es:List ME)
  | attr (e:ME) (a:Nat) | idx (e i:ME) | slice (e lo hi st:ME)
  | bin (op:BOp) (a b:ME) | neg (a:ME) | not (a:ME)
  | cmp (op:COp) (a b:ME)
  | and (es:List ME) | or (es:List ME) | ife (t a b:ME)
  | call (f:ME) (es:List ME) | new (c:Nat) (es:List ME)
  | meth (o:ME) (m:Nat) (es:List ME) | bmeth (o:ME) (m:BM) (es:List ME)
  | prim (p:Pr) (es:List ME) | isin (e:ME) (k:IK)
  | comp (elt src:ME) (t:CT) (k:Nat) (conds:List ME)
set_option genCtorIdx false in
inductive Tg where
  | loc (i:Nat) | attr (o:ME) (a:Nat) | idx (o i:ME) | tup (ts:List Tg)
set_option genCtorIdx false in
inductive MS where
  | bad
  | expr (e:ME) | ret (e:ME) | asg (t:Tg) (e:ME) | auga (o:ME) (a:Nat) (op:BOp) (e:ME)
  | ife (t:ME) (b o:List MS) | whl (t:ME) (b:List MS) | for (t:CT) (it:ME) (b:List MS) | brk | cont
inductive Fl where | next | brk | cont | ret (v:V)
structure FI where
  np:Nat
  ns:Nat
  body:List MS
structure CI where
  init:Nat
  meths:List (Nat×Nat)
structure Pg where
  fns:List FI
  cls:List CI
noncomputable def lim:Nat:=1048576
noncomputable def big:Int:=1152921504606846976
noncomputable def mapO {α β:Type} (f:α→Option β):List α→Option (List β)
  | []=>some []
  | a::r=>match f a with
    | some b=>(match mapO f r with | some bs=>some (b::bs) | Option.none=>Option.none)
    | Option.none=>Option.none
theorem mapO_1 {α β:Type}  {f}:mapO (α:=α) (β:=β) f ([])=(some []):=rfl
theorem mapO_2 {α β:Type}  {f a r}:mapO (α:=α) (β:=β) f (a::r)=(match f a with
    | some b=>(match mapO f r with | some bs=>some (b::bs) | Option.none=>Option.none)
    | Option.none=>Option.none):=rfl
noncomputable def dat (H:Hp):Nat→V→Option PyData
  | 0,_=>none
  | n+1,v=>match v with
    | .none=>some .none
    | .bool b=>some (.bool b)
    | .int i=>some (.int i)
    | .str s=>if s.all (· < 128) then some (.str ⟨s.toArray⟩) else none
    | .tup l=>(mapO (dat H n) l).map .tuple
    | .loc i=>(match H[i]? with | some (.list l)=>(mapO (dat H n) l).map .list | _=>none)
    | _=>none
theorem dat_1  {H zu1}:dat H 0 zu1=(none):=rfl
theorem dat_2  {H n v}:dat H (n+1) v=(match v with
    | .none=>some .none
    | .bool b=>some (.bool b)
    | .int i=>some (.int i)
    | .str s=>if s.all (· < 128) then some (.str ⟨s.toArray⟩) else none
    | .tup l=>(mapO (dat H n) l).map .tuple
    | .loc i=>(match H[i]? with | some (.list l)=>(mapO (dat H n) l).map .list | _=>none)
    | _=>none):=rfl
noncomputable def lookS {α:Type} (k:List Nat):List (List Nat×α)→Option α
  | []=>none
  | (j,v)::r=>if j == k then some v else lookS k r
theorem lookS_1 {α:Type}  {k}:lookS (α:=α) k ([])=(none):=rfl
theorem lookS_2 {α:Type}  {k j v r}:lookS (α:=α) k ((j,v)::r)=(if j == k then some v else lookS k r):=rfl
noncomputable def putS {α:Type} (k:List Nat) (v:α):List (List Nat×α)→List (List Nat×α)
  | []=>[(k,v)]
  | (j,u)::r=>if j == k then(j,v)::r else(j,u)::putS k v r
theorem putS_1 {α:Type}  {k v}:putS (α:=α) k v ([])=([(k,v)]):=rfl
theorem putS_2 {α:Type}  {k v j u r}:putS (α:=α) k v ((j,u)::r)=(if j == k then(j,v)::r else(j,u)::putS k v r):=rfl
noncomputable def lookN {α:Type} (k:Nat):List (Nat×α)→Option α
  | []=>none
  | (j,v)::r=>if j == k then some v else lookN k r
theorem lookN_1 {α:Type}  {k}:lookN (α:=α) k ([])=(none):=rfl
theorem lookN_2 {α:Type}  {k j v r}:lookN (α:=α) k ((j,v)::r)=(if j == k then some v else lookN k r):=rfl
noncomputable def putN {α:Type} (k:Nat) (v:α):List (Nat×α)→List (Nat×α)
  | []=>[(k,v)]
  | (j,u)::r=>if j == k then(j,v)::r else(j,u)::putN k v r
theorem putN_1 {α:Type}  {k v}:putN (α:=α) k v ([])=([(k,v)]):=rfl
theorem putN_2 {α:Type}  {k v j u r}:putN (α:=α) k v ((j,u)::r)=(if j == k then(j,v)::r else(j,u)::putN k v r):=rfl
noncomputable def onI {β:Type} (a:V) (f:Int→Option β):Option β:=match a with | .int i=>f i | _=>none
noncomputable def onS {β:Type} (a:V) (f:List Nat→Option β):Option β:=match a with | .str s=>f s | _=>none
noncomputable def onT {β:Type} (a:V) (f:List V→Option β):Option β:=match a with | .tup s=>f s | _=>none
noncomputable def onN {β:Type} (a:V) (f:Nat→Option β):Option β:=match a with | .loc n=>f n | _=>none
noncomputable def atL {β:Type} (H:Hp) (n:Nat) (f:List V→Option β):Option β:=match H[n]? with | some (.list l)=>f l | _=>none
noncomputable def atD {β:Type} (H:Hp) (n:Nat) (f:List (List Nat×V)→Option β):Option β:=match H[n]? with | some (.dict l)=>f l | _=>none
noncomputable def atI {β:Type} (H:Hp) (n:Nat) (f:Nat→List (Nat×V)→Option β):Option β:=match H[n]? with | some (.inst c l)=>f c l | _=>none
noncomputable def on0 {β:Type} (vs:List V) (f:Option β):Option β:=match vs with | []=>f | _::_=>none
noncomputable def on1 {β:Type} (vs:List V) (f:V→Option β):Option β:=match vs with | []=>none | a::r=>on0 r (f a)
noncomputable def on2 {β:Type} (vs:List V) (f:V→V→Option β):Option β:=match vs with | []=>none | a::r=>on1 r (f a)
noncomputable def gd {β:Type} (c:Prop) [Decidable c] (x:β):Option β:=if c then some x else none
noncomputable def isNone0 (a:V):Bool:=match a with | .none=>true | _=>false
theorem onI_some_k {β:Type} {a:V} {f:Int→Option β} {r:β} (e:onI a f=some r) {zg:Prop} (zk:∀ i,(a=.int i)→(f i=some r)→zg):zg:=by
  obtain⟨i,zh1,zh2⟩:∃ i,a=.int i∧f i=some r:=by
    cases a <;> first | exact⟨_,rfl,e⟩ | cases e
  exact zk i zh1 zh2
theorem onS_some_k {β:Type} {a:V} {f:List Nat→Option β} {r:β} (e:onS a f=some r) {zg:Prop} (zk:∀ i,(a=.str i)→(f i=some r)→zg):zg:=by
  obtain⟨i,zh1,zh2⟩:∃ i,a=.str i∧f i=some r:=by
    cases a <;> first | exact⟨_,rfl,e⟩ | cases e
  exact zk i zh1 zh2
theorem onT_some_k {β:Type} {a:V} {f:List V→Option β} {r:β} (e:onT a f=some r) {zg:Prop} (zk:∀ i,(a=.tup i)→(f i=some r)→zg):zg:=by
  obtain⟨i,zh1,zh2⟩:∃ i,a=.tup i∧f i=some r:=by
    cases a <;> first | exact⟨_,rfl,e⟩ | cases e
  exact zk i zh1 zh2
theorem onN_some_k {β:Type} {a:V} {f:Nat→Option β} {r:β} (e:onN a f=some r) {zg:Prop} (zk:∀ i,(a=.loc i)→(f i=some r)→zg):zg:=by
  obtain⟨i,zh1,zh2⟩:∃ i,a=.loc i∧f i=some r:=by
    cases a <;> first | exact⟨_,rfl,e⟩ | cases e
  exact zk i zh1 zh2
theorem atL_some_k {β:Type} {H:Hp} {n:Nat} {f:List V→Option β} {r:β} (e:atL H n f=some r) {zg:Prop} (zk:∀ l,(H[n]? = some (.list l))→(f l=some r)→zg):zg:=by
  obtain⟨l,zh1,zh2⟩:∃ l,H[n]? = some (.list l)∧f l=some r:=by
    unfold atL at e
    generalize H[n]? = o at e ⊢
    cases o with
    | none=>cases e
    | some o=>cases o with
      | list l=>exact⟨l,rfl,e⟩
      | _=>cases e
  exact zk l zh1 zh2
theorem atD_some_k {β:Type} {H:Hp} {n:Nat} {f:List (List Nat×V)→Option β} {r:β} (e:atD H n f=some r) {zg:Prop} (zk:∀ l,(H[n]? = some (.dict l))→(f l=some r)→zg):zg:=by
  obtain⟨l,zh1,zh2⟩:∃ l,H[n]? = some (.dict l)∧f l=some r:=by
    unfold atD at e
    generalize H[n]? = o at e ⊢
    cases o with
    | none=>cases e
    | some o=>cases o with
      | dict l=>exact⟨l,rfl,e⟩
      | _=>cases e
  exact zk l zh1 zh2
theorem atI_some_k {β:Type} {H:Hp} {n:Nat} {f:Nat→List (Nat×V)→Option β} {r:β} (e:atI H n f=some r) {zg:Prop} (zk:∀ c,∀ l,(H[n]? = some (.inst c l))→(f c l=some r)→zg):zg:=by
  obtain⟨c,l,zh1,zh2⟩:∃ c l,H[n]? = some (.inst c l)∧f c l=some r:=by
    unfold atI at e
    generalize H[n]? = o at e ⊢
    cases o with
    | none=>cases e
    | some o=>cases o with
      | inst c l=>exact⟨c,l,rfl,e⟩
      | _=>cases e
  exact zk c l zh1 zh2
theorem on0_some {β:Type} {vs:List V} {f:Option β} {r:β} (e:on0 vs f=some r):vs=[]∧f=some r:=by
  cases vs with
  | nil=>exact⟨rfl,e⟩
  | cons a l=>cases e
theorem on1_some_k {β:Type} {vs:List V} {f:V→Option β} {r:β} (e:on1 vs f=some r) {zg:Prop} (zk:∀ a,(vs=[a])→(f a=some r)→zg):zg:=by
  cases vs with
  | nil=>cases e
  | cons a l=>obtain⟨rfl,e⟩:=on0_some (vs:=l) e; exact zk a rfl e
theorem on1_some {β:Type} {vs:List V} {f:V→Option β} {r:β} (e:on1 vs f=some r):∃ a,vs=[a]∧f a=some r:=on1_some_k e fun a zh1 zh2=>⟨a,zh1,zh2⟩
theorem gd_some {β:Type} {c:Prop} [Decidable c] {x r:β} (e:gd c x=some r):c∧x=r:=by
  unfold gd at e
  by_cases h:c
  · rw [if_pos h] at e; exact⟨h,Option.some.inj e⟩
  · rw [if_neg h] at e; cases e
theorem map_some_k {α β:Type} {o:Option α} {f:α→β} {r:β} (e:o.map f=some r) {zg:Prop} (zk:∀ a,(o=some a)→(f a=r)→zg):zg:=by
  cases o with
  | none=>cases e
  | some a=>exact zk a rfl (Option.some.inj e)
theorem isNone0_eq {a:V} (h:isNone0 a=true):a=.none:=by cases a <;> first | rfl | cases h
noncomputable def eqD (H:Hp) (a b:V):Option Bool:=match dat H 8 a with
  | some x=>(match dat H 8 b with | some y=>some (PyData.eqv x y) | none=>none)
  | none=>none
theorem eqD_some_k {H:Hp} {a b:V} {r:Bool} (e:eqD H a b=some r) {zg:Prop} (zk:∀ x,∀ y,(dat H 8 a=some x)→(dat H 8 b=some y)→(PyData.eqv x y=r)→zg):zg:=by
  obtain⟨x,y,zh1,zh2,zh3⟩:∃ x y,dat H 8 a=some x∧dat H 8 b=some y∧PyData.eqv x y=r:=by
    unfold eqD at e
    cases h:dat H 8 a with
    | none=>rw [h] at e; cases e
    | some x =>
      rw [h] at e
      cases h':dat H 8 b with
      | none=>rw [h'] at e; cases e
      | some y=>rw [h'] at e; exact⟨x,y,rfl,rfl,Option.some.inj e⟩
  exact zk x y zh1 zh2 zh3
noncomputable def fastEq (H:Hp) (a b:V):Option (Option Bool):=match a with
  | .str s=>(match b with | .str t=>some (some (s == t)) | _=>none)
  | .int i=>(match b with | .int j=>some (some (i == j)) | _=>none)
  | .tup _=>(match b with | .str _=>some (some false) | _=>none)
  | _=>none
noncomputable def eqV (H:Hp) (a b:V):Option Bool:=match fastEq H a b with
  | some r=>r
  | none=>none
noncomputable def hasPre:List Nat→List Nat→Bool
  | [],_=>true
  | _::_,[]=>false
  | a::r,b::t=>a == b && hasPre r t
theorem hasPre_1  {zu1}:hasPre ([]) zu1=(true):=rfl
theorem hasPre_2  {zu1 zu2}:hasPre (zu1::zu2) ([])=(false):=rfl
theorem hasPre_3  {a r b t}:hasPre (a::r) (b::t)=(a == b && hasPre r t):=rfl
noncomputable def strsOf:List V→Option (List (List Nat))
  | []=>some []
  | .str s::r=>(match strsOf r with | some l=>some (s::l) | none=>none)
  | _=>none
theorem strsOf_1 :strsOf ([])=(some []):=rfl
theorem strsOf_2  {s r}:strsOf (.str s::r)=((match strsOf r with | some l=>some (s::l) | none=>none)):=rfl
noncomputable def strsOf' {β:Type} (l:List V) (f:List (List Nat)→Option β):Option β:=match strsOf l with | some ss=>f ss | none=>none
theorem strsOf'_some_k {β:Type} {l:List V} {f:List (List Nat)→Option β} {r:β} (e:strsOf' l f=some r) {zg:Prop} (zk:∀ ss,(strsOf l=some ss)→(f ss=some r)→zg):zg:=by
  obtain⟨ss,zh1,zh2⟩:∃ ss,strsOf l=some ss∧f ss=some r:=by
    unfold strsOf' at e
    cases h:strsOf l with
    | none=>rw [h] at e; cases e
    | some ss=>rw [h] at e; exact⟨ss,rfl,e⟩
  exact zk ss zh1 zh2
noncomputable def inV (H:Hp) (a b:V):Option Bool:=onS a fun s=>match b with
  | .tup l=>strsOf' l fun ss=>some (ss.any (· == s))
  | _=>none
noncomputable def intsOf:List V→Option (List Int)
  | []=>some []
  | .int i::r=>(match intsOf r with | some l=>some (i::l) | none=>none)
  | _=>none
theorem intsOf_1 :intsOf ([])=(some []):=rfl
theorem intsOf_2  {i r}:intsOf (.int i::r)=((match intsOf r with | some l=>some (i::l) | none=>none)):=rfl
noncomputable def ltV (H:Hp) (a b:V):Option Bool:=match a with
  | .int i=>onI b fun j=>some (decide (i<j))
  | _=>none
noncomputable def fastNe (a b:V):Option Bool:=onS a fun s=>onS b fun t=>some (!(s == t))
noncomputable def neV (H:Hp) (a b:V):Option Bool:=match fastNe a b with
  | some r=>some r
  | none=>(eqD H a b).map (!·)
noncomputable def isV' (a b:V):Option Bool:=if isNone0 b then some (isNone0 a) else none
noncomputable def cmpV (H:Hp) (op:COp) (a b:V):Option Bool:=match op with
  | .eq=>eqV H a b
  | .ne=>neV H a b
  | .lt=>ltV H a b
  | .le=>none
  | .gt=>onI a fun i=>onI b fun j=>some (decide (j<i))
  | .ge=>none
  | .is=>isV' a b
  | .isnot=>(isV' a b).map (!·)
  | .isin=>inV H a b
  | .notin=>(inV H a b).map (!·)
noncomputable def addV (a b:V) (H:Hp):Option (V×Hp):=match a with
  | .int i=>onI b fun j=>some (.int (i+j),H)
  | .str s=>onS b fun t=>gd (s.length+t.length≤lim) (.str (s++t),H)
  | .tup s=>onT b fun t=>gd (s.length+t.length≤lim) (.tup (s++t),H)
  | .loc i=>onN b fun j=>atL H i fun l=>atL H j fun m=>gd (l.length+m.length≤lim) (.loc H.length,H++[.list (l++m)])
  | _=>none
noncomputable def mulV (a b:V) (H:Hp):Option (V×Hp):=match a with
  | .int i=>onI b fun j=>gd (i.natAbs<1152921504606846976∧j.natAbs<1152921504606846976) (.int (i * j),H)
  | _=>none
noncomputable def binV (op:BOp) (a b:V) (H:Hp):Option (V×Hp):=match op with
  | .add=>addV a b H
  | .sub=>onI a fun i=>onI b fun j=>some (.int (i - j),H)
  | .mul=>mulV a b H
  | .fdiv=>onI a fun i=>onI b fun j=>gd (0<j∧i.natAbs<1152921504606846976∧j<1152921504606846976) (.int (i / j),H)
  | .mod=>onI a fun i=>onI b fun j=>gd (0<j) (.int (i % j),H)
noncomputable def augV (op:BOp) (a b:V):Option V:=onI a fun i=>onI b fun j=>match op with
  | .add=>some (.int (i+j))
  | _=>none
noncomputable def idxL {α:Type} (l:List α) (i:Int):Option α:=if 0≤i then l[i.toNat]? else none
noncomputable def idxV (H:Hp) (a i:V):Option V:=match a with
  | .tup l=>onI i (idxL l)
  | .str s=>onI i fun i=>(idxL s i).map fun c=>.str [c]
  | .loc n=>(match i with
    | .int i=>atL H n fun l=>idxL l i
    | _=>none)
  | _=>none
noncomputable def noneV {β:Type} (a:V) (x:Option β):Option β:=if isNone0 a then x else none
theorem noneV_some {β:Type} {a:V} {x:Option β} {r:β} (e:noneV a x=some r):a=.none∧x=some r:=by
  unfold noneV at e
  cases h:isNone0 a with
  | true=>rw [h] at e; exact⟨isNone0_eq h,e⟩
  | false=>rw [h] at e; cases e
noncomputable def sliceR {α:Type} (l:List α) (lo hi st:V):Option (List α):=noneV lo (match hi with
  | .none=>onI st fun k=>gd (k = -1) l.reverse
  | .int j=>(match st with
    | .none=>gd (0≤j) (l.take j.toNat)
    | _=>none)
  | _=>none)
noncomputable def sliceL {α:Type} (l:List α) (lo hi st:V):Option (List α):=noneV st (match lo with
  | .none=>onI hi fun j=>gd (0≤j) (l.take j.toNat)
  | .int i=>(match hi with
    | .none=>gd (0≤i) (l.drop i.toNat)
    | .int j=>gd (0≤i∧0≤j) ((l.take j.toNat).drop i.toNat)
    | _=>none)
  | _=>none)
noncomputable def sliceV (a lo hi st:V) (H:Hp):Option (V×Hp):=match a with
  | .str s=>(sliceL s lo hi st).map fun t=>(.str t,H)
  | .ro l=>noneV lo (noneV st (onI hi fun j=>gd (0≤j) (.loc H.length,H++[.list (l.take j.toNat)])))
  | .loc n=>atL H n fun l=>(sliceR l lo hi st).map fun t=>(.loc H.length,H++[.list t])
  | _=>none
noncomputable def isV (v:V) (k:IK):Option Bool:=match k with
  | .int=>none
  | .str=>(match v with | .int _=>some false | .bool _=>some false | .none=>some false | .str _=>some true | .tup _=>some false | _=>none)
  | .tuple=>(match v with | .int _=>some false | .bool _=>some false | .none=>some false | .str _=>some false | .tup _=>some true | _=>none)
  | .cls _=>none
noncomputable def rngLen (a b c:Int):Nat:=if 0<c then(if a<b then((b - a+c - 1) / c).toNat else 0) else if c<0 then(if b<a then((a - b - c - 1) / (-c)).toNat else 0) else 0
noncomputable def rngL (a c:Int):Nat→List Int
  | 0=>[]
  | n+1=>a::rngL (a+c) c n
theorem rngL_1  {a c}:rngL a c 0=([]):=rfl
theorem rngL_2  {a c n}:rngL a c (n+1)=(a::rngL (a+c) c n):=rfl
noncomputable def minL:Int→List Int→Int
  | m,[]=>m
  | m,a::r=>minL (if a<m then a else m) r
noncomputable def lenV (a:V) (H:Hp):Option Nat:=match a with
  | .str s=>some s.length
  | .tup s=>some s.length
  | .loc n=>atL H n fun l=>some l.length
  | _=>none
noncomputable def intV (a:V):Option Int:=match a with
  | .int i=>some i
  | _=>none
noncomputable def listV (a:V) (H:Hp):Option (List V):=match a with
  | .tup l=>some l
  | _=>none
noncomputable def rangeV (vs:List V):Option V:=match vs with
  | []=>none
  | x::r=>onI x fun a=>on0 r (gd (a.natAbs<1048576) (.rng 0 a 1))
noncomputable def minV (H:Hp) (n:Nat):Option V:=atL H n fun l=>(match intsOf l with | some (a::r)=>some (.int (minL a r)) | _=>none)
noncomputable def primV (p:Pr) (vs:List V) (H:Hp):Option (V×Hp):=match p with
  | .len=>on1 vs fun a=>(lenV a H).map fun(n:Nat)=>(V.int (n:Int),H)
  | .abs=>on1 vs fun a=>onI a fun i=>some (.int i.natAbs,H)
  | .int=>on1 vs fun a=>(intV a).map fun n=>(.int n,H)
  | .chr=>none
  | .ord=>none
  | .list=>on1 vs fun a=>(listV a H).map fun l=>(.loc H.length,H++[.list l])
  | .range=>(rangeV vs).map fun v=>(v,H)
  | .min=>none
  | .str=>none
noncomputable def catL:List (List Nat)→List Nat
  | []=>[]
  | s::r=>s++catL r
theorem catL_1 :catL ([])=([]):=rfl
theorem catL_2  {s r}:catL (s::r)=(s++catL r):=rfl
noncomputable def lstripL (cs:List Nat):List Nat→List Nat
  | []=>[]
  | c::r=>if cs.contains c then lstripL cs r else c::r
noncomputable def splitL (c:Nat):List Nat→List (List Nat)
  | []=>[[]]
  | d::r=>if d == c then []::splitL c r else(match splitL c r with | w::ws=>(d::w)::ws | []=>[[d]])
noncomputable def dropPar:List Nat→List Nat
  | 40::41::r=>dropPar r
  | c::r=>c::dropPar r
  | []=>[]
noncomputable def joinV (H:Hp) (n:Nat):Option V:=atL H n fun l=>strsOf' l fun ss=>gd ((catL ss).length≤lim) (.str (catL ss))
noncomputable def isS (v:V) (x:List Nat):Bool:=match v with | .str s=>s == x | _=>false
noncomputable def bmV (m:BM) (o:V) (vs:List V) (H:Hp):Option (V×Hp):=match m with
  | .append=>onN o fun n=>on1 vs fun v=>atL H n fun l=>gd (l.length<lim) (.none,H.set n (.list (l++[v])))
  | .pop=>onN o fun n=>on0 vs (atL H n fun l=>(match l.getLast? with | some v=>some (v,H.set n (.list l.dropLast)) | none=>none))
  | .extend=>onN o fun n=>on1 vs fun a=>onN a fun k=>atL H n fun l=>atL H k fun m=>gd (n≠k∧l.length+m.length<lim) (.none,H.set n (.list (l++m)))
  | .reverse=>onN o fun n=>on0 vs (atL H n fun l=>some (.none,H.set n (.list l.reverse)))
  | .join=>onS o fun s=>on1 vs fun a=>onN a fun n=>(match s with | []=>(joinV H n).map fun v=>(v,H) | _::_=>none)
  | .replace=>none
  | .startswith=>onS o fun s=>on1 vs fun a=>onS a fun t=>some (.bool (hasPre t s),H)
  | .lstrip=>none
  | .split=>none
  | .get=>none
noncomputable def bmK (m:BM) (o:V) (H:Hp):Bool:=match o with
  | .str _=>(match m with | .join=>true | .replace=>true | .startswith=>true | .lstrip=>true | .split=>true | _=>false)
  | .loc n=>(match H[n]? with
    | some (.list _)=>(match m with | .append=>true | .pop=>true | .extend=>true | .reverse=>true | _=>false)
    | some (.dict _)=>(match m with | .get=>true | _=>false)
    | _=>false)
  | _=>false
noncomputable def getA (H:Hp) (o:V) (a:Nat):Option V:=onN o fun n=>atI H n fun _ fs=>lookN a fs
noncomputable def setA (H:Hp) (o:V) (a:Nat) (v:V):Option Hp:=onN o fun n=>atI H n fun c fs=>some (H.set n (.inst c (putN a v fs)))
noncomputable def setI (H:Hp) (o i v:V):Option Hp:=onN o fun n=>match i with
  | .int i=>atL H n fun l=>gd (0≤i∧i.toNat<l.length) (H.set n (.list (l.set i.toNat v)))
  | _=>none
set_option genCtorIdx false in
inductive It where
  | seq (l:List V) | lst (n i:Nat) | rng (a c:Int) (k:Nat)
noncomputable def iterV (H:Hp) (v:V):Option It:=match v with
  | .tup l=>some (.seq l)
  | .str s=>if s.all (· < 128) then some (.seq (s.map fun c=>.str [c])) else none
  | .loc n=>(match H[n]? with | some (.list _)=>some (.lst n 0) | _=>none)
  | .rng a b c=>if a.natAbs<1048576∧b.natAbs<1048576∧(c=1∨c = -1) then some (.rng a c (rngLen a b c)) else none
  | _=>none
noncomputable def nextI (H:Hp):It→Option (Option (V×It))
  | .seq []=>some none
  | .seq (v::r)=>some (some (v,.seq r))
  | .lst n i=>(match H[n]? with
    | some (.list l)=>(match l[i]? with | some v=>some (some (v,.lst n (i+1))) | none=>some none)
    | _=>none)
  | .rng _ _ 0=>some none
  | .rng a c (k+1)=>some (some (.int a,.rng (a+c) c k))
theorem nextI_1  {H}:nextI H (.seq [])=(some none):=rfl
theorem nextI_2  {H v r}:nextI H (.seq (v::r))=(some (some (v,.seq r))):=rfl
theorem nextI_3  {H n i}:nextI H (.lst n i)=((match H[n]? with
    | some (.list l)=>(match l[i]? with | some v=>some (some (v,.lst n (i+1))) | none=>some none)
    | _=>none)):=rfl
theorem nextI_4  {H zu1 zu2}:nextI H (.rng zu1 zu2 0)=(some none):=rfl
theorem nextI_5  {H a c k}:nextI H (.rng a c (k+1))=(some (some (.int a,.rng (a+c) c k))):=rfl
noncomputable def setMany:List Nat→List V→Lo→Option Lo
  | [],[],l=>some l
  | i::is,v::vs,l=>setMany is vs (l.set i (some v))
  | _,_,_=>none
theorem setMany_1  {l}:setMany ([]) ([]) l=(some l):=rfl
theorem setMany_2  {i is v vs l}:setMany (i::is) (v::vs) l=(setMany is vs (l.set i (some v))):=rfl
noncomputable def setCT (t:CT) (v:V) (l:Lo):Option Lo:=match t with
  | .one i=>some (l.set i (some v))
  | .many is=>(match v with | .tup vs=>setMany is vs l | _=>none)
noncomputable def bnd {α β:Type} (m:Option (α×Hp)) (f:α→Hp→Option β):Option β:=match m with
  | some (a,H)=>f a H
  | none=>none
noncomputable abbrev CallT:=Nat→List V→Hp→Option (V×Hp)
noncomputable def compN (cond:Lo→Hp→Option (Bool×Hp)) (elt:Lo→Hp→Option (V×Hp)) (t:CT) (l:Lo):Nat→It→List V→Hp→Option (List V×Hp)
  | 0,_,_,_=>none
  | n+1,it,acc,H=>match nextI H it with
    | none=>none
    | some none=>some (acc.reverse,H)
    | some (some (v,it'))=>(match setCT t v l with
      | none=>none
      | some l'=>bnd (cond l' H) fun b H'=>if b then bnd (elt l' H') fun r H''=>compN cond elt t l n it' (r::acc) H'' else compN cond elt t l n it' acc H')
theorem compN_1  {cond elt t l zu1 zu2 zu3}:compN cond elt t l 0 zu1 zu2 zu3=(none):=rfl
theorem compN_2  {cond elt t l n it acc H}:compN cond elt t l (n+1) it acc H=(match nextI H it with
    | none=>none
    | some none=>some (acc.reverse,H)
    | some (some (v,it'))=>(match setCT t v l with
      | none=>none
      | some l'=>bnd (cond l' H) fun b H'=>if b then bnd (elt l' H') fun r H''=>compN cond elt t l n it' (r::acc) H'' else compN cond elt t l n it' acc H')):=rfl
section
variable (P:Pg) (call:CallT)
mutual
noncomputable def evE:ME→Lo→Hp→Option (V×Hp)
  | .bad,_,_=>none
  | .lit v,_,H=>some (v,H)
  | .loc i,l,H=>(match l[i]? with | some (some v)=>some (v,H) | _=>none)
  | .glob v,_,H=>some (v,H)
  | .tup es,l,H=>bnd (evL es l H) fun vs H=>some (.tup vs,H)
  | .lst es,l,H=>bnd (evL es l H) fun vs H=>some (.loc H.length,H++[.list vs])
  | .dict es,l,H=>bnd (evD es l H) fun es H=>some (.loc H.length,H++[.dict es])
  | .attr e a,l,H=>bnd (evE e l H) fun o H=>(match getA H o a with | some v=>some (v,H) | none=>none)
  | .idx e i,l,H=>bnd (evE e l H) fun o H=>bnd (evE i l H) fun i H=>(match idxV H o i with | some v=>some (v,H) | none=>none)
  | .slice e lo hi st,l,H=>bnd (evE e l H) fun o H=>bnd (evE lo l H) fun lo H=>bnd (evE hi l H) fun hi H=>bnd (evE st l H) fun st H=>sliceV o lo hi st H
  | .bin op a b,l,H=>bnd (evE a l H) fun a H=>bnd (evE b l H) fun b H=>binV op a b H
  | .neg a,l,H=>bnd (evE a l H) fun a H=>(match a with | .int i=>some (.int (-i),H) | _=>none)
  | .not a,l,H=>bnd (evE a l H) fun a H=>(match a with | .bool b=>some (.bool (!b),H) | _=>none)
  | .cmp op a b,l,H=>bnd (evE a l H) fun a H=>bnd (evE b l H) fun b H=>(match cmpV H op a b with | some r=>some (.bool r,H) | none=>none)
  | .and es,l,H=>evAnd es l H
  | .or es,l,H=>evOr es l H
  | .ife t a b,l,H=>bnd (evE t l H) fun t H=>(match t with | .bool true=>evE a l H | .bool false=>evE b l H | _=>none)
  | .call f es,l,H=>bnd (evE f l H) fun f H=>bnd (evL es l H) fun vs H=>(match f with | .fn k=>call k vs H | _=>none)
  | .new c es,l,H=>bnd (evL es l H) fun vs H=>(match P.cls[c]? with
    | some ci=>bnd (call ci.init (.loc H.length::vs) (H++[.inst c []])) fun r H'=>(match r with | .none=>some (.loc H.length,H') | _=>none)
    | none=>none)
  | .meth o m es,l,H=>bnd (evE o l H) fun o H=>(match o with
    | .loc n=>(match H[n]? with
      | some (.inst c _)=>(match P.cls[c]? with
        | some ci=>(match lookN m ci.meths with
          | some k=>bnd (evL es l H) fun vs H=>call k (o::vs) H
          | none=>none)
        | none=>none)
      | _=>none)
    | _=>none)
  | .bmeth o m es,l,H=>bnd (evE o l H) fun o H=>if bmK m o H then bnd (evL es l H) fun vs H=>bmV m o vs H else none
  | .prim p es,l,H=>bnd (evL es l H) fun vs H=>primV p vs H
  | .isin e k,l,H=>bnd (evE e l H) fun v H=>(match isV v k with | some b=>some (.bool b,H) | none=>none)
  | .comp elt src t k cs,l,H=>bnd (evE src l H) fun s H=>(match iterV H s with
    | some it=>bnd (compN (fun l H=>evC cs l H) (fun l H=>evE elt l H) t (l++List.replicate k none) 1048576 it [] H) fun vs H =>
        if vs.length≤lim then some (.loc H.length,H++[.list vs]) else none
    | none=>none)
noncomputable def evL:List ME→Lo→Hp→Option (List V×Hp)
  | [],_,H=>some ([],H)
  | e::r,l,H=>bnd (evE e l H) fun v H=>bnd (evL r l H) fun vs H=>some (v::vs,H)
noncomputable def evD:List ME→Lo→Hp→Option (List (List Nat×V)×Hp)
  | [],_,H=>some ([],H)
  | _::_,_,_=>none
noncomputable def evAnd:List ME→Lo→Hp→Option (V×Hp)
  | [],_,H=>some (.bool true,H)
  | e::r,l,H=>bnd (evE e l H) fun v H=>(match v with | .bool true=>evAnd r l H | .bool false=>some (.bool false,H) | _=>none)
noncomputable def evOr:List ME→Lo→Hp→Option (V×Hp)
  | [],_,H=>some (.bool false,H)
  | e::r,l,H=>bnd (evE e l H) fun v H=>(match v with | .bool false=>evOr r l H | .bool true=>some (.bool true,H) | _=>none)
noncomputable def evC:List ME→Lo→Hp→Option (Bool×Hp)
  | [],_,H=>some (true,H)
  | e::r,l,H=>bnd (evE e l H) fun v H=>(match v with | .bool true=>evC r l H | .bool false=>some (false,H) | _=>none)
end
theorem evC_1  {zu1 H}:evC P call ([]) zu1 H=(some (true,H)):=rfl
theorem evC_2  {e r l H}:evC P call (e::r) l H=(bnd (evE P call e l H) fun v H=>(match v with | .bool true=>evC P call r l H | .bool false=>some (false,H) | _=>none)):=rfl
theorem evOr_1  {zu1 H}:evOr P call ([]) zu1 H=(some (.bool false,H)):=rfl
theorem evOr_2  {e r l H}:evOr P call (e::r) l H=(bnd (evE P call e l H) fun v H=>(match v with | .bool false=>evOr P call r l H | .bool true=>some (.bool true,H) | _=>none)):=rfl
theorem evAnd_1  {zu1 H}:evAnd P call ([]) zu1 H=(some (.bool true,H)):=rfl
theorem evAnd_2  {e r l H}:evAnd P call (e::r) l H=(bnd (evE P call e l H) fun v H=>(match v with | .bool true=>evAnd P call r l H | .bool false=>some (.bool false,H) | _=>none)):=rfl
theorem evL_1  {zu1 H}:evL P call ([]) zu1 H=(some ([],H)):=rfl
theorem evL_2  {e r l H}:evL P call (e::r) l H=(bnd (evE P call e l H) fun v H=>bnd (evL P call r l H) fun vs H=>some (v::vs,H)):=rfl
end
noncomputable def bndS {β:Type} (m:Option (Lo×Hp)) (f:Lo→Hp→Option β):Option β:=match m with
  | some (l,H)=>f l H
  | none=>none
noncomputable def unpk (H:Hp) (v:V):Option (List V):=match v with
  | .tup vs=>some vs
  | .loc n=>(match H[n]? with | some (.list l)=>some l | _=>none)
  | _=>none
section
variable (ev:ME→Lo→Hp→Option (V×Hp))
mutual
noncomputable def asgT:Tg→V→Lo→Hp→Option (Lo×Hp)
  | .loc i,v,l,H=>some (l.set i (some v),H)
  | .attr o a,v,l,H=>bnd (ev o l H) fun o H=>(match setA H o a v with | some H=>some (l,H) | none=>none)
  | .idx o i,v,l,H=>bnd (ev o l H) fun o H=>bnd (ev i l H) fun i H=>(match setI H o i v with | some H=>some (l,H) | none=>none)
  | .tup ts,v,l,H=>(match unpk H v with | some vs=>asgTs ts vs l H | none=>none)
noncomputable def asgTs:List Tg→List V→Lo→Hp→Option (Lo×Hp)
  | [],[],l,H=>some (l,H)
  | t::ts,v::vs,l,H=>bndS (asgT t v l H) fun l H=>asgTs ts vs l H
  | _,_,_,_=>none
end
theorem asgT_1  {i v l H}:asgT ev (.loc i) v l H=(some (l.set i (some v),H)):=rfl
theorem asgT_2  {o a v l H}:asgT ev (.attr o a) v l H=(bnd (ev o l H) fun o H=>(match setA H o a v with | some H=>some (l,H) | none=>none)):=rfl
theorem asgT_3  {o i v l H}:asgT ev (.idx o i) v l H=(bnd (ev o l H) fun o H=>bnd (ev i l H) fun i H=>(match setI H o i v with | some H=>some (l,H) | none=>none)):=rfl
theorem asgT_4  {ts v l H}:asgT ev (.tup ts) v l H=((match unpk H v with | some vs=>asgTs ev ts vs l H | none=>none)):=rfl
theorem asgTs_1  {l H}:asgTs ev ([]) ([]) l H=(some (l,H)):=rfl
theorem asgTs_2  {t ts v vs l H}:asgTs ev (t::ts) (v::vs) l H=(bndS (asgT ev t v l H) fun l H=>asgTs ev ts vs l H):=rfl
end
noncomputable abbrev SR:=Option (Fl×Lo×Hp)
noncomputable def whlN (t:Lo→Hp→Option (V×Hp)) (b:Lo→Hp→SR):Nat→Lo→Hp→SR
  | 0,_,_=>none
  | n+1,l,H=>bnd (t l H) fun v H=>(match v with
    | .bool false=>some (.next,l,H)
    | .bool true=>(match b l H with
      | some (.next,l,H)=>whlN t b n l H
      | some (.cont,l,H)=>whlN t b n l H
      | some (.brk,l,H)=>some (.next,l,H)
      | some (.ret v,l,H)=>some (.ret v,l,H)
      | none=>none)
    | _=>none)
theorem whlN_1  {t b zu1 zu2}:whlN t b 0 zu1 zu2=(none):=rfl
theorem whlN_2  {t b n l H}:whlN t b (n+1) l H=(bnd (t l H) fun v H=>(match v with
    | .bool false=>some (.next,l,H)
    | .bool true=>(match b l H with
      | some (.next,l,H)=>whlN t b n l H
      | some (.cont,l,H)=>whlN t b n l H
      | some (.brk,l,H)=>some (.next,l,H)
      | some (.ret v,l,H)=>some (.ret v,l,H)
      | none=>none)
    | _=>none)):=rfl
noncomputable def forN (t:CT) (b:Lo→Hp→SR):Nat→It→Lo→Hp→SR
  | 0,_,_,_=>none
  | n+1,it,l,H=>match nextI H it with
    | none=>none
    | some none=>some (.next,l,H)
    | some (some (v,it'))=>(match setCT t v l with
      | none=>none
      | some l=>(match b l H with
        | some (.next,l,H)=>forN t b n it' l H
        | some (.cont,l,H)=>forN t b n it' l H
        | some (.brk,l,H)=>some (.next,l,H)
        | some (.ret v,l,H)=>some (.ret v,l,H)
        | none=>none))
theorem forN_1  {t b zu1 zu2 zu3}:forN t b 0 zu1 zu2 zu3=(none):=rfl
theorem forN_2  {t b n it l H}:forN t b (n+1) it l H=(match nextI H it with
    | none=>none
    | some none=>some (.next,l,H)
    | some (some (v,it'))=>(match setCT t v l with
      | none=>none
      | some l=>(match b l H with
        | some (.next,l,H)=>forN t b n it' l H
        | some (.cont,l,H)=>forN t b n it' l H
        | some (.brk,l,H)=>some (.next,l,H)
        | some (.ret v,l,H)=>some (.ret v,l,H)
        | none=>none))):=rfl
section
variable (P:Pg) (call:CallT)
mutual
noncomputable def exS:MS→Lo→Hp→SR
  | .bad,_,_=>none
  | .expr e,l,H=>bnd (evE P call e l H) fun _ H=>some (.next,l,H)
  | .ret e,l,H=>bnd (evE P call e l H) fun v H=>some (.ret v,l,H)
  | .asg t e,l,H=>bnd (evE P call e l H) fun v H=>bndS (asgT (evE P call) t v l H) fun l H=>some (.next,l,H)
  | .auga o a op e,l,H=>bnd (evE P call o l H) fun o H=>(match getA H o a with
    | some x=>bnd (evE P call e l H) fun b H=>(match augV op x b with | some r=>(match setA H o a r with | some H=>some (.next,l,H) | none=>none) | none=>none)
    | none=>none)
  | .ife t b o,l,H=>bnd (evE P call t l H) fun v H=>(match v with | .bool true=>exB b l H | .bool false=>exB o l H | _=>none)
  | .whl t b,l,H=>whlN (evE P call t) (fun l H=>exB b l H) 1048576 l H
  | .for t e b,l,H=>bnd (evE P call e l H) fun v H=>(match iterV H v with
    | some it=>forN t (fun l H=>exB b l H) 1048576 it l H
    | none=>none)
  | .brk,l,H=>some (.brk,l,H)
  | .cont,l,H=>some (.cont,l,H)
noncomputable def exB:List MS→Lo→Hp→SR
  | [],l,H=>some (.next,l,H)
  | s::r,l,H=>match exS s l H with
    | some (.next,l,H)=>exB r l H
    | x=>x
end
theorem exB_1  {l H}:exB P call ([]) l H=(some (.next,l,H)):=rfl
theorem exB_2  {s r l H}:exB P call (s::r) l H=(match exS P call s l H with
    | some (.next,l,H)=>exB P call r l H
    | x=>x):=rfl
end
noncomputable def callF (P:Pg):Nat→CallT
  | 0,_,_,_=>none
  | d+1,f,vs,H=>match P.fns[f]? with
    | some fi=>if vs.length=fi.np then(match exB P (callF P d) fi.body (vs.map some++List.replicate (fi.ns - fi.np) none) H with
      | some (.ret v,_,H)=>some (v,H)
      | some (.next,_,H)=>some (.none,H)
      | _=>none) else none
    | none=>none
theorem callF_1  {P zu1 zu2 zu3}:callF P 0 zu1 zu2 zu3=(none):=rfl
theorem callF_2  {P d f vs H}:callF P (d+1) f vs H=(match P.fns[f]? with
    | some fi=>if vs.length=fi.np then(match exB P (callF P d) fi.body (vs.map some++List.replicate (fi.ns - fi.np) none) H with
      | some (.ret v,_,H)=>some (v,H)
      | some (.next,_,H)=>some (.none,H)
      | _=>none) else none
    | none=>none):=rfl
end Mine
namespace Mine
inductive LE0 where
  | n (k:Nat) | v (i:Nat) | a (x y:LE0) | m (k:Nat) (x:LE0) | r (x:LE0) (k:Nat)
inductive LF0 where
  | z | c (k:Nat) (x y:LE0) (r:LF0)
noncomputable def gtN:List Nat→Nat→Nat
  | [],_=>0
  | x::_,0=>x
  | _::r,i+1=>gtN r i
noncomputable def LE0.ev (p:List Nat):LE0→Nat
  | .n k=>k
  | .v i=>gtN p i
  | .a x y=>x.ev p+y.ev p
  | .m k x=>k * x.ev p
  | .r x k=>x.ev p * k
noncomputable def LF0.den (p:List Nat):LF0→Prop
  | .z=>False
  | .c _ x y r=>x.ev p≤y.ev p→r.den p
noncomputable def addc:List Nat→Nat→Nat→List Nat
  | [],0,k=>[k]
  | [],i+1,k=>0::addc [] i k
  | c::r,0,k=>(c+k)::r
  | c::r,i+1,k=>c::addc r i k
noncomputable def acE (s:Nat):LE0→List Nat→Nat→(List Nat→Nat→Bool)→Bool
  | .n k,p,c,f=>f p (c+s * k)
  | .v i,p,c,f=>f (addc p i s) c
  | .a x y,p,c,f=>acE s x p c fun p c=>acE s y p c f
  | .m k x,p,c,f=>acE (s * k) x p c f
  | .r x k,p,c,f=>acE (s * k) x p c f
noncomputable def le2:List Nat→List Nat→Bool
  | [],_=>true
  | c::r,[]=>Nat.beq c 0 && le2 r []
  | c::r,d::s=>Nat.ble c d && le2 r s
noncomputable def chkF:LF0→List Nat→Nat→List Nat→Nat→Bool
  | .z,l,a,r,b=>le2 r l && Nat.ble (b+1) a
  | .c k x y f,l,a,r,b=>acE k x l a fun l a=>acE k y r b fun r b=>chkF f l a r b
noncomputable def pvN:List Nat→List Nat→Nat
  | [],_=>0
  | _::_,[]=>0
  | c::r,x::p=>c * x+pvN r p
theorem pvN_nil:∀ r,pvN r [] = 0
  | []=>rfl
  | _::_=>rfl
theorem addc_pv:∀(q:List Nat) (i k:Nat) (p:List Nat),pvN (addc q i k) p=pvN q p+k * gtN p i
  | [],0,k,[]=>rfl
  | [],0,k,x::p=>by show k * x+0=0+k * x; omega
  | [],i+1,k,[]=>rfl
  | [],i+1,k,x::p=>by
    show 0 * x+pvN (addc [] i k) p=0+k * gtN p i
    rw [addc_pv [] i k p,Nat.zero_mul,Nat.zero_add]; rfl
  | c::r,0,k,[]=>rfl
  | c::r,0,k,x::p=>by
    show(c+k) * x+pvN r p=c * x+pvN r p+k * x
    rw [Nat.add_mul]; omega
  | c::r,i+1,k,[]=>rfl
  | c::r,i+1,k,x::p=>by
    show c * x+pvN (addc r i k) p=c * x+pvN r p+k * gtN p i
    rw [addc_pv r i k p,Nat.add_assoc]
theorem acE_ok {p:List Nat}:∀(e:LE0) (s:Nat) (q:List Nat) (c:Nat) (f:List Nat→Nat→Bool),acE s e q c f=true→∃ q' c',f q' c'=true∧pvN q' p+c'=pvN q p+c+s * e.ev p
  | .n k,s,q,c,f,h=>⟨q,c+s * k,h,(Nat.add_assoc ..).symm⟩
  | .v i,s,q,c,f,h=>⟨addc q i s,c,h,by rw [addc_pv]; show _=_+s * gtN p i; omega⟩
  | .a x y,s,q,c,f,h=>by
    obtain⟨q1,c1,h1,e1⟩:=acE_ok (p:=p) x s q c _ h
    obtain⟨q2,c2,h2,e2⟩:=acE_ok (p:=p) y s q1 c1 _ h1
    refine⟨q2,c2,h2,?_⟩
    show _=_+s * (x.ev p+y.ev p)
    rw [Nat.mul_add]; omega
  | .m k x,s,q,c,f,h=>by
    obtain⟨q1,c1,h1,e1⟩:=acE_ok (p:=p) x (s * k) q c _ h
    refine⟨q1,c1,h1,e1.trans ?_⟩
    show _=_+s * (k * x.ev p)
    rw [Nat.mul_assoc]
  | .r x k,s,q,c,f,h=>by
    obtain⟨q1,c1,h1,e1⟩:=acE_ok (p:=p) x (s * k) q c _ h
    refine⟨q1,c1,h1,e1.trans ?_⟩
    show _=_+s * (x.ev p * k)
    rw [Nat.mul_comm (x.ev p) k,Nat.mul_assoc]
theorem le2_pv:∀(r l:List Nat),le2 r l=true→∀ p,pvN r p≤pvN l p
  | [],l,_,p=>Nat.zero_le _
  | c::r,l,_,[]=>Nat.zero_le _
  | c::r,[],h,x::p=>by
    obtain⟨h1,h2⟩:=Bool.and_eq_true_iff.mp h
    have:=le2_pv r [] h2 p
    rw [Nat.eq_of_beq_eq_true h1]
    show 0 * x+pvN r p≤0
    rw [Nat.zero_mul,Nat.zero_add]; exact this
  | c::r,d::l,h,x::p=>by
    obtain⟨h1,h2⟩:=Bool.and_eq_true_iff.mp h
    exact Nat.add_le_add (Nat.mul_le_mul_right x (Nat.le_of_ble_eq_true h1)) (le2_pv r l h2 p)
theorem chk_ok {p:List Nat}:∀(f:LF0) (l:List Nat) (a:Nat) (r:List Nat) (b:Nat),chkF f l a r b=true→pvN l p+a≤pvN r p+b→f.den p
  | .z,l,a,r,b,h,e=>by
    obtain⟨h1,h2⟩:=Bool.and_eq_true_iff.mp h
    have h3:=le2_pv r l h1 p
    have h4:=Nat.le_of_ble_eq_true h2
    show False
    omega
  | .c k x y f,l,a,r,b,h,e=>fun hx=>by
    obtain⟨l',a',h1,e1⟩:=acE_ok (p:=p) x k l a _ h
    obtain⟨r',b',h2,e2⟩:=acE_ok (p:=p) y k r b _ h1
    have:=Nat.mul_le_mul_left k hx
    exact chk_ok f l' a' r' b' h2 (by omega)
theorem lin (p:List Nat) (f:LF0) (h:chkF f [] 0 [] 0=true):f.den p:=chk_ok f [] 0 [] 0 h (Nat.le_refl _)
noncomputable def eqE (x y:LE0):Bool:=chkF (.c 1 (.a x (.n 1)) y .z) [] 0 [] 0 && chkF (.c 1 (.a y (.n 1)) x .z) [] 0 [] 0
theorem lnq (p:List Nat) (x y:LE0) (h:eqE x y=true):x.ev p=y.ev p :=
  Nat.le_antisymm (Nat.not_lt.mp (lin p _ (Bool.and_eq_true_iff.mp h).2)) (Nat.not_lt.mp (lin p _ (Bool.and_eq_true_iff.mp h).1))
end Mine
namespace Mine
noncomputable def NMS:List Str:=(["orders","pc","at","named","marks","calls","subject","host","history","values","limit","refused","width","steps","log","kind","owner","key","node","tree","number","told"]:List String).map Str.ofString
noncomputable def MMS:List Str:=(["__init__","emit","put","begun","choice","repeat","bound","copied","run","way_back","done","met_once","ended","other","met_often","asked","value_of","assign","step"]:List String).map Str.ofString
noncomputable def CLSN:List Str:=(["PatternCode","NameRef","Way","Match","PlainHost","Failure","Pattern","Delayed","SnobolError"]:List String).map Str.ofString
noncomputable def nmOf (a:Nat):Str:=NMS.getD a Str.empty
noncomputable def mmOf (a:Nat):Str:=MMS.getD (a - 100) Str.empty
noncomputable abbrev Sl:=List (Option (Str×Bool))
noncomputable abbrev Nms:=List (Str×NameKind)
noncomputable def kOf (c:Bool):NameKind:=if c then .cell else .local
noncomputable def isBad:ME→Bool
  | .bad=>true
  | _=>false
set_option genCtorIdx false in
inductive GV where
  | fn (k:Nat) | val (v:V) | cls (c:Nat) | pr (p:Pr) | isi | typ (k:IK)
noncomputable def kindIs (k l:NameKind):Bool:=match k,l with
  | .local,.local=>true
  | .cell,.cell=>true
  | .free,.free=>true
  | .globalImplicit,.globalImplicit=>true
  | _,_=>false
noncomputable def nkOf (x:Str):Nms→Option NameKind
  | []=>none
  | (y,k)::r=>if x == y then some k else nkOf x r
theorem nkOf_1  {x}:nkOf x ([])=(none):=rfl
theorem nkOf_2  {x y k r}:nkOf x ((y,k)::r)=(if x == y then some k else nkOf x r):=rfl
noncomputable def isLoc (nm:Nms) (sl:Sl) (i:Nat) (x:Str):Bool:=match sl[i]? with
  | some (some (y,c))=>x == y && (match nkOf x nm with | some k=>kindIs k (kOf c) | none=>false)
  | _=>false
noncomputable def isGlob (nm:Nms) (x:Str):Bool:=match nkOf x nm with | some k=>kindIs k .globalImplicit | none=>false
mutual
noncomputable def sameV:V→V→Bool
  | .none,.none=>true
  | .bool a,.bool b=>a == b
  | .int a,.int b=>a == b
  | .str a,.str b=>a == b
  | .fn a,.fn b=>a == b
  | .tup a,.tup b=>sameVs a b
  | _,_=>false
noncomputable def sameVs:List V→List V→Bool
  | [],[]=>true
  | a::r,b::t=>sameV a b && sameVs r t
  | _,_=>false
end
noncomputable def litC (v:V) (c:Const):Bool:=match v with
  | .none=>(match c with | .none=>true | _=>false)
  | .bool a=>(match c with | .bool b=>a == b | _=>false)
  | .int a=>(match c with | .int b=>a == b | _=>false)
  | .str a=>(match c with | .str b=>a == b.cps.toList && decide (a.length≤1000) | _=>false)
  | _=>false
noncomputable def opIs (o:BOp) (p:Operator):Bool:=match o,p with
  | .add,.Add=>true
  | .sub,.Sub=>true
  | .mul,.Mult=>true
  | .fdiv,.FloorDiv=>true
  | .mod,.Mod=>true
  | _,_=>false
noncomputable def copIs (o:COp) (p:CmpOp):Bool:=match o,p with
  | .eq,.Eq=>true
  | .ne,.NotEq=>true
  | .lt,.Lt=>true
  | .le,.LtE=>true
  | .gt,.Gt=>true
  | .ge,.GtE=>true
  | .is,.Is=>true
  | .isnot,.IsNot=>true
  | .isin,.In=>true
  | .notin,.NotIn=>true
  | _,_=>false
noncomputable def bmName:BM→Str
  | .append=>Str.ofString "append"
  | .pop=>Str.ofString "pop"
  | .extend=>Str.ofString "extend"
  | .reverse=>Str.ofString "reverse"
  | .join=>Str.ofString "join"
  | .replace=>Str.ofString "replace"
  | .startswith=>Str.ofString "startswith"
  | .lstrip=>Str.ofString "lstrip"
  | .split=>Str.ofString "split"
  | .get=>Str.ofString "get"
noncomputable def prName:Pr→Str
  | .len=>Str.ofString "len"
  | .abs=>Str.ofString "abs"
  | .int=>Str.ofString "int"
  | .chr=>Str.ofString "chr"
  | .ord=>Str.ofString "ord"
  | .list=>Str.ofString "list"
  | .range=>Str.ofString "range"
  | .min=>Str.ofString "min"
  | .str=>Str.ofString "str"
noncomputable def ikName:IK→Str
  | .int=>Str.ofString "int"
  | .str=>Str.ofString "str"
  | .tuple=>Str.ofString "tuple"
  | .cls k=>CLSN.getD k Str.empty
noncomputable def noneLit:ME→Bool
  | .lit .none=>true
  | _=>false
noncomputable def e0:Expr:=.Constant .none 0 default
structure XV where
  w:Expr
  t:Nat
  p:Pos
  a:Expr
  b:Expr
  d:Expr
  n:Nat
  s:Str
  l:List Expr
  bo:BoolOp
  op:Operator
  uo:UnaryOp
  ks:List (Option Expr)
  gs:List Comprehension
  sc:Scope
  co:List CmpOp
  kw:List Keyword
  c:Const
  o1:Option Expr
  o2:Option Expr
  o3:Option Expr
noncomputable def X0 (x:Expr) (t:Nat) (p:Pos):XV:=⟨x,t,p,e0,e0,e0,0,default,[],default,default,default,[],[],default,[],[],.none,none,none,none⟩
noncomputable def xv (x:Expr):XV:=match x with
  | .BoolOp a b c=>{ X0 x 0 c with bo:=a,l:=b }
  | .BinOp a b c d=>{ X0 x 1 d with a:=a,op:=b,b:=c }
  | .UnaryOp a b c=>{ X0 x 2 c with uo:=a,a:=b }
  | .IfExp a b c d=>{ X0 x 3 d with a:=a,b:=b,d:=c }
  | .Dict a b c=>{ X0 x 4 c with ks:=a,l:=b }
  | .ListComp a b c d=>{ X0 x 5 d with a:=a,gs:=b,sc:=c }
  | .Compare a b c d=>{ X0 x 6 d with a:=a,co:=b,l:=c }
  | .Call a b c d=>{ X0 x 7 d with a:=a,l:=b,kw:=c }
  | .Constant a b c=>{ X0 x 8 c with c:=a,n:=b }
  | .Attribute a b c=>{ X0 x 9 c with a:=a,s:=b }
  | .Subscript a b c=>{ X0 x 10 c with a:=a,b:=b }
  | .Name a b=>{ X0 x 11 b with s:=a }
  | .List a b=>{ X0 x 12 b with l:=a }
  | .Tuple a b c=>{ X0 x 13 c with l:=a,n:=b }
  | .Slice a b c d=>{ X0 x 14 d with o1:=a,o2:=b,o3:=c }
  | .Starred ..=>X0 x 20 default
  | .Set ..=>X0 x 21 default
  | _=>X0 x 99 default
noncomputable def XV.back (v:XV) (n:Nat):Expr :=
  ([.BoolOp v.bo v.l v.p,.BinOp v.a v.op v.b v.p,.UnaryOp v.uo v.a v.p,.IfExp v.a v.b v.d v.p,.Dict v.ks v.l v.p,.ListComp v.a v.gs v.sc v.p,.Compare v.a v.co v.l v.p,.Call v.a v.l v.kw v.p,.Constant v.c v.n v.p,
    .Attribute v.a v.s v.p,.Subscript v.a v.b v.p,.Name v.s v.p,.List v.l v.p,.Tuple v.l v.n v.p,.Slice v.o1 v.o2 v.o3 v.p]:List Expr).getD n v.w
theorem xv_ok (x:Expr):(xv x).back (xv x).t=x:=by cases x <;> rfl
theorem inv {x:Expr} {n:Nat} {P:Expr→Prop} (h:Nat.beq (xv x).t n=true) (k:P ((xv x).back n)):P x:=by
  have e:=xv_ok x
  rw [Nat.eq_of_beq_eq_true h] at e
  exact e▸k
noncomputable def onBoolOp (v:XV) (f:BoolOp→List Expr→Pos→Bool):Bool:=Nat.beq v.t 0 && f v.bo v.l v.p
noncomputable def onBinOp (v:XV) (f:Expr→Operator→Expr→Pos→Bool):Bool:=Nat.beq v.t 1 && f v.a v.op v.b v.p
noncomputable def onUnaryOp (v:XV) (f:UnaryOp→Expr→Pos→Bool):Bool:=Nat.beq v.t 2 && f v.uo v.a v.p
noncomputable def onIfExp (v:XV) (f:Expr→Expr→Expr→Pos→Bool):Bool:=Nat.beq v.t 3 && f v.a v.b v.d v.p
noncomputable def onDict (v:XV) (f:List (Option Expr)→List Expr→Pos→Bool):Bool:=Nat.beq v.t 4 && f v.ks v.l v.p
noncomputable def onListComp (v:XV) (f:Expr→List Comprehension→Scope→Pos→Bool):Bool:=Nat.beq v.t 5 && f v.a v.gs v.sc v.p
noncomputable def onCompare (v:XV) (f:Expr→List CmpOp→List Expr→Pos→Bool):Bool:=Nat.beq v.t 6 && f v.a v.co v.l v.p
noncomputable def onCall (v:XV) (f:Expr→List Expr→List Keyword→Pos→Bool):Bool:=Nat.beq v.t 7 && f v.a v.l v.kw v.p
noncomputable def onConstant (v:XV) (f:Const→Nat→Pos→Bool):Bool:=Nat.beq v.t 8 && f v.c v.n v.p
noncomputable def onAttribute (v:XV) (f:Expr→Str→Pos→Bool):Bool:=Nat.beq v.t 9 && f v.a v.s v.p
noncomputable def onSubscript (v:XV) (f:Expr→Expr→Pos→Bool):Bool:=Nat.beq v.t 10 && f v.a v.b v.p
noncomputable def onName (v:XV) (f:Str→Pos→Bool):Bool:=Nat.beq v.t 11 && f v.s v.p
noncomputable def onList (v:XV) (f:List Expr→Pos→Bool):Bool:=Nat.beq v.t 12 && f v.l v.p
noncomputable def onTuple (v:XV) (f:List Expr→Nat→Pos→Bool):Bool:=Nat.beq v.t 13 && f v.l v.n v.p
noncomputable def onSlice (v:XV) (f:Option Expr→Option Expr→Option Expr→Pos→Bool):Bool:=Nat.beq v.t 14 && f v.o1 v.o2 v.o3 v.p
structure SV where
  w:Stmt
  t:Nat
  p:Pos
  a:Expr
  b:Expr
  o:Option Expr
  ts:List Expr
  op:Operator
  y:List Stmt
  z:List Stmt
noncomputable def S0 (x:Stmt) (t:Nat) (p:Pos):SV:=⟨x,t,p,e0,e0,none,[],default,[],[]⟩
noncomputable def sv (x:Stmt):SV:=match x with
  | .Expr a b=>{ S0 x 0 b with a:=a }
  | .Return a b=>{ S0 x 1 b with o:=a }
  | .Assign a b c=>{ S0 x 2 c with ts:=a,a:=b }
  | .AugAssign a b c d=>{ S0 x 3 d with a:=a,op:=b,b:=c }
  | .If a b c d=>{ S0 x 4 d with a:=a,y:=b,z:=c }
  | .While a b c d=>{ S0 x 5 d with a:=a,y:=b,z:=c }
  | .For a b c d e=>{ S0 x 6 e with a:=a,b:=b,y:=c,z:=d }
  | .Break a=>S0 x 7 a
  | .Continue a=>S0 x 8 a
  | _=>S0 x 99 default
noncomputable def SV.back (v:SV) (n:Nat):Stmt :=
  ([.Expr v.a v.p,.Return v.o v.p,.Assign v.ts v.a v.p,.AugAssign v.a v.op v.b v.p,.If v.a v.y v.z v.p,.While v.a v.y v.z v.p,.For v.a v.b v.y v.z v.p,.Break v.p,.Continue v.p]:List Stmt).getD n v.w
theorem sv_ok (x:Stmt):(sv x).back (sv x).t=x:=by cases x <;> rfl
theorem invS {x:Stmt} {n:Nat} {P:Stmt→Prop} (h:Nat.beq (sv x).t n=true) (k:P ((sv x).back n)):P x:=by
  have e:=sv_ok x
  rw [Nat.eq_of_beq_eq_true h] at e
  exact e▸k
noncomputable def onSExpr (v:SV) (f:Expr→Pos→Bool):Bool:=Nat.beq v.t 0 && f v.a v.p
noncomputable def onSReturn (v:SV) (f:Option Expr→Pos→Bool):Bool:=Nat.beq v.t 1 && f v.o v.p
noncomputable def onSAssign (v:SV) (f:List Expr→Expr→Pos→Bool):Bool:=Nat.beq v.t 2 && f v.ts v.a v.p
noncomputable def onSAugAssign (v:SV) (f:Expr→Operator→Expr→Pos→Bool):Bool:=Nat.beq v.t 3 && f v.a v.op v.b v.p
noncomputable def onSIf (v:SV) (f:Expr→List Stmt→List Stmt→Pos→Bool):Bool:=Nat.beq v.t 4 && f v.a v.y v.z v.p
noncomputable def onSWhile (v:SV) (f:Expr→List Stmt→List Stmt→Pos→Bool):Bool:=Nat.beq v.t 5 && f v.a v.y v.z v.p
noncomputable def onSFor (v:SV) (f:Expr→Expr→List Stmt→List Stmt→Pos→Bool):Bool:=Nat.beq v.t 6 && f v.a v.b v.y v.z v.p
noncomputable def onSBreak (v:SV) (f:Pos→Bool):Bool:=Nat.beq v.t 7 && f v.p
noncomputable def onSContinue (v:SV) (f:Pos→Bool):Bool:=Nat.beq v.t 8 && f v.p
noncomputable def notStar (e:Expr):Bool:=!(Nat.beq (xv e).t 20)
noncomputable def notSet (e:Expr):Bool:=!(Nat.beq (xv e).t 21)
noncomputable def notSuper:Expr→Bool
  | .Call (.Name _ _) [] [] _=>false
  | _=>true
noncomputable def notComp:Expr→Bool
  | .ListComp ..=>false
  | .SetComp ..=>false
  | .DictComp ..=>false
  | _=>true
noncomputable def isStarred:Expr→Bool
  | .Starred ..=>true
  | _=>false
noncomputable def locName (nm:Nms) (line:Nat):Expr→Option Str
  | .Name id pos=>if nm.lookup id == some .local && pos.line == line then some id else none
  | _=>none
noncomputable def casc (c1 c2 c3 c4 c5:Bool) (g:List Str):Option (Option (List Str)):=bif c1 then some none else bif c2 then some none else bif c3 then some none else bif c4 then some none else bif c5 then none else some (some g)
noncomputable def tupQ (nm:Nms) (ts vs:List Expr):Option (Option (List Str)) :=
  let g:=ts.filterMap (locName nm ((ts.head?.map (·.pos.line)).getD 0))
  casc (!(ts.length == 2 || ts.length == 3) || vs.length != ts.length) (vs.any isStarred) (g.length != ts.length || g.eraseDups.length != g.length) (vs.all (foldedForSure 8)) (vs.all (constantsAlone 8)) g
noncomputable def swpQ (nm:Nms) (y x:Expr):Option (Option (List Str)):=match y with
  | .Tuple ts _ _=>(match x with | .Tuple vs _ _=>tupQ nm ts vs | _=>some none)
  | .List ..=>none
  | _=>some none
noncomputable def isSlice:Expr→Bool
  | .Slice ..=>true
  | _=>false
noncomputable def ownNm (nm out:Nms):Nms:=nm.map fun(n,k)=>if kindIs k .free && (match nkOf n out with | some k'=>kindIs k' .cell | none=>false) then(n,.cell) else(n,k)
noncomputable def hideSl (sl:Sl) (nm:Nms):Sl:=sl.map fun s=>match s with
  | some (x,true)=>if(match nkOf x nm with | some k=>kindIs k .free | none=>false) then some (x,true) else none
  | _=>none
noncomputable def innerSl:Nms→Sl
  | []=>[]
  | (x,k)::r=>if kindIs k .local && !(x == (Str.ofString ".0")) then some (x,false)::innerSl r else innerSl r
theorem innerSl_1 :innerSl ([])=([]):=rfl
theorem innerSl_2  {x k r}:innerSl ((x,k)::r)=(if kindIs k .local && !(x == (Str.ofString ".0")) then some (x,false)::innerSl r else innerSl r):=rfl
noncomputable def strIn (x:Str):List Str→Bool
  | []=>false
  | y::r=>x == y || strIn x r
theorem strIn_1  {x}:strIn x ([])=(false):=rfl
theorem strIn_2  {x y r}:strIn x (y::r)=(x == y || strIn x r):=rfl
noncomputable def ndStr:List Str→Bool
  | []=>true
  | x::r=>!strIn x r && ndStr r
theorem ndStr_1 :ndStr ([])=(true):=rfl
theorem ndStr_2  {x r}:ndStr (x::r)=(!strIn x r && ndStr r):=rfl
noncomputable def ctGo (nm:Nms) (sl:Sl):List Nat→List Expr→Bool
  | [],es=>(match es with | []=>true | _=>false)
  | i::is,es=>(match es with | e::r=>(onName (xv e) fun x _=>isLoc nm sl i x && ctGo nm sl is r) | []=>false)
theorem ctGo_1  {nm sl es}:ctGo nm sl ([]) es=((match es with | []=>true | _=>false)):=rfl
theorem ctGo_2  {nm sl i is es}:ctGo nm sl (i::is) es=((match es with | e::r=>(onName (xv e) fun x _=>isLoc nm sl i x && ctGo nm sl is r) | []=>false)):=rfl
noncomputable def ctIs (nm:Nms) (sl:Sl) (t:CT) (e:Expr):Bool:=match t with
  | .one i=>(onName (xv e) fun x _=>isLoc nm sl i x)
  | .many is=>(onTuple (xv e) fun es _ _=>ctGo nm sl is es)
noncomputable def flagF (sl:Sl) (i:Nat):Bool:=match sl[i]? with | some (some (_,false))=>true | _=>false
noncomputable def ctIn (sl:Sl):CT→Bool
  | .one i=>flagF sl i
  | .many is=>is.all (flagF sl)
noncomputable def noDbg:Nms→Bool
  | []=>true
  | (x,_)::r=>!(x == (Str.ofString "__debug__")) && noDbg r
theorem noDbg_1 :noDbg ([])=(true):=rfl
theorem noDbg_2  {x zu1 r}:noDbg ((x,zu1)::r)=(!(x == (Str.ofString "__debug__")) && noDbg r):=rfl
noncomputable def kindIs0 (sc:Scope):Bool:=noDbg sc.names &&  (match sc.kind with | .function=>true | _=>false) && !sc.isGenerator && !sc.isCoroutine
noncomputable def hasSl (sl:Sl) (x:Str):Bool:=sl.any fun z=>match z with | some (y,true)=>y == x | _=>false
noncomputable def frees:Nms→Nms→Sl→Bool
  | [],_,_=>true
  | (x,k)::r,nm,sl=>(match k with
    | .local=>true
    | .globalImplicit=>true
    | .free=>(match nkOf x nm with | some k'=>kindIs k' .cell | none=>false) && hasSl sl x
    | _=>false) && frees r nm sl
theorem frees_1  {zu1 zu2}:frees ([]) zu1 zu2=(true):=rfl
theorem frees_2  {x k r nm sl}:frees ((x,k)::r) nm sl=((match k with
    | .local=>true
    | .globalImplicit=>true
    | .free=>(match nkOf x nm with | some k'=>kindIs k' .cell | none=>false) && hasSl sl x
    | _=>false) && frees r nm sl):=rfl
section
variable (G:Str→Option GV)
noncomputable def isLocs (nm:Nms) (sl:Sl):List Nat→List Str→Bool
  | [],ns=>(match ns with | []=>true | _=>false)
  | i::is,ns=>(match ns with | n::ns=>isLoc nm sl i n && isLocs nm sl is ns | []=>false)
theorem isLocs_1  {nm sl ns}:isLocs nm sl ([]) ns=((match ns with | []=>true | _=>false)):=rfl
theorem isLocs_2  {nm sl i is ns}:isLocs nm sl (i::is) ns=((match ns with | n::ns=>isLoc nm sl i n && isLocs nm sl is ns | []=>false)):=rfl
noncomputable def locOf (t:Tg):Option Nat:=match t with | .loc i=>some i | _=>none
noncomputable def swTs (nm:Nms) (sl:Sl) (ts:List Tg) (ns:List Str):Bool:=match ts with
  | []=>false
  | t::ts=>(match locOf t with
    | none=>false
    | some i=>(match ts with
      | []=>false
      | t::ts=>(match locOf t with
        | none=>false
        | some j=>(match ts with
          | []=>isLocs nm sl [i,j] ns
          | t::ts=>(match locOf t with
            | none=>false
            | some k=>(match ts with | []=>isLocs nm sl [i,j,k] ns | _=>false))))))
noncomputable def swOk (nm:Nms) (sl:Sl) (t:Tg) (r:Option (Option (List Str))):Bool:=match r with
  | some r=>(match r with
    | none=>true
    | some ns=>(match t with | .tup ts=>swTs nm sl ts ns | _=>false))
  | none=>false
noncomputable def isiP (g:GV):Bool:=match g with
  | .isi=>true
  | _=>false
noncomputable def ikP (k:IK) (g:GV):Bool:=match g with
  | .cls j=>(match k with | .cls i=>i == j | _=>false)
  | .pr _=>(match k with | .int=>true | .str=>true | _=>false)
  | .typ _=>(match k with | .tuple=>true | _=>false)
  | _=>false
noncomputable def globP (v:V) (g:GV):Bool:=match g with
  | .fn k=>(match v with | .fn j=>k == j | _=>false)
  | .val u=>sameV u v
  | _=>false
noncomputable def gIs (nm:Nms) (x:Str) (p:GV→Bool):Bool:=isGlob nm x && (match G x with | some g=>p g | none=>false)
noncomputable def on1L {α:Type} (l:List α) (f:α→Bool):Bool:=match l with | []=>false | a::r=>(match r with | []=>f a | _::_=>false)
noncomputable def on2L {α:Type} (l:List α) (f:α→α→Bool):Bool:=match l with | []=>false | a::r=>on1L r (f a)
noncomputable def on0L {α:Type} (l:List α) (b:Bool):Bool:=match l with | []=>b | _::_=>false
mutual
noncomputable def chE:ME→Nms→Sl→Expr→Bool
  | .bad,_,_,_=>true
  | .lit v,_,_,e=>(onConstant (xv e) fun c _ _=>litC v c)
  | .loc i,nm,sl,e=>(onName (xv e) fun x _=>isLoc nm sl i x)
  | .glob v,nm,_,e=>(onName (xv e) fun x _=>gIs G nm x (globP v))
  | .tup es,nm,sl,e=>(onTuple (xv e) fun xs _ _=>decide (es.length≤100) && chL es nm sl xs)
  | .lst es,nm,sl,e=>(onList (xv e) fun xs _=>decide (es.length≤100) && chL es nm sl xs)
  | .dict es,nm,sl,e=>(onDict (xv e) fun ks vs _=>decide (vs.length≤15) && chD es nm sl ks vs)
  | .attr o a,nm,sl,e=>(onAttribute (xv e) fun x n _=>n == nmOf a && decide (a<22) && notSuper x && chE o nm sl x)
  | .idx o i,nm,sl,e=>(onSubscript (xv e) fun x s _=>!isSlice s && chE o nm sl x && chE i nm sl s)
  | .slice o lo hi st,nm,sl,e=>(onSubscript (xv e) fun x y _=>(onSlice (xv y) fun l u s _=>chE o nm sl x && (match l with | some l=>chE lo nm sl l && !noneLit lo | none=>noneLit lo) &&
        (match u with | some u=>chE hi nm sl u && !noneLit hi | none=>noneLit hi) && (match s with | some s=>chE st nm sl s && !noneLit st | none=>noneLit st)))
  | .bin op a b,nm,sl,e=>(onBinOp (xv e) fun x o y _=>opIs op o && chE a nm sl x && chE b nm sl y)
  | .neg a,nm,sl,e=>(onUnaryOp (xv e) fun o x _=>(match o with | .USub=>chE a nm sl x | _=>false))
  | .not a,nm,sl,e=>(onUnaryOp (xv e) fun o x _=>(match o with | .Not=>chE a nm sl x | _=>false))
  | .cmp op a b,nm,sl,e=>(onCompare (xv e) fun x os ys _=>on1L os fun o=>on1L ys fun y=>copIs op o && notSet y && chE a nm sl x && chE b nm sl y)
  | .and es,nm,sl,e=>(onBoolOp (xv e) fun o xs _=>(match o with | .And=>decide (2≤xs.length) && chL es nm sl xs | _=>false))
  | .or es,nm,sl,e=>(onBoolOp (xv e) fun o xs _=>(match o with | .Or=>decide (2≤xs.length) && chL es nm sl xs | _=>false))
  | .ife t a b,nm,sl,e=>(onIfExp (xv e) fun x y z _=>chE t nm sl x && chE a nm sl y && chE b nm sl z)
  | .call f es,nm,sl,e=>(onCall (xv e) fun f0 xs ks _=>(onName (xv f0) fun x p=>on0L ks (chE f nm sl (.Name x p) && chL es nm sl xs)))
  | .new c es,nm,sl,e=>(onCall (xv e) fun f0 xs ks _=>(onName (xv f0) fun x _=>on0L ks (decide (c<5) && gIs G nm x (fun g=>match g with | .cls k=>k == c | _=>false) && chL es nm sl xs)))
  | .meth o m es,nm,sl,e=>(onCall (xv e) fun f0 xs ks p=>(onAttribute (xv f0) fun x n ap=>on0L ks (n == mmOf m && decide (100≤m∧m<119) && decide (xs.length<20) && (ap.endLine == p.line) && notSuper x && chE o nm sl x && chL es nm sl xs)))
  | .bmeth o m es,nm,sl,e=>(onCall (xv e) fun f0 xs ks p=>(onAttribute (xv f0) fun x n ap=>on0L ks (n == bmName m && decide (xs.length<20) && (ap.endLine == p.line) && notSuper x && chE o nm sl x && chL es nm sl xs)))
  | .prim p es,nm,sl,e=>(onCall (xv e) fun f0 xs ks _=>(onName (xv f0) fun x _=>on0L ks (x == prName p && gIs G nm x (fun g=>match g with | .pr _=>true | _=>false) && chL es nm sl xs)))
  | .isin o k,nm,sl,e=>(onCall (xv e) fun f0 xs ks _=>(onName (xv f0) fun x _=>on0L ks (on2L xs fun y w=>(onName (xv w) fun z _=>gIs G nm x isiP && z == ikName k && gIs G nm z (ikP k) && notStar y && chE o nm sl y))))
  | .comp elt src t k cs,nm,sl,e=>(onListComp (xv e) fun x gs sc _=>(match gs with | [⟨tg,it,ifs,0⟩]=>notSet it && chE src nm sl it && (let nm':=ownNm sc.names nm; let sl':=hideSl sl sc.names++innerSl sc.names
        decide ((innerSl sc.names).length=k) && kindIs0 sc && ctIn sl' t && ctIs nm' sl' t tg && chL cs nm' sl' ifs && chE elt nm' sl' x && ndStr (sc.names.map (·.1)) && frees sc.names nm sl) | _=>false))
noncomputable def chL:List ME→Nms→Sl→List Expr→Bool
  | [],_,_,xs=>(match xs with | []=>true | _=>false)
  | e::r,nm,sl,xs=>(match xs with | x::ys=>notStar x && chE e nm sl x && chL r nm sl ys | []=>false)
noncomputable def chD:List ME→Nms→Sl→List (Option Expr)→List Expr→Bool
  | [],_,_,ks,vs=>(match ks with | []=>(match vs with | []=>true | _=>false) | _=>false)
  | [_],_,_,_,_=>false
  | k::v::r,nm,sl,ks,vs=>(match ks with | x::ks=>(match x with | some x=>(match vs with | y::vs=>chE k nm sl x && chE v nm sl y && chD r nm sl ks vs | _=>false) | _=>false) | _=>false)
end
theorem chL_1  {zu1 zu2 xs}:chL G ([]) zu1 zu2 xs=((match xs with | []=>true | _=>false)):=rfl
theorem chL_2  {e r nm sl xs}:chL G (e::r) nm sl xs=((match xs with | x::ys=>notStar x && chE G e nm sl x && chL G r nm sl ys | []=>false)):=rfl
mutual
noncomputable def chT:Tg→Nms→Sl→Expr→Bool
  | .loc i,nm,sl,e=>(onName (xv e) fun x _=>isLoc nm sl i x)
  | .attr o a,nm,sl,e=>(onAttribute (xv e) fun x n _=>n == nmOf a && decide (a<22) && chE G o nm sl x)
  | .idx o i,nm,sl,e=>(onSubscript (xv e) fun x s _=>!isSlice s && chE G o nm sl x && chE G i nm sl s)
  | .tup ts,nm,sl,e=>(onTuple (xv e) fun xs _ _=>chTs ts nm sl xs)
noncomputable def chTs:List Tg→Nms→Sl→List Expr→Bool
  | [],_,_,xs=>(match xs with | []=>true | _=>false)
  | t::r,nm,sl,xs=>(match xs with | x::ys=>chT t nm sl x && chTs r nm sl ys | []=>false)
end
noncomputable def isLocT (t:Tg):Bool:=match t with | .loc _=>true | _=>false
noncomputable def cmpS (nm:Nms) (y x:Expr) (t:Tg):Bool :=
  onName (xv y) fun n py=>onListComp (xv x) fun _ _ sc px=>isLocT t && (nm.lookup n == some .local && py.line == px.line && !(sc.names.any fun(z,k)=>z == n && (k == .local || k == .cell)))
noncomputable def asgS (nm:Nms) (sl:Sl) (t:Tg) (y x:Expr):Bool:=bif notComp x then swOk nm sl t (swpQ nm y x) else cmpS nm y x t
mutual
noncomputable def chS:MS→Nms→Sl→Stmt→Bool
  | .bad,_,_,_=>true
  | .expr e,nm,sl,s=>(onSExpr (sv s) fun x _=>notComp x && chE G e nm sl x)
  | .ret e,nm,sl,s=>(onSReturn (sv s) fun x _=>(match x with | some x=>chE G e nm sl x | _=>false))
  | .asg t e,nm,sl,s=>(onSAssign (sv s) fun ts x _=>(match ts with | y::r=>(match r with | []=>chT G t nm sl y && chE G e nm sl x && asgS nm sl t y x | _=>false) | []=>false))
  | .auga o a op e,nm,sl,s=>(onSAugAssign (sv s) fun z p y _=>(onAttribute (xv z) fun x n _=>opIs op p && n == nmOf a && decide (a<22) && notSuper x && chE G o nm sl x && chE G e nm sl y))
  | .ife t b o,nm,sl,s=>(onSIf (sv s) fun x y z _=>chE G t nm sl x && chB b nm sl y && chB o nm sl z)
  | .whl t b,nm,sl,s=>(onSWhile (sv s) fun x y o _=>on0L o (chE G t nm sl x && chB b nm sl y))
  | .for t e b,nm,sl,s=>(onSFor (sv s) fun y x z o _=>on0L o (ctIs nm sl t y && notSet x && chE G e nm sl x && chB b nm sl z))
  | .brk,_,_,s=>(onSBreak (sv s) fun _=>true)
  | .cont,_,_,s=>(onSContinue (sv s) fun _=>true)
noncomputable def chB:List MS→Nms→Sl→List Stmt→Bool
  | [],_,_,xs=>(match xs with | []=>true | _=>false)
  | s::r,nm,sl,xs=>(match xs with | x::ys=>chS s nm sl x && chB r nm sl ys | []=>false)
end
end
noncomputable def slotsOf:Nms→Sl
  | []=>[]
  | (x,k)::r=>match k with
    | .local=>some (x,false)::slotsOf r
    | .cell=>some (x,true)::slotsOf r
    | _=>slotsOf r
theorem slotsOf_1 :slotsOf ([])=([]):=rfl
theorem slotsOf_2  {x k r}:slotsOf ((x,k)::r)=(match k with
    | .local=>some (x,false)::slotsOf r
    | .cell=>some (x,true)::slotsOf r
    | _=>slotsOf r):=rfl
noncomputable def argsAre:List Arg→Sl→Bool
  | [],_=>true
  | a::r,some (x,_)::t=>a.arg == x && argsAre r t
  | _,_=>false
theorem argsAre_1  {zu1}:argsAre ([]) zu1=(true):=rfl
theorem argsAre_2  {a r x zu1 t}:argsAre (a::r) (some (x,zu1)::t)=(a.arg == x && argsAre r t):=rfl
noncomputable def badBody:List MS→Bool
  | [.bad]=>true
  | _=>false
noncomputable def chFd (G:Str→Option GV) (fi:FI) (fd:FuncData):Bool :=
  fd.params.posonlyargs.isEmpty && fd.params.vararg.isNone && fd.params.kwonlyargs.isEmpty && fd.params.kwarg.isNone && (match fd.defaults with | .none=>true | _=>false) &&
  fd.closure.isEmpty && fd.globals == mainGlobals && fd.builtins == builtinsNs && kindIs0 fd.scope && decide (fd.params.args.length=fi.np) && decide ((slotsOf fd.scope.names).length=fi.ns) &&
  argsAre fd.params.args (slotsOf fd.scope.names) && ndStr (fd.scope.names.map (·.1)) &&
  (match fd.body with | .stmts b=>chB G fi.body fd.scope.names (slotsOf fd.scope.names) b | _=>false)
noncomputable def chK (G:Str→Option GV) (K:Frag) (fi:FI) (a:Addr):Bool:=badBody fi.body || (match K.lookup a with
  | some ⟨_,_,.func fd,_⟩=>chFd G fi fd && codeIn K fd.code fd.qualname
  | _=>false)
end Mine
namespace Mine
theorem and2 {a b:Bool} (h:(a && b)=true):a=true∧b=true:=by
  cases a with
  | true=>exact⟨rfl,h⟩
  | false=>cases h
theorem and3_k {a b c:Bool} (h:(a && b && c)=true) {zg:Prop} (zk:(a=true)→(b=true)→(c=true)→zg):zg:=by
  exact zk ((and2 (and2 h).1).1) ((and2 (and2 h).1).2) ((and2 h).2)
theorem and3 {a b c:Bool} (h:(a && b && c)=true):a=true∧b=true∧c=true:=and3_k h fun zh1 zh2 zh3=>⟨zh1,zh2,zh3⟩
theorem and4_k {a b c d:Bool} (h:(a && b && c && d)=true) {zg:Prop} (zk:(a=true)→(b=true)→(c=true)→(d=true)→zg):zg:=by
  exact zk ((and2 (and2 (and2 h).1).1).1) ((and2 (and2 (and2 h).1).1).2) ((and2 (and2 h).1).2) ((and2 h).2)
theorem and4 {a b c d:Bool} (h:(a && b && c && d)=true):a=true∧b=true∧c=true∧d=true:=and4_k h fun zh1 zh2 zh3 zh4=>⟨zh1,zh2,zh3,zh4⟩
section
variable {G:Str→Option GV} {nm:Nms} {sl:Sl} {x:Expr} {zP:Expr→Prop}
@[elab_as_elim] theorem is_BoolOp_k {f:BoolOp→List Expr→Pos→Bool} (c:onBoolOp (xv x) f=true) (zk:∀ a b d,f a b d=true→zP (.BoolOp a b d)):zP x:=inv (n:=0) (P:=zP) (and2 c).1 (zk _ _ _ (and2 c).2)
@[elab_as_elim] theorem is_BinOp_k {f:Expr→Operator→Expr→Pos→Bool} (c:onBinOp (xv x) f=true) (zk:∀ a b d g,f a b d g=true→zP (.BinOp a b d g)):zP x:=inv (n:=1) (P:=zP) (and2 c).1 (zk _ _ _ _ (and2 c).2)
@[elab_as_elim] theorem is_UnaryOp_k {f:UnaryOp→Expr→Pos→Bool} (c:onUnaryOp (xv x) f=true) (zk:∀ a b d,f a b d=true→zP (.UnaryOp a b d)):zP x:=inv (n:=2) (P:=zP) (and2 c).1 (zk _ _ _ (and2 c).2)
@[elab_as_elim] theorem is_IfExp_k {f:Expr→Expr→Expr→Pos→Bool} (c:onIfExp (xv x) f=true) (zk:∀ a b d g,f a b d g=true→zP (.IfExp a b d g)):zP x:=inv (n:=3) (P:=zP) (and2 c).1 (zk _ _ _ _ (and2 c).2)
@[elab_as_elim] theorem is_Dict_k {f:List (Option Expr)→List Expr→Pos→Bool} (c:onDict (xv x) f=true) (zk:∀ a b d,f a b d=true→zP (.Dict a b d)):zP x:=inv (n:=4) (P:=zP) (and2 c).1 (zk _ _ _ (and2 c).2)
@[elab_as_elim] theorem is_ListComp_k {f:Expr→List Comprehension→Scope→Pos→Bool} (c:onListComp (xv x) f=true) (zk:∀ a b d g,f a b d g=true→zP (.ListComp a b d g)):zP x:=inv (n:=5) (P:=zP) (and2 c).1 (zk _ _ _ _ (and2 c).2)
@[elab_as_elim] theorem is_Compare_k {f:Expr→List CmpOp→List Expr→Pos→Bool} (c:onCompare (xv x) f=true) (zk:∀ a b d g,f a b d g=true→zP (.Compare a b d g)):zP x:=inv (n:=6) (P:=zP) (and2 c).1 (zk _ _ _ _ (and2 c).2)
@[elab_as_elim] theorem is_Call_k {f:Expr→List Expr→List Keyword→Pos→Bool} (c:onCall (xv x) f=true) (zk:∀ a b d g,f a b d g=true→zP (.Call a b d g)):zP x:=inv (n:=7) (P:=zP) (and2 c).1 (zk _ _ _ _ (and2 c).2)
@[elab_as_elim] theorem is_Constant_k {f:Const→Nat→Pos→Bool} (c:onConstant (xv x) f=true) (zk:∀ a b d,f a b d=true→zP (.Constant a b d)):zP x:=inv (n:=8) (P:=zP) (and2 c).1 (zk _ _ _ (and2 c).2)
@[elab_as_elim] theorem is_Attribute_k {f:Expr→Str→Pos→Bool} (c:onAttribute (xv x) f=true) (zk:∀ a b d,f a b d=true→zP (.Attribute a b d)):zP x:=inv (n:=9) (P:=zP) (and2 c).1 (zk _ _ _ (and2 c).2)
@[elab_as_elim] theorem is_Subscript_k {f:Expr→Expr→Pos→Bool} (c:onSubscript (xv x) f=true) (zk:∀ a b d,f a b d=true→zP (.Subscript a b d)):zP x:=inv (n:=10) (P:=zP) (and2 c).1 (zk _ _ _ (and2 c).2)
@[elab_as_elim] theorem is_Name_k {f:Str→Pos→Bool} (c:onName (xv x) f=true) (zk:∀ a b,f a b=true→zP (.Name a b)):zP x:=inv (n:=11) (P:=zP) (and2 c).1 (zk _ _ (and2 c).2)
@[elab_as_elim] theorem is_List_k {f:List Expr→Pos→Bool} (c:onList (xv x) f=true) (zk:∀ a b,f a b=true→zP (.List a b)):zP x:=inv (n:=12) (P:=zP) (and2 c).1 (zk _ _ (and2 c).2)
@[elab_as_elim] theorem is_Tuple_k {f:List Expr→Nat→Pos→Bool} (c:onTuple (xv x) f=true) (zk:∀ a b d,f a b d=true→zP (.Tuple a b d)):zP x:=inv (n:=13) (P:=zP) (and2 c).1 (zk _ _ _ (and2 c).2)
@[elab_as_elim] theorem is_Slice_k {f:Option Expr→Option Expr→Option Expr→Pos→Bool} (c:onSlice (xv x) f=true) (zk:∀ a b d g,f a b d g=true→zP (.Slice a b d g)):zP x:=inv (n:=14) (P:=zP) (and2 c).1 (zk _ _ _ _ (and2 c).2)
@[elab_as_elim] theorem ch_lit_k {v:V} (c:chE G (.lit v) nm sl x=true) (zk:∀ k y z,litC v k=true→zP (.Constant k y z)):zP x:=is_Constant_k (zP:=zP) (f:=fun k _ _=>litC v k) c zk
@[elab_as_elim] theorem ch_loc_k {i:Nat} (c:chE G (.loc i) nm sl x=true) (zk:∀ n p,isLoc nm sl i n=true→zP (.Name n p)):zP x:=is_Name_k (zP:=zP) (f:=fun n _=>isLoc nm sl i n) c zk
@[elab_as_elim] theorem ch_glob_k {v:V} (c:chE G (.glob v) nm sl x=true) (zk:∀ n p,gIs G nm n (globP v)=true→zP (.Name n p)):zP x:=is_Name_k (zP:=zP) (f:=fun n _=>gIs G nm n (globP v)) c zk
@[elab_as_elim] theorem ch_tup_k {es:List ME} (c:chE G (.tup es) nm sl x=true) (zk:∀ xs k p,es.length≤100→chL G es nm sl xs=true→zP (.Tuple xs k p)):zP x:=is_Tuple_k (zP:=zP) (f:=fun xs _ _=>decide (es.length≤100) && chL G es nm sl xs) c fun a b d c=>zk a b d (of_decide_eq_true (and2 c).1) (and2 c).2
@[elab_as_elim] theorem ch_lst_k {es:List ME} (c:chE G (.lst es) nm sl x=true) (zk:∀ xs p,es.length≤100→chL G es nm sl xs=true→zP (.List xs p)):zP x:=is_List_k (zP:=zP) (f:=fun xs _=>decide (es.length≤100) && chL G es nm sl xs) c fun a b c=>zk a b (of_decide_eq_true (and2 c).1) (and2 c).2
theorem not_t {b:Bool} (h:(!b)=true):b=false:=by cases b with | false=>rfl | true=>exact ff h
@[elab_as_elim] theorem ch_attr_k {o:ME} {a:Nat} (c:chE G (.attr o a) nm sl x=true) (zk:∀ y p,a<22→notSuper y=true→chE G o nm sl y=true→zP (.Attribute y (nmOf a) p)):zP x :=
  is_Attribute_k (zP:=zP) (f:=fun x n _=>n == nmOf a && decide (a<22) && notSuper x && chE G o nm sl x) c fun y n p c =>
  let d:=and2 (and2 (and2 c).1).1
  beq_iff_eq.mp d.1▸zk y p (of_decide_eq_true d.2) (and2 (and2 c).1).2 (and2 c).2
@[elab_as_elim] theorem ch_idx_k {o i:ME} (c:chE G (.idx o i) nm sl x=true) (zk:∀ y s p,isSlice s=false→chE G o nm sl y=true→chE G i nm sl s=true→zP (.Subscript y s p)):zP x :=
  is_Subscript_k (zP:=zP) (f:=fun x s _=>!isSlice s && chE G o nm sl x && chE G i nm sl s) c fun y s p c=>zk y s p (not_t (and2 (and2 c).1).1) (and2 (and2 c).1).2 (and2 c).2
noncomputable def partC (G:Str→Option GV) (nm:Nms) (sl:Sl) (m:ME) (x:Option Expr):Bool:=match x with | some x=>chE G m nm sl x && !noneLit m | none=>noneLit m
@[elab_as_elim] theorem ch_slice_k {o lo hi st:ME} (c:chE G (.slice o lo hi st) nm sl x=true) (zk:∀ y l u s p q,chE G o nm sl y=true→partC G nm sl lo l=true→partC G nm sl hi u=true→partC G nm sl st s=true→zP (.Subscript y (.Slice l u s p) q)):zP x :=
  is_Subscript_k (zP:=zP) (f:=fun y s _=>onSlice (xv s) fun l u t _=>chE G o nm sl y && partC G nm sl lo l && partC G nm sl hi u && partC G nm sl st t) c fun y s q c =>
  is_Slice_k (zP:=fun s=>zP (.Subscript y s q)) (f:=fun l u t _=>chE G o nm sl y && partC G nm sl lo l && partC G nm sl hi u && partC G nm sl st t) c fun l u t p c =>
  zk y l u t p q (and2 (and2 (and2 c).1).1).1 (and2 (and2 (and2 c).1).1).2 (and2 (and2 c).1).2 (and2 c).2
@[elab_as_elim] theorem ch_bin_k {op:BOp} {a b:ME} (c:chE G (.bin op a b) nm sl x=true) (zk:∀ y o z p,opIs op o=true→chE G a nm sl y=true→chE G b nm sl z=true→zP (.BinOp y o z p)):zP x :=
  is_BinOp_k (zP:=zP) (f:=fun x o y _=>opIs op o && chE G a nm sl x && chE G b nm sl y) c fun y o z p c=>zk y o z p (and2 (and2 c).1).1 (and2 (and2 c).1).2 (and2 c).2
@[elab_as_elim] theorem ch_neg_k {a:ME} (c:chE G (.neg a) nm sl x=true) (zk:∀ y p,chE G a nm sl y=true→zP (.UnaryOp .USub y p)):zP x :=
  is_UnaryOp_k (zP:=zP) (f:=fun o y _=>(match o with | .USub=>chE G a nm sl y | _=>false)) c fun o y p c=>by
    cases o with
    | USub=>exact zk y p c
    | _=>exact ff c
@[elab_as_elim] theorem ch_not_k {a:ME} (c:chE G (.not a) nm sl x=true) (zk:∀ y p,chE G a nm sl y=true→zP (.UnaryOp .Not y p)):zP x :=
  is_UnaryOp_k (zP:=zP) (f:=fun o y _=>(match o with | .Not=>chE G a nm sl y | _=>false)) c fun o y p c=>by
    cases o with
    | Not=>exact zk y p c
    | _=>exact ff c
theorem one_of {α:Type} {l:List α} {f:α→Bool} {P:List α→Prop} (c:on1L l f=true) (k:∀ a,f a=true→P [a]):P l:=by
  cases l with
  | nil=>exact ff c
  | cons a r=>cases r with
    | nil=>exact k a c
    | cons=>exact ff c
theorem two_of {α:Type} {l:List α} {f:α→α→Bool} {P:List α→Prop} (c:on2L l f=true) (k:∀ a b,f a b=true→P [a,b]):P l:=by
  cases l with
  | nil=>exact ff c
  | cons a r=>exact one_of (P:=fun r=>P (a::r)) (f:=f a) c fun b c=>k a b c
theorem nil_of {α:Type} {l:List α} {b:Bool} {P:List α→Prop} (c:on0L l b=true) (k:b=true→P []):P l:=by
  cases l with
  | nil=>exact k c
  | cons=>exact ff c
@[elab_as_elim] theorem ch_cmp_k {op:COp} {a b:ME} (c:chE G (.cmp op a b) nm sl x=true) (zk:∀ y o z p,copIs op o=true→notSet z=true→chE G a nm sl y=true→chE G b nm sl z=true→zP (.Compare y [o] [z] p)):zP x :=
  is_Compare_k (zP:=zP) (f:=fun x os ys _=>on1L os fun o=>on1L ys fun y=>copIs op o && notSet y && chE G a nm sl x && chE G b nm sl y) c fun y os zs p c =>
  one_of (P:=fun os=>zP (.Compare y os zs p)) (f:=fun o=>on1L zs fun z=>copIs op o && notSet z && chE G a nm sl y && chE G b nm sl z) c fun o c =>
  one_of (P:=fun zs=>zP (.Compare y [o] zs p)) (f:=fun z=>copIs op o && notSet z && chE G a nm sl y && chE G b nm sl z) c fun z c =>
  zk y o z p (and2 (and2 (and2 c).1).1).1 (and2 (and2 (and2 c).1).1).2 (and2 (and2 c).1).2 (and2 c).2
@[elab_as_elim] theorem ch_and_k {es:List ME} (c:chE G (.and es) nm sl x=true) (zk:∀ xs p,2≤xs.length→chL G es nm sl xs=true→zP (.BoolOp .And xs p)):zP x :=
  is_BoolOp_k (zP:=zP) (f:=fun o xs _=>(match o with | .And=>decide (2≤xs.length) && chL G es nm sl xs | _=>false)) c fun o y p c=>by
    cases o with
    | And=>exact zk y p (of_decide_eq_true (and2 c).1) (and2 c).2
    | _=>exact ff c
@[elab_as_elim] theorem ch_or_k {es:List ME} (c:chE G (.or es) nm sl x=true) (zk:∀ xs p,2≤xs.length→chL G es nm sl xs=true→zP (.BoolOp .Or xs p)):zP x :=
  is_BoolOp_k (zP:=zP) (f:=fun o xs _=>(match o with | .Or=>decide (2≤xs.length) && chL G es nm sl xs | _=>false)) c fun o y p c=>by
    cases o with
    | Or=>exact zk y p (of_decide_eq_true (and2 c).1) (and2 c).2
    | _=>exact ff c
@[elab_as_elim] theorem ch_ife_k {t a b:ME} (c:chE G (.ife t a b) nm sl x=true) (zk:∀ y z w p,chE G t nm sl y=true→chE G a nm sl z=true→chE G b nm sl w=true→zP (.IfExp y z w p)):zP x :=
  is_IfExp_k (zP:=zP) (f:=fun x y z _=>chE G t nm sl x && chE G a nm sl y && chE G b nm sl z) c fun y o z p c=>zk y o z p (and2 (and2 c).1).1 (and2 (and2 c).1).2 (and2 c).2
@[elab_as_elim] theorem name_call_k {P:Str→Pos→List Expr→Bool} (c:(onCall (xv x) fun f xs ks _=>(onName (xv f) fun n p=>on0L ks (P n p xs)))=true) (zk:∀ n p xs q,P n p xs=true→zP (.Call (.Name n p) xs [] q)):zP x :=
  is_Call_k (zP:=zP) (f:=fun f xs ks _=>(onName (xv f) fun n p=>on0L ks (P n p xs))) c fun f xs ks q c =>
  is_Name_k (zP:=fun f=>zP (.Call f xs ks q)) (f:=fun n p=>on0L ks (P n p xs)) c fun n p c =>
  nil_of (P:=fun ks=>zP (.Call (.Name n p) xs ks q)) c fun c=>zk n p xs q c
@[elab_as_elim] theorem attr_call_k {P:Expr→Str→Pos→List Expr→Pos→Bool} (c:(onCall (xv x) fun f xs ks p=>(onAttribute (xv f) fun y n ap=>on0L ks (P y n ap xs p)))=true) (zk:∀ y n ap xs p,P y n ap xs p=true→zP (.Call (.Attribute y n ap) xs [] p)):zP x :=
  is_Call_k (zP:=zP) (f:=fun f xs ks p=>(onAttribute (xv f) fun y n ap=>on0L ks (P y n ap xs p))) c fun f xs ks q c =>
  is_Attribute_k (zP:=fun f=>zP (.Call f xs ks q)) (f:=fun y n ap=>on0L ks (P y n ap xs q)) c fun y n ap c =>
  nil_of (P:=fun ks=>zP (.Call (.Attribute y n ap) xs ks q)) c fun c=>zk y n ap xs q c
@[elab_as_elim] theorem ch_call_k {f:ME} {es:List ME} (c:chE G (.call f es) nm sl x=true) (zk:∀ n p xs q,chE G f nm sl (.Name n p)=true→chL G es nm sl xs=true→zP (.Call (.Name n p) xs [] q)):zP x :=
  name_call_k (zP:=zP) (P:=fun n p xs=>chE G f nm sl (.Name n p) && chL G es nm sl xs) c fun n p xs q c=>zk n p xs q (and2 c).1 (and2 c).2
@[elab_as_elim] theorem ch_new_k {k:Nat} {es:List ME} (c:chE G (.new k es) nm sl x=true) (zk:∀ n p xs q,k<5→gIs G nm n (fun g=>match g with | .cls j=>j == k | _=>false)=true→chL G es nm sl xs=true→zP (.Call (.Name n p) xs [] q)):zP x :=
  name_call_k (zP:=zP) (P:=fun n p xs=>decide (k<5) && gIs G nm n (fun g=>match g with | .cls j=>j == k | _=>false) && chL G es nm sl xs) c fun n p xs q c=>zk n p xs q (of_decide_eq_true (and2 (and2 c).1).1) (and2 (and2 c).1).2 (and2 c).2
@[elab_as_elim] theorem ch_prim_k {k:Pr} {es:List ME} (c:chE G (.prim k es) nm sl x=true) (zk:∀ p xs q,gIs G nm (prName k) (fun g=>match g with | .pr _=>true | _=>false)=true→chL G es nm sl xs=true→zP (.Call (.Name (prName k) p) xs [] q)):zP x :=
  name_call_k (zP:=zP) (P:=fun n p xs=>n == prName k && gIs G nm n (fun g=>match g with | .pr _=>true | _=>false) && chL G es nm sl xs) c fun n p xs q c=>by
    cases beq_iff_eq.mp (and2 (and2 c).1).1
    exact zk p xs q (and2 (and2 c).1).2 (and2 c).2
@[elab_as_elim] theorem ch_meth_k {o:ME} {m:Nat} {es:List ME} (c:chE G (.meth o m es) nm sl x=true) (zk:∀ y ap xs p,(100≤m∧m<119)→xs.length<20→(ap.endLine == p.line)=true→notSuper y=true→chE G o nm sl y=true→chL G es nm sl xs=true→zP (.Call (.Attribute y (mmOf m) ap) xs [] p)):zP x :=
  attr_call_k (zP:=zP) (P:=fun y n ap xs p=>n == mmOf m && decide (100≤m∧m<119) && decide (xs.length<20) && (ap.endLine == p.line) && notSuper y && chE G o nm sl y && chL G es nm sl xs) c fun y n ap xs p c=>by
    have d:=(and2 (and2 (and2 c).1).1).1
    have g:=(and2 (and2 d).1).1
    cases beq_iff_eq.mp (and2 g).1
    exact zk y ap xs p (of_decide_eq_true (and2 g).2) (of_decide_eq_true (and2 (and2 d).1).2) (and2 d).2 (and2 (and2 (and2 c).1).1).2 (and2 (and2 c).1).2 (and2 c).2
@[elab_as_elim] theorem ch_bmeth_k {o:ME} {m:BM} {es:List ME} (c:chE G (.bmeth o m es) nm sl x=true) (zk:∀ y ap xs p,xs.length<20→(ap.endLine == p.line)=true→notSuper y=true→chE G o nm sl y=true→chL G es nm sl xs=true→zP (.Call (.Attribute y (bmName m) ap) xs [] p)):zP x :=
  attr_call_k (zP:=zP) (P:=fun y n ap xs p=>n == bmName m && decide (xs.length<20) && (ap.endLine == p.line) && notSuper y && chE G o nm sl y && chL G es nm sl xs) c fun y n ap xs p c=>by
    have d:=(and2 (and2 (and2 c).1).1).1
    cases beq_iff_eq.mp (and2 (and2 d).1).1
    exact zk y ap xs p (of_decide_eq_true (and2 (and2 d).1).2) (and2 d).2 (and2 (and2 (and2 c).1).1).2 (and2 (and2 c).1).2 (and2 c).2
@[elab_as_elim] theorem ch_isin_k {o:ME} {k:IK} (c:chE G (.isin o k) nm sl x=true) (zk:∀ n p y pz q,gIs G nm n isiP=true→gIs G nm (ikName k) (ikP k)=true→notStar y=true→chE G o nm sl y=true→zP (.Call (.Name n p) [y,.Name (ikName k) pz] [] q)):zP x :=
  name_call_k (zP:=zP) (P:=fun n _ xs=>on2L xs fun y w=>(onName (xv w) fun z _=>gIs G nm n isiP && z == ikName k && gIs G nm z (ikP k) && notStar y && chE G o nm sl y)) c fun n p xs q c =>
  two_of (P:=fun xs=>zP (.Call (.Name n p) xs [] q)) (f:=fun y w=>(onName (xv w) fun z _=>gIs G nm n isiP && z == ikName k && gIs G nm z (ikP k) && notStar y && chE G o nm sl y)) c fun y w c =>
  is_Name_k (zP:=fun w=>zP (.Call (.Name n p) [y,w] [] q)) (f:=fun z _=>gIs G nm n isiP && z == ikName k && gIs G nm z (ikP k) && notStar y && chE G o nm sl y) c fun z pz c=>by
    have d:=(and2 (and2 c).1).1
    cases beq_iff_eq.mp (and2 (and2 d).1).2
    exact zk n p y pz q (and2 (and2 d).1).1 (and2 d).2 (and2 (and2 c).1).2 (and2 c).2
@[elab_as_elim] theorem ch_dict_k {es:List ME} (c:chE G (.dict es) nm sl x=true) (zk:∀ ks us p,us.length≤15→chD G es nm sl ks us=true→zP (.Dict ks us p)):zP x :=
  is_Dict_k (zP:=zP) (f:=fun ks vs _=>decide (vs.length≤15) && chD G es nm sl ks vs) c fun ks us p c=>zk ks us p (of_decide_eq_true (and2 c).1) (and2 c).2
theorem comp_gens {elt src:ME} {t:CT} {k:Nat} {cs:List ME} {gs:List Comprehension} {sc:Scope} {p:Pos} {P:List Comprehension→Prop} (c:chE G (.comp elt src t k cs) nm sl (.ListComp x gs sc p)=true)
    (zk:∀ tg it ifs,chE G (.comp elt src t k cs) nm sl (.ListComp x [⟨tg,it,ifs,0⟩] sc p)=true→P [⟨tg,it,ifs,0⟩]):P gs:=by
  cases gs with
  | nil=>exact ff c
  | cons g gs =>
    obtain⟨tg,it,ifs,n⟩:=g
    cases n with
    | negSucc=>exact ff c
    | ofNat n=>cases n with
      | succ=>exact ff c
      | zero=>cases gs with
        | nil=>exact zk tg it ifs c
        | cons=>exact ff c
@[elab_as_elim] theorem ch_comp_k {elt src:ME} {t:CT} {k:Nat} {cs:List ME} (c:chE G (.comp elt src t k cs) nm sl x=true) (zk:∀ y tg it ifs sc p,chE G (.comp elt src t k cs) nm sl (.ListComp y [⟨tg,it,ifs,0⟩] sc p)=true→zP (.ListComp y [⟨tg,it,ifs,0⟩] sc p)):zP x :=
  is_ListComp_k (zP:=fun x=>chE G (.comp elt src t k cs) nm sl x=true→zP x) (f:=fun _ _ _ _=>true) (and2 (b:=true) (show(Nat.beq (xv x).t 5 && true)=true from by rw [Bool.and_true]; exact(and2 c).1) |> fun h=>show(Nat.beq (xv x).t 5 && true)=true from by rw [h.1]; rfl)
    (fun y gs sc p _ c=>comp_gens (P:=fun gs=>zP (.ListComp y gs sc p)) c fun tg it ifs c=>zk y tg it ifs sc p c) c
section
variable {s:Stmt} {zS:Stmt→Prop}
@[elab_as_elim] theorem is_Expr_k {f:Expr→Pos→Bool} (c:onSExpr (sv s) f=true) (zk:∀ a b,f a b=true→zS (.Expr a b)):zS s:=invS (n:=0) (P:=zS) (and2 c).1 (zk _ _ (and2 c).2)
@[elab_as_elim] theorem is_Return_k {f:Option Expr→Pos→Bool} (c:onSReturn (sv s) f=true) (zk:∀ a b,f a b=true→zS (.Return a b)):zS s:=invS (n:=1) (P:=zS) (and2 c).1 (zk _ _ (and2 c).2)
@[elab_as_elim] theorem is_Assign_k {f:List Expr→Expr→Pos→Bool} (c:onSAssign (sv s) f=true) (zk:∀ a b d,f a b d=true→zS (.Assign a b d)):zS s:=invS (n:=2) (P:=zS) (and2 c).1 (zk _ _ _ (and2 c).2)
@[elab_as_elim] theorem is_AugAssign_k {f:Expr→Operator→Expr→Pos→Bool} (c:onSAugAssign (sv s) f=true) (zk:∀ a b d g,f a b d g=true→zS (.AugAssign a b d g)):zS s:=invS (n:=3) (P:=zS) (and2 c).1 (zk _ _ _ _ (and2 c).2)
@[elab_as_elim] theorem is_If_k {f:Expr→List Stmt→List Stmt→Pos→Bool} (c:onSIf (sv s) f=true) (zk:∀ a b d g,f a b d g=true→zS (.If a b d g)):zS s:=invS (n:=4) (P:=zS) (and2 c).1 (zk _ _ _ _ (and2 c).2)
@[elab_as_elim] theorem is_While_k {f:Expr→List Stmt→List Stmt→Pos→Bool} (c:onSWhile (sv s) f=true) (zk:∀ a b d g,f a b d g=true→zS (.While a b d g)):zS s:=invS (n:=5) (P:=zS) (and2 c).1 (zk _ _ _ _ (and2 c).2)
@[elab_as_elim] theorem is_For_k {f:Expr→Expr→List Stmt→List Stmt→Pos→Bool} (c:onSFor (sv s) f=true) (zk:∀ a b d g h,f a b d g h=true→zS (.For a b d g h)):zS s:=invS (n:=6) (P:=zS) (and2 c).1 (zk _ _ _ _ _ (and2 c).2)
@[elab_as_elim] theorem is_Break_k {f:Pos→Bool} (c:onSBreak (sv s) f=true) (zk:∀ a,f a=true→zS (.Break a)):zS s:=invS (n:=7) (P:=zS) (and2 c).1 (zk _ (and2 c).2)
@[elab_as_elim] theorem is_Continue_k {f:Pos→Bool} (c:onSContinue (sv s) f=true) (zk:∀ a,f a=true→zS (.Continue a)):zS s:=invS (n:=8) (P:=zS) (and2 c).1 (zk _ (and2 c).2)
@[elab_as_elim] theorem cs_expr_k {e:ME} (c:chS G (.expr e) nm sl s=true) (zk:∀ x p,notComp x=true→chE G e nm sl x=true→zS (.Expr x p)):zS s :=
  is_Expr_k (zS:=zS) (f:=fun x _=>notComp x && chE G e nm sl x) c fun x p c=>zk x p (and2 c).1 (and2 c).2
@[elab_as_elim] theorem cs_ret_k {e:ME} (c:chS G (.ret e) nm sl s=true) (zk:∀ x p,chE G e nm sl x=true→zS (.Return (some x) p)):zS s :=
  is_Return_k (zS:=zS) (f:=fun x _=>match x with | some x=>chE G e nm sl x | _=>false) c fun x p c=>by
    cases x with
    | none=>exact ff c
    | some x=>exact zk x p c
@[elab_as_elim] theorem cs_asg_k {t:Tg} {e:ME} (c:chS G (.asg t e) nm sl s=true) (zk:∀ y x p,chT G t nm sl y=true→chE G e nm sl x=true→asgS nm sl t y x=true→zS (.Assign [y] x p)):zS s :=
  is_Assign_k (zS:=zS) (f:=fun ts x _=>match ts with | y::r=>(match r with | []=>chT G t nm sl y && chE G e nm sl x && asgS nm sl t y x | _=>false) | []=>false) c fun ts x p c=>by
    cases ts with
    | nil=>exact ff c
    | cons y r=>cases r with
      | nil=>exact zk y x p (and2 (and2 c).1).1 (and2 (and2 c).1).2 (and2 c).2
      | cons=>exact ff c
theorem cmpS_inv {P:Expr→Expr→Tg→Prop} {y:Expr} {t:Tg} (c:cmpS nm y x t=true) (zk:∀ n py e g sc px i,(nm.lookup n == some .local && py.line == px.line && !(sc.names.any fun(z,k)=>z == n && (k == .local || k == .cell)))=true→P (.Name n py) (.ListComp e g sc px) (.loc i)):P y x t :=
  is_Name_k (zP:=fun y=>P y x t) (f:=fun n py=>onListComp (xv x) fun _ _ sc px=>isLocT t && (nm.lookup n == some .local && py.line == px.line && !(sc.names.any fun(z,k)=>z == n && (k == .local || k == .cell)))) c fun n py c =>
  is_ListComp_k (zP:=fun x=>P (.Name n py) x t) (f:=fun _ _ sc px=>isLocT t && (nm.lookup n == some .local && py.line == px.line && !(sc.names.any fun(z,k)=>z == n && (k == .local || k == .cell)))) c fun e g sc px c=>by
    cases t with
    | loc i=>exact zk n py e g sc px i c
    | _=>exact ff c
theorem cmpS_inv_k {y:Expr} {t:Tg} (c:cmpS nm y x t=true) {zg:Prop} (zk:∀ n py e g sc px i,y=.Name n py→x=.ListComp e g sc px→t=.loc i→(nm.lookup n == some .local && py.line == px.line && !(sc.names.any fun(z,k)=>z == n && (k == .local || k == .cell)))=true→zg):zg :=
  cmpS_inv (P:=fun y' x' t'=>y=y'→x=x'→t=t'→zg) c (fun n py e g sc px i h a b d=>zk n py e g sc px i a b d h) rfl rfl rfl
theorem cD_nil {ks:List (Option Expr)} {us:List Expr} (c:chD G [] nm sl ks us=true):ks=[]∧us=[]:=by
  cases ks with
  | nil=>cases us with
    | nil=>exact⟨rfl,rfl⟩
    | cons=>exact ff c
  | cons=>exact ff c
@[elab_as_elim] theorem cs_auga_k {o:ME} {a:Nat} {op:BOp} {e:ME} (c:chS G (.auga o a op e) nm sl s=true) (zk:∀ x xp q y p,opIs op q=true→a<22→notSuper x=true→chE G o nm sl x=true→chE G e nm sl y=true→zS (.AugAssign (.Attribute x (nmOf a) xp) q y p)):zS s :=
  is_AugAssign_k (zS:=zS) (f:=fun z q y _=>(onAttribute (xv z) fun x n _=>opIs op q && n == nmOf a && decide (a<22) && notSuper x && chE G o nm sl x && chE G e nm sl y)) c fun z q y p c =>
  is_Attribute_k (zP:=fun z=>zS (.AugAssign z q y p)) (f:=fun x n _=>opIs op q && n == nmOf a && decide (a<22) && notSuper x && chE G o nm sl x && chE G e nm sl y) c fun x n xp c=>by
    have d:=(and2 (and2 (and2 c).1).1).1
    cases beq_iff_eq.mp (and2 (and2 d).1).2
    exact zk x xp q y p (and2 (and2 d).1).1 (of_decide_eq_true (and2 d).2) (and2 (and2 (and2 c).1).1).2 (and2 (and2 c).1).2 (and2 c).2
@[elab_as_elim] theorem cs_ife_k {t:ME} {b o:List MS} (c:chS G (.ife t b o) nm sl s=true) (zk:∀ x y z p,chE G t nm sl x=true→chB G b nm sl y=true→chB G o nm sl z=true→zS (.If x y z p)):zS s :=
  is_If_k (zS:=zS) (f:=fun x y z _=>chE G t nm sl x && chB G b nm sl y && chB G o nm sl z) c fun x y z p c=>zk x y z p (and2 (and2 c).1).1 (and2 (and2 c).1).2 (and2 c).2
@[elab_as_elim] theorem cs_whl_k {t:ME} {b:List MS} (c:chS G (.whl t b) nm sl s=true) (zk:∀ x y p,chE G t nm sl x=true→chB G b nm sl y=true→zS (.While x y [] p)):zS s :=
  is_While_k (zS:=zS) (f:=fun x y z _=>on0L z (chE G t nm sl x && chB G b nm sl y)) c fun x y z p c =>
  nil_of (P:=fun z=>zS (.While x y z p)) c fun c=>zk x y p (and2 c).1 (and2 c).2
@[elab_as_elim] theorem cs_for_k {t:CT} {e:ME} {b:List MS} (c:chS G (.for t e b) nm sl s=true) (zk:∀ y x z p,ctIs nm sl t y=true→notSet x=true→chE G e nm sl x=true→chB G b nm sl z=true→zS (.For y x z [] p)):zS s :=
  is_For_k (zS:=zS) (f:=fun y x z o _=>on0L o (ctIs nm sl t y && notSet x && chE G e nm sl x && chB G b nm sl z)) c fun y x z o p c =>
  nil_of (P:=fun o=>zS (.For y x z o p)) c fun c=>zk y x z p (and2 (and2 (and2 c).1).1).1 (and2 (and2 (and2 c).1).1).2 (and2 (and2 c).1).2 (and2 c).2
@[elab_as_elim] theorem cs_brk (c:chS G .brk nm sl s=true) (zk:∀ p,zS (.Break p)):zS s:=is_Break_k (zS:=zS) (f:=fun _=>true) c fun p _=>zk p
@[elab_as_elim] theorem cs_cont (c:chS G .cont nm sl s=true) (zk:∀ p,zS (.Continue p)):zS s:=is_Continue_k (zS:=zS) (f:=fun _=>true) c fun p _=>zk p
theorem cb_nil {xs:List Stmt} (c:chB G [] nm sl xs=true):xs=[]:=by
  cases xs with
  | nil=>rfl
  | cons=>exact ff c
@[elab_as_elim] theorem cb_cons_k {zL:List Stmt→Prop} {st:MS} {b:List MS} {xs:List Stmt} (c:chB G (st::b) nm sl xs=true) (zk:∀ x ys,chS G st nm sl x=true→chB G b nm sl ys=true→zL (x::ys)):zL xs:=by
  cases xs with
  | nil=>exact ff c
  | cons x ys=>exact zk x ys (and2 c).1 (and2 c).2
@[elab_as_elim] theorem cT_loc_k {i:Nat} (c:chT G (.loc i) nm sl x=true) (zk:∀ n p,isLoc nm sl i n=true→zP (.Name n p)):zP x:=is_Name_k (zP:=zP) (f:=fun n _=>isLoc nm sl i n) c zk
@[elab_as_elim] theorem cT_attr_k {o:ME} {a:Nat} (c:chT G (.attr o a) nm sl x=true) (zk:∀ y p,a<22→chE G o nm sl y=true→zP (.Attribute y (nmOf a) p)):zP x :=
  is_Attribute_k (zP:=zP) (f:=fun x n _=>n == nmOf a && decide (a<22) && chE G o nm sl x) c fun y n p c=>by
    cases beq_iff_eq.mp (and2 (and2 c).1).1
    exact zk y p (of_decide_eq_true (and2 (and2 c).1).2) (and2 c).2
@[elab_as_elim] theorem cT_idx_k {o i:ME} (c:chT G (.idx o i) nm sl x=true) (zk:∀ y s p,isSlice s=false→chE G o nm sl y=true→chE G i nm sl s=true→zP (.Subscript y s p)):zP x :=
  is_Subscript_k (zP:=zP) (f:=fun x s _=>!isSlice s && chE G o nm sl x && chE G i nm sl s) c fun y s p c=>zk y s p (not_t (and2 (and2 c).1).1) (and2 (and2 c).1).2 (and2 c).2
@[elab_as_elim] theorem cT_tup_k {ts:List Tg} (c:chT G (.tup ts) nm sl x=true) (zk:∀ xs k p,chTs G ts nm sl xs=true→zP (.Tuple xs k p)):zP x:=is_Tuple_k (zP:=zP) (f:=fun xs _ _=>chTs G ts nm sl xs) c zk
theorem cTs_nil {xs:List Expr} (c:chTs G [] nm sl xs=true):xs=[]:=by
  cases xs with
  | nil=>rfl
  | cons=>exact ff c
@[elab_as_elim] theorem cTs_cons_k {zL:List Expr→Prop} {t:Tg} {ts:List Tg} {xs:List Expr} (c:chTs G (t::ts) nm sl xs=true) (zk:∀ x ys,chT G t nm sl x=true→chTs G ts nm sl ys=true→zL (x::ys)):zL xs:=by
  cases xs with
  | nil=>exact ff c
  | cons x ys=>exact zk x ys (and2 c).1 (and2 c).2
theorem go_nil {xs:List Expr} (c:ctGo nm sl [] xs=true):xs=[]:=by
  cases xs with
  | nil=>rfl
  | cons=>exact ff c
@[elab_as_elim] theorem go_cons_k {zL:List Expr→Prop} {i:Nat} {is:List Nat} {xs:List Expr} (c:ctGo nm sl (i::is) xs=true) (zk:∀ n p ys,isLoc nm sl i n=true→ctGo nm sl is ys=true→zL (.Name n p::ys)):zL xs:=by
  cases xs with
  | nil=>exact ff c
  | cons x ys=>exact is_Name_k (x:=x) (zP:=fun x=>zL (x::ys)) (f:=fun n _=>isLoc nm sl i n && ctGo nm sl is ys) c fun n p c=>zk n p ys (and2 c).1 (and2 c).2
@[elab_as_elim] theorem ct_one_k {i:Nat} (c:ctIs nm sl (.one i) x=true) (zk:∀ n p,isLoc nm sl i n=true→zP (.Name n p)):zP x:=is_Name_k (zP:=zP) (f:=fun n _=>isLoc nm sl i n) c zk
@[elab_as_elim] theorem ct_many_k {is:List Nat} (c:ctIs nm sl (.many is) x=true) (zk:∀ xs k p,ctGo nm sl is xs=true→zP (.Tuple xs k p)):zP x:=is_Tuple_k (zP:=zP) (f:=fun xs _ _=>ctGo nm sl is xs) c zk
end
end
section
variable {P:Pg} {call:CallT} {l:Lo} {H H':Hp} {v:V}
theorem bnd_some_k {α β:Type} {m:Option (α×Hp)} {f:α→Hp→Option β} {r:β} (e:bnd m f=some r) {zg:Prop} (zk:∀ a,∀ H,(m=some (a,H))→(f a H=some r)→zg):zg:=by
  unfold bnd at e
  split at e
  · exact zk _ _ rfl e
  · exact nn e
theorem bnd_some {α β:Type} {m:Option (α×Hp)} {f:α→Hp→Option β} {r:β} (e:bnd m f=some r):∃ a H,m=some (a,H)∧f a H=some r:=bnd_some_k e fun a H zh1 zh2=>⟨a,H,zh1,zh2⟩
theorem ev_lit {u:V} (e:evE P call (.lit u) l H=some (v,H')):u=v∧H=H':=by
  have e:some (u,H)=some (v,H'):=e
  cases e; exact⟨rfl,rfl⟩
theorem ev_glob {u:V} (e:evE P call (.glob u) l H=some (v,H')):u=v∧H=H':=by
  have e:some (u,H)=some (v,H'):=e
  cases e; exact⟨rfl,rfl⟩
theorem ev_loc {i:Nat} (e:evE P call (.loc i) l H=some (v,H')):l[i]? = some (some v)∧H=H':=by
  have e:(match l[i]? with | some (some v)=>some (v,H) | _=>none)=some (v,H'):=e
  cases h:l[i]? with
  | none=>rw [h] at e; exact nn e
  | some o=>cases o with
    | none=>rw [h] at e; exact nn e
    | some u=>rw [h] at e; cases e; exact⟨rfl,rfl⟩
theorem ev_tup_k {es:List ME} (e:evE P call (.tup es) l H=some (v,H')) {zg:Prop} (zk:∀ vs,(evL P call es l H=some (vs,H'))→(v=.tup vs)→zg):zg:=by
  refine bnd_some_k (m:=evL P call es l H) (f:=fun vs H=>some (V.tup vs,H)) e fun vs H1 e1 e=>?_
  cases e; exact zk vs e1 rfl
theorem ev_lst_k {es:List ME} (e:evE P call (.lst es) l H=some (v,H')) {zg:Prop} (zk:∀ vs,∀ H1,(evL P call es l H=some (vs,H1))→(v=.loc H1.length)→(H'=H1++[.list vs])→zg):zg:=by
  refine bnd_some_k (m:=evL P call es l H) (f:=fun vs H=>some (V.loc H.length,H++[O.list vs])) e fun vs H1 e1 e=>?_
  cases e; exact zk vs H1 e1 rfl rfl
theorem ev_attr_k {o:ME} {a:Nat} (e:evE P call (.attr o a) l H=some (v,H')) {zg:Prop} (zk:∀ ov,(evE P call o l H=some (ov,H'))→(getA H' ov a=some v)→zg):zg:=by
  refine bnd_some_k (m:=evE P call o l H) (f:=fun o H=>(match getA H o a with | some v=>some (v,H) | none=>none)) e fun ov H1 e1 e=>?_
  cases h:getA H1 ov a with
  | none=>rw [h] at e; exact nn e
  | some u=>rw [h] at e; cases e; exact zk ov e1 h
theorem ev_idx_k {o i:ME} (e:evE P call (.idx o i) l H=some (v,H')) {zg:Prop} (zk:∀ ov,∀ H1,∀ iv,(evE P call o l H=some (ov,H1))→(evE P call i l H1=some (iv,H'))→(idxV H' ov iv=some v)→zg):zg:=by
  refine bnd_some_k (m:=evE P call o l H) (f:=fun o H=>bnd (evE P call i l H) fun i H=>(match idxV H o i with | some v=>some (v,H) | none=>none)) e fun ov H1 e1 e=>?_
  refine bnd_some_k (m:=evE P call i l H1) e fun iv H2 e2 e=>?_
  cases h:idxV H2 ov iv with
  | none=>rw [h] at e; exact nn e
  | some u=>rw [h] at e; cases e; exact zk ov H1 iv e1 e2 h
theorem ev_slice_k {o lo hi st:ME} {r:V×Hp} (e:evE P call (.slice o lo hi st) l H=some r) {zg:Prop} (zk:∀ ov,∀ H1,∀ lv,∀ H2,∀ uv,∀ H3,∀ tv,∀ H4,(evE P call o l H=some (ov,H1))→(evE P call lo l H1=some (lv,H2))→(evE P call hi l H2=some (uv,H3))→(evE P call st l H3=some (tv,H4))→(sliceV ov lv uv tv H4=some r)→zg):zg:=by
  refine bnd_some_k (m:=evE P call o l H) (f:=fun o H=>bnd (evE P call lo l H) fun lo H=>bnd (evE P call hi l H) fun hi H=>bnd (evE P call st l H) fun st H=>sliceV o lo hi st H) e fun ov H1 e1 e=>?_
  refine bnd_some_k (m:=evE P call lo l H1) e fun lv H2 e2 e=>?_
  refine bnd_some_k (m:=evE P call hi l H2) e fun uv H3 e3 e=>?_
  refine bnd_some_k (m:=evE P call st l H3) e fun tv H4 e4 e=>?_
  exact zk ov H1 lv H2 uv H3 tv H4 e1 e2 e3 e4 e
theorem ev_bin_k {op:BOp} {a b:ME} {r:V×Hp} (e:evE P call (.bin op a b) l H=some r) {zg:Prop} (zk:∀ x,∀ H1,∀ y,∀ H2,(evE P call a l H=some (x,H1))→(evE P call b l H1=some (y,H2))→(binV op x y H2=some r)→zg):zg:=by
  refine bnd_some_k (m:=evE P call a l H) (f:=fun a H=>bnd (evE P call b l H) fun b H=>binV op a b H) e fun ov H1 e1 e=>?_
  refine bnd_some_k (m:=evE P call b l H1) e fun iv H2 e2 e=>?_
  exact zk ov H1 iv H2 e1 e2 e
theorem ev_neg_k {a:ME} (e:evE P call (.neg a) l H=some (v,H')) {zg:Prop} (zk:∀ i,(evE P call a l H=some (.int i,H'))→(v=.int (-i))→zg):zg:=by
  refine bnd_some_k (m:=evE P call a l H) (f:=fun a H=>(match a with | .int i=>some (V.int (-i),H) | _=>none)) e fun ov H1 e1 e=>?_
  cases ov <;> first | (cases e; exact zk _ e1 rfl) | exact nn e
theorem ev_not_k {a:ME} (e:evE P call (.not a) l H=some (v,H')) {zg:Prop} (zk:∀ b,(evE P call a l H=some (.bool b,H'))→(v=.bool (!b))→zg):zg:=by
  refine bnd_some_k (m:=evE P call a l H) (f:=fun a H=>(match a with | .bool b=>some (V.bool (!b),H) | _=>none)) e fun ov H1 e1 e=>?_
  cases ov <;> first | (cases e; exact zk _ e1 rfl) | exact nn e
theorem opt_bool_k {o:Option Bool} {H:Hp} {r:V×Hp} (e:(match o with | some r=>some (V.bool r,H) | none=>none)=some r) {zg:Prop} (zk:∀ b,(o=some b)→((V.bool b,H)=r)→zg):zg:=by
  cases o with
  | none=>exact nn e
  | some b=>exact zk b rfl (Option.some.inj e)
theorem ev_cmp_k {op:COp} {a b:ME} {r:V×Hp} (e:evE P call (.cmp op a b) l H=some r) {zg:Prop} (zk:∀ x,∀ H1,∀ y,∀ H2,∀ q,(evE P call a l H=some (x,H1))→(evE P call b l H1=some (y,H2))→(cmpV H2 op x y=some q)→((V.bool q,H2)=r)→zg):zg:=by
  refine bnd_some_k (m:=evE P call a l H) (f:=fun a H=>bnd (evE P call b l H) fun b H=>(match cmpV H op a b with | some r=>some (V.bool r,H) | none=>none)) e fun ov H1 e1 e=>?_
  refine bnd_some_k (m:=evE P call b l H1) e fun iv H2 e2 e=>?_
  refine opt_bool_k e fun q h e=>?_
  exact zk ov H1 iv H2 q e1 e2 h e
theorem ev_ife {t a b:ME} {r:V×Hp} (e:evE P call (.ife t a b) l H=some r):∃ H1,(evE P call t l H=some (.bool true,H1)∧evE P call a l H1=some r)∨(evE P call t l H=some (.bool false,H1)∧evE P call b l H1=some r):=by
  refine bnd_some_k (m:=evE P call t l H) (f:=fun t H=>(match t with | .bool true=>evE P call a l H | .bool false=>evE P call b l H | _=>none)) e fun ov H1 e1 e=>?_
  cases ov with
  | bool q=>cases q with
    | true=>exact⟨H1,.inl ⟨e1,e⟩⟩
    | false=>exact⟨H1,.inr ⟨e1,e⟩⟩
  | _=>exact nn e
theorem ev_call_k {f:ME} {es:List ME} {r:V×Hp} (e:evE P call (.call f es) l H=some r) {zg:Prop} (zk:∀ k,∀ H1,∀ vs,∀ H2,(evE P call f l H=some (.fn k,H1))→(evL P call es l H1=some (vs,H2))→(call k vs H2=some r)→zg):zg:=by
  obtain⟨k,H1,vs,H2,zh1,zh2,zh3⟩:∃ k H1 vs H2,evE P call f l H=some (.fn k,H1)∧evL P call es l H1=some (vs,H2)∧call k vs H2=some r:=by
    refine bnd_some_k (m:=evE P call f l H) (f:=fun f H=>bnd (evL P call es l H) fun vs H=>(match f with | .fn k=>call k vs H | _=>none)) e fun ov H1 e1 e=>?_
    refine bnd_some_k (m:=evL P call es l H1) e fun vs H2 e2 e=>?_
    cases ov <;> first | exact⟨_,_,_,_,e1,e2,e⟩ | exact nn e
  exact zk k H1 vs H2 zh1 zh2 zh3
theorem ev_new_k {c:Nat} {es:List ME} (e:evE P call (.new c es) l H=some (v,H')) {zg:Prop} (zk:∀ vs,∀ H1,∀ ci,(evL P call es l H=some (vs,H1))→(P.cls[c]? = some ci)→(call ci.init (.loc H1.length::vs) (H1++[.inst c []])=some (.none,H'))→(v=.loc H1.length)→zg):zg:=by
  obtain⟨vs,H1,ci,zh1,zh2,zh3,zh4⟩:∃ vs H1 ci,evL P call es l H=some (vs,H1)∧P.cls[c]? = some ci∧call ci.init (.loc H1.length::vs) (H1++[.inst c []])=some (.none,H')∧v=.loc H1.length:=by
    refine bnd_some_k (m:=evL P call es l H) (f:=fun vs H=>(match P.cls[c]? with
      | some ci=>bnd (call ci.init (.loc H.length::vs) (H++[.inst c []])) fun r H'=>(match r with | .none=>some (V.loc H.length,H') | _=>none)
      | none=>none)) e fun vs H1 e1 e=>?_
    cases h:P.cls[c]? with
    | none=>rw [h] at e; exact nn e
    | some ci =>
      rw [h] at e
      refine bnd_some_k (m:=call ci.init (.loc H1.length::vs) (H1++[.inst c []])) e fun r H2 e2 e=>?_
      cases r <;> first | (cases e; exact⟨vs,H1,ci,e1,rfl,e2,rfl⟩) | exact nn e
  exact zk vs H1 ci zh1 zh2 zh3 zh4
theorem ev_meth_k {o:ME} {m:Nat} {es:List ME} {r:V×Hp} (e:evE P call (.meth o m es) l H=some r) {zg:Prop} (zk:∀ n,∀ H1,∀ c,∀ fs,∀ ci,∀ k,∀ vs,∀ H2,(evE P call o l H=some (.loc n,H1))→(H1[n]? = some (.inst c fs))→(P.cls[c]? = some ci)→(lookN m ci.meths=some k)→(evL P call es l H1=some (vs,H2))→(call k (.loc n::vs) H2=some r)→zg):zg:=by
  refine bnd_some_k (m:=evE P call o l H) (f:=fun o H=>(match o with
    | .loc n=>(match H[n]? with
      | some (.inst c _)=>(match P.cls[c]? with
        | some ci=>(match lookN m ci.meths with
          | some k=>bnd (evL P call es l H) fun vs H=>call k (o::vs) H
          | none=>none)
        | none=>none)
      | _=>none)
    | _=>none)) e fun ov H1 e1 e=>?_
  cases ov with
  | loc n =>
    dsimp only at e
    cases h:H1[n]? with
    | none=>rw [h] at e; exact nn e
    | some ob=>cases ob with
      | inst c fs =>
        rw [h] at e
        dsimp only at e
        cases h2:P.cls[c]? with
        | none=>rw [h2] at e; exact nn e
        | some ci =>
          rw [h2] at e
          dsimp only at e
          cases h3:lookN m ci.meths with
          | none=>rw [h3] at e; exact nn e
          | some k =>
            rw [h3] at e
            refine bnd_some_k e fun vs H2 e2 e=>?_
            exact zk n H1 c fs ci k vs H2 e1 h h2 h3 e2 e
      | _=>rw [h] at e; exact nn e
  | _=>exact nn e
theorem ev_bmeth_k {o:ME} {m:BM} {es:List ME} {r:V×Hp} (e:evE P call (.bmeth o m es) l H=some r) {zg:Prop} (zk:∀ ov,∀ H1,∀ vs,∀ H2,(evE P call o l H=some (ov,H1))→(bmK m ov H1=true)→(evL P call es l H1=some (vs,H2))→(bmV m ov vs H2=some r)→zg):zg:=by
  refine bnd_some_k (m:=evE P call o l H) (f:=fun o H=>if bmK m o H then bnd (evL P call es l H) fun vs H=>bmV m o vs H else none) e fun ov H1 e1 e=>?_
  cases h:bmK m ov H1 with
  | false=>rw [h] at e; exact nn e
  | true =>
    rw [h] at e
    refine bnd_some_k (m:=evL P call es l H1) e fun vs H2 e2 e=>?_
    exact zk ov H1 vs H2 e1 h e2 e
theorem ev_prim_k {p:Pr} {es:List ME} {r:V×Hp} (e:evE P call (.prim p es) l H=some r) {zg:Prop} (zk:∀ vs,∀ H1,(evL P call es l H=some (vs,H1))→(primV p vs H1=some r)→zg):zg:=by
  obtain⟨vs,H1,zh1,zh2⟩:∃ vs H1,evL P call es l H=some (vs,H1)∧primV p vs H1=some r:=bnd_some (m:=evL P call es l H) (f:=fun vs H=>primV p vs H) e
  exact zk vs H1 zh1 zh2
theorem ev_isin_k {o:ME} {k:IK} (e:evE P call (.isin o k) l H=some (v,H')) {zg:Prop} (zk:∀ ov,∀ b,(evE P call o l H=some (ov,H'))→(isV ov k=some b)→(v=.bool b)→zg):zg:=by
  refine bnd_some_k (m:=evE P call o l H) (f:=fun v H=>(match isV v k with | some b=>some (V.bool b,H) | none=>none)) e fun ov H1 e1 e=>?_
  refine opt_bool_k e fun b h e=>?_
  cases e; exact zk ov b e1 h rfl
theorem ev_comp_k {elt src:ME} {t:CT} {k:Nat} {cs:List ME} (e:evE P call (.comp elt src t k cs) l H=some (v,H')) {zg:Prop} (zk:∀ sv,∀ H1,∀ itr,∀ vs,∀ H2,(evE P call src l H=some (sv,H1))→(iterV H1 sv=some itr)→(compN (fun l H=>evC P call cs l H) (fun l H=>evE P call elt l H) t (l++List.replicate k none) 1048576 itr [] H1=some (vs,H2))→(vs.length≤lim)→(v=.loc H2.length)→(H'=H2++[.list vs])→zg):zg:=by
  refine bnd_some_k (m:=evE P call src l H) (f:=fun s H=>(match iterV H s with
    | some it=>bnd (compN (fun l H=>evC P call cs l H) (fun l H=>evE P call elt l H) t (l++List.replicate k none) 1048576 it [] H) fun vs H =>
        if vs.length≤lim then some (V.loc H.length,H++[O.list vs]) else none
    | none=>none)) e fun sv H1 e1 e=>?_
  cases h:iterV H1 sv with
  | none=>rw [h] at e; exact nn e
  | some itr =>
    rw [h] at e
    refine bnd_some_k e fun vs H2 e2 e=>?_
    by_cases hl:vs.length≤lim
    · rw [if_pos hl] at e
      cases e
      exact zk sv H1 itr vs H2 e1 h e2 hl rfl rfl
    · rw [if_neg hl] at e; exact nn e
theorem ev_dict_k {es:List ME} (e:evE P call (.dict es) l H=some (v,H')) {zg:Prop} (zk:∀ ds,∀ H1,(evD P call es l H=some (ds,H1))→(v=.loc H1.length)→(H'=H1++[.dict ds])→zg):zg:=by
  refine bnd_some_k (m:=evD P call es l H) (f:=fun vs H=>some (V.loc H.length,H++[O.dict vs])) e fun vs H1 e1 e=>?_
  cases e; exact zk vs H1 e1 rfl rfl
theorem bndS_some_k {β:Type} {m:Option (Lo×Hp)} {f:Lo→Hp→Option β} {r:β} (e:bndS m f=some r) {zg:Prop} (zk:∀ l,∀ H,(m=some (l,H))→(f l H=some r)→zg):zg:=by
  cases m with
  | none=>exact nn e
  | some z=>exact zk z.1 z.2 rfl e
section
variable {r:Fl×Lo×Hp}
theorem ex_expr_k {e0:ME} (e:exS P call (.expr e0) l H=some r) {zg:Prop} (zk:∀ v,∀ H1,(evE P call e0 l H=some (v,H1))→((Fl.next,l,H1)=r)→zg):zg:=by
  refine bnd_some_k (m:=evE P call e0 l H) (f:=fun _ H=>(some (Fl.next,l,H):SR)) e fun v H1 e1 e=>?_
  exact zk v H1 e1 (Option.some.inj e)
theorem ex_ret_k {e0:ME} (e:exS P call (.ret e0) l H=some r) {zg:Prop} (zk:∀ v,∀ H1,(evE P call e0 l H=some (v,H1))→((Fl.ret v,l,H1)=r)→zg):zg:=by
  refine bnd_some_k (m:=evE P call e0 l H) (f:=fun v H=>(some (Fl.ret v,l,H):SR)) e fun v H1 e1 e=>?_
  exact zk v H1 e1 (Option.some.inj e)
theorem ex_asg_k {t:Tg} {e0:ME} (e:exS P call (.asg t e0) l H=some r) {zg:Prop} (zk:∀ v,∀ H1,∀ l1,∀ H2,(evE P call e0 l H=some (v,H1))→(asgT (evE P call) t v l H1=some (l1,H2))→((Fl.next,l1,H2)=r)→zg):zg:=by
  refine bnd_some_k (m:=evE P call e0 l H) (f:=fun v H=>bndS (asgT (evE P call) t v l H) fun l H=>(some (Fl.next,l,H):SR)) e fun v H1 e1 e=>?_
  refine bndS_some_k (m:=asgT (evE P call) t v l H1) e fun l1 H2 e2 e=>?_
  exact zk v H1 l1 H2 e1 e2 (Option.some.inj e)
theorem ex_asg {t:Tg} {e0:ME} (e:exS P call (.asg t e0) l H=some r):∃ v H1 l1 H2,evE P call e0 l H=some (v,H1)∧asgT (evE P call) t v l H1=some (l1,H2)∧(Fl.next,l1,H2)=r:=ex_asg_k e fun v H1 l1 H2 zh1 zh2 zh3=>⟨v,H1,l1,H2,zh1,zh2,zh3⟩
theorem ex_ife {t:ME} {b o:List MS} (e:exS P call (.ife t b o) l H=some r):∃ H1,(evE P call t l H=some (.bool true,H1)∧exB P call b l H1=some r)∨(evE P call t l H=some (.bool false,H1)∧exB P call o l H1=some r):=by
  refine bnd_some_k (m:=evE P call t l H) (f:=fun v H=>(match v with | .bool true=>exB P call b l H | .bool false=>exB P call o l H | _=>none)) e fun v H1 e1 e=>?_
  cases v with
  | bool q=>cases q with
    | true=>exact⟨H1,.inl ⟨e1,e⟩⟩
    | false=>exact⟨H1,.inr ⟨e1,e⟩⟩
  | _=>exact nn e
theorem ex_for_k {t:CT} {e0:ME} {b:List MS} (e:exS P call (.for t e0 b) l H=some r) {zg:Prop} (zk:∀ v,∀ H1,∀ it,(evE P call e0 l H=some (v,H1))→(iterV H1 v=some it)→(forN t (fun l H=>exB P call b l H) 1048576 it l H1=some r)→zg):zg:=by
  refine bnd_some_k (m:=evE P call e0 l H) (f:=fun v H=>(match iterV H v with
    | some it=>forN t (fun l H=>exB P call b l H) 1048576 it l H
    | none=>none)) e fun v H1 e1 e=>?_
  cases h:iterV H1 v with
  | none=>rw [h] at e; exact nn e
  | some it=>rw [h] at e; exact zk v H1 it e1 h e
theorem ex_auga_k {o:ME} {a:Nat} {op:BOp} {e0:ME} (e:exS P call (.auga o a op e0) l H=some r) {zg:Prop} (zk:∀ ov,∀ H1,∀ u,∀ b,∀ H2,∀ q,∀ H3,(evE P call o l H=some (ov,H1))→(getA H1 ov a=some u)→(evE P call e0 l H1=some (b,H2))→(augV op u b=some q)→(setA H2 ov a q=some H3)→((Fl.next,l,H3)=r)→zg):zg:=by
  refine bnd_some_k (m:=evE P call o l H) (f:=fun o H=>(match getA H o a with
    | some x=>bnd (evE P call e0 l H) fun b H=>(match augV op x b with | some r=>(match setA H o a r with | some H=>(some (.next,l,H):SR) | none=>none) | none=>none)
    | none=>none)) e fun ov H1 e1 e=>?_
  cases h:getA H1 ov a with
  | none=>rw [h] at e; exact nn e
  | some u =>
    rw [h] at e
    refine bnd_some_k (m:=evE P call e0 l H1) e fun b H2 e2 e=>?_
    cases h2:augV op u b with
    | none=>rw [h2] at e; exact nn e
    | some q =>
      rw [h2] at e
      dsimp only at e
      cases h3:setA H2 ov a q with
      | none=>rw [h3] at e; exact nn e
      | some H3=>rw [h3] at e; exact zk ov H1 u b H2 q H3 e1 h e2 h2 h3 (Option.some.inj e)
end
section
variable {ev:ME→Lo→Hp→Option (V×Hp)} {l1:Lo}
theorem as_attr_k {o:ME} {a:Nat} (e:asgT ev (.attr o a) v l H=some (l1,H')) {zg:Prop} (zk:∀ ov,∀ H1,(ev o l H=some (ov,H1))→(setA H1 ov a v=some H')→(l=l1)→zg):zg:=by
  refine bnd_some_k (m:=ev o l H) (f:=fun o H=>(match setA H o a v with | some H=>some (l,H) | none=>none)) e fun ov H1 e1 e=>?_
  cases h:setA H1 ov a v with
  | none=>rw [h] at e; exact nn e
  | some H2=>rw [h] at e; cases e; exact zk ov H1 e1 h rfl
theorem as_idx_k {o i:ME} (e:asgT ev (.idx o i) v l H=some (l1,H')) {zg:Prop} (zk:∀ ov,∀ H1,∀ iv,∀ H2,(ev o l H=some (ov,H1))→(ev i l H1=some (iv,H2))→(setI H2 ov iv v=some H')→(l=l1)→zg):zg:=by
  refine bnd_some_k (m:=ev o l H) (f:=fun o H=>bnd (ev i l H) fun i H=>(match setI H o i v with | some H=>some (l,H) | none=>none)) e fun ov H1 e1 e=>?_
  refine bnd_some_k (m:=ev i l H1) e fun iv H2 e2 e=>?_
  cases h:setI H2 ov iv v with
  | none=>rw [h] at e; exact nn e
  | some H3=>rw [h] at e; cases e; exact zk ov H1 iv H2 e1 e2 h rfl
theorem as_tup_k {ts:List Tg} {r:Lo×Hp} (e:asgT ev (.tup ts) v l H=some r) {zg:Prop} (zk:∀ vs,(unpk H v=some vs)→(asgTs ev ts vs l H=some r)→zg):zg:=by
  obtain⟨vs,zh1,zh2⟩:∃ vs,unpk H v=some vs∧asgTs ev ts vs l H=some r:=by
    have e:(match unpk H v with | some vs=>asgTs ev ts vs l H | none=>none)=some r:=e
    cases h:unpk H v with
    | none=>rw [h] at e; exact nn e
    | some vs=>rw [h] at e; exact⟨vs,rfl,e⟩
  exact zk vs zh1 zh2
theorem as_tup {ts:List Tg} {r:Lo×Hp} (e:asgT ev (.tup ts) v l H=some r):∃ vs,unpk H v=some vs∧asgTs ev ts vs l H=some r:=as_tup_k e fun vs zh1 zh2=>⟨vs,zh1,zh2⟩
end
end
end Mine
namespace Mine
noncomputable abbrev As:=List (Addr×Option Addr)
noncomputable def owned (as:As):List Addr:=as.flatMap fun p=>p.1::p.2.toList
inductive Im where
  | tup (ws:List Value) | ro (ws:List Value) | rng (a b c:Int)
noncomputable abbrev TS:=Addr→Im→Prop
structure Sur where
  prog:Program
  w:World
  P:Pg
  K:Frag
  fa:List Nat
  ca:List Nat
  G:Str→Option GV
  T0:TS
  h0:Heap
mutual
inductive VR (fa:List Nat) (as:As) (T:TS):V→Value→Prop
  | none:VR fa as T .none .none
  | bool (b:Bool):VR fa as T (.bool b) (.bool b)
  | int (i:Int) (t:Tok):VR fa as T (.int i) (.int i t)
  | str (s:List Nat) (t:Tok):s.length≤lim→VR fa as T (.str s) (.str ⟨s.toArray⟩ t)
  | tup {a:Addr} {l:List V} {ws:List Value}:T a (.tup ws)→l.length≤lim→VRs fa as T l ws→VR fa as T (.tup l) (.ref a)
  | ro {a:Addr} {l:List V} {ws:List Value}:T a (.ro ws)→l.length≤lim→VRs fa as T l ws→VR fa as T (.ro l) (.ref a)
  | rng {a:Addr} {i j k:Int}:T a (.rng i j k)→VR fa as T (.rng i j k) (.ref a)
  | loc {n:Nat} {p:Addr×Option Addr}:as[n]? = some p→VR fa as T (.loc n) (.ref p.1)
  | fn {k:Nat} {a:Addr}:fa[k]? = some a→VR fa as T (.fn k) (.ref a)
inductive VRs (fa:List Nat) (as:As) (T:TS):List V→List Value→Prop
  | nil:VRs fa as T [] []
  | cons {v:V} {w:Value} {l:List V} {ws:List Value}:VR fa as T v w→VRs fa as T l ws→VRs fa as T (v::l) (w::ws)
end
structure Mono (as:As) (T:TS) (as':As) (T':TS):Prop where
  asx:∀(n:Nat) (p:Addr×Option Addr),as[n]? = some p→as'[n]? = some p
  tx:∀(a:Addr) (i:Im),T a i→T' a i
theorem Mono.refl (as:As) (T:TS):Mono as T as T:=⟨fun _ _ e=>e,fun _ _ e=>e⟩
theorem Mono.trans {as as' as'':As} {T T' T'':TS} (x:Mono as T as' T') (y:Mono as' T' as'' T''):Mono as T as'' T'':=⟨fun n p e=>y.asx n p (x.asx n p e),fun a i e=>y.tx a i (x.tx a i e)⟩
mutual
theorem VR.mono {fa:List Nat} {as as':As} {T T':TS} (m:Mono as T as' T') {v:V} {w:Value} (x:VR fa as T v w):VR fa as' T' v w:=by
  cases x with
  | none=>exact .none
  | bool b=>exact .bool b
  | int i t=>exact .int i t
  | str s t h=>exact .str s t h
  | tup h k r=>exact .tup (m.tx _ _ h) k (VRs.mono m r)
  | ro h k r=>exact .ro (m.tx _ _ h) k (VRs.mono m r)
  | rng h=>exact .rng (m.tx _ _ h)
  | loc h=>exact .loc (m.asx _ _ h)
  | fn h=>exact .fn h
theorem VRs.mono {fa:List Nat} {as as':As} {T T':TS} (m:Mono as T as' T') {l:List V} {ws:List Value} (x:VRs fa as T l ws):VRs fa as' T' l ws:=by
  cases x with
  | nil=>exact .nil
  | cons h r=>exact .cons (VR.mono m h) (VRs.mono m r)
end
section
variable {fa:List Nat} {as:As} {T:TS}
theorem VRs.length:∀ {l:List V} {ws:List Value},VRs fa as T l ws→ws.length=l.length
  | _,_,.nil=>rfl
  | _,_,.cons _ r=>congrArg (· + 1) (VRs.length r)
theorem VRs.get:∀ {l:List V} {ws:List Value} (n:Nat),VRs fa as T l ws→∀ {v:V},l[n]? = some v→∃ w,ws[n]? = some w∧VR fa as T v w
  | _,_,0,.cons h _,_,e=>by cases e; exact⟨_,rfl,h⟩
  | _,_,n+1,.cons _ r,_,e=>VRs.get n r (by simpa using e)
theorem VRs.append:∀ {l m:List V} {ws us:List Value},VRs fa as T l ws→VRs fa as T m us→VRs fa as T (l++m) (ws++us)
  | _,_,_,_,.nil,r=>r
  | _,_,_,_,.cons h r,q=>.cons h (VRs.append r q)
theorem VRs.set:∀ {l:List V} {ws:List Value} (n:Nat) {v:V} {w:Value},VRs fa as T l ws→VR fa as T v w→VRs fa as T (l.set n v) (ws.set n w)
  | _,_,_,_,_,.nil,_=>.nil
  | _,_,0,_,_,.cons _ r,q=>.cons q r
  | _,_,n+1,_,_,.cons h r,q=>.cons h (VRs.set n r q)
theorem VRs.take:∀ {l:List V} {ws:List Value} (n:Nat),VRs fa as T l ws→VRs fa as T (l.take n) (ws.take n)
  | _,_,0,_=>by simp; exact .nil
  | _,_,_+1,.nil=>.nil
  | _,_,n+1,.cons h r=>.cons h (VRs.take n r)
theorem VRs.drop:∀ {l:List V} {ws:List Value} (n:Nat),VRs fa as T l ws→VRs fa as T (l.drop n) (ws.drop n)
  | _,_,0,h=>by simpa using h
  | _,_,_+1,.nil=>.nil
  | _,_,n+1,.cons _ r=>VRs.drop n r
theorem VRs.reverse:∀ {l:List V} {ws:List Value},VRs fa as T l ws→VRs fa as T l.reverse ws.reverse
  | _,_,.nil=>.nil
  | _,_,.cons h r=>by
    rw [List.reverse_cons,List.reverse_cons]
    exact VRs.append (VRs.reverse r) (.cons h .nil)
end
noncomputable def ImAt (h:Heap) (a:Addr):Im→Prop
  | .tup ws=>h.IsTuple a ws.toArray
  | .ro ws=>h.IsList a ws.toArray
  | .rng i j k=>∃ t u v,IsRange h a i j k t u v
theorem ImAt.keep {h h':Heap} {a:Addr} {i:Im} (x:ImAt h a i) (k:∀ o,h.get? a=some o→h'.get? a=some o):ImAt h' a i:=by
  cases i with
  | tup ws=>obtain⟨o,e,r⟩:=x; exact⟨o,k _ e,r⟩
  | ro ws=>obtain⟨o,e,r⟩:=x; exact⟨o,k _ e,r⟩
  | rng i j l=>obtain⟨t,u,v,e⟩:=x; exact⟨t,u,v,k _ e⟩
noncomputable def lst (ws:List Value) (n:Nat):Obj:={ cls:=.type "list",data:=.seq ws.toArray n }
inductive DR (S:Sur) (as:As) (T:TS):List (List Nat×V)→List (Str×Value)→Prop
  | nil:DR S as T [] []
  | cons {k:List Nat} {v:V} {w:Value} {es:List (List Nat×V)} {ds:List (Str×Value)}:VR S.fa as T v w→DR S as T es ds→DR S as T ((k,v)::es) ((⟨k.toArray⟩,w)::ds)
noncomputable def FR (S:Sur) (as:As) (T:TS) (fs:List (Nat×V)) (m:Str→Option Value):Prop :=
  (∀ i v,lookN i fs=some v→i<22∧∃ w,m (nmOf i)=some w∧VR S.fa as T v w)∧∀ x w,m x=some w→∃ i,i<22∧x=nmOf i∧(lookN i fs).isSome
theorem DR.mono {S:Sur} {as as':As} {T T':TS} (m:Mono as T as' T'):∀ {es:List (List Nat×V)} {ds:List (Str×Value)},DR S as T es ds→DR S as' T' es ds
  | _,_,.nil=>.nil
  | _,_,.cons h r=>.cons (h.mono m) (DR.mono m r)
theorem FR.mono {S:Sur} {as as':As} {T T':TS} (m:Mono as T as' T') {fs:List (Nat×V)} {f:Str→Option Value} (h:FR S as T fs f):FR S as' T' fs f :=
  ⟨fun i v e=>let ⟨a,w,b,c⟩:=h.1 i v e; ⟨a,w,b,c.mono m⟩,h.2⟩
inductive OR (S:Sur) (as:As) (T:TS) (h:Heap):O→Addr×Option Addr→Prop
  | list {l:List V} {a:Addr} {ws:List Value} {n:Nat}:h.get? a=some (lst ws n)→l.length≤lim→VRs S.fa as T l ws→OR S as T h (.list l) (a,none)
  | dict {es:List (List Nat×V)} {a:Addr} {ds:List (Str×Value)}:h.DictOf (strKind S.prog S.w) a ds→es.length≤1024→DR S as T es ds→OR S as T h (.dict es) (a,none)
  | inst {c:Nat} {fs:List (Nat×V)} {C a dx:Addr} {f:Str→Option Value}:c<5→S.ca[c]? = some C→h.get? a=some (instObj C dx)→h.Ns1 dx f→FR S as T fs f →
      OR S as T h (.inst c fs) (a,some dx)
theorem mem_owned {as:As} {n:Nat} {p:Addr×Option Addr} (h:as[n]? = some p):p.1∈owned as∧∀ d,p.2=some d→d∈owned as:=by
  have hm:=List.mem_of_getElem? h
  refine⟨List.mem_flatMap.mpr ⟨p,hm,.head _⟩,fun d e=>List.mem_flatMap.mpr ⟨p,hm,?_⟩⟩
  rw [e]; exact .tail _ (.head _)
theorem OR.keep {S:Sur} {as as':As} {T T':TS} {h h':Heap} {o:O} {p:Addr×Option Addr} (x:OR S as T h o p) (m:Mono as T as' T')
    (k1:∀ q,h.get? p.1=some q→h'.get? p.1=some q) (k2:∀ d q,p.2=some d→h.get? d=some q→h'.get? d=some q):OR S as' T' h' o p:=by
  cases x with
  | list e z r=>exact .list (k1 _ e) z (r.mono m)
  | dict e z r=>exact .dict (let ⟨o,es,ep,q,t⟩:=e; ⟨o,es,ep,k1 _ q,t⟩) z (r.mono m)
  | inst c5 c e1 e2 r=>exact .inst c5 c (k1 _ e1) (e2.at fun o q=>k2 _ _ rfl q) (r.mono m)
structure HR (S:Sur) (as:As) (T:TS) (H:Hp) (h:Heap):Prop where
  base:∀ b o,S.h0.get? b=some o→h.get? b=some o
  len:as.length=H.length
  obj:∀(n:Nat) (o:O) (p:Addr×Option Addr),H[n]? = some o→as[n]? = some p→OR S as T h o p
  nd:(owned as).Nodup
  new:∀ a∈owned as,S.h0.get? a=none
  im:∀ a i,T a i→ImAt h a i
  t0:∀ a i,S.T0 a i→T a i
  ro:∀ a ws,T a (.ro ws)→∃ o,S.h0.get? a=some o
  two:∃ o,S.h0.get? cStatics=some o
  big:∀ a∈owned as,sysModules<a
structure Ext (X:Addr→Prop) (as:As) (T:TS) (h:Heap) (as':As) (T':TS) (h':Heap):Prop where
  mono:Mono as T as' T'
  kp:∀ b o,b ∉ owned as→¬ X b→h.get? b=some o→h'.get? b=some o
  al:∀ b,X b→(h.get? b).isSome→(h'.get? b).isSome
  own:∀ b∈owned as',b∈owned as∨h.get? b=none
noncomputable def Nil:Addr→Prop:=fun _=>False
theorem Ext.refl (X:Addr→Prop) (as:As) (T:TS) (h:Heap):Ext X as T h as T h:=⟨.refl ..,fun _ _ _ _ e=>e,fun _ _ e=>e,fun _ e=>.inl e⟩
theorem Ext.trans {X:Addr→Prop} {as as1 as2:As} {T T1 T2:TS} {h h1 h2:Heap} (x:Ext X as T h as1 T1 h1) (y:Ext X as1 T1 h1 as2 T2 h2):Ext X as T h as2 T2 h2:=by
  refine⟨x.mono.trans y.mono,fun b o n1 n2 e=>?_,fun b hb e=>y.al b hb (x.al b hb e),fun b hb=>?_⟩
  · have e1:=x.kp b o n1 n2 e
    refine y.kp b o (fun hb=>?_) n2 e1
    rcases x.own b hb with q | q
    · exact n1 q
    · rw [q] at e; first | exact nn e | exact ff e | cases e
  · rcases y.own b hb with q | q
    · exact x.own b q
    · cases e:h.get? b with
      | none=>exact .inr rfl
      | some o =>
        by_cases ho:b∈owned as
        · exact .inl ho
        · by_cases hX:X b
          · have:=x.al b hX (by rw [e]; rfl); rw [q] at this; first | exact nn this | exact ff this | cases this
          · have:=x.kp b o ho hX e; rw [q] at this; first | exact nn this | exact ff this | cases this
theorem Ext.weak {X Y:Addr→Prop} {as as1:As} {T T1:TS} {h h1:Heap} (x:Ext Nil as T h as1 T1 h1) (hY:∀ b,Y b→b ∉ owned as):Ext Y as T h as1 T1 h1 :=
  ⟨x.mono,fun b o n1 _ e=>x.kp b o n1 (fun q=>q) e,fun b hb e=>by
    obtain⟨o,e⟩:=Option.isSome_iff_exists.mp e
    rw [x.kp b o (hY b hb) (fun q=>q) e]; rfl,x.own⟩
theorem HR.keep {S:Sur} {as:As} {T:TS} {H:Hp} {h h':Heap} (x:HR S as T H h) (k:∀ b o,h.get? b=some o→h'.get? b=some o):HR S as T H h' :=
  ⟨fun b o e=>k b o (x.base b o e),x.len,fun n o p e1 e2=>(x.obj n o p e1 e2).keep (.refl ..) (fun q=>k _ q) (fun d q _=>k _ q),x.nd,x.new,fun a i t=>(x.im a i t).keep (k a),x.t0,x.ro,x.two,x.big⟩
theorem HR.but {S:Sur} {as:As} {T:TS} {H:Hp} {h h':Heap} {y:Addr} (x:HR S as T H h) (k:∀ b o,b≠y→h.get? b=some o→h'.get? b=some o) (ho:y ∉ owned as) (hb:S.h0.get? y=none) (hT:∀ i,¬ T y i):HR S as T H h':=by
  refine⟨fun b o e=>k b o (fun q=>by rw [q,hb] at e; cases e) (x.base b o e),x.len,fun n o p e1 e2=>?_,x.nd,x.new,fun a i t=>(x.im a i t).keep fun o e=>k a o (fun q=>hT i (q▸t)) e,x.t0,x.ro,x.two,x.big⟩
  have hm:=mem_owned e2
  exact(x.obj n o p e1 e2).keep (.refl ..) (fun q=>k _ q fun z=>ho (z▸hm.1)) (fun d q hd=>k _ q fun z=>ho (z▸hm.2 d hd))
theorem owned_append (as bs:As):owned (as++bs)=owned as++owned bs:=by simp [owned]
theorem getElem?_append_some {α:Type} {l m:List α} {n:Nat} {a:α} (h:l[n]? = some a):(l++m)[n]? = some a:=by
  rw [List.getElem?_append_left (by have:=List.getElem?_eq_some_iff.mp h; exact this.1)]; exact h
theorem HR.alive {S:Sur} {as:As} {T:TS} {H:Hp} {h:Heap} (x:HR S as T H h) {b:Addr} (hb:b∈owned as):∃ q,h.get? b=some q:=by
  obtain⟨q,hq,hb⟩:=List.mem_flatMap.mp hb
  obtain⟨n,hn⟩:=List.getElem?_of_mem hq
  have hl:n<H.length:=by rw [← x.len]; exact(List.getElem?_eq_some_iff.mp hn).1
  obtain⟨o,ho⟩:∃ o,H[n]? = some o:=⟨_,List.getElem?_eq_getElem hl⟩
  have:=x.obj n o q ho hn
  cases this with
  | list e _ _=>simp at hb; subst hb; exact⟨_,e⟩
  | dict e _ _=>simp at hb; subst hb; exact(let ⟨o,_,_,e,_⟩:=e; ⟨o,e⟩)
  | inst _ _ e1 e2 _=>simp at hb; rcases hb with rfl | rfl; exact⟨_,e1⟩; exact(let ⟨o,_,_,e,_⟩:=e2; ⟨o,e⟩)
theorem HR.alloc {S:Sur} {as:As} {T:TS} {H:Hp} {h h':Heap} {o:O} {p:Addr×Option Addr} (x:HR S as T H h) (k:∀ b q,h.get? b=some q→h'.get? b=some q)
    (hn:(p.1::p.2.toList).Nodup) (hf:∀ a∈p.1::p.2.toList,h.objs.size≤a) (ho:OR S (as++[p]) T h' o p):HR S (as++[p]) T (H++[o]) h':=by
  have hs:=hf
  have hf:∀ a∈p.1::p.2.toList,h.get? a=none:=fun a ha=>by
    cases e:h.get? a with
    | none=>rfl
    | some o=>exact absurd (Heap.lt_size e) (Nat.not_lt.mpr (hs a ha))
  have m:Mono as T (as++[p]) T:=⟨fun n q e=>getElem?_append_some e,fun _ _ e=>e⟩
  refine⟨fun b q e=>k _ _ (x.base b q e),by simp [x.len],fun n q r e1 e2=>?_,?_,fun a ha=>?_,fun a i t=>(x.im a i t).keep (k a),x.t0,x.ro,x.two,fun a ha=>?_⟩
  · by_cases hl:n<H.length
    · rw [List.getElem?_append_left hl] at e1
      rw [List.getElem?_append_left (by rw [x.len]; exact hl)] at e2
      exact(x.obj n q r e1 e2).keep m (k _) (fun d z _=>k _ z)
    · have:n=H.length:=by
        have:=(List.getElem?_eq_some_iff.mp e1).1; simp at this; exact Nat.le_antisymm (Nat.not_lt.mp (lin [_,_] (.c 1 (.a (.v 0) (.n 1)) (.a (.v 1) (.n 1)) (.c 1 (.a (.v 1) (.n 1)) (.v 0) .z)) rfl this)) (Nat.not_lt.mp (lin [_,_] (.c 1 (.v 0) (.v 1) (.c 1 (.a (.v 1) (.n 1)) (.v 0) .z)) rfl (Nat.not_lt.mp hl)))
      subst this
      rw [List.getElem?_append_right (Nat.le_refl _),Nat.sub_self] at e1
      rw [List.getElem?_append_right (by rw [x.len]; exact Nat.le_refl _),x.len,Nat.sub_self] at e2
      cases e1; cases e2; exact ho
  · rw [owned_append]
    refine List.nodup_append.mpr ⟨x.nd,by simpa [owned] using hn,fun a ha b hb e=>?_⟩
    obtain⟨q,hq⟩:=x.alive ha
    rw [e,hf b (by simpa [owned] using hb)] at hq; cases hq
  · rw [owned_append] at ha
    rcases List.mem_append.mp ha with q | q
    · exact x.new a q
    · cases e:S.h0.get? a with
      | none=>rfl
      | some o'=>have:=x.base a o' e; rw [hf a (by simpa [owned] using q)] at this; cases this
  · rw [owned_append] at ha
    rcases List.mem_append.mp ha with q | q
    · exact x.big a q
    · obtain⟨o',ho'⟩:=x.two
      have h2:=Heap.lt_size (x.base _ _ ho')
      have h3:=hs a (by simpa [owned] using q)
      exact Nat.lt_of_lt_of_le (Nat.lt_trans (by decide) h2) h3
theorem nodup_flat_apart {α β:Type} {f:α→List β}:∀ {l:List α} {i j:Nat} {a b:α},(l.flatMap f).Nodup→l[i]? = some a→l[j]? = some b→i≠j→∀ x∈f a,x ∉ f b:=by
  intro l
  induction l with
  | nil=>intro i j a b _ h; simp at h
  | cons c r ih =>
    intro i j a b hn hi hj hij x hx hb
    rw [List.flatMap_cons] at hn
    obtain⟨n1,n2,n3⟩:=List.nodup_append.mp hn
    cases i with
    | zero=>cases j with
      | zero=>exact hij rfl
      | succ j =>
        simp at hi hj; subst hi
        exact n3 x hx x (List.mem_flatMap.mpr ⟨b,List.mem_of_getElem? hj,hb⟩) rfl
    | succ i=>cases j with
      | zero =>
        simp at hi hj; subst hj
        exact n3 x hb x (List.mem_flatMap.mpr ⟨a,List.mem_of_getElem? hi,hx⟩) rfl
      | succ j =>
        simp at hi hj
        exact ih n2 hi hj (fun q=>hij (by rw [q])) x hx hb
theorem HR.upd {S:Sur} {as:As} {T:TS} {H:Hp} {h h':Heap} {n:Nat} {o:O} {p:Addr×Option Addr} {y:Addr} (x:HR S as T H h) (hp:as[n]? = some p) (hn:n<H.length)
    (hy:y∈p.1::p.2.toList) (k:∀ b q,b≠y→h.get? b=some q→h'.get? b=some q) (ho:OR S as T h' o p) (hT:∀ i,¬ T y i):HR S as T (H.set n o) h':=by
  have yo:y∈owned as:=List.mem_flatMap.mpr ⟨p,List.mem_of_getElem? hp,hy⟩
  refine⟨fun b q e=>k _ _ (fun z=>by rw [z,x.new y yo] at e; cases e) (x.base b q e),by simp [x.len],fun m q r e1 e2=>?_,x.nd,x.new,fun a i t=>(x.im a i t).keep fun q e=>k _ _ (fun z=>hT i (z▸t)) e,x.t0,x.ro,x.two,x.big⟩
  by_cases hm:m=n
  · subst hm
    rw [List.getElem?_set_self hn] at e1
    rw [hp] at e2
    cases e1; cases e2; exact ho
  · rw [List.getElem?_set_ne (Ne.symm hm)] at e1
    have ap:=nodup_flat_apart (f:=fun p:Addr×Option Addr=>p.1::p.2.toList) x.nd e2 hp hm
    exact(x.obj m q r e1 e2).keep (.refl ..) (fun z=>k _ z fun w=>ap _ (.head _) (w▸hy)) (fun d z hd=>k _ z fun w=>ap d (by rw [hd]; exact .tail _ (.head _)) (w▸hy))
end Mine
namespace Mine
theorem kindIs_eq {k l:NameKind} (h:kindIs k l=true):k=l:=by cases k <;> cases l <;> first | rfl | exact ff h | exact nn h | cases h
theorem nkOf_eq (x:Str):∀ nm:Nms,nkOf x nm=nm.lookup x
  | []=>rfl
  | (y,k)::r=>by
    rw [nkOf_2,List.lookup_cons]
    cases h:(x == y) with
    | true=>simp
    | false=>simp; exact nkOf_eq x r
theorem noDbg_mem:∀ {nm:Nms} {x:Str} {k:NameKind},noDbg nm=true→nm.lookup x=some k→(x == (Str.ofString "__debug__"))=false
  | (y,k')::r,x,k,h,e=>by
    simp only [noDbg_1,noDbg_2,Bool.and_eq_true,Bool.not_eq_true'] at h
    rw [List.lookup_cons] at e
    cases q:(x == y) with
    | true=>rw [beq_iff_eq.mp q]; exact h.1
    | false=>rw [q] at e; exact noDbg_mem h.2 e
noncomputable def primVal:Pr→Value
  | .len=>.builtin "len"
  | .abs=>.builtin "abs"
  | .int=>.type "int"
  | .chr=>.builtin "chr"
  | .ord=>.builtin "ord"
  | .list=>.type "list"
  | .range=>.type "range"
  | .min=>.builtin "min"
  | .str=>.type "str"
theorem boot_prim (p:Pr):bootBuiltins (prName p)=some (primVal p)∧prName p≠"__name__":=by cases p <;> exact⟨by kernel_rfl,by decide +kernel⟩
theorem boot_isi:bootBuiltins (Str.ofString "isinstance")=some (.builtin "isinstance")∧Str.ofString "isinstance"≠"__name__":=⟨by kernel_rfl,by decide +kernel⟩
theorem boot_tuple:bootBuiltins (Str.ofString "tuple")=some (.type "tuple")∧Str.ofString "tuple"≠"__name__":=⟨by kernel_rfl,by decide +kernel⟩
structure ClsOk (S:Sur) (C:Addr) (ci:CI):Prop where
  makes:makesIn S.K C=true
  init:∃ a,S.fa[ci.init]? = some a∧findIn S.K (.ref C) "__init__" = some (some (.ref a))∧typeIn S.K (.ref a)=some (.type "function")
  get:findIn S.K (.ref C) "__getattribute__" = some (some (.builtin "object.__getattribute__"))∧findIn S.K (.ref C) "__getattr__" = some none
  hasDict:hasDictIn S.K C=true
  attr:∀ i,i<22→∃ at',findIn S.K (.ref C) (nmOf i)=some at'∧noGet S.K at'=true
  take:∀ i,i<22→takerIn S.K C (nmOf i)=some none
  set:findIn S.K (.ref C) "__setattr__" = some (some (.builtin "object.__setattr__"))
  over:plainOver S.K C=true
  meth:∀ m k,lookN m ci.meths=some k→∃ a,S.fa[k]? = some a∧findIn S.K (.ref C) (mmOf m)=some (some (.ref a))∧typeIn S.K (.ref a)=some (.type "function")
  apart:∀ m k i,lookN m ci.meths=some k→i<22→(nmOf i == mmOf m)=false
noncomputable def tyNames:List String:=["int","str","bool","NoneType","tuple"]
noncomputable def kitAll (K:Frag) (ca:List Nat):Bool :=
  tyNames.all (fun t=>["int","str","tuple"].all fun c=>kitOne K (.type t) (.type c) == some (t == c || (t == "bool" && c == "int"))) &&
  ca.all fun D=>kitOne K (.type "int") (.ref D) == some false && kitOne K (.type "str") (.ref D) == some false
structure Cx (S:Sur):Prop where
  X:S.K.In S.h0
  lim:S.h0.NoLimit
  ns:∃ mg mb,S.h0.Ns mainGlobals mg∧S.h0.Ns builtinsNs mb∧(∀ x:Str,x≠"__name__"→mb x=bootBuiltins x)
  gfn:∀ x k,S.G x=some (.fn k)→∃ a,S.fa[k]? = some a∧nsIn S.K mainGlobals x=some (some (.ref a))
  gval:∀ x v,S.G x=some (.val v)→∃ u,nsIn S.K mainGlobals x=some (some u)∧VR S.fa [] S.T0 v u
  gcls:∀ x c,S.G x=some (.cls c)→∃ C,S.ca[c]? = some C∧nsIn S.K mainGlobals x=some (some (.ref C))∧x=CLSN.getD c Str.empty
  gpr:∀ x p,S.G x=some (.pr p)→nsIn S.K mainGlobals x=some none
  gisi:∀ x,S.G x=some .isi→nsIn S.K mainGlobals x=some none∧x=Str.ofString "isinstance"
  gtyp:∀ x k,S.G x=some (.typ k)→nsIn S.K mainGlobals x=some none
  fns:∀(k:Nat) (fi:FI),S.P.fns[k]? = some fi→∃ a:Nat,S.fa[k]? = some a∧chK S.G S.K fi a=true
  keep:∀(k a:Nat),S.fa[k]? = some a→keepIn S.K (.ref a)=true
  keepC:∀(c C:Nat),S.ca[c]? = some C→keepIn S.K (.ref C)=true
  cls:∀(c C:Nat),c<5→S.ca[c]? = some C→∃ ci:CI,S.P.cls[c]? = some ci∧ClsOk S C ci
  kit:kitAll S.K S.ca=true
structure AOk (A:Around) (d:Nat):Prop where
  handled:A.handled=none
  depth:A.depth+4 * d+8≤1000
  units:A.units+32 * d+200≤9900
structure ER (S:Sur) (as:As) (T:TS) (env:Env) (nm:Nms) (sl:Sl) (l:Lo) (h:Heap):Prop where
  kind:env.scope.kind=.function
  glob:env.globals=mainGlobals
  blt:env.builtins=builtinsNs
  names:env.scope.names=nm
  dbg:noDbg nm=true
  len:l.length=sl.length
  nd:∀(i j:Nat) (x:Str) (b c:Bool),sl[i]? = some (some (x,b))→sl[j]? = some (some (x,c))→i=j
  loc:∃ m,h.Ns env.locals m∧∀(i:Nat) (v:V) (x:Str),l[i]? = some (some v)→sl[i]? = some (some (x,false))→∃ w,m x=some w∧VR S.fa as T v w
  cell:∀(i:Nat) (x:Str),sl[i]? = some (some (x,true))→∃ c w,env.cells.lookup x=some c∧h.IsCell c w∧∀ v,l[i]? = some (some v)→∃ u,w=some u∧VR S.fa as T v u
  cellx:∀ x y c,env.cells.lookup x=some c→env.cells.lookup y=some c→x=y
  cella:∀ x c,env.cells.lookup x=some c→∃ w,h.IsCell c w
  frame:env.locals ∉ owned as∧S.h0.get? env.locals=none
  cells:∀ x c,env.cells.lookup x=some c→c ∉ owned as∧S.h0.get? c=none
noncomputable def EX (env:Env) (b:Addr):Prop:=b=env.locals∨∃ x,env.cells.lookup x=some b
section
variable {S:Sur} {as as':As} {T T':TS} {H H':Hp} {h h':Heap} {env:Env} {nm:Nms} {sl:Sl} {l:Lo}
theorem ns_alive {a:Addr} {m:Str→Option Value} (n:h.Ns a m):∃ o,h.get? a=some o:=let ⟨o,_,_,e,_⟩:=n; ⟨o,e⟩
theorem ns_keep {a:Addr} {m:Str→Option Value} (n:h.Ns a m) (k:∀ o,h.get? a=some o→h'.get? a=some o):h'.Ns a m:=let ⟨o,es,ep,e,r⟩:=n; ⟨o,es,ep,k _ e,r⟩
theorem cell_alive {c:Addr} {w:Option Value} (n:h.IsCell c w):∃ o,h.get? c=some o:=let ⟨o,e,_⟩:=n; ⟨o,e⟩
theorem cell_keep {c:Addr} {w:Option Value} (n:h.IsCell c w) (k:∀ o,h.get? c=some o→h'.get? c=some o):h'.IsCell c w:=let ⟨o,e,r⟩:=n; ⟨o,k _ e,r⟩
theorem ER.ext (x:ER S as T env nm sl l h) (e:Ext Nil as T h as' T' h'):ER S as' T' env nm sl l h':=by
  have k:∀ b o,b ∉ owned as→h.get? b=some o→h'.get? b=some o:=fun b o n q=>e.kp b o n (fun z=>z) q
  have own:∀ b o,b ∉ owned as→h.get? b=some o→b ∉ owned as':=fun b o n q hb=>by
    rcases e.own b hb with z | z
    · exact n z
    · rw [z] at q; first | exact nn q | exact ff q | cases q
  obtain⟨m,hn,hm⟩:=x.loc
  obtain⟨oL,hL⟩:=ns_alive hn
  refine⟨x.kind,x.glob,x.blt,x.names,x.dbg,x.len,x.nd,⟨m,ns_keep hn fun o=>k _ o x.frame.1,fun i v y e1 e2=>?_⟩,fun i y e1=>?_,x.cellx,fun y c e1=>?_,⟨own _ _ x.frame.1 hL,x.frame.2⟩,fun y c e1=>?_⟩
  · obtain⟨w,h1,h2⟩:=hm i v y e1 e2
    exact⟨w,h1,h2.mono e.mono⟩
  · obtain⟨c,w,h1,h2,h3⟩:=x.cell i y e1
    refine⟨c,w,h1,cell_keep h2 fun o=>k _ o (x.cells y c h1).1,fun v hv=>?_⟩
    obtain⟨u,h4,h5⟩:=h3 v hv
    exact⟨u,h4,h5.mono e.mono⟩
  · obtain⟨w,h2⟩:=x.cella y c e1
    exact⟨w,cell_keep h2 fun o=>k _ o (x.cells y c e1).1⟩
  · obtain⟨w,h2⟩:=x.cella y c e1
    obtain⟨o,ho⟩:=cell_alive h2
    exact⟨own _ _ (x.cells y c e1).1 ho,(x.cells y c e1).2⟩
theorem noT_ns (x:HR S as T H h) {a:Addr} {m:Str→Option Value} (n:h.Ns a m) (i:Im):¬ T a i:=fun t=>by
  have:=x.im a i t
  obtain⟨o,es,ep,e,d,_⟩:=n
  cases i with
  | tup ws=>obtain⟨o',e',_,k,d'⟩:=this; rw [e] at e'; cases e'; rw [d] at d'; cases d'
  | ro ws=>obtain⟨o',e',_,k,d'⟩:=this; rw [e] at e'; cases e'; rw [d] at d'; cases d'
  | rng i j k=>obtain⟨t,u,v,e'⟩:=this; have e2:=e.symm.trans e'; cases e2; cases d
theorem noT_cell (x:HR S as T H h) {a:Addr} {w:Option Value} (n:h.IsCell a w) (i:Im):¬ T a i:=fun t=>by
  have:=x.im a i t
  obtain⟨o,e,d⟩:=n
  cases i with
  | tup ws=>obtain⟨o',e',_,k,d'⟩:=this; rw [e] at e'; cases e'; rw [d] at d'; cases d'
  | ro ws=>obtain⟨o',e',_,k,d'⟩:=this; rw [e] at e'; cases e'; rw [d] at d'; cases d'
  | rng i j k=>obtain⟨t,u,v,e'⟩:=this; have e2:=e.symm.trans e'; cases e2; cases d
variable {M:Model} {A:Around} {E:Value→Shared→Prop} {s:Shared} {Q:Value→Shared→Prop} {pos:Pos}
theorem isLoc_spec_k {i:Nat} {x:Str} (c:isLoc nm sl i x=true) {zg:Prop} (zk:∀ b,(sl[i]? = some (some (x,b)))→(nm.lookup x=some (kOf b))→zg):zg:=by
  unfold isLoc at c
  split at c
  · rename_i y b e
    simp only [Bool.and_eq_true] at c
    obtain⟨c1,c2⟩:=c
    obtain rfl:=beq_iff_eq.mp c1
    split at c2
    · rename_i k hk
      refine zk b e ?_
      rw [← nkOf_eq,hk,kindIs_eq c2]
    · first | exact ff c2 | exact nn c2 | cases c2
  · first | exact ff c | exact nn c | cases c
theorem name_loc (x:ER S as T env nm sl l s.heap) {i:Nat} {v:V} {n:Str} (c:isLoc nm sl i n=true) (hv:l[i]? = some (some v)) (k:∀ w,VR S.fa as T v w→Q w s):wpAny M A (eval (.Name n pos) env) Q E s:=by
  refine isLoc_spec_k c fun b e1 e2=>?_
  have hk:env.kindOf n=some (kOf b):=by unfold Env.kindOf; rw [x.names]; exact e2
  have hd:=noDbg_mem x.dbg e2
  cases b with
  | false =>
    obtain⟨m,hn,hm⟩:=x.loc
    obtain⟨w,h1,h2⟩:=hm i v n hv e1
    exact wpAny_Name (wpAny_loadName_local x.kind hk hn h1 (k w h2)) hd
  | true =>
    obtain⟨c,w,h1,h2,h3⟩:=x.cell i n e1
    obtain⟨u,rfl,h5⟩:=h3 v hv
    exact wpAny_Name (wpAny_loadName_cell x.kind hk h1 h2 (k u h5)) hd
theorem isGlob_spec {x:Str} (c:isGlob nm x=true):nm.lookup x=some .globalImplicit:=by
  unfold isGlob at c
  split at c
  · rename_i k hk; rw [← nkOf_eq,hk,kindIs_eq c]
  · first | exact ff c | exact nn c | cases c
theorem gIs_spec_k {G:Str→Option GV} {x:Str} {p:GV→Bool} (c:gIs G nm x p=true) {zg:Prop} (zk:(nm.lookup x=some .globalImplicit)→∀ g,(G x=some g)→(p g=true)→zg):zg:=by
  obtain⟨zh1,g,zh2,zh3⟩:nm.lookup x=some .globalImplicit∧∃ g,G x=some g∧p g=true:=by
    unfold gIs at c
    simp only [Bool.and_eq_true] at c
    refine⟨isGlob_spec c.1,?_⟩
    have:=c.2
    split at this
    · rename_i g hg; exact⟨g,hg,this⟩
    · first | exact ff this | exact nn this | cases this
  exact zk zh1 g zh2 zh3
theorem name_glob (C:Cx S) (x:ER S as T env nm sl l s.heap) (hr:HR S as T H s.heap) {n:Str} (hg:nm.lookup n=some .globalImplicit) {v:Value} (hv:nsIn S.K mainGlobals n=some (some v)) (k:Q v s):wpAny M A (eval (.Name n pos) env) Q E s:=by
  obtain⟨mg,mb,h1,h2,h3⟩:=C.ns
  refine Calls.Name_function_global x.kind (by unfold Env.kindOf; rw [x.names]; exact hg) (Calls.loadGlobal_global (mg:=mg) (by rw [x.glob]; exact h1.keeps hr.base) (mg_of C.X h1 hv) k) (noDbg_mem x.dbg hg)
theorem name_blt (C:Cx S) (x:ER S as T env nm sl l s.heap) (hr:HR S as T H s.heap) {n:Str} (hg:nm.lookup n=some .globalImplicit) {v:Value} (hn:nsIn S.K mainGlobals n=some none) (hv:bootBuiltins n=some v) (h':n≠"__name__") (k:Q v s):wpAny M A (eval (.Name n pos) env) Q E s:=by
  obtain⟨mg,mb,h1,h2,h3⟩:=C.ns
  refine Calls.Name_function_global x.kind (by unfold Env.kindOf; rw [x.names]; exact hg) (Calls.loadGlobal_builtin (mg:=mg) (mb:=mb) (by rw [x.glob]; exact h1.keeps hr.base) (mg_none_of C.X h1 hn) (by rw [x.blt]; exact h2.keeps hr.base) ((h3 n h').trans hv) k) (noDbg_mem x.dbg hg)
end
end Mine
namespace Mine
noncomputable def Ret (S:Sur) (as:As) (T:TS) (s:Shared) (H':Hp) (v:V) (Q:Value→Shared→Prop):Prop :=
  ∀ w h' tk as' T',Ext Nil as T s.heap as' T' h'→HR S as' T' H' h'→VR S.fa as' T' v w→Q w { s with heap:=h',toks:=tk }
noncomputable def RetU (S:Sur) (as:As) (T:TS) (s:Shared) (H':Hp) (Q:Unit→Shared→Prop):Prop :=
  ∀ h' tk as' T',Ext Nil as T s.heap as' T' h'→HR S as' T' H' h'→Q () { s with heap:=h',toks:=tk }
section
variable {S:Sur} {as as1:As} {T T1:TS} {H H':Hp} {h h' h1:Heap} {s:Shared} {v:V} {w:Value} {Q:Value→Shared→Prop} {A:Around} {E:Value→Shared→Prop}
theorem Ret.from {tk:Tok} (k:Ret S as T s H' v Q) (e:Ext Nil as T s.heap as1 T1 h1):Ret S as1 T1 { s with heap:=h1,toks:=tk } H' v Q :=
  fun w h' tk' as' T' e' hr vr=>k w h' tk' as' T' (e.trans e') hr vr
theorem Ret.now (k:Ret S as T s H v Q) (hr:HR S as T H s.heap) (vr:VR S.fa as T v w):Q w s:=k w s.heap s.toks as T (.refl ..) hr vr
theorem Ret.tok (k:Ret S as T s H v Q) (hr:HR S as T H s.heap) (vr:VR S.fa as T v w) (tk:Tok):Q w { s with toks:=tk }:=k w s.heap tk as T (.refl ..) hr vr
theorem Ext.keep (k:∀ b o,h.get? b=some o→h'.get? b=some o):Ext Nil as T h as T h':=⟨.refl ..,fun b o _ _ e=>k b o e,fun b hb _=>hb.elim,fun b hb=>.inl hb⟩
theorem keep_push (o:Obj):∀ b q,h.get? b=some q→(h.push o).get? b=some q:=fun _ _ e=>Heap.get?_push_of_some o e
theorem size_none:h.get? h.objs.size=none:=by
  cases e:h.get? h.objs.size with
  | none=>rfl
  | some o=>exact absurd (Heap.lt_size e) (Nat.lt_irrefl _)
theorem new_im (hr:HR S as T H h) (k:∀ b o,h.get? b=some o→h'.get? b=some o) {a:Addr} {i:Im} (hi:ImAt h' a i) (hro:∀ ws,i≠.ro ws) :
    Ext Nil as T h as (fun b j=>T b j∨(b=a∧j=i)) h'∧HR S as (fun b j=>T b j∨(b=a∧j=i)) H h':=by
  have m:Mono as T as (fun b j=>T b j∨(b=a∧j=i)):=⟨fun _ _ e=>e,fun _ _ e=>.inl e⟩
  refine⟨⟨m,fun b o _ _ e=>k b o e,fun b hb _=>hb.elim,fun b hb=>.inl hb⟩,?_⟩
  have r:=hr.keep k
  refine⟨r.base,r.len,fun n o p e1 e2=>(hr.obj n o p e1 e2).keep m (k _) (fun d q _=>k _ q),r.nd,r.new,fun b j t=>?_,fun b j t=>.inl (hr.t0 b j t),fun b ws t=>?_,r.two,r.big⟩
  · rcases t with t | ⟨rfl,rfl⟩
    · exact r.im b j t
    · exact hi
  · rcases t with t | ⟨_,q⟩
    · exact hr.ro b ws t
    · exact absurd q.symm (hro ws)
theorem push_tup_k (hr:HR S as T H h) {l:List V} {ws:List Value} (hv:VRs S.fa as T l ws) (hl:l.length≤lim) {zg:Prop} (zk:∀ T',(Ext Nil as T h as T' (h.push { cls:=.type "tuple",data:=.seq ws.toArray }))→(HR S as T' H (h.push { cls:=.type "tuple",data:=.seq ws.toArray }))→(VR S.fa as T' (.tup l) (.ref h.objs.size))→zg):zg:=by
  obtain⟨e,r⟩:=new_im (a:=h.objs.size) (i:=.tup ws) hr (keep_push { cls:=.type "tuple",data:=.seq ws.toArray }) ⟨_,Heap.get?_push_size _ rfl,rfl,0,rfl⟩ (fun _ q=>by cases q)
  exact zk _ e r (.tup (.inr ⟨rfl,rfl⟩) hl (hv.mono e.mono))
theorem new_list_k (hr:HR S as T H h) (k:∀ b o,h.get? b=some o→h'.get? b=some o) {a:Addr} (hsz:h.objs.size≤a) {l:List V} {ws:List Value} {n:Nat} (ho:h'.get? a=some (lst ws n)) (hv:VRs S.fa as T l ws) (hl:l.length≤lim) {zg:Prop} (zk:(Ext Nil as T h (as++[(a,none)]) T h')→(HR S (as++[(a,none)]) T (H++[.list l]) h')→(VR S.fa (as++[(a,none)]) T (.loc H.length) (.ref a))→zg):zg:=by
  have ha:h.get? a=none:=by
    cases e:h.get? a with
    | none=>rfl
    | some o=>exact absurd (Heap.lt_size e) (Nat.not_lt.mpr hsz)
  have m:Mono as T (as++[(a,none)]) T:=⟨fun n q e=>getElem?_append_some e,fun _ _ e=>e⟩
  refine zk (⟨m,fun b o _ _ e=>k b o e,fun b hb _=>hb.elim,fun b hb=>?_⟩) (hr.alloc k (by simp) (by simpa using hsz) (.list ho hl (hv.mono m))) ?_
  · rw [owned_append] at hb
    rcases List.mem_append.mp hb with q | q
    · exact .inl q
    · simp [owned] at q; subst q; exact .inr ha
  · exact .loc (p:=(a,none)) (by rw [List.getElem?_append_right (by rw [hr.len]; exact Nat.le_refl _),hr.len,Nat.sub_self]; rfl)
theorem new_list (hr:HR S as T H h) (k:∀ b o,h.get? b=some o→h'.get? b=some o) {a:Addr} (hsz:h.objs.size≤a) {l:List V} {ws:List Value} {n:Nat} (ho:h'.get? a=some (lst ws n)) (hv:VRs S.fa as T l ws) (hl:l.length≤lim):Ext Nil as T h (as++[(a,none)]) T h'∧HR S (as++[(a,none)]) T (H++[.list l]) h'∧VR S.fa (as++[(a,none)]) T (.loc H.length) (.ref a):=new_list_k hr k hsz ho hv hl fun zh1 zh2 zh3=>⟨zh1,zh2,zh3⟩
theorem push_list_k (hr:HR S as T H h) {l:List V} {ws:List Value} (hv:VRs S.fa as T l ws) (hl:l.length≤lim) {zg:Prop} (zk:(Ext Nil as T h (as++[(h.objs.size,none)]) T (h.push { cls:=.type "list",data:=.seq ws.toArray }))→(HR S (as++[(h.objs.size,none)]) T (H++[.list l]) (h.push { cls:=.type "list",data:=.seq ws.toArray }))→(VR S.fa (as++[(h.objs.size,none)]) T (.loc H.length) (.ref h.objs.size))→zg):zg:=by
  obtain⟨zh1,zh2,zh3⟩:Ext Nil as T h (as++[(h.objs.size,none)]) T (h.push { cls:=.type "list",data:=.seq ws.toArray })∧HR S (as++[(h.objs.size,none)]) T (H++[.list l]) (h.push { cls:=.type "list",data:=.seq ws.toArray })∧VR S.fa (as++[(h.objs.size,none)]) T (.loc H.length) (.ref h.objs.size):=new_list (n:=0) hr (keep_push { cls:=.type "list",data:=.seq ws.toArray }) (Nat.le_refl _) (Heap.get?_push_size _ rfl) hv hl
  exact zk zh1 zh2 zh3
theorem VR.locE_k {n:Nat} (x:VR S.fa as T (.loc n) w) {zg:Prop} (zk:∀ p,(as[n]? = some p)→(w=.ref p.1)→zg):zg:=by
  cases x with | loc e=>exact zk _ e rfl
theorem HR.listAt_k (hr:HR S as T H h) {n:Nat} {l:List V} (hl:H[n]? = some (.list l)) (x:VR S.fa as T (.loc n) w) {zg:Prop} (zk:∀ a,∀ ws,∀ k,(w=.ref a)→(as[n]? = some (a,none))→(h.get? a=some (lst ws k))→(l.length≤lim)→(VRs S.fa as T l ws)→zg):zg:=by
  refine x.locE_k fun p e zq10=>?_
  subst zq10
  have:=hr.obj n _ p hl e
  cases this with
  | list e1 e2 e3=>exact zk _ _ _ rfl e e1 e2 e3
theorem HR.dictAt_k (hr:HR S as T H h) {n:Nat} {es:List (List Nat×V)} (hl:H[n]? = some (.dict es)) (x:VR S.fa as T (.loc n) w) {zg:Prop} (zk:∀ a,∀ ds,(w=.ref a)→(as[n]? = some (a,none))→(h.DictOf (strKind S.prog S.w) a ds)→(es.length≤1024)→(DR S as T es ds)→zg):zg:=by
  refine x.locE_k fun p e zq11=>?_
  subst zq11
  have:=hr.obj n _ p hl e
  cases this with
  | dict e1 e2 e3=>exact zk _ _ rfl e e1 e2 e3
theorem HR.instAt_k (hr:HR S as T H h) {n c:Nat} {fs:List (Nat×V)} (hl:H[n]? = some (.inst c fs)) (x:VR S.fa as T (.loc n) w) {zg:Prop} (zk:∀ a,∀ dx,∀ C,∀ f,(w=.ref a)→(as[n]? = some (a,some dx))→(c<5)→(S.ca[c]? = some C)→(h.get? a=some (instObj C dx))→(h.Ns1 dx f)→(FR S as T fs f)→zg):zg:=by
  refine x.locE_k fun p e zq12=>?_
  subst zq12
  have:=hr.obj n _ p hl e
  cases this with
  | inst e0 e1 e2 e3 e4=>exact zk _ _ _ _ rfl e e0 e1 e2 e3 e4
theorem HR.noT_list (hr:HR S as T H h) {a:Addr} {ws:List Value} {k:Nat} (e:h.get? a=some (lst ws k)) (ho:a∈owned as) (i:Im):¬ T a i:=fun t=>by
  have:=hr.im a i t
  cases i with
  | tup us=>obtain⟨o',e',c,_⟩:=this; rw [e] at e'; cases e'; simp [lst] at c
  | ro us=>obtain⟨o,q⟩:=hr.ro a us t; rw [hr.new a ho] at q; cases q
  | rng i j l=>obtain⟨t,u,v,e'⟩:=this; have e2:=e.symm.trans e'; simp [lst] at e2
theorem HR.noT_cls (hr:HR S as T H h) {a:Addr} {o:Obj} (e:h.get? a=some o) (h1:o.cls≠.type "tuple") (h2:o.cls≠.type "list") (h3:o.cls≠.type "range") (i:Im):¬ T a i:=fun t=>by
  have:=hr.im a i t
  cases i with
  | tup us=>obtain⟨o',e',c,_⟩:=this; rw [e] at e'; cases e'; exact h1 c
  | ro us=>obtain⟨o',e',c,_⟩:=this; rw [e] at e'; cases e'; exact h2 c
  | rng i j l=>obtain⟨t,u,v,e'⟩:=this; have e2:=e.symm.trans e'; cases e2; exact h3 rfl
theorem HR.noT_dict (hr:HR S as T H h) {a:Addr} {ds:List (Str×Value)} (e:h.DictOf (strKind S.prog S.w) a ds) (i:Im):¬ T a i:=by
  obtain⟨o,es,ep,q,x,_⟩:=e
  exact hr.noT_cls q (by rw [x.1]; decide) (by rw [x.1]; decide) (by rw [x.1]; decide) i
theorem Ext.upd {a:Addr} (ho:a∈owned as) (k:∀ b o,b≠a→h.get? b=some o→h'.get? b=some o):Ext Nil as T h as T h' :=
  ⟨.refl ..,fun b o n _ e=>k b o (fun q=>n (q▸ho)) e,fun b hb _=>hb.elim,fun b hb=>.inl hb⟩
theorem list_set (hr:HR S as T H h) {n:Nat} {l l':List V} {a:Addr} {ws ws':List Value} {k k':Nat} (hl:H[n]? = some (.list l)) (hp:as[n]? = some (a,none)) (e:h.get? a=some (lst ws k))
    (kp:∀ b o,b≠a→h.get? b=some o→h'.get? b=some o) (e':h'.get? a=some (lst ws' k')) (hl':l'.length≤lim) (hv:VRs S.fa as T l' ws'):Ext Nil as T h as T h'∧HR S as T (H.set n (.list l')) h':=by
  have ho:a∈owned as:=(mem_owned hp).1
  exact⟨.upd ho kp,hr.upd hp (List.getElem?_eq_some_iff.mp hl).1 (.head _) kp (.list e' hl' hv) (hr.noT_list e ho)⟩
theorem keepBut_update {a:Addr} {f:Obj→Obj}:∀ b o,b≠a→h.get? b=some o→(h.update a f).get? b=some o:=fun b o n e=>(Heap.get?_update_other h f (Ne.symm n)).trans e
theorem get_update_list {a:Addr} {ws ws':List Value} {k:Nat} {f:Array Value→Array Value} (e:h.get? a=some (lst ws k)) (hf:f ws.toArray=ws'.toArray):∃ k',(h.update a (Obj.mapSeq f)).get? a=some (lst ws' k'):=by
  have q:=IsL.update (h:=h) (l:=a) e f
  rw [hf] at q
  exact⟨_,q⟩
end
end Mine
namespace Mine
section
variable {S:Sur} {as as1:As} {T T1:TS} {H H':Hp} {h h' h1:Heap} {s:Shared} {v:V} {w:Value} {Q:Value→Shared→Prop} {A:Around} {E:Value→Shared→Prop}
theorem VR.handed (x:VR S.fa as T v w):handedIn w=true:=by cases x <;> rfl
theorem lim_size {n:Nat} (h:n≤lim):n≤sizeLine:=Nat.le_trans h (by decide)
theorem lim_63 {n:Nat} (h:n≤lim):(n:Int)<2 ^ 63:=by
  have:n≤1048576:=h
  omega
theorem find_ns_k {es:Array DictEntry} {x:Str} {u:Value} (hf:nsFind es x=some u) {zg:Prop} (zk:∀ e,(es.toList.find? (·.key.isStr x)=some e)→(e.val=u)→zg):zg:=by
  unfold nsFind findBy at hf
  rw [← Array.find?_toList] at hf
  obtain⟨e,h1,h2⟩:=Option.map_eq_some_iff.mp hf
  exact zk e h1 h2
theorem lookIn_some {od:Obj} {es:Array DictEntry} {ep:Nat} {x:Str} {u:Value} (hd:od.data=.dict es ep) (hf:nsFind es x=some u):lookIn x od=some (some u):=by
  refine find_ns_k hf fun e h1 zq13=>?_
  subst zq13
  unfold lookIn
  rw [hd]
  dsimp only
  rw [h1]
theorem lookIn_none {od:Obj} {es:Array DictEntry} {ep:Nat} {x:Str} (hd:od.data=.dict es ep) (hk:StrKeys es) (hf:nsFind es x=none):lookIn x od=some none:=by
  unfold nsFind findBy at hf
  rw [← Array.find?_toList,Option.map_eq_none_iff] at hf
  unfold lookIn
  rw [hd]
  dsimp only
  rw [hf,if_neg]
  intro q
  obtain⟨e,he,hr⟩:=List.any_eq_true.mp q
  obtain⟨n,t,hkey⟩:=hk e (Array.mem_toList_iff.mp he)
  rw [DictEntry.refKey,hkey] at hr
  cases hr
theorem inst_at_k {a dx C:Addr} {f:Str→Option Value} (h1:h.get? a=some (instObj C dx)) (h2:h.Ns1 dx f) {zg:Prop} (zk:∀ od,∀ es,∀ ep,(W.InstAt h a (instObj C dx) C (some od))→(od.data=.dict es ep)→(StrKeys es)→(∀ x,nsFind es x=f x)→zg):zg:=by
  obtain⟨o,es,ep,e,d,k,_,g⟩:=h2
  exact zk o es ep (⟨h1,rfl,rfl,e⟩) d k g
theorem getA_ok (C:Cx S) (hr:HR S as T H s.heap) {o:V} {a:Nat} (x:VR S.fa as T o w) (e:getA H o a=some v) {ex:Bool} (k:∀ u tk,VR S.fa as T v u→Q u { s with toks:=tk }):wpAny (model S.prog S.w) A (getAttr w (nmOf a) ex) Q E s:=by
  refine onN_some_k e fun n hx e1=>?_; subst hx; clear e; have e:=e1; clear e1
  refine atI_some_k e fun c fs hn e=>?_
  refine hr.instAt_k hn x fun p dx C' f zq14=>?_
  subst zq14
  intro hp c5 hC h1 h2 zq15
  obtain⟨h3,h4⟩:=zq15
  obtain⟨a22,u,hu,vr⟩:=h3 a v e
  obtain⟨ci,hci,ok⟩:=C.cls c C' c5 hC
  refine inst_at_k h1 h2 fun od es ep I d sk g=>?_
  obtain⟨at',ha,hn'⟩:=ok.attr a a22
  exact get_value (C.X.keeps hr.base) I ok.get.1 (findObj_own ok.hasDict ha hn' (lookIn_some d ((g _).trans hu))) vr.handed (k u _ vr)
theorem nmOf_inj {i j:Nat} (hi:i<22) (hj:j<22) (e:nmOf i=nmOf j):i=j:=by
  have h:∀ i,i<22→∀ j,j<22→nmOf i=nmOf j→i=j:=by decide +kernel
  exact h i hi j hj e
theorem nms_mem {i:Nat} (hi:i<22):nmOf i∈NMS:=by
  have h:∀ i,i<22→nmOf i∈NMS:=by decide +kernel
  exact h i hi
theorem within_nms {fs:List (Nat×V)} {f:Str→Option Value} (x:FR S as T fs f):Within f NMS:=by
  intro y hy
  cases e:f y with
  | none=>exact absurd e hy
  | some u =>
    obtain⟨i,hi,rfl,_⟩:=x.2 y u e
    have h:∀ i,i<22→nmOf i∈NMS:=by decide +kernel
    exact h i hi
theorem lookN_putN {α:Type} (i j:Nat) (v:α):∀ fs:List (Nat×α),lookN j (putN i v fs)=if j=i then some v else lookN j fs
  | []=>by
    simp only [putN_1,putN_2,lookN_1,lookN_2]
    by_cases h:j=i
    · subst h; simp
    · have:¬ i=j:=fun q=>h q.symm
      simp [h,this]
  | (k,u)::r=>by
    have ih:=lookN_putN i j v r
    by_cases hk:k=i
    · subst hk
      by_cases h:j=k
      · subst h; simp [putN_1,putN_2,lookN_1,lookN_2]
      · have:¬ k=j:=fun q=>h q.symm
        simp [putN_1,putN_2,lookN_1,lookN_2,h,this]
    · by_cases h:k=j
      · subst h; simp [putN_1,putN_2,lookN_1,lookN_2,hk]
      · simp [putN_1,putN_2,lookN_1,lookN_2,hk,h,ih]
theorem setattr_raw {a dx C':Addr} {f:Str→Option Value} {name:Str} {u:Value} {Q:Unit→Shared→Prop} (C:Cx S) (hb:∀ b o,S.h0.get? b=some o→s.heap.get? b=some o) (h1:s.heap.get? a=some (instObj C' dx)) (h2:s.heap.Ns1 dx f)
    (hs:findIn S.K (.ref C') "__setattr__" = some (some (.builtin "object.__setattr__"))) (hp:plainOver S.K C'=true) (ht:takerIn S.K C' name=some none) (hh:hasDictIn S.K C'=true) (hw:Within f NMS) (hn:name∈NMS)
    (k:∀ h' tk,h'.Ns1 dx (fun x=>if x=name then some u else f x)→Heap.SameBut dx s.heap h'→Q () { s with heap:=h',toks:=tk }):wpAny (model S.prog S.w) A (setAttr (.ref a) name u) Q E s:=by
  refine inst_at_k h1 h2 fun od es ep I d sk g=>?_
  have X:=C.X.keeps hb
  refine set_plain X I hs (osa_open (s:={ s with toks:=s.toks+1 }) X I hp ht fun b=>?_)
  obtain⟨cd,hc,hd'⟩:=any_some hh
  refine wpAny_bind (wpAny_pure (wpAny_bind (wpAny_bind (wpAny_loadPart h1 (wpAny_bind (Looks.here (s:={ s with toks:=s.toks+1 }) (looks_clsIn X hc) ?_))))))
  rw [hd']
  refine wpAny_pure (a:=some dx) (wpAny_bind (wpAny_pure (wpAny_bind ?_)))
  refine wpAny_nsSet1EFk (s:={ s with toks:=s.toks+1 }) h2 fun h' n' sb _=>?_
  obtain⟨oD,esD,epD,hoD,hdD,hcD⟩:=n'.count (ns:=name::NMS) (Within.cons name u hw)
  refine wpAny_bind (wpAny_lookBehind hoD (by rw [hdD]; exact pastItsLine_dict (Nat.le_trans hcD (by rw [List.length_cons,show NMS.length=22 from by decide +kernel]; decide))) ?_)
  exact wpAny_pure (k h' _ n' sb)
theorem setA_ok (C:Cx S) (hr:HR S as T H s.heap) {o:V} {a:Nat} {u:Value} {Q:Unit→Shared→Prop} (x:VR S.fa as T o w) (y:VR S.fa as T v u) (ha:a<22) (e:setA H o a v=some H') (k:RetU S as T s H' Q):wpAny (model S.prog S.w) A (setAttr w (nmOf a) u) Q E s:=by
  refine onN_some_k e fun n hx e1=>?_; subst hx; clear e; have e:=e1; clear e1
  refine atI_some_k e fun c fs hn e=>?_
  cases e
  refine hr.instAt_k hn x fun p dx C' f zq16=>?_
  subst zq16
  intro hp c5 hC h1 h2 h3
  obtain⟨ci,hci,ok⟩:=C.cls c C' c5 hC
  have dxo:dx∈owned as:=(mem_owned hp).2 dx rfl
  have ndx:∀ i,¬ T dx i:=by
    obtain⟨o,es,ep,q,d,_⟩:=id h2
    intro i t
    have:=hr.im dx i t
    cases i with
    | tup us=>obtain⟨o',e',c,_,d'⟩:=this; rw [q] at e'; cases e'; rw [d] at d'; cases d'
    | ro us=>obtain⟨o',e',c,_,d'⟩:=this; rw [q] at e'; cases e'; rw [d] at d'; cases d'
    | rng i j l=>obtain⟨t,u,v,e'⟩:=this; have e2:=q.symm.trans e'; cases e2; cases d
  have pne:p≠dx:=by
    intro q
    obtain⟨o,es,ep,q',d,_⟩:=id h2
    rw [← q,h1] at q'; cases q'; cases d
  refine setattr_raw C hr.base h1 h2 ok.set ok.over (ok.take a ha) ok.hasDict (within_nms h3) (nms_mem ha) fun h' tk n' sb=>?_
  have kp:∀ b o,b≠dx→s.heap.get? b=some o→h'.get? b=some o:=fun b o hb e=>(sb.2 b hb).trans e
  refine k h' tk as T (.upd dxo kp) (hr.upd hp (List.getElem?_eq_some_iff.mp hn).1 (.tail _ (.head _)) kp (.inst c5 hC (kp _ _ pne h1) n' ⟨fun i v' e=>?_,fun z w' e=>?_⟩) ndx)
  · rw [lookN_putN] at e
    by_cases hi:i=a
    · subst hi; simp at e; subst e
      exact⟨ha,u,by simp,y⟩
    · rw [if_neg hi] at e
      obtain⟨i22,w'',e1,e2⟩:=h3.1 i v' e
      refine⟨i22,w'',?_,e2⟩
      show(if nmOf i=nmOf a then some u else f (nmOf i))=some w''
      rw [if_neg (fun q=>hi (nmOf_inj i22 ha q))]; exact e1
  · by_cases hz:z=nmOf a
    · exact⟨a,ha,hz,by rw [lookN_putN]; simp⟩
    · have e:(if z=nmOf a then some u else f z)=some w':=e
      rw [if_neg hz] at e
      obtain⟨i,hi,hz',hl⟩:=h3.2 z w' e
      refine⟨i,hi,hz',?_⟩
      rw [lookN_putN]
      by_cases q:i=a
      · simp [q]
      · rw [if_neg q]; exact hl
theorem meth_ok (C:Cx S) (hr:HR S as T H s.heap) {n c:Nat} {fs:List (Nat×V)} {ci:CI} {m k:Nat} {pl:Sem Bool} {Q:Value×List Value→Shared→Prop} (x:VR S.fa as T (.loc n) w) (hn:H[n]? = some (.inst c fs)) (hci:S.P.cls[c]? = some ci) (hm:lookN m ci.meths=some k)
    (q:∀ a,S.fa[k]? = some a→Q (.ref a,[w]) s):wpAny (model S.prog S.w) A (getMethod w (mmOf m) pl) Q E s:=by
  refine hr.instAt_k hn x fun p dx C' f zq17=>?_
  subst zq17
  intro hp c5 hC h1 h2 h3
  obtain⟨ci',hci',ok⟩:=C.cls c C' c5 hC
  rw [hci] at hci'; cases hci'
  refine inst_at_k h1 h2 fun od es ep I d sk g=>?_
  obtain⟨a,ha,hf,ht⟩:=ok.meth m k hm
  have hno:f (mmOf m)=none:=by
    cases e:f (mmOf m) with
    | none=>rfl
    | some u =>
      obtain⟨i,hi,q,_⟩:=h3.2 _ _ e
      have:=ok.apart m k i hm hi
      rw [← q] at this
      simp at this
  exact method_fn (C.X.keeps hr.base) I ok.get.1 ok.get.2 hf ht (by show(lookIn (mmOf m) od).map _=_; rw [lookIn_none d sk ((g _).trans hno)]; rfl) (q a ha)
end
end Mine
namespace Mine
section
variable {S:Sur} {as as1:As} {T T1:TS} {H H':Hp} {h h' h1:Heap} {s:Shared} {v:V} {w:Value} {Q:Value→Shared→Prop} {A:Around} {E:Value→Shared→Prop}
theorem ret_list {n:Nat} {l l':List V} {a:Addr} {ws ws':List Value} {k k':Nat} {r:V} {u:Value} (hr:HR S as T H s.heap) (hl:H[n]? = some (.list l)) (hp:as[n]? = some (a,none)) (e:s.heap.get? a=some (lst ws k))
    (kp:∀ b o,b≠a→s.heap.get? b=some o→h'.get? b=some o) (e':h'.get? a=some (lst ws' k')) (hl':l'.length≤lim) (hv:VRs S.fa as T l' ws') (vr:VR S.fa as T r u) (q:Ret S as T s (H.set n (.list l')) r Q) (tk:Tok):Q u { s with heap:=h',toks:=tk }:=by
  obtain⟨x1,x2⟩:=list_set hr hl hp e kp e' hl' hv
  exact q u h' tk as T x1 x2 vr
theorem append_ok {n:Nat} {l:List V} {x:V} {u:Value} (hr:HR S as T H s.heap) (vn:VR S.fa as T (.loc n) w) (vx:VR S.fa as T x u) (hl:H[n]? = some (.list l)) (hlen:l.length<lim) (q:Ret S as T s (H.set n (.list (l++[x]))) .none Q) :
    wpAny (model S.prog S.w) A (call (.builtin "list.append") [w,u]) Q E s:=by
  refine hr.listAt_k hl vn fun a ws k zq18=>?_
  subst zq18
  intro hp e hz hv
  have hwl:=hv.length
  refine append_at (its:=ws.toArray) (n:=k) e (fun h' sb e'=>?_) (by rw [List.size_toArray,hwl]; exact lim_size hz)
  exact ret_list (ws':=ws++[u]) (k':=k+1) hr hl hp e (fun b o nb q=>(sb.2 b nb).trans q) (by rw [e']; simp [lst]) (by simp; exact hlen) (hv.append (.cons vx .nil)) .none q _
theorem pop_ok {n:Nat} {l:List V} {x:V} (hr:HR S as T H s.heap) (vn:VR S.fa as T (.loc n) w) (hl:H[n]? = some (.list l)) (hx:l.getLast? = some x) (q:Ret S as T s (H.set n (.list l.dropLast)) x Q) :
    wpAny (model S.prog S.w) A (call (.builtin "list.pop") [w]) Q E s:=by
  refine hr.listAt_k hl vn fun a ws k zq19=>?_
  subst zq19
  intro hp e hz hv
  have hwl:=hv.length
  rw [List.getLast?_eq_getElem?] at hx
  obtain⟨u,hu,vu⟩:=hv.get _ hx
  have hy:ws.toArray[ws.toArray.size - 1]? = some u:=by simp [hwl,hu]
  obtain⟨k',e'⟩:=get_update_list (ws':=ws.dropLast) (f:=fun xs=>xs.eraseIdxIfInBounds (ws.toArray.size - 1)) e (by
    apply Array.toList_inj.mp
    have hlt:ws.length - 1<ws.length:=by
      have:=(List.getElem?_eq_some_iff.mp hx).1; omega
    simp [Array.eraseIdxIfInBounds,hlt,List.eraseIdx_eq_dropLast,List.dropLast_eq_take])
  refine call_meets PySem.F.slot_list_pop ⟨_,e,rfl⟩ PySem.F.entry_list_pop (PySem.F.args_list_pop_1 _) (PySem.MeetsSeq.list_pop_last a ws.toArray k u hy (by rw [List.size_toArray,hwl]; exact lim_size hz)) ⟨e,?_⟩
  have hd:VRs S.fa as T l.dropLast ws.dropLast:=by
    rw [List.dropLast_eq_take,List.dropLast_eq_take,hwl]; exact hv.take _
  exact ret_list hr hl hp e keepBut_update e' (by simp; exact Nat.not_lt.mp (lin [_,_] (.c 1 (.v 0) (.v 1) (.c 1 (.a (.a (.v 1) (.n 1)) (.n 1)) (.v 0) .z)) rfl hz)) hd vu q _
theorem extend_ok {n j:Nat} {l m:List V} {u:Value} (hr:HR S as T H s.heap) (vn:VR S.fa as T (.loc n) w) (vj:VR S.fa as T (.loc j) u) (hl:H[n]? = some (.list l)) (hm:H[j]? = some (.list m)) (hlen:l.length+m.length<lim)
    (q:Ret S as T s (H.set n (.list (l++m))) .none Q):wpAny (model S.prog S.w) A (call (.builtin "list.extend") [w,u]) Q E s:=by
  refine hr.listAt_k hl vn fun a ws k zq20=>?_
  subst zq20
  intro hp e hz hv
  refine hr.listAt_k hm vj fun b us k2 zq21=>?_
  subst zq21
  intro hp2 e2 hz2 hv2
  have hwl:=hv.length
  have hul:=hv2.length
  obtain⟨k',e'⟩:=get_update_list (ws':=ws++us) (f:=fun x=>x++us.toArray) e (by simp)
  have hsum:ws.toArray.size+us.toArray.size≤sizeLine:=by rw [List.size_toArray,List.size_toArray,hwl,hul]; exact lim_size (Nat.le_of_lt hlen)
  refine call_meets PySem.F.slot_list_extend ⟨_,e,rfl⟩ PySem.F.entry_list_extend (PySem.F.args_list_extend_2 _ _) (PySem.AutoSeq1.list_extend_list_list_0 a ws.toArray k b us.toArray k2 ?_ (by exact Nat.not_lt.mp (lin [_,_,_] (.c 1 (.a (.v 0) (.v 1)) (.v 2) (.c 1 (.a (.v 2) (.n 1)) (.v 0) .z)) rfl hsum)) (by exact Nat.not_lt.mp (lin [_,_,_] (.c 1 (.a (.v 0) (.v 1)) (.v 2) (.c 1 (.a (.a (.v 2) (.n 1)) (.n 1)) (.a (.v 0) (.v 1)) .z)) rfl hsum))) ⟨e,e2,?_⟩
  · intro q'
    simp only [Bool.and_eq_true,Builtin.List.listTooLong,decide_eq_true_eq] at q'
    have:=q'.2
    exact lin [_,_,_] (.c 1 (.a (.v 0) (.v 1)) (.v 2) (.c 1 (.a (.v 2) (.n 1)) (.a (.v 0) (.v 1)) .z)) rfl hsum q'.2
  · exact ret_list hr hl hp e keepBut_update e' (by simp; exact Nat.not_lt.mp (lin [_,_,_] (.c 1 (.a (.a (.v 0) (.v 1)) (.n 1)) (.v 2) (.c 1 (.a (.v 2) (.n 1)) (.a (.v 0) (.v 1)) .z)) rfl hlen)) (hv.append hv2) .none q _
theorem reverse_ok {n:Nat} {l:List V} (hr:HR S as T H s.heap) (vn:VR S.fa as T (.loc n) w) (hl:H[n]? = some (.list l)) (q:Ret S as T s (H.set n (.list l.reverse)) .none Q) :
    wpAny (model S.prog S.w) A (call (.builtin "list.reverse") [w]) Q E s:=by
  refine hr.listAt_k hl vn fun a ws k zq22=>?_
  subst zq22
  intro hp e hz hv
  have hwl:=hv.length
  obtain⟨k',e'⟩:=get_update_list (ws':=ws.reverse) (f:=fun x=>x.reverse) e (by simp)
  refine call_meets PySem.F.slot_list_reverse ⟨_,e,rfl⟩ PySem.F.entry_list_reverse (PySem.F.args_list_reverse_1 _) (PySem.AutoSeq1.list_reverse_list_0 a ws.toArray k (by rw [List.size_toArray,hwl]; exact lim_size hz)) ⟨e,?_⟩
  exact ret_list hr hl hp e keepBut_update e' (by simpa using hz) hv.reverse .none q _
theorem ret_new {l:List V} {ws:List Value} {n:Nat} (hr:HR S as T H s.heap) (k:∀ b o,s.heap.get? b=some o→h'.get? b=some o) (ho:h'.get? s.heap.objs.size=some (lst ws n)) (hv:VRs S.fa as T l ws) (hl:l.length≤lim)
    (q:Ret S as T s (H++[.list l]) (.loc H.length) Q) (tk:Tok):Q (.ref s.heap.objs.size) { s with heap:=h',toks:=tk }:=by
  refine new_list_k hr k (Nat.le_refl _) ho hv hl fun x1 x2 x3=>?_
  exact q _ h' tk _ _ x1 x2 x3
theorem addList_ok {i j:Nat} {l m:List V} {u:Value} (hr:HR S as T H s.heap) (vn:VR S.fa as T (.loc i) w) (vj:VR S.fa as T (.loc j) u) (hl:H[i]? = some (.list l)) (hm:H[j]? = some (.list m)) (hlen:l.length+m.length≤lim)
    (q:Ret S as T s (H++[.list (l++m)]) (.loc H.length) Q):wpAny (model S.prog S.w) A (binaryOp .Add w u) Q E s:=by
  refine hr.listAt_k hl vn fun a ws k zq23=>?_
  subst zq23
  intro hp e hz hv
  refine hr.listAt_k hm vj fun b us k2 zq24=>?_
  subst zq24
  intro hp2 e2 hz2 hv2
  have hsum:ws.toArray.size+us.toArray.size≤sizeLine:=by rw [List.size_toArray,List.size_toArray,hv.length,hv2.length]; exact lim_size hlen
  refine concat_meets ⟨_,e,rfl⟩ ⟨_,e2,rfl⟩ noFill_list_add seq_list_add PySem.F.slot_list_add PySem.F.entry_list_add (PySem.F.args_list_add_2 _ _) (list_addW a b ws.toArray us.toArray k k2 none none #[] #[] hsum) ⟨e,e2,?_⟩
  rw [show ws.toArray++us.toArray=(ws++us).toArray by simp]
  exact ret_new hr (keep_push (lst (ws++us) 0)) (Heap.get?_push_size _ rfl) (hv.append hv2) (by simpa using hlen) q _
theorem listCopy_ok {i:Nat} {l:List V} (hr:HR S as T H s.heap) (vn:VR S.fa as T (.loc i) w) (hl:H[i]? = some (.list l)) (q:Ret S as T s (H++[.list l]) (.loc H.length) Q):wpAny (model S.prog S.w) A (call (.type "list") [w]) Q E s:=by
  refine hr.listAt_k hl vn fun a ws k zq25=>?_
  subst zq25
  intro hp e hz hv
  exact call_list_seq (hsz:=by rw [List.size_toArray,hv.length]; exact lim_size hz) a (.inl rfl) e rfl rfl fun h' c' hk hD=>ret_new hr hk hD hv hz q _
theorem tupE_k {l:List V} (hr:HR S as T H h) (x:VR S.fa as T (.tup l) w) {zg:Prop} (zk:∀ a,∀ ws,(w=.ref a)→(h.IsTuple a ws.toArray)→(l.length≤lim)→(VRs S.fa as T l ws)→zg):zg:=by
  cases x with
  | tup t hl hv=>exact zk _ _ rfl (hr.im _ _ t) hl hv
theorem listTup_ok {l:List V} (hr:HR S as T H s.heap) (vn:VR S.fa as T (.tup l) w) (q:Ret S as T s (H++[.list l]) (.loc H.length) Q):wpAny (model S.prog S.w) A (call (.type "list") [w]) Q E s:=by
  refine tupE_k hr vn fun a ws zq26=>?_
  subst zq26
  intro zq27 hz hv
  obtain⟨o,e,c,n,d⟩:=zq27
  exact call_list_seq (hsz:=by rw [List.size_toArray,hv.length]; exact lim_size hz) a (.inr rfl) e c d fun h' c' hk hD=>ret_new hr hk hD hv hz q _
theorem item_list_ok {n:Nat} {l:List V} {i:Int} {t:Tok} {x:V} (hr:HR S as T H s.heap) (vn:VR S.fa as T (.loc n) w) (hl:H[n]? = some (.list l)) (hi:0≤i) (hx:l[i.toNat]? = some x) (q:∀ u,VR S.fa as T x u→Q u s) :
    wpAny (model S.prog S.w) A (getItem w (.int i t)) Q E s:=by
  refine hr.listAt_k hl vn fun a ws k zq28=>?_
  subst zq28
  intro hp e hz hv
  obtain⟨u,hu,vu⟩:=hv.get _ hx
  have h1:=(List.getElem?_eq_some_iff.mp hx).1
  exact wpAny_getItem_list ⟨_,e,rfl,k,rfl⟩ hi (by have:=lim_63 hz; omega) (by simpa using hu) (q u vu)
theorem item_tup_ok {l:List V} {i:Int} {t:Tok} {x:V} (hr:HR S as T H s.heap) (vn:VR S.fa as T (.tup l) w) (hi:0≤i) (hx:l[i.toNat]? = some x) (q:∀ u,VR S.fa as T x u→Q u s) :
    wpAny (model S.prog S.w) A (getItem w (.int i t)) Q E s:=by
  refine tupE_k hr vn fun a ws zq29=>?_
  subst zq29
  intro e hz hv
  obtain⟨u,hu,vu⟩:=hv.get _ hx
  have h1:=(List.getElem?_eq_some_iff.mp hx).1
  have h2:=lim_63 hz
  refine getItem_tuple (j:=i.toNat) e (by omega) (by omega) ?_ (by simpa using hu) (q u vu)
  unfold seqIndex?
  rw [List.size_toArray,hv.length]
  simp only [show ¬ i<0 by omega,if_false]
  rw [if_pos (by simp; omega)]
theorem setItem_list_ok {n:Nat} {l:List V} {i:Int} {t:Tok} {x:V} {u:Value} {Q:Unit→Shared→Prop} (hr:HR S as T H s.heap) (vn:VR S.fa as T (.loc n) w) (vx:VR S.fa as T x u) (hl:H[n]? = some (.list l)) (hi:0≤i) (hx:i.toNat<l.length)
    (q:RetU S as T s (H.set n (.list (l.set i.toNat x))) Q):wpAny (model S.prog S.w) A (setItem w (.int i t) u) Q E s:=by
  refine hr.listAt_k hl vn fun a ws k zq30=>?_
  subst zq30
  intro hp e hz hv
  have hwl:=hv.length
  refine ki_setAt e hi (by have:=lim_63 hz; omega) (by rw [List.size_toArray,hwl]; omega) ?_
  obtain⟨k',e'⟩:=get_update_list (ws':=ws.set i.toNat u) (f:=fun x=>x.setIfInBounds i.toNat u) e (by apply Array.toList_inj.mp; simp)
  obtain⟨x1,x2⟩:=list_set (l':=l.set i.toNat x) hr hl hp e keepBut_update e' (by simpa using hz) (hv.set _ vx)
  exact q _ _ as T x1 x2
theorem fdiv_pos {i j:Int} (h:0<j):Int.fdiv i j=i / j:=Int.fdiv_eq_ediv_of_nonneg _ (Int.le_of_lt h)
theorem fmod_pos {i j:Int} (h:0<j):Int.fmod i j=i % j:=Int.fmod_eq_emod_of_nonneg _ (Int.le_of_lt h)
end
end Mine
namespace Mine
section
variable {S:Sur} {as as1:As} {T T1:TS} {H H':Hp} {h h' h1:Heap} {s:Shared} {v:V} {w:Value} {Q:Value→Shared→Prop} {A:Around} {E:Value→Shared→Prop}
theorem strE_k {x:List Nat} (h:VR S.fa as T (.str x) w) {zg:Prop} (zk:∀ t,(w=.str ⟨x.toArray⟩ t)→(x.length≤lim)→zg):zg:=by
  cases h with | str _ t hl=>exact zk t rfl hl
theorem strE {x:List Nat} (h:VR S.fa as T (.str x) w):∃ t,w=.str ⟨x.toArray⟩ t∧x.length≤lim:=strE_k h fun t zh1 zh2=>⟨t,zh1,zh2⟩
theorem intE {i:Int} (h:VR S.fa as T (.int i) w):∃ t,w=.int i t:=by
  cases h with | int _ t=>exact⟨t,rfl⟩
theorem boolE {b:Bool} (h:VR S.fa as T (.bool b) w):w=.bool b:=by cases h; rfl
theorem noneE (h:VR S.fa as T .none w):w=.none:=by cases h; rfl
theorem small_div {i j:Int} (h1:0<j) (h2:j<1152921504606846976):Builtin.divisionGoesByPylong i j=false:=by
  unfold Builtin.divisionGoesByPylong
  dsimp only
  have hj:¬ (j == 0)=true:=by intro q; have:=beq_iff_eq.mp q; omega
  have hlog:j.natAbs.log2<61:=(Nat.log2_lt (by omega)).mpr (by omega)
  have:¬ (if(j == 0)=true then 0 else j.natAbs.log2 / 30+1) > 300:=by rw [if_neg hj]; omega
  rw [decide_eq_false this]; rfl
theorem small_bits {i:Int} (h:i.natAbs<1152921504606846976):Builtin.Int.intBits i≤62:=by
  unfold Builtin.Int.intBits
  by_cases h0:i=0
  · subst h0; decide
  · have hlog:i.natAbs.log2<60:=(Nat.log2_lt (by omega)).mpr (by omega)
    first | (split <;> omega) | omega | (simp; omega)
theorem small_mul {i j:Int} (h:i.natAbs<1152921504606846976):IntMulOk i j:=by
  have:=small_bits h
  unfold IntMulOk
  have h1:¬ Builtin.Int.intBits i > shortFactorBits:=by show ¬ _ > 64; omega
  rw [decide_eq_false h1]
  simp
theorem addTup_ok {l m:List V} {u:Value} (hr:HR S as T H s.heap) (vn:VR S.fa as T (.tup l) w) (vj:VR S.fa as T (.tup m) u) (hlen:l.length+m.length≤lim) (q:Ret S as T s H (.tup (l++m)) Q):wpAny (model S.prog S.w) A (binaryOp .Add w u) Q E s:=by
  refine tupE_k hr vn fun a ws zq31=>?_
  subst zq31
  intro ht hz hv
  refine tupE_k hr vj fun b us zq32=>?_
  subst zq32
  intro hb hz2 hv2
  obtain⟨⟨cls,dd,data,sl⟩,ho,hc,n,hd⟩:=id ht
  obtain⟨⟨cls2,dd2,data2,sl2⟩,ho2,hc2,n2,hd2⟩:=id hb
  simp only at hc hd hc2 hd2
  subst hc hd hc2 hd2
  by_cases hw:ws=[]
  · refine concat_meets ⟨_,ho,rfl⟩ ⟨_,ho2,rfl⟩ noFill_tuple_add seq_tuple_add PySem.F.slot_tuple_add PySem.F.entry_tuple_add (PySem.F.args_tuple_add_2 _ _)
      (tuple_addW0 a b ws.toArray us.toArray n n2 dd dd2 sl sl2 (by simp [hw])) ⟨ho,ho2,?_⟩
    have:l=[]:=List.length_eq_zero_iff.mp (by rw [← hv.length,hw]; rfl)
    subst this
    exact Ret.now q hr (by simpa using vj)
  · by_cases hu:us=[]
    · refine concat_meets ⟨_,ho,rfl⟩ ⟨_,ho2,rfl⟩ noFill_tuple_add seq_tuple_add PySem.F.slot_tuple_add PySem.F.entry_tuple_add (PySem.F.args_tuple_add_2 _ _)
        (tuple_addW1 a b ws.toArray us.toArray n n2 dd dd2 sl sl2 (by simpa using hw) (by simp [hu])) ⟨ho,ho2,?_⟩
      have:m=[]:=List.length_eq_zero_iff.mp (by rw [← hv2.length,hu]; rfl)
      subst this
      exact Ret.now q hr (by simpa using vn)
    · refine concat_meets ⟨_,ho,rfl⟩ ⟨_,ho2,rfl⟩ noFill_tuple_add seq_tuple_add PySem.F.slot_tuple_add PySem.F.entry_tuple_add (PySem.F.args_tuple_add_2 _ _)
        (tuple_addW2 a b ws.toArray us.toArray n n2 dd dd2 sl sl2 (by simpa using hw) (by simpa using hu) (by rw [List.size_toArray,List.size_toArray,hv.length,hv2.length]; exact lim_size hlen)) ⟨ho,ho2,?_⟩
      rw [show ws.toArray++us.toArray=(ws++us).toArray by simp]
      refine push_tup_k hr (hv.append hv2) (by simpa using hlen) fun T' x1 x2 x3=>?_
      exact q _ _ _ _ _ x1 x2 x3
theorem str_app (x y:List Nat):(⟨x.toArray⟩:Str)++(⟨y.toArray⟩:Str)=(⟨(x++y).toArray⟩:Str):=by
  show(⟨x.toArray++y.toArray⟩:Str)=_
  simp
theorem str_len (x:List Nat):(⟨x.toArray⟩:Str).length=x.length:=by
  show x.toArray.size=_
  simp
theorem addV_ok {a b r:V} {wa wb:Value} (e:addV a b H=some (r,H')) (hr:HR S as T H s.heap) (va:VR S.fa as T a wa) (vb:VR S.fa as T b wb) (q:Ret S as T s H' r Q):wpAny (model S.prog S.w) A (binaryOp .Add wa wb) Q E s:=by
  cases a with
  | int i =>
    refine onI_some_k e fun j hx e1=>?_; subst hx; clear e; have e:=e1; clear e1
    cases e
    obtain⟨t,rfl⟩:=intE va; obtain⟨u,rfl⟩:=intE vb
    exact add_int (q.tok hr (.int _ _) _)
  | str x =>
    refine onS_some_k e fun y hx e1=>?_; subst hx; clear e; have e:=e1; clear e1
    obtain⟨hl,e⟩:=gd_some e
    cases e
    refine strE_k va fun t zq34=>?_
    subst zq34
    intro h1; obtain⟨u,rfl,h2⟩:=strE vb
    refine SBL.add (fun t' k _=>?_) (by rw [str_len,str_len]; exact lim_size hl)
    rw [str_app]
    exact q.tok hr (.str _ _ (by rw [List.length_append]; exact hl)) _
  | tup l =>
    refine onT_some_k e fun m hx e1=>?_; subst hx; clear e; have e:=e1; clear e1
    obtain⟨hl,e⟩:=gd_some e
    cases e
    exact addTup_ok hr va vb hl q
  | loc i =>
    refine onN_some_k e fun j hx e1=>?_; subst hx; clear e; have e:=e1; clear e1
    refine atL_some_k e fun l h1 e=>?_
    refine atL_some_k e fun m h2 e=>?_
    obtain⟨hl,e⟩:=gd_some e
    cases e
    exact addList_ok hr va vb h1 h2 hl q
  | _=>first | exact ff e | exact nn e | cases e
theorem mulV_ok {a b r:V} {wa wb:Value} (e:mulV a b H=some (r,H')) (hr:HR S as T H s.heap) (va:VR S.fa as T a wa) (vb:VR S.fa as T b wb) (q:Ret S as T s H' r Q):wpAny (model S.prog S.w) A (binaryOp .Mult wa wb) Q E s:=by
  cases a with
  | int i =>
    refine onI_some_k e fun j hx e1=>?_; subst hx; clear e; have e:=e1; clear e1
    obtain⟨hl,e⟩:=gd_some e
    cases e
    obtain⟨t,rfl⟩:=intE va; obtain⟨u,rfl⟩:=intE vb
    exact mul_int (q.tok hr (.int _ _) _) (small_mul hl.1)
  | _=>first | exact ff e | exact nn e | cases e
theorem bin_ok {op:BOp} {o:Operator} {a b r:V} {wa wb:Value} (e:binV op a b H=some (r,H')) (c:opIs op o=true) (hr:HR S as T H s.heap) (va:VR S.fa as T a wa) (vb:VR S.fa as T b wb) (q:Ret S as T s H' r Q):wpAny (model S.prog S.w) A (binaryOp o wa wb) Q E s:=by
  cases op with
  | add=>cases o <;> first | (cases c; done) | exact addV_ok e hr va vb q
  | mul=>cases o <;> first | (cases c; done) | exact mulV_ok e hr va vb q
  | sub =>
    refine onI_some_k e fun i hx e1=>?_; subst hx; clear e; have e:=e1; clear e1
    refine onI_some_k e fun j hx e1=>?_; subst hx; clear e; have e:=e1; clear e1
    cases e
    obtain⟨t,rfl⟩:=intE va; obtain⟨u,rfl⟩:=intE vb
    cases o <;> first | (cases c; done) | exact sub_int (q.tok hr (.int _ _) _)
  | fdiv =>
    refine onI_some_k e fun i hx e1=>?_; subst hx; clear e; have e:=e1; clear e1
    refine onI_some_k e fun j hx e1=>?_; subst hx; clear e; have e:=e1; clear e1
    obtain⟨hl,e⟩:=gd_some e
    cases e
    obtain⟨t,rfl⟩:=intE va; obtain⟨u,rfl⟩:=intE vb
    have:wpAny (model S.prog S.w) A (binaryOp .FloorDiv (.int i t) (.int j u)) Q E s:=by
      refine floordiv_int (Int.ne_of_gt hl.1) ?_ (.inl (small_div hl.1 hl.2.2))
      rw [fdiv_pos hl.1]
      exact q.tok hr (.int _ _) _
    cases o <;> first | (cases c; done) | exact this
  | mod =>
    refine onI_some_k e fun i hx e1=>?_; subst hx; clear e; have e:=e1; clear e1
    refine onI_some_k e fun j hx e1=>?_; subst hx; clear e; have e:=e1; clear e1
    obtain⟨hl,e⟩:=gd_some e
    cases e
    obtain⟨t,rfl⟩:=intE va; obtain⟨u,rfl⟩:=intE vb
    have:wpAny (model S.prog S.w) A (binaryOp .Mod (.int i t) (.int j u)) Q E s:=by
      refine mod_int' (Int.ne_of_gt hl) ?_
      rw [fmod_pos hl]
      exact q.tok hr (.int _ _) _
    cases o <;> first | (cases c; done) | exact this
theorem aug_ok {op:BOp} {o:Operator} {a b r:V} {wa wb:Value} (e:augV op a b=some r) (c:opIs op o=true) (hr:HR S as T H s.heap) (va:VR S.fa as T a wa) (vb:VR S.fa as T b wb) (q:Ret S as T s H r Q):wpAny (model S.prog S.w) A (inplaceOp o wa wb) Q E s:=by
  refine onI_some_k e fun i hx e1=>?_; subst hx; clear e; have e:=e1; clear e1
  refine onI_some_k e fun j hx e1=>?_; subst hx; clear e; have e:=e1; clear e1
  obtain⟨t,rfl⟩:=intE va; obtain⟨u,rfl⟩:=intE vb
  cases op with
  | add=>cases e; cases o <;> first | (cases c; done) | exact iadd_int (q.tok hr (.int _ _) _)
  | _=>first | exact ff e | exact nn e | cases e
theorem strOk_ascii {x:List Nat} (h:x.all (· < 128)=true):PyData.strOk ⟨x.toArray⟩=true:=by
  unfold PyData.strOk
  rw [← Array.all_toList]
  refine List.all_eq_true.mpr fun c hc=>?_
  have:=List.all_eq_true.mp h c (by simpa using hc)
  simp at this ⊢
  exact Nat.not_le.mp (lin [_] (.c 1 (.a (.v 0) (.n 1)) (.n 128) (.c 1 (.n 1114112) (.v 0) .z)) rfl this)
theorem dat_reads (hr:HR S as T H h):∀(n:Nat) {v:V} {w:Value} {d:PyData},dat H n v=some d→VR S.fa as T v w→∃ bs,Reads h w d bs:=by
  intro n
  induction n with
  | zero=>intro v w d e; cases e
  | succ n ih =>
    have all:∀ {l:List V} {ws:List Value} {ds:List PyData},mapO (dat H n) l=some ds→VRs S.fa as T l ws→∃ bs,ReadsAll h ws ds bs:=by
      intro l
      induction l with
      | nil=>intro ws ds e x; cases e; cases x; exact⟨_,.nil⟩
      | cons a r ihl =>
        intro ws ds e x
        cases x with
        | cons y z =>
          rw [mapO_2] at e
          split at e
          · rename_i d hd
            split at e
            · rename_i ds' hds
              cases e
              obtain⟨bs,r1⟩:=ih hd y
              obtain⟨cs,r2⟩:=ihl hds z
              exact⟨_,.cons r1 r2⟩
            · first | exact ff e | exact nn e | cases e
          · first | exact ff e | exact nn e | cases e
    intro v w d e x
    rw [dat_2] at e
    split at e
    · cases e; cases noneE x; exact⟨_,.none⟩
    · cases e; cases boolE x; exact⟨_,.bool _⟩
    · cases e; obtain⟨t,rfl⟩:=intE x; exact⟨_,.int _ _⟩
    · split at e
      · cases e; obtain⟨t,rfl,_⟩:=strE x; exact⟨_,.str _ _⟩
      · first | exact ff e | exact nn e | cases e
    · obtain⟨ds,hds,rfl⟩:=Option.map_eq_some_iff.mp e
      refine tupE_k hr x fun a ws zq38=>?_
      subst zq38
      intro zq39 hz hv
      obtain⟨o,e1,c,k,d1⟩:=zq39
      obtain⟨bs,r⟩:=all hds hv
      exact⟨_,.tuple e1 c d1 (by simpa using r)⟩
    · split at e
      · rename_i l hl
        obtain⟨ds,hds,rfl⟩:=Option.map_eq_some_iff.mp e
        refine hr.listAt_k hl x fun a ws k zq40=>?_
        subst zq40
        intro hp e1 hz hv
        obtain⟨bs,r⟩:=all hds hv
        exact⟨_,.list e1 rfl rfl (by simpa using r)⟩
      · first | exact ff e | exact nn e | cases e
    · first | exact ff e | exact nn e | cases e
theorem dat_shape:∀(n:Nat) {v:V} {d:PyData},dat H n v=some d→d.canLay0=true∧d.depth≤n:=by
  intro n
  induction n with
  | zero=>intro v d e; cases e
  | succ n ih =>
    have all:∀ {l:List V} {ds:List PyData},mapO (dat H n) l=some ds→PyData.canLayAll0 ds=true∧PyData.depthAll ds≤n:=by
      intro l
      induction l with
      | nil=>intro ds e; cases e; exact⟨rfl,Nat.zero_le _⟩
      | cons a r ihl =>
        intro ds e
        rw [mapO_2] at e
        split at e
        · rename_i d hd
          split at e
          · rename_i ds' hds
            cases e
            have h1:=ih hd
            have h2:=ihl hds
            refine⟨?_,?_⟩
            · simp only [PyData.canLayAll0,h1.1,h2.1,Bool.and_self]
            · simp only [PyData.depthAll]; omega
          · first | exact ff e | exact nn e | cases e
        · first | exact ff e | exact nn e | cases e
    intro v d e
    rw [dat_2] at e
    split at e
    · cases e; exact⟨rfl,Nat.zero_le _⟩
    · cases e; exact⟨rfl,Nat.zero_le _⟩
    · cases e; exact⟨rfl,Nat.zero_le _⟩
    · split at e
      · rename_i ha; cases e; exact⟨by simp only [PyData.canLay0]; exact strOk_ascii ha,Nat.zero_le _⟩
      · first | exact ff e | exact nn e | cases e
    · obtain⟨ds,hds,rfl⟩:=Option.map_eq_some_iff.mp e
      have:=all hds
      exact⟨by simp only [PyData.canLay0]; exact this.1,by simp only [PyData.depth]; exact Nat.not_lt.mp (lin [_,_] (.c 1 (.v 0) (.v 1) (.c 1 (.a (.a (.v 1) (.n 1)) (.n 1)) (.a (.v 0) (.n 1)) .z)) rfl this.2)⟩
    · split at e
      · obtain⟨ds,hds,rfl⟩:=Option.map_eq_some_iff.mp e
        have:=all hds
        exact⟨by simp only [PyData.canLay0]; exact this.1,by simp only [PyData.depth]; exact Nat.not_lt.mp (lin [_,_] (.c 1 (.v 0) (.v 1) (.c 1 (.a (.a (.v 1) (.n 1)) (.n 1)) (.a (.v 0) (.n 1)) .z)) rfl this.2)⟩
      · first | exact ff e | exact nn e | cases e
    · first | exact ff e | exact nn e | cases e
theorem dat_shaped {v:V} {d:PyData} (e:dat H 8 v=some d):SeqAt.shaped d=true:=by
  have:=dat_shape 8 e
  unfold SeqAt.shaped
  rw [this.1,Bool.true_and]
  exact decide_eq_true (by exact Nat.not_lt.mp (lin [_] (.c 1 (.v 0) (.n 8) (.c 1 (.a (.n 64) (.n 1)) (.v 0) .z)) rfl this.2))
end
end Mine
namespace Mine
section
variable {S:Sur} {as as1:As} {T T1:TS} {H H':Hp} {h h' h1:Heap} {s:Shared} {v:V} {w:Value} {Q:Value→Shared→Prop} {A:Around} {E:Value→Shared→Prop}
theorem str_beq2 (x y:List Nat):((⟨x.toArray⟩:Str) == (⟨y.toArray⟩:Str))=(x == y):=by
  by_cases h:x=y
  · subst h; simp
  · have:(⟨x.toArray⟩:Str)≠⟨y.toArray⟩:=fun q=>h (by simpa using congrArg (fun z=>z.cps.toList) q)
    rw [beq_eq_false_iff_ne.mpr this,beq_eq_false_iff_ne.mpr h]
theorem eq_ok {a b:V} {wa wb:Value} {r:Bool} (hu:A.units+64<cLine) (e:eqV H a b=some r) (hr:HR S as T H s.heap) (va:VR S.fa as T a wa) (vb:VR S.fa as T b wb) (q:∀ tk,Q (.bool r) { s with toks:=tk }):wpAny (model S.prog S.w) A (compareOp .Eq wa wb) Q E s:=by
  unfold eqV at e
  cases hf:fastEq H a b with
  | none=>rw [hf] at e; cases e
  | some r' =>
    rw [hf] at e
    subst e
    cases a with
    | str x =>
      cases b with
      | str y =>
        cases hf
        refine strE_k va fun t zq45=>?_
        subst zq45
        intro h1; obtain⟨u,rfl,h2⟩:=strE vb
        exact eq_str (by rw [str_beq2]; exact q _)
      | _=>first | exact ff hf | exact nn hf | cases hf
    | int i =>
      cases b with
      | int j =>
        cases hf
        obtain⟨t,rfl⟩:=intE va; obtain⟨u,rfl⟩:=intE vb
        exact eq_int (q _)
      | _=>first | exact ff hf | exact nn hf | cases hf
    | tup l =>
      cases b with
      | str y =>
        cases hf
        refine tupE_k hr va fun a' ws zq47=>?_
        subst zq47
        intro ht hz hv
        refine strE_k vb fun u zq48=>?_
        subst zq48
        intro h2
        exact SeqAt.RcAt.tuple_str _ _ ht (by exact Nat.not_le.mp (lin [_,_] (.c 1 (.a (.a (.v 0) (.n 64)) (.n 1)) (.v 1) (.c 1 (.v 1) (.v 0) .z)) rfl hu)) S.prog S.w E Q (q _)
      | _=>first | exact ff hf | exact nn hf | cases hf
    | _=>first | exact ff hf | exact nn hf | cases hf
theorem neD_ok {a b:V} {wa wb:Value} {r:Bool} (hu:A.units+64<cLine) (e:(eqD H a b).map (!·)=some r) (hr:HR S as T H s.heap) (va:VR S.fa as T a wa) (vb:VR S.fa as T b wb) (q:∀ tk,Q (.bool r) { s with toks:=tk }):wpAny (model S.prog S.w) A (compareOp .NotEq wa wb) Q E s:=by
  refine map_some_k e fun r' e h=>?_
  refine eqD_some_k e fun x y hx hy hr'=>?_
  obtain⟨bs,r1⟩:=dat_reads hr 8 hx va
  obtain⟨cs,r2⟩:=dat_reads hr 8 hy vb
  exact SeqAt.compareNe_shaped r1 r2 (dat_shaped hx) (dat_shaped hy) hu (by rw [hr',h]; exact q _)
theorem ne_ok {a b:V} {wa wb:Value} {r:Bool} (hu:A.units+64<cLine) (e:neV H a b=some r) (hr:HR S as T H s.heap) (va:VR S.fa as T a wa) (vb:VR S.fa as T b wb) (q:∀ tk,Q (.bool r) { s with toks:=tk }):wpAny (model S.prog S.w) A (compareOp .NotEq wa wb) Q E s:=by
  unfold neV at e
  cases hf:fastNe a b with
  | none=>rw [hf] at e; exact neD_ok hu e hr va vb q
  | some r' =>
    rw [hf] at e
    cases e
    refine onS_some_k hf fun x hx e1=>?_; subst hx
    refine onS_some_k e1 fun y hy e2=>?_; subst hy
    cases e2
    refine strE_k va fun t zq49=>?_
    subst zq49
    intro h1; obtain⟨u,rfl,h2⟩:=strE vb
    exact ne_str (by rw [bne,str_beq2]; exact q _)
theorem strsE:∀ {l:List V} {ws:List Value} {ss:List (List Nat)},strsOf l=some ss→VRs S.fa as T l ws→StrsAre ws (ss.map fun x=>(⟨x.toArray⟩:Str))
  | _,_,_,e,.nil=>by cases e; exact .nil
  | a::r,_,_,e,.cons x y=>by
    unfold strsOf at e
    split at e
    · rename_i q; cases q
    · rename_i z r' e'
      cases e'
      split at e
      · rename_i l hl
        cases e
        refine strE_k x fun t zq51=>?_
        subst zq51
        intro _
        exact .cons _ _ (strsE hl y)
      · first | exact ff e | exact nn e | cases e
    · first | exact ff e | exact nn e | cases e
theorem strs_any (x:List Nat):∀ {ws:List Value} {ss:List (List Nat)},StrsAre ws (ss.map fun x=>(⟨x.toArray⟩:Str))→ws.any (fun y=>y.isStr ⟨x.toArray⟩)=ss.any (· == x)
  | _,[],h=>by cases h; rfl
  | _,y::r,h=>by
    cases h with
    | cons _ _ h' =>
      rw [List.any_cons,List.any_cons,strs_any x h']
      congr 1
      exact str_beq2 y x
theorem strs_eqAt (x:List Nat) (u:Tok):∀ {ws:List Value} {ss:List Str},StrsAre ws ss→∀ y∈ws,SeqAt.EqAt A s y (.str ⟨x.toArray⟩ u) (y.isStr ⟨x.toArray⟩):=by
  intro ws ss h
  induction h with
  | nil=>intro y hy; cases hy
  | cons z t _ ih =>
    intro y hy
    cases hy with
    | head=>exact SeqAt.EqAt.str_str _ _ _ _
    | tail _ hy=>exact ih y hy
theorem in_ok {a b:V} {wa wb:Value} {r:Bool} (e:inV H a b=some r) (hr:HR S as T H s.heap) (va:VR S.fa as T a wa) (vb:VR S.fa as T b wb) (q:∀ tk,Q (.bool r) { s with toks:=tk }):wpAny (model S.prog S.w) A (compareOp .In wa wb) Q E s:=by
  refine onS_some_k e fun x hx e1=>?_; subst hx; clear e; have e:=e1; clear e1
  refine strE_k va fun t1 zq52=>?_
  subst zq52
  intro h1
  cases b with
  | tup l =>
    refine strsOf'_some_k e fun ss hs e=>?_
    cases e
    refine tupE_k hr vb fun a' ws zq54=>?_
    subst zq54
    intro ht hz hv
    have hst:=strsE hs hv
    refine SeqAt.in_tupleAt (fun y=>y.isStr ⟨x.toArray⟩) ht (fun y hy=>strs_eqAt x t1 hst y (by simpa using hy)) ?_
    rw [← Array.any_toList,List.toList_toArray,strs_any x hst]; exact q _
  | _=>first | exact ff e | exact nn e | cases e
theorem notin_ok {a b:V} {wa wb:Value} {r:Bool} (e:inV H a b=some r) (hr:HR S as T H s.heap) (va:VR S.fa as T a wa) (vb:VR S.fa as T b wb) (q:∀ tk,Q (.bool (!r)) { s with toks:=tk }):wpAny (model S.prog S.w) A (compareOp .NotIn wa wb) Q E s:=by
  refine onS_some_k e fun x hx e1=>?_; subst hx; clear e; have e:=e1; clear e1
  refine strE_k va fun t1 zq56=>?_
  subst zq56
  intro h1
  cases b with
  | tup l =>
    refine strsOf'_some_k e fun ss hs e=>?_
    cases e
    refine tupE_k hr vb fun a' ws zq58=>?_
    subst zq58
    intro ht hz hv
    have hst:=strsE hs hv
    refine SeqAt.notIn_tupleAt (fun y=>y.isStr ⟨x.toArray⟩) ht (fun y hy=>strs_eqAt x t1 hst y (by simpa using hy)) ?_
    rw [← Array.any_toList,List.toList_toArray,strs_any x hst]; exact q _
  | _=>first | exact ff e | exact nn e | cases e
theorem vr_ne_none (x:VR S.fa as T v w) (hv:v≠.none):w≠.none:=by
  cases x <;> first | exact absurd rfl hv | (intro q; cases q)
theorem isV_some {a b:V} {r:Bool} (e:isV' a b=some r):b=.none∧isNone0 a=r:=by
  unfold isV' at e
  cases h:isNone0 b with
  | true=>rw [h] at e; exact⟨isNone0_eq h,Option.some.inj e⟩
  | false=>rw [h] at e; first | exact nn e | exact ff e | cases e
theorem is_ok {a b:V} {wa wb:Value} {r:Bool} (e:isV' a b=some r) (va:VR S.fa as T a wa) (vb:VR S.fa as T b wb) (q:∀ tk,Q (.bool r) { s with toks:=tk }):wpAny (model S.prog S.w) A (compareOp .Is wa wb) Q E s:=by
  obtain⟨rfl,rfl⟩:=isV_some e
  cases noneE vb
  cases h:isNone0 a with
  | true=>cases isNone0_eq h; cases noneE va; exact wpAny_is_self rfl (q _)
  | false =>
    rw [h] at q
    refine wpAny_is_other ?_ (vr_ne_none va fun q=>by rw [q] at h; cases h) (q _)
    cases va <;> rfl
theorem isnot_ok {a b:V} {wa wb:Value} {r:Bool} (e:isV' a b=some r) (va:VR S.fa as T a wa) (vb:VR S.fa as T b wb) (q:∀ tk,Q (.bool (!r)) { s with toks:=tk }):wpAny (model S.prog S.w) A (compareOp .IsNot wa wb) Q E s:=by
  obtain⟨rfl,rfl⟩:=isV_some e
  cases noneE vb
  cases h:isNone0 a with
  | true=>cases isNone0_eq h; cases noneE va; exact wpAny_isNot_self rfl (q _)
  | false =>
    rw [h] at q
    refine wpAny_isNot_other ?_ (vr_ne_none va fun q=>by rw [q] at h; cases h) (q _)
    cases va <;> rfl
theorem lt_ok {a b:V} {wa wb:Value} {r:Bool} (hu:A.units+64<cLine) (e:ltV H a b=some r) (hr:HR S as T H s.heap) (va:VR S.fa as T a wa) (vb:VR S.fa as T b wb) (q:∀ tk,Q (.bool r) { s with toks:=tk }):wpAny (model S.prog S.w) A (compareOp .Lt wa wb) Q E s:=by
  cases a with
  | int i =>
    refine onI_some_k e fun j hx e1=>?_; subst hx; clear e; have e:=e1; clear e1
    cases e
    obtain⟨t,rfl⟩:=intE va; obtain⟨u,rfl⟩:=intE vb
    exact lt_int (q _)
  | _=>first | exact ff e | exact nn e | cases e
theorem cmp_ok {op:COp} {o:CmpOp} {a b:V} {wa wb:Value} {r:Bool} (hu:A.units+64<cLine) (e:cmpV H op a b=some r) (c:copIs op o=true) (hr:HR S as T H s.heap) (va:VR S.fa as T a wa) (vb:VR S.fa as T b wb) (q:∀ tk,Q (.bool r) { s with toks:=tk }) :
    wpAny (model S.prog S.w) A (compareOp o wa wb) Q E s:=by
  cases op with
  | eq=>cases o <;> first | (cases c; done) | exact eq_ok hu e hr va vb q
  | ne=>cases o <;> first | (cases c; done) | exact ne_ok hu e hr va vb q
  | lt=>cases o <;> first | (cases c; done) | exact lt_ok hu e hr va vb q
  | le=>exact nn e
  | gt =>
    refine onI_some_k e fun i hx e1=>?_; subst hx; clear e; have e:=e1; clear e1
    refine onI_some_k e fun j hx e1=>?_; subst hx; clear e; have e:=e1; clear e1
    cases e
    obtain⟨t,rfl⟩:=intE va; obtain⟨u,rfl⟩:=intE vb
    cases o <;> first | (cases c; done) | exact gt_int (q _)
  | ge=>exact nn e
  | is=>cases o <;> first | (cases c; done) | exact is_ok e va vb q
  | isnot =>
    refine map_some_k e fun r' h1 zq60=>?_
    subst zq60
    cases o <;> first | (cases c; done) | exact isnot_ok h1 va vb q
  | isin=>cases o <;> first | (cases c; done) | exact in_ok e hr va vb q
  | notin =>
    refine map_some_k e fun r' h1 zq61=>?_
    subst zq61
    cases o <;> first | (cases c; done) | exact notin_ok h1 hr va vb q
end
end Mine
namespace Mine
section
variable {S:Sur} {as as1:As} {T T1:TS} {H H':Hp} {h h' h1:Heap} {s:Shared} {v:V} {w:Value} {Q:Value→Shared→Prop} {A:Around} {E:Value→Shared→Prop}
noncomputable def Sub (s:Shared) (w:Value):Prop:=∃ Ty id,s.TypeIs w Ty∧typeLookup (.type Ty) "__getitem__" = pure (some (.builtin id))
theorem idxL_some {α:Type} {l:List α} {i:Int} {x:α} (e:idxL l i=some x):0≤i∧l[i.toNat]? = some x:=by
  unfold idxL at e
  split at e
  · exact⟨by assumption,e⟩
  · first | exact ff e | exact nn e | cases e
theorem str_eq_iff {x y:List Nat}:(⟨x.toArray⟩:Str)=⟨y.toArray⟩↔x=y:=⟨fun q=>by simpa using congrArg (fun z=>z.cps.toList) q,fun q=>by rw [q]⟩
theorem list_sub {a:Addr} {ws:List Value} {k:Nat} (e:s.heap.get? a=some (lst ws k)):Sub s (.ref a):=⟨_,_,⟨_,e,rfl⟩,PySem.slot_list_getitem.lookup⟩
theorem idx_ok {a i r:V} {wa wi:Value} (e:idxV H a i=some r) (hr:HR S as T H s.heap) (va:VR S.fa as T a wa) (vi:VR S.fa as T i wi) (q:∀ u tk,VR S.fa as T r u→Q u { s with toks:=tk }) :
    Sub s wa∧wpAny (model S.prog S.w) A (getItem wa wi) Q E s:=by
  cases a with
  | tup l =>
    refine onI_some_k e fun i hx e1=>?_; subst hx; clear e; have e:=e1; clear e1
    obtain⟨t,rfl⟩:=intE vi
    obtain⟨h1,h2⟩:=idxL_some e
    refine⟨?_,item_tup_ok hr va h1 h2 fun u vu=>q u s.toks vu⟩
    refine tupE_k hr va fun a' ws zq62=>?_
    subst zq62
    intro zq63 hz hv
    obtain⟨o,e1,c,_⟩:=zq63
    exact⟨_,_,⟨_,e1,c⟩,PySem.F.slot_tuple_getitem.lookup⟩
  | str x =>
    refine onI_some_k e fun i hx e1=>?_; subst hx; clear e; have e:=e1; clear e1
    obtain⟨t,rfl⟩:=intE vi
    refine map_some_k e fun c hc zq64=>?_
    subst zq64
    obtain⟨h1,h2⟩:=idxL_some hc
    refine strE_k va fun u zq65=>?_
    subst zq65
    intro hz
    have hlt:=(List.getElem?_eq_some_iff.mp h2).1
    have h63:=lim_63 hz
    refine⟨⟨_,_,rfl,PySem.F.slot_str_getitem.lookup⟩,getItem_str (c:=c) (by simp; omega) ?_ (q _ _ (.str [c] _ (by simp [lim])))⟩
    have:seqIndex? i (⟨x.toArray⟩:Str).length=some i.toNat:=by
      unfold seqIndex?
      rw [str_len]
      simp only [show ¬ i<0 by omega,if_false]
      rw [if_pos (by simp; omega)]
    rw [this]
    simpa using h2
  | loc n =>
    cases i with
    | int i =>
      obtain⟨t,rfl⟩:=intE vi
      refine atL_some_k e fun l hl e=>?_
      obtain⟨h1,h2⟩:=idxL_some e
      refine⟨?_,item_list_ok hr va hl h1 h2 fun u vu=>q u s.toks vu⟩
      refine hr.listAt_k hl va fun a' ws k zq66=>?_
      subst zq66
      intro hp e1 hz hv
      exact list_sub e1
    | _=>first | exact ff e | exact nn e | cases e
  | _=>first | exact ff e | exact nn e | cases e
theorem setI_ok {o i x:V} {wo wi wx:Value} {Q:Unit→Shared→Prop} (e:setI H o i x=some H') (hr:HR S as T H s.heap) (vo:VR S.fa as T o wo) (vi:VR S.fa as T i wi) (vx:VR S.fa as T x wx) (q:RetU S as T s H' Q) :
    wpAny (model S.prog S.w) A (setItem wo wi wx) Q E s:=by
  refine onN_some_k e fun n hx e1=>?_; subst hx; clear e; have e:=e1; clear e1
  cases i with
  | int i =>
    refine atL_some_k e fun l hl e=>?_
    obtain⟨hc,e⟩:=gd_some e
    cases e
    obtain⟨t,rfl⟩:=intE vi
    exact setItem_list_ok hr vo vx hl hc.1 hc.2 q
  | _=>first | exact ff e | exact nn e | cases e
noncomputable def KV (S:Sur):IK→Value→Prop
  | .int,w=>w=.type "int"
  | .str,w=>w=.type "str"
  | .tuple,w=>w=.type "tuple"
  | .cls k,w=>∃ C:Nat,S.ca[k]? = some C∧w=.ref C
theorem kit_ty (C:Cx S) {t c:String} (ht:t∈tyNames) (hc:c∈["int","str","tuple"]):kitOne S.K (.type t) (.type c)=some (t == c || (t == "bool" && c == "int")):=by
  have:=C.kit
  unfold kitAll at this
  simp only [Bool.and_eq_true] at this
  exact beq_iff_eq.mp (List.all_eq_true.mp (List.all_eq_true.mp this.1 t ht) c hc)
noncomputable def tyV:V→Option String
  | .int _=>some "int"
  | .bool _=>some "bool"
  | .none=>some "NoneType"
  | .str _=>some "str"
  | .tup _=>some "tuple"
  | _=>none
theorem kia_ty (C:Cx S) {x:V} {t:String} {b:Bool} {wx wk:Value} (hr:HR S as T H s.heap) (ht:tyV x=some t) (vx:VR S.fa as T x wx) (e:kitOne S.K (.type t) wk=some b) (q:∀ tk,Q (.bool b) { s with toks:=tk }):wpAny (model S.prog S.w) A (call (.builtin "isinstance") [wx,wk]) Q E s:=by
  have X:=C.X.keeps hr.base
  cases x <;> simp only [tyV] at ht <;> cases ht
  · cases noneE vx
    exact kia_one kitx_none X trivial e (by intro q; cases q) q
  · cases boolE vx
    exact kia_one kitx_bool X trivial e (by intro q; cases q) q
  · obtain⟨t,rfl⟩:=intE vx
    exact kia_one kitx_int X trivial e (by intro q; cases q) q
  · refine strE_k vx fun t zq71=>?_
    subst zq71
    intro _
    exact kia_one kitx_str X trivial e (by intro q; cases q) q
  · refine tupE_k hr vx fun a ws zq72=>?_
    subst zq72
    intro zq73 hz hv
    obtain⟨o,e1,c1,_⟩:=zq73
    exact kia_one kitx_tuple X ⟨o,e1,c1⟩ e (by intro q; cases q) q
theorem tyV_mem {x:V} {t:String} (h:tyV x=some t):t∈tyNames:=by
  cases x <;> simp only [tyV] at h <;> cases h <;> decide
theorem isi_ok {x:V} {k:IK} {b:Bool} {wx wk:Value} (C:Cx S) (e:isV x k=some b) (hr:HR S as T H s.heap) (vx:VR S.fa as T x wx) (hk:KV S k wk) (q:∀ tk,Q (.bool b) { s with toks:=tk }) :
    wpAny (model S.prog S.w) A (call (.builtin "isinstance") [wx,wk]) Q E s:=by
  have ex:∀ {c:String} {k:IK},isV x k=some b→(k=.str∧c="str")∨(k=.tuple∧c="tuple")→∃ t,tyV x=some t∧b=(t == c || (t == "bool" && c == "int")):=by
    intro c k h hk
    rcases hk with⟨rfl,rfl⟩ | ⟨rfl,rfl⟩ <;> cases x <;> simp only [isV] at h <;> cases h <;> exact⟨_,rfl,by decide⟩
  cases k with
  | int=>exact nn e
  | str =>
    obtain⟨t,h1,h2⟩:=ex (c:="str") e (.inl ⟨rfl,rfl⟩)
    rw [show wk=.type "str" from hk]
    exact kia_ty C hr h1 vx ((kit_ty C (tyV_mem h1) (by decide)).trans (by rw [h2])) q
  | tuple =>
    obtain⟨t,h1,h2⟩:=ex (c:="tuple") e (.inr ⟨rfl,rfl⟩)
    rw [show wk=.type "tuple" from hk]
    exact kia_ty C hr h1 vx ((kit_ty C (tyV_mem h1) (by decide)).trans (by rw [h2])) q
  | cls k=>exact nn e
end
end Mine
namespace Mine
section
variable {S:Sur} {as as1:As} {T T1:TS} {H H':Hp} {h h' h1:Heap} {s:Shared} {v:V} {w:Value} {Q:Value→Shared→Prop} {A:Around} {E:Value→Shared→Prop}
theorem vrs1_k {fa:List Nat} {a:V} {ws:List Value} (x:VRs fa as T [a] ws) {zg:Prop} (zk:∀ w,(ws=[w])→(VR fa as T a w)→zg):zg:=by
  cases x with
  | cons h r=>cases r; exact zk _ rfl h
theorem vrs1 {fa:List Nat} {a:V} {ws:List Value} (x:VRs fa as T [a] ws):∃ w,ws=[w]∧VR fa as T a w:=vrs1_k x fun w zh1 zh2=>⟨w,zh1,zh2⟩
theorem vrs2_k {fa:List Nat} {a b:V} {ws:List Value} (x:VRs fa as T [a,b] ws) {zg:Prop} (zk:∀ w,∀ u,(ws=[w,u])→(VR fa as T a w)→(VR fa as T b u)→zg):zg:=by
  cases x with
  | cons h r=>obtain⟨u,rfl,k⟩:=vrs1 r; exact zk _ _ rfl h k
theorem vrs2 {fa:List Nat} {a b:V} {ws:List Value} (x:VRs fa as T [a,b] ws):∃ w u,ws=[w,u]∧VR fa as T a w∧VR fa as T b u:=vrs2_k x fun w u zh1 zh2 zh3=>⟨w,u,zh1,zh2,zh3⟩
theorem vrs3_k {fa:List Nat} {a b c:V} {ws:List Value} (x:VRs fa as T [a,b,c] ws) {zg:Prop} (zk:∀ w,∀ u,∀ z,(ws=[w,u,z])→(VR fa as T a w)→(VR fa as T b u)→(VR fa as T c z)→zg):zg:=by
  cases x with
  | cons h r=>obtain⟨u,z,rfl,k,m⟩:=vrs2 r; exact zk _ _ _ rfl h k m
theorem one_div {x c:Int} (h:c=1∨c = -1):Builtin.divisionGoesByPylong x c=false:=by
  have h1:Nat.log2 1=0:=by decide
  unfold Builtin.divisionGoesByPylong
  rcases h with rfl | rfl <;> simp [h1]
theorem rng_len {a b c:Int} (h:c=1∨c = -1):Builtin.Range.rangeSize a b c=(rngLen a b c:Nat):=by
  unfold Builtin.Range.rangeSize rngLen
  rcases h with rfl | rfl
  · simp only [show(1:Int) > 0 by decide,show(0:Int)<1 by decide,if_true,Int.ediv_one]
    split <;> omega
  · simp only [show ¬ ((-1:Int) > 0) by decide,show ¬ (0:Int) < -1 by decide,show(-1:Int)<0 by decide,if_false,if_true,show(- -1:Int)=1 by decide,Int.ediv_one]
    split <;> omega
theorem rng_small {a b c:Int} (h:c=1∨c = -1) (ha:a.natAbs<1048576) (hb:b.natAbs<1048576):Builtin.Range.small a b c=true:=by
  have hs:Builtin.Range.rangeSize a b c≤4194304∧0≤Builtin.Range.rangeSize a b c:=by
    unfold Builtin.Range.rangeSize
    rcases h with rfl | rfl
    · simp only [show(1:Int) > 0 by decide,if_true,Int.ediv_one]
      split <;> omega
    · simp only [show ¬ ((-1:Int) > 0) by decide,if_false,show(- -1:Int)=1 by decide,Int.ediv_one]
      split <;> omega
  have f:∀ x:Int,-8388608≤x→x≤8388608→Builtin.Range.rangeFitsLong x=true:=fun x h1 h2=>by
    unfold Builtin.Range.rangeFitsLong
    simp only [Bool.and_eq_true,decide_eq_true_eq]
    omega
  unfold Builtin.Range.small
  simp only [Bool.and_eq_true,Bool.or_eq_true]
  refine⟨⟨⟨⟨f _ (by omega) (by omega),f _ (by omega) (by omega)⟩,f _ (by omega) (by omega)⟩,f _ (by omega) (by omega)⟩,.inr ?_⟩
  split
  · exact f _ (by omega) (by omega)
  · exact f _ (by omega) (by omega)
theorem rngL_vrs {a c:Int}:∀(n:Nat) {k:Nat} {acc:List Value},acc.length=n→(∀ j v,acc[j]? = some v→∃ t,v=Value.int (a+(k+j:Nat) * c) t)→VRs S.fa as T ((rngL (a+k * c) c n).map .int) acc
  | 0,k,acc,hl,_=>by
    have:acc=[]:=List.length_eq_zero_iff.mp hl
    subst this; exact .nil
  | n+1,k,[],hl,_=>by simp at hl
  | n+1,k,v::r,hl,hv=>by
    obtain⟨t,rfl⟩:=hv 0 v rfl
    rw [rngL_2,List.map_cons]
    refine .cons (by simpa using VR.int (a+k * c) t) ?_
    have:=rngL_vrs n (k:=k+1) (acc:=r) (by simpa using hl) (fun j u hu=>by
      obtain⟨t,ht⟩:=hv (j+1) u (by simpa using hu)
      exact⟨t,by rw [ht]; congr 2; push_cast; congr 1; omega⟩)
    rw [show a+((k+1:Nat):Int) * c=a+k * c+c by push_cast; rw [Int.add_mul]; omega] at this
    exact this
theorem rngL_len (a c:Int):∀ n,(rngL a c n).length=n
  | 0=>rfl
  | n+1=>by rw [rngL_2,List.length_cons,rngL_len]
theorem rngE_k {a b c:Int} (hr:HR S as T H h) (x:VR S.fa as T (.rng a b c) w) {zg:Prop} (zk:∀ p,∀ t,∀ u,∀ v,(w=.ref p)→(IsRange h p a b c t u v)→zg):zg:=by
  cases x with
  | rng t=>obtain⟨t1,u,v,e⟩:=hr.im _ _ t; exact zk _ _ _ _ rfl e
theorem new_rng {a b c:Int} {t u x:Tok} (hr:HR S as T H s.heap) (q:Ret S as T s H (.rng a b c) Q) (tk:Tok) :
    Q (.ref s.heap.objs.size) { s with heap:=s.heap.push { cls:=.type "range",data:=.fields #[.int a t,.int b u,.int c x] },toks:=tk }:=by
  obtain⟨e,r⟩:=new_im (a:=s.heap.objs.size) (i:=.rng a b c) hr (keep_push { cls:=.type "range",data:=.fields #[.int a t,.int b u,.int c x] }) ⟨t,u,x,Heap.get?_push_size _ rfl⟩ (fun _ q=>by cases q)
  exact q _ _ _ _ _ e r (.rng (.inr ⟨rfl,rfl⟩))
theorem listAtN_k {n:Nat} {l:List V} (hr:HR S as T H h) (hl:H[n]? = some (.list l)) (x:VR S.fa as T (.loc n) w) {zg:Prop} (zk:∀ a,∀ ws,(w=.ref a)→(h.IsList a ws.toArray)→(l.length≤lim)→(VRs S.fa as T l ws)→zg):zg:=by
  refine hr.listAt_k hl x fun a ws k zq76=>?_
  subst zq76
  intro hp e1 hz hv
  exact zk a ws rfl (⟨_,e1,rfl,k,rfl⟩) hz hv
theorem len_ok {a:V} {n:Nat} {w0:Value} (e:lenV a H=some n) (hr:HR S as T H s.heap) (v0:VR S.fa as T a w0) (q:Ret S as T s H (.int n) Q):wpAny (model S.prog S.w) A (call (.builtin "len") [w0]) Q E s:=by
  cases a with
  | str x =>
    cases e
    refine strE_k v0 fun t zq77=>?_
    subst zq77
    intro hz
    refine PyProof.Rows.len_str (by rw [str_len]; have:=lim_63 hz; omega) ?_
    rw [str_len]
    exact q.tok hr (.int _ _) _
  | tup l =>
    cases e
    refine tupE_k hr v0 fun a ws zq78=>?_
    subst zq78
    intro ht hz hv
    have hl:=hv.length
    refine len_tuple ht (by rw [List.size_toArray,hl]; exact lim_63 hz) ?_
    rw [List.size_toArray,hl]
    exact q.tok hr (.int _ _) _
  | loc n =>
    refine atL_some_k e fun l hl e=>?_
    cases e
    refine listAtN_k hr hl v0 fun a ws zq79=>?_
    subst zq79
    intro ht hz hv
    have hl:=hv.length
    refine len_list ht (by rw [List.size_toArray,hl]; exact lim_63 hz) ?_
    rw [List.size_toArray,hl]
    exact q.tok hr (.int _ _) _
  | _=>first | exact ff e | exact nn e | cases e
theorem int_ok {a:V} {n:Int} {w0:Value} (e:intV a=some n) (hr:HR S as T H s.heap) (v0:VR S.fa as T a w0) (q:Ret S as T s H (.int n) Q):wpAny (model S.prog S.w) A (call (.type "int") [w0]) Q E s:=by
  cases a with
  | int i =>
    cases e
    obtain⟨t,rfl⟩:=intE v0
    exact call_int_int (q.now hr (.int _ _))
  | _=>first | exact ff e | exact nn e | cases e
theorem list_ok {a:V} {l:List V} {w0:Value} (hh:A.handled=none) (e:listV a H=some l) (hr:HR S as T H s.heap) (v0:VR S.fa as T a w0) (q:Ret S as T s (H++[.list l]) (.loc H.length) Q):wpAny (model S.prog S.w) A (call (.type "list") [w0]) Q E s:=by
  cases a with
  | tup l=>cases e; exact listTup_ok hr v0 q
  | _=>first | exact ff e | exact nn e | cases e
theorem range_ok {vs:List V} {v:V} {ws:List Value} (e:rangeV vs=some v) (hr:HR S as T H s.heap) (vv:VRs S.fa as T vs ws) (q:Ret S as T s H v Q):wpAny (model S.prog S.w) A (call (.type "range") ws) Q E s:=by
  cases vv with
  | nil=>first | exact ff e | exact nn e | cases e
  | cons v0 vv =>
    refine onI_some_k e fun a hx e1=>?_; subst hx; clear e; have e:=e1; clear e1
    obtain⟨t,rfl⟩:=intE v0
    obtain⟨hx,e1⟩:=on0_some e; subst hx; clear e; have e:=e1; clear e1
    cases vv
    obtain⟨hc,e⟩:=gd_some e
    cases e
    exact PySem.call_range_1 (new_rng hr q _)
theorem prim_ok {p:Pr} {r:V} {vs:List V} {ws:List Value} (hh:A.handled=none) (e:primV p vs H=some (r,H')) (hr:HR S as T H s.heap) (vv:VRs S.fa as T vs ws) (q:Ret S as T s H' r Q) :
    wpAny (model S.prog S.w) A (call (primVal p) ws) Q E s:=by
  cases p with
  | len =>
    refine on1_some_k e fun a hx e1=>?_; subst hx; clear e; have e:=e1; clear e1
    refine vrs1_k vv fun w0 zq82=>?_
    subst zq82
    intro v0
    refine map_some_k e fun n e1 h=>?_
    cases h
    exact len_ok e1 hr v0 q
  | abs =>
    refine on1_some_k e fun a hx e1=>?_; subst hx; clear e; have e:=e1; clear e1
    refine vrs1_k vv fun w0 zq83=>?_
    subst zq83
    intro v0
    refine onI_some_k e fun i hx e1=>?_; subst hx; clear e; have e:=e1; clear e1
    cases e
    obtain⟨t,rfl⟩:=intE v0
    refine PyProof.Rows.call_abs_int fun u tk=>?_
    have:(if i<0 then -i else i)=(i.natAbs:Int):=by split <;> omega
    rw [this]
    exact q.tok hr (.int _ _) _
  | int =>
    refine on1_some_k e fun a hx e1=>?_; subst hx; clear e; have e:=e1; clear e1
    refine vrs1_k vv fun w0 zq84=>?_
    subst zq84
    intro v0
    refine map_some_k e fun n e1 h=>?_
    cases h
    exact int_ok e1 hr v0 q
  | chr=>exact nn e
  | ord=>exact nn e
  | list =>
    refine on1_some_k e fun a hx e1=>?_; subst hx; clear e; have e:=e1; clear e1
    refine vrs1_k vv fun w0 zq88=>?_
    subst zq88
    intro v0
    refine map_some_k e fun l e1 h=>?_
    cases h
    exact list_ok hh e1 hr v0 q
  | range =>
    refine map_some_k e fun v e1 h=>?_
    cases h
    exact range_ok e1 hr vv q
  | min=>cases e
  | str=>exact nn e
end
end Mine
namespace Mine
section
variable {S:Sur} {as as1:As} {T T1:TS} {H H':Hp} {h h' h1:Heap} {s:Shared} {v:V} {w:Value} {Q:Value→Shared→Prop} {A:Around} {E:Value→Shared→Prop}
noncomputable def bmTy:BM→String
  | .append=>"list" | .pop=>"list" | .extend=>"list" | .reverse=>"list" | .join=>"str" | .replace=>"str" | .startswith=>"str" | .lstrip=>"str" | .split=>"str" | .get=>"dict"
noncomputable def bmId:BM→String
  | .append=>"list.append" | .pop=>"list.pop" | .extend=>"list.extend" | .reverse=>"list.reverse" | .join=>"str.join" | .replace=>"str.replace" | .startswith=>"str.startswith" | .lstrip=>"str.lstrip" | .split=>"str.split" | .get=>"dict.get"
theorem strs_vals:∀ {ws:List Value} {ss:List (List Nat)},StrsAre ws (ss.map fun x=>(⟨x.toArray⟩:Str))→∃ l:List (Str×Tok),ws=strValues l∧l.map (·.1)=ss.map fun x=>(⟨x.toArray⟩:Str)
  | _,[],h=>by cases h; exact⟨[],rfl,rfl⟩
  | _,y::r,h=>by
    cases h with
    | cons _ t h' =>
      obtain⟨l,h1,h2⟩:=strs_vals h'
      exact⟨(_,t)::l,by rw [h1]; rfl,by rw [List.map_cons,h2,List.map_cons]⟩
theorem glue_cat (ss:List (List Nat)):Txt.join (⟨#[]⟩:Str) (ss.map fun x=>(⟨x.toArray⟩:Str))=⟨(catL ss).toArray⟩:=by
  have gen:∀(r:List (List Nat)) (acc:List Nat),(List.foldl (fun acc (p:Str)=>acc++(#[]:Array Nat)++p.cps) acc.toArray (r.map fun x=>(⟨x.toArray⟩:Str)))=(acc++catL r).toArray:=by
    intro r
    induction r with
    | nil=>intro acc; simp [catL_1,catL_2]
    | cons x r ih =>
      intro acc
      rw [List.map_cons,List.foldl_cons]
      have:acc.toArray++(#[]:Array Nat)++x.toArray=(acc++x).toArray:=by simp
      rw [this,ih,catL_2,List.append_assoc]
  cases ss with
  | nil=>rfl
  | cons x r =>
    show(⟨List.foldl (fun acc (p:Str)=>acc++(#[]:Array Nat)++p.cps) x.toArray (r.map fun x=>(⟨x.toArray⟩:Str))⟩:Str)=_
    rw [gen]; rfl
theorem sum_cat:∀(ss:List (List Nat)) (n:Nat),List.foldl (fun x1 (x2:Str)=>x1+x2.length+(⟨#[]⟩:Str).length) n (ss.map fun x=>(⟨x.toArray⟩:Str))=n+(catL ss).length
  | [],n=>rfl
  | x::r,n=>by
    rw [List.map_cons,List.foldl_cons,sum_cat r,catL_2,List.length_append,str_len]
    show n+x.length+0+_=_
    exact lnq [_,_,_] (.a (.a (.a (.v 0) (.v 1)) (.n 0)) (.v 2)) (.a (.v 0) (.a (.v 1) (.v 2))) rfl
theorem start_has:∀(t s:List Nat),Txt.startswith ⟨s.toArray⟩ ⟨t.toArray⟩=hasPre t s:=by
  have gen:∀(t s:List Nat),(s.take t.length == t)=hasPre t s:=by
    intro t
    induction t with
    | nil=>intro s; simp [hasPre_1,hasPre_2,hasPre_3]
    | cons a r ih =>
      intro s
      cases s with
      | nil=>rfl
      | cons b u =>
        rw [hasPre_3,← ih u,List.length_cons,List.take_succ_cons]
        show(b == a && List.take r.length u == r)=_
        congr 1
        rw [Bool.eq_iff_iff,beq_iff_eq,beq_iff_eq]
        exact eq_comm
  intro t s
  unfold Txt.startswith
  rw [StrLaws.subAt_eq,← gen t s,str_len,str_len]
  show(decide (0+t.length≤s.length) && (List.take t.length s == t))=_
  rw [Nat.zero_add]
  by_cases hle:t.length≤s.length
  · simp [hle]
  · have:¬ s.take t.length=t:=fun q=>by
      have:=congrArg List.length q
      simp at this; omega
    simp [hle,this]
theorem join_ok {n:Nat} {v:V} {wo w0:Value} (e:joinV H n=some v) (hr:HR S as T H s.heap) (vo:VR S.fa as T (.str []) wo) (v0:VR S.fa as T (.loc n) w0) (q:Ret S as T s H v Q) :
    wpAny (model S.prog S.w) A (call (.builtin "str.join") [wo,w0]) Q E s:=by
  refine atL_some_k e fun l hl e1=>?_
  refine strsOf'_some_k e1 fun ss hs e2=>?_
  obtain⟨hlen,he⟩:=gd_some e2
  cases he
  refine strE_k vo fun t zq90=>?_
  subst zq90
  intro hz
  refine listAtN_k hr hl v0 fun a us zq91=>?_
  subst zq91
  intro hL hz2 hv
  obtain⟨lt,h1,h2⟩:=strs_vals (strsE hs hv)
  subst h1
  refine SC.join (texts:=ss.map fun x=>(⟨x.toArray⟩:Str)) hL h2 ?_ fun t' k=>?_
  · unfold JoinOk
    rw [← Array.foldl_toList,List.toList_toArray,sum_cat]
    unfold Builtin.Str.tooLong
    simp only [Bool.not_eq_true',decide_eq_false_iff_not]
    have:=lim_size hlen
    show ¬ 0+(catL ss).length > sizeLine
    omega
  · rw [glue_cat]
    exact q.tok hr (.str _ _ hlen) _
theorem bm_ok {m:BM} {o r:V} {vs:List V} {wo:Value} {ws:List Value} (e:bmV m o vs H=some (r,H')) (hr:HR S as T H s.heap) (vo:VR S.fa as T o wo) (vv:VRs S.fa as T vs ws) (q:Ret S as T s H' r Q) :
    wpAny (model S.prog S.w) A (call (.builtin (bmId m)) (wo::ws)) Q E s:=by
  cases m with
  | append =>
    refine onN_some_k e fun n hx e1=>?_; subst hx
    refine on1_some_k e1 fun a hx e2=>?_; subst hx
    refine atL_some_k e2 fun l hl e3=>?_
    obtain⟨hc,he⟩:=gd_some e3
    cases he
    refine vrs1_k vv fun w0 zq94=>?_
    subst zq94
    intro v0
    exact append_ok hr vo v0 hl hc q
  | pop =>
    refine onN_some_k e fun n hx e1=>?_; subst hx
    obtain⟨hx,e2⟩:=on0_some e1; subst hx
    refine atL_some_k e2 fun l hl e3=>?_
    cases vv
    cases hv:l.getLast? with
    | none=>rw [hv] at e3; first | exact nn e3 | exact ff e3 | cases e3
    | some v=>rw [hv] at e3; cases e3; exact pop_ok hr vo hl hv q
  | extend =>
    refine onN_some_k e fun n hx e1=>?_; subst hx
    refine on1_some_k e1 fun a hx e2=>?_; subst hx
    refine onN_some_k e2 fun k hx e3=>?_; subst hx
    refine atL_some_k e3 fun l hl e4=>?_
    refine atL_some_k e4 fun m hm e5=>?_
    obtain⟨hc,he⟩:=gd_some e5
    cases he
    refine vrs1_k vv fun w0 zq95=>?_
    subst zq95
    intro v0
    exact extend_ok hr vo v0 hl hm hc.2 q
  | reverse =>
    refine onN_some_k e fun n hx e1=>?_; subst hx
    obtain⟨hx,e2⟩:=on0_some e1; subst hx
    refine atL_some_k e2 fun l hl e3=>?_
    cases e3
    cases vv
    exact reverse_ok hr vo hl q
  | join =>
    refine onS_some_k e fun x hx e1=>?_; subst hx
    refine on1_some_k e1 fun a hx e2=>?_; subst hx
    refine onN_some_k e2 fun n hx e3=>?_; subst hx
    refine vrs1_k vv fun w0 zq96=>?_
    subst zq96
    intro v0
    cases x with
    | cons=>first | exact ff e3 | exact nn e3 | cases e3
    | nil =>
      refine map_some_k e3 fun v e4 he=>?_
      cases he
      exact join_ok e4 hr vo v0 q
  | replace=>cases e
  | startswith =>
    refine onS_some_k e fun x hx e1=>?_; subst hx
    refine on1_some_k e1 fun a hx e2=>?_; subst hx
    refine onS_some_k e2 fun y hx e3=>?_; subst hx
    cases e3
    refine vrs1_k vv fun w0 zq97=>?_
    subst zq97
    intro v0
    refine strE_k vo fun t zq98=>?_
    subst zq98
    intro hz
    refine strE_k v0 fun u zq99=>?_
    subst zq99
    intro hz2
    refine SC.startswith ?_
    rw [start_has]
    exact q.now hr (.bool _)
  | lstrip=>cases e
  | split=>cases e
  | get=>exact nn e
theorem str_pick {x:List Nat} {lo hi:Option (Int×Tok)}:slicePicked ⟨x.toArray⟩ lo hi none=sliceRange (sliceBounds (lo.map (·.1)) (hi.map (·.1)) none x.length).1 (sliceBounds (lo.map (·.1)) (hi.map (·.1)) none x.length).2.1 1:=by
  unfold slicePicked
  rw [str_len]
  rfl
theorem str_slice {x:List Nat} {t:Tok} {lo hi:Option (Int×Tok)} {sl:Addr} (hs:s.heap.IsSlice sl lo hi none) (hx:x.length≤lim)
    (q:∀ t' k,Q (.str ⟨((x.drop (kms_lo (lo.map (·.1)) x.length)).take (kms_hi (hi.map (·.1)) x.length - kms_lo (lo.map (·.1)) x.length)).toArray⟩ t') { s with toks:=k }):wpAny (model S.prog S.w) A (getItem (.str ⟨x.toArray⟩ t) (.ref sl)) Q E s:=by
  have hp:(slicePicked ⟨x.toArray⟩ lo hi none).filterMap (x.toArray[·]?)=(x.drop (kms_lo (lo.map (·.1)) x.length)).take (kms_hi (hi.map (·.1)) x.length - kms_lo (lo.map (·.1)) x.length):=by
    rw [str_pick,kms_bounds]
    show(sliceRange _ _ 1).filterMap _=_
    rw [sliceRange_one,pick_run]
  have hlen:(slicePicked ⟨x.toArray⟩ lo hi none).length=x.length→(x.drop (kms_lo (lo.map (·.1)) x.length)).take (kms_hi (hi.map (·.1)) x.length - kms_lo (lo.map (·.1)) x.length)=x:=by
    intro hl
    rw [str_pick,kms_bounds] at hl
    have hl:(sliceRange (kms_lo (lo.map (·.1)) x.length:Nat) (kms_hi (hi.map (·.1)) x.length:Nat) 1).length=x.length:=hl
    rw [sliceRange_one,List.length_map,List.length_range] at hl
    have h2:kms_hi (hi.map (·.1)) x.length≤x.length:=by
      unfold kms_hi
      split
      · exact Nat.le_refl _
      · split <;> omega
    have h3:kms_lo (lo.map (·.1)) x.length=0∨x.length=0:=by omega
    rcases h3 with h3 | h3
    · rw [h3,List.drop_zero,List.take_of_length_le (by omega)]
    · have:x=[]:=List.length_eq_zero_iff.mp h3
      subst this; simp
  refine wpAny_getItem_str_slice hs (by rfl) ?_
  unfold sliceMade
  split
  · rename_i hc
    simp only [Bool.and_eq_true,beq_iff_eq] at hc
    have:=hlen (by rw [hc.2,str_len])
    show Q (.str ⟨x.toArray⟩ t) s
    have q:=q t s.toks
    rw [this] at q
    exact q
  · show(⟨((slicePicked ⟨x.toArray⟩ lo hi none).filterMap (x.toArray[·]?)).toArray⟩:Str).length≤sizeLine∧Q (.str ⟨((slicePicked ⟨x.toArray⟩ lo hi none).filterMap (x.toArray[·]?)).toArray⟩ s.toks) { s with toks:=s.toks+1 }
    rw [hp,str_len]
    refine⟨Nat.le_trans ?_ (lim_size hx),q _ _⟩
    rw [List.length_take,List.length_drop]; omega
theorem slice_str_ok {x:List Nat} {lo hi st:V} {t:List Nat} {wa wl wu wt:Value} {sl:Addr} (ht:sliceL x lo hi st=some t) (hr:HR S as T H s.heap) (va:VR S.fa as T (.str x) wa) (vl:VR S.fa as T lo wl) (vu:VR S.fa as T hi wu) (vt:VR S.fa as T st wt)
    (hsl:s.heap.IsSliceOf sl wl wu wt) (q:Ret S as T s H (.str t) Q):wpAny (model S.prog S.w) A (getItem wa (.ref sl)) Q E s:=by
  refine strE_k va fun tk zq101=>?_
  subst zq101
  intro hz
  obtain⟨o,ho,hc,hd⟩:=hsl
  obtain⟨rfl,ht⟩:=noneV_some ht
  cases noneE vt
  cases lo with
  | none =>
    refine onI_some_k ht fun j zq102=>?_
    subst zq102
    intro ht
    obtain⟨hj,rfl⟩:=gd_some ‹_›
    obtain⟨u,rfl⟩:=intE vu
    cases noneE vl
    refine str_slice (lo:=none) (hi:=some (j,u)) ⟨o,ho,hc,hd⟩ hz fun t' k=>?_
    have:(x.drop (kms_lo none x.length)).take (kms_hi (some j) x.length - kms_lo none x.length)=x.take j.toNat:=by
      simp only [kms_lo,kms_hi,List.drop_zero,Nat.sub_zero,show ¬ j<0 by omega,if_false]
      by_cases hle:j.toNat≤x.length
      · rw [Nat.min_eq_left hle]
      · rw [Nat.min_eq_right (by omega),List.take_of_length_le (Nat.le_refl _),List.take_of_length_le (by omega)]
    show Q (.str ⟨((x.drop (kms_lo none x.length)).take (kms_hi (some j) x.length - kms_lo none x.length)).toArray⟩ t') _
    rw [this]
    exact q.tok hr (.str _ _ (by rw [List.length_take]; omega)) _
  | int i =>
    obtain⟨u,rfl⟩:=intE vl
    cases hi with
    | none =>
      obtain⟨hi',rfl⟩:=gd_some ht
      cases noneE vu
      refine str_slice (lo:=some (i,u)) (hi:=none) ⟨o,ho,hc,hd⟩ hz fun t' k=>?_
      have:(x.drop (kms_lo (some i) x.length)).take (kms_hi none x.length - kms_lo (some i) x.length)=x.drop i.toNat:=by
        simp only [kms_lo,kms_hi,show ¬ i<0 by omega,if_false]
        by_cases hle:i.toNat≤x.length
        · rw [Nat.min_eq_left hle,List.take_of_length_le (by rw [List.length_drop]; exact Nat.le_refl _)]
        · rw [Nat.min_eq_right (by omega),List.drop_of_length_le (Nat.le_refl _),List.drop_of_length_le (by omega)]; simp
      show Q (.str ⟨((x.drop (kms_lo (some i) x.length)).take (kms_hi none x.length - kms_lo (some i) x.length)).toArray⟩ t') _
      rw [this]
      exact q.tok hr (.str _ _ (by rw [List.length_drop]; omega)) _
    | int j =>
      obtain⟨hij,rfl⟩:=gd_some ht
      obtain⟨u',rfl⟩:=intE vu
      refine str_slice (lo:=some (i,u)) (hi:=some (j,u')) ⟨o,ho,hc,hd⟩ hz fun t' k=>?_
      have:(x.drop (kms_lo (some i) x.length)).take (kms_hi (some j) x.length - kms_lo (some i) x.length)=(x.take j.toNat).drop i.toNat:=by
        simp only [kms_lo,kms_hi,show ¬ i<0 by omega,show ¬ j<0 by omega,if_false]
        rw [List.drop_take]
        by_cases hle:i.toNat≤x.length
        · rw [Nat.min_eq_left hle]
          by_cases hle2:j.toNat≤x.length
          · rw [Nat.min_eq_left hle2]
          · rw [Nat.min_eq_right (by omega),List.take_of_length_le (by rw [List.length_drop]; exact Nat.le_refl _),List.take_of_length_le (by rw [List.length_drop]; omega)]
        · rw [Nat.min_eq_right (a:=i.toNat) (by omega),List.drop_of_length_le (Nat.le_refl _),List.drop_of_length_le (by omega)]; simp
      show Q (.str ⟨((x.drop (kms_lo (some i) x.length)).take (kms_hi (some j) x.length - kms_lo (some i) x.length)).toArray⟩ t') _
      rw [this]
      exact q.tok hr (.str _ _ (by rw [List.length_drop,List.length_take]; omega)) _
    | _=>first | exact ff ht | exact nn ht | cases ht
  | _=>first | exact ff ht | exact nn ht | cases ht
theorem take_pick (ws:List Value) {j:Int} (hj:0≤j):kms_pick ws none (some j)=ws.take j.toNat:=by
  simp only [kms_pick,kms_lo,kms_hi,List.drop_zero,Nat.sub_zero,show ¬ j<0 by omega,if_false]
  by_cases hle:j.toNat≤ws.length
  · rw [Nat.min_eq_left hle]
  · rw [Nat.min_eq_right (by omega),List.take_of_length_le (Nat.le_refl _),List.take_of_length_le (by omega)]
theorem slice_new {l:List V} {ws:List Value} (hr:HR S as T H s.heap) (hv:VRs S.fa as T l ws) (hl:l.length≤lim) (q:Ret S as T s (H++[.list l]) (.loc H.length) Q):Q (.ref s.heap.objs.size) { s with heap:=s.heap.push { cls:=.type "list",data:=.seq ws.toArray } } :=
  ret_new hr (keep_push (lst _ 0)) (Heap.get?_push_size _ rfl) hv hl q s.toks
theorem slice_list_ok {l t:List V} {a:Addr} {ws:List Value} {lo hi st:V} {wl wu wt:Value} {sl:Addr} (ht:sliceR l lo hi st=some t) (hr:HR S as T H s.heap) (hL:s.heap.IsList a ws.toArray) (hz:l.length≤lim) (hv:VRs S.fa as T l ws) (vl:VR S.fa as T lo wl) (vu:VR S.fa as T hi wu) (vt:VR S.fa as T st wt)
    (hsl:s.heap.IsSliceOf sl wl wu wt) (q:Ret S as T s (H++[.list t]) (.loc H.length) Q):wpAny (model S.prog S.w) A (getItem (.ref a) (.ref sl)) Q E s:=by
  have hfit:ws.toArray.size≤sizeLine:=by rw [List.size_toArray,hv.length]; exact lim_size hz
  obtain⟨rfl,ht⟩:=noneV_some ht
  cases noneE vl
  cases hi with
  | none =>
    cases noneE vu
    refine onI_some_k ht fun k hk e1=>?_; subst hk
    obtain⟨rfl,rfl⟩:=gd_some e1
    obtain⟨u,rfl⟩:=intE vt
    refine wpAny_getItem_list_slice hL hsl .none .none (.int (-1) u) (by simp) ?_ hfit
    rw [krv_pick,List.toList_toArray]
    exact slice_new hr hv.reverse (by simpa using hz) q
  | int j =>
    obtain⟨u,rfl⟩:=intE vu
    cases st with
    | none =>
      obtain⟨hj,rfl⟩:=gd_some ht
      cases noneE vt
      refine wpAny_getItem_list_slice hL hsl .none (.int j u) .none (by simp) ?_ hfit
      rw [kms_pick_eq,List.toList_toArray,take_pick ws hj]
      exact slice_new hr (hv.take _) (by rw [List.length_take]; omega) q
    | _=>first | exact ff ht | exact nn ht | cases ht
  | _=>first | exact ff ht | exact nn ht | cases ht
theorem list_subI {a:Addr} {ws:List Value} (hL:s.heap.IsList a ws.toArray):Sub s (.ref a):=by
  obtain⟨o,g1,g2,_⟩:=hL; exact⟨_,_,⟨_,g1,g2⟩,PySem.slot_list_getitem.lookup⟩
theorem slice_ok {a lo hi st r:V} {wa wl wu wt:Value} {sl:Addr} (e:sliceV a lo hi st H=some (r,H')) (hr:HR S as T H s.heap) (va:VR S.fa as T a wa) (vl:VR S.fa as T lo wl) (vu:VR S.fa as T hi wu) (vt:VR S.fa as T st wt)
    (hsl:s.heap.IsSliceOf sl wl wu wt) (q:Ret S as T s H' r Q):Sub s wa∧wpAny (model S.prog S.w) A (getItem wa (.ref sl)) Q E s:=by
  cases a with
  | str x =>
    refine map_some_k e fun t ht he=>?_
    cases he
    refine strE_k va fun tk hw hz=>?_
    exact⟨hw▸⟨_,_,rfl,PySem.F.slot_str_getitem.lookup⟩,slice_str_ok ht hr va vl vu vt hsl q⟩
  | ro l =>
    obtain⟨hn,e1⟩:=noneV_some e; subst hn
    obtain⟨hn,e2⟩:=noneV_some e1; subst hn
    refine onI_some_k e2 fun j hj' e3=>?_; subst hj'
    obtain⟨hj,he⟩:=gd_some e3
    cases he
    cases va with
    | ro tt hz hv =>
      rename_i a ws
      have hL:s.heap.IsList a ws.toArray:=hr.im _ _ tt
      obtain⟨u,rfl⟩:=intE vu
      cases noneE vl; cases noneE vt
      refine⟨list_subI hL,wpAny_getItem_list_slice hL hsl .none (.int j u) .none (by simp) ?_ (by rw [List.size_toArray,hv.length]; exact lim_size hz)⟩
      rw [kms_pick_eq,List.toList_toArray,take_pick ws hj]
      exact slice_new hr (hv.take _) (by rw [List.length_take]; omega) q
  | loc n =>
    refine atL_some_k e fun l hl e1=>?_
    refine map_some_k e1 fun t ht he=>?_
    cases he
    refine listAtN_k hr hl va fun a ws zq103=>?_
    subst zq103
    intro hL hz hv
    exact⟨list_subI hL,slice_list_ok ht hr hL hz hv vl vu vt hsl q⟩
  | _=>first | exact ff e | exact nn e | cases e
end
end Mine
namespace Mine
structure AOkC (A:Around) (d:Nat):Prop where
  handled:A.handled=none
  depth:A.depth+4 * d+6≤1000
  units:A.units+32 * d+180≤9900
theorem AOk.c {A:Around} {d:Nat} (x:AOk A d):AOkC A d:=⟨x.handled,by have:=x.depth; exact Nat.not_lt.mp (lin [_,_] (.c 1 (.a (.a (.v 0) (.m 4 (.v 1))) (.n 8)) (.n 1000) (.c 1 (.a (.n 1000) (.n 1)) (.a (.a (.v 0) (.m 4 (.v 1))) (.n 6)) .z)) rfl this),by have:=x.units; exact Nat.not_lt.mp (lin [_,_] (.c 1 (.a (.a (.v 0) (.m 32 (.v 1))) (.n 200)) (.n 9900) (.c 1 (.a (.n 9900) (.n 1)) (.a (.a (.v 0) (.m 32 (.v 1))) (.n 180)) .z)) rfl this)⟩
theorem AOk.u {A:Around} {d:Nat} (x:AOk A d):A.units+64<cLine:=by
  have:=x.units
  show A.units+64<9900
  exact Nat.not_le.mp (lin [_,_] (.c 1 (.a (.a (.v 0) (.m 32 (.v 1))) (.n 200)) (.n 9900) (.c 1 (.n 9900) (.a (.v 0) (.n 64)) .z)) rfl this)
noncomputable def CallOk (S:Sur) (call:CallT) (d:Nat):Prop:=∀ {k:Nat} {vs:List V} {H H':Hp} {v:V},call k vs H=some (v,H') →
  ∀ {A:Around} {s:Shared} {as:As} {T:TS} {R:Result→Shared→Prop} {a:Addr} {ws:List Value},AOkC A d→S.fa[k]? = some a→HR S as T H s.heap→VRs S.fa as T vs ws →
    Ret S as T s H' v (fun w s'=>R (.ok (.ret w)) s')→codeAny (model S.prog S.w) A (Code.call (.ref a) { pos:=ws }) R s
section
variable {S:Sur} {as as1:As} {T T1:TS} {H H':Hp} {h h' h1:Heap} {s:Shared} {v:V} {w:Value} {Q:Value→Shared→Prop} {A:Around} {E:Value→Shared→Prop}
theorem bm_slots_k (m:BM) {zg:Prop} (zk:(PlainAttrs (bmTy m))→(Slot (bmTy m) (bmName m) (bmId m))→(typeOf (.builtin (bmId m))=pure (.type "method_descriptor"))→zg):zg:=by
  obtain⟨zh1,zh2,zh3⟩:PlainAttrs (bmTy m)∧Slot (bmTy m) (bmName m) (bmId m)∧typeOf (.builtin (bmId m))=pure (.type "method_descriptor"):=by
    cases m
    · exact⟨PySem.F.plainAttrs_list,PySem.F.slot_list_append,PySem.F.type_list_append⟩
    · exact⟨PySem.F.plainAttrs_list,PySem.F.slot_list_pop,PySem.F.type_list_pop⟩
    · exact⟨PySem.F.plainAttrs_list,PySem.F.slot_list_extend,PySem.F.type_list_extend⟩
    · exact⟨PySem.F.plainAttrs_list,PySem.F.slot_list_reverse,PySem.F.type_list_reverse⟩
    · exact⟨PySem.F.plainAttrs_str,PySem.F.slot_str_join,PySem.F.type_str_join⟩
    · exact⟨PySem.F.plainAttrs_str,PySem.F.slot_str_replace,PySem.F.type_str_replace⟩
    · exact⟨PySem.F.plainAttrs_str,PySem.F.slot_str_startswith,PySem.F.type_str_startswith⟩
    · exact⟨PySem.F.plainAttrs_str,PySem.F.slot_str_lstrip,PySem.F.type_str_lstrip⟩
    · exact⟨PySem.F.plainAttrs_str,PySem.F.slot_str_split,PySem.F.type_str_split⟩
    · exact⟨PySem.F.plainAttrs_dict,PySem.F.slot_dict_get,PySem.F.type_dict_get⟩
  exact zk zh1 zh2 zh3
theorem bm_kind {m:BM} {o:V} {wo:Value} (e:bmK m o H=true) (hr:HR S as T H s.heap) (vo:VR S.fa as T o wo) :
    s.TypeIs wo (bmTy m)∧∀ a,wo=.ref a→∃ ob,s.heap.get? a=some ob∧ob.dict=none:=by
  cases o with
  | str s =>
    refine strE_k vo fun t zq104=>?_
    subst zq104
    intro _
    cases m <;> first | exact ff e | exact⟨rfl,fun a q=>by cases q⟩
  | loc n =>
    have e:(match H[n]? with
      | some (.list _)=>(match (generalizing:=false) m with | .append=>true | .pop=>true | .extend=>true | .reverse=>true | _=>false)
      | some (.dict _)=>(match (generalizing:=false) m with | .get=>true | _=>false)
      | _=>false)=true:=e
    cases h:H[n]? with
    | none=>rw [h] at e; exact ff e
    | some ob =>
      rw [h] at e
      cases ob with
      | list l =>
        refine hr.listAt_k h vo fun a ws k zq105=>?_
        subst zq105
        intro hp e1 hz hv
        cases m <;> first | exact ff e | exact⟨⟨_,e1,rfl⟩,fun b q=>by cases q; exact⟨_,e1,rfl⟩⟩
      | dict es =>
        refine hr.dictAt_k h vo fun a ds zq106=>?_
        subst zq106
        intro hp e1 hz hv
        obtain⟨ob,es',ep,g,x,_⟩:=e1
        cases m <;> first | exact ff e | exact⟨⟨_,g,x.1⟩,fun b q=>by cases q; exact⟨_,g,x.2.1⟩⟩
      | _=>exact ff e
  | _=>exact ff e
end
end Mine
namespace Mine
noncomputable def RetB (S:Sur) (as:As) (T:TS) (s:Shared) (H':Hp) (b:Bool) (Q:Bool→Shared→Prop):Prop :=
  ∀ h' tk as' T',Ext Nil as T s.heap as' T' h'→HR S as' T' H' h'→Q b { s with heap:=h',toks:=tk }
noncomputable def RetL (S:Sur) (as:As) (T:TS) (s:Shared) (H':Hp) (vs:List V) (Q:List Value→Shared→Prop):Prop :=
  ∀ ws h' tk as' T',Ext Nil as T s.heap as' T' h'→HR S as' T' H' h'→VRs S.fa as' T' vs ws→Q ws { s with heap:=h',toks:=tk }
noncomputable def EvS (S:Sur) (call:CallT) (d:Nat) (e:ME):Prop:=∀ {l:Lo} {H H':Hp} {v:V},evE S.P call e l H=some (v,H') →
  ∀ {nm:Nms} {sl:Sl} {x:Expr} {s:Shared} {as:As} {T:TS} {env:Env} {A:Around} {E Q:Value→Shared→Prop},AOk A d→chE S.G e nm sl x=true→ER S as T env nm sl l s.heap→HR S as T H s.heap →
    Ret S as T s H' v Q→wpAny (model S.prog S.w) A (eval x env) Q E s
noncomputable def TrS (S:Sur) (call:CallT) (d:Nat) (e:ME):Prop:=∀ {l:Lo} {H H':Hp} {b:Bool},evE S.P call e l H=some (.bool b,H') →
  ∀ {nm:Nms} {sl:Sl} {x:Expr} {s:Shared} {as:As} {T:TS} {env:Env} {A:Around} {E:Value→Shared→Prop} {Q:Bool→Shared→Prop},AOk A d→chE S.G e nm sl x=true→ER S as T env nm sl l s.heap→HR S as T H s.heap →
    RetB S as T s H' b Q→wpAny (model S.prog S.w) A (PySem.isTrue x env (eval x env)) Q E s
noncomputable def EvLS (S:Sur) (call:CallT) (d:Nat) (es:List ME):Prop:=∀ {l:Lo} {H H':Hp} {vs:List V},evL S.P call es l H=some (vs,H') →
  ∀ {nm:Nms} {sl:Sl} {xs:List Expr} {s:Shared} {as:As} {T:TS} {env:Env} {A:Around} {E:Value→Shared→Prop} {Q:List Value→Shared→Prop} {pos:Pos},AOk A d→chL S.G es nm sl xs=true→ER S as T env nm sl l s.heap→HR S as T H s.heap →
    RetL S as T s H' vs Q→wpAny (model S.prog S.w) A (spliced (backTo pos (starEach xs env))) Q E s
section
variable {S:Sur} {call:CallT} {d:Nat}
theorem RetB.from {as as1:As} {T T1:TS} {s:Shared} {H':Hp} {h1:Heap} {b:Bool} {Q:Bool→Shared→Prop} {tk:Tok} (k:RetB S as T s H' b Q) (e:Ext Nil as T s.heap as1 T1 h1):RetB S as1 T1 { s with heap:=h1,toks:=tk } H' b Q :=
  fun h' tk' as' T' e' hr=>k h' tk' as' T' (e.trans e') hr
theorem tr_of_ev {e:ME} {x:Expr} {l:Lo} {H H':Hp} {b:Bool} {nm:Nms} {sl:Sl} {s:Shared} {as:As} {T:TS} {env:Env} {A:Around} {E:Value→Shared→Prop} {Q:Bool→Shared→Prop}
    (he:PySem.isTrue x env (eval x env)=(do let v ← eval x env; standAt x.pos; holding [v] (truthy v))) (h:EvS S call d e) (e1:evE S.P call e l H=some (.bool b,H')) (ao:AOk A d) (c:chE S.G e nm sl x=true)
    (er:ER S as T env nm sl l s.heap) (hr:HR S as T H s.heap) (q:RetB S as T s H' b Q):wpAny (model S.prog S.w) A (PySem.isTrue x env (eval x env)) Q E s:=by
  refine wpAny_isTrue_value (h e1 ao c er hr fun w h' tk as' T' x' hr' vr=>?_) he
  cases boolE vr
  exact wpAny_truthy_bool (q h' tk as' T' x' hr')
theorem noStar1 {x:Expr} (h:notStar x=true) (rest:List Expr) (env:Env):starEach (x::rest) env=(false,eval x env)::starEach rest env:=by
  cases x <;> first | rfl | cases h
noncomputable def noStar:List Expr→Bool
  | []=>true
  | x::r=>notStar x && noStar r
theorem noStar_1 :noStar ([])=(true):=rfl
theorem noStar_2  {x r}:noStar (x::r)=(notStar x && noStar r):=rfl
theorem chL_star {G:Str→Option GV} {nm:Nms} {sl:Sl}:∀ {es:List ME} {xs:List Expr},chL G es nm sl xs=true→noStar xs=true
  | [],[],_=>rfl
  | [],_::_,h=>by simp [chL_1,chL_2] at h
  | _::_,[],h=>by simp [chL_1,chL_2] at h
  | e::r,x::ys,h=>by
    simp only [chL_1,chL_2,Bool.and_eq_true] at h
    simp only [noStar_1,noStar_2,h.1.1,chL_star h.2,Bool.and_self]
theorem star_any {pos:Pos} {env:Env}:∀ {xs:List Expr},noStar xs=true→(backTo pos (starEach xs env)).any (·.1)=false
  | [],_=>rfl
  | x::r,h=>by
    simp only [noStar_1,noStar_2,Bool.and_eq_true] at h
    rw [noStar1 h.1]
    show(false || (backTo pos (starEach r env)).any (·.1))=false
    rw [star_any h.2]; rfl
theorem args_ok {M:Model} {A:Around} {E:Value→Shared→Prop} {s:Shared} {env:Env} {pos:Pos} {f:Value} {xs:List Expr} {Q:Args→Shared→Prop} (h:noStar xs=true)
    (k:wpAny M A (spliced (backTo pos (starEach xs env))) (fun vs s'=>Q { pos:=vs } s') E s):wpAny M A (evalArgs f true (backTo pos (starEach xs env)) []) Q E s:=by
  cases xs with
  | nil=>exact wpAny_bind (m:=spliced []) (wpAny_mono k (fun vs s' h'=>wpAny_bind (wpAny_pure (wpAny_holding (wpAny_bind (wpAny_pure (wpAny_pure h'))))) ) fun _ _ x=>x)
  | cons x r =>
    simp only [noStar_1,noStar_2,Bool.and_eq_true] at h
    rw [noStar1 h.1] at k ⊢
    exact Calls.evalArgs_plain k
theorem evL_len {P:Pg} {call:CallT}:∀ {es:List ME} {l:Lo} {H H':Hp} {vs:List V},evL P call es l H=some (vs,H')→vs.length=es.length
  | [],_,_,_,_,e=>by rw [evL_1] at e; cases e; rfl
  | _::r,_,_,_,_,e=>by
    rw [evL_2] at e
    refine bnd_some_k e fun a H1 e1 e=>?_
    refine bnd_some_k e fun b H2 e2 e=>?_
    cases e
    rw [List.length_cons,evL_len e2,List.length_cons]
theorem l_nil:EvLS S call d []:=by
  intro l H H' vs e nm sl xs s as T env A E Q pos ao c er hr q
  rw [evL_1] at e; cases e
  cases xs with
  | nil=>exact spliced_none (q [] s.heap s.toks as T (.refl ..) hr .nil)
  | cons=>simp [chL_1,chL_2] at c
theorem l_cons {e:ME} {r:List ME} (he:EvS S call d e) (hl:EvLS S call d r):EvLS S call d (e::r):=by
  intro l H H' vs e nm sl xs s as T env A E Q pos ao c er hr q
  rw [evL_2] at e
  refine bnd_some_k e fun a H1 e1 e=>?_
  refine bnd_some_k e fun b H2 e2 e=>?_
  cases e
  cases xs with
  | nil=>simp [chL_1,chL_2] at c
  | cons x ys =>
    simp only [chL_1,chL_2,Bool.and_eq_true] at c
    refine spliced_more (he e1 ao c.1.2 er hr fun wa h1 tk1 as1 T1 x1 hr1 ra=>?_) (noStar1 c.1.1 _ _)
    exact hl e2 ao c.2 (er.ext x1) hr1 fun ws h2 tk2 as2 T2 x2 hr2 rb=>q _ _ _ _ _ (x1.trans x2) hr2 (.cons (ra.mono x2.mono) rb)
theorem s_bad:EvS S call d .bad:=fun e=>nn e
theorem s_lit {u:V}:EvS S call d (.lit u):=by
  intro l H H' v e nm sl x s as T env A E Q ao c er hr q
  obtain⟨rfl,rfl⟩:=ev_lit e
  refine ch_lit_k c fun k y z c1=>?_
  cases u with
  | none=>cases k with
    | none=>exact PyProof.Rows.Constant_none (q.now hr .none)
    | _=>exact ff c1
  | bool a=>cases k with
    | bool b=>cases beq_iff_eq.mp c1; exact PyProof.Rows.Constant_bool (q.now hr (.bool _))
    | _=>exact ff c1
  | int a=>cases k with
    | int b=>cases beq_iff_eq.mp c1; exact wpAny_Constant_int (q.tok hr (.int _ _) _)
    | _=>exact ff c1
  | str a=>cases k with
    | str b =>
      obtain⟨c2,c3⟩:=and2 c1
      have:=beq_iff_eq.mp c2
      subst this
      exact PySem.wpAny_Constant_str (q.tok hr (.str b.cps.toList s.toks (by have:=of_decide_eq_true c3; unfold lim; exact Nat.not_lt.mp (lin [_] (.c 1 (.v 0) (.n 1000) (.c 1 (.a (.n 1048576) (.n 1)) (.v 0) .z)) rfl this))) _)
    | _=>exact ff c1
  | _=>exact ff c1
theorem s_loc {i:Nat}:EvS S call d (.loc i):=by
  intro l H H' v e nm sl x s as T env A E Q ao c er hr q
  obtain⟨hu,rfl⟩:=ev_loc e
  refine ch_loc_k c fun n p c1=>?_
  exact name_loc er c1 hu fun w vr=>q.now hr vr
mutual
theorem sameV_eq:∀ {u v:V},sameV u v=true→u=v
  | .none,v,h=>by cases v with
    | none=>rfl
    | _=>exact ff h
  | .bool a,v,h=>by cases v with
    | bool b=>rw [beq_iff_eq.mp h]
    | _=>exact ff h
  | .int a,v,h=>by cases v with
    | int b=>rw [beq_iff_eq.mp h]
    | _=>exact ff h
  | .str a,v,h=>by cases v with
    | str b=>rw [beq_iff_eq.mp h]
    | _=>exact ff h
  | .fn a,v,h=>by cases v with
    | fn b=>rw [beq_iff_eq.mp h]
    | _=>exact ff h
  | .tup a,v,h=>by cases v with
    | tup b=>rw [sameVs_eq (u:=a) (v:=b) h]
    | _=>exact ff h
  | .loc _,v,h=>by cases v <;> exact ff h
  | .rng _ _ _,v,h=>by cases v <;> exact ff h
  | .ro _,v,h=>by cases v <;> exact ff h
theorem sameVs_eq:∀ {u v:List V},sameVs u v=true→u=v
  | [],v,h=>by cases v with
    | nil=>rfl
    | cons=>exact ff h
  | a::r,v,h=>by cases v with
    | nil=>exact ff h
    | cons b t=>rw [sameV_eq (and2 h).1,sameVs_eq (and2 h).2]
end
theorem s_glob (C:Cx S) {u:V}:EvS S call d (.glob u):=by
  intro l H H' v e nm sl x s as T env A E Q ao c er hr q
  obtain⟨rfl,rfl⟩:=ev_glob e
  refine ch_glob_k c fun n p c0=>?_
  refine gIs_spec_k c0 fun hn g hg c1=>?_
  cases g with
  | fn k =>
    cases u with
    | fn j =>
      cases beq_iff_eq.mp c1
      obtain⟨a,ha,hv⟩:=C.gfn _ _ hg
      exact name_glob C er hr hn hv (q.now hr (.fn ha))
    | _=>exact ff c1
  | val u' =>
    cases sameV_eq c1
    obtain⟨w,hw,vr⟩:=C.gval _ _ hg
    exact name_glob C er hr hn hw (q.now hr (vr.mono ⟨fun _ _ e=>by simp at e,hr.t0⟩))
  | _=>exact ff c1
theorem s_tup {es:List ME} (hl:EvLS S call d es):EvS S call d (.tup es):=by
  intro l H H' v e nm sl x s as T env A E Q ao c er hr q
  refine ev_tup_k e fun vs e1 zq110=>?_
  subst zq110
  refine ch_tup_k c fun xs k p h100 c2=>?_
  refine wpAny_Tuple_spliced (hl e1 ao c2 er hr fun ws h1 tk1 as1 T1 x1 hr1 ra=>⟨?_,?_⟩)
  · rw [ra.length,evL_len e1]; exact Nat.le_trans h100 (by decide)
  · refine push_tup_k hr1 ra (by rw [evL_len e1]; exact Nat.le_trans h100 (by decide)) fun T2 x2 hr2 vr=>?_
    exact q _ _ _ _ _ (x1.trans x2) hr2 vr
theorem s_lst {es:List ME} (hl:EvLS S call d es):EvS S call d (.lst es):=by
  intro l H H' v e nm sl x s as T env A E Q ao c er hr q
  refine ev_lst_k e fun vs H1 e1 zq112=>?_
  subst zq112
  intro zq113
  subst zq113
  refine ch_lst_k c fun xs p h100 c2=>?_
  refine wpAny_List_spliced (hl e1 ao c2 er hr fun ws h1 tk1 as1 T1 x1 hr1 ra=>⟨?_,?_⟩)
  · rw [ra.length,evL_len e1]; exact Nat.le_trans h100 (by decide)
  · refine push_list_k hr1 ra (by rw [evL_len e1]; exact Nat.le_trans h100 (by decide)) fun x2 hr2 vr=>?_
    exact q _ _ _ _ _ (x1.trans x2) hr2 vr
theorem base_eq {o:Expr} (h:notSuper o=true) (a:Str) (env:Env) (m:Sem Value):attributeBase o a env m=m:=by
  cases o with
  | Call f xs ks p=>cases f with
    | Name=>cases xs with
      | nil=>cases ks with
        | nil=>exact ff h
        | cons=>rfl
      | cons=>rfl
    | _=>rfl
  | _=>rfl
theorem s_attr (C:Cx S) {o:ME} {a:Nat} (ho:EvS S call d o):EvS S call d (.attr o a):=by
  intro l H H' v e nm sl x s as T env A E Q ao c er hr q
  refine ev_attr_k e fun ov e1 hu=>?_
  refine ch_attr_k c fun y p c2 c3 c4=>?_
  refine Attribute_any_ (ho e1 ao c4 er hr fun wa h1 tk1 as1 T1 x1 hr1 ra=>?_) ?_
  · exact getA_ok C hr1 ra hu fun u tk vr=>q _ _ _ _ _ x1 hr1 vr
  · show(do
      let o ← attributeBase y (nmOf a) env (eval y env)
      standAt (Pos.atName p)
      let r ← holding [o] (getAttr o (nmOf a) true)
      letTemporaryGo y o r
      pure r)=_
    rw [base_eq c3]
theorem sub_plain {x:Expr} (h:isSlice x=false) (o i:Value):subscripted x false o i=operate [o,i] (getItem o i):=by
  cases x <;> first | rfl | cases h
theorem s_idx {o i:ME} (ho:EvS S call d o) (hi:EvS S call d i):EvS S call d (.idx o i):=by
  intro l H H' v e nm sl x s as T env A E Q ao c er hr q
  refine ev_idx_k e fun ov H1 iv e1 e2 hu=>?_
  refine ch_idx_k c fun y sb p c1 c2 c3=>?_
  refine Subscript_ (ho e1 ao c2 er hr fun wa h1 tk1 as1 T1 x1 hr1 ra=>?_)
  refine hi e2 ao c3 (er.ext x1) hr1 fun wb h2 tk2 as2 T2 x2 hr2 rb=>?_
  obtain⟨⟨Ty,id,t1,t2⟩,k⟩:=idx_ok (s:={ s with heap:=h2,toks:=tk2 }) (E:=E) (A:=A) (Q:=Q) hu hr2 (ra.mono x2.mono) rb fun u tk vr=>q _ _ _ _ _ (x1.trans x2) hr2 vr
  exact tail_any t1 t2 k (sub_plain c1 _ _)
theorem sub_slice {l u st:Option Expr} {p:Pos} (o i:Value):∃ ops,subscripted (.Slice l u st p) false o i=operate ops (getItem o i):=by
  cases st with
  | none=>exact⟨_,rfl⟩
  | some _=>exact⟨_,rfl⟩
theorem part_ok {m:ME} (hm:EvS S call d m) {l:Lo} {H H':Hp} {v:V} (e:evE S.P call m l H=some (v,H')) {nm:Nms} {sl:Sl} {x:Option Expr} {s:Shared} {as:As} {T:TS} {env:Env} {A:Around} {E Q:Value→Shared→Prop} (ao:AOk A d)
    (c:partC S.G nm sl m x=true) (er:ER S as T env nm sl l s.heap) (hr:HR S as T H s.heap) (q:Ret S as T s H' v Q):wpAny (model S.prog S.w) A (evalPart x env) Q E s:=by
  cases x with
  | none =>
    have:m=.lit .none:=by
      have c:noneLit m=true:=c
      unfold noneLit at c
      split at c
      · rfl
      · exact ff c
    subst this
    obtain⟨rfl,rfl⟩:=ev_lit e
    exact wpAny_evalPart_none (q.now hr .none)
  | some y=>exact wpAny_evalPart_some (hm e ao (and2 c).1 er hr q)
theorem s_slice {o lo hi st:ME} (ho:EvS S call d o) (h1:EvS S call d lo) (h2:EvS S call d hi) (h3:EvS S call d st):EvS S call d (.slice o lo hi st):=by
  intro l H H' v e nm sl x s as T env A E Q ao c er hr q
  refine ev_slice_k e fun ov H1 lv H2 uv H3 tv H4 e1 e2 e3 e4 e=>?_
  refine ch_slice_k c fun xx l0 u0 s0 p0 p1 c1 c2 c3 c4=>?_
  refine Subscript_ (ho e1 ao c1 er hr fun wa g1 tk1 as1 T1 x1 hr1 ra=>?_)
  refine wpAny_Slice (part_ok h1 e2 ao c2 (er.ext x1) hr1 fun wl g2 tk2 as2 T2 x2 hr2 rl=>?_)
  refine part_ok h2 e3 ao c3 ((er.ext x1).ext x2) hr2 fun wu g3 tk3 as3 T3 x3 hr3 ru=>?_
  refine part_ok h3 e4 ao c4 (((er.ext x1).ext x2).ext x3) hr3 fun wt g4 tk4 as4 T4 x4 hr4 rt=>?_
  have kp:=keep_push (h:=g4) { cls:=Value.type "slice",data:=Data.fields #[wl,wu,wt] }
  have m34:=x4.mono
  have m24:=x3.mono.trans m34
  obtain⟨⟨Ty,id,t1,t2⟩,k⟩:=slice_ok (s:={ s with heap:=g4.push { cls:=Value.type "slice",data:=Data.fields #[wl,wu,wt] },toks:=tk4 }) (E:=E) (A:=A) (Q:=Q) (sl:=g4.objs.size) e (hr4.keep kp)
    (ra.mono (x2.mono.trans m24)) (rl.mono m24) (ru.mono m34) rt ⟨_,Heap.get?_push_size _ rfl,rfl,rfl⟩ fun w h' tk as' T' x' hr' vr=>q _ _ _ _ _ ((((x1.trans x2).trans x3).trans x4).trans ((Ext.keep kp).trans x')) hr' vr
  obtain⟨ops,hs⟩:=sub_slice _ _
  exact tail_any t1 t2 k hs
theorem s_bin {op:BOp} {a b:ME} (ha:EvS S call d a) (hb:EvS S call d b):EvS S call d (.bin op a b):=by
  intro l H H' v e nm sl x s as T env A E Q ao c er hr q
  refine ev_bin_k e fun va H1 vb H2 e1 e2 e=>?_
  refine ch_bin_k c fun y o z p c1 c2 c3=>?_
  refine PySem.wpAny_BinOp (ha e1 ao c2 er hr fun wa h1 tk1 as1 T1 x1 hr1 ra=>?_)
  refine hb e2 ao c3 (er.ext x1) hr1 fun wb h2 tk2 as2 T2 x2 hr2 rb=>?_
  exact bin_ok e c1 hr2 (ra.mono x2.mono) rb ((q.from x1).from x2)
theorem s_neg {a:ME} (ha:EvS S call d a):EvS S call d (.neg a):=by
  intro l H H' v e nm sl x s as T env A E Q ao c er hr q
  refine ev_neg_k e fun i e1 zq119=>?_
  subst zq119
  refine ch_neg_k c fun y p c1=>?_
  refine PySem.wpAny_UnaryOp (ha e1 ao c1 er hr fun wa h1 tk1 as1 T1 x1 hr1 ra=>?_)
  obtain⟨t,rfl⟩:=intE ra
  exact neg_int (q _ _ _ _ _ x1 hr1 (.int _ _))
theorem s_not {a:ME} (ha:EvS S call d a):EvS S call d (.not a):=by
  intro l H H' v e nm sl x s as T env A E Q ao c er hr q
  refine ev_not_k e fun b e1 zq121=>?_
  subst zq121
  refine ch_not_k c fun y p c1=>?_
  refine PySem.wpAny_UnaryOp (ha e1 ao c1 er hr fun wa h1 tk1 as1 T1 x1 hr1 ra=>?_)
  cases boolE ra
  exact not_of (wpAny_truthy_bool (q _ _ _ _ _ x1 hr1 (.bool _)))
theorem t_not {a:ME} (ha:TrS S call d a):TrS S call d (.not a):=by
  intro l H H' v e nm sl x s as T env A E Q ao c er hr q
  refine ev_not_k e fun b' e1 hb=>?_
  cases hb
  refine ch_not_k c fun y p c1=>?_
  exact isTrue_not (ha e1 ao c1 er hr q)
theorem marks_of {x:Expr} (h:notSet x=true) (op:CmpOp):behindInMarks op x=false:=by
  cases x <;> first | rfl | cases h
theorem cmpE {a b:ME} {op:COp} (ha:EvS S call d a) (hb:EvS S call d b) {l:Lo} {H H':Hp} {v:V} (e:evE S.P call (.cmp op a b) l H=some (v,H')) {nm:Nms} {sl:Sl} {x y:Expr} {o:CmpOp} {s:Shared} {as:As} {T:TS} {env:Env} {A:Around} {E Q:Value→Shared→Prop}
    (ao:AOk A d) (c0:copIs op o=true) (c1:chE S.G a nm sl x=true) (c2:chE S.G b nm sl y=true) (er:ER S as T env nm sl l s.heap) (hr:HR S as T H s.heap) (q:Ret S as T s H' v Q) :
    wpAny (model S.prog S.w) A (eval x env) (fun a s₁=>wpAny (model S.prog S.w) A (eval y env) (fun b s₂=>wpAny (model S.prog S.w) A (compareOp o a b) Q E s₂) E s₁) E s:=by
  refine ev_cmp_k e fun va H1 vb H2 r e1 e2 hr' e=>?_
  cases e
  refine ha e1 ao c1 er hr fun wa h1 tk1 as1 T1 x1 hr1 ra=>?_
  refine hb e2 ao c2 (er.ext x1) hr1 fun wb h2 tk2 as2 T2 x2 hr2 rb=>?_
  exact cmp_ok ao.u hr' c0 hr2 (ra.mono x2.mono) rb fun tk=>q _ _ _ _ _ (x1.trans x2) hr2 (.bool _)
theorem s_cmp {a b:ME} {op:COp} (ha:EvS S call d a) (hb:EvS S call d b):EvS S call d (.cmp op a b):=by
  intro l H H' v e nm sl x s as T env A E Q ao c er hr q
  refine ch_cmp_k c fun y o z p c1 c2 c3 c4=>?_
  exact PySem.wpAny_Compare1 (cmpE ha hb e ao c1 c3 c4 er hr q) (marks_of c2 _)
theorem t_cmp {a b:ME} {op:COp} (ha:EvS S call d a) (hb:EvS S call d b):TrS S call d (.cmp op a b):=by
  intro l H H' v e nm sl x s as T env A E Q ao c er hr q
  refine ch_cmp_k c fun y o z p c1 c2 c3 c4=>?_
  refine wpAny_isTrue_Compare1 (cmpE ha hb e ao c1 c3 c4 er hr fun w h' tk as' T' x' hr' vr=>?_) (marks_of c2 _)
  cases boolE vr
  exact wpAny_truthy_bool (q _ _ _ _ x' hr')
theorem s_ife {t a b:ME} (ht:TrS S call d t) (ha:EvS S call d a) (hb:EvS S call d b):EvS S call d (.ife t a b):=by
  intro l H H' v e nm sl x s as T env A E Q ao c er hr q
  obtain⟨H1,e⟩:=ev_ife e
  refine ch_ife_k c fun y z w p c1 c2 c3=>?_
  rcases e with⟨e1,e⟩ | ⟨e1,e⟩
  · exact IfExp_ (ht e1 ao c1 er hr fun h1 tk1 as1 T1 x1 hr1=>ha e ao c2 (er.ext x1) hr1 (q.from x1))
  · exact IfExp_ (ht e1 ao c1 er hr fun h1 tk1 as1 T1 x1 hr1=>hb e ao c3 (er.ext x1) hr1 (q.from x1))
theorem t_ife {t a b:ME} (ht:TrS S call d t) (ha:TrS S call d a) (hb:TrS S call d b):TrS S call d (.ife t a b):=by
  intro l H H' v e nm sl x s as T env A E Q ao c er hr q
  obtain⟨H1,e⟩:=ev_ife e
  refine ch_ife_k c fun y z w p c1 c2 c3=>?_
  rcases e with⟨e1,e⟩ | ⟨e1,e⟩
  · exact isTrue_IfExp (ht e1 ao c1 er hr fun h1 tk1 as1 T1 x1 hr1=>ha e ao c2 (er.ext x1) hr1 (q.from x1))
  · exact isTrue_IfExp (ht e1 ao c1 er hr fun h1 tk1 as1 T1 x1 hr1=>hb e ao c3 (er.ext x1) hr1 (q.from x1))
end
end Mine
namespace Mine
section
variable {S:Sur} {call:CallT} {d:Nat}
noncomputable def AllEv (S:Sur) (call:CallT) (d:Nat):List ME→Prop
  | []=>True
  | e::r=>EvS S call d e∧TrS S call d e∧AllEv S call d r
theorem s_andL:∀ {es:List ME},AllEv S call d es→∀ {l:Lo} {H H':Hp} {v:V},evAnd S.P call es l H=some (v,H') →
    ∀ ⦃nm:Nms⦄ ⦃sl:Sl⦄ ⦃xs:List Expr⦄ ⦃s:Shared⦄ ⦃as:As⦄ ⦃T:TS⦄ ⦃env:Env⦄ ⦃A:Around⦄ ⦃E Q:Value→Shared→Prop⦄ ⦃pos:Pos⦄,AOk A d→chL S.G es nm sl xs=true→xs≠[]→ER S as T env nm sl l s.heap→HR S as T H s.heap →
    Ret S as T s H' v Q→wpAny (model S.prog S.w) A (eval (.BoolOp .And xs pos) env) Q E s
  | [],_,_,_,_,_,e=>by
    intro nm sl xs s as T env A E Q pos ao c hne er hr q
    cases xs with
    | nil=>exact absurd rfl hne
    | cons=>simp [chL_1,chL_2] at c
  | e0::r,hA,_,_,_,_,e=>by
    intro nm sl xs s as T env A E Q pos ao c hne er hr q
    obtain⟨he,_,hr'⟩:=hA
    rw [evAnd_2] at e
    refine bnd_some_k e fun a H1 e1 e=>?_
    cases xs with
    | nil=>exact absurd rfl hne
    | cons x ys =>
      simp only [chL_1,chL_2,Bool.and_eq_true] at c
      cases ys with
      | nil =>
        refine BoolOp_one (he e1 ao c.1.2 er hr fun w h1 tk1 as1 T1 x1 hr1 ra=>?_)
        cases r with
        | cons=>have:=c.2; simp [chL_1,chL_2] at this
        | nil =>
          split at e
          · rw [evAnd_1] at e; cases e; exact q _ _ _ _ _ x1 hr1 ra
          · cases e; exact q _ _ _ _ _ x1 hr1 ra
          · cases e
      | cons y zs =>
        refine PyProof.Rows.BoolOp_and (he e1 ao c.1.2 er hr fun w h1 tk1 as1 T1 x1 hr1 ra=>?_)
        split at e
        · cases boolE ra
          refine wpAny_truthy_bool ?_
          simp only [if_true]
          exact s_andL hr' e ao c.2 (by simp) (er.ext x1) hr1 (q.from x1)
        · cases boolE ra
          cases e
          refine wpAny_truthy_bool ?_
          simp only [Bool.false_eq_true,if_false]
          exact q _ _ _ _ _ x1 hr1 (.bool _)
        · cases e
theorem t_andL:∀ {es:List ME},AllEv S call d es→∀ {l:Lo} {H H':Hp} {b:Bool},evAnd S.P call es l H=some (.bool b,H') →
    ∀ ⦃nm:Nms⦄ ⦃sl:Sl⦄ ⦃xs:List Expr⦄ ⦃s:Shared⦄ ⦃as:As⦄ ⦃T:TS⦄ ⦃env:Env⦄ ⦃A:Around⦄ ⦃E:Value→Shared→Prop⦄ ⦃Q:Bool→Shared→Prop⦄ ⦃pos:Pos⦄ ⦃whole:Sem Value⦄,AOk A d→chL S.G es nm sl xs=true→ER S as T env nm sl l s.heap→HR S as T H s.heap →
    RetB S as T s H' b Q→wpAny (model S.prog S.w) A (PySem.isTrue (.BoolOp .And xs pos) env whole) Q E s
  | [],_,_,_,_,_,e=>by
    intro nm sl xs s as T env A E Q pos whole ao c er hr q
    rw [evAnd_1] at e; cases e
    cases xs with
    | nil=>exact isTrue_and_nil (q s.heap s.toks as T (.refl ..) hr)
    | cons=>simp [chL_1,chL_2] at c
  | e0::r,hA,_,_,_,_,e=>by
    intro nm sl xs s as T env A E Q pos whole ao c er hr q
    obtain⟨_,he,hr'⟩:=hA
    rw [evAnd_2] at e
    refine bnd_some_k e fun a H1 e1 e=>?_
    cases xs with
    | nil=>simp [chL_1,chL_2] at c
    | cons x ys =>
      simp only [chL_1,chL_2,Bool.and_eq_true] at c
      split at e
      · exact isTrue_and (he e1 ao c.1.2 er hr fun h1 tk1 as1 T1 x1 hr1=>t_andL hr' e ao c.2 (er.ext x1) hr1 (q.from x1))
      · cases e
        exact isTrue_and (he e1 ao c.1.2 er hr fun h1 tk1 as1 T1 x1 hr1=>q _ _ _ _ x1 hr1)
      · cases e
theorem s_orL:∀ {es:List ME},AllEv S call d es→∀ {l:Lo} {H H':Hp} {v:V},evOr S.P call es l H=some (v,H') →
    ∀ ⦃nm:Nms⦄ ⦃sl:Sl⦄ ⦃xs:List Expr⦄ ⦃s:Shared⦄ ⦃as:As⦄ ⦃T:TS⦄ ⦃env:Env⦄ ⦃A:Around⦄ ⦃E Q:Value→Shared→Prop⦄ ⦃pos:Pos⦄,AOk A d→chL S.G es nm sl xs=true→xs≠[]→ER S as T env nm sl l s.heap→HR S as T H s.heap →
    Ret S as T s H' v Q→wpAny (model S.prog S.w) A (eval (.BoolOp .Or xs pos) env) Q E s
  | [],_,_,_,_,_,e=>by
    intro nm sl xs s as T env A E Q pos ao c hne er hr q
    cases xs with
    | nil=>exact absurd rfl hne
    | cons=>simp [chL_1,chL_2] at c
  | e0::r,hA,_,_,_,_,e=>by
    intro nm sl xs s as T env A E Q pos ao c hne er hr q
    obtain⟨he,_,hr'⟩:=hA
    rw [evOr_2] at e
    refine bnd_some_k e fun a H1 e1 e=>?_
    cases xs with
    | nil=>exact absurd rfl hne
    | cons x ys =>
      simp only [chL_1,chL_2,Bool.and_eq_true] at c
      cases ys with
      | nil =>
        refine BoolOp_one (he e1 ao c.1.2 er hr fun w h1 tk1 as1 T1 x1 hr1 ra=>?_)
        cases r with
        | cons=>have:=c.2; simp [chL_1,chL_2] at this
        | nil =>
          split at e
          · rw [evOr_1] at e; cases e; exact q _ _ _ _ _ x1 hr1 ra
          · cases e; exact q _ _ _ _ _ x1 hr1 ra
          · cases e
      | cons y zs =>
        refine PyProof.Rows.BoolOp_or (he e1 ao c.1.2 er hr fun w h1 tk1 as1 T1 x1 hr1 ra=>?_)
        split at e
        · cases boolE ra
          refine wpAny_truthy_bool ?_
          simp only [Bool.false_eq_true,if_false]
          exact s_orL hr' e ao c.2 (by simp) (er.ext x1) hr1 (q.from x1)
        · cases boolE ra
          cases e
          refine wpAny_truthy_bool ?_
          simp only [if_true]
          exact q _ _ _ _ _ x1 hr1 (.bool _)
        · cases e
theorem t_orL:∀ {es:List ME},AllEv S call d es→∀ {l:Lo} {H H':Hp} {b:Bool},evOr S.P call es l H=some (.bool b,H') →
    ∀ ⦃nm:Nms⦄ ⦃sl:Sl⦄ ⦃xs:List Expr⦄ ⦃s:Shared⦄ ⦃as:As⦄ ⦃T:TS⦄ ⦃env:Env⦄ ⦃A:Around⦄ ⦃E:Value→Shared→Prop⦄ ⦃Q:Bool→Shared→Prop⦄ ⦃pos:Pos⦄ ⦃whole:Sem Value⦄,AOk A d→chL S.G es nm sl xs=true→ER S as T env nm sl l s.heap→HR S as T H s.heap →
    RetB S as T s H' b Q→wpAny (model S.prog S.w) A (PySem.isTrue (.BoolOp .Or xs pos) env whole) Q E s
  | [],_,_,_,_,_,e=>by
    intro nm sl xs s as T env A E Q pos whole ao c er hr q
    rw [evOr_1] at e; cases e
    cases xs with
    | nil=>exact isTrue_or_nil (q s.heap s.toks as T (.refl ..) hr)
    | cons=>simp [chL_1,chL_2] at c
  | e0::r,hA,_,_,_,_,e=>by
    intro nm sl xs s as T env A E Q pos whole ao c er hr q
    obtain⟨_,he,hr'⟩:=hA
    rw [evOr_2] at e
    refine bnd_some_k e fun a H1 e1 e=>?_
    cases xs with
    | nil=>simp [chL_1,chL_2] at c
    | cons x ys =>
      simp only [chL_1,chL_2,Bool.and_eq_true] at c
      split at e
      · exact isTrue_or (he e1 ao c.1.2 er hr fun h1 tk1 as1 T1 x1 hr1=>t_orL hr' e ao c.2 (er.ext x1) hr1 (q.from x1))
      · cases e
        exact isTrue_or (he e1 ao c.1.2 er hr fun h1 tk1 as1 T1 x1 hr1=>q _ _ _ _ x1 hr1)
      · cases e
theorem s_and {es:List ME} (hA:AllEv S call d es):EvS S call d (.and es):=by
  intro l H H' v e nm sl x s as T env A E Q ao c er hr q
  have e:evAnd S.P call es l H=_:=e
  refine ch_and_k c fun xs p c1 c2=>?_
  exact s_andL hA e ao c2 (fun hn=>by rw [hn] at c1; exact absurd c1 (by decide)) er hr q
theorem t_and {es:List ME} (hA:AllEv S call d es):TrS S call d (.and es):=by
  intro l H H' v e nm sl x s as T env A E Q ao c er hr q
  have e:evAnd S.P call es l H=_:=e
  refine ch_and_k c fun xs p c1 c2=>?_
  exact t_andL hA e ao c2 er hr q
theorem s_or {es:List ME} (hA:AllEv S call d es):EvS S call d (.or es):=by
  intro l H H' v e nm sl x s as T env A E Q ao c er hr q
  have e:evOr S.P call es l H=_:=e
  refine ch_or_k c fun xs p c1 c2=>?_
  exact s_orL hA e ao c2 (fun hn=>by rw [hn] at c1; exact absurd c1 (by decide)) er hr q
theorem t_or {es:List ME} (hA:AllEv S call d es):TrS S call d (.or es):=by
  intro l H H' v e nm sl x s as T env A E Q ao c er hr q
  have e:evOr S.P call es l H=_:=e
  refine ch_or_k c fun xs p c1 c2=>?_
  exact t_orL hA e ao c2 er hr q
theorem callF_ok {S:Sur} {K:Frag} {f:Value} {first:List Value} {xs:List Expr} {env:Env} {pos:Pos} {A:Around} {E Q:Value→Shared→Prop} {s:Shared} (hk:keepIn K f=true) (hs:noStar xs=true)
    (k:wpAny (model S.prog S.w) A (spliced (backTo pos (starEach xs env))) (fun vs s₁=>K.In s₁.heap∧wpAny (model S.prog S.w) A (PySem.call f (first++vs)) Q E s₁) E s):wpAny (model S.prog S.w) A (callWith pos f first (backTo pos (starEach xs env)) []) Q E s :=
  callWith_of (P:=fun h=>K.In h) (by rw [star_any hs]; rfl) (keeps_K hk) (args_ok hs k)
theorem callB_ok {S:Sur} {id:String} {first:List Value} {xs:List Expr} {env:Env} {pos:Pos} {A:Around} {E Q:Value→Shared→Prop} {s:Shared} (hs:noStar xs=true)
    (k:wpAny (model S.prog S.w) A (spliced (backTo pos (starEach xs env))) (fun vs s₁=>wpAny (model S.prog S.w) A (PySem.call (.builtin id) (first++vs)) Q E s₁) E s):wpAny (model S.prog S.w) A (callWith pos (.builtin id) first (backTo pos (starEach xs env)) []) Q E s :=
  callWith_builtin_kwB (star_any hs) rfl (args_ok hs k)
theorem callT_ok {S:Sur} {id:String} {first:List Value} {xs:List Expr} {env:Env} {pos:Pos} {A:Around} {E Q:Value→Shared→Prop} {s:Shared} (hs:noStar xs=true)
    (k:wpAny (model S.prog S.w) A (spliced (backTo pos (starEach xs env))) (fun vs s₁=>wpAny (model S.prog S.w) A (PySem.call (.type id) (first++vs)) Q E s₁) E s):wpAny (model S.prog S.w) A (callWith pos (.type id) first (backTo pos (starEach xs env)) []) Q E s :=
  PyProof.Rows.callWith_type (star_any hs) (args_ok hs k)
theorem own_call (ca:CallOk S call d) {k:Nat} {vs:List V} {H H':Hp} {v:V} (e:call k vs H=some (v,H')) {A:Around} {s:Shared} {as:As} {T:TS} {a:Addr} {ws:List Value} {E Q:Value→Shared→Prop} (ao:AOk A d) (ha:S.fa[k]? = some a) (hr:HR S as T H s.heap)
    (vv:VRs S.fa as T vs ws) (q:Ret S as T s H' v Q):wpAny (model S.prog S.w) A (PySem.call (.ref a) ws) Q E s :=
  wpAny_call (ca e ao.c ha hr vv q)
theorem s_call (C:Cx S) (ca:CallOk S call d) {f:ME} {es:List ME} (hf:EvS S call d f) (hl:EvLS S call d es):EvS S call d (.call f es):=by
  intro l H H' v e nm sl x s as T env A E Q ao c er hr q
  refine ev_call_k e fun k H1 vs H2 e1 e2 e=>?_
  refine ch_call_k c fun n p xs p' c1 c2=>?_
  refine wpAny_Call_ofName (hf e1 ao c1 er hr fun wf h1 tk1 as1 T1 x1 hr1 rf=>?_)
  cases rf with
  | fn ha =>
    refine callF_ok (C.keep _ _ ha) (chL_star c2) (hl e2 ao c2 (er.ext x1) hr1 fun ws h2 tk2 as2 T2 x2 hr2 rv=>⟨C.X.keeps hr2.base,?_⟩)
    exact own_call ca e ao ha hr2 rv ((q.from x1).from x2)
theorem s_bmeth {o:ME} {m:BM} {es:List ME} (ho:EvS S call d o) (hl:EvLS S call d es):EvS S call d (.bmeth o m es):=by
  intro l H H' v e nm sl x s as T env A E Q ao c er hr q
  refine ev_bmeth_k e fun ov H1 vs H2 e1 hk e2 e=>?_
  refine ch_bmeth_k c fun y ap xs p c2 c3 c4 c5 c6=>?_
  refine bm_slots_k m fun b1 b2 b3=>?_
  have hst:=star_any (pos:=p) (env:=env) (chL_star c6)
  refine wpAny_Call_method (base_eq c4 _ _ _) ?_ c3 b1 b2 b3 (ho e1 ao c5 er hr fun wo h1 tk1 as1 T1 x1 hr1 ro=>?_)
  · have hall:(List.all (backTo p (starEach xs env)) fun x=>!x.1)=true:=by
      rw [List.all_eq_not_any_not]
      simpa using hst
    simp only [Bool.and_eq_true,decide_eq_true_eq]
    exact⟨⟨hall,rfl⟩,by simp; exact Nat.not_le.mp (lin [_] (.c 1 (.a (.v 0) (.n 1)) (.n 20) (.c 1 (.n 30) (.v 0) .z)) rfl c2)⟩
  · obtain⟨k1,k2⟩:=bm_kind (s:={ s with heap:=h1,toks:=tk1 }) hk hr1 ro
    refine⟨k1,k2,callB_ok (chL_star c6) (hl e2 ao c6 (er.ext x1) hr1 fun ws h2 tk2 as2 T2 x2 hr2 rv=>?_)⟩
    exact bm_ok e hr2 (ro.mono x2.mono) rv ((q.from x1).from x2)
theorem s_prim (C:Cx S) {p:Pr} {es:List ME} (hl:EvLS S call d es):EvS S call d (.prim p es):=by
  intro l H H' v e nm sl x s as T env A E Q ao c er hr q
  refine ev_prim_k e fun vs H1 e1 e=>?_
  refine ch_prim_k c fun pp xs p' c2 c3=>?_
  refine gIs_spec_k c2 fun hn g hg c2=>?_
  cases g with
  | pr g =>
    refine wpAny_Call_ofName (name_blt C er hr hn (C.gpr _ _ hg) (boot_prim p).1 (boot_prim p).2 ?_)
    have ev:wpAny (model S.prog S.w) A (spliced (backTo p' (starEach xs env))) (fun ws s'=>wpAny (model S.prog S.w) A (PySem.call (primVal p) ws) Q E s') E s :=
      hl e1 ao c3 er hr fun ws h1 tk1 as1 T1 x1 hr1 rv=>prim_ok ao.handled e hr1 rv (q.from x1)
    cases p with
    | int | list | range | str=>exact callT_ok (chL_star c3) ev
    | _=>exact callB_ok (chL_star c3) ev
  | _=>exact ff c2
theorem under_ok {A:Around} {d:Nat} (ao:AOk A d) (a:Addr) (ws:List Value):AOkC (A.under (.builtin "type.__call__" ⟨.ref a::ws,[]⟩)) d:=by
  refine⟨ao.handled,?_,?_⟩
  · have:=ao.depth
    have h2:(Code.builtin "type.__call__" ⟨.ref a::ws,[]⟩).weight=1:=by kernel_rfl
    show A.depth+(Code.builtin "type.__call__" ⟨.ref a::ws,[]⟩).weight+4 * d+6≤1000
    exact Nat.not_lt.mp (lin [_,_,_] (.c 1 (.a (.a (.v 0) (.m 4 (.v 1))) (.n 8)) (.n 1000) (.c 1 (.v 2) (.n 1) (.c 1 (.a (.n 1000) (.n 1)) (.a (.a (.a (.v 0) (.v 2)) (.m 4 (.v 1))) (.n 6)) .z))) rfl this (Nat.le_of_eq h2))
  · have:=ao.units
    have h2:(Code.builtin "type.__call__" ⟨.ref a::ws,[]⟩).cUnits=1:=by kernel_rfl
    show A.units+(Code.builtin "type.__call__" ⟨.ref a::ws,[]⟩).cUnits+32 * d+180≤9900
    exact Nat.not_lt.mp (lin [_,_,_] (.c 1 (.a (.a (.v 0) (.m 32 (.v 1))) (.n 200)) (.n 9900) (.c 1 (.v 2) (.n 1) (.c 1 (.a (.n 9900) (.n 1)) (.a (.a (.a (.v 0) (.v 2)) (.m 32 (.v 1))) (.n 180)) .z))) rfl this (Nat.le_of_eq h2))
theorem fr_nil {as:As} {T:TS}:FR S as T [] (fun _=>none):=⟨fun i v e=>by simp [lookN_1,lookN_2] at e,fun x w e=>by simp at e⟩
theorem s_new (C:Cx S) (ca:CallOk S call d) {k:Nat} {es:List ME} (hl:EvLS S call d es):EvS S call d (.new k es):=by
  intro l H H' v e nm sl x s as T env A E Q ao c er hr q
  refine ev_new_k e fun vs H1 ci e1 hci e2 zq137=>?_
  subst zq137
  refine ch_new_k c fun n np xs p' c1 c2 c3=>?_
  refine gIs_spec_k c2 fun hn g hg c2=>?_
  cases g with
  | cls g =>
    cases beq_iff_eq.mp c2
    obtain⟨Cl,hC,hv,_⟩:=C.gcls _ _ hg
    refine wpAny_Call_ofName (name_glob C er hr hn hv ?_)
    refine callF_ok (C.keepC _ _ hC) (chL_star c3) (hl e1 ao c3 er hr fun ws h1 tk1 as1 T1 x1 hr1 rv=>⟨C.X.keeps hr1.base,?_⟩)
    obtain⟨ci',hci',ok⟩:=C.cls k Cl c1 hC
    rw [hci] at hci'; cases hci'
    obtain⟨a,ha,hf,ht⟩:=ok.init
    have X:=C.X.keeps hr1.base
    refine wpAny_call (make_core (init:=.ref a) (makes_of X ok.makes) (looks_findIn X hf) (fun self=>bind_fn X self ht) (.inl rfl) ?_)
    have kp:∀ b o,h1.get? b=some o→((h1.push emptyDict).push (instObj Cl h1.objs.size)).get? b=some o:=fun b o e=>keep_push _ _ _ (keep_push _ _ _ e)
    have sz:(h1.push emptyDict).objs.size=h1.objs.size+1:=Heap.size_push ..
    have n1:h1.get? (h1.objs.size+1)=none:=by
      cases e:h1.get? (h1.objs.size+1) with
      | none=>rfl
      | some o=>exact absurd (Heap.lt_size e) (Nat.not_lt.mpr (Nat.le_succ _))
    have o1:((h1.push emptyDict).push (instObj Cl h1.objs.size)).get? (h1.objs.size+1)=some (instObj Cl h1.objs.size):=by have:=Heap.get?_push_size (h1.push emptyDict) (o:=instObj Cl h1.objs.size) rfl; rw [sz] at this; exact this
    have o2:((h1.push emptyDict).push (instObj Cl h1.objs.size)).get? h1.objs.size=some emptyDict:=keep_push _ _ _ (Heap.get?_push_size _ rfl)
    have hr2:HR S (as1++[(h1.objs.size+1,some h1.objs.size)]) T1 (H1++[.inst k []]) ((h1.push emptyDict).push (instObj Cl h1.objs.size)):=by
      refine hr1.alloc kp (by simp) (fun b hb=>?_) (.inst (f:=fun _=>none) c1 hC o1 ⟨_,#[],_,o2,rfl,?_,?_,fun _=>rfl⟩ fr_nil)
      · simp at hb
        rcases hb with rfl | rfl
        · exact Nat.le_succ _
        · exact Nat.le_refl _
      · intro e he; simp at he
      · first | (intro i j; simp) | simp [UniqKeys] | (intro e he; simp at he)
    have mm:Mono as1 T1 (as1++[(h1.objs.size+1,some h1.objs.size)]) T1:=⟨fun n q e=>getElem?_append_some e,fun _ _ e=>e⟩
    have x2:Ext Nil as1 T1 h1 (as1++[(h1.objs.size+1,some h1.objs.size)]) T1 ((h1.push emptyDict).push (instObj Cl h1.objs.size)):=by
      refine⟨mm,fun b o _ _ e=>kp b o e,fun b hb _=>hb.elim,fun b hb=>?_⟩
      rw [owned_append] at hb
      rcases List.mem_append.mp hb with q | q
      · exact .inl q
      · simp [owned] at q
        rcases q with rfl | rfl
        · exact .inr n1
        · exact .inr size_none
    have vr:VR S.fa (as1++[(h1.objs.size+1,some h1.objs.size)]) T1 (.loc H1.length) (.ref (h1.objs.size+1)) :=
      .loc (p:=(h1.objs.size+1,some h1.objs.size)) (by rw [List.getElem?_append_right (by rw [hr1.len]; exact Nat.le_refl _),hr1.len,Nat.sub_self]; rfl)
    refine ca e2 (s:={ s with heap:=(h1.push emptyDict).push (instObj Cl h1.objs.size),toks:=tk1 }) (under_ok ao _ _) ha hr2 (.cons vr (rv.mono mm)) fun w h3 tk3 as3 T3 x3 hr3 rw3=>?_
    cases noneE rw3
    exact⟨rfl,q _ _ _ _ _ ((x1.trans x2).trans x3) hr3 (vr.mono x3.mono)⟩
  | _=>exact ff c2
theorem s_meth (C:Cx S) (ca:CallOk S call d) {o:ME} {m:Nat} {es:List ME} (ho:EvS S call d o) (hl:EvLS S call d es):EvS S call d (.meth o m es):=by
  intro l H H' v e nm sl x s as T env A E Q ao c er hr q
  refine ev_meth_k e fun n H1 c0 fs ci k vs H2 e1 hn hci hk e2 e=>?_
  refine ch_meth_k c fun y ap xs p c0' c2 c3 c4 c5 c6=>?_
  have hst:=star_any (pos:=p) (env:=env) (chL_star c6)
  have hform:methodCallForm (xs.length+([]:List Keyword).length) (backTo p (starEach xs env)) (backToKw p (keywordEach [] env))=true:=by
    have hall:(List.all (backTo p (starEach xs env)) fun x=>!x.1)=true:=by
      rw [List.all_eq_not_any_not]
      simpa using hst
    unfold methodCallForm
    have hkw:backToKw p (keywordEach [] env)=[]:=rfl
    rw [hkw]
    simp only [Bool.and_eq_true,decide_eq_true_eq]
    exact⟨⟨hall,rfl⟩,by simp; exact Nat.not_le.mp (lin [_] (.c 1 (.a (.v 0) (.n 1)) (.n 20) (.c 1 (.n 30) (.v 0) .z)) rfl c2)⟩
  have hpos:methodCallPos true y env ap p=pure p:=by unfold methodCallPos; simp [c3]
  rw [arm_eval_Call,base_eq c4]
  refine wpAny_bind (wpAny_mono (ho e1 ao c5 er hr fun wo h1 tk1 as1 T1 x1 hr1 ro=>?_) (fun _ _ e=>e) fun _ _ e=>e)
  refine wpAny_bind (wpAny_standAt ?_)
  unfold methodCall
  rw [hform]
  refine wpAny_bind (wpAny_holding (meth_ok C hr1 ro hn hci hk fun a ha=>?_))
  refine wpAny_bind (wpAny_of_eq hpos ?_)
  refine callF_ok (C.keep _ _ ha) (chL_star c6) (hl e2 ao c6 (er.ext x1) hr1 fun ws h2 tk2 as2 T2 x2 hr2 rv=>⟨C.X.keeps hr2.base,?_⟩)
  exact own_call ca e ao ha hr2 (.cons (ro.mono x2.mono) rv) ((q.from x1).from x2)
theorem s_isin (C:Cx S) {o:ME} {k:IK} (ho:EvS S call d o):EvS S call d (.isin o k):=by
  intro l H H' v e nm sl x s as T env A E Q ao c er hr q
  refine ev_isin_k e fun ov b e1 hb zq140=>?_
  subst zq140
  refine ch_isin_k c fun n p y pz p' c1 c3 c4 c5=>?_
  refine gIs_spec_k c1 fun hn g hg c1=>?_
  cases g with
  | isi =>
    obtain⟨hz,rfl⟩:=C.gisi _ hg
    refine wpAny_Call_ofName (name_blt C er hr hn hz boot_isi.1 boot_isi.2 ?_)
    refine callB_ok (by simp only [noStar_1,noStar_2,c4,Bool.true_and]; rfl) ?_
    refine spliced_more (ho e1 ao c5 er hr fun wa h1 tk1 as1 T1 x1 hr1 ra=>?_) (noStar1 c4 _ _)
    refine gIs_spec_k c3 fun hn2 g2 hg2 c3=>?_
    have done:∀ wk,KV S k wk→wpAny (model S.prog S.w) A (PySem.call (.builtin "isinstance") [wa,wk]) Q E { s with heap:=h1,toks:=tk1 }:=fun wk hk=>isi_ok C hb hr1 ra hk fun tk=>q _ _ _ _ _ x1 hr1 (.bool _)
    have er1:=er.ext x1
    cases g2 with
    | cls j =>
      cases k with
      | cls i =>
        cases beq_iff_eq.mp c3
        obtain⟨Cl,hC,hv,_⟩:=C.gcls _ _ hg2
        exact spliced_more (name_glob C er1 hr1 hn2 hv (spliced_none (done _ ⟨Cl,hC,rfl⟩)))
      | _=>exact ff c3
    | pr g3 =>
      cases k with
      | int=>exact spliced_more (name_blt C er1 hr1 hn2 (C.gpr _ _ hg2) (boot_prim .int).1 (boot_prim .int).2 (spliced_none (done _ rfl)))
      | str=>exact spliced_more (name_blt C er1 hr1 hn2 (C.gpr _ _ hg2) (boot_prim .str).1 (boot_prim .str).2 (spliced_none (done _ rfl)))
      | _=>exact ff c3
    | typ g3 =>
      cases k with
      | tuple=>exact spliced_more (name_blt C er1 hr1 hn2 (C.gtyp _ _ hg2) boot_tuple.1 boot_tuple.2 (spliced_none (done _ rfl)))
      | _=>exact ff c3
    | _=>exact ff c3
  | _=>exact ff c1
end
end Mine
namespace Mine
section
variable {S:Sur} {call:CallT} {d:Nat} {as as':As} {T T':TS} {H H':Hp} {h h':Heap} {s:Shared} {env:Env} {nm:Nms} {sl:Sl} {l:Lo} {A:Around} {E:Value→Shared→Prop}
structure Free (S:Sur) (as:As) (env:Env) (I:Addr):Prop where
  own:I ∉ owned as
  old:S.h0.get? I=none
  loc:I≠env.locals
  cell:∀ x,env.cells.lookup x≠some I
theorem Free.nex {I:Addr} (f:Free S as env I):¬ EX env I:=fun q=>by
  rcases q with q | ⟨x,q⟩
  · exact f.loc q
  · exact f.cell x q
theorem Free.ext {X:Addr→Prop} {I:Addr} (f:Free S as env I) (e:Ext X as T h as' T' h') {o:Obj} (ho:h.get? I=some o):Free S as' env I :=
  have own:I ∉ owned as':=fun q=>by
    rcases e.own I q with z | z
    · exact f.own z
    · rw [z] at ho; first | exact nn ho | exact ff ho | cases ho
  ⟨own,f.old,f.loc,f.cell⟩
theorem ER.but (x:ER S as T env nm sl l h) {I:Addr} (f:Free S as env I) (k:∀ b o,b≠I→h.get? b=some o→h'.get? b=some o):ER S as T env nm sl l h':=by
  obtain⟨m,hn,hm⟩:=x.loc
  refine⟨x.kind,x.glob,x.blt,x.names,x.dbg,x.len,x.nd,⟨m,ns_keep hn fun o=>k _ o (Ne.symm f.loc),hm⟩,fun i y e1=>?_,x.cellx,fun y c e1=>?_,x.frame,x.cells⟩
  · obtain⟨c,w,h1,h2,h3⟩:=x.cell i y e1
    exact⟨c,w,h1,cell_keep h2 fun o=>k _ o fun q=>f.cell y (q▸h1),h3⟩
  · obtain⟨w,h2⟩:=x.cella y c e1
    exact⟨w,cell_keep h2 fun o=>k _ o fun q=>f.cell y (q▸e1)⟩
theorem ER.exo (x:ER S as T env nm sl l h):∀ b,EX env b→b ∉ owned as:=fun b q=>by
  rcases q with rfl | ⟨y,q⟩
  · exact x.frame.1
  · exact(x.cells y b q).1
theorem ER.fresh (x:ER S as T env nm sl l h) (hr:HR S as T H h) {I:Addr} (hI:h.get? I=none):Free S as env I:=by
  refine⟨fun q=>?_,?_,fun q=>?_,fun y q=>?_⟩
  · obtain⟨o,ho⟩:=hr.alive q; rw [hI] at ho; first | exact nn ho | exact ff ho | cases ho
  · cases e:S.h0.get? I with
    | none=>rfl
    | some o=>have:=hr.base I o e; rw [hI] at this; first | exact nn this | exact ff this | cases this
  · obtain⟨m,hn,_⟩:=x.loc
    obtain⟨o,ho⟩:=ns_alive hn
    rw [← q,hI] at ho; cases ho
  · obtain⟨w,hw⟩:=x.cella y I q
    obtain⟨o,ho⟩:=cell_alive hw
    rw [hI] at ho; first | exact nn ho | exact ff ho | cases ho
inductive IR (S:Sur) (as:As) (T:TS) (h:Heap):It→Addr→Prop
  | tup {l:List V} {ws:List Value} {I t:Addr} {i:Nat}:h.IsTupleIter I t i→T t (.tup ws)→VRs S.fa as T l (ws.drop i)→IR S as T h (.seq l) I
  | str {x:Str} {t:Tok} {I:Addr} {i:Nat} {cs:List Nat}:h.IsStrIter I "str_ascii_iterator" x t i→cs=x.cps.toList.drop i→IR S as T h (.seq (cs.map fun c=>.str [c])) I
  | lst {n i:Nat} {I a:Addr}:h.IsListIter I a i→as[n]? = some (a,none)→IR S as T h (.lst n i) I
  | rng {x c:Int} {k:Nat} {I:Addr}:IsRangeIter h I x k c→IR S as T h (.rng x c k) I
theorem IR.alive_k {it:It} {I:Addr} (x:IR S as T h it I) {zg:Prop} (zk:∀ o,(h.get? I=some o)→(o.cls≠.type "tuple")→(o.cls≠.type "list")→(o.cls≠.type "range")→zg):zg:=by
  cases x with
  | tup a _ _=>obtain⟨o,e,c,_⟩:=a; exact zk o e (by rw [c]; decide) (by rw [c]; decide) (by rw [c]; decide)
  | str a _=>obtain⟨o,e,c,_⟩:=a; exact zk o e (by rw [c]; decide) (by rw [c]; decide) (by rw [c]; decide)
  | lst a _=>obtain⟨o,e,c,_⟩:=a; exact zk o e (by rw [c]; decide) (by rw [c]; decide) (by rw [c]; decide)
  | rng a=>exact zk _ a (by intro q; simp at q) (by intro q; simp at q) (by intro q; simp at q)
theorem IR.alive {it:It} {I:Addr} (x:IR S as T h it I):∃ o,h.get? I=some o∧o.cls≠.type "tuple"∧o.cls≠.type "list"∧o.cls≠.type "range":=IR.alive_k x fun o zh1 zh2 zh3 zh4=>⟨o,zh1,zh2,zh3,zh4⟩
theorem IR.keep {it:It} {I:Addr} (x:IR S as T h it I) (m:Mono as T as' T') (k:∀ o,h.get? I=some o→h'.get? I=some o):IR S as' T' h' it I:=by
  cases x with
  | tup a b c=>obtain⟨o,e,r⟩:=a; exact .tup ⟨o,k o e,r⟩ (m.tx _ _ b) (c.mono m)
  | str a b=>obtain⟨o,e,r⟩:=a; exact .str ⟨o,k o e,r⟩ b
  | lst a b=>obtain⟨o,e,r⟩:=a; exact .lst ⟨o,k o e,r⟩ (m.asx _ _ b)
  | rng a=>exact .rng (k _ a)
theorem IR.ext {X:Addr→Prop} {it:It} {I:Addr} (x:IR S as T h it I) (e:Ext X as T h as' T' h') (ho:I ∉ owned as) (hX:¬ X I):IR S as' T' h' it I:=x.keep e.mono fun o q=>e.kp I o ho hX q
theorem IR.noT {it:It} {I:Addr} (x:IR S as T h it I) (hr:HR S as T H h) (i:Im):¬ T I i:=by
  refine x.alive_k fun o e a b c=>?_
  exact hr.noT_cls e a b c i
theorem iter_ok {v:V} {it:It} {w:Value} {Q:Value→Shared→Prop} (e:iterV H v=some it) (hr:HR S as T H s.heap) (vr:VR S.fa as T v w)
    (q:∀ I h',s.heap.get? I=none→(∀ b o,s.heap.get? b=some o→h'.get? b=some o)→IR S as T h' it I→Q (.ref I) { s with heap:=h' }):wpAny (model S.prog S.w) A (pyIter w) Q E s:=by
  unfold iterV at e
  split at e
  · first | exact ff e | exact nn e | cases e
    refine tupE_k hr vr fun a ws zq143=>?_
    subst zq143
    intro ht hz hv
    cases vr with
    | tup ht' hz' hv' =>
      exact wpAny_pyIter_tuple (hr.im _ _ ht') (q _ _ size_none (keep_push _) (.tup ⟨_,Heap.get?_push_size _ rfl,rfl,rfl⟩ ht' (by simpa using hv')))
  · split at e
    · rename_i x ha
      cases e
      refine strE_k vr fun t zq144=>?_
      subst zq144
      intro hz
      refine wpAny_pyIter_ascii ?_ (q _ _ size_none (keep_push _) (.str (i:=0) ⟨_,Heap.get?_push_size _ rfl,rfl,rfl⟩ (by simp)))
      rw [← Array.all_toList]
      simpa using ha
    · first | exact ff e | exact nn e | cases e
  · rename_i n
    split at e
    · rename_i l hl
      cases e
      refine hr.listAt_k hl vr fun a ws k zq145=>?_
      subst zq145
      intro hp e1 hz hv
      exact wpAny_pyIter_list ⟨_,e1,rfl,k,rfl⟩ (q _ _ size_none (keep_push _) (.lst ⟨_,Heap.get?_push_size _ rfl,rfl,rfl⟩ hp))
    · first | exact ff e | exact nn e | cases e
  · split at e
    · rename_i a b c hc
      cases e
      refine rngE_k hr vr fun p t u x zq146=>?_
      subst zq146
      intro hR
      refine wpAny_pyIter_range hR (rng_small hc.2.2 hc.1 hc.2.1) (q _ _ size_none (keep_push _) ?_)
      rw [rng_len hc.2.2]
      exact .rng (Heap.get?_push_size _ rfl)
    · first | exact ff e | exact nn e | cases e
  · first | exact ff e | exact nn e | cases e
theorem next_ok {it:It} {I:Addr} {r:Option (V×It)} {Q:Option Value→Shared→Prop} (e:nextI H it=some r) (x:IR S as T s.heap it I) (hI:I ∉ owned as) (hr:HR S as T H s.heap) (hh:A.handled=none)
    (q:match r with
      | none=>∀ h',Heap.ExtBut I s.heap h'→Q none { s with heap:=h' }
      | some (v,it')=>∀ w h' tk,Heap.ExtBut I s.heap h'→IR S as T h' it' I→VR S.fa as T v w→Q (some w) { s with heap:=h',toks:=tk }):wpAny (model S.prog S.w) A (pyNext (.ref I)) Q E s:=by
  have ne:∀ {t:Addr} {i:Im},T t i→t≠I:=fun ht q'=>x.noT hr _ (q'▸ht)
  cases x with
  | tup a b c =>
    rename_i l ws t i
    have hne:=ne b
    cases l with
    | nil =>
      simp only [nextI_1,nextI_2,nextI_3,nextI_4,nextI_5] at e; cases e
      refine wpAny_pyNext_tuple_end hh a (hr.im _ _ b) ?_ q
      have:=c.length
      rw [List.length_drop,List.length_nil] at this
      rw [List.getElem?_toArray]
      exact List.getElem?_eq_none_iff.mpr (by omega)
    | cons v l =>
      simp only [nextI_1,nextI_2,nextI_3,nextI_4,nextI_5] at e; cases e
      obtain⟨u,hu,vu⟩:=c.get 0 (v:=v) rfl
      rw [List.getElem?_drop] at hu
      refine wpAny_pyNext_tuple_item a (hr.im _ _ b) (x:=u) (by simpa using hu) fun h' a' sb=>q u h' s.toks sb.extBut (.tup a' b ?_) vu
      have:=c.drop 1
      rw [List.drop_drop] at this
      simpa using this
  | str a b =>
    rename_i x t i cs
    cases cs with
    | nil =>
      simp only [List.map_nil,nextI_1,nextI_2,nextI_3,nextI_4,nextI_5] at e; cases e
      refine wpAny_pyNext_ascii_end hh a ?_ q
      have:=congrArg List.length b
      simp at this
      simp; omega
    | cons c cs =>
      simp only [List.map_cons,nextI_1,nextI_2,nextI_3,nextI_4,nextI_5] at e; cases e
      have hc:x.cps[i]? = some c:=by
        have:=congrArg (fun z=>z[0]?) b
        simp at this
        exact this.symm
      refine wpAny_pyNext_ascii_item a hc fun h' a' sb=>q _ h' _ sb.extBut (.str a' ?_) (.str [c] _ (by simp [lim]))
      have:=congrArg List.tail b
      simpa using this
  | lst a b =>
    rename_i n i la
    have hl:∃ l,H[n]? = some (.list l):=by
      simp only [nextI_1,nextI_2,nextI_3,nextI_4,nextI_5] at e
      split at e
      · rename_i l hl; exact⟨l,hl⟩
      · first | exact ff e | exact nn e | cases e
    obtain⟨l,hl⟩:=hl
    refine hr.listAt_k hl (.loc b) fun a0 ws k e0 hp e1 hz hv=>?_
    cases e0
    simp only [nextI_1,nextI_2,nextI_3,nextI_4,nextI_5,hl] at e
    split at e
    · rename_i v hv'
      cases e
      obtain⟨u,hu,vu⟩:=hv.get _ hv'
      exact wpAny_pyNext_list_item a ⟨_,e1,rfl,k,rfl⟩ (x:=u) (by simpa using hu) fun h' a' sb=>q u h' s.toks sb.extBut (.lst a' b) vu
    · rename_i hv'
      cases e
      refine wpAny_pyNext_list_end hh a ⟨_,e1,rfl,k,rfl⟩ ?_ q
      have:=List.getElem?_eq_none_iff.mp hv'
      have:=hv.length
      simp; omega
  | rng a =>
    rename_i x c k
    cases k with
    | zero =>
      simp only [nextI_1,nextI_2,nextI_3,nextI_4,nextI_5] at e; cases e
      exact wpAny_pyNext_range_end hh a (by simp) q
    | succ k =>
      simp only [nextI_1,nextI_2,nextI_3,nextI_4,nextI_5] at e; cases e
      refine wpAny_pyNext_range_item a (by omega) fun h' a' sb=>q _ h' _ sb.extBut (.rng ?_) (.int _ _)
      have:((k+1:Nat):Int) - 1=(k:Int):=by omega
      rw [this] at a'
      exact a'
noncomputable def RetA (S:Sur) (as:As) (T:TS) (s:Shared) (env:Env) (nm:Nms) (sl:Sl) (l':Lo) (H':Hp) (Q:Unit→Shared→Prop):Prop :=
  ∀ h' tk as' T',Ext (EX env) as T s.heap as' T' h'→HR S as' T' H' h'→ER S as' T' env nm sl l' h'→Q () { s with heap:=h',toks:=tk }
theorem RetA.from {as1:As} {T1:TS} {h1:Heap} {tk:Tok} {l':Lo} {Q:Unit→Shared→Prop} (k:RetA S as T s env nm sl l' H' Q) (e:Ext (EX env) as T s.heap as1 T1 h1):RetA S as1 T1 { s with heap:=h1,toks:=tk } env nm sl l' H' Q :=
  fun h' tk' as' T' e' hr er=>k h' tk' as' T' (e.trans e') hr er
theorem store_gen {X:Addr→Prop} {i:Nat} {v:V} {n:Str} {w:Value} {Q:Unit→Shared→Prop} (hX:X env.locals) (hC:∀ c,sl[i]? = some (some (n,true))→env.cells.lookup n=some c→X c) (x:ER S as T env nm sl l s.heap) (hr:HR S as T H s.heap) (c:isLoc nm sl i n=true) (vr:VR S.fa as T v w)
    (q:∀ h' tk,Ext X as T s.heap as T h'→HR S as T H h'→ER S as T env nm sl (l.set i (some v)) h'→Q () { s with heap:=h',toks:=tk }):wpAny (model S.prog S.w) A (storeName env n w) Q E s:=by
  refine isLoc_spec_k c fun b e1 e2=>?_
  have hk:env.kindOf n=some (kOf b):=by unfold Env.kindOf; rw [x.names]; exact e2
  have hil:i<l.length:=by rw [x.len]; exact(List.getElem?_eq_some_iff.mp e1).1
  cases b with
  | false =>
    obtain⟨m,hn,hm⟩:=x.loc
    refine wpAny_storeName_local hk hn (fun h' hn' sb=>?_) (by rw [x.kind]; rfl)
    have kp:∀ b o,b≠env.locals→s.heap.get? b=some o→h'.get? b=some o:=fun b o nb e=>(sb.2 b nb).trans e
    have ex:Ext X as T s.heap as T h':=⟨.refl ..,fun b o _ nx e=>kp b o (fun q=>nx (q▸hX)) e,fun b hb e=>?_,fun b hb=>.inl hb⟩
    · refine q h' _ ex (hr.but kp x.frame.1 x.frame.2 (noT_ns hr hn)) ⟨x.kind,x.glob,x.blt,x.names,x.dbg,by rw [List.length_set]; exact x.len,x.nd,⟨_,hn',fun j u y f1 f2=>?_⟩,fun j y f1=>?_,x.cellx,fun y c f1=>?_,x.frame,x.cells⟩
      · by_cases hj:i=j
        · subst hj
          rw [List.getElem?_set_self hil] at f1
          cases f1
          rw [e1] at f2
          cases f2
          exact⟨w,by simp,vr⟩
        · rw [List.getElem?_set_ne hj] at f1
          obtain⟨u',g1,g2⟩:=hm j u y f1 f2
          refine⟨u',?_,g2⟩
          rw [if_neg (fun q=>hj (x.nd i j n false false e1 (by rw [← q]; exact f2)))]; exact g1
      · obtain⟨c,u,g1,g2,g3⟩:=x.cell j y f1
        refine⟨c,u,g1,cell_keep g2 fun o=>kp _ o fun q=>?_,fun v' hv'=>?_⟩
        · obtain⟨oo,es,ep,q1,q2,_⟩:=hn
          obtain⟨o2,q3,q4⟩:=g2
          rw [q,q1] at q3; cases q3
          rw [q2] at q4; first | exact nn q4 | exact ff q4 | cases q4
        · by_cases hj:i=j
          · subst hj; rw [e1] at f1; first | exact nn f1 | exact ff f1 | cases f1
          · rw [List.getElem?_set_ne hj] at hv'
            exact g3 v' hv'
      · obtain⟨u,g2⟩:=x.cella y c f1
        refine⟨u,cell_keep g2 fun o=>kp _ o fun q=>?_⟩
        obtain⟨oo,es,ep,q1,q2,_⟩:=hn
        obtain⟨o2,q3,q4⟩:=g2
        rw [q,q1] at q3; cases q3
        rw [q2] at q4; first | exact nn q4 | exact ff q4 | cases q4
    · by_cases hb':b=env.locals
      · subst hb'
        obtain⟨o,ho⟩:=ns_alive hn'
        rw [ho]; rfl
      · rw [sb.2 b hb']; exact e
  | true =>
    obtain⟨c,u,h1,h2,h3⟩:=x.cell i n e1
    refine wpAny_storeName_cell x.kind hk h1 h2 fun h' hc' sb=>?_
    have kp:∀ b o,b≠c→s.heap.get? b=some o→h'.get? b=some o:=fun b o nb e=>(sb.2 b nb).trans e
    have nlc:env.locals≠c:=fun q=>by
      obtain⟨m,hn,_⟩:=x.loc
      obtain⟨oo,es,ep,q1,q2,_⟩:=hn
      obtain⟨o2,q3,q4⟩:=h2
      rw [← q,q1] at q3; cases q3
      rw [q2] at q4; first | exact nn q4 | exact ff q4 | cases q4
    have ex:Ext X as T s.heap as T h':=⟨.refl ..,fun b o _ nx e=>kp b o (fun q=>nx (q▸hC c e1 h1)) e,fun b hb e=>?_,fun b hb=>.inl hb⟩
    · obtain⟨m,hn,hm⟩:=x.loc
      refine q h' s.toks ex (hr.but kp (x.cells n c h1).1 (x.cells n c h1).2 (noT_cell hr h2)) ⟨x.kind,x.glob,x.blt,x.names,x.dbg,by rw [List.length_set]; exact x.len,x.nd,⟨m,ns_keep hn fun o=>kp _ o nlc,fun j u y f1 f2=>?_⟩,fun j y f1=>?_,x.cellx,fun y c' f1=>?_,x.frame,x.cells⟩
      · by_cases hj:i=j
        · subst hj; rw [e1] at f2; first | exact nn f2 | exact ff f2 | cases f2
        · rw [List.getElem?_set_ne hj] at f1
          exact hm j u y f1 f2
      · by_cases hj:i=j
        · subst hj
          rw [e1] at f1; first | exact nn f1 | exact ff f1 | cases f1
          refine⟨c,some w,h1,hc',fun v' hv'=>?_⟩
          rw [List.getElem?_set_self hil] at hv'
          cases hv'
          exact⟨w,rfl,vr⟩
        · obtain⟨c',u',g1,g2,g3⟩:=x.cell j y f1
          refine⟨c',u',g1,cell_keep g2 fun o=>kp _ o fun q=>?_,fun v' hv'=>?_⟩
          · have:=x.cellx n y c h1 (q▸g1)
            subst this
            exact hj (x.nd i j n true true e1 f1)
          · rw [List.getElem?_set_ne hj] at hv'
            exact g3 v' hv'
      · by_cases hc:c'=c
        · subst hc; exact⟨_,hc'⟩
        · obtain⟨u',g2⟩:=x.cella y c' f1
          exact⟨u',cell_keep g2 fun o=>kp _ o hc⟩
    · by_cases hb':b=c
      · subst hb'
        obtain⟨o,ho⟩:=cell_alive hc'
        rw [ho]; rfl
      · rw [sb.2 b hb']; exact e
theorem store_ok {i:Nat} {v:V} {n:Str} {w:Value} {Q:Unit→Shared→Prop} (x:ER S as T env nm sl l s.heap) (hr:HR S as T H s.heap) (c:isLoc nm sl i n=true) (vr:VR S.fa as T v w)
    (q:RetA S as T s env nm sl (l.set i (some v)) H Q):wpAny (model S.prog S.w) A (storeName env n w) Q E s :=
  store_gen (X:=EX env) (.inl rfl) (fun c _ h=>.inr ⟨_,h⟩) x hr c vr fun h' tk e hr' er'=>q h' tk as T e hr' er'
theorem Ext.nil {X:Addr→Prop} (e:Ext Nil as T h as' T' h') (x:∀ b,X b→b ∉ owned as):Ext X as T h as' T' h':=Ext.weak (X:=Nil) e x
noncomputable def AsS (S:Sur) (call:CallT) (d:Nat) (t:Tg):Prop:=∀ ⦃v:V⦄ ⦃l l':Lo⦄ ⦃H H':Hp⦄,asgT (evE S.P call) t v l H=some (l',H') →
  ∀ ⦃nm:Nms⦄ ⦃sl:Sl⦄ ⦃x:Expr⦄ ⦃s:Shared⦄ ⦃as:As⦄ ⦃T:TS⦄ ⦃env:Env⦄ ⦃A:Around⦄ ⦃E:Value→Shared→Prop⦄ ⦃Q:Unit→Shared→Prop⦄ ⦃w:Value⦄,AOk A d→chT S.G t nm sl x=true→ER S as T env nm sl l s.heap→HR S as T H s.heap→VR S.fa as T v w →
    RetA S as T s env nm sl l' H' Q→wpAny (model S.prog S.w) A (assign x env w) Q E s
noncomputable def AsLS (S:Sur) (call:CallT) (d:Nat) (ts:List Tg):Prop:=∀ ⦃vs:List V⦄ ⦃l l':Lo⦄ ⦃H H':Hp⦄,asgTs (evE S.P call) ts vs l H=some (l',H') →
  ∀ ⦃nm:Nms⦄ ⦃sl:Sl⦄ ⦃xs:List Expr⦄ ⦃s:Shared⦄ ⦃as:As⦄ ⦃T:TS⦄ ⦃env:Env⦄ ⦃A:Around⦄ ⦃E:Value→Shared→Prop⦄ ⦃Q:Unit→Shared→Prop⦄ ⦃ws:List Value⦄,AOk A d→chTs S.G ts nm sl xs=true→ER S as T env nm sl l s.heap→HR S as T H s.heap→VRs S.fa as T vs ws →
    RetA S as T s env nm sl l' H' Q→wpAny (model S.prog S.w) A (assignInOrder ((assignEach xs env).map (·.2)) ws) Q E s
theorem a_loc {i:Nat}:AsS S call d (.loc i):=by
  intro v l l' H H' e nm sl x s as T env A E Q w ao c er hr vr q
  rw [asgT_1] at e; first | exact nn e | exact ff e | cases e
  refine cT_loc_k c fun n p c=>?_
  exact assign_Name (store_ok er hr c vr q)
theorem a_attr (C:Cx S) {o:ME} {a:Nat} (ho:EvS S call d o):AsS S call d (.attr o a):=by
  intro v l l' H H' e nm sl x s as T env A E Q w ao c er hr vr q
  refine as_attr_k e fun ov H1 e1 hs zq148=>?_
  subst zq148
  refine cT_attr_k c fun y p ca co=>?_
  refine wpAny_bind (wpAny_holding (wpAny_mono (ho e1 ao co er hr fun wo h1 tk1 as1 T1 x1 hr1 ro=>?_) (fun _ _ e=>e) fun _ _ e=>e))
  refine wpAny_bind (wpAny_standAt (wpAny_bind (wpAny_holding ?_)))
  refine setA_ok C hr1 ro (vr.mono x1.mono) ca hs fun h2 tk2 as2 T2 x2 hr2=>wpAny_release ?_
  have er1:=er.ext x1
  exact q _ _ _ _ ((x1.nil er.exo).trans (x2.nil er1.exo)) hr2 (er1.ext x2)
theorem a_idx {o i:ME} (ho:EvS S call d o) (hi:EvS S call d i):AsS S call d (.idx o i):=by
  intro v l l' H H' e nm sl x s as T env A E Q w ao c er hr vr q
  refine as_idx_k e fun ov H1 iv H2 e1 e2 hs zq150=>?_
  subst zq150
  refine cT_idx_k c fun y z p _ co ci=>?_
  refine wpAny_bind (wpAny_holding (wpAny_mono (ho e1 ao co er hr fun wo h1 tk1 as1 T1 x1 hr1 ro=>?_) (fun _ _ e=>e) fun _ _ e=>e))
  refine wpAny_bind (wpAny_holding (wpAny_mono (hi e2 ao ci (er.ext x1) hr1 fun wi h2 tk2 as2 T2 x2 hr2 ri=>?_) (fun _ _ e=>e) fun _ _ e=>e))
  refine wpAny_bind (wpAny_standAt (wpAny_bind (wpAny_holding ?_)))
  refine setI_ok hs hr2 (ro.mono x2.mono) ri (vr.mono (x1.trans x2).mono) fun h3 tk3 as3 T3 x3 hr3=>wpAny_release ?_
  have er2:=er.ext (x1.trans x2)
  exact q _ _ _ _ (((x1.trans x2).nil er.exo).trans (x3.nil er2.exo)) hr3 (er2.ext x3)
theorem draw_list {it t:Addr} {items:Array Value} (hne:t≠it):∀(n i:Nat) (s:Shared) (Q:List Value→Shared→Prop),s.heap.IsListIter it t i→s.heap.IsList t items→i+n≤items.size →
    (∀ h',h'.IsListIter it t (i+n)→Heap.SameBut it s.heap h'→Q ((items.toList.drop i).take n) { s with heap:=h' })→wpAny (model S.prog S.w) A (draw (.ref it) n) Q E s
  | 0,i,s,Q,hit,_,_,hQ=>by
    show wpAny _ _ (pure []) Q E s
    exact wpAny_pure (by simpa using hQ s.heap hit (Heap.SameBut.refl ..))
  | n+1,i,s,Q,hit,ht,hle,hQ=>by
    have hlt:i<items.size:=by exact Nat.not_le.mp (lin [_,_,_] (.c 1 (.a (.v 0) (.a (.v 1) (.n 1))) (.v 2) (.c 1 (.v 2) (.v 0) .z)) rfl hle)
    show wpAny _ _ (pyNext (.ref it) >>= _) Q E s
    refine wpAny_bind (wpAny_pyNext_list_item hit ht (x:=items[i]) (by simp [hlt]) fun h₁ hit₁ hs₁=>?_)
    refine wpAny_bind (wpAny_holding (draw_list hne n (i+1) _ _ hit₁ (ht.extBut hs₁.extBut hne) (by exact Nat.not_lt.mp (lin [_,_,_] (.c 1 (.a (.v 0) (.a (.v 1) (.n 1))) (.v 2) (.c 1 (.a (.v 2) (.n 1)) (.a (.a (.v 0) (.n 1)) (.v 1)) .z)) rfl hle)) fun h₂ hit₂ hs₂=>wpAny_pure ?_))
    have hd:items.toList.drop i=items[i]::items.toList.drop (i+1):=by simp [List.drop_eq_getElem_cons,hlt]
    have:=hQ h₂ (by rw [show i+(n+1)=i+1+n by exact lnq [_,_] (.a (.v 0) (.a (.v 1) (.n 1))) (.a (.a (.v 0) (.n 1)) (.v 1)) rfl]; exact hit₂) (hs₁.trans hs₂)
    rw [hd,List.take_succ_cons] at this
    exact this
theorem unpack_list {t:Addr} {items:Array Value} {Q:List Value→Shared→Prop} (hh:A.handled=none) (ht:s.heap.IsList t items)
    (hQ:∀ h',Heap.ExtBut s.heap.objs.size s.heap h'→Q items.toList { s with heap:=h' }):wpAny (model S.prog S.w) A (unpackItems (.ref t) items.size none) Q E s:=by
  have hlt:t≠s.heap.objs.size:=by obtain⟨o,ho,_⟩:=ht; exact Nat.ne_of_lt (Heap.lt_size ho)
  unfold unpackItems
  refine wpAny_bind ?_
  unfold notIterableAtAll
  refine wpAny_bind (wpAny_specialOf ht.typeIs PySem.F.slot_list_iter.lookup ?_)
  refine wpAny_pure ?_
  simp only [Bool.false_eq_true,if_false]
  refine wpAny_bind (wpAny_holding (wpAny_pyIter_list ht ?_))
  refine wpAny_bind (wpAny_holding (draw_list hlt items.size 0 _ _ ⟨_,Heap.get?_push_size _ rfl,rfl,rfl⟩ (ht.push _) (by exact Nat.not_lt.mp (lin [_] (.c 1 (.a (.v 0) (.n 1)) (.a (.n 0) (.v 0)) .z) rfl)) fun h₁ hit₁ hs₁=>?_))
  have hall:List.take items.size (List.drop 0 items.toList)=items.toList:=by
    rw [List.drop_zero]; exact List.take_of_length_le (by simp)
  rw [hall]
  rw [if_neg (by simp)]
  have ht₁:h₁.IsList t items:=(ht.push _).extBut hs₁.extBut hlt
  refine wpAny_bind (wpAny_holding (wpAny_pyNext_list_end hh hit₁ ht₁ (by simp) fun h₂ he₂=>?_))
  simp only [Option.isSome_none,Bool.false_eq_true,if_false]
  exact wpAny_pure (hQ h₂ fun b o hb e=>he₂ b o hb (hs₁.extBut b o hb (Heap.get?_push_of_some _ e)))
theorem unpk_ok {v:V} {vs:List V} {w:Value} {Q:List Value→Shared→Prop} {n:Nat} (e:unpk H v=some vs) (hn:n=vs.length) (hh:A.handled=none) (hr:HR S as T H s.heap) (vr:VR S.fa as T v w)
    (q:∀ ws h',VRs S.fa as T vs ws→(∀ b o,s.heap.get? b=some o→h'.get? b=some o)→Q ws { s with heap:=h' }):wpAny (model S.prog S.w) A (unpackItems w n none) Q E s:=by
  have low:∀ {h':Heap},Heap.ExtBut s.heap.objs.size s.heap h'→∀ b o,s.heap.get? b=some o→h'.get? b=some o:=fun x b o e=>x b o (Nat.ne_of_lt (Heap.lt_size e)) e
  unfold unpk at e
  split at e
  · first | exact ff e | exact nn e | cases e
    refine tupE_k hr vr fun a ws zq152=>?_
    subst zq152
    intro ht hz hv
    have:n=ws.toArray.size:=by rw [hn,List.size_toArray,hv.length]
    subst this
    exact wpAny_unpackItems_tuple hh ht fun h' x=>by simpa using q ws h' hv (low x)
  · rename_i n'
    split at e
    · rename_i l hl
      cases e
      refine hr.listAt_k hl vr fun a ws k zq153=>?_
      subst zq153
      intro hp e1 hz hv
      have:n=ws.toArray.size:=by rw [hn,List.size_toArray,hv.length]
      subst this
      exact unpack_list hh ⟨_,e1,rfl,k,rfl⟩ fun h' x=>by simpa using q ws h' hv (low x)
    · first | exact ff e | exact nn e | cases e
  · first | exact ff e | exact nn e | cases e
theorem asgTs_len {ev:ME→Lo→Hp→Option (V×Hp)}:∀ {ts:List Tg} {vs:List V} {l l':Lo} {H H':Hp},asgTs ev ts vs l H=some (l',H')→ts.length=vs.length
  | [],[],_,_,_,_,_=>rfl
  | [],_::_,_,_,_,_,e=>nn e
  | _::_,[],_,_,_,_,e=>nn e
  | t::ts,v::vs,_,_,_,_,e=>by
    rw [asgTs_2] at e
    unfold bndS at e
    split at e
    · rw [List.length_cons,List.length_cons,asgTs_len e]
    · first | exact ff e | exact nn e | cases e
theorem chT_star {G:Str→Option GV} {t:Tg} {x:Expr} (c:chT G t nm sl x=true):notStar x=true:=by
  cases t with
  | loc=>refine cT_loc_k c ?_; intros; rfl
  | attr=>refine cT_attr_k c ?_; intros; rfl
  | idx=>refine cT_idx_k c ?_; intros; rfl
  | tup=>refine cT_tup_k c ?_; intros; rfl
theorem each_cons {x:Expr} {xs:List Expr} (h:notStar x=true):assignEach (x::xs) env=(false,assign x env)::assignEach xs env:=by
  cases x <;> first | rfl | exact ff h
theorem chTs_each {G:Str→Option GV}:∀ {ts:List Tg} {xs:List Expr},chTs G ts nm sl xs=true→(assignEach xs env).length=ts.length∧(assignEach xs env).findIdx? (·.1)=none
  | [],xs,c=>by cases cTs_nil c; exact⟨rfl,rfl⟩
  | t::ts,xs,c=>by
    refine cTs_cons_k c fun x xs c1 c2=>?_
    obtain⟨h2,h3⟩:=chTs_each c2
    rw [each_cons (chT_star c1)]
    refine⟨by rw [List.length_cons,List.length_cons,h2],?_⟩
    rw [List.findIdx?_cons,if_neg Bool.false_ne_true,h3]; rfl
theorem a_nil:AsLS S call d []:=by
  intro vs l l' H H' e nm sl xs s as T env A E Q ws ao c er hr vr q
  cases vs with
  | nil =>
    rw [asgTs_1] at e; first | exact nn e | exact ff e | cases e
    cases vr
    cases cTs_nil c
    exact wpAny_pure (q s.heap s.toks as T (.refl ..) hr er)
  | cons=>exact nn e
theorem a_cons {t:Tg} {ts:List Tg} (ht:AsS S call d t) (hts:AsLS S call d ts):AsLS S call d (t::ts):=by
  intro vs l l' H H' e nm sl xs s as T env A E Q ws ao c er hr vr q
  cases vr with
  | nil=>exact nn e
  | @cons v0 w1 l0 ws1 v1 v2 =>
    refine bndS_some_k (m:=asgT (evE S.P call) t v0 l H) e fun l1 H1 e1 e=>?_
    refine cTs_cons_k c fun x xs c1 c2=>?_
    rw [each_cons (chT_star c1)]
    show wpAny _ A (do holding ws1 (assign x env w1); assignInOrder ((assignEach xs env).map (·.2)) ws1) Q E s
    refine wpAny_bind (wpAny_holding (ht e1 ao c1 er hr v1 fun h' tk as' T' x' hr' er'=>?_))
    exact hts e ao c2 er' hr' (v2.mono x'.mono) (q.from x')
theorem a_tup {ts:List Tg} (hts:AsLS S call d ts):AsS S call d (.tup ts):=by
  intro v l l' H H' e nm sl x s as T env A E Q w ao c er hr vr q
  refine as_tup_k e fun vs hu e=>?_
  refine cT_tup_k c fun xs _ pos c=>?_
  obtain⟨c1,c2⟩:=chTs_each (env:=env) c
  refine wpAny_bind (wpAny_standAt ?_)
  unfold unpack
  rw [c2]
  refine wpAny_bind (wpAny_holding (unpk_ok hu (c1.trans (asgTs_len e)) ao.handled hr vr fun ws h' vv kp=>?_))
  have x0:Ext Nil as T s.heap as T h':=.keep kp
  exact hts e ao c (er.ext x0) (hr.keep kp) vv ((q.from (tk:=s.toks) (x0.nil er.exo)))
end
end Mine
namespace Mine
inductive FlR (S:Sur) (as:As) (T:TS):Fl→Flow→Prop
  | next:FlR S as T .next .next
  | brk:FlR S as T .brk .brk
  | cont:FlR S as T .cont .cont
  | ret {v:V} {w:Value}:VR S.fa as T v w→FlR S as T (.ret v) (.ret w)
noncomputable def RetS (S:Sur) (as:As) (T:TS) (s:Shared) (env:Env) (nm:Nms) (sl:Sl) (fl:Fl) (l':Lo) (H':Hp) (Q:Flow→Shared→Prop):Prop :=
  ∀ h' tk as' T' f,Ext (EX env) as T s.heap as' T' h'→HR S as' T' H' h'→ER S as' T' env nm sl l' h'→FlR S as' T' fl f→Q f { s with heap:=h',toks:=tk }
noncomputable def StS (S:Sur) (call:CallT) (d:Nat) (st:MS):Prop:=∀ ⦃l l':Lo⦄ ⦃H H':Hp⦄ ⦃fl:Fl⦄,exS S.P call st l H=some (fl,l',H') →
  ∀ ⦃nm:Nms⦄ ⦃sl:Sl⦄ ⦃x:Stmt⦄ ⦃s:Shared⦄ ⦃as:As⦄ ⦃T:TS⦄ ⦃env:Env⦄ ⦃A:Around⦄ ⦃E:Value→Shared→Prop⦄ ⦃Q:Flow→Shared→Prop⦄,AOk A d→chS S.G st nm sl x=true→ER S as T env nm sl l s.heap→HR S as T H s.heap →
    RetS S as T s env nm sl fl l' H' Q→wpAny (model S.prog S.w) A (exec x env) Q E s
noncomputable def BkS (S:Sur) (call:CallT) (d:Nat) (b:List MS):Prop:=∀ ⦃l l':Lo⦄ ⦃H H':Hp⦄ ⦃fl:Fl⦄,exB S.P call b l H=some (fl,l',H') →
  ∀ ⦃nm:Nms⦄ ⦃sl:Sl⦄ ⦃xs:List Stmt⦄ ⦃s:Shared⦄ ⦃as:As⦄ ⦃T:TS⦄ ⦃env:Env⦄ ⦃A:Around⦄ ⦃E:Value→Shared→Prop⦄ ⦃Q:Flow→Shared→Prop⦄,AOk A d→chB S.G b nm sl xs=true→ER S as T env nm sl l s.heap→HR S as T H s.heap →
    RetS S as T s env nm sl fl l' H' Q→wpAny (model S.prog S.w) A (execs xs env) Q E s
section
variable {S:Sur} {call:CallT} {d:Nat} {as as':As} {T T':TS} {H H':Hp} {h h':Heap} {s:Shared} {env:Env} {nm:Nms} {sl:Sl} {l:Lo} {A:Around} {E:Value→Shared→Prop}
theorem RetS.from {as1:As} {T1:TS} {h1:Heap} {tk:Tok} {fl:Fl} {l':Lo} {Q:Flow→Shared→Prop} (k:RetS S as T s env nm sl fl l' H' Q) (e:Ext (EX env) as T s.heap as1 T1 h1):RetS S as1 T1 { s with heap:=h1,toks:=tk } env nm sl fl l' H' Q :=
  fun h' tk' as' T' f e' hr er fr=>k h' tk' as' T' f (e.trans e') hr er fr
theorem b_nil:BkS S call d []:=by
  intro l l' H H' fl e nm sl xs s as T env A E Q ao c er hr q
  rw [exB_1] at e; first | exact nn e | exact ff e | cases e
  cases cb_nil c
  exact wpAny_execs_nil (q s.heap s.toks as T _ (.refl ..) hr er .next)
theorem b_cons {st:MS} {b:List MS} (h1:StS S call d st) (h2:BkS S call d b):BkS S call d (st::b):=by
  intro l l' H H' fl e nm sl xs s as T env A E Q ao c er hr q
  refine cb_cons_k c fun x ys c1 c2=>?_
  have e:(match exS S.P call st l H with
    | some (.next,l,H)=>exB S.P call b l H
    | x=>x)=some (fl,l',H'):=e
  cases e1:exS S.P call st l H with
  | none=>rw [e1] at e; exact nn e
  | some z =>
    obtain⟨f,l1,H1⟩:=z
    rw [e1] at e
    refine wpAny_execs_cons (h1 e1 ao c1 er hr fun h' tk as' T' g x' hr' er' fr=>?_)
    cases fr with
    | next=>exact h2 e ao c2 er' hr' (q.from x')
    | brk=>cases e; exact q _ _ _ _ _ x' hr' er' .brk
    | cont=>cases e; exact q _ _ _ _ _ x' hr' er' .cont
    | ret v=>cases e; exact q _ _ _ _ _ x' hr' er' (.ret v)
theorem not_int (er:ER S as T env nm sl l h):interactive env=false:=by
  unfold interactive
  rw [er.kind]; rfl
theorem sw_none {x:Expr} (h:notComp x=true) (t:Option Expr) (n:Nat):swapsWith x t n env=pure false:=by
  cases x <;> first | rfl | exact ff h | exact nn h | cases h
theorem t_bad:StS S call d .bad:=by
  intro l l' H H' fl e; rw [exS] at e; first | exact nn e | exact ff e | cases e
theorem t_expr {e0:ME} (h0:EvS S call d e0):StS S call d (.expr e0):=by
  intro l l' H H' fl e nm sl x s as T env A E Q ao c er hr q
  refine ex_expr_k e fun v H1 e1 e=>?_
  cases e
  refine cs_expr_k c fun y p c1 c2=>?_
  refine wpAny_Expr_any (h0 e1 ao c2 er hr fun w h1 tk1 as1 T1 x1 hr1 vr=>?_) (not_int er) (sw_none c1 _ _)
  exact q _ _ _ _ _ (x1.nil er.exo) hr1 (er.ext x1) .next
theorem t_ret {e0:ME} (h0:EvS S call d e0):StS S call d (.ret e0):=by
  intro l l' H H' fl e nm sl x s as T env A E Q ao c er hr q
  refine ex_ret_k e fun v H1 e1 e=>?_
  cases e
  refine cs_ret_k c fun y p c=>?_
  exact wpAny_Return_some (h0 e1 ao c er hr fun w h1 tk1 as1 T1 x1 hr1 vr=>q _ _ _ _ _ (x1.nil er.exo) hr1 (er.ext x1) (.ret vr))
theorem t_brk:StS S call d .brk:=by
  intro l l' H H' fl e nm sl x s as T env A E Q ao c er hr q
  have e:(some (Fl.brk,l,H):SR)=some (fl,l',H'):=e
  cases e
  refine cs_brk c fun p=>?_
  exact wpAny_Break (q s.heap s.toks as T _ (.refl ..) hr er .brk)
theorem t_cont:StS S call d .cont:=by
  intro l l' H H' fl e nm sl x s as T env A E Q ao c er hr q
  have e:(some (Fl.cont,l,H):SR)=some (fl,l',H'):=e
  cases e
  refine cs_cont c fun p=>?_
  exact wpAny_Continue (q s.heap s.toks as T _ (.refl ..) hr er .cont)
theorem st_ife {t:ME} {b o:List MS} (ht:TrS S call d t) (hb:BkS S call d b) (ho:BkS S call d o):StS S call d (.ife t b o):=by
  intro l l' H H' fl e nm sl x s as T env A E Q ao c er hr q
  refine cs_ife_k c fun y z w p c1 c2 c3=>?_
  obtain⟨H1,e⟩:=ex_ife e
  rcases e with⟨e1,e⟩ | ⟨e1,e⟩
  · exact wpAny_If (ht e1 ao c1 er hr fun h1 tk1 as1 T1 x1 hr1=>hb e ao c2 (er.ext x1) hr1 (q.from (x1.nil er.exo)))
  · exact wpAny_If (ht e1 ao c1 er hr fun h1 tk1 as1 T1 x1 hr1=>ho e ao c3 (er.ext x1) hr1 (q.from (x1.nil er.exo)))
theorem t_auga (C:Cx S) {o:ME} {a:Nat} {op:BOp} {e0:ME} (ho:EvS S call d o) (h0:EvS S call d e0):StS S call d (.auga o a op e0):=by
  intro l l' H H' fl e nm sl x s as T env A E Q ao c er hr q
  refine ex_auga_k e fun ov H1 u b H2 r H3 e1 hu e2 hr' hs e=>?_
  cases e
  refine cs_auga_k c fun y yp o' z p c1 c3 c4 c5 c6=>?_
  refine wpAny_AugAssign_AttributeAny (ho e1 ao c5 er hr fun wo h1 tk1 as1 T1 x1 hr1 ro=>?_)
  refine getA_ok C hr1 ro hu fun wu tk2 ru=>?_
  refine h0 e2 ao c6 (s:={ s with heap:=h1,toks:=tk2 }) (er.ext x1) hr1 fun wb h3 tk3 as3 T3 x3 hr3 rb=>?_
  refine aug_ok hr' c1 hr3 (ru.mono x3.mono) rb fun w h4 tk4 as4 T4 x4 hr4 vr=>?_
  refine setA_ok C hr4 (ro.mono (x3.trans x4).mono) vr c3 hs fun h5 tk5 as5 T5 x5 hr5=>?_
  have ex:=((x1.trans x3).trans x4).trans x5
  exact q _ _ _ _ _ (ex.nil er.exo) hr5 (er.ext ex) .next
theorem asg_plain {y x:Expr} {pos:Pos} {Q:Flow→Shared→Prop} (hy:notStar y=true) (hs:swapsWith x (some y) pos.line env=pure false) (hw:swappedStores [y] x env=pure none)
    (h:wpAny (model S.prog S.w) A (eval x env) (fun v s₁=>wpAny (model S.prog S.w) A (assign y env v) (fun _=>Q .next) E s₁) E s):wpAny (model S.prog S.w) A (exec (.Assign [y] x pos) env) Q E s:=by
  refine wpAny_Assign_stores (wpAny_mono h (fun v s₁ h₁=>?_) fun _ _ e=>e) hs hw
  have h1:assignEach [y] env=[(false,assign y env)]:=by cases y <;> first | rfl | exact ff hy | exact nn hy | cases hy
  rw [h1]
  exact h₁
theorem swp_eq (ts vs:List Expr) (k k2:Nat) (p p2:Pos) (env:Env):swappedStores [.Tuple ts k p] (.Tuple vs k2 p2) env =
    (if(!(ts.length == 2 || ts.length == 3) || vs.length != ts.length || env.blockKind != .function)=true then pure none
    else if vs.any isStarred=true then pure none
    else if((ts.filterMap (locName env.scope.names ((ts.head?.map (·.pos.line)).getD 0))).length != ts.length || (ts.filterMap (locName env.scope.names ((ts.head?.map (·.pos.line)).getD 0))).eraseDups.length != (ts.filterMap (locName env.scope.names ((ts.head?.map (·.pos.line)).getD 0))).length)=true then pure none
    else if vs.all (foldedForSure 8)=true then pure none
    else if vs.all (constantsAlone 8)=true then(do unsupported "assign.tuple-of-constant-expressions:order-of-the-stores"; pure (some (ts.filterMap (locName env.scope.names ((ts.head?.map (·.pos.line)).getD 0)))))
    else pure (some (ts.filterMap (locName env.scope.names ((ts.head?.map (·.pos.line)).getD 0))))):=rfl
theorem none_r {m:Sem (Option (List Str))} {r:Option (List Str)} (h:some none=some r) (p:m=pure none):m=pure r:=by cases h; exact p
theorem casc_ok {m:Sem (Option (List Str))} {c1 c2 c3 c4 c5:Bool} {g:List Str} {r:Option (List Str)} (h:casc c1 c2 c3 c4 c5 g=some r) :
    (if c1=true then pure none else if c2=true then pure none else if c3=true then pure none else if c4=true then pure none else if c5=true then m else pure (some g):Sem (Option (List Str)))=pure r:=by
  cases c1 with
  | true=>cases h; rfl
  | false=>cases c2 with
    | true=>cases h; rfl
    | false=>cases c3 with
      | true=>cases h; rfl
      | false=>cases c4 with
        | true=>cases h; rfl
        | false=>cases c5 with
          | true=>exact nn h
          | false=>cases h; rfl
theorem swp_ok {y x:Expr} {r:Option (List Str)} (hk:env.scope.kind=.function) (h:swpQ env.scope.names y x=some r):swappedStores [y] x env=pure r:=by
  cases y with
  | Tuple ts k p =>
    have h:(match (generalizing:=false) x with | .Tuple vs _ _=>tupQ env.scope.names ts vs | _=>some none)=some r:=h
    cases x with
    | Tuple vs k2 p2 =>
      have hb:env.blockKind=.function:=by unfold Env.blockKind; rw [hk]; rfl
      rw [swp_eq,hb]
      simp only [bne_self_eq_false,Bool.or_false]
      exact casc_ok h
    | _=>exact none_r h rfl
  | List=>exact nn h
  | _=>exact none_r h rfl
theorem swap_ok {y x:Expr} {pos:Pos} {ns:List Str} {Q:Flow→Shared→Prop} {ts:List Expr} {k:Nat} {tp:Pos} (hy:y=.Tuple ts k tp) (hs:swapsWith x (some y) pos.line env=pure false) (hw:swappedStores [y] x env=pure (some ns))
    (h:wpAny (model S.prog S.w) A (eval x env) (fun v s₁=>wpAny (model S.prog S.w) A (unpackItems v ns.length none) (fun items s₂=>wpAny (model S.prog S.w) A (assignInOrder (ns.reverse.map fun n=>bindName env n) items.reverse) (fun _=>Q .next) E s₂) E s₁) E s) :
    wpAny (model S.prog S.w) A (exec (.Assign [y] x pos) env) Q E s:=by
  subst hy
  exact Assign_Tuple_swapped h hs hw
theorem one_ok {w:Value} {ws:List Value} {ts:List (Value→Sem Unit)} {n:Str} {M:Model} {Q:Unit→Shared→Prop} (h:wpAny M A (storeName env n w) (fun _ s₁=>wpAny M A (assignInOrder ts ws) Q E s₁) E s) :
    wpAny M A (assignInOrder ((fun w=>bindName env n w)::ts) (w::ws)) Q E s:=by
  show wpAny M A (do holding ws (bindName env n w); assignInOrder ts ws) Q E s
  exact wpAny_bind (wpAny_holding (wpAny_bindName h))
theorem swap2 {i j:Nat} {a b:Str} {v1 v2:V} {w1 w2:Value} {Q:Unit→Shared→Prop} (er:ER S as T env nm sl l s.heap) (hr:HR S as T H s.heap) (hn:a≠b) (c1:isLoc nm sl i a=true) (c2:isLoc nm sl j b=true) (r1:VR S.fa as T v1 w1) (r2:VR S.fa as T v2 w2)
    (q:RetA S as T s env nm sl ((l.set i (some v1)).set j (some v2)) H Q):wpAny (model S.prog S.w) A (assignInOrder [fun w=>bindName env b w,fun w=>bindName env a w] [w2,w1]) Q E s:=by
  have hij:i≠j:=fun q=>by
    refine isLoc_spec_k c1 fun b1 e1 _=>?_
    refine isLoc_spec_k c2 fun b2 e2 _=>?_
    rw [q] at e1; rw [e1] at e2; cases e2; exact hn rfl
  refine one_ok (store_ok er hr c2 r2 fun h1 tk1 as1 T1 x1 hr1 er1=>?_)
  refine one_ok (store_ok er1 hr1 c1 (r1.mono x1.mono) fun h2 tk2 as2 T2 x2 hr2 er2=>?_)
  rw [List.set_comm _ _ (Ne.symm hij)] at er2
  exact wpAny_pure (q _ _ _ _ (x1.trans x2) hr2 er2)
theorem swap3 {i j k:Nat} {a b c:Str} {v1 v2 v3:V} {w1 w2 w3:Value} {Q:Unit→Shared→Prop} (er:ER S as T env nm sl l s.heap) (hr:HR S as T H s.heap) (hab:a≠b) (hac:a≠c) (hbc:b≠c) (c1:isLoc nm sl i a=true) (c2:isLoc nm sl j b=true) (c3:isLoc nm sl k c=true)
    (r1:VR S.fa as T v1 w1) (r2:VR S.fa as T v2 w2) (r3:VR S.fa as T v3 w3) (q:RetA S as T s env nm sl (((l.set i (some v1)).set j (some v2)).set k (some v3)) H Q) :
    wpAny (model S.prog S.w) A (assignInOrder [fun w=>bindName env c w,fun w=>bindName env b w,fun w=>bindName env a w] [w3,w2,w1]) Q E s:=by
  have ne:∀ {i j:Nat} {a b:Str},a≠b→isLoc nm sl i a=true→isLoc nm sl j b=true→i≠j:=fun hn c1 c2 q=>by
    refine isLoc_spec_k c1 fun b1 e1 _=>?_
    refine isLoc_spec_k c2 fun b2 e2 _=>?_
    rw [q] at e1; rw [e1] at e2; cases e2; exact hn rfl
  refine one_ok (store_ok er hr c3 r3 fun h1 tk1 as1 T1 x1 hr1 er1=>?_)
  refine one_ok (store_ok er1 hr1 c2 (r2.mono x1.mono) fun h2 tk2 as2 T2 x2 hr2 er2=>?_)
  refine one_ok (store_ok er2 hr2 c1 ((r1.mono x1.mono).mono x2.mono) fun h3 tk3 as3 T3 x3 hr3 er3=>?_)
  have eq:((l.set k (some v3)).set j (some v2)).set i (some v1)=((l.set i (some v1)).set j (some v2)).set k (some v3):=by
    rw [List.set_comm _ _ (Ne.symm (ne hbc c2 c3)),List.set_comm _ _ (Ne.symm (ne hac c1 c3)),List.set_comm _ _ (Ne.symm (ne hab c1 c2))]
  rw [eq] at er3
  exact wpAny_pure (q _ _ _ _ ((x1.trans x2).trans x3) hr3 er3)
end
end Mine
namespace Mine
section
variable {S:Sur} {call:CallT} {d:Nat} {as as':As} {T T':TS} {H H':Hp} {h h':Heap} {s:Shared} {env:Env} {nm:Nms} {sl:Sl} {l:Lo} {A:Around} {E:Value→Shared→Prop}
theorem sn {p:Prop} {ns:List Str} (h:(some none:Option (Option (List Str)))=some (some ns)):p:=by cases h
theorem casc_some {c1 c2 c3 c4 c5:Bool} {g ns:List Str} (h:casc c1 c2 c3 c4 c5 g=some (some ns)):g=ns∧c3=false:=by
  cases c1 with
  | true=>cases h
  | false=>cases c2 with
    | true=>cases h
    | false=>cases c3 with
      | true=>cases h
      | false=>cases c4 with
        | true=>cases h
        | false=>cases c5 with
          | true=>exact nn h
          | false=>cases h; exact⟨rfl,rfl⟩
theorem swpQ_some {y x:Expr} {ns:List Str} (h:swpQ nm y x=some (some ns)):(∃ ts k p,y=.Tuple ts k p)∧ns.eraseDups.length=ns.length:=by
  cases y with
  | Tuple ts k p =>
    refine⟨⟨_,_,_,rfl⟩,?_⟩
    have h:(match (generalizing:=false) x with | .Tuple vs _ _=>tupQ nm ts vs | _=>some none)=some (some ns):=h
    cases x with
    | Tuple vs k2 p2 =>
      obtain⟨rfl,h2⟩:=casc_some h
      exact Decidable.byContradiction fun z=>ff (h2.symm.trans (by rw [bne_iff_ne.mpr z,Bool.or_true]))
    | _=>exact sn h
  | List=>exact nn h
  | _=>exact sn h
theorem dups2 {a b:Str} (h:[a,b].eraseDups.length=2):a≠b:=by
  intro q; subst q; simp [List.eraseDups_cons] at h
theorem dups3_k {a b c:Str} (h:[a,b,c].eraseDups.length=3) {zg:Prop} (zk:(a≠b)→(a≠c)→(b≠c)→zg):zg:=by
  refine zk (fun q=>?_) (fun q=>?_) (fun q=>?_)
  · subst q
    simp only [List.eraseDups_cons,List.filter_cons,beq_self_eq_true,Bool.not_true,Bool.false_eq_true,if_false,List.length_cons] at h
    split at h <;> simp [List.eraseDups_cons] at h
  · subst q
    simp only [List.eraseDups_cons,List.filter_cons,beq_self_eq_true,Bool.not_true,Bool.false_eq_true,if_false,List.length_cons] at h
    split at h <;> simp [List.eraseDups_cons] at h
  · subst q
    simp only [List.eraseDups_cons,List.filter_cons,beq_self_eq_true,Bool.not_true,Bool.false_eq_true,if_false,List.length_cons] at h
    split at h <;> simp [List.eraseDups_cons] at h
theorem locs0 {ns:List Str} (h:isLocs nm sl [] ns=true):ns=[]:=by
  cases ns with
  | nil=>rfl
  | cons=>exact ff h
theorem locs_cons_k {i:Nat} {is:List Nat} {ns:List Str} (h:isLocs nm sl (i::is) ns=true) {zg:Prop} (zk:∀ a,∀ r,(ns=a::r)→(isLoc nm sl i a=true)→(isLocs nm sl is r=true)→zg):zg:=by
  obtain⟨a,r,zh1,zh2,zh3⟩:∃ a r,ns=a::r∧isLoc nm sl i a=true∧isLocs nm sl is r=true:=by
    cases ns with
    | nil=>exact ff h
    | cons a r=>exact⟨a,r,rfl,and2 h⟩
  exact zk a r zh1 zh2 zh3
theorem locs2_k {i j:Nat} {ns:List Str} (h:isLocs nm sl [i,j] ns=true) {zg:Prop} (zk:∀ a,∀ b,(ns=[a,b])→(isLoc nm sl i a=true)→(isLoc nm sl j b=true)→zg):zg:=by
  refine locs_cons_k h fun a r zq165=>?_
  subst zq165
  intro h1 h
  refine locs_cons_k h fun b r zq166=>?_
  subst zq166
  intro h2 h
  cases locs0 h
  exact zk a b rfl h1 h2
theorem locs3_k {i j k:Nat} {ns:List Str} (h:isLocs nm sl [i,j,k] ns=true) {zg:Prop} (zk:∀ a,∀ b,∀ c,(ns=[a,b,c])→(isLoc nm sl i a=true)→(isLoc nm sl j b=true)→(isLoc nm sl k c=true)→zg):zg:=by
  refine locs_cons_k h fun a r zq167=>?_
  subst zq167
  intro h1 h
  refine locs2_k h fun b c zq168=>?_
  subst zq168
  intro h2 h3
  exact zk a b c rfl h1 h2 h3
section
variable {ev:ME→Lo→Hp→Option (V×Hp)} {v:V} {l1:Lo} {H2:Hp}
theorem tup_inv_k {ts:List Tg} (e:asgT ev (.tup ts) v l H=some (l1,H2)) {zg:Prop} (zk:∀ vs,(unpk H v=some vs)→(asgTs ev ts vs l H=some (l1,H2))→zg):zg:=by
  obtain⟨vs,zh1,zh2⟩:∃ vs,unpk H v=some vs∧asgTs ev ts vs l H=some (l1,H2):=by
    exact as_tup e
  exact zk vs zh1 zh2
theorem asgs_nil_k {vs:List V} (e:asgTs ev [] vs l H=some (l1,H2)) {zg:Prop} (zk:(vs=[])→(l1=l)→(H2=H)→zg):zg:=by
  cases vs with
  | nil=>rw [asgTs_1] at e; cases e; exact zk rfl rfl rfl
  | cons=>exact nn e
theorem asgs_loc_k {i:Nat} {ts:List Tg} {vs:List V} (e:asgTs ev (.loc i::ts) vs l H=some (l1,H2)) {zg:Prop} (zk:∀ a,∀ r,(vs=a::r)→(asgTs ev ts r (l.set i (some a)) H=some (l1,H2))→zg):zg:=by
  cases vs with
  | nil=>exact nn e
  | cons a r=>rw [asgTs_2,asgT_1] at e; exact zk a r rfl e
theorem asg2_k {i j:Nat} (e:asgT ev (.tup [.loc i,.loc j]) v l H=some (l1,H2)) {zg:Prop} (zk:∀ a,∀ b,(unpk H v=some [a,b])→(l1=(l.set i (some a)).set j (some b))→(H2=H)→zg):zg:=by
  refine tup_inv_k e fun vs hu e1=>?_
  refine asgs_loc_k e1 fun a r1 zq169=>?_
  subst zq169
  intro e2
  refine asgs_loc_k e2 fun b r2 zq170=>?_
  subst zq170
  intro e3
  refine asgs_nil_k e3 fun zq171=>?_
  subst zq171
  intro h1 h2
  exact zk a b hu h1 h2
theorem asg3_k {i j k:Nat} (e:asgT ev (.tup [.loc i,.loc j,.loc k]) v l H=some (l1,H2)) {zg:Prop} (zk:∀ a,∀ b,∀ c,(unpk H v=some [a,b,c])→(l1=((l.set i (some a)).set j (some b)).set k (some c))→(H2=H)→zg):zg:=by
  refine tup_inv_k e fun vs hu e1=>?_
  refine asgs_loc_k e1 fun a r1 zq172=>?_
  subst zq172
  intro e2
  refine asgs_loc_k e2 fun b r2 zq173=>?_
  subst zq173
  intro e3
  refine asgs_loc_k e3 fun c r3 zq174=>?_
  subst zq174
  intro e4
  refine asgs_nil_k e4 fun zq175=>?_
  subst zq175
  intro h1 h2
  exact zk a b c hu h1 h2
end
theorem sw_inv {t:Tg} {r:Option (Option (List Str))} (h:swOk nm sl t r=true):r=some none∨∃ ns,r=some (some ns)∧((∃ i j,t=.tup [.loc i,.loc j]∧isLocs nm sl [i,j] ns=true)∨(∃ i j k,t=.tup [.loc i,.loc j,.loc k]∧isLocs nm sl [i,j,k] ns=true)):=by
  cases r with
  | none=>exact ff h
  | some r=>cases r with
    | none=>exact .inl rfl
    | some ns =>
      refine .inr ⟨ns,rfl,?_⟩
      have lo:∀ {t:Tg} {f:Nat→Bool},(match locOf t with | none=>false | some i=>f i)=true→∃ i,t=.loc i∧f i=true:=by
        intro t f h
        cases t with
        | loc i=>exact⟨i,rfl,h⟩
        | _=>exact ff h
      cases t with
      | tup ts =>
        have h:swTs nm sl ts ns=true:=h
        cases ts with
        | nil=>exact ff h
        | cons t ts =>
          obtain⟨i,rfl,h⟩:=lo h
          cases ts with
          | nil=>exact ff h
          | cons t ts =>
            obtain⟨j,rfl,h⟩:=lo h
            cases ts with
            | nil=>exact .inl ⟨i,j,rfl,h⟩
            | cons t ts =>
              obtain⟨k,rfl,h⟩:=lo h
              cases ts with
              | nil=>exact .inr ⟨i,j,k,rfl,h⟩
              | cons=>exact ff h
      | _=>exact ff h
theorem asg_ok {t:Tg} {e0:ME} (ht:AsS S call d t) (h0:EvS S call d e0) {l':Lo} {fl:Fl} (e:exS S.P call (.asg t e0) l H=some (fl,l',H')) {y x:Expr} {pos:Pos} {as:As} {T:TS} {Q:Flow→Shared→Prop} (ao:AOk A d)
    (c1:chT S.G t nm sl y=true) (c2:chE S.G e0 nm sl x=true) (hc:notComp x=true)
    (c3:swOk nm sl t (swpQ nm y x)=true) (er:ER S as T env nm sl l s.heap) (hr:HR S as T H s.heap) (q:RetS S as T s env nm sl fl l' H' Q):wpAny (model S.prog S.w) A (exec (.Assign [y] x pos) env) Q E s:=by
  refine ex_asg_k e fun v H1 l1 H2 e1 e2 e=>?_
  cases e
  have hs:=sw_none (env:=env) hc (some y) pos.line
  rcases sw_inv c3 with hq | ⟨ns,hq,hk⟩
  · refine asg_plain (chT_star c1) hs (swp_ok er.kind (er.names▸hq)) (h0 e1 ao c2 er hr fun w h1 tk1 as1 T1 x1 hr1 vr=>?_)
    exact ht e2 ao c1 (er.ext x1) hr1 vr fun h2 tk2 as2 T2 x2 hr2 er2=>q _ _ _ _ _ ((x1.nil er.exo).trans x2) hr2 er2 .next
  · obtain⟨⟨ts,k,tp,hy⟩,hd⟩:=swpQ_some hq
    refine swap_ok hy hs (swp_ok er.kind (er.names▸hq)) (h0 e1 ao c2 er hr fun w h1 tk1 as1 T1 x1 hr1 vr=>?_)
    have er1:=er.ext x1
    rcases hk with⟨i,j,rfl,c4⟩ | ⟨i,j,k,rfl,c4⟩
    · refine locs2_k c4 fun a b zq176=>?_
      subst zq176
      intro g1 g2
      refine asg2_k e2 fun v1 v2 hu zq177=>?_
      subst zq177
      intro zq178
      subst zq178
      refine unpk_ok hu rfl ao.handled hr1 vr fun ws h2 vv kp=>?_
      refine vrs2_k vv fun w1 w2 zq179=>?_
      subst zq179
      intro r1 r2
      refine swap2 (er1.ext (.keep kp)) (hr1.keep kp) (dups2 hd) g1 g2 r1 r2 fun h3 tk3 as3 T3 x3 hr3 er3=>?_
      exact q _ _ _ _ _ (((x1.trans (.keep kp)).nil er.exo).trans x3) hr3 er3 .next
    · refine locs3_k c4 fun a b c zq180=>?_
      subst zq180
      intro g1 g2 g3
      refine asg3_k e2 fun v1 v2 v3 hu zq181=>?_
      subst zq181
      intro zq182
      subst zq182
      refine unpk_ok hu rfl ao.handled hr1 vr fun ws h2 vv kp=>?_
      refine vrs3_k vv fun w1 w2 w3 zq183=>?_
      subst zq183
      intro r1 r2 r3
      refine dups3_k hd fun d1 d2 d3=>?_
      refine swap3 (er1.ext (.keep kp)) (hr1.keep kp) d1 d2 d3 g1 g2 g3 r1 r2 r3 fun h3 tk3 as3 T3 x3 hr3 er3=>?_
      exact q _ _ _ _ _ (((x1.trans (.keep kp)).nil er.exo).trans x3) hr3 er3 .next
theorem turn_inv {f:Fl} {l2:Lo} {H2:Hp} {X:Lo→Hp→SR} {r:Fl×Lo×Hp} (e:(match (some (f,l2,H2):SR) with
      | some (.next,l,H)=>X l H | some (.cont,l,H)=>X l H | some (.brk,l,H)=>some (.next,l,H) | some (.ret v,l,H)=>some (.ret v,l,H) | none=>none)=some r) :
    ((f=.next∨f=.cont)∧X l2 H2=some r)∨(f=.brk∧r=(.next,l2,H2))∨∃ u,f=.ret u∧r=(.ret u,l2,H2):=by
  cases f with
  | next=>exact .inl ⟨.inl rfl,e⟩
  | cont=>exact .inl ⟨.inr rfl,e⟩
  | brk=>exact .inr (.inl ⟨rfl,(Option.some.inj e).symm⟩)
  | ret u=>exact .inr (.inr ⟨u,rfl,(Option.some.inj e).symm⟩)
theorem whlN_inv {t:Lo→Hp→Option (V×Hp)} {b:Lo→Hp→SR} {n:Nat} {r:Fl×Lo×Hp} (e:whlN t b (n+1) l H=some r):(∃ H1,t l H=some (.bool false,H1)∧r=(.next,l,H1)) ∨
    ∃ H1 f l2 H2,t l H=some (.bool true,H1)∧b l H1=some (f,l2,H2)∧(((f=.next∨f=.cont)∧whlN t b n l2 H2=some r)∨(f=.brk∧r=(.next,l2,H2))∨∃ u,f=.ret u∧r=(.ret u,l2,H2)):=by
  rw [whlN_2] at e
  refine bnd_some_k e fun v H1 e1 e=>?_
  cases v with
  | bool q =>
    cases q with
    | false=>exact .inl ⟨H1,e1,(Option.some.inj e).symm⟩
    | true =>
      dsimp only at e
      cases hb:b l H1 with
      | none=>rw [hb] at e; first | exact nn e | exact ff e | cases e
      | some z =>
        obtain⟨f,l2,H2⟩:=z
        rw [hb] at e
        exact .inr ⟨H1,f,l2,H2,e1,hb,turn_inv e⟩
  | _=>first | exact ff e | exact nn e | cases e
theorem forN_inv {t:CT} {b:Lo→Hp→SR} {n:Nat} {it:It} {r:Fl×Lo×Hp} (e:forN t b (n+1) it l H=some r):(nextI H it=some none∧r=(.next,l,H)) ∨
    ∃ v it' l1 f l2 H2,nextI H it=some (some (v,it'))∧setCT t v l=some l1∧b l1 H=some (f,l2,H2)∧(((f=.next∨f=.cont)∧forN t b n it' l2 H2=some r)∨(f=.brk∧r=(.next,l2,H2))∨∃ u,f=.ret u∧r=(.ret u,l2,H2)):=by
  rw [forN_2] at e
  cases hn:nextI H it with
  | none=>rw [hn] at e; first | exact nn e | exact ff e | cases e
  | some z=>cases z with
    | none=>rw [hn] at e; exact .inl ⟨rfl,(Option.some.inj e).symm⟩
    | some z =>
      obtain⟨v,it'⟩:=z
      rw [hn] at e
      dsimp only at e
      cases hs:setCT t v l with
      | none=>rw [hs] at e; first | exact nn e | exact ff e | cases e
      | some l1 =>
        rw [hs] at e
        dsimp only at e
        cases hb:b l1 H with
        | none=>rw [hb] at e; first | exact nn e | exact ff e | cases e
        | some z =>
          obtain⟨f,l2,H2⟩:=z
          rw [hb] at e
          exact .inr ⟨v,it',l1,f,l2,H2,rfl,hs,hb,turn_inv e⟩
theorem flow_goes {f:Fl} {g:Flow} (h:f=.next∨f=.cont) (x:FlR S as T f g):g=.next∨g=.cont:=by
  rcases h with rfl | rfl <;> cases x
  · exact .inl rfl
  · exact .inr rfl
inductive WJ (S:Sur) (call:CallT) (as:As) (T:TS) (s:Shared) (env:Env) (nm:Nms) (sl:Sl) (t:ME) (b:List MS) (fl:Fl) (l':Lo) (H':Hp) (n:Nat):Shared→Prop where
  | mk (h1:Heap) (tk1:_) (as1:As) (T1:TS) (l1:Lo) (H1:Hp) (x:Ext (EX env) as T s.heap as1 T1 h1) (r:HR S as1 T1 H1 h1) (er:ER S as1 T1 env nm sl l1 h1) (e:whlN (evE S.P call t) (fun l H=>exB S.P call b l H) n l1 H1=some (fl,l',H')):WJ S call as T s env nm sl t b fl l' H' n { s with heap:=h1,toks:=tk1 }
theorem while_loop {t:ME} {b:List MS} (ht:TrS S call d t) (hb:BkS S call d b) {x:Expr} {y:List Stmt} {R:Result→Shared→Prop} {fl:Fl} {l':Lo} {n:Nat} (ao:AOk A d) (c1:chE S.G t nm sl x=true) (c2:chB S.G b nm sl y=true) (er:ER S as T env nm sl l s.heap) (hr:HR S as T H s.heap)
    (e:whlN (evE S.P call t) (fun l H=>exB S.P call b l H) n l H=some (fl,l',H')) (q:RetS S as T s env nm sl fl l' H' (fun f s'=>R (.ok f) s')):codeAny (model S.prog S.w) A (.whileLoop x y [] env) R s:=by
  refine codeAny_whileLoop (WJ S call as T s env nm sl t b fl l' H') (fun n s1 hI=>?_) n (.mk s.heap s.toks as T l H (.refl ..) hr er e)
  obtain⟨h1,tk1,as1,T1,l1,H1,x1,hr1,er1,e⟩:=hI
  generalize notedBy (model S.prog S.w) A env (fun e s'=>R (.error e) s')=E1
  cases n with
  | zero=>rw [whlN_1] at e; first | exact nn e | exact ff e | cases e
  | succ n =>
    rcases whlN_inv e with⟨H2,e2,e⟩ | ⟨H2,f,l3,H3,e2,e3,e⟩
    · first | exact ff e | exact nn e | cases e
      refine ht e2 ao c1 er1 hr1 fun h2 tk2 as2 T2 x2 hr2=>?_
      rw [if_neg Bool.false_ne_true]
      exact wpAny_execs_nil (q _ _ _ _ _ (x1.trans (x2.nil er1.exo)) hr2 (er1.ext x2) .next)
    · refine ht e2 ao c1 er1 hr1 fun h2 tk2 as2 T2 x2 hr2=>?_
      rw [if_pos rfl]
      have x12:=x1.trans (x2.nil er1.exo)
      refine hb e3 ao c2 (er1.ext x2) hr2 fun h3 tk3 as3 T3 f x3 hr3 er3 fr=>?_
      rcases e with⟨hf,e⟩ | ⟨rfl,e⟩ | ⟨u,rfl,e⟩
      · rcases flow_goes hf fr with rfl | rfl <;> exact⟨n,Nat.lt_succ_self n,.mk h3 _ as3 T3 _ _ (x12.trans x3) hr3 er3 e⟩
      · cases e; cases fr
        exact q _ _ _ _ _ (x12.trans x3) hr3 er3 .next
      · first | exact ff e | exact nn e | cases e
        cases fr with
        | ret vr=>exact q _ _ _ _ _ (x12.trans x3) hr3 er3 (.ret vr)
theorem st_whl {t:ME} {b:List MS} (ht:TrS S call d t) (hb:BkS S call d b):StS S call d (.whl t b):=by
  intro l l' H H' fl e nm sl x s as T env A E Q ao c er hr q
  refine cs_whl_k c fun y z p c1 c2=>?_
  exact wpAny_While (while_loop ht hb ao c1 c2 er hr e q)
theorem own_go {it:It} {I:Addr} {v:Value} {t:Expr} {Q:Unit→Shared→Prop} (x:IR S as T s.heap it I) (q:Q () s):wpAny (model S.prog S.w) A (letOwnedTupleGo t (.ref I) v) Q E s:=by
  obtain⟨o,ho,n,vs,hc,hd,hn⟩:∃ o,s.heap.get? I=some o∧∃ n vs,o.cls=.type n∧o.data=.fields vs ∧
      (["enumerate","zip","dict_itemiterator","dict_reverseitemiterator","odict_iterator","itertools.zip_longest","itertools.pairwise"]:List String).contains n=false:=by
    cases x with
    | tup a _ _=>obtain⟨o,e,c,d⟩:=a; exact⟨o,e,_,_,c,d,by decide⟩
    | str a _=>obtain⟨o,e,c,d⟩:=a; exact⟨o,e,_,_,c,d,by decide⟩
    | lst a _=>obtain⟨o,e,c,d⟩:=a; exact⟨o,e,_,_,c,d,by decide⟩
    | rng a=>exact⟨_,a,_,_,rfl,rfl,by decide⟩
  have go:∀ a:Addr,wpAny (model S.prog S.w) A (do
      let o ← load I
      match o.cls,o.data with
      | .type n,.fields vs =>
        if((["enumerate","zip","dict_itemiterator","dict_reverseitemiterator","odict_iterator","itertools.zip_longest","itertools.pairwise"]:List String).contains n && vs[0]? == some (rawInt a))=true then do
          rule "for.unpacks-the-owned-tuple"
          updateField I 0 .none
        else pure ()
      | _,_=>pure ():Sem Unit) Q E s:=fun a=>by
    refine wpAny_bind (wpAny_load ho ?_)
    rw [hc,hd]
    show wpAny _ A (if(_ && _)=true then _ else _) Q E s
    rw [hn,Bool.false_and,if_neg (by decide)]
    exact wpAny_pure q
  cases t <;> first | exact wpAny_pure q | (cases v <;> first | exact wpAny_pure q | exact go _)
noncomputable def tgOf:CT→Tg
  | .one i=>.loc i
  | .many is=>.tup (is.map .loc)
theorem as_locs:∀ is:List Nat,AsLS S call d (is.map .loc)
  | []=>a_nil
  | _::r=>a_cons a_loc (as_locs r)
theorem as_ct (t:CT):AsS S call d (tgOf t):=by
  cases t with
  | one i=>exact a_loc
  | many is=>exact a_tup (as_locs is)
theorem setMany_asg {ev:ME→Lo→Hp→Option (V×Hp)}:∀ {is:List Nat} {vs:List V} {l l':Lo},setMany is vs l=some l'→asgTs ev (is.map .loc) vs l H=some (l',H)
  | [],[],_,_,e=>by rw [setMany_1] at e; cases e; rfl
  | [],_::_,_,_,e=>nn e
  | _::_,[],_,_,e=>nn e
  | i::is,v::vs,_,_,e=>by
    rw [setMany_2] at e
    rw [List.map_cons,asgTs_2,asgT_1]
    exact setMany_asg e
theorem setCT_asg {ev:ME→Lo→Hp→Option (V×Hp)} {t:CT} {v:V} {l l':Lo} (e:setCT t v l=some l'):asgT ev (tgOf t) v l H=some (l',H):=by
  unfold setCT at e
  split at e
  · cases e; rfl
  · split at e
    · rename_i is _ vs
      show asgT ev (.tup (is.map .loc)) (.tup vs) l H=some (l',H)
      rw [asgT_4]
      exact setMany_asg e
    · first | exact ff e | exact nn e | cases e
theorem ct_go_ch {G:Str→Option GV}:∀ {is:List Nat} {es:List Expr},ctGo nm sl is es=true→chTs G (is.map .loc) nm sl es=true
  | [],es,c=>by cases go_nil c; rfl
  | i::is,es,c=>by
    refine go_cons_k c fun n p es c1 c2=>?_
    exact(Bool.and_eq_true_iff.mpr ⟨c1,ct_go_ch c2⟩:(isLoc nm sl i n && chTs G (is.map .loc) nm sl es)=true)
theorem ct_ch {G:Str→Option GV} {t:CT} {e:Expr} (c:ctIs nm sl t e=true):chT G (tgOf t) nm sl e=true:=by
  cases t with
  | one i=>exact c
  | many is =>
    refine ct_many_k c fun xs k p c=>?_
    exact ct_go_ch c
theorem set_folded {x:Expr} (h:notSet x=true) (env:Env) (v:Value):foldedSetIterable x env v=pure v:=by
  cases x <;> first | rfl | exact ff h | exact nn h | cases h
theorem owned_mono {as as1:As} {T T1:TS} (m:Mono as T as1 T1) {b:Addr} (h:b∈owned as):b∈owned as1:=by
  obtain⟨p,hp,hb⟩:=List.mem_flatMap.mp h
  obtain⟨n,hn⟩:=List.getElem?_of_mem hp
  exact List.mem_flatMap.mpr ⟨p,List.mem_of_getElem? (m.asx n p hn),hb⟩
theorem Ext.dead {as as1:As} {T T1:TS} {h h1:Heap} (x:Ext Nil as T h as1 T1 h1) (hr1:HR S as1 T1 H' h1) {I:Addr} (hI:h1.get? I=none):h.get? I=none:=by
  cases hz:h.get? I with
  | none=>rfl
  | some o =>
    by_cases hm:I∈owned as
    · obtain⟨q,hq⟩:=hr1.alive (owned_mono x.mono hm)
      rw [hI] at hq; first | exact nn hq | exact ff hq | cases hq
    · have:=x.kp I o hm (fun z=>z) hz
      rw [hI] at this; first | exact nn this | exact ff this | cases this
theorem Ext.off {X:Addr→Prop} {as as1:As} {T T1:TS} {h h1 h2:Heap} {I:Addr} (x:Ext X as T h as1 T1 h1) (k:∀ b o,b≠I→h1.get? b=some o→h2.get? b=some o) (hI:h.get? I=none) (hX:¬ X I):Ext X as T h as1 T1 h2 :=
  ⟨x.mono,fun b o n1 n2 e=>k b o (fun q=>by rw [q,hI] at e; cases e) (x.kp b o n1 n2 e),fun b hb e=>by
    obtain⟨o,ho⟩:=Option.isSome_iff_exists.mp (x.al b hb e)
    rw [k b o (fun q=>hX (q▸hb)) ho]; rfl,x.own⟩
theorem HR.iter {it:It} {I:Addr} (hr:HR S as T H h) (x:IR S as T h it I) (f:Free S as env I) (k:Heap.ExtBut I h h'):HR S as T H h' :=
  hr.but k f.own f.old (x.noT hr)
inductive FJ (S:Sur) (call:CallT) (s:Shared) (env:Env) (nm:Nms) (sl:Sl) (I:Addr) (as0:As) (T0:TS) (h0:Heap) (t:CT) (b:List MS) (fl:Fl) (l':Lo) (H':Hp) (n:Nat):Shared→Prop where
  | mk (hn:Heap) (tkn:_) (asn:As) (Tn:TS) (ln:Lo) (Hn:Hp) (itn:It) (x:Ext (EX env) as0 T0 h0 asn Tn hn) (r:HR S asn Tn Hn hn) (er:ER S asn Tn env nm sl ln hn) (ir:IR S asn Tn hn itn I) (f:Free S asn env I) (e:forN t (fun l H=>exB S.P call b l H) n itn ln Hn=some (fl,l',H')):FJ S call s env nm sl I as0 T0 h0 t b fl l' H' n { s with heap:=hn,toks:=tkn }
theorem for_loop {t:CT} {b:List MS} (hb:BkS S call d b) {y:Expr} {z:List Stmt} {R:Result→Shared→Prop} {I:Addr} {it:It} {fl:Fl} {l':Lo} {n:Nat} {as0:As} {T0:TS} {h0:Heap} (ao:AOk A d) (c1:ctIs nm sl t y=true) (c4:chB S.G b nm sl z=true) (er:ER S as T env nm sl l s.heap) (hr:HR S as T H s.heap)
    (ir:IR S as T s.heap it I) (f:Free S as env I) (x0:Ext (EX env) as0 T0 h0 as T s.heap) (hI0:h0.get? I=none) (e:forN t (fun l H=>exB S.P call b l H) n it l H=some (fl,l',H'))
    (q:∀ h' tk as' T' g,Ext (EX env) as0 T0 h0 as' T' h'→HR S as' T' H' h'→ER S as' T' env nm sl l' h'→FlR S as' T' fl g→R (.ok g) { s with heap:=h',toks:=tk }):codeAny (model S.prog S.w) A (.forLoop y (.ref I) z [] env) R s:=by
  refine codeAny_forLoop_any (FJ S call s env nm sl I as0 T0 h0 t b fl l' H') (fun n s1 hI=>?_) n (.mk s.heap s.toks as T l H it x0 hr er ir f e)
  obtain⟨hn,tkn,asn,Tn,ln,Hn,itn,xn,hrn,ern,irn,fn,e⟩:=hI
  generalize notedBy (model S.prog S.w) A env (fun e s'=>R (.error e) s')=E1
  cases n with
  | zero=>rw [forN_1] at e; first | exact nn e | exact ff e | cases e
  | succ n =>
    rcases forN_inv e with⟨hnx,e⟩ | ⟨u,it',l3,f,l5,H5,hnx,h3e,e5,e⟩
    · first | exact ff e | exact nn e | cases e
      refine next_ok hnx irn fn.own hrn ao.handled fun h3 k3=>?_
      exact wpAny_execs_nil (q _ _ _ _ _ (xn.off k3 hI0 fn.nex) (hrn.iter irn fn k3) (ern.but fn k3) .next)
    · refine next_ok hnx irn fn.own hrn ao.handled fun wu h3 tk3 k3 ir3 ru=>own_go ir3 ?_
      have x3:=xn.off k3 hI0 fn.nex
      refine as_ct (call:=call) (d:=d) t (setCT_asg h3e) ao (ct_ch c1) (ern.but fn k3) (hrn.iter irn fn k3) ru fun h4 tk4 as4 T4 x4 hr4 er4=>?_
      obtain⟨o3,ho3,_⟩:=ir3.alive
      have fn4:=fn.ext x4 ho3
      have ir4:=ir3.ext x4 fn.own fn.nex
      obtain⟨o4,ho4,_⟩:=ir4.alive
      refine hb e5 ao c4 er4 hr4 fun h5 tk5 as5 T5 f x5 hr5 er5 fr=>?_
      rcases e with⟨hf,e⟩ | ⟨rfl,e⟩ | ⟨uu,rfl,e⟩
      · rcases flow_goes hf fr with rfl | rfl <;> exact⟨n,Nat.lt_succ_self n,.mk h5 _ as5 T5 _ _ _ ((x3.trans x4).trans x5) hr5 er5 (ir4.ext x5 fn4.own fn4.nex) (fn4.ext x5 ho4) e⟩
      · cases e; cases fr
        exact q _ _ _ _ _ ((x3.trans x4).trans x5) hr5 er5 .next
      · first | exact ff e | exact nn e | cases e
        cases fr with
        | ret vr=>exact q _ _ _ _ _ ((x3.trans x4).trans x5) hr5 er5 (.ret vr)
theorem st_for {t:CT} {e0:ME} {b:List MS} (h0:EvS S call d e0) (hb:BkS S call d b):StS S call d (.for t e0 b):=by
  intro l l' H H' fl e nm sl x s as T env A E Q ao c er hr q
  refine ex_for_k e fun v H1 it e1 hit e=>?_
  refine cs_for_k c fun y z w p c1 c2 c3 c4=>?_
  refine wpAny_For (h0 e1 ao c3 er hr fun w h1 tk1 as1 T1 x1 hr1 vr=>?_) (set_folded c2 env)
  have er1:=er.ext x1
  refine iter_ok hit hr1 vr fun I h2 hI kp2 ir2=>?_
  exact for_loop hb ao c1 c4 (er1.ext (T':=T1) (as':=as1) (.keep kp2)) (hr1.keep kp2) ir2 (er1.fresh hr1 hI) ((x1.trans (.keep kp2)).nil er.exo) (x1.dead hr1 hI) e fun h' tk as' T' g a b c d=>q h' tk as' T' g a b c d
end
end Mine
namespace Mine
section
variable {S:Sur} {call:CallT} {d:Nat} {as as':As} {T T':TS} {H H':Hp} {h h':Heap} {s:Shared} {env:Env} {nm:Nms} {sl:Sl} {l:Lo} {A:Around} {E:Value→Shared→Prop}
theorem Ext.close {X:Addr→Prop} {as as1 as2:As} {T T1 T2:TS} {h h1 h2:Heap} (x:Ext Nil as T h as1 T1 h1) (y:Ext X as1 T1 h1 as2 T2 h2) (hX:∀ b,X b→h.get? b=none):Ext Nil as T h as2 T2 h2:=by
  refine⟨x.mono.trans y.mono,fun b o n1 n2 e=>?_,fun b hb=>hb.elim,fun b hb=>?_⟩
  · have e1:=x.kp b o n1 n2 e
    refine y.kp b o (fun hb=>?_) (fun q=>by rw [hX b q] at e; cases e) e1
    rcases x.own b hb with q | q
    · exact n1 q
    · rw [q] at e; first | exact nn e | exact ff e | cases e
  · rcases y.own b hb with q | q
    · exact x.own b q
    · cases e:h.get? b with
      | none=>exact .inr rfl
      | some o =>
        by_cases ho:b∈owned as
        · exact .inl ho
        · have:=x.kp b o ho (fun z=>z) e; rw [q] at this; first | exact nn this | exact ff this | cases this
theorem strIn_mem {x:Str}:∀ {l:List Str},strIn x l=true↔x∈l
  | []=>by simp [strIn_1,strIn_2]
  | y::r=>by simp only [strIn_1,strIn_2,Bool.or_eq_true,beq_iff_eq,List.mem_cons,strIn_mem]
theorem ndStr_nodup:∀ {l:List Str},ndStr l=true→l.Nodup
  | [],_=>.nil
  | x::r,h=>by
    simp only [ndStr_1,ndStr_2,Bool.and_eq_true,Bool.not_eq_true'] at h
    refine List.nodup_cons.mpr ⟨fun q=>?_,ndStr_nodup h.2⟩
    rw [strIn_mem.mpr q] at h; cases h.1
theorem nd_lookup:∀ {nm:Nms} {x:Str} {k:NameKind},(nm.map (·.1)).Nodup→(x,k)∈nm→nm.lookup x=some k
  | (y,j)::r,x,k,hn,hm=>by
    obtain⟨h1,h2⟩:=List.nodup_cons.mp hn
    rw [List.lookup_cons]
    rcases List.mem_cons.mp hm with e | e
    · cases e; simp
    · have:x≠y:=fun q=>h1 (q▸List.mem_map.mpr ⟨_,e,rfl⟩)
      rw [beq_eq_false_iff_ne.mpr this]
      exact nd_lookup h2 e
theorem slots_mem:∀ {nm:Nms} {i:Nat} {x:Str} {b:Bool},(slotsOf nm)[i]? = some (some (x,b))→(x,kOf b)∈nm
  | [],i,x,b,e=>by simp [slotsOf_1,slotsOf_2] at e
  | (y,k)::r,i,x,b,e=>by
    rw [slotsOf_2] at e
    cases k <;> try exact .tail _ (slots_mem e)
    · cases i with
      | zero=>simp at e; obtain⟨rfl,rfl⟩:=e; exact .head _
      | succ i=>exact .tail _ (slots_mem (by simpa using e))
    · cases i with
      | zero=>simp at e; obtain⟨rfl,rfl⟩:=e; exact .head _
      | succ i=>exact .tail _ (slots_mem (by simpa using e))
theorem slots_nd:∀ {nm:Nms},(nm.map (·.1)).Nodup→∀ {i j:Nat} {x:Str} {b c:Bool},(slotsOf nm)[i]? = some (some (x,b))→(slotsOf nm)[j]? = some (some (x,c))→i=j
  | [],_,i,_,_,_,_,e,_=>by simp [slotsOf_1,slotsOf_2] at e
  | (y,k)::r,hn,i,j,x,b,c,e1,e2=>by
    obtain⟨h1,h2⟩:=List.nodup_cons.mp hn
    have no:∀ {i:Nat} {c:Bool},(slotsOf r)[i]? = some (some (y,c))→False:=fun e=>h1 (List.mem_map.mpr ⟨_,slots_mem e,rfl⟩)
    rw [slotsOf_2] at e1 e2
    cases k <;> try exact slots_nd h2 e1 e2
    · cases i <;> cases j
      · rfl
      · simp at e1 e2; obtain⟨rfl,rfl⟩:=e1; exact(no e2).elim
      · simp at e1 e2; obtain⟨rfl,rfl⟩:=e2; exact(no e1).elim
      · rename_i i j
        exact congrArg (· + 1) (slots_nd h2 (i:=i) (j:=j) (x:=x) (b:=b) (c:=c) (by simpa using e1) (by simpa using e2))
    · cases i <;> cases j
      · rfl
      · simp at e1 e2; obtain⟨rfl,rfl⟩:=e1; exact(no e2).elim
      · simp at e1 e2; obtain⟨rfl,rfl⟩:=e2; exact(no e1).elim
      · rename_i i j
        exact congrArg (· + 1) (slots_nd h2 (i:=i) (j:=j) (x:=x) (b:=b) (c:=c) (by simpa using e1) (by simpa using e2))
theorem bindL_other {kd:Str→Option NameKind} {x:Str}:∀ {ps:List Str} {ws:List Value} {m:Str→Option Value},x ∉ ps→bindL kd (ps.zip ws) m x=m x
  | [],_,_,_=>rfl
  | _::_,[],_,_=>rfl
  | p::ps,w::ws,m,h=>by
    rw [List.zip_cons_cons,bindL,bindL_other (fun q=>h (.tail _ q))]
    split
    · show(if x=p then some w else m x)=m x
      rw [if_neg (fun q:x=p=>h (by rw [q]; exact .head _))]
    · rfl
theorem bindL_get {kd:Str→Option NameKind} {x:Str} {w:Value}:∀ {ps:List Str} {ws:List Value} {m:Str→Option Value} {i:Nat},ps.Nodup→ps[i]? = some x→ws[i]? = some w→kd x=some .local→bindL kd (ps.zip ws) m x=some w
  | [],_,_,_,_,e,_,_=>by simp at e
  | _::_,[],_,_,_,_,e,_=>by simp at e
  | p::ps,u::ws,m,0,hn,e1,e2,hk=>by
    simp at e1 e2; subst e1; subst e2
    rw [List.zip_cons_cons,bindL,bindL_other (List.nodup_cons.mp hn).1,if_pos hk,if_pos rfl]
  | p::ps,u::ws,m,i+1,hn,e1,e2,hk=>by
    rw [List.zip_cons_cons,bindL]
    exact bindL_get (List.nodup_cons.mp hn).2 (by simpa using e1) (by simpa using e2) hk
theorem bindC_other {kd:Str→Option NameKind} {x:Str}:∀ {ps:List Str} {ws:List Value} {m:Str→Option Value},x ∉ ps→bindC kd (ps.zip ws) m x=m x
  | [],_,_,_=>rfl
  | _::_,[],_,_=>rfl
  | p::ps,w::ws,m,h=>by
    rw [List.zip_cons_cons,bindC,bindC_other (fun q=>h (.tail _ q))]
    split
    · rfl
    · show(if x=p then some w else m x)=m x
      rw [if_neg (fun q:x=p=>h (by rw [q]; exact .head _))]
theorem bindC_get {kd:Str→Option NameKind} {x:Str} {w:Value}:∀ {ps:List Str} {ws:List Value} {m:Str→Option Value} {i:Nat},ps.Nodup→ps[i]? = some x→ws[i]? = some w→kd x=some .cell→bindC kd (ps.zip ws) m x=some w
  | [],_,_,_,_,e,_,_=>by simp at e
  | _::_,[],_,_,_,_,e,_=>by simp at e
  | p::ps,u::ws,m,0,hn,e1,e2,hk=>by
    simp at e1 e2; subst e1; subst e2
    rw [List.zip_cons_cons,bindC,bindC_other (List.nodup_cons.mp hn).1,if_neg (by rw [hk]; intro q; cases q),if_pos rfl]
  | p::ps,u::ws,m,i+1,hn,e1,e2,hk=>by
    rw [List.zip_cons_cons,bindC]
    exact bindC_get (List.nodup_cons.mp hn).2 (by simpa using e1) (by simpa using e2) hk
theorem cells_some:∀ {nm:Nms} {n:Nat} {acc:List (Str×Addr)} {x:Str},((x,NameKind.cell)∈nm∨(acc.lookup x).isSome=true)→((cellsFrom n nm acc).lookup x).isSome=true
  | [],_,_,_,h=>by rcases h with h | h; simp at h; exact h
  | (y,k)::r,n,acc,x,h=>by
    unfold cellsFrom
    split
    · refine cells_some ?_
      rcases h with h | h
      · rcases List.mem_cons.mp h with e | e
        · cases e; right; simp [List.lookup_cons]
        · exact .inl e
      · right
        rw [List.lookup_cons]
        split
        · rfl
        · exact h
    · rename_i hk
      refine cells_some ?_
      rcases h with h | h
      · rcases List.mem_cons.mp h with e | e
        · cases e; exact absurd rfl hk
        · exact .inl e
      · exact .inr h
theorem zip_lookup:∀ {ps:List Str} {ws:List Value},ps.Nodup→ws.length=ps.length→ps.filterMap (fun n=>((ps.zip ws).lookup n).map (n,·))=ps.zip ws:=by
  have gen:∀(ps:List Str) (ws:List Value) (f:Str→Option Value),ps.Nodup→ws.length=ps.length→(∀(i:Nat) (x:Str) (w:Value),ps[i]? = some x→ws[i]? = some w→f x=some w)→ps.filterMap (fun n=>(f n).map (n,·))=ps.zip ws:=by
    intro ps
    induction ps with
    | nil=>intro ws f _ _ _; rfl
    | cons p ps ih =>
      intro ws f hn hl hf
      cases ws with
      | nil=>simp at hl
      | cons w ws =>
        rw [List.filterMap_cons,hf 0 p w rfl rfl,List.zip_cons_cons]
        show(p,w)::_=_
        rw [ih ws f (List.nodup_cons.mp hn).2 (by simpa using hl) fun i x u e1 e2=>hf (i+1) x u (by simpa using e1) (by simpa using e2)]
  intro ps ws hn hl
  refine gen ps ws _ hn hl ?_
  have look:∀(ps:List Str) (ws:List Value) (i:Nat) (x:Str) (w:Value),ps.Nodup→ps[i]? = some x→ws[i]? = some w→(ps.zip ws).lookup x=some w:=by
    intro ps
    induction ps with
    | nil=>intro ws i x w _ e; simp at e
    | cons p ps ih =>
      intro ws i x w hn e1 e2
      cases ws with
      | nil=>simp at e2
      | cons u ws =>
        rw [List.zip_cons_cons,List.lookup_cons]
        cases i with
        | zero=>simp at e1 e2; subst e1; subst e2; simp
        | succ i =>
          have hne:x≠p:=fun q=>(List.nodup_cons.mp hn).1 (q▸List.mem_of_getElem? (by simpa using e1))
          rw [beq_eq_false_iff_ne.mpr hne]
          exact ih ws i x w (List.nodup_cons.mp hn).2 (by simpa using e1) (by simpa using e2)
  exact fun i x w e1 e2=>look ps ws i x w hn e1 e2
theorem lookup_zip_some {ps:List Str} {ws:List Value} (hl:ws.length=ps.length):∀ n∈ps,((ps.zip ws).lookup n).isNone=false:=by
  induction ps generalizing ws with
  | nil=>intro n h; simp at h
  | cons p ps ih =>
    intro n h
    cases ws with
    | nil=>simp at hl
    | cons w ws =>
      rw [List.zip_cons_cons,List.lookup_cons]
      split
      · rfl
      · rename_i hb
        refine ih (by simpa using hl) n ?_
        rcases List.mem_cons.mp h with e | e
        · subst e; simp at hb
        · exact e
theorem binds_plain {fd:FuncData} {ws:List Value} (h1:fd.params.posonlyargs=[]) (h2:fd.params.vararg=none) (h3:fd.params.kwonlyargs=[]) (h4:fd.params.kwarg=none) (h5:fd.defaults=.none) (hn:(fd.params.args.map (·.arg)).Nodup)
    (hl:ws.length=fd.params.args.length):bindArgs fd ⟨ws,[]⟩=pure ((fd.params.args.map (·.arg)).zip ws):=by
  have hl':ws.length=(fd.params.args.map (·.arg)).length:=by rw [List.length_map]; exact hl
  have hm:((fd.params.args.map (·.arg)).take ((fd.params.args.map (·.arg)).length)).filter (fun n=>(((fd.params.args.map (·.arg)).zip ws).lookup n).isNone)=[]:=by
    rw [List.take_length,List.filter_eq_nil_iff]
    intro n hn'
    rw [lookup_zip_some hl' n hn']; simp
  have hs:seqItems? Value.none=pure none:=rfl
  have hg:decide (ws.length > (fd.params.args.map (·.arg)).length)=false:=decide_eq_false (by omega)
  unfold bindArgs
  simp only [h1,h2,h3,h4,h5,hs,List.map_nil,List.nil_append,List.append_nil,List.forIn_nil,pure_bind]
  simp only [Option.getD_none,Array.toList_empty,List.length_nil,List.drop_nil,List.zip_nil_right,List.forIn_nil,Nat.zero_sub,Nat.sub_zero,hg,Bool.false_and,Bool.false_eq_true,if_false,hm,List.isEmpty_nil,Bool.not_true,pure_bind]
  rw [zip_lookup hn hl']
end
end Mine
namespace Mine
section
variable {S:Sur} {as as':As} {T T':TS} {H H':Hp} {h h':Heap} {s:Shared} {env:Env} {nm:Nms} {sl:Sl} {l:Lo} {A:Around} {E:Value→Shared→Prop}
theorem args_are:∀ {ps:List Arg} {sl:Sl},argsAre ps sl=true→∀ {i:Nat} {a:Arg},ps[i]? = some a→∃ b,sl[i]? = some (some (a.arg,b))
  | [],_,_,i,a,e=>by simp at e
  | p::ps,[],h,_,_,_=>ff h
  | p::ps,none::sl,h,_,_,_=>ff h
  | p::ps,some (x,b)::sl,h,i,a,e=>by
    simp only [argsAre_1,argsAre_2,Bool.and_eq_true] at h
    cases i with
    | zero=>simp at e; subst e; exact⟨b,by rw [beq_iff_eq.mp h.1]; rfl⟩
    | succ i =>
      obtain⟨c,hc⟩:=args_are h.2 (i:=i) (a:=a) (by simpa using e)
      exact⟨c,by simpa using hc⟩
theorem args_nd:∀ {ps:List Arg} {sl:Sl},argsAre ps sl=true→(∀ {i j:Nat} {x:Str} {b c:Bool},sl[i]? = some (some (x,b))→sl[j]? = some (some (x,c))→i=j)→(ps.map (·.arg)).Nodup
  | [],_,_,_=>.nil
  | p::ps,[],h,_=>ff h
  | p::ps,none::sl,h,_=>ff h
  | p::ps,some (x,b)::sl,h,hn=>by
    have h':=h
    simp only [argsAre_1,argsAre_2,Bool.and_eq_true] at h'
    rw [List.map_cons]
    refine List.nodup_cons.mpr ⟨fun q=>?_,args_nd h'.2 fun {i j x b c} e1 e2=>?_⟩
    · obtain⟨a,ha,he⟩:=List.mem_map.mp q
      obtain⟨i,hi⟩:=List.getElem?_of_mem ha
      obtain⟨c,hc⟩:=args_are h'.2 hi
      have:=hn (i:=0) (j:=i+1) (x:=p.arg) (b:=b) (c:=c) (by rw [beq_iff_eq.mp h'.1]; rfl) (by rw [← he]; simpa using hc)
      exact lin [_] (.c 1 (.a (.v 0) (.n 1)) (.n 0) .z) rfl (Nat.le_of_eq (Eq.symm this))
    · have:=hn (i:=i+1) (j:=j+1) (x:=x) (b:=b) (c:=c) (by simpa using e1) (by simpa using e2)
      exact Nat.le_antisymm (Nat.not_lt.mp (lin [_,_] (.c 1 (.a (.v 0) (.n 1)) (.a (.v 1) (.n 1)) (.c 1 (.a (.v 1) (.n 1)) (.v 0) .z)) rfl (Nat.le_of_eq this))) (Nat.not_lt.mp (lin [_,_] (.c 1 (.a (.v 0) (.n 1)) (.a (.v 1) (.n 1)) (.c 1 (.a (.v 1) (.n 1)) (.v 0) .z)) rfl (Nat.le_of_eq (Eq.symm this))))
theorem bad_body:∀ {b:List MS},badBody b=true→b=[.bad]
  | [.bad],_=>rfl
theorem frame_ok {fd:FuncData} {fi:FI} {a:Addr} {vs:List V} {ws:List Value} {s1:Shared} (hr:HR S as T H s.heap) (vv:VRs S.fa as T vs ws) (hlen:vs.length=fi.np) (h1:fd.globals=mainGlobals) (h2:fd.builtins=builtinsNs)
    (h3:kindIs0 fd.scope=true) (h4:fd.params.args.length=fi.np) (h5:(slotsOf fd.scope.names).length=fi.ns) (h6:argsAre fd.params.args (slotsOf fd.scope.names)=true) (h7:(fd.scope.names.map (·.1)).Nodup) (hpn:(fd.params.args.map (·.arg)).Nodup) (hle:fi.np≤fi.ns)
    (x:InCallC s (callEnvC fd s.heap.objs.size a).locals (bindL (callEnvC fd s.heap.objs.size a).kindOf ((fd.params.args.map (·.arg)).zip ws) fun _=>none) (callEnvC fd s.heap.objs.size a).cells
        (bindC (callEnvC fd s.heap.objs.size a).kindOf ((fd.params.args.map (·.arg)).zip ws) fun _=>none) s1) :
    ER S as T (callEnvC fd s.heap.objs.size a) fd.scope.names (slotsOf fd.scope.names) (vs.map some++List.replicate (fi.ns - fi.np) none) s1.heap:=by
  have fresh:∀ b,s.heap.objs.size≤b→s.heap.get? b=none:=fun b hb=>by
    cases e:s.heap.get? b with
    | none=>rfl
    | some o=>exact absurd (Heap.lt_size e) (Nat.not_lt.mpr hb)
  have fr:∀ b,s.heap.get? b=none→b ∉ owned as∧S.h0.get? b=none:=fun b hb=>by
    refine⟨fun q=>?_,?_⟩
    · obtain⟨o,ho⟩:=hr.alive q; rw [hb] at ho; first | exact nn ho | exact ff ho | cases ho
    · cases e:S.h0.get? b with
      | none=>rfl
      | some o=>have:=hr.base b o e; rw [hb] at this; first | exact nn this | exact ff this | cases this
  simp only [kindIs0,Bool.and_eq_true] at h3
  obtain⟨⟨⟨k1,k2⟩,k3⟩,k4⟩:=h3
  have kf:fd.scope.kind=.function:=by
    split at k2
    · rename_i e; exact e
    · first | exact ff k2 | exact nn k2 | cases k2
  have at_:∀ {i:Nat} {v:V} {z:Str} {b:Bool},(vs.map some++List.replicate (fi.ns - fi.np) none)[i]? = some (some v)→(slotsOf fd.scope.names)[i]? = some (some (z,b))→∃ w,vs[i]? = some v∧ws[i]? = some w∧VR S.fa as T v w∧(fd.params.args.map (·.arg))[i]? = some z:=by
    intro i v z b e1 e2
    by_cases hi:i<vs.length
    · rw [List.getElem?_append_left (by rw [List.length_map]; exact hi),List.getElem?_map] at e1
      obtain⟨v',h',h''⟩:=Option.map_eq_some_iff.mp e1
      cases h''
      obtain⟨w,hw,vr⟩:=vv.get _ h'
      obtain⟨p,hp⟩:∃ p,fd.params.args[i]? = some p:=⟨_,List.getElem?_eq_getElem (by exact Nat.not_le.mp (lin [_,_,_,_] (.c 1 (.v 0) (.v 1) (.c 1 (.v 1) (.v 2) (.c 1 (.a (.v 3) (.n 1)) (.v 0) (.c 1 (.v 2) (.v 3) .z)))) rfl (Nat.le_of_eq hlen) (Nat.le_of_eq (Eq.symm h4)) hi))⟩
      obtain⟨c,hc⟩:=args_are h6 hp
      rw [e2] at hc; first | exact nn hc | exact ff hc | cases hc
      exact⟨w,h',hw,vr,by rw [List.getElem?_map,hp]; rfl⟩
    · rw [List.getElem?_append_right (by rw [List.length_map]; exact Nat.not_lt.mp (lin [_,_] (.c 1 (.v 0) (.v 1) (.c 1 (.a (.v 1) (.n 1)) (.v 0) .z)) rfl (Nat.not_lt.mp hi))),List.getElem?_replicate] at e1
      split at e1 <;> cases e1
  have kd:∀ {i:Nat} {z:Str} {b:Bool},(slotsOf fd.scope.names)[i]? = some (some (z,b))→(callEnvC fd s.heap.objs.size a).kindOf z=some (kOf b):=fun e=>nd_lookup h7 (slots_mem e)
  refine⟨kf,h1,h2,rfl,k1,?_,fun i j y b c e1 e2=>slots_nd h7 e1 e2,⟨_,x.toInCall.ns,fun i v y e1 e2=>?_⟩,fun i y e1=>?_,fun y z c e1 e2=>?_,fun y c e1=>⟨_,x.cell y c e1⟩,fr _ (fresh _ x.toInCall.fresh),fun y c e1=>?_⟩
  · rw [List.length_append,List.length_map,List.length_replicate,h5]; omega
  · obtain⟨w,g1,g2,g3,g4⟩:=at_ e1 e2
    exact⟨w,bindL_get hpn g4 g2 (kd e2),g3⟩
  · obtain⟨c,hc⟩:=Option.isSome_iff_exists.mp (cells_some (n:=s.heap.objs.size+1) (acc:=[]) (x:=y) (nm:=fd.scope.names) (.inl (slots_mem e1)))
    refine⟨c,_,hc,x.cell y c hc,fun v hv=>?_⟩
    obtain⟨w,g1,g2,g3,g4⟩:=at_ hv e1
    exact⟨w,bindC_get hpn g4 g2 (kd e1),g3⟩
  · exact name_of_addr x.apart (mem_of_lookup e1) (mem_of_lookup e2)
  · have:=x.above y c (mem_of_lookup e1)
    exact fr _ (fresh _ (Nat.le_trans x.toInCall.fresh (Nat.le_of_lt this)))
theorem deeper_ok {d:Nat} (ao:AOkC A (d+1)) (env:Env):AOk (A.deeper env) d:=by
  refine⟨ao.handled,?_,?_⟩
  · have:=ao.depth
    show A.depth+1+4 * d+8≤1000
    exact Nat.not_lt.mp (lin [_,_] (.c 1 (.a (.a (.v 0) (.m 4 (.a (.v 1) (.n 1)))) (.n 6)) (.n 1000) (.c 1 (.a (.n 1000) (.n 1)) (.a (.a (.a (.v 0) (.n 1)) (.m 4 (.v 1))) (.n 8)) .z)) rfl this)
  · have:=ao.units
    show A.units+3+32 * d+200≤9900
    exact Nat.not_lt.mp (lin [_,_] (.c 1 (.a (.a (.v 0) (.m 32 (.a (.v 1) (.n 1)))) (.n 180)) (.n 9900) (.c 1 (.a (.n 9900) (.n 1)) (.a (.a (.a (.v 0) (.n 3)) (.m 32 (.v 1))) (.n 200)) .z)) rfl this)
theorem call_ok (C:Cx S) (hB:∀ d,CallOk S (callF S.P d) d→∀ b,BkS S (callF S.P d) d b):∀ d,CallOk S (callF S.P d) d:=by
  intro d
  induction d with
  | zero=>intro k vs H H' v e; rw [callF_1] at e; first | exact nn e | exact ff e | cases e
  | succ d ih =>
    intro k vs H H' v e A s as T R a ws ao ha hr vv q
    rw [callF_2] at e
    split at e
    · rename_i fi hfi
      split at e
      · rename_i hlen
        obtain⟨a',ha',ck⟩:=C.fns k fi hfi
        rw [ha] at ha'; cases ha'
        obtain⟨fl,l2,e1,hfl⟩:∃ fl l2,exB S.P (callF S.P d) fi.body (vs.map some++List.replicate (fi.ns - fi.np) none) H=some (fl,l2,H')∧((fl=.next∧v=.none)∨fl=.ret v):=by
          split at e
          · rename_i v' l2 H2 e2; cases e; exact⟨_,_,e2,.inr rfl⟩
          · rename_i l2 H2 e2; cases e; exact⟨_,_,e2,.inl ⟨rfl,rfl⟩⟩
          · first | exact ff e | exact nn e | cases e
        unfold chK at ck
        simp only [Bool.or_eq_true] at ck
        rcases ck with ck | ck
        · rw [bad_body ck] at e1
          rw [exB_2,exS] at e1; cases e1
        · split at ck
          · rename_i c0 d0 fd sl0 hk
            unfold chFd at ck
            simp only [Bool.and_eq_true,decide_eq_true_eq,beq_iff_eq,List.isEmpty_iff,Option.isNone_iff_eq_none] at ck
            obtain⟨⟨⟨⟨⟨⟨⟨⟨⟨⟨⟨⟨⟨⟨c1,c2⟩,c3⟩,c4⟩,c5⟩,c6⟩,c7⟩,c8⟩,c9⟩,c10⟩,c11⟩,c12⟩,c13⟩,c14⟩,c15⟩:=ck
            split at c14
            · rename_i body hbody
              have c5':fd.defaults=.none:=by split at c5; rename_i e; exact e; cases c5
              have X:=C.X.keeps hr.base
              have hn7:=ndStr_nodup c13
              have hle:fi.np≤fi.ns:=by
                rw [← c10,← c11]
                by_cases hz:fd.params.args.length=0
                · exact Nat.not_lt.mp (lin [_,_] (.c 1 (.v 0) (.n 0) (.c 1 (.a (.v 1) (.n 1)) (.v 0) .z)) rfl (Nat.le_of_eq hz))
                · obtain⟨b,hb⟩:=args_are c12 (i:=fd.params.args.length - 1) (a:=fd.params.args[fd.params.args.length - 1]) (List.getElem?_eq_getElem (by omega))
                  have:=(List.getElem?_eq_some_iff.mp hb).1
                  omega
              have hpn:(fd.params.args.map (·.arg)).Nodup :=
                 args_nd c12 fun e1 e2=>slots_nd hn7 e1 e2
              have hl:ws.length=fd.params.args.length:=by rw [vv.length,hlen,c10]
              have hbind:=binds_plain (ws:=ws) c1 c2 c3 c4 c5' hpn hl
              have kk:=c9
              simp only [kindIs0,Bool.and_eq_true,Bool.not_eq_true'] at kk
              have kf:fd.scope.kind=.function:=by
                have:=kk.1.1.2
                split at this
                · rename_i e; exact e
                · first | exact ff this | exact nn this | cases this
              refine codeAny_call_cells (by have:=ao.depth; show A.depth<1000; exact Nat.not_le.mp (lin [_,_] (.c 1 (.a (.a (.v 0) (.m 4 (.a (.v 1) (.n 1)))) (.n 6)) (.n 1000) (.c 1 (.n 1000) (.v 0) .z)) rfl this)) (X _ _ hk) rfl (C.lim.keeps hr.base) (codeRec_of X c15) hbody hbind c6 (fun z hz=>?_) (fun s1 x=>?_) kk.2 kk.1.2 kf
              · obtain⟨z1,z2⟩:=z
                have hz1:=(List.of_mem_zip hz).1
                obtain⟨p,hp,rfl⟩:=List.mem_map.mp hz1
                obtain⟨i,hi⟩:=List.getElem?_of_mem hp
                obtain⟨b,hb⟩:=args_are c12 hi
                have hm:=slots_mem hb
                cases b with
                | false=>exact .inl (nd_lookup hn7 hm)
                | true=>exact .inr ⟨nd_lookup hn7 hm,cells_some (.inl hm)⟩
              · have er:=frame_ok hr vv hlen c7 c8 c9 c10 c11 c12 hn7 hpn hle x
                obtain⟨h1,tk1,hs1⟩:=x.toInCall.same
                have kp:=x.toInCall.keep
                subst hs1
                have x0:Ext Nil as T s.heap as T h1:=.keep kp
                refine hB d ih fi.body e1 (deeper_ok ao _) c14 er (hr.keep kp) fun h2 tk2 as2 T2 f x2 hr2 er2 fr=>?_
                have x02:Ext Nil as T s.heap as2 T2 h2:=x0.close x2 fun b hb=>by
                  have low:∀ c,s.heap.objs.size≤c→s.heap.get? c=none:=fun c hc=>by
                    cases e:s.heap.get? c with
                    | none=>rfl
                    | some o=>exact absurd (Heap.lt_size e) (Nat.not_lt.mpr hc)
                  rcases hb with rfl | ⟨y,hy⟩
                  · exact low _ x.toInCall.fresh
                  · exact low _ (Nat.le_trans x.toInCall.fresh (Nat.le_of_lt (x.above y b (mem_of_lookup hy))))
                rcases hfl with⟨rfl,rfl⟩ | rfl
                · first | exact ff fr | exact nn fr | cases fr
                  exact q _ _ _ _ _ x02 hr2 .none
                · cases fr with
                  | ret vr=>exact q _ _ _ _ _ x02 hr2 vr
            · first | exact ff c14 | exact nn c14 | cases c14
          · first | exact ff ck | exact nn ck | cases ck
      · first | exact ff e | exact nn e | cases e
    · first | exact ff e | exact nn e | cases e
end
end Mine
namespace Mine
noncomputable def clOf (cells:List (Str×Addr)):Nms→List (Str×Addr)→List (Str×Addr)
  | [],acc=>acc
  | (x,k)::r,acc=>match k with
    | .free=>(match cells.lookup x with | some c=>clOf cells r ((x,c)::acc) | none=>clOf cells r acc)
    | _=>clOf cells r acc
theorem clOf_1  {cells acc}:clOf cells ([]) acc=(acc):=rfl
theorem clOf_2  {cells x k r acc}:clOf cells ((x,k)::r) acc=(match k with
    | .free=>(match cells.lookup x with | some c=>clOf cells r ((x,c)::acc) | none=>clOf cells r acc)
    | _=>clOf cells r acc):=rfl
section
variable {S:Sur} {call:CallT} {d:Nat} {as as':As} {T T':TS} {H H':Hp} {h h':Heap} {s:Shared} {env:Env} {nm:Nms} {sl:Sl} {l:Lo} {A:Around} {E:Value→Shared→Prop}
theorem closure_fold {env:Env}:∀ {names:Nms} {acc:List (Str×Addr)},(∀ x,(x,NameKind.free)∈names→(env.cells.lookup x).isSome=true) →
    (forIn names acc (fun(p:Str×NameKind) (cs:List (Str×Addr))=>(if p.2 == .free then do let a ← cellOf env p.1; pure (ForInStep.yield ((p.1,a)::cs)) else pure (ForInStep.yield cs):Sem (ForInStep (List (Str×Addr))))))=pure (clOf env.cells names acc)
  | [],acc,_=>rfl
  | (x,k)::r,acc,h=>by
    rw [List.forIn_cons]
    have hr:∀ y,(y,NameKind.free)∈r→(env.cells.lookup y).isSome=true:=fun y hy=>h y (.tail _ hy)
    cases k with
    | free =>
      obtain⟨c,hc⟩:=Option.isSome_iff_exists.mp (h x (.head _))
      have:cellOf env x=pure c:=by unfold cellOf; rw [hc]
      simp only [beq_self_eq_true,if_true,this,pure_bind,clOf_1,clOf_2,hc]
      exact closure_fold hr
    | _ =>
      simp only [clOf_1,clOf_2]
      exact closure_fold hr
theorem closure_ok {sc:Scope} {env:Env} (h:∀ x,(x,NameKind.free)∈sc.names→(env.cells.lookup x).isSome=true):closureFor sc env=pure (clOf env.cells sc.names []):=by
  have:=closure_fold (acc:=[]) h
  unfold closureFor
  simp only [bind_pure]
  rw [← this]
theorem clOf_old {cells:List (Str×Addr)}:∀ {names:Nms} {acc:List (Str×Addr)} {x:Str} {c:Addr},(clOf cells names acc).lookup x=some c→cells.lookup x=some c∨acc.lookup x=some c
  | [],acc,x,c,e=>.inr e
  | (y,k)::r,acc,x,c,e=>by
    rw [clOf_2] at e
    split at e
    · split at e
      · rename_i c' hc
        rcases clOf_old e with q | q
        · exact .inl q
        · rw [List.lookup_cons] at q
          split at q
          · rename_i hb; cases q; exact .inl (beq_iff_eq.mp hb▸hc)
          · exact .inr q
      · exact clOf_old e
    · exact clOf_old e
theorem clOf_acc {cells:List (Str×Addr)}:∀ {names:Nms} {acc:List (Str×Addr)} {x:Str} {c:Addr},cells.lookup x=some c→acc.lookup x=some c→(clOf cells names acc).lookup x=some c
  | [],acc,x,c,_,e=>e
  | (y,k)::r,acc,x,c,h,e=>by
    rw [clOf_2]
    split
    · split
      · rename_i c' hc
        refine clOf_acc h ?_
        rw [List.lookup_cons]
        split
        · rename_i hb; rw [← beq_iff_eq.mp hb,h] at hc; rw [hc]
        · exact e
      · exact clOf_acc h e
    · exact clOf_acc h e
theorem clOf_free {cells:List (Str×Addr)}:∀ {names:Nms} {acc:List (Str×Addr)} {x:Str} {c:Addr},(x,NameKind.free)∈names→cells.lookup x=some c→(clOf cells names acc).lookup x=some c
  | [],acc,x,c,h,_=>by simp at h
  | (y,k)::r,acc,x,c,h,e=>by
    rw [clOf_2]
    rcases List.mem_cons.mp h with q | q
    · first | exact ff q | exact nn q | cases q
      simp only [e]
      exact clOf_acc e (by simp)
    · split
      · split
        · exact clOf_free q e
        · exact clOf_free q e
      · exact clOf_free q e
theorem loop_tests {elt target iter:Expr} {ifs:List Expr} {scope:Scope} {pos:Pos} {it acc:Value} {env:Env} {R:Result→Shared→Prop} (I:Nat→Shared→Prop)
    (turn:∀ n s,I n s→wpAny (model S.prog S.w) A (pyNext it) (fun r s₁=>match r with
      | none=>R (.ok .next) s₁
      | some v=>wpAny (model S.prog S.w) A (letOwnedTupleGo target it v) (fun _ s₁'=>wpAny (model S.prog S.w) A (assign target env v) (fun _ s₂ =>
          wpAny (model S.prog S.w) A (forIn ifs true fun c r=>if r=true then do let ok ← PySem.isTrue c env (eval c env); pure (ForInStep.yield ok) else pure (ForInStep.yield r)) (fun ok s₃ =>
            if ok=true then wpAny (model S.prog S.w) A (eval elt env) (fun x s₄ =>
              wpAny (model S.prog S.w) A (PySem.call (.builtin "list.append") [acc,x]) (fun _ s₅=>∃ m,m<n∧I m s₅) (notedBy (model S.prog S.w) A env fun e s'=>R (.error e) s') s₄) (notedBy (model S.prog S.w) A env fun e s'=>R (.error e) s') s₃
            else ∃ m,m<n∧I m s₃) (notedBy (model S.prog S.w) A env fun e s'=>R (.error e) s') s₂) (notedBy (model S.prog S.w) A env fun e s'=>R (.error e) s') s₁') (notedBy (model S.prog S.w) A env fun e s'=>R (.error e) s') s₁) (notedBy (model S.prog S.w) A env fun e s'=>R (.error e) s') s)
    (n:Nat) (h:I n s):codeAny (model S.prog S.w) A (.compLoop (.ListComp elt [⟨target,iter,ifs,0⟩] scope pos) 0 it acc env) R s:=by
  refine codeAny_loop rfl I (fun n s hI=>?_) n h
  show wpAny _ A ((compTurn (.ListComp elt [⟨target,iter,ifs,0⟩] scope pos) 0 it acc env).onRaise (fun x=>do noteFrame x env; theTreesLotGoes x)) _ _ s
  refine wpAny_noted ?_
  rw [compTurn_list]
  refine wpAny_bind (wpAny_standAt (wpAny_bind (wpAny_mono (turn n s hI) (fun r s₁ h₁=>?_) fun _ _ h'=>h')))
  cases r with
  | none=>exact wpAny_pure h₁
  | some v =>
    refine wpAny_bind (wpAny_mono h₁ (fun _ s₁' h₁'=>?_) fun _ _ h'=>h')
    refine wpAny_bind (wpAny_mono h₁' (fun _ s₂ h₂=>wpAny_bind (wpAny_mono h₂ (fun ok s₃ h₃=>?_) fun _ _ h'=>h')) fun _ _ h'=>h')
    cases ok with
    | false=>exact wpAny_pure ⟨rfl,h₃⟩
    | true =>
      exact wpAny_bind (wpAny_bind (wpAny_mono h₃ (fun x s₄ h₄=>wpAny_bind (wpAny_mono h₄ (fun _ s₅ h₅=>wpAny_pure (wpAny_pure ⟨rfl,h₅⟩)) fun _ _ h'=>h')) fun _ _ h'=>h'))
theorem tests_false {env:Env} {Q:Bool→Shared→Prop}:∀ {xs:List Expr},Q false s →
    wpAny (model S.prog S.w) A (forIn xs false fun c r=>if r=true then do let ok ← PySem.isTrue c env (eval c env); pure (ForInStep.yield ok) else pure (ForInStep.yield r)) Q E s
  | [],q=>wpAny_pure q
  | x::r,q=>by
    rw [List.forIn_cons]
    refine wpAny_bind ?_
    rw [if_neg (by decide)]
    exact wpAny_pure (tests_false q)
theorem tests_ok:∀ {cs:List ME},AllEv S call d cs→∀ {l:Lo} {H H':Hp} {b:Bool},evC S.P call cs l H=some (b,H') →
    ∀ ⦃nm:Nms⦄ ⦃sl:Sl⦄ ⦃xs:List Expr⦄ ⦃s:Shared⦄ ⦃as:As⦄ ⦃T:TS⦄ ⦃env:Env⦄ ⦃A:Around⦄ ⦃E:Value→Shared→Prop⦄ ⦃Q:Bool→Shared→Prop⦄,AOk A d→chL S.G cs nm sl xs=true→ER S as T env nm sl l s.heap→HR S as T H s.heap →
    RetB S as T s H' b Q→wpAny (model S.prog S.w) A (forIn xs true fun c r=>if r=true then do let ok ← PySem.isTrue c env (eval c env); pure (ForInStep.yield ok) else pure (ForInStep.yield r)) Q E s
  | [],_,_,_,_,_,e=>by
    intro nm sl xs s as T env A E Q ao c er hr q
    rw [evC_1] at e; first | exact nn e | exact ff e | cases e
    cases xs with
    | nil=>exact wpAny_pure (q s.heap s.toks as T (.refl ..) hr)
    | cons=>simp [chL_1,chL_2] at c
  | e0::r,hA,_,_,_,_,e=>by
    intro nm sl xs s as T env A E Q ao c er hr q
    obtain⟨_,he,hr'⟩:=hA
    rw [evC_2] at e
    refine bnd_some_k e fun a H1 e1 e=>?_
    cases xs with
    | nil=>simp [chL_1,chL_2] at c
    | cons x ys =>
      simp only [chL_1,chL_2,Bool.and_eq_true] at c
      rw [List.forIn_cons]
      refine wpAny_bind ?_
      rw [if_pos rfl]
      split at e
      · refine wpAny_bind (he e1 ao c.1.2 er hr fun h1 tk1 as1 T1 x1 hr1=>wpAny_pure ?_)
        exact tests_ok hr' e ao c.2 (er.ext x1) hr1 (q.from x1)
      · first | exact ff e | exact nn e | cases e
        refine wpAny_bind (he e1 ao c.1.2 er hr fun h1 tk1 as1 T1 x1 hr1=>wpAny_pure ?_)
        exact tests_false (q _ _ _ _ x1 hr1)
      · first | exact ff e | exact nn e | cases e
theorem HR.adopt {S:Sur} {as:As} {T:TS} {H:Hp} {h:Heap} {D:Addr} {vs:List V} {ws:List Value} {k:Nat} (x:HR S as T H h) (e:h.get? D=some (lst ws k)) (ho:D ∉ owned as) (h0:S.h0.get? D=none) (hg:sysModules<D) (hv:VRs S.fa as T vs ws) (hl:vs.length≤lim) :
    HR S (as++[(D,none)]) T (H++[.list vs]) h∧VR S.fa (as++[(D,none)]) T (.loc H.length) (.ref D):=by
  have m:Mono as T (as++[(D,none)]) T:=⟨fun n q e=>getElem?_append_some e,fun _ _ e=>e⟩
  refine⟨⟨x.base,by simp [x.len],fun n q r e1 e2=>?_,?_,fun a ha=>?_,x.im,x.t0,x.ro,x.two,fun a ha=>?_⟩,?_⟩
  · by_cases hn:n<H.length
    · rw [List.getElem?_append_left hn] at e1
      rw [List.getElem?_append_left (by rw [x.len]; exact hn)] at e2
      exact(x.obj n q r e1 e2).keep m (fun _ z=>z) (fun _ _ _ z=>z)
    · have:n=H.length:=by
        have:=(List.getElem?_eq_some_iff.mp e1).1; simp at this; exact Nat.le_antisymm (Nat.not_lt.mp (lin [_,_] (.c 1 (.a (.v 0) (.n 1)) (.a (.v 1) (.n 1)) (.c 1 (.a (.v 1) (.n 1)) (.v 0) .z)) rfl this)) (Nat.not_lt.mp (lin [_,_] (.c 1 (.v 0) (.v 1) (.c 1 (.a (.v 1) (.n 1)) (.v 0) .z)) rfl (Nat.not_lt.mp hn)))
      subst this
      rw [List.getElem?_append_right (Nat.le_refl _),Nat.sub_self] at e1
      rw [List.getElem?_append_right (by rw [x.len]; exact Nat.le_refl _),x.len,Nat.sub_self] at e2
      cases e1; cases e2
      exact .list e hl (hv.mono m)
  · rw [owned_append]
    refine List.nodup_append.mpr ⟨x.nd,by simp [owned],fun a ha b hb q=>?_⟩
    simp [owned] at hb
    rw [q,hb] at ha
    exact ho ha
  · rw [owned_append] at ha
    rcases List.mem_append.mp ha with q | q
    · exact x.new a q
    · simp [owned] at q; rw [q]; exact h0
  · rw [owned_append] at ha
    rcases List.mem_append.mp ha with q | q
    · exact x.big a q
    · simp [owned] at q; rw [q]; exact hg
  · exact .loc (p:=(D,none)) (by rw [List.getElem?_append_right (by rw [x.len]; exact Nat.le_refl _),x.len,Nat.sub_self]; rfl)
theorem IR.self {it:It} {I:Addr} {Q:Value→Shared→Prop} (x:IR S as T s.heap it I) (q:Q (.ref I) s):wpAny (model S.prog S.w) A (pyIter (.ref I)) Q E s:=by
  cases x with
  | tup a _ _=>exact wpAny_pyIter_tupleiter a q
  | str a _=>exact wpAny_pyIter_striter_ascii a q
  | lst a _=>exact wpAny_pyIter_listiter a q
  | rng a=>exact wpAny_pyIter_rangeiter a q
theorem compN_len {cond:Lo→Hp→Option (Bool×Hp)} {elt:Lo→Hp→Option (V×Hp)} {t:CT} {l:Lo}:∀ {n:Nat} {it:It} {acc vs:List V} {H H':Hp},compN cond elt t l n it acc H=some (vs,H')→acc.length≤vs.length
  | 0,_,_,_,_,_,e=>by rw [compN_1] at e; first | exact nn e | exact ff e | cases e
  | n+1,it,acc,vs,H,H',e=>by
    rw [compN_2] at e
    split at e
    · first | exact ff e | exact nn e | cases e
    · cases e; simp
    · split at e
      · first | exact ff e | exact nn e | cases e
      · refine bnd_some_k e fun b H1 e1 e=>?_
        split at e
        · refine bnd_some_k e fun r H2 e2 e=>?_
          have:=compN_len e
          rw [List.length_cons] at this
          exact Nat.not_lt.mp (lin [_,_] (.c 1 (.a (.v 0) (.n 1)) (.v 1) (.c 1 (.a (.v 1) (.n 1)) (.v 0) .z)) rfl this)
        · exact compN_len e
theorem flag_spec {i:Nat} (c:flagF sl i=true):∃ x,sl[i]? = some (some (x,false)):=by
  unfold flagF at c
  split at c
  · exact⟨_,by assumption⟩
  · first | exact ff c | exact nn c | cases c
theorem set_flag {i:Nat} {v:V} {n:Str} {w:Value} {Q:Unit→Shared→Prop} (f:flagF sl i=true) (x:ER S as T env nm sl l s.heap) (hr:HR S as T H s.heap) (c:isLoc nm sl i n=true) (vr:VR S.fa as T v w)
    (q:∀ h' tk,Ext (fun b=>b=env.locals) as T s.heap as T h'→HR S as T H h'→ER S as T env nm sl (l.set i (some v)) h'→Q () { s with heap:=h',toks:=tk }):wpAny (model S.prog S.w) A (storeName env n w) Q E s:=by
  refine store_gen (X:=fun b=>b=env.locals) rfl (fun c e _=>?_) x hr c vr q
  obtain⟨y,hy⟩:=flag_spec f
  rw [hy] at e; first | exact nn e | exact ff e | cases e
theorem sets_flag:∀ {is:List Nat} {vs:List V} {l l':Lo},setMany is vs l=some l'→∀ ⦃xs:List Expr⦄ ⦃ws:List Value⦄ ⦃s:Shared⦄ ⦃E:Value→Shared→Prop⦄ ⦃Q:Unit→Shared→Prop⦄,is.all (flagF sl)=true→ctGo nm sl is xs=true→ER S as T env nm sl l s.heap→HR S as T H s.heap→VRs S.fa as T vs ws →
    (∀ h' tk,Ext (fun b=>b=env.locals) as T s.heap as T h'→HR S as T H h'→ER S as T env nm sl l' h'→Q () { s with heap:=h',toks:=tk })→wpAny (model S.prog S.w) A (assignInOrder ((assignEach xs env).map (·.2)) ws) Q E s
  | [],[],_,_,e=>by
    intro xs ws s E Q _ c er hr vr q
    rw [setMany_1] at e; first | exact nn e | exact ff e | cases e
    cases vr
    cases go_nil c
    exact wpAny_pure (q s.heap s.toks (.refl ..) hr er)
  | [],_::_,_,_,e=>nn e
  | _::_,[],_,_,e=>nn e
  | i::is,v::vs,l,l',e=>by
    intro xs ws s E Q f c er hr vr q
    rw [setMany_2] at e
    cases vr with
    | @cons v0 w1 l0 ws1 v1 v2 =>
      refine go_cons_k c fun n p xs c1 c2=>?_
      obtain⟨f1,f2⟩:=and2 (a:=flagF sl i) (b:=is.all (flagF sl)) f
      show wpAny _ A (do holding ws1 (assign (.Name n p) env w1); assignInOrder ((assignEach xs env).map (·.2)) ws1) Q E s
      refine wpAny_bind (wpAny_holding (assign_Name (set_flag f1 er hr c1 v1 fun h1 tk1 x1 hr1 er1=>?_)))
      exact sets_flag e f2 c2 er1 hr1 v2 fun h2 tk2 x2 hr2 er2=>q h2 tk2 (x1.trans x2) hr2 er2
theorem ct_flag {t:CT} {v:V} {l':Lo} {x:Expr} {w:Value} {Q:Unit→Shared→Prop} (e:setCT t v l=some l') (f:ctIn sl t=true) (c:ctIs nm sl t x=true) (hh:A.handled=none) (er:ER S as T env nm sl l s.heap) (hr:HR S as T H s.heap) (vr:VR S.fa as T v w)
    (q:∀ h' tk,Ext (fun b=>b=env.locals) as T s.heap as T h'→HR S as T H h'→ER S as T env nm sl l' h'→Q () { s with heap:=h',toks:=tk }):wpAny (model S.prog S.w) A (assign x env w) Q E s:=by
  cases t with
  | one i =>
    refine ct_one_k c fun n p c=>?_
    cases e
    exact assign_Name (set_flag f er hr c vr q)
  | many is =>
    refine ct_many_k c fun xs kk pos c=>?_
    cases v with
    | tup vs =>
      obtain⟨c1,c2⟩:=chTs_each (G:=S.G) (env:=env) (ct_go_ch c)
      refine wpAny_bind (wpAny_standAt ?_)
      unfold unpack
      rw [c2]
      refine wpAny_bind (wpAny_holding (unpk_ok (H:=H) (v:=.tup vs) (vs:=vs) rfl ?_ hh hr vr fun ws h' vv kp=>?_))
      · rw [c1,List.length_map]
        have:=asgTs_len (setMany_asg (ev:=fun _ _ _=>none) (H:=H) e)
        rw [List.length_map] at this
        exact this
      · have x0:Ext Nil as T s.heap as T h':=.keep kp
        refine sets_flag e f c (er.ext x0) (hr.keep kp) vv fun h2 tk2 x2 hr2 er2=>q h2 tk2 ?_ hr2 er2
        exact(Ext.nil (X:=fun b=>b=env.locals) x0 (fun b hb=>by rw [show b=env.locals from hb]; exact er.frame.1)).trans x2
    | _=>exact nn e
theorem setMany_other {j:Nat}:∀ {is:List Nat} {vs:List V} {l l':Lo},setMany is vs l=some l'→j ∉ is→l'[j]? = l[j]?
  | [],[],_,_,e,_=>by rw [setMany_1] at e; cases e; rfl
  | [],_::_,_,_,e,_=>nn e
  | _::_,[],_,_,e,_=>nn e
  | i::is,v::vs,_,_,e,h=>by
    rw [setMany_2] at e
    rw [setMany_other e (fun q=>h (.tail _ q)),List.getElem?_set_ne (fun q:i=j=>h (by rw [← q]; exact .head _))]
theorem setCT_other {t:CT} {v:V} {l':Lo} {j:Nat} {x:Str} (e:setCT t v l=some l') (f:ctIn sl t=true) (hj:sl[j]? = some (some (x,true))):l'[j]? = l[j]?:=by
  have no:∀ i,flagF sl i=true→j≠i:=fun i fi q=>by
    obtain⟨y,hy⟩:=flag_spec fi
    rw [← q,hj] at hy; cases hy
  unfold setCT at e
  split at e
  · first | exact ff e | exact nn e | cases e
    rw [List.getElem?_set_ne (Ne.symm (no _ f))]
  · split at e
    · refine setMany_other e fun q=>?_
      simp only [ctIn,List.all_eq_true] at f
      exact no _ (f _ q) rfl
    · first | exact ff e | exact nn e | cases e
theorem ER.back {l':Lo} (x:ER S as T env nm sl l' h) (hl:l.length=sl.length) (h0:∀(i:Nat) (v:V) (y:Str),l[i]? = some (some v)→sl[i]? = some (some (y,false))→False) (h1:∀(i:Nat) (y:Str),sl[i]? = some (some (y,true))→l'[i]? = l[i]?):ER S as T env nm sl l h:=by
  obtain⟨m,hn,hm⟩:=x.loc
  refine⟨x.kind,x.glob,x.blt,x.names,x.dbg,hl,x.nd,⟨m,hn,fun i v y e1 e2=>(h0 i v y e1 e2).elim⟩,fun i y e1=>?_,x.cellx,x.cella,x.frame,x.cells⟩
  obtain⟨c,w,g1,g2,g3⟩:=x.cell i y e1
  exact⟨c,w,g1,g2,fun v hv=>g3 v (by rw [h1 i y e1]; exact hv)⟩
theorem own_names {sc:Scope} (hk:env.scope.kind=.function):(relabel sc env).names=ownNm sc.names env.scope.names:=by
  unfold relabel ownNm
  refine List.map_congr_left fun z _=>?_
  obtain⟨n,k⟩:=z
  show(if _ then _ else _)=(if _ then _ else _)
  have:(k == NameKind.free && env.scope.kind == .function && env.kindOf n == some .cell)=(kindIs k .free && (match nkOf n env.scope.names with | some k'=>kindIs k' .cell | none=>false)):=by
    rw [hk,nkOf_eq]
    unfold Env.kindOf
    cases k <;> simp [kindIs] <;> (cases hq:List.lookup n env.scope.names with
      | none=>rfl
      | some k'=>cases k' <;> rfl)
  rw [this]
  all_goals rfl
theorem frees_spec {nm:Nms}:∀ {names:Nms},frees names nm sl=true→∀ {x:Str} {k:NameKind},(x,k)∈names→k≠.cell∧(k=.free→nm.lookup x=some .cell∧∃ i:Nat,sl[i]? = some (some (x,true)))
  | [],_,x,k,h=>by simp at h
  | (y,j)::r,c,x,k,h=>by
    simp only [frees_1,frees_2,Bool.and_eq_true] at c
    rcases List.mem_cons.mp h with e | e
    · first | exact ff e | exact nn e | cases e
      have:=c.1
      cases j <;> simp only [Bool.false_eq_true,Bool.and_eq_true] at this
      · exact⟨by decide,fun q=>by cases q⟩
      · refine⟨by decide,fun _=>⟨?_,?_⟩⟩
        · have h1:=this.1
          split at h1
          · rename_i k' hk
            rw [nkOf_eq] at hk
            rw [hk,kindIs_eq h1]
          · first | exact ff h1 | exact nn h1 | cases h1
        · obtain⟨z,hz,hz2⟩:=List.any_eq_true.mp this.2
          obtain⟨i,hi⟩:=List.getElem?_of_mem hz
          split at hz2
          · exact⟨i,by rw [hi,beq_iff_eq.mp hz2]⟩
          · first | exact ff hz2 | exact nn hz2 | cases hz2
      · exact⟨by decide,fun q=>by cases q⟩
    · exact frees_spec c.2 e
theorem inner_mem:∀ {nm:Nms} {i:Nat} {z:Option (Str×Bool)},(innerSl nm)[i]? = some z→∃ x,z=some (x,false)∧(x,NameKind.local)∈nm
  | [],i,z,e=>by simp [innerSl_1,innerSl_2] at e
  | (y,k)::r,i,z,e=>by
    rw [innerSl_2] at e
    split at e
    · rename_i hc
      simp only [Bool.and_eq_true] at hc
      have hk:=kindIs_eq hc.1
      subst hk
      cases i with
      | zero=>simp at e; subst e; exact⟨y,rfl,.head _⟩
      | succ i=>obtain⟨x,h1,h2⟩:=inner_mem (nm:=r) (i:=i) (z:=z) (by simpa using e); exact⟨x,h1,.tail _ h2⟩
    · obtain⟨x,h1,h2⟩:=inner_mem e; exact⟨x,h1,.tail _ h2⟩
theorem inner_nd:∀ {nm:Nms},(nm.map (·.1)).Nodup→∀ {i j:Nat} {x:Str},(innerSl nm)[i]? = some (some (x,false))→(innerSl nm)[j]? = some (some (x,false))→i=j
  | [],_,i,_,_,e,_=>by simp [innerSl_1,innerSl_2] at e
  | (y,k)::r,hn,i,j,x,e1,e2=>by
    obtain⟨h1,h2⟩:=List.nodup_cons.mp hn
    have no:∀ {i:Nat},(innerSl r)[i]? = some (some (y,false))→False:=fun e=>by
      obtain⟨x,q,hm⟩:=inner_mem e
      cases q
      exact h1 (List.mem_map.mpr ⟨_,hm,rfl⟩)
    rw [innerSl_2] at e1 e2
    split at e1
    · rename_i hc
      rw [if_pos hc] at e2
      cases i <;> cases j
      · rfl
      · simp at e1 e2; subst e1; exact(no e2).elim
      · simp at e1 e2; subst e2; exact(no e1).elim
      · rename_i i j
        exact congrArg (· + 1) (inner_nd h2 (i:=i) (j:=j) (x:=x) (by simpa using e1) (by simpa using e2))
    · rename_i hc
      rw [if_neg hc] at e2
      exact inner_nd h2 e1 e2
theorem hide_spec_k {names:Nms} {i:Nat} {x:Str} {b:Bool} (e:(hideSl sl names)[i]? = some (some (x,b))) {zg:Prop} (zk:(b=true)→(sl[i]? = some (some (x,true)))→(names.lookup x=some .free)→zg):zg:=by
  unfold hideSl at e
  rw [List.getElem?_map] at e
  obtain⟨z,hz,e⟩:=Option.map_eq_some_iff.mp e
  split at e
  · rename_i y
    cases hq:nkOf y names with
    | none=>rw [hq] at e; simp at e
    | some k =>
      rw [hq] at e
      cases hk:kindIs k .free with
      | false=>simp [hk] at e
      | true=>simp [hk] at e; obtain⟨rfl,rfl⟩:=e; exact zk rfl hz (by rw [← nkOf_eq,hq,kindIs_eq hk])
  · first | exact ff e | exact nn e | cases e
theorem hide_spec {names:Nms} {i:Nat} {x:Str} {b:Bool} (e:(hideSl sl names)[i]? = some (some (x,b))):b=true∧sl[i]? = some (some (x,true))∧names.lookup x=some .free:=hide_spec_k e fun zh1 zh2 zh3=>⟨zh1,zh2,zh3⟩
theorem noDbg_own {names nm:Nms} (h:noDbg names=true):noDbg (ownNm names nm)=true:=by
  induction names with
  | nil=>rfl
  | cons z r ih =>
    obtain⟨n,k⟩:=z
    simp only [noDbg_1,noDbg_2,Bool.and_eq_true] at h
    have this:∀(c:Prop) [Decidable c],((if c then(n,NameKind.cell) else(n,k)):Str×NameKind).fst=n:=by intro c _; split <;> rfl
    show noDbg ((if _ then(n,NameKind.cell) else(n,k))::ownNm r nm)=true
    simp only [noDbg,this,h.1,Bool.true_and]
    exact ih h.2
theorem comp_frame {sc:Scope} {k:Nat} {C:Addr} {g:Str→Option Value} (er:ER S as T env nm sl l h) (kp:∀ b o,h.get? b=some o→h'.get? b=some o) (hC:h.get? C=none) (hO:C ∉ owned as∧S.h0.get? C=none) (hns:h'.Ns C g) (hk:kindIs0 sc=true) (hf:frees sc.names nm sl=true)
    (hn:(sc.names.map (·.1)).Nodup) (hi:(innerSl sc.names).length=k) :
    ER S as T (compEnvC sc (clOf env.cells sc.names []) C env) (ownNm sc.names nm) (hideSl sl sc.names++innerSl sc.names) (l++List.replicate k none) h':=by
  simp only [kindIs0,Bool.and_eq_true] at hk
  obtain⟨⟨⟨k1,k2⟩,k3⟩,k4⟩:=hk
  have kf:sc.kind=.function:=by
    split at k2
    · rename_i e; exact e
    · first | exact ff k2 | exact nn k2 | cases k2
  have hsl:(hideSl sl sc.names).length=sl.length:=by unfold hideSl; rw [List.length_map]
  have old:∀ {x:Str} {c:Addr},(clOf env.cells sc.names []).lookup x=some c→env.cells.lookup x=some c:=fun e=>by
    rcases clOf_old e with q | q
    · exact q
    · simp at q
  have un:∀ {x:Str} {i:Nat} {z:Option (Str×Bool)},sc.names.lookup x=some .free→(innerSl sc.names)[i]? = some z→z=some (x,false)→False:=fun h1 h2 h3=>by
    obtain⟨y,q,hm⟩:=inner_mem h2
    rw [h3] at q; first | exact nn q | exact ff q | cases q
    rw [nd_lookup hn hm] at h1; cases h1
  have li:∀ {i:Nat},i<sl.length→(l++List.replicate k (none:Option V))[i]? = l[i]?:=fun hi'=>List.getElem?_append_left (by rw [er.len]; exact hi')
  refine⟨kf,er.glob,er.blt,?_,noDbg_own k1,?_,fun i j y b c e1 e2=>?_,⟨g,hns,fun i v y e1 e2=>?_⟩,fun i y e1=>?_,fun y z c e1 e2=>er.cellx y z c (old e1) (old e2),fun y c e1=>?_,hO,fun y c e1=>er.cells y c (old e1)⟩
  · show(relabel sc env).names=_
    rw [own_names er.kind,er.names]
  · rw [List.length_append,List.length_append,List.length_replicate,hsl,hi,er.len]
  · by_cases hi1:i<sl.length
    · rw [List.getElem?_append_left (by rw [hsl]; exact hi1)] at e1
      refine hide_spec_k e1 fun zq191=>?_
      subst zq191
      intro f1 f2
      by_cases hj1:j<sl.length
      · rw [List.getElem?_append_left (by rw [hsl]; exact hj1)] at e2
        refine hide_spec_k e2 fun zq192=>?_
        subst zq192
        intro g1 g2
        exact er.nd i j y true true f1 g1
      · rw [List.getElem?_append_right (by rw [hsl]; exact Nat.not_lt.mp (lin [_,_] (.c 1 (.v 0) (.v 1) (.c 1 (.a (.v 1) (.n 1)) (.v 0) .z)) rfl (Nat.not_lt.mp hj1)))] at e2
        obtain⟨z,q,_⟩:=inner_mem e2
        cases q
        exact(un f2 e2 rfl).elim
    · rw [List.getElem?_append_right (by rw [hsl]; exact Nat.not_lt.mp (lin [_,_] (.c 1 (.v 0) (.v 1) (.c 1 (.a (.v 1) (.n 1)) (.v 0) .z)) rfl (Nat.not_lt.mp hi1)))] at e1
      obtain⟨z,q,_⟩:=inner_mem e1
      cases q
      by_cases hj1:j<sl.length
      · rw [List.getElem?_append_left (by rw [hsl]; exact hj1)] at e2
        refine hide_spec_k e2 fun zq193=>?_
        subst zq193
        intro g1 g2
        exact(un g2 e1 rfl).elim
      · rw [List.getElem?_append_right (by rw [hsl]; exact Nat.not_lt.mp (lin [_,_] (.c 1 (.v 0) (.v 1) (.c 1 (.a (.v 1) (.n 1)) (.v 0) .z)) rfl (Nat.not_lt.mp hj1)))] at e2
        obtain⟨z,q,_⟩:=inner_mem e2
        cases q
        have:=inner_nd hn e1 e2
        rw [hsl] at this
        omega
  · by_cases hi1:i<sl.length
    · rw [List.getElem?_append_left (by rw [hsl]; exact hi1)] at e2
      obtain⟨q,_⟩:=hide_spec e2
      cases q
    · rw [List.getElem?_append_right (by rw [er.len]; exact Nat.not_lt.mp (lin [_,_] (.c 1 (.v 0) (.v 1) (.c 1 (.a (.v 1) (.n 1)) (.v 0) .z)) rfl (Nat.not_lt.mp hi1))),List.getElem?_replicate] at e1
      split at e1 <;> cases e1
  · by_cases hi1:i<sl.length
    · rw [List.getElem?_append_left (by rw [hsl]; exact hi1)] at e1
      refine hide_spec_k e1 fun _ f1 f2=>?_
      obtain⟨c,w,g1,g2,g3⟩:=er.cell i y f1
      refine⟨c,w,clOf_free (mem_of_lookup f2) g1,cell_keep g2 fun o=>kp _ o,fun v hv=>g3 v (by rw [← li hi1]; exact hv)⟩
    · rw [List.getElem?_append_right (by rw [hsl]; exact Nat.not_lt.mp (lin [_,_] (.c 1 (.v 0) (.v 1) (.c 1 (.a (.v 1) (.n 1)) (.v 0) .z)) rfl (Nat.not_lt.mp hi1)))] at e1
      obtain⟨z,q,_⟩:=inner_mem e1
      cases q
  · obtain⟨w,hw⟩:=er.cella y c (old e1)
    exact⟨w,cell_keep hw fun o=>kp _ o⟩
end
end Mine
namespace Mine
section
variable {S:Sur} {call:CallT} {d:Nat} {as as':As} {T T':TS} {H H':Hp} {h h':Heap} {s:Shared} {env:Env} {nm:Nms} {sl:Sl} {l:Lo} {A:Around} {E:Value→Shared→Prop}
theorem none_big {h:Heap} {a:Addr} (ha:h.objs.size≤a):h.get? a=none:=by
  cases e:h.get? a with
  | none=>rfl
  | some o=>exact absurd (Heap.lt_size e) (Nat.not_lt.mpr ha)
theorem HR.fresh (hr:HR S as T H h) {b:Addr} (hb:h.get? b=none):b ∉ owned as∧S.h0.get? b=none:=by
  refine⟨fun q=>?_,?_⟩
  · obtain⟨o,ho⟩:=hr.alive q; rw [hb] at ho; cases ho
  · cases e:S.h0.get? b with
    | none=>rfl
    | some o=>have:=hr.base b o e; rw [hb] at this; cases this
theorem HR.noT_own (hr:HR S as T H h) {a:Addr} {ws:List Value} {k:Nat} (e:h.get? a=some (lst ws k)) (h0:S.h0.get? a=none) (i:Im):¬ T a i:=fun t=>by
  have:=hr.im a i t
  cases i with
  | tup us=>obtain⟨o',e',c,_⟩:=this; rw [e] at e'; cases e'; simp [lst] at c
  | ro us=>obtain⟨o,q⟩:=hr.ro a us t; rw [h0] at q; cases q
  | rng i j l=>obtain⟨t,u,v,e'⟩:=this; have e2:=e.symm.trans e'; simp [lst] at e2
theorem Ext.adopt {as as1:As} {T T1:TS} {h h1:Heap} {D:Addr} (x:Ext Nil as T h as1 T1 h1) (hD:h.get? D=none):Ext Nil as T h (as1++[(D,none)]) T1 h1:=by
  refine⟨⟨fun n p e=>getElem?_append_some (x.mono.asx n p e),x.mono.tx⟩,x.kp,x.al,fun b hb=>?_⟩
  rw [owned_append] at hb
  rcases List.mem_append.mp hb with q | q
  · exact x.own b q
  · simp [owned] at q; subst q; exact .inr hD
theorem compN_inv {cs:Lo→Hp→Option (Bool×Hp)} {x:Lo→Hp→Option (V×Hp)} {t:CT} {n:Nat} {it:It} {acc:List V} {r:List V×Hp} (e:compN cs x t l (n+1) it acc H=some r):(nextI H it=some none∧(acc.reverse,H)=r) ∨
    ∃ v it' l1 b H1,nextI H it=some (some (v,it'))∧setCT t v l=some l1∧cs l1 H=some (b,H1)∧((b=true∧∃ w H2,x l1 H1=some (w,H2)∧compN cs x t l n it' (w::acc) H2=some r)∨(b=false∧compN cs x t l n it' acc H1=some r)):=by
  rw [compN_2] at e
  cases hn:nextI H it with
  | none=>rw [hn] at e; cases e
  | some z=>cases z with
    | none=>rw [hn] at e; exact .inl ⟨rfl,Option.some.inj e⟩
    | some z =>
      obtain⟨v,it'⟩:=z
      rw [hn] at e
      dsimp only at e
      cases hs:setCT t v l with
      | none=>rw [hs] at e; cases e
      | some l1 =>
        rw [hs] at e
        refine bnd_some_k e fun b H1 e1 e=>?_
        refine .inr ⟨v,it',l1,b,H1,rfl,hs,e1,?_⟩
        cases b with
        | true=>refine bnd_some_k e fun w H2 e2 e3=>?_; exact .inl ⟨rfl,w,H2,e2,e3⟩
        | false=>exact .inr ⟨rfl,e⟩
inductive CJ (S:Sur) (call:CallT) (s:Shared) (env:Env) (nm:Nms) (sl:Sl) (l:Lo) (I D:Addr) (as1:As) (T1:TS) (h1:Heap) (t:CT) (cs:List ME) (elt:ME) (vs:List V) (H2:Hp) (n:Nat):Shared→Prop where
  | mk (hN:Heap) (tkN:_) (asN:As) (TN:TS) (HN:Hp) (itN:It) (acc:List V) (ws:List Value) (kN:Nat) (x:Ext Nil as1 T1 h1 asN TN hN) (r:HR S asN TN HN hN) (er:ER S asN TN env nm sl l hN) (ir:IR S asN TN hN itN I) (f:Free S asN env I) (g:hN.get? D=some (lst ws kN)) (v:VRs S.fa asN TN acc.reverse ws) (fD:Free S asN env D)
      (e:compN (fun l H=>evC S.P call cs l H) (fun l H=>evE S.P call elt l H) t l n itN acc HN=some (vs,H2)):CJ S call s env nm sl l I D as1 T1 h1 t cs elt vs H2 n { s with heap:=hN,toks:=tkN }
theorem comp_turns {elt:ME} {t:CT} {cs:List ME} (helt:EvS S call d elt) (hcs:AllEv S call d cs) {x tg it0:Expr} {ifs:List Expr} {sc:Scope} {pos:Pos} {I D:Addr} {as1:As} {T1:TS} {h1:Heap} {R:Result→Shared→Prop} {vs:List V} {n:Nat} {itr:It} {H2:Hp} (ao:AOk A d)
    (c3:ctIn sl t=true) (c4:ctIs nm sl t tg=true) (c5:chL S.G cs nm sl ifs=true) (c6:chE S.G elt nm sl x=true) (hlim:vs.length≤lim) (hI:h1.get? I=none) (hD1:h1.get? D=none) (hC1:h1.get? env.locals=none) (ID:I≠D) (IC:I≠env.locals) (bigD:sysModules<D)
    (hl0:∀(i:Nat) (v:V) (y:Str),l[i]? = some (some v)→sl[i]? = some (some (y,false))→False) (x14:Ext Nil as1 T1 h1 as T s.heap) (hr:HR S as T H s.heap) (er:ER S as T env nm sl l s.heap) (ir:IR S as T s.heap itr I) (fI:Free S as env I) (D4:s.heap.get? D=some (lst [] 0)) (fD:Free S as env D)
    (e2:compN (fun l H=>evC S.P call cs l H) (fun l H=>evE S.P call elt l H) t l n itr [] H=some (vs,H2))
    (q:∀ h5 tk asN TN m,h5.Ns env.locals m→Ext Nil as1 T1 h1 asN TN h5→HR S (asN++[(D,none)]) TN (H2++[.list vs]) h5→VR S.fa (asN++[(D,none)]) TN (.loc H2.length) (.ref D)→env.locals ∉ owned asN→R (.ok .next) { s with heap:=h5,toks:=tk }) :
    codeAny (model S.prog S.w) A (.compLoop (.ListComp x [⟨tg,it0,ifs,0⟩] sc pos) 0 (.ref I) (.ref D) env) R s:=by
  have hlen0:=er.len
  refine loop_tests (CJ S call s env nm sl l I D as1 T1 h1 t cs elt vs H2) (fun n s' hI'=>?_) n (.mk s.heap s.toks as T H itr [] [] 0 x14 hr er ir fI D4 .nil fD e2)
  obtain⟨hN,tkN,asN,TN,HN,itN,acc,ws,kN,xN,hrN,erN,irN,fIN,DN,vN,fDN,eN⟩:=hI'
  clear e2 D4 fI fD ir er hr x14
  generalize notedBy (model S.prog S.w) A env (fun e s'=>R (.error e) s')=E1
  cases n with
  | zero=>rw [compN_1] at eN; cases eN
  | succ n =>
    rcases compN_inv eN with⟨hnx,eN⟩ | ⟨u,it',l5,b,H7,hnx,e5,e7,eN⟩
    · cases eN
      refine next_ok hnx irN fIN.own hrN ao.handled fun h5 k5=>?_
      have hr5:=hrN.iter irN fIN k5
      have D5:=k5 _ _ (Ne.symm ID) DN
      obtain⟨hr6,vr6⟩:=hr5.adopt D5 fDN.own fDN.old bigD vN (by simpa using hlim)
      obtain⟨m,hm,_⟩:=erN.loc
      exact q h5 _ asN TN m (ns_keep hm fun o=>k5 _ o (Ne.symm IC)) (xN.off k5 hI (fun z=>z)) hr6 vr6 erN.frame.1
    · refine next_ok hnx irN fIN.own hrN ao.handled fun wu h5 tk5 k5 ir5 ru=>own_go ir5 ?_
      have hr5:=hrN.iter irN fIN k5
      have er5:=erN.but fIN k5
      have x5:=xN.off k5 hI (fun z=>z)
      have D5:=k5 _ _ (Ne.symm ID) DN
      refine ct_flag e5 c3 c4 ao.handled er5 hr5 ru fun h6 tk6 x6 hr6 er6=>?_
      have x16:Ext Nil as1 T1 h1 asN TN h6:=x5.close x6 fun b hb=>by rw [show b=env.locals from hb]; exact hC1
      have D6:=x6.kp _ _ fDN.own (fun z=>fDN.loc z) D5
      have ir6:=ir5.ext x6 fIN.own (fun z=>fIN.loc z)
      refine tests_ok hcs e7 ao c5 er6 hr6 fun h7 tk7 as7 T7 x7 hr7=>?_
      have er7:=er6.ext x7
      have x17:=x16.trans x7
      have D7:=x7.kp _ _ fDN.own (fun z=>z) D6
      obtain⟨oI6,hoI6,_⟩:=ir6.alive
      have fI7:=fIN.ext x7 hoI6
      have fD7:=fDN.ext x7 D6
      have ir7:=ir6.ext x7 fIN.own (fun z=>z)
      rcases eN with⟨rfl,r,H8,e8,eN⟩ | ⟨rfl,eN⟩
      · rw [if_pos rfl]
        refine helt e8 ao c6 er7 hr7 fun wr h8 tk8 as8 T8 x8 hr8 rr=>?_
        have D8:=x8.kp _ _ fD7.own (fun z=>z) D7
        have er8:=er7.ext x8
        obtain⟨oI7,hoI7,_⟩:=ir7.alive
        have fI8:=fI7.ext x8 hoI7
        have fD8:=fD7.ext x8 D7
        have ir8:=ir7.ext x8 fI7.own (fun z=>z)
        have v8:VRs S.fa as8 T8 acc.reverse ws:=(vN.mono x7.mono).mono x8.mono
        have hlen:ws.length≤lim:=by
          have:=compN_len eN
          rw [List.length_cons] at this
          have h2:=v8.length
          rw [List.length_reverse] at h2
          exact Nat.not_lt.mp (lin [_,_,_,_] (.c 1 (.v 0) (.v 1) (.c 1 (.a (.v 2) (.n 1)) (.v 0) (.c 1 (.v 3) (.v 2) (.c 1 (.a (.v 1) (.n 1)) (.v 3) .z)))) rfl hlim this (Nat.le_of_eq h2))
        refine append_at (its:=ws.toArray) (n:=kN) D8 (fun h9 sb9 e9=>?_) (by rw [List.size_toArray]; exact lim_size hlen)
        have k9:∀ b o,b≠D→h8.get? b=some o→h9.get? b=some o:=fun b o nb e=>(sb9.2 b nb).trans e
        refine⟨n,Nat.lt_succ_self n,.mk h9 _ as8 T8 H8 it' (r::acc) (ws++[wr]) (kN+1) ((x17.trans x8).off k9 hD1 (fun z=>z)) (hr8.but k9 fD8.own fD8.old (hr8.noT_own D8 fD8.old)) ?_ (ir8.keep (.refl ..) fun o=>k9 _ o ID) fI8 (by rw [e9]; simp [lst]) ?_ fD8 eN⟩
        · exact(er8.but fD8 k9).back hlen0 hl0 fun i y hy=>setCT_other e5 c3 hy
        · rw [List.reverse_cons]; exact v8.append (.cons rr .nil)
      · rw [if_neg Bool.false_ne_true]
        exact⟨n,Nat.lt_succ_self n,.mk h7 _ as7 T7 H7 it' acc ws kN x17 hr7 (er7.back hlen0 hl0 fun i y hy=>setCT_other e5 c3 hy) ir7 fI7 D7 (vN.mono x7.mono) fD7 eN⟩
theorem comp_gen {elt src:ME} {t:CT} {k:Nat} {cs:List ME} (hsrc:EvS S call d src) (helt:EvS S call d elt) (hcs:AllEv S call d cs) {v:V} (e:evE S.P call (.comp elt src t k cs) l H=some (v,H')) {x tg it:Expr} {ifs:List Expr} {sc:Scope} {pos p:Pos}
    {use:Option (Value→Sem Unit)} {Q:Value→Shared→Prop} (ao:AOk A d) (c:chE S.G (.comp elt src t k cs) nm sl (.ListComp x [⟨tg,it,ifs,0⟩] sc pos)=true) (er:ER S as T env nm sl l s.heap) (hr:HR S as T H s.heap)
    (q:∀ D C h' tk as' T' m,h'.Ns C m→Ext Nil as T s.heap as' T' h'→HR S as' T' H' h'→VR S.fa as' T' v (.ref D)→s.heap.get? C=none→C ∉ owned as'→compPost (model S.prog S.w) A E use Q (.ref D) C (.ok .next) { s with heap:=h',toks:=tk }) :
    wpAny (model S.prog S.w) A (comprehension (.ListComp x [⟨tg,it,ifs,0⟩] sc pos) sc env p (newList []) false (eval it env) use) Q E s:=by
  refine ev_comp_k e fun sv H1 itr vs H2 e1 hit e2 hlim zq194=>?_
  subst zq194
  intro zq195
  subst zq195
  obtain⟨cs12,c0⟩:=and2 (a:=notSet it && chE S.G src nm sl it) c
  obtain⟨cs1,cs2⟩:=and2 cs12
  obtain⟨d1,c8⟩:=and2 (b:=frees sc.names nm sl) c0
  obtain⟨d2,c7⟩:=and2 d1
  obtain⟨d3,c6⟩:=and2 d2
  obtain⟨d4,c5⟩:=and2 d3
  refine and4_k d4 fun c1 c2 c3 c4=>?_
  have hnd:=ndStr_nodup c7
  have kf:sc.kind=.function:=by
    have:=c2
    simp only [kindIs0,Bool.and_eq_true] at this
    have:=this.1.1.2
    split at this
    · rename_i e; exact e
    · cases this
  have hcl:closureFor sc env=pure (clOf env.cells sc.names []):=closure_ok fun y hy=>by
    obtain⟨_,i,hi⟩:=(frees_spec c8 hy).2 rfl
    obtain⟨c,w,g1,_⟩:=er.cell i y hi
    rw [g1]; rfl
  refine wpAny_comprehension_free (use:=use) rfl (set_folded cs1 env) hcl kf (fun y hy hl=>by obtain⟨y1,y2⟩:=y; cases hl; exact nd_lookup hnd hy) ?_
  refine hsrc e1 ao cs2 er hr fun w h1 tk1 as1 T1 x1 hr1 vr=>?_
  refine iter_ok hit hr1 vr fun I h2 hI kp2 ir2=>?_
  have er1:=er.ext x1
  have nI:=hr1.fresh hI
  have hr2:=hr1.keep kp2
  obtain⟨oI,hoI,_⟩:=ir2.alive
  refine wpAny_newList ?_
  have low1:∀ {b},h2.objs.size≤b→h1.get? b=none:=fun {b} hb=>by
    cases z:h1.get? b with
    | none=>rfl
    | some o=>exact absurd (Heap.lt_size (kp2 _ _ z)) (Nat.not_lt.mpr hb)
  refine wpAny_newFunctionEnv (fun y hy=>(frees_spec c8 (x:=y.1) (k:=y.2) hy).1) (by intro y hy; simp at hy) (fun h4 hns4 hsb4=>?_) kf
  dsimp only at hns4 hsb4 ⊢
  generalize hG:h2.push { cls:=Value.type "list",dict:=none,data:=Data.seq ([]:List Value).toArray } = G2 at hns4 hsb4 ⊢
  have hC:G2.objs.size=h2.objs.size+1:=by rw [← hG,Heap.size_push]
  have kpG:∀ b o,h2.get? b=some o→G2.get? b=some o:=fun b o e=>hG▸keep_push _ b o e
  have kp4:∀ b o,b≠G2.objs.size→G2.get? b=some o→h4.get? b=some o:=fun b o nb e=>(hsb4.2 b nb).trans (keep_push _ b o e)
  have lt2:∀ {b o},h2.get? b=some o→b≠G2.objs.size:=fun e=>by rw [hC]; exact Nat.ne_of_lt (Nat.lt_succ_of_lt (Heap.lt_size e))
  have kp24:∀ b o,h2.get? b=some o→h4.get? b=some o:=fun b o e=>kp4 b o (lt2 e) (kpG b o e)
  have dC:h2.objs.size≠G2.objs.size:=by rw [hC]; exact Nat.ne_of_lt (Nat.not_le.mp (lin [_] (.c 1 (.a (.v 0) (.n 1)) (.v 0) .z) rfl))
  have D4:h4.get? h2.objs.size=some (lst [] 0):=kp4 _ _ dC (hG▸Heap.get?_push_size _ rfl)
  have hD1:h1.get? h2.objs.size=none:=low1 (Nat.le_refl _)
  have hC1:h1.get? G2.objs.size=none:=low1 (by rw [hC]; exact Nat.not_lt.mp (lin [_] (.c 1 (.a (.a (.v 0) (.n 1)) (.n 1)) (.v 0) .z) rfl))
  have nD:=hr1.fresh hD1
  have bigD:sysModules<h2.objs.size:=by
    obtain⟨o',ho'⟩:=hr2.two
    exact Nat.lt_trans (show sysModules<cStatics by decide) (Heap.lt_size (hr2.base _ _ ho'))
  have nC:=hr1.fresh hC1
  have ID:I≠h2.objs.size:=Nat.ne_of_lt (Heap.lt_size hoI)
  have IC:I≠G2.objs.size:=lt2 hoI
  have er4:=comp_frame (k:=k) er1 (h':=h4) (fun b o e=>kp24 b o (kp2 b o e)) hC1 nC hns4 c2 c8 hnd (of_decide_eq_true c1)
  have cellsI:∀ {b:Addr},h1.get? b=none→∀ y,(clOf env.cells sc.names []).lookup y≠some b:=fun hb y q=>by
    rcases clOf_old q with z | z
    · obtain⟨w,hw⟩:=er1.cella y _ z
      obtain⟨o,ho⟩:=cell_alive hw
      rw [hb] at ho; cases ho
    · simp at z
  have fI:Free S as1 (compEnvC sc (clOf env.cells sc.names []) G2.objs.size env) I:=⟨nI.1,nI.2,IC,cellsI hI⟩
  have fD:Free S as1 (compEnvC sc (clOf env.cells sc.names []) G2.objs.size env) h2.objs.size:=⟨nD.1,nD.2,dC,cellsI hD1⟩
  have ir4:IR S as1 T1 h4 itr I:=ir2.keep (.refl ..) fun o e=>kp24 I o e
  have x14:Ext Nil as1 T1 h1 as1 T1 h4:=.keep fun b o e=>kp24 b o (kp2 b o e)
  have hl0:∀(i:Nat) (v:V) (y:Str),(l++List.replicate k (none:Option V))[i]? = some (some v)→(hideSl sl sc.names++innerSl sc.names)[i]? = some (some (y,false))→False:=by
    intro i v y f1 f2
    have hsl:(hideSl sl sc.names).length=l.length:=by unfold hideSl; rw [List.length_map,er.len]
    by_cases hi:i<l.length
    · rw [List.getElem?_append_left (by rw [hsl]; exact hi)] at f2
      obtain⟨z,_⟩:=hide_spec f2
      cases z
    · rw [List.getElem?_append_right (by exact Nat.not_lt.mp (lin [_,_] (.c 1 (.v 0) (.v 1) (.c 1 (.a (.v 1) (.n 1)) (.v 0) .z)) rfl (Nat.not_lt.mp hi))),List.getElem?_replicate] at f1
      split at f1 <;> cases f1
  have loop:∀ tk,codeAny (model S.prog S.w) A (.compLoop (.ListComp x [⟨tg,it,ifs,0⟩] sc pos) 0 (.ref I) (.ref h2.objs.size) (compEnvC sc (clOf env.cells sc.names []) G2.objs.size env)) (compPost (model S.prog S.w) A E use Q (.ref h2.objs.size) G2.objs.size) { s with heap:=h4,toks:=tk }:=by
    intro tk
    refine comp_turns helt hcs ao c3 c4 c5 c6 hlim hI hD1 hC1 ID IC bigD hl0 x14 (hr2.keep kp24) er4 ir4 fI D4 fD e2 fun h5 tk5 asN TN m hm xN hr6 vr6 hO=>?_
    refine q _ _ h5 _ _ TN m hm (x1.trans (xN.adopt hD1)) hr6 vr6 (x1.dead hr1 hC1) ?_
    rw [owned_append]
    intro z
    rcases List.mem_append.mp z with z | z
    · exact hO z
    · simp [owned] at z; exact dC z.symm
  exact codeAny_compStart_list (loop _) (ir4.self (loop _))
theorem s_comp {elt src:ME} {t:CT} {k:Nat} {cs:List ME} (hsrc:EvS S call d src) (helt:EvS S call d elt) (hcs:AllEv S call d cs):EvS S call d (.comp elt src t k cs):=by
  intro l H H' v e nm sl x s as T env A E Q ao c er hr q
  refine ch_comp_k c fun y tg it ifs sc pos c=>?_
  · rw [eval_ListComp]
    refine comp_gen hsrc helt hcs (use:=none) e ao c er hr fun D C h' tk as' T' m hm x' hr' vr hC hO=>⟨m,hm,fun h'' sb=>?_⟩
    have kp:∀ b o,b≠C→h'.get? b=some o→h''.get? b=some o:=fun b o nb e=>(sb.2 b nb).trans e
    have h0C:=(hr.fresh hC).2
    exact q _ _ _ _ _ (x'.off kp hC (fun z=>z)) (hr'.but kp hO h0C (noT_ns hr' hm)) vr
end
end Mine
namespace Mine
section
variable {S:Sur} {call:CallT} {d:Nat} {as as':As} {T T':TS} {H H':Hp} {h h':Heap} {s:Shared} {env:Env} {nm:Nms} {sl:Sl} {l:Lo} {A:Around} {E:Value→Shared→Prop}
theorem sw_true {n:Str} {py pos px:Pos} {x:Expr} {gens:List Comprehension} {sc:Scope} (er:ER S as T env nm sl l h)
    (c:(nm.lookup n == some .local && py.line == px.line && !(sc.names.any fun(z,k)=>z == n && (k == .local || k == .cell)))=true):swapsWith (.ListComp x gens sc px) (some (.Name n py)) pos.line env=pure true:=by
  have hb:env.blockKind=.function:=by unfold Env.blockKind; rw [er.kind]; rfl
  show(do return env.blockKind == .function && env.kindOf n == some .local && py.line == px.line && !(sc.names.any fun(z,k)=>z == n && (k == .local || k == .cell)):Sem Bool)=pure true
  have hk:env.kindOf n=nm.lookup n:=by unfold Env.kindOf; rw [er.names]
  rw [hb,hk]
  have:(ScopeKind.function == ScopeKind.function)=true:=rfl
  rw [this,Bool.true_and,c]
theorem asg_comp {i:Nat} {elt src:ME} {t:CT} {k:Nat} {cs:List ME} (hsrc:EvS S call d src) (helt:EvS S call d elt) (hcs:AllEv S call d cs) {l':Lo} {fl:Fl} (e:exS S.P call (.asg (.loc i) (.comp elt src t k cs)) l H=some (fl,l',H')) {n:Str} {py pos px:Pos} {x:Expr} {gens:List Comprehension} {sc:Scope}
    {as:As} {T:TS} {Q:Flow→Shared→Prop} (ao:AOk A d) (c1:isLoc nm sl i n=true) (c2:chE S.G (.comp elt src t k cs) nm sl (.ListComp x gens sc px)=true)
    (c3:(nm.lookup n == some .local && py.line == px.line && !(sc.names.any fun(z,k)=>z == n && (k == .local || k == .cell)))=true) (er:ER S as T env nm sl l s.heap) (hr:HR S as T H s.heap) (q:RetS S as T s env nm sl fl l' H' Q) :
    wpAny (model S.prog S.w) A (exec (.Assign [.Name n py] (.ListComp x gens sc px) pos) env) Q E s:=by
  refine comp_gens (P:=fun gens=>wpAny (model S.prog S.w) A (exec (.Assign [.Name n py] (.ListComp x gens sc px) pos) env) Q E s) c2 fun tg it ifs c2=>?_
  refine ex_asg_k e fun v H1 l1 H2 e1 e2 e=>?_
  cases e
  have e2:some (l.set i (some v),H1)=some (l',H'):=e2
  cases e2
  rw [exec_Assign_Name_used _ _ _ _ (sw_true er c3)]
  · refine wpAny_bind (wpAny_standAt (wpAny_bind ?_))
    show wpAny _ A (do let _ ← comprehension (.ListComp x [⟨tg,it,ifs,0⟩] sc px) sc env _ (newList []) false (eval it env) (some (assign (.Name n py) env))) _ _ s
    refine wpAny_bind (wpAny_mono (comp_gen (E:=E) hsrc helt hcs (use:=some (assign (.Name n py) env)) (Q:=fun _ s'=>Q .next s') e1 ao c2 er hr fun D C h' tk as' T' m hm x' hr' vr hC hO=>?_) (fun _ s' hq=>wpAny_pure (wpAny_pure hq)) fun _ _ e=>e)
    have fC:=er.fresh hr hC
    obtain⟨oC,hoC⟩:=ns_alive hm
    have fC':Free S as' env C:=fC.ext x' (o:=oC) |> fun _=>⟨hO,fC.old,fC.loc,fC.cell⟩
    refine assign_Name (store_ok (er.ext x') hr' c1 vr fun h3 tk3 as3 T3 x3 hr3 er3=>?_)
    have hm3:=ns_keep hm fun o e=>x3.kp C o hO fC'.nex e
    refine⟨m,hm3,fun h4 sb=>?_⟩
    have kp:∀ b o,b≠C→h3.get? b=some o→h4.get? b=some o:=fun b o nb e=>(sb.2 b nb).trans e
    have f3:Free S as3 env C:=fC'.ext x3 hoC
    exact q _ _ _ _ _ (((x'.nil er.exo).trans x3).off kp hC fC.nex) (hr3.but kp f3.own f3.old (noT_ns hr3 hm3)) (er3.but f3 kp) .next
theorem st_asg {t:Tg} {e0:ME} (ht:AsS S call d t) (h0:EvS S call d e0) (hc:∀ elt src ct k cs,e0=.comp elt src ct k cs→EvS S call d src∧EvS S call d elt∧AllEv S call d cs):StS S call d (.asg t e0):=by
  intro l l' H H' fl e nm sl x s as T env A E Q ao c er hr q
  refine cs_asg_k c fun y x p c1 c2 c3=>?_
  cases hn:notComp x with
  | true =>
    have c3:(bif notComp x then swOk nm sl t (swpQ nm y x) else cmpS nm y x t)=true:=c3
    rw [hn] at c3
    exact asg_ok ht h0 e ao c1 c2 hn c3 er hr q
  | false =>
    have c3:(bif notComp x then swOk nm sl t (swpQ nm y x) else cmpS nm y x t)=true:=c3
    rw [hn] at c3
    have c3:cmpS nm y x t=true:=c3
    refine cmpS_inv_k c3 fun n py elt0 gens sc px i zq198=>?_
    subst zq198
    intro zq199
    subst zq199
    intro zq200
    subst zq200
    intro c3
    cases e0 with
    | comp elt src ct k cs =>
      obtain⟨g1,g2,g3⟩:=hc _ _ _ _ _ rfl
      exact asg_comp g1 g2 g3 e ao c1 c2 c3 er hr q
    | bad =>
      obtain⟨_,_,_,_,e1,_⟩:=ex_asg e
      exact nn e1
    | _=>exact ff c2
theorem s_dict {es:List ME} (hA:AllEv S call d es):EvS S call d (.dict es):=by
  intro l H H' v e nm sl x s as T env A E Q ao c er hr q
  refine ev_dict_k e fun vs H1 e1 zq201=>?_
  subst zq201
  intro zq202
  subst zq202
  refine ch_dict_k c fun ks us p c15 cD=>?_
  ·
    cases es with
    | nil =>
      rw [evD] at e1; cases e1
      have c2:=cD
      obtain⟨rfl,rfl⟩:=cD_nil c2
      · refine wpAny_Dict_empty ?_
        have kp:=keep_push (h:=s.heap) { cls:=Value.type "dict",data:=Data.dict #[] }
        have hd:(s.heap.push { cls:=Value.type "dict",data:=Data.dict #[] }).DictOf (strKind S.prog S.w) s.heap.objs.size []:=⟨_,_,_,Heap.get?_push_size _ rfl,⟨rfl,rfl,rfl⟩,rfl,by intro e he; simp at he,by first | exact .nil | simp | trivial,by simp⟩
        have m:Mono as T (as++[(s.heap.objs.size,none)]) T:=⟨fun n q e=>getElem?_append_some e,fun _ _ e=>e⟩
        have hr2:=hr.alloc (o:=.dict []) (p:=(s.heap.objs.size,none)) kp (by simp) (by simp) (.dict hd (by simp) .nil)
        refine q _ _ _ _ _ ⟨m,fun b o _ _ e=>kp b o e,fun b hb _=>hb.elim,fun b hb=>?_⟩ hr2 (.loc (p:=(s.heap.objs.size,none)) (by rw [List.getElem?_append_right (by rw [hr.len]; exact Nat.le_refl _),hr.len,Nat.sub_self]; rfl))
        rw [owned_append] at hb
        rcases List.mem_append.mp hb with z | z
        · exact .inl z
        · simp [owned] at z; subst z; exact .inr size_none
    | cons a r=>rw [evD] at e1; cases e1
theorem t_of {e:ME} (h:EvS S call d e) (hp:∀ {G:Str→Option GV} {nm:Nms} {sl:Sl} {x:Expr} {env:Env} {whole:Sem Value},chE G e nm sl x=true→PySem.isTrue x env whole=(do let v ← whole; standAt x.pos; holding [v] (truthy v))):TrS S call d e:=by
  intro l H H' b e1 nm sl x s as T env A E Q ao c er hr q
  exact tr_of_ev (hp c) h e1 ao c er hr q
theorem l_all:∀ {es:List ME},AllEv S call d es→EvLS S call d es
  | [],_=>l_nil
  | _::_,h=>l_cons h.1 (l_all h.2.2)
mutual
theorem ok_E (C:Cx S) (ca:CallOk S call d):∀ e:ME,EvS S call d e∧TrS S call d e
  | .bad=>⟨s_bad,fun e=>nn e⟩
  | .lit v=>⟨s_lit,t_of s_lit fun c=>by refine ch_lit_k c ?_; intros; rfl⟩
  | .loc i=>⟨s_loc,t_of s_loc fun c=>by refine ch_loc_k c ?_; intros; rfl⟩
  | .glob v=>⟨s_glob C,t_of (s_glob C) fun c=>by refine ch_glob_k c ?_; intros; rfl⟩
  | .tup es=>⟨s_tup (l_all (ok_L C ca es)),t_of (s_tup (l_all (ok_L C ca es))) fun c=>by refine ch_tup_k c ?_; intros; rfl⟩
  | .lst es=>⟨s_lst (l_all (ok_L C ca es)),t_of (s_lst (l_all (ok_L C ca es))) fun c=>by refine ch_lst_k c ?_; intros; rfl⟩
  | .dict es=>⟨s_dict (ok_L C ca es),t_of (s_dict (ok_L C ca es)) fun c=>by refine ch_dict_k c ?_; intros; rfl⟩
  | .attr e a=>⟨s_attr C (ok_E C ca e).1,t_of (s_attr C (ok_E C ca e).1) fun c=>by refine ch_attr_k c ?_; intros; rfl⟩
  | .idx e i=>⟨s_idx (ok_E C ca e).1 (ok_E C ca i).1,t_of (s_idx (ok_E C ca e).1 (ok_E C ca i).1) fun c=>by refine ch_idx_k c ?_; intros; rfl⟩
  | .slice e lo hi st=>⟨s_slice (ok_E C ca e).1 (ok_E C ca lo).1 (ok_E C ca hi).1 (ok_E C ca st).1,t_of (s_slice (ok_E C ca e).1 (ok_E C ca lo).1 (ok_E C ca hi).1 (ok_E C ca st).1) fun c=>by refine ch_slice_k c ?_; intros; rfl⟩
  | .bin op a b=>⟨s_bin (ok_E C ca a).1 (ok_E C ca b).1,t_of (s_bin (ok_E C ca a).1 (ok_E C ca b).1) fun c=>by refine ch_bin_k c ?_; intros; rfl⟩
  | .neg a=>⟨s_neg (ok_E C ca a).1,t_of (s_neg (ok_E C ca a).1) fun c=>by refine ch_neg_k c ?_; intros; rfl⟩
  | .not a=>⟨s_not (ok_E C ca a).1,t_not (ok_E C ca a).2⟩
  | .cmp op a b=>⟨s_cmp (ok_E C ca a).1 (ok_E C ca b).1,t_cmp (ok_E C ca a).1 (ok_E C ca b).1⟩
  | .and es=>⟨s_and (ok_L C ca es),t_and (ok_L C ca es)⟩
  | .or es=>⟨s_or (ok_L C ca es),t_or (ok_L C ca es)⟩
  | .ife t a b=>⟨s_ife (ok_E C ca t).2 (ok_E C ca a).1 (ok_E C ca b).1,t_ife (ok_E C ca t).2 (ok_E C ca a).2 (ok_E C ca b).2⟩
  | .call f es=>⟨s_call C ca (ok_E C ca f).1 (l_all (ok_L C ca es)),t_of (s_call C ca (ok_E C ca f).1 (l_all (ok_L C ca es))) fun c=>by refine ch_call_k c ?_; intros; rfl⟩
  | .new k es=>⟨s_new C ca (l_all (ok_L C ca es)),t_of (s_new C ca (l_all (ok_L C ca es))) fun c=>by refine ch_new_k c ?_; intros; rfl⟩
  | .meth o m es=>⟨s_meth C ca (ok_E C ca o).1 (l_all (ok_L C ca es)),t_of (s_meth C ca (ok_E C ca o).1 (l_all (ok_L C ca es))) fun c=>by refine ch_meth_k c ?_; intros; rfl⟩
  | .bmeth o m es=>⟨s_bmeth (ok_E C ca o).1 (l_all (ok_L C ca es)),t_of (s_bmeth (ok_E C ca o).1 (l_all (ok_L C ca es))) fun c=>by refine ch_bmeth_k c ?_; intros; rfl⟩
  | .prim p es=>⟨s_prim C (l_all (ok_L C ca es)),t_of (s_prim C (l_all (ok_L C ca es))) fun c=>by refine ch_prim_k c ?_; intros; rfl⟩
  | .isin e k=>⟨s_isin C (ok_E C ca e).1,t_of (s_isin C (ok_E C ca e).1) fun c=>by refine ch_isin_k c ?_; intros; rfl⟩
  | .comp elt src t k cs=>⟨s_comp (ok_E C ca src).1 (ok_E C ca elt).1 (ok_L C ca cs),t_of (s_comp (ok_E C ca src).1 (ok_E C ca elt).1 (ok_L C ca cs)) fun c=>by refine ch_comp_k c ?_; intros; rfl⟩
theorem ok_L (C:Cx S) (ca:CallOk S call d):∀ es:List ME,AllEv S call d es
  | []=>trivial
  | e::r=>⟨(ok_E C ca e).1,(ok_E C ca e).2,ok_L C ca r⟩
end
mutual
theorem ok_T (C:Cx S) (ca:CallOk S call d):∀ t:Tg,AsS S call d t
  | .loc i=>a_loc
  | .attr o a=>a_attr C (ok_E C ca o).1
  | .idx o i=>a_idx (ok_E C ca o).1 (ok_E C ca i).1
  | .tup ts=>a_tup (ok_Ts C ca ts)
theorem ok_Ts (C:Cx S) (ca:CallOk S call d):∀ ts:List Tg,AsLS S call d ts
  | []=>a_nil
  | t::r=>a_cons (ok_T C ca t) (ok_Ts C ca r)
end
mutual
theorem ok_S (C:Cx S) (ca:CallOk S call d):∀ st:MS,StS S call d st
  | .bad=>t_bad
  | .expr e=>t_expr (ok_E C ca e).1
  | .ret e=>t_ret (ok_E C ca e).1
  | .asg t e=>st_asg (ok_T C ca t) (ok_E C ca e).1 fun elt src ct k cs _=>⟨(ok_E C ca src).1,(ok_E C ca elt).1,ok_L C ca cs⟩
  | .auga o a op e=>t_auga C (ok_E C ca o).1 (ok_E C ca e).1
  | .ife t b o=>st_ife (ok_E C ca t).2 (ok_B C ca b) (ok_B C ca o)
  | .whl t b=>st_whl (ok_E C ca t).2 (ok_B C ca b)
  | .for t e b=>st_for (ok_E C ca e).1 (ok_B C ca b)
  | .brk=>t_brk
  | .cont=>t_cont
theorem ok_B (C:Cx S) (ca:CallOk S call d):∀ b:List MS,BkS S call d b
  | []=>b_nil
  | st::r=>b_cons (ok_S C ca st) (ok_B C ca r)
end
theorem sound (C:Cx S) (d:Nat):CallOk S (callF S.P d) d:=call_ok C (fun _ ca b=>ok_B C ca b) d
end
end Mine
namespace Mine
noncomputable def tupIn (K:Frag) (a:Addr):Option (List Value):=match K.lookup a with
  | some o=>(match o.cls with
    | .type n=>(match o.data with | .seq us _=>bif n == "tuple" then some us.toList else none | _=>none)
    | _=>none)
  | none=>none
theorem tupIn_some_k {K:Frag} {a:Addr} {us:List Value} (h:tupIn K a=some us) {zg:Prop} (zk:∀ d,∀ n,∀ sl,(K.lookup a=some ⟨.type "tuple",d,.seq us.toArray n,sl⟩)→zg):zg:=by
  obtain⟨d,n,sl,zh1⟩:∃ d n sl,K.lookup a=some ⟨.type "tuple",d,.seq us.toArray n,sl⟩:=by
    unfold tupIn at h
    cases hk:K.lookup a with
    | none=>rw [hk] at h; exact nn h
    | some o =>
      rw [hk] at h
      obtain⟨c,d,da,sl⟩:=o
      dsimp only at h
      cases c with
      | type n=>cases da with
        | seq us' k =>
          have h:(bif n == "tuple" then some us'.toList else none)=some us:=h
          cases hn:n == "tuple" with
          | false=>rw [hn] at h; exact nn h
          | true=>rw [hn] at h; cases h; cases beq_iff_eq.mp hn; exact⟨d,k,sl,rfl⟩
        | _=>exact nn h
      | _=>exact nn h
  exact zk d n sl zh1
mutual
noncomputable def valOk (K:Frag):V→Value→Bool
  | .none,u=>(match u with | .none=>true | _=>false)
  | .bool b,u=>(match u with | .bool c=>b == c | _=>false)
  | .int i,u=>(match u with | .int j _=>i == j | _=>false)
  | .str s,u=>(match u with | .str x _=>s == x.cps.toList && decide (s.length≤1000) | _=>false)
  | .tup l,u=>(match u with
    | .ref a=>(match tupIn K a with | some us=>decide (l.length≤1000) && valsOk K l us | none=>false)
    | _=>false)
  | _,_=>false
noncomputable def valsOk (K:Frag):List V→List Value→Bool
  | [],us=>us.isEmpty
  | v::r,us=>(match us with | u::t=>valOk K v u && valsOk K r t | []=>false)
end
noncomputable def isMissing (r:Option (Option Value)):Bool:=match r with | some none=>true | _=>false
noncomputable def isRef (r:Option (Option Value)) (a:Nat):Bool:=match r with | some (some (.ref b))=>b == a | _=>false
noncomputable def glOk (K:Frag) (fa ca:List Nat) (x:Str) (g:GV):Bool:=match g with
  | .fn k=>(match fa[k]? with | some a=>isRef (nsIn K mainGlobals x) a | none=>false)
  | .val v=>(match nsIn K mainGlobals x with | some (some u)=>valOk K v u | _=>false)
  | .cls c=>(match ca[c]? with | some a=>isRef (nsIn K mainGlobals x) a && x == CLSN.getD c Str.empty | none=>false)
  | .pr _=>isMissing (nsIn K mainGlobals x)
  | .isi=>isMissing (nsIn K mainGlobals x) && x == Str.ofString "isinstance"
  | .typ _=>isMissing (nsIn K mainGlobals x)
noncomputable def lookG (x:Str):List (Str×GV)→Option GV
  | []=>none
  | (y,g)::r=>if x == y then some g else lookG x r
theorem lookG_1  {x}:lookG x ([])=(none):=rfl
theorem lookG_2  {x y g r}:lookG x ((y,g)::r)=(if x == y then some g else lookG x r):=rfl
theorem lookG_mem {x:Str} {g:GV}:∀ {gl:List (Str×GV)},lookG x gl=some g→(x,g)∈gl
  | (y,h)::r,e=>by
    rw [lookG_2] at e
    split at e
    · rename_i hb; cases e; rw [beq_iff_eq.mp hb]; exact .head _
    · exact .tail _ (lookG_mem e)
noncomputable def isFnv (K:Frag) (r:Option (Option Value)) (fa:List Nat) (k:Nat):Bool:=match fa[k]? with
  | some a=>isRef r a && (match typeIn K (.ref a) with | some t=>t == .type "function" | none=>false)
  | none=>false
noncomputable def isB (r:Option (Option Value)) (id:String):Bool:=match r with | some (some (.builtin i))=>i == id | _=>false
noncomputable def isNone1:Option (Option Addr)→Bool
  | some none=>true
  | _=>false
noncomputable def clsOk (K:Frag) (fa:List Nat) (C:Nat) (ci:CI):Bool :=
  makesIn K C && isFnv K (findIn K (.ref C) "__init__") fa ci.init && isB (findIn K (.ref C) "__getattribute__") "object.__getattribute__" && isMissing (findIn K (.ref C) "__getattr__") && hasDictIn K C &&
  (List.range 22).all (fun i=>(match findIn K (.ref C) (nmOf i) with | some at'=>noGet K at' | none=>false) && (match takerIn K C (nmOf i) with | some none=>true | _=>false)) &&
  isB (findIn K (.ref C) "__setattr__") "object.__setattr__" && plainOver K C &&
  ci.meths.all (fun p=>isFnv K (findIn K (.ref C) (mmOf p.1)) fa p.2 && (List.range 22).all fun i=>!(nmOf i == mmOf p.1))
noncomputable def chkFns (G:Str→Option GV) (K:Frag):List FI→List Nat→Bool
  | [],_=>true
  | fi::r,a::t=>chK G K fi a && chkFns G K r t
  | _::_,[]=>false
theorem chkFns_1  {G K zu1}:chkFns G K ([]) zu1=(true):=rfl
theorem chkFns_2  {G K fi r a t}:chkFns G K (fi::r) (a::t)=(chK G K fi a && chkFns G K r t):=rfl
theorem chkFns_3  {G K zu1 zu2}:chkFns G K (zu1::zu2) ([])=(false):=rfl
theorem chkFns_at {G:Str→Option GV} {K:Frag}:∀ {fns:List FI} {fa:List Nat},chkFns G K fns fa=true→∀(k:Nat) (fi:FI),fns[k]? = some fi→∃ a:Nat,fa[k]? = some a∧chK G K fi a=true
  | [],_,_,k,fi,e=>by simp at e
  | _::_,[],h,_,_,_=>by simp [chkFns_1,chkFns_2,chkFns_3] at h
  | fi::r,a::t,h,k,fi',e=>by
    simp only [chkFns_1,chkFns_2,chkFns_3,Bool.and_eq_true] at h
    cases k with
    | zero=>simp at e; subst e; exact⟨a,rfl,h.1⟩
    | succ k=>obtain⟨b,h1,h2⟩:=chkFns_at h.2 k fi' (by simpa using e); exact⟨b,by simpa using h1,h2⟩
noncomputable def surOk (K:Frag) (fa ca:List Nat) (gl:List (Str×GV)) (cls:List CI):Bool :=
  gl.all (fun p=>glOk K fa ca p.1 p.2) && fa.all (fun a=>keepIn K (.ref a)) && ca.all (fun a=>keepIn K (.ref a)) && kitAll K ca &&
  (List.range 5).all fun c=>(match ca[c]?,cls[c]? with | some C,some ci=>clsOk K fa C ci | _,_=>false)
noncomputable def T0of (K:Frag) (p:Addr) (ws:List Value):TS:=fun a i=>(a=p∧i=.ro ws)∨∃ us d n sl,i=.tup us∧K.lookup a=some ⟨.type "tuple",d,.seq us.toArray n,sl⟩
mutual
theorem valOk_vr {fa:List Nat} {K:Frag} {p:Addr} {ws:List Value}:∀ {v:V} {u:Value},valOk K v u=true→VR fa [] (T0of K p ws) v u
  | .none,u,h=>by cases u with
    | none=>exact .none
    | _=>exact ff h
  | .bool b,u,h=>by cases u with
    | bool c=>rw [beq_iff_eq.mp h]; exact .bool _
    | _=>exact ff h
  | .int i,u,h=>by cases u with
    | int c t=>rw [beq_iff_eq.mp h]; exact .int _ _
    | _=>exact ff h
  | .str s,u,h=>by cases u with
    | str x t =>
      obtain⟨h1,h2⟩:=and2 (a:=s == x.cps.toList) (b:=decide (s.length≤1000)) h
      have:=beq_iff_eq.mp h1
      subst this
      exact .str x.cps.toList t (by have:=of_decide_eq_true h2; unfold lim; exact Nat.not_lt.mp (lin [_] (.c 1 (.v 0) (.n 1000) (.c 1 (.a (.n 1048576) (.n 1)) (.v 0) .z)) rfl this))
    | _=>exact ff h
  | .tup l,u,h=>by cases u with
    | ref a =>
      have h:(match tupIn K a with | some us=>decide (l.length≤1000) && valsOk K l us | none=>false)=true:=h
      cases hk:tupIn K a with
      | none=>rw [hk] at h; exact ff h
      | some us =>
        rw [hk] at h
        obtain⟨h1,h2⟩:=and2 (a:=decide (l.length≤1000)) (b:=valsOk K l us) h
        refine tupIn_some_k hk fun d n sl hk=>?_
        exact .tup (ws:=us) (.inr ⟨us,d,n,sl,rfl,hk⟩) (by have:=of_decide_eq_true h1; unfold lim; exact Nat.not_lt.mp (lin [_] (.c 1 (.v 0) (.n 1000) (.c 1 (.a (.n 1048576) (.n 1)) (.v 0) .z)) rfl this)) (valsOk_vr h2)
    | _=>exact ff h
  | .loc n,u,h=>ff h
  | .rng a b c,u,h=>ff h
  | .fn k,u,h=>ff h
  | .ro l,u,h=>ff h
theorem valsOk_vr {fa:List Nat} {K:Frag} {p:Addr} {ws:List Value}:∀ {l:List V} {us:List Value},valsOk K l us=true→VRs fa [] (T0of K p ws) l us
  | [],us,h=>by
    have:=List.isEmpty_iff.mp (show us.isEmpty=true from h)
    subst this; exact .nil
  | v::r,us,h=>by
    cases us with
    | nil=>exact ff h
    | cons u t =>
      obtain⟨h1,h2⟩:=and2 (a:=valOk K v u) (b:=valsOk K r t) h
      exact .cons (valOk_vr h1) (valsOk_vr h2)
end
theorem isRef_eq {r:Option (Option Value)} {a:Nat} (h:isRef r a=true):r=some (some (.ref a)):=by
  unfold isRef at h; split at h
  · rw [beq_iff_eq.mp h]
  · first | exact ff h | exact nn h | cases h
theorem isMissing_eq {r:Option (Option Value)} (h:isMissing r=true):r=some none:=by
  unfold isMissing at h; split at h
  · rfl
  · first | exact ff h | exact nn h | cases h
theorem isB_eq {r:Option (Option Value)} {id:String} (h:isB r id=true):r=some (some (.builtin id)):=by
  unfold isB at h; split at h
  · rw [beq_iff_eq.mp h]
  · first | exact ff h | exact nn h | cases h
theorem isFnv_eq {K:Frag} {r:Option (Option Value)} {fa:List Nat} {k:Nat} (h:isFnv K r fa k=true):∃ a,fa[k]? = some a∧r=some (some (.ref a))∧typeIn K (.ref a)=some (.type "function"):=by
  unfold isFnv at h
  split at h
  · rename_i a ha
    simp only [Bool.and_eq_true] at h
    refine⟨a,ha,isRef_eq h.1,?_⟩
    have:=h.2
    split at this
    · rename_i t ht; rw [ht,beq_iff_eq.mp this]
    · first | exact ff this | exact nn this | cases this
  · first | exact ff h | exact nn h | cases h
theorem lookN_mem {α:Type} {m:Nat} {v:α}:∀ {l:List (Nat×α)},lookN m l=some v→(m,v)∈l
  | (j,u)::r,h=>by
    rw [lookN_2] at h
    split at h
    · rename_i hb; cases h; rw [beq_iff_eq.mp hb]; exact .head _
    · exact .tail _ (lookN_mem h)
theorem cx_of {S:Sur} {gl:List (Str×GV)} {mg mb:Str→Option Value} {p:Addr} {ws:List Value} (hG:∀ x,S.G x=lookG x gl) (hT:S.T0=T0of S.K p ws) (X:S.K.In S.h0) (lm:S.h0.NoLimit) (g1:S.h0.Ns mainGlobals mg) (g2:S.h0.Ns builtinsNs mb)
    (g3:∀ x:Str,x≠"__name__"→mb x=bootBuiltins x) (c1:surOk S.K S.fa S.ca gl S.P.cls=true) (c2:chkFns S.G S.K S.P.fns S.fa=true):Cx S:=by
  unfold surOk at c1
  simp only [Bool.and_eq_true] at c1
  obtain⟨⟨⟨⟨d1,d2⟩,d3⟩,d4⟩,d5⟩:=c1
  have gk:∀ x g,S.G x=some g→glOk S.K S.fa S.ca x g=true:=fun x g e=>List.all_eq_true.mp d1 (x,g) (lookG_mem ((hG x).symm.trans e))
  refine⟨X,lm,⟨mg,mb,g1,g2,g3⟩,fun x k e=>?_,fun x v e=>?_,fun x c e=>?_,fun x q e=>?_,fun x e=>?_,fun x k e=>?_,chkFns_at c2,fun k a e=>?_,fun k a e=>?_,fun c C h5 e=>?_,d4⟩
  · have:=gk x _ e
    simp only [glOk] at this
    split at this
    · rename_i a ha; exact⟨a,ha,isRef_eq this⟩
    · first | exact ff this | exact nn this | cases this
  · have:=gk x _ e
    unfold glOk at this
    simp only at this
    split at this
    · rename_i u hu; exact⟨u,hu,hT▸valOk_vr this⟩
    · first | exact ff this | exact nn this | cases this
  · have:=gk x _ e
    unfold glOk at this
    simp only at this
    split at this
    · rename_i a ha
      simp only [Bool.and_eq_true] at this
      exact⟨a,ha,isRef_eq this.1,beq_iff_eq.mp this.2⟩
    · first | exact ff this | exact nn this | cases this
  · exact isMissing_eq (gk x _ e)
  · have:=gk x _ e
    simp only [glOk,Bool.and_eq_true] at this
    exact⟨isMissing_eq this.1,beq_iff_eq.mp this.2⟩
  · exact isMissing_eq (gk x _ e)
  · exact List.all_eq_true.mp d2 a (List.mem_of_getElem? e)
  · exact List.all_eq_true.mp d3 a (List.mem_of_getElem? e)
  · have:=List.all_eq_true.mp d5 c (List.mem_range.mpr h5)
    rw [e] at this
    split at this
    · rename_i C' ci hC' hci
      cases hC'
      refine⟨ci,hci,?_⟩
      unfold clsOk at this
      simp only [Bool.and_eq_true] at this
      obtain⟨⟨⟨⟨⟨⟨⟨⟨a1,a2⟩,a3⟩,a4⟩,a5⟩,a6⟩,a7⟩,a8⟩,a9⟩:=this
      refine⟨a1,isFnv_eq a2,⟨isB_eq a3,isMissing_eq a4⟩,a5,fun i hi=>?_,fun i hi=>?_,isB_eq a7,a8,fun m k hm=>?_,fun m k i hm hi=>?_⟩
      · have:=List.all_eq_true.mp a6 i (List.mem_range.mpr hi)
        simp only [Bool.and_eq_true] at this
        have:=this.1
        split at this
        · rename_i at' ha; exact⟨at',ha,this⟩
        · first | exact ff this | exact nn this | cases this
      · have:=List.all_eq_true.mp a6 i (List.mem_range.mpr hi)
        simp only [Bool.and_eq_true] at this
        have:=this.2
        split at this
        · assumption
        · first | exact ff this | exact nn this | cases this
      · have hmem:=lookN_mem hm
        have:=List.all_eq_true.mp a9 _ hmem
        simp only [Bool.and_eq_true] at this
        exact isFnv_eq this.1
      · have hmem:=lookN_mem hm
        have:=List.all_eq_true.mp a9 _ hmem
        simp only [Bool.and_eq_true] at this
        have:=List.all_eq_true.mp this.2 i (List.mem_range.mpr hi)
        simpa using this
    · first | exact ff this | exact nn this | cases this
theorem ints_vrs {fa:List Nat} {as:As} {T:TS}:∀ {ws:List Value} {ns:List Int},IntsAre ws ns→VRs fa as T (ns.map .int) ws
  | _,_,.nil=>.nil
  | _,_,.cons n t r=>.cons (.int n t) (ints_vrs r)
theorem entry {S:Sur} (C:Cx S) {p:Addr} {ws:List Value} {ns:List Int} {k d:Nat} {a:Addr} {H':Hp} {A:Around} {E Q:Value→Shared→Prop} {s:Shared} (hT:S.T0=T0of S.K p ws) (hs:s.heap=S.h0) (hL:S.h0.IsList p ws.toArray) (hI:IntsAre ws ns) (hz:ns.length≤lim) (ao:AOkC A d) (ha:S.fa[k]? = some a)
    (hc:callF S.P d k [.ro (ns.map .int)] [] = some (.bool true,H')) (q:∀ h' tk,(∀ b o,S.h0.get? b=some o→h'.get? b=some o)→Q (.bool true) { s with heap:=h',toks:=tk }):wpAny (model S.prog S.w) A (call (.ref a) [.ref p]) Q E s:=by
  have hr:HR S [] S.T0 [] s.heap:=by
    rw [hs]
    refine⟨fun _ _ e=>e,rfl,fun n o q e=>by simp at e,.nil,fun a h=>by simp [owned] at h,fun b i t=>?_,fun _ _ t=>t,fun b us t=>?_,?_,fun a h=>by simp [owned] at h⟩
    · rw [hT] at t
      rcases t with⟨rfl,rfl⟩ | ⟨us,d,n,sl,rfl,hk⟩
      · exact hL
      · exact⟨_,C.X _ _ hk,rfl,n,rfl⟩
    · rw [hT] at t
      rcases t with⟨rfl,_⟩ | ⟨us,d,n,sl,q,hk⟩
      · obtain⟨o,ho,_⟩:=hL; exact⟨o,ho⟩
      · first | exact ff q | exact nn q | cases q
    · obtain⟨mc,n,_⟩:=C.lim
      exact ns_alive n
  refine wpAny_call (sound C d hc ao ha hr (.cons (.ro (ws:=ws) (hT▸.inl ⟨rfl,rfl⟩) (by rw [List.length_map]; exact hz) (ints_vrs hI)) .nil) fun w h' tk as' T' x hr' vr=>?_)
  cases boolE vr
  exact q h' tk hr'.base
end Mine
namespace Mine
noncomputable def b_row_of:List MS:=[.asg (.tup [.loc 2,.loc 3]) (.tup [.lst [],.lst [.loc 0]]),.whl (.cmp .gt (.prim .len [.loc 3]) (.lit (.int 0))) [.asg (.loc 4) (.bmeth (.loc 3) .pop []),.ife (.cmp .eq (.idx (.loc 4) (.lit (.int 0))) (.loc 1)) [.expr (.bmeth (.loc 3) .extend [.lst [.idx (.loc 4) (.lit (.int 2)),.idx (.loc 4) (.lit (.int 1))]])] [.expr (.bmeth (.loc 2) .append [.loc 4])]],.ret (.loc 2)]
noncomputable def b_is_plain_text:List MS:=[.ret (.and [.cmp .eq (.idx (.loc 0) (.lit (.int 0))) (.lit (.str [99,104,97,114,115])),.isin (.idx (.loc 0) (.lit (.int 1))) .str])]
noncomputable def b_with_texts_joined:List MS:=[.asg (.loc 1) (.lst []),.for (.one 2) (.loc 0) [.ife (.call (.glob (.fn 1)) [.loc 2]) [.ife (.cmp .eq (.idx (.loc 2) (.lit (.int 1))) (.lit (.str []))) [.cont] [],.ife (.and [.cmp .gt (.prim .len [.loc 1]) (.lit (.int 0)),.call (.glob (.fn 1)) [.idx (.loc 1) (.bin .sub (.prim .len [.loc 1]) (.lit (.int 1)))]]) [.asg (.loc 2) (.tup [.lit (.str [99,104,97,114,115]),.bin .add (.idx (.bmeth (.loc 1) .pop []) (.lit (.int 1))) (.idx (.loc 2) (.lit (.int 1)))])] []] [],.expr (.bmeth (.loc 1) .append [.loc 2])],.ret (.loc 1)]
noncomputable def b_PatternCode_init:List MS:=[.asg (.attr (.loc 0) 0) (.lst [])]
noncomputable def b_PatternCode_emit:List MS:=[.expr (.bmeth (.attr (.loc 0) 0) .append [.loc 1]),.ret (.bin .sub (.prim .len [.attr (.loc 0) 0]) (.lit (.int 1)))]
noncomputable def b_PatternCode_put:List MS:=[.asg (.loc 2) (.lst [.tup [.glob (.str [112,117,116]),.loc 1]]),.whl (.cmp .gt (.prim .len [.loc 2]) (.lit (.int 0))) [.asg (.tup [.loc 3,.loc 4]) (.bmeth (.loc 2) .pop []),.ife (.cmp .eq (.loc 3) (.glob (.str [112,117,116]))) [.expr (.bmeth (.loc 2) .extend [.slice (.meth (.loc 0) 103 [.loc 4]) (.lit .none) (.lit .none) (.neg (.lit (.int 1)))])] [.ife (.cmp .eq (.loc 3) (.glob (.str [101,109,105,116]))) [.expr (.meth (.loc 0) 101 [.loc 4])] [.expr (.meth (.loc 0) 106 [.loc 3,.loc 4])]]]]
noncomputable def b_PatternCode_begun:List MS:=[.asg (.loc 2) (.idx (.loc 1) (.lit (.int 0))),.ife (.cmp .eq (.loc 2) (.lit (.str [99,97,116]))) [.ret (.comp (.tup [.glob (.str [112,117,116]),.loc 3]) (.call (.glob (.fn 2)) [.call (.glob (.fn 0)) [.loc 1,.lit (.str [99,97,116])]]) (.one 3) 1 [])] [],.ife (.cmp .eq (.loc 2) (.lit (.str [97,108,116]))) [.ret (.meth (.loc 0) 104 [.call (.glob (.fn 0)) [.loc 1,.lit (.str [97,108,116])]])] [],.ife (.cmp .eq (.loc 2) (.lit (.str [97,114,98,110,111]))) [.ret (.meth (.loc 0) 105 [.idx (.loc 1) (.lit (.int 1))])] [],.ife (.or [.cmp .eq (.loc 2) (.lit (.str [108,97,116,101,114])),.cmp .eq (.loc 2) (.lit (.str [110,111,119]))]) [.expr (.meth (.loc 0) 101 [.tup [.glob (.str [109,97,114,107])]]),.ret (.lst [.tup [.glob (.str [112,117,116]),.idx (.loc 1) (.lit (.int 1))],.tup [.glob (.str [101,109,105,116]),.tup [.ife (.cmp .eq (.loc 2) (.lit (.str [108,97,116,101,114]))) (.glob (.str [110,97,109,101])) (.glob (.str [115,101,116])),.idx (.loc 1) (.lit (.int 2))]]])] [],.ife (.cmp .isin (.loc 2) (.glob (.tup [.str [99,104,97,114,115],.str [108,101,110],.str [112,111,115],.str [114,112,111,115],.str [116,97,98],.str [114,116,97,98],.str [97,110,121],.str [110,111,116,97,110,121],.str [115,112,97,110],.str [98,114,101,97,107],.str [114,101,109]]))) [.expr (.meth (.loc 0) 101 [.tup [.glob (.str [111,110,101]),.loc 2,.ife (.cmp .gt (.prim .len [.loc 1]) (.lit (.int 1))) (.idx (.loc 1) (.lit (.int 1))) (.lit (.none))]])] [.ife (.or [.cmp .eq (.loc 2) (.lit (.str [97,114,98])),.cmp .eq (.loc 2) (.lit (.str [98,97,108]))]) [.expr (.meth (.loc 0) 101 [.tup [.glob (.str [119,97,121,115]),.loc 2]])] [.expr (.meth (.loc 0) 101 [.ife (.cmp .isin (.loc 2) (.glob (.tup [.str [102,101,110,99,101],.str [102,97,105,108],.str [97,98,111,114,116],.str [115,117,99,99,101,101,100]]))) (.tup [.loc 2]) (.tup [.ife (.cmp .eq (.loc 2) (.lit (.str [99,117,114,115,111,114]))) (.glob (.str [112,108,97,99,101])) (.glob (.str [97,115,107])),.idx (.loc 1) (.lit (.int 1))])])]],.ret (.lst [])]
noncomputable def b_PatternCode_choice:List MS:=[.asg (.tup [.loc 2,.loc 3]) (.tup [.lst [],.lst [.neg (.lit (.int 1)),.lst []]]),.for (.one 4) (.slice (.loc 1) (.lit .none) (.bin .sub (.prim .len [.loc 1]) (.lit (.int 1))) (.lit .none)) [.expr (.bmeth (.loc 2) .extend [.lst [.tup [.glob (.str [111,112,101,110]),.loc 3],.tup [.glob (.str [112,117,116]),.loc 4],.tup [.glob (.str [115,104,117,116]),.loc 3]]])],.ret (.bin .add (.loc 2) (.lst [.tup [.glob (.str [112,117,116]),.idx (.loc 1) (.bin .sub (.prim .len [.loc 1]) (.lit (.int 1)))],.tup [.glob (.str [109,101,101,116]),.loc 3]]))]
noncomputable def b_PatternCode_repeat:List MS:=[.bad]
noncomputable def b_PatternCode_bound:List MS:=[.ife (.cmp .eq (.loc 1) (.glob (.str [111,112,101,110]))) [.asg (.idx (.loc 2) (.lit (.int 0))) (.meth (.loc 0) 101 [.lit (.none)])] [.ife (.cmp .eq (.loc 1) (.glob (.str [115,104,117,116]))) [.expr (.bmeth (.idx (.loc 2) (.lit (.int 1))) .append [.meth (.loc 0) 101 [.lit (.none)]]),.asg (.idx (.attr (.loc 0) 0) (.idx (.loc 2) (.lit (.int 0)))) (.tup [.glob (.str [115,112,108,105,116]),.prim .len [.attr (.loc 0) 0]])] [.for (.one 3) (.idx (.loc 2) (.lit (.int 1))) [.asg (.idx (.attr (.loc 0) 0) (.loc 3)) (.tup [.glob (.str [106,117,109,112]),.prim .len [.attr (.loc 0) 0]])]]]]
noncomputable def b_straightened:List MS:=[.asg (.loc 1) (.lst []),.for (.one 2) (.loc 0) [.ife (.cmp .isin (.idx (.loc 2) (.lit (.int 0))) (.tup [.glob (.str [106,117,109,112]),.glob (.str [115,112,108,105,116])])) [.asg (.loc 3) (.idx (.loc 2) (.lit (.int 1))),.whl (.cmp .eq (.idx (.idx (.loc 0) (.loc 3)) (.lit (.int 0))) (.glob (.str [106,117,109,112]))) [.asg (.loc 3) (.idx (.idx (.loc 0) (.loc 3)) (.lit (.int 1)))],.asg (.loc 2) (.tup [.idx (.loc 2) (.lit (.int 0)),.loc 3])] [],.expr (.bmeth (.loc 1) .append [.loc 2])],.ret (.loc 1)]
noncomputable def b_compile_pattern:List MS:=[.asg (.loc 1) (.new 0 []),.expr (.meth (.loc 1) 102 [.loc 0]),.expr (.meth (.loc 1) 101 [.tup [.glob (.str [100,111,110,101])]]),.ret (.call (.glob (.fn 10)) [.attr (.loc 1) 0])]
noncomputable def b_SnobolError_init:List MS:=[.bad]
noncomputable def b_Pattern_init:List MS:=[.bad]
noncomputable def b_Delayed_init:List MS:=[.bad]
noncomputable def b_NameRef_init:List MS:=[.asg (.attr (.loc 0) 15) (.loc 1),.asg (.attr (.loc 0) 16) (.loc 2),.asg (.attr (.loc 0) 17) (.loc 3)]
noncomputable def b_is_fail:List MS:=[.bad]
noncomputable def b_fits:List MS:=[.bad]
noncomputable def b_whole_of_text:List MS:=[.bad]
noncomputable def b_text_of_whole:List MS:=[.bad]
noncomputable def b_to_whole:List MS:=[.bad]
noncomputable def b_to_text:List MS:=[.bad]
noncomputable def b_need_text:List MS:=[.bad]
noncomputable def b_plain_count:List MS:=[.bad]
noncomputable def b_plain_signs:List MS:=[.bad]
noncomputable def b_pattern_of:List MS:=[.bad]
noncomputable def b_is_delayed:List MS:=[.ret (.isin (.loc 0) .tuple)]
noncomputable def b_settled:List MS:=[.ife (.or [.and [.cmp .notin (.idx (.loc 0) (.lit (.int 0))) (.glob (.tup [.str [108,101,110],.str [112,111,115],.str [114,112,111,115],.str [116,97,98],.str [114,116,97,98]])),.cmp .notin (.idx (.loc 0) (.lit (.int 0))) (.glob (.tup [.str [97,110,121],.str [110,111,116,97,110,121],.str [115,112,97,110],.str [98,114,101,97,107]]))],.not (.call (.glob (.fn 26)) [.idx (.loc 0) (.lit (.int 1))])]) [.ret (.loc 0)] [],.asg (.loc 2) (.meth (.loc 1) 116 [.idx (.idx (.loc 0) (.lit (.int 1))) (.lit (.int 1))]),.ife (.call (.glob (.fn 16)) [.loc 2]) [.ret (.lit (.none))] [],.ife (.cmp .isin (.idx (.loc 0) (.lit (.int 0))) (.glob (.tup [.str [108,101,110],.str [112,111,115],.str [114,112,111,115],.str [116,97,98],.str [114,116,97,98]]))) [.ret (.tup [.idx (.loc 0) (.lit (.int 0)),.call (.glob (.fn 23)) [.loc 2,.idx (.loc 0) (.lit (.int 0)),.attr (.loc 1) 12]])] [],.ret (.tup [.idx (.loc 0) (.lit (.int 0)),.call (.glob (.fn 24)) [.loc 2,.idx (.loc 0) (.lit (.int 0))]])]
noncomputable def b_chars_end:List MS:=[.asg (.loc 3) (.bin .add (.loc 1) (.prim .len [.loc 2])),.ret (.ife (.cmp .eq (.slice (.loc 0) (.loc 1) (.loc 3) (.lit .none)) (.loc 2)) (.loc 3) (.lit (.none)))]
noncomputable def b_len_end:List MS:=[.bad]
noncomputable def b_pos_end:List MS:=[.bad]
noncomputable def b_rpos_end:List MS:=[.bad]
noncomputable def b_tab_end:List MS:=[.bad]
noncomputable def b_rtab_end:List MS:=[.bad]
noncomputable def b_rem_end:List MS:=[.bad]
noncomputable def b_any_at:List MS:=[.bad]
noncomputable def b_notany_at:List MS:=[.bad]
noncomputable def b_run_end:List MS:=[.bad]
noncomputable def b_span_end:List MS:=[.bad]
noncomputable def b_break_end:List MS:=[.bad]
noncomputable def b_arb_ends:List MS:=[.bad]
noncomputable def b_bal_end:List MS:=[.bad]
noncomputable def b_bal_ends:List MS:=[.bad]
noncomputable def b_one_end:List MS:=[.ife (.cmp .eq (.loc 0) (.lit (.str [99,104,97,114,115]))) [.ret (.call (.glob (.fn 28)) [.loc 1,.loc 2,.loc 3])] [],.ife (.cmp .eq (.loc 0) (.lit (.str [108,101,110]))) [.ret (.call (.glob (.fn 29)) [.loc 1,.loc 2,.loc 3])] [],.ife (.cmp .eq (.loc 0) (.lit (.str [112,111,115]))) [.ret (.call (.glob (.fn 30)) [.loc 2,.loc 3])] [],.ife (.cmp .eq (.loc 0) (.lit (.str [114,112,111,115]))) [.ret (.call (.glob (.fn 31)) [.loc 1,.loc 2,.loc 3])] [],.ife (.cmp .eq (.loc 0) (.lit (.str [116,97,98]))) [.ret (.call (.glob (.fn 32)) [.loc 1,.loc 2,.loc 3])] [],.ife (.cmp .eq (.loc 0) (.lit (.str [114,116,97,98]))) [.ret (.call (.glob (.fn 33)) [.loc 1,.loc 2,.loc 3])] [],.ife (.cmp .eq (.loc 0) (.lit (.str [97,110,121]))) [.ret (.call (.glob (.fn 35)) [.loc 1,.loc 2,.loc 3])] [],.ife (.cmp .eq (.loc 0) (.lit (.str [110,111,116,97,110,121]))) [.ret (.call (.glob (.fn 36)) [.loc 1,.loc 2,.loc 3])] [],.ife (.cmp .eq (.loc 0) (.lit (.str [115,112,97,110]))) [.ret (.call (.glob (.fn 38)) [.loc 1,.loc 2,.loc 3])] [],.ret (.call (.glob (.fn 39)) [.loc 1,.loc 2,.loc 3])]
noncomputable def b_plain_end:List MS:=[.ret (.ife (.cmp .eq (.idx (.loc 0) (.lit (.int 0))) (.lit (.str [114,101,109]))) (.call (.glob (.fn 34)) [.loc 1]) (.call (.glob (.fn 43)) [.idx (.loc 0) (.lit (.int 0)),.loc 1,.loc 2,.idx (.loc 0) (.lit (.int 1))]))]
noncomputable def b_ends_of:List MS:=[.bad]
noncomputable def b_Way_init:List MS:=[.asg (.attr (.loc 0) 0) (.loc 1),.asg (.attr (.loc 0) 1) (.loc 2),.asg (.attr (.loc 0) 2) (.loc 3),.asg (.attr (.loc 0) 3) (.loc 4),.asg (.attr (.loc 0) 4) (.loc 5),.asg (.attr (.loc 0) 5) (.loc 6)]
noncomputable def b_Way_copied:List MS:=[.ret (.new 2 [.attr (.loc 0) 0,.loc 1,.attr (.loc 0) 2,.attr (.loc 0) 3,.attr (.loc 0) 4,.attr (.loc 0) 5])]
noncomputable def b_Match_init:List MS:=[.asg (.attr (.loc 0) 6) (.loc 1),.asg (.attr (.loc 0) 7) (.loc 2),.asg (.attr (.loc 0) 8) (.lst [])]
noncomputable def b_Match_run:List MS:=[.asg (.loc 3) (.new 2 [.loc 1,.lit (.int 0),.loc 2,.lit (.none),.lit (.none),.lit (.none)]),.whl (.cmp .isnot (.loc 3) (.lit (.none))) [.expr (.meth (.attr (.loc 0) 7) 118 []),.asg (.loc 4) (.idx (.attr (.loc 3) 0) (.attr (.loc 3) 1)),.ife (.and [.cmp .eq (.idx (.loc 4) (.lit (.int 0))) (.glob (.str [100,111,110,101])),.cmp .is (.attr (.loc 3) 5) (.lit (.none))]) [.ret (.tup [.glob (.int 0),.loc 3])] [],.ife (.cmp .eq (.idx (.loc 4) (.lit (.int 0))) (.glob (.str [97,98,111,114,116]))) [.ret (.tup [.glob (.int 2),.lit (.none)])] [],.ife (.not (.meth (.loc 0) 110 [.loc 4,.loc 3])) [.asg (.loc 3) (.meth (.loc 0) 109 []),.ife (.and [.cmp .isnot (.loc 3) (.lit (.none)),.cmp .is (.attr (.loc 3) 0) (.lit (.none))]) [.ret (.tup [.glob (.int 2),.lit (.none)])] []] []],.ret (.tup [.glob (.int 1),.lit (.none)])]
noncomputable def b_Match_way_back:List MS:=[.ret (.ife (.cmp .gt (.prim .len [.attr (.loc 0) 8]) (.lit (.int 0))) (.bmeth (.attr (.loc 0) 8) .pop []) (.lit (.none)))]
noncomputable def b_Match_done:List MS:=[.asg (.loc 3) (.idx (.loc 1) (.lit (.int 0))),.ife (.cmp .eq (.loc 3) (.glob (.str [111,110,101]))) [.ret (.meth (.loc 0) 111 [.loc 1,.loc 2])] [],.ife (.cmp .eq (.loc 3) (.glob (.str [115,112,108,105,116]))) [.expr (.bmeth (.attr (.loc 0) 8) .append [.meth (.loc 2) 107 [.idx (.loc 1) (.lit (.int 1))]])] [.ife (.cmp .eq (.loc 3) (.glob (.str [106,117,109,112]))) [.asg (.attr (.loc 2) 1) (.idx (.loc 1) (.lit (.int 1))),.ret (.lit (.bool true))] [.ife (.cmp .eq (.loc 3) (.glob (.str [109,97,114,107]))) [.asg (.attr (.loc 2) 4) (.tup [.attr (.loc 2) 4,.attr (.loc 2) 2])] [.ife (.cmp .isin (.loc 3) (.tup [.glob (.str [110,97,109,101]),.glob (.str [115,101,116]),.glob (.str [103,97,105,110])])) [.ife (.not (.meth (.loc 0) 112 [.loc 1,.loc 2])) [.ret (.lit (.bool false))] []] [.ife (.cmp .eq (.loc 3) (.glob (.str [112,108,97,99,101]))) [.ife (.not (.meth (.attr (.loc 0) 7) 117 [.idx (.loc 1) (.lit (.int 1)),.attr (.loc 2) 2])) [.ret (.lit (.bool false))] []] [.ret (.meth (.loc 0) 113 [.loc 1,.loc 2])]]]]],.auga (.loc 2) 1 .add (.lit (.int 1)),.ret (.lit (.bool true))]
noncomputable def b_Match_met_once:List MS:=[.asg (.loc 3) (.idx (.loc 1) (.lit (.int 2))),.ife (.isin (.loc 3) .tuple) [.asg (.loc 4) (.call (.glob (.fn 27)) [.tup [.idx (.loc 1) (.lit (.int 1)),.loc 3],.attr (.loc 0) 7]),.ife (.cmp .is (.loc 4) (.lit (.none))) [.ret (.lit (.bool false))] [],.asg (.loc 3) (.idx (.loc 4) (.lit (.int 1)))] [],.asg (.loc 5) (.call (.glob (.fn 44)) [.tup [.idx (.loc 1) (.lit (.int 1)),.loc 3],.attr (.loc 0) 6,.attr (.loc 2) 2]),.ife (.cmp .is (.loc 5) (.lit (.none))) [.ret (.lit (.bool false))] [],.asg (.attr (.loc 2) 2) (.loc 5),.auga (.loc 2) 1 .add (.lit (.int 1)),.ret (.lit (.bool true))]
noncomputable def b_Match_ended:List MS:=[.asg (.tup [.loc 3,.loc 4]) (.attr (.loc 2) 4),.asg (.attr (.loc 2) 4) (.loc 3),.asg (.loc 5) (.slice (.attr (.loc 0) 6) (.loc 4) (.attr (.loc 2) 2) (.lit .none)),.ife (.cmp .eq (.idx (.loc 1) (.lit (.int 0))) (.glob (.str [103,97,105,110]))) [.ret (.cmp .gt (.attr (.loc 2) 2) (.loc 4))] [],.ife (.cmp .eq (.idx (.loc 1) (.lit (.int 0))) (.glob (.str [115,101,116]))) [.ret (.meth (.attr (.loc 0) 7) 117 [.idx (.loc 1) (.lit (.int 1)),.loc 5])] [],.asg (.attr (.loc 2) 3) (.tup [.attr (.loc 2) 3,.tup [.idx (.loc 1) (.lit (.int 1)),.loc 5]]),.ret (.lit (.bool true))]
noncomputable def b_Match_other:List MS:=[.bad]
noncomputable def b_Match_met_often:List MS:=[.bad]
noncomputable def b_Match_asked:List MS:=[.bad]
noncomputable def b_named_rows:List MS:=[.asg (.loc 1) (.lst []),.whl (.cmp .isnot (.loc 0) (.lit (.none))) [.asg (.tup [.loc 0,.loc 2]) (.loc 0),.expr (.bmeth (.loc 1) .append [.loc 2])],.expr (.bmeth (.loc 1) .reverse []),.ret (.loc 1)]
noncomputable def b_match_orders:List MS:=[.for (.one 4) (.prim .range [.ife (.loc 2) (.lit (.int 1)) (.bin .add (.prim .len [.loc 1]) (.lit (.int 1)))]) [.asg (.tup [.loc 5,.loc 6]) (.meth (.new 3 [.loc 1,.loc 3]) 108 [.loc 0,.loc 4]),.ife (.cmp .eq (.loc 5) (.glob (.int 0))) [.ret (.tup [.loc 4,.attr (.loc 6) 2,.call (.glob (.fn 57)) [.attr (.loc 6) 3]])] [],.ife (.cmp .eq (.loc 5) (.glob (.int 2))) [.ret (.lit (.none))] []],.ret (.lit (.none))]
noncomputable def b_match_compiled:List MS:=[.ret (.call (.glob (.fn 58)) [.call (.glob (.fn 11)) [.loc 0],.loc 1,.loc 2,.loc 3])]
noncomputable def b_PlainHost_init:List MS:=[.asg (.attr (.loc 0) 9) (.loc 1),.asg (.attr (.loc 0) 10) (.loc 2),.asg (.attr (.loc 0) 11) (.loc 3),.asg (.attr (.loc 0) 12) (.lit (.int 64)),.asg (.attr (.loc 0) 13) (.lit (.int 0)),.asg (.attr (.loc 0) 14) (.lst [])]
noncomputable def b_PlainHost_value_of:List MS:=[.bad]
noncomputable def b_PlainHost_assign:List MS:=[.bad]
noncomputable def b_PlainHost_step:List MS:=[.auga (.loc 0) 13 .add (.lit (.int 1)),.ife (.cmp .gt (.attr (.loc 0) 13) (.attr (.loc 0) 10)) [.bad] []]
noncomputable def b_match_plain:List MS:=[.for (.one 4) (.prim .range [.ife (.loc 2) (.lit (.int 1)) (.bin .add (.prim .len [.loc 1]) (.lit (.int 1)))]) [.asg (.loc 5) (.call (.glob (.fn 65)) [.loc 0,.loc 1,.loc 4,.loc 3]),.ife (.cmp .isnot (.loc 5) (.lit (.none))) [.ret (.ife (.cmp .eq (.loc 5) (.glob (.str [108,111,115,116]))) (.lit (.none)) (.loc 5))] []],.ret (.lit (.none))]
noncomputable def b_match_at:List MS:=[.asg (.loc 4) (.call (.glob (.fn 66)) [.loc 0,.loc 1,.loc 2,.loc 3]),.ret (.ife (.or [.cmp .is (.loc 4) (.lit (.none)),.cmp .eq (.loc 4) (.glob (.str [108,111,115,116]))]) (.loc 4) (.tup [.loc 2,.idx (.loc 4) (.lit (.int 0)),.idx (.loc 4) (.lit (.int 1))]))]
noncomputable def b_tried:List MS:=[.asg (.loc 4) (.lst [.tup [.tup [.loc 0,.lit (.none)],.loc 2,.tup []]]),.whl (.cmp .gt (.prim .len [.loc 4]) (.lit (.int 0))) [.asg (.loc 5) (.bmeth (.loc 4) .pop []),.ife (.cmp .is (.loc 5) (.lit (.none))) [.ret (.glob (.str [108,111,115,116]))] [],.asg (.tup [.loc 6,.loc 7,.loc 8]) (.loc 5),.whl (.cmp .isnot (.loc 6) (.lit (.none))) [.expr (.meth (.loc 3) 118 []),.asg (.loc 5) (.call (.glob (.fn 67)) [.loc 6,.loc 7,.loc 8,.loc 1,.loc 4,.loc 3]),.ife (.cmp .is (.loc 5) (.lit (.none))) [.brk] [],.ife (.cmp .eq (.loc 5) (.glob (.str [108,111,115,116]))) [.ret (.glob (.str [108,111,115,116]))] [],.asg (.tup [.loc 6,.loc 7,.loc 8]) (.loc 5)],.ife (.cmp .is (.loc 6) (.lit (.none))) [.ret (.tup [.loc 7,.prim .list [.loc 8]])] []],.ret (.lit (.none))]
noncomputable def b_advanced:List MS:=[.asg (.tup [.loc 6,.loc 7]) (.loc 0),.asg (.loc 8) (.idx (.loc 6) (.lit (.int 0))),.ife (.cmp .isin (.loc 8) (.tup [.lit (.str [99,97,116]),.lit (.str [97,108,116]),.lit (.str [97,114,98,110,111]),.lit (.str [108,97,116,101,114]),.lit (.str [110,111,119])])) [.ret (.call (.glob (.fn 68)) [.loc 6,.loc 7,.loc 1,.loc 2,.loc 4])] [],.ife (.cmp .eq (.slice (.loc 8) (.lit .none) (.lit (.int 4)) (.lit .none)) (.lit (.str [101,110,100,32]))) [.ret (.call (.glob (.fn 69)) [.loc 6,.loc 7,.loc 1,.loc 2,.loc 3,.loc 4,.loc 5])] [],.ife (.cmp .eq (.loc 8) (.lit (.str [99,117,114,115,111,114]))) [.ret (.ife (.meth (.loc 5) 117 [.idx (.loc 6) (.lit (.int 1)),.loc 1]) (.tup [.loc 7,.loc 1,.loc 2]) (.lit (.none)))] [],.ife (.cmp .eq (.loc 8) (.lit (.str [100,101,108,97,121]))) [.asg (.loc 9) (.meth (.loc 5) 116 [.idx (.loc 6) (.lit (.int 1))]),.ret (.ife (.call (.glob (.fn 16)) [.loc 9]) (.lit (.none)) (.tup [.tup [.call (.glob (.fn 25)) [.loc 9],.loc 7],.loc 1,.loc 2]))] [],.ife (.cmp .isin (.loc 8) (.tup [.lit (.str [102,101,110,99,101]),.lit (.str [97,98,111,114,116]),.lit (.str [102,97,105,108]),.lit (.str [115,117,99,99,101,101,100])])) [.ret (.call (.glob (.fn 70)) [.loc 0,.loc 1,.loc 2,.loc 4])] [],.ret (.call (.glob (.fn 71)) [.loc 6,.loc 7,.loc 1,.loc 2,.loc 3,.loc 4,.loc 5])]
noncomputable def b_led_in:List MS:=[.asg (.loc 5) (.idx (.loc 0) (.lit (.int 0))),.ife (.cmp .eq (.loc 5) (.lit (.str [99,97,116]))) [.ret (.tup [.tup [.idx (.loc 0) (.lit (.int 1)),.tup [.idx (.loc 0) (.lit (.int 2)),.loc 1]],.loc 2,.loc 3])] [],.ife (.cmp .eq (.loc 5) (.lit (.str [97,108,116]))) [.expr (.bmeth (.loc 4) .append [.tup [.tup [.idx (.loc 0) (.lit (.int 2)),.loc 1],.loc 2,.loc 3]]),.ret (.tup [.tup [.idx (.loc 0) (.lit (.int 1)),.loc 1],.loc 2,.loc 3])] [],.ife (.cmp .eq (.loc 5) (.lit (.str [97,114,98,110,111]))) [.expr (.bmeth (.loc 4) .append [.tup [.tup [.idx (.loc 0) (.lit (.int 1)),.tup [.tup [.lit (.str [101,110,100,32,114,111,117,110,100]),.loc 0,.loc 2],.loc 1]],.loc 2,.loc 3]]),.ret (.tup [.loc 1,.loc 2,.loc 3])] [],.ret (.tup [.tup [.idx (.loc 0) (.lit (.int 1)),.tup [.tup [.bin .add (.lit (.str [101,110,100,32])) (.loc 5),.idx (.loc 0) (.lit (.int 2)),.loc 2],.loc 1]],.loc 2,.loc 3])]
noncomputable def b_led_out:List MS:=[.asg (.tup [.loc 7,.loc 8,.loc 9]) (.loc 0),.ife (.cmp .eq (.loc 7) (.lit (.str [101,110,100,32,108,97,116,101,114]))) [.ret (.tup [.loc 1,.loc 2,.bin .add (.loc 3) (.tup [.tup [.loc 8,.slice (.loc 4) (.loc 9) (.loc 2) (.lit .none)]])])] [],.ife (.cmp .eq (.loc 7) (.lit (.str [101,110,100,32,110,111,119]))) [.ret (.ife (.meth (.loc 6) 117 [.loc 8,.slice (.loc 4) (.loc 9) (.loc 2) (.lit .none)]) (.tup [.loc 1,.loc 2,.loc 3]) (.lit (.none)))] [],.ret (.ife (.cmp .eq (.loc 2) (.loc 9)) (.lit (.none)) (.tup [.tup [.loc 8,.loc 1],.loc 2,.loc 3]))]
noncomputable def b_steered:List MS:=[.bad]
noncomputable def b_taken:List MS:=[.asg (.loc 7) (.idx (.loc 0) (.lit (.int 0))),.ife (.cmp .eq (.loc 7) (.lit (.str [97,114,98]))) [.ife (.cmp .lt (.loc 2) (.prim .len [.loc 4])) [.expr (.bmeth (.loc 5) .append [.tup [.tup [.loc 0,.loc 1],.bin .add (.loc 2) (.lit (.int 1)),.loc 3]])] [],.ret (.tup [.loc 1,.loc 2,.loc 3])] [],.ife (.cmp .eq (.loc 7) (.lit (.str [98,97,108]))) [.asg (.loc 8) (.call (.glob (.fn 42)) [.loc 4,.loc 2]),.for (.one 9) (.slice (.loc 8) (.lit .none) (.lit (.int 0)) (.neg (.lit (.int 1)))) [.expr (.bmeth (.loc 5) .append [.tup [.loc 1,.loc 9,.loc 3]])],.ret (.ife (.cmp .gt (.prim .len [.loc 8]) (.lit (.int 0))) (.tup [.loc 1,.idx (.loc 8) (.lit (.int 0)),.loc 3]) (.lit (.none)))] [],.asg (.loc 10) (.call (.glob (.fn 27)) [.loc 0,.loc 6]),.ife (.cmp .is (.loc 10) (.lit (.none))) [.ret (.lit (.none))] [],.asg (.loc 9) (.call (.glob (.fn 44)) [.loc 10,.loc 4,.loc 2]),.ret (.ife (.cmp .is (.loc 9) (.lit (.none))) (.lit (.none)) (.tup [.loc 1,.loc 9,.loc 3]))]
noncomputable def fnsC:List FI:=[⟨2,5,b_row_of⟩,
  ⟨1,1,b_is_plain_text⟩,
  ⟨1,3,b_with_texts_joined⟩,
  ⟨1,1,b_PatternCode_init⟩,
  ⟨2,2,b_PatternCode_emit⟩,
  ⟨2,5,b_PatternCode_put⟩,
  ⟨2,3,b_PatternCode_begun⟩,
  ⟨2,5,b_PatternCode_choice⟩,
  ⟨2,4,b_PatternCode_repeat⟩,
  ⟨3,4,b_PatternCode_bound⟩,
  ⟨1,4,b_straightened⟩,
  ⟨1,2,b_compile_pattern⟩,
  ⟨3,3,b_SnobolError_init⟩,
  ⟨2,2,b_Pattern_init⟩,
  ⟨2,2,b_Delayed_init⟩,
  ⟨4,4,b_NameRef_init⟩,
  ⟨1,1,b_is_fail⟩,
  ⟨2,2,b_fits⟩,
  ⟨2,5,b_whole_of_text⟩,
  ⟨1,3,b_text_of_whole⟩,
  ⟨2,2,b_to_whole⟩,
  ⟨1,1,b_to_text⟩,
  ⟨1,2,b_need_text⟩,
  ⟨3,4,b_plain_count⟩,
  ⟨2,3,b_plain_signs⟩,
  ⟨1,2,b_pattern_of⟩,
  ⟨1,1,b_is_delayed⟩,
  ⟨2,3,b_settled⟩,
  ⟨3,4,b_chars_end⟩,
  ⟨3,3,b_len_end⟩,
  ⟨2,2,b_pos_end⟩,
  ⟨3,3,b_rpos_end⟩,
  ⟨3,3,b_tab_end⟩,
  ⟨3,4,b_rtab_end⟩,
  ⟨1,1,b_rem_end⟩,
  ⟨3,3,b_any_at⟩,
  ⟨3,3,b_notany_at⟩,
  ⟨4,4,b_run_end⟩,
  ⟨3,4,b_span_end⟩,
  ⟨3,4,b_break_end⟩,
  ⟨2,2,b_arb_ends⟩,
  ⟨2,3,b_bal_end⟩,
  ⟨2,4,b_bal_ends⟩,
  ⟨4,4,b_one_end⟩,
  ⟨3,3,b_plain_end⟩,
  ⟨4,5,b_ends_of⟩,
  ⟨7,7,b_Way_init⟩,
  ⟨2,2,b_Way_copied⟩,
  ⟨3,3,b_Match_init⟩,
  ⟨3,5,b_Match_run⟩,
  ⟨1,1,b_Match_way_back⟩,
  ⟨3,4,b_Match_done⟩,
  ⟨3,6,b_Match_met_once⟩,
  ⟨3,6,b_Match_ended⟩,
  ⟨3,4,b_Match_other⟩,
  ⟨3,5,b_Match_met_often⟩,
  ⟨3,4,b_Match_asked⟩,
  ⟨1,3,b_named_rows⟩,
  ⟨4,7,b_match_orders⟩,
  ⟨4,4,b_match_compiled⟩,
  ⟨4,4,b_PlainHost_init⟩,
  ⟨2,2,b_PlainHost_value_of⟩,
  ⟨3,3,b_PlainHost_assign⟩,
  ⟨1,1,b_PlainHost_step⟩,
  ⟨4,6,b_match_plain⟩,
  ⟨4,5,b_match_at⟩,
  ⟨4,9,b_tried⟩,
  ⟨6,10,b_advanced⟩,
  ⟨5,6,b_led_in⟩,
  ⟨7,10,b_led_out⟩,
  ⟨4,6,b_steered⟩,
  ⟨7,11,b_taken⟩]
noncomputable def clsC:List CI:=[⟨3,[(101,4),(102,5),(103,6),(104,7),(105,8),(106,9)]⟩,⟨15,[]⟩,⟨46,[(107,47)]⟩,⟨48,[(108,49),(109,50),(110,51),(111,52),(112,53),(113,54),(114,55),(115,56)]⟩,⟨60,[(116,61),(117,62),(118,63)]⟩,⟨0,[]⟩,⟨13,[]⟩,⟨14,[]⟩,⟨12,[]⟩]
end Mine
namespace Mine
namespace L3
noncomputable def b_law_next:List MS:=[.asg (.tup [.loc 2,.loc 3]) (.loc 0),.asg (.idx (.loc 0) (.lit (.int 1))) (.bin .add (.loc 3) (.lit (.int 1))),.ife (.cmp .lt (.loc 3) (.prim .len [.loc 2])) [.ret (.bin .mod (.prim .abs [.prim .int [.idx (.loc 2) (.loc 3)]]) (.loc 1))] [],.ret (.bin .mod (.bin .add (.bin .add (.bin .add (.bin .mul (.lit (.int 5)) (.loc 3)) (.bin .fdiv (.bin .mul (.loc 3) (.loc 3)) (.lit (.int 3)))) (.lit (.int 3))) (.prim .len [.loc 2])) (.loc 1))]
noncomputable def b_law_node:List MS:=[.asg (.loc 2) (.ife (.cmp .gt (.loc 1) (.lit (.int 0))) (.call (.glob (.fn 72)) [.loc 0,.lit (.int 6)]) (.lit (.int 0))),.ife (.cmp .lt (.loc 2) (.lit (.int 2))) [.ret (.tup [.lit (.str [99,104,97,114,115]),.idx (.lst [.lit (.str [97]),.lit (.str [98]),.lit (.str [97,98]),.lit (.str [98,97]),.lit (.str []),.lit (.str [98,98])]) (.call (.glob (.fn 72)) [.loc 0,.lit (.int 6)])])] [],.ife (.cmp .eq (.loc 2) (.lit (.int 5))) [.ret (.tup [.lit (.str [108,97,116,101,114]),.call (.glob (.fn 73)) [.loc 0,.bin .sub (.loc 1) (.lit (.int 1))],.new 1 [.lit (.str [118,97,114]),.lit (.none),.idx (.lit (.str [65,66])) (.call (.glob (.fn 72)) [.loc 0,.lit (.int 2)])]])] [],.ret (.tup [.idx (.lst [.lit (.str [97,108,116]),.lit (.str [99,97,116])]) (.bin .mod (.loc 2) (.lit (.int 2))),.call (.glob (.fn 73)) [.loc 0,.bin .sub (.loc 1) (.lit (.int 1))],.call (.glob (.fn 73)) [.loc 0,.bin .sub (.loc 1) (.lit (.int 1))]])]
noncomputable def b_law_words:List MS:=[.ife (.cmp .eq (.idx (.loc 0) (.lit (.int 0))) (.lit (.str [99,104,97,114,115]))) [.ret (.lst [.tup [.idx (.loc 0) (.lit (.int 1)),.lst []]])] [],.asg (.loc 1) (.call (.glob (.fn 74)) [.idx (.loc 0) (.lit (.int 1))]),.ife (.cmp .eq (.idx (.loc 0) (.lit (.int 0))) (.lit (.str [108,97,116,101,114]))) [.ret (.comp (.tup [.loc 6,.bin .add (.loc 7) (.lst [.tup [.attr (.idx (.loc 0) (.lit (.int 2))) 17,.loc 6]])]) (.loc 1) (.many [6,7]) 2 [])] [],.asg (.tup [.loc 4,.loc 5]) (.tup [.call (.glob (.fn 74)) [.idx (.loc 0) (.lit (.int 2))],.lst []]),.ife (.cmp .eq (.idx (.loc 0) (.lit (.int 0))) (.lit (.str [97,108,116]))) [.ret (.bin .add (.loc 1) (.loc 4))] [],.for (.many [2,3]) (.loc 1) [.expr (.bmeth (.loc 5) .extend [.comp (.tup [.bin .add (.loc 2) (.loc 6),.bin .add (.loc 3) (.loc 7)]) (.loc 4) (.many [6,7]) 2 []])],.ret (.loc 5)]
noncomputable def b_law_due:List MS:=[.for (.one 3) (.prim .range [.ife (.loc 2) (.lit (.int 1)) (.bin .add (.prim .len [.loc 1]) (.lit (.int 1)))]) [.for (.many [4,5]) (.loc 0) [.ife (.bmeth (.slice (.loc 1) (.loc 3) (.lit .none) (.lit .none)) .startswith [.loc 4]) [.ret (.tup [.loc 3,.bin .add (.loc 3) (.prim .len [.loc 4]),.loc 5])] []]],.ret (.lit (.none))]
noncomputable def b_law:List MS:=[.asg (.loc 1) (.lst [.slice (.loc 0) (.lit .none) (.lit (.int 40)) (.lit .none),.lit (.int 0)]),.asg (.loc 2) (.cmp .eq (.call (.glob (.fn 72)) [.loc 1,.lit (.int 2)]) (.lit (.int 1))),.asg (.loc 3) (.bmeth (.lit (.str [])) .join [.comp (.idx (.lit (.str [97,98])) (.call (.glob (.fn 72)) [.loc 1,.lit (.int 2)])) (.prim .range [.call (.glob (.fn 72)) [.loc 1,.lit (.int 7)]]) (.one 8) 1 []]),.asg (.loc 4) (.call (.glob (.fn 73)) [.loc 1,.lit (.int 3)]),.asg (.loc 5) (.call (.glob (.fn 75)) [.call (.glob (.fn 74)) [.loc 4],.loc 3,.loc 2]),.asg (.loc 6) (.lst [.call (.glob (.fn 64)) [.loc 4,.loc 3,.loc 2,.new 4 [.dict [],.lit (.int 99999),.lst []]]]),.expr (.bmeth (.loc 6) .append [.call (.glob (.fn 59)) [.loc 4,.loc 3,.loc 2,.new 4 [.dict [],.lit (.int 99999),.lst []]]]),.for (.one 7) (.loc 6) [.ife (.cmp .isnot (.loc 7) (.lit (.none))) [.asg (.loc 7) (.tup [.idx (.loc 7) (.lit (.int 0)),.idx (.loc 7) (.lit (.int 1)),.comp (.tup [.attr (.loc 8) 17,.loc 9]) (.idx (.loc 7) (.lit (.int 2))) (.many [8,9]) 2 []])] [],.ife (.cmp .ne (.loc 7) (.loc 5)) [.ret (.lit (.bool false))] []],.ret (.lit (.bool true))]
noncomputable def fnsL:List FI:=[⟨2,4,b_law_next⟩,
  ⟨2,3,b_law_node⟩,
  ⟨1,6,b_law_words⟩,
  ⟨3,6,b_law_due⟩,
  ⟨1,8,b_law⟩]
noncomputable def fns:List FI:=fnsC++fnsL
noncomputable def pg:Pg:=⟨fns,clsC⟩
noncomputable def gl:List (Str×GV):=[(Str.ofString "row_of",.fn 0),(Str.ofString "is_plain_text",.fn 1),(Str.ofString "with_texts_joined",.fn 2),(Str.ofString "straightened",.fn 10),(Str.ofString "compile_pattern",.fn 11),(Str.ofString "is_fail",.fn 16),(Str.ofString "fits",.fn 17),(Str.ofString "whole_of_text",.fn 18),(Str.ofString "text_of_whole",.fn 19),(Str.ofString "to_whole",.fn 20),(Str.ofString "to_text",.fn 21),(Str.ofString "need_text",.fn 22),(Str.ofString "plain_count",.fn 23),(Str.ofString "plain_signs",.fn 24),(Str.ofString "pattern_of",.fn 25),(Str.ofString "is_delayed",.fn 26),(Str.ofString "settled",.fn 27),(Str.ofString "chars_end",.fn 28),(Str.ofString "len_end",.fn 29),(Str.ofString "pos_end",.fn 30),(Str.ofString "rpos_end",.fn 31),(Str.ofString "tab_end",.fn 32),(Str.ofString "rtab_end",.fn 33),(Str.ofString "rem_end",.fn 34),(Str.ofString "any_at",.fn 35),(Str.ofString "notany_at",.fn 36),(Str.ofString "run_end",.fn 37),(Str.ofString "span_end",.fn 38),(Str.ofString "break_end",.fn 39),(Str.ofString "arb_ends",.fn 40),(Str.ofString "bal_end",.fn 41),(Str.ofString "bal_ends",.fn 42),(Str.ofString "one_end",.fn 43),(Str.ofString "plain_end",.fn 44),(Str.ofString "ends_of",.fn 45),(Str.ofString "named_rows",.fn 57),(Str.ofString "match_orders",.fn 58),(Str.ofString "match_compiled",.fn 59),(Str.ofString "match_plain",.fn 64),(Str.ofString "match_at",.fn 65),(Str.ofString "tried",.fn 66),(Str.ofString "advanced",.fn 67),(Str.ofString "led_in",.fn 68),(Str.ofString "led_out",.fn 69),(Str.ofString "steered",.fn 70),(Str.ofString "taken",.fn 71),(Str.ofString "_law_next",.fn 72),(Str.ofString "_law_node",.fn 73),(Str.ofString "_law_words",.fn 74),(Str.ofString "_law_due",.fn 75),(Str.ofString "law",.fn 76),(Str.ofString "COUNTED",.val (.tup [.str [108,101,110],.str [112,111,115],.str [114,112,111,115],.str [116,97,98],.str [114,116,97,98]])),(Str.ofString "SIGNED",.val (.tup [.str [97,110,121],.str [110,111,116,97,110,121],.str [115,112,97,110],.str [98,114,101,97,107]])),(Str.ofString "WIDTH_OF_COUNT",.val (.int 64)),(Str.ofString "OPENING",.val (.str [40])),(Str.ofString "CLOSING",.val (.str [41])),(Str.ofString "LOST",.val (.str [108,111,115,116])),(Str.ofString "ONE",.val (.str [111,110,101])),(Str.ofString "WAYS",.val (.str [119,97,121,115])),(Str.ofString "SPLIT",.val (.str [115,112,108,105,116])),(Str.ofString "JUMP",.val (.str [106,117,109,112])),(Str.ofString "MARK",.val (.str [109,97,114,107])),(Str.ofString "NAME",.val (.str [110,97,109,101])),(Str.ofString "SET",.val (.str [115,101,116])),(Str.ofString "GAIN",.val (.str [103,97,105,110])),(Str.ofString "PLACE",.val (.str [112,108,97,99,101])),(Str.ofString "ASK",.val (.str [97,115,107])),(Str.ofString "FENCE",.val (.str [102,101,110,99,101])),(Str.ofString "FAIL",.val (.str [102,97,105,108])),(Str.ofString "ABORT",.val (.str [97,98,111,114,116])),(Str.ofString "SUCCEED",.val (.str [115,117,99,99,101,101,100])),(Str.ofString "DONE",.val (.str [100,111,110,101])),(Str.ofString "PUT",.val (.str [112,117,116])),(Str.ofString "EMIT",.val (.str [101,109,105,116])),(Str.ofString "OPEN",.val (.str [111,112,101,110])),(Str.ofString "SHUT",.val (.str [115,104,117,116])),(Str.ofString "MEET",.val (.str [109,101,101,116])),(Str.ofString "SINGLE",.val (.tup [.str [99,104,97,114,115],.str [108,101,110],.str [112,111,115],.str [114,112,111,115],.str [116,97,98],.str [114,116,97,98],.str [97,110,121],.str [110,111,116,97,110,121],.str [115,112,97,110],.str [98,114,101,97,107],.str [114,101,109]])),(Str.ofString "ALONE",.val (.tup [.str [102,101,110,99,101],.str [102,97,105,108],.str [97,98,111,114,116],.str [115,117,99,99,101,101,100]])),(Str.ofString "MET",.val (.int 0)),(Str.ofString "FAILED",.val (.int 1)),(Str.ofString "OVER",.val (.int 2)),(Str.ofString "PatternCode",.cls 0),(Str.ofString "NameRef",.cls 1),(Str.ofString "Way",.cls 2),(Str.ofString "Match",.cls 3),(Str.ofString "PlainHost",.cls 4),(Str.ofString "Failure",.cls 5),(Str.ofString "Pattern",.cls 6),(Str.ofString "Delayed",.cls 7),(Str.ofString "SnobolError",.cls 8),(Str.ofString "abs",.pr .abs),(Str.ofString "chr",.pr .chr),(Str.ofString "int",.pr .int),(Str.ofString "len",.pr .len),(Str.ofString "list",.pr .list),(Str.ofString "min",.pr .min),(Str.ofString "ord",.pr .ord),(Str.ofString "range",.pr .range),(Str.ofString "str",.pr .str),(Str.ofString "isinstance",.isi),(Str.ofString "tuple",.typ .tuple)]
noncomputable def fa:List Nat:=[434,441,448,462,469,476,481,488,495,502,516,523,31,65,86,107,121,128,135,142,149,156,163,173,180,187,194,201,208,215,222,229,236,243,250,257,264,271,278,285,292,299,306,313,320,327,537,544,565,572,579,586,593,600,607,614,621,635,642,649,397,404,411,418,334,341,348,355,362,369,376,383,656,663,668,675,680]
noncomputable def lookG (x:Str):List (Str×GV)→Option GV
  | []=>none
  | (y,g)::r=>if x == y then some g else lookG x r
noncomputable def G (x:Str):Option GV:=lookG x gl
end L3
end Mine
namespace Mine.Q
section
variable {P:Pg} {call:CallT} {l l1 l2:Lo} {H H1 H2 H3 H4:Hp} {v u o i a b:V} {vs:List V} {e f c t x:ME} {es:List ME} {r:Option (V×Hp)}
theorem bnd_eq {α β:Type} {m:Option (α×Hp)} {a:α} {H:Hp} {g:α→Hp→Option β} (h:m=some (a,H)):bnd m g=g a H:=by rw [h]; rfl
theorem r_lit:evE P call (.lit v) l H=some (v,H):=rfl
theorem r_glob:evE P call (.glob v) l H=some (v,H):=rfl
theorem r_nil:evL P call [] l H=some ([],H):=rfl
theorem r_loc {i:Nat} (h:l[i]? = some (some v)):evE P call (.loc i) l H=some (v,H):=by show(match l[i]? with | some (some v)=>some (v,H) | _=>none)=_; rw [h]
theorem r_cons (h1:evE P call e l H=some (v,H1)) (h2:evL P call es l H1=some (vs,H2)):evL P call (e::es) l H=some (v::vs,H2):=(bnd_eq h1).trans (bnd_eq h2)
theorem r_tup (h1:evL P call es l H=some (vs,H1)):evE P call (.tup es) l H=some (.tup vs,H1):=bnd_eq h1
theorem r_lst (h1:evL P call es l H=some (vs,H1)):evE P call (.lst es) l H=some (.loc H1.length,H1++[.list vs]):=bnd_eq h1
theorem r_dict0:evE P call (.dict []) l H=some (.loc H.length,H++[.dict []]):=rfl
theorem r_attr {a:Nat} (h1:evE P call e l H=some (o,H1)) (h2:getA H1 o a=some v):evE P call (.attr e a) l H=some (v,H1):=(bnd_eq h1).trans (by rw [h2])
theorem r_idx (h1:evE P call e l H=some (o,H1)) (h2:evE P call f l H1=some (i,H2)) (h3:idxV H2 o i=some v):evE P call (.idx e f) l H=some (v,H2):=(bnd_eq h1).trans ((bnd_eq h2).trans (by rw [h3]))
theorem r_slice {w z:V} {lo hi st:ME} (h1:evE P call e l H=some (o,H1)) (h2:evE P call lo l H1=some (u,H2)) (h3:evE P call hi l H2=some (w,H3)) (h4:evE P call st l H3=some (z,H4)) (h5:sliceV o u w z H4=r):evE P call (.slice e lo hi st) l H=r:=(bnd_eq h1).trans ((bnd_eq h2).trans ((bnd_eq h3).trans ((bnd_eq h4).trans h5)))
theorem r_bin {op:BOp} (h1:evE P call e l H=some (a,H1)) (h2:evE P call f l H1=some (b,H2)) (h3:binV op a b H2=r):evE P call (.bin op e f) l H=r:=(bnd_eq h1).trans ((bnd_eq h2).trans h3)
theorem r_neg {i:Int} (h1:evE P call e l H=some (.int i,H1)):evE P call (.neg e) l H=some (.int (-i),H1):=bnd_eq h1
theorem r_not {q:Bool} (h1:evE P call e l H=some (.bool q,H1)):evE P call (.not e) l H=some (.bool (!q),H1):=bnd_eq h1
theorem r_cmp {op:COp} {q:Bool} (h1:evE P call e l H=some (a,H1)) (h2:evE P call f l H1=some (b,H2)) (h3:cmpV H2 op a b=some q):evE P call (.cmp op e f) l H=some (.bool q,H2):=(bnd_eq h1).trans ((bnd_eq h2).trans (by rw [h3]))
theorem r_and0:evE P call (.and []) l H=some (.bool true,H):=rfl
theorem r_and (h1:evE P call e l H=some (.bool true,H1)) (h2:evE P call (.and es) l H1=r):evE P call (.and (e::es)) l H=r:=(bnd_eq h1).trans h2
theorem r_and_f (h1:evE P call e l H=some (.bool false,H1)):evE P call (.and (e::es)) l H=some (.bool false,H1):=bnd_eq h1
theorem r_or0:evE P call (.or []) l H=some (.bool false,H):=rfl
theorem r_or (h1:evE P call e l H=some (.bool false,H1)) (h2:evE P call (.or es) l H1=r):evE P call (.or (e::es)) l H=r:=(bnd_eq h1).trans h2
theorem r_or_t (h1:evE P call e l H=some (.bool true,H1)):evE P call (.or (e::es)) l H=some (.bool true,H1):=bnd_eq h1
theorem r_ife_t (h1:evE P call t l H=some (.bool true,H1)) (h2:evE P call e l H1=r):evE P call (.ife t e f) l H=r:=(bnd_eq h1).trans h2
theorem r_ife_f (h1:evE P call t l H=some (.bool false,H1)) (h2:evE P call f l H1=r):evE P call (.ife t e f) l H=r:=(bnd_eq h1).trans h2
theorem r_call {k:Nat} (h1:evE P call e l H=some (.fn k,H1)) (h2:evL P call es l H1=some (vs,H2)) (h3:call k vs H2=r):evE P call (.call e es) l H=r:=(bnd_eq h1).trans ((bnd_eq h2).trans h3)
theorem r_new {c:Nat} {ci:CI} (h1:evL P call es l H=some (vs,H1)) (h2:P.cls[c]? = some ci) (h3:call ci.init (.loc H1.length::vs) (H1++[.inst c []])=some (.none,H2)):evE P call (.new c es) l H=some (.loc H1.length,H2) :=
  (bnd_eq h1).trans (by rw [h2]; exact(bnd_eq h3))
theorem r_meth {n c m k:Nat} {fs:List (Nat×V)} {ci:CI} (h1:evE P call e l H=some (.loc n,H1)) (h2:H1[n]? = some (.inst c fs)) (h3:P.cls[c]? = some ci) (h4:lookN m ci.meths=some k) (h5:evL P call es l H1=some (vs,H2)) (h6:call k (.loc n::vs) H2=r):evE P call (.meth e m es) l H=r:=by
  refine(bnd_eq h1).trans ?_
  dsimp only
  rw [h2]; dsimp only; rw [h3]; dsimp only; rw [h4]
  exact(bnd_eq h5).trans h6
theorem r_bm {m:BM} (h1:evE P call e l H=some (o,H1)) (h2:bmK m o H1=true) (h3:evL P call es l H1=some (vs,H2)) (h4:bmV m o vs H2=r):evE P call (.bmeth e m es) l H=r:=(bnd_eq h1).trans (by rw [if_pos h2]; exact(bnd_eq h3).trans h4)
theorem r_prim {p:Pr} (h1:evL P call es l H=some (vs,H1)) (h2:primV p vs H1=r):evE P call (.prim p es) l H=r:=(bnd_eq h1).trans h2
theorem r_isin {k:IK} {q:Bool} (h1:evE P call e l H=some (v,H1)) (h2:isV v k=some q):evE P call (.isin e k) l H=some (.bool q,H1):=(bnd_eq h1).trans (by rw [h2])
theorem r_comp {ct:CT} {k:Nat} {cs:List ME} {it:It} (h1:evE P call e l H=some (v,H1)) (h2:iterV H1 v=some it) (h3:compN (fun l H=>evC P call cs l H) (fun l H=>evE P call x l H) ct (l++List.replicate k none) 1048576 it [] H1=some (vs,H2)) (h4:vs.length≤lim):evE P call (.comp x e ct k cs) l H=some (.loc H2.length,H2++[.list vs]) :=
  (bnd_eq h1).trans (by rw [h2]; exact(bnd_eq h3).trans (if_pos h4))
theorem t_loc0 {ev} {i:Nat}:asgT ev (.loc i) v l H=some (l.set i (some v),H):=rfl
theorem t_attr0 {a:Nat} (h1:evE P call e l H=some (o,H1)) (h2:setA H1 o a v=some H2):asgT (evE P call) (.attr e a) v l H=some (l,H2):=(bnd_eq h1).trans (by rw [h2])
theorem t_idx0 (h1:evE P call e l H=some (o,H1)) (h2:evE P call f l H1=some (i,H2)) (h3:setI H2 o i v=some H3):asgT (evE P call) (.idx e f) v l H=some (l,H3):=(bnd_eq h1).trans ((bnd_eq h2).trans (by rw [h3]))
theorem t_tup0 {ev} {ts:List Tg} {q:Option (Lo×Hp)} (h1:unpk H v=some vs) (h2:asgTs ev ts vs l H=q):asgT ev (.tup ts) v l H=q:=by show(match unpk H v with | some vs=>asgTs ev ts vs l H | none=>none)=_; rw [h1]; exact h2
theorem t_cons0 {ev} {tt:Tg} {ts:List Tg} {q:Option (Lo×Hp)} (h1:asgT ev tt v l H=some (l1,H1)) (h2:asgTs ev ts vs l1 H1=q):asgTs ev (tt::ts) (v::vs) l H=q:=by simp only [asgTs]; rw [h1]; exact h2
theorem t_nil0 {ev}:asgTs ev [] [] l H=some (l,H):=by simp only [asgTs]
theorem s_expr0 (h1:evE P call e l H=some (v,H1)):exS P call (.expr e) l H=some (.next,l,H1):=bnd_eq h1
theorem s_ret0 (h1:evE P call e l H=some (v,H1)):exS P call (.ret e) l H=some (.ret v,l,H1):=bnd_eq h1
theorem s_asg0 {tt:Tg} (h1:evE P call e l H=some (v,H1)) (h2:asgT (evE P call) tt v l H1=some (l2,H2)):exS P call (.asg tt e) l H=some (.next,l2,H2):=(bnd_eq h1).trans (by rw [h2]; rfl)
theorem s_auga0 {k:Nat} {op:BOp} (h1:evE P call e l H=some (o,H1)) (h2:getA H1 o k=some a) (h3:evE P call f l H1=some (b,H2)) (h4:augV op a b=some v) (h5:setA H2 o k v=some H3):exS P call (.auga e k op f) l H=some (.next,l,H3) :=
  (bnd_eq h1).trans (by rw [h2]; exact(bnd_eq h3).trans (by rw [h4]; dsimp only; rw [h5]))
theorem s_if_t {s1 s2:List MS} {q:SR} (h1:evE P call t l H=some (.bool true,H1)) (h2:exB P call s1 l H1=q):exS P call (.ife t s1 s2) l H=q:=(bnd_eq h1).trans h2
theorem s_if_f {s1 s2:List MS} {q:SR} (h1:evE P call t l H=some (.bool false,H1)) (h2:exB P call s2 l H1=q):exS P call (.ife t s1 s2) l H=q:=(bnd_eq h1).trans h2
theorem s_seq {s:MS} {ss:List MS} {q:SR} (h1:exS P call s l H=some (.next,l1,H1)) (h2:exB P call ss l1 H1=q):exB P call (s::ss) l H=q:=by
  show(match exS P call s l H with | some (Fl.next,l,H)=>exB P call ss l H | x=>x)=_
  rw [h1]; exact h2
theorem s_stop {s:MS} {ss:List MS} (h1:exS P call s l H=some (.ret v,l1,H1)):exB P call (s::ss) l H=some (.ret v,l1,H1):=by
  show(match exS P call s l H with | some (Fl.next,l,H)=>exB P call ss l H | x=>x)=_
  rw [h1]
theorem s_stop_b {s:MS} {ss:List MS} (h1:exS P call s l H=some (.brk,l1,H1)):exB P call (s::ss) l H=some (.brk,l1,H1):=by
  show(match exS P call s l H with | some (Fl.next,l,H)=>exB P call ss l H | x=>x)=_
  rw [h1]
theorem s_stop_c {s:MS} {ss:List MS} (h1:exS P call s l H=some (.cont,l1,H1)):exB P call (s::ss) l H=some (.cont,l1,H1):=by
  show(match exS P call s l H with | some (Fl.next,l,H)=>exB P call ss l H | x=>x)=_
  rw [h1]
theorem s_nil0:exB P call [] l H=some (.next,l,H):=rfl
theorem s_brk0:exS P call .brk l H=some (.brk,l,H):=rfl
theorem s_cont0:exS P call .cont l H=some (.cont,l,H):=rfl
theorem s_for0 {ct:CT} {s1:List MS} {it:It} {q:SR} (h1:evE P call e l H=some (v,H1)) (h2:iterV H1 v=some it) (h3:forN ct (fun l H=>exB P call s1 l H) 1048576 it l H1=q):exS P call (.for ct e s1) l H=q:=(bnd_eq h1).trans (by rw [h2]; exact h3)
theorem s_whl0 {s1:List MS} {q:SR} (h:whlN (evE P call t) (fun l H=>exB P call s1 l H) 1048576 l H=q):exS P call (.whl t s1) l H=q:=h
theorem call_ret {d k:Nat} {fi:FI} (h:P.fns[k]? = some fi) (h0:vs.length=fi.np) (h1:exB P (callF P d) fi.body (vs.map some++List.replicate (fi.ns - fi.np) none) H=some (.ret v,l1,H1)):callF P (d+1) k vs H=some (v,H1):=by
  rw [callF,h]; dsimp only; rw [if_pos h0,h1]
theorem call_next {d k:Nat} {fi:FI} (h:P.fns[k]? = some fi) (h0:vs.length=fi.np) (h1:exB P (callF P d) fi.body (vs.map some++List.replicate (fi.ns - fi.np) none) H=some (.next,l1,H1)):callF P (d+1) k vs H=some (.none,H1):=by
  rw [callF,h]; dsimp only; rw [if_pos h0,h1]
theorem g_inst {n c k:Nat} {fs:List (Nat×V)} (h:H[n]? = some (.inst c fs)) (h2:lookN k fs=some v):getA H (.loc n) k=some v:=by
  show atI H n _=_; unfold atI; rw [h]; exact h2
theorem g_setA {n c k:Nat} {fs:List (Nat×V)} (h:H[n]? = some (.inst c fs)):setA H (.loc n) k v=some (H.set n (.inst c (putN k v fs))):=by
  show atI H n _=_; unfold atI; rw [h]
theorem atL_at {β:Type} {n:Nat} {ls:List V} {g:List V→Option β} (h:H[n]? = some (.list ls)):atL H n g=g ls:=by unfold atL; rw [h]
theorem gd_at {β:Type} {c:Prop} [Decidable c] {x:β} (h:c):gd c x=some x:=if_pos h
theorem g_idxL {n:Nat} {ls:List V} {k:Int} (h:H[n]? = some (.list ls)) (h2:idxL ls k=some v):idxV H (.loc n) (.int k)=some v:=(atL_at h).trans h2
theorem g_unpk {n:Nat} {ls:List V} (h:H[n]? = some (.list ls)):unpk H (.loc n)=some ls:=by unfold unpk; dsimp only; rw [h]
theorem g_setI {n:Nat} {ls:List V} {k:Int} (h:H[n]? = some (.list ls)) (h2:0≤k∧k.toNat<ls.length):setI H (.loc n) (.int k) v=some (H.set n (.list (ls.set k.toNat v))):=(atL_at h).trans (gd_at h2)
theorem g_len {n:Nat} {ls:List V} (h:H[n]? = some (.list ls)):primV .len [.loc n] H=some (.int ls.length,H):=by
  show(lenV (.loc n) H).map _=_
  rw [show lenV (.loc n) H=some ls.length from atL_at h]; rfl
theorem g_append {n:Nat} {ls:List V} (h:H[n]? = some (.list ls)) (h2:ls.length<lim):bmV .append (.loc n) [v] H=some (.none,H.set n (.list (ls++[v]))):=(atL_at h).trans (gd_at h2)
theorem g_pop {n:Nat} {ls:List V} (h:H[n]? = some (.list (ls++[v]))):bmV .pop (.loc n) [] H=some (v,H.set n (.list ls)):=by
  refine(atL_at h).trans ?_
  rw [List.getLast?_append,List.dropLast_concat]; rfl
theorem g_kindL {n:Nat} {ls:List V} {m:BM} (h:H[n]? = some (.list ls)) (hm:(match m with | .append=>true | .pop=>true | .extend=>true | .reverse=>true | _=>false)=true):bmK m (.loc n) H=true:=by
  unfold bmK; simp only [h]; exact hm
theorem g_idx0 {ls:List V} {k:Nat} {j:Int} (hj:j=(k:Int)) (h:ls[k]? = some v):idxL ls j=some v:=by subst hj; unfold idxL; rw [if_pos (Int.natCast_nonneg k),Int.toNat_natCast]; exact h
theorem c_lt_t {i j:Int} (h:i<j):cmpV H .lt (.int i) (.int j)=some true:=by show some (decide _)=_; rw [decide_eq_true h]
theorem c_lt_f {i j:Int} (h:¬ i<j):cmpV H .lt (.int i) (.int j)=some false:=by show some (decide _)=_; rw [decide_eq_false h]
theorem c_gt_t {i j:Int} (h:j<i):cmpV H .gt (.int i) (.int j)=some true:=by show some (decide _)=_; rw [decide_eq_true h]
theorem c_gt_f {i j:Int} (h:¬ j<i):cmpV H .gt (.int i) (.int j)=some false:=by show some (decide _)=_; rw [decide_eq_false h]
theorem c_seq {s t:List Nat} {q:Bool} (h:(s == t)=q):cmpV H .eq (.str s) (.str t)=some q:=by show some (s == t)=_; rw [h]
theorem lt_get {n:Nat} {x:O} (h:H[n]? = some x):n<H.length:=(List.getElem?_eq_some_iff.mp h).1
theorem set_at {n:Nat} {x y:O} (h:H[n]? = some y):(H.set n x)[n]? = some x:=List.getElem?_set_self (lt_get h)
theorem set_off {n m:Nat} {x:O} {y:Option O} (h:n≠m) (h2:H[m]? = y):(H.set n x)[m]? = y:=(List.getElem?_set_ne h).trans h2
theorem app_in {n:Nat} {x:O} {y:Hp} (h:H[n]? = some x):(H++y)[n]? = some x:=by
  rw [List.getElem?_append_left (lt_get h)]; exact h
theorem app_new {x:O}:(H++[x])[H.length]? = some x:=by simp
theorem ne_len {n:Nat} {x:O} (h:H[n]? = some x):n≠H.length:=Nat.ne_of_lt (lt_get h)
theorem len_ne {n:Nat} {x:O} (h:H[n]? = some x):H.length≠n:=Ne.symm (ne_len h)
variable {cs:Lo→Hp→Option (Bool×Hp)} {ev tv:Lo→Hp→Option (V×Hp)} {ct:CT} {it it':It} {acc:List V} {n:Nat} {bd:Lo→Hp→SR}
theorem rc_t:evC P call [] l H=some (true,H):=rfl
theorem cn_end (h:nextI H it=some none):compN cs ev ct l (n+1) it acc H=some (acc.reverse,H):=by rw [compN,h]
theorem cn_step {w:V} {q:Option (List V×Hp)} (h1:nextI H it=some (some (v,it'))) (h2:setCT ct v l=some l1) (h3:cs l1 H=some (true,H1)) (h4:ev l1 H1=some (w,H2)) (h5:compN cs ev ct l n it' (w::acc) H2=q):compN cs ev ct l (n+1) it acc H=q:=by
  rw [compN,h1]; dsimp only; rw [h2]; dsimp only; rw [bnd_eq h3,if_pos rfl,bnd_eq h4]; exact h5
theorem fn_end (h:nextI H it=some none):forN ct bd (n+1) it l H=some (.next,l,H):=by rw [forN,h]
theorem fn_next {q:SR} (h1:nextI H it=some (some (v,it'))) (h2:setCT ct v l=some l1) (h3:bd l1 H=some (.next,l2,H2)) (h4:forN ct bd n it' l2 H2=q):forN ct bd (n+1) it l H=q:=by
  rw [forN,h1]; dsimp only; rw [h2]; dsimp only; rw [h3]; exact h4
theorem fn_cont {q:SR} (h1:nextI H it=some (some (v,it'))) (h2:setCT ct v l=some l1) (h3:bd l1 H=some (.cont,l2,H2)) (h4:forN ct bd n it' l2 H2=q):forN ct bd (n+1) it l H=q:=by
  rw [forN,h1]; dsimp only; rw [h2]; dsimp only; rw [h3]; exact h4
theorem fn_ret (h1:nextI H it=some (some (v,it'))) (h2:setCT ct v l=some l1) (h3:bd l1 H=some (.ret u,l2,H2)):forN ct bd (n+1) it l H=some (.ret u,l2,H2):=by
  rw [forN,h1]; dsimp only; rw [h2]; dsimp only; rw [h3]
theorem wn_end (h1:tv l H=some (.bool false,H1)):whlN tv bd (n+1) l H=some (.next,l,H1):=by rw [whlN,bnd_eq h1]
theorem wn_next {q:SR} (h1:tv l H=some (.bool true,H1)) (h2:bd l H1=some (.next,l2,H2)) (h3:whlN tv bd n l2 H2=q):whlN tv bd (n+1) l H=q:=by
  rw [whlN,bnd_eq h1]; dsimp only; rw [h2]; exact h3
theorem wn_brk (h1:tv l H=some (.bool true,H1)) (h2:bd l H1=some (.brk,l2,H2)):whlN tv bd (n+1) l H=some (.next,l2,H2):=by
  rw [whlN,bnd_eq h1]; dsimp only; rw [h2]
theorem wn_ret (h1:tv l H=some (.bool true,H1)) (h2:bd l H1=some (.ret u,l2,H2)):whlN tv bd (n+1) l H=some (.ret u,l2,H2):=by
  rw [whlN,bnd_eq h1]; dsimp only; rw [h2]
theorem n_lst {m j:Nat} {ls:List V} (h:H[m]? = some (.list ls)) (h2:ls[j]? = some v):nextI H (.lst m j)=some (some (v,.lst m (j+1))):=by unfold nextI; dsimp only; rw [h]; dsimp only; rw [h2]
theorem n_lst0 {m j:Nat} {ls:List V} (h:H[m]? = some (.list ls)) (h2:ls[j]? = none):nextI H (.lst m j)=some none:=by unfold nextI; dsimp only; rw [h]; dsimp only; rw [h2]
theorem i_lst {m:Nat} {ls:List V} (h:H[m]? = some (.list ls)):iterV H (.loc m)=some (.lst m 0):=by unfold iterV; dsimp only; rw [h]
theorem i_rng {p q k:Int} (h1:p.natAbs<1048576) (h2:q.natAbs<1048576) (h3:k=1∨k = -1):iterV H (.rng p q k)=some (.rng p k (rngLen p q k)):=if_pos ⟨h1,h2,h3⟩
theorem rng_up {p q:Int} {m:Nat} (h:q=p+m):rngLen p q 1=m:=by
  subst h
  unfold rngLen
  rw [if_pos (show(0:Int)<1 by decide),Int.ediv_one]
  split <;> omega
theorem g_join {m:Nat} {ls:List V} {ss:List (List Nat)} (h:H[m]? = some (.list ls)) (h2:strsOf ls=some ss) (h3:(catL ss).length≤lim):bmV .join (.str []) [.loc m] H=some (.str (catL ss),H):=by
  show(joinV H m).map _=_
  have:joinV H m=some (.str (catL ss)):=(atL_at h).trans (by unfold strsOf'; rw [h2]; exact gd_at h3)
  rw [this]; rfl
theorem p_range1 {a:Int} (h:a.natAbs<1048576):primV .range [.int a] H=some (.rng 0 a 1,H):=by
  show(gd (a.natAbs<1048576) (V.rng 0 a 1)).map _=_
  rw [gd_at h]; rfl
end
theorem r_ife_b {P:Pg} {call:CallT} {t e f:ME} {l:Lo} {H H1 H2:Hp} {q:Bool} {u v:V} (h1:evE P call t l H=some (.bool q,H1)) (h2:evE P call e l H1=some (u,H2)) (h3:evE P call f l H1=some (v,H2)):evE P call (.ife t e f) l H=some (bif q then u else v,H2):=by
  cases q
  · exact r_ife_f h1 h3
  · exact r_ife_t h1 h2
noncomputable abbrev pgc (own:List FI):Pg:=⟨fnsC++own,clsC⟩
section
variable {own:List FI} {d:Nat} {H:Hp}
noncomputable abbrev hostO (va rf lg:V) (m s:Int):O:=.inst 4 [(9,va),(10,.int m),(11,rf),(12,.int 64),(13,.int s),(14,lg)]
theorem step_ok {h:Nat} {va rf lg:V} {m s:Int} (hh:H[h]? = some (hostO va rf lg m s)) (hs:s<m):callF (pgc own) (d+1) 63 [.loc h] H=some (.none,H.set h (hostO va rf lg m (s+1))) :=
  call_next rfl rfl (s_seq (s_auga0 (r_loc rfl) (by exact g_inst (by solve_by_elim [app_new,set_at,set_off,app_in,ne_len,len_ne,Ne.symm]) rfl) r_lit (by rfl) (g_setA (by solve_by_elim [app_new,set_at,set_off,app_in,ne_len,len_ne,Ne.symm]))) (s_seq (s_if_f (r_cmp (r_attr (r_loc rfl) (by exact g_inst (by solve_by_elim [app_new,set_at,set_off,app_in,ne_len,len_ne,Ne.symm]) rfl)) (r_attr (r_loc rfl) (by exact g_inst (by solve_by_elim [app_new,set_at,set_off,app_in,ne_len,len_ne,Ne.symm]) rfl)) (c_gt_f (by omega))) s_nil0) s_nil0))
theorem chars_end_ok {s t:List Nat} {a:Nat} {b:Bool} (hb:((s.take (a+t.length)).drop a == t)=b):callF (pgc own) (d+1) 28 [.str s,.int a,.str t] H=some (bif b then .int (a+t.length:Nat) else .none,H) :=
  call_ret rfl rfl (s_seq (s_asg0 (r_bin (r_loc rfl) (r_prim (r_cons (r_loc rfl) r_nil) (by first | rfl | exact g_len (by solve_by_elim [app_new,set_at,set_off,app_in,ne_len,len_ne,Ne.symm]))) (by rfl)) t_loc0) (s_stop (s_ret0 (r_ife_b (r_cmp (r_slice (r_loc rfl) (r_loc rfl) (r_loc rfl) r_lit (by rfl)) (r_loc rfl) (c_seq hb)) (r_loc rfl) r_lit))))
noncomputable abbrev chV (t:List Nat):V:=.tup [.str [99,104,97,114,115],.str t]
theorem one_end_chars {s t:List Nat} {a:Nat} {b:Bool} (hb:((s.take (a+t.length)).drop a == t)=b):callF (pgc own) (d+2) 43 [.str [99,104,97,114,115],.str s,.int a,.str t] H=some (bif b then .int (a+t.length:Nat) else .none,H) :=
  call_ret rfl rfl (s_stop (s_if_t (r_cmp (r_loc rfl) r_lit (by rfl)) (s_stop (s_ret0 (r_call r_glob (r_cons (r_loc rfl) (r_cons (r_loc rfl) (r_cons (r_loc rfl) r_nil))) (chars_end_ok hb))))))
theorem plain_end_chars {s t:List Nat} {a:Nat} {b:Bool} (hb:((s.take (a+t.length)).drop a == t)=b):callF (pgc own) (d+3) 44 [chV t,.str s,.int a] H=some (bif b then .int (a+t.length:Nat) else .none,H) :=
  call_ret rfl rfl (s_stop (s_ret0 (r_ife_f (r_cmp (r_idx (r_loc rfl) r_lit (by rfl)) r_lit (by rfl)) (r_call r_glob (r_cons (r_idx (r_loc rfl) r_lit (by rfl)) (r_cons (r_loc rfl) (r_cons (r_loc rfl) (r_cons (r_idx (r_loc rfl) r_lit (by rfl)) r_nil)))) (one_end_chars hb)))))
theorem settled_chars {t:List Nat} {h:V}:callF (pgc own) (d+2) 27 [chV t,h] H=some (chV t,H):=by kernel_rfl
theorem taken_chars_t {s t:List Nat} {a:Nat} {rest nm p h:V} (hb:((s.take (a+t.length)).drop a == t)=true):callF (pgc own) (d+4) 71 [chV t,rest,.int a,nm,.str s,p,h] H=some (.tup [rest,.int (a+t.length:Nat),nm],H) :=
  call_ret rfl rfl (s_seq (s_asg0 (r_idx (r_loc rfl) r_lit (by rfl)) t_loc0) (s_seq (s_if_f (r_cmp (r_loc rfl) r_lit (by rfl)) s_nil0) (s_seq (s_if_f (r_cmp (r_loc rfl) r_lit (by rfl)) s_nil0) (s_seq (s_asg0 (r_call r_glob (r_cons (r_loc rfl) (r_cons (r_loc rfl) r_nil)) settled_chars) t_loc0) (s_seq (s_if_f (r_cmp (r_loc rfl) r_lit (by rfl)) s_nil0) (s_seq (s_asg0 (r_call r_glob (r_cons (r_loc rfl) (r_cons (r_loc rfl) (r_cons (r_loc rfl) r_nil))) (plain_end_chars hb)) t_loc0) (s_stop (s_ret0 (r_ife_f (r_cmp (r_loc rfl) r_lit (by rfl)) (r_tup (r_cons (r_loc rfl) (r_cons (r_loc rfl) (r_cons (r_loc rfl) r_nil)))))))))))))
theorem taken_chars_f {s t:List Nat} {a:Nat} {rest nm p h:V} (hb:((s.take (a+t.length)).drop a == t)=false):callF (pgc own) (d+4) 71 [chV t,rest,.int a,nm,.str s,p,h] H=some (.none,H) :=
  call_ret rfl rfl (s_seq (s_asg0 (r_idx (r_loc rfl) r_lit (by rfl)) t_loc0) (s_seq (s_if_f (r_cmp (r_loc rfl) r_lit (by rfl)) s_nil0) (s_seq (s_if_f (r_cmp (r_loc rfl) r_lit (by rfl)) s_nil0) (s_seq (s_asg0 (r_call r_glob (r_cons (r_loc rfl) (r_cons (r_loc rfl) r_nil)) settled_chars) t_loc0) (s_seq (s_if_f (r_cmp (r_loc rfl) r_lit (by rfl)) s_nil0) (s_seq (s_asg0 (r_call r_glob (r_cons (r_loc rfl) (r_cons (r_loc rfl) (r_cons (r_loc rfl) r_nil))) (plain_end_chars hb)) t_loc0) (s_stop (s_ret0 (r_ife_t (r_cmp (r_loc rfl) r_lit (by rfl)) r_lit)))))))))
theorem adv_chars {s t:List Nat} {a:Nat} {rest nm p h v:V} {H1:Hp} (hr:callF (pgc own) (d+4) 71 [chV t,rest,.int a,nm,.str s,p,h] H=some (v,H1)):callF (pgc own) (d+5) 67 [.tup [chV t,rest],.int a,nm,.str s,p,h] H=some (v,H1) :=
  call_ret rfl rfl (s_seq (s_asg0 (r_loc rfl) (t_tup0 (by rfl) (t_cons0 t_loc0 (t_cons0 t_loc0 t_nil0)))) (s_seq (s_asg0 (r_idx (r_loc rfl) r_lit (by rfl)) t_loc0) (s_seq (s_if_f (r_cmp (r_loc rfl) (r_tup (r_cons r_lit (r_cons r_lit (r_cons r_lit (r_cons r_lit (r_cons r_lit r_nil)))))) (by rfl)) s_nil0) (s_seq (s_if_f (r_cmp (r_slice (r_loc rfl) r_lit r_lit r_lit (by rfl)) r_lit (by rfl)) s_nil0) (s_seq (s_if_f (r_cmp (r_loc rfl) r_lit (by rfl)) s_nil0) (s_seq (s_if_f (r_cmp (r_loc rfl) r_lit (by rfl)) s_nil0) (s_seq (s_if_f (r_cmp (r_loc rfl) (r_tup (r_cons r_lit (r_cons r_lit (r_cons r_lit (r_cons r_lit r_nil))))) (by rfl)) s_nil0) (s_stop (s_ret0 (r_call r_glob (r_cons (r_loc rfl) (r_cons (r_loc rfl) (r_cons (r_loc rfl) (r_cons (r_loc rfl) (r_cons (r_loc rfl) (r_cons (r_loc rfl) (r_cons (r_loc rfl) r_nil))))))) hr))))))))))
theorem adv_cat {a b rest at' nm s p h:V}:callF (pgc own) (d+2) 67 [.tup [.tup [.str [99,97,116],a,b],rest],at',nm,s,p,h] H=some (.tup [.tup [a,.tup [b,rest]],at',nm],H):=by kernel_rfl
theorem adv_later {a r rest at' nm s p h:V}:callF (pgc own) (d+2) 67 [.tup [.tup [.str [108,97,116,101,114],a,r],rest],at',nm,s,p,h] H=some (.tup [.tup [a,.tup [.tup [.str [101,110,100,32,108,97,116,101,114],r,at'],rest]],at',nm],H):=by kernel_rfl
theorem led_alt {a b rest at' nm:V} {p:Nat} {L:List V} (hp:H[p]? = some (.list L)) (hl:L.length<lim):callF (pgc own) (d+1) 68 [.tup [.str [97,108,116],a,b],rest,at',nm,.loc p] H=some (.tup [.tup [a,rest],at',nm],H.set p (.list (L++[.tup [.tup [b,rest],at',nm]]))) :=
  call_ret rfl rfl (s_seq (s_asg0 (r_idx (r_loc rfl) r_lit (by rfl)) t_loc0) (s_seq (s_if_f (r_cmp (r_loc rfl) r_lit (by rfl)) s_nil0) (s_stop (s_if_t (r_cmp (r_loc rfl) r_lit (by rfl)) (s_seq (s_expr0 (r_bm (r_loc rfl) (g_kindL (by solve_by_elim [app_new,set_at,set_off,app_in,ne_len,len_ne,Ne.symm]) rfl) (r_cons (r_tup (r_cons (r_tup (r_cons (r_idx (r_loc rfl) r_lit (by rfl)) (r_cons (r_loc rfl) r_nil))) (r_cons (r_loc rfl) (r_cons (r_loc rfl) r_nil)))) r_nil) (g_append (by solve_by_elim [app_new,set_at,set_off,app_in,ne_len,len_ne,Ne.symm]) hl))) (s_stop (s_ret0 (r_tup (r_cons (r_tup (r_cons (r_idx (r_loc rfl) r_lit (by rfl)) (r_cons (r_loc rfl) r_nil))) (r_cons (r_loc rfl) (r_cons (r_loc rfl) r_nil)))))))))))
theorem adv_alt {a b rest at' nm s h:V} {p:Nat} {L:List V} (hp:H[p]? = some (.list L)) (hl:L.length<lim):callF (pgc own) (d+2) 67 [.tup [.tup [.str [97,108,116],a,b],rest],at',nm,s,.loc p,h] H=some (.tup [.tup [a,rest],at',nm],H.set p (.list (L++[.tup [.tup [b,rest],at',nm]]))) :=
  call_ret rfl rfl (s_seq (s_asg0 (r_loc rfl) (t_tup0 (by rfl) (t_cons0 t_loc0 (t_cons0 t_loc0 t_nil0)))) (s_seq (s_asg0 (r_idx (r_loc rfl) r_lit (by rfl)) t_loc0) (s_stop (s_if_t (r_cmp (r_loc rfl) (r_tup (r_cons r_lit (r_cons r_lit (r_cons r_lit (r_cons r_lit (r_cons r_lit r_nil)))))) (by rfl)) (s_stop (s_ret0 (r_call r_glob (r_cons (r_loc rfl) (r_cons (r_loc rfl) (r_cons (r_loc rfl) (r_cons (r_loc rfl) (r_cons (r_loc rfl) r_nil))))) (led_alt hp hl))))))))
theorem led_endl {r rest p h:V} {s:List Nat} {a b:Nat} {nm:List V} (hl:nm.length+1≤lim):callF (pgc own) (d+1) 69 [.tup [.str [101,110,100,32,108,97,116,101,114],r,.int b],rest,.int a,.tup nm,.str s,p,h] H=some (.tup [rest,.int a,.tup (nm++[.tup [r,.str ((s.take a).drop b)]])],H) :=
  call_ret rfl rfl (s_seq (s_asg0 (r_loc rfl) (t_tup0 (by rfl) (t_cons0 t_loc0 (t_cons0 t_loc0 (t_cons0 t_loc0 t_nil0))))) (s_stop (s_if_t (r_cmp (r_loc rfl) r_lit (by rfl)) (s_stop (s_ret0 (r_tup (r_cons (r_loc rfl) (r_cons (r_loc rfl) (r_cons (r_bin (r_loc rfl) (r_tup (r_cons (r_tup (r_cons (r_loc rfl) (r_cons (r_slice (r_loc rfl) (r_loc rfl) (r_loc rfl) r_lit (by rfl)) r_nil))) r_nil)) (gd_at hl)) r_nil)))))))))
theorem adv_endl {r rest p h:V} {s:List Nat} {a b:Nat} {nm:List V} (hl:nm.length+1≤lim):callF (pgc own) (d+2) 67 [.tup [.tup [.str [101,110,100,32,108,97,116,101,114],r,.int b],rest],.int a,.tup nm,.str s,p,h] H=some (.tup [rest,.int a,.tup (nm++[.tup [r,.str ((s.take a).drop b)]])],H) :=
  call_ret rfl rfl (s_seq (s_asg0 (r_loc rfl) (t_tup0 (by rfl) (t_cons0 t_loc0 (t_cons0 t_loc0 t_nil0)))) (s_seq (s_asg0 (r_idx (r_loc rfl) r_lit (by rfl)) t_loc0) (s_seq (s_if_f (r_cmp (r_loc rfl) (r_tup (r_cons r_lit (r_cons r_lit (r_cons r_lit (r_cons r_lit (r_cons r_lit r_nil)))))) (by rfl)) s_nil0) (s_stop (s_if_t (r_cmp (r_slice (r_loc rfl) r_lit r_lit r_lit (by rfl)) r_lit (by rfl)) (s_stop (s_ret0 (r_call r_glob (r_cons (r_loc rfl) (r_cons (r_loc rfl) (r_cons (r_loc rfl) (r_cons (r_loc rfl) (r_cons (r_loc rfl) (r_cons (r_loc rfl) (r_cons (r_loc rfl) r_nil))))))) (led_endl hl)))))))))
end
set_option genCtorIdx false in
inductive Nd where
  | ch (s:List Nat) | lt (n:Nd) (r:Nat) | al (a b:Nd) | ca (a b:Nd)
inductive Im where
  | nd (n:Nd) | en (r b:Nat)
noncomputable abbrev Nm:=List (Nat×List Nat)
noncomputable def nV:Nd→V
  | .ch s=>chV s
  | .lt n r=>.tup [.str [108,97,116,101,114],nV n,.loc r]
  | .al a b=>.tup [.str [97,108,116],nV a,nV b]
  | .ca a b=>.tup [.str [99,97,116],nV a,nV b]
noncomputable def iV:Im→V
  | .nd n=>nV n
  | .en r b=>.tup [.str [101,110,100,32,108,97,116,101,114],.loc r,.int b]
noncomputable def cV:List Im→V
  | []=>.none
  | i::r=>.tup [iV i,cV r]
noncomputable def nmL (l:Nm):List V:=l.map fun x=>.tup [.loc x.1,.str x.2]
structure Wy where
  c:List Im
  a:Nat
  nm:Nm
noncomputable def wV (w:Wy):V:=.tup [cV w.c,.int w.a,.tup (nmL w.nm)]
noncomputable def metB (s t:List Nat) (a:Nat):Bool:=(s.take (a+t.length)).drop a == t
inductive Tr (s:List Nat):List Im→Nat→Nm→List Wy→Nat→Option (Nat×Nm)→Nat→Prop where
  | met {a nm L k}:Tr s [] a nm L k (some (a,nm)) k
  | cht {t r a nm L k R k'}:metB s t a=true→Tr s r (a+t.length) nm L (k+1) R k'→Tr s (.nd (.ch t)::r) a nm L k R k'
  | chp {t r a nm L w k R k'}:metB s t a=false→Tr s w.c w.a w.nm L (k+1) R k'→Tr s (.nd (.ch t)::r) a nm (L++[w]) k R k'
  | chn {t r a nm k}:metB s t a=false→Tr s (.nd (.ch t)::r) a nm [] k none (k+1)
  | ca {x y r a nm L k R k'}:Tr s (.nd x::.nd y::r) a nm L (k+1) R k'→Tr s (.nd (.ca x y)::r) a nm L k R k'
  | al {x y r a nm L k R k'}:Tr s (.nd x::r) a nm (L++[⟨.nd y::r,a,nm⟩]) (k+1) R k'→Tr s (.nd (.al x y)::r) a nm L k R k'
  | lt {x q r a nm L k R k'}:Tr s (.nd x::.en q a::r) a nm L (k+1) R k'→Tr s (.nd (.lt x q)::r) a nm L k R k'
  | en {q b r a nm L k R k'}:Tr s r a (nm++[(q,(s.take a).drop b)]) L (k+1) R k'→Tr s (.en q b::r) a nm L k R k'
noncomputable def tO:ME:=(.cmp .gt (.prim .len [(.loc 4)]) (.lit (.int 0)))
noncomputable def bO:List MS:=[(.asg (.loc 5) (.bmeth (.loc 4) .pop [])),(.ife (.cmp .is (.loc 5) (.lit .none)) [(.ret (.glob (.str [108,111,115,116])))] []),(.asg (.tup [(.loc 6),(.loc 7),(.loc 8)]) (.loc 5)),(.whl (.cmp .isnot (.loc 6) (.lit .none)) [(.expr (.meth (.loc 3) 118 [])),(.asg (.loc 5) (.call (.glob (.fn 67)) [(.loc 6),(.loc 7),(.loc 8),(.loc 1),(.loc 4),(.loc 3)])),(.ife (.cmp .is (.loc 5) (.lit .none)) [.brk] []),(.ife (.cmp .eq (.loc 5) (.glob (.str [108,111,115,116]))) [(.ret (.glob (.str [108,111,115,116])))] []),(.asg (.tup [(.loc 6),(.loc 7),(.loc 8)]) (.loc 5))]),(.ife (.cmp .is (.loc 6) (.lit .none)) [(.ret (.tup [(.loc 7),(.prim .list [(.loc 8)])]))] [])]
noncomputable def tI:ME:=(.cmp .isnot (.loc 6) (.lit .none))
noncomputable def bI:List MS:=[(.expr (.meth (.loc 3) 118 [])),(.asg (.loc 5) (.call (.glob (.fn 67)) [(.loc 6),(.loc 7),(.loc 8),(.loc 1),(.loc 4),(.loc 3)])),(.ife (.cmp .is (.loc 5) (.lit .none)) [.brk] []),(.ife (.cmp .eq (.loc 5) (.glob (.str [108,111,115,116]))) [(.ret (.glob (.str [108,111,115,116])))] []),(.asg (.tup [(.loc 6),(.loc 7),(.loc 8)]) (.loc 5))]
noncomputable def outK (g:Lo→Hp→SR) (x:SR):SR:=match x with
  | some (Fl.next,l,H)=>g l H
  | some (Fl.cont,l,H)=>g l H
  | some (Fl.brk,l,H)=>some (Fl.next,l,H)
  | some (Fl.ret v,l,H)=>some (Fl.ret v,l,H)
  | none=>none
theorem wn_q {tv:Lo→Hp→Option (V×Hp)} {bd:Lo→Hp→SR} {n:Nat} {l:Lo} {H H1:Hp} (h1:tv l H=some (.bool true,H1)):whlN tv bd (n+1) l H=outK (whlN tv bd n) (bd l H1):=by
  rw [whlN,bnd_eq h1]; rfl
noncomputable def seqK (g:Lo→Hp→SR) (x:SR):SR:=match x with | some (Fl.next,l,H)=>g l H | x=>x
section
variable {own:List FI} {d:Nat} {H:Hp}
noncomputable abbrev tl (nd bg:V) (s:List Nat) (h p:Nat) (w:Option V) (c a nm:V):Lo:=[some nd,some (.str s),some bg,some (.loc h),some (.loc p),w,some c,some a,some nm]
theorem in_next {nd bg i r a nm c' a' n':V} {w:Option V} {s:List Nat} {h p:Nat} {va rf lg:V} {m k:Int} {H2:Hp} (hh:H[h]? = some (hostO va rf lg m k)) (hk:k<m) (ha:callF (pgc own) (d+5) 67 [.tup [i,r],a,nm,.str s,.loc p,.loc h] (H.set h (hostO va rf lg m (k+1)))=some (.tup [c',a',n'],H2)) :
    exB (pgc own) (callF (pgc own) (d+5)) bI (tl nd bg s h p w (.tup [i,r]) a nm) H=some (.next,tl nd bg s h p (some (.tup [c',a',n'])) c' a' n',H2) :=
  s_seq (s_expr0 (r_meth (r_loc rfl) (by solve_by_elim [app_new,set_at,set_off,app_in,ne_len,len_ne,Ne.symm]) rfl rfl r_nil (step_ok hh hk))) (s_seq (s_asg0 (r_call r_glob (r_cons (r_loc rfl) (r_cons (r_loc rfl) (r_cons (r_loc rfl) (r_cons (r_loc rfl) (r_cons (r_loc rfl) (r_cons (r_loc rfl) r_nil)))))) ha) t_loc0) (s_seq (s_if_f (r_cmp (r_loc rfl) r_lit (by rfl)) s_nil0) (s_seq (s_if_f (r_cmp (r_loc rfl) r_glob (by rfl)) s_nil0) (s_seq (s_asg0 (r_loc rfl) (t_tup0 (by rfl) (t_cons0 t_loc0 (t_cons0 t_loc0 (t_cons0 t_loc0 t_nil0))))) s_nil0))))
theorem in_brk {nd bg i r a nm:V} {w:Option V} {s:List Nat} {h p:Nat} {va rf lg:V} {m k:Int} {H2:Hp} (hh:H[h]? = some (hostO va rf lg m k)) (hk:k<m) (ha:callF (pgc own) (d+5) 67 [.tup [i,r],a,nm,.str s,.loc p,.loc h] (H.set h (hostO va rf lg m (k+1)))=some (.none,H2)) :
    exB (pgc own) (callF (pgc own) (d+5)) bI (tl nd bg s h p w (.tup [i,r]) a nm) H=some (.brk,tl nd bg s h p (some .none) (.tup [i,r]) a nm,H2) :=
  s_seq (s_expr0 (r_meth (r_loc rfl) (by solve_by_elim [app_new,set_at,set_off,app_in,ne_len,len_ne,Ne.symm]) rfl rfl r_nil (step_ok hh hk))) (s_seq (s_asg0 (r_call r_glob (r_cons (r_loc rfl) (r_cons (r_loc rfl) (r_cons (r_loc rfl) (r_cons (r_loc rfl) (r_cons (r_loc rfl) (r_cons (r_loc rfl) r_nil)))))) ha) t_loc0) (s_stop_b (s_if_t (r_cmp (r_loc rfl) r_lit (by rfl)) (s_stop_b s_brk0))))
end
structure TS (H0:Hp) (p h:Nat) (va rf lg:V) (m:Int) (L:List V) (k:Nat) (H:Hp):Prop where
  len:H.length=H0.length
  pile:H[p]? = some (.list L)
  host:H[h]? = some (hostO va rf lg m k)
  off:∀ i,i≠p→i≠h→H[i]? = H0[i]?
section
variable {own:List FI} {d:Nat} {H H0:Hp} {p h:Nat} {va rf lg:V} {m:Int} {L:List V} {k:Nat}
theorem TS.step (t:TS H0 p h va rf lg m L k H) (hne:p≠h):TS H0 p h va rf lg m L (k+1) (H.set h (hostO va rf lg m (k+1))) :=
  ⟨(List.length_set ..).trans t.len,set_off hne.symm t.pile,set_at t.host,fun i h1 h2=>(List.getElem?_set_ne h2.symm).trans (t.off i h1 h2)⟩
theorem TS.push (t:TS H0 p h va rf lg m L k H) (hne:p≠h) (L':List V):TS H0 p h va rf lg m L' k (H.set p (.list L')) :=
  ⟨(List.length_set ..).trans t.len,set_at t.pile,set_off hne t.host,fun i h1 h2=>(List.getElem?_set_ne h1.symm).trans (t.off i h1 h2)⟩
noncomputable def bF:List MS:=[(.ife (.cmp .is (.loc 6) (.lit .none)) [(.ret (.tup [(.loc 7),(.prim .list [(.loc 8)])]))] [])]
theorem out_pop {nd bg:V} {s:List Nat} {w x y z:Option V} {c a nm:V} (hp:H[p]? = some (.list (L++[.tup [c,a,nm]]))) :
    exB (pgc own) (callF (pgc own) (d+5)) bO [some nd,some (.str s),some bg,some (.loc h),some (.loc p),w,x,y,z] H=seqK (exB (pgc own) (callF (pgc own) (d+5)) bF) (whlN (evE (pgc own) (callF (pgc own) (d+5)) tI) (exB (pgc own) (callF (pgc own) (d+5)) bI) 1048576 (tl nd bg s h p (some (.tup [c,a,nm])) c a nm) (H.set p (.list L))) :=
  s_seq (s_asg0 (r_bm (r_loc rfl) (g_kindL (by solve_by_elim [app_new,set_at,set_off,app_in,ne_len,len_ne,Ne.symm]) rfl) r_nil (g_pop hp)) t_loc0) (s_seq (s_if_f (r_cmp (r_loc rfl) r_lit (by rfl)) s_nil0) (s_seq (s_asg0 (r_loc rfl) (t_tup0 (by rfl) (t_cons0 t_loc0 (t_cons0 t_loc0 (t_cons0 t_loc0 t_nil0))))) rfl))
theorem fin_t {nd bg:V} {s:List Nat} {w:Option V} {a:V} {nm:List V} :
    exB (pgc own) (callF (pgc own) (d+5)) bF (tl nd bg s h p w .none a (.tup nm)) H=some (.ret (.tup [a,.loc H.length]),tl nd bg s h p w .none a (.tup nm),H++[.list nm]) :=
  s_stop (s_if_t (r_cmp (r_loc rfl) r_lit (by rfl)) (s_stop (s_ret0 (r_tup (r_cons (r_loc rfl) (r_cons (r_prim (r_cons (r_loc rfl) r_nil) (by rfl)) r_nil))))))
theorem fin_f {nd bg:V} {s:List Nat} {w:Option V} {a nm i r:V} :
    exB (pgc own) (callF (pgc own) (d+5)) bF (tl nd bg s h p w (.tup [i,r]) a nm) H=some (.next,tl nd bg s h p w (.tup [i,r]) a nm,H):=by kernel_rfl
theorem tO_t {nd bg:V} {s:List Nat} {w x y z:Option V} {v:V} (hp:H[p]? = some (.list (L++[v]))):evE (pgc own) (callF (pgc own) (d+5)) tO [some nd,some (.str s),some bg,some (.loc h),some (.loc p),w,x,y,z] H=some (.bool true,H) :=
  r_cmp (r_prim (r_cons (r_loc rfl) r_nil) (g_len hp)) r_lit (c_gt_t (by rw [List.length_append]; show(0:Int)<((L.length+1:Nat):Int); omega))
theorem tO_f {nd bg:V} {s:List Nat} {w x y z:Option V} (hp:H[p]? = some (.list [])):evE (pgc own) (callF (pgc own) (d+5)) tO [some nd,some (.str s),some bg,some (.loc h),some (.loc p),w,x,y,z] H=some (.bool false,H) :=
  r_cmp (r_prim (r_cons (r_loc rfl) r_nil) (g_len hp)) r_lit (by rfl)
theorem tI_t {nd bg:V} {s:List Nat} {w:Option V} {a nm i r:V}:evE (pgc own) (callF (pgc own) (d+5)) tI (tl nd bg s h p w (.tup [i,r]) a nm) H=some (.bool true,H):=by kernel_rfl
theorem tI_f {nd bg:V} {s:List Nat} {w:Option V} {a nm:V}:evE (pgc own) (callF (pgc own) (d+5)) tI (tl nd bg s h p w .none a nm) H=some (.bool false,H):=by kernel_rfl
noncomputable def resS (R:Option (Nat×Nm)) (l:Lo) (H:Hp):SR:=match R with
  | some (a,nm)=>some (.ret (.tup [.int a,.loc H.length]),l,H++[.list (nmL nm)])
  | none=>some (.next,l,H)
noncomputable def XX (own:List FI) (d f F:Nat) (l:Lo) (H:Hp):SR:=outK (whlN (evE (pgc own) (callF (pgc own) (d+5)) tO) (exB (pgc own) (callF (pgc own) (d+5)) bO) F) (seqK (exB (pgc own) (callF (pgc own) (d+5)) bF) (whlN (evE (pgc own) (callF (pgc own) (d+5)) tI) (exB (pgc own) (callF (pgc own) (d+5)) bI) f l H))
theorem XX_next {f F:Nat} {nd bg i r a nm c' a' n':V} {w:Option V} {s:List Nat} {H2:Hp} (t:TS H0 p h va rf lg m L k H) (hk:(k:Int)<m) (ha:callF (pgc own) (d+5) 67 [.tup [i,r],a,nm,.str s,.loc p,.loc h] (H.set h (hostO va rf lg m (k+1)))=some (.tup [c',a',n'],H2)) :
    XX own d (f+1) F (tl nd bg s h p w (.tup [i,r]) a nm) H=XX own d f F (tl nd bg s h p (some (.tup [c',a',n'])) c' a' n') H2 :=
  congrArg (fun z=>outK _ (seqK _ z)) (wn_next tI_t (in_next t.host hk ha) rfl)
theorem XX_brk {f F:Nat} {nd bg i r a nm:V} {w:Option V} {s:List Nat} {H2:Hp} (t:TS H0 p h va rf lg m L k H) (hk:(k:Int)<m) (ha:callF (pgc own) (d+5) 67 [.tup [i,r],a,nm,.str s,.loc p,.loc h] (H.set h (hostO va rf lg m (k+1)))=some (.none,H2)) :
    XX own d (f+1) F (tl nd bg s h p w (.tup [i,r]) a nm) H=whlN (evE (pgc own) (callF (pgc own) (d+5)) tO) (exB (pgc own) (callF (pgc own) (d+5)) bO) F (tl nd bg s h p (some .none) (.tup [i,r]) a nm) H2:=by
  refine(congrArg (fun z=>outK _ (seqK _ z)) (wn_brk tI_t (in_brk t.host hk ha))).trans ?_
  exact congrArg (outK _) (fin_f (own:=own) (d:=d))
theorem Tr.mono {s:List Nat} {c:List Im} {a:Nat} {nm:Nm} {L:List Wy} {k:Nat} {R:Option (Nat×Nm)} {k':Nat} (T:Tr s c a nm L k R k'):k≤k':=by
  induction T with
  | met=>exact Nat.le_refl _
  | chn=>exact Nat.le_succ _
  | _=>exact Nat.le_of_succ_le (by assumption)
theorem nmL_len (nm:Nm):(nmL nm).length=nm.length:=List.length_map ..
structure Nu (m:Int) (k k' f F:Nat):Prop where
  le:(k':Int)≤m
  f:k'<k+f
  F:k'<k+F
theorem Nu.step {m:Int} {k k' f F:Nat} (n:Nu m k k' f F) (h:k+1≤k'):∃ g,f=g+1∧(k:Int)<m∧Nu m (k+1) k' g F:=by
  obtain⟨a,b,c⟩:=n
  exact⟨f - 1,by omega,by omega,a,by omega,by exact Nat.not_le.mp (lin [_,_,_] (.c 1 (.a (.v 0) (.n 1)) (.a (.v 1) (.v 2)) (.c 1 (.a (.a (.v 1) (.n 1)) (.v 2)) (.v 0) .z)) rfl c)⟩
theorem Nu.pop {m:Int} {k k' f F:Nat} (n:Nu m k k' f F) (h:k+1≤k') (hm:m<100000):∃ g G,f=g+1∧F=G+1∧(k:Int)<m∧Nu m (k+1) k' 1048576 G:=by
  obtain⟨a,b,c⟩:=n
  exact⟨f - 1,F - 1,by omega,by omega,by omega,a,by omega,by omega⟩
structure Bd (k:Nat) (L:List Wy) (nm:Nm):Prop where
  l:L.length≤k
  n:nm.length≤k
  w:∀ w∈L,w.nm.length≤k
section
variable {L:List Wy} {nm:Nm} {w:Wy}
theorem Bd.step (b:Bd k L nm):Bd (k+1) L nm:=⟨Nat.le_succ_of_le b.l,Nat.le_succ_of_le b.n,fun w h=>Nat.le_succ_of_le (b.w w h)⟩
theorem Bd.pop (b:Bd k (L++[w]) nm):Bd (k+1) L w.nm :=
  ⟨Nat.le_trans (by rw [List.length_append]; exact Nat.le_add_right _ _) (Nat.le_succ_of_le b.l),Nat.le_succ_of_le (b.w w (List.mem_append_right _ (.head _))),fun w h=>Nat.le_succ_of_le (b.w w (List.mem_append_left _ h))⟩
theorem Bd.push (b:Bd k L nm) {c:List Im} {a:Nat}:Bd (k+1) (L++[⟨c,a,nm⟩]) nm :=
  ⟨by rw [List.length_append]; exact Nat.succ_le_succ b.l,Nat.le_succ_of_le b.n,fun w h=>(List.mem_append.mp h).elim (fun h=>Nat.le_succ_of_le (b.w w h)) fun h=>by
    rw [List.mem_singleton.mp h]; exact Nat.le_succ_of_le b.n⟩
theorem Bd.app (b:Bd k L nm) {x:Nat×List Nat}:Bd (k+1) L (nm++[x]):=⟨Nat.le_succ_of_le b.l,by rw [List.length_append]; exact Nat.succ_le_succ b.n,fun w h=>Nat.le_succ_of_le (b.w w h)⟩
end
theorem map_snoc {α β:Type} (f:α→β) (l:List α) (x:α):(l++[x]).map f=l.map f++[f x]:=by rw [List.map_append]; rfl
theorem km_lim {n k:Nat} {m:Int} (h:n≤k) (hk:(k:Int)<m) (hm:m<100000):n+1≤lim:=by unfold lim; omega
inductive TrEnd (x:SR) (R:Option (Nat×Nm)) (H0:Hp) (p h:Nat) (va rf lg:V) (m:Int) (k':Nat):Prop where
  | mk (l':Lo) (H':Hp) (e:x=resS R l' H') (L':List V) (t:TS H0 p h va rf lg m L' k' H'):TrEnd x R H0 p h va rf lg m k'
noncomputable def TrOk (own:List FI) (d:Nat) (s:List Nat) (H0:Hp) (p h:Nat) (va rf lg:V) (m:Int) (c:List Im) (a:Nat) (nm:Nm) (L:List Wy) (k:Nat) (R:Option (Nat×Nm)) (k':Nat):Prop :=
  ∀ ⦃H:Hp⦄ ⦃nd bg:V⦄ ⦃w:Option V⦄ ⦃f F:Nat⦄,TS H0 p h va rf lg m (L.map wV) k H→Nu m k k' f F→Bd k L nm→TrEnd (XX own d f F (tl nd bg s h p w (cV c) (.int a) (.tup (nmL nm))) H) R H0 p h va rf lg m k'
theorem tr_run {s:List Nat} (hne:p≠h) (hm:m<100000) {c:List Im} {a:Nat} {nm:Nm} {L:List Wy} {k:Nat} {R:Option (Nat×Nm)} {k':Nat} (T:Tr s c a nm L k R k'):TrOk own d s H0 p h va rf lg m c a nm L k R k':=by
  induction T with
  | met =>
    intro H nd bg w f F t n b
    obtain⟨f,rfl⟩:∃ g,f=g+1:=Nat.exists_eq_add_one.mpr (by have:=n.f; exact Nat.not_le.mp (lin [_,_] (.c 1 (.a (.v 0) (.n 1)) (.a (.v 0) (.v 1)) (.c 1 (.v 1) (.n 0) .z)) rfl this))
    exact⟨_,H,(congrArg (fun z=>outK _ (seqK _ z)) (wn_end tI_f)).trans (congrArg (outK _) (fin_t (own:=own) (d:=d))),_,t⟩
  | cht hb T ih =>
    intro H nd bg w f F t n b
    obtain⟨f,rfl,hk,n⟩:=n.step T.mono
    obtain⟨l',H',e,L',q⟩:=ih (t.step hne) n  b.step
    exact⟨l',H',(XX_next t hk (adv_chars (taken_chars_t hb))).trans e,L',q⟩
  | @chp x r a nm L w0 k R k' hb T ih =>
    intro H nd bg w f F t n b
    obtain⟨f,F,rfl,rfl,hk,n⟩:=n.pop T.mono hm
    have t1:=t.step hne
    rw [map_snoc] at t1
    obtain⟨l',H',e,L',q⟩:=ih (t1.push hne (L.map wV)) n b.pop
    exact⟨l',H',(XX_brk t hk (adv_chars (taken_chars_f hb))).trans ((wn_q (tO_t t1.pile)).trans ((congrArg (outK _) (out_pop t1.pile)).trans e)),L',q⟩
  | @chn x r a nm k hb =>
    intro H nd bg w f F t n b
    obtain⟨f,F,rfl,rfl,hk,n⟩:=n.pop (Nat.le_refl _) hm
    have t1:=t.step hne
    exact⟨_,_,(XX_brk t hk (adv_chars (taken_chars_f hb))).trans (wn_end (tO_f t1.pile)),_,t1⟩
  | ca T ih =>
    intro H nd bg w f F t n b
    obtain⟨f,rfl,hk,n⟩:=n.step T.mono
    obtain⟨l',H',e,L',q⟩:=ih (t.step hne) n  b.step
    exact⟨l',H',(XX_next t hk adv_cat).trans e,L',q⟩
  | @al x y r a nm L k R k' T ih =>
    intro H nd bg w f F t n b
    obtain⟨f,rfl,hk,n⟩:=n.step T.mono
    have t1:=t.step hne
    have t2:=t1.push hne (L.map wV++[wV ⟨.nd y::r,a,nm⟩])
    rw [← map_snoc] at t2
    obtain⟨l',H',e,L',q⟩:=ih t2 n  b.push
    refine⟨l',H',(XX_next t hk (adv_alt t1.pile ?_)).trans ?_,L',q⟩
    · rw [List.length_map]; exact km_lim b.l hk hm
    · rw [← e,map_snoc]; rfl
  | lt T ih =>
    intro H nd bg w f F t n b
    obtain⟨f,rfl,hk,n⟩:=n.step T.mono
    obtain⟨l',H',e,L',q⟩:=ih (t.step hne) n  b.step
    exact⟨l',H',(XX_next t hk adv_later).trans e,L',q⟩
  | @en z b r a nm L k R k' T ih =>
    intro H nd bg w f F t n b
    obtain⟨f,rfl,hk,n⟩:=n.step T.mono
    obtain⟨l',H',e,L',q⟩:=ih (t.step hne) n  b.app
    refine⟨l',H',(XX_next t hk (adv_endl ?_)).trans ?_,L',q⟩
    · rw [nmL_len]; exact km_lim b.n hk hm
    · rw [← e,nmL,nmL,map_snoc]
end
noncomputable def denN (s:List Nat):Nd→Nat→Nm→List (Nat×Nm)
  | .ch t,a,nm=>bif metB s t a then [(a+t.length,nm)] else []
  | .lt n q,a,nm=>(denN s n a nm).map fun z=>(z.1,z.2++[(q,(s.take z.1).drop a)])
  | .al x y,a,nm=>denN s x a nm++denN s y a nm
  | .ca x y,a,nm=>(denN s x a nm).flatMap fun z=>denN s y z.1 z.2
theorem denN_1 {s t a nm}:denN s (.ch t) a nm=bif metB s t a then [(a+t.length,nm)] else []:=rfl
theorem denN_2 {s n q a nm}:denN s (.lt n q) a nm=(denN s n a nm).map fun z=>(z.1,z.2++[(q,(s.take z.1).drop a)]):=rfl
theorem denN_3 {s x y a nm}:denN s (.al x y) a nm=denN s x a nm++denN s y a nm:=rfl
theorem denN_4 {s x y a nm}:denN s (.ca x y) a nm=(denN s x a nm).flatMap fun z=>denN s y z.1 z.2:=rfl
noncomputable def ckN:Nd→Nat→Nat
  | .ch _,k=>k+1
  | .lt n _,k=>ckN n (k+1)+1
  | .al x y,k=>ckN x k+ckN y k+1
  | .ca x y,k=>ckN x (ckN y k)+1
theorem ckN_1 {zu1 k}:ckN (.ch zu1) k=k+1:=rfl
theorem ckN_2 {n zu1 k}:ckN (.lt n zu1) k=ckN n (k+1)+1:=rfl
theorem ckN_3 {x y k}:ckN (.al x y) k=ckN x k+ckN y k+1:=rfl
theorem ckN_4 {x y k}:ckN (.ca x y) k=ckN x (ckN y k)+1:=rfl
noncomputable def Fls (s:List Nat) (L:List Wy) (k:Nat) (R:Option (Nat×Nm)) (k':Nat):Prop :=
  (L=[]∧R=none∧k'=k)∨∃ L' w,L=L'++[w]∧Tr s w.c w.a w.nm L' k R k'
structure ClA (s:List Nat) (c:List Im) (D:List (Nat×Nm)) (K a:Nat) (nm:Nm) (L:List Wy) (k:Nat) (j:Nat):Prop where
  le:j≤K
  met:∀ x,D.head? = some x→Tr s c a nm L k (some x) (k+j)
  non:D=[]→∀ R k',Fls s L (k+j) R k'→Tr s c a nm L k R k'
noncomputable def Cl (s:List Nat) (c:List Im) (D:Nat→Nm→List (Nat×Nm)) (K:Nat):Prop:=∀ a nm L k,∃ j,ClA s c (D a nm) K a nm L k j
theorem cl_step {s:List Nat} {c c':List Im} {D:List (Nat×Nm)} {K a a':Nat} {nm nm':Nm} {L L':List Wy} {k j:Nat} (h:ClA s c' D K a' nm' L' (k+1) j) (hL:L'=L) (hs:∀ R k',Tr s c' a' nm' L' (k+1) R k'→Tr s c a nm L k R k'):ClA s c D (K+1) a nm L k (j+1):=by
  subst hL
  have e:k+1+j=k+(j+1):=by exact lnq [_,_] (.a (.a (.v 0) (.n 1)) (.v 1)) (.a (.v 0) (.a (.v 1) (.n 1))) rfl
  exact⟨Nat.succ_le_succ h.le,fun x hx=>hs _ _ (e▸h.met x hx),fun hd R k' f=>hs _ _ (h.non hd R k' (e.symm▸f))⟩
theorem cl_nd {s:List Nat}:∀(n:Nd) {r:List Im} {D:Nat→Nm→List (Nat×Nm)} {K:Nat},Cl s r D K→Cl s (.nd n::r) (fun a nm=>(denN s n a nm).flatMap fun z=>D z.1 z.2) (ckN n K)
  | .ch t,r,D,K,hr=>fun a nm L k=>by
    cases hb:metB s t a with
    | true =>
      obtain⟨j,h⟩:=hr (a+t.length) nm L (k+1)
      refine⟨j+1,cl_step (c':=r) (a':=a+t.length) (nm':=nm) (D:=(denN s (.ch t) a nm).flatMap fun z=>D z.1 z.2) ?_ rfl fun R k' h=>.cht hb h⟩
      rw [denN_1,hb,cond_true,List.flatMap_singleton]; exact h
    | false =>
      refine⟨1,Nat.le_add_left _ _,fun x hx=>?_,fun hd R k' f=>?_⟩
      · have e0:(denN s (.ch t) a nm).flatMap (fun z=>D z.1 z.2)=[]:=by rw [denN_1,hb]; rfl
        cases (congrArg List.head? e0).symm.trans hx
      · rcases f with⟨rfl,rfl,rfl⟩ | ⟨L',w,rfl,T⟩
        · exact .chn hb
        · exact .chp hb T
  | .ca x y,r,D,K,hr=>fun a nm L k=>by
    obtain⟨j,h⟩:=cl_nd x (cl_nd y hr) a nm L (k+1)
    refine⟨j+1,cl_step (c':=.nd x::.nd y::r) (D:=(denN s (.ca x y) a nm).flatMap fun z=>D z.1 z.2) ?_ rfl fun R k' h=>.ca h⟩
    rw [denN_4,List.flatMap_assoc]; exact h
  | .lt x q,r,D,K,hr=>fun a nm L k=>by
    have h1:Cl s (.en q a::r) (fun a' nm'=>D a' (nm'++[(q,(s.take a').drop a)])) (K+1):=fun a' nm' L k=>by
      obtain⟨j,h⟩:=hr a' (nm'++[(q,(s.take a').drop a)]) L (k+1)
      exact⟨j+1,cl_step h rfl fun R k' h=>.en h⟩
    obtain⟨j,h⟩:=cl_nd x h1 a nm L (k+1)
    refine⟨j+1,cl_step (c':=.nd x::.en q a::r) (D:=(denN s (.lt x q) a nm).flatMap fun z=>D z.1 z.2) ?_ rfl fun R k' h=>.lt h⟩
    rw [denN_2,List.flatMap_map]; exact h
  | .al x y,r,D,K,hr=>fun a nm L k=>by
    obtain⟨j,h⟩:=cl_nd x hr a nm (L++[⟨.nd y::r,a,nm⟩]) (k+1)
    obtain⟨i,g⟩:=cl_nd y hr a nm L (k+1+j)
    have hl:=h.le
    have gl:=g.le
    have e0:(denN s (.al x y) a nm).flatMap (fun z=>D z.1 z.2)=(denN s x a nm).flatMap (fun z=>D z.1 z.2)++(denN s y a nm).flatMap (fun z=>D z.1 z.2):=List.flatMap_append
    cases hd:(denN s x a nm).flatMap fun z=>D z.1 z.2 with
    | cons z zs =>
      refine⟨j+1,by rw [ckN_3]; exact Nat.not_lt.mp (lin [_,_,_] (.c 1 (.v 0) (.v 1) (.c 1 (.a (.a (.a (.v 1) (.v 2)) (.n 1)) (.n 1)) (.a (.v 0) (.n 1)) .z)) rfl hl),fun x hx=>?_,fun e=>?_⟩
      · rw [hd] at e0
        have:=h.met x ((congrArg List.head? hd).trans ((congrArg List.head? e0).symm.trans hx))
        rw [show k+(j+1)=k+1+j by exact lnq [_,_] (.a (.v 0) (.a (.v 1) (.n 1))) (.a (.a (.v 0) (.n 1)) (.v 1)) rfl]
        exact .al this
      · rw [hd] at e0; cases e0.symm.trans e
    | nil =>
      have e:k+(j+i+1)=k+1+j+i:=by exact lnq [_,_,_] (.a (.v 0) (.a (.a (.v 1) (.v 2)) (.n 1))) (.a (.a (.a (.v 0) (.n 1)) (.v 1)) (.v 2)) rfl
      refine⟨j+i+1,by rw [ckN_3]; exact Nat.not_lt.mp (lin [_,_,_,_] (.c 1 (.v 0) (.v 1) (.c 1 (.v 2) (.v 3) (.c 1 (.a (.a (.a (.v 1) (.v 3)) (.n 1)) (.n 1)) (.a (.a (.v 0) (.v 2)) (.n 1)) .z))) rfl hl gl),fun x hx=>?_,fun hn R k' f=>?_⟩
      · rw [hd] at e0
        rw [e]
        exact .al (h.non hd _ _ (.inr ⟨_,_,rfl,g.met x ((congrArg List.head? e0).symm.trans hx)⟩))
      · rw [hd] at e0
        replace hn:=e0.symm.trans hn
        exact .al (h.non hd _ _ (.inr ⟨_,_,rfl,g.non hn R k' (e▸f)⟩))
theorem cl_nil (s:List Nat):Cl s [] (fun a nm=>[(a,nm)]) 0:=fun a nm L k=>⟨0,Nat.le_refl _,fun x hx=>by cases hx; exact .met,fun h=>by cases h⟩
theorem tr_all_k (s:List Nat) (n:Nd) (a k:Nat) {zg:Prop} (zk:∀ k',(k'≤k+ckN n 0)→(Tr s [.nd n] a [] [] k (denN s n a []).head? k')→zg):zg:=by
  obtain⟨j,h⟩:=cl_nd n (cl_nil s) a [] [] k
  have e:((denN s n a []).flatMap fun z=>[(z.1,z.2)])=denN s n a []:=List.flatMap_singleton' _
  refine zk (k+j) (Nat.add_le_add_left h.le k) ?_
  cases hd:denN s n a [] with
  | nil=>exact h.non (e.trans hd) _ _ (.inl ⟨rfl,rfl,rfl⟩)
  | cons x xs=>exact h.met x (congrArg List.head? (e.trans hd))
noncomputable def dep:Nd→Nat
  | .ch _=>0
  | .lt n _=>dep n+1
  | .al x y=>max (dep x) (dep y)+1
  | .ca x y=>max (dep x) (dep y)+1
theorem dep_1 {zu1}:dep (.ch zu1)=0:=rfl
theorem dep_2 {n zu1}:dep (.lt n zu1)=dep n+1:=rfl
theorem dep_3 {x y}:dep (.al x y)=max (dep x) (dep y)+1:=rfl
theorem dep_4 {x y}:dep (.ca x y)=max (dep x) (dep y)+1:=rfl
noncomputable def mm:Nat→Nat
  | 0=>2
  | d+1=>mm d * mm d+1
theorem mm_1:mm 0=2:=rfl
theorem mm_2 {d}:mm (d+1)=mm d * mm d+1:=rfl
theorem mm_two:∀ d,2≤mm d
  | 0=>Nat.le_refl 2
  | d+1=>Nat.le_succ_of_le (Nat.le_trans (mm_two d) (Nat.le_mul_of_pos_right _ (Nat.lt_of_lt_of_le (by decide) (mm_two d))))
theorem ck_le:∀(n:Nd) (d K:Nat),dep n≤d→ckN n K+1≤mm d * (K+1)
  | .ch t,d,K,_=>by
    have:=Nat.mul_le_mul_right (K+1) (mm_two d)
    show K+1+1≤_
    exact Nat.not_lt.mp (lin [_,_] (.c 1 (.m 2 (.a (.v 0) (.n 1))) (.v 1) (.c 1 (.a (.v 1) (.n 1)) (.a (.a (.v 0) (.n 1)) (.n 1)) .z)) rfl this)
  | .lt n q,0,K,h=>by rw [dep_2] at h; exact(lin [_] (.c 1 (.a (.v 0) (.n 1)) (.n 0) .z) rfl h).elim
  | .al x y,0,K,h=>by rw [dep_3] at h; omega
  | .ca x y,0,K,h=>by rw [dep_4] at h; omega
  | .lt n q,d+1,K,h=>by
    have h1:=ck_le n d (K+1) (Nat.le_of_succ_le_succ h)
    have h2:=Nat.mul_le_mul_right (mm d * (K+1)) (mm_two d)
    have h3:mm d * (K+1+1)≤mm d * (2 * (K+1)):=Nat.mul_le_mul_left _ (by exact Nat.not_lt.mp (lin [_] (.c 1 (.a (.m 2 (.a (.v 0) (.n 1))) (.n 1)) (.a (.a (.v 0) (.n 1)) (.n 1)) .z) rfl))
    rw [← Nat.mul_assoc,Nat.mul_comm (mm d) 2,Nat.mul_assoc] at h3
    rw [mm_2,Nat.add_mul,Nat.mul_assoc,Nat.one_mul]
    show ckN n (K+1)+1+1≤_
    exact Nat.not_lt.mp (lin [_,_,_,_,_] (.c 1 (.a (.v 0) (.n 1)) (.v 1) (.c 1 (.m 2 (.v 2)) (.v 3) (.c 1 (.v 1) (.m 2 (.v 2)) (.c 1 (.a (.a (.v 3) (.a (.v 4) (.n 1))) (.n 1)) (.a (.a (.v 0) (.n 1)) (.n 1)) .z)))) rfl h1 h2 h3)
  | .al x y,d+1,K,h=>by
    have hx:=ck_le x d K (by rw [dep_3] at h; omega)
    have hy:=ck_le y d K (by rw [dep_3] at h; omega)
    have h2:=Nat.mul_le_mul_right (mm d * (K+1)) (mm_two d)
    rw [mm_2,Nat.add_mul,Nat.mul_assoc,Nat.one_mul]
    show ckN x K+ckN y K+1+1≤_
    exact Nat.not_lt.mp (lin [_,_,_,_,_] (.c 1 (.a (.v 0) (.n 1)) (.v 1) (.c 1 (.a (.v 2) (.n 1)) (.v 1) (.c 1 (.m 2 (.v 1)) (.v 3) (.c 1 (.a (.a (.v 3) (.a (.v 4) (.n 1))) (.n 1)) (.a (.a (.a (.v 0) (.v 2)) (.n 1)) (.n 1)) .z)))) rfl hx hy h2)
  | .ca x y,d+1,K,h=>by
    have hx:=ck_le x d (ckN y K) (by rw [dep_4] at h; omega)
    have hy:=Nat.mul_le_mul_left (mm d) (ck_le y d K (by rw [dep_4] at h; omega))
    rw [mm_2,Nat.add_mul,Nat.mul_assoc,Nat.one_mul]
    show ckN x (ckN y K)+1+1≤_
    exact Nat.not_lt.mp (lin [_,_,_,_] (.c 1 (.a (.v 0) (.n 1)) (.v 1) (.c 1 (.v 1) (.v 2) (.c 1 (.a (.a (.v 2) (.a (.v 3) (.n 1))) (.n 1)) (.a (.a (.v 0) (.n 1)) (.n 1)) .z))) rfl hx hy)
structure HS (h:Nat) (va rf lg:V) (m:Int) (k:Nat) (H H':Hp):Prop where
  len:H.length≤H'.length
  host:H'[h]? = some (hostO va rf lg m k)
  off:∀ i,i<H.length→i≠h→H'[i]? = H[i]?
theorem HS.trans {h:Nat} {va rf lg:V} {m:Int} {k k':Nat} {H H1 H2:Hp} (a:HS h va rf lg m k H H1) (b:HS h va rf lg m k' H1 H2):HS h va rf lg m k' H H2 :=
  ⟨Nat.le_trans a.len b.len,b.host,fun i h1 h2=>(b.off i (Nat.lt_of_lt_of_le h1 a.len) h2).trans (a.off i h1 h2)⟩
inductive Ca (P:Pg) (d f:Nat) (vs:List V) (H:Hp) (K h:Nat) (va rf lg:V) (m:Int) (Rel:Hp→V→Prop):Prop where
  | mk (k':Nat) (v:V) (H':Hp) (hk:k'≤K) (e:callF P d f vs H=some (v,H')) (t:HS h va rf lg m k' H H') (r:Rel H' v):Ca P d f vs H K h va rf lg m Rel
noncomputable def Rt (H:Hp) (R:Option (Nat×Nm)) (v:V):Prop:=match R with
  | none=>v=.none
  | some (a,nm)=>∃ j,v=.tup [.int a,.loc j]∧H[j]? = some (.list (nmL nm))
noncomputable def R3 (H:Hp) (R:Option (Nat×Nat×Nm)) (v:V):Prop:=match R with
  | none=>v=.none
  | some (b,a,nm)=>∃ j,v=.tup [.int b,.int a,.loc j]∧H[j]? = some (.list (nmL nm))
section
variable {own:List FI} {d:Nat} {H:Hp} {h:Nat} {va rf lg:V} {m:Int} {k:Nat}
theorem tried_ok {s:List Nat} {n:Nd} {a:Nat} (hh:H[h]? = some (hostO va rf lg m k)) (hm:m<100000) (hk:((k+ckN n 0:Nat):Int)≤m):Ca (pgc own) (d+6) 66 [nV n,.str s,.int a,.loc h] H (k+ckN n 0) h va rf lg m fun H' v=>Rt H' (denN s n a []).head? v:=by
  refine tr_all_k s n a k fun k' hk' T=>?_
  have hlt:=lt_get hh
  have hmo:=T.mono
  let w0:Wy:=⟨[.nd n],a,[]⟩
  have t0:TS (H++[.list [wV w0]]) H.length h va rf lg m (([]:List Wy).map wV) k ((H++[O.list [wV w0]]).set H.length (O.list [])) :=
    ⟨List.length_set ..,set_at app_new,set_off (len_ne hh) (app_in hh),fun i h1 h2=>List.getElem?_set_ne h1.symm⟩
  obtain⟨l',H',e,L',t⟩:=tr_run (own:=own) (d:=d) (len_ne hh) hm T (nd:=nV n) (bg:=.int a) (w:=some (wV w0)) (f:=1048576) (F:=1048575) t0 ⟨by omega,by omega,by omega⟩ ⟨Nat.zero_le _,Nat.zero_le _,fun w h=>nomatch h⟩
  replace e:=(wn_q (n:=1048575) (tO_t (own:=own) (d:=d) (L:=[]) (nd:=nV n) (bg:=.int a) (s:=s) (h:=h) (w:=none) (x:=none) (y:=none) (z:=none) (v:=wV w0) (app_new (H:=H)))).trans ((congrArg (outK _) (out_pop (L:=[]) app_new)).trans e)
  have hl:H.length+1=H'.length:=by rw [t.len,List.length_append]; rfl
  have hoff:∀ i,i<H.length→i≠h→H'[i]? = H[i]?:=fun i h1 h2=>(t.off i (Nat.ne_of_lt h1) h2).trans (List.getElem?_append_left h1)
  cases hd:(denN s n a []).head? with
  | none =>
    rw [hd] at e
    exact⟨k',_,_,hk',call_ret rfl rfl (s_seq (s_asg0 (r_lst (r_cons (r_tup (r_cons (r_tup (r_cons (r_loc rfl) (r_cons r_lit r_nil))) (r_cons (r_loc rfl) (r_cons (r_tup r_nil) r_nil)))) r_nil)) t_loc0) (s_seq (s_whl0 e) (s_stop (s_ret0 r_lit)))),⟨by exact Nat.not_lt.mp (lin [_,_] (.c 1 (.a (.v 0) (.n 1)) (.v 1) (.c 1 (.a (.v 1) (.n 1)) (.v 0) .z)) rfl (Nat.le_of_eq hl)),t.host,hoff⟩,rfl⟩
  | some x =>
    rw [hd] at e
    refine⟨k',_,_,hk',call_ret rfl rfl (s_seq (s_asg0 (r_lst (r_cons (r_tup (r_cons (r_tup (r_cons (r_loc rfl) (r_cons r_lit r_nil))) (r_cons (r_loc rfl) (r_cons (r_tup r_nil) r_nil)))) r_nil)) t_loc0) (s_stop (s_whl0 e))),⟨by rw [List.length_append]; exact Nat.not_lt.mp (lin [_,_,_] (.c 1 (.a (.v 0) (.n 1)) (.v 1) (.c 1 (.a (.a (.v 1) (.v 2)) (.n 1)) (.v 0) .z)) rfl (Nat.le_of_eq hl)),app_in t.host,fun i h1 h2=>?_⟩,_,rfl,app_new⟩
    rw [List.getElem?_append_left (by exact Nat.not_le.mp (lin [_,_,_] (.c 1 (.a (.v 0) (.n 1)) (.v 1) (.c 1 (.a (.v 2) (.n 1)) (.v 0) (.c 1 (.v 1) (.v 2) .z))) rfl (Nat.le_of_eq hl) h1))]; exact hoff i h1 h2
noncomputable def R3a (H:Hp) (b:Nat) (R:Option (Nat×Nm)) (v:V):Prop:=R3 H (R.map fun x=>(b,x.1,x.2)) v
theorem match_at_ok {s:List Nat} {n:Nd} {a:Nat} (hh:H[h]? = some (hostO va rf lg m k)) (hm:m<100000) (hk:((k+ckN n 0:Nat):Int)≤m):Ca (pgc own) (d+7) 65 [nV n,.str s,.int a,.loc h] H (k+ckN n 0) h va rf lg m fun H' v=>R3a H' a (denN s n a []).head? v:=by
  obtain⟨k',v,H',hk',e,t,r⟩:=tried_ok (own:=own) (d:=d) (s:=s) (n:=n) (a:=a) hh hm hk
  cases hd:(denN s n a []).head? with
  | none =>
    rw [hd] at r; cases r
    exact⟨k',_,H',hk',call_ret rfl rfl (s_seq (s_asg0 (r_call r_glob (r_cons (r_loc rfl) (r_cons (r_loc rfl) (r_cons (r_loc rfl) (r_cons (r_loc rfl) r_nil)))) e) t_loc0) (s_stop (s_ret0 (r_ife_t (r_or_t (r_cmp (r_loc rfl) r_lit (by rfl))) (r_loc rfl))))),t,rfl⟩
  | some x =>
    rw [hd] at r; obtain⟨j,rfl,r⟩:=r
    exact⟨k',_,H',hk',call_ret rfl rfl (s_seq (s_asg0 (r_call r_glob (r_cons (r_loc rfl) (r_cons (r_loc rfl) (r_cons (r_loc rfl) (r_cons (r_loc rfl) r_nil)))) e) t_loc0) (s_stop (s_ret0 (r_ife_f (r_or (r_cmp (r_loc rfl) r_lit (by rfl)) (r_or (r_cmp (r_loc rfl) r_glob (by rfl)) r_or0)) (r_tup (r_cons (r_loc rfl) (r_cons (r_idx (r_loc rfl) r_lit (by rfl)) (r_cons (r_idx (r_loc rfl) r_lit (by rfl)) r_nil)))))))),t,j,rfl,r⟩
noncomputable def fst3 (D:Nat→List (Nat×Nm)):Nat→Nat→Option (Nat×Nat×Nm)
  | 0,_=>none
  | c+1,b=>match (D b).head? with | some x=>some (b,x.1,x.2) | none=>fst3 D c (b+1)
theorem fst3_1 {D zu1}:fst3 D 0 zu1=none:=rfl
theorem fst3_2 {D c b}:fst3 D (c+1) b=match (D b).head? with | some x=>some (b,x.1,x.2) | none=>fst3 D c (b+1):=rfl
noncomputable def bP:List MS:=[(.asg (.loc 5) (.call (.glob (.fn 65)) [(.loc 0),(.loc 1),(.loc 4),(.loc 3)])),(.ife (.cmp .isnot (.loc 5) (.lit .none)) [(.ret (.ife (.cmp .eq (.loc 5) (.glob (.str [108,111,115,116]))) (.lit .none) (.loc 5)))] [])]
noncomputable def resF (R:Option (Nat×Nat×Nm)) (v:V) (l:Lo) (H:Hp):SR:=match R with
  | some _=>some (.ret v,l,H)
  | none=>some (.next,l,H)
inductive Fo (x:SR) (K h:Nat) (va rf lg:V) (m:Int) (H:Hp) (R:Option (Nat×Nat×Nm)):Prop where
  | mk (k':Nat) (v:V) (l:Lo) (H':Hp) (hk:k'≤K) (e:x=resF R v l H') (t:HS h va rf lg m k' H H') (r:R3 H' R v):Fo x K h va rf lg m H R
theorem plain_loop {s:List Nat} {n:Nd} (hm:m<100000):∀(c b k f:Nat) (H:Hp) (an x y:Option V),c<f→H[h]? = some (hostO va rf lg m k)→((k+c * ckN n 0:Nat):Int)≤m →
    Fo (forN (.one 4) (fun l H=>exB (pgc own) (callF (pgc own) (d+7)) bP l H) f (.rng b 1 c) [some (nV n),some (.str s),an,some (.loc h),x,y] H) (k+c * ckN n 0) h va rf lg m H (fst3 (fun b=>denN s n b []) c b)
  | 0,b,k,f+1,H,an,x,y,_,hh,_=>⟨k,.none,_,H,Nat.le_add_right _ _,fn_end rfl,⟨Nat.le_refl _,hh,fun _ _ _=>rfl⟩,rfl⟩
  | c+1,b,k,f+1,H,an,x,y,hf,hh,hk=>by
    rw [Nat.succ_mul] at hk
    obtain⟨k1,v,H1,h1,e,t,r⟩:=match_at_ok (own:=own) (d:=d) (s:=s) (n:=n) (a:=b) hh hm (by omega)
    unfold fst3
    cases hd:(denN s n b []).head? with
    | none =>
      rw [hd] at r; cases r
      obtain⟨k2,v2,l2,H2,h2,e2,t2,r2⟩:=plain_loop (n:=n) hm c (b+1) k1 f H1 an (some (.int b)) (some .none) (by exact Nat.not_le.mp (lin [_,_] (.c 1 (.a (.a (.v 0) (.n 1)) (.n 1)) (.a (.v 1) (.n 1)) (.c 1 (.v 1) (.v 0) .z)) rfl hf)) t.host (by omega)
      exact⟨k2,v2,l2,H2,by rw [Nat.succ_mul]; exact Nat.not_lt.mp (lin [_,_,_,_,_] (.c 1 (.v 0) (.a (.v 1) (.v 2)) (.c 1 (.v 3) (.a (.v 0) (.v 4)) (.c 1 (.a (.a (.v 1) (.a (.v 4) (.v 2))) (.n 1)) (.v 3) .z))) rfl h1 h2),fn_next rfl rfl (s_seq (s_asg0 (r_call r_glob (r_cons (r_loc rfl) (r_cons (r_loc rfl) (r_cons (r_loc rfl) (r_cons (r_loc rfl) r_nil)))) e) t_loc0) (s_seq (s_if_f (r_cmp (r_loc rfl) r_lit (by rfl)) s_nil0) s_nil0)) e2,t.trans t2,r2⟩
    | some z =>
      rw [hd] at r; obtain⟨j,rfl,r⟩:=r
      exact⟨k1,_,_,H1,by rw [Nat.succ_mul]; exact Nat.not_lt.mp (lin [_,_,_,_] (.c 1 (.v 0) (.a (.v 1) (.v 2)) (.c 1 (.a (.a (.v 1) (.a (.v 3) (.v 2))) (.n 1)) (.v 0) .z)) rfl h1),fn_ret rfl rfl (s_seq (s_asg0 (r_call r_glob (r_cons (r_loc rfl) (r_cons (r_loc rfl) (r_cons (r_loc rfl) (r_cons (r_loc rfl) r_nil)))) e) t_loc0) (s_stop (s_if_t (r_cmp (r_loc rfl) r_lit (by rfl)) (s_stop (s_ret0 (r_ife_f (r_cmp (r_loc rfl) r_glob (by rfl)) (r_loc rfl))))))),t,j,rfl,r⟩
theorem rng_nat {c:Nat}:rngLen 0 (c:Int) 1=c:=rng_up (by omega)
noncomputable def cnt (an:Bool) (s:List Nat):Nat:=bif an then 1 else s.length+1
theorem cnt_ok {an:Bool} {s:List Nat} {P:Pg} {call:CallT} {l:Lo} (h2:l[2]? = some (some (.bool an))) (h1:l[1]? = some (some (.str s))):evE P call (.ife (.loc 2) (.lit (.int 1)) (.bin .add (.prim .len [.loc 1]) (.lit (.int 1)))) l H=some (.int (cnt an s),H):=by
  cases an
  · exact r_ife_f (r_loc h2) (r_bin (r_prim (r_cons (r_loc h1) r_nil) rfl) r_lit rfl)
  · exact r_ife_t (r_loc h2) r_lit
theorem plain_ok {s:List Nat} {n:Nd} {an:Bool} (hh:H[h]? = some (hostO va rf lg m k)) (hm:m<100000) (hs:s.length<1000) (hk:((k+cnt an s * ckN n 0:Nat):Int)≤m) :
    Ca (pgc own) (d+8) 64 [nV n,.str s,.bool an,.loc h] H (k+cnt an s * ckN n 0) h va rf lg m fun H' v=>R3 H' (fst3 (fun b=>denN s n b []) (cnt an s) 0) v:=by
  have hc:cnt an s≤1000:=by cases an <;> simp only [cnt,cond_true,cond_false] <;> omega
  obtain⟨k',v,l,H',h1,e,t,r⟩:=plain_loop (own:=own) (d:=d) (s:=s) (n:=n) hm (cnt an s) 0 k 1048576 H (some (.bool an)) none none (by exact Nat.not_le.mp (lin [_] (.c 1 (.v 0) (.n 1000) (.c 1 (.n 1048576) (.v 0) .z)) rfl hc)) hh hk
  have e0:∀ {q:SR},forN (.one 4) (fun l H=>exB (pgc own) (callF (pgc own) (d+7)) bP l H) 1048576 (.rng (0:Nat) 1 (cnt an s)) [some (nV n),some (.str s),some (.bool an),some (.loc h),none,none] H=q→exS (pgc own) (callF (pgc own) (d+7)) (.for (.one 4) (.prim .range [.ife (.loc 2) (.lit (.int 1)) (.bin .add (.prim .len [.loc 1]) (.lit (.int 1)))]) bP) [some (nV n),some (.str s),some (.bool an),some (.loc h),none,none] H=q:=fun {q} hq =>
    s_for0 (r_prim (r_cons (cnt_ok rfl rfl) r_nil) (p_range1 (by omega))) (i_rng (by decide) (by omega) (.inl rfl)) (by rw [rng_nat]; exact hq)
  cases hd:fst3 (fun b=>denN s n b []) (cnt an s) 0 with
  | none =>
    rw [hd] at e r; cases r
    exact⟨k',_,H',h1,call_ret rfl rfl (s_seq (e0 e) (s_stop (s_ret0 r_lit))),t,rfl⟩
  | some z =>
    rw [hd] at e r
    exact⟨k',_,H',h1,call_ret rfl rfl (s_stop (e0 e)),t,r⟩
end
theorem g_setN {H:Hp} {c k:Nat} {fs:List (Nat×V)} {v:V}:setA (H++[.inst c fs]) (.loc H.length) k v=some (H++[.inst c (putN k v fs)]):=by
  rw [g_setA app_new,List.set_append_right _ _ (Nat.le_refl _),Nat.sub_self]; rfl
noncomputable abbrev wayO (o pc a:Nat) (nm mk ca:V):O:=.inst 2 [(0,.loc o),(1,.int pc),(2,.int a),(3,nm),(4,mk),(5,ca)]
noncomputable abbrev matO (s:List Nat) (h q:Nat):O:=.inst 3 [(6,.str s),(7,.loc h),(8,.loc q)]
section
variable {own:List FI} {d:Nat} {H:Hp} {h mo q o wl pc a:Nat} {va rf lg nm mk ca:V} {m k:Int} {s:List Nat}
theorem way_init {v0 v1 v2 v3 v4 v5:V}:callF (pgc own) (d+1) 46 [.loc H.length,v0,v1,v2,v3,v4,v5] (H++[.inst 2 []])=some (.none,H++[.inst 2 [(0,v0),(1,v1),(2,v2),(3,v3),(4,v4),(5,v5)]]) :=
  call_next rfl rfl (s_seq (s_asg0 (r_loc rfl) (t_attr0 (r_loc rfl) g_setN)) (s_seq (s_asg0 (r_loc rfl) (t_attr0 (r_loc rfl) g_setN)) (s_seq (s_asg0 (r_loc rfl) (t_attr0 (r_loc rfl) g_setN)) (s_seq (s_asg0 (r_loc rfl) (t_attr0 (r_loc rfl) g_setN)) (s_seq (s_asg0 (r_loc rfl) (t_attr0 (r_loc rfl) g_setN)) (s_seq (s_asg0 (r_loc rfl) (t_attr0 (r_loc rfl) g_setN)) s_nil0))))))
theorem copied_ok {g:Nat} (hw:H[wl]? = some (wayO o pc a nm mk ca)):callF (pgc own) (d+2) 47 [.loc wl,.int g] H=some (.loc H.length,H++[wayO o g a nm mk ca]) :=
  call_ret rfl rfl (s_stop (s_ret0 (r_new (r_cons (r_attr (r_loc rfl) (by exact g_inst (by solve_by_elim [app_new,set_at,set_off,app_in,ne_len,len_ne,Ne.symm]) rfl)) (r_cons (r_loc rfl) (r_cons (r_attr (r_loc rfl) (by exact g_inst (by solve_by_elim [app_new,set_at,set_off,app_in,ne_len,len_ne,Ne.symm]) rfl)) (r_cons (r_attr (r_loc rfl) (by exact g_inst (by solve_by_elim [app_new,set_at,set_off,app_in,ne_len,len_ne,Ne.symm]) rfl)) (r_cons (r_attr (r_loc rfl) (by exact g_inst (by solve_by_elim [app_new,set_at,set_off,app_in,ne_len,len_ne,Ne.symm]) rfl)) (r_cons (r_attr (r_loc rfl) (by exact g_inst (by solve_by_elim [app_new,set_at,set_off,app_in,ne_len,len_ne,Ne.symm]) rfl)) r_nil)))))) rfl way_init)))
theorem back_t {L:List V} {v:V} (hm:H[mo]? = some (matO s h q)) (hq:H[q]? = some (.list (L++[v]))):callF (pgc own) (d+1) 50 [.loc mo] H=some (v,H.set q (.list L)) :=
  call_ret rfl rfl (s_stop (s_ret0 (r_ife_t (r_cmp (r_prim (r_cons (r_attr (r_loc rfl) (by exact g_inst (by solve_by_elim [app_new,set_at,set_off,app_in,ne_len,len_ne,Ne.symm]) rfl)) r_nil) (g_len hq)) r_lit (c_gt_t (by rw [List.length_append]; exact Int.natCast_pos.mpr (Nat.succ_pos _)))) (r_bm (r_attr (r_loc rfl) (by exact g_inst (by solve_by_elim [app_new,set_at,set_off,app_in,ne_len,len_ne,Ne.symm]) rfl)) (g_kindL (by solve_by_elim [app_new,set_at,set_off,app_in,ne_len,len_ne,Ne.symm]) rfl) r_nil (g_pop (by solve_by_elim [app_new,set_at,set_off,app_in,ne_len,len_ne,Ne.symm]))))))
theorem back_f (hm:H[mo]? = some (matO s h q)) (hq:H[q]? = some (.list [])):callF (pgc own) (d+1) 50 [.loc mo] H=some (.none,H) :=
  call_ret rfl rfl (s_stop (s_ret0 (r_ife_f (r_cmp (r_prim (r_cons (r_attr (r_loc rfl) (by exact g_inst (by solve_by_elim [app_new,set_at,set_off,app_in,ne_len,len_ne,Ne.symm]) rfl)) r_nil) (g_len hq)) r_lit (by rfl)) r_lit)))
theorem once_t {t:List Nat} (hm:H[mo]? = some (matO s h q)) (hw:H[wl]? = some (wayO o pc a nm mk ca)) (hb:metB s t a=true):callF (pgc own) (d+4) 52 [.loc mo,.tup [.str [111,110,101],.str [99,104,97,114,115],.str t],.loc wl] H=some (.bool true,H.set wl (wayO o (pc+1) (a+t.length) nm mk ca)) :=
  Eq.trans (b:=some (V.bool true,(H.set wl (wayO o pc (a+t.length) nm mk ca)).set wl (wayO o (pc+1) (a+t.length) nm mk ca))) (call_ret rfl rfl (s_seq (s_asg0 (r_idx (r_loc rfl) r_lit (by rfl)) t_loc0) (s_seq (s_if_f (r_isin (r_loc rfl) (by rfl)) s_nil0) (s_seq (s_asg0 (r_call r_glob (r_cons (r_tup (r_cons (r_idx (r_loc rfl) r_lit (by rfl)) (r_cons (r_loc rfl) r_nil))) (r_cons (r_attr (r_loc rfl) (by exact g_inst (by solve_by_elim [app_new,set_at,set_off,app_in,ne_len,len_ne,Ne.symm]) rfl)) (r_cons (r_attr (r_loc rfl) (by exact g_inst (by solve_by_elim [app_new,set_at,set_off,app_in,ne_len,len_ne,Ne.symm]) rfl)) r_nil))) (plain_end_chars hb)) t_loc0) (s_seq (s_if_f (r_cmp (r_loc rfl) r_lit (by rfl)) s_nil0) (s_seq (s_asg0 (r_loc rfl) (t_attr0 (r_loc rfl) (g_setA (by solve_by_elim [app_new,set_at,set_off,app_in,ne_len,len_ne,Ne.symm])))) (s_seq (s_auga0 (r_loc rfl) (by exact g_inst (by solve_by_elim [app_new,set_at,set_off,app_in,ne_len,len_ne,Ne.symm]) rfl) r_lit (by rfl) (g_setA (by solve_by_elim [app_new,set_at,set_off,app_in,ne_len,len_ne,Ne.symm]))) (s_stop (s_ret0 r_lit))))))))) (by rw [List.set_set])
theorem once_f {t:List Nat} (hm:H[mo]? = some (matO s h q)) (hw:H[wl]? = some (wayO o pc a nm mk ca)) (hb:metB s t a=false):callF (pgc own) (d+4) 52 [.loc mo,.tup [.str [111,110,101],.str [99,104,97,114,115],.str t],.loc wl] H=some (.bool false,H) :=
  call_ret rfl rfl (s_seq (s_asg0 (r_idx (r_loc rfl) r_lit (by rfl)) t_loc0) (s_seq (s_if_f (r_isin (r_loc rfl) (by rfl)) s_nil0) (s_seq (s_asg0 (r_call r_glob (r_cons (r_tup (r_cons (r_idx (r_loc rfl) r_lit (by rfl)) (r_cons (r_loc rfl) r_nil))) (r_cons (r_attr (r_loc rfl) (by exact g_inst (by solve_by_elim [app_new,set_at,set_off,app_in,ne_len,len_ne,Ne.symm]) rfl)) (r_cons (r_attr (r_loc rfl) (by exact g_inst (by solve_by_elim [app_new,set_at,set_off,app_in,ne_len,len_ne,Ne.symm]) rfl)) r_nil))) (plain_end_chars hb)) t_loc0) (s_stop (s_if_t (r_cmp (r_loc rfl) r_lit (by rfl)) (s_stop (s_ret0 r_lit)))))))
theorem done_one {t:List Nat} {b:Bool} {H2:Hp} (hm:H[mo]? = some (matO s h q)) (e:callF (pgc own) (d+4) 52 [.loc mo,.tup [.str [111,110,101],.str [99,104,97,114,115],.str t],.loc wl] H=some (.bool b,H2)):callF (pgc own) (d+5) 51 [.loc mo,.tup [.str [111,110,101],.str [99,104,97,114,115],.str t],.loc wl] H=some (.bool b,H2) :=
  call_ret rfl rfl (s_seq (s_asg0 (r_idx (r_loc rfl) r_lit (by rfl)) t_loc0) (s_stop (s_if_t (r_cmp (r_loc rfl) r_glob (by rfl)) (s_stop (s_ret0 (r_meth (r_loc rfl) (by solve_by_elim [app_new,set_at,set_off,app_in,ne_len,len_ne,Ne.symm]) rfl rfl (r_cons (r_loc rfl) (r_cons (r_loc rfl) r_nil)) e))))))
theorem done_split {L:List V} {g:Nat} (hm:H[mo]? = some (matO s h q)) (hw:H[wl]? = some (wayO o pc a nm mk ca)) (hq:H[q]? = some (.list L)) (hl:L.length<lim) (hne:wl≠q):callF (pgc own) (d+5) 51 [.loc mo,.tup [.str [115,112,108,105,116],.int g],.loc wl] H=some (.bool true,((H++[wayO o g a nm mk ca]).set q (.list (L++[.loc H.length]))).set wl (wayO o (pc+1) a nm mk ca)) :=
  call_ret rfl rfl (s_seq (s_asg0 (r_idx (r_loc rfl) r_lit (by rfl)) t_loc0) (s_seq (s_if_f (r_cmp (r_loc rfl) r_glob (by rfl)) s_nil0) (s_seq (s_if_t (r_cmp (r_loc rfl) r_glob (by rfl)) (s_seq (s_expr0 (r_bm (r_attr (r_loc rfl) (by exact g_inst (by solve_by_elim [app_new,set_at,set_off,app_in,ne_len,len_ne,Ne.symm]) rfl)) (g_kindL (by solve_by_elim [app_new,set_at,set_off,app_in,ne_len,len_ne,Ne.symm]) rfl) (r_cons (r_meth (r_loc rfl) (by solve_by_elim [app_new,set_at,set_off,app_in,ne_len,len_ne,Ne.symm]) rfl rfl (r_cons (r_idx (r_loc rfl) r_lit (by rfl)) r_nil) (copied_ok hw)) r_nil) (g_append (by solve_by_elim [app_new,set_at,set_off,app_in,ne_len,len_ne,Ne.symm]) hl))) s_nil0)) (s_seq (s_auga0 (r_loc rfl) (by exact g_inst (by solve_by_elim [app_new,set_at,set_off,app_in,ne_len,len_ne,Ne.symm]) rfl) r_lit (by rfl) (g_setA (by solve_by_elim [app_new,set_at,set_off,app_in,ne_len,len_ne,Ne.symm]))) (s_stop (s_ret0 r_lit))))))
theorem done_jump {g:Nat} (hw:H[wl]? = some (wayO o pc a nm mk ca)):callF (pgc own) (d+5) 51 [.loc mo,.tup [.str [106,117,109,112],.int g],.loc wl] H=some (.bool true,H.set wl (wayO o g a nm mk ca)) :=
  call_ret rfl rfl (s_seq (s_asg0 (r_idx (r_loc rfl) r_lit (by rfl)) t_loc0) (s_seq (s_if_f (r_cmp (r_loc rfl) r_glob (by rfl)) s_nil0) (s_stop (s_if_f (r_cmp (r_loc rfl) r_glob (by rfl)) (s_stop (s_if_t (r_cmp (r_loc rfl) r_glob (by rfl)) (s_seq (s_asg0 (r_idx (r_loc rfl) r_lit (by rfl)) (t_attr0 (r_loc rfl) (g_setA (by solve_by_elim [app_new,set_at,set_off,app_in,ne_len,len_ne,Ne.symm])))) (s_stop (s_ret0 r_lit)))))))))
theorem done_mark (hw:H[wl]? = some (wayO o pc a nm mk ca)):callF (pgc own) (d+5) 51 [.loc mo,.tup [.str [109,97,114,107]],.loc wl] H=some (.bool true,H.set wl (wayO o (pc+1) a nm (.tup [mk,.int a]) ca)) :=
  Eq.trans (b:=some (V.bool true,(H.set wl (wayO o pc a nm (.tup [mk,.int a]) ca)).set wl (wayO o (pc+1) a nm (.tup [mk,.int a]) ca))) (call_ret rfl rfl (s_seq (s_asg0 (r_idx (r_loc rfl) r_lit (by rfl)) t_loc0) (s_seq (s_if_f (r_cmp (r_loc rfl) r_glob (by rfl)) s_nil0) (s_seq (s_if_f (r_cmp (r_loc rfl) r_glob (by rfl)) (s_seq (s_if_f (r_cmp (r_loc rfl) r_glob (by rfl)) (s_seq (s_if_t (r_cmp (r_loc rfl) r_glob (by rfl)) (s_seq (s_asg0 (r_tup (r_cons (r_attr (r_loc rfl) (by exact g_inst (by solve_by_elim [app_new,set_at,set_off,app_in,ne_len,len_ne,Ne.symm]) rfl)) (r_cons (r_attr (r_loc rfl) (by exact g_inst (by solve_by_elim [app_new,set_at,set_off,app_in,ne_len,len_ne,Ne.symm]) rfl)) r_nil))) (t_attr0 (r_loc rfl) (g_setA (by solve_by_elim [app_new,set_at,set_off,app_in,ne_len,len_ne,Ne.symm])))) s_nil0)) s_nil0)) s_nil0)) (s_seq (s_auga0 (r_loc rfl) (by exact g_inst (by solve_by_elim [app_new,set_at,set_off,app_in,ne_len,len_ne,Ne.symm]) rfl) r_lit (by rfl) (g_setA (by solve_by_elim [app_new,set_at,set_off,app_in,ne_len,len_ne,Ne.symm]))) (s_stop (s_ret0 r_lit))))))) (by rw [List.set_set])
theorem ended_name {b:Nat} {r:V} (hm:H[mo]? = some (matO s h q)) (hw:H[wl]? = some (wayO o pc a nm (.tup [mk,.int b]) ca)) (hne:mo≠wl):callF (pgc own) (d+4) 53 [.loc mo,.tup [.str [110,97,109,101],r],.loc wl] H=some (.bool true,H.set wl (wayO o pc a (.tup [nm,.tup [r,.str ((s.take a).drop b)]]) mk ca)) :=
  Eq.trans (b:=some (V.bool true,(H.set wl (wayO o pc a nm mk ca)).set wl (wayO o pc a (.tup [nm,.tup [r,.str ((s.take a).drop b)]]) mk ca))) (call_ret rfl rfl (s_seq (s_asg0 (r_attr (r_loc rfl) (by exact g_inst (by solve_by_elim [app_new,set_at,set_off,app_in,ne_len,len_ne,Ne.symm]) rfl)) (t_tup0 (by rfl) (t_cons0 t_loc0 (t_cons0 t_loc0 t_nil0)))) (s_seq (s_asg0 (r_loc rfl) (t_attr0 (r_loc rfl) (g_setA (by solve_by_elim [app_new,set_at,set_off,app_in,ne_len,len_ne,Ne.symm])))) (s_seq (s_asg0 (r_slice (r_attr (r_loc rfl) (by exact g_inst (by solve_by_elim [app_new,set_at,set_off,app_in,ne_len,len_ne,Ne.symm]) rfl)) (r_loc rfl) (r_attr (r_loc rfl) (by exact g_inst (by solve_by_elim [app_new,set_at,set_off,app_in,ne_len,len_ne,Ne.symm]) rfl)) r_lit (by rfl)) t_loc0) (s_seq (s_if_f (r_cmp (r_idx (r_loc rfl) r_lit (by rfl)) r_glob (by rfl)) s_nil0) (s_seq (s_if_f (r_cmp (r_idx (r_loc rfl) r_lit (by rfl)) r_glob (by rfl)) s_nil0) (s_seq (s_asg0 (r_tup (r_cons (r_attr (r_loc rfl) (by exact g_inst (by solve_by_elim [app_new,set_at,set_off,app_in,ne_len,len_ne,Ne.symm]) rfl)) (r_cons (r_tup (r_cons (r_idx (r_loc rfl) r_lit (by rfl)) (r_cons (r_loc rfl) r_nil))) r_nil))) (t_attr0 (r_loc rfl) (g_setA (by solve_by_elim [app_new,set_at,set_off,app_in,ne_len,len_ne,Ne.symm])))) (s_stop (s_ret0 r_lit))))))))) (by rw [List.set_set])
theorem done_name {b:Nat} {r:V} (hm:H[mo]? = some (matO s h q)) (hw:H[wl]? = some (wayO o pc a nm (.tup [mk,.int b]) ca)) (hne:mo≠wl):callF (pgc own) (d+5) 51 [.loc mo,.tup [.str [110,97,109,101],r],.loc wl] H=some (.bool true,H.set wl (wayO o (pc+1) a (.tup [nm,.tup [r,.str ((s.take a).drop b)]]) mk ca)) :=
  Eq.trans (b:=some (V.bool true,(H.set wl (wayO o pc a (.tup [nm,.tup [r,.str ((s.take a).drop b)]]) mk ca)).set wl (wayO o (pc+1) a (.tup [nm,.tup [r,.str ((s.take a).drop b)]]) mk ca))) (call_ret rfl rfl (s_seq (s_asg0 (r_idx (r_loc rfl) r_lit (by rfl)) t_loc0) (s_seq (s_if_f (r_cmp (r_loc rfl) r_glob (by rfl)) s_nil0) (s_seq (s_if_f (r_cmp (r_loc rfl) r_glob (by rfl)) (s_seq (s_if_f (r_cmp (r_loc rfl) r_glob (by rfl)) (s_seq (s_if_f (r_cmp (r_loc rfl) r_glob (by rfl)) (s_seq (s_if_t (r_cmp (r_loc rfl) (r_tup (r_cons r_glob (r_cons r_glob (r_cons r_glob r_nil)))) (by rfl)) (s_seq (s_if_f (r_not (r_meth (r_loc rfl) (by solve_by_elim [app_new,set_at,set_off,app_in,ne_len,len_ne,Ne.symm]) rfl rfl (r_cons (r_loc rfl) (r_cons (r_loc rfl) r_nil)) (ended_name hm hw hne))) s_nil0) s_nil0)) s_nil0)) s_nil0)) s_nil0)) (s_seq (s_auga0 (r_loc rfl) (by exact g_inst (by solve_by_elim [app_new,set_at,set_off,app_in,ne_len,len_ne,Ne.symm]) rfl) r_lit (by rfl) (g_setA (by solve_by_elim [app_new,set_at,set_off,app_in,ne_len,len_ne,Ne.symm]))) (s_stop (s_ret0 r_lit))))))) (by rw [List.set_set])
end
noncomputable def tR:ME:=(.cmp .isnot (.loc 3) (.lit .none))
noncomputable def bR:List MS:=[(.expr (.meth (.attr (.loc 0) 7) 118 [])),(.asg (.loc 4) (.idx (.attr (.loc 3) 0) (.attr (.loc 3) 1))),(.ife (.and [(.cmp .eq (.idx (.loc 4) (.lit (.int 0))) (.glob (.str [100,111,110,101]))),(.cmp .is (.attr (.loc 3) 5) (.lit .none))]) [(.ret (.tup [(.glob (.int 0)),(.loc 3)]))] []),(.ife (.cmp .eq (.idx (.loc 4) (.lit (.int 0))) (.glob (.str [97,98,111,114,116]))) [(.ret (.tup [(.glob (.int 2)),(.lit .none)]))] []),(.ife (.not (.meth (.loc 0) 110 [(.loc 4),(.loc 3)])) [(.asg (.loc 3) (.meth (.loc 0) 109 [])),(.ife (.and [(.cmp .isnot (.loc 3) (.lit .none)),(.cmp .is (.attr (.loc 3) 0) (.lit .none))]) [(.ret (.tup [(.glob (.int 2)),(.lit .none)]))] [])] [])]
noncomputable abbrev rl (mo o:Nat) (bg:V) (w y:V):Lo:=[some (.loc mo),some (.loc o),some bg,some w,some y]
section
variable {own:List FI} {d:Nat} {H:Hp} {h mo q o wl pc a:Nat} {va rf lg nm mk ca:V} {m k:Int} {s:List Nat} {OV:List V}
theorem run_ok {x:List Nat} {r:List V} {bg:V} {y:Option V} {H2:Hp} (hh:H[h]? = some (hostO va rf lg m k)) (hk:k<m) (hm:H[mo]? = some (matO s h q)) (hw:H[wl]? = some (wayO o pc a nm mk ca)) (ho:H[o]? = some (.list OV)) (n1:mo≠h) (n2:wl≠h) (n3:o≠h) (hpc:OV[pc]? = some (.tup (.str x::r))) (hx:(x == [100,111,110,101])=false) (hy:(x == [97,98,111,114,116])=false) (hd:callF (pgc own) (d+5) 51 [.loc mo,.tup (.str x::r),.loc wl] (H.set h (hostO va rf lg m (k+1)))=some (.bool true,H2)) :
    exB (pgc own) (callF (pgc own) (d+5)) bR [some (.loc mo),some (.loc o),some bg,some (.loc wl),y] H=some (.next,rl mo o bg (.loc wl) (.tup (.str x::r)),H2) :=
  s_seq (s_expr0 (r_meth (r_attr (r_loc rfl) (by exact g_inst (by solve_by_elim [app_new,set_at,set_off,app_in,ne_len,len_ne,Ne.symm]) rfl)) (by solve_by_elim [app_new,set_at,set_off,app_in,ne_len,len_ne,Ne.symm]) rfl rfl r_nil (step_ok hh hk))) (s_seq (s_asg0 (r_idx (r_attr (r_loc rfl) (by exact g_inst (by solve_by_elim [app_new,set_at,set_off,app_in,ne_len,len_ne,Ne.symm]) rfl)) (r_attr (r_loc rfl) (by exact g_inst (by solve_by_elim [app_new,set_at,set_off,app_in,ne_len,len_ne,Ne.symm]) rfl)) (g_idxL (by solve_by_elim [app_new,set_at,set_off,app_in,ne_len,len_ne,Ne.symm]) (g_idx0 rfl hpc))) t_loc0) (s_seq (s_if_f (r_and_f (r_cmp (r_idx (r_loc rfl) r_lit (by rfl)) r_glob (c_seq hx))) s_nil0) (s_seq (s_if_f (r_cmp (r_idx (r_loc rfl) r_lit (by rfl)) r_glob (c_seq hy)) s_nil0) (s_seq (s_if_f (r_not (r_meth (r_loc rfl) (by solve_by_elim [app_new,set_at,set_off,app_in,ne_len,len_ne,Ne.symm]) rfl rfl (r_cons (r_loc rfl) (r_cons (r_loc rfl) r_nil)) hd)) s_nil0) s_nil0))))
theorem run_back {x:List Nat} {r:List V} {bg:V} {y:Option V} {H2 H3:Hp} {o2 pc2 a2:Nat} {nm2 mk2 ca2:V} {w2:Nat} (hh:H[h]? = some (hostO va rf lg m k)) (hk:k<m) (hm:H[mo]? = some (matO s h q)) (hw:H[wl]? = some (wayO o pc a nm mk ca)) (ho:H[o]? = some (.list OV)) (n1:mo≠h) (n2:wl≠h) (n3:o≠h) (hpc:OV[pc]? = some (.tup (.str x::r))) (hx:(x == [100,111,110,101])=false) (hy:(x == [97,98,111,114,116])=false) (hd:callF (pgc own) (d+5) 51 [.loc mo,.tup (.str x::r),.loc wl] (H.set h (hostO va rf lg m (k+1)))=some (.bool false,H2)) (hm2:H2[mo]? = some (matO s h q)) (hb:callF (pgc own) (d+5) 50 [.loc mo] H2=some (.loc w2,H3)) (hw2:H3[w2]? = some (wayO o2 pc2 a2 nm2 mk2 ca2)) :
    exB (pgc own) (callF (pgc own) (d+5)) bR [some (.loc mo),some (.loc o),some bg,some (.loc wl),y] H=some (.next,rl mo o bg (.loc w2) (.tup (.str x::r)),H3) :=
  s_seq (s_expr0 (r_meth (r_attr (r_loc rfl) (by exact g_inst (by solve_by_elim [app_new,set_at,set_off,app_in,ne_len,len_ne,Ne.symm]) rfl)) (by solve_by_elim [app_new,set_at,set_off,app_in,ne_len,len_ne,Ne.symm]) rfl rfl r_nil (step_ok hh hk))) (s_seq (s_asg0 (r_idx (r_attr (r_loc rfl) (by exact g_inst (by solve_by_elim [app_new,set_at,set_off,app_in,ne_len,len_ne,Ne.symm]) rfl)) (r_attr (r_loc rfl) (by exact g_inst (by solve_by_elim [app_new,set_at,set_off,app_in,ne_len,len_ne,Ne.symm]) rfl)) (g_idxL (by solve_by_elim [app_new,set_at,set_off,app_in,ne_len,len_ne,Ne.symm]) (g_idx0 rfl hpc))) t_loc0) (s_seq (s_if_f (r_and_f (r_cmp (r_idx (r_loc rfl) r_lit (by rfl)) r_glob (c_seq hx))) s_nil0) (s_seq (s_if_f (r_cmp (r_idx (r_loc rfl) r_lit (by rfl)) r_glob (c_seq hy)) s_nil0) (s_seq (s_if_t (r_not (r_meth (r_loc rfl) (by solve_by_elim [app_new,set_at,set_off,app_in,ne_len,len_ne,Ne.symm]) rfl rfl (r_cons (r_loc rfl) (r_cons (r_loc rfl) r_nil)) hd)) (s_seq (s_asg0 (r_meth (r_loc rfl) (by solve_by_elim [app_new,set_at,set_off,app_in,ne_len,len_ne,Ne.symm]) rfl rfl r_nil hb) t_loc0) (s_seq (s_if_f (r_and (r_cmp (r_loc rfl) r_lit (by rfl)) (r_and_f (r_cmp (r_attr (r_loc rfl) (by exact g_inst (by solve_by_elim [app_new,set_at,set_off,app_in,ne_len,len_ne,Ne.symm]) rfl)) r_lit (by rfl)))) s_nil0) s_nil0))) s_nil0))))
theorem run_end {x:List Nat} {r:List V} {bg:V} {y:Option V} {H2 H3:Hp} (hh:H[h]? = some (hostO va rf lg m k)) (hk:k<m) (hm:H[mo]? = some (matO s h q)) (hw:H[wl]? = some (wayO o pc a nm mk ca)) (ho:H[o]? = some (.list OV)) (n1:mo≠h) (n2:wl≠h) (n3:o≠h) (hpc:OV[pc]? = some (.tup (.str x::r))) (hx:(x == [100,111,110,101])=false) (hy:(x == [97,98,111,114,116])=false) (hd:callF (pgc own) (d+5) 51 [.loc mo,.tup (.str x::r),.loc wl] (H.set h (hostO va rf lg m (k+1)))=some (.bool false,H2)) (hm2:H2[mo]? = some (matO s h q)) (hb:callF (pgc own) (d+5) 50 [.loc mo] H2=some (.none,H3)) :
    exB (pgc own) (callF (pgc own) (d+5)) bR [some (.loc mo),some (.loc o),some bg,some (.loc wl),y] H=some (.next,rl mo o bg .none (.tup (.str x::r)),H3) :=
  s_seq (s_expr0 (r_meth (r_attr (r_loc rfl) (by exact g_inst (by solve_by_elim [app_new,set_at,set_off,app_in,ne_len,len_ne,Ne.symm]) rfl)) (by solve_by_elim [app_new,set_at,set_off,app_in,ne_len,len_ne,Ne.symm]) rfl rfl r_nil (step_ok hh hk))) (s_seq (s_asg0 (r_idx (r_attr (r_loc rfl) (by exact g_inst (by solve_by_elim [app_new,set_at,set_off,app_in,ne_len,len_ne,Ne.symm]) rfl)) (r_attr (r_loc rfl) (by exact g_inst (by solve_by_elim [app_new,set_at,set_off,app_in,ne_len,len_ne,Ne.symm]) rfl)) (g_idxL (by solve_by_elim [app_new,set_at,set_off,app_in,ne_len,len_ne,Ne.symm]) (g_idx0 rfl hpc))) t_loc0) (s_seq (s_if_f (r_and_f (r_cmp (r_idx (r_loc rfl) r_lit (by rfl)) r_glob (c_seq hx))) s_nil0) (s_seq (s_if_f (r_cmp (r_idx (r_loc rfl) r_lit (by rfl)) r_glob (c_seq hy)) s_nil0) (s_seq (s_if_t (r_not (r_meth (r_loc rfl) (by solve_by_elim [app_new,set_at,set_off,app_in,ne_len,len_ne,Ne.symm]) rfl rfl (r_cons (r_loc rfl) (r_cons (r_loc rfl) r_nil)) hd)) (s_seq (s_asg0 (r_meth (r_loc rfl) (by solve_by_elim [app_new,set_at,set_off,app_in,ne_len,len_ne,Ne.symm]) rfl rfl r_nil hb) t_loc0) (s_seq (s_if_f (r_and_f (r_cmp (r_loc rfl) r_lit (by rfl))) s_nil0) s_nil0))) s_nil0))))
theorem run_met {bg:V} {y:Option V} (hh:H[h]? = some (hostO va rf lg m k)) (hk:k<m) (hm:H[mo]? = some (matO s h q)) (hw:H[wl]? = some (wayO o pc a nm mk .none)) (ho:H[o]? = some (.list OV)) (n1:mo≠h) (n2:wl≠h) (n3:o≠h) (hpc:OV[pc]? = some (.tup [.str [100,111,110,101]])) :
    exB (pgc own) (callF (pgc own) (d+5)) bR [some (.loc mo),some (.loc o),some bg,some (.loc wl),y] H=some (.ret (.tup [.int 0,.loc wl]),rl mo o bg (.loc wl) (.tup [.str [100,111,110,101]]),H.set h (hostO va rf lg m (k+1))) :=
  s_seq (s_expr0 (r_meth (r_attr (r_loc rfl) (by exact g_inst (by solve_by_elim [app_new,set_at,set_off,app_in,ne_len,len_ne,Ne.symm]) rfl)) (by solve_by_elim [app_new,set_at,set_off,app_in,ne_len,len_ne,Ne.symm]) rfl rfl r_nil (step_ok hh hk))) (s_seq (s_asg0 (r_idx (r_attr (r_loc rfl) (by exact g_inst (by solve_by_elim [app_new,set_at,set_off,app_in,ne_len,len_ne,Ne.symm]) rfl)) (r_attr (r_loc rfl) (by exact g_inst (by solve_by_elim [app_new,set_at,set_off,app_in,ne_len,len_ne,Ne.symm]) rfl)) (g_idxL (by solve_by_elim [app_new,set_at,set_off,app_in,ne_len,len_ne,Ne.symm]) (g_idx0 rfl hpc))) t_loc0) (s_stop (s_if_t (r_and (r_cmp (r_idx (r_loc rfl) r_lit (by rfl)) r_glob (by rfl)) (r_and (r_cmp (r_attr (r_loc rfl) (by exact g_inst (by solve_by_elim [app_new,set_at,set_off,app_in,ne_len,len_ne,Ne.symm]) rfl)) r_lit (by rfl)) r_and0)) (s_stop (s_ret0 (r_tup (r_cons r_glob (r_cons (r_loc rfl) r_nil))))))))
theorem tR_t {bg:V} {y:Option V}:evE (pgc own) (callF (pgc own) (d+5)) tR [some (.loc mo),some (.loc o),some bg,some (.loc wl),y] H=some (.bool true,H):=by kernel_rfl
theorem tR_f {bg:V} {y:Option V}:evE (pgc own) (callF (pgc own) (d+5)) tR [some (.loc mo),some (.loc o),some bg,some .none,y] H=some (.bool false,H):=by kernel_rfl
end
set_option genCtorIdx false in
inductive Od where
  | one (t:List Nat) | split (g:Nat) | jump (g:Nat) | mark | name (r:Nat) | done
noncomputable def oV:Od→V
  | .one t=>.tup [.str [111,110,101],.str [99,104,97,114,115],.str t]
  | .split g=>.tup [.str [115,112,108,105,116],.int g]
  | .jump g=>.tup [.str [106,117,109,112],.int g]
  | .mark=>.tup [.str [109,97,114,107]]
  | .name r=>.tup [.str [110,97,109,101],.loc r]
  | .done=>.tup [.str [100,111,110,101]]
structure CW where
  pc:Nat
  a:Nat
  nm:Nm
  mks:List Nat
noncomputable def nmR:Nm→V
  | []=>.none
  | x::r=>.tup [nmR r,.tup [.loc x.1,.str x.2]]
noncomputable def mkV:List Nat→V
  | []=>.none
  | b::r=>.tup [mkV r,.int b]
noncomputable abbrev cwO (o:Nat) (w:CW):O:=wayO o w.pc w.a (nmR w.nm) (mkV w.mks) .none
inductive Rn (s:List Nat) (O:List Od):CW→List CW→Nat→Option CW→Nat→Prop where
  | done {w L k}:O[w.pc]? = some .done→Rn s O w L k (some w) (k+1)
  | onet {pc a nm mk L k R k' t}:O[pc]? = some (.one t)→metB s t a=true→Rn s O ⟨pc+1,a+t.length,nm,mk⟩ L (k+1) R k'→Rn s O ⟨pc,a,nm,mk⟩ L k R k'
  | onep {pc a nm mk L k R k' t w}:O[pc]? = some (.one t)→metB s t a=false→Rn s O w L (k+1) R k'→Rn s O ⟨pc,a,nm,mk⟩ (L++[w]) k R k'
  | onen {pc a nm mk k t}:O[pc]? = some (.one t)→metB s t a=false→Rn s O ⟨pc,a,nm,mk⟩ [] k none (k+1)
  | split {pc a nm mk L k R k' g}:O[pc]? = some (.split g)→Rn s O ⟨pc+1,a,nm,mk⟩ (L++[⟨g,a,nm,mk⟩]) (k+1) R k'→Rn s O ⟨pc,a,nm,mk⟩ L k R k'
  | jump {pc a nm mk L k R k' g}:O[pc]? = some (.jump g)→Rn s O ⟨g,a,nm,mk⟩ L (k+1) R k'→Rn s O ⟨pc,a,nm,mk⟩ L k R k'
  | mark {pc a nm mk L k R k'}:O[pc]? = some .mark→Rn s O ⟨pc+1,a,nm,a::mk⟩ L (k+1) R k'→Rn s O ⟨pc,a,nm,mk⟩ L k R k'
  | name {pc a nm b mk L k R k' r}:O[pc]? = some (.name r)→Rn s O ⟨pc+1,a,(r,(s.take a).drop b)::nm,mk⟩ L (k+1) R k'→Rn s O ⟨pc,a,nm,b::mk⟩ L k R k'
theorem Rn.mono {s:List Nat} {O:List Od} {w:CW} {L:List CW} {k:Nat} {R:Option CW} {k':Nat} (T:Rn s O w L k R k'):k+1≤k':=by
  induction T with
  | done=>exact Nat.le_refl _
  | onen=>exact Nat.le_refl _
  | _=>exact Nat.le_of_succ_le (by assumption)
structure CS (H0:Hp) (mo q h o:Nat) (va rf lg:V) (m:Int) (s:List Nat) (OV:List V) (wl:Nat) (w:CW) (hs:List (Nat×CW)) (k:Nat) (H:Hp):Prop where
  mat:H[mo]? = some (matO s h q)
  hist:H[q]? = some (.list (hs.map fun x=>.loc x.1))
  host:H[h]? = some (hostO va rf lg m k)
  ord:H[o]? = some (.list OV)
  way:H[wl]? = some (cwO o w)
  ws:∀ x∈hs,H[x.1]? = some (cwO o x.2)
  nd:∀ x∈hs,x.1≠wl
  nd2:hs.Pairwise fun x y=>x.1≠y.1
  len:H0.length≤H.length
  off:∀ i,i<H0.length→i≠h→H[i]? = H0[i]?
  oh:o≠h
  oq:o≠q
  wlo:H0.length≤wl
  wslo:∀ x∈hs,H0.length≤x.1
  qlo:H0.length≤q
section
variable {own:List FI} {d:Nat} {H H0:Hp} {h mo q o wl:Nat} {va rf lg:V} {m:Int} {k:Nat} {s:List Nat} {OV:List V} {w:CW} {hs:List (Nat×CW)}
theorem ob_ne {i j:Nat} {x y:O} (h1:H[i]? = some x) (h2:H[j]? = some y) (h:x≠y):i≠j:=fun e=>h (Option.some.inj (h1.symm.trans (e▸h2)))
theorem CS.ne1 (t:CS H0 mo q h o va rf lg m s OV wl w hs k H):mo≠h:=ob_ne t.mat t.host (fun e=>by cases e)
theorem CS.ne2 (t:CS H0 mo q h o va rf lg m s OV wl w hs k H):wl≠h:=ob_ne t.way t.host (fun e=>by cases e)
theorem CS.ne3 (t:CS H0 mo q h o va rf lg m s OV wl w hs k H):q≠h:=ob_ne t.hist t.host (fun e=>by cases e)
theorem CS.ne4 (t:CS H0 mo q h o va rf lg m s OV wl w hs k H):mo≠wl:=ob_ne t.mat t.way (fun e=>by cases e)
theorem CS.ne5 (t:CS H0 mo q h o va rf lg m s OV wl w hs k H):wl≠q:=ob_ne t.way t.hist (fun e=>by cases e)
theorem CS.ne6 (t:CS H0 mo q h o va rf lg m s OV wl w hs k H):o≠wl:=ob_ne t.ord t.way (fun e=>by cases e)
theorem CS.ne7 (t:CS H0 mo q h o va rf lg m s OV wl w hs k H):mo≠q:=ob_ne t.mat t.hist (fun e=>by cases e)
theorem CS.tick (t:CS H0 mo q h o va rf lg m s OV wl w hs k H):CS H0 mo q h o va rf lg m s OV wl w hs (k+1) (H.set h (hostO va rf lg m (k+1))) :=
  { t with
    mat:=set_off t.ne1.symm t.mat,hist:=set_off t.ne3.symm t.hist,host:=set_at t.host,ord:=set_off t.oh.symm t.ord,way:=set_off t.ne2.symm t.way
    ws:=fun x hx=>set_off (ob_ne t.host (t.ws x hx) (fun e=>by cases e)) (t.ws x hx)
    len:=by rw [List.length_set]; exact t.len
    off:=fun i h1 h2=>set_off h2.symm (t.off i h1 h2) }
theorem CS.upd (t:CS H0 mo q h o va rf lg m s OV wl w hs k H) (w':CW):CS H0 mo q h o va rf lg m s OV wl w' hs k (H.set wl (cwO o w')) :=
  { t with
    mat:=set_off t.ne4.symm t.mat,hist:=set_off t.ne5 t.hist,host:=set_off t.ne2 t.host,ord:=set_off t.ne6.symm t.ord,way:=set_at t.way
    ws:=fun x hx=>set_off (t.nd x hx).symm (t.ws x hx)
    len:=by rw [List.length_set]; exact t.len
    off:=fun i h1 h2=>set_off (Nat.ne_of_gt (Nat.lt_of_lt_of_le h1 t.wlo)) (t.off i h1 h2) }
theorem CS.push (t:CS H0 mo q h o va rf lg m s OV wl w hs k H) (w':CW):CS H0 mo q h o va rf lg m s OV wl w (hs++[(H.length,w')]) k ((H++[cwO o w']).set q (.list (hs.map (fun x=>V.loc x.1)++[.loc H.length]))) :=
  { t with
    mat:=set_off t.ne7.symm (app_in t.mat),hist:=by rw [map_snoc]; exact set_at (app_in t.hist),host:=set_off t.ne3 (app_in t.host),ord:=set_off t.oq.symm (app_in t.ord),way:=set_off t.ne5.symm (app_in t.way)
    ws:=fun x hx=>(List.mem_append.mp hx).elim (fun hx=>set_off (ob_ne t.hist (t.ws x hx) (fun e=>by cases e)) (app_in (t.ws x hx))) (fun hx=>by rw [List.mem_singleton.mp hx]; exact set_off (ne_len t.hist) app_new)
    nd:=fun x hx=>(List.mem_append.mp hx).elim (t.nd x) (fun hx=>by rw [List.mem_singleton.mp hx]; exact len_ne t.way)
    nd2:=List.pairwise_append.mpr ⟨t.nd2,List.pairwise_singleton ..,fun x hx y hy=>by rw [List.mem_singleton.mp hy]; exact ne_len (t.ws x hx)⟩
    len:=by rw [List.length_set,List.length_append]; exact Nat.le_add_right_of_le t.len
    off:=fun i h1 h2=>set_off (Nat.ne_of_gt (Nat.lt_of_lt_of_le h1 t.qlo)) ((List.getElem?_append_left (Nat.lt_of_lt_of_le h1 t.len)).trans (t.off i h1 h2))
    wslo:=fun x hx=>(List.mem_append.mp hx).elim (t.wslo x) (fun hx=>by rw [List.mem_singleton.mp hx]; exact t.len) }
theorem CS.pop {z:Nat×CW} (t:CS H0 mo q h o va rf lg m s OV wl w (hs++[z]) k H):CS H0 mo q h o va rf lg m s OV z.1 z.2 hs k (H.set q (.list (hs.map fun x=>V.loc x.1))) :=
  have hz:z∈hs++[z]:=List.mem_append_right _ (.head _)
  { t with
    mat:=set_off t.ne7.symm t.mat,hist:=set_at t.hist,host:=set_off t.ne3 t.host,ord:=set_off t.oq.symm t.ord
    way:=set_off (ob_ne t.hist (t.ws z hz) (fun e=>by cases e)) (t.ws z hz)
    ws:=fun x hx=>set_off (ob_ne t.hist (t.ws x (List.mem_append_left _ hx)) (fun e=>by cases e)) (t.ws x (List.mem_append_left _ hx))
    nd:=fun x hx=>(List.pairwise_append.mp t.nd2).2.2 x hx z (.head _)
    nd2:=(List.pairwise_append.mp t.nd2).1
    len:=by rw [List.length_set]; exact t.len
    off:=fun i h1 h2=>set_off (Nat.ne_of_gt (Nat.lt_of_lt_of_le h1 t.qlo)) (t.off i h1 h2)
    wlo:=t.wslo z hz
    wslo:=fun x hx=>t.wslo x (List.mem_append_left _ hx) }
noncomputable def resR (R:Option CW) (wl:Nat) (l:Lo) (H:Hp):SR:=match R with
  | some _=>some (.ret (.tup [.int 0,.loc wl]),l,H)
  | none=>some (.next,l,H)
noncomputable def Rw (o:Nat) (R:Option CW) (wl:Nat) (H:Hp):Prop:=match R with
  | some w=>H[wl]? = some (cwO o w)
  | none=>True
structure Nr (m:Int) (k k' f:Nat) (n:Nat):Prop where
  le:(k':Int)≤m
  f:k'<k+f
  n:n≤k
theorem Nr.step {m:Int} {k k' f n:Nat} (r:Nr m k k' f n) (h:k+1≤k'):∃ g,f=g+1∧(k:Int)<m∧Nr m (k+1) k' g n:=by
  obtain⟨a,b,c⟩:=r
  exact⟨f - 1,by omega,by omega,a,by omega,by exact Nat.not_lt.mp (lin [_,_] (.c 1 (.v 0) (.v 1) (.c 1 (.a (.a (.v 1) (.n 1)) (.n 1)) (.v 0) .z)) rfl c)⟩
theorem Nr.less {m:Int} {k k' f n:Nat} (r:Nr m k k' f (n+1)):Nr m k k' f n:=⟨r.le,r.f,Nat.le_of_succ_le r.n⟩
theorem Nr.more {m:Int} {k k' f n:Nat} (r:Nr m k k' f n) (h:k+1≤k'):∃ g,f=g+1∧(k:Int)<m∧Nr m (k+1) k' g (n+1):=by
  obtain⟨a,b,c⟩:=r
  exact⟨f - 1,by omega,by omega,a,by omega,by exact Nat.not_lt.mp (lin [_,_] (.c 1 (.v 0) (.v 1) (.c 1 (.a (.a (.v 1) (.n 1)) (.n 1)) (.a (.v 0) (.n 1)) .z)) rfl c)⟩
theorem od_at {O:List Od} {pc:Nat} {x:Od} (h:O[pc]? = some x):(O.map oV)[pc]? = some (oV x):=by rw [List.getElem?_map,h]; rfl
inductive RnEnd (x:SR) (R:Option CW) (o h:Nat) (va rf lg:V) (m:Int) (k':Nat) (H0:Hp):Prop where
  | mk (l':Lo) (wl':Nat) (H':Hp) (e:x=resR R wl' l' H') (r:Rw o R wl' H') (n:H0.length≤H'.length) (hh:H'[h]? = some (hostO va rf lg m k')) (off:∀ i,i<H0.length→i≠h→H'[i]? = H0[i]?):RnEnd x R o h va rf lg m k' H0
noncomputable def RnOk (own:List FI) (d:Nat) (H0:Hp) (mo q h o:Nat) (va rf lg:V) (m:Int) (s:List Nat) (O:List Od) (w:CW) (L:List CW) (k:Nat) (R:Option CW) (k':Nat):Prop :=
  ∀ ⦃H:Hp⦄ ⦃wl:Nat⦄ ⦃hs:List (Nat×CW)⦄ ⦃bg:V⦄ ⦃y:Option V⦄ ⦃f:Nat⦄,L=hs.map Prod.snd→CS H0 mo q h o va rf lg m s (O.map oV) wl w hs k H→Nr m k k' f hs.length →
    RnEnd (whlN (evE (pgc own) (callF (pgc own) (d+5)) tR) (exB (pgc own) (callF (pgc own) (d+5)) bR) f [some (.loc mo),some (.loc o),some bg,some (.loc wl),y] H) R o h va rf lg m k' H0
theorem rn_run {O:List Od} (hm:m<100000) {L:List CW} {R:Option CW} {k':Nat} (T:Rn s O w L k R k'):RnOk own d H0 mo q h o va rf lg m s O w L k R k':=by
  induction T with
  | @done w L k hpc =>
    intro H wl hs bg y f hL t n
    obtain⟨f,rfl,hk,n⟩:=n.step (Nat.le_refl _)
    have t1:=t.tick
    exact⟨_,wl,_,wn_ret tR_t (run_met t.host hk t.mat t.way t.ord t.ne1 t.ne2 t.oh (od_at hpc)),t1.way,t1.len,t1.host,t1.off⟩
  | onet hpc hb T ih =>
    intro H wl hs bg y f hL t n
    obtain⟨f,rfl,hk,n⟩:=n.step (Nat.le_of_succ_le T.mono)
    have t1:=t.tick
    obtain⟨l',wl',H',e,g,g1,g2,g3⟩:=ih hL (t1.upd ⟨_,_,_,_⟩) n
    exact⟨l',wl',H',wn_next tR_t (run_ok t.host hk t.mat t.way t.ord t.ne1 t.ne2 t.oh (od_at hpc) rfl rfl (done_one t1.mat (once_t t1.mat t1.way hb))) e,g,g1,g2,g3⟩
  | @onep pc a nm mk L k R k' t0 w0 hpc hb T ih =>
    intro H wl hs bg y f hL t n
    obtain⟨f,rfl,hk,n⟩:=n.step (Nat.le_of_succ_le T.mono)
    obtain⟨hs,z,rfl⟩:∃ hs' z,hs=hs'++[z]:=by
      refine⟨hs.dropLast,hs.getLast (fun e=>?_),(List.dropLast_concat_getLast _).symm⟩
      rw [e] at hL; exact List.append_ne_nil_of_right_ne_nil _ (List.cons_ne_nil _ _) hL
    rw [map_snoc] at hL
    obtain⟨rfl,hz⟩:=List.append_inj' hL rfl
    cases hz
    have t1:=t.tick
    rw [List.length_append] at n
    have t2:=t1.pop
    have hq:=t1.hist
    rw [map_snoc] at hq
    obtain⟨l',wl',H',e,g,g1,g2,g3⟩:=ih rfl t2 n.less
    exact⟨l',wl',H',wn_next tR_t (run_back t.host hk t.mat t.way t.ord t.ne1 t.ne2 t.oh (od_at hpc) rfl rfl (done_one t1.mat (once_f t1.mat t1.way hb)) t1.mat (back_t t1.mat hq) t2.way) e,g,g1,g2,g3⟩
  | @onen pc a nm mk k t0 hpc hb =>
    intro H wl hs bg y f hL t n
    obtain rfl:hs=[]:=List.map_eq_nil_iff.mp hL.symm
    have hf:=n.f
    obtain⟨f,rfl,hk,n⟩:=n.step (Nat.le_refl _)
    obtain⟨f,rfl⟩:∃ g,f=g+1:=Nat.exists_eq_add_one.mpr (by exact Nat.not_le.mp (lin [_,_] (.c 1 (.a (.a (.v 0) (.n 1)) (.n 1)) (.a (.v 0) (.a (.v 1) (.n 1))) (.c 1 (.v 1) (.n 0) .z)) rfl hf))
    have t1:=t.tick
    exact⟨_,wl,_,wn_next tR_t (run_end t.host hk t.mat t.way t.ord t.ne1 t.ne2 t.oh (od_at hpc) rfl rfl (done_one t1.mat (once_f t1.mat t1.way hb)) t1.mat (back_f t1.mat t1.hist)) (wn_end tR_f),trivial,t1.len,t1.host,t1.off⟩
  | @split pc a nm mk L k R k' g0 hpc T ih =>
    intro H wl hs bg y f hL t n
    obtain⟨f,rfl,hk,n'⟩:=n.more (Nat.le_of_succ_le T.mono)
    have t1:=t.tick
    have t2:=(t1.push ⟨g0,a,nm,mk⟩).upd ⟨pc+1,a,nm,mk⟩
    obtain⟨l',wl',H',e,g,g1,g2,g3⟩:=ih (by rw [map_snoc,hL]) t2 (by rw [List.length_append]; exact n')
    exact⟨l',wl',H',wn_next tR_t (run_ok t.host hk t.mat t.way t.ord t.ne1 t.ne2 t.oh (od_at hpc) rfl rfl (done_split t1.mat t1.way t1.hist (by rw [List.length_map]; have:=n.n; unfold lim; omega) t1.ne5)) e,g,g1,g2,g3⟩
  | jump hpc T ih =>
    intro H wl hs bg y f hL t n
    obtain⟨f,rfl,hk,n⟩:=n.step (Nat.le_of_succ_le T.mono)
    have t1:=t.tick
    obtain⟨l',wl',H',e,g,g1,g2,g3⟩:=ih hL (t1.upd ⟨_,_,_,_⟩) n
    exact⟨l',wl',H',wn_next tR_t (run_ok t.host hk t.mat t.way t.ord t.ne1 t.ne2 t.oh (od_at hpc) rfl rfl (done_jump t1.way)) e,g,g1,g2,g3⟩
  | mark hpc T ih =>
    intro H wl hs bg y f hL t n
    obtain⟨f,rfl,hk,n⟩:=n.step (Nat.le_of_succ_le T.mono)
    have t1:=t.tick
    obtain⟨l',wl',H',e,g,g1,g2,g3⟩:=ih hL (t1.upd ⟨_,_,_,_⟩) n
    exact⟨l',wl',H',wn_next tR_t (run_ok t.host hk t.mat t.way t.ord t.ne1 t.ne2 t.oh (od_at hpc) rfl rfl (done_mark t1.way)) e,g,g1,g2,g3⟩
  | name hpc T ih =>
    intro H wl hs bg y f hL t n
    obtain⟨f,rfl,hk,n⟩:=n.step (Nat.le_of_succ_le T.mono)
    have t1:=t.tick
    obtain⟨l',wl',H',e,g,g1,g2,g3⟩:=ih hL (t1.upd ⟨_,_,_,_⟩) n
    exact⟨l',wl',H',wn_next tR_t (run_ok t.host hk t.mat t.way t.ord t.ne1 t.ne2 t.oh (od_at hpc) rfl rfl (done_name t1.mat t1.way t1.ne4)) e,g,g1,g2,g3⟩
end
theorem setN {H:Hp} {x y:O}:(H++[x]).set H.length y=H++[y]:=by rw [List.set_append_right _ _ (Nat.le_refl _),Nat.sub_self]; rfl
theorem g_appN {H:Hp} {ls:List V} {v:V} (h:ls.length<lim):bmV .append (.loc H.length) [v] (H++[.list ls])=some (.none,H++[.list (ls++[v])]):=by rw [g_append app_new h,setN]
theorem g_revN {H:Hp} {ls:List V}:bmV .reverse (.loc H.length) [] (H++[.list ls])=some (.none,H++[.list ls.reverse]):=(atL_at app_new).trans (by rw [setN])
section
variable {own:List FI} {d:Nat} {H H0:Hp} {h mo q o wl:Nat} {va rf lg:V} {m:Int} {k:Nat} {s:List Nat} {OV:List V}
noncomputable def tN:ME:=(.cmp .isnot (.loc 0) (.lit .none))
noncomputable def bN:List MS:=[(.asg (.tup [(.loc 0),(.loc 2)]) (.loc 0)),(.expr (.bmeth (.loc 1) .append [(.loc 2)]))]
theorem rows_step {x:Nat×List Nat} {r:V} {y:Option V} {X:List V} (h:X.length<lim):exB (pgc own) (callF (pgc own) d) bN [some (.tup [r,.tup [.loc x.1,.str x.2]]),some (.loc H.length),y] (H++[.list X])=some (.next,[some r,some (.loc H.length),some (.tup [.loc x.1,.str x.2])],H++[.list (X++[.tup [.loc x.1,.str x.2]])]) :=
  s_seq (s_asg0 (r_loc rfl) (t_tup0 (by rfl) (t_cons0 t_loc0 (t_cons0 t_loc0 t_nil0)))) (s_seq (s_expr0 (r_bm (r_loc rfl) (g_kindL (by solve_by_elim [app_new,set_at,set_off,app_in,ne_len,len_ne,Ne.symm]) rfl) (r_cons (r_loc rfl) r_nil) (g_appN h))) s_nil0)
theorem rows_loop:∀(nm:Nm) (X:List V) (f:Nat) (y:Option V),nm.length<f→X.length+nm.length<lim →
    ∃ y',whlN (evE (pgc own) (callF (pgc own) d) tN) (exB (pgc own) (callF (pgc own) d) bN) f [some (nmR nm),some (.loc H.length),y] (H++[.list X])=some (.next,[some .none,some (.loc H.length),y'],H++[.list (X++nmL nm)])
  | [],X,f+1,y,_,_=>⟨y,by rw [show X++nmL [] = X from List.append_nil X]; exact wn_end rfl⟩
  | x::r,X,f+1,y,hf,hX=>by
    rw [List.length_cons] at hX
    obtain⟨y',e⟩:=rows_loop r (X++[.tup [.loc x.1,.str x.2]]) f (some (.tup [.loc x.1,.str x.2])) (Nat.lt_of_succ_lt_succ hf) (by rw [List.length_append,List.length_singleton]; exact Nat.not_le.mp (lin [_,_,_] (.c 1 (.a (.a (.v 0) (.a (.v 1) (.n 1))) (.n 1)) (.v 2) (.c 1 (.v 2) (.a (.a (.v 0) (.n 1)) (.v 1)) .z)) rfl hX))
    refine⟨y',wn_next rfl (rows_step (by exact Nat.not_le.mp (lin [_,_,_] (.c 1 (.a (.a (.v 0) (.a (.v 1) (.n 1))) (.n 1)) (.v 2) (.c 1 (.v 2) (.v 0) .z)) rfl hX))) (e.trans ?_)⟩
    rw [List.append_assoc]; rfl
theorem rows_ok {nm:Nm} (h:nm.length<1000000):callF (pgc own) (d+1) 57 [nmR nm] H=some (.loc H.length,H++[.list (nmL nm.reverse)]):=by
  obtain⟨y',e⟩:=rows_loop (own:=own) (d:=d) (H:=H) nm [] 1048576 none (by exact Nat.not_le.mp (lin [_] (.c 1 (.a (.v 0) (.n 1)) (.n 1000000) (.c 1 (.n 1048576) (.v 0) .z)) rfl h)) (by rw [List.length_nil]; unfold lim; exact Nat.not_le.mp (lin [_] (.c 1 (.a (.v 0) (.n 1)) (.n 1000000) (.c 1 (.n 1048576) (.a (.n 0) (.v 0)) .z)) rfl h))
  rw [nmL,List.map_reverse]
  exact call_ret rfl rfl (s_seq (s_asg0 (r_lst r_nil) t_loc0) (s_seq (s_whl0 e) (s_seq (s_expr0 (r_bm (r_loc rfl) (g_kindL (by solve_by_elim [app_new,set_at,set_off,app_in,ne_len,len_ne,Ne.symm]) rfl) r_nil g_revN)) (s_stop (s_ret0 (r_loc rfl))))))
theorem mat_init:callF (pgc own) (d+1) 48 [.loc H.length,.str s,.loc h] (H++[.inst 3 []])=some (.none,(H++[O.inst 3 [(6,.str s),(7,.loc h)]]++[O.list []]).set H.length (matO s h (H.length+1))) :=
  call_next rfl rfl (s_seq (s_asg0 (r_loc rfl) (t_attr0 (r_loc rfl) g_setN)) (s_seq (s_asg0 (r_loc rfl) (t_attr0 (r_loc rfl) g_setN)) (s_seq (s_asg0 (r_lst r_nil) (t_attr0 (r_loc rfl) ((g_setA (app_in app_new)).trans (by rw [List.length_append]; rfl)))) s_nil0)))
structure Out (H0:Hp) (h:Nat) (va rf lg:V) (m:Int) (o:Nat) (R:Option CW) (k':Nat) (v:V) (H':Hp):Prop where
  hs:HS h va rf lg m k' H0 H'
  met:∀ w,R=some w→∃ wl,v=.tup [.int 0,.loc wl]∧H'[wl]? = some (cwO o w)
  non:R=none→v=.tup [.int 1,.none]
theorem run_fn_k {Os:List Od} {R:Option CW} {k' b:Nat} (hm:m<100000) (hk:(k':Int)≤m) (T:Rn s Os ⟨0,b,[],[]⟩ [] k R k') (mat:H[mo]? = some (matO s h q)) (hist:H[q]? = some (.list [])) (host:H[h]? = some (hostO va rf lg m k)) (ord:H[o]? = some (.list (Os.map oV)))
    (len:H0.length≤H.length) (off:∀ i,i<H0.length→i≠h→H[i]? = H0[i]?) (oh:o≠h) (oq:o≠q) (qlo:H0.length≤q) {zg:Prop} (zk:∀ v,∀ H',(callF (pgc own) (d+6) 49 [.loc mo,.loc o,.int b] H=some (v,H'))→(Out H0 h va rf lg m o R k' v H')→zg):zg:=by
  obtain⟨v,H',zh1,zh2⟩:∃ v H',callF (pgc own) (d+6) 49 [.loc mo,.loc o,.int b] H=some (v,H')∧Out H0 h va rf lg m o R k' v H':=by
    have c:CS H0 mo q h o va rf lg m s (Os.map oV) H.length ⟨0,b,[],[]⟩ [] k (H++[cwO o ⟨0,b,[],[]⟩]) :=
      ⟨app_in mat,app_in hist,app_in host,app_in ord,app_new,fun x h=>(nomatch h),fun x h=>(nomatch h),List.Pairwise.nil,by rw [List.length_append]; exact Nat.le_add_right_of_le len,fun i h1 h2=>(List.getElem?_append_left (Nat.lt_of_lt_of_le h1 len)).trans (off i h1 h2),oh,oq,len,fun x h=>(nomatch h),qlo⟩
    have hmo:=T.mono
    obtain⟨l',wl',H',e,hr,g1,g2,g3⟩:=rn_run (own:=own) (d:=d) hm T (bg:=.int b) (y:=none) (f:=1048576) rfl c ⟨hk,by omega,Nat.zero_le _⟩
    cases R with
    | none=>exact⟨_,H',call_ret rfl rfl (s_seq (s_asg0 (r_new (r_cons (r_loc rfl) (r_cons r_lit (r_cons (r_loc rfl) (r_cons r_lit (r_cons r_lit (r_cons r_lit r_nil)))))) rfl way_init) t_loc0) (s_seq (s_whl0 e) (s_stop (s_ret0 (r_tup (r_cons r_glob (r_cons r_lit r_nil))))))),⟨g1,g2,g3⟩,fun w h=>(nomatch h),fun _=>rfl⟩
    | some w=>exact⟨_,H',call_ret rfl rfl (s_seq (s_asg0 (r_new (r_cons (r_loc rfl) (r_cons r_lit (r_cons (r_loc rfl) (r_cons r_lit (r_cons r_lit (r_cons r_lit r_nil)))))) rfl way_init) t_loc0) (s_stop (s_whl0 e))),⟨g1,g2,g3⟩,fun w' h=>by cases h; exact⟨wl',rfl,hr⟩,fun h=>(nomatch h)⟩
  exact zk v H' zh1 zh2
noncomputable def bM:List MS:=[(.asg (.tup [(.loc 5),(.loc 6)]) (.meth (.new 3 [(.loc 1),(.loc 3)]) 108 [(.loc 0),(.loc 4)])),(.ife (.cmp .eq (.loc 5) (.glob (.int 0))) [(.ret (.tup [(.loc 4),(.attr (.loc 6) 2),(.call (.glob (.fn 57)) [(.attr (.loc 6) 3)])]))] []),(.ife (.cmp .eq (.loc 5) (.glob (.int 2))) [(.ret (.lit .none))] [])]
theorem mo_n {an x5 x6:Option V} {b:Nat} {H1 H2:Hp} (e1:callF (pgc own) (d+6) 48 [.loc H.length,.str s,.loc h] (H++[.inst 3 []])=some (.none,H1)) (hm:H1[H.length]? = some (matO s h q)) (e2:callF (pgc own) (d+6) 49 [.loc H.length,.loc o,.int b] H1=some (.tup [.int 1,.none],H2)) :
    exB (pgc own) (callF (pgc own) (d+6)) bM [some (.loc o),some (.str s),an,some (.loc h),some (.int b),x5,x6] H=some (.next,[some (.loc o),some (.str s),an,some (.loc h),some (.int b),some (.int 1),some .none],H2) :=
  s_seq (s_asg0 (r_meth (r_new (r_cons (r_loc rfl) (r_cons (r_loc rfl) r_nil)) rfl e1) (by solve_by_elim [app_new,set_at,set_off,app_in,ne_len,len_ne,Ne.symm]) rfl rfl (r_cons (r_loc rfl) (r_cons (r_loc rfl) r_nil)) e2) (t_tup0 (by rfl) (t_cons0 t_loc0 (t_cons0 t_loc0 t_nil0)))) (s_seq (s_if_f (r_cmp (r_loc rfl) r_glob (by rfl)) s_nil0) (s_seq (s_if_f (r_cmp (r_loc rfl) r_glob (by rfl)) s_nil0) s_nil0))
theorem mo_t {an x5 x6:Option V} {b a pc:Nat} {nm:Nm} {mk ca:V} {H1 H2:Hp} (hl:nm.length<1000000) (e1:callF (pgc own) (d+6) 48 [.loc H.length,.str s,.loc h] (H++[.inst 3 []])=some (.none,H1)) (hm:H1[H.length]? = some (matO s h q)) (e2:callF (pgc own) (d+6) 49 [.loc H.length,.loc o,.int b] H1=some (.tup [.int 0,.loc wl],H2)) (hw:H2[wl]? = some (wayO o pc a (nmR nm) mk ca)) :
    ∃ l,exB (pgc own) (callF (pgc own) (d+6)) bM [some (.loc o),some (.str s),an,some (.loc h),some (.int b),x5,x6] H=some (.ret (.tup [.int b,.int a,.loc H2.length]),l,H2++[.list (nmL nm.reverse)]) :=
  ⟨_,s_seq (s_asg0 (r_meth (r_new (r_cons (r_loc rfl) (r_cons (r_loc rfl) r_nil)) rfl e1) (by solve_by_elim [app_new,set_at,set_off,app_in,ne_len,len_ne,Ne.symm]) rfl rfl (r_cons (r_loc rfl) (r_cons (r_loc rfl) r_nil)) e2) (t_tup0 (by rfl) (t_cons0 t_loc0 (t_cons0 t_loc0 t_nil0)))) (s_stop (s_if_t (r_cmp (r_loc rfl) r_glob (by rfl)) (s_stop (s_ret0 (r_tup (r_cons (r_loc rfl) (r_cons (r_attr (r_loc rfl) (by exact g_inst (by solve_by_elim [app_new,set_at,set_off,app_in,ne_len,len_ne,Ne.symm]) rfl)) (r_cons (r_call r_glob (r_cons (r_attr (r_loc rfl) (by exact g_inst (by solve_by_elim [app_new,set_at,set_off,app_in,ne_len,len_ne,Ne.symm]) rfl)) r_nil) (rows_ok hl)) r_nil))))))))⟩
theorem Rn.nmlen {Os:List Od} {w:CW} {L:List CW} {R:Option CW} {k':Nat} (T:Rn s Os w L k R k'):w.nm.length≤k→(∀ x∈L,x.nm.length≤k)→∀ w',R=some w'→w'.nm.length≤k':=by
  induction T with
  | done=>intro h1 h2 w' e; cases e; exact Nat.le_succ_of_le h1
  | onen=>intro h1 h2 w' e; cases e
  | onep hp hb T ih=>intro h1 h2; exact ih (Nat.le_succ_of_le (h2 _ (List.mem_append_right _ (.head _)))) fun x hx=>Nat.le_succ_of_le (h2 x (List.mem_append_left _ hx))
  | split hp T ih=>intro h1 h2; exact ih (Nat.le_succ_of_le h1) fun x hx=>(List.mem_append.mp hx).elim (fun hx=>Nat.le_succ_of_le (h2 x hx)) fun hx=>by rw [List.mem_singleton.mp hx]; exact Nat.le_succ_of_le h1
  | name hp T ih=>intro h1 h2; exact ih (Nat.succ_le_succ h1) fun x hx=>Nat.le_succ_of_le (h2 x hx)
  | _=>intro h1 h2; rename_i ih; exact ih (Nat.le_succ_of_le h1) fun x hx=>Nat.le_succ_of_le (h2 x hx)
noncomputable def Machine (s:List Nat) (Os:List Od) (D:Nat→List (Nat×Nm)) (K:Nat):Prop:=∀ b k,∃ R k',k'≤k+K∧Rn s Os ⟨0,b,[],[]⟩ [] k R k'∧R.map (fun w=>(w.a,w.nm.reverse))=(D b).head?
theorem orders_loop {Os:List Od} {D:Nat→List (Nat×Nm)} {K:Nat} (hR:Machine s Os D K) (hm:m<100000) (oh:o≠h):∀(c b k f:Nat) (H:Hp) (an x y z:Option V),c<f→H[h]? = some (hostO va rf lg m k)→H[o]? = some (.list (Os.map oV))→((k+c * K:Nat):Int)≤m →
    Fo (forN (.one 4) (fun l H=>exB (pgc own) (callF (pgc own) (d+6)) bM l H) f (.rng b 1 c) [some (.loc o),some (.str s),an,some (.loc h),x,y,z] H) (k+c * K) h va rf lg m H (fst3 D c b)
  | 0,b,k,f+1,H,an,x,y,z,_,hh,_,_=>⟨k,.none,_,H,Nat.le_add_right _ _,fn_end rfl,⟨Nat.le_refl _,hh,fun _ _ _=>rfl⟩,rfl⟩
  | c+1,b,k,f+1,H,an,x,y,z,hf,hh,ho,hk=>by
    rw [Nat.succ_mul] at hk
    obtain⟨R,k1,h1,T,hd⟩:=hR b k
    have hlt:=lt_get hh
    have hot:=lt_get ho
    have hl:((H++[O.inst 3 [(6,.str s),(7,.loc h)]]++[O.list []]).set H.length (matO s h (H.length+1))).length=H.length+2:=by rw [List.length_set,List.length_append,List.length_append]; rfl
    have g:∀ i x,H[i]? = some x→((H++[O.inst 3 [(6,.str s),(7,.loc h)]]++[O.list []]).set H.length (matO s h (H.length+1)))[i]? = some x:=fun i x hx=>set_off (len_ne hx) (app_in (app_in hx))
    have hq:((H++[O.inst 3 [(6,.str s),(7,.loc h)]]++[O.list []]).set H.length (matO s h (H.length+1)))[H.length+1]? = some (.list []):=by
      refine set_off (by exact Nat.ne_of_lt (Nat.not_le.mp (lin [_] (.c 1 (.a (.v 0) (.n 1)) (.v 0) .z) rfl))) ?_
      have:=app_new (H:=H++[O.inst 3 [(6,.str s),(7,.loc h)]]) (x:=O.list [])
      rw [List.length_append] at this; exact this
    refine run_fn_k (own:=own) (d:=d) (H0:=H) hm (by omega) T (set_at (app_in app_new)) hq (g _ _ hh) (g _ _ ho) (by exact Nat.not_lt.mp (lin [_,_] (.c 1 (.a (.v 0) (.n 2)) (.v 1) (.c 1 (.a (.v 1) (.n 1)) (.v 0) .z)) rfl (Nat.le_of_eq (Eq.symm hl)))) (fun i h1 h2=>(List.getElem?_set_ne (by exact Nat.ne_of_gt (Nat.not_le.mp (lin [_,_] (.c 1 (.a (.v 0) (.n 1)) (.v 1) (.c 1 (.v 1) (.v 0) .z)) rfl h1)))).trans (by rw [List.append_assoc]; exact List.getElem?_append_left h1)) oh (by exact Nat.ne_of_lt (Nat.not_le.mp (lin [_,_] (.c 1 (.a (.v 0) (.n 1)) (.v 1) (.c 1 (.a (.v 1) (.n 1)) (.v 0) .z)) rfl hot))) (Nat.le_succ _) fun v H2 e2 out=>?_
    unfold fst3
    cases R with
    | none =>
      rw [← hd]
      cases out.non rfl
      obtain⟨k2,v2,l2,H3,h2,e3,t2,r2⟩:=orders_loop hR hm oh c (b+1) k1 f H2 an (some (.int b)) (some (.int 1)) (some .none) (by exact Nat.not_le.mp (lin [_,_] (.c 1 (.a (.a (.v 0) (.n 1)) (.n 1)) (.a (.v 1) (.n 1)) (.c 1 (.v 1) (.v 0) .z)) rfl hf)) out.hs.host ((out.hs.off o hot oh).trans ho) (by omega)
      exact⟨k2,v2,l2,H3,by rw [Nat.succ_mul]; exact Nat.not_lt.mp (lin [_,_,_,_,_] (.c 1 (.v 0) (.a (.v 1) (.v 2)) (.c 1 (.v 3) (.a (.v 0) (.v 4)) (.c 1 (.a (.a (.v 1) (.a (.v 4) (.v 2))) (.n 1)) (.v 3) .z))) rfl h1 h2),fn_next rfl rfl (mo_n mat_init (set_at (app_in app_new)) e2) e3,out.hs.trans t2,r2⟩
    | some w =>
      rw [← hd]
      obtain⟨wl,rfl,hw⟩:=out.met w rfl
      have hn:=T.nmlen (Nat.zero_le _) (fun x h=>(nomatch h)) w rfl
      obtain⟨l,e4⟩:=mo_t (own:=own) (d:=d) (an:=an) (x5:=y) (x6:=z) (by omega) mat_init (set_at (app_in app_new)) e2 hw
      exact⟨k1,_,l,_,by rw [Nat.succ_mul]; exact Nat.not_lt.mp (lin [_,_,_,_] (.c 1 (.v 0) (.a (.v 1) (.v 2)) (.c 1 (.a (.a (.v 1) (.a (.v 3) (.v 2))) (.n 1)) (.v 0) .z)) rfl h1),fn_ret rfl rfl e4,out.hs.trans ⟨by rw [List.length_append]; exact Nat.le_add_right _ _,app_in out.hs.host,fun i h1 h2=>List.getElem?_append_left h1⟩,_,rfl,app_new⟩
theorem orders_ok {Os:List Od} {D:Nat→List (Nat×Nm)} {K:Nat} {an:Bool} (hR:Machine s Os D K) (hm:m<100000) (oh:o≠h) (hh:H[h]? = some (hostO va rf lg m k)) (ho:H[o]? = some (.list (Os.map oV))) (hs:s.length<1000) (hk:((k+cnt an s * K:Nat):Int)≤m) :
    Ca (pgc own) (d+7) 58 [.loc o,.str s,.bool an,.loc h] H (k+cnt an s * K) h va rf lg m fun H' v=>R3 H' (fst3 D (cnt an s) 0) v:=by
  have hc:cnt an s≤1000:=by cases an <;> simp only [cnt,cond_true,cond_false] <;> omega
  obtain⟨k',v,l,H',h1,e,t,r⟩:=orders_loop (own:=own) (d:=d) hR hm oh (cnt an s) 0 k 1048576 H (some (.bool an)) none none none (by exact Nat.not_le.mp (lin [_] (.c 1 (.v 0) (.n 1000) (.c 1 (.n 1048576) (.v 0) .z)) rfl hc)) hh ho hk
  have e0:∀ {q:SR},forN (.one 4) (fun l H=>exB (pgc own) (callF (pgc own) (d+6)) bM l H) 1048576 (.rng (0:Nat) 1 (cnt an s)) [some (.loc o),some (.str s),some (.bool an),some (.loc h),none,none,none] H=q→exS (pgc own) (callF (pgc own) (d+6)) (.for (.one 4) (.prim .range [.ife (.loc 2) (.lit (.int 1)) (.bin .add (.prim .len [.loc 1]) (.lit (.int 1)))]) bM) [some (.loc o),some (.str s),some (.bool an),some (.loc h),none,none,none] H=q:=fun {q} hq =>
    s_for0 (r_prim (r_cons (cnt_ok rfl rfl) r_nil) (p_range1 (by omega))) (i_rng (by decide) (by omega) (.inl rfl)) (by rw [rng_nat]; exact hq)
  cases hd:fst3 D (cnt an s) 0 with
  | none =>
    rw [hd] at e r; cases r
    exact⟨k',_,H',h1,call_ret rfl rfl (s_seq (e0 e) (s_stop (s_ret0 r_lit))),t,rfl⟩
  | some z =>
    rw [hd] at e r
    exact⟨k',_,H',h1,call_ret rfl rfl (s_stop (e0 e)),t,r⟩
end
theorem g_extend {H:Hp} {n k:Nat} {ls ms:List V} (h:H[n]? = some (.list ls)) (h2:H[k]? = some (.list ms)) (hne:n≠k) (hl:ls.length+ms.length<lim):bmV .extend (.loc n) [.loc k] H=some (.none,H.set n (.list (ls++ms))) :=
  (atL_at h).trans ((atL_at h2).trans (gd_at ⟨hne,hl⟩))
section
variable {own:List FI} {d:Nat} {H:Hp} {f w co ol wl e e1:Nat} {X W L:List V} {a b c v:V} {y y2:Option V} {kd kx:List Nat}
noncomputable def tRow:ME:=(.cmp .gt (.prim .len [(.loc 3)]) (.lit (.int 0)))
noncomputable def bRow:List MS:=[(.asg (.loc 4) (.bmeth (.loc 3) .pop [])),(.ife (.cmp .eq (.idx (.loc 4) (.lit (.int 0))) (.loc 1)) [(.expr (.bmeth (.loc 3) .extend [(.lst [(.idx (.loc 4) (.lit (.int 2))),(.idx (.loc 4) (.lit (.int 1)))])]))] [(.expr (.bmeth (.loc 2) .append [(.loc 4)]))])]
noncomputable abbrev rwl (nd:V) (kd:List Nat) (f w:Nat) (y:Option V):Lo:=[some nd,some (.str kd),some (.loc f),some (.loc w),y]
theorem row_split {nd:V} {kx:List Nat} (hw:H[w]? = some (.list (W++[.tup [.str kx,a,b]]))) (hk:(kx == kd)=true) (hl:W.length+2<lim):exB (pgc own) (callF (pgc own) d) bRow (rwl nd kd f w y) H=some (.next,rwl nd kd f w (some (.tup [.str kx,a,b])),(H.set w (O.list W)++[O.list [b,a]]).set w (O.list (W++[b,a]))) :=
  s_seq (s_asg0 (r_bm (r_loc rfl) (g_kindL (by solve_by_elim [app_new,set_at,set_off,app_in,ne_len,len_ne,Ne.symm]) rfl) r_nil (g_pop hw)) t_loc0) (s_seq (s_if_t (r_cmp (r_idx (r_loc rfl) r_lit (by rfl)) (r_loc rfl) (c_seq hk)) (s_seq (s_expr0 (r_bm (r_loc rfl) (g_kindL (set_at hw) rfl) (r_cons (r_lst (r_cons (r_idx (r_loc rfl) r_lit (by rfl)) (r_cons (r_idx (r_loc rfl) r_lit (by rfl)) r_nil))) r_nil) (g_extend (app_in (set_at hw)) app_new (ne_len (set_at hw)) hl))) s_nil0)) s_nil0)
theorem row_leaf {nd:V} {kx:List Nat} {r:List V} (hw:H[w]? = some (.list (W++[.tup (.str kx::r)]))) (hf:H[f]? = some (.list X)) (hne:w≠f) (hk:(kx == kd)=false) (hl:X.length<lim):exB (pgc own) (callF (pgc own) d) bRow (rwl nd kd f w y) H=some (.next,rwl nd kd f w (some (.tup (.str kx::r))),(H.set w (.list W)).set f (.list (X++[.tup (.str kx::r)]))) :=
  s_seq (s_asg0 (r_bm (r_loc rfl) (g_kindL (by solve_by_elim [app_new,set_at,set_off,app_in,ne_len,len_ne,Ne.symm]) rfl) r_nil (g_pop hw)) t_loc0) (s_seq (s_if_f (r_cmp (r_idx (r_loc rfl) r_lit (by rfl)) (r_loc rfl) (c_seq hk)) (s_seq (s_expr0 (r_bm (r_loc rfl) (g_kindL (by solve_by_elim [app_new,set_at,set_off,app_in,ne_len,len_ne,Ne.symm]) rfl) (r_cons (r_loc rfl) r_nil) (g_append (by solve_by_elim [app_new,set_at,set_off,app_in,ne_len,len_ne,Ne.symm]) hl))) s_nil0)) s_nil0)
theorem tRow_t {nd:V} (hw:H[w]? = some (.list (W++[v]))):evE (pgc own) (callF (pgc own) d) tRow (rwl nd kd f w y) H=some (.bool true,H) :=
  r_cmp (r_prim (r_cons (r_loc rfl) r_nil) (g_len hw)) r_lit (c_gt_t (by rw [List.length_append]; exact Int.natCast_pos.mpr (Nat.succ_pos _)))
theorem tRow_f {nd:V} (hw:H[w]? = some (.list [])):evE (pgc own) (callF (pgc own) d) tRow (rwl nd kd f w y) H=some (.bool false,H) :=
  r_cmp (r_prim (r_cons (r_loc rfl) r_nil) (g_len hw)) r_lit (by rfl)
theorem emit_ok (hc:H[co]? = some (.inst 0 [(0,.loc ol)])) (ho:H[ol]? = some (.list X)) (hne:co≠ol) (hl:X.length<lim):callF (pgc own) (d+1) 4 [.loc co,v] H=some (.int X.length,H.set ol (.list (X++[v]))) :=
  call_ret rfl rfl (s_seq (s_expr0 (r_bm (r_attr (r_loc rfl) (by exact g_inst (by solve_by_elim [app_new,set_at,set_off,app_in,ne_len,len_ne,Ne.symm]) rfl)) (g_kindL (by solve_by_elim [app_new,set_at,set_off,app_in,ne_len,len_ne,Ne.symm]) rfl) (r_cons (r_loc rfl) r_nil) (g_append ho hl))) (s_stop (s_ret0 (r_bin (r_prim (r_cons (r_attr (r_loc rfl) (by exact g_inst (by solve_by_elim [app_new,set_at,set_off,app_in,ne_len,len_ne,Ne.symm]) rfl)) r_nil) (g_len (set_at ho))) r_lit (by rw [List.length_append]; show some (V.int ((X.length+1:Nat) - 1),_)=_; rw [show((X.length+1:Nat):Int) - 1=X.length by omega])))))
noncomputable abbrev opnV (e:Nat):V:=.tup [.str [111,112,101,110],.loc e]
noncomputable abbrev shtV (e:Nat):V:=.tup [.str [115,104,117,116],.loc e]
noncomputable abbrev metV (e:Nat):V:=.tup [.str [109,101,101,116],.loc e]
noncomputable abbrev putV (v:V):V:=.tup [.str [112,117,116],v]
noncomputable abbrev emtV (v:V):V:=.tup [.str [101,109,105,116],v]
theorem bound_open (hc:H[co]? = some (.inst 0 [(0,.loc ol)])) (ho:H[ol]? = some (.list X)) (hne:co≠ol) (hl:X.length<lim) (he:H[e]? = some (.list [v,.loc e1])) (hoe:ol≠e):callF (pgc own) (d+2) 9 [.loc co,.str [111,112,101,110],.loc e] H=some (.none,(H.set ol (.list (X++[.none]))).set e (.list [.int X.length,.loc e1])) :=
  call_next rfl rfl (s_seq (s_if_t (r_cmp (r_loc rfl) r_glob (by rfl)) (s_seq (s_asg0 (r_meth (r_loc rfl) (by solve_by_elim [app_new,set_at,set_off,app_in,ne_len,len_ne,Ne.symm]) rfl rfl (r_cons r_lit r_nil) (emit_ok hc ho hne hl)) (t_idx0 (r_loc rfl) r_lit (g_setI (set_off hoe he) ⟨Int.le_refl _,Nat.succ_pos _⟩))) s_nil0)) s_nil0)
theorem bound_shut {p:Nat} (hc:H[co]? = some (.inst 0 [(0,.loc ol)])) (ho:H[ol]? = some (.list X)) (hne:co≠ol) (hl:X.length<lim) (he:H[e]? = some (.list [.int p,.loc e1])) (he1:H[e1]? = some (.list L)) (hoe:ol≠e) (hoe1:ol≠e1) (hee:e1≠e) (hce:e1≠co) (hL:L.length<lim) (hp:p<X.length):callF (pgc own) (d+2) 9 [.loc co,.str [115,104,117,116],.loc e] H=some (.none,((H.set ol (.list (X++[.none]))).set e1 (.list (L++[.int X.length]))).set ol (O.list ((X++[V.none]).set p (oV (.split (X.length+1)))))) :=
  call_next rfl rfl (s_seq (s_if_f (r_cmp (r_loc rfl) r_glob (by rfl)) (s_seq (s_if_t (r_cmp (r_loc rfl) r_glob (by rfl)) (s_seq (s_expr0 (r_bm (r_idx (r_loc rfl) r_lit (g_idxL he rfl)) (g_kindL he1 rfl) (r_cons (r_meth (r_loc rfl) (by solve_by_elim [app_new,set_at,set_off,app_in,ne_len,len_ne,Ne.symm]) rfl rfl (r_cons r_lit r_nil) (emit_ok hc ho hne hl)) r_nil) (g_append (set_off hoe1 he1) hL))) (s_seq (s_asg0 (r_tup (r_cons r_glob (r_cons (r_prim (r_cons (r_attr (r_loc rfl) (g_inst (set_off hce (set_off hne.symm hc)) rfl)) r_nil) (g_len (set_off hoe1.symm (set_at ho)))) r_nil))) (t_idx0 (r_attr (r_loc rfl) (g_inst (set_off hce (set_off hne.symm hc)) rfl)) (r_idx (r_loc rfl) r_lit (g_idxL (set_off hee (set_off hoe he)) rfl)) ((g_setI (set_off hoe1.symm (set_at ho)) ⟨Int.natCast_nonneg _,by rw [List.length_append]; exact Nat.lt_succ_of_lt hp⟩).trans (by rw [List.length_append]; rfl)))) s_nil0))) s_nil0)) s_nil0)
end
noncomputable def kdS (k:Bool):List Nat:=bif k then [99,97,116] else [97,108,116]
noncomputable def rowK (k:Bool):Nd→List Nd
  | .ch s=>[.ch s]
  | .lt n q=>[.lt n q]
  | .al a b=>bif k then [.al a b] else rowK k a++rowK k b
  | .ca a b=>bif k then rowK k a++rowK k b else [.ca a b]
noncomputable def sz:Nd→Nat
  | .ch _=>1
  | .lt n _=>sz n+1
  | .al a b=>sz a+sz b+1
  | .ca a b=>sz a+sz b+1
theorem sz_1 {zu1}:sz (.ch zu1)=1:=rfl
theorem sz_2 {n zu1}:sz (.lt n zu1)=sz n+1:=rfl
theorem sz_3 {a b}:sz (.al a b)=sz a+sz b+1:=rfl
theorem sz_4 {a b}:sz (.ca a b)=sz a+sz b+1:=rfl
structure RS (H0:Hp) (f w:Nat) (X W:List V) (H:Hp):Prop where
  found:H[f]? = some (.list X)
  wait:H[w]? = some (.list W)
  len:H0.length≤H.length
  off:∀ i,i<H0.length→H[i]? = H0[i]?
  flo:H0.length≤f
  wlo:H0.length≤w
  ne:w≠f
section
variable {own:List FI} {d:Nat} {H H0:Hp} {f w:Nat} {X W:List V}
noncomputable abbrev wRow (own:List FI) (d F:Nat) (nd:V) (kd:List Nat) (f w:Nat) (y:Option V) (H:Hp):SR:=whlN (evE (pgc own) (callF (pgc own) d) tRow) (exB (pgc own) (callF (pgc own) d) bRow) F (rwl nd kd f w y) H
inductive RowTo (own:List FI) (d:Nat) (nd:V) (kd:List Nat) (H0:Hp) (f w:Nat) (X' W:List V) (J:Nat) (y:Option V) (H:Hp):Prop where
  | mk (j:Nat) (y':Option V) (H':Hp) (hj:j≤J) (t:RS H0 f w X' W H') (e:∀ F q,wRow own d F nd kd f w y' H'=q→wRow own d (j+F) nd kd f w y H=q):RowTo own d nd kd H0 f w X' W J y H
theorem row_leaf' {nd:V} {kd kx:List Nat} {r:List V} {y:Option V} (t:RS H0 f w X (W++[.tup (.str kx::r)]) H) (hk:(kx == kd)=false) (hl:X.length<lim):RowTo own d nd kd H0 f w (X++[.tup (.str kx::r)]) W 1 y H :=
  ⟨1,_,_,Nat.le_refl _,⟨set_at (set_off t.ne t.found),set_off t.ne.symm (set_at t.wait),by rw [List.length_set,List.length_set]; exact t.len,fun i h=>(List.getElem?_set_ne (Nat.ne_of_gt (Nat.lt_of_lt_of_le h t.flo))).trans ((List.getElem?_set_ne (Nat.ne_of_gt (Nat.lt_of_lt_of_le h t.wlo))).trans (t.off i h)),t.flo,t.wlo,t.ne⟩,fun F q e=>by
    rw [Nat.add_comm 1 F]; exact wn_next (tRow_t t.wait) (row_leaf t.wait t.found t.ne hk hl) e⟩
theorem row_two {nd:V} {kd kx:List Nat} {a b:Nd} {y:Option V} {A B:List Nd} {ja jb:Nat} (t:RS H0 f w X (W++[.tup [.str kx,nV a,nV b]]) H) (hk:(kx == kd)=true) (hl:W.length+2<lim)
    (ha:∀ {X W y H},RS H0 f w X (W++[nV a]) H→X.length+W.length+2 * sz a<lim→RowTo own d nd kd H0 f w (X++A.map nV) W ja y H)
    (hb:∀ {X W y H},RS H0 f w X (W++[nV b]) H→X.length+W.length+2 * sz b<lim→RowTo own d nd kd H0 f w (X++B.map nV) W jb y H)
    (h1:X.length+(W.length+1)+2 * sz a<lim) (h2:X.length+A.length+W.length+2 * sz b<lim):RowTo own d nd kd H0 f w (X++(A++B).map nV) W (ja+jb+1) y H:=by
  have t1:RS H0 f w X (W++[nV b]++[nV a]) ((H.set w (O.list W)++[O.list [nV b,nV a]]).set w (O.list (W++[nV b,nV a]))) :=
    ⟨set_off t.ne (app_in (set_off t.ne t.found)),by rw [List.append_assoc]; exact set_at (app_in (set_at t.wait)),by rw [List.length_set,List.length_append,List.length_set]; exact Nat.le_add_right_of_le t.len,fun i h=>(List.getElem?_set_ne (Nat.ne_of_gt (Nat.lt_of_lt_of_le h t.wlo))).trans ((List.getElem?_append_left (by rw [List.length_set]; exact Nat.lt_of_lt_of_le h t.len)).trans ((List.getElem?_set_ne (Nat.ne_of_gt (Nat.lt_of_lt_of_le h t.wlo))).trans (t.off i h))),t.flo,t.wlo,t.ne⟩
  obtain⟨i,y1,H1,hi,g1,e1⟩:=ha (y:=some (.tup [.str kx,nV a,nV b])) t1 (by rw [List.length_append]; exact h1)
  obtain⟨j,y2,H2,hj,g2,e2⟩:=hb (y:=y1) g1 (by rw [List.length_append,List.length_map]; exact h2)
  refine⟨i+j+1,y2,H2,by exact Nat.not_lt.mp (lin [_,_,_,_] (.c 1 (.v 0) (.v 1) (.c 1 (.v 2) (.v 3) (.c 1 (.a (.a (.a (.v 1) (.v 3)) (.n 1)) (.n 1)) (.a (.a (.v 0) (.v 2)) (.n 1)) .z))) rfl hi hj),by rw [List.map_append,← List.append_assoc]; exact g2,fun F q e=>?_⟩
  rw [show i+j+1+F=i+(j+F)+1 by exact lnq [_,_,_] (.a (.a (.a (.v 0) (.v 1)) (.n 1)) (.v 2)) (.a (.a (.v 0) (.a (.v 1) (.v 2))) (.n 1)) rfl]
  exact wn_next (tRow_t t.wait) (row_split t.wait hk hl) (e1 _ _ (e2 _ _ e))
theorem rowK_len (k:Bool):∀ n,(rowK k n).length≤sz n
  | .ch _=>Nat.le_refl _
  | .lt n q=>Nat.le_add_left _ _
  | .al a b=>by
    have ha:=rowK_len k a
    have hb:=rowK_len k b
    cases k
    · show(_++_:List Nd).length≤_+1
      rw [List.length_append]; exact Nat.not_lt.mp (lin [_,_,_,_] (.c 1 (.v 0) (.v 1) (.c 1 (.v 2) (.v 3) (.c 1 (.a (.a (.a (.v 1) (.v 3)) (.n 1)) (.n 1)) (.a (.v 0) (.v 2)) .z))) rfl ha hb)
    · exact Nat.le_add_left _ _
  | .ca a b=>by
    have ha:=rowK_len k a
    have hb:=rowK_len k b
    cases k
    · exact Nat.le_add_left _ _
    · show(_++_:List Nd).length≤_+1
      rw [List.length_append]; exact Nat.not_lt.mp (lin [_,_,_,_] (.c 1 (.v 0) (.v 1) (.c 1 (.v 2) (.v 3) (.c 1 (.a (.a (.a (.v 1) (.v 3)) (.n 1)) (.n 1)) (.a (.v 0) (.v 2)) .z))) rfl ha hb)
theorem row_loop {nd:V} (k:Bool):∀(n:Nd) {X W:List V} {y:Option V} {H:Hp},RS H0 f w X (W++[nV n]) H→X.length+W.length+2 * sz n<lim→RowTo own d nd (kdS k) H0 f w (X++(rowK k n).map nV) W (sz n) y H
  | .ch s,X,W,y,H,t,hl=>row_leaf' t (by cases k <;> rfl) (by exact Nat.not_le.mp (lin [_,_,_,_] (.c 1 (.a (.a (.a (.v 0) (.v 1)) (.m 2 (.v 2))) (.n 1)) (.v 3) (.c 1 (.v 3) (.v 0) .z)) rfl hl))
  | .lt n q,X,W,y,H,t,hl=>by
    obtain⟨j,y',H',hj,g,e⟩:=row_leaf' (own:=own) (d:=d) (nd:=nd) (kd:=kdS k) (y:=y) t (by cases k <;> rfl) (by exact Nat.not_le.mp (lin [_,_,_,_] (.c 1 (.a (.a (.a (.v 0) (.v 1)) (.m 2 (.v 2))) (.n 1)) (.v 3) (.c 1 (.v 3) (.v 0) .z)) rfl hl))
    exact⟨j,y',H',Nat.le_trans hj (Nat.le_add_left _ _),g,e⟩
  | .al a b,X,W,y,H,t,hl=>by
    rw [sz_3] at hl
    have hla:=rowK_len k a
    cases k
    · exact row_two (kd:=kdS false) (A:=rowK false a) (B:=rowK false b) t rfl (by exact Nat.not_le.mp (lin [_,_,_,_,_] (.c 1 (.a (.a (.a (.v 0) (.v 1)) (.m 2 (.a (.a (.v 2) (.v 3)) (.n 1)))) (.n 1)) (.v 4) (.c 1 (.v 4) (.a (.v 1) (.n 2)) .z)) rfl hl)) (row_loop false a) (row_loop false b) (by exact Nat.not_le.mp (lin [_,_,_,_,_] (.c 1 (.a (.a (.a (.v 0) (.v 1)) (.m 2 (.a (.a (.v 2) (.v 3)) (.n 1)))) (.n 1)) (.v 4) (.c 1 (.v 4) (.a (.a (.v 0) (.a (.v 1) (.n 1))) (.m 2 (.v 2))) .z)) rfl hl)) (by exact Nat.not_le.mp (lin [_,_,_,_,_,_] (.c 1 (.a (.a (.a (.v 0) (.v 1)) (.m 2 (.a (.a (.v 2) (.v 3)) (.n 1)))) (.n 1)) (.v 4) (.c 1 (.v 5) (.v 2) (.c 1 (.v 4) (.a (.a (.a (.v 0) (.v 5)) (.v 1)) (.m 2 (.v 3))) .z))) rfl hl hla))
    · obtain⟨j,y',H',hj,g,e⟩:=row_leaf' (own:=own) (d:=d) (nd:=nd) (kd:=kdS true) (y:=y) t rfl (by exact Nat.not_le.mp (lin [_,_,_,_,_] (.c 1 (.a (.a (.a (.v 0) (.v 1)) (.m 2 (.a (.a (.v 2) (.v 3)) (.n 1)))) (.n 1)) (.v 4) (.c 1 (.v 4) (.v 0) .z)) rfl hl))
      exact⟨j,y',H',Nat.le_trans hj (Nat.le_add_left _ _),g,e⟩
  | .ca a b,X,W,y,H,t,hl=>by
    rw [sz_4] at hl
    have hla:=rowK_len k a
    cases k
    · obtain⟨j,y',H',hj,g,e⟩:=row_leaf' (own:=own) (d:=d) (nd:=nd) (kd:=kdS false) (y:=y) t rfl (by exact Nat.not_le.mp (lin [_,_,_,_,_] (.c 1 (.a (.a (.a (.v 0) (.v 1)) (.m 2 (.a (.a (.v 2) (.v 3)) (.n 1)))) (.n 1)) (.v 4) (.c 1 (.v 4) (.v 0) .z)) rfl hl))
      exact⟨j,y',H',Nat.le_trans hj (Nat.le_add_left _ _),g,e⟩
    · exact row_two (kd:=kdS true) (A:=rowK true a) (B:=rowK true b) t rfl (by exact Nat.not_le.mp (lin [_,_,_,_,_] (.c 1 (.a (.a (.a (.v 0) (.v 1)) (.m 2 (.a (.a (.v 2) (.v 3)) (.n 1)))) (.n 1)) (.v 4) (.c 1 (.v 4) (.a (.v 1) (.n 2)) .z)) rfl hl)) (row_loop true a) (row_loop true b) (by exact Nat.not_le.mp (lin [_,_,_,_,_] (.c 1 (.a (.a (.a (.v 0) (.v 1)) (.m 2 (.a (.a (.v 2) (.v 3)) (.n 1)))) (.n 1)) (.v 4) (.c 1 (.v 4) (.a (.a (.v 0) (.a (.v 1) (.n 1))) (.m 2 (.v 2))) .z)) rfl hl)) (by exact Nat.not_le.mp (lin [_,_,_,_,_,_] (.c 1 (.a (.a (.a (.v 0) (.v 1)) (.m 2 (.a (.a (.v 2) (.v 3)) (.n 1)))) (.n 1)) (.v 4) (.c 1 (.v 5) (.v 2) (.c 1 (.v 4) (.a (.a (.a (.v 0) (.v 5)) (.v 1)) (.m 2 (.v 3))) .z))) rfl hl hla))
structure Gr (H H':Hp):Prop where
  len:H.length≤H'.length
  off:∀ i,i<H.length→H'[i]? = H[i]?
theorem Gr.refl (H:Hp):Gr H H:=⟨Nat.le_refl _,fun _ _=>rfl⟩
theorem Gr.trans {H H1 H2:Hp} (a:Gr H H1) (b:Gr H1 H2):Gr H H2:=⟨Nat.le_trans a.len b.len,fun i h=>(b.off i (Nat.lt_of_lt_of_le h a.len)).trans (a.off i h)⟩
theorem Gr.at {H H1:Hp} (a:Gr H H1) {i:Nat} {x:O} (h:H[i]? = some x):H1[i]? = some x:=(a.off i (lt_get h)).trans h
theorem Gr.app (H:Hp) (x:Hp):Gr H (H++x):=⟨by rw [List.length_append]; exact Nat.le_add_right _ _,fun i h=>List.getElem?_append_left h⟩
theorem row_ok_k (k:Bool) (n:Nd) (hn:sz n<1000) {zg:Prop} (zk:∀ H',(callF (pgc own) (d+1) 0 [nV n,.str (kdS k)] H=some (.loc H.length,H'))→(Gr H H')→(H'[H.length]? = some (.list ((rowK k n).map nV)))→zg):zg:=by
  have t:RS H H.length (H.length+1) [] ([]++[nV n]) (H++[.list []]++[.list [nV n]]) :=
    ⟨app_in app_new,by have:=app_new (H:=H++[.list []]) (x:=.list [nV n]); rw [List.length_append] at this; exact this,by rw [List.append_assoc,List.length_append]; exact Nat.le_add_right _ _,fun i h=>by rw [List.append_assoc]; exact List.getElem?_append_left h,Nat.le_refl _,Nat.le_succ _,Nat.succ_ne_self _⟩
  obtain⟨j,y',H',hj,g,e⟩:=row_loop (own:=own) (d:=d) (nd:=nV n) k n (y:=none) t (by simp only [List.length_nil]; unfold lim; exact Nat.not_le.mp (lin [_] (.c 2 (.a (.v 0) (.n 1)) (.n 1000) (.c 1 (.n 1048576) (.a (.a (.n 0) (.n 0)) (.m 2 (.v 0))) .z)) rfl hn))
  obtain⟨F,hF⟩:∃ F,1048576=j+(F+1):=⟨1048575 - j,by omega⟩
  have e2:=e (F+1) _ (wn_end (tRow_f g.wait))
  rw [← hF] at e2
  have hl:(H++[O.list []]).length=H.length+1:=by rw [List.length_append]; rfl
  exact zk H' (call_ret rfl rfl (s_seq (s_asg0 (r_tup (r_cons (r_lst r_nil) (r_cons (r_lst (r_cons (r_loc rfl) r_nil)) r_nil))) (t_tup0 (by rfl) (t_cons0 t_loc0 (t_cons0 t_loc0 t_nil0)))) (s_seq (s_whl0 (show _=some (Fl.next,rwl (nV n) (kdS k) H.length (H.length+1) y',H') from(by rw [hl]; exact e2))) (s_stop (s_ret0 (r_loc rfl)))))) (⟨g.len,g.off⟩) g.found
end
theorem for_list {α σ:Type} {g:α→V} {body:Lo→Hp→SR} {k pl:Nat} {parts:List V} (st:σ→α→σ) (I:σ→Lo→Hp→Prop) (P:σ→List α→Prop)
    (hI:∀ s l H,I s l H→H[pl]? = some (.list parts))
    (hb:∀ s a r l H,I s l H→P s (a::r)→∃ fl l' H',(fl=Fl.next∨fl=Fl.cont)∧body (l.set k (some (g a))) H=some (fl,l',H')∧I (st s a) l' H'∧P (st s a) r) :
    ∀(ps:List α) (i f:Nat) (s:σ) (l:Lo) (H:Hp),(∀ j,parts[i+j]? = (ps.map g)[j]?)→ps.length<f→I s l H→P s ps→∃ l' H',forN (.one k) body f (.lst pl i) l H=some (.next,l',H')∧I (ps.foldl st s) l' H'
  | [],i,f+1,s,l,H,hp,_,h1,_=>⟨l,H,fn_end (n_lst0 (hI _ _ _ h1) (hp 0)),h1⟩
  | a::r,i,f+1,s,l,H,hp,hf,h1,h2=>by
    obtain⟨fl,l',H',hfl,e,h3,h4⟩:=hb s a r l H h1 h2
    obtain⟨l2,H2,e2,h5⟩:=for_list st I P hI hb r (i+1) f (st s a) l' H' (fun j=>by rw [Nat.add_assoc,Nat.add_comm 1 j]; exact hp (j+1)) (Nat.lt_of_succ_lt_succ hf) h3 h4
    refine⟨l2,H2,?_,h5⟩
    rcases hfl with rfl | rfl
    · exact fn_next (n_lst (hI _ _ _ h1) (hp 0)) rfl e e2
    · exact fn_cont (n_lst (hI _ _ _ h1) (hp 0)) rfl e e2
noncomputable def isCh:Nd→Bool
  | .ch _=>true
  | .lt _ _=>false
  | .al _ _=>false
  | .ca _ _=>false
noncomputable def jR (r:List Nd):Nd→List Nd
  | .ch []=>r
  | .ch (c::t)=>(match r with | .ch u::r'=>.ch (u++c::t)::r' | r=>.ch (c::t)::r)
  | n=>n::r
noncomputable def joinT (l:List Nd):List Nd:=(l.foldl jR []).reverse
noncomputable def tx:Nd→Nat
  | .ch t=>t.length
  | _=>0
noncomputable def txl:List Nd→Nat
  | []=>0
  | n::r=>tx n+txl r
theorem txl_1:txl ([])=0:=rfl
theorem txl_2 {n r}:txl (n::r)=tx n+txl r:=rfl
theorem g_idx0a {α:Type} {ls:List α} {v:α} {k:Nat} {j:Int} (hj:j=(k:Int)) (h:ls[k]? = some v):idxL ls j=some v:=by subst hj; unfold idxL; rw [if_pos (Int.natCast_nonneg k),Int.toNat_natCast]; exact h
theorem last_at {α:Type} (Y:List α) (z:α):idxL (Y++[z]) (((Y++[z]).length:Int) - 1)=some z :=
  g_idx0a (k:=Y.length) (by rw [List.length_append]; show((Y.length+1:Nat):Int) - 1=_; omega) (by rw [List.getElem?_append_right (Nat.le_refl _),Nat.sub_self]; rfl)
section
variable {own:List FI} {d:Nat} {H:Hp} {f pl:Nat} {X:List V}
theorem plain1 (n:Nd):callF (pgc own) (d+1) 1 [nV n] H=some (.bool (isCh n),H):=by cases n <;> kernel_rfl
noncomputable def bJ:List MS:=[(.ife (.call (.glob (.fn 1)) [(.loc 2)]) [(.ife (.cmp .eq (.idx (.loc 2) (.lit (.int 1))) (.lit (.str []))) [.cont] []),(.ife (.and [(.cmp .gt (.prim .len [(.loc 1)]) (.lit (.int 0))),(.call (.glob (.fn 1)) [(.idx (.loc 1) (.bin .sub (.prim .len [(.loc 1)]) (.lit (.int 1))))])]) [(.asg (.loc 2) (.tup [(.lit (.str [99,104,97,114,115])),(.bin .add (.idx (.bmeth (.loc 1) .pop []) (.lit (.int 1))) (.idx (.loc 2) (.lit (.int 1))))]))] [])] []),(.expr (.bmeth (.loc 1) .append [(.loc 2)]))]
theorem j_A {n:Nd} (hn:isCh n=false) (hf:H[f]? = some (.list X)) (hl:X.length<lim):exB (pgc own) (callF (pgc own) (d+1)) bJ [some (.loc pl),some (.loc f),some (nV n)] H=some (.next,[some (.loc pl),some (.loc f),some (nV n)],H.set f (.list (X++[nV n]))):=by
  cases n with
  | ch t=>cases hn
  | _=>exact s_seq (s_if_f (r_call r_glob (r_cons (r_loc rfl) r_nil) (plain1 _)) s_nil0) (s_seq (s_expr0 (r_bm (r_loc rfl) (g_kindL (by solve_by_elim [app_new,set_at,set_off,app_in,ne_len,len_ne,Ne.symm]) rfl) (r_cons (r_loc rfl) r_nil) (g_append hf hl))) s_nil0)
theorem j_B:exB (pgc own) (callF (pgc own) (d+1)) bJ [some (.loc pl),some (.loc f),some (nV (.ch []))] H=some (.cont,[some (.loc pl),some (.loc f),some (nV (.ch []))],H) :=
  s_stop_c (s_if_t (r_call r_glob (r_cons (r_loc rfl) r_nil) (plain1 (.ch []))) (s_stop_c (s_if_t (r_cmp (r_idx (r_loc rfl) r_lit (by rfl)) r_lit (by rfl)) (s_stop_c s_cont0))))
theorem j_C {c:Nat} {t:List Nat} (hf:H[f]? = some (.list [])):exB (pgc own) (callF (pgc own) (d+1)) bJ [some (.loc pl),some (.loc f),some (nV (.ch (c::t)))] H=some (.next,[some (.loc pl),some (.loc f),some (nV (.ch (c::t)))],H.set f (.list [nV (.ch (c::t))])) :=
  s_seq (s_if_t (r_call r_glob (r_cons (r_loc rfl) r_nil) (plain1 (.ch (c::t)))) (s_seq (s_if_f (r_cmp (r_idx (r_loc rfl) r_lit (by rfl)) r_lit (by rfl)) s_nil0) (s_seq (s_if_f (r_and_f (r_cmp (r_prim (r_cons (r_loc rfl) r_nil) (g_len hf)) r_lit (by rfl))) s_nil0) s_nil0))) (s_seq (s_expr0 (r_bm (r_loc rfl) (g_kindL (by solve_by_elim [app_new,set_at,set_off,app_in,ne_len,len_ne,Ne.symm]) rfl) (r_cons (r_loc rfl) r_nil) (g_append hf (by decide)))) s_nil0)
theorem j_D {c:Nat} {t:List Nat} {Y:List V} {z:Nd} (hz:isCh z=false) (hf:H[f]? = some (.list (Y++[nV z]))) (hl:(Y++[nV z]).length<lim):exB (pgc own) (callF (pgc own) (d+1)) bJ [some (.loc pl),some (.loc f),some (nV (.ch (c::t)))] H=some (.next,[some (.loc pl),some (.loc f),some (nV (.ch (c::t)))],H.set f (.list (Y++[nV z]++[nV (.ch (c::t))]))) :=
  s_seq (s_if_t (r_call r_glob (r_cons (r_loc rfl) r_nil) (plain1 (.ch (c::t)))) (s_seq (s_if_f (r_cmp (r_idx (r_loc rfl) r_lit (by rfl)) r_lit (by rfl)) s_nil0) (s_seq (s_if_f (r_and (r_cmp (r_prim (r_cons (r_loc rfl) r_nil) (g_len hf)) r_lit (c_gt_t (by rw [List.length_append]; exact Int.natCast_pos.mpr (Nat.succ_pos _)))) (r_and_f (r_call r_glob (r_cons (r_idx (r_loc rfl) (r_bin (r_prim (r_cons (r_loc rfl) r_nil) (g_len hf)) r_lit (by rfl)) (g_idxL hf (last_at Y (nV z)))) r_nil) ((plain1 z).trans (by rw [hz]))))) s_nil0) s_nil0))) (s_seq (s_expr0 (r_bm (r_loc rfl) (g_kindL (by solve_by_elim [app_new,set_at,set_off,app_in,ne_len,len_ne,Ne.symm]) rfl) (r_cons (r_loc rfl) r_nil) (g_append hf hl))) s_nil0)
theorem j_E {c:Nat} {t u:List Nat} {Y:List V} (hf:H[f]? = some (.list (Y++[nV (.ch u)]))) (hl:Y.length<lim) (hu:u.length+(c::t).length≤lim):exB (pgc own) (callF (pgc own) (d+1)) bJ [some (.loc pl),some (.loc f),some (nV (.ch (c::t)))] H=some (.next,[some (.loc pl),some (.loc f),some (nV (.ch (u++c::t)))],(H.set f (.list Y)).set f (.list (Y++[nV (.ch (u++c::t))]))) :=
  s_seq (s_if_t (r_call r_glob (r_cons (r_loc rfl) r_nil) (plain1 (.ch (c::t)))) (s_seq (s_if_f (r_cmp (r_idx (r_loc rfl) r_lit (by rfl)) r_lit (by rfl)) s_nil0) (s_seq (s_if_t (r_and (r_cmp (r_prim (r_cons (r_loc rfl) r_nil) (g_len hf)) r_lit (c_gt_t (by rw [List.length_append]; exact Int.natCast_pos.mpr (Nat.succ_pos _)))) (r_and (r_call r_glob (r_cons (r_idx (r_loc rfl) (r_bin (r_prim (r_cons (r_loc rfl) r_nil) (g_len hf)) r_lit (by rfl)) (g_idxL hf (last_at Y (nV (.ch u))))) r_nil) (plain1 (.ch u))) r_and0)) (s_seq (s_asg0 (r_tup (r_cons r_lit (r_cons (r_bin (r_idx (r_bm (r_loc rfl) (g_kindL hf rfl) r_nil (g_pop hf)) r_lit (by rfl)) (r_idx (r_loc rfl) r_lit (by rfl)) (by exact gd_at hu)) r_nil))) t_loc0) s_nil0)) s_nil0))) (s_seq (s_expr0 (r_bm (r_loc rfl) (g_kindL (by solve_by_elim [app_new,set_at,set_off,app_in,ne_len,len_ne,Ne.symm]) rfl) (r_cons (r_loc rfl) r_nil) (g_append (set_at hf) hl))) s_nil0)
structure JI (H0:Hp) (pl f:Nat) (parts:List V) (r:List Nd) (l:Lo) (H:Hp):Prop where
  l:∃ x,l=[some (.loc pl),some (.loc f),x]
  pl:H[pl]? = some (.list parts)
  fo:H[f]? = some (.list (r.reverse.map nV))
  gr:Gr H0 H
theorem Gr.set {H0:Hp} {f:Nat} {x:O} (g:Gr H0 H) (h:H0.length≤f):Gr H0 (H.set f x):=⟨by rw [List.length_set]; exact g.len,fun i hi=>(List.getElem?_set_ne (Nat.ne_of_gt (Nat.lt_of_lt_of_le hi h))).trans (g.off i hi)⟩
theorem JI.put {H0:Hp} {parts:List V} {r r':List Nd} {l:Lo} (j:JI H0 pl f parts r l H) (hf:H0.length≤f) (hne:f≠pl) {x:Option V}:JI H0 pl f parts r' [some (.loc pl),some (.loc f),x] (H.set f (.list (r'.reverse.map nV))) :=
  ⟨⟨_,rfl⟩,set_off hne j.pl,set_at j.fo,j.gr.set hf⟩
noncomputable def JP (r ps:List Nd):Prop:=txl r+txl ps<100000∧r.length+ps.length<100000
theorem lt_lim {a:Nat} (h:a<100000):a<lim:=Nat.lt_trans h (by decide)
theorem j_step {H0:Hp} {parts:List V} (hf0:H0.length≤f) (hne:f≠pl) (r:List Nd) (n:Nd) (ps:List Nd) (l:Lo) (H:Hp) (j:JI H0 pl f parts r l H) (p:JP r (n::ps)) :
    ∃ fl l' H',(fl=Fl.next∨fl=Fl.cont)∧exB (pgc own) (callF (pgc own) (d+1)) bJ (l.set 2 (some (nV n))) H=some (fl,l',H')∧JI H0 pl f parts (jR r n) l' H'∧JP (jR r n) ps:=by
  obtain⟨x,rfl⟩:=j.l
  obtain⟨p1,p2⟩:=p
  rw [txl_2] at p1
  rw [List.length_cons] at p2
  have hlen:(r.reverse.map nV).length<100000:=by rw [List.length_map,List.length_reverse]; exact Nat.not_le.mp (lin [_,_] (.c 1 (.a (.a (.v 0) (.a (.v 1) (.n 1))) (.n 1)) (.n 100000) (.c 1 (.n 100000) (.v 0) .z)) rfl p2)
  have A:isCh n=false→jR r n=n::r→∃ fl l' H',(fl=Fl.next∨fl=Fl.cont)∧exB (pgc own) (callF (pgc own) (d+1)) bJ ([some (.loc pl),some (.loc f),x].set 2 (some (nV n))) H=some (fl,l',H')∧JI H0 pl f parts (jR r n) l' H'∧JP (jR r n) ps:=fun hn e=>by
    have:=j.put (r':=n::r) (x:=some (nV n)) hf0 hne
    rw [List.reverse_cons,map_snoc] at this
    rw [e]
    exact⟨.next,_,_,.inl rfl,j_A hn j.fo (lt_lim hlen),this,by rw [txl_2]; exact Nat.not_le.mp (lin [_,_,_] (.c 1 (.a (.a (.v 0) (.a (.v 1) (.v 2))) (.n 1)) (.n 100000) (.c 1 (.n 100000) (.a (.a (.v 1) (.v 0)) (.v 2)) .z)) rfl p1),by rw [List.length_cons]; exact Nat.not_le.mp (lin [_,_] (.c 1 (.a (.a (.v 0) (.a (.v 1) (.n 1))) (.n 1)) (.n 100000) (.c 1 (.n 100000) (.a (.a (.v 0) (.n 1)) (.v 1)) .z)) rfl p2)⟩
  cases n with
  | lt n q=>exact A rfl rfl
  | al a b=>exact A rfl rfl
  | ca a b=>exact A rfl rfl
  | ch t =>
    cases t with
    | nil=>exact⟨.cont,_,_,.inr rfl,j_B,⟨⟨_,rfl⟩,j.pl,j.fo,j.gr⟩,by show txl r+_<_; exact Nat.not_le.mp (lin [_,_,_] (.c 1 (.a (.a (.v 0) (.a (.v 1) (.v 2))) (.n 1)) (.n 100000) (.c 1 (.n 100000) (.a (.v 0) (.v 2)) .z)) rfl p1),by show r.length+_<_; exact Nat.not_le.mp (lin [_,_] (.c 1 (.a (.a (.v 0) (.a (.v 1) (.n 1))) (.n 1)) (.n 100000) (.c 1 (.n 100000) (.a (.v 0) (.v 1)) .z)) rfl p2)⟩
    | cons c t =>
      have fo:=j.fo
      cases r with
      | nil =>
        have:=j.put (r':=[.ch (c::t)]) (x:=some (nV (.ch (c::t)))) hf0 hne
        exact⟨.next,_,_,.inl rfl,j_C j.fo,this,by show tx (.ch (c::t))+txl []+_<_; rw [txl_1] at p1 ⊢; exact Nat.not_le.mp (lin [_,_] (.c 1 (.a (.a (.n 0) (.a (.v 0) (.v 1))) (.n 1)) (.n 100000) (.c 1 (.n 100000) (.a (.a (.v 0) (.n 0)) (.v 1)) .z)) rfl p1),by show 0+1+_<_; rw [List.length_nil] at p2; exact Nat.not_le.mp (lin [_] (.c 1 (.a (.a (.n 0) (.a (.v 0) (.n 1))) (.n 1)) (.n 100000) (.c 1 (.n 100000) (.a (.a (.n 0) (.n 1)) (.v 0)) .z)) rfl p2)⟩
      | cons z r =>
        have hz:isCh z=false→jR (z::r) (.ch (c::t))=.ch (c::t)::z::r→∃ fl l' H',(fl=Fl.next∨fl=Fl.cont)∧exB (pgc own) (callF (pgc own) (d+1)) bJ ([some (.loc pl),some (.loc f),x].set 2 (some (nV (.ch (c::t))))) H=some (fl,l',H')∧JI H0 pl f parts (jR (z::r) (.ch (c::t))) l' H'∧JP (jR (z::r) (.ch (c::t))) ps:=fun hz e=>by
          have:=j.put (r':=.ch (c::t)::z::r) (x:=some (nV (.ch (c::t)))) hf0 hne
          rw [List.reverse_cons,map_snoc] at this
          rw [List.reverse_cons,map_snoc] at fo hlen this
          rw [e]
          exact⟨.next,_,_,.inl rfl,j_D hz fo (lt_lim hlen),this,by rw [txl_2]; exact Nat.not_le.mp (lin [_,_,_] (.c 1 (.a (.a (.v 0) (.a (.v 1) (.v 2))) (.n 1)) (.n 100000) (.c 1 (.n 100000) (.a (.a (.v 1) (.v 0)) (.v 2)) .z)) rfl p1),by rw [List.length_cons]; exact Nat.not_le.mp (lin [_,_] (.c 1 (.a (.a (.v 0) (.a (.v 1) (.n 1))) (.n 1)) (.n 100000) (.c 1 (.n 100000) (.a (.a (.v 0) (.n 1)) (.v 1)) .z)) rfl p2)⟩
        cases z with
        | lt n q=>exact hz rfl rfl
        | al a b=>exact hz rfl rfl
        | ca a b=>exact hz rfl rfl
        | ch u =>
          have:=j.put (r':=.ch (u++c::t)::r) (x:=some (nV (.ch (u++c::t)))) hf0 hne
          rw [List.reverse_cons,map_snoc] at this
          rw [List.reverse_cons,map_snoc] at fo hlen
          rw [txl_2] at p1
          rw [List.length_append] at hlen
          have hut:tx (.ch u)+tx (.ch (c::t))=(u++c::t).length:=(List.length_append ..).symm
          refine⟨.next,_,_,.inl rfl,j_E fo (lt_lim (Nat.lt_of_le_of_lt (Nat.le_add_right _ _) hlen)) ?_,?_,?_,?_⟩
          · exact Nat.le_of_lt (lt_lim (by rw [← List.length_append,← hut]; exact Nat.not_le.mp (lin [_,_,_,_] (.c 1 (.a (.a (.a (.v 0) (.v 1)) (.a (.v 2) (.v 3))) (.n 1)) (.n 100000) (.c 1 (.n 100000) (.a (.v 0) (.v 2)) .z)) rfl p1)))
          · rw [List.set_set]; exact this
          · show(u++c::t).length+txl r+_<_; rw [← hut]; exact Nat.not_le.mp (lin [_,_,_,_] (.c 1 (.a (.a (.a (.v 0) (.v 1)) (.a (.v 2) (.v 3))) (.n 1)) (.n 100000) (.c 1 (.n 100000) (.a (.a (.a (.v 0) (.v 2)) (.v 1)) (.v 3)) .z)) rfl p1)
          · exact Nat.lt_of_le_of_lt (by show r.length+1+_≤r.length+1+_; exact Nat.not_lt.mp (lin [_,_] (.c 1 (.a (.a (.a (.v 0) (.n 1)) (.a (.v 1) (.n 1))) (.n 1)) (.a (.a (.v 0) (.n 1)) (.v 1)) .z) rfl)) p2
theorem joined_ok_k {ns:List Nd} (hp:H[pl]? = some (.list (ns.map nV))) (h1:txl ns<100000) (h2:ns.length<100000) {zg:Prop} (zk:∀ H',(callF (pgc own) (d+2) 2 [.loc pl] H=some (.loc H.length,H'))→(Gr H H')→(H'[H.length]? = some (.list ((joinT ns).map nV)))→zg):zg:=by
  obtain⟨l',H',e,j⟩:=for_list (body:=exB (pgc own) (callF (pgc own) (d+1)) bJ) (g:=nV) jR (JI H pl H.length (ns.map nV)) JP (fun _ _ _ j=>j.pl) (j_step (own:=own) (d:=d) (Nat.le_refl _) (len_ne hp)) ns 0 1048576 [] [some (.loc pl),some (.loc H.length),none] (H++[.list []]) (fun j=>by rw [Nat.zero_add]) (by exact Nat.not_le.mp (lin [_] (.c 1 (.a (.v 0) (.n 1)) (.n 100000) (.c 1 (.n 1048576) (.v 0) .z)) rfl h2)) ⟨⟨_,rfl⟩,app_in hp,app_new,Gr.app _ _⟩ ⟨by show 0+_<_; exact Nat.not_le.mp (lin [_] (.c 1 (.a (.v 0) (.n 1)) (.n 100000) (.c 1 (.n 100000) (.a (.n 0) (.v 0)) .z)) rfl h1),by show 0+_<_; exact Nat.not_le.mp (lin [_] (.c 1 (.a (.v 0) (.n 1)) (.n 100000) (.c 1 (.n 100000) (.a (.n 0) (.v 0)) .z)) rfl h2)⟩
  obtain⟨x2,rfl⟩:=j.l
  exact zk H' (call_ret rfl rfl (s_seq (s_asg0 (r_lst r_nil) t_loc0) (s_seq (s_for0 (r_loc rfl) (i_lst (app_in hp)) (show _=some (Fl.next,[some (.loc pl),some (.loc H.length),x2],H') from e)) (s_stop (s_ret0 (r_loc rfl)))))) j.gr j.fo
end
section
variable {own:List FI} {d:Nat} {H H0:Hp} {f pl co ol wl:Nat} {X W:List V} {v:V} {y y2:Option V}
noncomputable def tPut:ME:=(.cmp .gt (.prim .len [(.loc 2)]) (.lit (.int 0)))
noncomputable def bPut:List MS:=[(.asg (.tup [(.loc 3),(.loc 4)]) (.bmeth (.loc 2) .pop [])),(.ife (.cmp .eq (.loc 3) (.glob (.str [112,117,116]))) [(.expr (.bmeth (.loc 2) .extend [(.slice (.meth (.loc 0) 103 [(.loc 4)]) (.lit .none) (.lit .none) (.neg (.lit (.int 1))))]))] [(.ife (.cmp .eq (.loc 3) (.glob (.str [101,109,105,116]))) [(.expr (.meth (.loc 0) 101 [(.loc 4)]))] [(.expr (.meth (.loc 0) 106 [(.loc 3),(.loc 4)]))])])]
noncomputable abbrev plo (co wl:Nat) (nd:V) (y y2:Option V):Lo:=[some (.loc co),some nd,some (.loc wl),y,y2]
theorem put_step {nd n0:V} {it:List V} {r:Nat} {H2:Hp} (hw:H[wl]? = some (.list (W++[putV nd]))) (hc:H[co]? = some (.inst 0 [(0,.loc ol)])) (hwc:wl≠co) (hb:callF (pgc own) d 6 [.loc co,nd] (H.set wl (O.list W))=some (.loc r,H2)) (hr:H2[r]? = some (.list it)) (hw2:H2[wl]? = some (.list W)) (hl:W.length+it.reverse.length<lim) :
    exB (pgc own) (callF (pgc own) d) bPut (plo co wl n0 y y2) H=some (.next,plo co wl n0 (some (.str [112,117,116])) (some nd),(H2++[O.list it.reverse]).set wl (O.list (W++it.reverse))) :=
  s_seq (s_asg0 (r_bm (r_loc rfl) (g_kindL hw rfl) r_nil (g_pop hw)) (t_tup0 (by rfl) (t_cons0 t_loc0 (t_cons0 t_loc0 t_nil0)))) (s_seq (s_if_t (r_cmp (r_loc rfl) r_glob (by rfl)) (s_seq (s_expr0 (r_bm (r_loc rfl) (g_kindL (set_at hw) rfl) (r_cons (r_slice (r_meth (r_loc rfl) (set_off hwc hc) rfl rfl (r_cons (r_loc rfl) r_nil) hb) r_lit r_lit (r_neg r_lit) (by exact atL_at hr)) r_nil) (g_extend (app_in hw2) app_new (ne_len hw2) hl))) s_nil0)) s_nil0)
theorem emt_step {x n0 v2:V} {H2:Hp} (hw:H[wl]? = some (.list (W++[emtV x]))) (hc:H[co]? = some (.inst 0 [(0,.loc ol)])) (hwc:wl≠co) (hb:callF (pgc own) d 4 [.loc co,x] (H.set wl (O.list W))=some (v2,H2)) :
    exB (pgc own) (callF (pgc own) d) bPut (plo co wl n0 y y2) H=some (.next,plo co wl n0 (some (.str [101,109,105,116])) (some x),H2) :=
  s_seq (s_asg0 (r_bm (r_loc rfl) (g_kindL hw rfl) r_nil (g_pop hw)) (t_tup0 (by rfl) (t_cons0 t_loc0 (t_cons0 t_loc0 t_nil0)))) (s_seq (s_if_f (r_cmp (r_loc rfl) r_glob (by rfl)) (s_seq (s_if_t (r_cmp (r_loc rfl) r_glob (by rfl)) (s_seq (s_expr0 (r_meth (r_loc rfl) (set_off hwc hc) rfl rfl (r_cons (r_loc rfl) r_nil) hb)) s_nil0)) s_nil0)) s_nil0)
theorem bnd_step {e n0 v2:V} {kx:List Nat} {H2:Hp} (hw:H[wl]? = some (.list (W++[.tup [.str kx,e]]))) (hc:H[co]? = some (.inst 0 [(0,.loc ol)])) (hwc:wl≠co) (h1:(kx == [112,117,116])=false) (h2:(kx == [101,109,105,116])=false) (hb:callF (pgc own) d 9 [.loc co,.str kx,e] (H.set wl (O.list W))=some (v2,H2)) :
    exB (pgc own) (callF (pgc own) d) bPut (plo co wl n0 y y2) H=some (.next,plo co wl n0 (some (.str kx)) (some e),H2) :=
  s_seq (s_asg0 (r_bm (r_loc rfl) (g_kindL hw rfl) r_nil (g_pop hw)) (t_tup0 (by rfl) (t_cons0 t_loc0 (t_cons0 t_loc0 t_nil0)))) (s_seq (s_if_f (r_cmp (r_loc rfl) r_glob (c_seq h1)) (s_seq (s_if_f (r_cmp (r_loc rfl) r_glob (c_seq h2)) (s_seq (s_expr0 (r_meth (r_loc rfl) (set_off hwc hc) rfl rfl (r_cons (r_loc rfl) (r_cons (r_loc rfl) r_nil)) hb)) s_nil0)) s_nil0)) s_nil0)
theorem tPut_t {n0:V} (hw:H[wl]? = some (.list (W++[v]))):evE (pgc own) (callF (pgc own) d) tPut (plo co wl n0 y y2) H=some (.bool true,H) :=
  r_cmp (r_prim (r_cons (r_loc rfl) r_nil) (g_len hw)) r_lit (c_gt_t (by rw [List.length_append]; exact Int.natCast_pos.mpr (Nat.succ_pos _)))
theorem tPut_f {n0:V} (hw:H[wl]? = some (.list [])):evE (pgc own) (callF (pgc own) d) tPut (plo co wl n0 y y2) H=some (.bool false,H) :=
  r_cmp (r_prim (r_cons (r_loc rfl) r_nil) (g_len hw)) r_lit (by rfl)
theorem slice_init {ps:List V} {z:V} (h:H[pl]? = some (.list (ps++[z]))):sliceV (.loc pl) .none (.int (((ps++[z]).length:Int) - 1)) .none H=some (.loc H.length,H++[.list ps]):=by
  refine(atL_at h).trans ?_
  have e:((ps++[z]).length:Int) - 1=(ps.length:Nat):=by rw [List.length_append]; show((ps.length+1:Nat):Int) - 1=_; omega
  rw [e]
  show Option.map _ (gd (0≤((ps.length:Nat):Int)) _)=_
  rw [gd_at (Int.natCast_nonneg _),Int.toNat_natCast,List.take_left']
  · rfl
  · rfl
noncomputable def bC:List MS:=[(.expr (.bmeth (.loc 2) .extend [(.lst [(.tup [(.glob (.str [111,112,101,110])),(.loc 3)]),(.tup [(.glob (.str [112,117,116])),(.loc 4)]),(.tup [(.glob (.str [115,104,117,116])),(.loc 3)])])]))]
theorem ch_step {p e co:V} (hf:H[f]? = some (.list X)) (hl:X.length+3<lim):exB (pgc own) (callF (pgc own) d) bC [some co,some (.loc pl),some (.loc f),some e,some p] H=some (.next,[some co,some (.loc pl),some (.loc f),some e,some p],(H++[O.list [.tup [.str [111,112,101,110],e],putV p,.tup [.str [115,104,117,116],e]]]).set f (O.list (X++[.tup [.str [111,112,101,110],e],putV p,.tup [.str [115,104,117,116],e]]))) :=
  s_seq (s_expr0 (r_bm (r_loc rfl) (g_kindL hf rfl) (r_cons (r_lst (r_cons (r_tup (r_cons r_glob (r_cons (r_loc rfl) r_nil))) (r_cons (r_tup (r_cons r_glob (r_cons (r_loc rfl) r_nil))) (r_cons (r_tup (r_cons r_glob (r_cons (r_loc rfl) r_nil))) r_nil)))) r_nil) (g_extend (app_in hf) app_new (ne_len hf) hl))) s_nil0
theorem ch_len {e:Nat}:∀(ps X:List V),(ps.foldl (fun X p=>X++[opnV e,putV p,shtV e]) X).length=X.length+3 * ps.length
  | [],X=>rfl
  | p::r,X=>by
    rw [List.foldl_cons,ch_len r,List.length_append]
    show X.length+3+3 * r.length=X.length+3 * (r.length+1)
    exact lnq [_,_] (.a (.a (.v 0) (.n 3)) (.m 3 (.v 1))) (.a (.v 0) (.m 3 (.a (.v 1) (.n 1)))) rfl
noncomputable def chcT (e:Nat) (X:List V) (p:V):List V:=X++[opnV e,putV p,shtV e]
structure ChI (H0:Hp) (pl f e sl:Nat) (co:V) (ps X:List V) (l:Lo) (H:Hp):Prop where
  l:∃ x,l=[some co,some (.loc pl),some (.loc f),some (.loc e),x]
  sl:H[sl]? = some (.list ps)
  fo:H[f]? = some (.list X)
  gr:∀ i x,i≠f→H0[i]? = some x→H[i]? = some x
  len:H0.length≤H.length
noncomputable def ChP (X ps:List V):Prop:=X.length+3 * ps.length<100000
theorem ch_turn {e sl:Nat} {co:V} {ps:List V} (hs:sl≠f) (X:List V) (p:V) (r:List V) (l:Lo) (H:Hp) (c:ChI H0 pl f e sl co ps X l H) (q:ChP X (p::r)) :
    ∃ fl l' H',(fl=Fl.next∨fl=Fl.cont)∧exB (pgc own) (callF (pgc own) d) bC (l.set 4 (some (id p))) H=some (fl,l',H')∧ChI H0 pl f e sl co ps (chcT e X p) l' H'∧ChP (chcT e X p) r:=by
  obtain⟨x,rfl⟩:=c.l
  unfold ChP at q
  rw [List.length_cons] at q
  refine⟨.next,_,_,.inl rfl,ch_step c.fo (lt_lim (by exact Nat.not_le.mp (lin [_,_] (.c 1 (.a (.a (.v 0) (.m 3 (.a (.v 1) (.n 1)))) (.n 1)) (.n 100000) (.c 1 (.n 100000) (.a (.v 0) (.n 3)) .z)) rfl q))),⟨⟨_,rfl⟩,set_off hs.symm (app_in c.sl),set_at (app_in c.fo),fun i x h1 h2=>set_off h1.symm (app_in (c.gr i x h1 h2)),by rw [List.length_set,List.length_append]; exact Nat.le_add_right_of_le c.len⟩,?_⟩
  show(X++[_,_,_]).length+_<_
  rw [List.length_append]
  show _+3+_<_
  exact Nat.not_le.mp (lin [_,_] (.c 1 (.a (.a (.v 0) (.m 3 (.a (.v 1) (.n 1)))) (.n 1)) (.n 100000) (.c 1 (.n 100000) (.a (.a (.v 0) (.n 3)) (.m 3 (.v 1))) .z)) rfl q)
theorem choice_ok_k {co:V} {ps:List V} {z:V} (hp:H[pl]? = some (.list (ps++[z]))) (hn:ps.length<1000) {zg:Prop} (zk:∀ H',∀ r,∀ e,(callF (pgc own) (d+1) 7 [co,.loc pl] H=some (.loc r,H'))→(Gr H H')→(H'[r]? = some (.list (ps.foldl (chcT e) []++[putV z,metV e])))→(H'[e]? = some (.list [.int (-1),.loc (H.length+1)]))→(H'[H.length+1]? = some (.list []))→(e=H.length+2)→zg):zg:=by
  have l1:(H++[O.list []]).length=H.length+1:=by rw [List.length_append]; rfl
  have l2:(H++[O.list []]++[O.list []]).length=H.length+2:=by rw [List.length_append,l1]; rfl
  have l3:(H++[O.list []]++[O.list []]++[O.list [.int (-1),.loc (H++[O.list []]).length]]).length=H.length+3:=by rw [List.length_append,l2]; rfl
  obtain⟨l',H',e,j⟩:=for_list (k:=4) (pl:=(H++[O.list []]++[O.list []]++[O.list [.int (-1),.loc (H++[O.list []]).length]]).length) (body:=exB (pgc own) (callF (pgc own) d) bC) (g:=id) (chcT (H++[O.list []]++[O.list []]).length) (ChI (H++[O.list []]++[O.list []]++[O.list [.int (-1),.loc (H++[O.list []]).length]]++[O.list ps]) pl H.length (H++[O.list []]++[O.list []]).length _ co ps) ChP (fun _ _ _ j=>j.sl) (ch_turn (own:=own) (d:=d) (by rw [l3]; exact Nat.ne_of_gt (Nat.not_le.mp (lin [_] (.c 1 (.a (.v 0) (.n 3)) (.v 0) .z) rfl)))) ps 0 1048576 [] [some co,some (.loc pl),some (.loc H.length),some (.loc (H++[O.list []]++[O.list []]).length),none] _ (fun j=>by rw [Nat.zero_add,List.map_id]) (by exact Nat.not_le.mp (lin [_] (.c 1 (.a (.v 0) (.n 1)) (.n 1000) (.c 1 (.n 1048576) (.v 0) .z)) rfl hn)) ⟨⟨_,rfl⟩,app_new,app_in (app_in (app_in app_new)),fun _ _ _ h=>h,Nat.le_refl _⟩ (by show 0+_<_; exact Nat.not_le.mp (lin [_] (.c 3 (.a (.v 0) (.n 1)) (.n 1000) (.c 1 (.n 100000) (.a (.n 0) (.m 3 (.v 0))) .z)) rfl hn))
  obtain⟨x,rfl⟩:=j.l
  have hf:H'.length > H.length:=Nat.lt_of_lt_of_le (by rw [List.length_append,l3]; show H.length<H.length+3+1; exact Nat.not_le.mp (lin [_] (.c 1 (.a (.a (.v 0) (.n 3)) (.n 1)) (.v 0) .z) rfl)) j.len
  have hl2:(ps.foldl (chcT (H++[O.list []]++[O.list []]).length) []).length + [putV z,metV (H++[O.list []]++[O.list []]).length].length≤lim:=by
    exact Nat.le_trans (Nat.le_of_eq (congrArg (· + 2) (ch_len ps []))) (Nat.le_of_lt (lt_lim (by show 0+_+2<_; exact Nat.not_le.mp (lin [_] (.c 3 (.a (.v 0) (.n 1)) (.n 1000) (.c 1 (.n 100000) (.a (.a (.n 0) (.m 3 (.v 0))) (.n 2)) .z)) rfl hn))))
  have hpl:∀ i x,H[i]? = some x→H'[i]? = some x:=fun i x h=>j.gr i x (ne_len h) (app_in (app_in (app_in (app_in h))))
  refine zk _ _ _ (call_ret rfl rfl (s_seq (s_asg0 (r_tup (r_cons (r_lst r_nil) (r_cons (r_lst (r_cons (r_neg r_lit) (r_cons (r_lst r_nil) r_nil))) r_nil))) (t_tup0 (by rfl) (t_cons0 t_loc0 (t_cons0 t_loc0 t_nil0)))) (s_seq (s_for0 (r_slice (r_loc rfl) r_lit (r_bin (r_prim (r_cons (r_loc rfl) r_nil) (g_len (app_in (app_in (app_in hp))))) r_lit (by rfl)) r_lit (by exact slice_init (app_in (app_in (app_in hp))))) (i_lst app_new) (show _=some (Fl.next,[some co,some (.loc pl),some (.loc H.length),some (.loc (H++[O.list []]++[O.list []]).length),x],H') from e)) (s_stop (s_ret0 (r_bin (r_loc rfl) (r_lst (r_cons (r_tup (r_cons r_glob (r_cons (r_idx (r_loc rfl) (r_bin (r_prim (r_cons (r_loc rfl) r_nil) (g_len (hpl _ _ hp))) r_lit (by rfl)) (g_idxL (hpl _ _ hp) (last_at ps z))) r_nil))) (r_cons (r_tup (r_cons r_glob (r_cons (r_loc rfl) r_nil))) r_nil))) ((atL_at (app_in j.fo)).trans ((atL_at app_new).trans (gd_at hl2))))))))) (⟨?_,fun i h=>?_⟩) app_new (app_in (app_in (j.gr _ _ (by rw [l2]; exact Nat.ne_of_gt (Nat.not_le.mp (lin [_] (.c 1 (.a (.v 0) (.n 2)) (.v 0) .z) rfl))) (app_in (by rw [← l1]; exact app_new))))) (app_in (app_in (j.gr _ _ (Nat.succ_ne_self _) (app_in (app_in (by rw [← l1]; exact app_new)))))) l2
  · rw [List.length_append,List.length_append]; exact Nat.not_lt.mp (lin [_,_,_,_] (.c 1 (.a (.v 0) (.n 1)) (.v 1) (.c 1 (.a (.a (.a (.v 1) (.v 2)) (.v 3)) (.n 1)) (.v 0) .z)) rfl hf)
  · rw [List.append_assoc,List.getElem?_append_left (by exact Nat.not_le.mp (lin [_,_,_] (.c 1 (.a (.v 0) (.n 1)) (.v 1) (.c 1 (.a (.v 2) (.n 1)) (.v 0) (.c 1 (.v 1) (.v 2) .z))) rfl hf h))]
    have hx:=List.getElem?_eq_getElem h
    rw [hx]; exact hpl _ _ hx
end
section
variable {own:List FI} {d:Nat} {H H0:Hp} {f pl co ol wl:Nat} {X W:List V} {v:V} {y y2:Option V}
theorem begun_ch {t:List Nat} (hc:H[co]? = some (.inst 0 [(0,.loc ol)])) (ho:H[ol]? = some (.list X)) (hne:co≠ol) (hl:X.length<lim):callF (pgc own) (d+2) 6 [.loc co,chV t] H=some (.loc (H.set ol (.list (X++[oV (.one t)]))).length,H.set ol (.list (X++[oV (.one t)]))++[O.list []]) :=
  call_ret rfl rfl (s_seq (s_asg0 (r_idx (r_loc rfl) r_lit (by rfl)) t_loc0) (s_seq (s_if_f (r_cmp (r_loc rfl) r_lit (by rfl)) s_nil0) (s_seq (s_if_f (r_cmp (r_loc rfl) r_lit (by rfl)) s_nil0) (s_seq (s_if_f (r_cmp (r_loc rfl) r_lit (by rfl)) s_nil0) (s_seq (s_if_f (r_or (r_cmp (r_loc rfl) r_lit (by rfl)) (r_or (r_cmp (r_loc rfl) r_lit (by rfl)) r_or0)) s_nil0) (s_seq (s_if_t (r_cmp (r_loc rfl) r_glob (by rfl)) (s_seq (s_expr0 (r_meth (r_loc rfl) hc rfl rfl (r_cons (r_tup (r_cons r_glob (r_cons (r_loc rfl) (r_cons (r_ife_t (r_cmp (r_prim (r_cons (r_loc rfl) r_nil) (by first | rfl | exact g_len (by solve_by_elim [app_new,set_at,set_off,app_in,ne_len,len_ne,Ne.symm]))) r_lit (by rfl)) (r_idx (r_loc rfl) r_lit (by rfl))) r_nil)))) r_nil) (emit_ok hc ho hne hl))) s_nil0)) (s_stop (s_ret0 (r_lst r_nil)))))))))
theorem begun_lt {n:Nd} {q:Nat} (hc:H[co]? = some (.inst 0 [(0,.loc ol)])) (ho:H[ol]? = some (.list X)) (hne:co≠ol) (hl:X.length<lim):callF (pgc own) (d+2) 6 [.loc co,nV (.lt n q)] H=some (.loc (H.set ol (.list (X++[oV .mark]))).length,H.set ol (.list (X++[oV .mark]))++[O.list [putV (nV n),emtV (oV (.name q))]]) :=
  call_ret rfl rfl (s_seq (s_asg0 (r_idx (r_loc rfl) r_lit (by rfl)) t_loc0) (s_seq (s_if_f (r_cmp (r_loc rfl) r_lit (by rfl)) s_nil0) (s_seq (s_if_f (r_cmp (r_loc rfl) r_lit (by rfl)) s_nil0) (s_seq (s_if_f (r_cmp (r_loc rfl) r_lit (by rfl)) s_nil0) (s_stop (s_if_t (r_or_t (r_cmp (r_loc rfl) r_lit (by rfl))) (s_seq (s_expr0 (r_meth (r_loc rfl) hc rfl rfl (r_cons (r_tup (r_cons r_glob r_nil)) r_nil) (emit_ok hc ho hne hl))) (s_stop (s_ret0 (r_lst (r_cons (r_tup (r_cons r_glob (r_cons (r_idx (r_loc rfl) r_lit (by rfl)) r_nil))) (r_cons (r_tup (r_cons r_glob (r_cons (r_tup (r_cons (r_ife_t (r_cmp (r_loc rfl) r_lit (by rfl)) r_glob) (r_cons (r_idx (r_loc rfl) r_lit (by rfl)) r_nil))) r_nil))) r_nil))))))))))))
theorem comp_put {ps:List Nd} {P:Pg} {call:CallT} {l:Lo} (hp:H[pl]? = some (.list (ps.map nV))) (hl3:∀ v:V,(l.set 3 (some v))[3]? = some (some v)):∀(r:List Nd) (i f:Nat) (acc:List V),(∀ j,(ps.map nV)[i+j]? = (r.map nV)[j]?)→r.length<f →
    compN (fun l H=>evC P call [] l H) (fun l H=>evE P call (.tup [.glob (.str [112,117,116]),.loc 3]) l H) (.one 3) l f (.lst pl i) acc H=some (acc.reverse++r.map fun n=>putV (nV n),H)
  | [],i,f+1,acc,h,_=>(cn_end (n_lst0 hp (h 0))).trans (by rw [List.map_nil,List.append_nil])
  | n::r,i,f+1,acc,h,hf=>by
    refine(cn_step (n_lst hp (h 0)) rfl rc_t (r_tup (r_cons r_glob (r_cons (r_loc (hl3 _)) r_nil))) (comp_put hp hl3 r (i+1) f (putV (nV n)::acc) (fun j=>by rw [Nat.add_assoc,Nat.add_comm 1 j]; exact h (j+1)) (Nat.lt_of_succ_lt_succ hf))).trans ?_
    rw [List.reverse_cons,List.append_assoc]; rfl
theorem joinT_len (l:List Nd):(joinT l).length≤l.length:=by
  have:∀(l r:List Nd),(l.foldl jR r).length≤r.length+l.length:=fun l=>by
    induction l with
    | nil=>intro r; exact Nat.le_refl _
    | cons n l ih =>
      intro r
      refine Nat.le_trans (ih _) ?_
      have h:(jR r n).length≤r.length+1:=by
        cases n with
        | ch t=>cases t with
          | nil=>exact Nat.le_succ _
          | cons c t=>cases r with
            | nil=>exact Nat.le_refl _
            | cons z r=>cases z <;> first | exact Nat.le_succ _ | exact Nat.le_refl _
        | _=>exact Nat.le_refl _
      rw [List.length_cons]; exact Nat.not_lt.mp (lin [_,_,_] (.c 1 (.v 0) (.a (.v 1) (.n 1)) (.c 1 (.a (.a (.v 1) (.a (.v 2) (.n 1))) (.n 1)) (.a (.v 0) (.v 2)) .z)) rfl h)
  rw [joinT,List.length_reverse]
  exact Nat.le_trans (this l []) (Nat.le_of_eq (Nat.zero_add _))
theorem begun_ca_k {a b:Nd} (hn:sz (.ca a b)<1000) (ht:txl (rowK true (.ca a b))<100000) {zg:Prop} (zk:∀ r,∀ H',(callF (pgc own) (d+3) 6 [.loc co,nV (.ca a b)] H=some (.loc r,H'))→(Gr H H')→(H'[r]? = some (.list ((joinT (rowK true (.ca a b))).map fun n=>putV (nV n))))→zg):zg:=by
  have hl:=rowK_len true (.ca a b)
  refine row_ok_k (own:=own) (d:=d+1) (H:=H) true (.ca a b) hn fun H1 e1 g1 h1=>?_
  refine joined_ok_k (own:=own) (d:=d) h1 ht (by exact Nat.not_le.mp (lin [_,_] (.c 1 (.a (.v 0) (.n 1)) (.n 1000) (.c 1 (.v 1) (.v 0) (.c 1 (.n 100000) (.v 1) .z))) rfl hn hl)) fun H2 e2 g2 hj=>?_
  have hjl:=joinT_len (rowK true (.ca a b))
  have e3:=comp_put (P:=pgc own) (call:=callF (pgc own) (d+2)) (l:=[some (.loc co),some (nV (.ca a b)),some (.str [99,97,116])]++List.replicate 1 none) hj (fun v=>rfl) _ 0 1048576 [] (fun j=>by rw [Nat.zero_add]) (by exact Nat.not_le.mp (lin [_,_,_] (.c 1 (.a (.v 0) (.n 1)) (.n 1000) (.c 1 (.v 1) (.v 0) (.c 1 (.v 2) (.v 1) (.c 1 (.n 1048576) (.v 2) .z)))) rfl hn hl hjl))
  exact zk _ _ (call_ret rfl rfl (s_seq (s_asg0 (r_idx (r_loc rfl) r_lit (by rfl)) t_loc0) (s_stop (s_if_t (r_cmp (r_loc rfl) r_lit (by rfl)) (s_stop (s_ret0 (r_comp (r_call r_glob (r_cons (r_call r_glob (r_cons (r_loc rfl) (r_cons r_lit r_nil)) e1) r_nil) e2) (i_lst hj) e3 (by rw [List.reverse_nil,List.nil_append,List.length_map]; exact Nat.le_of_lt (lt_lim (by exact Nat.not_le.mp (lin [_,_,_] (.c 1 (.a (.v 0) (.n 1)) (.n 1000) (.c 1 (.v 1) (.v 0) (.c 1 (.v 2) (.v 1) (.c 1 (.n 100000) (.v 2) .z)))) rfl hn hl hjl))))))))))) ((g1.trans g2).trans (Gr.app _ _)) app_new
theorem begun_al_k {a b:Nd} {ps:List Nd} {z:Nd} (hc:H[co]? = some (.inst 0 [(0,.loc ol)])) (hn:sz (.al a b)<1000) (hr:rowK false (.al a b)=ps++[z]) {zg:Prop} (zk:∀ r,∀ e,∀ e1,∀ H',(callF (pgc own) (d+3) 6 [.loc co,nV (.al a b)] H=some (.loc r,H'))→(Gr H H')→(H'[r]? = some (.list ((ps.map nV).foldl (chcT e) []++[putV (nV z),metV e])))→(H'[e]? = some (.list [.int (-1),.loc e1]))→(H'[e1]? = some (.list []))→(H.length≤e1)→(e1<e)→zg):zg:=by
  have hl:=rowK_len false (.al a b)
  refine row_ok_k (own:=own) (d:=d+1) (H:=H) false (.al a b) hn fun H1 e1 g1 h1=>?_
  rw [hr,map_snoc] at h1
  rw [hr,List.length_append] at hl
  refine choice_ok_k (own:=own) (d:=d+1) (co:=.loc co) h1 (by rw [List.length_map]; exact Nat.not_le.mp (lin [_,_,_] (.c 1 (.a (.v 0) (.n 1)) (.n 1000) (.c 1 (.a (.v 1) (.v 2)) (.v 0) (.c 1 (.n 1000) (.v 1) .z))) rfl hn hl)) fun H2 r e e2 g2 hr2 he he1 hee=>?_
  exact zk r e (H1.length+1) H2 (call_ret rfl rfl (s_seq (s_asg0 (r_idx (r_loc rfl) r_lit (by rfl)) t_loc0) (s_seq (s_if_f (r_cmp (r_loc rfl) r_lit (by rfl)) s_nil0) (s_stop (s_if_t (r_cmp (r_loc rfl) r_lit (by rfl)) (s_stop (s_ret0 (r_meth (r_loc rfl) hc rfl rfl (r_cons (r_call r_glob (r_cons (r_loc rfl) (r_cons r_lit r_nil)) e1) r_nil) e2)))))))) (g1.trans g2) hr2 he he1 (Nat.le_succ_of_le g1.len) (by rw [hee]; exact Nat.lt_succ_self _)
noncomputable def bMet:List MS:=[(.asg (.idx (.attr (.loc 0) 0) (.loc 3)) (.tup [(.glob (.str [106,117,109,112])),(.prim .len [(.attr (.loc 0) 0)])]))]
noncomputable def jmpV (e:Nat):V:=oV (.jump e)
theorem met_step {kx e:V} {p:Nat} (hc:H[co]? = some (.inst 0 [(0,.loc ol)])) (ho:H[ol]? = some (.list X)) (hb:0≤(p:Int)∧(p:Int).toNat<X.length):exB (pgc own) (callF (pgc own) d) bMet [some (.loc co),some kx,some e,some (.int p)] H=some (.next,[some (.loc co),some kx,some e,some (.int p)],H.set ol (.list (X.set (p:Int).toNat (jmpV X.length)))) :=
  s_seq (s_asg0 (r_tup (r_cons r_glob (r_cons (r_prim (r_cons (r_attr (r_loc rfl) (g_inst hc rfl)) r_nil) (g_len ho)) r_nil))) (t_idx0 (r_attr (r_loc rfl) (g_inst hc rfl)) (r_loc rfl) (g_setI ho hb))) s_nil0
structure MI (H0:Hp) (co ol e1:Nat) (kx e:V) (E:List V) (n:Nat) (X:List V) (l:Lo) (H:Hp):Prop where
  l:∃ x,l=[some (.loc co),some kx,some e,x]
  hc:H[co]? = some (.inst 0 [(0,.loc ol)])
  ho:H[ol]? = some (.list X)
  he:H[e1]? = some (.list E)
  gr:∀ i x,i≠ol→H0[i]? = some x→H[i]? = some x
  len:H0.length≤H.length
  n:X.length=n
theorem met_turn {e1 n:Nat} {kx e:V} {E:List V} (hne:co≠ol) (hoe:ol≠e1) (X:List V) (p:Nat) (r:List Nat) (l:Lo) (H:Hp) (c:MI H0 co ol e1 kx e E n X l H) (q:∀ p'∈p::r,p'<n) :
    ∃ fl l' H',(fl=Fl.next∨fl=Fl.cont)∧exB (pgc own) (callF (pgc own) d) bMet (l.set 3 (some (.int p))) H=some (fl,l',H')∧MI H0 co ol e1 kx e E n (X.set p (jmpV n)) l' H'∧∀ p'∈r,p'<n:=by
  obtain⟨x,rfl⟩:=c.l
  have hl:=c.n
  subst hl
  exact⟨.next,_,_,.inl rfl,met_step c.hc c.ho ⟨Int.natCast_nonneg _,q p (.head _)⟩,⟨⟨_,rfl⟩,set_off hne.symm c.hc,set_at c.ho,set_off hoe c.he,fun i x h1 h2=>set_off h1.symm (c.gr i x h1 h2),by rw [List.length_set]; exact c.len,List.length_set ..⟩,fun p' h=>q p' (.tail _ h)⟩
noncomputable def patch (n:Nat) (E:List Nat) (X:List V):List V:=E.foldl (fun X p=>X.set p (jmpV n)) X
theorem bound_met_k {e e1:Nat} {E:List Nat} {v0:V} (hc:H[co]? = some (.inst 0 [(0,.loc ol)])) (ho:H[ol]? = some (.list X)) (hne:co≠ol) (he:H[e]? = some (.list [v0,.loc e1])) (he1:H[e1]? = some (.list (E.map fun(p:Nat)=>V.int p))) (hoe1:ol≠e1) (hE:E.length<1000) (hb:∀ p∈E,p<X.length) {zg:Prop} (zk:∀ H',(callF (pgc own) (d+1) 9 [.loc co,.str [109,101,101,116],.loc e] H=some (.none,H'))→(H.length≤H'.length)→(H'[ol]? = some (.list (patch X.length E X)))→(∀ i x,i≠ol→H[i]? = some x→H'[i]? = some x)→zg):zg:=by
  obtain⟨l',H',e3,j⟩:=for_list (k:=3) (pl:=e1) (body:=exB (pgc own) (callF (pgc own) d) bMet) (g:=fun(p:Nat)=>V.int p) (fun Y p=>Y.set p (jmpV X.length)) (fun Y=>MI H co ol e1 (.str [109,101,101,116]) (.loc e) (E.map fun(p:Nat)=>V.int p) X.length Y) (fun _ r=>∀ p∈r,p<X.length) (fun _ _ _ j=>j.he) (met_turn (own:=own) (d:=d) hne hoe1) E 0 1048576 X [some (.loc co),some (.str [109,101,101,116]),some (.loc e),none] H (fun j=>by rw [Nat.zero_add]) (by exact Nat.not_le.mp (lin [_] (.c 1 (.a (.v 0) (.n 1)) (.n 1000) (.c 1 (.n 1048576) (.v 0) .z)) rfl hE)) ⟨⟨_,rfl⟩,hc,ho,he1,fun _ _ _ h=>h,Nat.le_refl _,rfl⟩ hb
  obtain⟨x,rfl⟩:=j.l
  exact zk H' (call_next rfl rfl (s_seq (s_if_f (r_cmp (r_loc rfl) r_glob (by rfl)) (s_seq (s_if_f (r_cmp (r_loc rfl) r_glob (by rfl)) (s_seq (s_for0 (r_idx (r_loc rfl) r_lit (g_idxL he rfl)) (i_lst he1) e3) s_nil0)) s_nil0)) s_nil0)) j.len j.ho j.gr
theorem bound_met {e e1:Nat} {E:List Nat} {v0:V} (hc:H[co]? = some (.inst 0 [(0,.loc ol)])) (ho:H[ol]? = some (.list X)) (hne:co≠ol) (he:H[e]? = some (.list [v0,.loc e1])) (he1:H[e1]? = some (.list (E.map fun(p:Nat)=>V.int p))) (hoe1:ol≠e1) (hE:E.length<1000) (hb:∀ p∈E,p<X.length):∃ H',callF (pgc own) (d+1) 9 [.loc co,.str [109,101,101,116],.loc e] H=some (.none,H')∧H.length≤H'.length∧H'[ol]? = some (.list (patch X.length E X))∧∀ i x,i≠ol→H[i]? = some x→H'[i]? = some x:=bound_met_k hc ho hne he he1 hoe1 hE hb fun H' zh1 zh2 zh3 zh4=>⟨H',zh1,zh2,zh3,zh4⟩
end
set_option genCtorIdx false in
inductive Wk where
  | put (n:Nd) | emit (x:Od) | opn (e:Nat) | sht (e:Nat) | met (e:Nat)
noncomputable def wkV:Wk→V
  | .put n=>putV (nV n)
  | .emit x=>emtV (oV x)
  | .opn e=>opnV e
  | .sht e=>shtV e
  | .met e=>metV e
noncomputable def wtK:Wk→Nat
  | .put n=>6 * sz n
  | .emit _=>2
  | .opn _=>2
  | .sht _=>2
  | .met _=>1
noncomputable def wtS:List Wk→Nat
  | []=>0
  | k::r=>wtK k+wtS r
theorem wtS_1:wtS ([])=0:=rfl
theorem wtS_2 {k r}:wtS (k::r)=wtK k+wtS r:=rfl
theorem wtS_app:∀(a b:List Wk),wtS (a++b)=wtS a+wtS b
  | [],b=>(Nat.zero_add _).symm
  | k::r,b=>by rw [List.cons_append,wtS_2,wtS_2,wtS_app r b,Nat.add_assoc]
theorem wtS_rev:∀ a:List Wk,wtS a.reverse=wtS a
  | []=>rfl
  | k::r=>by rw [List.reverse_cons,wtS_app,wtS_rev r,wtS_2,wtS_1,wtS_2,Nat.add_zero,Nat.add_comm]
theorem sz_pos:∀ n,1≤sz n
  | .ch _=>Nat.le_refl _
  | .lt n _=>Nat.le_add_left _ _
  | .al a b=>Nat.le_add_left _ _
  | .ca a b=>Nat.le_add_left _ _
theorem wtS_len:∀ a:List Wk,a.length≤wtS a
  | []=>Nat.le_refl _
  | k::r=>by
    have h1:1≤wtK k:=by
      cases k with
      | put n=>have:=sz_pos n; show 1≤6 * sz n; exact Nat.not_lt.mp (lin [_] (.c 6 (.n 1) (.v 0) (.c 1 (.a (.m 6 (.v 0)) (.n 1)) (.n 1) .z)) rfl this)
      | met e=>exact Nat.le_refl _
      | _=>exact Nat.le_succ _
    have h2:=wtS_len r
    rw [List.length_cons,wtS_2]; exact Nat.not_lt.mp (lin [_,_,_] (.c 1 (.n 1) (.v 0) (.c 1 (.v 1) (.v 2) (.c 1 (.a (.a (.v 0) (.v 2)) (.n 1)) (.a (.v 1) (.n 1)) .z))) rfl h1 h2)
structure PS (co ol wl:Nat) (X:List V) (W:List Wk) (H:Hp):Prop where
  hco:H[co]? = some (.inst 0 [(0,.loc ol)])
  hol:H[ol]? = some (.list X)
  hwl:H[wl]? = some (.list (W.map wkV))
  ne:ol≠wl
section
variable {own:List FI} {d:Nat} {H H0 H1 H2:Hp} {co ol wl:Nat} {X:List V} {W:List Wk} {n0:V} {y y2:Option V}
theorem PS.n1 (t:PS co ol wl X W H):co≠ol:=ob_ne t.hco t.hol (fun e=>by cases e)
theorem PS.n2 (t:PS co ol wl X W H):wl≠co:=ob_ne t.hwl t.hco (fun e=>by cases e)
structure Fx (ol wl:Nat) (H H':Hp):Prop where
  len:H.length≤H'.length
  off:∀ i x,i≠ol→i≠wl→H[i]? = some x→H'[i]? = some x
theorem Fx.trans (a:Fx ol wl H H1) (b:Fx ol wl H1 H2):Fx ol wl H H2:=⟨Nat.le_trans a.len b.len,fun i x h1 h2 h=>b.off i x h1 h2 (a.off i x h1 h2 h)⟩
theorem Fx.refl:Fx ol wl H H:=⟨Nat.le_refl _,fun _ _ _ _ h=>h⟩
noncomputable abbrev wPut (own:List FI) (d co wl:Nat) (n0:V) (F:Nat) (y y2:Option V) (H:Hp):SR:=whlN (evE (pgc own) (callF (pgc own) d) tPut) (exB (pgc own) (callF (pgc own) d) bPut) F (plo co wl n0 y y2) H
noncomputable def Lp (own:List FI) (d co wl:Nat) (n0:V) (J:Nat) (y y2:Option V) (H:Hp) (y' y2':Option V) (H':Hp):Prop:=∃ j,j≤J∧∀ F q,wPut own d co wl n0 F y' y2' H'=q→wPut own d co wl n0 (j+F) y y2 H=q
theorem Lp.trans {J J':Nat} {a a2 b b2 c c2:Option V} (p:Lp own d co wl n0 J a a2 H b b2 H1) (q:Lp own d co wl n0 J' b b2 H1 c c2 H2):Lp own d co wl n0 (J+J') a a2 H c c2 H2:=by
  obtain⟨i,hi,e⟩:=p
  obtain⟨j,hj,e'⟩:=q
  exact⟨i+j,Nat.add_le_add hi hj,fun F q h=>by rw [Nat.add_assoc]; exact e _ _ (e' _ _ h)⟩
theorem Lp.mono {J J':Nat} {a a2 b b2:Option V} (p:Lp own d co wl n0 J a a2 H b b2 H1) (h:J≤J'):Lp own d co wl n0 J' a a2 H b b2 H1:=by
  obtain⟨i,hi,e⟩:=p
  exact⟨i,Nat.le_trans hi h,e⟩
theorem Lp.one {k:Wk} {a b:V} (t:PS co ol wl X (W++[k]) H) (e:exB (pgc own) (callF (pgc own) d) bPut (plo co wl n0 y y2) H=some (.next,plo co wl n0 (some a) (some b),H1)):Lp own d co wl n0 1 y y2 H (some a) (some b) H1 :=
  ⟨1,Nat.le_refl _,fun F q h=>by
    rw [Nat.add_comm 1 F]
    have hw:=t.hwl
    rw [map_snoc] at hw
    exact wn_next (tPut_t hw) e h⟩
theorem PS.top {k:Wk} (t:PS co ol wl X (W++[k]) H):H[wl]? = some (.list (W.map wkV++[wkV k])):=by rw [t.hwl,map_snoc]
inductive Go (own:List FI) (d co ol wl:Nat) (n0:V) (X:List V) (W:List Wk) (J:Nat) (y y2:Option V) (B H:Hp):Prop where
  | mk (a b:Option V) (H3:Hp) (t:PS co ol wl X W H3) (f:Fx ol wl B H3) (l:Lp own d co wl n0 J y y2 H a b H3):Go own d co ol wl n0 X W J y y2 B H
inductive GoP (own:List FI) (d co ol wl:Nat) (n0:V) (X:List V) (W:List Wk) (y y2:Option V) (H H2:Hp):Prop where
  | mk (a b:V) (H3:Hp) (t:PS co ol wl X W H3) (f:Fx ol wl H H3) (g:∀ i x,i≠wl→H2[i]? = some x→H3[i]? = some x) (n:H2.length≤H3.length) (l:Lp own d co wl n0 1 y y2 H (some a) (some b) H3):GoP own d co ol wl n0 X W y y2 H H2
theorem st_put {n:Nd} {r:Nat} {it:List Wk} {X':List V} (t:PS co ol wl X (W++[.put n]) H) (e:callF (pgc own) d 6 [.loc co,nV n] (H.set wl (.list (W.map wkV)))=some (.loc r,H2)) (hl:(H.set wl (.list (W.map wkV))).length≤H2.length) (ho:H2[ol]? = some (.list X')) (hr:H2[r]? = some (.list (it.map wkV)))
    (hf:∀ i x,i≠ol→(H.set wl (.list (W.map wkV)))[i]? = some x→H2[i]? = some x) (hW:W.length+it.length<lim) :
    GoP own d co ol wl n0 X' (W++it.reverse) y y2 H H2:=by
  have hw2:H2[wl]? = some (.list (W.map wkV)):=hf wl _ t.ne.symm (set_at t.hwl)
  have e2:=put_step (own:=own) (d:=d) (n0:=n0) (y:=y) (y2:=y2) t.top t.hco t.n2 e hr hw2 (by rw [List.length_reverse,List.length_map,List.length_map]; exact hW)
  have hg:∀ i x,i≠wl→H2[i]? = some x→((H2++[O.list (it.map wkV).reverse]).set wl (O.list (W.map wkV++(it.map wkV).reverse)))[i]? = some x:=fun i x h1 h=>set_off h1.symm (app_in h)
  rw [List.length_set] at hl
  have hl3:H2.length≤((H2++[O.list (it.map wkV).reverse]).set wl (O.list (W.map wkV++(it.map wkV).reverse))).length:=by rw [List.length_set,List.length_append]; exact Nat.le_add_right _ _
  exact⟨_,_,_,⟨hg _ _ t.n2.symm (hf _ _ t.n1 (set_off t.n2 t.hco)),hg _ _ t.ne ho,by rw [List.map_append,List.map_reverse]; exact set_at (app_in hw2),t.ne⟩,⟨Nat.le_trans hl hl3,fun i x h1 h2 h=>hg i x h2 (hf i x h1 (set_off h2.symm h))⟩,hg,hl3,Lp.one t e2⟩
theorem st_emit {x:Od} (t:PS co ol wl X (W++[.emit x]) H) (hl:X.length<lim):Go own (d+1) co ol wl n0 (X++[oV x]) W 1 y y2 H H :=
  ⟨_,_,_,⟨set_off t.n1.symm (set_off t.n2 t.hco),set_at (set_off t.ne.symm t.hol),set_off t.ne (set_at t.hwl),t.ne⟩,⟨by rw [List.length_set,List.length_set]; exact Nat.le_refl _,fun i x h1 h2 h=>set_off h1.symm (set_off h2.symm h)⟩,
    Lp.one t (emt_step t.top t.hco t.n2 (emit_ok (set_off t.n2 t.hco) (set_off t.ne.symm t.hol) t.n1 hl))⟩
structure Al (e e1:Nat) (v:V) (E:List Nat) (ol wl:Nat) (B H:Hp):Prop where
  he:H[e]? = some (.list [v,.loc e1])
  he1:H[e1]? = some (.list (E.map fun(p:Nat)=>V.int p))
  n1:ol≠e
  n2:ol≠e1
  n3:wl≠e
  n4:wl≠e1
  n5:e1≠e
  b1:B.length≤e
  b2:B.length≤e1
  fx:Fx ol wl B H
theorem Al.fxs {e e1:Nat} {v:V} {E:List Nat} (a:Al e e1 v E ol wl H0 H) (f:Fx ol wl H H1):Al e e1 v E ol wl H0 H1 :=
  ⟨f.off _ _ a.n1.symm a.n3.symm a.he,f.off _ _ a.n2.symm a.n4.symm a.he1,a.n1,a.n2,a.n3,a.n4,a.n5,a.b1,a.b2,a.fx.trans f⟩
inductive GoA (own:List FI) (d co ol wl:Nat) (n0:V) (X:List V) (W:List Wk) (e e1:Nat) (v:V) (E:List Nat) (y y2:Option V) (B H:Hp):Prop where
  | mk (a b:V) (H3:Hp) (t:PS co ol wl X W H3) (al:Al e e1 v E ol wl B H3) (l:Lp own d co wl n0 1 y y2 H (some a) (some b) H3):GoA own d co ol wl n0 X W e e1 v E y y2 B H
theorem st_opn {e e1:Nat} {v:V} {E:List Nat} (t:PS co ol wl X (W++[.opn e]) H) (a:Al e e1 v E ol wl H0 H) (hl:X.length<lim):GoA own (d+2) co ol wl n0 (X++[.none]) W e e1 (.int X.length) E y y2 H0 H:=by
  have ne:e≠co:=ob_ne a.he t.hco (fun h=>by cases h)
  refine⟨_,_,_,⟨set_off ne (set_off t.n1.symm (set_off t.n2 t.hco)),set_off a.n1.symm (set_at (set_off t.ne.symm t.hol)),set_off a.n3.symm (set_off t.ne (set_at t.hwl)),t.ne⟩,⟨set_at (set_off a.n1 (set_off a.n3 a.he)),set_off a.n5.symm (set_off a.n2 (set_off a.n4 a.he1)),a.n1,a.n2,a.n3,a.n4,a.n5,a.b1,a.b2,⟨?_,fun i x h1 h2 h=>?_⟩⟩,
    Lp.one t (bnd_step t.top t.hco t.n2 rfl rfl (bound_open (set_off t.n2 t.hco) (set_off t.ne.symm t.hol) t.n1 hl (set_off a.n3 a.he) a.n1))⟩
  · rw [List.length_set,List.length_set,List.length_set]; exact a.fx.len
  · exact set_off (Nat.ne_of_gt (Nat.lt_of_lt_of_le (lt_get h) a.b1)) (set_off h1.symm (set_off h2.symm (a.fx.off i x h1 h2 h)))
theorem st_sht {e e1 p:Nat} {E:List Nat} (t:PS co ol wl X (W++[.sht e]) H) (a:Al e e1 (.int p) E ol wl H0 H) (hl:X.length<lim) (hE:E.length<lim) (hp:p<X.length):GoA own (d+2) co ol wl n0 ((X++[V.none]).set p (oV (.split (X.length+1)))) W e e1 (.int p) (E++[X.length]) y y2 H0 H:=by
  have ne:e≠co:=ob_ne a.he t.hco (fun h=>by cases h)
  have ne1:e1≠co:=ob_ne a.he1 t.hco (fun h=>by cases h)
  refine⟨_,_,_,⟨set_off t.n1.symm (set_off ne1 (set_off t.n1.symm (set_off t.n2 t.hco))),set_at (set_off a.n2.symm (set_at (set_off t.ne.symm t.hol))),set_off t.ne (set_off a.n4.symm (set_off t.ne (set_at t.hwl))),t.ne⟩,⟨set_off a.n1 (set_off a.n5 (set_off a.n1 (set_off a.n3 a.he))),?_,a.n1,a.n2,a.n3,a.n4,a.n5,a.b1,a.b2,⟨?_,fun i x h1 h2 h=>?_⟩⟩,
    Lp.one t (bnd_step t.top t.hco t.n2 rfl rfl (bound_shut (set_off t.n2 t.hco) (set_off t.ne.symm t.hol) t.n1 hl (set_off a.n3 a.he) (set_off a.n4 a.he1) a.n1 a.n2 a.n5 ne1 (by rw [List.length_map]; exact hE) hp))⟩
  · rw [map_snoc]; exact set_off a.n2 (set_at (set_off a.n2 (set_off a.n4 a.he1)))
  · rw [List.length_set,List.length_set,List.length_set,List.length_set]; exact a.fx.len
  · exact set_off h1.symm (set_off (Nat.ne_of_gt (Nat.lt_of_lt_of_le (lt_get h) a.b2)) (set_off h1.symm (set_off h2.symm (a.fx.off i x h1 h2 h))))
theorem st_met {e e1:Nat} {v:V} {E:List Nat} (t:PS co ol wl X (W++[.met e]) H) (a:Al e e1 v E ol wl H0 H) (hE:E.length<1000) (hb:∀ p∈E,p<X.length):Go own (d+1) co ol wl n0 (patch X.length E X) W 1 y y2 H0 H:=by
  obtain⟨H3,e3,l3,o3,f3⟩:=bound_met (own:=own) (d:=d) (set_off t.n2 t.hco) (set_off t.ne.symm t.hol) t.n1 (set_off a.n3 a.he) (set_off a.n4 a.he1) a.n2 hE hb
  refine⟨_,_,H3,⟨f3 _ _ t.n1 (set_off t.n2 t.hco),o3,f3 _ _ t.ne.symm (set_at t.hwl),t.ne⟩,⟨?_,fun i x h1 h2 h=>f3 i x h1 (set_off h2.symm (a.fx.off i x h1 h2 h))⟩,Lp.one t (bnd_step t.top t.hco t.n2 rfl rfl e3)⟩
  rw [List.length_set] at l3
  exact Nat.le_trans a.fx.len l3
noncomputable def cpS (g:Nd→Nat→List Od):List Nd→Nat→List Od
  | [],_=>[]
  | n::r,b=>g n b++cpS g r (b+(g n b).length)
theorem cpS_1 {g zu1}:cpS g ([]) zu1=[]:=rfl
theorem cpS_2 {g n r b}:cpS g (n::r) b=g n b++cpS g r (b+(g n b).length):=rfl
noncomputable def cpA (g:Nd→Nat→List Od) (e:Nat) (z:Nd):List Nd→Nat→List Od
  | [],b=>g z b
  | n::r,b=>.split (b+(g n (b+1)).length+2)::(g n (b+1)++.jump e::cpA g e z r (b+(g n (b+1)).length+2))
theorem cpA_1 {g e z b}:cpA g e z ([]) b=g z b:=rfl
theorem cpA_2 {g e z n r b}:cpA g e z (n::r) b=.split (b+(g n (b+1)).length+2)::(g n (b+1)++.jump e::cpA g e z r (b+(g n (b+1)).length+2)):=rfl
theorem cpA_len (g:Nd→Nat→List Od) (e e':Nat) (z:Nd):∀(ps:List Nd) (b:Nat),(cpA g e z ps b).length=(cpA g e' z ps b).length
  | [],b=>rfl
  | n::r,b=>by rw [cpA_2,cpA_2,List.length_cons,List.length_cons,List.length_append,List.length_append,List.length_cons,List.length_cons,cpA_len g e e' z r]
noncomputable def endA (g:Nd→Nat→List Od) (z:Nd) (ps:List Nd) (b:Nat):Nat:=b+(cpA g 0 z ps b).length
noncomputable def NodeOk (own:List FI) (d co ol wl:Nat) (n0:V) (g:Nd→Nat→List Od) (n:Nd):Prop:=∀ ⦃X:List V⦄ ⦃W:List Wk⦄ ⦃H:Hp⦄ ⦃y y2:Option V⦄,PS co ol wl X (W++[.put n]) H→X.length+wtS W+6 * sz n<100000 →
  Go own d co ol wl n0 (X++(g n X.length).map oV) W (6 * sz n) y y2 H H
theorem cat_run {g:Nd→Nat→List Od} (hgl:∀ n b,(g n b).length≤6 * sz n):∀(ps:List Nd),(∀ n∈ps,NodeOk own d co ol wl n0 g n)→∀ {X:List V} {W:List Wk} {H:Hp} {y y2:Option V},PS co ol wl X (W++(ps.map Wk.put).reverse) H→X.length+wtS W+wtS (ps.map Wk.put)<100000 →
    Go own d co ol wl n0 (X++(cpS g ps X.length).map oV) W (wtS (ps.map Wk.put)) y y2 H H
  | [],hg,X,W,H,y,y2,t,hb=>⟨y,y2,H,by rw [cpS_1,List.map_nil,List.append_nil]; rw [List.map_nil,List.reverse_nil,List.append_nil] at t; exact t,Fx.refl,0,Nat.le_refl _,fun F q h=>by rw [Nat.zero_add]; exact h⟩
  | n::r,hg,X,W,H,y,y2,t,hb=>by
    rw [List.map_cons,List.reverse_cons,← List.append_assoc] at t
    rw [List.map_cons,wtS_2] at hb
    have hw:wtK (.put n)=6 * sz n:=rfl
    rw [hw] at hb
    obtain⟨a,b,H1,t1,f1,l1⟩:=hg n (.head _) (y:=y) (y2:=y2) t (by rw [wtS_app,wtS_rev]; exact Nat.not_le.mp (lin [_,_,_,_] (.c 1 (.a (.a (.a (.v 0) (.v 1)) (.a (.m 6 (.v 2)) (.v 3))) (.n 1)) (.n 100000) (.c 1 (.n 100000) (.a (.a (.v 0) (.a (.v 1) (.v 3))) (.m 6 (.v 2))) .z)) rfl hb))
    have hl:=hgl n X.length
    have hx:(X++(g n X.length).map oV).length=X.length+(g n X.length).length:=by rw [List.length_append,List.length_map]
    obtain⟨a2,b2,H2,t2,f2,l2⟩:=cat_run hgl r (fun n h=>hg n (.tail _ h)) (y:=a) (y2:=b) t1 (by rw [hx]; exact Nat.not_le.mp (lin [_,_,_,_,_] (.c 1 (.a (.a (.a (.v 0) (.v 1)) (.a (.m 6 (.v 2)) (.v 3))) (.n 1)) (.n 100000) (.c 1 (.v 4) (.m 6 (.v 2)) (.c 1 (.n 100000) (.a (.a (.a (.v 0) (.v 4)) (.v 1)) (.v 3)) .z))) rfl hb hl))
    rw [hx] at t2
    exact⟨a2,b2,H2,by rw [cpS_2,List.map_append,← List.append_assoc]; exact t2,f1.trans f2,l1.trans l2⟩
noncomputable def itA (e:Nat) (z:Nd):List Nd→List Wk
  | []=>[.put z,.met e]
  | p::r=>.opn e::.put p::.sht e::itA e z r
theorem itA_1 {e z}:itA e z ([])=[.put z,.met e]:=rfl
theorem itA_2 {e z p r}:itA e z (p::r)=.opn e::.put p::.sht e::itA e z r:=rfl
theorem itA_eq (e:Nat) (z:Nd):∀(ps:List Nd) (Y:List V),(ps.map nV).foldl (chcT e) Y++[putV (nV z),metV e] = Y++(itA e z ps).map wkV
  | [],Y=>rfl
  | p::r,Y=>by rw [List.map_cons,List.foldl_cons,itA_eq e z r,chcT,List.append_assoc]; rfl
theorem patch_app (n:Nat) (Y:List V):∀(E:List Nat) (X:List V),(∀ p∈E,p<X.length)→patch n E (X++Y)=patch n E X++Y
  | [],X,_=>rfl
  | p::r,X,h=>by
    show patch n r ((X++Y).set p (jmpV n))=patch n r (X.set p (jmpV n))++Y
    rw [List.set_append_left _ _ (h p (.head _)),patch_app n Y r _ fun q hq=>by rw [List.length_set]; exact h q (.tail _ hq)]
theorem patch_len (n:Nat):∀(E:List Nat) (X:List V),(patch n E X).length=X.length
  | [],X=>rfl
  | p::r,X=>(patch_len n r _).trans (List.length_set ..)
theorem patch_snoc (n p:Nat) (E:List Nat) (X:List V):patch n (E++[p]) X=(patch n E X).set p (jmpV n):=by rw [patch,List.foldl_append]; rfl
theorem set_mid {α:Type} (A B:List α) (x y:α):(A++x::B).set A.length y=A++y::B:=by rw [List.set_append_right _ _ (Nat.le_refl _),Nat.sub_self]; rfl
theorem alt_run {g:Nd→Nat→List Od} (hgl:∀ n b,(g n b).length≤6 * sz n) {e e1:Nat} {z:Nd} (hz:NodeOk own (d+2) co ol wl n0 g z):∀(ps:List Nd),(∀ n∈ps,NodeOk own (d+2) co ol wl n0 g n)→∀ {X:List V} {W:List Wk} {H:Hp} {y y2:Option V} {v:V} {E:List Nat},PS co ol wl X (W++(itA e z ps).reverse) H→Al e e1 v E ol wl H0 H→X.length+wtS W+wtS (itA e z ps)<100000→E.length+ps.length<1000→(∀ p∈E,p<X.length) →
    Go own (d+2) co ol wl n0 (patch (endA g z ps X.length) E X++(cpA g (endA g z ps X.length) z ps X.length).map oV) W (wtS (itA e z ps)) y y2 H0 H
  | [],hg,X,W,H,y,y2,v,E,t,al,hb,hE,hp=>by
    have t':PS co ol wl X (W++[.met e]++[.put z]) H:=by rw [List.append_assoc]; exact t
    have hw:wtS (itA e z [])=6 * sz z+1:=rfl
    rw [hw] at hb
    obtain⟨a,b,H1,t1,f1,l1⟩:=hz (y:=y) (y2:=y2) t' (by rw [wtS_app]; show X.length+(wtS W+1)+_<_; exact Nat.not_le.mp (lin [_,_,_] (.c 1 (.a (.a (.a (.v 0) (.v 1)) (.a (.m 6 (.v 2)) (.n 1))) (.n 1)) (.n 100000) (.c 1 (.n 100000) (.a (.a (.v 0) (.a (.v 1) (.n 1))) (.m 6 (.v 2))) .z)) rfl hb))
    have hx:(X++(g z X.length).map oV).length=X.length+(g z X.length).length:=by rw [List.length_append,List.length_map]
    obtain⟨a2,b2,H2,t2,f2,l2⟩:=st_met (own:=own) (d:=d+1) (n0:=n0) (y:=a) (y2:=b) t1 (al.fxs f1) (by exact Nat.not_le.mp (lin [_,_] (.c 1 (.a (.a (.v 0) (.v 1)) (.n 1)) (.n 1000) (.c 1 (.n 1000) (.v 0) .z)) rfl hE)) (fun p h=>Nat.lt_of_lt_of_le (hp p h) (by rw [hx]; exact Nat.le_add_right _ _))
    rw [patch_app _ _ _ _ hp,hx] at t2
    exact⟨_,_,H2,t2,f2,l1.trans l2⟩
  | p::r,hg,X,W,H,y,y2,v,E,t,al,hb,hE,hp=>by
    have t':PS co ol wl X (W++(itA e z r).reverse++[.sht e]++[.put p]++[.opn e]) H:=by
      rw [itA_2,List.reverse_cons,List.reverse_cons,List.reverse_cons] at t
      simp only [List.append_assoc] at t ⊢
      exact t
    have hw:wtS (itA e z (p::r))=2+(6 * sz p+(2+wtS (itA e z r))):=rfl
    rw [hw] at hb ⊢
    have hWl:=wtS_len (W++(itA e z r).reverse)
    rw [wtS_app,wtS_rev] at hWl
    rw [List.length_cons] at hE
    obtain⟨a,b,H1,t1,al1,l1⟩:=st_opn (own:=own) (d:=d) (n0:=n0) (y:=y) (y2:=y2) t' al (lt_lim (by exact Nat.not_le.mp (lin [_,_,_,_] (.c 1 (.a (.a (.a (.v 0) (.v 1)) (.a (.n 2) (.a (.m 6 (.v 2)) (.a (.n 2) (.v 3))))) (.n 1)) (.n 100000) (.c 1 (.n 100000) (.v 0) .z)) rfl hb)))
    have hx1:(X++[V.none]).length=X.length+1:=by rw [List.length_append]; rfl
    obtain⟨a2,b2,H2,t2,f2,l2⟩:=hg p (.head _) (y:=some a) (y2:=some b) t1 (by rw [hx1,wtS_app,wtS_app,wtS_rev]; show _+(_+_+2)+_<_; exact Nat.not_le.mp (lin [_,_,_,_] (.c 1 (.a (.a (.a (.v 0) (.v 1)) (.a (.n 2) (.a (.m 6 (.v 2)) (.a (.n 2) (.v 3))))) (.n 1)) (.n 100000) (.c 1 (.n 100000) (.a (.a (.a (.v 0) (.n 1)) (.a (.a (.v 1) (.v 3)) (.n 2))) (.m 6 (.v 2))) .z)) rfl hb))
    rw [hx1] at t2
    have hl:=hgl p (X.length+1)
    have hx2:(X++[V.none]++(g p (X.length+1)).map oV).length=X.length+1+(g p (X.length+1)).length:=by rw [List.length_append,hx1,List.length_map]
    obtain⟨a3,b3,H3,t3,al3,l3⟩:=st_sht (own:=own) (d:=d) (n0:=n0) (y:=a2) (y2:=b2) t2 (al1.fxs f2) (lt_lim (by rw [hx2]; exact Nat.not_le.mp (lin [_,_,_,_,_] (.c 1 (.a (.a (.a (.v 0) (.v 1)) (.a (.n 2) (.a (.m 6 (.v 2)) (.a (.n 2) (.v 3))))) (.n 1)) (.n 100000) (.c 1 (.v 4) (.m 6 (.v 2)) (.c 1 (.n 100000) (.a (.a (.v 0) (.n 1)) (.v 4)) .z))) rfl hb hl))) (lt_lim (by exact Nat.not_le.mp (lin [_,_] (.c 1 (.a (.a (.v 0) (.a (.v 1) (.n 1))) (.n 1)) (.n 1000) (.c 1 (.n 100000) (.v 0) .z)) rfl hE))) (by rw [hx2]; exact Nat.not_le.mp (lin [_,_] (.c 1 (.a (.a (.v 0) (.n 1)) (.v 1)) (.v 0) .z) rfl))
    have e3:(X++[V.none]++(g p (X.length+1)).map oV++[V.none]).set X.length (oV (.split ((X++[V.none]++(g p (X.length+1)).map oV).length+1)))=X++(oV (.split (X.length+(g p (X.length+1)).length+2))::(g p (X.length+1)).map oV++[V.none]):=by
      rw [hx2,show X.length+1+(g p (X.length+1)).length+1=X.length+(g p (X.length+1)).length+2 by exact lnq [_,_] (.a (.a (.a (.v 0) (.n 1)) (.v 1)) (.n 1)) (.a (.a (.v 0) (.v 1)) (.n 2)) rfl]
      rw [List.append_assoc,List.append_assoc]
      exact set_mid _ _ _ _
    rw [e3] at t3
    rw [hx2] at al3
    have hx3:(X++(oV (.split (X.length+(g p (X.length+1)).length+2))::(g p (X.length+1)).map oV++[V.none])).length=X.length+(g p (X.length+1)).length+2:=by
      rw [List.length_append,List.cons_append,List.length_cons,List.length_append,List.length_map]
      show _+(_+1+1)=_; exact lnq [_,_] (.a (.v 0) (.a (.a (.v 1) (.n 1)) (.n 1))) (.a (.a (.v 0) (.v 1)) (.n 2)) rfl
    obtain⟨a4,b4,H4,t4,f4,l4⟩:=alt_run hgl hz r (fun n h=>hg n (.tail _ h)) (y:=some a3) (y2:=some b3) t3 al3 (by rw [hx3]; exact Nat.not_le.mp (lin [_,_,_,_,_] (.c 1 (.a (.a (.a (.v 0) (.v 1)) (.a (.n 2) (.a (.m 6 (.v 2)) (.a (.n 2) (.v 3))))) (.n 1)) (.n 100000) (.c 1 (.v 4) (.m 6 (.v 2)) (.c 1 (.n 100000) (.a (.a (.a (.a (.v 0) (.v 4)) (.n 2)) (.v 1)) (.v 3)) .z))) rfl hb hl)) (by rw [List.length_append]; show _+1+_<_; exact Nat.not_le.mp (lin [_,_] (.c 1 (.a (.a (.v 0) (.a (.v 1) (.n 1))) (.n 1)) (.n 1000) (.c 1 (.n 1000) (.a (.a (.v 0) (.n 1)) (.v 1)) .z)) rfl hE)) (fun q hq=>by
      rw [hx3]
      rcases List.mem_append.mp hq with hq | hq
      · have:=hp q hq; exact Nat.not_le.mp (lin [_,_,_] (.c 1 (.a (.v 0) (.n 1)) (.v 1) (.c 1 (.a (.a (.v 1) (.v 2)) (.n 2)) (.v 0) .z)) rfl this)
      · rw [List.mem_singleton.mp hq]; exact Nat.not_le.mp (lin [_,_] (.c 1 (.a (.a (.v 0) (.v 1)) (.n 2)) (.a (.a (.v 0) (.n 1)) (.v 1)) .z) rfl))
    rw [hx3] at t4
    have ee:endA g z (p::r) X.length=endA g z r (X.length+(g p (X.length+1)).length+2):=by
      rw [endA,endA,cpA_2,List.length_cons,List.length_append,List.length_cons]; exact lnq [_,_,_] (.a (.v 0) (.a (.a (.v 1) (.a (.v 2) (.n 1))) (.n 1))) (.a (.a (.a (.v 0) (.v 1)) (.n 2)) (.v 2)) rfl
    refine⟨a4,b4,H4,?_,f4,((l1.trans (l2.trans (l3.trans l4)))).mono (by exact Nat.not_lt.mp (lin [_,_] (.c 1 (.a (.a (.n 2) (.a (.m 6 (.v 0)) (.a (.n 2) (.v 1)))) (.n 1)) (.a (.n 1) (.a (.m 6 (.v 0)) (.a (.n 1) (.v 1)))) .z) rfl))⟩
    rw [ee]
    generalize endA g z r (X.length+(g p (X.length+1)).length+2)=N at t4 ⊢
    have e4:patch N (E++[X.length+1+(g p (X.length+1)).length]) (X++(oV (.split (X.length+(g p (X.length+1)).length+2))::(g p (X.length+1)).map oV++[V.none]))=patch N E X++(oV (.split (X.length+(g p (X.length+1)).length+2))::(g p (X.length+1)).map oV++[jmpV N]):=by
      rw [patch_snoc,patch_app _ _ _ _ hp,← List.append_assoc,← List.append_assoc]
      have:X.length+1+(g p (X.length+1)).length=(patch N E X++oV (.split (X.length+(g p (X.length+1)).length+2))::(g p (X.length+1)).map oV).length:=by
        rw [List.length_append,patch_len,List.length_cons,List.length_map]; exact lnq [_,_] (.a (.a (.v 0) (.n 1)) (.v 1)) (.a (.v 0) (.a (.v 1) (.n 1))) rfl
      rw [this]
      exact set_mid _ _ _ _
    rw [e4,List.append_assoc] at t4
    rw [cpA_2,List.map_cons,List.map_append,List.map_cons]
    have e5:∀(s j:V) (C D:List V),s::C++[j]++D=s::(C++j::D):=fun s j C D=>by rw [List.append_assoc]; rfl
    rw [e5] at t4
    exact t4
end
noncomputable def cp:Nat→Nd→Nat→List Od
  | 0,_,_=>[]
  | F+1,.ch t,b=>[.one t]
  | F+1,.lt n q,b=>.mark::(cp F n (b+1)++[.name q])
  | F+1,.ca x y,b=>cpS (cp F) (joinT (rowK true (.ca x y))) b
  | F+1,.al x y,b=>cpA (cp F) (endA (cp F) ((rowK false (.al x y)).getLastD (.ch [])) (rowK false (.al x y)).dropLast b) ((rowK false (.al x y)).getLastD (.ch [])) (rowK false (.al x y)).dropLast b
theorem cp_1 {zu1 zu2}:cp 0 zu1 zu2=[]:=rfl
theorem cp_2 {F t b}:cp (F+1) (.ch t) b=[.one t]:=rfl
theorem cp_3 {F n q b}:cp (F+1) (.lt n q) b=.mark::(cp F n (b+1)++[.name q]):=rfl
theorem cp_4 {F x y b}:cp (F+1) (.ca x y) b=cpS (cp F) (joinT (rowK true (.ca x y))) b:=rfl
theorem cp_5 {F x y b}:cp (F+1) (.al x y) b=cpA (cp F) (endA (cp F) ((rowK false (.al x y)).getLastD (.ch [])) (rowK false (.al x y)).dropLast b) ((rowK false (.al x y)).getLastD (.ch [])) (rowK false (.al x y)).dropLast b:=rfl
noncomputable def szl:List Nd→Nat
  | []=>0
  | n::r=>sz n+szl r
theorem szl_1:szl ([])=0:=rfl
theorem szl_2 {n r}:szl (n::r)=sz n+szl r:=rfl
theorem szl_app:∀(a b:List Nd),szl (a++b)=szl a+szl b
  | [],b=>(Nat.zero_add _).symm
  | k::r,b=>by rw [List.cons_append,szl_2,szl_2,szl_app r b,Nat.add_assoc]
theorem szl_rev:∀ a:List Nd,szl a.reverse=szl a
  | []=>rfl
  | k::r=>by rw [List.reverse_cons,szl_app,szl_rev r,szl_2,szl_1,szl_2,Nat.add_zero,Nat.add_comm]
theorem rowK_szl (k:Bool):∀ n,szl (rowK k n)+(rowK k n).length=sz n+1
  | .ch _=>rfl
  | .lt n q=>rfl
  | .al a b=>by
    have ha:=rowK_szl k a
    have hb:=rowK_szl k b
    cases k
    · show szl (_++_)+(_++_:List Nd).length=sz a+sz b+1+1
      rw [szl_app,List.length_append]; exact Nat.le_antisymm (Nat.not_lt.mp (lin [_,_,_,_,_,_] (.c 1 (.a (.v 0) (.v 1)) (.a (.v 2) (.n 1)) (.c 1 (.a (.v 3) (.v 4)) (.a (.v 5) (.n 1)) (.c 1 (.a (.a (.a (.a (.v 2) (.v 5)) (.n 1)) (.n 1)) (.n 1)) (.a (.a (.v 0) (.v 3)) (.a (.v 1) (.v 4))) .z))) rfl (Nat.le_of_eq ha) (Nat.le_of_eq hb))) (Nat.not_lt.mp (lin [_,_,_,_,_,_] (.c 1 (.a (.v 0) (.n 1)) (.a (.v 1) (.v 2)) (.c 1 (.a (.v 3) (.n 1)) (.a (.v 4) (.v 5)) (.c 1 (.a (.a (.a (.v 1) (.v 4)) (.a (.v 2) (.v 5))) (.n 1)) (.a (.a (.a (.v 0) (.v 3)) (.n 1)) (.n 1)) .z))) rfl (Nat.le_of_eq (Eq.symm ha)) (Nat.le_of_eq (Eq.symm hb))))
    · rfl
  | .ca a b=>by
    have ha:=rowK_szl k a
    have hb:=rowK_szl k b
    cases k
    · rfl
    · show szl (_++_)+(_++_:List Nd).length=sz a+sz b+1+1
      rw [szl_app,List.length_append]; exact Nat.le_antisymm (Nat.not_lt.mp (lin [_,_,_,_,_,_] (.c 1 (.a (.v 0) (.v 1)) (.a (.v 2) (.n 1)) (.c 1 (.a (.v 3) (.v 4)) (.a (.v 5) (.n 1)) (.c 1 (.a (.a (.a (.a (.v 2) (.v 5)) (.n 1)) (.n 1)) (.n 1)) (.a (.a (.v 0) (.v 3)) (.a (.v 1) (.v 4))) .z))) rfl (Nat.le_of_eq ha) (Nat.le_of_eq hb))) (Nat.not_lt.mp (lin [_,_,_,_,_,_] (.c 1 (.a (.v 0) (.n 1)) (.a (.v 1) (.v 2)) (.c 1 (.a (.v 3) (.n 1)) (.a (.v 4) (.v 5)) (.c 1 (.a (.a (.a (.v 1) (.v 4)) (.a (.v 2) (.v 5))) (.n 1)) (.a (.a (.a (.v 0) (.v 3)) (.n 1)) (.n 1)) .z))) rfl (Nat.le_of_eq (Eq.symm ha)) (Nat.le_of_eq (Eq.symm hb))))
theorem rowK_pos (k:Bool):∀ n,1≤(rowK k n).length
  | .ch _=>Nat.le_refl _
  | .lt n q=>Nat.le_refl _
  | .al a b=>by
    have ha:=rowK_pos k a
    cases k
    · show 1≤(_++_:List Nd).length
      rw [List.length_append]; exact Nat.not_lt.mp (lin [_,_] (.c 1 (.n 1) (.v 0) (.c 1 (.a (.a (.v 0) (.v 1)) (.n 1)) (.n 1) .z)) rfl ha)
    · exact Nat.le_refl _
  | .ca a b=>by
    have ha:=rowK_pos k a
    cases k
    · exact Nat.le_refl _
    · show 1≤(_++_:List Nd).length
      rw [List.length_append]; exact Nat.not_lt.mp (lin [_,_] (.c 1 (.n 1) (.v 0) (.c 1 (.a (.a (.v 0) (.v 1)) (.n 1)) (.n 1) .z)) rfl ha)
theorem rowK_two_ca (a b:Nd):2≤(rowK true (.ca a b)).length:=by
  have ha:=rowK_pos true a
  have hb:=rowK_pos true b
  show 2≤(_++_:List Nd).length
  rw [List.length_append]; exact Nat.not_lt.mp (lin [_,_] (.c 1 (.n 1) (.v 0) (.c 1 (.n 1) (.v 1) (.c 1 (.a (.a (.v 0) (.v 1)) (.n 1)) (.n 2) .z))) rfl ha hb)
theorem rowK_two_al (a b:Nd):2≤(rowK false (.al a b)).length:=by
  have ha:=rowK_pos false a
  have hb:=rowK_pos false b
  show 2≤(_++_:List Nd).length
  rw [List.length_append]; exact Nat.not_lt.mp (lin [_,_] (.c 1 (.n 1) (.v 0) (.c 1 (.n 1) (.v 1) (.c 1 (.a (.a (.v 0) (.v 1)) (.n 1)) (.n 2) .z))) rfl ha hb)
theorem jR_szl (r:List Nd) (n:Nd):szl (jR r n)≤szl r+sz n:=by
  cases n with
  | ch t=>cases t with
    | nil=>exact Nat.le_add_right _ _
    | cons c t=>cases r with
      | nil=>exact Nat.le_refl _
      | cons z r=>cases z with
        | ch u=>exact Nat.le_add_right _ _
        | _=>exact Nat.le_of_eq (Nat.add_comm _ _)
  | _=>exact Nat.le_of_eq (Nat.add_comm _ _)
theorem foldl_jR_szl:∀(l r:List Nd),szl (l.foldl jR r)≤szl r+szl l
  | [],r=>Nat.le_refl _
  | n::l,r=>by
    have h1:=foldl_jR_szl l (jR r n)
    have h2:=jR_szl r n
    rw [List.foldl_cons,szl_2]; exact Nat.not_lt.mp (lin [_,_,_,_,_] (.c 1 (.v 0) (.a (.v 1) (.v 2)) (.c 1 (.v 1) (.a (.v 3) (.v 4)) (.c 1 (.a (.a (.v 3) (.a (.v 4) (.v 2))) (.n 1)) (.v 0) .z))) rfl h1 h2)
theorem joinT_szl (l:List Nd):szl (joinT l)≤szl l:=by
  rw [joinT,szl_rev]
  exact Nat.le_trans (foldl_jR_szl l []) (Nat.le_of_eq (Nat.zero_add _))
theorem wt_puts:∀ ps:List Nd,wtS (ps.map Wk.put)=6 * szl ps
  | []=>rfl
  | n::r=>by rw [List.map_cons,wtS_2,wt_puts r,szl_2,Nat.mul_add]; rfl
theorem wt_itA (e:Nat) (z:Nd):∀ ps:List Nd,wtS (itA e z ps)=6 * szl ps+4 * ps.length+6 * sz z+1
  | []=>by show 6 * sz z+1=0+0+_+1; exact lnq [_] (.a (.m 6 (.v 0)) (.n 1)) (.a (.a (.a (.n 0) (.n 0)) (.m 6 (.v 0))) (.n 1)) rfl
  | n::r=>by
    show 2+(6 * sz n+(2+wtS (itA e z r)))=6 * (sz n+szl r)+4 * (r.length+1)+6 * sz z+1
    rw [wt_itA e z r]; exact lnq [_,_,_,_] (.a (.n 2) (.a (.m 6 (.v 0)) (.a (.n 2) (.a (.a (.a (.m 6 (.v 1)) (.m 4 (.v 2))) (.m 6 (.v 3))) (.n 1))))) (.a (.a (.a (.m 6 (.a (.v 0) (.v 1))) (.m 4 (.a (.v 2) (.n 1)))) (.m 6 (.v 3))) (.n 1)) rfl
theorem cpS_len {g:Nd→Nat→List Od} (hgl:∀ n b,(g n b).length≤6 * sz n):∀(ps:List Nd) (b:Nat),(cpS g ps b).length≤6 * szl ps
  | [],b=>Nat.le_refl _
  | n::r,b=>by
    have h1:=hgl n b
    have h2:=cpS_len hgl r (b+(g n b).length)
    rw [cpS_2,List.length_append,szl_2]; exact Nat.not_lt.mp (lin [_,_,_,_] (.c 1 (.v 0) (.m 6 (.v 1)) (.c 1 (.v 2) (.m 6 (.v 3)) (.c 1 (.a (.m 6 (.a (.v 1) (.v 3))) (.n 1)) (.a (.v 0) (.v 2)) .z))) rfl h1 h2)
theorem cpA_le {g:Nd→Nat→List Od} (hgl:∀ n b,(g n b).length≤6 * sz n) (e:Nat) (z:Nd):∀(ps:List Nd) (b:Nat),(cpA g e z ps b).length≤6 * szl ps+2 * ps.length+6 * sz z
  | [],b=>by have:=hgl z b; show(g z b).length≤0+0+_; exact Nat.not_lt.mp (lin [_,_] (.c 1 (.v 0) (.m 6 (.v 1)) (.c 1 (.a (.a (.a (.n 0) (.n 0)) (.m 6 (.v 1))) (.n 1)) (.v 0) .z)) rfl this)
  | n::r,b=>by
    have h1:=hgl n (b+1)
    have h2:=cpA_le hgl e z r (b+(g n (b+1)).length+2)
    rw [cpA_2,List.length_cons,List.length_append,List.length_cons,szl_2,List.length_cons]; exact Nat.not_lt.mp (lin [_,_,_,_,_,_] (.c 1 (.v 0) (.m 6 (.v 1)) (.c 1 (.v 2) (.a (.a (.m 6 (.v 3)) (.m 2 (.v 4))) (.m 6 (.v 5))) (.c 1 (.a (.a (.a (.m 6 (.a (.v 1) (.v 3))) (.m 2 (.a (.v 4) (.n 1)))) (.m 6 (.v 5))) (.n 1)) (.a (.a (.v 0) (.a (.v 2) (.n 1))) (.n 1)) .z))) rfl h1 h2)
theorem snoc_of {l:List Nd} (h:1≤l.length) (x:Nd):l=l.dropLast++[l.getLastD x]:=by
  cases l with
  | nil=>cases h
  | cons a r=>rw [List.getLastD_cons,← List.getLast_eq_getLastD (List.cons_ne_nil a r)]; exact(List.dropLast_concat_getLast _).symm
theorem al_szl (a b:Nd):6 * szl (rowK false (.al a b)).dropLast+4 * (rowK false (.al a b)).dropLast.length+6 * sz ((rowK false (.al a b)).getLastD (.ch []))+2≤6 * sz (.al a b):=by
  have h2:=rowK_two_al a b
  have h1:=rowK_szl false (.al a b)
  have h3:=snoc_of (Nat.le_of_succ_le h2) (.ch [])
  rw [h3,szl_app,List.length_append] at h1
  rw [h3,List.length_append] at h2
  have h4:∀ z,szl [z] = sz z:=fun z=>rfl
  rw [h4] at h1
  have h5:∀ z:Nd,[z].length=1:=fun z=>rfl
  rw [h5] at h1 h2
  exact Nat.not_lt.mp (lin [_,_,_,_] (.c 2 (.n 2) (.a (.v 0) (.n 1)) (.c 6 (.a (.a (.v 1) (.v 2)) (.a (.v 0) (.n 1))) (.a (.v 3) (.n 1)) (.c 1 (.a (.m 6 (.v 3)) (.n 1)) (.a (.a (.a (.m 6 (.v 1)) (.m 4 (.v 0))) (.m 6 (.v 2))) (.n 2)) .z))) rfl h2 (Nat.le_of_eq h1))
theorem cp_len:∀(F:Nat) (n:Nd) (b:Nat),(cp F n b).length≤6 * sz n
  | 0,n,b=>Nat.zero_le _
  | F+1,.ch t,b=>by show 1≤6 * 1; exact Nat.not_lt.mp (lin [] (.c 1 (.a (.m 6 (.n 1)) (.n 1)) (.n 1) .z) rfl)
  | F+1,.lt n q,b=>by
    have:=cp_len F n (b+1)
    rw [cp_3,List.length_cons,List.length_append]
    show _+1+1≤6 * (sz n+1)
    exact Nat.not_lt.mp (lin [_,_] (.c 1 (.v 0) (.m 6 (.v 1)) (.c 1 (.a (.m 6 (.a (.v 1) (.n 1))) (.n 1)) (.a (.a (.v 0) (.n 1)) (.n 1)) .z)) rfl this)
  | F+1,.ca x y,b=>by
    have h:=cpS_len (cp_len F) (joinT (rowK true (.ca x y))) b
    have h1:=rowK_szl true (.ca x y)
    have h2:=rowK_pos true (.ca x y)
    have h3:=joinT_szl (rowK true (.ca x y))
    rw [cp_4]; exact Nat.not_lt.mp (lin [_,_,_,_,_] (.c 1 (.v 0) (.m 6 (.v 1)) (.c 6 (.a (.v 2) (.v 3)) (.a (.v 4) (.n 1)) (.c 6 (.n 1) (.v 3) (.c 6 (.v 1) (.v 2) (.c 1 (.a (.m 6 (.v 4)) (.n 1)) (.v 0) .z))))) rfl h (Nat.le_of_eq h1) h2 h3)
  | F+1,.al x y,b=>by
    have h:=cpA_le (cp_len F) (endA (cp F) ((rowK false (.al x y)).getLastD (.ch [])) (rowK false (.al x y)).dropLast b) ((rowK false (.al x y)).getLastD (.ch [])) (rowK false (.al x y)).dropLast b
    have h1:=al_szl x y
    rw [cp_5]; exact Nat.not_lt.mp (lin [_,_,_,_,_] (.c 1 (.v 0) (.a (.a (.m 6 (.v 1)) (.m 2 (.v 2))) (.m 6 (.v 3))) (.c 1 (.a (.a (.a (.m 6 (.v 1)) (.m 4 (.v 2))) (.m 6 (.v 3))) (.n 2)) (.m 6 (.v 4)) (.c 1 (.a (.m 6 (.v 4)) (.n 1)) (.v 0) .z))) rfl h h1)
noncomputable def sm:Nd→Prop
  | .ch t=>t.length≤2∧t.all (· < 128)=true
  | .lt n _=>sm n
  | .al a b=>sm a∧sm b
  | .ca a b=>sm a∧sm b
theorem rowK_mem (k:Bool):∀(n p:Nd),p∈rowK k n→sz p≤sz n∧(sm n→sm p)
  | .ch _,p,h=>by rw [List.mem_singleton.mp h]; exact⟨Nat.le_refl _,id⟩
  | .lt n q,p,h=>by rw [List.mem_singleton.mp h]; exact⟨Nat.le_refl _,id⟩
  | .al a b,p,h=>by
    cases k
    · rcases List.mem_append.mp h with h | h
      · obtain⟨h1,h2⟩:=rowK_mem false a p h
        exact⟨by rw [sz_3]; exact Nat.not_lt.mp (lin [_,_,_] (.c 1 (.v 0) (.v 1) (.c 1 (.a (.a (.a (.v 1) (.v 2)) (.n 1)) (.n 1)) (.v 0) .z)) rfl h1),fun s=>h2 s.1⟩
      · obtain⟨h1,h2⟩:=rowK_mem false b p h
        exact⟨by rw [sz_3]; exact Nat.not_lt.mp (lin [_,_,_] (.c 1 (.v 0) (.v 1) (.c 1 (.a (.a (.a (.v 2) (.v 1)) (.n 1)) (.n 1)) (.v 0) .z)) rfl h1),fun s=>h2 s.2⟩
    · rw [List.mem_singleton.mp h]; exact⟨Nat.le_refl _,id⟩
  | .ca a b,p,h=>by
    cases k
    · rw [List.mem_singleton.mp h]; exact⟨Nat.le_refl _,id⟩
    · rcases List.mem_append.mp h with h | h
      · obtain⟨h1,h2⟩:=rowK_mem true a p h
        exact⟨by rw [sz_4]; exact Nat.not_lt.mp (lin [_,_,_] (.c 1 (.v 0) (.v 1) (.c 1 (.a (.a (.a (.v 1) (.v 2)) (.n 1)) (.n 1)) (.v 0) .z)) rfl h1),fun s=>h2 s.1⟩
      · obtain⟨h1,h2⟩:=rowK_mem true b p h
        exact⟨by rw [sz_4]; exact Nat.not_lt.mp (lin [_,_,_] (.c 1 (.v 0) (.v 1) (.c 1 (.a (.a (.a (.v 2) (.v 1)) (.n 1)) (.n 1)) (.v 0) .z)) rfl h1),fun s=>h2 s.2⟩
theorem row_ca_lt {a b p:Nd} (h:p∈rowK true (.ca a b)):sz p<sz (.ca a b):=by
  have:=fun h=>(rowK_mem true a p h).1
  have:=fun h=>(rowK_mem true b p h).1
  rw [sz_4]
  rcases List.mem_append.mp (show p∈rowK true a++rowK true b from h) with h | h
  · have:=(rowK_mem true a p h).1; exact Nat.not_le.mp (lin [_,_,_] (.c 1 (.v 0) (.v 1) (.c 1 (.a (.a (.v 1) (.v 2)) (.n 1)) (.v 0) .z)) rfl this)
  · have:=(rowK_mem true b p h).1; exact Nat.not_le.mp (lin [_,_,_] (.c 1 (.v 0) (.v 1) (.c 1 (.a (.a (.v 2) (.v 1)) (.n 1)) (.v 0) .z)) rfl this)
theorem row_al_lt {a b p:Nd} (h:p∈rowK false (.al a b)):sz p<sz (.al a b):=by
  rw [sz_3]
  rcases List.mem_append.mp (show p∈rowK false a++rowK false b from h) with h | h
  · have:=(rowK_mem false a p h).1; exact Nat.not_le.mp (lin [_,_,_] (.c 1 (.v 0) (.v 1) (.c 1 (.a (.a (.v 1) (.v 2)) (.n 1)) (.v 0) .z)) rfl this)
  · have:=(rowK_mem false b p h).1; exact Nat.not_le.mp (lin [_,_,_] (.c 1 (.v 0) (.v 1) (.c 1 (.a (.a (.v 2) (.v 1)) (.n 1)) (.v 0) .z)) rfl this)
theorem txl_le:∀ l:List Nd,(∀ p∈l,sm p)→txl l≤2 * l.length
  | [],_=>Nat.le_refl _
  | n::r,h=>by
    have h1:tx n≤2:=by
      have:=h n (.head _)
      cases n with
      | ch t=>exact this.1
      | _=>exact Nat.zero_le _
    have h2:=txl_le r fun p hp=>h p (.tail _ hp)
    rw [txl_2,List.length_cons]; exact Nat.not_lt.mp (lin [_,_,_] (.c 1 (.v 0) (.n 2) (.c 1 (.v 1) (.m 2 (.v 2)) (.c 1 (.a (.m 2 (.a (.v 2) (.n 1))) (.n 1)) (.a (.v 0) (.v 1)) .z))) rfl h1 h2)
theorem jR_mem {r:List Nd} {n p:Nd} (h:p∈jR r n):p∈r∨p=n∨isCh p=true:=by
  cases n with
  | ch t=>cases t with
    | nil=>exact .inl h
    | cons c t=>cases r with
      | nil=>exact .inr (.inl (List.mem_singleton.mp h))
      | cons z r=>cases z with
        | ch u=>exact(List.mem_cons.mp h).elim (fun h=>.inr (.inr (by rw [h]; rfl))) fun h=>.inl (.tail _ h)
        | _=>exact(List.mem_cons.mp h).elim (fun h=>.inr (.inl h)) .inl
  | _=>exact(List.mem_cons.mp h).elim (fun h=>.inr (.inl h)) .inl
theorem joinT_mem {l:List Nd} {p:Nd} (h:p∈joinT l):p∈l∨isCh p=true:=by
  have:∀(l r:List Nd),p∈l.foldl jR r→p∈r∨p∈l∨isCh p=true:=fun l=>by
    induction l with
    | nil=>intro r h; exact .inl h
    | cons n l ih =>
      intro r h
      rcases ih _ h with h | h | h
      · rcases jR_mem h with h | h | h
        · exact .inl h
        · rw [h]; exact .inr (.inl (.head _))
        · exact .inr (.inr h)
      · exact .inr (.inl (.tail _ h))
      · exact .inr (.inr h)
  rcases this l [] (List.mem_reverse.mp h) with h | h
  · cases h
  · exact h
theorem sz_ch {p:Nd} (h:isCh p=true):sz p=1:=by cases p <;> first | rfl | cases h
theorem len_sa {H y:Hp} {i:Nat} {x:O}:H.length≤(H.set i x++y).length:=by rw [List.length_append,List.length_set]; exact Nat.le_add_right _ _
section
variable {own:List FI} {d:Nat} {co ol wl:Nat} {n0:V}
theorem node_ok:∀(F:Nat) (n:Nd),sz n≤F→sz n<1000→(isCh n=true∨sm n)→NodeOk own (d+3) co ol wl n0 (cp F) n
  | 0,n,h,_,_=>absurd (sz_pos n) (by exact lin [_] (.c 1 (.v 0) (.n 0) (.c 1 (.n 1) (.v 0) .z)) rfl h)
  | F+1,.ch s,h,h1,h2=>fun X W H y y2 t hb=>by
    have hs:6 * sz (.ch s)=6:=rfl
    have hW:=wtS_len W
    obtain⟨a,b,H3,t3,f3,g3,l3,lp⟩:=st_put (it:=[]) (n0:=n0) (y:=y) (y2:=y2) t (begun_ch (own:=own) (d:=d+1) (set_off t.n2 t.hco) (set_off t.ne.symm t.hol) t.n1 (lt_lim (by exact Nat.not_le.mp (lin [_,_,_] (.c 1 (.a (.a (.a (.v 0) (.v 1)) (.m 6 (.v 2))) (.n 1)) (.n 100000) (.c 1 (.n 6) (.m 6 (.v 2)) (.c 1 (.n 100000) (.v 0) .z))) rfl hb (Nat.le_of_eq (Eq.symm hs)))))) len_sa (app_in (set_at (set_off t.ne.symm t.hol))) app_new (fun i x h1 h=>app_in (set_off h1.symm h)) (lt_lim (by show W.length+0<_; exact Nat.not_le.mp (lin [_,_,_,_] (.c 1 (.a (.a (.a (.v 0) (.v 1)) (.m 6 (.v 2))) (.n 1)) (.n 100000) (.c 1 (.n 6) (.m 6 (.v 2)) (.c 1 (.v 3) (.v 1) (.c 1 (.n 100000) (.a (.v 3) (.n 0)) .z)))) rfl hb (Nat.le_of_eq (Eq.symm hs)) hW)))
    rw [List.reverse_nil,List.append_nil] at t3
    exact⟨_,_,H3,t3,f3,lp.mono (by exact Nat.not_lt.mp (lin [_] (.c 1 (.n 6) (.m 6 (.v 0)) (.c 1 (.a (.m 6 (.v 0)) (.n 1)) (.n 1) .z)) rfl (Nat.le_of_eq (Eq.symm hs))))⟩
  | F+1,.lt n q,h,h1,h2=>fun X W H y y2 t hb=>by
    have hs:6 * sz (.lt n q)=6 * sz n+6:=Nat.mul_add _ _ _
    have hW:=wtS_len W
    rw [sz_2] at h h1
    obtain⟨a,b,H3,t3,f3,g3,l3,lp⟩:=st_put (it:=[.put n,.emit (.name q)]) (n0:=n0) (y:=y) (y2:=y2) t (begun_lt (own:=own) (d:=d+1) (set_off t.n2 t.hco) (set_off t.ne.symm t.hol) t.n1 (lt_lim (by exact Nat.not_le.mp (lin [_,_,_,_] (.c 1 (.a (.a (.a (.v 0) (.v 1)) (.m 6 (.v 2))) (.n 1)) (.n 100000) (.c 1 (.a (.m 6 (.v 3)) (.n 6)) (.m 6 (.v 2)) (.c 1 (.n 100000) (.v 0) .z))) rfl hb (Nat.le_of_eq (Eq.symm hs)))))) len_sa (app_in (set_at (set_off t.ne.symm t.hol))) app_new (fun i x h1 h=>app_in (set_off h1.symm h)) (lt_lim (by show W.length+2<_; exact Nat.not_le.mp (lin [_,_,_,_,_] (.c 1 (.a (.a (.a (.v 0) (.v 1)) (.m 6 (.v 2))) (.n 1)) (.n 100000) (.c 1 (.a (.m 6 (.v 3)) (.n 6)) (.m 6 (.v 2)) (.c 1 (.v 4) (.v 1) (.c 1 (.n 100000) (.a (.v 4) (.n 2)) .z)))) rfl hb (Nat.le_of_eq (Eq.symm hs)) hW)))
    have t3':PS co ol wl (X++[oV .mark]) (W++[.emit (.name q)]++[.put n]) H3:=by rw [List.append_assoc]; exact t3
    have hx:(X++[oV .mark]).length=X.length+1:=by rw [List.length_append]; rfl
    have hc:=cp_len F n (X.length+1)
    obtain⟨a4,b4,H4,t4,f4,lp4⟩:=node_ok F n (by exact Nat.not_lt.mp (lin [_,_] (.c 1 (.a (.v 0) (.n 1)) (.a (.v 1) (.n 1)) (.c 1 (.a (.v 1) (.n 1)) (.v 0) .z)) rfl h)) (by exact Nat.not_le.mp (lin [_] (.c 1 (.a (.a (.v 0) (.n 1)) (.n 1)) (.n 1000) (.c 1 (.n 1000) (.v 0) .z)) rfl h1)) (h2.elim (fun h=>by cases h) .inr) (y:=some a) (y2:=some b) t3' (by rw [hx,wtS_app]; show _+(_+2)+_<_; exact Nat.not_le.mp (lin [_,_,_,_] (.c 1 (.a (.a (.a (.v 0) (.v 1)) (.m 6 (.v 2))) (.n 1)) (.n 100000) (.c 1 (.a (.m 6 (.v 3)) (.n 6)) (.m 6 (.v 2)) (.c 1 (.n 100000) (.a (.a (.a (.v 0) (.n 1)) (.a (.v 1) (.n 2))) (.m 6 (.v 3))) .z))) rfl hb (Nat.le_of_eq (Eq.symm hs))))
    rw [hx] at t4
    obtain⟨a5,b5,H5,t5,f5,lp5⟩:=st_emit (own:=own) (d:=d+2) (n0:=n0) (y:=a4) (y2:=b4) t4 (lt_lim (by rw [List.length_append,hx,List.length_map]; exact Nat.not_le.mp (lin [_,_,_,_,_] (.c 1 (.a (.a (.a (.v 0) (.v 1)) (.m 6 (.v 2))) (.n 1)) (.n 100000) (.c 1 (.a (.m 6 (.v 3)) (.n 6)) (.m 6 (.v 2)) (.c 1 (.v 4) (.m 6 (.v 3)) (.c 1 (.n 100000) (.a (.a (.v 0) (.n 1)) (.v 4)) .z)))) rfl hb (Nat.le_of_eq (Eq.symm hs)) hc)))
    refine⟨_,_,H5,?_,(f3.trans f4).trans f5,((lp.trans lp4).trans lp5).mono (by exact Nat.not_lt.mp (lin [_,_] (.c 1 (.a (.m 6 (.v 0)) (.n 6)) (.m 6 (.v 1)) (.c 1 (.a (.m 6 (.v 1)) (.n 1)) (.a (.a (.n 1) (.m 6 (.v 0))) (.n 1)) .z)) rfl (Nat.le_of_eq (Eq.symm hs))))⟩
    rw [cp_3,List.map_cons,List.map_append]
    have e5:∀(X C:List V) (a b:V),X++[a]++C++[b] = X++a::(C++[b]):=fun X C a b=>by rw [List.append_assoc,List.append_assoc]; rfl
    rw [e5] at t5
    exact t5
  | F+1,.ca x y',h,h1,h2=>fun X W H y y2 t hb=>by
    have hW:=wtS_len W
    have r1:=rowK_szl true (.ca x y')
    have r2:=rowK_two_ca x y'
    have r3:=joinT_szl (rowK true (.ca x y'))
    have r4:=joinT_len (rowK true (.ca x y'))
    have h2':sm (.ca x y'):=h2.elim (fun h=>by cases h) id
    have r5:=txl_le (rowK true (.ca x y')) fun p hp=>(rowK_mem true _ p hp).2 h2'
    refine begun_ca_k (own:=own) (d:=d) (co:=co) (H:=H.set wl (.list (W.map wkV))) (a:=x) (b:=y') h1 (by exact Nat.not_le.mp (lin [_,_,_,_] (.c 2 (.a (.v 0) (.n 1)) (.n 1000) (.c 2 (.a (.v 1) (.v 2)) (.a (.v 0) (.n 1)) (.c 1 (.v 3) (.m 2 (.v 2)) (.c 1 (.n 100000) (.v 3) .z)))) rfl h1 (Nat.le_of_eq r1) r5)) fun r H2 e2 g2 hr=>?_
    obtain⟨a,b,H3,t3,f3,g3,l3,lp⟩:=st_put (it:=(joinT (rowK true (.ca x y'))).map Wk.put) (n0:=n0) (y:=y) (y2:=y2) t e2 g2.len (g2.at (set_off t.ne.symm t.hol)) (by rw [List.map_map]; exact hr) (fun i x h1 h=>g2.at h) (lt_lim (by rw [List.length_map]; exact Nat.not_le.mp (lin [_,_,_,_,_,_,_] (.c 1 (.a (.a (.a (.v 0) (.v 1)) (.m 6 (.v 2))) (.n 1)) (.n 100000) (.c 1 (.v 3) (.v 1) (.c 6 (.a (.v 4) (.v 5)) (.a (.v 2) (.n 1)) (.c 5 (.n 2) (.v 5) (.c 1 (.v 6) (.v 5) (.c 1 (.n 100000) (.a (.v 3) (.v 6)) .z)))))) rfl hb hW (Nat.le_of_eq r1) r2 r4)))
    obtain⟨a4,b4,H4,t4,f4,lp4⟩:=cat_run (own:=own) (d:=d+3) (n0:=n0) (g:=cp F) (cp_len F) (joinT (rowK true (.ca x y'))) (fun n hn=>by
      rcases joinT_mem hn with hn | hn
      · have:=row_ca_lt hn
        exact node_ok F n (by exact Nat.not_lt.mp (lin [_,_,_] (.c 1 (.v 0) (.a (.v 1) (.n 1)) (.c 1 (.a (.v 2) (.n 1)) (.v 0) (.c 1 (.a (.v 1) (.n 1)) (.v 2) .z))) rfl h this)) (by exact Nat.not_le.mp (lin [_,_] (.c 1 (.a (.v 0) (.n 1)) (.n 1000) (.c 1 (.a (.v 1) (.n 1)) (.v 0) (.c 1 (.n 1000) (.v 1) .z))) rfl h1 this)) (.inr ((rowK_mem true _ n hn).2 h2'))
      · have:=sz_ch hn
        have:=sz_pos x
        have h0:sz (.ca x y')=sz x+sz y'+1:=rfl
        exact node_ok F n (by omega) (by omega) (.inl hn)) (y:=some a) (y2:=some b) t3 (by rw [wt_puts]; exact Nat.not_le.mp (lin [_,_,_,_,_,_] (.c 1 (.a (.a (.a (.v 0) (.v 1)) (.m 6 (.v 2))) (.n 1)) (.n 100000) (.c 6 (.a (.v 3) (.v 4)) (.a (.v 2) (.n 1)) (.c 6 (.n 2) (.v 4) (.c 6 (.v 5) (.v 3) (.c 1 (.n 100000) (.a (.a (.v 0) (.v 1)) (.m 6 (.v 5))) .z))))) rfl hb (Nat.le_of_eq r1) r2 r3))
    exact⟨_,_,H4,t4,f3.trans f4,(lp.trans lp4).mono (by rw [wt_puts]; exact Nat.not_lt.mp (lin [_,_,_,_] (.c 6 (.a (.v 0) (.v 1)) (.a (.v 2) (.n 1)) (.c 6 (.n 2) (.v 1) (.c 6 (.v 3) (.v 0) (.c 1 (.a (.m 6 (.v 2)) (.n 1)) (.a (.n 1) (.m 6 (.v 3))) .z)))) rfl (Nat.le_of_eq r1) r2 r3))⟩
  | F+1,.al x y',h,h1,h2=>fun X W H y y2 t hb=>by
    have hW:=wtS_len W
    have r1:=al_szl x y'
    have r2:=snoc_of (Nat.le_of_succ_le (rowK_two_al x y')) (.ch [])
    have r3:=rowK_len false (.al x y')
    have hm:∀ n∈rowK false (.al x y'),NodeOk own (d+3) co ol wl n0 (cp F) n:=fun n hn=>by
      have:=row_al_lt hn
      exact node_ok F n (by exact Nat.not_lt.mp (lin [_,_,_] (.c 1 (.v 0) (.a (.v 1) (.n 1)) (.c 1 (.a (.v 2) (.n 1)) (.v 0) (.c 1 (.a (.v 1) (.n 1)) (.v 2) .z))) rfl h this)) (by exact Nat.not_le.mp (lin [_,_] (.c 1 (.a (.v 0) (.n 1)) (.n 1000) (.c 1 (.a (.v 1) (.n 1)) (.v 0) (.c 1 (.n 1000) (.v 1) .z))) rfl h1 this)) (.inr ((rowK_mem false _ n hn).2 (h2.elim (fun h=>by cases h) id)))
    rw [cp_5]
    generalize (rowK false (.al x y')).dropLast=ps at *
    generalize (rowK false (.al x y')).getLastD (.ch [])=z at *
    rw [r2] at r3 hm
    rw [List.length_append] at r3
    have r3':ps.length+1≤sz (.al x y'):=r3
    refine begun_al_k (own:=own) (d:=d) (a:=x) (b:=y') (set_off t.n2 t.hco) h1 r2 (H:=H.set wl (.list (W.map wkV))) fun r e e1 H2 e2 g2 hr he he1 hb1 hb2=>?_
    have hwt:=wt_itA e z ps
    have hil:=wtS_len (itA e z ps)
    rw [itA_eq] at hr
    obtain⟨a,b,H3,t3,f3,g3,l3,lp⟩:=st_put (it:=itA e z ps) (n0:=n0) (y:=y) (y2:=y2) t e2 g2.len (g2.at (set_off t.ne.symm t.hol)) hr (fun i x h1 h=>g2.at h) (lt_lim (by exact Nat.not_le.mp (lin [_,_,_,_,_,_,_,_,_] (.c 1 (.a (.a (.a (.v 0) (.v 1)) (.m 6 (.v 2))) (.n 1)) (.n 100000) (.c 1 (.v 3) (.v 1) (.c 1 (.a (.a (.a (.m 6 (.v 4)) (.m 4 (.v 5))) (.m 6 (.v 6))) (.n 2)) (.m 6 (.v 2)) (.c 1 (.v 7) (.a (.a (.a (.m 6 (.v 4)) (.m 4 (.v 5))) (.m 6 (.v 6))) (.n 1)) (.c 1 (.v 8) (.v 7) (.c 1 (.n 100000) (.a (.v 3) (.v 8)) .z)))))) rfl hb hW r1 (Nat.le_of_eq hwt) hil)))
    rw [List.length_set] at hb1
    have k1:=Nat.lt_of_lt_of_le (lt_get t.hol) hb1
    have k2:=Nat.lt_of_lt_of_le (lt_get t.hwl) hb1
    have al:Al e e1 (.int (-1)) [] ol wl H H3:=⟨g3 _ _ (by exact Nat.ne_of_gt (Nat.not_le.mp (lin [_,_,_] (.c 1 (.a (.v 0) (.n 1)) (.v 1) (.c 1 (.a (.v 2) (.n 1)) (.v 0) (.c 1 (.v 1) (.v 2) .z))) rfl hb2 k2))) he,g3 _ _ (by exact Nat.ne_of_gt (Nat.not_le.mp (lin [_,_] (.c 1 (.a (.v 0) (.n 1)) (.v 1) (.c 1 (.v 1) (.v 0) .z)) rfl k2))) he1,by exact Nat.ne_of_lt (Nat.not_le.mp (lin [_,_,_] (.c 1 (.a (.v 0) (.n 1)) (.v 1) (.c 1 (.a (.v 2) (.n 1)) (.v 0) (.c 1 (.v 1) (.v 2) .z))) rfl hb2 k1)),by exact Nat.ne_of_lt (Nat.not_le.mp (lin [_,_] (.c 1 (.a (.v 0) (.n 1)) (.v 1) (.c 1 (.v 1) (.v 0) .z)) rfl k1)),by exact Nat.ne_of_lt (Nat.not_le.mp (lin [_,_,_] (.c 1 (.a (.v 0) (.n 1)) (.v 1) (.c 1 (.a (.v 2) (.n 1)) (.v 0) (.c 1 (.v 1) (.v 2) .z))) rfl hb2 k2)),by exact Nat.ne_of_lt (Nat.not_le.mp (lin [_,_] (.c 1 (.a (.v 0) (.n 1)) (.v 1) (.c 1 (.v 1) (.v 0) .z)) rfl k2)),by exact Nat.ne_of_lt (Nat.not_le.mp (lin [_,_] (.c 1 (.a (.v 0) (.n 1)) (.v 1) (.c 1 (.v 1) (.v 0) .z)) rfl hb2)),by exact Nat.not_lt.mp (lin [_,_,_] (.c 1 (.v 0) (.v 1) (.c 1 (.a (.v 1) (.n 1)) (.v 2) (.c 1 (.a (.v 2) (.n 1)) (.v 0) .z))) rfl hb1 hb2),hb1,f3⟩
    obtain⟨a4,b4,H4,t4,f4,lp4⟩:=alt_run (own:=own) (d:=d+1) (n0:=n0) (g:=cp F) (cp_len F) (hm z (List.mem_append_right _ (.head _))) ps (fun n hn=>hm n (List.mem_append_left _ hn)) (y:=some a) (y2:=some b) t3 al (by exact Nat.not_le.mp (lin [_,_,_,_,_,_,_] (.c 1 (.a (.a (.a (.v 0) (.v 1)) (.m 6 (.v 2))) (.n 1)) (.n 100000) (.c 1 (.a (.a (.a (.m 6 (.v 3)) (.m 4 (.v 4))) (.m 6 (.v 5))) (.n 2)) (.m 6 (.v 2)) (.c 1 (.v 6) (.a (.a (.a (.m 6 (.v 3)) (.m 4 (.v 4))) (.m 6 (.v 5))) (.n 1)) (.c 1 (.n 100000) (.a (.a (.v 0) (.v 1)) (.v 6)) .z)))) rfl hb r1 (Nat.le_of_eq hwt))) (by show 0+_<_; exact Nat.not_le.mp (lin [_,_] (.c 1 (.a (.v 0) (.n 1)) (.n 1000) (.c 1 (.a (.v 1) (.n 1)) (.v 0) (.c 1 (.n 1000) (.a (.n 0) (.v 1)) .z))) rfl h1 r3')) (fun p hp=>nomatch hp)
    exact⟨_,_,H4,t4,f4,(lp.trans lp4).mono (by exact Nat.not_lt.mp (lin [_,_,_,_,_] (.c 1 (.a (.a (.a (.m 6 (.v 0)) (.m 4 (.v 1))) (.m 6 (.v 2))) (.n 2)) (.m 6 (.v 3)) (.c 1 (.v 4) (.a (.a (.a (.m 6 (.v 0)) (.m 4 (.v 1))) (.m 6 (.v 2))) (.n 1)) (.c 1 (.a (.m 6 (.v 3)) (.n 1)) (.a (.n 1) (.v 4)) .z))) rfl r1 (Nat.le_of_eq hwt)))⟩
end
section
variable {own:List FI} {d:Nat} {H:Hp} {co ol wl f:Nat} {X:List V} {n0:V} {y y2:Option V}
theorem put_ok_k {n:Nd} (hc:H[co]? = some (.inst 0 [(0,.loc ol)])) (ho:H[ol]? = some (.list X)) (hs:sz n<1000) (hx:X.length<10000) (hn:isCh n=true∨sm n) {zg:Prop} (zk:∀ H',(callF (pgc own) (d+4) 5 [.loc co,nV n] H=some (.none,H'))→(H.length≤H'.length)→(H'[ol]? = some (.list (X++(cp (sz n) n X.length).map oV)))→(∀ i x,i≠ol→H[i]? = some x→H'[i]? = some x)→zg):zg:=by
  have t:PS co ol H.length X ([]++[.put n]) (H++[.list [wkV (.put n)]]):=⟨app_in hc,app_in ho,app_new,ne_len ho⟩
  obtain⟨a,b,H',t',f',j,hj,lp⟩:=node_ok (own:=own) (d:=d) (n0:=nV n) (sz n) n (Nat.le_refl _) hs hn (y:=none) (y2:=none) t (by show _+0+_<_; exact Nat.not_le.mp (lin [_,_] (.c 6 (.a (.v 0) (.n 1)) (.n 1000) (.c 1 (.a (.v 1) (.n 1)) (.n 10000) (.c 1 (.n 100000) (.a (.a (.v 1) (.n 0)) (.m 6 (.v 0))) .z))) rfl hs hx))
  obtain⟨F,hF⟩:∃ F,1048576=j+(F+1):=⟨1048575 - j,by omega⟩
  have e:=lp (F+1) _ (wn_end (tPut_f t'.hwl))
  rw [← hF] at e
  refine zk H' (call_next rfl rfl (s_seq (s_asg0 (r_lst (r_cons (r_tup (r_cons r_glob (r_cons (r_loc rfl) r_nil))) r_nil)) t_loc0) (s_seq (s_whl0 (show _=some (Fl.next,plo co H.length (nV n) a b,H') from e)) s_nil0))) ?_ t'.hol (fun i x h1 h=>f'.off i x h1 (ne_len h) (app_in h))
  have:=f'.len
  rw [List.length_append] at this
  exact Nat.le_of_succ_le this
noncomputable def hdS:Od→List Nat
  | .one _=>[111,110,101]
  | .split _=>[115,112,108,105,116]
  | .jump _=>[106,117,109,112]
  | .mark=>[109,97,114,107]
  | .name _=>[110,97,109,101]
  | .done=>[100,111,110,101]
noncomputable def isJ:Od→Bool
  | .jump _=>true
  | _=>false
noncomputable def isJS:Od→Bool
  | .jump _=>true
  | .split _=>true
  | _=>false
theorem od_head {x:Od}:idxV H (oV x) (.int 0)=some (.str (hdS x)):=by cases x <;> rfl
theorem od_jump {x:Od}:cmpV H .eq (.str (hdS x)) (.str [106,117,109,112])=some (isJ x):=by cases x <;> rfl
theorem od_in {x:Od}:cmpV H .isin (.str (hdS x)) (.tup [.str [106,117,109,112],.str [115,112,108,105,116]])=some (isJS x):=by cases x <;> rfl
noncomputable def goal:Od→Nat
  | .jump g=>g
  | .split g=>g
  | _=>0
theorem od_goal {x:Od} (h:isJS x=true):idxV H (oV x) (.int 1)=some (.int (goal x)):=by cases x <;> first | rfl | cases h
noncomputable def tG:ME:=(.cmp .eq (.idx (.idx (.loc 0) (.loc 3)) (.lit (.int 0))) (.glob (.str [106,117,109,112])))
noncomputable def bG:List MS:=[(.asg (.loc 3) (.idx (.idx (.loc 0) (.loc 3)) (.lit (.int 1))))]
theorem tG_ok {O:List Od} {g:Nat} {x:Od} {y z:Option V} (ho:H[ol]? = some (.list (O.map oV))) (hx:O[g]? = some x):evE (pgc own) (callF (pgc own) d) tG [some (.loc ol),y,z,some (.int g)] H=some (.bool (isJ x),H) :=
  r_cmp (r_idx (r_idx (r_loc rfl) (r_loc rfl) (g_idxL ho (g_idx0 rfl (od_at hx)))) r_lit od_head) r_glob od_jump
theorem bG_ok {O:List Od} {g:Nat} {x:Od} {y z:Option V} (ho:H[ol]? = some (.list (O.map oV))) (hx:O[g]? = some x) (hj:isJS x=true):exB (pgc own) (callF (pgc own) d) bG [some (.loc ol),y,z,some (.int g)] H=some (.next,[some (.loc ol),y,z,some (.int (goal x))],H) :=
  s_seq (s_asg0 (r_idx (r_idx (r_loc rfl) (r_loc rfl) (g_idxL ho (g_idx0 rfl (od_at hx)))) r_lit (od_goal hj)) t_loc0) s_nil0
inductive Fi (O:List Od):Nat→Nat→Nat→Prop where
  | stop {g x}:O[g]? = some x→isJ x=false→Fi O 0 g g
  | go {n g x g'}:O[g]? = some x→isJ x=true→Fi O n (goal x) g'→Fi O (n+1) g g'
theorem isJ_S {x:Od} (h:isJ x=true):isJS x=true:=by cases x <;> first | rfl | cases h
theorem goal_loop {O:List Od} {y z:Option V} (ho:H[ol]? = some (.list (O.map oV))) {n g g':Nat} (h:Fi O n g g'):∀ f,n<f→whlN (evE (pgc own) (callF (pgc own) d) tG) (exB (pgc own) (callF (pgc own) d) bG) f [some (.loc ol),y,z,some (.int g)] H=some (.next,[some (.loc ol),y,z,some (.int g')],H):=by
  induction h with
  | stop hx hj =>
    intro f hf
    obtain⟨f,rfl⟩:∃ k,f=k+1:=Nat.exists_eq_add_one.mpr (by exact Nat.not_le.mp (lin [_] (.c 1 (.a (.n 0) (.n 1)) (.v 0) (.c 1 (.v 0) (.n 0) .z)) rfl hf))
    exact wn_end ((tG_ok ho hx).trans (by rw [hj]))
  | go hx hj _ ih =>
    intro f hf
    obtain⟨f,rfl⟩:∃ k,f=k+1:=Nat.exists_eq_add_one.mpr (by exact Nat.not_le.mp (lin [_,_] (.c 1 (.a (.a (.v 0) (.n 1)) (.n 1)) (.v 1) (.c 1 (.v 1) (.n 0) .z)) rfl hf))
    exact wn_next ((tG_ok ho hx).trans (by rw [hj])) (bG_ok ho hx (isJ_S hj)) (ih f (by exact Nat.not_le.mp (lin [_,_] (.c 1 (.a (.a (.v 0) (.n 1)) (.n 1)) (.a (.v 1) (.n 1)) (.c 1 (.v 1) (.v 0) .z)) rfl hf)))
noncomputable def st1 (fn:Nat→Nat):Od→Od
  | .jump g=>.jump (fn g)
  | .split g=>.split (fn g)
  | x=>x
noncomputable def bS:List MS:=[(.ife (.cmp .isin (.idx (.loc 2) (.lit (.int 0))) (.tup [(.glob (.str [106,117,109,112])),(.glob (.str [115,112,108,105,116]))])) [(.asg (.loc 3) (.idx (.loc 2) (.lit (.int 1)))),(.whl (.cmp .eq (.idx (.idx (.loc 0) (.loc 3)) (.lit (.int 0))) (.glob (.str [106,117,109,112]))) [(.asg (.loc 3) (.idx (.idx (.loc 0) (.loc 3)) (.lit (.int 1))))]),(.asg (.loc 2) (.tup [(.idx (.loc 2) (.lit (.int 0))),(.loc 3)]))] []),(.expr (.bmeth (.loc 1) .append [(.loc 2)]))]
theorem st_A {x:Od} {z:Option V} (hf:H[f]? = some (.list X)) (hl:X.length<lim) (hx:isJS x=false):exB (pgc own) (callF (pgc own) d) bS [some (.loc ol),some (.loc f),some (oV x),z] H=some (.next,[some (.loc ol),some (.loc f),some (oV x),z],H.set f (.list (X++[oV x]))):=by
  have hq:cmpV H .isin (.str (hdS x)) (.tup [.str [106,117,109,112],.str [115,112,108,105,116]])=some false:=od_in.trans (by rw [hx])
  exact s_seq (s_if_f (r_cmp (r_idx (r_loc rfl) r_lit (by exact od_head)) (r_tup (r_cons r_glob (r_cons r_glob r_nil))) (by exact hq)) s_nil0) (s_seq (s_expr0 (r_bm (r_loc rfl) (g_kindL (by solve_by_elim [app_new,set_at,set_off,app_in,ne_len,len_ne,Ne.symm]) rfl) (r_cons (r_loc rfl) r_nil) (g_append hf hl))) s_nil0)
theorem st_B_k {O:List Od} {x:Od} {g' n:Nat} {z:Option V} (ho:H[ol]? = some (.list (O.map oV))) (hf:H[f]? = some (.list X)) (hl:X.length<lim) (hx:isJS x=true) (h:Fi O n (goal x) g') (hn:n<1000) {zg:Prop} (zk:∀ a,∀ b,(exB (pgc own) (callF (pgc own) d) bS [some (.loc ol),some (.loc f),some (oV x),z] H=some (.next,[some (.loc ol),some (.loc f),a,b],H.set f (.list (X++[oV (st1 (fun _=>g') x)]))))→zg):zg:=by
  have e:=goal_loop (own:=own) (d:=d) (y:=some (.loc f)) (z:=some (oV x)) ho h 1048576 (by exact Nat.not_le.mp (lin [_] (.c 1 (.a (.v 0) (.n 1)) (.n 1000) (.c 1 (.n 1048576) (.v 0) .z)) rfl hn))
  cases x with
  | jump g=>exact zk _ _ (s_seq (s_if_t (r_cmp (r_idx (r_loc rfl) r_lit (by exact od_head)) (r_tup (r_cons r_glob (r_cons r_glob r_nil))) (by rfl)) (s_seq (s_asg0 (r_idx (r_loc rfl) r_lit (by rfl)) t_loc0) (s_seq (s_whl0 (show _=some (Fl.next,[some (.loc ol),some (.loc f),some (oV (.jump g)),some (.int g')],H) from e)) (s_seq (s_asg0 (r_tup (r_cons (r_idx (r_loc rfl) r_lit (by rfl)) (r_cons (r_loc rfl) r_nil))) t_loc0) s_nil0)))) (s_seq (s_expr0 (r_bm (r_loc rfl) (g_kindL (by solve_by_elim [app_new,set_at,set_off,app_in,ne_len,len_ne,Ne.symm]) rfl) (r_cons (r_loc rfl) r_nil) (g_append hf hl))) s_nil0))
  | split g=>exact zk _ _ (s_seq (s_if_t (r_cmp (r_idx (r_loc rfl) r_lit (by exact od_head)) (r_tup (r_cons r_glob (r_cons r_glob r_nil))) (by rfl)) (s_seq (s_asg0 (r_idx (r_loc rfl) r_lit (by rfl)) t_loc0) (s_seq (s_whl0 (show _=some (Fl.next,[some (.loc ol),some (.loc f),some (oV (.split g)),some (.int g')],H) from e)) (s_seq (s_asg0 (r_tup (r_cons (r_idx (r_loc rfl) r_lit (by rfl)) (r_cons (r_loc rfl) r_nil))) t_loc0) s_nil0)))) (s_seq (s_expr0 (r_bm (r_loc rfl) (g_kindL (by solve_by_elim [app_new,set_at,set_off,app_in,ne_len,len_ne,Ne.symm]) rfl) (r_cons (r_loc rfl) r_nil) (g_append hf hl))) s_nil0))
  | _=>cases hx
structure SI (H0:Hp) (ol f:Nat) (O:List Od) (r:List Od) (l:Lo) (H:Hp):Prop where
  l:∃ x z,l=[some (.loc ol),some (.loc f),x,z]
  ho:H[ol]? = some (.list (O.map oV))
  fo:H[f]? = some (.list (r.map oV))
  gr:Gr H0 H
theorem straight_ok_k {O:List Od} (fn:Nat→Nat) (ho:H[ol]? = some (.list (O.map oV))) (hl:O.length<10000) (hg:∀ x∈O,isJS x=true→∃ n,n<1000∧Fi O n (goal x) (fn (goal x))) {zg:Prop} (zk:∀ H',(callF (pgc own) (d+1) 10 [.loc ol] H=some (.loc H.length,H'))→(Gr H H')→(H'[H.length]? = some (.list ((O.map (st1 fn)).map oV)))→zg):zg:=by
  have hne:H.length≠ol:=len_ne ho
  obtain⟨l',H',e,j⟩:=for_list (k:=2) (body:=exB (pgc own) (callF (pgc own) d) bS) (g:=oV) (fun(r:List Od) x=>r++[st1 fn x]) (SI H ol H.length O) (fun r ps=>(∀ x∈ps,x∈O)∧r.length+ps.length<10000) (fun _ _ _ j=>j.ho) (fun r x ps l G j p=>by
    obtain⟨a,z,rfl⟩:=j.l
    obtain⟨p1,p2⟩:=p
    rw [List.length_cons] at p2
    have hlen:(r.map oV).length<lim:=lt_lim (by rw [List.length_map]; exact Nat.not_le.mp (lin [_,_] (.c 1 (.a (.a (.v 0) (.a (.v 1) (.n 1))) (.n 1)) (.n 10000) (.c 1 (.n 100000) (.v 0) .z)) rfl p2))
    have hP:(∀ x∈ps,x∈O)∧(r++[st1 fn x]).length+ps.length<10000:=⟨fun y h=>p1 y (.tail _ h),by rw [List.length_append]; show _+1+_<_; exact Nat.not_le.mp (lin [_,_] (.c 1 (.a (.a (.v 0) (.a (.v 1) (.n 1))) (.n 1)) (.n 10000) (.c 1 (.n 10000) (.a (.a (.v 0) (.n 1)) (.v 1)) .z)) rfl p2)⟩
    have hS:∀ {a b:Option V},SI H ol H.length O (r++[st1 fn x]) [some (.loc ol),some (.loc H.length),a,b] (G.set H.length (.list (r.map oV++[oV (st1 fn x)]))):=fun {a b}=>⟨⟨_,_,rfl⟩,set_off hne j.ho,by rw [map_snoc]; exact set_at j.fo,j.gr.set (Nat.le_refl _)⟩
    cases hx:isJS x with
    | false =>
      have hs:st1 fn x=x:=by cases x <;> first | rfl | cases hx
      refine⟨.next,_,_,.inl rfl,st_A j.fo hlen hx,?_,hP⟩
      have:=hS (a:=some (oV x)) (b:=z)
      rw [hs] at this ⊢; exact this
    | true =>
      obtain⟨n,hn,hf⟩:=hg x (p1 x (.head _)) hx
      refine st_B_k (own:=own) (d:=d) (z:=z) j.ho j.fo hlen hx hf hn fun a' b' e=>?_
      have hs:st1 (fun _=>fn (goal x)) x=st1 fn x:=by cases x <;> first | rfl | cases hx
      rw [hs] at e
      exact⟨.next,_,_,.inl rfl,e,hS,hP⟩) O 0 1048576 [] [some (.loc ol),some (.loc H.length),none,none] (H++[.list []]) (fun j=>by rw [Nat.zero_add]) (by exact Nat.not_le.mp (lin [_] (.c 1 (.a (.v 0) (.n 1)) (.n 10000) (.c 1 (.n 1048576) (.v 0) .z)) rfl hl)) ⟨⟨_,_,rfl⟩,app_in ho,app_new,Gr.app _ _⟩ ⟨fun x h=>h,by show 0+_<_; exact Nat.not_le.mp (lin [_] (.c 1 (.a (.v 0) (.n 1)) (.n 10000) (.c 1 (.n 10000) (.a (.n 0) (.v 0)) .z)) rfl hl)⟩
  have hfo:∀(O r:List Od),O.foldl (fun(r:List Od) x=>r++[st1 fn x]) r=r++O.map (st1 fn):=fun O=>by
    induction O with
    | nil=>intro r; exact(List.append_nil _).symm
    | cons x O ih=>intro r; rw [List.foldl_cons,ih,List.append_assoc]; rfl
  have hfo':=j.fo
  rw [hfo,List.nil_append] at hfo'
  obtain⟨a,b,rfl⟩:=j.l
  exact zk H' (call_ret rfl rfl (s_seq (s_asg0 (r_lst r_nil) t_loc0) (s_seq (s_for0 (r_loc rfl) (i_lst (app_in ho)) (show _=some (Fl.next,_,H') from e)) (s_stop (s_ret0 (r_loc rfl)))))) j.gr hfo'
theorem code_init:callF (pgc own) (d+1) 3 [.loc H.length] (H++[.inst 0 []])=some (.none,(H++[O.inst 0 []]++[O.list []]).set H.length (O.inst 0 [(0,.loc (H.length+1))])) :=
  call_next rfl rfl (s_seq (s_asg0 (r_lst r_nil) (t_attr0 (r_loc rfl) ((g_setA (app_in app_new)).trans (by rw [List.length_append]; rfl)))) s_nil0)
theorem compile_ok_k {n:Nd} (fn:Nat→Nat) (hs:sz n<1000) (hn:isCh n=true∨sm n) (hg:∀ x∈cp (sz n) n 0++[Od.done],isJS x=true→∃ k,k<1000∧Fi (cp (sz n) n 0++[Od.done]) k (goal x) (fn (goal x))) {zg:Prop} (zk:∀ r,∀ H',(callF (pgc own) (d+5) 11 [nV n] H=some (.loc r,H'))→(Gr H H')→(H.length≤r)→(H'[r]? = some (.list (((cp (sz n) n 0++[Od.done]).map (st1 fn)).map oV)))→zg):zg:=by
  have l1:(H++[O.inst 0 []]).length=H.length+1:=by rw [List.length_append]; rfl
  have hc:((H++[O.inst 0 []]++[O.list []]).set H.length (O.inst 0 [(0,.loc (H.length+1))]))[H.length]? = some (.inst 0 [(0,.loc (H.length+1))]):=set_at (app_in app_new)
  have ho:((H++[O.inst 0 []]++[O.list []]).set H.length (O.inst 0 [(0,.loc (H.length+1))]))[H.length+1]? = some (.list []):=set_off (Nat.ne_of_lt (Nat.lt_succ_self _)) (by rw [← l1]; exact app_new)
  have hgr:Gr H ((H++[O.inst 0 []]++[O.list []]).set H.length (O.inst 0 [(0,.loc (H.length+1))])):=((Gr.app H _).trans (Gr.app _ _)).set (Nat.le_refl _)
  generalize hG:(H++[O.inst 0 []]++[O.list []]).set H.length (O.inst 0 [(0,.loc (H.length+1))])=G at hc ho hgr
  refine put_ok_k (own:=own) (d:=d) hc ho hs (by show 0<_; exact Nat.not_le.mp (lin [] (.c 1 (.n 10000) (.n 0) .z) rfl)) hn fun H2 hput hl2 ho2 hk2=>?_
  rw [List.nil_append] at ho2
  have hc2:=hk2 _ _ (Nat.ne_of_lt (Nat.lt_succ_self _)) hc
  have hne:H.length≠H.length+1:=Nat.ne_of_lt (Nat.lt_succ_self _)
  have hcl:=cp_len (sz n) n 0
  have hl:((cp (sz n) n 0).map oV).length<lim:=lt_lim (by rw [List.length_map]; exact Nat.not_le.mp (lin [_,_] (.c 6 (.a (.v 0) (.n 1)) (.n 1000) (.c 1 (.v 1) (.m 6 (.v 0)) (.c 1 (.n 100000) (.v 1) .z))) rfl hs hcl))
  have ho3:(H2.set (H.length+1) (.list ((cp (sz n) n 0).map oV++[oV Od.done])))[H.length+1]? = some (.list ((cp (sz n) n 0++[Od.done]).map oV)):=by rw [map_snoc]; exact set_at ho2
  refine straight_ok_k (own:=own) (d:=d+3) fn ho3 (by rw [List.length_append]; show _+1<_; exact Nat.not_le.mp (lin [_,_] (.c 6 (.a (.v 0) (.n 1)) (.n 1000) (.c 1 (.v 1) (.m 6 (.v 0)) (.c 1 (.n 10000) (.a (.v 1) (.n 1)) .z))) rfl hs hcl)) hg fun H3 hst g3 hr3=>?_
  have ci:=code_init (own:=own) (d:=d+3) (H:=H)
  rw [hG] at ci
  refine zk _ H3 (call_ret rfl rfl (s_seq (s_asg0 (r_new r_nil rfl ci) t_loc0) (s_seq (s_expr0 (r_meth (r_loc rfl) hc rfl rfl (r_cons (r_loc rfl) r_nil) hput)) (s_seq (s_expr0 (r_meth (r_loc rfl) hc2 rfl rfl (r_cons (r_tup (r_cons r_glob r_nil)) r_nil) (emit_ok hc2 ho2 hne hl))) (s_stop (s_ret0 (r_call r_glob (r_cons (r_attr (r_loc rfl) (g_inst (set_off hne.symm hc2) rfl)) r_nil) hst))))))) (⟨?_,fun i h=>?_⟩) ?_ hr3
  · have:=g3.len
    rw [List.length_set] at this
    exact Nat.le_trans hgr.len (Nat.le_trans hl2 this)
  · have hx:=List.getElem?_eq_getElem h
    rw [hx]
    exact g3.at (set_off (Nat.ne_of_gt (Nat.lt_succ_of_lt h)) (hk2 i _ (Nat.ne_of_lt (Nat.lt_succ_of_lt h)) ((hgr.off i h).trans hx)))
  · rw [List.length_set]; exact Nat.le_trans hgr.len hl2
theorem compile_ok {n:Nd} (fn:Nat→Nat) (hs:sz n<1000) (hn:isCh n=true∨sm n) (hg:∀ x∈cp (sz n) n 0++[Od.done],isJS x=true→∃ k,k<1000∧Fi (cp (sz n) n 0++[Od.done]) k (goal x) (fn (goal x))):∃ r H',callF (pgc own) (d+5) 11 [nV n] H=some (.loc r,H')∧Gr H H'∧H.length≤r∧H'[r]? = some (.list (((cp (sz n) n 0++[Od.done]).map (st1 fn)).map oV)):=compile_ok_k fn hs hn hg fun r H' zh1 zh2 zh3 zh4=>⟨r,H',zh1,zh2,zh3,zh4⟩
end
theorem metB_eq (s t:List Nat) (a:Nat):metB s t a=((s.drop a).take t.length == t):=by
  rw [metB,List.drop_take,Nat.add_sub_cancel_left]
theorem metB_nil (s:List Nat) (a:Nat):metB s [] a=true:=by rw [metB_eq]; rfl
theorem metB_app (s u v:List Nat) (a:Nat):metB s (u++v) a=(metB s u a && metB s v (a+u.length)):=by
  rw [metB_eq,metB_eq,metB_eq,← List.drop_drop]
  generalize s.drop a=X
  rw [List.length_append,List.take_add,Bool.eq_iff_iff,Bool.and_eq_true,beq_iff_eq,beq_iff_eq,beq_iff_eq]
  constructor
  · intro h
    have h1:=congrArg List.length h
    rw [List.length_append,List.length_append] at h1
    have h2:(X.take u.length).length≤u.length:=List.length_take_le _ _
    have h3:((X.drop u.length).take v.length).length≤v.length:=List.length_take_le _ _
    exact List.append_inj h (by exact Nat.le_antisymm (Nat.not_lt.mp (lin [_,_] (.c 1 (.v 0) (.v 1) (.c 1 (.a (.v 1) (.n 1)) (.v 0) .z)) rfl h2)) (Nat.not_lt.mp (lin [_,_,_,_] (.c 1 (.a (.v 0) (.v 1)) (.a (.v 2) (.v 3)) (.c 1 (.v 3) (.v 1) (.c 1 (.a (.v 2) (.n 1)) (.v 0) .z))) rfl (Nat.le_of_eq (Eq.symm h1)) h3)))
  · intro⟨h1,h2⟩; rw [h1,h2]
noncomputable def bk:Nd→Nat→Nat
  | .ch _,K=>K+2
  | .lt n _,K=>bk n (K+2)+2
  | .al x y,K=>bk x K+bk y K+2
  | .ca x y,K=>bk x (bk y K)
theorem bk_1 {zu1 K}:bk (.ch zu1) K=K+2:=rfl
theorem bk_2 {n zu1 K}:bk (.lt n zu1) K=bk n (K+2)+2:=rfl
theorem bk_3 {x y K}:bk (.al x y) K=bk x K+bk y K+2:=rfl
theorem bk_4 {x y K}:bk (.ca x y) K=bk x (bk y K):=rfl
theorem bk_mono:∀(n:Nd) {K K':Nat},K≤K'→bk n K≤bk n K'
  | .ch _,K,K',h=>Nat.add_le_add_right h 2
  | .lt n _,K,K',h=>Nat.add_le_add_right (bk_mono n (Nat.add_le_add_right h 2)) 2
  | .al x y,K,K',h=>Nat.add_le_add_right (Nat.add_le_add (bk_mono x h) (bk_mono y h)) 2
  | .ca x y,K,K',h=>bk_mono x (bk_mono y h)
noncomputable def bkS:List Nd→Nat→Nat
  | [],K=>K
  | n::r,K=>bk n (bkS r K)
theorem bkS_1 {K}:bkS ([]) K=K:=rfl
theorem bkS_2 {n r K}:bkS (n::r) K=bk n (bkS r K):=rfl
theorem bkS_app:∀(A B:List Nd) (K:Nat),bkS (A++B) K=bkS A (bkS B K)
  | [],B,K=>rfl
  | n::r,B,K=>by rw [List.cons_append,bkS_2,bkS_2,bkS_app r B K]
theorem bkS_mono:∀(A:List Nd) {K K':Nat},K≤K'→bkS A K≤bkS A K'
  | [],K,K',h=>h
  | n::r,K,K',h=>bk_mono n (bkS_mono r h)
theorem bkS_row:∀(n:Nd) (K:Nat),bkS (rowK true n) K=bk n K
  | .ch _,K=>rfl
  | .lt _ _,K=>rfl
  | .al _ _,K=>rfl
  | .ca x y,K=>by
    show bkS (rowK true x++rowK true y) K=_
    rw [bkS_app,bkS_row x,bkS_row y]; rfl
noncomputable def denS (s:List Nat):List Nd→Nat→Nm→List (Nat×Nm)
  | [],a,nm=>[(a,nm)]
  | n::r,a,nm=>(denN s n a nm).flatMap fun z=>denS s r z.1 z.2
theorem denS_1 {s a nm}:denS s ([]) a nm=[(a,nm)]:=rfl
theorem denS_2 {s n r a nm}:denS s (n::r) a nm=(denN s n a nm).flatMap fun z=>denS s r z.1 z.2:=rfl
theorem denS_app (s:List Nat) (B:List Nd):∀(A:List Nd) (a:Nat) (nm:Nm),denS s (A++B) a nm=(denS s A a nm).flatMap fun z=>denS s B z.1 z.2
  | [],a,nm=>(List.flatMap_singleton _ _).symm
  | n::r,a,nm=>by
    rw [List.cons_append,denS_2,denS_2,List.flatMap_assoc]
    exact congrArg (fun f=>(denN s n a nm).flatMap f) (funext fun z=>denS_app s B r z.1 z.2)
theorem denS_one (s:List Nat) (n:Nd) (a:Nat) (nm:Nm):denS s [n] a nm=denN s n a nm:=List.flatMap_singleton' _
theorem denS_row (s:List Nat):∀(n:Nd) (a:Nat) (nm:Nm),denS s (rowK true n) a nm=denN s n a nm
  | .ch t,a,nm=>denS_one s _ a nm
  | .lt n q,a,nm=>denS_one s _ a nm
  | .al x y,a,nm=>denS_one s _ a nm
  | .ca x y,a,nm=>by
    show denS s (rowK true x++rowK true y) a nm=(denN s x a nm).flatMap fun z=>denN s y z.1 z.2
    rw [denS_app,denS_row s x]
    exact congrArg (fun f=>(denN s x a nm).flatMap f) (funext fun z=>denS_row s y z.1 z.2)
theorem den_nil (s:List Nat) (a:Nat) (nm:Nm):denN s (.ch []) a nm=[(a,nm)]:=by rw [denN_1,metB_nil]; rfl
theorem den_two (s u v:List Nat) (a:Nat) (nm:Nm):denN s (.ch (u++v)) a nm=(denN s (.ch u) a nm).flatMap fun z=>denN s (.ch v) z.1 z.2:=by
  rw [denN_1,denN_1,metB_app]
  cases metB s u a with
  | false=>rfl
  | true =>
    rw [Bool.true_and,cond_true,List.flatMap_singleton,denN_1,List.length_append,Nat.add_assoc]
theorem jR_den (s:List Nat) (r:List Nd) (n:Nd) (a:Nat) (nm:Nm):denS s (jR r n).reverse a nm=denS s (r.reverse++[n]) a nm:=by
  have snoc:∀ n,denS s (n::r).reverse a nm=denS s (r.reverse++[n]) a nm:=fun n=>by rw [List.reverse_cons]
  cases n with
  | ch t=>cases t with
    | nil =>
      rw [denS_app]
      refine(List.flatMap_singleton' _).symm.trans (congrArg (fun f=>List.flatMap f _) (funext fun z=>?_))
      rw [denS_one,den_nil]
    | cons c t=>cases r with
      | nil=>rfl
      | cons z r=>cases z with
        | ch u =>
          show denS s (.ch (u++c::t)::r).reverse a nm=_
          rw [List.reverse_cons,List.reverse_cons,List.append_assoc,denS_app,denS_app]
          refine congrArg (fun f=>List.flatMap f _) (funext fun z=>?_)
          rw [denS_one,den_two]
          exact congrArg (fun f=>List.flatMap f _) (funext fun z=>(denS_one s _ z.1 z.2).symm)
        | _=>exact snoc _
  | _=>exact snoc _
theorem joinT_den (s:List Nat) (l:List Nd) (a:Nat) (nm:Nm):denS s (joinT l) a nm=denS s l a nm:=by
  have:∀(l r:List Nd) (a:Nat) (nm:Nm),denS s (l.foldl jR r).reverse a nm=denS s (r.reverse++l) a nm:=fun l=>by
    induction l with
    | nil=>intro r a nm; rw [List.append_nil]; rfl
    | cons n l ih =>
      intro r a nm
      rw [List.foldl_cons,ih,denS_app,jR_den,← denS_app,List.append_assoc]; rfl
  exact this l [] a nm
theorem jR_bk (r:List Nd) (n:Nd) (K:Nat):bkS (jR r n).reverse K≤bkS (r.reverse++[n]) K:=by
  have snoc:∀ n,bkS (n::r).reverse K≤bkS (r.reverse++[n]) K:=fun n=>by rw [List.reverse_cons]; exact Nat.le_refl _
  cases n with
  | ch t=>cases t with
    | nil=>rw [bkS_app]; exact bkS_mono _ (Nat.le_add_right _ _)
    | cons c t=>cases r with
      | nil=>exact Nat.le_refl _
      | cons z r=>cases z with
        | ch u =>
          show bkS (.ch (u++c::t)::r).reverse K≤_
          rw [List.reverse_cons,List.reverse_cons,List.append_assoc,bkS_app,bkS_app]
          exact bkS_mono _ (Nat.le_add_right _ _)
        | _=>exact snoc _
  | _=>exact snoc _
theorem joinT_bk (l:List Nd) (K:Nat):bkS (joinT l) K≤bkS l K:=by
  have:∀(l r:List Nd),bkS (l.foldl jR r).reverse K≤bkS (r.reverse++l) K:=fun l=>by
    induction l with
    | nil=>intro r; rw [List.append_nil]; exact Nat.le_refl _
    | cons n l ih =>
      intro r
      refine Nat.le_trans (ih (jR r n)) ?_
      rw [show r.reverse++n::l=(r.reverse++[n])++l from by rw [List.append_assoc]; rfl,bkS_app,bkS_app]
      exact jR_bk r n _
  exact this l []
noncomputable def bkL:List Nd→Nat→Nat
  | [],_=>0
  | n::r,K=>bk n K+2+bkL r K
theorem bkL_1 {zu1}:bkL ([]) zu1=0:=rfl
theorem bkL_2 {n r K}:bkL (n::r) K=bk n K+2+bkL r K:=rfl
theorem bkL_app:∀(A B:List Nd) (K:Nat),bkL (A++B) K=bkL A K+bkL B K
  | [],B,K=>(Nat.zero_add _).symm
  | n::r,B,K=>by rw [List.cons_append,bkL_2,bkL_2,bkL_app r B K]; exact lnq [_,_,_] (.a (.a (.v 0) (.n 2)) (.a (.v 1) (.v 2))) (.a (.a (.a (.v 0) (.n 2)) (.v 1)) (.v 2)) rfl
theorem bkL_row:∀(n:Nd) (K:Nat),bkL (rowK false n) K=bk n K+2
  | .ch _,K=>rfl
  | .lt _ _,K=>rfl
  | .ca _ _,K=>rfl
  | .al x y,K=>by
    show bkL (rowK false x++rowK false y) K=bk x K+bk y K+2+2
    rw [bkL_app,bkL_row x,bkL_row y]; exact lnq [_,_] (.a (.a (.v 0) (.n 2)) (.a (.v 1) (.n 2))) (.a (.a (.a (.v 0) (.v 1)) (.n 2)) (.n 2)) rfl
theorem den_row (s:List Nat) (a:Nat) (nm:Nm):∀ n:Nd,(rowK false n).flatMap (fun p=>denN s p a nm)=denN s n a nm
  | .ch t=>List.flatMap_singleton _ _
  | .lt n q=>List.flatMap_singleton _ _
  | .ca x y=>List.flatMap_singleton _ _
  | .al x y=>by
    show(rowK false x++rowK false y).flatMap _=_
    rw [List.flatMap_append,den_row s a nm x,den_row s a nm y]; rfl
noncomputable def Frs (s:List Nat) (O:List Od) (L:List CW) (k:Nat) (R:Option CW) (k':Nat):Prop :=
  (L=[]∧R=none∧k'=k)∨∃ L' w,L=L'++[w]∧Rn s O w L' k R k'
structure CcA (s:List Nat) (O:List Od) (w:CW) (D:List (Nat×Nm)) (K:Nat) (L:List CW) (k j:Nat):Prop where
  le:j≤K
  met:∀ x,D.head? = some x→∃ w',(w'.a,w'.nm.reverse)=x∧Rn s O w L k (some w') (k+j)
  non:D=[]→∀ R k',Frs s O L (k+j) R k'→Rn s O w L k R k'
noncomputable def Cc (s:List Nat) (O:List Od) (pc:Nat) (mk:List Nat) (D:Nat→Nm→List (Nat×Nm)) (K:Nat):Prop:=∀ a r L k,∃ j,CcA s O ⟨pc,a,r,mk⟩ (D a r.reverse) K L k j
theorem cc_step {s:List Nat} {O:List Od} {w w':CW} {D D':List (Nat×Nm)} {K k j:Nat} {L:List CW} (h:CcA s O w' D' K L (k+1) j) (hD:D=D') (hs:∀ R k',Rn s O w' L (k+1) R k'→Rn s O w L k R k'):CcA s O w D (K+1) L k (j+1):=by
  subst hD
  have e:k+1+j=k+(j+1):=by exact lnq [_,_] (.a (.a (.v 0) (.n 1)) (.v 1)) (.a (.v 0) (.a (.v 1) (.n 1))) rfl
  exact⟨Nat.succ_le_succ h.le,fun x hx=>by obtain⟨w2,h1,h2⟩:=h.met x hx; exact⟨w2,h1,hs _ _ (e▸h2)⟩,fun hd R k' f=>hs _ _ (h.non hd R k' (e.symm▸f))⟩
theorem Cc.mono {s:List Nat} {O:List Od} {pc:Nat} {mk:List Nat} {D:Nat→Nm→List (Nat×Nm)} {K K':Nat} (c:Cc s O pc mk D K) (h:K≤K'):Cc s O pc mk D K':=fun a r L k=>by
  obtain⟨j,g⟩:=c a r L k
  exact⟨j,Nat.le_trans g.le h,g.met,g.non⟩
theorem Cc.eq {s:List Nat} {O:List Od} {pc:Nat} {mk:List Nat} {D D':Nat→Nm→List (Nat×Nm)} {K:Nat} (c:Cc s O pc mk D K) (h:∀ a nm,D a nm=D' a nm):Cc s O pc mk D' K:=by
  rw [← show D=D' from funext fun a=>funext fun nm=>h a nm]; exact c
structure Fn (O:List Od) (fn:Nat→Nat):Prop where
  j:∀ g x,O[g]? = some x→isJ x=true→fn g=fn (goal x)
  n:∀ g x,O[g]? = some x→isJ x=false→fn g=g
section
variable {s:List Nat} {O:List Od} {fn:Nat→Nat}
theorem st_at {i:Nat} {x:Od} (h:O[i]? = some x):(O.map (st1 fn))[i]? = some (st1 fn x):=by rw [List.getElem?_map,h]; rfl
theorem cc_fall (F:Fn O fn) {e:Nat} {mk:List Nat} {D:Nat→Nm→List (Nat×Nm)} {K:Nat} (he:e<O.length) (c:Cc s (O.map (st1 fn)) (fn e) mk D K):Cc s (O.map (st1 fn)) e mk D (K+1):=by
  have hx:O[e]? = some O[e]:=List.getElem?_eq_getElem he
  generalize O[e] = x at hx
  cases hj:isJ x with
  | false=>rw [F.n e x hx hj] at c; exact c.mono (Nat.le_succ _)
  | true =>
    have hf:=F.j e x hx hj
    cases x with
    | jump g =>
      rw [hf] at c
      intro a r L k
      obtain⟨j,h⟩:=c a r L (k+1)
      exact⟨j+1,cc_step h rfl fun R k' h=>.jump (st_at hx) h⟩
    | _=>cases hj
noncomputable def Sg (O:List Od) (b:Nat) (c:List Od):Prop:=∀ i,i<c.length→O[b+i]? = c[i]?
theorem Sg.hd {b:Nat} {x:Od} {c:List Od} (h:Sg O b (x::c)):O[b]? = some x:=h 0 (Nat.succ_pos _)
theorem Sg.tl {b:Nat} {x:Od} {c:List Od} (h:Sg O b (x::c)):Sg O (b+1) c:=fun i hi=>by
  have:=h (i+1) (Nat.succ_lt_succ hi)
  rw [Nat.add_assoc,Nat.add_comm 1 i]; exact this
theorem Sg.l {b:Nat} {c c':List Od} (h:Sg O b (c++c')):Sg O b c:=fun i hi=>(h i (by rw [List.length_append]; exact Nat.not_le.mp (lin [_,_,_] (.c 1 (.a (.v 0) (.n 1)) (.v 1) (.c 1 (.a (.v 1) (.v 2)) (.v 0) .z)) rfl hi))).trans (List.getElem?_append_left hi)
theorem Sg.r {b:Nat} {c c':List Od} (h:Sg O b (c++c')):Sg O (b+c.length) c':=fun i hi=>by
  have:=h (c.length+i) (by rw [List.length_append]; exact Nat.not_le.mp (lin [_,_,_] (.c 1 (.a (.v 0) (.n 1)) (.v 1) (.c 1 (.a (.v 2) (.v 1)) (.a (.v 2) (.v 0)) .z)) rfl hi))
  rw [Nat.add_assoc,this,List.getElem?_append_right (Nat.le_add_right _ _),Nat.add_sub_cancel_left]
noncomputable def Sem (s:List Nat) (O:List Od) (fn:Nat→Nat) (g:Nd→Nat→List Od) (n:Nd):Prop:=∀ ⦃b:Nat⦄ ⦃mk:List Nat⦄ ⦃D:Nat→Nm→List (Nat×Nm)⦄ ⦃K:Nat⦄,Sg O b (g n b)→b+(g n b).length<O.length→Cc s (O.map (st1 fn)) (fn (b+(g n b).length)) mk D K→Cc s (O.map (st1 fn)) (fn b) mk (fun a nm=>(denN s n a nm).flatMap fun z=>D z.1 z.2) (bk n K)
theorem sem_S {g:Nd→Nat→List Od}:∀(ps:List Nd),(∀ p∈ps,Sem s O fn g p)→∀ {b:Nat} {mk:List Nat} {D:Nat→Nm→List (Nat×Nm)} {K:Nat},Sg O b (cpS g ps b)→b+(cpS g ps b).length<O.length→Cc s (O.map (st1 fn)) (fn (b+(cpS g ps b).length)) mk D K→Cc s (O.map (st1 fn)) (fn b) mk (fun a nm=>(denS s ps a nm).flatMap fun z=>D z.1 z.2) (bkS ps K)
  | [],_,b,mk,D,K,_,_,c=>c.eq fun a nm=>(List.flatMap_singleton _ _).symm
  | n::r,hp,b,mk,D,K,h1,h2,c=>by
    rw [cpS_2] at h1 h2 c
    rw [List.length_append,← Nat.add_assoc] at h2 c
    have c1:=sem_S r (fun p h=>hp p (.tail _ h)) h1.r h2 c
    exact(hp n (.head _) h1.l (by exact Nat.not_le.mp (lin [_,_,_,_] (.c 1 (.a (.a (.a (.v 0) (.v 1)) (.v 2)) (.n 1)) (.v 3) (.c 1 (.v 3) (.a (.v 0) (.v 1)) .z)) rfl h2)) c1).eq fun a nm=>(List.flatMap_assoc ..).symm
theorem sem_A (F:Fn O fn) {g:Nd→Nat→List Od} {e:Nat} {z:Nd} (hz:Sem s O fn g z) {mk:List Nat} {D:Nat→Nm→List (Nat×Nm)} {K:Nat} (c:Cc s (O.map (st1 fn)) (fn e) mk D K) (he:e<O.length):∀(ps:List Nd),(∀ p∈ps,Sem s O fn g p)→∀ {b:Nat},Sg O b (cpA g e z ps b)→b+(cpA g e z ps b).length=e→Cc s (O.map (st1 fn)) (fn b) mk (fun a nm=>((ps++[z]).flatMap fun p=>denN s p a nm).flatMap fun z=>D z.1 z.2) (bkL ps K+bk z K)
  | [],_,b,h1,h2=>by
    have h2':b+(g z b).length=e:=h2
    refine((hz h1 (by rw [h2']; exact he) (by rw [h2']; exact c)).mono (Nat.le_of_eq (Nat.zero_add _).symm)).eq fun a nm=>?_
    rw [List.nil_append,List.flatMap_singleton]
  | p::r,hp,b,h1,h2=>by
    rw [cpA_2] at h1 h2
    rw [List.length_cons,List.length_append,List.length_cons] at h2
    have hb:=F.n b _ h1.hd rfl
    have hj:O[b+1+(g p (b+1)).length]? = some (.jump e):=h1.tl.r.hd
    have hfj:fn (b+1+(g p (b+1)).length)=fn e:=F.j _ _ hj rfl
    have c1:=cc_fall F (by exact Nat.not_le.mp (lin [_,_,_,_,_] (.c 1 (.a (.v 0) (.n 1)) (.v 1) (.c 1 (.a (.v 2) (.a (.a (.v 3) (.a (.v 4) (.n 1))) (.n 1))) (.v 0) (.c 1 (.v 1) (.a (.v 2) (.n 1)) .z))) rfl he (Nat.le_of_eq h2))) (hp p (.head _) h1.tl.l (by exact Nat.not_le.mp (lin [_,_,_,_,_] (.c 1 (.a (.v 0) (.n 1)) (.v 1) (.c 1 (.a (.v 2) (.a (.a (.v 3) (.a (.v 4) (.n 1))) (.n 1))) (.v 0) (.c 1 (.v 1) (.a (.a (.v 2) (.n 1)) (.v 3)) .z))) rfl he (Nat.le_of_eq h2))) (by rw [hfj]; exact c))
    have c2:=sem_A F hz c he r (fun p h=>hp p (.tail _ h)) (b:=b+(g p (b+1)).length+2) (by
      have:=h1.tl.r.tl
      rw [show b+1+(g p (b+1)).length+1=b+(g p (b+1)).length+2 by exact lnq [_,_] (.a (.a (.a (.v 0) (.n 1)) (.v 1)) (.n 1)) (.a (.a (.v 0) (.v 1)) (.n 2)) rfl] at this
      exact this) (by exact Nat.le_antisymm (Nat.not_lt.mp (lin [_,_,_,_] (.c 1 (.a (.v 0) (.a (.a (.v 1) (.a (.v 2) (.n 1))) (.n 1))) (.v 3) (.c 1 (.a (.v 3) (.n 1)) (.a (.a (.a (.v 0) (.v 1)) (.n 2)) (.v 2)) .z)) rfl (Nat.le_of_eq h2))) (Nat.not_lt.mp (lin [_,_,_,_] (.c 1 (.v 0) (.a (.v 1) (.a (.a (.v 2) (.a (.v 3) (.n 1))) (.n 1))) (.c 1 (.a (.a (.a (.a (.v 1) (.v 2)) (.n 2)) (.v 3)) (.n 1)) (.v 0) .z)) rfl (Nat.le_of_eq (Eq.symm h2)))))
    rw [hb]
    intro a nm L k
    obtain⟨j,h⟩:=c1 a nm (L++[⟨fn (b+(g p (b+1)).length+2),a,nm,mk⟩]) (k+1)
    obtain⟨i,h'⟩:=c2 a nm L (k+1+j)
    have hl:=h.le
    have gl:=h'.le
    have sp:∀ {R k'},Rn s (O.map (st1 fn)) ⟨b+1,a,nm,mk⟩ (L++[⟨fn (b+(g p (b+1)).length+2),a,nm,mk⟩]) (k+1) R k'→Rn s (O.map (st1 fn)) ⟨b,a,nm,mk⟩ L k R k':=fun h=>.split (st_at h1.hd) h
    have e0:((p::r++[z]).flatMap fun p=>denN s p a nm.reverse).flatMap (fun z=>D z.1 z.2)=(denN s p a nm.reverse).flatMap (fun z=>D z.1 z.2)++((r++[z]).flatMap fun p=>denN s p a nm.reverse).flatMap (fun z=>D z.1 z.2):=by
      rw [List.cons_append,List.flatMap_cons,List.flatMap_append]
    cases hd:(denN s p a nm.reverse).flatMap fun z=>D z.1 z.2 with
    | cons y ys =>
      rw [hd] at e0
      refine⟨j+1,by rw [bkL_2]; exact Nat.not_lt.mp (lin [_,_,_,_] (.c 1 (.v 0) (.a (.v 1) (.n 1)) (.c 1 (.a (.a (.a (.a (.v 1) (.n 2)) (.v 2)) (.v 3)) (.n 1)) (.a (.v 0) (.n 1)) .z)) rfl hl),fun x hx=>?_,fun e=>?_⟩
      · obtain⟨w',h3,h4⟩:=h.met x ((congrArg List.head? hd).trans ((congrArg List.head? e0).symm.trans hx))
        rw [show k+(j+1)=k+1+j by exact lnq [_,_] (.a (.v 0) (.a (.v 1) (.n 1))) (.a (.a (.v 0) (.n 1)) (.v 1)) rfl]
        exact⟨w',h3,sp h4⟩
      · cases e0.symm.trans e
    | nil =>
      rw [hd] at e0
      have ek:k+(j+i+1)=k+1+j+i:=by exact lnq [_,_,_] (.a (.v 0) (.a (.a (.v 1) (.v 2)) (.n 1))) (.a (.a (.a (.v 0) (.n 1)) (.v 1)) (.v 2)) rfl
      refine⟨j+i+1,by rw [bkL_2]; exact Nat.not_lt.mp (lin [_,_,_,_,_] (.c 1 (.v 0) (.a (.v 1) (.n 1)) (.c 1 (.v 2) (.a (.v 3) (.v 4)) (.c 1 (.a (.a (.a (.a (.v 1) (.n 2)) (.v 3)) (.v 4)) (.n 1)) (.a (.a (.v 0) (.v 2)) (.n 1)) .z))) rfl hl gl),fun x hx=>?_,fun hn R k' f=>?_⟩
      · obtain⟨w',h3,h4⟩:=h'.met x ((congrArg List.head? e0).symm.trans hx)
        rw [ek]
        exact⟨w',h3,sp (h.non hd _ _ (.inr ⟨_,_,rfl,h4⟩))⟩
      · exact sp (h.non hd _ _ (.inr ⟨_,_,rfl,h'.non (e0.symm.trans hn) R k' (ek▸f)⟩))
theorem sem_ok (F:Fn O fn):∀(Fu:Nat) (n:Nd),sz n≤Fu→Sem s O fn (cp Fu) n
  | 0,n,h=>absurd (sz_pos n) (by exact lin [_] (.c 1 (.v 0) (.n 0) (.c 1 (.n 1) (.v 0) .z)) rfl h)
  | Fu+1,.ch t,h=>fun b mk D K h1 h2 c=>by
    have c1:=cc_fall F h2 c
    have h0:=h1.hd
    rw [F.n b _ h0 rfl]
    intro a r L k
    cases hb:metB s t a with
    | true =>
      obtain⟨j,h⟩:=c1 (a+t.length) r L (k+1)
      refine⟨j+1,cc_step h ?_ fun R k' h=>.onet (st_at h0) hb h⟩
      show(denN s (.ch t) a r.reverse).flatMap (fun z=>D z.1 z.2)=_
      rw [denN_1,hb,cond_true,List.flatMap_singleton]
    | false =>
      have e0:(denN s (.ch t) a r.reverse).flatMap (fun z=>D z.1 z.2)=[]:=by rw [denN_1,hb]; rfl
      refine⟨1,Nat.le_add_left _ _,fun x hx=>?_,fun hd R k' f=>?_⟩
      · cases (congrArg List.head? e0).symm.trans hx
      · rcases f with⟨rfl,rfl,rfl⟩ | ⟨L',w,rfl,T⟩
        · exact .onen (st_at h0) hb
        · exact .onep (st_at h0) hb T
  | Fu+1,.lt n q,h=>fun b mk D K h1 h2 c=>by
    rw [cp_3] at h1 h2 c
    rw [List.length_cons,List.length_append] at h2 c
    have h0:=h1.hd
    have hp:O[b+1+(cp Fu n (b+1)).length]? = some (.name q):=h1.tl.r.hd
    have h2':b+((cp Fu n (b+1)).length+1+1)<O.length:=h2
    have c':Cc s (O.map (st1 fn)) (fn (b+1+(cp Fu n (b+1)).length+1)) mk D K:=by
      rw [show b+1+(cp Fu n (b+1)).length+1=b+((cp Fu n (b+1)).length+1+1) by exact lnq [_,_] (.a (.a (.a (.v 0) (.n 1)) (.v 1)) (.n 1)) (.a (.v 0) (.a (.a (.v 1) (.n 1)) (.n 1))) rfl]; exact c
    have c1:=cc_fall F (by exact Nat.not_le.mp (lin [_,_,_] (.c 1 (.a (.a (.v 0) (.a (.a (.v 1) (.n 1)) (.n 1))) (.n 1)) (.v 2) (.c 1 (.v 2) (.a (.a (.a (.v 0) (.n 1)) (.v 1)) (.n 1)) .z)) rfl h2')) c'
    rw [F.n b _ h0 rfl]
    intro a r L k
    have c2:Cc s (O.map (st1 fn)) (b+1+(cp Fu n (b+1)).length) (a::mk) (fun a' nm'=>D a' (nm'++[(q,(s.take a').drop a)])) (K+2):=fun a' r' L k=>by
      obtain⟨j,h⟩:=c1 a' ((q,(s.take a').drop a)::r') L (k+1)
      exact⟨j+1,cc_step h (by rw [List.reverse_cons]) fun R k' h=>.name (st_at hp) h⟩
    have c3:=cc_fall F (by exact Nat.not_le.mp (lin [_,_,_] (.c 1 (.a (.a (.v 0) (.a (.a (.v 1) (.n 1)) (.n 1))) (.n 1)) (.v 2) (.c 1 (.v 2) (.a (.v 0) (.n 1)) .z)) rfl h2')) (sem_ok F Fu n (Nat.le_of_succ_le_succ h) (b:=b+1) h1.tl.l (by exact Nat.not_le.mp (lin [_,_,_] (.c 1 (.a (.a (.v 0) (.a (.a (.v 1) (.n 1)) (.n 1))) (.n 1)) (.v 2) (.c 1 (.v 2) (.a (.a (.v 0) (.n 1)) (.v 1)) .z)) rfl h2')) (by rw [F.n _ _ hp rfl]; exact c2))
    obtain⟨j,h⟩:=c3 a r L (k+1)
    refine⟨j+1,cc_step h ?_ fun R k' h=>.mark (st_at h0) h⟩
    show(denN s (.lt n q) a r.reverse).flatMap (fun z=>D z.1 z.2)=_
    rw [denN_2,List.flatMap_map]
  | Fu+1,.ca x y,h=>fun b mk D K h1 h2 c=>by
    rw [cp_4] at h1 h2 c
    have:=sem_S (joinT (rowK true (.ca x y))) (fun n hn=>by
      rcases joinT_mem hn with hn | hn
      · have:=row_ca_lt hn
        exact sem_ok F Fu n (by exact Nat.not_lt.mp (lin [_,_,_] (.c 1 (.v 0) (.a (.v 1) (.n 1)) (.c 1 (.a (.v 2) (.n 1)) (.v 0) (.c 1 (.a (.v 1) (.n 1)) (.v 2) .z))) rfl h this))
      · have:=sz_ch hn
        have:=sz_pos x
        have h0:sz (.ca x y)=sz x+sz y+1:=rfl
        exact sem_ok F Fu n (by omega)) h1 h2 c
    exact(this.mono (Nat.le_trans (joinT_bk _ K) (Nat.le_of_eq (bkS_row _ K)))).eq fun a nm=>by rw [joinT_den,denS_row]
  | Fu+1,.al x y,h=>fun b mk D K h1 h2 c=>by
    have hr:=snoc_of (Nat.le_of_succ_le (rowK_two_al x y)) (.ch [])
    have hm:∀ n∈rowK false (.al x y),Sem s O fn (cp Fu) n:=fun n hn=>by
      have:=row_al_lt hn
      exact sem_ok F Fu n (by exact Nat.not_lt.mp (lin [_,_,_] (.c 1 (.v 0) (.a (.v 1) (.n 1)) (.c 1 (.a (.v 2) (.n 1)) (.v 0) (.c 1 (.a (.v 1) (.n 1)) (.v 2) .z))) rfl h this))
    have hbk:=bkL_row (.al x y) K
    have hden:=fun a nm=>den_row s a nm (.al x y)
    rw [cp_5] at h1 h2 c
    generalize (rowK false (.al x y)).dropLast=ps at *
    generalize (rowK false (.al x y)).getLastD (.ch [])=z at *
    rw [hr] at hm hbk hden
    have he:b+(cpA (cp Fu) (endA (cp Fu) z ps b) z ps b).length=endA (cp Fu) z ps b:=by rw [cpA_len (cp Fu) _ 0]; rfl
    rw [he] at h2 c
    have:=sem_A F (hm z (List.mem_append_right _ (.head _))) c h2 ps (fun n hn=>hm n (List.mem_append_left _ hn)) h1 he
    rw [bkL_app,bkL_2,bkL_1] at hbk
    exact(this.mono (by exact Nat.not_lt.mp (lin [_,_,_] (.c 1 (.a (.v 0) (.a (.a (.v 1) (.n 2)) (.n 0))) (.a (.v 2) (.n 2)) (.c 1 (.a (.v 2) (.n 1)) (.a (.v 0) (.v 1)) .z)) rfl (Nat.le_of_eq hbk)))).eq fun a nm=>by rw [hden]
end
noncomputable def finF (O:List Od):Nat→Nat→Nat
  | 0,g=>g
  | f+1,g=>match O[g]? with
    | some x=>bif isJ x then finF O f (goal x) else g
    | none=>g
theorem finF_at {O:List Od} {f g:Nat} {x:Od} (h:O[g]? = some x):finF O (f+1) g=bif isJ x then finF O f (goal x) else g:=by rw [finF,h]
theorem finF_none {O:List Od} {f g:Nat} (h:O[g]? = none):finF O (f+1) g=g:=by rw [finF,h]
noncomputable def Fwd (O:List Od):Prop:=∀ i x,O[i]? = some x→isJS x=true→i<goal x∧goal x<O.length
theorem finF_more {O:List Od} (w:Fwd O):∀(f g:Nat),O.length≤g+f→finF O (f+1) g=finF O f g
  | 0,g,h=>finF_none (List.getElem?_eq_none_iff.mpr (by exact Nat.not_lt.mp (lin [_,_] (.c 1 (.v 0) (.a (.v 1) (.n 0)) (.c 1 (.a (.v 1) (.n 1)) (.v 0) .z)) rfl h)))
  | f+1,g,h=>by
    cases hx:O[g]? with
    | none=>rw [finF_none hx,finF_none hx]
    | some x =>
      rw [finF_at hx,finF_at hx]
      cases hj:isJ x with
      | false=>rfl
      | true =>
        have:=w g x hx (isJ_S hj)
        exact finF_more w f (goal x) (by exact Nat.not_lt.mp (lin [_,_,_,_] (.c 1 (.v 0) (.a (.v 1) (.a (.v 2) (.n 1))) (.c 1 (.a (.v 1) (.n 1)) (.v 3) (.c 1 (.a (.a (.v 3) (.v 2)) (.n 1)) (.v 0) .z))) rfl h this.1))
theorem fn_of {O:List Od} (w:Fwd O):Fn O (finF O O.length):=by
  refine⟨fun g x hx hj=>?_,fun g x hx hj=>?_⟩
  · have h:=w g x hx (isJ_S hj)
    obtain⟨k,hk⟩:∃ k,O.length=k+1:=Nat.exists_eq_add_one.mpr (by exact Nat.not_le.mp (lin [_,_,_] (.c 1 (.a (.v 0) (.n 1)) (.v 1) (.c 1 (.a (.v 1) (.n 1)) (.v 2) (.c 1 (.v 2) (.n 0) .z))) rfl h.1 h.2))
    rw [hk,finF_at hx,hj,cond_true,finF_more w k (goal x) (by exact Nat.not_lt.mp (lin [_,_,_,_] (.c 1 (.a (.v 0) (.n 1)) (.v 1) (.c 1 (.v 2) (.a (.v 3) (.n 1)) (.c 1 (.a (.a (.v 1) (.v 3)) (.n 1)) (.v 2) .z))) rfl h.1 (Nat.le_of_eq hk)))]
  · have hl:=(List.getElem?_eq_some_iff.mp hx).1
    obtain⟨k,hk⟩:∃ k,O.length=k+1:=Nat.exists_eq_add_one.mpr (by exact Nat.not_le.mp (lin [_,_] (.c 1 (.a (.v 0) (.n 1)) (.v 1) (.c 1 (.v 1) (.n 0) .z)) rfl hl))
    rw [hk,finF_at hx,hj,cond_false]
theorem fi_of {O:List Od} (w:Fwd O):∀(f g:Nat),g<O.length→O.length≤g+f→∃ n,n≤f∧Fi O n g (finF O f g)
  | 0,g,h1,h2=>by omega
  | f+1,g,h1,h2=>by
    have hx:O[g]? = some O[g]:=List.getElem?_eq_getElem h1
    generalize O[g] = x at hx
    rw [finF_at hx]
    cases hj:isJ x with
    | false=>exact⟨0,Nat.zero_le _,.stop hx hj⟩
    | true =>
      have:=w g x hx (isJ_S hj)
      obtain⟨n,hn,h⟩:=fi_of w f (goal x) this.2 (by exact Nat.not_lt.mp (lin [_,_,_,_] (.c 1 (.v 0) (.a (.v 1) (.a (.v 2) (.n 1))) (.c 1 (.a (.v 1) (.n 1)) (.v 3) (.c 1 (.a (.a (.v 3) (.v 2)) (.n 1)) (.v 0) .z))) rfl h2 this.1))
      exact⟨n+1,Nat.succ_le_succ hn,.go hx hj h⟩
noncomputable def FwE (e:Nat):Nat→List Od→Prop
  | _,[]=>True
  | b,x::c=>(isJS x=true→b<goal x∧goal x≤e)∧FwE e (b+1) c
theorem FwE.app {e:Nat}:∀ {c c':List Od} {b:Nat},FwE e b c→FwE e (b+c.length) c'→FwE e b (c++c')
  | [],c',b,_,h=>h
  | x::c,c',b,h,h'=>⟨h.1,FwE.app h.2 (by rw [List.length_cons] at h'; rw [show b+1+c.length=b+(c.length+1) by exact lnq [_,_] (.a (.a (.v 0) (.n 1)) (.v 1)) (.a (.v 0) (.a (.v 1) (.n 1))) rfl]; exact h')⟩
theorem FwE.mono {e e':Nat} (he:e≤e'):∀ {c:List Od} {b:Nat},FwE e b c→FwE e' b c
  | [],b,_=>trivial
  | x::c,b,h=>⟨fun hj=>⟨(h.1 hj).1,Nat.le_trans (h.1 hj).2 he⟩,FwE.mono he h.2⟩
theorem fw_S {g:Nd→Nat→List Od}:∀(ps:List Nd),(∀ p∈ps,∀ b,FwE (b+(g p b).length) b (g p b))→∀ b,FwE (b+(cpS g ps b).length) b (cpS g ps b)
  | [],_,b=>trivial
  | n::r,h,b=>by
    rw [cpS_2,List.length_append,← Nat.add_assoc]
    exact((h n (.head _) b).mono (Nat.le_add_right _ _)).app (fw_S r (fun p hp=>h p (.tail _ hp)) _)
theorem fw_A {g:Nd→Nat→List Od} {e:Nat} {z:Nd} (hz:∀ b,FwE (b+(g z b).length) b (g z b)):∀(ps:List Nd),(∀ p∈ps,∀ b,FwE (b+(g p b).length) b (g p b))→∀ b,b+(cpA g e z ps b).length=e→FwE e b (cpA g e z ps b)
  | [],_,b,h2=>by
    have h2':b+(g z b).length=e:=h2
    rw [← h2']; exact hz b
  | n::r,h,b,h2=>by
    rw [cpA_2] at h2 ⊢
    rw [List.length_cons,List.length_append,List.length_cons] at h2
    refine⟨fun _=>⟨?_,?_⟩,((h n (.head _) (b+1)).mono (by exact Nat.not_lt.mp (lin [_,_,_,_] (.c 1 (.a (.v 0) (.a (.a (.v 1) (.a (.v 2) (.n 1))) (.n 1))) (.v 3) (.c 1 (.a (.v 3) (.n 1)) (.a (.a (.v 0) (.n 1)) (.v 1)) .z)) rfl (Nat.le_of_eq h2)))).app ⟨fun _=>⟨?_,Nat.le_refl _⟩,?_⟩⟩
    · show b<b+_+2; exact Nat.not_le.mp (lin [_,_] (.c 1 (.a (.a (.v 0) (.v 1)) (.n 2)) (.v 0) .z) rfl)
    · show b+_+2≤e; exact Nat.not_lt.mp (lin [_,_,_,_] (.c 1 (.a (.v 0) (.a (.a (.v 1) (.a (.v 2) (.n 1))) (.n 1))) (.v 3) (.c 1 (.a (.v 3) (.n 1)) (.a (.a (.v 0) (.v 1)) (.n 2)) .z)) rfl (Nat.le_of_eq h2))
    · show b+1+_<e; exact Nat.not_le.mp (lin [_,_,_,_] (.c 1 (.a (.v 0) (.a (.a (.v 1) (.a (.v 2) (.n 1))) (.n 1))) (.v 3) (.c 1 (.v 3) (.a (.a (.v 0) (.n 1)) (.v 1)) .z)) rfl (Nat.le_of_eq h2))
    · have:=fw_A (e:=e) hz r (fun p hp=>h p (.tail _ hp)) (b+(g n (b+1)).length+2) (by exact Nat.le_antisymm (Nat.not_lt.mp (lin [_,_,_,_] (.c 1 (.a (.v 0) (.a (.a (.v 1) (.a (.v 2) (.n 1))) (.n 1))) (.v 3) (.c 1 (.a (.v 3) (.n 1)) (.a (.a (.a (.v 0) (.v 1)) (.n 2)) (.v 2)) .z)) rfl (Nat.le_of_eq h2))) (Nat.not_lt.mp (lin [_,_,_,_] (.c 1 (.v 0) (.a (.v 1) (.a (.a (.v 2) (.a (.v 3) (.n 1))) (.n 1))) (.c 1 (.a (.a (.a (.a (.v 1) (.v 2)) (.n 2)) (.v 3)) (.n 1)) (.v 0) .z)) rfl (Nat.le_of_eq (Eq.symm h2)))))
      rw [show b+1+(g n (b+1)).length+1=b+(g n (b+1)).length+2 by exact lnq [_,_] (.a (.a (.a (.v 0) (.n 1)) (.v 1)) (.n 1)) (.a (.a (.v 0) (.v 1)) (.n 2)) rfl]
      exact this
theorem fw_cp:∀(F:Nat) (n:Nd) (b:Nat),FwE (b+(cp F n b).length) b (cp F n b)
  | 0,n,b=>trivial
  | F+1,.ch t,b=>⟨fun h=>(by cases h),trivial⟩
  | F+1,.lt n q,b=>by
    have:=fw_cp F n (b+1)
    rw [cp_3,List.length_cons,List.length_append]
    exact⟨fun h=>(by cases h),(this.mono (by exact Nat.not_lt.mp (lin [_,_,_] (.c 1 (.a (.a (.v 0) (.a (.a (.v 1) (.v 2)) (.n 1))) (.n 1)) (.a (.a (.v 0) (.n 1)) (.v 1)) .z) rfl))).app ⟨fun h=>(by cases h),trivial⟩⟩
  | F+1,.ca x y,b=>fw_S _ (fun p _=>fw_cp F p) b
  | F+1,.al x y,b=>by
    rw [cp_5]
    have he:b+(cpA (cp F) (endA (cp F) ((rowK false (.al x y)).getLastD (.ch [])) (rowK false (.al x y)).dropLast b) ((rowK false (.al x y)).getLastD (.ch [])) (rowK false (.al x y)).dropLast b).length=endA (cp F) ((rowK false (.al x y)).getLastD (.ch [])) (rowK false (.al x y)).dropLast b:=by rw [cpA_len (cp F) _ 0]; rfl
    rw [he]
    exact fw_A (fw_cp F _) _ (fun p _=>fw_cp F p) b he
theorem FwE.at {e:Nat}:∀ {c:List Od} {b i:Nat} {x:Od},FwE e b c→c[i]? = some x→isJS x=true→b+i<goal x∧goal x≤e
  | y::c,b,0,x,h,hx,hj=>by cases hx; exact h.1 hj
  | y::c,b,i+1,x,h,hx,hj=>by
    have:=FwE.at h.2 (i:=i) hx hj
    exact⟨Nat.not_le.mp (lin [_,_,_] (.c 1 (.a (.a (.a (.v 0) (.n 1)) (.v 1)) (.n 1)) (.v 2) (.c 1 (.v 2) (.a (.v 0) (.a (.v 1) (.n 1))) .z)) rfl this.1),Nat.not_lt.mp (lin [_,_] (.c 1 (.v 0) (.v 1) (.c 1 (.a (.v 1) (.n 1)) (.v 0) .z)) rfl this.2)⟩
theorem fwd_code (n:Nd):Fwd (cp (sz n) n 0++[.done]):=fun i x hx hj=>by
  have h1:FwE (0+(cp (sz n) n 0).length) 0 (cp (sz n) n 0++[.done]):=(fw_cp (sz n) n 0).app ⟨fun h=>(by cases h),trivial⟩
  have:=FwE.at h1 hx hj
  rw [List.length_append]
  show _∧_<_+1
  exact⟨Nat.not_le.mp (lin [_,_] (.c 1 (.a (.a (.n 0) (.v 0)) (.n 1)) (.v 1) (.c 1 (.v 1) (.v 0) .z)) rfl this.1),Nat.not_le.mp (lin [_,_] (.c 1 (.v 0) (.a (.n 0) (.v 1)) (.c 1 (.a (.v 1) (.n 1)) (.v 0) .z)) rfl this.2)⟩
noncomputable abbrev codeO (n:Nd):List Od:=cp (sz n) n 0++[.done]
noncomputable abbrev fnO (n:Nd):Nat→Nat:=finF (codeO n) (codeO n).length
theorem machine_of (s:List Nat) (n:Nd):Machine s ((codeO n).map (st1 (fnO n))) (fun b=>denN s n b []) (bk n 1+1):=fun b k=>by
  have F:Fn (codeO n) (fnO n):=fn_of (fwd_code n)
  have hl:(codeO n).length=(cp (sz n) n 0).length+1:=by rw [List.length_append]; rfl
  have hd:(codeO n)[0+(cp (sz n) n 0).length]? = some .done:=by
    rw [Nat.zero_add,List.getElem?_append_right (Nat.le_refl _),Nat.sub_self]; rfl
  have c0:Cc s ((codeO n).map (st1 (fnO n))) (fnO n (0+(cp (sz n) n 0).length)) [] (fun a nm=>[(a,nm)]) 1:=fun a r L k=>by
    rw [F.n _ _ hd rfl]
    exact⟨1,Nat.le_refl _,fun x hx=>⟨⟨_,a,r,[]⟩,by cases hx; rfl,.done (st_at hd)⟩,fun h=>by cases h⟩
  have c1:=cc_fall F (by exact Nat.not_le.mp (lin [_,_] (.c 1 (.a (.v 0) (.n 1)) (.v 1) (.c 1 (.v 1) (.n 0) .z)) rfl (Nat.le_of_eq (Eq.symm hl)))) (sem_ok F (sz n) n (Nat.le_refl _) (b:=0) (fun i hi=>by rw [Nat.zero_add]; exact List.getElem?_append_left hi) (by exact Nat.not_le.mp (lin [_,_] (.c 1 (.a (.v 0) (.n 1)) (.v 1) (.c 1 (.v 1) (.a (.n 0) (.v 0)) .z)) rfl (Nat.le_of_eq (Eq.symm hl)))) c0)
  obtain⟨j,h⟩:=c1 b [] [] k
  have e:((denN s n b []).flatMap fun z=>[(z.1,z.2)])=denN s n b []:=List.flatMap_singleton' _
  cases hd:denN s n b [] with
  | nil=>exact⟨none,k+j,Nat.add_le_add_left h.le k,h.non (e.trans hd) _ _ (.inl ⟨rfl,rfl,rfl⟩),by show _=(denN s n b []).head?; rw [hd]; rfl⟩
  | cons x xs =>
    obtain⟨w,h1,h2⟩:=h.met x (congrArg List.head? (e.trans hd))
    exact⟨some w,k+j,Nat.add_le_add_left h.le k,h2,by show some (w.a,w.nm.reverse)=(denN s n b []).head?; rw [hd,h1]; rfl⟩
theorem bk_le:∀(n:Nd) (d K:Nat),dep n≤d→bk n K+2≤mm d * (K+2)
  | .ch t,d,K,_=>by
    have:=Nat.mul_le_mul_right (K+2) (mm_two d)
    show K+2+2≤_
    exact Nat.not_lt.mp (lin [_,_] (.c 1 (.m 2 (.a (.v 0) (.n 2))) (.v 1) (.c 1 (.a (.v 1) (.n 1)) (.a (.a (.v 0) (.n 2)) (.n 2)) .z)) rfl this)
  | .lt n q,0,K,h=>by rw [dep_2] at h; exact(lin [_] (.c 1 (.a (.v 0) (.n 1)) (.n 0) .z) rfl h).elim
  | .al x y,0,K,h=>by rw [dep_3] at h; omega
  | .ca x y,0,K,h=>by rw [dep_4] at h; omega
  | .lt n q,d+1,K,h=>by
    have h1:=bk_le n d (K+2) (Nat.le_of_succ_le_succ h)
    have h2:=Nat.mul_le_mul_right (mm d * (K+2)) (mm_two d)
    have h3:mm d * (K+2+2)≤mm d * (2 * (K+2)):=Nat.mul_le_mul_left _ (by exact Nat.not_lt.mp (lin [_] (.c 1 (.a (.m 2 (.a (.v 0) (.n 2))) (.n 1)) (.a (.a (.v 0) (.n 2)) (.n 2)) .z) rfl))
    rw [← Nat.mul_assoc,Nat.mul_comm (mm d) 2,Nat.mul_assoc] at h3
    rw [mm_2,Nat.add_mul,Nat.mul_assoc,Nat.one_mul]
    show bk n (K+2)+2+2≤_
    exact Nat.not_lt.mp (lin [_,_,_,_,_] (.c 1 (.a (.v 0) (.n 2)) (.v 1) (.c 1 (.m 2 (.v 2)) (.v 3) (.c 1 (.v 1) (.m 2 (.v 2)) (.c 1 (.a (.a (.v 3) (.a (.v 4) (.n 2))) (.n 1)) (.a (.a (.v 0) (.n 2)) (.n 2)) .z)))) rfl h1 h2 h3)
  | .al x y,d+1,K,h=>by
    have hx:=bk_le x d K (by rw [dep_3] at h; omega)
    have hy:=bk_le y d K (by rw [dep_3] at h; omega)
    have h2:=Nat.mul_le_mul_right (mm d * (K+2)) (mm_two d)
    rw [mm_2,Nat.add_mul,Nat.mul_assoc,Nat.one_mul]
    show bk x K+bk y K+2+2≤_
    exact Nat.not_lt.mp (lin [_,_,_,_,_] (.c 1 (.a (.v 0) (.n 2)) (.v 1) (.c 1 (.a (.v 2) (.n 2)) (.v 1) (.c 1 (.m 2 (.v 1)) (.v 3) (.c 1 (.a (.a (.v 3) (.a (.v 4) (.n 2))) (.n 1)) (.a (.a (.a (.v 0) (.v 2)) (.n 2)) (.n 2)) .z)))) rfl hx hy h2)
  | .ca x y,d+1,K,h=>by
    have hx:=bk_le x d (bk y K) (by rw [dep_4] at h; omega)
    have hy:=Nat.mul_le_mul_left (mm d) (bk_le y d K (by rw [dep_4] at h; omega))
    rw [mm_2,Nat.add_mul,Nat.mul_assoc,Nat.one_mul]
    show bk x (bk y K)+2≤_
    exact Nat.not_lt.mp (lin [_,_,_,_] (.c 1 (.a (.v 0) (.n 2)) (.v 1) (.c 1 (.v 1) (.v 2) (.c 1 (.a (.a (.v 2) (.a (.v 3) (.n 2))) (.n 1)) (.a (.v 0) (.n 2)) .z))) rfl hx hy)
section
variable {own:List FI} {d:Nat} {H:Hp} {h:Nat} {va rf lg:V} {m:Int} {k:Nat}
theorem compiled_ok {s:List Nat} {n:Nd} {an:Bool} (hh:H[h]? = some (hostO va rf lg m k)) (hm:m<100000) (hs:s.length<1000) (hz:sz n<100) (hn:isCh n=true∨sm n) (hk:((k+cnt an s * (bk n 1+1):Nat):Int)≤m) :
    Ca (pgc own) (d+8) 59 [nV n,.str s,.bool an,.loc h] H (k+cnt an s * (bk n 1+1)) h va rf lg m fun H' v=>R3 H' (fst3 (fun b=>denN s n b []) (cnt an s) 0) v:=by
  have w:=fwd_code n
  have hcl:=cp_len (sz n) n 0
  have hl:(codeO n).length=(cp (sz n) n 0).length+1:=by rw [List.length_append]; rfl
  obtain⟨r,H1,e1,g1,hr,ho⟩:=compile_ok (own:=own) (d:=d+2) (H:=H) (n:=n) (fnO n) (by exact Nat.not_le.mp (lin [_] (.c 1 (.a (.v 0) (.n 1)) (.n 100) (.c 1 (.n 1000) (.v 0) .z)) rfl hz)) hn fun x hx hj=>by
    obtain⟨i,hi⟩:=List.getElem?_of_mem hx
    have hw:=w i x hi hj
    obtain⟨c,hc,hf⟩:=fi_of w (codeO n).length (goal x) hw.2 (Nat.le_add_left _ _)
    exact⟨c,by exact Nat.not_le.mp (lin [_,_,_,_] (.c 6 (.a (.v 0) (.n 1)) (.n 100) (.c 1 (.v 1) (.m 6 (.v 0)) (.c 1 (.v 2) (.a (.v 1) (.n 1)) (.c 1 (.v 3) (.v 2) (.c 1 (.n 1000) (.v 3) .z))))) rfl hz hcl (Nat.le_of_eq hl) hc),hf⟩
  have hlt:=lt_get hh
  obtain⟨k',v,H2,hk',e2,t2,r2⟩:=orders_ok (own:=own) (d:=d) (machine_of s n) hm (by exact Nat.ne_of_gt (Nat.not_le.mp (lin [_,_,_] (.c 1 (.v 0) (.v 1) (.c 1 (.a (.v 2) (.n 1)) (.v 0) (.c 1 (.v 1) (.v 2) .z))) rfl hr hlt))) (g1.at hh) ho hs hk
  exact⟨k',v,H2,hk',call_ret rfl rfl (s_stop (s_ret0 (r_call r_glob (r_cons (r_call r_glob (r_cons (r_loc rfl) r_nil) e1) (r_cons (r_loc rfl) (r_cons (r_loc rfl) (r_cons (r_loc rfl) r_nil)))) e2))),
    ⟨Nat.le_trans g1.len t2.len,t2.host,fun i h1 h2=>(t2.off i (Nat.lt_of_lt_of_le h1 g1.len) h2).trans (g1.off i h1)⟩,r2⟩
end
namespace L3
section
variable {d:Nat} {H:Hp} {cells:List V} {ns:List Int}
noncomputable abbrev P3:Pg:=pgc Mine.L3.fnsL
structure Fd (cells:List V) (t:Nat) (H:Hp):Prop where
  h0:H[0]? = some (.list cells)
  h1:H[1]? = some (.list [.loc 0,.int t])
theorem next_ok_k {t:Nat} {m:Int} (f:Fd cells t H) (hc:cells=ns.map .int) (hl:ns.length≤40) (ht:t<1000) (hm:0<m) {zg:Prop} (zk:∀ r,(0≤r)→(r<m)→(callF P3 (d+1) 72 [.loc 1,.int m] H=some (.int r,H.set 1 (.list [.loc 0,.int (t+1:Nat)])))→zg):zg:=by
  have h0:=f.h0
  have h1:=f.h1
  have g0:(H.set 1 (.list [.loc 0,.int (t+1:Nat)]))[0]? = some (.list cells):=set_off (by decide) h0
  have hcl:cells.length=ns.length:=by rw [hc,List.length_map]
  by_cases hlt:t<ns.length
  · have hn:ns[t]? = some ns[t]:=List.getElem?_eq_getElem hlt
    have hcn:idxL cells t=some (.int ns[t]):=g_idx0 rfl (by rw [hc,List.getElem?_map,hn]; rfl)
    exact zk ((ns[t].natAbs:Int) % m) (Int.emod_nonneg _ (by omega)) (Int.emod_lt_of_pos _ hm) (call_ret rfl rfl (s_seq (s_asg0 (r_loc rfl) (t_tup0 (g_unpk h1) (t_cons0 t_loc0 (t_cons0 t_loc0 t_nil0)))) (s_seq (s_asg0 (r_bin (r_loc rfl) r_lit (by rfl)) (t_idx0 (r_loc rfl) r_lit (g_setI h1 ⟨by decide,Nat.le_refl 2⟩))) (s_stop (s_if_t (r_cmp (r_loc rfl) (r_prim (r_cons (r_loc rfl) r_nil) (g_len g0)) (c_lt_t (by omega))) (s_stop (s_ret0 (r_bin (r_prim (r_cons (r_prim (r_cons (r_idx (r_loc rfl) (r_loc rfl) (g_idxL g0 hcn)) r_nil) (by rfl)) r_nil) (by rfl)) (r_loc rfl) (by exact gd_at hm)))))))))
  · have b1:(t:Int).natAbs<1152921504606846976:=by omega
    have b2:((t:Int) * t).natAbs<1152921504606846976:=by
      have h:=Nat.mul_le_mul (Nat.le_of_lt ht) (Nat.le_of_lt ht)
      rw [← Int.natCast_mul]; omega
    exact zk ((5 * (t:Int)+(t:Int) * t / 3+3+cells.length) % m) (Int.emod_nonneg _ (by omega)) (Int.emod_lt_of_pos _ hm) (call_ret rfl rfl (s_seq (s_asg0 (r_loc rfl) (t_tup0 (g_unpk h1) (t_cons0 t_loc0 (t_cons0 t_loc0 t_nil0)))) (s_seq (s_asg0 (r_bin (r_loc rfl) r_lit (by rfl)) (t_idx0 (r_loc rfl) r_lit (g_setI h1 ⟨by decide,Nat.le_refl 2⟩))) (s_seq (s_if_f (r_cmp (r_loc rfl) (r_prim (r_cons (r_loc rfl) r_nil) (g_len g0)) (c_lt_f (by omega))) s_nil0) (s_stop (s_ret0 (r_bin (r_bin (r_bin (r_bin (r_bin r_lit (r_loc rfl) (gd_at ⟨by decide,b1⟩)) (r_bin (r_bin (r_loc rfl) (r_loc rfl) (gd_at ⟨b1,b1⟩)) r_lit (gd_at ⟨by decide,b2,by decide⟩)) (by rfl)) r_lit (by rfl)) (r_prim (r_cons (r_loc rfl) r_nil) (g_len g0)) (by rfl)) (r_loc rfl) (by exact gd_at hm))))))))
theorem next_ok {t:Nat} {m:Int} (f:Fd cells t H) (hc:cells=ns.map .int) (hl:ns.length≤40) (ht:t<1000) (hm:0<m):∃ r,0≤r∧r<m∧callF P3 (d+1) 72 [.loc 1,.int m] H=some (.int r,H.set 1 (.list [.loc 0,.int (t+1:Nat)])):=next_ok_k f hc hl ht hm fun r zh1 zh2 zh3=>⟨r,zh1,zh2,zh3⟩
theorem Fd.step {t:Nat} (f:Fd cells t H):Fd cells (t+1) (H.set 1 (.list [.loc 0,.int (t+1:Nat)])):=⟨set_off (by decide) f.h0,set_at f.h1⟩
theorem Fd.app {t:Nat} (f:Fd cells t H) (x:Hp):Fd cells t (H++x):=⟨app_in f.h0,app_in f.h1⟩
structure F1 (H H':Hp):Prop where
  len:H.length≤H'.length
  off:∀ i x,i≠1→H[i]? = some x→H'[i]? = some x
theorem F1.refl:F1 H H:=⟨Nat.le_refl _,fun _ _ _ h=>h⟩
theorem F1.trans {H1 H2:Hp} (a:F1 H H1) (b:F1 H1 H2):F1 H H2:=⟨Nat.le_trans a.len b.len,fun i x h1 h=>b.off i x h1 (a.off i x h1 h)⟩
theorem F1.set {x:O}:F1 H (H.set 1 x):=⟨by rw [List.length_set]; exact Nat.le_refl _,fun i x h1 h=>set_off h1.symm h⟩
theorem F1.app (x:Hp):F1 H (H++x):=⟨by rw [List.length_append]; exact Nat.le_add_right _ _,fun i x h1 h=>app_in h⟩
noncomputable abbrev refO (k:List Nat):O:=.inst 1 [(15,.str [118,97,114]),(16,.none),(17,.str k)]
noncomputable def Rk (H:Hp):Nd→Prop
  | .ch _=>True
  | .lt n q=>Rk H n∧∃ k:List Nat,H[q]? = some (refO k)∧k.all (· < 128)=true
  | .al a b=>Rk H a∧Rk H b
  | .ca a b=>Rk H a∧Rk H b
theorem Rk.f1 {H1:Hp} (f:F1 H H1) {t:Nat} (fd:Fd cells t H):∀ {n:Nd},Rk H n→Rk H1 n
  | .ch _,_=>trivial
  | .lt n q,h=>⟨Rk.f1 f fd h.1,by obtain⟨k,hk,ha⟩:=h.2; exact⟨k,f.off q _ (ob_ne hk fd.h1 (fun e=>by cases e)) hk,ha⟩⟩
  | .al a b,h=>⟨Rk.f1 f fd h.1,Rk.f1 f fd h.2⟩
  | .ca a b,h=>⟨Rk.f1 f fd h.1,Rk.f1 f fd h.2⟩
theorem ref_init {v0 v1 v2:V}:callF P3 (d+1) 15 [.loc H.length,v0,v1,v2] (H++[.inst 1 []])=some (.none,H++[.inst 1 [(15,v0),(16,v1),(17,v2)]]) :=
  call_next rfl rfl (s_seq (s_asg0 (r_loc rfl) (t_attr0 (r_loc rfl) g_setN)) (s_seq (s_asg0 (r_loc rfl) (t_attr0 (r_loc rfl) g_setN)) (s_seq (s_asg0 (r_loc rfl) (t_attr0 (r_loc rfl) g_setN)) s_nil0)))
noncomputable def cc:Nat→Nat
  | 0=>2
  | n+1=>2 * cc n+2
structure Nk (cells:List V) (H:Hp) (t deep:Nat) (n:Nd) (t':Nat) (H':Hp):Prop where
  fd:Fd cells t' H'
  t:t'≤t+cc deep
  f1:F1 H H'
  rk:Rk H' n
  dep:dep n≤deep
  sm:sm n
  sz:sz n+1≤2 ^ (deep+1)
theorem text_at_k (H:Hp) (r:Int) (h0:0≤r) (h1:r<6) {zg:Prop} (zk:∀(t:List Nat),((t.length≤2∧t.all (· < 128)=true))→(idxL [V.str [97],.str [98],.str [97,98],.str [98,97],.str [],.str [98,98]] r=some (.str t))→zg):zg:=by
  have:r=0∨r=1∨r=2∨r=3∨r=4∨r=5:=by omega
  rcases this with rfl | rfl | rfl | rfl | rfl | rfl <;> exact zk _ (by decide) rfl
end
end L3
namespace L3
section
variable {D:Nat} {H:Hp} {cells:List V} {ns:List Int}
theorem sub1 {k:Nat} {H:Hp}:binV .sub (.int (k+1:Nat)) (.int 1) H=some (.int k,H):=by
  show some (V.int (((k+1:Nat):Int) - 1),H)=_
  rw [show((k+1:Nat):Int) - 1=k by omega]
inductive NodeR (D:Nat) (cells:List V) (H:Hp) (t deep:Nat):Prop where
  | mk (n:Nd) (t':Nat) (H':Hp) (e:callF P3 (D+deep+2) 73 [.loc 1,.int deep] H=some (nV n,H')) (k:Nk cells H t deep n t' H'):NodeR D cells H t deep
theorem node_ok (hc:cells=ns.map .int) (hl:ns.length≤40):∀(deep t:Nat) (H:Hp),Fd cells t H→t+cc deep<1000→NodeR D cells H t deep
  | 0,t,H,f,ht=>by
    refine next_ok_k (d:=D) (m:=6) (f.app [.list [.str [97],.str [98],.str [97,98],.str [98,97],.str [],.str [98,98]]]) hc hl (by exact Nat.not_le.mp (lin [_,_] (.c 1 (.a (.a (.v 0) (.v 1)) (.n 1)) (.n 1000) (.c 1 (.n 1000) (.v 0) .z)) rfl ht)) (by decide) fun r h0 h1 e1=>?_
    refine text_at_k H r h0 h1 fun s hs hx=>?_
    exact⟨.ch s,t+1,_,call_ret rfl rfl (s_seq (s_asg0 (r_ife_f (r_cmp (r_loc rfl) r_lit (by rfl)) r_lit) t_loc0) (s_stop (s_if_t (r_cmp (r_loc rfl) r_lit (by rfl)) (s_stop (s_ret0 (r_tup (r_cons r_lit (r_cons (r_idx (r_lst (r_cons r_lit (r_cons r_lit (r_cons r_lit (r_cons r_lit (r_cons r_lit (r_cons r_lit r_nil))))))) (r_call r_glob (r_cons (r_loc rfl) (r_cons r_lit r_nil)) e1) (by exact g_idxL (set_off (ne_len f.h1) app_new) hx)) r_nil)))))))),(f.app _).step,Nat.add_le_add_left (by decide) t,(F1.app _).trans F1.set,trivial,Nat.le_refl _,hs,Nat.le_refl _⟩
  | deep+1,t,H,f,ht=>by
    have hcc:cc (deep+1)=2 * cc deep+2:=rfl
    have hpow:2 ^ (deep+1+1)=2 * 2 ^ (deep+1):=by rw [Nat.pow_succ,Nat.mul_comm]
    have hp1:2≤2 ^ (deep+1):=by rw [Nat.pow_succ]; have:=Nat.two_pow_pos deep; exact Nat.not_lt.mp (lin [_] (.c 2 (.a (.n 0) (.n 1)) (.v 0) (.c 1 (.a (.r (.v 0) 2) (.n 1)) (.n 2) .z)) rfl this)
    refine next_ok_k (d:=D+deep+1) (m:=6) f hc hl (by exact Nat.not_le.mp (lin [_,_,_] (.c 1 (.a (.a (.v 0) (.v 1)) (.n 1)) (.n 1000) (.c 1 (.a (.m 2 (.v 2)) (.n 2)) (.v 1) (.c 1 (.n 1000) (.v 0) .z))) rfl ht (Nat.le_of_eq (Eq.symm hcc)))) (by decide) fun r h0 h1 e0=>?_
    have f1:=f.step
    by_cases hr:r<2
    · refine next_ok_k (d:=D+deep+1) (m:=6) (f1.app [.list [.str [97],.str [98],.str [97,98],.str [98,97],.str [],.str [98,98]]]) hc hl (by exact Nat.not_le.mp (lin [_,_,_] (.c 1 (.a (.a (.v 0) (.v 1)) (.n 1)) (.n 1000) (.c 1 (.a (.m 2 (.v 2)) (.n 2)) (.v 1) (.c 1 (.n 1000) (.a (.v 0) (.n 1)) .z))) rfl ht (Nat.le_of_eq (Eq.symm hcc)))) (by decide) fun q h2 h3 e1=>?_
      refine text_at_k H q h2 h3 fun s hs hx=>?_
      exact⟨.ch s,t+1+1,_,call_ret rfl rfl (s_seq (s_asg0 (r_ife_t (r_cmp (r_loc rfl) r_lit (c_gt_t (by omega))) (r_call r_glob (r_cons (r_loc rfl) (r_cons r_lit r_nil)) e0)) t_loc0) (s_stop (s_if_t (r_cmp (r_loc rfl) r_lit (c_lt_t (by omega))) (s_stop (s_ret0 (r_tup (r_cons r_lit (r_cons (r_idx (r_lst (r_cons r_lit (r_cons r_lit (r_cons r_lit (r_cons r_lit (r_cons r_lit (r_cons r_lit r_nil))))))) (r_call r_glob (r_cons (r_loc rfl) (r_cons r_lit r_nil)) e1) (by exact g_idxL (set_off (ne_len f1.h1) app_new) hx)) r_nil)))))))),(f1.app _).step,by exact Nat.not_lt.mp (lin [_,_,_] (.c 1 (.a (.m 2 (.v 0)) (.n 2)) (.v 1) (.c 1 (.a (.a (.v 2) (.v 1)) (.n 1)) (.a (.a (.v 2) (.n 1)) (.n 1)) .z)) rfl (Nat.le_of_eq (Eq.symm hcc))),(F1.set.trans (F1.app _)).trans F1.set,trivial,Nat.zero_le _,hs,by show 1+1≤_; exact Nat.not_lt.mp (lin [_,_] (.c 1 (.m 2 (.v 0)) (.v 1) (.c 2 (.n 2) (.v 0) (.c 1 (.a (.v 1) (.n 1)) (.a (.n 1) (.n 1)) .z))) rfl (Nat.le_of_eq (Eq.symm hpow)) hp1)⟩
    · obtain⟨a,t2,H2,e1,ka⟩:=node_ok hc hl deep (t+1) _ f1 (by exact Nat.not_le.mp (lin [_,_,_] (.c 1 (.a (.a (.v 0) (.v 1)) (.n 1)) (.n 1000) (.c 1 (.a (.m 2 (.v 2)) (.n 2)) (.v 1) (.c 1 (.n 1000) (.a (.a (.v 0) (.n 1)) (.v 2)) .z))) rfl ht (Nat.le_of_eq (Eq.symm hcc))))
      have kt:=ka.t
      have kz:=ka.sz
      by_cases hr5:r=5
      · subst hr5
        refine next_ok_k (d:=D+deep+1) (m:=2) ka.fd hc hl (by exact Nat.not_le.mp (lin [_,_,_,_] (.c 1 (.a (.a (.v 0) (.v 1)) (.n 1)) (.n 1000) (.c 1 (.a (.m 2 (.v 2)) (.n 2)) (.v 1) (.c 1 (.v 3) (.a (.a (.v 0) (.n 1)) (.v 2)) (.c 1 (.n 1000) (.v 3) .z)))) rfl ht (Nat.le_of_eq (Eq.symm hcc)) kt)) (by decide) fun q h2 h3 e2=>?_
        obtain⟨k,hka,hk⟩:∃ k:List Nat,k.all (· < 128)=true∧idxV (H2.set 1 (.list [.loc 0,.int (t2+1:Nat)])) (.str [65,66]) (.int q)=some (.str k):=by
          have:q=0∨q=1:=by omega
          rcases this with rfl | rfl
          · exact⟨[65],rfl,rfl⟩
          · exact⟨[66],rfl,rfl⟩
        refine⟨.lt a (H2.set 1 (.list [.loc 0,.int (t2+1:Nat)])).length,t2+1,_,call_ret rfl rfl (s_seq (s_asg0 (r_ife_t (r_cmp (r_loc rfl) r_lit (c_gt_t (by omega))) (r_call r_glob (r_cons (r_loc rfl) (r_cons r_lit r_nil)) e0)) t_loc0) (s_seq (s_if_f (r_cmp (r_loc rfl) r_lit (by rfl)) s_nil0) (s_stop (s_if_t (r_cmp (r_loc rfl) r_lit (by rfl)) (s_stop (s_ret0 (r_tup (r_cons r_lit (r_cons (r_call r_glob (r_cons (r_loc rfl) (r_cons (r_bin (r_loc rfl) r_lit sub1) r_nil)) e1) (r_cons (r_new (r_cons r_lit (r_cons r_lit (r_cons (r_idx r_lit (r_call r_glob (r_cons (r_loc rfl) (r_cons r_lit r_nil)) e2) (by exact hk)) r_nil))) rfl ref_init) r_nil)))))))))),(ka.fd.step).app _,by exact Nat.not_lt.mp (lin [_,_,_,_] (.c 1 (.a (.m 2 (.v 0)) (.n 2)) (.v 1) (.c 1 (.v 2) (.a (.a (.v 3) (.n 1)) (.v 0)) (.c 1 (.a (.a (.v 3) (.v 1)) (.n 1)) (.a (.v 2) (.n 1)) .z))) rfl (Nat.le_of_eq (Eq.symm hcc)) kt),(F1.set.trans ka.f1).trans (F1.set.trans (F1.app _)),⟨ka.rk.f1 (F1.set.trans (F1.app _)) ka.fd,k,app_new,hka⟩,Nat.succ_le_succ ka.dep,ka.sm,by show sz a+1+1≤_; exact Nat.not_lt.mp (lin [_,_,_] (.c 1 (.m 2 (.v 0)) (.v 1) (.c 1 (.n 2) (.v 0) (.c 1 (.a (.v 2) (.n 1)) (.v 0) (.c 1 (.a (.v 1) (.n 1)) (.a (.a (.v 2) (.n 1)) (.n 1)) .z)))) rfl (Nat.le_of_eq (Eq.symm hpow)) hp1 kz)⟩
      · have:r=2∨r=3∨r=4:=by omega
        obtain⟨a,t2,H2,e1,ka⟩:=node_ok hc hl deep (t+1) _ (f1.app [.list [.str [97,108,116],.str [99,97,116]]]) (by exact Nat.not_le.mp (lin [_,_,_] (.c 1 (.a (.a (.v 0) (.v 1)) (.n 1)) (.n 1000) (.c 1 (.a (.m 2 (.v 2)) (.n 2)) (.v 1) (.c 1 (.n 1000) (.a (.a (.v 0) (.n 1)) (.v 2)) .z))) rfl ht (Nat.le_of_eq (Eq.symm hcc))))
        have kt:=ka.t
        have kz:=ka.sz
        obtain⟨b,t3,H3,e2,kb⟩:=node_ok hc hl deep t2 H2 ka.fd (by exact Nat.not_le.mp (lin [_,_,_,_] (.c 1 (.a (.a (.v 0) (.v 1)) (.n 1)) (.n 1000) (.c 1 (.a (.m 2 (.v 2)) (.n 2)) (.v 1) (.c 1 (.v 3) (.a (.a (.v 0) (.n 1)) (.v 2)) (.c 1 (.n 1000) (.a (.v 3) (.v 2)) .z)))) rfl ht (Nat.le_of_eq (Eq.symm hcc)) kt))
        have kt2:=kb.t
        have kz2:=kb.sz
        have ff:=((F1.set (H:=H)).trans ((F1.app _).trans ka.f1)).trans kb.f1
        have kdep:max (dep a) (dep b)+1≤deep+1:=Nat.succ_le_succ (Nat.max_le.mpr ⟨ka.dep,kb.dep⟩)
        rcases this with rfl | rfl | rfl
        · exact⟨.al a b,t3,H3,call_ret rfl rfl (s_seq (s_asg0 (r_ife_t (r_cmp (r_loc rfl) r_lit (c_gt_t (by omega))) (r_call r_glob (r_cons (r_loc rfl) (r_cons r_lit r_nil)) e0)) t_loc0) (s_seq (s_if_f (r_cmp (r_loc rfl) r_lit (by rfl)) s_nil0) (s_seq (s_if_f (r_cmp (r_loc rfl) r_lit (by rfl)) s_nil0) (s_stop (s_ret0 (r_tup (r_cons (r_idx (r_lst (r_cons r_lit (r_cons r_lit r_nil))) (r_bin (r_loc rfl) r_lit (by rfl)) (by exact g_idxL app_new (by rfl))) (r_cons (r_call r_glob (r_cons (r_loc rfl) (r_cons (r_bin (r_loc rfl) r_lit sub1) r_nil)) e1) (r_cons (r_call r_glob (r_cons (r_loc rfl) (r_cons (r_bin (r_loc rfl) r_lit sub1) r_nil)) e2) r_nil))))))))),kb.fd,by exact Nat.not_lt.mp (lin [_,_,_,_,_] (.c 1 (.a (.m 2 (.v 0)) (.n 2)) (.v 1) (.c 1 (.v 2) (.a (.a (.v 3) (.n 1)) (.v 0)) (.c 1 (.v 4) (.a (.v 2) (.v 0)) (.c 1 (.a (.a (.v 3) (.v 1)) (.n 1)) (.v 4) .z)))) rfl (Nat.le_of_eq (Eq.symm hcc)) kt kt2),ff,⟨ka.rk.f1 kb.f1 ka.fd,kb.rk⟩,kdep,⟨ka.sm,kb.sm⟩,by show sz a+sz b+1+1≤_; exact Nat.not_lt.mp (lin [_,_,_,_] (.c 1 (.m 2 (.v 0)) (.v 1) (.c 1 (.a (.v 2) (.n 1)) (.v 0) (.c 1 (.a (.v 3) (.n 1)) (.v 0) (.c 1 (.a (.v 1) (.n 1)) (.a (.a (.a (.v 2) (.v 3)) (.n 1)) (.n 1)) .z)))) rfl (Nat.le_of_eq (Eq.symm hpow)) kz kz2)⟩
        · exact⟨.ca a b,t3,H3,call_ret rfl rfl (s_seq (s_asg0 (r_ife_t (r_cmp (r_loc rfl) r_lit (c_gt_t (by omega))) (r_call r_glob (r_cons (r_loc rfl) (r_cons r_lit r_nil)) e0)) t_loc0) (s_seq (s_if_f (r_cmp (r_loc rfl) r_lit (by rfl)) s_nil0) (s_seq (s_if_f (r_cmp (r_loc rfl) r_lit (by rfl)) s_nil0) (s_stop (s_ret0 (r_tup (r_cons (r_idx (r_lst (r_cons r_lit (r_cons r_lit r_nil))) (r_bin (r_loc rfl) r_lit (by rfl)) (by exact g_idxL app_new (by rfl))) (r_cons (r_call r_glob (r_cons (r_loc rfl) (r_cons (r_bin (r_loc rfl) r_lit sub1) r_nil)) e1) (r_cons (r_call r_glob (r_cons (r_loc rfl) (r_cons (r_bin (r_loc rfl) r_lit sub1) r_nil)) e2) r_nil))))))))),kb.fd,by exact Nat.not_lt.mp (lin [_,_,_,_,_] (.c 1 (.a (.m 2 (.v 0)) (.n 2)) (.v 1) (.c 1 (.v 2) (.a (.a (.v 3) (.n 1)) (.v 0)) (.c 1 (.v 4) (.a (.v 2) (.v 0)) (.c 1 (.a (.a (.v 3) (.v 1)) (.n 1)) (.v 4) .z)))) rfl (Nat.le_of_eq (Eq.symm hcc)) kt kt2),ff,⟨ka.rk.f1 kb.f1 ka.fd,kb.rk⟩,kdep,⟨ka.sm,kb.sm⟩,by show sz a+sz b+1+1≤_; exact Nat.not_lt.mp (lin [_,_,_,_] (.c 1 (.m 2 (.v 0)) (.v 1) (.c 1 (.a (.v 2) (.n 1)) (.v 0) (.c 1 (.a (.v 3) (.n 1)) (.v 0) (.c 1 (.a (.v 1) (.n 1)) (.a (.a (.a (.v 2) (.v 3)) (.n 1)) (.n 1)) .z)))) rfl (Nat.le_of_eq (Eq.symm hpow)) kz kz2)⟩
        · exact⟨.al a b,t3,H3,call_ret rfl rfl (s_seq (s_asg0 (r_ife_t (r_cmp (r_loc rfl) r_lit (c_gt_t (by omega))) (r_call r_glob (r_cons (r_loc rfl) (r_cons r_lit r_nil)) e0)) t_loc0) (s_seq (s_if_f (r_cmp (r_loc rfl) r_lit (by rfl)) s_nil0) (s_seq (s_if_f (r_cmp (r_loc rfl) r_lit (by rfl)) s_nil0) (s_stop (s_ret0 (r_tup (r_cons (r_idx (r_lst (r_cons r_lit (r_cons r_lit r_nil))) (r_bin (r_loc rfl) r_lit (by rfl)) (by exact g_idxL app_new (by rfl))) (r_cons (r_call r_glob (r_cons (r_loc rfl) (r_cons (r_bin (r_loc rfl) r_lit sub1) r_nil)) e1) (r_cons (r_call r_glob (r_cons (r_loc rfl) (r_cons (r_bin (r_loc rfl) r_lit sub1) r_nil)) e2) r_nil))))))))),kb.fd,by exact Nat.not_lt.mp (lin [_,_,_,_,_] (.c 1 (.a (.m 2 (.v 0)) (.n 2)) (.v 1) (.c 1 (.v 2) (.a (.a (.v 3) (.n 1)) (.v 0)) (.c 1 (.v 4) (.a (.v 2) (.v 0)) (.c 1 (.a (.a (.v 3) (.v 1)) (.n 1)) (.v 4) .z)))) rfl (Nat.le_of_eq (Eq.symm hcc)) kt kt2),ff,⟨ka.rk.f1 kb.f1 ka.fd,kb.rk⟩,kdep,⟨ka.sm,kb.sm⟩,by show sz a+sz b+1+1≤_; exact Nat.not_lt.mp (lin [_,_,_,_] (.c 1 (.m 2 (.v 0)) (.v 1) (.c 1 (.a (.v 2) (.n 1)) (.v 0) (.c 1 (.a (.v 3) (.n 1)) (.v 0) (.c 1 (.a (.v 1) (.n 1)) (.a (.a (.a (.v 2) (.v 3)) (.n 1)) (.n 1)) .z)))) rfl (Nat.le_of_eq (Eq.symm hpow)) kz kz2)⟩
end
end L3
namespace L3
noncomputable def wd:Nd→List (List Nat×Nm)
  | .ch t=>[(t,[])]
  | .lt n q=>(wd n).map fun w=>(w.1,w.2++[(q,w.1)])
  | .al a b=>wd a++wd b
  | .ca a b=>(wd a).flatMap fun w=>(wd b).map fun z=>(w.1++z.1,w.2++z.2)
theorem wd_1 {t}:wd (.ch t)=[(t,[])]:=rfl
theorem wd_2 {n q}:wd (.lt n q)=(wd n).map fun w=>(w.1,w.2++[(q,w.1)]):=rfl
theorem wd_3 {a b}:wd (.al a b)=wd a++wd b:=rfl
theorem wd_4 {a b}:wd (.ca a b)=(wd a).flatMap fun w=>(wd b).map fun z=>(w.1++z.1,w.2++z.2):=rfl
theorem wd_len:∀ n,(wd n).length≤2 ^ sz n
  | .ch t=>Nat.le_succ 1
  | .lt n q=>by
    rw [wd_2,List.length_map]
    exact Nat.le_trans (wd_len n) (Nat.pow_le_pow_right (by decide) (Nat.le_succ _))
  | .al a b=>by
    have ha:=wd_len a
    have hb:=wd_len b
    have h1:2 ^ sz a≤2 ^ (sz a+sz b):=Nat.pow_le_pow_right (by decide) (Nat.le_add_right _ _)
    have h2:2 ^ sz b≤2 ^ (sz a+sz b):=Nat.pow_le_pow_right (by decide) (Nat.le_add_left _ _)
    rw [wd_3,List.length_append,sz_3,Nat.pow_succ]; omega
  | .ca a b=>by
    have ha:=wd_len a
    have hb:=wd_len b
    have:∀(l:List (List Nat×Nm)),(l.flatMap fun w=>(wd b).map fun z=>(w.1++z.1,w.2++z.2)).length=l.length * (wd b).length:=fun l=>by
      induction l with
      | nil=>rw [List.flatMap_nil,List.length_nil,Nat.zero_mul]
      | cons w l ih=>rw [List.flatMap_cons,List.length_append,ih,List.length_map,List.length_cons,Nat.succ_mul,Nat.add_comm]
    rw [wd_4,this,sz_4,Nat.add_assoc,Nat.pow_add,Nat.pow_succ]
    exact Nat.mul_le_mul ha (Nat.le_trans hb (Nat.le_mul_of_pos_right _ (by decide)))
theorem wd_mem:∀(n:Nd),sm n→∀ w∈wd n,w.1.length≤2 * sz n∧w.2.length≤sz n
  | .ch t,h,w,hw=>by rw [List.mem_singleton.mp hw]; exact⟨h.1,Nat.zero_le _⟩
  | .lt n q,h,w,hw=>by
    obtain⟨u,hu,rfl⟩:=List.mem_map.mp hw
    obtain⟨h1,h2⟩:=wd_mem n h u hu
    exact⟨by rw [sz_2]; exact Nat.le_trans h1 (by omega),by rw [List.length_append]; exact Nat.succ_le_succ h2⟩
  | .al a b,h,w,hw=>by
    rw [sz_3]
    rcases List.mem_append.mp hw with hw | hw
    · obtain⟨h1,h2⟩:=wd_mem a h.1 w hw
      omega
    · obtain⟨h1,h2⟩:=wd_mem b h.2 w hw
      omega
  | .ca a b,h,w,hw=>by
    obtain⟨u,hu,hw⟩:=List.mem_flatMap.mp hw
    obtain⟨v,hv,rfl⟩:=List.mem_map.mp hw
    obtain⟨h1,h2⟩:=wd_mem a h.1 u hu
    obtain⟨h3,h4⟩:=wd_mem b h.2 v hv
    rw [sz_4,List.length_append,List.length_append]; omega
noncomputable def A2 {α:Type} (R:V→α→Prop):List V→List α→Prop
  | [],[]=>True
  | v::vs,a::as=>R v a∧A2 R vs as
  | _,_=>False
theorem A2.len {α:Type} {R:V→α→Prop}:∀ {vs:List V} {as:List α},A2 R vs as→vs.length=as.length
  | [],[],_=>rfl
  | _::_,_::_,h=>congrArg (· + 1) h.2.len
  | [],_::_,h=>h.elim
  | _::_,[],h=>h.elim
theorem A2.mono {α:Type} {R R':V→α→Prop} (m:∀ v a,R v a→R' v a):∀ {vs:List V} {as:List α},A2 R vs as→A2 R' vs as
  | [],[],_=>trivial
  | _::_,_::_,h=>⟨m _ _ h.1,h.2.mono m⟩
  | [],_::_,h=>h.elim
  | _::_,[],h=>h.elim
theorem A2.app {α:Type} {R:V→α→Prop}:∀ {vs us:List V} {as bs:List α},A2 R vs as→A2 R us bs→A2 R (vs++us) (as++bs)
  | [],_,[],_,_,h=>h
  | _::_,_,_::_,_,h,h'=>⟨h.1,h.2.app h'⟩
  | [],_,_::_,_,h,_=>h.elim
  | _::_,_,[],_,h,_=>h.elim
section
variable {D:Nat} {H H1 H2 G:Hp} {kp:Nat→List Nat}
noncomputable def nsV (kp:Nat→List Nat) (l:Nm):List V:=l.map fun x=>.tup [.str (kp x.1),.str x.2]
noncomputable def WL (kp:Nat→List Nat) (f:Nat) (H:Hp) (v:V) (w:List Nat×Nm):Prop:=∃ l,f≤l∧v=.tup [.str w.1,.loc l]∧H[l]? = some (.list (nsV kp w.2))
theorem WL.gr {f:Nat} (g:Gr H H1) {v:V} {w:List Nat×Nm} (h:WL kp f H v w):WL kp f H1 v w:=by
  obtain⟨l,h1,h2,h3⟩:=h
  exact⟨l,h1,h2,g.at h3⟩
theorem WL.zero {f:Nat} {v:V} {w:List Nat×Nm} (h:WL kp f H v w):WL kp 0 H v w:=by
  obtain⟨l,h1,h2,h3⟩:=h
  exact⟨l,Nat.zero_le _,h2,h3⟩
inductive CgH (ev:Lo→Hp→Option (V×Hp)) (ct:CT) (l:Lo) (v:V) (G:Hp) (kp:Nat→List Nat) (f:Nat) (w:List Nat×Nm):Prop where
  | mk (l1:Lo) (u:V) (G':Hp) (e1:setCT ct v l=some l1) (e2:ev l1 G=some (u,G')) (g:Gr G G') (h:WL kp f G' u w):CgH ev ct l v G kp f w
inductive CgR (x:Option (List V×Hp)) (acc:List V) (G:Hp) (kp:Nat→List Nat) (f:Nat) (ws:List (List Nat×Nm)):Prop where
  | mk (us:List V) (G':Hp) (e:x=some (acc.reverse++us,G')) (g:Gr G G') (a:A2 (WL kp f G') us ws):CgR x acc G kp f ws
theorem comp_grow {cs:Lo→Hp→Option (Bool×Hp)} {ev:Lo→Hp→Option (V×Hp)} {ct:CT} {l:Lo} {pl f:Nat} {parts:List V} (fn:List Nat×Nm→List Nat×Nm) (hcs:∀ l H,cs l H=some (true,H)) (hp:H[pl]? = some (.list parts))
    (he:∀ v w G,Gr H G→WL kp 0 G v w→w.1.length<1000∧w.2.length<1000→CgH ev ct l v G kp f (fn w)) :
    ∀(vs:List V) (ws:List (List Nat×Nm)) (i n:Nat) (acc:List V) (G:Hp),(∀ j,parts[i+j]? = vs[j]?)→A2 (WL kp 0 G) vs ws→(∀ w∈ws,w.1.length<1000∧w.2.length<1000)→vs.length<n→Gr H G→CgR (compN cs ev ct l n (.lst pl i) acc G) acc G kp f (ws.map fn)
  | [],[],i,n+1,acc,G,hj,_,_,_,g=>⟨[],G,by rw [List.append_nil]; exact cn_end (n_lst0 (g.at hp) (hj 0)),Gr.refl G,trivial⟩
  | v::vs,w::ws,i,n+1,acc,G,hj,h,hb,hn,g=>by
    obtain⟨l1,u,G1,e1,e2,g1,h1⟩:=he v w G g h.1 (hb w (.head _))
    obtain⟨us,G2,e3,g2,h2⟩:=comp_grow fn hcs hp he vs ws (i+1) n (u::acc) G1 (fun j=>by rw [Nat.add_assoc,Nat.add_comm 1 j]; exact hj (j+1)) (h.2.mono fun v a h=>h.gr g1) (fun w h=>hb w (.tail _ h)) (Nat.lt_of_succ_lt_succ hn) (g.trans g1)
    refine⟨u::us,G2,(cn_step (n_lst (g.at hp) (hj 0)) e1 (hcs _ _) e2 e3).trans ?_,g1.trans g2,h1.gr g2,h2⟩
    rw [List.reverse_cons,List.append_assoc]; rfl
  | [],_::_,_,_,_,_,_,h,_,_,_=>h.elim
  | _::_,[],_,_,_,_,_,h,_,_,_=>h.elim
noncomputable def Kk (kp:Nat→List Nat) (H:Hp):Nd→Prop
  | .ch _=>True
  | .lt n q=>Kk kp H n∧H[q]? = some (refO (kp q))∧(kp q).all (· < 128)=true
  | .al a b=>Kk kp H a∧Kk kp H b
  | .ca a b=>Kk kp H a∧Kk kp H b
theorem Kk.gr (g:Gr H H1):∀ {n:Nd},Kk kp H n→Kk kp H1 n
  | .ch _,_=>trivial
  | .lt n q,h=>⟨Kk.gr g h.1,g.at h.2.1,h.2.2⟩
  | .al a b,h=>⟨Kk.gr g h.1,Kk.gr g h.2⟩
  | .ca a b,h=>⟨Kk.gr g h.1,Kk.gr g h.2⟩
theorem nsV_app (a b:Nm):nsV kp (a++b)=nsV kp a++nsV kp b:=List.map_append
theorem nsV_len (a:Nm):(nsV kp a).length=a.length:=List.length_map ..
noncomputable abbrev elL:ME:=(.tup [(.loc 6),(.bin .add (.loc 7) (.lst [(.tup [(.attr (.idx (.loc 0) (.lit (.int 2))) 17),(.loc 6)])]))])
theorem elt_lt {n:Nd} {q l:Nat} {w:List Nat} {x1 x2 x3 x4 x5:Option V} {X:Nm} (hq:H[q]? = some (refO (kp q))) (hl:H[l]? = some (.list (nsV kp X))) (hb:(nsV kp X).length+1≤lim) :
    evE P3 (callF P3 D) elL [some (nV (.lt n q)),x1,x2,x3,x4,x5,some (.str w),some (.loc l)] H=some (.tup [.str w,.loc (H++[O.list [V.tup [.str (kp q),.str w]]]).length],H++[O.list [V.tup [.str (kp q),.str w]]]++[O.list (nsV kp X++[V.tup [.str (kp q),.str w]])]) :=
  r_tup (r_cons (r_loc rfl) (r_cons (r_bin (r_loc rfl) (r_lst (r_cons (r_tup (r_cons (r_attr (r_idx (r_loc rfl) r_lit (by rfl)) (g_inst hq rfl)) (r_cons (r_loc rfl) r_nil))) r_nil)) ((atL_at (app_in hl)).trans ((atL_at app_new).trans (gd_at hb)))) r_nil))
noncomputable abbrev elC:ME:=.tup [.bin .add (.loc 2) (.loc 6),.bin .add (.loc 3) (.loc 7)]
theorem elt_ca {l l':Nat} {w w':List Nat} {x0 x1 x4 x5:Option V} {X Y:Nm} (hl:H[l]? = some (.list (nsV kp X))) (hl':H[l']? = some (.list (nsV kp Y))) (hw:w.length+w'.length≤lim) (hb:(nsV kp X).length+(nsV kp Y).length≤lim) :
    evE P3 (callF P3 D) elC [x0,x1,some (.str w),some (.loc l),x4,x5,some (.str w'),some (.loc l')] H=some (.tup [.str (w++w'),.loc H.length],H++[O.list (nsV kp X++nsV kp Y)]) :=
  r_tup (r_cons (r_bin (r_loc rfl) (r_loc rfl) (gd_at hw)) (r_cons (r_bin (r_loc rfl) (r_loc rfl) ((atL_at hl).trans ((atL_at hl').trans (gd_at hb)))) r_nil))
noncomputable def bW:List MS:=[(.expr (.bmeth (.loc 5) .extend [(.comp (.tup [(.bin .add (.loc 2) (.loc 6)),(.bin .add (.loc 3) (.loc 7))]) (.loc 4) (.many [6,7]) 2 [])]))]
inductive ClR (x:SR) (nd:V) (r1 r2 f:Nat) (H:Hp) (kp:Nat→List Nat) (ws:List (List Nat×Nm)):Prop where
  | mk (fs':List V) (G':Hp) (x2' x3':Option V) (e:x=some (.next,[some nd,some (.loc r1),x2',x3',some (.loc r2),some (.loc f)],G')) (g:Gr H G') (hf:G'[f]? = some (.list fs')) (a:A2 (WL kp (f+1) G') fs' ws):ClR x nd r1 r2 f H kp ws
theorem cat_loop {nd:V} {r1 r2 f:Nat} {l1 l2:List V} {zs:List (List Nat×Nm)} (hz:∀ z∈zs,z.1.length<1000∧z.2.length<1000) (hf:H.length=f) :
    ∀(vs:List V) (ws:List (List Nat×Nm)) (i n:Nat) (G:Hp) (fs:List V) (acc:List (List Nat×Nm)) (x2 x3:Option V),(∀ j,l1[i+j]? = vs[j]?)→vs.length<n→H[r1]? = some (.list l1)→H[r2]? = some (.list l2)→A2 (WL kp 0 H) vs ws→A2 (WL kp 0 H) l2 zs→(∀ w∈ws,w.1.length<1000∧w.2.length<1000)→l2.length<100000→fs.length+ws.length * zs.length<100000→Gr H G→G[f]? = some (.list fs)→A2 (WL kp (f+1) G) fs acc →
      ClR (forN (.many [2,3]) (fun l H=>exB P3 (callF P3 D) bW l H) n (.lst r1 i) [some nd,some (.loc r1),x2,x3,some (.loc r2),some (.loc f)] G) nd r1 r2 f H kp (acc++ws.flatMap fun w=>zs.map fun z=>(w.1++z.1,w.2++z.2))
  | [],[],i,n+1,G,fs,acc,x2,x3,hj,_,h1,h2,_,_,_,_,_,g,hfs,ha=>⟨fs,G,x2,x3,fn_end (n_lst0 (g.at h1) (hj 0)),g,hfs,by rw [List.flatMap_nil,List.append_nil]; exact ha⟩
  | v::vs,w::ws,i,n+1,G,fs,acc,x2,x3,hj,hn,h1,h2,hv,hl2,hb,hb2,hb3,g,hfs,ha=>by
    obtain⟨⟨l,hl0,rfl,hl⟩,hv⟩:=hv
    have hwb:=hb w (.head _)
    rw [List.length_cons,Nat.succ_mul] at hb3
    have hzl:=hl2.len
    obtain⟨us,G1,e1,g1,a1⟩:=comp_grow (kp:=kp) (cs:=fun l H=>evC P3 (callF P3 D) [] l H) (ev:=fun l H=>evE P3 (callF P3 D) elC l H) (ct:=.many [6,7]) (l:=[some nd,some (.loc r1),some (.str w.1),some (.loc l),some (.loc r2),some (.loc f),none,none]) (f:=f+1) (H:=G) (fun z=>(w.1++z.1,w.2++z.2)) (fun _ _=>rc_t) (g.at h2) (fun v z G' gg hz hzb=>by
      obtain⟨l',_,rfl,hl'⟩:=hz
      have hL:=lt_get hfs
      exact⟨_,_,_,rfl,elt_ca ((g.trans gg).at hl) hl' (Nat.le_of_lt (lt_lim (by omega))) (Nat.le_of_lt (lt_lim (by rw [nsV_len,nsV_len]; omega))),Gr.app _ _,G'.length,Nat.le_trans hL gg.len,rfl,by rw [app_new,nsV_app]⟩) l2 zs 0 1048576 [] G (fun j=>by rw [Nat.zero_add]) (hl2.mono fun v a h=>h.gr g) hz (by omega) (Gr.refl G)
    rw [List.reverse_nil,List.nil_append] at e1
    have hul:=a1.len
    rw [List.length_map] at hul
    have hG:=lt_get hfs
    have hfs1:=g1.at hfs
    have e2:exB P3 (callF P3 D) bW [some nd,some (.loc r1),some (.str w.1),some (.loc l),some (.loc r2),some (.loc f)] G=some (.next,[some nd,some (.loc r1),some (.str w.1),some (.loc l),some (.loc r2),some (.loc f)],(G1++[O.list us]).set f (O.list (fs++us))) :=
      s_seq (s_expr0 (r_bm (r_loc rfl) (g_kindL hfs rfl) (r_cons (r_comp (r_loc rfl) (i_lst (g.at h2)) e1 (Nat.le_of_lt (lt_lim (by omega)))) r_nil) (g_extend (app_in hfs1) app_new (ne_len hfs1) (lt_lim (by omega))))) s_nil0
    have g3:Gr H ((G1++[O.list us]).set f (.list (fs++us))):=(g.trans (g1.trans (Gr.app _ _))).set (Nat.le_of_eq hf)
    have wl3:∀ v a,WL kp (f+1) G1 v a→WL kp (f+1) ((G1++[O.list us]).set f (.list (fs++us))) v a:=fun v a h=>by
      obtain⟨l,h1,h2,h3⟩:=h
      exact⟨l,h1,h2,set_off (Nat.ne_of_lt h1) (app_in h3)⟩
    obtain⟨fs',G',x2',x3',e3,g4,hf4,a4⟩:=cat_loop hz hf vs ws (i+1) n _ (fs++us) (acc++zs.map fun z=>(w.1++z.1,w.2++z.2)) (some (.str w.1)) (some (.loc l)) (fun j=>by rw [Nat.add_assoc,Nat.add_comm 1 j]; exact hj (j+1)) (Nat.lt_of_succ_lt_succ hn) h1 h2 hv hl2 (fun w h=>hb w (.tail _ h)) hb2 (by rw [List.length_append,hul]; omega) g3 (set_at (app_in hfs1)) ((ha.mono fun v a h=>wl3 v a (h.gr g1)).app (a1.mono wl3))
    exact⟨fs',G',x2',x3',fn_next (n_lst (g.at h1) (hj 0)) rfl e2 e3,g4,hf4,by rw [List.flatMap_cons,← List.append_assoc]; exact a4⟩
  | [],_::_,_,_,_,_,_,_,_,_,_,_,_,h,_,_,_,_,_,_,_=>h.elim
  | _::_,[],_,_,_,_,_,_,_,_,_,_,_,h,_,_,_,_,_,_,_=>h.elim
inductive WoR (D dd:Nat) (H:Hp) (kp:Nat→List Nat) (n:Nd):Prop where
  | mk (r:Nat) (vs:List V) (H':Hp) (e:callF P3 (D+dd+1) 74 [nV n] H=some (.loc r,H')) (g:Gr H H') (hr:H'[r]? = some (.list vs)) (a:A2 (WL kp 0 H') vs (wd n)):WoR D dd H kp n
theorem words_ok:∀(n:Nd) (dd:Nat) (H:Hp),dep n≤dd→Kk kp H n→sm n→sz n≤15→WoR D dd H kp n
  | .ch t,dd,H,hd,hk,hs,hz=>⟨_,_,_,call_ret rfl rfl (s_stop (s_if_t (r_cmp (r_idx (r_loc rfl) r_lit (by rfl)) r_lit (by rfl)) (s_stop (s_ret0 (r_lst (r_cons (r_tup (r_cons (r_idx (r_loc rfl) r_lit (by rfl)) (r_cons (r_lst r_nil) r_nil))) r_nil)))))),(Gr.app _ _).trans (Gr.app _ _),app_new,⟨H.length,Nat.zero_le _,rfl,app_in app_new⟩,trivial⟩
  | .lt n q,dd,H,hd,hk,hs,hz=>by
    obtain⟨dd,rfl⟩:∃ e,dd=e+1:=Nat.exists_eq_add_one.mpr (by rw [dep_2] at hd; omega)
    rw [sz_2] at hz
    obtain⟨r1,vs,H1,e1,g1,hr1,a1⟩:=words_ok n dd H (Nat.le_of_succ_le_succ hd) hk.1 hs (by omega)
    have hwl:=wd_len n
    have hp:2 ^ sz n≤2 ^ 15:=Nat.pow_le_pow_right (by decide) (by omega)
    have hvl:=a1.len
    obtain⟨us,G1,e2,g2,a2⟩:=comp_grow (kp:=kp) (cs:=fun l H=>evC P3 (callF P3 (D+dd+1)) [] l H) (ev:=fun l H=>evE P3 (callF P3 (D+dd+1)) elL l H) (ct:=.many [6,7]) (l:=[some (nV (.lt n q)),some (.loc r1),none,none,none,none,none,none]) (f:=0) (H:=H1) (fun w=>(w.1,w.2++[(q,w.1)])) (fun _ _=>rc_t) hr1 (fun v w G' gg hw hwb=>by
      obtain⟨l',_,rfl,hl'⟩:=hw
      exact⟨_,_,_,rfl,elt_lt ((g1.trans gg).at hk.2.1) hl' (Nat.le_of_lt (lt_lim (by rw [nsV_len]; omega))),(Gr.app _ _).trans (Gr.app _ _),_,Nat.zero_le _,rfl,by rw [app_new,nsV_app]; rfl⟩) vs (wd n) 0 1048576 [] H1 (fun j=>by rw [Nat.zero_add]) a1 (fun w hw=>by have:=wd_mem n hs w hw; omega) (by omega) (Gr.refl H1)
    rw [List.reverse_nil,List.nil_append] at e2
    have hul:=a2.len
    rw [List.length_map] at hul
    have hlen:us.length≤lim:=Nat.le_of_lt (lt_lim (by omega))
    exact⟨_,us,_,call_ret rfl rfl (s_seq (s_if_f (r_cmp (r_idx (r_loc rfl) r_lit (by rfl)) r_lit (by rfl)) s_nil0) (s_seq (s_asg0 (r_call r_glob (r_cons (r_idx (r_loc rfl) r_lit (by rfl)) r_nil) e1) t_loc0) (s_stop (s_if_t (r_cmp (r_idx (r_loc rfl) r_lit (by rfl)) r_lit (by rfl)) (s_stop (s_ret0 (r_comp (r_loc rfl) (i_lst hr1) e2 (by exact hlen)))))))),(g1.trans g2).trans (Gr.app _ _),app_new,a2.mono fun v a h=>h.gr (Gr.app _ _)⟩
  | .al a b,dd,H,hd,hk,hs,hz=>by
    obtain⟨dd,rfl⟩:∃ e,dd=e+1:=Nat.exists_eq_add_one.mpr (by rw [dep_3] at hd; omega)
    rw [sz_3] at hz
    rw [dep_3] at hd
    obtain⟨r1,v1,H1,e1,g1,hr1,a1⟩:=words_ok a dd H (by omega) hk.1 hs.1 (by omega)
    obtain⟨r2,v2,H2,e2,g2,hr2,a2⟩:=words_ok b dd H1 (by omega) (hk.2.gr g1) hs.2 (by omega)
    have hp:2 ^ sz a≤2 ^ 15:=Nat.pow_le_pow_right (by decide) (by omega)
    have hp2:2 ^ sz b≤2 ^ 15:=Nat.pow_le_pow_right (by decide) (by omega)
    have hw1:=wd_len a
    have hw2:=wd_len b
    have hl1:=a1.len
    have hl2:=a2.len
    have hlen:v1.length+v2.length≤lim:=Nat.le_of_lt (lt_lim (by omega))
    exact⟨_,v1++v2,_,call_ret rfl rfl (s_seq (s_if_f (r_cmp (r_idx (r_loc rfl) r_lit (by rfl)) r_lit (by rfl)) s_nil0) (s_seq (s_asg0 (r_call r_glob (r_cons (r_idx (r_loc rfl) r_lit (by rfl)) r_nil) e1) t_loc0) (s_seq (s_if_f (r_cmp (r_idx (r_loc rfl) r_lit (by rfl)) r_lit (by rfl)) s_nil0) (s_seq (s_asg0 (r_tup (r_cons (r_call r_glob (r_cons (r_idx (r_loc rfl) r_lit (by rfl)) r_nil) e2) (r_cons (r_lst r_nil) r_nil))) (t_tup0 (by rfl) (t_cons0 t_loc0 (t_cons0 t_loc0 t_nil0)))) (s_stop (s_if_t (r_cmp (r_idx (r_loc rfl) r_lit (by rfl)) r_lit (by rfl)) (s_stop (s_ret0 (r_bin (r_loc rfl) (r_loc rfl) (by exact(atL_at (app_in (g2.at hr1))).trans ((atL_at (app_in hr2)).trans (gd_at hlen)))))))))))),(g1.trans g2).trans ((Gr.app _ _).trans (Gr.app _ _)),app_new,(a1.mono fun v a h=>((h.gr g2).gr (Gr.app _ _)).gr (Gr.app _ _)).app (a2.mono fun v a h=>(h.gr (Gr.app _ _)).gr (Gr.app _ _))⟩
  | .ca a b,dd,H,hd,hk,hs,hz=>by
    obtain⟨dd,rfl⟩:∃ e,dd=e+1:=Nat.exists_eq_add_one.mpr (by rw [dep_4] at hd; omega)
    have hwc:=wd_len (.ca a b)
    have hpc:2 ^ sz (.ca a b)≤2 ^ 15:=Nat.pow_le_pow_right (by decide) hz
    rw [sz_4] at hz
    rw [dep_4] at hd
    obtain⟨r1,v1,H1,e1,g1,hr1,a1⟩:=words_ok a dd H (by omega) hk.1 hs.1 (by omega)
    obtain⟨r2,v2,H2,e2,g2,hr2,a2⟩:=words_ok b dd H1 (by omega) (hk.2.gr g1) hs.2 (by omega)
    have hp:2 ^ sz a≤2 ^ 15:=Nat.pow_le_pow_right (by decide) (by omega)
    have hp2:2 ^ sz b≤2 ^ 15:=Nat.pow_le_pow_right (by decide) (by omega)
    have hw1:=wd_len a
    have hw2:=wd_len b
    have hl1:=a1.len
    have hl2:=a2.len
    have hmul:(wd a).length * (wd b).length=(wd (.ca a b)).length:=by
      have:∀(l:List (List Nat×Nm)),l.length * (wd b).length=(l.flatMap fun w=>(wd b).map fun z=>(w.1++z.1,w.2++z.2)).length:=fun l=>by
        induction l with
        | nil=>rw [List.flatMap_nil,List.length_nil,Nat.zero_mul]
        | cons w l ih=>rw [List.flatMap_cons,List.length_append,← ih,List.length_map,List.length_cons,Nat.succ_mul,Nat.add_comm]
      exact this _
    obtain⟨fs,G,x2,x3,e3,g3,hf,a3⟩:=cat_loop (kp:=kp) (D:=D+dd+1) (nd:=nV (.ca a b)) (H:=H2) (f:=H2.length) (fun z h=>by have:=wd_mem b hs.2 z h; omega) rfl v1 (wd a) 0 1048576 (H2++[.list []]) [] [] none none (fun j=>by rw [Nat.zero_add]) (by omega) (g2.at hr1) hr2 (a1.mono fun v a h=>h.gr g2) a2 (fun w h=>by have:=wd_mem a hs.1 w h; omega) (by omega) (by rw [hmul,List.length_nil]; omega) (Gr.app _ _) app_new trivial
    exact⟨_,fs,G,call_ret rfl rfl (s_seq (s_if_f (r_cmp (r_idx (r_loc rfl) r_lit (by rfl)) r_lit (by rfl)) s_nil0) (s_seq (s_asg0 (r_call r_glob (r_cons (r_idx (r_loc rfl) r_lit (by rfl)) r_nil) e1) t_loc0) (s_seq (s_if_f (r_cmp (r_idx (r_loc rfl) r_lit (by rfl)) r_lit (by rfl)) s_nil0) (s_seq (s_asg0 (r_tup (r_cons (r_call r_glob (r_cons (r_idx (r_loc rfl) r_lit (by rfl)) r_nil) e2) (r_cons (r_lst r_nil) r_nil))) (t_tup0 (by rfl) (t_cons0 t_loc0 (t_cons0 t_loc0 t_nil0)))) (s_seq (s_if_f (r_cmp (r_idx (r_loc rfl) r_lit (by rfl)) r_lit (by rfl)) s_nil0) (s_seq (s_for0 (r_loc rfl) (i_lst (app_in (g2.at hr1))) (show _=some (Fl.next,[some (nV (.ca a b)),some (.loc r1),x2,x3,some (.loc r2),some (.loc H2.length)],G) from e3)) (s_stop (s_ret0 (r_loc rfl))))))))),(g1.trans g2).trans g3,hf,a3.mono fun v a h=>h.zero⟩
end
end L3
namespace L3
section
variable {D:Nat} {H H1 H2 G:Hp} {kp:Nat→List Nat}
theorem hasPre_eq:∀(t X:List Nat),hasPre t X=(X.take t.length == t)
  | [],X=>rfl
  | a::t,[]=>rfl
  | a::t,b::X=>by
    show(a == b && hasPre t X)=((b::X.take t.length) == (a::t))
    rw [hasPre_eq t X]
    show _=(b == a && (X.take t.length == t))
    rw [Bool.beq_comm]
theorem met_pre (s t:List Nat) (a:Nat):metB s t a=hasPre t (s.drop a):=by rw [metB_eq,hasPre_eq]
noncomputable def outW (a:Nat) (nm:Nm) (w:List Nat×Nm):Nat×Nm:=(a+w.1.length,nm++w.2)
theorem den_words (s:List Nat):∀(n:Nd) (a:Nat) (nm:Nm),denN s n a nm=((wd n).filter fun w=>metB s w.1 a).map (outW a nm)
  | .ch t,a,nm=>by
    rw [denN_1,wd_1,List.filter_cons]
    cases metB s t a
    · rfl
    · show _=[(a+t.length,nm++[])]
      rw [List.append_nil]; rfl
  | .lt n q,a,nm=>by
    rw [denN_2,wd_2,den_words s n a nm,List.filter_map,List.map_map,List.map_map]
    have:∀(l:List (List Nat×Nm)),(l.filter fun w=>metB s w.1 a).map ((fun z=>(z.1,z.2++[(q,(s.take z.1).drop a)]))∘outW a nm)=(l.filter ((fun w=>metB s w.1 a)∘fun w=>(w.1,w.2++[(q,w.1)]))).map (outW a nm∘fun w=>(w.1,w.2++[(q,w.1)])):=fun l=>by
      refine List.map_congr_left fun w hw=>?_
      have hm:=(List.mem_filter.mp hw).2
      have:(s.take (a+w.1.length)).drop a=w.1:=eq_of_beq hm
      show(a+w.1.length,(nm++w.2)++[(q,(s.take (a+w.1.length)).drop a)])=(a+w.1.length,nm++(w.2++[(q,w.1)]))
      rw [this,List.append_assoc]
    exact this _
  | .al x y,a,nm=>by rw [denN_3,wd_3,List.filter_append,List.map_append,den_words s x,den_words s y]
  | .ca x y,a,nm=>by
    rw [denN_4,wd_4,den_words s x,List.flatMap_map]
    generalize wd x=l
    induction l with
    | nil=>rfl
    | cons w l ih =>
      rw [List.flatMap_cons,List.filter_append,List.map_append,List.filter_cons,← ih]
      have e:((wd y).map fun z=>(w.1++z.1,w.2++z.2)).filter (fun w=>metB s w.1 a)=bif metB s w.1 a then((wd y).filter fun z=>metB s z.1 (a+w.1.length)).map fun z=>(w.1++z.1,w.2++z.2) else []:=by
        rw [List.filter_map]
        cases hm:metB s w.1 a with
        | true =>
          rw [cond_true]
          refine congrArg _ (congrArg (fun p=>List.filter p (wd y)) (funext fun z=>?_))
          show metB s (w.1++z.1) a=_
          rw [metB_app,hm,Bool.true_and]
        | false =>
          rw [cond_false,List.map_eq_nil_iff,List.filter_eq_nil_iff]
          intro z _
          show ¬ metB s (w.1++z.1) a=true
          rw [metB_app,hm]; exact Bool.false_ne_true
      rw [e]
      cases metB s w.1 a with
      | false=>rfl
      | true =>
        rw [if_pos rfl,List.flatMap_cons,cond_true,List.map_map]
        refine congrArg (·++_) ?_
        show denN s y (a+w.1.length) (nm++w.2)=_
        rw [den_words s y]
        refine List.map_congr_left fun z _=>?_
        show(a+w.1.length+z.1.length,nm++w.2++z.2)=(a+(w.1++z.1).length,nm++(w.2++z.2))
        rw [List.length_append,List.append_assoc,Nat.add_assoc]
noncomputable def dueF (ws:List (List Nat×Nm)) (s:List Nat):Nat→Nat→Option (Nat×Nat×Nm)
  | 0,_=>none
  | c+1,b=>match ws.find? (fun w=>hasPre w.1 (s.drop b)) with
    | some w=>some (b,b+w.1.length,w.2)
    | none=>dueF ws s c (b+1)
theorem dueF_1 {ws s zu1}:dueF ws s 0 zu1=none:=rfl
theorem dueF_2 {ws s c b}:dueF ws s (c+1) b=match ws.find? (fun w=>hasPre w.1 (s.drop b)) with
    | some w=>some (b,b+w.1.length,w.2)
    | none=>dueF ws s c (b+1):=rfl
theorem fst_due (s:List Nat) (n:Nd):∀(c b:Nat),fst3 (fun b=>denN s n b []) c b=dueF (wd n) s c b
  | 0,b=>rfl
  | c+1,b=>by
    rw [fst3_2,dueF_2,← fst_due s n c (b+1),den_words,List.head?_map,List.head?_filter]
    rw [show(fun w:List Nat×Nm=>metB s w.1 b)=fun w=>hasPre w.1 (s.drop b) from funext fun w=>met_pre s w.1 b]
    cases (wd n).find? fun w=>hasPre w.1 (s.drop b) <;> rfl
noncomputable def Rd (kp:Nat→List Nat) (H:Hp) (R:Option (Nat×Nat×Nm)) (v:V):Prop:=match R with
  | none=>v=.none
  | some (b,a,nm)=>∃ j,v=.tup [.int b,.int a,.loc j]∧H[j]? = some (.list (nsV kp nm))
noncomputable def bI3:List MS:=[(.ife (.bmeth (.slice (.loc 1) (.loc 3) (.lit .none) (.lit .none)) .startswith [(.loc 4)]) [(.ret (.tup [(.loc 3),(.bin .add (.loc 3) (.prim .len [(.loc 4)])),(.loc 5)]))] [])]
noncomputable def bO3:List MS:=[(.for (.many [4,5]) (.loc 0) [(.ife (.bmeth (.slice (.loc 1) (.loc 3) (.lit .none) (.lit .none)) .startswith [(.loc 4)]) [(.ret (.tup [(.loc 3),(.bin .add (.loc 3) (.prim .len [(.loc 4)])),(.loc 5)]))] [])])]
theorem due_t {r l b:Nat} {s w:List Nat} {an:V} (hb:hasPre w (s.drop b)=true):exB P3 (callF P3 D) bI3 [some (.loc r),some (.str s),some an,some (.int b),some (.str w),some (.loc l)] H=some (.ret (.tup [.int b,.int (b+w.length:Nat),.loc l]),[some (.loc r),some (.str s),some an,some (.int b),some (.str w),some (.loc l)],H) :=
  s_stop (s_if_t (r_bm (r_slice (r_loc rfl) (r_loc rfl) r_lit r_lit (by rfl)) (by rfl) (r_cons (r_loc rfl) r_nil) (by exact congrArg (fun b=>some (V.bool b,H)) hb)) (s_stop (s_ret0 (r_tup (r_cons (r_loc rfl) (r_cons (r_bin (r_loc rfl) (r_prim (r_cons (r_loc rfl) r_nil) (by first | rfl | exact g_len (by solve_by_elim [app_new,set_at,set_off,app_in,ne_len,len_ne,Ne.symm]))) (by rfl)) (r_cons (r_loc rfl) r_nil)))))))
theorem due_f {r l b:Nat} {s w:List Nat} {an:V} (hb:hasPre w (s.drop b)=false):exB P3 (callF P3 D) bI3 [some (.loc r),some (.str s),some an,some (.int b),some (.str w),some (.loc l)] H=some (.next,[some (.loc r),some (.str s),some an,some (.int b),some (.str w),some (.loc l)],H) :=
  s_seq (s_if_f (r_bm (r_slice (r_loc rfl) (r_loc rfl) r_lit r_lit (by rfl)) (by rfl) (r_cons (r_loc rfl) r_nil) (by exact congrArg (fun b=>some (V.bool b,H)) hb)) s_nil0) s_nil0
noncomputable def dueS (kp:Nat→List Nat) (b:Nat) (R:Option (List Nat×Nm)) (H:Hp) (x:SR) (c:Lo→Prop):Prop:=match R with
  | some w=>∃ l l',x=some (.ret (.tup [.int b,.int (b+w.1.length:Nat),.loc l]),l',H)∧H[l]? = some (.list (nsV kp w.2))
  | none=>∃ l',x=some (.next,l',H)∧c l'
theorem due_in {r b:Nat} {s:List Nat} {an:V} {parts:List V} (hp:H[r]? = some (.list parts)):∀(vs:List V) (ws:List (List Nat×Nm)) (i n:Nat) (x y:Option V),(∀ j,parts[i+j]? = vs[j]?)→A2 (WL kp 0 H) vs ws→vs.length<n →
    dueS kp b (ws.find? fun w=>hasPre w.1 (s.drop b)) H (forN (.many [4,5]) (fun l H=>exB P3 (callF P3 D) bI3 l H) n (.lst r i) [some (.loc r),some (.str s),some an,some (.int b),x,y] H) (fun l'=>∃ x y,l'=[some (.loc r),some (.str s),some an,some (.int b),x,y])
  | [],[],i,n+1,x,y,hj,_,_=>⟨_,fn_end (n_lst0 hp (hj 0)),x,y,rfl⟩
  | v::vs,w::ws,i,n+1,x,y,hj,h,hn=>by
    obtain⟨⟨l,_,rfl,hl⟩,hv⟩:=h
    rw [List.find?_cons]
    cases hb:hasPre w.1 (s.drop b) with
    | true=>exact⟨l,_,fn_ret (n_lst hp (hj 0)) rfl (due_t hb),hl⟩
    | false =>
      have:=due_in (b:=b) (s:=s) (an:=an) hp vs ws (i+1) n (some (.str w.1)) (some (.loc l)) (fun j=>by rw [Nat.add_assoc,Nat.add_comm 1 j]; exact hj (j+1)) hv (Nat.lt_of_succ_lt_succ hn)
      have e1:forN (.many [4,5]) (fun l H=>exB P3 (callF P3 D) bI3 l H) (n+1) (.lst r i) [some (.loc r),some (.str s),some an,some (.int b),x,y] H=forN (.many [4,5]) (fun l H=>exB P3 (callF P3 D) bI3 l H) n (.lst r (i+1)) [some (.loc r),some (.str s),some an,some (.int b),some (.str w.1),some (.loc l)] H:=fn_next (n_lst hp (hj 0)) rfl (due_f hb) rfl
      rw [e1]
      exact this
  | [],_::_,_,_,_,_,_,h,_=>h.elim
  | _::_,[],_,_,_,_,_,h,_=>h.elim
theorem due_loop {r:Nat} {s:List Nat} {an:V} {vs:List V} {ws:List (List Nat×Nm)} (hp:H[r]? = some (.list vs)) (ha:A2 (WL kp 0 H) vs ws) (hv:vs.length<100000):∀(c b f:Nat) (x3 x y:Option V),c<f →
    ∃ v l,forN (.one 3) (fun l H=>exB P3 (callF P3 D) bO3 l H) f (.rng b 1 c) [some (.loc r),some (.str s),some an,x3,x,y] H=resF (dueF ws s c b) v l H∧Rd kp H (dueF ws s c b) v
  | 0,b,f+1,x3,x,y,_=>⟨.none,_,fn_end rfl,rfl⟩
  | c+1,b,f+1,x3,x,y,hf=>by
    have h:=due_in (D:=D) (b:=b) (s:=s) (an:=an) hp vs ws 0 1048576 x y (fun j=>by rw [Nat.zero_add]) ha (by exact Nat.not_le.mp (lin [_] (.c 1 (.a (.v 0) (.n 1)) (.n 100000) (.c 1 (.n 1048576) (.v 0) .z)) rfl hv))
    rw [dueF_2]
    cases hd:ws.find? fun w=>hasPre w.1 (s.drop b) with
    | some w =>
      rw [hd] at h
      obtain⟨l,l',e,hl⟩:=h
      exact⟨_,l',fn_ret rfl rfl (s_stop (s_for0 (r_loc rfl) (i_lst hp) e)),l,rfl,hl⟩
    | none =>
      rw [hd] at h
      obtain⟨l',e,x',y',rfl⟩:=h
      obtain⟨v,l,e2,h2⟩:=due_loop hp ha hv c (b+1) f (some (.int b)) x' y' (by exact Nat.not_le.mp (lin [_,_] (.c 1 (.a (.a (.v 0) (.n 1)) (.n 1)) (.a (.v 1) (.n 1)) (.c 1 (.v 1) (.v 0) .z)) rfl hf))
      exact⟨v,l,fn_next rfl rfl (s_seq (s_for0 (r_loc rfl) (i_lst hp) e) s_nil0) e2,h2⟩
theorem due_ok_k {r:Nat} {s:List Nat} {an:Bool} {vs:List V} {ws:List (List Nat×Nm)} (hp:H[r]? = some (.list vs)) (ha:A2 (WL kp 0 H) vs ws) (hv:vs.length<100000) (hs:s.length<1000) {zg:Prop} (zk:∀ v,(callF P3 (D+1) 75 [.loc r,.str s,.bool an] H=some (v,H))→(Rd kp H (dueF ws s (cnt an s) 0) v)→zg):zg:=by
  obtain⟨v,zh1,zh2⟩:∃ v,callF P3 (D+1) 75 [.loc r,.str s,.bool an] H=some (v,H)∧Rd kp H (dueF ws s (cnt an s) 0) v:=by
    have hc:cnt an s≤1000:=by cases an <;> simp only [cnt,cond_true,cond_false] <;> omega
    obtain⟨v,l,e,h⟩:=due_loop (D:=D) (s:=s) (an:=.bool an) hp ha hv (cnt an s) 0 1048576 none none none (by exact Nat.not_le.mp (lin [_] (.c 1 (.v 0) (.n 1000) (.c 1 (.n 1048576) (.v 0) .z)) rfl hc))
    have e0:∀ {q:SR},forN (.one 3) (fun l H=>exB P3 (callF P3 D) bO3 l H) 1048576 (.rng (0:Nat) 1 (cnt an s)) [some (.loc r),some (.str s),some (.bool an),none,none,none] H=q→exS P3 (callF P3 D) (.for (.one 3) (.prim .range [.ife (.loc 2) (.lit (.int 1)) (.bin .add (.prim .len [.loc 1]) (.lit (.int 1)))]) bO3) [some (.loc r),some (.str s),some (.bool an),none,none,none] H=q:=fun {q} hq =>
      s_for0 (r_prim (r_cons (cnt_ok rfl rfl) r_nil) (p_range1 (by omega))) (i_rng (by decide) (by omega) (.inl rfl)) (by rw [rng_nat]; exact hq)
    cases hd:dueF ws s (cnt an s) 0 with
    | none =>
      rw [hd] at e h; cases h
      exact⟨_,call_ret rfl rfl (s_seq (e0 e) (s_stop (s_ret0 r_lit))),rfl⟩
    | some z =>
      rw [hd] at e h
      exact⟨_,call_ret rfl rfl (s_stop (e0 e)),h⟩
  exact zk v zh1 zh2
noncomputable def okNm (kp:Nat→List Nat) (H:Hp) (nm:Nm):Prop:=∀ x∈nm,H[x.1]? = some (refO (kp x.1))∧(kp x.1).all (· < 128)=true∧x.2.all (· < 128)=true
theorem all_app (a b:List Nat):(a++b).all (· < 128)=(a.all (· < 128) && b.all (· < 128)):=List.all_append
theorem wd_names:∀(n:Nd),Kk kp H n→sm n→∀ w∈wd n,w.1.all (· < 128)=true∧okNm kp H w.2
  | .ch t,hk,hs,w,hw=>by rw [List.mem_singleton.mp hw]; exact⟨hs.2,fun x h=>nomatch h⟩
  | .lt n q,hk,hs,w,hw=>by
    obtain⟨u,hu,rfl⟩:=List.mem_map.mp hw
    obtain⟨h1,h2⟩:=wd_names n hk.1 hs u hu
    refine⟨h1,fun x hx=>?_⟩
    rcases List.mem_append.mp hx with hx | hx
    · exact h2 x hx
    · rw [List.mem_singleton.mp hx]; exact⟨hk.2.1,hk.2.2,h1⟩
  | .al a b,hk,hs,w,hw=>(List.mem_append.mp hw).elim (wd_names a hk.1 hs.1 w) (wd_names b hk.2 hs.2 w)
  | .ca a b,hk,hs,w,hw=>by
    obtain⟨u,hu,hw⟩:=List.mem_flatMap.mp hw
    obtain⟨v,hv,rfl⟩:=List.mem_map.mp hw
    obtain⟨h1,h2⟩:=wd_names a hk.1 hs.1 u hu
    obtain⟨h3,h4⟩:=wd_names b hk.2 hs.2 v hv
    exact⟨by rw [all_app,h1,h3]; rfl,fun x hx=>(List.mem_append.mp hx).elim (h2 x) (h4 x)⟩
theorem due_names {s:List Nat} {ws:List (List Nat×Nm)} (h:∀ w∈ws,okNm kp H w.2∧w.2.length<1000):∀(c b:Nat) (z:Nat×Nat×Nm),dueF ws s c b=some z→okNm kp H z.2.2∧z.2.2.length<1000
  | 0,b,z,e=>nomatch e
  | c+1,b,z,e=>by
    rw [dueF_2] at e
    cases hd:ws.find? fun w=>hasPre w.1 (s.drop b) with
    | some w=>rw [hd] at e; cases e; exact h w (List.mem_of_find?_eq_some hd)
    | none=>rw [hd] at e; exact due_names h c (b+1) z e
noncomputable abbrev elN:ME:=.tup [.attr (.loc 8) 17,.loc 9]
theorem names_comp {ct:CT} {l:Lo} {pl:Nat} {X:Nm} (hp:H[pl]? = some (.list (nmL X))) (hl:∀ u v:V,∃ l1,setCT (.many [8,9]) (.tup [u,v]) l=some l1∧l1[8]? = some (some u)∧l1[9]? = some (some v)):∀(nm:Nm) (i n:Nat) (acc:List V),(∀ j,(nmL X)[i+j]? = (nmL nm)[j]?)→okNm kp H nm→nm.length<n →
    compN (fun l H=>evC P3 (callF P3 D) [] l H) (fun l H=>evE P3 (callF P3 D) elN l H) (.many [8,9]) l n (.lst pl i) acc H=some (acc.reverse++nsV kp nm,H)
  | [],i,n+1,acc,hj,_,_=>(cn_end (n_lst0 hp (hj 0))).trans (by rw [nsV,List.map_nil,List.append_nil])
  | x::r,i,n+1,acc,hj,ho,hn=>by
    obtain⟨l1,h1,h8,h9⟩:=hl (.loc x.1) (.str x.2)
    refine(cn_step (n_lst hp (hj 0)) h1 rc_t (r_tup (r_cons (r_attr (r_loc h8) (g_inst (ho x (.head _)).1 rfl)) (r_cons (r_loc h9) r_nil))) (names_comp (ct:=ct) hp hl r (i+1) n (.tup [.str (kp x.1),.str x.2]::acc) (fun j=>by rw [Nat.add_assoc,Nat.add_comm 1 j]; exact hj (j+1)) (fun x h=>ho x (.tail _ h)) (Nat.lt_of_succ_lt_succ hn))).trans ?_
    rw [List.reverse_cons,List.append_assoc]; rfl
noncomputable def dS (s:List Nat):PyData:=.str ⟨s.toArray⟩
noncomputable def dRows (kp:Nat→List Nat) (nm:Nm):List PyData:=nm.map fun x=>.tuple [dS (kp x.1),dS x.2]
theorem mapO_cons {α β:Type} {f:α→Option β} {a:α} {r:List α} {b:β} {bs:List β} (h1:f a=some b) (h2:mapO f r=some bs):mapO f (a::r)=some (b::bs):=by rw [mapO,h1,h2]
theorem dat_str (n:Nat) {s:List Nat} (h:s.all (· < 128)=true):dat H (n+1) (.str s)=some (dS s):=if_pos h
theorem dat_rows (n:Nat):∀(nm:Nm),okNm kp H nm→mapO (dat H (n+2)) (nsV kp nm)=some (dRows kp nm)
  | [],_=>rfl
  | x::r,ho=>by
    obtain⟨h1,h2,h3⟩:=ho x (.head _)
    refine mapO_cons ?_ (dat_rows n r fun x h=>ho x (.tail _ h))
    show(mapO (dat H (n+1)) [.str (kp x.1),.str x.2]).map PyData.tuple=_
    rw [mapO_cons (dat_str n h2) (mapO_cons (dat_str n h3) rfl)]; rfl
theorem dat_found {a b j:Nat} {nm:Nm} (hj:H[j]? = some (.list (nsV kp nm))) (ho:okNm kp H nm):dat H 8 (.tup [.int b,.int a,.loc j])=some (.tuple [.int b,.int a,.list (dRows kp nm)]):=by
  show(mapO (dat H 7) [.int b,.int a,.loc j]).map PyData.tuple=_
  have:dat H 7 (.loc j)=some (.list (dRows kp nm)):=by
    show(match H[j]? with | some (.list l)=>(mapO (dat H 6) l).map PyData.list | _=>none)=_
    rw [hj]
    show(mapO (dat H 6) (nsV kp nm)).map PyData.list=_
    rw [dat_rows 4 nm ho]; rfl
  have e:mapO (dat H 7) [.int b,.int a,.loc j] = some [.int b,.int a,.list (dRows kp nm)]:=mapO_cons (f:=dat H 7) rfl (mapO_cons (f:=dat H 7) rfl (mapO_cons (f:=dat H 7) this rfl))
  rw [e]; rfl
theorem eqv_rows:∀ nm:Nm,PyData.eqvAll (dRows kp nm) (dRows kp nm)=true
  | []=>rfl
  | x::r=>by
    have hs:∀ s,PyData.eqv (dS s) (dS s)=true:=fun s=>by simp only [dS,PyData.eqv,beq_self_eq_true]
    show(PyData.eqv (.tuple [dS (kp x.1),dS x.2]) (.tuple [dS (kp x.1),dS x.2]) && PyData.eqvAll (dRows kp r) (dRows kp r))=true
    rw [eqv_rows r,PyData.eqv,PyData.eqvAll,PyData.eqvAll,hs,hs]; rfl
theorem ne_found {a b j l:Nat} {nm:Nm} (hj:H[j]? = some (.list (nsV kp nm))) (hl:H[l]? = some (.list (nsV kp nm))) (ho:okNm kp H nm):cmpV H .ne (.tup [.int b,.int a,.loc j]) (.tup [.int b,.int a,.loc l])=some false:=by
  show(eqD H _ _).map _=_
  unfold eqD
  rw [dat_found hj ho,dat_found hl ho]
  show some (!PyData.eqv _ _)=_
  have hi:∀ i:Int,PyData.eqv (.int i) (.int i)=true:=fun i=>by simp only [PyData.eqv,beq_self_eq_true]
  rw [PyData.eqv,PyData.eqvAll,PyData.eqvAll,PyData.eqvAll,PyData.eqvAll,hi,hi,PyData.eqv,eqv_rows]; rfl
theorem ne_none:cmpV H .ne .none .none=some false:=by kernel_rfl
end
end L3
namespace L3
section
variable {D:Nat} {H H1 H2 G:Hp} {kp:Nat→List Nat} {cells:List V} {ns:List Int}
theorem strs_one:∀ cs:List Nat,strsOf (cs.map fun c=>V.str [c])=some (cs.map fun c=>[c])
  | []=>rfl
  | c::r=>by rw [List.map_cons,strsOf,strs_one r]; rfl
theorem cat_one:∀ cs:List Nat,catL (cs.map fun c=>[c])=cs
  | []=>rfl
  | c::r=>by rw [List.map_cons,catL,cat_one r]; rfl
noncomputable abbrev y0:MS:=.asg (.loc 1) (.lst [(.slice (.loc 0) (.lit .none) (.lit (.int 40)) (.lit .none)),(.lit (.int 0))])
noncomputable abbrev y1:MS:=.asg (.loc 2) (.cmp .eq (.call (.glob (.fn 72)) [(.loc 1),(.lit (.int 2))]) (.lit (.int 1)))
noncomputable abbrev y2:MS:=.asg (.loc 3) (.bmeth (.lit (.str [])) .join [(.comp (.idx (.lit (.str [97,98])) (.call (.glob (.fn 72)) [(.loc 1),(.lit (.int 2))])) (.prim .range [(.call (.glob (.fn 72)) [(.loc 1),(.lit (.int 7))])]) (.one 8) 1 [])])
noncomputable abbrev y3:MS:=.asg (.loc 4) (.call (.glob (.fn 73)) [(.loc 1),(.lit (.int 3))])
noncomputable abbrev y4:MS:=.asg (.loc 5) (.call (.glob (.fn 75)) [(.call (.glob (.fn 74)) [(.loc 4)]),(.loc 3),(.loc 2)])
noncomputable abbrev y5:MS:=.asg (.loc 6) (.lst [(.call (.glob (.fn 64)) [(.loc 4),(.loc 3),(.loc 2),(.new 4 [(.dict []),(.lit (.int 99999)),(.lst [])])])])
noncomputable abbrev y6:MS:=.expr (.bmeth (.loc 6) .append [(.call (.glob (.fn 59)) [(.loc 4),(.loc 3),(.loc 2),(.new 4 [(.dict []),(.lit (.int 99999)),(.lst [])])])])
noncomputable abbrev y7:MS:=.for (.one 7) (.loc 6) [(.ife (.cmp .isnot (.loc 7) (.lit .none)) [(.asg (.loc 7) (.tup [(.idx (.loc 7) (.lit (.int 0))),(.idx (.loc 7) (.lit (.int 1))),(.comp (.tup [(.attr (.loc 8) 17),(.loc 9)]) (.idx (.loc 7) (.lit (.int 2))) (.many [8,9]) 2 [])]))] []),(.ife (.cmp .ne (.loc 7) (.loc 5)) [(.ret (.lit (.bool false)))] [])]
noncomputable abbrev y8:MS:=.ret (.lit (.bool true))
noncomputable abbrev elS:ME:=.idx (.lit (.str [97,98])) (.call (.glob (.fn 72)) [.loc 1,.lit (.int 2)])
theorem subj_loop {d:Nat} {l:Lo} (hc:cells=ns.map .int) (hl:ns.length≤40) (h1:∀ v,(l.set 8 v)[1]? = some (some (.loc 1))):∀(k n:Nat) (x:Int) (t:Nat) (acc:List V) (H:Hp),k<n→Fd cells t H→t+k<1000 →
    ∃(cs:List Nat) (H':Hp),cs.length=k∧compN (fun l H=>evC P3 (callF P3 (d+1)) [] l H) (fun l H=>evE P3 (callF P3 (d+1)) elS l H) (.one 8) l n (.rng x 1 k) acc H=some (acc.reverse++cs.map (fun c=>.str [c]),H')∧Fd cells (t+k) H'∧F1 H H'
  | 0,n+1,x,t,acc,H,_,f,_=>⟨[],H,rfl,(cn_end rfl).trans (by rw [List.map_nil,List.append_nil]),f,F1.refl⟩
  | k+1,n+1,x,t,acc,H,hn,f,ht=>by
    refine next_ok_k (d:=d) (m:=2) f hc hl (by exact Nat.not_le.mp (lin [_,_] (.c 1 (.a (.a (.v 0) (.a (.v 1) (.n 1))) (.n 1)) (.n 1000) (.c 1 (.n 1000) (.v 0) .z)) rfl ht)) (by decide) fun a a1 a2 ea=>?_
    obtain⟨c,hx⟩:∃ c:Nat,idxV (H.set 1 (.list [.loc 0,.int (t+1:Nat)])) (.str [97,98]) (.int a)=some (.str [c]):=by
      have:a=0∨a=1:=by omega
      rcases this with rfl | rfl
      · exact⟨97,rfl⟩
      · exact⟨98,rfl⟩
    obtain⟨cs,H',hcs,e,f',g⟩:=subj_loop hc hl h1 k n (x+1) (t+1) (.str [c]::acc) _ (Nat.lt_of_succ_lt_succ hn) f.step (by exact Nat.not_le.mp (lin [_,_] (.c 1 (.a (.a (.v 0) (.a (.v 1) (.n 1))) (.n 1)) (.n 1000) (.c 1 (.n 1000) (.a (.a (.v 0) (.n 1)) (.v 1)) .z)) rfl ht))
    refine⟨c::cs,H',by rw [List.length_cons,hcs],(cn_step rfl rfl rc_t (r_idx r_lit (r_call r_glob (r_cons (r_loc (h1 _)) (r_cons r_lit r_nil)) ea) hx) e).trans ?_,by rw [show t+(k+1)=t+1+k by exact lnq [_,_] (.a (.v 0) (.a (.v 1) (.n 1))) (.a (.a (.v 0) (.n 1)) (.v 1)) rfl]; exact f',F1.set.trans g⟩
    rw [List.reverse_cons,List.append_assoc]; rfl
noncomputable def keyAt (H:Hp) (q:Nat):List Nat:=match H[q]? with
  | some (.inst _ fs)=>(match lookN 17 fs with | some (.str s)=>s | _=>[])
  | _=>[]
theorem keyAt_eq {q:Nat} {k:List Nat} (h:H[q]? = some (refO k)):keyAt H q=k:=by unfold keyAt; rw [h]; rfl
theorem Kk_of:∀ {n:Nd},Rk H n→Kk (keyAt H) H n
  | .ch _,_=>trivial
  | .lt n q,h=>⟨Kk_of h.1,by obtain⟨k,h1,h2⟩:=h.2; rw [keyAt_eq h1]; exact⟨h1,h2⟩⟩
  | .al a b,h=>⟨Kk_of h.1,Kk_of h.2⟩
  | .ca a b,h=>⟨Kk_of h.1,Kk_of h.2⟩
theorem host_init {d:Nat} {v1 v3:V} {m:Int}:callF P3 (d+1) 60 [.loc H.length,v1,.int m,v3] (H++[.inst 4 []])=some (.none,(H++[O.inst 4 [(9,v1),(10,.int m),(11,v3),(12,.int 64),(13,.int 0)]]++[O.list []]).set H.length (hostO v1 v3 (.loc (H.length+1)) m (0:Nat))) :=
  call_next rfl rfl (s_seq (s_asg0 (r_loc rfl) (t_attr0 (r_loc rfl) g_setN)) (s_seq (s_asg0 (r_loc rfl) (t_attr0 (r_loc rfl) g_setN)) (s_seq (s_asg0 (r_loc rfl) (t_attr0 (r_loc rfl) g_setN)) (s_seq (s_asg0 r_lit (t_attr0 (r_loc rfl) g_setN)) (s_seq (s_asg0 r_lit (t_attr0 (r_loc rfl) g_setN)) (s_seq (s_asg0 (r_lst r_nil) (t_attr0 (r_loc rfl) ((g_setA (app_in app_new)).trans (by rw [List.length_append]; rfl)))) s_nil0))))))
theorem host_at {x y z:O}:((H++[x]++[y]).set H.length z)[H.length]? = some z:=set_at (app_in app_new)
theorem host_fr {x y z:O}:Gr H ((H++[x]++[y]).set H.length z):=((Gr.app H _).trans (Gr.app _ _)).set (Nat.le_refl _)
theorem HS.gr {H0:Hp} {h:Nat} {va rf lg:V} {m:Int} {k:Nat} (t:HS h va rf lg m k H H1) (g:Gr H0 H) (hh:H0.length≤h):Gr H0 H1 :=
  ⟨Nat.le_trans g.len t.len,fun i hi=>(t.off i (Nat.lt_of_lt_of_le hi g.len) (Nat.ne_of_lt (Nat.lt_of_lt_of_le hi hh))).trans (g.off i hi)⟩
noncomputable def bF3:List MS:=[(.ife (.cmp .isnot (.loc 7) (.lit .none)) [(.asg (.loc 7) (.tup [(.idx (.loc 7) (.lit (.int 0))),(.idx (.loc 7) (.lit (.int 1))),(.comp (.tup [(.attr (.loc 8) 17),(.loc 9)]) (.idx (.loc 7) (.lit (.int 2))) (.many [8,9]) 2 [])]))] []),(.ife (.cmp .ne (.loc 7) (.loc 5)) [(.ret (.lit (.bool false)))] [])]
theorem R3.gr {R:Option (Nat×Nat×Nm)} {v:V} (h:R3 H R v) (g:Gr H H1):R3 H1 R v:=by
  cases R with
  | none=>exact h
  | some z=>obtain⟨j,h1,h2⟩:=h; exact⟨j,h1,g.at h2⟩
theorem Rd.gr {R:Option (Nat×Nat×Nm)} {v:V} (h:Rd kp H R v) (g:Gr H H1):Rd kp H1 R v:=by
  cases R with
  | none=>exact h
  | some z=>obtain⟨j,h1,h2⟩:=h; exact⟨j,h1,g.at h2⟩
theorem turn_k {R:Option (Nat×Nat×Nm)} {v du x0 x1 x2 x3 x4 x6:V} (h:R3 H R v) (h2:Rd kp H R du) (hR:∀ z,R=some z→okNm kp H z.2.2∧z.2.2.length<1000) {zg:Prop} (zk:∀ y,∀ H',(exB P3 (callF P3 D) bF3 [some x0,some x1,some x2,some x3,some x4,some du,some x6,some v] H=some (.next,[some x0,some x1,some x2,some x3,some x4,some du,some x6,y],H'))→(Gr H H')→zg):zg:=by
  cases R with
  | none =>
    cases h; cases h2
    exact zk _ H (s_seq (s_if_f (r_cmp (r_loc rfl) r_lit (by rfl)) s_nil0) (s_seq (s_if_f (r_cmp (r_loc rfl) (r_loc rfl) ne_none) s_nil0) s_nil0)) (Gr.refl H)
  | some z =>
    obtain⟨b,a,nm⟩:=z
    obtain⟨j,rfl,hj⟩:=h
    obtain⟨l,rfl,hl⟩:=h2
    obtain⟨ho,hn⟩:okNm kp H nm∧nm.length<1000:=hR _ rfl
    have hcomp:=names_comp (kp:=kp) (ct:=.many [8,9]) (D:=D) (l:=[some x0,some x1,some x2,some x3,some x4,some (.tup [.int b,.int a,.loc l]),some x6,some (.tup [.int b,.int a,.loc j])]++List.replicate 2 none) hj (fun u v=>⟨_,rfl,rfl,rfl⟩) nm 0 1048576 [] (fun j=>by rw [Nat.zero_add]) ho (by exact Nat.not_le.mp (lin [_] (.c 1 (.a (.v 0) (.n 1)) (.n 1000) (.c 1 (.n 1048576) (.v 0) .z)) rfl hn))
    rw [List.reverse_nil,List.nil_append] at hcomp
    have hlen:(nsV kp nm).length≤lim:=Nat.le_of_lt (lt_lim (by rw [nsV_len]; exact Nat.not_le.mp (lin [_] (.c 1 (.a (.v 0) (.n 1)) (.n 1000) (.c 1 (.n 100000) (.v 0) .z)) rfl hn)))
    exact zk _ _ (s_seq (s_if_t (r_cmp (r_loc rfl) r_lit (by rfl)) (s_seq (s_asg0 (r_tup (r_cons (r_idx (r_loc rfl) r_lit (by rfl)) (r_cons (r_idx (r_loc rfl) r_lit (by rfl)) (r_cons (r_comp (r_idx (r_loc rfl) r_lit (by rfl)) (i_lst hj) hcomp (by exact hlen)) r_nil)))) t_loc0) s_nil0)) (s_seq (s_if_f (r_cmp (r_loc rfl) (r_loc rfl) (by exact ne_found app_new (app_in hl) (fun x hx=>⟨app_in (ho x hx).1,(ho x hx).2⟩))) s_nil0) s_nil0)) (Gr.app _ _)
theorem turn {R:Option (Nat×Nat×Nm)} {v du x0 x1 x2 x3 x4 x6:V} (h:R3 H R v) (h2:Rd kp H R du) (hR:∀ z,R=some z→okNm kp H z.2.2∧z.2.2.length<1000):∃ y H',exB P3 (callF P3 D) bF3 [some x0,some x1,some x2,some x3,some x4,some du,some x6,some v] H=some (.next,[some x0,some x1,some x2,some x3,some x4,some du,some x6,y],H')∧Gr H H':=turn_k h h2 hR fun y H' zh1 zh2=>⟨y,H',zh1,zh2⟩
theorem nm_ne {R:Option (Nat×Nat×Nm)} {v:V} (h:R3 H R v) (nm:Nm):O.list (nmL nm)≠O.list [v]:=fun e=>by
  cases nm with
  | nil=>cases e
  | cons x r =>
    have e:O.list (.tup [.loc x.1,.str x.2]::nmL r)=O.list [v]:=e
    cases R with
    | none=>cases h; cases e
    | some z=>obtain⟨j,rfl,_⟩:=h; cases e
theorem law_ok (hn:ns.length≤63):∃ H',callF P3 100 76 [.ro (ns.map .int)] [] = some (.bool true,H'):=by
  have hc:(ns.map V.int).take 40=(ns.take 40).map .int:=List.map_take.symm
  have hl:(ns.take 40).length≤40:=by rw [List.length_take]; omega
  have f0:Fd ((ns.map V.int).take 40) 0 ([]++[O.list ((ns.map V.int).take 40)]++[O.list [.loc 0,.int 0]]):=⟨rfl,rfl⟩
  refine next_ok_k (d:=98) (m:=2) f0 hc hl (by decide) (by decide) fun a a0 a1 e1=>?_
  refine next_ok_k (d:=98) (m:=7) f0.step hc hl (by decide) (by decide) fun k k0 k1 e2=>?_
  obtain⟨cs,H2,hcs,e3,f2,g2⟩:=subj_loop (d:=98) (l:=[some (.ro (ns.map .int)),some (.loc 1),some (.bool (a == 1)),none,none,none,none,none]++List.replicate 1 none) hc hl (fun v=>rfl) k.toNat 1048576 0 2 [] _ (by omega) f0.step.step (by omega)
  have hjn:=g_join (H:=H2++[O.list (cs.map fun c=>.str [c])]) app_new (strs_one cs) (by rw [cat_one]; exact Nat.le_of_lt (lt_lim (by omega)))
  rw [cat_one] at hjn
  have f3:=f2.app [O.list (cs.map fun c=>.str [c])]
  generalize hG3:H2++[O.list (cs.map fun c=>.str [c])] = G3 at hjn f3
  obtain⟨n,t4,H4,e4,nk⟩:=node_ok (D:=94) hc hl 3 _ G3 f3 (by show _+30<_; omega)
  have hz:sz n≤15:=by have:=nk.sz; have:(2:Nat) ^ (3+1)=16:=rfl; omega
  have kk:=Kk_of nk.rk
  generalize keyAt H4=kp at kk
  obtain⟨r,vs,H5,e5,g5,hr,av⟩:=words_ok (kp:=kp) (D:=95) n 3 H4 nk.dep kk nk.sm hz
  have hwl:=wd_len n
  have hp:2 ^ sz n≤2 ^ 15:=Nat.pow_le_pow_right (by decide) hz
  have hvl:=av.len
  refine due_ok_k (D:=98) (s:=cs) (an:=a == 1) hr av (by omega) (by omega) fun du e6 hdu=>?_
  have hnames:=due_names (kp:=kp) (H:=H5) (s:=cs) (ws:=wd n) (fun w hw=>⟨(wd_names n (kk.gr g5) nk.sm w hw).2,by have:=(wd_mem n nk.sm w hw).2; exact Nat.not_le.mp (lin [_,_] (.c 1 (.v 0) (.n 15) (.c 1 (.v 1) (.v 0) (.c 1 (.n 1000) (.v 1) .z))) rfl hz this)⟩) (cnt (a == 1) cs) 0
  have hcnt:cnt (a == 1) cs≤7:=by
    cases a == 1
    · show cs.length+1≤7; omega
    · show 1≤7; exact Nat.not_lt.mp (lin [] (.c 1 (.a (.n 7) (.n 1)) (.n 1) .z) rfl)
  have hck:=ck_le n 3 0 nk.dep
  have hbk:=bk_le n 3 1 nk.dep
  have hm3:mm 3=677:=rfl
  rw [hm3] at hck hbk
  have b1:cnt (a == 1) cs * ckN n 0≤7 * 677:=Nat.mul_le_mul hcnt (by exact Nat.not_lt.mp (lin [_] (.c 1 (.a (.v 0) (.n 1)) (.m 677 (.a (.n 0) (.n 1))) (.c 1 (.a (.n 677) (.n 1)) (.v 0) .z)) rfl hck))
  have b2:cnt (a == 1) cs * (bk n 1+1)≤7 * 2031:=Nat.mul_le_mul hcnt (by exact Nat.not_lt.mp (lin [_] (.c 1 (.a (.v 0) (.n 2)) (.m 677 (.a (.n 1) (.n 2))) (.c 1 (.a (.n 2031) (.n 1)) (.a (.v 0) (.n 1)) .z)) rfl hbk))
  obtain⟨k7,v1,H6,hk7,e7,t7,r7⟩:=plain_ok (own:=Mine.L3.fnsL) (d:=91) (k:=0) (s:=cs) (n:=n) (an:=a == 1) (m:=99999) (host_at (H:=H5++[O.dict []]++[O.list []]) (x:=O.inst 4 [(9,.loc H5.length),(10,.int 99999),(11,.loc (H5++[O.dict []]).length),(12,.int 64),(13,.int 0)]) (y:=O.list []) (z:=hostO (.loc H5.length) (.loc (H5++[O.dict []]).length) (.loc ((H5++[O.dict []]++[O.list []]).length+1)) 99999 (0:Nat))) (by decide) (by omega) (by omega)
  have g6:Gr H5 H6:=HS.gr t7 (((Gr.app _ _).trans (Gr.app _ _)).trans host_fr) ((Gr.app _ _).trans (Gr.app _ _)).len
  obtain⟨k8,v2,H7,hk8,e8,t8,r8⟩:=compiled_ok (own:=Mine.L3.fnsL) (d:=91) (k:=0) (s:=cs) (n:=n) (an:=a == 1) (m:=99999) (host_at (H:=H6++[O.list [v1]]++[O.dict []]++[O.list []]) (x:=O.inst 4 [(9,.loc (H6++[O.list [v1]]).length),(10,.int 99999),(11,.loc (H6++[O.list [v1]]++[O.dict []]).length),(12,.int 64),(13,.int 0)]) (y:=O.list []) (z:=hostO (.loc (H6++[O.list [v1]]).length) (.loc (H6++[O.list [v1]]++[O.dict []]).length) (.loc ((H6++[O.list [v1]]++[O.dict []]++[O.list []]).length+1)) 99999 (0:Nat))) (by decide) (by omega) (by exact Nat.not_le.mp (lin [_] (.c 1 (.v 0) (.n 15) (.c 1 (.n 100) (.v 0) .z)) rfl hz)) (.inr nk.sm) (by omega)
  have g7:Gr (H6++[O.list [v1]]) H7:=HS.gr t8 (((Gr.app _ _).trans (Gr.app _ _)).trans host_fr) ((Gr.app _ _).trans (Gr.app _ _)).len
  have hlw:H7[H6.length]? = some (.list [v1]):=g7.at app_new
  have g8:Gr H6 (H7.set H6.length (.list ([v1]++[v2]))):=((Gr.app _ _).trans g7).set (Nat.le_refl _)
  have r8':R3 (H7.set H6.length (.list ([v1]++[v2]))) (fst3 (fun b=>denN cs n b []) (cnt (a == 1) cs) 0) v2:=by
    have hne:=fun nm=>nm_ne r7 nm
    cases hR:fst3 (fun b=>denN cs n b []) (cnt (a == 1) cs) 0 with
    | none=>rw [hR] at r8; exact r8
    | some z =>
      rw [hR] at r8
      obtain⟨j,h1,h2⟩:=r8
      exact⟨j,h1,set_off (ob_ne hlw h2 (Ne.symm (hne _))) h2⟩
  have r7':=R3.gr (R:=fst3 (fun b=>denN cs n b []) (cnt (a == 1) cs) 0) (v:=v1) r7 g8
  rw [fst_due] at r7' r8'
  have hd8:=Rd.gr (R:=dueF (wd n) cs (cnt (a == 1) cs) 0) hdu (g6.trans g8)
  have hR8:∀ z,dueF (wd n) cs (cnt (a == 1) cs) 0=some z→okNm kp (H7.set H6.length (.list ([v1]++[v2]))) z.2.2∧z.2.2.length<1000:=fun z hz=>⟨fun x hx=>⟨(g6.trans g8).at ((hnames z hz).1 x hx).1,((hnames z hz).1 x hx).2⟩,(hnames z hz).2⟩
  refine turn_k (D:=99) (x0:=.ro (ns.map .int)) (x1:=.loc 1) (x2:=.bool (a == 1)) (x3:=.str cs) (x4:=nV n) (x6:=.loc H6.length) r7' hd8 hR8 fun y9 H9 e9 g9=>?_
  refine turn_k (D:=99) (x0:=.ro (ns.map .int)) (x1:=.loc 1) (x2:=.bool (a == 1)) (x3:=.str cs) (x4:=nV n) (x6:=.loc H6.length) (R3.gr r8' g9) (Rd.gr hd8 g9) (fun z hz=>⟨fun x hx=>⟨g9.at ((hR8 z hz).1 x hx).1,((hR8 z hz).1 x hx).2⟩,(hR8 z hz).2⟩) fun y10 H10 e10 g10=>?_
  have hw8:(H7.set H6.length (.list ([v1]++[v2])))[H6.length]? = some (.list [v1,v2]):=set_at hlw
  subst hG3
  have q0:exS P3 (callF P3 99) y0 [some (.ro (ns.map .int)),none,none,none,none,none,none,none] [] = some (.next,[some (.ro (ns.map .int)),some (.loc 1),none,none,none,none,none,none],([]++[O.list ((ns.map V.int).take 40)]++[O.list [V.loc 0,V.int 0]])):=(s_asg0 (r_lst (r_cons (r_slice (r_loc rfl) r_lit r_lit r_lit (by rfl)) (r_cons r_lit r_nil))) t_loc0)
  have q1:exS P3 (callF P3 99) y1 [some (.ro (ns.map .int)),some (.loc 1),none,none,none,none,none,none] ([]++[O.list ((ns.map V.int).take 40)]++[O.list [V.loc 0,V.int 0]])=some (.next,[some (.ro (ns.map .int)),some (.loc 1),some (.bool (a == 1)),none,none,none,none,none],(([]++[O.list ((ns.map V.int).take 40)]++[O.list [V.loc 0,V.int 0]]).set 1 (.list [.loc 0,.int (0+1:Nat)]))):=(s_asg0 (r_cmp (r_call r_glob (r_cons (r_loc rfl) (r_cons r_lit r_nil)) e1) r_lit (by rfl)) t_loc0)
  have q2:exS P3 (callF P3 99) y2 [some (.ro (ns.map .int)),some (.loc 1),some (.bool (a == 1)),none,none,none,none,none] (([]++[O.list ((ns.map V.int).take 40)]++[O.list [V.loc 0,V.int 0]]).set 1 (.list [.loc 0,.int (0+1:Nat)]))=some (.next,[some (.ro (ns.map .int)),some (.loc 1),some (.bool (a == 1)),some (.str cs),none,none,none,none],(H2++[O.list (cs.map fun c=>V.str [c])])):=(s_asg0 (r_bm r_lit (by rfl) (r_cons (r_comp (r_prim (r_cons (r_call r_glob (r_cons (r_loc rfl) (r_cons r_lit r_nil)) e2) r_nil) (p_range1 (by omega))) (i_rng (by decide) (by omega) (.inl rfl)) ((rng_up (p:=0) (q:=k) (m:=k.toNat) (by omega)).symm▸e3) (by rw [List.reverse_nil,List.nil_append,List.length_map]; exact Nat.le_of_lt (lt_lim (by omega)))) r_nil) (by exact hjn)) t_loc0)
  have q3:exS P3 (callF P3 99) y3 [some (.ro (ns.map .int)),some (.loc 1),some (.bool (a == 1)),some (.str cs),none,none,none,none] (H2++[O.list (cs.map fun c=>V.str [c])])=some (.next,[some (.ro (ns.map .int)),some (.loc 1),some (.bool (a == 1)),some (.str cs),some (nV n),none,none,none],H4):=(s_asg0 (r_call r_glob (r_cons (r_loc rfl) (r_cons r_lit r_nil)) e4) t_loc0)
  have q4:exS P3 (callF P3 99) y4 [some (.ro (ns.map .int)),some (.loc 1),some (.bool (a == 1)),some (.str cs),some (nV n),none,none,none] H4=some (.next,[some (.ro (ns.map .int)),some (.loc 1),some (.bool (a == 1)),some (.str cs),some (nV n),some du,none,none],H5):=(s_asg0 (r_call r_glob (r_cons (r_call r_glob (r_cons (r_loc rfl) r_nil) e5) (r_cons (r_loc rfl) (r_cons (r_loc rfl) r_nil))) e6) t_loc0)
  have q5:exS P3 (callF P3 99) y5 [some (.ro (ns.map .int)),some (.loc 1),some (.bool (a == 1)),some (.str cs),some (nV n),some du,none,none] H5=some (.next,[some (.ro (ns.map .int)),some (.loc 1),some (.bool (a == 1)),some (.str cs),some (nV n),some du,some (.loc H6.length),none],(H6++[O.list [v1]])):=(s_asg0 (r_lst (r_cons (r_call r_glob (r_cons (r_loc rfl) (r_cons (r_loc rfl) (r_cons (r_loc rfl) (r_cons (r_new (r_cons r_dict0 (r_cons r_lit (r_cons (r_lst r_nil) r_nil))) rfl host_init) r_nil)))) e7) r_nil)) t_loc0)
  have q6:exS P3 (callF P3 99) y6 [some (.ro (ns.map .int)),some (.loc 1),some (.bool (a == 1)),some (.str cs),some (nV n),some du,some (.loc H6.length),none] (H6++[O.list [v1]])=some (.next,[some (.ro (ns.map .int)),some (.loc 1),some (.bool (a == 1)),some (.str cs),some (nV n),some du,some (.loc H6.length),none],(H7.set H6.length (.list ([v1]++[v2])))):=(s_expr0 (r_bm (r_loc rfl) (g_kindL app_new rfl) (r_cons (r_call r_glob (r_cons (r_loc rfl) (r_cons (r_loc rfl) (r_cons (r_loc rfl) (r_cons (r_new (r_cons r_dict0 (r_cons r_lit (r_cons (r_lst r_nil) r_nil))) rfl host_init) r_nil)))) e8) r_nil) (g_append hlw (lt_lim (by show 1<100000; decide)))))
  exact⟨H10,call_ret rfl rfl (s_seq q0 (s_seq q1 (s_seq q2 (s_seq q3 (s_seq q4 (s_seq q5 (s_seq q6 (s_seq (s_for0 (r_loc rfl) (i_lst hw8) (fn_next (n_lst hw8 rfl) rfl e9 (fn_next (n_lst (g9.at hw8) rfl) rfl e10 (fn_end (n_lst0 ((g9.trans g10).at hw8) rfl))))) (s_stop (s_ret0 r_lit))))))))))⟩
end
end L3
end Mine.Q
set_option maxRecDepth 100000
namespace Mine
namespace HD
noncomputable abbrev PW:Program:=PySem.Challenge.rw_sa0605_03.row.toRowW.1
noncomputable def bd:List Stmt:=PW.main.body
noncomputable def st (k:Nat):Stmt:=bd.getD k default
noncomputable def cB:Stmt→List Stmt | .ClassDef _ _ _ b _ _ _ _ _ _ _=>b | _=>[]
noncomputable def sc (k j:Nat):Stmt:=(cB (st k)).getD j default
noncomputable def fdA:Stmt→Arguments | .FunctionDef _ a _ _ _ _ _ _ _ _=>a | _=>default
noncomputable def fdB:Stmt→List Stmt | .FunctionDef _ _ b _ _ _ _ _ _ _=>b | _=>[]
noncomputable def fdS:Stmt→Scope | .FunctionDef _ _ _ _ _ _ s _ _ _=>s | _=>default
noncomputable abbrev S (x:String):Str:=Str.ofString x
noncomputable abbrev s (x:String) (n:Nat):Value:=.str (S x) n
noncomputable abbrev r (n:Nat):Value:=.ref n
noncomputable abbrev i (n k:Nat):Value:=.int (.ofNat n) k
noncomputable abbrev KH:=PyData.keyHash
noncomputable abbrev E (P:Params) (x:String) (n:Nat) (v:Value):DictEntry:=⟨PyData.keyHash P (S x),.str (S x) n,v⟩
noncomputable abbrev N:=BT.node
noncomputable abbrev z:=BT.nil
noncomputable abbrev N0:Value:=.none
noncomputable abbrev vi (n k:Nat):Value:=.int (.ofNat n) k
noncomputable abbrev VT:=Value.type
noncomputable abbrev VB:=Value.builtin
noncomputable abbrev TU:Value:=.type "tuple"
noncomputable abbrev j (k:Nat):Value:=vi k 0
noncomputable abbrev j0:Value:=vi 0 0
noncomputable abbrev u (n:Nat):Value:=s "/claim/cut.py" n
noncomputable abbrev bt:Value:=.bool true
noncomputable abbrev bf:Value:=.bool false
noncomputable abbrev ldr:Value:=VB "__main__.__loader__#opaque"
noncomputable abbrev fl (t:Value) (l:List Value):Obj:=⟨t,none,.fields ⟨l⟩,⟨[]⟩⟩
noncomputable abbrev sq (l:List Value):Obj:=⟨TU,none,.seq ⟨l⟩ 0,⟨[]⟩⟩
noncomputable abbrev di (l:List DictEntry) (n:Nat):Obj:=⟨VT "dict",none,.dict ⟨l⟩ n,⟨[]⟩⟩
noncomputable abbrev f0 (a b:String) (x:Stmt):Obj:=⟨N0,none,.func ⟨S a,S b,fdA x,.stmts (fdB x),fdS x,0,[],N0,N0,N0,N0,none,N0,N0,0⟩,⟨[]⟩⟩
noncomputable abbrev f1 (a b:String) (x:Stmt) (n:Nat) (m:Value) (k:Nat):Obj:=⟨VT "function",none,.func ⟨S a,S b,fdA x,.stmts (fdB x),fdS x,n,[],N0,N0,N0,m,none,r k,N0,0⟩,⟨[]⟩⟩
noncomputable def alt:Bool→List Obj→List Obj
  | _,[]=>[]
  | true,a::r=>a::alt false r
  | false,_::r=>alt true r
noncomputable def mkT:Nat→List Obj→BT
  | 0,_=>z
  | _,[]=>z
  | n+1,a::r=>N a (mkT n (alt true r)) (mkT n (alt false r))
noncomputable def o43:Obj:=sq []
noncomputable def o44:Obj:=fl N0 []
noncomputable def o45:Obj:=fl (VT "code") [(s "<module>" 182),(s "<module>" 183),(u 184),(j 1),j0,j0,j0,j0,(r 11),bf,(j 181),(r 12),N0,N0,N0,N0,(j 185),(j 1),(u 186)]
noncomputable def o46:Obj:=⟨(VT "frame"),none,Data.plain,⟨[(some (r 13)),(some (r 3)),(some (r 3)),none,(some (s "__main__" 164)),none,(some (r 0))]⟩⟩
noncomputable def o49 (P:Params):Obj:=⟨N0,none,(.dict ⟨[E P "type.__subclasses__.Exception.0" 219 (j 34),E P "type.__subclasses__.Exception.n" 220 (j 1)]⟩ 2),⟨[]⟩⟩
noncomputable def o50 (P:Params):Obj:=di [E P "__name__" 165 (s "snobol.values" 187),E P "__doc__" 166 N0,E P "__package__" 167 N0,E P "__loader__" 168 ldr,E P "__spec__" 169 N0,E P "__annotations__" 170 (r 6),E P "__builtins__" 171 (r 4),E P "__file__" 173 (u 172),E P "__cached__" 174 N0,E P "SnobolError" 222 (r 34)] 10
noncomputable def o51:Obj:=fl N0 [(j 2),j0,(r 21)]
noncomputable def o52:Obj:=sq [(VT "Exception")]
noncomputable def o53:Obj:=fl (VT "builtin_function_or_method") [(VB "type.__prepare__"),(VT "type")]
noncomputable def o54 (P:Params):Obj:=di [E P "__module__" 196 (s "snobol.values" 187),E P "__qualname__" 198 (s "SnobolError" 197),E P "__firstlineno__" 200 (vi 2 199),E P "__init__" 211 (r 31),E P "__static_attributes__" 214 (r 32),E P "__classcell__" 215 (r 18)] 6
noncomputable def o55:Obj:=⟨(VT "cell"),none,(.cell (some (r 34))),⟨[]⟩⟩
noncomputable def o57:Obj:=fl N0 [(j 4),(j 4),(r 30)]
noncomputable def o58:Obj:=fl (VT "code") [(s "SnobolError" 191),(s "SnobolError" 192),(u 193),(j 2),j0,j0,j0,j0,(r 19),bf,(j 181),(r 20),N0,N0,N0,N0,(j 194),(j 2),(u 195)]
noncomputable def o59:Obj:=⟨(VT "frame"),none,Data.plain,⟨[(some (r 21)),(some (r 3)),(some (r 17)),none,(some (s "snobol.values" 187)),none,(some (r 0))]⟩⟩
noncomputable def o60:Obj:=sq [(s "" 201)]
noncomputable def o61:Obj:=sq [(r 18)]
noncomputable def o62:Obj:=sq [(s "__class__" 205)]
noncomputable def o64:Obj:=sq [(s "self" 206),(s "number" 207),(s "told" 208)]
noncomputable def o66:Obj:=f0 "__init__" "SnobolError.__init__" (sc 1 0)
noncomputable def o67:Obj:=fl (VT "code") [(s "__init__" 202),(s "SnobolError.__init__" 203),(u 204),(j 4),(j 3),j0,j0,(j 3),(r 25),bt,(j 181),(r 26),N0,(r 27),(r 28),(r 29),(j 209),(j 4),(u 210)]
noncomputable def o68:Obj:=⟨(VT "function"),none,(.func ⟨(S "__init__"),(S "SnobolError.__init__"),fdA (sc 1 0),.stmts (fdB (sc 1 0)),fdS (sc 1 0),3,[((S "__class__"),18)],(r 23),N0,N0,(s "snobol.values" 187),none,(r 30),(r 24),0⟩),⟨[]⟩⟩
noncomputable def o69:Obj:=sq [(s "number" 212),(s "told" 213)]
noncomputable def o70 (P:Params):Obj:=di [E P "__module__" 196 (s "snobol.values" 187),E P "__firstlineno__" 200 (vi 2 199),E P "__init__" 211 (r 31),E P "__static_attributes__" 214 (r 32),E P "__weakref__" 217 (r 35),E P "__doc__" 218 N0] 4
noncomputable def o71:Obj:=⟨(VT "type"),none,(.cls ⟨(S "SnobolError"),[(VT "Exception")],[(r 34),(VT "Exception"),(VT "BaseException"),(VT "object")],33,(S "SnobolError"),true,[],[],false,none,false⟩),⟨[(some (r 15)),none,(some (s "SnobolError" 189)),(some (s "SnobolError" 197)),(some (VB "Exception.__new__")),(some bt)]⟩⟩
noncomputable def o72:Obj:=fl (VT "getset_descriptor") [(s "__weakref__" 216),(r 34),(VB "ExceptionGroup.__weakref__"),N0]
noncomputable def o73:Obj:=fl (VT "super") [(r 34),(r 34),(r 34)]
noncomputable def o74:Obj:=fl (VT "builtin_function_or_method") [(VB "object.__init_subclass__"),(r 34)]
noncomputable def o75 (P:Params):Obj:=di [E P "__name__" 165 (s "snobol.values" 187),E P "__doc__" 166 N0,E P "__package__" 167 N0,E P "__loader__" 168 ldr,E P "__spec__" 169 N0,E P "__annotations__" 170 (r 6),E P "__builtins__" 171 (r 4),E P "__file__" 173 (u 172),E P "__cached__" 174 N0,E P "SnobolError" 222 (r 34),E P "Failure" 242 (r 47)] 11
noncomputable def o76:Obj:=fl N0 [(j 2),j0,(r 21),(j 8),j0,(r 43)]
noncomputable def o79 (P:Params):Obj:=di [E P "__module__" 230 (s "snobol.values" 187),E P "__qualname__" 232 (s "Failure" 231),E P "__firstlineno__" 234 (vi 8 233),E P "__static_attributes__" 235 (r 45)] 4
noncomputable def o82:Obj:=fl (VT "code") [(s "Failure" 225),(s "Failure" 226),(u 227),(j 8),j0,j0,j0,j0,(r 41),bf,(j 181),(r 42),N0,N0,N0,N0,(j 228),(j 8),(u 229)]
noncomputable def o83:Obj:=⟨(VT "frame"),none,Data.plain,⟨[(some (r 43)),(some (r 3)),(some (r 40)),none,(some (s "snobol.values" 187)),none,(some (r 0))]⟩⟩
noncomputable def o85 (P:Params):Obj:=di [E P "__module__" 230 (s "snobol.values" 187),E P "__firstlineno__" 234 (vi 8 233),E P "__static_attributes__" 235 (r 45),E P "__dict__" 237 (r 48),E P "__weakref__" 239 (r 49),E P "__doc__" 240 N0] 4
noncomputable def o86:Obj:=⟨(VT "type"),none,(.cls ⟨(S "Failure"),[(VT "object")],[(r 47),(VT "object")],46,(S "Failure"),true,[],[],false,none,false⟩),⟨[none,none,(some (s "Failure" 223)),(some (s "Failure" 231)),(some (VB "object.__new__")),(some bt)]⟩⟩
noncomputable def o87:Obj:=fl (VT "getset_descriptor") [(s "__dict__" 236),(r 47),(VB "function.__dict__"),(VB "function.__dict__#set")]
noncomputable def o88:Obj:=fl (VT "getset_descriptor") [(s "__weakref__" 238),(r 47),(VB "ExceptionGroup.__weakref__"),N0]
noncomputable def o89:Obj:=fl (VT "super") [(r 47),(r 47),(r 47)]
noncomputable def o90:Obj:=fl (VT "builtin_function_or_method") [(VB "object.__init_subclass__"),(r 47)]
noncomputable def o91 (P:Params):Obj:=di [E P "__name__" 165 (s "snobol.values" 187),E P "__doc__" 166 N0,E P "__package__" 167 N0,E P "__loader__" 168 ldr,E P "__spec__" 169 N0,E P "__annotations__" 170 (r 6),E P "__builtins__" 171 (r 4),E P "__file__" 173 (u 172),E P "__cached__" 174 N0,E P "SnobolError" 222 (r 34),E P "Failure" 242 (r 47),E P "Pattern" 271 (r 68)] 12
noncomputable def o92:Obj:=fl N0 [(j 2),j0,(r 21),(j 8),j0,(r 43),(j 10),j0,(r 57)]
noncomputable def o95 (P:Params):Obj:=di [E P "__module__" 250 (s "snobol.values" 187),E P "__qualname__" 252 (s "Pattern" 251),E P "__firstlineno__" 254 (vi 10 253),E P "__init__" 262 (r 65),E P "__static_attributes__" 264 (r 66)] 5
noncomputable def o97:Obj:=fl N0 [(j 12),(j 4),(r 64)]
noncomputable def o98:Obj:=fl (VT "code") [(s "Pattern" 245),(s "Pattern" 246),(u 247),(j 10),j0,j0,j0,j0,(r 55),bf,(j 181),(r 56),N0,N0,N0,N0,(j 248),(j 10),(u 249)]
noncomputable def o99:Obj:=⟨(VT "frame"),none,Data.plain,⟨[(some (r 57)),(some (r 3)),(some (r 54)),none,(some (s "snobol.values" 187)),none,(some (r 0))]⟩⟩
noncomputable def o102:Obj:=sq [(s "self" 258),(s "node" 259)]
noncomputable def o104:Obj:=f0 "__init__" "Pattern.__init__" (sc 3 0)
noncomputable def o105:Obj:=fl (VT "code") [(s "__init__" 255),(s "Pattern.__init__" 256),(u 257),(j 12),(j 2),j0,j0,(j 3),(r 59),bt,(j 181),(r 60),N0,(r 61),(r 62),(r 63),(j 260),(j 12),(u 261)]
noncomputable def o106:Obj:=f1 "__init__" "Pattern.__init__" (sc 3 0) 3 (s "snobol.values" 187) 64
noncomputable def o107:Obj:=sq [(s "node" 263)]
noncomputable def o108 (P:Params):Obj:=di [E P "__module__" 250 (s "snobol.values" 187),E P "__firstlineno__" 254 (vi 10 253),E P "__init__" 262 (r 65),E P "__static_attributes__" 264 (r 66),E P "__dict__" 266 (r 69),E P "__weakref__" 268 (r 70),E P "__doc__" 269 N0] 4
noncomputable def o109:Obj:=⟨(VT "type"),none,(.cls ⟨(S "Pattern"),[(VT "object")],[(r 68),(VT "object")],67,(S "Pattern"),true,[],[],false,none,false⟩),⟨[none,none,(some (s "Pattern" 243)),(some (s "Pattern" 251)),(some (VB "object.__new__")),(some bt)]⟩⟩
noncomputable def o110:Obj:=fl (VT "getset_descriptor") [(s "__dict__" 265),(r 68),(VB "function.__dict__"),(VB "function.__dict__#set")]
noncomputable def o111:Obj:=fl (VT "getset_descriptor") [(s "__weakref__" 267),(r 68),(VB "ExceptionGroup.__weakref__"),N0]
noncomputable def o112:Obj:=fl (VT "super") [(r 68),(r 68),(r 68)]
noncomputable def o113:Obj:=fl (VT "builtin_function_or_method") [(VB "object.__init_subclass__"),(r 68)]
noncomputable def o114 (P:Params):Obj:=di [E P "__name__" 165 (s "snobol.values" 187),E P "__doc__" 166 N0,E P "__package__" 167 N0,E P "__loader__" 168 ldr,E P "__spec__" 169 N0,E P "__annotations__" 170 (r 6),E P "__builtins__" 171 (r 4),E P "__file__" 173 (u 172),E P "__cached__" 174 N0,E P "SnobolError" 222 (r 34),E P "Failure" 242 (r 47),E P "Pattern" 271 (r 68),E P "Delayed" 300 (r 89)] 13
noncomputable def o115:Obj:=fl N0 [(j 2),j0,(r 21),(j 8),j0,(r 43),(j 10),j0,(r 57),(j 14),j0,(r 78)]
noncomputable def o118 (P:Params):Obj:=di [E P "__module__" 279 (s "snobol.values" 187),E P "__qualname__" 281 (s "Delayed" 280),E P "__firstlineno__" 283 (vi 14 282),E P "__init__" 291 (r 86),E P "__static_attributes__" 293 (r 87)] 5
noncomputable def o120:Obj:=fl N0 [(j 16),(j 4),(r 85)]
noncomputable def o121:Obj:=fl (VT "code") [(s "Delayed" 274),(s "Delayed" 275),(u 276),(j 14),j0,j0,j0,j0,(r 76),bf,(j 181),(r 77),N0,N0,N0,N0,(j 277),(j 14),(u 278)]
noncomputable def o122:Obj:=⟨(VT "frame"),none,Data.plain,⟨[(some (r 78)),(some (r 3)),(some (r 75)),none,(some (s "snobol.values" 187)),none,(some (r 0))]⟩⟩
noncomputable def o125:Obj:=sq [(s "self" 287),(s "tree" 288)]
noncomputable def o127:Obj:=f0 "__init__" "Delayed.__init__" (sc 4 0)
noncomputable def o128:Obj:=fl (VT "code") [(s "__init__" 284),(s "Delayed.__init__" 285),(u 286),(j 16),(j 2),j0,j0,(j 3),(r 80),bt,(j 181),(r 81),N0,(r 82),(r 83),(r 84),(j 289),(j 16),(u 290)]
noncomputable def o129:Obj:=f1 "__init__" "Delayed.__init__" (sc 4 0) 3 (s "snobol.values" 187) 85
noncomputable def o130:Obj:=sq [(s "tree" 292)]
noncomputable def o131 (P:Params):Obj:=di [E P "__module__" 279 (s "snobol.values" 187),E P "__firstlineno__" 283 (vi 14 282),E P "__init__" 291 (r 86),E P "__static_attributes__" 293 (r 87),E P "__dict__" 295 (r 90),E P "__weakref__" 297 (r 91),E P "__doc__" 298 N0] 4
noncomputable def o132:Obj:=⟨(VT "type"),none,(.cls ⟨(S "Delayed"),[(VT "object")],[(r 89),(VT "object")],88,(S "Delayed"),true,[],[],false,none,false⟩),⟨[none,none,(some (s "Delayed" 272)),(some (s "Delayed" 280)),(some (VB "object.__new__")),(some bt)]⟩⟩
noncomputable def o133:Obj:=fl (VT "getset_descriptor") [(s "__dict__" 294),(r 89),(VB "function.__dict__"),(VB "function.__dict__#set")]
noncomputable def o134:Obj:=fl (VT "getset_descriptor") [(s "__weakref__" 296),(r 89),(VB "ExceptionGroup.__weakref__"),N0]
noncomputable def o135:Obj:=fl (VT "super") [(r 89),(r 89),(r 89)]
noncomputable def o136:Obj:=fl (VT "builtin_function_or_method") [(VB "object.__init_subclass__"),(r 89)]
noncomputable def o137 (P:Params):Obj:=di [E P "__name__" 165 (s "snobol.values" 187),E P "__doc__" 166 N0,E P "__package__" 167 N0,E P "__loader__" 168 ldr,E P "__spec__" 169 N0,E P "__annotations__" 170 (r 6),E P "__builtins__" 171 (r 4),E P "__file__" 173 (u 172),E P "__cached__" 174 N0,E P "SnobolError" 222 (r 34),E P "Failure" 242 (r 47),E P "Pattern" 271 (r 68),E P "Delayed" 300 (r 89),E P "NameRef" 333 (r 110),E P "is_fail" 340 (r 121),E P "fits" 348 (r 128),E P "whole_of_text" 359 (r 135),E P "text_of_whole" 368 (r 142),E P "to_whole" 376 (r 149)] 19
noncomputable def o138:Obj:=fl N0 [(j 2),j0,(r 21),(j 8),j0,(r 43),(j 10),j0,(r 57),(j 14),j0,(r 78),(j 18),j0,(r 99),(j 24),j0,(r 120),(j 26),j0,(r 127),(j 28),j0,(r 134),(j 41),j0,(r 141),(j 47),j0,(r 148)]
noncomputable def o141 (P:Params):Obj:=di [E P "__module__" 308 (s "snobol.values" 187),E P "__qualname__" 310 (s "NameRef" 309),E P "__firstlineno__" 312 (vi 18 311),E P "__init__" 322 (r 107),E P "__static_attributes__" 326 (r 108)] 5
noncomputable def o143:Obj:=fl N0 [(j 20),(j 4),(r 106)]
noncomputable def o144:Obj:=fl (VT "code") [(s "NameRef" 303),(s "NameRef" 304),(u 305),(j 18),j0,j0,j0,j0,(r 97),bf,(j 181),(r 98),N0,N0,N0,N0,(j 306),(j 18),(u 307)]
noncomputable def o145:Obj:=⟨(VT "frame"),none,Data.plain,⟨[(some (r 99)),(some (r 3)),(some (r 96)),none,(some (s "snobol.values" 187)),none,(some (r 0))]⟩⟩
noncomputable def o148:Obj:=sq [(s "self" 316),(s "kind" 317),(s "owner" 318),(s "key" 319)]
noncomputable def o150:Obj:=f0 "__init__" "NameRef.__init__" (sc 5 0)
noncomputable def o151:Obj:=fl (VT "code") [(s "__init__" 313),(s "NameRef.__init__" 314),(u 315),(j 20),(j 4),j0,j0,(j 3),(r 101),bt,(j 181),(r 102),N0,(r 103),(r 104),(r 105),(j 320),(j 20),(u 321)]
noncomputable def o152:Obj:=f1 "__init__" "NameRef.__init__" (sc 5 0) 3 (s "snobol.values" 187) 106
noncomputable def o153:Obj:=sq [(s "key" 323),(s "kind" 324),(s "owner" 325)]
noncomputable def o154 (P:Params):Obj:=di [E P "__module__" 308 (s "snobol.values" 187),E P "__firstlineno__" 312 (vi 18 311),E P "__init__" 322 (r 107),E P "__static_attributes__" 326 (r 108),E P "__dict__" 328 (r 111),E P "__weakref__" 330 (r 112),E P "__doc__" 331 N0] 4
noncomputable def o155:Obj:=⟨(VT "type"),none,(.cls ⟨(S "NameRef"),[(VT "object")],[(r 110),(VT "object")],109,(S "NameRef"),true,[],[],false,none,false⟩),⟨[none,none,(some (s "NameRef" 301)),(some (s "NameRef" 309)),(some (VB "object.__new__")),(some bt)]⟩⟩
noncomputable def o156:Obj:=fl (VT "getset_descriptor") [(s "__dict__" 327),(r 110),(VB "function.__dict__"),(VB "function.__dict__#set")]
noncomputable def o157:Obj:=fl (VT "getset_descriptor") [(s "__weakref__" 329),(r 110),(VB "ExceptionGroup.__weakref__"),N0]
noncomputable def o158:Obj:=fl (VT "super") [(r 110),(r 110),(r 110)]
noncomputable def o159:Obj:=fl (VT "builtin_function_or_method") [(VB "object.__init_subclass__"),(r 110)]
noncomputable def o162:Obj:=sq [(s "value" 337)]
noncomputable def o164:Obj:=f0 "is_fail" "is_fail" (st 6)
noncomputable def o165:Obj:=fl (VT "code") [(s "is_fail" 334),(s "is_fail" 335),(u 336),(j 24),(j 1),j0,j0,(j 3),(r 115),bt,(j 181),(r 116),N0,(r 117),(r 118),(r 119),(j 338),(j 24),(u 339)]
noncomputable def o166:Obj:=f1 "is_fail" "is_fail" (st 6) 3 (s "snobol.values" 187) 120
noncomputable def o169:Obj:=sq [(s "number" 344),(s "width" 345)]
noncomputable def o171:Obj:=f0 "fits" "fits" (st 7)
noncomputable def o172:Obj:=fl (VT "code") [(s "fits" 341),(s "fits" 342),(u 343),(j 26),(j 2),j0,j0,(j 3),(r 122),bt,(j 181),(r 123),N0,(r 124),(r 125),(r 126),(j 346),(j 26),(u 347)]
noncomputable def o173:Obj:=f1 "fits" "fits" (st 7) 3 (s "snobol.values" 187) 127
noncomputable def o176:Obj:=sq [(s "text" 352),(s "width" 353),(s "digits" 354),(s "number" 355),(s "sign" 356)]
noncomputable def o178:Obj:=f0 "whole_of_text" "whole_of_text" (st 8)
noncomputable def o179:Obj:=fl (VT "code") [(s "whole_of_text" 349),(s "whole_of_text" 350),(u 351),(j 28),(j 2),j0,j0,(j 3),(r 129),bt,(j 181),(r 130),N0,(r 131),(r 132),(r 133),(j 357),(j 28),(u 358)]
noncomputable def o180:Obj:=f1 "whole_of_text" "whole_of_text" (st 8) 3 (s "snobol.values" 187) 134
noncomputable def o183:Obj:=sq [(s "number" 363),(s "left" 364),(s "found" 365)]
noncomputable def o185:Obj:=f0 "text_of_whole" "text_of_whole" (st 9)
noncomputable def o186:Obj:=fl (VT "code") [(s "text_of_whole" 360),(s "text_of_whole" 361),(u 362),(j 41),(j 1),j0,j0,(j 3),(r 136),bt,(j 181),(r 137),N0,(r 138),(r 139),(r 140),(j 366),(j 41),(u 367)]
noncomputable def o187:Obj:=f1 "text_of_whole" "text_of_whole" (st 9) 3 (s "snobol.values" 187) 141
noncomputable def o190:Obj:=sq [(s "value" 372),(s "width" 373)]
noncomputable def o192:Obj:=f0 "to_whole" "to_whole" (st 10)
noncomputable def o193:Obj:=fl (VT "code") [(s "to_whole" 369),(s "to_whole" 370),(u 371),(j 47),(j 2),j0,j0,(j 3),(r 143),bt,(j 181),(r 144),N0,(r 145),(r 146),(r 147),(j 374),(j 47),(u 375)]
noncomputable def o194:Obj:=f1 "to_whole" "to_whole" (st 10) 3 (s "snobol.values" 187) 148
noncomputable def o195 (P:Params):Obj:=di [E P "__name__" 165 (s "snobol.primitives" 450),E P "__doc__" 166 N0,E P "__package__" 167 N0,E P "__loader__" 168 ldr,E P "__spec__" 169 N0,E P "__annotations__" 170 (r 6),E P "__builtins__" 171 (r 4),E P "__file__" 173 (u 172),E P "__cached__" 174 N0,E P "SnobolError" 222 (r 34),E P "Failure" 242 (r 47),E P "Pattern" 271 (r 68),E P "Delayed" 300 (r 89),E P "NameRef" 333 (r 110),E P "is_fail" 340 (r 121),E P "fits" 348 (r 128),E P "whole_of_text" 359 (r 135),E P "text_of_whole" 368 (r 142),E P "to_whole" 376 (r 149),E P "to_text" 383 (r 156),E P "need_text" 391 (r 163),E P "COUNTED" 399 (r 164),E P "SIGNED" 404 (r 165),E P "WIDTH_OF_COUNT" 406 (vi 64 405),E P "plain_count" 416 (r 173),E P "plain_signs" 425 (r 180),E P "pattern_of" 433 (r 187),E P "is_delayed" 440 (r 194),E P "settled" 449 (r 201),E P "OPENING" 453 (s "(" 452),E P "CLOSING" 455 (s ")" 454),E P "chars_end" 465 (r 208),E P "len_end" 474 (r 215),E P "pos_end" 482 (r 222)] 34
noncomputable def o196:Obj:=fl N0 [(j 2),j0,(r 21),(j 8),j0,(r 43),(j 10),j0,(r 57),(j 14),j0,(r 78),(j 18),j0,(r 99),(j 24),j0,(r 120),(j 26),j0,(r 127),(j 28),j0,(r 134),(j 41),j0,(r 141),(j 47),j0,(r 148),(j 51),j0,(r 155),(j 55),j0,(r 162),(j 64),j0,(r 172),(j 71),j0,(r 179),(j 76),j0,(r 186),(j 85),j0,(r 193),(j 87),j0,(r 200),(j 99),j0,(r 207),(j 102),j0,(r 214),(j 104),j0,(r 221)]
noncomputable def o199:Obj:=sq [(s "value" 380)]
noncomputable def o201:Obj:=f0 "to_text" "to_text" (st 11)
noncomputable def o202:Obj:=fl (VT "code") [(s "to_text" 377),(s "to_text" 378),(u 379),(j 51),(j 1),j0,j0,(j 3),(r 150),bt,(j 181),(r 151),N0,(r 152),(r 153),(r 154),(j 381),(j 51),(u 382)]
noncomputable def o203:Obj:=f1 "to_text" "to_text" (st 11) 3 (s "snobol.values" 187) 155
noncomputable def o206:Obj:=sq [(s "value" 387),(s "text" 388)]
noncomputable def o208:Obj:=f0 "need_text" "need_text" (st 12)
noncomputable def o209:Obj:=fl (VT "code") [(s "need_text" 384),(s "need_text" 385),(u 386),(j 55),(j 1),j0,j0,(j 3),(r 157),bt,(j 181),(r 158),N0,(r 159),(r 160),(r 161),(j 389),(j 55),(u 390)]
noncomputable def o210:Obj:=f1 "need_text" "need_text" (st 12) 3 (s "snobol.values" 187) 162
noncomputable def o211:Obj:=sq [(s "len" 394),(s "pos" 395),(s "rpos" 396),(s "tab" 397),(s "rtab" 398)]
noncomputable def o212:Obj:=sq [(s "any" 400),(s "notany" 401),(s "span" 402),(s "break" 403)]
noncomputable def o213:Obj:=sq [(vi 64 405)]
noncomputable def o216:Obj:=sq [(s "value" 410),(s "kind" 411),(s "width" 412),(s "count" 413)]
noncomputable def o218:Obj:=f0 "plain_count" "plain_count" (st 17)
noncomputable def o219:Obj:=fl (VT "code") [(s "plain_count" 407),(s "plain_count" 408),(u 409),(j 64),(j 3),j0,j0,(j 3),(r 167),bt,(j 181),(r 168),N0,(r 169),(r 170),(r 171),(j 414),(j 64),(u 415)]
noncomputable def o220:Obj:=⟨(VT "function"),none,(.func ⟨(S "plain_count"),(S "plain_count"),fdA (st 17),.stmts (fdB (st 17)),fdS (st 17),3,[],(r 166),N0,N0,(s "snobol.nodes" 392),none,(r 172),N0,0⟩),⟨[]⟩⟩
noncomputable def o223:Obj:=sq [(s "value" 420),(s "kind" 421),(s "text" 422)]
noncomputable def o225:Obj:=f0 "plain_signs" "plain_signs" (st 18)
noncomputable def o226:Obj:=fl (VT "code") [(s "plain_signs" 417),(s "plain_signs" 418),(u 419),(j 71),(j 2),j0,j0,(j 3),(r 174),bt,(j 181),(r 175),N0,(r 176),(r 177),(r 178),(j 423),(j 71),(u 424)]
noncomputable def o227:Obj:=f1 "plain_signs" "plain_signs" (st 18) 3 (s "snobol.nodes" 392) 179
noncomputable def o230:Obj:=sq [(s "value" 429),(s "text" 430)]
noncomputable def o232:Obj:=f0 "pattern_of" "pattern_of" (st 19)
noncomputable def o233:Obj:=fl (VT "code") [(s "pattern_of" 426),(s "pattern_of" 427),(u 428),(j 76),(j 1),j0,j0,(j 3),(r 181),bt,(j 181),(r 182),N0,(r 183),(r 184),(r 185),(j 431),(j 76),(u 432)]
noncomputable def o234:Obj:=f1 "pattern_of" "pattern_of" (st 19) 3 (s "snobol.nodes" 392) 186
noncomputable def o237:Obj:=sq [(s "told" 437)]
noncomputable def o239:Obj:=f0 "is_delayed" "is_delayed" (st 20)
noncomputable def o240:Obj:=fl (VT "code") [(s "is_delayed" 434),(s "is_delayed" 435),(u 436),(j 85),(j 1),j0,j0,(j 3),(r 188),bt,(j 181),(r 189),N0,(r 190),(r 191),(r 192),(j 438),(j 85),(u 439)]
noncomputable def o241:Obj:=f1 "is_delayed" "is_delayed" (st 20) 3 (s "snobol.nodes" 392) 193
noncomputable def o244:Obj:=sq [(s "node" 444),(s "host" 445),(s "value" 446)]
noncomputable def o246:Obj:=f0 "settled" "settled" (st 21)
noncomputable def o247:Obj:=fl (VT "code") [(s "settled" 441),(s "settled" 442),(u 443),(j 87),(j 2),j0,j0,(j 3),(r 195),bt,(j 181),(r 196),N0,(r 197),(r 198),(r 199),(j 447),(j 87),(u 448)]
noncomputable def o248:Obj:=f1 "settled" "settled" (st 21) 3 (s "snobol.nodes" 392) 200
noncomputable def o251:Obj:=sq [(s "subject" 459),(s "at" 460),(s "text" 461),(s "end" 462)]
noncomputable def o253:Obj:=f0 "chars_end" "chars_end" (st 25)
noncomputable def o254:Obj:=fl (VT "code") [(s "chars_end" 456),(s "chars_end" 457),(u 458),(j 99),(j 3),j0,j0,(j 3),(r 202),bt,(j 181),(r 203),N0,(r 204),(r 205),(r 206),(j 463),(j 99),(u 464)]
noncomputable def o255:Obj:=f1 "chars_end" "chars_end" (st 25) 3 (s "snobol.primitives" 450) 207
noncomputable def o258:Obj:=sq [(s "subject" 469),(s "at" 470),(s "many" 471)]
noncomputable def o260:Obj:=f0 "len_end" "len_end" (st 26)
noncomputable def o261:Obj:=fl (VT "code") [(s "len_end" 466),(s "len_end" 467),(u 468),(j 102),(j 3),j0,j0,(j 3),(r 209),bt,(j 181),(r 210),N0,(r 211),(r 212),(r 213),(j 472),(j 102),(u 473)]
noncomputable def o262:Obj:=f1 "len_end" "len_end" (st 26) 3 (s "snobol.primitives" 450) 214
noncomputable def o265:Obj:=sq [(s "at" 478),(s "place" 479)]
noncomputable def o267:Obj:=f0 "pos_end" "pos_end" (st 27)
noncomputable def o268:Obj:=fl (VT "code") [(s "pos_end" 475),(s "pos_end" 476),(u 477),(j 104),(j 2),j0,j0,(j 3),(r 216),bt,(j 181),(r 217),N0,(r 218),(r 219),(r 220),(j 480),(j 104),(u 481)]
noncomputable def o269:Obj:=f1 "pos_end" "pos_end" (st 27) 3 (s "snobol.primitives" 450) 221
noncomputable def o270 (P:Params):Obj:=di [E P "__name__" 165 (s "snobol.primitives" 450),E P "__doc__" 166 N0,E P "__package__" 167 N0,E P "__loader__" 168 ldr,E P "__spec__" 169 N0,E P "__annotations__" 170 (r 6),E P "__builtins__" 171 (r 4),E P "__file__" 173 (u 172),E P "__cached__" 174 N0,E P "SnobolError" 222 (r 34),E P "Failure" 242 (r 47),E P "Pattern" 271 (r 68),E P "Delayed" 300 (r 89),E P "NameRef" 333 (r 110),E P "is_fail" 340 (r 121),E P "fits" 348 (r 128),E P "whole_of_text" 359 (r 135),E P "text_of_whole" 368 (r 142),E P "to_whole" 376 (r 149),E P "to_text" 383 (r 156),E P "need_text" 391 (r 163),E P "COUNTED" 399 (r 164),E P "SIGNED" 404 (r 165),E P "WIDTH_OF_COUNT" 406 (vi 64 405),E P "plain_count" 416 (r 173),E P "plain_signs" 425 (r 180),E P "pattern_of" 433 (r 187),E P "is_delayed" 440 (r 194),E P "settled" 449 (r 201),E P "OPENING" 453 (s "(" 452),E P "CLOSING" 455 (s ")" 454),E P "chars_end" 465 (r 208),E P "len_end" 474 (r 215),E P "pos_end" 482 (r 222),E P "rpos_end" 491 (r 229),E P "tab_end" 500 (r 236),E P "rtab_end" 510 (r 243),E P "rem_end" 517 (r 250),E P "any_at" 526 (r 257),E P "notany_at" 535 (r 264),E P "run_end" 545 (r 271),E P "span_end" 555 (r 278),E P "break_end" 565 (r 285),E P "arb_ends" 573 (r 292),E P "bal_end" 582 (r 299),E P "bal_ends" 592 (r 306)] 46
noncomputable def o271:Obj:=fl N0 [(j 2),j0,(r 21),(j 8),j0,(r 43),(j 10),j0,(r 57),(j 14),j0,(r 78),(j 18),j0,(r 99),(j 24),j0,(r 120),(j 26),j0,(r 127),(j 28),j0,(r 134),(j 41),j0,(r 141),(j 47),j0,(r 148),(j 51),j0,(r 155),(j 55),j0,(r 162),(j 64),j0,(r 172),(j 71),j0,(r 179),(j 76),j0,(r 186),(j 85),j0,(r 193),(j 87),j0,(r 200),(j 99),j0,(r 207),(j 102),j0,(r 214),(j 104),j0,(r 221),(j 106),j0,(r 228),(j 108),j0,(r 235),(j 110),j0,(r 242),(j 113),j0,(r 249),(j 115),j0,(r 256),(j 117),j0,(r 263),(j 119),j0,(r 270),(j 123),j0,(r 277),(j 126),j0,(r 284),(j 129),j0,(r 291),(j 131),j0,(r 298),(j 144),j0,(r 305)]
noncomputable def o274:Obj:=sq [(s "subject" 486),(s "at" 487),(s "place" 488)]
noncomputable def o276:Obj:=f0 "rpos_end" "rpos_end" (st 28)
noncomputable def o277:Obj:=fl (VT "code") [(s "rpos_end" 483),(s "rpos_end" 484),(u 485),(j 106),(j 3),j0,j0,(j 3),(r 223),bt,(j 181),(r 224),N0,(r 225),(r 226),(r 227),(j 489),(j 106),(u 490)]
noncomputable def o278:Obj:=f1 "rpos_end" "rpos_end" (st 28) 3 (s "snobol.primitives" 450) 228
noncomputable def o281:Obj:=sq [(s "subject" 495),(s "at" 496),(s "place" 497)]
noncomputable def o283:Obj:=f0 "tab_end" "tab_end" (st 29)
noncomputable def o284:Obj:=fl (VT "code") [(s "tab_end" 492),(s "tab_end" 493),(u 494),(j 108),(j 3),j0,j0,(j 3),(r 230),bt,(j 181),(r 231),N0,(r 232),(r 233),(r 234),(j 498),(j 108),(u 499)]
noncomputable def o285:Obj:=f1 "tab_end" "tab_end" (st 29) 3 (s "snobol.primitives" 450) 235
noncomputable def o288:Obj:=sq [(s "subject" 504),(s "at" 505),(s "place" 506),(s "goal" 507)]
noncomputable def o290:Obj:=f0 "rtab_end" "rtab_end" (st 30)
noncomputable def o291:Obj:=fl (VT "code") [(s "rtab_end" 501),(s "rtab_end" 502),(u 503),(j 110),(j 3),j0,j0,(j 3),(r 237),bt,(j 181),(r 238),N0,(r 239),(r 240),(r 241),(j 508),(j 110),(u 509)]
noncomputable def o292:Obj:=f1 "rtab_end" "rtab_end" (st 30) 3 (s "snobol.primitives" 450) 242
noncomputable def o295:Obj:=sq [(s "subject" 514)]
noncomputable def o297:Obj:=f0 "rem_end" "rem_end" (st 31)
noncomputable def o298:Obj:=fl (VT "code") [(s "rem_end" 511),(s "rem_end" 512),(u 513),(j 113),(j 1),j0,j0,(j 3),(r 244),bt,(j 181),(r 245),N0,(r 246),(r 247),(r 248),(j 515),(j 113),(u 516)]
noncomputable def o299:Obj:=f1 "rem_end" "rem_end" (st 31) 3 (s "snobol.primitives" 450) 249
noncomputable def o302:Obj:=sq [(s "subject" 521),(s "at" 522),(s "signs" 523)]
noncomputable def o304:Obj:=f0 "any_at" "any_at" (st 32)
noncomputable def o305:Obj:=fl (VT "code") [(s "any_at" 518),(s "any_at" 519),(u 520),(j 115),(j 3),j0,j0,(j 3),(r 251),bt,(j 181),(r 252),N0,(r 253),(r 254),(r 255),(j 524),(j 115),(u 525)]
noncomputable def o306:Obj:=f1 "any_at" "any_at" (st 32) 3 (s "snobol.primitives" 450) 256
noncomputable def o309:Obj:=sq [(s "subject" 530),(s "at" 531),(s "signs" 532)]
noncomputable def o311:Obj:=f0 "notany_at" "notany_at" (st 33)
noncomputable def o312:Obj:=fl (VT "code") [(s "notany_at" 527),(s "notany_at" 528),(u 529),(j 117),(j 3),j0,j0,(j 3),(r 258),bt,(j 181),(r 259),N0,(r 260),(r 261),(r 262),(j 533),(j 117),(u 534)]
noncomputable def o313:Obj:=f1 "notany_at" "notany_at" (st 33) 3 (s "snobol.primitives" 450) 263
noncomputable def o316:Obj:=sq [(s "subject" 539),(s "at" 540),(s "signs" 541),(s "is_in" 542)]
noncomputable def o318:Obj:=f0 "run_end" "run_end" (st 34)
noncomputable def o319:Obj:=fl (VT "code") [(s "run_end" 536),(s "run_end" 537),(u 538),(j 119),(j 4),j0,j0,(j 3),(r 265),bt,(j 181),(r 266),N0,(r 267),(r 268),(r 269),(j 543),(j 119),(u 544)]
noncomputable def o320:Obj:=f1 "run_end" "run_end" (st 34) 3 (s "snobol.primitives" 450) 270
noncomputable def o323:Obj:=sq [(s "subject" 549),(s "at" 550),(s "signs" 551),(s "end" 552)]
noncomputable def o325:Obj:=f0 "span_end" "span_end" (st 35)
noncomputable def o326:Obj:=fl (VT "code") [(s "span_end" 546),(s "span_end" 547),(u 548),(j 123),(j 3),j0,j0,(j 3),(r 272),bt,(j 181),(r 273),N0,(r 274),(r 275),(r 276),(j 553),(j 123),(u 554)]
noncomputable def o327:Obj:=f1 "span_end" "span_end" (st 35) 3 (s "snobol.primitives" 450) 277
noncomputable def o330:Obj:=sq [(s "subject" 559),(s "at" 560),(s "signs" 561),(s "end" 562)]
noncomputable def o332:Obj:=f0 "break_end" "break_end" (st 36)
noncomputable def o333:Obj:=fl (VT "code") [(s "break_end" 556),(s "break_end" 557),(u 558),(j 126),(j 3),j0,j0,(j 3),(r 279),bt,(j 181),(r 280),N0,(r 281),(r 282),(r 283),(j 563),(j 126),(u 564)]
noncomputable def o334:Obj:=f1 "break_end" "break_end" (st 36) 3 (s "snobol.primitives" 450) 284
noncomputable def o337:Obj:=sq [(s "subject" 569),(s "at" 570)]
noncomputable def o339:Obj:=f0 "arb_ends" "arb_ends" (st 37)
noncomputable def o340:Obj:=fl (VT "code") [(s "arb_ends" 566),(s "arb_ends" 567),(u 568),(j 129),(j 2),j0,j0,(j 3),(r 286),bt,(j 181),(r 287),N0,(r 288),(r 289),(r 290),(j 571),(j 129),(u 572)]
noncomputable def o341:Obj:=f1 "arb_ends" "arb_ends" (st 37) 3 (s "snobol.primitives" 450) 291
noncomputable def o344:Obj:=sq [(s "subject" 577),(s "at" 578),(s "level" 579)]
noncomputable def o346:Obj:=f0 "bal_end" "bal_end" (st 38)
noncomputable def o347:Obj:=fl (VT "code") [(s "bal_end" 574),(s "bal_end" 575),(u 576),(j 131),(j 2),j0,j0,(j 3),(r 293),bt,(j 181),(r 294),N0,(r 295),(r 296),(r 297),(j 580),(j 131),(u 581)]
noncomputable def o348:Obj:=f1 "bal_end" "bal_end" (st 38) 3 (s "snobol.primitives" 450) 298
noncomputable def o351:Obj:=sq [(s "subject" 586),(s "at" 587),(s "found" 588),(s "end" 589)]
noncomputable def o353:Obj:=f0 "bal_ends" "bal_ends" (st 39)
noncomputable def o354:Obj:=fl (VT "code") [(s "bal_ends" 583),(s "bal_ends" 584),(u 585),(j 144),(j 2),j0,j0,(j 3),(r 300),bt,(j 181),(r 301),N0,(r 302),(r 303),(r 304),(j 590),(j 144),(u 591)]
noncomputable def o355:Obj:=f1 "bal_ends" "bal_ends" (st 39) 3 (s "snobol.primitives" 450) 305
noncomputable def o356 (P:Params):Obj:=di [E P "__name__" 165 (s "snobol.trial" 623),E P "__doc__" 166 N0,E P "__package__" 167 N0,E P "__loader__" 168 ldr,E P "__spec__" 169 N0,E P "__annotations__" 170 (r 6),E P "__builtins__" 171 (r 4),E P "__file__" 173 (u 172),E P "__cached__" 174 N0,E P "SnobolError" 222 (r 34),E P "Failure" 242 (r 47),E P "Pattern" 271 (r 68),E P "Delayed" 300 (r 89),E P "NameRef" 333 (r 110),E P "is_fail" 340 (r 121),E P "fits" 348 (r 128),E P "whole_of_text" 359 (r 135),E P "text_of_whole" 368 (r 142),E P "to_whole" 376 (r 149),E P "to_text" 383 (r 156),E P "need_text" 391 (r 163),E P "COUNTED" 399 (r 164),E P "SIGNED" 404 (r 165),E P "WIDTH_OF_COUNT" 406 (vi 64 405),E P "plain_count" 416 (r 173),E P "plain_signs" 425 (r 180),E P "pattern_of" 433 (r 187),E P "is_delayed" 440 (r 194),E P "settled" 449 (r 201),E P "OPENING" 453 (s "(" 452),E P "CLOSING" 455 (s ")" 454),E P "chars_end" 465 (r 208),E P "len_end" 474 (r 215),E P "pos_end" 482 (r 222),E P "rpos_end" 491 (r 229),E P "tab_end" 500 (r 236),E P "rtab_end" 510 (r 243),E P "rem_end" 517 (r 250),E P "any_at" 526 (r 257),E P "notany_at" 535 (r 264),E P "run_end" 545 (r 271),E P "span_end" 555 (r 278),E P "break_end" 565 (r 285),E P "arb_ends" 573 (r 292),E P "bal_end" 582 (r 299),E P "bal_ends" 592 (r 306),E P "one_end" 602 (r 313),E P "plain_end" 611 (r 320),E P "ends_of" 622 (r 327),E P "LOST" 626 (s "lost" 625),E P "match_plain" 638 (r 334),E P "match_at" 649 (r 341),E P "tried" 664 (r 348),E P "advanced" 680 (r 355),E P "led_in" 692 (r 362),E P "led_out" 708 (r 369),E P "steered" 720 (r 376)] 57
noncomputable def o357:Obj:=fl N0 [(j 2),j0,(r 21),(j 8),j0,(r 43),(j 10),j0,(r 57),(j 14),j0,(r 78),(j 18),j0,(r 99),(j 24),j0,(r 120),(j 26),j0,(r 127),(j 28),j0,(r 134),(j 41),j0,(r 141),(j 47),j0,(r 148),(j 51),j0,(r 155),(j 55),j0,(r 162),(j 64),j0,(r 172),(j 71),j0,(r 179),(j 76),j0,(r 186),(j 85),j0,(r 193),(j 87),j0,(r 200),(j 99),j0,(r 207),(j 102),j0,(r 214),(j 104),j0,(r 221),(j 106),j0,(r 228),(j 108),j0,(r 235),(j 110),j0,(r 242),(j 113),j0,(r 249),(j 115),j0,(r 256),(j 117),j0,(r 263),(j 119),j0,(r 270),(j 123),j0,(r 277),(j 126),j0,(r 284),(j 129),j0,(r 291),(j 131),j0,(r 298),(j 144),j0,(r 305),(j 150),j0,(r 312),(j 170),j0,(r 319),(j 172),j0,(r 326),(j 183),j0,(r 333),(j 189),j0,(r 340),(j 192),j0,(r 347),(j 210),j0,(r 354),(j 225),j0,(r 361),(j 236),j0,(r 368),(j 243),j0,(r 375)]
noncomputable def o360:Obj:=sq [(s "kind" 596),(s "subject" 597),(s "at" 598),(s "told" 599)]
noncomputable def o362:Obj:=f0 "one_end" "one_end" (st 40)
noncomputable def o363:Obj:=fl (VT "code") [(s "one_end" 593),(s "one_end" 594),(u 595),(j 150),(j 4),j0,j0,(j 3),(r 307),bt,(j 181),(r 308),N0,(r 309),(r 310),(r 311),(j 600),(j 150),(u 601)]
noncomputable def o364:Obj:=f1 "one_end" "one_end" (st 40) 3 (s "snobol.primitives" 450) 312
noncomputable def o367:Obj:=sq [(s "node" 606),(s "subject" 607),(s "at" 608)]
noncomputable def o369:Obj:=f0 "plain_end" "plain_end" (st 41)
noncomputable def o370:Obj:=fl (VT "code") [(s "plain_end" 603),(s "plain_end" 604),(u 605),(j 170),(j 3),j0,j0,(j 3),(r 314),bt,(j 181),(r 315),N0,(r 316),(r 317),(r 318),(j 609),(j 170),(u 610)]
noncomputable def o371:Obj:=f1 "plain_end" "plain_end" (st 41) 3 (s "snobol.primitives" 450) 319
noncomputable def o374:Obj:=sq [(s "kind" 615),(s "subject" 616),(s "at" 617),(s "told" 618),(s "end" 619)]
noncomputable def o376:Obj:=f0 "ends_of" "ends_of" (st 42)
noncomputable def o377:Obj:=fl (VT "code") [(s "ends_of" 612),(s "ends_of" 613),(u 614),(j 172),(j 4),j0,j0,(j 3),(r 321),bt,(j 181),(r 322),N0,(r 323),(r 324),(r 325),(j 620),(j 172),(u 621)]
noncomputable def o378:Obj:=f1 "ends_of" "ends_of" (st 42) 3 (s "snobol.primitives" 450) 326
noncomputable def o381:Obj:=sq [(s "node" 630),(s "subject" 631),(s "is_anchored" 632),(s "host" 633),(s "begin" 634),(s "found" 635)]
noncomputable def o383:Obj:=f0 "match_plain" "match_plain" (st 45)
noncomputable def o384:Obj:=fl (VT "code") [(s "match_plain" 627),(s "match_plain" 628),(u 629),(j 183),(j 4),j0,j0,(j 3),(r 328),bt,(j 181),(r 329),N0,(r 330),(r 331),(r 332),(j 636),(j 183),(u 637)]
noncomputable def o385:Obj:=f1 "match_plain" "match_plain" (st 45) 3 (s "snobol.trial" 623) 333
noncomputable def o388:Obj:=sq [(s "node" 642),(s "subject" 643),(s "begin" 644),(s "host" 645),(s "found" 646)]
noncomputable def o390:Obj:=f0 "match_at" "match_at" (st 46)
noncomputable def o391:Obj:=fl (VT "code") [(s "match_at" 639),(s "match_at" 640),(u 641),(j 189),(j 4),j0,j0,(j 3),(r 335),bt,(j 181),(r 336),N0,(r 337),(r 338),(r 339),(j 647),(j 189),(u 648)]
noncomputable def o392:Obj:=f1 "match_at" "match_at" (st 46) 3 (s "snobol.trial" 623) 340
noncomputable def o395:Obj:=sq [(s "node" 653),(s "subject" 654),(s "begin" 655),(s "host" 656),(s "pile" 657),(s "way" 658),(s "chain" 659),(s "at" 660),(s "named" 661)]
noncomputable def o397:Obj:=f0 "tried" "tried" (st 47)
noncomputable def o398:Obj:=fl (VT "code") [(s "tried" 650),(s "tried" 651),(u 652),(j 192),(j 4),j0,j0,(j 3),(r 342),bt,(j 181),(r 343),N0,(r 344),(r 345),(r 346),(j 662),(j 192),(u 663)]
noncomputable def o399:Obj:=f1 "tried" "tried" (st 47) 3 (s "snobol.trial" 623) 347
noncomputable def o402:Obj:=sq [(s "chain" 668),(s "at" 669),(s "named" 670),(s "subject" 671),(s "pile" 672),(s "host" 673),(s "here" 674),(s "rest" 675),(s "kind" 676),(s "value" 677)]
noncomputable def o404:Obj:=f0 "advanced" "advanced" (st 48)
noncomputable def o405:Obj:=fl (VT "code") [(s "advanced" 665),(s "advanced" 666),(u 667),(j 210),(j 6),j0,j0,(j 3),(r 349),bt,(j 181),(r 350),N0,(r 351),(r 352),(r 353),(j 678),(j 210),(u 679)]
noncomputable def o406:Obj:=f1 "advanced" "advanced" (st 48) 3 (s "snobol.trial" 623) 354
noncomputable def o409:Obj:=sq [(s "here" 684),(s "rest" 685),(s "at" 686),(s "named" 687),(s "pile" 688),(s "kind" 689)]
noncomputable def o411:Obj:=f0 "led_in" "led_in" (st 49)
noncomputable def o412:Obj:=fl (VT "code") [(s "led_in" 681),(s "led_in" 682),(u 683),(j 225),(j 5),j0,j0,(j 3),(r 356),bt,(j 181),(r 357),N0,(r 358),(r 359),(r 360),(j 690),(j 225),(u 691)]
noncomputable def o413:Obj:=f1 "led_in" "led_in" (st 49) 3 (s "snobol.trial" 623) 361
noncomputable def o416:Obj:=sq [(s "here" 696),(s "rest" 697),(s "at" 698),(s "named" 699),(s "subject" 700),(s "pile" 701),(s "host" 702),(s "kind" 703),(s "told" 704),(s "begin" 705)]
noncomputable def o418:Obj:=f0 "led_out" "led_out" (st 50)
noncomputable def o419:Obj:=fl (VT "code") [(s "led_out" 693),(s "led_out" 694),(u 695),(j 236),(j 7),j0,j0,(j 3),(r 363),bt,(j 181),(r 364),N0,(r 365),(r 366),(r 367),(j 706),(j 236),(u 707)]
noncomputable def o420:Obj:=f1 "led_out" "led_out" (st 50) 3 (s "snobol.trial" 623) 368
noncomputable def o423:Obj:=sq [(s "chain" 712),(s "at" 713),(s "named" 714),(s "pile" 715),(s "kind" 716),(s "rest" 717)]
noncomputable def o425:Obj:=f0 "steered" "steered" (st 51)
noncomputable def o426:Obj:=fl (VT "code") [(s "steered" 709),(s "steered" 710),(u 711),(j 243),(j 4),j0,j0,(j 3),(r 370),bt,(j 181),(r 371),N0,(r 372),(r 373),(r 374),(j 718),(j 243),(u 719)]
noncomputable def o427:Obj:=f1 "steered" "steered" (st 51) 3 (s "snobol.trial" 623) 375
noncomputable def o428 (P:Params):Obj:=di [E P "__name__" 165 (s "snobol.compile_pattern" 800),E P "__doc__" 166 N0,E P "__package__" 167 N0,E P "__loader__" 168 ldr,E P "__spec__" 169 N0,E P "__annotations__" 170 (r 6),E P "__builtins__" 171 (r 4),E P "__file__" 173 (u 172),E P "__cached__" 174 N0,E P "SnobolError" 222 (r 34),E P "Failure" 242 (r 47),E P "Pattern" 271 (r 68),E P "Delayed" 300 (r 89),E P "NameRef" 333 (r 110),E P "is_fail" 340 (r 121),E P "fits" 348 (r 128),E P "whole_of_text" 359 (r 135),E P "text_of_whole" 368 (r 142),E P "to_whole" 376 (r 149),E P "to_text" 383 (r 156),E P "need_text" 391 (r 163),E P "COUNTED" 399 (r 164),E P "SIGNED" 404 (r 165),E P "WIDTH_OF_COUNT" 406 (vi 64 405),E P "plain_count" 416 (r 173),E P "plain_signs" 425 (r 180),E P "pattern_of" 433 (r 187),E P "is_delayed" 440 (r 194),E P "settled" 449 (r 201),E P "OPENING" 453 (s "(" 452),E P "CLOSING" 455 (s ")" 454),E P "chars_end" 465 (r 208),E P "len_end" 474 (r 215),E P "pos_end" 482 (r 222),E P "rpos_end" 491 (r 229),E P "tab_end" 500 (r 236),E P "rtab_end" 510 (r 243),E P "rem_end" 517 (r 250),E P "any_at" 526 (r 257),E P "notany_at" 535 (r 264),E P "run_end" 545 (r 271),E P "span_end" 555 (r 278),E P "break_end" 565 (r 285),E P "arb_ends" 573 (r 292),E P "bal_end" 582 (r 299),E P "bal_ends" 592 (r 306),E P "one_end" 602 (r 313),E P "plain_end" 611 (r 320),E P "ends_of" 622 (r 327),E P "LOST" 626 (s "lost" 625),E P "match_plain" 638 (r 334),E P "match_at" 649 (r 341),E P "tried" 664 (r 348),E P "advanced" 680 (r 355),E P "led_in" 692 (r 362),E P "led_out" 708 (r 369),E P "steered" 720 (r 376),E P "taken" 737 (r 383),E P "PlainHost" 799 (r 421),E P "ONE" 803 (s "one" 802),E P "WAYS" 805 (s "ways" 804)] 61
noncomputable def o429:Obj:=fl N0 [(j 2),j0,(r 21),(j 8),j0,(r 43),(j 10),j0,(r 57),(j 14),j0,(r 78),(j 18),j0,(r 99),(j 24),j0,(r 120),(j 26),j0,(r 127),(j 28),j0,(r 134),(j 41),j0,(r 141),(j 47),j0,(r 148),(j 51),j0,(r 155),(j 55),j0,(r 162),(j 64),j0,(r 172),(j 71),j0,(r 179),(j 76),j0,(r 186),(j 85),j0,(r 193),(j 87),j0,(r 200),(j 99),j0,(r 207),(j 102),j0,(r 214),(j 104),j0,(r 221),(j 106),j0,(r 228),(j 108),j0,(r 235),(j 110),j0,(r 242),(j 113),j0,(r 249),(j 115),j0,(r 256),(j 117),j0,(r 263),(j 119),j0,(r 270),(j 123),j0,(r 277),(j 126),j0,(r 284),(j 129),j0,(r 291),(j 131),j0,(r 298),(j 144),j0,(r 305),(j 150),j0,(r 312),(j 170),j0,(r 319),(j 172),j0,(r 326),(j 183),j0,(r 333),(j 189),j0,(r 340),(j 192),j0,(r 347),(j 210),j0,(r 354),(j 225),j0,(r 361),(j 236),j0,(r 368),(j 243),j0,(r 375),(j 251),j0,(r 382),(j 268),j0,(r 389)]
noncomputable def o432:Obj:=sq [(s "here" 724),(s "rest" 725),(s "at" 726),(s "named" 727),(s "subject" 728),(s "pile" 729),(s "host" 730),(s "kind" 731),(s "ends" 732),(s "end" 733),(s "plain" 734)]
noncomputable def o434:Obj:=f0 "taken" "taken" (st 52)
noncomputable def o435:Obj:=fl (VT "code") [(s "taken" 721),(s "taken" 722),(u 723),(j 251),(j 7),j0,j0,(j 3),(r 377),bt,(j 181),(r 378),N0,(r 379),(r 380),(r 381),(j 735),(j 251),(u 736)]
noncomputable def o436:Obj:=f1 "taken" "taken" (st 52) 3 (s "snobol.trial" 623) 382
noncomputable def o439 (P:Params):Obj:=di [E P "__module__" 747 (s "snobol.hosts" 738),E P "__qualname__" 749 (s "PlainHost" 748),E P "__firstlineno__" 751 (vi 268 750),E P "__init__" 761 (r 397),E P "value_of" 769 (r 404),E P "assign" 778 (r 411),E P "step" 785 (r 418),E P "__static_attributes__" 792 (r 419)] 8
noncomputable def o441:Obj:=fl N0 [(j 270),(j 4),(r 396),(j 278),(j 4),(r 403),(j 283),(j 4),(r 410),(j 290),(j 4),(r 417)]
noncomputable def o442:Obj:=fl (VT "code") [(s "PlainHost" 742),(s "PlainHost" 743),(u 744),(j 268),j0,j0,j0,j0,(r 387),bf,(j 181),(r 388),N0,N0,N0,N0,(j 745),(j 268),(u 746)]
noncomputable def o443:Obj:=⟨(VT "frame"),none,Data.plain,⟨[(some (r 389)),(some (r 3)),(some (r 386)),none,(some (s "snobol.hosts" 738)),none,(some (r 0))]⟩⟩
noncomputable def o446:Obj:=sq [(s "self" 755),(s "values" 756),(s "limit" 757),(s "refused" 758)]
noncomputable def o448:Obj:=f0 "__init__" "PlainHost.__init__" (sc 54 0)
noncomputable def o449:Obj:=fl (VT "code") [(s "__init__" 752),(s "PlainHost.__init__" 753),(u 754),(j 270),(j 4),j0,j0,(j 3),(r 391),bt,(j 181),(r 392),N0,(r 393),(r 394),(r 395),(j 759),(j 270),(u 760)]
noncomputable def o450:Obj:=f1 "__init__" "PlainHost.__init__" (sc 54 0) 3 (s "snobol.hosts" 738) 396
noncomputable def o453:Obj:=sq [(s "self" 765),(s "tree" 766)]
noncomputable def o455:Obj:=f0 "value_of" "PlainHost.value_of" (sc 54 1)
noncomputable def o456:Obj:=fl (VT "code") [(s "value_of" 762),(s "PlainHost.value_of" 763),(u 764),(j 278),(j 2),j0,j0,(j 3),(r 398),bt,(j 181),(r 399),N0,(r 400),(r 401),(r 402),(j 767),(j 278),(u 768)]
noncomputable def o457:Obj:=f1 "value_of" "PlainHost.value_of" (sc 54 1) 3 (s "snobol.hosts" 738) 403
noncomputable def o460:Obj:=sq [(s "self" 773),(s "ref" 774),(s "value" 775)]
noncomputable def o462:Obj:=f0 "assign" "PlainHost.assign" (sc 54 2)
noncomputable def o463:Obj:=fl (VT "code") [(s "assign" 770),(s "PlainHost.assign" 771),(u 772),(j 283),(j 3),j0,j0,(j 3),(r 405),bt,(j 181),(r 406),N0,(r 407),(r 408),(r 409),(j 776),(j 283),(u 777)]
noncomputable def o464:Obj:=f1 "assign" "PlainHost.assign" (sc 54 2) 3 (s "snobol.hosts" 738) 410
noncomputable def o467:Obj:=sq [(s "self" 782)]
noncomputable def o469:Obj:=f0 "step" "PlainHost.step" (sc 54 3)
noncomputable def o470:Obj:=fl (VT "code") [(s "step" 779),(s "PlainHost.step" 780),(u 781),(j 290),(j 1),j0,j0,(j 3),(r 412),bt,(j 181),(r 413),N0,(r 414),(r 415),(r 416),(j 783),(j 290),(u 784)]
noncomputable def o471:Obj:=f1 "step" "PlainHost.step" (sc 54 3) 3 (s "snobol.hosts" 738) 417
noncomputable def o472:Obj:=sq [(s "limit" 786),(s "log" 787),(s "refused" 788),(s "steps" 789),(s "values" 790),(s "width" 791)]
noncomputable def o473 (P:Params):Obj:=di [E P "__module__" 747 (s "snobol.hosts" 738),E P "__firstlineno__" 751 (vi 268 750),E P "__init__" 761 (r 397),E P "value_of" 769 (r 404),E P "assign" 778 (r 411),E P "step" 785 (r 418),E P "__static_attributes__" 792 (r 419),E P "__dict__" 794 (r 422),E P "__weakref__" 796 (r 423),E P "__doc__" 797 N0] 4
noncomputable def o474:Obj:=⟨(VT "type"),none,(.cls ⟨(S "PlainHost"),[(VT "object")],[(r 421),(VT "object")],420,(S "PlainHost"),true,[],[],false,none,false⟩),⟨[none,none,(some (s "PlainHost" 740)),(some (s "PlainHost" 748)),(some (VB "object.__new__")),(some bt)]⟩⟩
noncomputable def o475:Obj:=fl (VT "getset_descriptor") [(s "__dict__" 793),(r 421),(VB "function.__dict__"),(VB "function.__dict__#set")]
noncomputable def o476:Obj:=fl (VT "getset_descriptor") [(s "__weakref__" 795),(r 421),(VB "ExceptionGroup.__weakref__"),N0]
noncomputable def o477:Obj:=fl (VT "super") [(r 421),(r 421),(r 421)]
noncomputable def o478:Obj:=fl (VT "builtin_function_or_method") [(VB "object.__init_subclass__"),(r 421)]
noncomputable def o479 (P:Params):Obj:=di [E P "__name__" 165 (s "snobol.compile_pattern" 800),E P "__doc__" 166 N0,E P "__package__" 167 N0,E P "__loader__" 168 ldr,E P "__spec__" 169 N0,E P "__annotations__" 170 (r 6),E P "__builtins__" 171 (r 4),E P "__file__" 173 (u 172),E P "__cached__" 174 N0,E P "SnobolError" 222 (r 34),E P "Failure" 242 (r 47),E P "Pattern" 271 (r 68),E P "Delayed" 300 (r 89),E P "NameRef" 333 (r 110),E P "is_fail" 340 (r 121),E P "fits" 348 (r 128),E P "whole_of_text" 359 (r 135),E P "text_of_whole" 368 (r 142),E P "to_whole" 376 (r 149),E P "to_text" 383 (r 156),E P "need_text" 391 (r 163),E P "COUNTED" 399 (r 164),E P "SIGNED" 404 (r 165),E P "WIDTH_OF_COUNT" 406 (vi 64 405),E P "plain_count" 416 (r 173),E P "plain_signs" 425 (r 180),E P "pattern_of" 433 (r 187),E P "is_delayed" 440 (r 194),E P "settled" 449 (r 201),E P "OPENING" 453 (s "(" 452),E P "CLOSING" 455 (s ")" 454),E P "chars_end" 465 (r 208),E P "len_end" 474 (r 215),E P "pos_end" 482 (r 222),E P "rpos_end" 491 (r 229),E P "tab_end" 500 (r 236),E P "rtab_end" 510 (r 243),E P "rem_end" 517 (r 250),E P "any_at" 526 (r 257),E P "notany_at" 535 (r 264),E P "run_end" 545 (r 271),E P "span_end" 555 (r 278),E P "break_end" 565 (r 285),E P "arb_ends" 573 (r 292),E P "bal_end" 582 (r 299),E P "bal_ends" 592 (r 306),E P "one_end" 602 (r 313),E P "plain_end" 611 (r 320),E P "ends_of" 622 (r 327),E P "LOST" 626 (s "lost" 625),E P "match_plain" 638 (r 334),E P "match_at" 649 (r 341),E P "tried" 664 (r 348),E P "advanced" 680 (r 355),E P "led_in" 692 (r 362),E P "led_out" 708 (r 369),E P "steered" 720 (r 376),E P "taken" 737 (r 383),E P "PlainHost" 799 (r 421),E P "ONE" 803 (s "one" 802),E P "WAYS" 805 (s "ways" 804),E P "SPLIT" 807 (s "split" 806),E P "JUMP" 809 (s "jump" 808),E P "MARK" 811 (s "mark" 810),E P "NAME" 813 (s "name" 812),E P "SET" 815 (s "set" 814),E P "GAIN" 817 (s "gain" 816),E P "PLACE" 819 (s "place" 818),E P "ASK" 821 (s "ask" 820),E P "FENCE" 823 (s "fence" 822),E P "FAIL" 825 (s "fail" 824),E P "ABORT" 827 (s "abort" 826),E P "SUCCEED" 829 (s "succeed" 828),E P "DONE" 831 (s "done" 830),E P "PUT" 833 (s "put" 832),E P "EMIT" 835 (s "emit" 834),E P "OPEN" 837 (s "open" 836),E P "SHUT" 839 (s "shut" 838),E P "MEET" 841 (s "meet" 840),E P "SINGLE" 853 (r 426),E P "ALONE" 858 (r 427),E P "row_of" 869 (r 434),E P "is_plain_text" 876 (r 441),E P "with_texts_joined" 885 (r 448)] 84
noncomputable def o480:Obj:=fl N0 [(j 2),j0,(r 21),(j 8),j0,(r 43),(j 10),j0,(r 57),(j 14),j0,(r 78),(j 18),j0,(r 99),(j 24),j0,(r 120),(j 26),j0,(r 127),(j 28),j0,(r 134),(j 41),j0,(r 141),(j 47),j0,(r 148),(j 51),j0,(r 155),(j 55),j0,(r 162),(j 64),j0,(r 172),(j 71),j0,(r 179),(j 76),j0,(r 186),(j 85),j0,(r 193),(j 87),j0,(r 200),(j 99),j0,(r 207),(j 102),j0,(r 214),(j 104),j0,(r 221),(j 106),j0,(r 228),(j 108),j0,(r 235),(j 110),j0,(r 242),(j 113),j0,(r 249),(j 115),j0,(r 256),(j 117),j0,(r 263),(j 119),j0,(r 270),(j 123),j0,(r 277),(j 126),j0,(r 284),(j 129),j0,(r 291),(j 131),j0,(r 298),(j 144),j0,(r 305),(j 150),j0,(r 312),(j 170),j0,(r 319),(j 172),j0,(r 326),(j 183),j0,(r 333),(j 189),j0,(r 340),(j 192),j0,(r 347),(j 210),j0,(r 354),(j 225),j0,(r 361),(j 236),j0,(r 368),(j 243),j0,(r 375),(j 251),j0,(r 382),(j 268),j0,(r 389),(j 317),j0,(r 433),(j 326),j0,(r 440),(j 328),j0,(r 447)]
noncomputable def o481:Obj:=sq [(s "chars" 842),(s "len" 843),(s "pos" 844),(s "rpos" 845),(s "tab" 846),(s "rtab" 847),(s "any" 848),(s "notany" 849),(s "span" 850),(s "break" 851),(s "rem" 852)]
noncomputable def o482:Obj:=sq [(s "fence" 854),(s "fail" 855),(s "abort" 856),(s "succeed" 857)]
noncomputable def o485:Obj:=sq [(s "node" 862),(s "kind" 863),(s "found" 864),(s "waiting" 865),(s "part" 866)]
noncomputable def o487:Obj:=f0 "row_of" "row_of" (st 78)
noncomputable def o488:Obj:=fl (VT "code") [(s "row_of" 859),(s "row_of" 860),(u 861),(j 317),(j 2),j0,j0,(j 3),(r 428),bt,(j 181),(r 429),N0,(r 430),(r 431),(r 432),(j 867),(j 317),(u 868)]
noncomputable def o489:Obj:=f1 "row_of" "row_of" (st 78) 3 (s "snobol.compile_pattern" 800) 433
noncomputable def o492:Obj:=sq [(s "node" 873)]
noncomputable def o494:Obj:=f0 "is_plain_text" "is_plain_text" (st 79)
noncomputable def o495:Obj:=fl (VT "code") [(s "is_plain_text" 870),(s "is_plain_text" 871),(u 872),(j 326),(j 1),j0,j0,(j 3),(r 435),bt,(j 181),(r 436),N0,(r 437),(r 438),(r 439),(j 874),(j 326),(u 875)]
noncomputable def o496:Obj:=f1 "is_plain_text" "is_plain_text" (st 79) 3 (s "snobol.compile_pattern" 800) 440
noncomputable def o499:Obj:=sq [(s "parts" 880),(s "found" 881),(s "part" 882)]
noncomputable def o501:Obj:=f0 "with_texts_joined" "with_texts_joined" (st 80)
noncomputable def o502:Obj:=fl (VT "code") [(s "with_texts_joined" 877),(s "with_texts_joined" 878),(u 879),(j 328),(j 1),j0,j0,(j 3),(r 442),bt,(j 181),(r 443),N0,(r 444),(r 445),(r 446),(j 883),(j 328),(u 884)]
noncomputable def o503:Obj:=f1 "with_texts_joined" "with_texts_joined" (st 80) 3 (s "snobol.compile_pattern" 800) 447
noncomputable def o504 (P:Params):Obj:=di [E P "__name__" 165 (s "snobol.compile_pattern" 800),E P "__doc__" 166 N0,E P "__package__" 167 N0,E P "__loader__" 168 ldr,E P "__spec__" 169 N0,E P "__annotations__" 170 (r 6),E P "__builtins__" 171 (r 4),E P "__file__" 173 (u 172),E P "__cached__" 174 N0,E P "SnobolError" 222 (r 34),E P "Failure" 242 (r 47),E P "Pattern" 271 (r 68),E P "Delayed" 300 (r 89),E P "NameRef" 333 (r 110),E P "is_fail" 340 (r 121),E P "fits" 348 (r 128),E P "whole_of_text" 359 (r 135),E P "text_of_whole" 368 (r 142),E P "to_whole" 376 (r 149),E P "to_text" 383 (r 156),E P "need_text" 391 (r 163),E P "COUNTED" 399 (r 164),E P "SIGNED" 404 (r 165),E P "WIDTH_OF_COUNT" 406 (vi 64 405),E P "plain_count" 416 (r 173),E P "plain_signs" 425 (r 180),E P "pattern_of" 433 (r 187),E P "is_delayed" 440 (r 194),E P "settled" 449 (r 201),E P "OPENING" 453 (s "(" 452),E P "CLOSING" 455 (s ")" 454),E P "chars_end" 465 (r 208),E P "len_end" 474 (r 215),E P "pos_end" 482 (r 222),E P "rpos_end" 491 (r 229),E P "tab_end" 500 (r 236),E P "rtab_end" 510 (r 243),E P "rem_end" 517 (r 250),E P "any_at" 526 (r 257),E P "notany_at" 535 (r 264),E P "run_end" 545 (r 271),E P "span_end" 555 (r 278),E P "break_end" 565 (r 285),E P "arb_ends" 573 (r 292),E P "bal_end" 582 (r 299),E P "bal_ends" 592 (r 306),E P "one_end" 602 (r 313),E P "plain_end" 611 (r 320),E P "ends_of" 622 (r 327),E P "LOST" 626 (s "lost" 625),E P "match_plain" 638 (r 334),E P "match_at" 649 (r 341),E P "tried" 664 (r 348),E P "advanced" 680 (r 355),E P "led_in" 692 (r 362),E P "led_out" 708 (r 369),E P "steered" 720 (r 376),E P "taken" 737 (r 383),E P "PlainHost" 799 (r 421),E P "ONE" 803 (s "one" 802),E P "WAYS" 805 (s "ways" 804),E P "SPLIT" 807 (s "split" 806),E P "JUMP" 809 (s "jump" 808),E P "MARK" 811 (s "mark" 810),E P "NAME" 813 (s "name" 812),E P "SET" 815 (s "set" 814),E P "GAIN" 817 (s "gain" 816),E P "PLACE" 819 (s "place" 818),E P "ASK" 821 (s "ask" 820),E P "FENCE" 823 (s "fence" 822),E P "FAIL" 825 (s "fail" 824),E P "ABORT" 827 (s "abort" 826),E P "SUCCEED" 829 (s "succeed" 828),E P "DONE" 831 (s "done" 830),E P "PUT" 833 (s "put" 832),E P "EMIT" 835 (s "emit" 834),E P "OPEN" 837 (s "open" 836),E P "SHUT" 839 (s "shut" 838),E P "MEET" 841 (s "meet" 840),E P "SINGLE" 853 (r 426),E P "ALONE" 858 (r 427),E P "row_of" 869 (r 434),E P "is_plain_text" 876 (r 441),E P "with_texts_joined" 885 (r 448),E P "PatternCode" 969 (r 505)] 85
noncomputable def o505:Obj:=fl N0 [(j 2),j0,(r 21),(j 8),j0,(r 43),(j 10),j0,(r 57),(j 14),j0,(r 78),(j 18),j0,(r 99),(j 24),j0,(r 120),(j 26),j0,(r 127),(j 28),j0,(r 134),(j 41),j0,(r 141),(j 47),j0,(r 148),(j 51),j0,(r 155),(j 55),j0,(r 162),(j 64),j0,(r 172),(j 71),j0,(r 179),(j 76),j0,(r 186),(j 85),j0,(r 193),(j 87),j0,(r 200),(j 99),j0,(r 207),(j 102),j0,(r 214),(j 104),j0,(r 221),(j 106),j0,(r 228),(j 108),j0,(r 235),(j 110),j0,(r 242),(j 113),j0,(r 249),(j 115),j0,(r 256),(j 117),j0,(r 263),(j 119),j0,(r 270),(j 123),j0,(r 277),(j 126),j0,(r 284),(j 129),j0,(r 291),(j 131),j0,(r 298),(j 144),j0,(r 305),(j 150),j0,(r 312),(j 170),j0,(r 319),(j 172),j0,(r 326),(j 183),j0,(r 333),(j 189),j0,(r 340),(j 192),j0,(r 347),(j 210),j0,(r 354),(j 225),j0,(r 361),(j 236),j0,(r 368),(j 243),j0,(r 375),(j 251),j0,(r 382),(j 268),j0,(r 389),(j 317),j0,(r 433),(j 326),j0,(r 440),(j 328),j0,(r 447),(j 338),j0,(r 454)]
noncomputable def o508 (P:Params):Obj:=di [E P "__module__" 893 (s "snobol.compile_pattern" 800),E P "__qualname__" 895 (s "PatternCode" 894),E P "__firstlineno__" 897 (vi 338 896),E P "__init__" 904 (r 462),E P "emit" 912 (r 469),E P "put" 923 (r 476),E P "begun" 929 (r 481),E P "choice" 940 (r 488),E P "repeat" 950 (r 495),E P "bound" 960 (r 502),E P "__static_attributes__" 962 (r 503)] 11
noncomputable def o510:Obj:=fl N0 [(j 340),(j 4),(r 461),(j 343),(j 4),(r 468),(j 347),(j 4),(r 475),(j 358),(j 4),(r 480),(j 377),(j 4),(r 487),(j 383),(j 4),(r 494),(j 390),(j 4),(r 501)]
noncomputable def o511:Obj:=fl (VT "code") [(s "PatternCode" 888),(s "PatternCode" 889),(u 890),(j 338),j0,j0,j0,j0,(r 452),bf,(j 181),(r 453),N0,N0,N0,N0,(j 891),(j 338),(u 892)]
noncomputable def o512:Obj:=⟨(VT "frame"),none,Data.plain,⟨[(some (r 454)),(some (r 3)),(some (r 451)),none,(some (s "snobol.compile_pattern" 800)),none,(some (r 0))]⟩⟩
noncomputable def o515:Obj:=sq [(s "self" 901)]
noncomputable def o517:Obj:=f0 "__init__" "PatternCode.__init__" (sc 81 0)
noncomputable def o518:Obj:=fl (VT "code") [(s "__init__" 898),(s "PatternCode.__init__" 899),(u 900),(j 340),(j 1),j0,j0,(j 3),(r 456),bt,(j 181),(r 457),N0,(r 458),(r 459),(r 460),(j 902),(j 340),(u 903)]
noncomputable def o519:Obj:=f1 "__init__" "PatternCode.__init__" (sc 81 0) 3 (s "snobol.compile_pattern" 800) 461
noncomputable def o522:Obj:=sq [(s "self" 908),(s "order" 909)]
noncomputable def o524:Obj:=f0 "emit" "PatternCode.emit" (sc 81 1)
noncomputable def o525:Obj:=fl (VT "code") [(s "emit" 905),(s "PatternCode.emit" 906),(u 907),(j 343),(j 2),j0,j0,(j 3),(r 463),bt,(j 181),(r 464),N0,(r 465),(r 466),(r 467),(j 910),(j 343),(u 911)]
noncomputable def o526:Obj:=f1 "emit" "PatternCode.emit" (sc 81 1) 3 (s "snobol.compile_pattern" 800) 468
noncomputable def o529:Obj:=sq [(s "self" 916),(s "node" 917),(s "waiting" 918),(s "word" 919),(s "told" 920)]
noncomputable def o531:Obj:=f0 "put" "PatternCode.put" (sc 81 2)
noncomputable def o532:Obj:=fl (VT "code") [(s "put" 913),(s "PatternCode.put" 914),(u 915),(j 347),(j 2),j0,j0,(j 3),(r 470),bt,(j 181),(r 471),N0,(r 472),(r 473),(r 474),(j 921),(j 347),(u 922)]
noncomputable def o533:Obj:=f1 "put" "PatternCode.put" (sc 81 2) 3 (s "snobol.compile_pattern" 800) 475
noncomputable def o536:Obj:=f0 "begun" "PatternCode.begun" (sc 81 3)
noncomputable def o537:Obj:=fl (VT "code") [(s "begun" 924),(s "PatternCode.begun" 925),(u 926),(j 358),(j 2),j0,j0,(j 3),(r 477),bt,(j 181),(r 478),N0,N0,N0,(r 479),(j 927),(j 358),(u 928)]
noncomputable def o538:Obj:=f1 "begun" "PatternCode.begun" (sc 81 3) 3 (s "snobol.compile_pattern" 800) 480
noncomputable def o541:Obj:=sq [(s "self" 933),(s "parts" 934),(s "found" 935),(s "ends" 936),(s "part" 937)]
noncomputable def o543:Obj:=f0 "choice" "PatternCode.choice" (sc 81 4)
noncomputable def o544:Obj:=fl (VT "code") [(s "choice" 930),(s "PatternCode.choice" 931),(u 932),(j 377),(j 2),j0,j0,(j 3),(r 482),bt,(j 181),(r 483),N0,(r 484),(r 485),(r 486),(j 938),(j 377),(u 939)]
noncomputable def o545:Obj:=f1 "choice" "PatternCode.choice" (sc 81 4) 3 (s "snobol.compile_pattern" 800) 487
noncomputable def o548:Obj:=sq [(s "self" 944),(s "node" 945),(s "split" 946),(s "leave" 947)]
noncomputable def o550:Obj:=f0 "repeat" "PatternCode.repeat" (sc 81 5)
noncomputable def o551:Obj:=fl (VT "code") [(s "repeat" 941),(s "PatternCode.repeat" 942),(u 943),(j 383),(j 2),j0,j0,(j 3),(r 489),bt,(j 181),(r 490),N0,(r 491),(r 492),(r 493),(j 948),(j 383),(u 949)]
noncomputable def o552:Obj:=f1 "repeat" "PatternCode.repeat" (sc 81 5) 3 (s "snobol.compile_pattern" 800) 494
noncomputable def o555:Obj:=sq [(s "self" 954),(s "word" 955),(s "ends" 956),(s "at" 957)]
noncomputable def o557:Obj:=f0 "bound" "PatternCode.bound" (sc 81 6)
noncomputable def o558:Obj:=fl (VT "code") [(s "bound" 951),(s "PatternCode.bound" 952),(u 953),(j 390),(j 3),j0,j0,(j 3),(r 496),bt,(j 181),(r 497),N0,(r 498),(r 499),(r 500),(j 958),(j 390),(u 959)]
noncomputable def o559:Obj:=f1 "bound" "PatternCode.bound" (sc 81 6) 3 (s "snobol.compile_pattern" 800) 501
noncomputable def o560:Obj:=sq [(s "orders" 961)]
noncomputable def o561 (P:Params):Obj:=di [E P "__module__" 893 (s "snobol.compile_pattern" 800),E P "__firstlineno__" 897 (vi 338 896),E P "__init__" 904 (r 462),E P "emit" 912 (r 469),E P "put" 923 (r 476),E P "begun" 929 (r 481),E P "choice" 940 (r 488),E P "repeat" 950 (r 495),E P "bound" 960 (r 502),E P "__static_attributes__" 962 (r 503),E P "__dict__" 964 (r 506),E P "__weakref__" 966 (r 507),E P "__doc__" 967 N0] 4
noncomputable def o562:Obj:=⟨(VT "type"),none,(.cls ⟨(S "PatternCode"),[(VT "object")],[(r 505),(VT "object")],504,(S "PatternCode"),true,[],[],false,none,false⟩),⟨[none,none,(some (s "PatternCode" 886)),(some (s "PatternCode" 894)),(some (VB "object.__new__")),(some bt)]⟩⟩
noncomputable def o563:Obj:=fl (VT "getset_descriptor") [(s "__dict__" 963),(r 505),(VB "function.__dict__"),(VB "function.__dict__#set")]
noncomputable def o564:Obj:=fl (VT "getset_descriptor") [(s "__weakref__" 965),(r 505),(VB "ExceptionGroup.__weakref__"),N0]
noncomputable def o565:Obj:=fl (VT "super") [(r 505),(r 505),(r 505)]
noncomputable def o566:Obj:=fl (VT "builtin_function_or_method") [(VB "object.__init_subclass__"),(r 505)]
noncomputable def o567 (P:Params):Obj:=di [E P "__name__" 165 (s "snobol.pattern_machine" 988),E P "__doc__" 166 N0,E P "__package__" 167 N0,E P "__loader__" 168 ldr,E P "__spec__" 169 N0,E P "__annotations__" 170 (r 6),E P "__builtins__" 171 (r 4),E P "__file__" 173 (u 172),E P "__cached__" 174 N0,E P "SnobolError" 222 (r 34),E P "Failure" 242 (r 47),E P "Pattern" 271 (r 68),E P "Delayed" 300 (r 89),E P "NameRef" 333 (r 110),E P "is_fail" 340 (r 121),E P "fits" 348 (r 128),E P "whole_of_text" 359 (r 135),E P "text_of_whole" 368 (r 142),E P "to_whole" 376 (r 149),E P "to_text" 383 (r 156),E P "need_text" 391 (r 163),E P "COUNTED" 399 (r 164),E P "SIGNED" 404 (r 165),E P "WIDTH_OF_COUNT" 406 (vi 64 405),E P "plain_count" 416 (r 173),E P "plain_signs" 425 (r 180),E P "pattern_of" 433 (r 187),E P "is_delayed" 440 (r 194),E P "settled" 449 (r 201),E P "OPENING" 453 (s "(" 452),E P "CLOSING" 455 (s ")" 454),E P "chars_end" 465 (r 208),E P "len_end" 474 (r 215),E P "pos_end" 482 (r 222),E P "rpos_end" 491 (r 229),E P "tab_end" 500 (r 236),E P "rtab_end" 510 (r 243),E P "rem_end" 517 (r 250),E P "any_at" 526 (r 257),E P "notany_at" 535 (r 264),E P "run_end" 545 (r 271),E P "span_end" 555 (r 278),E P "break_end" 565 (r 285),E P "arb_ends" 573 (r 292),E P "bal_end" 582 (r 299),E P "bal_ends" 592 (r 306),E P "one_end" 602 (r 313),E P "plain_end" 611 (r 320),E P "ends_of" 622 (r 327),E P "LOST" 626 (s "lost" 625),E P "match_plain" 638 (r 334),E P "match_at" 649 (r 341),E P "tried" 664 (r 348),E P "advanced" 680 (r 355),E P "led_in" 692 (r 362),E P "led_out" 708 (r 369),E P "steered" 720 (r 376),E P "taken" 737 (r 383),E P "PlainHost" 799 (r 421),E P "ONE" 803 (s "one" 802),E P "WAYS" 805 (s "ways" 804),E P "SPLIT" 807 (s "split" 806),E P "JUMP" 809 (s "jump" 808),E P "MARK" 811 (s "mark" 810),E P "NAME" 813 (s "name" 812),E P "SET" 815 (s "set" 814),E P "GAIN" 817 (s "gain" 816),E P "PLACE" 819 (s "place" 818),E P "ASK" 821 (s "ask" 820),E P "FENCE" 823 (s "fence" 822),E P "FAIL" 825 (s "fail" 824),E P "ABORT" 827 (s "abort" 826),E P "SUCCEED" 829 (s "succeed" 828),E P "DONE" 831 (s "done" 830),E P "PUT" 833 (s "put" 832),E P "EMIT" 835 (s "emit" 834),E P "OPEN" 837 (s "open" 836),E P "SHUT" 839 (s "shut" 838),E P "MEET" 841 (s "meet" 840),E P "SINGLE" 853 (r 426),E P "ALONE" 858 (r 427),E P "row_of" 869 (r 434),E P "is_plain_text" 876 (r 441),E P "with_texts_joined" 885 (r 448),E P "PatternCode" 969 (r 505),E P "straightened" 979 (r 516),E P "compile_pattern" 987 (r 523),E P "MET" 991 (vi 0 990),E P "FAILED" 993 (vi 1 992),E P "OVER" 995 (vi 2 994),E P "Way" 1042 (r 547)] 91
noncomputable def o568:Obj:=fl N0 [(j 2),j0,(r 21),(j 8),j0,(r 43),(j 10),j0,(r 57),(j 14),j0,(r 78),(j 18),j0,(r 99),(j 24),j0,(r 120),(j 26),j0,(r 127),(j 28),j0,(r 134),(j 41),j0,(r 141),(j 47),j0,(r 148),(j 51),j0,(r 155),(j 55),j0,(r 162),(j 64),j0,(r 172),(j 71),j0,(r 179),(j 76),j0,(r 186),(j 85),j0,(r 193),(j 87),j0,(r 200),(j 99),j0,(r 207),(j 102),j0,(r 214),(j 104),j0,(r 221),(j 106),j0,(r 228),(j 108),j0,(r 235),(j 110),j0,(r 242),(j 113),j0,(r 249),(j 115),j0,(r 256),(j 117),j0,(r 263),(j 119),j0,(r 270),(j 123),j0,(r 277),(j 126),j0,(r 284),(j 129),j0,(r 291),(j 131),j0,(r 298),(j 144),j0,(r 305),(j 150),j0,(r 312),(j 170),j0,(r 319),(j 172),j0,(r 326),(j 183),j0,(r 333),(j 189),j0,(r 340),(j 192),j0,(r 347),(j 210),j0,(r 354),(j 225),j0,(r 361),(j 236),j0,(r 368),(j 243),j0,(r 375),(j 251),j0,(r 382),(j 268),j0,(r 389),(j 317),j0,(r 433),(j 326),j0,(r 440),(j 328),j0,(r 447),(j 338),j0,(r 454),(j 399),j0,(r 515),(j 409),j0,(r 522),(j 418),j0,(r 529)]
noncomputable def o571:Obj:=sq [(s "orders" 973),(s "found" 974),(s "order" 975),(s "goal" 976)]
noncomputable def o573:Obj:=f0 "straightened" "straightened" (st 82)
noncomputable def o574:Obj:=fl (VT "code") [(s "straightened" 970),(s "straightened" 971),(u 972),(j 399),(j 1),j0,j0,(j 3),(r 510),bt,(j 181),(r 511),N0,(r 512),(r 513),(r 514),(j 977),(j 399),(u 978)]
noncomputable def o575:Obj:=f1 "straightened" "straightened" (st 82) 3 (s "snobol.compile_pattern" 800) 515
noncomputable def o578:Obj:=sq [(s "node" 983),(s "code" 984)]
noncomputable def o580:Obj:=f0 "compile_pattern" "compile_pattern" (st 83)
noncomputable def o581:Obj:=fl (VT "code") [(s "compile_pattern" 980),(s "compile_pattern" 981),(u 982),(j 409),(j 1),j0,j0,(j 3),(r 517),bt,(j 181),(r 518),N0,(r 519),(r 520),(r 521),(j 985),(j 409),(u 986)]
noncomputable def o582:Obj:=f1 "compile_pattern" "compile_pattern" (st 83) 3 (s "snobol.compile_pattern" 800) 522
noncomputable def o585 (P:Params):Obj:=di [E P "__module__" 1003 (s "snobol.pattern_machine" 988),E P "__qualname__" 1005 (s "Way" 1004),E P "__firstlineno__" 1007 (vi 418 1006),E P "__init__" 1020 (r 537),E P "copied" 1028 (r 544),E P "__static_attributes__" 1035 (r 545)] 6
noncomputable def o587:Obj:=fl N0 [(j 420),(j 4),(r 536),(j 428),(j 4),(r 543)]
noncomputable def o588:Obj:=fl (VT "code") [(s "Way" 998),(s "Way" 999),(u 1000),(j 418),j0,j0,j0,j0,(r 527),bf,(j 181),(r 528),N0,N0,N0,N0,(j 1001),(j 418),(u 1002)]
noncomputable def o589:Obj:=⟨(VT "frame"),none,Data.plain,⟨[(some (r 529)),(some (r 3)),(some (r 526)),none,(some (s "snobol.pattern_machine" 988)),none,(some (r 0))]⟩⟩
noncomputable def o592:Obj:=sq [(s "self" 1011),(s "orders" 1012),(s "pc" 1013),(s "at" 1014),(s "named" 1015),(s "marks" 1016),(s "calls" 1017)]
noncomputable def o594:Obj:=f0 "__init__" "Way.__init__" (sc 88 0)
noncomputable def o595:Obj:=fl (VT "code") [(s "__init__" 1008),(s "Way.__init__" 1009),(u 1010),(j 420),(j 7),j0,j0,(j 3),(r 531),bt,(j 181),(r 532),N0,(r 533),(r 534),(r 535),(j 1018),(j 420),(u 1019)]
noncomputable def o596:Obj:=f1 "__init__" "Way.__init__" (sc 88 0) 3 (s "snobol.pattern_machine" 988) 536
noncomputable def o599:Obj:=sq [(s "self" 1024),(s "pc" 1025)]
noncomputable def o601:Obj:=f0 "copied" "Way.copied" (sc 88 1)
noncomputable def o602:Obj:=fl (VT "code") [(s "copied" 1021),(s "Way.copied" 1022),(u 1023),(j 428),(j 2),j0,j0,(j 3),(r 538),bt,(j 181),(r 539),N0,(r 540),(r 541),(r 542),(j 1026),(j 428),(u 1027)]
noncomputable def o603:Obj:=f1 "copied" "Way.copied" (sc 88 1) 3 (s "snobol.pattern_machine" 988) 543
noncomputable def o604:Obj:=sq [(s "at" 1029),(s "calls" 1030),(s "marks" 1031),(s "named" 1032),(s "orders" 1033),(s "pc" 1034)]
noncomputable def o605 (P:Params):Obj:=di [E P "__module__" 1003 (s "snobol.pattern_machine" 988),E P "__firstlineno__" 1007 (vi 418 1006),E P "__init__" 1020 (r 537),E P "copied" 1028 (r 544),E P "__static_attributes__" 1035 (r 545),E P "__dict__" 1037 (r 548),E P "__weakref__" 1039 (r 549),E P "__doc__" 1040 N0] 4
noncomputable def o606:Obj:=⟨(VT "type"),none,(.cls ⟨(S "Way"),[(VT "object")],[(r 547),(VT "object")],546,(S "Way"),true,[],[],false,none,false⟩),⟨[none,none,(some (s "Way" 996)),(some (s "Way" 1004)),(some (VB "object.__new__")),(some bt)]⟩⟩
noncomputable def o607:Obj:=fl (VT "getset_descriptor") [(s "__dict__" 1036),(r 547),(VB "function.__dict__"),(VB "function.__dict__#set")]
noncomputable def o608:Obj:=fl (VT "getset_descriptor") [(s "__weakref__" 1038),(r 547),(VB "ExceptionGroup.__weakref__"),N0]
noncomputable def o609:Obj:=fl (VT "super") [(r 547),(r 547),(r 547)]
noncomputable def o610:Obj:=fl (VT "builtin_function_or_method") [(VB "object.__init_subclass__"),(r 547)]
noncomputable def o611 (P:Params):Obj:=di [E P "__name__" 165 (s "snobol.pattern_machine" 988),E P "__doc__" 166 N0,E P "__package__" 167 N0,E P "__loader__" 168 ldr,E P "__spec__" 169 N0,E P "__annotations__" 170 (r 6),E P "__builtins__" 171 (r 4),E P "__file__" 173 (u 172),E P "__cached__" 174 N0,E P "SnobolError" 222 (r 34),E P "Failure" 242 (r 47),E P "Pattern" 271 (r 68),E P "Delayed" 300 (r 89),E P "NameRef" 333 (r 110),E P "is_fail" 340 (r 121),E P "fits" 348 (r 128),E P "whole_of_text" 359 (r 135),E P "text_of_whole" 368 (r 142),E P "to_whole" 376 (r 149),E P "to_text" 383 (r 156),E P "need_text" 391 (r 163),E P "COUNTED" 399 (r 164),E P "SIGNED" 404 (r 165),E P "WIDTH_OF_COUNT" 406 (vi 64 405),E P "plain_count" 416 (r 173),E P "plain_signs" 425 (r 180),E P "pattern_of" 433 (r 187),E P "is_delayed" 440 (r 194),E P "settled" 449 (r 201),E P "OPENING" 453 (s "(" 452),E P "CLOSING" 455 (s ")" 454),E P "chars_end" 465 (r 208),E P "len_end" 474 (r 215),E P "pos_end" 482 (r 222),E P "rpos_end" 491 (r 229),E P "tab_end" 500 (r 236),E P "rtab_end" 510 (r 243),E P "rem_end" 517 (r 250),E P "any_at" 526 (r 257),E P "notany_at" 535 (r 264),E P "run_end" 545 (r 271),E P "span_end" 555 (r 278),E P "break_end" 565 (r 285),E P "arb_ends" 573 (r 292),E P "bal_end" 582 (r 299),E P "bal_ends" 592 (r 306),E P "one_end" 602 (r 313),E P "plain_end" 611 (r 320),E P "ends_of" 622 (r 327),E P "LOST" 626 (s "lost" 625),E P "match_plain" 638 (r 334),E P "match_at" 649 (r 341),E P "tried" 664 (r 348),E P "advanced" 680 (r 355),E P "led_in" 692 (r 362),E P "led_out" 708 (r 369),E P "steered" 720 (r 376),E P "taken" 737 (r 383),E P "PlainHost" 799 (r 421),E P "ONE" 803 (s "one" 802),E P "WAYS" 805 (s "ways" 804),E P "SPLIT" 807 (s "split" 806),E P "JUMP" 809 (s "jump" 808),E P "MARK" 811 (s "mark" 810),E P "NAME" 813 (s "name" 812),E P "SET" 815 (s "set" 814),E P "GAIN" 817 (s "gain" 816),E P "PLACE" 819 (s "place" 818),E P "ASK" 821 (s "ask" 820),E P "FENCE" 823 (s "fence" 822),E P "FAIL" 825 (s "fail" 824),E P "ABORT" 827 (s "abort" 826),E P "SUCCEED" 829 (s "succeed" 828),E P "DONE" 831 (s "done" 830),E P "PUT" 833 (s "put" 832),E P "EMIT" 835 (s "emit" 834),E P "OPEN" 837 (s "open" 836),E P "SHUT" 839 (s "shut" 838),E P "MEET" 841 (s "meet" 840),E P "SINGLE" 853 (r 426),E P "ALONE" 858 (r 427),E P "row_of" 869 (r 434),E P "is_plain_text" 876 (r 441),E P "with_texts_joined" 885 (r 448),E P "PatternCode" 969 (r 505),E P "straightened" 979 (r 516),E P "compile_pattern" 987 (r 523),E P "MET" 991 (vi 0 990),E P "FAILED" 993 (vi 1 992),E P "OVER" 995 (vi 2 994),E P "Way" 1042 (r 547),E P "Match" 1157 (r 624)] 92
noncomputable def o612:Obj:=fl N0 [(j 2),j0,(r 21),(j 8),j0,(r 43),(j 10),j0,(r 57),(j 14),j0,(r 78),(j 18),j0,(r 99),(j 24),j0,(r 120),(j 26),j0,(r 127),(j 28),j0,(r 134),(j 41),j0,(r 141),(j 47),j0,(r 148),(j 51),j0,(r 155),(j 55),j0,(r 162),(j 64),j0,(r 172),(j 71),j0,(r 179),(j 76),j0,(r 186),(j 85),j0,(r 193),(j 87),j0,(r 200),(j 99),j0,(r 207),(j 102),j0,(r 214),(j 104),j0,(r 221),(j 106),j0,(r 228),(j 108),j0,(r 235),(j 110),j0,(r 242),(j 113),j0,(r 249),(j 115),j0,(r 256),(j 117),j0,(r 263),(j 119),j0,(r 270),(j 123),j0,(r 277),(j 126),j0,(r 284),(j 129),j0,(r 291),(j 131),j0,(r 298),(j 144),j0,(r 305),(j 150),j0,(r 312),(j 170),j0,(r 319),(j 172),j0,(r 326),(j 183),j0,(r 333),(j 189),j0,(r 340),(j 192),j0,(r 347),(j 210),j0,(r 354),(j 225),j0,(r 361),(j 236),j0,(r 368),(j 243),j0,(r 375),(j 251),j0,(r 382),(j 268),j0,(r 389),(j 317),j0,(r 433),(j 326),j0,(r 440),(j 328),j0,(r 447),(j 338),j0,(r 454),(j 399),j0,(r 515),(j 409),j0,(r 522),(j 418),j0,(r 529),(j 430),j0,(r 557)]
noncomputable def o615 (P:Params):Obj:=di [E P "__module__" 1050 (s "snobol.pattern_machine" 988),E P "__qualname__" 1052 (s "Match" 1051),E P "__firstlineno__" 1054 (vi 430 1053),E P "__init__" 1063 (r 565),E P "run" 1074 (r 572),E P "way_back" 1081 (r 579),E P "done" 1091 (r 586),E P "met_once" 1103 (r 593),E P "ended" 1115 (r 600),E P "other" 1125 (r 607),E P "met_often" 1136 (r 614),E P "asked" 1146 (r 621),E P "__static_attributes__" 1150 (r 622)] 13
noncomputable def o617:Obj:=fl N0 [(j 432),(j 4),(r 564),(j 437),(j 4),(r 571),(j 452),(j 4),(r 578),(j 455),(j 4),(r 585),(j 477),(j 4),(r 592),(j 491),(j 4),(r 599),(j 502),(j 4),(r 606),(j 520),(j 4),(r 613),(j 531),(j 4),(r 620)]
noncomputable def o618:Obj:=fl (VT "code") [(s "Match" 1045),(s "Match" 1046),(u 1047),(j 430),j0,j0,j0,j0,(r 555),bf,(j 181),(r 556),N0,N0,N0,N0,(j 1048),(j 430),(u 1049)]
noncomputable def o619:Obj:=⟨(VT "frame"),none,Data.plain,⟨[(some (r 557)),(some (r 3)),(some (r 554)),none,(some (s "snobol.pattern_machine" 988)),none,(some (r 0))]⟩⟩
noncomputable def o622:Obj:=sq [(s "self" 1058),(s "subject" 1059),(s "host" 1060)]
noncomputable def o624:Obj:=f0 "__init__" "Match.__init__" (sc 89 0)
noncomputable def o625:Obj:=fl (VT "code") [(s "__init__" 1055),(s "Match.__init__" 1056),(u 1057),(j 432),(j 3),j0,j0,(j 3),(r 559),bt,(j 181),(r 560),N0,(r 561),(r 562),(r 563),(j 1061),(j 432),(u 1062)]
noncomputable def o626:Obj:=f1 "__init__" "Match.__init__" (sc 89 0) 3 (s "snobol.pattern_machine" 988) 564
noncomputable def o629:Obj:=sq [(s "self" 1067),(s "orders" 1068),(s "begin" 1069),(s "way" 1070),(s "order" 1071)]
noncomputable def o631:Obj:=f0 "run" "Match.run" (sc 89 1)
noncomputable def o632:Obj:=fl (VT "code") [(s "run" 1064),(s "Match.run" 1065),(u 1066),(j 437),(j 3),j0,j0,(j 3),(r 566),bt,(j 181),(r 567),N0,(r 568),(r 569),(r 570),(j 1072),(j 437),(u 1073)]
noncomputable def o633:Obj:=f1 "run" "Match.run" (sc 89 1) 3 (s "snobol.pattern_machine" 988) 571
noncomputable def o636:Obj:=sq [(s "self" 1078)]
noncomputable def o638:Obj:=f0 "way_back" "Match.way_back" (sc 89 2)
noncomputable def o639:Obj:=fl (VT "code") [(s "way_back" 1075),(s "Match.way_back" 1076),(u 1077),(j 452),(j 1),j0,j0,(j 3),(r 573),bt,(j 181),(r 574),N0,(r 575),(r 576),(r 577),(j 1079),(j 452),(u 1080)]
noncomputable def o640:Obj:=f1 "way_back" "Match.way_back" (sc 89 2) 3 (s "snobol.pattern_machine" 988) 578
noncomputable def o643:Obj:=sq [(s "self" 1085),(s "order" 1086),(s "way" 1087),(s "word" 1088)]
noncomputable def o645:Obj:=f0 "done" "Match.done" (sc 89 3)
noncomputable def o646:Obj:=fl (VT "code") [(s "done" 1082),(s "Match.done" 1083),(u 1084),(j 455),(j 3),j0,j0,(j 3),(r 580),bt,(j 181),(r 581),N0,(r 582),(r 583),(r 584),(j 1089),(j 455),(u 1090)]
noncomputable def o647:Obj:=f1 "done" "Match.done" (sc 89 3) 3 (s "snobol.pattern_machine" 988) 585
noncomputable def o650:Obj:=sq [(s "self" 1095),(s "order" 1096),(s "way" 1097),(s "told" 1098),(s "node" 1099),(s "end" 1100)]
noncomputable def o652:Obj:=f0 "met_once" "Match.met_once" (sc 89 4)
noncomputable def o653:Obj:=fl (VT "code") [(s "met_once" 1092),(s "Match.met_once" 1093),(u 1094),(j 477),(j 3),j0,j0,(j 3),(r 587),bt,(j 181),(r 588),N0,(r 589),(r 590),(r 591),(j 1101),(j 477),(u 1102)]
noncomputable def o654:Obj:=f1 "met_once" "Match.met_once" (sc 89 4) 3 (s "snobol.pattern_machine" 988) 592
noncomputable def o657:Obj:=sq [(s "self" 1107),(s "order" 1108),(s "way" 1109),(s "marks" 1110),(s "begin" 1111),(s "text" 1112)]
noncomputable def o659:Obj:=f0 "ended" "Match.ended" (sc 89 5)
noncomputable def o660:Obj:=fl (VT "code") [(s "ended" 1104),(s "Match.ended" 1105),(u 1106),(j 491),(j 3),j0,j0,(j 3),(r 594),bt,(j 181),(r 595),N0,(r 596),(r 597),(r 598),(j 1113),(j 491),(u 1114)]
noncomputable def o661:Obj:=f1 "ended" "Match.ended" (sc 89 5) 3 (s "snobol.pattern_machine" 988) 599
noncomputable def o664:Obj:=sq [(s "self" 1119),(s "order" 1120),(s "way" 1121),(s "word" 1122)]
noncomputable def o666:Obj:=f0 "other" "Match.other" (sc 89 6)
noncomputable def o667:Obj:=fl (VT "code") [(s "other" 1116),(s "Match.other" 1117),(u 1118),(j 502),(j 3),j0,j0,(j 3),(r 601),bt,(j 181),(r 602),N0,(r 603),(r 604),(r 605),(j 1123),(j 502),(u 1124)]
noncomputable def o668:Obj:=f1 "other" "Match.other" (sc 89 6) 3 (s "snobol.pattern_machine" 988) 606
noncomputable def o671:Obj:=sq [(s "self" 1129),(s "way" 1130),(s "ends" 1131),(s "end" 1132),(s "other" 1133)]
noncomputable def o673:Obj:=f0 "met_often" "Match.met_often" (sc 89 7)
noncomputable def o674:Obj:=fl (VT "code") [(s "met_often" 1126),(s "Match.met_often" 1127),(u 1128),(j 520),(j 3),j0,j0,(j 3),(r 608),bt,(j 181),(r 609),N0,(r 610),(r 611),(r 612),(j 1134),(j 520),(u 1135)]
noncomputable def o675:Obj:=f1 "met_often" "Match.met_often" (sc 89 7) 3 (s "snobol.pattern_machine" 988) 613
noncomputable def o678:Obj:=sq [(s "self" 1140),(s "tree" 1141),(s "way" 1142),(s "value" 1143)]
noncomputable def o680:Obj:=f0 "asked" "Match.asked" (sc 89 8)
noncomputable def o681:Obj:=fl (VT "code") [(s "asked" 1137),(s "Match.asked" 1138),(u 1139),(j 531),(j 3),j0,j0,(j 3),(r 615),bt,(j 181),(r 616),N0,(r 617),(r 618),(r 619),(j 1144),(j 531),(u 1145)]
noncomputable def o682:Obj:=f1 "asked" "Match.asked" (sc 89 8) 3 (s "snobol.pattern_machine" 988) 620
noncomputable def o683:Obj:=sq [(s "history" 1147),(s "host" 1148),(s "subject" 1149)]
noncomputable def o684 (P:Params):Obj:=di [E P "__module__" 1050 (s "snobol.pattern_machine" 988),E P "__firstlineno__" 1054 (vi 430 1053),E P "__init__" 1063 (r 565),E P "run" 1074 (r 572),E P "way_back" 1081 (r 579),E P "done" 1091 (r 586),E P "met_once" 1103 (r 593),E P "ended" 1115 (r 600),E P "other" 1125 (r 607),E P "met_often" 1136 (r 614),E P "asked" 1146 (r 621),E P "__static_attributes__" 1150 (r 622),E P "__dict__" 1152 (r 625),E P "__weakref__" 1154 (r 626),E P "__doc__" 1155 N0] 4
noncomputable def o685:Obj:=⟨(VT "type"),none,(.cls ⟨(S "Match"),[(VT "object")],[(r 624),(VT "object")],623,(S "Match"),true,[],[],false,none,false⟩),⟨[none,none,(some (s "Match" 1043)),(some (s "Match" 1051)),(some (VB "object.__new__")),(some bt)]⟩⟩
noncomputable def o686:Obj:=fl (VT "getset_descriptor") [(s "__dict__" 1151),(r 624),(VB "function.__dict__"),(VB "function.__dict__#set")]
noncomputable def o687:Obj:=fl (VT "getset_descriptor") [(s "__weakref__" 1153),(r 624),(VB "ExceptionGroup.__weakref__"),N0]
noncomputable def o688:Obj:=fl (VT "super") [(r 624),(r 624),(r 624)]
noncomputable def o689:Obj:=fl (VT "builtin_function_or_method") [(VB "object.__init_subclass__"),(r 624)]
noncomputable def o690 (P:Params):Obj:=di [E P "__name__" 165 (s "law_sa0605_03" 1190),E P "__doc__" 166 N0,E P "__package__" 167 N0,E P "__loader__" 168 ldr,E P "__spec__" 169 N0,E P "__annotations__" 170 (r 6),E P "__builtins__" 171 (r 4),E P "__file__" 173 (u 172),E P "__cached__" 174 N0,E P "SnobolError" 222 (r 34),E P "Failure" 242 (r 47),E P "Pattern" 271 (r 68),E P "Delayed" 300 (r 89),E P "NameRef" 333 (r 110),E P "is_fail" 340 (r 121),E P "fits" 348 (r 128),E P "whole_of_text" 359 (r 135),E P "text_of_whole" 368 (r 142),E P "to_whole" 376 (r 149),E P "to_text" 383 (r 156),E P "need_text" 391 (r 163),E P "COUNTED" 399 (r 164),E P "SIGNED" 404 (r 165),E P "WIDTH_OF_COUNT" 406 (vi 64 405),E P "plain_count" 416 (r 173),E P "plain_signs" 425 (r 180),E P "pattern_of" 433 (r 187),E P "is_delayed" 440 (r 194),E P "settled" 449 (r 201),E P "OPENING" 453 (s "(" 452),E P "CLOSING" 455 (s ")" 454),E P "chars_end" 465 (r 208),E P "len_end" 474 (r 215),E P "pos_end" 482 (r 222),E P "rpos_end" 491 (r 229),E P "tab_end" 500 (r 236),E P "rtab_end" 510 (r 243),E P "rem_end" 517 (r 250),E P "any_at" 526 (r 257),E P "notany_at" 535 (r 264),E P "run_end" 545 (r 271),E P "span_end" 555 (r 278),E P "break_end" 565 (r 285),E P "arb_ends" 573 (r 292),E P "bal_end" 582 (r 299),E P "bal_ends" 592 (r 306),E P "one_end" 602 (r 313),E P "plain_end" 611 (r 320),E P "ends_of" 622 (r 327),E P "LOST" 626 (s "lost" 625),E P "match_plain" 638 (r 334),E P "match_at" 649 (r 341),E P "tried" 664 (r 348),E P "advanced" 680 (r 355),E P "led_in" 692 (r 362),E P "led_out" 708 (r 369),E P "steered" 720 (r 376),E P "taken" 737 (r 383),E P "PlainHost" 799 (r 421),E P "ONE" 803 (s "one" 802),E P "WAYS" 805 (s "ways" 804),E P "SPLIT" 807 (s "split" 806),E P "JUMP" 809 (s "jump" 808),E P "MARK" 811 (s "mark" 810),E P "NAME" 813 (s "name" 812),E P "SET" 815 (s "set" 814),E P "GAIN" 817 (s "gain" 816),E P "PLACE" 819 (s "place" 818),E P "ASK" 821 (s "ask" 820),E P "FENCE" 823 (s "fence" 822),E P "FAIL" 825 (s "fail" 824),E P "ABORT" 827 (s "abort" 826),E P "SUCCEED" 829 (s "succeed" 828),E P "DONE" 831 (s "done" 830),E P "PUT" 833 (s "put" 832),E P "EMIT" 835 (s "emit" 834),E P "OPEN" 837 (s "open" 836),E P "SHUT" 839 (s "shut" 838),E P "MEET" 841 (s "meet" 840),E P "SINGLE" 853 (r 426),E P "ALONE" 858 (r 427),E P "row_of" 869 (r 434),E P "is_plain_text" 876 (r 441),E P "with_texts_joined" 885 (r 448),E P "PatternCode" 969 (r 505),E P "straightened" 979 (r 516),E P "compile_pattern" 987 (r 523),E P "MET" 991 (vi 0 990),E P "FAILED" 993 (vi 1 992),E P "OVER" 995 (vi 2 994),E P "Way" 1042 (r 547),E P "Match" 1157 (r 624),E P "named_rows" 1166 (r 635),E P "match_orders" 1179 (r 642),E P "match_compiled" 1189 (r 649),E P "_law_next" 1201 (r 656),E P "_law_node" 1210 (r 663),E P "_law_words" 1216 (r 668),E P "_law_due" 1228 (r 675),E P "law" 1234 (r 680)] 100
noncomputable def o691:Obj:=fl N0 [(j 2),j0,(r 21),(j 8),j0,(r 43),(j 10),j0,(r 57),(j 14),j0,(r 78),(j 18),j0,(r 99),(j 24),j0,(r 120),(j 26),j0,(r 127),(j 28),j0,(r 134),(j 41),j0,(r 141),(j 47),j0,(r 148),(j 51),j0,(r 155),(j 55),j0,(r 162),(j 64),j0,(r 172),(j 71),j0,(r 179),(j 76),j0,(r 186),(j 85),j0,(r 193),(j 87),j0,(r 200),(j 99),j0,(r 207),(j 102),j0,(r 214),(j 104),j0,(r 221),(j 106),j0,(r 228),(j 108),j0,(r 235),(j 110),j0,(r 242),(j 113),j0,(r 249),(j 115),j0,(r 256),(j 117),j0,(r 263),(j 119),j0,(r 270),(j 123),j0,(r 277),(j 126),j0,(r 284),(j 129),j0,(r 291),(j 131),j0,(r 298),(j 144),j0,(r 305),(j 150),j0,(r 312),(j 170),j0,(r 319),(j 172),j0,(r 326),(j 183),j0,(r 333),(j 189),j0,(r 340),(j 192),j0,(r 347),(j 210),j0,(r 354),(j 225),j0,(r 361),(j 236),j0,(r 368),(j 243),j0,(r 375),(j 251),j0,(r 382),(j 268),j0,(r 389),(j 317),j0,(r 433),(j 326),j0,(r 440),(j 328),j0,(r 447),(j 338),j0,(r 454),(j 399),j0,(r 515),(j 409),j0,(r 522),(j 418),j0,(r 529),(j 430),j0,(r 557),(j 538),j0,(r 634),(j 545),j0,(r 641),(j 553),j0,(r 648),(j 556),j0,(r 655),(j 562),j0,(r 662),(j 569),j0,(r 667),(j 581),j0,(r 674),(j 587),j0,(r 679)]
noncomputable def o694:Obj:=sq [(s "named" 1161),(s "found" 1162),(s "last" 1163)]
noncomputable def o696:Obj:=f0 "named_rows" "named_rows" (st 90)
noncomputable def o697:Obj:=fl (VT "code") [(s "named_rows" 1158),(s "named_rows" 1159),(u 1160),(j 538),(j 1),j0,j0,(j 3),(r 629),bt,(j 181),(r 630),N0,(r 631),(r 632),(r 633),(j 1164),(j 538),(u 1165)]
noncomputable def o698:Obj:=f1 "named_rows" "named_rows" (st 90) 3 (s "snobol.pattern_machine" 988) 634
noncomputable def o701:Obj:=sq [(s "orders" 1170),(s "subject" 1171),(s "is_anchored" 1172),(s "host" 1173),(s "begin" 1174),(s "how" 1175),(s "way" 1176)]
noncomputable def o703:Obj:=f0 "match_orders" "match_orders" (st 91)
noncomputable def o704:Obj:=fl (VT "code") [(s "match_orders" 1167),(s "match_orders" 1168),(u 1169),(j 545),(j 4),j0,j0,(j 3),(r 636),bt,(j 181),(r 637),N0,(r 638),(r 639),(r 640),(j 1177),(j 545),(u 1178)]
noncomputable def o705:Obj:=f1 "match_orders" "match_orders" (st 91) 3 (s "snobol.pattern_machine" 988) 641
noncomputable def o708:Obj:=sq [(s "node" 1183),(s "subject" 1184),(s "is_anchored" 1185),(s "host" 1186)]
noncomputable def o710:Obj:=f0 "match_compiled" "match_compiled" (st 92)
noncomputable def o711:Obj:=fl (VT "code") [(s "match_compiled" 1180),(s "match_compiled" 1181),(u 1182),(j 553),(j 4),j0,j0,(j 3),(r 643),bt,(j 181),(r 644),N0,(r 645),(r 646),(r 647),(j 1187),(j 553),(u 1188)]
noncomputable def o712:Obj:=f1 "match_compiled" "match_compiled" (st 92) 3 (s "snobol.pattern_machine" 988) 648
noncomputable def o715:Obj:=sq [(s "feed" 1195),(s "many" 1196),(s "cells" 1197),(s "turn" 1198)]
noncomputable def o717:Obj:=f0 "_law_next" "_law_next" (st 94)
noncomputable def o718:Obj:=fl (VT "code") [(s "_law_next" 1192),(s "_law_next" 1193),(u 1194),(j 556),(j 2),j0,j0,(j 3),(r 650),bt,(j 181),(r 651),N0,(r 652),(r 653),(r 654),(j 1199),(j 556),(u 1200)]
noncomputable def o719:Obj:=f1 "_law_next" "_law_next" (st 94) 3 (s "law_sa0605_03" 1190) 655
noncomputable def o722:Obj:=sq [(s "feed" 1205),(s "deep" 1206),(s "form" 1207)]
noncomputable def o724:Obj:=f0 "_law_node" "_law_node" (st 95)
noncomputable def o725:Obj:=fl (VT "code") [(s "_law_node" 1202),(s "_law_node" 1203),(u 1204),(j 562),(j 2),j0,j0,(j 3),(r 657),bt,(j 181),(r 658),N0,(r 659),(r 660),(r 661),(j 1208),(j 562),(u 1209)]
noncomputable def o726:Obj:=f1 "_law_node" "_law_node" (st 95) 3 (s "law_sa0605_03" 1190) 662
noncomputable def o729:Obj:=f0 "_law_words" "_law_words" (st 96)
noncomputable def o730:Obj:=fl (VT "code") [(s "_law_words" 1211),(s "_law_words" 1212),(u 1213),(j 569),(j 1),j0,j0,(j 3),(r 664),bt,(j 181),(r 665),N0,N0,N0,(r 666),(j 1214),(j 569),(u 1215)]
noncomputable def o731:Obj:=f1 "_law_words" "_law_words" (st 96) 3 (s "law_sa0605_03" 1190) 667
noncomputable def o734:Obj:=sq [(s "words" 1220),(s "subject" 1221),(s "is_anchored" 1222),(s "begin" 1223),(s "word" 1224),(s "names" 1225)]
noncomputable def o736:Obj:=f0 "_law_due" "_law_due" (st 97)
noncomputable def o737:Obj:=fl (VT "code") [(s "_law_due" 1217),(s "_law_due" 1218),(u 1219),(j 581),(j 3),j0,j0,(j 3),(r 669),bt,(j 181),(r 670),N0,(r 671),(r 672),(r 673),(j 1226),(j 581),(u 1227)]
noncomputable def o738:Obj:=f1 "_law_due" "_law_due" (st 97) 3 (s "law_sa0605_03" 1190) 674
noncomputable def o741:Obj:=f0 "law" "law" (st 98)
noncomputable def o742:Obj:=fl (VT "code") [(s "law" 1229),(s "law" 1230),(u 1231),(j 587),(j 1),j0,j0,(j 3),(r 676),bt,(j 181),(r 677),N0,N0,N0,(r 678),(j 1232),(j 587),(u 1233)]
noncomputable def o743:Obj:=f1 "law" "law" (st 98) 3 (s "law_sa0605_03" 1190) 679
noncomputable def l47 (P:Params):List Obj:=[(boot_o_0 P),(boot_o_1 P),(boot_o_2 P),(boot_o_3 P),(boot_o_4 P),(boot_o_5 P),(boot_o_6 P),(boot_o_7 P),(boot_o_8 P),(boot_o_9 P),(boot_o_10 P),o43,o44,o45,o46]
noncomputable def t47 (P:Params):BT:=mkT 12 (l47 P)
noncomputable def l74 (P:Params):List Obj:=((((l47 P).set 2 (o49 P)).set 3 (o50 P)).set 12 o51)++[o52,o53,(o54 P),o55,o43,o57,o58,o59,o60,o61,o62,o44,o64,o43,o66,o67,o68,o69,(o70 P),o71,o72,o73,o74]
noncomputable def t74 (P:Params):BT:=mkT 12 (l74 P)
noncomputable def l90 (P:Params):List Obj:=(((l74 P).set 3 (o75 P)).set 12 o76)++[o43,o53,(o79 P),o43,o44,o82,o83,o43,(o85 P),o86,o87,o88,o89,o90]
noncomputable def t90 (P:Params):BT:=mkT 12 (l90 P)
noncomputable def l113 (P:Params):List Obj:=(((l90 P).set 3 (o91 P)).set 12 o92)++[o43,o53,(o95 P),o43,o97,o98,o99,o43,o44,o102,o43,o104,o105,o106,o107,(o108 P),o109,o110,o111,o112,o113]
noncomputable def t113 (P:Params):BT:=mkT 12 (l113 P)
noncomputable def l136 (P:Params):List Obj:=(((l113 P).set 3 (o114 P)).set 12 o115)++[o43,o53,(o118 P),o43,o120,o121,o122,o43,o44,o125,o43,o127,o128,o129,o130,(o131 P),o132,o133,o134,o135,o136]
noncomputable def t136 (P:Params):BT:=mkT 12 (l136 P)
noncomputable def l194 (P:Params):List Obj:=(((l136 P).set 3 (o137 P)).set 12 o138)++[o43,o53,(o141 P),o43,o143,o144,o145,o43,o44,o148,o43,o150,o151,o152,o153,(o154 P),o155,o156,o157,o158,o159,o43,o44,o162,o43,o164,o165,o166,o43,o44,o169,o43,o171,o172,o173,o43,o44,o176,o43,o178,o179,o180,o43,o44,o183,o43,o185,o186,o187,o43,o44,o190,o43,o192,o193,o194]
noncomputable def t194 (P:Params):BT:=mkT 12 (l194 P)
noncomputable def l269 (P:Params):List Obj:=(((l194 P).set 3 (o195 P)).set 12 o196)++[o43,o44,o199,o43,o201,o202,o203,o43,o44,o206,o43,o208,o209,o210,o211,o212,o213,o43,o44,o216,o43,o218,o219,o220,o43,o44,o223,o43,o225,o226,o227,o43,o44,o230,o43,o232,o233,o234,o43,o44,o237,o43,o239,o240,o241,o43,o44,o244,o43,o246,o247,o248,o43,o44,o251,o43,o253,o254,o255,o43,o44,o258,o43,o260,o261,o262,o43,o44,o265,o43,o267,o268,o269]
noncomputable def t269 (P:Params):BT:=mkT 12 (l269 P)
noncomputable def l355 (P:Params):List Obj:=(((l269 P).set 3 (o270 P)).set 12 o271)++[o43,o44,o274,o43,o276,o277,o278,o43,o44,o281,o43,o283,o284,o285,o43,o44,o288,o43,o290,o291,o292,o43,o44,o295,o43,o297,o298,o299,o43,o44,o302,o43,o304,o305,o306,o43,o44,o309,o43,o311,o312,o313,o43,o44,o316,o43,o318,o319,o320,o43,o44,o323,o43,o325,o326,o327,o43,o44,o330,o43,o332,o333,o334,o43,o44,o337,o43,o339,o340,o341,o43,o44,o344,o43,o346,o347,o348,o43,o44,o351,o43,o353,o354,o355]
noncomputable def t355 (P:Params):BT:=mkT 12 (l355 P)
noncomputable def l427 (P:Params):List Obj:=(((l355 P).set 3 (o356 P)).set 12 o357)++[o43,o44,o360,o43,o362,o363,o364,o43,o44,o367,o43,o369,o370,o371,o43,o44,o374,o43,o376,o377,o378,o43,o44,o381,o43,o383,o384,o385,o43,o44,o388,o43,o390,o391,o392,o43,o44,o395,o43,o397,o398,o399,o43,o44,o402,o43,o404,o405,o406,o43,o44,o409,o43,o411,o412,o413,o43,o44,o416,o43,o418,o419,o420,o43,o44,o423,o43,o425,o426,o427]
noncomputable def t427 (P:Params):BT:=mkT 12 (l427 P)
noncomputable def l478 (P:Params):List Obj:=(((l427 P).set 3 (o428 P)).set 12 o429)++[o43,o44,o432,o43,o434,o435,o436,o43,o53,(o439 P),o43,o441,o442,o443,o43,o44,o446,o43,o448,o449,o450,o43,o44,o453,o43,o455,o456,o457,o43,o44,o460,o43,o462,o463,o464,o43,o44,o467,o43,o469,o470,o471,o472,(o473 P),o474,o475,o476,o477,o478]
noncomputable def t478 (P:Params):BT:=mkT 12 (l478 P)
noncomputable def l503 (P:Params):List Obj:=(((l478 P).set 3 (o479 P)).set 12 o480)++[o481,o482,o43,o44,o485,o43,o487,o488,o489,o43,o44,o492,o43,o494,o495,o496,o43,o44,o499,o43,o501,o502,o503]
noncomputable def t503 (P:Params):BT:=mkT 12 (l503 P)
noncomputable def l566 (P:Params):List Obj:=(((l503 P).set 3 (o504 P)).set 12 o505)++[o43,o53,(o508 P),o43,o510,o511,o512,o43,o44,o515,o43,o517,o518,o519,o43,o44,o522,o43,o524,o525,o526,o43,o44,o529,o43,o531,o532,o533,o43,o44,o536,o537,o538,o43,o44,o541,o43,o543,o544,o545,o43,o44,o548,o43,o550,o551,o552,o43,o44,o555,o43,o557,o558,o559,o560,(o561 P),o562,o563,o564,o565,o566]
noncomputable def t566 (P:Params):BT:=mkT 12 (l566 P)
noncomputable def l610 (P:Params):List Obj:=(((l566 P).set 3 (o567 P)).set 12 o568)++[o43,o44,o571,o43,o573,o574,o575,o43,o44,o578,o43,o580,o581,o582,o43,o53,(o585 P),o43,o587,o588,o589,o43,o44,o592,o43,o594,o595,o596,o43,o44,o599,o43,o601,o602,o603,o604,(o605 P),o606,o607,o608,o609,o610]
noncomputable def t610 (P:Params):BT:=mkT 12 (l610 P)
noncomputable def l689 (P:Params):List Obj:=(((l610 P).set 3 (o611 P)).set 12 o612)++[o43,o53,(o615 P),o43,o617,o618,o619,o43,o44,o622,o43,o624,o625,o626,o43,o44,o629,o43,o631,o632,o633,o43,o44,o636,o43,o638,o639,o640,o43,o44,o643,o43,o645,o646,o647,o43,o44,o650,o43,o652,o653,o654,o43,o44,o657,o43,o659,o660,o661,o43,o44,o664,o43,o666,o667,o668,o43,o44,o671,o43,o673,o674,o675,o43,o44,o678,o43,o680,o681,o682,o683,(o684 P),o685,o686,o687,o688,o689]
noncomputable def t689 (P:Params):BT:=mkT 12 (l689 P)
noncomputable def l743 (P:Params):List Obj:=(((l689 P).set 3 (o690 P)).set 12 o691)++[o43,o44,o694,o43,o696,o697,o698,o43,o44,o701,o43,o703,o704,o705,o43,o44,o708,o43,o710,o711,o712,o43,o44,o715,o43,o717,o718,o719,o43,o44,o722,o43,o724,o725,o726,o43,o44,o729,o730,o731,o43,o44,o734,o43,o736,o737,o738,o43,o44,o741,o742,o743]
noncomputable def t743 (P:Params):BT:=mkT 12 (l743 P)
noncomputable def h46 (P:Params):Heap:=⟨⟨l47 P⟩,{}⟩
noncomputable def h744 (P:Params):Heap:=⟨⟨l743 P⟩,{}⟩
noncomputable def sts49:List Stmt:=((behindTheImports PW).drop 0).take 2
noncomputable def sts75:List Stmt:=((behindTheImports PW).drop 2).take 1
noncomputable def sts91:List Stmt:=((behindTheImports PW).drop 3).take 1
noncomputable def sts114:List Stmt:=((behindTheImports PW).drop 4).take 1
noncomputable def sts137:List Stmt:=((behindTheImports PW).drop 5).take 6
noncomputable def sts195:List Stmt:=((behindTheImports PW).drop 11).take 17
noncomputable def sts270:List Stmt:=((behindTheImports PW).drop 28).take 12
noncomputable def sts356:List Stmt:=((behindTheImports PW).drop 40).take 12
noncomputable def sts428:List Stmt:=((behindTheImports PW).drop 52).take 6
noncomputable def sts479:List Stmt:=((behindTheImports PW).drop 58).take 23
noncomputable def sts504:List Stmt:=((behindTheImports PW).drop 81).take 1
noncomputable def sts567:List Stmt:=((behindTheImports PW).drop 82).take 7
noncomputable def sts611:List Stmt:=((behindTheImports PW).drop 89).take 1
noncomputable def sts690:List Stmt:=((behindTheImports PW).drop 90).take 9
noncomputable def env:Env:=⟨PW.main.scope,mainNs,mainNs,[],Str.empty,none,(r 13),(some 14),0⟩
noncomputable def bdK (l:List Stmt):List Nat→List Stmt | []=>[] | k::r=>l.getD k default::bdK l r
noncomputable def view:Program:={ PW with main:={ PW.main with body:=bdK PW.main.body [1,2,3,4,5,6,7,8,9,10,11,12,14,15,16,18,19,20,21,23,24,25,26,27,28,29,30,31,32,33,34,35,36,37,38,39,40,41,42,44,45,46,47,48,49,50,51,52,54,56,57,58,59,60,61,62,63,64,65,66,67,68,69,70,71,72,73,74,75,76,77,78,79,80,81,82,83,85,86,87,88,89,90,91,92,94,95,96,97,98] } }
noncomputable def c0:Code:=.body (behindTheImports PW) env
noncomputable def KF (P:Params):Frag:=[(2,o49 P),(3,o690 P),(15,o52),(18,o55),(23,o60),(24,o61),(25,o62),(27,o64),(28,o43),(30,o67),(31,o68),(32,o69),(33,o70 P),(34,o71),(35,o72),(45,o43),(46,o85 P),(47,o86),(48,o87),(49,o88),(59,o43),(61,o102),(62,o43),(64,o105),(65,o106),(66,o107),(67,o108 P),(68,o109),(69,o110),(70,o111),(80,o43),(82,o125),(83,o43),(85,o128),(86,o129),(87,o130),(88,o131 P),(89,o132),(90,o133),(91,o134),(101,o43),(103,o148),(104,o43),(106,o151),(107,o152),(108,o153),(109,o154 P),(110,o155),(111,o156),(112,o157),(115,o43),(117,o162),(118,o43),(120,o165),(121,o166),(122,o43),(124,o169),(125,o43),(127,o172),(128,o173),(129,o43),(131,o176),(132,o43),(134,o179),(135,o180),(136,o43),(138,o183),(139,o43),(141,o186),(142,o187),(143,o43),(145,o190),(146,o43),(148,o193),(149,o194),(150,o43),(152,o199),(153,o43),(155,o202),(156,o203),(157,o43),(159,o206),(160,o43),(162,o209),(163,o210),(164,o211),(165,o212),(166,o213),(167,o43),(169,o216),(170,o43),(172,o219),(173,o220),(174,o43),(176,o223),(177,o43),(179,o226),(180,o227),(181,o43),(183,o230),(184,o43),(186,o233),(187,o234),(188,o43),(190,o237),(191,o43),(193,o240),(194,o241),(195,o43),(197,o244),(198,o43),(200,o247),(201,o248),(202,o43),(204,o251),(205,o43),(207,o254),(208,o255),(209,o43),(211,o258),(212,o43),(214,o261),(215,o262),(216,o43),(218,o265),(219,o43),(221,o268),(222,o269),(223,o43),(225,o274),(226,o43),(228,o277),(229,o278),(230,o43),(232,o281),(233,o43),(235,o284),(236,o285),(237,o43),(239,o288),(240,o43),(242,o291),(243,o292),(244,o43),(246,o295),(247,o43),(249,o298),(250,o299),(251,o43),(253,o302),(254,o43),(256,o305),(257,o306),(258,o43),(260,o309),(261,o43),(263,o312),(264,o313),(265,o43),(267,o316),(268,o43),(270,o319),(271,o320),(272,o43),(274,o323),(275,o43),(277,o326),(278,o327),(279,o43),(281,o330),(282,o43),(284,o333),(285,o334),(286,o43),(288,o337),(289,o43),(291,o340),(292,o341),(293,o43),(295,o344),(296,o43),(298,o347),(299,o348),(300,o43),(302,o351),(303,o43),(305,o354),(306,o355),(307,o43),(309,o360),(310,o43),(312,o363),(313,o364),(314,o43),(316,o367),(317,o43),(319,o370),(320,o371),(321,o43),(323,o374),(324,o43),(326,o377),(327,o378),(328,o43),(330,o381),(331,o43),(333,o384),(334,o385),(335,o43),(337,o388),(338,o43),(340,o391),(341,o392),(342,o43),(344,o395),(345,o43),(347,o398),(348,o399),(349,o43),(351,o402),(352,o43),(354,o405),(355,o406),(356,o43),(358,o409),(359,o43),(361,o412),(362,o413),(363,o43),(365,o416),(366,o43),(368,o419),(369,o420),(370,o43),(372,o423),(373,o43),(375,o426),(376,o427),(377,o43),(379,o432),(380,o43),(382,o435),(383,o436),(391,o43),(393,o446),(394,o43),(396,o449),(397,o450),(398,o43),(400,o453),(401,o43),(403,o456),(404,o457),(405,o43),(407,o460),(408,o43),(410,o463),(411,o464),(412,o43),(414,o467),(415,o43),(417,o470),(418,o471),(419,o472),(420,o473 P),(421,o474),(422,o475),(423,o476),(426,o481),(427,o482),(428,o43),(430,o485),(431,o43),(433,o488),(434,o489),(435,o43),(437,o492),(438,o43),(440,o495),(441,o496),(442,o43),(444,o499),(445,o43),(447,o502),(448,o503),(456,o43),(458,o515),(459,o43),(461,o518),(462,o519),(463,o43),(465,o522),(466,o43),(468,o525),(469,o526),(470,o43),(472,o529),(473,o43),(475,o532),(476,o533),(477,o43),(480,o537),(481,o538),(482,o43),(484,o541),(485,o43),(487,o544),(488,o545),(489,o43),(491,o548),(492,o43),(494,o551),(495,o552),(496,o43),(498,o555),(499,o43),(501,o558),(502,o559),(503,o560),(504,o561 P),(505,o562),(506,o563),(507,o564),(510,o43),(512,o571),(513,o43),(515,o574),(516,o575),(517,o43),(519,o578),(520,o43),(522,o581),(523,o582),(531,o43),(533,o592),(534,o43),(536,o595),(537,o596),(538,o43),(540,o599),(541,o43),(543,o602),(544,o603),(545,o604),(546,o605 P),(547,o606),(548,o607),(549,o608),(559,o43),(561,o622),(562,o43),(564,o625),(565,o626),(566,o43),(568,o629),(569,o43),(571,o632),(572,o633),(573,o43),(575,o636),(576,o43),(578,o639),(579,o640),(580,o43),(582,o643),(583,o43),(585,o646),(586,o647),(587,o43),(589,o650),(590,o43),(592,o653),(593,o654),(594,o43),(596,o657),(597,o43),(599,o660),(600,o661),(601,o43),(603,o664),(604,o43),(606,o667),(607,o668),(608,o43),(610,o671),(611,o43),(613,o674),(614,o675),(615,o43),(617,o678),(618,o43),(620,o681),(621,o682),(622,o683),(623,o684 P),(624,o685),(625,o686),(626,o687),(629,o43),(631,o694),(632,o43),(634,o697),(635,o698),(636,o43),(638,o701),(639,o43),(641,o704),(642,o705),(643,o43),(645,o708),(646,o43),(648,o711),(649,o712),(650,o43),(652,o715),(653,o43),(655,o718),(656,o719),(657,o43),(659,o722),(660,o43),(662,o725),(663,o726),(664,o43),(667,o730),(668,o731),(669,o43),(671,o734),(672,o43),(674,o737),(675,o738),(676,o43),(679,o742),(680,o743)]
noncomputable def KA:List Nat:=[2,3,15,18,23,24,25,27,28,30,31,32,33,34,35,45,46,47,48,49,59,61,62,64,65,66,67,68,69,70,80,82,83,85,86,87,88,89,90,91,101,103,104,106,107,108,109,110,111,112,115,117,118,120,121,122,124,125,127,128,129,131,132,134,135,136,138,139,141,142,143,145,146,148,149,150,152,153,155,156,157,159,160,162,163,164,165,166,167,169,170,172,173,174,176,177,179,180,181,183,184,186,187,188,190,191,193,194,195,197,198,200,201,202,204,205,207,208,209,211,212,214,215,216,218,219,221,222,223,225,226,228,229,230,232,233,235,236,237,239,240,242,243,244,246,247,249,250,251,253,254,256,257,258,260,261,263,264,265,267,268,270,271,272,274,275,277,278,279,281,282,284,285,286,288,289,291,292,293,295,296,298,299,300,302,303,305,306,307,309,310,312,313,314,316,317,319,320,321,323,324,326,327,328,330,331,333,334,335,337,338,340,341,342,344,345,347,348,349,351,352,354,355,356,358,359,361,362,363,365,366,368,369,370,372,373,375,376,377,379,380,382,383,391,393,394,396,397,398,400,401,403,404,405,407,408,410,411,412,414,415,417,418,419,420,421,422,423,426,427,428,430,431,433,434,435,437,438,440,441,442,444,445,447,448,456,458,459,461,462,463,465,466,468,469,470,472,473,475,476,477,480,481,482,484,485,487,488,489,491,492,494,495,496,498,499,501,502,503,504,505,506,507,510,512,513,515,516,517,519,520,522,523,531,533,534,536,537,538,540,541,543,544,545,546,547,548,549,559,561,562,564,565,566,568,569,571,572,573,575,576,578,579,580,582,583,585,586,587,589,590,592,593,594,596,597,599,600,601,603,604,606,607,608,610,611,613,614,615,617,618,620,621,622,623,624,625,626,629,631,632,634,635,636,638,639,641,642,643,645,646,648,649,650,652,653,655,656,657,659,660,662,663,664,667,668,669,671,672,674,675,676,679,680]
theorem kok:∀ P,KA=(KF P).map (·.1):=fun _=>by kernel_rfl
noncomputable abbrev H:Hook:=kHook KF KA kok
noncomputable abbrev q0:Pos:=⟨0,0,0,0⟩
noncomputable abbrev B0:List Frame:=[topFrame q0]
noncomputable abbrev an:Option Value:=some (.ref 6)
noncomputable def T (t:Params→BT) (n k:Nat) (w:World) (os:OsState):SharedT:=⟨t w.params,n,{},⟨[]⟩,{},k,os⟩
noncomputable def F1 (w:World) (os:OsState):Shared:=⟨h744 w.params,⟨[]⟩,{},1235,os⟩
noncomputable def loose:List Str:=[S "SnobolError",S "plain_count"]
noncomputable def Xt (s:Shared):Bool:=xlAt view [] s && recOk PySem.Challenge.rw_sa0605_03.row.records s
theorem segT_via {p w m0 ann one n s th r} (h:Fast.tw10110043849684766642 Fast.tw14364793385576792824 p w m0 ann one n s th=r):segRunT treeTable p w m0 ann one n s th=r:=by
  rw [Fast.te10110043849684766642,Fast.te14364793385576792824]; exact h
theorem p0 (w:World) (os:OsState):segRunT treeTable PW w 11 an 1 258 (T t47 15 187 w os) (piecesOf sts49 env c0 ⟨0,0,0,0⟩ B0)=some (.next,T t74 38 223 w os,c0,⟨2,0,7,24⟩):=segT_via (by kernel_rfl)
theorem p1 (w:World) (os:OsState):segRunT treeTable PW w 11 an 1 191 (T t74 38 223 w os) (piecesOf sts75 env c0 ⟨2,0,7,24⟩ B0)=some (.next,T t90 52 243 w os,c0,⟨8,0,9,8⟩):=segT_via (by kernel_rfl)
theorem p2 (w:World) (os:OsState):segRunT treeTable PW w 11 an 1 223 (T t90 52 243 w os) (piecesOf sts91 env c0 ⟨8,0,9,8⟩ B0)=some (.next,T t113 73 272 w os,c0,⟨10,0,13,24⟩):=segT_via (by kernel_rfl)
theorem p3 (w:World) (os:OsState):segRunT treeTable PW w 11 an 1 223 (T t113 73 272 w os) (piecesOf sts114 env c0 ⟨10,0,13,24⟩ B0)=some (.next,T t136 94 301 w os,c0,⟨14,0,17,24⟩):=segT_via (by kernel_rfl)
theorem p4 (w:World) (os:OsState):segRunT treeTable PW w 11 an 1 380 (T t136 94 301 w os) (piecesOf sts137 env c0 ⟨14,0,17,24⟩ B0)=some (.next,T t194 150 377 w os,c0,⟨47,0,50,74⟩):=segT_via (by kernel_rfl)
theorem p5 (w:World) (os:OsState):segRunT treeTable PW w 11 an 1 383 (T t194 150 377 w os) (piecesOf sts195 env c0 ⟨47,0,50,74⟩ B0)=some (.next,T t269 223 483 w os,c0,⟨104,0,105,38⟩):=segT_via (by kernel_rfl)
theorem p6 (w:World) (os:OsState):segRunT treeTable PW w 11 an 1 375 (T t269 223 483 w os) (piecesOf sts270 env c0 ⟨104,0,105,38⟩ B0)=some (.next,T t355 307 593 w os,c0,⟨144,0,149,16⟩):=segT_via (by kernel_rfl)
theorem p7 (w:World) (os:OsState):segRunT treeTable PW w 11 an 1 363 (T t355 307 593 w os) (piecesOf sts356 env c0 ⟨144,0,149,16⟩ B0)=some (.next,T t427 377 721 w os,c0,⟨243,0,250,28⟩):=segT_via (by kernel_rfl)
theorem p8 (w:World) (os:OsState):segRunT treeTable PW w 11 an 1 401 (T t427 377 721 w os) (piecesOf sts428 env c0 ⟨243,0,250,28⟩ B0)=some (.next,T t478 426 806 w os,c0,⟨296,0,296,4⟩):=segT_via (by kernel_rfl)
theorem p9 (w:World) (os:OsState):segRunT treeTable PW w 11 an 1 291 (T t478 426 806 w os) (piecesOf sts479 env c0 ⟨296,0,296,4⟩ B0)=some (.next,T t503 449 886 w os,c0,⟨328,0,337,16⟩):=segT_via (by kernel_rfl)
theorem p10 (w:World) (os:OsState):segRunT treeTable PW w 11 an 1 420 (T t503 449 886 w os) (piecesOf sts504 env c0 ⟨328,0,337,16⟩ B0)=some (.next,T t566 510 970 w os,c0,⟨338,0,398,58⟩):=segT_via (by kernel_rfl)
theorem p11 (w:World) (os:OsState):segRunT treeTable PW w 11 an 1 363 (T t566 510 970 w os) (piecesOf sts567 env c0 ⟨338,0,398,58⟩ B0)=some (.next,T t610 552 1043 w os,c0,⟨418,0,429,80⟩):=segT_via (by kernel_rfl)
theorem p12 (w:World) (os:OsState):segRunT treeTable PW w 11 an 1 501 (T t610 552 1043 w os) (piecesOf sts611 env c0 ⟨418,0,429,80⟩ B0)=some (.next,T t689 629 1158 w os,c0,⟨430,0,537,19⟩):=segT_via (by kernel_rfl)
theorem p13 (w:World) (os:OsState):segRunT treeTable PW w 11 an 1 257 (T t689 629 1158 w os) (piecesOf sts690 env c0 ⟨430,0,537,19⟩ B0)=some (.next,T t743 681 1235 w os,c0,⟨587,0,600,15⟩):=segT_via (by kernel_rfl)
theorem pre (w:World) (os:OsState):topGo treeTable PW w 11 an 12 ⟨boot_heap w.params,⟨[]⟩,boot_drawn,boot_toks,os⟩ (topStub PW)=some (⟨h46 w.params,⟨[]⟩,{},187,os⟩,⟨denote treeTable (.body (behindTheImports PW) env),c0,q0,B0⟩):=by
  rw [Fast.te15667345088766844465,Fast.te14364793385576792824,Fast.te11892475500146522536]; kernel_rfl
theorem blk (w:World) (os:OsState):segRun treeTable PW w 11 an 1 1 ⟨h46 w.params,⟨[]⟩,{},187,os⟩ (blockOf (behindTheImports PW) env c0 q0 B0)=some (.next,(T t47 15 187 w os).abs,c0,⟨0,0,0,0⟩):=by
  rw [Fast.te14374325043358763698,Fast.te14364793385576792824]; kernel_rfl
theorem fin (w:World) (os:OsState):topRun treeTable PW w 11 an 2 (T t743 681 1235 w os).abs ⟨doneF .next,c0,⟨587,0,600,15⟩,B0⟩=some (F1 w os):=by
  rw [Fast.te14082659384304107361,Fast.te14364793385576792824]; kernel_rfl
theorem stm:behindTheImports PW=sts49++(sts75++(sts91++(sts114++(sts137++(sts195++(sts270++(sts356++(sts428++(sts479++(sts504++(sts567++(sts611++(sts690++([])))))))))))))):=by kernel_rfl
theorem run (w:World) (os:OsState):topRun treeTable PW w 11 an (12+(1+(258+(191+(223+(223+(380+(383+(375+(363+(401+(291+(420+(363+(501+(257+(2))))))))))))))))) ⟨boot_heap w.params,⟨[]⟩,boot_drawn,boot_toks,os⟩ (topStub PW)=some (F1 w os) :=
  go_top (pre w os) (piece_block (blk w os) (by rw [stm]; exact piece_app (segRun_of (p0 w os)) (piece_app (segRun_of (p1 w os)) (piece_app (segRun_of (p2 w os)) (piece_app (segRun_of (p3 w os)) (piece_app (segRun_of (p4 w os)) (piece_app (segRun_of (p5 w os)) (piece_app (segRun_of (p6 w os)) (piece_app (segRun_of (p7 w os)) (piece_app (segRun_of (p8 w os)) (piece_app (segRun_of (p9 w os)) (piece_app (segRun_of (p10 w os)) (piece_app (segRun_of (p11 w os)) (piece_app (segRun_of (p12 w os)) (piece_app (segRun_of (p13 w os)) (fin w os))))))))))))))))
theorem e1:opening PW=plainProg PW.main.scope.names:=by kernel_rfl
theorem e2 (s:Shared):fenceModules? PW s=some s:=by kernel_rfl
theorem size (w:World):((boot_heap w.params).isNs mainGlobals && (⟨[]⟩:Array GenState).size == 0,(boot_heap w.params).objs.size,(boot_heap w.params).nsMap mainGlobals (S "__annotations__"))=(true,11,an):=by kernel_rfl
theorem l1 (w:World) (os:OsState):(staticsOk (importedModules PW.main.body) (boot_heap w.params) (h744 w.params) && namesBound PW (h744 w.params) && gensDone (F1 w os) && laidKept (boot_heap w.params) (h744 w.params))=true:=by kernel_rfl
theorem l2 (w:World) (os:OsState):seen ((recsOf view).map (·.name)) (ownsOf view) [] { F1 w os with gens:=#[] } = expectedOf view:=by rw [Fast.te5160383126252970620]; kernel_rfl
theorem l3 (w:World) (os:OsState):(F1 w os).heap.bltView=bltViewBooted:=by kernel_rfl
theorem l4 (w:World) (os:OsState):((F1 w os).heap.keysOk (looseW view loose) ((recsOf view).map (·.name)) ((litsOf view).map (·.1)) ((clssOf view (looseW view loose)).map (·.name)) && (F1 w os).heap.accountedOkI (importedModules PW.main.body) && (F1 w os).heap.isNs mainGlobals && (F1 w os).heap.isNs builtinsNs && tablesOk view (F1 w os).heap && Xt (F1 w os) && (if true then(F1 w os).gens.size == 0 else !leftWithCleanup (F1 w os).gens))=true:=by kernel_rfl
theorem l5 (w:World) (os:OsState):tabsOk view (F1 w os)=true:=by rw [Fast.te479339242167458305]; kernel_rfl
theorem l6 (w:World) (os:OsState):pinSeenD view (drecsOf view) (F1 w os)=pinGoodD (drecsOf view):=by kernel_rfl
theorem l7 (w:World) (os:OsState):plainSeenE view (looseW view loose) (F1 w os)=plainGoodE view (looseW view loose):=by rw [Fast.te2386780881361962483]; kernel_rfl
theorem l8 (w:World) (os:OsState):plainSeenD view loose (F1 w os)=plainGoodD view loose:=by kernel_rfl
theorem l9 (w:World) (os:OsState):wideSeen view (F1 w os)=wideGood view:=by rw [Fast.te7317090234206586261]; kernel_rfl
theorem l10 (w:World) (os:OsState):clsSeenW view loose (F1 w os)=clsGoodW view loose:=by kernel_rfl
theorem l11 (w:World) (os:OsState):H.obs (F1 w os)=H.val w:=by kernel_rfl
theorem hl:LeftO PW view loose Xt H.obs H.val 9356 true :=
  LeftO.of_pieces (H₀:=boot_heap) (H₁:=h744) (gs₀:=⟨[]⟩) (gs₁:=⟨[]⟩) (d₀:=boot_drawn) (d₁:={}) (k₀:=boot_toks) (k₁:=1235) (m₀:=11) (ann:=an) (M:=12+(1+(258+(191+(223+(223+(380+(383+(375+(363+(401+(291+(420+(363+(501+(257+(2))))))))))))))))) (boot_open e1 (by decide) e2) size run (by decide)
    fun w=>funext fun os=>looks_pair (l1 w os) (looks_pair (looks_pair (l2 w os) (looks_pair (l3 w os) (looks_pair (l4 w os) (looks_pair (l5 w os) (looks_pair (l6 w os) (looks_pair (l7 w os) (looks_pair (l8 w os) (looks_pair (l9 w os) (l10 w os))))))))) (l11 w os))
theorem well:PySem.Challenge.rw_sa0605_03.wellSaid=true:=by kernel_rfl
theorem dsome:(defOf view PySem.Challenge.rw_sa0605_03.row.name).isSome=true:=by kernel_rfl
noncomputable def dk:DefRec×List (Str×Expr):=(defOf view PySem.Challenge.rw_sa0605_03.row.name).get dsome
set_option maxHeartbeats 8000000 in
theorem top (hc:WalkO view loose (PySem.W.XL view []) H.says PySem.Challenge.rw_sa0605_03.row.toRowW dk.1 dk.2 fun f vs=>PySem.call f vs):PySem.Challenge.rw_sa0605_03.Holds:=by
  refine holds_law well fun said=>?_
  refine PySem.W.holds_open (q:=view) (loose:=loose) (Xt:=Xt) (XP:=PySem.W.XL view []) (Yf:=H.obs) (Ya:=H.val) (YP:=H.says) (d:=dk.1) (kwd:=dk.2) hl H.of H.keeps (fun s e=>xl_of s (Bool.and_eq_true_iff.mp e).1) PySem.W.XL.keeps (Option.some_get dsome).symm (by kernel_rfl) (by kernel_rfl) (fun s e=>recFacts_of (Bool.and_eq_true_iff.mp e).2) (by rfl) said (by decide +kernel) ⟨rfl,rfl,rfl,rfl,rfl,by decide +kernel⟩ ?hw hc
  case hw=>w_witness2
end HD
end Mine
namespace Mine
namespace L3
noncomputable def ca:List Nat:=[505,110,547,624,421,47,68,89,34]
noncomputable def GG (x:Str):Option GV:=Mine.lookG x gl
set_option maxRecDepth 100000 in
theorem ok1 (P:Params):surOk (HD.KF P) fa ca gl pg.cls=true:=by kernel_rfl
set_option maxRecDepth 100000 in
theorem ok2 (P:Params):chkFns GG (HD.KF P) fns fa=true:=by kernel_rfl
set_option maxRecDepth 100000 in
theorem lawAt (P:Params):nsIn (HD.KF P) mainGlobals (Str.ofString "law")=some (some (.ref 680)):=by kernel_rfl
end L3
end Mine
set_option maxRecDepth 100000 in
set_option maxHeartbeats 8000000 in
theorem PySem.Challenge.cw_sa0605_03_holds : PySem.Challenge.rw_sa0605_03.Holds := by
  refine Mine.HD.top ?_
  intro w s₀ s₁ mg mb G Y fa o pm cd doc dV kV ho hd hcd hD hmg hg args vals as hpre hlay hrd hwl hlo
  have KX:=kIn_of Y
  refine Ground.open G ?_
  intro T B D TE TW
  wrow_args hpre hlay hrd hwl hlo
  rename_i ns _ _ _ _ _ _ _ p ws _ hL _ _ _ hI _ hlen _
  have hfa:fa=680:=by
    have h1:=mg_of KX T.g (Mine.L3.lawAt w.params)
    have h2:mg (Str.ofString "law")=some (.ref fa):=hmg
    rw [h1] at h2
    cases h2
    rfl
  have hn:ns.length≤63:=by omega
  obtain⟨H',hc⟩:=Mine.Q.L3.law_ok hn
  clear hd hcd hD Y hmg ho
  subst hfa
  let S:Mine.Sur:=⟨PySem.Challenge.rw_sa0605_03.row.prog,w,Mine.L3.pg,Mine.HD.KF w.params,Mine.L3.fa,Mine.L3.ca,Mine.L3.GG,Mine.T0of (Mine.HD.KF w.params) p ws,s₁.heap⟩
  have C:Mine.Cx S:=Mine.cx_of (gl:=Mine.L3.gl) (p:=p) (ws:=ws) (fun _=>rfl) rfl KX T.nolimit T.g T.b T.builtins (Mine.L3.ok1 w.params) (Mine.L3.ok2 w.params)
  refine Mine.entry (S:=S) C (p:=p) (ws:=ws) (ns:=ns) (k:=76) (d:=100) (a:=680) rfl rfl hL hI (Nat.le_trans hn (by decide)) ⟨rfl,by decide +kernel,by decide +kernel⟩ rfl hc fun h' tk kp=>?_
  have hpost:PySem.Challenge.rw_sa0605_03.row.claim.post [ofPy (PyData.list (List.map PyData.int ns))] (WData.bool true) [ofPy (PyData.list (List.map PyData.int ns))] = true:=by
    first | rfl | wrow_post
  exact⟨.inl ⟨_,_,[],rfl,fun _=>rfl,ReadsW.bool true,hpost,fun _=>⟨List.nodup_nil,fun _ hm=>(nomatch hm)⟩⟩,.of_keep kp,rfl,by rw [hg]; exact AllBare.empty⟩
